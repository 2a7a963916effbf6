import PyProof.Rows.All
import Wide.All
import OpenK.AllK
import Wide.FinOn
import PyProof.ExcBaseAll.Exception
import PySem.Challenge.RW_xm0009_01
set_option Elab.async false
set_option autoImplicit false
set_option maxRecDepth 1000000
set_option maxHeartbeats 8000000
set_option tactic.hygienic false
set_option linter.all false
set_option genSizeOf false
set_option genInjectivity false
noncomputable section
namespace Mine.Internal
abbrev dN:= @congrArg
abbrev gp:= @Nat.le_trans
abbrev qb:= @Nat.min_eq_left
abbrev qd:= @List.nil_append
abbrev rn:= @List.size_toArray
abbrev cP:=PySem.Expr
abbrev dI:= @List.length_append
abbrev cQ:= @PySem.wpAny_bind
abbrev d6:= @List.append_assoc
abbrev fq:= @Nat.le_of_ble_eq_true
abbrev dJ:= @List.not_mem_nil
abbrev j8:= @Prod.mk.injEq
abbrev fH:= @List.getElem?_append_left
abbrev dc:= @PySem.wpAny_pure
abbrev cH:= @if_pos
abbrev fc:= @PySem.Heap.get?_push_of_some
abbrev ej:= @Bool.and_eq_true
abbrev dj:= @List.mem_cons
abbrev nM:= @Option.some.injEq
abbrev eD:= @List.length_cons
abbrev cJ:= @if_neg
abbrev eE:= @decide_eq_true
abbrev gu:= @List.mem_of_getElem?
abbrev ft:= @decide_eq_false
abbrev gO:= @beq_eq_false_iff_ne
abbrev gP:= @PySem.Heap.get?_push_size
abbrev f6:= @List.length_map
abbrev hO:= @List.prefix_refl
abbrev dK:= @or_false
abbrev gQ:= @Option.bind_some
abbrev gD:= @List.append_nil
abbrev jf:= @Bool.false_eq_true
abbrev hP:= @List.all_cons
abbrev nN:= @List.getElem?_append_right
abbrev kG:= @Array.length_toList
abbrev fu:= @List.all_eq_true
abbrev nO:= @List.getElem?_eq_getElem
abbrev iN:= @PySem.wpAny_standAt
abbrev jg:= @List.map_cons
abbrev ip:= @Nat.le_refl
abbrev j9:= @Bool.or_eq_true
abbrev iq:= @Nat.zero_le
abbrev kb:= @PySem.wpAny_holding
abbrev mh:= @List.length_drop
abbrev mj:= @List.cons_append
abbrev o6:= @List.getElem?_set_ne
abbrev nQ:= @PySem.wpAny_truthy_bool
abbrev nS:= @PySem.wpAny_Call_ofName
abbrev qE:= @List.getElem?_set_self
abbrev qF:= @PySem.Heap.get?_update_other
abbrev kc:= @beq_iff_eq
abbrev nU:= @PySem.wpAny_execs_cons
abbrev nV:= @Array.any_toList
abbrev kH:= @PySem.Heap.lt_size
abbrev lF:= @List.any_cons
abbrev sQ:= @Classical.byContradiction
abbrev dL:= @Option.bind_eq_some_iff
abbrev ek:= @List.getElem?_eq_some_iff
abbrev fe:= @Option.map_eq_some_iff
abbrev ff:= @List.mem_singleton
abbrev gE:= @List.nodup_cons
abbrev eF:= @List.mem_append
local macro_rules | `(tactic|rfl')=>`(tactic|kernel_rfl)
local macro_rules | `(tactic|symm at $h:ident)=>`(tactic|set_option tactic.hygienic true in split at $h:ident)
open PySem PySem.W
section
set_option tactic.hygienic true
universe u v
universe u0 u1 u2 u3 u4 u5 u6 u7 u8 u9 u10 u11 u12 u13
theorem eC{α:Type u}{a:α}{C:Prop}(h:none=some a):C:=nomatch h
theorem yr{α:Type u}{a:α}{C:Prop}(h:some a=none):C:=nomatch h
theorem Yk{C:Prop}(h:true=false):C:=nomatch h
theorem mY{C:Prop}(h:false=true):C:=nomatch h
theorem si{α:Type u}{a b:α}(h:some a=some b):a=b:=Option.some.inj h
theorem sj{α:Type u}{a b:α}(h:some a=some b):b=a:=(Option.some.inj h).symm
theorem p0{α:Type u}{β:Type v}{a c:α}{b d:β}{C:Prop}(h:(a,b)=(c,d))(k:a=c->b=d->C):C:=k (Prod.mk.inj h).1 (Prod.mk.inj h).2
theorem p1{α:Type u}{β:Type v}{a c:α}{b d:β}{C:Prop}(h:(a,b)=(c,d))(k:a=c->d=b->C):C:=k (Prod.mk.inj h).1 (Prod.mk.inj h).2.symm
theorem p2{α:Type u}{β:Type v}{a c:α}{b d:β}{C:Prop}(h:(a,b)=(c,d))(k:c=a->b=d->C):C:=k (Prod.mk.inj h).1.symm (Prod.mk.inj h).2
theorem p3{α:Type u}{β:Type v}{a c:α}{b d:β}{C:Prop}(h:(a,b)=(c,d))(k:c=a->d=b->C):C:=k (Prod.mk.inj h).1.symm (Prod.mk.inj h).2.symm
theorem Pf{α:Type u}{β:Type v}{a c:α}{b d:β}{C:Prop}(h:some (a,b)=some (c,d))(k:a=c->b=d->C):C:=p0 (si h) k
theorem Pg{α:Type u}{β:Type v}{a c:α}{b d:β}{C:Prop}(h:some (a,b)=some (c,d))(k:a=c->d=b->C):C:=p1 (si h) k
theorem sp2{α:Type u}{β:Type v}{a c:α}{b d:β}{C:Prop}(h:some (a,b)=some (c,d))(k:c=a->b=d->C):C:=p2 (si h) k
theorem ZI{α:Type u}{β:Type v}{a c:α}{b d:β}{C:Prop}(h:some (a,b)=some (c,d))(k:c=a->d=b->C):C:=p3 (si h) k
theorem oA{P0:Prop}{P1:Prop}{C:Prop}(h:P0/\P1)(k:P0->P1->C):C:=k h.1 h.2
theorem wB{P0:Prop}{P1:Prop}{P2:Prop}{C:Prop}(h:P0/\P1/\P2)(k:P0->P1->P2->C):C:=k h.1 h.2.1 h.2.2
theorem S4{P0:Prop}{P1:Prop}{P2:Prop}{P3:Prop}{C:Prop}(h:P0/\P1/\P2/\P3)(k:P0->P1->P2->P3->C):C:=k h.1 h.2.1 h.2.2.1 h.2.2.2
theorem Vx{P0:Prop}{P1:Prop}{P2:Prop}{P3:Prop}{P4:Prop}{C:Prop}(h:P0/\P1/\P2/\P3/\P4)(k:P0->P1->P2->P3->P4->C):C:=k h.1 h.2.1 h.2.2.1 h.2.2.2.1 h.2.2.2.2
theorem LO{P0:Prop}{P1:Prop}{P2:Prop}{P3:Prop}{P4:Prop}{P5:Prop}{C:Prop}(h:P0/\P1/\P2/\P3/\P4/\P5)(k:P0->P1->P2->P3->P4->P5->C):C:=k h.1 h.2.1 h.2.2.1 h.2.2.2.1 h.2.2.2.2.1 h.2.2.2.2.2
theorem wD{α2:Sort u2}{α3:Sort u3}{α4:Sort u4}{P0:Prop}{P1:Prop}{P5:α2->α3->α4->Prop}{P6:α2->α3->α4->Prop}{P7:α2->α3->α4->Prop}{P8:α2->α3->α4->Prop}{C:Prop}(h:P0/\P1/\∃x2:α2,∃x3:α3,∃x4:α4,P5 x2 x3 x4/\P6 x2 x3 x4/\P7 x2 x3 x4/\P8 x2 x3 x4)(k:P0->P1->∀x2,∀x3,∀x4,P5 x2 x3 x4->P6 x2 x3 x4->P7 x2 x3 x4->P8 x2 x3 x4->C):C:=h.2.2.elim λx2 h2=>h2.elim λx3 h3=>h3.elim λx4 h4=>k h.1 h.2.1 x2 x3 x4 h4.1 h4.2.1 h4.2.2.1 h4.2.2.2
theorem vv{α1:Sort u1}{P0:Prop}{P2:α1->Prop}{P3:α1->Prop}{C:Prop}(h:P0/\∃x1:α1,P2 x1/\P3 x1)(k:P0->∀x1,P2 x1->P3 x1->C):C:=h.2.elim λx1 h1=>k h.1 x1 h1.1 h1.2
theorem o7{α1:Sort u1}{α3:Sort u3}{α4:Sort u4}{P0:Prop}{P2:α1->Prop}{P5:α1->α3->α4->Prop}{C:Prop}(h:P0/\∃x1:α1,P2 x1/\∃x3:α3,∃x4:α4,P5 x1 x3 x4)(k:P0->∀x1,P2 x1->∀x3,∀x4,P5 x1 x3 x4->C):C:=h.2.elim λx1 h1=>h1.2.elim λx3 h3=>h3.elim λx4 h4=>k h.1 x1 h1.1 x3 x4 h4
theorem J9{α1:Sort u1}{α2:Sort u2}{α3:Sort u3}{P0:Prop}{P4:α1->α2->α3->Prop}{P5:α1->α2->α3->Prop}{P6:α1->α2->α3->Prop}{P7:α1->α2->α3->Prop}{P8:α1->α2->α3->Prop}{C:Prop}(h:P0/\∃x1:α1,∃x2:α2,∃x3:α3,P4 x1 x2 x3/\P5 x1 x2 x3/\P6 x1 x2 x3/\P7 x1 x2 x3/\P8 x1 x2 x3)(k:P0->∀x1,∀x2,∀x3,P4 x1 x2 x3->P5 x1 x2 x3->P6 x1 x2 x3->P7 x1 x2 x3->P8 x1 x2 x3->C):C:=h.2.elim λx1 h1=>h1.elim λx2 h2=>h2.elim λx3 h3=>k h.1 x1 x2 x3 h3.1 h3.2.1 h3.2.2.1 h3.2.2.2.1 h3.2.2.2.2
theorem GY{α1:Sort u1}{α2:Sort u2}{α3:Sort u3}{α4:Sort u4}{α5:Sort u5}{α6:Sort u6}{P0:Prop}{P7:α1->α2->α3->α4->α5->α6->Prop}{P8:α1->α2->α3->α4->α5->α6->Prop}{P9:α1->α2->α3->α4->α5->α6->Prop}{C:Prop}(h:P0/\∃x1:α1,∃x2:α2,∃x3:α3,∃x4:α4,∃x5:α5,∃x6:α6,P7 x1 x2 x3 x4 x5 x6/\P8 x1 x2 x3 x4 x5 x6/\P9 x1 x2 x3 x4 x5 x6)(k:P0->∀x1,∀x2,∀x3,∀x4,∀x5,∀x6,P7 x1 x2 x3 x4 x5 x6->P8 x1 x2 x3 x4 x5 x6->P9 x1 x2 x3 x4 x5 x6->C):C:=h.2.elim λx1 h1=>h1.elim λx2 h2=>h2.elim λx3 h3=>h3.elim λx4 h4=>h4.elim λx5 h5=>h5.elim λx6 h6=>k h.1 x1 x2 x3 x4 x5 x6 h6.1 h6.2.1 h6.2.2
theorem ls{α1:Sort u1}{α2:Sort u2}{α3:Sort u3}{α4:Sort u4}{α5:Sort u5}{α6:Sort u6}{P0:Prop}{P7:α1->α2->α3->α4->α5->α6->Prop}{P8:α1->α2->α3->α4->α5->α6->Prop}{P9:α1->α2->α3->α4->α5->α6->Prop}{P10:α1->α2->α3->α4->α5->α6->Prop}{P11:α1->α2->α3->α4->α5->α6->Prop}{P12:α1->α2->α3->α4->α5->α6->Prop}{P13:α1->α2->α3->α4->α5->α6->Prop}{P14:α1->α2->α3->α4->α5->α6->Prop}{P15:α1->α2->α3->α4->α5->α6->Prop}{C:Prop}(h:P0/\∃x1:α1,∃x2:α2,∃x3:α3,∃x4:α4,∃x5:α5,∃x6:α6,P7 x1 x2 x3 x4 x5 x6/\P8 x1 x2 x3 x4 x5 x6/\P9 x1 x2 x3 x4 x5 x6/\P10 x1 x2 x3 x4 x5 x6/\P11 x1 x2 x3 x4 x5 x6/\P12 x1 x2 x3 x4 x5 x6/\P13 x1 x2 x3 x4 x5 x6/\P14 x1 x2 x3 x4 x5 x6/\P15 x1 x2 x3 x4 x5 x6)(k:P0->∀x1,∀x2,∀x3,∀x4,∀x5,∀x6,P7 x1 x2 x3 x4 x5 x6->P8 x1 x2 x3 x4 x5 x6->P9 x1 x2 x3 x4 x5 x6->P10 x1 x2 x3 x4 x5 x6->P11 x1 x2 x3 x4 x5 x6->P12 x1 x2 x3 x4 x5 x6->P13 x1 x2 x3 x4 x5 x6->P14 x1 x2 x3 x4 x5 x6->P15 x1 x2 x3 x4 x5 x6->C):C:=h.2.elim λx1 h1=>h1.elim λx2 h2=>h2.elim λx3 h3=>h3.elim λx4 h4=>h4.elim λx5 h5=>h5.elim λx6 h6=>k h.1 x1 x2 x3 x4 x5 x6 h6.1 h6.2.1 h6.2.2.1 h6.2.2.2.1 h6.2.2.2.2.1 h6.2.2.2.2.2.1 h6.2.2.2.2.2.2.1 h6.2.2.2.2.2.2.2.1 h6.2.2.2.2.2.2.2.2
theorem oE{α0:Sort u0}{P1:α0->Prop}{C:Prop}(h:∃x0:α0,P1 x0)(k:∀x0,P1 x0->C):C:=h.elim λx0 h0=>k x0 h0
theorem eN{α0:Sort u0}{P1:α0->Prop}{P2:α0->Prop}{C:Prop}(h:∃x0:α0,P1 x0/\P2 x0)(k:∀x0,P1 x0->P2 x0->C):C:=h.elim λx0 h0=>k x0 h0.1 h0.2
theorem ot{α0:Sort u0}{P1:α0->Prop}{P2:α0->Prop}{P3:α0->Prop}{C:Prop}(h:∃x0:α0,P1 x0/\P2 x0/\P3 x0)(k:∀x0,P1 x0->P2 x0->P3 x0->C):C:=h.elim λx0 h0=>k x0 h0.1 h0.2.1 h0.2.2
theorem Rr{α0:Sort u0}{α3:Sort u3}{P1:α0->Prop}{P2:α0->Prop}{P4:α0->α3->Prop}{C:Prop}(h:∃x0:α0,P1 x0/\P2 x0/\∃x3:α3,P4 x0 x3)(k:∀x0,P1 x0->P2 x0->∀x3,P4 x0 x3->C):C:=h.elim λx0 h0=>h0.2.2.elim λx3 h3=>k x0 h0.1 h0.2.1 x3 h3
theorem Ka{α0:Sort u0}{α1:Sort u1}{P2:α0->α1->Prop}{C:Prop}(h:∃x0:α0,∃x1:α1,P2 x0 x1)(k:∀x0,∀x1,P2 x0 x1->C):C:=h.elim λx0 h0=>h0.elim λx1 h1=>k x0 x1 h1
theorem mZ{α0:Sort u0}{α1:Sort u1}{P2:α0->α1->Prop}{P3:α0->α1->Prop}{C:Prop}(h:∃x0:α0,∃x1:α1,P2 x0 x1/\P3 x0 x1)(k:∀x0,∀x1,P2 x0 x1->P3 x0 x1->C):C:=h.elim λx0 h0=>h0.elim λx1 h1=>k x0 x1 h1.1 h1.2
theorem iJ{α0:Sort u0}{α1:Sort u1}{P2:α0->α1->Prop}{P3:α0->α1->Prop}{P4:α0->α1->Prop}{C:Prop}(h:∃x0:α0,∃x1:α1,P2 x0 x1/\P3 x0 x1/\P4 x0 x1)(k:∀x0,∀x1,P2 x0 x1->P3 x0 x1->P4 x0 x1->C):C:=h.elim λx0 h0=>h0.elim λx1 h1=>k x0 x1 h1.1 h1.2.1 h1.2.2
theorem uL{α0:Sort u0}{α1:Sort u1}{P2:α0->α1->Prop}{P3:α0->α1->Prop}{P4:α0->α1->Prop}{P5:α0->α1->Prop}{C:Prop}(h:∃x0:α0,∃x1:α1,P2 x0 x1/\P3 x0 x1/\P4 x0 x1/\P5 x0 x1)(k:∀x0,∀x1,P2 x0 x1->P3 x0 x1->P4 x0 x1->P5 x0 x1->C):C:=h.elim λx0 h0=>h0.elim λx1 h1=>k x0 x1 h1.1 h1.2.1 h1.2.2.1 h1.2.2.2
theorem IO{α0:Sort u0}{α1:Sort u1}{P2:α0->α1->Prop}{P3:α0->α1->Prop}{P4:α0->α1->Prop}{P5:α0->α1->Prop}{P6:α0->α1->Prop}{C:Prop}(h:∃x0:α0,∃x1:α1,P2 x0 x1/\P3 x0 x1/\P4 x0 x1/\P5 x0 x1/\P6 x0 x1)(k:∀x0,∀x1,P2 x0 x1->P3 x0 x1->P4 x0 x1->P5 x0 x1->P6 x0 x1->C):C:=h.elim λx0 h0=>h0.elim λx1 h1=>k x0 x1 h1.1 h1.2.1 h1.2.2.1 h1.2.2.2.1 h1.2.2.2.2
theorem vw{α0:Sort u0}{α1:Sort u1}{P2:α0->α1->Prop}{P3:α0->α1->Prop}{P4:α0->α1->Prop}{P5:α0->α1->Prop}{P6:α0->α1->Prop}{P7:α0->α1->Prop}{P8:α0->α1->Prop}{P9:α0->α1->Prop}{P10:α0->α1->Prop}{P11:α0->α1->Prop}{C:Prop}(h:∃x0:α0,∃x1:α1,P2 x0 x1/\P3 x0 x1/\P4 x0 x1/\P5 x0 x1/\P6 x0 x1/\P7 x0 x1/\P8 x0 x1/\P9 x0 x1/\P10 x0 x1/\P11 x0 x1)(k:∀x0,∀x1,P2 x0 x1->P3 x0 x1->P4 x0 x1->P5 x0 x1->P6 x0 x1->P7 x0 x1->P8 x0 x1->P9 x0 x1->P10 x0 x1->P11 x0 x1->C):C:=h.elim λx0 h0=>h0.elim λx1 h1=>k x0 x1 h1.1 h1.2.1 h1.2.2.1 h1.2.2.2.1 h1.2.2.2.2.1 h1.2.2.2.2.2.1 h1.2.2.2.2.2.2.1 h1.2.2.2.2.2.2.2.1 h1.2.2.2.2.2.2.2.2.1 h1.2.2.2.2.2.2.2.2.2
theorem Yl{α0:Sort u0}{α1:Sort u1}{α2:Sort u2}{P3:α0->α1->α2->Prop}{C:Prop}(h:∃x0:α0,∃x1:α1,∃x2:α2,P3 x0 x1 x2)(k:∀x0,∀x1,∀x2,P3 x0 x1 x2->C):C:=h.elim λx0 h0=>h0.elim λx1 h1=>h1.elim λx2 h2=>k x0 x1 x2 h2
theorem o8{α0:Sort u0}{α1:Sort u1}{α2:Sort u2}{P3:α0->α1->α2->Prop}{P4:α0->α1->α2->Prop}{C:Prop}(h:∃x0:α0,∃x1:α1,∃x2:α2,P3 x0 x1 x2/\P4 x0 x1 x2)(k:∀x0,∀x1,∀x2,P3 x0 x1 x2->P4 x0 x1 x2->C):C:=h.elim λx0 h0=>h0.elim λx1 h1=>h1.elim λx2 h2=>k x0 x1 x2 h2.1 h2.2
theorem iO{α0:Sort u0}{α1:Sort u1}{α2:Sort u2}{P3:α0->α1->α2->Prop}{P4:α0->α1->α2->Prop}{P5:α0->α1->α2->Prop}{C:Prop}(h:∃x0:α0,∃x1:α1,∃x2:α2,P3 x0 x1 x2/\P4 x0 x1 x2/\P5 x0 x1 x2)(k:∀x0,∀x1,∀x2,P3 x0 x1 x2->P4 x0 x1 x2->P5 x0 x1 x2->C):C:=h.elim λx0 h0=>h0.elim λx1 h1=>h1.elim λx2 h2=>k x0 x1 x2 h2.1 h2.2.1 h2.2.2
theorem ED{α0:Sort u0}{α1:Sort u1}{α2:Sort u2}{P3:α0->α1->α2->Prop}{P4:α0->α1->α2->Prop}{P5:α0->α1->α2->Prop}{P6:α0->α1->α2->Prop}{P7:α0->α1->α2->Prop}{C:Prop}(h:∃x0:α0,∃x1:α1,∃x2:α2,P3 x0 x1 x2/\P4 x0 x1 x2/\P5 x0 x1 x2/\P6 x0 x1 x2/\P7 x0 x1 x2)(k:∀x0,∀x1,∀x2,P3 x0 x1 x2->P4 x0 x1 x2->P5 x0 x1 x2->P6 x0 x1 x2->P7 x0 x1 x2->C):C:=h.elim λx0 h0=>h0.elim λx1 h1=>h1.elim λx2 h2=>k x0 x1 x2 h2.1 h2.2.1 h2.2.2.1 h2.2.2.2.1 h2.2.2.2.2
theorem GZ{α0:Sort u0}{α1:Sort u1}{α2:Sort u2}{P3:α0->α1->α2->Prop}{P4:α0->α1->α2->Prop}{P5:α0->α1->α2->Prop}{P6:α0->α1->α2->Prop}{P7:α0->α1->α2->Prop}{P8:α0->α1->α2->Prop}{P9:α0->α1->α2->Prop}{C:Prop}(h:∃x0:α0,∃x1:α1,∃x2:α2,P3 x0 x1 x2/\P4 x0 x1 x2/\P5 x0 x1 x2/\P6 x0 x1 x2/\P7 x0 x1 x2/\P8 x0 x1 x2/\P9 x0 x1 x2)(k:∀x0,∀x1,∀x2,P3 x0 x1 x2->P4 x0 x1 x2->P5 x0 x1 x2->P6 x0 x1 x2->P7 x0 x1 x2->P8 x0 x1 x2->P9 x0 x1 x2->C):C:=h.elim λx0 h0=>h0.elim λx1 h1=>h1.elim λx2 h2=>k x0 x1 x2 h2.1 h2.2.1 h2.2.2.1 h2.2.2.2.1 h2.2.2.2.2.1 h2.2.2.2.2.2.1 h2.2.2.2.2.2.2
theorem yG{α0:Sort u0}{α1:Sort u1}{α2:Sort u2}{α3:Sort u3}{P4:α0->α1->α2->α3->Prop}{P5:α0->α1->α2->α3->Prop}{P6:α0->α1->α2->α3->Prop}{P7:α0->α1->α2->α3->Prop}{P8:α0->α1->α2->α3->Prop}{P9:α0->α1->α2->α3->Prop}{C:Prop}(h:∃x0:α0,∃x1:α1,∃x2:α2,∃x3:α3,P4 x0 x1 x2 x3/\P5 x0 x1 x2 x3/\P6 x0 x1 x2 x3/\P7 x0 x1 x2 x3/\P8 x0 x1 x2 x3/\P9 x0 x1 x2 x3)(k:∀x0,∀x1,∀x2,∀x3,P4 x0 x1 x2 x3->P5 x0 x1 x2 x3->P6 x0 x1 x2 x3->P7 x0 x1 x2 x3->P8 x0 x1 x2 x3->P9 x0 x1 x2 x3->C):C:=h.elim λx0 h0=>h0.elim λx1 h1=>h1.elim λx2 h2=>h2.elim λx3 h3=>k x0 x1 x2 x3 h3.1 h3.2.1 h3.2.2.1 h3.2.2.2.1 h3.2.2.2.2.1 h3.2.2.2.2.2
theorem sR{α0:Sort u0}{α1:Sort u1}{α2:Sort u2}{α3:Sort u3}{α4:Sort u4}{P5:α0->α1->α2->α3->α4->Prop}{P6:α0->α1->α2->α3->α4->Prop}{P7:α0->α1->α2->α3->α4->Prop}{P8:α0->α1->α2->α3->α4->Prop}{P9:α0->α1->α2->α3->α4->Prop}{P10:α0->α1->α2->α3->α4->Prop}{P11:α0->α1->α2->α3->α4->Prop}{P12:α0->α1->α2->α3->α4->Prop}{P13:α0->α1->α2->α3->α4->Prop}{C:Prop}(h:∃x0:α0,∃x1:α1,∃x2:α2,∃x3:α3,∃x4:α4,P5 x0 x1 x2 x3 x4/\P6 x0 x1 x2 x3 x4/\P7 x0 x1 x2 x3 x4/\P8 x0 x1 x2 x3 x4/\P9 x0 x1 x2 x3 x4/\P10 x0 x1 x2 x3 x4/\P11 x0 x1 x2 x3 x4/\P12 x0 x1 x2 x3 x4/\P13 x0 x1 x2 x3 x4)(k:∀x0,∀x1,∀x2,∀x3,∀x4,P5 x0 x1 x2 x3 x4->P6 x0 x1 x2 x3 x4->P7 x0 x1 x2 x3 x4->P8 x0 x1 x2 x3 x4->P9 x0 x1 x2 x3 x4->P10 x0 x1 x2 x3 x4->P11 x0 x1 x2 x3 x4->P12 x0 x1 x2 x3 x4->P13 x0 x1 x2 x3 x4->C):C:=h.elim λx0 h0=>h0.elim λx1 h1=>h1.elim λx2 h2=>h2.elim λx3 h3=>h3.elim λx4 h4=>k x0 x1 x2 x3 x4 h4.1 h4.2.1 h4.2.2.1 h4.2.2.2.1 h4.2.2.2.2.1 h4.2.2.2.2.2.1 h4.2.2.2.2.2.2.1 h4.2.2.2.2.2.2.2.1 h4.2.2.2.2.2.2.2.2
theorem Ct{α0:Sort u0}{α1:Sort u1}{α2:Sort u2}{α3:Sort u3}{α4:Sort u4}{α5:Sort u5}{α6:Sort u6}{α7:Sort u7}{α8:Sort u8}{α9:Sort u9}{P10:α0->α1->α2->α3->α4->α5->α6->α7->α8->α9->Prop}{P11:α0->α1->α2->α3->α4->α5->α6->α7->α8->α9->Prop}{C:Prop}(h:∃x0:α0,∃x1:α1,∃x2:α2,∃x3:α3,∃x4:α4,∃x5:α5,∃x6:α6,∃x7:α7,∃x8:α8,∃x9:α9,P10 x0 x1 x2 x3 x4 x5 x6 x7 x8 x9/\P11 x0 x1 x2 x3 x4 x5 x6 x7 x8 x9)(k:∀x0,∀x1,∀x2,∀x3,∀x4,∀x5,∀x6,∀x7,∀x8,∀x9,P10 x0 x1 x2 x3 x4 x5 x6 x7 x8 x9->P11 x0 x1 x2 x3 x4 x5 x6 x7 x8 x9->C):C:=h.elim λx0 h0=>h0.elim λx1 h1=>h1.elim λx2 h2=>h2.elim λx3 h3=>h3.elim λx4 h4=>h4.elim λx5 h5=>h5.elim λx6 h6=>h6.elim λx7 h7=>h7.elim λx8 h8=>h8.elim λx9 h9=>k x0 x1 x2 x3 x4 x5 x6 x7 x8 x9 h9.1 h9.2
theorem Cu{α0:Sort u0}{α1:Sort u1}{α2:Sort u2}{α3:Sort u3}{P4:α0->α1->α2->α3->Prop}{P5:α0->α1->α2->α3->Prop}{P6:α0->α1->α2->α3->Prop}{P7:α0->α1->α2->α3->Prop}{P8:α0->α1->α2->α3->Prop}{P9:α0->α1->α2->α3->Prop}{P10:α0->α1->α2->α3->Prop}{P11:α0->α1->α2->α3->Prop}{C:Prop}(h:∃x0:α0,∃x1:α1,∃x2:α2,∃x3:α3,P4 x0 x1 x2 x3/\P5 x0 x1 x2 x3/\P6 x0 x1 x2 x3/\P7 x0 x1 x2 x3/\P8 x0 x1 x2 x3/\P9 x0 x1 x2 x3/\P10 x0 x1 x2 x3/\P11 x0 x1 x2 x3)(k:∀x0,∀x1,∀x2,∀x3,P4 x0 x1 x2 x3->P5 x0 x1 x2 x3->P6 x0 x1 x2 x3->P7 x0 x1 x2 x3->P8 x0 x1 x2 x3->P9 x0 x1 x2 x3->P10 x0 x1 x2 x3->P11 x0 x1 x2 x3->C):C:=h.elim λx0 h0=>h0.elim λx1 h1=>h1.elim λx2 h2=>h2.elim λx3 h3=>k x0 x1 x2 x3 h3.1 h3.2.1 h3.2.2.1 h3.2.2.2.1 h3.2.2.2.2.1 h3.2.2.2.2.2.1 h3.2.2.2.2.2.2.1 h3.2.2.2.2.2.2.2
end
section
open PyProof.Rows
section
noncomputable def vs(s:String)(t:Nat):Value:= .str (PySem.Str.ofString s) t
noncomputable def vi(n:Int)(t:Nat):Value:= .int n t
noncomputable def vr(a:Nat):Value:= .ref a
noncomputable def vn:Value:= .none
noncomputable def vt(s:String):Value:= .type s
def de(P:Params)(k:String)(t:Nat)(v:Value):DictEntry:=⟨PyData.keyHash P (PySem.Str.ofString k),vs k t,v⟩
noncomputable def ZJ:Stmt->Option (Arguments×List Stmt×Scope)
 | .FunctionDef _ p b _ _ _ s _ _ _=>some (p,b,s)
 |_=>none
noncomputable def Ym:Stmt->List Stmt
 | .ClassDef _ _ _ b _ _ _ _ _ _ _=>b
 |_=>[]
def Vj(o:Option Stmt):Arguments×List Stmt×Scope:=(o.bind ZJ).getD (default,[],default)
def bd(i:Nat):List Stmt:=(Vj PySem.Challenge.pw_xm0009_01.main.body[i]?).2.1
def iZ(i:Nat):Scope:=(Vj PySem.Challenge.pw_xm0009_01.main.body[i]?).2.2
def Rs(i:Nat):Arguments:=(Vj PySem.Challenge.pw_xm0009_01.main.body[i]?).1
noncomputable def Vk(i:Nat):Stmt:=(PySem.Challenge.pw_xm0009_01.main.body[i]?).getD (.Pass ⟨0,0,0,0⟩)
def O9(i:Nat):Stmt:=bif (Ym (Vk i)).isEmpty then Vk i else((Ym (Vk i)).find? λs=>(ZJ s).isSome).getD (.Pass ⟨0,0,0,0⟩)
def fo(c:Value)(s:Stmt)(q:String)(g:Nat)(d m cd:Value):Obj:=match s with
 | .FunctionDef n ps b _ _ _ sc _ _ _=>⟨c,none,.func ⟨n,PySem.Str.ofString q,ps,.stmts b,sc,g,[],d,vn,vn,m,none,cd,vn,0⟩,#[]⟩
 |_=>default
def e0:Obj:=⟨vt "tuple",none,.seq #[],#[]⟩
def f0:Obj:=⟨vn,none,.fields #[],#[]⟩
noncomputable def ah:List Str->Nat->List Value
 |[],_=>[]
 |x::l,t=> .str x t::ah l (t+1)
def ZK(n:Str)(a t ln ac m:Nat)(x y z:Value):Obj:=⟨vt "code",none,.fields #[.str n t,.str n (t+1),vs "/claim/cut.py" (t+2),vi ln 0,vi ac 0,vi 0 0,vi 0 0,vi 3 0,vr a,.bool true,vi 181 0,vr (a+1),vn,x,y,z,vi (t+3+m:Nat) 0,vi ln 0,vs "/claim/cut.py" (t+4+m)],#[]⟩
def X2(c:Value)(n:Str)(ps:Arguments)(b:List Stmt)(sc:Scope)(g:Nat)(d m cd:Value):Obj:=⟨c,none,.func ⟨n,n,ps,.stmts b,sc,g,[],d,vn,vn,m,none,cd,vn,0⟩,#[]⟩
def jJ(i a t ln:Nat)(md:String)(mt:Nat)(dv:Value):List Obj:=match Vk i with
 | .FunctionDef n ps b _ _ _ sc _ _ _=>
  let ns:=sc.names.filterMap λx=>match x.2 with| .local=>some x.1|_=>none
  [e0,f0,⟨vt "tuple",none,.seq ⟨ah ns (t+3)⟩,#[]⟩,e0,X2 vn n ps b sc 0 vn vn vn,ZK n a t ln ps.args.length ns.length (vr (a+2)) (vr (a+3)) (vr (a+4)),X2 (vt "function") n ps b sc 3 dv (vs md mt) (vr (a+5))]
 |_=>[]
def X3(i a t ln:Nat)(md:String)(mt:Nat)(dv:Value):List Obj:=match Vk i with
 | .FunctionDef n ps b _ _ _ sc _ _ _=>
  [e0,f0,X2 vn n ps b sc 0 vn vn vn,ZK n a t ln ps.args.length 0 vn vn (vr (a+2)),X2 (vt "function") n ps b sc 3 dv (vs md mt) (vr (a+3))]
 |_=>[]
noncomputable abbrev AA:String:="adacore.listexpr"
noncomputable abbrev xN:String:="adacore.exprs"
noncomputable abbrev Cv:String:="adacore.errors"
noncomputable abbrev EE:String:="adacore.reader"
noncomputable abbrev EF:String:="adacore.lexer"
noncomputable abbrev Pa:String:="builtin_function_or_method"
abbrev tu(x:Array Value):Obj:=Obj.mk (vt "tuple") none (Data.seq x) #[]
abbrev fi(x:Array Value):Obj:=Obj.mk vn none (Data.fields x) #[]
abbrev di(x:Array DictEntry)(n:Nat):Obj:=Obj.mk (vt "dict") none (Data.dict x n) #[]
abbrev fs(s:String)(x:Array Value):Obj:=Obj.mk (vt s) none (Data.fields x) #[]
abbrev cu(n:Nat):Value:=vs "/claim/cut.py" n
def objs(P:Params)(o2 o3 o12 o31:Obj):List Obj:=
 [boot_o_0 P,boot_o_1 P,o2,o3,boot_o_4 P,boot_o_5 P,boot_o_6 P,boot_o_7 P,boot_o_8 P,boot_o_9 P,boot_o_10 P]++
 ([tu #[],
  o12,
  fs "code" #[vs "<module>" 182,vs "<module>" 183,cu 184,vi 1 0,vi 0 0,vi 0 0,vi 0 0,vi 0 0,vr 11,Value.bool false,vi 181 0,vr 12,vn,vn,vn,vn,vi 185 0,vi 1 0,cu 186],
  Obj.mk (vt "frame") none Data.plain #[some (vr 13),some (vr 3),some (vr 3),none,some (vs "__main__" 164),none,some (vr 0)],
  tu #[vt "Exception"],
  fs Pa #[Value.builtin "type.__prepare__",vt "type"],
  di #[de P "__module__" 196 (vs Cv 187),de P "__qualname__" 198 (vs "AdaError" 197),de P "__firstlineno__" 200 (vi 2 199),de P "__init__" 208 (vr 28),de P "__static_attributes__" 210 (vr 29)] 5,
  tu #[],
  fi #[vi 4 0,vi 4 0,vr 27],
  fs "code" #[vs "AdaError" 191,vs "AdaError" 192,cu 193,vi 2 0,vi 0 0,vi 0 0,vi 0 0,vi 0 0,vr 18,Value.bool false,vi 181 0,vr 19,vn,vn,vn,vn,vi 194 0,vi 2 0,cu 195],
  Obj.mk (vt "frame") none Data.plain #[some (vr 20),some (vr 3),some (vr 17),none,some (vs Cv 187),none,some (vr 0)],
  tu #[],
  fi #[],
  tu #[vs "self" 204,vs "text" 205],
  tu #[],
  fo vn (O9 1) "AdaError.__init__" 0 (vn) (vn) (vn),
  fs "code" #[vs "__init__" 201,vs "AdaError.__init__" 202,cu 203,vi 4 0,vi 2 0,vi 0 0,vi 0 0,vi 3 0,vr 22,Value.bool true,vi 181 0,vr 23,vn,vr 24,vr 25,vr 26,vi 206 0,vi 4 0,cu 207],
  fo (vt "function") (O9 1) "AdaError.__init__" 3 (vn) (vs Cv 187) (vr 27),
  tu #[vs "text" 209],
  di #[de P "__module__" 196 (vs Cv 187),de P "__firstlineno__" 200 (vi 2 199),de P "__init__" 208 (vr 28),de P "__static_attributes__" 210 (vr 29),de P "__weakref__" 212 (vr 32),de P "__doc__" 213 vn] 3,
  o31,
  fs "getset_descriptor" #[vs "__weakref__" 211,vr 31,Value.builtin "ExceptionGroup.__weakref__",vn],
  fs "super" #[vr 31,vr 31,vr 31],
  fs Pa #[Value.builtin "object.__init_subclass__",vr 31],
  tu #[vr 31],
  fs Pa #[Value.builtin "type.__prepare__",vt "type"],
  di #[de P "__module__" 225 (vs Cv 187),de P "__qualname__" 227 (vs "LexFault" 226),de P "__firstlineno__" 229 (vi 7 228),de P "__init__" 238 (vr 48),de P "__static_attributes__" 240 (vr 49)] 5,
  tu #[],
  fi #[vi 9 0,vi 4 0,vr 47],
  fs "code" #[vs "LexFault" 220,vs "LexFault" 221,cu 222,vi 7 0,vi 0 0,vi 0 0,vi 0 0,vi 0 0,vr 38,Value.bool false,vi 181 0,vr 39,vn,vn,vn,vn,vi 223 0,vi 7 0,cu 224],
  Obj.mk (vt "frame") none Data.plain #[some (vr 40),some (vr 3),some (vr 37),none,some (vs Cv 187),none,some (vr 0)],
  tu #[],
  fi #[],
  tu #[vs "self" 233,vs "line" 234,vs "text" 235],
  tu #[],
  fo vn (O9 2) "LexFault.__init__" 0 (vn) (vn) (vn),
  fs "code" #[vs "__init__" 230,vs "LexFault.__init__" 231,cu 232,vi 9 0,vi 3 0,vi 0 0,vi 0 0,vi 3 0,vr 42,Value.bool true,vi 181 0,vr 43,vn,vr 44,vr 45,vr 46,vi 236 0,vi 9 0,cu 237],
  fo (vt "function") (O9 2) "LexFault.__init__" 3 (vn) (vs Cv 187) (vr 47),
  tu #[vs "line" 239],
  di #[de P "__module__" 225 (vs Cv 187),de P "__firstlineno__" 229 (vi 7 228),de P "__init__" 238 (vr 48),de P "__static_attributes__" 240 (vr 49),de P "__doc__" 241 vn] 2,
  Obj.mk (vt "type") none (Data.cls (ClassData.mk (Str.ofString "LexFault") [vr 31] [vr 51,vr 31,vt "Exception",vt "BaseException",vt "object"] 50 (Str.ofString "LexFault") true [] [] false none false)) #[some (vr 35),none,some (vs "LexFault" 218),some (vs "LexFault" 226),some (Value.builtin "Exception.__new__"),some (Value.bool true)],
  fs "super" #[vr 51,vr 51,vr 51],
  fs Pa #[Value.builtin "object.__init_subclass__",vr 51],
  tu #[vr 31],
  fs Pa #[Value.builtin "type.__prepare__",vt "type"],
  di #[de P "__module__" 251 (vs Cv 187),de P "__qualname__" 253 (vs "SyntaxFault" 252),de P "__firstlineno__" 255 (vi 12 254),de P "__init__" 264 (vr 67),de P "__static_attributes__" 266 (vr 68)] 5,
  tu #[],
  fi #[vi 14 0,vi 4 0,vr 66],
  fs "code" #[vs "SyntaxFault" 246,vs "SyntaxFault" 247,cu 248,vi 12 0,vi 0 0,vi 0 0,vi 0 0,vi 0 0,vr 57,Value.bool false,vi 181 0,vr 58,vn,vn,vn,vn,vi 249 0,vi 12 0,cu 250],
  Obj.mk (vt "frame") none Data.plain #[some (vr 59),some (vr 3),some (vr 56),none,some (vs Cv 187),none,some (vr 0)],
  tu #[],
  fi #[],
  tu #[vs "self" 259,vs "line" 260,vs "text" 261],
  tu #[],
  fo vn (O9 3) "SyntaxFault.__init__" 0 (vn) (vn) (vn),
  fs "code" #[vs "__init__" 256,vs "SyntaxFault.__init__" 257,cu 258,vi 14 0,vi 3 0,vi 0 0,vi 0 0,vi 3 0,vr 61,Value.bool true,vi 181 0,vr 62,vn,vr 63,vr 64,vr 65,vi 262 0,vi 14 0,cu 263],
  fo (vt "function") (O9 3) "SyntaxFault.__init__" 3 (vn) (vs Cv 187) (vr 66),
  tu #[vs "line" 265],
  di #[de P "__module__" 251 (vs Cv 187),de P "__firstlineno__" 255 (vi 12 254),de P "__init__" 264 (vr 67),de P "__static_attributes__" 266 (vr 68),de P "__doc__" 267 vn] 2,
  Obj.mk (vt "type") none (Data.cls (ClassData.mk (Str.ofString "SyntaxFault") [vr 31] [vr 70,vr 31,vt "Exception",vt "BaseException",vt "object"] 69 (Str.ofString "SyntaxFault") true [] [] false none false)) #[some (vr 54),none,some (vs "SyntaxFault" 244),some (vs "SyntaxFault" 252),some (Value.builtin "Exception.__new__"),some (Value.bool true)],
  fs "super" #[vr 70,vr 70,vr 70],
  fs Pa #[Value.builtin "object.__init_subclass__",vr 70],
  tu #[vr 31],
  fs Pa #[Value.builtin "type.__prepare__",vt "type"],
  di #[de P "__module__" 277 (vs Cv 187),de P "__qualname__" 279 (vs "AdaRaise" 278),de P "__firstlineno__" 281 (vi 17 280),de P "__init__" 291 (vr 86),de P "__static_attributes__" 295 (vr 87)] 5,
  tu #[],
  fi #[vi 19 0,vi 4 0,vr 85],
  fs "code" #[vs "AdaRaise" 272,vs "AdaRaise" 273,cu 274,vi 17 0,vi 0 0,vi 0 0,vi 0 0,vi 0 0,vr 76,Value.bool false,vi 181 0,vr 77,vn,vn,vn,vn,vi 275 0,vi 17 0,cu 276],
  Obj.mk (vt "frame") none Data.plain #[some (vr 78),some (vr 3),some (vr 75),none,some (vs Cv 187),none,some (vr 0)],
  tu #[],
  fi #[],
  tu #[vs "self" 285,vs "name" 286,vs "line" 287,vs "text" 288],
  tu #[],
  fo vn (O9 4) "AdaRaise.__init__" 0 (vn) (vn) (vn),
  fs "code" #[vs "__init__" 282,vs "AdaRaise.__init__" 283,cu 284,vi 19 0,vi 4 0,vi 0 0,vi 0 0,vi 3 0,vr 80,Value.bool true,vi 181 0,vr 81,vn,vr 82,vr 83,vr 84,vi 289 0,vi 19 0,cu 290],
  fo (vt "function") (O9 4) "AdaRaise.__init__" 3 (vn) (vs Cv 187) (vr 85),
  tu #[vs "line" 292,vs "name" 293,vs "word" 294],
  di #[de P "__module__" 277 (vs Cv 187),de P "__firstlineno__" 281 (vi 17 280),de P "__init__" 291 (vr 86),de P "__static_attributes__" 295 (vr 87),de P "__doc__" 296 vn] 2,
  Obj.mk (vt "type") none (Data.cls (ClassData.mk (Str.ofString "AdaRaise") [vr 31] [vr 89,vr 31,vt "Exception",vt "BaseException",vt "object"] 88 (Str.ofString "AdaRaise") true [] [] false none false)) #[some (vr 73),none,some (vs "AdaRaise" 270),some (vs "AdaRaise" 278),some (Value.builtin "Exception.__new__"),some (Value.bool true)],
  fs "super" #[vr 89,vr 89,vr 89],
  fs Pa #[Value.builtin "object.__init_subclass__",vr 89],
  tu #[],
  fs Pa #[Value.builtin "type.__prepare__",vt "type"],
  di #[de P "__module__" 308 (vs EE 299),de P "__qualname__" 310 (vs "Reader" 309),de P "__firstlineno__" 312 (vi 25 311),de P "__init__" 322 (vr 106),de P "__static_attributes__" 338 (vr 107)] 5,
  tu #[],
  fi #[vi 27 0,vi 4 0,vr 105],
  fs "code" #[vs "Reader" 303,vs "Reader" 304,cu 305,vi 25 0,vi 0 0,vi 0 0,vi 0 0,vi 0 0,vr 95,Value.bool false,vi 181 0,vr 96,vn,vn,vn,vn,vi 306 0,vi 25 0,cu 307],
  Obj.mk (vt "frame") none Data.plain #[some (vr 97),some (vr 3),some (vr 94),none,some (vs EE 299),none,some (vr 0)],
  tu #[vi 0 313],
  tu #[],
  fi #[],
  tu #[vs "self" 317,vs "tokens" 318,vs "at" 319],
  tu #[],
  fo vn (O9 6) "Reader.__init__" 0 (vn) (vn) (vn),
  fs "code" #[vs "__init__" 314,vs "Reader.__init__" 315,cu 316,vi 27 0,vi 3 0,vi 0 0,vi 0 0,vi 3 0,vr 100,Value.bool true,vi 181 0,vr 101,vn,vr 102,vr 103,vr 104,vi 320 0,vi 27 0,cu 321],
  fo (vt "function") (O9 6) "Reader.__init__" 3 (vr 99) (vs EE 299) (vr 105),
  tu #[vs "at" 323,vs "deep" 324,vs "nest" 325,vs "parse_choices" 326,vs "parse_declarations" 327,vs "parse_discrete" 328,vs "parse_expr" 329,vs "parse_formals" 330,vs "parse_handled" 331,vs "parse_handlers" 332,vs "parse_item" 333,vs "parse_name" 334,vs "parse_sequence" 335,vs "parse_statements" 336,vs "tokens" 337],
  di #[de P "__module__" 308 (vs EE 299),de P "__firstlineno__" 312 (vi 25 311),de P "__init__" 322 (vr 106),de P "__static_attributes__" 338 (vr 107),de P "__dict__" 340 (vr 110),de P "__weakref__" 342 (vr 111),de P "__doc__" 343 vn] 4,
  Obj.mk (vt "type") none (Data.cls (ClassData.mk (Str.ofString "Reader") [vt "object"] [vr 109,vt "object"] 108 (Str.ofString "Reader") true [] [] false none false)) #[none,none,some (vs "Reader" 301),some (vs "Reader" 309),some (Value.builtin "object.__new__"),some (Value.bool true)],
  fs "getset_descriptor" #[vs "__dict__" 339,vr 109,Value.builtin "function.__dict__",Value.builtin "function.__dict__#set"],
  fs "getset_descriptor" #[vs "__weakref__" 341,vr 109,Value.builtin "ExceptionGroup.__weakref__",vn],
  fs "super" #[vr 109,vr 109,vr 109],
  fs Pa #[Value.builtin "object.__init_subclass__",vr 109]]++
 (jJ 7 114 346 43 EE 299 (vn)++
 (jJ 8 121 355 50 EE 299 (vn)++
 (jJ 9 128 362 52 EE 299 (vn)++
 (jJ 10 135 370 56 EE 299 (vn)++
 (jJ 11 142 377 58 EE 299 (vn)++
 ([tu #[vi 0 385]]++
 (jJ 12 150 386 60 EE 299 (vr 149)++
 ([tu #[vi 0 395]]++
 (jJ 13 158 396 62 EE 299 (vr 157)++
 (jJ 14 165 405 64 EE 299 (vn)++
 (jJ 15 172 413 69 EE 299 (vn)++
 (jJ 16 179 421 74 EE 299 (vn)++
 (jJ 17 186 429 77 EE 299 (vn)++
 (jJ 21 193 442 84 "adacore.heights" 436 (vn)++
 (X3 22 200 452 96 "adacore.heights" 436 (vn)++
 (jJ 23 205 458 103 "adacore.heights" 436 (vn)++
 (jJ 24 212 465 107 "adacore.heights" 436 (vn)++
 (jJ 25 219 472 109 "adacore.heights" 436 (vn)++
 ([tu #[vs "abort" 482,vs "abs" 483,vs "abstract" 484,vs "accept" 485,vs "access" 486,vs "aliased" 487,vs "all" 488,vs "and" 489,vs "array" 490,vs "at" 491,vs "begin" 492,vs "body" 493,vs "case" 494,vs "constant" 495,vs "declare" 496,vs "delay" 497,vs "delta" 498,vs "digits" 499,vs "do" 500,vs "else" 501,vs "elsif" 502,vs "end" 503,vs "entry" 504,vs "exception" 505,vs "exit" 506,vs "for" 507,vs "function" 508,vs "generic" 509,vs "goto" 510,vs "if" 511,vs "in" 512,vs "is" 513,vs "limited" 514,vs "loop" 515,vs "mod" 516,vs "new" 517,vs "not" 518,vs "null" 519,vs "of" 520,vs "or" 521,vs "others" 522,vs "out" 523,vs "package" 524,vs "pragma" 525,vs "private" 526,vs "procedure" 527,vs "protected" 528,vs "raise" 529,vs "range" 530,vs "record" 531,vs "rem" 532,vs "renames" 533,vs "requeue" 534,vs "return" 535,vs "reverse" 536,vs "select" 537,vs "separate" 538,vs "subtype" 539,vs "tagged" 540,vs "task" 541,vs "terminate" 542,vs "then" 543,vs "type" 544,vs "until" 545,vs "use" 546,vs "when" 547,vs "while" 548,vs "with" 549,vs "xor" 550],
  tu #[vs "and" 552,vs "or" 553,vs "xor" 554,vs "=" 555,vs "<" 556,vs "<=" 557,vs ">" 558,vs ">=" 559,vs "+" 560,vs "-" 561,vs "&" 562,vs "*" 563,vs "/" 564,vs "mod" 565,vs "rem" 566,vs "**" 567],
  tu #[vs "+" 569,vs "-" 570,vs "abs" 571,vs "not" 572]]++
 (jJ 30 229 574 117 "adacore.names" 480 (vn)++
 (jJ 31 236 581 119 "adacore.names" 480 (vn)++
 ([tu #[vs "=" 591,vs "/=" 592,vs "<" 593,vs "<=" 594,vs ">" 595,vs ">=" 596],
  tu #[vs "name" 598,vs "select" 599,vs "apply" 600,vs "all" 601,vs "tick" 602],
  tu #[vs "range" 604,vs "access" 605,vs "digits" 606,vs "delta" 607,vs "mod" 608],
  tu #[vs "base" 610,vs "class" 611]]++
 (jJ 37 247 613 128 xN 589 (vn)++
 (jJ 38 254 620 130 xN 589 (vn)++
 (jJ 39 261 627 138 xN 589 (vn)++
 (jJ 40 268 639 152 xN 589 (vn)++
 (jJ 41 275 647 157 xN 589 (vn)++
 (jJ 42 282 656 173 xN 589 (vn)++
 (jJ 43 289 664 180 xN 589 (vn)++
 (jJ 44 296 673 191 xN 589 (vn)++
 (jJ 45 303 682 197 xN 589 (vn)++
 (jJ 46 310 691 205 xN 589 (vn)++
 (jJ 47 317 701 223 xN 589 (vn)++
 (jJ 48 324 709 229 xN 589 (vn)++
 (jJ 49 331 717 246 xN 589 (vn)++
 (jJ 50 338 728 256 xN 589 (vn)++
 (jJ 51 345 740 270 xN 589 (vn)++
 (jJ 52 352 748 276 xN 589 (vn)++
 (jJ 53 359 756 283 xN 589 (vn)++
 (jJ 54 366 764 290 xN 589 (vn)++
 (jJ 55 373 773 301 xN 589 (vn)++
 (jJ 56 380 782 309 xN 589 (vn)++
 (jJ 57 387 790 316 xN 589 (vn)++
 (jJ 58 394 799 332 xN 589 (vn)++
 (jJ 59 401 809 336 xN 589 (vn)++
 (jJ 62 408 824 349 "adacore.rationals" 818 (vn)++
 (jJ 63 415 832 355 "adacore.rationals" 818 (vn)++
 ([tu #[vs "=>" 849,vs ".." 850,vs "**" 851,vs ":=" 852,vs "/=" 853,vs ">=" 854,vs "<=" 855,vs "<<" 856,vs ">>" 857,vs "<>" 858]]++
 (jJ 74 423 870 377 EF 841 (vn)++
 (jJ 75 430 877 381 EF 841 (vn)++
 (jJ 76 437 884 383 EF 841 (vn)++
 (jJ 77 444 891 385 EF 841 (vn)++
 (jJ 78 451 898 387 EF 841 (vn)++
 (jJ 79 458 909 398 EF 841 (vn)++
 (jJ 80 465 923 421 EF 841 (vn)++
 (jJ 81 472 937 430 EF 841 (vn)++
 (jJ 82 479 956 458 EF 841 (vn)++
 (jJ 83 486 967 469 EF 841 (vn)++
 (jJ 84 493 977 474 EF 841 (vn)++
 (jJ 85 500 987 478 EF 841 (vn)++
 (jJ 86 507 996 484 EF 841 (vn)++
 (jJ 87 514 1007 495 EF 841 (vn)++
 (jJ 88 521 1016 500 EF 841 (vn)++
 ([di #[de P "**" 1031 (vr 529),de P "*" 1035 (vr 530),de P "/" 1039 (vr 531),de P "mod" 1043 (vr 532),de P "rem" 1047 (vr 533),de P "+" 1051 (vr 534),de P "-" 1055 (vr 535),de P "&" 1059 (vr 536),de P "=" 1063 (vr 537),de P "/=" 1067 (vr 538),de P "<" 1071 (vr 539),de P "<=" 1075 (vr 540),de P ">" 1079 (vr 541),de P ">=" 1083 (vr 542)] 14,
  tu #[vi 5 1032,vi 6 1033,vi 6 1034],
  tu #[vi 4 1036,vi 4 1037,vi 5 1038],
  tu #[vi 4 1040,vi 4 1041,vi 5 1042],
  tu #[vi 4 1044,vi 4 1045,vi 5 1046],
  tu #[vi 4 1048,vi 4 1049,vi 5 1050],
  tu #[vi 3 1052,vi 3 1053,vi 4 1054],
  tu #[vi 3 1056,vi 3 1057,vi 4 1058],
  tu #[vi 3 1060,vi 3 1061,vi 4 1062],
  tu #[vi 2 1064,vi 3 1065,vi 3 1066],
  tu #[vi 2 1068,vi 3 1069,vi 3 1070],
  tu #[vi 2 1072,vi 3 1073,vi 3 1074],
  tu #[vi 2 1076,vi 3 1077,vi 3 1078],
  tu #[vi 2 1080,vi 3 1081,vi 3 1082],
  tu #[vi 2 1084,vi 3 1085,vi 3 1086],
  di #[de P "andthen" 1102 (vs "and then" 1103),de P "orelse" 1104 (vs "or else" 1105)] 2,
  tu #[vi 10 1109,vi 2 1110,vi 3 1111,vi 4 1112,vi 5 1113,vi 6 1114,vi 7 1115,vi 8 1116,vi 9 1117,vi 11 1118,vi 12 1119,vi 13 1120,vi 14 1121,vi 15 1122,vi 16 1123]]++
 (jJ 96 545 1129 522 AA 1027 (vn)++
 (jJ 97 552 1136 528 AA 1027 (vn)++
 (jJ 98 559 1143 538 AA 1027 (vn)++
 (jJ 99 566 1151 542 AA 1027 (vn)++
 (jJ 100 573 1162 550 AA 1027 (vn)++
 (jJ 101 580 1174 564 AA 1027 (vn)++
 (jJ 102 587 1184 570 AA 1027 (vn)++
 (jJ 103 594 1194 577 AA 1027 (vn)++
 (jJ 104 601 1204 584 AA 1027 (vn)++
 (jJ 105 608 1219 596 AA 1027 (vn)++
 (jJ 106 615 1230 606 AA 1027 (vn)++
 (X3 107 622 1237 616 AA 1027 (vn)++
 (X3 108 627 1243 621 AA 1027 (vn)++
 (jJ 109 632 1249 623 AA 1027 (vn)++
 (X3 110 639 1256 627 AA 1027 (vn)++
 (jJ 111 644 1262 645 AA 1027 (vn)++
 (jJ 112 651 1269 655 AA 1027 (vn)++
 (jJ 113 658 1276 659 AA 1027 (vn)++
 (jJ 114 665 1284 662 AA 1027 (vn)++
 ([Obj.mk (vt "list") none (Data.seq #[vs "+" 1294,vs "-" 1295,vs "&" 1296]) #[],
  Obj.mk (vt "list") none (Data.seq #[vs "*" 1298,vs "/" 1299,vs "mod" 1300,vs "rem" 1301]) #[],
  Obj.mk (vt "list") none (Data.seq #[vs "=" 1303,vs "/=" 1304,vs "<" 1305,vs "<=" 1306,vs ">" 1307,vs ">=" 1308]) #[]]++
 (jJ 119 675 1310 689 "law_xm0009_01" 1292 (vn)++
 (jJ 120 682 1319 695 "law_xm0009_01" 1292 (vn)++
 (jJ 121 689 1334 716 "law_xm0009_01" 1292 (vn)++
 (jJ 122 696 1341 732 "law_xm0009_01" 1292 (vn)++
 (jJ 123 703 1351 746 "law_xm0009_01" 1292 (vn)++
 (jJ 124 710 1362 759 "law_xm0009_01" 1292 (vn)++
 (jJ 125 717 1371 766 "law_xm0009_01" 1292 (vn)))))))))))))))))))))))))))))))))))))))))))))))))))))))))))))))))))))))))))))))))))))))))))))
def Vy:List (String×Nat×Value):=
 [("__doc__",166,vn),("__package__",167,vn),("__loader__",168,(Value.builtin "__main__.__loader__#opaque")),("__spec__",169,vn),("__annotations__",170,(vr 6)),("__builtins__",171,(vr 4)),("__file__",173,(cu 172)),("__cached__",174,vn),("AdaError",217,(vr 31)),("LexFault",243,(vr 51)),("SyntaxFault",269,(vr 70)),("AdaRaise",298,(vr 89)),("Reader",345,(vr 109)),("token_ahead",354,(vr 120)),("peek_token",361,(vr 127)),("take_token",369,(vr 134)),("here_line",376,(vr 141)),("refuse_here",384,(vr 148)),("is_sign",394,(vr 156)),("is_word",404,(vr 164)),("take_sign",412,(vr 171)),("take_word",420,(vr 178)),("need_sign",428,(vr 185)),("need_name",435,(vr 192)),("MOST_HIGH",439,(vi 60 438)),("MOST_NESTED",441,(vi 24 440)),("tree_parts",451,(vr 199)),("check_height",457,(vr 204)),("open_nest",464,(vr 211)),("close_nest",471,(vr 218)),("bounded_tree",479,(vr 225)),("RESERVED",551,(vr 226)),("BINARY_NAMES",568,(vr 227)),("UNARY_NAMES",573,(vr 228)),("is_reserved",580,(vr 235)),("is_operator_name",588,(vr 242)),("RELATIONS",597,(vr 243)),("NAMES",603,(vr 244)),("WORDS_AS_ATTRIBUTES",609,(vr 245)),("MARK_ATTRIBUTES",612,(vr 246)),("parse_expr",619,(vr 253)),("logical_word",626,(vr 260)),("logical_tree",638,(vr 267)),("relation_sign",646,(vr 274)),("relation_tree",655,(vr 281)),("member_tree",663,(vr 288)),("simple_tree",672,(vr 295)),("term_tree",681,(vr 302)),("factor_tree",690,(vr 309)),("primary_tree",700,(vr 316)),("symbol_name",708,(vr 323)),("name_tree",716,(vr 330)),("selected_tree",727,(vr 337)),("attribute_tree",739,(vr 344)),("extent_tree",747,(vr 351)),("parse_range",755,(vr 358)),("parse_choice",763,(vr 365)),("assoc_here",772,(vr 372)),("assoc_row",781,(vr 379)),("assocs_here",789,(vr 386)),("bracket_tree",798,(vr 393)),("refuse_ranges",808,(vr 400)),("lone_bracket",817,(vr 407)),("GREATEST",823,(vi (Int.ofNat (10 ^ 700)) 822)),("ratio_divisor",831,(vr 414)),("make_ratio",840,(vr 421)),("SMALL_LETTERS",844,(vs "abcdefghijklmnopqrstuvwxyz" 843)),("FIGURES",846,(vs "0123456789" 845)),("BASED_FIGURES",848,(vs "0123456789abcdef" 847)),("COMPOUNDS",859,(vr 422)),("SINGLES",861,(vs "&()*+,-./:;<=>|" 860)),("GAPS",863,(vs " \t\x0d\n\x0c\x0b" 862)),("LINE_ENDS",865,(vs "\n\x0d\x0c\x0b" 864)),("MOST_FIGURES",867,(vi 80 866)),("MOST_POWER",869,(vi 400 868)),("small_sign",876,(vr 429)),("is_name_letter",883,(vr 436)),("is_name_part",890,(vr 443)),("is_graphic",897,(vr 450)),("name_token",908,(vr 457)),("read_numeral",922,(vr 464)),("power_of",936,(vr 471)),("number_token",955,(vr 478)),("string_token",966,(vr 485)),("is_prefix",976,(vr 492)),("tick_token",986,(vr 499)),("delimiter_token",995,(vr 506)),("one_token",1006,(vr 513)),("remark_behind",1015,(vr 520)),("tokens_of",1026,(vr 527)),("PRIMARY_LEVEL",1030,(vi 6 1029)),("BINDING",1101,(vr 528)),("SHORT_WORDS",1108,(vr 543)),("LITERAL_BASES",1124,(vr 544)),("MOST_PLACES",1126,(vi 480 1125)),("FIGURE_SIGNS",1128,(vs "0123456789abcdef" 1127)),("logical_sort",1135,(vr 551)),("binding_of",1142,(vr 558)),("show_within",1150,(vr 565)),("show_logical",1161,(vr 572)),("show_chain",1173,(vr 579)),("figures_of",1183,(vr 586)),("show_based",1193,(vr 593)),("show_whole",1203,(vr 600)),("show_scaled",1218,(vr 607)),("show_real",1229,(vr 614)),("show_literal",1236,(vr 621)),("show_part",1242,(vr 626)),("show_assocs",1248,(vr 631)),("tick_behind",1255,(vr 638)),("show_named",1261,(vr 643)),("show_bracket",1268,(vr 650)),("show_range",1275,(vr 657)),("show_member",1283,(vr 664)),("show_expr",1291,(vr 671)),("_law_adding",1297,(vr 672)),("_law_scaling",1302,(vr 673)),("_law_comparing",1309,(vr 674)),("_law_draw_next",1318,(vr 681)),("_law_grow",1333,(vr 688)),("_law_word",1340,(vr 695)),("_law_free",1350,(vr 702)),("_law_due",1361,(vr 709)),("_law_heard",1370,(vr 716)),("law",1385,(vr 723))]
def GW(P:Params)(nm:String)(tk k:Nat):Obj:=⟨vt "dict",none,.dict ⟨de P "__name__" 165 (vs nm tk)::(Vy.take k).map λe=>de P e.1 e.2.1 e.2.2⟩ (k+1),#[]⟩
noncomputable def S5:List (Nat×Nat):=[(2,20),(7,40),(12,59),(17,78),(25,97),(43,119),(50,126),(52,133),(56,140),(58,147),(60,155),(62,163),(64,170),(69,177),(74,184),(77,191),(84,198),(96,203),(103,210),(107,217),(109,224),(117,234),(119,241),(128,252),(130,259),(138,266),(152,273),(157,280),(173,287),(180,294),(191,301),(197,308),(205,315),(223,322),(229,329),(246,336),(256,343),(270,350),(276,357),(283,364),(290,371),(301,378),(309,385),(316,392),(332,399),(336,406),(349,413),(355,420),(377,428),(381,435),(383,442),(385,449),(387,456),(398,463),(421,470),(430,477),(458,484),(469,491),(474,498),(478,505),(484,512),(495,519),(500,526),(522,550),(528,557),(538,564),(542,571),(550,578),(564,585),(570,592),(577,599),(584,606),(596,613),(606,620),(616,625),(621,630),(623,637),(627,642),(645,649),(655,656),(659,663),(662,670),(689,680),(695,687),(716,694),(732,701),(746,708),(759,715),(766,722)]
def ul(k:Nat):Obj:=⟨vn,none,.fields ⟨(S5.take k).flatMap λx=>[vi x.1 0,vi 0 0,vr x.2]⟩,#[]⟩
def um(l:List Value):Obj:=Obj.mk (vt "type") none (Data.cls (ClassData.mk (Str.ofString "AdaError") [vt "Exception"] [vr 31,vt "Exception",vt "BaseException",vt "object"] 30 (Str.ofString "AdaError") true [] l false none false)) #[some (vr 15),none,some (vs "AdaError" 189),some (vs "AdaError" 197),some (Value.builtin "Exception.__new__"),some (Value.bool true)]
def G0(P:Params):Obj:=Obj.mk vn none (Data.dict #[de P "type.__subclasses__.Exception.0" 214 (vi 31 0),de P "type.__subclasses__.Exception.n" 215 (vi 1 0)] 2) #[]
noncomputable def X4:Bool->List Obj->List Obj
 |_,[]=>[]
 |true,x::l=>x::X4 false l
 |false,_::l=>X4 true l
noncomputable def bt:Nat->List Obj->BT
 | 0,_=> .nil
 |_,[]=> .nil
 |k+1,x::l=> .node x (bt k (X4 true l)) (bt k (X4 false l))
def X5(P:Params):BT:=bt 12 ((objs P (boot_o_2 P) (GW P "__main__" 164 8) (ul 0) (um [])).take 15)
def ZL(P:Params):BT:=bt 12 ((objs P (G0 P) (GW P Cv 187 9) (ul 1) (um [])).take 35)
def ZM(P:Params):BT:=bt 12 ((objs P (G0 P) (GW P Cv 187 10) (ul 2) (um [vr 51])).take 54)
def ZN(P:Params):BT:=bt 12 ((objs P (G0 P) (GW P Cv 187 11) (ul 3) (um [vr 51,vr 70])).take 73)
def ZO(P:Params):BT:=bt 12 ((objs P (G0 P) (GW P EE 299 12) (ul 4) (um [vr 51,vr 70,vr 89])).take 92)
def ZP(P:Params):BT:=bt 12 ((objs P (G0 P) (GW P EE 299 18) (ul 10) (um [vr 51,vr 70,vr 89])).take 149)
def ZQ(P:Params):BT:=bt 12 ((objs P (G0 P) (GW P "adacore.names" 480 31) (ul 21) (um [vr 51,vr 70,vr 89])).take 226)
def ZR(P:Params):BT:=bt 12 ((objs P (G0 P) (GW P xN 589 45) (ul 28) (um [vr 51,vr 70,vr 89])).take 282)
def ZS(P:Params):BT:=bt 12 ((objs P (G0 P) (GW P xN 589 57) (ul 40) (um [vr 51,vr 70,vr 89])).take 366)
def ZT(P:Params):BT:=bt 12 ((objs P (G0 P) (GW P EF 841 75) (ul 48) (um [vr 51,vr 70,vr 89])).take 423)
def S6(P:Params):BT:=bt 12 ((objs P (G0 P) (GW P EF 841 87) (ul 60) (um [vr 51,vr 70,vr 89])).take 507)
def Ph(P:Params):BT:=bt 12 ((objs P (G0 P) (GW P AA 1027 92) (ul 63) (um [vr 51,vr 70,vr 89])).take 543)
def S7(P:Params):BT:=bt 12 ((objs P (G0 P) (GW P AA 1027 105) (ul 72) (um [vr 51,vr 70,vr 89])).take 608)
def Vz(P:Params):BT:=bt 12 ((objs P (G0 P) (GW P "law_xm0009_01" 1292 119) (ul 83) (um [vr 51,vr 70,vr 89])).take 682)
def sI(P:Params):BT:=bt 12 ((objs P (G0 P) (GW P "law_xm0009_01" 1292 125) (ul 89) (um [vr 51,vr 70,vr 89])).take 724)
end
end
section
def kt(k:Lean.Name):Lean.Syntax:= .node .none `Lean.Parser.Tactic.tacticSeq #[.node .none `Lean.Parser.Tactic.tacticSeq1Indented #[.node .none `null #[.node .none k #[.atom .none "k"]]]]
def kr:Lean.Syntax:=kt `tacticKernel_rfl
def kq:Lean.Syntax:=kt `Lean.Parser.Tactic.tacticRfl
noncomputable abbrev IP{α:Type}(d:α)(l:List α):Nat->α:=List.rec (λ_=>d) (λx _ f i=>Nat.rec x (λi _=>f i) i) l
abbrev Li:=Int×List Int
noncomputable def G1:List Int->List Int->Int
 |[],_=>0
 |k::p,x=>match x with|[]=>0|x::r=>k * x+G1 p r
def val(x:List Int)(p:Li):Int:=p.1+G1 p.2 x
noncomputable def X6:List Int->List Int->List Int
 |[],b=>b
 |x::a,b=>match b with|[]=>x::a|y::b=>(x+y)::X6 a b
noncomputable def X7(k:Int):List Int->List Int
 |[]=>[]
 |x::a=>k * x::X7 k a
theorem a4(a b c d:Int):a+b+(c+d)=a+c+(b+d):=by rw[Int.add_assoc,Int.add_left_comm b,Int.add_assoc]
theorem o9{a b:Int}:0<=b -a↔a<=b:=⟨Int.le_of_sub_nonneg,Int.sub_nonneg_of_le⟩
theorem IQ{a b:Int}:0<=b -a -1↔a<b:=by rw[o9];exact⟨Int.lt_of_sub_pos,Int.sub_pos_of_lt⟩
theorem Pi(p:List Int):G1 p []=0:=by cases p<;>rfl
theorem IR:∀a b x,G1 (X6 a b) x=G1 a x+G1 b x
 |[],b,x=>(Int.zero_add _).symm
 |u::a,[],x=>(Int.add_zero _).symm
 |u::a,v::b,[]=>rfl
 |u::a,v::b,x::r=>by have e:=IR a b r;show(u+v) * x+G1 (X6 a b) r=u * x+G1 a r+(v * x+G1 b r);rw[e,Int.add_mul,a4]
theorem IS(k:Int):∀a x,G1 (X7 k a) x=k * G1 a x
 |[],x=>(Int.mul_zero _).symm
 |u::a,[]=>(Int.mul_zero _).symm
 |u::a,x::r=>by have e:=IS k a r;show k * u * x+G1 (X7 k a) r=k *(u * x+G1 a r);rw[e,Int.mul_add,Int.mul_assoc]
def add(p q:Li):Li:=(p.1+q.1,X6 p.2 q.2)
def sm(k:Int)(p:Li):Li:=(k * p.1,X7 k p.2)
def sb(p q:Li):Li:=add p (sm (-1) q)
def s1(p q:Li):Li:=add (sb p q) (-1,[])
variable{x:List Int}
theorem vx(p q:Li):val x (add p q)=val x p+val x q:=(dN (p.1+q.1+·) (IR ..)).trans (a4 ..)
theorem wG(k:Int)(p:Li):val x (sm k p)=k * val x p:=(dN (k * p.1+·) (IS ..)).trans (Int.mul_add ..).symm
theorem lD(p q:Li):val x (sb p q)=val x p -val x q:=by unfold sb;rw[vx,wG,Int.neg_mul,Int.one_mul];rfl
theorem Cw(p q:Li):val x (s1 p q)=val x p -val x q -1:=by unfold s1;rw[vx,lD];rfl
def Hd(x:List Int)(c:List Li):Prop:=∀p ∈ c,0<=val x p
noncomputable def LP:Int->Bool| .ofNat _=>false| .negSucc _=>true
noncomputable def IT:Int->Bool| .ofNat n=>Nat.blt 0 n| .negSucc _=>false
theorem IU:∀{i},LP i=true->i<0| .negSucc n,_=>Int.negSucc_lt_zero n
theorem LQ:∀{i},IT i=true->0<i| .ofNat (n+1),_=>Int.natCast_pos.2 (Nat.succ_pos n)
noncomputable def hd(p:Li):Int:=match p.2 with|[]=>0|k::_=>k
noncomputable def tl(p:Li):Li:=(p.1,p.2.tail)
def elim(c:List Li):List Li:=
 (c.filter λp=> !(IT (hd p) || LP (hd p))).map tl++
 (c.filter λp=>IT (hd p)).flatMap λp=>(c.filter λp=>LP (hd p)).map λq=>add (sm (-hd q) (tl p)) (sm (hd p) (tl q))
theorem LR(u:Int)(p:Li):val (u::x) p=hd p * u+val x (tl p):=by
 obtain⟨k,l⟩:=p;cases l with
 |nil=>show k+0=0 * u+(k+0);rw[Int.zero_mul,Int.zero_add]
 |cons y l=>exact Int.add_left_comm ..
theorem nz{i}(h:(!(IT i || LP i))=true):i=0:=by
 cases i with
 |ofNat n=>cases n with
  |zero=>rfl
  |succ n=>exact absurd (show false=true from h) Bool.false_ne_true
 |negSucc n=>exact absurd (show false=true from h) Bool.false_ne_true
theorem Pj{u:Int}{c:List Li}(h:Hd (u::x) c):Hd x (elim c):=by
 intro p hp;rcases eF.1 hp with hp|hp
 ·obtain⟨q,hq,rfl⟩:=List.mem_map.1 hp;obtain⟨hq,e⟩:=List.mem_filter.1 hq;have h:=h q hq;rw[LR,nz e,Int.zero_mul,Int.zero_add]at h;exact h
 ·obtain⟨q,hq,hp⟩:=List.mem_flatMap.1 hp;obtain⟨r,hr,rfl⟩:=List.mem_map.1 hp;obtain⟨hq,e⟩:=List.mem_filter.1 hq;obtain⟨hr,f⟩:=List.mem_filter.1 hr;have a:=h q hq;have b:=h r hr;rw[LR]at a b;have e:=LQ e;have f:=IU f;rw[vx,wG,wG];have a:=Int.mul_nonneg (Int.le_of_lt (Int.neg_pos_of_neg f)) a;have b:=Int.mul_nonneg (Int.le_of_lt e) b;rw[Int.mul_add]at a b;have g: -hd r *(hd q * u)+hd q *(hd r * u)=0:=by rw[Int.neg_mul,Int.mul_left_comm (hd q),Int.add_left_neg]
  have e:=Int.add_nonneg a b;rw[a4,g,Int.zero_add]at e;exact e
noncomputable def fm:Nat->List Li->Bool
 | 0,c=>c.any λp=>LP p.1
 |n+1,c=>fm n (elim c)
theorem Rt:∀{n c} x,fm n c=true->x.length=n->¬ Hd x c
 | 0,c,[],h,_,hh=>by obtain⟨p,hp,h⟩:=List.any_eq_true.1 h;have h:=IU h;have e:=hh p hp;unfold val at e;rw[Pi,Int.add_zero]at e;exact Int.not_lt.2 e h
 |n+1,c,u::x,h,l,hh=>Rt (c:=elim c) x h (Nat.succ.inj (show Nat.succ x.length=Nat.succ n from l)) (Pj hh)
abbrev Cs:=List (List Li×Li)
def Kb(x:List Int)(X:Cs)(z:Int):Prop:=∃c ∈ X,Hd x c.1/\val x c.2=z
noncomputable def bi(f:Li->Li->Cs)(X Y:Cs):Cs:=X.flatMap λa=>Y.flatMap λb=>(f a.2 b.2).map λc=>(a.1++(b.1++c.1),c.2)
theorem Hd.app{c d}(h:Hd x c)(k:Hd x d):Hd x (c++d):=λp hp=>(eF.1 hp).elim (h p) (k p)
theorem Hd.nil:Hd x []:=λ_ h=>absurd h dJ
theorem Hd.cons{p c}(h:0<=val x p)(k:Hd x c):Hd x (p::c):=λq hq=>(dj.1 hq).elim (λe=>e▸h) (k q)
theorem Hd.one{p}(h:0<=val x p):Hd x [p]:= .cons h .nil
theorem ur{f:Li->Li->Cs}{X Y a b z}(h:Kb x X a)(k:Kb x Y b)(g:∀p q,val x p=a->val x q=b->Kb x (f p q) z):Kb x (bi f X Y) z:=
 h.elim λc⟨hc,c1,c2⟩=>k.elim λd⟨hd,d1,d2⟩=>(g _ _ c2 d2).elim λe⟨he,e1,e2⟩=>
  ⟨_,List.mem_flatMap.2 ⟨c,hc,List.mem_flatMap.2 ⟨d,hd,List.mem_map.2 ⟨e,he,rfl⟩⟩⟩,c1.app (d1.app e1),e2⟩
theorem wH{p:Li}{z:Int}(h:val x p=z):Kb x [([],p)] z:=⟨_,.head _,.nil,h⟩
theorem Kc{p q r s:Li}{z:Int}(h:0<=val x p/\val x q=z\/0<=val x r/\val x s=z):Kb x [([p],q),([r],s)] z:=
 h.elim (λh=>⟨_,.head _,.one h.1,h.2⟩) λh=>⟨_,.tail _ (.head _),.one h.1,h.2⟩
noncomputable def un:Nat->List Int| 0=>[1]|i+1=>0::un i
theorem LS:∀i x,G1 (un i) x=IP 0 x i
 | 0,[]=>rfl
 | 0,y::r=>(Int.add_zero _).trans (Int.one_mul y)
 |i+1,[]=>rfl
 |i+1,y::r=>by show 0 * y+G1 (un i) r=IP 0 r i;rw[Int.zero_mul,Int.zero_add,LS i r]
theorem Cy(i:Nat):val x (0,un i)=IP 0 x i:=(Int.zero_add _).trans (LS ..)
abbrev Ds:=List (List Li)
def Dh(x:List Int)(D:Ds):Prop:=∃d ∈ D,Hd x d
noncomputable def S8(f:Li->Li->Ds)(X Y:Cs):Ds:=X.flatMap λa=>Y.flatMap λb=>(f a.2 b.2).map λc=>a.1++(b.1++c)
noncomputable def cr(X Y:Ds):Ds:=X.flatMap λa=>Y.map λb=>a++b
def Yn(b:Bool)(p q:Li):Ds:=bif b then [[sb q p]]else [[s1 p q]]
def Yo(b:Bool)(p q:Li):Ds:=bif b then [[s1 q p]]else [[sb p q]]
def S9(b:Bool)(p q:Li):Ds:=bif b then [[sb p q,sb q p]]else [[s1 p q],[s1 q p]]
theorem LT{τ:List Int}:∀{σ:List Int}{i},Nat.blt i σ.length=true->IP 0 (σ++τ) i=IP 0 σ i
 |[],_,h=>nomatch h
 |u::σ,0,h=>rfl
 |u::σ,i+1,h=>LT (σ:=σ) h
theorem LU:∀{σ:List Int}{i},Nat.blt i σ.length=false->IP 0 σ i=0
 |[],_,h=>rfl
 |u::σ,0,h=>nomatch h
 |u::σ,i+1,h=>LU (σ:=σ) h
theorem LW:∀{ρ:List Nat}{i},IP 0 (ρ.map Int.ofNat) i=Int.ofNat (IP 0 ρ i)
 |[],_=>rfl
 |u::ρ,0=>rfl
 |u::ρ,i+1=>LW (ρ:=ρ)
theorem LX{τ:List Int}{i}:∀{σ:List Int},IP 0 (σ++τ) (σ.length+i)=IP 0 τ i
 |[]=>by rw[List.length_nil,Nat.zero_add];rfl
 |u::σ=>by rw[eD,Nat.add_right_comm];exact LX (σ:=σ)
theorem Bz{f:Li->Li->Ds}{X Y a b}(h:Kb x X a)(k:Kb x Y b)(g:∀p q,val x p=a->val x q=b->Dh x (f p q)):Dh x (S8 f X Y):=
 h.elim λc⟨hc,c1,c2⟩=>k.elim λd⟨hd,d1,d2⟩=>(g _ _ c2 d2).elim λe⟨he,e1⟩=>
  ⟨_,List.mem_flatMap.2 ⟨c,hc,List.mem_flatMap.2 ⟨d,hd,List.mem_map.2 ⟨e,he,rfl⟩⟩⟩,c1.app (d1.app e1)⟩
theorem IW{X Y}:Dh x X->Dh x Y->Dh x (cr X Y)
 |⟨c,hc,h⟩,⟨d,hd,k⟩=>⟨_,List.mem_flatMap.2 ⟨c,hc,List.mem_map.2 ⟨d,hd,rfl⟩⟩,h.app k⟩
theorem Dh.l{X Y}:Dh x X->Dh x (X++Y)|⟨c,hc,h⟩=>⟨c,List.mem_append_left _ hc,h⟩
theorem Dh.r{X Y}:Dh x Y->Dh x (X++Y)|⟨c,hc,h⟩=>⟨c,List.mem_append_right _ hc,h⟩
theorem Dh.o{p:Li}(h:0<=val x p):Dh x [[p]]:=⟨_,.head _,.one h⟩
def Vl(b:Bool)(p:Prop):Prop:=bif b then p else ¬ p
theorem ZU{b}{u v:Int}(h:Vl b (u<=v))(p q:Li)(a:val x p=u)(c:val x q=v):Dh x (Yn b p q):=by
 cases b with
 |true=>exact .o (by rw[lD,a,c];exact o9.2 h)
 |false=>exact .o (by rw[Cw,a,c];exact IQ.2 (Int.not_le.1 h))
theorem ZV{b}{u v:Int}(h:Vl b (u<v))(p q:Li)(a:val x p=u)(c:val x q=v):Dh x (Yo b p q):=by
 cases b with
 |true=>exact .o (by rw[Cw,a,c];exact IQ.2 h)
 |false=>exact .o (by rw[lD,a,c];exact o9.2 (Int.not_lt.1 h))
theorem ZW{b}{u v:Int}(h:Vl b (u=v))(p q:Li)(a:val x p=u)(c:val x q=v):Dh x (S9 b p q):=by
 cases b with
 |true=>exact⟨_,.head _,.cons (by rw[lD,a,c];exact o9.2 (Int.le_of_eq (Eq.symm h))) (.one (by rw[lD,a,c];exact o9.2 (Int.le_of_eq h)))⟩
 |false=>
  refine(Int.lt_or_gt_of_ne h).elim (λh=>⟨_,.tail _ (.head _),.one ?_⟩) λh=>⟨_,.head _,.one ?_⟩
  ·rw[Cw,a,c];exact IQ.2 h
  ·rw[Cw,a,c];exact IQ.2 h
theorem yt{b}{p q:Prop}(e:p↔q)(h:Vl b p):Vl b q:=by
 cases b with
 |true=>exact e.1 h
 |false=>exactλk=>h (e.2 k)
theorem EG(i:Int):val x (i,[])=i:=Int.add_zero i
noncomputable def xs(ρ:List Nat)(σ:List Int):List Int:=σ++ρ.map Int.ofNat
structure sh where
 e:List Nat->List Int->Nat
 n:Nat->Cs
 ok:∀ρ σ,Kb (xs ρ σ) (n σ.length) (Int.ofNat (e ρ σ))
structure BA where
 e:List Nat->List Int->Int
 n:Nat->Cs
 ok:∀ρ σ,Kb (xs ρ σ) (n σ.length) (e ρ σ)
structure nW where
 ev:List Nat->List Int->Prop
 d:Nat->Bool->Ds
 ok:∀ρ σ b,Vl b (ev ρ σ)->Dh (xs ρ σ) (d σ.length b)
theorem ZX{b:Bool}{X Y:Cs}{z:Int}(h:b=true->Kb x X z)(k:b=false->Kb x Y z):Kb x (bif b then X else Y) z:=match b with|true=>h rfl|false=>k rfl
section
variable(x y:sh)(i j:Nat)
abbrev sh.v:sh:=⟨λρ _=>IP 0 ρ i,λm=>[([],(0,un (m+i)))],λρ σ=>wH ((Cy _).trans (LX.trans LW))⟩
noncomputable abbrev sh.k:sh:=⟨λ_ _=>i,λ_=>[([],(i,[]))],λ_ _=>wH (EG _)⟩
abbrev sh.a:sh:=⟨λρ σ=>x.e ρ σ+y.e ρ σ,λm=>bi (λp q=>[([],add p q)]) (x.n m) (y.n m),λρ σ=>ur (x.ok ρ σ) (y.ok ρ σ) λp q h k=>wH (by rw[vx,h,k];rfl)⟩
abbrev sh.s:sh:=⟨λρ σ=>x.e ρ σ -y.e ρ σ,λm=>bi (λp q=>[([sb p q],sb p q),([sb q p],(0,[]))]) (x.n m) (y.n m),λρ σ=>ur (x.ok ρ σ) (y.ok ρ σ) λp q h k=>Kc (by rw[lD,lD,h,k,EG,o9,o9];exact(Nat.le_total (y.e ρ σ) (x.e ρ σ)).imp (λh=>⟨Int.ofNat_le.2 h,(Int.ofNat_sub h).symm⟩) λh=>⟨Int.ofNat_le.2 h,dN Int.ofNat (Nat.sub_eq_zero_of_le h).symm⟩)⟩
abbrev sh.l(i:Nat)(x:sh):sh:=⟨λρ σ=>i * x.e ρ σ,λm=>bi (λp _=>[([],sm i p)]) (x.n m) (x.n m),λρ σ=>ur (x.ok ρ σ) (x.ok ρ σ) λp q h k=>wH (by rw[wG,h];rfl)⟩
abbrev sh.r:sh:=⟨λρ σ=>x.e ρ σ * i,(sh.l i x).n,λρ σ=>Nat.mul_comm i (x.e ρ σ)▸(sh.l i x).ok ρ σ⟩
abbrev sh.mi:sh:=⟨λρ σ=>min (x.e ρ σ) (y.e ρ σ),λm=>bi (λp q=>[([sb q p],p),([sb p q],q)]) (x.n m) (y.n m),λρ σ=>ur (x.ok ρ σ) (y.ok ρ σ) λp q h k=>Kc (by rw[lD,lD,h,k,o9,o9];exact(Nat.le_total (x.e ρ σ) (y.e ρ σ)).imp (λh=>⟨Int.ofNat_le.2 h,dN Int.ofNat (qb h).symm⟩) λh=>⟨Int.ofNat_le.2 h,dN Int.ofNat (Nat.min_eq_right h).symm⟩)⟩
abbrev sh.ma:sh:=⟨λρ σ=>max (x.e ρ σ) (y.e ρ σ),λm=>bi (λp q=>[([sb q p],q),([sb p q],p)]) (x.n m) (y.n m),λρ σ=>ur (x.ok ρ σ) (y.ok ρ σ) λp q h k=>Kc (by rw[lD,lD,h,k,o9,o9];exact(Nat.le_total (x.e ρ σ) (y.e ρ σ)).imp (λh=>⟨Int.ofNat_le.2 h,dN Int.ofNat (Nat.max_eq_right h).symm⟩) λh=>⟨Int.ofNat_le.2 h,dN Int.ofNat (Nat.max_eq_left h).symm⟩)⟩
abbrev sh.ab:sh:=⟨λ_ σ=>Int.natAbs (IP 0 σ i),λm=>bif Nat.blt i m then [([(0,un i)],(0,un i)),([sm (-1) (0,un i)],sm (-1) (0,un i))]else [([],(0,[]))],λρ σ=>ZX (λe=>Kc (by
   rw[wG,Cy,Int.neg_mul,Int.one_mul];unfold xs;rw[LT e];exact(Int.le_total 0 (IP 0 σ i)).imp (λh=>⟨h,(Int.natAbs_of_nonneg h).symm⟩) λh=>⟨Int.neg_nonneg_of_nonpos h,(Int.ofNat_natAbs_of_nonpos h).symm⟩))
  λe=>wH (by rw[LU e];rfl)⟩
noncomputable abbrev sh.pw:sh:=⟨λ_ _=>i ^ j,λ_=>[([],((i ^ j:Nat),[]))],λ_ _=>wH (EG _)⟩
end
section
variable(x y:BA)(i j:Nat)
abbrev BA.v:BA:=⟨λ_ σ=>IP 0 σ i,λm=>bif Nat.blt i m then [([],(0,un i))]else [([],(0,[]))],λρ σ=>ZX (λe=>wH ((Cy _).trans (LT e))) λe=>wH (by rw[LU e];rfl)⟩
noncomputable abbrev BA.k:BA:=⟨λ_ _=>Int.ofNat i,λ_=>[([],(i,[]))],λ_ _=>wH (EG _)⟩
noncomputable abbrev BA.c(x:sh):BA:=⟨λρ σ=>Int.ofNat (x.e ρ σ),x.n,x.ok⟩
abbrev BA.a:BA:=⟨λρ σ=>x.e ρ σ+y.e ρ σ,λm=>bi (λp q=>[([],add p q)]) (x.n m) (y.n m),λρ σ=>ur (x.ok ρ σ) (y.ok ρ σ) λp q h k=>wH (by rw[vx,h,k])⟩
abbrev BA.s:BA:=⟨λρ σ=>x.e ρ σ -y.e ρ σ,λm=>bi (λp q=>[([],sb p q)]) (x.n m) (y.n m),λρ σ=>ur (x.ok ρ σ) (y.ok ρ σ) λp q h k=>wH (by rw[lD,h,k])⟩
abbrev BA.n':BA:=⟨λρ σ=> -x.e ρ σ,λm=>bi (λp _=>[([],sm (-1) p)]) (x.n m) (x.n m),λρ σ=>ur (x.ok ρ σ) (x.ok ρ σ) λp q h k=>wH (by rw[wG,h,Int.neg_mul,Int.one_mul])⟩
abbrev BA.ma:BA:=⟨λρ σ=>max (x.e ρ σ) (y.e ρ σ),λm=>bi (λp q=>[([sb q p],q),([sb p q],p)]) (x.n m) (y.n m),λρ σ=>ur (x.ok ρ σ) (y.ok ρ σ) λp q h k=>Kc (by rw[lD,lD,h,k,o9,o9];exact(Int.le_total (x.e ρ σ) (y.e ρ σ)).imp (λh=>⟨h,(Int.max_eq_right h).symm⟩) λh=>⟨h,(Int.max_eq_left h).symm⟩)⟩
abbrev BA.mi:BA:=⟨λρ σ=>min (x.e ρ σ) (y.e ρ σ),λm=>bi (λp q=>[([sb q p],p),([sb p q],q)]) (x.n m) (y.n m),λρ σ=>ur (x.ok ρ σ) (y.ok ρ σ) λp q h k=>Kc (by rw[lD,lD,h,k,o9,o9];exact(Int.le_total (x.e ρ σ) (y.e ρ σ)).imp (λh=>⟨h,(Int.min_eq_left h).symm⟩) λh=>⟨h,(Int.min_eq_right h).symm⟩)⟩
abbrev BA.pw:BA:=⟨λ_ _=>Int.ofNat i ^ j,(sh.pw i j).n,λ_ _=>wH ((EG _).trans (Int.natCast_pow i j))⟩
end
section
variable(x y:sh)(u v:BA)(p q:nW)
abbrev nW.l:nW:=⟨λρ σ=>x.e ρ σ<=y.e ρ σ,λm b=>S8 (Yn b) (x.n m) (y.n m),λρ σ b h=>Bz (x.ok ρ σ) (y.ok ρ σ) (ZU (yt Int.ofNat_le.symm h))⟩
abbrev nW.g:nW:=⟨λρ σ=>Nat.ble (x.e ρ σ) (y.e ρ σ)=true,(nW.l x y).d,λρ σ b h=>(nW.l x y).ok ρ σ b (yt ⟨fq,Nat.ble_eq_true_of_le⟩ h)⟩
abbrev nW.t:nW:=⟨λρ σ=>x.e ρ σ<y.e ρ σ,λm b=>S8 (Yo b) (x.n m) (y.n m),λρ σ b h=>Bz (x.ok ρ σ) (y.ok ρ σ) (ZV (yt Int.ofNat_lt.symm h))⟩
abbrev nW.e:nW:=⟨λρ σ=>x.e ρ σ=y.e ρ σ,λm b=>S8 (S9 b) (x.n m) (y.n m),λρ σ b h=>Bz (x.ok ρ σ) (y.ok ρ σ) (ZW (yt ⟨dN _,Int.ofNat.inj⟩ h))⟩
abbrev nW.L:nW:=⟨λρ σ=>u.e ρ σ<=v.e ρ σ,λm b=>S8 (Yn b) (u.n m) (v.n m),λρ σ b h=>Bz (u.ok ρ σ) (v.ok ρ σ) (ZU h)⟩
abbrev nW.S:nW:=⟨λρ σ=>u.e ρ σ<v.e ρ σ,λm b=>S8 (Yo b) (u.n m) (v.n m),λρ σ b h=>Bz (u.ok ρ σ) (v.ok ρ σ) (ZV h)⟩
abbrev nW.E:nW:=⟨λρ σ=>u.e ρ σ=v.e ρ σ,λm b=>S8 (S9 b) (u.n m) (v.n m),λρ σ b h=>Bz (u.ok ρ σ) (v.ok ρ σ) (ZW h)⟩
noncomputable abbrev nW.n:nW:=⟨λρ σ=>¬ p.ev ρ σ,λm b=>p.d m (!b),λρ σ b=>match b with|true=>λh=>p.ok ρ σ false h|false=>λh=>p.ok ρ σ true (Classical.not_not.1 h)⟩
abbrev nW.c:nW:=⟨λρ σ=>p.ev ρ σ/\q.ev ρ σ,λm b=>bif b then cr (p.d m b) (q.d m b)else p.d m b++q.d m b,λρ σ b=>match b with
 |true=>λh=>IW (p.ok ρ σ true h.1) (q.ok ρ σ true h.2)
 |false=>λh=>(Classical.em (p.ev ρ σ)).elim (λk=> .r (q.ok ρ σ false λl=>h ⟨k,l⟩)) λk=> .l (p.ok ρ σ false k)⟩
abbrev nW.o:nW:=⟨λρ σ=>p.ev ρ σ\/q.ev ρ σ,λm b=>bif b then p.d m b++q.d m b else cr (p.d m b) (q.d m b),λρ σ b=>match b with
 |true=>λh=>h.elim (λk=> .l (p.ok ρ σ true k)) λk=> .r (q.ok ρ σ true k)
 |false=>λh=>IW (p.ok ρ σ false λk=>h (.inl k)) (q.ok ρ σ false λk=>h (.inr k))⟩
noncomputable abbrev nW.f:nW:=⟨λ_ _=>False,λ_ b=>bif b then []else [[]],λ_ _ b=>match b with|true=>λh=>h.elim|false=>λ_=>⟨_,.head _,.nil⟩⟩
end
section
variable(ρ:List Nat)(σ:List Int)
abbrev Qn(c:nW)(l:List nW):Prop:=List.rec (c.ev ρ σ) (λh _ p=>h.ev ρ σ->p) l
end
noncomputable def hy(m:Nat):List nW->Ds
 |[]=>[[]]
 |h::r=>cr (h.d m true) (hy m r)
noncomputable def Yp(m:Nat):Nat->List Li| 0=>[]|n+1=>(0,un (m+n))::Yp m n
def Kd(m n:Nat)(c:nW)(hs:List nW):Bool:=(cr (c.d m false) (hy m hs)).all λd=>fm (m+n) (Yp m n++d)
section
variable{ρ:List Nat}{σ:List Int}
theorem Ru{c:nW}:∀{hs},¬ Qn ρ σ c hs->Dh (xs ρ σ) (hy σ.length hs)/\¬ c.ev ρ σ
 |[],h=>⟨⟨_,.head _,.nil⟩,h⟩
 |p::r,h=>
  have h:¬(p.ev ρ σ->Qn ρ σ c r):=h;have k:=Ru λk=>h λ_=>k
  ⟨IW (p.ok _ _ true (sQ λl=>h λm=>absurd m l)) k.1,k.2⟩
theorem LY:∀n,Hd (xs ρ σ) (Yp σ.length n)
 | 0=> .nil
 |n+1=> .cons (by rw[Cy];unfold xs;rw[LX,LW];exact Int.natCast_nonneg _) (LY n)
theorem q{c hs}(h:Kd σ.length ρ.length c hs=true):Qn ρ σ c hs:=
 sQ λk=>
  have k:=Ru k
  (IW (c.ok _ _ false k.2) k.1).elim λd⟨hd,l⟩=>
   Rt _ (fu.1 h d hd) (by unfold xs;rw[dI,f6]) ((LY _).app l)
end
abbrev A0:=sh.v 0
abbrev A1:=sh.v 1
abbrev A2:=sh.v 2
abbrev A3:=sh.v 3
abbrev A4:=sh.v 4
abbrev A5:=sh.v 5
abbrev A6:=sh.v 6
abbrev A7:=sh.v 7
abbrev Pn(ρ:List Nat)(c:nW)(hs:List nW):Prop:=Qn ρ [] c hs
theorem pQ{ρ c hs}(h:autoParam (Kd 0 ρ.length c hs=true) kr):Pn ρ c hs:=q h
theorem lE{a:Nat}(X:nW)(Y:List nW)(p:autoParam (Kd 0 1 X Y=true) kr):Pn [a] X Y:=q p
theorem ie{a b:Nat}(X:nW)(Y:List nW)(p:autoParam (Kd 0 2 X Y=true) kr):Pn [a,b] X Y:=q p
theorem kI{a b c:Nat}(X:nW)(Y:List nW)(p:autoParam (Kd 0 3 X Y=true) kr):Pn [a,b,c] X Y:=q p
theorem lx{a b c d:Nat}(X:nW)(Y:List nW)(p:autoParam (Kd 0 4 X Y=true) kr):Pn [a,b,c,d] X Y:=q p
theorem BB{a b c d e:Nat}(X:nW)(Y:List nW)(p:autoParam (Kd 0 5 X Y=true) kr):Pn [a,b,c,d,e] X Y:=q p
theorem Ke{a b c d e f:Nat}(X:nW)(Y:List nW)(p:autoParam (Kd 0 6 X Y=true) kr):Pn [a,b,c,d,e,f] X Y:=q p
theorem Kf{a b c d e f g:Nat}(X:nW)(Y:List nW)(p:autoParam (Kd 0 7 X Y=true) kr):Pn [a,b,c,d,e,f,g] X Y:=q p
theorem VA{a b c d e f g h:Nat}(X:nW)(Y:List nW)(p:autoParam (Kd 0 8 X Y=true) kr):Pn [a,b,c,d,e,f,g,h] X Y:=q p
theorem ZY{a b c d e f g h i:Nat}(X:nW)(Y:List nW)(p:autoParam (Kd 0 9 X Y=true) kr):Pn [a,b,c,d,e,f,g,h,i] X Y:=q p
theorem Yq{a b c d e f g h i j:Nat}(X:nW)(Y:List nW)(p:autoParam (Kd 0 10 X Y=true) kr):Pn [a,b,c,d,e,f,g,h,i,j] X Y:=q p
abbrev A8:=sh.v 8
abbrev A9:=sh.v 9
abbrev K1:=sh.k 1
theorem pI{ρ σ c hs}(h:autoParam (Kd σ.length ρ.length c hs=true) kr):Qn ρ σ c hs:=q h
end
section
variable{a b c d e f g h i j k l m n:Nat}
theorem dq(h:c<=a)(e:Nat.ble (d+0) (c+0)=true):d<=a:=(pQ:Pn [a,c,d] (.l A2 A0) [.l A1 A0,.g (.a A2 (.k 0)) (.a A1 (.k 0))]) h e
theorem EH:Pn [a,c,d] (.t A2 A0) [.l A1 A0,.g (.a (.a A2 K1) (.k 0)) (.a A1 (.k 0))]:=pQ
theorem dp:Pn [a,c,j] (.e A0 (.a (.s A0 A2) A2)) [.l A1 A0,.g (.a A2 (.k 0)) A1]:=pQ
theorem dl:Pn [a,c,d,k] (.l A2 A0) [.l A1 (.a A0 A3),.g (.a A2 A3) (.a A1 (.k 0))]:=pQ
theorem jw:Pn [a,c,d,j,k] (.l A2 (.a A0 A3)) [.l A1 (.a A0 A4),.g (.a A2 A4) (.a A1 A3)]:=pQ
theorem qG:Pn [a,c,j] (.e A0 (.a (.s A0 A2) A2)) [.t A1 A0,.g (.a A2 (.k 0)) (.a A1 K1)]:=pQ
theorem kJ(h:a<=c)(e:Nat.ble (c+0) (d+0)=true):a<=d:=(pQ:Pn [a,c,d] (.l A0 A2) [.l A0 A1,.g (.a A1 (.k 0)) (.a A2 (.k 0))]) h e
theorem qH:Pn [a,c,d] (.t A0 A2) [.l A0 A1,.g (.a A1 K1) (.a A2 (.k 0))]:=pQ
theorem BC:Pn [a,c,d,j] (.t (.a A0 A3) A2) [.t A0 A1,.g (.a A1 (.a A3 K1)) (.a A2 K1)]:=pQ
theorem yH:Pn [a,c,d] (.l A0 A2) [.t A0 A1,.g (.a A1 (.k 0)) (.a A2 K1)]:=pQ
theorem mq:Pn [a,c,d] (.t A0 A2) [.t A0 A1,.g (.a A1 K1) (.a A2 K1)]:=pQ
theorem X8:Pn [a,b,c,d] (.l A2 A3) [.l A0 A1,.e A2 A0,.l A1 A3]:=pQ
theorem ZZ:Pn [a,b,c,d] (.l A2 A3) [.t A0 A1,.e A2 A0,.l A1 A3]:=pQ
theorem zq3(h1:a=b)(h2:c=a)(h3:d=b+e)(h4:¬f<a):c<=f:=(pQ:Pn [a,b,c,d,e,f] (.l A2 A5) [.e A0 A1,.e A2 A0,.e A3 (.a A1 A4),.n (.t A5 A0)]) h1 h2 h3 h4
theorem zq4(h1:a=b)(h2:c=a)(h3:d=b+e)(h4:f<a):f<c:=(pQ:Pn [a,b,c,d,e,f] (.t A5 A2) [.e A0 A1,.e A2 A0,.e A3 (.a A1 A4),.t A5 A0]) h1 h2 h3 h4
theorem Z0:Pn [a,b] (.t (.a (.a A0 K1) A1) (.k 1000)) [.t (.a A0 (.a A1 K1)) (.k 1000)]:=pQ
theorem VB{a:Int}:Qn [] [a] (.t (.ab 0) (.k 1073741824)) [.c (.S (.k 0) (.v 0)) (.S (.v 0) (.k 1000000))]:=pI
theorem VC{a:Int}:Qn [] [a] (.n (.E (.v 0) (.k 0))) [.c (.S (.k 0) (.v 0)) (.S (.v 0) (.k 1000000))]:=pI
theorem VD:Pn [a] (.E (.c (.a A0 (.k 1))) (.a (.c A0) (.k 1))) []:=pQ
theorem Yr:Pn [a,b] (.t (.a (.a (.a A0 K1) (.l 16 A1)) (.k 200)) (.k 9900)) [.t (.a (.a A0 (.l 16 (.a A1 K1))) (.k 200)) (.k 9900)]:=pQ
theorem VE:Pn [a,b] (.t (.a A0 (.k 64)) A1) [.t (.a A0 (.k 66)) A1]:=pQ
theorem VF:Pn [a,b] (.t A0 A1) [.t (.a A0 (.k 66)) A1]:=pQ
theorem VG{a:Int}:Qn [] [a] (.L (.n' (.pw 2 63)) (.v 0)) [.t (.ab 0) (.pw 2 40)]:=pI
theorem VH{a:Int}:Qn [] [a] (.S (.v 0) (.k 0)) [.n (.L (.k 0) (.v 0))]:=pI
theorem VI{a:Int}:Qn [] [a] (.S (.v 0) (.pw 2 63)) [.t (.ab 0) (.pw 2 40)]:=pI
theorem Ys{a:Int}(h:0<=a+(↑b:Int)/\a+(↑b:Int)<(↑b:Int)):Int.toNat (a+(↑b:Int))=Int.toNat (a+(↑b:Int))/\ -(↑b:Int)<=a:=⟨rfl,(pI:Qn [b] [a] (.L (.n' (.c A0)) (.v 0)) [.L (.k 0) (.a (.v 0) (.c A0))]) h.1⟩
theorem Yt{a:Int}(h:0<=a)(k:0<=a/\a<(↑b:Int)):Int.toNat a=Int.toNat a/\Int.toNat a<b:=⟨rfl,(Int.toNat_lt h).2 k.2⟩
theorem LZ:Pn [a,b,c,d,e] (.l (.a (.a A0 A4) A2) A3) [.l (.a (.a A0 A1) A2) A3,.l A4 A1]:=pQ
theorem G2:Pn [a,b,c,d,e,f,g,h] (.l (.a (.a (.a (.a A0 A1) (.a A4 A5)) (.k 0)) A6) A3) [.l (.a (.a A0 A1) A2) A3,.l (.a (.a A4 A5) A6) A7,.l A7 A2]:=pQ
theorem VJ:Pn [a,b,c,d,e] (.l (.a (.a (.a A0 A1) (.k 0)) A2) A4) [.l (.a (.a A0 A1) A2) A3,.l A3 A4]:=pQ
theorem AB:Pn [a,b] (.l A0 A1) [.t A0 A1]:=pQ
theorem Pk:Pn [a,b] (.e A1 (.a (.s A1 K1) K1)) [.t A0 A1]:=pQ
theorem VK:Pn [a,b,c] (.e A2 (.a (.s A2 K1) K1)) [.t A0 A1,.l A1 (.a A2 A0)]:=pQ
theorem VM:Pn [a,b,c] (.t A2 A1) [.t (.a A0 K1) A1,.l A2 A0]:=pQ
theorem Tb:Pn [a,b] (.l A0 (.a A0 A1)) []:=pQ
theorem Yu(h1:a<=b)(h2:b+(c+1)<d)(h3:d=e+1):a<d:=(pQ:Pn [a,b,c,d,e] (.t A0 A3) [.l A0 A1,.t (.a A1 (.a A2 K1)) A3,.e A3 (.a A4 K1)]) h1 h2 h3
theorem Cz(h1:max a b+1<=c):a<c:=(pQ:Pn [a,b,c] (.t A0 A2) [.l (.a (.ma A0 A1) K1) A2]) h1
theorem VN:Pn [a,b,c,d] (.e A3 (.a (.s A3 K1) K1)) [.l A0 A1,.t (.a A1 (.a A2 K1)) A3]:=pQ
theorem VO:Pn [a,b,c,d] (.l A0 (.a A1 (.a A2 (.a A3 K1)))) [.l A0 (.a (.a A1 K1) A2)]:=pQ
theorem VQ:Pn [a,b,c,d] (.e A3 (.a (.s A3 K1) K1)) [.t (.a A0 (.a A1 K1)) A2,.l A2 (.a A3 A0)]:=pQ
theorem Kg(h1:a<=b)(h2:b+(c+1)<d):a<d:=(pQ:Pn [a,b,c,d] (.t A0 A3) [.l A0 A1,.t (.a A1 (.a A2 K1)) A3]) h1 h2
theorem G3:Pn [a,b,c] (.l A0 A2) [.l (.a (.ma A0 A1) K1) A2]:=pQ
theorem Pl(h1:a<=b)(h2:c<=d)(h3:b+(d+1)<e):c<e:=(pQ:Pn [a,b,c,d,e] (.t A2 A4) [.l A0 A1,.l A2 A3,.t (.a A1 (.a A3 K1)) A4]) h1 h2 h3
theorem CA(h1:max a b+1<=c):b<c:=(pQ:Pn [a,b,c] (.t A1 A2) [.l (.a (.ma A0 A1) K1) A2]) h1
theorem VR:Pn [a] (.l A0 (.a (.a A0 K1) K1)) []:=pQ
theorem VS:Pn [a,b,c] (.l K1 (.a A1 (.a A0 A2))) [.l K1 A0]:=pQ
theorem Rv:Pn [a,b] (.t (.k 0) A1) [.t A0 A1]:=pQ
theorem Rw(h1:a<=b)(h2:c<=d)(h3:e<=f)(h4:b+(g+(d+(f+1)))<h):a<h:=(pQ:Pn [a,b,c,d,e,f,g,h] (.t A0 A7) [.l A0 A1,.l A2 A3,.l A4 A5,.t (.a A1 (.a A6 (.a A3 (.a A5 K1)))) A7]) h1 h2 h3 h4
theorem L0:Pn [a,b] (.e (.a A1 K1) A0) [.e A0 (.a A1 K1)]:=pQ
theorem Rx:Pn [a,b,c] (.e (.a A2 (.k 2)) A0) [.e A0 (.a A1 K1),.e A1 (.a A2 K1)]:=pQ
theorem Ry:Pn [a] (.f) [.e (.k 0) A0,.t (.k 0) A0]:=pQ
theorem VT(h1:a=b)(h2:¬c+d<b):b<=c+d:=(pQ:Pn [a,b,c,d] (.l A1 (.a A2 A3)) [.e A0 A1,.n (.t (.a A2 A3) A1)]) h1 h2
theorem VV(h:a<500)(i:b=a)(k:0<a):(0<= -1+(↑b:Int)/\ -1+(↑b:Int)<(↑b:Int))/\Int.toNat (-1+(↑b:Int))=a -1:=⟨(pI:Qn [a,b] [] (.c (.L (.k 0) (.a (.n' (.k 1)) (.c A1))) (.S (.a (.n' (.k 1)) (.c A1)) (.c A1))) [.e A1 A0,.t (.k 0) A0]) i k,dN Int.toNat ((pI:Qn [a,b] [] (.E (.a (.n' (.k 1)) (.c A1)) (.c (.s A0 (.k 1)))) [.e A1 A0,.t (.k 0) A0]) i k)⟩
theorem VW(h:a<1000)(k:b<1000):Int.natAbs ((↑b:Int)+(↑a:Int))<2 ^ 40:=(pQ:Pn [a,b] (.t (.a A1 A0) (.pw 2 40)) [.t A0 (.k 1000),.t A1 (.k 1000)]) h k
theorem VX(h1:a=b+1):¬a=b:=(pQ:Pn [a,b] (.n (.e A0 A1)) [.e A0 (.a A1 K1)]) h1
theorem L1:Pn [a,b,c] (.t (.s A0 A2) A1) [.t A0 A1,.l A2 A0]:=pQ
theorem IX(h1:a+1<b+1):a<b:=(pQ:Pn [a,b] (.t A0 A1) [.t (.a A0 K1) (.a A1 K1)]) h1
theorem Rz:Pn [a,b,c] (.t (.s A2 (.k 0)) A1) [.t A0 A1,.l A2 A0]:=pQ
theorem RA:Pn [a] (.l (.k 0) A0) []:=pQ
theorem IY:Pn [a,b] (.t A0 (.a (.ma A0 A1) K1)) []:=pQ
theorem IZ:Pn [a,b] (.t A0 (.a (.ma A1 A0) K1)) []:=pQ
theorem EI:Pn [a,b] (.l A1 A0) [.l A0 A1,.n (.t A0 A1)]:=pQ
theorem L2:Pn [a,b,c] (.t (.s A0 (.a A1 K1)) A2) [.t (.s A0 A1) (.a A2 K1),.t A1 A0]:=pQ
theorem BD(h1:a<b):a+1<=b:=(pQ:Pn [a,b] (.l (.a A0 K1) A1) [.t A0 A1]) h1
theorem VY(h1:a≠b)(h2:c<d):b≠a:=(pQ:Pn [a,b,c,d] (.n (.e A1 A0)) [.n (.e A0 A1),.t A2 A3]) h1 h2
theorem VZ(h1:a+(b -c)<d):a<d:=(pQ:Pn [a,b,c,d] (.t A0 A3) [.t (.a A0 (.s A1 A2)) A3]) h1
theorem RC:Pn [a,b] (.t A1 A0) [.l (.k 500) A0,.t A1 (.k 500)]:=pQ
theorem RD:Pn [a,b,c] (.l (.a A1 (.k 3)) A2) [.l (.a (.a (.ma A0 A1) K1) (.k 3)) (.a A2 K1)]:=pQ
theorem RE:Pn [a,b,c] (.l (.a A0 (.k 3)) A2) [.l (.a (.a (.ma A0 A1) K1) (.k 3)) (.a A2 K1)]:=pQ
theorem RF:Pn [a,b,c] (.l (.k 2) A2) [.l (.a (.a (.ma A0 A1) K1) (.k 3)) (.a A2 K1)]:=pQ
theorem V0(h:a<1000):Int.natAbs (2 *(↑a:Int))<1099511627776:=(pQ:Pn [a] (.t (.l 2 A0) (.k 1099511627776)) [.t A0 (.k 1000)]) h
theorem I0(h1:¬a<b):¬(↑a:Int)<(↑b:Int):=(pQ:Pn [a,b] (.n (.S (.c A0) (.c A1))) [.n (.t A0 A1)]) h1
theorem V1(h:a<1000)(_:a<b):Int.natAbs (↑a:Int)<2 ^ 40:=Nat.lt_trans h (by decide)
theorem yI(h1:a<b):(↑a:Int)<(↑b:Int):=(pQ:Pn [a,b] (.S (.c A0) (.c A1)) [.t A0 A1]) h1
theorem L3:Pn [a] (.S (.k 0) (.c A0)) [.t (.k 0) A0]:=pQ
theorem V2{a:Int}(h:0<=a):a=(↑(Int.toNat a):Int):=(Int.toNat_of_nonneg h).symm
theorem V3{a:Int}(h:0<=a)(k:a<(↑b:Int)):Int.toNat a<b:=(Int.toNat_lt h).2 k
theorem RG:Pn [a,b] (.l (.a A0 K1) (.a A1 K1)) [.l A0 A1]:=pQ
theorem I1:Pn [a] (.l (.a A0 K1) (.a A0 K1)) []:=pQ
theorem V4:3<=a+3:=(pQ:Pn [a] (.l (.k 3) (.a A0 (.k 3))) [])
theorem RH(h1:a<2):0<=(↑a:Int)/\(↑a:Int)<100:=(pQ:Pn [a] (.c (.L (.k 0) (.c A0)) (.S (.c A0) (.k 100))) [.t A0 (.k 2)]) h1
theorem BE{a:Int}:Qn [b] [a] (.L (.s (.v 0) (.k 1)) (.c A0)) [.L (.v 0) (.c (.a A0 (.k 1)))]:=pI
theorem RI{a:Int}:Qn [b] [a] (.L (.s (.v 0) (.k 2)) (.c (.s A0 (.k 1)))) [.L (.v 0) (.c (.a A0 (.k 1)))]:=pI
theorem RJ:Pn [a,b,c,d] (.l A3 (.a A1 (.a K1 (.l 2 A2)))) [.l A0 (.a (.a A1 K1) A2),.l A3 (.a A0 A2)]:=pQ
theorem RK:Pn [a,b,c] (.l (.a A2 A1) (.k 900)) [.l (.a (.a A0 K1) (.l 2 A1)) (.k 900),.l A2 (.a (.a A0 K1) A1)]:=pQ
theorem RL:Pn [a,b] (.l (.a (.a A0 K1) A1) (.k 900)) [.l (.a (.a A0 K1) (.l 2 A1)) (.k 900)]:=pQ
theorem RM:Pn [a,b] (.t A0 (.k 1000)) [.l (.a (.a A0 K1) (.l 2 A1)) (.k 900)]:=pQ
theorem V5(h1:a<4):0<=(↑a:Int)/\(↑a:Int)<100:=(pQ:Pn [a] (.c (.L (.k 0) (.c A0)) (.S (.c A0) (.k 100))) [.t A0 (.k 4)]) h1
theorem I2:Pn [a] (.l (.a (.a A0 K1) K1) (.a A0 (.k 2))) []:=pQ
theorem V6(h:a<1000):Int.natAbs (↑a:Int)<2 ^ 40:=Nat.lt_trans h (by decide)
theorem BF:Pn [a,b] (.l K1 A1) [.l (.a (.l 2 (.a A0 K1)) (.k 2)) (.a A1 K1)]:=pQ
theorem RN:Pn [a,b] (.l (.a (.a (.a A0 K1) K1) (.l 2 A1)) (.k 900)) [.l (.a A0 (.a (.l 3 A1) (.k 2))) (.k 900),.l (.k 2) A1]:=pQ
theorem RO:Pn [a] (.l (.a K1 (.l 2 A0)) (.a K1 (.l 3 A0))) [.l (.k 2) A0]:=pQ
theorem V7(h1:a<9):(↑a:Int)<2\/a=2\/a=7\/a=8\/a=3\/a=4\/a=5\/a=6:=(pQ:Pn [a] (.o (.S (.c A0) (.k 2)) (.o (.e A0 (.k 2)) (.o (.e A0 (.k 7)) (.o (.e A0 (.k 8)) (.o (.e A0 (.k 3)) (.o (.e A0 (.k 4)) (.o (.e A0 (.k 5)) (.e A0 (.k 6))))))))) [.t A0 (.k 9)]) h1
theorem RP:Pn [a] (.t A0 (.a A0 K1)) []:=pQ
theorem RQ:a % 10<10:=Nat.mod_lt a (by decide)
theorem V8:(↑a:Int) / 10=(↑(a / 10):Int):=rfl
theorem V9:(↑a:Int) % 10=(↑(a % 10):Int):=rfl
theorem Wa(h1:a<10):a=0\/a=1\/a=2\/a=3\/a=4\/a=5\/a=6\/a=7\/a=8\/a=9:=(pQ:Pn [a] (.o (.e A0 (.k 0)) (.o (.e A0 K1) (.o (.e A0 (.k 2)) (.o (.e A0 (.k 3)) (.o (.e A0 (.k 4)) (.o (.e A0 (.k 5)) (.o (.e A0 (.k 6)) (.o (.e A0 (.k 7)) (.o (.e A0 (.k 8)) (.e A0 (.k 9))))))))))) [.t A0 (.k 10)]) h1
theorem L4:Pn [a,b,c] (.l (.a (.a A0 A1) A2) (.k 3000000)) [.l (.a (.a A0 A1) A2) (.k 1000000)]:=pQ
theorem L5:Pn [a,b,c] (.l (.a A0 A1) (.k 3000000)) [.l (.a (.a A0 A1) A2) (.k 1000000)]:=pQ
theorem I3:Pn [a] (.l (.a A0 (.k 3)) (.a A0 (.k 3))) []:=pQ
theorem RS:Pn [a] (.l (.a A0 (.k 2)) (.a A0 (.k 2))) []:=pQ
theorem RU:Pn [a,b] (.l (.a A0 A1) (.k 3000000)) [.l (.a A0 A1) (.k 1000000)]:=pQ
theorem Wb(h1:a<=2):¬(↑a:Int) -80 > 0:=(pQ:Pn [a] (.n (.S (.k 0) (.s (.c A0) (.k 80)))) [.l A0 (.k 2)]) h1
theorem Wc(h1:a<=2):a<2 ^ 40:=(pQ:Pn [a] (.t A0 (.pw 2 40)) [.l A0 (.k 2)]) h1
theorem RW:Pn [a,b] (.l (.a A0 (.k 2)) (.a A1 (.k 3))) [.l A0 (.a A1 K1)]:=pQ
theorem RX:Pn [a,b,c] (.l (.a A0 K1) (.k 1000000)) [.l (.a A0 (.a (.ma A1 A2) K1)) (.k 1000000)]:=pQ
theorem RZ:Pn [a,b,c,d] (.l (.a A0 (.a (.a A1 A2) A3)) (.k 1000000)) [.l (.a (.a A0 (.a A1 A2)) A3) (.k 1000000)]:=pQ
theorem R0:Pn [a,b,c,d,e] (.l A4 (.k 1000000)) [.l (.a (.a A0 (.a A1 A2)) A3) (.k 1000000),.l A4 A2]:=pQ
theorem R1:Pn [a,b,c] (.l (.a A2 A1) (.k 3000000)) [.l (.a A0 A1) (.k 1000000),.l A2 (.a A0 (.k 2))]:=pQ
theorem L6:Pn [a,b] (.l A1 (.k 1000000)) [.l (.a A0 A1) (.k 1000000)]:=pQ
theorem L7:Pn [a,b] (.l A1 (.k 1000000)) [.l (.a A0 K1) (.k 500),.t A1 (.a A0 K1)]:=pQ
theorem L8:Pn [a,b,c] (.t A2 A0) [.l (.k 1000) A0,.l (.a A1 K1) (.k 500),.t A2 (.a A1 K1)]:=pQ
theorem EJ:Pn [a,b,c] (.l (.k 5) A1) [.l (.a (.l 3 (.a A0 K1)) (.k 5)) A1,.t A2 (.a A0 K1)]:=pQ
theorem R2:Pn [a,b,c] (.l A2 (.k 1000000)) [.l A0 (.k 1000000),.c (.l A1 A0) (.l A2 A0)]:=pQ
theorem R3:Pn [a,b,c] (.l A1 (.k 1000000)) [.l A0 (.k 1000000),.c (.l A1 A0) (.l A2 A0)]:=pQ
theorem L9:Pn [a,b,c] (.l (.k 4) A1) [.l (.a (.l 3 (.a A0 K1)) (.k 5)) A1,.t A2 (.a A0 K1)]:=pQ
theorem R4:Pn [a,b,c,d,e,f,g] (.l A6 (.k 1000000)) [.l (.a (.a A0 (.a (.a (.a A1 A2) A1) A3)) A4) (.k 1000000),.l A5 A0,.l A6 A3]:=pQ
theorem R5:Pn [a,b] (.n (.t A1 A0)) [.e (.s A0 A1) (.k 0)]:=pQ
theorem We(h1:a<100000):a<2 ^ 40:=(pQ:Pn [a] (.t A0 (.pw 2 40)) [.t A0 (.k 100000)]) h1
theorem Wf(h1:¬a+b<=c):c<=a+b:=(pQ:Pn [a,b,c] (.l A2 (.a A0 A1)) [.n (.l (.a A0 A1) A2)]) h1
theorem Wg(h:a<100000)(k:b<a):Int.natAbs (↑b:Int)<2 ^ 40:=Nat.lt_trans k (Nat.lt_trans h (by decide))
theorem Ma:Pn [a,b] (.e (.a (.a A0 K1) A1) (.a A0 (.a A1 K1))) []:=pQ
theorem Mb:Pn [a,b] (.e A1 (.a (.s A1 K1) K1)) [.t (.a A0 K1) A1]:=pQ
theorem Wh(h:a<100000):Int.natAbs (↑a:Int)<2 ^ 40:=Nat.lt_trans h (by decide)
theorem Wi(h1:a=b -48)(h2:a<10):¬10<=(↑a:Int):=(pQ:Pn [a,b] (.n (.L (.k 10) (.c A0))) [.e A0 (.s A1 (.k 48)),.t A0 (.k 10)]) h1 h2
theorem Wj(h1:a=b -48)(h2:a<10):¬(↑a:Int)<0:=(pQ:Pn [a,b] (.n (.S (.c A0) (.k 0))) [.e A0 (.s A1 (.k 48)),.t A0 (.k 10)]) h1 h2
theorem Wk(h:a<100)(_:b=a):Int.natAbs (↑a:Int)<2 ^ 40:=Nat.lt_trans h (by decide)
theorem Wl:48+a % 10<=57:=Nat.add_le_add_left (Nat.le_of_lt_succ RQ) 48
theorem Wm:48<=48+a % 10:=Nat.le_add_right ..
theorem Wn:(0 * 10+a / 10) * 10+a % 10=a:=by rw[Nat.zero_mul,Nat.zero_add];exact Nat.div_add_mod' a 10
theorem Wo(h1:48<=a/\a<=57):¬97<=a:=(pQ:Pn [a] (.n (.l (.k 97) A0)) [.c (.l (.k 48) A0) (.l A0 (.k 57))]) h1
theorem R6:Pn [a] (.l K1 (.s A0 K1)) [.l (.k 6) A0]:=pQ
theorem Wp(h1:a+b<100000):a<100000:=(pQ:Pn [a,b] (.t A0 (.k 100000)) [.t (.a A0 A1) (.k 100000)]) h1
theorem Wq:¬a<a:=(pQ:Pn [a] (.n (.t A0 A0)) [])
theorem Mc:Pn [a,b] (.l A1 (.k 64)) [.l A0 (.k 60),.l A1 (.a A0 (.k 2))]:=pQ
theorem Wr(h:a<500)(k:b<a):Int.natAbs (↑b:Int)<2 ^ 40:=Nat.lt_trans k (Nat.lt_trans h (by decide))
theorem Me(h1:a<=56)(h2:a=b)(h3:c<=a):c<=60:=(pQ:Pn [a,b,c] (.l A2 (.k 60)) [.l A0 (.k 56),.e A0 A1,.l A2 A0]) h1 h2 h3
theorem Wt(h1:a<=56)(h2:a=b)(h3:c+d<=b):c<=60:=(pQ:Pn [a,b,c,d] (.l A2 (.k 60)) [.l A0 (.k 56),.e A0 A1,.l (.a A2 A3) A1]) h1 h2 h3
theorem R7:Pn [a,b,c] (.t A1 (.k 1000)) [.t A0 (.k 500),.l A1 A2,.t A2 A0]:=pQ
theorem R8:Pn [a,b] (.t A0 (.k 1000)) [.e A0 A1,.l A0 (.k 441)]:=pQ
theorem R9(h1:a=3):2<a:=(pQ:Pn [a] (.t (.k 2) A0) [.e A0 (.k 3)]) h1
theorem Sa:Pn [a] (.l (.k 340) A0) [.e A0 (.k 400)]:=pQ
theorem Sb:Pn [a] (.l (.k 500) A0) [.e A0 (.k 200000)]:=pQ
theorem Sd(h1:a=200000)(h2:b<=441):b<a:=(pQ:Pn [a,b] (.t A1 A0) [.e A0 (.k 200000),.l A1 (.k 441)]) h1 h2
theorem Se(h1:a<=38)(h2:b<=a):b<=60:=(pQ:Pn [a,b] (.l A1 (.k 60)) [.l A0 (.k 38),.l A1 A0]) h1 h2
theorem Sf(h1:¬40<=a):a<=40:=(pQ:Pn [a] (.l A0 (.k 40)) [.n (.l (.k 40) A0)]) h1
theorem Sg:Pn [a,b,c,d,e,f] (.t (.s A0 A3) A2) [.t (.s A0 A1) (.a A2 K1),.l (.a A1 K1) A0,.l A3 A0,.l A4 A5,.e A4 (.s A0 A3),.e A5 (.s A0 (.a A1 K1))]:=pQ
end
section
open PySem.Calls PySem.Spec PyProof.Rows
inductive D where
 |none
 |bool (b:Bool)
 |int (i:Int)
 |str (s:List Nat)
 |tup (xs:List D)
 deriving Inhabited
theorem D.str.inj{a b:List Nat}(h:D.str a=D.str b):a=b:=by cases h;rfl
theorem D.int.inj{a b:Int}(h:D.int a=D.int b):a=b:=by cases h;rfl
@[simp] theorem D.int.injEq{a b:Int}:(D.int a=D.int b)=(a=b):=propext ⟨D.int.inj,dN _⟩
theorem D.tup.inj{a b:List D}(h:D.tup a=D.tup b):a=b:=by cases h;rfl
mutual
noncomputable def D.py:D->PyData
 | .none=> .none
 | .bool b=> .bool b
 | .int i=> .int i
 | .str s=> .str ⟨s.toArray⟩
 | .tup xs=> .tuple (D.pys xs)
noncomputable def D.pys:List D->List PyData
 |[]=>[]
 |x::xs=>D.py x::D.pys xs
end
mutual
noncomputable def D.ok:D->Bool
 | .none=>true
 | .bool _=>true
 | .int _=>true
 | .str s=>s.all (· <0x110000)
 | .tup xs=>D.oks xs
noncomputable def D.oks:List D->Bool
 |[]=>true
 |x::xs=>D.ok x && D.oks xs
end
mutual
noncomputable def D.dep:D->Nat
 | .none=>0
 | .bool _=>0
 | .int _=>0
 | .str _=>0
 | .tup xs=>D.deps xs+1
noncomputable def D.deps:List D->Nat
 |[]=>0
 |x::xs=>max (D.dep x) (D.deps xs)
end
mutual
inductive Rd (h:Heap):Value->D->Prop
 |none:Rd h .none .none
 |bool (b0):Rd h (.bool b0) (.bool b0)
 |int (i0 t0):Rd h (.int i0 t0) (.int i0)
 |str (x:Str) (t):Rd h (.str x t) (.str x.cps.toList)
 |tup {a:Addr} {o:Obj} {vs:Array Value} {n:Nat} {xs:List D}:h.get? a=some o->o.cls= .type "tuple"->o.data= .seq vs n->dD h vs.toList xs->Rd h (.ref a) (.tup xs)
inductive dD (h:Heap):List Value->List D->Prop
 |nil:dD h [] []
 |cons {v0 vs0 d0 ds0}:Rd h v0 d0->dD h vs0 ds0->dD h (v0::vs0) (d0::ds0)
end
theorem Rd.both{h:Heap}{P:Value->D->Prop}{R:List Value->List D->Prop}(a:P .none .none)(b:∀b,P (.bool b) (.bool b))(c:∀i t,P (.int i t) (.int i))(d:∀(x:Str) t,P (.str x t) (.str x.cps.toList))
  (e:∀{a:Addr} {o:Obj} {vs:Array Value} {n:Nat} {xs:List D},h.get? a=some o->o.cls= .type "tuple"->o.data= .seq vs n->R vs.toList xs->P (.ref a) (.tup xs))
  (m:R [] [])(k:∀{v d vs ds},Rd h v d->P v d->dD h vs ds->R vs ds->R (v::vs) (d::ds)):(∀{v d},Rd h v d->P v d)/\∀{v d},dD h v d->R v d:=
 ⟨λx=>Rd.rec (motive_1:=λv d _=>P v d) (motive_2:=λv d _=>R v d) a b c d (λh1 h2 h3 _=>e h1 h2 h3) m (λh1 h2 i1 i2=>k h1 i1 h2 i2) x,λx=>dD.rec (motive_1:=λv d _=>P v d) (motive_2:=λv d _=>R v d) a b c d (λh1 h2 h3 _=>e h1 h2 h3) m (λh1 h2 i1 i2=>k h1 i1 h2 i2) x⟩
theorem dD.ind{h:Heap}{R:List Value->List D->Prop}(m:R [] [])(k:∀{v d vs ds},Rd h v d->dD h vs ds->R vs ds->R (v::vs) (d::ds)){v:List Value}{d:List D}(x:dD h v d):R v d:=
 (Rd.both (P:=λ_ _=>True) trivial (λ_=>trivial) (λ_ _=>trivial) (λ_ _=>trivial) (λ_ _ _ _=>trivial) m λa _ b c=>k a b c).2 x
theorem Rd.reads2{h:Heap}:(∀{v d},Rd h v d->Reads h v d.py [])/\∀{v d},dD h v d->ReadsAll h v (D.pys d) []:=
 Rd.both .none .bool .int .str (λh1 h2 h3 h4=> .tuple h1 h2 h3 h4) .nil λ_ h1 _ h2=>ReadsAll.cons (as:=[]) h1 h2
theorem Rd.reads{h:Heap}{v:Value}{d:D}(x:Rd h v d):Reads h v d.py []:=Rd.reads2.1 x
theorem dD.reads{h:Heap}{v:List Value}{d:List D}(x:dD h v d):ReadsAll h v (D.pys d) []:=Rd.reads2.2 x
theorem dD.length{h:Heap}{v:List Value}{d:List D}(x:dD h v d):v.length=d.length:=dD.ind (R:=λv d=>v.length=d.length) rfl (λ_ _ h=>dN (· +1) h) x
theorem dD.get{h:Heap}{v:List Value}{d:List D}{i:Nat}{x:D}(r:dD h v d):d[i]? =some x->∃y,v[i]? =some y/\Rd h y x:=
 dD.ind (R:=λv d=>∀i,d[i]? =some x->∃y,v[i]? =some y/\Rd h y x) (λ_ e=>eC e) (λ{v d vs ds} h1 _ h i=>match i with
  | 0=>λe=>⟨v,rfl,si e▸h1⟩
  |i+1=>λe=>h i e) r i
theorem dD.append{h:Heap}{d':List D}{v':List Value}(k:dD h v' d'){v:List Value}{d:List D}(x:dD h v d):dD h (v++v') (d++d'):=dD.ind (R:=λv d=>dD h (v++v') (d++d')) k (λh1 _ h2=> .cons h1 h2) x
theorem dD.drop{h:Heap}{v:List Value}{d:List D}(i:Nat)(x:dD h v d):dD h (v.drop i) (d.drop i):=
 dD.ind (R:=λv d=>∀i,dD h (v.drop i) (d.drop i)) (λi=>by rw[List.drop_nil,List.drop_nil];exact .nil) (λh1 h2 h i=>match i with
  | 0=> .cons h1 h2
  |i+1=>h i) x i
theorem dD.take{h:Heap}{v:List Value}{d:List D}(i:Nat)(x:dD h v d):dD h (v.take i) (d.take i):=
 dD.ind (R:=λv d=>∀i,dD h (v.take i) (d.take i)) (λi=>by rw[List.take_nil,List.take_nil];exact .nil) (λh1 h2 h i=>match i with
  | 0=> .nil
  |i+1=> .cons h1 (h i)) x i
theorem dD.snoc{h:Heap}{x:D}{y:Value}(k:Rd h y x){v:List Value}{d:List D}(r:dD h v d):dD h (v++[y]) (d++[x]):=dD.append (.cons k .nil) r
theorem dD.reverse{h:Heap}{v:List Value}{d:List D}(x:dD h v d):dD h v.reverse d.reverse:=dD.ind (R:=λv d=>dD h v.reverse d.reverse) .nil (λh1 _ h2=>by rw[List.reverse_cons,List.reverse_cons];exact .snoc h1 h2) x
theorem Rd.str_inv{h:Heap}{v:Value}{s:List Nat}(r:Rd h v (.str s)):∃t,v= .str ⟨s.toArray⟩ t:=by
 cases r with
 |str x t=>exact⟨t,rfl⟩
theorem Rd.int_inv{h:Heap}{v:Value}{i:Int}(r:Rd h v (.int i)):∃t,v= .int i t:=by
 cases r with
 |int _ t=>exact⟨t,rfl⟩
theorem Rd.bool_inv{h:Heap}{v:Value}{b:Bool}(r:Rd h v (.bool b)):v= .bool b:=by cases r;rfl
theorem Rd.none_inv{h:Heap}{v:Value}(r:Rd h v .none):v= .none:=by cases r;rfl
theorem Rd.tup_inv{h:Heap}{v:Value}{xs:List D}(r:Rd h v (.tup xs)):∃a items,v= .ref a/\IsTup h a items/\dD h items.toList xs:=by
 cases r with
 |tup h1 h2 h3 h4=>exact⟨_,_,rfl,⟨_,h1,h2,_,h3⟩,h4⟩
@[elab_as_elim] theorem Rd.int_on{h:Heap}{v:Value}{i:Int}(r:Rd h v (.int i)){P:Value->Prop}(k:∀t,P (.int i t)):P v:=by obtain⟨t,rfl⟩:=r.int_inv;exact k t
@[elab_as_elim] theorem Rd.str_on{h:Heap}{v:Value}{s:List Nat}(r:Rd h v (.str s)){P:Value->Prop}(k:∀t,P (.str ⟨s.toArray⟩ t)):P v:=by obtain⟨t,rfl⟩:=r.str_inv;exact k t
@[elab_as_elim] theorem Rd.bool_on{h:Heap}{v:Value}{b:Bool}(r:Rd h v (.bool b)){P:Value->Prop}(k:P (.bool b)):P v:=by rw[r.bool_inv];exact k
@[elab_as_elim] theorem Rd.tup_on{h:Heap}{v:Value}{xs:List D}(r:Rd h v (.tup xs)){P:Value->Prop}(k:∀a items,IsTup h a items->dD h items.toList xs->P (.ref a)):P v:=by obtain⟨a,items,rfl,h1,h2⟩:=r.tup_inv;exact k a items h1 h2
theorem Rd.mkStr{h:Heap}(s:List Nat)(t:Tok):Rd h (.str ⟨s.toArray⟩ t) (.str s):= .str ⟨s.toArray⟩ t
theorem Rd.mkTup{h:Heap}{a:Addr}{items:Array Value}{xs:List D}(t:IsTup h a items)(r:dD h items.toList xs):Rd h (.ref a) (.tup xs):=by obtain⟨o,h1,h2,n,h3⟩:=t;exact .tup h1 h2 h3 r
def lV(h h':Heap):Prop:=∀a o vs n,h.get? a=some o->o.cls= .type "tuple"->o.data= .seq vs n->∃o',h'.get? a=some o'/\o'.cls= .type "tuple"/\o'.data=o.data
theorem Rd.keep2{h h':Heap}(k:lV h h'):(∀{v d},Rd h v d->Rd h' v d)/\∀{v d},dD h v d->dD h' v d:=
 Rd.both .none .bool .int .str (λh1 h2 h3 h4=>ot (k _ _ _ _ h1 h2 h3) λo e1 e2 e3=> .tup e1 e2 (e3.trans h3) h4) .nil λ_ h1 _ h2=> .cons h1 h2
theorem Rd.keep{h h':Heap}(k:lV h h'){v:Value}{d:D}(x:Rd h v d):Rd h' v d:=(Rd.keep2 k).1 x
theorem dD.keep{h h':Heap}(k:lV h h'){v:List Value}{d:List D}(x:dD h v d):dD h' v d:=(Rd.keep2 k).2 x
structure oO(X F:List Addr)(h h':Heap):Prop where
 keep:∀b o,h.get? b=some o->b ∉ X->b ∉ F->h'.get? b=some o
 slots:∀b o,h.get? b=some o->b ∈ F->b ∉ X->∃sl,h'.get? b=some { o with slots:=sl }
theorem oO.refl(X F:List Addr)(h:Heap):oO X F h h:=⟨λ_ _ e _ _=>e,λ_ o e _ _=>⟨o.slots,e⟩⟩
theorem oO.of_keep{X F:List Addr}{h h':Heap}(k:∀b o,h.get? b=some o->h'.get? b=some o):oO X F h h':=⟨λ_ _ e _ _=>k _ _ e,λ_ o e _ _=>⟨o.slots,k _ _ e⟩⟩
theorem oO.there{X F:List Addr}{h h':Heap}(p:oO X F h h'){b:Addr}{o:Obj}(e:h.get? b=some o)(hx:b ∉ X):∃sl,h'.get? b=some { o with slots:=sl }:=by
 by_cases hf:b ∈ F
 ·exact p.slots b o e hf hx
 ·exact⟨o.slots,p.keep b o e hx hf⟩
theorem oO.trans{X X' F:List Addr}{h h₁ ar:Heap}(p:oO X F h h₁)(q:oO X' F h₁ ar)(hx:∀b ∈ X',b ∈ X\/h.get? b=none):oO X F h ar:=by
 refine⟨λb o e h1 h2=>q.keep b o (p.keep b o e h1 h2) (λm=> ?_) h2,λb o e h1 h2=> ?_⟩
 ·rcases hx b m with z|z
  ·exact h1 z
  ·rw[z]at e;cases e
 ·obtain⟨sl,e1⟩:=p.slots b o e h1 h2
  have h3:b ∉ X':=λm=>by
   rcases hx b m with z|z
   ·exact h2 z
   ·rw[z]at e;cases e
  obtain⟨sl',e2⟩:=q.slots b _ e1 h1 h3;exact⟨sl',e2⟩
theorem oO.ns{X F:List Addr}{h h':Heap}{a:Addr}{m:Str->Option Value}(p:oO X F h h')(hn:h.Ns a m)(hx:a ∉ X):h'.Ns a m:=by obtain⟨o,es,ep,ho,hd,r⟩:=hn;obtain⟨sl,e⟩:=p.there ho hx;exact⟨_,es,ep,e,hd,r⟩
theorem oO.fresh{X F:List Addr}{h h':Heap}{b:Addr}(p:oO X F h h')(e:h'.get? b=none)(hx:b ∉ X):h.get? b=none:=by
 cases q:h.get? b with
 |none=>rfl
 |some o=>obtain⟨sl,e'⟩:=p.there q hx;rw[e]at e';cases e'
variable{α:Type}{a:Addr}{b:List Stmt}{β:Type}{c:Nat}{p:Nat}{s:Shared}{X:List Addr}{e:cP}{h:Heap}{i:Nat}{x:List Nat}{xs:List D}{h':Heap}{F:List Addr}{h₁:Heap}{ad:List Addr}{ad':List Addr}{L:Addr}{Ls:List Addr}{Q:Value->Shared->Prop}{E:Value->Shared->Prop}{n:Nat}{A:Around}{ag:List Env}{pos:Pos}{Vs:List Value}{w:List Nat}{es:List cP}{np:Pos}{ps:List Str}{sc:Scope}{cd:Value}{body:List Stmt}{more:List Str}{ds:List D}{T:List Nat}
section
inductive PV where
 |d (x:D)
 |ref (k:Nat)
 |inst (k:Nat)
 |cl (xs:List D)
 |cd (kvs:List (List Nat×D))
inductive MO where
 |list (xs:List D)
 |dict (kvs:List (List Nat×PV))
 |obj (kvs:List (List Nat×PV))
structure Gl where
 prog:Program
 w:World
 h₀:Heap
 K:Frag
 mg:Str->Option Value
 mb:Str->Option Value
 KX:K.In h₀
 hg:h₀.Ns mainGlobals mg
 hb:h₀.Ns builtinsNs mb
 hbo:∀x:Str,x≠"__name__"->mb x=bootBuiltins x
 lim:h₀.NoLimit
 rC:Addr
 fC:Addr
 fa:Nat->Addr
variable{G:Gl}
noncomputable def Kh(h:Heap):List (Str×Value)->List (List Nat×D)->Prop
 |[],[]=>True
 |p::ps,kv::kvs=>p.1=⟨kv.1.toArray⟩/\Rd h p.2 kv.2/\Kh h ps kvs
 |_,_=>False
def eW(G:Gl)(h:Heap)(ad:List Addr):PV->Value->Prop
 | .d x,V=>Rd h V x
 | .ref k,V=>∃a,ad[k]? =some a/\V= .ref a
 | .inst k,V=>∃a x,ad[k]? =some a/\V= .ref x/\h.get? x=some (instObj G.rC a)
 | .cl xs,V=>∃a items,V= .ref a/\G.h₀.IsList a items/\dD G.h₀ items.toList xs
 | .cd kvs,V=>∃a ps,V= .ref a/\(a == sysModules)=false/\G.h₀.DictOf (strKind G.prog G.w) a ps/\Kh G.h₀ ps kvs
noncomputable def ou(G:Gl)(h:Heap)(ad:List Addr):List (Str×Value)->List (List Nat×PV)->Prop
 |[],[]=>True
 |p::ps,kv::kvs=>p.1=⟨kv.1.toArray⟩/\eW G h ad kv.2 p.2/\ou G h ad ps kvs
 |_,_=>False
noncomputable def mw(G:Gl)(h:Heap)(ad:List Addr):List DictEntry->List (List Nat×PV)->Prop
 |[],[]=>True
 |e::es,kv::kvs=>(∃t,e.key= .str ⟨kv.1.toArray⟩ t)/\e.hash=PyData.keyHash G.w.params ⟨kv.1.toArray⟩/\eW G h ad kv.2 e.val/\mw G h ad es kvs
 |_,_=>False
def CB(G:Gl)(h:Heap)(ad:List Addr)(a:Addr):MO->Prop
 | .list xs=>∃items n,h.get? a=some { cls:= .type "list",data:= .seq items n }/\dD h items.toList xs
 | .dict kvs=>∃ps,h.DictOf (strKind G.prog G.w) a ps/\ou G h ad ps kvs
 | .obj kvs=>∃es n,h.get? a=some (dictOf es n)/\mw G h ad es kvs
structure St(G:Gl)(F ad:List Addr)(σ:List MO)(h:Heap):Prop where
 base:G.h₀.StaysIn h
 len:ad.length=σ.length
 nd:ad.Nodup
 ads:∀(k:Nat)(a:Addr)(o:MO),ad[k]? =some a->σ[k]? =some o->CB G h ad a o
 newA:∀a ∈ ad,G.h₀.objs.size<=a
 frs:∀b ∈ F,G.h₀.objs.size<=b/\∃o,h.get? b=some o/\∃es n,o.data= .dict es n
 fnd:F.Nodup
 apart:∀b ∈ F,b ∉ ad
theorem ro(l:h.objs.size<=a):h.get? a=none:=by
 cases q:h.get? a with
 |none=>rfl
 |some x=>exact absurd (kH q) (Nat.not_lt.mpr l)
structure kK(X F ad ad':List Addr)(h h':Heap):Prop where
 pre:ad<+:ad'
 pres:oO X F h h'
 new:∀a ∈ ad',a ∈ ad\/h.get? a=none
 ex:∀b,h'.get? b=none->h.get? b=none
theorem St.adObj{σ:List MO}(S:St G F ad σ h)(m:a ∈ ad):∃o,h.get? a=some o/\(o.cls= .type "list"\/o.cls= .type "dict"):=by
 refine oE (List.getElem?_of_mem m) λk hk=> ?_
 have hl:k<σ.length:=by rw[<-S.len];exact(ek.mp hk).1
 have hr:=S.ads k a _ hk (nO hl);cases q:σ[k]with
 |list xs=>
  rw[q]at hr;refine mZ hr λitems _ h1 _=> ?_;clear hr;exact⟨_,h1,.inl rfl⟩
 |dict kvs=>
  rw[q]at hr;refine eN hr λps oz1 _=> ?_;clear hr;obtain⟨o,_,_,h1,⟨h2,_⟩,_⟩:=oz1;exact⟨_,h1,.inr h2⟩
 |obj kvs=>
  rw[q]at hr;refine mZ hr λes n h1 _=> ?_;clear hr;exact⟨_,h1,.inr rfl⟩
theorem St.ad_not_F{σ:List MO}(S:St G F ad σ h)(m:a ∈ ad):a ∉ F:=λf=>S.apart a f m
def Yv(X F ad:List Addr):Prop:=∀a ∈ X,a ∈ ad\/a ∈ F
theorem St.tupKeep{F':List Addr}{σ:List MO}(S:St G F' ad σ h)(hX:Yv X F' ad)(P:kK X F ad ad' h h'):lV h h':=λa o vs n e hc hsq=>by
 have hx:a ∉ X:=λm=>by
  rcases hX a m with m|m
  ·refine eN (S.adObj m) λo' h1 h2=> ?_;rw[e]at h1;replace h1:=si h1;subst h1;rw[hc]at h2;rcases h2 with h2|h2<;>exact absurd h2 (by decide)
  ·refine o7 (S.frs a m) λ_ o' h3 es n' h4=> ?_;rw[e]at h3;replace h3:=si h3;subst h3;rw[hsq]at h4;cases h4
 refine oE (P.pres.there e hx) λsl e'=> ?_;exact⟨_,e',hc,rfl⟩
theorem pc{l l':List α}(p:l<+:l'){k:Nat}{a:α}(e:l[k]? =some a):l'[k]? =some a:=by refine oE p λt ez1=> ?_;clear p;subst ez1;have:=(ek.mp e).1;rw[fH this];exact e
theorem eW.step{F':List Addr}{σ:List MO}{v:PV}{V:Value}(S:St G F' ad σ h)(hX:Yv X F' ad)(hF:∀b ∈ F,b ∈ F')(P:kK X F ad ad' h h')(r:eW G h ad v V):eW G h' ad' v V:=by
 cases v with
 |d x=>exact Rd.keep (S.tupKeep hX P) r
 |ref k=>(refine eN r λa h1 h2=> ?_;clear r);exact⟨a,pc P.pre h1,h2⟩
 |inst k=>
  refine iJ r λa x h1 h2 h3=> ?_;clear r;refine⟨a,x,pc P.pre h1,h2,P.pres.keep x _ h3 (λm=> ?_) λm=> ?_⟩
  ·rcases hX x m with m|m
   ·refine eN (S.adObj m) λo' h1 h2=> ?_;rw[h3]at h1;replace h1:=si h1;subst h1;rcases h2 with h2|h2<;>exact absurd h2 (by simp)
   ·refine o7 (S.frs x m) λ_ o' h4 es n' h5=> ?_;rw[h3]at h4;replace h4:=si h4;subst h4;cases h5
  ·refine o7 (S.frs x (hF x m)) λ_ o' h4 es n' h5=> ?_;rw[h3]at h4;replace h4:=si h4;subst h4;cases h5
 |cl xs=>exact r
 |cd kvs=>exact r
theorem ou.mono{h h':Heap}{ad ad':List Addr}(k:∀v V,eW G h ad v V->eW G h' ad' v V):∀{es:List (Str×Value)}{kvs:List (List Nat×PV)},ou G h ad es kvs->ou G h' ad' es kvs
 |[],[],_=>trivial
 |_::_,_::_,⟨h1,h3,h4⟩=>⟨h1,k _ _ h3,ou.mono k h4⟩
 |[],_::_,x=>x.elim
 |_::_,[],x=>x.elim
theorem mw.mono{h h':Heap}{ad ad':List Addr}(k:∀v V,eW G h ad v V->eW G h' ad' v V):∀{es:List DictEntry}{kvs:List (List Nat×PV)},mw G h ad es kvs->mw G h' ad' es kvs
 |[],[],_=>trivial
 |_::_,_::_,⟨h1,h2,h3,h4⟩=>⟨h1,h2,k _ _ h3,mw.mono k h4⟩
 |[],_::_,x=>x.elim
 |_::_,[],x=>x.elim
theorem kK.refl(X F ad:List Addr)(h:Heap):kK X F ad ad h h:=⟨hO _,.refl ..,λ_ m=> .inl m,λ_ e=>e⟩
abbrev dE(F ad ad':List Addr)(h h':Heap):Prop:=kK ad F ad ad' h h'
abbrev iG(L:Addr)(F ad ad':List Addr)(h h':Heap):Prop:=kK (L::ad) F ad ad' h h'
theorem kK.trans{F ad ak aD:List Addr}{h h₁ ar:Heap}{Y:List Addr}(p:kK (Y++ad) F ad ak h h₁)(q:kK (Y++ak) F ak aD h₁ ar):kK (Y++ad) F ad aD h ar:=by
 refine⟨p.pre.trans q.pre,p.pres.trans q.pres λb m=> ?_,λa m=> ?_,λb e=>p.ex b (q.ex b e)⟩
 ·rcases eF.mp m with m|m
  ·exact .inl (eF.mpr (.inl m))
  ·rcases p.new b m with z|z
   ·exact .inl (eF.mpr (.inr z))
   ·exact .inr z
 ·rcases q.new a m with m|z
  ·exact p.new a m
  ·exact .inr (p.ex a z)
theorem dE.trans{F ad ak aD:List Addr}{h h₁ ar:Heap}(p:dE F ad ak h h₁)(q:dE F ak aD h₁ ar):dE F ad aD h ar:=kK.trans (Y:=[]) p q
theorem iG.trans{L:Addr}{F ad ak aD:List Addr}{h h₁ ar:Heap}(p:iG L F ad ak h h₁)(q:iG L F ak aD h₁ ar):iG L F ad aD h ar:=kK.trans (Y:=[L]) p q
theorem dE.toS(p:dE (L::F) ad ad' h h')(hL:L ∉ F):iG L F ad ad' h h':=by
 refine⟨p.pre,⟨λb o e h1 h2=>p.pres.keep b o e (λm=>h1 (.tail _ m)) λm=> ?_,λb o e h1 h2=>p.pres.slots b o e (.tail _ h1) λm=>h2 (.tail _ m)⟩,p.new,p.ex⟩;rcases dj.mp m with rfl|m
 ·exact h1 (.head _)
 ·exact h2 m
theorem dE.of_keep{F ad:List Addr}{h h':Heap}(k:∀b o,h.get? b=some o->h'.get? b=some o):dE F ad ad h h':=
 ⟨hO _,.of_keep k,λ_ m=> .inl m,λb e=>by
  cases q:h.get? b with
  |none=>rfl
  |some o=>rw[k b o q]at e;exact yr e⟩
theorem St.of_keep{F ad:List Addr}{σ:List MO}{h h':Heap}(S:St G F ad σ h)(k:∀b o,h.get? b=some o->h'.get? b=some o):St G F ad σ h':=by
 have P:dE F ad ad h h':=dE.of_keep k;have V:∀v V,eW G h ad v V->eW G h' ad v V:=λv V r=>eW.step S (λa m=> .inl m) (λ_ m=>m) P r;refine⟨λb o e=>k b o (S.base b o e),S.len,S.nd,λj a o h1 h2=> ?_,S.newA,λb m=> ?_,S.fnd,S.apart⟩
 ·have r:=S.ads j a o h1 h2;cases o with
  |list xs=>
   refine mZ r λitems n e1 r2=> ?_;clear r;exact⟨items,n,k _ _ e1,dD.keep (S.tupKeep (λa m=> .inl m) P) r2⟩
  |dict kvs=>
   refine eN r λps e1 r2=> ?_;clear r;exact⟨ps,e1.keep k,ou.mono V r2⟩
  |obj kvs=>
   refine mZ r λes n e1 r2=> ?_;clear r;exact⟨es,n,k _ _ e1,mw.mono V r2⟩
 ·refine vv (S.frs b m) λh1 o h2 h3=> ?_;exact⟨h1,o,k _ _ h2,h3⟩
end
variable{σ:List MO}{σ':List MO}{vs:List PV}{G:Gl}{nx:Nat->List MO->Option (Option PV)}{x4:Option PV}
section
inductive R (α:Type) where
 |ok (a:α)
 |exc
theorem R.ok.inj{a b:α}(h:R.ok a=R.ok b):a=b:=by cases h;rfl
@[simp] theorem R.ok.injEq{a b:α}:(R.ok a=R.ok b)=(a=b):=propext ⟨R.ok.inj,dN _⟩
abbrev M(α:Type):=List MO->Option (R α×List MO)
noncomputable def ret(a:α):M α:=λσ=>some (.ok a,σ)
noncomputable def cU:M α:=λ_=>none
noncomputable def bnd(m:M α)(f:α->M β):M β:=λσ=>match m σ with
 |some (.ok a,σ')=>f a σ'
 |some (.exc,σ')=>some (.exc,σ')
 |none=>none
noncomputable def lift(o:Option α):M α:=λσ=>o.map λa=>(.ok a,σ)
noncomputable abbrev nrR(f:α->M β):R α->M β
 | .ok a=>f a
 | .exc=>λσ=>some (.exc,σ)
theorem sk{m:M α}{f:α->M β}{ra:R α}{r:Option (R β×List MO)}(h:m σ=some (ra,σ'))(h2:nrR f ra σ'=r):bnd m f σ=r:=by unfold bnd;rw[h];cases ra<;>exact h2
theorem nE{m:M α}{f:α->M β}{r:R β}(e:bnd m f σ=some (r,σ')):
  (∃a σ₁,m σ=some (.ok a,σ₁)/\f a σ₁=some (r,σ'))\/(m σ=some (.exc,σ')/\r= .exc):=by
 unfold bnd at e
 symm at e
 ·rename_i a σ₁ h;exact .inl ⟨a,σ₁,h,e⟩
 ·rename_i σ₁ h;refine Pg e ?_;clear e;intro ey ez;subst ey;subst ez;exact .inr ⟨h,rfl⟩
 ·exact eC e
theorem sS{o:Option α}{r:R α}(e:lift o σ=some (r,σ')):∃a,o=some a/\r= .ok a/\σ'=σ:=by
 unfold lift at e;cases o with
 |none=>exact eC e
 |some a=>(refine Pf e ?_;clear e;intro ey ez;subst ey;subst ez);exact⟨a,rfl,rfl,rfl⟩
theorem ky{a:α}{r:R α}(e:ret a σ=some (r,σ')):r= .ok a/\σ'=σ:=by refine Pf e ?_;clear e;intro ey ez;subst ey;subst ez;exact⟨rfl,rfl⟩
structure Fm where
 cn:Str
 cs:Scope
 L:Addr
 a:Addr
 cd:Value
 names:List Str
noncomputable def Fm.env(f:Fm):Env:=envOf f.cn f.cs f.L f.a f.cd
structure wI(G:Gl)(A:Around)(n:Nat)(f:Fm)(ag:List Env)(Ls:List Addr):Prop where
 hA:A.frames=some (f.env::ag)
 out:ag.map (·.frame)=Ls.map some
 kinds:∀e ∈ ag,e.scope.kind≠.module
 hk:f.cs.kind= .function
 hh:A.handled=none
 hd:A.depth+n<1000
 hu:A.units+16 * n+200<9900
 nd:f.names.Nodup
 aa:∀x ∈ f.names,f.cs.names.lookup x=some .local
def uo(G:Gl)(h:Heap)(ad:List Addr)(f:Fm)(aa:List (Option PV)):Prop:=
 ∃m,h.Ns f.L m/\∀(i:Nat)(x:Str)(v:PV),f.names[i]? =some x->aa[i]? =some (some v)->∃V,m x=some V/\eW G h ad v V
theorem uo.step{h h':Heap}{ad ad' Ls:List Addr}{σ:List MO}{f:Fm}{aa:List (Option PV)}(l:uo G h ad f aa)(S:St G (f.L::Ls) ad σ h)(P:dE (f.L::Ls) ad ad' h h'):uo G h' ad' f aa:=by refine eN l λm hn hv=> ?_;clear l;refine⟨m,P.pres.ns hn λk=>S.ad_not_F k (.head _),λi x v h1 h2=> ?_⟩;refine eN (hv i x v h1 h2) λV e r=> ?_;exact⟨V,e,r.step S (λa m=> .inl m) (λ_ m=>m) P⟩
def yJ(G:Gl)(hs h:Heap)(x:Addr)(fl:Value):Prop:=hs.get? x=none/\∃a0,h.TracedAtW hs x (.ref G.fC) a0 fl
def EK(G:Gl)(hs h:Heap)(x:Addr):Prop:=hs.get? x=none/\∃ob vs a0,h.get? x=some ob/\ob.cls= .ref G.fC/\ob.data= .fields vs/\vs[1]? =some .none/\vs[0]? =some a0
theorem yJ.back{hs hs':Heap}{x:Addr}{fl:Value}(F:yJ G hs' h x fl)(k:∀b,hs'.get? b=none->hs.get? b=none):yJ G hs h x fl:=by refine ls F λh1 a0 oe vs T oT ts e1 e2 e3 e4 e5 e6 e7 e8 e9=> ?_;clear F;exact⟨k _ h1,a0,oe,vs,T,oT,ts,e1,e2,e3,e4,k _ e5,e6,e7,e8,e9⟩
theorem EK.back{hs hs':Heap}{x:Addr}(F:EK G hs' h x)(k:∀b,hs'.get? b=none->hs.get? b=none):EK G hs h x:=⟨k _ F.1,F.2⟩
def qI(G:Gl)(F ad:List Addr)(s:Shared)(r:R β)(σ':List MO)(Q:α->Shared->Prop)(E:Value->Shared->Prop)(Rl:Heap->List Addr->β->α->Prop):Prop:=match r with
 | .ok b=>∀a h' tk ad',St G F ad' σ' h'->dE F ad ad' s.heap h'->Rl h' ad' b a->Q a { s with heap:=h',toks:=tk }
 | .exc=>∀x h' tk ad',St G F ad' σ' h'->dE F ad ad' s.heap h'->yJ G s.heap h' x .none->E (.ref x) { s with heap:=h',toks:=tk }
theorem qI.of_ret{r:R β}{a:β}{Q:α->Shared->Prop}{Rl:Heap->List Addr->β->α->Prop}(P:qI G F ad s r σ' Q E Rl)(e:ret a σ=some (r,σ')):qI G F ad s (.ok a) σ Q E Rl:=by refine oA (ky e) λez1 ez2=> ?_;subst ez1;subst ez2;exact P
theorem qI.after{ak:List Addr}{r:R β}{Q:α->Shared->Prop}{Rl:Heap->List Addr->β->α->Prop}{tk₁:Nat}
  (P:qI G F ad s r σ' Q E Rl)(p:dE F ad ak s.heap h₁):qI G F ak { s with heap:=h₁,toks:=tk₁ } r σ' Q E Rl:=by
 cases r with
 |ok b=>exactλa h' tk ad' S q R=>P a h' tk ad' S (p.trans q) R
 |exc=>exactλx h' tk ad' S q fl=>P x h' tk ad' S (p.trans q) (fl.back p.ex)
def I4(G:Gl)(n:Nat)(f:Fm)(aa:List (Option PV))(t:Sem α)(m:M β)(Rl:Heap->List Addr->β->α->Prop):Prop:=
 ∀(A:Around)(ag:List Env)(Ls ad:List Addr)(σ:List MO)(s:Shared)(Q:α->Shared->Prop)(E:Value->Shared->Prop)(r:R β)(σ':List MO),
  wI G A n f ag Ls->St G (f.L::Ls) ad σ s.heap->uo G s.heap ad f aa->m σ=some (r,σ')->qI G (f.L::Ls) ad s r σ' Q E Rl->
  wpAny (model G.prog G.w) A t Q E s
theorem I4.thn{α' β':Type}{f:Fm}{aa:List (Option PV)}{t:Sem α}{m:M β}{Rl:Heap->List Addr->β->α->Prop}(ok:I4 G n f aa t m Rl)
  {Q:α->Shared->Prop}{r:R β'}{k:β->M β'}{Q':α'->Shared->Prop}{Rl':Heap->List Addr->β'->α'->Prop}
  (C:wI G A n f ag Ls)(S:St G (f.L::Ls) ad σ s.heap)(Lc:uo G s.heap ad f aa)(e:bnd m k σ=some (r,σ'))(P:qI G (f.L::Ls) ad s r σ' Q' E Rl')
  (h:∀b a h₁ tk₁ ak σ₁,St G (f.L::Ls) ak σ₁ h₁->dE (f.L::Ls) ad ak s.heap h₁->Rl h₁ ak b a->uo G h₁ ak f aa->k b σ₁=some (r,σ')->qI G (f.L::Ls) ak { s with heap:=h₁,toks:=tk₁ } r σ' Q' E Rl'->
   Q a { s with heap:=h₁,toks:=tk₁ }):wpAny (model G.prog G.w) A t Q E s:=by
 rcases nE e with⟨b,σ₁,e1,e2⟩|⟨e1,rfl⟩
 ·exact ok A ag Ls ad σ s Q E _ _ C S Lc e1 λa h₁ tk₁ ak ai p R=>h b a h₁ tk₁ ak σ₁ ai p R (Lc.step S p) e2 (P.after p)
 ·exact ok A ag Ls ad σ s Q E _ _ C S Lc e1 P
abbrev RV(G:Gl):Heap->List Addr->PV->Value->Prop:=λh ad v V=>eW G h ad v V
abbrev RB:Heap->List Addr->Bool->Bool->Prop:=λ_ _ b b'=>b=b'
noncomputable def jA(G:Gl)(h:Heap)(ad:List Addr):List PV->List Value->Prop
 |[],[]=>True
 |v::vs,V::Vs=>eW G h ad v V/\jA G h ad vs Vs
 |_,_=>False
abbrev dR(G:Gl)(n:Nat)(f:Fm)(aa:List (Option PV))(e:cP)(m:M PV):Prop:=I4 G n f aa (eval e f.env) m (RV G)
abbrev uM(G:Gl)(n:Nat)(f:Fm)(aa:List (Option PV))(e:cP)(m:M Bool):Prop:=I4 G n f aa (isTrue e f.env (eval e f.env)) m RB
theorem jA.step{X F F' ad ad':List Addr}{σ:List MO}{h h':Heap}(S:St G F' ad σ h)(hX:Yv X F' ad)(hF:∀b ∈ F,b ∈ F')(P:kK X F ad ad' h h'):∀{vs:List PV}{Vs:List Value},jA G h ad vs Vs->jA G h' ad' vs Vs
 |[],[],_=>trivial
 |_::_,_::_,⟨a,b⟩=>⟨a.step S hX hF P,jA.step S hX hF P b⟩
 |[],_::_,x=>x.elim
 |_::_,[],x=>x.elim
theorem eW.stepE{v:PV}{V:Value}(r:eW G h ad v V)(S:St G F ad σ h)(P:dE F ad ad' h h'):eW G h' ad' v V:=r.step S (λ_ m=> .inl m) (λ_ m=>m) P
theorem jA.stepE{v:List PV}{V:List Value}(r:jA G h ad v V)(S:St G F ad σ h)(P:dE F ad ad' h h'):jA G h' ad' v V:=r.step S (λ_ m=> .inl m) (λ_ m=>m) P
theorem qI.now{b:β}{Q:α->Shared->Prop}{Rl:Heap->List Addr->β->α->Prop}(P:qI G F ad s (.ok b) σ Q E Rl)(S:St G F ad σ s.heap){a:α}(r:Rl s.heap ad b a)(tk:Nat):
  Q a { s with heap:=s.heap,toks:=tk }:=P a s.heap tk ad S (kK.refl ..) r
theorem qI.made{b:β}{Q:α->Shared->Prop}{Rl:Heap->List Addr->β->α->Prop}(P:qI G F ad s (.ok b) σ Q E Rl)(S:St G F ad σ s.heap)
  (k:∀b o,s.heap.get? b=some o->h'.get? b=some o){a:α}(r:Rl h' ad b a)(tk:Nat):Q a { s with heap:=h',toks:=tk }:=P a h' tk ad (S.of_keep k) (dE.of_keep k) r
section
variable{f:Fm}{aa:List (Option PV)}
theorem vy{x:Str}(hx:f.names[i]? =some x)(hd:(x ==("__debug__":Str))=false):
  dR G n f aa (.Name x pos) (lift (aa[i]?).join):=by
 intro A ag Ls ad σ s Q E r σ' C S Lc e P;refine ot (sS e) λv e1 ez1 ez2=> ?_;subst ez1;subst ez2;refine eN Lc λm hn hv=> ?_;clear Lc
 have e2:aa[i]? =some (some v):=by
  cases q:aa[i]? with
  |none=>rw[q]at e1;exact eC e1
  |some y=>rw[q]at e1;exact dN some e1
 refine eN (hv i x v hx e2) λV hV rV=> ?_;exact wpAny_Name (wpAny_loadName_local C.hk (C.aa x (gu hx)) hn hV (P.now S rV s.toks)) hd
theorem Ki{x:Str}{v:PV}{V:Value}(hk:f.cs.kind= .function)(hx:f.cs.names.lookup x=some .globalImplicit)(hg:G.mg x=some V)(hv:∀h ad,G.h₀.StaysIn h->eW G h ad v V)
  (hd:(x ==("__debug__":Str))=false):dR G n f aa (.Name x pos) (ret v):=by
 intro A ag Ls ad σ s Q E r σ' C S Lc e P;have P:=P.of_ret e;exact Name_function_global hk hx (loadGlobal_global (env:=f.env) (G.hg.keeps S.base) hg (P.now S (hv _ _ S.base) s.toks)) hd
theorem wK{i:Int}{k:Nat}:dR G n f aa (.Constant (.int i) k pos) (ret (.d (.int i))):=by intro A ag Ls ad σ s Q E r σ' C S Lc e P;have P:=P.of_ret e;exact wpAny_Constant_int (P.now S (Rd.int ..) _)
theorem Tc{x:Str}{k:Nat}:dR G n f aa (.Constant (.str x) k pos) (ret (.d (.str x.cps.toList))):=by intro A ag Ls ad σ s Q E r σ' C S Lc e P;have P:=P.of_ret e;exact wpAny_mkText (P.now S (Rd.str ..) _)
theorem Pm{b:Bool}{k:Nat}:dR G n f aa (.Constant (.bool b) k pos) (ret (.d (.bool b))):=by intro A ag Ls ad σ s Q E r σ' C S Lc e P;have P:=P.of_ret e;exact dc (P.now S (Rd.bool ..) s.toks)
theorem Po{k:Nat}:dR G n f aa (.Constant .none k pos) (ret (.d .none)):=by intro A ag Ls ad σ s Q E r σ' C S Lc e P;have P:=P.of_ret e;exact dc (P.now S Rd.none s.toks)
end
end
variable{C:Addr->List PV->M PV}{m:M PV}{ms:List (M PV)}{sem:List PV->M PV}{Cf:List PV->M Unit}
section
theorem CB.to{o:MO}(ka:∀x,h.get? a=some x->h'.get? a=some x)(kR:lV h h')(kV:∀v V,eW G h ad v V->eW G h' ad' v V)(r:CB G h ad a o):CB G h' ad' a o:=by
 cases o with
 |list xs=>
  refine mZ r λitems n e1 r2=> ?_;clear r;exact⟨items,n,ka _ e1,dD.keep kR r2⟩
 |dict kvs=>
  refine eN r λps oz1 r2=> ?_;clear r;obtain⟨o,es,ep,e1,e2⟩:=oz1;exact⟨ps,⟨o,es,ep,ka _ e1,e2⟩,ou.mono kV r2⟩
 |obj kvs=>
  refine mZ r λes n e1 r2=> ?_;clear r;exact⟨es,n,ka _ e1,mw.mono kV r2⟩
theorem dE.grow(k:∀b o,h.get? b=some o->h'.get? b=some o)(fr:h.get? a=none):dE F ad (ad++[a]) h h':=
 ⟨List.prefix_append _ _,.of_keep k,λb m=>by
  rcases eF.mp m with m|m
  ·exact .inl m
  ·cases ff.mp m;exact .inr fr,(dE.of_keep (F:=F) (ad:=ad) k).ex⟩
theorem St.grow{F ad:List Addr}{σ:List MO}{h h':Heap}{a:Addr}{mo:MO}(S:St G F ad σ h)(k:∀b o,h.get? b=some o->h'.get? b=some o)(fr:h.get? a=none)(hle:G.h₀.objs.size<=a)(r:CB G h' (ad++[a]) a mo):
  St G F (ad++[a]) (σ++[mo]) h':=by
 have P:dE F ad (ad++[a]) h h':=dE.grow k fr;have kR:lV h h':=S.tupKeep (λa m=> .inl m) P;have kV:∀v V,eW G h ad v V->eW G h' (ad++[a]) v V:=λv V r=>r.stepE S P
 have na:a ∉ ad:=λm=>by refine eN (S.adObj m) λo h1 _=> ?_;rw[fr]at h1;exact eC h1
 refine⟨λb o e=>k b o (S.base b o e),by simp[S.len],List.nodup_append.mpr ⟨S.nd,by simp,λx hx y hy=>by cases ff.mp hy;exactλe=>na (e▸hx)⟩,λj b o h1 h2=> ?_,λb m=> ?_,λb m=> ?_,S.fnd,λb m z=> ?_⟩
 ·by_cases hj:j<ad.length
  ·rw[fH hj]at h1;rw[fH (S.len▸hj)]at h2;exact(S.ads j b o h1 h2).to (λx=>k b x) kR kV
  ·have hj':j=ad.length:=by
    have:=(ek.mp h1).1;simp at this;omega
   subst hj';rw[nN (ip _)]at h1;rw[nN (Nat.le_of_eq S.len.symm),S.len]at h2;simp at h1 h2;subst h1;subst h2;exact r
 ·rcases eF.mp m with m|m
  ·exact S.newA b m
  ·cases ff.mp m;exact hle
 ·refine vv (S.frs b m) λh1 o h2 h3=> ?_;exact⟨h1,o,k _ _ h2,h3⟩
 ·rcases eF.mp z with z|z
  ·exact S.apart b m z
  ·cases ff.mp z;refine vv (S.frs _ m) λ_ o h2 _=> ?_;rw[fr]at h2;exact eC h2
theorem dE.upd(hm:a ∈ ad)(k:∀b o,b≠a->h.get? b=some o->h'.get? b=some o)(there:∃o,h'.get? a=some o):dE F ad ad h h':=
 ⟨hO _,⟨λb o e h1 _=>k b o (λz=>h1 (z▸hm)) e,λb o e _ h2=>⟨o.slots,k b o (λz=>h2 (z▸hm)) e⟩⟩,λ_ m=> .inl m,λb e=>by
  cases q:h.get? b with
  |none=>rfl
  |some o=>
   by_cases z:b=a
   ·subst z;refine oE there λo' h1=> ?_;clear there;rw[e]at h1;exact eC h1
   ·rw[k b o z q]at e;exact yr e⟩
theorem CB.there{o:MO}(r:CB G h ad a o):∃o,h.get? a=some o:=by
 cases o with
 |list xs=>(refine mZ r λitems _ e1 _=> ?_;clear r);exact⟨_,e1⟩
 |dict kvs=>(refine eN r λps oz1 r2=> ?_;clear r;obtain⟨o,es,ep,e1,e2⟩:=oz1);exact⟨_,e1⟩
 |obj kvs=>(refine mZ r λes n e1 _=> ?_;clear r);exact⟨_,e1⟩
theorem St.upd{F ad:List Addr}{σ:List MO}{h h':Heap}{a:Addr}{j:Nat}{mo:MO}(S:St G F ad σ h)(hj:ad[j]? =some a)(k:∀b o,b≠a->h.get? b=some o->h'.get? b=some o)(r:CB G h' ad a mo):
  St G F ad (σ.set j mo) h'/\dE F ad ad h h':=by
 have hm:a ∈ ad:=gu hj;have P:dE F ad ad h h':=dE.upd hm k r.there;have kR:lV h h':=S.tupKeep (λa m=> .inl m) P;have kV:∀v V,eW G h ad v V->eW G h' ad v V:=λv V r=>r.stepE S P;refine⟨⟨λb o e=>k b o (λz=> ?_) (S.base b o e),by simp[S.len],S.nd,λi b o h1 h2=> ?_,S.newA,λb m=> ?_,S.fnd,S.apart⟩,P⟩
 ·rw[z,ro (S.newA a hm)]at e;exact eC e
 ·by_cases hi:i=j
  ·subst hi;rw[hj]at h1;replace h1:=si h1;subst h1;rw[qE (by rw[<-S.len];exact(ek.mp hj).1)]at h2;replace h2:=si h2;subst h2;exact r
  ·rw[o6 (Ne.symm hi)]at h2
   have hb:b≠a:=λz=>hi (by
    subst z;have l1:=ek.mp h1;have l2:=ek.mp hj;obtain⟨p1,e1⟩:=l1;obtain⟨p2,e2⟩:=l2;have pw:=List.pairwise_iff_getElem.mp S.nd;rcases Nat.lt_trichotomy i j with l|l|l
    ·exact absurd (e1.trans e2.symm) (pw i j p1 p2 l)
    ·exact l
    ·exact absurd (e2.trans e1.symm) (pw j i p2 p1 l))
   exact(S.ads i b o h1 h2).to (λx=>k b x hb) kR kV
 ·refine vv (S.frs b m) λh1 o h2 h3=> ?_;exact⟨h1,o,k b o (λz=>S.ad_not_F (z▸hm) m) h2,h3⟩
noncomputable def dW(σ:List MO):PV->Option (List D)
 | .ref k=>match σ[k]? with
  |some (.list xs)=>some xs
  |_=>none
 | .cl xs=>some xs
 |_=>none
theorem St.tupKeepBase(S:St G F ad σ h):lV G.h₀ h:=λa o _ _ e hc _=>⟨o,S.base a o e,hc,rfl⟩
theorem St.isL(S:St G F ad σ h){v:PV}{V:Value}(r:eW G h ad v V)(e:dW σ v=some xs):∃a items,V= .ref a/\h.IsList a items/\dD h items.toList xs:=by
 cases v with
 |d x=>exact eC e
 |inst k=>exact eC e
 |cd kvs=>exact eC e
 |cl ys=>
  replace e:=sj e;subst e;refine iJ r λa items h1 oz1 h4=> ?_;clear r;obtain⟨o,h2,h3⟩:=oz1;exact⟨a,items,h1,⟨o,S.base _ _ h2,h3⟩,dD.keep S.tupKeepBase h4⟩
 |ref k=>
  refine eN r λa h1 h2=> ?_;clear r;unfold dW at e;dsimp only at e
  symm at e
  ·rename_i ys q;replace e:=sj e;subst e;refine mZ (S.ads k a _ h1 q) λitems n h3 h4=> ?_;exact⟨a,items,h2,⟨_,h3,rfl,n,rfl⟩,h4⟩
  ·exact eC e
theorem St.size{b:Addr}{F ad:List Addr}{σ:List MO}{h:Heap}(S:St G (b::F) ad σ h):G.h₀.objs.size<=h.objs.size:=by refine vv (S.frs b (.head _)) λh1 o h2 _=> ?_;exact Nat.le_of_lt (Nat.lt_of_le_of_lt h1 (kH h2))
theorem qI.newList{b:Addr}(P:qI G (b::F) ad s (.ok (.ref σ.length)) (σ++[.list xs]) Q E (RV G))(S:St G (b::F) ad σ s.heap)
  {items:Array Value}(n:Nat)(r:dD s.heap items.toList xs)(tk:Nat):Q (.ref s.heap.objs.size) { s with heap:=s.heap.push { cls:= .type "list",data:= .seq items n },toks:=tk }:=by
 generalize ho:({ cls:= .type "list",data:= .seq items n }:Obj)=o
 have fr:s.heap.get? s.heap.objs.size=none:=by
  cases q:s.heap.get? s.heap.objs.size with
  |none=>rfl
  |some x=>exact absurd (kH q) (Nat.lt_irrefl _)
 have k:∀b x,s.heap.get? b=some x->(s.heap.push o).get? b=some x:=λb x e=>fc _ e
 have hf:o.isFreed=false:=by subst ho;rfl
 have ge:=gP s.heap hf;have P':dE (b::F) ad (ad++[s.heap.objs.size]) s.heap (s.heap.push o):=dE.grow k fr;have r':dD (s.heap.push o) items.toList xs:=dD.keep (S.tupKeep (λa m=> .inl m) P') r;refine P _ _ tk _ (S.grow k fr S.size ⟨items,n,ho▸ge,r'⟩) P' ⟨_,?_,rfl⟩;rw[<-S.len];simp
noncomputable def jP:Nat:=4000000
noncomputable def eZ:Nat:=4000000
noncomputable def D.asI:D->Option Int
 | .int a=>some a
 |_=>Option.none
noncomputable def D.asS:D->Option (List Nat)
 | .str a=>some a
 |_=>Option.none
theorem D.asI_inv{x:D}{a:Int}(h:x.asI=some a):x= .int a:=by cases x<;>first|exact eC h|(replace h:=si h;subst h;rfl)
theorem D.asS_inv{x:D}{a:List Nat}(h:x.asS=some a):x= .str a:=by cases x<;>first|exact eC h|(replace h:=si h;subst h;rfl)
def yK(f:Int->Int->Option D)(x y:D):Option D:=x.asI.bind λa=>y.asI.bind (f a)
def Pp(f:List Nat->List Nat->Option D)(x y:D):Option D:=x.asS.bind λa=>y.asS.bind (f a)
@[simp] theorem onII_ii(f:Int->Int->Option D)(a b:Int):yK f (.int a) (.int b)=f a b:=rfl
@[simp] theorem onSS_ss(f:List Nat->List Nat->Option D)(a b:List Nat):Pp f (.str a) (.str b)=f a b:=rfl
theorem I5{p:Prop} [Decidable p]{v c:α}(h:(if p then some v else none)=some c):p/\v=c:=by
 by_cases q:p
 ·rw[cH q]at h;exact⟨q,si h⟩
 ·rw[cJ q]at h;exact eC h
@[elab_as_elim] theorem ii_on{V W:Value}{a b c:D}{f:Int->Int->Option D}{P:Value->Value->Prop}(e:yK f a b=some c)(ra:Rd h V a)(rb:Rd h W b)(k:∀i j t u,f i j=some c->P (.int i t) (.int j u)):P V W:=by refine eN (dL.mp e) λi e1 e=> ?_;refine eN (dL.mp e) λj e2 e=> ?_;rw[D.asI_inv e1]at ra;rw[D.asI_inv e2]at rb;refine Rd.int_on ra λt=> ?_;refine Rd.int_on rb λu=> ?_;exact k i j t u e
@[elab_as_elim] theorem ss_on{V W:Value}{a b c:D}{f:List Nat->List Nat->Option D}{P:Value->Value->Prop}(e:Pp f a b=some c)(ra:Rd h V a)(rb:Rd h W b)(k:∀(x y:List Nat) t u,f x y=some c->P (.str ⟨x.toArray⟩ t) (.str ⟨y.toArray⟩ u)):P V W:=by refine eN (dL.mp e) λi e1 e=> ?_;refine eN (dL.mp e) λj e2 e=> ?_;rw[D.asS_inv e1]at ra;rw[D.asS_inv e2]at rb;refine Rd.str_on ra λt=> ?_;refine Rd.str_on rb λu=> ?_;exact k i j t u e
noncomputable def Wu(a b:Int):Option D:=some (.int (a+b))
noncomputable def aas(a b:Int):Option D:=some (.int (a -b))
def Td(a b:List Nat):Option D:=if a.length+b.length<=jP then some (.str (a++b))else none
noncomputable def aat(a b:Int):Option D:=if 0<b/\b<1000000 then some (.int (a.fdiv b))else none
def Kj(x y:D):Option D:=if x.asI.isSome then yK Wu x y else Pp Td x y
def Pq(x y:D):Option D:=if x.asI.isSome then yK (λa b=>if a.natAbs<2 ^ 40/\b.natAbs<2 ^ 40 then some (.int (a * b))else none) x y else x.asS.bind λ_=>y.asI.bind λb=>if b=0 then some (.str [])else none
@[simp] theorem addD_ii(a b:Int):Kj (.int a) (.int b)=some (.int (a+b)):=rfl
@[simp] theorem addD_ss(a b:List Nat):Kj (.str a) (.str b)=if a.length+b.length<=jP then some (.str (a++b))else none:=rfl
@[simp] theorem mulD_ii(a b:Int):Pq (.int a) (.int b)=if a.natAbs<2 ^ 40/\b.natAbs<2 ^ 40 then some (.int (a * b))else none:=rfl
@[simp] theorem mulD_si(a:List Nat)(b:Int):Pq (.str a) (.int b)=if b=0 then some (.str [])else none:=rfl
def sU(op:Operator)(x y:D):Option D:=match op with
 | .Add=>Kj x y
 | .Sub=>yK (λa b=>some (.int (a -b))) x y
 | .Mult=>Pq x y
 | .Mod=>yK (λa b=>if 0<b then some (.int (a.fmod b))else none) x y
 | .FloorDiv=>yK (λa b=>if 0<b/\b<1000000 then some (.int (a.fdiv b))else none) x y
 | .Pow=>yK (λa b=>if b=0/\a=10 then some (.int 1)else none) x y
 |_=>none
theorem EL{x y c:D}(h:Kj x y=some c):yK Wu x y=some c\/Pp Td x y=some c:=by
 unfold Kj at h;by_cases q:x.asI.isSome
 ·rw[cH q]at h;exact .inl h
 ·rw[cJ q]at h;exact .inr h
theorem I6{y:List Nat}{c:D}(e:Td x y=some c):(⟨x.toArray⟩:Str).length+(⟨y.toArray⟩:Str).length<=sizeLine/\∀t,Rd h (.str (⟨x.toArray⟩++⟨y.toArray⟩) t) c:=by
 refine oA (I5 e) λhlt e=> ?_;subst e;refine⟨?_,λt=> ?_⟩
 ·show x.toArray.size+y.toArray.size<=sizeLine;have:sizeLine=16777216:=rfl;simp only[rn,this];unfold jP at hlt;exact(ie (.l (.a A0 A1) (.k 16777216)) [.l (.a A0 A1) (.k 4000000)]) hlt
 ·have:=Rd.str (h:=h) (⟨x.toArray⟩++⟨y.toArray⟩) t;rw[Str.cps_append]at this
  simpa using this
theorem Pr{op:Operator}{a b c:D}{V W:Value}(e:sU op a b=some c)(ra:Rd s.heap V a)(rb:Rd s.heap W b)(hh:A.handled=none)
  (h:∀X tk,Rd s.heap X c->Q X { s with heap:=s.heap,toks:=tk }):wpAny (model G.prog G.w) A (binaryOp op V W) Q E s:=by
 cases op with
 |Add=>
  rcases EL e with e|e
  ·refine ii_on e ra rb λi j t u e=> ?_;replace e:=si e;subst e;exact PyProof.Rows.add_int (h _ _ (.int ..))
  ·refine ss_on e ra rb λx y t u e=> ?_;exact oA (I6 e) λe1 e2=>PyProof.Rows.add_str (λt' tk=>h _ tk (e2 _)) e1
 |Sub=>
  refine ii_on e ra rb λi j t u e=> ?_;replace e:=si e;subst e;exact PyProof.Rows.sub_int (h _ _ (.int ..))
 |Mult=>
  unfold sU Pq at e;dsimp only at e;by_cases q:a.asI.isSome
  ·rw[cH q]at e;refine ii_on e ra rb λi j t u e=> ?_;refine oA (I5 e) λhlt e=> ?_;subst e;exact PyProof.Rows.mul_int (h _ _ (.int ..)) (PySem.IntMulOk.of_left (PySem.intBits_le_64 ((pI:Qn [] [_,_] (.S (.n' (.pw 2 64)) (.v 0)) [.c (.t (.ab 0) (.pw 2 40)) (.t (.ab 1) (.pw 2 40))]) hlt) ((pI:Qn [] [_,_] (.S (.v 0) (.pw 2 64)) [.c (.t (.ab 0) (.pw 2 40)) (.t (.ab 1) (.pw 2 40))]) hlt)))
  ·rw[cJ q]at e;refine eN (dL.mp e) λx e1 e=> ?_;refine eN (dL.mp e) λy e2 e=> ?_;rw[D.asS_inv e1]at ra;rw[D.asI_inv e2]at rb;refine oA (I5 e) λhlt e'=> ?_;clear e e1 e2;subst e';subst hlt;refine Rd.str_on ra λt=> ?_;refine Rd.int_on rb λu=> ?_;exact P.mul_str_none (by decide) (by decide) (h _ _ (Rd.str Str.empty _))
 |Mod=>
  refine ii_on e ra rb λi j t u e=> ?_;refine oA (I5 e) λhlt e=> ?_;subst e;exact PyProof.Rows.mod_int' ((pI:Qn [] [_] (.n (.E (.v 0) (.k 0))) [.S (.k 0) (.v 0)]) hlt) (h _ _ (.int ..))
 |FloorDiv=>
  refine ii_on e ra rb λi j t u e=> ?_;refine oA (I5 e) λhlt e=> ?_;subst e;refine PyProof.Rows.floordiv_int (VC hlt) (h _ _ (.int ..)) ?_;exact Or.inl (PyProof.noPylong_small (VB hlt))
 |Pow=>
  refine ii_on e ra rb λi j t u e=> ?_;refine wB (Iff.mp and_assoc (I5 e)) λe1 e2 e'=> ?_;clear e;subst e';subst e1;subst e2;exact PyProof.Rows.pow_int (by decide) (by decide) (h _ _ (.int ..))
 |_=>exact eC e
end
end
variable{α:Type}{a:Addr}{b:List Stmt}{β:Type}{c:Nat}{p:Nat}{s:Shared}{X:List Addr}{e:cP}{h:Heap}{i:Nat}{x:List Nat}{xs:List D}{h':Heap}{F:List Addr}{h₁:Heap}{ad:List Addr}{ad':List Addr}{L:Addr}{Ls:List Addr}{Q:Value->Shared->Prop}{E:Value->Shared->Prop}{n:Nat}{A:Around}{ag:List Env}{pos:Pos}{Vs:List Value}{w:List Nat}{es:List cP}{np:Pos}{ps:List Str}{sc:Scope}{cd:Value}{body:List Stmt}{more:List Str}{ds:List D}{T:List Nat}
variable{σ:List MO}{σ':List MO}{vs:List PV}{G:Gl}{nx:Nat->List MO->Option (Option PV)}{x4:Option PV}
variable{C:Addr->List PV->M PV}{m:M PV}{ms:List (M PV)}{sem:List PV->M PV}{Cf:List PV->M Unit}
section
open PySem.Calls PySem.Spec PySem.SeqAt PyProof.Rows
section
mutual
theorem D.ok_py:∀d:D,d.py.canLay0=d.ok
 | .none=>rfl
 | .bool _=>rfl
 | .int _=>rfl
 | .str s=>by simp[D.py,D.ok,PyData.canLay0,PyData.strOk]
 | .tup xs=>by simp[D.py,D.ok,PyData.canLay0,D.oks_py xs]
theorem D.oks_py:∀d:List D,PyData.canLayAll0 (D.pys d)=D.oks d
 |[]=>rfl
 |x::xs=>by simp[D.pys,D.oks,PyData.canLayAll0,D.ok_py x,D.oks_py xs]
end
mutual
theorem D.dep_py:∀d:D,d.py.depth=d.dep
 | .none=>rfl
 | .bool _=>rfl
 | .int _=>rfl
 | .str s=>rfl
 | .tup xs=>by simp[D.py,D.dep,PyData.depth,D.deps_py xs]
theorem D.deps_py:∀d:List D,PyData.depthAll (D.pys d)=D.deps d
 |[]=>rfl
 |x::xs=>by simp[D.pys,D.deps,PyData.depthAll,D.dep_py x,D.deps_py xs]
end
def I7(x y:D):Bool:=PyData.eqv x.py y.py
def X9(x y:D):Option Bool:=if x.ok && y.ok && decide (x.dep<=64) && decide (y.dep<=64)then some (I7 x y)else none
def l5(x y:D):Option Bool:=match x with
 | .str a=>(match y with
  | .str b=>some (a == b)
  |y=>X9 (.str a) y)
 | .int a=>(match y with
  | .int b=>some (a == b)
  |y=>X9 (.int a) y)
 |x=>X9 x y
noncomputable def Si(x:List Nat):D->Bool
 | .str y=>y == x
 |_=>false
noncomputable def AC:List D->Bool
 |[]=>true
 | .str _::r=>AC r
 |_::_=>false
noncomputable def EA(x y:List Nat):Bool:= !(Builtin.Str.occurrences ⟨y.toArray⟩ ⟨x.toArray⟩ 0 (Str.length ⟨y.toArray⟩) 1).isEmpty
noncomputable def Pt(x:List Nat):List (List Nat×D)->Bool
 |[]=>false
 |kv::r=>kv.1 == x || Pt x r
def yL(x:List Nat)(ys:List D):Option Bool:=if AC ys then some (ys.any (Si x))else none
def AD(σ:List MO)(x:List Nat):PV->Option Bool
 | .d (.tup ys)=>yL x ys
 | .d (.str y)=>some (EA x y)
 | .cd kvs=>some (Pt x kvs)
 |v=>(dW σ v).bind (yL x)
noncomputable def isNone:D->Bool
 | .none=>true
 |_=>false
noncomputable def PV.asD:PV->Option D
 | .d x=>some x
 |_=>none
@[simp] theorem asD_d(x:D):PV.asD (.d x)=some x:=rfl
def PV.asI(v:PV):Option Int:=v.asD.bind D.asI
def PV.asS(v:PV):Option (List Nat):=v.asD.bind D.asS
@[simp] theorem pasI_i(i:Int):PV.asI (.d (.int i))=some i:=rfl
@[simp] theorem pasS_s(x:List Nat):PV.asS (.d (.str x))=some x:=rfl
theorem PV.asD_inv{v:PV}{x:D}(h:v.asD=some x):v= .d x:=by cases v<;>first|exact eC h|(replace h:=si h;subst h;rfl)
theorem PV.asI_inv{v:PV}{i:Int}(h:v.asI=some i):v= .d (.int i):=eN (dL.mp h) λ_ e1 e2=>by rw[PV.asD_inv e1,D.asI_inv e2]
theorem PV.asS_inv{v:PV}{x:List Nat}(h:v.asS=some x):v= .d (.str x):=eN (dL.mp h) λ_ e1 e2=>by rw[PV.asD_inv e1,D.asS_inv e2]
def Vm(f:Int->Int->Bool)(a b:PV):Option Bool:=a.asI.bind λx=>b.asI.bind λy=>some (f x y)
@[simp] theorem cII_ii(f:Int->Int->Bool)(i j:Int):Vm f (.d (.int i)) (.d (.int j))=some (f i j):=rfl
def Z1(f:List Nat->List Nat->Bool)(a b:PV):Option Bool:=a.asS.bind λx=>b.asS.bind λy=>some (f x y)
def Wv(a b:PV):Option Bool:=if a.asI.isSome then Vm (λx y=>decide (x<=y)) a b else Z1 (λx y=> !decide (y<x)) a b
@[simp] theorem cLE_ii(i j:Int):Wv (.d (.int i)) (.d (.int j))=some (decide (i<=j)):=rfl
@[simp] theorem cLE_ss(x y:List Nat):Wv (.d (.str x)) (.d (.str y))=some (!decide (y<x)):=rfl
noncomputable def Te(xs ys:List D):Option Bool:=if xs.length != ys.length then some false else if xs.length=0 then some true else none
def Vn(σ:List MO)(a b:PV):Option Bool:=match a.asD with
 |some x=>b.asD.bind (l5 x)
 |none=>(dW σ a).bind λxs=>(dW σ b).bind (Te xs)
@[simp] theorem eqV_dd(σ:List MO)(x y:D):Vn σ (.d x) (.d y)=l5 x y:=rfl
@[simp] theorem eqV_rr(σ:List MO)(i j:Nat):Vn σ (.ref i) (.ref j)=(dW σ (.ref i)).bind λxs=>(dW σ (.ref j)).bind λys=>if xs.length != ys.length then some false else if xs.length=0 then some true else none:=rfl
@[simp] theorem eqV_rc(σ:List MO)(i:Nat)(l:List D):Vn σ (.ref i) (.cl l)=(dW σ (.ref i)).bind λxs=>(dW σ (.cl l)).bind λys=>if xs.length != ys.length then some false else if xs.length=0 then some true else none:=rfl
noncomputable def Sj:PV->Bool
 | .d (.str _)=>true
 | .cd _=>true
 |_=>false
def Yb(f:Bool->Bool)(a b:PV):Option Bool:=a.asD.bind λx=>b.asD.bind λy=>if isNone y then some (f (isNone x))else none
@[simp] theorem isN_n(f:Bool->Bool)(x:D):Yb f (.d x) (.d .none)=some (f (isNone x)):=rfl
def gJ(σ:List MO)(op:CmpOp)(a b:PV):Option Bool:=match op with
 | .Eq=>Vn σ a b
 | .NotEq=>a.asD.bind λx=>b.asD.bind λy=>(l5 x y).map (!·)
 | .Lt=>Vm (λx y=>decide (x<y)) a b
 | .Gt=>Vm (λx y=>decide (y<x)) a b
 | .GtE=>Vm (λx y=>decide (y<=x)) a b
 | .LtE=>Wv a b
 | .In=>a.asS.bind λx=>AD σ x b
 | .NotIn=>if Sj b then none else a.asS.bind λx=>(AD σ x b).map (!·)
 | .Is=>Yb (λx=>x) a b
 | .IsNot=>Yb (λx=> !x) a b
noncomputable def CC(x:List Nat):Value->Bool
 | .str y _=>y ==⟨x.toArray⟩
 |_=>false
theorem BG{y:D}{ys:List D}(a:AC (y::ys)=true):(∃s,y= .str s)/\AC ys=true:=by cases y<;>first|exact⟨⟨_,rfl⟩,a⟩|exact mY a
theorem yu{ys:List D}(r:dD h Vs ys):AC ys=true->Vs.any (CC x)=ys.any (Si x):=
 dD.ind (R:=λVs ys=>AC ys=true->Vs.any (CC x)=ys.any (Si x)) (λ_=>rfl) (λ{v d vs ds} k r ih a=>by
  refine oA (BG a) λoz1 a=> ?_;obtain⟨s,rfl⟩:=oz1;refine Rd.str_on k λt=> ?_;obtain⟨y,rfl⟩:∃y:Str,s=y.cps.toList:=⟨⟨s.toArray⟩,rfl⟩
  have e:CC x (.str ⟨y.cps.toList.toArray⟩ t)=Si x (.str y.cps.toList):=by
   show((⟨y.cps.toList.toArray⟩:Str) ==⟨x.toArray⟩)=(y.cps.toList == x);obtain⟨⟨l⟩⟩:=y;by_cases h:l=x
   ·subst h;simp
   ·have:¬(⟨⟨l⟩⟩:Str)=⟨x.toArray⟩:=λe=>h (by injection e with e;simpa using dN Array.toList e)
    exact(gO.mpr this).trans (gO.mpr h).symm
  rw[lF,lF,e,ih a]) r
theorem rt{t:Tok}{ys:List D}(r:dD h Vs ys):AC ys=true->∀y ∈ Vs,EqAt A s y (.str ⟨x.toArray⟩ t) (CC x y):=
 dD.ind (R:=λVs ys=>AC ys=true->∀y ∈ Vs,EqAt A s y (.str ⟨x.toArray⟩ t) (CC x y)) (λ_ _ m=>nomatch m) (λ{v d vs ds} k r ih a z m=>by
  refine oA (BG a) λoz1 a=> ?_;obtain⟨s,rfl⟩:=oz1;refine oE k.str_inv λu ez1=> ?_;subst ez1;rcases dj.mp m with rfl|m
  ·exact EqAt.str_str _ u ⟨x.toArray⟩ t
  ·exact ih a z m) r
theorem vz(x y:List Nat):((⟨x.toArray⟩:Str) ==⟨y.toArray⟩)=(x == y):=by
 by_cases h:x=y
 ·subst h;simp
 ·have:¬(⟨x.toArray⟩:Str)=⟨y.toArray⟩:=λe=>h (by injection e with e;simpa using dN Array.toList e)
  exact(gO.mpr this).trans (gO.mpr h).symm
theorem CD:∀{ps:List (Str×Value)}{kvs:List (List Nat×D)},Kh h ps kvs->(valueAt ps ⟨x.toArray⟩).isSome=Pt x kvs:=by
 intro l1
 induction l1 with
 |nil=>intro l2;cases l2 with
  |nil=>exactλ_=>rfl
  |cons _ _=>exactλhx=>hx.elim
 |cons p ps ih=>intro l2;cases l2 with
  |nil=>exactλhx=>hx.elim
  |cons kv kvs=>
    intro hx;obtain⟨h1,h2,h3⟩:=hx;have ih:=ih h3;have e:=vz kv.1 x;rw[<-h1]at e;unfold valueAt Pt;unfold valueAt at ih;rw[List.find?_cons,<-ih,<-e];by_cases q:p.1=⟨x.toArray⟩
    ·simp[q]
    ·simp[q]
theorem CE{x y:D}{c:Bool}(e:X9 x y=some c):shaped x.py=true/\shaped y.py=true/\c=PyData.eqv x.py y.py:=by
 refine oA (I5 e) λh e=> ?_;subst e;simp only[ej,decide_eq_true_eq]at h;refine oA h λoz1 h4=> ?_;clear h;obtain⟨⟨h1,h2⟩,h3⟩:=oz1;refine⟨?_,?_,rfl⟩
 ·unfold shaped;rw[D.ok_py,D.dep_py,h1,eE h3];rfl
 ·unfold shaped;rw[D.ok_py,D.dep_py,h2,eE h4];rfl
theorem I8{x y:D}{c:Bool}(e:l5 x y=some c):(∃a b,x= .str a/\y= .str b/\c=(a == b))\/(∃a b,x= .int a/\y= .int b/\c=(a == b))\/(shaped x.py=true/\shaped y.py=true/\c=PyData.eqv x.py y.py):=by
 cases x with
 |str a=>cases y with
  |str b=>exact .inl ⟨_,_,rfl,rfl,(si e).symm⟩
  |_=>exact .inr (.inr (CE e))
 |int a=>cases y with
  |int b=>exact .inr (.inl ⟨_,_,rfl,rfl,(si e).symm⟩)
  |_=>exact .inr (.inr (CE e))
 |_=>exact .inr (.inr (CE e))
@[elab_as_elim] theorem cII_on{a b:PV}{V W:Value}{f:Int->Int->Bool}{c:Bool}{P:Value->Value->Prop}(e:Vm f a b=some c)(ra:eW G h ad a V)(rb:eW G h ad b W)(k:∀i j t u,f i j=c->P (.int i t) (.int j u)):P V W:=by refine eN (dL.mp e) λi e1 e=> ?_;refine eN (dL.mp e) λj e2 e=> ?_;rw[PV.asI_inv e1]at ra;rw[PV.asI_inv e2]at rb;refine Rd.int_on ra λt=> ?_;refine Rd.int_on rb λu=> ?_;exact k i j t u (si e)
@[elab_as_elim] theorem cSS_on{a b:PV}{V W:Value}{f:List Nat->List Nat->Bool}{c:Bool}{P:Value->Value->Prop}(e:Z1 f a b=some c)(ra:eW G h ad a V)(rb:eW G h ad b W)(k:∀(x y:List Nat) t u,f x y=c->P (.str ⟨x.toArray⟩ t) (.str ⟨y.toArray⟩ u)):P V W:=by refine eN (dL.mp e) λi e1 e=> ?_;refine eN (dL.mp e) λj e2 e=> ?_;rw[PV.asS_inv e1]at ra;rw[PV.asS_inv e2]at rb;refine Rd.str_on ra λt=> ?_;refine Rd.str_on rb λu=> ?_;exact k i j t u (si e)
theorem Mf{a b:PV}{V W:Value}{f:Bool->Bool}{c:Bool}{C:Prop}(e:Yb f a b=some c)(ra:eW G h ad a V)(rb:eW G h ad b W)(k:∀x,Rd h V x->Rd h W .none->f (isNone x)=c->C):C:=by refine eN (dL.mp e) λx e1 e=> ?_;refine eN (dL.mp e) λy e2 e=> ?_;rw[PV.asD_inv e1]at ra;rw[PV.asD_inv e2]at rb;refine oA (I5 e) λq e'=>k x ra ?_ e';cases y<;>first|exact mY q|exact rb
theorem rz{ys:List D}{c:Bool}(e:yL x ys=some c):AC ys=true/\ys.any (Si x)=c:=I5 e
theorem yv{op:CmpOp}{a b:PV}{c:Bool}{V W:Value}
  (S:St G F ad σ s.heap)(hu:A.units+66<cLine)(e:gJ σ op a b=some c)(ra:eW G s.heap ad a V)(rb:eW G s.heap ad b W)
  (h:∀tk,Q (.bool c) { s with heap:=s.heap,toks:=tk }):wpAny (model G.prog G.w) A (compareOp op V W) Q E s:=by
 have h0:Q (.bool c) s:=h s.toks;cases op with
 |Eq=>
  cases q:a.asD with
  |some x=>
   refine eN (dL.mp (show b.asD.bind (l5 x)=some c by rw[<-e];unfold gJ Vn;dsimp only;rw[q])) λy e1 e2=> ?_;rw[PV.asD_inv q]at ra;rw[PV.asD_inv e1]at rb;have k:=I8 e2;clear e2 e1 q e h;rcases k with⟨p,q,rfl,rfl,rfl⟩|⟨p,q,rfl,rfl,rfl⟩|⟨h1,h2,rfl⟩
   ·refine Rd.str_on ra λt=> ?_;refine Rd.str_on rb λu=> ?_;exact PyProof.Rows.eq_str (by rw[vz];exact h0)
   ·refine Rd.int_on ra λt=> ?_;refine Rd.int_on rb λu=> ?_;exact PyProof.Rows.eq_int h0
   ·exact eq_dataH (Rd.reads ra) (Rd.reads rb) h1 h2 (VE hu) h0
  |none=>
   refine eN (dL.mp (show(dW σ a).bind _=some c by rw[<-e];unfold gJ Vn;dsimp only;rw[q])) λxs e1 e=> ?_;refine eN (dL.mp e) λys e2 e=> ?_;refine iJ (S.isL ra e1) λla ia ez1 l1 r1=> ?_;subst ez1;refine iJ (S.isL rb e2) λlb ib ez1 l2 r2=> ?_;subst ez1;have s1:ia.size=xs.length:=by rw[<-r1.length];simp
   have s2:ib.size=ys.length:=by rw[<-r2.length];simp
   unfold Te at e;by_cases hn:(xs.length != ys.length)=true
   ·rw[cH hn]at e;replace e:=si e;subst e;exact eq_list_lengthsAt l1 l2 (by rw[s1,s2];exact hn) (VF hu) h0
   ·rw[cJ hn]at e;refine oA (I5 e) λhz e'=> ?_;clear e;subst e';have hz1:ia.size=0:=s1.trans hz;have hn':xs.length=ys.length:=by simpa using hn
    exact eq_listAt (e:=λ_=>true) l1 l2 (by rw[s1,s2];exact hn') (VF hu) (λj h1 _=>absurd h1 ((kI (.n (.t A2 A0)) [.e A0 A1,.e A1 (.k 0),.t A2 A0]) s1 hz h1)) (by simpa [hz1] using h0)
 |NotEq=>
  refine eN (dL.mp e) λx e1 e=> ?_;refine eN (dL.mp e) λy e2 e=> ?_;refine eN (fe.mp e) λd e' ez1=> ?_;clear e;subst ez1;rw[PV.asD_inv e1]at ra;rw[PV.asD_inv e2]at rb;have k:=I8 e';clear e' e1 e2 h;rcases k with⟨p,q,rfl,rfl,rfl⟩|⟨p,q,rfl,rfl,rfl⟩|⟨h1,h2,rfl⟩
  ·refine Rd.str_on ra λt=> ?_;refine Rd.str_on rb λu=> ?_;exact PyProof.Rows.ne_str (by show Q (.bool (!((⟨p.toArray⟩:Str) ==⟨q.toArray⟩))) s;rw[vz];exact h0)
  ·refine Rd.int_on ra λt=> ?_;refine Rd.int_on rb λu=> ?_;exact PyProof.Rows.ne_int h0
  ·exact ne_dataH (Rd.reads ra) (Rd.reads rb) h1 h2 (VE hu) h0
 |Lt=>exact cII_on e ra rb λi j t u q=>PyProof.Rows.lt_int (by rw[q];exact h0)
 |Gt=>exact cII_on e ra rb λi j t u q=>PyProof.Rows.gt_int (by rw[q];exact h0)
 |GtE=>exact cII_on e ra rb λi j t u q=>PyProof.Rows.ge_int (by rw[q];exact h0)
 |LtE=>
  have e:Wv a b=some c:=e;unfold Wv at e;by_cases q:a.asI.isSome
  ·rw[cH q]at e;exact cII_on e ra rb λi j t u q=>PyProof.Rows.le_int (by rw[q];exact h0)
  ·rw[cJ q]at e;exact cSS_on e ra rb λi j t u q=>P.le_str (by rw[q];exact h0)
 |In=>
  refine eN (dL.mp e) λx e1 e=> ?_;rw[PV.asS_inv e1]at ra;refine Rd.str_on ra λt=> ?_;unfold AD at e;split at e
  ·refine oA (rz e) λha e=> ?_;refine Rd.tup_on rb λl items hl r=> ?_
   exact in_tupleAt (CC x) hl (λy m=>rt r ha y (by simpa using m)) (by rw[<-nV,yu r ha,e];exact h0)
  ·refine Rd.str_on rb λu=> ?_;replace e:=si e;subst e;exact PyProof.Rows.in_str h0
  ·replace e:=si e;subst e;refine uL rb λl ps ez1 hm hd hc=> ?_;clear rb;subst ez1;refine wpAny_in_of (strKind_is _ _ _ _) hm (hd.keep S.base).mapOf ?_;rw[CD hc];exact h _
  ·refine eN (dL.mp e) λys e1 e=> ?_;refine oA (rz e) λha e=> ?_;refine iJ (S.isL rb e1) λl items ez1 hl r=> ?_;subst ez1
   exact in_listAt (CC x) hl (λy m=>rt r ha y (by simpa using m)) (by rw[<-nV,yu r ha,e];exact h0)
 |NotIn=>
  unfold gJ at e;dsimp only at e;by_cases q:Sj b=true
  ·rw[cH q]at e;exact eC e
  ·rw[cJ q]at e;refine eN (dL.mp e) λx e1 e=> ?_;rw[PV.asS_inv e1]at ra;refine Rd.str_on ra λt=> ?_;refine eN (fe.mp e) λd e' ez1=> ?_;clear e;subst ez1;unfold AD at e';split at e'
   ·refine oA (rz e') λha e=> ?_;refine Rd.tup_on rb λl items hl r=> ?_
    exact notIn_tupleAt (CC x) hl (λy m=>rt r ha y (by simpa using m)) (by rw[<-nV,yu r ha,e];exact h0)
   ·exact absurd rfl q
   ·exact absurd rfl q
   ·refine eN (dL.mp e') λys e1 e=> ?_;refine oA (rz e) λha e=> ?_;refine iJ (S.isL rb e1) λl items ez1 hl r=> ?_;subst ez1
    exact notIn_listAt (CC x) hl (λy m=>rt r ha y (by simpa using m)) (by rw[<-nV,yu r ha,e];exact h0)
 |Is=>
  refine Mf (f:=λx=>x) e ra rb λx ra rb e=> ?_;obtain rfl:=Rd.none_inv rb;refine is_none_gen ?_;rw[<-e]at h0;cases ra<;>exact h0
 |IsNot=>
  refine Mf (f:=λx=> !x) e ra rb λx ra rb e=> ?_;obtain rfl:=Rd.none_inv rb;refine isnot_none_gen ?_;rw[<-e]at h0;cases ra<;>exact h0
end
section
variable{f:Fm}{aa:List (Option PV)}
def rA(xs:List D):M PV:=λσ=>if xs.length<=eZ then some (.ok (.ref σ.length),σ++[.list xs])else none
theorem vA{r:R PV}(e:rA xs σ=some (r,σ')):xs.length<=eZ/\r= .ok (.ref σ.length)/\σ'=σ++[.list xs]:=by
 unfold rA at e;split at e
 ·refine Pf e ?_;clear e;intro ey ez;subst ey;subst ez;exact⟨by assumption,rfl,rfl⟩
 ·exact eC e
def ly(op:Operator)(a b:PV):M PV:=λσ=>match a,b with
 | .d x,.d y=>(sU op x y).map λz=>(.ok (.d z),σ)
 |v,w=>match op with
  | .Add=>(dW σ v).bind λxs=>(dW σ w).bind λys=>rA (xs++ys) σ
  |_=>none
def ir(op:CmpOp)(a b:PV):M Bool:=λσ=>(gJ σ op a b).map λc=>(.ok c,σ)
noncomputable def pW:PV->Option Bool
 | .d (.bool b)=>some b
 |_=>none
theorem jh:eZ<=sizeLine:=by unfold eZ;have:sizeLine=16777216:=rfl;exact(lE (.l (.k 4000000) A0) [.e A0 (.k 16777216)]) this
theorem Mg{prog:Program}{w:World}{l b:Addr}{items items2:Array Value}(hl:s.heap.IsList l items)(hb:s.heap.IsList b items2)(hsz:items.size+items2.size<=sizeLine)
  (h:Q (.ref s.heap.objs.size) { s with heap:=s.heap.push { cls:= .type "list",data:= .seq (items++items2) } }):wpAny (model prog w) A (binaryOp .Add (.ref l) (.ref b)) Q E s:=by
 refine Rr (id hl) λoz1 ho hc n hd=> ?_;obtain⟨cls,dd,data,sl⟩:=oz1;refine Rr (id hb) λoz1 ho2 hc2 n2 hd2=> ?_;obtain⟨cls2,dd2,data2,sl2⟩:=oz1;simp only at hc hd hc2 hd2;subst hc hd hc2 hd2;exact concat_meets ⟨_,ho,rfl⟩ ⟨_,ho2,rfl⟩ noFill_list_add seq_list_add PySem.F.slot_list_add PySem.F.entry_list_add (PySem.F.args_list_add_2 _ _) (list_addW l b items items2 n n2 dd dd2 sl sl2 hsz) ⟨ho,ho2,h⟩
theorem pd{l r:cP}{op:Operator}{ml mr:M PV}(hl:dR G n f aa l ml)(hr:dR G n f aa r mr):
  dR G n f aa (.BinOp l op r pos) (bnd ml λa=>bnd mr λb=>ly op a b):=by
 intro A ag Ls ad σ s Q E z σ' C S Lc e P;refine wpAny_BinOp (hl.thn C S Lc e P λa V h₁ tk₁ ak σ₁ ai ax ra am aj al=>hr.thn C ai am aj al λb W ar aE aD aG aq aB rb aK ao aA=> ?_);have ra:=ra.stepE ai aB;unfold ly at ao
 symm at ao
 ·rename_i x y;refine eN (fe.mp ao) λc az aF=> ?_;refine p1 aF ?_;clear aF;intro ey ez;subst ey;subst ez;exact Pr az ra rb C.hh λX tk rX=>aA.now aq rX tk
 ·split at ao
  ·refine eN (dL.mp ao) λxs h1 az=> ?_;refine eN (dL.mp az) λys h2 aF=> ?_;refine wB (vA aF) λhsz ez1 ez2=> ?_;subst ez1;subst ez2;refine iJ (aq.isL ra h1) λla ia ez1 l1 r1=> ?_;subst ez1;refine iJ (aq.isL rb h2) λlb ib ez1 l2 r2=> ?_;subst ez1;refine Mg l1 l2 ?_ ?_
   ·have:=r1.length;have:=r2.length;have:=jh;simp at *
    omega
   ·exact aA.newList aq (s:={ s with heap:=ar,toks:=aE }) (items:=ia++ib) 0 (by simpa using dD.append r2 r1) aE
  ·exact eC ao
theorem Tf{l r:cP}{op:CmpOp}{ml mr:M PV}(hl:dR G n f aa l ml)(hr:dR G n f aa r mr)(hm:behindInMarks op r=false):
  dR G n f aa (.Compare l [op] [r] pos) (bnd ml λa=>bnd mr λb=>bnd (ir op a b) λc=>ret (.d (.bool c))):=by
 intro A ag Ls ad σ s Q E z σ' C S Lc e P;refine wpAny_Compare1 (hl.thn C S Lc e P λa V h₁ tk₁ ak σ₁ ai ax ra am aj al=>hr.thn C ai am aj al λb W ar aE aD aG aq aB rb aK ao aA=> ?_) hm;have ra:=ra.stepE ai aB;rcases nE ao with⟨c,bs,az,aF⟩|⟨az,_⟩
 ·refine oA (ky aF) λez1 ez2=> ?_;subst ez1;subst ez2;refine eN (fe.mp az) λc' a7 aZ=> ?_;cases aZ;exact yv aq (by have:=C.hu;have:cLine=9900:=rfl;omega) a7 ra rb λtk=>aA.now aq (Rd.bool c) tk
 ·refine eN (fe.mp az) λc' a7 aZ=> ?_;cases aZ
theorem Tg{l r:cP}{op:CmpOp}{ml mr:M PV}(hl:dR G n f aa l ml)(hr:dR G n f aa r mr)(hm:behindInMarks op r=false)(whole:Sem Value):
  I4 G n f aa (isTrue (.Compare l [op] [r] pos) f.env whole) (bnd ml λa=>bnd mr λb=>ir op a b) RB:=by
 intro A ag Ls ad σ s Q E z σ' C S Lc e P;refine wpAny_isTrue_Compare1 (hl.thn C S Lc e P λa V h₁ tk₁ ak σ₁ ai ax ra am aj al=>hr.thn C ai am aj al λb W ar aE aD aG aq aB rb aK ao aA=> ?_) hm;have ra:=ra.stepE ai aB;refine eN (fe.mp ao) λc' a7 aZ=> ?_;refine p1 aZ ?_;clear aZ;intro ey ez;subst ey;subst ez;exact yv aq (by have:=C.hu;have:cLine=9900:=rfl;omega) a7 ra rb λtk=>nQ (aA.now aq rfl tk)
theorem pe(h:dR G n f aa e m)(he:∀whole,isTrue e f.env whole=(do let v <-whole;standAt e.pos;holding [v] (truthy v))):
  uM G n f aa e (bnd m λv=>lift (pW v)):=by
 intro A ag Ls ad σ s Q E z σ' C S Lc e P;refine isTrue_plain (h.thn C S Lc e P λa V h₁ tk₁ ak σ₁ ai ax ra am aj al=> ?_) (he _);refine ot (sS aj) λb ao ez1 ez2=> ?_;subst ez1;subst ez2;unfold pW at ao;split at ao
 ·replace ao:=sj ao;subst ao;refine Rd.bool_on ra ?_;exact nQ (al.now ai rfl _)
 ·exact eC ao
theorem Th{m:M Bool}(h:uM G n f aa e m)(whole:Sem Value):I4 G n f aa (isTrue (.UnaryOp .Not e pos) f.env whole) (bnd m λb=>ret (!b)) RB:=by intro A ag Ls ad σ s Q E z σ' C S Lc e P;refine isTrue_not (h.thn C S Lc e P λa V h₁ tk₁ ak σ₁ ai ax ra am aj al=> ?_);have al:=al.of_ret aj;subst ra;exact al.now ai rfl _
noncomputable def uN:List (M Bool)->M Bool
 |[]=>ret true
 |m::r=>bnd m λc=>match c with|true=>uN r|false=>ret false
noncomputable def LH:List (M Bool)->M Bool
 |[]=>ret false
 |m::r=>bnd m λc=>match c with|true=>ret true|false=>LH r
inductive BH (G:Gl) (n:Nat) (f:Fm) (aa:List (Option PV)):List cP->List (M Bool)->Prop
 |nil:BH G n f aa [] []
 |cons {e0 m0 es0 ms0}:uM G n f aa e0 m0->BH G n f aa es0 ms0->BH G n f aa (e0::es0) (m0::ms0)
theorem Ti(whole:Sem Value){ms:List (M Bool)}(x:BH G n f aa es ms):I4 G n f aa (isTrue (.BoolOp .And es pos) f.env whole) (uN ms) RB:=by
 induction x with
 |nil=>
  intro A ag Ls ad σ s Q E z σ' C S Lc e P;have P:=P.of_ret e;exact isTrue_and_nil (P.now S rfl s.toks)
 |cons h hs ih=>
  intro A ag Ls ad σ s Q E z σ' C S Lc e P;refine isTrue_and (h.thn C S Lc e P λa V h₁ tk₁ ak σ₁ ai ax ra am aj al=> ?_);subst ra;cases a with
  |true=>exact ih A ag Ls ak σ₁ _ _ _ _ _ C ai am aj al
  |false=>
   have al:=al.of_ret aj;exact al.now ai rfl _
theorem Ww(whole:Sem Value){ms:List (M Bool)}(x:BH G n f aa es ms):I4 G n f aa (isTrue (.BoolOp .Or es pos) f.env whole) (LH ms) RB:=by
 induction x with
 |nil=>
  intro A ag Ls ad σ s Q E z σ' C S Lc e P;have P:=P.of_ret e;exact isTrue_or_nil (P.now S rfl s.toks)
 |cons h hs ih=>
  intro A ag Ls ad σ s Q E z σ' C S Lc e P;refine isTrue_or (h.thn C S Lc e P λa V h₁ tk₁ ak σ₁ ai ax ra am aj al=> ?_);subst ra;cases a with
  |false=>exact ih A ag Ls ak σ₁ _ _ _ _ _ C ai am aj al
  |true=>
   have al:=al.of_ret aj;exact al.now ai rfl _
noncomputable def andV:List (M PV)->M PV
 |[]=>cU
 |[m]=>m
 |m::r=>bnd m λv=>match pW v with|some true=>andV r|some false=>ret v|none=>cU
noncomputable def orV:List (M PV)->M PV
 |[]=>cU
 |[m]=>m
 |m::r=>bnd m λv=>match pW v with|some true=>ret v|some false=>orV r|none=>cU
inductive jy (G:Gl) (n:Nat) (f:Fm) (aa:List (Option PV)):List cP->List (M PV)->Prop
 |nil:jy G n f aa [] []
 |cons {e0 m0 es0 ms0}:W.isStarred e0=false->dR G n f aa e0 m0->jy G n f aa es0 ms0->jy G n f aa (e0::es0) (m0::ms0)
theorem EM{v:PV}{V:Value}{c:Bool}(e:pW v=some c)(r:eW G h ad v V):v= .d (.bool c)/\V= .bool c:=by
 unfold pW at e;split at e
 ·replace e:=sj e;subst e;exact⟨rfl,Rd.bool_inv r⟩
 ·exact eC e
theorem Tj(x:jy G n f aa es ms):dR G n f aa (.BoolOp .And es pos) (andV ms):=by
 induction x with
 |nil=>intro A ag Ls ad σ s Q E z σ' C S Lc e P;exact eC e
 |cons h0 h hs ih=>
  intro A ag Ls ad σ s Q E z σ' C S Lc e P;cases hs with
  |nil=>exact BoolOp_one (h A ag Ls ad σ s Q E z σ' C S Lc e P)
  |cons h1 h2 h3=>
  refine BoolOp_and (h.thn C S Lc e P λa V h₁ tk₁ ak σ₁ ai ax ra am aj al=> ?_);cases q:pW a with
  |none=>simp only[q]at aj;exact eC aj
  |some c=>
   refine oA (EM q ra) λez1 ez2=> ?_;subst ez1;subst ez2;cases c with
   |true=>
    simp only[q]at aj;exact nQ (ih A ag Ls ak σ₁ _ _ _ _ _ C ai am aj al)
   |false=>
    simp only[q]at aj;have al:=al.of_ret aj;exact nQ (al.now ai ra _)
theorem Wx(x:jy G n f aa es ms):dR G n f aa (.BoolOp .Or es pos) (orV ms):=by
 induction x with
 |nil=>intro A ag Ls ad σ s Q E z σ' C S Lc e P;exact eC e
 |cons h0 h hs ih=>
  intro A ag Ls ad σ s Q E z σ' C S Lc e P;cases hs with
  |nil=>exact BoolOp_one (h A ag Ls ad σ s Q E z σ' C S Lc e P)
  |cons h1 h2 h3=>
  refine BoolOp_or (h.thn C S Lc e P λa V h₁ tk₁ ak σ₁ ai ax ra am aj al=> ?_);cases q:pW a with
  |none=>simp only[q]at aj;exact eC aj
  |some c=>
   refine oA (EM q ra) λez1 ez2=> ?_;subst ez1;subst ez2;cases c with
   |false=>
    simp only[q]at aj;exact nQ (ih A ag Ls ak σ₁ _ _ _ _ _ C ai am aj al)
   |true=>
    simp only[q]at aj;have al:=al.of_ret aj;exact nQ (al.now ai ra _)
theorem Tl{t a b:cP}{mt:M Bool}{ma mb:M PV}(ht:uM G n f aa t mt)(ha:dR G n f aa a ma)(hb:dR G n f aa b mb):dR G n f aa (.IfExp t a b pos) (bnd mt λc=>match c with|true=>ma|false=>mb):=by
 intro A ag Ls ad σ s Q E z σ' C S Lc e P;refine IfExp_ (ht.thn C S Lc e P λc V h₁ tk₁ ak σ₁ ai ax rc am aj al=> ?_);subst rc;cases c with
 |true=>exact ha A ag Ls ak σ₁ _ _ _ _ _ C ai am aj al
 |false=>exact hb A ag Ls ak σ₁ _ _ _ _ _ C ai am aj al
noncomputable def Mh:PV->Option PV
 | .d (.int i)=>some (.d (.int (-i)))
 |_=>none
theorem Tm(h:dR G n f aa e m):dR G n f aa (.UnaryOp .USub e pos) (bnd m λv=>lift (Mh v)):=by
 intro A ag Ls ad σ s Q E z σ' C S Lc e P;refine wpAny_UnaryOp (h.thn C S Lc e P λc V h₁ tk₁ ak σ₁ ai ax rc am aj al=> ?_);refine ot (sS aj) λw ao ez1 ez2=> ?_;subst ez1;subst ez2;unfold Mh at ao;split at ao
 ·replace ao:=si ao;subst ao;refine Rd.int_on rc λt=> ?_;exact PyProof.Rows.neg_int (al.now ai (Rd.int ..) _)
 ·exact eC ao
noncomputable def ja:List (M PV)->M (List PV)
 |[]=>ret []
 |m::r=>bnd m λv=>bnd (ja r) λvs=>ret (v::vs)
theorem eb{rest:List cP}{env:Env}(h:W.isStarred e=false):starEach (e::rest) env=(false,eval e env)::starEach rest env:=by cases e<;>first|rfl|exact Yk h
theorem oP(x:jy G n f aa es ms):I4 G n f aa (spliced (backTo pos (starEach es f.env))) (ja ms) (jA G):=by
 induction x with
 |nil=>
  intro A ag Ls ad σ s Q E z σ' C S Lc e P;have P:=P.of_ret e;exact args_nil (P.now S (a:=[]) trivial s.toks)
 |cons h0 h hs ih=>
  intro A ag Ls ad σ s Q E z σ' C S Lc e P;refine args_cons (h.thn C S Lc e P λa V h₁ tk₁ ak σ₁ ai ax ra am aj al=>ih.thn C ai am aj al λb W ar aE aD aG aq aB rb aK ao aA=> ?_) (eb h0);have aA:=aA.of_ret ao;exact aA.now aq (a:=V::W) ⟨ra.stepE ai aB,rb⟩ _
noncomputable def qJ:List PV->Option (List D)
 |[]=>some []
 | .d x::r=>(qJ r).map (x::·)
 |_::_=>none
theorem EN:∀{Vs:List Value}{xs:List D},qJ vs=some xs->jA G h ad vs Vs->dD h Vs xs:=by
 induction vs with
 |nil=>intro Vs xs e r;cases Vs with
  |nil=>exact si e▸.nil
  |cons V Vs=>exact r.elim
 |cons v r ih=>intro Vs xs e k;cases v with
  |d x=>cases Vs with
   |nil=>exact k.elim
   |cons V Vs=>exact eN (fe.mp e) λys e1 e2=>e2▸.cons k.1 (ih e1 k.2)
  |_=>exact eC e
def EO(vs:List PV):M PV:=λσ=>(qJ vs).bind λxs=>if xs.length<=eZ then some (.ok (.d (.tup xs)),σ)else none
def G4(vs:List PV):M PV:=λσ=>(qJ vs).bind λxs=>rA xs σ
theorem fN(h:Heap):h.get? h.objs.size=none:=by
 cases q:h.get? h.objs.size with
 |none=>rfl
 |some x=>exact absurd (kH q) (Nat.lt_irrefl _)
theorem Mi{k:Nat}(h:jy G n f aa es ms):dR G n f aa (.Tuple es k pos) (bnd (ja ms) EO):=by
 intro A ag Ls ad σ s Q E z σ' C S Lc e P;refine wpAny_Tuple ((oP h).thn C S Lc e P λa V h₁ tk₁ ak σ₁ ai ax ra am aj al=> ?_);refine eN (dL.mp aj) λxs ao az=> ?_
 symm at az
 ·rename_i hz;refine Pg az ?_;clear az;intro ey ez;subst ey;subst ez;have r:=EN ao ra;have hl:=r.length;refine⟨by have:=jh;exact X8 hz hl this,?_⟩;have k:∀b x,h₁.get? b=some x->(h₁.push { cls:= .type "tuple",data:= .seq V.toArray }).get? b=some x:=λb x e=>fc _ e;refine al.made ai (h':=h₁.push { cls:= .type "tuple",data:= .seq V.toArray }) k ?_ tk₁
  exact Rd.mkTup ⟨_,gP _ rfl,rfl,0,rfl⟩ (by
   have:dD _ V xs:=dD.keep (ai.tupKeep (λa m=> .inl m) (dE.of_keep (F:=f.L::Ls) (ad:=ak) k)) r
   simpa using this)
 ·exact eC az
theorem Tn(h:jy G n f aa es ms):dR G n f aa (.List es pos) (bnd (ja ms) G4):=by intro A ag Ls ad σ s Q E z σ' C S Lc e P;refine wpAny_List ((oP h).thn C S Lc e P λa V h₁ tk₁ ak σ₁ ai ax ra am aj al=> ?_);refine eN (dL.mp aj) λxs ao az=> ?_;refine wB (vA az) λhz ez1 ez2=> ?_;subst ez1;subst ez2;have r:=EN ao ra;have hl:=r.length;refine⟨by have:=jh;exact X8 hz hl this,?_⟩;exact al.newList ai (s:={ s with heap:=h₁,toks:=tk₁ }) (items:=V.toArray) 0 (by simpa using r) tk₁
end
end
section
open PySem.Calls PySem.Spec PySem.SeqAt PySem.Builtin.Str PyProof.Rows
section
variable{f:Fm}{aa:List (Option PV)}
noncomputable def cut(lo hi:Option Int)(xs:List α):List α:=(xs.drop (lo.elim 0 (clipAt xs.length))).take (hi.elim xs.length (clipAt xs.length) -lo.elim 0 (clipAt xs.length))
theorem Mj(lo hi:Option Int)(n:Nat):strSliceIndices lo hi 1 n=(List.range (hi.elim n (clipAt n) -lo.elim 0 (clipAt n))).map (lo.elim 0 (clipAt n)+·):=by
 rw[<-sliceRange_one];have h1:(1:Int) > 0:=by exact(pQ:Pn [] (.S (.k 0) (.k 1)) [])
 unfold strSliceIndices;simp only[h1,if_true];cases lo<;>cases hi<;>simp only[Option.elim,clipAt_cast]<;>rfl
theorem Pu(x:Str)(lo hi:Option Int):(strSliceIndices lo hi 1 x.length).filterMap (x.cps[·]?)=cut lo hi x.cps.toList:=by rw[Mj,pick_run];unfold cut;simp[Str.length]
theorem CF(v:Int)(n:Nat):(if v<0 then max (v+n) 0 else min v n)=((clipAt n v:Nat):Int):=by
 rw[clipAt_cast];by_cases h:v<0
 ·rw[cH h,cH h];exact(pI:Qn [n] [v] (.E (.ma (.a (.v 0) (.c A0)) (.k 0)) (.ma (.k 0) (.mi (.a (.v 0) (.c A0)) (.c A0)))) [.S (.v 0) (.k 0)]) h
 ·rw[cJ h,cJ h];exact(pI:Qn [n] [v] (.E (.mi (.v 0) (.c A0)) (.ma (.k 0) (.mi (.v 0) (.c A0)))) [.n (.S (.v 0) (.k 0))]) h
theorem G5(lo hi:Option Int)(n:Nat):Builtin.Slice.sliceAdjust lo hi 1 (n:Int)=(((lo.elim 0 (clipAt n):Nat):Int),((hi.elim n (clipAt n):Nat):Int)):=by cases lo<;>cases hi<;>first|exact rfl|exact Prod.ext rfl (CF ..)|exact Prod.ext (CF ..) rfl|exact Prod.ext (CF ..) (CF ..)
theorem G6(a b:Nat):Builtin.Slice.slicePlaces (a:Int) (b:Int) 1=b -a:=by
 unfold Builtin.Slice.slicePlaces;have h1:(1:Int) > 0:=by exact(pQ:Pn [] (.S (.k 0) (.k 1)) [])
 simp only[h1,if_true,Int.ediv_one];split<;>omega
section
variable{prog:Program}{w:World}
theorem us{V:Value}{o:Option Int}{Q:Option Int->Shared->Prop}(p:IsPart V o)(h:Q o s):wpAny (model prog w) A (Builtin.Slice.slicePartIndex V) Q E s:=by
 cases p with
 |none=>exact slicePart_none h
 |int i t=>exact slicePart_int h
theorem wL{sl:Addr}{m:Nat}{vl vu:Value}{lo hi:Option Int}{Q:Int×Int×Nat->Shared->Prop}(hs:s.heap.IsSliceOf sl vl vu .none)(pl:IsPart vl lo)(pu:IsPart vu hi)
  (h:Q (((lo.elim 0 (clipAt m):Nat):Int),1,hi.elim m (clipAt m) -lo.elim 0 (clipAt m)) s):
  wpAny (model prog w) A (Builtin.Slice.sliceApplied (.ref sl) (pure (m:Int))) Q E s:=by
 refine ot (id hs) λos hos hcs hds=> ?_;unfold Builtin.Slice.sliceApplied Builtin.Slice.sliceFields;refine cQ (cQ (wpAny_field hos hds (x:=vl) rfl (cQ (wpAny_field hos hds (x:=vu) rfl (cQ (wpAny_field hos hds (x:= .none) rfl (dc ?_)))))));refine cQ (slicePart_none ?_);show wpAny _ _ (if((1:Int) == 0)=true then _ else _) _ _ s;rw[cJ (by decide)];refine cQ (us pl (cQ (us pu (cQ (dc ?_)))));show wpAny _ _ (match Builtin.Slice.sliceAdjust lo hi 1 (m:Int)with|(lo,hi)=>pure (lo,(1:Int),Builtin.Slice.slicePlaces lo hi 1)) _ _ s
 rw[G5];show wpAny _ _ (pure (((lo.elim 0 (clipAt m):Nat):Int),(1:Int),Builtin.Slice.slicePlaces ((lo.elim 0 (clipAt m):Nat):Int) ((hi.elim m (clipAt m):Nat):Int) 1)) _ _ s;rw[G6];exact dc h
theorem vB{t sl:Addr}{items:Array Value}{vl vu:Value}{lo hi:Option Int}(ht:IsTup s.heap t items)(hs:s.heap.IsSliceOf sl vl vu .none)(pl:IsPart vl lo)(pu:IsPart vu hi)
  (h0:(cut lo hi items.toList).length<items.size)
  (h:Q (.ref s.heap.objs.size) { s with heap:=s.heap.push { cls:= .type "tuple",data:= .seq (cut lo hi items.toList).toArray } })
  (hsz:items.size<=sizeLine):wpAny (model prog w) A (getItem (.ref t) (.ref sl)) Q E s:=by
 have hcut:sizeOk (.seq (cut lo hi items.toList).toArray):=by show(cut lo hi items.toList).toArray.size<=sizeLine;unfold cut;rw[rn,List.length_take,mh,kG];exact(BB (.l (.mi (.s A3 A4) (.s A1 A4)) A2) [.t A0 A1,.l A1 A2]) h0 hsz
 refine ot (id hs) λos hos hcs hds=> ?_;have hTs:s.TypeIs (.ref sl) "slice":=⟨os,hos,hcs⟩;unfold getItem
 try with_reducible refine kb ?_
 first|refine cQ (dc ?_)|skip
 refine cQ (wpAny_sequenceKey ht.typeIs (by decide) ?_)
 refine cQ (wpAny_callSpecial?_slot (name:=Str.ofString "__getitem__") ht.typeIs slot_tuple_getitem
  (wpAny_call_entry slot_tuple_getitem ht.typeIs entry_tuple_getitem ?_ (args_tuple_getitem _ _)))
 show wpAny _ _ (Builtin.Tuple.tupleItemsOf (.ref t) >>= _) _ _ s;refine cQ (tupleItemsOf_ ht ?_);refine cQ (wpAny_typeOf hTs ?_);rw[cH (by decide)];refine cQ (wL hs pl pu ?_);generalize ha:lo.elim 0 (clipAt items.size)=a;generalize hb:hi.elim items.size (clipAt items.size)=b;have ec:cut lo hi items.toList=(items.toList.drop a).take (b -a):=by unfold cut;rw[kG,ha,hb]
 have e:(λ(k:Nat)=>items[((a:Int)+(k:Int) * 1).toNat]?)=λk=>items[a+k]? :=by
  funext k;have:((a:Int)+(k:Int) * 1).toNat=a+k:=by omega
  rw[this]
 have ep:((List.range (b -a)).filterMap λ(k:Nat)=>items[((a:Int)+(k:Int) * 1).toNat]?).toArray=(cut lo hi items.toList).toArray:=by rw[e,ec];have:=pick_run items a (b -a);rw[List.filterMap_map]at this;have e2:((λx=>items[x]?) ∘ λx=>a+x)=λk=>items[a+k]? :=rfl;rw[e2]at this;rw[this]
 show wpAny _ _ (if((a:Int) == 0 &&(1:Int) == 1 &&(b -a) == items.size)=true then _ else _) _ _ s
 have hw:¬((a:Int) == 0 &&(1:Int) == 1 &&(b -a) == items.size)=true:=λhw=>by simp only[ej,kc]at hw;have ha0:a=0:=(kI (.e A0 (.k 0)) [.c (.E (.c A0) (.k 0)) (.e (.s A1 A0) A2)]) ⟨hw.1.1,hw.2⟩;rw[ec,ha0]at h0;rw[ha0]at hw;simp at h0 hw;exact(ie (.f) [.t (.mi A0 A1) A1,.e A0 A1]) h0 hw
 rw[cJ hw,ep]
 first
  |exact cQ (m:=Builtin.Tuple.tupleExact _) (wpAny_newObj_type (dc ⟨_,rfl,dc h⟩) hcut)
  |exact cQ (m:=Builtin.Tuple.tupleExact _) (wpAny_newObj_type (cQ (dc (dc ⟨_,rfl,dc h⟩))) hcut)
  |exact cQ (cQ (m:=Builtin.Tuple.tupleExact _) (wpAny_newObj_type (dc (dc ⟨_,rfl,dc h⟩)) hcut))
  |exact cQ (cQ (m:=Builtin.Tuple.tupleExact _) (wpAny_newObj_type (dc ⟨_,rfl,dc h⟩) hcut))
end
def ut:Option (M PV)->M (Option Int)
 |none=>ret none
 |some m=>bnd m λv=>match v with| .d (.int i)=>ret (some i)|_=>cU
inductive Kk (G:Gl) (n:Nat) (f:Fm) (aa:List (Option PV)):Option cP->Option (M PV)->Prop
 |none:Kk G n f aa none none
 |some {e0 m0}:dR G n f aa e0 m0->Kk G n f aa (some e0) (some m0)
theorem I9{x:Option cP}{m:Option (M PV)}(h:Kk G n f aa x m):I4 G n f aa (evalPart x f.env) (ut m) (λ_ _ o V=>IsPart V o):=by
 intro A ag Ls ad σ s Q E z σ' C S Lc e P;cases h with
 |none=>(refine oA (ky e) λez1 ez2=> ?_;subst ez1;subst ez2);exact dc (P.now S IsPart.none s.toks)
 |some h=>
  refine h.thn C S Lc e P λv V h₁ tk₁ ak σ₁ ai ax rv am aj al=> ?_;split at aj
  ·have al:=al.of_ret aj;refine Rd.int_on rv λt=> ?_;exact al.now ai (IsPart.int ..) tk₁
  ·exact eC aj
def wN(v:PV)(lo hi:Option Int):M PV:=λσ=>match v with
 | .d (.str s)=>if(cut lo hi s).length<=jP then some (.ok (.d (.str (cut lo hi s))),σ)else none
 | .d (.tup xs)=>if xs.length<=eZ/\(cut lo hi xs).length<xs.length then some (.ok (.d (.tup (cut lo hi xs))),σ)else none
 |v=>(dW σ v).bind λxs=>if xs.length<=eZ then rA (cut lo hi xs) σ else none
theorem dD.cut{h:Heap}{vs:List Value}{xs:List D}(r:dD h vs xs)(lo hi:Option Int):dD h (Internal.cut lo hi vs) (Internal.cut lo hi xs):=by unfold Internal.cut;rw[r.length];exact(r.drop _).take _
theorem AE{vl vu:Value}{lo hi:Option Int}(pl:IsPart vl lo)(pu:IsPart vu hi):∃l u:Option (Int×Tok),vl=partValue l/\vu=partValue u/\l.map (·.1)=lo/\u.map (·.1)=hi:=by
 have key:∀{V:Value}{o:Option Int},IsPart V o->∃l:Option (Int×Tok),V=partValue l/\l.map (·.1)=o:=λp=>by
  cases p with
  |none=>exact⟨none,rfl,rfl⟩
  |int i t=>exact⟨some (i,t),rfl,rfl⟩
 refine eN (key pl) λl a b=> ?_;refine eN (key pu) λu c d=> ?_;exact⟨l,u,a,c,b,d⟩
theorem yM{str:List Nat}{t:Tok}{l u:Option (Int×Tok)}(h0:cut (l.map (·.1)) (u.map (·.1)) str=str->Q (.str ⟨str.toArray⟩ t) s)(hz:(cut (l.map (·.1)) (u.map (·.1)) str).length<=4000000)
  (h1:Q (.str ⟨(cut (l.map (·.1)) (u.map (·.1)) str).toArray⟩ s.toks) { s with toks:=s.toks+1 }):(sliceMade ⟨str.toArray⟩ t l u none).post Q s:=by
 have hx:=Pu ⟨str.toArray⟩ (l.map (·.1)) (u.map (·.1))
 have hy:=Mj (l.map (·.1)) (u.map (·.1)) str.length
 have e5:(slicePicked ⟨str.toArray⟩ l u none).filterMap ((⟨str.toArray⟩:Str).cps[·]?)=cut (l.map (·.1)) (u.map (·.1)) str:=hx
 have e6:(slicePicked ⟨str.toArray⟩ l u none).length=(u.map (·.1)).elim str.length (clipAt str.length) - (l.map (·.1)).elim 0 (clipAt str.length):=by
  show(strSliceIndices (l.map (·.1)) (u.map (·.1)) 1 str.toArray.size).length=_
  rw[rn,hy];simp
 unfold sliceMade;rw[e5,e6]
 set_option tactic.hygienic true in split
 ·rename_i hw;refine h0 ?_;have hh:(u.map (·.1)).elim str.length (clipAt str.length) - (l.map (·.1)).elim 0 (clipAt str.length)=str.length:=by simpa [Str.length] using hw
  unfold cut
  have hb:(u.map (·.1)).elim str.length (clipAt str.length)<=str.length:=by
   cases u with
   |none=>exact ip _
   |some i=>show clipAt _ _<=_;unfold clipAt;omega
  rw[hh];have ha:(l.map (·.1)).elim 0 (clipAt str.length)=0\/str.length=0:=(lx (.o (.e A2 (.k 0)) (.e A3 (.k 0))) [.e A0 (.s A1 A2),.e (.s A1 A2) A3,.l A1 A3]) e6 hh hb
  rcases ha with ha|ha
  ·rw[ha];simp
  ·have:str=[]:=List.eq_nil_of_length_eq_zero ha;subst this;simp
 ·refine⟨?_,h1⟩;have:sizeLine=16777216:=rfl;show(cut (l.map (·.1)) (u.map (·.1)) str).toArray.size<=sizeLine
  simp;exact(ie (.l A0 A1) [.l A0 (.k 4000000),.e A1 (.k 16777216)]) hz this
theorem To{lower upper:Option cP}{p:Pos}{ml mu:Option (M PV)}(h:dR G n f aa e m)(hl:Kk G n f aa lower ml)(hu:Kk G n f aa upper mu):
  dR G n f aa (.Subscript e (.Slice lower upper none p) pos) (bnd m λv=>bnd (ut ml) λlo=>bnd (ut mu) λhi=>wN v lo hi):=by
 intro A ag Ls ad σ s Q E z σ' C S Lc er P
 refine Subscript_ (h.thn C S Lc er P λv V h₁ tk₁ ak σ₁ ai ax rv am aj al=>wpAny_Slice ((I9 hl).thn C ai am aj al λlo VL ar aE aD aG aq aB rl aK ao aA=>
  (I9 hu).thn C aq aK ao aA λhi VU au aH aI bs ay aC ru bj az aM=>dc ?_))
 have rv:=(rv.stepE ai aB).stepE aq aC;clear P al aA er aj ao Lc am aK bj ax aB aC;have hps:∀(o:Obj),∀b x,au.get? b=some x->(au.push o).get? b=some x:=λo b x e=>fc _ e;unfold wN at az
 symm at az
 ·rename_i str _
  symm at az
  ·rename_i hz;refine Pg az ?_;clear az;intro ey ez;subst ey;subst ez;refine Rd.str_on rv λt=> ?_;refine uL (AE rl ru) λl u ez1 ez2 el eu=> ?_;subst ez1;subst ez2;refine tail_any (typeIs_str _ _ _) slot_str_getitem.lookup (wpAny_getItem_str_slice (l:=l) (u:=u) (st:=none) ⟨_,gP _ rfl,rfl,rfl⟩ rfl ?_) (ops:=[.ref au.objs.size,.str ⟨str.toArray⟩ t]) rfl;subst el eu;refine yM (λhw=> ?_) (by unfold jP at hz;exact hz) ?_
   ·refine aM.made ay (h':=au.push _) (hps _) (a:= .str ⟨str.toArray⟩ t) ?_ aH;show Rd _ _ (.str (Internal.cut _ _ str));rw[hw];exact Rd.mkStr str t
   ·exact aM.made ay (h':=au.push _) (hps _) (a:= .str ⟨(Internal.cut _ _ str).toArray⟩ aH) (Rd.mkStr _ _) _
  ·exact eC az
 ·rename_i xs _
  symm at az
  ·rename_i hz;refine Pg az ?_;clear az;intro ey ez;subst ey;subst ez;refine Rd.tup_on rv λa items ht r=> ?_;have hlen:items.size=xs.length:=by rw[<-r.length];simp
   have ht':IsTup (au.push { cls:= .type "slice",data:= .fields #[VL,VU,.none] }) a items:=by refine eN ht λo h1 h2=> ?_;clear ht;exact⟨o,hps _ _ _ h1,h2⟩
   have rk:∀o:Obj,dD (au.push o) items.toList xs:=λo=>dD.keep (ay.tupKeep (λa m=> .inl m) (dE.of_keep (F:=f.L::Ls) (ad:=aI) (hps o))) r;refine tail_any ht'.typeIs slot_tuple_getitem.lookup (vB ht' ⟨_,gP _ rfl,rfl,rfl⟩ rl ru ?_ ?_ (by have:=jh;exact(BB (.l A3 A4) [.c (.l A0 A1) (.t A2 A0),.e A3 A0,.l A1 A4]) hz hlen this)) (ops:=[.ref au.objs.size,.ref a]) rfl
   ·rw[((rk { cls:= .type "slice",data:= .fields #[VL,VU,.none] }).cut lo hi).length,hlen];exact hz.2
   ·have hps2:∀b x,au.get? b=some x->((au.push { cls:= .type "slice",data:= .fields #[VL,VU,.none] }).push { cls:= .type "tuple",data:= .seq (Internal.cut lo hi items.toList).toArray }).get? b=some x:=λb x e=>fc _ (hps _ b x e);refine aM.made ay (h':=(au.push _).push _) hps2 (a:= .ref (au.push { cls:= .type "slice",data:= .fields #[VL,VU,.none] }).objs.size) ?_ aH;show Rd _ _ (.tup (Internal.cut lo hi xs));refine Rd.mkTup ⟨_,gP _ rfl,rfl,0,rfl⟩ ?_;have:=(dD.keep (ay.tupKeep (λa m=> .inl m) (dE.of_keep (F:=f.L::Ls) (ad:=aI) hps2)) r).cut lo hi
    simpa using this
  ·exact eC az
 ·refine eN (dL.mp az) λxs hg aF=> ?_
  symm at aF
  ·rename_i hz;refine wB (vA aF) λhsz ez1 ez2=> ?_;subst ez1;subst ez2;refine iJ (ay.isL rv hg) λa items ez1 hlst r=> ?_;subst ez1;have hlen:items.size=xs.length:=by rw[<-r.length];simp
   have hl':(au.push { cls:= .type "slice",data:= .fields #[VL,VU,.none] }).IsList a items:=by refine eN hlst λo h1 h2=> ?_;clear hlst;exact⟨o,hps _ _ _ h1,h2⟩
   refine tail_any hl'.typeIs slot_list_getitem.lookup (wpAny_getItem_list_slice hl' ⟨_,gP _ rfl,rfl,rfl⟩ rl ru IsPart.none (by simp) ?_ (by have:=jh;exact X8 hz hlen this)) (ops:=[.ref au.objs.size,.ref a]) rfl;rw[slicePick_plain];have aX:=ay.of_keep (hps { cls:= .type "slice",data:= .fields #[VL,VU,.none] });have aQ:dE (f.L::Ls) aI aI au _:=dE.of_keep (hps { cls:= .type "slice",data:= .fields #[VL,VU,.none] });have a8:=aM.after (h₁:=au.push { cls:= .type "slice",data:= .fields #[VL,VU,.none] }) (tk₁:=aH) aQ;refine a8.newList aX (s:={ s with heap:=au.push { cls:= .type "slice",data:= .fields #[VL,VU,.none] },toks:=aH }) 0 ?_ aH
   have rk:dD (au.push { cls:= .type "slice",data:= .fields #[VL,VU,.none] }) items.toList xs:=dD.keep (ay.tupKeep (λa m=> .inl m) aQ) r;have:=rk.cut lo hi;unfold Internal.cut at this ⊢
   simpa [hlen] using this
  ·exact eC aF
end
section
variable{f:Fm}{aa:List (Option PV)}
noncomputable def qK:cP->Bool
 | .Slice .. =>false
 |_=>true
theorem qe{slice:cP}(h:qK slice=true)(o i:Value):subscripted slice false o i=operate [o,i] (getItem o i):=by cases slice<;>first|rfl|exact mY h
noncomputable def mx{α:Type}(x:List Nat):List (List Nat×α)->Option α
 |[]=>none
 |kv::r=>if kv.1=x then some kv.2 else mx x r
theorem vC{v:PV}:∀{ps:List (Str×Value)}{kvs:List (List Nat×PV)},ou G h ad ps kvs->mx x kvs=some v->∃V,valueAt ps ⟨x.toArray⟩=some V/\eW G h ad v V:=by
 intro l1
 induction l1 with
 |nil=>intro l2;cases l2 with
  |nil=>exactλ_ e=>(by exact eC e)
  |cons _ _=>exactλhx _=>hx.elim
 |cons p ps ih=>intro l2;cases l2 with
  |nil=>exactλhx _=>hx.elim
  |cons kv kvs=>
    intro hx e;obtain⟨h1,h2,h3⟩:=hx;unfold mx at e;unfold valueAt;rw[List.find?_cons];by_cases q:kv.1=x
    ·rw[cH q]at e;replace e:=si e;subst e;have:(decide (p.1=⟨x.toArray⟩))=true:=by rw[h1,q];simp
     rw[this];exact⟨_,rfl,h2⟩
    ·rw[cJ q]at e
     have:(decide (p.1=⟨x.toArray⟩))=false:=by rw[h1];exact ft λz=>q (by injection z with z;simpa using dN Array.toList z)
     rw[this];exact ih h3 e
theorem qw{h:Heap}{x:List Nat}{v:D}:∀{ps:List (Str×Value)}{kvs:List (List Nat×D)},Kh h ps kvs->mx x kvs=some v->∃V,valueAt ps ⟨x.toArray⟩=some V/\Rd h V v
 |[],[],_,e=>by exact eC e
 |p::ps,kv::kvs,⟨h1,h2,h3⟩,e=>by
  unfold mx at e;unfold valueAt;rw[List.find?_cons];by_cases q:kv.1=x
  ·rw[cH q]at e;replace e:=si e;subst e;have:(decide (p.1=⟨x.toArray⟩))=true:=by rw[h1,q];simp
   rw[this];exact⟨_,rfl,h2⟩
  ·rw[cJ q]at e
   have:(decide (p.1=⟨x.toArray⟩))=false:=by rw[h1];exact ft λz=>q (by injection z with z;simpa using dN Array.toList z)
   rw[this];exact qw h3 e
noncomputable def lW(σ:List MO):PV->Option (List (List Nat×PV))
 | .ref k=>match σ[k]? with
  |some (.dict kvs)=>some kvs
  |_=>none
 |_=>none
def gZ(σ:List MO)(v i:PV):Option PV:=match i with
 | .d (.int k)=>if k.natAbs<2 ^ 40 then(match v with
  | .d (.tup xs)=>(seqIndex? k xs.length).bind λj=>xs[j]?.map .d
  | .d (.str s)=>(seqIndex? k s.length).bind λj=>s[j]?.map λc=> .d (.str [c])
  |v=>(dW σ v).bind λxs=>(seqIndex? k xs.length).bind λj=>xs[j]?.map .d)else none
 | .d (.str x)=>match v with
  | .cd kvs=>(mx x kvs).map .d
  |v=>(lW σ v).bind (mx x)
 |_=>none
theorem AF{k:Int}{m j:Nat}(e:seqIndex? k m=some j)(h:0<=k):k.toNat=j/\j<m:=by
 have hk:¬ k<0:=(pI:Qn [] [_] (.n (.S (.v 0) (.k 0))) [.L (.k 0) (.v 0)]) h;simp only[seqIndex?,hk,if_false]at e
 symm at e
 ·rename_i q;replace e:=si e;subst e;simp only[ej,decide_eq_true_eq]at q;exact Yt h q
 ·exact eC e
theorem G7{k:Int}{m j:Nat}(e:seqIndex? k m=some j)(h:k<0):(k+m).toNat=j/\ -(m:Int)<=k:=by
 simp only[seqIndex?,h,if_true]at e
 symm at e
 ·rename_i q;replace e:=si e;subst e;simp only[ej,decide_eq_true_eq]at q;exact Ys q
 ·exact eC e
theorem qL{items:Array Value}{j:Nat}{x:D}(r:dD h items.toList xs)(e:xs[j]? =some x):∃V,items[j]? =some V/\Rd h V x:=by refine eN (r.get e) λV h1 h2=> ?_;exact⟨V,by simpa using h1,h2⟩
theorem G8{v i r:PV}{V I:Value}(S:St G F ad σ s.heap)(e:gZ σ v i=some r)(rv:eW G s.heap ad v V)(ri:eW G s.heap ad i I)
  (h:∀X tk,eW G s.heap ad r X->Q X { s with heap:=s.heap,toks:=tk }):∃T id,s.TypeIs V T/\typeLookup (.type T) "__getitem__"=pure (some (.builtin id))/\wpAny (model G.prog G.w) A (getItem V I) Q E s:=by
 unfold gZ at e
 symm at e
 ·rename_i k;refine Rd.int_on ri λt=> ?_
  symm at e
  ·rename_i hk;split at e
   ·refine eN (dL.mp e) λj e1 e2=> ?_;refine eN (fe.mp e2) λx e3 ez1=> ?_;subst ez1;refine Rd.tup_on rv λa items ht rr=> ?_;refine eN (qL rr e3) λX e4 rX=> ?_;have hlen:=rr.length;rw[kG]at hlen;exact⟨_,_,ht.typeIs,slot_tuple_getitem.lookup,PyProof.Rows.getItem_tuple ht (VG hk) (VI hk) (by rw[hlen];exact e1) e4 (h X s.toks rX)⟩
   ·refine eN (dL.mp e) λj e1 e2=> ?_;refine eN (fe.mp e2) λc e3 ez1=> ?_;subst ez1;refine Rd.str_on rv λu=> ?_;refine⟨_,_,typeIs_str _ _ _,slot_str_getitem.lookup,PyProof.Rows.getItem_str (c:=c) ?_ ?_ (h _ _ (Rd.mkStr [c] _))⟩
    ·simp only[Bool.or_eq_false_iff,decide_eq_false_iff_not];exact(pI:Qn [] [_] (.c (.n (.S (.v 0) (.n' (.pw 2 63)))) (.n (.L (.pw 2 63) (.v 0)))) [.t (.ab 0) (.pw 2 40)]) hk
    ·show(seqIndex? k (Array.size (List.toArray _))).bind _=_;rw[rn,e1];simpa using e3
   ·refine eN (dL.mp e) λxs e0 e=> ?_;refine eN (dL.mp e) λj e1 e2=> ?_;refine eN (fe.mp e2) λx e3 ez1=> ?_;subst ez1;refine iJ (S.isL rv e0) λa items ez1 hl rr=> ?_;subst ez1;refine eN (qL rr e3) λX e4 rX=> ?_;have hlen:items.size=xs.length:=by rw[<-rr.length];simp
    refine⟨_,_,hl.typeIs,slot_list_getitem.lookup,?_⟩;by_cases h0:0<=k
    ·refine oA (AF e1 h0) λez1 _=> ?_;subst ez1;exact wpAny_getItem_list hl h0 (VI hk) e4 (h X s.toks rX)
    ·refine oA (G7 e1 (VH h0)) λez1 h2=> ?_;subst ez1;exact wpAny_getItem_list_neg hl (VH h0) (by rw[hlen];exact h2) (VG hk) (by rw[hlen];exact e4) (h X s.toks rX)
  ·exact eC e
 ·rename_i x;refine Rd.str_on ri λt=> ?_
  symm at e
  ·rename_i kvs _;refine eN (fe.mp e) λy e1 ez1=> ?_;subst ez1;refine uL rv λa ps ez1 hm hd hc=> ?_;clear rv;subst ez1;refine eN (qw hc e1) λX e2 rX=> ?_;exact⟨_,_,(hd.keep S.base).typeIs,slot_dict_getitem.lookup,wpAny_getItem_of (strKind_is _ _ _ _) (hd.keep S.base).mapOf e2 (h X _ (Rd.keep S.tupKeepBase rX))⟩
  ·refine eN (dL.mp e) λkvs e0 e1=> ?_;unfold lW at e0;split at e0
   ·symm at e0
    ·rename_i kvs' q;replace e0:=sj e0;subst e0;refine eN rv λa h1 ez1=> ?_;clear rv;subst ez1;refine eN (S.ads _ a _ h1 q) λps hd hp=> ?_;refine eN (vC hp e1) λX e2 rX=> ?_;exact⟨_,_,hd.typeIs,slot_dict_getitem.lookup,wpAny_getItem_of (strKind_is _ _ _ _) hd.mapOf e2 (h X _ rX)⟩
    ·exact eC e0
   ·exact eC e0
 ·exact eC e
theorem Tp{i:cP}{mi:M PV}(h:dR G n f aa e m)(hi:dR G n f aa i mi)(hs:qK i=true):
  dR G n f aa (.Subscript e i pos) (bnd m λv=>bnd mi λk=>λσ=>(gZ σ v k).map λr=>(.ok r,σ)):=by
 intro A ag Ls ad σ s Q E z σ' C S Lc er P;refine Subscript_ (h.thn C S Lc er P λv V h₁ tk₁ ak σ₁ ai ax rv am aj al=>hi.thn C ai am aj al λk I ar aE aD aG aq aB ri aK ao aA=> ?_);have rv:=rv.stepE ai aB;refine eN (fe.mp ao) λr az aF=> ?_;refine p1 aF ?_;clear aF;intro ey ez;subst ey;subst ez;refine iJ (G8 (A:=A) (E:=E) (s:={ s with heap:=ar,toks:=aE }) aq az rv ri (Q:=Q) λX tk rX=>aA.now aq rX tk) λT id h1 h2 h3=> ?_
 exact tail_any h1 h2 h3 (ops:=[V,I]) (qe hs _ _)
def Mk(v:PV):M PV:=λσ=>(dW σ v).bind λxs=>rA xs.reverse σ
theorem Kl(t:Tok):IsPart (.int (-1) t) (some (-1)):= .int ..
theorem G9{st:cP}{p:Pos}{mst:M PV}(h:dR G n f aa e m)(hst:dR G n f aa st mst)(hv:mst=ret (.d (.int (-1)))):
  dR G n f aa (.Subscript e (.Slice none none (some st) p) pos) (bnd m λv=>Mk v):=by
 intro A ag Ls ad σ s Q E z σ' C S Lc er P;subst hv;refine Subscript_ (h.thn C S Lc er P λv V h₁ tk₁ ak σ₁ ai ax rv am aj al=>wpAny_Slice (dc (dc ?_)));refine hst A ag Ls ak σ₁ _ _ _ (.ok (.d (.int (-1)))) σ₁ C ai am rfl λK ar aE aD aq aB rK=> ?_;refine Rd.int_on rK λt=> ?_;have rv:=rv.stepE ai aB;have aA:=al.after (tk₁:=aE) aB;refine eN (dL.mp aj) λxs hg aF=> ?_;refine wB (vA aF) λhsz ez1 ez2=> ?_;subst ez1;subst ez2;refine iJ (aq.isL rv hg) λa items ez1 hlst r=> ?_;subst ez1;have hlen:items.size=xs.length:=by rw[<-r.length];simp
 have hps:∀(o:Obj),∀b x,ar.get? b=some x->(ar.push o).get? b=some x:=λo b x e=>fc _ e
 have hl':(ar.push { cls:= .type "slice",data:= .fields #[.none,.none,.int (-1) t] }).IsList a items:=by refine eN hlst λo h1 h2=> ?_;clear hlst;exact⟨o,hps _ _ _ h1,h2⟩
 simp at hsz;refine tail_any hl'.typeIs slot_list_getitem.lookup (wpAny_getItem_list_slice hl' ⟨_,gP _ rfl,rfl,rfl⟩ .none .none (Kl t) (by simp) ?_ (by have:=jh;exact(lx (.l A0 A3) [.e A0 A1,.l A1 A2,.l A2 A3]) hlen hsz this)) (ops:=[.ref a,.ref ar.objs.size]) rfl;rw[krv_pick];have aX:=aq.of_keep (hps { cls:= .type "slice",data:= .fields #[.none,.none,.int (-1) t] });have aQ:dE (f.L::Ls) aD aD ar _:=dE.of_keep (hps { cls:= .type "slice",data:= .fields #[.none,.none,.int (-1) t] });have a8:=aA.after (h₁:=ar.push { cls:= .type "slice",data:= .fields #[.none,.none,.int (-1) t] }) (tk₁:=aE) aQ;refine a8.newList aX (s:={ s with heap:=ar.push { cls:= .type "slice",data:= .fields #[.none,.none,.int (-1) t] },toks:=aE }) 0 ?_ aE
 have rk:dD (ar.push { cls:= .type "slice",data:= .fields #[.none,.none,.int (-1) t] }) items.toList xs:=dD.keep (aq.tupKeep (λa m=> .inl m) aQ) r
 simpa using rk.reverse
end
section
variable{f:Fm}{aa:List (Option PV)}
structure wQ(h h':Heap):Prop where
 tup:lV h h'
 inst:∀b C d,h.get? b=some (instObj C d)->h'.get? b=some (instObj C d)
theorem eW.im{v:PV}{V:Value}(k:wQ h h')(p:ad<+:ad')(r:eW G h ad v V):eW G h' ad' v V:=by
 cases v with
 |d x=>exact Rd.keep k.tup r
 |ref j=>(refine eN r λa h1 h2=> ?_;clear r);exact⟨a,pc p h1,h2⟩
 |inst j=>(refine iJ r λa x h1 h2 h3=> ?_;clear r);exact⟨a,x,pc p h1,h2,k.inst _ _ _ h3⟩
 |cl xs=>exact r
 |cd kvs=>exact r
structure me(G:Gl)(F ad:List Addr)(h:Heap)(a:Addr):Prop where
 ad:a ∉ ad
 F:a ∉ F
 le:G.h₀.objs.size<=a
 cls:∀o,h.get? a=some o->(o.cls= .type "tuple"->∀vs n,o.data≠.seq vs n)/\∀C d,o≠instObj C d
theorem rD{o:Obj}(h:o.cls≠.type "tuple"/\∀C,o.cls≠.ref C):(o.cls= .type "tuple"->∀vs n,o.data≠.seq vs n)/\∀C d,o≠instObj C d:=
 ⟨λz=>absurd z h.1,λC d z=>h.2 C (by rw[z])⟩
theorem EP{o:Obj}{es:Array DictEntry}(h:o.data= .dict es n):(o.cls= .type "tuple"->∀vs n,o.data≠.seq vs n)/\∀C d,o≠instObj C d:=
 ⟨λ_ vs n z=>(by rw[h]at z;cases z),λC d z=>(by rw[z]at h;cases h)⟩
theorem me.im(p:me G F ad h a)(k:∀b o,b≠a->h.get? b=some o->h'.get? b=some o):wQ h h':=by
 refine⟨λb o vs m e hc hsq=>⟨o,k b o (λz=> ?_) e,hc,rfl⟩,λb C d e=>k b _ (λz=> ?_) e⟩
 ·subst z;exact(p.cls o e).1 hc vs m hsq
 ·subst z;exact(p.cls _ e).2 C d rfl
theorem St.priv(S:St G F ad σ h)(p:me G F ad h a)(k:∀b o,b≠a->h.get? b=some o->h'.get? b=some o):St G F ad σ h':=by
 have im:=p.im k;refine⟨λb o e=>k b o (λz=> ?_) (S.base b o e),S.len,S.nd,λj b o h1 h2=> ?_,S.newA,λb m=> ?_,S.fnd,S.apart⟩
 ·rw[z,ro p.le]at e;exact eC e
 ·exact(S.ads j b o h1 h2).to (λx=>k b x (λz=>p.ad (z▸gu h1))) im.tup λv V r=>r.im im (hO _)
 ·refine vv (S.frs b m) λh1 o h2 h3=> ?_;exact⟨h1,o,k b o (λz=>p.F (z▸m)) h2,h3⟩
theorem dE.priv(p:dE F ad ad' h h₁)(hn:h.get? a=none)(k:∀b o,b≠a->h₁.get? b=some o->h'.get? b=some o)(there:∃o,h'.get? a=some o):dE F ad ad' h h':=by
 have ne:∀b o,h.get? b=some o->b≠a:=λb o e z=>by rw[z,hn]at e;exact eC e
 refine⟨p.pre,⟨λb o e h1 h2=>k b o (ne b o e) (p.pres.keep b o e h1 h2),λb o e h1 h2=> ?_⟩,p.new,λb e=>p.ex b ?_⟩
 ·refine oE (p.pres.slots b o e h1 h2) λsl e'=> ?_;exact⟨sl,k b _ (ne b o e) e'⟩
 ·cases q:h₁.get? b with
  |none=>rfl
  |some o=>
   by_cases z:b=a
   ·subst z;refine oE there λo' h1=> ?_;clear there;rw[e]at h1;exact eC h1
   ·rw[k b o z q]at e;exact yr e
theorem St.adopt{mo:MO}(S:St G F ad σ h)(na:a ∉ ad)(nF:a ∉ F)(hle:G.h₀.objs.size<=a)(r:CB G h (ad++[a]) a mo):St G F (ad++[a]) (σ++[mo]) h:=by
 have im:wQ h h:=⟨λb o _ _ e hc _=>⟨o,e,hc,rfl⟩,λ_ _ _ e=>e⟩;refine⟨S.base,by simp[S.len],List.nodup_append.mpr ⟨S.nd,by simp,λx hx y hy=>by cases ff.mp hy;exactλe=>na (e▸hx)⟩,λj b o h1 h2=> ?_,λb m=> ?_,S.frs,S.fnd,λb m z=> ?_⟩
 ·by_cases hj:j<ad.length
  ·rw[fH hj]at h1;rw[fH (S.len▸hj)]at h2;exact(S.ads j b o h1 h2).to (λx e=>e) im.tup λv V r=>r.im im (List.prefix_append _ _)
  ·have hj':j=ad.length:=by
    have:=(ek.mp h1).1;simp at this;omega
   subst hj';rw[nN (ip _)]at h1;rw[nN (Nat.le_of_eq S.len.symm),S.len]at h2;simp at h1 h2;subst h1;subst h2;exact r
 ·rcases eF.mp m with m|m
  ·exact S.newA b m
  ·cases ff.mp m;exact hle
 ·rcases eF.mp z with z|z
  ·exact S.apart b m z
  ·cases ff.mp z;exact nF m
theorem dE.adopt(p:dE F ad ad' h h')(hn:h.get? a=none):dE F ad (ad'++[a]) h h':=
 ⟨p.pre.trans (List.prefix_append _ _),p.pres,λb m=>by
  rcases eF.mp m with m|m
  ·exact p.new b m
  ·cases ff.mp m;exact .inr hn,p.ex⟩
def rE(G:Gl)(n:Nat)(f:Fm)(fv:Value)(prim:List PV->M PV):Prop:=
 ∀(A:Around)(ag:List Env)(Ls ad:List Addr)(σ:List MO)(s:Shared)(Q E:Value->Shared->Prop)(vs:List PV)(Vs:List Value)(r:R PV)(σ':List MO),
  wI G A n f ag Ls->St G (f.L::Ls) ad σ s.heap->jA G s.heap ad vs Vs->prim vs σ=some (r,σ')->qI G (f.L::Ls) ad s r σ' Q E (RV G)->
  wpAny (model G.prog G.w) A (call fv Vs) Q E s
theorem jy.plain(x:jy G n f aa es ms):(backTo pos (starEach es f.env)).any (·.1)=false:=by
 induction x with
 |nil=>rfl
 |cons h0 _ hs ih=>
  rw[eb h0];show(false || _)=false
  rw[Bool.false_or];exact ih
theorem kL{x:Str}{V:Value}(C:wI G A n f ag Ls)(S:St G (f.L::Ls) ad σ s.heap)
  (hx:f.cs.names.lookup x=some .globalImplicit)(hm:G.mg x=none)(hb:bootBuiltins x=some V)(hne:x≠"__name__")(hd:(x ==("__debug__":Str))=false)(h:Q V s):wpAny (model G.prog G.w) A (eval (.Name x pos) f.env) Q E s:=
 Name_function_global C.hk hx (loadGlobal_builtin (env:=f.env) (G.hg.keeps S.base) hm (G.hb.keeps S.base) ((G.hbo x hne).trans hb) h) hd
theorem Ml{x:Str}{id:String}{prim:List PV->M PV}(hx:f.cs.names.lookup x=some .globalImplicit)(hm:G.mg x=none)(hb:bootBuiltins x=some (.builtin id))(hne:x≠"__name__")(hd:(x ==("__debug__":Str))=false)
  (h0:W.isStarred e=false)(h1:dR G n f aa e m)(hs:jy G n f aa es ms)(hp:rE G n f (.builtin id) prim):dR G n f aa (.Call (.Name x np) (e::es) [] pos) (bnd (ja (m::ms)) prim):=by
 intro A ag Ls ad σ s Q E r σ' C S Lc er P;refine nS (kL C S hx hm hb hne hd ?_);refine PyProof.Rows.callWith_builtin1 ((oP (.cons h0 h1 hs)).thn C S Lc er P λvs Vs h₁ tk₁ ak σ₁ ai ax rv am aj al=> ?_) (eb h0) hs.plain;exact hp A ag Ls ak σ₁ _ _ _ vs Vs r σ' C ai rv aj al
theorem Mm{x:Str}{id:String}{prim:List PV->M PV}(hx:f.cs.names.lookup x=some .globalImplicit)(hm:G.mg x=none)(hb:bootBuiltins x=some (.type id))(hne:x≠"__name__")(hd:(x ==("__debug__":Str))=false)
  (h0:W.isStarred e=false)(h1:dR G n f aa e m)(hs:jy G n f aa es ms)(hp:rE G n f (.type id) prim):dR G n f aa (.Call (.Name x np) (e::es) [] pos) (bnd (ja (m::ms)) prim):=by
 intro A ag Ls ad σ s Q E r σ' C S Lc er P;refine nS (kL C S hx hm hb hne hd ?_);refine PyProof.Rows.callWith_type1 ((oP (.cons h0 h1 hs)).thn C S Lc er P λvs Vs h₁ tk₁ ak σ₁ ai ax rv am aj al=> ?_) (eb h0) hs.plain;exact hp A ag Ls ak σ₁ _ _ _ vs Vs r σ' C ai rv aj al
theorem Ha{v:PV}(r:jA G h ad [v] Vs):∃V,Vs=[V]/\eW G h ad v V:=by
 match Vs,r with
 |[V],⟨r,_⟩=>exact⟨V,rfl,r⟩
 |[],r=>exact r.elim
 |_::_::_,⟨_,r⟩=>exact r.elim
theorem Tq{v w:PV}(r:jA G h ad [v,w] Vs):∃V W,Vs=[V,W]/\eW G h ad v V/\eW G h ad w W:=by
 match Vs,r with
 |[V,W],⟨r,r',_⟩=>exact⟨V,W,rfl,r,r'⟩
 |[],r=>exact r.elim
 |[_],⟨_,r⟩=>exact r.elim
 |_::_::_::_,⟨_,_,r⟩=>exact r.elim
noncomputable def Wy(k:Nat)(σ:List MO):Option (R PV×List MO):=if k<2 ^ 40 then some (.ok (.d (.int k)),σ)else none
def Hb(v:PV)(σ:List MO):Option (R PV×List MO):=v.asS.elim ((dW σ v).bind λxs=>Wy xs.length σ) λs=>Wy s.length σ
def jQ(vs:List PV):M PV:=λσ=>match vs with
 |[v]=>Hb v σ
 |_=>none
theorem Mn:rE G n f (.builtin "len") jQ:=by
 intro A ag Ls ad σ s Q E vs Vs r σ' C S rv e P;cases vs with
 |nil=>exact eC e
 |cons v l=>
  cases l with
  |cons _ _=>exact eC e
  |nil=>
   refine eN (Ha rv) λV ez1 rV=> ?_;subst ez1;have e:Hb v σ=some (r,σ'):=e;unfold Hb at e;cases q:v.asS with
   |some str=>
    rw[q]at e;rw[PV.asS_inv q]at rV;refine Rd.str_on rV λt=> ?_;refine oA (I5 e) λh5 e'=> ?_;refine p0 e' ?_;clear e e';intro ey ez;subst ey;subst ez;refine PyProof.Rows.len_str (by simp[Str.length];exact(lE (.S (.c A0) (.k 9223372036854775808)) [.t A0 (.pw 2 40)]) h5) ?_;have:=P.now S (a:= .int str.length (s.toks+1)) (Rd.int ..) (s.toks+1+1)
    simpa [Str.length] using this
   |none=>
    rw[q]at e;refine eN (dL.mp e) λxs e1 e2=> ?_;refine oA (I5 e2) λh5 e'=> ?_;refine p0 e' ?_;clear e e2 e';intro ey ez;subst ey;subst ez;refine iJ (S.isL rV e1) λa items ez1 hl rr=> ?_;subst ez1;have hlen:=rr.length;rw[kG]at hlen;refine call_len_list hl (by exact(ie (.S (.c A1) (.pw 2 63)) [.t A0 (.pw 2 40),.e A1 A0]) h5 hlen) ?_;have:=P.now S (a:= .int xs.length (s.toks+1)) (Rd.int ..) (s.toks+1+1);rw[hlen];exact this
def Pv(vs:List PV):M PV:=λσ=>match vs with
 |[v,w]=>v.asI.bind λa=>w.asI.bind λb=>some (.ok (.d (.int (if b > a then b else a))),σ)
 |_=>none
theorem Mo:rE G n f (.builtin "max") Pv:=by
 intro A ag Ls ad σ s Q E vs Vs r σ' C S rv e P
 match vs,e,rv with
 |[],e,_=>exact eC e
 |[_],e,_=>exact eC e
 |_::_::_::_,e,_=>exact eC e
 |[v,w],e,rv=>
  refine eN (dL.mp e) λa e1 e=> ?_;refine eN (dL.mp e) λb e2 e=> ?_;refine Pf e ?_;clear e;intro ey ez;subst ey;subst ez;refine iJ (Tq rv) λV W ez1 rV rW=> ?_;subst ez1;rw[PV.asI_inv e1]at rV;rw[PV.asI_inv e2]at rW;refine Rd.int_on rV λt=> ?_;refine Rd.int_on rW λu=> ?_;refine max_two_ints C.hh λh' tk hk=> ?_;refine P.made S hk ?_ tk;split<;>exact Rd.int ..
noncomputable def PV.asB:PV->Option Bool
 | .d (.bool b)=>some b
 |_=>none
theorem PV.asB_inv{v:PV}{b:Bool}(h:v.asB=some b):v= .d (.bool b):=by
 cases v with
 |d x=>cases x<;>first|exact eC h|exact si h▸rfl
 |_=>exact eC h
def xO(vs:List PV):M PV:=λσ=>match vs with
 |[v]=>v.asB.bind λb=>some (.ok (.d (.int (if b then 1 else 0))),σ)
 |_=>none
theorem vD:rE G n f (.type "int") xO:=by
 intro A ag Ls ad σ s Q E vs Vs r σ' C S rv e P
 match vs,e,rv with
 |[],e,_=>exact eC e
 |_::_::_,e,_=>exact eC e
 |[v],e,rv=>
  refine eN (dL.mp e) λb e1 e=> ?_;refine Pf e ?_;clear e;intro ey ez;subst ey;subst ez;refine eN (Ha rv) λV ez1 rV=> ?_;subst ez1;rw[PV.asB_inv e1]at rV;refine Rd.bool_on rV ?_;exact call_int_bool (P.now S (Rd.int ..) _)
end
section
variable{f:Fm}{aa:List (Option PV)}
theorem Ts(hs:jy G n f aa es ms)(hl:es.length<20):((backTo pos (starEach es f.env)).all (λx=> !x.1) &&(backToKw pos (keywordEach [] f.env)).all (λx=>x.1.isSome)
   && decide (es.length+([]:List Keyword).length+(if([]:List Keyword).isEmpty then 0 else 1)<30))=true:=by
 have h:=hs.plain (pos:=pos)
 have h1:(backTo pos (starEach es f.env)).all (λx=> !x.1)=true:=by
  rw[fu];intro x hx;rw[List.any_eq_false]at h
  simpa using h x hx
 rw[h1];show decide (es.length<30)=true;exact eE (mq hl rfl)
noncomputable def qM(σ:List MO)(v:PV):Option (Nat×List D):=match v with
 | .ref k=>match σ[k]? with
  |some (.list xs)=>some (k,xs)
  |_=>none
 |_=>none
theorem yN{v:PV}{V:Value}{k:Nat}(S:St G F ad σ h)(e:qM σ v=some (k,xs))(r:eW G h ad v V):
  v= .ref k/\σ[k]? =some (.list xs)/\∃a items n,V= .ref a/\ad[k]? =some a/\h.get? a=some { cls:= .type "list",data:= .seq items n }/\dD h items.toList xs:=by
 unfold qM at e;split at e
 ·symm at e
  ·rename_i q;refine ZI e ?_;clear e;intro ey ez;subst ey;subst ez;refine eN r λa h1 h2=> ?_;clear r;refine mZ (S.ads _ a _ h1 q) λitems n h3 h4=> ?_;exact⟨rfl,q,a,items,n,h2,h1,h3,h4⟩
  ·exact eC e
 ·exact eC e
def kz(v:PV)(m:M PV):M PV:=λσ=>(qM σ v).bind λ_=>bnd m (λy=>λσ=>match y with
 | .d x=>(qM σ v).bind λ(k,xs)=>if xs.length<eZ then some (.ok (.d .none),σ.set k (.list (xs++[x])))else none
 |_=>none) σ
theorem wR{x:Str}{xp apos:Pos}{mo:M PV}(hline:(apos.endLine == pos.line)=true)(ho:dR G n f aa (.Name x xp) mo)(h0:W.isStarred e=false)(h1:dR G n f aa e m):
  dR G n f aa (.Call (.Attribute (.Name x xp) "append" apos) [e] [] pos) (bnd mo λv=>kz v m):=by
 intro A ag Ls ad σ s Q E r σ' C S Lc er P;refine wpAny_Call_append rfl (Ts (.cons h0 h1 .nil) (by simp)) hline (by rw[eb h0];rfl) (ho.thn C S Lc er P λv V h₁ tk₁ ak σ₁ ai ax rv am aj al=> ?_);refine eN (dL.mp aj) λoz1 q ao=> ?_;obtain⟨k,xs⟩:=oz1;refine wD (yN ai q rv) λez1 _ a items m' ez2 ha hg _=> ?_;subst ez1;subst ez2;refine⟨a,items,rfl,⟨_,m',hg,rfl,rfl,rfl⟩,h1.thn C ai am ao al λy Y ar aE aD aG aq aB ry aK az aA=> ?_⟩;have rv:=rv.stepE ai aB;cases y with
 |d dx=>
  dsimp only at az;refine eN (dL.mp az) λoz1 q' aF=> ?_;obtain⟨k',ys⟩:=oz1;refine wD (yN aq q' rv) λhk hq a' items' m'' ea ha' hg' rr=> ?_;cases hk;cases ea;dsimp only at aF
  symm at aF
  ·rename_i hz;refine Pf aF ?_;clear aF;intro ey ez;subst ey;subst ez;have hlen:=rr.length;rw[kG]at hlen;refine append_at hg' (λh' hs he=> ?_) (by have:=jh;exact ZZ hz hlen this);have kk:∀b o,b≠a->ar.get? b=some o->h'.get? b=some o:=λb o hb e=>(hs.2 b hb).trans e;have im:lV ar h':=aq.tupKeep (λ_ m=> .inl m) (dE.upd (F:=f.L::Ls) (gu ha') kk ⟨_,he⟩)
   refine oA (aq.upd (h':=h') (mo:= .list (ys++[dx])) ha' kk ⟨items'.push Y,m''+1,he,by rw[Array.toList_push];exact dD.snoc (Rd.keep im ry) (dD.keep im rr)⟩) λay aC=> ?_
   exact aA .none h' aE aD ay aC Rd.none
  ·exact eC aF
 |ref _=>exact eC az
 |inst _=>exact eC az
 |cl _=>exact eC az
 |cd _=>exact eC az
def Mp(v:PV):M PV:=λσ=>(qM σ v).bind λ(k,xs)=>if xs.length<=eZ then xs.getLast?.map λy=>(.ok (.d y),σ.set k (.list xs.dropLast))else none
theorem Tt{x:Str}{xp apos:Pos}{mo:M PV}(hline:(apos.endLine == pos.line)=true)(ho:dR G n f aa (.Name x xp) mo):
  dR G n f aa (.Call (.Attribute (.Name x xp) "pop" apos) [] [] pos) (bnd mo λv=>Mp v):=by
 intro A ag Ls ad σ s Q E r σ' C S Lc er P;refine wpAny_Call_method0_late rfl hline (ho.thn C S Lc er P λv V h₁ tk₁ ak σ₁ ai ax rv am aj al=> ?_);refine eN (dL.mp aj) λoz1 q ao=> ?_;obtain⟨k,xs⟩:=oz1;refine wD (yN ai q rv) λez1 hq a items m' ez2 ha hg rr=> ?_;subst ez1;subst ez2;dsimp only at ao
 symm at ao
 ·rename_i hz;refine eN (fe.mp ao) λy hy az=> ?_;refine p0 az ?_;clear az;intro ey ez;subst ey;subst ez;have hlen:=rr.length;rw[kG]at hlen;refine⟨_,_,PySem.F.plainAttrs_list,PySem.F.slot_list_pop,PySem.F.type_list_pop,⟨_,hg,rfl⟩,(λb e=>by cases e;exact⟨_,hg,rfl⟩),callWith_method0 (env:=f.env) ?_⟩;rw[List.getLast?_eq_getElem?]at hy;refine eN (qL rr hy) λY hY rY=> ?_;rw[<-hlen]at hY;refine Copied.pop_at hg hY (λh' hs he=> ?_) (by have:=jh;exact X8 hz hlen this);have kk:∀b o,b≠a->h₁.get? b=some o->h'.get? b=some o:=λb o hb e=>(hs.2 b hb).trans e;have im:lV h₁ h':=ai.tupKeep (λ_ m=> .inl m) (dE.upd (F:=f.L::Ls) (gu ha) kk ⟨_,he⟩)
  have r3:dD h' items.pop.toList xs.dropLast:=by rw[Array.toList_pop,List.dropLast_eq_take,List.dropLast_eq_take,rr.length];exact dD.keep im (rr.take _)
  refine oA (ai.upd (h':=h') (mo:= .list xs.dropLast) ha kk ⟨items.pop,m'+1,he,r3⟩) λay aC=> ?_;exact al Y h' tk₁ ak ay aC (Rd.keep im rY)
 ·exact eC ao
noncomputable def sV:List D->Option (List (List Nat))
 |[]=>some []
 | .str s::r=>(sV r).map (s::·)
 |_::_=>none
theorem EQ{x:D}{ys:List (List Nat)}(e:sV (x::xs)=some ys):∃s zs,x= .str s/\sV xs=some zs/\ys=s::zs:=by cases x<;>first|(obtain⟨zs,e1,rfl⟩:=fe.mp e;exact⟨_,zs,rfl,e1,rfl⟩)|exact eC e
theorem Hc{vs:List Value}{ys:List (List Nat)}(r:dD h vs xs):sV xs=some ys->StrsAre vs (ys.map λs=>⟨s.toArray⟩):=
 dD.ind (R:=λvs xs=>∀ys,sV xs=some ys->StrsAre vs (ys.map λs=>⟨s.toArray⟩)) (λys e=>si e▸.nil) (λ{v d vs ds} k r ih ys e=>by refine iJ (EQ e) λs zs ez1 e1 ez2=> ?_;subst ez1;subst ez2;refine Rd.str_on k λt=> ?_;rw[jg];exact .cons _ t (ih _ e1)) r ys
def BI:List PV->M PV:=λvs σ=>match vs with
 |[v]=>(dW σ v).bind λxs=>(sV xs).bind λys=>if ys.flatten.length<=jP/\ys.length<=eZ then some (.ok (.d (.str ys.flatten)),σ)else none
 |_=>none
theorem He:∀ys:List (List Nat),(glued ⟨#[]⟩ (ys.map λs=>⟨s.toArray⟩)).cps.toList=ys.flatten
 |[]=>rfl
 |y::ys=>by
  unfold glued;simp only[jg,List.drop_one,List.tail_cons,List.headD_cons]
  have:∀(zs:List (List Nat))(acc:Array Nat),(List.foldl (λacc(p:Str)=>acc++(#[]:Array Nat)++p.cps) acc (zs.map λs=>⟨s.toArray⟩)).toList=acc.toList++zs.flatten:=by
   intro zs
   induction zs with
   |nil=>intro acc;simp
   |cons z zs ih=>intro acc;rw[jg,List.foldl_cons,ih];simp
  rw[this];simp
theorem CG{kp k:Nat}{cp apos:Pos}(hline:(apos.endLine == pos.line)=true)(h0:W.isStarred e=false)(h1:dR G n f aa e m):
  dR G n f aa (.Call (.Attribute (.Constant (.str "") kp cp) "join" apos) [e] [] pos) (bnd (ja [m]) BI):=by
 intro A ag Ls ad σ s Q E r σ' C S Lc er P;refine wpAny_Call_method1_late rfl hline (by rw[eb h0];rfl) (wpAny_mkText ?_);refine⟨_,_,PySem.F.plainAttrs_str,PySem.F.slot_str_join,PySem.F.type_str_join,typeIs_str _ _ _,(λb e=>by cases e),?_⟩;have hh:=callWith_method1 (M:=model G.prog G.w) (A:=A) (env:=f.env) (pos:=pos) (id:="str.join") (first:=[.str "" s.toks]) (e:=e) (rest:=[]) (Q:=Q) (E:=E) (s:={ s with toks:=s.toks+1 }) ?_ (eb h0)
 ·rw[eb h0]at hh;exact hh
 refine(oP (.cons h0 h1 .nil)).thn (s:={ s with toks:=s.toks+1 }) C S Lc er (P.after (h₁:=s.heap) (tk₁:=s.toks+1) (kK.refl ..)) λvs Vs h₁ tk₁ ak σ₁ ai ax rv am aj al=> ?_
 unfold BI at aj;split at aj
 ·refine eN (dL.mp aj) λxs e2 ao=> ?_;refine eN (dL.mp ao) λys e3 az=> ?_
  symm at az
  ·rename_i hz;refine Pg az ?_;clear az;intro ey ez;subst ey;subst ez;refine eN (Ha rv) λV ez1 rV=> ?_;subst ez1;refine iJ (ai.isL rV e2) λa items ez1 hl rr=> ?_;subst ez1;refine join_list hl (Hc rr e3) ?_ λt' tk=> ?_
   ·have h2:((ys.map λs=>(⟨s.toArray⟩:Str)).map (·.length)).sum=ys.flatten.length:=by
     rw[List.length_flatten,List.map_map]
     congr 1
    rw[h2];have h3:Str.length (Str.ofString "")=0:=rfl;rw[h3];unfold jP at hz;exact(BB (.l (.a A0 (.r A4 0)) (.k 16777216)) [.c (.l A0 (.k 4000000)) (.l A1 A2),.e A3 A0]) hz h2
   ·have h4:=Rd.str (h:=h₁) (Txt.join "" (ys.map λs=>⟨s.toArray⟩)) t';have h5:(Txt.join "" (ys.map λs=>(⟨s.toArray⟩:Str))).cps.toList=ys.flatten:=He ys;rw[h5]at h4;exact al.now ai h4 tk
  ·exact eC az
 ·exact eC aj
noncomputable def sW(x y:List Nat):Int:=match occurrences ⟨x.toArray⟩ ⟨y.toArray⟩ 0 (Str.length ⟨x.toArray⟩) 1 with|i::_=>(i:Int)|[]=> -1
def ER(v:PV)(m:M PV):M PV:=match v with
 | .d (.str x)=>bnd m λy=>match y with
  | .d (.str y)=>ret (.d (.int (sW x y)))
  |_=>cU
 |_=>cU
theorem Pw{x:Str}{xp apos:Pos}{mo:M PV}(hline:(apos.endLine == pos.line)=true)(ho:dR G n f aa (.Name x xp) mo)(h0:W.isStarred e=false)(h1:dR G n f aa e m):
  dR G n f aa (.Call (.Attribute (.Name x xp) "find" apos) [e] [] pos) (bnd mo λv=>ER v m):=by
 intro A ag Ls ad σ s Q E r σ' C S Lc er P;refine wpAny_Call_method1_late rfl hline (by rw[eb h0];rfl) (ho.thn C S Lc er P λv V h₁ tk₁ ak σ₁ ai ax rv am aj al=> ?_);unfold ER at aj;split at aj
 ·refine Rd.str_on rv λt=> ?_;refine⟨_,_,PySem.F.plainAttrs_str,PySem.F.slot_str_find,PySem.F.type_str_find,typeIs_str _ _ _,(λb e=>by cases e),?_⟩;refine callWith_builtin rfl (evalArgs_plain ?_);refine spliced_cons (h1.thn C ai am aj al λy Y ar aE aD aG aq aB ry aK ao aA=>spliced_nil ?_);split at ao
  ·have aA:=aA.of_ret ao;refine Rd.str_on ry λu=> ?_;exact SC.find (aA.now aq (Rd.int ..) _)
  ·exact eC ao
 ·exact eC aj
end
section
variable{f:Fm}{aa:List (Option PV)}
noncomputable def ES(k:Str×Nat×Pos):cP:= .Constant (.str k.1) k.2.1 k.2.2
noncomputable def yw(G:Gl)(h:Heap)(ad:List Addr):List (Str×Nat×Pos)->List PV->List (Value×Value)->Prop
 |[],[],[]=>True
 |k::ks,v::vs,P::Ps=>(∃t,P.1= .str k.1 t)/\eW G h ad v P.2/\yw G h ad ks vs Ps
 |_,_,_=>False
theorem Mq{ks:List (Str×Nat×Pos)}(x:jy G n f aa es ms):ks.length=es.length->
  I4 G n f aa (evalPairs (pairTrees (ks.map λk=>some (ES k)) es f.env pos)) (ja ms) (λh ad vs Ps=>yw G h ad ks vs Ps):=by
 induction x generalizing ks with
 |nil=>intro h;cases ks with
  |cons k ks=>exact nomatch h
  |nil=>
    intro A ag Ls ad σ s Q E r σ' C S Lc e P;have P:=P.of_ret e;exact dc (P.now S (a:=[]) trivial s.toks)
 | @cons e m es ms h0 h1 hs ih=>intro hl;cases ks with
  |nil=>exact nomatch hl
  |cons k ks=>
    intro A ag Ls ad σ s Q E r σ' C S Lc er P;show wpAny _ _ (evalPairs ((eval (ES k) f.env,do let x <-eval e f.env;standAt pos;pure x)::pairTrees (ks.map λk=>some (ES k)) es f.env pos)) _ _ _;refine cQ (wpAny_mkText ?_);refine cQ (kb (cQ ?_));have P0:=P.after (h₁:=s.heap) (tk₁:=s.toks+1) (kK.refl ..);refine h1.thn (s:={ s with toks:=s.toks+1 }) C S Lc er P0 λv V h₁ tk₁ ak σ₁ ai ax rv am aj al=>cQ (iN (dc (cQ (kb ?_))))
    refine(ih (Nat.succ.inj hl)).thn C ai am aj al λvs Ps ar aE aD aG aq aB rvs aK ao aA=> ?_;have aA:=aA.of_ret ao;exact dc (aA.now aq (a:=(.str k.1 s.toks,V)::Ps) ⟨⟨_,rfl⟩,rv.stepE ai aB,rvs⟩ aE)
theorem oQ(x:Str):(⟨x.cps.toList.toArray⟩:Str)=x:=by cases x;simp
theorem xo{prog:Program}{w:World}{h:Heap}{ad:List Addr}:∀{ks:List (Str×Nat×Pos)}{vs:List PV}{Ps:List (Value×Value)},yw G h ad ks vs Ps->
  Carries (PySem.strKind prog w) Ps ((ks.map (·.1)).zip (Ps.map (·.2)))/\ou G h ad ((ks.map (·.1)).zip (Ps.map (·.2))) ((ks.map (·.1.cps.toList)).zip vs)
 |[],[],[],_=>⟨trivial,trivial⟩
 |k::ks,v::vs,P::Ps,⟨⟨t,h1⟩,h2,h3⟩=>by refine oA (xo (prog:=prog) (w:=w) h3) λa b=> ?_;refine⟨⟨by rw[h1];exact strKind_is _ _ _ _,rfl,a⟩,⟨(oQ k.1).symm▸rfl,h2,b⟩⟩
 |[],[],_::_,x=>x.elim
 |[],_::_,_,x=>x.elim
 |_::_,[],_,x=>x.elim
 |_::_,_::_,[],x=>x.elim
theorem yO:∀(more acc:List (Str×Value)),((acc++more).map (·.1)).Nodup->merged acc more=acc++more
 |[],acc,_=>by simp[merged]
 |x::more,acc,hn=>by
  have h1:stored acc x.1 x.2=acc++[x]:=by
   unfold stored;rw[cJ];intro ha;refine eN (List.any_eq_true.mp ha) λy hy hq=> ?_;have hq:y.1=x.1:=by simpa using hq
   rw[List.map_append,List.nodup_append]at hn;exact hn.2.2 y.1 (List.mem_map_of_mem hy) x.1 (by simp) hq
  show merged (stored acc x.1 x.2) more=_;rw[h1,yO more (acc++[x]) (by simpa using hn)];simp
theorem Px{ks:List (Str×Nat×Pos)}(hs:jy G n f aa es ms)(hl:ks.length=es.length)(h0:ks≠[])(h15:ks.length<=15)(hn:(ks.map (·.1)).Nodup):
  dR G n f aa (.Dict (ks.map λk=>some (ES k)) es pos) (bnd (ja ms) λvs=>λσ=>some (.ok (.ref σ.length),σ++[.dict ((ks.map (·.1.cps.toList)).zip vs)])):=by
 intro A ag Ls ad σ s Q E r σ' C S Lc er P;have hall:(ks.map λk=>some (ES k)).all (·.isSome)=true:=by simp
 have hlen:(pairTrees (ks.map λk=>some (ES k)) es f.env pos).length=ks.length:=by rw[pairTrees_length _ _ _ _ hall (by simpa using hl)];simp
 refine wpAny_Dict_pairs (knd:=PySem.strKind G.prog G.w) (pairs:=pairTrees (ks.map λk=>some (ES k)) es f.env pos) (zip_pairTrees _ _ _ _ hall (by simpa using hl)) ?_ (by rw[hlen];exact h15) ?_
 ·intro e;rw[e]at hlen;exact h0 (List.length_eq_zero_iff.mp hlen.symm)
 have hfr:=fN s.heap;have k0:∀b o,s.heap.get? b=some o->(s.heap.push { cls:= .type "dict",data:= .dict #[] }).get? b=some o:=λb o e=>fc _ e;have S0:=S.of_keep k0;have p0:dE (f.L::Ls) ad ad s.heap _:=dE.of_keep k0;have Lc0:=Lc.step S p0;have P0:=P.after (h₁:=s.heap.push { cls:= .type "dict",data:= .dict #[] }) (tk₁:=s.toks) p0;have ha0:(s.heap.push { cls:= .type "dict",data:= .dict #[] }).get? s.heap.objs.size=some { cls:= .type "dict",data:= .dict #[] }:=gP _ rfl
 have naF:s.heap.objs.size ∉ f.L::Ls:=λm=>by refine vv (S.frs _ m) λ_ o h1 _=> ?_;rw[hfr]at h1;exact eC h1
 have nad:s.heap.objs.size ∉ ad:=λm=>by refine eN (S.adObj m) λo h1 _=> ?_;rw[hfr]at h1;exact eC h1
 refine(Mq (ks:=ks) hs hl).thn (s:={ s with heap:=s.heap.push { cls:= .type "dict",data:= .dict #[] } }) C S0 Lc0 er P0 λvs Ps h₁ tk₁ ak σ₁ ai ax rv am aj al=> ?_
 refine Pf aj ?_;clear aj;intro ey ez;subst ey;subst ez;refine oA (xo (prog:=G.prog) (w:=G.w) rv) λc1 c2=> ?_;have ha1:h₁.get? s.heap.objs.size=some { cls:= .type "dict",data:= .dict #[] }:=ax.pres.keep _ _ ha0 nad naF
 have nad1:s.heap.objs.size ∉ ak:=λm=>by
  rcases ax.new _ m with m|m
  ·exact nad m
  ·rw[ha0]at m;exact yr m
 refine⟨_,c1,⟨_,#[],0,ha1,⟨rfl,rfl,rfl⟩,rfl,λe he=>by simp at he,.nil,List.nodup_nil⟩,λh' hd hsb=> ?_⟩;rw[yO]at hd
 ·have kk:∀b o,b≠s.heap.objs.size->h₁.get? b=some o->h'.get? b=some o:=λb o hb e=>(hsb.2 b hb).trans e;have pr:me G (f.L::Ls) ak h₁ s.heap.objs.size:=⟨nad1,naF,S.size,λo e=>by rw[ha1]at e;replace e:=si e;subst e;exact rD ⟨by decide,λC=>by simp⟩⟩;have aq:=ai.priv pr kk;have im:=pr.im kk;have c3:ou G h' (ak++[s.heap.objs.size]) ((ks.map (·.1)).zip (Ps.map (·.2))) ((ks.map (·.1.cps.toList)).zip vs):=ou.mono (λv V r=>r.im im (List.prefix_append _ _)) c2
  have hd':h'.DictOf (PySem.strKind G.prog G.w) s.heap.objs.size ((ks.map (·.1)).zip (Ps.map (·.2))):=by simpa using hd
  have ay:=aq.adopt (mo:= .dict ((ks.map (·.1.cps.toList)).zip vs)) nad1 naF S.size ⟨_,hd',c3⟩
  refine o8 hd' λo' _ _ hd2 _=> ?_;clear hd';have aB:dE (f.L::Ls) ad (ak++[s.heap.objs.size]) s.heap h':=((p0.trans ax).priv hfr kk ⟨_,hd2⟩).adopt hfr;have:=P (.ref s.heap.objs.size) h' (tk₁+Ps.length) _ ay aB ⟨_,by rw[<-ai.len];simp,rfl⟩;exact this
 ·have h2:∀(ks:List (Str×Nat×Pos))(vs:List PV)(Ps:List (Value×Value)),yw G h₁ ak ks vs Ps->((ks.map (·.1)).zip (Ps.map (·.2))).map (·.1)=ks.map (·.1):=by
   intro ks
   induction ks with
   |nil=>intro vs Ps _;rfl
   |cons k ks ih=>
    intro vs Ps hp
    match vs,Ps,hp with
    |v::vs,P::Ps,⟨_,_,h3⟩=>simp[ih vs Ps h3]
    |[],_,hp=>exact hp.elim
    |_::_,[],hp=>exact hp.elim
  rw[qd,h2 _ _ _ rv];exact hn
theorem uu{h:Heap}{x:List Nat}:∀{ps:List (Str×Value)}{kvs:List (List Nat×D)},Kh h ps kvs->mx x kvs=none->valueAt ps ⟨x.toArray⟩=none
 |[],[],_,_=>rfl
 |p::ps,kv::kvs,⟨h1,h2,h3⟩,e=>by
  unfold mx at e;unfold valueAt;rw[List.find?_cons];by_cases q:kv.1=x
  ·rw[cH q]at e;exact yr e
  ·rw[cJ q]at e
   have:(decide (p.1=⟨x.toArray⟩))=false:=by rw[h1];exact ft λz=>q (by injection z with z;simpa using dN Array.toList z)
   rw[this];exact uu h3 e
 |[],_::_,x,_=>x.elim
 |_::_,[],x,_=>x.elim
theorem uv{h:Heap}{ad:List Addr}{x:List Nat}:∀{ps:List (Str×Value)}{kvs:List (List Nat×PV)},ou G h ad ps kvs->mx x kvs=none->valueAt ps ⟨x.toArray⟩=none
 |[],[],_,_=>rfl
 |p::ps,kv::kvs,⟨h1,h2,h3⟩,e=>by
  unfold mx at e;unfold valueAt;rw[List.find?_cons];by_cases q:kv.1=x
  ·rw[cH q]at e;exact yr e
  ·rw[cJ q]at e
   have:(decide (p.1=⟨x.toArray⟩))=false:=by rw[h1];exact ft λz=>q (by injection z with z;simpa using dN Array.toList z)
   rw[this];exact uv h3 e
 |[],_::_,x,_=>x.elim
 |_::_,[],x,_=>x.elim
def CJ(σ:List MO):PV->Bool
 | .cd _=>true
 |v=>(lW σ v).isSome
def Mr(σ:List MO)(v:PV)(x:List Nat)(w:PV):Option PV:=match v with
 | .cd kvs=>some (match mx x kvs with|some y=> .d y|none=>w)
 |v=>(lW σ v).map λkvs=>(mx x kvs).getD w
def yP(v:PV)(mk md:M PV):M PV:=λσ=>if CJ σ v then bnd mk (λk=>bnd md λw=>λσ=>match k with| .d (.str x)=>(Mr σ v x w).map λr=>(.ok r,σ)|_=>none) σ else none
theorem Hf{b:Addr}{v:PV}{V:Value}(S:St G (b::F) ad σ h)(e:CJ σ v=true)(r:eW G h ad v V):∃a ps,V= .ref a/\h.DictOf (PySem.strKind G.prog G.w) a ps/\(a == sysModules)=false:=by
 cases v with
 |cd kvs=>
  refine uL r λa ps ez1 hm hd hc=> ?_;clear r;subst ez1;exact⟨a,ps,rfl,hd.keep S.base,hm⟩
 |ref k=>
  refine eN r λa h1 ez1=> ?_;clear r;subst ez1;simp only[CJ,lW]at e
  symm at e
  ·rename_i kvs q;refine eN (S.ads k a _ h1 q) λps hd hp=> ?_;have:=S.newA a (gu h1);refine o8 G.hg λo _ _ ho _=> ?_;have:=kH ho;refine⟨a,ps,rfl,hd,?_⟩;have h3:sysModules<G.h₀.objs.size:=Nat.lt_of_le_of_lt (by decide) this;exact beq_false_of_ne λz=>by subst z;exact absurd h3 (Nat.not_lt.mpr (S.newA _ (gu h1)))
  ·exact mY e
 |d x=>exact mY e
 |inst k=>exact mY e
 |cl xs=>exact mY e
theorem Py{v w r:PV}{V W:Value}(S:St G F ad σ h)(rv:eW G h ad v V)(rw:eW G h ad w W)(e:Mr σ v x w=some r)(hV:V= .ref a):
  ∃ps,h.DictOf (PySem.strKind G.prog G.w) a ps/\eW G h ad r ((valueAt ps ⟨x.toArray⟩).getD W):=by
 cases v with
 |cd kvs=>
  refine uL rv λa' ps h1 hm hd hc=> ?_;clear rv;rw[hV]at h1;cases h1;refine⟨ps,hd.keep S.base,?_⟩;simp only[Mr]at e;replace e:=si e;subst e;cases q:mx x kvs with
  |none=>rw[uu hc q];exact rw
  |some y=>
   refine eN (qw hc q) λY e1 e2=> ?_;rw[e1];exact Rd.keep S.tupKeepBase e2
 |ref k=>
  refine eN rv λa' h1 h2=> ?_;clear rv;rw[hV]at h2;cases h2;simp only[Mr,lW]at e
  symm at e
  ·rename_i kvs q;refine eN (S.ads k a _ h1 q) λps hd hp=> ?_;refine⟨ps,hd,?_⟩;replace e:=si e;subst e;cases q:mx x kvs with
   |none=>rw[uv hp q];simpa [q] using rw
   |some y=>
    refine eN (vC hp q) λY e1 e2=> ?_;rw[e1];simpa [q] using e2
  ·exact eC e
 |d x=>exact eC e
 |inst k=>exact eC e
 |cl xs=>exact eC e
theorem Ja{o k d:cP}{apos:Pos}{mo mk md:M PV}(hline:(apos.endLine == pos.line)=true)(hbase:attributeBase o "get" f.env (eval o f.env)=eval o f.env)(ho:dR G n f aa o mo)(k0:W.isStarred k=false)(d0:W.isStarred d=false)(hk:dR G n f aa k mk)(hd:dR G n f aa d md):
  dR G n f aa (.Call (.Attribute o "get" apos) [k,d] [] pos) (bnd mo λv=>yP v mk md):=by
 intro A ag Ls ad σ s Q E r σ' C S Lc er P;refine wpAny_Call_method_late hbase (by show((backTo pos (starEach [k,d] f.env)).all _ && _ && _)=true;rw[eb k0,eb d0];rfl) hline (by rw[eb k0,eb d0]) (ho.thn C S Lc er P λv V h₁ tk₁ ak σ₁ ai ax rv am aj al=> ?_);unfold yP at aj
 symm at aj
 ·rename_i hD;refine iJ (Hf ai hD rv) λa ps ez1 hda hsm=> ?_;subst ez1;refine⟨_,_,PySem.F.plainAttrs_dict,PySem.F.slot_dict_get,PySem.F.type_dict_get,hda.typeIs,(λb e=>hda.mapOf.noDict b e),?_⟩;refine wpAny_dict_get2 (knd:=PySem.strKind G.prog G.w) hsm (hk.thn C ai am aj al λkv K ar aE aD aG aq aB rk aK ao aA=> ?_);refine hd.thn C aq aK ao aA λdv W au aH aI bs ay aC rw bj az aM=> ?_
  symm at az
  ·rename_i x;have rk:=rk.stepE aq aC;refine Rd.str_on rk λt=> ?_;refine eN (fe.mp az) λr0 e4 e5=> ?_;refine p1 e5 ?_;clear e5;intro ey ez;subst ey;subst ez;refine eN (Py ay ((rv.stepE ai aB).stepE aq aC) rw e4 rfl) λps' hd3 r3=> ?_;exact⟨⟨x.toArray⟩,_,strKind_is _ _ _ _,hd3.mapOf,aM.now ay r3 _⟩
  ·exact eC az
 ·exact eC aj
end
section
variable{f:Fm}{aa:List (Option PV)}
structure vE(G:Gl)(h:Heap)(Y:List Addr):Prop where
 new:∀y ∈ Y,G.h₀.get? y=none
 rcd:∀y ∈ Y,∀o,h.get? y=some o->∃vs,o.data= .fields vs
theorem vE.not_ad{Y:List Addr}(r:vE G h Y)(S:St G F ad σ h){y:Addr}(m:y ∈ Y):y ∉ ad:=λz=>by
 refine oE (List.getElem?_of_mem z) λk hk=> ?_
 have hl:k<σ.length:=by rw[<-S.len];exact(ek.mp hk).1
 have hr:=S.ads k y _ hk (nO hl);cases q:σ[k]with
 |list xs=>
  rw[q]at hr;refine mZ hr λitems _ h1 _=> ?_;clear hr;refine oE (r.rcd y m _ h1) λvs e=> ?_;cases e
 |dict kvs=>
  rw[q]at hr;refine eN hr λps oz1 _=> ?_;clear hr;obtain⟨o,_,_,h1,⟨h2,_⟩,h3,_⟩:=oz1;refine oE (r.rcd y m _ h1) λvs e=> ?_;rw[h3]at e;cases e
 |obj kvs=>
  rw[q]at hr;refine mZ hr λes n h1 _=> ?_;clear hr;refine oE (r.rcd y m _ h1) λvs e=> ?_;cases e
theorem vE.not_F{Y:List Addr}(r:vE G h Y)(S:St G F ad σ h){y:Addr}(m:y ∈ Y):y ∉ F:=λz=>by refine o7 (S.frs y z) λ_ o h1 es n h2=> ?_;refine oE (r.rcd y m _ h1) λvs e=> ?_;rw[h2]at e;cases e
theorem St.recs{Y:List Addr}(S:St G F ad σ h)(r:vE G h Y)(P:oO Y F h h'):St G F ad σ h'/\wQ h h':=by
 have im:wQ h h':=by
  refine⟨λb o vs n e hc hsq=> ?_,λb C d e=> ?_⟩
  ·have h1:b ∉ Y:=λm=>by
    refine oE (r.rcd b m o e) λws z=> ?_;rw[hsq]at z;cases z
   refine oE (P.there e h1) λsl e'=> ?_;exact⟨_,e',hc,rfl⟩
  ·refine P.keep b _ e (λm=> ?_) (λm=> ?_)
   ·refine oE (r.rcd b m _ e) λws z=> ?_;cases z
   ·refine o7 (S.frs b m) λ_ o h1 es n h2=> ?_;rw[e]at h1;replace h1:=si h1;subst h1;cases h2
 refine⟨⟨λb o e=>P.keep b o (S.base b o e) (λm=> ?_) (λm=> ?_),S.len,S.nd,λk a o h1 h2=> ?_,S.newA,λb m=> ?_,S.fnd,S.apart⟩,im⟩
 ·rw[r.new b m]at e;exact eC e
 ·have:=(S.frs b m).1;rw[ro this]at e;exact eC e
 ·have m:=gu h1;exact(S.ads k a o h1 h2).to (λx e=>P.keep a x e (λz=>r.not_ad S z m) (S.ad_not_F m)) im.tup λv V rr=>rr.im im (hO _)
 ·refine vv (S.frs b m) λh1 o h2 h3=> ?_;refine oE (P.slots b o h2 m (λz=>r.not_F S z m)) λsl e'=> ?_;exact⟨h1,_,e',h3⟩
theorem kK.recs{Y:List Addr}(p:kK X F ad ad' h h₁)(hn:∀y ∈ Y,h.get? y=none)(P:oO Y F h₁ h')(ex:∀b,h'.get? b=none->h.get? b=none):kK X F ad ad' h h':=
 ⟨p.pre,p.pres.trans P λb m=> .inr (hn b m),p.new,ex⟩
def Hg(G:Gl)(hs h:Heap)(x:Addr):Prop:=EK G hs h x\/yJ G hs h x .none
theorem rF{base h:Heap}:∀{envs:List Env}{F:List Addr},envs.map (·.frame)=F.map some->(∀e ∈ envs,e.scope.kind≠.module)->(∀b ∈ F,base.get? b=none/\∃o,h.get? b=some o/\∃es n,o.data= .dict es n)->h.FunFrames base envs
 |[],_,_,_,_=>trivial
 |e::envs,[],h1,_,_=>by simp at h1
 |e::envs,b::F,h1,h2,h3=>by simp only[jg,List.cons.injEq]at h1;refine o7 (h3 b (.head _)) λh4 o h5 es n h6=> ?_;exact⟨h2 e (.head _),⟨b,o,h1.1,h4,h5,λvs z=>by rw[h6]at z;cases z⟩,rF h1.2 (λe m=>h2 e (.tail _ m)) λb m=>h3 b (.tail _ m)⟩
theorem Hh{env:Env}{hs:Heap}{x:Addr}{Q:Unit->Shared->Prop}{M:Model}
  (hA:A.frames=some (env::ag))(hL:env.frame=some L)(out:ag.map (·.frame)=Ls.map some)(kinds:∀e ∈ env::ag,e.scope.kind≠.module)
  (S:St G (L::Ls) ad σ s.heap)(hb:G.h₀.StaysIn hs)(hk:∀b,s.heap.get? b=none->hs.get? b=none)(fl:Hg G hs s.heap x)
  (hQ:∀h' Y,vE G s.heap Y->(∀y ∈ Y,hs.get? y=none)->oO Y (L::Ls) s.heap h'->(∀b,h'.get? b=none->hs.get? b=none)->yJ G hs h' x .none->Q () { s with heap:=h' }):
  wpAny M A (leaving env (.ref x)) Q E s:=by
 have fresh0:∀b,hs.get? b=none->G.h₀.get? b=none:=λb e=>by
  cases q:G.h₀.get? b with
  |none=>rfl
  |some o=>rw[hb b o q]at e;exact yr e
 have st:∃(Y:List Addr)(a0:Value)(oe:Obj)(vs:Array Value),(∀y ∈ Y,hs.get? y=none)/\x ∈ Y/\s.heap.get? x=some oe/\oe.cls= .ref G.fC/\oe.data= .fields vs/\vs[0]? =some a0/\
   (∀y ∈ Y,∀o,s.heap.get? y=some o->∃vs,o.data= .fields vs)/\((vs[1]? =some .none)\/∃T oT ts,T ∈ Y/\vs[1]? =some (.ref T)/\T≠x/\s.heap.get? T=some oT/\oT.data= .fields ts/\ts[3]? =some .none):=by
  rcases fl with⟨h1,oe,vs,a0,h2,h3,h4,h5,h6⟩|⟨h1,a0,oe,vs,T,oT,ts,h2,⟨h3,h3'⟩,h4,h5,h6,h7,h8,h9,h10⟩
  ·exact⟨[x],a0,oe,vs,λy m=>by cases ff.mp m;exact h1,.head _,h2,h3,h4,h6,λy m o e=>by cases ff.mp m;rw[h2]at e;replace e:=si e;subst e;exact⟨_,h4⟩,.inl h5⟩
  ·refine⟨[x,T],a0,oe,vs,λy m=> ?_,.head _,h2,h3,h4,h3',λy m o e=> ?_,.inr ⟨T,oT,ts,.tail _ (.head _),h5,h7,h8,h9,h10⟩⟩
   ·rcases dj.mp m with rfl|m
    ·exact h1
    ·cases ff.mp m;exact h6
   ·rcases dj.mp m with rfl|m
    ·rw[h2]at e;replace e:=si e;subst e;exact⟨_,h4⟩
    ·cases ff.mp m;rw[h8]at e;replace e:=si e;subst e;exact⟨_,h9⟩
 refine Cu st λY a0 oe vs hY hx hoe hcl hdt h0 hrec hst=> ?_;clear st;have RY:vE G s.heap Y:=⟨λy m=>fresh0 y (hY y m),hrec⟩
 let base:=hideAll s.heap (Y++(L::Ls))
 have hbase:base.StaysIn s.heap:=λb o q=>of_hideAll _ q;have hbn:∀b ∈ Y++(L::Ls),base.get? b=none:=λb m=>hideAll_none _ m;have hF:s.heap.FunFrames base (env::ag):=rF (F:=L::Ls) (by simp[hL,out]) kinds λb m=>⟨hbn b (eF.mpr (.inr m)),(S.frs b m).2⟩
 have kF:∀h',Heap.LeftW base (env::ag) x (.ref G.fC) a0 s.heap h'->Q () { s with heap:=h' }:=λh'⟨k1,k2,k3,k4⟩=>by
  have P:oO Y (L::Ls) s.heap h':=⟨λb o e h1 h2=>k1 b o (hideAll_get _ e λm=>(eF.mp m).elim h1 h2),λb o e h1 h2=>by refine o7 (S.frs b h1) λ_ o' e' es n hd=> ?_;rw[e]at e';replace e':=si e';subst e';exact k4 b o e λvs z=>by rw[hd]at z;cases z⟩
  refine sR k3 λoe' vs' T' oT' ts' c1 oz1 c3 c4 c5 c6 c7 c8 c9=> ?_;clear k3;obtain⟨c2,c2'⟩:=oz1
  have ex:∀b,h'.get? b=none->hs.get? b=none:=λb e=>by
   by_cases m:b ∈ Y
   ·exact hY b m
   ·exact hk b (P.fresh e m)
  refine hQ h' Y RY hY P ex ⟨hY x hx,a0,oe',vs',T',oT',ts',c1,⟨c2,c2'⟩,c3,c4,?_,c6,c7,c8,c9⟩;cases q:hs.get? T' with
  |none=>rfl
  |some o=>
   exfalso
   cases q2:s.heap.get? T' with
   |none=>rw[hk T' q2]at q;exact eC q
   |some o2=>
    have m:T' ∈ Y++(L::Ls):=sQ λm=>by have:=hideAll_get (Y++(L::Ls)) q2 m;rw[show(hideAll s.heap (Y++(L::Ls))).get? T'=none from c5]at this;exact eC this
    rcases eF.mp m with m|m
    ·rw[hY T' m]at q;exact eC q
    ·refine o7 (S.frs T' m) λ_ o3 e3 es n hd=> ?_;refine oE (P.slots T' o3 e3 m (RY.not_F S · m)) λsl e4=> ?_
     rw[c7]at e4;replace e4:=si e4;subst e4;rw[hd]at c8;cases c8
 rcases hst with h1|⟨T,oT,ts,hT,h1,hTx,h2,h3,h4⟩
 ·exact wpAny_leaving_firstW (base:=base) hA hF hL hoe hbase (hbn x (eF.mpr (.inl hx))) hdt h1 h0 λh' k=>kF h' (hcl▸k)
 ·exact wpAny_leaving_nextW (base:=base) hA hF hL ⟨oe,vs,T,oT,ts,hoe,⟨hcl,h0⟩,hdt,h1,hbn T (eF.mpr (.inl hT)),hTx,h2,h3,h4⟩ hbase (hbn x (eF.mpr (.inl hx))) kF
end
section
variable{f:Fm}{aa:List (Option PV)}
abbrev Lo:=List (Option PV)
inductive Fl where
 |nxt (aa:Lo)
 |brk (aa:Lo)
 |ret (v:PV)
def pf(G:Gl)(f:Fm)(Ls ad:List Addr)(s:Shared)(r:R Fl)(σ':List MO)(Q:Flow->Shared->Prop)(E:Value->Shared->Prop):Prop:=match r with
 | .ok (.nxt loc')=>∀h' tk ad',St G (f.L::Ls) ad' σ' h'->iG f.L Ls ad ad' s.heap h'->uo G h' ad' f loc'->Q .next { s with heap:=h',toks:=tk }
 | .ok (.brk loc')=>∀h' tk ad',St G (f.L::Ls) ad' σ' h'->iG f.L Ls ad ad' s.heap h'->uo G h' ad' f loc'->Q .brk { s with heap:=h',toks:=tk }
 | .ok (.ret v)=>∀V h' tk ad',St G (f.L::Ls) ad' σ' h'->iG f.L Ls ad ad' s.heap h'->eW G h' ad' v V->Q (.ret V) { s with heap:=h',toks:=tk }
 | .exc=>∀x h' tk ad',St G (f.L::Ls) ad' σ' h'->iG f.L Ls ad ad' s.heap h'->Hg G s.heap h' x->E (.ref x) { s with heap:=h',toks:=tk }
def ow(G:Gl)(n:Nat)(f:Fm)(aa:Lo)(body:List Stmt)(m:M Fl):Prop:=
 ∀(A:Around)(ag:List Env)(Ls ad:List Addr)(σ:List MO)(s:Shared)(Q:Flow->Shared->Prop)(E:Value->Shared->Prop)(r:R Fl)(σ':List MO),
  PassesOwn (model G.prog G.w) A f.env E->wI G A n f ag Ls->St G (f.L::Ls) ad σ s.heap->uo G s.heap ad f aa->m σ=some (r,σ')->pf G f Ls ad s r σ' Q E->
  wpAny (model G.prog G.w) A (execs body f.env) Q E s
theorem pf.of_ret{f:Fm}{r:R Fl}{a:Fl}{Q:Flow->Shared->Prop}(P:pf G f Ls ad s r σ' Q E)(e:ret a σ=some (r,σ')):pf G f Ls ad s (.ok a) σ Q E:=by refine oA (ky e) λez1 ez2=> ?_;subst ez1;subst ez2;exact P
theorem Hg.back{hs hs' h:Heap}{x:Addr}(F:Hg G hs' h x)(k:∀b,hs'.get? b=none->hs.get? b=none):Hg G hs h x:=by
 rcases F with F|F
 ·exact .inl (F.back k)
 ·exact .inr (F.back k)
theorem pf.after{ak:List Addr}{r:R Fl}{Q:Flow->Shared->Prop}{tk₁:Nat}
  (P:pf G f Ls ad s r σ' Q E)(p:iG f.L Ls ad ak s.heap h₁):pf G f Ls ak { s with heap:=h₁,toks:=tk₁ } r σ' Q E:=by
 cases r with
 |ok b=>
  cases b with
  |nxt loc'=>exactλh' tk ad' S q L=>P h' tk ad' S (p.trans q) L
  |brk loc'=>exactλh' tk ad' S q L=>P h' tk ad' S (p.trans q) L
  |ret v=>exactλV h' tk ad' S q L=>P V h' tk ad' S (p.trans q) L
 |exc=>exactλx h' tk ad' S q fl=>P x h' tk ad' S (p.trans q) (fl.back p.ex)
structure CK(G:Gl)(a:Addr)(cn:Str)(sc:Scope)(cd:Value)(body:List Stmt)(ps:List Str)(k:Nat)(ds:List D):Prop where
 fn:∃o fd,G.h₀.get? a=some o/\o.data= .func fd/\fd.body= .stmts body/\fd.scope=sc/\fd.qualname=cn/\fd.code=cd/\fd.globals=mainGlobals/\fd.closure=[]/\fd.builtins=builtinsNs/\
  (∀s Vs,G.h₀.StaysIn s.heap->Vs.length=k->∃Ds,dD G.h₀ Ds ds/\BindsTo s fd ⟨Vs,[]⟩ (ps.zip (Vs++Ds)))
 code:G.h₀.CodeRec cd cn
 cell:∀x ∈ sc.names,x.2≠.cell
 co:sc.isCoroutine=false
 gen:sc.isGenerator=false
 kind:sc.kind= .function
 pn:ps.length=k+ds.length
theorem sX(hn:ps.Nodup){x:Str}{V:Value}(h1:ps[i]? =some x)(h2:Vs[i]? =some V):(ps.zip Vs).reverse.lookup x=some V:=by
 induction ps generalizing Vs i with
 |nil=>simp at h1
 |cons p ps ih=>
  cases Vs with
  |nil=>simp at h2
  |cons W Vs=>
   rw[List.zip_cons_cons,List.reverse_cons,List.lookup_append];have hn':=gE.mp hn;cases i with
   |zero=>
    simp at h1 h2;subst h1;subst h2
    have:(ps.zip Vs).reverse.lookup p=none:=by
     cases q:(ps.zip Vs).reverse.lookup p with
     |none=>rfl
     |some Y=>
      exfalso
      have:=List.mem_reverse.mp (mem_of_lookup q);exact hn'.1 (List.of_mem_zip this).1
    rw[this];simp
   |succ i=>
    rw[ih hn'.2 (by simpa using h1) (by simpa using h2)];simp
theorem St.tail{b:Addr}{F ad:List Addr}{σ:List MO}{h:Heap}(S:St G (b::F) ad σ h):St G F ad σ h:=
 ⟨S.base,S.len,S.nd,S.ads,S.newA,λx m=>S.frs x (.tail _ m),(gE.mp S.fnd).2,λx m=>S.apart x (.tail _ m)⟩
theorem iG.out(k:∀b o,h.get? b=some o->h₁.get? b=some o)(hL:h.get? L=none)(p:iG L F ad ad' h₁ h'):dE F ad ad' h h':=by
 refine⟨p.pre,⟨λb o e h1 h2=>p.pres.keep b o (k b o e) (λm=> ?_) h2,λb o e h1 h2=>p.pres.slots b o (k b o e) h1 λm=> ?_⟩,λa m=> ?_,λb e=> ?_⟩
 ·rcases dj.mp m with rfl|m
  ·rw[hL]at e;exact eC e
  ·exact h1 m
 ·rcases dj.mp m with rfl|m
  ·rw[hL]at e;exact eC e
  ·exact h2 m
 ·rcases p.new a m with z|z
  ·exact .inl z
  ·refine .inr ?_;cases q:h.get? a with
   |none=>rfl
   |some o=>rw[k a o q]at z;exact yr z
 ·have z:=p.ex b e;cases q:h.get? b with
  |none=>rfl
  |some o=>rw[k b o q]at z;exact yr z
def i6(m:M Fl):M PV:=bnd m λfl=>match fl with
 | .ret v=>ret v
 | .nxt _=>ret (.d .none)
 | .brk _=>cU
noncomputable def eR(vs:List PV)(ds:List D)(more:Nat):Lo:=vs.map some++ds.map (λd=>some (.d d))++List.replicate more none
theorem jA.get{h:Heap}{ad:List Addr}:∀{vs:List PV}{Vs:List Value}{i:Nat}{v:PV},jA G h ad vs Vs->vs[i]? =some v->∃V,Vs[i]? =some V/\eW G h ad v V
 |v::vs,V::Vs,0,_,⟨h1,_⟩,e=>by simp at e;subst e;exact⟨V,rfl,h1⟩
 |v::vs,V::Vs,i+1,_,⟨_,h2⟩,e=>by simpa using jA.get h2 (by simpa using e)
 |[],_,_,_,_,e=>by simp at e
 |_::_,[],_,_,x,_=>x.elim
theorem jA.length{h:Heap}{ad:List Addr}:∀{vs:List PV}{Vs:List Value},jA G h ad vs Vs->Vs.length=vs.length
 |[],[],_=>rfl
 |_::_,_::_,⟨_,h2⟩=>dN (· +1) (jA.length h2)
 |[],_::_,x=>x.elim
 |_::_,[],x=>x.elim
theorem ET{cn:Str}{k:Nat}(fn:CK G a cn sc cd body ps k ds)(hn:(ps++more).Nodup)(hl:∀x ∈ ps++more,sc.names.lookup x=some .local)
  (hk:vs.length=k)
  {R:Result->Shared->Prop}
  (C:wI G A (n+1) f ag Ls)(S:St G (f.L::Ls) ad σ s.heap)(rv:jA G s.heap ad vs Vs)
  (h:∀L h₁ tk,s.heap.get? L=none->(∀b o,s.heap.get? b=some o->h₁.get? b=some o)->
   wI G (A.deeper (Fm.env ⟨cn,sc,L,a,cd,ps++more⟩)) n ⟨cn,sc,L,a,cd,ps++more⟩ (f.env::ag) (f.L::Ls)->St G (L::f.L::Ls) ad σ h₁->uo G h₁ ad ⟨cn,sc,L,a,cd,ps++more⟩ (eR vs ds more.length)->
   wpAny (model G.prog G.w) (A.deeper (Fm.env ⟨cn,sc,L,a,cd,ps++more⟩)) (execs body (Fm.env ⟨cn,sc,L,a,cd,ps++more⟩)) (λf s'=>R (.ok (.ret (match f with| .ret v=>v|_=> .none))) s')
    (λe s'=>wpAny (model G.prog G.w) (A.deeper (Fm.env ⟨cn,sc,L,a,cd,ps++more⟩)) (leaving (Fm.env ⟨cn,sc,L,a,cd,ps++more⟩) e) (λ_ s''=>R (.error e) s'') (λe' s''=>R (.error e') s'') s') { s with heap:=h₁,toks:=tk }):
  codeAny (model G.prog G.w) A (.call (.ref a) ⟨Vs,[]⟩) R s:=by
 refine vw fn.fn λo fd h1 h2 h3 ez1 ez2 ez3 h7 h8 h9 h10=> ?_;subst ez1;subst ez2;subst ez3;refine eN (h10 s Vs S.base (rv.length.trans hk)) λDs hD hb=> ?_;have hu:=C.hu;have hd:=C.hd;refine codeAny_call_def (by show A.depth<1000;exact(kI (.t A2 (.k 1000)) [.t (.a (.a A0 (.l 16 (.a A1 K1))) (.k 200)) (.k 9900),.t (.a A2 (.a A1 K1)) (.k 1000)]) hu hd) (S.base _ _ h1) h2 (G.lim.keeps S.base) (fn.code.keeps S.base) h3 hb fn.cell (λx hx=> ?_) (λh₁ hns hkeep=> ?_) fn.co fn.gen fn.kind
 ·have:=(List.of_mem_zip (show(x.1,x.2) ∈ _ from hx)).1;exact hl x.1 (eF.mpr (.inl this))
 have henv:callEnv fd s.heap.objs.size a=Fm.env ⟨fd.qualname,fd.scope,s.heap.objs.size,a,fd.code,ps++more⟩:=by unfold callEnv newEnv Fm.env envOf;simp only[h7,h8,h9]
 rw[henv];have hfr:=fN s.heap
 have nF:s.heap.objs.size ∉ f.L::Ls:=λz=>by refine vv (S.frs _ z) λ_ o e1 _=> ?_;rw[hfr]at e1;exact eC e1
 have nad:s.heap.objs.size ∉ ad:=λz=>by refine eN (S.adObj z) λo e1 _=> ?_;rw[hfr]at e1;exact eC e1
 have aV:=S.of_keep hkeep;have aP:dE (f.L::Ls) ad ad s.heap h₁:=dE.of_keep hkeep
 have ai:St G (s.heap.objs.size::f.L::Ls) ad σ h₁:=⟨aV.base,aV.len,aV.nd,aV.ads,aV.newA,λb z=>by
   rcases dj.mp z with rfl|z
   ·refine iO hns λo es ep e1 e2 _=> ?_;clear hns;exact⟨S.size,o,e1,es,ep,e2⟩
   ·exact aV.frs b z,gE.mpr ⟨nF,aV.fnd⟩,λb z=>by
   rcases dj.mp z with rfl|z
   ·exact nad
   ·exact aV.apart b z⟩
 have bO:jA G h₁ ad vs Vs:=rv.stepE S aP
 have C':wI G (A.deeper (Fm.env ⟨fd.qualname,fd.scope,s.heap.objs.size,a,fd.code,ps++more⟩)) n ⟨fd.qualname,fd.scope,s.heap.objs.size,a,fd.code,ps++more⟩ (f.env::ag) (f.L::Ls):=
  {
   hA:=by show Option.map _ A.frames=_;rw[C.hA];rfl
   out:=by show(f.env.frame::ag.map (·.frame))=_;rw[C.out];rfl
   kinds:=λe z=>by
    rcases dj.mp z with rfl|z
    ·show f.cs.kind≠.module;rw[C.hk];decide
    ·exact C.kinds e z
   hk:=fn.kind
   hh:=C.hh
   hd:=by show A.depth+1+n<1000;exact Z0 hd
   hu:=by show A.units+3+16 * n+200<9900;exact(ie (.t (.a (.a (.a A0 (.k 3)) (.l 16 A1)) (.k 200)) (.k 9900)) [.t (.a (.a A0 (.l 16 (.a A1 K1))) (.k 200)) (.k 9900)]) hu
   nd:=hn
   aa:=hl }
 have Lc:uo G h₁ ad ⟨fd.qualname,fd.scope,s.heap.objs.size,a,fd.code,ps++more⟩ (eR vs ds more.length):=by
  refine⟨_,hns,λi x v e1 e2=> ?_⟩;have hlen:Vs.length=vs.length:=rv.length;have hD2:=hD.length;have hpn:=fn.pn
  have hi:i<ps.length:=by refine sQ λhi=> ?_;unfold eR at e2;rw[nN (by simp;exact(Ke (.l (.a A0 A4) A5) [.e A0 A1,.e A2 A0,.e A3 (.a A1 A4),.n (.t A5 A3)]) hk hlen hpn hi)]at e2;have:=gu e2;have:=List.eq_of_mem_replicate this;exact yr this
  have e1':ps[i]? =some x:=by rw[<-e1];exact(fH hi).symm
  unfold eR at e2;rw[fH (by simp;exact(Ke (.t A5 (.a A0 A4)) [.e A0 A1,.e A2 A0,.e A3 (.a A1 A4),.t A5 A3]) hk hlen hpn hi)]at e2;by_cases hi2:i<vs.length
  ·rw[fH (by simpa using hi2),List.getElem?_map]at e2;refine eN (fe.mp e2) λv' e3 e4=> ?_;replace e4:=sj e4;subst e4;refine eN (bO.get e3) λV e5 e6=> ?_;exact⟨V,sX (List.nodup_append.mp hn).1 e1' (by rw[fH (zq4 hk hlen hpn hi2)];exact e5),e6⟩
  ·rw[nN (by simpa using hi2),List.getElem?_map]at e2;refine eN (fe.mp e2) λd e3 e4=> ?_;replace e4:=si e4;subst e4;refine eN (hD.get e3) λV e5 e6=> ?_;refine⟨V,sX (List.nodup_append.mp hn).1 e1' (by rw[nN (zq3 hk hlen hpn hi2),hlen];simpa using e5),?_⟩;exact Rd.keep ai.tupKeepBase e6
 exact h s.heap.objs.size h₁ _ hfr hkeep C' ai Lc
theorem CL{cn:Str}{k:Nat}{m:M Fl}(fn:CK G a cn sc cd body ps k ds)(hn:(ps++more).Nodup)(hl:∀x ∈ ps++more,sc.names.lookup x=some .local)
  (ok:∀L,ow G n ⟨cn,sc,L,a,cd,ps++more⟩ (eR vs ds more.length) body m)(hk:vs.length=k)
  {R:Result->Shared->Prop}{r:Internal.R PV}
  (C:wI G A (n+1) f ag Ls)(S:St G (f.L::Ls) ad σ s.heap)(rv:jA G s.heap ad vs Vs)(e:i6 m σ=some (r,σ'))(P:qI G (f.L::Ls) ad s r σ' (λv s'=>R (.ok (.ret v)) s') (λe s'=>R (.error e) s') (RV G)):
  codeAny (model G.prog G.w) A (.call (.ref a) ⟨Vs,[]⟩) R s:=by
 refine ET fn hn hl hk C S rv λL h₁ tk hfr hkeep C' ai Lc=> ?_;have aP:dE (f.L::Ls) ad ad s.heap h₁:=dE.of_keep hkeep
 have kF:∀{h':Heap}{ad':List Addr}{σ₁:List MO},St G (L::f.L::Ls) ad' σ₁ h'->iG L (f.L::Ls) ad ad' h₁ h'->St G (f.L::Ls) ad' σ₁ h'/\dE (f.L::Ls) ad ad' s.heap h':=
  λS q=>⟨S.tail,iG.out hkeep hfr q⟩
 rcases nE e with⟨b,σ₁,e1,e2⟩|⟨e1,rfl⟩
 ·refine ok L _ _ _ ad σ _ _ _ (.ok b) σ₁ PassesOwn.leaving C' ai Lc e1 ?_;cases b with
  |nxt loc'=>
   have P:=P.of_ret e2
   exactλh' tk ad' S' q _=>P .none h' tk ad' (kF S' q).1 (kF S' q).2 Rd.none
  |ret v=>
   have P:=P.of_ret e2
   exactλV h' tk ad' S' q rr=>P V h' tk ad' (kF S' q).1 (kF S' q).2 rr
  |brk loc'=>exact eC e2
 ·refine ok L _ _ _ ad σ _ _ _ .exc σ' PassesOwn.leaving C' ai Lc e1 ?_;intro x h' tk ad' S' q fl;refine Hh (hs:=s.heap) C'.hA rfl C'.out (λe z=> ?_) S' S.base (λb z=>(iG.out hkeep hfr q).ex b z) (fl.back aP.ex) λh'' Y rY hY pY ex fl'=> ?_
  ·rcases dj.mp z with rfl|z
   ·show sc.kind≠.module;rw[fn.kind];decide
   ·exact C'.kinds e z
  ·refine oA (S'.recs rY pY) λaq im=> ?_
   have q2:dE (f.L::Ls) ad ad' s.heap h'':=by
    have q1:=(kF S' q).2;refine⟨q1.pre,⟨λb o e h1 h2=> ?_,λb o e h1 h2=> ?_⟩,q1.new,ex⟩
    ·have e':=q1.pres.keep b o e h1 h2;refine pY.keep b o e' (λz=>by rw[hY b z]at e;exact eC e) (λz=> ?_);rcases dj.mp z with rfl|z
     ·rw[hfr]at e;exact eC e
     ·exact h2 z
    ·refine oE (q1.pres.slots b o e h1 h2) λsl e'=> ?_;refine oE (pY.slots b _ e' (.tail _ h1) (λz=>by rw[hY b z]at e;exact eC e)) λsl' e''=> ?_;exact⟨sl',e''⟩
   exact P x h'' tk ad' aq.tail q2 fl'
end
variable{aa:Lo}{mo:Lo->M Fl}{mt:Lo->M Bool}{mb:Lo->M Fl}{asg:Lo->PV->Option Lo}
section
variable{f:Fm}{aa:List (Option PV)}
def fK(G:Gl)(n:Nat)(a:Addr)(sem:List PV->M PV):Prop:=
 ∀(f:Fm)(A:Around)(ag:List Env)(Ls ad:List Addr)(σ:List MO)(s:Shared)(R:Result->Shared->Prop)(vs:List PV)(Vs:List Value)(r:Internal.R PV)(σ':List MO),
  wI G A n f ag Ls->St G (f.L::Ls) ad σ s.heap->jA G s.heap ad vs Vs->sem vs σ=some (r,σ')->qI G (f.L::Ls) ad s r σ' (λv s'=>R (.ok (.ret v)) s') (λe s'=>R (.error e) s') (RV G)->
  codeAny (model G.prog G.w) A (.call (.ref a) ⟨Vs,[]⟩) R s
theorem fK.prim(h:fK G n a sem):rE G n f (.ref a) sem:=by intro A ag Ls ad σ s Q E vs Vs r σ' C S rv e P;exact wpAny_call (h f A ag Ls ad σ s _ vs Vs r σ' C S rv e P)
theorem Pz{x:Str}(hx:f.cs.names.lookup x=some .globalImplicit)(hg:G.mg x=some (.ref a))(hd:(x ==("__debug__":Str))=false)(hkp:keepIn G.K (.ref a)=true)
  (hs:jy G n f aa es ms)(hc:fK G n a sem):dR G n f aa (.Call (.Name x np) es [] pos) (bnd (ja ms) sem):=by
 intro A ag Ls ad σ s Q E r σ' C S Lc er P;refine nS (Name_function_global C.hk hx (loadGlobal_global (env:=f.env) (G.hg.keeps S.base) hg ?_) hd);cases hs with
 |nil=>
  have e':sem [] σ=some (r,σ'):=er;exact callWith_K0 (G.KX.keeps S.base) hkp (hc.prim A ag Ls ad σ s Q E [] [] r σ' C S trivial e' P)
 |cons h0 h1 hs=>
  refine callWith_K (G.KX.keeps S.base) hkp ((oP (.cons h0 h1 hs)).thn C S Lc er P λvs Vs h₁ tk₁ ak σ₁ ai ax rv am aj al=>⟨G.KX.keeps ai.base,?_⟩) (eb h0) hs.plain;exact hc.prim A ag Ls ak σ₁ _ _ _ vs Vs r σ' C ai rv aj al
theorem eW.stepS{v:PV}{V:Value}(r:eW G h ad v V)(S:St G (L::F) ad σ h)(P:iG L F ad ad' h h'):eW G h' ad' v V:=
 r.step (F:=F) S (λa m=>by
  rcases dj.mp m with rfl|m
  ·exact .inr (.head _)
  ·exact .inl m) (λ_ m=> .tail _ m) P
theorem qN{x:Str}{v:PV}{V:Value}{Q:Unit->Shared->Prop}(hx:f.names[i]? =some x)
  (C:wI G A n f ag Ls)(S:St G (f.L::Ls) ad σ s.heap)(Lc:uo G s.heap ad f aa)(rv:eW G s.heap ad v V)
  (h:∀h',St G (f.L::Ls) ad σ h'->iG f.L Ls ad ad s.heap h'->uo G h' ad f (aa.set i (some v))->Q () { s with heap:=h',toks:=s.toks+1 }):
  wpAny (model G.prog G.w) A (storeName f.env x V) Q E s:=by
 refine eN Lc λm hn hv=> ?_;clear Lc;have hkind:f.env.kindOf x=some .local:=C.aa x (gu hx)
 have hp:(f.env.scope.kind == .class ||(f.env.scope.kind == .module && f.env.locals != f.env.globals))=false:=by
  show(f.cs.kind == .class ||(f.cs.kind == .module && _))=false
  rw[C.hk];rfl
 refine wpAny_storeName_local hkind hn (λh' hn' hs=> ?_) hp;have hLF:f.L ∉ Ls:=(gE.mp S.fnd).1;have nad:f.L ∉ ad:=S.apart _ (.head _);have kk:∀b o,b≠f.L->s.heap.get? b=some o->h'.get? b=some o:=λb o hb e=>(hs.2 b hb).trans e
 have p:iG f.L Ls ad ad s.heap h':=by
  refine⟨hO _,⟨λb o e h1 _=>kk b o (λz=>h1 (z▸.head _)) e,λb o e h1 h2=>⟨o.slots,kk b o (λz=>h2 (z▸.head _)) e⟩⟩,λ_ z=> .inl z,λb e=> ?_⟩;by_cases hb:b=f.L
  ·subst hb;refine o8 hn' λo _ _ e1 _=> ?_;clear hn';rw[show h'.get? f.L=some o from e1]at e;exact yr e
  ·exact((hs.2 b hb).symm.trans e)
 have im:wQ s.heap h':=by
  refine o7 (S.frs f.L (.head _)) λ_ oL eL es n' hL=> ?_;refine⟨λb o vs n e hc hsq=>⟨o,kk b o (λz=> ?_) e,hc,rfl⟩,λb C d e=>kk b _ (λz=> ?_) e⟩
  ·subst z;rw[e]at eL;replace eL:=sj eL;subst eL;rw[hL]at hsq;cases hsq
  ·subst z;rw[e]at eL;replace eL:=si eL;subst eL;cases hL
 have S':St G (f.L::Ls) ad σ h':=by
  refine⟨λb o e=>kk b o (λz=> ?_) (S.base b o e),S.len,S.nd,λk a o h1 h2=> ?_,S.newA,λb z=> ?_,S.fnd,S.apart⟩
  ·have:=(S.frs f.L (.head _)).1;rw[z,ro this]at e;exact eC e
  ·exact(S.ads k a o h1 h2).to (λx e=>kk a x (λz=>nad (z▸gu h1)) e) im.tup λv V rr=>rr.im im (hO _)
  ·rcases dj.mp z with rfl|z
   ·refine iO hn' λo es ep e1 e2 _=> ?_;clear hn';exact⟨(S.frs _ (.head _)).1,o,e1,es,ep,e2⟩
   ·refine vv (S.frs b (.tail _ z)) λh1 o h2 h3=> ?_;exact⟨h1,o,kk b o (λz'=>hLF (z'▸z)) h2,h3⟩
 refine h h' S' p ⟨_,hn',λj y u e1 e2=> ?_⟩;by_cases hj:i=j
 ·subst hj;have hxy:y=x:=Option.some.inj (e1.symm.trans hx);subst hxy;rw[List.getElem?_set]at e2
  symm at e2
  ·split at e2
   ·cases e2;exact⟨V,by simp,rv.im im (hO _)⟩
   ·exact eC e2
  ·rename_i z;exact absurd rfl z
 ·rw[o6 hj]at e2;refine eN (hv j y u e1 e2) λU e3 e4=> ?_;refine⟨U,?_,e4.im im (hO _)⟩;rw[cJ]
  ·exact e3
  ·intro z;subst z;obtain⟨p1,q1⟩:=ek.mp hx;obtain⟨p2,q2⟩:=ek.mp e1;have pw:=List.pairwise_iff_getElem.mp C.nd;rcases Nat.lt_trichotomy i j with l|l|l
   ·exact pw i j p1 p2 l (q1.trans q2.symm)
   ·exact hj l
   ·exact pw j i p2 p1 l (q2.trans q1.symm)
def jB(G:Gl)(n:Nat)(f:Fm)(aa:Lo)(st:Stmt)(m:M Fl):Prop:=
 ∀(A:Around)(ag:List Env)(Ls ad:List Addr)(σ:List MO)(s:Shared)(Q:Flow->Shared->Prop)(E:Value->Shared->Prop)(r:R Fl)(σ':List MO),
  PassesOwn (model G.prog G.w) A f.env E->wI G A n f ag Ls->St G (f.L::Ls) ad σ s.heap->uo G s.heap ad f aa->m σ=some (r,σ')->pf G f Ls ad s r σ' Q E->
  wpAny (model G.prog G.w) A (exec st f.env) Q E s
theorem I4.thnS{α':Type}{t:Sem α'}{m:M α}{Rl:Heap->List Addr->α->α'->Prop}(ok:I4 G n f aa t m Rl)
  {Q:α'->Shared->Prop}{r:R Fl}{k:α->M Fl}{Q':Flow->Shared->Prop}
  (C:wI G A n f ag Ls)(S:St G (f.L::Ls) ad σ s.heap)(Lc:uo G s.heap ad f aa)(e:bnd m k σ=some (r,σ'))(P:pf G f Ls ad s r σ' Q' E)
  (h:∀b a h₁ tk₁ ak σ₁,St G (f.L::Ls) ak σ₁ h₁->dE (f.L::Ls) ad ak s.heap h₁->Rl h₁ ak b a->uo G h₁ ak f aa->k b σ₁=some (r,σ')->pf G f Ls ak { s with heap:=h₁,toks:=tk₁ } r σ' Q' E->
   Q a { s with heap:=h₁,toks:=tk₁ }):wpAny (model G.prog G.w) A t Q E s:=by
 have hLF:f.L ∉ Ls:=(gE.mp S.fnd).1;rcases nE e with⟨b,σ₁,e1,e2⟩|⟨e1,rfl⟩
 ·exact ok A ag Ls ad σ s Q E _ _ C S Lc e1 λa h₁ tk₁ ak ai p R=>h b a h₁ tk₁ ak σ₁ ai p R (Lc.step S p) e2 (P.after (p.toS hLF))
 ·exact ok A ag Ls ad σ s Q E _ _ C S Lc e1 λx h' tk ad' S' p fl=>P x h' tk ad' S' (p.toS hLF) (.inr fl)
theorem wS:ow G n f aa body cU:=λ_ _ _ _ _ _ _ _ _ _ _ _ _ _ e _=>by exact eC e
theorem jR{st:Stmt}:jB G n f aa st cU:=λ_ _ _ _ _ _ _ _ _ _ _ _ _ _ e _=>by exact eC e
theorem gS:dR G n f aa e cU:=λ_ _ _ _ _ _ _ _ _ _ _ _ _ e _=>by exact eC e
theorem wT:uM G n f aa e cU:=λ_ _ _ _ _ _ _ _ _ _ _ _ _ e _=>by exact eC e
theorem pf.now{Q:Flow->Shared->Prop}(P:pf G f Ls ad s (.ok (.nxt aa)) σ Q E)(S:St G (f.L::Ls) ad σ s.heap)(Lc:uo G s.heap ad f aa)(tk:Nat):Q .next { s with heap:=s.heap,toks:=tk }:=
 P s.heap tk ad S (kK.refl ..) Lc
theorem ko:ow G n f aa [] (ret (.nxt aa)):=by intro A ag Ls ad σ s Q E r σ' hE C S Lc e P;have P:=P.of_ret e;exact wpAny_execs_nil (P.now S Lc s.toks)
def dn(m:M Fl)(k:Lo->M Fl):M Fl:=bnd m λfl=>match fl with
 | .nxt loc'=>k loc'
 | .brk loc'=>ret (.brk loc')
 | .ret v=>ret (.ret v)
theorem eh{st:Stmt}{rest:List Stmt}{m:M Fl}{k:Lo->M Fl}(h:jB G n f aa st m)(hr:∀loc',ow G n f loc' rest (k loc')):ow G n f aa (st::rest) (dn m k):=by
 intro A ag Ls ad σ s Q E r σ' hE C S Lc e P;refine nU ?_;unfold dn at e;rcases nE e with⟨fl,σ₁,e1,e2⟩|⟨e1,rfl⟩
 ·cases fl with
  |nxt loc'=>exact h A ag Ls ad σ s _ E _ _ hE C S Lc e1 λh' tk ad' S' p L'=>hr loc' A ag Ls ad' σ₁ _ Q E r σ' hE C S' L' e2 (P.after p)
  |brk loc'=>
   have P:=P.of_ret e2;exact h A ag Ls ad σ s _ E _ _ hE C S Lc e1 P
  |ret v=>
   have P:=P.of_ret e2;exact h A ag Ls ad σ s _ E _ _ hE C S Lc e1 P
 ·exact h A ag Ls ad σ s _ E _ _ hE C S Lc e1 P
theorem oy{st:Stmt}{m:M Fl}(h:jB G n f aa st m):ow G n f aa [st] m:=by
 intro A ag Ls ad σ s Q E r σ' hE C S Lc e P;refine nU (h A ag Ls ad σ s _ E r σ' hE C S Lc e ?_);cases r with
 |ok fl=>
  cases fl with
  |nxt loc'=>exactλh' tk ad' S' p L'=>wpAny_execs_nil (P h' tk ad' S' p L')
  |brk loc'=>exact P
  |ret v=>exact P
 |exc=>exact P
noncomputable def rG(aa:Lo)(i:Nat)(v:PV):Lo:=aa.set i (some v)
theorem gt{x:Str}{xp:Pos}(hx:f.names[i]? =some x)(hs:swapsWith e (some (.Name x xp)) pos.line f.env=pure false)(he:dR G n f aa e m):
  jB G n f aa (.Assign [.Name x xp] e pos) (bnd m λv=>ret (.nxt (rG aa i v))):=by
 intro A ag Ls ad σ s Q E r σ' hE C S Lc er P;refine wpAny_Assign_Name (he.thnS C S Lc er P λv V h₁ tk₁ ak σ₁ ai ax rv am aj al=> ?_) hs;have al:=al.of_ret aj;exact qN hx C ai am rv λh' S' p' L'=>al h' _ ak S' p' L'
theorem nX{t:cP}{o:List Stmt}{mt:M Bool}{mb mo:M Fl}(ht:uM G n f aa t mt)(hb:ow G n f aa b mb)(ho:ow G n f aa o mo):jB G n f aa (.If t b o pos) (bnd mt λc=>match c with|true=>mb|false=>mo):=by
 intro A ag Ls ad σ s Q E r σ' hE C S Lc er P;refine wpAny_If (ht.thnS C S Lc er P λc c' h₁ tk₁ ak σ₁ ai ax rv am aj al=> ?_);subst rv;cases c
 ·exact ho A ag Ls ak σ₁ _ Q E r σ' hE C ai am aj al
 ·exact hb A ag Ls ak σ₁ _ Q E r σ' hE C ai am aj al
theorem uO(he:dR G n f aa e m):jB G n f aa (.Return (some e) pos) (bnd m λv=>ret (.ret v)):=by intro A ag Ls ad σ s Q E r σ' hE C S Lc er P;have hLF:f.L ∉ Ls:=(gE.mp S.fnd).1;refine wpAny_Return_some (he.thnS C S Lc er P λv V h₁ tk₁ ak σ₁ ai ax rv am aj al=> ?_);have al:=al.of_ret aj;exact al V h₁ tk₁ ak ai (kK.refl ..) rv
theorem PA:jB G n f aa (.Return none pos) (ret (.ret (.d .none))):=by intro A ag Ls ad σ s Q E r σ' hE C S Lc er P;have P:=P.of_ret er;exact wpAny_Return_none (P .none s.heap s.toks ad S (kK.refl ..) Rd.none)
theorem Ms:jB G n f aa (.Break pos) (ret (.brk aa)):=by intro A ag Ls ad σ s Q E r σ' hE C S Lc er P;have P:=P.of_ret er;show wpAny _ _ (do standAt pos;pure Flow.brk) _ _ _;exact cQ (iN (dc (P s.heap s.toks ad S (kK.refl ..) Lc)))
theorem CM(he:dR G n f aa e m)(hi:interactive f.env=false)(hs:swapsWith e none pos.line f.env=pure false):jB G n f aa (.Expr e pos) (bnd m λ_=>ret (.nxt aa)):=by intro A ag Ls ad σ s Q E r σ' hE C S Lc er P;refine wpAny_Expr_any (he.thnS C S Lc er P λv V h₁ tk₁ ak σ₁ ai ax rv am aj al=> ?_) hi hs;have al:=al.of_ret aj;exact al.now ai am tk₁
def PB(op:Operator)(x y:D):Option D:=match op with
 | .Add=>Kj x y
 | .Sub=>yK (λa b=>some (.int (a -b))) x y
 | .FloorDiv=>yK (λa b=>if 0<b/\b<1000000 then some (.int (a.fdiv b))else none) x y
 |_=>none
theorem Jb{op:Operator}{a b c:D}{V W:Value}(e:PB op a b=some c)(ra:Rd s.heap V a)(rb:Rd s.heap W b)
  (h:∀X tk,Rd s.heap X c->Q X { s with heap:=s.heap,toks:=tk }):wpAny (model G.prog G.w) A (inplaceOp op V W) Q E s:=by
 cases op with
 |Add=>
  rcases EL e with e|e
  ·refine ii_on e ra rb λi j t u e=> ?_;replace e:=si e;subst e;exact PyProof.Rows.iadd_int (h _ _ (.int ..))
  ·refine ss_on e ra rb λx y t u e=> ?_;exact oA (I6 e) λe1 e2=>SB.iadd (λt' tk=>h _ tk (e2 _)) e1
 |Sub=>
  refine ii_on e ra rb λi j t u e=> ?_;replace e:=si e;subst e;exact PyProof.Rows.isub_int (h _ _ (.int ..))
 |FloorDiv=>
  refine ii_on e ra rb λi j t u e=> ?_;refine oA (I5 e) λhlt e=> ?_;subst e;refine PyProof.Rows.ifloordiv_int (VC hlt) (h _ _ (.int ..)) ?_;exact Or.inl (PyProof.noPylong_small (VB hlt))
 |_=>exact eC e
def uP(op:Operator):PV->PV->Option PV
 | .d a,.d b=>(PB op a b).map .d
 |_,_=>none
theorem vF{o:Option α}{f:α->M β}{r:R β}(e:bnd (lift o) f σ=some (r,σ')):∃a,o=some a/\f a σ=some (r,σ'):=by
 cases o with
 |none=>exact eC e
 |some a=>exact⟨a,rfl,e⟩
theorem Mt{x:Str}{xp:Pos}{op:Operator}(hx:f.names[i]? =some x)(he:dR G n f aa e m):
  jB G n f aa (.AugAssign (.Name x xp) op e pos) (bnd (lift (aa[i]?).join) λold=>bnd m λv=>bnd (lift (uP op old v)) λw=>ret (.nxt (rG aa i w))):=by
 intro A ag Ls ad σ s Q E r σ' hE C S Lc er P;refine wpAny_AugAssign_Name ?_;refine eN (vF er) λold e3 e2=> ?_;refine eN Lc λmm hn hv=> ?_;clear Lc
 have e5:aa[i]? =some (some old):=by
  cases q:aa[i]? with
  |none=>rw[q]at e3;exact eC e3
  |some y=>rw[q]at e3;exact dN some e3
 refine eN (hv i x old hx e5) λV hV rV=> ?_;refine wpAny_loadName_local C.hk (C.aa x (gu hx)) hn hV ?_;refine he.thnS C S ⟨mm,hn,hv⟩ e2 P λv W h₁ tk₁ ak aG ai ax rw am aj al=> ?_;have bP:=rV.stepE S ax;refine eN (vF aj) λw e8 e7=> ?_;refine oA (ky e7) λez1 ez2=> ?_;subst ez1;subst ez2;unfold uP at e8;split at e8
 ·refine eN (fe.mp e8) λc e9 e10=> ?_;subst e10;exact Jb e9 bP rw λX tk rX=>qN (v:= .d c) hx C ai am rX λh' S' p' L'=>al h' _ ak S' p' L'
 ·exact eC e8
end
section
variable{f:Fm}{aa:List (Option PV)}
noncomputable def fw(mt:Lo->M Bool)(mb mo:Lo->M Fl):Nat->Lo->M Fl
 | 0,_=>cU
 |k+1,aa=>bnd (mt aa) λc=>match c with
  |false=>mo aa
  |true=>bnd (mb aa) λfl=>match fl with
   | .nxt loc'=>fw mt mb mo k loc'
   | .brk loc'=>ret (.nxt loc')
   | .ret v=>ret (.ret v)
theorem Hi{t:cP}{o:List Stmt}(ht:∀aa,uM G n f aa t (mt aa))(hb:∀aa,ow G n f aa b (mb aa))(ho:∀aa,ow G n f aa o (mo aa)):
  ∀(k:Nat)(aa:Lo)(A:Around)(ag:List Env)(Ls ad:List Addr)(σ:List MO)(s:Shared)(Q:Flow->Shared->Prop)(E:Value->Shared->Prop)(r:R Fl)(σ':List MO),
  PassesOwn (model G.prog G.w) A f.env E->wI G A n f ag Ls->St G (f.L::Ls) ad σ s.heap->uo G s.heap ad f aa->fw mt mb mo k aa σ=some (r,σ')->pf G f Ls ad s r σ' Q E->
  WhlRest G.prog G.w A E f.env t b o Q k s:=by
 intro k
 induction k with
 |zero=>exactλ_ _ _ _ _ _ _ _ _ _ _ _ _ _ _ e _=>eC e
 |succ k ih=>
  intro aa A ag Ls ad σ s Q E r σ' hE C S Lc e P;refine whl_turn hE ((ht aa).thnS C S Lc e P λc c' h₁ tk₁ ak σ₁ ai ax rv am aj al=> ?_);subst rv;cases c with
  |false=>exact .no rfl (ho aa A ag Ls ak σ₁ _ Q E r σ' hE C ai am aj al)
  |true=>
   refine .yes rfl ?_;rcases nE aj with⟨fl,aG,e2,e3⟩|⟨e2,rfl⟩
   ·refine hb aa A ag Ls ak σ₁ _ _ E (.ok fl) aG hE C ai am e2 ?_;cases fl with
    |nxt loc'=>exactλh' tk ad' S' p' L'=>ih loc' A ag Ls ad' aG _ Q E r σ' hE C S' L' e3 (al.after p')
    |brk loc'=>
     refine oA (ky e3) λez1 ez2=> ?_;subst ez1;subst ez2;exact al
    |ret v=>
     refine oA (ky e3) λez1 ez2=> ?_;subst ez1;subst ez2;exact al
   ·exact hb aa A ag Ls ak σ₁ _ _ E .exc σ' hE C ai am e2 al
theorem vG{t:cP}{o:List Stmt}(k:Nat)(ht:∀aa,uM G n f aa t (mt aa))(hb:∀aa,ow G n f aa b (mb aa))(ho:∀aa,ow G n f aa o (mo aa)):
  jB G n f aa (.While t b o pos) (fw mt mb mo k aa):=
 λA ag Ls ad σ s Q E r σ' hE C S Lc e P=>whl_start k (Hi ht hb ho k aa A ag Ls ad σ s Q E r σ' hE C S Lc e P)
def yQ(G:Gl)(n:Nat)(f:Fm)(tgt:cP)(asg:Lo->PV->Option Lo):Prop:=
 ∀(A:Around)(ag:List Env)(Ls ad:List Addr)(σ:List MO)(s:Shared)(Q:Unit->Shared->Prop)(E:Value->Shared->Prop)(aa loc':Lo)(v:PV)(V:Value),
  wI G A n f ag Ls->St G (f.L::Ls) ad σ s.heap->uo G s.heap ad f aa->eW G s.heap ad v V->asg aa v=some loc'->
  (∀h' tk,St G (f.L::Ls) ad σ h'->iG f.L Ls ad ad s.heap h'->uo G h' ad f loc'->Q () { s with heap:=h',toks:=tk })->
  wpAny (model G.prog G.w) A (assign tgt f.env V) Q E s
def qO(i:Nat):Lo->PV->Option Lo:=λaa v=>some (rG aa i v)
theorem sY{x:Str}{xp:Pos}(hx:f.names[i]? =some x):yQ G n f (.Name x xp) (qO i):=by intro A ag Ls ad σ s Q E aa loc' v V C S Lc rv e h;replace e:=si e;subst e;exact PySem.wpAny_assign_Name (qN hx C S Lc rv λh' S' p' L'=>h h' _ S' p' L')
noncomputable def rH(aa:Lo):List Nat->List D->Lo
 |i::is,v::vs=>rH (rG aa i (.d v)) is vs
 |_,_=>aa
noncomputable def yR(f:Fm):List (Str×Pos)->List Nat->Prop
 |[],[]=>True
 |p::ps,i::is=>f.names[i]? =some p.1/\yR f ps is
 |_,_=>False
noncomputable def EU(p:Str×Pos):cP:= .Name p.1 p.2
theorem Km(C:wI G A n f ag Ls):∀{ps:List (Str×Pos)}{is:List Nat}{xs:List D}{Vs:List Value}{aa:Lo}{s:Shared}{Q:Unit->Shared->Prop},
  yR f ps is->xs.length=is.length->St G (f.L::Ls) ad σ s.heap->uo G s.heap ad f aa->dD s.heap Vs xs->
  (∀h' tk,St G (f.L::Ls) ad σ h'->iG f.L Ls ad ad s.heap h'->uo G h' ad f (rH aa is xs)->Q () { s with heap:=h',toks:=tk })->
  wpAny (model G.prog G.w) A (assignInOrder (ps.map λp=>assign (EU p) f.env) Vs) Q E s:=by
 intro ps
 induction ps with
 |nil=>intro is xs Vs aa s Q hn hl S Lc rv h;cases is with
  |cons i is=>exact hn.elim
  |nil=>
   have q:xs=[]:=List.length_eq_zero_iff.mp hl;subst q;exact dc (h s.heap s.toks S (kK.refl ..) Lc)
 |cons p ps ih=>intro is xs Vs aa s Q hn hl S Lc rv h;cases is with
  |nil=>exact hn.elim
  |cons i is=>
   refine oA hn λh1 h2=> ?_;cases rv with
   |nil=>exact nomatch hl
   | @cons V Vs x xs r1 r2=>
     show wpAny _ _ (do holding Vs (assign (EU p) f.env V);assignInOrder (ps.map λp=>assign (EU p) f.env) Vs) _ _ _;refine cQ (kb (PySem.wpAny_assign_Name (qN (v:= .d x) h1 C S Lc r1 λh' S' p' L'=> ?_)))
     have r3:dD h' Vs xs:=by
      refine dD.keep (S.tupKeep (λa m=> ?_) p') r2;rcases dj.mp m with rfl|m
      ·exact .inr (.head _)
      ·exact .inl m
     exact ih (s:={ s with heap:=h',toks:=s.toks+1 }) h2 (Nat.succ.inj hl) S' L' r3 λh'' tk S'' p'' L''=>h h'' tk S'' (p'.trans p'') L''
theorem yx{env:Env}:∀ps:List (Str×Pos),assignEach (ps.map EU) env=ps.map λp=>(false,assign (EU p) env)
 |[]=>rfl
 |p::ps=>by show(false,assign (EU p) env)::assignEach (ps.map EU) env=_;rw[yx ps];rfl
def AG(is:List Nat):Lo->PV->Option Lo:=λaa v=>match v with
 | .d (.tup xs)=>if xs.length=is.length then some (rH aa is xs)else none
 |_=>none
theorem yR.len:∀{ps:List (Str×Pos)}{is:List Nat},yR f ps is->ps.length=is.length
 |[],[],_=>rfl
 |_::_,_::_,⟨_,h⟩=>dN (· +1) (yR.len h)
 |[],_::_,x=>x.elim
 |_::_,[],x=>x.elim
theorem BJ{ps:List (Str×Pos)}{is:List Nat}{k:Nat}{tp:Pos}(hn:yR f ps is):yQ G n f (.Tuple (ps.map EU) k tp) (AG is):=by
 intro A ag Ls ad σ s Q E aa loc' v V C S Lc rv e h;unfold AG at e
 symm at e
 ·rename_i xs
  symm at e
  ·rename_i hl;replace e:=si e;subst e;refine Rd.tup_on rv λa items ht hr=> ?_;have hlen:=hr.length;rw[kG]at hlen;refine PyProof.Rows.assign_Tuple_tuple C.hh ht ?_ ?_ λh' hx=> ?_
   ·rw[yx,f6,hn.len,hlen,hl]
   ·rw[yx];rw[List.findIdx?_eq_none_iff];intro x hx;refine eN (List.mem_map.mp hx) λp _ ez1=> ?_;subst ez1;rfl
   ·rw[yx,List.map_map];have kk:∀b o,s.heap.get? b=some o->h'.get? b=some o:=λb o e=>hx b o (Nat.ne_of_lt (kH e)) e;have aP:dE (f.L::Ls) ad ad s.heap h':=dE.of_keep kk;have hLF:f.L ∉ Ls:=(gE.mp S.fnd).1;exact Km (s:={ s with heap:=h' }) C hn hl (S.of_keep kk) (Lc.step S aP) (dD.keep (S.tupKeep (λa m=> .inl m) aP) hr) λh'' tk S'' p'' L''=>h h'' tk S'' ((aP.toS hLF).trans p'') L''
  ·exact eC e
 ·exact eC e
theorem Kn{ps:List (Str×Pos)}{is:List Nat}{k:Nat}{tp:Pos}(hn:yR f ps is)(hs:swapsWithSole [.Tuple (ps.map EU) k tp] e pos.line f.env=pure false)(hw:swappedStores [.Tuple (ps.map EU) k tp] e f.env=pure none)(he:dR G n f aa e m):
  jB G n f aa (.Assign [.Tuple (ps.map EU) k tp] e pos) (bnd m λv=>bnd (lift (AG is aa v)) λloc'=>ret (.nxt loc')):=by
 intro A ag Ls ad σ s Q E r σ' hE C S Lc er P;refine PyProof.Rows.Assign_Tuple (he.thnS C S Lc er P λv V h₁ tk₁ ak σ₁ ai ax rv am aj al=> ?_) hs hw;refine eN (vF aj) λw e8 e7=> ?_;refine oA (ky e7) λez1 ez2=> ?_;subst ez1;subst ez2;exact BJ hn A ag Ls ak _ _ _ _ aa w v V C ai am rv e8 λh' tk S' p' L'=>al h' tk ak S' p' L'
theorem Jc{ps:List (Str×Pos)}{is:List Nat}{k:Nat}{tp:Pos}(hn:yR f ps.reverse is.reverse)(hnl:ps.length=is.length)(hs:swapsWithSole [.Tuple (ps.map EU) k tp] e pos.line f.env=pure false)(hw:swappedStores [.Tuple (ps.map EU) k tp] e f.env=pure (some (ps.map (·.1))))(he:dR G n f aa e m):
  jB G n f aa (.Assign [.Tuple (ps.map EU) k tp] e pos) (bnd m λv=>match v with| .d (.tup xs)=>if xs.length=is.length then ret (.nxt (rH aa is.reverse xs.reverse))else cU|_=>cU):=by
 intro A ag Ls ad σ s Q E r σ' hE C S Lc er P;refine PyProof.Rows.Assign_Tuple_swapped (names:=ps.map (·.1)) (he.thnS C S Lc er P λv V h₁ tk₁ ak σ₁ ai ax rv am aj al=> ?_) hs hw
 symm at aj
 ·rename_i xs
  symm at aj
  ·rename_i hl;refine oA (ky aj) λez1 ez2=> ?_;subst ez1;subst ez2;refine Rd.tup_on rv λa items ht hr=> ?_;have hlen:=hr.length;rw[kG]at hlen;have hsz:(ps.map (·.1)).length=items.size:=by rw[f6,hnl,hlen,hl]
   rw[hsz];refine PyProof.Rows.unpackItems_tuple C.hh ht λh' hx=> ?_;have kk:∀b o,h₁.get? b=some o->h'.get? b=some o:=λb o e=>hx b o (Nat.ne_of_lt (kH e)) e;have aP:dE (f.L::Ls) ak ak h₁ h':=dE.of_keep kk;have hLF:f.L ∉ Ls:=(gE.mp S.fnd).1;have hr':=(dD.keep (ai.tupKeep (λa m=> .inl m) aP) hr).reverse
   have go:∀{qs:List (Str×Pos)}{js:List Nat}{ys:List D}{Vs:List Value}{aa:Lo}{s:Shared}{Q:Unit->Shared->Prop},
     yR f qs js->ys.length=js.length->St G (f.L::Ls) ak σ' s.heap->uo G s.heap ak f aa->dD s.heap Vs ys->
     (∀h' tk,St G (f.L::Ls) ak σ' h'->iG f.L Ls ak ak s.heap h'->uo G h' ak f (rH aa js ys)->Q () { s with heap:=h',toks:=tk })->
     wpAny (model G.prog G.w) A (assignInOrder (qs.map λp=>bindName f.env p.1) Vs) Q E s:=by
    intro qs
    induction qs with
    |nil=>
     intro js ys Vs aa s Q h1 h2 h3 h4 h5 h6;cases js with
     |nil=>
      have:ys=[]:=List.length_eq_zero_iff.mp h2;subst this;exact dc (h6 s.heap s.toks h3 (kK.refl ..) h4)
     |cons _ _=>exact h1.elim
    |cons q qs ih=>
     intro js ys Vs aa s Q h1 h2 h3 h4 h5 h6;cases js with
     |nil=>exact h1.elim
     |cons j js=>
      cases h5 with
      |nil=>simp at h2
      | @cons V Vs y ys r1 r2=>
       show wpAny _ _ (do holding Vs (bindName f.env q.1 V);assignInOrder (qs.map λp=>bindName f.env p.1) Vs) _ _ _;refine cQ (kb (wpAny_bindName (qN (v:= .d y) h1.1 C h3 h4 r1 λh' S' p' L'=> ?_)))
       have r3:dD h' Vs ys:=by
        refine dD.keep (h3.tupKeep (λa m=> ?_) p') r2;rcases dj.mp m with rfl|m
        ·exact .inr (.head _)
        ·exact .inl m
       exact ih (s:={ s with heap:=h',toks:=s.toks+1 }) h1.2 (by simpa using h2) S' L' r3 λh'' tk S'' p'' L''=>h6 h'' tk S'' (p'.trans p'') L''
   rw[<-List.map_reverse,List.map_map];exact go (s:={ s with heap:=h',toks:=tk₁ }) hn (by simpa using hl) (ai.of_keep kk) (am.step ai aP) hr' λh'' tk S'' p'' L''=>al h'' tk ak S'' ((aP.toS hLF).trans p'') L''
  ·exact eC aj
 ·exact eC aj
end
section
variable{f:Fm}{aa:List (Option PV)}
section
variable{prog:Program}{w:World}{env:Env}{target:cP}{it:Value}{orelse:List Stmt}{Q:Flow->Shared->Prop}
def yy(prog:Program)(w:World)(A:Around)(E:Value->Shared->Prop)(env:Env)(target:cP)(it:Value)(body orelse:List Stmt)(Q:Flow->Shared->Prop)(s:Shared):Prop:=
 codeAny (model prog w) A (.forLoop target it body orelse env) (λr s'=>match r with| .ok f=>Q f s'| .error e=>cameBackBy (model prog w) A env E e s') s
theorem Mu(hE:PassesOwn (model prog w) A env E)
  (h:wpAny (model prog w) A (pyNext it) (λr aJ=>match r with
   |none=>wpAny (model prog w) A (execs orelse env) Q E aJ
   |some v=>wpAny (model prog w) A (letOwnedTupleGo target it v) (λ_ aO=>wpAny (model prog w) A (assign target env v) (λ_ aT=>wpAny (model prog w) A (execs body env) (λfl aY=>match fl with
     | .next| .cont=>yy prog w A E env target it body orelse Q aY
     | .brk=>Q .next aY
     | .ret v=>Q (.ret v) aY) E aT) E aO) E aJ) E s):
  yy prog w A E env target it body orelse Q s:=by
 refine codeAny_of_tree ?_;show wpAny _ _ ((forTurn target it body orelse env).onRaise (λx=>do noteFrame x env;theTreesLotGoes x)) _ _ s;refine wpAny_noted ?_;simp only[forTurn];refine cQ (iN (cQ (wpAny_onRaise (wpAny_mono h (λr aJ h₁=> ?_) λe s' h'=>iN (hE e s' h')))));cases r with
 |none=>exact dc ⟨rfl,codeAny_block (wpAny_mono h₁ (λfl s' h'=>h') hE)⟩
 |some v=>
  refine cQ (wpAny_mono h₁ (λ_ aO ar=> ?_) hE);refine cQ (wpAny_mono ar (λ_ aT au=> ?_) hE);refine cQ (wpAny_mono au (λfl aY aN=> ?_) hE);cases fl with
  |next=>exact dc ⟨rfl,aN⟩
  |cont=>exact dc ⟨rfl,aN⟩
  |brk=>exact dc aN
  |ret v=>exact dc aN
end
theorem kK.priv(p:kK X F ad ad' h h₁)(hn:h.get? a=none)(k:∀b o,b≠a->h₁.get? b=some o->h'.get? b=some o):kK X F ad ad' h h':=by
 have ne:∀b o,h.get? b=some o->b≠a:=λb o e z=>by rw[z,hn]at e;exact eC e
 refine⟨p.pre,⟨λb o e h1 h2=>k b o (ne b o e) (p.pres.keep b o e h1 h2),λb o e h1 h2=> ?_⟩,p.new,λb e=> ?_⟩
 ·refine oE (p.pres.slots b o e h1 h2) λsl e'=> ?_;exact⟨sl,k b _ (ne b o e) e'⟩
 ·by_cases z:b=a
  ·rw[z];exact hn
  ·refine p.ex b ?_;cases q:h₁.get? b with
   |none=>rfl
   |some o=>rw[k b o z q]at e;exact yr e
structure Mv(G:Gl)(n:Nat)(f:Fm)(nx:Nat->List MO->Option (Option PV))(it:Addr)(I:Nat->Heap->List Addr->Prop):Prop where
 cls:∀i h ad,I i h ad->∃o c,h.get? it=some o/\o.cls= .type c/\["tuple_iterator","list_iterator","range_iterator"].contains c
 keep:∀i h h' ad ad',I i h ad->(∀o,h.get? it=some o->h'.get? it=some o)->(∀v V,eW G h ad v V->eW G h' ad' v V)->I i h' ad'
 next:∀(A:Around)(ag:List Env)(Ls ad:List Addr)(σ:List MO)(s:Shared)(Q:Option Value->Shared->Prop)(E:Value->Shared->Prop)(i:Nat)(o:Option PV),wI G A n f ag Ls->St G (f.L::Ls) ad σ s.heap->me G (f.L::Ls) ad s.heap it->I i s.heap ad->nx i σ=some o->
  (match o with
   |none=>∀h',(∀b o,b≠it->s.heap.get? b=some o->h'.get? b=some o)->Q none { s with heap:=h' }
   |some v=>∀V h' tk,(∀b o,b≠it->s.heap.get? b=some o->h'.get? b=some o)->I (i+1) h' ad->eW G h' ad v V->Q (some V) { s with heap:=h',toks:=tk })->
  wpAny (model G.prog G.w) A (pyNext (.ref it)) Q E s
noncomputable def kM(nx:Nat->List MO->Option (Option PV))(asg:Lo->PV->Option Lo)(mb:Lo->M Fl):Nat->Nat->Lo->M Fl
 | 0,_,_=>cU
 |k+1,i,aa=>λσ=>match nx i σ with
  |none=>none
  |some none=>ret (.nxt aa) σ
  |some (some v)=>match asg aa v with
   |none=>none
   |some loc'=>bnd (mb loc') (λfl=>match fl with
    | .nxt l=>kM nx asg mb k (i+1) l
    | .brk l=>ret (.nxt l)
    | .ret v=>ret (.ret v)) σ
theorem Wz{tgt:cP}{it:Addr}{v:Value}{o:Obj}{c:String}{M:Model}{Q:Unit->Shared->Prop}(ho:s.heap.get? it=some o)(hc:o.cls= .type c)(hn:["tuple_iterator","list_iterator","range_iterator"].contains c)
  (h:Q () s):wpAny M A (letOwnedTupleGo tgt (.ref it) v) Q E s:=by
 unfold letOwnedTupleGo
 have hn':["enumerate","zip","dict_itemiterator","dict_reverseitemiterator","odict_iterator","itertools.zip_longest","itertools.pairwise"].contains c=false:=by simp at hn;rcases hn with rfl|rfl|rfl<;>rfl
 obtain⟨cl,dct,dat,sl⟩:=o;simp only at hc;subst hc;cases tgt<;>first|exact dc h|skip
 all_goals
  cases v<;>first|exact dc h|skip
 all_goals
  refine cQ (wpAny_load ho ?_);cases dat<;>first|exact dc h|skip
  simp only[hn',Bool.false_and,jf,if_false];exact dc h
theorem me.stay{it:Addr}(pr:me G (L::Ls) ad h it)(p:iG L Ls ad ad' h h'):∀o,h.get? it=some o->h'.get? it=some o:=λo e=>by
 refine p.pres.keep it o e (λm=> ?_) (λm=>pr.F (.tail _ m));rcases dj.mp m with z|m
 ·exact pr.F (z▸.head _)
 ·exact pr.ad m
theorem me.stepS{it:Addr}(pr:me G (L::Ls) ad h it)(ex:∃o,h.get? it=some o)(p:iG L Ls ad ad' h h'):me G (L::Ls) ad' h' it:=by
 refine oE ex λo e=> ?_;clear ex;refine⟨λm=> ?_,pr.F,pr.le,λo' e'=> ?_⟩
 ·rcases p.new it m with m|m
  ·exact pr.ad m
  ·rw[e]at m;exact yr m
 ·rw[pr.stay p o e]at e';replace e':=si e';subst e';exact pr.cls o e
theorem Mw{tgt:cP}{it:Addr}{I:Nat->Heap->List Addr->Prop}(ha:yQ G n f tgt asg)(hb:∀aa,ow G n f aa b (mb aa))(hi:Mv G n f nx it I):
  ∀(k i:Nat)(aa:Lo)(A:Around)(ag:List Env)(Ls aL ad:List Addr)(σ:List MO)(aU s:Shared)(Q:Flow->Shared->Prop)(E:Value->Shared->Prop)(r:R Fl)(σ':List MO),
  PassesOwn (model G.prog G.w) A f.env E->wI G A n f ag Ls->St G (f.L::Ls) ad σ s.heap->uo G s.heap ad f aa->kM nx asg mb k i aa σ=some (r,σ')->pf G f Ls aL aU r σ' Q E->(∃h₁ tk₁,s={ aU with heap:=h₁,toks:=tk₁ })->
  iG f.L Ls aL ad aU.heap s.heap->aU.heap.get? it=none->me G (f.L::Ls) ad s.heap it->I i s.heap ad->
  yy G.prog G.w A E f.env tgt (.ref it) b [] Q s:=by
 intro k
 induction k with
 |zero=>exactλ_ _ _ _ _ _ _ _ _ _ _ _ _ _ _ _ _ _ e _ _ _ _ _ _=>eC e
 |succ k ih=>
  intro i aa A ag Ls aL ad σ aU s Q E r σ' hE C S Lc e P hx20 p hn pr hI;obtain⟨h₁,tk₁,hs⟩:=hx20;subst hs;refine Mu hE ?_;have hLF:f.L ∉ Ls:=(gE.mp S.fnd).1;unfold kM at e
  symm at e
  ·exact eC e
  ·rename_i q;refine hi.next A ag Ls ad σ _ _ E i none C S pr hI q λh' kk=> ?_;have P:=P.of_ret e;have S':=S.priv pr kk;have im:=pr.im kk;refine wpAny_execs_nil (P h' _ ad S' (p.priv hn kk) ?_);refine eN Lc λm hm hv=> ?_;clear Lc;refine o8 hm λo es ep e1 e2=> ?_;clear hm
   exact⟨m,⟨o,es,ep,kk _ _ (λz=>pr.F (z▸.head _)) e1,e2⟩,λi x v h1 h2=>by refine eN (hv i x v h1 h2) λV e3 e4=> ?_;exact⟨V,e3,e4.im im (hO _)⟩⟩
  ·rename_i v q
   symm at e
   ·exact eC e
   ·rename_i loc' qa;refine hi.next A ag Ls ad σ _ _ E i (some v) C S pr hI q λV h' tk kk hI' rv=> ?_;have S':=S.priv pr kk;have im:=pr.im kk
    have Lc':uo G h' ad f aa:=by
     refine eN Lc λm hm hv=> ?_;clear Lc;refine o8 hm λo es ep e1 e2=> ?_;clear hm
     exact⟨m,⟨o,es,ep,kk _ _ (λz=>pr.F (z▸.head _)) e1,e2⟩,λi x v h1 h2=>by refine eN (hv i x v h1 h2) λV e3 e4=> ?_;exact⟨V,e3,e4.im im (hO _)⟩⟩
    refine iJ (hi.cls _ _ _ hI') λo c ho hc hcl=> ?_
    have pr':me G (f.L::Ls) ad h' it:=⟨pr.ad,pr.F,pr.le,λo' e'=>by rw[ho]at e';replace e':=si e';subst e';refine rD ?_;rw[hc];refine⟨λz=> ?_,λC z=>by cases z⟩;cases z;exact absurd hcl (by decide)⟩
    refine Wz (o:=o) (c:=c) ho hc hcl ?_;refine ha A ag Ls ad σ _ _ E aa loc' v V C S' Lc' rv qa λh'' tk'' S'' p'' L''=> ?_;have q2:iG f.L Ls aL ad aU.heap h'':=iG.trans (p.priv hn kk) p'';have hI'':I (i+1) h'' ad:=hi.keep _ _ _ _ _ hI' (pr'.stay p'') λv V r=>r.stepS S' p'';have pr'':=pr'.stepS ⟨o,ho⟩ p'';rcases nE e with⟨fl,aG,e2,e3⟩|⟨e2,rfl⟩
    ·refine hb loc' A ag Ls ad σ _ _ E (.ok fl) aG hE C S'' L'' e2 ?_;cases fl with
     |nxt l=>
      intro au aH aI ay aC bx;refine mZ (hi.cls _ _ _ hI'') λo2 c2 ho2 _=> ?_;exact ih (i+1) l A ag Ls aL aI aG aU _ Q E r σ' hE C ay bx e3 P ⟨_,_,rfl⟩ (q2.trans aC) hn (pr''.stepS ⟨o2,ho2⟩ aC) (hi.keep _ _ _ _ _ hI'' (pr''.stay aC) λv V r=>r.stepS S'' aC)
     |brk l=>
      have P:=P.of_ret e3
      exactλau aH aI ay aC bx=>P au aH aI ay (q2.trans aC) bx
     |ret v=>
      have P:=P.of_ret e3
      exactλV au aH aI ay aC b7=>P V au aH aI ay (q2.trans aC) b7
    ·exact hb loc' A ag Ls ad σ _ _ E .exc σ' hE C S'' L'' e2 λx au aH aI ay aC fl=>P x au aH aI ay (q2.trans aC) (fl.back q2.ex)
end
section
variable{f:Fm}{aa:List (Option PV)}
noncomputable def Sk(xs:List D)(i:Nat)(_:List MO):Option (Option PV):=some ((xs[i]?).map .d)
theorem Tu{it t:Addr}:Mv G n f (Sk xs) it (λi h _=>PyProof.Rows.IsTupIter h it t i/\eW G h [] (.d (.tup xs)) (.ref t)) where
 cls:=λi h ad⟨⟨o,h1,h2,h3⟩,_⟩=>⟨o,_,h1,h2,by decide⟩
 keep:=λi h h' ad ad'⟨⟨o,h1,h2,h3⟩,r⟩ k kV=>⟨⟨o,k o h1,h2,h3⟩,kV (.d (.tup xs)) _ r⟩
 next:=by
  intro A ag Ls ad σ s Q E i o C S pr ⟨hit,r⟩ e h;refine iJ (Rd.tup_inv r) λa items e1 ht hr=> ?_;cases e1;replace e:=si e;subst e;cases q:xs[i]? with
  |none=>
   rw[q]at h
   have:items[i]? =none:=by have hl:=hr.length;rw[kG]at hl;rw[Array.getElem?_eq_none_iff,hl];exact List.getElem?_eq_none_iff.mp q
   exact PyProof.Rows.next_tuple_end C.hh hit ht this λh' hx=>h h' λb o hb e=>hx b o hb e
  |some x=>
   rw[q]at h;refine eN (qL hr q) λV e2 rV=> ?_;refine PyProof.Rows.next_tuple_item hit ht e2 λh' hi hs=> ?_;have kk:∀b o,b≠it->s.heap.get? b=some o->h'.get? b=some o:=λb o hb e=>(hs.2 b hb).trans e;have im:=pr.im kk;exact h V h' _ kk ⟨hi,Rd.keep im.tup r⟩ (Rd.keep im.tup rV)
def uQ(v:PV)(i:Nat)(σ:List MO):Option (Option PV):=(dW σ v).map λxs=>(xs[i]?).map .d
theorem yS{it l:Addr}{v:PV}:Mv G n f (uQ v) it (λi h ad=>h.IsListIter it l i/\eW G h ad v (.ref l)) where
 cls:=λi h ad⟨⟨o,h1,h2,h3⟩,_⟩=>⟨o,_,h1,h2,by decide⟩
 keep:=λi h h' ad ad'⟨⟨o,h1,h2,h3⟩,r⟩ k kV=>⟨⟨o,k o h1,h2,h3⟩,kV v _ r⟩
 next:=by
  intro A ag Ls ad σ s Q E i o C S pr ⟨hit,r⟩ e h;refine eN (fe.mp e) λxs e0 e1=> ?_;subst e1;refine iJ (S.isL r e0) λa items e1 ht hr=> ?_;cases e1;cases q:xs[i]? with
  |none=>
   rw[q]at h
   have:items[i]? =none:=by have hl:=hr.length;rw[kG]at hl;rw[Array.getElem?_eq_none_iff,hl];exact List.getElem?_eq_none_iff.mp q
   exact wpAny_pyNext_list_end C.hh hit ht this λh' hx=>h h' λb o hb e=>hx b o hb e
  |some x=>
   rw[q]at h;refine eN (qL hr q) λV e2 rV=> ?_;refine wpAny_pyNext_list_item hit ht e2 λh' hi hs=> ?_;have kk:∀b o,b≠it->s.heap.get? b=some o->h'.get? b=some o:=λb o hb e=>(hs.2 b hb).trans e;have im:=pr.im kk;exact h V h' _ kk ⟨hi,r.im im (hO _)⟩ (Rd.keep im.tup rV)
noncomputable def LI(N:Int)(i:Nat)(_:List MO):Option (Option PV):=some (if(i:Int)<N then some (.d (.int i))else none)
theorem Tv{it:Addr}{N:Int}:Mv G n f (LI N) it (λi h _=>IsRangeIter h it i (max N 0 -i) 1) where
 cls:=λi h ad h1=>⟨_,_,h1,rfl,by decide⟩
 keep:=λi h h' ad ad' h1 k kV=>k _ h1
 next:=by
  intro A ag Ls ad σ s Q E i o C S pr hit e h;replace e:=si e;subst e;by_cases q:(i:Int)<N
  ·rw[cH q]at h;refine wpAny_pyNext_range_item hit ((pI:Qn [_] [_] (.S (.k 0) (.s (.ma (.v 0) (.k 0)) (.c A0))) [.S (.c A0) (.v 0)]) q) λh' hi hs=> ?_;have kk:∀b o,b≠it->s.heap.get? b=some o->h'.get? b=some o:=λb o hb e=>(hs.2 b hb).trans e;refine h _ h' _ kk ?_ (Rd.int ..);have e1:((i+1:Nat):Int)=(i:Int)+1:=VD;have e2:max N 0 - ((i+1:Nat):Int)=max N 0 -i -1:=(pI:Qn [_] [_] (.E (.s (.ma (.v 0) (.k 0)) (.c (.a A0 (.k 1)))) (.s (.s (.ma (.v 0) (.k 0)) (.c A0)) (.k 1))) []);show IsRangeIter h' it ((i+1:Nat):Int) (max N 0 - ((i+1:Nat):Int)) 1;rw[e2,e1];exact hi
  ·rw[cJ q]at h;exact wpAny_pyNext_range_end C.hh hit ((pI:Qn [_] [_] (.L (.s (.ma (.v 0) (.k 0)) (.c A0)) (.k 0)) [.n (.S (.c A0) (.v 0))]) q) λh' hx=>h h' λb o hb e=>hx b o hb e
def BK(k:Nat)(asg:Lo->PV->Option Lo)(mb:Lo->M Fl)(aa:Lo)(v:PV):M Fl:=match v with
 | .d (.tup xs)=>kM (Sk xs) asg mb k 0 aa
 | .d _=>cU
 | .inst _=>cU
 | .cd _=>cU
 |v=>kM (uQ v) asg mb k 0 aa
theorem wU{tgt:cP}{I:Addr->Nat->Heap->List Addr->Prop}(ha:yQ G n f tgt asg)(hb:∀aa,ow G n f aa b (mb aa))(hi:∀it,Mv G n f nx it (I it))
  {k:Nat}{Q:Flow->Shared->Prop}{r:R Fl}
  (hE:PassesOwn (model G.prog G.w) A f.env E)(C:wI G A n f ag Ls)(S:St G (f.L::Ls) ad σ s.heap)(Lc:uo G s.heap ad f aa)(e:kM nx asg mb k 0 aa σ=some (r,σ'))(P:pf G f Ls ad s r σ' Q E){o:Obj}{c:String}{vs:Array Value}(ho:o={ cls:= .type c,data:= .fields vs })
  (hc:c≠"tuple")(h0:I s.heap.objs.size 0 (s.heap.push o) ad):
  yy G.prog G.w A E f.env tgt (.ref s.heap.objs.size) b [] Q { s with heap:=s.heap.push o }:=by
 have hfr:=fN s.heap;have kk:∀b x,s.heap.get? b=some x->(s.heap.push o).get? b=some x:=λb x e=>fc _ e;have hLF:f.L ∉ Ls:=(gE.mp S.fnd).1;have p:dE (f.L::Ls) ad ad s.heap (s.heap.push o):=dE.of_keep kk
 have pr:me G (f.L::Ls) ad (s.heap.push o) s.heap.objs.size:=by
  refine⟨λm=> ?_,λm=> ?_,S.size,λx e=> ?_⟩
  ·refine eN (S.adObj m) λx h1 _=> ?_;rw[hfr]at h1;exact eC h1
  ·refine vv (S.frs _ m) λ_ x h1 _=> ?_;rw[hfr]at h1;exact eC h1
  ·rw[ho,gP _ rfl]at e;replace e:=si e;subst e;exact rD ⟨λz=>hc (by injection z),λC z=>by cases z⟩
 exact Mw ha hb (hi _) k 0 aa A ag Ls ad ad σ s _ Q E r σ' hE C (S.of_keep kk) (Lc.step S p) e P ⟨_,_,rfl⟩ (p.toS hLF) hfr pr h0
theorem CO{tgt iter:cP}{mi:M PV}(k:Nat)(hf:∀x,foldedSetIterable iter f.env x=pure x)(ha:yQ G n f tgt asg)(hiter:dR G n f aa iter mi)(hb:∀aa,ow G n f aa b (mb aa)):
  jB G n f aa (.For tgt iter b [] pos) (bnd mi λv=>BK k asg mb aa v):=by
 intro A ag Ls ad σ s Q E r σ' hE C S Lc er P;refine wpAny_For (hiter.thnS C S Lc er P λv V h₁ tk₁ ak σ₁ ai ax rv am aj al=> ?_) hf
 have lst:∀{xs:List D},dW σ₁ v=some xs->kM (uQ v) asg mb k 0 aa σ₁=some (r,σ')->
   wpAny (model G.prog G.w) A (pyIter V) (λit aO=>codeAny (model G.prog G.w) A (.forLoop tgt it b [] f.env) (λr s'=>match r with| .ok f=>Q f s'| .error e=>cameBackBy (model G.prog G.w) A f.env E e s') aO) E { s with heap:=h₁,toks:=tk₁ }:=by
  intro xs hg ao;refine iJ (ai.isL rv hg) λa items ez1 ht hr=> ?_;subst ez1;refine wpAny_pyIter_list ht ?_;refine wU (s:={ s with heap:=h₁,toks:=tk₁ }) (I:=λit i h ad=>h.IsListIter it a i/\eW G h ad v (.ref a)) ha hb (λit=>yS) hE C ai am ao al rfl (by decide) ⟨⟨_,gP _ rfl,rfl,rfl⟩,rv.stepE ai (dE.of_keep (F:=f.L::Ls) λb x e=>fc _ e)⟩
 have lst':kM (uQ v) asg mb k 0 aa σ₁=some (r,σ')->∃xs,dW σ₁ v=some xs:=by
  intro e;cases k with
  |zero=>exact eC e
  |succ k=>
   unfold kM at e;cases q:dW σ₁ v with
   |none=>
    have:uQ v 0 σ₁=none:=by unfold uQ;rw[q];rfl
    rw[this]at e;exact eC e
   |some xs=>exact⟨xs,rfl⟩
 unfold BK at aj
 symm at aj
 ·rename_i xs;refine iJ (Rd.tup_inv rv) λa items ez1 ht hr=> ?_;subst ez1;refine PyProof.Rows.iter_tuple ht ?_;have rv':eW G h₁ [] (.d (.tup xs)) (.ref a):=rv;refine wU (s:={ s with heap:=h₁,toks:=tk₁ }) (I:=λit i h _=>PyProof.Rows.IsTupIter h it a i/\eW G h [] (.d (.tup xs)) (.ref a)) ha hb (λit=>Tu) hE C ai am aj al rfl (by decide) ⟨⟨_,gP _ rfl,rfl,rfl⟩,?_⟩
  exact Rd.keep (ai.tupKeep (λa m=> .inl m) (dE.of_keep (F:=f.L::Ls) λb x e=>fc _ e)) rv
 ·exact eC aj
 ·exact eC aj
 ·exact eC aj
 ·refine oE (lst' aj) λxs hg=> ?_;exact lst hg aj
def Ko(k:Nat)(asg:Lo->PV->Option Lo)(mb:Lo->M Fl)(aa:Lo)(v:PV):M Fl:=match v with
 | .d (.int N)=>if -1000000000<N/\N<1000000000 then kM (LI N) asg mb k 0 aa else cU
 |_=>cU
theorem Mx{tgt:cP}{x:Str}{cpos:Pos}(k:Nat)(hx:f.cs.names.lookup x=some .globalImplicit)(hm:G.mg x=none)(hbb:bootBuiltins x=some (.type "range"))(hne:x≠"__name__")(hd:(x ==("__debug__":Str))=false)
  (h0:W.isStarred e=false)(hf:∀y,foldedSetIterable (.Call (.Name x np) [e] [] cpos) f.env y=pure y)(ha:yQ G n f tgt asg)(he:dR G n f aa e m)(hb:∀aa,ow G n f aa b (mb aa)):
  jB G n f aa (.For tgt (.Call (.Name x np) [e] [] cpos) b [] pos) (bnd m λv=>Ko k asg mb aa v):=by
 intro A ag Ls ad σ s Q E r σ' hE C S Lc er P;refine wpAny_For (nS (kL C S hx hm hbb hne hd ?_)) hf;refine PyProof.Rows.callWith_type1 ?_ (eb h0) rfl;rw[eb h0];refine spliced_cons (he.thnS C S Lc er P λv V h₁ tk₁ ak σ₁ ai ax rv am aj al=>spliced_nil ?_);unfold Ko at aj
 symm at aj
 ·rename_i N
  symm at aj
  ·rename_i hN;refine Rd.int_on rv λt=> ?_;refine call_range_1 ?_;have kk:∀(o:Obj) b x,h₁.get? b=some x->(h₁.push o).get? b=some x:=λo b x e=>fc _ e;have hLF:f.L ∉ Ls:=(gE.mp S.fnd).1;refine wpAny_pyIter_range (IsRange.new _ _ _ _ _ _ _) (small_one (by decide) (by decide) ((pI:Qn [] [_] (.L (.n' (.pw 2 62)) (.v 0)) [.c (.S (.n' (.k 1000000000)) (.v 0)) (.S (.v 0) (.k 1000000000))]) hN) ((pI:Qn [] [_] (.S (.v 0) (.pw 2 62)) [.c (.S (.n' (.k 1000000000)) (.v 0)) (.S (.v 0) (.k 1000000000))]) hN)) ?_;have aA:=al.after (h₁:=h₁.push { cls:= .type "range",data:= .fields #[.int 0 tk₁,.int N t,.int 1 (tk₁+1)] }) (tk₁:=tk₁+1+1) ((dE.of_keep (kk _)).toS hLF)
   have aq:=ai.of_keep (kk { cls:= .type "range",data:= .fields #[.int 0 tk₁,.int N t,.int 1 (tk₁+1)] });have cc:=am.step ai (dE.of_keep (kk { cls:= .type "range",data:= .fields #[.int 0 tk₁,.int N t,.int 1 (tk₁+1)] }));refine wU (I:=λit i h _=>IsRangeIter h it i (max N 0 -i) 1) ha hb (λit=>Tv) hE C aq cc aj aA rfl (by decide) ?_
   have e1:Builtin.Range.rangeSize 0 N 1=max N 0 - ((0:Nat):Int):=by rw[rangeSize_one];split<;>omega
   rw[e1];exact gP _ rfl
  ·exact eC aj
 ·exact eC aj
end
section
variable{f:Fm}{aa:List (Option PV)}
noncomputable def PV.below(k:Nat):PV->Bool
 | .ref j=>j<k
 | .inst j=>j<k
 |_=>true
def MO.below(k:Nat):MO->Bool
 | .list _=>true
 | .dict kvs=>kvs.all λkv=>kv.2.below k
 | .obj kvs=>kvs.all λkv=>kv.2.below k
theorem EV{l l':List α}(p:l<+:l'){j:Nat}{a:α}(h:l'[j]? =some a)(hj:j<l.length):l[j]? =some a:=by
 refine oE p λt ez1=> ?_;clear p;subst ez1
 rwa [fH hj]at h
theorem eW.drop{v:PV}{V:Value}(p:ad<+:ad')(b:v.below ad.length=true)(r:eW G h ad' v V):eW G h ad v V:=by
 cases v with
 |d x=>exact r
 |ref k=>
  refine eN r λa h1 h2=> ?_;clear r;exact⟨a,EV p h1 (by simpa [PV.below] using b),h2⟩
 |inst k=>
  refine mZ r λa x h1 h2=> ?_;clear r;exact⟨a,x,EV p h1 (by simpa [PV.below] using b),h2⟩
 |cl xs=>exact r
 |cd kvs=>exact r
theorem ou.drop{h:Heap}{ad ad':List Addr}(p:ad<+:ad'):∀{es:List (Str×Value)}{kvs:List (List Nat×PV)},(kvs.all λkv=>kv.2.below ad.length)=true->ou G h ad' es kvs->ou G h ad es kvs
 |[],[],_,_=>trivial
 |_::_,_::_,b,⟨h1,h3,h4⟩=>by rw[hP,ej]at b;exact⟨h1,h3.drop p b.1,ou.drop p b.2 h4⟩
 |[],_::_,_,x=>x.elim
 |_::_,[],_,x=>x.elim
theorem mw.drop{h:Heap}{ad ad':List Addr}(p:ad<+:ad'):∀{es:List DictEntry}{kvs:List (List Nat×PV)},(kvs.all λkv=>kv.2.below ad.length)=true->mw G h ad' es kvs->mw G h ad es kvs
 |[],[],_,_=>trivial
 |_::_,_::_,b,⟨h1,h2,h3,h4⟩=>by rw[hP,ej]at b;exact⟨h1,h2,h3.drop p b.1,mw.drop p b.2 h4⟩
 |[],_::_,_,x=>x.elim
 |_::_,[],_,x=>x.elim
theorem St.drop{F ad ad':List Addr}{σ':List MO}{h:Heap}(S:St G F ad' σ' h)(p:ad<+:ad')(b:((σ'.take ad.length).all (MO.below ad.length))=true):St G F ad (σ'.take ad.length) h:=by
 refine oE p λt ez1=> ?_;clear p;subst ez1;have hl:=S.len;have p:ad<+:ad++t:=List.prefix_append _ _;refine⟨S.base,?_,(List.nodup_append.mp S.nd).1,λk a o h1 h2=> ?_,λa m=>S.newA a (eF.mpr (.inl m)),S.frs,S.fnd,λx m z=>S.apart x m (eF.mpr (.inl z))⟩
 ·rw[List.length_take];rw[dI]at hl;exact(kI (.e A0 (.mi A0 A2)) [.e (.a A0 A1) A2]) hl
 ·have hk:k<ad.length:=(ek.mp h1).1
  have h2':σ'[k]? =some o:=by rw[List.getElem?_take,cH hk]at h2;exact h2
  have r:=S.ads k a o (by rw[fH hk];exact h1) h2';have bo:o.below ad.length=true:=fu.mp b o (gu h2);cases o with
  |list xs=>exact r
  |dict kvs=>
   refine eN r λps e r2=> ?_;clear r;exact⟨ps,e,r2.drop p bo⟩
  |obj kvs=>
   refine mZ r λes m e r2=> ?_;clear r;exact⟨es,m,e,r2.drop p bo⟩
theorem dE.drop(q:dE F ad ad' h h'):dE F ad ad h h':=⟨hO _,q.pres,λ_ m=> .inl m,q.ex⟩
def sZ(m:M PV):M PV:=λσ=>match m σ with
 |none=>none
 |some (.ok v,σ')=>if v.below σ.length &&(σ'.take σ.length).all (MO.below σ.length)then some (.ok v,σ'.take σ.length)else some (.ok v,σ')
 |some (.exc,σ')=>if(σ'.take σ.length).all (MO.below σ.length)then some (.exc,σ'.take σ.length)else some (.exc,σ')
theorem Kp{r:R PV}{T:Prop}(S:St G (f.L::Ls) ad σ s.heap)(e:sZ m σ=some (r,σ'))(P:qI G (f.L::Ls) ad s r σ' Q E (RV G))
  (h:∀r' σ'',m σ=some (r',σ'')->qI G (f.L::Ls) ad s r' σ'' Q E (RV G)->T):T:=by
 have hl:=S.len;unfold sZ at e
 symm at e
 ·exact eC e
 ·rename_i v σ₁ q
  symm at e
  ·rename_i hb;refine Pf e ?_;clear e;intro ey ez;subst ey;subst ez;rw[ej]at hb;refine h _ _ q λa h' tk ad' S' p' R'=> ?_;rw[<-hl]at hb P;exact P a h' tk ad (S'.drop p'.pre hb.2) p'.drop (eW.drop p'.pre hb.1 R')
  ·refine Pg e ?_;clear e;intro ey ez;subst ey;subst ez;exact h _ _ q P
 ·rename_i σ₁ q
  symm at e
  ·rename_i hb;refine Pf e ?_;clear e;intro ey ez;subst ey;subst ez;refine h _ _ q λx h' tk ad' S' p' fl=> ?_;rw[<-hl]at hb P;exact P x h' tk ad (S'.drop p'.pre hb) p'.drop fl
  ·refine Pg e ?_;clear e;intro ey ez;subst ey;subst ez;exact h _ _ q P
theorem fK.drop(h:fK G n a sem):fK G n a (λvs=>sZ (sem vs)):=by intro f A ag Ls ad σ s R vs Vs r σ' C S rv e P;exact Kp S e P λr' σ'' e' P'=>h f A ag Ls ad σ s R vs Vs r' σ'' C S rv e' P'
noncomputable def PC(ty:String):PV->Option Bool
 | .d (.tup _)=>some (ty == "tuple")
 | .d (.int _)=>some false
 | .d (.str _)=>some false
 |_=>none
theorem Tw{x y:Str}{yp:Pos}{ty:String}(hx:f.cs.names.lookup x=some .globalImplicit)(hm:G.mg x=none)(hb:bootBuiltins x=some (.builtin "isinstance"))(hne:x≠"__name__")(hd:(x ==("__debug__":Str))=false)
  (hy:f.cs.names.lookup y=some .globalImplicit)(hmy:G.mg y=none)(hby:bootBuiltins y=some (.type ty))(hney:y≠"__name__")(hdy:(y ==("__debug__":Str))=false)(hty:ty="tuple"\/ty="list")
  (h0:W.isStarred e=false)(h1:dR G n f aa e m):dR G n f aa (.Call (.Name x np) [e,.Name y yp] [] pos) (bnd m λv=>lift ((PC ty v).map λb=> .d (.bool b))):=by
 intro A ag Ls ad σ s Q E r σ' C S Lc er P;refine nS (kL C S hx hm hb hne hd ?_);refine PyProof.Rows.callWith_builtin1 ?_ (eb h0) rfl;rw[eb h0];refine spliced_cons (h1.thn C S Lc er P λv V h₁ tk₁ ak σ₁ ai ax rv am aj al=> ?_);refine spliced_cons (kL (s:={ s with heap:=h₁,toks:=tk₁ }) C ai hy hmy hby hney hdy (spliced_nil ?_))
 refine ot (sS aj) λw e2 ez1 ez2=> ?_;subst ez1;subst ez2;refine eN (fe.mp e2) λb e3 ez1=> ?_;subst ez1;have kF:∀tk,Q (.bool b) { s with heap:=h₁,toks:=tk }:=λtk=>al.now ai (Rd.bool b) tk
 unfold PC at e3;split at e3
 ·refine iJ (Rd.tup_inv rv) λa items ez1 oz2 _=> ?_;subst ez1;obtain⟨o,ho,hc,_⟩:=oz2;replace e3:=si e3;subst e3;rcases hty with rfl|rfl
  ·exact PySem.IsiPair.tuple_tuple ho hc (kF tk₁)
  ·exact PySem.IsiPair.tuple_list ho hc (kF _)
 ·refine Rd.int_on rv λt=> ?_;replace e3:=si e3;subst e3;rcases hty with rfl|rfl
  ·exact PySem.IsiPair.int_tuple (kF _)
  ·exact PySem.IsiPair.int_list (kF _)
 ·refine Rd.str_on rv λt=> ?_;replace e3:=si e3;subst e3;rcases hty with rfl|rfl
  ·exact PySem.IsiPair.str_tuple (kF _)
  ·exact PySem.IsiPair.str_list (kF _)
 ·exact eC e3
noncomputable def s6(vs:List PV):PV->Option PV
 | .d (.int i)=>if 0<=i/\i<100 then vs[i.toNat]? else none
 |_=>none
theorem PD{i:cP}{lp:Pos}{mi:M PV}(h:jy G n f aa es ms)(hi:dR G n f aa i mi)(hs:qK i=true):
  dR G n f aa (.Subscript (.List es lp) i pos) (bnd (ja ms) λvs=>if vs.length<100 then bnd mi λk=>lift (s6 vs k)else cU):=by
 intro A ag Ls ad σ s Q E z σ' C S Lc er P;refine Subscript_ (wpAny_List ((oP h).thn C S Lc er P λa V h₁ tk₁ ak σ₁ ai ax ra am aj al=> ?_));have hl:V.length=a.length:=ra.length;split at aj
 case isFalse=>exact eC aj
 rename_i hal;refine⟨(kI (.l A0 A2) [.e A0 A1,.t A1 (.k 100),.l (.k 100) A2]) hl hal (show 100<=sizeLine by decide),?_⟩;have kk:∀b x,h₁.get? b=some x->(h₁.push { cls:= .type "list",data:= .seq V.toArray }).get? b=some x:=λb x e=>fc _ e;have p:dE (f.L::Ls) ak ak h₁ (h₁.push { cls:= .type "list",data:= .seq V.toArray }):=dE.of_keep kk;have hget:(h₁.push { cls:= .type "list",data:= .seq V.toArray }).get? h₁.objs.size=some { cls:= .type "list",data:= .seq V.toArray }:=gP _ rfl;have bH:=ai.of_keep kk
 have nF:h₁.objs.size ∉ f.L::Ls:=λm=>by refine vv (ai.frs _ m) λ_ x h1 _=> ?_;rw[fN]at h1;exact eC h1
 have nad:h₁.objs.size ∉ ak:=λm=>by refine eN (ai.adObj m) λx h1 _=> ?_;rw[fN]at h1;exact eC h1
 refine hi.thn (s:={ s with heap:=h₁.push { cls:= .type "list",data:= .seq V.toArray },toks:=tk₁ }) C bH (am.step ai p) aj (al.after p) λk K ar aE aD aG aq aB rk aK ao aA=> ?_
 refine ot (sS ao) λw e3 ez1 ez2=> ?_;subst ez1;subst ez2;have hg2:ar.get? h₁.objs.size=some { cls:= .type "list",data:= .seq V.toArray }:=aB.pres.keep _ _ hget nad nF;have hil:ar.IsList h₁.objs.size V.toArray:=⟨_,hg2,rfl,_,rfl⟩;unfold s6 at e3
 symm at e3
 ·rename_i j
  symm at e3
  ·rename_i hj;refine Rd.int_on rk λt=> ?_;have ra2:jA G ar aD a V:=(ra.stepE ai p).stepE bH aB;refine eN (ra2.get e3) λW e5 e6=> ?_;refine tail_any hil.typeIs slot_list_getitem.lookup ?_ (ops:=[.ref h₁.objs.size,.int j t]) (qe hs _ _);exact wpAny_getItem_list hil hj.1 ((pI:Qn [] [_] (.S (.v 0) (.pw 2 63)) [.c (.L (.k 0) (.v 0)) (.S (.v 0) (.k 100))]) hj) (by simpa using e5) (aA.now aq e6 aE)
  ·exact eC e3
 ·exact eC e3
theorem PE{op:CmpOp}{a b:PV}{f:Bool->M β}{r:R β}(e:bnd (ir op a b) f σ=some (r,σ')):∃c,gJ σ op a b=some c/\f c σ=some (r,σ'):=by
 cases q:gJ σ op a b with
 |none=>
  have k:bnd (ir op a b) f σ=none:=by unfold bnd ir;rw[q];rfl
  exact eC (k.symm.trans e)
 |some c=>
  have k:bnd (ir op a b) f σ=f c σ:=by unfold bnd ir;rw[q];rfl
  exact⟨c,rfl,k.symm.trans e⟩
theorem My{l bl a9:cP}{bm ba:CmpOp}{ml m1 m2:M PV}(hl:dR G n f aa l ml)(h1:dR G n f aa bl m1)(h2:dR G n f aa a9 m2)(hm:lastMarks [bm,ba] [bl,a9]=false)(whole:Sem Value):
  I4 G n f aa (isTrue (.Compare l [bm,ba] [bl,a9] pos) f.env whole) (bnd ml λa=>bnd m1 λb=>bnd (ir bm a b) λc=>match c with|false=>ret false|true=>bnd m2 λd=>ir ba b d) RB:=by
 intro A ag Ls ad σ s Q E z σ' C S Lc e P;have hu:A.units+66<cLine:=by have:=C.hu;have:cLine=9900:=rfl;omega
 refine PyProof.Rows.isTrue_chain (hl.thn C S Lc e P λa V h₁ tk₁ ak σ₁ ai ax ra am aj al=> ?_) hm
 show wpAny _ _ (do
  let rv <-holding [V] (eval bl f.env)
  standAt pos
  let c <-holding [V,rv] (compareOp bm V rv)
  release [V,rv] [c]
  if <-holding [c,rv] (truthy c)then testChain pos rv [ba] [eval a9 f.env]else pure false) _ _ _
 refine cQ (kb (h1.thn C ai am aj al λb W ar aE aD aG aq aB rb aK ao aA=> ?_));have ra:=ra.stepE ai aB;refine eN (PE ao) λc a7 aF=> ?_;clear P al aj ao Lc am ax ai;refine cQ (iN (cQ (kb (yv (s:={ s with heap:=ar,toks:=aE }) aq hu a7 ra rb λtk=> ?_))))
 refine cQ (PyProof.Rows.wpAny_release' (cQ (kb (nQ ?_))));cases c with
 |false=>
  refine oA (ky aF) λez1 ez2=> ?_;subst ez1;subst ez2;exact dc (aA.now aq rfl tk)
 |true=>
  show wpAny _ _ (do
   let rv <-holding [W] (eval a9 f.env)
   standAt pos
   let c <-operate [W,rv] (compareOp ba W rv)
   holding [c] (truthy c)) _ _ _
  have cb:=aA.after (h₁:=ar) (tk₁:=tk) (kK.refl ..);refine cQ (kb (h2.thn (s:={ s with heap:=ar,toks:=tk }) C aq aK aF cb λd X au aH aI cf ay aC rd bj bZ aM=> ?_))
  have rb:=rb.stepE aq aC;refine eN (fe.mp bZ) λc' bY bE=> ?_;refine p1 bE ?_;clear bE;intro ey ez;subst ey;subst ez;refine cQ (iN (cQ (PyProof.Rows.wpAny_operate' (yv (s:={ s with heap:=au,toks:=aH }) ay hu bY rb rd λtk'=> ?_))))
  exact kb (nQ (aM.now ay rfl tk'))
end
section
variable{f:Fm}{aa:List (Option PV)}
structure yT(G:Gl):Prop where
 ga:findIn G.K (.ref G.rC) "__getattribute__"=some (some (.builtin "object.__getattribute__"))
 sa:findIn G.K (.ref G.rC) "__setattr__"=some (some (.builtin "object.__setattr__"))
 hd:hasDictIn G.K G.rC=true
 po:plainOver G.K G.rC=true
theorem yU{y:List Nat}{t:Tok}:(Value.str ⟨x.toArray⟩ t).isStr ⟨y.toArray⟩=(x == y):=vz x y
theorem mw.find{h:Heap}{ad:List Addr}{x:List Nat}:∀{es:List DictEntry}{kvs:List (List Nat×PV)},mw G h ad es kvs->
  match mx x kvs with
  |some v=>∃e,es.find? (·.key.isStr ⟨x.toArray⟩)=some e/\eW G h ad v e.val
  |none=>es.find? (·.key.isStr ⟨x.toArray⟩)=none
 |[],[],_=>rfl
 |e::es,kv::kvs,⟨⟨t,h1⟩,h2,h3,h4⟩=>by
  have ih:=mw.find (x:=x) h4;unfold mx;by_cases q:kv.1=x
  ·rw[cH q];refine⟨e,?_,h3⟩;rw[List.find?_cons,h1,yU,q];simp
  ·rw[cJ q];have:(e.key.isStr ⟨x.toArray⟩)=false:=by rw[h1,yU];simpa using q
   rw[List.find?_cons,this];exact ih
 |[],_::_,x=>x.elim
 |_::_,[],x=>x.elim
theorem mw.noref{h:Heap}{ad:List Addr}:∀{es:List DictEntry}{kvs:List (List Nat×PV)},mw G h ad es kvs->es.any (·.refKey)=false
 |[],[],_=>rfl
 |e::es,kv::kvs,⟨⟨t,h1⟩,h2,h3,h4⟩=>by rw[lF,mw.noref h4];unfold DictEntry.refKey;rw[h1];rfl
 |[],_::_,x=>x.elim
 |_::_,[],x=>x.elim
theorem mw.length{h:Heap}{ad:List Addr}:∀{es:List DictEntry}{kvs:List (List Nat×PV)},mw G h ad es kvs->es.length=kvs.length
 |[],[],_=>rfl
 |_::_,_::_,⟨_,_,_,h4⟩=>dN (· +1) (mw.length h4)
 |[],_::_,x=>x.elim
 |_::_,[],x=>x.elim
noncomputable def uR(x:List Nat)(v:PV):List (List Nat×PV)->List (List Nat×PV)
 |[]=>[(x,v)]
 |kv::r=>if kv.1=x then(kv.1,v)::r else kv::uR x v r
theorem EW(x:List Nat)(u:PV):∀kvs,(uR x u kvs).length<=kvs.length+1
 |[]=>by simp[uR]
 |kv::kvs=>by
  unfold uR;split
  ·simp
  ·have:=EW x u kvs
   simpa using this
theorem mw.put{h:Heap}{ad:List Addr}{x:List Nat}{v:PV}{V:Value}{t:Tok}(rv:eW G h ad v V):∀{es:List DictEntry}{kvs:List (List Nat×PV)},mw G h ad es kvs->
  mw G h ad (putL ⟨x.toArray⟩ (PyData.keyHash G.w.params ⟨x.toArray⟩) (.str ⟨x.toArray⟩ t) V es) (uR x v kvs)
 |[],[],_=>⟨⟨t,rfl⟩,rfl,rv,trivial⟩
 |e::es,kv::kvs,⟨⟨u,h1⟩,h2,h3,h4⟩=>by
  unfold putL uR;rw[h1,yU];by_cases q:kv.1=x
  ·rw[cH q,cH (by simpa using q)];exact⟨⟨u,h1▸rfl⟩,h2,rv,h4⟩
  ·rw[cJ q,cJ (by simpa using q)];exact⟨⟨u,h1⟩,h2,h3,mw.put rv h4⟩
 |[],_::_,x=>x.elim
 |_::_,[],x=>x.elim
theorem eW.handed{v:PV}{V:Value}(r:eW G h ad v V):handedIn V=true:=by
 cases v with
 |d x=>cases r<;>rfl
 |ref k=>(refine eN r λa _ ez1=> ?_;clear r;subst ez1);rfl
 |inst k=>(refine iJ r λa x _ ez1 _=> ?_;clear r;subst ez1);rfl
 |cl xs=>(refine mZ r λa _ ez1 _=> ?_;clear r;subst ez1);rfl
 |cd kvs=>(refine mZ r λa _ ez1 _=> ?_;clear r;subst ez1);rfl
noncomputable def xP(σ:List MO):PV->Option (Nat×List (List Nat×PV))
 | .inst k=>match σ[k]? with
  |some (.obj kvs)=>some (k,kvs)
  |_=>none
 |_=>none
theorem EX{v:PV}{V:Value}{k:Nat}{kvs:List (List Nat×PV)}(S:St G F ad σ h)(e:xP σ v=some (k,kvs))(r:eW G h ad v V):
  ∃a x es m,v= .inst k/\V= .ref x/\ad[k]? =some a/\h.get? a=some (dictOf es m)/\mw G h ad es kvs/\InstAt h x (instObj G.rC a) G.rC (some (dictOf es m)):=by
 cases v with
 |inst j=>
  simp only[xP]at e
  symm at e
  ·rename_i q;refine ZI e ?_;clear e;intro ey ez;subst ey;subst ez;refine iJ r λa x h1 ez1 h3=> ?_;clear r;subst ez1;refine mZ (S.ads _ a _ h1 q) λes m h4 h5=> ?_;exact⟨a,x,es,m,rfl,rfl,h1,h4,h5,⟨h3,rfl,rfl,h4⟩⟩
  ·exact eC e
 |d x=>exact eC e
 |ref k=>exact eC e
 |cl xs=>exact eC e
 |cd kvs=>exact eC e
def oG(σ:List MO)(x:List Nat)(v:PV):Option PV:=(xP σ v).bind λp=>mx x p.2
theorem Mz{v r:PV}{V:Value}(R:yT G)(hf:findIn G.K (.ref G.rC) ⟨x.toArray⟩=some none)(S:St G F ad σ s.heap)(rv:eW G s.heap ad v V)(e:oG σ x v=some r)
  (h:∀W tk,eW G s.heap ad r W->Q W { s with heap:=s.heap,toks:=tk }):wpAny (model G.prog G.w) A (getAttr V ⟨x.toArray⟩ true) Q E s:=by
 unfold oG at e;refine eN (dL.mp e) λoz1 e1 e2=> ?_;obtain⟨k,kvs⟩:=oz1;refine yG (EX S e1 rv) λa y es m ez1 ez2 h1 h2 h3 I=> ?_;subst ez1;subst ez2;have hfd:=mw.find (x:=x) h3;dsimp only at e2;rw[e2]at hfd;refine eN hfd λen h4 h5=> ?_;clear hfd
 have hl:lookIn ⟨x.toArray⟩ (dictOf es m)=some (some en.val):=by unfold lookIn;simp only[h4]
 exact get_value (G.KX.keeps S.base) I R.ga (findObj_own R.hd hf rfl hl) h5.handed (h en.val _ h5)
theorem PF{x:Str}{xp:Pos}{nm:Str}(R:yT G)(hf:findIn G.K (.ref G.rC) nm=some none)(h:dR G n f aa (.Name x xp) m):dR G n f aa (.Attribute (.Name x xp) nm pos) (bnd m λv=>λσ=>(oG σ nm.cps.toList v).map λr=>(.ok r,σ)):=by
 intro A ag Ls ad σ s Q E z σ' C S Lc er P;refine Attribute_any_ (h.thn C S Lc er P λv V h₁ tk₁ ak σ₁ ai ax rv am aj al=> ?_) (by with_unfolding_all rfl);refine eN (fe.mp aj) λr az aF=> ?_;refine p1 aF ?_;clear aF;intro ey ez;subst ey;subst ez;have:=Mz (A:=A) (Q:=Q) (E:=E) (s:={ s with heap:=h₁,toks:=tk₁ }) (x:=nm.cps.toList) R (by rw[oQ];exact hf) ai rv az λW tk rW=>al.now ai rW tk
 rw[oQ]at this;exact this
theorem MA{v u:PV}{V U:Value}{k:Nat}{kvs:List (List Nat×PV)}{Q:Unit->Shared->Prop}(R:yT G)(hf:findIn G.K (.ref G.rC) ⟨x.toArray⟩=some none)(S:St G F ad σ s.heap)(rv:eW G s.heap ad v V)(ru:eW G s.heap ad u U)
  (e:xP σ v=some (k,kvs))(hz:kvs.length<=1000)
  (h:∀h' tk,St G F ad (σ.set k (.obj (uR x u kvs))) h'->dE F ad ad s.heap h'->Q () { s with heap:=h',toks:=tk }):wpAny (model G.prog G.w) A (setAttr V ⟨x.toArray⟩ U) Q E s:=by
 refine yG (EX S e rv) λa y es m ez1 ez2 h1 h2 h3 I=> ?_;subst ez1;subst ez2;have X:=G.KX.keeps S.base;refine set_plain X I R.sa (osa_open (s:={ s with toks:=s.toks+1 }) X I R.po (show takerIn G.K G.rC ⟨x.toArray⟩=some none by unfold takerIn;rw[hf];rfl) λb=> ?_)
 refine eN (any_some R.hd) λcd hc hd'=> ?_;have hx:s.heap.get? y=some (instObj G.rC a):=I.at_;have D:s.heap.get? a=some (dictOf es m):=h2;refine cQ (dc (cQ (cQ (wpAny_loadPart hx (cQ ((looks_clsIn X hc).here (s:={ s with toks:=s.toks+1 }) ?_))))))
 rw[hd'];refine dc (a:=some a) (cQ (dc (cQ ?_)));unfold nsSet;refine cQ (cQ (wpAny_askSetting (dc (cQ (wpAny_mkText (cQ (wpAny_loadPart D ?_)))))));dsimp only
 have c:(!es.toArray.any (·.key.isStr ⟨x.toArray⟩) && es.toArray.any (·.refKey))=false:=by rw[<-nV,<-nV,List.toList_toArray,h3.noref,Bool.and_false]
 rw[aRefKeyMayBeTheName_at,c];refine wpAny_updatePart D ?_
 have D':(s.heap.update a (Obj.putName ⟨x.toArray⟩ (PyData.keyHash G.w.params ⟨x.toArray⟩) (.str ⟨x.toArray⟩ (s.toks+1)) U)).get? a=some (dictOf (putL ⟨x.toArray⟩ (PyData.keyHash G.w.params ⟨x.toArray⟩) (.str ⟨x.toArray⟩ (s.toks+1)) U es) (putN ⟨x.toArray⟩ es m)):=by rw[Heap.get?_update_self _ D (by rw[putName_dict];rfl),putName_dict]
 have r3:=mw.put (x:=x) (t:=s.toks+1) ru h3;refine cQ (wpAny_lookBehind D' (pastItsLine_dict ?_) ?_)
 ·rw[rn,r3.length];have:=EW x u kvs;have h4:sizeLine >= 1001:=by decide
  exact(kI (.l A1 (.a A2 K1)) [.l A0 (.k 1000),.l A1 (.a A0 K1),.l (.k 1001) A2]) hz this h4
 have kk:∀b o,b≠a->s.heap.get? b=some o->(s.heap.update a (Obj.putName ⟨x.toArray⟩ (PyData.keyHash G.w.params ⟨x.toArray⟩) (.str ⟨x.toArray⟩ (s.toks+1)) U)).get? b=some o:=λb o hb e=>(qF _ _ (Ne.symm hb)).trans e;have P:dE F ad ad s.heap _:=dE.upd (gu h1) kk ⟨_,D'⟩;refine oA (S.upd (mo:= .obj (uR x u kvs)) h1 kk ⟨_,_,D',mw.mono (λv V r=>r.stepE S P) r3⟩) λS' p'=> ?_;exact dc (h _ _ S' p')
def setO(x:List Nat)(v u:PV)(k:Unit->M Fl):M Fl:=λσ=>match xP σ v with
 |some (j,kvs)=>if kvs.length<=1000 then k () (σ.set j (.obj (uR x u kvs)))else none
 |none=>none
theorem Hj{x:Str}{xp tp:Pos}{nm:Str}{mo:M PV}(R:yT G)(hf:findIn G.K (.ref G.rC) nm=some none)(hs:swapsWith e (some (.Attribute (.Name x xp) nm tp)) pos.line f.env=pure false)(ho:dR G n f aa (.Name x xp) mo)(he:dR G n f aa e m):
  jB G n f aa (.Assign [.Attribute (.Name x xp) nm tp] e pos) (bnd m λu=>bnd mo λv=>setO nm.cps.toList v u λ_=>ret (.nxt aa)):=by
 intro A ag Ls ad σ s Q E r σ' hE C S Lc er P;refine plainObj_wpAny_Assign_Attribute (he.thnS C S Lc er P λu U h₁ tk₁ ak σ₁ ai ax ru am aj al=>ho.thnS C ai am aj al λv V ar aE aD aG aq aB rv aK ao aA=> ?_) hs;have ru:=ru.stepE ai aB;unfold setO at ao
 symm at ao
 ·rename_i j kvs q
  symm at ao
  ·rename_i hz;have aA:=aA.of_ret ao;have:=MA (A:=A) (Q:=λ_=>Q .next) (E:=E) (s:={ s with heap:=ar,toks:=aE }) (x:=nm.cps.toList) R (by rw[oQ];exact hf) aq rv ru q hz λh' tk S' p'=>aA h' tk aD S' (p'.toS (gE.mp S.fnd).1) (aK.step aq p')
   rw[oQ]at this;exact this
  ·exact eC ao
 ·exact eC ao
theorem Hk{x:Str}{xp tp:Pos}{nm:Str}{op:Operator}{mo:M PV}(R:yT G)(hf:findIn G.K (.ref G.rC) nm=some none)(ho:dR G n f aa (.Name x xp) mo)(he:dR G n f aa e m):
  jB G n f aa (.AugAssign (.Attribute (.Name x xp) nm tp) op e pos) (bnd mo λv=>λσ=>match oG σ nm.cps.toList v with
   |some old=>bnd m (λu=>bnd (lift (uP op old u)) λw=>setO nm.cps.toList v w λ_=>ret (.nxt aa)) σ
   |none=>none):=by
 intro A ag Ls ad σ s Q E r σ' hE C S Lc er P;refine wpAny_AugAssign_AttributeAny (ho.thnS C S Lc er P λv V h₁ tk₁ ak σ₁ ai ax rv am aj al=> ?_)
 symm at aj
 ·rename_i old q;have hf':findIn G.K (.ref G.rC) ⟨nm.cps.toList.toArray⟩=some none:=by rw[oQ];exact hf
  have step:=Mz (A:=A) (E:=E) (s:={ s with heap:=h₁,toks:=tk₁ }) (x:=nm.cps.toList) R hf' ai rv q (Q:=λoldV aO=>wpAny (model G.prog G.w) A (eval e f.env) (λu aT=>wpAny (model G.prog G.w) A (inplaceOp op oldV u) (λnew aY=>
      wpAny (model G.prog G.w) A (setAttr V nm new) (λ_=>Q .next) E aY) E aT) E aO) λW tk rW=>by
   have bJ:=al.after (h₁:=h₁) (tk₁:=tk) (kK.refl ..);refine he.thnS (s:={ s with heap:=h₁,toks:=tk }) C ai am aj bJ λu U ar aE aD aG aq aB ru aK ao aA=> ?_
   have rW:=rW.stepE ai aB;have rv:=rv.stepE ai aB;clear bJ al P er Lc am ai;refine eN (vF ao) λw e8 e7=> ?_;unfold uP at e8;split at e8
   ·refine eN (fe.mp e8) λc e9 e10=> ?_;subst e10;refine Jb e9 rW ru λX tk' rX=> ?_;unfold setO at e7
    symm at e7
    ·rename_i j kvs q2
     symm at e7
     ·rename_i hz;refine oA (ky e7) λez1 ez2=> ?_;subst ez1;subst ez2;have:=MA (A:=A) (Q:=λ_=>Q .next) (E:=E) (s:={ s with heap:=ar,toks:=tk' }) (u:= .d c) (x:=nm.cps.toList) R hf' aq rv rX q2 hz λh' tk S' p'=>aA h' tk aD S' (p'.toS (gE.mp S.fnd).1) (aK.step aq p')
      rw[oQ]at this;exact this
     ·exact eC e7
    ·exact eC e7
   ·exact eC e8
  rw[oQ]at step;exact step
 ·exact eC aj
end
section
variable{f:Fm}{aa:List (Option PV)}
theorem BL(C:Addr)(args:List Value)(kw:List (Str×Value)):(Code.builtin "type.__call__" ⟨.ref C::args,kw⟩).weight=1:=rfl
theorem MB(C:Addr)(args:List Value)(kw:List (Str×Value)):(Code.builtin "type.__call__" ⟨.ref C::args,kw⟩).cUnits=1:=rfl
theorem wI.tc{D:Addr}{args:List Value}(C:wI G A (n+1) f ag Ls):wI G (A.under (.builtin "type.__call__" ⟨.ref D::args,[]⟩)) n f ag Ls:=
 ⟨C.hA,C.out,C.kinds,C.hk,C.hh,by have:=C.hd;show A.depth+(Code.builtin "type.__call__" ⟨.ref D::args,[]⟩).weight+n<1000;rw[BL];exact Z0 this,
  by have:=C.hu;show A.units+(Code.builtin "type.__call__" ⟨.ref D::args,[]⟩).cUnits+16 * n+200<9900;rw[MB];exact Yr this,C.nd,C.aa⟩
noncomputable def EY(init:List PV->M PV)(vs:List PV):M PV:=λσ=>match init (.inst σ.length::vs) (σ++[.obj []])with
 |some (.ok (.d .none),σ')=>some (.ok (.inst σ.length),σ')
 |_=>none
theorem Kq{init:List PV->M PV}{r:R PV}(e:EY init vs σ=some (r,σ')):init (.inst σ.length::vs) (σ++[.obj []])=some (.ok (.d .none),σ')/\r= .ok (.inst σ.length):=by
 have e:(match(generalizing:=false) init (.inst σ.length::vs) (σ++[.obj []])with|some (.ok (.d .none),τ)=>some (R.ok (PV.inst σ.length),τ)|_=>none)=some (r,σ'):=e
 generalize init (.inst σ.length::vs) (σ++[.obj []])=o at e ⊢;cases o with
 |none=>exact eC e
 |some p=>cases p with
  |mk a τ=>cases a with
   |exc=>exact eC e
   |ok v=>cases v with
    |d d=>cases d with
     |none=>exact⟨dN some (dN (Prod.mk _) (Prod.mk.inj (si e)).2),(Prod.mk.inj (si e)).1.symm⟩
     |_=>exact eC e
    |_=>exact eC e
theorem PG{fI:Addr}{init:List PV->M PV}(hm:makesIn G.K G.rC=true)(hi:findIn G.K (.ref G.rC) "__init__"=some (some (.ref fI)))(hf:isFn G.K (.ref fI)=true)(h:fK G n fI init):fK G (n+1) G.rC (EY init):=by
 intro f A ag Ls ad σ s R vs Vs r σ' C S rv e P;obtain⟨hh,g,d,t,os⟩:=s;have X:=G.KX.keeps S.base;refine make_core (makes_of X hm) (looks_findIn X hi) (λself=>bind_fn X self (kc.mp hf)) (.inl rfl) ?_;have S:St G (f.L::Ls) ad σ hh:=S;have rv:jA G hh ad vs Vs:=rv;have hfr:=fN hh;have hdf:(emptyDict:Obj)=dictOf [] 0:=rfl;have k1:∀b o,hh.get? b=some o->(hh.push emptyDict).get? b=some o:=λb o e=>fc _ e;have g1:(hh.push emptyDict).get? hh.objs.size=some emptyDict:=gP _ rfl;have ai:St G (f.L::Ls) (ad++[hh.objs.size]) (σ++[.obj []]) (hh.push emptyDict):=S.grow k1 hfr S.size ⟨[],0,g1,trivial⟩;have ax:dE (f.L::Ls) ad (ad++[hh.objs.size]) hh (hh.push emptyDict):=dE.grow k1 hfr
 have k2:∀b o,(hh.push emptyDict).get? b=some o->((hh.push emptyDict).push (instObj G.rC hh.objs.size)).get? b=some o:=λb o e=>fc _ e;have aq:=ai.of_keep k2;have aB:dE (f.L::Ls) (ad++[hh.objs.size]) (ad++[hh.objs.size]) _ _:=dE.of_keep k2
 have g2:((hh.push emptyDict).push (instObj G.rC hh.objs.size)).get? (hh.objs.size+1)=some (instObj G.rC hh.objs.size):=by
  have:=gP (hh.push emptyDict) (o:=instObj G.rC hh.objs.size) rfl
  rwa [Heap.size_push]at this
 have ri:eW G ((hh.push emptyDict).push (instObj G.rC hh.objs.size)) (ad++[hh.objs.size]) (.inst σ.length) (.ref (hh.objs.size+1)):=⟨hh.objs.size,_,by rw[<-S.len];simp,rfl,g2⟩;have rvs:jA G ((hh.push emptyDict).push (instObj G.rC hh.objs.size)) (ad++[hh.objs.size]) (.inst σ.length::vs) (.ref (hh.objs.size+1)::Vs):=⟨ri,(rv.stepE S ax).stepE ai aB⟩;refine oA (Kq e) λq ez=> ?_;clear e;subst ez;have C':wI G (A.under (.builtin "type.__call__" ⟨.ref G.rC::Vs,[]⟩)) n f ag Ls:=C.tc;refine h f _ ag Ls _ _ ⟨(hh.push emptyDict).push (instObj G.rC hh.objs.size),g,d,t,os⟩ _ _ _ _ _ C' aq rvs q ?_;intro V h' tk ad' S' p' r'
 obtain rfl:=Rd.none_inv r';refine⟨rfl,?_⟩;exact P (.ref (hh.objs.size+1)) h' tk ad' S' ((ax.trans aB).trans p') (eW.stepE ri aq p')
end
structure ku(M:Model)(h:Heap)(C:Addr):Prop where
 obj:∃od cd sl,h.get? C=some ⟨.type "type",od,.cls cd,sl⟩/\cd.abstract=false/\cd.hasDel=false/\cd.mro.isEmpty=false
 made:Looks M h (Bind.madeBy (.ref C)) (some "Exception.__new__")
 base:Looks M h (Bind.staticBase (.ref C)) (.ref C)
 self:Looks M h (isSubtype (.ref C) (.ref C)) true
 exc:Looks M h (isSubtype (.ref C) (.type "Exception")) true
 bexc:Looks M h (isSubtype (.ref C) (.type "BaseException")) true
 noAttr:Looks M h (isSubtype (.ref C) (.type "AttributeError")) false
 noName:Looks M h (isSubtype (.ref C) (.type "NameError")) false
 call:Looks M h (specialOf (.ref C) "__call__") (some (.builtin "type.__call__"))
 typ:Looks M h (isInstance (.ref C) (.type "type")) true
theorem ku.on{M:Model}{C:Addr}{K:Prop}(Y:ku M h C)(k:∀od cd sl,h.get? C=some ⟨.type "type",od,.cls cd,sl⟩->cd.abstract=false->cd.hasDel=false->cd.mro.isEmpty=false->Looks M h (Bind.madeBy (.ref C)) (some "Exception.__new__")->Looks M h (Bind.staticBase (.ref C)) (.ref C)->Looks M h (isSubtype (.ref C) (.ref C)) true->
  Looks M h (isSubtype (.ref C) (.type "Exception")) true->Looks M h (isSubtype (.ref C) (.type "BaseException")) true->Looks M h (isSubtype (.ref C) (.type "AttributeError")) false->Looks M h (isSubtype (.ref C) (.type "NameError")) false->Looks M h (specialOf (.ref C) "__call__") (some (.builtin "type.__call__"))->Looks M h (isInstance (.ref C) (.type "type")) true->K):K:=
 Y.obj.elim λod h=>h.elim λcd h=>h.elim λsl h=>k od cd sl h.1 h.2.1 h.2.2.1 h.2.2.2 Y.made Y.base Y.self Y.exc Y.bexc Y.noAttr Y.noName Y.call Y.typ
noncomputable abbrev rI(C t:Addr):Obj:={ cls:= .ref C,data:= .fields #[.ref t,.none,.none,.none,.bool false,.none] }
section
variable{prog:Program}{w:World}{R:Result->Shared->Prop}{g:Array GenState}{d:Drawn}{t:Nat}{os:OsState}{C:Addr}
theorem PH{rest:List Value}(Y:ku (model prog w) h C)(hrest:rest.length<=sizeLine)
  (hq:R (.ok (.ret (.ref (h.objs.size+1)))) ⟨(h.push { cls:= .type "tuple",data:= .seq rest.toArray }).push (rI C h.objs.size),g,d,t,os⟩):
  codeAny (model prog w) A (.call (.builtin "Exception.__new__") ⟨.ref C::rest,[]⟩) R ⟨h,g,d,t,os⟩:=by
 refine Y.on λod cd sl hC e1 e2 e4 made base self exc bexc noAttr noName call typ=> ?_;clear Y;have F:=PySem.F.excBase_Exception;have hends:=F.ends;have here:Looks (model prog w) h (Bind.madeHere "BaseException.__new__" (.ref C)) ():=base.andThen (made.andThen (Looks.of_pure (by simp only[Option.map_some,F.canon,bne_self_eq_false,jf,if_false])));have here2:Looks (model prog w) h (Bind.madeHere "Exception.__new__" (.ref C)) ():=base.andThen (made.andThen (Looks.of_pure (by simp only[Option.map_some,bne_self_eq_false,jf,if_false])));refine codeAny_call_builtin_code (Code.quiet_builtin _ F.quiet) ?_
 simp only[checkBuiltinCall,F.newKind,F.newSplit,F.newRow]
 repeat (first|simp only[bne_self_eq_false,jf,if_false]|lk|wp_step)
 refine codeAny_builtinAt F.entry ?_;unfold Builtin.«BaseException.__new__»;refine PySem.wpAt_bind ?_;show PySem.wpAt _ _ _ (stack >>= _) _ _ _;refine PySem.wpAt_bind (PySem.wpAt_stack λp below=>PySem.wpAt_of_wpAny ?_)
 wp_walk
 refine PySem.wpAt_of_wpAny ?_;rw[F.owner]
 repeat (first|simp only[bne_self_eq_false,jf,if_false]|lk|wp_step)
 refine nd_load (fc _ (fc _ hC)) (dc ?_);dsimp only;rw[e2];refine dc (dc (dc ?_));show R _ _;rw[Heap.size_push];exact hq
theorem MC{rest:List Value}{init:Value}(Y:ku (model prog w) h C)(hi:Looks (model prog w) h (typeLookup (.ref C) "__init__") (some init))(hb:∀self,Looks (model prog w) h (bindSpecial init self) (init,[self]))(hrest:rest.length<=sizeLine)
  (hq:codeAny (model prog w) (A.under (.builtin "type.__call__" ⟨.ref C::rest,[]⟩)) (.call init ⟨.ref (h.objs.size+1)::rest,[]⟩) (InitBack (h.objs.size+1) R) ⟨(h.push { cls:= .type "tuple",data:= .seq rest.toArray }).push (rI C h.objs.size),g,d,t,os⟩):
  codeAny (model prog w) A (.call (.ref C) ⟨rest,[]⟩) R ⟨h,g,d,t,os⟩:=by
 have Y':=Y;refine Y.on λod cd sl hC e1 e2 e4 made base self exc bexc noAttr noName call typ=> ?_;clear Y;refine codeAny_of_tree ?_;show wpAny _ _ (callAny (.ref C) _) _ _ _;refine nd_load hC ?_;show wpAny _ _ (callAny.viaDunder (.ref C) _) _ _ _;unfold callAny.viaDunder;refine cQ (call.at ?_);dsimp only;rw[tc_bind];refine cQ (dc (cQ (dc ?_)));refine dc (a:=Fin.again (.call (.builtin "type.__call__") ⟨.ref C::rest,[]⟩)) (And.intro rfl ?_);refine codeAny_call_builtin_at (Code.quiet_builtin _ (by decide+kernel)) entry_typeCall (check_slot tc_kind tc_split typ (tc_args _ _ _) ?_);unfold Builtin.«type.__call__»
 have hm:Looks (model prog w) h (mroOf (.ref C)) cd.mro:=((Looks.ld (part:=none) hC).andThen .now).andThen .now
 repeat (first|simp only[e4,jf,if_false]|with_reducible refine wpAny_call ?_|lk)
 refine PH Y' hrest ?_;have k:∀b o,h.get? b=some o->((h.push { cls:= .type "tuple",data:= .seq rest.toArray }).push (rI C h.objs.size)).get? b=some o:=λb o e=>fc _ (fc _ e);have hx:((h.push { cls:= .type "tuple",data:= .seq rest.toArray }).push (rI C h.objs.size)).get? (h.objs.size+1)=some (rI C h.objs.size):=by heap_get
 have t1:Looks (model prog w) ((h.push { cls:= .type "tuple",data:= .seq rest.toArray }).push (rI C h.objs.size)) (typeOf (.ref (h.objs.size+1))) (.ref C):=(Looks.ld hx).andThen .now;have s1:=self.keeps k;have i1:=hi.keeps k;have b1:=(hb (.ref (h.objs.size+1))).keeps k;unfold isInstance callSpecial? specialOf
 repeat (first|with_reducible refine wpAny_call ?_|lk)
 refine codeAny_mono hq λr s' z=> ?_;rcases r with e|(v|_|_|_)<;>first|exact z|exact z.elim|skip
 obtain⟨rfl,z⟩:=z;exact dc (dc z)
theorem Hl{M:Model}{env:Env}{x:Sem Value}{Q:Flow->Shared->Prop}(hh:A.handled=none)
  (h:wpAny M A x (λv aJ=>∃e ob vs,v= .ref e/\aJ.heap.get? e=some ob/\ob.cls= .ref C/\ob.data= .fields vs/\vs[1]? =some .none/\ku M aJ.heap C/\E (.ref e) aJ) E s):
  wpAny M A (raiseStmt env (some x) none) Q E s:=by
 unfold raiseStmt;refine cQ (wpAny_mono h (λv aJ h₁=> ?_) λ_ _ x=>x);refine GZ h₁ λe ob vs ez1 he hcls hdat hv1 Y hE=> ?_;clear h₁;subst ez1;obtain⟨hp,g,d,tk,os⟩:=aJ;refine Y.on λod cd sl hC e1 e2 e4 made base self exc bexc noAttr noName call typ=> ?_;clear Y;obtain⟨obc,obd,obt,obs⟩:=ob;subst hcls hdat;have t1:Looks M hp (typeOf (.ref e)) (.ref C):=(Looks.ld he).andThen .now
 repeat (first|simp only[jf,if_false,if_true]|with_reducible refine wpAny_loadPart_at he ?_|lk|wp_step)
 rw[hv1];refine dc ?_;rw[cJ (by decide)];exact dc (wpAny_raiseNew_none hh hE)
end
section
theorem Hm(self:Value):refuseLoop self "__setattr__" [.type "Exception",.type "BaseException",.type "object"]=pure ():=by
 first|rfl|rfl'
structure PI(G:Gl)(B:Addr):Prop where
 made:∀M:Model,ku M G.h₀ G.fC
 cd:∃cd,clsIn G.K G.fC=some cd/\cd.hasDict=true/\cd.mro=[.ref G.fC,.ref B,.type "Exception",.type "BaseException",.type "object"]
 sa:findIn G.K (.ref G.fC) "__setattr__"=some (some (.builtin "object.__setattr__"))
theorem ku.keeps{M:Model}{h h':Heap}{C:Addr}(Y:ku M h C)(k:∀b o,h.get? b=some o->h'.get? b=some o):ku M h' C:=by refine Y.on λod cd sl hC e1 e2 e4 made base self exc bexc noAttr noName call typ=> ?_;clear Y;exact⟨⟨od,cd,sl,k _ _ hC,e1,e2,e4⟩,made.keeps k,base.keeps k,self.keeps k,exc.keeps k,bexc.keeps k,noAttr.keeps k,noName.keeps k,call.keeps k,typ.keeps k⟩
section
variable{x B:Addr}{v:Value}{R:Result->Shared->Prop}
theorem EZ{ox:Obj}{od:Option Obj}{name:Str}{tk:Tok}(F:PI G B)(hb:G.h₀.StaysIn s.heap)(I:InstAt s.heap x ox G.fC od)(hf:findIn G.K (.ref G.fC) name=some none)
  (h:∀b,wpAny (model G.prog G.w) A.in1 (Builtin.ObjectAttr.storeInOwnDict (.ref x) (.ref G.fC) (.str name tk) name v b)
   (λkF s'=>match kF with| .done f=>R (.ok f) s'| .again c'=>c'.quiet=true/\codeAny (model G.prog G.w) A c' R s') (λe s'=>R (.error e) s') s):
  codeAny (model G.prog G.w) A (.call (.builtin "object.__setattr__") ⟨[.ref x,.str name tk,v],[]⟩) R s:=by
 have SF:=PySem.F.store_object;have X:=G.KX.keeps hb;refine ot F.cd λcd hc hdi hmro=> ?_
 have hM:mroIn G.K G.fC (.type "object")=some true:=by unfold mroIn;rw[hc,gQ,hmro,cJ (by simp)];simp
 have sub:Looks (model G.prog G.w) s.heap (isInstance (.ref x) (.type "object")) true:=I.type.andThen (looks_mroIn X hM);refine codeAny_call_builtin SF.slot.plain SF.entry (@check_slot (model G.prog G.w) _ _ s "object.__setattr__" "object" "__setattr__" (.ref x) [.str name tk,v] [] _ SF.kind SF.split sub (SF.args (.ref x) (.str name tk) v) ?_);have hm:Looks (model G.prog G.w) s.heap (mroOf (.ref G.fC)) cd.mro:=(looks_clsIn X hc).andThen .now;rw[osa_eq,refuse_eq];refine cQ (cQ (I.type.here (cQ (hm.here ?_))));rw[hmro,refuseLoop_ref,refuseLoop_ref,Hm];refine dc (cQ (I.type.here (cQ ((looks_findIn X hf).here (cQ (dc ?_))))))
 exact h _
def XO(G:Gl)(h:Heap)(x:Addr)(od:Option Addr):Prop:=∃vs sl a0,h.get? x=some ⟨.ref G.fC,od,.fields vs,sl⟩/\vs[1]? =some .none/\vs[0]? =some a0
def XD(h:Heap)(dx:Addr)(k:Nat):Prop:=∃es n,h.get? dx=some (dictOf es n)/\es.any (·.refKey)=false/\es.length<=k
theorem yV{dx:Addr}{es:List DictEntry}{k:Nat}{name:Str}{tk:Tok}{A':Around}(D:s.heap.get? dx=some (dictOf es n))(hr:es.any (·.refKey)=false)(hl:es.length<=k)(hk:k<=1000)
  (h:∀h' tk',(∀b o,b≠dx->s.heap.get? b=some o->h'.get? b=some o)->XD h' dx (k+1)->R (.ok (.ret .none)) { s with heap:=h',toks:=tk' }):
  wpAny (model G.prog G.w) A' (Builtin.ObjectAttr.storeInDict dx (.str name tk) name v)
   (λkF s'=>match kF with| .done f=>R (.ok f) s'| .again c'=>c'.quiet=true/\codeAny (model G.prog G.w) A c' R s') (λe s'=>R (.error e) s') s:=by
 unfold Builtin.ObjectAttr.storeInDict;refine cQ (dc (cQ ?_));unfold nsSet;refine cQ (cQ (wpAny_askSetting (dc (cQ (wpAny_mkText (cQ (wpAny_loadPart D ?_)))))));dsimp only
 have c:(!es.toArray.any (·.key.isStr name) && es.toArray.any (·.refKey))=false:=by rw[<-nV,<-nV,List.toList_toArray,hr,Bool.and_false]
 rw[aRefKeyMayBeTheName_at,c];refine wpAny_updatePart D ?_
 have D':(s.heap.update dx (Obj.putName name (PyData.keyHash G.w.params name) (.str name s.toks) v)).get? dx=some (dictOf (putL name (PyData.keyHash G.w.params name) (.str name s.toks) v es) (putN name es n)):=by rw[Heap.get?_update_self _ D (by rw[putName_dict];rfl),putName_dict]
 have h1:∀es:List DictEntry,(putL name (PyData.keyHash G.w.params name) (.str name s.toks) v es).length<=es.length+1:=by
  intro es
  induction es with
  |nil=>simp[putL]
  |cons e es ih=>
   unfold putL;split
   ·simp
   ·simpa using ih
 have h2:∀es:List DictEntry,es.any (·.refKey)=false->(putL name (PyData.keyHash G.w.params name) (.str name s.toks) v es).any (·.refKey)=false:=by
  intro es
  induction es with
  |nil=>intro _;rfl
  |cons e es ih=>
   intro hh;rw[lF,Bool.or_eq_false_iff]at hh;unfold putL;split
   ·rw[lF,Bool.or_eq_false_iff];exact⟨hh.1,hh.2⟩
   ·rw[lF,Bool.or_eq_false_iff];exact⟨hh.1,ih hh.2⟩
 refine cQ (wpAny_lookBehind D' (pastItsLine_dict ?_) ?_)
 ·rw[rn];have:=h1 es;have h4:sizeLine >= 1001:=by decide
  exact(lx (.l A2 (.a A3 K1)) [.l A0 A1,.l A1 (.k 1000),.l A2 (.a A0 K1),.l (.k 1001) A3]) hl hk this h4
 ·exact dc (h _ _ (λb o hb e=>(qF _ _ (Ne.symm hb)).trans e) ⟨_,_,D',h2 es hr,by have:=h1 es;exact(kI (.l A2 (.a A1 K1)) [.l A0 A1,.l A2 (.a A0 K1)]) hl this⟩)
theorem MD{name:Str}{Q:Unit->Shared->Prop}(F:PI G B)(hb:G.h₀.StaysIn s.heap)(hx:XO G s.heap x none)(hf:findIn G.K (.ref G.fC) name=some none)
  (h:∀h' tk dx,(∀b o,b≠x->s.heap.get? b=some o->h'.get? b=some o)->XO G h' x (some dx)->s.heap.get? dx=none->XD h' dx 1->Q () { s with heap:=h',toks:=tk }):
  wpAny (model G.prog G.w) A (setAttr (.ref x) name v) Q E s:=by
 have X:=G.KX.keeps hb;refine iO hx λvs sl a0 ho h1 h0=> ?_;clear hx;have I:InstAt s.heap x ⟨.ref G.fC,none,.fields vs,sl⟩ G.fC none:=⟨ho,rfl,rfl,trivial⟩;refine set_plain X I F.sa (EZ (s:={ s with toks:=s.toks+1 }) F hb I hf λb=> ?_)
 refine ot F.cd λcd hc hdi hmro=> ?_;refine cQ (dc (cQ (cQ (wpAny_loadPart ho (cQ ((looks_clsIn X hc).here (s:={ s with toks:=s.toks+1 }) ?_))))))
 rw[hdi];simp only[Bool.not_true,jf,if_false,typeHasDict,Bool.or_self];have hfr:=fN s.heap;have hxl:x≠s.heap.objs.size:=Nat.ne_of_lt (kH ho);have ho1:=fc (h:=s.heap) { cls:= .type "dict",data:= .dict #[] } ho;refine cQ (wpAny_alloc (cQ (wpAny_update ho1 ?_)));refine dc ?_
 have hd1:((s.heap.push { cls:= .type "dict",data:= .dict #[] }).update x λo=>{ cls:=o.cls,dict:=some s.heap.objs.size,data:=o.data,slots:=o.slots }).get? s.heap.objs.size=some (dictOf [] 0):=
  (qF _ _ hxl).trans (gP _ rfl)
 have hx1:=Heap.get?_update_self (λo:Obj=>{ cls:=o.cls,dict:=some s.heap.objs.size,data:=o.data,slots:=o.slots }) ho1 rfl;refine yV (G:=G) (A:=A) (R:=λr s'=>match r with| .ok (.ret _)=>Q () s'| .ok _=>False| .error e=>E e s') (s:={ s with heap:=(s.heap.push { cls:= .type "dict",data:= .dict #[] }).update x λo=>{ cls:=o.cls,dict:=some s.heap.objs.size,data:=o.data,slots:=o.slots },toks:=s.toks+1 }) (k:=0) hd1 rfl (ip _) (by decide) λh' tk' kk D=> ?_
 refine h h' tk' s.heap.objs.size (λb o hb e=> ?_) ⟨vs,sl,a0,kk _ _ hxl hx1,h1,h0⟩ hfr D;refine kk b o (Nat.ne_of_lt (kH e)) ?_;exact(qF _ _ (Ne.symm hb)).trans (fc _ e)
theorem ME{name:Str}{dx:Addr}{k:Nat}{Q:Unit->Shared->Prop}(F:PI G B)(hb:G.h₀.StaysIn s.heap)(hx:XO G s.heap x (some dx))(hd:XD s.heap dx k)(hk:k<=1000)(hf:findIn G.K (.ref G.fC) name=some none)
  (h:∀h' tk,(∀b o,b≠dx->s.heap.get? b=some o->h'.get? b=some o)->XD h' dx (k+1)->Q () { s with heap:=h',toks:=tk }):
  wpAny (model G.prog G.w) A (setAttr (.ref x) name v) Q E s:=by
 have X:=G.KX.keeps hb;refine iO hx λvs sl a0 ho h1 h0=> ?_;clear hx;refine iJ hd λes m hdo hr hl=> ?_;clear hd;have I:InstAt s.heap x ⟨.ref G.fC,some dx,.fields vs,sl⟩ G.fC (some (dictOf es m)):=⟨ho,rfl,rfl,hdo⟩;refine set_plain X I F.sa (EZ (s:={ s with toks:=s.toks+1 }) F hb I hf λb=> ?_)
 refine ot F.cd λcd hc hdi hmro=> ?_;refine cQ (dc (cQ (cQ (wpAny_loadPart ho (cQ ((looks_clsIn X hc).here (s:={ s with toks:=s.toks+1 }) ?_))))))
 rw[hdi];refine dc ?_;exact yV (G:=G) (A:=A) (R:=λr s'=>match r with| .ok (.ret _)=>Q () s'| .ok _=>False| .error e=>E e s') (s:={ s with toks:=s.toks+1 }) (k:=k) hdo hr hl hk λh' tk' kk D=>h h' tk' kk D
end
section
variable{prog:Program}{w:World}{g:Array GenState}{d:Drawn}{t:Nat}{os:OsState}{C:Addr}
theorem MF{e:Addr}{od:Option Addr}{vs:Array Value}{sl}{t0:Value}{rest:List Value}(Y:ku (model prog w) h C)
  (he:h.get? e=some ⟨.ref C,od,.fields vs,sl⟩)(h0:vs[0]? =some t0)(hrest:rest.length<=sizeLine)
  (hq:∀k,k=(h.push { cls:= .type "tuple",data:= .seq rest.toArray }).update e (Obj.mapFields (·.setIfInBounds 0 (.ref h.objs.size)))->Q .none ⟨k,g,d,t,os⟩):
  wpAny (model prog w) A (call (.builtin "Exception.__init__") (.ref e::rest)) Q E ⟨h,g,d,t,os⟩:=by
 have F:=PySem.F.excBase_Exception;refine Y.on λod cd sl hC e1 e2 e4 made base self exc bexc noAttr noName call typ=> ?_;clear Y;have t1:Looks (model prog w) h (typeOf (.ref e)) (.ref C):=(Looks.ld he).andThen .now;refine wpAny_call (codeAny_call_builtin F.init.plain F.initEntry ?_);simp only[checkBuiltinCall,F.initKind,F.initSplit,F.initRow];have hshort:=F.noStar;unfold isInstance
 repeat (first|simp only[jf,if_false,Bool.not_true]|with_reducible refine Looks.at (by assumption) ?_|with_reducible refine wpAny_loadPart_at he ?_|wp_step)
 refine wpAny_onRaise ?_
 rw[show ∀(a b:String)(n:Nat),Bind.check ⟨.positional,"*","Exception",.self,[⟨"args",.varPos,false⟩]⟩ a b n (List.map (λx=>x.fst) ({ pos:=Value.ref e::rest }:Args).kw)=pure ()from
  λa b n=>check_star_args _ _ _ _ _ _]
 refine dc ?_;unfold Builtin.«BaseException.__init__»;dsimp only;rw[cJ (by simp)];unfold newTuple Builtin.BaseException.bexcPut;have hsz:0<vs.size:=(Array.getElem?_eq_some_iff.mp h0).1;have bC:=fc (h:=h) { cls:= .type "tuple",data:= .seq rest.toArray } he;refine cQ (wpAny_newObj_type (cQ (cQ (wpAny_field bC rfl h0 (cQ (wpAny_setField bC rfl hsz ?_))))) (by show rest.toArray.size<=sizeLine;rw[rn];exact hrest));cases t0<;>first|exact wpAny_letGo (dc (hq _ rfl))|exact dc (dc (hq _ rfl))
end
end
section
section
variable{prog:Program}{w:World}{env:Env}
theorem sn{o:cP}{name:Str}{apos:Pos}{args:List cP}
  (hbase:attributeBase o name env (eval o env)=eval o env)
  (hfew:((backTo pos (starEach args env)).all (λx=> !x.1) &&(backToKw pos (keywordEach [] env)).all (λx=>x.1.isSome)
   && decide (args.length+([]:List Keyword).length+(if([]:List Keyword).isEmpty then 0 else 1)<30))=true)
  (hline:(apos.endLine == pos.line)=true)
  (h:wpAny (model prog w) A (eval o env) (λov aJ=>∀pl,wpAny (model prog w) A (getMethod ov name pl) (λfx aO=>wpAny (model prog w) A (callWith pos fx.1 fx.2 (backTo pos (starEach args env)) []) Q E aO) E aJ) E s):
  wpAny (model prog w) A (eval (.Call (.Attribute o name apos) args [] pos) env) Q E s:=by
 rw[arm_eval_Call,hbase];refine cQ (wpAny_mono h (λov aJ h₁=> ?_) λ_ _ e=>e);refine cQ (iN ?_);have hform:methodCallForm (args.length+([]:List Keyword).length) (backTo pos (starEach args env)) (backToKw pos (keywordEach [] env))=true:=hfew;have hpos:methodCallPos true o env apos pos=pure pos:=by unfold methodCallPos;simp[hline]
 unfold methodCall;rw[hform];refine cQ (kb (wpAny_mono (h₁ _) (λfx aO ar=> ?_) λ_ _ e=>e));exact cQ (wpAny_of_eq hpos ar)
end
noncomputable def qP(cn ini sf tx an vn:Str)(p1 p2 p3 p4 p5 p6 p7 p8 p9 p10:Pos):List Stmt:=
 [.Expr (.Call (.Attribute (.Name cn p1) ini p2) [.Name sf p3,.Name tx p4] [] p5) p6,.Assign [.Attribute (.Name sf p7) an p8] (.Name vn p9) p10]
structure Hn(G:Gl)(B fA fS:Addr):Prop extends PI G B where
 gB:specialIn G.K (.ref B) "__getattribute__"=some (some (.builtin "type.__getattribute__"))
 tB:typeIn G.K (.ref B)=some (.type "type")
 rB:readsIn G.K B (.type "type")=true
 iB:findCls G.K (.ref B) (.type "type") "__init__"=some (.val (.ref fA))
 kA:keepIn G.K (.ref fA)=true
 iE:findCls G.K (.type "Exception") (.type "type") "__init__"=some (.val (.builtin "Exception.__init__"))
 xt:findIn G.K (.ref G.fC) "text"=some none
 xl:findIn G.K (.ref G.fC) "line"=some none
 iC:findIn G.K (.ref G.fC) "__init__"=some (some (.ref fS))
 fnS:isFn G.K (.ref fS)=true
 kC:keepIn G.K (.ref G.fC)=true
section
variable{B fA fS:Addr}{x:Addr}
theorem nY{cn:Str}{m:Str->Option Value}{y:Str}{p:Pos}{V:Value}(hk:sc.kind= .function)(hl:sc.names.lookup y=some .local)(hd:(y ==("__debug__":Str))=false)
  (hn:s.heap.Ns L m)(hv:m y=some V)(h:Q V s):wpAny (model G.prog G.w) A (eval (.Name y p) (envOf cn sc L a cd)) Q E s:=
 wpAny_Name (wpAny_loadName_local hk hl hn hv h) hd
theorem yz{x:Addr}{m:Str->Option Value}(hn:h.Ns L m)(hx:L≠x)(k:∀b o,b≠x->h.get? b=some o->h'.get? b=some o):h'.Ns L m:=by refine o8 hn λo es ep e1 e2=> ?_;clear hn;exact⟨o,es,ep,k _ _ hx e1,e2⟩
theorem XO.ne{od:Option Addr}{m:Str->Option Value}(hx:XO G h x od)(hn:h.Ns L m):L≠x:=by refine o8 hx λvs sl a0 ho _=> ?_;clear hx;refine iO hn λo es ep e1 e2 _=> ?_;clear hn;intro z;subst z;rw[ho]at e1;replace e1:=si e1;subst e1;cases e2
theorem BM(hb:G.h₀.StaysIn h)(hx:G.h₀.get? x=none)(k:∀b o,b≠x->h.get? b=some o->h'.get? b=some o):G.h₀.StaysIn h':=λb o e=>k b o (λz=>by rw[z,hx]at e;exact eC e) (hb b o e)
theorem MG{cn:Str}{m:Str->Option Value}{sf tx:Str}{p1 p2 p3 p4 p5 p6 p7 p8 p9 p10:Pos}{V:Value}{Q:Flow->Shared->Prop}(F:Hn G B fA fS)(hk:sc.kind= .function)
  (hex:sc.names.lookup ("Exception":Str)=some .globalImplicit)(hl1:sc.names.lookup sf=some .local)(hl2:sc.names.lookup tx=some .local)(hd1:(sf ==("__debug__":Str))=false)(hd2:(tx ==("__debug__":Str))=false)
  (hmg:G.mg "Exception"=none)(hline:(p2.endLine == p5.line)=true)(hb:G.h₀.StaysIn s.heap)(hLa:G.h₀.objs.size<=L)(hxn:G.h₀.get? x=none)(hn:s.heap.Ns L m)(h1:m sf=some (.ref x))(h2:m tx=some V)(hx:XO G s.heap x none)
  (h:∀h' tk dx,(∀b o,b≠x->s.heap.get? b=some o->h'.get? b=some o)->XO G h' x (some dx)->s.heap.get? dx=none->XD h' dx 1->Q .next { s with heap:=h',toks:=tk }):
  wpAny (model G.prog G.w) A (execs (qP "Exception" "__init__" sf tx "text" tx p1 p2 p3 p4 p5 p6 p7 p8 p9 p10) (envOf cn sc L a cd)) Q E s:=by
 have hLx:L≠x:=hx.ne hn;refine nU (wpAny_Expr_any (sn rfl (by rfl) hline ?_) (by show((sc.kind == .module) && _)=false;rw[hk];rfl) (by rfl));refine Name_function_global hk hex (loadGlobal_builtin (env:=envOf cn sc L a cd) (G.hg.keeps hb) hmg (G.hb.keeps hb) ((G.hbo "Exception" (by decide)).trans (show bootBuiltins "Exception"=some (.type "Exception") by boot_by_name)) λpl=> ?_) (by decide);have Fr1:Fr G.h₀ L s.heap m:=⟨hn,hb,hLa⟩;refine method_type Fr1 G.KX (by first|exact PySem.F.isi_meta_Exception|rfl') (by decide+kernel) F.iE (by decide+kernel) ?_
 refine callWith_builtin rfl (evalArgs_plain (spliced_cons (nY (s:={ s with toks:=s.toks+1 }) hk hl1 hd1 hn h1 (spliced_cons (nY hk hl2 hd2 hn h2 (spliced_nil ?_))))))
 refine iO hx λvs sl a0 ho hv1 hv0=> ?_;clear hx;obtain⟨hh,g,d,t,os⟩:=s;refine MF (rest:=[V]) ((F.made _).keeps hb) ho hv0 (by show 1<=sizeLine;decide) λk hk'=> ?_;subst hk';have ho1:=fc (h:=hh) { cls:= .type "tuple",data:= .seq [V].toArray } ho;have hx1:=Heap.get?_update_self (Obj.mapFields (·.setIfInBounds 0 (.ref hh.objs.size))) ho1 rfl
 have kk:∀b o,b≠x->hh.get? b=some o->((hh.push { cls:= .type "tuple",data:= .seq [V].toArray }).update x (Obj.mapFields (·.setIfInBounds 0 (.ref hh.objs.size)))).get? b=some o:=λb o hb e=>(qF _ _ (Ne.symm hb)).trans (fc _ e)
 have XO1:XO G ((hh.push { cls:= .type "tuple",data:= .seq [V].toArray }).update x (Obj.mapFields (·.setIfInBounds 0 (.ref hh.objs.size)))) x none:=
  ⟨vs.setIfInBounds 0 (.ref hh.objs.size),sl,.ref hh.objs.size,hx1,by rw[Array.getElem?_setIfInBounds_ne (by decide)];exact hv1,by have:=(Array.getElem?_eq_some_iff.mp hv0).1;simp[this]⟩
 refine nU (plainObj_wpAny_Assign_Attribute (nY hk hl2 hd2 (yz hn hLx kk) h2 (nY hk hl1 hd1 (yz hn hLx kk) h1 ?_)) (by rfl));refine MD F.toPI (BM hb hxn kk) XO1 F.xt λh' tk dx k2 hx' hdx hD=>wpAny_execs_nil ?_;refine h h' tk dx (λb o hb e=>k2 b o hb (kk b o hb e)) hx' ?_ hD;cases q:hh.get? dx with
 |none=>rfl
 |some o=>
  by_cases z:dx=x
  ·subst z;rw[hx1]at hdx;exact yr hdx
  ·rw[kk dx o z q]at hdx;exact yr hdx
theorem Sl{cn:Str}{k:Nat}{R:Result->Shared->Prop}(fn:CK G a cn sc cd body ps k [])(hps:∀y ∈ ps,sc.names.lookup y=some .local)(hk:Vs.length=k)(hb:G.h₀.StaysIn s.heap)(hsz:G.h₀.objs.size<=s.heap.objs.size)(hroom:A.depth<1000)
  (h:∀L h₁ tk,s.heap.get? L=none->G.h₀.objs.size<=L->h₁.Ns L (λy=>(ps.zip Vs).reverse.lookup y)->(∀b o,s.heap.get? b=some o->h₁.get? b=some o)->
   wpAny (model G.prog G.w) (A.deeper (envOf cn sc L a cd)) (execs body (envOf cn sc L a cd)) (λfl s'=>R (.ok (.ret (match fl with| .ret v=>v|_=> .none))) s')
    (λe s'=>wpAny (model G.prog G.w) (A.deeper (envOf cn sc L a cd)) (leaving (envOf cn sc L a cd) e) (λ_ s''=>R (.error e) s'') (λe' s''=>R (.error e') s'') s') { s with heap:=h₁,toks:=tk }):
  codeAny (model G.prog G.w) A (.call (.ref a) ⟨Vs,[]⟩) R s:=by
 refine vw fn.fn λo fd h1 h2 h3 ez1 ez2 ez3 h7 h8 h9 h10=> ?_;subst ez1;subst ez2;subst ez3;refine eN (h10 s Vs hb hk) λDs hD hbd=> ?_;cases hD;rw[gD]at hbd;refine codeAny_call_def hroom (hb _ _ h1) h2 (G.lim.keeps hb) (fn.code.keeps hb) h3 hbd fn.cell (λx hx=>hps x.1 (List.of_mem_zip (show(x.1,x.2) ∈ _ from hx)).1) (λh₁ hns hkeep=> ?_) fn.co fn.gen fn.kind
 have henv:callEnv fd s.heap.objs.size a=envOf fd.qualname fd.scope s.heap.objs.size a fd.code:=by unfold callEnv newEnv envOf;simp only[h7,h8,h9]
 rw[henv];exact h s.heap.objs.size h₁ _ (fN _) hsz hns hkeep
structure uS(G:Gl)(a:Addr)(cn:Str)(sc:Scope)(cd:Value)(ps:List Str)(own:Str)(body:List Stmt):Prop where
 fn:CK G a cn sc cd body ps ps.length []
 aa:∀y ∈ ps,sc.names.lookup y=some .local
 glob:sc.names.lookup own=some .globalImplicit
theorem XO.keepE{od:Option Addr}(hx:XO G h x od)(k:∀b o,h.get? b=some o->h'.get? b=some o):XO G h' x od:=by refine iO hx λvs sl a0 ho h1 h0=> ?_;clear hx;exact⟨vs,sl,a0,k _ _ ho,h1,h0⟩
theorem MH{cn:Str}{p1 p2 p3 p4 p5 p6 p7 p8 p9 p10:Pos}{V:Value}{R:Result->Shared->Prop}(F:Hn G B fA fS)
  (I:uS G fA cn sc cd ["self","text"] "Exception" (qP "Exception" "__init__" "self" "text" "text" "text" p1 p2 p3 p4 p5 p6 p7 p8 p9 p10))(hmg:G.mg "Exception"=none)(hline:(p2.endLine == p5.line)=true)
  (hb:G.h₀.StaysIn s.heap)(hsz:G.h₀.objs.size<=s.heap.objs.size)(hroom:A.depth<1000)(hxn:G.h₀.get? x=none)(hx:XO G s.heap x none)
  (h:∀h' tk dx,(∀b o,b≠x->s.heap.get? b=some o->h'.get? b=some o)->XO G h' x (some dx)->s.heap.get? dx=none->XD h' dx 1->R (.ok (.ret .none)) { s with heap:=h',toks:=tk }):
  codeAny (model G.prog G.w) A (.call (.ref fA) ⟨[.ref x,V],[]⟩) R s:=by
 refine Sl I.fn I.aa rfl hb hsz hroom λL h₁ tk hL hLa hns hk=> ?_;refine MG (s:={ s with heap:=h₁,toks:=tk }) F I.fn.kind I.glob (I.aa _ (by simp)) (I.aa _ (by simp)) (by decide) (by decide) hmg hline (λb o e=>hk b o (hb b o e)) hLa hxn hns (V:=V) (by rfl) (by rfl) (hx.keepE hk) λh' tk' dx k2 hx' hdx hD=> ?_
 refine h h' tk' dx (λb o hb e=>k2 b o hb (hk b o e)) hx' ?_ hD;cases q:s.heap.get? dx with
 |none=>rfl
 |some o=>
  have hdx:h₁.get? dx=none:=hdx;rw[hk dx o q]at hdx;exact yr hdx
theorem MI{cn cnA:Str}{scA:Scope}{cdA:Value}{p1 p2 p3 p4 p5 p6 p7 p8 p9 p10 q1 q2 q3 q4 q5 q6 q7 q8 q9 q10:Pos}{V W:Value}{R:Result->Shared->Prop}(F:Hn G B fA fS)
  (IA:uS G fA cnA scA cdA ["self","text"] "Exception" (qP "Exception" "__init__" "self" "text" "text" "text" p1 p2 p3 p4 p5 p6 p7 p8 p9 p10))(hmg:G.mg "Exception"=none)(hline:(p2.endLine == p5.line)=true)
  (I:uS G fS cn sc cd ["self","line","text"] "AdaError" (qP "AdaError" "__init__" "self" "text" "line" "line" q1 q2 q3 q4 q5 q6 q7 q8 q9 q10))(hmgA:G.mg "AdaError"=some (.ref B))(hlineA:(q2.endLine == q5.line)=true)
  (hb:G.h₀.StaysIn s.heap)(hsz:G.h₀.objs.size<=s.heap.objs.size)(hroom:A.depth+1<1000)(hxn:G.h₀.get? x=none)(hx:XO G s.heap x none)
  (h:∀h' tk dx,(∀b o,b≠x->s.heap.get? b=some o->h'.get? b=some o)->XO G h' x (some dx)->R (.ok (.ret .none)) { s with heap:=h',toks:=tk }):
  codeAny (model G.prog G.w) A (.call (.ref fS) ⟨[.ref x,V,W],[]⟩) R s:=by
 refine Sl I.fn I.aa rfl hb hsz ((lx (.t A0 A2) [.t (.a A0 A3) A1,.g (.a A1 K1) (.a A2 (.a A3 K1))]) hroom rfl) λL h₁ tk hL hLa hns hk=> ?_;have be:G.h₀.StaysIn h₁:=λb o e=>hk b o (hb b o e);have bp:=hx.keepE hk;have hLx:L≠x:=bp.ne hns;have l1:sc.names.lookup ("self":Str)=some .local:=I.aa _ (by simp);have l2:sc.names.lookup ("line":Str)=some .local:=I.aa _ (by simp);have l3:sc.names.lookup ("text":Str)=some .local:=I.aa _ (by simp);have hk':=I.fn.kind;refine nU (wpAny_Expr_any (sn rfl (by rfl) hlineA ?_) (by show((sc.kind == .module) && _)=false;rw[hk'];rfl) (by rfl));refine Name_function_global hk' I.glob (loadGlobal_global (env:=envOf cn sc L fS cd) (s:={ s with heap:=h₁,toks:=tk }) (G.hg.keeps be) hmgA λpl=> ?_) (by decide)
 have Fr1:Fr G.h₀ L h₁ _:=⟨hns,be,hLa⟩;refine method_of_cls (s:={ s with heap:=h₁,toks:=tk }) Fr1 G.KX F.gB (cls_val (s:={ s with heap:=h₁,toks:=tk }) Fr1 G.KX F.tB F.rB F.iB rfl ?_)
 refine callWith_K G.KX F.kA ?_ rfl rfl;refine spliced_cons (nY (s:={ s with heap:=h₁,toks:=tk+1 }) hk' l1 (by decide) hns (by rfl) (spliced_cons (nY (s:={ s with heap:=h₁,toks:=tk+1 }) hk' l3 (by decide) hns (by rfl) (spliced_nil ⟨G.KX.keeps be,?_⟩))))
 refine wpAny_call (MH (s:={ s with heap:=h₁,toks:=tk+1 }) F IA hmg hline be ?_ (by show A.depth+1<1000;exact hroom) hxn bp λh' tk' dx k2 hx' hdx hD=> ?_)
 ·exact Nat.le_of_lt (Nat.lt_of_le_of_lt hLa hns.lt)
 have k2':∀b o,b≠x->h₁.get? b=some o->h'.get? b=some o:=k2;refine nU (plainObj_wpAny_Assign_Attribute (nY (s:={ s with heap:=h',toks:=tk' }) hk' l2 (by decide) (yz hns hLx k2') (by rfl) (nY (s:={ s with heap:=h',toks:=tk' }) hk' l1 (by decide) (yz hns hLx k2') (by rfl) ?_)) (by rfl))
 refine ME (s:={ s with heap:=h',toks:=tk' }) F.toPI (BM be hxn k2') hx' hD (by decide) F.xl λh'' tk'' k3 hD'=>wpAny_execs_nil ?_
 have hdx:h₁.get? dx=none:=hdx
 have hxd:x≠dx:=λz=>by refine o8 bp λvs sl a0 ho _=> ?_;clear bp;rw[z,hdx]at ho;exact eC ho
 refine h h'' tk'' dx (λb o hb e=>k3 b o (λz=> ?_) (k2' b o hb (hk b o e))) ?_
 ·rw[z]at e;rw[hk dx o e]at hdx;exact yr hdx
 ·refine iO hx' λvs sl a0 ho h1 h0=> ?_;clear hx';exact⟨vs,sl,a0,k3 x _ hxd ho,h1,h0⟩
theorem Ho{cn cnA:Str}{scA:Scope}{cdA:Value}{p1 p2 p3 p4 p5 p6 p7 p8 p9 p10 q1 q2 q3 q4 q5 q6 q7 q8 q9 q10:Pos}{V W:Value}{R:Result->Shared->Prop}(F:Hn G B fA fS)
  (IA:uS G fA cnA scA cdA ["self","text"] "Exception" (qP "Exception" "__init__" "self" "text" "text" "text" p1 p2 p3 p4 p5 p6 p7 p8 p9 p10))(hmg:G.mg "Exception"=none)(hline:(p2.endLine == p5.line)=true)
  (I:uS G fS cn sc cd ["self","line","text"] "AdaError" (qP "AdaError" "__init__" "self" "text" "line" "line" q1 q2 q3 q4 q5 q6 q7 q8 q9 q10))(hmgA:G.mg "AdaError"=some (.ref B))(hlineA:(q2.endLine == q5.line)=true)
  (hb:G.h₀.StaysIn s.heap)(hsz:G.h₀.objs.size<=s.heap.objs.size)(hroom:A.depth+3<1000)
  (h:∀h' tk x,(∀b o,s.heap.get? b=some o->h'.get? b=some o)->s.heap.get? x=none->EK G s.heap h' x->R (.ok (.ret (.ref x))) { s with heap:=h',toks:=tk }):
  codeAny (model G.prog G.w) A (.call (.ref G.fC) ⟨[V,W],[]⟩) R s:=by
 obtain⟨hh,g,d,t,os⟩:=s;have X:=G.KX.keeps hb;have k:∀(o1 o2:Obj) b o,hh.get? b=some o->((hh.push o1).push o2).get? b=some o:=λo1 o2 b o e=>fc _ (fc _ e);refine MC ((F.made _).keeps hb) (looks_findIn X F.iC) (λself=>bind_fn X self (kc.mp F.fnS)) (by show 2<=sizeLine;decide) ?_;have hfr:hh.get? (hh.objs.size+1)=none:=Heap.get?_none_of_le (Nat.le_succ _);have hget:((hh.push { cls:= .type "tuple",data:= .seq [V,W].toArray }).push (rI G.fC hh.objs.size)).get? (hh.objs.size+1)=some (rI G.fC hh.objs.size):=by heap_get
 refine MI (x:=hh.objs.size+1) (s:=⟨(hh.push { cls:= .type "tuple",data:= .seq [V,W].toArray }).push (rI G.fC hh.objs.size),g,d,t,os⟩) F IA hmg hline I hmgA hlineA (λb o e=>k _ _ b o (hb b o e)) ?_ ?_ ?_ ?_ λh' tk dx kk hx'=> ?_
 ·show G.h₀.objs.size<=_;simp only[Heap.size_push];have hsz:G.h₀.objs.size<=hh.objs.size:=hsz;exact(ie (.l A0 (.a (.a A1 K1) K1)) [.l A0 A1]) hsz
 ·show A.depth+(Code.builtin "type.__call__" ⟨.ref G.fC::[V,W],[]⟩).weight+1<1000;rw[BL];exact(lE (.t (.a (.a A0 K1) K1) (.k 1000)) [.t (.a A0 (.k 3)) (.k 1000)]) hroom
 ·cases q:G.h₀.get? (hh.objs.size+1)with
  |none=>rfl
  |some o=>have:=hb _ o q;rw[show Shared.heap ⟨hh,g,d,t,os⟩=hh from rfl,hfr]at this;exact eC this
 ·exact⟨_,_,_,hget,rfl,rfl⟩
 ·refine⟨rfl,?_⟩;refine iO hx' λvs sl a0 ho h1 h0=> ?_;clear hx';refine h h' tk (hh.objs.size+1) (λb o e=>kk b o (λz=> ?_) (k _ _ b o e)) hfr ⟨hfr,_,vs,a0,ho,rfl,rfl,h1,h0⟩;rw[z]at e;exact absurd (kH e) (Nat.not_lt.mpr (Nat.le_succ _))
end
end
section
variable{f:Fm}{aa:List (Option PV)}
def jS(G:Gl)(n:Nat)(a:Addr)(sem:List PV->M Unit):Prop:=
 ∀(f:Fm)(A:Around)(ag:List Env)(Ls ad:List Addr)(σ:List MO)(s:Shared)(R:Result->Shared->Prop)(vs:List PV)(Vs:List Value)(σ':List MO),
  wI G A n f ag Ls->St G (f.L::Ls) ad σ s.heap->jA G s.heap ad vs Vs->sem vs σ=some (.ok (),σ')->
  (∀x h' tk ad',St G (f.L::Ls) ad' σ' h'->dE (f.L::Ls) ad ad' s.heap h'->EK G s.heap h' x->R (.ok (.ret (.ref x))) { s with heap:=h',toks:=tk })->
  codeAny (model G.prog G.w) A (.call (.ref a) ⟨Vs,[]⟩) R s
def CP(m1 m2:M PV):M Unit:=bnd (ja [m1,m2]) λ_=>ret ()
theorem MJ:∀{σ σ':List MO}{b:List PV},ja ms σ=some (.ok b,σ')->b.length=ms.length:=by
 induction ms with
 |nil=>intro σ σ' b e;exact oA (ky e) λe _=>dN List.length (R.ok.inj e)
 |cons m ms ih=>
  intro σ σ' b e;refine(nE e).elim (λ⟨_,_,_,e⟩=> ?_) λz=>nomatch z.2;refine(nE e).elim (λ⟨_,_,e1,e2⟩=> ?_) λz=>nomatch z.2;exact oA (ky e2) λe3 _=>(dN List.length (R.ok.inj e3)).trans (dN (· +1) (ih e1))
theorem Tx{C:Prop}{l:List α}(h:l.length=2)(k:∀x y,l=[x,y]->C):C:=by
 cases l with
 |nil=>exact nomatch h
 |cons x l=>cases l with
  |nil=>exact nomatch h
  |cons y l=>cases l with
   |nil=>exact k x y rfl
   |cons z l=>exact nomatch h
theorem MK{B fA fS:Addr}{cn:Str}{k:Nat}{e1 e2:cP}{sfn:Str}{p1 p6 p7:Pos}{m1 m2:List PV->M PV}
  (F:Hn G B fA fS)(mk:∀(A:Around) (s:Shared) (V W:Value) (R:Result->Shared->Prop),G.h₀.StaysIn s.heap->G.h₀.objs.size<=s.heap.objs.size->A.depth+3<1000->
   (∀h' tk x,(∀b o,s.heap.get? b=some o->h'.get? b=some o)->s.heap.get? x=none->EK G s.heap h' x->R (.ok (.ret (.ref x))) { s with heap:=h',toks:=tk })->codeAny (model G.prog G.w) A (.call (.ref G.fC) ⟨[V,W],[]⟩) R s)
  (fn:CK G a cn sc cd [.Return (some (.Call (.Name sfn p1) [e1,e2] [] p6)) p7] ps k ds)(hn:(ps++more).Nodup)(hl:∀x ∈ ps++more,sc.names.lookup x=some .local)
  (hsf:sc.names.lookup sfn=some .globalImplicit)(hsd:(sfn ==("__debug__":Str))=false)(hmg:G.mg sfn=some (.ref G.fC))(h1:W.isStarred e1=false)(h2:W.isStarred e2=false)
  (ok:∀vs L,vs.length=k->dR G (n+3) ⟨cn,sc,L,a,cd,ps++more⟩ (eR vs ds more.length) e1 (m1 vs)/\dR G (n+3) ⟨cn,sc,L,a,cd,ps++more⟩ (eR vs ds more.length) e2 (m2 vs)):
  jS G (n+4) a (λvs=>if vs.length=k then CP (m1 vs) (m2 vs)else cU):=by
 intro f A ag Ls ad σ s R vs Vs σ' C S rv e P;have e:(if vs.length=k then CP (m1 vs) (m2 vs)else cU) σ=some (Internal.R.ok (),σ'):=e;by_cases hk:vs.length=k
 case neg=>rw[cJ hk]at e;exact eC e
 rw[cH hk]at e;refine ET fn hn hl hk C S rv λL h₁ tk hfr hkeep C' ai Lc=> ?_;have aP:dE (f.L::Ls) ad ad s.heap h₁:=dE.of_keep hkeep;have hkind:sc.kind= .function:=fn.kind;refine nU (wpAny_Return_some (nS (Name_function_global hkind hsf (loadGlobal_global (env:=envOf cn sc L a cd) (s:={ s with heap:=h₁,toks:=tk }) (G.hg.keeps ai.base) hmg ?_) hsd)))
 have hs:jy G (n+3) ⟨cn,sc,L,a,cd,ps++more⟩ (eR vs ds more.length) [e1,e2] [m1 vs,m2 vs]:= .cons h1 (ok vs L hk).1 (.cons h2 (ok vs L hk).2 .nil);refine callWith_K (G.KX.keeps ai.base) F.kC ?_ (eb h1) (jy.plain (jy.cons h2 (ok vs L hk).2 .nil));rcases nE e with⟨b,σ₁,e3,e4⟩|⟨_,e4⟩
 case inr=>cases e4
 refine oA (ky e4) λ_ ez1=> ?_;subst ez1;refine oP hs _ _ _ ad σ { s with heap:=h₁,toks:=tk } _ _ _ _ C' ai Lc e3 λWs ar aE aD aq aB rw=>⟨G.KX.keeps aq.base,?_⟩
 have hlen:=rw.length;have hd':=C'.hd;rw[MJ e3]at hlen;refine Tx hlen λV W ez=> ?_;subst ez;refine wpAny_call (mk _ { s with heap:=ar,toks:=aE } V W _ aq.base aq.size ?_ λau aH x bz hx fl=> ?_)
 ·exact(ie (.t (.a A0 (.k 3)) (.k 1000)) [.t (.a A0 (.a A1 (.k 3))) (.k 1000)]) hd'
 ·have ay:=aq.of_keep bz;have aC:dE (L::f.L::Ls) aD aD ar au:=dE.of_keep bz;have q:dE (f.L::Ls) ad aD s.heap au:=iG.out hkeep hfr ((aB.trans aC).toS (gE.mp ai.fnd).1);exact P x au aH aD ay.tail q (fl.back λb z=>(iG.out hkeep hfr (aB.toS (gE.mp ai.fnd).1)).ex b z)
noncomputable def uT(m:M Unit):M Fl:=λσ=>match m σ with
 |some (.ok _,σ')=>some (.exc,σ')
 |_=>none
theorem Hp{m:M Unit}{r:R Fl}(e:uT m σ=some (r,σ')):m σ=some (.ok (),σ')/\r= .exc:=by
 have e:(match(generalizing:=false) m σ with|some (.ok _,τ)=>some (R.exc,τ)|_=>none)=some (r,σ'):=e
 generalize m σ=o at e ⊢;cases o with
 |none=>exact eC e
 |some p=>cases p with
  |mk a τ=>cases a with
   |ok u=>exact⟨dN some (dN (Prod.mk _) (Prod.mk.inj (si e)).2),(Prod.mk.inj (si e)).1.symm⟩
   |exc=>exact eC e
theorem ML{x:Str}{cp:Pos}{sem:List PV->M Unit}(F:∀M,ku M G.h₀ G.fC)(hx:f.cs.names.lookup x=some .globalImplicit)(hg:G.mg x=some (.ref a))(hd:(x ==("__debug__":Str))=false)(hkp:keepIn G.K (.ref a)=true)
  (hs:jy G n f aa es ms)(hne:es≠[])(hc:jS G n a sem):jB G n f aa (.Raise (some (.Call (.Name x np) es [] cp)) none pos) (bnd (ja ms) λvs=>uT (sem vs)):=by
 intro A ag Ls ad σ s Q E r σ' hE C S Lc er P;have hLF:f.L ∉ Ls:=(gE.mp S.fnd).1;show wpAny _ _ (do standAt pos;raiseStmt f.env (some (do let v <-eval (.Call (.Name x np) es [] cp) f.env;standAt pos;pure v)) none) _ _ _;refine cQ (iN (Hl (C:=G.fC) C.hh (cQ ?_)));refine nS (Name_function_global C.hk hx (loadGlobal_global (env:=f.env) (G.hg.keeps S.base) hg ?_) hd);cases hs with
 |nil=>exact absurd rfl hne
 |cons h0 h1 hs=>
  refine callWith_K (G.KX.keeps S.base) hkp ((oP (.cons h0 h1 hs)).thnS C S Lc er P λvs Vs h₁ tk₁ ak σ₁ ai ax rv am aj al=>⟨G.KX.keeps ai.base,?_⟩) (eb h0) hs.plain;refine oA (Hp aj) λe2 ez=> ?_;clear aj;subst ez;refine wpAny_call (hc f A ag Ls ak σ₁ { s with heap:=h₁,toks:=tk₁ } _ vs Vs σ' C ai rv e2 λy h' tk ad' S' p' fl=> ?_)
  refine cQ (iN (dc ?_));have fl':=fl;refine J9 fl' λ_ ob vs' a0 g1 g2 g3 g4 g5=> ?_;clear fl';refine⟨y,ob,vs',rfl,g1,g2,g3,g4,(F _).keeps S'.base,?_⟩;exact al y h' tk ad' S' (p'.toS hLF) (.inl fl)
end
section
variable{f:Fm}{aa:List (Option PV)}
theorem E0{hs:Heap}{x:Addr}{fl:Value}(hb:G.h₀.StaysIn hs)(F:yJ G hs h x fl):∃T,vE G h [x,T]/\(∀y ∈ [x,T],hs.get? y=none):=by
 have fresh0:∀b,hs.get? b=none->G.h₀.get? b=none:=λb e=>by
  cases q:G.h₀.get? b with
  |none=>rfl
  |some o=>rw[hb b o q]at e;exact yr e
 refine ls F λh1 a0 oe vs T oT ts h2 oz1 h4 h5 h6 h7 h8 h9 h10=> ?_;clear F;obtain⟨h3,h3'⟩:=oz1
 have hY:∀y ∈ [x,T],hs.get? y=none:=λy m=>by
  rcases dj.mp m with rfl|m
  ·exact h1
  ·cases ff.mp m;exact h6
 refine⟨T,⟨λy m=>fresh0 y (hY y m),λy m o e=> ?_⟩,hY⟩;rcases dj.mp m with rfl|m
 ·rw[h2]at e;replace e:=si e;subst e;exact⟨_,h4⟩
 ·cases ff.mp m;rw[h8]at e;replace e:=si e;subst e;exact⟨_,h9⟩
theorem BN{hs:Heap}{x:Addr}{fl:Value}{Q:Unit->Shared->Prop}{M:Model}
  (hb:G.h₀.StaysIn hs)(hk:∀b,s.heap.get? b=none->hs.get? b=none)(fly:yJ G hs s.heap x fl)
  (hQ:∀h' Y,vE G s.heap Y->(∀y ∈ Y,hs.get? y=none)->oO Y F s.heap h'->(∀b,h'.get? b=none->hs.get? b=none)->yJ G hs h' x .none->Q () { s with heap:=h' }):
  wpAny M A (setFlight (.ref x) none) Q E s:=by
 refine eN (E0 hb fly) λT RY hY=> ?_;refine ls fly λh1 a0 oe vs T' oT ts h2 h3 h4 h5 h6 h7 h8 h9 h10=> ?_;clear fly;unfold setFlight;refine cQ (wpAny_field h2 h4 h5 ?_);rw[cH (show(Value.ref T' != Value.none)=true from by simp)];have hsz:3<ts.size:=(Array.getElem?_eq_some_iff.mp h10).1;refine wpAny_setField h8 h9 hsz ?_;have other:∀b,b≠T'->(s.heap.update T' (Obj.mapFields (·.setIfInBounds 3 ((none:Option Addr).elim Value.none λf=>rawInt f)))).get? b=s.heap.get? b:=λb hb=>qF _ _ (Ne.symm hb)
 have RT:vE G s.heap [T']:=by
  refine⟨λy m=> ?_,λy m o e=> ?_⟩
  ·cases ff.mp m;cases q:G.h₀.get? T' with
   |none=>rfl
   |some o=>rw[hb T' o q]at h6;exact yr h6
  ·cases ff.mp m;rw[h8]at e;replace e:=si e;subst e;exact⟨_,h9⟩
 have hself:=Heap.get?_update_self (Obj.mapFields (·.setIfInBounds 3 ((none:Option Addr).elim Value.none λf=>rawInt f))) h8 (Obj.isFreed_of_fields (Obj.data_mapFields h9 _))
 refine hQ _ [T'] RT (λy m=>by cases ff.mp m;exact h6) ⟨λb o e h1 _=>(other b (λz=>h1 (z▸.head _))).trans e,λb o e _ h2=>⟨o.slots,(other b (λz=>h2 (z▸.head _))).trans e⟩⟩ (λb e=> ?_) ?_
 ·by_cases z:b=T'
  ·rw[z];exact h6
  ·exact hk b ((other b z).symm.trans e)
 ·exact⟨h1,a0,oe,vs,T',_,_,(other x (Ne.symm h7)).trans h2,h3,h4,h5,h6,h7,hself,Obj.data_mapFields h9 _,by simp[hsz]⟩
theorem BO{envs:List Env}{hs:Heap}{x:Addr}{fl a0:Value}{Y:List Addr}(S:St G F ad σ h)(hk:∀b,h.get? b=none->hs.get? b=none)(RY:vE G h Y)(hY:∀y ∈ Y,hs.get? y=none)(hx:x ∈ Y)
  (k:Heap.NotedW (hideAll h (Y++F)) envs x (.ref G.fC) a0 fl h h'):oO Y F h h'/\(∀b,h'.get? b=none->hs.get? b=none)/\yJ G hs h' x fl:=by
 refine S4 k λk1 k2 k3 k4=> ?_;clear k
 have P:oO Y F h h':=⟨λb o e h1 h2=>k1 b o (hideAll_get _ e λm=>(eF.mp m).elim h1 h2),λb o e h1 h2=>by refine o7 (S.frs b h1) λ_ o' e' es n hd=> ?_;rw[e]at e';replace e':=si e';subst e';exact k4 b o e λvs z=>by rw[hd]at z;cases z⟩
 refine sR k3 λoe' vs' T' oT' ts' c1 oz1 c3 c4 c5 c6 c7 c8 c9=> ?_;clear k3;obtain⟨c2,c2'⟩:=oz1
 have ex:∀b,h'.get? b=none->hs.get? b=none:=λb e=>by
  by_cases m:b ∈ Y
  ·exact hY b m
  ·exact hk b (P.fresh e m)
 refine⟨P,ex,hY x hx,a0,oe',vs',T',oT',ts',c1,⟨c2,c2'⟩,c3,c4,?_,c6,c7,c8,c9⟩;cases q:hs.get? T' with
 |none=>rfl
 |some o=>
  exfalso
  cases q2:h.get? T' with
  |none=>rw[hk T' q2]at q;exact eC q
  |some o2=>
   have m:T' ∈ Y++F:=sQ λm=>by have:=hideAll_get (Y++F) q2 m;rw[c5]at this;exact eC this
   rcases eF.mp m with m|m
   ·rw[hY T' m]at q;exact eC q
   ·refine o7 (S.frs T' m) λ_ o3 e3 es n hd=> ?_;refine oE (P.slots T' o3 e3 m (RY.not_F S · m)) λsl e4=> ?_
    rw[c7]at e4;replace e4:=si e4;subst e4;rw[hd]at c8;cases c8
theorem Kr{env:Env}{hs:Heap}{x:Addr}{Q:Unit->Shared->Prop}{M:Model}
  (hA:A.frames=some (env::ag))(hL:env.frame=some L)(out:ag.map (·.frame)=Ls.map some)(kinds:∀e ∈ env::ag,e.scope.kind≠.module)
  (S:St G (L::Ls) ad σ s.heap)(hb:G.h₀.StaysIn hs)(hk:∀b,s.heap.get? b=none->hs.get? b=none)(fl:Hg G hs s.heap x)
  (hQ:∀h' Y,vE G s.heap Y->(∀y ∈ Y,hs.get? y=none)->oO Y (L::Ls) s.heap h'->(∀b,h'.get? b=none->hs.get? b=none)->yJ G hs h' x (rawInt L)->Q () { s with heap:=h' }):
  wpAny M A (noteFrame (.ref x) env) Q E s:=by
 have fresh0:∀b,hs.get? b=none->G.h₀.get? b=none:=λb e=>by
  cases q:G.h₀.get? b with
  |none=>rfl
  |some o=>rw[hb b o q]at e;exact yr e
 have funF:∀Y:List Addr,s.heap.FunFrames (hideAll s.heap (Y++(L::Ls))) (env::ag):=λY=>rF (F:=L::Ls) (by simp[hL,out]) kinds λb m=>⟨hideAll_none _ (eF.mpr (.inr m)),(S.frs b m).2⟩;rcases fl with⟨h1,oe,vs,a0,h2,h3,h4,h5,h6⟩|fly
 ·have RY:vE G s.heap [x]:=by
   refine⟨λy m=> ?_,λy m o e=> ?_⟩
   ·cases ff.mp m;exact fresh0 x h1
   ·cases ff.mp m;rw[h2]at e;replace e:=si e;subst e;exact⟨_,h4⟩
  have hY:∀y ∈ [x],hs.get? y=none:=λy m=>by cases ff.mp m;exact h1
  unfold noteFrame;simp only[hL];refine cQ (wpAny_field h2 h4 h5 ?_);rw[cJ (by decide)];refine wpAny_entryW (base:=hideAll s.heap ([x]++(L::Ls))) hA (funF [x]) hL h2 (λb o q=>of_hideAll _ q) (hideAll_none _ (eF.mpr (.inl (.head _)))) h4 (Array.getElem?_eq_some_iff.mp h5).1 h6 λh' k=> ?_;refine wB (BO S hk RY hY (.head _) (h3▸k)) λP ex F=> ?_;exact hQ h' [x] RY hY P ex F
 ·refine eN (E0 hb fly) λT RY hY=> ?_;refine ls fly λh1 a0 oe vs T' oT ts h2 h3 h4 h5 h6 h7 h8 h9 h10=> ?_;clear fly
  have RY2:vE G s.heap [x,T']:=by
   refine⟨λy m=> ?_,λy m o e=> ?_⟩
   ·rcases dj.mp m with rfl|m
    ·exact fresh0 _ h1
    ·cases ff.mp m;exact fresh0 _ h6
   ·rcases dj.mp m with rfl|m
    ·rw[h2]at e;replace e:=si e;subst e;exact⟨_,h4⟩
    ·cases ff.mp m;rw[h8]at e;replace e:=si e;subst e;exact⟨_,h9⟩
  have hY2:∀y ∈ [x,T'],hs.get? y=none:=λy m=>by
   rcases dj.mp m with rfl|m
   ·exact h1
   ·cases ff.mp m;exact h6
  refine wpAny_noteFrame_onW (base:=hideAll s.heap ([x,T']++(L::Ls))) hA (funF _) hL ⟨oe,vs,T',oT,ts,h2,h3,h4,h5,hideAll_none _ (eF.mpr (.inl (.tail _ (.head _)))),h7,h8,h9,h10⟩ (λb o q=>of_hideAll _ q) (hideAll_none _ (eF.mpr (.inl (.head _)))) λh' k=> ?_;refine wB (BO S hk RY2 hY2 (.head _) k) λP ex F=> ?_;exact hQ h' _ RY2 hY2 P ex F
theorem MM{M:Model}{C x:Addr}{oe:Obj}{Q:Bool->Shared->Prop}(Y:ku M s.heap C)(hx:s.heap.get? x=some oe)(hc:oe.cls= .ref C)(h:Q true s):wpAny M A (excMatches (.ref x) (.ref C)) Q E s:=by
 obtain⟨hp,g,d,t,os⟩:=s;refine Y.on λod cd sl hC e1 e2 e4 made base self exc bexc noAttr noName call typ=> ?_;clear Y;have hC:hp.get? C=_:=hC;have f:=tc_notTuple;obtain⟨oc,od',dt,sl'⟩:=oe;subst hc;have t1:Looks M hp (typeOf (.ref x)) (.ref C):=(Looks.ld hx).andThen .now;have t2:Looks M hp (typeOf (.ref C)) (.type "type"):=(Looks.ld hC).andThen .now;unfold excMatches
 repeat (first|simp only[jf,if_false,Bool.not_true]|lk|wp_step)
 all_goals exact h
noncomputable def CQ(mb:M Fl):M Fl:=λσ=>match mb σ with
 |some (.ok fl,σ')=>some (.ok fl,σ')
 |some (.exc,σ')=>some (.ok (.ret (.d .none)),σ')
 |none=>none
theorem iG.recs{Y:List Addr}(p:iG L Ls ad ad' h h₁)(hn:∀y ∈ Y,h.get? y=none)(P:oO Y (L::Ls) h₁ h')(ex:∀b,h'.get? b=none->h.get? b=none):iG L Ls ad ad' h h':=by
 refine⟨p.pre,⟨λb o e h1 h2=> ?_,λb o e h1 h2=> ?_⟩,p.new,ex⟩
 ·refine P.keep b o (p.pres.keep b o e h1 h2) (λz=>by rw[hn b z]at e;exact eC e) (λz=> ?_);rcases dj.mp z with rfl|z
  ·exact h1 (.head _)
  ·exact h2 z
 ·refine oE (p.pres.slots b o e h1 h2) λsl e'=> ?_;refine oE (P.slots b _ e' (.tail _ h1) (λz=>by rw[hn b z]at e;exact eC e)) λsl' e''=> ?_;exact⟨sl',e''⟩
theorem Ty{c:Str}{p rp hp:Pos}{k:Nat}{mb:M Fl}(F:∀M,ku M G.h₀ G.fC)(hx:f.cs.names.lookup c=some .globalImplicit)(hg:G.mg c=some (.ref G.fC))(hd:(c ==("__debug__":Str))=false)(hb:ow G n f aa body mb):
  jB G n f aa (.Try body [.ExceptHandler (some (.Name c np)) none [.Return (some (.Constant .none k p)) rp] hp] [] [] pos) (CQ mb):=by
 intro A ag Ls ad σ s Q E r σ' hE C S Lc er P
 have hkinds:∀e ∈ f.env::ag,e.scope.kind≠.module:=λe z=>by
  rcases dj.mp z with rfl|z
  ·show f.cs.kind≠.module;rw[C.hk];decide
  ·exact C.kinds e z
 refine wpAny_Try_except ?_;unfold CQ at er
 have main:∀{x:Addr}{h':Heap}{tk:Nat}{ad':List Addr}{σ₁:List MO},St G (f.L::Ls) ad' σ₁ h'->iG f.L Ls ad ad' s.heap h'->Hg G s.heap h' x->
   (∀h'' tk'',St G (f.L::Ls) ad' σ₁ h''->iG f.L Ls ad ad' s.heap h''->Q (.ret .none) { s with heap:=h'',toks:=tk'' })->
   wpAny (model G.prog G.w) A (noteFrame (.ref x) f.env) (λ_ aO=>wpAny (model G.prog G.w) A (setFlight (.ref x) none) (λ_ aT=>wpAny (model G.prog G.w) A (handleBy (.ref x) f.env [.ExceptHandler (some (.Name c np)) none [.Return (some (.Constant .none k p)) rp] hp]) Q E aT) E aO) E { s with heap:=h',toks:=tk }:=by
  intro x h' tk ad' σ₁ S' p' fl kF;refine Kr (s:={ s with heap:=h',toks:=tk }) C.hA rfl C.out hkinds S' S.base p'.ex fl λar ck ca bX aA bG ce=> ?_
  have aq:=(S'.recs ca aA).1;have aB:=p'.recs bX aA bG;refine BN (F:=f.L::Ls) (s:={ s with heap:=ar,toks:=tk }) S.base bG ce λau cj b9 bW aM bF bK=> ?_
  have ay:=(aq.recs b9 aM).1;have aC:=aB.recs bW aM bF;refine wpAny_handleBy_cons (codeAny_handlers_test ?_) (by intro q;cases q);refine Name_function_global C.hk hx (loadGlobal_global (env:=f.env) (s:={ s with heap:=au,toks:=tk }) (G.hg.keeps ay.base) hg ?_) hd
  refine GY (id bK) λ_ a0 oe vs _ _ _ g2 oz1 _=> ?_;obtain⟨g3,_⟩:=oz1;refine MM (s:={ s with heap:=au,toks:=tk }) ((F _).keeps ay.base) g2 g3 ?_
  refine codeAny_handlers_suite (BN (F:=f.L::Ls) (s:={ s with heap:=au,toks:=tk }) S.base bF bK λaN ch b8 bV a8 b4 cm=> ?_)
  have aX:=(ay.recs b8 a8).1;have aQ:=aC.recs bV a8 b4;exact nU (wpAny_Return_some (dc (kF aN tk aX aQ)))
 have hE':PassesOwn (model G.prog G.w) A f.env (λe aJ=>wpAny (model G.prog G.w) A (noteFrame e f.env) (λ_ aO=>wpAny (model G.prog G.w) A (setFlight e none) (λ_ aT=>wpAny (model G.prog G.w) A (handleBy e f.env [.ExceptHandler (some (.Name c np)) none [.Return (some (.Constant .none k p)) rp] hp]) Q E aT) E aO) E aJ):=PassesOwn.looking
 symm at er
 ·rename_i fl σ₁ q;refine Pg er ?_;clear er;intro ey ez;subst ey;subst ez;refine hb A ag Ls ad σ s _ _ (.ok fl) σ' hE' C S Lc q ?_;cases fl with
  |nxt loc'=>exactλh' tk ad' S' p' L'=>wpAny_execs_nil (P h' tk ad' S' p' L')
  |brk loc'=>exact P
  |ret v=>exact P
 ·rename_i σ₁ q;refine Pg er ?_;clear er;intro ey ez;subst ey;subst ez;exact hb A ag Ls ad σ s _ _ .exc σ' hE' C S Lc q λx h' tk ad' S' p' fl=>main S' p' fl λh'' tk'' S'' p''=>P .none h'' tk'' ad' S'' p'' Rd.none
 ·exact eC er
end
section
variable{f:Fm}{aa:List (Option PV)}
def E1(σ:List MO)(v k u:PV)(c:Unit->M Fl):M Fl:=λ_=>match v,k with
 | .ref j,.d (.str x)=>(match σ[j]? with
  |some (.dict kvs)=>if kvs.length<=1000 then c () (σ.set j (.dict (uR x u kvs)))else none
  |_=>none)
 |_,_=>none
theorem MN{bk:List MO}{v k u:PV}{c:Unit->M Fl}{r:R Fl×List MO}(e:E1 σ v k u c bk=some r):∃j x kvs,v= .ref j/\k= .d (.str x)/\σ[j]? =some (.dict kvs)/\kvs.length<=1000/\c () (σ.set j (.dict (uR x u kvs)))=some r:=by
 cases v with
 |ref j=>
  cases k with
  |d y=>
   cases y with
   |str x=>
    simp only[E1]at e
    symm at e
    ·rename_i kvs q
     symm at e
     ·rename_i hz;exact⟨j,x,kvs,rfl,rfl,q,hz,e⟩
     ·exact eC e
    ·exact eC e
   |_=>exact eC e
  |_=>exact eC e
 |_=>exact eC e
theorem ou.length{h:Heap}{ad:List Addr}:∀{es:List (Str×Value)}{kvs:List (List Nat×PV)},ou G h ad es kvs->es.length=kvs.length
 |[],[],_=>rfl
 |_::_,_::_,⟨_,_,h4⟩=>dN (· +1) (ou.length h4)
 |[],_::_,x=>x.elim
 |_::_,[],x=>x.elim
theorem E2(p:Str×Value)(ps:List (Str×Value))(x:Str)(V:Value)(hn:((p::ps).map (·.1)).Nodup):stored (p::ps) x V=if p.1=x then(p.1,V)::ps else p::stored ps x V:=by
 unfold stored;by_cases q:p.1=x
 ·rw[cH (by simp[q]),cH q];rw[jg,cH q]
  congr 1
  have:∀y ∈ ps,y.1≠x:=λy hy z=>(gE.mp hn).1 (by show p.1 ∈ _;rw[q,<-z];exact List.mem_map_of_mem hy)
  conv=>rhs;rw[<-List.map_id ps]
  exact List.map_congr_left λy hy=>by rw[cJ (this y hy)];rfl
 ·rw[cJ q];by_cases r:(ps.any λkv=>decide (kv.1=x))=true
  ·rw[cH (by simp[r]),cH r,jg,cJ q]
  ·rw[cJ (by simp[q];simpa using r),cJ r];rfl
theorem ou.put{v:PV}{V:Value}(rv:eW G h ad v V):∀{es:List (Str×Value)}{kvs:List (List Nat×PV)},(es.map (·.1)).Nodup->ou G h ad es kvs->
  ou G h ad (stored es ⟨x.toArray⟩ V) (uR x v kvs):=by
 intro l1
 induction l1 with
 |nil=>intro l2;cases l2 with
  |nil=>exactλ_ _=>⟨rfl,rv,trivial⟩
  |cons _ _=>exactλ_ hx=>hx.elim
 |cons e es ih=>intro l2;cases l2 with
  |nil=>exactλ_ hx=>hx.elim
  |cons kv kvs=>
    intro hn hx;obtain⟨h1,h3,h4⟩:=hx;rw[E2 _ _ _ _ hn];unfold uR;by_cases q:kv.1=x
    ·rw[cH q,cH (by rw[h1,q])];exact⟨h1,rv,h4⟩
    ·rw[cJ q,cJ (by rw[h1];exactλz=>q (by injection z with z;simpa using dN Array.toList z))]
     exact⟨h1,h3,ih (gE.mp hn).2 h4⟩
theorem Ks{x:Str}{xp tp:Pos}{i:cP}{mo mi:M PV}(hs:swapsWith e (some (.Subscript (.Name x xp) i tp)) pos.line f.env=pure false)(ho:dR G n f aa (.Name x xp) mo)(hi:dR G n f aa i mi)(he:dR G n f aa e m):
  jB G n f aa (.Assign [.Subscript (.Name x xp) i tp] e pos) (bnd m λu=>bnd mo λv=>bnd mi λk=>λσ=>E1 σ v k u (λ_=>ret (.nxt aa)) σ):=by
 intro A ag Ls ad σ s Q E r σ' hE C S Lc er P;refine wpAny_Assign_Subscript (he.thnS C S Lc er P λu U h₁ tk₁ ak σ₁ ai ax ru am aj al=>ho.thnS C ai am aj al λv V ar aE aD aG aq aB rv aK ao aA=>hi.thnS C aq aK ao aA λk K au aH aI bs ay aC rk bj az aM=> ?_) hs;have ru:=(ru.stepE ai aB).stepE aq aC;have rv:=rv.stepE aq aC;obtain⟨j,x',kvs,rfl,rfl,q,hz,az⟩:=MN az;have aM:=aM.of_ret az;obtain⟨a,ha,rfl⟩:=rv;refine Rd.str_on rk λt=> ?_;obtain⟨ps,hd,hp⟩:=ay.ads j a _ ha q;refine wpAny_setItem_pairs (s:={ s with heap:=au,toks:=aH }) (knd:=PySem.strKind G.prog G.w) (strKind_is _ _ _ _) hd (λh' hd' hsb=> ?_) ?_
 ·have kk:∀b o,b≠a->au.get? b=some o->h'.get? b=some o:=λb o hb e=>(hsb.2 b hb).trans e;obtain⟨o,_,_,hg',_⟩:=id hd';obtain⟨_,_,_,_,_,_,_,_,hnd⟩:=id hd;have p':dE (f.L::Ls) aI aI au h':=dE.upd (gu ha) kk ⟨_,hg'⟩;obtain⟨S',p''⟩:=ay.upd (mo:= .dict (uR x' u kvs)) ha kk ⟨_,hd',ou.mono (λv V r=>r.stepE ay p') (ou.put ru hnd hp)⟩;exact aM h' _ aI S' (p''.toS (gE.mp S.fnd).1) (bj.step ay p'')
 ·rw[hp.length];have h4:sizeLine >= 1001:=by decide
  exact(ie (.l A0 A1) [.l A0 (.k 1000),.l (.k 1001) A1]) hz h4
structure Z2(G:Gl)(Y F ad ad':List Addr)(h h':Heap):Prop where
 step:kK (Y++ad) F ad ad' h h'
 vk:∀v V,eW G h ad v V->eW G h' ad' v V
end
section
variable{f:Fm}{aa:List (Option PV)}
theorem E3{k:Nat}{ys:List D}{x:D}{V:Value}(S:St G F ad σ s.heap)(ha:ad[k]? =some a)(hk:σ[k]? =some (.list ys))(rx:Rd s.heap V x)(hz:ys.length<eZ)
  (h:∀h',St G F ad (σ.set k (.list (ys++[x]))) h'->dE F ad ad s.heap h'->Q .none { s with heap:=h' }):wpAny (model G.prog G.w) A (call (.builtin "list.append") [.ref a,V]) Q E s:=by
 refine mZ (S.ads k a _ ha hk) λitems m hg rr=> ?_;have hlen:=rr.length;rw[kG]at hlen;refine append_at hg (λh' hs he=> ?_) (by have:=jh;exact ZZ hz hlen this);have kk:∀b o,b≠a->s.heap.get? b=some o->h'.get? b=some o:=λb o hb e=>(hs.2 b hb).trans e;have im:lV s.heap h':=S.tupKeep (λ_ m=> .inl m) (dE.upd (F:=F) (gu ha) kk ⟨_,he⟩)
 refine oA (S.upd (h':=h') (mo:= .list (ys++[x])) ha kk ⟨items.push V,m+1,he,by rw[Array.toList_push];exact dD.snoc (Rd.keep im rx) (dD.keep im rr)⟩) λay aC=> ?_
 exact h h' ay aC
section
variable(elt:cP)(one part tp lv:Str)(po pp pl tpp po2 pp2 cp:Pos)(scope:Scope)(cpos:Pos)
noncomputable def m8:cP:= .ListComp (.Name part pp) [⟨.Name one po,.Name lv pl,[],0⟩,⟨.Name part pp2,.Call (.Name tp tpp) [.Name one po2] [] cp,[],0⟩] scope cpos
end
noncomputable def uU(acc:Nat)(w:PV):Nat->Nat->List MO->Option (List MO)
 | 0,_,_=>none
 |k+1,j,σ=>match uQ w j σ with
  |none=>none
  |some none=>some σ
  |some (some v)=>(match v with
   | .d x=>(match σ[acc]? with
    |some (.list ys)=>if ys.length<eZ then uU acc w k (j+1) (σ.set acc (.list (ys++[x])))else none
    |_=>none)
   |_=>none)
noncomputable def s7(acc:Nat)(v:PV)(sem:List PV->M PV)(kk:Nat):Nat->Nat->List MO->Option (List MO)
 | 0,_,_=>none
 |k+1,i,σ=>match uQ v i σ with
  |none=>none
  |some none=>some σ
  |some (some x)=>(match sem [x] σ with
   |some (.ok w,σ')=>(match dW σ' w with
    |some _=>(uU acc w kk 0 σ').bind λσ''=>s7 acc v sem kk k (i+1) σ''
    |none=>none)
   |_=>none)
section
variable{one part tp lv:Str}{po pp pl tpp po2 pp2 cp:Pos}{scope:Scope}{cpos:Pos}{env:Env}
theorem MP(it acc:Value)(cenv:Env):compTurn (m8 one part tp lv po pp pl tpp po2 pp2 cp scope cpos) 1 it acc cenv=(standAt cp >>= λ_=>pyNext it >>= λr=>match r with
   |none=>pure (.done .next)
   |some v=>letOwnedTupleGo (.Name part pp2) it v >>= λ_=>assign (.Name part pp2) cenv v >>= λ_=>
    (eval (.Name part pp) cenv >>= λx=>call (.builtin "list.append") [acc,x] >>= λ_=>pure ()) >>= λ_=>
     again (.compLoop (m8 one part tp lv po pp pl tpp po2 pp2 cp scope cpos) 1 it acc cenv)):=by rfl
theorem MQ(it acc:Value)(cenv:Env):compTurn (m8 one part tp lv po pp pl tpp po2 pp2 cp scope cpos) 0 it acc cenv=(standAt pl >>= λ_=>pyNext it >>= λr=>match r with
   |none=>pure (.done .next)
   |some v=>letOwnedTupleGo (.Name one po) it v >>= λ_=>assign (.Name one po) cenv v >>= λ_=>
    eval (.Call (.Name tp tpp) [.Name one po2] [] cp) cenv >>= λx=>standAt cp >>= λ_=>foldedSetIterable (.Call (.Name tp tpp) [.Name one po2] [] cp) cenv x >>= λx=>
     holding [x] (pyIter x) >>= λit2=>runOwn (.compStart (m8 one part tp lv po pp pl tpp po2 pp2 cp scope cpos) 1 it2 acc cenv) cenv >>= λ_=>
     again (.compLoop (m8 one part tp lv po pp pl tpp po2 pp2 cp scope cpos) 0 it acc cenv)):=by rfl
theorem yW{d:Nat}{it acc:Value}{cenv:Env}{R:Result->Shared->Prop}(hd:d=0\/d=1)
  (h0:codeAny (model G.prog G.w) A (.compLoop (m8 one part tp lv po pp pl tpp po2 pp2 cp scope cpos) d it acc cenv) R s)
  (h:wpAny (model G.prog G.w) A (pyIter it) (λit' s'=>codeAny (model G.prog G.w) A (.compLoop (m8 one part tp lv po pp pl tpp po2 pp2 cp scope cpos) d it' acc cenv) R s')
   (notedBy (model G.prog G.w) A cenv λx s'=>R (.error x) s') s):
  codeAny (model G.prog G.w) A (.compStart (m8 one part tp lv po pp pl tpp po2 pp2 cp scope cpos) d it acc cenv) R s:=by
 refine codeAny_of_tree ?_;show wpAny _ _ ((compStart (m8 one part tp lv po pp pl tpp po2 pp2 cp scope cpos) d it acc cenv).onRaise (λx=>do noteFrame x cenv;standAt theWindowsPlace)) _ _ s;refine wpAny_notedAt ?_;unfold compStart;rcases hd with rfl|rfl
 all_goals
  show wpAny _ _ (ask >>= _) _ _ s;refine cQ (wpAny_askSetting (wpAny_ite ?_));split
  ·first
    |exact cQ (dc (dc (And.intro rfl h0)))
    |exact dc (And.intro rfl h0)
  ·first
    |exact cQ (wpAny_rule (cQ (iN (cQ (wpAny_mono h (λit' s' h'=>dc (And.intro rfl h')) λ_ _ x=>x)))))
    |(refine cQ (wpAny_rule ?_);show wpAny _ _ (standAt _ >>= _) _ _ s;exact cQ (iN (cQ (wpAny_mono h (λit' s' h'=>dc (And.intro rfl h')) λ_ _ x=>x))))
end
end
section
variable{f:Fm}{aa:List (Option PV)}
theorem me.stayE{it:Addr}(pr:me G F ad h it)(p:dE F ad ad' h h'):∀o,h.get? it=some o->h'.get? it=some o:=λo e=>p.pres.keep it o e pr.ad pr.F
theorem me.stepE{it:Addr}(pr:me G F ad h it)(ex:∃o,h.get? it=some o)(p:dE F ad ad' h h'):me G F ad' h' it:=by
 refine oE ex λo e=> ?_;clear ex;refine⟨λm=> ?_,pr.F,pr.le,λo' e'=> ?_⟩
 ·rcases p.new it m with m|m
  ·exact pr.ad m
  ·rw[e]at m;exact yr m
 ·rw[pr.stayE p o e]at e';replace e':=si e';subst e';exact pr.cls o e
theorem Ns.there{C:Addr}{m:Str->Option Value}(x:h.Ns C m):∃o,h.get? C=some o:=by refine o8 x λo _ _ e _=> ?_;clear x;exact⟨o,e⟩
theorem yX{C:Addr}{m:Str->Option Value}(x:h.Ns C m)(k:∀o,h.get? C=some o->h'.get? C=some o):h'.Ns C m:=by refine o8 x λo es ep e r=> ?_;clear x;exact⟨o,es,ep,k o e,r⟩
theorem me.ofNs{C:Addr}{m:Str->Option Value}(pr:me G F ad h C)(x:h'.Ns C m):me G F ad h' C:=by refine iO x λo es ep e d _=> ?_;clear x;exact⟨pr.ad,pr.F,pr.le,λo' e'=>by rw[e]at e';replace e':=si e';subst e';exact EP d⟩
structure CI(G:Gl)(f:Fm)(aa:Lo)(Ls aL:List Addr)(hs:Heap)(C it1 l:Addr)(v:PV)(i:Nat)(h:Heap)(ad:List Addr)(σ:List MO):Prop where
 S:St G (f.L::Ls) ad σ h
 p:dE (f.L::Ls) aL ad hs h
 prC:me G (f.L::Ls) ad h C
 pr1:me G (f.L::Ls) ad h it1
 ne:C≠it1
 I:h.IsListIter it1 l i/\eW G h ad v (.ref l)
 lc:uo G h ad f aa
section
variable{aL:List Addr}{hs:Heap}{C it1 l:Addr}{v:PV}{m:Str->Option Value}
theorem CI.byE(c:CI G f aa Ls aL hs C it1 l v i h ad σ)(hn:h.Ns C m)(S':St G (f.L::Ls) ad' σ' h')(p':dE (f.L::Ls) ad ad' h h'):CI G f aa Ls aL hs C it1 l v i h' ad' σ'/\h'.Ns C m:=by refine ot c.I.1 λo1 e1 e2 e3=> ?_;refine⟨⟨S',c.p.trans p',c.prC.stepE (Ns.there hn) p',c.pr1.stepE ⟨o1,e1⟩ p',c.ne,⟨⟨o1,c.pr1.stayE p' o1 e1,e2,e3⟩,c.I.2.stepE c.S p'⟩,c.lc.step c.S p'⟩,yX hn (c.prC.stayE p')⟩
theorem uo.priv(lc:uo G h ad f aa)(pr:me G F ad h a)(hL:f.L≠a)(kk:∀b o,b≠a->h.get? b=some o->h'.get? b=some o):uo G h' ad f aa:=by
 refine eN lc λm hn hv=> ?_;clear lc
 exact⟨m,yX hn λo e=>kk _ o hL e,λi x v h1 h2=>by refine eN (hv i x v h1 h2) λV e3 e4=> ?_;exact⟨V,e3,e4.im (pr.im kk) (hO _)⟩⟩
theorem CI.byC(c:CI G f aa Ls aL hs C it1 l v i h ad σ){m':Str->Option Value}(pa:me G (f.L::Ls) ad h a)(ha:hs.get? a=none)(ha1:a≠it1)(kk:∀b o,b≠a->h.get? b=some o->h'.get? b=some o)(hn':h'.Ns C m'):CI G f aa Ls aL hs C it1 l v i h' ad σ:=by refine ot c.I.1 λo1 e1 e2 e3=> ?_;have k1:=kk it1 o1 (Ne.symm ha1) e1;have im:=pa.im kk;refine⟨c.S.priv pa kk,kK.priv c.p ha kk,c.prC.ofNs hn',⟨c.pr1.ad,c.pr1.F,c.pr1.le,λo' e'=> ?_⟩,c.ne,⟨⟨o1,k1,e2,e3⟩,c.I.2.im im (hO _)⟩,c.lc.priv pa (λz=>pa.F (z▸.head _)) kk⟩;rw[k1]at e';replace e':=si e';subst e';exact c.pr1.cls o1 e1
end
section
variable{one part tp lv:Str}{po pp pl tpp po2 pp2 cp:Pos}{scope:Scope}{cpos:Pos}
variable{aL:List Addr}{hs:Heap}{C it1 l accA:Addr}{v:PV}{acc:Nat}{R:Result->Shared->Prop}
theorem MR(Cx:wI G A n f ag Ls)(hkd:scope.kind= .function)(hpart:scope.names.lookup part=some .local)(hdb:(part ==("__debug__":Str))=false)(hC0:hs.get? C=none){w:PV}{lw it2:Addr}(h20:hs.get? it2=none)(h2C:it2≠C)(h21:it2≠it1)(ha:ad[acc]? =some accA):
  ∀(k j:Nat)(σ σ':List MO)(s:Shared)(m:Str->Option Value),CI G f aa Ls aL hs C it1 l v i s.heap ad σ->s.heap.Ns C m->me G (f.L::Ls) ad s.heap it2->(s.heap.IsListIter it2 lw j/\eW G s.heap ad w (.ref lw))->uU acc w k j σ=some σ'->
  (∀h' tk m',CI G f aa Ls aL hs C it1 l v i h' ad σ'->h'.Ns C m'->R (.ok .next) { s with heap:=h',toks:=tk })->
  codeAny (model G.prog G.w) A (.compLoop (m8 one part tp lv po pp pl tpp po2 pp2 cp scope cpos) 1 (.ref it2) (.ref accA) (compEnv scope C f.env)) R s:=by
 intro k
 induction k with
 |zero=>exactλ_ _ _ _ _ _ _ _ _ e _=>eC e
 |succ k ih=>
  intro j σ σ' s m c hn pr2 hI e kF;refine codeAny_of_tree ?_;show wpAny _ A ((compTurn (m8 one part tp lv po pp pl tpp po2 pp2 cp scope cpos) 1 (.ref it2) (.ref accA) (compEnv scope C f.env)).onRaise (λx=>do noteFrame x (compEnv scope C f.env);theTreesLotGoes x)) _ _ s;refine wpAny_noted ?_;rw[MP];refine cQ (iN (cQ ?_));unfold uU at e
  symm at e
  ·exact eC e
  ·rename_i q;replace e:=si e;subst e;refine(yS (n:=n) (f:=f) (it:=it2) (l:=lw) (v:=w)).next A ag Ls ad _ s _ _ j none Cx c.S pr2 hI q λh' kk=> ?_;have hn':=yX hn λo e=>kk _ o (Ne.symm h2C) e;exact dc (kF h' s.toks m (c.byC pr2 h20 h21 kk hn') hn')
  ·rename_i x q
   symm at e
   ·rename_i dx
    symm at e
    ·rename_i ys qa
     symm at e
     ·rename_i hz;refine(yS (n:=n) (f:=f) (it:=it2) (l:=lw) (v:=w)).next A ag Ls ad σ s _ _ j (some (.d dx)) Cx c.S pr2 hI q λV h₁ tk₁ kk bg rV=> ?_;have bc:=yX hn λo e=>kk _ o (Ne.symm h2C) e;have aS:=c.byC pr2 h20 h21 kk bc;refine cQ (wpAny_of_eq (by rfl) (cQ ?_));refine PySem.wpAny_assign_Name (wpAny_storeName_local (env:=compEnv scope C f.env) (s:={ s with heap:=h₁,toks:=tk₁ }) hpart bc (λar aW hsb=> ?_) (by show(scope.kind == .class ||(scope.kind == .module && _))=false;rw[hkd];rfl))
      have kC:∀b o,b≠C->h₁.get? b=some o->ar.get? b=some o:=λb o hb e=>(hsb.2 b hb).trans e;have aR:=aS.byC aS.prC hC0 c.ne kC aW;have bu:eW G ar ad (.d dx) V:=rV.im (aS.prC.im kC) (hO _);refine oA bg λoz1 bN=> ?_;clear bg;obtain⟨o2,g1,g2,g3⟩:=oz1;have g1':=kC it2 o2 h2C g1
      have pr2':me G (f.L::Ls) ad ar it2:=⟨pr2.ad,pr2.F,pr2.le,λo' e'=>by rw[g1']at e';replace e':=si e';subst e';exact rD ⟨by rw[g2];decide,λ_ z=>by rw[g2]at z;cases z⟩⟩
      refine cQ (cQ (wpAny_Name (wpAny_loadName_local (env:=compEnv scope C f.env) (s:={ s with heap:=ar,toks:=tk₁+1 }) hkd hpart aW (by simp;rfl) (cQ ?_)) hdb))
      refine E3 (s:={ s with heap:=ar,toks:=tk₁+1 }) aR.S ha qa bu hz λau ay aC=> ?_
      refine oA (aR.byE aW ay aC) λbh bq=> ?_;have bM:eW G ar ad w (.ref lw):=bN.im (aS.prC.im kC) (hO _);refine dc (dc ⟨rfl,?_⟩);exact ih (j+1) _ σ' { s with heap:=au,toks:=tk₁+1 } _ bh bq (pr2'.stepE ⟨o2,g1'⟩ aC) ⟨⟨o2,pr2'.stayE aC o2 g1',g2,g3⟩,bM.stepE aR.S aC⟩ e λh' tk m' c' hn'=>kF h' tk m' c' hn'
     ·exact eC e
    ·exact eC e
   ·exact eC e
theorem MS{ta:Addr}(Cx:wI G A n f ag Ls)(hkd:scope.kind= .function)(hone:scope.names.lookup one=some .local)(hdo:(one ==("__debug__":Str))=false)(hpart:scope.names.lookup part=some .local)(hdb:(part ==("__debug__":Str))=false)
  (htp:scope.names.lookup tp=some .globalImplicit)(hdt:(tp ==("__debug__":Str))=false)(hg:G.mg tp=some (.ref ta))(hkp:keepIn G.K (.ref ta)=true)(hc:fK G n ta sem)(hC0:hs.get? C=none)(h10:hs.get? it1=none)(kk:Nat):
  ∀(k i:Nat)(σ σ':List MO)(s:Shared)(ad:List Addr)(m:Str->Option Value),CI G f aa Ls aL hs C it1 l v i s.heap ad σ->s.heap.Ns C m->ad[acc]? =some accA->s7 acc v sem kk k i σ=some σ'->
  (∀h' tk ad' m',St G (f.L::Ls) ad' σ' h'->dE (f.L::Ls) aL ad' hs h'->me G (f.L::Ls) ad' h' C->h'.Ns C m'->uo G h' ad' f aa->ad'[acc]? =some accA->R (.ok .next) { s with heap:=h',toks:=tk })->
  codeAny (model G.prog G.w) A (.compLoop (m8 one part tp lv po pp pl tpp po2 pp2 cp scope cpos) 0 (.ref it1) (.ref accA) (compEnv scope C f.env)) R s:=by
 intro k
 induction k with
 |zero=>exactλ_ _ _ _ _ _ _ _ _ e _=>eC e
 |succ k ih=>
  intro i σ σ' s ad m c hn ha e kF;refine codeAny_of_tree ?_;show wpAny _ A ((compTurn (m8 one part tp lv po pp pl tpp po2 pp2 cp scope cpos) 0 (.ref it1) (.ref accA) (compEnv scope C f.env)).onRaise (λx=>do noteFrame x (compEnv scope C f.env);theTreesLotGoes x)) _ _ s;refine wpAny_noted ?_;rw[MQ];refine cQ (iN (cQ ?_));unfold s7 at e
  symm at e
  ·exact eC e
  ·rename_i q;replace e:=si e;subst e;refine(yS (n:=n) (f:=f) (it:=it1) (l:=l) (v:=v)).next A ag Ls ad _ s _ _ i none Cx c.S c.pr1 c.I q λh' k1=> ?_;have hn':=yX hn λo e=>k1 _ o c.ne e;exact dc (kF h' s.toks ad m (c.S.priv c.pr1 k1) (kK.priv c.p h10 k1) (c.prC.ofNs hn') hn' (c.lc.priv c.pr1 (λz=>c.pr1.F (z▸.head _)) k1) ha)
  ·rename_i x q
   symm at e
   ·rename_i w σ₁ qs
    symm at e
    ·rename_i xs hgw;refine eN (dL.mp e) λaG e1 e2=> ?_;refine(yS (n:=n) (f:=f) (it:=it1) (l:=l) (v:=v)).next A ag Ls ad σ s _ _ i (some x) Cx c.S c.pr1 c.I q λV h₁ tk₁ k1 bg rV=> ?_;have bc:=yX hn λo e=>k1 _ o c.ne e
     have aS:CI G f aa Ls aL hs C it1 l v (i+1) h₁ ad σ:=by
      refine ot bg.1 λo1 g1 g2 g3=> ?_
      exact⟨c.S.priv c.pr1 k1,kK.priv c.p h10 k1,c.prC.ofNs bc,⟨c.pr1.ad,c.pr1.F,c.pr1.le,λo' e'=>by rw[g1]at e';replace e':=si e';subst e';exact rD ⟨by rw[g2];decide,λ_ z=>by rw[g2]at z;cases z⟩⟩,c.ne,bg,c.lc.priv c.pr1 (λz=>c.pr1.F (z▸.head _)) k1⟩
     refine cQ (wpAny_of_eq (by rfl) (cQ ?_));refine PySem.wpAny_assign_Name (wpAny_storeName_local (env:=compEnv scope C f.env) (s:={ s with heap:=h₁,toks:=tk₁ }) hone bc (λar aW hsb=> ?_) (by show(scope.kind == .class ||(scope.kind == .module && _))=false;rw[hkd];rfl))
     have kC:∀b o,b≠C->h₁.get? b=some o->ar.get? b=some o:=λb o hb e=>(hsb.2 b hb).trans e;have aR:=aS.byC aS.prC hC0 aS.ne kC aW;have bu:eW G ar ad x V:=rV.im (aS.prC.im kC) (hO _);refine cQ (nS (Name_function_global (env:=compEnv scope C f.env) hkd htp (loadGlobal_global (env:=compEnv scope C f.env) (s:={ s with heap:=ar,toks:=tk₁+1 }) (G.hg.keeps aR.S.base) hg ?_) hdt))
     refine callWith_K (G.KX.keeps aR.S.base) hkp (spliced_cons (wpAny_Name (wpAny_loadName_local (env:=compEnv scope C f.env) (s:={ s with heap:=ar,toks:=tk₁+1 }) hkd hone aW (by simp;rfl) (spliced_nil ⟨G.KX.keeps aR.S.base,?_⟩)) hdo)) rfl rfl
     refine hc.prim (f:=f) A ag Ls ad σ { s with heap:=ar,toks:=tk₁+1 } _ _ [x] [V] (.ok w) σ₁ Cx aR.S ⟨bu,trivial⟩ qs λW au aH aI ay aC rW=> ?_
     refine oA (aR.byE aW ay aC) λbh bq=> ?_;have bD:=pc aC.pre ha;refine cQ (iN (cQ (wpAny_of_eq (by rfl) (cQ (kb ?_)))));refine iJ (ay.isL rW hgw) λlw items ez1 hil _=> ?_;subst ez1;refine wpAny_pyIter_list (s:={ s with heap:=au,toks:=aH }) hil ?_
     have kp:∀b o,au.get? b=some o->(au.push { cls:= .type "list_iterator",data:= .fields #[.ref lw,.int 0 0] }).get? b=some o:=λb o e=>fc _ e;have aQ:dE (f.L::Ls) aI aI au _:=dE.of_keep kp;refine oA (bh.byE bq (ay.of_keep kp) aQ) λb6 bU=> ?_;have hfr:=fN au;have hg2:(au.push { cls:= .type "list_iterator",data:= .fields #[.ref lw,.int 0 0] }).get? au.objs.size=some { cls:= .type "list_iterator",data:= .fields #[.ref lw,.int 0 0] }:=gP _ rfl
     have pr2:me G (f.L::Ls) aI (au.push { cls:= .type "list_iterator",data:= .fields #[.ref lw,.int 0 0] }) au.objs.size:=by
      refine⟨λm=> ?_,λm=> ?_,ay.size,λo' e'=> ?_⟩
      ·refine eN (ay.adObj m) λx h1 _=> ?_;rw[hfr]at h1;exact eC h1
      ·refine vv (ay.frs _ m) λ_ x h1 _=> ?_;rw[hfr]at h1;exact eC h1
      ·rw[hg2]at e';replace e':=si e';subst e';exact rD ⟨(by show Value.type "list_iterator"≠Value.type "tuple";decide),λ_ z=>by cases z⟩
     have h20:hs.get? au.objs.size=none:=bh.p.ex _ hfr
     have h2C:au.objs.size≠C:=λz=>by refine oE (Ns.there bq) λo e=> ?_;rw[<-z,hfr]at e;exact eC e
     have h21:au.objs.size≠it1:=λz=>by refine eN bh.I.1 λo e _=> ?_;rw[<-z,hfr]at e;exact eC e
     refine cQ (wpAny_runOwn (A:=A) (h:=none) ?_ (by intro x;exact eC x))
     have main:codeAny (model G.prog G.w) A (.compLoop (m8 one part tp lv po pp pl tpp po2 pp2 cp scope cpos) 1 (.ref au.objs.size) (.ref accA) (compEnv scope C f.env)) (λr s'=>match r with
       | .ok _=>wpAny (model G.prog G.w) A (again (.compLoop (m8 one part tp lv po pp pl tpp po2 pp2 cp scope cpos) 0 (.ref it1) (.ref accA) (compEnv scope C f.env))) (λkF s'=>match kF with| .done f=>R (.ok f) s'| .again c'=>c'.quiet=true/\codeAny (model G.prog G.w) A c' R s') (notedBy (model G.prog G.w) A (compEnv scope C f.env) λe s'=>R (.error e) s') s'
       | .error e=>cameBackBy (model G.prog G.w) A (compEnv scope C f.env) (notedBy (model G.prog G.w) A (compEnv scope C f.env) λe s'=>R (.error e) s') e s') { s with heap:=au.push { cls:= .type "list_iterator",data:= .fields #[.ref lw,.int 0 0] },toks:=aH }:=by
      refine MR Cx hkd hpart hdb hC0 h20 h2C h21 bD kk 0 σ₁ aG _ _ b6 bU pr2 ⟨⟨_,hg2,rfl,rfl⟩,rW.stepE ay aQ⟩ e1 λbn bL bQ b5 bS=> ?_;exact dc ⟨rfl,ih (i+1) aG σ' { s with heap:=bn,toks:=bL } aI bQ b5 bS bD e2 λh' tk ad' m' a1 a2 a3 a4 a5 a6=>kF h' tk ad' m' a1 a2 a3 a4 a5 a6⟩
     have hmark:A.mark none=A:=rfl;rw[hmark];exact yW (.inr rfl) (codeAny_mono main λr s' hr=>by cases r<;>exact hr) (wpAny_pyIter_listiter (s:={ s with heap:=au.push { cls:= .type "list_iterator",data:= .fields #[.ref lw,.int 0 0] },toks:=aH }) ⟨_,hg2,rfl,rfl⟩ (codeAny_mono main λr s' hr=>by cases r<;>exact hr))
    ·exact eC e
   ·exact eC e
def xq(iy:Nat)(aa:Lo)(v:PV)(sem:List PV->M PV)(k kk:Nat):M Fl:=λσ=>match dW σ v with
 |some _=>(s7 σ.length v sem kk k 0 (σ++[.list []])).map λσ'=>(.ok (.nxt (rG aa iy (.ref σ.length))),σ')
 |none=>none
set_option tactic.hygienic true in
theorem PJ{y:Str}{py spos:Pos}{iy:Nat}{ta:Addr}{mv:M PV}(k kk:Nat)(hy:f.names[iy]? =some y)(hlv:dR G n f aa (.Name lv pl) mv)
  (hsw:swapsWith (m8 one part tp lv po pp pl tpp po2 pp2 cp scope cpos) (some (.Name y py)) spos.line f.env=pure true)
  (hkd:scope.kind= .function)(hone:scope.names.lookup one=some .local)(hdo:(one ==("__debug__":Str))=false)(hpart:scope.names.lookup part=some .local)(hdb:(part ==("__debug__":Str))=false)
  (hfree:∀z ∈ scope.names,z.2≠.free)(hcell:∀z ∈ scope.names,z.2≠.cell)(hnames:∀z ∈ scope.names,z.2= .local->scope.names.lookup z.1=some .local)
  (htp:scope.names.lookup tp=some .globalImplicit)(hdt:(tp ==("__debug__":Str))=false)(hg:G.mg tp=some (.ref ta))(hkp:keepIn G.K (.ref ta)=true)(hc:fK G n ta sem):
  jB G n f aa (.Assign [.Name y py] (m8 one part tp lv po pp pl tpp po2 pp2 cp scope cpos) spos) (bnd mv λv=>xq iy aa v sem k kk):=by
 intro A ag Ls ad σ s Q E r σ' hE Cx S Lc er P;rw[exec_Assign_Name_used _ _ _ _ hsw];refine cQ (iN (cQ ?_));show wpAny _ A (do let _ <-comprehension (m8 one part tp lv po pp pl tpp po2 pp2 cp scope cpos) scope f.env _ (newList []) false (eval (.Name lv pl) f.env) (some (assign (.Name y py) f.env))) _ _ s;refine cQ (wpAny_mono (wpAny_comprehension_use (Q:=λ_ s'=>Q .next s') rfl (by intro _;rfl) hfree hkd hnames (hlv.thnS Cx S Lc er P λv V h₁ tk₁ ak σ₁ ai ax rv am aj al=> ?_)) (λ_ s' hq=>dc (dc hq)) λ_ _ e=>e);unfold xq at aj;split at aj
 case h_2=>exact eC aj
 rename_i xs hgl;refine eN (fe.mp aj) λaG e2 e3=> ?_;refine p1 e3 ?_;clear e3;intro ey ez;subst ey;subst ez;refine iJ (ai.isL rv hgl) λl items ez1 hil _=> ?_;subst ez1;refine wpAny_pyIter_list (s:={ s with heap:=h₁,toks:=tk₁ }) hil ?_
 have k1:∀b o,h₁.get? b=some o->(h₁.push { cls:= .type "list_iterator",data:= .fields #[.ref l,.int 0 0] }).get? b=some o:=λb o e=>fc _ e;have hf1:=fN h₁;have gi:(h₁.push { cls:= .type "list_iterator",data:= .fields #[.ref l,.int 0 0] }).get? h₁.objs.size=some { cls:= .type "list_iterator",data:= .fields #[.ref l,.int 0 0] }:=gP _ rfl;have aq:=ai.of_keep k1;have q1:dE (f.L::Ls) ak ak h₁ _:=dE.of_keep k1;generalize hH2:h₁.push { cls:= .type "list_iterator",data:= .fields #[.ref l,.int 0 0] }=H2 at *;refine wpAny_newObj_type (s:={ s with heap:=H2,toks:=tk₁ }) ?_ (by show 0<=sizeLine;exact iq _)
 have k2:∀b o,H2.get? b=some o->(H2.push { cls:= .type "list",data:= .seq ([]:List Value).toArray }).get? b=some o:=λb o e=>fc _ e;have hf2:=fN H2;have gl:(H2.push { cls:= .type "list",data:= .seq ([]:List Value).toArray }).get? H2.objs.size=some { cls:= .type "list",data:= .seq ([]:List Value).toArray }:=gP _ rfl;have ay:St G (f.L::Ls) (ak++[H2.objs.size]) (σ₁++[.list []]) (H2.push { cls:= .type "list",data:= .seq ([]:List Value).toArray }):=aq.grow k2 hf2 aq.size ⟨#[],0,gl,.nil⟩;have q2:dE (f.L::Ls) ak (ak++[H2.objs.size]) H2 _:=dE.grow k2 hf2;generalize hH3:H2.push { cls:= .type "list",data:= .seq ([]:List Value).toArray }=H3 at *
 refine wpAny_newFunctionEnv (s:={ s with heap:=H3,toks:=tk₁ }) hcell (by intro y hy;simp at hy) (λaN hns hsb=> ?_) hkd
 have hf3:=fN H3;have k3:∀b o,H3.get? b=some o->aN.get? b=some o:=λb o e=>hsb.extBut b o (Nat.ne_of_lt (kH e)) (fc _ e);have aX:=ay.of_keep k3;have q3:dE (f.L::Ls) (ak++[H2.objs.size]) (ak++[H2.objs.size]) H3 aN:=dE.of_keep k3;have q:dE (f.L::Ls) ak (ak++[H2.objs.size]) h₁ aN:=(q1.trans q2).trans q3;have hC0:h₁.get? H3.objs.size=none:=(q1.trans q2).ex _ hf3;have gi4:aN.get? h₁.objs.size=some { cls:= .type "list_iterator",data:= .fields #[.ref l,.int 0 0] }:=k3 _ _ (k2 _ _ gi)
 have hne:H3.objs.size≠h₁.objs.size:=λz=>by have:=k2 _ _ gi;rw[<-z,hf3]at this;exact eC this
 have out:∀{a:Addr},h₁.get? a=none->a ∉ f.L::Ls:=λ{a} ha m=>by refine vv (ai.frs _ m) λ_ x h1 _=> ?_;rw[ha]at h1;exact eC h1
 have nad:∀{a:Addr},h₁.get? a=none->a≠H2.objs.size->a ∉ ak++[H2.objs.size]:=λ{a} ha hz m=>by
  rcases eF.mp m with m|m
  ·refine eN (ai.adObj m) λx h1 _=> ?_;rw[ha]at h1;exact eC h1
  ·exact hz (ff.mp m)
 have hz1:H3.objs.size≠H2.objs.size:=λz=>by rw[<-z,hf3]at gl;exact eC gl
 have hz2:h₁.objs.size≠H2.objs.size:=λz=>by rw[z,hf2]at gi;exact eC gi
 have hle2:G.h₀.objs.size<=H3.objs.size:=ay.size
 have c:CI G f aa Ls ak h₁ H3.objs.size h₁.objs.size l v 0 aN (ak++[H2.objs.size]) (σ₁++[.list []]):=by
  refine⟨aX,q,?_,⟨nad hf1 hz2,out hf1,ai.size,λo' e'=> ?_⟩,hne,⟨⟨_,gi4,rfl,rfl⟩,rv.stepE ai q⟩,am.step ai q⟩
  ·refine iO hns λo es ep e d _=> ?_;clear hns;exact⟨nad hC0 hz1,out hC0,hle2,λo' e'=>by rw[e]at e';replace e':=si e';subst e';exact EP d⟩
  ·rw[gi4]at e';replace e':=si e';subst e';exact rD ⟨(by show Value.type "list_iterator"≠Value.type "tuple";decide),λ_ z=>by cases z⟩
 have ha:(ak++[H2.objs.size])[σ₁.length]? =some H2.objs.size:=by rw[<-ai.len];simp
 have hLF:f.L ∉ Ls:=(gE.mp S.fnd).1
 have main:=MS (R:=λr s'=>match r with
   | .ok _=>wpAny (model G.prog G.w) A (assign (.Name y py) f.env (.ref H2.objs.size)) (λ_ s''=>∃m,s''.heap.Ns H3.objs.size m/\∀h',Heap.SameBut H3.objs.size s''.heap h'->Q .next { s'' with heap:=h' }) E s'
   | .error x=>∃m,s'.heap.Ns H3.objs.size m/\∀h',Heap.SameBut H3.objs.size s'.heap h'->wpAny (model G.prog G.w) A (passOn "comprehension.variables-let-go" x (compEnv scope H3.objs.size f.env):Sem Value) (λ_ s'=>Q .next s') E { s' with heap:=h' })
  (one:=one) (part:=part) (tp:=tp) (lv:=lv) (po:=po) (pp:=pp) (pl:=pl) (tpp:=tpp) (po2:=po2) (pp2:=pp2) (cp:=cp) (cpos:=cpos) Cx hkd hone hdo hpart hdb htp hdt hg hkp hc hC0 hf1 kk k 0 _ σ' { s with heap:=aN,toks:=tk₁+([]:List (Str×Value)).length } _ _ c hns ha e2 λh' tk ad' m' S' p' prC hn' lc' ha'=>by
   refine PySem.wpAny_assign_Name (qN (s:={ s with heap:=h',toks:=tk }) (v:= .ref σ₁.length) (V:= .ref H2.objs.size) hy Cx S' lc' ⟨_,ha',rfl⟩ λh'' S'' p'' L''=> ?_)
   have hCL:H3.objs.size≠f.L:=λz=>prC.F (z▸.head _)
   have hnC:h''.Ns H3.objs.size m':=yX hn' λo e=>p''.pres.keep _ o e (λm=>by
    rcases dj.mp m with z|m
    ·exact hCL z
    ·exact prC.ad m) (λm=>prC.F (.tail _ m))
   refine⟨m',hnC,λbn bR=> ?_⟩;have k5:∀b o,b≠H3.objs.size->h''.get? b=some o->bn.get? b=some o:=λb o hb e=>(bR.2 b hb).trans e;have prC'':me G (f.L::Ls) ad' h'' H3.objs.size:=prC.ofNs hnC;exact al bn _ ad' (S''.priv prC'' k5) (kK.priv ((p'.toS hLF).trans p'') hC0 k5) (L''.priv prC'' (Ne.symm hCL) k5)
 exact yW (.inl rfl) main (wpAny_pyIter_listiter (s:={ s with heap:=aN,toks:=tk₁+([]:List (Str×Value)).length }) ⟨_,gi4,rfl,rfl⟩ main)
end
end
section
variable{f:Fm}{aa:List (Option PV)}
structure GV(G:Gl)(x:Str)(v:PV):Prop where
 is:∃V,G.mg x=some V/\∀h ad,G.h₀.StaysIn h->eW G h ad v V
structure GF(G:Gl)(x:Str)(a:Addr):Prop where
 mg:G.mg x=some (.ref a)
 keep:keepIn G.K (.ref a)=true
structure GB(G:Gl)(x:Str)(V:Value):Prop where
 mg:G.mg x=none
 hb:bootBuiltins x=some V
 ne:x≠"__name__"
abbrev cG(aa:Lo)(i:Nat):M PV:=lift (aa[i]?).join
abbrev cY(i:Int):M PV:=ret (.d (.int i))
abbrev cW(s:List Nat):M PV:=ret (.d (.str s))
abbrev MT:M PV:=ret (.d .none)
abbrev uV(b:Bool):M PV:=ret (.d (.bool b))
abbrev kN(v:PV):M PV:=ret v
abbrev f7(ms:List (M PV)):M PV:=bnd (ja ms) EO
abbrev m9(ms:List (M PV)):M PV:=bnd (ja ms) G4
abbrev d7(op:Operator)(a b:M PV):M PV:=bnd a λx=>bnd b λy=>ly op x y
abbrev yY(op:CmpOp)(a b:M PV):M PV:=bnd a λx=>bnd b λy=>bnd (ir op x y) λc=>ret (.d (.bool c))
abbrev dz(op:CmpOp)(a b:M PV):M Bool:=bnd a λx=>bnd b λy=>ir op x y
abbrev sO(m:M PV):M Bool:=bnd m λv=>lift (pW v)
abbrev Sm(m:M Bool):M Bool:=bnd m λb=>ret (!b)
abbrev PK(o1 o2:CmpOp)(a b c:M PV):M Bool:=bnd a λx=>bnd b λy=>bnd (ir o1 x y) λc'=>match c' with|false=>ret false|true=>bnd c λd=>ir o2 y d
abbrev E4(t:M Bool)(a b:M PV):M PV:=bnd t λc=>match c with|true=>a|false=>b
abbrev yZ(m:M PV):M PV:=bnd m λv=>lift (Mh v)
def E5(v k:PV):M PV:=λσ=>(gZ σ v k).map λr=>(.ok r,σ)
abbrev dP(m i:M PV):M PV:=bnd m λv=>bnd i λk=>E5 v k
abbrev lG(m:M PV)(lo hi:Option (M PV)):M PV:=bnd m λv=>bnd (ut lo) λl=>bnd (ut hi) λh=>wN v l h
abbrev xr(m:M PV):M PV:=bnd m λv=>Mk v
def E6(i:M PV)(vs:List PV):M PV:=if vs.length<100 then bnd i λk=>lift (s6 vs k)else cU
abbrev s8(ms:List (M PV))(i:M PV):M PV:=bnd (ja ms) λvs=>E6 i vs
def Jd(s:List Nat)(v:PV):M PV:=λσ=>(oG σ s v).map λr=>(.ok r,σ)
abbrev Hq(s:List Nat)(m:M PV):M PV:=bnd m λv=>Jd s v
abbrev cM(sem:List PV->M PV)(ms:List (M PV)):M PV:=bnd (ja ms) sem
abbrev jC(mo m:M PV):M PV:=bnd mo λv=>kz v m
abbrev E7(mo:M PV):M PV:=bnd mo λv=>Mp v
abbrev s9(m:M PV):M PV:=bnd (ja [m]) BI
abbrev MU(mo m:M PV):M PV:=bnd mo λv=>ER v m
abbrev MV(mo k d:M PV):M PV:=bnd mo λv=>yP v k d
noncomputable def MW(ks:List (List Nat))(vs:List PV):M PV:=λσ=>some (.ok (.ref σ.length),σ++[.dict (ks.zip vs)])
abbrev Hr(ks:List (List Nat))(ms:List (M PV)):M PV:=bnd (ja ms) λvs=>MW ks vs
abbrev MX(ty:String)(m:M PV):M PV:=bnd m λv=>lift ((PC ty v).map λb=> .d (.bool b))
abbrev dF(aa:Lo):M Fl:=ret (.nxt aa)
abbrev dZ(aa:Lo)(i:Nat)(m:M PV):M Fl:=bnd m λv=>ret (.nxt (rG aa i v))
abbrev so(aa:Lo)(i:Nat)(op:Operator)(m:M PV):M Fl:=bnd (lift (aa[i]?).join) λold=>bnd m λv=>bnd (lift (uP op old v)) λw=>ret (.nxt (rG aa i w))
abbrev eS(t:M Bool)(a b:M Fl):M Fl:=bnd t λc=>match c with|true=>a|false=>b
abbrev eJ(m:M PV):M Fl:=bnd m λv=>ret (.ret v)
abbrev Hs:M Fl:=ret (.ret (.d .none))
abbrev E8(aa:Lo):M Fl:=ret (.brk aa)
abbrev oz(aa:Lo)(m:M PV):M Fl:=bnd m λ_=>ret (.nxt aa)
abbrev E9(aa:Lo)(is:List Nat)(m:M PV):M Fl:=bnd m λv=>bnd (lift (AG is aa v)) λloc'=>ret (.nxt loc')
def MY(aa:Lo)(is:List Nat)(v:PV):M Fl:=match v with| .d (.tup xs)=>if xs.length=is.length then ret (.nxt (rH aa is.reverse xs.reverse))else cU|_=>cU
abbrev Ht(aa:Lo)(is:List Nat)(m:M PV):M Fl:=bnd m λv=>MY aa is v
abbrev MZ(aa:Lo)(s:List Nat)(m mo:M PV):M Fl:=bnd m λu=>bnd mo λv=>setO s v u λ_=>ret (.nxt aa)
def Je(aa:Lo)(s:List Nat)(op:Operator)(m:M PV)(v:PV):M Fl:=λσ=>match oG σ s v with
   |some old=>bnd m (λu=>bnd (lift (uP op old u)) λw=>setO s v w λ_=>ret (.nxt aa)) σ
   |none=>none
abbrev Hu(aa:Lo)(s:List Nat)(op:Operator)(m mo:M PV):M Fl:=bnd mo λv=>Je aa s op m v
def M0(aa:Lo)(u v k:PV):M Fl:=λσ=>E1 σ v k u (λ_=>ret (.nxt aa)) σ
abbrev Hv(aa:Lo)(m mo mi:M PV):M Fl:=bnd m λu=>bnd mo λv=>bnd mi λk=>M0 aa u v k
abbrev CR(sem:List PV->M Unit)(ms:List (M PV)):M Fl:=bnd (ja ms) λvs=>uT (sem vs)
abbrev BP(k:Nat)(asg:Lo->PV->Option Lo)(mi:M PV)(mb:Lo->M Fl)(aa:Lo):M Fl:=bnd mi λv=>BK k asg mb aa v
abbrev Fa(k:Nat)(asg:Lo->PV->Option Lo)(mi:M PV)(mb:Lo->M Fl)(aa:Lo):M Fl:=bnd mi λv=>Ko k asg mb aa v
abbrev M1(k:Nat)(iy:Nat)(aa:Lo)(sem:List PV->M PV)(mv:M PV):M Fl:=bnd mv λv=>xq iy aa v sem k k
theorem WA{x:Str}{v:PV}(g:GV G x v)(hk:f.cs.kind= .function)(hx:f.cs.names.lookup x=some .globalImplicit)(hd:(x ==("__debug__":Str))=false):dR G n f aa (.Name x pos) (kN v):=by refine eN g.is λV h1 h2=> ?_;exact Ki hk hx h1 h2 hd
theorem wV{x:Str}{s:List Nat}{k:Nat}(hs:x.cps.toList=s):dR G n f aa (.Constant (.str x) k pos) (cW s):=by subst hs;exact Tc
theorem Jf{x:Str}(g:GF G x a)(hx:f.cs.names.lookup x=some .globalImplicit)(hd:(x ==("__debug__":Str))=false)
  (hs:jy G n f aa es ms)(hc:fK G n a sem):dR G n f aa (.Call (.Name x np) es [] pos) (cM sem ms):=Pz hx g.mg hd g.keep hs hc
theorem M2{x:Str}{id:String}{prim:List PV->M PV}(g:GB G x (.builtin id))(hx:f.cs.names.lookup x=some .globalImplicit)(hd:(x ==("__debug__":Str))=false)
  (hs:jy G n f aa (e::es) (m::ms))(hp:rE G n f (.builtin id) prim):dR G n f aa (.Call (.Name x np) (e::es) [] pos) (cM prim (m::ms)):=by
 cases hs with
 |cons h0 h1 hs=>exact Ml hx g.mg g.hb g.ne hd h0 h1 hs hp
theorem vH{x:Str}{id:String}{prim:List PV->M PV}(g:GB G x (.type id))(hx:f.cs.names.lookup x=some .globalImplicit)(hd:(x ==("__debug__":Str))=false)
  (hs:jy G n f aa (e::es) (m::ms))(hp:rE G n f (.type id) prim):dR G n f aa (.Call (.Name x np) (e::es) [] pos) (cM prim (m::ms)):=by
 cases hs with
 |cons h0 h1 hs=>exact Mm hx g.mg g.hb g.ne hd h0 h1 hs hp
theorem M3{x y:Str}{yp:Pos}{ty:String}(g:GB G x (.builtin "isinstance"))(hx:f.cs.names.lookup x=some .globalImplicit)(hd:(x ==("__debug__":Str))=false)
  (gy:GB G y (.type ty))(hy:f.cs.names.lookup y=some .globalImplicit)(hdy:(y ==("__debug__":Str))=false)(hty:ty="tuple"\/ty="list")
  (h0:W.isStarred e=false)(h1:dR G n f aa e m):dR G n f aa (.Call (.Name x np) [e,.Name y yp] [] pos) (MX ty m):=Tw hx g.mg g.hb g.ne hd hy gy.mg gy.hb gy.ne hdy hty h0 h1
theorem PL{x:Str}{xp:Pos}{nm:Str}{s:List Nat}(R:yT G)(hf:findIn G.K (.ref G.rC) nm=some none)(hs:nm.cps.toList=s)(h:dR G n f aa (.Name x xp) m):dR G n f aa (.Attribute (.Name x xp) nm pos) (Hq s m):=by subst hs;exact PF R hf h
theorem PM{x:Str}{xp tp:Pos}{nm:Str}{s:List Nat}{mo:M PV}(R:yT G)(hf:findIn G.K (.ref G.rC) nm=some none)(hn:nm.cps.toList=s)(hs:swapsWith e (some (.Attribute (.Name x xp) nm tp)) pos.line f.env=pure false)(ho:dR G n f aa (.Name x xp) mo)(he:dR G n f aa e m):
  jB G n f aa (.Assign [.Attribute (.Name x xp) nm tp] e pos) (MZ aa s m mo):=by
 subst hn;exact Hj R hf hs ho he
theorem PN{x:Str}{xp tp:Pos}{nm:Str}{s:List Nat}{op:Operator}{mo:M PV}(R:yT G)(hf:findIn G.K (.ref G.rC) nm=some none)(hn:nm.cps.toList=s)(ho:dR G n f aa (.Name x xp) mo)(he:dR G n f aa e m):
  jB G n f aa (.AugAssign (.Attribute (.Name x xp) nm tp) op e pos) (Hu aa s op m mo):=by
 subst hn;exact Hk R hf ho he
theorem Jg{ks:List (Str×Nat×Pos)}{ss:List (List Nat)}(hk:ks.map (·.1.cps.toList)=ss)(hs:jy G n f aa es ms)(hl:ks.length=es.length)(h0:ks≠[])(h15:ks.length<=15)(hn:(ks.map (·.1)).Nodup):
  dR G n f aa (.Dict (ks.map λk=>some (ES k)) es pos) (Hr ss ms):=by
 subst hk;exact Px hs hl h0 h15 hn
theorem Tz{i:cP}{mi:M PV}(h:dR G n f aa e m)(hi:dR G n f aa i mi)(hs:qK i=true):dR G n f aa (.Subscript e i pos) (dP m mi):=Tp h hi hs
theorem PO{i:cP}{lp:Pos}{mi:M PV}(h:jy G n f aa es ms)(hi:dR G n f aa i mi)(hs:qK i=true):dR G n f aa (.Subscript (.List es lp) i pos) (s8 ms mi):=PD h hi hs
theorem M4{x:Str}{cp:Pos}{sem:List PV->M Unit}(F:∀M,ku M G.h₀ G.fC)(g:GF G x a)(hx:f.cs.names.lookup x=some .globalImplicit)(hd:(x ==("__debug__":Str))=false)
  (hs:jy G n f aa es ms)(hne:es≠[])(hc:jS G n a sem):jB G n f aa (.Raise (some (.Call (.Name x np) es [] cp)) none pos) (CR sem ms):=ML F hx g.mg hd g.keep hs hne hc
theorem Fb{tgt:cP}{x:Str}{cpos:Pos}(k:Nat)(g:GB G x (.type "range"))(hx:f.cs.names.lookup x=some .globalImplicit)(hd:(x ==("__debug__":Str))=false)
  (h0:W.isStarred e=false)(hf:∀y,foldedSetIterable (.Call (.Name x np) [e] [] cpos) f.env y=pure y)(ha:yQ G n f tgt asg)(he:dR G n f aa e m)(hb:∀aa,ow G n f aa b (mb aa)):
  jB G n f aa (.For tgt (.Call (.Name x np) [e] [] cpos) b [] pos) (Fa k asg m mb aa):=Mx k hx g.mg g.hb g.ne hd h0 hf ha he hb
theorem TB{c:Str}{p rp hp:Pos}{k:Nat}{mb:M Fl}(F:∀M,ku M G.h₀ G.fC)(g:G.mg c=some (.ref G.fC))(hx:f.cs.names.lookup c=some .globalImplicit)(hd:(c ==("__debug__":Str))=false)(hb:ow G n f aa body mb):
  jB G n f aa (.Try body [.ExceptHandler (some (.Name c np)) none [.Return (some (.Constant .none k p)) rp] hp] [] [] pos) (CQ mb):=Ty F hx g hd hb
end
section
structure FK(G:Gl)(a:Addr)(nm:Str)(pm:Arguments)(bod:List Stmt)(sc:Scope)(dV:Value):Prop where
 is:∃oc od sl nm' kV doc pv an c ct,G.K.lookup a=some ⟨oc,od,.func (fnOf nm' nm pm bod sc dV kV doc pv an (.ref c) ct),sl⟩/\codeIn G.K (.ref c) nm=true
structure WB(sc:Scope):Prop where
 cell:(sc.names.all λx=>x.2 != .cell)=true
 co:sc.isCoroutine=false
 gen:sc.isGenerator=false
 kind:sc.kind= .function
theorem tY{nm:Str}{pm:Arguments}{bod:List Stmt}{dV:Value}{k:Nat}(F:FK G a nm pm bod sc dV)(S:WB sc)(hp:ps.length=k+ds.length)
  (hb:∀nm' kV doc pv an cd ct s Vs,G.h₀.StaysIn s.heap->Vs.length=k->∃Ds,dD G.h₀ Ds ds/\BindsTo s (fnOf nm' nm pm bod sc dV kV doc pv an cd ct) ⟨Vs,[]⟩ (ps.zip (Vs++Ds))):∃cd,CK G a nm sc cd bod ps k ds:=by
 refine Ct F.is λoc od sl nm' kV doc pv an c ct h1 h2=> ?_;refine⟨.ref c,⟨⟨_,_,G.KX _ _ h1,rfl,rfl,rfl,rfl,rfl,rfl,rfl,rfl,λs Vs=>hb nm' kV doc pv an (.ref c) ct s Vs⟩,codeRec_of G.KX h2,λx hx=> ?_,S.co,S.gen,S.kind,hp⟩⟩;have:=fu.mp S.cell x hx
 simpa using this
theorem CS{nm:Str}{pm:Arguments}{bod:List Stmt}{k:Nat}(h:∀nm' kV doc pv an cd ct Vs,Vs.length=k->bindArgs (fnOf nm' nm pm bod sc .none kV doc pv an cd ct) ⟨Vs,[]⟩=pure (ps.zip Vs)):
  ∀nm' kV doc pv an cd ct s Vs,G.h₀.StaysIn (Shared.heap s)->Vs.length=k->∃Ds,dD G.h₀ Ds []/\BindsTo s (fnOf nm' nm pm bod sc .none kV doc pv an cd ct) ⟨Vs,[]⟩ (ps.zip (Vs++Ds)):=
 λnm' kV doc pv an cd ct s Vs _ hl=>⟨[],.nil,.of_eq (by rw[gD];exact h nm' kV doc pv an cd ct Vs hl)⟩
def semF(k:Nat)(m:Lo->M Fl)(ds:List D)(more:Nat)(vs:List PV):M PV:=sZ (if vs.length=k then i6 (m (eR vs ds more))else cU)
theorem WC{cn:Str}{k:Nat}{m:Lo->M Fl}(fn:∃cd,CK G a cn sc cd body ps k ds)(hn:(ps++more).Nodup)(hl:((ps++more).all λx=>sc.names.lookup x == some .local)=true)
  (ok:∀aa L cd,ow G n ⟨cn,sc,L,a,cd,ps++more⟩ aa body (m aa)):fK G (n+1) a (semF k m ds more.length):=by
 refine oE fn λcd fn=> ?_;refine fK.drop λf A ag Ls ad σ s R vs Vs r σ' C S rv e P=> ?_;by_cases hk:vs.length=k
 ·rw[cH hk]at e;exact CL fn hn (λx hx=>by have:=fu.mp hl x hx;simpa using this) (λL=>ok _ L cd) hk C S rv e P
 ·rw[cJ hk]at e;exact eC e
def pg(k:Nat)(m:Lo->M Fl)(ds:List D)(more:Nat)(vs:List PV):M PV:=sZ (if vs.length=k then i6 (m (eR vs ds more))else if vs.length=k+ds.length then i6 (m (eR vs [] more))else cU)
theorem TC{cn:Str}{k:Nat}{m:Lo->M Fl}(fn:∃cd,CK G a cn sc cd body ps k ds)(fn':∃cd,CK G a cn sc cd body ps (k+ds.length) [])(hn:(ps++more).Nodup)(hl:((ps++more).all λx=>sc.names.lookup x == some .local)=true)
  (ok:∀aa L cd,ow G n ⟨cn,sc,L,a,cd,ps++more⟩ aa body (m aa)):fK G (n+1) a (pg k m ds more.length):=by
 refine oE fn λcd fn=> ?_;refine oE fn' λcd' fn'=> ?_;have hl':∀x ∈ ps++more,sc.names.lookup x=some .local:=λx hx=>by have:=fu.mp hl x hx;simpa using this
 refine fK.drop λf A ag Ls ad σ s R vs Vs r σ' C S rv e P=> ?_;by_cases hk:vs.length=k
 ·rw[cH hk]at e;exact CL fn hn hl' (λL=>ok _ L cd) hk C S rv e P
 ·rw[cJ hk]at e;by_cases hk2:vs.length=k+ds.length
  ·rw[cH hk2]at e;exact CL fn' hn hl' (λL=>ok _ L cd') hk2 C S rv e P
  ·rw[cJ hk2]at e;exact eC e
theorem wW:fK G n a (λ_=>cU):=λ_ _ _ _ _ _ _ _ _ _ _ _ _ _ _ e=>by exact eC e
theorem y0:jS G n a (λ_=>cU):=λ_ _ _ _ _ _ _ _ _ _ _ _ _ _ e=>by exact eC e
end
section
noncomputable def M5(g:Value->D->Bool):List Value->List D->Bool
 |[],ds=>ds.isEmpty
 |v::vs,ds=>match ds with
  |[]=>false
  |d::ds=>g v d && M5 g vs ds
noncomputable def WD(K:Frag)(a:Addr)(n:String):Option (List Value):=match K.lookup a with
 |some ⟨.type c,_,.seq items _,_⟩=>if c=n then some items.toList else none
 |_=>none
theorem Jh{K:Frag}{n:String}{vs:List Value}(e:WD K a n=some vs):∃od items m sl,K.lookup a=some ⟨.type n,od,.seq items m,sl⟩/\items.toList=vs:=by
 unfold WD at e
 symm at e
 ·rename_i q;exact oA (I5 e) λc e=>⟨_,_,_,_,c▸q,e⟩
 ·exact eC e
noncomputable def Vo(K:Frag):Nat->Value->D->Bool
 | 0,_,_=>false
 |f+1,V,d=>match d with
  | .none=>(match V with| .none=>true|_=>false)
  | .bool c=>(match V with| .bool b=>b == c|_=>false)
  | .int j=>(match V with| .int i _=>i == j|_=>false)
  | .str s=>(match V with| .str x _=>x.cps.toList == s|_=>false)
  | .tup xs=>match V with| .ref a=>(WD K a "tuple").elim false λvs=>M5 (Vo K f) vs xs|_=>false
theorem M6{o:Option α}{f:α->Bool}(e:o.elim false f=true):∃a,o=some a/\f a=true:=by
 cases o with
 |none=>exact mY e
 |some a=>exact⟨a,rfl,e⟩
theorem Ji{g:Value->D->Bool}(hg:∀v d,g v d=true->Rd h v d):∀{vs:List Value}{ds:List D},M5 g vs ds=true->dD h vs ds:=by
 intro vs
 induction vs with
 |nil=>intro ds e;cases ds with
  |nil=>exact .nil
  |cons d ds=>exact mY e
 |cons v vs ih=>intro ds e;cases ds with
  |nil=>exact mY e
  |cons d ds=>exact oA (Bool.and_eq_true_iff.mp e) λe1 e2=> .cons (hg v d e1) (ih e2)
theorem Hw{K:Frag}(X:K.In h)(f:Nat):∀(V:Value)(d:D),Vo K f V d=true->Rd h V d:=by
 induction f with
 |zero=>intro V d e;exact mY e
 |succ f ih=>
  intro V d e;cases d with
  |none=>
   have e:(match(generalizing:=false) V with| .none=>true|_=>false)=true:=e
   split at e
   ·exact .none
   ·exact mY e
  |bool c=>
   have e:(match(generalizing:=false) V with| .bool b=>b == c|_=>false)=true:=e
   split at e
   ·rw[kc.mp e];exact .bool _
   ·exact mY e
  |int j=>
   have e:(match(generalizing:=false) V with| .int i _=>i == j|_=>false)=true:=e
   split at e
   ·rw[kc.mp e];exact .int _ _
   ·exact mY e
  |str s=>
   have e:(match(generalizing:=false) V with| .str x _=>x.cps.toList == s|_=>false)=true:=e
   split at e
   ·rw[<-kc.mp e];exact .str _ _
   ·exact mY e
  |tup xs=>
   have e:(match(generalizing:=false) V with| .ref a=>(WD K a "tuple").elim false λvs=>M5 (Vo K f) vs xs|_=>false)=true:=e
   split at e
   ·exact eN (M6 e) λvs e1 e2=>match Jh e1 with|⟨_,_,_,_,q,r⟩=> .tup (X _ _ q) rfl rfl (Ji ih (r▸e2))
   ·exact mY e
def Z3(K:Frag)(x:Str)(pv:PV):Bool:=match nsIn K mainGlobals x with
 |some (some V)=>(match pv with
  | .d d=>Vo K 4 V d
  | .cl xs=>(match V with| .ref a=>(WD K a "list").elim false λvs=>M5 (Vo K 4) vs xs|_=>false)
  |_=>false)
 |_=>false
theorem my{x:Str}{pv:PV}(e:Z3 G.K x pv=true):GV G x pv:=by
 unfold Z3 at e
 symm at e
 ·rename_i V q;cases pv with
  |d d=>exact⟨V,mg_of G.KX G.hg q,λh ad k=>Hw (G.KX.keeps k) _ _ _ e⟩
  |cl xs=>
   dsimp only at e;split at e
   ·exact eN (M6 e) λvs e1 e2=>match Jh e1 with|⟨_,_,_,_,q2,r⟩=>⟨_,mg_of G.KX G.hg q,λh ad k=>⟨_,_,rfl,⟨_,G.KX _ _ q2,rfl,_,rfl⟩,Ji (λv d=>Hw G.KX 4 v d) (r▸e2)⟩⟩
   ·exact mY e
  |ref k=>exact mY e
  |inst k=>exact mY e
  |cd kvs=>exact mY e
 ·exact mY e
noncomputable def PQ(P:Params)(l:List (Str×Tok×Value)):Array DictEntry:=(l.map λe=>⟨PyData.keyHash P e.1,.str e.1 e.2.1,e.2.2⟩).toArray
noncomputable def Yw(K:Frag):List (Str×Tok×Value)->List (List Nat×D)->Bool
 |[],kvs=>kvs.isEmpty
 |e::es,kvs=>match kvs with
  |[]=>false
  |kv::kvs=>(e.1.cps.toList == kv.1 && Vo K 4 e.2.2 kv.2) && Yw K es kvs
theorem TD{K:Frag}(X:K.In h):∀{l:List (Str×Tok×Value)}{kvs:List (List Nat×D)},Yw K l kvs=true->Kh h (l.map λe=>(e.1,e.2.2)) kvs:=by
 intro l
 induction l with
 |nil=>intro kvs z;cases kvs with
  |nil=>trivial
  |cons kv kvs=>exact mY z
 |cons e es ih=>intro kvs z;cases kvs with
  |nil=>exact mY z
  |cons kv kvs=>
   refine oA (Bool.and_eq_true_iff.mp z) λz1 z2=>oA (Bool.and_eq_true_iff.mp z1) λz3 z4=>⟨?_,Hw X _ _ _ z4,ih z2⟩;show e.1=_;rw[<-kc.mp z3,oQ]
theorem Fc{prog:Program}{w:World}:∀l:List (Str×Tok×Value),Pairs (PySem.strKind prog w) (l.map λe=>(⟨PyData.keyHash w.params e.1,.str e.1 e.2.1,e.2.2⟩:DictEntry)) (l.map λe=>(e.1,e.2.2))
 |[]=> .nil
 |e::es=> .cons (strKind_is _ _ _ _) rfl (Fc es)
theorem Jj{x:Str}{l:List (Str×Tok×Value)}{kvs:List (List Nat×D)}(e:nsIn G.K mainGlobals x=some (some (.ref a)))(ha:(a == sysModules)=false)(ho:G.K.lookup a=some ⟨.type "dict",none,.dict (PQ G.w.params l) n,#[]⟩)
  (hn:(l.map λe=>(e.1,e.2.2)).map (·.1) |>.Nodup)(hc:Yw G.K l kvs=true):GV G x (.cd kvs):=by
 refine⟨.ref a,mg_of G.KX G.hg e,λh ad k=>⟨a,l.map λe=>(e.1,e.2.2),rfl,ha,⟨_,_,_,G.KX _ _ ho,⟨rfl,rfl,rfl⟩,rfl,?_,?_,hn⟩,TD G.KX hc⟩⟩
 ·intro en hen;unfold PQ at hen;rw[<-Array.mem_toList_iff,List.toList_toArray]at hen;refine eN (List.mem_map.mp hen) λe _ ez1=> ?_;subst ez1;exact⟨e.1,strKind_is _ _ _ _,rfl⟩
 ·show Pairs _ (PQ G.w.params l).toList _;unfold PQ;rw[List.toList_toArray];exact Fc l
theorem Jk{x:Str}(e:nsIn G.K mainGlobals x=some (some (.ref a)))(k:keepIn G.K (.ref a)=true):GF G x a:=⟨mg_of G.KX G.hg e,k⟩
theorem y6{x:Str}{V:Value}(e:nsIn G.K mainGlobals x=some none)(h:bootBuiltins x=some V)(ne:x≠"__name__"):GB G x V:=⟨mg_none_of G.KX G.hg e,h,ne⟩
end
end
variable{aa:Lo}{mo:Lo->M Fl}{mt:Lo->M Bool}{mb:Lo->M Fl}{asg:Lo->PV->Option Lo}
inductive Cm:Type->Type 1 where
 |ret {α:Type} (a:α):Cm α
 |ask {α:Type} (m:M α):Cm α
 |cmp {α:Type} (m:M α):Cm α
 |bnd {α β:Type} (c:Cm α) (f:α->Cm β):Cm β
 |seq (c:Cm Fl) (f:Lo->Cm Fl):Cm Fl
 |ite {α:Type} (t:Cm Bool) (a b:Cm α):Cm α
 |and (a b:Cm Bool):Cm Bool
 |or (a b:Cm Bool):Cm Bool
 |andV (a b:Cm PV):Cm PV
 |orV (a b:Cm PV):Cm PV
noncomputable def fG{α:Type}:Cm α->M α
 | .ret a=>Internal.ret a
 | .ask m=>m
 | .cmp m=>m
 | .bnd c f=>Internal.bnd (fG c) λa=>fG (f a)
 | .seq c f=>dn (fG c) λl=>fG (f l)
 | .ite t a b=>Internal.bnd (fG t) λc=>match c with|true=>fG a|false=>fG b
 | .and a b=>Internal.bnd (fG a) λc=>match c with|true=>fG b|false=>Internal.ret false
 | .or a b=>Internal.bnd (fG a) λc=>match c with|true=>Internal.ret true|false=>fG b
 | .andV a b=>Internal.bnd (fG a) λv=>match pW v with|some true=>fG b|some false=>Internal.ret v|none=>cU
 | .orV a b=>Internal.bnd (fG a) λv=>match pW v with|some true=>Internal.ret v|some false=>fG b|none=>cU
def onR(f:α->List MO->Prop)(K:R β->List MO->Prop):R α->List MO->Prop
 | .ok a,σ=>f a σ
 | .exc,σ=>K .exc σ
def Yx(a b:List MO->Prop)(K:R β->List MO->Prop):R Bool->List MO->Prop
 | .ok true,σ=>a σ
 | .ok false,σ=>b σ
 | .exc,σ=>K .exc σ
def onF(f:Lo->List MO->Prop)(K:R Fl->List MO->Prop):R Fl->List MO->Prop
 | .ok (.nxt l),σ=>f l σ
 | .ok (.brk l),σ=>K (.ok (.brk l)) σ
 | .ok (.ret v),σ=>K (.ok (.ret v)) σ
 | .exc,σ=>K .exc σ
def Z4(a b:PV->List MO->Prop)(K:R PV->List MO->Prop):R PV->List MO->Prop
 | .ok v,σ=>match pW v with
  |some true=>a v σ
  |some false=>b v σ
  |none=>True
 | .exc,σ=>K .exc σ
def Z5(K:R α->List MO->Prop):Option (R α×List MO)->Prop
 |some (r,σ)=>K r σ
 |none=>True
noncomputable def AH{α:Type}:Cm α->List MO->(R α->List MO->Prop)->Prop
 | .ret a,σ,K=>K (.ok a) σ
 | .ask m,σ,K=>∀{r σ'},m σ=some (r,σ')->K r σ'
 | .cmp m,σ,K=>Z5 K (m σ)
 | .bnd c f,σ,K=>AH c σ (onR (λa σ=>AH (f a) σ K) K)
 | .seq c f,σ,K=>AH c σ (onF (λa σ=>AH (f a) σ K) K)
 | .ite t a b,σ,K=>AH t σ (Yx (λσ=>AH a σ K) (λσ=>AH b σ K) K)
 | .and a b,σ,K=>AH a σ (Yx (λσ=>AH b σ K) (K (.ok false)) K)
 | .or a b,σ,K=>AH a σ (Yx (K (.ok true)) (λσ=>AH b σ K) K)
 | .andV a b,σ,K=>AH a σ (Z4 (λ_ σ=>AH b σ K) (λv=>K (.ok v)) K)
 | .orV a b,σ,K=>AH a σ (Z4 (λv=>K (.ok v)) (λ_ σ=>AH b σ K) K)
theorem eT{m:M α}{f:α->M β}{a:α}(h:m σ=some (.ok a,σ')):Internal.bnd m f σ=f a σ':=by unfold Internal.bnd;rw[h]
theorem td{m:M α}{f:α->M β}(h:m σ=some (.exc,σ')):Internal.bnd m f σ=some (.exc,σ'):=by unfold Internal.bnd;rw[h]
theorem Z6(c:Cm α):∀(σ:List MO)(K:R α->List MO->Prop),(∀r σ',fG c σ=some (r,σ')->K r σ')->AH c σ K:=by
 induction c with
 |ret a=>exactλσ K h=>h _ _ rfl
 |ask m=>exactλσ K h r σ' e=>h _ _ e
 |cmp m=>
  intro σ K h;show Z5 K (m σ);cases q:m σ with
  |none=>trivial
  |some p=>exact h _ _ q
 |bnd c f ih1 ih2=>
  refineλσ K h=>ih1 _ _ λr σ' e=> ?_
  cases r with
  |exc=>exact h _ _ (td e)
  |ok a=>exact ih2 a _ _ λr σ'' e2=>h _ _ ((eT e).trans e2)
 |seq c f ih1 ih2=>
  refineλσ K h=>ih1 _ _ λr σ' e=> ?_
  cases r with
  |exc=>exact h _ _ (td e)
  |ok a=>cases a with
   |nxt l=>exact ih2 l _ _ λr σ'' e2=>h _ _ ((eT e).trans e2)
   |_=>exact h _ _ (eT e)
 |ite t a b ih1 ih2 ih3=>
  refineλσ K h=>ih1 _ _ λr σ' e=> ?_
  cases r with
  |exc=>exact h _ _ (td e)
  |ok c=>cases c with
   |true=>exact ih2 _ _ λr σ'' e2=>h _ _ ((eT e).trans e2)
   |false=>exact ih3 _ _ λr σ'' e2=>h _ _ ((eT e).trans e2)
 |and a b ih1 ih2=>
  refineλσ K h=>ih1 _ _ λr σ' e=> ?_
  cases r with
  |exc=>exact h _ _ (td e)
  |ok c=>cases c with
   |true=>exact ih2 _ _ λr σ'' e2=>h _ _ ((eT e).trans e2)
   |false=>exact h _ _ (eT e)
 |or a b ih1 ih2=>
  refineλσ K h=>ih1 _ _ λr σ' e=> ?_
  cases r with
  |exc=>exact h _ _ (td e)
  |ok c=>cases c with
   |false=>exact ih2 _ _ λr σ'' e2=>h _ _ ((eT e).trans e2)
   |true=>exact h _ _ (eT e)
 |andV a b ih1 ih2=>
  refineλσ K h=>ih1 _ _ λr σ' e=> ?_
  cases r with
  |exc=>exact h _ _ (td e)
  |ok v=>
   show match pW v with|some true=>_|some false=>_|none=>_
   cases q:pW v with
   |none=>trivial
   |some c=>cases c with
    |true=>exact ih2 _ _ λr σ'' e2=>h _ _ ((eT e).trans (by show(match pW v with|some true=>fG b|some false=>Internal.ret v|none=>cU) σ'=_;rw[q];exact e2))
    |false=>exact h _ _ ((eT e).trans (by show(match pW v with|some true=>fG b|some false=>Internal.ret v|none=>cU) σ'=_;rw[q];rfl))
 |orV a b ih1 ih2=>
  refineλσ K h=>ih1 _ _ λr σ' e=> ?_
  cases r with
  |exc=>exact h _ _ (td e)
  |ok v=>
   show match pW v with|some true=>_|some false=>_|none=>_
   cases q:pW v with
   |none=>trivial
   |some c=>cases c with
    |true=>exact h _ _ ((eT e).trans (by show(match pW v with|some true=>Internal.ret v|some false=>fG b|none=>cU) σ'=_;rw[q];rfl))
    |false=>exact ih2 _ _ λr σ'' e2=>h _ _ ((eT e).trans (by show(match pW v with|some true=>Internal.ret v|some false=>fG b|none=>cU) σ'=_;rw[q];exact e2))
noncomputable def kF:R Fl->List MO->Option (R PV×List MO)
 | .ok (.ret v),σ=>some (.ok v,σ)
 | .ok (.nxt _),σ=>some (.ok (.d .none),σ)
 | .ok (.brk _),_=>none
 | .exc,σ=>some (.exc,σ)
theorem WE{m:M Fl}{c:Cm Fl}(h:m=fG c)(σ:List MO):AH c σ λr σ'=>True->i6 m σ=kF r σ':=
 Z6 c σ _ λr σ' e _=>by
  subst h;cases r with
  |exc=>exact td e
  |ok fl=>cases fl<;>exact eT e
theorem d8{m:M Fl}{c:Cm Fl}{o:Option (R PV×List MO)}(h:m=fG c)(f:(AH c σ λr σ'=>True->i6 m σ=kF r σ')->i6 m σ=o):i6 m σ=o:=f (WE h σ)
theorem pX{m:M Fl}{c:Cm Fl}{o o':Option (R PV×List MO)}(h:m=fG c)(f:(AH c σ λr σ'=>True->i6 m σ=kF r σ')->i6 m σ=o)(e:o=o'):i6 m σ=o':=(f (WE h σ)).trans e
theorem Yy{m:M α}{c:Cm α}(h:m=fG c)(σ:List MO):AH c σ λr σ'=>True->m σ=some (r,σ'):=Z6 c σ _ λr σ' e _=>h▸e
theorem fX{m:M α}{c:Cm α}{o:Option (R α×List MO)}(h:m=fG c)(f:(AH c σ λr σ'=>True->m σ=some (r,σ'))->m σ=o):m σ=o:=f (Yy h σ)
abbrev cF(aa:Lo)(i:Nat):Cm PV:= .cmp (lift (aa[i]?).join)
noncomputable abbrev cL(i:Int):Cm PV:= .ret (.d (.int i))
noncomputable abbrev cK(s:List Nat):Cm PV:= .ret (.d (.str s))
noncomputable abbrev mz:Cm PV:= .ret (.d .none)
noncomputable abbrev y7(b:Bool):Cm PV:= .ret (.d (.bool b))
noncomputable abbrev lX(v:PV):Cm PV:= .ret v
noncomputable def xu:List (Cm PV)->Cm (List PV)
 |[]=> .ret []
 |m::r=> .bnd m λv=> .bnd (xu r) λvs=> .ret (v::vs)
abbrev eo(ms:List (Cm PV)):Cm PV:= .bnd (xu ms) λv=> .cmp (EO v)
abbrev mA(ms:List (Cm PV)):Cm PV:= .bnd (xu ms) λv=> .cmp (G4 v)
abbrev dT(op:Operator)(a b:Cm PV):Cm PV:= .bnd a λx=> .bnd b λy=> .ask (ly op x y)
abbrev ph(op:CmpOp)(a b:Cm PV):Cm PV:= .bnd a λx=> .bnd b λy=> .bnd (.ask (ir op x y)) λc=> .ret (.d (.bool c))
abbrev cV(op:CmpOp)(a b:Cm PV):Cm Bool:= .bnd a λx=> .bnd b λy=> .ask (ir op x y)
abbrev gv(m:Cm PV):Cm Bool:= .bnd m λv=> .cmp (lift (pW v))
noncomputable abbrev oB(m:Cm Bool):Cm Bool:= .bnd m λb=> .ret (!b)
abbrev M7(o1 o2:CmpOp)(a b c:Cm PV):Cm Bool:= .bnd a λx=> .bnd b λy=> .ite (.ask (ir o1 x y)) (.bnd c λd=> .ask (ir o2 y d)) (.ret false)
noncomputable abbrev sp(t:Cm Bool)(a b:Cm PV):Cm PV:= .ite t a b
abbrev M8(m:Cm PV):Cm PV:= .bnd m λv=> .cmp (lift (Mh v))
abbrev dr(m i:Cm PV):Cm PV:= .bnd m λv=> .bnd i λk=> .ask (E5 v k)
def WG(v:PV):M (Option Int):=match v with| .d (.int i)=>ret (some i)|_=>cU
def M9:Option (Cm PV)->Cm (Option Int)
 |none=> .ret none
 |some m=> .bnd m λv=> .cmp (WG v)
abbrev oH(m:Cm PV)(lo hi:Option (Cm PV)):Cm PV:= .bnd m λv=> .bnd (M9 lo) λl=> .bnd (M9 hi) λh=> .ask (wN v l h)
abbrev Z7(m:Cm PV):Cm PV:= .bnd m λv=> .ask (Mk v)
abbrev qx(ms:List (Cm PV))(i:Cm PV):Cm PV:= .bnd (xu ms) λvs=> .ask (E6 (fG i) vs)
abbrev te(s:List Nat)(m:Cm PV):Cm PV:= .bnd m λv=> .ask (Jd s v)
abbrev cI(sem:List PV->M PV)(ms:List (Cm PV)):Cm PV:= .bnd (xu ms) λvs=> .ask (sem vs)
abbrev tf(mo m:Cm PV):Cm PV:= .bnd mo λv=> .ask (kz v (fG m))
abbrev Z8(mo:Cm PV):Cm PV:= .bnd mo λv=> .ask (Mp v)
abbrev Yz(m:Cm PV):Cm PV:= .bnd (xu [m]) λvs=> .ask (BI vs)
abbrev TE(mo m:Cm PV):Cm PV:= .bnd mo λv=> .ask (ER v (fG m))
abbrev Z9(mo k d:Cm PV):Cm PV:= .bnd mo λv=> .ask (yP v (fG k) (fG d))
abbrev YA(ks:List (List Nat))(ms:List (Cm PV)):Cm PV:= .bnd (xu ms) λvs=> .cmp (MW ks vs)
abbrev Jl(ty:String)(m:Cm PV):Cm PV:= .bnd m λv=> .ask (lift ((PC ty v).map λb=> .d (.bool b)))
noncomputable def jb:List (Cm Bool)->Cm Bool
 |[]=> .ret true
 |m::r=> .and m (jb r)
noncomputable def pi:List (Cm Bool)->Cm Bool
 |[]=> .ret false
 |m::r=> .or m (pi r)
noncomputable def Jm:List (Cm PV)->Cm PV
 |[]=> .ask cU
 |[m]=>m
 |m::r=> .andV m (Jm r)
noncomputable def WH:List (Cm PV)->Cm PV
 |[]=> .ask cU
 |[m]=>m
 |m::r=> .orV m (WH r)
noncomputable abbrev cZ(aa:Lo):Cm Fl:= .ret (.nxt aa)
abbrev dA(aa:Lo)(i:Nat)(m:Cm PV):Cm Fl:= .bnd m λv=> .ret (.nxt (rG aa i v))
abbrev oC(aa:Lo)(i:Nat)(op:Operator)(m:Cm PV):Cm Fl:= .bnd (cF aa i) λold=> .bnd m λv=> .bnd (.ask (lift (uP op old v))) λw=> .ret (.nxt (rG aa i w))
noncomputable abbrev dm(t:Cm Bool)(a b:Cm Fl):Cm Fl:= .ite t a b
noncomputable abbrev df(m:Cm PV):Cm Fl:= .bnd m λv=> .ret (.ret v)
noncomputable abbrev PR:Cm Fl:= .ret (.ret (.d .none))
noncomputable abbrev Na(aa:Lo):Cm Fl:= .ret (.brk aa)
noncomputable abbrev mB(aa:Lo)(m:Cm PV):Cm Fl:= .bnd m λ_=> .ret (.nxt aa)
abbrev tg(aa:Lo)(is:List Nat)(m:Cm PV):Cm Fl:= .bnd m λv=> .bnd (.cmp (lift (AG is aa v))) λloc'=> .ret (.nxt loc')
abbrev PU(aa:Lo)(is:List Nat)(m:Cm PV):Cm Fl:= .bnd m λv=> .cmp (MY aa is v)
abbrev jT(aa:Lo)(s:List Nat)(m mo:Cm PV):Cm Fl:= .bnd m λu=> .bnd mo λv=> .ask (setO s v u λ_=>ret (.nxt aa))
abbrev nG(aa:Lo)(s:List Nat)(op:Operator)(m mo:Cm PV):Cm Fl:= .bnd mo λv=> .ask (Je aa s op (fG m) v)
abbrev CU(aa:Lo)(m mo mi:Cm PV):Cm Fl:= .bnd m λu=> .bnd mo λv=> .bnd mi λk=> .ask (M0 aa u v k)
abbrev nZ(sem:List PV->M Unit)(ms:List (Cm PV)):Cm Fl:= .bnd (xu ms) λvs=> .ask (uT (sem vs))
abbrev TF(m:Cm Fl):Cm Fl:= .ask (CQ (fG m))
abbrev pj(t:Lo->Cm Bool)(b o:Lo->Cm Fl)(W:Nat)(aa:Lo):Cm Fl:= .ask (fw (λl=>fG (t l)) (λl=>fG (b l)) (λl=>fG (o l)) W aa)
abbrev Hx(k:Nat)(asg:Lo->PV->Option Lo)(mi:Cm PV)(mb:Lo->Cm Fl)(aa:Lo):Cm Fl:= .bnd mi λv=> .ask (BK k asg (λl=>fG (mb l)) aa v)
abbrev YB(k:Nat)(asg:Lo->PV->Option Lo)(mi:Cm PV)(mb:Lo->Cm Fl)(aa:Lo):Cm Fl:= .bnd mi λv=> .ask (Ko k asg (λl=>fG (mb l)) aa v)
abbrev PW(k:Nat)(iy:Nat)(aa:Lo)(sem:List PV->M PV)(mv:Cm PV):Cm Fl:= .bnd mv λv=> .ask (xq iy aa v sem k k)
theorem dC{v k x:PV}(h:gZ σ v k=some x):E5 v k σ=some (.ok x,σ):=by unfold E5;rw[h];rfl
theorem nj{s:List Nat}{v x:PV}(h:oG σ s v=some x):Jd s v σ=some (.ok x,σ):=by unfold Jd;rw[h];rfl
theorem ig{op:CmpOp}{a b:PV}{c:Bool}(h:gJ σ op a b=some c):ir op a b σ=some (.ok c,σ):=by unfold ir;rw[h];rfl
theorem th{x y:Int}(h:x<y):ir .Lt (.d (.int x)) (.d (.int y)) σ=some (.ok true,σ):=ig (dN some (eE h))
theorem ti{x y:Int}(h:¬x<y):ir .Lt (.d (.int x)) (.d (.int y)) σ=some (.ok false,σ):=ig (dN some (ft h))
theorem Nb{x y:Int}(h:y<x):ir .Gt (.d (.int x)) (.d (.int y)) σ=some (.ok true,σ):=ig (dN some (eE h))
theorem y8{x y:Int}(h:¬y<x):ir .Gt (.d (.int x)) (.d (.int y)) σ=some (.ok false,σ):=ig (dN some (ft h))
theorem BQ{x y:Int}{c:Bool}(h:(x == y)=c):ir .Eq (.d (.int x)) (.d (.int y)) σ=some (.ok c,σ):=ig (dN some h)
theorem oD{op:CmpOp}{a b:PV}(h:gJ σ op a b=some true):ir op a b σ=some (.ok true,σ):=ig h
theorem jU{op:CmpOp}{a b:PV}(h:gJ σ op a b=some false):ir op a b σ=some (.ok false,σ):=ig h
theorem xv{g:PV}{c:Bool}(h:AD σ x g=some c):ir .In (.d (.str x)) g σ=some (.ok c,σ):=ig (by rw[<-h];rfl)
theorem Nc{ys:List D}{c:Bool}(h:AD σ x (.d (.tup ys))=some c):ir .NotIn (.d (.str x)) (.d (.tup ys)) σ=some (.ok (!c),σ):=ig (by show(AD σ x _).map _=_;rw[h];rfl)
theorem pq{s:List Nat}{v u:PV}(h:∀f:Unit->M Fl,setO s v u f σ=f () σ'):setO s v u (λ_=>ret (.nxt aa)) σ=some (.ok (.nxt aa),σ'):=h _
theorem jV{s:List Nat}{op:Operator}{v u old w:PV}(h:oG σ s v=some old)(h2:∀f:Unit->M Fl,setO s v w f σ=f () σ')(h3:autoParam (uP op old u=some w) kq):Je aa s op (ret u) v σ=some (.ok (.nxt aa),σ'):=by unfold Je;rw[h];show bnd (lift (uP op old u)) (λw=>setO s v w λ_=>ret (.nxt aa)) σ=_;rw[h3];exact h2 λ_=>ret (.nxt aa)
theorem rJ(σ:List MO)(l:List D):dW (σ++[.list l]) (.ref σ.length)=some l:=by simp[dW]
theorem vI{J:List MO}{v:PV}{l:List D}(h:dW σ v=some l):dW (σ++J) v=some l:=by
 cases v with
 |ref k=>
  unfold dW at h ⊢;dsimp only at h ⊢;cases q:σ[k]? with
  |none=>rw[q]at h;exact eC h
  |some x=>rw[q]at h;rw[fH (ek.mp q).1,q];exact h
 |_=>exact h
theorem y9{k:Nat}(h:dW σ (.ref k)=some xs)(h2:xs.length<2 ^ 40):jQ [.ref k] σ=some (.ok (.d (.int xs.length)),σ):=by show(dW σ (.ref k)).bind _=_;rw[h];exact cH h2
theorem Sn{k:Nat}(h:dW σ (.ref k)=some xs)(h2:autoParam (Nat.blt xs.length (2 ^ 40)=true) kq):jQ [.ref k] σ=some (.ok (.d (.int xs.length)),σ):=y9 h (fq h2)
theorem Jn{v w:PV}{ys:List D}(h:dW σ v=some xs)(h2:dW σ w=some ys)(hv:∃k,v= .ref k)(h3:autoParam (Nat.ble (xs++ys).length eZ=true) kq):ly .Add v w σ=some (.ok (.ref σ.length),σ++[.list (xs++ys)]):=by refine oE hv λk ez1=> ?_;clear hv;subst ez1;show(dW σ _).bind _=_;rw[h,gQ,h2,gQ];exact cH (fq h3)
theorem wX{i:M PV}{k v:PV}(h:i σ=some (.ok k,σ'))(h2:s6 vs k=some v)(h3:autoParam (Nat.blt vs.length 100=true) kq):E6 i vs σ=some (.ok v,σ'):=by unfold E6;rw[cH (show vs.length<100 from fq h3),eT h,h2];rfl
theorem Nf{y:List Nat}(h:m σ=some (.ok (.d (.str y)),σ')):ER (.d (.str x)) m σ=some (.ok (.d (.int (sW x y))),σ'):=(eT h).trans rfl
theorem BR{op:Operator}{x y z:D}(h:sU op x y=some z):ly op (.d x) (.d y) σ=some (.ok (.d z),σ):=by show(sU op x y).map _=_;rw[h];rfl
theorem WI{m:M Fl}(h:m σ=some (.exc,σ')):CQ m σ=some (.ok (.ret (.d .none)),σ'):=by unfold CQ;rw[h]
theorem px{o:Option α}{a:α}(h:o=some a):lift o σ=some (.ok a,σ):=by subst h;rfl
theorem Fd{m:M α}{f:α->M β}(h:m σ=some (.exc,σ')):bnd m f σ=some (.exc,σ'):=by unfold bnd;rw[h]
theorem qQ{m:M Fl}{k:Lo->M Fl}{l:Lo}(h:m σ=some (.ok (.nxt l),σ')):dn m k σ=k l σ':=eT h
theorem Jo{m:M Fl}{k:Lo->M Fl}(h:m σ=some (.exc,σ')):dn m k σ=some (.exc,σ'):=Fd h
theorem qR{m m':M Fl}(h:m σ=m' σ'):i6 m σ=i6 m' σ':=by unfold i6 bnd;rw[h]
theorem za{m:M Fl}(h:m σ=some (.exc,σ')):i6 m σ=some (.exc,σ'):=Fd h
theorem TG(a:M Fl)(k k':Lo->M Fl):dn (dn a k) k'=dn a λl=>dn (k l) k':=by
 funext σ;unfold dn bnd;cases a σ with
 |none=>rfl
 |some x=>
  obtain⟨r,s⟩:=x;cases r with
  |exc=>rfl
  |ok f=>cases f<;>rfl
theorem rL{K:Nat}(h:mt aa σ=some (.ok false,σ')):fw mt mb mo (K+1) aa σ=mo aa σ':=eT h
theorem Ng{K:Nat}{loc':Lo}{σ1:List MO}(h:mt aa σ=some (.ok true,σ1))(h2:mb aa σ1=some (.ok (.brk loc'),σ')):fw mt mb mo (K+1) aa σ=some (.ok (.nxt loc'),σ'):=(eT h).trans (eT h2)
theorem pz{K:Nat}{loc':Lo}{σ1:List MO}(h:mt aa σ=some (.ok true,σ1))(h2:mb aa σ1=some (.ok (.nxt loc'),σ')):fw mt mb mo (K+1) aa σ=fw mt mb mo K loc' σ':=(eT h).trans (eT h2)
theorem TH{K:Nat}{v:PV}{σ1:List MO}(h:mt aa σ=some (.ok true,σ1))(h2:mb aa σ1=some (.ok (.ret v),σ')):fw mt mb mo (K+1) aa σ=some (.ok (.ret v),σ'):=(eT h).trans (eT h2)
theorem Nh{K:Nat}{σ1:List MO}(h:mt aa σ=some (.ok true,σ1))(h2:mb aa σ1=some (.exc,σ')):fw mt mb mo (K+1) aa σ=some (.exc,σ'):=(eT h).trans (Fd h2)
theorem So{m:M Fl}{v:PV}(h:m σ=some (.ok (.ret v),σ')):i6 m σ=some (.ok v,σ'):=eT h
theorem PX{t:M Bool}{a b:M Fl}(h:t σ=some (.ok false,σ')):eS t a b σ=b σ':=eT h
theorem Ni{K:Nat}{loc' l:Lo}{v:PV}(h1:nx i σ=some (some v))(h2:asg aa v=some loc')(h3:mb loc' σ=some (.ok (.nxt l),σ')):kM nx asg mb (K+1) i aa σ=kM nx asg mb K (i+1) l σ':=by simp only[kM,h1,h2];exact eT h3
theorem TI{K:Nat}{loc':Lo}{v w:PV}(h1:nx i σ=some (some v))(h2:asg aa v=some loc')(h3:mb loc' σ=some (.ok (.ret w),σ')):kM nx asg mb (K+1) i aa σ=some (.ok (.ret w),σ'):=by simp only[kM,h1,h2];exact eT h3
theorem Nj{S:List MO}{L:List D}(h:dW S (.ref i)=some L):gJ (S++[.list []]) .Eq (.ref i) (.ref S.length)=some L.isEmpty:=by show(dW _ _).bind _=_;rw[vI h,gQ,rJ,gQ];cases L<;>rfl
theorem YC{K:Nat}{loc':Lo}{v:PV}(h1:nx i σ=some (some v))(h2:asg aa v=some loc')(h3:mb loc' σ=some (.exc,σ')):kM nx asg mb (K+1) i aa σ=some (.exc,σ'):=by simp only[kM,h1,h2];exact Fd h3
theorem TJ{K:Nat}(h1:nx i σ=some none):kM nx asg mb (K+1) i aa σ=some (.ok (.nxt aa),σ):=by simp only[kM,h1];rfl
theorem PY{K:Nat}{r:Option (R Fl×List MO)}(h:mt aa σ=some (.ok false,σ'))(h2:mo aa σ'=r):fw mt mb mo (K+1) aa σ=r:=(eT h).trans h2
theorem YD{K:Nat}{loc':Lo}{v:PV}(h1:uQ (.ref i) 0 σ=some (some v))(h2:asg aa v=some loc')(h3:mb loc' σ=some (.exc,σ')):BK (K+1) asg mb aa (.ref i) σ=some (.exc,σ'):=YC h1 h2 h3
theorem TK{K:Nat}{loc' l:Lo}{v:PV}(h1:uQ (.ref i) 0 σ=some (some v))(h2:asg aa v=some loc')(h3:mb loc' σ=some (.ok (.nxt l),σ'))(h4:uQ (.ref i) 1 σ'=some none):BK (K+2) asg mb aa (.ref i) σ=some (.ok (.nxt l),σ'):=(Ni h1 h2 h3).trans (TJ h4)
theorem Sq{m:M Fl}{fl:Fl}(h:m σ=some (.ok fl,σ')):CQ m σ=some (.ok fl,σ'):=by unfold CQ;rw[h]
section
open PySem.Calls PySem.Spec PyProof.Rows
section
variable{f:Fm}
noncomputable def Fe{β:Type}:List (Str×β)->Str->Option β
 |[],_=>none
 |p::r,x=>if p.1=x then some p.2 else Fe r x
noncomputable def Hy{β:Type}(P:Str->β->Prop):List (Str×β)->Prop
 |[]=>True
 |p::r=>P p.1 p.2/\Hy P r
theorem vJ{P:Str->β->Prop}{x:Str}{v:β}(l:List (Str×β))(h:Hy P l)(e:Fe l x=some v):P x v:=by
 induction l with
 |nil=>exact eC e
 |cons p r ih=>
  have e:(if p.1=x then some p.2 else Fe r x)=some v:=e;by_cases q:p.1=x
  ·rw[cH q]at e;rw[<-q,<-si e];exact h.1
  ·rw[cJ q]at e;exact ih h.2 e
structure uw where
 fns:List (Str×(List PV->M PV))
 gvs:List (Str×PV)
 bis:List (Str×(List PV->M PV))
 ats:List Str
 rs:List PV->M Unit
 W:Nat
 unc:List Nat
structure pA(G:Gl)(n:Nat)(f:Fm)(Γ:uw):Prop where
 hk:f.cs.kind= .function
 fns:Hy (λx sem=>∃a,GF G x a/\fK G n a sem) Γ.fns
 gvs:Hy (λx v=>GV G x v) Γ.gvs
 bis:Hy (λx sem=>∃id,GB G x (.builtin id)/\rE G n f (.builtin id) sem) Γ.bis
 rcls:yT G
 ats:∀x ∈ Γ.ats,findIn G.K (.ref G.rC) x=some none
 mke:∀M,ku M G.h₀ G.fC
 rs:∃a,GF G "refuse_here" a/\jS G n a Γ.rs
noncomputable def Vp:List Str->Str->Option Nat
 |[],_=>none
 |y::r,x=>if y=x then some 0 else(Vp r x).map (· +1)
theorem Hz{x:Str}(l:List Str):∀{i:Nat},Vp l x=some i->l[i]? =some x:=by
 induction l with
 |nil=>exactλe=>eC e
 |cons y r ih=>
  intro i e;have e:(if y=x then some 0 else(Vp r x).map (· +1))=some i:=e
  by_cases q:y=x
  ·rw[cH q]at e;rw[<-si e,q];rfl
  ·rw[cJ q]at e;refine eN (fe.mp e) λj e1 e2=> ?_;rw[<-e2];exact ih e1
noncomputable def YE{β:Type}(P:β->Prop):List β->Prop
 |[]=>True
 |p::r=>P p/\YE P r
theorem pC{P:α->Prop}{c:Bool}{a b:α}(h1:c=true->P a)(h2:c=false->P b):P (cond c a b):=by
 cases c
 ·exact h2 rfl
 ·exact h1 rfl
theorem tj{P:α->Prop}{o:Option β}{k:β->α}{d:α}(h1:∀b,o=some b->P (k b))(h2:P d):P (o.elim d k):=by
 cases o
 ·exact h2
 ·exact h1 _ rfl
noncomputable def YF(x:Str):Bool:=x ==("__debug__":Str)
noncomputable def YG:Option NameKind->Bool
 |some .globalImplicit=>true
 |_=>false
def glob(f:Fm)(x:Str):Bool:=YG (f.cs.names.lookup x) && !YF x
theorem CV{x:Str}(h:glob f x=true):f.cs.names.lookup x=some .globalImplicit/\(x ==("__debug__":Str))=false:=by
 unfold glob at h;cases q:YF x
 ·rw[q,Bool.not_false,Bool.and_true]at h;refine⟨?_,q⟩;cases q2:f.cs.names.lookup x with
  |none=>rw[q2]at h;exact mY h
  |some k=>rw[q2]at h;cases k<;>first|rfl|exact mY h
 ·rw[q,Bool.not_true,Bool.and_false]at h;exact mY h
def cN(Γ:uw)(f:Fm)(x:Str)(aa:Lo):M PV:=
 (Vp f.names x).elim (bif glob f x then(Fe Γ.gvs x).elim cU kN else cU) λi=>bif YF x then cU else cG aa i
theorem BS{Γ:uw}(H:pA G n f Γ)(x:Str)(p:Pos)(aa:Lo):dR G n f aa (.Name x p) (cN Γ f x aa):=
 tj (λi e=>pC (λ_=>gS) λq=>vy (Hz _ e) q) (pC (λq=>tj (λv e=>oA (CV q) λq1 q2=>WA (vJ _ H.gvs e) H.hk q1 q2) gS) λ_=>gS)
def cC:Const->M PV
 | .none=>MT
 | .bool b=>uV b
 | .int i=>cY i
 | .str x=>cW x.cps.toList
 |_=>cU
theorem WJ(c:Const)(k:Nat)(p:Pos)(aa:Lo):dR G n f aa (.Constant c k p) (cC c):=by
 cases c with
 |none=>exact Po
 |bool b=>exact Pm
 |int i=>exact wK
 |str x=>exact wV rfl
 |_=>exact gS
abbrev sP:=cP->Lo->M PV
abbrev Nk:=cP->Lo->M Bool
abbrev Vq:=List Stmt->Lo->M Fl
abbrev EB(G:Gl)(n:Nat)(f:Fm)(E:sP):Prop:=∀e aa,dR G n f aa e (E e aa)
abbrev Vr(G:Gl)(n:Nat)(f:Fm)(T:Nk):Prop:=∀e aa,uM G n f aa e (T e aa)
abbrev YH(G:Gl)(n:Nat)(f:Fm)(S:Vq):Prop:=∀ss aa,ow G n f aa ss (S ss aa)
noncomputable abbrev PZ(E:sP)(es:List cP)(aa:Lo):List (M PV):=es.map λe=>E e aa
theorem tm{E:sP}(hE:EB G n f E)(aa:Lo)(es:List cP):es.any W.isStarred=false->jy G n f aa es (PZ E es aa):=by
 induction es with
 |nil=>exactλ_=> .nil
 |cons e r ih=>
  intro h;rw[lF,Bool.or_eq_false_iff]at h;exact .cons h.1 (hE _ _) (ih h.2)
theorem Nl{T:Nk}(hT:Vr G n f T)(aa:Lo)(es:List cP):BH G n f aa es (es.map λe=>T e aa):=by
 induction es with
 |nil=>exact .nil
 |cons e r ih=>exact .cons (hT _ _) ih
noncomputable def YI(E:sP)(aa:Lo):Option cP->Option (M PV)
 |none=>none
 |some e=>some (E e aa)
theorem Nm{E:sP}(hE:EB G n f E)(aa:Lo)(o:Option cP):Kk G n f aa o (YI E aa o):=by
 cases o
 ·exact .none
 ·exact .some (hE _ _)
noncomputable def HD:List α->Option α
 |[a]=>some a
 |_=>none
theorem wY{l:List α}{a:α}(h:HD l=some a):l=[a]:=by
 match l,h with
 |[],h=>exact eC h
 |[b],h=>rw[si h]
 |_::_::_,h=>exact eC h
def cCm(E:sP)(l:cP)(ops:List CmpOp)(rs:List cP)(aa:Lo):M PV:=
 (HD ops).elim cU λop=>(HD rs).elim cU λr=>bif behindInMarks op r then cU else yY op (E l aa) (E r aa)
def tCm(E:sP)(l:cP)(ops:List CmpOp)(rs:List cP)(aa:Lo):M Bool:=
 (HD ops).elim cU λop=>(HD rs).elim cU λr=>bif behindInMarks op r then cU else dz op (E l aa) (E r aa)
theorem TL{E:sP}(hE:EB G n f E)(l:cP)(ops:List CmpOp)(rs:List cP)(p:Pos)(aa:Lo):dR G n f aa (.Compare l ops rs p) (cCm E l ops rs aa):=
 tj (P:=dR G n f aa (.Compare l ops rs p)) (λop e1=>tj (P:=dR G n f aa (.Compare l ops rs p)) (λr e2=>pC (P:=dR G n f aa (.Compare l ops rs p)) (λ_=>gS) λq=>by rw[wY e1,wY e2];exact Tf (hE _ _) (hE _ _) q) gS) gS
theorem TM{E:sP}(hE:EB G n f E)(l:cP)(ops:List CmpOp)(rs:List cP)(p:Pos)(aa:Lo):uM G n f aa (.Compare l ops rs p) (tCm E l ops rs aa):=
 tj (P:=uM G n f aa (.Compare l ops rs p)) (λop e1=>tj (P:=uM G n f aa (.Compare l ops rs p)) (λr e2=>pC (P:=uM G n f aa (.Compare l ops rs p)) (λ_=>wT) λq=>by rw[wY e1,wY e2];exact Tg (hE _ _) (hE _ _) q _) wT) wT
inductive V where
 |name (x:Str) (p:Pos)
 |con (c:Const) (k:Nat) (p:Pos)
 |tup (es:List cP) (k:Nat) (p:Pos)
 |lst (es:List cP) (p:Pos)
 |bin (l:cP) (op:Operator) (r:cP) (p:Pos)
 |cmp (l:cP) (ops:List CmpOp) (rs:List cP) (p:Pos)
 |bop (op:BoolOp) (es:List cP) (p:Pos)
 |un (op:UnaryOp) (e:cP) (p:Pos)
 |ife (t a b:cP) (p:Pos)
 |sub (v s:cP) (p:Pos)
 |att (v:cP) (x:Str) (p:Pos)
 |call (f:cP) (es:List cP) (ks:List Keyword) (p:Pos)
 |slc (a b c:Option cP) (p:Pos)
 |oth (e:cP)
noncomputable def V.ex:V->cP
 | .name x p=> .Name x p
 | .con c k p=> .Constant c k p
 | .tup es k p=> .Tuple es k p
 | .lst es p=> .List es p
 | .bin l op r p=> .BinOp l op r p
 | .cmp l ops rs p=> .Compare l ops rs p
 | .bop op es p=> .BoolOp op es p
 | .un op e p=> .UnaryOp op e p
 | .ife t a b p=> .IfExp t a b p
 | .sub v s p=> .Subscript v s p
 | .att v x p=> .Attribute v x p
 | .call f es ks p=> .Call f es ks p
 | .slc a b c p=> .Slice a b c p
 | .oth e=>e
noncomputable def qy:cP->V
 | .Name x p=> .name x p
 | .Constant c k p=> .con c k p
 | .Tuple es k p=> .tup es k p
 | .List es p=> .lst es p
 | .BinOp l op r p=> .bin l op r p
 | .Compare l ops rs p=> .cmp l ops rs p
 | .BoolOp op es p=> .bop op es p
 | .UnaryOp op e p=> .un op e p
 | .IfExp t a b p=> .ife t a b p
 | .Subscript v s p=> .sub v s p
 | .Attribute v x p=> .att v x p
 | .Call f es ks p=> .call f es ks p
 | .Slice a b c p=> .slc a b c p
 |e=> .oth e
theorem oR(e:cP):(qy e).ex=e:=by cases e<;>rfl
theorem Nn{P:cP->V->Prop}(e:cP)(k:∀v:V,P v.ex v):P e (qy e):=by
 have h:=k (qy e)
 rwa [oR]at h
def Sr(e:cP):Option (Str×Pos):=match qy e with
 | .name x p=>some (x,p)
 |_=>none
theorem wZ{x:Str×Pos}(h:Sr e=some x):e= .Name x.1 x.2:=by rw[<-oR e];unfold Sr at h;cases q:qy e<;>rw[q]at h<;>first|exact eC h|exact si h▸rfl
def YJ(E:sP)(v s:cP)(aa:Lo):M PV:=bif qK s then(match qy v with
 | .lst es _=>bif es.any W.isStarred then cU else s8 (PZ E es aa) (E s aa)
 |_=>dP (E v aa) (E s aa))else cU
theorem TN{E:sP}(hE:EB G n f E)(v s:cP)(p:Pos)(aa:Lo):dR G n f aa (.Subscript v s p) (YJ E v s aa):=by
 have h:=oR v;unfold YJ;refine pC (P:=dR G n f aa _) (λc=> ?_) λ_=>gS;cases q:qy v with
 |lst es p2=>
  rw[q]at h;exact pC (P:=dR G n f aa _) (λ_=>gS) λq=>h▸PO (tm hE _ _ q) (hE _ _) c
 |_=>exact Tz (hE _ _) (hE _ _) c
def YK(E:sP)(v s:cP)(aa:Lo):M PV:=match qy s with
 | .slc a b c _=>bif c.isNone then lG (E v aa) (YI E aa a) (YI E aa b)else cU
 |_=>YJ E v s aa
theorem TO{E:sP}(hE:EB G n f E)(v s:cP)(p:Pos)(aa:Lo):dR G n f aa (.Subscript v s p) (YK E v s aa):=by
 have h:=oR s;unfold YK;cases q:qy s with
 |slc a b c p2=>
  rw[q]at h;exact pC (P:=dR G n f aa _) (λq=>by rw[<-h,Option.isNone_iff_eq_none.mp q];exact To (hE _ _) (Nm hE _ _) (Nm hE _ _)) λ_=>gS
 |_=>exact TN hE v s p aa
noncomputable def Vt(l:List Str)(x:Str):Bool:=match l with
 |[]=>false
 |y::r=>if y=x then true else Vt r x
theorem HH{x:Str}(l:List Str):Vt l x=true->x ∈ l:=by
 induction l with
 |nil=>exactλe=>mY e
 |cons y r ih=>
  intro e;have e:(if y=x then true else Vt r x)=true:=e;by_cases q:y=x
  ·rw[q];exact .head _
  ·rw[cJ q]at e;exact .tail _ (ih e)
def cAt(Γ:uw)(f:Fm)(v:cP)(nm:Str)(aa:Lo):M PV:=(Sr v).elim cU λx=>bif Vt Γ.ats nm then Hq nm.cps.toList (cN Γ f x.1 aa)else cU
theorem TP{Γ:uw}(H:pA G n f Γ)(v:cP)(nm:Str)(p:Pos)(aa:Lo):dR G n f aa (.Attribute v nm p) (cAt Γ f v nm aa):=
 tj (P:=dR G n f aa _) (λx e=>pC (P:=dR G n f aa _) (λq=>wZ e▸PL H.rcls (H.ats _ (HH _ q)) rfl (BS H _ _ aa)) λ_=>gS) gS
def cMe(Γ:uw)(f:Fm)(E:sP)(v:cP)(nm:Str)(apos pos:Pos)(es:List cP)(aa:Lo):M PV:=
 bif apos.endLine == pos.line then(Sr v).elim cU (λx=>if nm="append" then(HD es).elim cU (λe=>bif W.isStarred e then cU else jC (cN Γ f x.1 aa) (E e aa))else cU)else cU
theorem TQ{Γ:uw}(H:pA G n f Γ){E:sP}(hE:EB G n f E)(v:cP)(nm:Str)(apos pos:Pos)(es:List cP)(aa:Lo):dR G n f aa (.Call (.Attribute v nm apos) es [] pos) (cMe Γ f E v nm apos pos es aa):=by
 refine pC (P:=dR G n f aa _) (λq=>tj (P:=dR G n f aa _) (λx e=> ?_) gS) λ_=>gS;have e:=wZ e;by_cases c:nm="append"
 ·rw[cH c];exact tj (P:=dR G n f aa _) (λy h=>pC (P:=dR G n f aa _) (λ_=>gS) λq2=>by rw[c,wY h,e];exact wR q (BS H _ _ aa) q2 (hE _ _)) gS
 ·rw[cJ c];exact gS
def cFn(Γ:uw)(f:Fm)(E:sP)(x:Str)(es:List cP)(aa:Lo):M PV:=
 bif glob f x then(bif es.any W.isStarred then cU else(Fe Γ.fns x).elim (match es with
  |[]=>cU
  |e::es=>(Fe Γ.bis x).elim cU λsem=>cM sem (PZ E (e::es) aa)) λsem=>cM sem (PZ E es aa))else cU
theorem TR{Γ:uw}(H:pA G n f Γ){E:sP}(hE:EB G n f E)(x:Str)(xp:Pos)(es:List cP)(pos:Pos)(aa:Lo):dR G n f aa (.Call (.Name x xp) es [] pos) (cFn Γ f E x es aa):=by
 refine pC (P:=dR G n f aa _) (λq=>pC (P:=dR G n f aa _) (λ_=>gS) λq2=> ?_) λ_=>gS;refine oA (CV q) λg1 g2=> ?_;refine tj (P:=dR G n f aa _) (λsem e=>eN (vJ _ H.fns e) λa h1 h2=>Jf h1 g1 g2 (tm hE _ _ q2) h2) ?_;cases es with
 |nil=>exact gS
 |cons e es=>exact tj (P:=dR G n f aa _) (λsem e=>eN (vJ _ H.bis e) λid h1 h2=>M2 h1 g1 g2 (tm hE _ _ q2) h2) gS
def cCl(Γ:uw)(f:Fm)(E:sP)(fn:cP)(es:List cP)(ks:List Keyword)(pos:Pos)(aa:Lo):M PV:=
 bif ks.isEmpty then(match qy fn with
  | .name x _=>cFn Γ f E x es aa
  | .att v nm p=>cMe Γ f E v nm p pos es aa
  |_=>cU)else cU
theorem TS{Γ:uw}(H:pA G n f Γ){E:sP}(hE:EB G n f E)(fn:cP)(es:List cP)(ks:List Keyword)(pos:Pos)(aa:Lo):dR G n f aa (.Call fn es ks pos) (cCl Γ f E fn es ks pos aa):=by
 refine pC (P:=dR G n f aa _) (λq=> ?_) λ_=>gS;rw[List.isEmpty_iff.mp q];have h:=oR fn;cases q:qy fn with
 |name x xp=>rw[q]at h;rw[<-h];exact TR H hE x xp es pos aa
 |att v nm p=>rw[q]at h;rw[<-h];exact TQ H hE _ _ _ _ _ _
 |_=>exact gS
def eV(Γ:uw)(f:Fm)(E:sP)(T:Nk)(aa:Lo):V->M PV
 | .name x _=>cN Γ f x aa
 | .con c _ _=>cC c
 | .tup es _ _=>bif es.any W.isStarred then cU else f7 (PZ E es aa)
 | .lst es _=>bif es.any W.isStarred then cU else m9 (PZ E es aa)
 | .bin l op r _=>d7 op (E l aa) (E r aa)
 | .cmp l ops rs _=>cCm E l ops rs aa
 | .bop op es _=>bif es.any W.isStarred then cU else(match op with
  | .And=>andV (PZ E es aa)
  | .Or=>orV (PZ E es aa))
 | .un op e _=>(match op with
  | .USub=>yZ (E e aa)
  |_=>cU)
 | .ife t a b _=>E4 (T t aa) (E a aa) (E b aa)
 | .sub v s _=>YK E v s aa
 | .att v nm _=>cAt Γ f v nm aa
 | .call fn es ks pos=>cCl Γ f E fn es ks pos aa
 |_=>cU
def Ss(Γ:uw)(f:Fm)(E:sP)(T:Nk)(e:cP)(aa:Lo):M PV:=eV Γ f E T aa (qy e)
theorem No{Γ:uw}(H:pA G n f Γ){E:sP}{T:Nk}(hE:EB G n f E)(hT:Vr G n f T):EB G n f (Ss Γ f E T):=by
 intro e aa;refine Nn (P:=λe v=>dR G n f aa e (eV Γ f E T aa v)) e λv=> ?_;cases v with
 |name x p=>exact BS H x p aa
 |con c k p=>exact WJ c k p aa
 |tup es k p=>exact pC (P:=dR G n f aa _) (λ_=>gS) λq=>Mi (tm hE _ _ q)
 |lst es p=>exact pC (P:=dR G n f aa _) (λ_=>gS) λq=>Tn (tm hE _ _ q)
 |bin l op r p=>exact pd (hE _ _) (hE _ _)
 |cmp l ops rs p=>exact TL hE l ops rs p aa
 |bop op es p=>
  refine pC (P:=dR G n f aa _) (λ_=>gS) λq=> ?_;cases op
  ·exact Tj (tm hE _ _ q)
  ·exact Wx (tm hE _ _ q)
 |un op e p=>
  cases op with
  |USub=>exact Tm (hE _ _)
  |_=>exact gS
 |ife t a b p=>exact Tl (hT _ _) (hE _ _) (hE _ _)
 |sub v s p=>exact TO hE v s p aa
 |att v nm p=>exact TP H v nm p aa
 |call fn es ks p=>exact TS H hE fn es ks p aa
 |_=>exact gS
def tV(E:sP)(T:Nk)(aa:Lo):V->M Bool
 | .cmp l ops rs _=>tCm E l ops rs aa
 | .bop op es _=>(match op with
  | .And=>uN (es.map λe=>T e aa)
  | .Or=>LH (es.map λe=>T e aa))
 | .un op x _=>(match op with
  | .Not=>Sm (T x aa)
  |_=>cU)
 | .name x p=>sO (E (.Name x p) aa)
 | .con c k p=>sO (E (.Constant c k p) aa)
 | .sub v s p=>sO (E (.Subscript v s p) aa)
 | .att v x p=>sO (E (.Attribute v x p) aa)
 | .call f es ks p=>sO (E (.Call f es ks p) aa)
 |_=>cU
def Su(E:sP)(T:Nk)(e:cP)(aa:Lo):M Bool:=tV E T aa (qy e)
theorem Np{E:sP}{T:Nk}(hE:EB G n f E)(hT:Vr G n f T):Vr G n f (Su E T):=by
 intro e aa;refine Nn (P:=λe v=>uM G n f aa e (tV E T aa v)) e λv=> ?_;cases v with
 |cmp l ops rs p=>exact TM hE l ops rs p aa
 |bop op es p=>
  cases op
  ·exact Ti _ (Nl hT _ _)
  ·exact Ww _ (Nl hT _ _)
 |un op e p=>
  cases op with
  |Not=>exact Th (hT _ _) _
  |_=>exact wT
 |name x p=>exact pe (hE _ _) λ_=>rfl
 |con c k p=>exact pe (hE _ _) λ_=>rfl
 |sub v s p=>exact pe (hE _ _) λ_=>rfl
 |att v nm p=>exact pe (hE _ _) λ_=>rfl
 |call fn es ks p=>exact pe (hE _ _) λ_=>rfl
 |_=>exact wT
noncomputable def LJ(Γ:uw)(f:Fm):Nat->sP×Nk
 | 0=>(λ_ _=>cU,λ_ _=>cU)
 |k+1=>(Ss Γ f (LJ Γ f k).1 (LJ Γ f k).2,Su (LJ Γ f k).1 (LJ Γ f k).2)
theorem CW{Γ:uw}(H:pA G n f Γ)(k:Nat):EB G n f (LJ Γ f k).1/\Vr G n f (LJ Γ f k).2:=by
 induction k with
 |zero=>exact⟨λ_ _=>gS,λ_ _=>wT⟩
 |succ k ih=>exact⟨No H ih.1 ih.2,Np ih.1 ih.2⟩
def uW(e:cP):Bool:=match qy e with
 | .oth _=>false
 |_=>true
theorem qS(h:uW e=true)(t:Option cP)(l:Nat)(env:Env):swapsWith e t l env=pure false:=by have h2:=oR e;unfold uW at h;cases q:qy e<;>rw[q]at h h2<;>rw[<-h2]<;>first|rfl|exact mY h
theorem Ff(h:uW e=true)(env:Env)(x:Value):foldedSetIterable e env x=pure x:=by have h2:=oR e;unfold uW at h;cases q:qy e<;>rw[q]at h h2<;>rw[<-h2]<;>first|rfl|exact mY h
noncomputable def YL(f:Fm):List cP->Option (List Nat)
 |[]=>some []
 |e::r=>(Sr e).bind λx=>(Vp f.names x.1).bind λi=>(YL f r).map (i::·)
theorem TT(ts:List cP):∀{is:List Nat},YL f ts=some is->∃ps,ts=ps.map EU/\yR f ps is:=by
 induction ts with
 |nil=>exactλh=>⟨[],rfl,si h▸trivial⟩
 |cons e r ih=>
  intro is h;refine eN (dL.mp h) λx h1 h=> ?_;refine eN (dL.mp h) λi h2 h=> ?_;refine eN (fe.mp h) λjs h3 h4=> ?_;refine eN (ih h3) λps h5 h6=> ?_;exact⟨x::ps,by rw[wZ h1,h5];rfl,h4▸⟨Hz _ h2,h6⟩⟩
structure Ta(α:Type) where
 d:α
 N:Nat->α
 A:Str->List Nat->α
 S:Str->cP->α
 U:List Nat->α
def vTa(Γ:uw)(f:Fm)(t:Ta α):V->α
 | .name x _=>(Vp f.names x).elim t.d t.N
 | .att v nm _=>(Sr v).elim t.d λx=>bif Vt Γ.ats nm then t.A x.1 nm.cps.toList else t.d
 | .sub v i _=>(Sr v).elim t.d λx=>t.S x.1 i
 | .tup ts _ _=>(YL f ts).elim t.d t.U
 |_=>t.d
def Yc(Γ:uw)(f:Fm)(e:cP)(t:Ta α):α:=vTa Γ f t (qy e)
theorem HI{P:cP->α->Prop}{Γ:uw}(H:pA G n f Γ)(e:cP){t:Ta α}(hd:∀e,P e t.d)(hN:∀i x p,f.names[i]? =some x->P (.Name x p) (t.N i))(hA:∀x xp nm p,findIn G.K (.ref G.rC) nm=some none->P (.Attribute (.Name x xp) nm p) (t.A x nm.cps.toList))
  (hS:∀x xp i p,P (.Subscript (.Name x xp) i p) (t.S x i))(hU:∀ps is k p,yR f ps is->P (.Tuple (ps.map EU) k p) (t.U is)):P e (Yc Γ f e t):=by
 refine Nn (P:=λe v=>P e (vTa Γ f t v)) e λv=> ?_;cases v with
 |name x p=>exact tj (P:=P _) (λi e=>hN i x p (Hz _ e)) (hd _)
 |att v nm p=>exact tj (P:=P _) (λx e=>pC (P:=P _) (λq=>wZ e▸hA _ _ _ _ (H.ats _ (HH _ q))) λ_=>hd _) (hd _)
 |sub v i p=>exact tj (P:=P _) (λx e=>wZ e▸hS _ _ _ _) (hd _)
 |tup ts k p=>exact tj (P:=P _) (λis e=>eN (TT _ e) λps h1 h2=>h1▸hU _ _ _ _ h2) (hd _)
 |_=>exact hd _
def Nq(e:cP):Bool:=match qy e with
 | .tup .. =>false
 | .oth _=>false
 |_=>true
theorem Nr(h:Nq e=true)(ts:List cP)(k:Nat)(p:Pos)(env:Env):swappedStores [.Tuple ts k p] e env=pure none:=by have h2:=oR e;unfold Nq at h;cases q:qy e<;>rw[q]at h h2<;>rw[<-h2]<;>first|rfl|exact mY h
def cAs(Γ:uw)(f:Fm)(E:sP)(t e:cP)(aa:Lo):M Fl:=bif uW e then Yc Γ f t ⟨cU,λi=>dZ aa i (E e aa),λx nm=>MZ aa nm (E e aa) (cN Γ f x aa),λx i=>Hv aa (E e aa) (cN Γ f x aa) (E i aa),λis=>bif Nq e then E9 aa is (E e aa)else cU⟩else cU
theorem TU{Γ:uw}(H:pA G n f Γ){E:sP}(hE:EB G n f E)(t e:cP)(p:Pos)(aa:Lo):jB G n f aa (.Assign [t] e p) (cAs Γ f E t e aa):=
 pC (P:=jB G n f aa _) (λq=>HI (P:=λt m=>jB G n f aa (.Assign [t] e p) m) H t (λ_=>jR) (λi x xp h=>gt h (qS q _ _ _) (hE _ _)) (λx xp nm p h=>PM H.rcls h rfl (qS q _ _ _) (BS H x xp aa) (hE _ _))
  (λx xp i p=>Ks (qS q _ _ _) (BS H x xp aa) (hE _ _) (hE _ _)) λps is k tp h=>pC (P:=jB G n f aa _) (λc=>Kn h (show swapsWith e (some (.Tuple (ps.map EU) k tp)) p.line f.env=pure false from qS q _ _ _) (Nr c _ _ _ _) (hE _ _)) λ_=>jR) λ_=>jR
def cAu(Γ:uw)(f:Fm)(E:sP)(t:cP)(op:Operator)(e:cP)(aa:Lo):M Fl:=Yc Γ f t ⟨cU,λi=>so aa i op (E e aa),λx nm=>Hu aa nm op (E e aa) (cN Γ f x aa),λ_ _=>cU,λ_=>cU⟩
theorem TV{Γ:uw}(H:pA G n f Γ){E:sP}(hE:EB G n f E)(t:cP)(op:Operator)(e:cP)(p:Pos)(aa:Lo):jB G n f aa (.AugAssign t op e p) (cAu Γ f E t op e aa):=
 HI (P:=λt m=>jB G n f aa (.AugAssign t op e p) m) H t (λ_=>jR) (λi x xp h=>Mt h (hE _ _)) (λx xp nm p h=>PN H.rcls h rfl (BS H x xp aa) (hE _ _)) (λ_ _ _ _=>jR) λ_ _ _ _ _=>jR
def cFo(Γ:uw)(f:Fm)(E:sP)(S:Vq)(t e:cP)(b o:List Stmt)(aa:Lo):M Fl:=
 bif o.isEmpty && uW e then Yc Γ f t ⟨cU,λi=>BP Γ.W (qO i) (E e aa) (λl=>S b l) aa,λ_ _=>cU,λ_ _=>cU,λis=>BP Γ.W (AG is) (E e aa) (λl=>S b l) aa⟩else cU
theorem TX{Γ:uw}(H:pA G n f Γ){E:sP}(hE:EB G n f E){S:Vq}(hS:YH G n f S)(t e:cP)(b o:List Stmt)(p:Pos)(aa:Lo):jB G n f aa (.For t e b o p) (cFo Γ f E S t e b o aa):=by refine pC (P:=jB G n f aa _) (λq=> ?_) λ_=>jR;rw[ej]at q;rw[List.isEmpty_iff.mp q.1];exact HI (P:=λt m=>jB G n f aa (.For t e b [] p) m) H t (λ_=>jR) (λi x xp h=>CO _ (Ff q.2 _) (sY h) (hE _ _) λl=>hS _ _) (λ_ _ _ _ _=>jR) (λ_ _ _ _=>jR) λps is k p h=>CO _ (Ff q.2 _) (BJ h) (hE _ _) λl=>hS _ _
def YM(Γ:uw)(f:Fm)(E:sP)(e:cP)(aa:Lo):M Fl:=match qy e with
 | .call fn es ks _=>(Sr fn).elim cU λx=>bif ks.isEmpty &&(glob f x.1 &&(!es.any W.isStarred && !es.isEmpty))then(if x.1="refuse_here" then CR Γ.rs (PZ E es aa)else cU)else cU
 |_=>cU
theorem TY{Γ:uw}(H:pA G n f Γ){E:sP}(hE:EB G n f E)(e:cP)(p:Pos)(aa:Lo):jB G n f aa (.Raise (some e) none p) (YM Γ f E e aa):=by
 have h:=oR e;unfold YM;cases q:qy e with
 |call fn es ks cp=>
  rw[q]at h;rw[<-h];refine tj (P:=jB G n f aa _) (λx h2=>pC (P:=jB G n f aa _) (λc=> ?_) λ_=>jR) jR;rw[ej,ej,ej,Bool.not_eq_true',Bool.not_eq_true']at c;refine S4 c λc1 c2 c3 c4=> ?_;by_cases d:x.1="refuse_here"
  ·rw[cH d];refine oA (CV c2) λg1 g2=> ?_;refine eN H.rs λb h3 h4=> ?_;rw[wZ h2,List.isEmpty_iff.mp c1];exact M4 H.mke (d▸h3) g1 g2 (tm hE _ _ c3) (λz=>by rw[z]at c4;exact Yk c4) h4
  ·rw[cJ d];exact jR
 |_=>exact jR
def Nt(Γ:uw)(f:Fm)(E:sP)(T:Nk)(S:Vq)(st:Stmt)(aa:Lo):M Fl:=match st with
 | .Assign ts e _=>(HD ts).elim cU λt=>cAs Γ f E t e aa
 | .AugAssign t op e _=>cAu Γ f E t op e aa
 | .If t b o _=>eS (T t aa) (S b aa) (S o aa)
 | .While t b o _=>fw (λl=>T t l) (λl=>S b l) (λl=>S o l) Γ.W aa
 | .For t e b o _=>cFo Γ f E S t e b o aa
 | .Return v _=>(match v with
  |some e=>eJ (E e aa)
  |none=>Hs)
 | .Expr e _=>bif !interactive f.env && uW e then oz aa (E e aa)else cU
 | .Break _=>E8 aa
 | .Raise x c _=>(match x,c with
  |some e,none=>YM Γ f E e aa
  |_,_=>cU)
 |_=>cU
theorem Nu{Γ:uw}(H:pA G n f Γ){E:sP}{T:Nk}{S:Vq}(hE:EB G n f E)(hT:Vr G n f T)(hS:YH G n f S)(st:Stmt)(aa:Lo):jB G n f aa st (Nt Γ f E T S st aa):=by
 cases st with
 |Assign ts e p=>exact tj (P:=jB G n f aa _) (λt h=>by rw[wY h];exact TU H hE t e p aa) jR
 |AugAssign t op e p=>exact TV H hE t op e p aa
 |If t b o p=>exact nX (hT _ _) (hS _ _) (hS _ _)
 |While t b o p=>exact vG _ (λl=>hT _ _) (λl=>hS _ _) λl=>hS _ _
 |For t e b o p=>exact TX H hE hS t e b o p aa
 |Return v p=>
  cases v
  ·exact PA
  ·exact uO (hE _ _)
 |Expr e p=>
  refine pC (P:=jB G n f aa _) (λq=> ?_) λ_=>jR;rw[ej]at q;exact CM (hE _ _) (by simpa using q.1) (qS q.2 _ _ _)
 |Break p=>exact Ms
 |Raise x c p=>
  cases x with
  |none=>exact jR
  |some e=>
   cases c
   ·exact TY H hE e p aa
   ·exact jR
 |_=>exact jR
noncomputable def WK(l:List Nat)(a:Nat):Bool:=match l with
 |[]=>false
 |y::r=>if y=a then true else WK r a
noncomputable def cS(Γ:uw)(f:Fm):Nat->Vq
 | 0,_,_=>cU
 |k+1,ss,aa=>match ss with
  |[]=>dF aa
  |st::r=>bif WK Γ.unc st.pos.line then cU else(match r with
   |[]=>Nt Γ f (LJ Γ f k).1 (LJ Γ f k).2 (cS Γ f k) st aa
   |st2::r=>dn (Nt Γ f (LJ Γ f k).1 (LJ Γ f k).2 (cS Γ f k) st aa) λl=>cS Γ f k (st2::r) l)
theorem WL{Γ:uw}(H:pA G n f Γ)(k:Nat):YH G n f (cS Γ f k):=by
 induction k with
 |zero=>exactλ_ _=>wS
 |succ k ih=>
  intro ss aa;have hS:=λst aa=>Nu H (CW H k).1 (CW H k).2 ih st aa;cases ss with
  |nil=>exact ko
  |cons st r=>
   refine pC (P:=ow G n f aa _) (λ_=>wS) λ_=> ?_;cases r with
   |nil=>exact oy (hS _ _)
   |cons st2 r=>exact eh (hS _ _) λl=>ih _ _
end
section
set_option tactic.hygienic true
def YN(i j:Nat):Option Stmt:=PySem.Challenge.pw_xm0009_01.main.body[i]?.bind λs=>(Ym s)[j]?
def Vu(i j:Nat):List Stmt:=(Vj (YN i j)).2.1
def Kt(i j:Nat):Scope:=(Vj (YN i j)).2.2
def TZ(i j:Nat):Arguments:=(Vj (YN i j)).1
noncomputable def d9:List Nat:=[116,111,107,101,110,115]
noncomputable def ii:List Nat:=[97,116]
theorem WM:(("at":Str)).cps.toList=ii:=by decide+kernel
noncomputable def gb:List Nat:=[110,101,115,116]
noncomputable def iu:List Nat:=[100,101,101,112]
noncomputable def dX:List Nat:=[112,97,114,115,101,95,101,120,112,114]
noncomputable def ed:List Nat:=[112,97,114,115,101,95,110,97,109,101]
noncomputable def dM:List Nat:=[112,97,114,115,101,95,100,105,115,99,114,101,116,101]
noncomputable def dY:List Nat:=[112,97,114,115,101,95,99,104,111,105,99,101,115]
noncomputable def dH:List Nat:=[112,97,114,115,101,95,100,101,99,108,97,114,97,116,105,111,110,115]
noncomputable def eO:List Nat:=[112,97,114,115,101,95,102,111,114,109,97,108,115]
noncomputable def eB:List Nat:=[112,97,114,115,101,95,115,116,97,116,101,109,101,110,116,115]
noncomputable def fQ:List Nat:=[112,97,114,115,101,95,115,101,113,117,101,110,99,101]
noncomputable def gF:List Nat:=[112,97,114,115,101,95,104,97,110,100,108,101,114,115]
noncomputable def jd:List Nat:=[112,97,114,115,101,95,104,97,110,100,108,101,100]
noncomputable def oU:List Nat:=[112,97,114,115,101,95,105,116,101,109]
noncomputable def hG:List Nat:=[]
noncomputable def i7:List Nat:=[111,112]
noncomputable def jc:List Nat:=[119,111,114,100]
noncomputable def nl:List Nat:=[97,32,115,105,103,110,32,105,115,32,109,105,115,115,105,110,103,58,32]
noncomputable def fk:List Nat:=[110,97,109,101]
noncomputable def w3:List Nat:=[97,32,110,97,109,101,32,105,115,32,109,105,115,115,105,110,103]
noncomputable def vK:List Nat:=[98,114,97,99,107,101,116,115,32,116,111,111,32,100,101,101,112]
noncomputable def f8:List Nat:=[97,110,100]
noncomputable def nn:List Nat:=[116,104,101,110]
noncomputable def eA:List Nat:=[97,110,100,116,104,101,110]
noncomputable def iH:List Nat:=[111,114]
noncomputable def nq:List Nat:=[101,108,115,101]
noncomputable def fg:List Nat:=[111,114,101,108,115,101]
noncomputable def gf:List Nat:=[120,111,114]
noncomputable def iP:List Nat:=[108,111,103,105,99,97,108,32,111,112,101,114,97,116,111,114,115,32,109,105,120,101,100,32,119,105,116,104,111,117,116,32,98,114,97,99,107,101,116,115]
noncomputable def iQ:List Nat:=[98,105,110]
noncomputable def fY:List Nat:=[105,110]
noncomputable def gc:List Nat:=[110,111,116]
noncomputable def fM:List Nat:=[110,111,116,105,110]
noncomputable def pD:List Nat:=[97,32,114,101,108,97,116,105,111,110,32,98,101,104,105,110,100,32,97,32,114,101,108,97,116,105,111,110]
noncomputable def jD:List Nat:=[46,46]
noncomputable def fD:List Nat:=[114,97,110,103,101]
noncomputable def pE:List Nat:=[97,32,114,97,110,103,101,32,111,114,32,97,32,115,117,98,116,121,112,101,32,105,115,32,109,105,115,115,105,110,103]
noncomputable def i8:List Nat:=[43]
noncomputable def iR:List Nat:=[45]
noncomputable def lH:List Nat:=[117,110]
noncomputable def AI:List Nat:=[38]
noncomputable def AJ:List Nat:=[42]
noncomputable def AK:List Nat:=[47]
noncomputable def qf:List Nat:=[109,111,100]
noncomputable def qg:List Nat:=[114,101,109]
noncomputable def ji:List Nat:=[97,98,115]
noncomputable def gC:List Nat:=[42,42]
theorem WN:(("**":Str)).cps.toList=gC:=by decide+kernel
noncomputable def ic:List Nat:=[105,110,116]
noncomputable def uX:List Nat:=[99,104,97,114]
noncomputable def uY:List Nat:=[114,101,97,108]
noncomputable def iS:List Nat:=[115,116,114,105,110,103]
noncomputable def fT:List Nat:=[40]
noncomputable def AL:List Nat:=[46]
noncomputable def rM:List Nat:=[110,117,108,108]
noncomputable def zb:List Nat:=[110,101,119]
noncomputable def tn:List Nat:=[39]
noncomputable def lI:List Nat:=[111,116,104,101,114,115]
noncomputable def Fg:List Nat:=[115,117,98]
noncomputable def Jp:List Nat:=[124]
noncomputable def BU:List Nat:=[61,62]
noncomputable def Jq:List Nat:=[44]
noncomputable def Fh:List Nat:=[114,101,99,111,114,100]
noncomputable def eY:List Nat:=[41]
noncomputable def pF:List Nat:=[97,32,114,97,110,103,101,32,119,104,101,114,101,32,97,32,118,97,108,117,101,32,105,115,32,119,97,110,116,101,100]
noncomputable def zc:List Nat:=[119,105,116,104]
noncomputable def tZ:List Nat:=[112,97,114,101,110]
noncomputable def T0:List Nat:=[65]
theorem YO:(("A":Str)).cps.toList=T0:=by decide+kernel
noncomputable def WO:List Nat:=[90]
theorem YQ:(("Z":Str)).cps.toList=WO:=by decide+kernel
noncomputable def EC:List Nat:=[95]
noncomputable def Nv:List Nat:=[101]
noncomputable def Nw:List Nat:=[35]
noncomputable def Nx:List Nat:=[34]
noncomputable def Jr:List Nat:=[10]
noncomputable def qh:List Nat:=[45,45]
noncomputable def pG:List Nat:=[43,45]
noncomputable def eP:List Nat:=[32]
theorem Ny:((" ":Str)).cps.toList=eP:=by decide+kernel
noncomputable def s_0:List Nat:=[48]
noncomputable def vL:List Nat:=[32,46,46,32]
noncomputable def Nz:List Nat:=[32,105,110,32]
noncomputable def zd:List Nat:=[32,110,111,116,32,105,110,32]
noncomputable def NA:List Nat:=[97,103,103,114]
noncomputable def Fi:List Nat:=[101,120,116,101,110,100]
noncomputable def t7:List Nat:=[99,101,108,108,115]
theorem NB:(("cells":Str)).cps.toList=t7:=by decide+kernel
noncomputable def kO:List Nat:=[102,117,101,108]
theorem Qa:(("fuel":Str)).cps.toList=kO:=by decide+kernel
noncomputable def Sv:List Nat:=[120]
noncomputable def Sw:List Nat:=[121]
noncomputable def Sx:List Nat:=[122]
noncomputable def ze:List Nat:=[115,105,103,110]
noncomputable def iv:List Nat:=[104,105,103,104]
theorem Qb:(("high":Str)).cps.toList=iv:=by decide+kernel
noncomputable def qT:List Nat:=[109,101,116]
noncomputable def jW:List Nat:=[108,101,97,102]
noncomputable def vM:List Nat:=[97,100,100,101,100]
noncomputable def jj:List Nat:=[115,99,97,108,101,100]
noncomputable def ef:List Nat:=[48,49,50,51,52,53,54,55,56,57,97,98,99,100,101,102]
noncomputable def Fj:List Nat:=[61]
noncomputable def zf:List Nat:=[47,61]
noncomputable def Fk:List Nat:=[60]
noncomputable def zg:List Nat:=[60,61]
noncomputable def Fo:List Nat:=[62]
noncomputable def zh:List Nat:=[62,61]
noncomputable def Sy:List Nat:=[58,61]
noncomputable def Sz:List Nat:=[60,60]
noncomputable def SA:List Nat:=[62,62]
noncomputable def SD:List Nat:=[60,62]
noncomputable def vN:List Nat:=[48,49,50,51,52,53,54,55,56,57]
noncomputable def SE:List Nat:=[32,9,13,10,12,11]
noncomputable def Fp:List Nat:=[115,101,108,101,99,116]
noncomputable def Qc:List Nat:=[97,112,112,108,121]
noncomputable def SG:List Nat:=[97,108,108]
noncomputable def T1:List Nat:=[116,105,99,107]
noncomputable def Qd:List Nat:=[97,98,111,114,116]
noncomputable def HJ:List Nat:=[97,98,115,116,114,97,99,116]
noncomputable def NC:List Nat:=[97,99,99,101,112,116]
noncomputable def ND:List Nat:=[97,99,99,101,115,115]
noncomputable def Ku:List Nat:=[97,108,105,97,115,101,100]
noncomputable def Qe:List Nat:=[97,114,114,97,121]
noncomputable def Qf:List Nat:=[98,101,103,105,110]
noncomputable def T2:List Nat:=[98,111,100,121]
noncomputable def T3:List Nat:=[99,97,115,101]
noncomputable def HN:List Nat:=[99,111,110,115,116,97,110,116]
noncomputable def Kv:List Nat:=[100,101,99,108,97,114,101]
noncomputable def Qg:List Nat:=[100,101,108,97,121]
noncomputable def Qh:List Nat:=[100,101,108,116,97]
noncomputable def NE:List Nat:=[100,105,103,105,116,115]
noncomputable def YR:List Nat:=[100,111]
noncomputable def Qi:List Nat:=[101,108,115,105,102]
noncomputable def WP:List Nat:=[101,110,100]
noncomputable def Qj:List Nat:=[101,110,116,114,121]
noncomputable def Fq:List Nat:=[101,120,99,101,112,116,105,111,110]
noncomputable def T4:List Nat:=[101,120,105,116]
noncomputable def WQ:List Nat:=[102,111,114]
noncomputable def HO:List Nat:=[102,117,110,99,116,105,111,110]
noncomputable def Kw:List Nat:=[103,101,110,101,114,105,99]
noncomputable def T5:List Nat:=[103,111,116,111]
noncomputable def YS:List Nat:=[105,102]
noncomputable def YT:List Nat:=[105,115]
noncomputable def Kx:List Nat:=[108,105,109,105,116,101,100]
noncomputable def T6:List Nat:=[108,111,111,112]
noncomputable def YU:List Nat:=[111,102]
noncomputable def WR:List Nat:=[111,117,116]
noncomputable def Ky:List Nat:=[112,97,99,107,97,103,101]
noncomputable def NF:List Nat:=[112,114,97,103,109,97]
noncomputable def Kz:List Nat:=[112,114,105,118,97,116,101]
noncomputable def Fs:List Nat:=[112,114,111,99,101,100,117,114,101]
noncomputable def Ft:List Nat:=[112,114,111,116,101,99,116,101,100]
noncomputable def Qk:List Nat:=[114,97,105,115,101]
noncomputable def KA:List Nat:=[114,101,110,97,109,101,115]
noncomputable def KB:List Nat:=[114,101,113,117,101,117,101]
noncomputable def NG:List Nat:=[114,101,116,117,114,110]
noncomputable def KC:List Nat:=[114,101,118,101,114,115,101]
noncomputable def HQ:List Nat:=[115,101,112,97,114,97,116,101]
noncomputable def KD:List Nat:=[115,117,98,116,121,112,101]
noncomputable def NH:List Nat:=[116,97,103,103,101,100]
noncomputable def T7:List Nat:=[116,97,115,107]
noncomputable def Fu:List Nat:=[116,101,114,109,105,110,97,116,101]
noncomputable def T8:List Nat:=[116,121,112,101]
noncomputable def Ql:List Nat:=[117,110,116,105,108]
noncomputable def WS:List Nat:=[117,115,101]
noncomputable def T9:List Nat:=[119,104,101,110]
noncomputable def Qm:List Nat:=[119,104,105,108,101]
noncomputable def zi:List Nat:=[97,110,100,32,116,104,101,110]
noncomputable def BV:List Nat:=[111,114,32,101,108,115,101]
noncomputable def SH:List Nat:=[38,40,41,42,43,44,45,46,47,58,59,60,61,62,124]
noncomputable def kP:List Nat:=[97,98,99,100,101,102,103,104,105,106,107,108,109,110,111,112,113,114,115,116,117,118,119,120,121,122]
theorem tq:(("SyntaxFault":Str) ==("__debug__":Str))=false:=by decide+kernel
theorem CX:(("here_line":Str) ==("__debug__":Str))=false:=by decide+kernel
theorem CY:(("int":Str) ==("__debug__":Str))=false:=by decide+kernel
theorem ux:(("isinstance":Str) ==("__debug__":Str))=false:=by decide+kernel
theorem NI:(("level":Str) ==("__debug__":Str))=false:=by decide+kernel
theorem Qo:(("list":Str) ==("__debug__":Str))=false:=by decide+kernel
theorem Ua:(("one":Str) ==("__debug__":Str))=false:=by decide+kernel
theorem Qp:(("part":Str) ==("__debug__":Str))=false:=by decide+kernel
theorem Fv:(("range":Str) ==("__debug__":Str))=false:=by decide+kernel
theorem KE:(("reader":Str) ==("__debug__":Str))=false:=by decide+kernel
theorem Qq:(("text":Str) ==("__debug__":Str))=false:=by decide+kernel
theorem AM:(("tree_parts":Str) ==("__debug__":Str))=false:=by decide+kernel
theorem NJ:(("tuple":Str) ==("__debug__":Str))=false:=by decide+kernel
def iM:PV:=(.d (.str ef))
def jx:PV:=(.cd [(gC,(.tup [(.int (5)),(.int (6)),(.int (6))])),(AJ,(.tup [(.int (4)),(.int (4)),(.int (5))])),(AK,(.tup [(.int (4)),(.int (4)),(.int (5))])),(qf,(.tup [(.int (4)),(.int (4)),(.int (5))])),(qg,(.tup [(.int (4)),(.int (4)),(.int (5))])),(i8,(.tup [(.int (3)),(.int (3)),(.int (4))])),(iR,(.tup [(.int (3)),(.int (3)),(.int (4))])),(AI,(.tup [(.int (3)),(.int (3)),(.int (4))])),(Fj,(.tup [(.int (2)),(.int (3)),(.int (3))])),(zf,(.tup [(.int (2)),(.int (3)),(.int (3))])),(Fk,(.tup [(.int (2)),(.int (3)),(.int (3))])),(zg,(.tup [(.int (2)),(.int (3)),(.int (3))])),(Fo,(.tup [(.int (2)),(.int (3)),(.int (3))])),(zh,(.tup [(.int (2)),(.int (3)),(.int (3))]))])
def rN:PV:=(.d (.tup [(.str BU),(.str jD),(.str gC),(.str Sy),(.str zf),(.str zh),(.str zg),(.str Sz),(.str SA),(.str SD)]))
def pH:PV:=(.d (.str vN))
def ke:PV:=(.d (.str ef))
def t8:PV:=(.d (.str SE))
noncomputable def nr:PV:=(.d (.tup [(.int (10)),(.int (2)),(.int (3)),(.int (4)),(.int (5)),(.int (6)),(.int (7)),(.int (8)),(.int (9)),(.int (11)),(.int (12)),(.int (13)),(.int (14)),(.int (15)),(.int (16))]))
noncomputable def gm:PV:=(.d (.int (80)))
noncomputable def oV:PV:=(.d (.int (60)))
noncomputable def pJ:PV:=(.d (.int (24)))
noncomputable def qz:PV:=(.d (.int (400)))
def qU:PV:=(.d (.tup [(.str fk),(.str Fp),(.str Qc),(.str SG),(.str T1)]))
noncomputable def lz:PV:=(.d (.int (6)))
def rO:PV:=(.d (.tup [(.str Fj),(.str zf),(.str Fk),(.str zg),(.str Fo),(.str zh)]))
def jl:PV:=(.d (.tup [(.str Qd),(.str ji),(.str HJ),(.str NC),(.str ND),(.str Ku),(.str SG),(.str f8),(.str Qe),(.str ii),(.str Qf),(.str T2),(.str T3),(.str HN),(.str Kv),(.str Qg),(.str Qh),(.str NE),(.str YR),(.str nq),(.str Qi),(.str WP),(.str Qj),(.str Fq),(.str T4),(.str WQ),(.str HO),(.str Kw),(.str T5),(.str YS),(.str fY),(.str YT),(.str Kx),(.str T6),(.str qf),(.str zb),(.str gc),(.str rM),(.str YU),(.str iH),(.str lI),(.str WR),(.str Ky),(.str NF),(.str Kz),(.str Fs),(.str Ft),(.str Qk),(.str fD),(.str Fh),(.str qg),(.str KA),(.str KB),(.str NG),(.str KC),(.str Fp),(.str HQ),(.str KD),(.str NH),(.str T7),(.str Fu),(.str nn),(.str T8),(.str Ql),(.str WS),(.str T9),(.str Qm),(.str zc),(.str gf)]))
def kQ:PV:=(.cd [(eA,(.str zi)),(fg,(.str BV))])
def uZ:PV:=(.d (.str SH))
def nt:PV:=(.d (.str kP))
def eG:PV:=(.cl [(.str i8),(.str iR),(.str AI)])
def fE:PV:=(.cl [(.str Fj),(.str zf),(.str Fk),(.str zg),(.str Fo),(.str zh)])
def g6:PV:=(.cl [(.str AJ),(.str AK),(.str qf),(.str qg)])
noncomputable abbrev dh:Addr:=681
noncomputable abbrev eQ:Addr:=709
noncomputable abbrev fp:Addr:=702
noncomputable abbrev dw:Addr:=688
noncomputable abbrev iI:Addr:=716
noncomputable abbrev eX:Addr:=695
noncomputable abbrev jm:Addr:=372
noncomputable abbrev jK:Addr:=379
noncomputable abbrev ik:Addr:=558
noncomputable abbrev gU:Addr:=225
noncomputable abbrev gV:Addr:=393
noncomputable abbrev iT:Addr:=204
noncomputable abbrev jX:Addr:=218
noncomputable abbrev fF:Addr:=506
noncomputable abbrev gM:Addr:=351
noncomputable abbrev eM:Addr:=309
noncomputable abbrev jY:Addr:=586
noncomputable abbrev fU:Addr:=436
noncomputable abbrev fy:Addr:=443
noncomputable abbrev il:Addr:=235
noncomputable abbrev dO:Addr:=156
noncomputable abbrev eH:Addr:=164
noncomputable abbrev dS:Addr:=551
noncomputable abbrev gg:Addr:=267
noncomputable abbrev fz:Addr:=260
noncomputable abbrev iU:Addr:=407
noncomputable abbrev gN:Addr:=288
noncomputable abbrev jn:Addr:=457
noncomputable abbrev jL:Addr:=330
noncomputable abbrev jo:Addr:=192
noncomputable abbrev jp:Addr:=185
noncomputable abbrev iw:Addr:=478
noncomputable abbrev ix:Addr:=513
noncomputable abbrev kS:Addr:=211
noncomputable abbrev gW:Addr:=365
noncomputable abbrev jq:Addr:=253
noncomputable abbrev gz:Addr:=127
noncomputable abbrev lY:Addr:=471
noncomputable abbrev gh:Addr:=316
noncomputable abbrev iV:Addr:=464
noncomputable abbrev gn:Addr:=148
noncomputable abbrev iD:Addr:=400
noncomputable abbrev g7:Addr:=274
noncomputable abbrev eg:Addr:=281
noncomputable abbrev jZ:Addr:=593
noncomputable abbrev jr:Addr:=579
noncomputable abbrev gG:Addr:=671
noncomputable abbrev iz:Addr:=621
noncomputable abbrev iA:Addr:=572
noncomputable abbrev iK:Addr:=664
noncomputable abbrev jt:Addr:=643
noncomputable abbrev ju:Addr:=657
noncomputable abbrev j0:Addr:=600
noncomputable abbrev dG:Addr:=565
noncomputable abbrev dQ:Addr:=295
noncomputable abbrev f9:Addr:=429
noncomputable abbrev fW:Addr:=171
noncomputable abbrev eK:Addr:=134
noncomputable abbrev g8:Addr:=178
noncomputable abbrev gk:Addr:=302
noncomputable abbrev eU:Addr:=120
noncomputable abbrev kU:Addr:=527
noncomputable abbrev gA:Addr:=199
theorem tt:(iZ 22).names.lookup ("range":Str)=some .globalImplicit:=by decide+kernel
theorem Fw:(iZ 125).names.lookup ("range":Str)=some .globalImplicit:=by decide+kernel
theorem nH:(iZ 123).names.lookup ("int":Str)=some .globalImplicit:=by decide+kernel
theorem qV:(iZ 124).names.lookup ("SyntaxFault":Str)=some .globalImplicit:=by decide+kernel
theorem l7:(iZ 21).names.lookup ("isinstance":Str)=some .globalImplicit:=by decide+kernel
theorem vO:(iZ 21).names.lookup ("list":Str)=some .globalImplicit:=by decide+kernel
theorem va:(iZ 21).names.lookup ("tuple":Str)=some .globalImplicit:=by decide+kernel
noncomputable abbrev pa(x:Str)(a:Addr):Str×Addr:=(x,a)
def Ub:List (Str×Addr):=[pa "_law_draw_next" dh,pa "_law_due" eQ,pa "_law_free" fp,pa "_law_grow" dw,pa "_law_heard" iI,pa "_law_word" eX,pa "assoc_here" jm,pa "assoc_row" jK,pa "binding_of" ik,pa "bounded_tree" gU,pa "bracket_tree" gV,pa "check_height" iT,pa "close_nest" jX,pa "delimiter_token" fF,pa "extent_tree" gM,pa "factor_tree" eM,pa "figures_of" jY,pa "is_name_letter" fU,pa "is_name_part" fy,pa "is_reserved" il,pa "is_sign" dO,pa "is_word" eH,pa "logical_sort" dS,pa "logical_tree" gg,pa "logical_word" fz,pa "lone_bracket" iU,pa "member_tree" gN,pa "name_token" jn,pa "name_tree" jL,pa "need_name" jo,pa "need_sign" jp,pa "number_token" iw,pa "one_token" ix,pa "open_nest" kS,pa "parse_choice" gW,pa "parse_expr" jq,pa "peek_token" gz,pa "power_of" lY,pa "primary_tree" gh,pa "read_numeral" iV,pa "refuse_ranges" iD,pa "relation_sign" g7,pa "relation_tree" eg,pa "show_based" jZ,pa "show_chain" jr,pa "show_expr" gG,pa "show_literal" iz,pa "show_logical" iA,pa "show_member" iK,pa "show_named" jt,pa "show_range" ju,pa "show_whole" j0,pa "show_within" dG,pa "simple_tree" dQ,pa "small_sign" f9,pa "take_sign" fW,pa "take_token" eK,pa "take_word" g8,pa "term_tree" gk,pa "token_ahead" eU,pa "tokens_of" kU,pa "tree_parts" gA]
def Uc:List (Str×PV):=[("BASED_FIGURES",iM),("BINDING",jx),("COMPOUNDS",rN),("FIGURES",pH),("FIGURE_SIGNS",ke),("GAPS",t8),("LITERAL_BASES",nr),("MOST_FIGURES",gm),("MOST_HIGH",oV),("MOST_NESTED",pJ),("MOST_POWER",qz),("NAMES",qU),("PRIMARY_LEVEL",lz),("RELATIONS",rO),("RESERVED",jl),("SHORT_WORDS",kQ),("SINGLES",uZ),("SMALL_LETTERS",nt),("_law_adding",eG),("_law_comparing",fE),("_law_scaling",g6)]
noncomputable def Fx:List Str:=["at","deep","nest","parse_choices","parse_declarations","parse_discrete","parse_expr","parse_formals","parse_handled","parse_handlers","parse_item","parse_name","parse_sequence","parse_statements","tokens"]
structure HG(G:Gl):Prop where
 rcls:yT G
 mke:∀M,ku M G.h₀ G.fC
 sf:G.mg "SyntaxFault"=some (.ref G.fC)
 ats:∀x ∈ Fx,findIn G.K (.ref G.rC) x=some none
 fR:GF G "Reader" G.rC
 fh:GF G "refuse_here" gn
 fs:∀p ∈ Ub,GF G p.1 p.2
 vs:Hy (GV G) Uc
 GU:GB G "int" (.type "int")
 se:GB G "isinstance" (.builtin "isinstance")
 S3:GB G "len" (.builtin "len")
 O8:GB G "list" (.type "list")
 SZ:GB G "max" (.builtin "max")
 Ez:GB G "range" (.type "range")
 J8:GB G "tuple" (.type "tuple")
theorem CZ{β:Type}{P:Str->β->Prop}:∀{l:List (Str×β)},(∀p ∈ l,P p.1 p.2)->Hy P l
 |[],_=>trivial
 |_::_,h=>⟨h _ (.head _),CZ λp q=>h p (.tail _ q)⟩
theorem HG.f(H:HG G)(x:Str)(e:Fe Ub x=some a):GF G x a:=vJ _ (CZ H.fs) e
theorem HG.v(H:HG G)(x:Str){a:PV}(e:Fe Uc x=some a):GV G x a:=vJ _ H.vs e
theorem HG.at_(H:HG G)(x:Str)(e:Vt Fx x=true):findIn G.K (.ref G.rC) x=some none:=H.ats _ (HH _ e)
end
section
set_option tactic.hygienic true
def GA(C:Addr->List PV->M PV)(Cf:List PV->M Unit)(Cr:List PV->M PV)(W:Nat)(unc:List Nat):uw:=⟨("Reader",Cr)::Ub.map (λp=>(p.1,C p.2)),Uc,[("len",jQ),("max",Pv)],Fx,Cf,W,unc⟩
theorem NK(H:HG G){Cr:List PV->M PV}(hC:∀a,fK G n a (C a))(hF:jS G n gn Cf)(hR:fK G n G.rC Cr)(W:Nat)(unc:List Nat){f:Fm}(hk:f.cs.kind= .function):pA G n f (GA C Cf Cr W unc):=
 ⟨hk,⟨⟨_,H.fR,hR⟩,CZ λp q=>eN (List.mem_map.mp q) λr h e=>e▸⟨_,H.fs r h,hC _⟩⟩,H.vs,⟨⟨_,H.S3,Mn⟩,⟨_,H.SZ,Mo⟩,trivial⟩,H.rcls,H.ats,H.mke,⟨_,H.fh,hF⟩⟩
noncomputable def Ud:List Nat:=[48,72,211,214,219,221,231,236,238,240,243,274,285,294,296,304,320,328,341,392,405,412,414,419,424,435,442,445,450,452,455,483,491,493,507,510,572,575,583,609,630,658,677,679,681,780,783]
theorem Ax(H:HG G){Cr:List PV->M PV}(hC:∀a,fK G n a (C a))(hF:jS G n gn Cf)(hR:fK G n G.rC Cr)(W:Nat){f:Fm}(hk:f.cs.kind= .function){ss:List Stmt}{m:M Fl}(e:cS (GA C Cf Cr W Ud) f 100 ss aa=m):ow G n f aa ss m:=e▸WL (NK H hC hF hR W Ud hk) _ _ _
theorem oI(H:HG G){Cr:List PV->M PV}(hC:∀a,fK G n a (C a))(hF:jS G n gn Cf)(hR:fK G n G.rC Cr)(W:Nat){f:Fm}(hk:f.cs.kind= .function){ss:cP}(e:(LJ (GA C Cf Cr W []) f 100).1 ss aa=m):dR G n f aa ss m:=e▸(CW (NK H hC hF hR W [] hk) _).1 _ _
theorem GX(H:HG G){Cr:List PV->M PV}(hC:∀a,fK G n a (C a))(hF:jS G n gn Cf)(hR:fK G n G.rC Cr)(W:Nat){f:Fm}(hk:f.cs.kind= .function){ss:cP}{m:M Bool}(e:(LJ (GA C Cf Cr W []) f 100).2 ss aa=m):uM G n f aa ss m:=e▸(CW (NK H hC hF hR W [] hk) _).2 _ _
abbrev Md:=(Addr->List PV->M PV)->(List PV->M Unit)->(List PV->M PV)->Nat->Lo->M Fl
abbrev Nd:=(Addr->List PV->M PV)->(List PV->M Unit)->(List PV->M PV)->Nat->Lo->Cm Fl
abbrev Ok(nm:Str)(sc:Scope)(ps more:List Str)(b:List Stmt)(m:Md):Prop:=∀{G:Gl}(_:HG G){n:Nat}{C:Addr->List PV->M PV}{Cf:List PV->M Unit}{Cr:List PV->M PV}(_:∀a,fK G n a (C a))(_:jS G n gn Cf)(_:fK G n G.rC Cr)(W:Nat)(aa:Lo)(L a:Addr)(cd:Value),ow G n ⟨nm,sc,L,a,cd,ps++more⟩ aa b (m C Cf Cr W aa)
theorem oS{nm:Str}{m:Md}(hk:autoParam (sc.kind= .function) kr)(e:autoParam ((λC Cf Cr W aa (L a:Addr) (cd:Value)=>cS (GA C Cf Cr W Ud) ⟨nm,sc,L,a,cd,ps++more⟩ 100 b aa)=λC Cf Cr W aa L a cd=>m C Cf Cr W aa) kr):Ok nm sc ps more b m:=
 λH _ _ _ _ hC hF hR W aa L a cd=>Ax H hC hF hR W hk (congrFun (congrFun (congrFun (congrFun (congrFun (congrFun (congrFun (congrFun e _) _) _) _) _) _) _) _)
variable{Cr:List PV->M PV}{W:Nat}
def sq:Nd:=λC Cf Cr W aa=>(.seq (jT aa d9 (cF aa 1) (cF aa 0)) λaa=>(.seq (jT aa ii (cF aa 2) (cF aa 0)) λaa=>(.seq (jT aa gb (cL 0) (cF aa 0)) λaa=>(.seq (jT aa iu (cL 0) (cF aa 0)) λaa=>(.seq (jT aa dX mz (cF aa 0)) λaa=>(.seq (jT aa ed mz (cF aa 0)) λaa=>(.seq (jT aa dM mz (cF aa 0)) λaa=>(.seq (jT aa dY mz (cF aa 0)) λaa=>(.seq (jT aa dH mz (cF aa 0)) λaa=>(.seq (jT aa eO mz (cF aa 0)) λaa=>(.seq (jT aa eB mz (cF aa 0)) λaa=>(.seq (jT aa fQ mz (cF aa 0)) λaa=>(.seq (jT aa gF mz (cF aa 0)) λaa=>(.seq (jT aa jd mz (cF aa 0)) λaa=>(jT aa oU mz (cF aa 0))))))))))))))))
def kf:Md:=λC Cf Cr W aa=>fG (sq C Cf Cr W aa)
theorem xQ:kf C Cf Cr W aa=fG (sq C Cf Cr W aa):=rfl
theorem xR:Ok "Reader.__init__" (Kt 6 0) ["self","tokens","at"] [] (Vu 6 0) kf:=oS
def uy:Nd:=λC Cf Cr W aa=>(.seq (dA aa 2 (dT .Add (te ii (cF aa 0)) (cF aa 1))) λaa=>(.seq (dm (cV .Lt (cF aa 2) (cI jQ [(te d9 (cF aa 0))])) (df (dr (te d9 (cF aa 0)) (cF aa 2))) (cZ aa)) λaa=>(.seq (dm (cV .Eq (te d9 (cF aa 0)) (mA [])) (.ask cU) (cZ aa)) λaa=>(df (eo [(cK hG),(cK hG),(dr (dr (te d9 (cF aa 0)) (M8 (cL 1))) (cL 2))])))))
def lJ:Md:=λC Cf Cr W aa=>fG (uy C Cf Cr W aa)
theorem uz:lJ C Cf Cr W aa=fG (uy C Cf Cr W aa):=rfl
theorem AN:Ok "token_ahead" (iZ 7) ["reader","ahead"] ["spot"] (bd 7) lJ:=oS
def vQ:Nd:=λC Cf Cr W aa=>(df (cI (C eU) [(cF aa 0),(cL 0)]))
def mC:Md:=λC Cf Cr W aa=>fG (vQ C Cf Cr W aa)
theorem C0:mC C Cf Cr W aa=fG (vQ C Cf Cr W aa):=rfl
theorem C1:Ok "peek_token" (iZ 8) ["reader"] [] (bd 8) mC:=oS
def vR:Nd:=λC Cf Cr W aa=>(.seq (dA aa 1 (cI (C eU) [(cF aa 0),(cL 0)])) λaa=>(.seq (nG aa ii .Add (cL 1) (cF aa 0)) λaa=>(df (cF aa 1))))
def mD:Md:=λC Cf Cr W aa=>fG (vR C Cf Cr W aa)
theorem C2:mD C Cf Cr W aa=fG (vR C Cf Cr W aa):=rfl
theorem C3:Ok "take_token" (iZ 9) ["reader"] ["token"] (bd 9) mD:=oS
def xw:Nd:=λC Cf Cr W aa=>(df (dr (cI (C eU) [(cF aa 0),(cL 0)]) (cL 2)))
def n3:Md:=λC Cf Cr W aa=>fG (xw C Cf Cr W aa)
theorem Fy:n3 C Cf Cr W aa=fG (xw C Cf Cr W aa):=rfl
theorem Fz:Ok "here_line" (iZ 10) ["reader"] [] (bd 10) n3:=oS
def BW:Nd:=λC Cf Cr W aa=>(df (ph .Eq (oH (cI (C eU) [(cF aa 0),(cF aa 2)]) none (some (cL 2))) (eo [(cK i7),(cF aa 1)])))
def qW:Md:=λC Cf Cr W aa=>fG (BW C Cf Cr W aa)
theorem KF:qW C Cf Cr W aa=fG (BW C Cf Cr W aa):=rfl
theorem KG:Ok "is_sign" (iZ 12) ["reader","sign","ahead"] [] (bd 12) qW:=oS
def BX:Nd:=λC Cf Cr W aa=>(df (ph .Eq (oH (cI (C eU) [(cF aa 0),(cF aa 2)]) none (some (cL 2))) (eo [(cK jc),(cF aa 1)])))
def qX:Md:=λC Cf Cr W aa=>fG (BX C Cf Cr W aa)
theorem BY:qX C Cf Cr W aa=fG (BX C Cf Cr W aa):=rfl
theorem KH:Ok "is_word" (iZ 13) ["reader","word","ahead"] [] (bd 13) qX:=oS
def xx:Nd:=λC Cf Cr W aa=>(.seq (dm (oB (gv (cI (C dO) [(cF aa 0),(cF aa 1)]))) (df (y7 false)) (cZ aa)) λaa=>(.seq (nG aa ii .Add (cL 1) (cF aa 0)) λaa=>(df (y7 true))))
def n4:Md:=λC Cf Cr W aa=>fG (xx C Cf Cr W aa)
theorem xy:n4 C Cf Cr W aa=fG (xx C Cf Cr W aa):=rfl
theorem FA:Ok "take_sign" (iZ 14) ["reader","sign"] [] (bd 14) n4:=oS
def xz:Nd:=λC Cf Cr W aa=>(.seq (dm (oB (gv (cI (C eH) [(cF aa 0),(cF aa 1)]))) (df (y7 false)) (cZ aa)) λaa=>(.ask cU))
def n5:Md:=λC Cf Cr W aa=>fG (xz C Cf Cr W aa)
theorem FB:n5 C Cf Cr W aa=fG (xz C Cf Cr W aa):=rfl
theorem FC:Ok "take_word" (iZ 15) ["reader","word"] [] (bd 15) n5:=oS
def xA:Nd:=λC Cf Cr W aa=>(dm (oB (gv (cI (C fW) [(cF aa 0),(cF aa 1)]))) (nZ Cf [(cF aa 0),(dT .Add (cK nl) (cF aa 1))]) (cZ aa))
def n6:Md:=λC Cf Cr W aa=>fG (xA C Cf Cr W aa)
theorem xB:n6 C Cf Cr W aa=fG (xA C Cf Cr W aa):=rfl
theorem FD:Ok "need_sign" (iZ 16) ["reader","sign"] [] (bd 16) n6:=oS
def xC:Nd:=λC Cf Cr W aa=>(.seq (dm (cV .NotEq (dr (cI (C gz) [(cF aa 0)]) (cL 0)) (cK fk)) (nZ Cf [(cF aa 0),(cK w3)]) (cZ aa)) λaa=>(df (dr (cI (C eK) [(cF aa 0)]) (cL 1))))
def n7:Md:=λC Cf Cr W aa=>fG (xC C Cf Cr W aa)
theorem n8:n7 C Cf Cr W aa=fG (xC C Cf Cr W aa):=rfl
theorem FE:Ok "need_name" (iZ 17) ["reader"] [] (bd 17) n7:=oS
def C4:Nd:=λC Cf Cr W aa=>(.seq (dA aa 1 (mA [])) λaa=>(.seq (Hx W (qO 2) (oH (cF aa 0) (some (cL 1)) none) (λaa=>(dm (gv (Jl "tuple" (cF aa 2))) (mB aa (tf (cF aa 1) (cF aa 2))) (dm (gv (Jl "list" (cF aa 2))) (.ask cU) (cZ aa)))) aa) λaa=>(df (cF aa 1))))
def mE:Md:=λC Cf Cr W aa=>(dn (dZ aa 1 (m9 [])) λaa=>(dn (BP W (qO 2) (lG (cG aa 0) (some (cY 1)) none) (λaa=>(eS (sO (MX "tuple" (cG aa 2))) (oz aa (jC (cG aa 1) (cG aa 2))) (eS (sO (MX "list" (cG aa 2))) cU (dF aa)))) aa) λaa=>(eJ (cG aa 1))))
theorem C5:mE C Cf Cr W aa=fG (C4 C Cf Cr W aa):=rfl
theorem C6:Ok "tree_parts" (iZ 21) ["tree"] ["parts","part","one"] (bd 21) mE:=λH _ _ _ _ hC hF hR W aa L a cd=>
 (eh (gt (i:=1) rfl rfl (oI H hC hF hR W rfl (by rfl'))) λaa=>(eh (CO W (λ_=>rfl) (sY (i:=2) rfl) (oI H hC hF hR W rfl (by rfl')) (λaa=>(oy (nX (pe (M3 H.se l7 ux H.J8 va NJ (by simp) rfl (oI H hC hF hR W rfl (by rfl'))) (λ_=>rfl)) (Ax H hC hF hR W rfl (by rfl')) (oy (nX (pe (M3 H.se l7 ux H.O8 vO Qo (by simp) rfl (oI H hC hF hR W rfl (by rfl'))) (λ_=>rfl)) wS ko)))))) λaa=>(Ax H hC hF hR W rfl (by rfl'))))
def kW:Md:=λC Cf Cr W aa=>(dn (dZ aa 2 (m9 [(cG aa 1)])) λaa=>(dn (Fa W (qO 3) (kN oV) (λaa=>(dn (M1 W 2 aa (C gA) (cG aa 2)) λaa=>(eS (dz .Eq (cG aa 2) (m9 [])) Hs (dF aa)))) aa) λaa=>cU))
theorem zj:Ok "check_height" (iZ 22) ["reader","tree"] ["level","turn"] (bd 22) kW:=λH _ _ _ _ hC hF hR W aa L a cd=>
 (eh (gt (i:=2) rfl rfl (oI H hC hF hR W rfl (by rfl'))) λaa=>(eh (Fb W H.Ez tt Fv rfl (λ_=>rfl) (sY (i:=3) rfl) (oI H hC hF hR W rfl (by rfl')) (λaa=>(eh (PJ W W (iy:=2) rfl (vy (i:=2) rfl NI) (by rfl) rfl rfl Ua rfl Qp (by decide) (by decide) (by decide) rfl AM (H.f "tree_parts" (by rfl')).mg (H.f "tree_parts" (by rfl')).keep (hC _)) λaa=>(Ax H hC hF hR W rfl (by rfl'))))) λaa=>wS))
def xD:Nd:=λC Cf Cr W aa=>(.seq (nG aa gb .Add (cL 1) (cF aa 0)) λaa=>(dm (cV .Gt (te gb (cF aa 0)) (lX pJ)) (nZ Cf [(cF aa 0),(cK vK)]) (cZ aa)))
def n9:Md:=λC Cf Cr W aa=>fG (xD C Cf Cr W aa)
theorem xE:n9 C Cf Cr W aa=fG (xD C Cf Cr W aa):=rfl
theorem FF:Ok "open_nest" (iZ 23) ["reader"] [] (bd 23) n9:=oS
def vS:Nd:=λC Cf Cr W aa=>(nG aa gb .Sub (cL 1) (cF aa 0))
def mF:Md:=λC Cf Cr W aa=>fG (vS C Cf Cr W aa)
theorem C7:mF C Cf Cr W aa=fG (vS C Cf Cr W aa):=rfl
theorem C8:Ok "close_nest" (iZ 24) ["reader"] [] (bd 24) mF:=oS
def tv:Nd:=λC Cf Cr W aa=>(.seq (dm (cV .Eq (te gb (cF aa 0)) (cL 0)) (mB aa (cI (C iT) [(cF aa 0),(cF aa 1)])) (cZ aa)) λaa=>(df (cF aa 1)))
def kX:Md:=λC Cf Cr W aa=>fG (tv C Cf Cr W aa)
theorem tw:kX C Cf Cr W aa=fG (tv C Cf Cr W aa):=rfl
theorem zk:Ok "bounded_tree" (iZ 25) ["reader","tree"] [] (bd 25) kX:=oS
def uA:Nd:=λC Cf Cr W aa=>(df (ph .In (cF aa 0) (lX jl)))
def lK:Md:=λC Cf Cr W aa=>fG (uA C Cf Cr W aa)
theorem AO:lK C Cf Cr W aa=fG (uA C Cf Cr W aa):=rfl
theorem AP:Ok "is_reserved" (iZ 30) ["word"] [] (bd 30) lK:=oS
def vT:Nd:=λC Cf Cr W aa=>(df (cI (C gU) [(cF aa 0),(cI (C gg) [(cF aa 0),(cI (C eg) [(cF aa 0),(cI (C dQ) [(cF aa 0)])])])]))
def mG:Md:=λC Cf Cr W aa=>fG (vT C Cf Cr W aa)
theorem oW:mG C Cf Cr W aa=fG (vT C Cf Cr W aa):=rfl
theorem C9:Ok "parse_expr" (iZ 37) ["reader"] [] (bd 37) mG:=oS
def tz:Nd:=λC Cf Cr W aa=>(.seq (dm (gv (cI (C eH) [(cF aa 0),(cK f8)])) (df (sp (gv (cI (C eH) [(cF aa 0),(cK nn),(cL 1)])) (eo [(cK eA),(cL 2)]) (eo [(cK f8),(cL 1)]))) (cZ aa)) λaa=>(.seq (dm (gv (cI (C eH) [(cF aa 0),(cK iH)])) (df (sp (gv (cI (C eH) [(cF aa 0),(cK nq),(cL 1)])) (eo [(cK fg),(cL 2)]) (eo [(cK iH),(cL 1)]))) (cZ aa)) λaa=>(.seq (dm (gv (cI (C eH) [(cF aa 0),(cK gf)])) (df (eo [(cK gf),(cL 1)])) (cZ aa)) λaa=>(df (eo [(cK hG),(cL 0)])))))
def kY:Md:=λC Cf Cr W aa=>fG (tz C Cf Cr W aa)
theorem pK:kY C Cf Cr W aa=fG (tz C Cf Cr W aa):=rfl
theorem zl:Ok "logical_word" (iZ 38) ["reader"] [] (bd 38) kY:=oS
def zm:Nd:=λC Cf Cr W aa=>(.seq (dA aa 2 (dr (cI (C fz) [(cF aa 0)]) (cL 0))) λaa=>(pj (λaa=>(gv (y7 true))) (λaa=>(.seq (tg aa [3,4] (cI (C fz) [(cF aa 0)])) λaa=>(.seq (dm (cV .Eq (cF aa 3) (cK hG)) (df (cF aa 1)) (cZ aa)) λaa=>(.seq (dm (cV .NotEq (cF aa 3) (cF aa 2)) (nZ Cf [(cF aa 0),(cK iP)]) (cZ aa)) λaa=>(.seq (nG aa ii .Add (cF aa 4) (cF aa 0)) λaa=>(.seq (dA aa 5 (cI (C eg) [(cF aa 0),(cI (C dQ) [(cF aa 0)])])) λaa=>(dm (cV .Eq (cF aa 4) (cL 2)) (dA aa 1 (eo [(cF aa 3),(cF aa 1),(cF aa 5)])) (dA aa 1 (eo [(cK iQ),(cF aa 3),(cF aa 1),(cF aa 5)]))))))))) (λaa=>(cZ aa)) W aa))
def kZ:Md:=λC Cf Cr W aa=>fG (zm C Cf Cr W aa)
theorem zn:Ok "logical_tree" (iZ 39) ["reader","tree"] ["sort","word","size","right"] (bd 39) kZ:=oS
def sr:Nd:=λC Cf Cr W aa=>(.seq (dA aa 1 (cI (C gz) [(cF aa 0)])) λaa=>(.seq (dm (jb [(cV .Eq (dr (cF aa 1) (cL 0)) (cK i7)),(cV .In (dr (cF aa 1) (cL 1)) (lX rO))]) (df (dr (cF aa 1) (cL 1))) (cZ aa)) λaa=>(df (cK hG))))
def kg:Md:=λC Cf Cr W aa=>fG (sr C Cf Cr W aa)
theorem je:kg C Cf Cr W aa=fG (sr C Cf Cr W aa):=rfl
theorem xS:Ok "relation_sign" (iZ 40) ["reader"] ["token"] (bd 40) kg:=oS
def su:Nd:=λC Cf Cr W aa=>(.seq (dA aa 2 (cI (C g7) [(cF aa 0)])) λaa=>(.seq (dm (cV .NotEq (cF aa 2) (cK hG)) (.seq (nG aa ii .Add (cL 1) (cF aa 0)) λaa=>(dA aa 1 (eo [(cK iQ),(cF aa 2),(cF aa 1),(cI (C dQ) [(cF aa 0)])]))) (dm (gv (cI (C eH) [(cF aa 0),(cK fY)])) (.seq (nG aa ii .Add (cL 1) (cF aa 0)) λaa=>(dA aa 1 (eo [(cK fY),(cF aa 1),(cI (C gN) [(cF aa 0)])]))) (dm (jb [(gv (cI (C eH) [(cF aa 0),(cK gc)])),(gv (cI (C eH) [(cF aa 0),(cK fY),(cL 1)]))]) (.seq (nG aa ii .Add (cL 2) (cF aa 0)) λaa=>(dA aa 1 (eo [(cK fM),(cF aa 1),(cI (C gN) [(cF aa 0)])]))) (df (cF aa 1))))) λaa=>(.seq (dm (cV .NotEq (cI (C g7) [(cF aa 0)]) (cK hG)) (nZ Cf [(cF aa 0),(cK pD)]) (cZ aa)) λaa=>(df (cF aa 1)))))
def kh:Md:=λC Cf Cr W aa=>fG (su C Cf Cr W aa)
theorem fO:kh C Cf Cr W aa=fG (su C Cf Cr W aa):=rfl
theorem xT:Ok "relation_tree" (iZ 41) ["reader","tree"] ["sign"] (bd 41) kh:=oS
def uB:Nd:=λC Cf Cr W aa=>(.seq (dA aa 1 (cI (C dQ) [(cF aa 0)])) λaa=>(.seq (dm (gv (cI (C fW) [(cF aa 0),(cK jD)])) (df (eo [(cK fD),(cF aa 1),(cI (C dQ) [(cF aa 0)])])) (cZ aa)) λaa=>(.seq (dm (cV .NotIn (dr (cF aa 1) (cL 0)) (lX qU)) (nZ Cf [(cF aa 0),(cK pE)]) (cZ aa)) λaa=>(df (cF aa 1)))))
def lL:Md:=λC Cf Cr W aa=>fG (uB C Cf Cr W aa)
theorem lM:lL C Cf Cr W aa=fG (uB C Cf Cr W aa):=rfl
theorem AQ:Ok "member_tree" (iZ 42) ["reader"] ["tree"] (bd 42) lL:=oS
def lN:Md:=λC Cf Cr W aa=>(dn (dZ aa 1 (cW hG)) λaa=>(dn (eS (LH [(sO (cM (C dO) [(cG aa 0),(cW i8)])),(sO (cM (C dO) [(cG aa 0),(cW iR)]))]) (dZ aa 1 (dP (cM (C eK) [(cG aa 0)]) (cY 1))) (dF aa)) λaa=>(dn (dZ aa 2 (cM (C gk) [(cG aa 0)])) λaa=>(dn (eS (dz .NotEq (cG aa 1) (cW hG)) (dZ aa 2 (f7 [(cW lH),(cG aa 1),(cG aa 2)])) (dF aa)) λaa=>(dn (fw (λaa=>(LH [(sO (cM (C dO) [(cG aa 0),(cW i8)])),(sO (cM (C dO) [(cG aa 0),(cW iR)])),(sO (cM (C dO) [(cG aa 0),(cW AI)]))])) (λaa=>(dn (dZ aa 1 (dP (cM (C eK) [(cG aa 0)]) (cY 1))) λaa=>(dZ aa 2 (f7 [(cW iQ),(cG aa 1),(cG aa 2),(cM (C gk) [(cG aa 0)])])))) (λaa=>(dF aa)) W aa) λaa=>(eJ (cG aa 2)))))))
theorem AR:Ok "simple_tree" (iZ 43) ["reader"] ["sign","tree"] (bd 43) lN:=oS
def FG:Nd:=λC Cf Cr W aa=>(.seq (dA aa 1 (cI (C eM) [(cF aa 0)])) λaa=>(.seq (pj (λaa=>(pi [(gv (cI (C dO) [(cF aa 0),(cK AJ)])),(gv (cI (C dO) [(cF aa 0),(cK AK)])),(gv (cI (C eH) [(cF aa 0),(cK qf)])),(gv (cI (C eH) [(cF aa 0),(cK qg)]))])) (λaa=>(.seq (dA aa 2 (dr (cI (C eK) [(cF aa 0)]) (cL 1))) λaa=>(dA aa 1 (eo [(cK iQ),(cF aa 2),(cF aa 1),(cI (C eM) [(cF aa 0)])])))) (λaa=>(cZ aa)) W aa) λaa=>(df (cF aa 1))))
def oa:Md:=λC Cf Cr W aa=>fG (FG C Cf Cr W aa)
theorem FH:Ok "term_tree" (iZ 44) ["reader"] ["tree","sign"] (bd 44) oa:=oS
def uC:Nd:=λC Cf Cr W aa=>(.seq (dm (pi [(gv (cI (C eH) [(cF aa 0),(cK ji)])),(gv (cI (C eH) [(cF aa 0),(cK gc)]))]) (.seq (dA aa 2 (dr (cI (C eK) [(cF aa 0)]) (cL 1))) λaa=>(df (eo [(cK lH),(cF aa 2),(cI (C gh) [(cF aa 0)])]))) (cZ aa)) λaa=>(.seq (dA aa 1 (cI (C gh) [(cF aa 0)])) λaa=>(.seq (dm (gv (cI (C fW) [(cF aa 0),(cK gC)])) (dA aa 1 (eo [(cK iQ),(cK gC),(cF aa 1),(cI (C gh) [(cF aa 0)])])) (cZ aa)) λaa=>(df (cF aa 1)))))
def lO:Md:=λC Cf Cr W aa=>fG (uC C Cf Cr W aa)
theorem iL:lO C Cf Cr W aa=fG (uC C Cf Cr W aa):=rfl
theorem AS:Ok "factor_tree" (iZ 45) ["reader"] ["tree","word"] (bd 45) lO:=oS
def tA:Nd:=λC Cf Cr W aa=>(.seq (tg aa [1,2,3] (cI (C gz) [(cF aa 0)])) λaa=>(.seq (dm (pi [(cV .Eq (cF aa 1) (cK ic)),(cV .Eq (cF aa 1) (cK uX))]) (.seq (nG aa ii .Add (cL 1) (cF aa 0)) λaa=>(df (eo [(cF aa 1),(cF aa 2)]))) (cZ aa)) λaa=>(.seq (dm (cV .Eq (cF aa 1) (cK uY)) (.ask cU) (cZ aa)) λaa=>(.seq (dm (jb [(cV .Eq (cF aa 1) (cK iS)),(oB (gv (cI (C dO) [(cF aa 0),(cK fT),(cL 1)]))),(oB (gv (cI (C dO) [(cF aa 0),(cK AL),(cL 1)])))]) (.ask cU) (cZ aa)) λaa=>(.seq (dm (jb [(cV .Eq (cF aa 1) (cK i7)),(cV .Eq (cF aa 2) (cK fT))]) (df (cI (C gV) [(cF aa 0)])) (cZ aa)) λaa=>(.seq (dm (gv (cI (C g8) [(cF aa 0),(cK rM)])) (.ask cU) (cZ aa)) λaa=>(.seq (dm (gv (cI (C g8) [(cF aa 0),(cK zb)])) (.ask cU) (cZ aa)) λaa=>(df (cI (C jL) [(cF aa 0)])))))))))
def jE:Md:=λC Cf Cr W aa=>fG (tA C Cf Cr W aa)
theorem jF:jE C Cf Cr W aa=fG (tA C Cf Cr W aa):=rfl
theorem zo:Ok "primary_tree" (iZ 46) ["reader"] ["kind","value","line"] (bd 46) jE:=oS
def FI:Nd:=λC Cf Cr W aa=>(.seq (dm (cV .Eq (dr (cI (C gz) [(cF aa 0)]) (cL 0)) (cK iS)) (.ask cU) (dA aa 1 (eo [(cK fk),(cI (C jo) [(cF aa 0)])]))) λaa=>(pj (λaa=>(gv (y7 true))) (λaa=>(dm (gv (cI (C fW) [(cF aa 0),(cK AL)])) (.ask cU) (dm (gv (cI (C dO) [(cF aa 0),(cK fT)])) (.ask cU) (dm (jb [(gv (cI (C dO) [(cF aa 0),(cK tn)])),(gv (cI (C dO) [(cF aa 0),(cK fT),(cL 1)]))]) (.ask cU) (dm (gv (cI (C fW) [(cF aa 0),(cK tn)])) (.ask cU) (df (cF aa 1))))))) (λaa=>(cZ aa)) W aa))
def og:Md:=λC Cf Cr W aa=>(dn (eS (dz .Eq (dP (cM (C gz) [(cG aa 0)]) (cY 0)) (cW iS)) cU (dZ aa 1 (f7 [(cW fk),(cM (C jo) [(cG aa 0)])]))) λaa=>(fw (λaa=>(sO (uV true))) (λaa=>(eS (sO (cM (C fW) [(cG aa 0),(cW AL)])) cU (eS (sO (cM (C dO) [(cG aa 0),(cW fT)])) cU (eS (uN [(sO (cM (C dO) [(cG aa 0),(cW tn)])),(sO (cM (C dO) [(cG aa 0),(cW fT),(cY 1)]))]) cU (eS (sO (cM (C fW) [(cG aa 0),(cW tn)])) cU (eJ (cG aa 1))))))) (λaa=>(dF aa)) W aa))
theorem FJ:og C Cf Cr W aa=fG (FI C Cf Cr W aa):=rfl
theorem FL:Ok "name_tree" (iZ 48) ["reader"] ["tree"] (bd 48) og:=oS
def uD:Nd:=λC Cf Cr W aa=>(.seq (dm (gv (cI (C fW) [(cF aa 0),(cK jD)])) (df (eo [(cK fD),(cF aa 1),(cI (C dQ) [(cF aa 0)])])) (cZ aa)) λaa=>(.seq (dm (jb [(cV .In (dr (cF aa 1) (cL 0)) (lX qU)),(gv (cI (C g8) [(cF aa 0),(cK fD)]))]) (.ask cU) (cZ aa)) λaa=>(df (cF aa 1))))
def lP:Md:=λC Cf Cr W aa=>fG (uD C Cf Cr W aa)
theorem nI:lP C Cf Cr W aa=fG (uD C Cf Cr W aa):=rfl
theorem AT:Ok "extent_tree" (iZ 51) ["reader","tree"] [] (bd 51) lP:=oS
def tC:Nd:=λC Cf Cr W aa=>(.seq (dm (gv (cI (C g8) [(cF aa 0),(cK lI)])) (.ask cU) (cZ aa)) λaa=>(.seq (dA aa 1 (cI (C gM) [(cF aa 0),(cI (C dQ) [(cF aa 0)])])) λaa=>(.seq (dm (jb [(cV .NotEq (dr (cF aa 1) (cL 0)) (cK fD)),(cV .NotEq (dr (cF aa 1) (cL 0)) (cK Fg))]) (dA aa 1 (cI (C gg) [(cF aa 0),(cI (C eg) [(cF aa 0),(cF aa 1)])])) (cZ aa)) λaa=>(df (cI (C gU) [(cF aa 0),(cF aa 1)])))))
def k6:Md:=λC Cf Cr W aa=>fG (tC C Cf Cr W aa)
theorem jG:k6 C Cf Cr W aa=fG (tC C Cf Cr W aa):=rfl
theorem zp:Ok "parse_choice" (iZ 53) ["reader"] ["tree"] (bd 53) k6:=oS
def vU:Nd:=λC Cf Cr W aa=>(.seq (dA aa 1 (cI (C gW) [(cF aa 0)])) λaa=>(.seq (dm (jb [(oB (gv (cI (C dO) [(cF aa 0),(cK Jp)]))),(oB (gv (cI (C dO) [(cF aa 0),(cK BU)])))]) (.seq (dm (cV .Eq (cF aa 1) (eo [(cK lI)])) (.ask cU) (cZ aa)) λaa=>(df (eo [mz,(cF aa 1)]))) (cZ aa)) λaa=>(.ask cU)))
def mH:Md:=λC Cf Cr W aa=>fG (vU C Cf Cr W aa)
theorem vV:mH C Cf Cr W aa=fG (vU C Cf Cr W aa):=rfl
theorem Da:Ok "assoc_here" (iZ 54) ["reader"] ["first","choices"] (bd 54) mH:=oS
def xF:Nd:=λC Cf Cr W aa=>(.seq (dA aa 1 (mA [(cI (C jm) [(cF aa 0)])])) λaa=>(.seq (pj (λaa=>(gv (cI (C fW) [(cF aa 0),(cK Jq)]))) (λaa=>(.ask cU)) (λaa=>(cZ aa)) W aa) λaa=>(df (cF aa 1))))
def oh:Md:=λC Cf Cr W aa=>fG (xF C Cf Cr W aa)
theorem xG:oh C Cf Cr W aa=fG (xF C Cf Cr W aa):=rfl
theorem FM:Ok "assoc_row" (iZ 55) ["reader"] ["rows","one"] (bd 55) oh:=oS
def tD:Nd:=λC Cf Cr W aa=>(.seq (mB aa (cI (C jp) [(cF aa 0),(cK fT)])) λaa=>(.seq (mB aa (cI (C kS) [(cF aa 0)])) λaa=>(.seq (dm (jb [(gv (cI (C eH) [(cF aa 0),(cK rM)])),(gv (cI (C eH) [(cF aa 0),(cK Fh),(cL 1)]))]) (.ask cU) (.seq (dA aa 2 (cI (C jK) [(cF aa 0)])) λaa=>(.seq (mB aa (cI (C iD) [(cF aa 0),(cF aa 2)])) λaa=>(dm (jb [(cV .Eq (cI jQ [(cF aa 2)]) (cL 1)),(cV .Is (dr (dr (cF aa 2) (cL 0)) (cL 0)) mz)]) (dA aa 1 (cI (C iU) [(cF aa 0),(dr (dr (cF aa 2) (cL 0)) (cL 1))])) (.ask cU))))) λaa=>(.seq (mB aa (cI (C jp) [(cF aa 0),(cK eY)])) λaa=>(.seq (mB aa (cI (C jX) [(cF aa 0)])) λaa=>(df (cF aa 1)))))))
def k7:Md:=λC Cf Cr W aa=>fG (tD C Cf Cr W aa)
theorem k8:k7 C Cf Cr W aa=fG (tD C Cf Cr W aa):=rfl
theorem zq:Ok "bracket_tree" (iZ 57) ["reader"] ["tree","rows"] (bd 57) k7:=oS
def sv:Nd:=λC Cf Cr W aa=>(Hx W (AG [2,3]) (cF aa 1) (λaa=>(dm (pi [(cV .Eq (dr (cF aa 3) (cL 0)) (cK fD)),(cV .Eq (dr (cF aa 3) (cL 0)) (cK Fg))]) (nZ Cf [(cF aa 0),(cK pF)]) (cZ aa))) aa)
def ki:Md:=λC Cf Cr W aa=>fG (sv C Cf Cr W aa)
theorem sw:ki C Cf Cr W aa=fG (sv C Cf Cr W aa):=rfl
theorem xU:Ok "refuse_ranges" (iZ 58) ["reader","rows"] ["choices","value"] (bd 58) ki:=oS
def tE:Nd:=λC Cf Cr W aa=>(.seq (dm (oB (gv (cI (C g8) [(cF aa 0),(cK zc)]))) (.seq (dm (cV .In (dr (cF aa 1) (cL 0)) (lX qU)) (df (eo [(cK tZ),(cF aa 1)])) (cZ aa)) λaa=>(df (cF aa 1))) (cZ aa)) λaa=>(.ask cU))
def k9:Md:=λC Cf Cr W aa=>fG (tE C Cf Cr W aa)
theorem zr:k9 C Cf Cr W aa=fG (tE C Cf Cr W aa):=rfl
theorem zt:Ok "lone_bracket" (iZ 59) ["reader","tree"] ["rows"] (bd 59) k9:=oS
def Db:Nd:=λC Cf Cr W aa=>(.seq (dm (M7 .LtE .LtE (cK T0) (cF aa 0) (cK WO)) (.ask cU) (cZ aa)) λaa=>(df (cF aa 0)))
def mI:Md:=λC Cf Cr W aa=>(dn (eS (PK .LtE .LtE (cW T0) (cG aa 0) (cW WO)) cU (dF aa)) λaa=>(eJ (cG aa 0)))
theorem vW:mI C Cf Cr W aa=fG (Db C Cf Cr W aa):=by rfl'
theorem Dc:Ok "small_sign" (iZ 74) ["sign"] [] (bd 74) mI:=λH _ _ _ _ hC hF hR W aa L a cd=>
 (eh (nX (My (wV YO) (oI H hC hF hR W rfl (by rfl')) (wV YQ) rfl _) wS ko) λaa=>(Ax H hC hF hR W rfl (by rfl')))
def qY:Nd:=λC Cf Cr W aa=>(df (Jm [(ph .NotEq (cF aa 0) (cK hG)),(ph .In (cI (C f9) [(cF aa 0)]) (lX nt))]))
def jH:Md:=λC Cf Cr W aa=>fG (qY C Cf Cr W aa)
theorem w4:jH C Cf Cr W aa=fG (qY C Cf Cr W aa):=rfl
theorem w5:Ok "is_name_letter" (iZ 75) ["sign"] [] (bd 75) jH:=oS
def tF:Nd:=λC Cf Cr W aa=>(df (WH [(cI (C fU) [(cF aa 0)]),(Jm [(ph .NotEq (cF aa 0) (cK hG)),(ph .In (cF aa 0) (lX pH))])]))
def lf:Md:=λC Cf Cr W aa=>fG (tF C Cf Cr W aa)
theorem pL:lf C Cf Cr W aa=fG (tF C Cf Cr W aa):=rfl
theorem zu:Ok "is_name_part" (iZ 76) ["sign"] [] (bd 76) lf:=oS
def Dd:Nd:=λC Cf Cr W aa=>(.seq (dA aa 3 (cF aa 1)) λaa=>(.seq (dA aa 4 (cK hG)) λaa=>(.seq (pj (λaa=>(jb [(cV .Lt (cF aa 3) (cI jQ [(cF aa 0)])),(pi [(gv (cI (C fy) [(dr (cF aa 0) (cF aa 3))])),(cV .Eq (dr (cF aa 0) (cF aa 3)) (cK EC))])])) (λaa=>(.seq (dm (jb [(cV .Eq (dr (cF aa 0) (cF aa 3)) (cK EC)),(oB (gv (cI (C fy) [(oH (cF aa 0) (some (dT .Add (cF aa 3) (cL 1))) (some (dT .Add (cF aa 3) (cL 2))))])))]) (.ask cU) (cZ aa)) λaa=>(.seq (oC aa 4 .Add (cI (C f9) [(dr (cF aa 0) (cF aa 3))])) λaa=>(oC aa 3 .Add (cL 1))))) (λaa=>(cZ aa)) W aa) λaa=>(.seq (dm (gv (cI (C il) [(cF aa 4)])) (df (eo [(eo [(cK jc),(cF aa 4),(cF aa 2)]),(cF aa 3)])) (cZ aa)) λaa=>(df (eo [(eo [(cK fk),(cF aa 4),(cF aa 2)]),(cF aa 3)]))))))
def mJ:Md:=λC Cf Cr W aa=>fG (Dd C Cf Cr W aa)
theorem De:Ok "name_token" (iZ 78) ["text","at","line"] ["end","name"] (bd 78) mJ:=oS
def lh:Md:=λC Cf Cr W aa=>(dn (dZ aa 4 (cY 0)) λaa=>(dn (dZ aa 5 (cY 0)) λaa=>(dn (dZ aa 6 (cG aa 1)) λaa=>(dn (fw (λaa=>(dz .Lt (cG aa 6) (cM jQ [(cG aa 0)]))) (λaa=>(dn (dZ aa 7 (MU (kN iM) (cM (C f9) [(dP (cG aa 0) (cG aa 6))]))) λaa=>(dn (eS (uN [(dz .Eq (dP (cG aa 0) (cG aa 6)) (cW EC)),(dz .Gt (cG aa 5) (cY 0))]) cU (dF aa)) λaa=>(dn (eS (LH [(dz .Lt (cG aa 7) (cY 0)),(uN [(dz .LtE (cG aa 2) (cY 10)),(dz .GtE (cG aa 7) (cY 10))])]) (E8 aa) (dF aa)) λaa=>(dn (eS (dz .GtE (cG aa 7) (cG aa 2)) cU (dF aa)) λaa=>(dn (eS (dz .Eq (cG aa 5) (kN gm)) cU (dF aa)) λaa=>(dn (dZ aa 4 (d7 .Add (d7 .Mult (cG aa 4) (cG aa 2)) (cG aa 7))) λaa=>(dn (so aa 5 .Add (cY 1)) λaa=>(so aa 6 .Add (cY 1)))))))))) (λaa=>(dF aa)) W aa) λaa=>(dn (eS (dz .Eq (cG aa 5) (cY 0)) cU (dF aa)) λaa=>(eJ (f7 [(cG aa 4),(cG aa 5),(cG aa 6)])))))))
theorem zv:Ok "read_numeral" (iZ 79) ["text","at","base","line"] ["value","count","end","figure"] (bd 79) lh:=λH _ _ _ _ hC hF hR W aa L a cd=>
 (eh (gt (i:=4) rfl rfl wK) λaa=>(eh (gt (i:=5) rfl rfl wK) λaa=>(eh (gt (i:=6) rfl rfl (oI H hC hF hR W rfl (by rfl'))) λaa=>(eh (vG W (λaa=>(GX H hC hF hR W rfl (by rfl'))) (λaa=>(eh (gt (i:=7) rfl rfl (Pw rfl (oI H hC hF hR W rfl (by rfl')) rfl (oI H hC hF hR W rfl (by rfl')))) λaa=>(Ax H hC hF hR W rfl (by rfl')))) (λaa=>ko)) λaa=>(Ax H hC hF hR W rfl (by rfl'))))))
def zw:Nd:=λC Cf Cr W aa=>(.seq (dm (cV .NotEq (cI (C f9) [(oH (cF aa 0) (some (cF aa 1)) (some (dT .Add (cF aa 1) (cL 1))))]) (cK Nv)) (df (eo [(cL 0),(cF aa 1)])) (cZ aa)) λaa=>(.ask cU))
def pM:Md:=λC Cf Cr W aa=>fG (zw C Cf Cr W aa)
theorem HT:pM C Cf Cr W aa=fG (zw C Cf Cr W aa):=rfl
theorem HU:Ok "power_of" (iZ 80) ["text","at","line"] ["sign","begin","value","count","end"] (bd 80) pM:=oS
def tG:Nd:=λC Cf Cr W aa=>(.seq (dA aa 3 (cL 10)) λaa=>(.seq (tg aa [4,5,6] (cI (C iV) [(cF aa 0),(cF aa 1),(cL 10),(cF aa 2)])) λaa=>(.seq (dA aa 7 (ph .Eq (oH (cF aa 0) (some (cF aa 6)) (some (dT .Add (cF aa 6) (cL 1)))) (cK Nw))) λaa=>(.seq (dm (gv (cF aa 7)) (.ask cU) (cZ aa)) λaa=>(.seq (dA aa 8 (cL 0)) λaa=>(.seq (dA aa 9 (Jm [(ph .Eq (oH (cF aa 0) (some (cF aa 6)) (some (dT .Add (cF aa 6) (cL 1)))) (cK AL)),(ph .NotEq (oH (cF aa 0) (some (dT .Add (cF aa 6) (cL 1))) (some (dT .Add (cF aa 6) (cL 2)))) (cK AL))])) λaa=>(.seq (dm (gv (cF aa 9)) (.ask cU) (cZ aa)) λaa=>(.seq (dm (gv (cF aa 7)) (.ask cU) (cZ aa)) λaa=>(.seq (tg aa [10,11] (cI (C lY) [(cF aa 0),(cF aa 6),(cF aa 2)])) λaa=>(.seq (dm (jb [(oB (gv (cF aa 9))),(pi [(cV .Lt (cF aa 10) (cL 0)),(jb [(cV .Eq (oH (cF aa 0) (some (dT .Add (cF aa 6) (cL 1))) (some (dT .Add (cF aa 6) (cL 2)))) (cK iR)),(cV .Gt (cF aa 11) (cF aa 6))])])]) (.ask cU) (cZ aa)) λaa=>(.seq (dm (pi [(gv (cI (C fy) [(oH (cF aa 0) (some (cF aa 11)) (some (dT .Add (cF aa 11) (cL 1))))])),(cV .Eq (oH (cF aa 0) (some (cF aa 11)) (some (dT .Add (cF aa 11) (cL 1)))) (cK EC))]) (.ask cU) (cZ aa)) λaa=>(.seq (dm (oB (gv (cF aa 9))) (df (eo [(eo [(cK ic),(dT .Mult (cF aa 4) (dT .Pow (cF aa 3) (cF aa 10))),(cF aa 2)]),(cF aa 11)])) (cZ aa)) λaa=>(.ask cU)))))))))))))
def li:Md:=λC Cf Cr W aa=>fG (tG C Cf Cr W aa)
theorem tH:li C Cf Cr W aa=fG (tG C Cf Cr W aa):=rfl
theorem zx:Ok "number_token" (iZ 81) ["text","at","line"] ["base","value","count","end","is_based","places","has_point","power","behind","part"] (bd 81) li:=oS
def qi:Nd:=λC Cf Cr W aa=>(.seq (dm (cV .In (oH (cF aa 0) (some (cF aa 1)) (some (dT .Add (cF aa 1) (cL 2)))) (lX rN)) (df (eo [(eo [(cK i7),(oH (cF aa 0) (some (cF aa 1)) (some (dT .Add (cF aa 1) (cL 2)))),(cF aa 2)]),(dT .Add (cF aa 1) (cL 2))])) (cZ aa)) λaa=>(.seq (dm (cV .In (dr (cF aa 0) (cF aa 1)) (lX uZ)) (df (eo [(eo [(cK i7),(dr (cF aa 0) (cF aa 1)),(cF aa 2)]),(dT .Add (cF aa 1) (cL 1))])) (cZ aa)) λaa=>(.ask cU)))
def jv:Md:=λC Cf Cr W aa=>fG (qi C Cf Cr W aa)
theorem qj:jv C Cf Cr W aa=fG (qi C Cf Cr W aa):=rfl
theorem vX:Ok "delimiter_token" (iZ 85) ["text","at","line"] [] (bd 85) jv:=oS
def FN:Nd:=λC Cf Cr W aa=>(.seq (dA aa 4 (dr (cF aa 0) (cF aa 1))) λaa=>(.seq (dm (gv (cI (C fU) [(cF aa 4)])) (df (cI (C jn) [(cF aa 0),(cF aa 1),(cF aa 2)])) (cZ aa)) λaa=>(.seq (dm (cV .In (cF aa 4) (lX pH)) (df (cI (C iw) [(cF aa 0),(cF aa 1),(cF aa 2)])) (cZ aa)) λaa=>(.seq (dm (cV .Eq (cF aa 4) (cK Nx)) (.ask cU) (cZ aa)) λaa=>(.seq (dm (cV .Eq (cF aa 4) (cK tn)) (.ask cU) (cZ aa)) λaa=>(df (cI (C fF) [(cF aa 0),(cF aa 1),(cF aa 2)])))))))
def oi:Md:=λC Cf Cr W aa=>fG (FN C Cf Cr W aa)
theorem FO:Ok "one_token" (iZ 86) ["text","at","line","tokens"] ["sign"] (bd 86) oi:=oS
def FP:Nd:=λC Cf Cr W aa=>(.seq (dA aa 1 (mA [])) λaa=>(.seq (dA aa 2 (cL 0)) λaa=>(.seq (dA aa 3 (cL 1)) λaa=>(.seq (pj (λaa=>(cV .Lt (cF aa 2) (cI jQ [(cF aa 0)]))) (λaa=>(dm (cV .In (dr (cF aa 0) (cF aa 2)) (lX t8)) (.seq (dm (cV .Eq (dr (cF aa 0) (cF aa 2)) (cK Jr)) (.ask cU) (cZ aa)) λaa=>(oC aa 2 .Add (cL 1))) (dm (cV .Eq (oH (cF aa 0) (some (cF aa 2)) (some (dT .Add (cF aa 2) (cL 2)))) (cK qh)) (.ask cU) (.seq (tg aa [4,2] (cI (C ix) [(cF aa 0),(cF aa 2),(cF aa 3),(cF aa 1)])) λaa=>(mB aa (tf (cF aa 1) (cF aa 4))))))) (λaa=>(cZ aa)) W aa) λaa=>(df (cF aa 1))))))
def oj:Md:=λC Cf Cr W aa=>fG (FP C Cf Cr W aa)
theorem FQ:Ok "tokens_of" (iZ 88) ["text"] ["tokens","at","line","token"] (bd 88) oj:=oS
def zy:Nd:=λC Cf Cr W aa=>(.seq (dm (cV .In (dr (cF aa 0) (cL 0)) (lX kQ)) (df (dr (cF aa 0) (cL 0))) (cZ aa)) λaa=>(.seq (dm (jb [(cV .Eq (dr (cF aa 0) (cL 0)) (cK iQ)),(cV .In (dr (cF aa 0) (cL 1)) (eo [(cK f8),(cK iH),(cK gf)]))]) (df (dr (cF aa 0) (cL 1))) (cZ aa)) λaa=>(df (cK hG))))
def mK:Md:=λC Cf Cr W aa=>fG (zy C Cf Cr W aa)
theorem zz:Ok "logical_sort" (iZ 96) ["tree"] [] (bd 96) mK:=oS
def Df:Nd:=λC Cf Cr W aa=>(.seq (dm (cV .NotEq (cI (C dS) [(cF aa 0)]) (cK hG)) (df (cL 1)) (cZ aa)) λaa=>(.seq (dm (cV .Eq (dr (cF aa 0) (cL 0)) (cK iQ)) (df (dr (dr (lX jx) (dr (cF aa 0) (cL 1))) (cL 0))) (cZ aa)) λaa=>(.seq (dm (cV .Eq (dr (cF aa 0) (cL 0)) (cK lH)) (df (sp (cV .In (dr (cF aa 0) (cL 1)) (cK pG)) (cL 3) (cL 5))) (cZ aa)) λaa=>(.seq (dm (cV .In (dr (cF aa 0) (cL 0)) (eo [(cK fY),(cK fM)])) (df (cL 2)) (cZ aa)) λaa=>(df (lX lz))))))
def mL:Md:=λC Cf Cr W aa=>fG (Df C Cf Cr W aa)
theorem Dg:Ok "binding_of" (iZ 97) ["tree"] [] (bd 97) mL:=oS
def uE:Nd:=λC Cf Cr W aa=>(.seq (dm (cV .Lt (cI (C ik) [(cF aa 0)]) (cF aa 1)) (df (dT .Add (dT .Add (cK fT) (cI (C gG) [(cF aa 0)])) (cK eY))) (cZ aa)) λaa=>(df (cI (C gG) [(cF aa 0)])))
def lQ:Md:=λC Cf Cr W aa=>fG (uE C Cf Cr W aa)
theorem uF:lQ C Cf Cr W aa=fG (uE C Cf Cr W aa):=rfl
theorem AU:Ok "show_within" (iZ 98) ["tree","least"] [] (bd 98) lQ:=oS
def lj:Md:=λC Cf Cr W aa=>(dn (dZ aa 1 (cM (C dS) [(cG aa 0)])) λaa=>(dn (dZ aa 2 (m9 [])) λaa=>(dn (fw (λaa=>(dz .Eq (cM (C dS) [(cG aa 0)]) (cG aa 1))) (λaa=>(dn (Ht aa [3,4] (f7 [(dP (cG aa 0) (yZ (cY 2))),(dP (cG aa 0) (yZ (cY 1)))])) λaa=>(dn (oz aa (jC (cG aa 2) (d7 .Add (d7 .Add (d7 .Add (cW eP) (MV (kN kQ) (cG aa 1) (cG aa 1))) (cW eP)) (cM (C dG) [(cG aa 4),(cY 2)])))) λaa=>(dZ aa 0 (cG aa 3))))) (λaa=>(dF aa)) W aa) λaa=>(eJ (d7 .Add (cM (C dG) [(cG aa 0),(cY 2)]) (s9 (xr (cG aa 2))))))))
theorem zA:Ok "show_logical" (iZ 99) ["tree"] ["sort","behind","left","right"] (bd 99) lj:=λH _ _ _ _ hC hF hR W aa L a cd=>
 (eh (gt (i:=1) rfl rfl (oI H hC hF hR W rfl (by rfl'))) λaa=>(eh (gt (i:=2) rfl rfl (oI H hC hF hR W rfl (by rfl'))) λaa=>(eh (vG W (λaa=>(GX H hC hF hR W rfl (by rfl'))) (λaa=>(eh (Jc (ps:=[(("left":Str),⟨546,8,546,12⟩),(("right":Str),⟨546,14,546,19⟩)]) (is:=[3,4]) ⟨rfl,rfl,trivial⟩ rfl rfl rfl (oI H hC hF hR W rfl (by rfl'))) λaa=>(eh (CM (wR rfl (oI H hC hF hR W rfl (by rfl')) rfl (pd (pd (pd (wV Ny) (Ja rfl rfl (oI H hC hF hR W rfl (by rfl')) rfl rfl (oI H hC hF hR W rfl (by rfl')) (oI H hC hF hR W rfl (by rfl')))) (wV Ny)) (oI H hC hF hR W rfl (by rfl')))) rfl rfl) λaa=>(Ax H hC hF hR W rfl (by rfl'))))) (λaa=>ko)) λaa=>(by(with_reducible refine oy (uO ?_));exact(pd (oI H hC hF hR W rfl (by rfl')) (CG (k:=0) rfl rfl (G9 (oI H hC hF hR W rfl (by rfl')) (oI H hC hF hR W rfl (by rfl')) rfl)))))))
def mM:Md:=λC Cf Cr W aa=>(dn (dZ aa 1 (m9 [])) λaa=>(dn (fw (λaa=>(uN [(dz .Eq (dP (cG aa 0) (cY 0)) (cW iQ)),(dz .In (dP (cG aa 0) (cY 1)) (kN jx))])) (λaa=>(dn (E9 aa [2,3,4] (dP (kN jx) (dP (cG aa 0) (cY 1)))) λaa=>(dn (dZ aa 5 (dP (cG aa 0) (cY 1))) λaa=>(dn (eS (dz .NotEq (cG aa 5) (cW gC)) (dZ aa 5 (d7 .Add (d7 .Add (cW eP) (cG aa 5)) (cW eP))) (dF aa)) λaa=>(dn (oz aa (jC (cG aa 1) (d7 .Add (cG aa 5) (cM (C dG) [(dP (cG aa 0) (cY 3)),(cG aa 4)])))) λaa=>(dn (dZ aa 0 (dP (cG aa 0) (cY 2))) λaa=>(eS (dz .Lt (cM (C ik) [(cG aa 0)]) (cG aa 3)) (E8 aa) (dF aa)))))))) (λaa=>(eJ (d7 .Add (cM (C gG) [(cG aa 0)]) (s9 (xr (cG aa 1)))))) W aa) λaa=>(eJ (d7 .Add (d7 .Add (d7 .Add (cW fT) (cM (C gG) [(cG aa 0)])) (cW eY)) (s9 (xr (cG aa 1)))))))
theorem Di:Ok "show_chain" (iZ 100) ["tree"] ["behind","level","left","right","sign"] (bd 100) mM:=λH _ _ _ _ hC hF hR W aa L a cd=>
 (eh (gt (i:=1) rfl rfl (oI H hC hF hR W rfl (by rfl'))) λaa=>(eh (vG W (λaa=>(GX H hC hF hR W rfl (by rfl'))) (λaa=>(Ax H hC hF hR W rfl (by rfl'))) (λaa=>(by(with_reducible refine oy (uO ?_));exact(pd (oI H hC hF hR W rfl (by rfl')) (CG (k:=0) rfl rfl (G9 (oI H hC hF hR W rfl (by rfl')) (oI H hC hF hR W rfl (by rfl')) rfl)))))) λaa=>(by(with_reducible refine oy (uO ?_));exact(pd (oI H hC hF hR W rfl (by rfl')) (CG (k:=0) rfl rfl (G9 (oI H hC hF hR W rfl (by rfl')) (oI H hC hF hR W rfl (by rfl')) rfl))))))
def vY:Nd:=λC Cf Cr W aa=>(.seq (dA aa 3 (cK hG)) λaa=>(.seq (pj (λaa=>(pi [(cV .Gt (cF aa 0) (cL 0)),(cV .Lt (cI jQ [(cF aa 3)]) (cF aa 2))])) (λaa=>(.seq (dA aa 3 (dT .Add (dr (lX ke) (dT .Mod (cF aa 0) (cF aa 1))) (cF aa 3))) λaa=>(oC aa 0 .FloorDiv (cF aa 1)))) (λaa=>(cZ aa)) W aa) λaa=>(df (cF aa 3))))
def mN:Md:=λC Cf Cr W aa=>fG (vY C Cf Cr W aa)
theorem Dj:mN C Cf Cr W aa=fG (vY C Cf Cr W aa):=rfl
theorem Dk:Ok "figures_of" (iZ 101) ["number","base","least"] ["text"] (bd 101) mN:=oS
def Dl:Nd:=λC Cf Cr W aa=>(.seq (dm (cV .NotEq (cF aa 0) (cL 10)) (.ask cU) (cZ aa)) λaa=>(.seq (dm (cV .Eq (cF aa 2) (cL 0)) (df (cF aa 1)) (cZ aa)) λaa=>(.ask cU)))
def oX:Md:=λC Cf Cr W aa=>fG (Dl C Cf Cr W aa)
theorem Dm:Ok "show_based" (iZ 102) ["base","text","power"] ["sign"] (bd 102) oX:=oS
def oY:Md:=λC Cf Cr W aa=>(dn (BP W (qO 1) (kN nr) (λaa=>(dn (dZ aa 2 (cM (C jY) [(cG aa 0),(cG aa 1),(cY 1)])) λaa=>(dn (dZ aa 3 (cM Pv [(cY 0),(d7 .Sub (cM jQ [(cG aa 2)]) (kN gm))])) λaa=>(eS (uN [(dz .LtE (cG aa 3) (kN qz)),(dz .Eq (lG (cG aa 2) (some (kN gm)) none) (d7 .Mult (cW s_0) (cG aa 3)))]) (eJ (cM (C jZ) [(cG aa 1),(lG (cG aa 2) none (some (kN gm))),(cG aa 3)])) (dF aa))))) aa) λaa=>cU)
theorem Dn:Ok "show_whole" (iZ 103) ["number"] ["base","text","power"] (bd 103) oY:=oS
def tI:Nd:=λC Cf Cr W aa=>(.seq (dm (cV .Eq (dr (cF aa 0) (cL 0)) (cK ic)) (df (cI (C j0) [(dr (cF aa 0) (cL 1))])) (cZ aa)) λaa=>(.ask cU))
def ll:Md:=λC Cf Cr W aa=>fG (tI C Cf Cr W aa)
theorem zB:ll C Cf Cr W aa=fG (tI C Cf Cr W aa):=rfl
theorem zC:Ok "show_literal" (iZ 106) ["tree"] [] (bd 106) ll:=oS
def Do:Nd:=λC Cf Cr W aa=>(.seq (dm (cV .Eq (dr (cF aa 0) (cL 0)) (cK fk)) (df (dr (cF aa 0) (cL 1))) (cZ aa)) λaa=>(.ask cU))
def oZ:Md:=λC Cf Cr W aa=>fG (Do C Cf Cr W aa)
theorem Dp:Ok "show_named" (iZ 110) ["tree"] ["base"] (bd 110) oZ:=oS
def vZ:Nd:=λC Cf Cr W aa=>(.seq (dm (cV .Eq (dr (cF aa 0) (cL 0)) (cK fD)) (df (dT .Add (dT .Add (cI (C dG) [(dr (cF aa 0) (cL 1)),(cL 3)]) (cK vL)) (cI (C dG) [(dr (cF aa 0) (cL 2)),(cL 3)]))) (cZ aa)) λaa=>(.ask cU))
def mO:Md:=λC Cf Cr W aa=>fG (vZ C Cf Cr W aa)
theorem Dq:mO C Cf Cr W aa=fG (vZ C Cf Cr W aa):=rfl
theorem Dr:Ok "show_range" (iZ 112) ["tree"] [] (bd 112) mO:=oS
def uG:Nd:=λC Cf Cr W aa=>(.seq (dA aa 1 (sp (cV .Eq (dr (cF aa 0) (cL 0)) (cK fY)) (cK Nz) (cK zd))) λaa=>(df (dT .Add (dT .Add (cI (C dG) [(dr (cF aa 0) (cL 1)),(cL 3)]) (cF aa 1)) (cI (C dG) [(dr (cF aa 0) (cL 2)),(cL 3)]))))
def lR:Md:=λC Cf Cr W aa=>fG (uG C Cf Cr W aa)
theorem uH:lR C Cf Cr W aa=fG (uG C Cf Cr W aa):=rfl
theorem AV:Ok "show_member" (iZ 113) ["tree"] ["word"] (bd 113) lR:=oS
def FR:Nd:=λC Cf Cr W aa=>(.seq (dA aa 1 (dr (cF aa 0) (cL 0))) λaa=>(.seq (dm (cV .NotEq (cI (C dS) [(cF aa 0)]) (cK hG)) (df (cI (C iA) [(cF aa 0)])) (cZ aa)) λaa=>(.seq (dm (cV .Eq (cF aa 1) (cK iQ)) (df (cI (C jr) [(cF aa 0)])) (cZ aa)) λaa=>(.seq (dm (cV .Eq (cF aa 1) (cK lH)) (.seq (dm (cV .In (dr (cF aa 0) (cL 1)) (cK pG)) (df (dT .Add (dr (cF aa 0) (cL 1)) (cI (C dG) [(dr (cF aa 0) (cL 2)),(cL 4)]))) (cZ aa)) λaa=>(df (dT .Add (dT .Add (dr (cF aa 0) (cL 1)) (cK eP)) (cI (C dG) [(dr (cF aa 0) (cL 2)),(cL 6)])))) (cZ aa)) λaa=>(.seq (dm (cV .In (cF aa 1) (eo [(cK fY),(cK fM)])) (df (cI (C iK) [(cF aa 0)])) (cZ aa)) λaa=>(.seq (dm (cV .In (cF aa 1) (eo [(cK fD),(cK Fg)])) (df (cI (C ju) [(cF aa 0)])) (cZ aa)) λaa=>(.seq (dm (cV .In (cF aa 1) (eo [(cK tZ),(cK NA),(cK Fi)])) (.ask cU) (cZ aa)) λaa=>(.seq (dm (cV .Eq (cF aa 1) (cK zb)) (.ask cU) (cZ aa)) λaa=>(.seq (dm (cV .Eq (cF aa 1) (cK lI)) (.ask cU) (cZ aa)) λaa=>(.seq (dm (cV .In (cF aa 1) (eo [(cK ic),(cK uY),(cK uX),(cK iS),(cK rM)])) (df (cI (C iz) [(cF aa 0)])) (cZ aa)) λaa=>(df (cI (C jt) [(cF aa 0)]))))))))))))
def l8:Md:=λC Cf Cr W aa=>fG (FR C Cf Cr W aa)
theorem FS:Ok "show_expr" (iZ 114) ["tree"] ["tag"] (bd 114) l8:=oS
def sx:Nd:=λC Cf Cr W aa=>(.seq (dA aa 2 (dr (cF aa 0) (cK ii))) λaa=>(.seq (CU aa (dT .Add (cF aa 2) (cL 1)) (cF aa 0) (cK ii)) λaa=>(.seq (dm (cV .Lt (cF aa 2) (cI jQ [(dr (cF aa 0) (cK t7))])) (df (dT .Mod (dr (dr (cF aa 0) (cK t7)) (cF aa 2)) (cF aa 1))) (cZ aa)) λaa=>(df (dT .Mod (dT .Add (dT .Add (dT .Mult (dT .Mult (cL 2) (cF aa 2)) (cF aa 2)) (dT .Mult (cL 3) (cF aa 2))) (cL 3)) (cF aa 1))))))
def kl:Md:=λC Cf Cr W aa=>fG (sx C Cf Cr W aa)
theorem sy:kl C Cf Cr W aa=fG (sx C Cf Cr W aa):=rfl
theorem xV:Ok "_law_draw_next" (iZ 119) ["urn","many"] ["at"] (bd 119) kl:=oS
def HV:Nd:=λC Cf Cr W aa=>(.seq (CU aa (dT .Sub (dr (cF aa 0) (cK kO)) (cL 1)) (cF aa 0) (cK kO)) λaa=>(.seq (dA aa 2 (sp (jb [(cV .Gt (cF aa 1) (cL 0)),(cV .Gt (dr (cF aa 0) (cK kO)) (cL 0))]) (cI (C dh) [(cF aa 0),(cL 9)]) (cL 0))) λaa=>(.seq (dm (cV .Lt (cF aa 2) (cL 2)) (.seq (dm (cV .Eq (cI (C dh) [(cF aa 0),(cL 3)]) (cL 2)) (df (eo [(cK ic),(cI (C dh) [(cF aa 0),(cL 100)])])) (cZ aa)) λaa=>(df (eo [(cK fk),(qx [(cK Sv),(cK Sw),(cK Sx)] (cI (C dh) [(cF aa 0),(cL 3)]))]))) (cZ aa)) λaa=>(.seq (dm (cV .Eq (cF aa 2) (cL 2)) (df (eo [(cK lH),(qx [(cK iR),(cK ji),(cK gc),(cK i8)] (cI (C dh) [(cF aa 0),(cL 4)])),(cI (C dw) [(cF aa 0),(dT .Sub (cF aa 1) (cL 1))])])) (cZ aa)) λaa=>(.seq (dm (cV .Eq (cF aa 2) (cL 8)) (.seq (dA aa 6 (cI (C dw) [(cF aa 0),(dT .Sub (cF aa 1) (cL 2))])) λaa=>(.seq (dA aa 7 (eo [(cK fD),(cF aa 6),(cI (C dw) [(cF aa 0),(dT .Sub (cF aa 1) (cL 2))])])) λaa=>(df (eo [(qx [(cK fY),(cK fM)] (cI (C dh) [(cF aa 0),(cL 2)])),(cI (C dw) [(cF aa 0),(dT .Sub (cF aa 1) (cL 1))]),(cF aa 7)])))) (cZ aa)) λaa=>(.seq (dm (cV .Eq (cF aa 2) (cL 7)) (.seq (dA aa 8 (qx [(cK eA),(cK fg)] (cI (C dh) [(cF aa 0),(cL 2)]))) λaa=>(.seq (dA aa 5 (cI (C dw) [(cF aa 0),(dT .Sub (cF aa 1) (cL 1))])) λaa=>(df (eo [(cF aa 8),(cF aa 5),(cI (C dw) [(cF aa 0),(dT .Sub (cF aa 1) (cL 1))])])))) (cZ aa)) λaa=>(.seq (dA aa 3 (qx [(lX eG),(lX g6),(dT .Add (lX fE) (mA [(cK f8),(cK iH),(cK gf)])),(dT .Add (mA [(cK gC)]) (lX eG))] (dT .Sub (cF aa 2) (cL 3)))) λaa=>(.seq (dA aa 4 (dr (cF aa 3) (cI (C dh) [(cF aa 0),(cI jQ [(cF aa 3)])]))) λaa=>(.seq (dA aa 5 (cI (C dw) [(cF aa 0),(dT .Sub (cF aa 1) (cL 1))])) λaa=>(df (eo [(cK iQ),(cF aa 4),(cF aa 5),(cI (C dw) [(cF aa 0),(dT .Sub (cF aa 1) (cL 1))])])))))))))))
def pN:Md:=λC Cf Cr W aa=>fG (HV C Cf Cr W aa)
theorem HW:Ok "_law_grow" (iZ 120) ["urn","storeys"] ["way","bag","sign","first","low","span","word"] (bd 120) pN:=oS
def rP:Md:=λC Cf Cr W aa=>(dn (eS (dz .Eq (dP (cG aa 0) (cY 0)) (cW lH)) (eJ (E4 (dz .In (dP (cG aa 0) (cY 1)) (f7 [(cW i8),(cW iR)])) (cW ze) (cW iv))) (dF aa)) λaa=>(dn (eS (dz .In (dP (cG aa 0) (cY 0)) (f7 [(cW fY),(cW fM)])) (eJ (cW qT)) (dF aa)) λaa=>(dn (eS (dz .In (dP (cG aa 0) (cY 0)) (f7 [(cW eA),(cW fg)])) (eJ (dP (cG aa 0) (cY 0))) (dF aa)) λaa=>(dn (eS (dz .NotEq (dP (cG aa 0) (cY 0)) (cW iQ)) (eJ (cW jW)) (dF aa)) λaa=>(dn (eS (dz .In (dP (cG aa 0) (cY 1)) (kN fE)) (eJ (cW qT)) (dF aa)) λaa=>(dn (eS (dz .In (dP (cG aa 0) (cY 1)) (kN eG)) (eJ (cW vM)) (dF aa)) λaa=>(dn (eS (dz .In (dP (cG aa 0) (cY 1)) (kN g6)) (eJ (cW jj)) (dF aa)) λaa=>(eJ (MV (Hr [gC] [(cW iv)]) (dP (cG aa 0) (cY 1)) (dP (cG aa 0) (cY 1)))))))))))
theorem HX:Ok "_law_word" (iZ 121) ["tree"] [] (bd 121) rP:=λH _ _ _ _ hC hF hR W aa L a cd=>
 (eh (nX (GX H hC hF hR W rfl (by rfl')) (Ax H hC hF hR W rfl (by rfl')) ko) λaa=>(eh (nX (GX H hC hF hR W rfl (by rfl')) (Ax H hC hF hR W rfl (by rfl')) ko) λaa=>(eh (nX (GX H hC hF hR W rfl (by rfl')) (Ax H hC hF hR W rfl (by rfl')) ko) λaa=>(eh (nX (GX H hC hF hR W rfl (by rfl')) (Ax H hC hF hR W rfl (by rfl')) ko) λaa=>(eh (nX (GX H hC hF hR W rfl (by rfl')) (Ax H hC hF hR W rfl (by rfl')) ko) λaa=>(eh (nX (GX H hC hF hR W rfl (by rfl')) (Ax H hC hF hR W rfl (by rfl')) ko) λaa=>(eh (nX (GX H hC hF hR W rfl (by rfl')) (Ax H hC hF hR W rfl (by rfl')) ko) λaa=>(by(with_reducible refine oy (uO ?_));exact(Ja rfl rfl (Jg (ks:=[(("**":Str),0,⟨731,12,731,16⟩)]) (by simp only[jg,List.map_nil,WN]) (.cons rfl (wV Qb) .nil) rfl (by simp) (by simp) (by decide)) rfl rfl (oI H hC hF hR W rfl (by rfl')) (oI H hC hF hR W rfl (by rfl')))))))))))
def zD:Nd:=λC Cf Cr W aa=>(.seq (dA aa 2 (cI (C eX) [(cF aa 0)])) λaa=>(.seq (dA aa 3 (mA [(cK jW),(cK iv),(cK jj),(cK vM),(cK ze)])) λaa=>(.seq (dm (cV .In (cF aa 2) (eo [(cK iv),(cK fD)])) (df (sp (cV .Eq (cF aa 2) (cK iv)) (mA [(cK jW)]) (cF aa 3))) (cZ aa)) λaa=>(.seq (dm (cV .Eq (cF aa 2) (cK jj)) (df (sp (cV .Eq (cF aa 1) (cL 0)) (mA [(cK jW),(cK iv),(cK jj)]) (mA [(cK jW),(cK iv)]))) (cZ aa)) λaa=>(.seq (dm (cV .Eq (cF aa 2) (cK ze)) (df (mA [(cK jW),(cK iv),(cK jj)])) (cZ aa)) λaa=>(.seq (dm (cV .Eq (cF aa 2) (cK vM)) (df (sp (cV .Eq (cF aa 1) (cL 0)) (cF aa 3) (mA [(cK jW),(cK iv),(cK jj)]))) (cZ aa)) λaa=>(.seq (dm (cV .Eq (cF aa 2) (cK qT)) (df (cF aa 3)) (cZ aa)) λaa=>(df (dT .Add (dT .Add (cF aa 3) (mA [(cK qT)])) (sp (cV .Eq (cF aa 1) (cL 0)) (mA [(cF aa 2)]) (mA [])))))))))))
def pO:Md:=λC Cf Cr W aa=>fG (zD C Cf Cr W aa)
theorem iF:pO C Cf Cr W aa=fG (zD C Cf Cr W aa):=rfl
theorem HY:Ok "_law_free" (iZ 122) ["tree","side"] ["word","simple"] (bd 122) pO:=oS
def KI:Nd:=λC Cf Cr W aa=>(.seq (dm (cV .Eq (dr (cF aa 0) (cL 0)) (cK lH)) (df (dT .Add (cI (C eQ) [(dr (cF aa 0) (cL 2))]) (cI xO [(ph .NotIn (cI (C eX) [(dr (cF aa 0) (cL 2))]) (cI (C fp) [(cF aa 0),(cL 1)]))]))) (cZ aa)) λaa=>(.seq (dm (cV .In (dr (cF aa 0) (cL 0)) (eo [(cK fk),(cK ic)])) (df (cL 0)) (cZ aa)) λaa=>(.seq (dm (cV .In (dr (cF aa 0) (cL 0)) (eo [(cK fY),(cK fM)])) (.seq (dA aa 3 (cL 0)) λaa=>(.seq (Hx W (qO 4) (mA [(dr (cF aa 0) (cL 1)),(dr (dr (cF aa 0) (cL 2)) (cL 1)),(dr (dr (cF aa 0) (cL 2)) (cL 2))]) (λaa=>(oC aa 3 .Add (dT .Add (cI (C eQ) [(cF aa 4)]) (cI xO [(ph .NotIn (cI (C eX) [(cF aa 4)]) (cI (C fp) [(cF aa 0),(cL 0)]))])))) aa) λaa=>(df (cF aa 3)))) (cZ aa)) λaa=>(.seq (PU aa [1,2] (eo [(dr (cF aa 0) (M8 (cL 2))),(dr (cF aa 0) (M8 (cL 1)))])) λaa=>(.seq (dA aa 3 (dT .Add (cI (C eQ) [(cF aa 1)]) (cI xO [(ph .NotIn (cI (C eX) [(cF aa 1)]) (cI (C fp) [(cF aa 0),(cL 0)]))]))) λaa=>(df (dT .Add (dT .Add (cF aa 3) (cI (C eQ) [(cF aa 2)])) (cI xO [(ph .NotIn (cI (C eX) [(cF aa 2)]) (cI (C fp) [(cF aa 0),(cL 1)]))]))))))))
def nu:Md:=λC Cf Cr W aa=>(dn (eS (dz .Eq (dP (cG aa 0) (cY 0)) (cW lH)) (eJ (d7 .Add (cM (C eQ) [(dP (cG aa 0) (cY 2))]) (cM xO [(yY .NotIn (cM (C eX) [(dP (cG aa 0) (cY 2))]) (cM (C fp) [(cG aa 0),(cY 1)]))]))) (dF aa)) λaa=>(dn (eS (dz .In (dP (cG aa 0) (cY 0)) (f7 [(cW fk),(cW ic)])) (eJ (cY 0)) (dF aa)) λaa=>(dn (eS (dz .In (dP (cG aa 0) (cY 0)) (f7 [(cW fY),(cW fM)])) (dn (dZ aa 3 (cY 0)) λaa=>(dn (BP W (qO 4) (m9 [(dP (cG aa 0) (cY 1)),(dP (dP (cG aa 0) (cY 2)) (cY 1)),(dP (dP (cG aa 0) (cY 2)) (cY 2))]) (λaa=>(so aa 3 .Add (d7 .Add (cM (C eQ) [(cG aa 4)]) (cM xO [(yY .NotIn (cM (C eX) [(cG aa 4)]) (cM (C fp) [(cG aa 0),(cY 0)]))])))) aa) λaa=>(eJ (cG aa 3)))) (dF aa)) λaa=>(dn (Ht aa [1,2] (f7 [(dP (cG aa 0) (yZ (cY 2))),(dP (cG aa 0) (yZ (cY 1)))])) λaa=>(dn (dZ aa 3 (d7 .Add (cM (C eQ) [(cG aa 1)]) (cM xO [(yY .NotIn (cM (C eX) [(cG aa 1)]) (cM (C fp) [(cG aa 0),(cY 0)]))]))) λaa=>(eJ (d7 .Add (d7 .Add (cG aa 3) (cM (C eQ) [(cG aa 2)])) (cM xO [(yY .NotIn (cM (C eX) [(cG aa 2)]) (cM (C fp) [(cG aa 0),(cY 1)]))]))))))))
theorem w6:nu C Cf Cr W aa=fG (KI C Cf Cr W aa):=rfl
theorem KJ:Ok "_law_due" (iZ 123) ["tree"] ["first","second","count","part"] (bd 123) nu:=λH _ _ _ _ hC hF hR W aa L a cd=>
 (eh (nX (GX H hC hF hR W rfl (by rfl')) (by(with_reducible refine oy (uO ?_));exact(pd (oI H hC hF hR W rfl (by rfl')) (vH H.GU nH CY (.cons rfl (oI H hC hF hR W rfl (by rfl')) .nil) vD))) ko) λaa=>(eh (nX (GX H hC hF hR W rfl (by rfl')) (Ax H hC hF hR W rfl (by rfl')) ko) λaa=>(eh (nX (GX H hC hF hR W rfl (by rfl')) (eh (gt (i:=3) rfl rfl wK) λaa=>(eh (CO W (λ_=>rfl) (sY (i:=4) rfl) (oI H hC hF hR W rfl (by rfl')) (λaa=>(oy (Mt (i:=3) rfl (pd (oI H hC hF hR W rfl (by rfl')) (vH H.GU nH CY (.cons rfl (oI H hC hF hR W rfl (by rfl')) .nil) vD)))))) λaa=>(Ax H hC hF hR W rfl (by rfl')))) ko) λaa=>(eh (Jc (ps:=[(("first":Str),⟨756,4,756,9⟩),(("second":Str),⟨756,11,756,17⟩)]) (is:=[1,2]) ⟨rfl,rfl,trivial⟩ rfl rfl rfl (oI H hC hF hR W rfl (by rfl'))) λaa=>(eh (gt (i:=3) rfl rfl (pd (oI H hC hF hR W rfl (by rfl')) (vH H.GU nH CY (.cons rfl (oI H hC hF hR W rfl (by rfl')) .nil) vD))) λaa=>(by(with_reducible refine oy (uO ?_));exact(pd (oI H hC hF hR W rfl (by rfl')) (vH H.GU nH CY (.cons rfl (oI H hC hF hR W rfl (by rfl')) .nil) vD))))))))
def FT:Nd:=λC Cf Cr W aa=>(.seq (dA aa 1 (cI Cr [(cF aa 0)])) λaa=>(.seq (TF (dA aa 2 (cI (C jq) [(cF aa 1)]))) λaa=>(df (sp (cV .Eq (te ii (cF aa 1)) (cI jQ [(cF aa 0)])) (cF aa 2) mz))))
def ol:Md:=λC Cf Cr W aa=>(dn (dZ aa 1 (cM Cr [(cG aa 0)])) λaa=>(dn (CQ (dZ aa 2 (cM (C jq) [(cG aa 1)]))) λaa=>(eJ (E4 (dz .Eq (Hq ii (cG aa 1)) (cM jQ [(cG aa 0)])) (cG aa 2) MT))))
theorem tJ:ol C Cf Cr W aa=fG (FT C Cf Cr W aa):=rfl
theorem FU:Ok "_law_heard" (iZ 124) ["tokens"] ["reader","tree"] (bd 124) ol:=λH _ _ _ _ hC hF hR W aa L a cd=>
 (eh (gt (i:=1) rfl rfl (oI H hC hF hR W rfl (by rfl'))) λaa=>(eh (TB H.mke H.sf qV tq (Ax H hC hF hR W rfl (by rfl'))) λaa=>(Ax H hC hF hR W rfl (by rfl'))))
def NL:Md:=λC Cf Cr W aa=>(dn (dZ aa 1 (Hr [t7,ii,kO] [(lG (cG aa 0) none (some (cY 40))),(cY 0),(cY 12)])) λaa=>(dn (dZ aa 2 (cM (C dw) [(cG aa 1),(cY 4)])) λaa=>(dn (dZ aa 3 (cM (C kU) [(cM (C gG) [(cG aa 2)])])) λaa=>(dn (eS (dz .NotEq (cM (C iI) [(cG aa 3)]) (cG aa 2)) cU (dF aa)) λaa=>(dn (dZ aa 4 (m9 [])) λaa=>(dn (dZ aa 5 (m9 [])) λaa=>(dn (Fa W (qO 6) (cM jQ [(cG aa 3)]) (λaa=>(dn (eS (dz .Eq (lG (dP (cG aa 3) (cG aa 6)) none (some (cY 2))) (f7 [(cW i7),(cW fT)])) (oz aa (jC (cG aa 5) (cG aa 6))) (dF aa)) λaa=>(eS (dz .Eq (lG (dP (cG aa 3) (cG aa 6)) none (some (cY 2))) (f7 [(cW i7),(cW eY)])) (oz aa (jC (cG aa 4) (f7 [(E7 (cG aa 5)),(cG aa 6)]))) (dF aa)))) aa) λaa=>(dn (eS (dz .NotEq (cM jQ [(cG aa 4)]) (cM (C eQ) [(cG aa 2)])) cU (dF aa)) λaa=>(dn (BP W (AG [7,8]) (cG aa 4) (λaa=>(eS (dz .Eq (cM (C iI) [(d7 .Add (d7 .Add (lG (cG aa 3) none (some (cG aa 7))) (lG (cG aa 3) (some (d7 .Add (cG aa 7) (cY 1))) (some (cG aa 8)))) (lG (cG aa 3) (some (d7 .Add (cG aa 8) (cY 1))) none))]) (cG aa 2)) cU (dF aa))) aa) λaa=>(eJ (uV true)))))))))))
theorem WT:Ok "law" (iZ 125) ["script"] ["urn","tree","tokens","pairs","opened","at","low","high"] (bd 125) NL:=λH _ _ _ _ hC hF hR W aa L a cd=>
 (eh (gt (i:=1) rfl rfl (Jg (ks:=[(("cells":Str),0,⟨767,11,767,18⟩),(("at":Str),0,⟨767,33,767,37⟩),(("fuel":Str),0,⟨767,42,767,48⟩)]) (by simp only[jg,List.map_nil,NB,WM,Qa]) (.cons rfl (oI H hC hF hR W rfl (by rfl')) (.cons rfl wK (.cons rfl wK .nil))) rfl (by simp) (by simp) (by decide))) λaa=>(eh (gt (i:=2) rfl rfl (oI H hC hF hR W rfl (by rfl'))) λaa=>(eh (gt (i:=3) rfl rfl (oI H hC hF hR W rfl (by rfl'))) λaa=>(eh (nX (GX H hC hF hR W rfl (by rfl')) wS ko) λaa=>(eh (gt (i:=4) rfl rfl (oI H hC hF hR W rfl (by rfl'))) λaa=>(eh (gt (i:=5) rfl rfl (oI H hC hF hR W rfl (by rfl'))) λaa=>(eh (Fb W H.Ez Fw Fv rfl (λ_=>rfl) (sY (i:=6) rfl) (oI H hC hF hR W rfl (by rfl')) (λaa=>(eh (nX (GX H hC hF hR W rfl (by rfl')) (Ax H hC hF hR W rfl (by rfl')) ko) λaa=>(oy (nX (GX H hC hF hR W rfl (by rfl')) (oy (CM (wR rfl (oI H hC hF hR W rfl (by rfl')) rfl (Mi (.cons rfl (Tt rfl (oI H hC hF hR W rfl (by rfl'))) (.cons rfl (oI H hC hF hR W rfl (by rfl')) .nil)))) rfl rfl)) ko))))) λaa=>(Ax H hC hF hR W rfl (by rfl')))))))))
end
end
section
set_option tactic.hygienic true
end
section
open PySem.Calls PySem.Spec PyProof.Rows
section
set_option tactic.hygienic true
theorem WU{P:List α->Prop}(h:P []):∀l:List α,l.length=0->P l
 |[],_=>h
 |_::_,e=>nomatch e
theorem NM{k:Nat}{P:List α->Prop}(h:∀v l,l.length=k->P (v::l)):∀l:List α,l.length=k+1->P l
 |[],e=>nomatch e
 |v::l,e=>h v l (Nat.succ.inj e)
theorem YV{P:List α->Prop}(h:∀v0,P [v0]):∀l:List α,l.length=1->P l:=NM λv=>WU (P:=λl=>P (v::l)) (h v)
theorem KL{P:List α->Prop}(h:∀v0 v1,P [v0,v1]):∀l:List α,l.length=2->P l:=NM λv=>YV (P:=λl=>P (v::l)) (h v)
theorem NN{P:List α->Prop}(h:∀v0 v1 v2,P [v0,v1,v2]):∀l:List α,l.length=3->P l:=NM λv=>KL (P:=λl=>P (v::l)) (h v)
theorem aau{P:List α->Prop}(h:∀v0 v1 v2 v3,P [v0,v1,v2,v3]):∀l:List α,l.length=4->P l:=NM λv=>NN (P:=λl=>P (v::l)) (h v)
noncomputable abbrev io:Addr:=106
noncomputable abbrev jM:Addr:=141
noncomputable abbrev pk(a:Addr)(x:Str)(i:Nat):Addr×Str×Nat:=(a,x,i)
def Ue:List (Addr×Str×Nat):=[pk gn "refuse_here" 11,pk eU "token_ahead" 7,pk gz "peek_token" 8,pk eK "take_token" 9,pk jM "here_line" 10,pk fW "take_sign" 14,pk g8 "take_word" 15,pk jp "need_sign" 16,pk jo "need_name" 17,pk gA "tree_parts" 21,pk iT "check_height" 22,pk kS "open_nest" 23,pk jX "close_nest" 24,pk gU "bounded_tree" 25,pk il "is_reserved" 30,pk jq "parse_expr" 37,pk fz "logical_word" 38,pk gg "logical_tree" 39,pk g7 "relation_sign" 40,pk eg "relation_tree" 41,pk gN "member_tree" 42,pk dQ "simple_tree" 43,pk gk "term_tree" 44,pk eM "factor_tree" 45,pk gh "primary_tree" 46,pk jL "name_tree" 48,pk gM "extent_tree" 51,pk gW "parse_choice" 53,pk jm "assoc_here" 54,pk jK "assoc_row" 55,pk gV "bracket_tree" 57,pk iD "refuse_ranges" 58,pk iU "lone_bracket" 59,pk f9 "small_sign" 74,pk fU "is_name_letter" 75,pk fy "is_name_part" 76,pk jn "name_token" 78,pk iV "read_numeral" 79,pk lY "power_of" 80,pk iw "number_token" 81,pk fF "delimiter_token" 85,pk ix "one_token" 86,pk kU "tokens_of" 88,pk dS "logical_sort" 96,pk ik "binding_of" 97,pk dG "show_within" 98,pk iA "show_logical" 99,pk jr "show_chain" 100,pk jY "figures_of" 101,pk jZ "show_based" 102,pk j0 "show_whole" 103,pk iz "show_literal" 106,pk jt "show_named" 110,pk ju "show_range" 112,pk iK "show_member" 113,pk gG "show_expr" 114,pk dh "_law_draw_next" 119,pk dw "_law_grow" 120,pk eX "_law_word" 121,pk fp "_law_free" 122,pk eQ "_law_due" 123,pk iI "_law_heard" 124]
structure WV(G:Gl)(a:Addr)(nm:Str)(pm:Arguments)(bod:List Stmt)(sc:Scope):Prop where
 is:∃T oc od tok m sl,FK G a nm pm bod sc (.ref T)/\G.K.lookup T=some ⟨oc,od,.seq #[.int 0 tok] m,sl⟩
structure HK(G:Gl):Prop extends HG G where
 sH:WV G io "Reader.__init__" (TZ 6 0) (Vu 6 0) (Kt 6 0)
 Cp:WV G dO "is_sign" (Rs 12) (bd 12) (iZ 12)
 Cq:WV G eH "is_word" (Rs 13) (bd 13) (iZ 13)
 ks:∀p ∈ Ue,FK G p.1 p.2.1 (Rs p.2.2) (bd p.2.2) (iZ p.2.2) .none
 S1:FK G 28 "AdaError.__init__" (TZ 1 0) (Vu 1 0) (Kt 1 0) .none
 S2:FK G 67 "SyntaxFault.__init__" (TZ 3 0) (Vu 3 0) (Kt 3 0) .none
 e:Hn G 31 28 67
 xM:GF G "here_line" jM
 mgE:G.mg "Exception"=none
 mgA:G.mg "AdaError"=some (.ref 31)
 rm:makesIn G.K G.rC=true
 ri:findIn G.K (.ref G.rC) "__init__"=some (some (.ref io))
 rf:isFn G.K (.ref io)=true
abbrev Ck(a:Addr)(sem:(Addr->List PV->M PV)->(List PV->M Unit)->(List PV->M PV)->Nat->List PV->M PV):Prop:=∀{G:Gl}(_:HK G){n:Nat}{C:Addr->List PV->M PV}{Cf:List PV->M Unit}{Cr:List PV->M PV}(_:∀a,fK G n a (C a))(_:jS G n gn Cf)(_:fK G n G.rC Cr)(W:Nat),fK G (n+1) a (sem C Cf Cr W)
theorem HK.k(H:HK G)(k:Nat){nm:Str}(e:Ue[k]? =some (a,nm,i)):FK G a nm (Rs i) (bd i) (iZ i) .none:=H.ks _ (gu e)
noncomputable def NO(sc:Scope):Bool:=match sc.kind with| .function=>true|_=>false
def Yd(sc:Scope)(l:List Str):Bool:=(sc.names.all λx=>x.2 != .cell) &&(!sc.isCoroutine &&(!sc.isGenerator &&(NO sc &&(decide l.Nodup && l.all λx=>sc.names.lookup x == some .local))))
theorem NP(h:NO sc=true):sc.kind= .function:=by unfold NO at h;cases e:sc.kind<;>rw[e]at h<;>first|rfl|exact mY h
theorem NQ{l:List Str}(h:Yd sc l=true):WB sc/\l.Nodup/\(l.all λx=>sc.names.lookup x == some .local)=true:=by unfold Yd at h;simp only[ej,Bool.not_eq_true',decide_eq_true_eq]at h;exact⟨⟨h.1,h.2.1,h.2.2.1,NP h.2.2.2.1⟩,h.2.2.2.2⟩
abbrev l9(a:Addr)(k:Nat)(m:Md)(j:Nat):Prop:=Ck a λC Cf Cr W=>semF k (m C Cf Cr W) [] j
def Fn(β:Type)(n:Nat):Type:=Nat.rec β (λ_ t=>Value->t) n
noncomputable def Qr(n:Nat):(List Value->β)->Fn β n:=Nat.rec (motive:=λn=>(List Value->β)->Fn β n) (λf=>f []) (λ_ h f v=>h λl=>f (v::l)) n
theorem Qs{f g:List Value->β}(e:Qr n f=Qr n g):∀l,l.length=n->f l=g l:=by
 induction n generalizing f g with
 |zero=>exact WU e
 |succ n h=>exact NM λv=>h (congrFun e v)
def bA(nm:Str)(i:Nat)(Vs:List Value):=λnm' kV doc pv an cd ct=>bindArgs (fnOf nm' nm (Rs i) (bd i) (iZ i) .none kV doc pv an cd ct) ⟨Vs,[]⟩
noncomputable def bB{γ δ ε ζ η:Type}(ps:List Str)(Vs:List Value):α->β->γ->δ->ε->ζ->η->Sem (List (Str×Value)):=λ_ _ _ _ _ _ _=>pure (ps.zip Vs)
theorem cX(k:Nat){nm:Str}(e:Ue[k]? =some (a,nm,i)){m:Md}(o:Ok nm (iZ i) ps more (bd i) m)(q:autoParam (Yd (iZ i) (ps++more)=true) kr)
  (b:autoParam (Qr ps.length (bA nm i)=Qr ps.length (bB ps)) kr):
  l9 a ps.length m more.length:=λH _ _ _ _ hC hF hR W=>
 wB (NQ q) λq1 q2 q3=>WC (tY (H.k k e) q1 rfl (CS λnm' kV doc pv an cd ct Vs h=>congrFun (congrFun (congrFun (congrFun (congrFun (congrFun (congrFun (Qs b Vs h) nm') kV) doc) pv) an) cd) ct)) q2 q3 λaa L cd=>o H.toHG hC hF hR W aa L _ cd
noncomputable def Js(fd:FuncData)(Vs:List Value):{ k // bindArgs fd ⟨Vs,[]⟩=seqItems? fd.defaults >>= k }:=⟨_,rfl⟩
theorem cD{nm:Str}{pm:Arguments}{bod:List Stmt}{k:Nat}(F:∀{G},HK G->WV G a nm pm bod sc)(q:Yd sc (ps++more)=true)(hp:ps.length=k+1)
  (b:∀nm' T kV doc pv an cd ct tok Vs,Vs.length=k->(Js (fnOf nm' nm pm bod sc (.ref T) kV doc pv an cd ct) Vs).1 (some #[.int 0 tok])=pure (ps.zip (Vs++[.int 0 tok])))
  (b':∀nm' T kV doc pv an cd ct tok Vs,Vs.length=k+1->(Js (fnOf nm' nm pm bod sc (.ref T) kV doc pv an cd ct) Vs).1 (some #[.int 0 tok])=pure (ps.zip (Vs++[]))){m:Md}(o:Ok nm sc ps more bod m):
  Ck a λC Cf Cr W=>pg k (m C Cf Cr W) [.int 0] more.length:=λ{G} H _ _ _ _ hC hF hR W=>
 wB (NQ q) λq1 q2 q3=>by
  obtain⟨T,oc,od,tok,mm,sl,f,ho⟩:=(F H).is
  exact TC (tY f q1 hp λnm' kV doc pv an cd ct s Vs hs hl=>⟨[.int 0 tok],.cons (.int ..) .nil,binds_K (G.KX.keeps hs) rfl ho rfl (Js _ _).2 (b nm' T kV doc pv an cd ct tok Vs hl)⟩)
   (tY f q1 hp λnm' kV doc pv an cd ct s Vs hs hl=>⟨[],.nil,binds_K (G.KX.keeps hs) rfl ho rfl (Js _ _).2 (b' nm' T kV doc pv an cd ct tok Vs hl)⟩) q2 q3 λaa L cd=>o H.toHG hC hF hR W aa L _ cd
theorem xW:Ck io λC Cf Cr W=>pg 2 (kf C Cf Cr W) [.int 0] 0:=
 cD (λH=>H.sH) (by rfl') rfl (λnm T kV doc pv an cd ct tok=>KL λv0 v1=>rfl) (λnm T kV doc pv an cd ct tok=>NN λv0 v1 v2=>rfl) xR
theorem AW:l9 eU 2 lJ 1:=cX 1 rfl AN
theorem Dt:l9 gz 1 mC 0:=cX 2 rfl C1
theorem Du:l9 eK 1 mD 1:=cX 3 rfl C3
theorem FV:l9 jM 1 n3 0:=cX 4 rfl Fz
theorem KM:Ck dO λC Cf Cr W=>pg 2 (qW C Cf Cr W) [.int 0] 0:=
 cD (λH=>H.Cp) (by rfl') rfl (λnm T kV doc pv an cd ct tok=>KL λv0 v1=>rfl) (λnm T kV doc pv an cd ct tok=>NN λv0 v1 v2=>rfl) KG
theorem KN:Ck eH λC Cf Cr W=>pg 2 (qX C Cf Cr W) [.int 0] 0:=
 cD (λH=>H.Cq) (by rfl') rfl (λnm T kV doc pv an cd ct tok=>KL λv0 v1=>rfl) (λnm T kV doc pv an cd ct tok=>NN λv0 v1 v2=>rfl) KH
theorem FW:l9 fW 2 n4 0:=cX 5 rfl FA
theorem FX:l9 g8 2 n5 0:=cX 6 rfl FC
theorem FY:l9 jp 2 n6 0:=cX 7 rfl FD
theorem FZ:l9 jo 1 n7 0:=cX 8 rfl FE
theorem Dv:l9 gA 1 mE 3:=cX 9 rfl C6
theorem zE:l9 iT 2 kW 2:=cX 10 rfl zj
theorem F0:l9 kS 1 n9 0:=cX 11 rfl FF
theorem Dw:l9 jX 1 mF 0:=cX 12 rfl C8
theorem zF:l9 gU 2 kX 0:=cX 13 rfl zk
theorem AX:l9 il 1 lK 0:=cX 14 rfl AP
theorem Dx:l9 jq 1 mG 0:=cX 15 rfl C9
theorem zG:l9 fz 1 kY 0:=cX 16 rfl zl
theorem zH:l9 gg 2 kZ 4:=cX 17 rfl zn
theorem xX:l9 g7 1 kg 1:=cX 18 rfl xS
theorem xY:l9 eg 2 kh 1:=cX 19 rfl xT
theorem AY:l9 gN 1 lL 1:=cX 20 rfl AQ
theorem AZ:l9 dQ 1 lN 2:=cX 21 rfl AR
theorem F1:l9 gk 1 oa 2:=cX 22 rfl FH
theorem Ba:l9 eM 1 lO 2:=cX 23 rfl AS
theorem zI:l9 gh 1 jE 3:=cX 24 rfl zo
theorem F2:l9 jL 1 og 1:=cX 25 rfl FL
theorem Bb:l9 gM 2 lP 0:=cX 26 rfl AT
theorem zJ:l9 gW 1 k6 1:=cX 27 rfl zp
theorem Dy:l9 jm 1 mH 2:=cX 28 rfl Da
theorem F3:l9 jK 1 oh 2:=cX 29 rfl FM
theorem zK:l9 gV 1 k7 2:=cX 30 rfl zq
theorem xZ:l9 iD 2 ki 2:=cX 31 rfl xU
theorem zL:l9 iU 2 k9 1:=cX 32 rfl zt
theorem Dz:l9 f9 1 mI 0:=cX 33 rfl Dc
theorem w9:l9 fU 1 jH 0:=cX 34 rfl w5
theorem zM:l9 fy 1 lf 0:=cX 35 rfl zu
theorem DE:l9 jn 3 mJ 2:=cX 36 rfl De
theorem zN:l9 iV 4 lh 4:=cX 37 rfl zv
theorem HZ:l9 lY 3 pM 5:=cX 38 rfl HU
theorem zO:l9 iw 3 li 10:=cX 39 rfl zx
theorem v4:l9 fF 3 jv 0:=cX 40 rfl vX
theorem F4:l9 ix 4 oi 1:=cX 41 rfl FO
theorem F5:l9 kU 1 oj 4:=cX 42 rfl FQ
theorem zP:l9 dS 1 mK 0:=cX 43 rfl zz
theorem DF:l9 ik 1 mL 0:=cX 44 rfl Dg
theorem Bc:l9 dG 2 lQ 0:=cX 45 rfl AU
theorem zQ:l9 iA 1 lj 4:=cX 46 rfl zA
theorem DG:l9 jr 1 mM 5:=cX 47 rfl Di
theorem DH:l9 jY 3 mN 1:=cX 48 rfl Dk
theorem DI:l9 jZ 3 oX 1:=cX 49 rfl Dm
theorem DJ:l9 j0 1 oY 3:=cX 50 rfl Dn
theorem zR:l9 iz 1 ll 0:=cX 51 rfl zC
theorem DK:l9 jt 1 oZ 1:=cX 52 rfl Dp
theorem DL:l9 ju 1 mO 0:=cX 53 rfl Dr
theorem Bd:l9 iK 1 lR 1:=cX 54 rfl AV
theorem F6:l9 gG 1 l8 1:=cX 55 rfl FS
theorem ya:l9 dh 2 kl 1:=cX 56 rfl xV
theorem H0:l9 dw 2 pN 7:=cX 57 rfl HW
theorem H4:l9 eX 1 rP 0:=cX 58 rfl HX
theorem H5:l9 fp 2 pO 2:=cX 59 rfl HY
theorem KO:l9 eQ 1 nu 4:=cX 60 rfl KJ
theorem F7:l9 iI 1 ol 2:=cX 61 rfl FU
structure CT where
 c:Addr->List PV->M PV
 f:List PV->M Unit
 r:List PV->M PV
def CT0:CT:=⟨λ_ _=>cU,λ_=>cU,λ_=>cU⟩
def Uf(W:Nat)(t:CT)(a:Addr):List PV->M PV:=
  if a=io then pg 2 (kf t.c t.f t.r W) [.int 0] 0 else
  if a=eU then semF 2 (lJ t.c t.f t.r W) [] 1 else
  if a=gz then semF 1 (mC t.c t.f t.r W) [] 0 else
  if a=eK then semF 1 (mD t.c t.f t.r W) [] 1 else
  if a=jM then semF 1 (n3 t.c t.f t.r W) [] 0 else
  if a=dO then pg 2 (qW t.c t.f t.r W) [.int 0] 0 else
  if a=eH then pg 2 (qX t.c t.f t.r W) [.int 0] 0 else
  if a=fW then semF 2 (n4 t.c t.f t.r W) [] 0 else
  if a=g8 then semF 2 (n5 t.c t.f t.r W) [] 0 else
  if a=jp then semF 2 (n6 t.c t.f t.r W) [] 0 else
  if a=jo then semF 1 (n7 t.c t.f t.r W) [] 0 else
  if a=gA then semF 1 (mE t.c t.f t.r W) [] 3 else
  if a=iT then semF 2 (kW t.c t.f t.r W) [] 2 else
  if a=kS then semF 1 (n9 t.c t.f t.r W) [] 0 else
  if a=jX then semF 1 (mF t.c t.f t.r W) [] 0 else
  if a=gU then semF 2 (kX t.c t.f t.r W) [] 0 else
  if a=il then semF 1 (lK t.c t.f t.r W) [] 0 else
  if a=jq then semF 1 (mG t.c t.f t.r W) [] 0 else
  if a=fz then semF 1 (kY t.c t.f t.r W) [] 0 else
  if a=gg then semF 2 (kZ t.c t.f t.r W) [] 4 else
  if a=g7 then semF 1 (kg t.c t.f t.r W) [] 1 else
  if a=eg then semF 2 (kh t.c t.f t.r W) [] 1 else
  if a=gN then semF 1 (lL t.c t.f t.r W) [] 1 else
  if a=dQ then semF 1 (lN t.c t.f t.r W) [] 2 else
  if a=gk then semF 1 (oa t.c t.f t.r W) [] 2 else
  if a=eM then semF 1 (lO t.c t.f t.r W) [] 2 else
  if a=gh then semF 1 (jE t.c t.f t.r W) [] 3 else
  if a=jL then semF 1 (og t.c t.f t.r W) [] 1 else
  if a=gM then semF 2 (lP t.c t.f t.r W) [] 0 else
  if a=gW then semF 1 (k6 t.c t.f t.r W) [] 1 else
  if a=jm then semF 1 (mH t.c t.f t.r W) [] 2 else
  if a=jK then semF 1 (oh t.c t.f t.r W) [] 2 else
  if a=gV then semF 1 (k7 t.c t.f t.r W) [] 2 else
  if a=iD then semF 2 (ki t.c t.f t.r W) [] 2 else
  if a=iU then semF 2 (k9 t.c t.f t.r W) [] 1 else
  if a=f9 then semF 1 (mI t.c t.f t.r W) [] 0 else
  if a=fU then semF 1 (jH t.c t.f t.r W) [] 0 else
  if a=fy then semF 1 (lf t.c t.f t.r W) [] 0 else
  if a=jn then semF 3 (mJ t.c t.f t.r W) [] 2 else
  if a=iV then semF 4 (lh t.c t.f t.r W) [] 4 else
  if a=lY then semF 3 (pM t.c t.f t.r W) [] 5 else
  if a=iw then semF 3 (li t.c t.f t.r W) [] 10 else
  if a=fF then semF 3 (jv t.c t.f t.r W) [] 0 else
  if a=ix then semF 4 (oi t.c t.f t.r W) [] 1 else
  if a=kU then semF 1 (oj t.c t.f t.r W) [] 4 else
  if a=dS then semF 1 (mK t.c t.f t.r W) [] 0 else
  if a=ik then semF 1 (mL t.c t.f t.r W) [] 0 else
  if a=dG then semF 2 (lQ t.c t.f t.r W) [] 0 else
  if a=iA then semF 1 (lj t.c t.f t.r W) [] 4 else
  if a=jr then semF 1 (mM t.c t.f t.r W) [] 5 else
  if a=jY then semF 3 (mN t.c t.f t.r W) [] 1 else
  if a=jZ then semF 3 (oX t.c t.f t.r W) [] 1 else
  if a=j0 then semF 1 (oY t.c t.f t.r W) [] 3 else
  if a=iz then semF 1 (ll t.c t.f t.r W) [] 0 else
  if a=jt then semF 1 (oZ t.c t.f t.r W) [] 1 else
  if a=ju then semF 1 (mO t.c t.f t.r W) [] 0 else
  if a=iK then semF 1 (lR t.c t.f t.r W) [] 1 else
  if a=gG then semF 1 (l8 t.c t.f t.r W) [] 1 else
  if a=dh then semF 2 (kl t.c t.f t.r W) [] 1 else
  if a=dw then semF 2 (pN t.c t.f t.r W) [] 7 else
  if a=eX then semF 1 (rP t.c t.f t.r W) [] 0 else
  if a=fp then semF 2 (pO t.c t.f t.r W) [] 2 else
  if a=eQ then semF 1 (nu t.c t.f t.r W) [] 4 else
  if a=iI then semF 1 (ol t.c t.f t.r W) [] 2 else
  λ_=>cU
def NR(b:Bool)(t:CT)(vs:List PV):M Unit:=if b then(if vs.length=2 then CP (cM (t.c jM) [cG (eR vs [] 0) 0]) (cG (eR vs [] 0) 1)else cU)else cU
noncomputable def CN(W:Nat):Nat->CT
 | 0=>CT0
 |n+1=>⟨Uf W (CN W n),NR (decide (3<=n)) (CN W n),EY ((CN W n).c io)⟩
theorem dU{x:Addr}{s t:List PV->M PV}(h1:fK G n x s)(h2:fK G n a t):fK G n a (if a=x then s else t):=by
 by_cases h:a=x
 ·rw[cH h,h];exact h1
 ·rw[cJ h];exact h2
theorem Ug(H:HK G){t:CT}(hC:∀a,fK G n a (t.c a))(hF:jS G n gn t.f)(hR:fK G n G.rC t.r)(W:Nat)(a:Addr):fK G (n+1) a (Uf W t a):=by
 unfold Uf;exact dU (xW H hC hF hR W) (dU (AW H hC hF hR W) (dU (Dt H hC hF hR W) (dU (Du H hC hF hR W) (dU (FV H hC hF hR W) (dU (KM H hC hF hR W) (dU (KN H hC hF hR W) (dU (FW H hC hF hR W) (dU (FX H hC hF hR W) (dU (FY H hC hF hR W) (dU (FZ H hC hF hR W) (dU (Dv H hC hF hR W) (dU (zE H hC hF hR W) (dU (F0 H hC hF hR W) (dU (Dw H hC hF hR W) (dU (zF H hC hF hR W) (dU (AX H hC hF hR W) (dU (Dx H hC hF hR W) (dU (zG H hC hF hR W) (dU (zH H hC hF hR W) (dU (xX H hC hF hR W) (dU (xY H hC hF hR W) (dU (AY H hC hF hR W) (dU (AZ H hC hF hR W) (dU (F1 H hC hF hR W) (dU (Ba H hC hF hR W) (dU (zI H hC hF hR W) (dU (F2 H hC hF hR W) (dU (Bb H hC hF hR W) (dU (zJ H hC hF hR W) (dU (Dy H hC hF hR W) (dU (F3 H hC hF hR W) (dU (zK H hC hF hR W) (dU (xZ H hC hF hR W) (dU (zL H hC hF hR W) (dU (Dz H hC hF hR W) (dU (w9 H hC hF hR W) (dU (zM H hC hF hR W) (dU (DE H hC hF hR W) (dU (zN H hC hF hR W) (dU (HZ H hC hF hR W) (dU (zO H hC hF hR W) (dU (v4 H hC hF hR W) (dU (F4 H hC hF hR W) (dU (F5 H hC hF hR W) (dU (zP H hC hF hR W) (dU (DF H hC hF hR W) (dU (Bc H hC hF hR W) (dU (zQ H hC hF hR W) (dU (DG H hC hF hR W) (dU (DH H hC hF hR W) (dU (DI H hC hF hR W) (dU (DJ H hC hF hR W) (dU (zR H hC hF hR W) (dU (DK H hC hF hR W) (dU (DL H hC hF hR W) (dU (Bd H hC hF hR W) (dU (F6 H hC hF hR W) (dU (ya H hC hF hR W) (dU (H0 H hC hF hR W) (dU (H4 H hC hF hR W) (dU (H5 H hC hF hR W) (dU (KO H hC hF hR W) (dU (F7 H hC hF hR W) (wW))))))))))))))))))))))))))))))))))))))))))))))))))))))))))))))))
theorem Qt(H:HK G)(A:Around)(s:Shared)(V W:Value)(R:Result->Shared->Prop)(hb:G.h₀.StaysIn s.heap)(hsz:G.h₀.objs.size<=s.heap.objs.size)(hroom:A.depth+3<1000)
  (h:∀h' tk x,(∀b o,s.heap.get? b=some o->h'.get? b=some o)->s.heap.get? x=none->EK G s.heap h' x->R (.ok (.ret (.ref x))) { s with heap:=h',toks:=tk }):codeAny (model G.prog G.w) A (.call (.ref G.fC) ⟨[V,W],[]⟩) R s:=by
 obtain⟨cd1,f1⟩:=tY (ps:=["self","text"]) (k:=2) (ds:=[]) H.S1 ⟨by decide+kernel,rfl,rfl,rfl⟩ rfl (CS λnm kV doc pv an cd ct=>KL λv0 v1=>rfl);obtain⟨cd2,f2⟩:=tY (ps:=["self","line","text"]) (k:=3) (ds:=[]) H.S2 ⟨by decide+kernel,rfl,rfl,rfl⟩ rfl (CS λnm kV doc pv an cd ct=>NN λv0 v1 v2=>rfl);have i1:uS G 28 "AdaError.__init__" (Kt 1 0) cd1 ["self","text"] "Exception" (Vu 1 0):=⟨f1,by decide+kernel,by decide+kernel⟩;have i2:uS G 67 "SyntaxFault.__init__" (Kt 3 0) cd2 ["self","line","text"] "AdaError" (Vu 3 0):=⟨f2,by decide+kernel,by decide+kernel⟩;exact Ho H.e i1 H.mgE rfl i2 H.mgA rfl hb hsz hroom h
theorem Qu(H:HK G){t:CT}(hC:∀a,fK G (n+3) a (t.c a)):jS G (n+4) gn (NR true t):=by
 obtain⟨cd,fn⟩:=tY (ps:=["reader","text"]) (k:=2) (ds:=[]) (H.k 0 rfl) ⟨by decide+kernel,rfl,rfl,rfl⟩ rfl (CS λnm kV doc pv an cd ct=>KL λv0 v1=>rfl)
 exact MK (more:=[]) (m1:=λvs=>cM (t.c jM) [cG (eR vs [] 0) 0]) (m2:=λvs=>cG (eR vs [] 0) 1) H.e (Qt H) fn (by decide+kernel) (by decide+kernel) (by decide+kernel) tq H.sf rfl rfl λvs L _=>
  ⟨Jf H.xM (show(iZ 11).names.lookup ("here_line":Str)=some .globalImplicit by decide+kernel) CX (.cons rfl (vy (i:=0) rfl KE) .nil) (hC _),vy (i:=1) rfl Qq⟩
theorem SI{G:Gl}(H:HK G)(W:Nat):∀n,(∀a,fK G n a ((CN W n).c a))/\jS G n gn (CN W n).f/\fK G n G.rC (CN W n).r
 | 0=>⟨λ_=>wW,y0,wW⟩
 |n+1=>by
  obtain⟨h1,h2,h3⟩:=SI H W n;refine⟨Ug H h1 h2 h3 W,?_,PG H.rm H.ri H.rf (h1 _)⟩;show jS G (n+1) gn (NR (decide (3<=n)) (CN W n));by_cases h:3<=n
  ·obtain⟨k,rfl⟩:∃k,n=k+3:=⟨n -3,by omega⟩;rw[eE h];exact Qu H h1
  ·rw[ft h];exact y0
variable(W n:Nat)
theorem xa:(CN W (n+1)).c io=pg 2 (kf (CN W n).c (CN W n).f (CN W n).r W) [.int 0] 0:=rfl
theorem zS:(CN W (n+1)).c eU=semF 2 (lJ (CN W n).c (CN W n).f (CN W n).r W) [] 1:=rfl
theorem Be:(CN W (n+1)).c gz=semF 1 (mC (CN W n).c (CN W n).f (CN W n).r W) [] 0:=rfl
theorem Bf:(CN W (n+1)).c eK=semF 1 (mD (CN W n).c (CN W n).f (CN W n).r W) [] 1:=rfl
theorem DM:(CN W (n+1)).c jM=semF 1 (n3 (CN W n).c (CN W n).f (CN W n).r W) [] 0:=rfl
theorem H6:(CN W (n+1)).c dO=pg 2 (qW (CN W n).c (CN W n).f (CN W n).r W) [.int 0] 0:=rfl
theorem zT:(CN W (n+1)).c eH=pg 2 (qX (CN W n).c (CN W n).f (CN W n).r W) [.int 0] 0:=rfl
theorem DN:(CN W (n+1)).c fW=semF 2 (n4 (CN W n).c (CN W n).f (CN W n).r W) [] 0:=rfl
theorem DO:(CN W (n+1)).c g8=semF 2 (n5 (CN W n).c (CN W n).f (CN W n).r W) [] 0:=rfl
theorem DP:(CN W (n+1)).c jp=semF 2 (n6 (CN W n).c (CN W n).f (CN W n).r W) [] 0:=rfl
theorem DQ:(CN W (n+1)).c jo=semF 1 (n7 (CN W n).c (CN W n).f (CN W n).r W) [] 0:=rfl
theorem Bg:(CN W (n+1)).c gA=semF 1 (mE (CN W n).c (CN W n).f (CN W n).r W) [] 3:=rfl
theorem yb:(CN W (n+1)).c iT=semF 2 (kW (CN W n).c (CN W n).f (CN W n).r W) [] 2:=rfl
theorem DR:(CN W (n+1)).c kS=semF 1 (n9 (CN W n).c (CN W n).f (CN W n).r W) [] 0:=rfl
theorem Bh:(CN W (n+1)).c jX=semF 1 (mF (CN W n).c (CN W n).f (CN W n).r W) [] 0:=rfl
theorem sA:(CN W (n+1)).c gU=semF 2 (kX (CN W n).c (CN W n).f (CN W n).r W) [] 0:=rfl
theorem zU:(CN W (n+1)).c il=semF 1 (lK (CN W n).c (CN W n).f (CN W n).r W) [] 0:=rfl
theorem Bi:(CN W (n+1)).c jq=semF 1 (mG (CN W n).c (CN W n).f (CN W n).r W) [] 0:=rfl
theorem yc:(CN W (n+1)).c fz=semF 1 (kY (CN W n).c (CN W n).f (CN W n).r W) [] 0:=rfl
theorem yd:(CN W (n+1)).c gg=semF 2 (kZ (CN W n).c (CN W n).f (CN W n).r W) [] 4:=rfl
theorem xb:(CN W (n+1)).c g7=semF 1 (kg (CN W n).c (CN W n).f (CN W n).r W) [] 1:=rfl
theorem xc:(CN W (n+1)).c eg=semF 2 (kh (CN W n).c (CN W n).f (CN W n).r W) [] 1:=rfl
theorem zV:(CN W (n+1)).c gN=semF 1 (lL (CN W n).c (CN W n).f (CN W n).r W) [] 1:=rfl
theorem zW:(CN W (n+1)).c dQ=semF 1 (lN (CN W n).c (CN W n).f (CN W n).r W) [] 2:=rfl
theorem DS:(CN W (n+1)).c gk=semF 1 (oa (CN W n).c (CN W n).f (CN W n).r W) [] 2:=rfl
theorem zX:(CN W (n+1)).c eM=semF 1 (lO (CN W n).c (CN W n).f (CN W n).r W) [] 2:=rfl
theorem ye:(CN W (n+1)).c gh=semF 1 (jE (CN W n).c (CN W n).f (CN W n).r W) [] 3:=rfl
theorem v5:(CN W (n+1)).c jL=semF 1 (og (CN W n).c (CN W n).f (CN W n).r W) [] 1:=rfl
theorem zY:(CN W (n+1)).c gM=semF 2 (lP (CN W n).c (CN W n).f (CN W n).r W) [] 0:=rfl
theorem yf:(CN W (n+1)).c gW=semF 1 (k6 (CN W n).c (CN W n).f (CN W n).r W) [] 1:=rfl
theorem Bj:(CN W (n+1)).c jm=semF 1 (mH (CN W n).c (CN W n).f (CN W n).r W) [] 2:=rfl
theorem DT:(CN W (n+1)).c jK=semF 1 (oh (CN W n).c (CN W n).f (CN W n).r W) [] 2:=rfl
theorem sC:(CN W (n+1)).c gV=semF 1 (k7 (CN W n).c (CN W n).f (CN W n).r W) [] 2:=rfl
theorem xd:(CN W (n+1)).c iD=semF 2 (ki (CN W n).c (CN W n).f (CN W n).r W) [] 2:=rfl
theorem yg:(CN W (n+1)).c iU=semF 2 (k9 (CN W n).c (CN W n).f (CN W n).r W) [] 1:=rfl
theorem Bk:(CN W (n+1)).c f9=semF 1 (mI (CN W n).c (CN W n).f (CN W n).r W) [] 0:=rfl
theorem v6:(CN W (n+1)).c fU=semF 1 (jH (CN W n).c (CN W n).f (CN W n).r W) [] 0:=rfl
theorem yh:(CN W (n+1)).c fy=semF 1 (lf (CN W n).c (CN W n).f (CN W n).r W) [] 0:=rfl
theorem Bl:(CN W (n+1)).c jn=semF 3 (mJ (CN W n).c (CN W n).f (CN W n).r W) [] 2:=rfl
theorem yi:(CN W (n+1)).c iV=semF 4 (lh (CN W n).c (CN W n).f (CN W n).r W) [] 4:=rfl
theorem F8:(CN W (n+1)).c lY=semF 3 (pM (CN W n).c (CN W n).f (CN W n).r W) [] 5:=rfl
theorem yj:(CN W (n+1)).c iw=semF 3 (li (CN W n).c (CN W n).f (CN W n).r W) [] 10:=rfl
theorem pP:(CN W (n+1)).c fF=semF 3 (jv (CN W n).c (CN W n).f (CN W n).r W) [] 0:=rfl
theorem DU:(CN W (n+1)).c ix=semF 4 (oi (CN W n).c (CN W n).f (CN W n).r W) [] 1:=rfl
theorem DV:(CN W (n+1)).c kU=semF 1 (oj (CN W n).c (CN W n).f (CN W n).r W) [] 4:=rfl
theorem yk:(CN W (n+1)).c dS=semF 1 (mK (CN W n).c (CN W n).f (CN W n).r W) [] 0:=rfl
theorem Bm:(CN W (n+1)).c ik=semF 1 (mL (CN W n).c (CN W n).f (CN W n).r W) [] 0:=rfl
theorem zZ:(CN W (n+1)).c dG=semF 2 (lQ (CN W n).c (CN W n).f (CN W n).r W) [] 0:=rfl
theorem yl:(CN W (n+1)).c iA=semF 1 (lj (CN W n).c (CN W n).f (CN W n).r W) [] 4:=rfl
theorem Bn:(CN W (n+1)).c jr=semF 1 (mM (CN W n).c (CN W n).f (CN W n).r W) [] 5:=rfl
theorem Bo:(CN W (n+1)).c jY=semF 3 (mN (CN W n).c (CN W n).f (CN W n).r W) [] 1:=rfl
theorem Bp:(CN W (n+1)).c jZ=semF 3 (oX (CN W n).c (CN W n).f (CN W n).r W) [] 1:=rfl
theorem Bq:(CN W (n+1)).c j0=semF 1 (oY (CN W n).c (CN W n).f (CN W n).r W) [] 3:=rfl
theorem ym:(CN W (n+1)).c iz=semF 1 (ll (CN W n).c (CN W n).f (CN W n).r W) [] 0:=rfl
theorem Br:(CN W (n+1)).c jt=semF 1 (oZ (CN W n).c (CN W n).f (CN W n).r W) [] 1:=rfl
theorem Bs:(CN W (n+1)).c ju=semF 1 (mO (CN W n).c (CN W n).f (CN W n).r W) [] 0:=rfl
theorem z0:(CN W (n+1)).c iK=semF 1 (lR (CN W n).c (CN W n).f (CN W n).r W) [] 1:=rfl
theorem j1:(CN W (n+1)).c gG=semF 1 (l8 (CN W n).c (CN W n).f (CN W n).r W) [] 1:=rfl
theorem xe:(CN W (n+1)).c dh=semF 2 (kl (CN W n).c (CN W n).f (CN W n).r W) [] 1:=rfl
theorem F9:(CN W (n+1)).c dw=semF 2 (pN (CN W n).c (CN W n).f (CN W n).r W) [] 7:=rfl
theorem Ga:(CN W (n+1)).c eX=semF 1 (rP (CN W n).c (CN W n).f (CN W n).r W) [] 0:=rfl
theorem Gb:(CN W (n+1)).c fp=semF 2 (pO (CN W n).c (CN W n).f (CN W n).r W) [] 2:=rfl
theorem H7:(CN W (n+1)).c eQ=semF 1 (nu (CN W n).c (CN W n).f (CN W n).r W) [] 4:=rfl
theorem DW:(CN W (n+1)).c iI=semF 1 (ol (CN W n).c (CN W n).f (CN W n).r W) [] 2:=rfl
end
theorem Qv{vs:List Value}{xs:List Int}(hi:IntsAre vs xs):dD h vs (xs.map .int):=by
 induction hi with
 |nil=>exact .nil
 |cons n t _ ih=>exact .cons (.int n t) ih
def z5:Prop:=∀xs:List Int,xs.length<=63->∃n W σ',n<=500/\NL (CN W n).c (CN W n).f (CN W n).r W (eR [.cl (xs.map .int)] [] 8) []=some (.ok (.ret (.d (.bool true))),σ')
theorem NS(H:HK G)(run:z5){fa l:Addr}{items:List Value}{xs:List Int}{m:Str->Option Value}{Q:Flow->Shared->Prop}
  (F:Fr G.h₀ L h₁ m)(hm:m "script"=some (.ref l))(hl:G.h₀.IsList l items.toArray)(hi:IntsAre items xs)(hlen:xs.length<=63)(hsh:s.heap=h₁)
  (hE:PassesOwn (model G.prog G.w) (callerA.deeper (envOf "law" (iZ 125) L fa cd)) (envOf "law" (iZ 125) L fa cd) E)
  (hQ:∀h' tk',G.h₀.StaysIn h'->Q (.ret (.bool true)) { s with heap:=h',toks:=tk' }):
  wpAny (model G.prog G.w) (callerA.deeper (envOf "law" (iZ 125) L fa cd)) (execs (bd 125) (envOf "law" (iZ 125) L fa cd)) Q E s:=by
 subst hsh;refine o8 (run xs hlen) λn W σ' hn e=> ?_;refine wB (SI H W n) λh1 h2 h3=> ?_
 have C:wI G (callerA.deeper (envOf "law" (iZ 125) L fa cd)) n ⟨"law",iZ 125,L,fa,cd,(["script"]:List Str)++(["urn","tree","tokens","pairs","opened","at","low","high"]:List Str)⟩ [] []:=
  {
   hA:=rfl
   out:=rfl
   kinds:=λe m=>by cases m
   hk:=rfl
   hh:=rfl
   hd:=by show 1+claimMargin+1+n<1000;unfold claimMargin;exact(lE (.t (.a (.a (.a K1 (.k 300)) K1) A0) (.k 1000)) [.l A0 (.k 500)]) hn
   hu:=by show 4+3+16 * n+200<9900;exact(lE (.t (.a (.a (.a (.k 4) (.k 3)) (.l 16 A0)) (.k 200)) (.k 9900)) [.l A0 (.k 500)]) hn
   nd:=(by decide+kernel:((["script"]:List Str)++(["urn","tree","tokens","pairs","opened","at","low","high"]:List Str)).Nodup)
   aa:=λx hx=>by
    have:((["script"]:List Str)++(["urn","tree","tokens","pairs","opened","at","low","high"]:List Str)).all (λx=>(iZ 125).names.lookup x == some .local)=true:=by decide+kernel
    have:=fu.mp this x hx
    simpa using this }
 have S:St G [L] [] [] s.heap:=by refine⟨F.keep,rfl,List.nodup_nil,λk a o h1 _=>by simp at h1,λa m=>(by cases m),λb mb=> ?_,by simp,λb _ m=>by cases m⟩;cases ff.mp mb;refine iO F.ns λo es ep e1 e2 _=> ?_;exact⟨F.above,o,e1,es,ep,e2⟩
 have Lc:uo G s.heap [] ⟨"law",iZ 125,L,fa,cd,(["script"]:List Str)++(["urn","tree","tokens","pairs","opened","at","low","high"]:List Str)⟩ (eR [.cl (xs.map .int)] [] 8):=by
  refine⟨m,F.ns,λi x v e1 e2=> ?_⟩
  match i with
  | 0=>
   have e1:some ("script":Str)=some x:=e1;have e2:some (some (PV.cl (xs.map .int)))=some (some v):=e2;replace e1:=si e1;subst e1;cases e2;exact⟨_,hm,l,items.toArray,rfl,hl,by simpa using Qv hi⟩
  |i+1=>
   have e2:(List.replicate 8 (none:Option PV))[i]? =some (some v):=e2;have:=List.eq_of_mem_replicate (gu e2);exact yr this
 refine WT H.toHG h1 h2 h3 W _ L fa cd _ _ _ _ _ s Q E _ _ hE C S Lc e ?_;intro V h' tk ad' S' p' r';obtain rfl:=Rd.bool_inv r';exact hQ h' tk S'.base
end
section
open PyProof.Rows
section
noncomputable abbrev PP:Program:=PySem.Challenge.pw_xm0009_01
noncomputable def Ay:Pos:=⟨0,0,0,0⟩
def sJ:Env:={ scope:=PP.main.scope,locals:=mainNs,globals:=mainNs,cells:=[],code:= .ref 13,frame:=some 14 }
def sK:Code:= .body (behindTheImports PP) sJ
noncomputable def rQ(tr:BT)(n tk:Nat)(os:OsState):SharedT:=⟨tr,n,{},#[],{},tk,os⟩
def sl(a n:Nat):List Stmt:=((behindTheImports PP).drop a).take n
theorem pc0(w:World)(os:OsState):segRunT treeTable PP w 11 (some (.ref 6)) 1 238 (rQ (X5 w.params) 15 187 os) (piecesOf (sl 0 2) sJ sK ⟨0,0,0,0⟩ [topFrame Ay])=some (.next,rQ (ZL w.params) 35 218 os,sK,⟨2,0,6,24⟩):=by rfl'
theorem pc1(w:World)(os:OsState):segRunT treeTable PP w 11 (some (.ref 6)) 1 247 (rQ (ZL w.params) 35 218 os) (piecesOf (sl 2 1) sJ sK ⟨2,0,6,24⟩ [topFrame Ay])=some (.next,rQ (ZM w.params) 54 244 os,sK,⟨7,0,11,24⟩):=by rfl'
theorem pc2(w:World)(os:OsState):segRunT treeTable PP w 11 (some (.ref 6)) 1 247 (rQ (ZM w.params) 54 244 os) (piecesOf (sl 3 1) sJ sK ⟨7,0,11,24⟩ [topFrame Ay])=some (.next,rQ (ZN w.params) 73 270 os,sK,⟨12,0,16,24⟩):=by rfl'
theorem pc3(w:World)(os:OsState):segRunT treeTable PP w 11 (some (.ref 6)) 1 259 (rQ (ZN w.params) 73 270 os) (piecesOf (sl 4 2) sJ sK ⟨12,0,16,24⟩ [topFrame Ay])=some (.next,rQ (ZO w.params) 92 301 os,sK,⟨24,0,24,8⟩):=by rfl'
theorem pc4(w:World)(os:OsState):segRunT treeTable PP w 11 (some (.ref 6)) 1 389 (rQ (ZO w.params) 92 301 os) (piecesOf (sl 6 6) sJ sK ⟨24,0,24,8⟩ [topFrame Ay])=some (.next,rQ (ZP w.params) 149 385 os,sK,⟨58,0,59,47⟩):=by rfl'
theorem pc5(w:World)(os:OsState):segRunT treeTable PP w 11 (some (.ref 6)) 1 368 (rQ (ZP w.params) 149 385 os) (piecesOf (sl 12 15) sJ sK ⟨58,0,59,47⟩ [topFrame Ay])=some (.next,rQ (ZQ w.params) 226 482 os,sK,⟨113,0,113,8⟩):=by rfl'
theorem pc6(w:World)(os:OsState):segRunT treeTable PP w 11 (some (.ref 6)) 1 399 (rQ (ZQ w.params) 226 482 os) (piecesOf (sl 27 15) sJ sK ⟨113,0,113,8⟩ [topFrame Ay])=some (.next,rQ (ZR w.params) 282 656 os,sK,⟨157,0,172,15⟩):=by rfl'
theorem pc7(w:World)(os:OsState):segRunT treeTable PP w 11 (some (.ref 6)) 1 373 (rQ (ZR w.params) 282 656 os) (piecesOf (sl 42 12) sJ sK ⟨157,0,172,15⟩ [topFrame Ay])=some (.next,rQ (ZS w.params) 366 764 os,sK,⟨283,0,289,37⟩):=by rfl'
theorem pc8(w:World)(os:OsState):segRunT treeTable PP w 11 (some (.ref 6)) 1 373 (rQ (ZS w.params) 366 764 os) (piecesOf (sl 54 20) sJ sK ⟨283,0,289,37⟩ [topFrame Ay])=some (.next,rQ (ZT w.params) 423 870 os,sK,⟨376,0,376,10⟩):=by rfl'
theorem pc9(w:World)(os:OsState):segRunT treeTable PP w 11 (some (.ref 6)) 1 391 (rQ (ZT w.params) 423 870 os) (piecesOf (sl 74 12) sJ sK ⟨376,0,376,10⟩ [topFrame Ay])=some (.next,rQ (S6 w.params) 507 996 os,sK,⟨478,0,483,55⟩):=by rfl'
theorem YW(w:World):∀os:OsState,segRunT treeTable PP w 11 (some (.ref 6)) 1 392 (rQ (S6 w.params) 507 996 os) (piecesOf (sl 86 6) sJ sK ⟨478,0,483,55⟩ [topFrame Ay])=some (.next,rQ (Ph w.params) 543 1102 os,sK,⟨517,0,517,7⟩):=by
 refine byRow2 "special-get-raises" (P:=λw=>∀os:OsState,segRunT treeTable PP w 11 (some (.ref 6)) 1 392 (rQ (S6 w.params) 507 996 os) (piecesOf (sl 86 6) sJ sK ⟨478,0,483,55⟩ [topFrame Ay])=some (.next,rQ (Ph w.params) 543 1102 os,sK,⟨517,0,517,7⟩)) (λw os=> ?_) (λw os=> ?_) w
 ·rfl'
 ·rfl'
theorem YX(w:World):∀os:OsState,segRunT treeTable PP w 11 (some (.ref 6)) 1 380 (rQ (Ph w.params) 543 1102 os) (piecesOf (sl 92 13) sJ sK ⟨517,0,517,7⟩ [topFrame Ay])=some (.next,rQ (S7 w.params) 608 1219 os,sK,⟨584,0,595,63⟩):=by
 refine byRow2 "special-get-raises" (P:=λw=>∀os:OsState,segRunT treeTable PP w 11 (some (.ref 6)) 1 380 (rQ (Ph w.params) 543 1102 os) (piecesOf (sl 92 13) sJ sK ⟨517,0,517,7⟩ [topFrame Ay])=some (.next,rQ (S7 w.params) 608 1219 os,sK,⟨584,0,595,63⟩)) (λw os=> ?_) (λw os=> ?_) w
 ·rfl'
 ·rfl'
theorem YY(w:World)(os:OsState):segRunT treeTable PP w 11 (some (.ref 6)) 1 371 (rQ (S7 w.params) 608 1219 os) (piecesOf (sl 105 15) sJ sK ⟨584,0,595,63⟩ [topFrame Ay])=some (.next,rQ (Vz w.params) 682 1319 os,sK,⟨689,0,694,44⟩):=by rfl'
theorem YZ(w:World)(os:OsState):segRunT treeTable PP w 11 (some (.ref 6)) 1 200 (rQ (Vz w.params) 682 1319 os) (piecesOf (sl 120 6) sJ sK ⟨689,0,694,44⟩ [topFrame Ay])=some (.next,rQ (sI w.params) 724 1386 os,sK,⟨766,0,784,15⟩):=by rfl'
theorem pcA(w:World)(os:OsState):topGo treeTable PP w 11 (some (.ref 6)) 12 ⟨boot_heap w.params,#[],boot_drawn,boot_toks,os⟩ (topStub PP)=some ((rQ (X5 w.params) 15 187 os).abs,⟨denote treeTable sK,sK,Ay,[topFrame Ay]⟩):=by rfl'
theorem pcB(w:World)(os:OsState):segRun treeTable PP w 11 (some (.ref 6)) 1 1 (rQ (X5 w.params) 15 187 os).abs (blockOf (behindTheImports PP) sJ sK Ay [topFrame Ay])=some (.next,(rQ (X5 w.params) 15 187 os).abs,sK,Ay):=by rfl'
theorem pcZ(w:World)(os:OsState):topRun treeTable PP w 11 (some (.ref 6)) 2 (rQ (sI w.params) 724 1386 os).abs ⟨doneF .next,sK,⟨766,0,784,15⟩,[topFrame Ay]⟩=some (rQ (sI w.params) 724 1386 os).abs:=by rfl'
theorem WW:behindTheImports PP=sl 0 2++(sl 2 1++(sl 3 1++(sl 4 2++(sl 6 6++(sl 12 15++(sl 27 15++(sl 42 12++(sl 54 20++(sl 74 12++(sl 86 6++(sl 92 13++(sl 105 15++(sl 120 6++[]))))))))))))):=by rfl'
theorem Qw(w:World)(os:OsState):topRun treeTable PP w 11 (some (.ref 6)) (12+(1+(238+(247+(247+(259+(389+(368+(399+(373+(373+(391+(392+(380+(371+(200+2)))))))))))))))) ⟨boot_heap w.params,#[],boot_drawn,boot_toks,os⟩ (topStub PP)=some (rQ (sI w.params) 724 1386 os).abs:=by refine go_top (pcA w os) ?_;refine piece_block (pcB w os) ?_;have h:=piece_app (segRun_of (pc0 w os)) (piece_app (segRun_of (pc1 w os)) (piece_app (segRun_of (pc2 w os)) (piece_app (segRun_of (pc3 w os)) (piece_app (segRun_of (pc4 w os)) (piece_app (segRun_of (pc5 w os)) (piece_app (segRun_of (pc6 w os)) (piece_app (segRun_of (pc7 w os)) (piece_app (segRun_of (pc8 w os)) (piece_app (segRun_of (pc9 w os)) (piece_app (segRun_of (YW w os)) (piece_app (segRun_of (YX w os)) (piece_app (segRun_of (YY w os)) (piece_app (segRun_of (YZ w os)) (piece_nil (pcZ w os)))))))))))))));rw[<-WW]at h;exact h
end
end
section
open PySem.Calls PySem.Spec PyProof.Rows
section
def qv:Program:={ PP with main:={ PP.main with body:=[Vk 125] } }
def vb:List Str:=((Vy.drop 8).dropLast).map λe=>PySem.Str.ofString e.1
def Gc:DefRec:=⟨PySem.Str.ofString "law",(Rs 125),bd 125,iZ 125,⟨766,0,784,15⟩⟩
def Y0(P:Params):List Obj:=objs P (G0 P) (GW P "law_xm0009_01" 1292 125) (ul 89) (um [vr 51,vr 70,vr 89])
noncomputable def WX:Nat->List Obj->Frag
 |_,[]=>[]
 |i,o::l=>(i,o)::WX (i+1) l
def KK(P:Params):Frag:=WX 0 (Y0 P)
noncomputable def asK:List Addr:=List.range 724
theorem WY(P:Params):asK=(KK P).map (·.1):=by rfl'
abbrev Pb:Hook:=kHook KK asK WY
abbrev RR:RowW:=OpenRow.toRowW PySem.Challenge.rw_xm0009_01.row
def Ye:Shared->Bool:=λs=>xlAt qv [] s && recOk (RowW.records RR) s
theorem opn(w:World):(fencedOpening treeTable PP w 9352).map (λs=>(s.heap,s.gens,s.drawn,s.toks))=some (boot_heap w.params,Array.mk [],boot_drawn,boot_toks):=
 boot_open (by rfl') (by rfl) (λs=>by rfl') w
theorem siz(w:World):((boot_heap w.params).isNs mainGlobals &&(#[]:Array GenState).size == 0,(boot_heap w.params).objs.size,(boot_heap w.params).nsMap mainGlobals "__annotations__")=(true,11,some (.ref 6)):=by rfl'
theorem Uh:defOf qv (PySem.Str.ofString "law")=some (Gc,[]):=by rfl'
theorem Y1:PP.theDef (PySem.Str.ofString "law")=some (Gc.params,Gc.body,Gc.scope):=by rfl'
theorem Y2:kwWritten? Gc.params.kwonlyargs Gc.params.kw_defaults=some []:=by rfl'
theorem WZ:(chainsOk qv && opensWell PP &&(frees RR && RR.within.isEmpty))=true:=by rfl'
theorem W0:(!PySem.Challenge.rw_xm0009_01.row.writes || PySem.Challenge.rw_xm0009_01.row.records.isEmpty)=true:=by rfl'
end
section
set_option tactic.hygienic true
theorem Y3{t:BT}{K:Frag}{life:Life}(h:(List.range n).map (λa=>(t.get a).bind alive)=K.map λp=>some p.2):(List.range n).map (absHeap t n life).get? =K.map λp=>some p.2:=by
 rw[<-h];refine List.map_congr_left λa ha=> ?_;have:=List.mem_map_of_mem (f:=λa=>(t.get a).bind alive) ha;rw[h]at this;obtain⟨p,_,e⟩:=List.mem_map.mp this;cases g:t.get a with
 |none=>rw[g]at e;cases e
 |some o=>rw[abs_get (List.mem_range.mp ha) g];rfl
section
variable(w:World)(os:OsState)
theorem lk1:(staticsOk (importedModules PP.main.body) (boot_heap w.params) (absHeap (sI w.params) 724 {}) && namesBound PP (absHeap (sI w.params) 724 {}) && gensDone ⟨absHeap (sI w.params) 724 {},#[],{},1386,os⟩ && laidKept (boot_heap w.params) (absHeap (sI w.params) 724 {}))=true:=by rfl'
theorem lk2:openSeen qv vb (importedModules PP.main.body) Ye true ⟨absHeap (sI w.params) 724 {},#[],{},1386,os⟩=openGood qv vb:=by rfl'
theorem lk3:(List.range 724).map (λa=>((sI w.params).get a).bind alive)=(KK w.params).map λp=>some p.2:=by rfl'
end
theorem W1(w:World):(λos:OsState=>((staticsOk (importedModules PP.main.body) (boot_heap w.params) (absHeap (sI w.params) 724 {}) && namesBound PP (absHeap (sI w.params) 724 {}) && gensDone ⟨absHeap (sI w.params) 724 {},#[],{},1386,os⟩ && laidKept (boot_heap w.params) (absHeap (sI w.params) 724 {})),
    openSeen qv vb (importedModules PP.main.body) Ye true ⟨absHeap (sI w.params) 724 {},#[],{},1386,os⟩,Pb.obs ⟨absHeap (sI w.params) 724 {},#[],{},1386,os⟩))=λ_=>(true,openGood qv vb,Pb.val w):=funext λos=>Prod.ext (lk1 w os) (Prod.ext (lk2 w os) (Y3 (lk3 w)))
noncomputable def H1(P:Params):Heap:=absHeap (sI P) 724 {}
theorem Ui(w:World)(os:OsState):(rQ (sI w.params) 724 1386 os).abs=⟨H1 w.params,#[],{},1386,os⟩:=rfl
theorem NT(w:World)(os:OsState):topRun treeTable PP w 11 (some (.ref 6)) (12+(1+(238+(247+(247+(259+(389+(368+(399+(373+(373+(391+(392+(380+(371+(200+2)))))))))))))))) ⟨boot_heap w.params,#[],boot_drawn,boot_toks,os⟩ (topStub PP)=some ⟨H1 w.params,#[],{},1386,os⟩:=by rw[Qw w os,Ui]
theorem Y4:LeftO PP qv vb Ye Pb.obs Pb.val 9352:=
 LeftO.of_pieces (H₀:=boot_heap) (H₁:=H1) (gs₀:=#[]) (gs₁:=#[]) (d₀:=boot_drawn) (d₁:={}) (k₀:=boot_toks) (k₁:=1386) (m₀:=11) (ann:=some (.ref 6)) (M:=12+(1+(238+(247+(247+(259+(389+(368+(399+(373+(373+(391+(392+(380+(371+(200+2)))))))))))))))) opn siz NT (by rfl') W1
end
section
set_option tactic.hygienic true
theorem bare:PP.bare:=⟨rfl,rfl,rfl,rfl,rfl,by decide+kernel⟩
theorem wit:RR.promised:=by w_witness2
noncomputable abbrev rq:=PySem.Challenge.rw_xm0009_01
theorem wC:(namesResolve rq.row.prog)=true:=by rfl'
theorem wE:(noRoadLSs { strict:= !(importedModules rq.row.prog.main.body).all cThrough.contains,foot:=none,bare:=(["vars","dir","locals"]:List Str).filter (readsOut rq.row.prog rq.row.prog.main.body) } rq.row.prog.main.body)=true:=by rfl'
theorem wF:(namesMeet rq.row.prog rq.row.prog.main.body λ_ n=>attrL n)=true:=by rfl'
theorem wJ:(noRoadLSs { strict:=true,foot:=some rq.bound',writes:=rq.writes,may:=rq.may } rq.footing)=true:=by rfl'
theorem wO:(namesMeet rq.prog rq.above (λ_ n=> !rq.own.contains n))=true:=by rfl'
theorem wL1:(rq.bound'.all (λn=> !builtinNamed n || rq.about == [n] || !rq.reads n))=true:=by rfl'
theorem wL2:(!rq.writes ||(rq.prog.main.body.flatMap importedNames).all λn=> !rq.reads n)=true:=by rfl'
theorem wL3:((rq.prog.main.body.flatMap importedNames).all (λn=> !rq.reads n ||(drawsOf n rq.prog.main.body).all λmn=>mn.2 !=("attrgetter":Str) && mn.2 !=("methodcaller":Str)))=true:=by rfl'
theorem wM:(namesMeet rq.prog rq.footing (λsc n=>(!(["type","isinstance","issubclass","getattr","hasattr"]:List Str).contains n || sc.names.lookup n == some .globalImplicit) &&
  (rq.may != some n || sc.kind == .module || sc.names.lookup n == some .globalImplicit)))=true:=by rfl'
theorem wP:(namesMeet rq.prog rq.footing λsc n=>sc.kind == .module || sc.names.lookup n != some .globalExplicit)=true:=by rfl'
theorem Uj:PySem.Challenge.rw_xm0009_01.wellSaid=true:=by
 unfold OpenLaw.wellSaid OpenRow.wellSaid OpenRow.partSaid looksOpen
 repeat' with_reducible refine look_both ?_ ?_
 all_goals first|with_reducible exact wC|with_reducible exact wE|with_reducible exact wF|with_reducible exact wJ|with_reducible exact wO|with_reducible exact wL1|with_reducible exact wL2|with_reducible exact wL3|with_reducible exact wM|with_reducible exact wP|rfl'
end
end
inductive Tk where
 |op (s:List Nat)
 |word (s:List Nat)
 |name (s:List Nat)
 |int (i:Nat)
 deriving DecidableEq
noncomputable def Tk.str:Tk->List Nat
 | .op s=>s
 | .word s=>s
 | .name s=>s
 | .int _=>[]
inductive Tr where
 |name (s:List Nat)
 |num (i:Nat)
 |un (w:List Nat) (t:Tr)
 |bin (w:List Nat) (a b:Tr)
 |sc (w:List Nat) (a b:Tr)
 |mem (w:List Nat) (t m:Tr)
 |rng (a b:Tr)
 |pn (t:Tr)
inductive Wd where
 |leaf
 |high
 |scaled
 |added
 |sign
 |met
 |lg (w:List Nat)
 deriving DecidableEq
theorem Wd.lg.inj{a b:List Nat}(h:Wd.lg a=Wd.lg b):a=b:=by cases h;rfl
@[simp] theorem Wd.lg.injEq{a b:List Nat}:(Wd.lg a=Wd.lg b)=(a=b):=propext ⟨Wd.lg.inj,dN _⟩
def m7:List (List Nat):=[Fj,zf,Fk,zg,Fo,zh]
def pZ:List (List Nat):=[i8,iR,AI]
def oJ:List (List Nat):=[AJ,AK,qf,qg]
def cls(w:List Nat):Wd:=if w=gC then .high else if w ∈ m7 then .met else if w ∈ pZ then .added else if w ∈ oJ then .scaled else .lg w
def wd:Tr->Wd
 | .un w _=>if w=i8\/w=iR then .sign else .high
 | .bin w _ _=>cls w
 | .sc w _ _=> .lg w
 | .mem .. => .met
 |_=> .leaf
theorem oK(w:List Nat)(t:Tr):wd (.un w t)=if w=i8\/w=iR then .sign else .high:=rfl
theorem nv(w:List Nat)(a b:Tr):wd (.bin w a b)=cls w:=rfl
noncomputable def Wd.lvl:Wd->Nat
 | .leaf=>0
 | .high=>1
 | .scaled=>2
 | .added=>3
 | .sign=>3
 | .met=>4
 | .lg _=>5
def ew(n:Nat)(t:Tr):Nat:=if(wd t).lvl<=n then 0 else 1
def km(w:List Nat)(t:Tr):Nat:=if(wd t).lvl<=4\/wd t= .lg w then 0 else 1
def mP(c:Wd)(t:Tr):Nat:=match c with
 | .high=>ew 0 t
 | .scaled=>ew 2 t
 | .added=>ew 3 t
 | .met=>ew 3 t
 | .lg w=>km w t
 |_=>0
def kE(c:Wd)(t:Tr):Nat:=match c with
 | .high=>ew 0 t
 | .scaled=>ew 1 t
 | .added=>ew 2 t
 | .met=>ew 3 t
 | .lg _=>ew 4 t
 |_=>0
def vc(w:List Nat)(t:Tr):Nat:=if w=i8\/w=iR then ew 2 t else ew 0 t
noncomputable def gs:Tr->Nat
 | .name _=>0
 | .num _=>0
 | .un w t=>gs t+vc w t
 | .bin w a b=>gs a+mP (cls w) a+(gs b+kE (cls w) b)
 | .sc w a b=>gs a+km w a+(gs b+ew 4 b)
 | .mem _ t m=>gs t+ew 3 t+gs m
 | .rng a b=>gs a+ew 3 a+(gs b+ew 3 b)
 | .pn t=>gs t
abbrev Ps:=List Tk->Option (Tr×List Tk)
noncomputable def gK(s:List Nat):List Tk->Bool
 | .op x::_=>x == s
 |_=>false
noncomputable def fV(s:List Nat):List Tk->Bool
 | .word x::_=>x == s
 |_=>false
def oq:List Tk->List Nat
 |t::_=>t.str
 |[]=>[]
def nc(B:Ps):Ps
 | .int i::l=>some (.num i,l)
 | .name s::l=>some (.name s,l)
 | .op s::l=>if s=fT then B l else none
 |_=>none
def gX(B:Ps):Ps:=λl=>
 if fV ji l || fV gc l then(nc B l.tail).map λx=>(.un (oq l) x.1,x.2)
 else(nc B l).bind λx=>if gK gC x.2 then(nc B x.2.tail).map λy=>(.bin gC x.1 y.1,y.2)else some x
def nw(l:List Tk):Bool:=gK AJ l || gK AK l || fV qf l || fV qg l
noncomputable def mQ(B:Ps):Nat->Tr->Ps
 | 0,_,_=>none
 |k+1,acc,l=>if nw l then(gX B l.tail).bind λy=>mQ B k (.bin (oq l) acc y.1) y.2 else some (acc,l)
def mc(B:Ps)(N:Nat):Ps:=λl=>(gX B l).bind λx=>mQ B N x.1 x.2
def qZ(l:List Tk):Bool:=gK i8 l || gK iR l || gK AI l
noncomputable def lT(B:Ps)(N:Nat):Nat->Tr->Ps
 | 0,_,_=>none
 |k+1,acc,l=>if qZ l then(mc B N l.tail).bind λy=>lT B N k (.bin (oq l) acc y.1) y.2 else some (acc,l)
def vd(l:List Tk):Bool:=gK i8 l || gK iR l
def eq(B:Ps)(N:Nat):Ps:=λl=>
 if vd l then(mc B N l.tail).bind λx=>lT B N N (.un (oq l) x.1) x.2
 else(mc B N l).bind λx=>lT B N N x.1 x.2
def jN:List Tk->Bool
 | .op s::_=>decide (s ∈ m7)
 |_=>false
noncomputable def yn:Tr->Bool
 | .name _=>true
 |_=>false
def xf(B:Ps)(N:Nat):Ps:=λl=>(eq B N l).bind λx=>
 if gK jD x.2 then(eq B N x.2.tail).map λy=>(.rng x.1 y.1,y.2)
 else if yn x.1 then some x else none
def noRel(x:Tr×List Tk):Option (Tr×List Tk):=if jN x.2 then none else some x
def mf(B:Ps)(N:Nat)(x:Tr):Ps:=λl=>
 if jN l then(eq B N l.tail).bind λy=>noRel (.bin (oq l) x y.1,y.2)
 else if fV fY l then(xf B N l.tail).bind λy=>noRel (.mem fY x y.1,y.2)
 else if fV gc l && fV fY l.tail then(xf B N l.tail.tail).bind λy=>noRel (.mem fM x y.1,y.2)
 else some (x,l)
def fZ(l:List Tk):List Nat×Nat:=
 if fV f8 l then(if fV nn l.tail then(eA,2)else(f8,1))
 else if fV iH l then(if fV nq l.tail then(fg,2)else(iH,1))
 else if fV gf l then(gf,1)
 else(hG,0)
noncomputable def Gd(w:List Nat)(c:Nat)(a b:Tr):Tr:=if c=2 then .sc w a b else .bin w a b
noncomputable def nf(B:Ps)(N:Nat)(first:List Nat):Nat->Tr->Ps
 | 0,_,_=>none
 |k+1,acc,l=>
  if(fZ l).1=hG then some (acc,l)
  else if(fZ l).1≠first then none
  else(eq B N (l.drop (fZ l).2)).bind λy=>(mf B N y.1 y.2).bind λz=>nf B N first k (Gd (fZ l).1 (fZ l).2 acc z.1) z.2
def ve(B:Ps)(N:Nat)(x:Tr):Ps:=λl=>nf B N (fZ l).1 N x l
def ng(B:Ps)(N:Nat):Ps:=λl=>(eq B N l).bind λx=>(mf B N x.1 x.2).bind λy=>ve B N y.1 y.2
def mR(B:Ps)(N:Nat):Ps:=λl=>(eq B N l).bind λx=>
 if gK jD x.2 then(eq B N x.2.tail).map λy=>(.rng x.1 y.1,y.2)
 else(mf B N x.1 x.2).bind λy=>ve B N y.1 y.2
noncomputable def q0:Tr->Bool
 | .rng .. =>true
 |_=>false
def v7(t:Tr):Tr:=if yn t then .pn t else t
def Vv(B:Ps)(N:Nat):Ps:=λl=>(mR B N l).bind λx=>
 if q0 x.1 then none else if gK eY x.2 then some (v7 x.1,x.2.tail)else none
noncomputable def pB(N:Nat):Nat->Ps
 | 0=>λ_=>none
 |m+1=>Vv (pB N m) N
def gq(l:List Tk):Nat:=l.countP (· == .op fT)
theorem xg(n:Nat)(t:Tr):ew n t<=1:=by unfold ew;split<;>exact fq rfl
theorem tK{m:Nat}(h:m<=n)(t:Tr):ew n t<=ew m t:=by unfold ew;split<;>split<;>(first|exact fq rfl|omega)
theorem gY(l:List Tk):gq l.tail<=gq l:=by
 cases l with
 |nil=>simp
 |cons x l=>unfold gq;simp[List.countP_cons]
theorem H8(n:Nat)(l:List Tk):gq (l.drop n)<=gq l:=by
 induction n generalizing l with
 |zero=>simp
 |succ n ih=>cases l with
  |nil=>simp
  |cons x l=>exact gp (ih l) (gY (x::l))
theorem DX{s:List Nat}{l:List Tk}(h:fV s l=true):oq l=s:=by
 unfold fV at h;split at h
 ·simpa [oq,Tk.str] using h
 ·exact mY h
theorem yA{s:List Nat}{l:List Tk}(h:gK s l=true):oq l=s:=by
 unfold gK at h;split at h
 ·simpa [oq,Tk.str] using h
 ·exact mY h
theorem j2{o:Option α}{f:α->Option β}{b:β}(h:o.bind f=some b):∃a,o=some a/\f a=some b:=by
 cases o with
 |none=>exact eC h
 |some a=>exact⟨a,rfl,h⟩
theorem BZ{o:Option α}{f:α->β}{b:β}(h:o.map f=some b):∃a,o=some a/\f a=b:=by
 cases o with
 |none=>exact eC h
 |some a=>exact⟨a,rfl,by simpa using h⟩
theorem Y5:cls gC= .high:=by decide
theorem re(h:w ∈ oJ):cls w= .scaled:=by simp only[oJ,dj,dJ,dK]at h;rcases h with rfl|rfl|rfl|rfl<;>decide
theorem t9(h:w ∈ pZ):cls w= .added:=by simp only[pZ,dj,dJ,dK]at h;rcases h with rfl|rfl|rfl<;>decide
theorem ua(h:w ∈ m7):cls w= .met:=by simp only[m7,dj,dJ,dK]at h;rcases h with rfl|rfl|rfl|rfl|rfl|rfl<;>decide
theorem KP{l:List Tk}(h:nw l=true):oq l ∈ oJ:=by
 unfold nw at h;simp only[j9]at h;rcases h with((q|q)|q)|q
 ·rw[yA q];decide
 ·rw[yA q];decide
 ·rw[DX q];decide
 ·rw[DX q];decide
theorem NU{l:List Tk}(h:qZ l=true):oq l ∈ pZ:=by unfold qZ at h;simp only[j9]at h;rcases h with(q|q)|q<;>rw[yA q]<;>decide
theorem Jt{l:List Tk}(h:vd l=true):oq l=i8\/oq l=iR:=by unfold vd at h;simp only[j9]at h;rcases h with q|q<;>rw[yA q]<;>simp
theorem Ge{l:List Tk}(h:jN l=true):oq l ∈ m7:=by
 unfold jN at h;split at h
 ·simpa [oq,Tk.str] using h
 ·exact mY h
theorem Qx(w:List Nat)(t:Tr):km w t<=ew 4 t:=by unfold km ew;split<;>split<;>first|(first|exact fq rfl|omega)|(rename_i h1 h2;exact absurd (.inl h2) h1)
theorem Pc{α:Sort _}{P:α->Prop}{c:Prop} [Decidable c]{a b:α}(h:c->P a)(k:¬ c->P b):P (if c then a else b):=by
 by_cases q:c
 ·rw[cH q];exact h q
 ·rw[cJ q];exact k q
def W2(p:List Nat×Nat):Prop:=p.1≠hG->(p.2=2/\∀a b,wd (.sc p.1 a b)= .lg p.1)\/(p.2=1/\cls p.1= .lg p.1)
theorem NV(l:List Tk):(fZ l).1≠hG->((fZ l).2=2/\∀a b,wd (.sc (fZ l).1 a b)= .lg (fZ l).1)\/((fZ l).2=1/\cls (fZ l).1= .lg (fZ l).1):=
 Pc (P:=W2) (λ_=>Pc (P:=W2) (λ_ _=> .inl ⟨rfl,λ_ _=>rfl⟩) λ_ _=> .inr ⟨rfl,by decide⟩)
  λ_=>Pc (P:=W2) (λ_=>Pc (P:=W2) (λ_ _=> .inl ⟨rfl,λ_ _=>rfl⟩) λ_ _=> .inr ⟨rfl,by decide⟩)
  λ_=>Pc (P:=W2) (λ_ _=> .inr ⟨rfl,by decide⟩) λ_ h=>absurd rfl h
theorem KQ(t:Tr):gs (v7 t)=gs t:=by unfold v7;split<;>rfl
structure Yg(X:List Tk->Tr->List Tk->Prop)(Y:Tr->Prop)(P:Nat->List Nat->List Tk->Tr->List Tk->Prop):Prop where
 num:∀{i l},P 0 [] (.int i::l) (.num i) l
 name:∀{s l},P 0 [] (.name s::l) (.name s) l
 br:∀{l t r},X l t r->P 0 [] (.op fT::l) t r
 un:∀{l x r},(fV ji l || fV gc l)=true->P 0 [] l.tail x r->P 1 [] l (.un (oq l) x) r
 pow:∀{l x r y q},P 0 [] l x r->gK gC r=true->P 0 [] r.tail y q->P 1 [] l (.bin gC x y) q
 u0:∀{l x r},P 0 [] l x r->P 1 [] l x r
 u1:∀{l x r},P 1 [] l x r->P 2 [] l x r
 mul:∀{l x r y q},P 2 [] l x r->nw r=true->P 1 [] r.tail y q->P 2 [] l (.bin (oq r) x y) q
 u2:∀{l x r},P 2 [] l x r->P 3 [] l x r
 sg:∀{l x r},vd l=true->P 2 [] l.tail x r->P 3 [] l (.un (oq l) x) r
 add:∀{l x r y q},P 3 [] l x r->qZ r=true->P 2 [] r.tail y q->P 3 [] l (.bin (oq r) x y) q
 sd:∀{l x},Y x->P 3 [] l x l
 rng:∀{l x r y q},P 3 [] l x r->gK jD r=true->P 3 [] r.tail y q->P 7 [] l (.rng x y) q
 mn:∀{l x r},P 3 [] l x r->yn x=true->P 7 [] l x r
 u3:∀{l x r},P 3 [] l x r->P 4 [] l x r
 rel:∀{l x r y q},P 3 [] l x r->jN r=true->P 3 [] r.tail y q->P 4 [] l (.bin (oq r) x y) q
 mem:∀{l x r y q},P 3 [] l x r->fV fY r=true->P 7 [] r.tail y q->P 4 [] l (.mem fY x y) q
 nmem:∀{l x r y q},P 3 [] l x r->(fV gc r && fV fY r.tail)=true->P 7 [] r.tail.tail y q->P 4 [] l (.mem fM x y) q
 u4:∀{w l x r},P 4 [] l x r->P 5 w l x r
 lg:∀{w l x r y q},P 5 w l x r->¬(fZ r).1=hG->(fZ r).1=w->P 4 [] (r.drop (fZ r).2) y q->P 5 w l (Gd (fZ r).1 (fZ r).2 x y) q
 u5:∀{w l x r},P 5 w l x r->P 6 [] l x r
 u7:∀{l x r},P 7 [] l x r->P 6 [] l x r
def tL(o:Option (Tr×List Tk))(Q:Tr->List Tk->Prop):Prop:=∀t r,o=some (t,r)->Q t r
section
variable{Q R:Tr->List Tk->Prop}
theorem tL.none:tL none Q:=λ_ _ e=>eC e
theorem tL.some{t r}(h:Q t r):tL (some (t,r)) Q:=λt' r' e=>(Prod.mk.inj (si e)).1▸(Prod.mk.inj (si e)).2▸h
theorem tL.ite{c:Prop} [Decidable c]{a b}(h:c->tL a Q)(k:¬ c->tL b Q):tL (if c then a else b) Q:=by
 by_cases q:c
 ·rw[cH q];exact h q
 ·rw[cJ q];exact k q
theorem tL.bind{p:Option (Tr×List Tk)}{f}(hp:tL p R)(h:∀x q,R x q->tL (f (x,q)) Q):tL (p.bind f) Q:=by
 cases p with
 |none=>exact .none
 |some a=>exact h a.1 a.2 (hp _ _ rfl)
theorem tL.map{p:Option (Tr×List Tk)}{f:Tr×List Tk->Tr×List Tk}(hp:tL p R)(h:∀x q,R x q->Q (f (x,q)).1 (f (x,q)).2):tL (p.map f) Q:=by
 cases p with
 |none=>exact .none
 |some a=>exact .some (h a.1 a.2 (hp _ _ rfl))
theorem tL.mono{p}(hp:tL p R)(h:∀x q,R x q->Q x q):tL p Q:=λt r e=>h t r (hp t r e)
theorem tL.noRel{x r}(h:Q x r):tL (noRel (x,r)) Q:= .ite (λ_=> .none) λ_=> .some h
end
section
variable{X:List Tk->Tr->List Tk->Prop}{Y:Tr->Prop}{P:Nat->List Nat->List Tk->Tr->List Tk->Prop}(Al:Yg X Y P){B:Ps}{N:Nat}(hB:∀l t r,B l=some (t,r)->X l t r)
include Al hB
theorem DY(l:List Tk):tL (nc B l) (P 0 [] l):=by
 cases l with
 |nil=>exact .none
 |cons k l=>cases k with
  |int i=>exact .some Al.num
  |name s=>exact .some Al.name
  |op s=>exact tL.ite (λc=>c▸λt r e=>Al.br (hB _ _ _ e)) λ_=> .none
  |_=>exact .none
theorem xh(l:List Tk):tL (gX B l) (P 1 [] l):=
 .ite (λc=> .map (DY Al hB _) λx q h=>Al.un c h) λ_=> .bind (DY Al hB _) λx q h=> .ite (λc=> .map (DY Al hB _) λy p k=>Al.pow h c k) λ_=> .some (Al.u0 h)
theorem NW{m:List Tk}(k:Nat):∀acc l,P 2 [] m acc l->tL (mQ B k acc l) (P 2 [] m):=by
 induction k with
 |zero=>exactλ_ _ _=> .none
 |succ k ih=>exactλacc l h=> .ite (λc=> .bind (xh Al hB _) λy q k=>ih _ _ (Al.mul h c k)) λ_=> .some h
theorem yB(l:List Tk):tL (mc B N l) (P 2 [] l):= .bind (xh Al hB _) λx q h=>NW Al hB _ _ _ (Al.u1 h)
theorem Gf{m:List Tk}(k:Nat):∀acc l,P 3 [] m acc l->tL (lT B N k acc l) (P 3 [] m):=by
 induction k with
 |zero=>exactλ_ _ _=> .none
 |succ k ih=>exactλacc l h=> .ite (λc=> .bind (yB Al hB _) λy q k=>ih _ _ (Al.add h c k)) λ_=> .some h
theorem lA(l:List Tk):tL (eq B N l) (P 3 [] l):=
 .ite (λc=> .bind (yB Al hB _) λx q h=>Gf Al hB _ _ _ (Al.sg c h)) λ_=> .bind (yB Al hB _) λx q h=>Gf Al hB _ _ _ (Al.u2 h)
theorem NX(l:List Tk):tL (xf B N l) (P 7 [] l):=
 .bind (lA Al hB _) λx q h=> .ite (λc=> .map (lA Al hB _) λy p k=>Al.rng h c k) λ_=> .ite (λc=> .some (Al.mn h c)) λ_=> .none
theorem DZ{m:List Tk}{x:Tr}{l:List Tk}(h:P 3 [] m x l):tL (mf B N x l) (P 4 [] m):=
 .ite (λc=> .bind (lA Al hB _) λy p k=> .noRel (Al.rel h c k)) λ_=> .ite (λc=> .bind (NX Al hB _) λy p k=> .noRel (Al.mem h c k)) λ_=> .ite (λc=> .bind (NX Al hB _) λy p k=> .noRel (Al.nmem h c k)) λ_=> .some (Al.u3 h)
theorem NY{m:List Tk}(k:Nat):∀acc l,P 5 w m acc l->tL (nf B N w k acc l) (P 5 w m):=by
 induction k with
 |zero=>exactλ_ _ _=> .none
 |succ k ih=>exactλacc l h=> .ite (λ_=> .some h) λc=> .ite (λ_=> .none) λc2=> .bind (lA Al hB _) λy q k=> .bind (DZ Al hB k) λz p k=>ih _ _ (Al.lg h c (Classical.not_not.mp c2) k)
theorem NZ{m:List Tk}{x:Tr}{l:List Tk}(h:P 4 [] m x l):tL (ve B N x l) (P 6 [] m):=(NY Al hB N _ _ (Al.u4 h)).mono λ_ _=>Al.u5
theorem Ju(l:List Tk):tL (ng B N l) (P 6 [] l):= .bind (lA Al hB _) λx q h=> .bind (DZ Al hB h) λy p k=>NZ Al hB k
theorem B1(l:List Tk):tL (mR B N l) (P 6 [] l):=
 .bind (lA Al hB _) λx q h=> .ite (λc=> .map (lA Al hB _) λy p k=>Al.u7 (Al.rng h c k)) λ_=> .bind (DZ Al hB h) λy p k=>NZ Al hB k
theorem N0(l:List Tk):tL (Vv B N l) λt r=>∃x q,P 6 [] l x q/\t=v7 x/\r=q.tail:=
 .bind (B1 Al hB _) λx q h=> .ite (λ_=> .none) λ_=> .ite (λ_=> .some ⟨x,q,h,rfl,rfl⟩) λ_=> .none
end
def pn(n:Nat)(w:List Nat)(t:Tr):Nat:=if n=5 then km w t else if 5<n then 0 else ew n t
theorem Gg{t:Tr}{c:Wd}(h:wd t=c)(k:c.lvl<=n):ew n t=0:=by unfold ew;rw[h,cH k]
theorem Jv{X:List Tk->Tr->List Tk->Prop}(hX:∀{l t r},X l t r->gs t+gq r<=gq l):Yg X (λ_=>False) λn w l t r=>gs t+pn n w t+gq r<=gq l where
 num:=λ{i l}=>by have h:gq l<=gq (.int i::l):=gY (.int i::l);exact(pQ:Pn [_,_] (.l (.a (.a (.k 0) (.k 0)) A0) A1) [.l A0 A1]) h
 name:=λ{s l}=>by have h:gq l<=gq (.name s::l):=gY (.name s::l);exact(pQ:Pn [_,_] (.l (.a (.a (.k 0) (.k 0)) A0) A1) [.l A0 A1]) h
 br:=λ{l t r} h=>by
  have h1:=hX h;have h2:=xg 0 t;have h3:gq (.op fT::l)=gq l+1:=by unfold gq;rw[List.countP_cons];rfl
  show gs t+ew 0 t+gq r<=_;rw[h3];exact(pQ:Pn [_,_,_,_] (.l (.a (.a A0 A3) A1) (.a A2 (.k 1))) [.l (.a A0 A1) A2,.l A3 (.k 1)]) h1 h2
 un:=λ{l x r} c ih=>by
  have h2:=gY l
  have h3:¬(oq l=i8\/oq l=iR):=by rw[j9]at c;rcases c with q|q<;>rw[DX q]<;>decide
  show gs x+vc (oq l) x+ew 1 (.un (oq l) x)+gq r<=_;rw[Gg ((oK ..).trans (cJ h3)) (ip 1),show vc (oq l) x=ew 0 x from cJ h3];exact VJ ih h2
 pow:=λ{l x r y q} i1 c i2=>G2 i1 i2 (gY r)
 u0:=λ{l x r} ih=>LZ ih (tK (Nat.le_succ 0) x)
 u1:=λ{l x r} ih=>LZ ih (tK (Nat.le_succ 1) x)
 mul:=λ{l x r y q} i1 c i2=>by have h4:cls (oq r)= .scaled:=re (KP c);show gs x+mP (cls (oq r)) x+(gs y+kE (cls (oq r)) y)+ew 2 (.bin (oq r) x y)+gq q<=_;rw[Gg ((nv ..).trans h4) (ip 2),h4];exact G2 i1 i2 (gY r)
 u2:=λ{l x r} ih=>LZ ih (tK (Nat.le_succ 2) x)
 sg:=λ{l x r} c ih=>by have h2:=gY l;show gs x+vc (oq l) x+ew 3 (.un (oq l) x)+gq r<=_;rw[Gg ((oK ..).trans (cH (Jt c))) (ip 3),show vc (oq l) x=ew 2 x from cH (Jt c)];exact VJ ih h2
 add:=λ{l x r y q} i1 c i2=>by have h4:cls (oq r)= .added:=t9 (NU c);show gs x+mP (cls (oq r)) x+(gs y+kE (cls (oq r)) y)+ew 3 (.bin (oq r) x y)+gq q<=_;rw[Gg ((nv ..).trans h4) (ip 3),h4];exact G2 i1 i2 (gY r)
 sd:=λh=>h.elim
 rng:=λ{l x r y q} i1 c i2=>G2 i1 i2 (gY r)
 mn:=λ{l x r} ih c=>(pQ:Pn [_,_,_,_] (.l (.a (.a A0 (.k 0)) A2) A3) [.l (.a (.a A0 A1) A2) A3]) ih
 u3:=λ{l x r} ih=>LZ ih (tK (Nat.le_succ 3) x)
 rel:=λ{l x r y q} i1 c i2=>by have h4:cls (oq r)= .met:=ua (Ge c);show gs x+mP (cls (oq r)) x+(gs y+kE (cls (oq r)) y)+ew 4 (.bin (oq r) x y)+gq q<=_;rw[Gg ((nv ..).trans h4) (ip 4),h4];exact G2 i1 i2 (gY r)
 mem:=λ{l x r y q} i1 c i2=>(pQ:Pn [_,_,_,_,_,_,_] (.l (.a (.a (.a (.a A0 A1) A4) (.k 0)) A5) A3) [.l (.a (.a A0 A1) A2) A3,.l (.a (.a A4 (.k 0)) A5) A6,.l A6 A2]) i1 i2 (gY r)
 nmem:=λ{l x r y q} i1 c i2=>(pQ:Pn [_,_,_,_,_,_,_] (.l (.a (.a (.a (.a A0 A1) A4) (.k 0)) A5) A3) [.l (.a (.a A0 A1) A2) A3,.l (.a (.a A4 (.k 0)) A5) A6,.l A6 A2]) i1 i2 (gp (gY r.tail) (gY r))
 u4:=λ{w l x r} ih=>LZ ih (Qx w x)
 lg:=λ{w l x r y q} i1 c e i2=>by
  have h4:=H8 (fZ r).2 r;rcases NV r c with⟨k,_⟩|⟨k,k2⟩
  ·rw[k]at i2 h4 ⊢;subst e;show gs x+km (fZ r).1 x+(gs y+ew 4 y)+km (fZ r).1 (.sc (fZ r).1 x y)+gq q<=_;rw[show km (fZ r).1 (.sc (fZ r).1 x y)=0 from cH (.inr rfl)];exact G2 i1 i2 h4
  ·rw[k]at i2 h4 ⊢;subst e;show gs x+mP (cls (fZ r).1) x+(gs y+kE (cls (fZ r).1) y)+km (fZ r).1 (.bin (fZ r).1 x y)+gq q<=_;rw[show km (fZ r).1 (.bin (fZ r).1 x y)=0 from cH (.inr k2),k2];exact G2 i1 i2 h4
 u5:=λ{w l x r} ih=>(pQ:Pn [_,_,_,_] (.l (.a (.a A0 (.k 0)) A2) A3) [.l (.a (.a A0 A1) A2) A3]) ih
 u7:=λ{l x r} ih=>ih
theorem Uk(N m:Nat):∀l t r,pB N m l=some (t,r)->gs t+gq r<=gq l:=by
 induction m with
 |zero=>exactλl t r e=>eC e
 |succ m ih=>
  intro l t r e;refine iJ (N0 (Jv (X:=λl t r=>pB N m l=some (t,r)) (ih _ _ _)) (λ_ _ _ e=>e) l t r e) λx q h e1 e2=> ?_;rw[e1,e2,KQ];exact(pQ:Pn [_,_,_,_] (.l (.a A0 A3) A2) [.l (.a (.a A0 (.k 0)) A1) A2,.l A3 A1]) h (gY q)
theorem Y6(N m:Nat){l:List Tk}{t:Tr}{r:List Tk}(e:ng (pB N m) N l=some (t,r)):gs t<=gq l:=
 (pQ:Pn [_,_,_] (.l A0 A2) [.l (.a (.a A0 (.k 0)) A1) A2]) (Ju (Jv (X:=λl t r=>pB N m l=some (t,r)) (Uk N m _ _ _)) (λ_ _ _ e=>e) l t r e)
variable{r:List Tk}{P:Option (Tr×List Tk)}{l:List Tk}{t:Tr}{B:Ps}
def Jw:List (List Nat):=[i8,iR,AI,AJ,AK,gC,Fj,zf,Fk,zg,Fo,zh]
def iW(w:List Nat):Tk:=if w ∈ Jw then .op w else .word w
def brk(c:Nat)(l:List Tk):List Tk:=if c=0 then l else .op fT::(l++[.op eY])
def z6(w:List Nat):List Tk:=if w=eA then [.word f8,.word nn]else [.word iH,.word nq]
def oo(w:List Nat):List Tk:=if w=fY then [.word fY]else [.word gc,.word fY]
noncomputable def tk:Tr->List Tk
 | .name s=>[.name s]
 | .num i=>[.int i]
 | .un w t=>iW w::brk (vc w t) (tk t)
 | .bin w a b=>brk (mP (cls w) a) (tk a)++iW w::brk (kE (cls w) b) (tk b)
 | .sc w a b=>brk (km w a) (tk a)++(z6 w++brk (ew 4 b) (tk b))
 | .mem w t m=>brk (ew 3 t) (tk t)++(oo w++tk m)
 | .rng a b=>brk (ew 3 a) (tk a)++ .op jD::brk (ew 3 b) (tk b)
 | .pn t=> .op fT::(tk t++[.op eY])
def Bt:List (List Nat):=[iR,ji,gc,i8]
def sM:List (List Nat):=pZ++oJ++m7++[f8,iH,gf,gC]
noncomputable def WF:Tr->Prop
 | .name _=>True
 | .num _=>True
 | .un w t=>w ∈ Bt/\WF t
 | .bin w a b=>w ∈ sM/\WF a/\WF b
 | .sc w a b=>(w=eA\/w=fg)/\WF a/\WF b
 | .mem w t (.rng a b)=>(w=fY\/w=fM)/\WF t/\WF a/\WF b
 |_=>False
noncomputable def mS:Tr->Nat
 | .un _ t=>mS t+1
 | .bin _ a b=>max (mS a) (mS b)+1
 | .sc _ a b=>max (mS a) (mS b)+1
 | .mem _ t m=>max (mS t) (mS m)+1
 | .rng a b=>max (mS a) (mS b)
 | .pn t=>mS t+1
 |_=>0
theorem j3(x:Tk)(l:List Tk):gq (x::l)=gq l+(if x= .op fT then 1 else 0):=by unfold gq;rw[List.countP_cons];by_cases h:x= .op fT<;>simp[h]
theorem ny(l m:List Tk):gq (l++m)=gq l+gq m:=by unfold gq;exact List.countP_append
theorem o5(hc:c<=1)(l:List Tk):gq (brk c l)=gq l+c:=by
 unfold brk;split
 ·omega
 ·rw[j3,ny,cH rfl,j3,cJ (by decide)];have:gq []=0:=rfl
  omega
theorem v8(w:List Nat):iW w≠.op fT:=by
 unfold iW
 set_option tactic.hygienic true in split
 ·rename_i h;intro z
  injection z with z
  subst z;exact absurd h (by decide)
 ·intro z;cases z
theorem N1(w:List Nat)(t:Tr):km w t<=1:=by unfold km;split<;>exact fq rfl
theorem Ul(c:Wd)(t:Tr):mP c t<=1:=by cases c<;>first|exact xg .. |exact N1 .. |exact iq _
theorem Um(c:Wd)(t:Tr):kE c t<=1:=by cases c<;>first|exact xg .. |exact iq _
theorem Un(w:List Nat)(t:Tr):vc w t<=1:=by unfold vc;split<;>exact xg ..
theorem KR(w:List Nat):gq (z6 w)=0:=by unfold z6;split<;>decide
theorem H9(w:List Nat):gq (oo w)=0:=by unfold oo;split<;>decide
theorem lU(t:Tr)(h:WF t):gq (tk t)=gs t:=by
 match t,h with
 | .name s,_=>rfl
 | .num i,_=>rfl
 | .un w t,h=>
  simp only[tk,j3,cJ (v8 w),o5 (Un w t),lU t h.2,gs];exact(ie (.e (.a (.a A0 A1) (.k 0)) (.a A0 A1)) [])
 | .bin w a b,h=>
  simp only[tk,ny,j3,cJ (v8 w),o5 (Ul ..),o5 (Um ..),lU a h.2.1,lU b h.2.2,gs];exact(lx (.e (.a (.a A0 A1) (.a (.a A2 A3) (.k 0))) (.a (.a A0 A1) (.a A2 A3))) [])
 | .sc w a b,h=>
  simp only[tk,ny,KR,o5 (N1 ..),o5 (xg ..),lU a h.2.1,lU b h.2.2,gs];exact(lx (.e (.a (.a A0 A1) (.a (.k 0) (.a A2 A3))) (.a (.a A0 A1) (.a A2 A3))) [])
 | .mem w t (.rng a b),h=>
  simp only[tk,ny,H9,j3,cJ (show ¬(Tk.op jD= .op fT) by decide),o5 (xg ..),lU t h.2.1,lU a h.2.2.1,lU b h.2.2.2,gs];exact(Ke (.e (.a (.a A0 A1) (.a (.k 0) (.a (.a A2 A3) (.a (.a A4 A5) (.k 0))))) (.a (.a A0 A1) (.a (.a A2 A3) (.a A4 A5)))) [])
def xH(l:List Tk):Prop:=gK gC l=false
def vf(l:List Tk):Prop:=xH l/\nw l=false
def v9(l:List Tk):Prop:=vf l/\qZ l=false
def qk(l:List Tk):Prop:=v9 l/\jN l=false/\fV fY l=false/\fV gc l=false
def SJ(l:List Tk):Prop:=qk l/\(fZ l).1=hG
def Y7(B:Ps)(t:Tr):Prop:=∀r,B (tk t++ .op eY::r)=some (t,r)
inductive Yh:Tk->Prop
 |name (s0):Yh (.name s0)
 |int (i0):Yh (.int i0)
 |br:Yh (.op fT)
 |un (w0) (h:w0 ∈ Bt):Yh (iW w0)
theorem xi(l:List Tk):brk 0 l=l:=rfl
theorem Uo(l:List Tk):brk 1 l= .op fT::(l++[.op eY]):=rfl
theorem z7(h:cls w= .scaled):w ∈ oJ:=by
 unfold cls at h;split at h;· cases h
 split at h;· cases h
 split at h;· cases h
 split at h
 ·assumption
 ·cases h
theorem Bu(h:cls w= .added):w ∈ pZ:=by
 unfold cls at h;split at h;· cases h
 split at h;· cases h
 split at h
 ·assumption
 split at h<;>cases h
theorem Gh(h:cls w= .met):w ∈ m7:=by
 unfold cls at h;split at h;· cases h
 split at h
 ·assumption
 split at h;· cases h
 split at h<;>cases h
theorem D0(h:cls w= .high):w=gC:=by
 unfold cls at h;split at h
 ·assumption
 split at h;· cases h
 split at h;· cases h
 split at h<;>cases h
theorem wc(w:List Nat):cls w≠.leaf/\cls w≠.sign:=by
 constructor<;>(intro h;unfold cls at h;(repeat' split at h)<;>cases h)
theorem Up{v:List Nat}(hw:w ∈ sM)(h:cls w= .lg v):v=w/\(w=f8\/w=iH\/w=gf):=by
 have k:∀w ∈ sM,(cls w).lvl=5->cls w= .lg w/\(w=f8\/w=iH\/w=gf):=by decide+kernel
 have k:=k w hw (dN Wd.lvl h);exact⟨(Wd.lg.inj (k.1.symm.trans h)).symm,k.2⟩
theorem Wd.sc_of{c:Wd}(h:c.lvl<=2)(k:¬ c.lvl<=1):c= .scaled:=by cases c<;>first|rfl|exact absurd h (by decide)|exact absurd (show _<=1 by decide) k|exact absurd (show 5<=2 from h) (by decide)
theorem Wd.ad_of{c:Wd}(h:c.lvl<=3)(k:¬ c.lvl<=2)(n:c≠.sign):c= .added:=by cases c<;>first|rfl|exact absurd rfl n|exact absurd h (by decide)|exact absurd (show _<=2 by decide) k|exact absurd (show 5<=3 from h) (by decide)
theorem Wd.me_of{c:Wd}(h:c.lvl<=4)(k:¬ c.lvl<=3):c= .met:=by cases c<;>first|rfl|exact absurd (show _<=3 by decide) k|exact absurd (show 5<=4 from h) (by decide)
theorem Wd.hi_of{c:Wd}(h:c.lvl<=1)(n:c≠.leaf):c= .high:=by cases c<;>first|rfl|exact absurd rfl n|exact absurd h (by decide)|exact absurd (show 5<=1 from h) (by decide)
theorem we(w:List Nat)(l:List Tk):oq (iW w::l)=w:=by unfold iW;split<;>rfl
theorem Qy(h:w ∈ oJ)(l:List Tk):nw (iW w::l)=true/\xH (iW w::l):=by simp only[oJ,dj,dJ,dK]at h;rcases h with rfl|rfl|rfl|rfl<;>exact⟨rfl,rfl⟩
theorem Uq(h:w ∈ pZ)(l:List Tk):qZ (iW w::l)=true/\vf (iW w::l):=by simp only[pZ,dj,dJ,dK]at h;rcases h with rfl|rfl|rfl<;>exact⟨rfl,rfl,rfl⟩
theorem Ur(h:w ∈ m7)(l:List Tk):jN (iW w::l)=true/\v9 (iW w::l):=by simp only[m7,dj,dJ,dK]at h;rcases h with rfl|rfl|rfl|rfl|rfl|rfl<;>exact⟨rfl,⟨rfl,rfl⟩,rfl⟩
theorem Jx(hw:WF t)(h:wd t= .leaf):(∃s,t= .name s)\/(∃i,t= .num i):=by
 match t,hw with
 | .name s,_=>exact .inl ⟨s,rfl⟩
 | .num i,_=>exact .inr ⟨i,rfl⟩
 | .un w t,_=>rw[oK]at h;split at h<;>cases h
 | .bin w a b,_=>exact absurd h (wc w).1
 | .sc ..,_=>cases h
 | .mem _ _ (.rng _ _),_=>cases h
theorem Us{w:Wd}:w.lvl<=0↔w= .leaf:=by cases w<;>simp[Wd.lvl]
theorem j4(n:Nat)(t:Tr):(ew n t=0/\(wd t).lvl<=n)\/(ew n t=1/\¬(wd t).lvl<=n):=by
 unfold ew;by_cases h:(wd t).lvl<=n
 ·exact .inl ⟨cH h,h⟩
 ·exact .inr ⟨cJ h,h⟩
theorem Jy(t:Tr)(hw:WF t)(h:(wd t).lvl<=2)(r:List Tk):vd (tk t++r)=false:=by
 match t,hw with
 | .name s,_=>rfl
 | .num i,_=>rfl
 | .un w t,hw=>
  have h1:=hw.1;simp only[Bt,dj,dJ,dK]at h1;rcases h1 with rfl|rfl|rfl|rfl
  ·exact absurd h (by rw[oK,cH (.inr rfl)];decide)
  ·rfl
  ·rfl
  ·exact absurd h (by rw[oK,cH (.inl rfl)];decide)
 | .bin w a b,hw=>
  rw[nv]at h
  have key:∀n,n<=2->vd (brk (ew n a) (tk a)++iW w::brk (kE (cls w) b) (tk b)++r)=false:=by
   intro n hn;rcases j4 n a with⟨q,q2⟩|⟨q,q2⟩
   ·rw[q,xi,d6];exact Jy a hw.2.1 (gp q2 hn) _
   ·rw[q,Uo];rfl
  have e:tk (.bin w a b)=brk (mP (cls w) a) (tk a)++iW w::brk (kE (cls w) b) (tk b):=rfl;rw[e];cases q:cls w with
  |high=>rw[q]at key;exact key 0 (by exact fq rfl)
  |scaled=>rw[q]at key;exact key 2 (by exact fq rfl)
  |leaf=>exact absurd q (wc w).1
  |sign=>exact absurd q (wc w).2
  |added=>rw[q]at h;exact absurd h (by decide)
  |met=>rw[q]at h;exact absurd h (by decide)
  |lg v=>rw[q]at h;exact absurd (show 5<=2 from h) (by decide)
 | .sc w a b,_=>exact absurd (show 5<=2 from h) (by decide)
 | .mem _ _ (.rng _ _),_=>exact absurd (show 4<=2 from h) (by decide)
theorem wg(s:List Nat)(hs:s ∉ Bt)(t:Tr)(hw:WF t)(c:Nat)(r:List Tk):fV s (brk c (tk t)++r)=false:=by
 unfold brk;split
 ·match t,hw with
  | .name s,_=>rfl
  | .num i,_=>rfl
  | .un w t,hw=>
   have h1:=hw.1;show fV s (iW w::_)=false;unfold iW;split
   ·rfl
   ·show(w == s)=false;simp only[gO];intro z;subst z;exact hs h1
  | .bin w a b,hw=>
   show fV s ((brk (mP (cls w) a) (tk a)++iW w::_)++r)=false;rw[d6];exact wg s hs a hw.2.1 _ _
  | .sc w a b,hw=>
   show fV s ((brk (km w a) (tk a)++_)++r)=false;rw[d6];exact wg s hs a hw.2.1 _ _
  | .mem w t (.rng a b),hw=>
   show fV s ((brk (ew 3 t) (tk t)++_)++r)=false;rw[d6];exact wg s hs t hw.2.1 _ _
 ·rfl
theorem Qz(w:List Nat):1<=(z6 w).length:=by unfold z6;split<;>simp
theorem N2(w:List Nat):1<=(oo w).length:=by unfold oo;split<;>simp
theorem D1(t:Tr):1<=(tk t).length:=by
 cases t with
 |sc w a b=>have:=Qz w;simp only[tk,dI];exact VS this
 |mem w a b=>have:=N2 w;simp only[tk,dI];exact VS this
 |_=>simp[tk]<;>exact(ie (.l K1 (.a A0 (.a A1 K1))) [])
theorem j5(c:Nat)(l:List Tk):l.length<=(brk c l).length:=by unfold brk;split<;>simp<;>exact VR
theorem Gi(l r:List Tk):vd (brk 1 l++r)=false:=rfl
theorem vg(h:(fV ji l || fV gc l)=true):gX B l=(nc B l.tail).map λx=>(.un (oq l) x.1,x.2):=by unfold gX;rw[cH h]
section
variable{B:Ps}{N h:Nat}(HB:∀a,WF a->mS a<h->(tk a).length<N->wd a≠.leaf->Y7 B a)
include HB
theorem Gj{a:Tr}(hw:WF a)(hh:mS a<h)(hl:(tk a).length<N)(hn:wd a≠.leaf)(r:List Tk):nc B (brk 1 (tk a)++r)=some (a,r):=by have:=HB a hw hh hl hn r;rw[Uo];show(if fT=fT then B ((tk a++[.op eY])++r)else none)=_;rw[cH rfl,d6];exact this
omit HB in
theorem KS{a:Tr}(hw:WF a)(hn:wd a= .leaf)(r:List Tk):nc B (tk a++r)=some (a,r):=by rcases Jx hw hn with⟨s,rfl⟩|⟨i,rfl⟩<;>rfl
theorem D2{a:Tr}(hw:WF a)(hh:mS a<h)(hl:(tk a).length<N)(r:List Tk):nc B (brk (ew 0 a) (tk a)++r)=some (a,r):=by
 rcases j4 0 a with⟨q,q2⟩|⟨q,q2⟩
 ·rw[q,xi];exact KS hw (Us.mp q2) r
 ·rw[q];exact Gj HB hw hh hl (λz=>q2 (Us.mpr z)) r
omit HB in
theorem pR{a:Tr}(h1:fV ji l=false)(h2:fV gc l=false)(e:nc B l=some (a,r))(hr:xH r):gX B l=some (a,r):=by unfold gX;rw[h1,h2,e];simp only[Bool.or_self,jf,if_false,gQ];rw[cJ (by rw[hr];decide)]
theorem vh{a:Tr}(hw:WF a)(hh:mS a<h)(hl:(tk a).length<N)(hn:wd a≠.leaf)(hr:xH r):gX B (brk 1 (tk a)++r)=some (a,r):=
 pR rfl rfl (Gj HB hw hh hl hn r) hr
theorem B2(hw:WF t)(hh:mS t<=h)(hl:(tk t).length<N)(hv:(wd t).lvl<=1)(hr:xH r):gX B (tk t++r)=some (t,r):=by
 cases t with
 |name s=>exact pR rfl rfl rfl hr
 |num i=>exact pR rfl rfl rfl hr
 |un w t=>
  have h1:=hw.1
  have hlt:(tk t).length<N:=by have:=j5 (vc w t) (tk t);simp only[tk,eD]at hl;exact VM hl this
  have hp:=D2 HB hw.2 (show mS t<h from hh) hlt r;simp only[Bt,dj,dJ,dK]at h1;rcases h1 with rfl|rfl|rfl|rfl
  ·exact absurd hv (by rw[oK,cH (.inr rfl)];decide)
  ·have e:tk (.un ji t)= .word ji::brk (ew 0 t) (tk t):=rfl;rw[e];refine(vg rfl).trans ?_;show(nc B (brk (ew 0 t) (tk t)++r)).map _=_;rw[hp];rfl
  ·have e:tk (.un gc t)= .word gc::brk (ew 0 t) (tk t):=rfl;rw[e];refine(vg rfl).trans ?_;show(nc B (brk (ew 0 t) (tk t)++r)).map _=_;rw[hp];rfl
  ·exact absurd hv (by rw[oK,cH (.inl rfl)];decide)
 |bin w a b=>
  rw[nv]at hv;have hw7:w=gC:=D0 (Wd.hi_of hv (wc w).1);subst hw7;have e:tk (.bin gC a b)=brk (ew 0 a) (tk a)++ .op gC::brk (ew 0 b) (tk b):=rfl;rw[e]at hl ⊢;have la:=j5 (ew 0 a) (tk a);have lb:=j5 (ew 0 b) (tk b);simp only[dI,eD]at hl;have hh:max (mS a) (mS b)+1<=h:=hh;have pa:=D2 HB hw.2.1 (Cz hh) (Kg la hl) (.op gC::(brk (ew 0 b) (tk b)++r));have pb:=D2 HB hw.2.2 (CA hh) (Pl la lb hl) r
  have h1:∀s,fV s (brk (ew 0 a) (tk a)++ .op gC::(brk (ew 0 b) (tk b)++r))=false:=by
   intro s;rcases j4 0 a with⟨q,q2⟩|⟨q,q2⟩
   ·rw[q,xi];rcases Jx hw.2.1 (Us.mp q2)with⟨s,rfl⟩|⟨i,rfl⟩<;>rfl
   ·rw[q,Uo];rfl
  rw[d6,mj];unfold gX;rw[h1,h1,pa];simp only[Bool.or_self,jf,if_false,gQ];rw[cH (show gK gC (Tk.op gC::(brk (ew 0 b) (tk b)++r))=true from rfl)];show(nc B (brk (ew 0 b) (tk b)++r)).map _=_;rw[pb];rfl
 |sc w a b=>exact absurd (show 5<=1 from hv) (by decide)
 |mem=>exact absurd (show 4<=1 from hv) (by decide)
 |rng=>exact hw.elim
 |pn=>exact hw.elim
theorem Ia(hw:WF t)(hh:mS t<h)(hl:(tk t).length<N)(hr:xH r):gX B (brk (ew 1 t) (tk t)++r)=some (t,r):=by
 rcases j4 1 t with⟨q,q2⟩|⟨q,q2⟩
 ·rw[q,xi];exact B2 HB hw (AB hh) hl q2 hr
 ·rw[q];exact vh HB hw hh hl (λz=>by rw[z]at q2;exact q2 (by decide)) hr
theorem ub(hw:WF t)(hh:mS t<=h)(hl:(tk t).length<N)(h1:(wd t).lvl<=1)(hr:xH r)(K:Nat):∃k,K<=k+(tk t).length/\((gX B (tk t++r)).bind λx=>mQ B K x.1 x.2)=mQ B k t r:=
 ⟨K,Tb,by rw[B2 HB hw hh hl h1 hr];rfl⟩
theorem QA:WF t->mS t<=h->(tk t).length<N->(wd t).lvl<=2->∀{r:List Tk},xH r->∀K,(tk t).length<K->
  ∃k,K<=k+(tk t).length/\((gX B (tk t++r)).bind λx=>mQ B K x.1 x.2)=mQ B k t r:=by
 induction t with
 |bin w a b iha ihb=>
  intro hw hh hl hv r hr K hK;by_cases h1:(wd (.bin w a b)).lvl<=1
  ·exact ub HB hw hh hl h1 hr K
  rw[nv]at hv h1;have hs:cls w= .scaled:=Wd.sc_of hv h1;refine oA (Qy (z7 hs) (brk (ew 1 b) (tk b)++r)) λt1 t2=> ?_;have e:tk (.bin w a b)=brk (ew 2 a) (tk a)++iW w::brk (ew 1 b) (tk b):=by simp only[tk,hs,mP,kE]
  rw[e]at hl hK ⊢;have la:=j5 (ew 2 a) (tk a);have lb:=j5 (ew 1 b) (tk b);simp only[dI,eD]at hl hK ⊢;have hh:max (mS a) (mS b)+1<=h:=hh;have fb:=Ia HB hw.2.2 (CA hh) (Pl la lb hl) hr;rw[d6,mj]
  have step:∀k,mQ B (k+1) a (iW w::(brk (ew 1 b) (tk b)++r))=mQ B k (.bin w a b) r:=by intro k;simp only[mQ];rw[cH t1,we];show(gX B (brk (ew 1 b) (tk b)++r)).bind _=_;rw[fb];rfl
  rcases j4 2 a with⟨q,q2⟩|⟨q,q2⟩
  ·rw[q,xi];refine eN (iha hw.2.1 (G3 hh) (Kg la hl) q2 t2 K (Kg la hK)) λk k1 k2=> ?_;rw[q,xi]at hK;obtain⟨k',rfl⟩:∃k',k=k'+1:=⟨k -1,by exact VQ hK k1⟩;exact⟨k',by exact VO k1,by rw[k2];exact step k'⟩
  ·rw[q];obtain⟨K',rfl⟩:∃k',K=k'+1:=⟨K -1,by exact VN la hK⟩;refine⟨K',by rw[q]at la;have:=D1 a;exact(lx (.l (.a A2 K1) (.a A2 (.a A1 (.a A3 K1)))) [.l A0 A1,.l K1 A0]) la this,?_⟩;rw[vh HB hw.2.1 (Cz hh) (Kg la hl) (λz=>by rw[z]at q2;exact q2 (by decide)) t2];exact step K'
 |un w t=>
  intro hw hh hl hv r hr K hK;refine ub HB hw hh hl ?_ hr K;rw[oK]at hv ⊢;by_cases q:w=i8\/w=iR
  ·rw[cH q]at hv;exact absurd hv (by decide)
  ·rw[cJ q];exact ip 1
 |name=>intro hw hh hl hv r hr K hK;exact ub HB hw hh hl (iq _) hr K
 |num=>intro hw hh hl hv r hr K hK;exact ub HB hw hh hl (iq _) hr K
 |rng=>intro hw;exact hw.elim
 |pn=>intro hw;exact hw.elim
 |sc=>intro _ _ _ hv;exact absurd (show 5<=2 from hv) (by decide)
 |mem=>intro _ _ _ hv;exact absurd (show 4<=2 from hv) (by decide)
theorem Jz(hw:WF t)(hh:mS t<=h)(hl:(tk t).length<N)(hv:(wd t).lvl<=2)(hr:vf r):mc B N (tk t++r)=some (t,r):=by refine eN (QA HB hw hh hl hv hr.1 N hl) λk k1 k2=> ?_;obtain⟨k',rfl⟩:∃k',k=k'+1:=⟨k -1,by exact VK hl k1⟩;unfold mc;rw[k2];simp only[mQ];rw[cJ (by rw[hr.2];decide)]
theorem z8(hw:WF t)(hh:mS t<h)(hl:(tk t).length<N)(hn:wd t≠.leaf)(hr:vf r):mc B N (brk 1 (tk t)++r)=some (t,r):=by unfold mc;rw[vh HB hw hh hl hn hr.1];obtain⟨k',rfl⟩:∃k',N=k'+1:=⟨N -1,by exact Pk hl⟩;simp only[gQ,mQ];rw[cJ (by rw[hr.2];decide)]
theorem Gk(hw:WF t)(hh:mS t<h)(hl:(tk t).length<N)(hr:vf r):mc B N (brk (ew 2 t) (tk t)++r)=some (t,r):=by
 rcases j4 2 t with⟨q,q2⟩|⟨q,q2⟩
 ·rw[q,xi];exact Jz HB hw (AB hh) hl q2 hr
 ·rw[q];exact z8 HB hw hh hl (λz=>by rw[z]at q2;exact q2 (by decide)) hr
theorem qm(hw:WF t)(hh:mS t<=h)(hl:(tk t).length<N)(h1:(wd t).lvl<=2)(hr:vf r):∃k,N<=k+(tk t).length/\eq B N (tk t++r)=lT B N k t r:=by refine⟨N,Tb,?_⟩;unfold eq;rw[cJ (by rw[Jy t hw h1];decide),Jz HB hw hh hl h1 hr];rfl
theorem KT:WF t->mS t<=h->(tk t).length<N->(wd t).lvl<=3->∀{r:List Tk},vf r->∃k,N<=k+(tk t).length/\eq B N (tk t++r)=lT B N k t r:=by
 induction t with
 |bin w a b iha ihb=>
  intro hw hh hl hv r hr;by_cases h1:(wd (.bin w a b)).lvl<=2
  ·exact qm HB hw hh hl h1 hr
  rw[nv]at hv h1;have hs:cls w= .added:=Wd.ad_of hv h1 (wc w).2;refine oA (Uq (Bu hs) (brk (ew 2 b) (tk b)++r)) λt1 t2=> ?_;have e:tk (.bin w a b)=brk (ew 3 a) (tk a)++iW w::brk (ew 2 b) (tk b):=by simp only[tk,hs,mP,kE]
  rw[e]at hl ⊢;have la:=j5 (ew 3 a) (tk a);have lb:=j5 (ew 2 b) (tk b);simp only[dI,eD]at hl ⊢;have hh:max (mS a) (mS b)+1<=h:=hh;have fb:=Gk HB hw.2.2 (CA hh) (Pl la lb hl) hr;rw[d6,mj]
  have step:∀k,lT B N (k+1) a (iW w::(brk (ew 2 b) (tk b)++r))=lT B N k (.bin w a b) r:=by intro k;simp only[lT];rw[cH t1,we];show(mc B N (brk (ew 2 b) (tk b)++r)).bind _=_;rw[fb];rfl
  rcases j4 3 a with⟨q,q2⟩|⟨q,q2⟩
  ·rw[q,xi];refine eN (iha hw.2.1 (G3 hh) (Kg la hl) q2 t2) λk k1 k2=> ?_;rw[q,xi]at hl;obtain⟨k',rfl⟩:∃k',k=k'+1:=⟨k -1,by exact VQ hl k1⟩;exact⟨k',by exact VO k1,by rw[k2];exact step k'⟩
  ·rw[q];obtain⟨K',hK'⟩:∃k',N=k'+1:=⟨N -1,by exact VN la hl⟩;refine⟨K',by rw[q]at la;have:=D1 a;exact(BB (.l A2 (.a A3 (.a A1 (.a A4 K1)))) [.l A0 A1,.e A2 (.a A3 K1),.l K1 A0]) la hK' this,?_⟩;unfold eq;rw[Gi,cJ (show ¬(false=true) by decide),z8 HB hw.2.1 (Cz hh) (Yu la hl hK') (λz=>by rw[z]at q2;exact q2 (by decide)) t2];have:=step K';rw[<-hK']at this;exact this
 |un w t=>
  intro hw hh hl hv r hr;by_cases h1:(wd (.un w t)).lvl<=2
  ·exact qm HB hw hh hl h1 hr
  have h2:w=i8\/w=iR:=by
   rw[oK]at h1;by_cases q:w=i8\/w=iR
   ·exact q
   ·rw[cJ q]at h1;exact absurd (by decide) h1
  refine⟨N,by exact Tb,?_⟩;have e:tk (.un w t)=iW w::brk (ew 2 t) (tk t):=by simp only[tk,vc,cH h2]
  have lb:=j5 (ew 2 t) (tk t);rw[e]at hl ⊢;simp only[eD]at hl;have fb:=Gk HB hw.2 (show mS t<h from hh) (VM hl lb) hr;have h3:vd (iW w::(brk (ew 2 t) (tk t)++r))=true:=by rcases h2 with rfl|rfl<;>rfl
  rw[mj];unfold eq;rw[cH h3,we];show(mc B N (brk (ew 2 t) (tk t)++r)).bind _=_;rw[fb];rfl
 |name=>intro hw hh hl hv r hr;exact qm HB hw hh hl (iq _) hr
 |num=>intro hw hh hl hv r hr;exact qm HB hw hh hl (iq _) hr
 |rng=>intro hw;exact hw.elim
 |pn=>intro hw;exact hw.elim
 |sc=>intro _ _ _ hv;exact absurd (show 5<=3 from hv) (by decide)
 |mem=>intro _ _ _ hv;exact absurd (show 4<=3 from hv) (by decide)
theorem B3(hw:WF t)(hh:mS t<=h)(hl:(tk t).length<N)(hv:(wd t).lvl<=3)(hr:v9 r):eq B N (tk t++r)=some (t,r):=by refine eN (KT HB hw hh hl hv hr.1) λk k1 k2=> ?_;obtain⟨k',rfl⟩:∃k',k=k'+1:=⟨k -1,by exact VK hl k1⟩;rw[k2];simp only[lT];rw[cJ (by rw[hr.2];decide)]
theorem z9(hw:WF t)(hh:mS t<h)(hl:(tk t).length<N)(hn:wd t≠.leaf)(hr:v9 r):eq B N (brk 1 (tk t)++r)=some (t,r):=by
 unfold eq;rw[Gi,cJ (show ¬(false=true) by decide),z8 HB hw hh hl hn hr.1];obtain⟨k',hk⟩:∃k',N=k'+1:=⟨N -1,by exact Pk hl⟩;show lT B N N t r=_
 have:lT B N (k'+1) t r=some (t,r):=by simp only[lT];rw[cJ (by rw[hr.2];decide)]
 rw[<-hk]at this;exact this
theorem nA(hw:WF t)(hh:mS t<h)(hl:(tk t).length<N)(hr:v9 r):eq B N (brk (ew 3 t) (tk t)++r)=some (t,r):=by
 rcases j4 3 t with⟨q,q2⟩|⟨q,q2⟩
 ·rw[q,xi];exact B3 HB hw (AB hh) hl q2 hr
 ·rw[q];exact z9 HB hw hh hl (λz=>by rw[z]at q2;exact q2 (by decide)) hr
end
section
variable{B:Ps}{N h:Nat}(HB:∀a,WF a->mS a<h->(tk a).length<N->wd a≠.leaf->Y7 B a)
include HB
def LK(B:Ps)(N:Nat):Ps:=λl=>(eq B N l).bind λx=>mf B N x.1 x.2
omit HB in
theorem xj{x:Tr}(hr:qk r):mf B N x r=some (x,r):=by unfold mf;rw[cJ (by rw[hr.2.1];decide),cJ (by rw[hr.2.2.1];decide),cJ (by rw[hr.2.2.2,Bool.false_and];decide)]
omit HB in
theorem Aa(x:Tr)(hr:qk r):noRel (x,r)=some (x,r):=by unfold noRel;rw[cJ (by show ¬ jN r=true;rw[hr.2.1];decide)]
omit HB in
theorem N3{x y:Tr}(h1:jN l=true)(h2:eq B N l.tail=some (y,r))(hr:qk r):mf B N x l=some (.bin (oq l) x y,r):=by unfold mf;rw[cH h1,h2];exact Aa _ hr
omit HB in
theorem QB{x y:Tr}(h2:xf B N l=some (y,r))(hr:qk r):mf B N x (.word fY::l)=some (.mem fY x y,r):=by unfold mf;rw[cJ (show ¬ jN (.word fY::l)=true fromλz=>by exact mY z),cH (show fV fY (.word fY::l)=true from rfl)];show(xf B N l).bind _=_;rw[h2];exact Aa _ hr
omit HB in
theorem Ib{x y:Tr}(h2:xf B N l=some (y,r))(hr:qk r):mf B N x (.word gc:: .word fY::l)=some (.mem fM x y,r):=by unfold mf;rw[cJ (show ¬ jN (.word gc:: .word fY::l)=true fromλz=>by exact mY z),cJ (show ¬ fV fY (.word gc:: .word fY::l)=true from(by show ¬((gc == fY)=true);decide)),cH (show(fV gc (.word gc:: .word fY::l) && fV fY (.word gc:: .word fY::l).tail)=true from rfl)];show(xf B N l).bind _=_;rw[h2];exact Aa _ hr
theorem Ut{a b:Tr}(ha:WF a)(hb:WF b)(hha:mS a<h)(hhb:mS b<h)(hla:(tk a).length<N)(hlb:(tk b).length<N)(hr:v9 r):xf B N (tk (.rng a b)++r)=some (.rng a b,r):=by
 have e:tk (.rng a b)++r=brk (ew 3 a) (tk a)++ .op jD::(brk (ew 3 b) (tk b)++r):=by simp[tk]
 rw[e];unfold xf;rw[nA HB ha hha hla (show v9 (.op jD::(brk (ew 3 b) (tk b)++r))from⟨⟨rfl,rfl⟩,rfl⟩)];show(if gK jD (.op jD::(brk (ew 3 b) (tk b)++r))=true then(eq B N (brk (ew 3 b) (tk b)++r)).map (λy=>(Tr.rng a y.1,y.2))else if yn a=true then some (a,.op jD::(brk (ew 3 b) (tk b)++r))else none)=_;rw[cH (show gK jD (.op jD::(brk (ew 3 b) (tk b)++r))=true from rfl),nA HB hb hhb hlb hr];rfl
theorem Ic(hw:WF t)(hh:mS t<=h)(hl:(tk t).length<N)(hv:(wd t).lvl<=4)(hr:qk r):LK B N (tk t++r)=some (t,r):=by
 by_cases h1:(wd t).lvl<=3
 ·unfold LK;rw[B3 HB hw hh hl h1 hr.1];exact xj hr
 cases t with
 |bin w a b=>
  rw[nv]at hv h1;have hs:cls w= .met:=Wd.me_of hv h1;refine oA (Ur (Gh hs) (brk (ew 3 b) (tk b)++r)) λt1 t2=> ?_;have e:tk (.bin w a b)=brk (ew 3 a) (tk a)++iW w::brk (ew 3 b) (tk b):=by simp only[tk,hs,mP,kE]
  rw[e]at hl ⊢;have la:=j5 (ew 3 a) (tk a);have lb:=j5 (ew 3 b) (tk b);simp only[dI,eD]at hl;have hh:max (mS a) (mS b)+1<=h:=hh;rw[d6,mj];unfold LK;rw[nA HB hw.2.1 (Cz hh) (Kg la hl) t2];show mf B N a (iW w::(brk (ew 3 b) (tk b)++r))=_;rw[N3 t1 (nA HB hw.2.2 (CA hh) (Pl la lb hl) hr.1) hr,we]
 |mem w t m=>cases m with
  |rng a b=>
   have e:tk (.mem w t (.rng a b))++r=brk (ew 3 t) (tk t)++(oo w++(tk (.rng a b)++r)):=by simp[tk]
   have hl':(brk (ew 3 t) (tk t)).length+((oo w).length+((brk (ew 3 a) (tk a)).length+((brk (ew 3 b) (tk b)).length+1)))<N:=by
    simpa [tk] using hl
   rw[e];have lt:=j5 (ew 3 t) (tk t);have la:=j5 (ew 3 a) (tk a);have lb:=j5 (ew 3 b) (tk b);have hh:max (mS t) (max (mS a) (mS b))+1<=h:=hh;unfold LK;have hm:=Ut HB hw.2.2.1 hw.2.2.2 ((lx (.t A1 A3) [.l (.a (.ma A0 (.ma A1 A2)) K1) A3]) hh) ((lx (.t A2 A3) [.l (.a (.ma A0 (.ma A1 A2)) K1) A3]) hh) ((Kf (.t A6 A4) [.t (.a A0 (.a A1 (.a A2 (.a A3 K1)))) A4,.l A5 A0,.l A6 A2]) hl' lt la) ((VA (.t A7 A4) [.t (.a A0 (.a A1 (.a A2 (.a A3 K1)))) A4,.l A5 A0,.l A6 A2,.l A7 A3]) hl' lt la lb) hr.1;rcases hw.1 with rfl|rfl
   ·rw[show oo fY=[.word fY]from rfl,nA HB hw.2.1 (by omega) (Rw lt la lb hl') (show v9 ([.word fY]++(tk (.rng a b)++r))from⟨⟨rfl,rfl⟩,rfl⟩)];exact QB hm hr
   ·rw[show oo fM=[.word gc,.word fY]from rfl,nA HB hw.2.1 (by omega) (Rw lt la lb hl') (show v9 ([.word gc,.word fY]++(tk (.rng a b)++r))from⟨⟨rfl,rfl⟩,rfl⟩)];exact Ib hm hr
  |_=>exact hw.elim
 |name s=>exact absurd (iq _) h1
 |num i=>exact absurd (iq _) h1
 |un w t=>
  rw[oK]at h1;split at h1
  ·exact absurd (by decide) h1
  ·exact absurd (by decide) h1
 |sc w a b=>exact absurd (show 5<=4 from hv) (by decide)
 |rng=>exact hw.elim
 |pn=>exact hw.elim
theorem JA(hw:WF t)(hh:mS t<h)(hl:(tk t).length<N)(hn:wd t≠.leaf)(hr:qk r):LK B N (brk 1 (tk t)++r)=some (t,r):=by unfold LK;rw[z9 HB hw hh hl hn hr.1];exact xj hr
theorem QC(hw:WF t)(hh:mS t<h)(hl:(tk t).length<N)(hr:qk r):LK B N (brk (ew 4 t) (tk t)++r)=some (t,r):=by
 rcases j4 4 t with⟨q,q2⟩|⟨q,q2⟩
 ·rw[q,xi];exact Ic HB hw (AB hh) hl q2 hr
 ·rw[q];exact JA HB hw hh hl (λz=>by rw[z]at q2;exact q2 (by decide)) hr
def lgT:Tr->List Tk
 | .sc w _ _=>z6 w
 | .bin w _ _=>[.word w]
 |_=>[]
omit HB in
theorem QD(hw:w=eA\/w=fg)(l:List Tk):fZ (z6 w++l)=(w,2):=by
 rcases hw with rfl|rfl
 ·rfl
 ·rfl
omit HB in
theorem N4(h1:fV nn l=false):fZ (.word f8::l)=(f8,1):=by unfold fZ;rw[cH (show fV f8 (.word f8::l)=true from rfl)];show(if fV nn l=true then _ else _)=_;rw[h1];rfl
omit HB in
theorem QE(h1:fV nq l=false):fZ (.word iH::l)=(iH,1):=by unfold fZ;rw[cJ (show ¬ fV f8 (.word iH::l)=true by show ¬(iH == f8)=true;decide),cH (show fV iH (.word iH::l)=true from rfl)];show(if fV nq l=true then _ else _)=_;rw[h1];rfl
omit HB in
theorem N5(l:List Tk):fZ (.word gf::l)=(gf,1):=by unfold fZ;rw[cJ (show ¬ fV f8 (.word gf::l)=true by show ¬(gf == f8)=true;decide),cJ (show ¬ fV iH (.word gf::l)=true by show ¬(gf == iH)=true;decide),cH (show fV gf (.word gf::l)=true from rfl)]
omit HB in
theorem Id{k:Nat}{acc z:Tr}(h1:fZ l=(w,c))(hw:w≠hG)(h2:LK B N (l.drop c)=some (z,r)):nf B N w (k+1) acc l=nf B N w k (Gd w c acc z) r:=by simp only[nf];rw[h1];rw[cJ hw,cJ (by simp)];unfold LK at h2;refine eN (j2 h2) λoz1 e1 e2=> ?_;obtain⟨y,ry⟩:=oz1;show(eq B N (l.drop c)).bind _=_;rw[e1];show(mf B N y ry).bind _=_;rw[show mf B N y ry=some (z,r)from e2];rfl
def LG(B:Ps)(N:Nat)(w:List Nat)(t:Tr)(r:List Tk):Prop:=∃y ry k,LK B N (tk t++r)=some (y,ry)/\(fZ ry).1=w/\w≠hG/\N<=k+(tk t).length/\nf B N w N y ry=nf B N w k t r
theorem JB{a b:Tr}{sep:List Tk}(ha:WF a)(hb:WF b)(hha:mS a<h)(hhb:mS b<h)(hl:(tk t).length<N)(ht:t=Gd w c a b)(hc:c=sep.length)(hc1:1<=c)(e:tk t=brk (km w a) (tk a)++(sep++brk (ew 4 b) (tk b)))
  (hlw:fZ (sep++(brk (ew 4 b) (tk b)++r))=(w,c))(hnr:qk (sep++(brk (ew 4 b) (tk b)++r)))(hr:qk r)(hne:w≠hG)(ih:wd a= .lg w->(tk a).length<N->LG B N w a (sep++(brk (ew 4 b) (tk b)++r))):LG B N w t r:=by
 have hl2:=hl;rw[e]at hl2;simp only[dI]at hl2;have la:=j5 (km w a) (tk a);have lb:=j5 (ew 4 b) (tk b);have hb':=QC HB hb hhb ((Kf (.t A6 A4) [.e A0 A1,.l K1 A0,.t (.a A2 (.a A1 A3)) A4,.l A5 A2,.l A6 A3]) hc hc1 hl2 la lb) hr
 have step:∀k,nf B N w (k+1) a (sep++(brk (ew 4 b) (tk b)++r))=nf B N w k t r:=by intro k;rw[ht];refine Id hlw hne ?_;rw[hc,List.drop_left];exact hb'
 have et:tk t++r=brk (km w a) (tk a)++(sep++(brk (ew 4 b) (tk b)++r)):=by rw[e];simp
 have elen:(tk t).length=(brk (km w a) (tk a)).length+(sep.length+(brk (ew 4 b) (tk b)).length):=by rw[e];simp
 unfold LG;rw[et,elen];obtain⟨N',hN⟩:∃k',N=k'+1:=⟨N -1,by exact(BB (.e A1 (.a (.s A1 K1) K1)) [.t A0 A1,.e A0 (.a A2 (.a A3 A4))]) hl elen⟩;by_cases q4:(wd a).lvl<=4
 ·have q:km w a=0:=by unfold km;rw[cH (.inl q4)]
  rw[q,xi];refine⟨a,_,N',Ic HB ha (AB hha) ((ZY (.t A4 A1) [.t A0 A1,.e A2 A3,.l K1 A2,.l A4 A5,.l A6 A7,.e A0 (.a A5 (.a A3 A7)),.e A1 (.a A8 K1)]) hl hc hc1 la lb elen hN) q4 hnr,by rw[hlw],hne,by have:=D1 a;exact(Kf (.l A4 (.a A5 (.a A6 (.a A1 A3)))) [.e A0 A1,.l K1 A0,.l A2 A3,.e A4 (.a A5 K1),.l K1 A6]) hc hc1 lb hN this,?_⟩;have:=step N';rw[<-hN]at this;exact this
 ·by_cases q5:wd a= .lg w
  ·have q:km w a=0:=by unfold km;rw[cH (.inr q5)]
   rw[q,xi]at hl2 ⊢;refine ED (ih q5 ((Kf (.t A2 A4) [.e A0 A1,.l K1 A0,.t (.a A2 (.a A1 A3)) A4,.l A5 A3,.e A4 (.a A6 K1)]) hc hc1 hl2 lb hN)) λy ry k e1 e2 e3 e4 e5=> ?_;obtain⟨k',rfl⟩:∃k',k=k'+1:=⟨k -1,by exact(VA (.e A7 (.a (.s A7 K1) K1)) [.e A0 A1,.l K1 A0,.t (.a A2 (.a A1 A3)) A4,.l A5 A3,.e A4 (.a A6 K1),.l A4 (.a A7 A2)]) hc hc1 hl2 lb hN e4⟩;exact⟨y,ry,k',e1,e2,e3,by exact(VA (.l A4 (.a A6 (.a A7 (.a A1 A3)))) [.e A0 A1,.l K1 A0,.l A2 A3,.e A4 (.a A5 K1),.l A4 (.a (.a A6 K1) A7)]) hc hc1 lb hN e4,by rw[e5];exact step k'⟩
  ·have q:km w a=1:=by unfold km;rw[cJ (λz=>z.elim q4 q5)]
   rw[q]at la hl2 ⊢;refine⟨a,_,N',JA HB ha (by exact hha) ((VA (.t A5 A4) [.e A0 A1,.l K1 A0,.t (.a A2 (.a A1 A3)) A4,.l A5 A2,.l A6 A3,.e A4 (.a A7 K1)]) hc hc1 hl2 la lb hN) (λz=>by rw[z]at q4;exact q4 (by decide)) hnr,by rw[hlw],hne,by have:=D1 a;exact(VA (.l A6 (.a A7 (.a A3 (.a A1 A5)))) [.e A0 A1,.l K1 A0,.l A2 A3,.l A4 A5,.e A6 (.a A7 K1),.l K1 A2]) hc hc1 la lb hN this,?_⟩;have:=step N';rw[<-hN]at this;exact this
theorem Uu:WF t->mS t<=h->(tk t).length<N->∀w,wd t= .lg w->∀{r:List Tk},qk r->LG B N w t r:=by
 induction t with
 |sc v a b iha ihb=>
  intro hw hh hl w hv r hr;have hv:v=w:=Wd.lg.inj hv;subst hv;have hh:max (mS a) (mS b)+1<=h:=hh;have hq:v≠hG/\qk (z6 v++(brk (ew 4 b) (tk b)++r))/\(z6 v).length=2:=by rcases hw.1 with rfl|rfl<;>exact⟨by decide,⟨⟨⟨rfl,rfl⟩,rfl⟩,rfl,rfl,rfl⟩,rfl⟩
  exact JB HB (c:=2) hw.2.1 hw.2.2 (Cz hh) (CA hh) hl rfl hq.2.2.symm (fq rfl) rfl (QD hw.1 _) hq.2.1 hr hq.1 λq ql=>iha hw.2.1 (G3 hh) ql v q hq.2.1
 |bin v a b iha ihb=>
  intro hw hh hl w hv r hr;refine oA (Up hw.1 hv) λe hv3=> ?_;subst e;have hh:max (mS a) (mS b)+1<=h:=hh
  have hq:w≠hG/\qk ([.word w]++(brk (ew 4 b) (tk b)++r))/\fZ ([.word w]++(brk (ew 4 b) (tk b)++r))=(w,1)/\iW w= .word w:=by
   rcases hv3 with rfl|rfl|rfl
   ·exact⟨by decide,⟨⟨⟨rfl,rfl⟩,rfl⟩,rfl,rfl,rfl⟩,N4 (wg _ (by decide) b hw.2.2 _ _),rfl⟩
   ·exact⟨by decide,⟨⟨⟨rfl,rfl⟩,rfl⟩,rfl,rfl,rfl⟩,QE (wg _ (by decide) b hw.2.2 _ _),rfl⟩
   ·exact⟨by decide,⟨⟨⟨rfl,rfl⟩,rfl⟩,rfl,rfl,rfl⟩,N5 _,rfl⟩
  refine JB HB (c:=1) (sep:=[.word w]) hw.2.1 hw.2.2 (Cz hh) (CA hh) hl rfl rfl (fq rfl) ?_ hq.2.2.1 hq.2.1 hr hq.1 λq ql=>iha hw.2.1 (G3 hh) ql w q hq.2.1;have hv:cls w= .lg w:=hv;simp only[tk,hv,mP,kE,hq.2.2.2];rfl
 |un v t ih=>intro _ _ _ w hv;rw[oK]at hv;split at hv<;>exact nomatch hv
 |_=>intro _ _ _ w hv;exact nomatch hv
omit HB in
theorem N6(l:List Tk):ng B N l=(LK B N l).bind λy=>ve B N y.1 y.2:=by unfold ng LK;cases eq B N l<;>rfl
theorem JC(hw:WF t)(hh:mS t<=h)(hl:(tk t).length<N)(hr:SJ r):ng B N (tk t++r)=some (t,r):=by
 rw[N6]
 have kF:∀w k,0<k->nf B N w k t r=some (t,r):=by intro w k hk;obtain⟨k',rfl⟩:∃k',k=k'+1:=⟨k -1,by exact qG hk rfl⟩;simp only[nf];rw[cH hr.2]
 by_cases h4:(wd t).lvl<=4
 ·rw[Ic HB hw hh hl h4 hr.1];exact kF _ _ (Rv hl)
 ·have:∃w,wd t= .lg w:=by
   cases q:wd t with
   |lg w=>exact⟨w,rfl⟩
   |_=>rw[q]at h4;exact absurd (by decide) h4
  refine oE this λw hv=> ?_;clear this;refine ED (Uu HB hw hh hl w hv hr.1) λy ry k e1 e2 e3 e4 e5=> ?_;rw[e1];show nf B N (fZ ry).1 N y ry=_;rw[e2,e5];exact kF _ _ ((kI (.t (.k 0) A2) [.t A0 A1,.l A1 (.a A2 A0)]) hl e4)
omit HB in
theorem KU(e:ng B N l=some (t,r))(h1:gK jD r=false):mR B N l=some (t,r):=by
 unfold ng at e;refine eN (j2 e) λoz1 e1 e2=> ?_;obtain⟨x,rx⟩:=oz1;unfold mR;rw[e1];show(if gK jD rx=true then _ else(mf B N x rx).bind λy=>ve B N y.1 y.2)=_;by_cases q:gK jD rx=true
 ·exfalso
  obtain⟨x1,l1,rfl⟩:∃x1 l1,rx=x1::l1:=by
   cases rx with
   |nil=>exact mY q
   |cons a b=>exact⟨a,b,rfl⟩
  have hx:x1= .op jD:=by
   cases x1 with
   |op s=>
    have:(s == jD)=true:=q;rw[kc]at this;rw[this]
   |_=>exact mY q
  subst hx;have e3:mf B N x (.op jD::l1)=some (x,.op jD::l1):=xj ⟨⟨⟨rfl,rfl⟩,rfl⟩,rfl,rfl,rfl⟩;simp only[e3]at e2;have e2:ve B N x (.op jD::l1)=some (t,r):=e2;unfold ve at e2;cases N with
  |zero=>exact eC e2
  |succ k=>
   simp only[nf]at e2;rw[cH (show(fZ (.op jD::l1)).1=hG from rfl)]at e2;refine sp2 e2 ?_;clear e2;intro ey ez;subst ey;subst ez;exact Yk h1
 ·rw[cJ q];exact e2
end
theorem QF(h:WF t):q0 t=false:=by cases t<;>first|rfl|exact h.elim
theorem Uv(h:wd t≠.leaf):yn t=false:=by cases t<;>first|rfl|exact absurd rfl h
theorem W3(N m:Nat):∀a,WF a->mS a<m->(tk a).length<N->wd a≠.leaf->Y7 (pB N m) a:=by
 induction m with
 |zero=>intro a _ hh;omega
 |succ m ih=>
  intro a hw hh hl hn r;have e:=JC ih hw ((ie (.l A0 A1) [.t A0 (.a A1 K1)]) hh) hl (show SJ (.op eY::r)from⟨⟨⟨⟨rfl,rfl⟩,rfl⟩,rfl,rfl,rfl⟩,rfl⟩);have e:=KU e rfl;show Vv (pB N m) N _=_;unfold Vv;rw[e];show(if q0 a=true then none else if gK eY (.op eY::r)=true then some (v7 a,r)else none)=_;rw[QF hw,cJ (by decide),cH (show gK eY (.op eY::r)=true from rfl)];unfold v7;rw[Uv hn];rfl
theorem W4{N m:Nat}(hw:WF t)(hh:mS t<=m)(hl:(tk t).length<N):ng (pB N m) N (tk t)=some (t,[]):=by
 have:=JC (W3 N m) hw hh hl (r:=[]) ⟨⟨⟨⟨rfl,rfl⟩,rfl⟩,rfl,rfl,rfl⟩,rfl⟩
 rwa [gD]at this
def qn(p:Ps):Prop:=∀l t r,p l=some (t,r)->r.length<=l.length
theorem lm(l:List Tk):l.tail.length<=l.length:=by simp
theorem rg(hB:qn B):Yg (λl t r=>B l=some (t,r)) (λ_=>True) λ_ _ l _ r=>r.length<=l.length where
 num:=Nat.le_succ _
 name:=Nat.le_succ _
 br:=λh=>Nat.le_succ_of_le (hB _ _ _ h)
 un:=λ_ h=>gp h (lm _)
 pow:=λh _ k=>gp k (gp (lm _) h)
 u0:=id
 u1:=id
 mul:=λh _ k=>gp k (gp (lm _) h)
 u2:=id
 sg:=λ_ h=>gp h (lm _)
 add:=λh _ k=>gp k (gp (lm _) h)
 sd:=λ_=>ip _
 rng:=λh _ k=>gp k (gp (lm _) h)
 mn:=λh _=>h
 u3:=id
 rel:=λh _ k=>gp k (gp (lm _) h)
 mem:=λh _ k=>gp k (gp (lm _) h)
 nmem:=λh _ k=>gp k (gp (lm _) (gp (lm _) h))
 u4:=id
 lg:=λh _ _ k=>gp k (gp (by rw[mh];exact Nat.sub_le ..) h)
 u5:=id
 u7:=id
section
variable{B:Ps}(hB:qn B)(N:Nat)
include hB
theorem D3:qn (gX B):=xh (rg hB) λ_ _ _ e=>e
theorem Ie:qn (mc B N):=yB (rg hB) λ_ _ _ e=>e
theorem D4:qn (eq B N):=lA (rg hB) λ_ _ _ e=>e
theorem KV(x:Tr):qn (mf B N x):=λl=>DZ (rg hB) (λ_ _ _ e=>e) ((rg hB).sd (l:=l) (x:=x) trivial)
end
theorem JD(N m:Nat):qn (pB N m):=by
 induction m with
 |zero=>exactλl t r e=>eC e
 |succ m ih=>exactλl t r e=>iJ (N0 (rg ih) (λ_ _ _ e=>e) l t r e) λx q h _ e2=>e2▸gp (lm _) h
section
theorem fJ{x y:D}{c:Bool}(h:l5 x y=some c):ir .Eq (.d x) (.d y) σ=some (.ok c,σ):=by show(l5 x y).map _=_;rw[h];rfl
theorem iX{x y:D}{c:Bool}(h:l5 x y=some c):ir .NotEq (.d x) (.d y) σ=some (.ok (!c),σ):=by show((l5 x y).map _).map _=_;rw[h];rfl
theorem mT{y:List Nat}{c:Bool}(h:(x == y)=c):ir .Eq (.d (.str x)) (.d (.str y)) σ=some (.ok c,σ):=fJ (by rw[<-h];rfl)
theorem pS{y:List Nat}{c:Bool}(h:(x == y)=c):ir .NotEq (.d (.str x)) (.d (.str y)) σ=some (.ok (!c),σ):=iX (by rw[<-h];rfl)
theorem xk{r:R PV}(e:m σ=some (r,σ'))(hl:σ'.length=σ.length):sZ m σ=some (r,σ'):=by
 unfold sZ;rw[e];have:σ'.take σ.length=σ':=by rw[<-hl];exact List.take_length
 cases r with
 |ok v=>simp only[this];split<;>rfl
 |exc=>simp only[this];split<;>rfl
def Cl(σ:List MO):Prop:=σ.all (MO.below σ.length)=true
theorem KW{σ₁ junk:List MO}{v:PV}(e:m σ=some (.ok v,σ₁++junk))(hl:σ₁.length=σ.length)(hv:v.below σ.length=true)(hc:Cl σ₁):sZ m σ=some (.ok v,σ₁):=by
 unfold sZ;rw[e];have:(σ₁++junk).take σ.length=σ₁:=by rw[<-hl];simp
 unfold Cl at hc;rw[hl]at hc;simp only[this,hv,hc];rfl
theorem gH{k:Nat}{m:Lo->M Fl}{more:Nat}{σ₁ junk:List MO}{v:PV}(hk:vs.length=k)(e:i6 (m (eR vs ds more)) σ=some (.ok v,σ₁++junk))(hl:σ₁.length=σ.length)(hv:v.below σ.length=true)(hc:Cl σ₁):semF k m ds more vs σ=some (.ok v,σ₁):=by unfold semF;exact KW (junk:=junk) (by rw[cH hk];exact e) hl hv hc
theorem dk{k:Nat}{m:Lo->M Fl}{more:Nat}{r:R PV}(hk:vs.length=k)(e:i6 (m (eR vs ds more)) σ=some (r,σ'))(hl:σ'.length=σ.length):semF k m ds more vs σ=some (r,σ'):=by unfold semF;refine xk ?_ hl;rw[cH hk];exact e
theorem Ab{k:Nat}{m:Lo->M Fl}{d:D}{more:Nat}{r:R PV}(hk:vs.length=k)(e:i6 (m (eR vs [d] more)) σ=some (r,σ'))(hl:σ'.length=σ.length):pg k m [d] more vs σ=some (r,σ'):=by unfold pg;refine xk ?_ hl;rw[cH hk];exact e
theorem KY{k:Nat}{m:Lo->M Fl}{d:D}{more:Nat}{r:R PV}(hk:vs.length=k+1)(e:i6 (m (eR vs [] more)) σ=some (r,σ'))(hl:σ'.length=σ.length):pg k m [d] more vs σ=some (r,σ'):=by unfold pg;refine xk ?_ hl;rw[cJ (VX hk),cH (by simpa using hk)];exact e
def Tk.kind:Tk->List Nat
 | .op _=>i7
 | .word _=>jc
 | .name _=>fk
 | .int _=>ic
noncomputable def Tk.val:Tk->D
 | .op s=> .str s
 | .word s=> .str s
 | .name s=> .str s
 | .int i=> .int i
def Tk.d(t:Tk):D:= .tup [.str t.kind,t.val,.int 1]
noncomputable def Tk.ok:Tk->Bool
 | .op s=>s.all (· <128)
 | .word s=>s.all (· <128)
 | .name s=>s.all (· <128)
 | .int _=>true
def Uw:D:= .tup [.str hG,.str hG,.int 1]
def oF(ah:List Tk)(i:Nat):D:=match ah[i]? with
 |some t=>t.d
 |none=>Uw
def i9(j:Nat)(a ae:Nat):MO:= .obj [(d9,.ref j),(ii,.d (.int a)),(gb,.d (.int ae)),(iu,.d (.int 0)),(dX,.d .none),(ed,.d .none),(dM,.d .none),(dY,.d .none),(dH,.d .none),(eO,.d .none),(eB,.d .none),(fQ,.d .none),(gF,.d .none),(jd,.d .none),(oU,.d .none)]
structure PS(σ:List MO)(k j:Nat)(ah:List Tk)(a ae:Nat):Prop where
 hk:σ[k]? =some (i9 j a ae)
 hj:σ[j]? =some (.list (ah.map Tk.d))
 ne:ah≠[]
 sz:ah.length<500
 ok:ah.all Tk.ok=true
 pos:a<1000
 cl:Cl σ
variable{k j a ae W:Nat}{ah:List Tk}
theorem PS.at_(p:PS σ k j ah a ae):oG σ ii (.inst k)=some (.d (.int a)):=by simp only[oG,xP,p.hk,i9];rfl
theorem PS.toks(p:PS σ k j ah a ae):oG σ d9 (.inst k)=some (.ref j):=by simp only[oG,xP,p.hk,i9];rfl
theorem PS.nest_(p:PS σ k j ah a ae):oG σ gb (.inst k)=some (.d (.int ae)):=by simp only[oG,xP,p.hk,i9];rfl
theorem W5{len:Nat}(h:i<len):seqIndex? (i:Int) len=some i:=by have h0:¬(i:Int)<0:=Int.not_lt.mpr (Int.natCast_nonneg i);show(if(decide (0<=(if(i:Int)<0 then(i:Int)+len else i)) && decide ((if(i:Int)<0 then(i:Int)+len else i)<(len:Int)))=true then some (Int.toNat (if(i:Int)<0 then(i:Int)+len else i))else none)=_;rw[cJ h0,eE (Int.natCast_nonneg i),eE (Int.ofNat_lt.mpr h)];rfl
theorem jI(p:PS σ k j ah a ae)(ahead:Nat)(hah:ahead<1000):
  (CN W (n+1)).c eU [.inst k,.d (.int ahead)] σ=some (.ok (.d (oF ah (a+ahead))),σ):=by
 rw[zS];have h1:=p.at_;have h2:=p.toks;have hj:=p.hj;have hz:=p.sz;have hp:=p.pos;have h8:((a:Int)+ahead).natAbs<2 ^ 40:=VW hah hp;obtain⟨Lt,hL⟩:∃L,L=ah.map Tk.d:=⟨_,rfl⟩;have hlen:Lt.length=ah.length:=by rw[hL];simp
 have h7:Lt.length<2 ^ 40:=(ie (.t A1 (.pw 2 40)) [.t A0 (.k 500),.e A1 A0]) hz hlen;rw[<-hL]at hj;by_cases hin:a+ahead<ah.length
 ·have h4:((a:Int)+ahead)<(Lt.length:Nat):=(lx (.S (.a (.c A2) (.c A3)) (.c A0)) [.e A0 A1,.t (.a A2 A3) A1]) hlen hin;have h5:seqIndex? ((a:Int)+ahead) Lt.length=some (a+ahead):=W5 (hlen▸hin)
  have h6:Lt[a+ahead]? =some (oF ah (a+ahead)):=by unfold oF;rw[hL,List.getElem?_map,nO hin];rfl
  have hs:gZ σ (.ref j) (.d (.int ((a:Int)+ahead)))=some (.d (oF ah (a+ahead))):=by show(if _ then _ else _)=_;rw[cH h8];simp only[dW,hj,gQ,h5,h6,Option.map_some]
  refine dk rfl ?_ rfl;exact d8 uz λr=>r (nj h1) rfl (nj h2) (y9 (show dW σ (.ref j)=some Lt by simp only[dW,hj]) h7) (th h4) (nj h2) (dC hs) ⟨⟩
 ·have h4:¬((a:Int)+ahead)<(Lt.length:Nat):=(lx (.n (.S (.a (.c A2) (.c A3)) (.c A0))) [.e A0 A1,.n (.t (.a A2 A3) A1)]) hlen hin;have hne:=p.ne;have hpos:0<ah.length:=by cases ah<;>simp_all
  have h5:seqIndex? (-1) Lt.length=some (ah.length -1):=by unfold seqIndex?;simp;exact VV hz hlen hpos
  obtain⟨tl,htl⟩:∃t:Tk,ah[ah.length -1]? =some t:=⟨_,nO ((ie (.t (.s A0 K1) A0) [.t A0 (.k 500),.e A1 A0,.t (.k 0) A0]) hz hlen hpos)⟩
  have h6:Lt[ah.length -1]? =some (.tup [.str tl.kind,tl.val,.int 1]):=by rw[hL,List.getElem?_map,htl];rfl
  have h9:seqIndex? 2 3=some 2:=rfl;have h10:(Lt.length !=([]:List D).length)=true:=by simp;intro z;rw[z]at hlen;simp at hlen;exact Ry hlen hpos
  have h11:oF ah (a+ahead)=Uw:=by unfold oF;rw[List.getElem?_eq_none (VT hlen hin)]
  have h12:¬(Lt=[]):=by intro z;rw[z]at hlen;simp at hlen;exact Ry hlen hpos
  have hkk:(σ++[MO.list []])[k]? =σ[k]? :=fH (ek.mp p.hk).1;have h13:(σ++[MO.list []])[σ.length]? =some (MO.list []):=by simp
  have hjj:(σ++[MO.list []])[j]? =some (MO.list Lt):=by rw[fH (ek.mp p.hj).1];exact hj
  have h14:oG (σ++[MO.list []]) d9 (.inst k)=some (.ref j):=by simp only[oG,xP,hkk,p.hk,i9];rfl
  rw[h11];refine gH (σ₁:=σ) (junk:=[.list []]) rfl ?_ rfl rfl p.cl;have g1:dW (σ++[MO.list []]) (.ref j)=some Lt:=by simp only[dW,hjj]
  have g2:dW (σ++[MO.list []]) (.ref σ.length)=some []:=by simp only[dW,h13]
  have e1:gJ (σ++[MO.list []]) .Eq (.ref j) (.ref σ.length)=some false:=by show(dW _ _).bind _=_;rw[g1,gQ,g2,gQ];unfold Te;rw[cH h10]
  have s1:gZ (σ++[MO.list []]) (.ref j) (.d (.int (-1)))=some (.d (.tup [.str tl.kind,tl.val,.int 1])):=by show(dW _ _).bind _=_;rw[g1,gQ,h5,gQ,h6];rfl
  exact d8 uz λr=>r (nj h1) rfl (nj h2) (y9 (show dW σ (.ref j)=some Lt by simp only[dW,hj]) h7) (ti h4) (nj h2) (ig e1) (nj h14) (dC s1) (dC rfl) ⟨⟩
theorem Bv(p:PS σ k j ah a ae):(CN W (n+2)).c gz [.inst k] σ=some (.ok (.d (oF ah a)),σ):=by rw[Be];refine dk rfl ?_ rfl;have h:=jI (W:=W) (n:=n) p 0 (by decide);simp only[Nat.add_zero]at h;have h:(CN W (n+1)).c eU [.inst k,.d (.int 0)] σ=some (.ok (.d (oF ah a)),σ):=h;exact d8 C0 λr=>r h ⟨⟩
theorem JE(s:List Nat)(h:s.all (· <128)=true):(s.all (· <0x110000))=true:=by rw[fu]at h ⊢;intro x hx;have:=h x hx;simp only[decide_eq_true_eq]at this ⊢;exact mq this rfl
theorem Ig(x y:List Nat):((⟨x.toArray⟩:Str) ==⟨y.toArray⟩)=(x == y):=vz x y
theorem tM(a b c d:List Nat):I7 (.tup [.str a,.str b]) (.tup [.str c,.str d])=(a == c && b == d):=by simp[I7,D.py,D.pys,PyData.eqv,PyData.eqvAll,Ig]
theorem D5(a c d:List Nat)(i:Int):I7 (.tup [.str a,.int i]) (.tup [.str c,.str d])=false:=by simp[I7,D.py,D.pys,PyData.eqv,PyData.eqvAll,Ig]
def Tk.is(t:Tk)(kd s:List Nat):Bool:=t.kind == kd &&(match t.val with| .str v=>v == s|_=>false)
def uq(ah:List Tk)(i:Nat)(kd s:List Nat):Bool:=match ah[i]? with
 |some t=>t.is kd s
 |none=>false
theorem QG(t:Tk):t.kind.all (· <0x110000)=true:=by
 cases t
 ·show i7.all (· <0x110000)=true;decide
 ·show jc.all (· <0x110000)=true;decide
 ·show fk.all (· <0x110000)=true;decide
 ·show ic.all (· <0x110000)=true;decide
theorem D6(t:Tk)(ht:t.ok=true)(kd s:List Nat)(hk:kd.all (· <0x110000)=true)(hs:s.all (· <0x110000)=true):
  l5 (.tup [.str t.kind,t.val]) (.tup [.str kd,.str s])=some (t.is kd s):=by
 have hkk:=QG t
 have hv:D.ok t.val=true:=by
  cases t with
  |int i=>rfl
  |op v=>exact JE v ht
  |word v=>exact JE v ht
  |name v=>exact JE v ht
 have hd:D.dep t.val=0:=by cases t<;>rfl
 have e1:D.ok (.tup [.str t.kind,t.val])=true:=by simp[D.ok,D.oks,hv];simpa using hkk
 have e2:D.ok (.tup [.str kd,.str s])=true:=by simp[D.ok,D.oks];exact⟨by simpa using hk,by simpa using hs⟩
 have e3:D.dep (.tup [.str t.kind,t.val])<=64:=by simp[D.dep,D.deps,hd]
 have e4:D.dep (.tup [.str kd,.str s])<=64:=by simp[D.dep,D.deps]
 show(if D.ok (.tup [.str t.kind,t.val]) && D.ok (.tup [.str kd,.str s]) && decide (D.dep (.tup [.str t.kind,t.val])<=64) && decide (D.dep (.tup [.str kd,.str s])<=64)then some (I7 (.tup [.str t.kind,t.val]) (.tup [.str kd,.str s]))else none)=_;rw[e1,e2,eE e3,eE e4];simp only[Bool.and_self,if_true]
 congr 1
 cases t with
 |int i=>rw[show(Tk.int i).val= .int i from rfl,D5];simp[Tk.is,Tk.val]
 |op v=>rw[show(Tk.op v).val= .str v from rfl,tM];rfl
 |word v=>rw[show(Tk.word v).val= .str v from rfl,tM];rfl
 |name v=>rw[show(Tk.name v).val= .str v from rfl,tM];rfl
theorem QH(x y z:D):cut none (some 2) [x,y,z]=[x,y]:=rfl
theorem xI(p:PS σ k j ah a ae)(s:List Nat)(hs:s.all (· <0x110000)=true):(CN W (n+2)).c dO [.inst k,.d (.str s)] σ=some (.ok (.d (.bool (uq ah a i7 s))),σ):=by
 rw[H6];refine Ab rfl ?_ rfl;have h:=jI (W:=W) (n:=n) p 0 (by decide);simp only[Nat.add_zero]at h;have h:(CN W (n+1)).c eU [.inst k,.d (.int 0)] σ=some (.ok (.d (oF ah a)),σ):=h
 have hc:∃x y,oF ah a= .tup [x,y,.int 1]/\l5 (.tup [x,y]) (.tup [.str i7,.str s])=some (uq ah a i7 s):=by
  unfold oF uq;cases q:ah[a]? with
  |none=>
   refine⟨_,_,rfl,?_⟩;show(if D.ok (.tup [.str hG,.str hG]) && D.ok (.tup [.str i7,.str s]) && decide (D.dep (.tup [.str hG,.str hG])<=64) && decide (D.dep (.tup [.str i7,.str s])<=64)then some (I7 (.tup [.str hG,.str hG]) (.tup [.str i7,.str s]))else none)=_;rw[show D.ok (.tup [.str i7,.str s])=true by simp[D.ok,D.oks];exact⟨by decide,by simpa using hs⟩,tM];rfl
  |some t=>exact⟨_,_,rfl,D6 t (fu.mp p.ok t (gu q)) _ _ (by decide) hs⟩
 refine mZ hc λx y h1 h2=> ?_;clear hc;rw[h1]at h;exact d8 KF λr=>r h (show wN (.d (.tup [x,y,.int 1])) none (some 2) σ=some (.ok (.d (.tup [x,y])),σ)from rfl) (fJ h2) ⟨⟩
end
section
variable{k j a ae W:Nat}{ah:List Tk}
theorem JF(p:PS σ k j ah a ae)(i:Nat)(kd s:List Nat)(hk:kd.all (· <0x110000)=true)(hs:s.all (· <0x110000)=true)(hne:kd≠hG):
  ∃x y,oF ah i= .tup [x,y,.int 1]/\l5 (.tup [x,y]) (.tup [.str kd,.str s])=some (uq ah i kd s):=by
 unfold oF uq;cases q:ah[i]? with
 |none=>
  refine⟨_,_,rfl,?_⟩;show(if D.ok (.tup [.str hG,.str hG]) && D.ok (.tup [.str kd,.str s]) && decide (D.dep (.tup [.str hG,.str hG])<=64) && decide (D.dep (.tup [.str kd,.str s])<=64)then some (I7 (.tup [.str hG,.str hG]) (.tup [.str kd,.str s]))else none)=_;rw[show D.ok (.tup [.str kd,.str s])=true by simp[D.ok,D.oks];exact⟨by simpa using hk,by simpa using hs⟩,tM];have:(hG == kd)=false:=by simpa usingλz=>hne z.symm
  rw[this];rfl
 |some t=>exact⟨_,_,rfl,D6 t (fu.mp p.ok t (gu q)) _ _ hk hs⟩
theorem Ih(p:PS σ k j ah a ae)(s:List Nat)(hs:s.all (· <0x110000)=true)(ahead:Nat)(ha:ahead<1000):(CN W (n+2)).c eH [.inst k,.d (.str s),.d (.int ahead)] σ=some (.ok (.d (.bool (uq ah (a+ahead) jc s))),σ):=by rw[zT];refine KY rfl ?_ rfl;have h:=jI (W:=W) (n:=n) p ahead ha;refine mZ (JF p (a+ahead) jc s (by decide) hs (by decide)) λx y h1 h2=> ?_;rw[h1]at h;exact d8 BY λr=>r h rfl (fJ h2) ⟨⟩
theorem xJ(p:PS σ k j ah a ae)(s:List Nat)(hs:s.all (· <0x110000)=true):(CN W (n+2)).c eH [.inst k,.d (.str s)] σ=some (.ok (.d (.bool (uq ah a jc s))),σ):=by rw[zT];refine Ab rfl ?_ rfl;have h:=jI (W:=W) (n:=n) p 0 (by decide);have h:(CN W (n+1)).c eU [.inst k,.d (.int 0)] σ=some (.ok (.d (oF ah a)),σ):=h;refine mZ (JF p a jc s (by decide) hs (by decide)) λx y h1 h2=> ?_;rw[h1]at h;exact d8 BY λr=>r h rfl (fJ h2) ⟨⟩
theorem PS.kj(p:PS σ k j ah a ae):k≠j:=λz=>by have h1:=p.hk;have h2:=p.hj;rw[z,h2]at h1;unfold i9 at h1;cases h1
theorem PS.move(p:PS σ k j ah a ae){a' nest':Nat}(ha:a'<1000):PS (σ.set k (i9 j a' nest')) k j ah a' nest':=by
 have hk:=(ek.mp p.hk).1;have hj:=(ek.mp p.hj).1;refine⟨qE hk,by rw[o6 p.kj];exact p.hj,p.ne,p.sz,p.ok,ha,?_⟩;have hc:=p.cl;unfold Cl at hc ⊢;rw[fu]at hc ⊢;intro o ho;rw[List.length_set];rcases List.mem_or_eq_of_mem_set ho with h|h
 ·exact hc o h
 ·subst h;simp[i9,MO.below,PV.below,hj]
theorem PS.setO(p:PS σ k j ah a ae)(a':Nat)(f:Unit->M Fl):setO ii (.inst k) (.d (.int a')) f σ=f () (σ.set k (i9 j a' ae)):=by simp only[Internal.setO,xP,p.hk,i9];rfl
theorem PS.setN(p:PS σ k j ah a ae)(n':Nat)(f:Unit->M Fl):Internal.setO gb (.inst k) (.d (.int n')) f σ=f () (σ.set k (i9 j a n')):=by simp only[Internal.setO,xP,p.hk,i9];rfl
theorem wh(p:PS σ k j ah a ae)(s:List Nat)(hs:s.all (· <0x110000)=true):(CN W (n+3)).c fW [.inst k,.d (.str s)] σ=if uq ah a i7 s then some (.ok (.d (.bool true)),σ.set k (i9 j (a+1) ae))else some (.ok (.d (.bool false)),σ):=by
 rw[DN];have h:=xI (W:=W) (n:=n) p s hs;have h1:=p.at_;have h3:=p.setO (a+1);by_cases q:uq ah a i7 s=true
 ·rw[cH q];refine dk rfl ?_ (by simp);rw[q]at h;exact d8 xy λr=>r h (jV h1 h3) ⟨⟩
 ·rw[cJ q];refine dk rfl ?_ rfl;rw[Bool.not_eq_true _ |>.mp q]at h
  exact d8 xy λr=>r h ⟨⟩
theorem D7(p:PS σ k j ah a ae)(s:List Nat)(hs:s.all (· <0x110000)=true)(q:uq ah a jc s=false):(CN W (n+3)).c g8 [.inst k,.d (.str s)] σ=some (.ok (.d (.bool false)),σ):=by rw[DO];have h:=xJ (W:=W) (n:=n) p s hs;refine dk rfl ?_ rfl;rw[q]at h;exact d8 FB λr=>r h ⟨⟩
theorem Bw(p:PS σ k j ah a ae):(CN W (n+2)).c eK [.inst k] σ=some (.ok (.d (oF ah a)),σ.set k (i9 j (a+1) ae)):=by rw[Bf];refine dk rfl ?_ (by simp);have h:=jI (W:=W) (n:=n) p 0 (by decide);have h:(CN W (n+1)).c eU [.inst k,.d (.int 0)] σ=some (.ok (.d (oF ah a)),σ):=h;have h1:=p.at_;exact d8 C2 λr=>r h (jV h1 (p.setO (a+1))) ⟨⟩
theorem KZ(ah:List Tk)(i:Nat):∃x y,oF ah i= .tup [x,y,.int 1]:=by
 unfold oF;cases ah[i]? with
 |none=>exact⟨_,_,rfl⟩
 |some t=>exact⟨_,_,rfl⟩
theorem D8(p:PS σ k j ah a ae):(CN W (n+2)).c jM [.inst k] σ=some (.ok (.d (.int 1)),σ):=by rw[DM];refine dk rfl ?_ rfl;have h:=jI (W:=W) (n:=n) p 0 (by decide);have h:(CN W (n+1)).c eU [.inst k,.d (.int 0)] σ=some (.ok (.d (oF ah a)),σ):=h;refine Ka (KZ ah a) λx y e=> ?_;rw[e]at h;have h9:seqIndex? 2 3=some 2:=rfl;exact d8 Fy λr=>r h rfl ⟨⟩
theorem K2(p:PS σ k j ah a ae)(msg:PV):(CN W (n+4)).f [.inst k,msg] σ=some (.ok (),σ):=by
 show NR (decide (3<=n+3)) (CN W (n+3)) [.inst k,msg] σ=_;rw[eE (V4)];have h:=D8 (W:=W) (n:=n+1) p
 (repeat' first|(with_reducible first|exact h|exact NR|exact CP)|refine' sk rfl ?_|apply sk|rfl)
theorem Gm(p:PS σ k j ah a ae)(msg:PV):uT ((CN W (n+4)).f [.inst k,msg]) σ=some (.exc,σ):=by unfold uT;rw[K2 p msg]
theorem D9(p:PS σ k j ah a ae)(s:List Nat)(hs:s.all (· <0x110000)=true)(hz:s.length<100):(CN W (n+5)).c jp [.inst k,.d (.str s)] σ=if uq ah a i7 s then some (.ok (.d .none),σ.set k (i9 j (a+1) ae))else some (.exc,σ):=by
 rw[DP];have h:=wh (W:=W) (n:=n+1) p s hs;by_cases q:uq ah a i7 s=true
 ·rw[cH q]at h ⊢;refine dk rfl ?_ (by simp);exact d8 xB λr=>r h ⟨⟩
 ·rw[cJ q]at h ⊢;refine dk rfl ?_ rfl;have hr:=λmsg=>Gm (W:=W) (n:=n) p msg
  have h8:nl.length+s.length<=jP:=by
   have:nl.length=19:=by decide
   have:jP=4000000:=rfl
   omega
  exact d8 xB λr=>r h (BR (show sU .Add (.str _) (.str _)=_ from cH h8)) (hr _) ⟨⟩
end
section
variable{k j a ae W:Nat}{ah:List Tk}
theorem lq(ah:List Tk)(a:Nat):ah[a]? =(ah.drop a).head? :=by rw[List.head?_drop]
theorem Ea(ah:List Tk)(a:Nat)(s:List Nat):uq ah a i7 s=gK s (ah.drop a):=by
 unfold uq;rw[lq];cases ah.drop a with
 |nil=>rfl
 |cons t l=>cases t<;>rfl
theorem Eb(ah:List Tk)(a:Nat)(s:List Nat):uq ah a jc s=fV s (ah.drop a):=by
 unfold uq;rw[lq];cases ah.drop a with
 |nil=>rfl
 |cons t l=>cases t<;>rfl
theorem gw(ah:List Tk)(a:Nat):ah.drop (a+1)=(ah.drop a).tail:=by rw[List.tail_drop]
theorem PS.same(p:PS σ k j ah a ae):σ.set k (i9 j a ae)=σ:=by
 apply List.ext_getElem?;intro i;by_cases h:k=i
 ·subst h;rw[qE (ek.mp p.hk).1,p.hk]
 ·rw[o6 h]
theorem pT(p:PS σ k j ah a ae)(s:List Nat)(hs:s.all (· <0x110000)=true)(hn:2<=n):(CN W n).c dO [.inst k,.d (.str s)] σ=some (.ok (.d (.bool (gK s (ah.drop a)))),σ):=by obtain⟨m,rfl⟩:∃m,n=m+2:=⟨n -2,by exact dp hn rfl⟩;rw[xI p s hs,Ea]
theorem qA(p:PS σ k j ah a ae)(s:List Nat)(hs:s.all (· <0x110000)=true)(hn:2<=n):(CN W n).c eH [.inst k,.d (.str s)] σ=some (.ok (.d (.bool (fV s (ah.drop a)))),σ):=by obtain⟨m,rfl⟩:∃m,n=m+2:=⟨n -2,by exact dp hn rfl⟩;rw[xJ p s hs,Eb]
theorem Ec(p:PS σ k j ah a ae)(s:List Nat)(hs:s.all (· <0x110000)=true)(hn:2<=n):(CN W n).c eH [.inst k,.d (.str s),.d (.int 1)] σ=some (.ok (.d (.bool (fV s (ah.drop a).tail))),σ):=by obtain⟨m,rfl⟩:∃m,n=m+2:=⟨n -2,by exact dp hn rfl⟩;have:=Ih (W:=W) (n:=m) p s hs 1 (by decide);rw[Eb,gw]at this;exact this
theorem N7(p:PS σ k j ah a ae)(hn:2<=n):(CN W n).c eK [.inst k] σ=some (.ok (.d (oF ah a)),σ.set k (i9 j (a+1) ae)):=by obtain⟨m,rfl⟩:∃m,n=m+2:=⟨n -2,by exact dp hn rfl⟩;exact Bw p
theorem Ac(p:PS σ k j ah a ae)(hn:2<=n):(CN W n).c gz [.inst k] σ=some (.ok (.d (oF ah a)),σ):=by obtain⟨m,rfl⟩:∃m,n=m+2:=⟨n -2,by exact dp hn rfl⟩;exact Bv p
theorem uc(p:PS σ k j ah a ae)(s:List Nat)(hs:s.all (· <0x110000)=true)(hn:3<=n):(CN W n).c fW [.inst k,.d (.str s)] σ=if gK s (ah.drop a)then some (.ok (.d (.bool true)),σ.set k (i9 j (a+1) ae))else some (.ok (.d (.bool false)),σ):=by obtain⟨m,rfl⟩:∃m,n=m+3:=⟨n -3,by exact dp hn rfl⟩;rw[wh p s hs,Ea]
theorem wj(p:PS σ k j ah a ae)(s:List Nat)(hs:s.all (· <0x110000)=true)(q:fV s (ah.drop a)=false)(hn:3<=n):(CN W n).c g8 [.inst k,.d (.str s)] σ=some (.ok (.d (.bool false)),σ):=by obtain⟨m,rfl⟩:∃m,n=m+3:=⟨n -3,by exact dp hn rfl⟩;exact D7 p s hs (by rw[Eb];exact q)
theorem Ed(p:PS σ k j ah a ae)(s:List Nat)(hs:s.all (· <0x110000)=true)(hz:s.length<100)(hn:5<=n):(CN W n).c jp [.inst k,.d (.str s)] σ=if gK s (ah.drop a)then some (.ok (.d .none),σ.set k (i9 j (a+1) ae))else some (.exc,σ):=by obtain⟨m,rfl⟩:∃m,n=m+5:=⟨n -5,by exact dp hn rfl⟩;rw[D9 p s hs hz,Ea]
theorem qo(p:PS σ k j ah a ae)(msg:PV)(hn:4<=n):uT ((CN W n).f [.inst k,msg]) σ=some (.exc,σ):=by obtain⟨m,rfl⟩:∃m,n=m+4:=⟨n -4,by exact dp hn rfl⟩;exact Gm p msg
noncomputable def dy:Tr->D
 | .name s=> .tup [.str fk,.str s]
 | .num i=> .tup [.str ic,.int i]
 | .un w t=> .tup [.str lH,.str w,dy t]
 | .bin w a b=> .tup [.str iQ,.str w,dy a,dy b]
 | .sc w a b=> .tup [.str w,dy a,dy b]
 | .mem w t m=> .tup [.str w,dy t,dy m]
 | .rng a b=> .tup [.str fD,dy a,dy b]
 | .pn t=> .tup [.str tZ,dy t]
def pV(σ:List MO)(k j:Nat)(ah:List Tk)(ae:Nat)(e:Option (R PV×List MO)):Option (Tr×List Tk)->Prop
 |some (t,l)=>∃a',a'<=ah.length/\ah.drop a'=l/\e=some (.ok (.d (dy t)),σ.set k (i9 j a' ae))
 |none=>∃a' nest',e=some (.exc,σ.set k (i9 j a' nest'))
def Ee:Tk->Bool
 | .op s=>decide (s ∉ [AL,tn,Jp,BU,Jq])
 | .word s=>decide (s ∉ [rM,zb,lI,fD,zc])
 |_=>true
structure rS(ah:List Tk):Prop where
 tk:ah.all Ee=true
 na:∀i s,ah[i]? =some (.name s)->ah[i+1]?≠some (.op fT)
theorem rS.noOp(g:rS ah)(a:Nat){s:List Nat}(hs:s ∈ [AL,tn,Jp,BU,Jq]):gK s (ah.drop a)=false:=by
 cases q:ah.drop a with
 |nil=>rfl
 |cons t l=>
  have ht:t ∈ ah:=List.mem_of_mem_drop (show t ∈ ah.drop a by rw[q];simp);have:=fu.mp g.tk t ht;cases t with
  |op x=>
   show(x == s)=false;simp only[gO];intro z;subst z;exact absurd hs (by simpa [Ee] using this)
  |_=>rfl
theorem rS.noWd(g:rS ah)(a:Nat){s:List Nat}(hs:s ∈ [rM,zb,lI,fD,zc]):fV s (ah.drop a)=false:=by
 cases q:ah.drop a with
 |nil=>rfl
 |cons t l=>
  have ht:t ∈ ah:=List.mem_of_mem_drop (show t ∈ ah.drop a by rw[q];simp);have:=fu.mp g.tk t ht;cases t with
  |word x=>
   show(x == s)=false;simp only[gO];intro z;subst z;exact absurd hs (by simpa [Ee] using this)
  |_=>rfl
end
section
variable{k j a ae W:Nat}{ah:List Tk}
theorem o0(ah:List Tk)(a:Nat):oF ah a=match ah.drop a with|t::_=>t.d|[]=>Uw:=by unfold oF;rw[lq];cases ah.drop a<;>rfl
theorem Gn(p:PS σ k j ah a ae)(hn:6<=n):(CN W n).c jo [.inst k] σ=match ah.drop a with
  | .name s::_=>some (.ok (.d (.str s)),σ.set k (i9 j (a+1) ae))
  |_=>some (.exc,σ):=by
 obtain⟨m,rfl⟩:∃m,n=m+1:=⟨n -1,by exact dp hn rfl⟩;rw[DQ];have h1:=Ac (W:=W) (n:=m) p (dl hn rfl);have h2:=N7 (W:=W) (n:=m) p (dl hn rfl);have hr:=λmsg=>qo (W:=W) (n:=m) p msg (dl hn rfl);rw[o0]at h1 h2;have e1:l5 (.str i7) (.str fk)=some false:=rfl;have e2:l5 (.str jc) (.str fk)=some false:=rfl;have e3:l5 (.str ic) (.str fk)=some false:=rfl;have e4:l5 (.str fk) (.str fk)=some true:=rfl;have e5:l5 (.str hG) (.str fk)=some false:=rfl;cases q:ah.drop a with
 |nil=>
  rw[q]at h1 h2;refine dk rfl ?_ rfl;exact d8 n8 λr=>r h1 rfl (iX e5) (hr _) ⟨⟩
 |cons t l=>
  rw[q]at h1 h2;cases t with
  |name s=>
   refine dk rfl ?_ (by simp);exact d8 n8 λr=>r h1 rfl (iX e4) h2 rfl ⟨⟩
  |op s=>
   refine dk rfl ?_ rfl;exact d8 n8 λr=>r h1 rfl (iX e5) (hr _) ⟨⟩
  |word s=>
   refine dk rfl ?_ rfl;exact d8 n8 λr=>r h1 rfl (iX e5) (hr _) ⟨⟩
  |int s=>
   refine dk rfl ?_ rfl;exact d8 n8 λr=>r h1 rfl (iX e5) (hr _) ⟨⟩
theorem i5{ah:List Tk}{a:Nat}{t:Tk}(q:ah.drop a=t::l):a+1<=ah.length/\ah.drop (a+1)=l:=by
 constructor
 ·have:(ah.drop a).length=ah.length -a:=mh;rw[q]at this;simp at this;exact(kI (.l (.a A2 K1) A1) [.e (.a A0 K1) (.s A1 A2)]) this
 ·rw[gw,q];rfl
theorem Ux(p:PS σ k j ah a ae)(g:rS ah)(hW:0<W)(hn:8<=n):pV σ k j ah ae ((CN W n).c jL [.inst k] σ) (match ah.drop a with| .name s::l=>some (.name s,l)|_=>none):=by
 obtain⟨m,rfl⟩:∃m,n=m+1:=⟨n -1,by exact dp hn rfl⟩;obtain⟨W',hW'⟩:∃w,W=w+1:=⟨W -1,by exact qG hW rfl⟩;have h1:=Ac (W:=W) (n:=m) p (dl hn rfl);have h2:=Gn (W:=W) (n:=m) p (dl hn rfl);rw[o0]at h1;have e1:l5 (.str i7) (.str iS)=some false:=rfl;have e2:l5 (.str jc) (.str iS)=some false:=rfl;have e3:l5 (.str ic) (.str iS)=some false:=rfl;have e4:l5 (.str fk) (.str iS)=some false:=rfl;have e5:l5 (.str hG) (.str iS)=some false:=rfl
 have exc:∀kd v,oF ah a= .tup [.str kd,v,.int 1]->l5 (.str kd) (.str iS)=some false->(CN W m).c jo [.inst k] σ=some (.exc,σ)->∃a' nest',(CN W (m+1)).c jL [.inst k] σ=some (.exc,σ.set k (i9 j a' nest')):=by intro kd v he hq h3;refine⟨a,ae,?_⟩;rw[v5,p.same];have h1:=Ac (W:=W) (n:=m) p (dl hn rfl);rw[he]at h1;refine dk rfl ?_ rfl;exact d8 FJ λr=>r h1 rfl (fJ hq) h3 ⟨⟩
 cases q:ah.drop a with
 |nil=>
  rw[q]at h2;exact exc hG (.str hG) (by rw[o0,q];rfl) e5 h2
 |cons t l=>
  rw[q]at h2;cases t with
  |op s=>exact exc i7 (.str s) (by rw[o0,q];rfl) e1 h2
  |word s=>exact exc jc (.str s) (by rw[o0,q];rfl) e2 h2
  |int s=>exact exc ic (.int s) (by rw[o0,q];rfl) e3 h2
  |name s=>
   rw[q]at h1;obtain⟨l1,l2⟩:=i5 q;have hp:a+1<1000:=by have:=p.sz;exact(ie (.t (.a A0 K1) (.k 1000)) [.l (.a A0 K1) A1,.t A1 (.k 500)]) l1 this
   have p':=p.move (nest':=ae) hp;have f1:=uc (W:=W) (n:=m) p' AL (by decide) (dl hn rfl);rw[g.noOp (a+1) (by decide)]at f1;have f2:=pT (W:=W) (n:=m) p' fT (by decide) (dl hn rfl);have f3:=pT (W:=W) (n:=m) p' tn (by decide) (dl hn rfl);rw[g.noOp (a+1) (by decide)]at f3;have f4:=uc (W:=W) (n:=m) p' tn (by decide) (dl hn rfl);rw[g.noOp (a+1) (by decide)]at f4
   have hb:gK fT (ah.drop (a+1))=false:=by
    have h5:ah[a]? =some (.name s):=by rw[lq,q];rfl
    have h6:=g.na a s h5;cases q7:ah.drop (a+1)with
    |nil=>rfl
    |cons x y=>
     cases x with
     |op z=>
      show(z == fT)=false;simp only[gO];intro e;subst e;exact h6 (by rw[lq,q7];rfl)
     |_=>rfl
   rw[hb]at f2;simp only[jf,if_false]at f1 f4;refine⟨a+1,l1,l2,?_⟩;rw[v5];refine dk rfl ?_ (by simp);simp only[hW']at *
   (repeat' first|(with_reducible first|exact h1|exact h2|exact f1|exact f2|exact f3|exact f4)|refine' sk rfl ?_|exact fJ e4|exact iX e4|apply sk|rfl)
end
section
variable{k j a ae W:Nat}{ah:List Tk}
def gL(W n k j ae:Nat)(ah:List Tk)(ad:Addr)(P:Ps):Prop:=
 ∀σ a,PS σ k j ah a ae->a<=ah.length->pV σ k j ah ae ((CN W n).c ad [.inst k] σ) (P (ah.drop a))
def wk(W n k j ae:Nat)(ah:List Tk)(B:Ps):Prop:=
 ∀σ a,PS σ k j ah a ae->gK fT (ah.drop a)=true->pV σ k j ah ae ((CN W n).c gV [.inst k] σ) (B (ah.drop a).tail)
theorem pV.semF{kk:Nat}{m:Lo->M Fl}{more:Nat}(hk:vs.length=kk)(h:pV σ k j ah ae (i6 (m (eR vs ds more)) σ) P):pV σ k j ah ae (semF kk m ds more vs σ) P:=by
 cases P with
 |none=>
  refine Ka h λa' n' e=> ?_;clear h;exact⟨a',n',dk hk e (by simp)⟩
 |some x=>
  refine ot h λa' l1 l2 e=> ?_;clear h;exact⟨a',l1,l2,dk hk e (by simp)⟩
theorem N8(a:Nat):((a:Int)+1)=((a+1:Nat):Int):=(lE (.E (.a (.c A0) (.k 1)) (.c (.a A0 (.k 1)))) [])
theorem PS.setO1(p:PS σ k j ah a ae)(f:Unit->M Fl):Internal.setO ii (.inst k) (.d (.int ((a:Int)+1))) f σ=f () (σ.set k (i9 j (a+1) ae)):=by rw[N8];exact p.setO (a+1) f
theorem PS.setO2(p:PS σ k j ah a ae)(f:Unit->M Fl):Internal.setO ii (.inst k) (.d (.int ((a:Int)+2))) f σ=f () (σ.set k (i9 j (a+2) ae)):=by rw[show((a:Int)+2)=((a+2:Nat):Int) by exact(lE (.E (.a (.c A0) (.k 2)) (.c (.a A0 (.k 2)))) [])];exact p.setO (a+2) f
theorem Uy(g:rS ah)(hW:0<W)(hn:8<=n)(HB:wk W n k j ae ah B):gL W (n+1) k j ae ah gh (nc B):=by
 intro σ a p ha;rw[ye];refine pV.semF rfl ?_;have h1:=Ac (W:=W) (n:=n) p (dq hn rfl);rw[o0]at h1;have w1:=wj (W:=W) (n:=n) p rM (by decide) (g.noWd a (by decide)) (dq hn rfl);have w2:=wj (W:=W) (n:=n) p zb (by decide) (g.noWd a (by decide)) (dq hn rfl);have hnm:=Ux (W:=W) (n:=n) p g hW hn;have hat:=p.at_;have hset:=p.setO1;have e1:∀x y,l5 (.str x) (.str y)=some (x == y):=λ_ _=>rfl;have c1:(hG == ic)=false:=by decide
 have c2:(hG == uX)=false:=by decide
 have c3:(hG == uY)=false:=by decide
 have c4:(hG == iS)=false:=by decide
 have c5:(hG == i7)=false:=by decide
 have d1:(jc == ic)=false:=by decide
 have d2:(jc == uX)=false:=by decide
 have d3:(jc == uY)=false:=by decide
 have d4:(jc == iS)=false:=by decide
 have d5:(jc == i7)=false:=by decide
 have f1:(fk == ic)=false:=by decide
 have f2:(fk == uX)=false:=by decide
 have f3:(fk == uY)=false:=by decide
 have f4:(fk == iS)=false:=by decide
 have f5:(fk == i7)=false:=by decide
 have g1:(i7 == ic)=false:=by decide
 have g2:(i7 == uX)=false:=by decide
 have g3:(i7 == uY)=false:=by decide
 have g4:(i7 == iS)=false:=by decide
 cases q:ah.drop a with
 |nil=>
  rw[q]at h1 hnm;refine Ka hnm λa' n' e=> ?_;clear hnm;refine⟨a',n',?_⟩;exact d8 jF λr=>r h1 (fJ (e1 _ _)) (fJ (e1 _ _)) (fJ (e1 _ _)) (fJ (e1 _ _)) (fJ (e1 _ _)) w1 w2 e ⟨⟩
 |cons t l=>
  rw[q]at h1 hnm;refine oA (i5 q) λl1 l2=> ?_;cases t with
  |int i=>
   refine⟨a+1,l1,l2,?_⟩;exact d8 jF λr=>r h1 (fJ (e1 _ _)) (jV hat hset) ⟨⟩
  |word s=>
   refine Ka hnm λa' n' e=> ?_;clear hnm;refine⟨a',n',?_⟩;exact d8 jF λr=>r h1 (fJ (e1 _ _)) (fJ (e1 _ _)) (fJ (e1 _ _)) (fJ (e1 _ _)) (fJ (e1 _ _)) w1 w2 e ⟨⟩
  |name s=>
   refine ot hnm λa' r1 r2 e=> ?_;clear hnm;refine⟨a',r1,r2,?_⟩;exact d8 jF λr=>r h1 (fJ (e1 _ _)) (fJ (e1 _ _)) (fJ (e1 _ _)) (fJ (e1 _ _)) (fJ (e1 _ _)) w1 w2 e ⟨⟩
  |op s=>
   by_cases hs:s=fT
   ·subst hs;have hb:=HB σ a p (by rw[q];rfl);rw[q]at hb;show pV σ k j ah ae _ (if fT=fT then B l else none);rw[cH rfl];have hb:pV σ k j ah ae ((CN W n).c gV [.inst k] σ) (B l):=hb
    have kF:∀X,(CN W n).c gV [.inst k] σ=some X->i6 (jE (CN W n).c (CN W n).f (CN W n).r W (eR [.inst k] [] 3)) σ=some X:=by
     rintro ⟨X,σX⟩ e
     cases X<;>exact d8 jF λr=>r h1 (fJ (e1 _ _)) (fJ (e1 _ _)) (fJ (e1 _ _)) (fJ (e1 _ _)) (fJ (e1 _ _)) (fJ (e1 _ _)) e ⟨⟩
    cases hB:B l with
    |none=>
     rw[hB]at hb;refine Ka hb λa' n' e=> ?_;clear hb;exact⟨a',n',kF _ e⟩
    |some x=>
     rw[hB]at hb;refine ot hb λa' r1 r2 e=> ?_;clear hb;exact⟨a',r1,r2,kF _ e⟩
   ·show pV σ k j ah ae _ (if s=fT then B l else none);rw[cJ hs];refine Ka hnm λa' n' e=> ?_;clear hnm;have hs':(s == fT)=false:=by simpa using hs
    refine⟨a',n',?_⟩;exact d8 jF λr=>r h1 (fJ (e1 _ _)) (fJ (e1 _ _)) (fJ (e1 _ _)) (fJ (e1 _ _)) (fJ (e1 _ _)) (mT hs') w1 w2 e ⟨⟩
end
noncomputable def Pd(s:List Nat):Bool:=s.all (· <128)
noncomputable def PT:Tr->Prop
 | .name s=>Pd s=true
 | .num _=>True
 | .un w t=>Pd w=true/\PT t
 | .bin w a b=>Pd w=true/\PT a/\PT b
 | .sc w a b=>(w=eA\/w=fg)/\PT a/\PT b
 | .mem w t m=>(w=fY\/w=fM)/\PT t/\PT m
 | .rng a b=>PT a/\PT b
 | .pn t=>yn t=true/\PT t
noncomputable def sz:Tr->Nat
 | .name _=>0
 | .num _=>0
 | .un _ t=>sz t+1
 | .bin _ a b=>sz a+sz b+1
 | .sc _ a b=>sz a+sz b+1
 | .mem _ t m=>sz t+sz m+1
 | .rng a b=>sz a+sz b+1
 | .pn t=>sz t
def sD:Tk->Bool
 | .op s=>decide (s≠fT/\s≠eY)
 | .word _=>true
 |_=>false
def ops(l:List Tk):Nat:=l.countP sD
theorem kn(x:Tk)(l:List Tk):ops (x::l)=ops l+(if sD x=true then 1 else 0):=by unfold ops;rw[List.countP_cons]
theorem wl(l:List Tk):ops l.tail<=ops l:=by
 cases l with
 |nil=>simp
 |cons x l=>rw[kn];simp
theorem xm{s:List Nat}(h:gK s l=true)(h1:s≠fT)(h2:s≠eY):ops l=ops l.tail+1:=by
 unfold gK at h;split at h
 ·rw[kc]at h;subst h;rw[kn,cH (by simp[sD,h1,h2])];rfl
 ·exact mY h
theorem nC{s:List Nat}(h:fV s l=true):ops l=ops l.tail+1:=by
 unfold fV at h;split at h
 ·rw[kn,cH (by rfl)];rfl
 ·exact mY h
theorem qp(h:l.all Tk.ok=true):l.tail.all Tk.ok=true:=by
 cases l with
 |nil=>rfl
 |cons x l=>simp only[hP,ej]at h;exact h.2
theorem ud(n:Nat)(h:l.all Tk.ok=true):(l.drop n).all Tk.ok=true:=by
 rw[fu]at h ⊢
 exactλx hx=>h x (List.mem_of_mem_drop hx)
theorem Go(h:l.all Tk.ok=true):Pd (oq l)=true:=by
 cases l with
 |nil=>rfl
 |cons x l=>
  simp only[hP,ej]at h;cases x<;>first|exact h.1|rfl
def LM(p:Ps):Prop:=∀l t r,l.all Tk.ok=true->p l=some (t,r)->PT t/\r.all Tk.ok=true/\sz t+ops r<=ops l
theorem N9(h:nw l=true):ops l=ops l.tail+1:=by
 unfold nw at h;simp only[j9]at h;rcases h with((q|q)|q)|q
 ·exact xm q (by decide) (by decide)
 ·exact xm q (by decide) (by decide)
 ·exact nC q
 ·exact nC q
theorem QI(h:qZ l=true):ops l=ops l.tail+1:=by unfold qZ at h;simp only[j9]at h;rcases h with(q|q)|q<;>exact xm q (by decide) (by decide)
theorem Uz(h:vd l=true):ops l=ops l.tail+1:=by unfold vd at h;simp only[j9]at h;rcases h with q|q<;>exact xm q (by decide) (by decide)
theorem QJ(h:jN l=true):ops l=ops l.tail+1:=by
 unfold jN at h
 symm at h
 ·rename_i s l;rw[kn,cH];· rfl
  simp only[decide_eq_true_eq]at h;simp only[m7,dj,dJ,dK]at h;rcases h with rfl|rfl|rfl|rfl|rfl|rfl<;>decide
 ·exact mY h
def W6(l:List Tk)(p:List Nat×Nat):Prop:=p=(hG,0)\/(p.2=2/\(p.1=eA\/p.1=fg)/\ops (l.drop 2)+2=ops l)\/(p.2=1/\(p.1=f8\/p.1=iH\/p.1=gf)/\ops l.tail+1=ops l)
theorem SK(l:List Tk):l.drop 2=l.tail.tail:=by rw[<-List.drop_one,<-List.drop_one,List.drop_drop]
theorem Ad(l:List Tk):fZ l=(hG,0)\/((fZ l).2=2/\((fZ l).1=eA\/(fZ l).1=fg)/\ops (l.drop 2)+2=ops l)\/((fZ l).2=1/\((fZ l).1=f8\/(fZ l).1=iH\/(fZ l).1=gf)/\ops l.tail+1=ops l):=
 Pc (P:=W6 l) (λh=>Pc (P:=W6 l) (λk=> .inr (.inl ⟨rfl,.inl rfl,by rw[SK];exact Rx (nC h) (nC k)⟩)) λ_=> .inr (.inr ⟨rfl,.inl rfl,L0 (nC h)⟩))
  λ_=>Pc (P:=W6 l) (λh=>Pc (P:=W6 l) (λk=> .inr (.inl ⟨rfl,.inr rfl,by rw[SK];exact Rx (nC h) (nC k)⟩)) λ_=> .inr (.inr ⟨rfl,.inr (.inl rfl),L0 (nC h)⟩))
  λ_=>Pc (P:=W6 l) (λh=> .inr (.inr ⟨rfl,.inr (.inr rfl),L0 (nC h)⟩)) λ_=> .inl rfl
def IV(l:List Tk)(t:Tr)(r:List Tk):Prop:=l.all Tk.ok=true->PT t/\r.all Tk.ok=true/\sz t+ops r<=ops l
theorem IV.un{l r:List Tk}{x:Tr}(h:IV l.tail x r)(c:ops l=ops l.tail+1):IV l (.un (oq l) x) r:=λo=>wB (h (qp o)) λh1 h2 h3=>⟨⟨Go o,h1⟩,h2,(lx (.l (.a (.a A0 K1) A1) A3) [.l (.a A0 A1) A2,.e A3 (.a A2 K1)]) h3 c⟩
theorem IV.b2{q m:List Tk}{x y:Tr}(h:IV l x r)(k:IV m y q)(n:ops r=ops m+1)(om:r.all Tk.ok=true->m.all Tk.ok=true)(e:sz t=sz x+sz y+1)(d:r.all Tk.ok=true->PT x->PT y->PT t):IV l t q:=λo=>
 wB (h o) λh1 h2 h3=>wB (k (om h2)) λk1 k2 k3=>⟨d h2 h1 k1,k2,by rw[e];exact(Ke (.l (.a (.a (.a A0 A3) K1) A4) A2) [.l (.a A0 A1) A2,.l (.a A3 A4) A5,.e A1 (.a A5 K1)]) h3 k3 n⟩
theorem IV.bt{q:List Tk}{x y:Tr}(h:IV l x r)(n:ops r=ops r.tail+1)(k:IV r.tail y q)(e:sz t=sz x+sz y+1)(d:r.all Tk.ok=true->PT x->PT y->PT t):IV l t q:=h.b2 k n qp e d
theorem Ef(hB:LM B):Yg (λl t r=>B l=some (t,r)) (λ_=>False) λ_ _ l t r=>IV l t r where
 num:=λ{i l} o=>⟨trivial,qp o,by rw[kn];exact(pQ:Pn [_,_] (.l (.a (.k 0) A0) (.a A0 A1)) [])⟩
 name:=λ{s l} o=>⟨Go o,qp o,by rw[kn];exact(pQ:Pn [_,_] (.l (.a (.k 0) A0) (.a A0 A1)) [])⟩
 br:=λ{l t r} h o=>wB (hB _ _ _ (qp o) h) λh1 h2 h3=>⟨h1,h2,gp h3 (wl (.op fT::l))⟩
 un:=λc h=>h.un (by rw[j9]at c;exact c.elim nC nC)
 pow:=λh c k=>h.bt (xm c (by decide) (by decide)) k rfl λ_ h1 k1=>⟨by decide,h1,k1⟩
 u0:=id
 u1:=id
 mul:=λh c k=>h.bt (N9 c) k rfl λo h1 k1=>⟨Go o,h1,k1⟩
 u2:=id
 sg:=λc h=>h.un (Uz c)
 add:=λh c k=>h.bt (QI c) k rfl λo h1 k1=>⟨Go o,h1,k1⟩
 sd:=λh=>h.elim
 rng:=λh c k=>h.bt (xm c (by decide) (by decide)) k rfl λ_ h1 k1=>⟨h1,k1⟩
 mn:=λh _=>h
 u3:=id
 rel:=λh c k=>h.bt (QJ c) k rfl λo h1 k1=>⟨Go o,h1,k1⟩
 mem:=λh c k=>h.bt (nC c) k rfl λ_ h1 k1=>⟨.inl rfl,h1,k1⟩
 nmem:=λ{l x r y q} h c k o=>by rw[ej]at c;refine wB (h o) λh1 h2 h3=>wB (k (qp (qp h2))) λk1 k2 k3=>⟨⟨.inr rfl,h1,k1⟩,k2,?_⟩;have c1:=nC c.1;have c2:=wl r.tail;show sz x+sz y+1+ops q<=_;exact(Kf (.l (.a (.a (.a A0 A3) K1) A4) A2) [.l (.a A0 A1) A2,.l (.a A3 A4) A5,.e A1 (.a A6 K1),.l A5 A6]) h3 k3 c1 c2
 u4:=id
 lg:=λ{w l x r y q} h c e k=>by
  refine(Ad r).elim (λz=>absurd (dN Prod.fst z) c) λz=>z.elim (λ⟨q1,q2,q3⟩=> ?_) λ⟨q1,q2,q3⟩=> ?_
  ·rw[q1]at k ⊢;intro o;refine wB (h o) λh1 h2 h3=>wB (k (ud _ h2)) λk1 k2 k3=>⟨⟨q2,h1,k1⟩,k2,?_⟩;show sz x+sz y+1+ops q<=_
   omega
  ·rw[q1]at k ⊢;rw[List.drop_one]at k;exact h.bt q3.symm k rfl λo h1 k1=>⟨by rcases q2 with q|q|q<;>rw[q]<;>decide,h1,k1⟩
 u5:=id
 u7:=id
theorem IV.of{p:Ps}(h:∀l,tL (p l) (IV l)):LM p:=λl t r o e=>h l t r e o
section
variable{B:Ps}(hB:LM B)(N:Nat)
include hB
theorem Ae:LM (eq B N):=IV.of (lA (Ef hB) λ_ _ _ e=>e)
theorem Af:LM (mR B N):=IV.of (B1 (Ef hB) λ_ _ _ e=>e)
theorem Gp:LM (ng B N):=IV.of (Ju (Ef hB) λ_ _ _ e=>e)
end
theorem Oa(h:PT t):PT (v7 t)/\sz (v7 t)=sz t:=by
 unfold v7
 set_option tactic.hygienic true in split
 ·rename_i q;exact⟨⟨q,h⟩,rfl⟩
 ·exact⟨h,rfl⟩
theorem Ag(N m:Nat):LM (pB N m):=by
 induction m with
 |zero=>exactλl t r _ e=>eC e
 |succ m ih=>
  intro l t r o e;refine iJ (N0 (Ef ih) (λ_ _ _ e=>e) l t r e) λx q h e1 e2=> ?_;subst e1;subst e2;refine wB (h o) λh1 h2 h3=>oA (Oa h1) λq1 q2=> ?_;have q3:=wl q;exact⟨q1,qp h2,by rw[q2];exact(BB (.l (.a A0 A4) A2) [.l (.a A0 A1) A2,.e A3 A0,.l A4 A1]) h3 q2 q3⟩
theorem Ii{s:List Nat}(h:Pd s=true):(D.str s).ok=true:=by
 have:=JE s h
 simpa [D.ok] using this
theorem lC{x:D}{l:List D}(h:x.ok=true)(k:(D.tup l).ok=true):(D.tup (x::l)).ok=true:=Bool.and_eq_true_iff.mpr ⟨h,k⟩
theorem Eg(h:PT t):(dy t).ok=true:=by
 induction t with
 |name s=>exact lC (by decide) (lC (Ii h) rfl)
 |num i=>exact lC (by decide) (lC rfl rfl)
 |un w t ih=>exact lC (by decide) (lC (Ii h.1) (lC (ih h.2) rfl))
 |bin w a b iha ihb=>exact lC (by decide) (lC (Ii h.1) (lC (iha h.2.1) (lC (ihb h.2.2) rfl)))
 |sc w a b iha ihb=>exact lC (h.1.elim (λq=>q▸by decide) λq=>q▸by decide) (lC (iha h.2.1) (lC (ihb h.2.2) rfl))
 |mem w a b iha ihb=>exact lC (h.1.elim (λq=>q▸by decide) λq=>q▸by decide) (lC (iha h.2.1) (lC (ihb h.2.2) rfl))
 |rng a b iha ihb=>exact lC (by decide) (lC (iha h.1) (lC (ihb h.2) rfl))
 |pn t ih=>exact lC (by decide) (lC (ih h.2) rfl)
theorem kD{x:D}{l:List D}(h:x.dep<=n)(k:(D.tup l).dep<=n+1):(D.tup (x::l)).dep<=n+1:=Nat.succ_le_succ (Nat.max_le.mpr ⟨h,Nat.le_of_succ_le_succ k⟩)
theorem wm:(D.tup []).dep<=n+1:=Nat.succ_le_succ (iq _)
theorem rh{s:List Nat}:(D.str s).dep<=n:=iq _
theorem yC(h:PT t):(dy t).dep<=sz t+2:=by
 have m:∀{a n d},d<=a+2->a<=n->d<=n+1+1:=λh k=>gp h (Nat.add_le_add_right k 2)
 induction t with
 |name s=>exact Nat.le_succ_of_le (kD (n:=0) rh (kD rh wm))
 |num i=>exact Nat.le_succ_of_le (kD (n:=0) rh (kD (ip 0) wm))
 |un w t ih=>exact kD rh (kD rh (kD (ih h.2) wm))
 |bin w a b iha ihb=>exact kD rh (kD rh (kD (m (iha h.2.1) (Nat.le_add_right ..)) (kD (m (ihb h.2.2) (Nat.le_add_left ..)) wm)))
 |sc w a b iha ihb=>exact kD rh (kD (m (iha h.2.1) (Nat.le_add_right ..)) (kD (m (ihb h.2.2) (Nat.le_add_left ..)) wm))
 |mem w a b iha ihb=>exact kD rh (kD (m (iha h.2.1) (Nat.le_add_right ..)) (kD (m (ihb h.2.2) (Nat.le_add_left ..)) wm))
 |rng a b iha ihb=>exact kD rh (kD (m (iha h.1) (Nat.le_add_right ..)) (kD (m (ihb h.2) (Nat.le_add_left ..)) wm))
 |pn t ih=>cases t with
  |name s=>exact kD (n:=1) rh (kD (kD (n:=0) rh (kD rh wm)) wm)
  |_=>exact nomatch h.1
def Bx:Tr->List Nat
 | .name _=>fk
 | .num _=>ic
 | .un .. =>lH
 | .bin .. =>iQ
 | .sc w .. =>w
 | .mem w .. =>w
 | .rng .. =>fD
 | .pn _=>tZ
theorem ue(t:Tr):∃l,dy t= .tup (.str (Bx t)::l):=by cases t<;>exact⟨_,rfl⟩
theorem o4(σ:List MO)(t:Tr):gZ σ (.d (dy t)) (.d (.int 0))=some (.d (.str (Bx t))):=by refine oE (ue t) λl e=> ?_;rw[e];simp[gZ,seqIndex?]
theorem B4(h:PT t)(σ:List MO):AD σ (Bx t) qU=some (yn t):=by
 cases t with
 |sc w a b=>rcases h.1 with q|q<;>subst q<;>rfl
 |mem w a b=>rcases h.1 with q|q<;>subst q<;>rfl
 |_=>rfl
theorem B5(h:PT t):(Bx t == fD)=q0 t:=by
 cases t with
 |sc w a b=>rcases h.1 with q|q<;>subst q<;>rfl
 |mem w a b=>rcases h.1 with q|q<;>subst q<;>rfl
 |name=>rfl
 |num=>rfl
 |un=>rfl
 |bin=>rfl
 |rng=>rfl
 |pn=>rfl
theorem JG(h:PT t):(Bx t == Fg)=false:=by
 cases t with
 |sc w a b=>rcases h.1 with q|q<;>subst q<;>rfl
 |mem w a b=>rcases h.1 with q|q<;>subst q<;>rfl
 |name=>rfl
 |num=>rfl
 |un=>rfl
 |bin=>rfl
 |rng=>rfl
 |pn=>rfl
def LN(p:Ps):Prop:=∀l t r,p l=some (t,r)->q0 t=false
theorem Ob(hB:LN B):LN (nc B):=by
 intro l t r e;unfold nc at e;split at e
 ·simp only[nM,j8]at e;refine oA e λez1 ez2=> ?_;clear e;subst ez1;subst ez2;rfl
 ·simp only[nM,j8]at e;refine oA e λez1 ez2=> ?_;clear e;subst ez1;subst ez2;rfl
 ·split at e
  ·exact hB _ _ _ e
  ·exact eC e
 ·exact eC e
theorem Ij(hB:LN B):LN (gX B):=by
 intro l t r e;unfold gX at e;split at e
 ·refine eN (BZ e) λoz1 e1 e2=> ?_;obtain⟨x,rx⟩:=oz1;simp only[j8]at e2;refine oA e2 λez1 ez2=> ?_;clear e2;subst ez1;subst ez2;rfl
 ·refine eN (j2 e) λoz1 e1 e2=> ?_;obtain⟨x,rx⟩:=oz1;have h1:=Ob hB _ _ _ e1;simp only at e2;split at e2
  ·refine eN (BZ e2) λoz1 e3 e4=> ?_;obtain⟨y,ry⟩:=oz1;simp only[j8]at e4;refine oA e4 λez1 ez2=> ?_;clear e4;subst ez1;subst ez2;rfl
  ·simp only[nM,j8]at e2;refine oA e2 λez1 ez2=> ?_;clear e2;subst ez1;subst ez2;exact h1
theorem K3(k:Nat):∀acc,q0 acc=false->LN (mQ B k acc):=by
 induction k with
 |zero=>intro acc _ l t r e;exact eC e
 |succ k ih=>
  intro acc ha l t r e;simp only[mQ]at e;split at e
  ·refine eN (j2 e) λoz1 e1 e2=> ?_;obtain⟨y,ry⟩:=oz1;exact ih _ rfl _ _ _ e2
  ·simp only[nM,j8]at e;refine oA e λez1 ez2=> ?_;clear e;subst ez1;subst ez2;exact ha
theorem Oc(hB:LN B)(N:Nat):LN (mc B N):=by intro l t r e;refine eN (j2 e) λoz1 e1 e2=> ?_;obtain⟨x,rx⟩:=oz1;exact K3 _ _ (Ij hB _ _ _ e1) _ _ _ e2
theorem B6(N k:Nat):∀acc,q0 acc=false->LN (lT B N k acc):=by
 induction k with
 |zero=>intro acc _ l t r e;exact eC e
 |succ k ih=>
  intro acc ha l t r e;simp only[lT]at e;split at e
  ·refine eN (j2 e) λoz1 e1 e2=> ?_;obtain⟨y,ry⟩:=oz1;exact ih _ rfl _ _ _ e2
  ·simp only[nM,j8]at e;refine oA e λez1 ez2=> ?_;clear e;subst ez1;subst ez2;exact ha
theorem Ik(hB:LN B)(N:Nat):LN (eq B N):=by
 intro l t r e;unfold eq at e;split at e
 ·refine eN (j2 e) λoz1 e1 e2=> ?_;obtain⟨x,rx⟩:=oz1;exact B6 _ _ _ rfl _ _ _ e2
 ·refine eN (j2 e) λoz1 e1 e2=> ?_;obtain⟨x,rx⟩:=oz1;exact B6 _ _ _ (Oc hB _ _ _ _ e1) _ _ _ e2
theorem Od(h:q0 t=false):q0 (v7 t)=false:=by unfold v7;split<;>first|rfl|exact h
theorem W7(N m:Nat):LN (pB N m):=by
 cases m with
 |zero=>intro l t r e;exact eC e
 |succ m=>
  intro l t r e;refine eN (j2 e) λoz1 e1 e2=> ?_;obtain⟨x,rx⟩:=oz1;simp only at e2
  symm at e2
  ·exact eC e2
  ·rename_i h;split at e2
   ·simp only[nM,j8]at e2;refine oA e2 λez1 ez2=> ?_;clear e2;subst ez1;subst ez2;exact Od (by simpa using h)
   ·exact eC e2
theorem JH{x y:List D}(h1:(D.tup x).ok=true)(h2:(D.tup y).ok=true)(h3:(D.tup x).dep<=64)(h4:(D.tup y).dep<=64):l5 (.tup x) (.tup y)=some (I7 (.tup x) (.tup y)):=by show(if(D.tup x).ok &&(D.tup y).ok && decide ((D.tup x).dep<=64) && decide ((D.tup y).dep<=64)then some (I7 (.tup x) (.tup y))else none)=_;rw[h1,h2,eE h3,eE h4];rfl
theorem Il(h:PT t)(hz:sz t<=62):l5 (dy t) (.tup [.str lI])=some false:=by
 have h1:=Eg h;have h3:(dy t).dep<=64:=by have:=yC h;exact(ie (.l A1 (.k 64)) [.l A0 (.k 62),.l A1 (.a A0 (.k 2))]) hz this
 have key:∀a b l,dy t= .tup (a::b::l)->l5 (dy t) (.tup [.str lI])=some false:=by intro a b l e;rw[e]at h1 h3 ⊢;rw[JH h1 (by decide) h3 (by decide)];simp[I7,D.py,D.pys,PyData.eqv,PyData.eqvAll]
 cases t<;>exact key _ _ _ rfl
section
variable{k j a ae W:Nat}{ah:List Tk}
theorem eI(σ:List MO)(k:Nat)(x y:MO):(σ.set k x).set k y=σ.set k y:=List.set_set ..
theorem pV.cases{e:Option (R PV×List MO)}(h:pV σ k j ah ae e P):
  (∃t l a',P=some (t,l)/\a'<=ah.length/\ah.drop a'=l/\e=some (.ok (.d (dy t)),σ.set k (i9 j a' ae)))\/(P=none/\∃a' n',e=some (.exc,σ.set k (i9 j a' n'))):=by
 cases P with
 |none=>exact .inr ⟨rfl,h⟩
 |some x=>(refine ot h λa' h1 h2 h3=> ?_;clear h);exact .inl ⟨x.1,x.2,a',rfl,h1,h2,h3⟩
theorem pV.elim{e:Option (R PV×List MO)}{C:Prop}(h:pV σ k j ah ae e P)(h1:∀t l a',P=some (t,l)->a'<=ah.length->ah.drop a'=l->e=some (.ok (.d (dy t)),σ.set k (i9 j a' ae))->C)
  (h2:P=none->∀a' n',e=some (.exc,σ.set k (i9 j a' n'))->C):C:=by
 rcases h.cases with⟨t,l,a',x1,x2,x3,x4⟩|⟨x1,a',n',x2⟩
 ·exact h1 t l a' x1 x2 x3 x4
 ·exact h2 x1 a' n' x2
theorem gL.up{ad:Addr}{P:Ps}(h:gL W n k j ae ah ad P)(p:PS σ k j ah a ae){a' n':Nat}(p':PS (σ.set k (i9 j a' n')) k j ah a' ae)(hl:a'<=ah.length):pV σ k j ah ae ((CN W n).c ad [.inst k] (σ.set k (i9 j a' n'))) (P (ah.drop a')):=by
 have:=h _ a' p' hl;refine this.elim (λt l b e1 e2 e3 e4=> ?_) λe1 b m e4=> ?_
 ·rw[e1,e4];exact⟨b,e2,e3,by rw[eI]⟩
 ·rw[e1,e4];exact⟨b,m,by rw[eI]⟩
theorem PS.lt(p:PS σ k j ah a ae){b:Nat}(h:b<=ah.length):b<1000:=by have:=p.sz;exact(ie (.t A0 (.k 1000)) [.l A0 A1,.t A1 (.k 500)]) h this
theorem QK{ah:List Tk}{a:Nat}{t:Tk}(q:ah.drop a=t::l):oF ah a= .tup [.str t.kind,t.val,.int 1]:=by rw[o0,q];rfl
theorem qB{s:List Nat}(h:gK s l=true):∃l',l= .op s::l':=by
 unfold gK at h;split at h
 ·rw[kc]at h;subst h;exact⟨_,rfl⟩
 ·exact mY h
theorem rU{s:List Nat}(h:fV s l=true):∃l',l= .word s::l':=by
 unfold fV at h;split at h
 ·rw[kc]at h;subst h;exact⟨_,rfl⟩
 ·exact mY h
theorem yD(p:PS σ k j ah a ae)(hn:2<=n){t:Tk}(q:ah.drop a=t::l):(CN W n).c eK [.inst k] σ=some (.ok (.d (.tup [.str t.kind,t.val,.int 1])),σ.set k (i9 j (a+1) ae)):=by rw[N7 p hn,QK q]
theorem Oe(hn:8<=n)(HP:gL W n k j ae ah gh (nc B)):gL W (n+1) k j ae ah eM (gX B):=by
 intro σ a p ha;rw[zX];refine pV.semF rfl ?_;have h1:=qA (W:=W) (n:=n) p ji (by decide) (dq hn rfl);have h2:=qA (W:=W) (n:=n) p gc (by decide) (dq hn rfl);by_cases c:(fV ji (ah.drop a) || fV gc (ah.drop a))=true
 ·obtain⟨w,l,q,hw⟩:∃w l,ah.drop a= .word w::l/\(w=ji\/w=gc):=by
   rw[j9]at c;rcases c with c|c
   ·refine oE (rU c) λl q=> ?_;exact⟨_,l,q,.inl rfl⟩
   ·refine oE (rU c) λl q=> ?_;exact⟨_,l,q,.inr rfl⟩
  refine oA (i5 q) λl1 l2=> ?_;have ht:=yD (W:=W) (n:=n) p (dq hn rfl) q;have hp:=HP.up p (p.move (nest':=ae) (p.lt l1)) l1;rw[vg c];rw[q]at h1 h2 ⊢;rw[l2]at hp;have hx:fV ji (.word w::l)=(w == ji):=rfl;have hy:fV gc (.word w::l)=(w == gc):=rfl;have hz:(gc == ji)=false:=by decide
  rw[hx]at h1;rw[hy]at h2;refine hp.elim (λt r a' e1 e2 e3 e4=> ?_) λe1 a' m' e4=> ?_
  ·rw[show(Tk.word w::l).tail=l from rfl,e1];refine⟨a',e2,e3,?_⟩;rcases hw with rfl|rfl
   ·exact d8 iL λr=>r h1 ht rfl e4 ⟨⟩
   ·exact d8 iL λr=>r h1 h2 ht rfl e4 ⟨⟩
  ·rw[show(Tk.word w::l).tail=l from rfl,e1];refine⟨a',m',?_⟩;rcases hw with rfl|rfl
   ·exact d8 iL λr=>r h1 ht rfl e4 ⟨⟩
   ·exact d8 iL λr=>r h1 h2 ht rfl e4 ⟨⟩
 ·have c1:fV ji (ah.drop a)=false:=by cases q:fV ji (ah.drop a)<;>simp_all
  have c2:fV gc (ah.drop a)=false:=by cases q:fV gc (ah.drop a)<;>simp_all
  rw[c1]at h1;rw[c2]at h2;have hp:=HP σ a p ha;unfold gX;rw[cJ c];refine hp.elim (λt r a' e1 e2 e3 e4=> ?_) λe1 a' m' e4=> ?_
  ·rw[e1];have p':=p.move (nest':=ae) (p.lt e2);have h3:=uc (W:=W) (n:=n) p' gC (by decide) (dq hn rfl);rw[e3,eI]at h3;show pV σ k j ah ae _ (if gK gC r=true then(nc B r.tail).map (λy=>(.bin gC t y.1,y.2))else some (t,r));by_cases c7:gK gC r=true
   ·rw[cH c7]at h3 ⊢;refine oE (qB c7) λl' q'=> ?_;refine oA (i5 (ah:=ah) (a:=a') (by rw[e3,q'])) λl1 l2=> ?_;have hp2:=HP.up p (p.move (nest':=ae) (p.lt l1)) l1;rw[l2]at hp2;subst q';refine hp2.elim (λt2 r2 b f1 f2 f3 f4=> ?_) λf1 b m' f4=> ?_
    ·rw[show(Tk.op gC::l').tail=l' from rfl,f1];refine⟨b,f2,f3,?_⟩;exact d8 iL λr=>r h1 h2 e4 h3 f4 ⟨⟩
    ·rw[show(Tk.op gC::l').tail=l' from rfl,f1];refine⟨b,m',?_⟩;exact d8 iL λr=>r h1 h2 e4 h3 f4 ⟨⟩
   ·rw[cJ c7]at h3 ⊢;refine⟨a',e2,e3,?_⟩;exact d8 iL λr=>r h1 h2 e4 h3 ⟨⟩
  ·rw[e1];refine⟨a',m',?_⟩;exact d8 iL λr=>r h1 h2 e4 ⟨⟩
end
section
variable{k j a ae W:Nat}{ah:List Tk}
def tT(C:Addr->List PV->M PV)(aa:Lo):M Bool:=(LH [(sO (cM (C dO) [(cG aa 0),(cW AJ)])),(sO (cM (C dO) [(cG aa 0),(cW AK)])),(sO (cM (C eH) [(cG aa 0),(cW qf)])),(sO (cM (C eH) [(cG aa 0),(cW qg)]))])
def Y8(C:Addr->List PV->M PV)(aa:Lo):Cm Bool:=(pi [(gv (cI (C dO) [(cF aa 0),(cK AJ)])),(gv (cI (C dO) [(cF aa 0),(cK AK)])),(gv (cI (C eH) [(cF aa 0),(cK qf)])),(gv (cI (C eH) [(cF aa 0),(cK qg)]))])
theorem QL:tT C aa=fG (Y8 C aa):=rfl
def tB(C:Addr->List PV->M PV)(aa:Lo):M Fl:=(dn (dZ aa 2 (dP (cM (C eK) [(cG aa 0)]) (cY 1))) λaa=>(dZ aa 1 (f7 [(cW iQ),(cG aa 2),(cG aa 1),(cM (C eM) [(cG aa 0)])])))
def Y9(C:Addr->List PV->M PV)(aa:Lo):Cm Fl:=(.seq (dA aa 2 (dr (cI (C eK) [(cF aa 0)]) (cL 1))) λaa=>(dA aa 1 (eo [(cK iQ),(cF aa 2),(cF aa 1),(cI (C eM) [(cF aa 0)])])))
theorem W8:tB C aa=fG (Y9 C aa):=rfl
theorem K4(C:Addr->List PV->M PV)(Cf:List PV->M Unit)(Cr:List PV->M PV)(W:Nat)(aa:Lo):oa C Cf Cr W aa=
 dn (dZ aa 1 (cM (C eM) [(cG aa 0)])) λaa=>dn (fw (tT C) (tB C) (λaa=>dF aa) W aa) λaa=>eJ (cG aa 1):=rfl
def vj(σ:List MO)(k j:Nat)(ah:List Tk)(ae:Nat)(i:Nat)(e:Option (R Fl×List MO)):Option (Tr×List Tk)->Prop
 |some (t,l)=>∃a' loc',a'<=ah.length/\ah.drop a'=l/\(loc'[i]?).join=some (.d (dy t))/\(loc'[0]?).join=some (.inst k)/\e=some (.ok (.nxt loc'),σ.set k (i9 j a' ae))
 |none=>∃a' nest',e=some (.exc,σ.set k (i9 j a' nest'))
theorem vj.lift{e e':Option (R Fl×List MO)}{x:MO}(h:vj (σ.set k x) k j ah ae i e P)(he:∀z,e=z->e'=z):vj σ k j ah ae i e' P:=by
 cases P with
 |none=>refine Ka h λb m h=> ?_;exact⟨b,m,by rw[he _ h,eI]⟩
 |some y=>refine IO h λb loc' h1 h2 h3 h4 h=> ?_;exact⟨b,loc',h1,h2,h3,h4,by rw[he _ h,eI]⟩
theorem Im(h:nw l=true):∃t l',l=t::l'/\t.val= .str t.str:=by
 unfold nw at h;simp only[j9]at h;rcases h with((q|q)|q)|q
 ·refine oE (qB q) λl' e=> ?_;exact⟨_,_,e,rfl⟩
 ·refine oE (qB q) λl' e=> ?_;exact⟨_,_,e,rfl⟩
 ·refine oE (rU q) λl' e=> ?_;exact⟨_,_,e,rfl⟩
 ·refine oE (rU q) λl' e=> ?_;exact⟨_,_,e,rfl⟩
theorem Za(p:PS σ k j ah a ae)(hn:2<=n)(v:Option PV)(w:Option PV):tT (CN W n).c [some (.inst k),v,w] σ=some (.ok (nw (ah.drop a)),σ):=by
 have h1:=pT (W:=W) (n:=n) p AJ (by decide) hn;have h2:=pT (W:=W) (n:=n) p AK (by decide) hn;have h3:=qA (W:=W) (n:=n) p qf (by decide) hn;have h4:=qA (W:=W) (n:=n) p qg (by decide) hn;unfold nw
 cases c1:gK AJ (ah.drop a)<;>cases c2:gK AK (ah.drop a)<;>cases c3:fV qf (ah.drop a)<;>cases c4:fV qg (ah.drop a)<;>rw[c1]at h1<;>rw[c2]at h2<;>rw[c3]at h3<;>rw[c4]at h4<;>
  first|exact fX QL λr=>r h1 h2 h3 h4 ⟨⟩|exact fX QL λr=>r h1 h2 h3 ⟨⟩|exact fX QL λr=>r h1 h2 ⟨⟩|exact fX QL λr=>r h1 ⟨⟩
theorem QM(hn:8<=n)(HF:gL W n k j ae ah eM (gX B))(K:Nat):∀(σ:List MO)(a:Nat)(t:Tr)(y:Option PV),PS σ k j ah a ae->a<=ah.length->ah.length -a<K->
  qn B->
  vj σ k j ah ae 1 (fw (tT (CN W n).c) (tB (CN W n).c) (λaa=>dF aa) K [some (.inst k),some (.d (dy t)),y] σ) (mQ B K t (ah.drop a)):=by
 induction K with
 |zero=>intro _ _ _ _ _ _ h;omega
 |succ K ih=>
  intro σ a t y p ha hK hB;have ht:=Za (W:=W) (n:=n) p (dq hn rfl) (some (.d (dy t))) y;unfold mQ;by_cases c:nw (ah.drop a)=true
  ·rw[cH c];rw[c]at ht;refine mZ (Im c) λx l q hx=> ?_;refine oA (i5 q) λl1 l2=> ?_;have hk:=yD (W:=W) (n:=n) p (dq hn rfl) q;rw[hx]at hk;have hp:=HF.up p (p.move (nest':=ae) (p.lt l1)) l1;rw[l2]at hp;rw[q];show vj σ k j ah ae 1 _ ((gX B l).bind λz=>mQ B K (.bin x.str t z.1) z.2);refine hp.elim (λu r a' e1 e2 e3 e4=> ?_) λe1 a' m' e4=> ?_
   ·rw[e1]
    have hb:tB (CN W n).c [some (.inst k),some (.d (dy t)),y] σ=some (.ok (.nxt [some (.inst k),some (.d (dy (.bin x.str t u))),some (.d (.str x.str))]),σ.set k (i9 j a' ae)):=by exact fX W8 λr=>r hk rfl e4 ⟨⟩
    have p':=p.move (nest':=ae) (p.lt e2)
    have hlen:ah.length -a'<K:=by
     have h5:=D3 hB _ _ _ e1;have h6:r.length=ah.length -a':=by rw[<-e3];simp
     have h7:l.length=ah.length - (a+1):=by rw[<-l2];simp
     exact Sg hK l1 e2 h5 h6 h7
    have hi:=ih _ a' (.bin x.str t u) (some (.d (.str x.str))) p' e2 hlen hB;rw[e3]at hi;show vj σ k j ah ae 1 _ (mQ B K (.bin x.str t u) r);exact vj.lift hi λz hz=>(pz ht hb).trans hz
   ·rw[e1]
    have hb:tB (CN W n).c [some (.inst k),some (.d (dy t)),y] σ=some (.exc,σ.set k (i9 j a' m')):=by exact fX W8 λr=>r hk rfl e4 ⟨⟩
    exact⟨a',m',Nh ht hb⟩
  ·rw[cJ c];rw[Bool.not_eq_true _ |>.mp c]at ht
   exact⟨a,[some (.inst k),some (.d (dy t)),y],ha,rfl,rfl,rfl,by rw[p.same];exact rL ht⟩
end
section
variable{k j a ae W:Nat}{ah:List Tk}
theorem vj.ret{i:Nat}{m:M Fl}{P:Option (Tr×List Tk)}{bk:List MO}(h:vj σ k j ah ae i (m bk) P):pV σ k j ah ae (i6 (dn m λaa=>eJ (cG aa i)) bk) P:=by
 cases P with
 |none=>refine Ka h λb q h=> ?_;exact⟨b,q,by(repeat' first|with_reducible exact h|refine' sk rfl ?_|apply sk|rfl)⟩
 |some y=>refine IO h λb loc' h1 h2 h3 h4 h=> ?_;exact⟨b,h1,h2,by simp[i6,bnd,dn,h,cG,Internal.lift,h3,Internal.ret]⟩
theorem UA(hn:8<=n)(hB:qn B)(hW:ah.length<W)(HF:gL W n k j ae ah eM (gX B)):gL W (n+1) k j ae ah gk (mc B W):=by
 intro σ a p ha;rw[DS];refine pV.semF rfl ?_;rw[K4];have hp:=HF σ a p ha;unfold mc;refine hp.elim (λt r a' e1 e2 e3 e4=> ?_) λe1 a' m' e4=> ?_
 ·rw[e1];have p':=p.move (nest':=ae) (p.lt e2);have hl:=QM (W:=W) (n:=n) hn HF W (σ.set k (i9 j a' ae)) a' t none p' e2 (L1 hW e2) hB;rw[e3]at hl;have:=(vj.lift (e':=fw (tT (CN W n).c) (tB (CN W n).c) (λaa=>dF aa) W [some (.inst k),some (.d (dy t)),none] (σ.set k (i9 j a' ae))) hl (λ_ h=>h)).ret;show pV σ k j ah ae _ (mQ B W t r)
  have e:i6 (dn (dZ (eR [.inst k] [] 2) 1 (cM ((CN W n).c eM) [(cG (eR [.inst k] [] 2) 0)])) λaa=>dn (fw (tT (CN W n).c) (tB (CN W n).c) (λaa=>dF aa) W aa) λaa=>eJ (cG aa 1)) σ=i6 (dn (fw (tT (CN W n).c) (tB (CN W n).c) (λaa=>dF aa) W [some (.inst k),some (.d (dy t)),none]) λaa=>eJ (cG aa 1)) (σ.set k (i9 j a' ae)):=by exact qR (qQ (eT (show(CN W n).c eM [.inst k] σ=_ from e4)))
  rw[e];exact this
 ·rw[e1];refine⟨a',m',?_⟩;exact za (Jo (Fd (show(CN W n).c eM [.inst k] σ=_ from e4)))
end
section
variable{k j a ae W:Nat}{ah:List Tk}
def sT(C:Addr->List PV->M PV)(aa:Lo):M Bool:=(LH [(sO (cM (C dO) [(cG aa 0),(cW i8)])),(sO (cM (C dO) [(cG aa 0),(cW iR)])),(sO (cM (C dO) [(cG aa 0),(cW AI)]))])
def Zb(C:Addr->List PV->M PV)(aa:Lo):Cm Bool:=(pi [(gv (cI (C dO) [(cF aa 0),(cK i8)])),(gv (cI (C dO) [(cF aa 0),(cK iR)])),(gv (cI (C dO) [(cF aa 0),(cK AI)]))])
theorem UB:sT C aa=fG (Zb C aa):=rfl
def sB(C:Addr->List PV->M PV)(aa:Lo):M Fl:=(dn (dZ aa 1 (dP (cM (C eK) [(cG aa 0)]) (cY 1))) λaa=>(dZ aa 2 (f7 [(cW iQ),(cG aa 1),(cG aa 2),(cM (C gk) [(cG aa 0)])])))
def Zc(C:Addr->List PV->M PV)(aa:Lo):Cm Fl:=(.seq (dA aa 1 (dr (cI (C eK) [(cF aa 0)]) (cL 1))) λaa=>(dA aa 2 (eo [(cK iQ),(cF aa 1),(cF aa 2),(cI (C gk) [(cF aa 0)])])))
theorem W9:sB C aa=fG (Zc C aa):=rfl
def Xa(C:Addr->List PV->M PV)(aa:Lo):M Fl:=(dn (dZ aa 1 (cW hG)) λaa=>(dn (eS (LH [(sO (cM (C dO) [(cG aa 0),(cW i8)])),(sO (cM (C dO) [(cG aa 0),(cW iR)]))]) (dZ aa 1 (dP (cM (C eK) [(cG aa 0)]) (cY 1))) (dF aa)) λaa=>(dn (dZ aa 2 (cM (C gk) [(cG aa 0)])) λaa=>(eS (dz .NotEq (cG aa 1) (cW hG)) (dZ aa 2 (f7 [(cW lH),(cG aa 1),(cG aa 2)])) (dF aa)))))
def Xb(C:Addr->List PV->M PV)(aa:Lo):Cm Fl:=(.seq (dA aa 1 (cK hG)) λaa=>(.seq (dm (pi [(gv (cI (C dO) [(cF aa 0),(cK i8)])),(gv (cI (C dO) [(cF aa 0),(cK iR)]))]) (dA aa 1 (dr (cI (C eK) [(cF aa 0)]) (cL 1))) (cZ aa)) λaa=>(.seq (dA aa 2 (cI (C gk) [(cF aa 0)])) λaa=>(dm (cV .NotEq (cF aa 1) (cK hG)) (dA aa 2 (eo [(cK lH),(cF aa 1),(cF aa 2)])) (cZ aa)))))
theorem B7:Xa C aa=fG (Xb C aa):=rfl
def smL(C:Addr->List PV->M PV)(W:Nat)(aa:Lo):M Fl:=dn (fw (sT C) (sB C) (λaa=>dF aa) W aa) λaa=>eJ (cG aa 2)
theorem Gq(C:Addr->List PV->M PV)(Cf:List PV->M Unit)(Cr:List PV->M PV)(W:Nat)(aa:Lo):lN C Cf Cr W aa=dn (Xa C aa) (smL C W):=by
 unfold Xa;rw[TG];show dn _ _=_
 congr 1
 funext l;rw[TG]
 congr 1
 funext l;rw[TG];rfl
theorem K5(h:qZ l=true):∃t l',l=t::l'/\t.val= .str t.str:=by unfold qZ at h;simp only[j9]at h;rcases h with(q|q)|q<;>(refine oE (qB q) λl' e=> ?_;exact⟨_,_,e,rfl⟩)
theorem Zd(p:PS σ k j ah a ae)(hn:2<=n)(v:Option PV)(w:Option PV):sT (CN W n).c [some (.inst k),v,w] σ=some (.ok (qZ (ah.drop a)),σ):=by
 have h1:=pT (W:=W) (n:=n) p i8 (by decide) hn;have h2:=pT (W:=W) (n:=n) p iR (by decide) hn;have h3:=pT (W:=W) (n:=n) p AI (by decide) hn;unfold qZ
 cases c1:gK i8 (ah.drop a)<;>cases c2:gK iR (ah.drop a)<;>cases c3:gK AI (ah.drop a)<;>rw[c1]at h1<;>rw[c2]at h2<;>rw[c3]at h3<;>
  first|exact fX UB λr=>r h1 h2 h3 ⟨⟩|exact fX UB λr=>r h1 h2 ⟨⟩|exact fX UB λr=>r h1 ⟨⟩
theorem QN(hn:8<=n)(HF:gL W n k j ae ah gk (mc B W))(K:Nat):∀(σ:List MO)(a:Nat)(t:Tr)(y:Option PV),PS σ k j ah a ae->a<=ah.length->ah.length -a<K->
  qn B->
  vj σ k j ah ae 2 (fw (sT (CN W n).c) (sB (CN W n).c) (λaa=>dF aa) K [some (.inst k),y,some (.d (dy t))] σ) (lT B W K t (ah.drop a)):=by
 induction K with
 |zero=>intro _ _ _ _ _ _ h;omega
 |succ K ih=>
  intro σ a t y p ha hK hB;have ht:=Zd (W:=W) (n:=n) p (dq hn rfl) y (some (.d (dy t)));unfold lT;by_cases c:qZ (ah.drop a)=true
  ·rw[cH c];rw[c]at ht;refine mZ (K5 c) λx l q hx=> ?_;refine oA (i5 q) λl1 l2=> ?_;have hk:=yD (W:=W) (n:=n) p (dq hn rfl) q;rw[hx]at hk;have hp:=HF.up p (p.move (nest':=ae) (p.lt l1)) l1;rw[l2]at hp;rw[q];show vj σ k j ah ae 2 _ ((mc B W l).bind λz=>lT B W K (.bin x.str t z.1) z.2);refine hp.elim (λu r a' e1 e2 e3 e4=> ?_) λe1 a' m' e4=> ?_
   ·rw[e1]
    have hb:sB (CN W n).c [some (.inst k),y,some (.d (dy t))] σ=some (.ok (.nxt [some (.inst k),some (.d (.str x.str)),some (.d (dy (.bin x.str t u)))]),σ.set k (i9 j a' ae)):=by exact fX W9 λr=>r hk rfl e4 ⟨⟩
    have p':=p.move (nest':=ae) (p.lt e2)
    have hlen:ah.length -a'<K:=by
     have h5:=Ie hB W _ _ _ e1;have h6:r.length=ah.length -a':=by rw[<-e3];simp
     have h7:l.length=ah.length - (a+1):=by rw[<-l2];simp
     exact Sg hK l1 e2 h5 h6 h7
    have hi:=ih _ a' (.bin x.str t u) (some (.d (.str x.str))) p' e2 hlen hB;rw[e3]at hi;show vj σ k j ah ae 2 _ (lT B W K (.bin x.str t u) r);exact vj.lift hi λz hz=>(pz ht hb).trans hz
   ·rw[e1]
    have hb:sB (CN W n).c [some (.inst k),y,some (.d (dy t))] σ=some (.exc,σ.set k (i9 j a' m')):=by exact fX W9 λr=>r hk rfl e4 ⟨⟩
    exact⟨a',m',Nh ht hb⟩
  ·rw[cJ c];rw[Bool.not_eq_true _ |>.mp c]at ht
   exact⟨a,[some (.inst k),y,some (.d (dy t))],ha,rfl,rfl,rfl,by rw[p.same];exact rL ht⟩
theorem Of(h:vd l=true):∃t l',l=t::l'/\t.val= .str t.str/\(t.str == hG)=false/\(gK i8 l=true\/gK iR l=true):=by unfold vd at h;simp only[j9]at h;rcases h with q|q<;>(refine oE (qB q) λl' e=> ?_;exact⟨_,_,e,rfl,by decide,by simp[q]⟩)
theorem Og(hn:8<=n)(hB:qn B)(hW:ah.length<W)(HF:gL W n k j ae ah gk (mc B W)):gL W (n+1) k j ae ah dQ (eq B W):=by
 intro σ a p ha;rw[zW];refine pV.semF rfl ?_;rw[Gq];have h1:=pT (W:=W) (n:=n) p i8 (by decide) (dq hn rfl);have h2:=pT (W:=W) (n:=n) p iR (by decide) (dq hn rfl);have c0:l5 (.str hG) (.str hG)=some true:=rfl
 have kF:∀(t:Tr)(y:Option PV)(a':Nat),a'<=ah.length->pV σ k j ah ae (i6 (smL (CN W n).c W [some (.inst k),y,some (.d (dy t))]) (σ.set k (i9 j a' ae))) (lT B W W t (ah.drop a')):=by intro t y a' e2;have p':=p.move (nest':=ae) (p.lt e2);have hl:=QN (W:=W) (n:=n) hn HF W (σ.set k (i9 j a' ae)) a' t y p' e2 (L1 hW e2) hB;exact(vj.lift (e':=fw (sT (CN W n).c) (sB (CN W n).c) (λaa=>dF aa) W [some (.inst k),y,some (.d (dy t))] (σ.set k (i9 j a' ae))) hl (λ_ h=>h)).ret
 unfold eq;by_cases c:vd (ah.drop a)=true
 ·rw[cH c];refine uL (Of c) λx l q hx hxe hor=> ?_;refine oA (i5 q) λl1 l2=> ?_;have hk:=yD (W:=W) (n:=n) p (dq hn rfl) q;rw[hx]at hk;have hp:=HF.up p (p.move (nest':=ae) (p.lt l1)) l1;rw[l2]at hp;have hxe':l5 (.str x.str) (.str hG)=some false:=by show some (x.str == hG)=_;rw[hxe]
  have hor':(gK i8 (ah.drop a)=true)\/(gK i8 (ah.drop a)=false/\gK iR (ah.drop a)=true):=by
   cases c1:gK i8 (ah.drop a)
   ·exact .inr ⟨rfl,hor.resolve_left (by rw[c1];decide)⟩
   ·exact .inl rfl
  rw[q];show pV σ k j ah ae _ ((mc B W l).bind λz=>lT B W W (.un x.str z.1) z.2);refine hp.elim (λt r a' e1 e2 e3 e4=> ?_) λe1 a' m' e4=> ?_
  ·rw[e1];have:=kF (.un x.str t) (some (.d (.str x.str))) a' e2;rw[e3]at this
   have e:Xa (CN W n).c (eR [.inst k] [] 2) σ=some (.ok (.nxt [some (.inst k),some (.d (.str x.str)),some (.d (dy (.un x.str t)))]),σ.set k (i9 j a' ae)):=by
    rcases hor' with c1|⟨c1,c2⟩
    ·rw[c1]at h1;exact fX B7 λr=>r h1 hk rfl e4 (iX hxe') ⟨⟩
    ·rw[c1]at h1;rw[c2]at h2;exact fX B7 λr=>r h1 h2 hk rfl e4 (iX hxe') ⟨⟩
   rw[qR (qQ e)];exact this
  ·rw[e1];refine⟨a',m',?_⟩;rcases hor' with c1|⟨c1,c2⟩
   ·rw[c1]at h1;exact za (Jo (by exact fX B7 λr=>r h1 hk rfl e4 ⟨⟩))
   ·rw[c1]at h1;rw[c2]at h2;exact za (Jo (by exact fX B7 λr=>r h1 h2 hk rfl e4 ⟨⟩))
 ·rw[cJ c];have c1:gK i8 (ah.drop a)=false:=by unfold vd at c;cases q:gK i8 (ah.drop a)<;>simp_all
  have c2:gK iR (ah.drop a)=false:=by unfold vd at c;cases q:gK iR (ah.drop a)<;>simp_all
  rw[c1]at h1;rw[c2]at h2;have hp:=HF σ a p ha;refine hp.elim (λt r a' e1 e2 e3 e4=> ?_) λe1 a' m' e4=> ?_
  ·rw[e1];have:=kF t (some (.d (.str hG))) a' e2;rw[e3]at this
   have e:Xa (CN W n).c (eR [.inst k] [] 2) σ=some (.ok (.nxt [some (.inst k),some (.d (.str hG)),some (.d (dy t))]),σ.set k (i9 j a' ae)):=by exact fX B7 λr=>r h1 h2 e4 (iX c0) ⟨⟩
   rw[qR (qQ e)];exact this
  ·rw[e1];refine⟨a',m',?_⟩;exact za (Jo (by exact fX B7 λr=>r h1 h2 e4 ⟨⟩))
end
section
variable{k j a ae W:Nat}{ah:List Tk}
theorem Eh(x:List Nat)(l:List (List Nat)):(l.map D.str).any (Si x)=l.any (· == x):=by induction l with
 |nil=>rfl
 |cons y l ih=>simp only[jg,lF,ih];rfl
theorem Oh(x:List Nat)(l:List (List Nat)):l.any (· == x)=decide (x ∈ l):=by rw[Bool.eq_iff_iff,List.any_eq_true,decide_eq_true_iff];exact⟨λ⟨y,m,e⟩=>eq_of_beq e▸m,λm=>⟨x,m,beq_self_eq_true x⟩⟩
theorem Io(σ:List MO)(s:List Nat):AD σ s rO=some (decide (s ∈ m7)):=by show some ((m7.map D.str).any (Si s))=_;rw[Eh,Oh]
theorem uf(p:PS σ k j ah a ae)(hn:3<=n):(CN W n).c g7 [.inst k] σ=some (.ok (.d (.str (if jN (ah.drop a)=true then oq (ah.drop a)else hG))),σ):=by
 obtain⟨m,rfl⟩:∃m,n=m+1:=⟨n -1,by exact dp hn rfl⟩;rw[xb];refine dk rfl ?_ rfl;have h1:=Ac (W:=W) (n:=m) p (dl hn rfl);rw[o0]at h1;have e1:l5 (.str i7) (.str i7)=some true:=rfl;have e2:l5 (.str jc) (.str i7)=some false:=rfl;have e3:l5 (.str ic) (.str i7)=some false:=rfl;have e4:l5 (.str fk) (.str i7)=some false:=rfl;have e5:l5 (.str hG) (.str i7)=some false:=rfl;have hi:=λs=>Io σ s;cases q:ah.drop a with
 |nil=>rw[q]at h1;exact d8 je λr=>r h1 rfl (fJ e5) ⟨⟩
 |cons t l=>
  rw[q]at h1;cases t with
  |op s=>
   by_cases c:s ∈ m7
   ·have hi:=Io σ s;rw[eE c]at hi;rw[cH (show jN (.op s::l)=true from eE c)];exact d8 je λr=>r h1 rfl (oD rfl) rfl (xv hi) rfl ⟨⟩
   ·have hi:=Io σ s;rw[ft c]at hi;rw[cJ (λz=>c (of_decide_eq_true z):¬ jN (.op s::l)=true)];exact d8 je λr=>r h1 rfl (oD rfl) rfl (xv hi) ⟨⟩
  |word s=>exact d8 je λr=>r h1 rfl (fJ e5) ⟨⟩
  |name s=>exact d8 je λr=>r h1 rfl (fJ e5) ⟨⟩
  |int s=>exact d8 je λr=>r h1 rfl (fJ e5) ⟨⟩
theorem Oi(hn:8<=n)(hI:LM B)(HS:gL W n k j ae ah dQ (eq B W)):gL W (n+1) k j ae ah gN (xf B W):=by
 intro σ a p ha;rw[zV];refine pV.semF rfl ?_;have hp:=HS σ a p ha;unfold xf;refine hp.elim (λt r a' e1 e2 e3 e4=> ?_) λe1 a' m' e4=> ?_
 ·rw[e1];have p':=p.move (nest':=ae) (p.lt e2);have h3:=uc (W:=W) (n:=n) p' jD (by decide) (dq hn rfl);rw[e3,eI]at h3;show pV σ k j ah ae _ (if gK jD r=true then(eq B W r.tail).map (λy=>(.rng t y.1,y.2))else if yn t=true then some (t,r)else none);by_cases c:gK jD r=true
  ·rw[cH c]at h3 ⊢;refine oE (qB c) λl' q'=> ?_;refine oA (i5 (ah:=ah) (a:=a') (by rw[e3,q'])) λl1 l2=> ?_;have hp2:=HS.up p (p.move (nest':=ae) (p.lt l1)) l1;rw[l2]at hp2;subst q';refine hp2.elim (λt2 r2 b f1 f2 f3 f4=> ?_) λf1 b m' f4=> ?_
   ·rw[show(Tk.op jD::l').tail=l' from rfl,f1];refine⟨b,f2,f3,?_⟩;exact d8 lM λr=>r e4 h3 f4 ⟨⟩
   ·rw[show(Tk.op jD::l').tail=l' from rfl,f1];refine⟨b,m',?_⟩;exact d8 lM λr=>r e4 h3 f4 ⟨⟩
  ·rw[cJ c]at h3 ⊢;have pt:=(Ae hI W _ _ _ (ud a p.ok) e1).1;have hr:=λmsg=>qo (W:=W) (n:=n) p' msg (dq hn rfl);have ht:=B4 pt (σ.set k (i9 j a' ae));have hs:=o4 (σ.set k (i9 j a' ae)) t;by_cases d:yn t=true
   ·rw[cH d];rw[d]at ht;refine⟨a',e2,e3,?_⟩;exact d8 lM λr=>r e4 h3 (dC hs) (Nc ht) ⟨⟩
   ·rw[cJ d];rw[Bool.not_eq_true _ |>.mp d]at ht
    refine⟨a',ae,?_⟩;exact d8 lM λr=>r e4 h3 (dC hs) (Nc ht) (hr _) ⟨⟩
 ·rw[e1];refine⟨a',m',?_⟩;exact d8 lM λr=>r e4 ⟨⟩
def j6(W n k j ae:Nat)(ah:List Tk)(ad:Addr)(P:Tr->Ps):Prop:=
 ∀σ a x,PS σ k j ah a ae->a<=ah.length->pV σ k j ah ae ((CN W n).c ad [.inst k,.d (dy x)] σ) (P x (ah.drop a))
theorem j6.up{ad:Addr}{P:Tr->Ps}(h:j6 W n k j ae ah ad P)(x:Tr){a' n':Nat}(p':PS (σ.set k (i9 j a' n')) k j ah a' ae)(hl:a'<=ah.length):pV σ k j ah ae ((CN W n).c ad [.inst k,.d (dy x)] (σ.set k (i9 j a' n'))) (P x (ah.drop a')):=by
 have:=h _ a' x p' hl;refine this.elim (λt l b e1 e2 e3 e4=> ?_) λe1 b m e4=> ?_
 ·rw[e1,e4];exact⟨b,e2,e3,by rw[eI]⟩
 ·rw[e1,e4];exact⟨b,m,by rw[eI]⟩
theorem wn(h:jN l=true):(oq l == hG)=false:=by have:=Ge h;simp only[m7,dj,dJ,dK]at this;rcases this with q|q|q|q|q|q<;>rw[q]<;>decide
theorem K6(h:jN l=true):∃s l',l= .op s::l':=by
 unfold jN at h;split at h
 ·exact⟨_,_,rfl⟩
 ·exact mY h
theorem K7(hn:8<=n)(HS:gL W n k j ae ah dQ (eq B W))(HM:gL W n k j ae ah gN (xf B W)):j6 W (n+1) k j ae ah eg (mf B W):=by
 intro σ a x p ha;rw[xc];refine pV.semF rfl ?_;have h0:=uf (W:=W) (n:=n) p (dq hn rfl);have hat:=p.at_;have c0:l5 (.str hG) (.str hG)=some true:=rfl;have hset:=p.setO1;have hset2:=p.setO2;unfold mf;by_cases c:jN (ah.drop a)=true
 ·rw[cH c]at h0 ⊢;refine Ka (K6 c) λs l q=> ?_;refine oA (i5 q) λl1 l2=> ?_;have c1:l5 (.str (oq (ah.drop a))) (.str hG)=some false:=by show some (_ == _)=_;rw[wn c]
  have hp:=HS.up p (p.move (nest':=ae) (p.lt l1)) l1;rw[gw]at hp;refine hp.elim (λt r a' e1 e2 e3 e4=> ?_) λe1 a' m' e4=> ?_
  ·rw[e1];have p':=p.move (nest':=ae) (p.lt e2);have h5:=uf (W:=W) (n:=n) p' (dq hn rfl);have hr:=λmsg=>qo (W:=W) (n:=n) p' msg (dq hn rfl);rw[e3]at h5;show pV σ k j ah ae _ (if jN r=true then none else some (.bin (oq (ah.drop a)) x t,r));by_cases d:jN r=true
   ·rw[cH d]at h5 ⊢;have c2:l5 (.str (oq r)) (.str hG)=some false:=by show some (_ == _)=_;rw[wn d]
    refine⟨a',ae,?_⟩;exact d8 fO λr=>r h0 (iX c1) (jV hat hset) e4 h5 (iX c2) (hr _) ⟨⟩
   ·rw[cJ d]at h5 ⊢;refine⟨a',e2,e3,?_⟩;exact d8 fO λr=>r h0 (iX c1) (jV hat hset) e4 h5 (iX c0) ⟨⟩
  ·rw[e1];refine⟨a',m',?_⟩;exact d8 fO λr=>r h0 (iX c1) (jV hat hset) e4 ⟨⟩
 ·rw[cJ c]at h0 ⊢;have h1:=qA (W:=W) (n:=n) p fY (by decide) (dq hn rfl);by_cases ci:fV fY (ah.drop a)=true
  ·rw[cH ci];rw[ci]at h1;refine oE (rU ci) λl q=> ?_;refine oA (i5 q) λl1 l2=> ?_;have hp:=HM.up p (p.move (nest':=ae) (p.lt l1)) l1;rw[gw]at hp;refine hp.elim (λt r a' e1 e2 e3 e4=> ?_) λe1 a' m' e4=> ?_
   ·rw[e1];have p':=p.move (nest':=ae) (p.lt e2);have h5:=uf (W:=W) (n:=n) p' (dq hn rfl);have hr:=λmsg=>qo (W:=W) (n:=n) p' msg (dq hn rfl);rw[e3]at h5;show pV σ k j ah ae _ (if jN r=true then none else some (.mem fY x t,r));by_cases d:jN r=true
    ·rw[cH d]at h5 ⊢;have c2:l5 (.str (oq r)) (.str hG)=some false:=by show some (_ == _)=_;rw[wn d]
     refine⟨a',ae,?_⟩;exact d8 fO λr=>r h0 (iX c0) h1 (jV hat hset) e4 h5 (iX c2) (hr _) ⟨⟩
    ·rw[cJ d]at h5 ⊢;refine⟨a',e2,e3,?_⟩;exact d8 fO λr=>r h0 (iX c0) h1 (jV hat hset) e4 h5 (iX c0) ⟨⟩
   ·rw[e1];refine⟨a',m',?_⟩;exact d8 fO λr=>r h0 (iX c0) h1 (jV hat hset) e4 ⟨⟩
  ·rw[cJ ci];rw[Bool.not_eq_true _ |>.mp ci]at h1
   have h2:=qA (W:=W) (n:=n) p gc (by decide) (dq hn rfl);have h3:=Ec (W:=W) (n:=n) p fY (by decide) (dq hn rfl);by_cases cn:(fV gc (ah.drop a) && fV fY (ah.drop a).tail)=true
   ·rw[cH cn];rw[ej]at cn;rw[cn.1]at h2;rw[cn.2]at h3;refine oE (rU cn.1) λl q=> ?_;refine oA (i5 q) λl1 l2=> ?_;have cn2:=cn.2;rw[<-gw]at cn2;refine oE (rU cn2) λl' q'=> ?_;refine oA (i5 q') λl3 l4=> ?_;have hp:=HM.up p (p.move (nest':=ae) (p.lt l3)) l3;rw[gw,gw]at hp;refine hp.elim (λt r a' e1 e2 e3 e4=> ?_) λe1 a' m' e4=> ?_
    ·rw[e1];have p':=p.move (nest':=ae) (p.lt e2);have h5:=uf (W:=W) (n:=n) p' (dq hn rfl);have hr:=λmsg=>qo (W:=W) (n:=n) p' msg (dq hn rfl);rw[e3]at h5;show pV σ k j ah ae _ (if jN r=true then none else some (.mem fM x t,r));by_cases d:jN r=true
     ·rw[cH d]at h5 ⊢;have c2:l5 (.str (oq r)) (.str hG)=some false:=by show some (_ == _)=_;rw[wn d]
      refine⟨a',ae,?_⟩;exact d8 fO λr=>r h0 (iX c0) h1 h2 h3 (jV hat hset2) e4 h5 (iX c2) (hr _) ⟨⟩
     ·rw[cJ d]at h5 ⊢;refine⟨a',e2,e3,?_⟩;exact d8 fO λr=>r h0 (iX c0) h1 h2 h3 (jV hat hset2) e4 h5 (iX c0) ⟨⟩
    ·rw[e1];refine⟨a',m',?_⟩;exact d8 fO λr=>r h0 (iX c0) h1 h2 h3 (jV hat hset2) e4 ⟨⟩
   ·rw[cJ cn];refine⟨a,ha,rfl,?_⟩;rw[p.same]
    cases d1:fV gc (ah.drop a)<;>cases d2:fV fY (ah.drop a).tail<;>rw[d1]at h2<;>rw[d2]at h3<;>first|(exfalso;rw[d1,d2]at cn;exact cn rfl)|
     first|exact d8 fO λr=>r h0 (iX c0) h1 h2 ⟨⟩|exact d8 fO λr=>r h0 (iX c0) h1 h2 h3 ⟨⟩
end
section
variable{k j a ae W:Nat}{ah:List Tk}
theorem B8(p:PS σ k j ah a ae)(hn:3<=n):(CN W n).c fz [.inst k] σ=some (.ok (.d (.tup [.str (fZ (ah.drop a)).1,.int (fZ (ah.drop a)).2])),σ):=by
 obtain⟨m,rfl⟩:∃m,n=m+1:=⟨n -1,by exact dp hn rfl⟩;rw[yc];refine dk rfl ?_ rfl;have h1:=qA (W:=W) (n:=m) p f8 (by decide) (dl hn rfl);have h2:=Ec (W:=W) (n:=m) p nn (by decide) (dl hn rfl);have h3:=qA (W:=W) (n:=m) p iH (by decide) (dl hn rfl);have h4:=Ec (W:=W) (n:=m) p nq (by decide) (dl hn rfl);have h5:=qA (W:=W) (n:=m) p gf (by decide) (dl hn rfl);unfold fZ;cases c1:fV f8 (ah.drop a)with
 |true=>
  rw[c1]at h1
  cases c2:fV nn (ah.drop a).tail<;>rw[c2]at h2<;>
   exact d8 pK λr=>r h1 h2 ⟨⟩
 |false=>
  rw[c1]at h1;cases c3:fV iH (ah.drop a)with
  |true=>
   rw[c3]at h3
   cases c4:fV nq (ah.drop a).tail<;>rw[c4]at h4<;>
    exact d8 pK λr=>r h1 h3 h4 ⟨⟩
  |false=>
   rw[c3]at h3
   cases c5:fV gf (ah.drop a)<;>rw[c5]at h5<;>
    exact d8 pK λr=>r h1 h3 h5 ⟨⟩
def lB(C:Addr->List PV->M PV)(Cf:List PV->M Unit)(aa:Lo):M Fl:=(dn (E9 aa [3,4] (cM (C fz) [(cG aa 0)])) λaa=>(dn (eS (dz .Eq (cG aa 3) (cW hG)) (eJ (cG aa 1)) (dF aa)) λaa=>(dn (eS (dz .NotEq (cG aa 3) (cG aa 2)) (CR Cf [(cG aa 0),(cW iP)]) (dF aa)) λaa=>(dn (Hu aa ii .Add (cG aa 4) (cG aa 0)) λaa=>(dn (dZ aa 5 (cM (C eg) [(cG aa 0),(cM (C dQ) [(cG aa 0)])])) λaa=>(eS (dz .Eq (cG aa 4) (cY 2)) (dZ aa 1 (f7 [(cG aa 3),(cG aa 1),(cG aa 5)])) (dZ aa 1 (f7 [(cW iQ),(cG aa 3),(cG aa 1),(cG aa 5)]))))))))
def Ze(C:Addr->List PV->M PV)(Cf:List PV->M Unit)(aa:Lo):Cm Fl:=(.seq (tg aa [3,4] (cI (C fz) [(cF aa 0)])) λaa=>(.seq (dm (cV .Eq (cF aa 3) (cK hG)) (df (cF aa 1)) (cZ aa)) λaa=>(.seq (dm (cV .NotEq (cF aa 3) (cF aa 2)) (nZ Cf [(cF aa 0),(cK iP)]) (cZ aa)) λaa=>(.seq (nG aa ii .Add (cF aa 4) (cF aa 0)) λaa=>(.seq (dA aa 5 (cI (C eg) [(cF aa 0),(cI (C dQ) [(cF aa 0)])])) λaa=>(dm (cV .Eq (cF aa 4) (cL 2)) (dA aa 1 (eo [(cF aa 3),(cF aa 1),(cF aa 5)])) (dA aa 1 (eo [(cK iQ),(cF aa 3),(cF aa 1),(cF aa 5)]))))))))
theorem K8:lB C Cf aa=fG (Ze C Cf aa):=rfl
theorem Ei(C:Addr->List PV->M PV)(Cf:List PV->M Unit)(Cr:List PV->M PV)(W:Nat)(aa:Lo):kZ C Cf Cr W aa=
 dn (dZ aa 2 (dP (cM (C fz) [(cG aa 0)]) (cY 0))) λaa=>fw (λ_=>(sO (uV true))) (lB C Cf) (λaa=>(dF aa)) W aa:=rfl
theorem QO{ah:List Tk}{a:Nat}(h:(fZ (ah.drop a)).1≠hG):a+(fZ (ah.drop a)).2<=ah.length/\1<=(fZ (ah.drop a)).2:=by
 have one:∀s,fV s (ah.drop a)=true->a+1<=ah.length:=by intro s q;refine oE (rU q) λl q=> ?_;exact(i5 q).1
 have two:∀s,fV s (ah.drop a).tail=true->a+2<=ah.length:=by intro s q;rw[<-gw]at q;refine oE (rU q) λl q=> ?_;exact(i5 q).1
 unfold fZ at h ⊢
 set_option tactic.hygienic true in split
 ·rename_i q
  set_option tactic.hygienic true in split
  ·rename_i q2;exact⟨two _ q2,by decide⟩
  ·exact⟨one _ q,by decide⟩
 ·set_option tactic.hygienic true in split
  ·rename_i q
   set_option tactic.hygienic true in split
   ·rename_i q2;exact⟨two _ q2,by decide⟩
   ·exact⟨one _ q,by decide⟩
  ·set_option tactic.hygienic true in split
   ·rename_i q;exact⟨one _ q,by decide⟩
   ·rename_i h1 h2 h3;rw[cJ h1,cJ h2,cJ h3]at h;exact absurd rfl h
theorem pV.lift{e e':Option (R PV×List MO)}{x:MO}(h:pV (σ.set k x) k j ah ae e P)(he:∀z,e=z->e'=z):pV σ k j ah ae e' P:=by
 refine h.elim (λt l a' e1 e2 e3 e4=> ?_) λe1 a' m' e4=> ?_
 ·rw[e1];exact⟨a',e2,e3,by rw[he _ e4,eI]⟩
 ·rw[e1];exact⟨a',m',by rw[he _ e4,eI]⟩
theorem QP(hn:8<=n)(hB:qn B)(HS:gL W n k j ae ah dQ (eq B W))(HR:j6 W n k j ae ah eg (mf B W))(first:List Nat)(K:Nat):∀(σ:List MO)(a:Nat)(t:Tr)(y3 y4 y5:Option PV),PS σ k j ah a ae->a<=ah.length->ah.length -a<K->
  pV σ k j ah ae (i6 (fw (λ_=>(sO (uV true))) (lB (CN W n).c (CN W n).f) (λaa=>dF aa) K [some (.inst k),some (.d (dy t)),some (.d (.str first)),y3,y4,y5]) σ) (nf B W first K t (ah.drop a)):=by
 induction K with
 |zero=>intro _ _ _ _ _ _ _ _ h;omega
 |succ K ih=>
  intro σ a t y3 y4 y5 p ha hK;have h0:=B8 (W:=W) (n:=n) p (dq hn rfl);have hat:=p.at_;have ee:∀x y:List Nat,l5 (.str x) (.str y)=some (x == y):=λ_ _=>rfl;unfold nf;by_cases c:(fZ (ah.drop a)).1=hG
  ·rw[cH c];refine⟨a,ha,rfl,?_⟩;rw[p.same];rw[c]at h0;have cz:(hG == hG)=true:=rfl;exact So (TH rfl (by exact fX K8 λr=>r h0 (fJ (ee _ _)) ⟨⟩))
  ·rw[cJ c];have c':((fZ (ah.drop a)).1 == hG)=false:=by simpa using c
   by_cases d:(fZ (ah.drop a)).1=first
   ·rw[cJ (not_not_intro d)];refine oA (QO c) λl1 l2=> ?_;have p1:=p.move (nest':=ae) (p.lt l1)
    have hset:∀f:Unit->M Fl,Internal.setO ii (.inst k) (.d (.int ((a:Int)+((fZ (ah.drop a)).2:Nat)))) f σ=f () (σ.set k (i9 j (a+(fZ (ah.drop a)).2) ae)):=by intro f;rw[show((a:Int)+((fZ (ah.drop a)).2:Nat))=((a+(fZ (ah.drop a)).2:Nat):Int) by exact(ie (.E (.a (.c A0) (.c A1)) (.c (.a A0 A1))) [])];exact p.setO _ f
    have hp:=HS.up p p1 l1;have hdr:ah.drop (a+(fZ (ah.drop a)).2)=(ah.drop a).drop (fZ (ah.drop a)).2:=by rw[List.drop_drop]
    rw[hdr]at hp;have hlw:=Ad (ah.drop a);obtain⟨w,sz',hw⟩:∃w s,fZ (ah.drop a)=(w,s):=⟨_,_,rfl⟩;rw[hw]at h0 c c' d l1 l2 p1 hset hp hdr hlw ⊢;simp only at h0 c c' d l1 l2 p1 hset hp hdr hlw ⊢;subst d;have d':(w == w)=true:=by simp
    refine hp.elim (λu r a' e1 e2 e3 e4=> ?_) λe1 a' m' e4=> ?_
    ·rw[e1];show pV σ k j ah ae _ ((mf B W u r).bind λz=>nf B W w K (Gd w sz' t z.1) z.2);have p2:=p.move (nest':=ae) (p.lt e2);have hp2:=HR.up u p2 e2;rw[e3]at hp2;refine hp2.elim (λv r2 b f1 f2 f3 f4=> ?_) λf1 b m' f4=> ?_
     ·rw[f1];show pV σ k j ah ae _ (nf B W w K (Gd w sz' t v) r2);have p3:=p.move (nest':=ae) (p.lt f2)
      have hlen:ah.length -b<K:=by
       have h5:=KV hB W _ _ _ _ f1;have h6:=D4 hB W _ _ _ e1;have h7:r2.length=ah.length -b:=by rw[<-f3];simp
       rw[<-hdr]at h6;rw[mh]at h6;exact(Kf (.t (.s A1 A4) A2) [.l A0 A1,.t (.s A1 A0) (.a A2 K1),.l K1 A3,.l (.a A0 A3) A1,.l A4 A1,.l A5 A6,.l A6 (.s A1 (.a A0 A3)),.e A5 (.s A1 A4)]) ha hK l2 l1 f2 h5 h6 h7
      have hi:=ih _ b (Gd w sz' t v) (some (.d (.str w))) (some (.d (.int sz'))) (some (.d (dy v))) p3 f2 hlen;rw[f3]at hi
      have hb:lB (CN W n).c (CN W n).f [some (.inst k),some (.d (dy t)),some (.d (.str w)),y3,y4,y5] σ=some (.ok (.nxt [some (.inst k),some (.d (dy (Gd w sz' t v))),some (.d (.str w)),some (.d (.str w)),some (.d (.int sz')),some (.d (dy v))]),σ.set k (i9 j b ae)):=by
       rcases hlw with q|⟨q,-,-⟩|⟨q,-,-⟩
       ·simp only[j8]at q;exact absurd q.1 c
       ·subst q;have ei:l5 (.int ((2:Nat):Int)) (.int 2)=some true:=rfl;simp at hset ei h0 ⊢;exact fX K8 λr=>r h0 (mT c') (pS d') (jV hat hset) e4 f4 (fJ ei) ⟨⟩
       ·subst q;have ei:l5 (.int ((1:Nat):Int)) (.int 2)=some false:=rfl;simp at hset ei h0 ⊢;exact fX K8 λr=>r h0 (mT c') (pS d') (jV hat hset) e4 f4 (fJ ei) ⟨⟩
      exact pV.lift hi λz hz=>(qR (pz rfl hb)).trans hz
     ·rw[f1];refine⟨b,m',?_⟩;exact za (Nh rfl (by exact fX K8 λr=>r h0 (mT c') (pS d') (jV hat hset) e4 f4 ⟨⟩))
    ·rw[e1];refine⟨a',m',?_⟩;exact za (Nh rfl (by exact fX K8 λr=>r h0 (mT c') (pS d') (jV hat hset) e4 ⟨⟩))
   ·rw[cH d];have d':((fZ (ah.drop a)).1 == first)=false:=by simpa using d
    have hr:=λmsg=>qo (W:=W) (n:=n) p msg (dq hn rfl);refine⟨a,ae,?_⟩;rw[p.same];exact za (Nh rfl (by exact fX K8 λr=>r h0 (mT c') (pS d') (hr _) ⟨⟩))
theorem K9(hn:8<=n)(hB:qn B)(hW:ah.length<W)(HS:gL W n k j ae ah dQ (eq B W))(HR:j6 W n k j ae ah eg (mf B W)):j6 W (n+1) k j ae ah gg (ve B W):=by
 intro σ a x p ha;rw[yd];refine pV.semF rfl ?_;rw[Ei];have h0:=B8 (W:=W) (n:=n) p (dq hn rfl);have hl:=QP hn hB HS HR (fZ (ah.drop a)).1 W σ a x none none none p ha (L1 hW ha);unfold ve
 have e:i6 (dn (dZ (eR [.inst k,.d (dy x)] [] 4) 2 (dP (cM ((CN W n).c fz) [(cG (eR [.inst k,.d (dy x)] [] 4) 0)]) (cY 0))) λaa=>fw (λ_=>(sO (uV true))) (lB (CN W n).c (CN W n).f) (λaa=>(dF aa)) W aa) σ=i6 (fw (λ_=>(sO (uV true))) (lB (CN W n).c (CN W n).f) (λaa=>dF aa) W [some (.inst k),some (.d (dy x)),some (.d (.str (fZ (ah.drop a)).1)),none,none,none]) σ:=by have hs:gZ σ (.d (.tup [.str (fZ (ah.drop a)).1,.int (fZ (ah.drop a)).2])) (.d (.int 0))=some (.d (.str (fZ (ah.drop a)).1)):=rfl;exact qR (qQ (eT (show bnd _ _ σ=_ from(eT (show(CN W n).c fz [.inst k] σ=_ from h0)).trans (dC hs))))
 rw[e];exact hl
theorem Oj(hn:8<=n)(g:rS ah)(HS:gL W n k j ae ah dQ (eq B W))(p:PS σ k j ah a ae)(ha:a<=ah.length)(x:Tr):pV σ k j ah ae ((CN W (n+1)).c gM [.inst k,.d (dy x)] σ) (if gK jD (ah.drop a)=true then(eq B W (ah.drop a).tail).map (λy=>(.rng x y.1,y.2))else some (x,ah.drop a)):=by
 rw[zY];refine pV.semF rfl ?_;have h3:=uc (W:=W) (n:=n) p jD (by decide) (dq hn rfl);by_cases c:gK jD (ah.drop a)=true
 ·rw[cH c]at h3 ⊢;refine oE (qB c) λl' q'=> ?_;refine oA (i5 (ah:=ah) (a:=a) q') λl1 l2=> ?_;have hp2:=HS.up p (p.move (nest':=ae) (p.lt l1)) l1;rw[gw]at hp2;refine hp2.elim (λt2 r2 b f1 f2 f3 f4=> ?_) λf1 b m' f4=> ?_
  ·rw[f1];refine⟨b,f2,f3,?_⟩;exact d8 nI λr=>r h3 f4 ⟨⟩
  ·rw[f1];refine⟨b,m',?_⟩;exact d8 nI λr=>r h3 f4 ⟨⟩
 ·rw[cJ c]at h3 ⊢;have w1:=wj (W:=W) (n:=n) p fD (by decide) (g.noWd a (by decide)) (dq hn rfl);have hs:=o4 σ x;obtain⟨b,ht⟩:∃b,AD σ (Bx x) qU=some b:=⟨_,rfl⟩;refine⟨a,ha,rfl,?_⟩;rw[p.same]
  cases b<;>
   first|exact d8 nI λr=>r h3 (dC hs) (xv ht) ⟨⟩|exact d8 nI λr=>r h3 (dC hs) (xv ht) w1 ⟨⟩
end
section
variable{k j a ae W:Nat}{ah:List Tk}
theorem B9(p:PS σ k j ah a ae)(h:ae≠0)(hn:1<=n)(x:D):(CN W n).c gU [.inst k,.d x] σ=some (.ok (.d x),σ):=by
 obtain⟨m,rfl⟩:∃m,n=m+1:=⟨n -1,by exact dp hn rfl⟩;rw[sA];refine dk rfl ?_ rfl;have h1:=p.nest_;have e:l5 (.int (ae:Nat)) (.int 0)=some false:=by show some (_ == _)=_;simp[h]
 exact d8 tw λr=>r (nj h1) (fJ e) ⟨⟩
def QQ(B:Ps)(W:Nat)(x:Tr):Ps:=λl=>if gK jD l=true then(eq B W l.tail).map (λy=>(.rng x y.1,y.2))else some (x,l)
theorem La(hn:8<=n)(g:rS ah)(HS:gL W n k j ae ah dQ (eq B W)):j6 W (n+1) k j ae ah gM (QQ B W):=
 λ_ _ x p ha=>Oj hn g HS p ha x
theorem Ol(hn:8<=n)(g:rS ah)(hN:ae≠0)(hI:LM B)(hR:LN B)(HS:gL W n k j ae ah dQ (eq B W))(HE:j6 W n k j ae ah gM (QQ B W))(HR:j6 W n k j ae ah eg (mf B W))(HL:j6 W n k j ae ah gg (ve B W)):gL W (n+1) k j ae ah gW (mR B W):=by
 intro σ a p ha;rw[yf];refine pV.semF rfl ?_;have w1:=wj (W:=W) (n:=n) p lI (by decide) (g.noWd a (by decide)) (dq hn rfl);have hp:=HS σ a p ha;have ee:∀x y:List Nat,l5 (.str x) (.str y)=some (x == y):=λ_ _=>rfl;unfold mR;refine hp.elim (λt r a' e1 e2 e3 e4=> ?_) λe1 a' m' e4=> ?_
 ·rw[e1];have p':=p.move (nest':=ae) (p.lt e2);have hx:=HE.up t p' e2;rw[e3]at hx;unfold QQ at hx;show pV σ k j ah ae _ (if gK jD r=true then(eq B W r.tail).map (λy=>(.rng t y.1,y.2))else(mf B W t r).bind λy=>ve B W y.1 y.2);by_cases c:gK jD r=true
  ·rw[cH c]at hx ⊢;cases e5:eq B W r.tail with
   |none=>
    rw[e5]at hx;refine Ka hx λb q f4=> ?_;clear hx;refine⟨b,q,?_⟩;exact d8 jG λr=>r w1 e4 f4 ⟨⟩
   |some y=>
    rw[e5]at hx;refine ot hx λb f2 f3 f4=> ?_;clear hx;have p2:=p.move (nest':=ae) (p.lt f2);have hb:=B9 (W:=W) (n:=n) p2 hN (dq hn rfl) (dy (.rng t y.1));have hs:=o4 (σ.set k (i9 j b ae)) (.rng t y.1);have hs':(Bx (.rng t y.1) == fD)=true:=rfl;refine⟨b,f2,f3,?_⟩;exact d8 jG λr=>r w1 e4 f4 (dC hs) (iX (ee _ _)) hb ⟨⟩
  ·rw[cJ c]at hx ⊢;refine ot hx λb f2 f3 f4=> ?_;clear hx;have p2:=p.move (nest':=ae) (p.lt f2);have pt:=(Ae hI W _ _ _ (ud a p.ok) e1).1;have hs:=o4 (σ.set k (i9 j b ae)) t;have hs':(Bx t == fD)=false:=by rw[B5 pt];exact Ik hR W _ _ _ e1
   have hs2:=JG pt;have hr:=HR.up t p2 f2;rw[f3]at hr;refine hr.elim (λu r2 c2 g1 g2 g3 g4=> ?_) λg1 c2 m' g4=> ?_
   ·have p3:=p.move (nest':=ae) (p.lt g2);have hl:=HL.up u p3 g2;rw[g3]at hl;rw[g1];show pV σ k j ah ae _ (ve B W u r2);refine hl.elim (λv r3 d i1 i2 i3 i4=> ?_) λi1 d m' i4=> ?_
    ·rw[i1];have p4:=p.move (nest':=ae) (p.lt i2);have hb:=B9 (W:=W) (n:=n) p4 hN (dq hn rfl) (dy v);refine⟨d,i2,i3,?_⟩;exact d8 jG λr=>r w1 e4 f4 (dC hs) (pS hs') (dC hs) (pS hs2) g4 i4 hb ⟨⟩
    ·rw[i1];refine⟨d,m',?_⟩;exact d8 jG λr=>r w1 e4 f4 (dC hs) (pS hs') (dC hs) (pS hs2) g4 i4 ⟨⟩
   ·rw[g1];refine⟨c2,m',?_⟩;exact d8 jG λr=>r w1 e4 f4 (dC hs) (pS hs') (dC hs) (pS hs2) g4 ⟨⟩
 ·rw[e1];refine⟨a',m',?_⟩;exact d8 jG λr=>r w1 e4 ⟨⟩
theorem PV.below_mono{a b:Nat}(h:a<=b){v:PV}(hv:v.below a=true):v.below b=true:=by cases v<;>simp_all [PV.below]<;>exact(kI (.t A2 A1) [.l A0 A1,.t A2 A0]) h hv
theorem MO.below_mono{a b:Nat}(h:a<=b){o:MO}(ho:o.below a=true):o.below b=true:=by
 cases o with
 |list=>rfl
 |dict kvs=>simp only[MO.below,fu]at ho ⊢;exactλx hx=>PV.below_mono h (ho x hx)
 |obj kvs=>simp only[MO.below,fu]at ho ⊢;exactλx hx=>PV.below_mono h (ho x hx)
theorem PS.app(p:PS σ k j ah a ae)(ds:List D):PS (σ++[.list ds]) k j ah a ae:=by
 have hk:=(ek.mp p.hk).1;have hj:=(ek.mp p.hj).1;refine⟨by rw[fH hk];exact p.hk,by rw[fH hj];exact p.hj,p.ne,p.sz,p.ok,p.pos,?_⟩;have hc:=p.cl;unfold Cl at hc ⊢;rw[fu]at hc ⊢;intro o ho;rw[eF]at ho;rcases ho with h|h
 ·exact MO.below_mono (by simp) (hc o h)
 ·simp only[ff]at h;subst h;rfl
theorem ug{kk:Nat}{m:Lo->M Fl}{more:Nat}{v:PV}(hk:vs.length=kk)(e:i6 (m (eR vs ds more)) σ=some (.ok v,σ'))(hv:v.below σ.length=false):semF kk m ds more vs σ=some (.ok v,σ'):=by unfold semF sZ;rw[cH hk,e];simp[hv]
theorem Ca{kk:Nat}{m:Lo->M Fl}{more:Nat}{σ₁ junk:List MO}(hk:vs.length=kk)(e:i6 (m (eR vs ds more)) σ=some (.exc,σ₁++junk))(hl:σ₁.length=σ.length)(hc:Cl σ₁):semF kk m ds more vs σ=some (.exc,σ₁):=by
 unfold semF sZ;rw[cH hk,e];have:(σ₁++junk).take σ.length=σ₁:=by rw[<-hl];simp
 unfold Cl at hc;rw[hl]at hc;simp only[this,hc];rfl
def Lb(σ:List MO)(k j:Nat)(ah:List Tk)(ae:Nat)(f:Tr->PV)(ext:Tr->List MO)(e:Option (R PV×List MO)):Option (Tr×List Tk)->Prop
 |some (t,l)=>∃a',a'<=ah.length/\ah.drop a'=l/\e=some (.ok (f t),σ.set k (i9 j a' ae)++ext t)
 |none=>∃a' nest',e=some (.exc,σ.set k (i9 j a' nest'))
theorem Lb.cases{f:Tr->PV}{ext:Tr->List MO}{e:Option (R PV×List MO)}(h:Lb σ k j ah ae f ext e P):
  (∃t l a',P=some (t,l)/\a'<=ah.length/\ah.drop a'=l/\e=some (.ok (f t),σ.set k (i9 j a' ae)++ext t))\/(P=none/\∃a' n',e=some (.exc,σ.set k (i9 j a' n'))):=by
 cases P with
 |none=>exact .inr ⟨rfl,h⟩
 |some x=>(refine ot h λa' h1 h2 h3=> ?_;clear h);exact .inl ⟨x.1,x.2,a',rfl,h1,h2,h3⟩
theorem Gr(n:Nat)(l:List Tk):ops (l.drop n)<=ops l:=by
 induction n generalizing l with
 |zero=>simp
 |succ n ih=>cases l with
  |nil=>simp
  |cons x l=>exact gp (ih l) (wl (x::l))
theorem Ej(hn:8<=n)(g:rS ah)(hI:LM B)(ho:ops ah<=62)(HC:gL W n k j ae ah gW (mR B W))(p:PS σ k j ah a ae)(ha:a<=ah.length):Lb σ k j ah ae (λt=> .d (.tup [.none,dy t])) (λ_=>[]) ((CN W (n+1)).c jm [.inst k] σ) (mR B W (ah.drop a)):=by
 rw[Bj];have hp:=HC σ a p ha;refine hp.elim (λt r a' e1 e2 e3 e4=> ?_) λe1 a' m' e4=> ?_
 ·rw[e1];have p':=p.move (nest':=ae) (p.lt e2);have f1:=pT (W:=W) (n:=n) p' Jp (by decide) (dq hn rfl);rw[g.noOp a' (by decide)]at f1;have f2:=pT (W:=W) (n:=n) p' BU (by decide) (dq hn rfl);rw[g.noOp a' (by decide)]at f2;refine wB (Af hI W _ _ _ (ud a p.ok) e1) λi1 i2 i3=> ?_;have hz:=Gr a ah;have h5:=Il i1 ((lx (.l A1 (.k 62)) [.l A0 (.k 62),.l (.a A1 A2) A3,.l A3 A0]) ho i3 hz);refine⟨a',e2,e3,?_⟩;refine dk rfl ?_ (by simp);exact pX vV (λr=>r e4 f1 f2 (fJ h5) ⟨⟩) (by rw[gD];rfl)
 ·rw[e1];refine⟨a',m',?_⟩;refine dk rfl ?_ (by simp);exact d8 vV λr=>r e4 ⟨⟩
theorem Gs{P:Ps}(hn:8<=n)(g:rS ah)(hW:0<W)(p:PS σ k j ah a ae)(HA:Lb σ k j ah ae (λt=> .d (.tup [.none,dy t])) (λ_=>[]) ((CN W n).c jm [.inst k] σ) (P (ah.drop a))):Lb σ k j ah ae (λ_=> .ref σ.length) (λt=>[.list [.tup [.none,dy t]]]) ((CN W (n+1)).c jK [.inst k] σ) (P (ah.drop a)):=by
 obtain⟨W',hW'⟩:∃w,W=w+1:=⟨W -1,by exact qG hW rfl⟩;rw[DT];rcases HA.cases with⟨t,r,a',e1,e2,e3,e4⟩|⟨e1,a',m',e4⟩
 ·rw[e1];rw[gD]at e4;have p':=(p.move (nest':=ae) (p.lt e2)).app [.tup [.none,dy t]];have f1:=uc (W:=W) (n:=n) p' Jq (by decide) (dq hn rfl);rw[g.noOp a' (by decide)]at f1;simp only[jf,if_false]at f1;refine⟨a',e2,e3,?_⟩;refine ug rfl ?_ (by simp[PV.below]);simp only[hW']at *;exact pX xG (λr=>r e4 (PY (fX rfl λr=>r f1 ⟨⟩) rfl) ⟨⟩) (by rw[List.length_set];rfl)
 ·rw[e1];refine⟨a',m',?_⟩;refine dk rfl ?_ (by simp);exact d8 xG λr=>r e4 ⟨⟩
theorem Om(ht:PT t)(hW:1<W)(hn:5<=n)(p:PS σ k j ah a ae)(hi:σ[i]? =some (.list [.tup [.none,dy t]])):(CN W n).c iD [.inst k,.ref i] σ=if q0 t then some (.exc,σ)else some (.ok (.d .none),σ):=by
 obtain⟨m,rfl⟩:∃m,n=m+1:=⟨n -1,by exact dp hn rfl⟩;obtain⟨W',rfl⟩:∃w,W=w+2:=⟨W -2,by exact qG hW rfl⟩;rw[xd];have hg:dW σ (.ref i)=some [.tup [.none,dy t]]:=by simp only[dW,hi]
 have hr:=λmsg=>qo (W:=W'+2) (n:=m) p msg (dl hn rfl);have hs:=o4 σ t;have n0:uQ (.ref i) 0 σ=some (some (.d (.tup [.none,dy t]))):=by unfold uQ;rw[hg];rfl
 have n1:uQ (.ref i) 1 σ=some none:=by unfold uQ;rw[hg];rfl
 have h1:=B5 ht;have h2:=JG ht;cases c:q0 t with
 |true=>
  rw[c]at h1;refine dk rfl ?_ rfl;exact d8 sw λr=>r (YD n0 rfl (fX rfl λr=>r (dC hs) (mT h1) (hr _) ⟨⟩)) ⟨⟩
 |false=>
  rw[c]at h1;refine dk rfl ?_ rfl;exact d8 sw λr=>r (TK n0 rfl (fX rfl λr=>r (dC hs) (mT h1) (dC hs) (mT h2) ⟨⟩) n1) ⟨⟩
theorem UC(ht:PT t)(g:rS ah)(hn:4<=n)(p:PS σ k j ah a ae):(CN W n).c iU [.inst k,.d (dy t)] σ=some (.ok (.d (dy (v7 t))),σ):=by
 obtain⟨m,rfl⟩:∃m,n=m+1:=⟨n -1,by exact dp hn rfl⟩;rw[yg];refine dk rfl ?_ rfl;have w1:=wj (W:=W) (n:=m) p zc (by decide) (g.noWd a (by decide)) (dl hn rfl);have hs:=o4 σ t;have h1:=B4 ht σ;unfold v7
 cases c:yn t<;>rw[c]at h1<;>
  exact d8 zr λr=>r w1 (dC hs) (xv h1) ⟨⟩
theorem On(hn:5<=n)(p:PS σ k j ah a ae):(CN W n).c kS [.inst k] σ=if ae<24 then some (.ok (.d .none),σ.set k (i9 j a (ae+1)))else some (.exc,σ.set k (i9 j a (ae+1))):=by
 obtain⟨m,rfl⟩:∃m,n=m+1:=⟨n -1,by exact dp hn rfl⟩;rw[DR];have h1:=p.nest_;have hset:∀f:Unit->M Fl,Internal.setO gb (.inst k) (.d (.int ((ae:Int)+1))) f σ=f () (σ.set k (i9 j a (ae+1))):=λf=>p.setN (ae+1) f;have p':=p.move (nest':=ae+1) p.pos;have h2:=p'.nest_;have hr:=λmsg=>qo (W:=W) (n:=m) p' msg (dl hn rfl);have hm:pJ= .d (.int 24):=rfl;by_cases c:ae<24
 ·rw[cH c];refine dk rfl ?_ (by simp);have c1:¬(24<(ae:Int)+1):=(lE (.n (.S (.k 24) (.a (.c A0) (.k 1)))) [.t A0 (.k 24)]) c;exact d8 xE λr=>r (jV h1 hset) (nj h2) (show ir .Gt (.d (.int ((ae+1:Nat):Int))) (.d (.int 24)) _=_ from y8 c1) ⟨⟩
 ·rw[cJ c];refine dk rfl ?_ (by simp);have c1:(24<(ae:Int)+1):=(lE (.S (.k 24) (.a (.c A0) (.k 1))) [.n (.t A0 (.k 24))]) c;exact d8 xE λr=>r (jV h1 hset) (nj h2) (show ir .Gt (.d (.int ((ae+1:Nat):Int))) (.d (.int 24)) _=_ from Nb c1) (hr _) ⟨⟩
theorem QR(hn:1<=n)(p:PS σ k j ah a (ae+1)):(CN W n).c jX [.inst k] σ=some (.ok (.d .none),σ.set k (i9 j a ae)):=by
 obtain⟨m,rfl⟩:∃m,n=m+1:=⟨n -1,by exact dp hn rfl⟩;rw[Bh];have h1:=p.nest_
 have hset:∀f:Unit->M Fl,Internal.setO gb (.inst k) (.d (.int (((ae+1:Nat):Int) -1))) f σ=f () (σ.set k (i9 j a ae)):=by intro f;rw[show(((ae+1:Nat):Int) -1)=(ae:Nat) by exact(lE (.E (.s (.c (.a A0 (.k 1))) (.k 1)) (.c A0)) [])];exact p.setN ae f
 refine dk rfl ?_ (by simp);exact d8 C7 λr=>r (jV h1 hset) ⟨⟩
end
section
variable{k j a ae W:Nat}{ah:List Tk}
theorem Ek(σ:List MO)(k:Nat)(x:MO):(σ.set k x).length=σ.length:=List.length_set
theorem UD(hn:6<=n):wk W n k j 24 ah (pB W 0):=by intro σ a p hs;obtain⟨m,rfl⟩:∃m,n=m+1:=⟨n -1,by exact dp hn rfl⟩;rw[sC];refine oE (qB hs) λl q=> ?_;refine oA (i5 q) λl1 l2=> ?_;have h1:=Ed (W:=W) (n:=m) p fT (by decide) (by decide) (dl hn rfl);rw[cH hs]at h1;have h2:=On (W:=W) (n:=m) (dl hn rfl) (p.move (nest':=24) (p.lt l1));rw[cJ (by decide),eI]at h2;refine⟨a+1,24+1,?_⟩;refine dk rfl ?_ (by simp);exact d8 k8 λr=>r h1 h2 ⟨⟩
theorem Xc(hn:8<=n)(g:rS ah)(hW:1<W)(hlt:ae<24)(hI:LM B)(HA:∀σ a,PS σ k j ah a (ae+1)->a<=ah.length->Lb σ k j ah (ae+1) (λ_=> .ref σ.length) (λt=>[.list [.tup [.none,dy t]]]) ((CN W n).c jK [.inst k] σ) (mR B W (ah.drop a))):wk W (n+1) k j ae ah (Vv B W):=by
 intro σ a p hs;rw[sC];refine oE (qB hs) λl q=> ?_;refine oA (i5 q) λl1 l2=> ?_;have h1:=Ed (W:=W) (n:=n) p fT (by decide) (by decide) (dq hn rfl);rw[cH hs]at h1;have h2:=On (W:=W) (n:=n) (dq hn rfl) (p.move (nest':=ae) (p.lt l1));rw[cH hlt,eI]at h2;have p1:=p.move (nest':=ae+1) (p.lt l1);have h3:=qA (W:=W) (n:=n) p1 rM (by decide) (dq hn rfl);rw[g.noWd _ (by decide)]at h3;have ha:=HA _ _ p1 l1;rw[l2,Ek]at ha;rw[q];unfold Vv;rcases ha.cases with⟨t,r,a',e1,e2,e3,e4⟩|⟨e1,a',m',e4⟩
 ·rw[eI]at e4;rw[show(Tk.op fT::l).tail=l from rfl,e1];show pV σ k j ah ae _ (if q0 t=true then none else if gK eY r=true then some (v7 t,r.tail)else none);have pt:=(Af hI W _ _ _ (by rw[<-l2];exact ud (a+1) p.ok) e1).1;have p2:=p.move (nest':=ae+1) (p.lt e2);have p3:=p2.app [.tup [.none,dy t]]
  have hi:(σ.set k (i9 j a' (ae+1))++[MO.list [.tup [.none,dy t]]])[σ.length]? =some (.list [.tup [.none,dy t]]):=by rw[nN (by simp)];simp
  have hg:dW (σ.set k (i9 j a' (ae+1))++[MO.list [.tup [.none,dy t]]]) (.ref σ.length)=some [.tup [.none,dy t]]:=by simp only[dW,hi]
  have h5:=Om (W:=W) (n:=n) pt hW (dq hn rfl) p3 hi;by_cases c:q0 t=true
  ·rw[cH c]at h5 ⊢;refine⟨a',ae+1,?_⟩;refine Ca (σ₁:=σ.set k (i9 j a' (ae+1))) (junk:=[MO.list [.tup [.none,dy t]]]) rfl ?_ (by simp) p2.cl;exact d8 k8 λr=>r h1 h2 h3 e4 h5 ⟨⟩
  ·rw[cJ c]at h5 ⊢;have h6:=UC (W:=W) (n:=n) pt g (dq hn rfl) p3;have h7:=Ed (W:=W) (n:=n) p3 eY (by decide) (by decide) (dq hn rfl);rw[e3]at h7
   have ss:∀x,gZ (σ.set k (i9 j a' (ae+1))++[MO.list [.tup [.none,dy t]]]) (.ref σ.length) (.d (.int 0))=x->x=some (.d (.tup [.none,dy t])):=by intro x hx;rw[<-hx];simp[gZ,dW,hi,seqIndex?]
   have ss:=ss _ rfl;have s0:gZ (σ.set k (i9 j a' (ae+1))++[MO.list [.tup [.none,dy t]]]) (.d (.tup [.none,dy t])) (.d (.int 0))=some (.d .none):=rfl;have s1:gZ (σ.set k (i9 j a' (ae+1))++[MO.list [.tup [.none,dy t]]]) (.d (.tup [.none,dy t])) (.d (.int 1))=some (.d (dy t)):=rfl;have ei:l5 (.int 1) (.int 1)=some true:=rfl;by_cases d:gK eY r=true
   ·rw[cH d]at h7 ⊢;refine oE (qB d) λl' q'=> ?_;refine oA (i5 (ah:=ah) (a:=a') (by rw[e3,q'])) λl3 l4=> ?_
    have hsa:(σ.set k (i9 j a' (ae+1))++[MO.list [.tup [.none,dy t]]]).set k (i9 j (a'+1) (ae+1))=σ.set k (i9 j (a'+1) (ae+1))++[MO.list [.tup [.none,dy t]]]:=by rw[List.set_append_left _ _ (by rw[Ek];exact(ek.mp p.hk).1),eI]
    have p4:=(p.move (nest':=ae+1) (p.lt l3)).app [.tup [.none,dy t]];have h8:=QR (W:=W) (n:=n) (dq hn rfl) p4
    have hsb:(σ.set k (i9 j (a'+1) (ae+1))++[MO.list [.tup [.none,dy t]]]).set k (i9 j (a'+1) ae)=σ.set k (i9 j (a'+1) ae)++[MO.list [.tup [.none,dy t]]]:=by rw[List.set_append_left _ _ (by rw[Ek];exact(ek.mp p.hk).1),eI]
    rw[hsa]at h7;rw[hsb]at h8;have p5:=p.move (nest':=ae) (p.lt l3);refine⟨a'+1,l3,by rw[gw,e3],?_⟩;refine gH (σ₁:=σ.set k (i9 j (a'+1) ae)) (junk:=[MO.list [.tup [.none,dy t]]]) rfl ?_ (by simp) rfl p5.cl;exact d8 k8 λr=>r h1 h2 h3 e4 h5 (Sn hg) (oD rfl) (dC ss) (dC s0) (oD rfl) (dC ss) (dC s1) h6 h7 h8 ⟨⟩
   ·rw[cJ d]at h7 ⊢;refine⟨a',ae+1,?_⟩;refine Ca (σ₁:=σ.set k (i9 j a' (ae+1))) (junk:=[MO.list [.tup [.none,dy t]]]) rfl ?_ (by simp) p2.cl;exact d8 k8 λr=>r h1 h2 h3 e4 h5 (Sn hg) (oD rfl) (dC ss) (dC s0) (oD rfl) (dC ss) (dC s1) h6 h7 ⟨⟩
 ·rw[eI]at e4;rw[show(Tk.op fT::l).tail=l from rfl,e1];refine⟨a',m',?_⟩;refine dk rfl ?_ (by simp);exact d8 k8 λr=>r h1 h2 h3 e4 ⟨⟩
structure All(W n k j ae:Nat)(ah:List Tk)(B:Ps):Prop where
 simple:∀m,n+5<=m->gL W m k j ae ah dQ (eq B W)
 rel:∀m,n+7<=m->j6 W m k j ae ah eg (mf B W)
 log:∀m,n+8<=m->j6 W m k j ae ah gg (ve B W)
theorem Oo(hn:8<=n)(g:rS ah)(hW:ah.length<W)(hI:LM B)(hB:qn B)(HB:∀m,n<=m->wk W m k j ae ah B):All W n k j ae ah B:=by
 have h1:∀m,n+1<=m->gL W m k j ae ah gh (nc B):=λm hm=>by obtain⟨i,rfl⟩:∃i,m=i+1:=⟨m -1,by exact(ie (.e A1 (.a (.s A1 K1) K1)) [.l (.k 8) A0,.l (.a A0 K1) A1]) hn hm⟩;exact Uy g (Rv hW) ((ie (.l (.k 8) A1) [.l (.k 8) A0,.l (.a A0 K1) (.a A1 K1)]) hn hm) (HB i ((ie (.l A0 A1) [.l (.a A0 K1) (.a A1 K1)]) hm))
 have h2:∀m,n+2<=m->gL W m k j ae ah eM (gX B):=λm hm=>by obtain⟨i,rfl⟩:∃i,m=i+1:=⟨m -1,by exact(ie (.e A1 (.a (.s A1 K1) K1)) [.l (.k 8) A0,.l (.a A0 (.k 2)) A1]) hn hm⟩;exact Oe ((ie (.l (.k 8) A1) [.l (.k 8) A0,.l (.a A0 (.k 2)) (.a A1 K1)]) hn hm) (h1 i ((ie (.l (.a A0 K1) A1) [.l (.a A0 (.k 2)) (.a A1 K1)]) hm))
 have h3:∀m,n+3<=m->gL W m k j ae ah gk (mc B W):=λm hm=>by obtain⟨i,rfl⟩:∃i,m=i+1:=⟨m -1,by exact(ie (.e A1 (.a (.s A1 K1) K1)) [.l (.k 8) A0,.l (.a A0 (.k 3)) A1]) hn hm⟩;exact UA ((ie (.l (.k 8) A1) [.l (.k 8) A0,.l (.a A0 (.k 3)) (.a A1 K1)]) hn hm) hB hW (h2 i ((ie (.l (.a A0 (.k 2)) A1) [.l (.a A0 (.k 3)) (.a A1 K1)]) hm))
 have h4:∀m,n+4<=m->gL W m k j ae ah dQ (eq B W):=λm hm=>by obtain⟨i,rfl⟩:∃i,m=i+1:=⟨m -1,by exact(ie (.e A1 (.a (.s A1 K1) K1)) [.l (.k 8) A0,.l (.a A0 (.k 4)) A1]) hn hm⟩;exact Og ((ie (.l (.k 8) A1) [.l (.k 8) A0,.l (.a A0 (.k 4)) (.a A1 K1)]) hn hm) hB hW (h3 i ((ie (.l (.a A0 (.k 3)) A1) [.l (.a A0 (.k 4)) (.a A1 K1)]) hm))
 have h5:∀m,n+5<=m->gL W m k j ae ah gN (xf B W):=λm hm=>by obtain⟨i,rfl⟩:∃i,m=i+1:=⟨m -1,by exact(ie (.e A1 (.a (.s A1 K1) K1)) [.l (.k 8) A0,.l (.a A0 (.k 5)) A1]) hn hm⟩;exact Oi ((ie (.l (.k 8) A1) [.l (.k 8) A0,.l (.a A0 (.k 5)) (.a A1 K1)]) hn hm) hI (h4 i ((ie (.l (.a A0 (.k 4)) A1) [.l (.a A0 (.k 5)) (.a A1 K1)]) hm))
 have h6:∀m,n+6<=m->j6 W m k j ae ah eg (mf B W):=λm hm=>by obtain⟨i,rfl⟩:∃i,m=i+1:=⟨m -1,by exact(ie (.e A1 (.a (.s A1 K1) K1)) [.l (.k 8) A0,.l (.a A0 (.k 6)) A1]) hn hm⟩;exact K7 ((ie (.l (.k 8) A1) [.l (.k 8) A0,.l (.a A0 (.k 6)) (.a A1 K1)]) hn hm) (h4 i ((ie (.l (.a A0 (.k 4)) A1) [.l (.a A0 (.k 6)) (.a A1 K1)]) hm)) (h5 i ((ie (.l (.a A0 (.k 5)) A1) [.l (.a A0 (.k 6)) (.a A1 K1)]) hm))
 have h7:∀m,n+7<=m->j6 W m k j ae ah gg (ve B W):=λm hm=>by obtain⟨i,rfl⟩:∃i,m=i+1:=⟨m -1,by exact(ie (.e A1 (.a (.s A1 K1) K1)) [.l (.k 8) A0,.l (.a A0 (.k 7)) A1]) hn hm⟩;exact K9 ((ie (.l (.k 8) A1) [.l (.k 8) A0,.l (.a A0 (.k 7)) (.a A1 K1)]) hn hm) hB hW (h4 i ((ie (.l (.a A0 (.k 4)) A1) [.l (.a A0 (.k 7)) (.a A1 K1)]) hm)) (h6 i ((ie (.l (.a A0 (.k 6)) A1) [.l (.a A0 (.k 7)) (.a A1 K1)]) hm))
 exact⟨λm hm=>h4 m ((ie (.l (.a A0 (.k 4)) A1) [.l (.a A0 (.k 5)) A1]) hm),λm hm=>h6 m ((ie (.l (.a A0 (.k 6)) A1) [.l (.a A0 (.k 7)) A1]) hm),λm hm=>h7 m ((ie (.l (.a A0 (.k 7)) A1) [.l (.a A0 (.k 8)) A1]) hm)⟩
theorem q_B(g:rS ah)(ho:ops ah<=62)(hW:ah.length<W)(hW1:1<W)(d:Nat):∀ae,ae+d=24->∀n,8+13 * d<=n->wk W n k j ae ah (pB W d):=by
 induction d with
 |zero=>
  intro ae h n hn;obtain rfl:ae=24:=(lE (.e A0 (.k 24)) [.e (.a A0 (.k 0)) (.k 24)]) h;exact UD ((lE (.l (.k 6) A0) [.l (.a (.k 8) (.l 13 (.k 0))) A0]) hn)
 |succ d ih=>
  intro ae h n hn;have A:All W (8+13 * d) k j (ae+1) ah (pB W d):=Oo ((ie (.l (.k 8) (.a (.k 8) (.l 13 A1))) [.e (.a A0 (.a A1 K1)) (.k 24)]) h) g hW (Ag W d) (JD W d) (λm hm=>ih (ae+1) ((ie (.e (.a (.a A0 K1) A1) (.k 24)) [.e (.a A0 (.a A1 K1)) (.k 24)]) h) m hm)
  have HC:∀m,8+13 * d+10<=m->gL W m k j (ae+1) ah gW (mR (pB W d) W):=λm hm=>by
   obtain⟨i,rfl⟩:∃i,m=i+1:=⟨m -1,by exact(kI (.e A2 (.a (.s A2 K1) K1)) [.e (.a A0 (.a A1 K1)) (.k 24),.l (.a (.a (.k 8) (.l 13 A1)) (.k 10)) A2]) h hm⟩
   have HE:j6 W i k j (ae+1) ah gM (QQ (pB W d) W):=by obtain⟨i,rfl⟩:∃i',i=i'+1:=⟨i -1,by exact(kI (.e A2 (.a (.s A2 K1) K1)) [.e (.a A0 (.a A1 K1)) (.k 24),.l (.a (.a (.k 8) (.l 13 A1)) (.k 10)) (.a A2 K1)]) h hm⟩;exact La ((kI (.l (.k 8) A2) [.e (.a A0 (.a A1 K1)) (.k 24),.l (.a (.a (.k 8) (.l 13 A1)) (.k 10)) (.a (.a A2 K1) K1)]) h hm) g (A.simple i ((ie (.l (.a (.a (.k 8) (.l 13 A0)) (.k 5)) A1) [.l (.a (.a (.k 8) (.l 13 A0)) (.k 10)) (.a (.a A1 K1) K1)]) hm))
   exact Ol ((kI (.l (.k 8) A2) [.e (.a A0 (.a A1 K1)) (.k 24),.l (.a (.a (.k 8) (.l 13 A1)) (.k 10)) (.a A2 K1)]) h hm) g ((ie (.n (.e (.a A0 K1) (.k 0))) [.e (.a A0 (.a A1 K1)) (.k 24)]) h) (Ag W d) (W7 W d) (A.simple i ((ie (.l (.a (.a (.k 8) (.l 13 A0)) (.k 5)) A1) [.l (.a (.a (.k 8) (.l 13 A0)) (.k 10)) (.a A1 K1)]) hm)) HE (A.rel i ((ie (.l (.a (.a (.k 8) (.l 13 A0)) (.k 7)) A1) [.l (.a (.a (.k 8) (.l 13 A0)) (.k 10)) (.a A1 K1)]) hm)) (A.log i ((ie (.l (.a (.a (.k 8) (.l 13 A0)) (.k 8)) A1) [.l (.a (.a (.k 8) (.l 13 A0)) (.k 10)) (.a A1 K1)]) hm))
  obtain⟨i,rfl⟩:∃i,n=i+3:=⟨n -3,by exact(kI (.e A2 (.a (.s A2 (.k 3)) (.k 3))) [.e (.a A0 (.a A1 K1)) (.k 24),.l (.a (.k 8) (.l 13 (.a A1 K1))) A2]) h hn⟩;exact Xc (n:=i+2) ((kI (.l (.k 8) (.a A2 (.k 2))) [.e (.a A0 (.a A1 K1)) (.k 24),.l (.a (.k 8) (.l 13 (.a A1 K1))) (.a A2 (.k 3))]) h hn) g hW1 ((ie (.t A0 (.k 24)) [.e (.a A0 (.a A1 K1)) (.k 24)]) h) (Ag W d) (λσ a p ha=>Gs (n:=i+1) ((kI (.l (.k 8) (.a A2 K1)) [.e (.a A0 (.a A1 K1)) (.k 24),.l (.a (.k 8) (.l 13 (.a A1 K1))) (.a A2 (.k 3))]) h hn) g ((kI (.t A2 A0) [.t A1 A0,.g (.a (.a A2 K1) (.k 0)) (.a (.a A1 K1) (.k 0))]) hW1 rfl) p (Ej (n:=i) ((kI (.l (.k 8) A2) [.e (.a A0 (.a A1 K1)) (.k 24),.l (.a (.k 8) (.l 13 (.a A1 K1))) (.a A2 (.k 3))]) h hn) g (Ag W d) ho (HC i ((ie (.l (.a (.a (.k 8) (.l 13 A0)) (.k 10)) A1) [.l (.a (.k 8) (.l 13 (.a A0 K1))) (.a A1 (.k 3))]) hn)) p ha))
end
section
variable{k j a ae W:Nat}{ah:List Tk}
noncomputable def sN:Tr->List Tr
 | .name _=>[]
 | .num _=>[]
 | .un _ t=>[t]
 | .bin _ a b=>[a,b]
 | .sc _ a b=>[a,b]
 | .mem _ a b=>[a,b]
 | .rng a b=>[a,b]
 | .pn t=>[t]
theorem Cb(σ:List MO)(zs:List D):qM (σ++[.list zs]) (.ref σ.length)=some (σ.length,zs):=by simp[qM]
theorem Op(σ:List MO)(x y:MO):(σ++[x]).set σ.length y=σ++[y]:=by simp
noncomputable def El:D->Bool
 | .tup _=>true
 |_=>false
noncomputable def Cc:D->Bool
 | .tup _=>true
 | .str _=>true
 | .int _=>true
 |_=>false
def Xd(aa:Lo):Cm Fl:=dm (gv (Jl "tuple" (cF aa 2))) (mB aa (tf (cF aa 1) (cF aa 2))) (dm (gv (Jl "list" (cF aa 2))) (.ask cU) (cZ aa))
theorem Xe{zs:List D}{x:D}(hm:m (σ++[.list zs])=some (.ok (.d x),σ++[.list zs]))(hz:zs.length<eZ):kz (.ref σ.length) m (σ++[.list zs])=some (.ok (.d .none),σ++[.list (zs++[x])]):=by unfold kz;rw[Cb,gQ,eT hm];show(qM _ _).bind _=_;rw[Cb,gQ];exact(cH hz).trans (by rw[Op])
theorem Xf{x:D}(h:Cc x=true)(e:PV){zs:List D}(hz:zs.length<eZ):fG (Xd [some e,some (.ref σ.length),some (.d x),none]) (σ++[.list zs])=some (.ok (.nxt [some e,some (.ref σ.length),some (.d x),none]),σ++[.list (if El x then zs++[x]else zs)]):=by
 cases x with
 |tup xs=>exact fX rfl λr=>r (px (a:= .d (.bool true)) rfl) (Xe rfl hz) ⟨⟩
 |str s=>exact fX rfl λr=>r (px (a:= .d (.bool false)) rfl) (px (a:= .d (.bool false)) rfl) ⟨⟩
 |int s=>exact fX rfl λr=>r (px (a:= .d (.bool false)) rfl) (px (a:= .d (.bool false)) rfl) ⟨⟩
 |_=>exact mY h
theorem Xg(xs:List D)(hx:xs.all Cc=true)(e:PV)(K:Nat):∀(i:Nat)(zs:List D)(y:Option PV),xs.length -i<K->zs.length+(xs.length -i)<eZ->
  ∃y',kM (Sk xs) (qO 2) (λl=>fG (Xd l)) K i [some e,some (.ref σ.length),y,none] (σ++[.list zs])=some (.ok (.nxt [some e,some (.ref σ.length),y',none]),σ++[.list (zs++(xs.drop i).filter El)]):=by
 induction K with
 |zero=>intro i zs y h;exact absurd h (Nat.not_lt_zero _)
 |succ K ih=>
  intro i zs y hK hz;by_cases c:i<xs.length
  ·have e1:Sk xs i (σ++[.list zs])=some (some (.d xs[i])):=by unfold Sk;rw[nO c];rfl
   have hb:=Xf (σ:=σ) (fu.mp hx _ (List.getElem_mem c)) e (zs:=zs) (by exact(lx (.t A0 A3) [.t (.a A0 (.s A1 A2)) A3]) hz);obtain⟨y',h2⟩:=ih (i+1) (if El xs[i]then zs++[xs[i]]else zs) (some (.d xs[i])) (by exact(kI (.t (.s A0 (.a A1 K1)) A2) [.t (.s A0 A1) (.a A2 K1),.t A1 A0]) hK c) (by cases El xs[i]<;>simp<;>omega);refine⟨y',?_⟩;unfold kM;rw[e1];refine(eT hb).trans (h2.trans ?_);rw[List.drop_eq_getElem_cons c,List.filter_cons];cases El xs[i]
   ·rfl
   ·simp only[if_true,d6,mj,qd]
  ·have e1:Sk xs i (σ++[.list zs])=some none:=by unfold Sk;rw[List.getElem?_eq_none (Nat.le_of_not_lt c)];rfl
   refine⟨y,?_⟩;unfold kM;rw[e1,List.drop_eq_nil_of_le (Nat.le_of_not_lt c),List.filter_nil,gD];rfl
theorem Oq(t:Tr):El (dy t)=true:=by cases t<;>rfl
theorem Ld(t:Tr):Cc (dy t)=true:=by cases t<;>rfl
theorem QS(s:List Nat):Cc (.str s)=true:=rfl
theorem QT(i:Int):Cc (.int i)=true:=rfl
theorem UE(s:List Nat):El (.str s)=false:=rfl
theorem UF(i:Int):El (.int i)=false:=rfl
noncomputable def Vw:D->List D
 | .tup (_::r)=>r
 |_=>[]
theorem QU(t:Tr)(hW:4<=W)(hn:1<=n):(CN W n).c gA [.d (dy t)] σ=some (.ok (.ref σ.length),σ++[.list ((sN t).map dy)]):=by
 obtain⟨m,rfl⟩:∃m,n=m+1:=⟨n -1,by exact dp hn rfl⟩;rw[Bg];refine ug rfl ?_ (by simp[PV.below]);have hs:wN (.d (dy t)) (some 1) none (σ++[.list []])=some (.ok (.d (.tup (Vw (dy t)))),σ++[.list []]):=by cases t<;>rfl
 have hx:(Vw (dy t)).all Cc=true:=by cases t<;>simp only[dy,Vw,hP,List.all_nil,QS,QT,Ld,Bool.and_self]
 have hf:(Vw (dy t)).filter El=(sN t).map dy:=by cases t<;>simp[dy,Vw,UE,UF,Oq,sN]
 have hl:(Vw (dy t)).length<=3:=by cases t<;>exact fq rfl
 obtain⟨y',h⟩:=Xg (σ:=σ) _ hx (.d (dy t)) W 0 [] none (by exact(ie (.t (.s A1 (.k 0)) A0) [.l (.k 4) A0,.l A1 (.k 3)]) hW hl) (by unfold eZ;simp;exact(lE (.t A0 (.k 4000000)) [.l A0 (.k 3)]) hl);rw[List.drop_zero,hf,qd]at h;exact d8 C5 λr=>r hs h ⟨⟩
theorem Le{x:MO}(h:σ[i]? =some x):σ.set i x=σ:=by
 apply List.ext_getElem?;intro q;by_cases e:i=q
 ·subst e;rw[qE (ek.mp h).1,h]
 ·rw[o6 e]
theorem Os(acc wi:Nat)(hne:wi≠acc)(ys:List D)(K:Nat):∀(i:Nat)(σ:List MO)(zs:List D),σ[wi]? =some (.list ys)->σ[acc]? =some (.list zs)->i<=ys.length->ys.length -i<K->zs.length+(ys.length -i)<eZ->
  uU acc (.ref wi) K i σ=some (σ.set acc (.list (zs++ys.drop i))):=by
 induction K with
 |zero=>intro _ _ _ _ _ _ h;omega
 |succ K ih=>
  intro i σ zs h1 h2 hi hK hl;have hg:dW σ (.ref wi)=some ys:=by simp only[dW,h1]
  by_cases c:i<ys.length
  ·have e1:uQ (.ref wi) i σ=some (some (.d ys[i])):=by simp[uQ,hg,c]
   have hacc:=(ek.mp h2).1;unfold uU;rw[e1];simp only[h2];rw[cH (VZ hl)];have:=ih (i+1) (σ.set acc (.list (zs++[ys[i]]))) (zs++[ys[i]]) (by rw[o6 (VY hne c)];exact h1) (by rw[qE hacc]) (BD c) (L2 hK c) (by simp;exact(lx (.t (.a (.a A0 K1) (.s A1 (.a A2 K1))) A3) [.t (.a A0 (.s A1 A2)) A3,.t A2 A1]) hl c);rw[this,List.set_set,d6,List.drop_eq_getElem_cons c];rfl
  ·have e1:uQ (.ref wi) i σ=some none:=by simp[uQ,hg];exact EI hi c
   unfold uU;rw[e1];simp only;have:ys.drop i=[]:=List.drop_eq_nil_of_le (EI hi c);rw[this,gD,Le h2]
theorem Ot(t:Tr):(sN t).length<=2:=by cases t<;>simp[sN]
theorem Gu(A:List MO)(vi:Nat)(ts:List Tr)(hv:A[vi]? =some (.list (ts.map dy)))(hW:4<=W)(hn:1<=n)(K:Nat):∀(i:Nat)(J:List MO)(zs:List D),i<=ts.length->ts.length -i<K->zs.length+((ts.drop i).flatMap sN).length<eZ->
  ∃J',s7 A.length (.ref vi) ((CN W n).c gA) W K i (A++ .list zs::J)=some (A++ .list (zs++((ts.drop i).flatMap sN).map dy)::J'):=by
 induction K with
 |zero=>intro _ _ _ _ h;omega
 |succ K ih=>
  intro i J zs hi hK hl;have hlt:=(ek.mp hv).1;have hvs:(A++MO.list zs::J)[vi]? =some (.list (ts.map dy)):=by rw[fH hlt];exact hv
  have hg:dW (A++MO.list zs::J) (.ref vi)=some (ts.map dy):=by simp only[dW,hvs]
  by_cases c:i<ts.length
  ·have e1:uQ (.ref vi) i (A++MO.list zs::J)=some (some (.d (dy ts[i]))):=by simp[uQ,hg,c]
   have e2:=QU (W:=W) (n:=n) (σ:=A++MO.list zs::J) ts[i] hW hn;have hd:ts.drop i=ts[i]::ts.drop (i+1):=List.drop_eq_getElem_cons c;rw[hd,List.flatMap_cons]at hl ⊢;rw[dI]at hl;obtain⟨L,hL⟩:∃L,L=(sN ts[i]).map dy:=⟨_,rfl⟩;have hLl:L.length=(sN ts[i]).length:=by rw[hL];simp
   rw[<-hL]at e2;have h3:(A++MO.list zs::J++[MO.list L])[(A++MO.list zs::J).length]? =some (.list L):=by simp
   have h4:(A++MO.list zs::J++[MO.list L])[A.length]? =some (.list zs):=by simp
   have k2:=Ot ts[i];have e3:=Os A.length (A++MO.list zs::J).length (by simp) L W 0 _ zs h3 h4 ((lx (.l (.k 0) A2) [.t A0 A1,.e A2 A3,.l A3 (.k 2)]) c hLl k2) ((BB (.t (.s A3 (.k 0)) A0) [.l (.k 4) A0,.t A1 A2,.e A3 A4,.l A4 (.k 2)]) hW c hLl k2) ((Kf (.t (.a A2 (.s A6 (.k 0))) A5) [.t A0 A1,.t (.a A2 (.a A3 A4)) A5,.e A6 A3,.l A3 (.k 2)]) c hl hLl k2);have hg2:dW (A++MO.list zs::J++[MO.list L]) (.ref (A++MO.list zs::J).length)=some L:=by simp only[dW,h3]
   have h5:(A++MO.list zs::J++[MO.list L]).set A.length (.list (zs++L.drop 0))=A++ .list (zs++L)::(J++[.list L]):=by simp
   obtain⟨J',h6⟩:=ih (i+1) (J++[.list L]) (zs++L) (BD c) (L2 hK c) (by rw[dI];exact(Kf (.t (.a (.a A2 A6) A4) A5) [.t A0 A1,.t (.a A2 (.a A3 A4)) A5,.e A6 A3]) c hl hLl);refine⟨J',?_⟩;unfold s7;rw[e1];simp only[e2,hg2,e3,h5,Option.bind,h6];rw[List.map_append,<-hL,d6]
  ·have e1:uQ (.ref vi) i (A++MO.list zs::J)=some none:=by simp[uQ,hg];exact EI hi c
   refine⟨J,?_⟩;unfold s7;rw[e1];have:ts.drop i=[]:=List.drop_eq_nil_of_le (EI hi c);rw[this];simp
def hB(W:Nat)(C:Addr->List PV->M PV)(aa:Lo):M Fl:=(dn (M1 W 2 aa (C gA) (cG aa 2)) λaa=>(eS (dz .Eq (cG aa 2) (m9 [])) Hs (dF aa)))
def Zf(W:Nat)(C:Addr->List PV->M PV)(aa:Lo):Cm Fl:=(.seq (PW W 2 aa (C gA) (cF aa 2)) λaa=>(dm (cV .Eq (cF aa 2) (mA [])) PR (cZ aa)))
theorem Xh{W:Nat}:hB W C aa=fG (Zf W C aa):=rfl
theorem Gv(C:Addr->List PV->M PV)(Cf:List PV->M Unit)(Cr:List PV->M PV)(W:Nat)(aa:Lo):kW C Cf Cr W aa=dn (dZ aa 2 (m9 [(cG aa 1)])) λaa=>(dn (Fa W (qO 3) (kN oV) (hB W C) aa) λaa=>cU):=rfl
noncomputable def ht:Tr->Nat
 | .name _=>0
 | .num _=>0
 | .un _ t=>ht t+1
 | .bin _ a b=>max (ht a) (ht b)+1
 | .sc _ a b=>max (ht a) (ht b)+1
 | .mem _ a b=>max (ht a) (ht b)+1
 | .rng a b=>max (ht a) (ht b)+1
 | .pn t=>ht t+1
noncomputable def cnt:Tr->Nat
 | .name _=>1
 | .num _=>1
 | .un _ t=>cnt t+1
 | .bin _ a b=>cnt a+cnt b+1
 | .sc _ a b=>cnt a+cnt b+1
 | .mem _ a b=>cnt a+cnt b+1
 | .rng a b=>cnt a+cnt b+1
 | .pn t=>cnt t+1
def rZ(l:List Tr):Nat:=(l.map cnt).sum
theorem QV(t:Tr):1<=cnt t:=by cases t<;>simp[cnt]
theorem Lf(t:Tr):rZ (sN t)<=cnt t:=by cases t<;>simp[rZ,sN,cnt]<;>omega
theorem Ou(a b:List Tr):rZ (a++b)=rZ a+rZ b:=by simp[rZ]
theorem Lg(l:List Tr):rZ (l.flatMap sN)<=rZ l:=by
 induction l with
 |nil=>simp
 |cons t l ih=>
  rw[List.flatMap_cons,Ou];have:=Lf t;have h:rZ (t::l)=cnt t+rZ l:=by simp[rZ]
  exact(BB (.l (.a A2 A0) A4) [.l A0 A1,.l A2 A3,.e A4 (.a A3 A1)]) ih this h
theorem Ah(l:List Tr):l.length<=rZ l:=by
 induction l with
 |nil=>simp
 |cons t l ih=>
  have:=QV t;have h:rZ (t::l)=cnt t+rZ l:=by simp[rZ]
  simp only[eD];exact(lx (.l (.a A0 K1) A3) [.l A0 A1,.l K1 A2,.e A3 (.a A2 A1)]) ih this h
theorem JI{u:Tr}(h:u ∈ sN t):ht u<ht t:=by cases t<;>simp[sN]at h<;>(try rcases h with rfl|rfl)<;>(try subst h)<;>simp[ht]<;>(first|exact IY|exact IZ)
theorem Ip{A S:List MO}{vi:Nat}{l:List D}{x:Option PV}(hg:dW A (.ref vi)=some l)(e:s7 A.length (.ref vi) sem W W 0 (A++[.list []])=some S)(i:Int):xq 2 [some (.inst k),x,some (.ref vi),some (.d (.int i))] (.ref vi) sem W W A=some (.ok (.nxt [some (.inst k),x,some (.ref A.length),some (.d (.int i))]),S):=by unfold xq;rw[hg,e];rfl
theorem SL{A S:List MO}{vi K:Nat}{x y:Option PV}(hi:(i:Int)<60)(hc:∀i:Int,xq 2 [some (.inst k),x,some (.ref vi),some (.d (.int i))] (.ref vi) ((CN W n).c gA) W W A=some (.ok (.nxt [some (.inst k),x,some (.ref A.length),some (.d (.int i))]),S))(h:dW S (.ref A.length)=some []):kM (LI 60) (qO 3) (hB W (CN W n).c) (K+1) i [some (.inst k),x,some (.ref vi),y] A=some (.ok (.ret (.d .none)),S++[.list []]):=
 TI (v:= .d (.int i)) (by unfold LI;rw[cH hi]) rfl (fX Xh λr=>r (hc _) (ig (c:=true) (Nj h)) ⟨⟩)
theorem Xi{A S:List MO}{vi K:Nat}{x y:Option PV}{L:List D}(hi:(i:Int)<60)(hc:∀i:Int,xq 2 [some (.inst k),x,some (.ref vi),some (.d (.int i))] (.ref vi) ((CN W n).c gA) W W A=some (.ok (.nxt [some (.inst k),x,some (.ref A.length),some (.d (.int i))]),S))(h:dW S (.ref A.length)=some L)(c:L.isEmpty=false):kM (LI 60) (qO 3) (hB W (CN W n).c) (K+1) i [some (.inst k),x,some (.ref vi),y] A=kM (LI 60) (qO 3) (hB W (CN W n).c) K (i+1) [some (.inst k),x,some (.ref A.length),some (.d (.int i))] (S++[.list []]):=
 Ni (v:= .d (.int i)) (by unfold LI;rw[cH hi]) rfl (fX Xh λr=>r (hc _) (ig (c:=false) (c▸Nj h)) ⟨⟩)
theorem Gw(hW:4<=W)(hn:1<=n)(h:Nat):∀(i K:Nat)(A:List MO)(vi:Nat)(lv:List Tr)(x y:Option PV),A[vi]? =some (.list (lv.map dy))->(∀t ∈ lv,ht t<=h)->i+h<60->h<K->rZ lv<W->rZ lv<4000->
  ∃J,kM (LI 60) (qO 3) (hB W (CN W n).c) K i [some (.inst k),x,some (.ref vi),y] A=some (.ok (.ret (.d .none)),A++J):=by
 induction h with
 |zero=>
  intro i K A vi lv x y hv hh hi hK hc hc2;obtain⟨K,rfl⟩:∃q,K=q+1:=⟨K -1,by exact qG hK rfl⟩;have hl:=Ah lv
  have hf:lv.flatMap sN=[]:=by
   rw[List.flatMap_eq_nil_iff];intro t ht';cases q:sN t with
   |nil=>rfl
   |cons u _=>have h1:=JI (t:=t) (u:=u) (by rw[q];simp);have tz1:=hh t ht';omega
  obtain⟨J',e⟩:=Gu (W:=W) (n:=n) A vi lv hv hW hn W 0 [] [] (RA) (Rz hc hl) (by simp[hf,eZ]);simp only[List.drop_zero,hf,List.map_nil,gD]at e;have hg:dW A (.ref vi)=some (lv.map dy):=by simp only[dW,hv]
  refine⟨.list []::(J'++[.list []]),?_⟩;have hi':(i:Int)<60:=(lE (.S (.c A0) (.k 60)) [.t (.a A0 (.k 0)) (.k 60)]) hi;exact(SL hi' (Ip hg e) (by simp[dW])).trans (by rw[d6];rfl)
 |succ h ih=>
  intro i K A vi lv x y hv hh hi hK hc hc2;obtain⟨K,rfl⟩:∃q,K=q+1:=⟨K -1,by exact(kI (.e A2 (.a (.s A2 K1) K1)) [.t (.a A0 (.a A1 K1)) (.k 60),.t (.a A1 K1) A2]) hi hK⟩;have hl:=Ah lv;have hcf:=Lg lv;have hlf:=Ah (lv.flatMap sN);obtain⟨J',e⟩:=Gu (W:=W) (n:=n) A vi lv hv hW hn W 0 [] [] (RA) (Rz hc hl) (by simp only[List.drop_zero,List.length_nil];simp only[eZ];exact(kI (.t (.a (.k 0) A2) (.k 4000000)) [.t A0 (.k 4000),.l A1 A0,.l A2 A1]) hc2 hcf hlf);simp only[List.drop_zero,qd]at e;obtain⟨lv',hlv⟩:∃l,l=lv.flatMap sN:=⟨_,rfl⟩;rw[<-hlv]at e hcf hlf;have hg:dW A (.ref vi)=some (lv.map dy):=by simp only[dW,hv]
  have hi':(i:Int)<60:=(ie (.S (.c A0) (.k 60)) [.t (.a A0 (.a A1 (.k 1))) (.k 60)]) hi;by_cases c:lv'=[]
  ·subst c;refine⟨.list []::(J'++[.list []]),?_⟩;exact(SL hi' (Ip hg e) (by simp[dW])).trans (by rw[d6];rfl)
  ·have hv':(A++MO.list (lv'.map dy)::(J'++[MO.list []]))[A.length]? =some (.list (lv'.map dy)):=by simp
   obtain⟨J2,e2⟩:=ih (i+1) K _ A.length lv' x (some (.d (.int i))) hv' (by intro u hu;rw[hlv,List.mem_flatMap]at hu;obtain⟨t,ht1,ht2⟩:=hu;have tz2:=hh t ht1;have:=JI ht2;exact(kI (.l A2 A1) [.l A0 (.a A1 K1),.t A2 A0]) tz2 this) ((ie (.t (.a (.a A0 K1) A1) (.k 60)) [.t (.a A0 (.a A1 K1)) (.k 60)]) hi) (IX hK) ((kI (.t A2 A1) [.t A0 A1,.l A2 A0]) hc hcf) ((ie (.t A1 (.k 4000)) [.t A0 (.k 4000),.l A1 A0]) hc2 hcf)
   refine⟨.list (lv'.map dy)::(J'++[.list []])++J2,?_⟩
   have c2:(lv'.map dy).isEmpty=false:=by cases lv' with
    |nil=>exact absurd rfl c
    |cons _ _=>rfl
   refine(Xi hi' (Ip hg e) (L:=lv'.map dy) (by simp[dW]) c2).trans ?_;rw[d6,mj];refine e2.trans ?_;rw[d6]
theorem Ov(hW:4<=W)(hn:2<=n)(t:Tr)(h1:ht t<60)(h2:cnt t<W)(h3:cnt t<4000)(h4:60<W)(p:PS σ k j ah a ae):(CN W n).c iT [.inst k,.d (dy t)] σ=some (.ok (.d .none),σ):=by
 obtain⟨m,rfl⟩:∃m,n=m+1:=⟨n -1,by exact dp hn rfl⟩;rw[yb];have hv:(σ++[MO.list [dy t]])[σ.length]? =some (.list ([t].map dy)):=by simp
 obtain⟨J,e⟩:=Gw (W:=W) (n:=m) (k:=k) hW (dl hn rfl) (ht t) 0 W (σ++[.list [dy t]]) σ.length [t] (some (.d (dy t))) none hv (by simp) ((lE (.t (.a (.k 0) A0) (.k 60)) [.t A0 (.k 60)]) h1) ((ie (.t A0 A1) [.t A0 (.k 60),.t (.k 60) A1]) h1 h4) (by simpa [rZ] using h2) (by simpa [rZ] using h3);have hm:oV= .d (.int 60):=rfl;refine gH (σ₁:=σ) (junk:= .list [dy t]::J) rfl ?_ rfl rfl p.cl;rw[Gv];simp at e;simp[i6,dn,bnd,eR,lift,ret,ja,G4,qJ,rA,eZ,rG,hm,Ko,e]
end
section
variable{k j a ae W:Nat}{ah:List Tk}
theorem Xj(h:PT t):ht t<=sz t+1:=by
 induction t with
 |name s=>simp[ht]
 |num i=>simp[ht]
 |un w t ih=>have:=ih h.2;simp[ht,sz];exact this
 |bin w a b iha ihb=>have tz1:=iha h.2.1;have tz2:=ihb h.2.2;simp[ht,sz];exact(lx (.l (.ma A0 A2) (.a (.a A1 A3) K1)) [.l A0 (.a A1 K1),.l A2 (.a A3 K1)]) tz1 tz2
 |sc w a b iha ihb=>have tz3:=iha h.2.1;have tz4:=ihb h.2.2;simp[ht,sz];exact(lx (.l (.ma A0 A2) (.a (.a A1 A3) K1)) [.l A0 (.a A1 K1),.l A2 (.a A3 K1)]) tz3 tz4
 |mem w a b iha ihb=>have tz5:=iha h.2.1;have tz6:=ihb h.2.2;simp[ht,sz];exact(lx (.l (.ma A0 A2) (.a (.a A1 A3) K1)) [.l A0 (.a A1 K1),.l A2 (.a A3 K1)]) tz5 tz6
 |rng a b iha ihb=>have tz7:=iha h.1;have:=ihb h.2;simp[ht,sz];exact(lx (.l (.ma A0 A2) (.a (.a A1 A3) K1)) [.l A0 (.a A1 K1),.l A2 (.a A3 K1)]) tz7 this
 |pn t ih=>
  have h1:=h.1;cases t<;>first|(simp[yn]at h1;done)|simp[ht,sz]
theorem UG(h:PT t):cnt t<=3 * sz t+2:=by
 induction t with
 |name s=>simp[cnt]
 |num i=>simp[cnt]
 |un w t ih=>have:=ih h.2;simp[cnt,sz];exact(ie (.l A0 (.a (.l 3 (.a A1 K1)) K1)) [.l A0 (.a (.l 3 A1) (.k 2))]) this
 |bin w a b iha ihb=>have tz8:=iha h.2.1;have tz9:=ihb h.2.2;simp[cnt,sz];exact(lx (.l (.a A0 A2) (.a (.l 3 (.a (.a A1 A3) K1)) K1)) [.l A0 (.a (.l 3 A1) (.k 2)),.l A2 (.a (.l 3 A3) (.k 2))]) tz8 tz9
 |sc w a b iha ihb=>have tz10:=iha h.2.1;have tz11:=ihb h.2.2;simp[cnt,sz];exact(lx (.l (.a A0 A2) (.a (.l 3 (.a (.a A1 A3) K1)) K1)) [.l A0 (.a (.l 3 A1) (.k 2)),.l A2 (.a (.l 3 A3) (.k 2))]) tz10 tz11
 |mem w a b iha ihb=>have tz12:=iha h.2.1;have tz13:=ihb h.2.2;simp[cnt,sz];exact(lx (.l (.a A0 A2) (.a (.l 3 (.a (.a A1 A3) K1)) K1)) [.l A0 (.a (.l 3 A1) (.k 2)),.l A2 (.a (.l 3 A3) (.k 2))]) tz12 tz13
 |rng a b iha ihb=>have tz14:=iha h.1;have:=ihb h.2;simp[cnt,sz];exact(lx (.l (.a A0 A2) (.a (.l 3 (.a (.a A1 A3) K1)) K1)) [.l A0 (.a (.l 3 A1) (.k 2)),.l A2 (.a (.l 3 A3) (.k 2))]) tz14 this
 |pn t ih=>
  have h1:=h.1;cases t<;>first|(simp[yn]at h1;done)|simp[cnt,sz]
theorem Iq(p:PS σ k j ah a 0)(hn:3<=n)(ht':PT t)(hz:sz t<=56)(hW:200<=W):(CN W n).c gU [.inst k,.d (dy t)] σ=some (.ok (.d (dy t)),σ):=by obtain⟨m,rfl⟩:∃m,n=m+1:=⟨n -1,by exact dp hn rfl⟩;rw[sA];refine dk rfl ?_ rfl;have h1:=p.nest_;have e:l5 (.int ((0:Nat):Int)) (.int 0)=some true:=rfl;have h2:=Xj ht';have h3:=UG ht';have h4:=Ov (W:=W) (n:=m) (dq hW rfl) (dl hn rfl) t ((ie (.t A1 (.k 60)) [.l A0 (.k 56),.l A1 (.a A0 K1)]) hz h2) ((kI (.t A2 A1) [.l A0 (.k 56),.l (.k 200) A1,.l A2 (.a (.l 3 A0) (.k 2))]) hz hW h3) ((ie (.t A1 (.k 4000)) [.l A0 (.k 56),.l A1 (.a (.l 3 A0) (.k 2))]) hz h3) (EH hW rfl) p;simp at h1 e;exact d8 tw λr=>r (nj h1) (fJ e) h4 ⟨⟩
theorem UH(g:rS ah)(ho:ops ah<=56)(hW:500<=W)(hn:332<=n):gL W n k j 0 ah jq (ng (pB W 24) W):=by
 intro σ a p ha;obtain⟨m,rfl⟩:∃m,n=m+1:=⟨n -1,by exact dp hn rfl⟩;rw[Bi];refine pV.semF rfl ?_;have A:All W 320 k j 0 ah (pB W 24):=Oo (by exact fq rfl) g (by have:=p.sz;exact RC hW this) (Ag W 24) (JD W 24) (λm hm=>q_B g (kJ ho rfl) (by have:=p.sz;exact RC hW this) (EH hW rfl) 24 0 rfl m ((lE (.l (.a (.k 8) (.l 13 (.k 24))) A0) [.l (.k 320) A0]) hm));have hp:=A.simple m ((lE (.l (.a (.k 320) (.k 5)) A0) [.l (.k 332) (.a A0 K1)]) hn) σ a p ha;refine hp.elim (λt r a1 e1 e2 e3 e4=> ?_) λe1 a1 m' e4=> ?_
 ·have p1:=p.move (nest':=0) (p.lt e2);have hr:=(A.rel m ((lE (.l (.a (.k 320) (.k 7)) A0) [.l (.k 332) (.a A0 K1)]) hn)).up t p1 e2;rw[e3]at hr;refine hr.elim (λu r2 a2 f1 f2 f3 f4=> ?_) λf1 a2 m' f4=> ?_
  ·have p2:=p.move (nest':=0) (p.lt f2);have hl:=(A.log m ((lE (.l (.a (.k 320) (.k 8)) A0) [.l (.k 332) (.a A0 K1)]) hn)).up u p2 f2;rw[f3]at hl
   have hE:ng (pB W 24) W (ah.drop a)=ve (pB W 24) W u r2:=by unfold ng;rw[e1];show(mf (pB W 24) W t r).bind _=_;rw[f1];rfl
   refine hl.elim (λv r3 a3 g1 g2 g3 g4=> ?_) λg1 a3 m' g4=> ?_
   ·rw[hE,g1];rw[g1]at hE;refine wB (Gp (Ag W 24) W _ _ _ (ud a p.ok) hE) λi1 i2 i3=> ?_;have hz:=Gr a ah;have p3:=p.move (nest':=0) (p.lt g2);have hb:=Iq (W:=W) (n:=m) p3 (dl hn rfl) i1 ((lx (.l A1 (.k 56)) [.l A0 (.k 56),.l (.a A1 A2) A3,.l A3 A0]) ho i3 hz) (dq hW rfl);refine⟨a3,g2,g3,?_⟩;exact d8 oW λr=>r e4 f4 g4 hb ⟨⟩
   ·rw[hE,g1];refine⟨a3,m',?_⟩;exact d8 oW λr=>r e4 f4 g4 ⟨⟩
  ·have hE:ng (pB W 24) W (ah.drop a)=none:=by
    unfold ng;rw[e1];show(mf (pB W 24) W t r).bind _=_;rw[f1];rfl
   rw[hE];refine⟨a2,m',?_⟩;exact d8 oW λr=>r e4 f4 ⟨⟩
 ·have hE:ng (pB W 24) W (ah.drop a)=none:=by
   unfold ng;rw[e1];rfl
  rw[hE];refine⟨a1,m',?_⟩;exact d8 oW λr=>r e4 ⟨⟩
theorem iY{A:List MO}{u:PV}{f:Unit->M Fl}{kvs kvs':List (List Nat×PV)}(h1:kvs.length<=1000)(h2:uR x u kvs=kvs'):setO x (.inst A.length) u f (A++[.obj kvs])=f () (A++[.obj kvs']):=by
 have h:(A++[MO.obj kvs])[A.length]? =some (.obj kvs):=by simp
 simp only[setO,xP,h,cH h1,h2]
 congr 1
 simp
theorem UI(A:List MO)(hn:2<=n):(CN W n).r [.ref j] A=some (.ok (.inst A.length),A++[i9 j 0 0]):=by
 obtain⟨m,rfl⟩:∃m,n=m+2:=⟨n -2,by exact dp hn rfl⟩;show EY ((CN W (m+1)).c io) [.ref j] A=_;have h1:∀f:Unit->M Fl,setO d9 (.inst A.length) (.ref j) f (A++[.obj []])=f () (A++[.obj [(d9,.ref j)]]):=λf=>iY (by simp) rfl;have h2:∀f:Unit->M Fl,setO ii (.inst A.length) (.d (.int 0)) f (A++[.obj [(d9,.ref j)]])=f () (A++[.obj [(d9,.ref j),(ii,.d (.int 0))]]):=λf=>iY (by simp) rfl;have h3:∀f:Unit->M Fl,setO gb (.inst A.length) (.d (.int 0)) f (A++[.obj [(d9,.ref j),(ii,.d (.int 0))]])=f () (A++[.obj [(d9,.ref j),(ii,.d (.int 0)),(gb,.d (.int 0))]]):=λf=>iY (by simp) rfl;have h4:∀f:Unit->M Fl,setO iu (.inst A.length) (.d (.int 0)) f (A++[.obj [(d9,.ref j),(ii,.d (.int 0)),(gb,.d (.int 0))]])=f () (A++[.obj [(d9,.ref j),(ii,.d (.int 0)),(gb,.d (.int 0)),(iu,.d (.int 0))]]):=λf=>iY (by simp) rfl
 have h5:∀f:Unit->M Fl,setO dX (.inst A.length) (.d .none) f (A++[.obj [(d9,.ref j),(ii,.d (.int 0)),(gb,.d (.int 0)),(iu,.d (.int 0))]])=f () (A++[.obj [(d9,.ref j),(ii,.d (.int 0)),(gb,.d (.int 0)),(iu,.d (.int 0)),(dX,.d .none)]]):=λf=>iY (by simp) rfl;have h6:∀f:Unit->M Fl,setO ed (.inst A.length) (.d .none) f (A++[.obj [(d9,.ref j),(ii,.d (.int 0)),(gb,.d (.int 0)),(iu,.d (.int 0)),(dX,.d .none)]])=f () (A++[.obj [(d9,.ref j),(ii,.d (.int 0)),(gb,.d (.int 0)),(iu,.d (.int 0)),(dX,.d .none),(ed,.d .none)]]):=λf=>iY (by simp) rfl;have h7:∀f:Unit->M Fl,setO dM (.inst A.length) (.d .none) f (A++[.obj [(d9,.ref j),(ii,.d (.int 0)),(gb,.d (.int 0)),(iu,.d (.int 0)),(dX,.d .none),(ed,.d .none)]])=f () (A++[.obj [(d9,.ref j),(ii,.d (.int 0)),(gb,.d (.int 0)),(iu,.d (.int 0)),(dX,.d .none),(ed,.d .none),(dM,.d .none)]]):=λf=>iY (by simp) rfl
 have h8:∀f:Unit->M Fl,setO dY (.inst A.length) (.d .none) f (A++[.obj [(d9,.ref j),(ii,.d (.int 0)),(gb,.d (.int 0)),(iu,.d (.int 0)),(dX,.d .none),(ed,.d .none),(dM,.d .none)]])=f () (A++[.obj [(d9,.ref j),(ii,.d (.int 0)),(gb,.d (.int 0)),(iu,.d (.int 0)),(dX,.d .none),(ed,.d .none),(dM,.d .none),(dY,.d .none)]]):=λf=>iY (by simp) rfl;have h9:∀f:Unit->M Fl,setO dH (.inst A.length) (.d .none) f (A++[.obj [(d9,.ref j),(ii,.d (.int 0)),(gb,.d (.int 0)),(iu,.d (.int 0)),(dX,.d .none),(ed,.d .none),(dM,.d .none),(dY,.d .none)]])=f () (A++[.obj [(d9,.ref j),(ii,.d (.int 0)),(gb,.d (.int 0)),(iu,.d (.int 0)),(dX,.d .none),(ed,.d .none),(dM,.d .none),(dY,.d .none),(dH,.d .none)]]):=λf=>iY (by simp) rfl
 have h10:∀f:Unit->M Fl,setO eO (.inst A.length) (.d .none) f (A++[.obj [(d9,.ref j),(ii,.d (.int 0)),(gb,.d (.int 0)),(iu,.d (.int 0)),(dX,.d .none),(ed,.d .none),(dM,.d .none),(dY,.d .none),(dH,.d .none)]])=f () (A++[.obj [(d9,.ref j),(ii,.d (.int 0)),(gb,.d (.int 0)),(iu,.d (.int 0)),(dX,.d .none),(ed,.d .none),(dM,.d .none),(dY,.d .none),(dH,.d .none),(eO,.d .none)]]):=λf=>iY (by simp) rfl;have h11:∀f:Unit->M Fl,setO eB (.inst A.length) (.d .none) f (A++[.obj [(d9,.ref j),(ii,.d (.int 0)),(gb,.d (.int 0)),(iu,.d (.int 0)),(dX,.d .none),(ed,.d .none),(dM,.d .none),(dY,.d .none),(dH,.d .none),(eO,.d .none)]])=f () (A++[.obj [(d9,.ref j),(ii,.d (.int 0)),(gb,.d (.int 0)),(iu,.d (.int 0)),(dX,.d .none),(ed,.d .none),(dM,.d .none),(dY,.d .none),(dH,.d .none),(eO,.d .none),(eB,.d .none)]]):=λf=>iY (by simp) rfl
 have h12:∀f:Unit->M Fl,setO fQ (.inst A.length) (.d .none) f (A++[.obj [(d9,.ref j),(ii,.d (.int 0)),(gb,.d (.int 0)),(iu,.d (.int 0)),(dX,.d .none),(ed,.d .none),(dM,.d .none),(dY,.d .none),(dH,.d .none),(eO,.d .none),(eB,.d .none)]])=f () (A++[.obj [(d9,.ref j),(ii,.d (.int 0)),(gb,.d (.int 0)),(iu,.d (.int 0)),(dX,.d .none),(ed,.d .none),(dM,.d .none),(dY,.d .none),(dH,.d .none),(eO,.d .none),(eB,.d .none),(fQ,.d .none)]]):=λf=>iY (by simp) rfl;have h13:∀f:Unit->M Fl,setO gF (.inst A.length) (.d .none) f (A++[.obj [(d9,.ref j),(ii,.d (.int 0)),(gb,.d (.int 0)),(iu,.d (.int 0)),(dX,.d .none),(ed,.d .none),(dM,.d .none),(dY,.d .none),(dH,.d .none),(eO,.d .none),(eB,.d .none),(fQ,.d .none)]])=f () (A++[.obj [(d9,.ref j),(ii,.d (.int 0)),(gb,.d (.int 0)),(iu,.d (.int 0)),(dX,.d .none),(ed,.d .none),(dM,.d .none),(dY,.d .none),(dH,.d .none),(eO,.d .none),(eB,.d .none),(fQ,.d .none),(gF,.d .none)]]):=λf=>iY (by simp) rfl
 have h14:∀f:Unit->M Fl,setO jd (.inst A.length) (.d .none) f (A++[.obj [(d9,.ref j),(ii,.d (.int 0)),(gb,.d (.int 0)),(iu,.d (.int 0)),(dX,.d .none),(ed,.d .none),(dM,.d .none),(dY,.d .none),(dH,.d .none),(eO,.d .none),(eB,.d .none),(fQ,.d .none),(gF,.d .none)]])=f () (A++[.obj [(d9,.ref j),(ii,.d (.int 0)),(gb,.d (.int 0)),(iu,.d (.int 0)),(dX,.d .none),(ed,.d .none),(dM,.d .none),(dY,.d .none),(dH,.d .none),(eO,.d .none),(eB,.d .none),(fQ,.d .none),(gF,.d .none),(jd,.d .none)]]):=λf=>iY (by simp) rfl;have h15:∀f:Unit->M Fl,setO oU (.inst A.length) (.d .none) f (A++[.obj [(d9,.ref j),(ii,.d (.int 0)),(gb,.d (.int 0)),(iu,.d (.int 0)),(dX,.d .none),(ed,.d .none),(dM,.d .none),(dY,.d .none),(dH,.d .none),(eO,.d .none),(eB,.d .none),(fQ,.d .none),(gF,.d .none),(jd,.d .none)]])=f () (A++[.obj [(d9,.ref j),(ii,.d (.int 0)),(gb,.d (.int 0)),(iu,.d (.int 0)),(dX,.d .none),(ed,.d .none),(dM,.d .none),(dY,.d .none),(dH,.d .none),(eO,.d .none),(eB,.d .none),(fQ,.d .none),(gF,.d .none),(jd,.d .none),(oU,.d .none)]]):=λf=>iY (by simp) rfl
 have h:(CN W (m+1)).c io [.inst A.length,.ref j] (A++[.obj []])=some (.ok (.d .none),A++[i9 j 0 0]):=by rw[xa];refine Ab rfl ?_ (by simp);exact d8 xQ λr=>r (pq h1) (pq h2) (pq h3) (pq h4) (pq h5) (pq h6) (pq h7) (pq h8) (pq h9) (pq h10) (pq h11) (pq h12) (pq h13) (pq h14) (pq h15) ⟨⟩
 simp only[EY,h]
theorem Lh(j a ae L:Nat)(h:j<L):(i9 j a ae).below L=true:=by simp[i9,MO.below,PV.below,h]
theorem Cl.app{A:List MO}(h:Cl A){x:MO}(hx:x.below (A.length+1)=true):Cl (A++[x]):=by
 unfold Cl at h ⊢;rw[fu]at h ⊢;intro o ho;rw[eF]at ho;rw[dI];rcases ho with q|q
 ·exact MO.below_mono (by simp) (h o q)
 ·simp only[ff]at q;subst q;exact hx
def Pe(W:Nat)(ah:List Tk):D:=match ng (pB W 24) W ah with
 |some (t,[])=>dy t
 |_=> .none
theorem JJ(g:rS ah)(ho:ops ah<=56)(hW:500<=W)(hn:340<=n)(hj:σ[j]? =some (.list (ah.map Tk.d)))(ne:ah≠[])(hs:ah.length<500)(ok:ah.all Tk.ok=true)(hc:Cl σ):(CN W n).c iI [.ref j] σ=some (.ok (.d (Pe W ah)),σ):=by
 obtain⟨m,rfl⟩:∃m,n=m+1:=⟨n -1,by exact dp hn rfl⟩;have hlt:=(ek.mp hj).1;have p:PS (σ++[i9 j 0 0]) σ.length j ah 0 0:=⟨by simp,by rw[fH hlt];exact hj,ne,hs,ok,by exact(pQ:Pn [] (.t (.k 0) (.k 1000)) []),hc.app (Lh _ _ _ _ ((ie (.t A0 (.a A1 K1)) [.t A0 A1]) hlt))⟩;have h1:=UI (W:=W) (n:=m) (j:=j) σ (dl hn rfl);have h2:=UH (k:=σ.length) (j:=j) (n:=m) g ho hW (dl hn rfl) _ 0 p ((lE (.l (.k 0) A0) [.t A0 (.k 500)]) hs);rw[List.drop_zero]at h2;rw[DW];unfold Pe;have hset:∀a' n',(σ++[i9 j 0 0]).set σ.length (i9 j a' n')=σ++[i9 j a' n']:=by intro a' n';simp
 refine h2.elim (λt l a' e1 e2 e3 e4=> ?_) λe1 a' n' e4=> ?_
 ·rw[e1];rw[hset]at e4;have p':=p.move (nest':=0) (a':=a') (p.lt e2);rw[hset]at p';have h3:=p'.at_;have h4:dW (σ++[i9 j a' 0]) (.ref j)=some (ah.map Tk.d):=by simp only[dW,p'.hj]
  have hlen:(ah.map Tk.d).length=ah.length:=by simp
  have hl2:ah.length<1099511627776:=(ie (.t A0 (.k 1099511627776)) [.t A0 (.k 500),.e A1 A0]) hs hlen;cases l with
  |nil=>
   have:a'=ah.length:=by have:=dN List.length e3;simp at this;exact(kI (.e A0 A1) [.l A0 A1,.e A2 A1,.e (.s A1 A0) (.k 0)]) e2 hlen this
   subst this;have ei:l5 (.int (ah.length:Nat)) (.int (ah.length:Nat))=some true:=by show some (_ == _)=_;simp
   refine gH (σ₁:=σ) (junk:=[i9 j ah.length 0]) rfl ?_ rfl rfl hc;have hcm:ir .Eq (.d (.int (ah.length:Nat))) (.d (.int ((ah.map Tk.d).length:Nat))) (σ++[i9 j ah.length 0])=some (.ok true,σ++[i9 j ah.length 0]):=by rw[hlen];exact fJ ei
   exact d8 tJ λr=>r h1 (Sq (fX rfl λr=>r e4 ⟨⟩)) (nj h3) (y9 h4 (by rw[hlen];exact hl2)) hcm ⟨⟩
  |cons x l=>
   have:a'<ah.length:=by have:=dN List.length e3;simp at this;exact(lx (.t A0 A1) [.l A0 A1,.e A2 A1,.e (.s A1 A0) (.a A3 K1)]) e2 hlen this
   have ei:l5 (.int (a':Nat)) (.int (ah.length:Nat))=some false:=by show some (_ == _)=_;simp;exact(kI (.n (.E (.c A2) (.c A1))) [.e A0 A1,.t A2 A1]) hlen this
   refine gH (σ₁:=σ) (junk:=[i9 j a' 0]) rfl ?_ rfl rfl hc;have hcm:ir .Eq (.d (.int (a':Nat))) (.d (.int ((ah.map Tk.d).length:Nat))) (σ++[i9 j a' 0])=some (.ok false,σ++[i9 j a' 0]):=by rw[hlen];exact fJ ei
   exact d8 tJ λr=>r h1 (Sq (fX rfl λr=>r e4 ⟨⟩)) (nj h3) (y9 h4 (by rw[hlen];exact hl2)) hcm ⟨⟩
 ·rw[e1];rw[hset]at e4;refine gH (σ₁:=σ) (junk:=[i9 j a' n']) rfl ?_ rfl rfl hc;exact d8 tJ λr=>r h1 (WI (fX rfl λr=>r e4 ⟨⟩)) ⟨⟩
end
section
variable{W:Nat}
def Wd.nm:Wd->List Nat
 | .leaf=>jW
 | .high=>iv
 | .scaled=>jj
 | .added=>vM
 | .sign=>ze
 | .met=>qT
 | .lg w=>w
theorem j7(h:w ∈ sM):w ∈ pZ\/w ∈ oJ\/w ∈ m7\/w=f8\/w=iH\/w=gf\/w=gC:=by
 simp only[sM,eF,dj,dJ,dK]at h;rcases h with((h|h)|h)|h
 ·exact .inl h
 ·exact .inr (.inl h)
 ·exact .inr (.inr (.inl h))
 ·exact .inr (.inr (.inr h))
theorem uh{kvs:List (List Nat×PV)}{m:M Fl}(hd:lW (σ++[MO.dict kvs]) (.ref σ.length)=some kvs)(w:List Nat)(e:i6 m σ=i6 (eJ (yP (.ref σ.length) (ret (.d (.str w))) (ret (.d (.str w))))) (σ++[.dict kvs])):i6 m σ=some (.ok ((mx w kvs).getD (.d (.str w))),σ++[.dict kvs]):=by rw[e];simp[i6,bnd,yP,CJ,hd,ret,Mr]
theorem JK(h:WF t)(hc:Cl σ)(hn:1<=n):(CN W n).c eX [.d (dy t)] σ=some (.ok (.d (.str (wd t).nm)),σ):=by
 obtain⟨m,rfl⟩:∃m,n=m+1:=⟨n -1,by exact dp hn rfl⟩;rw[Ga]
 match t,h with
 | .name s,_=>exact dk rfl rfl rfl
 | .num i,_=>exact dk rfl rfl rfl
 | .un w t,h=>
  have h1:=h.1;simp only[Bt,dj,dJ,dK]at h1;rcases h1 with rfl|rfl|rfl|rfl<;>exact dk rfl rfl rfl
 | .sc w a b,h=>
  rcases h.1 with rfl|rfl<;>exact dk rfl rfl rfl
 | .mem w t (.rng a b),h=>
  rcases h.1 with rfl|rfl<;>exact dk rfl rfl rfl
 | .bin w a b,h=>
  rcases j7 h.1 with q|q|q|q|q|q|q
  ·simp only[pZ,dj,dJ,dK]at q;rcases q with rfl|rfl|rfl<;>exact dk rfl rfl rfl
  ·simp only[oJ,dj,dJ,dK]at q;rcases q with rfl|rfl|rfl|rfl<;>exact dk rfl rfl rfl
  ·simp only[m7,dj,dJ,dK]at q;rcases q with rfl|rfl|rfl|rfl|rfl|rfl<;>exact dk rfl rfl rfl
  all_goals (subst q;have hd:lW (σ++[MO.dict [(gC,.d (.str iv))]]) (.ref σ.length)=some [(gC,.d (.str iv))]:=(by simp[lW]))
  ·exact gH (σ₁:=σ) (junk:=[.dict [(gC,.d (.str iv))]]) rfl ((uh hd f8 (by rfl)).trans rfl) rfl rfl hc
  ·exact gH (σ₁:=σ) (junk:=[.dict [(gC,.d (.str iv))]]) rfl ((uh hd iH (by rfl)).trans rfl) rfl rfl hc
  ·exact gH (σ₁:=σ) (junk:=[.dict [(gC,.d (.str iv))]]) rfl ((uh hd gf (by rfl)).trans rfl) rfl rfl hc
  ·exact gH (σ₁:=σ) (junk:=[.dict [(gC,.d (.str iv))]]) rfl ((uh hd gC (by rfl)).trans rfl) rfl rfl hc
theorem Cd(h:WF t):wd t= .leaf\/wd t= .high\/wd t= .scaled\/wd t= .added\/wd t= .sign\/wd t= .met\/wd t= .lg f8\/wd t= .lg iH\/wd t= .lg gf\/wd t= .lg eA\/wd t= .lg fg:=by
 match t,h with
 | .name s,_=>exact .inl rfl
 | .num i,_=>exact .inl rfl
 | .un w t,h=>
  rw[oK];split
  ·exact .inr (.inr (.inr (.inr (.inl rfl))))
  ·exact .inr (.inl rfl)
 | .sc w a b,h=>
  rcases h.1 with rfl|rfl
  ·exact .inr (.inr (.inr (.inr (.inr (.inr (.inr (.inr (.inr (.inl rfl)))))))))
  ·exact .inr (.inr (.inr (.inr (.inr (.inr (.inr (.inr (.inr (.inr rfl)))))))))
 | .mem w t (.rng a b),h=>exact .inr (.inr (.inr (.inr (.inr (.inl rfl)))))
 | .bin w a b,h=>
  rw[nv];rcases j7 h.1 with q|q|q|q|q|q|q
  ·rw[t9 q];simp
  ·rw[re q];simp
  ·rw[ua q];simp
  ·subst q;exact .inr (.inr (.inr (.inr (.inr (.inr (.inl rfl))))))
  ·subst q;exact .inr (.inr (.inr (.inr (.inr (.inr (.inr (.inl rfl)))))))
  ·subst q;exact .inr (.inr (.inr (.inr (.inr (.inr (.inr (.inr (.inl rfl))))))))
  ·subst q;exact .inr (.inl rfl)
theorem Lj(σ:List MO)(l:List D):dW (σ++[.list l]) (.ref σ.length)=some l:=by simp[dW]
def fj:List (List Nat):=[jW,iv,jj,vM,ze]
def lr(p:Wd)(side:Nat):List (List (List Nat)):=match p with
 | .high=>[fj,[jW]]
 | .scaled=>[fj,if side=0 then [jW,iv,jj]else [jW,iv]]
 | .sign=>[fj,[jW,iv,jj]]
 | .added=>if side=0 then [fj]else [fj,[jW,iv,jj]]
 | .met=>[fj]
 | .lg w=>if side=0 then [fj,[qT],fj++[qT],[w],fj++[qT]++[w]]else [fj,[qT],fj++[qT],[],fj++[qT]++[]]
 | .leaf=>[]
noncomputable def lZ(l:List (List Nat)):MO:= .list (l.map .str)
theorem Ow{kk:Nat}{m:Lo->M Fl}{more:Nat}{J:List MO}(hk:vs.length=kk)(e:i6 (m (eR vs ds more)) σ=some (.ok (.ref (σ.length+i)),σ++J)):semF kk m ds more vs σ=some (.ok (.ref (σ.length+i)),σ++J):=ug hk e (by simp[PV.below])
theorem QW(h:WF t)(hl:wd t≠.leaf)(hc:Cl σ)(hn:2<=n)(side:Nat)(hs:side=0\/side=1):(CN W n).c fp [.d (dy t),.d (.int side)] σ=some (.ok (.ref (σ.length+((lr (wd t) side).length -1))),σ++(lr (wd t) side).map lZ):=by
 obtain⟨m,rfl⟩:∃m,n=m+1:=⟨n -1,by exact dp hn rfl⟩;rw[Gb];have h1:=JK (W:=W) (n:=m) h hc (dl hn rfl);refine Ow rfl ?_;have hg:=λl:List D=>Lj σ l;rcases Cd h with q|q|q|q|q|q|q|q|q|q|q<;>rw[q]at h1 hl ⊢<;>first|exact absurd rfl hl|skip
 all_goals rcases hs with rfl|rfl
 ·exact pX iF (λr=>r h1 (oD rfl) (oD rfl) ⟨⟩) (by simp[kF,lr,lZ,fj,Wd.nm,d6])
 ·exact pX iF (λr=>r h1 (oD rfl) (oD rfl) ⟨⟩) (by simp[kF,lr,lZ,fj,Wd.nm,d6])
 ·exact pX iF (λr=>r h1 (jU rfl) (oD rfl) (oD rfl) ⟨⟩) (by simp[kF,lr,lZ,fj,Wd.nm,d6])
 ·exact pX iF (λr=>r h1 (jU rfl) (oD rfl) (jU rfl) ⟨⟩) (by simp[kF,lr,lZ,fj,Wd.nm,d6])
 ·exact pX iF (λr=>r h1 (jU rfl) (jU rfl) (jU rfl) (oD rfl) (oD rfl) ⟨⟩) (by simp[kF,lr,lZ,fj,Wd.nm,d6])
 ·exact pX iF (λr=>r h1 (jU rfl) (jU rfl) (jU rfl) (oD rfl) (jU rfl) ⟨⟩) (by simp[kF,lr,lZ,fj,Wd.nm,d6])
 ·exact pX iF (λr=>r h1 (jU rfl) (jU rfl) (oD rfl) ⟨⟩) (by simp[kF,lr,lZ,fj,Wd.nm,d6])
 ·exact pX iF (λr=>r h1 (jU rfl) (jU rfl) (oD rfl) ⟨⟩) (by simp[kF,lr,lZ,fj,Wd.nm,d6])
 ·exact pX iF (λr=>r h1 (jU rfl) (jU rfl) (jU rfl) (jU rfl) (oD rfl) ⟨⟩) (by simp[kF,lr,lZ,fj,Wd.nm,d6])
 ·exact pX iF (λr=>r h1 (jU rfl) (jU rfl) (jU rfl) (jU rfl) (oD rfl) ⟨⟩) (by simp[kF,lr,lZ,fj,Wd.nm,d6])
 all_goals first|exact pX iF (λr=>r h1 (jU rfl) (jU rfl) (jU rfl) (jU rfl) (jU rfl) (Jn (vI (hg _)) (rJ _ _) ⟨_,rfl⟩) (oD rfl) (Jn (vI (rJ _ _)) (rJ _ _) ⟨_,rfl⟩) ⟨⟩) (by simp[kF,lr,lZ,fj,Wd.nm,d6])|exact pX iF (λr=>r h1 (jU rfl) (jU rfl) (jU rfl) (jU rfl) (jU rfl) (Jn (vI (hg _)) (rJ _ _) ⟨_,rfl⟩) (jU rfl) (Jn (vI (rJ _ _)) (rJ _ _) ⟨_,rfl⟩) ⟨⟩) (by simp[kF,lr,lZ,fj,Wd.nm,d6])
end
section
variable{W:Nat}
def Gx(p:Wd)(side:Nat):List (List Nat):=match p with
 | .high=>[jW]
 | .scaled=>if side=0 then [jW,iv,jj]else [jW,iv]
 | .sign=>[jW,iv,jj]
 | .added=>if side=0 then fj else [jW,iv,jj]
 | .met=>fj
 | .lg w=>if side=0 then fj++[qT]++[w]else fj++[qT]++[]
 | .leaf=>[]
def Ai(p:Wd)(side:Nat)(u:Tr):Nat:=if(Gx p side).any (· ==(wd u).nm)then 0 else 1
theorem Ir{p:Wd}(hp:p≠.leaf)(side:Nat)(σ:List MO):dW (σ++(lr p side).map lZ) (.ref (σ.length+((lr p side).length -1)))=some ((Gx p side).map .str):=by cases p<;>first|exact absurd rfl hp|(by_cases h:side=0<;>simp[lr,Gx,h,dW,lZ])
theorem Ox(l:List (List Nat)):AC (l.map .str)=true:=by induction l with
 |nil=>rfl
 |cons x l ih=>exact ih
theorem Lk{l:List (List Nat)}(h:dW σ (.ref i)=some (l.map .str))(x:List Nat):gJ σ .NotIn (.d (.str x)) (.ref i)=some (!(l.any (· == x))):=by
 show(AD σ x (.ref i)).map (!·)=_
 have:AD σ x (.ref i)=(dW σ (.ref i)).bind (yL x):=rfl;rw[this,h];simp only[Option.bind,yL,Ox,if_true,Eh,Option.map]
def It:List Wd:=[.leaf,.high,.scaled,.added,.sign,.met,.lg f8,.lg iH,.lg gf,.lg eA,.lg fg]
theorem JL(h:WF t):wd t ∈ It:=by
 have:=Cd h
 simpa only[It,dj,dJ,dK] using this
def fS(p:Wd)(side:Nat)(w:Wd):Nat:=if(Gx p side).any (· == w.nm)then 0 else 1
def fP(n:Nat)(w:Wd):Nat:=if w.lvl<=n then 0 else 1
def fL(x:List Nat)(w:Wd):Nat:=if w.lvl<=4\/w= .lg x then 0 else 1
def fA(c w:Wd):Nat:=match c with
 | .high=>fP 0 w
 | .scaled=>fP 2 w
 | .added=>fP 3 w
 | .met=>fP 3 w
 | .lg x=>fL x w
 |_=>0
def fB(c w:Wd):Nat:=match c with
 | .high=>fP 0 w
 | .scaled=>fP 1 w
 | .added=>fP 2 w
 | .met=>fP 3 w
 | .lg _=>fP 4 w
 |_=>0
theorem Xk(p:Wd)(u:Tr):fA p (wd u)=mP p u:=by cases p<;>rfl
theorem Xl(p:Wd)(u:Tr):fB p (wd u)=kE p u:=by cases p<;>rfl
theorem Oy:∀p ∈ It,p= .leaf\/p= .sign\/∀w ∈ It,fS p 0 w=fA p w/\fS p 1 w=fB p w:=by decide+kernel
theorem QX:∀x ∈ Bt,∀w ∈ It,fS (if x=i8\/x=iR then .sign else .high) 1 w=if x=i8\/x=iR then fP 2 w else fP 0 w:=by decide+kernel
theorem Iu{p:Wd}(hp:p= .high\/p= .scaled\/p= .added\/p= .met\/p= .lg f8\/p= .lg iH\/p= .lg gf\/p= .lg eA\/p= .lg fg){u:Tr}(hu:WF u):Ai p 0 u=mP p u/\Ai p 1 u=kE p u:=by
 rw[<-Xk,<-Xl]
 have hm:p ∈ It:=by simp only[It,dj,dJ,dK];rcases hp with h|h|h|h|h|h|h|h|h<;>simp only[h,true_or,or_true]
 rcases Oy p hm with h|h|h
 ·subst h;simp at hp
 ·subst h;simp at hp
 ·exact h _ (JL hu)
theorem UJ(hw:w ∈ Bt){u:Tr}(hu:WF u):Ai (wd (.un w t)) 1 u=vc w u:=QX w hw _ (JL hu)
def jk(t:Tr)(side:Nat):List MO:=(lr (wd t) side).map lZ
theorem Cl.appJ{A:List MO}(h:Cl A)(J:List (List (List Nat))):Cl (A++J.map lZ):=by
 unfold Cl at h ⊢;rw[fu]at h ⊢;intro o ho;rw[eF]at ho;rw[dI];rcases ho with q|q
 ·exact MO.below_mono (by simp) (h o q)
 ·rw[List.mem_map]at q;refine eN q λl _ ez1=> ?_;clear q;subst ez1;rfl
theorem gI(τ:List MO)(x y:List Nat):gJ τ .Eq (.d (.str x)) (.d (.str y))=some (x == y):=rfl
structure Pen(W n:Nat)(t u:Tr)(side:Nat)(σ:List MO):Prop where
 w:(CN W n).c eX [.d (dy u)] σ=some (.ok (.d (.str (wd u).nm)),σ)
 f:(CN W n).c fp [.d (dy t),.d (.int side)] σ=some (.ok (.ref (σ.length+((lr (wd t) side).length -1))),σ++jk t side)
 c:∃b,gJ (σ++jk t side) .NotIn (.d (.str (wd u).nm)) (.ref (σ.length+((lr (wd t) side).length -1)))=some b/\(if b=true then 1 else 0:Int)=(Ai (wd t) side u:Nat)
theorem Em{u:Tr}(ht:WF t)(hl:wd t≠.leaf)(hu:WF u)(hc:Cl σ)(hn:2<=n)(side:Nat)(hs:side=0\/side=1):Pen W n t u side σ:=by refine⟨JK hu hc (dq hn rfl),QW ht hl hc hn side hs,_,Lk (Ir hl side σ) _,?_⟩;unfold Ai;cases(Gx (wd t) side).any (· ==(wd u).nm)<;>rfl
theorem Oz:wd (.un w t)≠.leaf:=by rw[oK];split<;>intro h<;>cases h
theorem Aj{a b:Tr}(h:w ∈ sM):cls w= .high\/cls w= .scaled\/cls w= .added\/cls w= .met\/cls w= .lg f8\/cls w= .lg iH\/cls w= .lg gf\/cls w= .lg eA\/cls w= .lg fg:=by
 rcases j7 h with q|q|q|q|q|q|q
 ·rw[t9 q];simp
 ·rw[re q];simp
 ·rw[ua q];simp
 ·subst q;exact .inr (.inr (.inr (.inr (.inl rfl))))
 ·subst q;exact .inr (.inr (.inr (.inr (.inr (.inl rfl)))))
 ·subst q;exact .inr (.inr (.inr (.inr (.inr (.inr (.inl rfl))))))
 ·subst q;exact .inl rfl
theorem JM{a b:Tr}{x y:Nat}(ht:WF t)(hl:wd t≠.leaf)(wa:WF a)(wb:WF b)(hc:Cl σ)(hn:2<=n)(g0:(Bx t == lH)=false)
  (g1:∀τ,gJ τ .In (.d (.str (Bx t))) (.d (.tup [.str fk,.str ic]))=some false)(g2:∀τ,gJ τ .In (.d (.str (Bx t))) (.d (.tup [.str fY,.str fM]))=some false)
  (e2:∀τ,gZ τ (.d (dy t)) (.d (.int (-2)))=some (.d (dy a)))(e1:∀τ,gZ τ (.d (dy t)) (.d (.int (-1)))=some (.d (dy b)))
  (hA:Ai (wd t) 0 a=x)(hB:Ai (wd t) 1 b=y)
  (da:∀τ,Cl τ->(CN W n).c eQ [.d (dy a)] τ=some (.ok (.d (.int (gs a))),τ))(db:∀τ,Cl τ->(CN W n).c eQ [.d (dy b)] τ=some (.ok (.d (.int (gs b))),τ)):
  ∃J,i6 (nu (CN W n).c (CN W n).f (CN W n).r W (eR [.d (dy t)] [] 4)) σ=some (.ok (.d (.int ((gs a+x+(gs b+y):Nat)))),σ++J):=by
 obtain⟨aw,af,c1,ab,av⟩:=Em (W:=W) (n:=n) ht hl wa hc hn 0 (.inl rfl);have hc1:Cl (σ++jk t 0):=hc.appJ _;obtain⟨bw,bf,c2,bb,bv⟩:=Em (W:=W) (n:=n) ht hl wb hc1 hn 1 (.inr rfl);rw[hA]at av;rw[hB]at bv;have h1:=da σ hc;have h2:=db _ hc1;have s0:=o4 σ t;have g0':∀τ:List MO,gJ τ .Eq (.d (.str (Bx t))) (.d (.str lH))=some false:=λτ=>by rw[gI,g0]
 refine⟨jk t 0++jk t 1,?_⟩;generalize (lr (wd t) 0).length -1=i1 at af ab;generalize (lr (wd t) 1).length -1=i2 at bf bb;generalize hJ1:jk t 0=J1 at *;generalize hJ2:jk t 1=J2 at *;have hval:(gs a:Int)+(if c1=true then 1 else 0)+gs b+(if c2=true then 1 else 0)=((gs a+x+(gs b+y):Nat):Int):=by rw[av,bv];push_cast;exact(lx (.E (.a (.a (.a (.c A0) (.c A1)) (.c A2)) (.c A3)) (.a (.a (.c A0) (.c A1)) (.a (.c A2) (.c A3)))) [])
 rw[<-hval];simp at af bf bb;exact d8 w6 λr=>r (dC s0) (mT g0) (dC s0) (ig (g1 _)) (dC s0) (ig (g2 _)) (dC (e2 _)) (dC (e1 _)) h1 aw af (ig ab) rfl rfl h2 rfl bw bf (ig bb) rfl rfl ⟨⟩
def dB(C:Addr->List PV->M PV)(aa:Lo):M Fl:=(so aa 3 .Add (d7 .Add (cM (C eQ) [(cG aa 4)]) (cM xO [(yY .NotIn (cM (C eX) [(cG aa 4)]) (cM (C fp) [(cG aa 0),(cY 0)]))])))
def Zg(C:Addr->List PV->M PV)(aa:Lo):Cm Fl:=(oC aa 3 .Add (dT .Add (cI (C eQ) [(cF aa 4)]) (cI xO [(ph .NotIn (cI (C eX) [(cF aa 4)]) (cI (C fp) [(cF aa 0),(cL 0)]))])))
theorem Zh:dB C aa=fG (Zg C aa):=rfl
theorem Ak{u:Tr}{x:Nat}{τ:List MO}(ht:WF t)(hl:wd t≠.leaf)(wu:WF u)(hc:Cl τ)(hn:2<=n)(hx:Ai (wd t) 0 u=x)(du:∀τ,Cl τ->(CN W n).c eQ [.d (dy u)] τ=some (.ok (.d (.int (gs u))),τ)):
  dB (CN W n).c [some (.d (dy t)),none,none,some (.d (.int c)),some (.d (dy u))] τ=some (.ok (.nxt [some (.d (dy t)),none,none,some (.d (.int ((c+(gs u+x):Nat)))),some (.d (dy u))]),τ++jk t 0):=by
 obtain⟨aw,af,c1,ab,av⟩:=Em (W:=W) (n:=n) ht hl wu hc hn 0 (.inl rfl);rw[hx]at av;have h1:=du τ hc;generalize (lr (wd t) 0).length -1=i1 at af ab;generalize hJ1:jk t 0=J1 at *;have hval:(c:Int)+(gs u+(if c1=true then 1 else 0))=((c+(gs u+x):Nat):Int):=by rw[av];push_cast;exact(kI (.E (.a (.c A0) (.a (.c A1) (.c A2))) (.a (.c A0) (.a (.c A1) (.c A2)))) [])
 rw[<-hval];simp at af ab;exact fX Zh λr=>r h1 aw af (ig ab) rfl rfl rfl ⟨⟩
theorem Ll{p q r:Tr}{x y z:Nat}(ht:WF t)(hl:wd t≠.leaf)(wp:WF p)(wq:WF q)(wr:WF r)(hc:Cl σ)(hn:2<=n)(hW:4<=W)(g0:(Bx t == lH)=false)
  (g1:∀τ,gJ τ .In (.d (.str (Bx t))) (.d (.tup [.str fk,.str ic]))=some false)(g2:∀τ,gJ τ .In (.d (.str (Bx t))) (.d (.tup [.str fY,.str fM]))=some true)
  (e1:∀τ,gZ τ (.d (dy t)) (.d (.int 1))=some (.d (dy p)))(e2:∀τ,gZ τ (.d (dy t)) (.d (.int 2))=some (.d (.tup [.str fD,dy q,dy r])))
  (hA:Ai (wd t) 0 p=x)(hB:Ai (wd t) 0 q=y)(hC:Ai (wd t) 0 r=z)
  (du:∀u,u=p\/u=q\/u=r->∀τ,Cl τ->(CN W n).c eQ [.d (dy u)] τ=some (.ok (.d (.int (gs u))),τ)):
  ∃J,i6 (nu (CN W n).c (CN W n).f (CN W n).r W (eR [.d (dy t)] [] 4)) σ=some (.ok (.d (.int ((((0+(gs p+x))+(gs q+y))+(gs r+z):Nat)))),σ++J):=by
 obtain⟨W',rfl⟩:∃w,W=w+4:=⟨W -4,by exact dp hW rfl⟩;have s0:=o4 σ t;have g0':∀τ:List MO,gJ τ .Eq (.d (.str (Bx t))) (.d (.str lH))=some false:=λτ=>by rw[gI,g0]
 have q1:∀τ:List MO,gZ τ (.d (.tup [.str fD,dy q,dy r])) (.d (.int 1))=some (.d (dy q)):=λ_=>rfl;have q2:∀τ:List MO,gZ τ (.d (.tup [.str fD,dy q,dy r])) (.d (.int 2))=some (.d (dy r)):=λ_=>rfl;have hc0:Cl (σ++[.list [dy p,dy q,dy r]]):=hc.app rfl;have hc1:Cl (σ++[.list [dy p,dy q,dy r]]++jk t 0):=hc0.appJ _;have hc2:Cl (σ++[.list [dy p,dy q,dy r]]++jk t 0++jk t 0):=hc1.appJ _;have b1:=Ak (W:=W'+4) (n:=n) (c:=0) ht hl wp hc0 hn hA (du p (.inl rfl));have b2:=Ak (W:=W'+4) (n:=n) (c:=0+(gs p+x)) ht hl wq hc1 hn hB (du q (.inr (.inl rfl)));have b3:=Ak (W:=W'+4) (n:=n) (c:=0+(gs p+x)+(gs q+y)) ht hl wr hc2 hn hC (du r (.inr (.inr rfl)))
 generalize hJ1:jk t 0=J1 at *
 have nx:∀K i,uQ (.ref σ.length) i (σ++ .list [dy p,dy q,dy r]::K)=some (([dy p,dy q,dy r][i]?).map .d):=by
  intro K i;have:dW (σ++ .list [dy p,dy q,dy r]::K) (.ref σ.length)=some [dy p,dy q,dy r]:=by simp[dW]
  simp[uQ,this]
 refine⟨.list [dy p,dy q,dy r]::(J1++(J1++J1)),?_⟩;have b1':dB (CN (W'+4) n).c [some (.d (dy t)),none,none,some (.d (.int 0)),some (.d (dy p))] (σ++[.list [dy p,dy q,dy r]])=_:=b1;generalize 0+(gs p+x)=c1 at b1' b2 b3 ⊢;generalize c1+(gs q+y)=c2 at b2 b3 ⊢;generalize c2+(gs r+z)=c3 at b3 ⊢
 have L:kM (uQ (.ref σ.length)) (qO 4) (dB (CN (W'+4) n).c) (W'+4) 0 [some (.d (dy t)),none,none,some (.d (.int 0)),none] (σ++[.list [dy p,dy q,dy r]])=some (.ok (.nxt [some (.d (dy t)),none,none,some (.d (.int c3)),some (.d (dy r))]),σ++ .list [dy p,dy q,dy r]::(J1++(J1++J1))):=by simp only[d6,List.singleton_append,mj,qd]at b1' b2 b3;simp[bnd,kM,nx,qO,rG,b1',b2,b3,ret]
 have hd:dB (CN (W'+4) n).c=λaa=>(so aa 3 .Add (d7 .Add (cM ((CN (W'+4) n).c eQ) [(cG aa 4)]) (cM xO [(yY .NotIn (cM ((CN (W'+4) n).c eX) [(cG aa 4)]) (cM ((CN (W'+4) n).c fp) [(cG aa 0),(cY 0)]))]))):=rfl;rw[hd]at L;exact d8 w6 λr=>r (dC s0) (mT g0) (dC s0) (ig (g1 _)) (dC s0) (ig (g2 _)) (dC (e1 _)) (dC (e2 _)) (dC (q1 _)) (dC (e2 _)) (dC (q2 _)) L ⟨⟩
theorem wo(t:Tr)(h:WF t):∀(σ:List MO)(n:Nat),Cl σ->ht t+3<=n->4<=W->(CN W n).c eQ [.d (dy t)] σ=some (.ok (.d (.int (gs t))),σ):=by
 intro σ n hc hn hW;obtain⟨m,rfl⟩:∃m,n=m+1:=⟨n -1,by exact(ie (.e A1 (.a (.s A1 K1) K1)) [.l (.a A0 (.k 3)) A1]) hn⟩;rw[H7]
 match t,h with
 | .name s,_=>exact dk rfl rfl rfl
 | .num i,_=>exact dk rfl rfl rfl
 | .un w t,h=>
  simp only[ht]at hn;have h1:=wo t h.2 σ m hc ((ie (.l (.a A0 (.k 3)) A1) [.l (.a (.a A0 K1) (.k 3)) (.a A1 K1)]) hn) hW;obtain⟨hw,hf,b,hb,hv⟩:=Em (W:=W) (n:=m) h Oz h.2 hc ((ie (.l (.k 2) A1) [.l (.a (.a A0 K1) (.k 3)) (.a A1 K1)]) hn) 1 (.inr rfl);rw[UJ h.1 h.2]at hv;refine gH (σ₁:=σ) (junk:=jk (.un w t) 1) rfl ?_ rfl rfl hc;have e0:l5 (.str lH) (.str lH)=some true:=rfl;have s0:gZ σ (.d (dy (.un w t))) (.d (.int 0))=some (.d (.str lH)):=rfl;have s2:gZ σ (.d (dy (.un w t))) (.d (.int 2))=some (.d (dy t)):=rfl;simp at hf;exact pX w6 (λr=>r (dC s0) (fJ e0) (dC s2) h1 (dC s2) hw hf (ig hb) rfl rfl ⟨⟩) (by cases b<;>simp at hv<;>simp[gs,<-hv,kF])
 | .sc w a b,h=>
  simp only[ht]at hn;have hl:wd (.sc w a b)≠.leaf:=by intro z;cases z
  have hp:=λu(hu:WF u)=>Iu (p:= .lg w) (by rcases h.1 with q|q<;>simp[q]) hu
  refine oE (JM (t:= .sc w a b) (σ:=σ) (W:=W) (n:=m) h hl h.2.1 h.2.2 hc (RF hn) (by rcases h.1 with rfl|rfl<;>rfl) (by rcases h.1 with rfl|rfl<;>exactλ_=>rfl) (by rcases h.1 with rfl|rfl<;>exactλ_=>rfl) (λ_=>rfl) (λ_=>rfl) (hp a h.2.1).1 (hp b h.2.2).2 (λτ hτ=>wo a h.2.1 τ m hτ (RE hn) hW) (λτ hτ=>wo b h.2.2 τ m hτ (RD hn) hW)) λJ e=> ?_
  exact gH rfl e rfl rfl hc
 | .bin w a b,h=>
  simp only[ht]at hn;have hm:=Aj (a:=a) (b:=b) h.1;have hl:wd (.bin w a b)≠.leaf:=by rw[nv];rcases hm with q|q|q|q|q|q|q|q|q<;>rw[q]<;>intro z<;>cases z
  have hp:=λu(hu:WF u)=>Iu (p:=cls w) hm hu;refine oE (JM (t:= .bin w a b) (σ:=σ) (W:=W) (n:=m) h hl h.2.1 h.2.2 hc (RF hn) rfl (λ_=>rfl) (λ_=>rfl) (λ_=>rfl) (λ_=>rfl) (hp a h.2.1).1 (hp b h.2.2).2 (λτ hτ=>wo a h.2.1 τ m hτ (RE hn) hW) (λτ hτ=>wo b h.2.2 τ m hτ (RD hn) hW)) λJ e=> ?_;exact gH rfl e rfl rfl hc
 | .mem w t (.rng a b),h=>
  simp only[ht]at hn;have hl:wd (.mem w t (.rng a b))≠.leaf:=by intro z;cases z
  have hp:=λu(hu:WF u)=>(Iu (p:= .met) (by simp) hu).1
  refine oE (Ll (t:= .mem w t (.rng a b)) (σ:=σ) (W:=W) (n:=m) h hl h.2.1 h.2.2.1 h.2.2.2 hc ((lx (.l (.k 2) A3) [.l (.a (.a (.ma A0 (.a (.ma A1 A2) K1)) K1) (.k 3)) (.a A3 K1)]) hn) hW (by rcases h.1 with rfl|rfl<;>rfl) (by rcases h.1 with rfl|rfl<;>exactλ_=>rfl) (by rcases h.1 with rfl|rfl<;>exactλ_=>rfl) (λ_=>rfl) (λ_=>rfl) (hp t h.2.1) (hp a h.2.2.1) (hp b h.2.2.2) (by
   rintro u (rfl|rfl|rfl) τ hτ
   ·exact wo u h.2.1 τ m hτ ((lx (.l (.a A0 (.k 3)) A3) [.l (.a (.a (.ma A0 (.a (.ma A1 A2) K1)) K1) (.k 3)) (.a A3 K1)]) hn) hW
   ·exact wo u h.2.2.1 τ m hτ ((lx (.l (.a A1 (.k 3)) A3) [.l (.a (.a (.ma A0 (.a (.ma A1 A2) K1)) K1) (.k 3)) (.a A3 K1)]) hn) hW
   ·exact wo u h.2.2.2 τ m hτ ((lx (.l (.a A2 (.k 3)) A3) [.l (.a (.a (.ma A0 (.a (.ma A1 A2) K1)) K1) (.k 3)) (.a A3 K1)]) hn) hW)) λJ e=> ?_
  have hv:(((0+(gs t+mP .met t))+(gs a+mP .met a))+(gs b+mP .met b):Nat)=gs (.mem w t (.rng a b)):=by have:∀u,mP .met u=ew 3 u:=λ_=>rfl;simp only[gs,this];exact(Ke (.e (.a (.a (.a (.k 0) (.a A0 A1)) (.a A2 A3)) (.a A4 A5)) (.a (.a A0 A1) (.a (.a A2 A3) (.a A4 A5)))) [])
  rw[hv]at e;exact gH rfl e rfl rfl hc
end
section
variable{W u:Nat}{cells:List Int}{a:Nat}{f:Int}
def sE(c:Nat)(a:Nat)(f:Int):MO:= .dict [(t7,.ref c),(ii,.d (.int a)),(kO,.d (.int f))]
structure yE(σ:List MO)(u c:Nat)(cells:List Int)(a:Nat)(f:Int):Prop where
 hu:σ[u]? =some (sE c a f)
 hc:σ[c]? =some (.list (cells.map .int))
 ne:u≠c
 cl:Cl σ
 len:cells.length<1000
theorem Cl.set{A:List MO}(h:Cl A){i:Nat}{x:MO}(hx:x.below A.length=true):Cl (A.set i x):=by
 unfold Cl at h ⊢;rw[fu]at h ⊢;intro o ho;rw[List.length_set];rcases List.mem_or_eq_of_mem_set ho with q|q
 ·exact h o q
 ·subst q;exact hx
theorem yE.move(U:yE σ u c cells a f)(a':Nat)(f':Int):yE (σ.set u (sE c a' f')) u c cells a' f':=by have h1:=(ek.mp U.hu).1;have h2:=(ek.mp U.hc).1;exact⟨qE h1,by rw[o6 U.ne];exact U.hc,U.ne,U.cl.set (by simp[sE,MO.below,PV.below,h2]),U.len⟩
theorem yE.app(U:yE σ u c cells a f)(J:List (List (List Nat))):yE (σ++J.map lZ) u c cells a f:=by have h1:=(ek.mp U.hu).1;have h2:=(ek.mp U.hc).1;exact⟨by rw[fH h1];exact U.hu,by rw[fH h2];exact U.hc,U.ne,U.cl.appJ J,U.len⟩
theorem yE.at_(U:yE σ u c cells a f):gZ σ (.ref u) (.d (.str ii))=some (.d (.int a)):=by simp only[gZ,lW,U.hu,sE];rfl
theorem yE.fuel(U:yE σ u c cells a f):gZ σ (.ref u) (.d (.str kO))=some (.d (.int f)):=by simp only[gZ,lW,U.hu,sE];rfl
theorem yE.cel(U:yE σ u c cells a f):gZ σ (.ref u) (.d (.str t7))=some (.ref c):=by simp only[gZ,lW,U.hu,sE];rfl
theorem yE.putA(U:yE σ u c cells a f)(a':Nat)(k:Unit->M Fl)(τ:List MO):E1 σ (.ref u) (.d (.str ii)) (.d (.int a')) k τ=k () (σ.set u (sE c a' f)):=by simp only[E1,U.hu,sE];rfl
theorem yE.putF(U:yE σ u c cells a f)(f':Int)(k:Unit->M Fl)(τ:List MO):E1 σ (.ref u) (.d (.str kO)) (.d (.int f')) k τ=k () (σ.set u (sE c a f')):=by simp only[E1,U.hu,sE];rfl
theorem JN(x:Int){m:Nat}(hm:0<m):∃v:Nat,v<m/\x.fmod m=v:=by have h1:0<=x.fmod m:=Int.fmod_nonneg_of_pos x (L3 hm);have h2:x.fmod m<m:=Int.fmod_lt_of_pos x (L3 hm);exact⟨(x.fmod m).toNat,by exact V3 h1 h2,by exact V2 h1⟩
theorem tN(U:yE σ u c cells a f)(many:Nat)(hm:0<many)(ha:a<1000)(hn:1<=n):∃v:Nat,v<many/\(CN W n).c dh [.ref u,.d (.int many)] σ=some (.ok (.d (.int v)),σ.set u (sE c (a+1) f)):=by
 obtain⟨m,rfl⟩:∃m,n=m+1:=⟨n -1,by exact dp hn rfl⟩;rw[xe];have h1:=U.at_;have U':=U.move (a+1) f;have h2:=U'.cel;have h3:dW (σ.set u (sE c (a+1) f)) (.ref c)=some (cells.map .int):=by simp only[dW,U'.hc]
 have hp:=U.putA (a+1);rw[show((a+1:Nat):Int)=(a:Int)+1 by exact VD]at hp;have hlen:=U.len;have hl2:cells.length<1099511627776:=mq hlen rfl;have hm':(0:Int)<(many:Nat):=L3 hm;by_cases q:a<cells.length
 ·refine eN (JN cells[a] hm) λv hv hx=> ?_;refine⟨v,hv,dk rfl ?_ (by simp)⟩;have h5:((a:Int)<((cells.map D.int).length:Nat)):=by rw[f6];exact yI q
  have h9:sU .Mod (.int cells[a]) (.int (many:Nat))=some (.int v):=(cH hm').trans (by rw[hx]);have hl3:(cells.map D.int).length<2 ^ 40:=by rw[f6];exact hl2
  have h6:gZ (σ.set u (sE c (a+1) f)) (.ref c) (.d (.int a))=some (.d (.int cells[a])):=by have h7:(a:Int).natAbs<2 ^ 40:=V1 ha q;have h8:seqIndex? (a:Int) cells.length=some a:=W5 q;simp only[gZ,cH h7,h3,Option.bind,f6,h8,List.getElem?_map,nO q,Option.map]
  exact d8 sy λr=>r (dC h1) rfl (hp _ _) (dC h2) (y9 h3 hl3) (th h5) (dC h2) (dC h6) (BR h9) ⟨⟩
 ·refine eN (JN (2 *(a:Int) * a+3 * a+3) hm) λv hv hx=> ?_;refine⟨v,hv,dk rfl ?_ (by simp)⟩;have h5:¬((a:Int)<((cells.map D.int).length:Nat)):=by rw[f6];exact I0 q
  have h9:sU .Mod (.int (2 *(a:Int) * a+3 * a+3)) (.int (many:Nat))=some (.int v):=(cH hm').trans (by rw[hx]);have hl3:(cells.map D.int).length<2 ^ 40:=by rw[f6];exact hl2
  have b1:a<1099511627776:=mq ha rfl;have b2:(2 *(a:Int)).natAbs<1099511627776:=V0 ha;have h10:sU .Mult (.int 2) (.int (a:Int))=some (.int (2 * a)):=cH ⟨by decide,b1⟩;have h11:sU .Mult (.int (2 *(a:Int))) (.int (a:Int))=some (.int (2 * a * a)):=cH ⟨b2,b1⟩;have h12:sU .Mult (.int 3) (.int (a:Int))=some (.int (3 * a)):=cH ⟨by decide,b1⟩;exact d8 sy λr=>r (dC h1) rfl (hp _ _) (dC h2) (y9 h3 hl3) (ti h5) (BR h10) (BR h11) (BR h12) rfl rfl (BR h9) ⟨⟩
end
section
variable{W u:Nat}{cells:List Int}{a:Nat}{f:Int}
noncomputable def LV:Tr->Prop
 | .name s=>s=Sv\/s=Sw\/s=Sx
 | .num i=>i<100
 | .un _ t=>LV t
 | .bin _ a b=>LV a/\LV b
 | .sc _ a b=>LV a/\LV b
 | .mem _ t m=>LV t/\LV m
 | .rng a b=>LV a/\LV b
 | .pn _=>False
noncomputable def DD:Nat->Nat
 | 0=>2
 |k+1=>3 * DD k+2
noncomputable def OO:Nat->Nat
 | 0=>0
 | 1=>3
 |k+2=>2 * OO (k+1)+2
noncomputable def LL:Nat->Nat
 | 0=>1
 |k+1=>3 * LL k+9
theorem UK(k:Nat):3+OO k+2 * OO (k -1)<=OO (k+1):=by
 cases k with
 |zero=>decide
 |succ k=>
  simp only[Nat.add_sub_cancel,OO];cases k with
  |zero=>decide
  |succ k=>simp only[OO];exact(lE (.l (.a (.a (.k 3) (.a (.l 2 A0) (.k 2))) (.l 2 A0)) (.a (.l 2 (.a (.l 2 A0) (.k 2))) (.k 2))) [])
theorem Iv(k:Nat):2+2 * OO k<=OO (k+1):=by
 cases k with
 |zero=>decide
 |succ k=>simp only[OO];exact(lE (.l (.a (.k 2) (.l 2 A0)) (.a (.l 2 A0) (.k 2))) [])
theorem QY(k:Nat):LL (k -1)<=LL k:=by
 cases k with
 |zero=>decide
 |succ k=>simp only[Nat.add_sub_cancel,LL];exact(lE (.l A0 (.a (.l 3 A0) (.k 9))) [])
theorem QZ(k:Nat):DD (k -1)<=DD k:=by
 cases k with
 |zero=>decide
 |succ k=>simp only[Nat.add_sub_cancel,DD];exact(lE (.l A0 (.a (.l 3 A0) (.k 2))) [])
theorem nJ(l m:List Tk):ops (l++m)=ops l+ops m:=by unfold ops;exact List.countP_append
theorem mU(x:Nat)(l:List Tk):ops (brk x l)=ops l:=by
 unfold brk;split
 ·rfl
 ·rw[kn,nJ];simp[sD,ops]
theorem qq(x:Nat)(l:List Tk):(brk x l).length<=l.length+2:=by unfold brk;split<;>simp
theorem Iw(x:Tk)(l:List Tk):ops (x::l)<=ops l+1:=by rw[kn];split<;>(first|exact(lE (.l (.a A0 (.k 0)) (.a A0 K1)) [])|exact I1)
structure nh(k:Nat)(t:Tr):Prop where
 wf:WF t
 lv:LV t
 o:ops (tk t)<=OO k
 h:mS t<=k
 l:(tk t).length<=LL k
theorem vm{k:Nat}{s:List Nat}(hs:s=Sv\/s=Sw\/s=Sx):nh k (.name s):=by
 refine⟨trivial,hs,?_,iq _,?_⟩
 ·show ops [Tk.name s]<=_;simp[ops,sD]
 ·cases k<;>simp[tk,LL]
theorem Lm{k:Nat}(hs:i<100):nh k (.num i):=by
 refine⟨trivial,hs,?_,iq _,?_⟩
 ·show ops [Tk.int i]<=_;simp[ops,sD]
 ·cases k<;>simp[tk,LL]
theorem OA{k:Nat}(hw:w ∈ Bt)(h:nh k t):nh (k+1) (.un w t):=by
 have h1:=Iv k;refine⟨⟨hw,h.wf⟩,h.lv,?_,by have:=h.h;exact RG this,?_⟩
 ·have:=Iw (iW w) (brk (vc w t) (tk t));rw[mU]at this;have tz1:=h.o;simp only[tk];exact(lx (.l A2 A1) [.l (.a (.k 2) (.l 2 A0)) A1,.l A2 (.a A3 K1),.l A3 A0]) h1 this tz1
 ·have tz2:=qq (vc w t) (tk t);have:=h.l;simp only[tk,LL,eD];exact(kI (.l (.a A0 K1) (.a (.l 3 A2) (.k 9))) [.l A0 (.a A1 (.k 2)),.l A1 A2]) tz2 this
theorem Ln{k:Nat}{x y:Tr}(hw:w ∈ sM)(hx:nh k x)(hy:nh k y):nh (k+1) (.bin w x y):=by
 have h1:=Iv k;refine⟨⟨hw,hx.wf,hy.wf⟩,⟨hx.lv,hy.lv⟩,?_,by have tz3:=hx.h;have tz4:=hy.h;exact(kI (.l (.a (.ma A0 A2) K1) (.a A1 K1)) [.l A0 A1,.l A2 A1]) tz3 tz4,?_⟩
 ·have:=Iw (iW w) (brk (kE (cls w) y) (tk y));rw[mU]at this;have tz5:=hx.o;have tz6:=hy.o;simp only[tk,nJ,mU];exact(BB (.l (.a A4 A2) A1) [.l (.a (.k 2) (.l 2 A0)) A1,.l A2 (.a A3 K1),.l A4 A0,.l A3 A0]) h1 this tz5 tz6
 ·have tz7:=qq (mP (cls w) x) (tk x);have tz8:=qq (kE (cls w) y) (tk y);have tz9:=hx.l;have:=hy.l;simp only[tk,LL,dI,eD];exact(BB (.l (.a A0 (.a A2 K1)) (.a (.l 3 A4) (.k 9))) [.l A0 (.a A1 (.k 2)),.l A2 (.a A3 (.k 2)),.l A1 A4,.l A3 A4]) tz7 tz8 tz9 this
theorem OB{k:Nat}{x y:Tr}(hw:w=eA\/w=fg)(hx:nh k x)(hy:nh k y):nh (k+1) (.sc w x y):=by
 have h1:=Iv k;have h2:ops (z6 w)=2/\(z6 w).length=2:=by unfold z6;split<;>decide
 refine⟨⟨hw,hx.wf,hy.wf⟩,⟨hx.lv,hy.lv⟩,?_,by have tz10:=hx.h;have tz11:=hy.h;exact(kI (.l (.a (.ma A0 A2) K1) (.a A1 K1)) [.l A0 A1,.l A2 A1]) tz10 tz11,?_⟩
 ·have tz12:=hx.o;have tz13:=hy.o;simp only[tk,nJ,mU];exact(Ke (.l (.a A4 (.a A2 A5)) A1) [.l (.a (.k 2) (.l 2 A0)) A1,.c (.e A2 (.k 2)) (.e A3 (.k 2)),.l A4 A0,.l A5 A0]) h1 h2 tz12 tz13
 ·have tz14:=qq (km w x) (tk x);have tz15:=qq (ew 4 y) (tk y);have tz16:=hx.l;have:=hy.l;simp only[tk,LL,dI];exact(Kf (.l (.a A2 (.a A1 A4)) (.a (.l 3 A6) (.k 9))) [.c (.e A0 (.k 2)) (.e A1 (.k 2)),.l A2 (.a A3 (.k 2)),.l A4 (.a A5 (.k 2)),.l A3 A6,.l A5 A6]) h2 tz14 tz15 tz16 this
theorem Lp{k:Nat}{x y:Tr}(hw:w=fY\/w=fM)(ht:nh k t)(hx:nh (k -1) x)(hy:nh (k -1) y):nh (k+1) (.mem w t (.rng x y)):=by
 have h1:=UK k;have h2:ops (oo w)<=2/\(oo w).length<=2:=by unfold oo;split<;>decide
 have h3:=QY k;refine⟨⟨hw,ht.wf,hx.wf,hy.wf⟩,⟨ht.lv,hx.lv,hy.lv⟩,?_,by have tz17:=ht.h;have tz18:=hx.h;have tz19:=hy.h;exact(lx (.l (.a (.ma A0 (.ma A2 A3)) K1) (.a A1 K1)) [.l A0 A1,.l A2 (.s A1 K1),.l A3 (.s A1 K1)]) tz17 tz18 tz19,?_⟩
 ·have:=Iw (.op jD) (brk (ew 3 y) (tk y));rw[mU]at this;have tz20:=ht.o;have tz21:=hx.o;have tz22:=hy.o;simp only[tk,nJ,mU];exact(ZY (.l (.a A7 (.a A3 (.a A8 A5))) A2) [.l (.a (.a (.k 3) A0) (.l 2 A1)) A2,.c (.l A3 (.k 2)) (.l A4 (.k 2)),.l A5 (.a A6 K1),.l A7 A0,.l A8 A1,.l A6 A1]) h1 h2 this tz20 tz21 tz22
 ·have tz23:=qq (ew 3 t) (tk t);have tz24:=qq (ew 3 x) (tk x);have tz25:=qq (ew 3 y) (tk y);have tz26:=ht.l;have tz27:=hx.l;have:=hy.l;simp only[tk,LL,dI,eD];exact(Yq (.l (.a A4 (.a A1 (.a A6 (.a A8 K1)))) (.a (.l 3 A3) (.k 9))) [.c (.l A0 (.k 2)) (.l A1 (.k 2)),.l A2 A3,.l A4 (.a A5 (.k 2)),.l A6 (.a A7 (.k 2)),.l A8 (.a A9 (.k 2)),.l A5 A3,.l A7 A2,.l A9 A2]) h2 h3 tz23 tz24 tz25 tz26 tz27 this
def Ce(W n u c:Nat)(cells:List Int)(k:Nat):Prop:=∀(s:Int)(σ:List MO)(a:Nat)(f:Int),s<=k->yE σ u c cells a f->a+DD k<=900->
 ∃t a' f',nh k t/\a'<=a+DD k/\(CN W n).c dw [.ref u,.d (.int s)] σ=some (.ok (.d (dy t)),σ.set u (sE c a' f'))
def Gy(C:Addr->List PV->M PV)(aa:Lo):M PV:=(E4 (uN [(dz .Gt (cG aa 1) (cY 0)),(dz .Gt (dP (cG aa 0) (cW kO)) (cY 0))]) (cM (C dh) [(cG aa 0),(cY 9)]) (cY 0))
def Q0(C:Addr->List PV->M PV)(aa:Lo):Cm PV:=(sp (jb [(cV .Gt (cF aa 1) (cL 0)),(cV .Gt (dr (cF aa 0) (cK kO)) (cL 0))]) (cI (C dh) [(cF aa 0),(cL 9)]) (cL 0))
theorem En:Gy C aa=fG (Q0 C aa):=rfl
def Gz(C:Addr->List PV->M PV)(aa:Lo):M Fl:=(dn (eS (dz .Lt (cG aa 2) (cY 2)) (dn (eS (dz .Eq (cM (C dh) [(cG aa 0),(cY 3)]) (cY 2)) (eJ (f7 [(cW ic),(cM (C dh) [(cG aa 0),(cY 100)])])) (dF aa)) λaa=>(eJ (f7 [(cW fk),(s8 [(cW Sv),(cW Sw),(cW Sx)] (cM (C dh) [(cG aa 0),(cY 3)]))]))) (dF aa)) λaa=>(dn (eS (dz .Eq (cG aa 2) (cY 2)) (eJ (f7 [(cW lH),(s8 [(cW iR),(cW ji),(cW gc),(cW i8)] (cM (C dh) [(cG aa 0),(cY 4)])),(cM (C dw) [(cG aa 0),(d7 .Sub (cG aa 1) (cY 1))])])) (dF aa)) λaa=>(dn (eS (dz .Eq (cG aa 2) (cY 8)) (dn (dZ aa 6 (cM (C dw) [(cG aa 0),(d7 .Sub (cG aa 1) (cY 2))])) λaa=>(dn (dZ aa 7 (f7 [(cW fD),(cG aa 6),(cM (C dw) [(cG aa 0),(d7 .Sub (cG aa 1) (cY 2))])])) λaa=>(eJ (f7 [(s8 [(cW fY),(cW fM)] (cM (C dh) [(cG aa 0),(cY 2)])),(cM (C dw) [(cG aa 0),(d7 .Sub (cG aa 1) (cY 1))]),(cG aa 7)])))) (dF aa)) λaa=>(dn (eS (dz .Eq (cG aa 2) (cY 7)) (dn (dZ aa 8 (s8 [(cW eA),(cW fg)] (cM (C dh) [(cG aa 0),(cY 2)]))) λaa=>(dn (dZ aa 5 (cM (C dw) [(cG aa 0),(d7 .Sub (cG aa 1) (cY 1))])) λaa=>(eJ (f7 [(cG aa 8),(cG aa 5),(cM (C dw) [(cG aa 0),(d7 .Sub (cG aa 1) (cY 1))])])))) (dF aa)) λaa=>(dn (dZ aa 3 (s8 [(kN eG),(kN g6),(d7 .Add (kN fE) (m9 [(cW f8),(cW iH),(cW gf)])),(d7 .Add (m9 [(cW gC)]) (kN eG))] (d7 .Sub (cG aa 2) (cY 3)))) λaa=>(dn (dZ aa 4 (dP (cG aa 3) (cM (C dh) [(cG aa 0),(cM jQ [(cG aa 3)])]))) λaa=>(dn (dZ aa 5 (cM (C dw) [(cG aa 0),(d7 .Sub (cG aa 1) (cY 1))])) λaa=>(eJ (f7 [(cW iQ),(cG aa 4),(cG aa 5),(cM (C dw) [(cG aa 0),(d7 .Sub (cG aa 1) (cY 1))])])))))))))
def Q1(C:Addr->List PV->M PV)(aa:Lo):Cm Fl:=(.seq (dm (cV .Lt (cF aa 2) (cL 2)) (.seq (dm (cV .Eq (cI (C dh) [(cF aa 0),(cL 3)]) (cL 2)) (df (eo [(cK ic),(cI (C dh) [(cF aa 0),(cL 100)])])) (cZ aa)) λaa=>(df (eo [(cK fk),(qx [(cK Sv),(cK Sw),(cK Sx)] (cI (C dh) [(cF aa 0),(cL 3)]))]))) (cZ aa)) λaa=>(.seq (dm (cV .Eq (cF aa 2) (cL 2)) (df (eo [(cK lH),(qx [(cK iR),(cK ji),(cK gc),(cK i8)] (cI (C dh) [(cF aa 0),(cL 4)])),(cI (C dw) [(cF aa 0),(dT .Sub (cF aa 1) (cL 1))])])) (cZ aa)) λaa=>(.seq (dm (cV .Eq (cF aa 2) (cL 8)) (.seq (dA aa 6 (cI (C dw) [(cF aa 0),(dT .Sub (cF aa 1) (cL 2))])) λaa=>(.seq (dA aa 7 (eo [(cK fD),(cF aa 6),(cI (C dw) [(cF aa 0),(dT .Sub (cF aa 1) (cL 2))])])) λaa=>(df (eo [(qx [(cK fY),(cK fM)] (cI (C dh) [(cF aa 0),(cL 2)])),(cI (C dw) [(cF aa 0),(dT .Sub (cF aa 1) (cL 1))]),(cF aa 7)])))) (cZ aa)) λaa=>(.seq (dm (cV .Eq (cF aa 2) (cL 7)) (.seq (dA aa 8 (qx [(cK eA),(cK fg)] (cI (C dh) [(cF aa 0),(cL 2)]))) λaa=>(.seq (dA aa 5 (cI (C dw) [(cF aa 0),(dT .Sub (cF aa 1) (cL 1))])) λaa=>(df (eo [(cF aa 8),(cF aa 5),(cI (C dw) [(cF aa 0),(dT .Sub (cF aa 1) (cL 1))])])))) (cZ aa)) λaa=>(.seq (dA aa 3 (qx [(lX eG),(lX g6),(dT .Add (lX fE) (mA [(cK f8),(cK iH),(cK gf)])),(dT .Add (mA [(cK gC)]) (lX eG))] (dT .Sub (cF aa 2) (cL 3)))) λaa=>(.seq (dA aa 4 (dr (cF aa 3) (cI (C dh) [(cF aa 0),(cI jQ [(cF aa 3)])]))) λaa=>(.seq (dA aa 5 (cI (C dw) [(cF aa 0),(dT .Sub (cF aa 1) (cL 1))])) λaa=>(df (eo [(cK iQ),(cF aa 4),(cF aa 5),(cI (C dw) [(cF aa 0),(dT .Sub (cF aa 1) (cL 1))])])))))))))
theorem r4:Gz C aa=fG (Q1 C aa):=rfl
theorem Lq(C:Addr->List PV->M PV)(Cf:List PV->M Unit)(Cr:List PV->M PV)(W:Nat)(aa:Lo):pN C Cf Cr W aa=
 dn (Hv aa (d7 .Sub (dP (cG aa 0) (cW kO)) (cY 1)) (cG aa 0) (cW kO)) λaa=>dn (dZ aa 2 (Gy C aa)) (Gz C):=rfl
end
section
variable{W u:Nat}{cells:List Int}{a:Nat}{f:Int}
theorem OC{τ:List MO}{b:PV}(h:dW τ b=some xs)(hi:i<xs.length)(hm:i<1000):gZ τ b (.d (.int i))=some (.d xs[i]):=by
 have h7:(i:Int).natAbs<2 ^ 40:=V6 hm;have h8:seqIndex? (i:Int) xs.length=some i:=W5 hi;cases b with
 |d x=>exact eC h
 |ref r=>simp only[gZ,cH h7,h,Option.bind,h8,nO hi,Option.map]
 |cl r=>simp only[gZ,cH h7,h,Option.bind,h8,nO hi,Option.map]
 |inst r=>exact eC h
 |cd r=>exact eC h
theorem Am{τ:List MO}{b:PV}(h:dW τ b=some xs)(hi:xs.length<1000):jQ [b] τ=some (.ok (.d (.int xs.length)),τ):=by
 have h7:xs.length<2 ^ 40:=(lE (.t A0 (.pw 2 40)) [.t A0 (.k 1000)]) hi;cases b with
 |d x=>exact eC h
 |ref r=>show Hb _ τ=_;unfold Hb;rw[h];exact cH h7
 |cl r=>show Hb _ τ=_;unfold Hb;rw[h];exact cH h7
 |inst r=>exact eC h
 |cd r=>exact eC h
noncomputable def vo(u:Nat)(s w:Int):Lo:=[some (.ref u),some (.d (.int s)),some (.d (.int w)),none,none,none,none,none,none]
def GR(σ:List MO)(W n u c k a B:Nat)(s w:Int):Prop:=∃t a' f' J,nh k t/\a'<=a+B/\i6 (Gz (CN W n).c (vo u s w)) σ=some (.ok (.d (dy t)),σ.set u (sE c a' f')++J)
theorem lt3{v:Nat}(h:v<3):v=0\/v=1\/v=2:=(lE (.o (.e A0 (.k 0)) (.o (.e A0 K1) (.e A0 (.k 2)))) [.t A0 (.k 3)]) h
theorem lt4{v:Nat}(h:v<4):v=0\/v=1\/v=2\/v=3:=(lE (.o (.e A0 (.k 0)) (.o (.e A0 K1) (.o (.e A0 (.k 2)) (.e A0 (.k 3))))) [.t A0 (.k 4)]) h
theorem lt2{v:Nat}(h:v<2):v=0\/v=1:=(lE (.o (.e A0 (.k 0)) (.e A0 K1)) [.t A0 (.k 2)]) h
theorem JO(U:yE σ u c cells a f)(ha:a<950)(hn:1<=n)(k:Nat)(s w:Int)(hw:w<2):GR σ W n u c k a 2 s w:=by
 refine eN (tN (W:=W) (n:=n) U 3 (by decide) (mq ha rfl) hn) λv1 hv1 d1=> ?_;have U1:=U.move (a+1) f;by_cases q:v1=2
 ·subst q;refine eN (tN (W:=W) (n:=n) U1 100 (by decide) (BC ha rfl) hn) λv2 hv2 d2=> ?_;rw[eI]at d2;refine⟨.num v2,a+1+1,f,[],Lm hv2,by exact I2,?_⟩;simp at d1 d2;exact pX r4 (λr=>r (th hw) d1 (oD rfl) d2 ⟨⟩) (by rw[gD];rfl)
 ·refine eN (tN (W:=W) (n:=n) U1 3 (by decide) (BC ha rfl) hn) λv2 hv2 d2=> ?_;rw[eI]at d2;have q':((v1:Int) == 2)=false:=by simp;exact(lE (.n (.E (.c A0) (.k 2))) [.n (.e A0 (.k 2))]) q
  rcases lt3 hv2 with rfl|rfl|rfl
  ·refine⟨.name Sv,a+1+1,f,[],vm (.inl rfl),by exact I2,?_⟩;simp at d1 d2;exact pX r4 (λr=>r (th hw) d1 (BQ q') (wX (fX rfl λr=>r d2 ⟨⟩) rfl) ⟨⟩) (by rw[gD];rfl)
  ·refine⟨.name Sw,a+1+1,f,[],vm (.inr (.inl rfl)),by exact I2,?_⟩;simp at d1 d2;exact pX r4 (λr=>r (th hw) d1 (BQ q') (wX (fX rfl λr=>r d2 ⟨⟩) rfl) ⟨⟩) (by rw[gD];rfl)
  ·refine⟨.name Sx,a+1+1,f,[],vm (.inr (.inr rfl)),by exact I2,?_⟩;simp at d1 d2;exact pX r4 (λr=>r (th hw) d1 (BQ q') (wX (fX rfl λr=>r d2 ⟨⟩) rfl) ⟨⟩) (by rw[gD];rfl)
theorem Xm(U:yE σ u c cells a f){k:Nat}(ha:a+1+DD k<=900)(hn:1<=n)(s:Int)(hs:s<=(k+1:Nat))(G:Ce W n u c cells k):GR σ W n u c (k+1) a (1+DD k) s 2:=by
 refine eN (tN (W:=W) (n:=n) U 4 (by decide) ((ie (.t A0 (.k 1000)) [.l (.a (.a A0 K1) A1) (.k 900)]) ha) hn) λv1 hv1 d1=> ?_;have U1:=U.move (a+1) f;refine iO (G (s -1) _ _ _ (BE hs) U1 (by exact ha)) λt a' f' h1 h2 g1=> ?_;rw[eI]at g1
 have kF:∀w,w ∈ Bt->[PV.d (.str iR),.d (.str ji),.d (.str gc),.d (.str i8)][v1]? =some (.d (.str w))->GR σ W n u c (k+1) a (1+DD k) s 2:=by
  intro w hw hv
  have hv':s6 [PV.d (.str iR),.d (.str ji),.d (.str gc),.d (.str i8)] (.d (.int v1))=some (.d (.str w)):=by
   simp only[s6];rw[cH (V5 hv1)]
   simpa using hv
  refine⟨.un w t,a',f',[],OA hw h1,by exact(kI (.l A0 (.a A1 (.a K1 A2))) [.l A0 (.a (.a A1 K1) A2)]) h2,?_⟩;simp at d1;exact pX r4 (λr=>r (jU rfl) (oD rfl) (wX (fX rfl λr=>r d1 ⟨⟩) hv') rfl g1 ⟨⟩) (by rw[gD];rfl)
 rcases lt4 hv1 with rfl|rfl|rfl|rfl
 ·exact kF iR (by decide) rfl
 ·exact kF ji (by decide) rfl
 ·exact kF gc (by decide) rfl
 ·exact kF i8 (by decide) rfl
theorem Xn(U:yE σ u c cells a f){k:Nat}(ha:a+1+2 * DD k<=900)(hn:1<=n)(s:Int)(hs:s<=(k+1:Nat))(G:Ce W n u c cells k):GR σ W n u c (k+1) a (1+2 * DD k) s 7:=by
 refine eN (tN (W:=W) (n:=n) U 2 (by decide) (RM ha) hn) λv1 hv1 d1=> ?_;have U1:=U.move (a+1) f;refine iO (G (s -1) _ _ _ (BE hs) U1 (RL ha)) λt a' f' h1 h2 g1=> ?_;rw[eI]at g1;have U2:=U.move a' f';refine iO (G (s -1) _ _ _ (BE hs) U2 (RK ha h2)) λt2 a2 f2 h3 h4 g2=> ?_;rw[eI]at g2
 have kF:∀w,(w=eA\/w=fg)->[PV.d (.str eA),.d (.str fg)][v1]? =some (.d (.str w))->GR σ W n u c (k+1) a (1+2 * DD k) s 7:=by
  intro w hw hv
  have hv':s6 [PV.d (.str eA),.d (.str fg)] (.d (.int v1))=some (.d (.str w)):=by
   simp only[s6];rw[cH (RH hv1)]
   simpa using hv
  refine⟨.sc w t t2,a2,f2,[],OB hw h1 h3,by exact RJ h2 h4,?_⟩;simp at d1;exact pX r4 (λr=>r (jU rfl) (jU rfl) (jU rfl) (oD rfl) (wX (fX rfl λr=>r d1 ⟨⟩) hv') rfl g1 rfl g2 ⟨⟩) (by rw[gD];rfl)
 rcases lt2 hv1 with rfl|rfl
 ·exact kF eA (.inl rfl) rfl
 ·exact kF fg (.inr rfl) rfl
theorem UL(U:yE σ u c cells a f){k:Nat}(ha:a+1+3 * DD k<=900)(hn:1<=n)(s:Int)(hs:s<=(k+1:Nat))(G:Ce W n u c cells k)(G':Ce W n u c cells (k -1)):GR σ W n u c (k+1) a (1+3 * DD k) s 8:=by
 have hD:=QZ k;refine iO (G' (s -2) _ _ _ (RI hs) U ((kI (.l (.a A0 A2) (.k 900)) [.l (.a (.a A0 K1) (.l 3 A1)) (.k 900),.l A2 A1]) ha hD)) λt a1 f1 h1 h2 g1=> ?_;have U1:=U.move a1 f1;refine iO (G' (s -2) _ _ _ (RI hs) U1 ((lx (.l (.a A3 A2) (.k 900)) [.l (.a (.a A0 K1) (.l 3 A1)) (.k 900),.l A2 A1,.l A3 (.a A0 A2)]) ha hD h2)) λt2 a2 f2 h3 h4 g2=> ?_;rw[eI]at g2;have U2:=U.move a2 f2;refine eN (tN (W:=W) (n:=n) U2 2 (by decide) ((BB (.t A4 (.k 1000)) [.l (.a (.a A0 K1) (.l 3 A1)) (.k 900),.l A2 A1,.l A3 (.a A0 A2),.l A4 (.a A3 A2)]) ha hD h2 h4) hn) λv1 hv1 d1=> ?_;rw[eI]at d1;have U3:=U.move (a2+1) f2
 refine iO (G (s -1) _ _ _ (BE hs) U3 ((BB (.l (.a (.a A4 K1) A1) (.k 900)) [.l (.a (.a A0 K1) (.l 3 A1)) (.k 900),.l A2 A1,.l A3 (.a A0 A2),.l A4 (.a A3 A2)]) ha hD h2 h4)) λt3 a3 f3 h5 h6 g3=> ?_;rw[eI]at g3
 have kF:∀w,(w=fY\/w=fM)->[PV.d (.str fY),.d (.str fM)][v1]? =some (.d (.str w))->GR σ W n u c (k+1) a (1+3 * DD k) s 8:=by
  intro w hw hv
  have hv':s6 [PV.d (.str fY),.d (.str fM)] (.d (.int v1))=some (.d (.str w)):=by
   simp only[s6];rw[cH (RH hv1)]
   simpa using hv
  refine⟨.mem w t3 (.rng t t2),a3,f3,[],Lp hw h5 h1 h3,by exact(Ke (.l A5 (.a A3 (.a K1 (.l 3 A1)))) [.l A0 A1,.l A2 (.a A3 A0),.l A4 (.a A2 A0),.l A5 (.a (.a A4 K1) A1)]) hD h2 h4 h6,?_⟩;simp at d1;exact pX r4 (λr=>r (jU rfl) (jU rfl) (oD rfl) rfl g1 rfl g2 (wX (fX rfl λr=>r d1 ⟨⟩) hv') rfl g3 ⟨⟩) (by rw[gD];rfl)
 rcases lt2 hv1 with rfl|rfl
 ·exact kF fY (.inl rfl) rfl
 ·exact kF fM (.inr rfl) rfl
end
section
variable{W u:Nat}{cells:List Int}{a:Nat}{f:Int}
def kx:List (List Nat):=[f8,iH,gf]
def wv:List (List (List Nat)):=[kx,m7++kx,[gC],[gC]++pZ]
def uI(w:Nat):List (List Nat):=if w=3 then pZ else if w=4 then oJ else if w=5 then m7++kx else [gC]++pZ
def Lr(L w:Nat):PV:=if w=3 then eG else if w=4 then g6 else if w=5 then .ref (L+1)else .ref (L+3)
theorem JP(σ τ:List MO){w:Nat}(hw:w=3\/w=4\/w=5\/w=6)(h1:τ[σ.length+1]? =some (lZ (m7++kx)))(h3:τ[σ.length+3]? =some (lZ ([gC]++pZ))):dW τ (Lr σ.length w)=some ((uI w).map .str):=by
 rcases hw with rfl|rfl|rfl|rfl
 ·rfl
 ·rfl
 ·show dW τ (.ref (σ.length+1))=_;simp only[dW,h1,lZ];rfl
 ·show dW τ (.ref (σ.length+3))=_;simp only[dW,h3,lZ];rfl
theorem OD{w:Nat}(hw:w=3\/w=4\/w=5\/w=6)(h:x ∈ uI w):x ∈ sM:=by
 have:∀x ∈ uI w,x ∈ sM:=by rcases hw with rfl|rfl|rfl|rfl<;>decide
 exact this x h
theorem Q2{w:Nat}(hw:w=3\/w=4\/w=5\/w=6):0<(uI w).length/\(uI w).length<100:=by rcases hw with rfl|rfl|rfl|rfl<;>decide
theorem OE{w:Nat}(hw:w=3\/w=4\/w=5\/w=6)(aa:Lo)(hl:(aa[2]?).join=some (.d (.int w))):s8 [(kN eG),(kN g6),(d7 .Add (kN fE) (m9 [(cW f8),(cW iH),(cW gf)])),(d7 .Add (m9 [(cW gC)]) (kN eG))] (d7 .Sub (cG aa 2) (cY 3)) σ=some (.ok (Lr σ.length w),σ++wv.map lZ):=by
 have g1:∀τ,dW τ fE=some (m7.map .str):=λ_=>rfl;have g2:∀τ,dW τ eG=some (pZ.map .str):=λ_=>rfl
 have b1:∀τ i xs ys,dW τ (.ref i)=some xs->m7.map D.str++xs=ys->ys.length<=eZ->ly .Add fE (.ref i) τ=some (.ok (.ref τ.length),τ++[.list ys]):=by intro τ i xs ys h e hl;subst e;have:ly .Add fE (.ref i) τ=(dW τ fE).bind λxs=>(dW τ (.ref i)).bind λys=>rA (xs++ys) τ:=rfl;rw[this,g1,h];simp only[Option.bind,rA,cH hl]
 have b2:∀τ i xs ys,dW τ (.ref i)=some xs->xs++pZ.map D.str=ys->ys.length<=eZ->ly .Add (.ref i) eG τ=some (.ok (.ref τ.length),τ++[.list ys]):=by intro τ i xs ys h e hl;subst e;have:ly .Add (.ref i) eG τ=(dW τ (.ref i)).bind λxs=>(dW τ eG).bind λys=>rA (xs++ys) τ:=rfl;rw[this,g2,h];simp only[Option.bind,rA,cH hl]
 have l1:dW (σ++[.list [.str f8,.str iH,.str gf]]) (.ref σ.length)=some [.str f8,.str iH,.str gf]:=by simp[dW]
 have c1:=b1 _ _ _ _ l1 rfl (by decide);have l2:dW (σ++[.list [.str f8,.str iH,.str gf],.list (m7.map D.str++[.str f8,.str iH,.str gf]),.list [.str gC]]) (.ref (σ.length+2))=some [.str gC]:=by simp[dW]
 have c2:=b2 _ _ _ _ l2 rfl (by decide);simp at c1 c2
 have hp:∀x y:PV,s6 [eG,g6,.ref (σ.length+1),.ref (σ.length+3)] (.d (.int ((w:Int) -3)))=some (Lr σ.length w):=by intro _ _;rcases hw with rfl|rfl|rfl|rfl<;>rfl
 have hp:=hp (.d .none) (.d .none)
 have hJ:σ++wv.map lZ=σ++[.list [.str f8,.str iH,.str gf],.list (m7.map D.str++[.str f8,.str iH,.str gf]),.list [.str gC],.list ([.str gC]++pZ.map D.str)]:=by simp[wv,lZ,kx]
 rw[hJ];have h3:∀τ,ly .Sub (.d (.int w)) (.d (.int 3)) τ=some (.ok (.d (.int ((w:Int) -3))),τ):=λ_=>rfl;simp[bnd,lift,ret,ja,G4,qJ,rA,eZ,c1,c2,E6,hl,h3,hp]
def Xo(C:Addr->List PV->M PV)(aa:Lo):M Fl:=(dn (dZ aa 4 (dP (cG aa 3) (cM (C dh) [(cG aa 0),(cM jQ [(cG aa 3)])]))) λaa=>(dn (dZ aa 5 (cM (C dw) [(cG aa 0),(d7 .Sub (cG aa 1) (cY 1))])) λaa=>(eJ (f7 [(cW iQ),(cG aa 4),(cG aa 5),(cM (C dw) [(cG aa 0),(d7 .Sub (cG aa 1) (cY 1))])]))))
def UM(C:Addr->List PV->M PV)(aa:Lo):Cm Fl:=(.seq (dA aa 4 (dr (cF aa 3) (cI (C dh) [(cF aa 0),(cI jQ [(cF aa 3)])]))) λaa=>(.seq (dA aa 5 (cI (C dw) [(cF aa 0),(dT .Sub (cF aa 1) (cL 1))])) λaa=>(df (eo [(cK iQ),(cF aa 4),(cF aa 5),(cI (C dw) [(cF aa 0),(dT .Sub (cF aa 1) (cL 1))])]))))
theorem UN:Xo C aa=fG (UM C aa):=rfl
theorem UO(U:yE σ u c cells a f){k:Nat}(ha:a+1+2 * DD k<=900)(hn:1<=n)(s:Int)(hs:s<=(k+1:Nat))(G:Ce W n u c cells k){w:Nat}(hw:w=3\/w=4\/w=5\/w=6):GR σ W n u c (k+1) a (1+2 * DD k) s w:=by
 have hpk:=OE (σ:=σ) hw (vo u s w) rfl;have ult:=(ek.mp U.hu).1;have U0:=U.app wv;refine oA (Q2 hw) λbl1 bl2=> ?_;have hset:∀x,(σ++wv.map lZ).set u x=σ.set u x++wv.map lZ:=λx=>List.set_append_left _ _ ult;have g0:dW (σ++wv.map lZ) (Lr σ.length w)=some ((uI w).map .str):=JP σ _ hw (by simp[wv]) (by simp[wv]);have hlen:=Am g0 (by simp;exact(lE (.t A0 (.k 1000)) [.t (.k 0) A0,.t A0 (.k 100)]) bl1 bl2);rw[f6]at hlen;refine eN (tN (W:=W) (n:=n) U0 (uI w).length bl1 (RM ha) hn) λv hv d1=> ?_
 have g1:dW ((σ++wv.map lZ).set u (sE c (a+1) f)) (Lr σ.length w)=some ((uI w).map .str):=by rw[hset];exact JP σ _ hw (by simp[wv]) (by simp[wv])
 have hsub:=OC g1 (i:=v) (by simpa using hv) ((ie (.t A1 (.k 1000)) [.t (.k 0) A0,.t A0 (.k 100),.t A1 A0]) bl1 bl2 hv);rw[List.getElem_map]at hsub;have hx:=OD hw (List.getElem_mem hv);have U1:=U0.move (a+1) f;refine iO (G (s -1) _ _ _ (BE hs) U1 (RL ha)) λt a1 f1 h1 h2 k1=> ?_;rw[eI]at k1;have U2:=U0.move a1 f1;refine iO (G (s -1) _ _ _ (BE hs) U2 (RK ha h2)) λt2 a2 f2 h3 h4 k2=> ?_;rw[eI]at k2;refine⟨.bin (uI w)[v] t t2,a2,f2,wv.map lZ,Ln hx h1 h3,by exact RJ h2 h4,?_⟩;rw[<-hset];have w1:¬((w:Int)<2):=(lE (.n (.S (.c A0) (.k 2))) [.o (.e A0 (.k 3)) (.o (.e A0 (.k 4)) (.o (.e A0 (.k 5)) (.e A0 (.k 6))))]) hw
 have w2:((w:Int) == 2)=false:=by simp;exact(lE (.n (.E (.c A0) (.k 2))) [.o (.e A0 (.k 3)) (.o (.e A0 (.k 4)) (.o (.e A0 (.k 5)) (.e A0 (.k 6))))]) hw
 have w7:((w:Int) == 7)=false:=by simp;exact(lE (.n (.E (.c A0) (.k 7))) [.o (.e A0 (.k 3)) (.o (.e A0 (.k 4)) (.o (.e A0 (.k 5)) (.e A0 (.k 6))))]) hw
 have w8:((w:Int) == 8)=false:=by simp;exact(lE (.n (.E (.c A0) (.k 8))) [.o (.e A0 (.k 3)) (.o (.e A0 (.k 4)) (.o (.e A0 (.k 5)) (.e A0 (.k 6))))]) hw
 have q1:∀a,eS (dz .Lt (cG (vo u s w) 2) (cY 2)) a (dF (vo u s w)) σ=some (.ok (.nxt (vo u s w)),σ):=λa=>PX (show ir .Lt (.d (.int w)) (.d (.int 2)) σ=_ from ti w1);have q2:∀a,eS (dz .Eq (cG (vo u s w) 2) (cY 2)) a (dF (vo u s w)) σ=some (.ok (.nxt (vo u s w)),σ):=λa=>PX (show ir .Eq (.d (.int w)) (.d (.int 2)) σ=_ from BQ w2);have q3:∀a,eS (dz .Eq (cG (vo u s w) 2) (cY 8)) a (dF (vo u s w)) σ=some (.ok (.nxt (vo u s w)),σ):=λa=>PX (show ir .Eq (.d (.int w)) (.d (.int 8)) σ=_ from BQ w8);have q4:∀a,eS (dz .Eq (cG (vo u s w) 2) (cY 7)) a (dF (vo u s w)) σ=some (.ok (.nxt (vo u s w)),σ):=λa=>PX (show ir .Eq (.d (.int w)) (.d (.int 7)) σ=_ from BQ w7)
 refine(qR (qQ (q1 _))).trans ((qR (qQ (q2 _))).trans ((qR (qQ (q3 _))).trans ((qR (qQ (q4 _))).trans ((qR (qQ (eT hpk))).trans ?_))));generalize hBV:Lr σ.length w=bv at *;generalize σ++wv.map lZ=τ at *
 have e:i6 (Xo (CN W n).c [some (.ref u),some (.d (.int s)),some (.d (.int w)),some bv,none,none,none,none,none]) τ=some (.ok (.d (dy (.bin (uI w)[v] t t2))),τ.set u (sE c a2 f2)):=by exact d8 UN λr=>r hlen d1 (dC hsub) rfl k1 rfl k2 ⟨⟩
 exact e
theorem Xp(W:Nat)(k:Nat):∀n,2 * k+2<=n->Ce W n u c cells k:=by
 induction k using Nat.strongRecOn with
 |_ k ih=>
  intro n hn s σ a f hs U ha;obtain⟨m,rfl⟩:∃m,n=m+1:=⟨n -1,by exact(ie (.e A1 (.a (.s A1 K1) K1)) [.l (.a (.l 2 A0) (.k 2)) A1]) hn⟩;have uset:∀x,(σ.set u x).length=σ.length:=λx=>by simp
  have U0:=U.move a (f -1)
  have wrap:∀(k a1 B:Nat)(w:Int),(∃τ,τ=σ.set u (sE c a1 (f -1))/\Gy (CN W m).c (eR [.ref u,.d (.int s)] [] 7) (σ.set u (sE c a (f -1)))=some (.ok (.d (.int w)),τ)/\GR τ W m u c k a1 B s w)->
    ∃t a' f',nh k t/\a'<=a1+B/\(CN W (m+1)).c dw [.ref u,.d (.int s)] σ=some (.ok (.d (dy t)),σ.set u (sE c a' f')):=by
   rintro k a1 B w ⟨τ,rfl,hh,t,a',f',J,s1,s2,e⟩
   rw[eI]at e;refine⟨t,a',f',s1,s2,?_⟩;rw[F9];refine gH (σ₁:=σ.set u (sE c a' f')) (junk:=J) rfl ?_ (by simp) rfl (U.move a' f').cl;rw[Lq];have hf:=U.fuel;have hp:=U.putF (f -1);have hg:eR [PV.ref u,.d (.int s)] [] 7=[some (.ref u),some (.d (.int s)),none,none,none,none,none,none,none]:=rfl;rw[hg]at hh ⊢;have e':Gz (CN W m).c [some (.ref u),some (.d (.int s)),some (.d (.int w)),none,none,none,none,none,none] (σ.set u (sE c a1 (f -1)))=Gz (CN W m).c (vo u s w) (σ.set u (sE c a1 (f -1))):=rfl;rw[<-e];have b0:M0 [some (.ref u),some (.d (.int s)),none,none,none,none,none,none,none] (.d (.int (f -1))) (.ref u) (.d (.str kO)) σ=some (.ok (.nxt [some (.ref u),some (.d (.int s)),none,none,none,none,none,none,none]),σ.set u (sE c a (f -1))):=hp (λ_=>ret (.nxt _)) σ
   have a0:Hv [some (.ref u),some (.d (.int s)),none,none,none,none,none,none,none] (d7 .Sub (dP (cG [some (.ref u),some (.d (.int s)),none,none,none,none,none,none,none] 0) (cW kO)) (cY 1)) (cG [some (.ref u),some (.d (.int s)),none,none,none,none,none,none,none] 0) (cW kO) σ=some (.ok (.nxt [some (.ref u),some (.d (.int s)),none,none,none,none,none,none,none]),σ.set u (sE c a (f -1))):=fX (c:=CU [some (.ref u),some (.d (.int s)),none,none,none,none,none,none,none] (dT .Sub (dr (cF [some (.ref u),some (.d (.int s)),none,none,none,none,none,none,none] 0) (cK kO)) (cL 1)) (cF [some (.ref u),some (.d (.int s)),none,none,none,none,none,none,none] 0) (cK kO)) rfl λr=>r (dC hf) rfl b0 ⟨⟩
   exact(qR (qQ a0)).trans (qR (qQ (eT hh)))
  have hfu:=U0.fuel;by_cases q:0<s/\0<f -1
  ·obtain⟨k',rfl⟩:∃k',k=k'+1:=⟨k -1,by exact(pI:Qn [_] [_,_] (.e A0 (.a (.s A0 (.k 1)) (.k 1))) [.L (.v 0) (.c A0),.c (.S (.k 0) (.v 0)) (.S (.k 0) (.s (.v 1) (.k 1)))]) hs q⟩;simp only[DD]at ha;refine eN (tN (W:=W) (n:=m) U0 9 (by decide) ((ie (.t A0 (.k 1000)) [.l (.a A0 (.a (.l 3 A1) (.k 2))) (.k 900)]) ha) (BF hn)) λw hw d1=> ?_;have U1:=U0.move (a+1) (f -1);rw[eI]at d1 U1
   have hh:Gy (CN W m).c (eR [.ref u,.d (.int s)] [] 7) (σ.set u (sE c a (f -1)))=some (.ok (.d (.int w)),σ.set u (sE c (a+1) (f -1))):=by exact fX En λr=>r (th q.1) (dC hfu) (Nb q.2) d1 ⟨⟩
   have G:=ih k' (RP) m ((ie (.l (.a (.l 2 A0) (.k 2)) A1) [.l (.a (.l 2 (.a A0 K1)) (.k 2)) (.a A1 K1)]) hn);have G':=ih (k' -1) ((lE (.t (.s A0 K1) (.a A0 K1)) [])) m ((ie (.l (.a (.l 2 (.s A0 K1)) (.k 2)) A1) [.l (.a (.l 2 (.a A0 K1)) (.k 2)) (.a A1 K1)]) hn);have hD2:2<=DD k':=by cases k'<;>simp[DD]
   have kF:∀B,B<=1+3 * DD k'->GR (σ.set u (sE c (a+1) (f -1))) W m u c (k'+1) (a+1) B s w->∃t a' f',nh (k'+1) t/\a'<=a+DD (k'+1)/\(CN W (m+1)).c dw [.ref u,.d (.int s)] σ=some (.ok (.d (dy t)),σ.set u (sE c a' f')):=by intro B hB g;refine iO (wrap (k'+1) (a+1) B w ⟨_,rfl,hh,g⟩) λt a' f' x1 x2 x3=> ?_;exact⟨t,a',f',x1,by simp only[DD];exact(lx (.l A2 (.a A3 (.a (.l 3 A1) (.k 2)))) [.l A0 (.a K1 (.l 3 A1)),.l A2 (.a (.a A3 K1) A0)]) hB x2,x3⟩
   rcases(V7 hw:(w:Int)<2\/w=2\/w=7\/w=8\/(w=3\/w=4\/w=5\/w=6))with h|h|h|h|h
   ·exact kF 2 ((lE (.l (.k 2) (.a K1 (.l 3 A0))) [.l (.k 2) A0]) hD2) (JO U1 ((ie (.t (.a A0 K1) (.k 950)) [.l (.a A0 (.a (.l 3 A1) (.k 2))) (.k 900),.l (.k 2) A1]) ha hD2) (BF hn) _ s w h)
   ·subst h;exact kF _ ((lE (.l (.a K1 A0) (.a K1 (.l 3 A0))) [.l (.k 2) A0]) hD2) (Xm U1 ((ie (.l (.a (.a (.a A0 K1) K1) A1) (.k 900)) [.l (.a A0 (.a (.l 3 A1) (.k 2))) (.k 900),.l (.k 2) A1]) ha hD2) (BF hn) s hs G)
   ·subst h;exact kF _ (RO hD2) (Xn U1 (RN ha hD2) (BF hn) s hs G)
   ·subst h;exact kF _ ((lE (.l (.a K1 (.l 3 A0)) (.a K1 (.l 3 A0))) [])) (UL U1 ((ie (.l (.a (.a (.a A0 K1) K1) (.l 3 A1)) (.k 900)) [.l (.a A0 (.a (.l 3 A1) (.k 2))) (.k 900)]) ha) (BF hn) s hs G G')
   ·exact kF _ (RO hD2) (UO U1 (RN ha hD2) (BF hn) s hs G h)
  ·have hh:Gy (CN W m).c (eR [.ref u,.d (.int s)] [] 7) (σ.set u (sE c a (f -1)))=some (.ok (.d (.int 0)),σ.set u (sE c a (f -1))):=by
    by_cases q1:0<s
    ·exact fX En λr=>r (th q1) (dC hfu) (y8 λz=>q ⟨q1,z⟩) ⟨⟩
    ·exact fX En λr=>r (ti q1) ⟨⟩
   have hD2:2<=DD k:=by cases k<;>simp[DD]
   refine iO (wrap k a 2 0 ⟨_,rfl,hh,JO U0 (by exact(ie (.t A0 (.k 950)) [.l (.a A0 A1) (.k 900),.l (.k 2) A1]) ha hD2) (by exact(ie (.l K1 A1) [.l (.a (.l 2 A0) (.k 2)) (.a A1 K1)]) hn) k s 0 (by exact(pQ:Pn [] (.S (.k 0) (.k 2)) []))⟩) λt a' f' x1 x2 x3=> ?_;exact⟨t,a',f',x1,by exact(kI (.l A1 (.a A2 A0)) [.l (.k 2) A0,.l A1 (.a A2 (.k 2))]) hD2 x2,x3⟩
end
section
variable{W:Nat}
def tb(c:Nat)(l:List Nat):List Nat:=if c=0 then l else fT++l++eY
noncomputable def qr(i:Nat):List Nat:=if i<10 then [48+i]else [48+i / 10,48+i % 10]
def bT(w:List Nat):List Nat:=if w=gC then w else eP++w++eP
def oM(w:List Nat):List Nat:=if w=eA then zi else if w=fg then BV else w
def yo(w:List Nat):List Nat:=if w=fY then Nz else zd
noncomputable def tx:Tr->List Nat
 | .name s=>s
 | .num i=>qr i
 | .un w t=>if w=i8\/w=iR then w++tb (ew 2 t) (tx t)else w++eP++tb (ew 0 t) (tx t)
 | .bin w a b=>tb (mP (cls w) a) (tx a)++(bT w++tb (kE (cls w) b) (tx b))
 | .sc w a b=>tb (km w a) (tx a)++(eP++oM w++eP++tb (ew 4 b) (tx b))
 | .mem w t m=>tb (ew 3 t) (tx t)++yo w++tx m
 | .rng a b=>tb (ew 3 a) (tx a)++vL++tb (ew 3 b) (tx b)
 | .pn t=>fT++tx t++eY
def Sh:Tr->Prop
 | .rng a b=>WF a/\WF b
 |t=>WF t
theorem Sh.of(h:WF t):Sh t:=by cases t<;>first|exact h|exact(show False from h).elim
def gx:Tr->List Nat
 | .sc w _ _=>w
 | .bin w _ _=>if w ∈ kx then w else hG
 |_=>hG
theorem nK(h:Sh t)(hn:1<=n):(CN W n).c dS [.d (dy t)] σ=some (.ok (.d (.str (gx t))),σ):=by
 obtain⟨m,rfl⟩:∃m,n=m+1:=⟨n -1,by exact dp hn rfl⟩;rw[yk]
 match t,h with
 | .name s,_=>exact dk rfl rfl rfl
 | .num i,_=>exact dk rfl rfl rfl
 | .un w t,h=>exact dk rfl rfl rfl
 | .sc w a b,h=>
  rcases h.1 with rfl|rfl<;>exact dk rfl rfl rfl
 | .mem w t (.rng a b),h=>
  rcases h.1 with rfl|rfl<;>exact dk rfl rfl rfl
 | .rng a b,h=>exact dk rfl rfl rfl
 | .bin w a b,h=>
  rcases j7 h.1 with q|q|q|q|q|q|q
  ·simp only[pZ,dj,dJ,dK]at q;rcases q with rfl|rfl|rfl<;>exact dk rfl rfl rfl
  ·simp only[oJ,dj,dJ,dK]at q;rcases q with rfl|rfl|rfl|rfl<;>exact dk rfl rfl rfl
  ·simp only[m7,dj,dJ,dK]at q;rcases q with rfl|rfl|rfl|rfl|rfl|rfl<;>exact dk rfl rfl rfl
  all_goals (subst q;exact dk rfl rfl rfl)
def ni(t:Tr):Nat:=6 - (wd t).lvl
def OF(aa:Lo):M Fl:=(dn (eS (dz .Eq (dP (cG aa 0) (cY 0)) (cW iQ)) (eJ (dP (dP (kN jx) (dP (cG aa 0) (cY 1))) (cY 0))) (dF aa)) λaa=>(dn (eS (dz .Eq (dP (cG aa 0) (cY 0)) (cW lH)) (eJ (E4 (dz .In (dP (cG aa 0) (cY 1)) (cW pG)) (cY 3) (cY 5))) (dF aa)) λaa=>(dn (eS (dz .In (dP (cG aa 0) (cY 0)) (f7 [(cW fY),(cW fM)])) (eJ (cY 2)) (dF aa)) λaa=>(eJ (kN lz)))))
def Q3(aa:Lo):Cm Fl:=(.seq (dm (cV .Eq (dr (cF aa 0) (cL 0)) (cK iQ)) (df (dr (dr (lX jx) (dr (cF aa 0) (cL 1))) (cL 0))) (cZ aa)) λaa=>(.seq (dm (cV .Eq (dr (cF aa 0) (cL 0)) (cK lH)) (df (sp (cV .In (dr (cF aa 0) (cL 1)) (cK pG)) (cL 3) (cL 5))) (cZ aa)) λaa=>(.seq (dm (cV .In (dr (cF aa 0) (cL 0)) (eo [(cK fY),(cK fM)])) (df (cL 2)) (cZ aa)) λaa=>(df (lX lz)))))
theorem Q4:OF aa=fG (Q3 aa):=rfl
def bI(C:Addr->List PV->M PV)(aa:Lo):M Fl:=eS (dz .NotEq (cM (C dS) [(cG aa 0)]) (cW hG)) (eJ (cY 1)) (dF aa)
def Zi(C:Addr->List PV->M PV)(aa:Lo):Cm Fl:=dm (cV .NotEq (cI (C dS) [(cF aa 0)]) (cK hG)) (df (cL 1)) (cZ aa)
theorem Xq:bI C aa=fG (Zi C aa):=rfl
theorem Lu(C:Addr->List PV->M PV)(Cf:List PV->M Unit)(Cr:List PV->M PV)(W:Nat)(aa:Lo):mL C Cf Cr W aa=dn (bI C aa) OF:=rfl
theorem Xr:EA i8 pG=true:=by decide+kernel
theorem Xs:EA iR pG=true:=by decide+kernel
theorem OG:EA ji pG=false:=by decide+kernel
theorem OH:EA gc pG=false:=by decide+kernel
theorem OI(h:Sh t)(hl:gx t=hG):i6 (OF [some (.d (dy t))]) σ=some (.ok (.d (.int (ni t))),σ):=by
 match t,h with
 | .name s,_=>rfl
 | .num i,_=>rfl
 | .un w t,h=>
  have h1:=h.1;simp only[Bt,dj,dJ,dK]at h1;have s0:gZ σ (.d (dy (.un w t))) (.d (.int 0))=some (.d (.str lH)):=rfl;have s1:gZ σ (.d (dy (.un w t))) (.d (.int 1))=some (.d (.str w)):=rfl;have e0:l5 (.str lH) (.str iQ)=some false:=rfl;have e1:l5 (.str lH) (.str lH)=some true:=rfl
  have hb:ni (.un w t)=if EA w pG=true then 3 else 5:=by
   rcases h1 with rfl|rfl|rfl|rfl
   ·rw[Xs];rfl
   ·rw[OG];rfl
   ·rw[OH];rfl
   ·rw[Xr];rfl
  rw[hb];cases q:EA w pG<;>exact d8 Q4 λr=>r (dC s0) (fJ e0) (dC s0) (fJ e1) (dC s1) (xv (dN some q)) ⟨⟩
 | .sc w a b,h=>rcases h.1 with rfl|rfl<;>exact absurd hl (by simp only[gx];decide)
 | .mem w t (.rng a b),h=>
  rcases h.1 with rfl|rfl<;>rfl
 | .rng a b,h=>rfl
 | .bin w a b,h=>
  rcases j7 h.1 with q|q|q|q|q|q|q
  ·simp only[pZ,dj,dJ,dK]at q;rcases q with rfl|rfl|rfl<;>rfl
  ·simp only[oJ,dj,dJ,dK]at q;rcases q with rfl|rfl|rfl|rfl<;>rfl
  ·simp only[m7,dj,dJ,dK]at q;rcases q with rfl|rfl|rfl|rfl|rfl|rfl<;>rfl
  ·subst q;exact absurd hl (by simp only[gx];decide)
  ·subst q;exact absurd hl (by simp only[gx];decide)
  ·subst q;exact absurd hl (by simp only[gx];decide)
  ·subst q;rfl
theorem GC(h:Sh t)(hl:gx t≠hG):wd t= .lg (gx t):=by
 match t,h with
 | .name s,_=>exact absurd rfl hl
 | .num i,_=>exact absurd rfl hl
 | .un w t,h=>exact absurd rfl hl
 | .sc w a b,h=>rfl
 | .mem w t (.rng a b),h=>exact absurd rfl hl
 | .rng a b,h=>exact absurd rfl hl
 | .bin w a b,h=>
  by_cases q:w ∈ kx
  ·simp only[gx,cH q,nv];simp only[kx,dj,dJ,dK]at q;rcases q with rfl|rfl|rfl<;>rfl
  ·simp only[gx,cJ q]at hl;exact absurd rfl hl
theorem OJ(h:Sh t)(hn:2<=n):(CN W n).c ik [.d (dy t)] σ=some (.ok (.d (.int (ni t))),σ):=by
 obtain⟨m,rfl⟩:∃m,n=m+1:=⟨n -1,by exact dp hn rfl⟩;rw[Bm];refine dk rfl ?_ rfl;rw[Lu];have h1:=nK (σ:=σ) (W:=W) (n:=m) h (dl hn rfl);have ee:l5 (.str (gx t)) (.str hG)=some (gx t == hG):=rfl;by_cases q:gx t=hG
 ·have:=OI (σ:=σ) h q;rw[<-this];rw[q]at h1;have e0:l5 (.str hG) (.str hG)=some true:=rfl
  have hb:bI (CN W m).c (eR [.d (dy t)] [] 0) σ=some (.ok (.nxt [some (.d (dy t))]),σ):=by exact fX Xq λr=>r h1 (iX e0) ⟨⟩
  exact qR (qQ hb)
 ·have q':(gx t == hG)=false:=by simpa using q
  have:ni t=1:=by unfold ni;rw[GC h q];rfl
  rw[this];rw[q']at ee
  have hb:bI (CN W m).c (eR [.d (dy t)] [] 0) σ=some (.ok (.ret (.d (.int 1))),σ):=by exact fX Xq λr=>r h1 (iX ee) ⟨⟩
  exact So (eT hb)
theorem add_str{y:List Nat}(h:x.length+y.length<=3000000)(τ:List MO):ly .Add (.d (.str x)) (.d (.str y)) τ=some (.ok (.d (.str (x++y))),τ):=by show(sU .Add (.str x) (.str y)).map _=_;simp only[sU,addD_ss,mulD_ii];rw[cH (by simp only[jP];exact(ie (.l (.a A0 A1) (.k 4000000)) [.l (.a A0 A1) (.k 3000000)]) h)];rfl
theorem GD(t:Tr)(l:Nat)(hl:l<=6):ew (6 -l) t=if ni t<l then 1 else 0:=by
 unfold ew ni;have:(wd t).lvl<=5:=by cases wd t<;>simp[Wd.lvl]
 split<;>split<;>(first|exact(pQ:Pn [] (.e (.k 0) (.k 0)) [])|exact(pQ:Pn [] (.e K1 K1) [])|omega)
def jO(W n:Nat)(t:Tr):Prop:=∀σ,Cl σ->(CN W n).c gG [.d (dy t)] σ=some (.ok (.d (.str (tx t))),σ)
theorem mV(h:Sh t)(hn:2<=n)(hS:jO W n t)(hx:(tx t).length<=1000000)(l:Nat)(hl:l<=6)(hc:Cl σ):(CN W (n+1)).c dG [.d (dy t),.d (.int l)] σ=some (.ok (.d (.str (tb (ew (6 -l) t) (tx t)))),σ):=by
 rw[zZ,GD t l hl];refine dk rfl ?_ rfl;have h1:=OJ (σ:=σ) (W:=W) (n:=n) h hn;have h2:=hS σ hc;have a1:ly .Add (.d (.str fT)) (.d (.str (tx t))) σ=_:=add_str (by have:fT.length=1:=rfl;exact(ie (.l (.a A1 A0) (.k 3000000)) [.l A0 (.k 1000000),.e A1 K1]) hx this) σ;have a2:ly .Add (.d (.str (fT++tx t))) (.d (.str eY)) σ=_:=add_str (by have tz1:fT.length=1:=rfl;have:eY.length=1:=rfl;rw[dI];exact(kI (.l (.a (.a A1 A0) A2) (.k 3000000)) [.l A0 (.k 1000000),.e A1 K1,.e A2 K1]) hx tz1 this) σ;by_cases q:ni t<l
 ·have q':((ni t:Int)<l):=yI q;rw[cH q];exact d8 uF λr=>r h1 (th q') h2 a1 a2 ⟨⟩
 ·have q':¬((ni t:Int)<l):=I0 q;rw[cJ q];exact d8 uF λr=>r h1 (ti q') h2 ⟨⟩
theorem UP(d:Nat)(h:d<10)(τ:List MO):gZ τ ke (.d (.int d))=some (.d (.str [48+d])):=by rcases(Wa h:d=0\/d=1\/d=2\/d=3\/d=4\/d=5\/d=6\/d=7\/d=8\/d=9)with rfl|rfl|rfl|rfl|rfl|rfl|rfl|rfl|rfl|rfl<;>rfl
theorem UQ(i:Nat):(i:Int).fmod 10=((i % 10:Nat):Int):=by rw[Int.fmod_eq_emod_of_nonneg _ (by decide)];exact V9
theorem UR(i:Nat):(i:Int).fdiv 10=((i / 10:Nat):Int):=by rw[Int.fdiv_eq_ediv_of_nonneg _ (by decide)];exact V8
def US(aa:Lo):M Bool:=(LH [(dz .Gt (cG aa 0) (cY 0)),(dz .Lt (cM jQ [(cG aa 3)]) (cG aa 2))])
def Xu(aa:Lo):Cm Bool:=(pi [(cV .Gt (cF aa 0) (cL 0)),(cV .Lt (cI jQ [(cF aa 3)]) (cF aa 2))])
theorem JQ:US aa=fG (Xu aa):=rfl
def Xv(aa:Lo):M Fl:=(dn (dZ aa 3 (d7 .Add (dP (kN ke) (d7 .Mod (cG aa 0) (cG aa 1))) (cG aa 3))) λaa=>(so aa 0 .FloorDiv (cG aa 1)))
def Xw(aa:Lo):Cm Fl:=(.seq (dA aa 3 (dT .Add (dr (lX ke) (dT .Mod (cF aa 0) (cF aa 1))) (cF aa 3))) λaa=>(oC aa 0 .FloorDiv (cF aa 1)))
theorem Xx:Xv aa=fG (Xw aa):=rfl
noncomputable def Lv(i:Int)(l:List Nat):Lo:=[some (.d (.int i)),some (.d (.int 10)),some (.d (.int 1)),some (.d (.str l))]
theorem SM{l:List Nat}(h:0<i):US (Lv i l) σ=some (.ok true,σ):=fX JQ λr=>r (Nb (Int.natCast_pos.mpr h)) ⟨⟩
theorem Xy:US (Lv ((0:Nat):Int) []) σ=some (.ok true,σ):=fX JQ λr=>r (y8 (by decide)) (show jQ [.d (.str [])] σ=some (.ok (.d (.int 0)),σ)from rfl) (th (by decide)) ⟨⟩
theorem Xz(x:Nat):US (Lv ((0:Nat):Int) [x]) σ=some (.ok false,σ):=fX JQ λr=>r (y8 (by decide)) (show jQ [.d (.str [x])] σ=some (.ok (.d (.int 1)),σ)from rfl) (ti (by decide)) ⟨⟩
theorem XA(x y:Nat):US (Lv ((0:Nat):Int) [x,y]) σ=some (.ok false,σ):=fX JQ λr=>r (y8 (by decide)) (show jQ [.d (.str [x,y])] σ=some (.ok (.d (.int 2)),σ)from rfl) (ti (by decide)) ⟨⟩
theorem OK{l:List Nat}(a:ly .Add (.d (.str [48+i % 10])) (.d (.str l)) σ=some (.ok (.d (.str ((48+i % 10)::l))),σ)):Xv (Lv i l) σ=some (.ok (.nxt (Lv ((i / 10:Nat):Int) ((48+i % 10)::l))),σ):=by
 have f1:=UP (i % 10) (RQ) σ;have b1:ly .Mod (.d (.int i)) (.d (.int 10)) σ=some (.ok (.d (.int ((i % 10:Nat):Int))),σ):=by rw[<-UQ i];rfl
 have c1:uP .FloorDiv (.d (.int i)) (.d (.int 10))=some (.d (.int ((i / 10:Nat):Int))):=by rw[<-UR i];rfl
 exact fX Xx λr=>r b1 (dC f1) a (px c1) ⟨⟩
theorem UT(hi:i<100)(hW:3<=W)(hn:1<=n):(CN W n).c jY [.d (.int i),.d (.int 10),.d (.int 1)] σ=some (.ok (.d (.str (qr i))),σ):=by
 obtain⟨m,rfl⟩:∃m,n=m+1:=⟨n -1,by exact dp hn rfl⟩;obtain⟨W',rfl⟩:∃w,W=w+3:=⟨W -3,by exact dp hW rfl⟩;rw[Bo];refine dk rfl ?_ rfl
 have hw:fw US Xv (λaa=>dF aa) (W'+3) (Lv i []) σ=some (.ok (.nxt (Lv ((0:Nat):Int) (qr i))),σ):=by
  have s1:Xv (Lv i []) σ=some (.ok (.nxt (Lv ((i / 10:Nat):Int) [48+i % 10])),σ):=OK rfl
  have t1:US (Lv i []) σ=some (.ok true,σ):=by
   by_cases z:0<i
   ·exact SM z
   ·have z:i=0:=by exact(lE (.e A0 (.k 0)) [.t A0 (.k 100),.n (.t (.k 0) A0)]) hi z
    subst z;exact Xy
  refine(pz t1 s1).trans ?_;by_cases q:i<10
  ·have hd:qr i=[48+i]:=by unfold qr;rw[cH q]
   have e0:i / 10=0:=Nat.div_eq_of_lt q;have e1:i % 10=i:=Nat.mod_eq_of_lt q;rw[hd,e0,e1];exact rL (Xz _)
  ·have hd:qr i=[48+i / 10,48+i % 10]:=by unfold qr;rw[cJ q]
   have e0:i / 10 / 10=0:=by omega
   have e1:i / 10 % 10=i / 10:=by omega
   have s2:Xv (Lv ((i / 10:Nat):Int) [48+i % 10]) σ=some (.ok (.nxt (Lv ((i / 10 / 10:Nat):Int) [48+i / 10 % 10,48+i % 10])),σ):=OK rfl;rw[e0,e1]at s2;rw[hd];exact(pz (SM (by omega)) s2).trans (rL (XA _ _))
 exact d8 Dj λr=>r hw ⟨⟩
end
section
variable{W:Nat}
def SN(C:Addr->List PV->M PV)(aa:Lo):M Fl:=(dn (eS (dz .NotEq (cM (C dS) [(cG aa 0)]) (cW hG)) (eJ (cM (C iA) [(cG aa 0)])) (dF aa)) λaa=>(dn (eS (dz .Eq (cG aa 1) (cW iQ)) (eJ (cM (C jr) [(cG aa 0)])) (dF aa)) λaa=>(dn (eS (dz .Eq (cG aa 1) (cW lH)) (dn (eS (dz .In (dP (cG aa 0) (cY 1)) (cW pG)) (eJ (d7 .Add (dP (cG aa 0) (cY 1)) (cM (C dG) [(dP (cG aa 0) (cY 2)),(cY 4)]))) (dF aa)) λaa=>(eJ (d7 .Add (d7 .Add (dP (cG aa 0) (cY 1)) (cW eP)) (cM (C dG) [(dP (cG aa 0) (cY 2)),(cY 6)])))) (dF aa)) λaa=>(dn (eS (dz .In (cG aa 1) (f7 [(cW fY),(cW fM)])) (eJ (cM (C iK) [(cG aa 0)])) (dF aa)) λaa=>(dn (eS (dz .In (cG aa 1) (f7 [(cW fD),(cW Fg)])) (eJ (cM (C ju) [(cG aa 0)])) (dF aa)) λaa=>(dn (eS (dz .In (cG aa 1) (f7 [(cW tZ),(cW NA),(cW Fi)])) cU (dF aa)) λaa=>(dn (eS (dz .Eq (cG aa 1) (cW zb)) cU (dF aa)) λaa=>(dn (eS (dz .Eq (cG aa 1) (cW lI)) cU (dF aa)) λaa=>(dn (eS (dz .In (cG aa 1) (f7 [(cW ic),(cW uY),(cW uX),(cW iS),(cW rM)])) (eJ (cM (C iz) [(cG aa 0)])) (dF aa)) λaa=>(eJ (cM (C jt) [(cG aa 0)])))))))))))
theorem g9{t:M Bool}{x:M Fl}{k:Lo->M Fl}(h:t σ=some (.ok false,σ)):dn (eS t x (dF aa)) k σ=k aa σ:=qQ (eT h)
theorem r5{t:M Bool}{x y:M Fl}{k:Lo->M Fl}{v:PV}(h:t σ=some (.ok true,σ))(h2:x σ=some (.ok (.ret v),σ')):dn (eS t x y) k σ=some (.ok (.ret v),σ'):=eT (show eS t x y σ=_ from(eT h).trans h2)
theorem vp{m:M Fl}{v:PV}(h:m σ=some (.ok (.ret v),σ')):i6 m σ=some (.ok v,σ'):=eT h
theorem l0{f:List PV->M PV}{v r:PV}(hl:(aa[i]?).join=some v)(h:f [v] σ=some (.ok r,σ)):eJ (cM f [cG aa i]) σ=some (.ok (.ret r),σ):=by simp[bnd,ja,lift,hl,h,ret]
theorem Zj{y:List Nat}(hl:(aa[i]?).join=some (.d (.str x))):dz .Eq (cG aa i) (cW y) σ=some (.ok (x == y),σ):=by simp[bnd,lift,hl,ret,ir,gI]
theorem XB(h:m σ=some (.ok (.d (.str x)),σ)):dz .NotEq m (cW hG) σ=some (.ok (!(x == hG)),σ):=by
 have:gJ σ .NotEq (.d (.str x)) (.d (.str hG))=some (!(x == hG)):=rfl
 (repeat' first|(with_reducible first|exact h|exact this)|refine' sk rfl ?_|apply sk|rfl)
theorem xK{y1 y2:List Nat}{b:Bool}(hl:(aa[i]?).join=some (.d (.str x)))(h:AD σ x (.d (.tup [.str y1,.str y2]))=some b):dz .In (cG aa i) (f7 [cW y1,cW y2]) σ=some (.ok b,σ):=by simp[bnd,lift,hl,ret,ja,EO,qJ,eZ,ir,gJ,h]
theorem SO{y1 y2 y3:List Nat}{b:Bool}(hl:(aa[i]?).join=some (.d (.str x)))(h:AD σ x (.d (.tup [.str y1,.str y2,.str y3]))=some b):dz .In (cG aa i) (f7 [cW y1,cW y2,cW y3]) σ=some (.ok b,σ):=by simp[bnd,lift,hl,ret,ja,EO,qJ,eZ,ir,gJ,h]
theorem SP{y1 y2 y3 y4 y5:List Nat}{b:Bool}(hl:(aa[i]?).join=some (.d (.str x)))(h:AD σ x (.d (.tup [.str y1,.str y2,.str y3,.str y4,.str y5]))=some b):dz .In (cG aa i) (f7 [cW y1,cW y2,cW y3,cW y4,cW y5]) σ=some (.ok b,σ):=by simp[bnd,lift,hl,ret,ja,EO,qJ,eZ,ir,gJ,h]
theorem nD{Cr:List PV->M PV}{r:PV}(h:SN C [some (.d (dy t)),some (.d (.str (Bx t)))] σ=some (.ok (.ret r),σ')):i6 (l8 C Cf Cr W (eR [.d (dy t)] [] 1)) σ=some (.ok r,σ'):=by
 refine vp ?_;rw[<-h];have s0:=o4 σ t;have e:l8 C Cf Cr W (eR [.d (dy t)] [] 1)=dn (dZ [some (.d (dy t)),none] 1 (dP (cG [some (.d (dy t)),none] 0) (cY 0))) (λaa=>SN C aa):=rfl;rw[e]
 have e2:∀k:Lo->M Fl,dn (dZ [some (.d (dy t)),none] 1 (dP (cG [some (.d (dy t)),none] 0) (cY 0))) k σ=k [some (.d (dy t)),some (.d (.str (Bx t)))] σ:=by intro k;simp[dn,bnd,cG,lift,ret,E5,s0,rG]
 exact e2 _
theorem Cg(hl:(aa[0]?).join=some (.d (dy t)))(h:C dS [.d (dy t)] σ=some (.ok (.d (.str (gx t))),σ))(h2:gx t=hG):dz .NotEq (cM (C dS) [cG aa 0]) (cW hG) σ=some (.ok false,σ):=by have:=XB (σ:=σ) (m:=cM (C dS) [cG aa 0]) (x:=gx t) (by simp[bnd,ja,lift,hl,h,ret]);rw[this,h2];rfl
theorem UU(hl:(aa[0]?).join=some (.d (dy t)))(h:C dS [.d (dy t)] σ=some (.ok (.d (.str (gx t))),σ))(h2:gx t≠hG):dz .NotEq (cM (C dS) [cG aa 0]) (cW hG) σ=some (.ok true,σ):=by have:=XB (σ:=σ) (m:=cM (C dS) [cG aa 0]) (x:=gx t) (by simp[bnd,ja,lift,hl,h,ret]);rw[this];simp[h2]
theorem mW{y:List Nat}{b:Bool}(hl:(aa[i]?).join=some (.d (.str x)))(hb:(x == y)=b):dz .Eq (cG aa i) (cW y) σ=some (.ok b,σ):=by rw[<-hb];exact Zj hl
theorem Eo(i:Nat):(qr i).length<=2:=by unfold qr;split<;>simp
theorem XC(l:List Nat)(h:l.length<=2):cut (some 80) none l=[]/\cut none (some 80) l=l:=by
 unfold cut
 match l,h with
 |[],_=>exact⟨rfl,rfl⟩
 |[a],_=>exact⟨rfl,rfl⟩
 |[a,b],_=>exact⟨rfl,rfl⟩
theorem Q5(x:List Nat)(hn:1<=n):(CN W n).c jZ [.d (.int 10),.d (.str x),.d (.int 0)] σ=some (.ok (.d (.str x)),σ):=by obtain⟨m,rfl⟩:∃m,n=m+1:=⟨n -1,by exact dp hn rfl⟩;rw[Bp];exact dk rfl rfl rfl
theorem Q6(hi:i<100)(hW:3<=W)(hn:2<=n):(CN W n).c j0 [.d (.int i)] σ=some (.ok (.d (.str (qr i))),σ):=by
 obtain⟨m,rfl⟩:∃m,n=m+1:=⟨n -1,by exact dp hn rfl⟩;have h1:=UT (σ:=σ) (W:=W) (n:=m) hi hW (dl hn rfl);have hl:=Eo i;have h2:=Q5 (σ:=σ) (W:=W) (n:=m) (qr i) (dl hn rfl);obtain⟨c1,c2⟩:=XC (qr i) hl;obtain⟨W',rfl⟩:∃w,W=w+1:=⟨W -1,by exact dp hW rfl⟩;rw[Bq];refine dk rfl ?_ rfl
 have l1:jQ [.d (.str (qr i))] σ=some (.ok (.d (.int (qr i).length)),σ):=by show(if(qr i).length<2 ^ 40 then _ else none)=_;rw[cH (Wc hl)]
 have hmf:gm= .d (.int 80):=rfl;have hmp:qz= .d (.int 400):=rfl
 have hmax:Pv [.d (.int 0),.d (.int ((qr i).length -80))] σ=some (.ok (.d (.int 0)),σ):=by show some (R.ok (PV.d (.int (if((qr i).length -80:Int) > 0 then _ else 0))),σ)=_;rw[cJ (Wb hl)]
 have s1:wN (.d (.str (qr i))) (some 80) none σ=some (.ok (.d (.str [])),σ):=by show(if(cut (some 80) none (qr i)).length<=jP then some (R.ok (PV.d (.str (cut (some 80) none (qr i)))),σ)else none)=_;rw[c1];rfl
 have s2:wN (.d (.str (qr i))) none (some 80) σ=some (.ok (.d (.str (qr i))),σ):=by show(if(cut none (some 80) (qr i)).length<=jP then some (R.ok (PV.d (.str (cut none (some 80) (qr i)))),σ)else none)=_;rw[c2,cH (by simp only[jP];exact kJ hl rfl)]
 have hb:nr=(.d (.tup [(.int (10)),(.int (2)),(.int (3)),(.int (4)),(.int (5)),(.int (6)),(.int (7)),(.int (8)),(.int (9)),(.int (11)),(.int (12)),(.int (13)),(.int (14)),(.int (15)),(.int (16))])):=rfl;have m1:ly .Mult (.d (.str s_0)) (.d (.int 0)) σ=some (.ok (.d (.str [])),σ):=rfl;have m2:ly .Sub (.d (.int (qr i).length)) (.d (.int 80)) σ=some (.ok (.d (.int ((qr i).length -80))),σ):=rfl;have ee:l5 (.str []) (.str [])=some true:=rfl
 (repeat' first|(with_reducible first|exact hb|exact h1|exact l1|exact hmf|exact m2|exact hmax|exact hmp|exact s1|exact s2|exact m1|exact h2|exact kM|exact Sk|exact qO)|refine' sk rfl ?_|exact fJ ee|exact iX ee|apply sk|rfl)
theorem Lw(hi:i<100)(hW:3<=W)(hn:4<=n):jO W n (.num i):=by
 intro σ hc;obtain⟨m,rfl⟩:∃m,n=m+2:=⟨n -2,by exact dp hn rfl⟩;have h1:=Q6 (σ:=σ) (W:=W) (n:=m) hi hW (dl hn rfl)
 have h2:(CN W (m+1)).c iz [.d (dy (.num i))] σ=some (.ok (.d (.str (qr i))),σ):=by rw[ym];refine dk rfl ?_ rfl;have s0:gZ σ (.d (dy (.num i))) (.d (.int 0))=some (.d (.str ic)):=rfl;have s1:gZ σ (.d (dy (.num i))) (.d (.int 1))=some (.d (.int i)):=rfl;have ee:l5 (.str ic) (.str ic)=some true:=rfl;exact d8 zB λr=>r (dC s0) (fJ ee) (dC s1) h1 ⟨⟩
 have h3:=nK (σ:=σ) (W:=W) (n:=m+1) (t:= .num i) trivial (jw hn rfl);rw[j1];refine dk rfl (nD ?_) rfl;refine(g9 (Cg rfl h3 rfl)).trans ?_;refine(g9 (mW (x:=ic) rfl rfl)).trans ?_;refine(g9 (mW (x:=ic) rfl rfl)).trans ?_;refine(g9 (xK (x:=ic) rfl rfl)).trans ?_;refine(g9 (xK (x:=ic) rfl rfl)).trans ?_;refine(g9 (SO (x:=ic) rfl rfl)).trans ?_;refine(g9 (mW (x:=ic) rfl rfl)).trans ?_;refine(g9 (mW (x:=ic) rfl rfl)).trans ?_;exact r5 (SP (x:=ic) rfl rfl) (l0 rfl h2)
theorem Ix{s:List Nat}(hn:4<=n):jO W n (.name s):=by
 intro σ hc;obtain⟨m,rfl⟩:∃m,n=m+2:=⟨n -2,by exact dp hn rfl⟩
 have h2:(CN W (m+1)).c jt [.d (dy (.name s))] σ=some (.ok (.d (.str s)),σ):=by rw[Br];refine dk rfl ?_ rfl;rfl
 have h3:=nK (σ:=σ) (W:=W) (n:=m+1) (t:= .name s) trivial (jw hn rfl);rw[j1];refine dk rfl (nD ?_) rfl;refine(g9 (Cg rfl h3 rfl)).trans ?_;refine(g9 (mW (x:=fk) rfl rfl)).trans ?_;refine(g9 (mW (x:=fk) rfl rfl)).trans ?_;refine(g9 (xK (x:=fk) rfl rfl)).trans ?_;refine(g9 (xK (x:=fk) rfl rfl)).trans ?_;refine(g9 (SO (x:=fk) rfl rfl)).trans ?_;refine(g9 (mW (x:=fk) rfl rfl)).trans ?_;refine(g9 (mW (x:=fk) rfl rfl)).trans ?_;refine(g9 (SP (x:=fk) rfl rfl)).trans ?_;exact l0 rfl h2
theorem qt(c:Nat)(l:List Nat):l.length<=(tb c l).length:=by
 unfold tb;split
 ·exact ip _
 ·simp only[dI];exact(kI (.l A0 (.a (.a A1 A0) A2)) [])
def SQ(C:Addr->List PV->M PV)(aa:Lo):M Fl:=(dn (eS (dz .In (dP (cG aa 0) (cY 1)) (cW pG)) (eJ (d7 .Add (dP (cG aa 0) (cY 1)) (cM (C dG) [(dP (cG aa 0) (cY 2)),(cY 4)]))) (dF aa)) λaa=>(eJ (d7 .Add (d7 .Add (dP (cG aa 0) (cY 1)) (cW eP)) (cM (C dG) [(dP (cG aa 0) (cY 2)),(cY 6)]))))
def Q7(C:Addr->List PV->M PV)(aa:Lo):Cm Fl:=(.seq (dm (cV .In (dr (cF aa 0) (cL 1)) (cK pG)) (df (dT .Add (dr (cF aa 0) (cL 1)) (cI (C dG) [(dr (cF aa 0) (cL 2)),(cL 4)]))) (cZ aa)) λaa=>(df (dT .Add (dT .Add (dr (cF aa 0) (cL 1)) (cK eP)) (cI (C dG) [(dr (cF aa 0) (cL 2)),(cL 6)]))))
theorem JR:SQ C aa=fG (Q7 C aa):=rfl
theorem OL(h:WF (.un w t))(hn:4<=n)(hS:∀m,n<=m+2->jO W m t)(hx:(tx (.un w t)).length<=1000000):jO W n (.un w t):=by
 intro σ hc;obtain⟨m,rfl⟩:∃m,n=m+2:=⟨n -2,by exact dp hn rfl⟩;have h3:=nK (σ:=σ) (W:=W) (n:=m+1) (t:= .un w t) h (jw hn rfl);have s1:gZ σ (.d (dy (.un w t))) (.d (.int 1))=some (.d (.str w)):=rfl;have s2:gZ σ (.d (dy (.un w t))) (.d (.int 2))=some (.d (dy t)):=rfl;have hw:=h.1;simp only[Bt,dj,dJ,dK]at hw
 have hcase:(EA w pG=true/\(w=i8\/w=iR))\/(EA w pG=false/\¬(w=i8\/w=iR)):=by
  rcases hw with rfl|rfl|rfl|rfl
  ·exact .inl ⟨Xs,.inr rfl⟩
  ·exact .inr ⟨OG,by decide⟩
  ·exact .inr ⟨OH,by decide⟩
  ·exact .inl ⟨Xr,.inl rfl⟩
 have key:SQ (CN W (m+1)).c [some (.d (dy (.un w t))),some (.d (.str lH))] σ=some (.ok (.ret (.d (.str (tx (.un w t))))),σ):=by
  rcases hcase with⟨q,q2⟩|⟨q,q2⟩
  ·simp only[tx,cH q2]at hx ⊢;rw[dI]at hx;have:=qt (ew 2 t) (tx t);have hwi:=mV (σ:=σ) (W:=W) (n:=m) (Sh.of h.2) (dl hn rfl) (hS m (RS)) ((kI (.l A2 (.k 1000000)) [.l (.a A0 A1) (.k 1000000),.l A2 A1]) hx this) 4 (by exact fq rfl) hc;simp at hwi;have a1:=add_str (x:=w) (y:=tb (ew 2 t) (tx t)) (RU hx) σ;exact fX JR λr=>r (dC s1) (xv (c:=true) (dN some q)) (dC s1) (dC s2) hwi a1 ⟨⟩
  ·simp only[tx,cJ q2]at hx ⊢;rw[dI,dI]at hx;have:=qt (ew 0 t) (tx t);have hwi:=mV (σ:=σ) (W:=W) (n:=m) (Sh.of h.2) (dl hn rfl) (hS m (RS)) ((lx (.l A3 (.k 1000000)) [.l (.a (.a A0 A1) A2) (.k 1000000),.l A3 A2]) hx this) 6 (by exact fq rfl) hc;simp at hwi;have a1:=add_str (x:=w) (y:=eP) (L5 hx) σ;have a2:=add_str (x:=w++eP) (y:=tb (ew 0 t) (tx t)) (by rw[dI];exact L4 hx) σ;exact fX JR λr=>r (dC s1) (xv (c:=false) (dN some q)) (dC s1) a1 (dC s2) hwi a2 ⟨⟩
 rw[j1];refine dk rfl (nD ?_) rfl;refine(g9 (Cg rfl h3 rfl)).trans ?_;refine(g9 (mW (x:=lH) rfl rfl)).trans ?_;exact r5 (mW (x:=lH) rfl rfl) key
theorem Ly{a b:Tr}(h:WF a/\WF b)(hn:5<=n)(hA:∀m,n<=m+3->jO W m a)(hB:∀m,n<=m+3->jO W m b)(hx:(tx (.rng a b)).length<=1000000):jO W n (.rng a b):=by
 intro σ hc;obtain⟨m,rfl⟩:∃m,n=m+3:=⟨n -3,by exact dp hn rfl⟩;simp only[tx,dI]at hx;have tz1:=qt (ew 3 a) (tx a);have:=qt (ew 3 b) (tx b);have ee:∀x y:List Nat,l5 (.str x) (.str y)=some (x == y):=λ_ _=>rfl;have s0:gZ σ (.d (dy (.rng a b))) (.d (.int 0))=some (.d (.str fD)):=rfl
 have h2:(CN W (m+2)).c ju [.d (dy (.rng a b))] σ=some (.ok (.d (.str (tx (.rng a b)))),σ):=by
  rw[Bs];refine dk rfl ?_ rfl;have s1:gZ σ (.d (dy (.rng a b))) (.d (.int 1))=some (.d (dy a)):=rfl;have s2:gZ σ (.d (dy (.rng a b))) (.d (.int 2))=some (.d (dy b)):=rfl;have w1:=mV (σ:=σ) (W:=W) (n:=m) (Sh.of h.1) (dl hn rfl) (hA m (I3)) (by exact(lx (.l A3 (.k 1000000)) [.l (.a (.a A0 A1) A2) (.k 1000000),.l A3 A0]) hx tz1) 3 (by exact fq rfl) hc;have w2:=mV (σ:=σ) (W:=W) (n:=m) (Sh.of h.2) (dl hn rfl) (hB m (I3)) (by exact(BB (.l A4 (.k 1000000)) [.l (.a (.a A0 A1) A2) (.k 1000000),.l A3 A0,.l A4 A2]) hx tz1 this) 3 (by exact fq rfl) hc;simp at w1 w2;have a1:=add_str (x:=tb (ew 3 a) (tx a)) (y:=vL) (L5 hx) σ
  have a2:=add_str (x:=tb (ew 3 a) (tx a)++vL) (y:=tb (ew 3 b) (tx b)) (by rw[dI];exact L4 hx) σ;have c1:(fD == fD)=true:=rfl;have e:tx (.rng a b)=tb (ew 3 a) (tx a)++vL++tb (ew 3 b) (tx b):=rfl;rw[e];generalize tb (ew 3 a) (tx a)++vL=X at *;exact d8 Dq λr=>r (dC s0) (fJ (ee _ _)) (dC s1) w1 a1 (dC s2) w2 a2 ⟨⟩
 have h3:=nK (σ:=σ) (W:=W) (n:=m+2) (t:= .rng a b) h (jw hn rfl);rw[j1];refine dk rfl (nD ?_) rfl;refine(g9 (Cg rfl h3 rfl)).trans ?_;refine(g9 (mW (x:=fD) rfl rfl)).trans ?_;refine(g9 (mW (x:=fD) rfl rfl)).trans ?_;refine(g9 (xK (x:=fD) rfl rfl)).trans ?_;exact r5 (xK (x:=fD) rfl rfl) (l0 rfl h2)
theorem Lz{a b:Tr}(h:WF (.mem w t (.rng a b)))(hn:5<=n)(hT:∀m,n<=m+3->jO W m t)(hR:∀m,n<=m+3->jO W m (.rng a b))(hx:(tx (.mem w t (.rng a b))).length<=1000000):jO W n (.mem w t (.rng a b)):=by
 intro σ hc;obtain⟨m,rfl⟩:∃m,n=m+3:=⟨n -3,by exact dp hn rfl⟩
 have hx':(tb (ew 3 t) (tx t)).length+(yo w).length+(tx (.rng a b)).length<=1000000:=by simp only[tx,dI]at hx ⊢;exact hx
 have:=qt (ew 3 t) (tx t);have ee:∀x y:List Nat,l5 (.str x) (.str y)=some (x == y):=λ_ _=>rfl;have s0:gZ σ (.d (dy (.mem w t (.rng a b)))) (.d (.int 0))=some (.d (.str w)):=rfl
 have h2:(CN W (m+2)).c iK [.d (dy (.mem w t (.rng a b)))] σ=some (.ok (.d (.str (tx (.mem w t (.rng a b))))),σ):=by
  rw[z0];refine dk rfl ?_ rfl;have s1:gZ σ (.d (dy (.mem w t (.rng a b)))) (.d (.int 1))=some (.d (dy t)):=rfl;have s2:gZ σ (.d (dy (.mem w t (.rng a b)))) (.d (.int 2))=some (.d (dy (.rng a b))):=rfl;have w1:=mV (σ:=σ) (W:=W) (n:=m) (Sh.of h.2.1) (dl hn rfl) (hT m (I3)) ((lx (.l A3 (.k 1000000)) [.l (.a (.a A0 A1) A2) (.k 1000000),.l A3 A0]) hx' this) 3 (by exact fq rfl) hc;have w2:=mV (σ:=σ) (W:=W) (n:=m) (t:= .rng a b) h.2.2 (dl hn rfl) (hR m (I3)) ((lx (.l A2 (.k 1000000)) [.l (.a (.a A0 A1) A2) (.k 1000000),.l A3 A0]) hx' this) 3 (by exact fq rfl) hc;have hp:tb (ew 3 (.rng a b)) (tx (.rng a b))=tx (.rng a b):=rfl
  simp only[Nat.reduceSub,hp]at w1 w2;have a1:=add_str (x:=tb (ew 3 t) (tx t)) (y:=yo w) (L5 hx') σ;have a2:=add_str (x:=tb (ew 3 t) (tx t)++yo w) (y:=tx (.rng a b)) (by rw[dI];exact L4 hx') σ;have e:tx (.mem w t (.rng a b))=tb (ew 3 t) (tx t)++yo w++tx (.rng a b):=rfl;rw[e];generalize tx (.rng a b)=X at *;simp at w1 w2;rcases h.1 with rfl|rfl
  ·have c1:(fY == fY)=true:=rfl;have hm:yo fY=Nz:=rfl;rw[hm]at a1 a2 ⊢;exact d8 uH λr=>r (dC s0) (fJ (ee _ _)) (dC s1) w1 a1 (dC s2) w2 a2 ⟨⟩
  ·have c1:(fM == fY)=false:=rfl;have hm:yo fM=zd:=rfl;rw[hm]at a1 a2 ⊢;exact d8 uH λr=>r (dC s0) (fJ (ee _ _)) (dC s1) w1 a1 (dC s2) w2 a2 ⟨⟩
 have h3:=nK (σ:=σ) (W:=W) (n:=m+2) (t:= .mem w t (.rng a b)) h (jw hn rfl);rw[j1];refine dk rfl (nD ?_) rfl;refine(g9 (Cg rfl h3 rfl)).trans ?_;rcases h.1 with rfl|rfl
 ·refine(g9 (mW (x:=fY) rfl rfl)).trans ?_;refine(g9 (mW (x:=fY) rfl rfl)).trans ?_;exact r5 (xK (x:=fY) rfl rfl) (l0 rfl h2)
 ·refine(g9 (mW (x:=fM) rfl rfl)).trans ?_;refine(g9 (mW (x:=fM) rfl rfl)).trans ?_;exact r5 (xK (x:=fM) rfl rfl) (l0 rfl h2)
end
section
variable{W:Nat}
noncomputable def sL(R:List (List Nat)):MO:= .list (R.reverse.map .str)
theorem Iy(l:List (List Nat)):sV (l.map .str)=some l:=by
 induction l with
 |nil=>rfl
 |cons x l ih=>simp only[jg,sV,ih];rfl
theorem Ep{R:List (List Nat)}(hl:(aa[i]?).join=some (.ref σ.length))(h1:R.flatten.length<=1000000)(h2:R.length<=1000000):s9 (xr (cG aa i)) (σ++[sL R])=some (.ok (.d (.str R.flatten)),σ++[sL R,.list (R.map .str)]):=by
 have g1:dW (σ++[sL R]) (.ref σ.length)=some (R.reverse.map .str):=by simp[dW,sL]
 have g2:dW (σ++[sL R,.list (R.map .str)]) (.ref (σ.length+1))=some (R.map .str):=by simp[dW]
 have e1:(R.reverse.map D.str).reverse=R.map .str:=by rw[<-List.map_reverse,List.reverse_reverse]
 have e2:Mk (.ref σ.length) (σ++[sL R])=some (.ok (.ref (σ.length+1)),σ++[sL R,.list (R.map .str)]):=by simp only[Mk,g1,Option.bind,e1,rA];rw[cH (by rw[f6];simp only[eZ];exact kJ h2 rfl)];simp
 have e3:BI [.ref (σ.length+1)] (σ++[sL R,.list (R.map .str)])=some (.ok (.d (.str R.flatten)),σ++[sL R,.list (R.map .str)]):=by simp only[BI,g2,Option.bind,Iy];rw[cH ⟨by simp only[jP];exact kJ h1 rfl,by simp only[eZ];exact kJ h2 rfl⟩]
 simp only[s9,xr,cG,bnd,ja,lift,hl,Option.map,e2,ret,e3]
theorem rj{R:List (List Nat)}{s:List Nat}(h:m (σ++[sL R])=some (.ok (.d (.str s)),σ++[sL R]))(h2:R.length<=1000000):kz (.ref σ.length) m (σ++[sL R])=some (.ok (.d .none),σ++[sL (s::R)]):=by
 have r1:qM (σ++[sL R]) (.ref σ.length)=some (σ.length,R.reverse.map .str):=by simp[qM,sL]
 simp only[kz,r1,Option.bind,bnd,h];rw[cH (by simp only[f6,List.length_reverse,eZ];exact Nat.lt_of_le_of_lt h2 (fq rfl))];simp[sL]
theorem Cl.sL{R:List (List Nat)}(h:Cl σ):Cl (σ++[Internal.sL R]):=h.app rfl
def cT(aa:Lo):M Bool:=(uN [(dz .Eq (dP (cG aa 0) (cY 0)) (cW iQ)),(dz .In (dP (cG aa 0) (cY 1)) (kN jx))])
def cB(C:Addr->List PV->M PV)(aa:Lo):M Fl:=(dn (E9 aa [2,3,4] (dP (kN jx) (dP (cG aa 0) (cY 1)))) λaa=>(dn (dZ aa 5 (dP (cG aa 0) (cY 1))) λaa=>(dn (eS (dz .NotEq (cG aa 5) (cW gC)) (dZ aa 5 (d7 .Add (d7 .Add (cW eP) (cG aa 5)) (cW eP))) (dF aa)) λaa=>(dn (oz aa (jC (cG aa 1) (d7 .Add (cG aa 5) (cM (C dG) [(dP (cG aa 0) (cY 3)),(cG aa 4)])))) λaa=>(dn (dZ aa 0 (dP (cG aa 0) (cY 2))) λaa=>(eS (dz .Lt (cM (C ik) [(cG aa 0)]) (cG aa 3)) (E8 aa) (dF aa)))))))
def Zk(C:Addr->List PV->M PV)(aa:Lo):Cm Fl:=(.seq (tg aa [2,3,4] (dr (lX jx) (dr (cF aa 0) (cL 1)))) λaa=>(.seq (dA aa 5 (dr (cF aa 0) (cL 1))) λaa=>(.seq (dm (cV .NotEq (cF aa 5) (cK gC)) (dA aa 5 (dT .Add (dT .Add (cK eP) (cF aa 5)) (cK eP))) (cZ aa)) λaa=>(.seq (mB aa (tf (cF aa 1) (dT .Add (cF aa 5) (cI (C dG) [(dr (cF aa 0) (cL 3)),(cF aa 4)])))) λaa=>(.seq (dA aa 0 (dr (cF aa 0) (cL 2))) λaa=>(dm (cV .Lt (cI (C ik) [(cF aa 0)]) (cF aa 3)) (Na aa) (cZ aa)))))))
theorem Q8:cB C aa=fG (Zk C aa):=rfl
def cO(C:Addr->List PV->M PV)(aa:Lo):M Fl:=(eJ (d7 .Add (cM (C gG) [(cG aa 0)]) (s9 (xr (cG aa 1)))))
def cR(C:Addr->List PV->M PV)(aa:Lo):M Fl:=(eJ (d7 .Add (d7 .Add (d7 .Add (cW fT) (cM (C gG) [(cG aa 0)])) (cW eY)) (s9 (xr (cG aa 1)))))
theorem Iz(C:Addr->List PV->M PV)(Cf:List PV->M Unit)(Cr:List PV->M PV)(W:Nat)(aa:Lo):mM C Cf Cr W aa=dn (dZ aa 1 (m9 [])) λaa=>dn (fw cT (cB C) (cO C) W aa) (cR C):=rfl
def IB:Tr->Bool
 | .bin w _ _=>decide (w ∉ kx)
 |_=>false
theorem SR(h:Sh t){x1 x2 x3 x5:Option PV}:cT [some (.d (dy t)),x1,x2,x3,x4,x5] σ=some (.ok (IB t),σ):=by
 match t,h with
 | .name s,_=>rfl
 | .num i,_=>rfl
 | .un w t,h=>rfl
 | .sc w a b,h=>rcases h.1 with rfl|rfl<;>rfl
 | .mem w t (.rng a b),h=>rcases h.1 with rfl|rfl<;>rfl
 | .rng a b,h=>rfl
 | .bin w a b,h=>
  rcases j7 h.1 with q|q|q|q|q|q|q
  ·simp only[pZ,dj,dJ,dK]at q;rcases q with rfl|rfl|rfl<;>rfl
  ·simp only[oJ,dj,dJ,dK]at q;rcases q with rfl|rfl|rfl|rfl<;>rfl
  ·simp only[m7,dj,dJ,dK]at q;rcases q with rfl|rfl|rfl|rfl|rfl|rfl<;>rfl
  all_goals (subst q;rfl)
structure Bnd(w:List Nat)(lv le ri:Nat):Prop where
 tup:∀τ,gZ τ jx (.d (.str w))=some (.d (.tup [.int lv,.int le,.int ri]))
 a:∀t,mP (cls w) t=ew (6 -le) t
 b:∀t,kE (cls w) t=ew (6 -ri) t
 l6:le<=6
 r6:ri<=6
 ln:w.length<=3
theorem UV(h:w ∈ sM)(hl:w ∉ kx):∃lv le ri,Bnd w lv le ri:=by
 rcases j7 h with q|q|q|q|q|q|q
 ·refine⟨3,3,4,?_,by rw[t9 q];exactλ_=>rfl,by rw[t9 q];exactλ_=>rfl,by exact fq rfl,by exact fq rfl,?_⟩<;>
   (simp only[pZ,dj,dJ,dK]at q;rcases q with rfl|rfl|rfl)<;>first|exactλ_=>rfl|decide
 ·refine⟨4,4,5,?_,by rw[re q];exactλ_=>rfl,by rw[re q];exactλ_=>rfl,by exact fq rfl,by exact fq rfl,?_⟩<;>
   (simp only[oJ,dj,dJ,dK]at q;rcases q with rfl|rfl|rfl|rfl)<;>first|exactλ_=>rfl|decide
 ·refine⟨2,3,3,?_,by rw[ua q];exactλ_=>rfl,by rw[ua q];exactλ_=>rfl,by exact fq rfl,by exact fq rfl,?_⟩<;>
   (simp only[m7,dj,dJ,dK]at q;rcases q with rfl|rfl|rfl|rfl|rfl|rfl)<;>first|exactλ_=>rfl|decide
 ·subst q;exact absurd (by decide) hl
 ·subst q;exact absurd (by decide) hl
 ·subst q;exact absurd (by decide) hl
 ·subst q;exact⟨5,6,6,λ_=>rfl,λ_=>rfl,λ_=>rfl,by exact fq rfl,by exact fq rfl,by decide⟩
theorem XE{a b:Tr}{lv le ri:Nat}(hb:Bnd w lv le ri)(h:WF (.bin w a b))(hn:3<=n)(hS:∀m,n<=m+1->jO W m b)(hx:(tx b).length<=1000000)(hx2:(tb (kE (cls w) b) (tx b)).length<=1000000)(hc:Cl σ){R:List (List Nat)}(hR:R.length<=1000000){x2 x3 x5:Option PV}:
  ∃loc',loc'=[some (.d (dy a)),some (.ref σ.length),some (.d (.int lv)),some (.d (.int le)),some (.d (.int ri)),some (.d (.str (bT w)))]/\
  cB (CN W n).c [some (.d (dy (.bin w a b))),some (.ref σ.length),x2,x3,x4,x5] (σ++[sL R])=some (.ok (if ni a<le then .brk loc' else .nxt loc'),σ++[sL ((bT w++tb (kE (cls w) b) (tx b))::R)]):=by
 refine⟨_,rfl,?_⟩;obtain⟨m,rfl⟩:∃m,n=m+1:=⟨n -1,by exact dp hn rfl⟩;have hl:=hb.ln;have s1:∀τ,gZ τ (.d (dy (.bin w a b))) (.d (.int 1))=some (.d (.str w)):=λ_=>rfl;have s2:∀τ,gZ τ (.d (dy (.bin w a b))) (.d (.int 2))=some (.d (dy a)):=λ_=>rfl;have s3:∀τ,gZ τ (.d (dy (.bin w a b))) (.d (.int 3))=some (.d (dy b)):=λ_=>rfl;have w1:=mV (σ:=σ++[sL R]) (W:=W) (n:=m) (Sh.of h.2.2) (dl hn rfl) (hS m (I1)) hx ri hb.r6 hc.sL;rw[<-hb.b]at w1
 have tlen:(bT w).length<=5:=by
  unfold bT;split
  ·exact kJ hl rfl
  ·simp only[dI];have:eP.length=1:=rfl;exact(ie (.l (.a (.a A1 A0) A1) (.k 5)) [.l A0 (.k 3),.e A1 K1]) hl this
 have a1:=add_str (x:=bT w) (y:=tb (kE (cls w) b) (tx b)) ((ie (.l (.a A1 A0) (.k 3000000)) [.l A0 (.k 1000000),.l A1 (.k 5)]) hx2 tlen) (σ++[sL R]);have h1:=OJ (σ:=σ++[sL ((bT w++tb (kE (cls w) b) (tx b))::R)]) (W:=W) (n:=m+1) (Sh.of h.2.1) (jw hn rfl);have ee:gJ (σ++[sL R]) .NotEq (.d (.str w)) (.d (.str gC))=some (!(w == gC)):=rfl;have tp:=hb.tup;have cl:∀loc':Lo,ni a<le->ir .Lt (.d (.int (ni a))) (.d (.int le)) (σ++[sL ((bT w++tb (kE (cls w) b) (tx b))::R)])=some (.ok true,_):=λ_ q=>th (Int.ofNat_lt.mpr q);have cg:∀loc':Lo,¬ ni a<le->ir .Lt (.d (.int (ni a))) (.d (.int le)) (σ++[sL ((bT w++tb (kE (cls w) b) (tx b))::R)])=some (.ok false,_):=λ_ q=>ti λz=>q (Int.ofNat_lt.mp z)
 by_cases q:w=gC
 ·subst q;have c1:(gC == gC)=true:=rfl;rw[c1]at ee;by_cases q2:ni a<le
  ·rw[cH q2];exact fX Q8 λr=>r (dC (s1 _)) (dC (tp _)) (dC (s1 _)) (ig ee) (rj (fX rfl λr=>r (dC (s3 _)) w1 a1 ⟨⟩) hR) (dC (s2 _)) h1 (cl [] q2) ⟨⟩
  ·rw[cJ q2];exact fX Q8 λr=>r (dC (s1 _)) (dC (tp _)) (dC (s1 _)) (ig ee) (rj (fX rfl λr=>r (dC (s3 _)) w1 a1 ⟨⟩) hR) (dC (s2 _)) h1 (cg [] q2) ⟨⟩
 ·have c1:(w == gC)=false:=by simpa using q
  rw[c1]at ee;have hbt:bT w=eP++w++eP:=by unfold bT;rw[cJ q]
  have b1:=add_str (x:=eP) (y:=w) (by have:eP.length=1:=rfl;exact(ie (.l (.a A1 A0) (.k 3000000)) [.l A0 (.k 3),.e A1 K1]) hl this) (σ++[sL R])
  have b2:ly .Add (.d (.str (eP++w))) (.d (.str eP)) (σ++[sL R])=some (.ok (.d (.str (bT w))),σ++[sL R]):=by rw[hbt];exact add_str (x:=eP++w) (y:=eP) (by have:eP.length=1:=rfl;rw[dI];exact(ie (.l (.a (.a A1 A0) A1) (.k 3000000)) [.l A0 (.k 3),.e A1 K1]) hl this) (σ++[sL R])
  by_cases q2:ni a<le
  ·rw[cH q2];exact fX Q8 λr=>r (dC (s1 _)) (dC (tp _)) (dC (s1 _)) (ig ee) b1 b2 (rj (fX rfl λr=>r (dC (s3 _)) w1 a1 ⟨⟩) hR) (dC (s2 _)) h1 (cl [] q2) ⟨⟩
  ·rw[cJ q2];exact fX Q8 λr=>r (dC (s1 _)) (dC (tp _)) (dC (s1 _)) (ig ee) b1 b2 (rj (fX rfl λr=>r (dC (s3 _)) w1 a1 ⟨⟩) hR) (dC (s2 _)) h1 (cg [] q2) ⟨⟩
end
section
variable{W:Nat}
theorem IC(c:Nat)(l:List Nat):(tb c l).length<=l.length+2:=by
 unfold tb;split
 ·exact(lE (.l A0 (.a A0 (.k 2))) [])
 ·simp only[dI];have tz1:fT.length=1:=rfl;have:eY.length=1:=rfl;exact(kI (.l (.a (.a A0 A2) A1) (.a A2 (.k 2))) [.e A0 K1,.e A1 K1]) tz1 this
theorem ID(w:List Nat)(a b:Tr):tx (.bin w a b)=tb (mP (cls w) a) (tx a)++(bT w++tb (kE (cls w) b) (tx b)):=rfl
theorem XF(w:List Nat)(a b:Tr):tx (.sc w a b)=tb (km w a) (tx a)++(eP++oM w++eP++tb (ew 4 b) (tx b)):=rfl
theorem qu{m1 m2:M PV}{σ1 σ2:List MO}{y:List Nat}(h1:m1 σ=some (.ok (.d (.str x)),σ1))(h2:m2 σ1=some (.ok (.d (.str y)),σ2))(hl:x.length+y.length<=3000000):d7 .Add m1 m2 σ=some (.ok (.d (.str (x++y))),σ2):=by simp only[d7,bnd,h1,h2,add_str hl]
theorem ui{v:PV}(h:m σ=some (.ok v,σ')):eJ m σ=some (.ok (.ret v),σ'):=eT h
theorem Ch{f:List PV->M PV}{v:PV}{r:Option (R PV×List MO)}(hl:(aa[i]?).join=some v)(h:f [v] σ=r):cM f [cG aa i] σ=r:=by simp only[cM,bnd,ja,cG,lift,hl,Option.map,ret,h]
theorem SS{f:List PV->M PV}{l:Int}{v:PV}{r:Option (R PV×List MO)}(hl:(aa[i]?).join=some v)(h:f [v,.d (.int l)] σ=r):cM f [cG aa i,cY l] σ=r:=by simp only[cM,bnd,ja,cG,cY,lift,hl,Option.map,ret,h]
theorem Yi(x:List Nat):cW x σ=some (.ok (.d (.str x)),σ):=rfl
theorem XG(hS:jO W n t)(hc:Cl σ){R:List (List Nat)}(hx:(tx t).length+R.flatten.length<=1000000)(hR:R.length<=1000000){x2 x3 x5:Option PV}:∃J,cO (CN W n).c [some (.d (dy t)),some (.ref σ.length),x2,x3,x4,x5] (σ++[sL R])=some (.ok (.ret (.d (.str (tx t++R.flatten)))),σ++J):=by have h1:=hS (σ++[sL R]) hc.sL;have h2:=Ep (σ:=σ) (aa:=[some (.d (dy t)),some (.ref σ.length),x2,x3,x4,x5]) (i:=1) (R:=R) rfl (L6 hx) hR;exact⟨_,ui (qu (Ch rfl h1) h2 (RU hx))⟩
theorem XH(hS:jO W n t)(hc:Cl σ){R:List (List Nat)}(hx:(tx t).length+R.flatten.length<=1000000)(hR:R.length<=1000000){x2 x3 x5:Option PV}:∃J,cR (CN W n).c [some (.d (dy t)),some (.ref σ.length),x2,x3,x4,x5] (σ++[sL R])=some (.ok (.ret (.d (.str (tb 1 (tx t)++R.flatten)))),σ++J):=by have h1:=hS (σ++[sL R]) hc.sL;have h2:=Ep (σ:=σ) (aa:=[some (.d (dy t)),some (.ref σ.length),x2,x3,x4,x5]) (i:=1) (R:=R) rfl (L6 hx) hR;have e8:fT.length=1:=rfl;have e14:eY.length=1:=rfl;exact⟨_,ui (qu (qu (qu (Yi _) (Ch rfl h1) ((kI (.l (.a A2 A0) (.k 3000000)) [.l (.a A0 A1) (.k 1000000),.e A2 K1]) hx e8)) (Yi _) (by rw[dI];exact(lx (.l (.a (.a A2 A0) A3) (.k 3000000)) [.l (.a A0 A1) (.k 1000000),.e A2 K1,.e A3 K1]) hx e8 e14)) h2 (by have:=IC 1 (tx t);exact R1 hx this))⟩
theorem UW{m:M Fl}{k:Lo->M Fl}{v:PV}(h:m σ=some (.ok (.ret v),σ')):dn m k σ=some (.ok (.ret v),σ'):=eT h
theorem ij{m:M Fl}{k:Lo->M Fl}{l:Lo}(h:m σ=some (.ok (.nxt l),σ')):dn m k σ=k l σ':=eT h
theorem JS{m m':M Fl}{k:Lo->M Fl}(h:m σ=m' σ'):dn m k σ=dn m' k σ':=by simp only[dn,bnd,h]
theorem IE(hn:3<=n)(H:Nat)(hH:∀u,WF u->LV u->ht u<H->(tx u).length<=1000000->∀m,n<=m+1->jO W m u)(hc:Cl σ)(t:Tr):∀(K:Nat)(R:List (List Nat))(x2 x3 x4 x5:Option PV),WF t->LV t->IB t=true->ht t<=H->ht t<K->(tx t).length+R.flatten.length<=1000000->R.length+ht t<=1000000->
  ∃J,dn (fw cT (cB (CN W n).c) (cO (CN W n).c) K [some (.d (dy t)),some (.ref σ.length),x2,x3,x4,x5]) (cR (CN W n).c) (σ++[sL R])=some (.ok (.ret (.d (.str (tx t++R.flatten)))),σ++J):=by
 induction t with
 |bin w a b iha ihb=>
  intro K R x2 x3 x4 x5 h hlv hch hh hK hx hR;simp only[ht]at hh hK hR;obtain⟨K,rfl⟩:∃q,K=q+1:=⟨K -1,by exact(kI (.e A2 (.a (.s A2 K1) K1)) [.t (.a (.ma A0 A1) K1) A2]) hK⟩;have hnl:w ∉ kx:=by simpa [IB] using hch
  refine Yl (UV h.1 hnl) λlv le ri hb=> ?_;rw[ID]at hx ⊢;simp only[dI]at hx;have l1:=qt (mP (cls w) a) (tx a);have l2:=qt (kE (cls w) b) (tx b);refine eN (XE (W:=W) (n:=n) (σ:=σ) hb h hn (hH b h.2.2 hlv.2 (CA hh) (R0 hx l2)) (R0 hx l2) ((lx (.l A2 (.k 1000000)) [.l (.a (.a A0 (.a A1 A2)) A3) (.k 1000000)]) hx) hc (R:=R) ((kI (.l A0 (.k 1000000)) [.l (.a A0 (.a (.ma A1 A2) K1)) (.k 1000000)]) hR) (x2:=x2) (x3:=x3) (x4:=x4) (x5:=x5)) λloc' hloc hB=> ?_;have hT:cT [some (.d (dy (.bin w a b))),some (.ref σ.length),x2,x3,x4,x5] (σ++[sL R])=some (.ok true,σ++[sL R]):=by rw[SR (t:= .bin w a b) h,hch]
  have hfl:((bT w++tb (kE (cls w) b) (tx b))::R).flatten=(bT w++tb (kE (cls w) b) (tx b))++R.flatten:=rfl;have hsa:=hH a h.2.1 hlv.1 (Cz hh) ((Ke (.l A4 (.k 1000000)) [.l (.a (.a A0 (.a A1 A2)) A3) (.k 1000000),.l A4 A0,.l A5 A2]) hx l1 l2) n ((lE (.l A0 (.a A0 K1)) []));have hpa:=GD a le hb.l6;by_cases q:ni a<le
  ·rw[cH q]at hB hpa;rw[ij (Ng hT hB),hloc];refine oE (XH (W:=W) (n:=n) (σ:=σ) (R:=(bT w++tb (kE (cls w) b) (tx b))::R) hsa hc (by rw[hfl];simp only[dI];exact(BB (.l (.a A4 (.a (.a A1 A2) A3)) (.k 1000000)) [.l (.a (.a A0 (.a A1 A2)) A3) (.k 1000000),.l A4 A0]) hx l1) (by simp only[eD];exact RX hR) (x2:=some (.d (.int lv))) (x3:=some (.d (.int le))) (x4:=some (.d (.int ri))) (x5:=some (.d (.str (bT w))))) λJ e=> ?_;refine⟨J,e.trans ?_⟩;simp only[hfl,hb.a,hpa,d6]
  ·rw[cJ q]at hB hpa;rw[JS (pz hT hB),hloc];rw[hb.a,hpa]at hx l1 ⊢;have htb:tb 0 (tx a)=tx a:=rfl;rw[htb]at hx l1 ⊢;by_cases qc:IB a=true
   ·refine oE (iha K ((bT w++tb (kE (cls w) b) (tx b))::R) (some (.d (.int lv))) (some (.d (.int le))) (some (.d (.int ri))) (some (.d (.str (bT w)))) h.2.1 hlv.1 qc (G3 hh) ((kI (.t A0 A2) [.t (.a (.ma A0 A1) K1) (.a A2 K1)]) hK) (by rw[hfl];simp only[dI];exact RZ hx) (by simp only[eD];exact(kI (.l (.a (.a A0 K1) A1) (.k 1000000)) [.l (.a A0 (.a (.ma A1 A2) K1)) (.k 1000000)]) hR)) λJ e=> ?_;refine⟨J,e.trans ?_⟩;simp only[hfl,d6]
   ·obtain⟨K,rfl⟩:∃q,K=q+1:=⟨K -1,by exact(kI (.e A2 (.a (.s A2 K1) K1)) [.t (.a (.ma A0 A1) K1) (.a A2 K1)]) hK⟩
    have hT2:∀x2 x3 x4 x5 τ,cT [some (.d (dy a)),some (.ref σ.length),x2,x3,x4,x5] τ=some (.ok false,τ):=by intro x2 x3 x4 x5 τ;rw[SR (t:=a) (Sh.of h.2.1)];simp[qc]
    refine oE (XG (W:=W) (n:=n) (σ:=σ) (R:=(bT w++tb (kE (cls w) b) (tx b))::R) hsa hc (by rw[hfl];simp only[dI];exact RZ hx) (by simp only[eD];exact RX hR) (x2:=some (.d (.int lv))) (x3:=some (.d (.int le))) (x4:=some (.d (.int ri))) (x5:=some (.d (.str (bT w))))) λJ e=> ?_;refine⟨J,(UW ((rL (hT2 _ _ _ _ _)).trans e)).trans ?_⟩;simp only[hfl,d6]
 |_=>intro K R x2 x3 x4 x5 h hlv hch;exact mY hch
theorem GE(h:WF t)(hlv:LV t)(hch:IB t=true)(hn:5<=n)(hH:∀u,WF u->LV u->ht u<ht t->(tx u).length<=1000000->∀m,n<=m+3->jO W m u)(hx:(tx t).length<=1000000)(hW:ht t<W)(hW2:ht t<=1000000):jO W n t:=by
 intro σ hc;obtain⟨m,rfl⟩:∃m,n=m+2:=⟨n -2,by exact dp hn rfl⟩;have h3:=nK (σ:=σ) (W:=W) (n:=m+1) (Sh.of h) (jw hn rfl)
 have h2:(CN W (m+1)).c jr [.d (dy t)] σ=some (.ok (.d (.str (tx t))),σ):=by rw[Bn];refine oE (IE (W:=W) (n:=m) (σ:=σ) (dl hn rfl) (ht t) (λu hu hl hh hxu m' hm=>hH u hu hl hh hxu m' (RW hm)) hc t W [] none none none none h hlv hch (ip _) hW (by simpa using hx) (by simpa using hW2)) λJ e=> ?_;rw[List.flatten_nil,gD]at e;refine gH (σ₁:=σ) (junk:=J) rfl (vp ?_) rfl rfl hc;rw[Iz];refine Eq.trans (ij (l:=[some (.d (dy t)),some (.ref σ.length),none,none,none,none]) (σ':=σ++[sL []]) ?_) e;rfl
 have htag:Bx t=iQ/\gx t=hG:=by
  cases t with
  |bin w a b=>
   have:w ∉ kx:=by simpa [IB] using hch
   exact⟨rfl,by simp only[gx,cJ this]⟩
  |_=>exact mY hch
 rw[j1];refine dk rfl (nD ?_) rfl;rw[htag.1];refine(g9 (Cg rfl h3 htag.2)).trans ?_;exact r5 (mW (x:=iQ) rfl rfl) (l0 rfl h2)
def gT(C:Addr->List PV->M PV)(aa:Lo):M Bool:=(dz .Eq (cM (C dS) [(cG aa 0)]) (cG aa 1))
def gB(C:Addr->List PV->M PV)(aa:Lo):M Fl:=(dn (Ht aa [3,4] (f7 [(dP (cG aa 0) (yZ (cY 2))),(dP (cG aa 0) (yZ (cY 1)))])) λaa=>(dn (oz aa (jC (cG aa 2) (d7 .Add (d7 .Add (d7 .Add (cW eP) (MV (kN kQ) (cG aa 1) (cG aa 1))) (cW eP)) (cM (C dG) [(cG aa 4),(cY 2)])))) λaa=>(dZ aa 0 (cG aa 3))))
def gR(C:Addr->List PV->M PV)(aa:Lo):M Fl:=(eJ (d7 .Add (cM (C dG) [(cG aa 0),(cY 2)]) (s9 (xr (cG aa 2)))))
theorem OM(C:Addr->List PV->M PV)(Cf:List PV->M Unit)(Cr:List PV->M PV)(W:Nat)(aa:Lo):lj C Cf Cr W aa=dn (dZ aa 1 (cM (C dS) [(cG aa 0)])) λaa=>dn (dZ aa 2 (m9 [])) λaa=>dn (fw (gT C) (gB C) (λaa=>(dF aa)) W aa) (gR C):=rfl
theorem ST(h:Sh t)(hn:1<=n)(w:List Nat){x2 x3:Option PV}:gT (CN W n).c [some (.d (dy t)),some (.d (.str w)),x2,x3,x4] σ=some (.ok (gx t == w),σ):=by
 have h1:=nK (σ:=σ) (W:=W) (n:=n) h hn
 (repeat' first|(with_reducible first|exact h1|exact gT|exact gI)|refine' sk rfl ?_|apply sk|rfl)
theorem LA(h:w ∈ [f8,iH,gf,eA,fg])(τ:List MO):yP kQ (ret (.d (.str w))) (ret (.d (.str w))) τ=some (.ok (.d (.str (oM w))),τ)/\(oM w).length<=20:=by simp only[dj,dJ,dK]at h;rcases h with rfl|rfl|rfl|rfl|rfl<;>exact⟨rfl,by decide⟩
theorem An{v:PV}(h:m σ=some (.ok v,σ')):oz aa m σ=some (.ok (.nxt aa),σ'):=eT h
theorem IF{v:PV}{r:Option (R PV×List MO)}(hl:(aa[i]?).join=some v)(h:kz v m σ=r):jC (cG aa i) m σ=r:=by simp only[jC,bnd,cG,lift,hl,Option.map,h]
theorem XI{a b:Tr}(hw:w ∈ [f8,iH,gf,eA,fg])(e2:∀τ,gZ τ (.d (dy t)) (.d (.int (-2)))=some (.d (dy a)))(e1:∀τ,gZ τ (.d (dy t)) (.d (.int (-1)))=some (.d (dy b)))(wb:WF b)(hn:3<=n)(hS:∀m,n<=m+1->jO W m b)(hx:(tx b).length<=1000000)(hc:Cl σ){R:List (List Nat)}(hR:R.length<=1000000){x3:Option PV}:
  gB (CN W n).c [some (.d (dy t)),some (.d (.str w)),some (.ref σ.length),x3,x4] (σ++[sL R])=some (.ok (.nxt [some (.d (dy a)),some (.d (.str w)),some (.ref σ.length),some (.d (dy a)),some (.d (dy b))]),σ++[sL ((eP++oM w++eP++tb (ew 4 b) (tx b))::R)]):=by
 obtain⟨m,rfl⟩:∃m,n=m+1:=⟨n -1,by exact dp hn rfl⟩;have w1:=mV (σ:=σ++[sL R]) (W:=W) (n:=m) (Sh.of wb) (dl hn rfl) (hS m (I1)) hx 2 (by exact fq rfl) hc.sL;have w1:(CN W (m+1)).c dG [.d (dy b),.d (.int 2)] (σ++[sL R])=some (.ok (.d (.str (tb (ew 4 b) (tx b)))),σ++[sL R]):=w1;refine oA (LA hw (σ++[sL R])) λsg sl=> ?_;have tl:=IC (ew 4 b) (tx b);have l21:eP.length=1:=rfl;unfold gB;refine(ij (l:=[some (.d (dy t)),some (.d (.str w)),some (.ref σ.length),some (.d (dy a)),some (.d (dy b))]) (σ':=σ++[sL R]) ?_).trans ?_
 ·simp[bnd,lift,ret,ja,E5,Mh,e1,e2,EO,qJ,eZ,MY,rH,rG]
 refine(ij (l:=[some (.d (dy t)),some (.d (.str w)),some (.ref σ.length),some (.d (dy a)),some (.d (dy b))]) (σ':=σ++[sL ((eP++oM w++eP++tb (ew 4 b) (tx b))::R)]) ?_).trans ?_
 ·have e:=qu (qu (qu (Yi (σ:=σ++[sL R]) eP) sg ((ie (.l (.a A1 A0) (.k 3000000)) [.l A0 (.k 20),.e A1 K1]) sl l21)) (Yi eP) (by rw[dI];exact(ie (.l (.a (.a A1 A0) A1) (.k 3000000)) [.l A0 (.k 20),.e A1 K1]) sl l21)) (SS (aa:=[some (.d (dy t)),some (.d (.str w)),some (.ref σ.length),some (.d (dy a)),some (.d (dy b))]) (i:=4) rfl w1) (by simp only[dI];exact(lx (.l (.a (.a (.a A3 A1) A3) A2) (.k 3000000)) [.l A0 (.k 1000000),.l A1 (.k 20),.l A2 (.a A0 (.k 2)),.e A3 K1]) hx sl tl l21);exact An (IF rfl (rj (σ:=σ) (R:=R) e hR))
 ·rfl
end
section
variable{W:Nat}
theorem ON(h:WF t)(hw:wd t= .lg w):gx t=w:=by
 match t,h with
 | .name s,_=>cases hw
 | .num i,_=>cases hw
 | .un w' t,h=>rw[oK]at hw;split at hw<;>cases hw
 | .sc w' a b,h=>cases hw;rfl
 | .mem w' t (.rng a b),h=>cases hw
 | .bin w' a b,h=>
  rw[nv]at hw;rcases j7 h.1 with q|q|q|q|q|q|q
  ·rw[t9 q]at hw;cases hw
  ·rw[re q]at hw;cases hw
  ·rw[ua q]at hw;cases hw
  ·subst q;cases hw;rfl
  ·subst q;cases hw;rfl
  ·subst q;cases hw;rfl
  ·subst q;cases hw
theorem XJ(wt:WF t)(hS:∀m,n<=m+1->jO W m t)(hn:3<=n)(hc:Cl σ){R:List (List Nat)}(hx:(tx t).length+R.flatten.length<=1000000)(hR:R.length<=1000000){x3:Option PV}:∃J,gR (CN W n).c [some (.d (dy t)),some (.d (.str w)),some (.ref σ.length),x3,x4] (σ++[sL R])=some (.ok (.ret (.d (.str (tb (ew 4 t) (tx t)++R.flatten)))),σ++J):=by obtain⟨m,rfl⟩:∃m,n=m+1:=⟨n -1,by exact dp hn rfl⟩;have w1:(CN W (m+1)).c dG [.d (dy t),.d (.int 2)] (σ++[sL R])=some (.ok (.d (.str (tb (ew 4 t) (tx t)))),σ++[sL R]):=mV (σ:=σ++[sL R]) (W:=W) (n:=m) (Sh.of wt) (dl hn rfl) (hS m (I1)) ((ie (.l A0 (.k 1000000)) [.l (.a A0 A1) (.k 1000000)]) hx) 2 (by exact fq rfl) hc.sL;have h2:=Ep (σ:=σ) (aa:=[some (.d (dy t)),some (.d (.str w)),some (.ref σ.length),x3,x4]) (i:=2) (R:=R) rfl (L6 hx) hR;exact⟨_,ui (qu (SS rfl w1) h2 (by have:=IC (ew 4 t) (tx t);exact R1 hx this))⟩
def Er(W n:Nat)(σ:List MO)(w:List Nat)(t:Tr):Prop:=∀(K:Nat)(R:List (List Nat))(x3 x4:Option PV),ht t<K->(tx t).length+R.flatten.length<=1000000->R.length+ht t<=1000000->
  ∃J,dn (fw (gT (CN W n).c) (gB (CN W n).c) (λaa=>(dF aa)) K [some (.d (dy t)),some (.d (.str w)),some (.ref σ.length),x3,x4]) (gR (CN W n).c) (σ++[sL R])=some (.ok (.ret (.d (.str (tx t++R.flatten)))),σ++J)
theorem GG{a b:Tr}(hw:w ∈ [f8,iH,gf,eA,fg])(ht':Sh t)(hls:gx t=w)(htx:tx t=tb (km w a) (tx a)++(eP++oM w++eP++tb (ew 4 b) (tx b)))(hht:ht a<ht t/\ht b<ht t)(e2:∀τ,gZ τ (.d (dy t)) (.d (.int (-2)))=some (.d (dy a)))(e1:∀τ,gZ τ (.d (dy t)) (.d (.int (-1)))=some (.d (dy b)))(wa:WF a)(wb:WF b)(hn:3<=n)
  (hA:(tx a).length<=1000000->∀m,n<=m+1->jO W m a)(hB:(tx b).length<=1000000->∀m,n<=m+1->jO W m b)(hc:Cl σ)(ih:gx a=w->Er W n σ w a):Er W n σ w t:=by
 intro K R x3 x4 hK hx hR;obtain⟨K,rfl⟩:∃q,K=q+1:=⟨K -1,by exact(lx (.e A3 (.a (.s A3 K1) K1)) [.c (.t A0 A1) (.t A2 A1),.t A1 A3]) hht hK⟩;rw[htx]at hx ⊢;simp only[dI]at hx;have l1:=qt (km w a) (tx a);have l2:=qt (ew 4 b) (tx b);have hb:=XI (W:=W) (n:=n) (σ:=σ) (R:=R) (t:=t) (x3:=x3) (x4:=x4) hw e2 e1 wb hn (hB (R4 hx l1 l2)) (R4 hx l1 l2) hc ((lx (.l A3 (.k 1000000)) [.c (.t A0 A1) (.t A2 A1),.l (.a A3 A1) (.k 1000000)]) hht hR)
 have hT:gT (CN W n).c [some (.d (dy t)),some (.d (.str w)),some (.ref σ.length),x3,x4] (σ++[sL R])=some (.ok true,σ++[sL R]):=by rw[ST ht' (dq hn rfl),hls];simp
 have hfl:((eP++oM w++eP++tb (ew 4 b) (tx b))::R).flatten=(eP++oM w++eP++tb (ew 4 b) (tx b))++R.flatten:=rfl;have hfll:((eP++oM w++eP++tb (ew 4 b) (tx b))::R).flatten.length=(eP.length+(oM w).length+eP.length+(tb (ew 4 b) (tx b)).length)+R.flatten.length:=by rw[hfl];simp only[dI]
 rw[JS (pz hT hb)];by_cases q:gx a=w
 ·have hp:km w a=0:=by
   unfold km;rw[cH]
   have h5:w≠hG:=by simp only[dj,dJ,dK]at hw;rcases hw with rfl|rfl|rfl|rfl|rfl<;>decide
   right
   rw[<-q];exact GC (Sh.of wa) (by rw[q];exact h5)
  rw[hp]at hx l1 ⊢;have htb:tb 0 (tx a)=tx a:=rfl;rw[htb]at hx l1 ⊢;refine oE (ih q K ((eP++oM w++eP++tb (ew 4 b) (tx b))::R) (some (.d (dy a))) (some (.d (dy b))) ((lx (.t A0 A3) [.c (.t A0 A1) (.t A2 A1),.t A1 (.a A3 K1)]) hht hK) ((Ke (.l (.a A0 A5) (.k 1000000)) [.l (.a (.a A0 (.a (.a (.a A1 A2) A1) A3)) A4) (.k 1000000),.e A5 (.a (.a (.a (.a A1 A2) A1) A3) A4)]) hx hfll) (by simp only[eD];exact(lx (.l (.a (.a A3 K1) A0) (.k 1000000)) [.c (.t A0 A1) (.t A2 A1),.l (.a A3 A1) (.k 1000000)]) hht hR)) λJ e=> ?_;refine⟨J,e.trans ?_⟩;rw[hfl];simp only[d6]
 ·have hp:km w a=ew 4 a:=by
   unfold km ew;have:wd a≠.lg w:=λz=>q (ON wa z);simp only[this,dK]
  rw[hp]at hx l1 ⊢;obtain⟨K,rfl⟩:∃q,K=q+1:=⟨K -1,by exact(lx (.e A3 (.a (.s A3 K1) K1)) [.c (.t A0 A1) (.t A2 A1),.t A1 (.a A3 K1)]) hht hK⟩
  have hT2:∀x3 x4 τ,gT (CN W n).c [some (.d (dy a)),some (.d (.str w)),some (.ref σ.length),x3,x4] τ=some (.ok false,τ):=by intro x3 x4 τ;rw[ST (Sh.of wa) (dq hn rfl)];simp[q]
  refine oE (XJ (W:=W) (n:=n) (σ:=σ) (w:=w) (R:=(eP++oM w++eP++tb (ew 4 b) (tx b))::R) (x3:=some (.d (dy a))) (x4:=some (.d (dy b))) wa (hA ((Kf (.l A5 (.k 1000000)) [.l (.a (.a A0 (.a (.a (.a A1 A2) A1) A3)) A4) (.k 1000000),.l A5 A0,.e A6 (.a (.a (.a (.a A1 A2) A1) A3) A4)]) hx l1 hfll)) hn hc ((Kf (.l (.a A5 A6) (.k 1000000)) [.l (.a (.a A0 (.a (.a (.a A1 A2) A1) A3)) A4) (.k 1000000),.l A5 A0,.e A6 (.a (.a (.a (.a A1 A2) A1) A3) A4)]) hx l1 hfll) (by simp only[eD];exact(lx (.l (.a A3 K1) (.k 1000000)) [.c (.t A0 A1) (.t A2 A1),.l (.a A3 A1) (.k 1000000)]) hht hR)) λJ e=> ?_;refine⟨J,(ij (rL (hT2 _ _ _))).trans (e.trans ?_)⟩
  rw[hfl];simp only[d6]
theorem OP(hn:3<=n)(w:List Nat)(hw:w ∈ [f8,iH,gf,eA,fg])(H:Nat)(hH:∀u,WF u->LV u->ht u<H->(tx u).length<=1000000->∀m,n<=m+1->jO W m u)(hc:Cl σ)(t:Tr):WF t->LV t->gx t=w->ht t<=H->Er W n σ w t:=by
 have hne:w≠hG:=by simp only[dj,dJ,dK]at hw;rcases hw with rfl|rfl|rfl|rfl|rfl<;>decide
 induction t with
 |bin w' a b iha ihb=>
  intro h hlv hls hh;simp only[ht]at hh
  have hl:w' ∈ kx:=by
   by_cases q:w' ∈ kx
   ·exact q
   ·simp only[gx,cJ q]at hls;exact absurd hls.symm hne
  simp only[gx,cH hl]at hls;subst hls;refine GG hw (Sh.of h) (by simp only[gx,cH hl]) ?_ ⟨by simp only[ht];exact IY,by simp only[ht];exact IZ⟩ (λ_=>rfl) (λ_=>rfl) h.2.1 h.2.2 hn (hH a h.2.1 hlv.1 (Cz hh)) (hH b h.2.2 hlv.2 (CA hh)) hc (λq=>iha h.2.1 hlv.1 q (G3 hh));simp only[kx,dj,dJ,dK]at hl;rcases hl with rfl|rfl|rfl<;>rfl
 |sc w' a b iha ihb=>
  intro h hlv hls hh;simp only[ht]at hh;simp only[gx]at hls;subst hls;exact GG hw (Sh.of h) rfl rfl ⟨by simp only[ht];exact IY,by simp only[ht];exact IZ⟩ (λ_=>rfl) (λ_=>rfl) h.2.1 h.2.2 hn (hH a h.2.1 hlv.1 (Cz hh)) (hH b h.2.2 hlv.2 (CA hh)) hc (λq=>iha h.2.1 hlv.1 q (G3 hh))
 |_=>intro _ _ hls;exact absurd hls.symm hne
theorem LB(h:WF t)(hl:gx t≠hG):gx t ∈ [f8,iH,gf,eA,fg]:=by
 match t,h with
 | .sc w a b,h=>rcases h.1 with rfl|rfl<;>simp[gx]
 | .bin w a b,h=>
  by_cases q:w ∈ kx
  ·simp only[gx,cH q];simp only[kx,dj,dJ,dK]at q;rcases q with rfl|rfl|rfl<;>simp
  ·simp only[gx,cJ q]at hl;exact absurd rfl hl
 | .name s,_=>exact absurd rfl hl
 | .num i,_=>exact absurd rfl hl
 | .un w t,h=>exact absurd rfl hl
 | .mem w t (.rng a b),h=>exact absurd rfl hl
theorem Ci(h:WF t)(hlv:LV t)(hl:gx t≠hG)(hn:5<=n)(hH:∀u,WF u->LV u->ht u<ht t->(tx u).length<=1000000->∀m,n<=m+3->jO W m u)(hx:(tx t).length<=1000000)(hW:ht t<W)(hW2:ht t<=1000000):jO W n t:=by
 intro σ hc;obtain⟨m,rfl⟩:∃m,n=m+2:=⟨n -2,by exact dp hn rfl⟩;have h3:=nK (σ:=σ) (W:=W) (n:=m+1) (Sh.of h) (jw hn rfl);have h3':=nK (σ:=σ) (W:=W) (n:=m) (Sh.of h) (dl hn rfl)
 have h2:(CN W (m+1)).c iA [.d (dy t)] σ=some (.ok (.d (.str (tx t))),σ):=by
  rw[yl];refine oE (OP (W:=W) (n:=m) (σ:=σ) (dl hn rfl) (gx t) (LB h hl) (ht t) (λu hu hl hh hxu m' hm=>hH u hu hl hh hxu m' (RW hm)) hc t h hlv rfl (ip _) W [] none none hW (by simpa using hx) (by simpa using hW2)) λJ e=> ?_;rw[List.flatten_nil,gD]at e;refine gH (σ₁:=σ) (junk:=J) rfl (vp ?_) rfl rfl hc;rw[OM];refine Eq.trans (ij (l:=[some (.d (dy t)),some (.d (.str (gx t))),none,none,none]) (σ':=σ) ?_) ?_
  ·have e1:=Ch (aa:=eR [PV.d (dy t)] [] 4) (i:=0) rfl h3';simp only[dZ,bnd,e1,ret];rfl
  refine Eq.trans (ij (l:=[some (.d (dy t)),some (.d (.str (gx t))),some (.ref σ.length),none,none]) (σ':=σ++[sL []]) rfl) e
 rw[j1];refine dk rfl (nD ?_) rfl;exact r5 (UU rfl h3 hl) (l0 rfl h2)
theorem XK(hW:1000<=W)(h:Nat):h<=500->∀t,Sh t->LV t->ht t<h->(tx t).length<=1000000->∀n,3 * h+5<=n->jO W n t:=by
 induction h with
 |zero=>intro _ t _ _ hh;omega
 |succ h ih=>
  intro hh5 t hs hlv hh hx n hn;have sub:∀u,Sh u->LV u->ht u<ht t->(tx u).length<=1000000->∀m,n<=m+3->jO W m u:=λu hu hlu h1 h2 m hm=>ih ((lx (.l A0 A2) [.l (.a A0 A3) A1,.g (.a A1 (.k 0)) (.a A2 A3)]) hh5 rfl) u hu hlu ((kI (.t A2 A1) [.t A0 (.a A1 K1),.t A2 A0]) hh h1) h2 m ((kI (.l (.a (.l 3 A0) (.k 5)) A2) [.l (.a (.l 3 (.a A0 K1)) (.k 5)) A1,.l A1 (.a A2 (.k 3))]) hn hm);cases t with
  |name s=>exact Ix (L9 hn hh)
  |num i=>exact Lw hlv (dq hW rfl) (L9 hn hh)
  |un w t=>
   have hl:(tx t).length<=(tx (.un w t)).length:=by have h1:=qt (ew 2 t) (tx t);have h2:=qt (ew 0 t) (tx t);simp only[tx];split<;>simp only[dI]<;>(first|exact(kI (.l A0 (.a A2 A1)) [.l A0 A1]) h1|exact(lx (.l A0 (.a (.a A2 A3) A1)) [.l A0 A1]) h2)
   exact OL hs (L9 hn hh) (λm hm=>sub t (Sh.of hs.2) hlv (by simp only[ht];exact RP) ((ie (.l A1 (.k 1000000)) [.l A0 (.k 1000000),.l A1 A0]) hx hl) m ((ie (.l A0 (.a A1 (.k 3))) [.l A0 (.a A1 (.k 2))]) hm)) hx
  |rng a b=>
   have hl:(tx a).length<=(tx (.rng a b)).length/\(tx b).length<=(tx (.rng a b)).length:=by have h1:=qt (ew 3 a) (tx a);have h2:=qt (ew 3 b) (tx b);simp only[tx,dI];exact(BB (.c (.l A0 (.a (.a A1 A4) A3)) (.l A2 (.a (.a A1 A4) A3))) [.l A0 A1,.l A2 A3]) h1 h2
   exact Ly hs (EJ hn hh) (λm hm=>sub a (Sh.of hs.1) hlv.1 (by simp only[ht];exact IY) (R3 hx hl) m hm) (λm hm=>sub b (Sh.of hs.2) hlv.2 (by simp only[ht];exact IZ) (R2 hx hl) m hm) hx
  |mem w t m=>cases m with
   |rng a b=>
    have hl:(tx t).length<=(tx (.mem w t (.rng a b))).length/\(tx (.rng a b)).length<=(tx (.mem w t (.rng a b))).length:=by have h1:=qt (ew 3 t) (tx t);simp only[tx,dI];exact(Ke (.c (.l A0 (.a (.a A1 A2) (.a (.a A3 A4) A5))) (.l (.a (.a A3 A4) A5) (.a (.a A1 A2) (.a (.a A3 A4) A5)))) [.l A0 A1]) h1
    exact Lz hs (EJ hn hh) (λm hm=>sub t (Sh.of hs.2.1) hlv.1 (by simp only[ht];exact(kI (.t A0 (.a (.ma A0 (.a (.ma A1 A2) K1)) K1)) [])) (R3 hx hl) m hm) (λm hm=>sub (.rng a b) hs.2.2 hlv.2 (by simp only[ht];exact(kI (.t (.a (.ma A0 A1) K1) (.a (.ma A2 (.a (.ma A0 A1) K1)) K1)) [])) (R2 hx hl) m hm) hx
   |_=>exact hs.elim
  |sc w a b=>
   refine Ci hs hlv ?_ (EJ hn hh) (λu hu hl h1 h2 m hm=>sub u (Sh.of hu) hl h1 h2 m hm) hx (L8 hW hh5 hh) (L7 hh5 hh);rcases hs.1 with rfl|rfl<;>(simp only[gx];decide)
  |bin w a b=>
   by_cases q:w ∈ kx
   ·refine Ci hs hlv ?_ (EJ hn hh) (λu hu hl h1 h2 m hm=>sub u (Sh.of hu) hl h1 h2 m hm) hx (L8 hW hh5 hh) (L7 hh5 hh);simp only[gx,cH q];intro z;subst z;exact absurd q (by decide)
   ·exact GE hs hlv (by simp[IB,q]) (EJ hn hh) (λu hu hl h1 h2 m hm=>sub u (Sh.of hu) hl h1 h2 m hm) hx (L8 hW hh5 hh) (L7 hh5 hh)
  |pn=>exact hs.elim
end
section
variable{W:Nat}
noncomputable def isL(c:Nat):Bool:=decide (97<=c) && decide (c<=122)
noncomputable def Az(c:Nat):Bool:=decide (48<=c) && decide (c<=57)
noncomputable def CH:List Nat:=[97,98,99,100,101,102,103,104,105,106,107,108,109,110,111,112,113,114,115,116,117,118,119,120,121,122,48,49,50,51,52,53,54,55,56,57,32,38,40,41,42,43,45,46,47,60,61,62]
noncomputable def Q9:List Nat:=[38,40,41,42,43,45,46,47,60,61,62]
theorem OQ:∀c ∈ CH,EA [c] kP=isL c:=by decide+kernel
theorem Ra:∀c ∈ CH,EA [c] vN=Az c:=by decide+kernel
theorem JT:∀c ∈ CH,EA [c] SE=(c == 32):=by decide+kernel
theorem IG:∀c ∈ Q9,EA [c] SH=true:=by decide+kernel
theorem XM:∀c ∈ CH,decide ([c]<T0)=false/\decide (WO<[c])=true\/decide ([c]<T0)=true:=by decide+kernel
theorem Rb:∀c ∈ CH,Az c=true->sW ef [c]=((c -48:Nat):Int):=by decide+kernel
theorem LC:∀c ∈ [32,41,42],sW ef [c]= -1:=by decide+kernel
end
section
variable{W:Nat}
def Yj:List Nat->Prop:=λs=>s=[]\/∃c,c ∈ CH/\s=[c]
noncomputable def xL(f:Nat->Bool):List Nat->Bool
 |c::_=>f c
 |[]=>false
theorem ww{s:List Nat}(h:Yj s)(hn:1<=n):(CN W n).c f9 [.d (.str s)] σ=some (.ok (.d (.str s)),σ):=by
 obtain⟨m,rfl⟩:∃m,n=m+1:=⟨n -1,by exact dp hn rfl⟩;rw[Bk];refine dk rfl ?_ rfl;have e1:∀x y:List Nat,gJ σ .LtE (.d (.str x)) (.d (.str y))=some (!decide (y<x)):=λ_ _=>rfl;rcases h with rfl|⟨c,hc,rfl⟩
 ·rfl
 ·rcases XM c hc with⟨h1,h2⟩|h1
  ·have g1:=e1 T0 [c];rw[h1]at g1;have g2:=e1 [c] WO;rw[h2]at g2;exact d8 vW λr=>r (ig g1) (ig g2) ⟨⟩
  ·have g1:=e1 T0 [c];rw[h1]at g1;exact d8 vW λr=>r (ig g1) ⟨⟩
theorem ne_str(x y:List Nat):gJ σ .NotEq (.d (.str x)) (.d (.str y))=some (!(x == y)):=rfl
theorem OR(hc:c ∈ CH):gJ σ .In (.d (.str [c])) nt=some (isL c):=by show some (EA [c] _)=_;rw[OQ c hc]
theorem Es(hc:c ∈ CH):gJ σ .In (.d (.str [c])) pH=some (Az c):=by show some (EA [c] _)=_;rw[Ra c hc]
theorem wx{s:List Nat}(h:Yj s)(hn:2<=n):(CN W n).c fU [.d (.str s)] σ=some (.ok (.d (.bool (xL isL s))),σ):=by
 obtain⟨m,rfl⟩:∃m,n=m+1:=⟨n -1,by exact dp hn rfl⟩;rw[v6];refine dk rfl ?_ rfl;have h1:=ww (σ:=σ) (W:=W) (n:=m) h (dl hn rfl);rcases h with rfl|⟨c,hc,rfl⟩
 ·rfl
 ·have g1:=ne_str (σ:=σ) [c] hG;have g2:=OR (σ:=σ) hc;have g3:([c] == hG)=false:=rfl;rw[g3]at g1;exact d8 w4 λr=>r (pS g3) h1 (ig g2) ⟨⟩
theorem IH{s:List Nat}(h:Yj s)(hn:3<=n):(CN W n).c fy [.d (.str s)] σ=some (.ok (.d (.bool (xL (λc=>isL c || Az c) s))),σ):=by
 obtain⟨m,rfl⟩:∃m,n=m+1:=⟨n -1,by exact dp hn rfl⟩;rw[yh];refine dk rfl ?_ rfl;have h1:=wx (σ:=σ) (W:=W) (n:=m) h (dl hn rfl);rcases h with rfl|⟨c,hc,rfl⟩
 ·have g1:=ne_str (σ:=σ) [] hG;have g3:(([]:List Nat) == hG)=true:=rfl;rw[g3]at g1;exact d8 pL λr=>r h1 (pS g3) ⟨⟩
 ·have g1:=ne_str (σ:=σ) [c] hG;have g2:=Es (σ:=σ) hc;have g3:([c] == hG)=false:=rfl;rw[g3]at g1;have h1:(CN W m).c fU [.d (.str [c])] σ=some (.ok (.d (.bool (isL c))),σ):=h1;show i6 _ σ=some (.ok (.d (.bool (isL c || Az c))),σ)
  cases q:isL c<;>rw[q]at h1
  ·exact d8 pL λr=>r h1 (pS g3) (ig g2) ⟨⟩
  ·exact d8 pL λr=>r h1 ⟨⟩
theorem tO{r:List Nat}(h:T.drop p=c::r)(hT:T.length<100000):gZ σ (.d (.str T)) (.d (.int p))=some (.d (.str [c])):=by
 have hp:p<T.length:=by have:(T.drop p).length=T.length -p:=mh;rw[h]at this;simp at this;exact(kI (.t A2 A1) [.e (.a A0 K1) (.s A1 A2)]) this
 have h7:(p:Int).natAbs<2 ^ 40:=Wg hT hp;have h8:seqIndex? (p:Int) T.length=some p:=W5 hp
 have h9:T[p]? =some c:=by have:=List.head?_drop (l:=T) (i:=p);rw[h]at this;exact this.symm
 simp only[gZ,cH h7,h8,Option.bind,h9,Option.map]
theorem Ao{k:Nat}(hp:p<=T.length)(hT:T.length<100000):wN (.d (.str T)) (some (p:Int)) (some ((p+k:Nat):Int)) σ=some (.ok (.d (.str ((T.drop p).take k))),σ):=by
 have e:cut (some (p:Int)) (some ((p+k:Nat):Int)) T=(T.drop p).take k:=by
  simp only[cut,Option.elim,clipAt_nat,qb hp];by_cases q:p+k<=T.length
  ·rw[qb q];congr 1;exact(ie (.e (.s (.a A0 A1) A0) A1) [])
  ·rw[Nat.min_eq_right (Wf q),List.take_of_length_le (by simp),List.take_of_length_le (by simp;exact(kI (.l A2 (.a A1 A0)) [.n (.l (.a A0 A1) A2)]) q)]
 show(if(cut _ _ T).length<=jP then _ else none)=_;rw[e,cH (by simp only[List.length_take,mh,jP];exact(kI (.l (.mi A2 (.s A1 A0)) (.k 4000000)) [.l A0 A1,.t A1 (.k 100000)]) hp hT)]
theorem sF{r:List Nat}(h:T.drop p=r)(hr:r≠[]):p<T.length:=by
 have:(T.drop p).length=T.length -p:=mh;rw[h]at this;have:r.length≠0:=λz=>hr (List.length_eq_zero_iff.mp z)
 omega
theorem len_str(hT:T.length<100000):jQ [.d (.str T)] σ=some (.ok (.d (.int T.length)),σ):=by show(if T.length<2 ^ 40 then _ else none)=_;rw[cH (We hT)]
theorem GH{s r:List Nat}(h:T.drop p=s++r):T.drop (p+s.length)=r:=by rw[<-List.drop_drop,h,List.drop_left]
def Ap(r:List Nat):Prop:=r=[]\/∃c r',r=c::r'/\(c=32\/c=41\/c=42)
theorem OS(h:c=32\/c=41\/c=42):c ∈ CH/\isL c=false/\Az c=false:=by rcases h with rfl|rfl|rfl<;>decide
theorem UX:∀c:Fin 128,(isL c.1 || Az c.1)=true->c.1 ∈ CH:=by decide+kernel
theorem SU(h:(isL c || Az c)=true)(hc:c<128):c ∈ CH:=UX ⟨c,hc⟩ h
theorem xn(h:isL c=true):c ∈ CH:=SU (by rw[h];rfl) (by simp only[isL,ej,decide_eq_true_eq]at h;exact Nat.lt_of_le_of_lt h.2 (by decide))
theorem wy(h:Az c=true):c ∈ CH:=SU (by rw[h,Bool.or_true]) (by simp only[Az,ej,decide_eq_true_eq]at h;exact Nat.lt_of_le_of_lt h.2 (by decide))
def nT(C:Addr->List PV->M PV)(aa:Lo):M Bool:=(uN [(dz .Lt (cG aa 3) (cM jQ [(cG aa 0)])),(LH [(sO (cM (C fy) [(dP (cG aa 0) (cG aa 3))])),(dz .Eq (dP (cG aa 0) (cG aa 3)) (cW EC))])])
def Zl(C:Addr->List PV->M PV)(aa:Lo):Cm Bool:=(jb [(cV .Lt (cF aa 3) (cI jQ [(cF aa 0)])),(pi [(gv (cI (C fy) [(dr (cF aa 0) (cF aa 3))])),(cV .Eq (dr (cF aa 0) (cF aa 3)) (cK EC))])])
theorem XN:nT C aa=fG (Zl C aa):=rfl
def nB(C:Addr->List PV->M PV)(aa:Lo):M Fl:=(dn (eS (uN [(dz .Eq (dP (cG aa 0) (cG aa 3)) (cW EC)),(Sm (sO (cM (C fy) [(lG (cG aa 0) (some (d7 .Add (cG aa 3) (cY 1))) (some (d7 .Add (cG aa 3) (cY 2))))])))]) cU (dF aa)) λaa=>(dn (so aa 4 .Add (cM (C f9) [(dP (cG aa 0) (cG aa 3))])) λaa=>(so aa 3 .Add (cY 1))))
def Zm(C:Addr->List PV->M PV)(aa:Lo):Cm Fl:=(.seq (dm (jb [(cV .Eq (dr (cF aa 0) (cF aa 3)) (cK EC)),(oB (gv (cI (C fy) [(oH (cF aa 0) (some (dT .Add (cF aa 3) (cL 1))) (some (dT .Add (cF aa 3) (cL 2))))])))]) (.ask cU) (cZ aa)) λaa=>(.seq (oC aa 4 .Add (cI (C f9) [(dr (cF aa 0) (cF aa 3))])) λaa=>(oC aa 3 .Add (cL 1))))
theorem Zn:nB C aa=fG (Zm C aa):=rfl
def nR(C:Addr->List PV->M PV)(aa:Lo):M Fl:=(dn (eS (sO (cM (C il) [(cG aa 4)])) (eJ (f7 [(f7 [(cW jc),(cG aa 4),(cG aa 2)]),(cG aa 3)])) (dF aa)) λaa=>(eJ (f7 [(f7 [(cW fk),(cG aa 4),(cG aa 2)]),(cG aa 3)])))
def Zo(C:Addr->List PV->M PV)(aa:Lo):Cm Fl:=(.seq (dm (gv (cI (C il) [(cF aa 4)])) (df (eo [(eo [(cK jc),(cF aa 4),(cF aa 2)]),(cF aa 3)])) (cZ aa)) λaa=>(df (eo [(eo [(cK fk),(cF aa 4),(cF aa 2)]),(cF aa 3)])))
theorem Zp:nR C aa=fG (Zo C aa):=rfl
theorem LD(C:Addr->List PV->M PV)(Cf:List PV->M Unit)(Cr:List PV->M PV)(W:Nat)(aa:Lo):mJ C Cf Cr W aa=dn (dZ aa 3 (cG aa 1)) λaa=>dn (dZ aa 4 (cW hG)) λaa=>dn (fw (nT C) (nB C) (λaa=>(dF aa)) W aa) (nR C):=rfl
noncomputable def Et(T:List Nat)(p q:Nat)(nm:List Nat):Lo:=[some (.d (.str T)),some (.d (.int p)),some (.d (.int 1)),some (.d (.int q)),some (.d (.str nm))]
theorem XQ{q:Nat}{nm:List Nat}(hT:T.length<100000)(hq:q<=T.length)(h:Ap (T.drop q))(hn:3<=n):nT (CN W n).c (Et T p q nm) σ=some (.ok false,σ):=by
 have hl:=len_str (σ:=σ) hT;rcases h with h|⟨c,r,h,hc⟩
 ·have:¬ q<T.length:=by
   have:=dN List.length h;simp at this;exact R5 this
  simp[nT,Et,bnd,lift,ret,ja,uN,hl,ir,gJ,this]
 ·have h1:=sF h (by simp);refine wB (OS hc) λc1 c2 c3=> ?_;have h2:=tO (σ:=σ) h hT;have h3:=IH (σ:=σ) (W:=W) (n:=n) (s:=[c]) (.inr ⟨c,c1,rfl⟩) hn
  have h4:gJ σ .Eq (.d (.str [c])) (.d (.str EC))=some false:=by rw[gI];rcases hc with rfl|rfl|rfl<;>rfl
  simp only[xL,c2,c3,Bool.or_false]at h3
  have h5:gJ σ .Lt (.d (.int q)) (.d (.int T.length))=some true:=by show some (decide _)=_;rw[eE (yI h1)]
  exact fX XN λr=>r hl (ig h5) (dC h2) h3 (dC h2) (ig h4) ⟨⟩
theorem XR{q:Nat}{r nm:List Nat}(hT:T.length<100000)(h:T.drop q=c::r)(hc:isL c=true)(hn:3<=n)(hm:nm.length<100000):nT (CN W n).c (Et T p q nm) σ=some (.ok true,σ)/\nB (CN W n).c (Et T p q nm) σ=some (.ok (.nxt (Et T p (q+1) (nm++[c]))),σ):=by
 have hl:=len_str (σ:=σ) hT;have h1:=sF h (by simp);have c1:=xn hc;have h2:=tO (σ:=σ) h hT;have h3:=IH (σ:=σ) (W:=W) (n:=n) (s:=[c]) (.inr ⟨c,c1,rfl⟩) hn;have h6:=ww (σ:=σ) (W:=W) (n:=n) (s:=[c]) (.inr ⟨c,c1,rfl⟩) (dq hn rfl);simp only[xL,hc,Bool.true_or]at h3
 have h5:gJ σ .Lt (.d (.int q)) (.d (.int T.length))=some true:=by show some (decide _)=_;rw[eE (yI h1)]
 have h4:gJ σ .Eq (.d (.str [c])) (.d (.str EC))=some false:=by
  rw[gI]
  congr 1
  simp only[isL,ej,decide_eq_true_eq]at hc;rw[gO];intro z;simp only[EC,List.cons.injEq,and_true]at z;exact(lE (.f) [.c (.l (.k 97) A0) (.l A0 (.k 122)),.e A0 (.k 95)]) hc z
 have h7:uP .Add (.d (.str nm)) (.d (.str [c]))=some (.d (.str (nm++[c]))):=by show(PB .Add (.str nm) (.str [c])).map _=_;simp only[PB,addD_ss];rw[cH (by simp only[List.length_singleton,jP];exact(lx (.l (.a A0 A3) A2) [.t A0 A1,.g (.a A1 A3) (.a A2 K1)]) hm rfl)];rfl
 have h8:uP .Add (.d (.int q)) (.d (.int 1))=some (.d (.int ((q+1:Nat)))):=rfl
 constructor
 ·exact fX XN λr=>r hl (ig h5) (dC h2) h3 ⟨⟩
 ·exact fX Zn λr=>r (dC h2) (ig h4) (dC h2) h6 (px h7) (px h8) ⟨⟩
end
section
variable{W:Nat}
theorem UY(hT:T.length<100000)(hn:3<=n){r:List Nat}(hr:Ap r)(w:List Nat):∀(q:Nat)(nm:List Nat)(K:Nat),w.all isL=true->q<=T.length->T.drop q=w++r->w.length<K->nm.length+w.length<100000->
  fw (nT (CN W n).c) (nB (CN W n).c) (λaa=>(dF aa)) K (Et T p q nm) σ=some (.ok (.nxt (Et T p (q+w.length) (nm++w))),σ):=by
 induction w with
 |nil=>
  intro q nm K _ hq h hK hl;obtain⟨K,rfl⟩:∃q,K=q+1:=⟨K -1,by exact Pk hK⟩;rw[rL (XQ hT hq (by rw[h];exact hr) hn)];simp[Et,ret]
 |cons c w ih=>
  intro q nm K hw hq h hK hl;simp only[hP,ej]at hw;simp only[eD]at hK hl;obtain⟨K,rfl⟩:∃q,K=q+1:=⟨K -1,by exact Mb hK⟩;have hlt:=sF h (by simp);refine oA (XR (σ:=σ) (W:=W) (p:=p) (nm:=nm) hT h hw.1 hn ((ie (.t A0 (.k 100000)) [.t (.a A0 (.a A1 K1)) (.k 100000)]) hl)) λs1 s2=> ?_;rw[pz s1 s2,ih (q+1) (nm++[c]) K hw.2 (BD hlt) (by rw[<-List.tail_drop,h];rfl) (IX hK) (by simp;exact(ie (.t (.a (.a A0 K1) A1) (.k 100000)) [.t (.a A0 (.a A1 K1)) (.k 100000)]) hl)];simp[Nat.add_assoc,Nat.add_comm 1]
theorem II{b:Bool}(hb:AD σ w jl=some b)(hn:1<=n):(CN W n).c il [.d (.str w)] σ=some (.ok (.d (.bool b)),σ):=by obtain⟨m,rfl⟩:∃m,n=m+1:=⟨n -1,by exact dp hn rfl⟩;rw[zU];refine dk rfl ?_ rfl;have:gJ σ .In (.d (.str w)) jl=some b:=hb;exact d8 AO λr=>r (ig this) ⟨⟩
theorem OT(hT:T.length<100000)(hn:4<=n){r:List Nat}(hr:Ap r)(hw:w.all isL=true)(h:T.drop p=w++r)(hp:p<=T.length)(hW:100000<=W){b:Bool}(hb:AD σ w jl=some b):(CN W n).c jn [.d (.str T),.d (.int p),.d (.int 1)] σ=some (.ok (.d (.tup [.tup [.str (if b=true then jc else fk),.str w,.int 1],.int ((p+w.length:Nat))])),σ):=by
 obtain⟨m,rfl⟩:∃m,n=m+1:=⟨n -1,by exact dp hn rfl⟩;rw[Bl];refine dk rfl ?_ rfl;rw[LD]
 have hwl:w.length<=T.length:=by have:=dN List.length h;simp at this;exact(lx (.l A2 A1) [.l A0 A1,.e (.s A1 A0) (.a A2 A3)]) hp this
 have hl:=UY (σ:=σ) (W:=W) (n:=m) (p:=p) hT (dl hn rfl) hr w p [] W hw hp h ((kI (.t A2 A1) [.t A0 (.k 100000),.l (.k 100000) A1,.l A2 A0]) hT hW hwl) (by simp;exact(ie (.t A1 (.k 100000)) [.t A0 (.k 100000),.l A1 A0]) hT hwl);rw[qd]at hl;have hrs:=II (W:=W) (n:=m) hb (dl hn rfl);refine vp ?_;refine Eq.trans (ij (l:=[some (.d (.str T)),some (.d (.int p)),some (.d (.int 1)),some (.d (.int p)),none]) (σ':=σ) rfl) ?_;refine Eq.trans (ij (l:=Et T p p []) (σ':=σ) rfl) ?_;refine Eq.trans (ij hl) ?_;cases b<;>exact fX Zp λr=>r hrs ⟨⟩
def rT(aa:Lo):M Bool:=(dz .Lt (cG aa 6) (cM jQ [(cG aa 0)]))
def Zq(aa:Lo):Cm Bool:=(cV .Lt (cF aa 6) (cI jQ [(cF aa 0)]))
theorem Zr:rT aa=fG (Zq aa):=rfl
def rB(C:Addr->List PV->M PV)(aa:Lo):M Fl:=(dn (dZ aa 7 (MU (kN iM) (cM (C f9) [(dP (cG aa 0) (cG aa 6))]))) λaa=>(dn (eS (uN [(dz .Eq (dP (cG aa 0) (cG aa 6)) (cW EC)),(dz .Gt (cG aa 5) (cY 0))]) cU (dF aa)) λaa=>(dn (eS (LH [(dz .Lt (cG aa 7) (cY 0)),(uN [(dz .LtE (cG aa 2) (cY 10)),(dz .GtE (cG aa 7) (cY 10))])]) (E8 aa) (dF aa)) λaa=>(dn (eS (dz .GtE (cG aa 7) (cG aa 2)) cU (dF aa)) λaa=>(dn (eS (dz .Eq (cG aa 5) (kN gm)) cU (dF aa)) λaa=>(dn (dZ aa 4 (d7 .Add (d7 .Mult (cG aa 4) (cG aa 2)) (cG aa 7))) λaa=>(dn (so aa 5 .Add (cY 1)) λaa=>(so aa 6 .Add (cY 1)))))))))
def Zs(C:Addr->List PV->M PV)(aa:Lo):Cm Fl:=(.seq (dA aa 7 (TE (lX iM) (cI (C f9) [(dr (cF aa 0) (cF aa 6))]))) λaa=>(.seq (dm (jb [(cV .Eq (dr (cF aa 0) (cF aa 6)) (cK EC)),(cV .Gt (cF aa 5) (cL 0))]) (.ask cU) (cZ aa)) λaa=>(.seq (dm (pi [(cV .Lt (cF aa 7) (cL 0)),(jb [(cV .LtE (cF aa 2) (cL 10)),(cV .GtE (cF aa 7) (cL 10))])]) (Na aa) (cZ aa)) λaa=>(.seq (dm (cV .GtE (cF aa 7) (cF aa 2)) (.ask cU) (cZ aa)) λaa=>(.seq (dm (cV .Eq (cF aa 5) (lX gm)) (.ask cU) (cZ aa)) λaa=>(.seq (dA aa 4 (dT .Add (dT .Mult (cF aa 4) (cF aa 2)) (cF aa 7))) λaa=>(.seq (oC aa 5 .Add (cL 1)) λaa=>(oC aa 6 .Add (cL 1)))))))))
theorem XS:rB C aa=fG (Zs C aa):=rfl
def rR(aa:Lo):M Fl:=(dn (eS (dz .Eq (cG aa 5) (cY 0)) cU (dF aa)) λaa=>(eJ (f7 [(cG aa 4),(cG aa 5),(cG aa 6)])))
def Zt(aa:Lo):Cm Fl:=(.seq (dm (cV .Eq (cF aa 5) (cL 0)) (.ask cU) (cZ aa)) λaa=>(df (eo [(cF aa 4),(cF aa 5),(cF aa 6)])))
theorem Zu:rR aa=fG (Zt aa):=rfl
theorem LE(C:Addr->List PV->M PV)(Cf:List PV->M Unit)(Cr:List PV->M PV)(W:Nat)(aa:Lo):lh C Cf Cr W aa=dn (dZ aa 4 (cY 0)) λaa=>dn (dZ aa 5 (cY 0)) λaa=>dn (dZ aa 6 (cG aa 1)) λaa=>dn (fw rT (rB C) (λaa=>(dF aa)) W aa) rR:=rfl
noncomputable def By(T:List Nat)(p v cnt q:Nat)(x7:Option PV):Lo:=[some (.d (.str T)),some (.d (.int p)),some (.d (.int 10)),some (.d (.int 1)),some (.d (.int v)),some (.d (.int cnt)),some (.d (.int q)),x7]
theorem SV{v cnt q:Nat}{x7:Option PV}(hT:T.length<100000):rT (By T p v cnt q x7) σ=some (.ok (decide (q<T.length)),σ):=by
 have hl:=len_str (σ:=σ) hT
 have h5:gJ σ .Lt (.d (.int q)) (.d (.int T.length))=some (decide (q<T.length)):=by
  show some (decide _)=_
  congr 1
  by_cases z:q<T.length
  ·rw[eE z,eE (yI z)]
  ·rw[ft z,ft (I0 z)]
 exact fX Zr λr=>r hl (ig h5) ⟨⟩
theorem UZ{v cnt q:Nat}{r:List Nat}{x7:Option PV}(hT:T.length<100000)(h:T.drop q=c::r)(hc:c=32\/c=41\/c=42)(hn:1<=n):∃x7',rB (CN W n).c (By T p v cnt q x7) σ=some (.ok (.brk (By T p v cnt q x7')),σ):=by
 refine wB (OS hc) λc1 c2 c3=> ?_;have h2:=tO (σ:=σ) h hT;have h6:=ww (σ:=σ) (W:=W) (n:=n) (s:=[c]) (.inr ⟨c,c1,rfl⟩) (dq hn rfl);have hf:sW ef [c]= -1:=LC c (by rcases hc with rfl|rfl|rfl<;>decide)
 have hg:iM= .d (.str ef):=rfl
 have h4:gJ σ .Eq (.d (.str [c])) (.d (.str EC))=some false:=by rw[gI];rcases hc with rfl|rfl|rfl<;>rfl
 have h5:gJ σ .Lt (.d (.int (sW ef [c]))) (.d (.int 0))=some true:=by rw[hf];rfl
 refine⟨some (.d (.int (sW ef [c]))),?_⟩;exact fX XS λr=>r (Nf (fX rfl λr=>r (dC h2) h6 ⟨⟩)) (dC h2) (ig h4) (ig h5) ⟨⟩
theorem U4{v cnt q:Nat}{r:List Nat}{x7:Option PV}(hT:T.length<100000)(h:T.drop q=c::r)(hc:Az c=true)(hn:1<=n)(hv:v<100000)(hcn:cnt<80):∃x7',rB (CN W n).c (By T p v cnt q x7) σ=some (.ok (.nxt (By T p (v * 10+(c -48)) (cnt+1) (q+1) x7')),σ):=by
 have c1:=wy hc;have h2:=tO (σ:=σ) h hT;have h6:=ww (σ:=σ) (W:=W) (n:=n) (s:=[c]) (.inr ⟨c,c1,rfl⟩) (dq hn rfl);have hf:=Rb c c1 hc;have hg:iM= .d (.str ef):=rfl;have hm:gm= .d (.int 80):=rfl;simp only[Az,ej,decide_eq_true_eq]at hc;obtain⟨d,hd,hd9⟩:∃d,d=c -48/\d<10:=⟨_,rfl,by exact(lE (.t (.s A0 (.k 48)) (.k 10)) [.c (.l (.k 48) A0) (.l A0 (.k 57))]) hc⟩;rw[<-hd]at hf ⊢
 have h4:gJ σ .Eq (.d (.str [c])) (.d (.str EC))=some false:=by
  rw[gI]
  congr 1
  rw[gO];intro z;simp only[EC,List.cons.injEq,and_true]at z;exact(lE (.f) [.c (.l (.k 48) A0) (.l A0 (.k 57)),.e A0 (.k 95)]) hc z
 have h5:gJ σ .Lt (.d (.int (sW ef [c]))) (.d (.int 0))=some false:=by rw[hf];show some (decide _)=_;rw[ft (Wj hd hd9)]
 have h7:gJ σ .LtE (.d (.int 10)) (.d (.int 10))=some true:=rfl;have h8:gJ σ .GtE (.d (.int (sW ef [c]))) (.d (.int 10))=some false:=by rw[hf];show some (decide _)=_;rw[ft (Wi hd hd9)]
 have h9:gJ σ .Eq (.d (.int cnt)) gm=some false:=by
  rw[hm];show some (_ == _)=_
  congr 1
  rw[gO];exact(lE (.n (.E (.c A0) (.k 80))) [.t A0 (.k 80)]) hcn
 have b1:ly .Mult (.d (.int v)) (.d (.int 10)) σ=some (.ok (.d (.int ((v * 10:Nat)))),σ):=by show(sU .Mult (.int v) (.int 10)).map _=_;simp only[sU,addD_ss,mulD_ii];rw[cH ⟨by exact Wh hv,by decide⟩];rfl
 have b2:ly .Add (.d (.int ((v * 10:Nat)))) (.d (.int (sW ef [c]))) σ=some (.ok (.d (.int ((v * 10+d:Nat)))),σ):=by rw[hf];rfl
 have a1:uP .Add (.d (.int cnt)) (.d (.int 1))=some (.d (.int ((cnt+1:Nat)))):=rfl;have a2:uP .Add (.d (.int q)) (.d (.int 1))=some (.d (.int ((q+1:Nat)))):=rfl;refine⟨some (.d (.int (sW ef [c]))),?_⟩;exact fX XS λr=>r (Nf (fX rfl λr=>r (dC h2) h6 ⟨⟩)) (dC h2) (ig h4) (ig h5) (ig h7) (ig h8) (ig h8) (ig h9) b1 b2 (px a1) (px a2) ⟨⟩
noncomputable def dg(c:Nat):Nat:=c -48
noncomputable def Eu(v:Nat):List Nat->Nat
 |[]=>v
 |d::r=>Eu (v * 10+d) r
theorem GI(v:Nat):Eu v []=v:=rfl
theorem uj(v d:Nat)(r:List Nat):Eu v (d::r)=Eu (v * 10+d) r:=rfl
theorem XT{v cnt q K:Nat}{x7:Option PV}(hT:T.length<100000)(hn:1<=n){r:List Nat}(hr:Ap r)(h:T.drop q=r):∃x7',fw rT (rB (CN W n).c) (λaa=>(dF aa)) (K+1) (By T p v cnt q x7) σ=some (.ok (.nxt (By T p v cnt q x7')),σ):=by
 have ht:=SV (σ:=σ) (p:=p) (v:=v) (cnt:=cnt) (q:=q) (x7:=x7) hT;rcases hr with hr|⟨c,r',hr,hc⟩
 ·have:decide (q<T.length)=false:=by
   have:=dN List.length h;rw[hr]at this;simp at this;exact ft (R5 this)
  rw[this]at ht;exact⟨x7,rL ht⟩
 ·rw[hr]at h;rw[eE (sF h (by simp))]at ht;exact(UZ hT h hc hn).elim λ_ hb=>⟨_,Ng ht hb⟩
theorem U5(hT:T.length<100000)(hn:1<=n){r:List Nat}(hr:Ap r)(ds:List Nat):∀(v cnt q:Nat)(x7:Option PV)(K:Nat),ds.all Az=true->q<=T.length->T.drop q=ds++r->ds.length<K->cnt+ds.length<=2->(ds.length=2/\v=0\/ds.length=1/\v<10\/ds.length=0)->
  ∃x7',fw rT (rB (CN W n).c) (λaa=>(dF aa)) K (By T p v cnt q x7) σ=some (.ok (.nxt (By T p (Eu v (ds.map dg)) (cnt+ds.length) (q+ds.length) x7')),σ):=by
 induction ds with
 |nil=>
  intro v cnt q x7 K _ hq h hK hl hv;obtain⟨K,rfl⟩:∃q,K=q+1:=⟨K -1,by exact Pk hK⟩;exact XT hT hn hr h
 |cons c ds ih=>
  intro v cnt q x7 K hw hq h hK hl hv;simp only[hP,ej]at hw;simp only[eD]at hK hl;obtain⟨K,rfl⟩:∃q,K=q+1:=⟨K -1,by exact Mb hK⟩;have hlt:=sF h (by simp);have ht:=SV (σ:=σ) (p:=p) (v:=v) (cnt:=cnt) (q:=q) (x7:=x7) hT;rw[eE hlt]at ht;simp only[eD]at hv;have hv2:v<100:=(ie (.t A1 (.k 100)) [.o (.c (.e (.a A0 K1) (.k 2)) (.e A1 (.k 0))) (.o (.c (.e (.a A0 K1) K1) (.t A1 (.k 10))) (.e (.a A0 K1) (.k 0)))]) hv;refine oE (U4 (σ:=σ) (W:=W) (n:=n) (p:=p) (v:=v) (cnt:=cnt) (x7:=x7) hT h hw.1 hn (mq hv2 rfl) ((ie (.t A0 (.k 80)) [.l (.a A0 (.a A1 K1)) (.k 2)]) hl)) λx8 hb=> ?_
  have hd:c -48<10:=by have:=hw.1;simp only[Az,ej,decide_eq_true_eq]at this;omega
  refine oE (ih (v * 10+(c -48)) (cnt+1) (q+1) x8 K hw.2 (BD hlt) (by rw[<-List.tail_drop,h];rfl) (IX hK) ((ie (.l (.a (.a A0 K1) A1) (.k 2)) [.l (.a A0 (.a A1 K1)) (.k 2)]) hl) ((lx (.o (.c (.e A1 (.k 2)) (.e (.a (.r A2 10) (.s A3 (.k 48))) (.k 0))) (.o (.c (.e A1 K1) (.t (.a (.r A2 10) (.s A3 (.k 48))) (.k 10))) (.e A1 (.k 0)))) [.l (.a A0 (.a A1 K1)) (.k 2),.o (.c (.e (.a A1 K1) (.k 2)) (.e A2 (.k 0))) (.o (.c (.e (.a A1 K1) K1) (.t A2 (.k 10))) (.e (.a A1 K1) (.k 0))),.t (.s A3 (.k 48)) (.k 10)]) hl hv hd)) λx9 e=> ?_;have e1:cnt+1+ds.length=cnt+(c::ds).length:=by simp only[eD];exact Ma
  have e2:q+1+ds.length=q+(c::ds).length:=by simp only[eD];exact Ma
  have e3:Eu v ((c::ds).map dg)=Eu (v * 10+dg c) (ds.map dg):=by rw[jg,uj]
  have e4:c -48=dg c:=rfl;rw[e4,e1,e2,<-e3]at e;rw[e4]at hb;exact⟨x9,(pz ht hb).trans e⟩
theorem U6(hT:T.length<100000)(hn:2<=n){ds r:List Nat}(hr:Ap r)(hw:ds.all Az=true)(h:T.drop p=ds++r)(hp:p<=T.length)(hW:10<=W)(h0:0<ds.length)(h2:ds.length<=2):(CN W n).c iV [.d (.str T),.d (.int p),.d (.int 10),.d (.int 1)] σ=some (.ok (.d (.tup [.int (Eu 0 (ds.map dg)),.int ds.length,.int ((p+ds.length:Nat))])),σ):=by
 obtain⟨m,rfl⟩:∃m,n=m+1:=⟨n -1,by exact dp hn rfl⟩;rw[yi];refine dk rfl ?_ rfl;rw[LE];refine oE (U5 (σ:=σ) (W:=W) (n:=m) (p:=p) hT (dl hn rfl) hr ds 0 0 p none W hw hp h ((ie (.t A1 A0) [.l (.k 10) A0,.t (.k 0) A1,.l A1 (.k 2)]) hW h0 h2) ((lE (.l (.a (.k 0) A0) (.k 2)) [.t (.k 0) A0,.l A0 (.k 2)]) h0 h2) ((lE (.o (.c (.e A0 (.k 2)) (.e (.k 0) (.k 0))) (.o (.c (.e A0 K1) (.t (.k 0) (.k 10))) (.e A0 (.k 0)))) [.t (.k 0) A0,.l A0 (.k 2)]) h0 h2)) λx7 hl=> ?_;rw[Nat.zero_add]at hl;refine vp ?_;refine Eq.trans (ij (l:=[some (.d (.str T)),some (.d (.int p)),some (.d (.int 10)),some (.d (.int 1)),some (.d (.int 0)),none,none,none]) (σ':=σ) rfl) ?_
 refine Eq.trans (ij (l:=[some (.d (.str T)),some (.d (.int p)),some (.d (.int 10)),some (.d (.int 1)),some (.d (.int 0)),some (.d (.int 0)),none,none]) (σ':=σ) rfl) ?_;refine Eq.trans (ij (l:=By T p 0 0 p none) (σ':=σ) rfl) ?_;refine Eq.trans (ij hl) ?_
 have h9:gJ σ .Eq (.d (.int ds.length)) (.d (.int 0))=some false:=by
  show some (_ == _)=_
  congr 1
  rw[gO];exact(lE (.n (.E (.c A0) (.k 0))) [.t (.k 0) A0,.l A0 (.k 2)]) h0 h2
 generalize p+ds.length=q at *;exact fX Zu λr=>r (ig h9) ⟨⟩
end
section
variable{W:Nat}
theorem IJ(h1:48<=c)(h2:c<=57):Az c=true:=by unfold Az;rw[eE h1,eE h2];rfl
theorem Aq(hi:i<100):Eu 0 ((qr i).map dg)=i/\(qr i).all Az=true/\0<(qr i).length:=by
 unfold qr;have hg:∀x,dg (48+x)=x:=λx=>by unfold dg;exact(lE (.e (.s (.a (.k 48) A0) (.k 48)) A0) [])
 split
 ·refine⟨?_,?_,by simp⟩
  ·rw[jg,List.map_nil,uj,GI,hg];exact(lE (.e (.a (.l 0 (.k 10)) A0) A0) [])
  ·simp only[hP,List.all_nil,Bool.and_true];exact IJ (by omega) (by omega)
 ·refine⟨?_,?_,by simp⟩
  ·rw[jg,jg,List.map_nil,uj,uj,GI,hg,hg];exact Wn
  ·simp only[hP,List.all_nil,Bool.and_true,ej];exact⟨IJ (by omega) (by omega),IJ (Wm) (Wl)⟩
theorem GJ{r:List Nat}(h:Ap r):Yj (r.take 1)/\xL (λc=>isL c || Az c) (r.take 1)=false/\((r.take 1) == Nw)=false/\((r.take 1) == AL)=false/\((r.take 1) == Nv)=false/\((r.take 1) == EC)=false:=by
 rcases h with rfl|⟨c,r',rfl,hc⟩
 ·exact⟨.inl rfl,rfl,rfl,rfl,rfl,rfl⟩
 ·rcases hc with rfl|rfl|rfl
  ·exact⟨.inr ⟨_,by decide,rfl⟩,rfl,rfl,rfl,rfl,rfl⟩
  ·exact⟨.inr ⟨_,by decide,rfl⟩,rfl,rfl,rfl,rfl,rfl⟩
  ·exact⟨.inr ⟨_,by decide,rfl⟩,rfl,rfl,rfl,rfl,rfl⟩
theorem Rc(T:List Nat)(hT:T.length<100000)(lo hi:Int):∃s,wN (.d (.str T)) (some lo) (some hi) σ=some (.ok (.d (.str s)),σ):=by refine⟨cut (some lo) (some hi) T,?_⟩;show(if(cut _ _ T).length<=jP then _ else none)=_;rw[cH];simp only[cut,List.length_take,mh,jP];exact(kI (.l (.mi (.s A1 A2) (.s A0 A2)) (.k 4000000)) [.t A0 (.k 100000)]) hT
theorem Re(hT:T.length<100000)(hn:2<=n)(hr:Ap (T.drop p))(hp:p<=T.length):(CN W n).c lY [.d (.str T),.d (.int p),.d (.int 1)] σ=some (.ok (.d (.tup [.int 0,.int p])),σ):=by obtain⟨m,rfl⟩:∃m,n=m+1:=⟨n -1,by exact dp hn rfl⟩;rw[F8];refine dk rfl ?_ rfl;refine LO (GJ hr) λt1 _ _ _ t2 _=> ?_;have s1:=Ao (σ:=σ) (T:=T) (p:=p) (k:=1) hp hT;have h1:=ww (σ:=σ) (W:=W) (n:=m) t1 (dl hn rfl);have b1:ly .Add (.d (.int p)) (.d (.int 1)) σ=some (.ok (.d (.int ((p+1:Nat)))),σ):=rfl;have g1:=ne_str (σ:=σ) ((T.drop p).take 1) Nv;rw[t2]at g1;generalize p+1=p1 at *;generalize (T.drop p).take 1=X at *;exact d8 HT λr=>r b1 s1 h1 (pS t2) ⟨⟩
theorem OU(hi:i<100)(hT:T.length<100000)(hn:4<=n){r:List Nat}(hr:Ap r)(h:T.drop p=qr i++r)(hp:p<=T.length)(hW:10<=W):(CN W n).c iw [.d (.str T),.d (.int p),.d (.int 1)] σ=some (.ok (.d (.tup [.tup [.str ic,.int i,.int 1],.int ((p+(qr i).length:Nat))])),σ):=by
 obtain⟨m,rfl⟩:∃m,n=m+1:=⟨n -1,by exact dp hn rfl⟩;rw[yj];refine dk rfl ?_ rfl;refine wB (Aq hi) λv1 v2 v3=> ?_;have h1:=U6 (σ:=σ) (W:=W) (n:=m) hT (dl hn rfl) hr v2 h hp hW v3 (Eo i);rw[v1]at h1;have hd:=GH h
 have hq:p+(qr i).length<=T.length:=by have:=dN List.length h;simp at this;exact(lx (.l (.a A0 A2) A1) [.l A0 A1,.e (.s A1 A0) (.a A2 A3)]) hp this
 obtain⟨q,hqq⟩:∃q,q=p+(qr i).length:=⟨_,rfl⟩;rw[<-hqq]at h1 hd hq ⊢;have hr':Ap (T.drop q):=by rw[hd];exact hr
 refine LO (GJ hr') λt1 t2 t3 t4 t5 t6=> ?_;have s1:=Ao (σ:=σ) (T:=T) (p:=q) (k:=1) hq hT;have b1:ly .Add (.d (.int q)) (.d (.int 1)) σ=some (.ok (.d (.int ((q+1:Nat)))),σ):=rfl;have b2:ly .Add (.d (.int q)) (.d (.int 2)) σ=some (.ok (.d (.int ((q+2:Nat)))),σ):=rfl;have ep:=IH (σ:=σ) (W:=W) (n:=m) t1 (dl hn rfl);rw[t2]at ep;have pw:=Re (σ:=σ) (W:=W) (n:=m) hT (dl hn rfl) hr' hq;refine oE (Rc (σ:=σ) T hT ((q+1:Nat)) ((q+2:Nat))) λZ hZ=> ?_;generalize (T.drop q).take 1=X at *;have e1:gJ σ .Eq (.d (.str X)) (.d (.str Nw))=some false:=by rw[gI,t3]
 have e2:gJ σ .Eq (.d (.str X)) (.d (.str AL))=some false:=by rw[gI,t4]
 have e3:gJ σ .Eq (.d (.str X)) (.d (.str EC))=some false:=by rw[gI,t6]
 have e4:=gI σ Z iR;have e5:gJ σ .Gt (.d (.int q)) (.d (.int q))=some false:=by show some (decide _)=_;simp
 have e6:gJ σ .Lt (.d (.int 0)) (.d (.int 0))=some false:=rfl;have p1:ly .Pow (.d (.int 10)) (.d (.int 0)) σ=some (.ok (.d (.int 1)),σ):=rfl
 have m1:ly .Mult (.d (.int i)) (.d (.int 1)) σ=some (.ok (.d (.int i)),σ):=by show(sU .Mult (.int i) (.int 1)).map _=_;simp only[sU,addD_ss,mulD_ii];rw[cH ⟨by exact Wk hi v1,by decide⟩,Int.mul_one];rfl
 cases q9:(Z == iR)<;>rw[q9]at e4
 ·refine d8 tH λr=> ?_;exact r h1 b1 s1 (mT t3) b1 s1 (mT t4) pw (ig e6) b1 b2 hZ (mT q9) b1 s1 ep b1 s1 (mT t6) p1 m1 ⟨⟩
 ·refine d8 tH λr=> ?_;exact r h1 b1 s1 (mT t3) b1 s1 (mT t4) pw (ig e6) b1 b2 hZ (mT q9) (ig e5) b1 s1 ep b1 s1 (mT t6) p1 m1 ⟨⟩
end
section
variable{W:Nat}
def uJ:List (List Nat):=[BU,jD,gC,Sy,zf,zh,zg,Sz,SA,SD]
theorem GK(x:List Nat):gJ σ .In (.d (.str x)) rN=some (decide (x ∈ uJ)):=by show some ((uJ.map D.str).any (Si x))=_;rw[Eh,Oh]
theorem OV(hT:T.length<100000)(hp:p<=T.length)(h:(T.drop p).take 2=x)(hx:x ∈ uJ)(hn:1<=n):(CN W n).c fF [.d (.str T),.d (.int p),.d (.int 1)] σ=some (.ok (.d (.tup [.tup [.str i7,.str x,.int 1],.int ((p+2:Nat))])),σ):=by obtain⟨m,rfl⟩:∃m,n=m+1:=⟨n -1,by exact dp hn rfl⟩;rw[pP];refine dk rfl ?_ rfl;have s1:=Ao (σ:=σ) (T:=T) (p:=p) (k:=2) hp hT;rw[h]at s1;have c1:=GK (σ:=σ) x;rw[eE hx]at c1;have b2:ly .Add (.d (.int p)) (.d (.int 2)) σ=some (.ok (.d (.int ((p+2:Nat)))),σ):=rfl;generalize p+2=q at *;exact d8 qj λr=>r b2 s1 (ig c1) b2 s1 b2 ⟨⟩
theorem OW{r:List Nat}(hT:T.length<100000)(h:T.drop p=c::r)(hc:c ∈ Q9)(hx:(c::r).take 2 ∉ uJ)(hn:1<=n):(CN W n).c fF [.d (.str T),.d (.int p),.d (.int 1)] σ=some (.ok (.d (.tup [.tup [.str i7,.str [c],.int 1],.int ((p+1:Nat))])),σ):=by
 obtain⟨m,rfl⟩:∃m,n=m+1:=⟨n -1,by exact dp hn rfl⟩;rw[pP];refine dk rfl ?_ rfl;have hp:=sF h (by simp);have s1:=Ao (σ:=σ) (T:=T) (p:=p) (k:=2) (AB hp) hT;rw[h]at s1;have c1:=GK (σ:=σ) ((c::r).take 2);rw[ft hx]at c1;have s2:=tO (σ:=σ) h hT
 have c2:gJ σ .In (.d (.str [c])) uZ=some true:=by show some (EA [c] _)=_;rw[IG c hc]
 have b1:ly .Add (.d (.int p)) (.d (.int 1)) σ=some (.ok (.d (.int ((p+1:Nat)))),σ):=rfl;have b2:ly .Add (.d (.int p)) (.d (.int 2)) σ=some (.ok (.d (.int ((p+2:Nat)))),σ):=rfl;generalize (c::r).take 2=X at *;generalize p+2=q at *;generalize p+1=q1 at *;exact d8 qj λr=>r b2 s1 (ig c1) (dC s2) (ig c2) (dC s2) b1 ⟨⟩
def XU(W n:Nat)(σ:List MO)(T:List Nat)(p:Nat)(t:Tk)(q:Nat)(toks:PV):Prop:=(CN W n).c ix [.d (.str T),.d (.int p),.d (.int 1),toks] σ=some (.ok (.d (.tup [t.d,.int q])),σ)
def SW(C:Addr->List PV->M PV)(aa:Lo):M Fl:=(dn (eS (sO (cM (C fU) [(cG aa 4)])) (eJ (cM (C jn) [(cG aa 0),(cG aa 1),(cG aa 2)])) (dF aa)) λaa=>(dn (eS (dz .In (cG aa 4) (kN pH)) (eJ (cM (C iw) [(cG aa 0),(cG aa 1),(cG aa 2)])) (dF aa)) λaa=>(dn (eS (dz .Eq (cG aa 4) (cW Nx)) cU (dF aa)) λaa=>(dn (eS (dz .Eq (cG aa 4) (cW tn)) cU (dF aa)) λaa=>(eJ (cM (C fF) [(cG aa 0),(cG aa 1),(cG aa 2)]))))))
noncomputable def yq(T:List Nat)(p c:Nat)(toks:PV):Lo:=[some (.d (.str T)),some (.d (.int p)),some (.d (.int 1)),some toks,some (.d (.str [c]))]
theorem Ar{r:List Nat}{toks:PV}{v:PV}(hT:T.length<100000)(h:T.drop p=c::r)(hn:1<=n)(e:SW (CN W (n -1)).c (yq T p c toks) σ=some (.ok (.ret v),σ)):(CN W n).c ix [.d (.str T),.d (.int p),.d (.int 1),toks] σ=some (.ok v,σ):=by obtain⟨m,rfl⟩:∃m,n=m+1:=⟨n -1,by exact dp hn rfl⟩;rw[DU];refine dk rfl (vp ?_) rfl;have s2:=tO (σ:=σ) h hT;rw[<-e];have e2:oi (CN W m).c (CN W m).f (CN W m).r W (eR [.d (.str T),.d (.int p),.d (.int 1),toks] [] 1)=dn (dZ [some (.d (.str T)),some (.d (.int p)),some (.d (.int 1)),some toks,none] 4 (dP (cG [some (.d (.str T)),some (.d (.int p)),some (.d (.int 1)),some toks,none] 0) (cG [some (.d (.str T)),some (.d (.int p)),some (.d (.int 1)),some toks,none] 1))) (SW (CN W m).c):=rfl;rw[e2];refine ij ?_;simp[bnd,lift,ret,E5,s2,rG,yq]
theorem Ev{f:List PV->M PV}{v:PV}{b:Bool}(hl:(aa[i]?).join=some v)(h:f [v] σ=some (.ok (.d (.bool b)),σ)):sO (cM f [cG aa i]) σ=some (.ok b,σ):=by simp[bnd,ja,lift,hl,ret,h,pW]
theorem OX{f:List PV->M PV}{j k:Nat}{u v w:PV}{r:Option (R PV×List MO)}(h1:(aa[i]?).join=some u)(h2:(aa[j]?).join=some v)(h3:(aa[k]?).join=some w)(h:f [u,v,w] σ=r):cM f [cG aa i,cG aa j,cG aa k] σ=r:=by simp[bnd,ja,lift,h1,h2,h3,ret,h]
theorem OY{toks:PV}(hT:T.length<100000)(hn:6<=n){r:List Nat}(hr:Ap r)(hw:w.all isL=true)(hw0:w≠[])(h:T.drop p=w++r)(hW:100000<=W){b:Bool}(hb:AD σ w jl=some b):XU W n σ T p (if b=true then .word w else .name w) (p+w.length) toks:=by
 obtain⟨m,rfl⟩:∃m,n=m+1:=⟨n -1,by exact dp hn rfl⟩
 obtain⟨c,w',hcw⟩:∃c w',w=c::w':=by cases w with
  |nil=>exact absurd rfl hw0
  |cons c w'=>exact⟨c,w',rfl⟩
 have h':T.drop p=c::(w'++r):=by rw[h,hcw];rfl
 have hlt:=sF h' (by simp);have hc:isL c=true:=by rw[hcw]at hw;simp only[hP,ej]at hw;exact hw.1
 have e:=OT (σ:=σ) (W:=W) (n:=m) hT (dl hn rfl) hr hw h (AB hlt) hW hb;refine Ar hT h' (jw hn rfl) ?_;have l1:=wx (σ:=σ) (W:=W) (n:=m) (s:=[c]) (.inr ⟨c,xn hc,rfl⟩) (dl hn rfl);have l2:xL isL [c]=true:=hc;rw[l2]at l1;refine r5 (Ev (aa:=yq T p c toks) (i:=4) rfl l1) (ui (OX (aa:=yq T p c toks) rfl rfl rfl ?_));refine Eq.trans (b:=_) e ?_;cases b<;>rfl
theorem Rf{toks:PV}(hi:i<100)(hT:T.length<100000)(hn:6<=n){r:List Nat}(hr:Ap r)(h:T.drop p=qr i++r)(hW:10<=W):XU W n σ T p (.int i) (p+(qr i).length) toks:=by
 obtain⟨m,rfl⟩:∃m,n=m+1:=⟨n -1,by exact dp hn rfl⟩;refine wB (Aq hi) λ_ v2 v3=> ?_
 obtain⟨c,w',hcw⟩:∃c w',qr i=c::w':=by cases q:qr i with
  |nil=>rw[q]at v3;exact absurd v3 (by decide)
  |cons c w'=>exact⟨c,w',rfl⟩
 have h':T.drop p=c::(w'++r):=by rw[h,hcw];rfl
 have hlt:=sF h' (by simp);have hc:Az c=true:=by rw[hcw]at v2;simp only[hP,ej]at v2;exact v2.1
 have e:=OU (σ:=σ) (W:=W) (n:=m) hi hT (dl hn rfl) hr h (AB hlt) hW;refine Ar hT h' (jw hn rfl) ?_;have l1:=wx (σ:=σ) (W:=W) (n:=m) (s:=[c]) (.inr ⟨c,wy hc,rfl⟩) (dl hn rfl)
 have l2:xL isL [c]=false:=by show isL c=false;simp only[Az,ej,decide_eq_true_eq]at hc;unfold isL;rw[ft (Wo hc)];rfl
 rw[l2]at l1;refine(g9 (Ev (aa:=yq T p c toks) (i:=4) rfl l1)).trans ?_;have l3:=Es (σ:=σ) (wy hc);rw[hc]at l3;refine r5 ?_ (ui (OX (aa:=yq T p c toks) rfl rfl rfl e));simp[bnd,lift,ret,yq,ir,l3]
theorem Cj{r:List Nat}{toks v:PV}(hT:T.length<100000)(hn:4<=n)(h:T.drop p=c::r)(hc:c ∈ Q9)(e:(CN W (n -1)).c fF [.d (.str T),.d (.int p),.d (.int 1)] σ=some (.ok v,σ)):(CN W n).c ix [.d (.str T),.d (.int p),.d (.int 1),toks] σ=some (.ok v,σ):=by
 refine Ar hT h (dq hn rfl) ?_
 have hch:c ∈ CH/\isL c=false/\Az c=false/\([c] == Nx)=false/\([c] == tn)=false:=by simp only[Q9,dj,dJ,dK]at hc;rcases hc with rfl|rfl|rfl|rfl|rfl|rfl|rfl|rfl|rfl|rfl|rfl<;>decide
 refine Vx hch λc1 c2 c3 c4 c5=> ?_;clear hch;have l1:=wx (σ:=σ) (W:=W) (n:=n -1) (s:=[c]) (.inr ⟨c,c1,rfl⟩) ((lE (.l (.k 2) (.s A0 K1)) [.l (.k 4) A0]) hn);have l2:xL isL [c]=false:=c2;rw[l2]at l1;refine(g9 (Ev (aa:=yq T p c toks) (i:=4) rfl l1)).trans ?_;have l3:=Es (σ:=σ) c1;rw[c3]at l3;refine(g9 (show _=some (R.ok false,σ)from ?_)).trans ?_
 ·simp[bnd,lift,ret,yq,ir,l3]
 refine(g9 (mW (aa:=yq T p c toks) (i:=4) rfl c4)).trans ?_;refine(g9 (mW (aa:=yq T p c toks) (i:=4) rfl c5)).trans ?_;exact ui (OX (aa:=yq T p c toks) rfl rfl rfl e)
end
section
variable{W:Nat}
def kT(aa:Lo):M Bool:=(dz .Lt (cG aa 2) (cM jQ [(cG aa 0)]))
def Zv(aa:Lo):Cm Bool:=(cV .Lt (cF aa 2) (cI jQ [(cF aa 0)]))
theorem Zw:kT aa=fG (Zv aa):=rfl
def kB(C:Addr->List PV->M PV)(aa:Lo):M Fl:=(eS (dz .In (dP (cG aa 0) (cG aa 2)) (kN t8)) (dn (eS (dz .Eq (dP (cG aa 0) (cG aa 2)) (cW Jr)) cU (dF aa)) λaa=>(so aa 2 .Add (cY 1))) (eS (dz .Eq (lG (cG aa 0) (some (cG aa 2)) (some (d7 .Add (cG aa 2) (cY 2)))) (cW qh)) cU (dn (E9 aa [4,2] (cM (C ix) [(cG aa 0),(cG aa 2),(cG aa 3),(cG aa 1)])) λaa=>(oz aa (jC (cG aa 1) (cG aa 4))))))
def Zx(C:Addr->List PV->M PV)(aa:Lo):Cm Fl:=(dm (cV .In (dr (cF aa 0) (cF aa 2)) (lX t8)) (.seq (dm (cV .Eq (dr (cF aa 0) (cF aa 2)) (cK Jr)) (.ask cU) (cZ aa)) λaa=>(oC aa 2 .Add (cL 1))) (dm (cV .Eq (oH (cF aa 0) (some (cF aa 2)) (some (dT .Add (cF aa 2) (cL 2)))) (cK qh)) (.ask cU) (.seq (tg aa [4,2] (cI (C ix) [(cF aa 0),(cF aa 2),(cF aa 3),(cF aa 1)])) λaa=>(mB aa (tf (cF aa 1) (cF aa 4))))))
theorem XV:kB C aa=fG (Zx C aa):=rfl
theorem GL(C:Addr->List PV->M PV)(Cf:List PV->M Unit)(Cr:List PV->M PV)(W:Nat)(aa:Lo):oj C Cf Cr W aa=dn (dZ aa 1 (m9 [])) λaa=>dn (dZ aa 2 (cY 0)) λaa=>dn (dZ aa 3 (cY 1)) λaa=>dn (fw kT (kB C) (λaa=>(dF aa)) W aa) λaa=>(eJ (cG aa 1)):=rfl
noncomputable def IK(T:List Nat)(L p:Nat)(x4:Option PV):Lo:=[some (.d (.str T)),some (.ref L),some (.d (.int p)),some (.d (.int 1)),x4]
def As(σ:List MO)(toks:List Tk):List MO:=σ++[.list (toks.map Tk.d)]
theorem OZ{L:Nat}(hT:T.length<100000):kT (IK T L p x4) σ=some (.ok (decide (p<T.length)),σ):=by
 have hl:=len_str (σ:=σ) hT
 have h5:gJ σ .Lt (.d (.int p)) (.d (.int T.length))=some (decide (p<T.length)):=by
  show some (decide _)=_
  congr 1
  by_cases z:p<T.length
  ·rw[eE z,eE (yI z)]
  ·rw[ft z,ft (I0 z)]
 exact fX Zw λr=>r hl (ig h5) ⟨⟩
theorem U7{L:Nat}{r:List Nat}(hT:T.length<100000)(h:T.drop p=32::r):kB (CN W n).c (IK T L p x4) σ=some (.ok (.nxt (IK T L (p+1) x4)),σ):=by
 have s2:=tO (σ:=σ) h hT
 have c1:gJ σ .In (.d (.str [32])) t8=some true:=by show some (EA [32] _)=_;rw[JT 32 (by decide)];rfl
 have c2:gJ σ .Eq (.d (.str [32])) (.d (.str Jr))=some false:=rfl;have a2:uP .Add (.d (.int p)) (.d (.int 1))=some (.d (.int ((p+1:Nat)))):=rfl;generalize p+1=q at *;exact fX XV λr=>r (dC s2) (ig c1) (dC s2) (ig c2) (px a2) ⟨⟩
theorem U8{q:Nat}{r:List Nat}{t:Tk}{toks:List Tk}(hT:T.length<100000)(h:T.drop p=c::r)(hc:c ∈ CH)(hg:c≠32)(hm:((c::r).take 2 == qh)=false)(hl:toks.length<100000)(e:XU W n (As σ toks) T p t q (.ref σ.length)):kB (CN W n).c (IK T σ.length p x4) (As σ toks)=some (.ok (.nxt (IK T σ.length q (some (.d t.d)))),As σ (toks++[t])):=by
 have s2:=tO (σ:=As σ toks) h hT;have hp:=sF h (by simp)
 have c1:gJ (As σ toks) .In (.d (.str [c])) t8=some false:=by
  show some (EA [c] _)=_;rw[JT c hc]
  congr 1
  rw[gO];exact hg
 have s1:=Ao (σ:=As σ toks) (T:=T) (p:=p) (k:=2) (AB hp) hT;rw[h]at s1;have c3:gJ (As σ toks) .Eq (.d (.str ((c::r).take 2))) (.d (.str qh))=some false:=by rw[gI,hm]
 have b2:ly .Add (.d (.int p)) (.d (.int 2)) (As σ toks)=some (.ok (.d (.int ((p+2:Nat)))),As σ toks):=rfl;have r1:qM (As σ toks) (.ref σ.length)=some (σ.length,toks.map Tk.d):=by simp[qM,As]
 have ap:kz (.ref σ.length) (ret (.d t.d)) (As σ toks)=some (.ok (.d .none),As σ (toks++[t])):=by simp only[kz,r1,Option.bind,bnd,ret];rw[cH (by simp only[f6,eZ];exact mq hl rfl)];simp[As]
 unfold XU at e;exact fX XV λr=>r (dC s2) (ig c1) b2 s1 (ig c3) e ap ⟨⟩
def AtP(W n:Nat)(σ:List MO)(T:List Nat)(K p:Nat)(toks:List Tk)(res:Option (R Fl×List MO)):Prop:=∀x4,dn (fw kT (kB (CN W n).c) (λaa=>(dF aa)) K (IK T σ.length p x4)) (λaa=>(eJ (cG aa 1))) (As σ toks)=res
def Lx(W n:Nat)(σ:List MO)(T:List Nat)(s:List Nat)(l:List Tk)(A:List Nat->Prop):Prop:=∀p r toks,T.drop p=s++r->A r->toks.length+l.length<100000->∃c,c<=s.length/\∀K res,AtP W n σ T K (p+s.length) (toks++l) res->AtP W n σ T (K+c) p toks res
theorem Lx.app{s1 s2:List Nat}{l1 l2:List Tk}{A1 A2:List Nat->Prop}(h1:Lx W n σ T s1 l1 A1)(h2:Lx W n σ T s2 l2 A2)(h:∀r,A2 r->A1 (s2++r)):Lx W n σ T (s1++s2) (l1++l2) A2:=by intro p r toks hd ha hl;rw[dI]at hl;rw[d6]at hd;refine eN (h1 p (s2++r) toks hd (h r ha) ((kI (.t (.a (.v 0) (.v 1)) (.k 100000)) [.t (.a (.v 0) (.a (.v 1) (.v 2))) (.k 100000)]) hl)) λc1 k1 f1=> ?_;refine eN (h2 (p+s1.length) r (toks++l1) (GH hd) ha (by rw[dI];exact(kI (.t (.a (.a (.v 0) (.v 1)) (.v 2)) (.k 100000)) [.t (.a (.v 0) (.a (.v 1) (.v 2))) (.k 100000)]) hl)) λc2 k2 f2=> ?_;refine⟨c2+c1,by rw[dI];exact(lx (.l (.a (.v 2) (.v 0)) (.a (.v 1) (.v 3))) [.l (.v 0) (.v 1),.l (.v 2) (.v 3)]) k1 k2,λK res e=> ?_⟩;rw[dI,<-Nat.add_assoc,<-d6]at e;rw[<-Nat.add_assoc];exact f1 _ _ (f2 _ _ e)
theorem Lx.mono{s:List Nat}{A B:List Nat->Prop}(h:Lx W n σ T s l A)(hb:∀r,B r->A r):Lx W n σ T s l B:=λp r toks hd ha hl=>h p r toks hd (hb r ha) hl
theorem At(hT:T.length<100000):Lx W n σ T [32] [] (λ_=>True):=by intro p r toks hd _ _;refine⟨1,ip _,λK res e x4=> ?_⟩;have hlt:=sF hd (by simp);have ht:=OZ (σ:=As σ toks) (L:=σ.length) (p:=p) (x4:=x4) hT;rw[eE hlt]at ht;rw[JS (pz ht (U7 hT hd))];rw[gD]at e;exact e x4
theorem Ew{s:List Nat}{t:Tk}{A:List Nat->Prop}(hT:T.length<100000)(hs:∀r,A r->∃c r',s++r=c::r'/\c ∈ CH/\c≠32/\((c::r').take 2 == qh)=false)(h0:s≠[])(e:∀p r toks,T.drop p=s++r->A r->XU W n (As σ toks) T p t (p+s.length) (.ref σ.length)):Lx W n σ T s [t] A:=by
 intro p r toks hd ha hl
 have hs0:1<=s.length:=by cases s with
  |nil=>exact absurd rfl h0
  |cons=>simp
 refine⟨1,hs0,λK res e' x4=> ?_⟩;refine uL (hs r ha) λc r' h1 h2 h3 h4=> ?_;have hd':=hd;rw[h1]at hd';have hlt:=sF hd' (by simp);have ht:=OZ (σ:=As σ toks) (L:=σ.length) (p:=p) (x4:=x4) hT;rw[eE hlt]at ht;rw[JS (pz ht (U8 hT hd' h2 h3 h4 (Wp hl) (e p r toks hd ha)))];exact e' _
theorem JU{b:Bool}(hT:T.length<100000)(hn:6<=n)(hW:100000<=W)(hw:w.all isL=true)(hw0:w≠[])(hb:∀τ,AD τ w jl=some b):Lx W n σ T w [if b=true then .word w else .name w] Ap:=by
 refine Ew hT (λr hr=> ?_) hw0 (λp r toks hd ha=>OY hT hn ha hw hw0 hd hW (hb _));cases w with
 |nil=>exact absurd rfl hw0
 |cons c w'=>
  simp only[hP,ej]at hw;refine⟨c,w'++r,rfl,xn hw.1,?_,?_⟩
  ·intro z;subst z;exact absurd hw.1 (by decide)
  ·rw[gO];intro z
   have:c=45:=by
    cases hq:w'++r with
    |nil=>rw[hq]at z;cases z
    |cons d q=>rw[hq]at z;simp only[qh,List.take_succ_cons,List.take_zero,List.cons.injEq]at z;exact z.1
   subst this;exact absurd hw.1 (by decide)
theorem U9(hi:i<100)(hT:T.length<100000)(hn:6<=n)(hW:10<=W):Lx W n σ T (qr i) [.int i] Ap:=by
 refine wB (Aq hi) λ_ v2 v3=> ?_;have h0:qr i≠[]:=by intro z;rw[z]at v3;exact absurd v3 (by decide)
 refine Ew hT (λr hr=> ?_) h0 (λp r toks hd ha=>Rf hi hT hn ha hd hW);cases q:qr i with
 |nil=>exact absurd q h0
 |cons c w'=>
  rw[q]at v2;simp only[hP,ej]at v2;refine⟨c,w'++r,rfl,wy v2.1,?_,?_⟩
  ·intro z;subst z;exact absurd v2.1 (by decide)
  ·rw[gO];intro z
   have:c=45:=by
    cases hq:w'++r with
    |nil=>rw[hq]at z;cases z
    |cons d q=>rw[hq]at z;simp only[qh,List.take_succ_cons,List.take_zero,List.cons.injEq]at z;exact z.1
   subst this;exact absurd v2.1 (by decide)
theorem IL{A:List Nat->Prop}(hT:T.length<100000)(hn:6<=n)(hc:c ∈ Q9)(ha:∀r,A r->(c::r).take 2 ∉ uJ/\((c::r).take 2 == qh)=false):Lx W n σ T [c] [.op [c]] A:=by
 have hch:c ∈ CH/\c≠32:=by simp only[Q9,dj,dJ,dK]at hc;rcases hc with rfl|rfl|rfl|rfl|rfl|rfl|rfl|rfl|rfl|rfl|rfl<;>decide
 refine Ew hT (λr hr=>⟨c,r,rfl,hch.1,hch.2,(ha r hr).2⟩) (by simp) (λp r toks hd hr=> ?_);exact Cj hT (dq hn rfl) hd hc (OW hT hd hc (ha r hr).1 (R6 hn))
theorem IM{d:Nat}(hT:T.length<100000)(hn:6<=n)(hc:c ∈ Q9)(hx:[c,d] ∈ uJ):Lx W n σ T [c,d] [.op [c,d]] (λ_=>True):=by
 have hch:c ∈ CH/\c≠32:=by simp only[Q9,dj,dJ,dK]at hc;rcases hc with rfl|rfl|rfl|rfl|rfl|rfl|rfl|rfl|rfl|rfl|rfl<;>decide
 have h2:([c,d] == qh)=false:=by rw[gO];intro z;rw[z]at hx;exact absurd hx (by decide)
 refine Ew hT (λr _=>⟨c,d::r,rfl,hch.1,hch.2,h2⟩) (by simp) (λp r toks hd hr=> ?_);have hp:=sF hd (by simp);exact Cj hT (dq hn rfl) (c:=c) (r:=d::r) hd hc (OV (σ:=As σ toks) (p:=p) (x:=[c,d]) hT (AB hp) (by rw[hd];rfl) hx (R6 hn))
end
section
variable{W:Nat}
def Rg:List Nat->Prop:=λ_=>True
def Sp:List Nat->Prop:=λr=>∃r',r=32::r'
theorem Ex{r:List Nat}(h:Sp r):Ap r:=by refine oE h λr' ez1=> ?_;clear h;subst ez1;exact .inr ⟨32,r',rfl,.inl rfl⟩
theorem XW(c:Nat)(r:List Nat):(c::r).take 2=[c]\/∃d,(c::r).take 2=[c,d]:=by
 cases r with
 |nil=>exact .inl rfl
 |cons d r=>exact .inr ⟨d,rfl⟩
theorem JV(hc:c=40\/c=41\/c=43\/c=45)(r:List Nat):(c::r).take 2 ∉ uJ:=by intro z;have h:uJ.all (λl=>l.headD 0 != 40 &&(l.headD 0 != 41 &&(l.headD 0 != 43 && l.headD 0 != 45)))=true:=rfl;have h:=fu.mp h _ z;rcases hc with q|q|q|q<;>(rw[q]at h;exact mY h)
theorem Rh(hc:c≠45)(r:List Nat):((c::r).take 2 == qh)=false:=by
 rw[gO];rcases XW c r with h|⟨d,h⟩<;>rw[h]<;>intro z<;>simp[qh]at z
 exact hc z.1
theorem Au(hT:T.length<100000)(hn:6<=n)(hc:c=40\/c=41\/c=43):Lx W n σ T [c] [.op [c]] Rg:=
 IL hT hn (by rcases hc with rfl|rfl|rfl<;>decide) (λr _=>⟨JV (by rcases hc with h|h|h<;>simp[h]) r,Rh ((lE (.n (.e A0 (.k 45))) [.o (.e A0 (.k 40)) (.o (.e A0 (.k 41)) (.e A0 (.k 43)))]) hc) r⟩)
theorem O0(hT:T.length<100000)(hn:6<=n):Lx W n σ T [45] [.op [45]] (λr=>∃c r',r=c::r'/\c≠45):=
 IL hT hn (by decide) (λr hr=>⟨JV (by simp) r,by refine mZ hr λc r' ez1 hc=> ?_;clear hr;subst ez1;rw[gO];intro z;simp[qh]at z;exact hc z⟩)
theorem Ri(hT:T.length<100000)(hn:6<=n)(hc:c ∈ [38,42,43,45,47,60,61,62]):Lx W n σ T [c] [.op [c]] Sp:=
 IL hT hn (by simp only[dj,dJ,dK]at hc;rcases hc with rfl|rfl|rfl|rfl|rfl|rfl|rfl|rfl<;>decide) (λr hr=>by refine oE hr λr' ez1=> ?_;clear hr;subst ez1;show [c,32] ∉ uJ/\([c,32] == qh)=false;simp only[dj,dJ,dK]at hc;rcases hc with rfl|rfl|rfl|rfl|rfl|rfl|rfl|rfl<;>decide)
theorem r7(hT:T.length<100000)(hn:6<=n)(hW:100000<=W)(hw:w ∈ [ji,gc,qf,qg,f8,nn,iH,nq,gf,fY]):Lx W n σ T w [.word w] Ap:=by
 have h:w.all isL=true/\w≠[]/\∀τ,AD τ w jl=some true:=by simp only[dj,dJ,dK]at hw;rcases hw with rfl|rfl|rfl|rfl|rfl|rfl|rfl|rfl|rfl|rfl<;>exact⟨by decide,by decide,λ_=>rfl⟩
 exact JU (b:=true) hT hn hW h.1 h.2.1 h.2.2
theorem Va(hT:T.length<100000)(hn:6<=n)(hW:100000<=W)(hw:w=Sv\/w=Sw\/w=Sx):Lx W n σ T w [.name w] Ap:=by
 have h:w.all isL=true/\w≠[]/\∀τ,AD τ w jl=some false:=by rcases hw with rfl|rfl|rfl<;>exact⟨by decide,by decide,λ_=>rfl⟩
 exact JU (b:=false) hT hn hW h.1 h.2.1 h.2.2
theorem r8(hT:T.length<100000){s:List Nat}(h:Lx W n σ T s l Sp):Lx W n σ T ([32]++s++[32]) l Rg:=by
 have h1:=(Lx.app (At (W:=W) (n:=n) (σ:=σ) hT) h (λ_ _=>trivial)).app (At hT) (λr _=>⟨r,rfl⟩);have h2:Lx W n σ T ([32]++s++[32]) l (λ_=>True):=by simpa using h1
 exact h2
theorem XX(hT:T.length<100000)(hn:6<=n)(hW:100000<=W)(hw:w ∈ sM):Lx W n σ T (bT w) [iW w] Rg:=by
 have one:∀c,c ∈ [38,42,43,45,47,60,61,62]->w=[c]->w ∈ Jw->w≠gC->Lx W n σ T (bT w) [iW w] Rg:=by
  intro c hc e hs hne;have:bT w=[32]++w++[32]:=by unfold bT;rw[cJ hne];rfl
  rw[this];unfold iW;rw[cH hs];subst e;exact r8 hT (Ri hT hn hc)
 have two:∀c d,c ∈ Q9->w=[c,d]->[c,d] ∈ uJ->w ∈ Jw->w≠gC->Lx W n σ T (bT w) [iW w] Rg:=by
  intro c d hc e hx hs hne;have:bT w=[32]++w++[32]:=by unfold bT;rw[cJ hne];rfl
  rw[this];unfold iW;rw[cH hs];subst e;exact r8 hT ((IM hT hn hc hx).mono (λ_ _=>trivial))
 have wrd:w ∈ [ji,gc,qf,qg,f8,nn,iH,nq,gf,fY]->w ∉ Jw->w≠gC->Lx W n σ T (bT w) [iW w] Rg:=by
  intro hx hs hne;have:bT w=[32]++w++[32]:=by unfold bT;rw[cJ hne];rfl
  rw[this];unfold iW;rw[cJ hs];exact r8 hT ((r7 hT hn hW hx).mono (λ_ h=>Ex h))
 rcases j7 hw with q|q|q|q|q|q|q
 ·simp only[pZ,dj,dJ,dK]at q;rcases q with rfl|rfl|rfl<;>exact one _ (by decide) rfl (by decide) (by decide)
 ·simp only[oJ,dj,dJ,dK]at q;rcases q with rfl|rfl|rfl|rfl
  ·exact one _ (by decide) rfl (by decide) (by decide)
  ·exact one _ (by decide) rfl (by decide) (by decide)
  ·exact wrd (by decide) (by decide) (by decide)
  ·exact wrd (by decide) (by decide) (by decide)
 ·simp only[m7,dj,dJ,dK]at q;rcases q with rfl|rfl|rfl|rfl|rfl|rfl
  ·exact one _ (by decide) rfl (by decide) (by decide)
  ·exact two _ _ (by decide) rfl (by decide) (by decide) (by decide)
  ·exact one _ (by decide) rfl (by decide) (by decide)
  ·exact two _ _ (by decide) rfl (by decide) (by decide) (by decide)
  ·exact one _ (by decide) rfl (by decide) (by decide)
  ·exact two _ _ (by decide) rfl (by decide) (by decide) (by decide)
 ·subst q;exact wrd (by decide) (by decide) (by decide)
 ·subst q;exact wrd (by decide) (by decide) (by decide)
 ·subst q;exact wrd (by decide) (by decide) (by decide)
 ·subst q;exact(IM (c:=42) (d:=42) hT hn (by decide) (by decide)).mono (λ_ _=>trivial)
theorem Vb(r:List Nat):Ap (bT w++r):=by
 unfold bT
 set_option tactic.hygienic true in split
 ·rename_i h;subst h;exact .inr ⟨42,42::r,rfl,.inr (.inr rfl)⟩
 ·exact .inr ⟨32,w++eP++r,by simp[eP],.inl rfl⟩
theorem uK(hT:T.length<100000)(hn:6<=n){s:List Nat}(h:Lx W n σ T s l Ap)(c:Nat):Lx W n σ T (tb c s) (brk c l) Ap:=by
 unfold tb brk;split
 ·exact h
 ·have:=(Lx.app (Au (W:=W) (n:=n) (σ:=σ) (c:=40) hT hn (.inl rfl)) (Lx.app h (Au (c:=41) hT hn (.inr (.inl rfl))) (λr _=> .inr ⟨41,r,rfl,.inr (.inl rfl)⟩)) (λ_ _=>trivial)).mono (B:=Ap) (λ_ _=>trivial)
  simpa [fT,eY] using this
theorem XY(t:Tr)(h:WF t)(hv:LV t)(hp:ew 2 t=0):∃c r,tx t=c::r/\c≠45:=by
 match t,h with
 | .name s,_=>
  rcases hv with rfl|rfl|rfl<;>exact⟨_,_,rfl,by decide⟩
 | .num i,_=>
  show ∃c r,qr i=c::r/\c≠45;unfold qr;split
  ·exact⟨_,_,rfl,by omega⟩
  ·exact⟨_,_,rfl,by omega⟩
 | .un w t,h=>
  have hw:=h.1;simp only[Bt,dj,dJ,dK]at hw;rcases hw with rfl|rfl|rfl|rfl
  ·exact absurd hp (by unfold ew;rw[oK];decide)
  ·exact⟨97,_,rfl,by decide⟩
  ·exact⟨110,_,rfl,by decide⟩
  ·exact absurd hp (by unfold ew;rw[oK];decide)
 | .bin w a b,h=>
  have key:(mP (cls w) a=0->ew 2 a=0)/\(cls w= .high\/cls w= .scaled):=by
   unfold ew at hp;rw[nv]at hp;rcases Aj (a:=a) (b:=b) h.1 with q|q|q|q|q|q|q|q|q<;>rw[q]at hp ⊢
   ·exact⟨λz=>by have:=tK (show 0<=2 by exact fq rfl) a;have z':ew 0 a=0:=z;exact(ie (.e A0 (.k 0)) [.l A0 A1,.e A1 (.k 0)]) this z',.inl rfl⟩
   ·exact⟨λz=>z,.inr rfl⟩
   all_goals exact absurd hp (by decide)
  rw[ID];by_cases z:mP (cls w) a=0
  ·refine mZ (XY a h.2.1 hv.1 (key.1 z)) λc r e hc=> ?_;refine⟨c,r++(bT w++tb (kE (cls w) b) (tx b)),?_,hc⟩;unfold tb;rw[cH z,e];rfl
  ·refine⟨40,tx a++eY++(bT w++tb (kE (cls w) b) (tx b)),?_,by decide⟩;show(if mP (cls w) a=0 then tx a else fT++tx a++eY)++_=_;rw[cJ z];rfl
 | .sc w a b,h=>exact absurd hp (by unfold ew;show ¬((if 5<=2 then 0 else 1)=0);simp)
 | .mem w t (.rng a b),h=>exact absurd hp (by unfold ew;show ¬((if 4<=2 then 0 else 1)=0);simp)
theorem XZ(h:WF t)(hv:LV t)(r:List Nat):∃c r',tb (ew 2 t) (tx t)++r=c::r'/\c≠45:=by
 by_cases z:ew 2 t=0
 ·refine mZ (XY t h hv z) λc r' e hc=> ?_;refine⟨c,r'++r,?_,hc⟩;unfold tb;rw[cH z,e];rfl
 ·refine⟨40,tx t++eY++r,?_,by decide⟩;show(if ew 2 t=0 then tx t else fT++tx t++eY)++r=_;rw[cJ z];rfl
theorem nL(hT:T.length<100000)(hn:6<=n)(hW:100000<=W)(t:Tr)(h:Sh t)(hv:LV t):Lx W n σ T (tx t) (tk t) Ap:=by
 match t,h with
 | .name s,_=>exact Va hT hn hW hv
 | .num i,_=>exact U9 hv hT hn (dq hW rfl)
 | .un w t,h=>
  have h1:=nL hT hn hW t (Sh.of h.2) hv;have hw:=h.1;simp only[Bt,dj,dJ,dK]at hw
  have word:∀w,(w=ji\/w=gc)->Lx W n σ T (tx (.un w t)) (tk (.un w t)) Ap:=by
   intro w hw;have e1:tx (.un w t)=w++[32]++tb (ew 0 t) (tx t):=by rcases hw with rfl|rfl<;>rfl
   have e2:tk (.un w t)=[.word w]++[]++brk (ew 0 t) (tk t):=by rcases hw with rfl|rfl<;>rfl
   rw[e1,e2];exact Lx.app (Lx.app (r7 hT hn hW (by rcases hw with rfl|rfl<;>decide)) (At hT) (λr _=> .inr ⟨32,r,rfl,.inl rfl⟩)) (uK hT hn h1 _) (λ_ _=>trivial)
  rcases hw with rfl|rfl|rfl|rfl
  ·have e1:tx (.un iR t)=[45]++tb (ew 2 t) (tx t):=rfl;have e2:tk (.un iR t)=[.op [45]]++brk (ew 2 t) (tk t):=rfl;rw[e1,e2];exact Lx.app (O0 hT hn) (uK hT hn h1 _) (λr _=>XZ h.2 hv r)
  ·exact word _ (.inl rfl)
  ·exact word _ (.inr rfl)
  ·have e1:tx (.un i8 t)=[43]++tb (ew 2 t) (tx t):=rfl;have e2:tk (.un i8 t)=[.op [43]]++brk (ew 2 t) (tk t):=rfl;rw[e1,e2];exact Lx.app (Au hT hn (.inr (.inr rfl))) (uK hT hn h1 _) (λr _=>trivial)
 | .bin w a b,h=>
  have h1:=nL hT hn hW a (Sh.of h.2.1) hv.1;have h2:=nL hT hn hW b (Sh.of h.2.2) hv.2;have e2:tk (.bin w a b)=brk (mP (cls w) a) (tk a)++([iW w]++brk (kE (cls w) b) (tk b)):=rfl;rw[ID,e2];exact Lx.app (uK hT hn h1 _) (Lx.app (XX hT hn hW h.1) (uK hT hn h2 _) (λ_ _=>trivial)) (λr _=>by rw[d6];exact Vb _)
 | .sc w a b,h=>
  have h1:=nL hT hn hW a (Sh.of h.2.1) hv.1;have h2:=nL hT hn hW b (Sh.of h.2.2) hv.2;have e2:tk (.sc w a b)=brk (km w a) (tk a)++(z6 w++brk (ew 4 b) (tk b)):=rfl
  have two:∀u v,u ∈ [ji,gc,qf,qg,f8,nn,iH,nq,gf,fY]->v ∈ [ji,gc,qf,qg,f8,nn,iH,nq,gf,fY]->Lx W n σ T ([32]++(u++([32]++v))++[32]) ([.word u]++([]++[.word v])) Rg:=by intro u v hu hv;exact r8 hT (Lx.app (r7 hT hn hW hu) (Lx.app (At hT) ((r7 hT hn hW hv).mono (λ_ h=>Ex h)) (λ_ _=>trivial)) (λr _=> .inr ⟨32,v++r,rfl,.inl rfl⟩))
  have hm:Lx W n σ T (eP++oM w++eP) (z6 w) Rg:=by
   rcases h.1 with rfl|rfl
   ·exact two f8 nn (by decide) (by decide)
   ·exact two iH nq (by decide) (by decide)
  rw[XF,e2];exact Lx.app (uK hT hn h1 _) (Lx.app hm (uK hT hn h2 _) (λ_ _=>trivial)) (λr _=> .inr ⟨32,oM w++eP++tb (ew 4 b) (tx b)++r,by simp[eP],.inl rfl⟩)
 | .mem w t (.rng a b),h=>
  have h1:=nL hT hn hW t (Sh.of h.2.1) hv.1;have h2:=nL hT hn hW (.rng a b) h.2.2 hv.2
  have e1:tx (.mem w t (.rng a b))=tb (ew 3 t) (tx t)++(yo w++tx (.rng a b)):=by show tb (ew 3 t) (tx t)++yo w++tx (.rng a b)=_;rw[d6]
  have e2:tk (.mem w t (.rng a b))=brk (ew 3 t) (tk t)++(oo w++tk (.rng a b)):=rfl
  have hm:Lx W n σ T (yo w) (oo w) Rg:=by
   rcases h.1 with rfl|rfl
   ·exact r8 (s:=fY) hT ((r7 hT hn hW (by decide)).mono (λ_ h=>Ex h))
   ·exact r8 (s:=gc++([32]++fY)) (l:=[.word gc]++([]++[.word fY])) hT (Lx.app (r7 hT hn hW (by decide)) (Lx.app (At hT) ((r7 hT hn hW (by decide)).mono (λ_ h=>Ex h)) (λ_ _=>trivial)) (λr _=> .inr ⟨32,fY++r,rfl,.inl rfl⟩))
  rw[e1,e2];refine Lx.app (uK hT hn h1 _) (Lx.app hm h2 (λ_ _=>trivial)) (λr _=> ?_);rcases h.1 with rfl|rfl
  ·exact .inr ⟨32,_,rfl,.inl rfl⟩
  ·exact .inr ⟨32,_,rfl,.inl rfl⟩
 | .rng a b,h=>
  have h1:=nL hT hn hW a (Sh.of h.1) hv.1;have h2:=nL hT hn hW b (Sh.of h.2) hv.2
  have e1:tx (.rng a b)=tb (ew 3 a) (tx a)++(vL++tb (ew 3 b) (tx b)):=by show tb (ew 3 a) (tx a)++vL++tb (ew 3 b) (tx b)=_;rw[d6]
  have e2:tk (.rng a b)=brk (ew 3 a) (tk a)++([.op jD]++brk (ew 3 b) (tk b)):=rfl;rw[e1,e2];exact Lx.app (uK hT hn h1 _) (Lx.app (r8 (s:=jD) hT ((IM (c:=46) (d:=46) hT hn (by decide) (by decide)).mono (λ_ _=>trivial))) (uK hT hn h2 _) (λ_ _=>trivial)) (λr _=> .inr ⟨32,_,rfl,.inl rfl⟩)
theorem O1(h:WF t)(hv:LV t)(hT:(tx t).length<100000)(hl:(tk t).length<100000)(hn:7<=n)(hW:100001<=W):(CN W n).c kU [.d (.str (tx t))] σ=some (.ok (.ref σ.length),σ++[.list ((tk t).map Tk.d)]):=by
 obtain⟨m,rfl⟩:∃m,n=m+1:=⟨n -1,by exact dp hn rfl⟩;rw[DV];refine ug rfl (vp ?_) (by simp[PV.below]);rw[GL];refine Eq.trans (ij (l:=[some (.d (.str (tx t))),some (.ref σ.length),none,none,none]) (σ':=As σ []) rfl) ?_;refine Eq.trans (ij (l:=[some (.d (.str (tx t))),some (.ref σ.length),some (.d (.int 0)),none,none]) (σ':=As σ []) rfl) ?_;refine Eq.trans (ij (l:=IK (tx t) σ.length 0 none) (σ':=As σ []) rfl) ?_;refine eN (nL (σ:=σ) (W:=W) (n:=m) hT (dl hn rfl) (dq hW rfl) t (Sh.of h) hv 0 [] [] (by simp) (.inl rfl) (by simpa using hl)) λc hc hx=> ?_;obtain⟨K,rfl⟩:∃K,W=K+1+c:=⟨W -1 -c,by exact(kI (.e A1 (.a (.a (.s (.s A1 K1) A2) K1) A2)) [.t A0 (.k 100000),.l (.k 100001) A1,.l A2 A0]) hT hW hc⟩
 refine hx (K+1) _ (λx4=> ?_) none;rw[Nat.zero_add,qd];have ht:=OZ (σ:=As σ (tk t)) (L:=σ.length) (p:=(tx t).length) (x4:=x4) hT;rw[ft (Wq)]at ht;refine(ij ((rL ht).trans rfl)).trans rfl
end
def Zy:Tk->Bool
 | .name _=>true
 | .op s=>s == eY
 |_=>false
def ok2(x y:Tk):Prop:=Zy x=true->y≠.op fT
noncomputable def nb:List Tk->Prop
 |x::y::l=>ok2 x y/\nb (y::l)
 |_=>True
theorem wz{x:Tk}(h:nb (x::l)):nb l:=by
 cases l with
 |nil=>trivial
 |cons y l=>exact h.2
theorem mX{x:Tk}(hx:Zy x=false)(h:nb l):nb (x::l):=by
 cases l with
 |nil=>trivial
 |cons y l=>exact⟨λz=>absurd z (by rw[hx];decide),h⟩
theorem vq{x:Tk}{m:List Tk}(h:nb l)(hm:nb (x::m))(hx:x≠.op fT):nb (l++x::m):=by
 induction l with
 |nil=>exact hm
 |cons y l ih=>
  have:=ih (wz h);cases l with
  |nil=>exact⟨λ_=>hx,hm⟩
  |cons z l=>exact⟨h.1,this⟩
theorem Av{m:List Tk}(h:nb (l++m)):nb m:=by
 induction l with
 |nil=>exact h
 |cons x l ih=>exact ih (wz h)
theorem GM(w:List Nat)(hw:w≠eY):Zy (iW w)=false:=by
 unfold iW;split
 ·show(w == eY)=false;rw[gO];exact hw
 ·rfl
theorem tP(h:nb l)(c:Nat):nb (brk c l):=by
 unfold brk;split
 ·exact h
 ·exact mX (by decide) (vq h trivial (by decide))
theorem JW(h:w ∈ sM):w≠eY:=by intro z;subst z;exact absurd h (by decide)
theorem O2(h:w ∈ Bt):w≠eY:=by intro z;subst z;exact absurd h (by decide)
theorem tQ(t:Tr)(h:Sh t):nb (tk t):=by
 match t,h with
 | .name s,_=>trivial
 | .num i,_=>trivial
 | .un w t,h=>exact mX (GM w (O2 h.1)) (tP (tQ t (Sh.of h.2)) _)
 | .bin w a b,h=>exact vq (tP (tQ a (Sh.of h.2.1)) _) (mX (GM w (JW h.1)) (tP (tQ b (Sh.of h.2.2)) _)) (v8 w)
 | .sc w a b,h=>
  have h1:=tP (tQ a (Sh.of h.2.1)) (km w a);have h2:=tP (tQ b (Sh.of h.2.2)) (ew 4 b);show nb (brk (km w a) (tk a)++(z6 w++brk (ew 4 b) (tk b)));unfold z6;split
  ·exact vq h1 (mX rfl (mX rfl h2)) (by decide)
  ·exact vq h1 (mX rfl (mX rfl h2)) (by decide)
 | .mem w t (.rng a b),h=>
  have h1:=tP (tQ t (Sh.of h.2.1)) (ew 3 t);have h2:=tQ (.rng a b) h.2.2;show nb (brk (ew 3 t) (tk t)++(oo w++tk (.rng a b)));unfold oo;split
  ·exact vq h1 (mX rfl h2) (by decide)
  ·exact vq h1 (mX rfl (mX rfl h2)) (by decide)
 | .rng a b,h=>exact vq (tP (tQ a (Sh.of h.1)) _) (mX (by decide) (tP (tQ b (Sh.of h.2)) _)) (by decide)
def gd(x:Tk):Bool:=Ee x && x.ok
theorem JX(h:w ∈ sM\/w ∈ Bt):gd (iW w)=true:=by
 have h1:∀w ∈ sM,gd (iW w)=true:=by decide
 have h2:∀w ∈ Bt,gd (iW w)=true:=by decide
 exact h.elim (h1 w) (h2 w)
theorem tR(h:l.all gd=true)(c:Nat):(brk c l).all gd=true:=by
 unfold brk;split
 ·exact h
 ·simp only[hP,List.all_append,List.all_nil,h,Bool.and_true];decide
theorem sG(t:Tr)(h:Sh t)(hv:LV t):(tk t).all gd=true:=by
 match t,h with
 | .name s,_=>
  rcases hv with rfl|rfl|rfl<;>decide
 | .num i,_=>rfl
 | .un w t,h=>
  simp only[tk,hP,JX (.inr h.1),tR (sG t (Sh.of h.2) hv),Bool.and_true]
 | .bin w a b,h=>
  simp only[tk,hP,List.all_append,JX (.inl h.1),tR (sG a (Sh.of h.2.1) hv.1),tR (sG b (Sh.of h.2.2) hv.2),Bool.and_true]
 | .sc w a b,h=>
  have:(z6 w).all gd=true:=by unfold z6;split<;>decide
  simp only[tk,List.all_append,this,tR (sG a (Sh.of h.2.1) hv.1),tR (sG b (Sh.of h.2.2) hv.2),Bool.and_true]
 | .mem w t (.rng a b),h=>
  have:(oo w).all gd=true:=by unfold oo;split<;>decide
  have h2:=sG (.rng a b) h.2.2 hv.2;have e:tk (.mem w t (.rng a b))=brk (ew 3 t) (tk t)++(oo w++tk (.rng a b)):=rfl;rw[e];simp only[List.all_append,this,tR (sG t (Sh.of h.2.1) hv.1),h2,Bool.and_true]
 | .rng a b,h=>
  have:gd (.op jD)=true:=by decide
  simp only[tk,hP,List.all_append,this,tR (sG a (Sh.of h.1) hv.1),tR (sG b (Sh.of h.2) hv.2),Bool.and_true]
noncomputable def na:List Tk->Prop
 |x::y::l=>(∀s,x= .name s->y≠.op fT)/\na (y::l)
 |_=>True
theorem SX(h:nb l):na l:=by
 induction l with
 |nil=>trivial
 |cons x l ih=>
  cases l with
  |nil=>trivial
  |cons y l=>exact⟨λs e=>h.1 (by rw[e];rfl),ih h.2⟩
theorem JY(h:l.all gd=true)(hn:na l):rS l:=by
 refine⟨?_,?_⟩
 ·rw[fu]at h ⊢;intro x hx;have:=h x hx;simp only[gd,ej]at this;exact this.1
 ·clear h
  induction l with
  |nil=>intro i s h;simp at h
  |cons x l ih=>
   intro i s h;cases l with
   |nil=>simp
   |cons y l=>
    cases i with
    |zero=>
     simp only[List.getElem?_cons_zero,nM]at h;simp only[Nat.zero_add,List.getElem?_cons_succ,List.getElem?_cons_zero,ne_eq,nM];exact hn.1 s h
    |succ i=>
     simp only[List.getElem?_cons_succ]at h ⊢;exact ih hn.2 i s h
theorem GN(h:l.all gd=true):l.all Tk.ok=true:=by rw[fu]at h ⊢;intro x hx;have:=h x hx;simp only[gd,ej]at this;exact this.2
theorem JZ{m:List Tk}(h:nb l)(hm:na m)(hj:∀x y l' m',l=l'++[x]->m=y::m'->∀s,x= .name s->y≠.op fT):na (l++m):=by
 induction l with
 |nil=>exact hm
 |cons x l ih=>
  have h2:=ih (wz h) (λa b l' m' e1 e2=>hj a b (x::l') m' (by rw[e1];rfl) e2);cases l with
  |nil=>
   cases m with
   |nil=>trivial
   |cons y m=>exact⟨hj x y [] m rfl rfl,hm⟩
  |cons z l=>exact⟨λs e=>h.1 (by rw[e];rfl),h2⟩
theorem GO{m:List Tk}(h:nb (l++m)):nb l:=by
 induction l with
 |nil=>trivial
 |cons x l ih=>
  cases l with
  |nil=>trivial
  |cons y l=>exact⟨h.1,ih h.2⟩
theorem Vc{A B C:List Tk}(h:nb (A++ .op fT::(B++ .op eY::C))):na (A++(B++C)):=by
 have hA:=GO h;have h1:=wz (Av h);have hB:=GO h1;have hC0:=Av h1;have hC:=wz hC0;refine JZ hA (JZ hB (SX hC) ?_) ?_
 ·intro x y l' m' e1 e2 s hx;subst e2;exact hC0.1 (by decide)
 ·intro x y l' m' e1 e2 s hx
  exfalso
  subst e1;rw[d6]at h;have:=(Av h).1;exact this (by rw[hx];rfl) rfl
mutual
noncomputable def D.pl:D->Bool
 | .none=>false
 | .bool _=>false
 | .int _=>true
 | .str _=>true
 | .tup xs=>D.pls xs
noncomputable def D.pls:List D->Bool
 |[]=>true
 |x::xs=>x.pl && D.pls xs
end
mutual
theorem O3:∀x y:D,x.pl=true->y.pl=true->(PyData.eqv x.py y.py=true↔x=y)
 | .int a,.int b,_,_=>by simp[D.py,PyData.eqv]
 | .int a,.str b,_,_=>by simp[D.py,PyData.eqv]
 | .int a,.tup b,_,_=>by simp[D.py,PyData.eqv]
 | .str a,.int b,_,_=>by simp[D.py,PyData.eqv]
 | .str a,.str b,_,_=>by
  simp only[D.py,PyData.eqv,Ig,kc]
  constructor
  ·intro h;rw[h]
  ·intro h;cases h;rfl
 | .str a,.tup b,_,_=>by simp[D.py,PyData.eqv]
 | .tup a,.int b,_,_=>by simp[D.py,PyData.eqv]
 | .tup a,.str b,_,_=>by simp[D.py,PyData.eqv]
 | .tup a,.tup b,h1,h2=>by
  have:=J0 a b h1 h2;simp only[D.py,PyData.eqv,this]
  constructor
  ·intro h;rw[h]
  ·intro h;cases h;rfl
 | .none,_,h,_=>by exact mY h
 | .bool _,_,h,_=>by exact mY h
 | .int _,.none,_,h=>by exact mY h
 | .int _,.bool _,_,h=>by exact mY h
 | .str _,.none,_,h=>by exact mY h
 | .str _,.bool _,_,h=>by exact mY h
 | .tup _,.none,_,h=>by exact mY h
 | .tup _,.bool _,_,h=>by exact mY h
theorem J0:∀x y:List D,D.pls x=true->D.pls y=true->(PyData.eqvAll (D.pys x) (D.pys y)=true↔x=y)
 |[],[],_,_=>by simp[D.pys,PyData.eqvAll]
 |[],y::ys,_,_=>by simp[D.pys,PyData.eqvAll]
 |x::xs,[],_,_=>by simp[D.pys,PyData.eqvAll]
 |x::xs,y::ys,h1,h2=>by simp only[D.pls,ej]at h1 h2;simp only[D.pys,PyData.eqvAll,ej,O3 x y h1.1 h2.1,J0 xs ys h1.2 h2.2,List.cons.injEq]
end
theorem O4(t:Tr):(dy t).pl=true:=by
 induction t with
 |name s=>rfl
 |num i=>rfl
 |un w t ih=>simp[dy,D.pl,D.pls,ih]
 |bin w a b iha ihb=>simp[dy,D.pl,D.pls,iha,ihb]
 |sc w a b iha ihb=>simp[dy,D.pl,D.pls,iha,ihb]
 |mem w a b iha ihb=>simp[dy,D.pl,D.pls,iha,ihb]
 |rng a b iha ihb=>simp[dy,D.pl,D.pls,iha,ihb]
 |pn t ih=>simp[dy,D.pl,D.pls,ih]
theorem nk{C:Prop}{a b:Nat}(h:a=b)(k:Nat.beq a b=false):C:=by subst h;rw[Nat.beq_refl]at k;exact nomatch k
theorem Aw{a b:D}{l m:List D}(e:D.tup (a::l)= .tup (b::m)):a=b/\D.tup l= .tup m:=⟨(List.cons.inj (D.tup.inj e)).1,dN D.tup (List.cons.inj (D.tup.inj e)).2⟩
theorem t2{a b c d:D}(e:D.tup [a,b]= .tup [c,d]):a=c/\b=d:=⟨(Aw e).1,(Aw (Aw e).2).1⟩
theorem t3{a b x c d y:D}(e:D.tup [a,b,x]= .tup [c,d,y]):a=c/\b=d/\x=y:=⟨(Aw e).1,t2 (Aw e).2⟩
def kTr(w:List Nat):Nat:=if w=fk then 0 else if w=ic then 1 else if w=lH then 2 else if w=iQ then 3 else if w=eA\/w=fg then 4 else if w=fD then 6 else if w=tZ then 7 else 5
noncomputable def Zz:Tr->Nat
 | .name _=>0
 | .num _=>1
 | .un .. =>2
 | .bin .. =>3
 | .sc .. =>4
 | .mem .. =>5
 | .rng .. =>6
 | .pn _=>7
theorem J3(h:PT t):kTr (Bx t)=Zz t:=by
 cases t with
 |sc w a b=>rcases h.1 with q|q<;>subst q<;>rfl
 |mem w a b=>rcases h.1 with q|q<;>subst q<;>rfl
 |_=>rfl
theorem tS{u:Tr}(h1:PT t)(h2:PT u)(h:dy t=dy u):Zz t=Zz u:=by rw[<-J3 h1,<-J3 h2];refine oE (ue t) λl e=>oE (ue u) λm e'=> ?_;rw[e,e']at h;exact dN kTr (D.str.inj (Aw h).1)
theorem Rj:∀{u:Tr},PT t->PT u->dy t=dy u->t=u:=by
 induction t with
 |name s=>intro u h1 h2 e;have hk:=tS h1 h2 e;cases u with
  |name s'=>exact dN Tr.name (D.str.inj (t2 e).2)
  |_=>exact nk hk rfl
 |num i=>intro u h1 h2 e;have hk:=tS h1 h2 e;cases u with
  |num j=>exact dN Tr.num (Int.ofNat.inj (D.int.inj (t2 e).2))
  |_=>exact nk hk rfl
 |un w t ih=>intro u h1 h2 e;have hk:=tS h1 h2 e;cases u with
  |un w' t'=>have e:=(t3 e).2;rw[D.str.inj e.1,ih h1.2 h2.2 e.2]
  |_=>exact nk hk rfl
 |bin w a b iha ihb=>intro u h1 h2 e;have hk:=tS h1 h2 e;cases u with
  |bin w' a' b'=>have e:=t3 (Aw e).2;rw[D.str.inj e.1,iha h1.2.1 h2.2.1 e.2.1,ihb h1.2.2 h2.2.2 e.2.2]
  |_=>exact nk hk rfl
 |sc w a b iha ihb=>intro u h1 h2 e;have hk:=tS h1 h2 e;cases u with
  |sc w' a' b'=>have e:=t3 e;rw[D.str.inj e.1,iha h1.2.1 h2.2.1 e.2.1,ihb h1.2.2 h2.2.2 e.2.2]
  |_=>exact nk hk rfl
 |mem w a b iha ihb=>intro u h1 h2 e;have hk:=tS h1 h2 e;cases u with
  |mem w' a' b'=>have e:=t3 e;rw[D.str.inj e.1,iha h1.2.1 h2.2.1 e.2.1,ihb h1.2.2 h2.2.2 e.2.2]
  |_=>exact nk hk rfl
 |rng a b iha ihb=>intro u h1 h2 e;have hk:=tS h1 h2 e;cases u with
  |rng a' b'=>have e:=t3 e;rw[iha h1.1 h2.1 e.2.1,ihb h1.2 h2.2 e.2.2]
  |_=>exact nk hk rfl
 |pn t ih=>intro u h1 h2 e;have hk:=tS h1 h2 e;cases u with
  |pn t'=>rw[ih h1.2 h2.2 (t2 e).2]
  |_=>exact nk hk rfl
theorem J4{u:Tr} [Decidable (t=u)](h1:PT t)(h2:PT u)(s1:sz t<=60)(s2:sz u<=60):l5 (dy t) (dy u)=some (decide (t=u)):=by
 have d1:=yC h1;have d2:=yC h2;have o1:=Eg h1;have o2:=Eg h2;refine oE (ue t) λl e1=> ?_;refine oE (ue u) λm e2=> ?_
 have hd:I7 (dy t) (dy u)=decide (t=u):=by
  have:=O3 (dy t) (dy u) (O4 t) (O4 u);by_cases q:t=u
  ·rw[eE q];exact this.mpr (by rw[q])
  ·rw[ft q];cases z:I7 (dy t) (dy u)
   ·rfl
   ·exact absurd (Rj h1 h2 (this.mp z)) q
 rw[<-hd];rw[e1]at d1 o1 ⊢;rw[e2]at d2 o2 ⊢;exact JH o1 o2 (Mc s1 d1) (Mc s2 d2)
theorem GP{u:Tr}(h2:PT u)(s2:sz u<=60):l5 .none (dy u)=some false:=by have d2:=yC h2;have o2:=Eg h2;refine oE (ue u) λm e2=> ?_;rw[e2]at d2 o2 ⊢;show(if D.none.ok &&(D.tup _).ok && decide (D.none.dep<=64) && decide ((D.tup _).dep<=64)then some (I7 .none (.tup _))else none)=_;rw[o2,eE (show(D.tup (D.str (Bx u)::m)).dep<=64 by exact Mc s2 d2)];rfl
theorem tU{t:Tr}(h:Sh t)(hv:LV t):PT t:=by
 have asc_b:∀w ∈ sM,Pd w=true:=by decide
 have asc_u:∀w ∈ Bt,Pd w=true:=by decide
 match t,h with
 | .name s,_=>
  rcases hv with rfl|rfl|rfl
  ·show Pd Sv=true;decide
  ·show Pd Sw=true;decide
  ·show Pd Sx=true;decide
 | .num i,_=>trivial
 | .un w t,h=>exact⟨asc_u w h.1,tU (Sh.of h.2) hv⟩
 | .bin w a b,h=>exact⟨asc_b w h.1,tU (Sh.of h.2.1) hv.1,tU (Sh.of h.2.2) hv.2⟩
 | .sc w a b,h=>exact⟨h.1,tU (Sh.of h.2.1) hv.1,tU (Sh.of h.2.2) hv.2⟩
 | .mem w t (.rng a b),h=>exact⟨h.1,tU (Sh.of h.2.1) hv.1,tU (t:= .rng a b) h.2.2 hv.2⟩
 | .rng a b,h=>exact⟨tU (Sh.of h.1) hv.1,tU (Sh.of h.2) hv.2⟩
theorem pU{t:Tr}(h:Sh t):sz t<=ops (tk t):=by
 have c1:∀w,w ∈ sM\/w ∈ Bt->sD (iW w)=true:=by
  have h1:∀w ∈ sM,sD (iW w)=true:=by decide
  have h2:∀w ∈ Bt,sD (iW w)=true:=by decide
  exactλw h=>h.elim (h1 w) (h2 w)
 match t,h with
 | .name s,_=>exact iq _
 | .num i,_=>exact iq _
 | .un w t,h=>
  have:=pU (Sh.of h.2);simp only[tk,sz,kn,mU,c1 w (.inr h.1),if_true];exact RG this
 | .bin w a b,h=>
  have tz1:=pU (Sh.of h.2.1);have tz2:=pU (Sh.of h.2.2);simp only[tk,sz,nJ,kn,mU,c1 w (.inl h.1),if_true];exact(lx (.l (.a (.a A0 A2) K1) (.a A1 (.a A3 K1))) [.l A0 A1,.l A2 A3]) tz1 tz2
 | .sc w a b,h=>
  have tz3:=pU (Sh.of h.2.1);have tz4:=pU (Sh.of h.2.2);have tz5:ops (z6 w)=2:=by unfold z6;split<;>decide
  simp only[tk,sz,nJ,mU];exact(BB (.l (.a (.a A0 A2) K1) (.a A1 (.a A4 A3))) [.l A0 A1,.l A2 A3,.e A4 (.k 2)]) tz3 tz4 tz5
 | .mem w t (.rng a b),h=>
  have tz6:=pU (Sh.of h.2.1);have h3:=pU (t:= .rng a b) h.2.2;have tz7:1<=ops (oo w):=by unfold oo;split<;>decide
  have e:tk (.mem w t (.rng a b))=brk (ew 3 t) (tk t)++(oo w++tk (.rng a b)):=rfl;rw[e,nJ,nJ,mU];simp only[sz]at h3 ⊢;exact(Ke (.l (.a (.a A0 (.a (.a A2 A3) K1)) K1) (.a A1 (.a A5 A4))) [.l A0 A1,.l (.a (.a A2 A3) K1) A4,.l K1 A5]) tz6 h3 tz7
 | .rng a b,h=>
  have tz8:=pU (Sh.of h.1);have tz9:=pU (Sh.of h.2);have:sD (.op jD)=true:=by decide
  simp only[tk,sz,nJ,kn,mU,this,if_true];exact(lx (.l (.a (.a A0 A2) K1) (.a A1 (.a A3 K1))) [.l A0 A1,.l A2 A3]) tz8 tz9
theorem tW{s:List Nat}(h:s.length<=10 * l.length)(c:Nat):(tb c s).length<=10 *(brk c l).length:=by
 unfold tb brk;split
 ·exact h
 ·simp only[dI,eD,List.length_nil];have tz10:fT.length=1:=rfl;have:eY.length=1:=rfl;exact(lx (.l (.a (.a A2 A0) A3) (.l 10 (.a (.a A1 (.a (.k 0) K1)) K1))) [.l A0 (.l 10 A1),.e A2 K1,.e A3 K1]) h tz10 this
theorem qC{t:Tr}(h:Sh t)(hv:LV t):(tx t).length<=10 *(tk t).length:=by
 have lb:∀w ∈ sM,(bT w).length<=10:=by decide
 have lu:∀w ∈ Bt,w.length<=3:=by decide
 match t,h with
 | .name s,_=>rcases hv with rfl|rfl|rfl<;>decide
 | .num i,_=>
  have:=Eo i;simp only[tx,tk,eD,List.length_nil];exact(lE (.l A0 (.l 10 (.a (.k 0) K1))) [.l A0 (.k 2)]) this
 | .un w t,h=>
  have h1:=qC (Sh.of h.2) hv;have h2:=tW h1 (vc w t);have h3:=lu w h.1;have h21:eP.length=1:=rfl;simp only[tk,eD];unfold vc at h2 ⊢;simp only[tx];by_cases q:w=i8\/w=iR
  ·rw[cH q]at h2 ⊢;rw[cH q];simp only[dI];exact(kI (.l (.a A2 A0) (.l 10 (.a A1 K1))) [.l A0 (.l 10 A1),.l A2 (.k 3)]) h2 h3
  ·rw[cJ q]at h2 ⊢;rw[cJ q];simp only[dI];exact(lx (.l (.a (.a A2 A3) A0) (.l 10 (.a A1 K1))) [.l A0 (.l 10 A1),.l A2 (.k 3),.e A3 K1]) h2 h3 h21
 | .bin w a b,h=>
  have h1:=tW (qC (Sh.of h.2.1) hv.1) (mP (cls w) a);have h2:=tW (qC (Sh.of h.2.2) hv.2) (kE (cls w) b);have h3:=lb w h.1;simp only[tx,tk,dI,eD];exact(BB (.l (.a A0 (.a A4 A2)) (.l 10 (.a A1 (.a A3 K1)))) [.l A0 (.l 10 A1),.l A2 (.l 10 A3),.l A4 (.k 10)]) h1 h2 h3
 | .sc w a b,h=>
  have h1:=tW (qC (Sh.of h.2.1) hv.1) (km w a);have h2:=tW (qC (Sh.of h.2.2) hv.2) (ew 4 b);have h3:(oM w).length<=8/\(z6 w).length=2:=by rcases h.1 with rfl|rfl<;>decide
  have h21:eP.length=1:=rfl;simp only[tx,tk,dI];exact(Kf (.l (.a A0 (.a (.a (.a A6 A4) A6) A2)) (.l 10 (.a A1 (.a A5 A3)))) [.l A0 (.l 10 A1),.l A2 (.l 10 A3),.c (.l A4 (.k 8)) (.e A5 (.k 2)),.e A6 K1]) h1 h2 h3 h21
 | .mem w t (.rng a b),h=>
  have h1:=tW (qC (Sh.of h.2.1) hv.1) (ew 3 t);have h2:=qC (t:= .rng a b) h.2.2 hv.2;have h3:(yo w).length<=8/\1<=(oo w).length:=by rcases h.1 with rfl|rfl<;>decide
  have e1:tx (.mem w t (.rng a b))=tb (ew 3 t) (tx t)++yo w++tx (.rng a b):=rfl;have e2:tk (.mem w t (.rng a b))=brk (ew 3 t) (tk t)++(oo w++tk (.rng a b)):=rfl;rw[e1,e2];simp only[dI];exact(Ke (.l (.a (.a A0 A4) A2) (.l 10 (.a A1 (.a A5 A3)))) [.l A0 (.l 10 A1),.l A2 (.l 10 A3),.c (.l A4 (.k 8)) (.l K1 A5)]) h1 h2 h3
 | .rng a b,h=>
  have h1:=tW (qC (Sh.of h.1) hv.1) (ew 3 a);have h2:=tW (qC (Sh.of h.2) hv.2) (ew 3 b);have h22:vL.length=4:=rfl;simp only[tx,tk,dI,eD];exact(BB (.l (.a (.a A0 A4) A2) (.l 10 (.a A1 (.a A3 K1)))) [.l A0 (.l 10 A1),.l A2 (.l 10 A3),.e A4 (.k 4)]) h1 h2 h22
theorem r9{t:Tr}(h:WF t):ht t<=2 * mS t:=by
 match t,h with
 | .name s,_=>exact iq _
 | .num i,_=>exact iq _
 | .un w t,h=>have:=r9 h.2;exact(ie (.l (.a A0 K1) (.l 2 (.a A1 K1))) [.l A0 (.l 2 A1)]) this
 | .bin w a b,h=>have tz11:=r9 h.2.1;have tz12:=r9 h.2.2;exact(lx (.l (.a (.ma A0 A2) K1) (.l 2 (.a (.ma A1 A3) K1))) [.l A0 (.l 2 A1),.l A2 (.l 2 A3)]) tz11 tz12
 | .sc w a b,h=>have tz13:=r9 h.2.1;have tz14:=r9 h.2.2;exact(lx (.l (.a (.ma A0 A2) K1) (.l 2 (.a (.ma A1 A3) K1))) [.l A0 (.l 2 A1),.l A2 (.l 2 A3)]) tz13 tz14
 | .mem w t (.rng a b),h=>have tz15:=r9 h.2.1;have tz16:=r9 h.2.2.1;have:=r9 h.2.2.2;exact(Ke (.l (.a (.ma A0 (.a (.ma A2 A4) K1)) K1) (.l 2 (.a (.ma A1 (.ma A3 A5)) K1))) [.l A0 (.l 2 A1),.l A2 (.l 2 A3),.l A4 (.l 2 A5)]) tz15 tz16 this
section
variable{W:Nat}
abbrev Sc:=List Nat×List (Nat×Nat)
def Rk(i:Nat)(x:Tk)(s:Sc):Option Sc:=if x= .op fT then some (s.1++[i],s.2)else if x= .op eY then s.1.getLast?.map λj=>(s.1.dropLast,s.2++[(j,i)])else some s
noncomputable def wA:Nat->List Tk->Sc->Option Sc
 |_,[],s=>some s
 |i,x::l,s=>(Rk i x s).bind (wA (i+1) l)
theorem GQ(l m:List Tk):∀(i:Nat)(s:Sc),wA i (l++m) s=(wA i l s).bind (wA (i+l.length) m):=by
 induction l with
 |nil=>intro i s;rfl
 |cons x l ih=>
  intro i s;simp only[mj,wA,eD];cases Rk i x s with
  |none=>rfl
  |some s'=>
   simp only[gQ];rw[ih,show i+1+l.length=i+(l.length+1) by exact Ma]
def VP(l:List Tk)(i:Nat)(p:Nat×Nat):Prop:=∃A B C,l=A++ .op fT::(B++ .op eY::C)/\p=(i+A.length,i+A.length+B.length+1)
def Cn(l:List Tk):Prop:=∀(i:Nat)(st:List Nat)(ps:List (Nat×Nat)),∃P,wA i l (st,ps)=some (st,ps++P)/\P.length=gq l/\∀p ∈ P,VP l i p
theorem Cn.nil:Cn []:=λi st ps=>⟨[],by simp[wA],rfl,λp h=>by simp at h⟩
theorem Cn.app{m:List Tk}(h1:Cn l)(h2:Cn m):Cn (l++m):=by
 intro i st ps;refine ot (h1 i st ps) λP e1 n1 v1=> ?_;refine ot (h2 (i+l.length) st (ps++P)) λQ e2 n2 v2=> ?_;refine⟨P++Q,by rw[GQ,e1];simp only[gQ];rw[e2,d6],by rw[dI,ny,n1,n2],?_⟩;intro p hp;rw[eF]at hp;rcases hp with hp|hp
 ·refine o8 (v1 p hp) λA B C e q=> ?_;exact⟨A,B,C++m,by rw[e];simp,q⟩
 ·refine o8 (v2 p hp) λA B C e q=> ?_;refine⟨l++A,B,C,by rw[e];simp,?_⟩;rw[q,dI];simp only[j8];exact(lx (.c (.e (.a (.a A0 A1) A2) (.a A0 (.a A1 A2))) (.e (.a (.a (.a (.a A0 A1) A2) A3) K1) (.a (.a (.a A0 (.a A1 A2)) A3) K1))) [])
theorem Cn.cons{x:Tk}(hx:x≠.op fT)(hx2:x≠.op eY)(h:Cn l):Cn (x::l):=by
 have h1:Cn [x]:=by intro i st ps;refine⟨[],by simp[wA,Rk,hx,hx2],?_,λp h=>by simp at h⟩;rw[j3,cJ hx];rfl
 exact h1.app h
theorem Cn.brk{l:List Tk}(h:Cn l)(c:Nat):Cn (Internal.brk c l):=by
 unfold Internal.brk;split
 ·exact h
 intro i st ps;refine ot (h (i+1) (st++[i]) ps) λP e1 n1 v1=> ?_;refine⟨P++[(i,i+1+l.length)],?_,?_,?_⟩
 ·have e0:Rk i (.op fT) (st,ps)=some (st++[i],ps):=rfl
  have e2:Rk (i+1+l.length) (.op eY) (st++[i],ps++P)=some (st,ps++P++[(i,i+1+l.length)]):=by
   have:¬(Tk.op eY= .op fT):=by decide
   simp[Rk,this]
  simp only[wA,e0,gQ,GQ,e1,e2];rw[d6]
 ·rw[dI,n1,j3,ny,cH rfl,j3,cJ (by decide)];have:gq []=0:=rfl;simp only[List.length_singleton];exact(ie (.e (.a A1 K1) (.a (.a A1 (.a A0 (.k 0))) K1)) [.e A0 (.k 0)]) this
 ·intro p hp;rw[eF]at hp;rcases hp with hp|hp
  ·refine o8 (v1 p hp) λA B C e q=> ?_;refine⟨.op fT::A,B,C++[.op eY],by rw[e];simp,?_⟩;rw[q];simp only[eD,j8];exact(kI (.c (.e (.a (.a A0 K1) A1) (.a A0 (.a A1 K1))) (.e (.a (.a (.a (.a A0 K1) A1) A2) K1) (.a (.a (.a A0 (.a A1 K1)) A2) K1))) [])
  ·simp only[ff]at hp;exact⟨[],l,[],rfl,by rw[hp];simp only[List.length_nil,j8];exact(ie (.c (.e A0 (.a A0 (.k 0))) (.e (.a (.a A0 K1) A1) (.a (.a (.a A0 (.k 0)) A1) K1))) [])⟩
theorem GS(h:w≠eY):iW w≠.op eY:=by
 unfold iW;split
 ·intro z;injection z with z;exact h z
 ·intro z;cases z
theorem qD(t:Tr)(h:Sh t):Cn (tk t):=by
 match t,h with
 | .name s,_=>exact Cn.nil.cons (by intro z;cases z) (by intro z;cases z)
 | .num i,_=>exact Cn.nil.cons (by intro z;cases z) (by intro z;cases z)
 | .un w t,h=>exact((qD t (Sh.of h.2)).brk _).cons (v8 w) (GS (O2 h.1))
 | .bin w a b,h=>exact((qD a (Sh.of h.2.1)).brk _).app (((qD b (Sh.of h.2.2)).brk _).cons (v8 w) (GS (JW h.1)))
 | .sc w a b,h=>
  have h1:=(qD a (Sh.of h.2.1)).brk (km w a);have h2:=(qD b (Sh.of h.2.2)).brk (ew 4 b)
  have hm:∀l,Cn l->Cn (z6 w++l):=by intro l hl;unfold z6;split<;>exact(hl.cons (by intro z;cases z) (by intro z;cases z)).cons (by intro z;cases z) (by intro z;cases z)
  exact h1.app (hm _ h2)
 | .mem w t (.rng a b),h=>
  have h1:=(qD t (Sh.of h.2.1)).brk (ew 3 t);have h2:=qD (.rng a b) h.2.2
  have hm:∀l,Cn l->Cn (oo w++l):=by
   intro l hl;unfold oo;split
   ·exact hl.cons (by intro z;cases z) (by intro z;cases z)
   ·exact(hl.cons (by intro z;cases z) (by intro z;cases z)).cons (by intro z;cases z) (by intro z;cases z)
  exact h1.app (hm _ h2)
 | .rng a b,h=>exact((qD a (Sh.of h.1)).brk _).app (((qD b (Sh.of h.2)).brk _).cons (by decide) (by decide))
end
section
variable{W:Nat}
theorem O5(h:WF t)(hh:mS t<=24)(hl:(tk t).length<W):Pe W (tk t)=dy t:=by unfold Pe;rw[W4 h hh hl]
theorem Rm(h:WF t)(hv:LV t)(ho:ops (tk t)<=56){A B C:List Tk}(e:tk t=A++ .op fT::(B++ .op eY::C)):
  rS (A++B++C)/\ops (A++B++C)<=56/\(A++B++C).all Tk.ok=true/\(A++B++C≠[]->l5 (Pe W (A++B++C)) (dy t)=some false):=by
 have hg:=sG t (Sh.of h) hv;have hb:=tQ t (Sh.of h)
 have hops:ops (tk t)=ops (A++B++C):=by
  rw[e];simp only[nJ,kn];have h1:¬(sD (.op fT)=true):=by decide
  have h2:¬(sD (.op eY)=true):=by decide
  rw[cJ h1,cJ h2];exact(kI (.e (.a A0 (.a (.a A1 (.a A2 (.k 0))) (.k 0))) (.a (.a A0 A1) A2)) [])
 have hopn:gq (tk t)=gq (A++B++C)+1:=by
  rw[e];simp only[ny,j3];have h2:¬(Tk.op eY= .op fT):=by decide
  rw[cH trivial,cJ h2];exact(kI (.e (.a A0 (.a (.a A1 (.a A2 (.k 0))) K1)) (.a (.a (.a A0 A1) A2) K1)) [])
 have hg':(A++B++C).all gd=true:=by rw[e]at hg;simp only[List.all_append,hP,ej]at hg ⊢;exact⟨⟨hg.1,hg.2.2.1⟩,hg.2.2.2.2⟩
 have hok:=GN hg'
 have hna:na (A++B++C):=by rw[d6];rw[e]at hb;exact Vc hb
 refine⟨JY hg' hna,by exact(ie (.l A1 (.k 56)) [.l A0 (.k 56),.e A0 A1]) ho hops,hok,λ_=> ?_⟩;have pt:=tU (Sh.of h) hv;have st:=pU (Sh.of h);unfold Pe;cases q:ng (pB W 24) W (A++B++C)with
 |none=>exact GP pt (Me ho hops st)
 |some x=>
  obtain⟨u,r⟩:=x;cases r with
  |cons y r=>exact GP pt (Me ho hops st)
  |nil=>
   refine wB (Gp (Ag W 24) W _ _ _ hok q) λi1 i2 i3=> ?_;have hp:=Y6 W 24 q;have hn:=lU t h;show l5 (dy u) (dy t)=some false;rw[@J4 _ _ (Classical.propDecidable _) i1 pt (Wt ho hops i3) (Me ho hops st)];exact dN some (@ft _ (Classical.propDecidable _) λz=>by subst z;exact(kI (.f) [.l A0 A1,.e A2 (.a A1 K1),.e A2 A0]) hp hopn hn)
noncomputable def tX(p:Nat×Nat):D:= .tup [.int p.1,.int p.2]
def lS(b:List MO)(s:Sc):List MO:=b++[.list (s.2.map tX),.list (s.1.map λi=> .int (i:Nat))]
def l1B(aa:Lo):M Fl:=(dn (eS (dz .Eq (lG (dP (cG aa 3) (cG aa 6)) none (some (cY 2))) (f7 [(cW i7),(cW fT)])) (oz aa (jC (cG aa 5) (cG aa 6))) (dF aa)) λaa=>(eS (dz .Eq (lG (dP (cG aa 3) (cG aa 6)) none (some (cY 2))) (f7 [(cW i7),(cW eY)])) (oz aa (jC (cG aa 4) (f7 [(E7 (cG aa 5)),(cG aa 6)]))) (dF aa)))
noncomputable def jz(x0 x1 x2:Option PV)(j L i:Nat)(x6:Option PV):Lo:=[x0,x1,x2,some (.ref j),some (.ref L),some (.ref (L+1)),x6,none,none]
theorem X0(x:Tk)(s:List Nat):x.is i7 s=decide (x= .op s):=by
 cases x with
 |op v=>
  show(i7 == i7 && v == s)=_;by_cases q:v=s
  ·subst q;simp
  ·have:(v == s)=false:=by simpa using q
   rw[this,ft (by intro z;injection z with z;exact q z)];simp
 |word v=>rw[ft (by intro z;cases z)];rfl
 |name v=>rw[ft (by intro z;cases z)];rfl
 |int v=>rw[ft (by intro z;cases z)];rfl
theorem O6{j:Nat}{x:Tk}{ah:List Tk}{s:List Nat}(h3:(aa[3]?).join=some (.ref j))(h6:(aa[6]?).join=some (.d (.int i)))(hj:dW σ (.ref j)=some (ah.map Tk.d))(hx:ah[i]? =some x)(ok:x.ok=true)(hl:ah.length<500)(hs:s.all (· <0x110000)=true):
  dz .Eq (lG (dP (cG aa 3) (cG aa 6)) none (some (cY 2))) (f7 [(cW i7),(cW s)]) σ=some (.ok (decide (x= .op s)),σ):=by
 have hi:i<ah.length:=(ek.mp hx).1;have h7:(i:Int).natAbs<2 ^ 40:=Wr hl hi;have h8:seqIndex? (i:Int) (ah.map Tk.d).length=some i:=W5 (by rw[f6];exact hi)
 have s1:gZ σ (.ref j) (.d (.int i))=some (.d (.tup [.str x.kind,x.val,.int 1])):=by simp only[gZ,cH h7,hj,Option.bind,h8,List.getElem?_map,hx,Option.map];rfl
 have c1:gJ σ .Eq (.d (.tup [.str x.kind,x.val])) (.d (.tup [.str i7,.str s]))=some (decide (x= .op s)):=by rw[<-X0];exact D6 x ok _ _ (by decide) hs
 simp[bnd,lift,h3,h6,ret,E5,s1,ut,wN,QH,ja,EO,qJ,eZ,ir,c1]
theorem Rn{b:List MO}{x0 x1 x2:Option PV}{j:Nat}{x:Tk}{ah:List Tk}{s s':Sc}(hj:b[j]? =some (.list (ah.map Tk.d)))(hx:ah[i]? =some x)(ok:x.ok=true)(hl:ah.length<500)(hs1:s.1.length<1000)(hs2:s.2.length<1000)(e:Rk i x s=some s'):
  l1B (jz x0 x1 x2 j b.length i (some (.d (.int i)))) (lS b s)=some (.ok (.nxt (jz x0 x1 x2 j b.length i (some (.d (.int i))))),lS b s'):=by
 have hjl:=(ek.mp hj).1
 have hg:∀s,dW (lS b s) (.ref j)=some (ah.map Tk.d):=by
  intro s;have:(lS b s)[j]? =some (.list (ah.map Tk.d)):=by unfold lS;rw[fH hjl];exact hj
  simp only[dW,this]
 have t1:=O6 (σ:=lS b s) (aa:=jz x0 x1 x2 j b.length i (some (.d (.int i)))) (s:=fT) rfl rfl (hg s) hx ok hl (by decide);have t2:=O6 (σ:=lS b s) (aa:=jz x0 x1 x2 j b.length i (some (.d (.int i)))) (s:=eY) rfl rfl (hg s) hx ok hl (by decide);unfold Rk at e;by_cases q1:x= .op fT
 ·rw[cH q1]at e;replace e:=si e;subst e;rw[eE q1]at t1;have t2':=O6 (σ:=lS b (s.1++[i],s.2)) (aa:=jz x0 x1 x2 j b.length i (some (.d (.int i)))) (s:=eY) rfl rfl (hg _) hx ok hl (by decide);rw[ft (by rw[q1];decide)]at t2';have r1:qM (lS b s) (.ref (b.length+1))=some (b.length+1,s.1.map λi=> .int (i:Nat)):=by simp[qM,lS]
  have ap:kz (.ref (b.length+1)) (cG (jz x0 x1 x2 j b.length i (some (.d (.int i)))) 6) (lS b s)=some (.ok (.d .none),lS b (s.1++[i],s.2)):=by have hm:cG (jz x0 x1 x2 j b.length i (some (.d (.int i)))) 6 (lS b s)=some (.ok (.d (.int i)),lS b s):=rfl;simp only[kz,r1,Option.bind,bnd,hm];rw[cH (by simp only[f6,eZ];exact mq hs1 rfl)];simp[lS]
  refine(ij (l:=jz x0 x1 x2 j b.length i (some (.d (.int i)))) (σ':=lS b (s.1++[i],s.2)) ?_).trans ?_
  ·have:=An (aa:=jz x0 x1 x2 j b.length i (some (.d (.int i)))) (IF (aa:=jz x0 x1 x2 j b.length i (some (.d (.int i)))) (i:=5) (v:= .ref (b.length+1)) rfl ap);simp only[eS,bnd,t1];exact this
  ·simp only[eS,bnd,t2'];rfl
 ·rw[cJ q1]at e;rw[ft q1]at t1;by_cases q2:x= .op eY
  ·rw[cH q2]at e;rw[eE q2]at t2;refine eN (fe.mp e) λk hk ez1=> ?_;subst ez1;have r1:qM (lS b s) (.ref (b.length+1))=some (b.length+1,s.1.map λi=> .int (i:Nat)):=by simp[qM,lS]
   have pp:Mp (.ref (b.length+1)) (lS b s)=some (.ok (.d (.int k)),lS b (s.1.dropLast,s.2)):=by simp only[Mp,r1,Option.bind];rw[cH (by simp only[f6,eZ];exact yH hs1 rfl),List.getLast?_map,hk];simp[lS,List.map_dropLast]
   have r2:qM (lS b s) (.ref b.length)=some (b.length,s.2.map tX):=by simp[qM,lS]
   have r3:qM (lS b (s.1.dropLast,s.2)) (.ref b.length)=some (b.length,s.2.map tX):=by simp[qM,lS]
   have hm:f7 [(E7 (cG (jz x0 x1 x2 j b.length i (some (.d (.int i)))) 5)),(cG (jz x0 x1 x2 j b.length i (some (.d (.int i)))) 6)] (lS b s)=some (.ok (.d (tX (k,i))),lS b (s.1.dropLast,s.2)):=by have h5:cG (jz x0 x1 x2 j b.length i (some (.d (.int i)))) 5 (lS b s)=some (.ok (.ref (b.length+1)),lS b s):=rfl;have h6:∀τ,cG (jz x0 x1 x2 j b.length i (some (.d (.int i)))) 6 τ=some (.ok (.d (.int i)),τ):=λ_=>rfl;simp only[f7,E7,bnd,ja,h5,pp,h6,ret];rfl
   have ap:kz (.ref b.length) (f7 [(E7 (cG (jz x0 x1 x2 j b.length i (some (.d (.int i)))) 5)),(cG (jz x0 x1 x2 j b.length i (some (.d (.int i)))) 6)]) (lS b s)=some (.ok (.d .none),lS b (s.1.dropLast,s.2++[(k,i)])):=by simp only[kz,r2,Option.bind];simp only[bnd]at hm ⊢;simp only[hm,r3];rw[cH (by simp only[f6,eZ];exact mq hs2 rfl)];simp[lS]
   refine(g9 t1).trans ?_;have:=An (aa:=jz x0 x1 x2 j b.length i (some (.d (.int i)))) (IF (aa:=jz x0 x1 x2 j b.length i (some (.d (.int i)))) (i:=4) (v:= .ref b.length) rfl ap);simp only[eS,bnd]at t2 ⊢;simp only[t2];exact this
  ·rw[cJ q2]at e;replace e:=si e;subst e;rw[ft q2]at t2;refine(g9 t1).trans ?_;simp only[eS,bnd]at t2 ⊢;simp only[t2];rfl
end
section
variable{W:Nat}
theorem GT(l:List Tk):∀(i:Nat)(s s':Sc),wA i l s=some s'->s'.1.length<=s.1.length+l.length/\s'.2.length<=s.2.length+l.length:=by
 induction l with
 |nil=>intro i s s' e;replace e:=si e;subst e;simp
 |cons x l ih=>
  intro i s s' e;simp only[wA]at e;refine eN (dL.mp e) λs1 e1 e2=> ?_;have h:=ih _ _ _ e2
  have h1:s1.1.length<=s.1.length+1/\s1.2.length<=s.2.length+1:=by
   unfold Rk at e1;split at e1
   ·replace e1:=si e1;subst e1;simp
   ·split at e1
    ·refine eN (fe.mp e1) λk _ ez1=> ?_;subst ez1;simp;exact VR
    ·replace e1:=si e1;subst e1;exact(ie (.c (.l A0 (.a A0 K1)) (.l A1 (.a A1 K1))) [])
  simp only[eD];exact(Kf (.c (.l A0 (.a A5 (.a A2 K1))) (.l A3 (.a A6 (.a A2 K1)))) [.c (.l A0 (.a A1 A2)) (.l A3 (.a A4 A2)),.c (.l A1 (.a A5 K1)) (.l A4 (.a A6 K1))]) h h1
theorem Ro{b:List MO}{x0 x1 x2:Option PV}{j:Nat}{ah:List Tk}(hj:b[j]? =some (.list (ah.map Tk.d)))(ok:ah.all Tk.ok=true)(hl:ah.length<500)(rest:List Tk):∀(i K:Nat)(s s':Sc)(x6:Option PV),ah.drop i=rest->i<=ah.length->rest.length<K->s.1.length<=i->s.2.length<=i->wA i rest s=some s'->
  ∃x6',kM (LI ah.length) (qO 6) l1B K i (jz x0 x1 x2 j b.length i x6) (lS b s)=some (.ok (.nxt (jz x0 x1 x2 j b.length i x6')),lS b s'):=by
 induction rest with
 |nil=>
  intro i K s s' x6 hd hi hK h1 h2 e;replace e:=si e;subst e;obtain⟨K,rfl⟩:∃q,K=q+1:=⟨K -1,by simp at hK;exact qG hK rfl⟩
  have:i=ah.length:=by have:=dN List.length hd;simp at this;exact(ie (.e A0 A1) [.l A0 A1,.e (.s A1 A0) (.k 0)]) hi this
  subst this;exact⟨x6,by simp[kM,LI,ret]⟩
 |cons x rest ih=>
  intro i K s s' x6 hd hi hK h1 h2 e;simp only[eD]at hK;obtain⟨K,rfl⟩:∃q,K=q+1:=⟨K -1,by exact Mb hK⟩;simp only[wA]at e;refine eN (dL.mp e) λs1 e1 e2=> ?_
  have hlt:i<ah.length:=by have:=dN List.length hd;simp at this;exact(kI (.t A0 A1) [.l A0 A1,.e (.s A1 A0) (.a A2 K1)]) hi this
  have hx:ah[i]? =some x:=by have:=List.head?_drop (l:=ah) (i:=i);rw[hd]at this;exact this.symm
  have hox:=fu.mp ok x (gu hx);have st:=Rn (x0:=x0) (x1:=x1) (x2:=x2) hj hx hox hl (R7 hl h1 hlt) (R7 hl h2 hlt) e1;have hb:=GT [x] i s s1 (by simp only[wA,e1,gQ]);simp only[List.length_singleton]at hb;refine oE (ih (i+1) K s1 s' (some (.d (.int i))) (by rw[<-List.tail_drop,hd];rfl) (BD hlt) (IX hK) ((BB (.l A2 (.a A1 K1)) [.l A0 A1,.c (.l A2 (.a A0 K1)) (.l A3 (.a A4 K1))]) h1 hb) ((BB (.l A4 (.a A1 K1)) [.l A0 A1,.c (.l A2 (.a A3 K1)) (.l A4 (.a A0 K1))]) h2 hb) e2) λx7 e3=> ?_;refine⟨x7,?_⟩
  have hn:LI ah.length i (lS b s)=some (some (.d (.int i))):=by simp only[LI];rw[cH (yI hlt)]
  have ha:qO 6 (jz x0 x1 x2 j b.length i x6) (.d (.int i))=some (jz x0 x1 x2 j b.length i (some (.d (.int i)))):=rfl;simp only[kM,hn,ha,bnd,st];exact e3
def ZA(C:Addr->List PV->M PV)(aa:Lo):M Fl:=(eS (dz .Eq (cM (C iI) [(d7 .Add (d7 .Add (lG (cG aa 3) none (some (cG aa 7))) (lG (cG aa 3) (some (d7 .Add (cG aa 7) (cY 1))) (some (cG aa 8)))) (lG (cG aa 3) (some (d7 .Add (cG aa 8) (cY 1))) none))]) (cG aa 2)) cU (dF aa))
def oN(x0 x1:Option PV)(t:Tr)(j L:Nat)(x6 x7 x8:Option PV):Lo:=[x0,x1,some (.d (dy t)),some (.ref j),some (.ref L),some (.ref (L+1)),x6,x7,x8]
theorem ZB{A R:List Tk}:cut none (some (A.length:Int)) ((A++R).map Tk.d)=A.map Tk.d:=by simp only[cut,Option.elim,clipAt_nat];rw[qb (by simp)];simp
theorem ZC{A B R:List Tk}{x:Tk}:cut (some ((A.length+1:Nat):Int)) (some ((A.length+B.length+1:Nat):Int)) ((A++x::(B++R)).map Tk.d)=B.map Tk.d:=by
 simp only[cut,Option.elim,clipAt_nat];rw[qb (by simp only[f6,dI,eD];exact(kI (.l (.a (.a A0 A1) K1) (.a A0 (.a (.a A1 A2) K1))) [])),qb (by simp only[f6,dI,eD];exact(kI (.l (.a A0 K1) (.a A0 (.a (.a A1 A2) K1))) []))];rw[show A.length+B.length+1 - (A.length+1)=B.length by exact(ie (.e (.s (.a (.a A0 A1) K1) (.a A0 K1)) A1) []),<-List.map_drop,<-List.map_take]
 congr 1
 have:(A++x::(B++R)).drop (A.length+1)=B++R:=by rw[show A++x::(B++R)=(A++[x])++(B++R) by simp,show A.length+1=(A++[x]).length by simp,List.drop_left]
 rw[this,List.take_left]
theorem ZD{A C:List Tk}{x:Tk}:cut (some ((A.length+1:Nat):Int)) none ((A++x::C).map Tk.d)=C.map Tk.d:=by
 simp only[cut,Option.elim,clipAt_nat];rw[qb (by simp only[f6,dI,eD];exact(ie (.l (.a A0 K1) (.a A0 (.a A1 K1))) []))];rw[<-List.map_drop,List.take_of_length_le (by simp only[f6,mh];exact(ie (.l (.s A0 (.a A1 K1)) (.s A0 (.a A1 K1))) []))]
 congr 1
 rw[show A++x::C=(A++[x])++C by simp,show A.length+1=(A++[x]).length by simp,List.drop_left]
theorem Ey{τ:List MO}{j:Nat}{L R:List D}{a c:Option Int}(h:dW τ (.ref j)=some L)(hl:L.length<1000)(e:cut a c L=R)(hr:R.length<1000):wN (.ref j) a c τ=some (.ok (.ref τ.length),τ++[.list R]):=by show(dW τ (.ref j)).bind _=_;rw[h];simp only[Option.bind];rw[cH (by simp only[eZ];exact yH hl rfl),e];simp only[rA];rw[cH (by simp only[eZ];exact yH hr rfl)]
theorem J5{τ:List MO}{j:Nat}{L R:List D}(h1:dW τ (.ref i)=some L)(h2:dW τ (.ref j)=some R)(hl:L.length+R.length<2000):ly .Add (.ref i) (.ref j) τ=some (.ok (.ref τ.length),τ++[.list (L++R)]):=by show(dW τ (.ref i)).bind _=_;rw[h1];simp only[Option.bind,h2,rA];rw[cH (by simp only[dI,eZ];exact(ie (.l (.a A0 A1) (.k 4000000)) [.t (.a A0 A1) (.k 2000)]) hl)]
theorem J6{m1 m2:M PV}{τ1 τ2:List MO}{x y:PV}{r:Option (R PV×List MO)}(h1:m1 σ=some (.ok x,τ1))(h2:m2 τ1=some (.ok y,τ2))(h3:ly .Add x y τ2=r):d7 .Add m1 m2 σ=r:=by simp only[d7,bnd,h1,h2,h3]
theorem O7{f:List PV->M PV}{τ:List MO}{x:PV}{r:Option (R PV×List MO)}(h1:m σ=some (.ok x,τ))(h2:f [x] τ=r):cM f [m] σ=r:=by simp only[cM,bnd,ja,h1,ret,h2]
theorem Rp(h:WF t)(hv:LV t)(ho:ops (tk t)<=56)(hl:(tk t).length<500)(hW:500<=W)(hn:340<=n){j L:Nat}{x0 x1 x6:Option PV}(hc:Cl σ)(hj:σ[j]? =some (.list ((tk t).map Tk.d))){A B C:List Tk}(e:tk t=A++ .op fT::(B++ .op eY::C))(hne:A++B++C≠[]):
  ∃J,ZA (CN W n).c (oN x0 x1 t j L x6 (some (.d (.int A.length))) (some (.d (.int ((A.length+B.length+1:Nat)))))) σ=some (.ok (.nxt (oN x0 x1 t j L x6 (some (.d (.int A.length))) (some (.d (.int ((A.length+B.length+1:Nat))))))),σ++J)/\Cl (σ++J):=by
 refine S4 (Rm (W:=W) h hv ho e) λg o1 ok heq=> ?_;have heq:=heq hne;have hjl:=(ek.mp hj).1;have hle:(tk t).length=A.length+B.length+C.length+2:=by rw[e];simp;exact(kI (.e (.a A0 (.a (.a A1 (.a A2 K1)) K1)) (.a (.a (.a A0 A1) A2) (.k 2))) [])
 have gj:∀K:List MO,dW (σ++K) (.ref j)=some ((tk t).map Tk.d):=by
  intro K;have:(σ++K)[j]? =some (.list ((tk t).map Tk.d)):=by rw[fH hjl];exact hj
  simp only[dW,this]
 have ml:((tk t).map Tk.d).length<1000:=by simp;exact(lx (.t A0 (.k 1000)) [.t A0 (.k 500),.e A0 (.a (.a (.a A1 A2) A3) (.k 2))]) hl hle
 have la:(A.map Tk.d).length<1000:=by simp;exact(lx (.t A1 (.k 1000)) [.t A0 (.k 500),.e A0 (.a (.a (.a A1 A2) A3) (.k 2))]) hl hle
 have lb:(B.map Tk.d).length<1000:=by simp;exact(lx (.t A2 (.k 1000)) [.t A0 (.k 500),.e A0 (.a (.a (.a A1 A2) A3) (.k 2))]) hl hle
 have lc:(C.map Tk.d).length<1000:=by simp;exact(lx (.t A3 (.k 1000)) [.t A0 (.k 500),.e A0 (.a (.a (.a A1 A2) A3) (.k 2))]) hl hle
 obtain⟨DA,hDA⟩:∃x,x=A.map Tk.d:=⟨_,rfl⟩;obtain⟨DB,hDB⟩:∃x,x=B.map Tk.d:=⟨_,rfl⟩;obtain⟨DC,hDC⟩:∃x,x=C.map Tk.d:=⟨_,rfl⟩;have c1:cut none (some (A.length:Int)) ((tk t).map Tk.d)=DA:=by rw[e,hDA];exact ZB
 have c2:cut (some ((A.length+1:Nat):Int)) (some ((A.length+B.length+1:Nat):Int)) ((tk t).map Tk.d)=DB:=by rw[e,hDB];exact ZC
 have c3:cut (some ((A.length+B.length+1+1:Nat):Int)) none ((tk t).map Tk.d)=DC:=by
  have e':tk t=(A++ .op fT::B)++ .op eY::C:=by rw[e];simp
  have:=ZD (A:=A++ .op fT::B) (C:=C) (x:= .op eY);rw[<-e',show(A++Tk.op fT::B).length=A.length+B.length+1 by simp;exact(ie (.e (.a A0 (.a A1 K1)) (.a (.a A0 A1) K1)) [])]at this;rw[this,hDC]
 rw[<-hDA]at la;rw[<-hDB]at lb;rw[<-hDC]at lc;have lABC:DA.length+DB.length+DC.length<500:=by rw[hDA,hDB,hDC];simp;exact(lx (.t (.a (.a A1 A2) A3) (.k 500)) [.t A0 (.k 500),.e A0 (.a (.a (.a A1 A2) A3) (.k 2))]) hl hle
 have g0:=gj [];rw[gD]at g0;have s1:=Ey g0 ml c1 la;have s2:=Ey (gj [MO.list DA]) ml c2 lb;have s3:=J5 (τ:=σ++[MO.list DA]++[MO.list DB]) (i:=σ.length) (j:=(σ++[MO.list DA]).length) (L:=DA) (R:=DB) (by simp[dW]) (by simp[dW]) ((kI (.t (.a A1 A2) (.k 2000)) [.t A0 (.k 1000),.t (.a (.a A1 A2) A0) (.k 500)]) lc lABC);have s4:=Ey (τ:=σ++[MO.list DA]++[MO.list DB]++[MO.list (DA++DB)]) (j:=j) (by rw[d6,d6];exact gj _) ml c3 lc;have s5:=J5 (τ:=σ++[MO.list DA]++[MO.list DB]++[MO.list (DA++DB)]++[MO.list DC]) (i:=(σ++[MO.list DA]++[MO.list DB]).length) (j:=(σ++[MO.list DA]++[MO.list DB]++[MO.list (DA++DB)]).length) (L:=DA++DB) (R:=DC) (by simp[dW]) (by simp[dW]) (by simp;exact(kI (.t (.a (.a A0 A1) A2) (.k 2000)) [.t (.a (.a A0 A1) A2) (.k 500)]) lABC)
 have hcl:Cl (σ++[MO.list DA]++[MO.list DB]++[MO.list (DA++DB)]++[MO.list DC]++[MO.list (DA++DB++DC)]):=((((hc.app rfl).app rfl).app rfl).app rfl).app rfl;have hD:DA++DB++DC=(A++B++C).map Tk.d:=by rw[hDA,hDB,hDC];simp
 have h6:=JJ (σ:=σ++[MO.list DA]++[MO.list DB]++[MO.list (DA++DB)]++[MO.list DC]++[MO.list (DA++DB++DC)]) (W:=W) (n:=n) (j:=(σ++[MO.list DA]++[MO.list DB]++[MO.list (DA++DB)]++[MO.list DC]).length) (ah:=A++B++C) g o1 hW hn (by rw[hD];simp) hne (by simp;exact(lx (.t (.a A1 (.a A2 A3)) (.k 500)) [.t A0 (.k 500),.e A0 (.a (.a (.a A1 A2) A3) (.k 2))]) hl hle) ok hcl;have b1:∀τ,ly .Add (.d (.int A.length)) (.d (.int 1)) τ=some (.ok (.d (.int ((A.length+1:Nat)))),τ):=λ_=>rfl;have b2:∀τ,ly .Add (.d (.int ((A.length+B.length+1:Nat)))) (.d (.int 1)) τ=some (.ok (.d (.int ((A.length+B.length+1+1:Nat)))),τ):=λ_=>rfl
 refine⟨[MO.list DA]++[MO.list DB]++[MO.list (DA++DB)]++[MO.list DC]++[MO.list (DA++DB++DC)],?_,by simpa [d6] using hcl⟩;have hfin:∀τ,gJ τ .Eq (.d (Pe W (A++B++C))) (.d (dy t))=some false:=λ_=>heq;have hassoc:σ++([MO.list DA]++[MO.list DB]++[MO.list (DA++DB)]++[MO.list DC]++[MO.list (DA++DB++DC)])=σ++[MO.list DA]++[MO.list DB]++[MO.list (DA++DB)]++[MO.list DC]++[MO.list (DA++DB++DC)]:=by simp
 rw[hassoc];have p1:∀(i:Int) τ,ut (some (ret (.d (.int i)))) τ=some (.ok (some i),τ):=λ_ _=>rfl;generalize A.length+B.length+1+1=q2 at *;generalize A.length+B.length+1=q1 at *;generalize A.length+1=p1' at *;generalize A.length=p0 at *;generalize Pe W (A++B++C)=HR at *;have m1:(lG (cG (oN x0 x1 t j L x6 (some (.d (.int p0))) (some (.d (.int q1)))) 3) none (some (cG (oN x0 x1 t j L x6 (some (.d (.int p0))) (some (.d (.int q1)))) 7))) σ=some (.ok (.ref σ.length),σ++[MO.list DA]):=s1
 have m2:(lG (cG (oN x0 x1 t j L x6 (some (.d (.int p0))) (some (.d (.int q1)))) 3) (some (d7 .Add (cG (oN x0 x1 t j L x6 (some (.d (.int p0))) (some (.d (.int q1)))) 7) (cY 1))) (some (cG (oN x0 x1 t j L x6 (some (.d (.int p0))) (some (.d (.int q1)))) 8))) (σ++[MO.list DA])=some (.ok (.ref (σ++[MO.list DA]).length),σ++[MO.list DA]++[MO.list DB]):=by rw[<-s2];simp[oN,bnd,lift,ret,ut,b1]
 have m4:(lG (cG (oN x0 x1 t j L x6 (some (.d (.int p0))) (some (.d (.int q1)))) 3) (some (d7 .Add (cG (oN x0 x1 t j L x6 (some (.d (.int p0))) (some (.d (.int q1)))) 8) (cY 1))) none) (σ++[MO.list DA]++[MO.list DB]++[MO.list (DA++DB)])=some (.ok (.ref (σ++[MO.list DA]++[MO.list DB]++[MO.list (DA++DB)]).length),σ++[MO.list DA]++[MO.list DB]++[MO.list (DA++DB)]++[MO.list DC]):=by rw[<-s4];simp[oN,bnd,lift,ret,ut,b2]
 have m3:=J6 m1 m2 s3;have m5:=J6 m3 m4 s5;have m6:=O7 m5 h6;have hloc:∀τ,cG (oN x0 x1 t j L x6 (some (.d (.int p0))) (some (.d (.int q1)))) 2 τ=some (.ok (.d (dy t)),τ):=λ_=>rfl;simp only[ZA,eS,dz,bnd,ir]at m6 ⊢;simp only[m6,hloc,hfin,Option.map];rfl
end
section
variable{W:Nat}
noncomputable def J7:Tk->Bool
 | .name _=>true
 | .int _=>true
 |_=>false
theorem yF(h:l.any J7=true)(c:Nat):(brk c l).any J7=true:=by
 unfold brk;split
 ·exact h
 ·simp only[lF,List.any_append,h,Bool.true_or,Bool.or_true]
theorem uk{t:Tr}(h:WF t):(tk t).any J7=true:=by
 match t,h with
 | .name s,_=>rfl
 | .num i,_=>rfl
 | .un w t,h=>simp only[tk,lF,yF (uk h.2),Bool.or_true]
 | .bin w a b,h=>simp only[tk,List.any_append,yF (uk h.2.1),Bool.true_or]
 | .sc w a b,h=>simp only[tk,List.any_append,yF (uk h.2.1),Bool.true_or]
 | .mem w t (.rng a b),h=>
  show(brk (ew 3 t) (tk t)++_).any J7=true;simp only[List.any_append,yF (uk h.2.1),Bool.true_or]
theorem Vd(h:WF t){A B C:List Tk}(e:tk t=A++ .op fT::(B++ .op eY::C)):A++B++C≠[]:=by intro z;simp only[List.append_eq_nil_iff]at z;refine oA z λoz1 ez2=> ?_;clear z;obtain⟨rfl,rfl⟩:=oz1;subst ez2;have:=uk h;rw[e]at this;exact absurd this (by decide)
theorem Rq(h:WF t)(hv:LV t)(ho:ops (tk t)<=56)(hl:(tk t).length<500)(hW:500<=W)(hn:340<=n){j L:Nat}{x0 x1 x6:Option PV}{ps:List (Nat×Nat)}(hp:∀p ∈ ps,VP (tk t) 0 p)(hps:ps.length<1000)(K:Nat):∀(i:Nat)(τ:List MO)(x7 x8:Option PV),Cl τ->τ[j]? =some (.list ((tk t).map Tk.d))->τ[L]? =some (.list (ps.map tX))->i<=ps.length->ps.length -i<K->
  ∃loc' J,kM (uQ (.ref L)) (AG [7,8]) (ZA (CN W n).c) K i (oN x0 x1 t j L x6 x7 x8) τ=some (.ok (.nxt loc'),τ++J):=by
 induction K with
 |zero=>intro _ _ _ _ _ _ _ _ h;omega
 |succ K ih=>
  intro i τ x7 x8 hc hj hL hi hK;have hg:dW τ (.ref L)=some (ps.map tX):=by simp only[dW,hL]
  by_cases q:i<ps.length
  ·refine o8 (hp ps[i] (List.getElem_mem q)) λA B C e e2=> ?_;have hn':uQ (.ref L) i τ=some (some (.d (tX ps[i]))):=by simp[uQ,hg,q]
   rw[e2]at hn'
   have ha:AG [7,8] (oN x0 x1 t j L x6 x7 x8) (.d (tX (0+A.length,0+A.length+B.length+1)))=some (oN x0 x1 t j L x6 (some (.d (.int A.length))) (some (.d (.int ((A.length+B.length+1:Nat)))))):=by rw[Nat.zero_add];rfl
   refine eN (Rp (σ:=τ) (W:=W) (n:=n) (L:=L) (x0:=x0) (x1:=x1) (x6:=x6) h hv ho hl hW hn hc hj e (Vd h e)) λJ e3 hc2=> ?_;refine Ka (ih (i+1) (τ++J) (some (.d (.int A.length))) (some (.d (.int ((A.length+B.length+1:Nat))))) hc2 (by rw[fH (ek.mp hj).1];exact hj) (by rw[fH (ek.mp hL).1];exact hL) (BD q) (L2 hK q)) λloc' J2 e4=> ?_;refine⟨loc',J++J2,?_⟩;simp only[kM,hn',ha,bnd,e3];rw[e4,d6]
  ·have hn':uQ (.ref L) i τ=some none:=by simp[uQ,hg];exact EI hi q
   exact⟨oN x0 x1 t j L x6 x7 x8,[],by simp only[kM,hn',ret,gD]⟩
theorem Ve(xs:List D):cut none (some (40:Int)) xs=xs.take 40:=by
 have:((40:Nat):Int)=40:=rfl;simp only[cut,Option.elim,<-this,clipAt_nat,List.drop_zero,Nat.sub_zero];by_cases q:40<=xs.length
 ·rw[qb q]
 ·rw[Nat.min_eq_right (Sf q),List.take_of_length_le (ip _),List.take_of_length_le (Sf q)]
theorem X1{b:List MO}(h:Cl b)(s:Sc):Cl (lS b s):=by
 have:=(h.app (x:= .list (s.2.map tX)) rfl).app (x:= .list (s.1.map λi=> .int (i:Nat))) rfl;unfold lS
 simpa using this
theorem lawRun:z5:=by
 intro xs hxs;obtain⟨cells,hcells⟩:∃c,c=xs.take 40:=⟨_,rfl⟩;have hcl:cells.length<=40:=by rw[hcells];simp;exact(lE (.l (.mi (.k 40) A0) (.k 40)) [.l A0 (.k 63)]) hxs
 refine⟨400,200000,?_⟩;obtain⟨W,hW⟩:∃w:Nat,w=200000:=⟨_,rfl⟩;obtain⟨n,hn⟩:∃w:Nat,w=400:=⟨_,rfl⟩;rw[<-hW,<-hn];have U0:yE [.list (cells.map .int),sE 0 0 12] 1 0 cells 0 12:=⟨rfl,rfl,by decide,by unfold Cl;rfl,by exact qH hcl rfl⟩;refine iO (Xp W 4 n ((lE (.l (.a (.l 2 (.k 4)) (.k 2)) A0) [.e A0 (.k 400)]) hn) 4 _ 0 12 (by decide) U0 (by decide)) λt a' f' hs _ gr=> ?_;have U1:=U0.move a' f';have hb2:([MO.list (cells.map .int),sE 0 0 12].set 1 (sE 0 a' f'))=[MO.list (cells.map .int),sE 0 a' f']:=rfl;rw[hb2]at gr U1;obtain⟨b2,hb⟩:∃b,b=[MO.list (cells.map D.int),sE 0 a' f']:=⟨_,rfl⟩;have hb2l:b2.length=2:=by rw[hb];rfl
 rw[<-hb]at gr U1;have hc2:=U1.cl;have wf:=hs.wf;have lv:=hs.lv;have ho:ops (tk t)<=38:=hs.o;have hh:mS t<=4:=hs.h;have hl:(tk t).length<=441:=hs.l;have htt:=r9 wf;have htx:=qC (Sh.of wf) lv;have pt:=tU (Sh.of wf) lv;have szt:=pU (Sh.of wf);have h1:=XK (W:=W) ((lE (.l (.k 1000) A0) [.e A0 (.k 200000)]) hW) 9 (by exact fq rfl) t (Sh.of wf) lv ((ie (.t A1 (.k 9)) [.l A0 (.k 4),.l A1 (.l 2 A0)]) hh htt) ((ie (.l A1 (.k 1000000)) [.l A0 (.k 441),.l A1 (.l 10 A0)]) hl htx) n ((lE (.l (.a (.l 3 (.k 9)) (.k 5)) A0) [.e A0 (.k 400)]) hn) b2 hc2;have h2:=O1 (σ:=b2) (W:=W) (n:=n) wf lv ((ie (.t A1 (.k 100000)) [.l A0 (.k 441),.l A1 (.l 10 A0)]) hl htx) (qH hl rfl) ((lE (.l (.k 7) A0) [.e A0 (.k 400)]) hn) ((lE (.l (.k 100001) A0) [.e A0 (.k 200000)]) hW)
 obtain⟨b3,hb3⟩:∃b,b=b2++[MO.list ((tk t).map Tk.d)]:=⟨_,rfl⟩;rw[<-hb3]at h2;have hb3l:b3.length=3:=by rw[hb3];simp[hb2l]
 have hc3:Cl b3:=by rw[hb3];exact hc2.app rfl
 have hj3:b3[2]? =some (.list ((tk t).map Tk.d)):=by rw[hb3,<-hb2l];simp
 rw[hb2l]at h2;have good:=JY (sG t (Sh.of wf) lv) (SX (tQ t (Sh.of wf)));have okt:=GN (sG t (Sh.of wf) lv)
 have hne:tk t≠[]:=by intro z;have:=uk wf;rw[z]at this;exact mY this
 have h3:=JJ (σ:=b3) (W:=W) (n:=n) (j:=2) good (kJ ho rfl) (Sb hW) (Sa hn) hj3 hne (qH hl rfl) okt hc3;rw[O5 wf (kJ hh rfl) (Sd hW hl)]at h3
 have c3:∀τ,gJ τ .NotEq (.d (dy t)) (.d (dy t))=some false:=by
  intro τ;show(l5 (dy t) (dy t)).map (!·)=_
  rw[@J4 _ _ (Classical.propDecidable _) pt pt (Se ho szt) (Se ho szt),@eE _ (Classical.propDecidable _) rfl];rfl
 refine ot (qD t (Sh.of wf) 0 [] []) λP e4 nP vP=> ?_;rw[qd]at e4;rw[lU t wf]at nP
 have hPl:P.length<=441:=by have:=GT (tk t) 0 _ _ e4;simp at this;exact(kI (.l A1 (.k 441)) [.l A0 (.k 441),.e A1 A2,.l A1 A0]) hl nP this
 refine oE (Ro (b:=b3) (x0:=some (.cl (xs.map .int))) (x1:=some (.ref 1)) (x2:=some (.d (dy t))) hj3 okt (qH hl rfl) (tk t) 0 W ([],[]) ([],P) none (by simp) ((lE (.l (.k 0) A0) [.l A0 (.k 441)]) hl) (Sd hW hl) (by simp) (by simp) e4) λx6 h5=> ?_;have hc4:=X1 hc3 ([],P)
 have hj4:(lS b3 ([],P))[2]? =some (.list ((tk t).map Tk.d)):=by unfold lS;rw[fH (R9 hb3l)];exact hj3
 have hp4:(lS b3 ([],P))[3]? =some (.list (P.map tX)):=by unfold lS;rw[<-hb3l];simp
 have h6:=wo (W:=W) t wf (lS b3 ([],P)) n hc4 ((kI (.l (.a A2 (.k 3)) A0) [.e A0 (.k 400),.l A1 (.k 4),.l A2 (.l 2 A1)]) hn hh htt) ((lE (.l (.k 4) A0) [.e A0 (.k 200000)]) hW);refine Ka (Rq (W:=W) (n:=n) (L:=3) (j:=2) (x0:=some (.cl (xs.map .int))) (x1:=some (.ref 1)) (x6:=x6) wf lv (kJ ho rfl) (qH hl rfl) (Sb hW) (Sa hn) (ps:=P) vP (R8 nP hPl) W 0 (lS b3 ([],P)) none none hc4 hj4 hp4 ((ie (.l (.k 0) A0) [.e A0 A1,.l A0 (.k 441)]) nP hPl) ((kI (.t (.s A1 (.k 0)) A0) [.e A0 (.k 200000),.e A1 A2,.l A1 (.k 441)]) hW nP hPl)) λloc' J h7=> ?_;refine⟨lS b3 ([],P)++J,by exact(lE (.l A0 (.k 500)) [.e A0 (.k 400)]) hn,?_⟩
 have hlen:jQ [.ref 2] (lS b3 ([],[]))=some (.ok (.d (.int (tk t).length)),lS b3 ([],[])):=by
  have hg:dW (lS b3 ([],[])) (.ref 2)=some ((tk t).map Tk.d):=by
   have:(lS b3 ([],[]))[2]? =some (.list ((tk t).map Tk.d)):=by unfold lS;rw[fH (R9 hb3l)];exact hj3
   simp only[dW,this]
  have:=Am hg (by simp;exact qH hl rfl);rw[f6]at this;exact this
 have hlen2:jQ [.ref 3] (lS b3 ([],P))=some (.ok (.d (.int (gs t))),lS b3 ([],P)):=by
  have hg:dW (lS b3 ([],P)) (.ref 3)=some (P.map tX):=by simp only[dW,hp4]
  have:=Am hg (by simp;exact R8 nP hPl);rw[f6,nP]at this;exact this
 have c4:∀τ,gJ τ .NotEq (.d (.int (gs t))) (.d (.int (gs t)))=some false:=by intro τ;show some (!(_ == _))=_;simp
 unfold NL;refine(ij (l:=[some (.cl (xs.map .int)),some (.ref 1),none,none,none,none,none,none,none]) (σ':=[.list (cells.map .int),sE 0 0 12]) ?_).trans ?_
 ·have s1:wN (.cl (xs.map .int)) none (some 40) []=some (.ok (.ref 0),[.list (cells.map .int)]):=by
   show(if(xs.map D.int).length<=eZ then rA (cut none (some 40) (xs.map D.int)) []else none)=_;rw[cH (by simp only[f6,eZ];exact kJ hxs rfl),Ve,<-List.map_take,<-hcells];simp only[rA];rw[cH (by simp only[f6,eZ];exact kJ hcl rfl)];rfl
  simp[bnd,lift,ret,ja,eR,ut,s1,MW,rG,sE]
 refine(ij (l:=[some (.cl (xs.map .int)),some (.ref 1),some (.d (dy t)),none,none,none,none,none,none]) (σ':=b2) ?_).trans ?_
 ·simp[bnd,lift,ret,ja,gr,rG]
 refine(ij (l:=[some (.cl (xs.map .int)),some (.ref 1),some (.d (dy t)),some (.ref 2),none,none,none,none,none]) (σ':=b3) ?_).trans ?_
 ·simp[bnd,lift,ret,ja,h1,h2,rG]
 refine(g9 ?_).trans ?_
 ·simp[bnd,lift,ret,ja,h3,ir,c3]
 refine(ij (l:=[some (.cl (xs.map .int)),some (.ref 1),some (.d (dy t)),some (.ref 2),some (.ref 3),none,none,none,none]) (σ':=b3++[.list []]) ?_).trans ?_
 ·simp[bnd,lift,ret,ja,G4,qJ,rA,hb3l,rG]
 refine(ij (l:=jz (some (.cl (xs.map .int))) (some (.ref 1)) (some (.d (dy t))) 2 3 0 none) (σ':=lS b3 ([],[])) ?_).trans ?_
 ·simp[bnd,lift,ret,ja,G4,qJ,rA,hb3l,rG,jz,lS]
 rw[hb3l]at h5;refine(ij (l:=jz (some (.cl (xs.map .int))) (some (.ref 1)) (some (.d (dy t))) 2 3 0 x6) (σ':=lS b3 ([],P)) ?_).trans ?_
 ·have e1:=Ch (σ:=lS b3 ([],[])) (f:=jQ) (aa:=jz (some (.cl (xs.map .int))) (some (.ref 1)) (some (.d (dy t))) 2 3 0 none) (i:=3) rfl hlen;simp only[Fa,bnd,e1,Ko];rw[cH ⟨by exact(lE (.S (.n' (.k 1000000000)) (.c A0)) [.l A0 (.k 441)]) hl,by exact(lE (.S (.c A0) (.k 1000000000)) [.l A0 (.k 441)]) hl⟩];exact h5
 refine(g9 ?_).trans ?_
 ·have e1:=Ch (σ:=lS b3 ([],P)) (f:=jQ) (aa:=jz (some (.cl (xs.map .int))) (some (.ref 1)) (some (.d (dy t))) 2 3 0 x6) (i:=4) rfl hlen2;have e2:=Ch (σ:=lS b3 ([],P)) (f:=(CN W n).c eQ) (aa:=jz (some (.cl (xs.map .int))) (some (.ref 1)) (some (.d (dy t))) 2 3 0 x6) (i:=2) rfl h6;simp only[dz,bnd,e1,e2,ir,c4,Option.map]
 refine(ij (l:=loc') (σ':=lS b3 ([],P)++J) ?_).trans rfl;exact h7
end
variable{r:List Tk}{P:Option (Tr×List Tk)}{l:List Tk}{t:Tr}{B:Ps}
section
open PySem.Calls PySem.Spec PyProof.Rows
section
set_option tactic.hygienic true
noncomputable def gl(K:Params->Frag)(prog:Program)(w:World)(h₀:Heap)(mg mb:Str->Option Value)(KX:(K w.params).In h₀)(hg:h₀.Ns mainGlobals mg)(hb:h₀.Ns builtinsNs mb)(hbo:∀x:Str,x≠"__name__"->mb x=bootBuiltins x)(lim:h₀.NoLimit):Gl:=
 { prog,w,h₀,K:=K w.params,mg,mb,KX,hg,hb,hbo,lim,rC:=109,fC:=70,fa:=λ_=>0 }
theorem Co{nm:Str}{pm:Arguments}{bod:List Stmt}{dV:Value}{oc od sl nm' kV doc pv an c ct}(e:G.K.lookup a=some ⟨oc,od,.func (fnOf nm' nm pm bod sc dV kV doc pv an (.ref c) ct),sl⟩)(h:codeIn G.K (.ref c) nm=true):FK G a nm pm bod sc dV:=⟨_,_,_,_,_,_,_,_,_,_,e,h⟩
theorem IN{nm:Str}{pm:Arguments}{bod:List Stmt}{T:Addr}{oc:Value}{od:Option Addr}{tok m:Nat}{sl:Array (Option Value)}(f:FK G a nm pm bod sc (.ref T))(e:G.K.lookup T=some ⟨oc,od,.seq #[.int 0 tok] m,sl⟩):WV G a nm pm bod sc:=⟨_,_,_,_,_,_,f,e⟩
theorem Vf{l:List (Str×Addr)}(e:l.map (λp=>nsIn G.K mainGlobals p.1)=l.map λp=>some (some (.ref p.2)))(k:(l.all λp=>keepIn G.K (.ref p.2))=true):∀p ∈ l,GF G p.1 p.2:=
 λp h=>Jk (List.map_inj_left.mp e p h) (fu.mp k p h)
noncomputable def ZE(o:Option Obj)(nm:Str)(pm:Arguments)(bod:List Stmt)(sc:Scope):Option (Option Obj):=
 match o with
 |some ⟨oc,od,.func F,sl⟩=>match F.code with
  | .ref c=>some (some ⟨oc,od,.func (fnOf F.name nm pm bod sc .none F.kwdefaults F.doc F.pyModule F.annotations (.ref c) F.closureTuple),sl⟩)
  |_=>none
 |_=>none
noncomputable def ZF(K:Frag)(o:Option Obj)(nm:Str):Bool:=
 match o with
 |some ⟨_,_,.func F,_⟩=>codeIn K F.code nm
 |_=>false
theorem Vg{nm:Str}{pm:Arguments}{bod:List Stmt}(e:some (G.K.lookup a)=ZE (G.K.lookup a) nm pm bod sc)(h:ZF G.K (G.K.lookup a) nm=true):FK G a nm pm bod sc .none:=by
 generalize q:G.K.lookup a=o at e h;unfold ZE at e;split at e
 ·split at e
  ·rename_i c r;have e:=Option.some.inj e;unfold ZF at h;dsimp only at h;rw[r]at h;exact Co (q.trans e) h
  ·exact yr e
 ·exact yr e
theorem Vh{l:List (Addr×Str×Nat)}(e:l.map (λp=>some (G.K.lookup p.1))=l.map λp=>ZE (G.K.lookup p.1) p.2.1 (Rs p.2.2) (bd p.2.2) (iZ p.2.2))(k:(l.all λp=>ZF G.K (G.K.lookup p.1) p.2.1)=true):
  ∀p ∈ l,FK G p.1 p.2.1 (Rs p.2.2) (bd p.2.2) (iZ p.2.2) .none:=λp h=>Vg (List.map_inj_left.mp e p h) (fu.mp k p h)
section
variable{prog:Program}{w:World}{h₀:Heap}{mg mb:Str->Option Value}{KX:(KK w.params).In h₀}{hg:h₀.Ns mainGlobals mg}{hb:h₀.Ns builtinsNs mb}{hbo:∀x:Str,x≠"__name__"->mb x=bootBuiltins x}{lim:h₀.NoLimit}
theorem Vi:yT (gl KK prog w h₀ mg mb KX hg hb hbo lim):=⟨by rfl',by rfl',by rfl',by rfl'⟩
theorem SY(KX:(KK w.params).In h₀)(M:Model):ku M h₀ 70:=by have X:(KK w.params).In h₀:=KX;refine⟨?_,Looks.of_peek X (by rfl'),Looks.of_peek X (by rfl'),looks_mroIn X (by rfl'),looks_mroIn X (by rfl'),looks_mroIn X (by rfl'),looks_mroIn X (by rfl'),looks_mroIn X (by rfl'),looks_specialIn X (by rfl'),looks_instIn X (by rfl')⟩;exact⟨_,_,_,X 70 _ (by rfl),rfl,rfl,rfl⟩
theorem ZG:HG (gl KK prog w h₀ mg mb KX hg hb hbo lim) where
 rcls:=Vi
 mke:=SY KX
 sf:=mg_of KX hg (by rfl')
 ats:=List.map_inj_left.mp (show Fx.map (λx=>findIn (KK w.params) (.ref 109) x)=Fx.map λ_=>some none by rfl')
 fR:=Jk (by rfl') (by rfl')
 fh:=Jk (by rfl') (by rfl')
 fs:=Vf (by rfl') (by rfl')
 vs:=⟨my (by rfl'),Jj (a:=528) (n:=14) (l:=[(("**":Str),1031,PySem.Value.ref 529),(("*":Str),1035,PySem.Value.ref 530),(("/":Str),1039,PySem.Value.ref 531),(("mod":Str),1043,PySem.Value.ref 532),(("rem":Str),1047,PySem.Value.ref 533),(("+":Str),1051,PySem.Value.ref 534),(("-":Str),1055,PySem.Value.ref 535),(("&":Str),1059,PySem.Value.ref 536),(("=":Str),1063,PySem.Value.ref 537),(("/=":Str),1067,PySem.Value.ref 538),(("<":Str),1071,PySem.Value.ref 539),(("<=":Str),1075,PySem.Value.ref 540),((">":Str),1079,PySem.Value.ref 541),((">=":Str),1083,PySem.Value.ref 542)]) (by rfl') (by decide) (by rfl') (by decide+kernel) (by rfl'),my (by rfl'),my (by rfl'),my (by rfl'),my (by rfl'),my (by rfl'),my (by rfl'),my (by rfl'),my (by rfl'),my (by rfl'),my (by rfl'),my (by rfl'),my (by rfl'),my (by rfl'),Jj (a:=543) (n:=2) (l:=[(("andthen":Str),1102,PySem.Value.str (PySem.Str.ofString "and then") 1103),(("orelse":Str),1104,PySem.Value.str (PySem.Str.ofString "or else") 1105)]) (by rfl') (by decide) (by rfl') (by decide+kernel) (by rfl'),my (by rfl'),my (by rfl'),my (by rfl'),my (by rfl'),my (by rfl'),trivial⟩
 GU:=y6 (by rfl') (by boot_by_name) (by decide+kernel)
 se:=y6 (by rfl') (by boot_by_name) (by decide+kernel)
 S3:=y6 (by rfl') (by boot_by_name) (by decide+kernel)
 O8:=y6 (by rfl') (by boot_by_name) (by decide+kernel)
 SZ:=y6 (by rfl') (by boot_by_name) (by decide+kernel)
 Ez:=y6 (by rfl') (by boot_by_name) (by decide+kernel)
 J8:=y6 (by rfl') (by boot_by_name) (by decide+kernel)
theorem h_e:Hn (gl KK prog w h₀ mg mb KX hg hb hbo lim) 31 28 67 where
 made:=SY KX
 cd:=⟨_,rfl,rfl,rfl⟩
 sa:=by rfl'
 gB:=by rfl'
 tB:=by rfl'
 rB:=by rfl'
 iB:=by rfl'
 kA:=by rfl'
 iE:=by rfl'
 xt:=by rfl'
 xl:=by rfl'
 iC:=by rfl'
 fnS:=by rfl'
 kC:=by rfl'
theorem ZH:HK (gl KK prog w h₀ mg mb KX hg hb hbo lim) where
 toHG:=ZG
 sH:=IN (Co (by rfl) (by rfl')) (by rfl)
 Cp:=IN (Co (by rfl) (by rfl')) (by rfl)
 Cq:=IN (Co (by rfl) (by rfl')) (by rfl)
 ks:=Vh (by rfl') (by rfl')
 S1:=Co (by rfl) (by rfl')
 S2:=Co (by rfl) (by rfl')
 e:=h_e
 xM:=Jk (by rfl') (by rfl')
 mgE:=mg_none_of KX hg (by rfl')
 mgA:=mg_of KX hg (by rfl')
 rm:=by rfl'
 ri:=by rfl'
 rf:=by rfl'
end
end
section
set_option tactic.hygienic true
theorem LF(run:z5){w:World}{aJ:Shared}{mg mb:Str->Option Value}{p:Program}{loose:List Str}{mean:ExcName->Option Value}(KX:(KK w.params).In aJ.heap)(T:Top p loose mean mg mb aJ.heap)
  {fa l:Addr}{items:List Value}{xs:List Int}{m:Str->Option Value}{Q:Flow->Shared->Prop}
  (F:Fr aJ.heap L h₁ m)(hl:aJ.heap.IsList l items.toArray)(hi:IntsAre items xs)(hlen:¬((63:Nat):Int)<(xs.length:Int))(hm:m "script"=some (.ref l))(hsh:s.heap=h₁)
  (hE:PassesOwn (model PySem.Challenge.rw_xm0009_01.row.prog w) (callerA.deeper (envOf "law" (iZ 125) L fa cd)) (envOf "law" (iZ 125) L fa cd) E)
  (hQ:∀h' tk',aJ.heap.StaysIn h'->Q (.ret (.bool true)) { s with heap:=h',toks:=tk' }):
  wpAny (model PySem.Challenge.rw_xm0009_01.row.prog w) (callerA.deeper (envOf "law" (iZ 125) L fa cd)) (execs (bd 125) (envOf "law" (iZ 125) L fa cd)) Q E s:=
 NS (ZH (KX:=KX) (hg:=T.g) (hb:=T.b) (hbo:=T.builtins) (lim:=T.nolimit)) run F hm hl hi (by exact(lE (.l A0 (.k 63)) [.n (.S (.c (.k 63)) (.c A0))]) hlen) hsh hE hQ
theorem call(run:z5):WalkO qv vb (XL qv []) Pb.says RR Gc [] λf vs=>PySem.call f vs:=by
 intro w aU aJ mg mb G Y fa o pm cd doc dV kV ho hd hcd hD hmg hg args vals as hpre hlay Pe hwl hlo;have KX:=kIn_of Y;have X:=(Ground.X G).1;have V:=(Ground.X G).2;refine Ground.open G ?_;intro T B D E TW
 try (refine guard_noD D (by decide+kernel) ?_;clear D)
 refine Ka (bmod_of_top T) λ_ _ M=> ?_;have TA:=at_of_top T
 try (refine mZ (based_of_top T rfl hmg ho hd) λ_ _ he B0=> ?_;have he':cd=_:=he;subst he';clear he)
 clear hmg
 wrow_args hpre hlay Pe hwl hlo
 all_goals (
  first|refine callC_kw (enter_call ?_)|refine enter_call ?_|refine callC_kw (enter_callW ?_)|refine enter_callW ?_|w_how
  w_top on
  try refine codeAny_mono ?_ (λ_ _ g=>GoodW.toG g)
  have K0:=below_caller (Top.heap T)
  w_call any ho hd hcd hD T F
  clear hd TA
  k_drop
  skip)
 (all_goals try k_fold)
 refine LF run (by assumption) (by assumption) (by assumption) (by assumption) (by assumption) (by assumption) (by rfl) rfl PassesOwn.leaving ?_;intro h' tk' hk;refine⟨.inl ⟨.bool true,.bool true,[],rfl,?_,?_,?_,?_⟩,hk,rfl,?_⟩
 ·intro cls;rfl
 ·exact .bool true
 ·wrow_post
 ·exactλ_=>⟨List.nodup_nil,λa m=>by cases m⟩
 ·assumption
theorem t1(run:z5):PySem.Challenge.rw_xm0009_01.Holds:=
 holds_law Uj λUj=>holds_open (r:=PySem.Challenge.rw_xm0009_01.row) (q:=qv) (loose:=vb) (Xt:=Ye) (XP:=XL qv []) (Yf:=Pb.obs) (Ya:=Pb.val) (YP:=Pb.says) (d:=Gc) (kwd:=[]) (N:=9352)
  Y4 Pb.of Pb.keeps (λs e=>xl_of s (Bool.and_eq_true_iff.mp e).1) XL.keeps Uh Y1 Y2 (λs e=>recFacts_of (Bool.and_eq_true_iff.mp e).2) W0 Uj WZ bare wit (call run)
end
end
end Mine.Internal
end
theorem PySem.Challenge.cw_xm0009_01_holds : PySem.Challenge.rw_xm0009_01.Holds :=
 Mine.Internal.t1 Mine.Internal.lawRun
