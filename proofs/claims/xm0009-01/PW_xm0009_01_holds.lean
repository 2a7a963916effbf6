import PyProof.Rows.All
import Wide.All
import OpenK.AllK
import Wide.FinOn
import PyProof.ExcBaseAll.Exception
import PySem.Challenge.RW_xm0009_01
set_option Elab.async false
set_option autoImplicit false
set_option maxRecDepth 1000000
set_option maxHeartbeats 8000000
set_option tactic.hygienic false
set_option linter.all false
set_option genSizeOf false
set_option genInjectivity false
noncomputable section
namespace Mine.Internal
abbrev dN:= @congrArg
abbrev gp:= @Nat.le_trans
abbrev qd:= @Nat.min_eq_left
abbrev qe:= @List.nil_append
abbrev ro:= @List.size_toArray
abbrev cP:=PySem.Expr
abbrev dI:= @List.length_append
abbrev cQ:= @PySem.wpAny_bind
abbrev d6:= @List.append_assoc
abbrev fq:= @Nat.le_of_ble_eq_true
abbrev dJ:= @List.not_mem_nil
abbrev j8:= @Prod.mk.injEq
abbrev fH:= @List.getElem?_append_left
abbrev dc:= @PySem.wpAny_pure
abbrev cH:= @if_pos
abbrev fc:= @PySem.Heap.get?_push_of_some
abbrev ej:= @Bool.and_eq_true
abbrev dj:= @List.mem_cons
abbrev nN:= @Option.some.injEq
abbrev eD:= @List.length_cons
abbrev cJ:= @if_neg
abbrev eE:= @decide_eq_true
abbrev gu:= @List.mem_of_getElem?
abbrev ft:= @decide_eq_false
abbrev gO:= @beq_eq_false_iff_ne
abbrev gP:= @PySem.Heap.get?_push_size
abbrev f6:= @List.length_map
abbrev hO:= @List.prefix_refl
abbrev dK:= @or_false
abbrev gQ:= @Option.bind_some
abbrev gD:= @List.append_nil
abbrev jf:= @Bool.false_eq_true
abbrev hP:= @List.all_cons
abbrev nO:= @List.getElem?_append_right
abbrev kG:= @Array.length_toList
abbrev fu:= @List.all_eq_true
abbrev nQ:= @List.getElem?_eq_getElem
abbrev iN:= @PySem.wpAny_standAt
abbrev jg:= @List.map_cons
abbrev ip:= @Nat.le_refl
abbrev j9:= @Bool.or_eq_true
abbrev iq:= @Nat.zero_le
abbrev kb:= @PySem.wpAny_holding
abbrev mh:= @List.length_drop
abbrev mj:= @List.cons_append
abbrev o7:= @List.getElem?_set_ne
abbrev nS:= @PySem.wpAny_truthy_bool
abbrev nU:= @PySem.wpAny_Call_ofName
abbrev qF:= @List.getElem?_set_self
abbrev qG:= @PySem.Heap.get?_update_other
abbrev kc:= @beq_iff_eq
abbrev nV:= @PySem.wpAny_execs_cons
abbrev nW:= @Array.any_toList
abbrev kH:= @PySem.Heap.lt_size
abbrev lF:= @List.any_cons
abbrev sR:= @Classical.byContradiction
abbrev dL:= @Option.bind_eq_some_iff
abbrev ek:= @List.getElem?_eq_some_iff
abbrev fe:= @Option.map_eq_some_iff
abbrev ff:= @List.mem_singleton
abbrev gE:= @List.nodup_cons
abbrev eF:= @List.mem_append
local macro_rules | `(tactic|rfl')=>`(tactic|kernel_rfl)
local macro_rules | `(tactic|symm at $h:ident)=>`(tactic|set_option tactic.hygienic true in split at $h:ident)
open PySem PySem.W
section
set_option tactic.hygienic true
universe u v
universe u0 u1 u2 u3 u4 u5 u6 u7 u8 u9 u10 u11 u12 u13
theorem eC{α:Type u}{a:α}{C:Prop}(h:none=some a):C:=nomatch h
theorem yt{α:Type u}{a:α}{C:Prop}(h:some a=none):C:=nomatch h
theorem Yl{C:Prop}(h:true=false):C:=nomatch h
theorem mY{C:Prop}(h:false=true):C:=nomatch h
theorem si{α:Type u}{a b:α}(h:some a=some b):a=b:=Option.some.inj h
theorem sj{α:Type u}{a b:α}(h:some a=some b):b=a:=(Option.some.inj h).symm
theorem p0{α:Type u}{β:Type v}{a c:α}{b d:β}{C:Prop}(h:(a,b)=(c,d))(k:a=c->b=d->C):C:=k (Prod.mk.inj h).1 (Prod.mk.inj h).2
theorem p1{α:Type u}{β:Type v}{a c:α}{b d:β}{C:Prop}(h:(a,b)=(c,d))(k:a=c->d=b->C):C:=k (Prod.mk.inj h).1 (Prod.mk.inj h).2.symm
theorem p2{α:Type u}{β:Type v}{a c:α}{b d:β}{C:Prop}(h:(a,b)=(c,d))(k:c=a->b=d->C):C:=k (Prod.mk.inj h).1.symm (Prod.mk.inj h).2
theorem p3{α:Type u}{β:Type v}{a c:α}{b d:β}{C:Prop}(h:(a,b)=(c,d))(k:c=a->d=b->C):C:=k (Prod.mk.inj h).1.symm (Prod.mk.inj h).2.symm
theorem Pg{α:Type u}{β:Type v}{a c:α}{b d:β}{C:Prop}(h:some (a,b)=some (c,d))(k:a=c->b=d->C):C:=p0 (si h) k
theorem Ph{α:Type u}{β:Type v}{a c:α}{b d:β}{C:Prop}(h:some (a,b)=some (c,d))(k:a=c->d=b->C):C:=p1 (si h) k
theorem sp2{α:Type u}{β:Type v}{a c:α}{b d:β}{C:Prop}(h:some (a,b)=some (c,d))(k:c=a->b=d->C):C:=p2 (si h) k
theorem ZJ{α:Type u}{β:Type v}{a c:α}{b d:β}{C:Prop}(h:some (a,b)=some (c,d))(k:c=a->d=b->C):C:=p3 (si h) k
theorem oA{P0:Prop}{P1:Prop}{C:Prop}(h:P0/\P1)(k:P0->P1->C):C:=k h.1 h.2
theorem wD{P0:Prop}{P1:Prop}{P2:Prop}{C:Prop}(h:P0/\P1/\P2)(k:P0->P1->P2->C):C:=k h.1 h.2.1 h.2.2
theorem S5{P0:Prop}{P1:Prop}{P2:Prop}{P3:Prop}{C:Prop}(h:P0/\P1/\P2/\P3)(k:P0->P1->P2->P3->C):C:=k h.1 h.2.1 h.2.2.1 h.2.2.2
theorem Vy{P0:Prop}{P1:Prop}{P2:Prop}{P3:Prop}{P4:Prop}{C:Prop}(h:P0/\P1/\P2/\P3/\P4)(k:P0->P1->P2->P3->P4->C):C:=k h.1 h.2.1 h.2.2.1 h.2.2.2.1 h.2.2.2.2
theorem LP{P0:Prop}{P1:Prop}{P2:Prop}{P3:Prop}{P4:Prop}{P5:Prop}{C:Prop}(h:P0/\P1/\P2/\P3/\P4/\P5)(k:P0->P1->P2->P3->P4->P5->C):C:=k h.1 h.2.1 h.2.2.1 h.2.2.2.1 h.2.2.2.2.1 h.2.2.2.2.2
theorem wG{α2:Sort u2}{α3:Sort u3}{α4:Sort u4}{P0:Prop}{P1:Prop}{P5:α2->α3->α4->Prop}{P6:α2->α3->α4->Prop}{P7:α2->α3->α4->Prop}{P8:α2->α3->α4->Prop}{C:Prop}(h:P0/\P1/\∃x2:α2,∃x3:α3,∃x4:α4,P5 x2 x3 x4/\P6 x2 x3 x4/\P7 x2 x3 x4/\P8 x2 x3 x4)(k:P0->P1->∀x2,∀x3,∀x4,P5 x2 x3 x4->P6 x2 x3 x4->P7 x2 x3 x4->P8 x2 x3 x4->C):C:=h.2.2.elim λx2 h2=>h2.elim λx3 h3=>h3.elim λx4 h4=>k h.1 h.2.1 x2 x3 x4 h4.1 h4.2.1 h4.2.2.1 h4.2.2.2
theorem vw{α1:Sort u1}{P0:Prop}{P2:α1->Prop}{P3:α1->Prop}{C:Prop}(h:P0/\∃x1:α1,P2 x1/\P3 x1)(k:P0->∀x1,P2 x1->P3 x1->C):C:=h.2.elim λx1 h1=>k h.1 x1 h1.1 h1.2
theorem o8{α1:Sort u1}{α3:Sort u3}{α4:Sort u4}{P0:Prop}{P2:α1->Prop}{P5:α1->α3->α4->Prop}{C:Prop}(h:P0/\∃x1:α1,P2 x1/\∃x3:α3,∃x4:α4,P5 x1 x3 x4)(k:P0->∀x1,P2 x1->∀x3,∀x4,P5 x1 x3 x4->C):C:=h.2.elim λx1 h1=>h1.2.elim λx3 h3=>h3.elim λx4 h4=>k h.1 x1 h1.1 x3 x4 h4
theorem Ka{α1:Sort u1}{α2:Sort u2}{α3:Sort u3}{P0:Prop}{P4:α1->α2->α3->Prop}{P5:α1->α2->α3->Prop}{P6:α1->α2->α3->Prop}{P7:α1->α2->α3->Prop}{P8:α1->α2->α3->Prop}{C:Prop}(h:P0/\∃x1:α1,∃x2:α2,∃x3:α3,P4 x1 x2 x3/\P5 x1 x2 x3/\P6 x1 x2 x3/\P7 x1 x2 x3/\P8 x1 x2 x3)(k:P0->∀x1,∀x2,∀x3,P4 x1 x2 x3->P5 x1 x2 x3->P6 x1 x2 x3->P7 x1 x2 x3->P8 x1 x2 x3->C):C:=h.2.elim λx1 h1=>h1.elim λx2 h2=>h2.elim λx3 h3=>k h.1 x1 x2 x3 h3.1 h3.2.1 h3.2.2.1 h3.2.2.2.1 h3.2.2.2.2
theorem GZ{α1:Sort u1}{α2:Sort u2}{α3:Sort u3}{α4:Sort u4}{α5:Sort u5}{α6:Sort u6}{P0:Prop}{P7:α1->α2->α3->α4->α5->α6->Prop}{P8:α1->α2->α3->α4->α5->α6->Prop}{P9:α1->α2->α3->α4->α5->α6->Prop}{C:Prop}(h:P0/\∃x1:α1,∃x2:α2,∃x3:α3,∃x4:α4,∃x5:α5,∃x6:α6,P7 x1 x2 x3 x4 x5 x6/\P8 x1 x2 x3 x4 x5 x6/\P9 x1 x2 x3 x4 x5 x6)(k:P0->∀x1,∀x2,∀x3,∀x4,∀x5,∀x6,P7 x1 x2 x3 x4 x5 x6->P8 x1 x2 x3 x4 x5 x6->P9 x1 x2 x3 x4 x5 x6->C):C:=h.2.elim λx1 h1=>h1.elim λx2 h2=>h2.elim λx3 h3=>h3.elim λx4 h4=>h4.elim λx5 h5=>h5.elim λx6 h6=>k h.1 x1 x2 x3 x4 x5 x6 h6.1 h6.2.1 h6.2.2
theorem ls{α1:Sort u1}{α2:Sort u2}{α3:Sort u3}{α4:Sort u4}{α5:Sort u5}{α6:Sort u6}{P0:Prop}{P7:α1->α2->α3->α4->α5->α6->Prop}{P8:α1->α2->α3->α4->α5->α6->Prop}{P9:α1->α2->α3->α4->α5->α6->Prop}{P10:α1->α2->α3->α4->α5->α6->Prop}{P11:α1->α2->α3->α4->α5->α6->Prop}{P12:α1->α2->α3->α4->α5->α6->Prop}{P13:α1->α2->α3->α4->α5->α6->Prop}{P14:α1->α2->α3->α4->α5->α6->Prop}{P15:α1->α2->α3->α4->α5->α6->Prop}{C:Prop}(h:P0/\∃x1:α1,∃x2:α2,∃x3:α3,∃x4:α4,∃x5:α5,∃x6:α6,P7 x1 x2 x3 x4 x5 x6/\P8 x1 x2 x3 x4 x5 x6/\P9 x1 x2 x3 x4 x5 x6/\P10 x1 x2 x3 x4 x5 x6/\P11 x1 x2 x3 x4 x5 x6/\P12 x1 x2 x3 x4 x5 x6/\P13 x1 x2 x3 x4 x5 x6/\P14 x1 x2 x3 x4 x5 x6/\P15 x1 x2 x3 x4 x5 x6)(k:P0->∀x1,∀x2,∀x3,∀x4,∀x5,∀x6,P7 x1 x2 x3 x4 x5 x6->P8 x1 x2 x3 x4 x5 x6->P9 x1 x2 x3 x4 x5 x6->P10 x1 x2 x3 x4 x5 x6->P11 x1 x2 x3 x4 x5 x6->P12 x1 x2 x3 x4 x5 x6->P13 x1 x2 x3 x4 x5 x6->P14 x1 x2 x3 x4 x5 x6->P15 x1 x2 x3 x4 x5 x6->C):C:=h.2.elim λx1 h1=>h1.elim λx2 h2=>h2.elim λx3 h3=>h3.elim λx4 h4=>h4.elim λx5 h5=>h5.elim λx6 h6=>k h.1 x1 x2 x3 x4 x5 x6 h6.1 h6.2.1 h6.2.2.1 h6.2.2.2.1 h6.2.2.2.2.1 h6.2.2.2.2.2.1 h6.2.2.2.2.2.2.1 h6.2.2.2.2.2.2.2.1 h6.2.2.2.2.2.2.2.2
theorem oE{α0:Sort u0}{P1:α0->Prop}{C:Prop}(h:∃x0:α0,P1 x0)(k:∀x0,P1 x0->C):C:=h.elim λx0 h0=>k x0 h0
theorem eN{α0:Sort u0}{P1:α0->Prop}{P2:α0->Prop}{C:Prop}(h:∃x0:α0,P1 x0/\P2 x0)(k:∀x0,P1 x0->P2 x0->C):C:=h.elim λx0 h0=>k x0 h0.1 h0.2
theorem ou{α0:Sort u0}{P1:α0->Prop}{P2:α0->Prop}{P3:α0->Prop}{C:Prop}(h:∃x0:α0,P1 x0/\P2 x0/\P3 x0)(k:∀x0,P1 x0->P2 x0->P3 x0->C):C:=h.elim λx0 h0=>k x0 h0.1 h0.2.1 h0.2.2
theorem Rs{α0:Sort u0}{α3:Sort u3}{P1:α0->Prop}{P2:α0->Prop}{P4:α0->α3->Prop}{C:Prop}(h:∃x0:α0,P1 x0/\P2 x0/\∃x3:α3,P4 x0 x3)(k:∀x0,P1 x0->P2 x0->∀x3,P4 x0 x3->C):C:=h.elim λx0 h0=>h0.2.2.elim λx3 h3=>k x0 h0.1 h0.2.1 x3 h3
theorem Kb{α0:Sort u0}{α1:Sort u1}{P2:α0->α1->Prop}{C:Prop}(h:∃x0:α0,∃x1:α1,P2 x0 x1)(k:∀x0,∀x1,P2 x0 x1->C):C:=h.elim λx0 h0=>h0.elim λx1 h1=>k x0 x1 h1
theorem mZ{α0:Sort u0}{α1:Sort u1}{P2:α0->α1->Prop}{P3:α0->α1->Prop}{C:Prop}(h:∃x0:α0,∃x1:α1,P2 x0 x1/\P3 x0 x1)(k:∀x0,∀x1,P2 x0 x1->P3 x0 x1->C):C:=h.elim λx0 h0=>h0.elim λx1 h1=>k x0 x1 h1.1 h1.2
theorem iJ{α0:Sort u0}{α1:Sort u1}{P2:α0->α1->Prop}{P3:α0->α1->Prop}{P4:α0->α1->Prop}{C:Prop}(h:∃x0:α0,∃x1:α1,P2 x0 x1/\P3 x0 x1/\P4 x0 x1)(k:∀x0,∀x1,P2 x0 x1->P3 x0 x1->P4 x0 x1->C):C:=h.elim λx0 h0=>h0.elim λx1 h1=>k x0 x1 h1.1 h1.2.1 h1.2.2
theorem uM{α0:Sort u0}{α1:Sort u1}{P2:α0->α1->Prop}{P3:α0->α1->Prop}{P4:α0->α1->Prop}{P5:α0->α1->Prop}{C:Prop}(h:∃x0:α0,∃x1:α1,P2 x0 x1/\P3 x0 x1/\P4 x0 x1/\P5 x0 x1)(k:∀x0,∀x1,P2 x0 x1->P3 x0 x1->P4 x0 x1->P5 x0 x1->C):C:=h.elim λx0 h0=>h0.elim λx1 h1=>k x0 x1 h1.1 h1.2.1 h1.2.2.1 h1.2.2.2
theorem IP{α0:Sort u0}{α1:Sort u1}{P2:α0->α1->Prop}{P3:α0->α1->Prop}{P4:α0->α1->Prop}{P5:α0->α1->Prop}{P6:α0->α1->Prop}{C:Prop}(h:∃x0:α0,∃x1:α1,P2 x0 x1/\P3 x0 x1/\P4 x0 x1/\P5 x0 x1/\P6 x0 x1)(k:∀x0,∀x1,P2 x0 x1->P3 x0 x1->P4 x0 x1->P5 x0 x1->P6 x0 x1->C):C:=h.elim λx0 h0=>h0.elim λx1 h1=>k x0 x1 h1.1 h1.2.1 h1.2.2.1 h1.2.2.2.1 h1.2.2.2.2
theorem vx{α0:Sort u0}{α1:Sort u1}{P2:α0->α1->Prop}{P3:α0->α1->Prop}{P4:α0->α1->Prop}{P5:α0->α1->Prop}{P6:α0->α1->Prop}{P7:α0->α1->Prop}{P8:α0->α1->Prop}{P9:α0->α1->Prop}{P10:α0->α1->Prop}{P11:α0->α1->Prop}{C:Prop}(h:∃x0:α0,∃x1:α1,P2 x0 x1/\P3 x0 x1/\P4 x0 x1/\P5 x0 x1/\P6 x0 x1/\P7 x0 x1/\P8 x0 x1/\P9 x0 x1/\P10 x0 x1/\P11 x0 x1)(k:∀x0,∀x1,P2 x0 x1->P3 x0 x1->P4 x0 x1->P5 x0 x1->P6 x0 x1->P7 x0 x1->P8 x0 x1->P9 x0 x1->P10 x0 x1->P11 x0 x1->C):C:=h.elim λx0 h0=>h0.elim λx1 h1=>k x0 x1 h1.1 h1.2.1 h1.2.2.1 h1.2.2.2.1 h1.2.2.2.2.1 h1.2.2.2.2.2.1 h1.2.2.2.2.2.2.1 h1.2.2.2.2.2.2.2.1 h1.2.2.2.2.2.2.2.2.1 h1.2.2.2.2.2.2.2.2.2
theorem Ym{α0:Sort u0}{α1:Sort u1}{α2:Sort u2}{P3:α0->α1->α2->Prop}{C:Prop}(h:∃x0:α0,∃x1:α1,∃x2:α2,P3 x0 x1 x2)(k:∀x0,∀x1,∀x2,P3 x0 x1 x2->C):C:=h.elim λx0 h0=>h0.elim λx1 h1=>h1.elim λx2 h2=>k x0 x1 x2 h2
theorem o9{α0:Sort u0}{α1:Sort u1}{α2:Sort u2}{P3:α0->α1->α2->Prop}{P4:α0->α1->α2->Prop}{C:Prop}(h:∃x0:α0,∃x1:α1,∃x2:α2,P3 x0 x1 x2/\P4 x0 x1 x2)(k:∀x0,∀x1,∀x2,P3 x0 x1 x2->P4 x0 x1 x2->C):C:=h.elim λx0 h0=>h0.elim λx1 h1=>h1.elim λx2 h2=>k x0 x1 x2 h2.1 h2.2
theorem iO{α0:Sort u0}{α1:Sort u1}{α2:Sort u2}{P3:α0->α1->α2->Prop}{P4:α0->α1->α2->Prop}{P5:α0->α1->α2->Prop}{C:Prop}(h:∃x0:α0,∃x1:α1,∃x2:α2,P3 x0 x1 x2/\P4 x0 x1 x2/\P5 x0 x1 x2)(k:∀x0,∀x1,∀x2,P3 x0 x1 x2->P4 x0 x1 x2->P5 x0 x1 x2->C):C:=h.elim λx0 h0=>h0.elim λx1 h1=>h1.elim λx2 h2=>k x0 x1 x2 h2.1 h2.2.1 h2.2.2
theorem EE{α0:Sort u0}{α1:Sort u1}{α2:Sort u2}{P3:α0->α1->α2->Prop}{P4:α0->α1->α2->Prop}{P5:α0->α1->α2->Prop}{P6:α0->α1->α2->Prop}{P7:α0->α1->α2->Prop}{C:Prop}(h:∃x0:α0,∃x1:α1,∃x2:α2,P3 x0 x1 x2/\P4 x0 x1 x2/\P5 x0 x1 x2/\P6 x0 x1 x2/\P7 x0 x1 x2)(k:∀x0,∀x1,∀x2,P3 x0 x1 x2->P4 x0 x1 x2->P5 x0 x1 x2->P6 x0 x1 x2->P7 x0 x1 x2->C):C:=h.elim λx0 h0=>h0.elim λx1 h1=>h1.elim λx2 h2=>k x0 x1 x2 h2.1 h2.2.1 h2.2.2.1 h2.2.2.2.1 h2.2.2.2.2
theorem G0{α0:Sort u0}{α1:Sort u1}{α2:Sort u2}{P3:α0->α1->α2->Prop}{P4:α0->α1->α2->Prop}{P5:α0->α1->α2->Prop}{P6:α0->α1->α2->Prop}{P7:α0->α1->α2->Prop}{P8:α0->α1->α2->Prop}{P9:α0->α1->α2->Prop}{C:Prop}(h:∃x0:α0,∃x1:α1,∃x2:α2,P3 x0 x1 x2/\P4 x0 x1 x2/\P5 x0 x1 x2/\P6 x0 x1 x2/\P7 x0 x1 x2/\P8 x0 x1 x2/\P9 x0 x1 x2)(k:∀x0,∀x1,∀x2,P3 x0 x1 x2->P4 x0 x1 x2->P5 x0 x1 x2->P6 x0 x1 x2->P7 x0 x1 x2->P8 x0 x1 x2->P9 x0 x1 x2->C):C:=h.elim λx0 h0=>h0.elim λx1 h1=>h1.elim λx2 h2=>k x0 x1 x2 h2.1 h2.2.1 h2.2.2.1 h2.2.2.2.1 h2.2.2.2.2.1 h2.2.2.2.2.2.1 h2.2.2.2.2.2.2
theorem yH{α0:Sort u0}{α1:Sort u1}{α2:Sort u2}{α3:Sort u3}{P4:α0->α1->α2->α3->Prop}{P5:α0->α1->α2->α3->Prop}{P6:α0->α1->α2->α3->Prop}{P7:α0->α1->α2->α3->Prop}{P8:α0->α1->α2->α3->Prop}{P9:α0->α1->α2->α3->Prop}{C:Prop}(h:∃x0:α0,∃x1:α1,∃x2:α2,∃x3:α3,P4 x0 x1 x2 x3/\P5 x0 x1 x2 x3/\P6 x0 x1 x2 x3/\P7 x0 x1 x2 x3/\P8 x0 x1 x2 x3/\P9 x0 x1 x2 x3)(k:∀x0,∀x1,∀x2,∀x3,P4 x0 x1 x2 x3->P5 x0 x1 x2 x3->P6 x0 x1 x2 x3->P7 x0 x1 x2 x3->P8 x0 x1 x2 x3->P9 x0 x1 x2 x3->C):C:=h.elim λx0 h0=>h0.elim λx1 h1=>h1.elim λx2 h2=>h2.elim λx3 h3=>k x0 x1 x2 x3 h3.1 h3.2.1 h3.2.2.1 h3.2.2.2.1 h3.2.2.2.2.1 h3.2.2.2.2.2
theorem sS{α0:Sort u0}{α1:Sort u1}{α2:Sort u2}{α3:Sort u3}{α4:Sort u4}{P5:α0->α1->α2->α3->α4->Prop}{P6:α0->α1->α2->α3->α4->Prop}{P7:α0->α1->α2->α3->α4->Prop}{P8:α0->α1->α2->α3->α4->Prop}{P9:α0->α1->α2->α3->α4->Prop}{P10:α0->α1->α2->α3->α4->Prop}{P11:α0->α1->α2->α3->α4->Prop}{P12:α0->α1->α2->α3->α4->Prop}{P13:α0->α1->α2->α3->α4->Prop}{C:Prop}(h:∃x0:α0,∃x1:α1,∃x2:α2,∃x3:α3,∃x4:α4,P5 x0 x1 x2 x3 x4/\P6 x0 x1 x2 x3 x4/\P7 x0 x1 x2 x3 x4/\P8 x0 x1 x2 x3 x4/\P9 x0 x1 x2 x3 x4/\P10 x0 x1 x2 x3 x4/\P11 x0 x1 x2 x3 x4/\P12 x0 x1 x2 x3 x4/\P13 x0 x1 x2 x3 x4)(k:∀x0,∀x1,∀x2,∀x3,∀x4,P5 x0 x1 x2 x3 x4->P6 x0 x1 x2 x3 x4->P7 x0 x1 x2 x3 x4->P8 x0 x1 x2 x3 x4->P9 x0 x1 x2 x3 x4->P10 x0 x1 x2 x3 x4->P11 x0 x1 x2 x3 x4->P12 x0 x1 x2 x3 x4->P13 x0 x1 x2 x3 x4->C):C:=h.elim λx0 h0=>h0.elim λx1 h1=>h1.elim λx2 h2=>h2.elim λx3 h3=>h3.elim λx4 h4=>k x0 x1 x2 x3 x4 h4.1 h4.2.1 h4.2.2.1 h4.2.2.2.1 h4.2.2.2.2.1 h4.2.2.2.2.2.1 h4.2.2.2.2.2.2.1 h4.2.2.2.2.2.2.2.1 h4.2.2.2.2.2.2.2.2
theorem Cu{α0:Sort u0}{α1:Sort u1}{α2:Sort u2}{α3:Sort u3}{α4:Sort u4}{α5:Sort u5}{α6:Sort u6}{α7:Sort u7}{α8:Sort u8}{α9:Sort u9}{P10:α0->α1->α2->α3->α4->α5->α6->α7->α8->α9->Prop}{P11:α0->α1->α2->α3->α4->α5->α6->α7->α8->α9->Prop}{C:Prop}(h:∃x0:α0,∃x1:α1,∃x2:α2,∃x3:α3,∃x4:α4,∃x5:α5,∃x6:α6,∃x7:α7,∃x8:α8,∃x9:α9,P10 x0 x1 x2 x3 x4 x5 x6 x7 x8 x9/\P11 x0 x1 x2 x3 x4 x5 x6 x7 x8 x9)(k:∀x0,∀x1,∀x2,∀x3,∀x4,∀x5,∀x6,∀x7,∀x8,∀x9,P10 x0 x1 x2 x3 x4 x5 x6 x7 x8 x9->P11 x0 x1 x2 x3 x4 x5 x6 x7 x8 x9->C):C:=h.elim λx0 h0=>h0.elim λx1 h1=>h1.elim λx2 h2=>h2.elim λx3 h3=>h3.elim λx4 h4=>h4.elim λx5 h5=>h5.elim λx6 h6=>h6.elim λx7 h7=>h7.elim λx8 h8=>h8.elim λx9 h9=>k x0 x1 x2 x3 x4 x5 x6 x7 x8 x9 h9.1 h9.2
theorem Cv{α0:Sort u0}{α1:Sort u1}{α2:Sort u2}{α3:Sort u3}{P4:α0->α1->α2->α3->Prop}{P5:α0->α1->α2->α3->Prop}{P6:α0->α1->α2->α3->Prop}{P7:α0->α1->α2->α3->Prop}{P8:α0->α1->α2->α3->Prop}{P9:α0->α1->α2->α3->Prop}{P10:α0->α1->α2->α3->Prop}{P11:α0->α1->α2->α3->Prop}{C:Prop}(h:∃x0:α0,∃x1:α1,∃x2:α2,∃x3:α3,P4 x0 x1 x2 x3/\P5 x0 x1 x2 x3/\P6 x0 x1 x2 x3/\P7 x0 x1 x2 x3/\P8 x0 x1 x2 x3/\P9 x0 x1 x2 x3/\P10 x0 x1 x2 x3/\P11 x0 x1 x2 x3)(k:∀x0,∀x1,∀x2,∀x3,P4 x0 x1 x2 x3->P5 x0 x1 x2 x3->P6 x0 x1 x2 x3->P7 x0 x1 x2 x3->P8 x0 x1 x2 x3->P9 x0 x1 x2 x3->P10 x0 x1 x2 x3->P11 x0 x1 x2 x3->C):C:=h.elim λx0 h0=>h0.elim λx1 h1=>h1.elim λx2 h2=>h2.elim λx3 h3=>k x0 x1 x2 x3 h3.1 h3.2.1 h3.2.2.1 h3.2.2.2.1 h3.2.2.2.2.1 h3.2.2.2.2.2.1 h3.2.2.2.2.2.2.1 h3.2.2.2.2.2.2.2
end
section
open PyProof.Rows
section
noncomputable def vs(s:String)(t:Nat):Value:= .str (PySem.Str.ofString s) t
noncomputable def vi(n:Int)(t:Nat):Value:= .int n t
noncomputable def vr(a:Nat):Value:= .ref a
noncomputable def vn:Value:= .none
noncomputable def vt(s:String):Value:= .type s
def de(P:Params)(k:String)(t:Nat)(v:Value):DictEntry:=⟨PyData.keyHash P (PySem.Str.ofString k),vs k t,v⟩
noncomputable def ZK:Stmt->Option (Arguments×List Stmt×Scope)
 | .FunctionDef _ p b _ _ _ s _ _ _=>some (p,b,s)
 |_=>none
noncomputable def Yn:Stmt->List Stmt
 | .ClassDef _ _ _ b _ _ _ _ _ _ _=>b
 |_=>[]
def Vk(o:Option Stmt):Arguments×List Stmt×Scope:=(o.bind ZK).getD (default,[],default)
def bd(i:Nat):List Stmt:=(Vk PySem.Challenge.pw_xm0009_01.main.body[i]?).2.1
def iZ(i:Nat):Scope:=(Vk PySem.Challenge.pw_xm0009_01.main.body[i]?).2.2
def Rt(i:Nat):Arguments:=(Vk PySem.Challenge.pw_xm0009_01.main.body[i]?).1
noncomputable def Vl(i:Nat):Stmt:=(PySem.Challenge.pw_xm0009_01.main.body[i]?).getD (.Pass ⟨0,0,0,0⟩)
def Pa(i:Nat):Stmt:=bif (Yn (Vl i)).isEmpty then Vl i else((Yn (Vl i)).find? λs=>(ZK s).isSome).getD (.Pass ⟨0,0,0,0⟩)
def fo(c:Value)(s:Stmt)(q:String)(g:Nat)(d m cd:Value):Obj:=match s with
 | .FunctionDef n ps b _ _ _ sc _ _ _=>⟨c,none,.func ⟨n,PySem.Str.ofString q,ps,.stmts b,sc,g,[],d,vn,vn,m,none,cd,vn,0⟩,#[]⟩
 |_=>default
def e0:Obj:=⟨vt "tuple",none,.seq #[],#[]⟩
def f0:Obj:=⟨vn,none,.fields #[],#[]⟩
noncomputable def ah:List Str->Nat->List Value
 |[],_=>[]
 |x::l,t=> .str x t::ah l (t+1)
def ZL(n:Str)(a t ln ac m:Nat)(x y z:Value):Obj:=⟨vt "code",none,.fields #[.str n t,.str n (t+1),vs "/claim/cut.py" (t+2),vi ln 0,vi ac 0,vi 0 0,vi 0 0,vi 3 0,vr a,.bool true,vi 181 0,vr (a+1),vn,x,y,z,vi (t+3+m:Nat) 0,vi ln 0,vs "/claim/cut.py" (t+4+m)],#[]⟩
def X3(c:Value)(n:Str)(ps:Arguments)(b:List Stmt)(sc:Scope)(g:Nat)(d m cd:Value):Obj:=⟨c,none,.func ⟨n,n,ps,.stmts b,sc,g,[],d,vn,vn,m,none,cd,vn,0⟩,#[]⟩
def jJ(i a t ln:Nat)(md:String)(mt:Nat)(dv:Value):List Obj:=match Vl i with
 | .FunctionDef n ps b _ _ _ sc _ _ _=>
  let ns:=sc.names.filterMap λx=>match x.2 with| .local=>some x.1|_=>none
  [e0,f0,⟨vt "tuple",none,.seq ⟨ah ns (t+3)⟩,#[]⟩,e0,X3 vn n ps b sc 0 vn vn vn,ZL n a t ln ps.args.length ns.length (vr (a+2)) (vr (a+3)) (vr (a+4)),X3 (vt "function") n ps b sc 3 dv (vs md mt) (vr (a+5))]
 |_=>[]
def X4(i a t ln:Nat)(md:String)(mt:Nat)(dv:Value):List Obj:=match Vl i with
 | .FunctionDef n ps b _ _ _ sc _ _ _=>
  [e0,f0,X3 vn n ps b sc 0 vn vn vn,ZL n a t ln ps.args.length 0 vn vn (vr (a+2)),X3 (vt "function") n ps b sc 3 dv (vs md mt) (vr (a+3))]
 |_=>[]
noncomputable abbrev AB:String:="adacore.listexpr"
noncomputable abbrev xO:String:="adacore.exprs"
noncomputable abbrev Cw:String:="adacore.errors"
noncomputable abbrev EF:String:="adacore.reader"
noncomputable abbrev EG:String:="adacore.lexer"
noncomputable abbrev Pb:String:="builtin_function_or_method"
abbrev tu(x:Array Value):Obj:=Obj.mk (vt "tuple") none (Data.seq x) #[]
abbrev fi(x:Array Value):Obj:=Obj.mk vn none (Data.fields x) #[]
abbrev di(x:Array DictEntry)(n:Nat):Obj:=Obj.mk (vt "dict") none (Data.dict x n) #[]
abbrev fs(s:String)(x:Array Value):Obj:=Obj.mk (vt s) none (Data.fields x) #[]
abbrev cu(n:Nat):Value:=vs "/claim/cut.py" n
def objs(P:Params)(o2 o3 o12 o31:Obj):List Obj:=
 [boot_o_0 P,boot_o_1 P,o2,o3,boot_o_4 P,boot_o_5 P,boot_o_6 P,boot_o_7 P,boot_o_8 P,boot_o_9 P,boot_o_10 P]++
 ([tu #[],
  o12,
  fs "code" #[vs "<module>" 182,vs "<module>" 183,cu 184,vi 1 0,vi 0 0,vi 0 0,vi 0 0,vi 0 0,vr 11,Value.bool false,vi 181 0,vr 12,vn,vn,vn,vn,vi 185 0,vi 1 0,cu 186],
  Obj.mk (vt "frame") none Data.plain #[some (vr 13),some (vr 3),some (vr 3),none,some (vs "__main__" 164),none,some (vr 0)],
  tu #[vt "Exception"],
  fs Pb #[Value.builtin "type.__prepare__",vt "type"],
  di #[de P "__module__" 196 (vs Cw 187),de P "__qualname__" 198 (vs "AdaError" 197),de P "__firstlineno__" 200 (vi 2 199),de P "__init__" 208 (vr 28),de P "__static_attributes__" 210 (vr 29)] 5,
  tu #[],
  fi #[vi 4 0,vi 4 0,vr 27],
  fs "code" #[vs "AdaError" 191,vs "AdaError" 192,cu 193,vi 2 0,vi 0 0,vi 0 0,vi 0 0,vi 0 0,vr 18,Value.bool false,vi 181 0,vr 19,vn,vn,vn,vn,vi 194 0,vi 2 0,cu 195],
  Obj.mk (vt "frame") none Data.plain #[some (vr 20),some (vr 3),some (vr 17),none,some (vs Cw 187),none,some (vr 0)],
  tu #[],
  fi #[],
  tu #[vs "self" 204,vs "text" 205],
  tu #[],
  fo vn (Pa 1) "AdaError.__init__" 0 (vn) (vn) (vn),
  fs "code" #[vs "__init__" 201,vs "AdaError.__init__" 202,cu 203,vi 4 0,vi 2 0,vi 0 0,vi 0 0,vi 3 0,vr 22,Value.bool true,vi 181 0,vr 23,vn,vr 24,vr 25,vr 26,vi 206 0,vi 4 0,cu 207],
  fo (vt "function") (Pa 1) "AdaError.__init__" 3 (vn) (vs Cw 187) (vr 27),
  tu #[vs "text" 209],
  di #[de P "__module__" 196 (vs Cw 187),de P "__firstlineno__" 200 (vi 2 199),de P "__init__" 208 (vr 28),de P "__static_attributes__" 210 (vr 29),de P "__weakref__" 212 (vr 32),de P "__doc__" 213 vn] 3,
  o31,
  fs "getset_descriptor" #[vs "__weakref__" 211,vr 31,Value.builtin "ExceptionGroup.__weakref__",vn],
  fs "super" #[vr 31,vr 31,vr 31],
  fs Pb #[Value.builtin "object.__init_subclass__",vr 31],
  tu #[vr 31],
  fs Pb #[Value.builtin "type.__prepare__",vt "type"],
  di #[de P "__module__" 225 (vs Cw 187),de P "__qualname__" 227 (vs "LexFault" 226),de P "__firstlineno__" 229 (vi 7 228),de P "__init__" 238 (vr 48),de P "__static_attributes__" 240 (vr 49)] 5,
  tu #[],
  fi #[vi 9 0,vi 4 0,vr 47],
  fs "code" #[vs "LexFault" 220,vs "LexFault" 221,cu 222,vi 7 0,vi 0 0,vi 0 0,vi 0 0,vi 0 0,vr 38,Value.bool false,vi 181 0,vr 39,vn,vn,vn,vn,vi 223 0,vi 7 0,cu 224],
  Obj.mk (vt "frame") none Data.plain #[some (vr 40),some (vr 3),some (vr 37),none,some (vs Cw 187),none,some (vr 0)],
  tu #[],
  fi #[],
  tu #[vs "self" 233,vs "line" 234,vs "text" 235],
  tu #[],
  fo vn (Pa 2) "LexFault.__init__" 0 (vn) (vn) (vn),
  fs "code" #[vs "__init__" 230,vs "LexFault.__init__" 231,cu 232,vi 9 0,vi 3 0,vi 0 0,vi 0 0,vi 3 0,vr 42,Value.bool true,vi 181 0,vr 43,vn,vr 44,vr 45,vr 46,vi 236 0,vi 9 0,cu 237],
  fo (vt "function") (Pa 2) "LexFault.__init__" 3 (vn) (vs Cw 187) (vr 47),
  tu #[vs "line" 239],
  di #[de P "__module__" 225 (vs Cw 187),de P "__firstlineno__" 229 (vi 7 228),de P "__init__" 238 (vr 48),de P "__static_attributes__" 240 (vr 49),de P "__doc__" 241 vn] 2,
  Obj.mk (vt "type") none (Data.cls (ClassData.mk (Str.ofString "LexFault") [vr 31] [vr 51,vr 31,vt "Exception",vt "BaseException",vt "object"] 50 (Str.ofString "LexFault") true [] [] false none false)) #[some (vr 35),none,some (vs "LexFault" 218),some (vs "LexFault" 226),some (Value.builtin "Exception.__new__"),some (Value.bool true)],
  fs "super" #[vr 51,vr 51,vr 51],
  fs Pb #[Value.builtin "object.__init_subclass__",vr 51],
  tu #[vr 31],
  fs Pb #[Value.builtin "type.__prepare__",vt "type"],
  di #[de P "__module__" 251 (vs Cw 187),de P "__qualname__" 253 (vs "SyntaxFault" 252),de P "__firstlineno__" 255 (vi 12 254),de P "__init__" 264 (vr 67),de P "__static_attributes__" 266 (vr 68)] 5,
  tu #[],
  fi #[vi 14 0,vi 4 0,vr 66],
  fs "code" #[vs "SyntaxFault" 246,vs "SyntaxFault" 247,cu 248,vi 12 0,vi 0 0,vi 0 0,vi 0 0,vi 0 0,vr 57,Value.bool false,vi 181 0,vr 58,vn,vn,vn,vn,vi 249 0,vi 12 0,cu 250],
  Obj.mk (vt "frame") none Data.plain #[some (vr 59),some (vr 3),some (vr 56),none,some (vs Cw 187),none,some (vr 0)],
  tu #[],
  fi #[],
  tu #[vs "self" 259,vs "line" 260,vs "text" 261],
  tu #[],
  fo vn (Pa 3) "SyntaxFault.__init__" 0 (vn) (vn) (vn),
  fs "code" #[vs "__init__" 256,vs "SyntaxFault.__init__" 257,cu 258,vi 14 0,vi 3 0,vi 0 0,vi 0 0,vi 3 0,vr 61,Value.bool true,vi 181 0,vr 62,vn,vr 63,vr 64,vr 65,vi 262 0,vi 14 0,cu 263],
  fo (vt "function") (Pa 3) "SyntaxFault.__init__" 3 (vn) (vs Cw 187) (vr 66),
  tu #[vs "line" 265],
  di #[de P "__module__" 251 (vs Cw 187),de P "__firstlineno__" 255 (vi 12 254),de P "__init__" 264 (vr 67),de P "__static_attributes__" 266 (vr 68),de P "__doc__" 267 vn] 2,
  Obj.mk (vt "type") none (Data.cls (ClassData.mk (Str.ofString "SyntaxFault") [vr 31] [vr 70,vr 31,vt "Exception",vt "BaseException",vt "object"] 69 (Str.ofString "SyntaxFault") true [] [] false none false)) #[some (vr 54),none,some (vs "SyntaxFault" 244),some (vs "SyntaxFault" 252),some (Value.builtin "Exception.__new__"),some (Value.bool true)],
  fs "super" #[vr 70,vr 70,vr 70],
  fs Pb #[Value.builtin "object.__init_subclass__",vr 70],
  tu #[vr 31],
  fs Pb #[Value.builtin "type.__prepare__",vt "type"],
  di #[de P "__module__" 277 (vs Cw 187),de P "__qualname__" 279 (vs "AdaRaise" 278),de P "__firstlineno__" 281 (vi 17 280),de P "__init__" 291 (vr 86),de P "__static_attributes__" 295 (vr 87)] 5,
  tu #[],
  fi #[vi 19 0,vi 4 0,vr 85],
  fs "code" #[vs "AdaRaise" 272,vs "AdaRaise" 273,cu 274,vi 17 0,vi 0 0,vi 0 0,vi 0 0,vi 0 0,vr 76,Value.bool false,vi 181 0,vr 77,vn,vn,vn,vn,vi 275 0,vi 17 0,cu 276],
  Obj.mk (vt "frame") none Data.plain #[some (vr 78),some (vr 3),some (vr 75),none,some (vs Cw 187),none,some (vr 0)],
  tu #[],
  fi #[],
  tu #[vs "self" 285,vs "name" 286,vs "line" 287,vs "text" 288],
  tu #[],
  fo vn (Pa 4) "AdaRaise.__init__" 0 (vn) (vn) (vn),
  fs "code" #[vs "__init__" 282,vs "AdaRaise.__init__" 283,cu 284,vi 19 0,vi 4 0,vi 0 0,vi 0 0,vi 3 0,vr 80,Value.bool true,vi 181 0,vr 81,vn,vr 82,vr 83,vr 84,vi 289 0,vi 19 0,cu 290],
  fo (vt "function") (Pa 4) "AdaRaise.__init__" 3 (vn) (vs Cw 187) (vr 85),
  tu #[vs "line" 292,vs "name" 293,vs "word" 294],
  di #[de P "__module__" 277 (vs Cw 187),de P "__firstlineno__" 281 (vi 17 280),de P "__init__" 291 (vr 86),de P "__static_attributes__" 295 (vr 87),de P "__doc__" 296 vn] 2,
  Obj.mk (vt "type") none (Data.cls (ClassData.mk (Str.ofString "AdaRaise") [vr 31] [vr 89,vr 31,vt "Exception",vt "BaseException",vt "object"] 88 (Str.ofString "AdaRaise") true [] [] false none false)) #[some (vr 73),none,some (vs "AdaRaise" 270),some (vs "AdaRaise" 278),some (Value.builtin "Exception.__new__"),some (Value.bool true)],
  fs "super" #[vr 89,vr 89,vr 89],
  fs Pb #[Value.builtin "object.__init_subclass__",vr 89],
  tu #[],
  fs Pb #[Value.builtin "type.__prepare__",vt "type"],
  di #[de P "__module__" 308 (vs EF 299),de P "__qualname__" 310 (vs "Reader" 309),de P "__firstlineno__" 312 (vi 25 311),de P "__init__" 322 (vr 106),de P "__static_attributes__" 338 (vr 107)] 5,
  tu #[],
  fi #[vi 27 0,vi 4 0,vr 105],
  fs "code" #[vs "Reader" 303,vs "Reader" 304,cu 305,vi 25 0,vi 0 0,vi 0 0,vi 0 0,vi 0 0,vr 95,Value.bool false,vi 181 0,vr 96,vn,vn,vn,vn,vi 306 0,vi 25 0,cu 307],
  Obj.mk (vt "frame") none Data.plain #[some (vr 97),some (vr 3),some (vr 94),none,some (vs EF 299),none,some (vr 0)],
  tu #[vi 0 313],
  tu #[],
  fi #[],
  tu #[vs "self" 317,vs "tokens" 318,vs "at" 319],
  tu #[],
  fo vn (Pa 6) "Reader.__init__" 0 (vn) (vn) (vn),
  fs "code" #[vs "__init__" 314,vs "Reader.__init__" 315,cu 316,vi 27 0,vi 3 0,vi 0 0,vi 0 0,vi 3 0,vr 100,Value.bool true,vi 181 0,vr 101,vn,vr 102,vr 103,vr 104,vi 320 0,vi 27 0,cu 321],
  fo (vt "function") (Pa 6) "Reader.__init__" 3 (vr 99) (vs EF 299) (vr 105),
  tu #[vs "at" 323,vs "deep" 324,vs "nest" 325,vs "parse_choices" 326,vs "parse_declarations" 327,vs "parse_discrete" 328,vs "parse_expr" 329,vs "parse_formals" 330,vs "parse_handled" 331,vs "parse_handlers" 332,vs "parse_item" 333,vs "parse_name" 334,vs "parse_sequence" 335,vs "parse_statements" 336,vs "tokens" 337],
  di #[de P "__module__" 308 (vs EF 299),de P "__firstlineno__" 312 (vi 25 311),de P "__init__" 322 (vr 106),de P "__static_attributes__" 338 (vr 107),de P "__dict__" 340 (vr 110),de P "__weakref__" 342 (vr 111),de P "__doc__" 343 vn] 4,
  Obj.mk (vt "type") none (Data.cls (ClassData.mk (Str.ofString "Reader") [vt "object"] [vr 109,vt "object"] 108 (Str.ofString "Reader") true [] [] false none false)) #[none,none,some (vs "Reader" 301),some (vs "Reader" 309),some (Value.builtin "object.__new__"),some (Value.bool true)],
  fs "getset_descriptor" #[vs "__dict__" 339,vr 109,Value.builtin "function.__dict__",Value.builtin "function.__dict__#set"],
  fs "getset_descriptor" #[vs "__weakref__" 341,vr 109,Value.builtin "ExceptionGroup.__weakref__",vn],
  fs "super" #[vr 109,vr 109,vr 109],
  fs Pb #[Value.builtin "object.__init_subclass__",vr 109]]++
 (jJ 7 114 346 43 EF 299 (vn)++
 (jJ 8 121 355 50 EF 299 (vn)++
 (jJ 9 128 362 52 EF 299 (vn)++
 (jJ 10 135 370 56 EF 299 (vn)++
 (jJ 11 142 377 58 EF 299 (vn)++
 ([tu #[vi 0 385]]++
 (jJ 12 150 386 60 EF 299 (vr 149)++
 ([tu #[vi 0 395]]++
 (jJ 13 158 396 62 EF 299 (vr 157)++
 (jJ 14 165 405 64 EF 299 (vn)++
 (jJ 15 172 413 69 EF 299 (vn)++
 (jJ 16 179 421 74 EF 299 (vn)++
 (jJ 17 186 429 77 EF 299 (vn)++
 (jJ 21 193 442 84 "adacore.heights" 436 (vn)++
 (X4 22 200 452 96 "adacore.heights" 436 (vn)++
 (jJ 23 205 458 103 "adacore.heights" 436 (vn)++
 (jJ 24 212 465 107 "adacore.heights" 436 (vn)++
 (jJ 25 219 472 109 "adacore.heights" 436 (vn)++
 ([tu #[vs "abort" 482,vs "abs" 483,vs "abstract" 484,vs "accept" 485,vs "access" 486,vs "aliased" 487,vs "all" 488,vs "and" 489,vs "array" 490,vs "at" 491,vs "begin" 492,vs "body" 493,vs "case" 494,vs "constant" 495,vs "declare" 496,vs "delay" 497,vs "delta" 498,vs "digits" 499,vs "do" 500,vs "else" 501,vs "elsif" 502,vs "end" 503,vs "entry" 504,vs "exception" 505,vs "exit" 506,vs "for" 507,vs "function" 508,vs "generic" 509,vs "goto" 510,vs "if" 511,vs "in" 512,vs "is" 513,vs "limited" 514,vs "loop" 515,vs "mod" 516,vs "new" 517,vs "not" 518,vs "null" 519,vs "of" 520,vs "or" 521,vs "others" 522,vs "out" 523,vs "package" 524,vs "pragma" 525,vs "private" 526,vs "procedure" 527,vs "protected" 528,vs "raise" 529,vs "range" 530,vs "record" 531,vs "rem" 532,vs "renames" 533,vs "requeue" 534,vs "return" 535,vs "reverse" 536,vs "select" 537,vs "separate" 538,vs "subtype" 539,vs "tagged" 540,vs "task" 541,vs "terminate" 542,vs "then" 543,vs "type" 544,vs "until" 545,vs "use" 546,vs "when" 547,vs "while" 548,vs "with" 549,vs "xor" 550],
  tu #[vs "and" 552,vs "or" 553,vs "xor" 554,vs "=" 555,vs "<" 556,vs "<=" 557,vs ">" 558,vs ">=" 559,vs "+" 560,vs "-" 561,vs "&" 562,vs "*" 563,vs "/" 564,vs "mod" 565,vs "rem" 566,vs "**" 567],
  tu #[vs "+" 569,vs "-" 570,vs "abs" 571,vs "not" 572]]++
 (jJ 30 229 574 117 "adacore.names" 480 (vn)++
 (jJ 31 236 581 119 "adacore.names" 480 (vn)++
 ([tu #[vs "=" 591,vs "/=" 592,vs "<" 593,vs "<=" 594,vs ">" 595,vs ">=" 596],
  tu #[vs "name" 598,vs "select" 599,vs "apply" 600,vs "all" 601,vs "tick" 602],
  tu #[vs "range" 604,vs "access" 605,vs "digits" 606,vs "delta" 607,vs "mod" 608],
  tu #[vs "base" 610,vs "class" 611]]++
 (jJ 37 247 613 128 xO 589 (vn)++
 (jJ 38 254 620 130 xO 589 (vn)++
 (jJ 39 261 627 138 xO 589 (vn)++
 (jJ 40 268 639 152 xO 589 (vn)++
 (jJ 41 275 647 157 xO 589 (vn)++
 (jJ 42 282 656 173 xO 589 (vn)++
 (jJ 43 289 664 180 xO 589 (vn)++
 (jJ 44 296 673 191 xO 589 (vn)++
 (jJ 45 303 682 197 xO 589 (vn)++
 (jJ 46 310 691 205 xO 589 (vn)++
 (jJ 47 317 701 223 xO 589 (vn)++
 (jJ 48 324 709 229 xO 589 (vn)++
 (jJ 49 331 717 246 xO 589 (vn)++
 (jJ 50 338 728 256 xO 589 (vn)++
 (jJ 51 345 740 270 xO 589 (vn)++
 (jJ 52 352 748 276 xO 589 (vn)++
 (jJ 53 359 756 283 xO 589 (vn)++
 (jJ 54 366 764 290 xO 589 (vn)++
 (jJ 55 373 773 301 xO 589 (vn)++
 (jJ 56 380 782 309 xO 589 (vn)++
 (jJ 57 387 790 316 xO 589 (vn)++
 (jJ 58 394 799 332 xO 589 (vn)++
 (jJ 59 401 809 336 xO 589 (vn)++
 (jJ 62 408 824 349 "adacore.rationals" 818 (vn)++
 (jJ 63 415 832 355 "adacore.rationals" 818 (vn)++
 ([tu #[vs "=>" 849,vs ".." 850,vs "**" 851,vs ":=" 852,vs "/=" 853,vs ">=" 854,vs "<=" 855,vs "<<" 856,vs ">>" 857,vs "<>" 858]]++
 (jJ 74 423 870 377 EG 841 (vn)++
 (jJ 75 430 877 381 EG 841 (vn)++
 (jJ 76 437 884 383 EG 841 (vn)++
 (jJ 77 444 891 385 EG 841 (vn)++
 (jJ 78 451 898 387 EG 841 (vn)++
 (jJ 79 458 909 398 EG 841 (vn)++
 (jJ 80 465 923 421 EG 841 (vn)++
 (jJ 81 472 937 430 EG 841 (vn)++
 (jJ 82 479 956 458 EG 841 (vn)++
 (jJ 83 486 967 469 EG 841 (vn)++
 (jJ 84 493 977 474 EG 841 (vn)++
 (jJ 85 500 987 478 EG 841 (vn)++
 (jJ 86 507 996 484 EG 841 (vn)++
 (jJ 87 514 1007 495 EG 841 (vn)++
 (jJ 88 521 1016 500 EG 841 (vn)++
 ([di #[de P "**" 1031 (vr 529),de P "*" 1035 (vr 530),de P "/" 1039 (vr 531),de P "mod" 1043 (vr 532),de P "rem" 1047 (vr 533),de P "+" 1051 (vr 534),de P "-" 1055 (vr 535),de P "&" 1059 (vr 536),de P "=" 1063 (vr 537),de P "/=" 1067 (vr 538),de P "<" 1071 (vr 539),de P "<=" 1075 (vr 540),de P ">" 1079 (vr 541),de P ">=" 1083 (vr 542)] 14,
  tu #[vi 5 1032,vi 6 1033,vi 6 1034],
  tu #[vi 4 1036,vi 4 1037,vi 5 1038],
  tu #[vi 4 1040,vi 4 1041,vi 5 1042],
  tu #[vi 4 1044,vi 4 1045,vi 5 1046],
  tu #[vi 4 1048,vi 4 1049,vi 5 1050],
  tu #[vi 3 1052,vi 3 1053,vi 4 1054],
  tu #[vi 3 1056,vi 3 1057,vi 4 1058],
  tu #[vi 3 1060,vi 3 1061,vi 4 1062],
  tu #[vi 2 1064,vi 3 1065,vi 3 1066],
  tu #[vi 2 1068,vi 3 1069,vi 3 1070],
  tu #[vi 2 1072,vi 3 1073,vi 3 1074],
  tu #[vi 2 1076,vi 3 1077,vi 3 1078],
  tu #[vi 2 1080,vi 3 1081,vi 3 1082],
  tu #[vi 2 1084,vi 3 1085,vi 3 1086],
  di #[de P "andthen" 1102 (vs "and then" 1103),de P "orelse" 1104 (vs "or else" 1105)] 2,
  tu #[vi 10 1109,vi 2 1110,vi 3 1111,vi 4 1112,vi 5 1113,vi 6 1114,vi 7 1115,vi 8 1116,vi 9 1117,vi 11 1118,vi 12 1119,vi 13 1120,vi 14 1121,vi 15 1122,vi 16 1123]]++
 (jJ 96 545 1129 522 AB 1027 (vn)++
 (jJ 97 552 1136 528 AB 1027 (vn)++
 (jJ 98 559 1143 538 AB 1027 (vn)++
 (jJ 99 566 1151 542 AB 1027 (vn)++
 (jJ 100 573 1162 550 AB 1027 (vn)++
 (jJ 101 580 1174 564 AB 1027 (vn)++
 (jJ 102 587 1184 570 AB 1027 (vn)++
 (jJ 103 594 1194 577 AB 1027 (vn)++
 (jJ 104 601 1204 584 AB 1027 (vn)++
 (jJ 105 608 1219 596 AB 1027 (vn)++
 (jJ 106 615 1230 606 AB 1027 (vn)++
 (X4 107 622 1237 616 AB 1027 (vn)++
 (X4 108 627 1243 621 AB 1027 (vn)++
 (jJ 109 632 1249 623 AB 1027 (vn)++
 (X4 110 639 1256 627 AB 1027 (vn)++
 (jJ 111 644 1262 645 AB 1027 (vn)++
 (jJ 112 651 1269 655 AB 1027 (vn)++
 (jJ 113 658 1276 659 AB 1027 (vn)++
 (jJ 114 665 1284 662 AB 1027 (vn)++
 ([Obj.mk (vt "list") none (Data.seq #[vs "+" 1294,vs "-" 1295,vs "&" 1296]) #[],
  Obj.mk (vt "list") none (Data.seq #[vs "*" 1298,vs "/" 1299,vs "mod" 1300,vs "rem" 1301]) #[],
  Obj.mk (vt "list") none (Data.seq #[vs "=" 1303,vs "/=" 1304,vs "<" 1305,vs "<=" 1306,vs ">" 1307,vs ">=" 1308]) #[]]++
 (jJ 119 675 1310 689 "law_xm0009_01" 1292 (vn)++
 (jJ 120 682 1319 695 "law_xm0009_01" 1292 (vn)++
 (jJ 121 689 1334 716 "law_xm0009_01" 1292 (vn)++
 (jJ 122 696 1341 732 "law_xm0009_01" 1292 (vn)++
 (jJ 123 703 1351 746 "law_xm0009_01" 1292 (vn)++
 (jJ 124 710 1362 759 "law_xm0009_01" 1292 (vn)++
 (jJ 125 717 1371 766 "law_xm0009_01" 1292 (vn)))))))))))))))))))))))))))))))))))))))))))))))))))))))))))))))))))))))))))))))))))))))))))))
def Vz:List (String×Nat×Value):=
 [("__doc__",166,vn),("__package__",167,vn),("__loader__",168,(Value.builtin "__main__.__loader__#opaque")),("__spec__",169,vn),("__annotations__",170,(vr 6)),("__builtins__",171,(vr 4)),("__file__",173,(cu 172)),("__cached__",174,vn),("AdaError",217,(vr 31)),("LexFault",243,(vr 51)),("SyntaxFault",269,(vr 70)),("AdaRaise",298,(vr 89)),("Reader",345,(vr 109)),("token_ahead",354,(vr 120)),("peek_token",361,(vr 127)),("take_token",369,(vr 134)),("here_line",376,(vr 141)),("refuse_here",384,(vr 148)),("is_sign",394,(vr 156)),("is_word",404,(vr 164)),("take_sign",412,(vr 171)),("take_word",420,(vr 178)),("need_sign",428,(vr 185)),("need_name",435,(vr 192)),("MOST_HIGH",439,(vi 60 438)),("MOST_NESTED",441,(vi 24 440)),("tree_parts",451,(vr 199)),("check_height",457,(vr 204)),("open_nest",464,(vr 211)),("close_nest",471,(vr 218)),("bounded_tree",479,(vr 225)),("RESERVED",551,(vr 226)),("BINARY_NAMES",568,(vr 227)),("UNARY_NAMES",573,(vr 228)),("is_reserved",580,(vr 235)),("is_operator_name",588,(vr 242)),("RELATIONS",597,(vr 243)),("NAMES",603,(vr 244)),("WORDS_AS_ATTRIBUTES",609,(vr 245)),("MARK_ATTRIBUTES",612,(vr 246)),("parse_expr",619,(vr 253)),("logical_word",626,(vr 260)),("logical_tree",638,(vr 267)),("relation_sign",646,(vr 274)),("relation_tree",655,(vr 281)),("member_tree",663,(vr 288)),("simple_tree",672,(vr 295)),("term_tree",681,(vr 302)),("factor_tree",690,(vr 309)),("primary_tree",700,(vr 316)),("symbol_name",708,(vr 323)),("name_tree",716,(vr 330)),("selected_tree",727,(vr 337)),("attribute_tree",739,(vr 344)),("extent_tree",747,(vr 351)),("parse_range",755,(vr 358)),("parse_choice",763,(vr 365)),("assoc_here",772,(vr 372)),("assoc_row",781,(vr 379)),("assocs_here",789,(vr 386)),("bracket_tree",798,(vr 393)),("refuse_ranges",808,(vr 400)),("lone_bracket",817,(vr 407)),("GREATEST",823,(vi (Int.ofNat (10 ^ 700)) 822)),("ratio_divisor",831,(vr 414)),("make_ratio",840,(vr 421)),("SMALL_LETTERS",844,(vs "abcdefghijklmnopqrstuvwxyz" 843)),("FIGURES",846,(vs "0123456789" 845)),("BASED_FIGURES",848,(vs "0123456789abcdef" 847)),("COMPOUNDS",859,(vr 422)),("SINGLES",861,(vs "&()*+,-./:;<=>|" 860)),("GAPS",863,(vs " \t\x0d\n\x0c\x0b" 862)),("LINE_ENDS",865,(vs "\n\x0d\x0c\x0b" 864)),("MOST_FIGURES",867,(vi 80 866)),("MOST_POWER",869,(vi 400 868)),("small_sign",876,(vr 429)),("is_name_letter",883,(vr 436)),("is_name_part",890,(vr 443)),("is_graphic",897,(vr 450)),("name_token",908,(vr 457)),("read_numeral",922,(vr 464)),("power_of",936,(vr 471)),("number_token",955,(vr 478)),("string_token",966,(vr 485)),("is_prefix",976,(vr 492)),("tick_token",986,(vr 499)),("delimiter_token",995,(vr 506)),("one_token",1006,(vr 513)),("remark_behind",1015,(vr 520)),("tokens_of",1026,(vr 527)),("PRIMARY_LEVEL",1030,(vi 6 1029)),("BINDING",1101,(vr 528)),("SHORT_WORDS",1108,(vr 543)),("LITERAL_BASES",1124,(vr 544)),("MOST_PLACES",1126,(vi 480 1125)),("FIGURE_SIGNS",1128,(vs "0123456789abcdef" 1127)),("logical_sort",1135,(vr 551)),("binding_of",1142,(vr 558)),("show_within",1150,(vr 565)),("show_logical",1161,(vr 572)),("show_chain",1173,(vr 579)),("figures_of",1183,(vr 586)),("show_based",1193,(vr 593)),("show_whole",1203,(vr 600)),("show_scaled",1218,(vr 607)),("show_real",1229,(vr 614)),("show_literal",1236,(vr 621)),("show_part",1242,(vr 626)),("show_assocs",1248,(vr 631)),("tick_behind",1255,(vr 638)),("show_named",1261,(vr 643)),("show_bracket",1268,(vr 650)),("show_range",1275,(vr 657)),("show_member",1283,(vr 664)),("show_expr",1291,(vr 671)),("_law_adding",1297,(vr 672)),("_law_scaling",1302,(vr 673)),("_law_comparing",1309,(vr 674)),("_law_draw_next",1318,(vr 681)),("_law_grow",1333,(vr 688)),("_law_word",1340,(vr 695)),("_law_free",1350,(vr 702)),("_law_due",1361,(vr 709)),("_law_heard",1370,(vr 716)),("law",1385,(vr 723))]
def GX(P:Params)(nm:String)(tk k:Nat):Obj:=⟨vt "dict",none,.dict ⟨de P "__name__" 165 (vs nm tk)::(Vz.take k).map λe=>de P e.1 e.2.1 e.2.2⟩ (k+1),#[]⟩
noncomputable def S6:List (Nat×Nat):=[(2,20),(7,40),(12,59),(17,78),(25,97),(43,119),(50,126),(52,133),(56,140),(58,147),(60,155),(62,163),(64,170),(69,177),(74,184),(77,191),(84,198),(96,203),(103,210),(107,217),(109,224),(117,234),(119,241),(128,252),(130,259),(138,266),(152,273),(157,280),(173,287),(180,294),(191,301),(197,308),(205,315),(223,322),(229,329),(246,336),(256,343),(270,350),(276,357),(283,364),(290,371),(301,378),(309,385),(316,392),(332,399),(336,406),(349,413),(355,420),(377,428),(381,435),(383,442),(385,449),(387,456),(398,463),(421,470),(430,477),(458,484),(469,491),(474,498),(478,505),(484,512),(495,519),(500,526),(522,550),(528,557),(538,564),(542,571),(550,578),(564,585),(570,592),(577,599),(584,606),(596,613),(606,620),(616,625),(621,630),(623,637),(627,642),(645,649),(655,656),(659,663),(662,670),(689,680),(695,687),(716,694),(732,701),(746,708),(759,715),(766,722)]
def um(k:Nat):Obj:=⟨vn,none,.fields ⟨(S6.take k).flatMap λx=>[vi x.1 0,vi 0 0,vr x.2]⟩,#[]⟩
def uo(l:List Value):Obj:=Obj.mk (vt "type") none (Data.cls (ClassData.mk (Str.ofString "AdaError") [vt "Exception"] [vr 31,vt "Exception",vt "BaseException",vt "object"] 30 (Str.ofString "AdaError") true [] l false none false)) #[some (vr 15),none,some (vs "AdaError" 189),some (vs "AdaError" 197),some (Value.builtin "Exception.__new__"),some (Value.bool true)]
def G1(P:Params):Obj:=Obj.mk vn none (Data.dict #[de P "type.__subclasses__.Exception.0" 214 (vi 31 0),de P "type.__subclasses__.Exception.n" 215 (vi 1 0)] 2) #[]
noncomputable def X5:Bool->List Obj->List Obj
 |_,[]=>[]
 |true,x::l=>x::X5 false l
 |false,_::l=>X5 true l
noncomputable def bt:Nat->List Obj->BT
 | 0,_=> .nil
 |_,[]=> .nil
 |k+1,x::l=> .node x (bt k (X5 true l)) (bt k (X5 false l))
def X6(P:Params):BT:=bt 12 ((objs P (boot_o_2 P) (GX P "__main__" 164 8) (um 0) (uo [])).take 15)
def ZM(P:Params):BT:=bt 12 ((objs P (G1 P) (GX P Cw 187 9) (um 1) (uo [])).take 35)
def ZN(P:Params):BT:=bt 12 ((objs P (G1 P) (GX P Cw 187 10) (um 2) (uo [vr 51])).take 54)
def ZO(P:Params):BT:=bt 12 ((objs P (G1 P) (GX P Cw 187 11) (um 3) (uo [vr 51,vr 70])).take 73)
def ZP(P:Params):BT:=bt 12 ((objs P (G1 P) (GX P EF 299 12) (um 4) (uo [vr 51,vr 70,vr 89])).take 92)
def ZQ(P:Params):BT:=bt 12 ((objs P (G1 P) (GX P EF 299 18) (um 10) (uo [vr 51,vr 70,vr 89])).take 149)
def ZR(P:Params):BT:=bt 12 ((objs P (G1 P) (GX P "adacore.names" 480 31) (um 21) (uo [vr 51,vr 70,vr 89])).take 226)
def ZS(P:Params):BT:=bt 12 ((objs P (G1 P) (GX P xO 589 45) (um 28) (uo [vr 51,vr 70,vr 89])).take 282)
def ZT(P:Params):BT:=bt 12 ((objs P (G1 P) (GX P xO 589 57) (um 40) (uo [vr 51,vr 70,vr 89])).take 366)
def ZU(P:Params):BT:=bt 12 ((objs P (G1 P) (GX P EG 841 75) (um 48) (uo [vr 51,vr 70,vr 89])).take 423)
def S7(P:Params):BT:=bt 12 ((objs P (G1 P) (GX P EG 841 87) (um 60) (uo [vr 51,vr 70,vr 89])).take 507)
def Pi(P:Params):BT:=bt 12 ((objs P (G1 P) (GX P AB 1027 92) (um 63) (uo [vr 51,vr 70,vr 89])).take 543)
def S8(P:Params):BT:=bt 12 ((objs P (G1 P) (GX P AB 1027 105) (um 72) (uo [vr 51,vr 70,vr 89])).take 608)
def VA(P:Params):BT:=bt 12 ((objs P (G1 P) (GX P "law_xm0009_01" 1292 119) (um 83) (uo [vr 51,vr 70,vr 89])).take 682)
def sJ(P:Params):BT:=bt 12 ((objs P (G1 P) (GX P "law_xm0009_01" 1292 125) (um 89) (uo [vr 51,vr 70,vr 89])).take 724)
end
end
section
def kt(k:Lean.Name):Lean.Syntax:= .node .none `Lean.Parser.Tactic.tacticSeq #[.node .none `Lean.Parser.Tactic.tacticSeq1Indented #[.node .none `null #[.node .none k #[.atom .none "k"]]]]
def kr:Lean.Syntax:=kt `tacticKernel_rfl
def kq:Lean.Syntax:=kt `Lean.Parser.Tactic.tacticRfl
noncomputable abbrev IQ{α:Type}(d:α)(l:List α):Nat->α:=List.rec (λ_=>d) (λx _ f i=>Nat.rec x (λi _=>f i) i) l
abbrev Li:=Int×List Int
noncomputable def G2:List Int->List Int->Int
 |[],_=>0
 |k::p,x=>match x with|[]=>0|x::r=>k * x+G2 p r
def val(x:List Int)(p:Li):Int:=p.1+G2 p.2 x
noncomputable def X7:List Int->List Int->List Int
 |[],b=>b
 |x::a,b=>match b with|[]=>x::a|y::b=>(x+y)::X7 a b
noncomputable def X8(k:Int):List Int->List Int
 |[]=>[]
 |x::a=>k * x::X8 k a
theorem a4(a b c d:Int):a+b+(c+d)=a+c+(b+d):=by rw[Int.add_assoc,Int.add_left_comm b,Int.add_assoc]
theorem pc{a b:Int}:0<=b -a↔a<=b:=⟨Int.le_of_sub_nonneg,Int.sub_nonneg_of_le⟩
theorem IR{a b:Int}:0<=b -a -1↔a<b:=by rw[pc];exact⟨Int.lt_of_sub_pos,Int.sub_pos_of_lt⟩
theorem Pj(p:List Int):G2 p []=0:=by cases p<;>rfl
theorem IS:∀a b x,G2 (X7 a b) x=G2 a x+G2 b x
 |[],b,x=>(Int.zero_add _).symm
 |u::a,[],x=>(Int.add_zero _).symm
 |u::a,v::b,[]=>rfl
 |u::a,v::b,x::r=>by have e:=IS a b r;show(u+v) * x+G2 (X7 a b) r=u * x+G2 a r+(v * x+G2 b r);rw[e,Int.add_mul,a4]
theorem IT(k:Int):∀a x,G2 (X8 k a) x=k * G2 a x
 |[],x=>(Int.mul_zero _).symm
 |u::a,[]=>(Int.mul_zero _).symm
 |u::a,x::r=>by have e:=IT k a r;show k * u * x+G2 (X8 k a) r=k *(u * x+G2 a r);rw[e,Int.mul_add,Int.mul_assoc]
def add(p q:Li):Li:=(p.1+q.1,X7 p.2 q.2)
def sm(k:Int)(p:Li):Li:=(k * p.1,X8 k p.2)
def sb(p q:Li):Li:=add p (sm (-1) q)
def s1(p q:Li):Li:=add (sb p q) (-1,[])
variable{x:List Int}
theorem vy(p q:Li):val x (add p q)=val x p+val x q:=(dN (p.1+q.1+·) (IS ..)).trans (a4 ..)
theorem wH(k:Int)(p:Li):val x (sm k p)=k * val x p:=(dN (k * p.1+·) (IT ..)).trans (Int.mul_add ..).symm
theorem lD(p q:Li):val x (sb p q)=val x p -val x q:=by unfold sb;rw[vy,wH,Int.neg_mul,Int.one_mul];rfl
theorem Cy(p q:Li):val x (s1 p q)=val x p -val x q -1:=by unfold s1;rw[vy,lD];rfl
def Hd(x:List Int)(c:List Li):Prop:=∀p ∈ c,0<=val x p
noncomputable def LQ:Int->Bool| .ofNat _=>false| .negSucc _=>true
noncomputable def IU:Int->Bool| .ofNat n=>Nat.blt 0 n| .negSucc _=>false
theorem IW:∀{i},LQ i=true->i<0| .negSucc n,_=>Int.negSucc_lt_zero n
theorem LR:∀{i},IU i=true->0<i| .ofNat (n+1),_=>Int.natCast_pos.2 (Nat.succ_pos n)
noncomputable def hd(p:Li):Int:=match p.2 with|[]=>0|k::_=>k
noncomputable def tl(p:Li):Li:=(p.1,p.2.tail)
def elim(c:List Li):List Li:=
 (c.filter λp=> !(IU (hd p) || LQ (hd p))).map tl++
 (c.filter λp=>IU (hd p)).flatMap λp=>(c.filter λp=>LQ (hd p)).map λq=>add (sm (-hd q) (tl p)) (sm (hd p) (tl q))
theorem LS(u:Int)(p:Li):val (u::x) p=hd p * u+val x (tl p):=by
 obtain⟨k,l⟩:=p;cases l with
 |nil=>show k+0=0 * u+(k+0);rw[Int.zero_mul,Int.zero_add]
 |cons y l=>exact Int.add_left_comm ..
theorem nz{i}(h:(!(IU i || LQ i))=true):i=0:=by
 cases i with
 |ofNat n=>cases n with
  |zero=>rfl
  |succ n=>exact absurd (show false=true from h) Bool.false_ne_true
 |negSucc n=>exact absurd (show false=true from h) Bool.false_ne_true
theorem Pk{u:Int}{c:List Li}(h:Hd (u::x) c):Hd x (elim c):=by
 intro p hp;rcases eF.1 hp with hp|hp
 ·obtain⟨q,hq,rfl⟩:=List.mem_map.1 hp;obtain⟨hq,e⟩:=List.mem_filter.1 hq;have h:=h q hq;rw[LS,nz e,Int.zero_mul,Int.zero_add]at h;exact h
 ·obtain⟨q,hq,hp⟩:=List.mem_flatMap.1 hp;obtain⟨r,hr,rfl⟩:=List.mem_map.1 hp;obtain⟨hq,e⟩:=List.mem_filter.1 hq;obtain⟨hr,f⟩:=List.mem_filter.1 hr;have a:=h q hq;have b:=h r hr;rw[LS]at a b;have e:=LR e;have f:=IW f;rw[vy,wH,wH];have a:=Int.mul_nonneg (Int.le_of_lt (Int.neg_pos_of_neg f)) a;have b:=Int.mul_nonneg (Int.le_of_lt e) b;rw[Int.mul_add]at a b;have g: -hd r *(hd q * u)+hd q *(hd r * u)=0:=by rw[Int.neg_mul,Int.mul_left_comm (hd q),Int.add_left_neg]
  have e:=Int.add_nonneg a b;rw[a4,g,Int.zero_add]at e;exact e
noncomputable def fm:Nat->List Li->Bool
 | 0,c=>c.any λp=>LQ p.1
 |n+1,c=>fm n (elim c)
theorem Ru:∀{n c} x,fm n c=true->x.length=n->¬ Hd x c
 | 0,c,[],h,_,hh=>by obtain⟨p,hp,h⟩:=List.any_eq_true.1 h;have h:=IW h;have e:=hh p hp;unfold val at e;rw[Pj,Int.add_zero]at e;exact Int.not_lt.2 e h
 |n+1,c,u::x,h,l,hh=>Ru (c:=elim c) x h (Nat.succ.inj (show Nat.succ x.length=Nat.succ n from l)) (Pk hh)
abbrev Cs:=List (List Li×Li)
def Kc(x:List Int)(X:Cs)(z:Int):Prop:=∃c ∈ X,Hd x c.1/\val x c.2=z
noncomputable def bi(f:Li->Li->Cs)(X Y:Cs):Cs:=X.flatMap λa=>Y.flatMap λb=>(f a.2 b.2).map λc=>(a.1++(b.1++c.1),c.2)
theorem Hd.app{c d}(h:Hd x c)(k:Hd x d):Hd x (c++d):=λp hp=>(eF.1 hp).elim (h p) (k p)
theorem Hd.nil:Hd x []:=λ_ h=>absurd h dJ
theorem Hd.cons{p c}(h:0<=val x p)(k:Hd x c):Hd x (p::c):=λq hq=>(dj.1 hq).elim (λe=>e▸h) (k q)
theorem Hd.one{p}(h:0<=val x p):Hd x [p]:= .cons h .nil
theorem us{f:Li->Li->Cs}{X Y a b z}(h:Kc x X a)(k:Kc x Y b)(g:∀p q,val x p=a->val x q=b->Kc x (f p q) z):Kc x (bi f X Y) z:=
 h.elim λc⟨hc,c1,c2⟩=>k.elim λd⟨hd,d1,d2⟩=>(g _ _ c2 d2).elim λe⟨he,e1,e2⟩=>
  ⟨_,List.mem_flatMap.2 ⟨c,hc,List.mem_flatMap.2 ⟨d,hd,List.mem_map.2 ⟨e,he,rfl⟩⟩⟩,c1.app (d1.app e1),e2⟩
theorem wI{p:Li}{z:Int}(h:val x p=z):Kc x [([],p)] z:=⟨_,.head _,.nil,h⟩
theorem Kd{p q r s:Li}{z:Int}(h:0<=val x p/\val x q=z\/0<=val x r/\val x s=z):Kc x [([p],q),([r],s)] z:=
 h.elim (λh=>⟨_,.head _,.one h.1,h.2⟩) λh=>⟨_,.tail _ (.head _),.one h.1,h.2⟩
noncomputable def un:Nat->List Int| 0=>[1]|i+1=>0::un i
theorem LT:∀i x,G2 (un i) x=IQ 0 x i
 | 0,[]=>rfl
 | 0,y::r=>(Int.add_zero _).trans (Int.one_mul y)
 |i+1,[]=>rfl
 |i+1,y::r=>by show 0 * y+G2 (un i) r=IQ 0 r i;rw[Int.zero_mul,Int.zero_add,LT i r]
theorem Cz(i:Nat):val x (0,un i)=IQ 0 x i:=(Int.zero_add _).trans (LT ..)
abbrev Ds:=List (List Li)
def Dh(x:List Int)(D:Ds):Prop:=∃d ∈ D,Hd x d
noncomputable def S9(f:Li->Li->Ds)(X Y:Cs):Ds:=X.flatMap λa=>Y.flatMap λb=>(f a.2 b.2).map λc=>a.1++(b.1++c)
noncomputable def cr(X Y:Ds):Ds:=X.flatMap λa=>Y.map λb=>a++b
def Yo(b:Bool)(p q:Li):Ds:=bif b then [[sb q p]]else [[s1 p q]]
def Yp(b:Bool)(p q:Li):Ds:=bif b then [[s1 q p]]else [[sb p q]]
def Tb(b:Bool)(p q:Li):Ds:=bif b then [[sb p q,sb q p]]else [[s1 p q],[s1 q p]]
theorem LU{τ:List Int}:∀{σ:List Int}{i},Nat.blt i σ.length=true->IQ 0 (σ++τ) i=IQ 0 σ i
 |[],_,h=>nomatch h
 |u::σ,0,h=>rfl
 |u::σ,i+1,h=>LU (σ:=σ) h
theorem LW:∀{σ:List Int}{i},Nat.blt i σ.length=false->IQ 0 σ i=0
 |[],_,h=>rfl
 |u::σ,0,h=>nomatch h
 |u::σ,i+1,h=>LW (σ:=σ) h
theorem LX:∀{ρ:List Nat}{i},IQ 0 (ρ.map Int.ofNat) i=Int.ofNat (IQ 0 ρ i)
 |[],_=>rfl
 |u::ρ,0=>rfl
 |u::ρ,i+1=>LX (ρ:=ρ)
theorem LY{τ:List Int}{i}:∀{σ:List Int},IQ 0 (σ++τ) (σ.length+i)=IQ 0 τ i
 |[]=>by rw[List.length_nil,Nat.zero_add];rfl
 |u::σ=>by rw[eD,Nat.add_right_comm];exact LY (σ:=σ)
theorem BA{f:Li->Li->Ds}{X Y a b}(h:Kc x X a)(k:Kc x Y b)(g:∀p q,val x p=a->val x q=b->Dh x (f p q)):Dh x (S9 f X Y):=
 h.elim λc⟨hc,c1,c2⟩=>k.elim λd⟨hd,d1,d2⟩=>(g _ _ c2 d2).elim λe⟨he,e1⟩=>
  ⟨_,List.mem_flatMap.2 ⟨c,hc,List.mem_flatMap.2 ⟨d,hd,List.mem_map.2 ⟨e,he,rfl⟩⟩⟩,c1.app (d1.app e1)⟩
theorem IX{X Y}:Dh x X->Dh x Y->Dh x (cr X Y)
 |⟨c,hc,h⟩,⟨d,hd,k⟩=>⟨_,List.mem_flatMap.2 ⟨c,hc,List.mem_map.2 ⟨d,hd,rfl⟩⟩,h.app k⟩
theorem Dh.l{X Y}:Dh x X->Dh x (X++Y)|⟨c,hc,h⟩=>⟨c,List.mem_append_left _ hc,h⟩
theorem Dh.r{X Y}:Dh x Y->Dh x (X++Y)|⟨c,hc,h⟩=>⟨c,List.mem_append_right _ hc,h⟩
theorem Dh.o{p:Li}(h:0<=val x p):Dh x [[p]]:=⟨_,.head _,.one h⟩
def Vm(b:Bool)(p:Prop):Prop:=bif b then p else ¬ p
theorem ZV{b}{u v:Int}(h:Vm b (u<=v))(p q:Li)(a:val x p=u)(c:val x q=v):Dh x (Yo b p q):=by
 cases b with
 |true=>exact .o (by rw[lD,a,c];exact pc.2 h)
 |false=>exact .o (by rw[Cy,a,c];exact IR.2 (Int.not_le.1 h))
theorem ZW{b}{u v:Int}(h:Vm b (u<v))(p q:Li)(a:val x p=u)(c:val x q=v):Dh x (Yp b p q):=by
 cases b with
 |true=>exact .o (by rw[Cy,a,c];exact IR.2 h)
 |false=>exact .o (by rw[lD,a,c];exact pc.2 (Int.not_lt.1 h))
theorem ZX{b}{u v:Int}(h:Vm b (u=v))(p q:Li)(a:val x p=u)(c:val x q=v):Dh x (Tb b p q):=by
 cases b with
 |true=>exact⟨_,.head _,.cons (by rw[lD,a,c];exact pc.2 (Int.le_of_eq (Eq.symm h))) (.one (by rw[lD,a,c];exact pc.2 (Int.le_of_eq h)))⟩
 |false=>
  refine(Int.lt_or_gt_of_ne h).elim (λh=>⟨_,.tail _ (.head _),.one ?_⟩) λh=>⟨_,.head _,.one ?_⟩
  ·rw[Cy,a,c];exact IR.2 h
  ·rw[Cy,a,c];exact IR.2 h
theorem yu{b}{p q:Prop}(e:p↔q)(h:Vm b p):Vm b q:=by
 cases b with
 |true=>exact e.1 h
 |false=>exactλk=>h (e.2 k)
theorem EH(i:Int):val x (i,[])=i:=Int.add_zero i
noncomputable def xs(ρ:List Nat)(σ:List Int):List Int:=σ++ρ.map Int.ofNat
structure sk where
 e:List Nat->List Int->Nat
 n:Nat->Cs
 ok:∀ρ σ,Kc (xs ρ σ) (n σ.length) (Int.ofNat (e ρ σ))
structure BB where
 e:List Nat->List Int->Int
 n:Nat->Cs
 ok:∀ρ σ,Kc (xs ρ σ) (n σ.length) (e ρ σ)
structure nX where
 ev:List Nat->List Int->Prop
 d:Nat->Bool->Ds
 ok:∀ρ σ b,Vm b (ev ρ σ)->Dh (xs ρ σ) (d σ.length b)
theorem ZY{b:Bool}{X Y:Cs}{z:Int}(h:b=true->Kc x X z)(k:b=false->Kc x Y z):Kc x (bif b then X else Y) z:=match b with|true=>h rfl|false=>k rfl
section
variable(x y:sk)(i j:Nat)
abbrev sk.v:sk:=⟨λρ _=>IQ 0 ρ i,λm=>[([],(0,un (m+i)))],λρ σ=>wI ((Cz _).trans (LY.trans LX))⟩
noncomputable abbrev sk.k:sk:=⟨λ_ _=>i,λ_=>[([],(i,[]))],λ_ _=>wI (EH _)⟩
abbrev sk.a:sk:=⟨λρ σ=>x.e ρ σ+y.e ρ σ,λm=>bi (λp q=>[([],add p q)]) (x.n m) (y.n m),λρ σ=>us (x.ok ρ σ) (y.ok ρ σ) λp q h k=>wI (by rw[vy,h,k];rfl)⟩
abbrev sk.s:sk:=⟨λρ σ=>x.e ρ σ -y.e ρ σ,λm=>bi (λp q=>[([sb p q],sb p q),([sb q p],(0,[]))]) (x.n m) (y.n m),λρ σ=>us (x.ok ρ σ) (y.ok ρ σ) λp q h k=>Kd (by rw[lD,lD,h,k,EH,pc,pc];exact(Nat.le_total (y.e ρ σ) (x.e ρ σ)).imp (λh=>⟨Int.ofNat_le.2 h,(Int.ofNat_sub h).symm⟩) λh=>⟨Int.ofNat_le.2 h,dN Int.ofNat (Nat.sub_eq_zero_of_le h).symm⟩)⟩
abbrev sk.l(i:Nat)(x:sk):sk:=⟨λρ σ=>i * x.e ρ σ,λm=>bi (λp _=>[([],sm i p)]) (x.n m) (x.n m),λρ σ=>us (x.ok ρ σ) (x.ok ρ σ) λp q h k=>wI (by rw[wH,h];rfl)⟩
abbrev sk.r:sk:=⟨λρ σ=>x.e ρ σ * i,(sk.l i x).n,λρ σ=>Nat.mul_comm i (x.e ρ σ)▸(sk.l i x).ok ρ σ⟩
abbrev sk.mi:sk:=⟨λρ σ=>min (x.e ρ σ) (y.e ρ σ),λm=>bi (λp q=>[([sb q p],p),([sb p q],q)]) (x.n m) (y.n m),λρ σ=>us (x.ok ρ σ) (y.ok ρ σ) λp q h k=>Kd (by rw[lD,lD,h,k,pc,pc];exact(Nat.le_total (x.e ρ σ) (y.e ρ σ)).imp (λh=>⟨Int.ofNat_le.2 h,dN Int.ofNat (qd h).symm⟩) λh=>⟨Int.ofNat_le.2 h,dN Int.ofNat (Nat.min_eq_right h).symm⟩)⟩
abbrev sk.ma:sk:=⟨λρ σ=>max (x.e ρ σ) (y.e ρ σ),λm=>bi (λp q=>[([sb q p],q),([sb p q],p)]) (x.n m) (y.n m),λρ σ=>us (x.ok ρ σ) (y.ok ρ σ) λp q h k=>Kd (by rw[lD,lD,h,k,pc,pc];exact(Nat.le_total (x.e ρ σ) (y.e ρ σ)).imp (λh=>⟨Int.ofNat_le.2 h,dN Int.ofNat (Nat.max_eq_right h).symm⟩) λh=>⟨Int.ofNat_le.2 h,dN Int.ofNat (Nat.max_eq_left h).symm⟩)⟩
abbrev sk.ab:sk:=⟨λ_ σ=>Int.natAbs (IQ 0 σ i),λm=>bif Nat.blt i m then [([(0,un i)],(0,un i)),([sm (-1) (0,un i)],sm (-1) (0,un i))]else [([],(0,[]))],λρ σ=>ZY (λe=>Kd (by
   rw[wH,Cz,Int.neg_mul,Int.one_mul];unfold xs;rw[LU e];exact(Int.le_total 0 (IQ 0 σ i)).imp (λh=>⟨h,(Int.natAbs_of_nonneg h).symm⟩) λh=>⟨Int.neg_nonneg_of_nonpos h,(Int.ofNat_natAbs_of_nonpos h).symm⟩))
  λe=>wI (by rw[LW e];rfl)⟩
noncomputable abbrev sk.pw:sk:=⟨λ_ _=>i ^ j,λ_=>[([],((i ^ j:Nat),[]))],λ_ _=>wI (EH _)⟩
end
section
variable(x y:BB)(i j:Nat)
abbrev BB.v:BB:=⟨λ_ σ=>IQ 0 σ i,λm=>bif Nat.blt i m then [([],(0,un i))]else [([],(0,[]))],λρ σ=>ZY (λe=>wI ((Cz _).trans (LU e))) λe=>wI (by rw[LW e];rfl)⟩
noncomputable abbrev BB.k:BB:=⟨λ_ _=>Int.ofNat i,λ_=>[([],(i,[]))],λ_ _=>wI (EH _)⟩
noncomputable abbrev BB.c(x:sk):BB:=⟨λρ σ=>Int.ofNat (x.e ρ σ),x.n,x.ok⟩
abbrev BB.a:BB:=⟨λρ σ=>x.e ρ σ+y.e ρ σ,λm=>bi (λp q=>[([],add p q)]) (x.n m) (y.n m),λρ σ=>us (x.ok ρ σ) (y.ok ρ σ) λp q h k=>wI (by rw[vy,h,k])⟩
abbrev BB.s:BB:=⟨λρ σ=>x.e ρ σ -y.e ρ σ,λm=>bi (λp q=>[([],sb p q)]) (x.n m) (y.n m),λρ σ=>us (x.ok ρ σ) (y.ok ρ σ) λp q h k=>wI (by rw[lD,h,k])⟩
abbrev BB.n':BB:=⟨λρ σ=> -x.e ρ σ,λm=>bi (λp _=>[([],sm (-1) p)]) (x.n m) (x.n m),λρ σ=>us (x.ok ρ σ) (x.ok ρ σ) λp q h k=>wI (by rw[wH,h,Int.neg_mul,Int.one_mul])⟩
abbrev BB.ma:BB:=⟨λρ σ=>max (x.e ρ σ) (y.e ρ σ),λm=>bi (λp q=>[([sb q p],q),([sb p q],p)]) (x.n m) (y.n m),λρ σ=>us (x.ok ρ σ) (y.ok ρ σ) λp q h k=>Kd (by rw[lD,lD,h,k,pc,pc];exact(Int.le_total (x.e ρ σ) (y.e ρ σ)).imp (λh=>⟨h,(Int.max_eq_right h).symm⟩) λh=>⟨h,(Int.max_eq_left h).symm⟩)⟩
abbrev BB.mi:BB:=⟨λρ σ=>min (x.e ρ σ) (y.e ρ σ),λm=>bi (λp q=>[([sb q p],p),([sb p q],q)]) (x.n m) (y.n m),λρ σ=>us (x.ok ρ σ) (y.ok ρ σ) λp q h k=>Kd (by rw[lD,lD,h,k,pc,pc];exact(Int.le_total (x.e ρ σ) (y.e ρ σ)).imp (λh=>⟨h,(Int.min_eq_left h).symm⟩) λh=>⟨h,(Int.min_eq_right h).symm⟩)⟩
abbrev BB.pw:BB:=⟨λ_ _=>Int.ofNat i ^ j,(sk.pw i j).n,λ_ _=>wI ((EH _).trans (Int.natCast_pow i j))⟩
end
section
variable(x y:sk)(u v:BB)(p q:nX)
abbrev nX.l:nX:=⟨λρ σ=>x.e ρ σ<=y.e ρ σ,λm b=>S9 (Yo b) (x.n m) (y.n m),λρ σ b h=>BA (x.ok ρ σ) (y.ok ρ σ) (ZV (yu Int.ofNat_le.symm h))⟩
abbrev nX.g:nX:=⟨λρ σ=>Nat.ble (x.e ρ σ) (y.e ρ σ)=true,(nX.l x y).d,λρ σ b h=>(nX.l x y).ok ρ σ b (yu ⟨fq,Nat.ble_eq_true_of_le⟩ h)⟩
abbrev nX.t:nX:=⟨λρ σ=>x.e ρ σ<y.e ρ σ,λm b=>S9 (Yp b) (x.n m) (y.n m),λρ σ b h=>BA (x.ok ρ σ) (y.ok ρ σ) (ZW (yu Int.ofNat_lt.symm h))⟩
abbrev nX.e:nX:=⟨λρ σ=>x.e ρ σ=y.e ρ σ,λm b=>S9 (Tb b) (x.n m) (y.n m),λρ σ b h=>BA (x.ok ρ σ) (y.ok ρ σ) (ZX (yu ⟨dN _,Int.ofNat.inj⟩ h))⟩
abbrev nX.L:nX:=⟨λρ σ=>u.e ρ σ<=v.e ρ σ,λm b=>S9 (Yo b) (u.n m) (v.n m),λρ σ b h=>BA (u.ok ρ σ) (v.ok ρ σ) (ZV h)⟩
abbrev nX.S:nX:=⟨λρ σ=>u.e ρ σ<v.e ρ σ,λm b=>S9 (Yp b) (u.n m) (v.n m),λρ σ b h=>BA (u.ok ρ σ) (v.ok ρ σ) (ZW h)⟩
abbrev nX.E:nX:=⟨λρ σ=>u.e ρ σ=v.e ρ σ,λm b=>S9 (Tb b) (u.n m) (v.n m),λρ σ b h=>BA (u.ok ρ σ) (v.ok ρ σ) (ZX h)⟩
noncomputable abbrev nX.n:nX:=⟨λρ σ=>¬ p.ev ρ σ,λm b=>p.d m (!b),λρ σ b=>match b with|true=>λh=>p.ok ρ σ false h|false=>λh=>p.ok ρ σ true (Classical.not_not.1 h)⟩
abbrev nX.c:nX:=⟨λρ σ=>p.ev ρ σ/\q.ev ρ σ,λm b=>bif b then cr (p.d m b) (q.d m b)else p.d m b++q.d m b,λρ σ b=>match b with
 |true=>λh=>IX (p.ok ρ σ true h.1) (q.ok ρ σ true h.2)
 |false=>λh=>(Classical.em (p.ev ρ σ)).elim (λk=> .r (q.ok ρ σ false λl=>h ⟨k,l⟩)) λk=> .l (p.ok ρ σ false k)⟩
abbrev nX.o:nX:=⟨λρ σ=>p.ev ρ σ\/q.ev ρ σ,λm b=>bif b then p.d m b++q.d m b else cr (p.d m b) (q.d m b),λρ σ b=>match b with
 |true=>λh=>h.elim (λk=> .l (p.ok ρ σ true k)) λk=> .r (q.ok ρ σ true k)
 |false=>λh=>IX (p.ok ρ σ false λk=>h (.inl k)) (q.ok ρ σ false λk=>h (.inr k))⟩
noncomputable abbrev nX.f:nX:=⟨λ_ _=>False,λ_ b=>bif b then []else [[]],λ_ _ b=>match b with|true=>λh=>h.elim|false=>λ_=>⟨_,.head _,.nil⟩⟩
end
section
variable(ρ:List Nat)(σ:List Int)
abbrev Qn(c:nX)(l:List nX):Prop:=List.rec (c.ev ρ σ) (λh _ p=>h.ev ρ σ->p) l
end
noncomputable def hy(m:Nat):List nX->Ds
 |[]=>[[]]
 |h::r=>cr (h.d m true) (hy m r)
noncomputable def Yq(m:Nat):Nat->List Li| 0=>[]|n+1=>(0,un (m+n))::Yq m n
def Ke(m n:Nat)(c:nX)(hs:List nX):Bool:=(cr (c.d m false) (hy m hs)).all λd=>fm (m+n) (Yq m n++d)
section
variable{ρ:List Nat}{σ:List Int}
theorem Rv{c:nX}:∀{hs},¬ Qn ρ σ c hs->Dh (xs ρ σ) (hy σ.length hs)/\¬ c.ev ρ σ
 |[],h=>⟨⟨_,.head _,.nil⟩,h⟩
 |p::r,h=>
  have h:¬(p.ev ρ σ->Qn ρ σ c r):=h;have k:=Rv λk=>h λ_=>k
  ⟨IX (p.ok _ _ true (sR λl=>h λm=>absurd m l)) k.1,k.2⟩
theorem LZ:∀n,Hd (xs ρ σ) (Yq σ.length n)
 | 0=> .nil
 |n+1=> .cons (by rw[Cz];unfold xs;rw[LY,LX];exact Int.natCast_nonneg _) (LZ n)
theorem q{c hs}(h:Ke σ.length ρ.length c hs=true):Qn ρ σ c hs:=
 sR λk=>
  have k:=Rv k
  (IX (c.ok _ _ false k.2) k.1).elim λd⟨hd,l⟩=>
   Ru _ (fu.1 h d hd) (by unfold xs;rw[dI,f6]) ((LZ _).app l)
end
abbrev A0:=sk.v 0
abbrev A1:=sk.v 1
abbrev A2:=sk.v 2
abbrev A3:=sk.v 3
abbrev A4:=sk.v 4
abbrev A5:=sk.v 5
abbrev A6:=sk.v 6
abbrev A7:=sk.v 7
abbrev Pn(ρ:List Nat)(c:nX)(hs:List nX):Prop:=Qn ρ [] c hs
theorem pQ{ρ c hs}(h:autoParam (Ke 0 ρ.length c hs=true) kr):Pn ρ c hs:=q h
theorem lE{a:Nat}(X:nX)(Y:List nX)(p:autoParam (Ke 0 1 X Y=true) kr):Pn [a] X Y:=q p
theorem ie{a b:Nat}(X:nX)(Y:List nX)(p:autoParam (Ke 0 2 X Y=true) kr):Pn [a,b] X Y:=q p
theorem kI{a b c:Nat}(X:nX)(Y:List nX)(p:autoParam (Ke 0 3 X Y=true) kr):Pn [a,b,c] X Y:=q p
theorem lx{a b c d:Nat}(X:nX)(Y:List nX)(p:autoParam (Ke 0 4 X Y=true) kr):Pn [a,b,c,d] X Y:=q p
theorem BC{a b c d e:Nat}(X:nX)(Y:List nX)(p:autoParam (Ke 0 5 X Y=true) kr):Pn [a,b,c,d,e] X Y:=q p
theorem Kf{a b c d e f:Nat}(X:nX)(Y:List nX)(p:autoParam (Ke 0 6 X Y=true) kr):Pn [a,b,c,d,e,f] X Y:=q p
theorem Kg{a b c d e f g:Nat}(X:nX)(Y:List nX)(p:autoParam (Ke 0 7 X Y=true) kr):Pn [a,b,c,d,e,f,g] X Y:=q p
theorem VB{a b c d e f g h:Nat}(X:nX)(Y:List nX)(p:autoParam (Ke 0 8 X Y=true) kr):Pn [a,b,c,d,e,f,g,h] X Y:=q p
theorem ZZ{a b c d e f g h i:Nat}(X:nX)(Y:List nX)(p:autoParam (Ke 0 9 X Y=true) kr):Pn [a,b,c,d,e,f,g,h,i] X Y:=q p
theorem Yr{a b c d e f g h i j:Nat}(X:nX)(Y:List nX)(p:autoParam (Ke 0 10 X Y=true) kr):Pn [a,b,c,d,e,f,g,h,i,j] X Y:=q p
abbrev A8:=sk.v 8
abbrev A9:=sk.v 9
abbrev K1:=sk.k 1
theorem pI{ρ σ c hs}(h:autoParam (Ke σ.length ρ.length c hs=true) kr):Qn ρ σ c hs:=q h
end
section
variable{a b c d e f g h i j k l m n:Nat}
theorem dq(h:c<=a)(e:Nat.ble (d+0) (c+0)=true):d<=a:=(pQ:Pn [a,c,d] (.l A2 A0) [.l A1 A0,.g (.a A2 (.k 0)) (.a A1 (.k 0))]) h e
theorem EI:Pn [a,c,d] (.t A2 A0) [.l A1 A0,.g (.a (.a A2 K1) (.k 0)) (.a A1 (.k 0))]:=pQ
theorem dp:Pn [a,c,j] (.e A0 (.a (.s A0 A2) A2)) [.l A1 A0,.g (.a A2 (.k 0)) A1]:=pQ
theorem dl:Pn [a,c,d,k] (.l A2 A0) [.l A1 (.a A0 A3),.g (.a A2 A3) (.a A1 (.k 0))]:=pQ
theorem jw:Pn [a,c,d,j,k] (.l A2 (.a A0 A3)) [.l A1 (.a A0 A4),.g (.a A2 A4) (.a A1 A3)]:=pQ
theorem qH:Pn [a,c,j] (.e A0 (.a (.s A0 A2) A2)) [.t A1 A0,.g (.a A2 (.k 0)) (.a A1 K1)]:=pQ
theorem kJ(h:a<=c)(e:Nat.ble (c+0) (d+0)=true):a<=d:=(pQ:Pn [a,c,d] (.l A0 A2) [.l A0 A1,.g (.a A1 (.k 0)) (.a A2 (.k 0))]) h e
theorem qI:Pn [a,c,d] (.t A0 A2) [.l A0 A1,.g (.a A1 K1) (.a A2 (.k 0))]:=pQ
theorem BD:Pn [a,c,d,j] (.t (.a A0 A3) A2) [.t A0 A1,.g (.a A1 (.a A3 K1)) (.a A2 K1)]:=pQ
theorem yI:Pn [a,c,d] (.l A0 A2) [.t A0 A1,.g (.a A1 (.k 0)) (.a A2 K1)]:=pQ
theorem mq:Pn [a,c,d] (.t A0 A2) [.t A0 A1,.g (.a A1 K1) (.a A2 K1)]:=pQ
theorem X9:Pn [a,b,c,d] (.l A2 A3) [.l A0 A1,.e A2 A0,.l A1 A3]:=pQ
theorem Z0:Pn [a,b,c,d] (.l A2 A3) [.t A0 A1,.e A2 A0,.l A1 A3]:=pQ
theorem zq3(h1:a=b)(h2:c=a)(h3:d=b+e)(h4:¬f<a):c<=f:=(pQ:Pn [a,b,c,d,e,f] (.l A2 A5) [.e A0 A1,.e A2 A0,.e A3 (.a A1 A4),.n (.t A5 A0)]) h1 h2 h3 h4
theorem zq4(h1:a=b)(h2:c=a)(h3:d=b+e)(h4:f<a):f<c:=(pQ:Pn [a,b,c,d,e,f] (.t A5 A2) [.e A0 A1,.e A2 A0,.e A3 (.a A1 A4),.t A5 A0]) h1 h2 h3 h4
theorem Z1:Pn [a,b] (.t (.a (.a A0 K1) A1) (.k 1000)) [.t (.a A0 (.a A1 K1)) (.k 1000)]:=pQ
theorem VC{a:Int}:Qn [] [a] (.t (.ab 0) (.k 1073741824)) [.c (.S (.k 0) (.v 0)) (.S (.v 0) (.k 1000000))]:=pI
theorem VD{a:Int}:Qn [] [a] (.n (.E (.v 0) (.k 0))) [.c (.S (.k 0) (.v 0)) (.S (.v 0) (.k 1000000))]:=pI
theorem VE:Pn [a] (.E (.c (.a A0 (.k 1))) (.a (.c A0) (.k 1))) []:=pQ
theorem Ys:Pn [a,b] (.t (.a (.a (.a A0 K1) (.l 16 A1)) (.k 200)) (.k 9900)) [.t (.a (.a A0 (.l 16 (.a A1 K1))) (.k 200)) (.k 9900)]:=pQ
theorem VF:Pn [a,b] (.t (.a A0 (.k 64)) A1) [.t (.a A0 (.k 66)) A1]:=pQ
theorem VG:Pn [a,b] (.t A0 A1) [.t (.a A0 (.k 66)) A1]:=pQ
theorem VH{a:Int}:Qn [] [a] (.L (.n' (.pw 2 63)) (.v 0)) [.t (.ab 0) (.pw 2 40)]:=pI
theorem VI{a:Int}:Qn [] [a] (.S (.v 0) (.k 0)) [.n (.L (.k 0) (.v 0))]:=pI
theorem VJ{a:Int}:Qn [] [a] (.S (.v 0) (.pw 2 63)) [.t (.ab 0) (.pw 2 40)]:=pI
theorem Yt{a:Int}(h:0<=a+(↑b:Int)/\a+(↑b:Int)<(↑b:Int)):Int.toNat (a+(↑b:Int))=Int.toNat (a+(↑b:Int))/\ -(↑b:Int)<=a:=⟨rfl,(pI:Qn [b] [a] (.L (.n' (.c A0)) (.v 0)) [.L (.k 0) (.a (.v 0) (.c A0))]) h.1⟩
theorem Yu{a:Int}(h:0<=a)(k:0<=a/\a<(↑b:Int)):Int.toNat a=Int.toNat a/\Int.toNat a<b:=⟨rfl,(Int.toNat_lt h).2 k.2⟩
theorem L0:Pn [a,b,c,d,e] (.l (.a (.a A0 A4) A2) A3) [.l (.a (.a A0 A1) A2) A3,.l A4 A1]:=pQ
theorem G3:Pn [a,b,c,d,e,f,g,h] (.l (.a (.a (.a (.a A0 A1) (.a A4 A5)) (.k 0)) A6) A3) [.l (.a (.a A0 A1) A2) A3,.l (.a (.a A4 A5) A6) A7,.l A7 A2]:=pQ
theorem VK:Pn [a,b,c,d,e] (.l (.a (.a (.a A0 A1) (.k 0)) A2) A4) [.l (.a (.a A0 A1) A2) A3,.l A3 A4]:=pQ
theorem AC:Pn [a,b] (.l A0 A1) [.t A0 A1]:=pQ
theorem Pl:Pn [a,b] (.e A1 (.a (.s A1 K1) K1)) [.t A0 A1]:=pQ
theorem VM:Pn [a,b,c] (.e A2 (.a (.s A2 K1) K1)) [.t A0 A1,.l A1 (.a A2 A0)]:=pQ
theorem VN:Pn [a,b,c] (.t A2 A1) [.t (.a A0 K1) A1,.l A2 A0]:=pQ
theorem Tc:Pn [a,b] (.l A0 (.a A0 A1)) []:=pQ
theorem Yv(h1:a<=b)(h2:b+(c+1)<d)(h3:d=e+1):a<d:=(pQ:Pn [a,b,c,d,e] (.t A0 A3) [.l A0 A1,.t (.a A1 (.a A2 K1)) A3,.e A3 (.a A4 K1)]) h1 h2 h3
theorem CA(h1:max a b+1<=c):a<c:=(pQ:Pn [a,b,c] (.t A0 A2) [.l (.a (.ma A0 A1) K1) A2]) h1
theorem VO:Pn [a,b,c,d] (.e A3 (.a (.s A3 K1) K1)) [.l A0 A1,.t (.a A1 (.a A2 K1)) A3]:=pQ
theorem VQ:Pn [a,b,c,d] (.l A0 (.a A1 (.a A2 (.a A3 K1)))) [.l A0 (.a (.a A1 K1) A2)]:=pQ
theorem VR:Pn [a,b,c,d] (.e A3 (.a (.s A3 K1) K1)) [.t (.a A0 (.a A1 K1)) A2,.l A2 (.a A3 A0)]:=pQ
theorem Kh(h1:a<=b)(h2:b+(c+1)<d):a<d:=(pQ:Pn [a,b,c,d] (.t A0 A3) [.l A0 A1,.t (.a A1 (.a A2 K1)) A3]) h1 h2
theorem G4:Pn [a,b,c] (.l A0 A2) [.l (.a (.ma A0 A1) K1) A2]:=pQ
theorem Pm(h1:a<=b)(h2:c<=d)(h3:b+(d+1)<e):c<e:=(pQ:Pn [a,b,c,d,e] (.t A2 A4) [.l A0 A1,.l A2 A3,.t (.a A1 (.a A3 K1)) A4]) h1 h2 h3
theorem CB(h1:max a b+1<=c):b<c:=(pQ:Pn [a,b,c] (.t A1 A2) [.l (.a (.ma A0 A1) K1) A2]) h1
theorem VS:Pn [a] (.l A0 (.a (.a A0 K1) K1)) []:=pQ
theorem VT:Pn [a,b,c] (.l K1 (.a A1 (.a A0 A2))) [.l K1 A0]:=pQ
theorem Rw:Pn [a,b] (.t (.k 0) A1) [.t A0 A1]:=pQ
theorem Rx(h1:a<=b)(h2:c<=d)(h3:e<=f)(h4:b+(g+(d+(f+1)))<h):a<h:=(pQ:Pn [a,b,c,d,e,f,g,h] (.t A0 A7) [.l A0 A1,.l A2 A3,.l A4 A5,.t (.a A1 (.a A6 (.a A3 (.a A5 K1)))) A7]) h1 h2 h3 h4
theorem L1:Pn [a,b] (.e (.a A1 K1) A0) [.e A0 (.a A1 K1)]:=pQ
theorem Ry:Pn [a,b,c] (.e (.a A2 (.k 2)) A0) [.e A0 (.a A1 K1),.e A1 (.a A2 K1)]:=pQ
theorem Rz:Pn [a] (.f) [.e (.k 0) A0,.t (.k 0) A0]:=pQ
theorem VV(h1:a=b)(h2:¬c+d<b):b<=c+d:=(pQ:Pn [a,b,c,d] (.l A1 (.a A2 A3)) [.e A0 A1,.n (.t (.a A2 A3) A1)]) h1 h2
theorem VW(h:a<500)(i:b=a)(k:0<a):(0<= -1+(↑b:Int)/\ -1+(↑b:Int)<(↑b:Int))/\Int.toNat (-1+(↑b:Int))=a -1:=⟨(pI:Qn [a,b] [] (.c (.L (.k 0) (.a (.n' (.k 1)) (.c A1))) (.S (.a (.n' (.k 1)) (.c A1)) (.c A1))) [.e A1 A0,.t (.k 0) A0]) i k,dN Int.toNat ((pI:Qn [a,b] [] (.E (.a (.n' (.k 1)) (.c A1)) (.c (.s A0 (.k 1)))) [.e A1 A0,.t (.k 0) A0]) i k)⟩
theorem VX(h:a<1000)(k:b<1000):Int.natAbs ((↑b:Int)+(↑a:Int))<2 ^ 40:=(pQ:Pn [a,b] (.t (.a A1 A0) (.pw 2 40)) [.t A0 (.k 1000),.t A1 (.k 1000)]) h k
theorem VY(h1:a=b+1):¬a=b:=(pQ:Pn [a,b] (.n (.e A0 A1)) [.e A0 (.a A1 K1)]) h1
theorem L2:Pn [a,b,c] (.t (.s A0 A2) A1) [.t A0 A1,.l A2 A0]:=pQ
theorem IY(h1:a+1<b+1):a<b:=(pQ:Pn [a,b] (.t A0 A1) [.t (.a A0 K1) (.a A1 K1)]) h1
theorem RA:Pn [a,b,c] (.t (.s A2 (.k 0)) A1) [.t A0 A1,.l A2 A0]:=pQ
theorem RC:Pn [a] (.l (.k 0) A0) []:=pQ
theorem IZ:Pn [a,b] (.t A0 (.a (.ma A0 A1) K1)) []:=pQ
theorem I0:Pn [a,b] (.t A0 (.a (.ma A1 A0) K1)) []:=pQ
theorem EJ:Pn [a,b] (.l A1 A0) [.l A0 A1,.n (.t A0 A1)]:=pQ
theorem L3:Pn [a,b,c] (.t (.s A0 (.a A1 K1)) A2) [.t (.s A0 A1) (.a A2 K1),.t A1 A0]:=pQ
theorem BE(h1:a<b):a+1<=b:=(pQ:Pn [a,b] (.l (.a A0 K1) A1) [.t A0 A1]) h1
theorem VZ(h1:a≠b)(h2:c<d):b≠a:=(pQ:Pn [a,b,c,d] (.n (.e A1 A0)) [.n (.e A0 A1),.t A2 A3]) h1 h2
theorem V0(h1:a+(b -c)<d):a<d:=(pQ:Pn [a,b,c,d] (.t A0 A3) [.t (.a A0 (.s A1 A2)) A3]) h1
theorem RD:Pn [a,b] (.t A1 A0) [.l (.k 500) A0,.t A1 (.k 500)]:=pQ
theorem RE:Pn [a,b,c] (.l (.a A1 (.k 3)) A2) [.l (.a (.a (.ma A0 A1) K1) (.k 3)) (.a A2 K1)]:=pQ
theorem RF:Pn [a,b,c] (.l (.a A0 (.k 3)) A2) [.l (.a (.a (.ma A0 A1) K1) (.k 3)) (.a A2 K1)]:=pQ
theorem RG:Pn [a,b,c] (.l (.k 2) A2) [.l (.a (.a (.ma A0 A1) K1) (.k 3)) (.a A2 K1)]:=pQ
theorem V1(h:a<1000):Int.natAbs (2 *(↑a:Int))<1099511627776:=(pQ:Pn [a] (.t (.l 2 A0) (.k 1099511627776)) [.t A0 (.k 1000)]) h
theorem I1(h1:¬a<b):¬(↑a:Int)<(↑b:Int):=(pQ:Pn [a,b] (.n (.S (.c A0) (.c A1))) [.n (.t A0 A1)]) h1
theorem V2(h:a<1000)(_:a<b):Int.natAbs (↑a:Int)<2 ^ 40:=Nat.lt_trans h (by decide)
theorem yJ(h1:a<b):(↑a:Int)<(↑b:Int):=(pQ:Pn [a,b] (.S (.c A0) (.c A1)) [.t A0 A1]) h1
theorem L4:Pn [a] (.S (.k 0) (.c A0)) [.t (.k 0) A0]:=pQ
theorem V3{a:Int}(h:0<=a):a=(↑(Int.toNat a):Int):=(Int.toNat_of_nonneg h).symm
theorem V4{a:Int}(h:0<=a)(k:a<(↑b:Int)):Int.toNat a<b:=(Int.toNat_lt h).2 k
theorem RH:Pn [a,b] (.l (.a A0 K1) (.a A1 K1)) [.l A0 A1]:=pQ
theorem I2:Pn [a] (.l (.a A0 K1) (.a A0 K1)) []:=pQ
theorem V5:3<=a+3:=(pQ:Pn [a] (.l (.k 3) (.a A0 (.k 3))) [])
theorem RI(h1:a<2):0<=(↑a:Int)/\(↑a:Int)<100:=(pQ:Pn [a] (.c (.L (.k 0) (.c A0)) (.S (.c A0) (.k 100))) [.t A0 (.k 2)]) h1
theorem BF{a:Int}:Qn [b] [a] (.L (.s (.v 0) (.k 1)) (.c A0)) [.L (.v 0) (.c (.a A0 (.k 1)))]:=pI
theorem RJ{a:Int}:Qn [b] [a] (.L (.s (.v 0) (.k 2)) (.c (.s A0 (.k 1)))) [.L (.v 0) (.c (.a A0 (.k 1)))]:=pI
theorem RK:Pn [a,b,c,d] (.l A3 (.a A1 (.a K1 (.l 2 A2)))) [.l A0 (.a (.a A1 K1) A2),.l A3 (.a A0 A2)]:=pQ
theorem RL:Pn [a,b,c] (.l (.a A2 A1) (.k 900)) [.l (.a (.a A0 K1) (.l 2 A1)) (.k 900),.l A2 (.a (.a A0 K1) A1)]:=pQ
theorem RM:Pn [a,b] (.l (.a (.a A0 K1) A1) (.k 900)) [.l (.a (.a A0 K1) (.l 2 A1)) (.k 900)]:=pQ
theorem RN:Pn [a,b] (.t A0 (.k 1000)) [.l (.a (.a A0 K1) (.l 2 A1)) (.k 900)]:=pQ
theorem V6(h1:a<4):0<=(↑a:Int)/\(↑a:Int)<100:=(pQ:Pn [a] (.c (.L (.k 0) (.c A0)) (.S (.c A0) (.k 100))) [.t A0 (.k 4)]) h1
theorem I3:Pn [a] (.l (.a (.a A0 K1) K1) (.a A0 (.k 2))) []:=pQ
theorem V7(h:a<1000):Int.natAbs (↑a:Int)<2 ^ 40:=Nat.lt_trans h (by decide)
theorem BG:Pn [a,b] (.l K1 A1) [.l (.a (.l 2 (.a A0 K1)) (.k 2)) (.a A1 K1)]:=pQ
theorem RO:Pn [a,b] (.l (.a (.a (.a A0 K1) K1) (.l 2 A1)) (.k 900)) [.l (.a A0 (.a (.l 3 A1) (.k 2))) (.k 900),.l (.k 2) A1]:=pQ
theorem RP:Pn [a] (.l (.a K1 (.l 2 A0)) (.a K1 (.l 3 A0))) [.l (.k 2) A0]:=pQ
theorem V8(h1:a<9):(↑a:Int)<2\/a=2\/a=7\/a=8\/a=3\/a=4\/a=5\/a=6:=(pQ:Pn [a] (.o (.S (.c A0) (.k 2)) (.o (.e A0 (.k 2)) (.o (.e A0 (.k 7)) (.o (.e A0 (.k 8)) (.o (.e A0 (.k 3)) (.o (.e A0 (.k 4)) (.o (.e A0 (.k 5)) (.e A0 (.k 6))))))))) [.t A0 (.k 9)]) h1
theorem RQ:Pn [a] (.t A0 (.a A0 K1)) []:=pQ
theorem RS:a % 10<10:=Nat.mod_lt a (by decide)
theorem V9:(↑a:Int) / 10=(↑(a / 10):Int):=rfl
theorem Wa:(↑a:Int) % 10=(↑(a % 10):Int):=rfl
theorem Wb(h1:a<10):a=0\/a=1\/a=2\/a=3\/a=4\/a=5\/a=6\/a=7\/a=8\/a=9:=(pQ:Pn [a] (.o (.e A0 (.k 0)) (.o (.e A0 K1) (.o (.e A0 (.k 2)) (.o (.e A0 (.k 3)) (.o (.e A0 (.k 4)) (.o (.e A0 (.k 5)) (.o (.e A0 (.k 6)) (.o (.e A0 (.k 7)) (.o (.e A0 (.k 8)) (.e A0 (.k 9))))))))))) [.t A0 (.k 10)]) h1
theorem L5:Pn [a,b,c] (.l (.a (.a A0 A1) A2) (.k 3000000)) [.l (.a (.a A0 A1) A2) (.k 1000000)]:=pQ
theorem L6:Pn [a,b,c] (.l (.a A0 A1) (.k 3000000)) [.l (.a (.a A0 A1) A2) (.k 1000000)]:=pQ
theorem I4:Pn [a] (.l (.a A0 (.k 3)) (.a A0 (.k 3))) []:=pQ
theorem RU:Pn [a] (.l (.a A0 (.k 2)) (.a A0 (.k 2))) []:=pQ
theorem RW:Pn [a,b] (.l (.a A0 A1) (.k 3000000)) [.l (.a A0 A1) (.k 1000000)]:=pQ
theorem Wc(h1:a<=2):¬(↑a:Int) -80 > 0:=(pQ:Pn [a] (.n (.S (.k 0) (.s (.c A0) (.k 80)))) [.l A0 (.k 2)]) h1
theorem We(h1:a<=2):a<2 ^ 40:=(pQ:Pn [a] (.t A0 (.pw 2 40)) [.l A0 (.k 2)]) h1
theorem RX:Pn [a,b] (.l (.a A0 (.k 2)) (.a A1 (.k 3))) [.l A0 (.a A1 K1)]:=pQ
theorem RZ:Pn [a,b,c] (.l (.a A0 K1) (.k 1000000)) [.l (.a A0 (.a (.ma A1 A2) K1)) (.k 1000000)]:=pQ
theorem R0:Pn [a,b,c,d] (.l (.a A0 (.a (.a A1 A2) A3)) (.k 1000000)) [.l (.a (.a A0 (.a A1 A2)) A3) (.k 1000000)]:=pQ
theorem R1:Pn [a,b,c,d,e] (.l A4 (.k 1000000)) [.l (.a (.a A0 (.a A1 A2)) A3) (.k 1000000),.l A4 A2]:=pQ
theorem R2:Pn [a,b,c] (.l (.a A2 A1) (.k 3000000)) [.l (.a A0 A1) (.k 1000000),.l A2 (.a A0 (.k 2))]:=pQ
theorem L7:Pn [a,b] (.l A1 (.k 1000000)) [.l (.a A0 A1) (.k 1000000)]:=pQ
theorem L8:Pn [a,b] (.l A1 (.k 1000000)) [.l (.a A0 K1) (.k 500),.t A1 (.a A0 K1)]:=pQ
theorem L9:Pn [a,b,c] (.t A2 A0) [.l (.k 1000) A0,.l (.a A1 K1) (.k 500),.t A2 (.a A1 K1)]:=pQ
theorem EK:Pn [a,b,c] (.l (.k 5) A1) [.l (.a (.l 3 (.a A0 K1)) (.k 5)) A1,.t A2 (.a A0 K1)]:=pQ
theorem R3:Pn [a,b,c] (.l A2 (.k 1000000)) [.l A0 (.k 1000000),.c (.l A1 A0) (.l A2 A0)]:=pQ
theorem R4:Pn [a,b,c] (.l A1 (.k 1000000)) [.l A0 (.k 1000000),.c (.l A1 A0) (.l A2 A0)]:=pQ
theorem Ma:Pn [a,b,c] (.l (.k 4) A1) [.l (.a (.l 3 (.a A0 K1)) (.k 5)) A1,.t A2 (.a A0 K1)]:=pQ
theorem R5:Pn [a,b,c,d,e,f,g] (.l A6 (.k 1000000)) [.l (.a (.a A0 (.a (.a (.a A1 A2) A1) A3)) A4) (.k 1000000),.l A5 A0,.l A6 A3]:=pQ
theorem R6:Pn [a,b] (.n (.t A1 A0)) [.e (.s A0 A1) (.k 0)]:=pQ
theorem Wf(h1:a<100000):a<2 ^ 40:=(pQ:Pn [a] (.t A0 (.pw 2 40)) [.t A0 (.k 100000)]) h1
theorem Wg(h1:¬a+b<=c):c<=a+b:=(pQ:Pn [a,b,c] (.l A2 (.a A0 A1)) [.n (.l (.a A0 A1) A2)]) h1
theorem Wh(h:a<100000)(k:b<a):Int.natAbs (↑b:Int)<2 ^ 40:=Nat.lt_trans k (Nat.lt_trans h (by decide))
theorem Mb:Pn [a,b] (.e (.a (.a A0 K1) A1) (.a A0 (.a A1 K1))) []:=pQ
theorem Mc:Pn [a,b] (.e A1 (.a (.s A1 K1) K1)) [.t (.a A0 K1) A1]:=pQ
theorem Wi(h:a<100000):Int.natAbs (↑a:Int)<2 ^ 40:=Nat.lt_trans h (by decide)
theorem Wj(h1:a=b -48)(h2:a<10):¬10<=(↑a:Int):=(pQ:Pn [a,b] (.n (.L (.k 10) (.c A0))) [.e A0 (.s A1 (.k 48)),.t A0 (.k 10)]) h1 h2
theorem Wk(h1:a=b -48)(h2:a<10):¬(↑a:Int)<0:=(pQ:Pn [a,b] (.n (.S (.c A0) (.k 0))) [.e A0 (.s A1 (.k 48)),.t A0 (.k 10)]) h1 h2
theorem Wl(h:a<100)(_:b=a):Int.natAbs (↑a:Int)<2 ^ 40:=Nat.lt_trans h (by decide)
theorem Wm:48+a % 10<=57:=Nat.add_le_add_left (Nat.le_of_lt_succ RS) 48
theorem Wn:48<=48+a % 10:=Nat.le_add_right ..
theorem Wo:(0 * 10+a / 10) * 10+a % 10=a:=by rw[Nat.zero_mul,Nat.zero_add];exact Nat.div_add_mod' a 10
theorem Wp(h1:48<=a/\a<=57):¬97<=a:=(pQ:Pn [a] (.n (.l (.k 97) A0)) [.c (.l (.k 48) A0) (.l A0 (.k 57))]) h1
theorem R7:Pn [a] (.l K1 (.s A0 K1)) [.l (.k 6) A0]:=pQ
theorem Wq(h1:a+b<100000):a<100000:=(pQ:Pn [a,b] (.t A0 (.k 100000)) [.t (.a A0 A1) (.k 100000)]) h1
theorem Wr:¬a<a:=(pQ:Pn [a] (.n (.t A0 A0)) [])
theorem Me:Pn [a,b] (.l A1 (.k 64)) [.l A0 (.k 60),.l A1 (.a A0 (.k 2))]:=pQ
theorem Wt(h:a<500)(k:b<a):Int.natAbs (↑b:Int)<2 ^ 40:=Nat.lt_trans k (Nat.lt_trans h (by decide))
theorem Mf(h1:a<=56)(h2:a=b)(h3:c<=a):c<=60:=(pQ:Pn [a,b,c] (.l A2 (.k 60)) [.l A0 (.k 56),.e A0 A1,.l A2 A0]) h1 h2 h3
theorem Wu(h1:a<=56)(h2:a=b)(h3:c+d<=b):c<=60:=(pQ:Pn [a,b,c,d] (.l A2 (.k 60)) [.l A0 (.k 56),.e A0 A1,.l (.a A2 A3) A1]) h1 h2 h3
theorem R8:Pn [a,b,c] (.t A1 (.k 1000)) [.t A0 (.k 500),.l A1 A2,.t A2 A0]:=pQ
theorem R9:Pn [a,b] (.t A0 (.k 1000)) [.e A0 A1,.l A0 (.k 441)]:=pQ
theorem Sa(h1:a=3):2<a:=(pQ:Pn [a] (.t (.k 2) A0) [.e A0 (.k 3)]) h1
theorem Sb:Pn [a] (.l (.k 340) A0) [.e A0 (.k 400)]:=pQ
theorem Sd:Pn [a] (.l (.k 500) A0) [.e A0 (.k 200000)]:=pQ
theorem Se(h1:a=200000)(h2:b<=441):b<a:=(pQ:Pn [a,b] (.t A1 A0) [.e A0 (.k 200000),.l A1 (.k 441)]) h1 h2
theorem Sf(h1:a<=38)(h2:b<=a):b<=60:=(pQ:Pn [a,b] (.l A1 (.k 60)) [.l A0 (.k 38),.l A1 A0]) h1 h2
theorem Sg(h1:¬40<=a):a<=40:=(pQ:Pn [a] (.l A0 (.k 40)) [.n (.l (.k 40) A0)]) h1
theorem Si:Pn [a,b,c,d,e,f] (.t (.s A0 A3) A2) [.t (.s A0 A1) (.a A2 K1),.l (.a A1 K1) A0,.l A3 A0,.l A4 A5,.e A4 (.s A0 A3),.e A5 (.s A0 (.a A1 K1))]:=pQ
end
section
open PySem.Calls PySem.Spec PyProof.Rows
inductive D where
 |none
 |bool (b:Bool)
 |int (i:Int)
 |str (s:List Nat)
 |tup (xs:List D)
 deriving Inhabited
theorem D.str.inj{a b:List Nat}(h:D.str a=D.str b):a=b:=by cases h;rfl
theorem D.int.inj{a b:Int}(h:D.int a=D.int b):a=b:=by cases h;rfl
@[simp] theorem D.int.injEq{a b:Int}:(D.int a=D.int b)=(a=b):=propext ⟨D.int.inj,dN _⟩
theorem D.tup.inj{a b:List D}(h:D.tup a=D.tup b):a=b:=by cases h;rfl
mutual
noncomputable def D.py:D->PyData
 | .none=> .none
 | .bool b=> .bool b
 | .int i=> .int i
 | .str s=> .str ⟨s.toArray⟩
 | .tup xs=> .tuple (D.pys xs)
noncomputable def D.pys:List D->List PyData
 |[]=>[]
 |x::xs=>D.py x::D.pys xs
end
mutual
noncomputable def D.ok:D->Bool
 | .none=>true
 | .bool _=>true
 | .int _=>true
 | .str s=>s.all (· <0x110000)
 | .tup xs=>D.oks xs
noncomputable def D.oks:List D->Bool
 |[]=>true
 |x::xs=>D.ok x && D.oks xs
end
mutual
noncomputable def D.dep:D->Nat
 | .none=>0
 | .bool _=>0
 | .int _=>0
 | .str _=>0
 | .tup xs=>D.deps xs+1
noncomputable def D.deps:List D->Nat
 |[]=>0
 |x::xs=>max (D.dep x) (D.deps xs)
end
mutual
inductive Rd (h:Heap):Value->D->Prop
 |none:Rd h .none .none
 |bool (b0):Rd h (.bool b0) (.bool b0)
 |int (i0 t0):Rd h (.int i0 t0) (.int i0)
 |str (x:Str) (t):Rd h (.str x t) (.str x.cps.toList)
 |tup {a:Addr} {o:Obj} {vs:Array Value} {n:Nat} {xs:List D}:h.get? a=some o->o.cls= .type "tuple"->o.data= .seq vs n->dD h vs.toList xs->Rd h (.ref a) (.tup xs)
inductive dD (h:Heap):List Value->List D->Prop
 |nil:dD h [] []
 |cons {v0 vs0 d0 ds0}:Rd h v0 d0->dD h vs0 ds0->dD h (v0::vs0) (d0::ds0)
end
theorem Rd.both{h:Heap}{P:Value->D->Prop}{R:List Value->List D->Prop}(a:P .none .none)(b:∀b,P (.bool b) (.bool b))(c:∀i t,P (.int i t) (.int i))(d:∀(x:Str) t,P (.str x t) (.str x.cps.toList))
  (e:∀{a:Addr} {o:Obj} {vs:Array Value} {n:Nat} {xs:List D},h.get? a=some o->o.cls= .type "tuple"->o.data= .seq vs n->R vs.toList xs->P (.ref a) (.tup xs))
  (m:R [] [])(k:∀{v d vs ds},Rd h v d->P v d->dD h vs ds->R vs ds->R (v::vs) (d::ds)):(∀{v d},Rd h v d->P v d)/\∀{v d},dD h v d->R v d:=
 ⟨λx=>Rd.rec (motive_1:=λv d _=>P v d) (motive_2:=λv d _=>R v d) a b c d (λh1 h2 h3 _=>e h1 h2 h3) m (λh1 h2 i1 i2=>k h1 i1 h2 i2) x,λx=>dD.rec (motive_1:=λv d _=>P v d) (motive_2:=λv d _=>R v d) a b c d (λh1 h2 h3 _=>e h1 h2 h3) m (λh1 h2 i1 i2=>k h1 i1 h2 i2) x⟩
theorem dD.ind{h:Heap}{R:List Value->List D->Prop}(m:R [] [])(k:∀{v d vs ds},Rd h v d->dD h vs ds->R vs ds->R (v::vs) (d::ds)){v:List Value}{d:List D}(x:dD h v d):R v d:=
 (Rd.both (P:=λ_ _=>True) trivial (λ_=>trivial) (λ_ _=>trivial) (λ_ _=>trivial) (λ_ _ _ _=>trivial) m λa _ b c=>k a b c).2 x
theorem Rd.reads2{h:Heap}:(∀{v d},Rd h v d->Reads h v d.py [])/\∀{v d},dD h v d->ReadsAll h v (D.pys d) []:=
 Rd.both .none .bool .int .str (λh1 h2 h3 h4=> .tuple h1 h2 h3 h4) .nil λ_ h1 _ h2=>ReadsAll.cons (as:=[]) h1 h2
theorem Rd.reads{h:Heap}{v:Value}{d:D}(x:Rd h v d):Reads h v d.py []:=Rd.reads2.1 x
theorem dD.reads{h:Heap}{v:List Value}{d:List D}(x:dD h v d):ReadsAll h v (D.pys d) []:=Rd.reads2.2 x
theorem dD.length{h:Heap}{v:List Value}{d:List D}(x:dD h v d):v.length=d.length:=dD.ind (R:=λv d=>v.length=d.length) rfl (λ_ _ h=>dN (· +1) h) x
theorem dD.get{h:Heap}{v:List Value}{d:List D}{i:Nat}{x:D}(r:dD h v d):d[i]? =some x->∃y,v[i]? =some y/\Rd h y x:=
 dD.ind (R:=λv d=>∀i,d[i]? =some x->∃y,v[i]? =some y/\Rd h y x) (λ_ e=>eC e) (λ{v d vs ds} h1 _ h i=>match i with
  | 0=>λe=>⟨v,rfl,si e▸h1⟩
  |i+1=>λe=>h i e) r i
theorem dD.append{h:Heap}{d':List D}{v':List Value}(k:dD h v' d'){v:List Value}{d:List D}(x:dD h v d):dD h (v++v') (d++d'):=dD.ind (R:=λv d=>dD h (v++v') (d++d')) k (λh1 _ h2=> .cons h1 h2) x
theorem dD.drop{h:Heap}{v:List Value}{d:List D}(i:Nat)(x:dD h v d):dD h (v.drop i) (d.drop i):=
 dD.ind (R:=λv d=>∀i,dD h (v.drop i) (d.drop i)) (λi=>by rw[List.drop_nil,List.drop_nil];exact .nil) (λh1 h2 h i=>match i with
  | 0=> .cons h1 h2
  |i+1=>h i) x i
theorem dD.take{h:Heap}{v:List Value}{d:List D}(i:Nat)(x:dD h v d):dD h (v.take i) (d.take i):=
 dD.ind (R:=λv d=>∀i,dD h (v.take i) (d.take i)) (λi=>by rw[List.take_nil,List.take_nil];exact .nil) (λh1 h2 h i=>match i with
  | 0=> .nil
  |i+1=> .cons h1 (h i)) x i
theorem dD.snoc{h:Heap}{x:D}{y:Value}(k:Rd h y x){v:List Value}{d:List D}(r:dD h v d):dD h (v++[y]) (d++[x]):=dD.append (.cons k .nil) r
theorem dD.reverse{h:Heap}{v:List Value}{d:List D}(x:dD h v d):dD h v.reverse d.reverse:=dD.ind (R:=λv d=>dD h v.reverse d.reverse) .nil (λh1 _ h2=>by rw[List.reverse_cons,List.reverse_cons];exact .snoc h1 h2) x
theorem Rd.str_inv{h:Heap}{v:Value}{s:List Nat}(r:Rd h v (.str s)):∃t,v= .str ⟨s.toArray⟩ t:=by
 cases r with
 |str x t=>exact⟨t,rfl⟩
theorem Rd.int_inv{h:Heap}{v:Value}{i:Int}(r:Rd h v (.int i)):∃t,v= .int i t:=by
 cases r with
 |int _ t=>exact⟨t,rfl⟩
theorem Rd.bool_inv{h:Heap}{v:Value}{b:Bool}(r:Rd h v (.bool b)):v= .bool b:=by cases r;rfl
theorem Rd.none_inv{h:Heap}{v:Value}(r:Rd h v .none):v= .none:=by cases r;rfl
theorem Rd.tup_inv{h:Heap}{v:Value}{xs:List D}(r:Rd h v (.tup xs)):∃a items,v= .ref a/\IsTup h a items/\dD h items.toList xs:=by
 cases r with
 |tup h1 h2 h3 h4=>exact⟨_,_,rfl,⟨_,h1,h2,_,h3⟩,h4⟩
@[elab_as_elim] theorem Rd.int_on{h:Heap}{v:Value}{i:Int}(r:Rd h v (.int i)){P:Value->Prop}(k:∀t,P (.int i t)):P v:=by obtain⟨t,rfl⟩:=r.int_inv;exact k t
@[elab_as_elim] theorem Rd.str_on{h:Heap}{v:Value}{s:List Nat}(r:Rd h v (.str s)){P:Value->Prop}(k:∀t,P (.str ⟨s.toArray⟩ t)):P v:=by obtain⟨t,rfl⟩:=r.str_inv;exact k t
@[elab_as_elim] theorem Rd.bool_on{h:Heap}{v:Value}{b:Bool}(r:Rd h v (.bool b)){P:Value->Prop}(k:P (.bool b)):P v:=by rw[r.bool_inv];exact k
@[elab_as_elim] theorem Rd.tup_on{h:Heap}{v:Value}{xs:List D}(r:Rd h v (.tup xs)){P:Value->Prop}(k:∀a items,IsTup h a items->dD h items.toList xs->P (.ref a)):P v:=by obtain⟨a,items,rfl,h1,h2⟩:=r.tup_inv;exact k a items h1 h2
theorem Rd.mkStr{h:Heap}(s:List Nat)(t:Tok):Rd h (.str ⟨s.toArray⟩ t) (.str s):= .str ⟨s.toArray⟩ t
theorem Rd.mkTup{h:Heap}{a:Addr}{items:Array Value}{xs:List D}(t:IsTup h a items)(r:dD h items.toList xs):Rd h (.ref a) (.tup xs):=by obtain⟨o,h1,h2,n,h3⟩:=t;exact .tup h1 h2 h3 r
def lV(h h':Heap):Prop:=∀a o vs n,h.get? a=some o->o.cls= .type "tuple"->o.data= .seq vs n->∃o',h'.get? a=some o'/\o'.cls= .type "tuple"/\o'.data=o.data
theorem Rd.keep2{h h':Heap}(k:lV h h'):(∀{v d},Rd h v d->Rd h' v d)/\∀{v d},dD h v d->dD h' v d:=
 Rd.both .none .bool .int .str (λh1 h2 h3 h4=>ou (k _ _ _ _ h1 h2 h3) λo e1 e2 e3=> .tup e1 e2 (e3.trans h3) h4) .nil λ_ h1 _ h2=> .cons h1 h2
theorem Rd.keep{h h':Heap}(k:lV h h'){v:Value}{d:D}(x:Rd h v d):Rd h' v d:=(Rd.keep2 k).1 x
theorem dD.keep{h h':Heap}(k:lV h h'){v:List Value}{d:List D}(x:dD h v d):dD h' v d:=(Rd.keep2 k).2 x
structure oP(X F:List Addr)(h h':Heap):Prop where
 keep:∀b o,h.get? b=some o->b ∉ X->b ∉ F->h'.get? b=some o
 slots:∀b o,h.get? b=some o->b ∈ F->b ∉ X->∃sl,h'.get? b=some { o with slots:=sl }
theorem oP.refl(X F:List Addr)(h:Heap):oP X F h h:=⟨λ_ _ e _ _=>e,λ_ o e _ _=>⟨o.slots,e⟩⟩
theorem oP.of_keep{X F:List Addr}{h h':Heap}(k:∀b o,h.get? b=some o->h'.get? b=some o):oP X F h h':=⟨λ_ _ e _ _=>k _ _ e,λ_ o e _ _=>⟨o.slots,k _ _ e⟩⟩
theorem oP.there{X F:List Addr}{h h':Heap}(p:oP X F h h'){b:Addr}{o:Obj}(e:h.get? b=some o)(hx:b ∉ X):∃sl,h'.get? b=some { o with slots:=sl }:=by
 by_cases hf:b ∈ F
 ·exact p.slots b o e hf hx
 ·exact⟨o.slots,p.keep b o e hx hf⟩
theorem oP.trans{X X' F:List Addr}{h h₁ ar:Heap}(p:oP X F h h₁)(q:oP X' F h₁ ar)(hx:∀b ∈ X',b ∈ X\/h.get? b=none):oP X F h ar:=by
 refine⟨λb o e h1 h2=>q.keep b o (p.keep b o e h1 h2) (λm=> ?_) h2,λb o e h1 h2=> ?_⟩
 ·rcases hx b m with z|z
  ·exact h1 z
  ·rw[z]at e;cases e
 ·obtain⟨sl,e1⟩:=p.slots b o e h1 h2
  have h3:b ∉ X':=λm=>by
   rcases hx b m with z|z
   ·exact h2 z
   ·rw[z]at e;cases e
  obtain⟨sl',e2⟩:=q.slots b _ e1 h1 h3;exact⟨sl',e2⟩
theorem oP.ns{X F:List Addr}{h h':Heap}{a:Addr}{m:Str->Option Value}(p:oP X F h h')(hn:h.Ns a m)(hx:a ∉ X):h'.Ns a m:=by obtain⟨o,es,ep,ho,hd,r⟩:=hn;obtain⟨sl,e⟩:=p.there ho hx;exact⟨_,es,ep,e,hd,r⟩
theorem oP.fresh{X F:List Addr}{h h':Heap}{b:Addr}(p:oP X F h h')(e:h'.get? b=none)(hx:b ∉ X):h.get? b=none:=by
 cases q:h.get? b with
 |none=>rfl
 |some o=>obtain⟨sl,e'⟩:=p.there q hx;rw[e]at e';cases e'
variable{α:Type}{a:Addr}{b:Bool}{β:Type}{c:Nat}{p:Nat}{s:Shared}{X:List Addr}{e:cP}{h:Heap}{i:Nat}{x:List Nat}{xs:List D}{h':Heap}{F:List Addr}{h₁:Heap}{ad:List Addr}{ad':List Addr}{L:Addr}{Ls:List Addr}{Q:Value->Shared->Prop}{E:Value->Shared->Prop}{n:Nat}{A:Around}{ag:List Env}{pos:Pos}{Vs:List Value}{w:List Nat}{es:List cP}{np:Pos}{ps:List Str}{sc:Scope}{cd:Value}{body:List Stmt}{more:List Str}{ds:List D}{T:List Nat}
section
inductive PV where
 |d (x:D)
 |ref (k:Nat)
 |inst (k:Nat)
 |cl (xs:List D)
 |cd (kvs:List (List Nat×D))
inductive MO where
 |list (xs:List D)
 |dict (kvs:List (List Nat×PV))
 |obj (kvs:List (List Nat×PV))
structure Gl where
 prog:Program
 w:World
 h₀:Heap
 K:Frag
 mg:Str->Option Value
 mb:Str->Option Value
 KX:K.In h₀
 hg:h₀.Ns mainGlobals mg
 hb:h₀.Ns builtinsNs mb
 hbo:∀x:Str,x≠"__name__"->mb x=bootBuiltins x
 lim:h₀.NoLimit
 rC:Addr
 fC:Addr
 fa:Nat->Addr
variable{G:Gl}
noncomputable def Ki(h:Heap):List (Str×Value)->List (List Nat×D)->Prop
 |[],[]=>True
 |p::ps,kv::kvs=>p.1=⟨kv.1.toArray⟩/\Rd h p.2 kv.2/\Ki h ps kvs
 |_,_=>False
def eW(G:Gl)(h:Heap)(ad:List Addr):PV->Value->Prop
 | .d x,V=>Rd h V x
 | .ref k,V=>∃a,ad[k]? =some a/\V= .ref a
 | .inst k,V=>∃a x,ad[k]? =some a/\V= .ref x/\h.get? x=some (instObj G.rC a)
 | .cl xs,V=>∃a items,V= .ref a/\G.h₀.IsList a items/\dD G.h₀ items.toList xs
 | .cd kvs,V=>∃a ps,V= .ref a/\(a == sysModules)=false/\G.h₀.DictOf (strKind G.prog G.w) a ps/\Ki G.h₀ ps kvs
noncomputable def ow(G:Gl)(h:Heap)(ad:List Addr):List (Str×Value)->List (List Nat×PV)->Prop
 |[],[]=>True
 |p::ps,kv::kvs=>p.1=⟨kv.1.toArray⟩/\eW G h ad kv.2 p.2/\ow G h ad ps kvs
 |_,_=>False
noncomputable def mw(G:Gl)(h:Heap)(ad:List Addr):List DictEntry->List (List Nat×PV)->Prop
 |[],[]=>True
 |e::es,kv::kvs=>(∃t,e.key= .str ⟨kv.1.toArray⟩ t)/\e.hash=PyData.keyHash G.w.params ⟨kv.1.toArray⟩/\eW G h ad kv.2 e.val/\mw G h ad es kvs
 |_,_=>False
def CC(G:Gl)(h:Heap)(ad:List Addr)(a:Addr):MO->Prop
 | .list xs=>∃items n,h.get? a=some { cls:= .type "list",data:= .seq items n }/\dD h items.toList xs
 | .dict kvs=>∃ps,h.DictOf (strKind G.prog G.w) a ps/\ow G h ad ps kvs
 | .obj kvs=>∃es n,h.get? a=some (dictOf es n)/\mw G h ad es kvs
structure St(G:Gl)(F ad:List Addr)(σ:List MO)(h:Heap):Prop where
 base:G.h₀.StaysIn h
 len:ad.length=σ.length
 nd:ad.Nodup
 ads:∀(k:Nat)(a:Addr)(o:MO),ad[k]? =some a->σ[k]? =some o->CC G h ad a o
 newA:∀a ∈ ad,G.h₀.objs.size<=a
 frs:∀b ∈ F,G.h₀.objs.size<=b/\∃o,h.get? b=some o/\∃es n,o.data= .dict es n
 fnd:F.Nodup
 apart:∀b ∈ F,b ∉ ad
theorem rt(l:h.objs.size<=a):h.get? a=none:=by
 cases q:h.get? a with
 |none=>rfl
 |some x=>exact absurd (kH q) (Nat.not_lt.mpr l)
structure kK(X F ad ad':List Addr)(h h':Heap):Prop where
 pre:ad<+:ad'
 pres:oP X F h h'
 new:∀a ∈ ad',a ∈ ad\/h.get? a=none
 ex:∀b,h'.get? b=none->h.get? b=none
theorem St.adObj{σ:List MO}(S:St G F ad σ h)(m:a ∈ ad):∃o,h.get? a=some o/\(o.cls= .type "list"\/o.cls= .type "dict"):=by
 refine oE (List.getElem?_of_mem m) λk hk=> ?_
 have hl:k<σ.length:=by rw[<-S.len];exact(ek.mp hk).1
 have hr:=S.ads k a _ hk (nQ hl);cases q:σ[k]with
 |list xs=>
  rw[q]at hr;refine mZ hr λitems _ h1 _=> ?_;clear hr;exact⟨_,h1,.inl rfl⟩
 |dict kvs=>
  rw[q]at hr;refine eN hr λps oz1 _=> ?_;clear hr;obtain⟨o,_,_,h1,⟨h2,_⟩,_⟩:=oz1;exact⟨_,h1,.inr h2⟩
 |obj kvs=>
  rw[q]at hr;refine mZ hr λes n h1 _=> ?_;clear hr;exact⟨_,h1,.inr rfl⟩
theorem St.ad_not_F{σ:List MO}(S:St G F ad σ h)(m:a ∈ ad):a ∉ F:=λf=>S.apart a f m
def Yw(X F ad:List Addr):Prop:=∀a ∈ X,a ∈ ad\/a ∈ F
theorem St.tupKeep{F':List Addr}{σ:List MO}(S:St G F' ad σ h)(hX:Yw X F' ad)(P:kK X F ad ad' h h'):lV h h':=λa o vs n e hc hsq=>by
 have hx:a ∉ X:=λm=>by
  rcases hX a m with m|m
  ·refine eN (S.adObj m) λo' h1 h2=> ?_;rw[e]at h1;replace h1:=si h1;subst h1;rw[hc]at h2;rcases h2 with h2|h2<;>exact absurd h2 (by decide)
  ·refine o8 (S.frs a m) λ_ o' h3 es n' h4=> ?_;rw[e]at h3;replace h3:=si h3;subst h3;rw[hsq]at h4;cases h4
 refine oE (P.pres.there e hx) λsl e'=> ?_;exact⟨_,e',hc,rfl⟩
theorem pd{l l':List α}(p:l<+:l'){k:Nat}{a:α}(e:l[k]? =some a):l'[k]? =some a:=by refine oE p λt ez1=> ?_;clear p;subst ez1;have:=(ek.mp e).1;rw[fH this];exact e
theorem eW.step{F':List Addr}{σ:List MO}{v:PV}{V:Value}(S:St G F' ad σ h)(hX:Yw X F' ad)(hF:∀b ∈ F,b ∈ F')(P:kK X F ad ad' h h')(r:eW G h ad v V):eW G h' ad' v V:=by
 cases v with
 |d x=>exact Rd.keep (S.tupKeep hX P) r
 |ref k=>(refine eN r λa h1 h2=> ?_;clear r);exact⟨a,pd P.pre h1,h2⟩
 |inst k=>
  refine iJ r λa x h1 h2 h3=> ?_;clear r;refine⟨a,x,pd P.pre h1,h2,P.pres.keep x _ h3 (λm=> ?_) λm=> ?_⟩
  ·rcases hX x m with m|m
   ·refine eN (S.adObj m) λo' h1 h2=> ?_;rw[h3]at h1;replace h1:=si h1;subst h1;rcases h2 with h2|h2<;>exact absurd h2 (by simp)
   ·refine o8 (S.frs x m) λ_ o' h4 es n' h5=> ?_;rw[h3]at h4;replace h4:=si h4;subst h4;cases h5
  ·refine o8 (S.frs x (hF x m)) λ_ o' h4 es n' h5=> ?_;rw[h3]at h4;replace h4:=si h4;subst h4;cases h5
 |cl xs=>exact r
 |cd kvs=>exact r
theorem ow.mono{h h':Heap}{ad ad':List Addr}(k:∀v V,eW G h ad v V->eW G h' ad' v V):∀{es:List (Str×Value)}{kvs:List (List Nat×PV)},ow G h ad es kvs->ow G h' ad' es kvs
 |[],[],_=>trivial
 |_::_,_::_,⟨h1,h3,h4⟩=>⟨h1,k _ _ h3,ow.mono k h4⟩
 |[],_::_,x=>x.elim
 |_::_,[],x=>x.elim
theorem mw.mono{h h':Heap}{ad ad':List Addr}(k:∀v V,eW G h ad v V->eW G h' ad' v V):∀{es:List DictEntry}{kvs:List (List Nat×PV)},mw G h ad es kvs->mw G h' ad' es kvs
 |[],[],_=>trivial
 |_::_,_::_,⟨h1,h2,h3,h4⟩=>⟨h1,h2,k _ _ h3,mw.mono k h4⟩
 |[],_::_,x=>x.elim
 |_::_,[],x=>x.elim
theorem kK.refl(X F ad:List Addr)(h:Heap):kK X F ad ad h h:=⟨hO _,.refl ..,λ_ m=> .inl m,λ_ e=>e⟩
abbrev dE(F ad ad':List Addr)(h h':Heap):Prop:=kK ad F ad ad' h h'
abbrev iG(L:Addr)(F ad ad':List Addr)(h h':Heap):Prop:=kK (L::ad) F ad ad' h h'
theorem kK.trans{F ad ak aD:List Addr}{h h₁ ar:Heap}{Y:List Addr}(p:kK (Y++ad) F ad ak h h₁)(q:kK (Y++ak) F ak aD h₁ ar):kK (Y++ad) F ad aD h ar:=by
 refine⟨p.pre.trans q.pre,p.pres.trans q.pres λb m=> ?_,λa m=> ?_,λb e=>p.ex b (q.ex b e)⟩
 ·rcases eF.mp m with m|m
  ·exact .inl (eF.mpr (.inl m))
  ·rcases p.new b m with z|z
   ·exact .inl (eF.mpr (.inr z))
   ·exact .inr z
 ·rcases q.new a m with m|z
  ·exact p.new a m
  ·exact .inr (p.ex a z)
theorem dE.trans{F ad ak aD:List Addr}{h h₁ ar:Heap}(p:dE F ad ak h h₁)(q:dE F ak aD h₁ ar):dE F ad aD h ar:=kK.trans (Y:=[]) p q
theorem iG.trans{L:Addr}{F ad ak aD:List Addr}{h h₁ ar:Heap}(p:iG L F ad ak h h₁)(q:iG L F ak aD h₁ ar):iG L F ad aD h ar:=kK.trans (Y:=[L]) p q
theorem dE.toS(p:dE (L::F) ad ad' h h')(hL:L ∉ F):iG L F ad ad' h h':=by
 refine⟨p.pre,⟨λb o e h1 h2=>p.pres.keep b o e (λm=>h1 (.tail _ m)) λm=> ?_,λb o e h1 h2=>p.pres.slots b o e (.tail _ h1) λm=>h2 (.tail _ m)⟩,p.new,p.ex⟩;rcases dj.mp m with rfl|m
 ·exact h1 (.head _)
 ·exact h2 m
theorem dE.of_keep{F ad:List Addr}{h h':Heap}(k:∀b o,h.get? b=some o->h'.get? b=some o):dE F ad ad h h':=
 ⟨hO _,.of_keep k,λ_ m=> .inl m,λb e=>by
  cases q:h.get? b with
  |none=>rfl
  |some o=>rw[k b o q]at e;exact yt e⟩
theorem St.of_keep{F ad:List Addr}{σ:List MO}{h h':Heap}(S:St G F ad σ h)(k:∀b o,h.get? b=some o->h'.get? b=some o):St G F ad σ h':=by
 have P:dE F ad ad h h':=dE.of_keep k;have V:∀v V,eW G h ad v V->eW G h' ad v V:=λv V r=>eW.step S (λa m=> .inl m) (λ_ m=>m) P r;refine⟨λb o e=>k b o (S.base b o e),S.len,S.nd,λj a o h1 h2=> ?_,S.newA,λb m=> ?_,S.fnd,S.apart⟩
 ·have r:=S.ads j a o h1 h2;cases o with
  |list xs=>
   refine mZ r λitems n e1 r2=> ?_;clear r;exact⟨items,n,k _ _ e1,dD.keep (S.tupKeep (λa m=> .inl m) P) r2⟩
  |dict kvs=>
   refine eN r λps e1 r2=> ?_;clear r;exact⟨ps,e1.keep k,ow.mono V r2⟩
  |obj kvs=>
   refine mZ r λes n e1 r2=> ?_;clear r;exact⟨es,n,k _ _ e1,mw.mono V r2⟩
 ·refine vw (S.frs b m) λh1 o h2 h3=> ?_;exact⟨h1,o,k _ _ h2,h3⟩
end
variable{σ:List MO}{σ':List MO}{vs:List PV}{G:Gl}{nx:Nat->List MO->Option (Option PV)}{x4:Option PV}
section
inductive R (α:Type) where
 |ok (a:α)
 |exc
theorem R.ok.inj{a b:α}(h:R.ok a=R.ok b):a=b:=by cases h;rfl
@[simp] theorem R.ok.injEq{a b:α}:(R.ok a=R.ok b)=(a=b):=propext ⟨R.ok.inj,dN _⟩
abbrev M(α:Type):=List MO->Option (R α×List MO)
noncomputable def ret(a:α):M α:=λσ=>some (.ok a,σ)
noncomputable def cU:M α:=λ_=>none
noncomputable def bnd(m:M α)(f:α->M β):M β:=λσ=>match m σ with
 |some (.ok a,σ')=>f a σ'
 |some (.exc,σ')=>some (.exc,σ')
 |none=>none
noncomputable def lift(o:Option α):M α:=λσ=>o.map λa=>(.ok a,σ)
noncomputable abbrev nrR(f:α->M β):R α->M β
 | .ok a=>f a
 | .exc=>λσ=>some (.exc,σ)
theorem sn{m:M α}{f:α->M β}{ra:R α}{r:Option (R β×List MO)}(h:m σ=some (ra,σ'))(h2:nrR f ra σ'=r):bnd m f σ=r:=by unfold bnd;rw[h];cases ra<;>exact h2
theorem nG{m:M α}{f:α->M β}{r:R β}(e:bnd m f σ=some (r,σ')):
  (∃a σ₁,m σ=some (.ok a,σ₁)/\f a σ₁=some (r,σ'))\/(m σ=some (.exc,σ')/\r= .exc):=by
 unfold bnd at e
 symm at e
 ·rename_i a σ₁ h;exact .inl ⟨a,σ₁,h,e⟩
 ·rename_i σ₁ h;refine Ph e ?_;clear e;intro ey ez;subst ey;subst ez;exact .inr ⟨h,rfl⟩
 ·exact eC e
theorem sU{o:Option α}{r:R α}(e:lift o σ=some (r,σ')):∃a,o=some a/\r= .ok a/\σ'=σ:=by
 unfold lift at e;cases o with
 |none=>exact eC e
 |some a=>(refine Pg e ?_;clear e;intro ey ez;subst ey;subst ez);exact⟨a,rfl,rfl,rfl⟩
theorem ky{a:α}{r:R α}(e:ret a σ=some (r,σ')):r= .ok a/\σ'=σ:=by refine Pg e ?_;clear e;intro ey ez;subst ey;subst ez;exact⟨rfl,rfl⟩
structure Fm where
 cn:Str
 cs:Scope
 L:Addr
 a:Addr
 cd:Value
 names:List Str
noncomputable def Fm.env(f:Fm):Env:=envOf f.cn f.cs f.L f.a f.cd
structure wK(G:Gl)(A:Around)(n:Nat)(f:Fm)(ag:List Env)(Ls:List Addr):Prop where
 hA:A.frames=some (f.env::ag)
 out:ag.map (·.frame)=Ls.map some
 kinds:∀e ∈ ag,e.scope.kind≠.module
 hk:f.cs.kind= .function
 hh:A.handled=none
 hd:A.depth+n<1000
 hu:A.units+16 * n+200<9900
 nd:f.names.Nodup
 aa:∀x ∈ f.names,f.cs.names.lookup x=some .local
def uq(G:Gl)(h:Heap)(ad:List Addr)(f:Fm)(aa:List (Option PV)):Prop:=
 ∃m,h.Ns f.L m/\∀(i:Nat)(x:Str)(v:PV),f.names[i]? =some x->aa[i]? =some (some v)->∃V,m x=some V/\eW G h ad v V
theorem uq.step{h h':Heap}{ad ad' Ls:List Addr}{σ:List MO}{f:Fm}{aa:List (Option PV)}(l:uq G h ad f aa)(S:St G (f.L::Ls) ad σ h)(P:dE (f.L::Ls) ad ad' h h'):uq G h' ad' f aa:=by refine eN l λm hn hv=> ?_;clear l;refine⟨m,P.pres.ns hn λk=>S.ad_not_F k (.head _),λi x v h1 h2=> ?_⟩;refine eN (hv i x v h1 h2) λV e r=> ?_;exact⟨V,e,r.step S (λa m=> .inl m) (λ_ m=>m) P⟩
def yK(G:Gl)(hs h:Heap)(x:Addr)(fl:Value):Prop:=hs.get? x=none/\∃a0,h.TracedAtW hs x (.ref G.fC) a0 fl
def EL(G:Gl)(hs h:Heap)(x:Addr):Prop:=hs.get? x=none/\∃ob vs a0,h.get? x=some ob/\ob.cls= .ref G.fC/\ob.data= .fields vs/\vs[1]? =some .none/\vs[0]? =some a0
theorem yK.back{hs hs':Heap}{x:Addr}{fl:Value}(F:yK G hs' h x fl)(k:∀b,hs'.get? b=none->hs.get? b=none):yK G hs h x fl:=by refine ls F λh1 a0 oe vs T oT ts e1 e2 e3 e4 e5 e6 e7 e8 e9=> ?_;clear F;exact⟨k _ h1,a0,oe,vs,T,oT,ts,e1,e2,e3,e4,k _ e5,e6,e7,e8,e9⟩
theorem EL.back{hs hs':Heap}{x:Addr}(F:EL G hs' h x)(k:∀b,hs'.get? b=none->hs.get? b=none):EL G hs h x:=⟨k _ F.1,F.2⟩
def qJ(G:Gl)(F ad:List Addr)(s:Shared)(r:R β)(σ':List MO)(Q:α->Shared->Prop)(E:Value->Shared->Prop)(Rl:Heap->List Addr->β->α->Prop):Prop:=match r with
 | .ok b=>∀a h' tk ad',St G F ad' σ' h'->dE F ad ad' s.heap h'->Rl h' ad' b a->Q a { s with heap:=h',toks:=tk }
 | .exc=>∀x h' tk ad',St G F ad' σ' h'->dE F ad ad' s.heap h'->yK G s.heap h' x .none->E (.ref x) { s with heap:=h',toks:=tk }
theorem qJ.of_ret{r:R β}{a:β}{Q:α->Shared->Prop}{Rl:Heap->List Addr->β->α->Prop}(P:qJ G F ad s r σ' Q E Rl)(e:ret a σ=some (r,σ')):qJ G F ad s (.ok a) σ Q E Rl:=by refine oA (ky e) λez1 ez2=> ?_;subst ez1;subst ez2;exact P
theorem qJ.after{ak:List Addr}{r:R β}{Q:α->Shared->Prop}{Rl:Heap->List Addr->β->α->Prop}{tk₁:Nat}
  (P:qJ G F ad s r σ' Q E Rl)(p:dE F ad ak s.heap h₁):qJ G F ak { s with heap:=h₁,toks:=tk₁ } r σ' Q E Rl:=by
 cases r with
 |ok b=>exactλa h' tk ad' S q R=>P a h' tk ad' S (p.trans q) R
 |exc=>exactλx h' tk ad' S q fl=>P x h' tk ad' S (p.trans q) (fl.back p.ex)
def I5(G:Gl)(n:Nat)(f:Fm)(aa:List (Option PV))(t:Sem α)(m:M β)(Rl:Heap->List Addr->β->α->Prop):Prop:=
 ∀(A:Around)(ag:List Env)(Ls ad:List Addr)(σ:List MO)(s:Shared)(Q:α->Shared->Prop)(E:Value->Shared->Prop)(r:R β)(σ':List MO),
  wK G A n f ag Ls->St G (f.L::Ls) ad σ s.heap->uq G s.heap ad f aa->m σ=some (r,σ')->qJ G (f.L::Ls) ad s r σ' Q E Rl->
  wpAny (model G.prog G.w) A t Q E s
theorem I5.thn{α' β':Type}{f:Fm}{aa:List (Option PV)}{t:Sem α}{m:M β}{Rl:Heap->List Addr->β->α->Prop}(ok:I5 G n f aa t m Rl)
  {Q:α->Shared->Prop}{r:R β'}{k:β->M β'}{Q':α'->Shared->Prop}{Rl':Heap->List Addr->β'->α'->Prop}
  (C:wK G A n f ag Ls)(S:St G (f.L::Ls) ad σ s.heap)(Lc:uq G s.heap ad f aa)(e:bnd m k σ=some (r,σ'))(P:qJ G (f.L::Ls) ad s r σ' Q' E Rl')
  (h:∀b a h₁ tk₁ ak σ₁,St G (f.L::Ls) ak σ₁ h₁->dE (f.L::Ls) ad ak s.heap h₁->Rl h₁ ak b a->uq G h₁ ak f aa->k b σ₁=some (r,σ')->qJ G (f.L::Ls) ak { s with heap:=h₁,toks:=tk₁ } r σ' Q' E Rl'->
   Q a { s with heap:=h₁,toks:=tk₁ }):wpAny (model G.prog G.w) A t Q E s:=by
 rcases nG e with⟨b,σ₁,e1,e2⟩|⟨e1,rfl⟩
 ·exact ok A ag Ls ad σ s Q E _ _ C S Lc e1 λa h₁ tk₁ ak ai p R=>h b a h₁ tk₁ ak σ₁ ai p R (Lc.step S p) e2 (P.after p)
 ·exact ok A ag Ls ad σ s Q E _ _ C S Lc e1 P
abbrev RV(G:Gl):Heap->List Addr->PV->Value->Prop:=λh ad v V=>eW G h ad v V
abbrev RB:Heap->List Addr->Bool->Bool->Prop:=λ_ _ b b'=>b=b'
noncomputable def jA(G:Gl)(h:Heap)(ad:List Addr):List PV->List Value->Prop
 |[],[]=>True
 |v::vs,V::Vs=>eW G h ad v V/\jA G h ad vs Vs
 |_,_=>False
abbrev dR(G:Gl)(n:Nat)(f:Fm)(aa:List (Option PV))(e:cP)(m:M PV):Prop:=I5 G n f aa (eval e f.env) m (RV G)
abbrev uN(G:Gl)(n:Nat)(f:Fm)(aa:List (Option PV))(e:cP)(m:M Bool):Prop:=I5 G n f aa (isTrue e f.env (eval e f.env)) m RB
theorem jA.step{X F F' ad ad':List Addr}{σ:List MO}{h h':Heap}(S:St G F' ad σ h)(hX:Yw X F' ad)(hF:∀b ∈ F,b ∈ F')(P:kK X F ad ad' h h'):∀{vs:List PV}{Vs:List Value},jA G h ad vs Vs->jA G h' ad' vs Vs
 |[],[],_=>trivial
 |_::_,_::_,⟨a,b⟩=>⟨a.step S hX hF P,jA.step S hX hF P b⟩
 |[],_::_,x=>x.elim
 |_::_,[],x=>x.elim
theorem eW.stepE{v:PV}{V:Value}(r:eW G h ad v V)(S:St G F ad σ h)(P:dE F ad ad' h h'):eW G h' ad' v V:=r.step S (λ_ m=> .inl m) (λ_ m=>m) P
theorem jA.stepE{v:List PV}{V:List Value}(r:jA G h ad v V)(S:St G F ad σ h)(P:dE F ad ad' h h'):jA G h' ad' v V:=r.step S (λ_ m=> .inl m) (λ_ m=>m) P
theorem qJ.now{b:β}{Q:α->Shared->Prop}{Rl:Heap->List Addr->β->α->Prop}(P:qJ G F ad s (.ok b) σ Q E Rl)(S:St G F ad σ s.heap){a:α}(r:Rl s.heap ad b a)(tk:Nat):
  Q a { s with heap:=s.heap,toks:=tk }:=P a s.heap tk ad S (kK.refl ..) r
theorem qJ.made{b:β}{Q:α->Shared->Prop}{Rl:Heap->List Addr->β->α->Prop}(P:qJ G F ad s (.ok b) σ Q E Rl)(S:St G F ad σ s.heap)
  (k:∀b o,s.heap.get? b=some o->h'.get? b=some o){a:α}(r:Rl h' ad b a)(tk:Nat):Q a { s with heap:=h',toks:=tk }:=P a h' tk ad (S.of_keep k) (dE.of_keep k) r
section
variable{f:Fm}{aa:List (Option PV)}
theorem vz{x:Str}(hx:f.names[i]? =some x)(hd:(x ==("__debug__":Str))=false):
  dR G n f aa (.Name x pos) (lift (aa[i]?).join):=by
 intro A ag Ls ad σ s Q E r σ' C S Lc e P;refine ou (sU e) λv e1 ez1 ez2=> ?_;subst ez1;subst ez2;refine eN Lc λm hn hv=> ?_;clear Lc
 have e2:aa[i]? =some (some v):=by
  cases q:aa[i]? with
  |none=>rw[q]at e1;exact eC e1
  |some y=>rw[q]at e1;exact dN some e1
 refine eN (hv i x v hx e2) λV hV rV=> ?_;exact wpAny_Name (wpAny_loadName_local C.hk (C.aa x (gu hx)) hn hV (P.now S rV s.toks)) hd
theorem Kj{x:Str}{v:PV}{V:Value}(hk:f.cs.kind= .function)(hx:f.cs.names.lookup x=some .globalImplicit)(hg:G.mg x=some V)(hv:∀h ad,G.h₀.StaysIn h->eW G h ad v V)
  (hd:(x ==("__debug__":Str))=false):dR G n f aa (.Name x pos) (ret v):=by
 intro A ag Ls ad σ s Q E r σ' C S Lc e P;have P:=P.of_ret e;exact Name_function_global hk hx (loadGlobal_global (env:=f.env) (G.hg.keeps S.base) hg (P.now S (hv _ _ S.base) s.toks)) hd
theorem wL{i:Int}{k:Nat}:dR G n f aa (.Constant (.int i) k pos) (ret (.d (.int i))):=by intro A ag Ls ad σ s Q E r σ' C S Lc e P;have P:=P.of_ret e;exact wpAny_Constant_int (P.now S (Rd.int ..) _)
theorem Td{x:Str}{k:Nat}:dR G n f aa (.Constant (.str x) k pos) (ret (.d (.str x.cps.toList))):=by intro A ag Ls ad σ s Q E r σ' C S Lc e P;have P:=P.of_ret e;exact wpAny_mkText (P.now S (Rd.str ..) _)
theorem Po{k:Nat}:dR G n f aa (.Constant (.bool b) k pos) (ret (.d (.bool b))):=by intro A ag Ls ad σ s Q E r σ' C S Lc e P;have P:=P.of_ret e;exact dc (P.now S (Rd.bool ..) s.toks)
theorem Pp{k:Nat}:dR G n f aa (.Constant .none k pos) (ret (.d .none)):=by intro A ag Ls ad σ s Q E r σ' C S Lc e P;have P:=P.of_ret e;exact dc (P.now S Rd.none s.toks)
end
end
variable{C:Addr->List PV->M PV}{m:M PV}{ms:List (M PV)}{sem:List PV->M PV}{Cf:List PV->M Unit}
section
theorem CC.to{o:MO}(ka:∀x,h.get? a=some x->h'.get? a=some x)(kR:lV h h')(kV:∀v V,eW G h ad v V->eW G h' ad' v V)(r:CC G h ad a o):CC G h' ad' a o:=by
 cases o with
 |list xs=>
  refine mZ r λitems n e1 r2=> ?_;clear r;exact⟨items,n,ka _ e1,dD.keep kR r2⟩
 |dict kvs=>
  refine eN r λps oz1 r2=> ?_;clear r;obtain⟨o,es,ep,e1,e2⟩:=oz1;exact⟨ps,⟨o,es,ep,ka _ e1,e2⟩,ow.mono kV r2⟩
 |obj kvs=>
  refine mZ r λes n e1 r2=> ?_;clear r;exact⟨es,n,ka _ e1,mw.mono kV r2⟩
theorem dE.grow(k:∀b o,h.get? b=some o->h'.get? b=some o)(fr:h.get? a=none):dE F ad (ad++[a]) h h':=
 ⟨List.prefix_append _ _,.of_keep k,λb m=>by
  rcases eF.mp m with m|m
  ·exact .inl m
  ·cases ff.mp m;exact .inr fr,(dE.of_keep (F:=F) (ad:=ad) k).ex⟩
theorem St.grow{F ad:List Addr}{σ:List MO}{h h':Heap}{a:Addr}{mo:MO}(S:St G F ad σ h)(k:∀b o,h.get? b=some o->h'.get? b=some o)(fr:h.get? a=none)(hle:G.h₀.objs.size<=a)(r:CC G h' (ad++[a]) a mo):
  St G F (ad++[a]) (σ++[mo]) h':=by
 have P:dE F ad (ad++[a]) h h':=dE.grow k fr;have kR:lV h h':=S.tupKeep (λa m=> .inl m) P;have kV:∀v V,eW G h ad v V->eW G h' (ad++[a]) v V:=λv V r=>r.stepE S P
 have na:a ∉ ad:=λm=>by refine eN (S.adObj m) λo h1 _=> ?_;rw[fr]at h1;exact eC h1
 refine⟨λb o e=>k b o (S.base b o e),by simp[S.len],List.nodup_append.mpr ⟨S.nd,by simp,λx hx y hy=>by cases ff.mp hy;exactλe=>na (e▸hx)⟩,λj b o h1 h2=> ?_,λb m=> ?_,λb m=> ?_,S.fnd,λb m z=> ?_⟩
 ·by_cases hj:j<ad.length
  ·rw[fH hj]at h1;rw[fH (S.len▸hj)]at h2;exact(S.ads j b o h1 h2).to (λx=>k b x) kR kV
  ·have hj':j=ad.length:=by
    have:=(ek.mp h1).1;simp at this;omega
   subst hj';rw[nO (ip _)]at h1;rw[nO (Nat.le_of_eq S.len.symm),S.len]at h2;simp at h1 h2;subst h1;subst h2;exact r
 ·rcases eF.mp m with m|m
  ·exact S.newA b m
  ·cases ff.mp m;exact hle
 ·refine vw (S.frs b m) λh1 o h2 h3=> ?_;exact⟨h1,o,k _ _ h2,h3⟩
 ·rcases eF.mp z with z|z
  ·exact S.apart b m z
  ·cases ff.mp z;refine vw (S.frs _ m) λ_ o h2 _=> ?_;rw[fr]at h2;exact eC h2
theorem dE.upd(hm:a ∈ ad)(k:∀b o,b≠a->h.get? b=some o->h'.get? b=some o)(there:∃o,h'.get? a=some o):dE F ad ad h h':=
 ⟨hO _,⟨λb o e h1 _=>k b o (λz=>h1 (z▸hm)) e,λb o e _ h2=>⟨o.slots,k b o (λz=>h2 (z▸hm)) e⟩⟩,λ_ m=> .inl m,λb e=>by
  cases q:h.get? b with
  |none=>rfl
  |some o=>
   by_cases z:b=a
   ·subst z;refine oE there λo' h1=> ?_;clear there;rw[e]at h1;exact eC h1
   ·rw[k b o z q]at e;exact yt e⟩
theorem CC.there{o:MO}(r:CC G h ad a o):∃o,h.get? a=some o:=by
 cases o with
 |list xs=>(refine mZ r λitems _ e1 _=> ?_;clear r);exact⟨_,e1⟩
 |dict kvs=>(refine eN r λps oz1 r2=> ?_;clear r;obtain⟨o,es,ep,e1,e2⟩:=oz1);exact⟨_,e1⟩
 |obj kvs=>(refine mZ r λes n e1 _=> ?_;clear r);exact⟨_,e1⟩
theorem St.upd{F ad:List Addr}{σ:List MO}{h h':Heap}{a:Addr}{j:Nat}{mo:MO}(S:St G F ad σ h)(hj:ad[j]? =some a)(k:∀b o,b≠a->h.get? b=some o->h'.get? b=some o)(r:CC G h' ad a mo):
  St G F ad (σ.set j mo) h'/\dE F ad ad h h':=by
 have hm:a ∈ ad:=gu hj;have P:dE F ad ad h h':=dE.upd hm k r.there;have kR:lV h h':=S.tupKeep (λa m=> .inl m) P;have kV:∀v V,eW G h ad v V->eW G h' ad v V:=λv V r=>r.stepE S P;refine⟨⟨λb o e=>k b o (λz=> ?_) (S.base b o e),by simp[S.len],S.nd,λi b o h1 h2=> ?_,S.newA,λb m=> ?_,S.fnd,S.apart⟩,P⟩
 ·rw[z,rt (S.newA a hm)]at e;exact eC e
 ·by_cases hi:i=j
  ·subst hi;rw[hj]at h1;replace h1:=si h1;subst h1;rw[qF (by rw[<-S.len];exact(ek.mp hj).1)]at h2;replace h2:=si h2;subst h2;exact r
  ·rw[o7 (Ne.symm hi)]at h2
   have hb:b≠a:=λz=>hi (by
    subst z;have l1:=ek.mp h1;have l2:=ek.mp hj;obtain⟨p1,e1⟩:=l1;obtain⟨p2,e2⟩:=l2;have pw:=List.pairwise_iff_getElem.mp S.nd;rcases Nat.lt_trichotomy i j with l|l|l
    ·exact absurd (e1.trans e2.symm) (pw i j p1 p2 l)
    ·exact l
    ·exact absurd (e2.trans e1.symm) (pw j i p2 p1 l))
   exact(S.ads i b o h1 h2).to (λx=>k b x hb) kR kV
 ·refine vw (S.frs b m) λh1 o h2 h3=> ?_;exact⟨h1,o,k b o (λz=>S.ad_not_F (z▸hm) m) h2,h3⟩
noncomputable def dW(σ:List MO):PV->Option (List D)
 | .ref k=>match σ[k]? with
  |some (.list xs)=>some xs
  |_=>none
 | .cl xs=>some xs
 |_=>none
theorem St.tupKeepBase(S:St G F ad σ h):lV G.h₀ h:=λa o _ _ e hc _=>⟨o,S.base a o e,hc,rfl⟩
theorem St.isL(S:St G F ad σ h){v:PV}{V:Value}(r:eW G h ad v V)(e:dW σ v=some xs):∃a items,V= .ref a/\h.IsList a items/\dD h items.toList xs:=by
 cases v with
 |d x=>exact eC e
 |inst k=>exact eC e
 |cd kvs=>exact eC e
 |cl ys=>
  replace e:=sj e;subst e;refine iJ r λa items h1 oz1 h4=> ?_;clear r;obtain⟨o,h2,h3⟩:=oz1;exact⟨a,items,h1,⟨o,S.base _ _ h2,h3⟩,dD.keep S.tupKeepBase h4⟩
 |ref k=>
  refine eN r λa h1 h2=> ?_;clear r;unfold dW at e;dsimp only at e
  symm at e
  ·rename_i ys q;replace e:=sj e;subst e;refine mZ (S.ads k a _ h1 q) λitems n h3 h4=> ?_;exact⟨a,items,h2,⟨_,h3,rfl,n,rfl⟩,h4⟩
  ·exact eC e
theorem St.size{b:Addr}{F ad:List Addr}{σ:List MO}{h:Heap}(S:St G (b::F) ad σ h):G.h₀.objs.size<=h.objs.size:=by refine vw (S.frs b (.head _)) λh1 o h2 _=> ?_;exact Nat.le_of_lt (Nat.lt_of_le_of_lt h1 (kH h2))
theorem qJ.newList{b:Addr}(P:qJ G (b::F) ad s (.ok (.ref σ.length)) (σ++[.list xs]) Q E (RV G))(S:St G (b::F) ad σ s.heap)
  {items:Array Value}(n:Nat)(r:dD s.heap items.toList xs)(tk:Nat):Q (.ref s.heap.objs.size) { s with heap:=s.heap.push { cls:= .type "list",data:= .seq items n },toks:=tk }:=by
 generalize ho:({ cls:= .type "list",data:= .seq items n }:Obj)=o
 have fr:s.heap.get? s.heap.objs.size=none:=by
  cases q:s.heap.get? s.heap.objs.size with
  |none=>rfl
  |some x=>exact absurd (kH q) (Nat.lt_irrefl _)
 have k:∀b x,s.heap.get? b=some x->(s.heap.push o).get? b=some x:=λb x e=>fc _ e
 have hf:o.isFreed=false:=by subst ho;rfl
 have ge:=gP s.heap hf;have P':dE (b::F) ad (ad++[s.heap.objs.size]) s.heap (s.heap.push o):=dE.grow k fr;have r':dD (s.heap.push o) items.toList xs:=dD.keep (S.tupKeep (λa m=> .inl m) P') r;refine P _ _ tk _ (S.grow k fr S.size ⟨items,n,ho▸ge,r'⟩) P' ⟨_,?_,rfl⟩;rw[<-S.len];simp
noncomputable def jP:Nat:=4000000
noncomputable def eZ:Nat:=4000000
noncomputable def D.asI:D->Option Int
 | .int a=>some a
 |_=>Option.none
noncomputable def D.asS:D->Option (List Nat)
 | .str a=>some a
 |_=>Option.none
theorem D.asI_inv{x:D}{a:Int}(h:x.asI=some a):x= .int a:=by cases x<;>first|exact eC h|(replace h:=si h;subst h;rfl)
theorem D.asS_inv{x:D}{a:List Nat}(h:x.asS=some a):x= .str a:=by cases x<;>first|exact eC h|(replace h:=si h;subst h;rfl)
def yL(f:Int->Int->Option D)(x y:D):Option D:=x.asI.bind λa=>y.asI.bind (f a)
def Pq(f:List Nat->List Nat->Option D)(x y:D):Option D:=x.asS.bind λa=>y.asS.bind (f a)
@[simp] theorem onII_ii(f:Int->Int->Option D)(a b:Int):yL f (.int a) (.int b)=f a b:=rfl
@[simp] theorem onSS_ss(f:List Nat->List Nat->Option D)(a b:List Nat):Pq f (.str a) (.str b)=f a b:=rfl
theorem I6{p:Prop} [Decidable p]{v c:α}(h:(if p then some v else none)=some c):p/\v=c:=by
 by_cases q:p
 ·rw[cH q]at h;exact⟨q,si h⟩
 ·rw[cJ q]at h;exact eC h
@[elab_as_elim] theorem ii_on{V W:Value}{a b c:D}{f:Int->Int->Option D}{P:Value->Value->Prop}(e:yL f a b=some c)(ra:Rd h V a)(rb:Rd h W b)(k:∀i j t u,f i j=some c->P (.int i t) (.int j u)):P V W:=by refine eN (dL.mp e) λi e1 e=> ?_;refine eN (dL.mp e) λj e2 e=> ?_;rw[D.asI_inv e1]at ra;rw[D.asI_inv e2]at rb;refine Rd.int_on ra λt=> ?_;refine Rd.int_on rb λu=> ?_;exact k i j t u e
@[elab_as_elim] theorem ss_on{V W:Value}{a b c:D}{f:List Nat->List Nat->Option D}{P:Value->Value->Prop}(e:Pq f a b=some c)(ra:Rd h V a)(rb:Rd h W b)(k:∀(x y:List Nat) t u,f x y=some c->P (.str ⟨x.toArray⟩ t) (.str ⟨y.toArray⟩ u)):P V W:=by refine eN (dL.mp e) λi e1 e=> ?_;refine eN (dL.mp e) λj e2 e=> ?_;rw[D.asS_inv e1]at ra;rw[D.asS_inv e2]at rb;refine Rd.str_on ra λt=> ?_;refine Rd.str_on rb λu=> ?_;exact k i j t u e
noncomputable def Wv(a b:Int):Option D:=some (.int (a+b))
noncomputable def aat(a b:Int):Option D:=some (.int (a -b))
def Te(a b:List Nat):Option D:=if a.length+b.length<=jP then some (.str (a++b))else none
noncomputable def aau(a b:Int):Option D:=if 0<b/\b<1000000 then some (.int (a.fdiv b))else none
def Kk(x y:D):Option D:=if x.asI.isSome then yL Wv x y else Pq Te x y
def Pr(x y:D):Option D:=if x.asI.isSome then yL (λa b=>if a.natAbs<2 ^ 40/\b.natAbs<2 ^ 40 then some (.int (a * b))else none) x y else x.asS.bind λ_=>y.asI.bind λb=>if b=0 then some (.str [])else none
@[simp] theorem addD_ii(a b:Int):Kk (.int a) (.int b)=some (.int (a+b)):=rfl
@[simp] theorem addD_ss(a b:List Nat):Kk (.str a) (.str b)=if a.length+b.length<=jP then some (.str (a++b))else none:=rfl
@[simp] theorem mulD_ii(a b:Int):Pr (.int a) (.int b)=if a.natAbs<2 ^ 40/\b.natAbs<2 ^ 40 then some (.int (a * b))else none:=rfl
@[simp] theorem mulD_si(a:List Nat)(b:Int):Pr (.str a) (.int b)=if b=0 then some (.str [])else none:=rfl
def sV(op:Operator)(x y:D):Option D:=match op with
 | .Add=>Kk x y
 | .Sub=>yL (λa b=>some (.int (a -b))) x y
 | .Mult=>Pr x y
 | .Mod=>yL (λa b=>if 0<b then some (.int (a.fmod b))else none) x y
 | .FloorDiv=>yL (λa b=>if 0<b/\b<1000000 then some (.int (a.fdiv b))else none) x y
 | .Pow=>yL (λa b=>if b=0/\a=10 then some (.int 1)else none) x y
 |_=>none
theorem EM{x y c:D}(h:Kk x y=some c):yL Wv x y=some c\/Pq Te x y=some c:=by
 unfold Kk at h;by_cases q:x.asI.isSome
 ·rw[cH q]at h;exact .inl h
 ·rw[cJ q]at h;exact .inr h
theorem I7{y:List Nat}{c:D}(e:Te x y=some c):(⟨x.toArray⟩:Str).length+(⟨y.toArray⟩:Str).length<=sizeLine/\∀t,Rd h (.str (⟨x.toArray⟩++⟨y.toArray⟩) t) c:=by
 refine oA (I6 e) λhlt e=> ?_;subst e;refine⟨?_,λt=> ?_⟩
 ·show x.toArray.size+y.toArray.size<=sizeLine;have:sizeLine=16777216:=rfl;simp only[ro,this];unfold jP at hlt;exact(ie (.l (.a A0 A1) (.k 16777216)) [.l (.a A0 A1) (.k 4000000)]) hlt
 ·have:=Rd.str (h:=h) (⟨x.toArray⟩++⟨y.toArray⟩) t;rw[Str.cps_append]at this
  simpa using this
theorem Pt{op:Operator}{a b c:D}{V W:Value}(e:sV op a b=some c)(ra:Rd s.heap V a)(rb:Rd s.heap W b)(hh:A.handled=none)
  (h:∀X tk,Rd s.heap X c->Q X { s with heap:=s.heap,toks:=tk }):wpAny (model G.prog G.w) A (binaryOp op V W) Q E s:=by
 cases op with
 |Add=>
  rcases EM e with e|e
  ·refine ii_on e ra rb λi j t u e=> ?_;replace e:=si e;subst e;exact PyProof.Rows.add_int (h _ _ (.int ..))
  ·refine ss_on e ra rb λx y t u e=> ?_;exact oA (I7 e) λe1 e2=>PyProof.Rows.add_str (λt' tk=>h _ tk (e2 _)) e1
 |Sub=>
  refine ii_on e ra rb λi j t u e=> ?_;replace e:=si e;subst e;exact PyProof.Rows.sub_int (h _ _ (.int ..))
 |Mult=>
  unfold sV Pr at e;dsimp only at e;by_cases q:a.asI.isSome
  ·rw[cH q]at e;refine ii_on e ra rb λi j t u e=> ?_;refine oA (I6 e) λhlt e=> ?_;subst e;exact PyProof.Rows.mul_int (h _ _ (.int ..)) (PySem.IntMulOk.of_left (PySem.intBits_le_64 ((pI:Qn [] [_,_] (.S (.n' (.pw 2 64)) (.v 0)) [.c (.t (.ab 0) (.pw 2 40)) (.t (.ab 1) (.pw 2 40))]) hlt) ((pI:Qn [] [_,_] (.S (.v 0) (.pw 2 64)) [.c (.t (.ab 0) (.pw 2 40)) (.t (.ab 1) (.pw 2 40))]) hlt)))
  ·rw[cJ q]at e;refine eN (dL.mp e) λx e1 e=> ?_;refine eN (dL.mp e) λy e2 e=> ?_;rw[D.asS_inv e1]at ra;rw[D.asI_inv e2]at rb;refine oA (I6 e) λhlt e'=> ?_;clear e e1 e2;subst e';subst hlt;refine Rd.str_on ra λt=> ?_;refine Rd.int_on rb λu=> ?_;exact P.mul_str_none (by decide) (by decide) (h _ _ (Rd.str Str.empty _))
 |Mod=>
  refine ii_on e ra rb λi j t u e=> ?_;refine oA (I6 e) λhlt e=> ?_;subst e;exact PyProof.Rows.mod_int' ((pI:Qn [] [_] (.n (.E (.v 0) (.k 0))) [.S (.k 0) (.v 0)]) hlt) (h _ _ (.int ..))
 |FloorDiv=>
  refine ii_on e ra rb λi j t u e=> ?_;refine oA (I6 e) λhlt e=> ?_;subst e;refine PyProof.Rows.floordiv_int (VD hlt) (h _ _ (.int ..)) ?_;exact Or.inl (PyProof.noPylong_small (VC hlt))
 |Pow=>
  refine ii_on e ra rb λi j t u e=> ?_;refine wD (Iff.mp and_assoc (I6 e)) λe1 e2 e'=> ?_;clear e;subst e';subst e1;subst e2;exact PyProof.Rows.pow_int (by decide) (by decide) (h _ _ (.int ..))
 |_=>exact eC e
end
end
variable{α:Type}{a:Addr}{b:Bool}{β:Type}{c:Nat}{p:Nat}{s:Shared}{X:List Addr}{e:cP}{h:Heap}{i:Nat}{x:List Nat}{xs:List D}{h':Heap}{F:List Addr}{h₁:Heap}{ad:List Addr}{ad':List Addr}{L:Addr}{Ls:List Addr}{Q:Value->Shared->Prop}{E:Value->Shared->Prop}{n:Nat}{A:Around}{ag:List Env}{pos:Pos}{Vs:List Value}{w:List Nat}{es:List cP}{np:Pos}{ps:List Str}{sc:Scope}{cd:Value}{body:List Stmt}{more:List Str}{ds:List D}{T:List Nat}
variable{σ:List MO}{σ':List MO}{vs:List PV}{G:Gl}{nx:Nat->List MO->Option (Option PV)}{x4:Option PV}
variable{C:Addr->List PV->M PV}{m:M PV}{ms:List (M PV)}{sem:List PV->M PV}{Cf:List PV->M Unit}
section
open PySem.Calls PySem.Spec PySem.SeqAt PyProof.Rows
section
mutual
theorem D.ok_py:∀d:D,d.py.canLay0=d.ok
 | .none=>rfl
 | .bool _=>rfl
 | .int _=>rfl
 | .str s=>by simp[D.py,D.ok,PyData.canLay0,PyData.strOk]
 | .tup xs=>by simp[D.py,D.ok,PyData.canLay0,D.oks_py xs]
theorem D.oks_py:∀d:List D,PyData.canLayAll0 (D.pys d)=D.oks d
 |[]=>rfl
 |x::xs=>by simp[D.pys,D.oks,PyData.canLayAll0,D.ok_py x,D.oks_py xs]
end
mutual
theorem D.dep_py:∀d:D,d.py.depth=d.dep
 | .none=>rfl
 | .bool _=>rfl
 | .int _=>rfl
 | .str s=>rfl
 | .tup xs=>by simp[D.py,D.dep,PyData.depth,D.deps_py xs]
theorem D.deps_py:∀d:List D,PyData.depthAll (D.pys d)=D.deps d
 |[]=>rfl
 |x::xs=>by simp[D.pys,D.deps,PyData.depthAll,D.dep_py x,D.deps_py xs]
end
def I8(x y:D):Bool:=PyData.eqv x.py y.py
def Yb(x y:D):Option Bool:=if x.ok && y.ok && decide (x.dep<=64) && decide (y.dep<=64)then some (I8 x y)else none
def l5(x y:D):Option Bool:=match x with
 | .str a=>(match y with
  | .str b=>some (a == b)
  |y=>Yb (.str a) y)
 | .int a=>(match y with
  | .int b=>some (a == b)
  |y=>Yb (.int a) y)
 |x=>Yb x y
noncomputable def Sj(x:List Nat):D->Bool
 | .str y=>y == x
 |_=>false
noncomputable def AD:List D->Bool
 |[]=>true
 | .str _::r=>AD r
 |_::_=>false
noncomputable def EB(x y:List Nat):Bool:= !(Builtin.Str.occurrences ⟨y.toArray⟩ ⟨x.toArray⟩ 0 (Str.length ⟨y.toArray⟩) 1).isEmpty
noncomputable def Pu(x:List Nat):List (List Nat×D)->Bool
 |[]=>false
 |kv::r=>kv.1 == x || Pu x r
def yM(x:List Nat)(ys:List D):Option Bool:=if AD ys then some (ys.any (Sj x))else none
def AE(σ:List MO)(x:List Nat):PV->Option Bool
 | .d (.tup ys)=>yM x ys
 | .d (.str y)=>some (EB x y)
 | .cd kvs=>some (Pu x kvs)
 |v=>(dW σ v).bind (yM x)
noncomputable def isNone:D->Bool
 | .none=>true
 |_=>false
noncomputable def PV.asD:PV->Option D
 | .d x=>some x
 |_=>none
@[simp] theorem asD_d(x:D):PV.asD (.d x)=some x:=rfl
def PV.asI(v:PV):Option Int:=v.asD.bind D.asI
def PV.asS(v:PV):Option (List Nat):=v.asD.bind D.asS
@[simp] theorem pasI_i(i:Int):PV.asI (.d (.int i))=some i:=rfl
@[simp] theorem pasS_s(x:List Nat):PV.asS (.d (.str x))=some x:=rfl
theorem PV.asD_inv{v:PV}{x:D}(h:v.asD=some x):v= .d x:=by cases v<;>first|exact eC h|(replace h:=si h;subst h;rfl)
theorem PV.asI_inv{v:PV}{i:Int}(h:v.asI=some i):v= .d (.int i):=eN (dL.mp h) λ_ e1 e2=>by rw[PV.asD_inv e1,D.asI_inv e2]
theorem PV.asS_inv{v:PV}{x:List Nat}(h:v.asS=some x):v= .d (.str x):=eN (dL.mp h) λ_ e1 e2=>by rw[PV.asD_inv e1,D.asS_inv e2]
def Vn(f:Int->Int->Bool)(a b:PV):Option Bool:=a.asI.bind λx=>b.asI.bind λy=>some (f x y)
@[simp] theorem cII_ii(f:Int->Int->Bool)(i j:Int):Vn f (.d (.int i)) (.d (.int j))=some (f i j):=rfl
def Z2(f:List Nat->List Nat->Bool)(a b:PV):Option Bool:=a.asS.bind λx=>b.asS.bind λy=>some (f x y)
def Ww(a b:PV):Option Bool:=if a.asI.isSome then Vn (λx y=>decide (x<=y)) a b else Z2 (λx y=> !decide (y<x)) a b
@[simp] theorem cLE_ii(i j:Int):Ww (.d (.int i)) (.d (.int j))=some (decide (i<=j)):=rfl
@[simp] theorem cLE_ss(x y:List Nat):Ww (.d (.str x)) (.d (.str y))=some (!decide (y<x)):=rfl
noncomputable def Tf(xs ys:List D):Option Bool:=if xs.length != ys.length then some false else if xs.length=0 then some true else none
def Vo(σ:List MO)(a b:PV):Option Bool:=match a.asD with
 |some x=>b.asD.bind (l5 x)
 |none=>(dW σ a).bind λxs=>(dW σ b).bind (Tf xs)
@[simp] theorem eqV_dd(σ:List MO)(x y:D):Vo σ (.d x) (.d y)=l5 x y:=rfl
@[simp] theorem eqV_rr(σ:List MO)(i j:Nat):Vo σ (.ref i) (.ref j)=(dW σ (.ref i)).bind λxs=>(dW σ (.ref j)).bind λys=>if xs.length != ys.length then some false else if xs.length=0 then some true else none:=rfl
@[simp] theorem eqV_rc(σ:List MO)(i:Nat)(l:List D):Vo σ (.ref i) (.cl l)=(dW σ (.ref i)).bind λxs=>(dW σ (.cl l)).bind λys=>if xs.length != ys.length then some false else if xs.length=0 then some true else none:=rfl
noncomputable def Sk:PV->Bool
 | .d (.str _)=>true
 | .cd _=>true
 |_=>false
def Yc(f:Bool->Bool)(a b:PV):Option Bool:=a.asD.bind λx=>b.asD.bind λy=>if isNone y then some (f (isNone x))else none
@[simp] theorem isN_n(f:Bool->Bool)(x:D):Yc f (.d x) (.d .none)=some (f (isNone x)):=rfl
def gJ(σ:List MO)(op:CmpOp)(a b:PV):Option Bool:=match op with
 | .Eq=>Vo σ a b
 | .NotEq=>a.asD.bind λx=>b.asD.bind λy=>(l5 x y).map (!·)
 | .Lt=>Vn (λx y=>decide (x<y)) a b
 | .Gt=>Vn (λx y=>decide (y<x)) a b
 | .GtE=>Vn (λx y=>decide (y<=x)) a b
 | .LtE=>Ww a b
 | .In=>a.asS.bind λx=>AE σ x b
 | .NotIn=>if Sk b then none else a.asS.bind λx=>(AE σ x b).map (!·)
 | .Is=>Yc (λx=>x) a b
 | .IsNot=>Yc (λx=> !x) a b
noncomputable def CD(x:List Nat):Value->Bool
 | .str y _=>y ==⟨x.toArray⟩
 |_=>false
theorem BH{y:D}{ys:List D}(a:AD (y::ys)=true):(∃s,y= .str s)/\AD ys=true:=by cases y<;>first|exact⟨⟨_,rfl⟩,a⟩|exact mY a
theorem yv{ys:List D}(r:dD h Vs ys):AD ys=true->Vs.any (CD x)=ys.any (Sj x):=
 dD.ind (R:=λVs ys=>AD ys=true->Vs.any (CD x)=ys.any (Sj x)) (λ_=>rfl) (λ{v d vs ds} k r ih a=>by
  refine oA (BH a) λoz1 a=> ?_;obtain⟨s,rfl⟩:=oz1;refine Rd.str_on k λt=> ?_;obtain⟨y,rfl⟩:∃y:Str,s=y.cps.toList:=⟨⟨s.toArray⟩,rfl⟩
  have e:CD x (.str ⟨y.cps.toList.toArray⟩ t)=Sj x (.str y.cps.toList):=by
   show((⟨y.cps.toList.toArray⟩:Str) ==⟨x.toArray⟩)=(y.cps.toList == x);obtain⟨⟨l⟩⟩:=y;by_cases h:l=x
   ·subst h;simp
   ·have:¬(⟨⟨l⟩⟩:Str)=⟨x.toArray⟩:=λe=>h (by injection e with e;simpa using dN Array.toList e)
    exact(gO.mpr this).trans (gO.mpr h).symm
  rw[lF,lF,e,ih a]) r
theorem rz{t:Tok}{ys:List D}(r:dD h Vs ys):AD ys=true->∀y ∈ Vs,EqAt A s y (.str ⟨x.toArray⟩ t) (CD x y):=
 dD.ind (R:=λVs ys=>AD ys=true->∀y ∈ Vs,EqAt A s y (.str ⟨x.toArray⟩ t) (CD x y)) (λ_ _ m=>nomatch m) (λ{v d vs ds} k r ih a z m=>by
  refine oA (BH a) λoz1 a=> ?_;obtain⟨s,rfl⟩:=oz1;refine oE k.str_inv λu ez1=> ?_;subst ez1;rcases dj.mp m with rfl|m
  ·exact EqAt.str_str _ u ⟨x.toArray⟩ t
  ·exact ih a z m) r
theorem vA(x y:List Nat):((⟨x.toArray⟩:Str) ==⟨y.toArray⟩)=(x == y):=by
 by_cases h:x=y
 ·subst h;simp
 ·have:¬(⟨x.toArray⟩:Str)=⟨y.toArray⟩:=λe=>h (by injection e with e;simpa using dN Array.toList e)
  exact(gO.mpr this).trans (gO.mpr h).symm
theorem CE:∀{ps:List (Str×Value)}{kvs:List (List Nat×D)},Ki h ps kvs->(valueAt ps ⟨x.toArray⟩).isSome=Pu x kvs:=by
 intro l1
 induction l1 with
 |nil=>intro l2;cases l2 with
  |nil=>exactλ_=>rfl
  |cons _ _=>exactλhx=>hx.elim
 |cons p ps ih=>intro l2;cases l2 with
  |nil=>exactλhx=>hx.elim
  |cons kv kvs=>
    intro hx;obtain⟨h1,h2,h3⟩:=hx;have ih:=ih h3;have e:=vA kv.1 x;rw[<-h1]at e;unfold valueAt Pu;unfold valueAt at ih;rw[List.find?_cons,<-ih,<-e];by_cases q:p.1=⟨x.toArray⟩
    ·simp[q]
    ·simp[q]
theorem CF{x y:D}{c:Bool}(e:Yb x y=some c):shaped x.py=true/\shaped y.py=true/\c=PyData.eqv x.py y.py:=by
 refine oA (I6 e) λh e=> ?_;subst e;simp only[ej,decide_eq_true_eq]at h;refine oA h λoz1 h4=> ?_;clear h;obtain⟨⟨h1,h2⟩,h3⟩:=oz1;refine⟨?_,?_,rfl⟩
 ·unfold shaped;rw[D.ok_py,D.dep_py,h1,eE h3];rfl
 ·unfold shaped;rw[D.ok_py,D.dep_py,h2,eE h4];rfl
theorem I9{x y:D}{c:Bool}(e:l5 x y=some c):(∃a b,x= .str a/\y= .str b/\c=(a == b))\/(∃a b,x= .int a/\y= .int b/\c=(a == b))\/(shaped x.py=true/\shaped y.py=true/\c=PyData.eqv x.py y.py):=by
 cases x with
 |str a=>cases y with
  |str b=>exact .inl ⟨_,_,rfl,rfl,(si e).symm⟩
  |_=>exact .inr (.inr (CF e))
 |int a=>cases y with
  |int b=>exact .inr (.inl ⟨_,_,rfl,rfl,(si e).symm⟩)
  |_=>exact .inr (.inr (CF e))
 |_=>exact .inr (.inr (CF e))
@[elab_as_elim] theorem cII_on{a b:PV}{V W:Value}{f:Int->Int->Bool}{c:Bool}{P:Value->Value->Prop}(e:Vn f a b=some c)(ra:eW G h ad a V)(rb:eW G h ad b W)(k:∀i j t u,f i j=c->P (.int i t) (.int j u)):P V W:=by refine eN (dL.mp e) λi e1 e=> ?_;refine eN (dL.mp e) λj e2 e=> ?_;rw[PV.asI_inv e1]at ra;rw[PV.asI_inv e2]at rb;refine Rd.int_on ra λt=> ?_;refine Rd.int_on rb λu=> ?_;exact k i j t u (si e)
@[elab_as_elim] theorem cSS_on{a b:PV}{V W:Value}{f:List Nat->List Nat->Bool}{c:Bool}{P:Value->Value->Prop}(e:Z2 f a b=some c)(ra:eW G h ad a V)(rb:eW G h ad b W)(k:∀(x y:List Nat) t u,f x y=c->P (.str ⟨x.toArray⟩ t) (.str ⟨y.toArray⟩ u)):P V W:=by refine eN (dL.mp e) λi e1 e=> ?_;refine eN (dL.mp e) λj e2 e=> ?_;rw[PV.asS_inv e1]at ra;rw[PV.asS_inv e2]at rb;refine Rd.str_on ra λt=> ?_;refine Rd.str_on rb λu=> ?_;exact k i j t u (si e)
theorem Mg{a b:PV}{V W:Value}{f:Bool->Bool}{c:Bool}{C:Prop}(e:Yc f a b=some c)(ra:eW G h ad a V)(rb:eW G h ad b W)(k:∀x,Rd h V x->Rd h W .none->f (isNone x)=c->C):C:=by refine eN (dL.mp e) λx e1 e=> ?_;refine eN (dL.mp e) λy e2 e=> ?_;rw[PV.asD_inv e1]at ra;rw[PV.asD_inv e2]at rb;refine oA (I6 e) λq e'=>k x ra ?_ e';cases y<;>first|exact mY q|exact rb
theorem rA{ys:List D}{c:Bool}(e:yM x ys=some c):AD ys=true/\ys.any (Sj x)=c:=I6 e
theorem yw{op:CmpOp}{a b:PV}{c:Bool}{V W:Value}
  (S:St G F ad σ s.heap)(hu:A.units+66<cLine)(e:gJ σ op a b=some c)(ra:eW G s.heap ad a V)(rb:eW G s.heap ad b W)
  (h:∀tk,Q (.bool c) { s with heap:=s.heap,toks:=tk }):wpAny (model G.prog G.w) A (compareOp op V W) Q E s:=by
 have h0:Q (.bool c) s:=h s.toks;cases op with
 |Eq=>
  cases q:a.asD with
  |some x=>
   refine eN (dL.mp (show b.asD.bind (l5 x)=some c by rw[<-e];unfold gJ Vo;dsimp only;rw[q])) λy e1 e2=> ?_;rw[PV.asD_inv q]at ra;rw[PV.asD_inv e1]at rb;have k:=I9 e2;clear e2 e1 q e h;rcases k with⟨p,q,rfl,rfl,rfl⟩|⟨p,q,rfl,rfl,rfl⟩|⟨h1,h2,rfl⟩
   ·refine Rd.str_on ra λt=> ?_;refine Rd.str_on rb λu=> ?_;exact PyProof.Rows.eq_str (by rw[vA];exact h0)
   ·refine Rd.int_on ra λt=> ?_;refine Rd.int_on rb λu=> ?_;exact PyProof.Rows.eq_int h0
   ·exact eq_dataH (Rd.reads ra) (Rd.reads rb) h1 h2 (VF hu) h0
  |none=>
   refine eN (dL.mp (show(dW σ a).bind _=some c by rw[<-e];unfold gJ Vo;dsimp only;rw[q])) λxs e1 e=> ?_;refine eN (dL.mp e) λys e2 e=> ?_;refine iJ (S.isL ra e1) λla ia ez1 l1 r1=> ?_;subst ez1;refine iJ (S.isL rb e2) λlb ib ez1 l2 r2=> ?_;subst ez1;have s1:ia.size=xs.length:=by rw[<-r1.length];simp
   have s2:ib.size=ys.length:=by rw[<-r2.length];simp
   unfold Tf at e;by_cases hn:(xs.length != ys.length)=true
   ·rw[cH hn]at e;replace e:=si e;subst e;exact eq_list_lengthsAt l1 l2 (by rw[s1,s2];exact hn) (VG hu) h0
   ·rw[cJ hn]at e;refine oA (I6 e) λhz e'=> ?_;clear e;subst e';have hz1:ia.size=0:=s1.trans hz;have hn':xs.length=ys.length:=by simpa using hn
    exact eq_listAt (e:=λ_=>true) l1 l2 (by rw[s1,s2];exact hn') (VG hu) (λj h1 _=>absurd h1 ((kI (.n (.t A2 A0)) [.e A0 A1,.e A1 (.k 0),.t A2 A0]) s1 hz h1)) (by simpa [hz1] using h0)
 |NotEq=>
  refine eN (dL.mp e) λx e1 e=> ?_;refine eN (dL.mp e) λy e2 e=> ?_;refine eN (fe.mp e) λd e' ez1=> ?_;clear e;subst ez1;rw[PV.asD_inv e1]at ra;rw[PV.asD_inv e2]at rb;have k:=I9 e';clear e' e1 e2 h;rcases k with⟨p,q,rfl,rfl,rfl⟩|⟨p,q,rfl,rfl,rfl⟩|⟨h1,h2,rfl⟩
  ·refine Rd.str_on ra λt=> ?_;refine Rd.str_on rb λu=> ?_;exact PyProof.Rows.ne_str (by show Q (.bool (!((⟨p.toArray⟩:Str) ==⟨q.toArray⟩))) s;rw[vA];exact h0)
  ·refine Rd.int_on ra λt=> ?_;refine Rd.int_on rb λu=> ?_;exact PyProof.Rows.ne_int h0
  ·exact ne_dataH (Rd.reads ra) (Rd.reads rb) h1 h2 (VF hu) h0
 |Lt=>exact cII_on e ra rb λi j t u q=>PyProof.Rows.lt_int (by rw[q];exact h0)
 |Gt=>exact cII_on e ra rb λi j t u q=>PyProof.Rows.gt_int (by rw[q];exact h0)
 |GtE=>exact cII_on e ra rb λi j t u q=>PyProof.Rows.ge_int (by rw[q];exact h0)
 |LtE=>
  have e:Ww a b=some c:=e;unfold Ww at e;by_cases q:a.asI.isSome
  ·rw[cH q]at e;exact cII_on e ra rb λi j t u q=>PyProof.Rows.le_int (by rw[q];exact h0)
  ·rw[cJ q]at e;exact cSS_on e ra rb λi j t u q=>P.le_str (by rw[q];exact h0)
 |In=>
  refine eN (dL.mp e) λx e1 e=> ?_;rw[PV.asS_inv e1]at ra;refine Rd.str_on ra λt=> ?_;unfold AE at e;split at e
  ·refine oA (rA e) λha e=> ?_;refine Rd.tup_on rb λl items hl r=> ?_
   exact in_tupleAt (CD x) hl (λy m=>rz r ha y (by simpa using m)) (by rw[<-nW,yv r ha,e];exact h0)
  ·refine Rd.str_on rb λu=> ?_;replace e:=si e;subst e;exact PyProof.Rows.in_str h0
  ·replace e:=si e;subst e;refine uM rb λl ps ez1 hm hd hc=> ?_;clear rb;subst ez1;refine wpAny_in_of (strKind_is _ _ _ _) hm (hd.keep S.base).mapOf ?_;rw[CE hc];exact h _
  ·refine eN (dL.mp e) λys e1 e=> ?_;refine oA (rA e) λha e=> ?_;refine iJ (S.isL rb e1) λl items ez1 hl r=> ?_;subst ez1
   exact in_listAt (CD x) hl (λy m=>rz r ha y (by simpa using m)) (by rw[<-nW,yv r ha,e];exact h0)
 |NotIn=>
  unfold gJ at e;dsimp only at e;by_cases q:Sk b=true
  ·rw[cH q]at e;exact eC e
  ·rw[cJ q]at e;refine eN (dL.mp e) λx e1 e=> ?_;rw[PV.asS_inv e1]at ra;refine Rd.str_on ra λt=> ?_;refine eN (fe.mp e) λd e' ez1=> ?_;clear e;subst ez1;unfold AE at e';split at e'
   ·refine oA (rA e') λha e=> ?_;refine Rd.tup_on rb λl items hl r=> ?_
    exact notIn_tupleAt (CD x) hl (λy m=>rz r ha y (by simpa using m)) (by rw[<-nW,yv r ha,e];exact h0)
   ·exact absurd rfl q
   ·exact absurd rfl q
   ·refine eN (dL.mp e') λys e1 e=> ?_;refine oA (rA e) λha e=> ?_;refine iJ (S.isL rb e1) λl items ez1 hl r=> ?_;subst ez1
    exact notIn_listAt (CD x) hl (λy m=>rz r ha y (by simpa using m)) (by rw[<-nW,yv r ha,e];exact h0)
 |Is=>
  refine Mg (f:=λx=>x) e ra rb λx ra rb e=> ?_;obtain rfl:=Rd.none_inv rb;refine is_none_gen ?_;rw[<-e]at h0;cases ra<;>exact h0
 |IsNot=>
  refine Mg (f:=λx=> !x) e ra rb λx ra rb e=> ?_;obtain rfl:=Rd.none_inv rb;refine isnot_none_gen ?_;rw[<-e]at h0;cases ra<;>exact h0
end
section
variable{f:Fm}{aa:List (Option PV)}
def rD(xs:List D):M PV:=λσ=>if xs.length<=eZ then some (.ok (.ref σ.length),σ++[.list xs])else none
theorem vB{r:R PV}(e:rD xs σ=some (r,σ')):xs.length<=eZ/\r= .ok (.ref σ.length)/\σ'=σ++[.list xs]:=by
 unfold rD at e;split at e
 ·refine Pg e ?_;clear e;intro ey ez;subst ey;subst ez;exact⟨by assumption,rfl,rfl⟩
 ·exact eC e
def ly(op:Operator)(a b:PV):M PV:=λσ=>match a,b with
 | .d x,.d y=>(sV op x y).map λz=>(.ok (.d z),σ)
 |v,w=>match op with
  | .Add=>(dW σ v).bind λxs=>(dW σ w).bind λys=>rD (xs++ys) σ
  |_=>none
def ir(op:CmpOp)(a b:PV):M Bool:=λσ=>(gJ σ op a b).map λc=>(.ok c,σ)
noncomputable def pX:PV->Option Bool
 | .d (.bool b)=>some b
 |_=>none
theorem jh:eZ<=sizeLine:=by unfold eZ;have:sizeLine=16777216:=rfl;exact(lE (.l (.k 4000000) A0) [.e A0 (.k 16777216)]) this
theorem Mh{prog:Program}{w:World}{l b:Addr}{items items2:Array Value}(hl:s.heap.IsList l items)(hb:s.heap.IsList b items2)(hsz:items.size+items2.size<=sizeLine)
  (h:Q (.ref s.heap.objs.size) { s with heap:=s.heap.push { cls:= .type "list",data:= .seq (items++items2) } }):wpAny (model prog w) A (binaryOp .Add (.ref l) (.ref b)) Q E s:=by
 refine Rs (id hl) λoz1 ho hc n hd=> ?_;obtain⟨cls,dd,data,sl⟩:=oz1;refine Rs (id hb) λoz1 ho2 hc2 n2 hd2=> ?_;obtain⟨cls2,dd2,data2,sl2⟩:=oz1;simp only at hc hd hc2 hd2;subst hc hd hc2 hd2;exact concat_meets ⟨_,ho,rfl⟩ ⟨_,ho2,rfl⟩ noFill_list_add seq_list_add PySem.F.slot_list_add PySem.F.entry_list_add (PySem.F.args_list_add_2 _ _) (list_addW l b items items2 n n2 dd dd2 sl sl2 hsz) ⟨ho,ho2,h⟩
theorem pe{l r:cP}{op:Operator}{ml mr:M PV}(hl:dR G n f aa l ml)(hr:dR G n f aa r mr):
  dR G n f aa (.BinOp l op r pos) (bnd ml λa=>bnd mr λb=>ly op a b):=by
 intro A ag Ls ad σ s Q E z σ' C S Lc e P;refine wpAny_BinOp (hl.thn C S Lc e P λa V h₁ tk₁ ak σ₁ ai ax ra am aj al=>hr.thn C ai am aj al λb W ar aE aD aG aq aB rb aK ao aA=> ?_);have ra:=ra.stepE ai aB;unfold ly at ao
 symm at ao
 ·rename_i x y;refine eN (fe.mp ao) λc az aF=> ?_;refine p1 aF ?_;clear aF;intro ey ez;subst ey;subst ez;exact Pt az ra rb C.hh λX tk rX=>aA.now aq rX tk
 ·split at ao
  ·refine eN (dL.mp ao) λxs h1 az=> ?_;refine eN (dL.mp az) λys h2 aF=> ?_;refine wD (vB aF) λhsz ez1 ez2=> ?_;subst ez1;subst ez2;refine iJ (aq.isL ra h1) λla ia ez1 l1 r1=> ?_;subst ez1;refine iJ (aq.isL rb h2) λlb ib ez1 l2 r2=> ?_;subst ez1;refine Mh l1 l2 ?_ ?_
   ·have:=r1.length;have:=r2.length;have:=jh;simp at *
    omega
   ·exact aA.newList aq (s:={ s with heap:=ar,toks:=aE }) (items:=ia++ib) 0 (by simpa using dD.append r2 r1) aE
  ·exact eC ao
theorem Tg{l r:cP}{op:CmpOp}{ml mr:M PV}(hl:dR G n f aa l ml)(hr:dR G n f aa r mr)(hm:behindInMarks op r=false):
  dR G n f aa (.Compare l [op] [r] pos) (bnd ml λa=>bnd mr λb=>bnd (ir op a b) λc=>ret (.d (.bool c))):=by
 intro A ag Ls ad σ s Q E z σ' C S Lc e P;refine wpAny_Compare1 (hl.thn C S Lc e P λa V h₁ tk₁ ak σ₁ ai ax ra am aj al=>hr.thn C ai am aj al λb W ar aE aD aG aq aB rb aK ao aA=> ?_) hm;have ra:=ra.stepE ai aB;rcases nG ao with⟨c,bs,az,aF⟩|⟨az,_⟩
 ·refine oA (ky aF) λez1 ez2=> ?_;subst ez1;subst ez2;refine eN (fe.mp az) λc' a7 aZ=> ?_;cases aZ;exact yw aq (by have:=C.hu;have:cLine=9900:=rfl;omega) a7 ra rb λtk=>aA.now aq (Rd.bool c) tk
 ·refine eN (fe.mp az) λc' a7 aZ=> ?_;cases aZ
theorem Th{l r:cP}{op:CmpOp}{ml mr:M PV}(hl:dR G n f aa l ml)(hr:dR G n f aa r mr)(hm:behindInMarks op r=false)(whole:Sem Value):
  I5 G n f aa (isTrue (.Compare l [op] [r] pos) f.env whole) (bnd ml λa=>bnd mr λb=>ir op a b) RB:=by
 intro A ag Ls ad σ s Q E z σ' C S Lc e P;refine wpAny_isTrue_Compare1 (hl.thn C S Lc e P λa V h₁ tk₁ ak σ₁ ai ax ra am aj al=>hr.thn C ai am aj al λb W ar aE aD aG aq aB rb aK ao aA=> ?_) hm;have ra:=ra.stepE ai aB;refine eN (fe.mp ao) λc' a7 aZ=> ?_;refine p1 aZ ?_;clear aZ;intro ey ez;subst ey;subst ez;exact yw aq (by have:=C.hu;have:cLine=9900:=rfl;omega) a7 ra rb λtk=>nS (aA.now aq rfl tk)
theorem pf(h:dR G n f aa e m)(he:∀whole,isTrue e f.env whole=(do let v <-whole;standAt e.pos;holding [v] (truthy v))):
  uN G n f aa e (bnd m λv=>lift (pX v)):=by
 intro A ag Ls ad σ s Q E z σ' C S Lc e P;refine isTrue_plain (h.thn C S Lc e P λa V h₁ tk₁ ak σ₁ ai ax ra am aj al=> ?_) (he _);refine ou (sU aj) λb ao ez1 ez2=> ?_;subst ez1;subst ez2;unfold pX at ao;split at ao
 ·replace ao:=sj ao;subst ao;refine Rd.bool_on ra ?_;exact nS (al.now ai rfl _)
 ·exact eC ao
theorem Ti{m:M Bool}(h:uN G n f aa e m)(whole:Sem Value):I5 G n f aa (isTrue (.UnaryOp .Not e pos) f.env whole) (bnd m λb=>ret (!b)) RB:=by intro A ag Ls ad σ s Q E z σ' C S Lc e P;refine isTrue_not (h.thn C S Lc e P λa V h₁ tk₁ ak σ₁ ai ax ra am aj al=> ?_);have al:=al.of_ret aj;subst ra;exact al.now ai rfl _
noncomputable def uO:List (M Bool)->M Bool
 |[]=>ret true
 |m::r=>bnd m λc=>match c with|true=>uO r|false=>ret false
noncomputable def LI:List (M Bool)->M Bool
 |[]=>ret false
 |m::r=>bnd m λc=>match c with|true=>ret true|false=>LI r
inductive BI (G:Gl) (n:Nat) (f:Fm) (aa:List (Option PV)):List cP->List (M Bool)->Prop
 |nil:BI G n f aa [] []
 |cons {e0 m0 es0 ms0}:uN G n f aa e0 m0->BI G n f aa es0 ms0->BI G n f aa (e0::es0) (m0::ms0)
theorem Tj(whole:Sem Value){ms:List (M Bool)}(x:BI G n f aa es ms):I5 G n f aa (isTrue (.BoolOp .And es pos) f.env whole) (uO ms) RB:=by
 induction x with
 |nil=>
  intro A ag Ls ad σ s Q E z σ' C S Lc e P;have P:=P.of_ret e;exact isTrue_and_nil (P.now S rfl s.toks)
 |cons h hs ih=>
  intro A ag Ls ad σ s Q E z σ' C S Lc e P;refine isTrue_and (h.thn C S Lc e P λa V h₁ tk₁ ak σ₁ ai ax ra am aj al=> ?_);subst ra;cases a with
  |true=>exact ih A ag Ls ak σ₁ _ _ _ _ _ C ai am aj al
  |false=>
   have al:=al.of_ret aj;exact al.now ai rfl _
theorem Wx(whole:Sem Value){ms:List (M Bool)}(x:BI G n f aa es ms):I5 G n f aa (isTrue (.BoolOp .Or es pos) f.env whole) (LI ms) RB:=by
 induction x with
 |nil=>
  intro A ag Ls ad σ s Q E z σ' C S Lc e P;have P:=P.of_ret e;exact isTrue_or_nil (P.now S rfl s.toks)
 |cons h hs ih=>
  intro A ag Ls ad σ s Q E z σ' C S Lc e P;refine isTrue_or (h.thn C S Lc e P λa V h₁ tk₁ ak σ₁ ai ax ra am aj al=> ?_);subst ra;cases a with
  |false=>exact ih A ag Ls ak σ₁ _ _ _ _ _ C ai am aj al
  |true=>
   have al:=al.of_ret aj;exact al.now ai rfl _
noncomputable def andV:List (M PV)->M PV
 |[]=>cU
 |[m]=>m
 |m::r=>bnd m λv=>match pX v with|some true=>andV r|some false=>ret v|none=>cU
noncomputable def orV:List (M PV)->M PV
 |[]=>cU
 |[m]=>m
 |m::r=>bnd m λv=>match pX v with|some true=>ret v|some false=>orV r|none=>cU
inductive jy (G:Gl) (n:Nat) (f:Fm) (aa:List (Option PV)):List cP->List (M PV)->Prop
 |nil:jy G n f aa [] []
 |cons {e0 m0 es0 ms0}:W.isStarred e0=false->dR G n f aa e0 m0->jy G n f aa es0 ms0->jy G n f aa (e0::es0) (m0::ms0)
theorem EN{v:PV}{V:Value}{c:Bool}(e:pX v=some c)(r:eW G h ad v V):v= .d (.bool c)/\V= .bool c:=by
 unfold pX at e;split at e
 ·replace e:=sj e;subst e;exact⟨rfl,Rd.bool_inv r⟩
 ·exact eC e
theorem Tl(x:jy G n f aa es ms):dR G n f aa (.BoolOp .And es pos) (andV ms):=by
 induction x with
 |nil=>intro A ag Ls ad σ s Q E z σ' C S Lc e P;exact eC e
 |cons h0 h hs ih=>
  intro A ag Ls ad σ s Q E z σ' C S Lc e P;cases hs with
  |nil=>exact BoolOp_one (h A ag Ls ad σ s Q E z σ' C S Lc e P)
  |cons h1 h2 h3=>
  refine BoolOp_and (h.thn C S Lc e P λa V h₁ tk₁ ak σ₁ ai ax ra am aj al=> ?_);cases q:pX a with
  |none=>simp only[q]at aj;exact eC aj
  |some c=>
   refine oA (EN q ra) λez1 ez2=> ?_;subst ez1;subst ez2;cases c with
   |true=>
    simp only[q]at aj;exact nS (ih A ag Ls ak σ₁ _ _ _ _ _ C ai am aj al)
   |false=>
    simp only[q]at aj;have al:=al.of_ret aj;exact nS (al.now ai ra _)
theorem Wy(x:jy G n f aa es ms):dR G n f aa (.BoolOp .Or es pos) (orV ms):=by
 induction x with
 |nil=>intro A ag Ls ad σ s Q E z σ' C S Lc e P;exact eC e
 |cons h0 h hs ih=>
  intro A ag Ls ad σ s Q E z σ' C S Lc e P;cases hs with
  |nil=>exact BoolOp_one (h A ag Ls ad σ s Q E z σ' C S Lc e P)
  |cons h1 h2 h3=>
  refine BoolOp_or (h.thn C S Lc e P λa V h₁ tk₁ ak σ₁ ai ax ra am aj al=> ?_);cases q:pX a with
  |none=>simp only[q]at aj;exact eC aj
  |some c=>
   refine oA (EN q ra) λez1 ez2=> ?_;subst ez1;subst ez2;cases c with
   |false=>
    simp only[q]at aj;exact nS (ih A ag Ls ak σ₁ _ _ _ _ _ C ai am aj al)
   |true=>
    simp only[q]at aj;have al:=al.of_ret aj;exact nS (al.now ai ra _)
theorem Tm{t a b:cP}{mt:M Bool}{ma mb:M PV}(ht:uN G n f aa t mt)(ha:dR G n f aa a ma)(hb:dR G n f aa b mb):dR G n f aa (.IfExp t a b pos) (bnd mt λc=>match c with|true=>ma|false=>mb):=by
 intro A ag Ls ad σ s Q E z σ' C S Lc e P;refine IfExp_ (ht.thn C S Lc e P λc V h₁ tk₁ ak σ₁ ai ax rc am aj al=> ?_);subst rc;cases c with
 |true=>exact ha A ag Ls ak σ₁ _ _ _ _ _ C ai am aj al
 |false=>exact hb A ag Ls ak σ₁ _ _ _ _ _ C ai am aj al
noncomputable def Mi:PV->Option PV
 | .d (.int i)=>some (.d (.int (-i)))
 |_=>none
theorem Tn(h:dR G n f aa e m):dR G n f aa (.UnaryOp .USub e pos) (bnd m λv=>lift (Mi v)):=by
 intro A ag Ls ad σ s Q E z σ' C S Lc e P;refine wpAny_UnaryOp (h.thn C S Lc e P λc V h₁ tk₁ ak σ₁ ai ax rc am aj al=> ?_);refine ou (sU aj) λw ao ez1 ez2=> ?_;subst ez1;subst ez2;unfold Mi at ao;split at ao
 ·replace ao:=si ao;subst ao;refine Rd.int_on rc λt=> ?_;exact PyProof.Rows.neg_int (al.now ai (Rd.int ..) _)
 ·exact eC ao
noncomputable def ja:List (M PV)->M (List PV)
 |[]=>ret []
 |m::r=>bnd m λv=>bnd (ja r) λvs=>ret (v::vs)
theorem eb{rest:List cP}{env:Env}(h:W.isStarred e=false):starEach (e::rest) env=(false,eval e env)::starEach rest env:=by cases e<;>first|rfl|exact Yl h
theorem oQ(x:jy G n f aa es ms):I5 G n f aa (spliced (backTo pos (starEach es f.env))) (ja ms) (jA G):=by
 induction x with
 |nil=>
  intro A ag Ls ad σ s Q E z σ' C S Lc e P;have P:=P.of_ret e;exact args_nil (P.now S (a:=[]) trivial s.toks)
 |cons h0 h hs ih=>
  intro A ag Ls ad σ s Q E z σ' C S Lc e P;refine args_cons (h.thn C S Lc e P λa V h₁ tk₁ ak σ₁ ai ax ra am aj al=>ih.thn C ai am aj al λb W ar aE aD aG aq aB rb aK ao aA=> ?_) (eb h0);have aA:=aA.of_ret ao;exact aA.now aq (a:=V::W) ⟨ra.stepE ai aB,rb⟩ _
noncomputable def qK:List PV->Option (List D)
 |[]=>some []
 | .d x::r=>(qK r).map (x::·)
 |_::_=>none
theorem EO:∀{Vs:List Value}{xs:List D},qK vs=some xs->jA G h ad vs Vs->dD h Vs xs:=by
 induction vs with
 |nil=>intro Vs xs e r;cases Vs with
  |nil=>exact si e▸.nil
  |cons V Vs=>exact r.elim
 |cons v r ih=>intro Vs xs e k;cases v with
  |d x=>cases Vs with
   |nil=>exact k.elim
   |cons V Vs=>exact eN (fe.mp e) λys e1 e2=>e2▸.cons k.1 (ih e1 k.2)
  |_=>exact eC e
def EP(vs:List PV):M PV:=λσ=>(qK vs).bind λxs=>if xs.length<=eZ then some (.ok (.d (.tup xs)),σ)else none
def G5(vs:List PV):M PV:=λσ=>(qK vs).bind λxs=>rD xs σ
theorem fN(h:Heap):h.get? h.objs.size=none:=by
 cases q:h.get? h.objs.size with
 |none=>rfl
 |some x=>exact absurd (kH q) (Nat.lt_irrefl _)
theorem Mj{k:Nat}(h:jy G n f aa es ms):dR G n f aa (.Tuple es k pos) (bnd (ja ms) EP):=by
 intro A ag Ls ad σ s Q E z σ' C S Lc e P;refine wpAny_Tuple ((oQ h).thn C S Lc e P λa V h₁ tk₁ ak σ₁ ai ax ra am aj al=> ?_);refine eN (dL.mp aj) λxs ao az=> ?_
 symm at az
 ·rename_i hz;refine Ph az ?_;clear az;intro ey ez;subst ey;subst ez;have r:=EO ao ra;have hl:=r.length;refine⟨by have:=jh;exact X9 hz hl this,?_⟩;have k:∀b x,h₁.get? b=some x->(h₁.push { cls:= .type "tuple",data:= .seq V.toArray }).get? b=some x:=λb x e=>fc _ e;refine al.made ai (h':=h₁.push { cls:= .type "tuple",data:= .seq V.toArray }) k ?_ tk₁
  exact Rd.mkTup ⟨_,gP _ rfl,rfl,0,rfl⟩ (by
   have:dD _ V xs:=dD.keep (ai.tupKeep (λa m=> .inl m) (dE.of_keep (F:=f.L::Ls) (ad:=ak) k)) r
   simpa using this)
 ·exact eC az
theorem To(h:jy G n f aa es ms):dR G n f aa (.List es pos) (bnd (ja ms) G5):=by intro A ag Ls ad σ s Q E z σ' C S Lc e P;refine wpAny_List ((oQ h).thn C S Lc e P λa V h₁ tk₁ ak σ₁ ai ax ra am aj al=> ?_);refine eN (dL.mp aj) λxs ao az=> ?_;refine wD (vB az) λhz ez1 ez2=> ?_;subst ez1;subst ez2;have r:=EO ao ra;have hl:=r.length;refine⟨by have:=jh;exact X9 hz hl this,?_⟩;exact al.newList ai (s:={ s with heap:=h₁,toks:=tk₁ }) (items:=V.toArray) 0 (by simpa using r) tk₁
end
end
section
open PySem.Calls PySem.Spec PySem.SeqAt PySem.Builtin.Str PyProof.Rows
section
variable{f:Fm}{aa:List (Option PV)}
noncomputable def cut(lo hi:Option Int)(xs:List α):List α:=(xs.drop (lo.elim 0 (clipAt xs.length))).take (hi.elim xs.length (clipAt xs.length) -lo.elim 0 (clipAt xs.length))
theorem Mk(lo hi:Option Int)(n:Nat):strSliceIndices lo hi 1 n=(List.range (hi.elim n (clipAt n) -lo.elim 0 (clipAt n))).map (lo.elim 0 (clipAt n)+·):=by
 rw[<-sliceRange_one];have h1:(1:Int) > 0:=by exact(pQ:Pn [] (.S (.k 0) (.k 1)) [])
 unfold strSliceIndices;simp only[h1,if_true];cases lo<;>cases hi<;>simp only[Option.elim,clipAt_cast]<;>rfl
theorem Pv(x:Str)(lo hi:Option Int):(strSliceIndices lo hi 1 x.length).filterMap (x.cps[·]?)=cut lo hi x.cps.toList:=by rw[Mk,pick_run];unfold cut;simp[Str.length]
theorem CG(v:Int)(n:Nat):(if v<0 then max (v+n) 0 else min v n)=((clipAt n v:Nat):Int):=by
 rw[clipAt_cast];by_cases h:v<0
 ·rw[cH h,cH h];exact(pI:Qn [n] [v] (.E (.ma (.a (.v 0) (.c A0)) (.k 0)) (.ma (.k 0) (.mi (.a (.v 0) (.c A0)) (.c A0)))) [.S (.v 0) (.k 0)]) h
 ·rw[cJ h,cJ h];exact(pI:Qn [n] [v] (.E (.mi (.v 0) (.c A0)) (.ma (.k 0) (.mi (.v 0) (.c A0)))) [.n (.S (.v 0) (.k 0))]) h
theorem G6(lo hi:Option Int)(n:Nat):Builtin.Slice.sliceAdjust lo hi 1 (n:Int)=(((lo.elim 0 (clipAt n):Nat):Int),((hi.elim n (clipAt n):Nat):Int)):=by cases lo<;>cases hi<;>first|exact rfl|exact Prod.ext rfl (CG ..)|exact Prod.ext (CG ..) rfl|exact Prod.ext (CG ..) (CG ..)
theorem G7(a b:Nat):Builtin.Slice.slicePlaces (a:Int) (b:Int) 1=b -a:=by
 unfold Builtin.Slice.slicePlaces;have h1:(1:Int) > 0:=by exact(pQ:Pn [] (.S (.k 0) (.k 1)) [])
 simp only[h1,if_true,Int.ediv_one];split<;>omega
section
variable{prog:Program}{w:World}
theorem ut{V:Value}{o:Option Int}{Q:Option Int->Shared->Prop}(p:IsPart V o)(h:Q o s):wpAny (model prog w) A (Builtin.Slice.slicePartIndex V) Q E s:=by
 cases p with
 |none=>exact slicePart_none h
 |int i t=>exact slicePart_int h
theorem wN{sl:Addr}{m:Nat}{vl vu:Value}{lo hi:Option Int}{Q:Int×Int×Nat->Shared->Prop}(hs:s.heap.IsSliceOf sl vl vu .none)(pl:IsPart vl lo)(pu:IsPart vu hi)
  (h:Q (((lo.elim 0 (clipAt m):Nat):Int),1,hi.elim m (clipAt m) -lo.elim 0 (clipAt m)) s):
  wpAny (model prog w) A (Builtin.Slice.sliceApplied (.ref sl) (pure (m:Int))) Q E s:=by
 refine ou (id hs) λos hos hcs hds=> ?_;unfold Builtin.Slice.sliceApplied Builtin.Slice.sliceFields;refine cQ (cQ (wpAny_field hos hds (x:=vl) rfl (cQ (wpAny_field hos hds (x:=vu) rfl (cQ (wpAny_field hos hds (x:= .none) rfl (dc ?_)))))));refine cQ (slicePart_none ?_);show wpAny _ _ (if((1:Int) == 0)=true then _ else _) _ _ s;rw[cJ (by decide)];refine cQ (ut pl (cQ (ut pu (cQ (dc ?_)))));show wpAny _ _ (match Builtin.Slice.sliceAdjust lo hi 1 (m:Int)with|(lo,hi)=>pure (lo,(1:Int),Builtin.Slice.slicePlaces lo hi 1)) _ _ s
 rw[G6];show wpAny _ _ (pure (((lo.elim 0 (clipAt m):Nat):Int),(1:Int),Builtin.Slice.slicePlaces ((lo.elim 0 (clipAt m):Nat):Int) ((hi.elim m (clipAt m):Nat):Int) 1)) _ _ s;rw[G7];exact dc h
theorem vC{t sl:Addr}{items:Array Value}{vl vu:Value}{lo hi:Option Int}(ht:IsTup s.heap t items)(hs:s.heap.IsSliceOf sl vl vu .none)(pl:IsPart vl lo)(pu:IsPart vu hi)
  (h0:(cut lo hi items.toList).length<items.size)
  (h:Q (.ref s.heap.objs.size) { s with heap:=s.heap.push { cls:= .type "tuple",data:= .seq (cut lo hi items.toList).toArray } })
  (hsz:items.size<=sizeLine):wpAny (model prog w) A (getItem (.ref t) (.ref sl)) Q E s:=by
 have hcut:sizeOk (.seq (cut lo hi items.toList).toArray):=by show(cut lo hi items.toList).toArray.size<=sizeLine;unfold cut;rw[ro,List.length_take,mh,kG];exact(BC (.l (.mi (.s A3 A4) (.s A1 A4)) A2) [.t A0 A1,.l A1 A2]) h0 hsz
 refine ou (id hs) λos hos hcs hds=> ?_;have hTs:s.TypeIs (.ref sl) "slice":=⟨os,hos,hcs⟩;unfold getItem
 try with_reducible refine kb ?_
 first|refine cQ (dc ?_)|skip
 refine cQ (wpAny_sequenceKey ht.typeIs (by decide) ?_)
 refine cQ (wpAny_callSpecial?_slot (name:=Str.ofString "__getitem__") ht.typeIs slot_tuple_getitem
  (wpAny_call_entry slot_tuple_getitem ht.typeIs entry_tuple_getitem ?_ (args_tuple_getitem _ _)))
 show wpAny _ _ (Builtin.Tuple.tupleItemsOf (.ref t) >>= _) _ _ s;refine cQ (tupleItemsOf_ ht ?_);refine cQ (wpAny_typeOf hTs ?_);rw[cH (by decide)];refine cQ (wN hs pl pu ?_);generalize ha:lo.elim 0 (clipAt items.size)=a;generalize hb:hi.elim items.size (clipAt items.size)=b;have ec:cut lo hi items.toList=(items.toList.drop a).take (b -a):=by unfold cut;rw[kG,ha,hb]
 have e:(λ(k:Nat)=>items[((a:Int)+(k:Int) * 1).toNat]?)=λk=>items[a+k]? :=by
  funext k;have:((a:Int)+(k:Int) * 1).toNat=a+k:=by omega
  rw[this]
 have ep:((List.range (b -a)).filterMap λ(k:Nat)=>items[((a:Int)+(k:Int) * 1).toNat]?).toArray=(cut lo hi items.toList).toArray:=by rw[e,ec];have:=pick_run items a (b -a);rw[List.filterMap_map]at this;have e2:((λx=>items[x]?) ∘ λx=>a+x)=λk=>items[a+k]? :=rfl;rw[e2]at this;rw[this]
 show wpAny _ _ (if((a:Int) == 0 &&(1:Int) == 1 &&(b -a) == items.size)=true then _ else _) _ _ s
 have hw:¬((a:Int) == 0 &&(1:Int) == 1 &&(b -a) == items.size)=true:=λhw=>by simp only[ej,kc]at hw;have ha0:a=0:=(kI (.e A0 (.k 0)) [.c (.E (.c A0) (.k 0)) (.e (.s A1 A0) A2)]) ⟨hw.1.1,hw.2⟩;rw[ec,ha0]at h0;rw[ha0]at hw;simp at h0 hw;exact(ie (.f) [.t (.mi A0 A1) A1,.e A0 A1]) h0 hw
 rw[cJ hw,ep]
 first
  |exact cQ (m:=Builtin.Tuple.tupleExact _) (wpAny_newObj_type (dc ⟨_,rfl,dc h⟩) hcut)
  |exact cQ (m:=Builtin.Tuple.tupleExact _) (wpAny_newObj_type (cQ (dc (dc ⟨_,rfl,dc h⟩))) hcut)
  |exact cQ (cQ (m:=Builtin.Tuple.tupleExact _) (wpAny_newObj_type (dc (dc ⟨_,rfl,dc h⟩)) hcut))
  |exact cQ (cQ (m:=Builtin.Tuple.tupleExact _) (wpAny_newObj_type (dc ⟨_,rfl,dc h⟩) hcut))
end
def uu:Option (M PV)->M (Option Int)
 |none=>ret none
 |some m=>bnd m λv=>match v with| .d (.int i)=>ret (some i)|_=>cU
inductive Kl (G:Gl) (n:Nat) (f:Fm) (aa:List (Option PV)):Option cP->Option (M PV)->Prop
 |none:Kl G n f aa none none
 |some {e0 m0}:dR G n f aa e0 m0->Kl G n f aa (some e0) (some m0)
theorem Ja{x:Option cP}{m:Option (M PV)}(h:Kl G n f aa x m):I5 G n f aa (evalPart x f.env) (uu m) (λ_ _ o V=>IsPart V o):=by
 intro A ag Ls ad σ s Q E z σ' C S Lc e P;cases h with
 |none=>(refine oA (ky e) λez1 ez2=> ?_;subst ez1;subst ez2);exact dc (P.now S IsPart.none s.toks)
 |some h=>
  refine h.thn C S Lc e P λv V h₁ tk₁ ak σ₁ ai ax rv am aj al=> ?_;split at aj
  ·have al:=al.of_ret aj;refine Rd.int_on rv λt=> ?_;exact al.now ai (IsPart.int ..) tk₁
  ·exact eC aj
def wQ(v:PV)(lo hi:Option Int):M PV:=λσ=>match v with
 | .d (.str s)=>if(cut lo hi s).length<=jP then some (.ok (.d (.str (cut lo hi s))),σ)else none
 | .d (.tup xs)=>if xs.length<=eZ/\(cut lo hi xs).length<xs.length then some (.ok (.d (.tup (cut lo hi xs))),σ)else none
 |v=>(dW σ v).bind λxs=>if xs.length<=eZ then rD (cut lo hi xs) σ else none
theorem dD.cut{h:Heap}{vs:List Value}{xs:List D}(r:dD h vs xs)(lo hi:Option Int):dD h (Internal.cut lo hi vs) (Internal.cut lo hi xs):=by unfold Internal.cut;rw[r.length];exact(r.drop _).take _
theorem AF{vl vu:Value}{lo hi:Option Int}(pl:IsPart vl lo)(pu:IsPart vu hi):∃l u:Option (Int×Tok),vl=partValue l/\vu=partValue u/\l.map (·.1)=lo/\u.map (·.1)=hi:=by
 have key:∀{V:Value}{o:Option Int},IsPart V o->∃l:Option (Int×Tok),V=partValue l/\l.map (·.1)=o:=λp=>by
  cases p with
  |none=>exact⟨none,rfl,rfl⟩
  |int i t=>exact⟨some (i,t),rfl,rfl⟩
 refine eN (key pl) λl a b=> ?_;refine eN (key pu) λu c d=> ?_;exact⟨l,u,a,c,b,d⟩
theorem yN{str:List Nat}{t:Tok}{l u:Option (Int×Tok)}(h0:cut (l.map (·.1)) (u.map (·.1)) str=str->Q (.str ⟨str.toArray⟩ t) s)(hz:(cut (l.map (·.1)) (u.map (·.1)) str).length<=4000000)
  (h1:Q (.str ⟨(cut (l.map (·.1)) (u.map (·.1)) str).toArray⟩ s.toks) { s with toks:=s.toks+1 }):(sliceMade ⟨str.toArray⟩ t l u none).post Q s:=by
 have hx:=Pv ⟨str.toArray⟩ (l.map (·.1)) (u.map (·.1))
 have hy:=Mk (l.map (·.1)) (u.map (·.1)) str.length
 have e5:(slicePicked ⟨str.toArray⟩ l u none).filterMap ((⟨str.toArray⟩:Str).cps[·]?)=cut (l.map (·.1)) (u.map (·.1)) str:=hx
 have e6:(slicePicked ⟨str.toArray⟩ l u none).length=(u.map (·.1)).elim str.length (clipAt str.length) - (l.map (·.1)).elim 0 (clipAt str.length):=by
  show(strSliceIndices (l.map (·.1)) (u.map (·.1)) 1 str.toArray.size).length=_
  rw[ro,hy];simp
 unfold sliceMade;rw[e5,e6]
 set_option tactic.hygienic true in split
 ·rename_i hw;refine h0 ?_;have hh:(u.map (·.1)).elim str.length (clipAt str.length) - (l.map (·.1)).elim 0 (clipAt str.length)=str.length:=by simpa [Str.length] using hw
  unfold cut
  have hb:(u.map (·.1)).elim str.length (clipAt str.length)<=str.length:=by
   cases u with
   |none=>exact ip _
   |some i=>show clipAt _ _<=_;unfold clipAt;omega
  rw[hh];have ha:(l.map (·.1)).elim 0 (clipAt str.length)=0\/str.length=0:=(lx (.o (.e A2 (.k 0)) (.e A3 (.k 0))) [.e A0 (.s A1 A2),.e (.s A1 A2) A3,.l A1 A3]) e6 hh hb
  rcases ha with ha|ha
  ·rw[ha];simp
  ·have:str=[]:=List.eq_nil_of_length_eq_zero ha;subst this;simp
 ·refine⟨?_,h1⟩;have:sizeLine=16777216:=rfl;show(cut (l.map (·.1)) (u.map (·.1)) str).toArray.size<=sizeLine
  simp;exact(ie (.l A0 A1) [.l A0 (.k 4000000),.e A1 (.k 16777216)]) hz this
theorem Tp{lower upper:Option cP}{p:Pos}{ml mu:Option (M PV)}(h:dR G n f aa e m)(hl:Kl G n f aa lower ml)(hu:Kl G n f aa upper mu):
  dR G n f aa (.Subscript e (.Slice lower upper none p) pos) (bnd m λv=>bnd (uu ml) λlo=>bnd (uu mu) λhi=>wQ v lo hi):=by
 intro A ag Ls ad σ s Q E z σ' C S Lc er P
 refine Subscript_ (h.thn C S Lc er P λv V h₁ tk₁ ak σ₁ ai ax rv am aj al=>wpAny_Slice ((Ja hl).thn C ai am aj al λlo VL ar aE aD aG aq aB rl aK ao aA=>
  (Ja hu).thn C aq aK ao aA λhi VU au aH aI bs ay aC ru bj az aM=>dc ?_))
 have rv:=(rv.stepE ai aB).stepE aq aC;clear P al aA er aj ao Lc am aK bj ax aB aC;have hps:∀(o:Obj),∀b x,au.get? b=some x->(au.push o).get? b=some x:=λo b x e=>fc _ e;unfold wQ at az
 symm at az
 ·rename_i str _
  symm at az
  ·rename_i hz;refine Ph az ?_;clear az;intro ey ez;subst ey;subst ez;refine Rd.str_on rv λt=> ?_;refine uM (AF rl ru) λl u ez1 ez2 el eu=> ?_;subst ez1;subst ez2;refine tail_any (typeIs_str _ _ _) slot_str_getitem.lookup (wpAny_getItem_str_slice (l:=l) (u:=u) (st:=none) ⟨_,gP _ rfl,rfl,rfl⟩ rfl ?_) (ops:=[.ref au.objs.size,.str ⟨str.toArray⟩ t]) rfl;subst el eu;refine yN (λhw=> ?_) (by unfold jP at hz;exact hz) ?_
   ·refine aM.made ay (h':=au.push _) (hps _) (a:= .str ⟨str.toArray⟩ t) ?_ aH;show Rd _ _ (.str (Internal.cut _ _ str));rw[hw];exact Rd.mkStr str t
   ·exact aM.made ay (h':=au.push _) (hps _) (a:= .str ⟨(Internal.cut _ _ str).toArray⟩ aH) (Rd.mkStr _ _) _
  ·exact eC az
 ·rename_i xs _
  symm at az
  ·rename_i hz;refine Ph az ?_;clear az;intro ey ez;subst ey;subst ez;refine Rd.tup_on rv λa items ht r=> ?_;have hlen:items.size=xs.length:=by rw[<-r.length];simp
   have ht':IsTup (au.push { cls:= .type "slice",data:= .fields #[VL,VU,.none] }) a items:=by refine eN ht λo h1 h2=> ?_;clear ht;exact⟨o,hps _ _ _ h1,h2⟩
   have rk:∀o:Obj,dD (au.push o) items.toList xs:=λo=>dD.keep (ay.tupKeep (λa m=> .inl m) (dE.of_keep (F:=f.L::Ls) (ad:=aI) (hps o))) r;refine tail_any ht'.typeIs slot_tuple_getitem.lookup (vC ht' ⟨_,gP _ rfl,rfl,rfl⟩ rl ru ?_ ?_ (by have:=jh;exact(BC (.l A3 A4) [.c (.l A0 A1) (.t A2 A0),.e A3 A0,.l A1 A4]) hz hlen this)) (ops:=[.ref au.objs.size,.ref a]) rfl
   ·rw[((rk { cls:= .type "slice",data:= .fields #[VL,VU,.none] }).cut lo hi).length,hlen];exact hz.2
   ·have hps2:∀b x,au.get? b=some x->((au.push { cls:= .type "slice",data:= .fields #[VL,VU,.none] }).push { cls:= .type "tuple",data:= .seq (Internal.cut lo hi items.toList).toArray }).get? b=some x:=λb x e=>fc _ (hps _ b x e);refine aM.made ay (h':=(au.push _).push _) hps2 (a:= .ref (au.push { cls:= .type "slice",data:= .fields #[VL,VU,.none] }).objs.size) ?_ aH;show Rd _ _ (.tup (Internal.cut lo hi xs));refine Rd.mkTup ⟨_,gP _ rfl,rfl,0,rfl⟩ ?_;have:=(dD.keep (ay.tupKeep (λa m=> .inl m) (dE.of_keep (F:=f.L::Ls) (ad:=aI) hps2)) r).cut lo hi
    simpa using this
  ·exact eC az
 ·refine eN (dL.mp az) λxs hg aF=> ?_
  symm at aF
  ·rename_i hz;refine wD (vB aF) λhsz ez1 ez2=> ?_;subst ez1;subst ez2;refine iJ (ay.isL rv hg) λa items ez1 hlst r=> ?_;subst ez1;have hlen:items.size=xs.length:=by rw[<-r.length];simp
   have hl':(au.push { cls:= .type "slice",data:= .fields #[VL,VU,.none] }).IsList a items:=by refine eN hlst λo h1 h2=> ?_;clear hlst;exact⟨o,hps _ _ _ h1,h2⟩
   refine tail_any hl'.typeIs slot_list_getitem.lookup (wpAny_getItem_list_slice hl' ⟨_,gP _ rfl,rfl,rfl⟩ rl ru IsPart.none (by simp) ?_ (by have:=jh;exact X9 hz hlen this)) (ops:=[.ref au.objs.size,.ref a]) rfl;rw[slicePick_plain];have aX:=ay.of_keep (hps { cls:= .type "slice",data:= .fields #[VL,VU,.none] });have aQ:dE (f.L::Ls) aI aI au _:=dE.of_keep (hps { cls:= .type "slice",data:= .fields #[VL,VU,.none] });have a8:=aM.after (h₁:=au.push { cls:= .type "slice",data:= .fields #[VL,VU,.none] }) (tk₁:=aH) aQ;refine a8.newList aX (s:={ s with heap:=au.push { cls:= .type "slice",data:= .fields #[VL,VU,.none] },toks:=aH }) 0 ?_ aH
   have rk:dD (au.push { cls:= .type "slice",data:= .fields #[VL,VU,.none] }) items.toList xs:=dD.keep (ay.tupKeep (λa m=> .inl m) aQ) r;have:=rk.cut lo hi;unfold Internal.cut at this ⊢
   simpa [hlen] using this
  ·exact eC aF
end
section
variable{f:Fm}{aa:List (Option PV)}
noncomputable def qL:cP->Bool
 | .Slice .. =>false
 |_=>true
theorem qf{slice:cP}(h:qL slice=true)(o i:Value):subscripted slice false o i=operate [o,i] (getItem o i):=by cases slice<;>first|rfl|exact mY h
noncomputable def mx{α:Type}(x:List Nat):List (List Nat×α)->Option α
 |[]=>none
 |kv::r=>if kv.1=x then some kv.2 else mx x r
theorem vD{v:PV}:∀{ps:List (Str×Value)}{kvs:List (List Nat×PV)},ow G h ad ps kvs->mx x kvs=some v->∃V,valueAt ps ⟨x.toArray⟩=some V/\eW G h ad v V:=by
 intro l1
 induction l1 with
 |nil=>intro l2;cases l2 with
  |nil=>exactλ_ e=>(by exact eC e)
  |cons _ _=>exactλhx _=>hx.elim
 |cons p ps ih=>intro l2;cases l2 with
  |nil=>exactλhx _=>hx.elim
  |cons kv kvs=>
    intro hx e;obtain⟨h1,h2,h3⟩:=hx;unfold mx at e;unfold valueAt;rw[List.find?_cons];by_cases q:kv.1=x
    ·rw[cH q]at e;replace e:=si e;subst e;have:(decide (p.1=⟨x.toArray⟩))=true:=by rw[h1,q];simp
     rw[this];exact⟨_,rfl,h2⟩
    ·rw[cJ q]at e
     have:(decide (p.1=⟨x.toArray⟩))=false:=by rw[h1];exact ft λz=>q (by injection z with z;simpa using dN Array.toList z)
     rw[this];exact ih h3 e
theorem qx{h:Heap}{x:List Nat}{v:D}:∀{ps:List (Str×Value)}{kvs:List (List Nat×D)},Ki h ps kvs->mx x kvs=some v->∃V,valueAt ps ⟨x.toArray⟩=some V/\Rd h V v
 |[],[],_,e=>by exact eC e
 |p::ps,kv::kvs,⟨h1,h2,h3⟩,e=>by
  unfold mx at e;unfold valueAt;rw[List.find?_cons];by_cases q:kv.1=x
  ·rw[cH q]at e;replace e:=si e;subst e;have:(decide (p.1=⟨x.toArray⟩))=true:=by rw[h1,q];simp
   rw[this];exact⟨_,rfl,h2⟩
  ·rw[cJ q]at e
   have:(decide (p.1=⟨x.toArray⟩))=false:=by rw[h1];exact ft λz=>q (by injection z with z;simpa using dN Array.toList z)
   rw[this];exact qx h3 e
noncomputable def lW(σ:List MO):PV->Option (List (List Nat×PV))
 | .ref k=>match σ[k]? with
  |some (.dict kvs)=>some kvs
  |_=>none
 |_=>none
def gZ(σ:List MO)(v i:PV):Option PV:=match i with
 | .d (.int k)=>if k.natAbs<2 ^ 40 then(match v with
  | .d (.tup xs)=>(seqIndex? k xs.length).bind λj=>xs[j]?.map .d
  | .d (.str s)=>(seqIndex? k s.length).bind λj=>s[j]?.map λc=> .d (.str [c])
  |v=>(dW σ v).bind λxs=>(seqIndex? k xs.length).bind λj=>xs[j]?.map .d)else none
 | .d (.str x)=>match v with
  | .cd kvs=>(mx x kvs).map .d
  |v=>(lW σ v).bind (mx x)
 |_=>none
theorem AG{k:Int}{m j:Nat}(e:seqIndex? k m=some j)(h:0<=k):k.toNat=j/\j<m:=by
 have hk:¬ k<0:=(pI:Qn [] [_] (.n (.S (.v 0) (.k 0))) [.L (.k 0) (.v 0)]) h;simp only[seqIndex?,hk,if_false]at e
 symm at e
 ·rename_i q;replace e:=si e;subst e;simp only[ej,decide_eq_true_eq]at q;exact Yu h q
 ·exact eC e
theorem G8{k:Int}{m j:Nat}(e:seqIndex? k m=some j)(h:k<0):(k+m).toNat=j/\ -(m:Int)<=k:=by
 simp only[seqIndex?,h,if_true]at e
 symm at e
 ·rename_i q;replace e:=si e;subst e;simp only[ej,decide_eq_true_eq]at q;exact Yt q
 ·exact eC e
theorem qM{items:Array Value}{j:Nat}{x:D}(r:dD h items.toList xs)(e:xs[j]? =some x):∃V,items[j]? =some V/\Rd h V x:=by refine eN (r.get e) λV h1 h2=> ?_;exact⟨V,by simpa using h1,h2⟩
theorem G9{v i r:PV}{V I:Value}(S:St G F ad σ s.heap)(e:gZ σ v i=some r)(rv:eW G s.heap ad v V)(ri:eW G s.heap ad i I)
  (h:∀X tk,eW G s.heap ad r X->Q X { s with heap:=s.heap,toks:=tk }):∃T id,s.TypeIs V T/\typeLookup (.type T) "__getitem__"=pure (some (.builtin id))/\wpAny (model G.prog G.w) A (getItem V I) Q E s:=by
 unfold gZ at e
 symm at e
 ·rename_i k;refine Rd.int_on ri λt=> ?_
  symm at e
  ·rename_i hk;split at e
   ·refine eN (dL.mp e) λj e1 e2=> ?_;refine eN (fe.mp e2) λx e3 ez1=> ?_;subst ez1;refine Rd.tup_on rv λa items ht rr=> ?_;refine eN (qM rr e3) λX e4 rX=> ?_;have hlen:=rr.length;rw[kG]at hlen;exact⟨_,_,ht.typeIs,slot_tuple_getitem.lookup,PyProof.Rows.getItem_tuple ht (VH hk) (VJ hk) (by rw[hlen];exact e1) e4 (h X s.toks rX)⟩
   ·refine eN (dL.mp e) λj e1 e2=> ?_;refine eN (fe.mp e2) λc e3 ez1=> ?_;subst ez1;refine Rd.str_on rv λu=> ?_;refine⟨_,_,typeIs_str _ _ _,slot_str_getitem.lookup,PyProof.Rows.getItem_str (c:=c) ?_ ?_ (h _ _ (Rd.mkStr [c] _))⟩
    ·simp only[Bool.or_eq_false_iff,decide_eq_false_iff_not];exact(pI:Qn [] [_] (.c (.n (.S (.v 0) (.n' (.pw 2 63)))) (.n (.L (.pw 2 63) (.v 0)))) [.t (.ab 0) (.pw 2 40)]) hk
    ·show(seqIndex? k (Array.size (List.toArray _))).bind _=_;rw[ro,e1];simpa using e3
   ·refine eN (dL.mp e) λxs e0 e=> ?_;refine eN (dL.mp e) λj e1 e2=> ?_;refine eN (fe.mp e2) λx e3 ez1=> ?_;subst ez1;refine iJ (S.isL rv e0) λa items ez1 hl rr=> ?_;subst ez1;refine eN (qM rr e3) λX e4 rX=> ?_;have hlen:items.size=xs.length:=by rw[<-rr.length];simp
    refine⟨_,_,hl.typeIs,slot_list_getitem.lookup,?_⟩;by_cases h0:0<=k
    ·refine oA (AG e1 h0) λez1 _=> ?_;subst ez1;exact wpAny_getItem_list hl h0 (VJ hk) e4 (h X s.toks rX)
    ·refine oA (G8 e1 (VI h0)) λez1 h2=> ?_;subst ez1;exact wpAny_getItem_list_neg hl (VI h0) (by rw[hlen];exact h2) (VH hk) (by rw[hlen];exact e4) (h X s.toks rX)
  ·exact eC e
 ·rename_i x;refine Rd.str_on ri λt=> ?_
  symm at e
  ·rename_i kvs _;refine eN (fe.mp e) λy e1 ez1=> ?_;subst ez1;refine uM rv λa ps ez1 hm hd hc=> ?_;clear rv;subst ez1;refine eN (qx hc e1) λX e2 rX=> ?_;exact⟨_,_,(hd.keep S.base).typeIs,slot_dict_getitem.lookup,wpAny_getItem_of (strKind_is _ _ _ _) (hd.keep S.base).mapOf e2 (h X _ (Rd.keep S.tupKeepBase rX))⟩
  ·refine eN (dL.mp e) λkvs e0 e1=> ?_;unfold lW at e0;split at e0
   ·symm at e0
    ·rename_i kvs' q;replace e0:=sj e0;subst e0;refine eN rv λa h1 ez1=> ?_;clear rv;subst ez1;refine eN (S.ads _ a _ h1 q) λps hd hp=> ?_;refine eN (vD hp e1) λX e2 rX=> ?_;exact⟨_,_,hd.typeIs,slot_dict_getitem.lookup,wpAny_getItem_of (strKind_is _ _ _ _) hd.mapOf e2 (h X _ rX)⟩
    ·exact eC e0
   ·exact eC e0
 ·exact eC e
theorem Tq{i:cP}{mi:M PV}(h:dR G n f aa e m)(hi:dR G n f aa i mi)(hs:qL i=true):
  dR G n f aa (.Subscript e i pos) (bnd m λv=>bnd mi λk=>λσ=>(gZ σ v k).map λr=>(.ok r,σ)):=by
 intro A ag Ls ad σ s Q E z σ' C S Lc er P;refine Subscript_ (h.thn C S Lc er P λv V h₁ tk₁ ak σ₁ ai ax rv am aj al=>hi.thn C ai am aj al λk I ar aE aD aG aq aB ri aK ao aA=> ?_);have rv:=rv.stepE ai aB;refine eN (fe.mp ao) λr az aF=> ?_;refine p1 aF ?_;clear aF;intro ey ez;subst ey;subst ez;refine iJ (G9 (A:=A) (E:=E) (s:={ s with heap:=ar,toks:=aE }) aq az rv ri (Q:=Q) λX tk rX=>aA.now aq rX tk) λT id h1 h2 h3=> ?_
 exact tail_any h1 h2 h3 (ops:=[V,I]) (qf hs _ _)
def Ml(v:PV):M PV:=λσ=>(dW σ v).bind λxs=>rD xs.reverse σ
theorem Km(t:Tok):IsPart (.int (-1) t) (some (-1)):= .int ..
theorem Ha{st:cP}{p:Pos}{mst:M PV}(h:dR G n f aa e m)(hst:dR G n f aa st mst)(hv:mst=ret (.d (.int (-1)))):
  dR G n f aa (.Subscript e (.Slice none none (some st) p) pos) (bnd m λv=>Ml v):=by
 intro A ag Ls ad σ s Q E z σ' C S Lc er P;subst hv;refine Subscript_ (h.thn C S Lc er P λv V h₁ tk₁ ak σ₁ ai ax rv am aj al=>wpAny_Slice (dc (dc ?_)));refine hst A ag Ls ak σ₁ _ _ _ (.ok (.d (.int (-1)))) σ₁ C ai am rfl λK ar aE aD aq aB rK=> ?_;refine Rd.int_on rK λt=> ?_;have rv:=rv.stepE ai aB;have aA:=al.after (tk₁:=aE) aB;refine eN (dL.mp aj) λxs hg aF=> ?_;refine wD (vB aF) λhsz ez1 ez2=> ?_;subst ez1;subst ez2;refine iJ (aq.isL rv hg) λa items ez1 hlst r=> ?_;subst ez1;have hlen:items.size=xs.length:=by rw[<-r.length];simp
 have hps:∀(o:Obj),∀b x,ar.get? b=some x->(ar.push o).get? b=some x:=λo b x e=>fc _ e
 have hl':(ar.push { cls:= .type "slice",data:= .fields #[.none,.none,.int (-1) t] }).IsList a items:=by refine eN hlst λo h1 h2=> ?_;clear hlst;exact⟨o,hps _ _ _ h1,h2⟩
 simp at hsz;refine tail_any hl'.typeIs slot_list_getitem.lookup (wpAny_getItem_list_slice hl' ⟨_,gP _ rfl,rfl,rfl⟩ .none .none (Km t) (by simp) ?_ (by have:=jh;exact(lx (.l A0 A3) [.e A0 A1,.l A1 A2,.l A2 A3]) hlen hsz this)) (ops:=[.ref a,.ref ar.objs.size]) rfl;rw[krv_pick];have aX:=aq.of_keep (hps { cls:= .type "slice",data:= .fields #[.none,.none,.int (-1) t] });have aQ:dE (f.L::Ls) aD aD ar _:=dE.of_keep (hps { cls:= .type "slice",data:= .fields #[.none,.none,.int (-1) t] });have a8:=aA.after (h₁:=ar.push { cls:= .type "slice",data:= .fields #[.none,.none,.int (-1) t] }) (tk₁:=aE) aQ;refine a8.newList aX (s:={ s with heap:=ar.push { cls:= .type "slice",data:= .fields #[.none,.none,.int (-1) t] },toks:=aE }) 0 ?_ aE
 have rk:dD (ar.push { cls:= .type "slice",data:= .fields #[.none,.none,.int (-1) t] }) items.toList xs:=dD.keep (aq.tupKeep (λa m=> .inl m) aQ) r
 simpa using rk.reverse
end
section
variable{f:Fm}{aa:List (Option PV)}
structure wR(h h':Heap):Prop where
 tup:lV h h'
 inst:∀b C d,h.get? b=some (instObj C d)->h'.get? b=some (instObj C d)
theorem eW.im{v:PV}{V:Value}(k:wR h h')(p:ad<+:ad')(r:eW G h ad v V):eW G h' ad' v V:=by
 cases v with
 |d x=>exact Rd.keep k.tup r
 |ref j=>(refine eN r λa h1 h2=> ?_;clear r);exact⟨a,pd p h1,h2⟩
 |inst j=>(refine iJ r λa x h1 h2 h3=> ?_;clear r);exact⟨a,x,pd p h1,h2,k.inst _ _ _ h3⟩
 |cl xs=>exact r
 |cd kvs=>exact r
structure me(G:Gl)(F ad:List Addr)(h:Heap)(a:Addr):Prop where
 ad:a ∉ ad
 F:a ∉ F
 le:G.h₀.objs.size<=a
 cls:∀o,h.get? a=some o->(o.cls= .type "tuple"->∀vs n,o.data≠.seq vs n)/\∀C d,o≠instObj C d
theorem rE{o:Obj}(h:o.cls≠.type "tuple"/\∀C,o.cls≠.ref C):(o.cls= .type "tuple"->∀vs n,o.data≠.seq vs n)/\∀C d,o≠instObj C d:=
 ⟨λz=>absurd z h.1,λC d z=>h.2 C (by rw[z])⟩
theorem EQ{o:Obj}{es:Array DictEntry}(h:o.data= .dict es n):(o.cls= .type "tuple"->∀vs n,o.data≠.seq vs n)/\∀C d,o≠instObj C d:=
 ⟨λ_ vs n z=>(by rw[h]at z;cases z),λC d z=>(by rw[z]at h;cases h)⟩
theorem me.im(p:me G F ad h a)(k:∀b o,b≠a->h.get? b=some o->h'.get? b=some o):wR h h':=by
 refine⟨λb o vs m e hc hsq=>⟨o,k b o (λz=> ?_) e,hc,rfl⟩,λb C d e=>k b _ (λz=> ?_) e⟩
 ·subst z;exact(p.cls o e).1 hc vs m hsq
 ·subst z;exact(p.cls _ e).2 C d rfl
theorem St.priv(S:St G F ad σ h)(p:me G F ad h a)(k:∀b o,b≠a->h.get? b=some o->h'.get? b=some o):St G F ad σ h':=by
 have im:=p.im k;refine⟨λb o e=>k b o (λz=> ?_) (S.base b o e),S.len,S.nd,λj b o h1 h2=> ?_,S.newA,λb m=> ?_,S.fnd,S.apart⟩
 ·rw[z,rt p.le]at e;exact eC e
 ·exact(S.ads j b o h1 h2).to (λx=>k b x (λz=>p.ad (z▸gu h1))) im.tup λv V r=>r.im im (hO _)
 ·refine vw (S.frs b m) λh1 o h2 h3=> ?_;exact⟨h1,o,k b o (λz=>p.F (z▸m)) h2,h3⟩
theorem dE.priv(p:dE F ad ad' h h₁)(hn:h.get? a=none)(k:∀b o,b≠a->h₁.get? b=some o->h'.get? b=some o)(there:∃o,h'.get? a=some o):dE F ad ad' h h':=by
 have ne:∀b o,h.get? b=some o->b≠a:=λb o e z=>by rw[z,hn]at e;exact eC e
 refine⟨p.pre,⟨λb o e h1 h2=>k b o (ne b o e) (p.pres.keep b o e h1 h2),λb o e h1 h2=> ?_⟩,p.new,λb e=>p.ex b ?_⟩
 ·refine oE (p.pres.slots b o e h1 h2) λsl e'=> ?_;exact⟨sl,k b _ (ne b o e) e'⟩
 ·cases q:h₁.get? b with
  |none=>rfl
  |some o=>
   by_cases z:b=a
   ·subst z;refine oE there λo' h1=> ?_;clear there;rw[e]at h1;exact eC h1
   ·rw[k b o z q]at e;exact yt e
theorem St.adopt{mo:MO}(S:St G F ad σ h)(na:a ∉ ad)(nF:a ∉ F)(hle:G.h₀.objs.size<=a)(r:CC G h (ad++[a]) a mo):St G F (ad++[a]) (σ++[mo]) h:=by
 have im:wR h h:=⟨λb o _ _ e hc _=>⟨o,e,hc,rfl⟩,λ_ _ _ e=>e⟩;refine⟨S.base,by simp[S.len],List.nodup_append.mpr ⟨S.nd,by simp,λx hx y hy=>by cases ff.mp hy;exactλe=>na (e▸hx)⟩,λj b o h1 h2=> ?_,λb m=> ?_,S.frs,S.fnd,λb m z=> ?_⟩
 ·by_cases hj:j<ad.length
  ·rw[fH hj]at h1;rw[fH (S.len▸hj)]at h2;exact(S.ads j b o h1 h2).to (λx e=>e) im.tup λv V r=>r.im im (List.prefix_append _ _)
  ·have hj':j=ad.length:=by
    have:=(ek.mp h1).1;simp at this;omega
   subst hj';rw[nO (ip _)]at h1;rw[nO (Nat.le_of_eq S.len.symm),S.len]at h2;simp at h1 h2;subst h1;subst h2;exact r
 ·rcases eF.mp m with m|m
  ·exact S.newA b m
  ·cases ff.mp m;exact hle
 ·rcases eF.mp z with z|z
  ·exact S.apart b m z
  ·cases ff.mp z;exact nF m
theorem dE.adopt(p:dE F ad ad' h h')(hn:h.get? a=none):dE F ad (ad'++[a]) h h':=
 ⟨p.pre.trans (List.prefix_append _ _),p.pres,λb m=>by
  rcases eF.mp m with m|m
  ·exact p.new b m
  ·cases ff.mp m;exact .inr hn,p.ex⟩
def rF(G:Gl)(n:Nat)(f:Fm)(fv:Value)(prim:List PV->M PV):Prop:=
 ∀(A:Around)(ag:List Env)(Ls ad:List Addr)(σ:List MO)(s:Shared)(Q E:Value->Shared->Prop)(vs:List PV)(Vs:List Value)(r:R PV)(σ':List MO),
  wK G A n f ag Ls->St G (f.L::Ls) ad σ s.heap->jA G s.heap ad vs Vs->prim vs σ=some (r,σ')->qJ G (f.L::Ls) ad s r σ' Q E (RV G)->
  wpAny (model G.prog G.w) A (call fv Vs) Q E s
theorem jy.plain(x:jy G n f aa es ms):(backTo pos (starEach es f.env)).any (·.1)=false:=by
 induction x with
 |nil=>rfl
 |cons h0 _ hs ih=>
  rw[eb h0];show(false || _)=false
  rw[Bool.false_or];exact ih
theorem kL{x:Str}{V:Value}(C:wK G A n f ag Ls)(S:St G (f.L::Ls) ad σ s.heap)
  (hx:f.cs.names.lookup x=some .globalImplicit)(hm:G.mg x=none)(hb:bootBuiltins x=some V)(hne:x≠"__name__")(hd:(x ==("__debug__":Str))=false)(h:Q V s):wpAny (model G.prog G.w) A (eval (.Name x pos) f.env) Q E s:=
 Name_function_global C.hk hx (loadGlobal_builtin (env:=f.env) (G.hg.keeps S.base) hm (G.hb.keeps S.base) ((G.hbo x hne).trans hb) h) hd
theorem Mm{x:Str}{id:String}{prim:List PV->M PV}(hx:f.cs.names.lookup x=some .globalImplicit)(hm:G.mg x=none)(hb:bootBuiltins x=some (.builtin id))(hne:x≠"__name__")(hd:(x ==("__debug__":Str))=false)
  (h0:W.isStarred e=false)(h1:dR G n f aa e m)(hs:jy G n f aa es ms)(hp:rF G n f (.builtin id) prim):dR G n f aa (.Call (.Name x np) (e::es) [] pos) (bnd (ja (m::ms)) prim):=by
 intro A ag Ls ad σ s Q E r σ' C S Lc er P;refine nU (kL C S hx hm hb hne hd ?_);refine PyProof.Rows.callWith_builtin1 ((oQ (.cons h0 h1 hs)).thn C S Lc er P λvs Vs h₁ tk₁ ak σ₁ ai ax rv am aj al=> ?_) (eb h0) hs.plain;exact hp A ag Ls ak σ₁ _ _ _ vs Vs r σ' C ai rv aj al
theorem Mn{x:Str}{id:String}{prim:List PV->M PV}(hx:f.cs.names.lookup x=some .globalImplicit)(hm:G.mg x=none)(hb:bootBuiltins x=some (.type id))(hne:x≠"__name__")(hd:(x ==("__debug__":Str))=false)
  (h0:W.isStarred e=false)(h1:dR G n f aa e m)(hs:jy G n f aa es ms)(hp:rF G n f (.type id) prim):dR G n f aa (.Call (.Name x np) (e::es) [] pos) (bnd (ja (m::ms)) prim):=by
 intro A ag Ls ad σ s Q E r σ' C S Lc er P;refine nU (kL C S hx hm hb hne hd ?_);refine PyProof.Rows.callWith_type1 ((oQ (.cons h0 h1 hs)).thn C S Lc er P λvs Vs h₁ tk₁ ak σ₁ ai ax rv am aj al=> ?_) (eb h0) hs.plain;exact hp A ag Ls ak σ₁ _ _ _ vs Vs r σ' C ai rv aj al
theorem Hb{v:PV}(r:jA G h ad [v] Vs):∃V,Vs=[V]/\eW G h ad v V:=by
 match Vs,r with
 |[V],⟨r,_⟩=>exact⟨V,rfl,r⟩
 |[],r=>exact r.elim
 |_::_::_,⟨_,r⟩=>exact r.elim
theorem Ts{v w:PV}(r:jA G h ad [v,w] Vs):∃V W,Vs=[V,W]/\eW G h ad v V/\eW G h ad w W:=by
 match Vs,r with
 |[V,W],⟨r,r',_⟩=>exact⟨V,W,rfl,r,r'⟩
 |[],r=>exact r.elim
 |[_],⟨_,r⟩=>exact r.elim
 |_::_::_::_,⟨_,_,r⟩=>exact r.elim
noncomputable def Wz(k:Nat)(σ:List MO):Option (R PV×List MO):=if k<2 ^ 40 then some (.ok (.d (.int k)),σ)else none
def Hc(v:PV)(σ:List MO):Option (R PV×List MO):=v.asS.elim ((dW σ v).bind λxs=>Wz xs.length σ) λs=>Wz s.length σ
def jQ(vs:List PV):M PV:=λσ=>match vs with
 |[v]=>Hc v σ
 |_=>none
theorem Mo:rF G n f (.builtin "len") jQ:=by
 intro A ag Ls ad σ s Q E vs Vs r σ' C S rv e P;cases vs with
 |nil=>exact eC e
 |cons v l=>
  cases l with
  |cons _ _=>exact eC e
  |nil=>
   refine eN (Hb rv) λV ez1 rV=> ?_;subst ez1;have e:Hc v σ=some (r,σ'):=e;unfold Hc at e;cases q:v.asS with
   |some str=>
    rw[q]at e;rw[PV.asS_inv q]at rV;refine Rd.str_on rV λt=> ?_;refine oA (I6 e) λh5 e'=> ?_;refine p0 e' ?_;clear e e';intro ey ez;subst ey;subst ez;refine PyProof.Rows.len_str (by simp[Str.length];exact(lE (.S (.c A0) (.k 9223372036854775808)) [.t A0 (.pw 2 40)]) h5) ?_;have:=P.now S (a:= .int str.length (s.toks+1)) (Rd.int ..) (s.toks+1+1)
    simpa [Str.length] using this
   |none=>
    rw[q]at e;refine eN (dL.mp e) λxs e1 e2=> ?_;refine oA (I6 e2) λh5 e'=> ?_;refine p0 e' ?_;clear e e2 e';intro ey ez;subst ey;subst ez;refine iJ (S.isL rV e1) λa items ez1 hl rr=> ?_;subst ez1;have hlen:=rr.length;rw[kG]at hlen;refine call_len_list hl (by exact(ie (.S (.c A1) (.pw 2 63)) [.t A0 (.pw 2 40),.e A1 A0]) h5 hlen) ?_;have:=P.now S (a:= .int xs.length (s.toks+1)) (Rd.int ..) (s.toks+1+1);rw[hlen];exact this
def Pw(vs:List PV):M PV:=λσ=>match vs with
 |[v,w]=>v.asI.bind λa=>w.asI.bind λb=>some (.ok (.d (.int (if b > a then b else a))),σ)
 |_=>none
theorem Mp:rF G n f (.builtin "max") Pw:=by
 intro A ag Ls ad σ s Q E vs Vs r σ' C S rv e P
 match vs,e,rv with
 |[],e,_=>exact eC e
 |[_],e,_=>exact eC e
 |_::_::_::_,e,_=>exact eC e
 |[v,w],e,rv=>
  refine eN (dL.mp e) λa e1 e=> ?_;refine eN (dL.mp e) λb e2 e=> ?_;refine Pg e ?_;clear e;intro ey ez;subst ey;subst ez;refine iJ (Ts rv) λV W ez1 rV rW=> ?_;subst ez1;rw[PV.asI_inv e1]at rV;rw[PV.asI_inv e2]at rW;refine Rd.int_on rV λt=> ?_;refine Rd.int_on rW λu=> ?_;refine max_two_ints C.hh λh' tk hk=> ?_;refine P.made S hk ?_ tk;split<;>exact Rd.int ..
noncomputable def PV.asB:PV->Option Bool
 | .d (.bool b)=>some b
 |_=>none
theorem PV.asB_inv{v:PV}(h:v.asB=some b):v= .d (.bool b):=by
 cases v with
 |d x=>cases x<;>first|exact eC h|exact si h▸rfl
 |_=>exact eC h
def xP(vs:List PV):M PV:=λσ=>match vs with
 |[v]=>v.asB.bind λb=>some (.ok (.d (.int (if b then 1 else 0))),σ)
 |_=>none
theorem vE:rF G n f (.type "int") xP:=by
 intro A ag Ls ad σ s Q E vs Vs r σ' C S rv e P
 match vs,e,rv with
 |[],e,_=>exact eC e
 |_::_::_,e,_=>exact eC e
 |[v],e,rv=>
  refine eN (dL.mp e) λb e1 e=> ?_;refine Pg e ?_;clear e;intro ey ez;subst ey;subst ez;refine eN (Hb rv) λV ez1 rV=> ?_;subst ez1;rw[PV.asB_inv e1]at rV;refine Rd.bool_on rV ?_;exact call_int_bool (P.now S (Rd.int ..) _)
end
section
variable{f:Fm}{aa:List (Option PV)}
theorem Tt(hs:jy G n f aa es ms)(hl:es.length<20):((backTo pos (starEach es f.env)).all (λx=> !x.1) &&(backToKw pos (keywordEach [] f.env)).all (λx=>x.1.isSome)
   && decide (es.length+([]:List Keyword).length+(if([]:List Keyword).isEmpty then 0 else 1)<30))=true:=by
 have h:=hs.plain (pos:=pos)
 have h1:(backTo pos (starEach es f.env)).all (λx=> !x.1)=true:=by
  rw[fu];intro x hx;rw[List.any_eq_false]at h
  simpa using h x hx
 rw[h1];show decide (es.length<30)=true;exact eE (mq hl rfl)
noncomputable def qN(σ:List MO)(v:PV):Option (Nat×List D):=match v with
 | .ref k=>match σ[k]? with
  |some (.list xs)=>some (k,xs)
  |_=>none
 |_=>none
theorem yO{v:PV}{V:Value}{k:Nat}(S:St G F ad σ h)(e:qN σ v=some (k,xs))(r:eW G h ad v V):
  v= .ref k/\σ[k]? =some (.list xs)/\∃a items n,V= .ref a/\ad[k]? =some a/\h.get? a=some { cls:= .type "list",data:= .seq items n }/\dD h items.toList xs:=by
 unfold qN at e;split at e
 ·symm at e
  ·rename_i q;refine ZJ e ?_;clear e;intro ey ez;subst ey;subst ez;refine eN r λa h1 h2=> ?_;clear r;refine mZ (S.ads _ a _ h1 q) λitems n h3 h4=> ?_;exact⟨rfl,q,a,items,n,h2,h1,h3,h4⟩
  ·exact eC e
 ·exact eC e
def kz(v:PV)(m:M PV):M PV:=λσ=>(qN σ v).bind λ_=>bnd m (λy=>λσ=>match y with
 | .d x=>(qN σ v).bind λ(k,xs)=>if xs.length<eZ then some (.ok (.d .none),σ.set k (.list (xs++[x])))else none
 |_=>none) σ
theorem wS{x:Str}{xp apos:Pos}{mo:M PV}(hline:(apos.endLine == pos.line)=true)(ho:dR G n f aa (.Name x xp) mo)(h0:W.isStarred e=false)(h1:dR G n f aa e m):
  dR G n f aa (.Call (.Attribute (.Name x xp) "append" apos) [e] [] pos) (bnd mo λv=>kz v m):=by
 intro A ag Ls ad σ s Q E r σ' C S Lc er P;refine wpAny_Call_append rfl (Tt (.cons h0 h1 .nil) (by simp)) hline (by rw[eb h0];rfl) (ho.thn C S Lc er P λv V h₁ tk₁ ak σ₁ ai ax rv am aj al=> ?_);refine eN (dL.mp aj) λoz1 q ao=> ?_;obtain⟨k,xs⟩:=oz1;refine wG (yO ai q rv) λez1 _ a items m' ez2 ha hg _=> ?_;subst ez1;subst ez2;refine⟨a,items,rfl,⟨_,m',hg,rfl,rfl,rfl⟩,h1.thn C ai am ao al λy Y ar aE aD aG aq aB ry aK az aA=> ?_⟩;have rv:=rv.stepE ai aB;cases y with
 |d dx=>
  dsimp only at az;refine eN (dL.mp az) λoz1 q' aF=> ?_;obtain⟨k',ys⟩:=oz1;refine wG (yO aq q' rv) λhk hq a' items' m'' ea ha' hg' rr=> ?_;cases hk;cases ea;dsimp only at aF
  symm at aF
  ·rename_i hz;refine Pg aF ?_;clear aF;intro ey ez;subst ey;subst ez;have hlen:=rr.length;rw[kG]at hlen;refine append_at hg' (λh' hs he=> ?_) (by have:=jh;exact Z0 hz hlen this);have kk:∀b o,b≠a->ar.get? b=some o->h'.get? b=some o:=λb o hb e=>(hs.2 b hb).trans e;have im:lV ar h':=aq.tupKeep (λ_ m=> .inl m) (dE.upd (F:=f.L::Ls) (gu ha') kk ⟨_,he⟩)
   refine oA (aq.upd (h':=h') (mo:= .list (ys++[dx])) ha' kk ⟨items'.push Y,m''+1,he,by rw[Array.toList_push];exact dD.snoc (Rd.keep im ry) (dD.keep im rr)⟩) λay aC=> ?_
   exact aA .none h' aE aD ay aC Rd.none
  ·exact eC aF
 |ref _=>exact eC az
 |inst _=>exact eC az
 |cl _=>exact eC az
 |cd _=>exact eC az
def Mq(v:PV):M PV:=λσ=>(qN σ v).bind λ(k,xs)=>if xs.length<=eZ then xs.getLast?.map λy=>(.ok (.d y),σ.set k (.list xs.dropLast))else none
theorem Tu{x:Str}{xp apos:Pos}{mo:M PV}(hline:(apos.endLine == pos.line)=true)(ho:dR G n f aa (.Name x xp) mo):
  dR G n f aa (.Call (.Attribute (.Name x xp) "pop" apos) [] [] pos) (bnd mo λv=>Mq v):=by
 intro A ag Ls ad σ s Q E r σ' C S Lc er P;refine wpAny_Call_method0_late rfl hline (ho.thn C S Lc er P λv V h₁ tk₁ ak σ₁ ai ax rv am aj al=> ?_);refine eN (dL.mp aj) λoz1 q ao=> ?_;obtain⟨k,xs⟩:=oz1;refine wG (yO ai q rv) λez1 hq a items m' ez2 ha hg rr=> ?_;subst ez1;subst ez2;dsimp only at ao
 symm at ao
 ·rename_i hz;refine eN (fe.mp ao) λy hy az=> ?_;refine p0 az ?_;clear az;intro ey ez;subst ey;subst ez;have hlen:=rr.length;rw[kG]at hlen;refine⟨_,_,PySem.F.plainAttrs_list,PySem.F.slot_list_pop,PySem.F.type_list_pop,⟨_,hg,rfl⟩,(λb e=>by cases e;exact⟨_,hg,rfl⟩),callWith_method0 (env:=f.env) ?_⟩;rw[List.getLast?_eq_getElem?]at hy;refine eN (qM rr hy) λY hY rY=> ?_;rw[<-hlen]at hY;refine Copied.pop_at hg hY (λh' hs he=> ?_) (by have:=jh;exact X9 hz hlen this);have kk:∀b o,b≠a->h₁.get? b=some o->h'.get? b=some o:=λb o hb e=>(hs.2 b hb).trans e;have im:lV h₁ h':=ai.tupKeep (λ_ m=> .inl m) (dE.upd (F:=f.L::Ls) (gu ha) kk ⟨_,he⟩)
  have r3:dD h' items.pop.toList xs.dropLast:=by rw[Array.toList_pop,List.dropLast_eq_take,List.dropLast_eq_take,rr.length];exact dD.keep im (rr.take _)
  refine oA (ai.upd (h':=h') (mo:= .list xs.dropLast) ha kk ⟨items.pop,m'+1,he,r3⟩) λay aC=> ?_;exact al Y h' tk₁ ak ay aC (Rd.keep im rY)
 ·exact eC ao
noncomputable def sW:List D->Option (List (List Nat))
 |[]=>some []
 | .str s::r=>(sW r).map (s::·)
 |_::_=>none
theorem ER{x:D}{ys:List (List Nat)}(e:sW (x::xs)=some ys):∃s zs,x= .str s/\sW xs=some zs/\ys=s::zs:=by cases x<;>first|(obtain⟨zs,e1,rfl⟩:=fe.mp e;exact⟨_,zs,rfl,e1,rfl⟩)|exact eC e
theorem He{vs:List Value}{ys:List (List Nat)}(r:dD h vs xs):sW xs=some ys->StrsAre vs (ys.map λs=>⟨s.toArray⟩):=
 dD.ind (R:=λvs xs=>∀ys,sW xs=some ys->StrsAre vs (ys.map λs=>⟨s.toArray⟩)) (λys e=>si e▸.nil) (λ{v d vs ds} k r ih ys e=>by refine iJ (ER e) λs zs ez1 e1 ez2=> ?_;subst ez1;subst ez2;refine Rd.str_on k λt=> ?_;rw[jg];exact .cons _ t (ih _ e1)) r ys
def BJ:List PV->M PV:=λvs σ=>match vs with
 |[v]=>(dW σ v).bind λxs=>(sW xs).bind λys=>if ys.flatten.length<=jP/\ys.length<=eZ then some (.ok (.d (.str ys.flatten)),σ)else none
 |_=>none
theorem Hf:∀ys:List (List Nat),(glued ⟨#[]⟩ (ys.map λs=>⟨s.toArray⟩)).cps.toList=ys.flatten
 |[]=>rfl
 |y::ys=>by
  unfold glued;simp only[jg,List.drop_one,List.tail_cons,List.headD_cons]
  have:∀(zs:List (List Nat))(acc:Array Nat),(List.foldl (λacc(p:Str)=>acc++(#[]:Array Nat)++p.cps) acc (zs.map λs=>⟨s.toArray⟩)).toList=acc.toList++zs.flatten:=by
   intro zs
   induction zs with
   |nil=>intro acc;simp
   |cons z zs ih=>intro acc;rw[jg,List.foldl_cons,ih];simp
  rw[this];simp
theorem CJ{kp k:Nat}{cp apos:Pos}(hline:(apos.endLine == pos.line)=true)(h0:W.isStarred e=false)(h1:dR G n f aa e m):
  dR G n f aa (.Call (.Attribute (.Constant (.str "") kp cp) "join" apos) [e] [] pos) (bnd (ja [m]) BJ):=by
 intro A ag Ls ad σ s Q E r σ' C S Lc er P;refine wpAny_Call_method1_late rfl hline (by rw[eb h0];rfl) (wpAny_mkText ?_);refine⟨_,_,PySem.F.plainAttrs_str,PySem.F.slot_str_join,PySem.F.type_str_join,typeIs_str _ _ _,(λb e=>by cases e),?_⟩;have hh:=callWith_method1 (M:=model G.prog G.w) (A:=A) (env:=f.env) (pos:=pos) (id:="str.join") (first:=[.str "" s.toks]) (e:=e) (rest:=[]) (Q:=Q) (E:=E) (s:={ s with toks:=s.toks+1 }) ?_ (eb h0)
 ·rw[eb h0]at hh;exact hh
 refine(oQ (.cons h0 h1 .nil)).thn (s:={ s with toks:=s.toks+1 }) C S Lc er (P.after (h₁:=s.heap) (tk₁:=s.toks+1) (kK.refl ..)) λvs Vs h₁ tk₁ ak σ₁ ai ax rv am aj al=> ?_
 unfold BJ at aj;split at aj
 ·refine eN (dL.mp aj) λxs e2 ao=> ?_;refine eN (dL.mp ao) λys e3 az=> ?_
  symm at az
  ·rename_i hz;refine Ph az ?_;clear az;intro ey ez;subst ey;subst ez;refine eN (Hb rv) λV ez1 rV=> ?_;subst ez1;refine iJ (ai.isL rV e2) λa items ez1 hl rr=> ?_;subst ez1;refine join_list hl (He rr e3) ?_ λt' tk=> ?_
   ·have h2:((ys.map λs=>(⟨s.toArray⟩:Str)).map (·.length)).sum=ys.flatten.length:=by
     rw[List.length_flatten,List.map_map]
     congr 1
    rw[h2];have h3:Str.length (Str.ofString "")=0:=rfl;rw[h3];unfold jP at hz;exact(BC (.l (.a A0 (.r A4 0)) (.k 16777216)) [.c (.l A0 (.k 4000000)) (.l A1 A2),.e A3 A0]) hz h2
   ·have h4:=Rd.str (h:=h₁) (Txt.join "" (ys.map λs=>⟨s.toArray⟩)) t';have h5:(Txt.join "" (ys.map λs=>(⟨s.toArray⟩:Str))).cps.toList=ys.flatten:=Hf ys;rw[h5]at h4;exact al.now ai h4 tk
  ·exact eC az
 ·exact eC aj
noncomputable def sX(x y:List Nat):Int:=match occurrences ⟨x.toArray⟩ ⟨y.toArray⟩ 0 (Str.length ⟨x.toArray⟩) 1 with|i::_=>(i:Int)|[]=> -1
def ES(v:PV)(m:M PV):M PV:=match v with
 | .d (.str x)=>bnd m λy=>match y with
  | .d (.str y)=>ret (.d (.int (sX x y)))
  |_=>cU
 |_=>cU
theorem Px{x:Str}{xp apos:Pos}{mo:M PV}(hline:(apos.endLine == pos.line)=true)(ho:dR G n f aa (.Name x xp) mo)(h0:W.isStarred e=false)(h1:dR G n f aa e m):
  dR G n f aa (.Call (.Attribute (.Name x xp) "find" apos) [e] [] pos) (bnd mo λv=>ES v m):=by
 intro A ag Ls ad σ s Q E r σ' C S Lc er P;refine wpAny_Call_method1_late rfl hline (by rw[eb h0];rfl) (ho.thn C S Lc er P λv V h₁ tk₁ ak σ₁ ai ax rv am aj al=> ?_);unfold ES at aj;split at aj
 ·refine Rd.str_on rv λt=> ?_;refine⟨_,_,PySem.F.plainAttrs_str,PySem.F.slot_str_find,PySem.F.type_str_find,typeIs_str _ _ _,(λb e=>by cases e),?_⟩;refine callWith_builtin rfl (evalArgs_plain ?_);refine spliced_cons (h1.thn C ai am aj al λy Y ar aE aD aG aq aB ry aK ao aA=>spliced_nil ?_);split at ao
  ·have aA:=aA.of_ret ao;refine Rd.str_on ry λu=> ?_;exact SC.find (aA.now aq (Rd.int ..) _)
  ·exact eC ao
 ·exact eC aj
end
section
variable{f:Fm}{aa:List (Option PV)}
noncomputable def ET(k:Str×Nat×Pos):cP:= .Constant (.str k.1) k.2.1 k.2.2
noncomputable def yx(G:Gl)(h:Heap)(ad:List Addr):List (Str×Nat×Pos)->List PV->List (Value×Value)->Prop
 |[],[],[]=>True
 |k::ks,v::vs,P::Ps=>(∃t,P.1= .str k.1 t)/\eW G h ad v P.2/\yx G h ad ks vs Ps
 |_,_,_=>False
theorem Mr{ks:List (Str×Nat×Pos)}(x:jy G n f aa es ms):ks.length=es.length->
  I5 G n f aa (evalPairs (pairTrees (ks.map λk=>some (ET k)) es f.env pos)) (ja ms) (λh ad vs Ps=>yx G h ad ks vs Ps):=by
 induction x generalizing ks with
 |nil=>intro h;cases ks with
  |cons k ks=>exact nomatch h
  |nil=>
    intro A ag Ls ad σ s Q E r σ' C S Lc e P;have P:=P.of_ret e;exact dc (P.now S (a:=[]) trivial s.toks)
 | @cons e m es ms h0 h1 hs ih=>intro hl;cases ks with
  |nil=>exact nomatch hl
  |cons k ks=>
    intro A ag Ls ad σ s Q E r σ' C S Lc er P;show wpAny _ _ (evalPairs ((eval (ET k) f.env,do let x <-eval e f.env;standAt pos;pure x)::pairTrees (ks.map λk=>some (ET k)) es f.env pos)) _ _ _;refine cQ (wpAny_mkText ?_);refine cQ (kb (cQ ?_));have P0:=P.after (h₁:=s.heap) (tk₁:=s.toks+1) (kK.refl ..);refine h1.thn (s:={ s with toks:=s.toks+1 }) C S Lc er P0 λv V h₁ tk₁ ak σ₁ ai ax rv am aj al=>cQ (iN (dc (cQ (kb ?_))))
    refine(ih (Nat.succ.inj hl)).thn C ai am aj al λvs Ps ar aE aD aG aq aB rvs aK ao aA=> ?_;have aA:=aA.of_ret ao;exact dc (aA.now aq (a:=(.str k.1 s.toks,V)::Ps) ⟨⟨_,rfl⟩,rv.stepE ai aB,rvs⟩ aE)
theorem oR(x:Str):(⟨x.cps.toList.toArray⟩:Str)=x:=by cases x;simp
theorem xq{prog:Program}{w:World}{h:Heap}{ad:List Addr}:∀{ks:List (Str×Nat×Pos)}{vs:List PV}{Ps:List (Value×Value)},yx G h ad ks vs Ps->
  Carries (PySem.strKind prog w) Ps ((ks.map (·.1)).zip (Ps.map (·.2)))/\ow G h ad ((ks.map (·.1)).zip (Ps.map (·.2))) ((ks.map (·.1.cps.toList)).zip vs)
 |[],[],[],_=>⟨trivial,trivial⟩
 |k::ks,v::vs,P::Ps,⟨⟨t,h1⟩,h2,h3⟩=>by refine oA (xq (prog:=prog) (w:=w) h3) λa b=> ?_;refine⟨⟨by rw[h1];exact strKind_is _ _ _ _,rfl,a⟩,⟨(oR k.1).symm▸rfl,h2,b⟩⟩
 |[],[],_::_,x=>x.elim
 |[],_::_,_,x=>x.elim
 |_::_,[],_,x=>x.elim
 |_::_,_::_,[],x=>x.elim
theorem yP:∀(more acc:List (Str×Value)),((acc++more).map (·.1)).Nodup->merged acc more=acc++more
 |[],acc,_=>by simp[merged]
 |x::more,acc,hn=>by
  have h1:stored acc x.1 x.2=acc++[x]:=by
   unfold stored;rw[cJ];intro ha;refine eN (List.any_eq_true.mp ha) λy hy hq=> ?_;have hq:y.1=x.1:=by simpa using hq
   rw[List.map_append,List.nodup_append]at hn;exact hn.2.2 y.1 (List.mem_map_of_mem hy) x.1 (by simp) hq
  show merged (stored acc x.1 x.2) more=_;rw[h1,yP more (acc++[x]) (by simpa using hn)];simp
theorem Py{ks:List (Str×Nat×Pos)}(hs:jy G n f aa es ms)(hl:ks.length=es.length)(h0:ks≠[])(h15:ks.length<=15)(hn:(ks.map (·.1)).Nodup):
  dR G n f aa (.Dict (ks.map λk=>some (ET k)) es pos) (bnd (ja ms) λvs=>λσ=>some (.ok (.ref σ.length),σ++[.dict ((ks.map (·.1.cps.toList)).zip vs)])):=by
 intro A ag Ls ad σ s Q E r σ' C S Lc er P;have hall:(ks.map λk=>some (ET k)).all (·.isSome)=true:=by simp
 have hlen:(pairTrees (ks.map λk=>some (ET k)) es f.env pos).length=ks.length:=by rw[pairTrees_length _ _ _ _ hall (by simpa using hl)];simp
 refine wpAny_Dict_pairs (knd:=PySem.strKind G.prog G.w) (pairs:=pairTrees (ks.map λk=>some (ET k)) es f.env pos) (zip_pairTrees _ _ _ _ hall (by simpa using hl)) ?_ (by rw[hlen];exact h15) ?_
 ·intro e;rw[e]at hlen;exact h0 (List.length_eq_zero_iff.mp hlen.symm)
 have hfr:=fN s.heap;have k0:∀b o,s.heap.get? b=some o->(s.heap.push { cls:= .type "dict",data:= .dict #[] }).get? b=some o:=λb o e=>fc _ e;have S0:=S.of_keep k0;have p0:dE (f.L::Ls) ad ad s.heap _:=dE.of_keep k0;have Lc0:=Lc.step S p0;have P0:=P.after (h₁:=s.heap.push { cls:= .type "dict",data:= .dict #[] }) (tk₁:=s.toks) p0;have ha0:(s.heap.push { cls:= .type "dict",data:= .dict #[] }).get? s.heap.objs.size=some { cls:= .type "dict",data:= .dict #[] }:=gP _ rfl
 have naF:s.heap.objs.size ∉ f.L::Ls:=λm=>by refine vw (S.frs _ m) λ_ o h1 _=> ?_;rw[hfr]at h1;exact eC h1
 have nad:s.heap.objs.size ∉ ad:=λm=>by refine eN (S.adObj m) λo h1 _=> ?_;rw[hfr]at h1;exact eC h1
 refine(Mr (ks:=ks) hs hl).thn (s:={ s with heap:=s.heap.push { cls:= .type "dict",data:= .dict #[] } }) C S0 Lc0 er P0 λvs Ps h₁ tk₁ ak σ₁ ai ax rv am aj al=> ?_
 refine Pg aj ?_;clear aj;intro ey ez;subst ey;subst ez;refine oA (xq (prog:=G.prog) (w:=G.w) rv) λc1 c2=> ?_;have ha1:h₁.get? s.heap.objs.size=some { cls:= .type "dict",data:= .dict #[] }:=ax.pres.keep _ _ ha0 nad naF
 have nad1:s.heap.objs.size ∉ ak:=λm=>by
  rcases ax.new _ m with m|m
  ·exact nad m
  ·rw[ha0]at m;exact yt m
 refine⟨_,c1,⟨_,#[],0,ha1,⟨rfl,rfl,rfl⟩,rfl,λe he=>by simp at he,.nil,List.nodup_nil⟩,λh' hd hsb=> ?_⟩;rw[yP]at hd
 ·have kk:∀b o,b≠s.heap.objs.size->h₁.get? b=some o->h'.get? b=some o:=λb o hb e=>(hsb.2 b hb).trans e;have pr:me G (f.L::Ls) ak h₁ s.heap.objs.size:=⟨nad1,naF,S.size,λo e=>by rw[ha1]at e;replace e:=si e;subst e;exact rE ⟨by decide,λC=>by simp⟩⟩;have aq:=ai.priv pr kk;have im:=pr.im kk;have c3:ow G h' (ak++[s.heap.objs.size]) ((ks.map (·.1)).zip (Ps.map (·.2))) ((ks.map (·.1.cps.toList)).zip vs):=ow.mono (λv V r=>r.im im (List.prefix_append _ _)) c2
  have hd':h'.DictOf (PySem.strKind G.prog G.w) s.heap.objs.size ((ks.map (·.1)).zip (Ps.map (·.2))):=by simpa using hd
  have ay:=aq.adopt (mo:= .dict ((ks.map (·.1.cps.toList)).zip vs)) nad1 naF S.size ⟨_,hd',c3⟩
  refine o9 hd' λo' _ _ hd2 _=> ?_;clear hd';have aB:dE (f.L::Ls) ad (ak++[s.heap.objs.size]) s.heap h':=((p0.trans ax).priv hfr kk ⟨_,hd2⟩).adopt hfr;have:=P (.ref s.heap.objs.size) h' (tk₁+Ps.length) _ ay aB ⟨_,by rw[<-ai.len];simp,rfl⟩;exact this
 ·have h2:∀(ks:List (Str×Nat×Pos))(vs:List PV)(Ps:List (Value×Value)),yx G h₁ ak ks vs Ps->((ks.map (·.1)).zip (Ps.map (·.2))).map (·.1)=ks.map (·.1):=by
   intro ks
   induction ks with
   |nil=>intro vs Ps _;rfl
   |cons k ks ih=>
    intro vs Ps hp
    match vs,Ps,hp with
    |v::vs,P::Ps,⟨_,_,h3⟩=>simp[ih vs Ps h3]
    |[],_,hp=>exact hp.elim
    |_::_,[],hp=>exact hp.elim
  rw[qe,h2 _ _ _ rv];exact hn
theorem uv{h:Heap}{x:List Nat}:∀{ps:List (Str×Value)}{kvs:List (List Nat×D)},Ki h ps kvs->mx x kvs=none->valueAt ps ⟨x.toArray⟩=none
 |[],[],_,_=>rfl
 |p::ps,kv::kvs,⟨h1,h2,h3⟩,e=>by
  unfold mx at e;unfold valueAt;rw[List.find?_cons];by_cases q:kv.1=x
  ·rw[cH q]at e;exact yt e
  ·rw[cJ q]at e
   have:(decide (p.1=⟨x.toArray⟩))=false:=by rw[h1];exact ft λz=>q (by injection z with z;simpa using dN Array.toList z)
   rw[this];exact uv h3 e
 |[],_::_,x,_=>x.elim
 |_::_,[],x,_=>x.elim
theorem uw{h:Heap}{ad:List Addr}{x:List Nat}:∀{ps:List (Str×Value)}{kvs:List (List Nat×PV)},ow G h ad ps kvs->mx x kvs=none->valueAt ps ⟨x.toArray⟩=none
 |[],[],_,_=>rfl
 |p::ps,kv::kvs,⟨h1,h2,h3⟩,e=>by
  unfold mx at e;unfold valueAt;rw[List.find?_cons];by_cases q:kv.1=x
  ·rw[cH q]at e;exact yt e
  ·rw[cJ q]at e
   have:(decide (p.1=⟨x.toArray⟩))=false:=by rw[h1];exact ft λz=>q (by injection z with z;simpa using dN Array.toList z)
   rw[this];exact uw h3 e
 |[],_::_,x,_=>x.elim
 |_::_,[],x,_=>x.elim
def CK(σ:List MO):PV->Bool
 | .cd _=>true
 |v=>(lW σ v).isSome
def Ms(σ:List MO)(v:PV)(x:List Nat)(w:PV):Option PV:=match v with
 | .cd kvs=>some (match mx x kvs with|some y=> .d y|none=>w)
 |v=>(lW σ v).map λkvs=>(mx x kvs).getD w
def yQ(v:PV)(mk md:M PV):M PV:=λσ=>if CK σ v then bnd mk (λk=>bnd md λw=>λσ=>match k with| .d (.str x)=>(Ms σ v x w).map λr=>(.ok r,σ)|_=>none) σ else none
theorem Hg{b:Addr}{v:PV}{V:Value}(S:St G (b::F) ad σ h)(e:CK σ v=true)(r:eW G h ad v V):∃a ps,V= .ref a/\h.DictOf (PySem.strKind G.prog G.w) a ps/\(a == sysModules)=false:=by
 cases v with
 |cd kvs=>
  refine uM r λa ps ez1 hm hd hc=> ?_;clear r;subst ez1;exact⟨a,ps,rfl,hd.keep S.base,hm⟩
 |ref k=>
  refine eN r λa h1 ez1=> ?_;clear r;subst ez1;simp only[CK,lW]at e
  symm at e
  ·rename_i kvs q;refine eN (S.ads k a _ h1 q) λps hd hp=> ?_;have:=S.newA a (gu h1);refine o9 G.hg λo _ _ ho _=> ?_;have:=kH ho;refine⟨a,ps,rfl,hd,?_⟩;have h3:sysModules<G.h₀.objs.size:=Nat.lt_of_le_of_lt (by decide) this;exact beq_false_of_ne λz=>by subst z;exact absurd h3 (Nat.not_lt.mpr (S.newA _ (gu h1)))
  ·exact mY e
 |d x=>exact mY e
 |inst k=>exact mY e
 |cl xs=>exact mY e
theorem Pz{v w r:PV}{V W:Value}(S:St G F ad σ h)(rv:eW G h ad v V)(rw:eW G h ad w W)(e:Ms σ v x w=some r)(hV:V= .ref a):
  ∃ps,h.DictOf (PySem.strKind G.prog G.w) a ps/\eW G h ad r ((valueAt ps ⟨x.toArray⟩).getD W):=by
 cases v with
 |cd kvs=>
  refine uM rv λa' ps h1 hm hd hc=> ?_;clear rv;rw[hV]at h1;cases h1;refine⟨ps,hd.keep S.base,?_⟩;simp only[Ms]at e;replace e:=si e;subst e;cases q:mx x kvs with
  |none=>rw[uv hc q];exact rw
  |some y=>
   refine eN (qx hc q) λY e1 e2=> ?_;rw[e1];exact Rd.keep S.tupKeepBase e2
 |ref k=>
  refine eN rv λa' h1 h2=> ?_;clear rv;rw[hV]at h2;cases h2;simp only[Ms,lW]at e
  symm at e
  ·rename_i kvs q;refine eN (S.ads k a _ h1 q) λps hd hp=> ?_;refine⟨ps,hd,?_⟩;replace e:=si e;subst e;cases q:mx x kvs with
   |none=>rw[uw hp q];simpa [q] using rw
   |some y=>
    refine eN (vD hp q) λY e1 e2=> ?_;rw[e1];simpa [q] using e2
  ·exact eC e
 |d x=>exact eC e
 |inst k=>exact eC e
 |cl xs=>exact eC e
theorem Jb{o k d:cP}{apos:Pos}{mo mk md:M PV}(hline:(apos.endLine == pos.line)=true)(hbase:attributeBase o "get" f.env (eval o f.env)=eval o f.env)(ho:dR G n f aa o mo)(k0:W.isStarred k=false)(d0:W.isStarred d=false)(hk:dR G n f aa k mk)(hd:dR G n f aa d md):
  dR G n f aa (.Call (.Attribute o "get" apos) [k,d] [] pos) (bnd mo λv=>yQ v mk md):=by
 intro A ag Ls ad σ s Q E r σ' C S Lc er P;refine wpAny_Call_method_late hbase (by show((backTo pos (starEach [k,d] f.env)).all _ && _ && _)=true;rw[eb k0,eb d0];rfl) hline (by rw[eb k0,eb d0]) (ho.thn C S Lc er P λv V h₁ tk₁ ak σ₁ ai ax rv am aj al=> ?_);unfold yQ at aj
 symm at aj
 ·rename_i hD;refine iJ (Hg ai hD rv) λa ps ez1 hda hsm=> ?_;subst ez1;refine⟨_,_,PySem.F.plainAttrs_dict,PySem.F.slot_dict_get,PySem.F.type_dict_get,hda.typeIs,(λb e=>hda.mapOf.noDict b e),?_⟩;refine wpAny_dict_get2 (knd:=PySem.strKind G.prog G.w) hsm (hk.thn C ai am aj al λkv K ar aE aD aG aq aB rk aK ao aA=> ?_);refine hd.thn C aq aK ao aA λdv W au aH aI bs ay aC rw bj az aM=> ?_
  symm at az
  ·rename_i x;have rk:=rk.stepE aq aC;refine Rd.str_on rk λt=> ?_;refine eN (fe.mp az) λr0 e4 e5=> ?_;refine p1 e5 ?_;clear e5;intro ey ez;subst ey;subst ez;refine eN (Pz ay ((rv.stepE ai aB).stepE aq aC) rw e4 rfl) λps' hd3 r3=> ?_;exact⟨⟨x.toArray⟩,_,strKind_is _ _ _ _,hd3.mapOf,aM.now ay r3 _⟩
  ·exact eC az
 ·exact eC aj
end
section
variable{f:Fm}{aa:List (Option PV)}
structure vF(G:Gl)(h:Heap)(Y:List Addr):Prop where
 new:∀y ∈ Y,G.h₀.get? y=none
 rcd:∀y ∈ Y,∀o,h.get? y=some o->∃vs,o.data= .fields vs
theorem vF.not_ad{Y:List Addr}(r:vF G h Y)(S:St G F ad σ h){y:Addr}(m:y ∈ Y):y ∉ ad:=λz=>by
 refine oE (List.getElem?_of_mem z) λk hk=> ?_
 have hl:k<σ.length:=by rw[<-S.len];exact(ek.mp hk).1
 have hr:=S.ads k y _ hk (nQ hl);cases q:σ[k]with
 |list xs=>
  rw[q]at hr;refine mZ hr λitems _ h1 _=> ?_;clear hr;refine oE (r.rcd y m _ h1) λvs e=> ?_;cases e
 |dict kvs=>
  rw[q]at hr;refine eN hr λps oz1 _=> ?_;clear hr;obtain⟨o,_,_,h1,⟨h2,_⟩,h3,_⟩:=oz1;refine oE (r.rcd y m _ h1) λvs e=> ?_;rw[h3]at e;cases e
 |obj kvs=>
  rw[q]at hr;refine mZ hr λes n h1 _=> ?_;clear hr;refine oE (r.rcd y m _ h1) λvs e=> ?_;cases e
theorem vF.not_F{Y:List Addr}(r:vF G h Y)(S:St G F ad σ h){y:Addr}(m:y ∈ Y):y ∉ F:=λz=>by refine o8 (S.frs y z) λ_ o h1 es n h2=> ?_;refine oE (r.rcd y m _ h1) λvs e=> ?_;rw[h2]at e;cases e
theorem St.recs{Y:List Addr}(S:St G F ad σ h)(r:vF G h Y)(P:oP Y F h h'):St G F ad σ h'/\wR h h':=by
 have im:wR h h':=by
  refine⟨λb o vs n e hc hsq=> ?_,λb C d e=> ?_⟩
  ·have h1:b ∉ Y:=λm=>by
    refine oE (r.rcd b m o e) λws z=> ?_;rw[hsq]at z;cases z
   refine oE (P.there e h1) λsl e'=> ?_;exact⟨_,e',hc,rfl⟩
  ·refine P.keep b _ e (λm=> ?_) (λm=> ?_)
   ·refine oE (r.rcd b m _ e) λws z=> ?_;cases z
   ·refine o8 (S.frs b m) λ_ o h1 es n h2=> ?_;rw[e]at h1;replace h1:=si h1;subst h1;cases h2
 refine⟨⟨λb o e=>P.keep b o (S.base b o e) (λm=> ?_) (λm=> ?_),S.len,S.nd,λk a o h1 h2=> ?_,S.newA,λb m=> ?_,S.fnd,S.apart⟩,im⟩
 ·rw[r.new b m]at e;exact eC e
 ·have:=(S.frs b m).1;rw[rt this]at e;exact eC e
 ·have m:=gu h1;exact(S.ads k a o h1 h2).to (λx e=>P.keep a x e (λz=>r.not_ad S z m) (S.ad_not_F m)) im.tup λv V rr=>rr.im im (hO _)
 ·refine vw (S.frs b m) λh1 o h2 h3=> ?_;refine oE (P.slots b o h2 m (λz=>r.not_F S z m)) λsl e'=> ?_;exact⟨h1,_,e',h3⟩
theorem kK.recs{Y:List Addr}(p:kK X F ad ad' h h₁)(hn:∀y ∈ Y,h.get? y=none)(P:oP Y F h₁ h')(ex:∀b,h'.get? b=none->h.get? b=none):kK X F ad ad' h h':=
 ⟨p.pre,p.pres.trans P λb m=> .inr (hn b m),p.new,ex⟩
def Hh(G:Gl)(hs h:Heap)(x:Addr):Prop:=EL G hs h x\/yK G hs h x .none
theorem rG{base h:Heap}:∀{envs:List Env}{F:List Addr},envs.map (·.frame)=F.map some->(∀e ∈ envs,e.scope.kind≠.module)->(∀b ∈ F,base.get? b=none/\∃o,h.get? b=some o/\∃es n,o.data= .dict es n)->h.FunFrames base envs
 |[],_,_,_,_=>trivial
 |e::envs,[],h1,_,_=>by simp at h1
 |e::envs,b::F,h1,h2,h3=>by simp only[jg,List.cons.injEq]at h1;refine o8 (h3 b (.head _)) λh4 o h5 es n h6=> ?_;exact⟨h2 e (.head _),⟨b,o,h1.1,h4,h5,λvs z=>by rw[h6]at z;cases z⟩,rG h1.2 (λe m=>h2 e (.tail _ m)) λb m=>h3 b (.tail _ m)⟩
theorem Hi{env:Env}{hs:Heap}{x:Addr}{Q:Unit->Shared->Prop}{M:Model}
  (hA:A.frames=some (env::ag))(hL:env.frame=some L)(out:ag.map (·.frame)=Ls.map some)(kinds:∀e ∈ env::ag,e.scope.kind≠.module)
  (S:St G (L::Ls) ad σ s.heap)(hb:G.h₀.StaysIn hs)(hk:∀b,s.heap.get? b=none->hs.get? b=none)(fl:Hh G hs s.heap x)
  (hQ:∀h' Y,vF G s.heap Y->(∀y ∈ Y,hs.get? y=none)->oP Y (L::Ls) s.heap h'->(∀b,h'.get? b=none->hs.get? b=none)->yK G hs h' x .none->Q () { s with heap:=h' }):
  wpAny M A (leaving env (.ref x)) Q E s:=by
 have fresh0:∀b,hs.get? b=none->G.h₀.get? b=none:=λb e=>by
  cases q:G.h₀.get? b with
  |none=>rfl
  |some o=>rw[hb b o q]at e;exact yt e
 have st:∃(Y:List Addr)(a0:Value)(oe:Obj)(vs:Array Value),(∀y ∈ Y,hs.get? y=none)/\x ∈ Y/\s.heap.get? x=some oe/\oe.cls= .ref G.fC/\oe.data= .fields vs/\vs[0]? =some a0/\
   (∀y ∈ Y,∀o,s.heap.get? y=some o->∃vs,o.data= .fields vs)/\((vs[1]? =some .none)\/∃T oT ts,T ∈ Y/\vs[1]? =some (.ref T)/\T≠x/\s.heap.get? T=some oT/\oT.data= .fields ts/\ts[3]? =some .none):=by
  rcases fl with⟨h1,oe,vs,a0,h2,h3,h4,h5,h6⟩|⟨h1,a0,oe,vs,T,oT,ts,h2,⟨h3,h3'⟩,h4,h5,h6,h7,h8,h9,h10⟩
  ·exact⟨[x],a0,oe,vs,λy m=>by cases ff.mp m;exact h1,.head _,h2,h3,h4,h6,λy m o e=>by cases ff.mp m;rw[h2]at e;replace e:=si e;subst e;exact⟨_,h4⟩,.inl h5⟩
  ·refine⟨[x,T],a0,oe,vs,λy m=> ?_,.head _,h2,h3,h4,h3',λy m o e=> ?_,.inr ⟨T,oT,ts,.tail _ (.head _),h5,h7,h8,h9,h10⟩⟩
   ·rcases dj.mp m with rfl|m
    ·exact h1
    ·cases ff.mp m;exact h6
   ·rcases dj.mp m with rfl|m
    ·rw[h2]at e;replace e:=si e;subst e;exact⟨_,h4⟩
    ·cases ff.mp m;rw[h8]at e;replace e:=si e;subst e;exact⟨_,h9⟩
 refine Cv st λY a0 oe vs hY hx hoe hcl hdt h0 hrec hst=> ?_;clear st;have RY:vF G s.heap Y:=⟨λy m=>fresh0 y (hY y m),hrec⟩
 let base:=hideAll s.heap (Y++(L::Ls))
 have hbase:base.StaysIn s.heap:=λb o q=>of_hideAll _ q;have hbn:∀b ∈ Y++(L::Ls),base.get? b=none:=λb m=>hideAll_none _ m;have hF:s.heap.FunFrames base (env::ag):=rG (F:=L::Ls) (by simp[hL,out]) kinds λb m=>⟨hbn b (eF.mpr (.inr m)),(S.frs b m).2⟩
 have kF:∀h',Heap.LeftW base (env::ag) x (.ref G.fC) a0 s.heap h'->Q () { s with heap:=h' }:=λh'⟨k1,k2,k3,k4⟩=>by
  have P:oP Y (L::Ls) s.heap h':=⟨λb o e h1 h2=>k1 b o (hideAll_get _ e λm=>(eF.mp m).elim h1 h2),λb o e h1 h2=>by refine o8 (S.frs b h1) λ_ o' e' es n hd=> ?_;rw[e]at e';replace e':=si e';subst e';exact k4 b o e λvs z=>by rw[hd]at z;cases z⟩
  refine sS k3 λoe' vs' T' oT' ts' c1 oz1 c3 c4 c5 c6 c7 c8 c9=> ?_;clear k3;obtain⟨c2,c2'⟩:=oz1
  have ex:∀b,h'.get? b=none->hs.get? b=none:=λb e=>by
   by_cases m:b ∈ Y
   ·exact hY b m
   ·exact hk b (P.fresh e m)
  refine hQ h' Y RY hY P ex ⟨hY x hx,a0,oe',vs',T',oT',ts',c1,⟨c2,c2'⟩,c3,c4,?_,c6,c7,c8,c9⟩;cases q:hs.get? T' with
  |none=>rfl
  |some o=>
   exfalso
   cases q2:s.heap.get? T' with
   |none=>rw[hk T' q2]at q;exact eC q
   |some o2=>
    have m:T' ∈ Y++(L::Ls):=sR λm=>by have:=hideAll_get (Y++(L::Ls)) q2 m;rw[show(hideAll s.heap (Y++(L::Ls))).get? T'=none from c5]at this;exact eC this
    rcases eF.mp m with m|m
    ·rw[hY T' m]at q;exact eC q
    ·refine o8 (S.frs T' m) λ_ o3 e3 es n hd=> ?_;refine oE (P.slots T' o3 e3 m (RY.not_F S · m)) λsl e4=> ?_
     rw[c7]at e4;replace e4:=si e4;subst e4;rw[hd]at c8;cases c8
 rcases hst with h1|⟨T,oT,ts,hT,h1,hTx,h2,h3,h4⟩
 ·exact wpAny_leaving_firstW (base:=base) hA hF hL hoe hbase (hbn x (eF.mpr (.inl hx))) hdt h1 h0 λh' k=>kF h' (hcl▸k)
 ·exact wpAny_leaving_nextW (base:=base) hA hF hL ⟨oe,vs,T,oT,ts,hoe,⟨hcl,h0⟩,hdt,h1,hbn T (eF.mpr (.inl hT)),hTx,h2,h3,h4⟩ hbase (hbn x (eF.mpr (.inl hx))) kF
end
section
variable{f:Fm}{aa:List (Option PV)}
abbrev Lo:=List (Option PV)
inductive Fl where
 |nxt (aa:Lo)
 |brk (aa:Lo)
 |ret (v:PV)
def pg(G:Gl)(f:Fm)(Ls ad:List Addr)(s:Shared)(r:R Fl)(σ':List MO)(Q:Flow->Shared->Prop)(E:Value->Shared->Prop):Prop:=match r with
 | .ok (.nxt loc')=>∀h' tk ad',St G (f.L::Ls) ad' σ' h'->iG f.L Ls ad ad' s.heap h'->uq G h' ad' f loc'->Q .next { s with heap:=h',toks:=tk }
 | .ok (.brk loc')=>∀h' tk ad',St G (f.L::Ls) ad' σ' h'->iG f.L Ls ad ad' s.heap h'->uq G h' ad' f loc'->Q .brk { s with heap:=h',toks:=tk }
 | .ok (.ret v)=>∀V h' tk ad',St G (f.L::Ls) ad' σ' h'->iG f.L Ls ad ad' s.heap h'->eW G h' ad' v V->Q (.ret V) { s with heap:=h',toks:=tk }
 | .exc=>∀x h' tk ad',St G (f.L::Ls) ad' σ' h'->iG f.L Ls ad ad' s.heap h'->Hh G s.heap h' x->E (.ref x) { s with heap:=h',toks:=tk }
def oy(G:Gl)(n:Nat)(f:Fm)(aa:Lo)(body:List Stmt)(m:M Fl):Prop:=
 ∀(A:Around)(ag:List Env)(Ls ad:List Addr)(σ:List MO)(s:Shared)(Q:Flow->Shared->Prop)(E:Value->Shared->Prop)(r:R Fl)(σ':List MO),
  PassesOwn (model G.prog G.w) A f.env E->wK G A n f ag Ls->St G (f.L::Ls) ad σ s.heap->uq G s.heap ad f aa->m σ=some (r,σ')->pg G f Ls ad s r σ' Q E->
  wpAny (model G.prog G.w) A (execs body f.env) Q E s
theorem pg.of_ret{f:Fm}{r:R Fl}{a:Fl}{Q:Flow->Shared->Prop}(P:pg G f Ls ad s r σ' Q E)(e:ret a σ=some (r,σ')):pg G f Ls ad s (.ok a) σ Q E:=by refine oA (ky e) λez1 ez2=> ?_;subst ez1;subst ez2;exact P
theorem Hh.back{hs hs' h:Heap}{x:Addr}(F:Hh G hs' h x)(k:∀b,hs'.get? b=none->hs.get? b=none):Hh G hs h x:=by
 rcases F with F|F
 ·exact .inl (F.back k)
 ·exact .inr (F.back k)
theorem pg.after{ak:List Addr}{r:R Fl}{Q:Flow->Shared->Prop}{tk₁:Nat}
  (P:pg G f Ls ad s r σ' Q E)(p:iG f.L Ls ad ak s.heap h₁):pg G f Ls ak { s with heap:=h₁,toks:=tk₁ } r σ' Q E:=by
 cases r with
 |ok b=>
  cases b with
  |nxt loc'=>exactλh' tk ad' S q L=>P h' tk ad' S (p.trans q) L
  |brk loc'=>exactλh' tk ad' S q L=>P h' tk ad' S (p.trans q) L
  |ret v=>exactλV h' tk ad' S q L=>P V h' tk ad' S (p.trans q) L
 |exc=>exactλx h' tk ad' S q fl=>P x h' tk ad' S (p.trans q) (fl.back p.ex)
structure CL(G:Gl)(a:Addr)(cn:Str)(sc:Scope)(cd:Value)(body:List Stmt)(ps:List Str)(k:Nat)(ds:List D):Prop where
 fn:∃o fd,G.h₀.get? a=some o/\o.data= .func fd/\fd.body= .stmts body/\fd.scope=sc/\fd.qualname=cn/\fd.code=cd/\fd.globals=mainGlobals/\fd.closure=[]/\fd.builtins=builtinsNs/\
  (∀s Vs,G.h₀.StaysIn s.heap->Vs.length=k->∃Ds,dD G.h₀ Ds ds/\BindsTo s fd ⟨Vs,[]⟩ (ps.zip (Vs++Ds)))
 code:G.h₀.CodeRec cd cn
 cell:∀x ∈ sc.names,x.2≠.cell
 co:sc.isCoroutine=false
 gen:sc.isGenerator=false
 kind:sc.kind= .function
 pn:ps.length=k+ds.length
theorem sY(hn:ps.Nodup){x:Str}{V:Value}(h1:ps[i]? =some x)(h2:Vs[i]? =some V):(ps.zip Vs).reverse.lookup x=some V:=by
 induction ps generalizing Vs i with
 |nil=>simp at h1
 |cons p ps ih=>
  cases Vs with
  |nil=>simp at h2
  |cons W Vs=>
   rw[List.zip_cons_cons,List.reverse_cons,List.lookup_append];have hn':=gE.mp hn;cases i with
   |zero=>
    simp at h1 h2;subst h1;subst h2
    have:(ps.zip Vs).reverse.lookup p=none:=by
     cases q:(ps.zip Vs).reverse.lookup p with
     |none=>rfl
     |some Y=>
      exfalso
      have:=List.mem_reverse.mp (mem_of_lookup q);exact hn'.1 (List.of_mem_zip this).1
    rw[this];simp
   |succ i=>
    rw[ih hn'.2 (by simpa using h1) (by simpa using h2)];simp
theorem St.tail{b:Addr}{F ad:List Addr}{σ:List MO}{h:Heap}(S:St G (b::F) ad σ h):St G F ad σ h:=
 ⟨S.base,S.len,S.nd,S.ads,S.newA,λx m=>S.frs x (.tail _ m),(gE.mp S.fnd).2,λx m=>S.apart x (.tail _ m)⟩
theorem iG.out(k:∀b o,h.get? b=some o->h₁.get? b=some o)(hL:h.get? L=none)(p:iG L F ad ad' h₁ h'):dE F ad ad' h h':=by
 refine⟨p.pre,⟨λb o e h1 h2=>p.pres.keep b o (k b o e) (λm=> ?_) h2,λb o e h1 h2=>p.pres.slots b o (k b o e) h1 λm=> ?_⟩,λa m=> ?_,λb e=> ?_⟩
 ·rcases dj.mp m with rfl|m
  ·rw[hL]at e;exact eC e
  ·exact h1 m
 ·rcases dj.mp m with rfl|m
  ·rw[hL]at e;exact eC e
  ·exact h2 m
 ·rcases p.new a m with z|z
  ·exact .inl z
  ·refine .inr ?_;cases q:h.get? a with
   |none=>rfl
   |some o=>rw[k a o q]at z;exact yt z
 ·have z:=p.ex b e;cases q:h.get? b with
  |none=>rfl
  |some o=>rw[k b o q]at z;exact yt z
def i6(m:M Fl):M PV:=bnd m λfl=>match fl with
 | .ret v=>ret v
 | .nxt _=>ret (.d .none)
 | .brk _=>cU
noncomputable def eR(vs:List PV)(ds:List D)(more:Nat):Lo:=vs.map some++ds.map (λd=>some (.d d))++List.replicate more none
theorem jA.get{h:Heap}{ad:List Addr}:∀{vs:List PV}{Vs:List Value}{i:Nat}{v:PV},jA G h ad vs Vs->vs[i]? =some v->∃V,Vs[i]? =some V/\eW G h ad v V
 |v::vs,V::Vs,0,_,⟨h1,_⟩,e=>by simp at e;subst e;exact⟨V,rfl,h1⟩
 |v::vs,V::Vs,i+1,_,⟨_,h2⟩,e=>by simpa using jA.get h2 (by simpa using e)
 |[],_,_,_,_,e=>by simp at e
 |_::_,[],_,_,x,_=>x.elim
theorem jA.length{h:Heap}{ad:List Addr}:∀{vs:List PV}{Vs:List Value},jA G h ad vs Vs->Vs.length=vs.length
 |[],[],_=>rfl
 |_::_,_::_,⟨_,h2⟩=>dN (· +1) (jA.length h2)
 |[],_::_,x=>x.elim
 |_::_,[],x=>x.elim
theorem EU{cn:Str}{k:Nat}(fn:CL G a cn sc cd body ps k ds)(hn:(ps++more).Nodup)(hl:∀x ∈ ps++more,sc.names.lookup x=some .local)
  (hk:vs.length=k)
  {R:Result->Shared->Prop}
  (C:wK G A (n+1) f ag Ls)(S:St G (f.L::Ls) ad σ s.heap)(rv:jA G s.heap ad vs Vs)
  (h:∀L h₁ tk,s.heap.get? L=none->(∀b o,s.heap.get? b=some o->h₁.get? b=some o)->
   wK G (A.deeper (Fm.env ⟨cn,sc,L,a,cd,ps++more⟩)) n ⟨cn,sc,L,a,cd,ps++more⟩ (f.env::ag) (f.L::Ls)->St G (L::f.L::Ls) ad σ h₁->uq G h₁ ad ⟨cn,sc,L,a,cd,ps++more⟩ (eR vs ds more.length)->
   wpAny (model G.prog G.w) (A.deeper (Fm.env ⟨cn,sc,L,a,cd,ps++more⟩)) (execs body (Fm.env ⟨cn,sc,L,a,cd,ps++more⟩)) (λf s'=>R (.ok (.ret (match f with| .ret v=>v|_=> .none))) s')
    (λe s'=>wpAny (model G.prog G.w) (A.deeper (Fm.env ⟨cn,sc,L,a,cd,ps++more⟩)) (leaving (Fm.env ⟨cn,sc,L,a,cd,ps++more⟩) e) (λ_ s''=>R (.error e) s'') (λe' s''=>R (.error e') s'') s') { s with heap:=h₁,toks:=tk }):
  codeAny (model G.prog G.w) A (.call (.ref a) ⟨Vs,[]⟩) R s:=by
 refine vx fn.fn λo fd h1 h2 h3 ez1 ez2 ez3 h7 h8 h9 h10=> ?_;subst ez1;subst ez2;subst ez3;refine eN (h10 s Vs S.base (rv.length.trans hk)) λDs hD hb=> ?_;have hu:=C.hu;have hd:=C.hd;refine codeAny_call_def (by show A.depth<1000;exact(kI (.t A2 (.k 1000)) [.t (.a (.a A0 (.l 16 (.a A1 K1))) (.k 200)) (.k 9900),.t (.a A2 (.a A1 K1)) (.k 1000)]) hu hd) (S.base _ _ h1) h2 (G.lim.keeps S.base) (fn.code.keeps S.base) h3 hb fn.cell (λx hx=> ?_) (λh₁ hns hkeep=> ?_) fn.co fn.gen fn.kind
 ·have:=(List.of_mem_zip (show(x.1,x.2) ∈ _ from hx)).1;exact hl x.1 (eF.mpr (.inl this))
 have henv:callEnv fd s.heap.objs.size a=Fm.env ⟨fd.qualname,fd.scope,s.heap.objs.size,a,fd.code,ps++more⟩:=by unfold callEnv newEnv Fm.env envOf;simp only[h7,h8,h9]
 rw[henv];have hfr:=fN s.heap
 have nF:s.heap.objs.size ∉ f.L::Ls:=λz=>by refine vw (S.frs _ z) λ_ o e1 _=> ?_;rw[hfr]at e1;exact eC e1
 have nad:s.heap.objs.size ∉ ad:=λz=>by refine eN (S.adObj z) λo e1 _=> ?_;rw[hfr]at e1;exact eC e1
 have aV:=S.of_keep hkeep;have aP:dE (f.L::Ls) ad ad s.heap h₁:=dE.of_keep hkeep
 have ai:St G (s.heap.objs.size::f.L::Ls) ad σ h₁:=⟨aV.base,aV.len,aV.nd,aV.ads,aV.newA,λb z=>by
   rcases dj.mp z with rfl|z
   ·refine iO hns λo es ep e1 e2 _=> ?_;clear hns;exact⟨S.size,o,e1,es,ep,e2⟩
   ·exact aV.frs b z,gE.mpr ⟨nF,aV.fnd⟩,λb z=>by
   rcases dj.mp z with rfl|z
   ·exact nad
   ·exact aV.apart b z⟩
 have bO:jA G h₁ ad vs Vs:=rv.stepE S aP
 have C':wK G (A.deeper (Fm.env ⟨fd.qualname,fd.scope,s.heap.objs.size,a,fd.code,ps++more⟩)) n ⟨fd.qualname,fd.scope,s.heap.objs.size,a,fd.code,ps++more⟩ (f.env::ag) (f.L::Ls):=
  {
   hA:=by show Option.map _ A.frames=_;rw[C.hA];rfl
   out:=by show(f.env.frame::ag.map (·.frame))=_;rw[C.out];rfl
   kinds:=λe z=>by
    rcases dj.mp z with rfl|z
    ·show f.cs.kind≠.module;rw[C.hk];decide
    ·exact C.kinds e z
   hk:=fn.kind
   hh:=C.hh
   hd:=by show A.depth+1+n<1000;exact Z1 hd
   hu:=by show A.units+3+16 * n+200<9900;exact(ie (.t (.a (.a (.a A0 (.k 3)) (.l 16 A1)) (.k 200)) (.k 9900)) [.t (.a (.a A0 (.l 16 (.a A1 K1))) (.k 200)) (.k 9900)]) hu
   nd:=hn
   aa:=hl }
 have Lc:uq G h₁ ad ⟨fd.qualname,fd.scope,s.heap.objs.size,a,fd.code,ps++more⟩ (eR vs ds more.length):=by
  refine⟨_,hns,λi x v e1 e2=> ?_⟩;have hlen:Vs.length=vs.length:=rv.length;have hD2:=hD.length;have hpn:=fn.pn
  have hi:i<ps.length:=by refine sR λhi=> ?_;unfold eR at e2;rw[nO (by simp;exact(Kf (.l (.a A0 A4) A5) [.e A0 A1,.e A2 A0,.e A3 (.a A1 A4),.n (.t A5 A3)]) hk hlen hpn hi)]at e2;have:=gu e2;have:=List.eq_of_mem_replicate this;exact yt this
  have e1':ps[i]? =some x:=by rw[<-e1];exact(fH hi).symm
  unfold eR at e2;rw[fH (by simp;exact(Kf (.t A5 (.a A0 A4)) [.e A0 A1,.e A2 A0,.e A3 (.a A1 A4),.t A5 A3]) hk hlen hpn hi)]at e2;by_cases hi2:i<vs.length
  ·rw[fH (by simpa using hi2),List.getElem?_map]at e2;refine eN (fe.mp e2) λv' e3 e4=> ?_;replace e4:=sj e4;subst e4;refine eN (bO.get e3) λV e5 e6=> ?_;exact⟨V,sY (List.nodup_append.mp hn).1 e1' (by rw[fH (zq4 hk hlen hpn hi2)];exact e5),e6⟩
  ·rw[nO (by simpa using hi2),List.getElem?_map]at e2;refine eN (fe.mp e2) λd e3 e4=> ?_;replace e4:=si e4;subst e4;refine eN (hD.get e3) λV e5 e6=> ?_;refine⟨V,sY (List.nodup_append.mp hn).1 e1' (by rw[nO (zq3 hk hlen hpn hi2),hlen];simpa using e5),?_⟩;exact Rd.keep ai.tupKeepBase e6
 exact h s.heap.objs.size h₁ _ hfr hkeep C' ai Lc
theorem CM{cn:Str}{k:Nat}{m:M Fl}(fn:CL G a cn sc cd body ps k ds)(hn:(ps++more).Nodup)(hl:∀x ∈ ps++more,sc.names.lookup x=some .local)
  (ok:∀L,oy G n ⟨cn,sc,L,a,cd,ps++more⟩ (eR vs ds more.length) body m)(hk:vs.length=k)
  {R:Result->Shared->Prop}{r:Internal.R PV}
  (C:wK G A (n+1) f ag Ls)(S:St G (f.L::Ls) ad σ s.heap)(rv:jA G s.heap ad vs Vs)(e:i6 m σ=some (r,σ'))(P:qJ G (f.L::Ls) ad s r σ' (λv s'=>R (.ok (.ret v)) s') (λe s'=>R (.error e) s') (RV G)):
  codeAny (model G.prog G.w) A (.call (.ref a) ⟨Vs,[]⟩) R s:=by
 refine EU fn hn hl hk C S rv λL h₁ tk hfr hkeep C' ai Lc=> ?_;have aP:dE (f.L::Ls) ad ad s.heap h₁:=dE.of_keep hkeep
 have kF:∀{h':Heap}{ad':List Addr}{σ₁:List MO},St G (L::f.L::Ls) ad' σ₁ h'->iG L (f.L::Ls) ad ad' h₁ h'->St G (f.L::Ls) ad' σ₁ h'/\dE (f.L::Ls) ad ad' s.heap h':=
  λS q=>⟨S.tail,iG.out hkeep hfr q⟩
 rcases nG e with⟨b,σ₁,e1,e2⟩|⟨e1,rfl⟩
 ·refine ok L _ _ _ ad σ _ _ _ (.ok b) σ₁ PassesOwn.leaving C' ai Lc e1 ?_;cases b with
  |nxt loc'=>
   have P:=P.of_ret e2
   exactλh' tk ad' S' q _=>P .none h' tk ad' (kF S' q).1 (kF S' q).2 Rd.none
  |ret v=>
   have P:=P.of_ret e2
   exactλV h' tk ad' S' q rr=>P V h' tk ad' (kF S' q).1 (kF S' q).2 rr
  |brk loc'=>exact eC e2
 ·refine ok L _ _ _ ad σ _ _ _ .exc σ' PassesOwn.leaving C' ai Lc e1 ?_;intro x h' tk ad' S' q fl;refine Hi (hs:=s.heap) C'.hA rfl C'.out (λe z=> ?_) S' S.base (λb z=>(iG.out hkeep hfr q).ex b z) (fl.back aP.ex) λh'' Y rY hY pY ex fl'=> ?_
  ·rcases dj.mp z with rfl|z
   ·show sc.kind≠.module;rw[fn.kind];decide
   ·exact C'.kinds e z
  ·refine oA (S'.recs rY pY) λaq im=> ?_
   have q2:dE (f.L::Ls) ad ad' s.heap h'':=by
    have q1:=(kF S' q).2;refine⟨q1.pre,⟨λb o e h1 h2=> ?_,λb o e h1 h2=> ?_⟩,q1.new,ex⟩
    ·have e':=q1.pres.keep b o e h1 h2;refine pY.keep b o e' (λz=>by rw[hY b z]at e;exact eC e) (λz=> ?_);rcases dj.mp z with rfl|z
     ·rw[hfr]at e;exact eC e
     ·exact h2 z
    ·refine oE (q1.pres.slots b o e h1 h2) λsl e'=> ?_;refine oE (pY.slots b _ e' (.tail _ h1) (λz=>by rw[hY b z]at e;exact eC e)) λsl' e''=> ?_;exact⟨sl',e''⟩
   exact P x h'' tk ad' aq.tail q2 fl'
end
variable{aa:Lo}{mo:Lo->M Fl}{mt:Lo->M Bool}{mb:Lo->M Fl}{asg:Lo->PV->Option Lo}
section
variable{f:Fm}{aa:List (Option PV)}
def fK(G:Gl)(n:Nat)(a:Addr)(sem:List PV->M PV):Prop:=
 ∀(f:Fm)(A:Around)(ag:List Env)(Ls ad:List Addr)(σ:List MO)(s:Shared)(R:Result->Shared->Prop)(vs:List PV)(Vs:List Value)(r:Internal.R PV)(σ':List MO),
  wK G A n f ag Ls->St G (f.L::Ls) ad σ s.heap->jA G s.heap ad vs Vs->sem vs σ=some (r,σ')->qJ G (f.L::Ls) ad s r σ' (λv s'=>R (.ok (.ret v)) s') (λe s'=>R (.error e) s') (RV G)->
  codeAny (model G.prog G.w) A (.call (.ref a) ⟨Vs,[]⟩) R s
theorem fK.prim(h:fK G n a sem):rF G n f (.ref a) sem:=by intro A ag Ls ad σ s Q E vs Vs r σ' C S rv e P;exact wpAny_call (h f A ag Ls ad σ s _ vs Vs r σ' C S rv e P)
theorem PA{x:Str}(hx:f.cs.names.lookup x=some .globalImplicit)(hg:G.mg x=some (.ref a))(hd:(x ==("__debug__":Str))=false)(hkp:keepIn G.K (.ref a)=true)
  (hs:jy G n f aa es ms)(hc:fK G n a sem):dR G n f aa (.Call (.Name x np) es [] pos) (bnd (ja ms) sem):=by
 intro A ag Ls ad σ s Q E r σ' C S Lc er P;refine nU (Name_function_global C.hk hx (loadGlobal_global (env:=f.env) (G.hg.keeps S.base) hg ?_) hd);cases hs with
 |nil=>
  have e':sem [] σ=some (r,σ'):=er;exact callWith_K0 (G.KX.keeps S.base) hkp (hc.prim A ag Ls ad σ s Q E [] [] r σ' C S trivial e' P)
 |cons h0 h1 hs=>
  refine callWith_K (G.KX.keeps S.base) hkp ((oQ (.cons h0 h1 hs)).thn C S Lc er P λvs Vs h₁ tk₁ ak σ₁ ai ax rv am aj al=>⟨G.KX.keeps ai.base,?_⟩) (eb h0) hs.plain;exact hc.prim A ag Ls ak σ₁ _ _ _ vs Vs r σ' C ai rv aj al
theorem eW.stepS{v:PV}{V:Value}(r:eW G h ad v V)(S:St G (L::F) ad σ h)(P:iG L F ad ad' h h'):eW G h' ad' v V:=
 r.step (F:=F) S (λa m=>by
  rcases dj.mp m with rfl|m
  ·exact .inr (.head _)
  ·exact .inl m) (λ_ m=> .tail _ m) P
theorem qO{x:Str}{v:PV}{V:Value}{Q:Unit->Shared->Prop}(hx:f.names[i]? =some x)
  (C:wK G A n f ag Ls)(S:St G (f.L::Ls) ad σ s.heap)(Lc:uq G s.heap ad f aa)(rv:eW G s.heap ad v V)
  (h:∀h',St G (f.L::Ls) ad σ h'->iG f.L Ls ad ad s.heap h'->uq G h' ad f (aa.set i (some v))->Q () { s with heap:=h',toks:=s.toks+1 }):
  wpAny (model G.prog G.w) A (storeName f.env x V) Q E s:=by
 refine eN Lc λm hn hv=> ?_;clear Lc;have hkind:f.env.kindOf x=some .local:=C.aa x (gu hx)
 have hp:(f.env.scope.kind == .class ||(f.env.scope.kind == .module && f.env.locals != f.env.globals))=false:=by
  show(f.cs.kind == .class ||(f.cs.kind == .module && _))=false
  rw[C.hk];rfl
 refine wpAny_storeName_local hkind hn (λh' hn' hs=> ?_) hp;have hLF:f.L ∉ Ls:=(gE.mp S.fnd).1;have nad:f.L ∉ ad:=S.apart _ (.head _);have kk:∀b o,b≠f.L->s.heap.get? b=some o->h'.get? b=some o:=λb o hb e=>(hs.2 b hb).trans e
 have p:iG f.L Ls ad ad s.heap h':=by
  refine⟨hO _,⟨λb o e h1 _=>kk b o (λz=>h1 (z▸.head _)) e,λb o e h1 h2=>⟨o.slots,kk b o (λz=>h2 (z▸.head _)) e⟩⟩,λ_ z=> .inl z,λb e=> ?_⟩;by_cases hb:b=f.L
  ·subst hb;refine o9 hn' λo _ _ e1 _=> ?_;clear hn';rw[show h'.get? f.L=some o from e1]at e;exact yt e
  ·exact((hs.2 b hb).symm.trans e)
 have im:wR s.heap h':=by
  refine o8 (S.frs f.L (.head _)) λ_ oL eL es n' hL=> ?_;refine⟨λb o vs n e hc hsq=>⟨o,kk b o (λz=> ?_) e,hc,rfl⟩,λb C d e=>kk b _ (λz=> ?_) e⟩
  ·subst z;rw[e]at eL;replace eL:=sj eL;subst eL;rw[hL]at hsq;cases hsq
  ·subst z;rw[e]at eL;replace eL:=si eL;subst eL;cases hL
 have S':St G (f.L::Ls) ad σ h':=by
  refine⟨λb o e=>kk b o (λz=> ?_) (S.base b o e),S.len,S.nd,λk a o h1 h2=> ?_,S.newA,λb z=> ?_,S.fnd,S.apart⟩
  ·have:=(S.frs f.L (.head _)).1;rw[z,rt this]at e;exact eC e
  ·exact(S.ads k a o h1 h2).to (λx e=>kk a x (λz=>nad (z▸gu h1)) e) im.tup λv V rr=>rr.im im (hO _)
  ·rcases dj.mp z with rfl|z
   ·refine iO hn' λo es ep e1 e2 _=> ?_;clear hn';exact⟨(S.frs _ (.head _)).1,o,e1,es,ep,e2⟩
   ·refine vw (S.frs b (.tail _ z)) λh1 o h2 h3=> ?_;exact⟨h1,o,kk b o (λz'=>hLF (z'▸z)) h2,h3⟩
 refine h h' S' p ⟨_,hn',λj y u e1 e2=> ?_⟩;by_cases hj:i=j
 ·subst hj;have hxy:y=x:=Option.some.inj (e1.symm.trans hx);subst hxy;rw[List.getElem?_set]at e2
  symm at e2
  ·split at e2
   ·cases e2;exact⟨V,by simp,rv.im im (hO _)⟩
   ·exact eC e2
  ·rename_i z;exact absurd rfl z
 ·rw[o7 hj]at e2;refine eN (hv j y u e1 e2) λU e3 e4=> ?_;refine⟨U,?_,e4.im im (hO _)⟩;rw[cJ]
  ·exact e3
  ·intro z;subst z;obtain⟨p1,q1⟩:=ek.mp hx;obtain⟨p2,q2⟩:=ek.mp e1;have pw:=List.pairwise_iff_getElem.mp C.nd;rcases Nat.lt_trichotomy i j with l|l|l
   ·exact pw i j p1 p2 l (q1.trans q2.symm)
   ·exact hj l
   ·exact pw j i p2 p1 l (q2.trans q1.symm)
def jB(G:Gl)(n:Nat)(f:Fm)(aa:Lo)(st:Stmt)(m:M Fl):Prop:=
 ∀(A:Around)(ag:List Env)(Ls ad:List Addr)(σ:List MO)(s:Shared)(Q:Flow->Shared->Prop)(E:Value->Shared->Prop)(r:R Fl)(σ':List MO),
  PassesOwn (model G.prog G.w) A f.env E->wK G A n f ag Ls->St G (f.L::Ls) ad σ s.heap->uq G s.heap ad f aa->m σ=some (r,σ')->pg G f Ls ad s r σ' Q E->
  wpAny (model G.prog G.w) A (exec st f.env) Q E s
theorem I5.thnS{α':Type}{t:Sem α'}{m:M α}{Rl:Heap->List Addr->α->α'->Prop}(ok:I5 G n f aa t m Rl)
  {Q:α'->Shared->Prop}{r:R Fl}{k:α->M Fl}{Q':Flow->Shared->Prop}
  (C:wK G A n f ag Ls)(S:St G (f.L::Ls) ad σ s.heap)(Lc:uq G s.heap ad f aa)(e:bnd m k σ=some (r,σ'))(P:pg G f Ls ad s r σ' Q' E)
  (h:∀b a h₁ tk₁ ak σ₁,St G (f.L::Ls) ak σ₁ h₁->dE (f.L::Ls) ad ak s.heap h₁->Rl h₁ ak b a->uq G h₁ ak f aa->k b σ₁=some (r,σ')->pg G f Ls ak { s with heap:=h₁,toks:=tk₁ } r σ' Q' E->
   Q a { s with heap:=h₁,toks:=tk₁ }):wpAny (model G.prog G.w) A t Q E s:=by
 have hLF:f.L ∉ Ls:=(gE.mp S.fnd).1;rcases nG e with⟨b,σ₁,e1,e2⟩|⟨e1,rfl⟩
 ·exact ok A ag Ls ad σ s Q E _ _ C S Lc e1 λa h₁ tk₁ ak ai p R=>h b a h₁ tk₁ ak σ₁ ai p R (Lc.step S p) e2 (P.after (p.toS hLF))
 ·exact ok A ag Ls ad σ s Q E _ _ C S Lc e1 λx h' tk ad' S' p fl=>P x h' tk ad' S' (p.toS hLF) (.inr fl)
theorem wT:oy G n f aa body cU:=λ_ _ _ _ _ _ _ _ _ _ _ _ _ _ e _=>by exact eC e
theorem jR{st:Stmt}:jB G n f aa st cU:=λ_ _ _ _ _ _ _ _ _ _ _ _ _ _ e _=>by exact eC e
theorem gS:dR G n f aa e cU:=λ_ _ _ _ _ _ _ _ _ _ _ _ _ e _=>by exact eC e
theorem wU:uN G n f aa e cU:=λ_ _ _ _ _ _ _ _ _ _ _ _ _ e _=>by exact eC e
theorem pg.now{Q:Flow->Shared->Prop}(P:pg G f Ls ad s (.ok (.nxt aa)) σ Q E)(S:St G (f.L::Ls) ad σ s.heap)(Lc:uq G s.heap ad f aa)(tk:Nat):Q .next { s with heap:=s.heap,toks:=tk }:=
 P s.heap tk ad S (kK.refl ..) Lc
theorem ko:oy G n f aa [] (ret (.nxt aa)):=by intro A ag Ls ad σ s Q E r σ' hE C S Lc e P;have P:=P.of_ret e;exact wpAny_execs_nil (P.now S Lc s.toks)
def dn(m:M Fl)(k:Lo->M Fl):M Fl:=bnd m λfl=>match fl with
 | .nxt loc'=>k loc'
 | .brk loc'=>ret (.brk loc')
 | .ret v=>ret (.ret v)
theorem eh{st:Stmt}{rest:List Stmt}{m:M Fl}{k:Lo->M Fl}(h:jB G n f aa st m)(hr:∀loc',oy G n f loc' rest (k loc')):oy G n f aa (st::rest) (dn m k):=by
 intro A ag Ls ad σ s Q E r σ' hE C S Lc e P;refine nV ?_;unfold dn at e;rcases nG e with⟨fl,σ₁,e1,e2⟩|⟨e1,rfl⟩
 ·cases fl with
  |nxt loc'=>exact h A ag Ls ad σ s _ E _ _ hE C S Lc e1 λh' tk ad' S' p L'=>hr loc' A ag Ls ad' σ₁ _ Q E r σ' hE C S' L' e2 (P.after p)
  |brk loc'=>
   have P:=P.of_ret e2;exact h A ag Ls ad σ s _ E _ _ hE C S Lc e1 P
  |ret v=>
   have P:=P.of_ret e2;exact h A ag Ls ad σ s _ E _ _ hE C S Lc e1 P
 ·exact h A ag Ls ad σ s _ E _ _ hE C S Lc e1 P
theorem oz{st:Stmt}{m:M Fl}(h:jB G n f aa st m):oy G n f aa [st] m:=by
 intro A ag Ls ad σ s Q E r σ' hE C S Lc e P;refine nV (h A ag Ls ad σ s _ E r σ' hE C S Lc e ?_);cases r with
 |ok fl=>
  cases fl with
  |nxt loc'=>exactλh' tk ad' S' p L'=>wpAny_execs_nil (P h' tk ad' S' p L')
  |brk loc'=>exact P
  |ret v=>exact P
 |exc=>exact P
noncomputable def rH(aa:Lo)(i:Nat)(v:PV):Lo:=aa.set i (some v)
theorem gt{x:Str}{xp:Pos}(hx:f.names[i]? =some x)(hs:swapsWith e (some (.Name x xp)) pos.line f.env=pure false)(he:dR G n f aa e m):
  jB G n f aa (.Assign [.Name x xp] e pos) (bnd m λv=>ret (.nxt (rH aa i v))):=by
 intro A ag Ls ad σ s Q E r σ' hE C S Lc er P;refine wpAny_Assign_Name (he.thnS C S Lc er P λv V h₁ tk₁ ak σ₁ ai ax rv am aj al=> ?_) hs;have al:=al.of_ret aj;exact qO hx C ai am rv λh' S' p' L'=>al h' _ ak S' p' L'
theorem nY{t:cP}{b o:List Stmt}{mt:M Bool}{mb mo:M Fl}(ht:uN G n f aa t mt)(hb:oy G n f aa b mb)(ho:oy G n f aa o mo):jB G n f aa (.If t b o pos) (bnd mt λc=>match c with|true=>mb|false=>mo):=by
 intro A ag Ls ad σ s Q E r σ' hE C S Lc er P;refine wpAny_If (ht.thnS C S Lc er P λc c' h₁ tk₁ ak σ₁ ai ax rv am aj al=> ?_);subst rv;cases c
 ·exact ho A ag Ls ak σ₁ _ Q E r σ' hE C ai am aj al
 ·exact hb A ag Ls ak σ₁ _ Q E r σ' hE C ai am aj al
theorem uP(he:dR G n f aa e m):jB G n f aa (.Return (some e) pos) (bnd m λv=>ret (.ret v)):=by intro A ag Ls ad σ s Q E r σ' hE C S Lc er P;have hLF:f.L ∉ Ls:=(gE.mp S.fnd).1;refine wpAny_Return_some (he.thnS C S Lc er P λv V h₁ tk₁ ak σ₁ ai ax rv am aj al=> ?_);have al:=al.of_ret aj;exact al V h₁ tk₁ ak ai (kK.refl ..) rv
theorem PB:jB G n f aa (.Return none pos) (ret (.ret (.d .none))):=by intro A ag Ls ad σ s Q E r σ' hE C S Lc er P;have P:=P.of_ret er;exact wpAny_Return_none (P .none s.heap s.toks ad S (kK.refl ..) Rd.none)
theorem Mt:jB G n f aa (.Break pos) (ret (.brk aa)):=by intro A ag Ls ad σ s Q E r σ' hE C S Lc er P;have P:=P.of_ret er;show wpAny _ _ (do standAt pos;pure Flow.brk) _ _ _;exact cQ (iN (dc (P s.heap s.toks ad S (kK.refl ..) Lc)))
theorem CO(he:dR G n f aa e m)(hi:interactive f.env=false)(hs:swapsWith e none pos.line f.env=pure false):jB G n f aa (.Expr e pos) (bnd m λ_=>ret (.nxt aa)):=by intro A ag Ls ad σ s Q E r σ' hE C S Lc er P;refine wpAny_Expr_any (he.thnS C S Lc er P λv V h₁ tk₁ ak σ₁ ai ax rv am aj al=> ?_) hi hs;have al:=al.of_ret aj;exact al.now ai am tk₁
def PC(op:Operator)(x y:D):Option D:=match op with
 | .Add=>Kk x y
 | .Sub=>yL (λa b=>some (.int (a -b))) x y
 | .FloorDiv=>yL (λa b=>if 0<b/\b<1000000 then some (.int (a.fdiv b))else none) x y
 |_=>none
theorem Jc{op:Operator}{a b c:D}{V W:Value}(e:PC op a b=some c)(ra:Rd s.heap V a)(rb:Rd s.heap W b)
  (h:∀X tk,Rd s.heap X c->Q X { s with heap:=s.heap,toks:=tk }):wpAny (model G.prog G.w) A (inplaceOp op V W) Q E s:=by
 cases op with
 |Add=>
  rcases EM e with e|e
  ·refine ii_on e ra rb λi j t u e=> ?_;replace e:=si e;subst e;exact PyProof.Rows.iadd_int (h _ _ (.int ..))
  ·refine ss_on e ra rb λx y t u e=> ?_;exact oA (I7 e) λe1 e2=>SB.iadd (λt' tk=>h _ tk (e2 _)) e1
 |Sub=>
  refine ii_on e ra rb λi j t u e=> ?_;replace e:=si e;subst e;exact PyProof.Rows.isub_int (h _ _ (.int ..))
 |FloorDiv=>
  refine ii_on e ra rb λi j t u e=> ?_;refine oA (I6 e) λhlt e=> ?_;subst e;refine PyProof.Rows.ifloordiv_int (VD hlt) (h _ _ (.int ..)) ?_;exact Or.inl (PyProof.noPylong_small (VC hlt))
 |_=>exact eC e
def uQ(op:Operator):PV->PV->Option PV
 | .d a,.d b=>(PC op a b).map .d
 |_,_=>none
theorem vG{o:Option α}{f:α->M β}{r:R β}(e:bnd (lift o) f σ=some (r,σ')):∃a,o=some a/\f a σ=some (r,σ'):=by
 cases o with
 |none=>exact eC e
 |some a=>exact⟨a,rfl,e⟩
theorem Mu{x:Str}{xp:Pos}{op:Operator}(hx:f.names[i]? =some x)(he:dR G n f aa e m):
  jB G n f aa (.AugAssign (.Name x xp) op e pos) (bnd (lift (aa[i]?).join) λold=>bnd m λv=>bnd (lift (uQ op old v)) λw=>ret (.nxt (rH aa i w))):=by
 intro A ag Ls ad σ s Q E r σ' hE C S Lc er P;refine wpAny_AugAssign_Name ?_;refine eN (vG er) λold e3 e2=> ?_;refine eN Lc λmm hn hv=> ?_;clear Lc
 have e5:aa[i]? =some (some old):=by
  cases q:aa[i]? with
  |none=>rw[q]at e3;exact eC e3
  |some y=>rw[q]at e3;exact dN some e3
 refine eN (hv i x old hx e5) λV hV rV=> ?_;refine wpAny_loadName_local C.hk (C.aa x (gu hx)) hn hV ?_;refine he.thnS C S ⟨mm,hn,hv⟩ e2 P λv W h₁ tk₁ ak aG ai ax rw am aj al=> ?_;have bP:=rV.stepE S ax;refine eN (vG aj) λw e8 e7=> ?_;refine oA (ky e7) λez1 ez2=> ?_;subst ez1;subst ez2;unfold uQ at e8;split at e8
 ·refine eN (fe.mp e8) λc e9 e10=> ?_;subst e10;exact Jc e9 bP rw λX tk rX=>qO (v:= .d c) hx C ai am rX λh' S' p' L'=>al h' _ ak S' p' L'
 ·exact eC e8
end
section
variable{f:Fm}{aa:List (Option PV)}
noncomputable def fw(mt:Lo->M Bool)(mb mo:Lo->M Fl):Nat->Lo->M Fl
 | 0,_=>cU
 |k+1,aa=>bnd (mt aa) λc=>match c with
  |false=>mo aa
  |true=>bnd (mb aa) λfl=>match fl with
   | .nxt loc'=>fw mt mb mo k loc'
   | .brk loc'=>ret (.nxt loc')
   | .ret v=>ret (.ret v)
theorem Hj{t:cP}{b o:List Stmt}(ht:∀aa,uN G n f aa t (mt aa))(hb:∀aa,oy G n f aa b (mb aa))(ho:∀aa,oy G n f aa o (mo aa)):
  ∀(k:Nat)(aa:Lo)(A:Around)(ag:List Env)(Ls ad:List Addr)(σ:List MO)(s:Shared)(Q:Flow->Shared->Prop)(E:Value->Shared->Prop)(r:R Fl)(σ':List MO),
  PassesOwn (model G.prog G.w) A f.env E->wK G A n f ag Ls->St G (f.L::Ls) ad σ s.heap->uq G s.heap ad f aa->fw mt mb mo k aa σ=some (r,σ')->pg G f Ls ad s r σ' Q E->
  WhlRest G.prog G.w A E f.env t b o Q k s:=by
 intro k
 induction k with
 |zero=>exactλ_ _ _ _ _ _ _ _ _ _ _ _ _ _ _ e _=>eC e
 |succ k ih=>
  intro aa A ag Ls ad σ s Q E r σ' hE C S Lc e P;refine whl_turn hE ((ht aa).thnS C S Lc e P λc c' h₁ tk₁ ak σ₁ ai ax rv am aj al=> ?_);subst rv;cases c with
  |false=>exact .no rfl (ho aa A ag Ls ak σ₁ _ Q E r σ' hE C ai am aj al)
  |true=>
   refine .yes rfl ?_;rcases nG aj with⟨fl,aG,e2,e3⟩|⟨e2,rfl⟩
   ·refine hb aa A ag Ls ak σ₁ _ _ E (.ok fl) aG hE C ai am e2 ?_;cases fl with
    |nxt loc'=>exactλh' tk ad' S' p' L'=>ih loc' A ag Ls ad' aG _ Q E r σ' hE C S' L' e3 (al.after p')
    |brk loc'=>
     refine oA (ky e3) λez1 ez2=> ?_;subst ez1;subst ez2;exact al
    |ret v=>
     refine oA (ky e3) λez1 ez2=> ?_;subst ez1;subst ez2;exact al
   ·exact hb aa A ag Ls ak σ₁ _ _ E .exc σ' hE C ai am e2 al
theorem vH{t:cP}{b o:List Stmt}(k:Nat)(ht:∀aa,uN G n f aa t (mt aa))(hb:∀aa,oy G n f aa b (mb aa))(ho:∀aa,oy G n f aa o (mo aa)):
  jB G n f aa (.While t b o pos) (fw mt mb mo k aa):=
 λA ag Ls ad σ s Q E r σ' hE C S Lc e P=>whl_start k (Hj ht hb ho k aa A ag Ls ad σ s Q E r σ' hE C S Lc e P)
def yR(G:Gl)(n:Nat)(f:Fm)(tgt:cP)(asg:Lo->PV->Option Lo):Prop:=
 ∀(A:Around)(ag:List Env)(Ls ad:List Addr)(σ:List MO)(s:Shared)(Q:Unit->Shared->Prop)(E:Value->Shared->Prop)(aa loc':Lo)(v:PV)(V:Value),
  wK G A n f ag Ls->St G (f.L::Ls) ad σ s.heap->uq G s.heap ad f aa->eW G s.heap ad v V->asg aa v=some loc'->
  (∀h' tk,St G (f.L::Ls) ad σ h'->iG f.L Ls ad ad s.heap h'->uq G h' ad f loc'->Q () { s with heap:=h',toks:=tk })->
  wpAny (model G.prog G.w) A (assign tgt f.env V) Q E s
def qP(i:Nat):Lo->PV->Option Lo:=λaa v=>some (rH aa i v)
theorem sZ{x:Str}{xp:Pos}(hx:f.names[i]? =some x):yR G n f (.Name x xp) (qP i):=by intro A ag Ls ad σ s Q E aa loc' v V C S Lc rv e h;replace e:=si e;subst e;exact PySem.wpAny_assign_Name (qO hx C S Lc rv λh' S' p' L'=>h h' _ S' p' L')
noncomputable def rI(aa:Lo):List Nat->List D->Lo
 |i::is,v::vs=>rI (rH aa i (.d v)) is vs
 |_,_=>aa
noncomputable def yS(f:Fm):List (Str×Pos)->List Nat->Prop
 |[],[]=>True
 |p::ps,i::is=>f.names[i]? =some p.1/\yS f ps is
 |_,_=>False
noncomputable def EV(p:Str×Pos):cP:= .Name p.1 p.2
theorem Kn(C:wK G A n f ag Ls):∀{ps:List (Str×Pos)}{is:List Nat}{xs:List D}{Vs:List Value}{aa:Lo}{s:Shared}{Q:Unit->Shared->Prop},
  yS f ps is->xs.length=is.length->St G (f.L::Ls) ad σ s.heap->uq G s.heap ad f aa->dD s.heap Vs xs->
  (∀h' tk,St G (f.L::Ls) ad σ h'->iG f.L Ls ad ad s.heap h'->uq G h' ad f (rI aa is xs)->Q () { s with heap:=h',toks:=tk })->
  wpAny (model G.prog G.w) A (assignInOrder (ps.map λp=>assign (EV p) f.env) Vs) Q E s:=by
 intro ps
 induction ps with
 |nil=>intro is xs Vs aa s Q hn hl S Lc rv h;cases is with
  |cons i is=>exact hn.elim
  |nil=>
   have q:xs=[]:=List.length_eq_zero_iff.mp hl;subst q;exact dc (h s.heap s.toks S (kK.refl ..) Lc)
 |cons p ps ih=>intro is xs Vs aa s Q hn hl S Lc rv h;cases is with
  |nil=>exact hn.elim
  |cons i is=>
   refine oA hn λh1 h2=> ?_;cases rv with
   |nil=>exact nomatch hl
   | @cons V Vs x xs r1 r2=>
     show wpAny _ _ (do holding Vs (assign (EV p) f.env V);assignInOrder (ps.map λp=>assign (EV p) f.env) Vs) _ _ _;refine cQ (kb (PySem.wpAny_assign_Name (qO (v:= .d x) h1 C S Lc r1 λh' S' p' L'=> ?_)))
     have r3:dD h' Vs xs:=by
      refine dD.keep (S.tupKeep (λa m=> ?_) p') r2;rcases dj.mp m with rfl|m
      ·exact .inr (.head _)
      ·exact .inl m
     exact ih (s:={ s with heap:=h',toks:=s.toks+1 }) h2 (Nat.succ.inj hl) S' L' r3 λh'' tk S'' p'' L''=>h h'' tk S'' (p'.trans p'') L''
theorem yy{env:Env}:∀ps:List (Str×Pos),assignEach (ps.map EV) env=ps.map λp=>(false,assign (EV p) env)
 |[]=>rfl
 |p::ps=>by show(false,assign (EV p) env)::assignEach (ps.map EV) env=_;rw[yy ps];rfl
def AH(is:List Nat):Lo->PV->Option Lo:=λaa v=>match v with
 | .d (.tup xs)=>if xs.length=is.length then some (rI aa is xs)else none
 |_=>none
theorem yS.len:∀{ps:List (Str×Pos)}{is:List Nat},yS f ps is->ps.length=is.length
 |[],[],_=>rfl
 |_::_,_::_,⟨_,h⟩=>dN (· +1) (yS.len h)
 |[],_::_,x=>x.elim
 |_::_,[],x=>x.elim
theorem BK{ps:List (Str×Pos)}{is:List Nat}{k:Nat}{tp:Pos}(hn:yS f ps is):yR G n f (.Tuple (ps.map EV) k tp) (AH is):=by
 intro A ag Ls ad σ s Q E aa loc' v V C S Lc rv e h;unfold AH at e
 symm at e
 ·rename_i xs
  symm at e
  ·rename_i hl;replace e:=si e;subst e;refine Rd.tup_on rv λa items ht hr=> ?_;have hlen:=hr.length;rw[kG]at hlen;refine PyProof.Rows.assign_Tuple_tuple C.hh ht ?_ ?_ λh' hx=> ?_
   ·rw[yy,f6,hn.len,hlen,hl]
   ·rw[yy];rw[List.findIdx?_eq_none_iff];intro x hx;refine eN (List.mem_map.mp hx) λp _ ez1=> ?_;subst ez1;rfl
   ·rw[yy,List.map_map];have kk:∀b o,s.heap.get? b=some o->h'.get? b=some o:=λb o e=>hx b o (Nat.ne_of_lt (kH e)) e;have aP:dE (f.L::Ls) ad ad s.heap h':=dE.of_keep kk;have hLF:f.L ∉ Ls:=(gE.mp S.fnd).1;exact Kn (s:={ s with heap:=h' }) C hn hl (S.of_keep kk) (Lc.step S aP) (dD.keep (S.tupKeep (λa m=> .inl m) aP) hr) λh'' tk S'' p'' L''=>h h'' tk S'' ((aP.toS hLF).trans p'') L''
  ·exact eC e
 ·exact eC e
theorem Ko{ps:List (Str×Pos)}{is:List Nat}{k:Nat}{tp:Pos}(hn:yS f ps is)(hs:swapsWithSole [.Tuple (ps.map EV) k tp] e pos.line f.env=pure false)(hw:swappedStores [.Tuple (ps.map EV) k tp] e f.env=pure none)(he:dR G n f aa e m):
  jB G n f aa (.Assign [.Tuple (ps.map EV) k tp] e pos) (bnd m λv=>bnd (lift (AH is aa v)) λloc'=>ret (.nxt loc')):=by
 intro A ag Ls ad σ s Q E r σ' hE C S Lc er P;refine PyProof.Rows.Assign_Tuple (he.thnS C S Lc er P λv V h₁ tk₁ ak σ₁ ai ax rv am aj al=> ?_) hs hw;refine eN (vG aj) λw e8 e7=> ?_;refine oA (ky e7) λez1 ez2=> ?_;subst ez1;subst ez2;exact BK hn A ag Ls ak _ _ _ _ aa w v V C ai am rv e8 λh' tk S' p' L'=>al h' tk ak S' p' L'
theorem Jd{ps:List (Str×Pos)}{is:List Nat}{k:Nat}{tp:Pos}(hn:yS f ps.reverse is.reverse)(hnl:ps.length=is.length)(hs:swapsWithSole [.Tuple (ps.map EV) k tp] e pos.line f.env=pure false)(hw:swappedStores [.Tuple (ps.map EV) k tp] e f.env=pure (some (ps.map (·.1))))(he:dR G n f aa e m):
  jB G n f aa (.Assign [.Tuple (ps.map EV) k tp] e pos) (bnd m λv=>match v with| .d (.tup xs)=>if xs.length=is.length then ret (.nxt (rI aa is.reverse xs.reverse))else cU|_=>cU):=by
 intro A ag Ls ad σ s Q E r σ' hE C S Lc er P;refine PyProof.Rows.Assign_Tuple_swapped (names:=ps.map (·.1)) (he.thnS C S Lc er P λv V h₁ tk₁ ak σ₁ ai ax rv am aj al=> ?_) hs hw
 symm at aj
 ·rename_i xs
  symm at aj
  ·rename_i hl;refine oA (ky aj) λez1 ez2=> ?_;subst ez1;subst ez2;refine Rd.tup_on rv λa items ht hr=> ?_;have hlen:=hr.length;rw[kG]at hlen;have hsz:(ps.map (·.1)).length=items.size:=by rw[f6,hnl,hlen,hl]
   rw[hsz];refine PyProof.Rows.unpackItems_tuple C.hh ht λh' hx=> ?_;have kk:∀b o,h₁.get? b=some o->h'.get? b=some o:=λb o e=>hx b o (Nat.ne_of_lt (kH e)) e;have aP:dE (f.L::Ls) ak ak h₁ h':=dE.of_keep kk;have hLF:f.L ∉ Ls:=(gE.mp S.fnd).1;have hr':=(dD.keep (ai.tupKeep (λa m=> .inl m) aP) hr).reverse
   have go:∀{qs:List (Str×Pos)}{js:List Nat}{ys:List D}{Vs:List Value}{aa:Lo}{s:Shared}{Q:Unit->Shared->Prop},
     yS f qs js->ys.length=js.length->St G (f.L::Ls) ak σ' s.heap->uq G s.heap ak f aa->dD s.heap Vs ys->
     (∀h' tk,St G (f.L::Ls) ak σ' h'->iG f.L Ls ak ak s.heap h'->uq G h' ak f (rI aa js ys)->Q () { s with heap:=h',toks:=tk })->
     wpAny (model G.prog G.w) A (assignInOrder (qs.map λp=>bindName f.env p.1) Vs) Q E s:=by
    intro qs
    induction qs with
    |nil=>
     intro js ys Vs aa s Q h1 h2 h3 h4 h5 h6;cases js with
     |nil=>
      have:ys=[]:=List.length_eq_zero_iff.mp h2;subst this;exact dc (h6 s.heap s.toks h3 (kK.refl ..) h4)
     |cons _ _=>exact h1.elim
    |cons q qs ih=>
     intro js ys Vs aa s Q h1 h2 h3 h4 h5 h6;cases js with
     |nil=>exact h1.elim
     |cons j js=>
      cases h5 with
      |nil=>simp at h2
      | @cons V Vs y ys r1 r2=>
       show wpAny _ _ (do holding Vs (bindName f.env q.1 V);assignInOrder (qs.map λp=>bindName f.env p.1) Vs) _ _ _;refine cQ (kb (wpAny_bindName (qO (v:= .d y) h1.1 C h3 h4 r1 λh' S' p' L'=> ?_)))
       have r3:dD h' Vs ys:=by
        refine dD.keep (h3.tupKeep (λa m=> ?_) p') r2;rcases dj.mp m with rfl|m
        ·exact .inr (.head _)
        ·exact .inl m
       exact ih (s:={ s with heap:=h',toks:=s.toks+1 }) h1.2 (by simpa using h2) S' L' r3 λh'' tk S'' p'' L''=>h6 h'' tk S'' (p'.trans p'') L''
   rw[<-List.map_reverse,List.map_map];exact go (s:={ s with heap:=h',toks:=tk₁ }) hn (by simpa using hl) (ai.of_keep kk) (am.step ai aP) hr' λh'' tk S'' p'' L''=>al h'' tk ak S'' ((aP.toS hLF).trans p'') L''
  ·exact eC aj
 ·exact eC aj
end
section
variable{f:Fm}{aa:List (Option PV)}
section
variable{prog:Program}{w:World}{env:Env}{target:cP}{it:Value}{orelse:List Stmt}{Q:Flow->Shared->Prop}
def yz(prog:Program)(w:World)(A:Around)(E:Value->Shared->Prop)(env:Env)(target:cP)(it:Value)(body orelse:List Stmt)(Q:Flow->Shared->Prop)(s:Shared):Prop:=
 codeAny (model prog w) A (.forLoop target it body orelse env) (λr s'=>match r with| .ok f=>Q f s'| .error e=>cameBackBy (model prog w) A env E e s') s
theorem Mv(hE:PassesOwn (model prog w) A env E)
  (h:wpAny (model prog w) A (pyNext it) (λr aJ=>match r with
   |none=>wpAny (model prog w) A (execs orelse env) Q E aJ
   |some v=>wpAny (model prog w) A (letOwnedTupleGo target it v) (λ_ aO=>wpAny (model prog w) A (assign target env v) (λ_ aT=>wpAny (model prog w) A (execs body env) (λfl aY=>match fl with
     | .next| .cont=>yz prog w A E env target it body orelse Q aY
     | .brk=>Q .next aY
     | .ret v=>Q (.ret v) aY) E aT) E aO) E aJ) E s):
  yz prog w A E env target it body orelse Q s:=by
 refine codeAny_of_tree ?_;show wpAny _ _ ((forTurn target it body orelse env).onRaise (λx=>do noteFrame x env;theTreesLotGoes x)) _ _ s;refine wpAny_noted ?_;simp only[forTurn];refine cQ (iN (cQ (wpAny_onRaise (wpAny_mono h (λr aJ h₁=> ?_) λe s' h'=>iN (hE e s' h')))));cases r with
 |none=>exact dc ⟨rfl,codeAny_block (wpAny_mono h₁ (λfl s' h'=>h') hE)⟩
 |some v=>
  refine cQ (wpAny_mono h₁ (λ_ aO ar=> ?_) hE);refine cQ (wpAny_mono ar (λ_ aT au=> ?_) hE);refine cQ (wpAny_mono au (λfl aY aN=> ?_) hE);cases fl with
  |next=>exact dc ⟨rfl,aN⟩
  |cont=>exact dc ⟨rfl,aN⟩
  |brk=>exact dc aN
  |ret v=>exact dc aN
end
theorem kK.priv(p:kK X F ad ad' h h₁)(hn:h.get? a=none)(k:∀b o,b≠a->h₁.get? b=some o->h'.get? b=some o):kK X F ad ad' h h':=by
 have ne:∀b o,h.get? b=some o->b≠a:=λb o e z=>by rw[z,hn]at e;exact eC e
 refine⟨p.pre,⟨λb o e h1 h2=>k b o (ne b o e) (p.pres.keep b o e h1 h2),λb o e h1 h2=> ?_⟩,p.new,λb e=> ?_⟩
 ·refine oE (p.pres.slots b o e h1 h2) λsl e'=> ?_;exact⟨sl,k b _ (ne b o e) e'⟩
 ·by_cases z:b=a
  ·rw[z];exact hn
  ·refine p.ex b ?_;cases q:h₁.get? b with
   |none=>rfl
   |some o=>rw[k b o z q]at e;exact yt e
structure Mw(G:Gl)(n:Nat)(f:Fm)(nx:Nat->List MO->Option (Option PV))(it:Addr)(I:Nat->Heap->List Addr->Prop):Prop where
 cls:∀i h ad,I i h ad->∃o c,h.get? it=some o/\o.cls= .type c/\["tuple_iterator","list_iterator","range_iterator"].contains c
 keep:∀i h h' ad ad',I i h ad->(∀o,h.get? it=some o->h'.get? it=some o)->(∀v V,eW G h ad v V->eW G h' ad' v V)->I i h' ad'
 next:∀(A:Around)(ag:List Env)(Ls ad:List Addr)(σ:List MO)(s:Shared)(Q:Option Value->Shared->Prop)(E:Value->Shared->Prop)(i:Nat)(o:Option PV),wK G A n f ag Ls->St G (f.L::Ls) ad σ s.heap->me G (f.L::Ls) ad s.heap it->I i s.heap ad->nx i σ=some o->
  (match o with
   |none=>∀h',(∀b o,b≠it->s.heap.get? b=some o->h'.get? b=some o)->Q none { s with heap:=h' }
   |some v=>∀V h' tk,(∀b o,b≠it->s.heap.get? b=some o->h'.get? b=some o)->I (i+1) h' ad->eW G h' ad v V->Q (some V) { s with heap:=h',toks:=tk })->
  wpAny (model G.prog G.w) A (pyNext (.ref it)) Q E s
noncomputable def kM(nx:Nat->List MO->Option (Option PV))(asg:Lo->PV->Option Lo)(mb:Lo->M Fl):Nat->Nat->Lo->M Fl
 | 0,_,_=>cU
 |k+1,i,aa=>λσ=>match nx i σ with
  |none=>none
  |some none=>ret (.nxt aa) σ
  |some (some v)=>match asg aa v with
   |none=>none
   |some loc'=>bnd (mb loc') (λfl=>match fl with
    | .nxt l=>kM nx asg mb k (i+1) l
    | .brk l=>ret (.nxt l)
    | .ret v=>ret (.ret v)) σ
theorem WA{tgt:cP}{it:Addr}{v:Value}{o:Obj}{c:String}{M:Model}{Q:Unit->Shared->Prop}(ho:s.heap.get? it=some o)(hc:o.cls= .type c)(hn:["tuple_iterator","list_iterator","range_iterator"].contains c)
  (h:Q () s):wpAny M A (letOwnedTupleGo tgt (.ref it) v) Q E s:=by
 unfold letOwnedTupleGo
 have hn':["enumerate","zip","dict_itemiterator","dict_reverseitemiterator","odict_iterator","itertools.zip_longest","itertools.pairwise"].contains c=false:=by simp at hn;rcases hn with rfl|rfl|rfl<;>rfl
 obtain⟨cl,dct,dat,sl⟩:=o;simp only at hc;subst hc;cases tgt<;>first|exact dc h|skip
 all_goals
  cases v<;>first|exact dc h|skip
 all_goals
  refine cQ (wpAny_load ho ?_);cases dat<;>first|exact dc h|skip
  simp only[hn',Bool.false_and,jf,if_false];exact dc h
theorem me.stay{it:Addr}(pr:me G (L::Ls) ad h it)(p:iG L Ls ad ad' h h'):∀o,h.get? it=some o->h'.get? it=some o:=λo e=>by
 refine p.pres.keep it o e (λm=> ?_) (λm=>pr.F (.tail _ m));rcases dj.mp m with z|m
 ·exact pr.F (z▸.head _)
 ·exact pr.ad m
theorem me.stepS{it:Addr}(pr:me G (L::Ls) ad h it)(ex:∃o,h.get? it=some o)(p:iG L Ls ad ad' h h'):me G (L::Ls) ad' h' it:=by
 refine oE ex λo e=> ?_;clear ex;refine⟨λm=> ?_,pr.F,pr.le,λo' e'=> ?_⟩
 ·rcases p.new it m with m|m
  ·exact pr.ad m
  ·rw[e]at m;exact yt m
 ·rw[pr.stay p o e]at e';replace e':=si e';subst e';exact pr.cls o e
theorem Mx{tgt:cP}{b:List Stmt}{it:Addr}{I:Nat->Heap->List Addr->Prop}(ha:yR G n f tgt asg)(hb:∀aa,oy G n f aa b (mb aa))(hi:Mw G n f nx it I):
  ∀(k i:Nat)(aa:Lo)(A:Around)(ag:List Env)(Ls aL ad:List Addr)(σ:List MO)(aU s:Shared)(Q:Flow->Shared->Prop)(E:Value->Shared->Prop)(r:R Fl)(σ':List MO),
  PassesOwn (model G.prog G.w) A f.env E->wK G A n f ag Ls->St G (f.L::Ls) ad σ s.heap->uq G s.heap ad f aa->kM nx asg mb k i aa σ=some (r,σ')->pg G f Ls aL aU r σ' Q E->(∃h₁ tk₁,s={ aU with heap:=h₁,toks:=tk₁ })->
  iG f.L Ls aL ad aU.heap s.heap->aU.heap.get? it=none->me G (f.L::Ls) ad s.heap it->I i s.heap ad->
  yz G.prog G.w A E f.env tgt (.ref it) b [] Q s:=by
 intro k
 induction k with
 |zero=>exactλ_ _ _ _ _ _ _ _ _ _ _ _ _ _ _ _ _ _ e _ _ _ _ _ _=>eC e
 |succ k ih=>
  intro i aa A ag Ls aL ad σ aU s Q E r σ' hE C S Lc e P hx20 p hn pr hI;obtain⟨h₁,tk₁,hs⟩:=hx20;subst hs;refine Mv hE ?_;have hLF:f.L ∉ Ls:=(gE.mp S.fnd).1;unfold kM at e
  symm at e
  ·exact eC e
  ·rename_i q;refine hi.next A ag Ls ad σ _ _ E i none C S pr hI q λh' kk=> ?_;have P:=P.of_ret e;have S':=S.priv pr kk;have im:=pr.im kk;refine wpAny_execs_nil (P h' _ ad S' (p.priv hn kk) ?_);refine eN Lc λm hm hv=> ?_;clear Lc;refine o9 hm λo es ep e1 e2=> ?_;clear hm
   exact⟨m,⟨o,es,ep,kk _ _ (λz=>pr.F (z▸.head _)) e1,e2⟩,λi x v h1 h2=>by refine eN (hv i x v h1 h2) λV e3 e4=> ?_;exact⟨V,e3,e4.im im (hO _)⟩⟩
  ·rename_i v q
   symm at e
   ·exact eC e
   ·rename_i loc' qa;refine hi.next A ag Ls ad σ _ _ E i (some v) C S pr hI q λV h' tk kk hI' rv=> ?_;have S':=S.priv pr kk;have im:=pr.im kk
    have Lc':uq G h' ad f aa:=by
     refine eN Lc λm hm hv=> ?_;clear Lc;refine o9 hm λo es ep e1 e2=> ?_;clear hm
     exact⟨m,⟨o,es,ep,kk _ _ (λz=>pr.F (z▸.head _)) e1,e2⟩,λi x v h1 h2=>by refine eN (hv i x v h1 h2) λV e3 e4=> ?_;exact⟨V,e3,e4.im im (hO _)⟩⟩
    refine iJ (hi.cls _ _ _ hI') λo c ho hc hcl=> ?_
    have pr':me G (f.L::Ls) ad h' it:=⟨pr.ad,pr.F,pr.le,λo' e'=>by rw[ho]at e';replace e':=si e';subst e';refine rE ?_;rw[hc];refine⟨λz=> ?_,λC z=>by cases z⟩;cases z;exact absurd hcl (by decide)⟩
    refine WA (o:=o) (c:=c) ho hc hcl ?_;refine ha A ag Ls ad σ _ _ E aa loc' v V C S' Lc' rv qa λh'' tk'' S'' p'' L''=> ?_;have q2:iG f.L Ls aL ad aU.heap h'':=iG.trans (p.priv hn kk) p'';have hI'':I (i+1) h'' ad:=hi.keep _ _ _ _ _ hI' (pr'.stay p'') λv V r=>r.stepS S' p'';have pr'':=pr'.stepS ⟨o,ho⟩ p'';rcases nG e with⟨fl,aG,e2,e3⟩|⟨e2,rfl⟩
    ·refine hb loc' A ag Ls ad σ _ _ E (.ok fl) aG hE C S'' L'' e2 ?_;cases fl with
     |nxt l=>
      intro au aH aI ay aC bx;refine mZ (hi.cls _ _ _ hI'') λo2 c2 ho2 _=> ?_;exact ih (i+1) l A ag Ls aL aI aG aU _ Q E r σ' hE C ay bx e3 P ⟨_,_,rfl⟩ (q2.trans aC) hn (pr''.stepS ⟨o2,ho2⟩ aC) (hi.keep _ _ _ _ _ hI'' (pr''.stay aC) λv V r=>r.stepS S'' aC)
     |brk l=>
      have P:=P.of_ret e3
      exactλau aH aI ay aC bx=>P au aH aI ay (q2.trans aC) bx
     |ret v=>
      have P:=P.of_ret e3
      exactλV au aH aI ay aC b7=>P V au aH aI ay (q2.trans aC) b7
    ·exact hb loc' A ag Ls ad σ _ _ E .exc σ' hE C S'' L'' e2 λx au aH aI ay aC fl=>P x au aH aI ay (q2.trans aC) (fl.back q2.ex)
end
section
variable{f:Fm}{aa:List (Option PV)}
noncomputable def Sl(xs:List D)(i:Nat)(_:List MO):Option (Option PV):=some ((xs[i]?).map .d)
theorem Tv{it t:Addr}:Mw G n f (Sl xs) it (λi h _=>PyProof.Rows.IsTupIter h it t i/\eW G h [] (.d (.tup xs)) (.ref t)) where
 cls:=λi h ad⟨⟨o,h1,h2,h3⟩,_⟩=>⟨o,_,h1,h2,by decide⟩
 keep:=λi h h' ad ad'⟨⟨o,h1,h2,h3⟩,r⟩ k kV=>⟨⟨o,k o h1,h2,h3⟩,kV (.d (.tup xs)) _ r⟩
 next:=by
  intro A ag Ls ad σ s Q E i o C S pr ⟨hit,r⟩ e h;refine iJ (Rd.tup_inv r) λa items e1 ht hr=> ?_;cases e1;replace e:=si e;subst e;cases q:xs[i]? with
  |none=>
   rw[q]at h
   have:items[i]? =none:=by have hl:=hr.length;rw[kG]at hl;rw[Array.getElem?_eq_none_iff,hl];exact List.getElem?_eq_none_iff.mp q
   exact PyProof.Rows.next_tuple_end C.hh hit ht this λh' hx=>h h' λb o hb e=>hx b o hb e
  |some x=>
   rw[q]at h;refine eN (qM hr q) λV e2 rV=> ?_;refine PyProof.Rows.next_tuple_item hit ht e2 λh' hi hs=> ?_;have kk:∀b o,b≠it->s.heap.get? b=some o->h'.get? b=some o:=λb o hb e=>(hs.2 b hb).trans e;have im:=pr.im kk;exact h V h' _ kk ⟨hi,Rd.keep im.tup r⟩ (Rd.keep im.tup rV)
def uR(v:PV)(i:Nat)(σ:List MO):Option (Option PV):=(dW σ v).map λxs=>(xs[i]?).map .d
theorem yT{it l:Addr}{v:PV}:Mw G n f (uR v) it (λi h ad=>h.IsListIter it l i/\eW G h ad v (.ref l)) where
 cls:=λi h ad⟨⟨o,h1,h2,h3⟩,_⟩=>⟨o,_,h1,h2,by decide⟩
 keep:=λi h h' ad ad'⟨⟨o,h1,h2,h3⟩,r⟩ k kV=>⟨⟨o,k o h1,h2,h3⟩,kV v _ r⟩
 next:=by
  intro A ag Ls ad σ s Q E i o C S pr ⟨hit,r⟩ e h;refine eN (fe.mp e) λxs e0 e1=> ?_;subst e1;refine iJ (S.isL r e0) λa items e1 ht hr=> ?_;cases e1;cases q:xs[i]? with
  |none=>
   rw[q]at h
   have:items[i]? =none:=by have hl:=hr.length;rw[kG]at hl;rw[Array.getElem?_eq_none_iff,hl];exact List.getElem?_eq_none_iff.mp q
   exact wpAny_pyNext_list_end C.hh hit ht this λh' hx=>h h' λb o hb e=>hx b o hb e
  |some x=>
   rw[q]at h;refine eN (qM hr q) λV e2 rV=> ?_;refine wpAny_pyNext_list_item hit ht e2 λh' hi hs=> ?_;have kk:∀b o,b≠it->s.heap.get? b=some o->h'.get? b=some o:=λb o hb e=>(hs.2 b hb).trans e;have im:=pr.im kk;exact h V h' _ kk ⟨hi,r.im im (hO _)⟩ (Rd.keep im.tup rV)
noncomputable def LJ(N:Int)(i:Nat)(_:List MO):Option (Option PV):=some (if(i:Int)<N then some (.d (.int i))else none)
theorem Tw{it:Addr}{N:Int}:Mw G n f (LJ N) it (λi h _=>IsRangeIter h it i (max N 0 -i) 1) where
 cls:=λi h ad h1=>⟨_,_,h1,rfl,by decide⟩
 keep:=λi h h' ad ad' h1 k kV=>k _ h1
 next:=by
  intro A ag Ls ad σ s Q E i o C S pr hit e h;replace e:=si e;subst e;by_cases q:(i:Int)<N
  ·rw[cH q]at h;refine wpAny_pyNext_range_item hit ((pI:Qn [_] [_] (.S (.k 0) (.s (.ma (.v 0) (.k 0)) (.c A0))) [.S (.c A0) (.v 0)]) q) λh' hi hs=> ?_;have kk:∀b o,b≠it->s.heap.get? b=some o->h'.get? b=some o:=λb o hb e=>(hs.2 b hb).trans e;refine h _ h' _ kk ?_ (Rd.int ..);have e1:((i+1:Nat):Int)=(i:Int)+1:=VE;have e2:max N 0 - ((i+1:Nat):Int)=max N 0 -i -1:=(pI:Qn [_] [_] (.E (.s (.ma (.v 0) (.k 0)) (.c (.a A0 (.k 1)))) (.s (.s (.ma (.v 0) (.k 0)) (.c A0)) (.k 1))) []);show IsRangeIter h' it ((i+1:Nat):Int) (max N 0 - ((i+1:Nat):Int)) 1;rw[e2,e1];exact hi
  ·rw[cJ q]at h;exact wpAny_pyNext_range_end C.hh hit ((pI:Qn [_] [_] (.L (.s (.ma (.v 0) (.k 0)) (.c A0)) (.k 0)) [.n (.S (.c A0) (.v 0))]) q) λh' hx=>h h' λb o hb e=>hx b o hb e
def BL(k:Nat)(asg:Lo->PV->Option Lo)(mb:Lo->M Fl)(aa:Lo)(v:PV):M Fl:=match v with
 | .d (.tup xs)=>kM (Sl xs) asg mb k 0 aa
 | .d _=>cU
 | .inst _=>cU
 | .cd _=>cU
 |v=>kM (uR v) asg mb k 0 aa
theorem wV{tgt:cP}{b:List Stmt}{I:Addr->Nat->Heap->List Addr->Prop}(ha:yR G n f tgt asg)(hb:∀aa,oy G n f aa b (mb aa))(hi:∀it,Mw G n f nx it (I it))
  {k:Nat}{Q:Flow->Shared->Prop}{r:R Fl}
  (hE:PassesOwn (model G.prog G.w) A f.env E)(C:wK G A n f ag Ls)(S:St G (f.L::Ls) ad σ s.heap)(Lc:uq G s.heap ad f aa)(e:kM nx asg mb k 0 aa σ=some (r,σ'))(P:pg G f Ls ad s r σ' Q E){o:Obj}{c:String}{vs:Array Value}(ho:o={ cls:= .type c,data:= .fields vs })
  (hc:c≠"tuple")(h0:I s.heap.objs.size 0 (s.heap.push o) ad):
  yz G.prog G.w A E f.env tgt (.ref s.heap.objs.size) b [] Q { s with heap:=s.heap.push o }:=by
 have hfr:=fN s.heap;have kk:∀b x,s.heap.get? b=some x->(s.heap.push o).get? b=some x:=λb x e=>fc _ e;have hLF:f.L ∉ Ls:=(gE.mp S.fnd).1;have p:dE (f.L::Ls) ad ad s.heap (s.heap.push o):=dE.of_keep kk
 have pr:me G (f.L::Ls) ad (s.heap.push o) s.heap.objs.size:=by
  refine⟨λm=> ?_,λm=> ?_,S.size,λx e=> ?_⟩
  ·refine eN (S.adObj m) λx h1 _=> ?_;rw[hfr]at h1;exact eC h1
  ·refine vw (S.frs _ m) λ_ x h1 _=> ?_;rw[hfr]at h1;exact eC h1
  ·rw[ho,gP _ rfl]at e;replace e:=si e;subst e;exact rE ⟨λz=>hc (by injection z),λC z=>by cases z⟩
 exact Mx ha hb (hi _) k 0 aa A ag Ls ad ad σ s _ Q E r σ' hE C (S.of_keep kk) (Lc.step S p) e P ⟨_,_,rfl⟩ (p.toS hLF) hfr pr h0
theorem CP{tgt iter:cP}{b:List Stmt}{mi:M PV}(k:Nat)(hf:∀x,foldedSetIterable iter f.env x=pure x)(ha:yR G n f tgt asg)(hiter:dR G n f aa iter mi)(hb:∀aa,oy G n f aa b (mb aa)):
  jB G n f aa (.For tgt iter b [] pos) (bnd mi λv=>BL k asg mb aa v):=by
 intro A ag Ls ad σ s Q E r σ' hE C S Lc er P;refine wpAny_For (hiter.thnS C S Lc er P λv V h₁ tk₁ ak σ₁ ai ax rv am aj al=> ?_) hf
 have lst:∀{xs:List D},dW σ₁ v=some xs->kM (uR v) asg mb k 0 aa σ₁=some (r,σ')->
   wpAny (model G.prog G.w) A (pyIter V) (λit aO=>codeAny (model G.prog G.w) A (.forLoop tgt it b [] f.env) (λr s'=>match r with| .ok f=>Q f s'| .error e=>cameBackBy (model G.prog G.w) A f.env E e s') aO) E { s with heap:=h₁,toks:=tk₁ }:=by
  intro xs hg ao;refine iJ (ai.isL rv hg) λa items ez1 ht hr=> ?_;subst ez1;refine wpAny_pyIter_list ht ?_;refine wV (s:={ s with heap:=h₁,toks:=tk₁ }) (I:=λit i h ad=>h.IsListIter it a i/\eW G h ad v (.ref a)) ha hb (λit=>yT) hE C ai am ao al rfl (by decide) ⟨⟨_,gP _ rfl,rfl,rfl⟩,rv.stepE ai (dE.of_keep (F:=f.L::Ls) λb x e=>fc _ e)⟩
 have lst':kM (uR v) asg mb k 0 aa σ₁=some (r,σ')->∃xs,dW σ₁ v=some xs:=by
  intro e;cases k with
  |zero=>exact eC e
  |succ k=>
   unfold kM at e;cases q:dW σ₁ v with
   |none=>
    have:uR v 0 σ₁=none:=by unfold uR;rw[q];rfl
    rw[this]at e;exact eC e
   |some xs=>exact⟨xs,rfl⟩
 unfold BL at aj
 symm at aj
 ·rename_i xs;refine iJ (Rd.tup_inv rv) λa items ez1 ht hr=> ?_;subst ez1;refine PyProof.Rows.iter_tuple ht ?_;have rv':eW G h₁ [] (.d (.tup xs)) (.ref a):=rv;refine wV (s:={ s with heap:=h₁,toks:=tk₁ }) (I:=λit i h _=>PyProof.Rows.IsTupIter h it a i/\eW G h [] (.d (.tup xs)) (.ref a)) ha hb (λit=>Tv) hE C ai am aj al rfl (by decide) ⟨⟨_,gP _ rfl,rfl,rfl⟩,?_⟩
  exact Rd.keep (ai.tupKeep (λa m=> .inl m) (dE.of_keep (F:=f.L::Ls) λb x e=>fc _ e)) rv
 ·exact eC aj
 ·exact eC aj
 ·exact eC aj
 ·refine oE (lst' aj) λxs hg=> ?_;exact lst hg aj
def Kp(k:Nat)(asg:Lo->PV->Option Lo)(mb:Lo->M Fl)(aa:Lo)(v:PV):M Fl:=match v with
 | .d (.int N)=>if -1000000000<N/\N<1000000000 then kM (LJ N) asg mb k 0 aa else cU
 |_=>cU
theorem My{tgt:cP}{x:Str}{cpos:Pos}{b:List Stmt}(k:Nat)(hx:f.cs.names.lookup x=some .globalImplicit)(hm:G.mg x=none)(hbb:bootBuiltins x=some (.type "range"))(hne:x≠"__name__")(hd:(x ==("__debug__":Str))=false)
  (h0:W.isStarred e=false)(hf:∀y,foldedSetIterable (.Call (.Name x np) [e] [] cpos) f.env y=pure y)(ha:yR G n f tgt asg)(he:dR G n f aa e m)(hb:∀aa,oy G n f aa b (mb aa)):
  jB G n f aa (.For tgt (.Call (.Name x np) [e] [] cpos) b [] pos) (bnd m λv=>Kp k asg mb aa v):=by
 intro A ag Ls ad σ s Q E r σ' hE C S Lc er P;refine wpAny_For (nU (kL C S hx hm hbb hne hd ?_)) hf;refine PyProof.Rows.callWith_type1 ?_ (eb h0) rfl;rw[eb h0];refine spliced_cons (he.thnS C S Lc er P λv V h₁ tk₁ ak σ₁ ai ax rv am aj al=>spliced_nil ?_);unfold Kp at aj
 symm at aj
 ·rename_i N
  symm at aj
  ·rename_i hN;refine Rd.int_on rv λt=> ?_;refine call_range_1 ?_;have kk:∀(o:Obj) b x,h₁.get? b=some x->(h₁.push o).get? b=some x:=λo b x e=>fc _ e;have hLF:f.L ∉ Ls:=(gE.mp S.fnd).1;refine wpAny_pyIter_range (IsRange.new _ _ _ _ _ _ _) (small_one (by decide) (by decide) ((pI:Qn [] [_] (.L (.n' (.pw 2 62)) (.v 0)) [.c (.S (.n' (.k 1000000000)) (.v 0)) (.S (.v 0) (.k 1000000000))]) hN) ((pI:Qn [] [_] (.S (.v 0) (.pw 2 62)) [.c (.S (.n' (.k 1000000000)) (.v 0)) (.S (.v 0) (.k 1000000000))]) hN)) ?_;have aA:=al.after (h₁:=h₁.push { cls:= .type "range",data:= .fields #[.int 0 tk₁,.int N t,.int 1 (tk₁+1)] }) (tk₁:=tk₁+1+1) ((dE.of_keep (kk _)).toS hLF)
   have aq:=ai.of_keep (kk { cls:= .type "range",data:= .fields #[.int 0 tk₁,.int N t,.int 1 (tk₁+1)] });have cc:=am.step ai (dE.of_keep (kk { cls:= .type "range",data:= .fields #[.int 0 tk₁,.int N t,.int 1 (tk₁+1)] }));refine wV (I:=λit i h _=>IsRangeIter h it i (max N 0 -i) 1) ha hb (λit=>Tw) hE C aq cc aj aA rfl (by decide) ?_
   have e1:Builtin.Range.rangeSize 0 N 1=max N 0 - ((0:Nat):Int):=by rw[rangeSize_one];split<;>omega
   rw[e1];exact gP _ rfl
  ·exact eC aj
 ·exact eC aj
end
section
variable{f:Fm}{aa:List (Option PV)}
noncomputable def PV.below(k:Nat):PV->Bool
 | .ref j=>j<k
 | .inst j=>j<k
 |_=>true
def MO.below(k:Nat):MO->Bool
 | .list _=>true
 | .dict kvs=>kvs.all λkv=>kv.2.below k
 | .obj kvs=>kvs.all λkv=>kv.2.below k
theorem EW{l l':List α}(p:l<+:l'){j:Nat}{a:α}(h:l'[j]? =some a)(hj:j<l.length):l[j]? =some a:=by
 refine oE p λt ez1=> ?_;clear p;subst ez1
 rwa [fH hj]at h
theorem eW.drop{v:PV}{V:Value}(p:ad<+:ad')(b:v.below ad.length=true)(r:eW G h ad' v V):eW G h ad v V:=by
 cases v with
 |d x=>exact r
 |ref k=>
  refine eN r λa h1 h2=> ?_;clear r;exact⟨a,EW p h1 (by simpa [PV.below] using b),h2⟩
 |inst k=>
  refine mZ r λa x h1 h2=> ?_;clear r;exact⟨a,x,EW p h1 (by simpa [PV.below] using b),h2⟩
 |cl xs=>exact r
 |cd kvs=>exact r
theorem ow.drop{h:Heap}{ad ad':List Addr}(p:ad<+:ad'):∀{es:List (Str×Value)}{kvs:List (List Nat×PV)},(kvs.all λkv=>kv.2.below ad.length)=true->ow G h ad' es kvs->ow G h ad es kvs
 |[],[],_,_=>trivial
 |_::_,_::_,b,⟨h1,h3,h4⟩=>by rw[hP,ej]at b;exact⟨h1,h3.drop p b.1,ow.drop p b.2 h4⟩
 |[],_::_,_,x=>x.elim
 |_::_,[],_,x=>x.elim
theorem mw.drop{h:Heap}{ad ad':List Addr}(p:ad<+:ad'):∀{es:List DictEntry}{kvs:List (List Nat×PV)},(kvs.all λkv=>kv.2.below ad.length)=true->mw G h ad' es kvs->mw G h ad es kvs
 |[],[],_,_=>trivial
 |_::_,_::_,b,⟨h1,h2,h3,h4⟩=>by rw[hP,ej]at b;exact⟨h1,h2,h3.drop p b.1,mw.drop p b.2 h4⟩
 |[],_::_,_,x=>x.elim
 |_::_,[],_,x=>x.elim
theorem St.drop{F ad ad':List Addr}{σ':List MO}{h:Heap}(S:St G F ad' σ' h)(p:ad<+:ad')(b:((σ'.take ad.length).all (MO.below ad.length))=true):St G F ad (σ'.take ad.length) h:=by
 refine oE p λt ez1=> ?_;clear p;subst ez1;have hl:=S.len;have p:ad<+:ad++t:=List.prefix_append _ _;refine⟨S.base,?_,(List.nodup_append.mp S.nd).1,λk a o h1 h2=> ?_,λa m=>S.newA a (eF.mpr (.inl m)),S.frs,S.fnd,λx m z=>S.apart x m (eF.mpr (.inl z))⟩
 ·rw[List.length_take];rw[dI]at hl;exact(kI (.e A0 (.mi A0 A2)) [.e (.a A0 A1) A2]) hl
 ·have hk:k<ad.length:=(ek.mp h1).1
  have h2':σ'[k]? =some o:=by rw[List.getElem?_take,cH hk]at h2;exact h2
  have r:=S.ads k a o (by rw[fH hk];exact h1) h2';have bo:o.below ad.length=true:=fu.mp b o (gu h2);cases o with
  |list xs=>exact r
  |dict kvs=>
   refine eN r λps e r2=> ?_;clear r;exact⟨ps,e,r2.drop p bo⟩
  |obj kvs=>
   refine mZ r λes m e r2=> ?_;clear r;exact⟨es,m,e,r2.drop p bo⟩
theorem dE.drop(q:dE F ad ad' h h'):dE F ad ad h h':=⟨hO _,q.pres,λ_ m=> .inl m,q.ex⟩
def s6(m:M PV):M PV:=λσ=>match m σ with
 |none=>none
 |some (.ok v,σ')=>if v.below σ.length &&(σ'.take σ.length).all (MO.below σ.length)then some (.ok v,σ'.take σ.length)else some (.ok v,σ')
 |some (.exc,σ')=>if(σ'.take σ.length).all (MO.below σ.length)then some (.exc,σ'.take σ.length)else some (.exc,σ')
theorem Kq{r:R PV}{T:Prop}(S:St G (f.L::Ls) ad σ s.heap)(e:s6 m σ=some (r,σ'))(P:qJ G (f.L::Ls) ad s r σ' Q E (RV G))
  (h:∀r' σ'',m σ=some (r',σ'')->qJ G (f.L::Ls) ad s r' σ'' Q E (RV G)->T):T:=by
 have hl:=S.len;unfold s6 at e
 symm at e
 ·exact eC e
 ·rename_i v σ₁ q
  symm at e
  ·rename_i hb;refine Pg e ?_;clear e;intro ey ez;subst ey;subst ez;rw[ej]at hb;refine h _ _ q λa h' tk ad' S' p' R'=> ?_;rw[<-hl]at hb P;exact P a h' tk ad (S'.drop p'.pre hb.2) p'.drop (eW.drop p'.pre hb.1 R')
  ·refine Ph e ?_;clear e;intro ey ez;subst ey;subst ez;exact h _ _ q P
 ·rename_i σ₁ q
  symm at e
  ·rename_i hb;refine Pg e ?_;clear e;intro ey ez;subst ey;subst ez;refine h _ _ q λx h' tk ad' S' p' fl=> ?_;rw[<-hl]at hb P;exact P x h' tk ad (S'.drop p'.pre hb) p'.drop fl
  ·refine Ph e ?_;clear e;intro ey ez;subst ey;subst ez;exact h _ _ q P
theorem fK.drop(h:fK G n a sem):fK G n a (λvs=>s6 (sem vs)):=by intro f A ag Ls ad σ s R vs Vs r σ' C S rv e P;exact Kq S e P λr' σ'' e' P'=>h f A ag Ls ad σ s R vs Vs r' σ'' C S rv e' P'
noncomputable def PD(ty:String):PV->Option Bool
 | .d (.tup _)=>some (ty == "tuple")
 | .d (.int _)=>some false
 | .d (.str _)=>some false
 |_=>none
theorem Tx{x y:Str}{yp:Pos}{ty:String}(hx:f.cs.names.lookup x=some .globalImplicit)(hm:G.mg x=none)(hb:bootBuiltins x=some (.builtin "isinstance"))(hne:x≠"__name__")(hd:(x ==("__debug__":Str))=false)
  (hy:f.cs.names.lookup y=some .globalImplicit)(hmy:G.mg y=none)(hby:bootBuiltins y=some (.type ty))(hney:y≠"__name__")(hdy:(y ==("__debug__":Str))=false)(hty:ty="tuple"\/ty="list")
  (h0:W.isStarred e=false)(h1:dR G n f aa e m):dR G n f aa (.Call (.Name x np) [e,.Name y yp] [] pos) (bnd m λv=>lift ((PD ty v).map λb=> .d (.bool b))):=by
 intro A ag Ls ad σ s Q E r σ' C S Lc er P;refine nU (kL C S hx hm hb hne hd ?_);refine PyProof.Rows.callWith_builtin1 ?_ (eb h0) rfl;rw[eb h0];refine spliced_cons (h1.thn C S Lc er P λv V h₁ tk₁ ak σ₁ ai ax rv am aj al=> ?_);refine spliced_cons (kL (s:={ s with heap:=h₁,toks:=tk₁ }) C ai hy hmy hby hney hdy (spliced_nil ?_))
 refine ou (sU aj) λw e2 ez1 ez2=> ?_;subst ez1;subst ez2;refine eN (fe.mp e2) λb e3 ez1=> ?_;subst ez1;have kF:∀tk,Q (.bool b) { s with heap:=h₁,toks:=tk }:=λtk=>al.now ai (Rd.bool b) tk
 unfold PD at e3;split at e3
 ·refine iJ (Rd.tup_inv rv) λa items ez1 oz2 _=> ?_;subst ez1;obtain⟨o,ho,hc,_⟩:=oz2;replace e3:=si e3;subst e3;rcases hty with rfl|rfl
  ·exact PySem.IsiPair.tuple_tuple ho hc (kF tk₁)
  ·exact PySem.IsiPair.tuple_list ho hc (kF _)
 ·refine Rd.int_on rv λt=> ?_;replace e3:=si e3;subst e3;rcases hty with rfl|rfl
  ·exact PySem.IsiPair.int_tuple (kF _)
  ·exact PySem.IsiPair.int_list (kF _)
 ·refine Rd.str_on rv λt=> ?_;replace e3:=si e3;subst e3;rcases hty with rfl|rfl
  ·exact PySem.IsiPair.str_tuple (kF _)
  ·exact PySem.IsiPair.str_list (kF _)
 ·exact eC e3
noncomputable def s7(vs:List PV):PV->Option PV
 | .d (.int i)=>if 0<=i/\i<100 then vs[i.toNat]? else none
 |_=>none
theorem PE{i:cP}{lp:Pos}{mi:M PV}(h:jy G n f aa es ms)(hi:dR G n f aa i mi)(hs:qL i=true):
  dR G n f aa (.Subscript (.List es lp) i pos) (bnd (ja ms) λvs=>if vs.length<100 then bnd mi λk=>lift (s7 vs k)else cU):=by
 intro A ag Ls ad σ s Q E z σ' C S Lc er P;refine Subscript_ (wpAny_List ((oQ h).thn C S Lc er P λa V h₁ tk₁ ak σ₁ ai ax ra am aj al=> ?_));have hl:V.length=a.length:=ra.length;split at aj
 case isFalse=>exact eC aj
 rename_i hal;refine⟨(kI (.l A0 A2) [.e A0 A1,.t A1 (.k 100),.l (.k 100) A2]) hl hal (show 100<=sizeLine by decide),?_⟩;have kk:∀b x,h₁.get? b=some x->(h₁.push { cls:= .type "list",data:= .seq V.toArray }).get? b=some x:=λb x e=>fc _ e;have p:dE (f.L::Ls) ak ak h₁ (h₁.push { cls:= .type "list",data:= .seq V.toArray }):=dE.of_keep kk;have hget:(h₁.push { cls:= .type "list",data:= .seq V.toArray }).get? h₁.objs.size=some { cls:= .type "list",data:= .seq V.toArray }:=gP _ rfl;have bH:=ai.of_keep kk
 have nF:h₁.objs.size ∉ f.L::Ls:=λm=>by refine vw (ai.frs _ m) λ_ x h1 _=> ?_;rw[fN]at h1;exact eC h1
 have nad:h₁.objs.size ∉ ak:=λm=>by refine eN (ai.adObj m) λx h1 _=> ?_;rw[fN]at h1;exact eC h1
 refine hi.thn (s:={ s with heap:=h₁.push { cls:= .type "list",data:= .seq V.toArray },toks:=tk₁ }) C bH (am.step ai p) aj (al.after p) λk K ar aE aD aG aq aB rk aK ao aA=> ?_
 refine ou (sU ao) λw e3 ez1 ez2=> ?_;subst ez1;subst ez2;have hg2:ar.get? h₁.objs.size=some { cls:= .type "list",data:= .seq V.toArray }:=aB.pres.keep _ _ hget nad nF;have hil:ar.IsList h₁.objs.size V.toArray:=⟨_,hg2,rfl,_,rfl⟩;unfold s7 at e3
 symm at e3
 ·rename_i j
  symm at e3
  ·rename_i hj;refine Rd.int_on rk λt=> ?_;have ra2:jA G ar aD a V:=(ra.stepE ai p).stepE bH aB;refine eN (ra2.get e3) λW e5 e6=> ?_;refine tail_any hil.typeIs slot_list_getitem.lookup ?_ (ops:=[.ref h₁.objs.size,.int j t]) (qf hs _ _);exact wpAny_getItem_list hil hj.1 ((pI:Qn [] [_] (.S (.v 0) (.pw 2 63)) [.c (.L (.k 0) (.v 0)) (.S (.v 0) (.k 100))]) hj) (by simpa using e5) (aA.now aq e6 aE)
  ·exact eC e3
 ·exact eC e3
theorem PF{op:CmpOp}{a b:PV}{f:Bool->M β}{r:R β}(e:bnd (ir op a b) f σ=some (r,σ')):∃c,gJ σ op a b=some c/\f c σ=some (r,σ'):=by
 cases q:gJ σ op a b with
 |none=>
  have k:bnd (ir op a b) f σ=none:=by unfold bnd ir;rw[q];rfl
  exact eC (k.symm.trans e)
 |some c=>
  have k:bnd (ir op a b) f σ=f c σ:=by unfold bnd ir;rw[q];rfl
  exact⟨c,rfl,k.symm.trans e⟩
theorem Mz{l bl a9:cP}{bm ba:CmpOp}{ml m1 m2:M PV}(hl:dR G n f aa l ml)(h1:dR G n f aa bl m1)(h2:dR G n f aa a9 m2)(hm:lastMarks [bm,ba] [bl,a9]=false)(whole:Sem Value):
  I5 G n f aa (isTrue (.Compare l [bm,ba] [bl,a9] pos) f.env whole) (bnd ml λa=>bnd m1 λb=>bnd (ir bm a b) λc=>match c with|false=>ret false|true=>bnd m2 λd=>ir ba b d) RB:=by
 intro A ag Ls ad σ s Q E z σ' C S Lc e P;have hu:A.units+66<cLine:=by have:=C.hu;have:cLine=9900:=rfl;omega
 refine PyProof.Rows.isTrue_chain (hl.thn C S Lc e P λa V h₁ tk₁ ak σ₁ ai ax ra am aj al=> ?_) hm
 show wpAny _ _ (do
  let rv <-holding [V] (eval bl f.env)
  standAt pos
  let c <-holding [V,rv] (compareOp bm V rv)
  release [V,rv] [c]
  if <-holding [c,rv] (truthy c)then testChain pos rv [ba] [eval a9 f.env]else pure false) _ _ _
 refine cQ (kb (h1.thn C ai am aj al λb W ar aE aD aG aq aB rb aK ao aA=> ?_));have ra:=ra.stepE ai aB;refine eN (PF ao) λc a7 aF=> ?_;clear P al aj ao Lc am ax ai;refine cQ (iN (cQ (kb (yw (s:={ s with heap:=ar,toks:=aE }) aq hu a7 ra rb λtk=> ?_))))
 refine cQ (PyProof.Rows.wpAny_release' (cQ (kb (nS ?_))));cases c with
 |false=>
  refine oA (ky aF) λez1 ez2=> ?_;subst ez1;subst ez2;exact dc (aA.now aq rfl tk)
 |true=>
  show wpAny _ _ (do
   let rv <-holding [W] (eval a9 f.env)
   standAt pos
   let c <-operate [W,rv] (compareOp ba W rv)
   holding [c] (truthy c)) _ _ _
  have cb:=aA.after (h₁:=ar) (tk₁:=tk) (kK.refl ..);refine cQ (kb (h2.thn (s:={ s with heap:=ar,toks:=tk }) C aq aK aF cb λd X au aH aI cf ay aC rd bj bZ aM=> ?_))
  have rb:=rb.stepE aq aC;refine eN (fe.mp bZ) λc' bY bE=> ?_;refine p1 bE ?_;clear bE;intro ey ez;subst ey;subst ez;refine cQ (iN (cQ (PyProof.Rows.wpAny_operate' (yw (s:={ s with heap:=au,toks:=aH }) ay hu bY rb rd λtk'=> ?_))))
  exact kb (nS (aM.now ay rfl tk'))
end
section
variable{f:Fm}{aa:List (Option PV)}
structure yU(G:Gl):Prop where
 ga:findIn G.K (.ref G.rC) "__getattribute__"=some (some (.builtin "object.__getattribute__"))
 sa:findIn G.K (.ref G.rC) "__setattr__"=some (some (.builtin "object.__setattr__"))
 hd:hasDictIn G.K G.rC=true
 po:plainOver G.K G.rC=true
theorem yV{y:List Nat}{t:Tok}:(Value.str ⟨x.toArray⟩ t).isStr ⟨y.toArray⟩=(x == y):=vA x y
theorem mw.find{h:Heap}{ad:List Addr}{x:List Nat}:∀{es:List DictEntry}{kvs:List (List Nat×PV)},mw G h ad es kvs->
  match mx x kvs with
  |some v=>∃e,es.find? (·.key.isStr ⟨x.toArray⟩)=some e/\eW G h ad v e.val
  |none=>es.find? (·.key.isStr ⟨x.toArray⟩)=none
 |[],[],_=>rfl
 |e::es,kv::kvs,⟨⟨t,h1⟩,h2,h3,h4⟩=>by
  have ih:=mw.find (x:=x) h4;unfold mx;by_cases q:kv.1=x
  ·rw[cH q];refine⟨e,?_,h3⟩;rw[List.find?_cons,h1,yV,q];simp
  ·rw[cJ q];have:(e.key.isStr ⟨x.toArray⟩)=false:=by rw[h1,yV];simpa using q
   rw[List.find?_cons,this];exact ih
 |[],_::_,x=>x.elim
 |_::_,[],x=>x.elim
theorem mw.noref{h:Heap}{ad:List Addr}:∀{es:List DictEntry}{kvs:List (List Nat×PV)},mw G h ad es kvs->es.any (·.refKey)=false
 |[],[],_=>rfl
 |e::es,kv::kvs,⟨⟨t,h1⟩,h2,h3,h4⟩=>by rw[lF,mw.noref h4];unfold DictEntry.refKey;rw[h1];rfl
 |[],_::_,x=>x.elim
 |_::_,[],x=>x.elim
theorem mw.length{h:Heap}{ad:List Addr}:∀{es:List DictEntry}{kvs:List (List Nat×PV)},mw G h ad es kvs->es.length=kvs.length
 |[],[],_=>rfl
 |_::_,_::_,⟨_,_,_,h4⟩=>dN (· +1) (mw.length h4)
 |[],_::_,x=>x.elim
 |_::_,[],x=>x.elim
noncomputable def uS(x:List Nat)(v:PV):List (List Nat×PV)->List (List Nat×PV)
 |[]=>[(x,v)]
 |kv::r=>if kv.1=x then(kv.1,v)::r else kv::uS x v r
theorem EX(x:List Nat)(u:PV):∀kvs,(uS x u kvs).length<=kvs.length+1
 |[]=>by simp[uS]
 |kv::kvs=>by
  unfold uS;split
  ·simp
  ·have:=EX x u kvs
   simpa using this
theorem mw.put{h:Heap}{ad:List Addr}{x:List Nat}{v:PV}{V:Value}{t:Tok}(rv:eW G h ad v V):∀{es:List DictEntry}{kvs:List (List Nat×PV)},mw G h ad es kvs->
  mw G h ad (putL ⟨x.toArray⟩ (PyData.keyHash G.w.params ⟨x.toArray⟩) (.str ⟨x.toArray⟩ t) V es) (uS x v kvs)
 |[],[],_=>⟨⟨t,rfl⟩,rfl,rv,trivial⟩
 |e::es,kv::kvs,⟨⟨u,h1⟩,h2,h3,h4⟩=>by
  unfold putL uS;rw[h1,yV];by_cases q:kv.1=x
  ·rw[cH q,cH (by simpa using q)];exact⟨⟨u,h1▸rfl⟩,h2,rv,h4⟩
  ·rw[cJ q,cJ (by simpa using q)];exact⟨⟨u,h1⟩,h2,h3,mw.put rv h4⟩
 |[],_::_,x=>x.elim
 |_::_,[],x=>x.elim
theorem eW.handed{v:PV}{V:Value}(r:eW G h ad v V):handedIn V=true:=by
 cases v with
 |d x=>cases r<;>rfl
 |ref k=>(refine eN r λa _ ez1=> ?_;clear r;subst ez1);rfl
 |inst k=>(refine iJ r λa x _ ez1 _=> ?_;clear r;subst ez1);rfl
 |cl xs=>(refine mZ r λa _ ez1 _=> ?_;clear r;subst ez1);rfl
 |cd kvs=>(refine mZ r λa _ ez1 _=> ?_;clear r;subst ez1);rfl
noncomputable def xQ(σ:List MO):PV->Option (Nat×List (List Nat×PV))
 | .inst k=>match σ[k]? with
  |some (.obj kvs)=>some (k,kvs)
  |_=>none
 |_=>none
theorem EY{v:PV}{V:Value}{k:Nat}{kvs:List (List Nat×PV)}(S:St G F ad σ h)(e:xQ σ v=some (k,kvs))(r:eW G h ad v V):
  ∃a x es m,v= .inst k/\V= .ref x/\ad[k]? =some a/\h.get? a=some (dictOf es m)/\mw G h ad es kvs/\InstAt h x (instObj G.rC a) G.rC (some (dictOf es m)):=by
 cases v with
 |inst j=>
  simp only[xQ]at e
  symm at e
  ·rename_i q;refine ZJ e ?_;clear e;intro ey ez;subst ey;subst ez;refine iJ r λa x h1 ez1 h3=> ?_;clear r;subst ez1;refine mZ (S.ads _ a _ h1 q) λes m h4 h5=> ?_;exact⟨a,x,es,m,rfl,rfl,h1,h4,h5,⟨h3,rfl,rfl,h4⟩⟩
  ·exact eC e
 |d x=>exact eC e
 |ref k=>exact eC e
 |cl xs=>exact eC e
 |cd kvs=>exact eC e
def oH(σ:List MO)(x:List Nat)(v:PV):Option PV:=(xQ σ v).bind λp=>mx x p.2
theorem MA{v r:PV}{V:Value}(R:yU G)(hf:findIn G.K (.ref G.rC) ⟨x.toArray⟩=some none)(S:St G F ad σ s.heap)(rv:eW G s.heap ad v V)(e:oH σ x v=some r)
  (h:∀W tk,eW G s.heap ad r W->Q W { s with heap:=s.heap,toks:=tk }):wpAny (model G.prog G.w) A (getAttr V ⟨x.toArray⟩ true) Q E s:=by
 unfold oH at e;refine eN (dL.mp e) λoz1 e1 e2=> ?_;obtain⟨k,kvs⟩:=oz1;refine yH (EY S e1 rv) λa y es m ez1 ez2 h1 h2 h3 I=> ?_;subst ez1;subst ez2;have hfd:=mw.find (x:=x) h3;dsimp only at e2;rw[e2]at hfd;refine eN hfd λen h4 h5=> ?_;clear hfd
 have hl:lookIn ⟨x.toArray⟩ (dictOf es m)=some (some en.val):=by unfold lookIn;simp only[h4]
 exact get_value (G.KX.keeps S.base) I R.ga (findObj_own R.hd hf rfl hl) h5.handed (h en.val _ h5)
theorem PG{x:Str}{xp:Pos}{nm:Str}(R:yU G)(hf:findIn G.K (.ref G.rC) nm=some none)(h:dR G n f aa (.Name x xp) m):dR G n f aa (.Attribute (.Name x xp) nm pos) (bnd m λv=>λσ=>(oH σ nm.cps.toList v).map λr=>(.ok r,σ)):=by
 intro A ag Ls ad σ s Q E z σ' C S Lc er P;refine Attribute_any_ (h.thn C S Lc er P λv V h₁ tk₁ ak σ₁ ai ax rv am aj al=> ?_) (by with_unfolding_all rfl);refine eN (fe.mp aj) λr az aF=> ?_;refine p1 aF ?_;clear aF;intro ey ez;subst ey;subst ez;have:=MA (A:=A) (Q:=Q) (E:=E) (s:={ s with heap:=h₁,toks:=tk₁ }) (x:=nm.cps.toList) R (by rw[oR];exact hf) ai rv az λW tk rW=>al.now ai rW tk
 rw[oR]at this;exact this
theorem MB{v u:PV}{V U:Value}{k:Nat}{kvs:List (List Nat×PV)}{Q:Unit->Shared->Prop}(R:yU G)(hf:findIn G.K (.ref G.rC) ⟨x.toArray⟩=some none)(S:St G F ad σ s.heap)(rv:eW G s.heap ad v V)(ru:eW G s.heap ad u U)
  (e:xQ σ v=some (k,kvs))(hz:kvs.length<=1000)
  (h:∀h' tk,St G F ad (σ.set k (.obj (uS x u kvs))) h'->dE F ad ad s.heap h'->Q () { s with heap:=h',toks:=tk }):wpAny (model G.prog G.w) A (setAttr V ⟨x.toArray⟩ U) Q E s:=by
 refine yH (EY S e rv) λa y es m ez1 ez2 h1 h2 h3 I=> ?_;subst ez1;subst ez2;have X:=G.KX.keeps S.base;refine set_plain X I R.sa (osa_open (s:={ s with toks:=s.toks+1 }) X I R.po (show takerIn G.K G.rC ⟨x.toArray⟩=some none by unfold takerIn;rw[hf];rfl) λb=> ?_)
 refine eN (any_some R.hd) λcd hc hd'=> ?_;have hx:s.heap.get? y=some (instObj G.rC a):=I.at_;have D:s.heap.get? a=some (dictOf es m):=h2;refine cQ (dc (cQ (cQ (wpAny_loadPart hx (cQ ((looks_clsIn X hc).here (s:={ s with toks:=s.toks+1 }) ?_))))))
 rw[hd'];refine dc (a:=some a) (cQ (dc (cQ ?_)));unfold nsSet;refine cQ (cQ (wpAny_askSetting (dc (cQ (wpAny_mkText (cQ (wpAny_loadPart D ?_)))))));dsimp only
 have c:(!es.toArray.any (·.key.isStr ⟨x.toArray⟩) && es.toArray.any (·.refKey))=false:=by rw[<-nW,<-nW,List.toList_toArray,h3.noref,Bool.and_false]
 rw[aRefKeyMayBeTheName_at,c];refine wpAny_updatePart D ?_
 have D':(s.heap.update a (Obj.putName ⟨x.toArray⟩ (PyData.keyHash G.w.params ⟨x.toArray⟩) (.str ⟨x.toArray⟩ (s.toks+1)) U)).get? a=some (dictOf (putL ⟨x.toArray⟩ (PyData.keyHash G.w.params ⟨x.toArray⟩) (.str ⟨x.toArray⟩ (s.toks+1)) U es) (putN ⟨x.toArray⟩ es m)):=by rw[Heap.get?_update_self _ D (by rw[putName_dict];rfl),putName_dict]
 have r3:=mw.put (x:=x) (t:=s.toks+1) ru h3;refine cQ (wpAny_lookBehind D' (pastItsLine_dict ?_) ?_)
 ·rw[ro,r3.length];have:=EX x u kvs;have h4:sizeLine >= 1001:=by decide
  exact(kI (.l A1 (.a A2 K1)) [.l A0 (.k 1000),.l A1 (.a A0 K1),.l (.k 1001) A2]) hz this h4
 have kk:∀b o,b≠a->s.heap.get? b=some o->(s.heap.update a (Obj.putName ⟨x.toArray⟩ (PyData.keyHash G.w.params ⟨x.toArray⟩) (.str ⟨x.toArray⟩ (s.toks+1)) U)).get? b=some o:=λb o hb e=>(qG _ _ (Ne.symm hb)).trans e;have P:dE F ad ad s.heap _:=dE.upd (gu h1) kk ⟨_,D'⟩;refine oA (S.upd (mo:= .obj (uS x u kvs)) h1 kk ⟨_,_,D',mw.mono (λv V r=>r.stepE S P) r3⟩) λS' p'=> ?_;exact dc (h _ _ S' p')
def setO(x:List Nat)(v u:PV)(k:Unit->M Fl):M Fl:=λσ=>match xQ σ v with
 |some (j,kvs)=>if kvs.length<=1000 then k () (σ.set j (.obj (uS x u kvs)))else none
 |none=>none
theorem Hk{x:Str}{xp tp:Pos}{nm:Str}{mo:M PV}(R:yU G)(hf:findIn G.K (.ref G.rC) nm=some none)(hs:swapsWith e (some (.Attribute (.Name x xp) nm tp)) pos.line f.env=pure false)(ho:dR G n f aa (.Name x xp) mo)(he:dR G n f aa e m):
  jB G n f aa (.Assign [.Attribute (.Name x xp) nm tp] e pos) (bnd m λu=>bnd mo λv=>setO nm.cps.toList v u λ_=>ret (.nxt aa)):=by
 intro A ag Ls ad σ s Q E r σ' hE C S Lc er P;refine plainObj_wpAny_Assign_Attribute (he.thnS C S Lc er P λu U h₁ tk₁ ak σ₁ ai ax ru am aj al=>ho.thnS C ai am aj al λv V ar aE aD aG aq aB rv aK ao aA=> ?_) hs;have ru:=ru.stepE ai aB;unfold setO at ao
 symm at ao
 ·rename_i j kvs q
  symm at ao
  ·rename_i hz;have aA:=aA.of_ret ao;have:=MB (A:=A) (Q:=λ_=>Q .next) (E:=E) (s:={ s with heap:=ar,toks:=aE }) (x:=nm.cps.toList) R (by rw[oR];exact hf) aq rv ru q hz λh' tk S' p'=>aA h' tk aD S' (p'.toS (gE.mp S.fnd).1) (aK.step aq p')
   rw[oR]at this;exact this
  ·exact eC ao
 ·exact eC ao
theorem Hl{x:Str}{xp tp:Pos}{nm:Str}{op:Operator}{mo:M PV}(R:yU G)(hf:findIn G.K (.ref G.rC) nm=some none)(ho:dR G n f aa (.Name x xp) mo)(he:dR G n f aa e m):
  jB G n f aa (.AugAssign (.Attribute (.Name x xp) nm tp) op e pos) (bnd mo λv=>λσ=>match oH σ nm.cps.toList v with
   |some old=>bnd m (λu=>bnd (lift (uQ op old u)) λw=>setO nm.cps.toList v w λ_=>ret (.nxt aa)) σ
   |none=>none):=by
 intro A ag Ls ad σ s Q E r σ' hE C S Lc er P;refine wpAny_AugAssign_AttributeAny (ho.thnS C S Lc er P λv V h₁ tk₁ ak σ₁ ai ax rv am aj al=> ?_)
 symm at aj
 ·rename_i old q;have hf':findIn G.K (.ref G.rC) ⟨nm.cps.toList.toArray⟩=some none:=by rw[oR];exact hf
  have step:=MA (A:=A) (E:=E) (s:={ s with heap:=h₁,toks:=tk₁ }) (x:=nm.cps.toList) R hf' ai rv q (Q:=λoldV aO=>wpAny (model G.prog G.w) A (eval e f.env) (λu aT=>wpAny (model G.prog G.w) A (inplaceOp op oldV u) (λnew aY=>
      wpAny (model G.prog G.w) A (setAttr V nm new) (λ_=>Q .next) E aY) E aT) E aO) λW tk rW=>by
   have bJ:=al.after (h₁:=h₁) (tk₁:=tk) (kK.refl ..);refine he.thnS (s:={ s with heap:=h₁,toks:=tk }) C ai am aj bJ λu U ar aE aD aG aq aB ru aK ao aA=> ?_
   have rW:=rW.stepE ai aB;have rv:=rv.stepE ai aB;clear bJ al P er Lc am ai;refine eN (vG ao) λw e8 e7=> ?_;unfold uQ at e8;split at e8
   ·refine eN (fe.mp e8) λc e9 e10=> ?_;subst e10;refine Jc e9 rW ru λX tk' rX=> ?_;unfold setO at e7
    symm at e7
    ·rename_i j kvs q2
     symm at e7
     ·rename_i hz;refine oA (ky e7) λez1 ez2=> ?_;subst ez1;subst ez2;have:=MB (A:=A) (Q:=λ_=>Q .next) (E:=E) (s:={ s with heap:=ar,toks:=tk' }) (u:= .d c) (x:=nm.cps.toList) R hf' aq rv rX q2 hz λh' tk S' p'=>aA h' tk aD S' (p'.toS (gE.mp S.fnd).1) (aK.step aq p')
      rw[oR]at this;exact this
     ·exact eC e7
    ·exact eC e7
   ·exact eC e8
  rw[oR]at step;exact step
 ·exact eC aj
end
section
variable{f:Fm}{aa:List (Option PV)}
theorem BM(C:Addr)(args:List Value)(kw:List (Str×Value)):(Code.builtin "type.__call__" ⟨.ref C::args,kw⟩).weight=1:=rfl
theorem MC(C:Addr)(args:List Value)(kw:List (Str×Value)):(Code.builtin "type.__call__" ⟨.ref C::args,kw⟩).cUnits=1:=rfl
theorem wK.tc{D:Addr}{args:List Value}(C:wK G A (n+1) f ag Ls):wK G (A.under (.builtin "type.__call__" ⟨.ref D::args,[]⟩)) n f ag Ls:=
 ⟨C.hA,C.out,C.kinds,C.hk,C.hh,by have:=C.hd;show A.depth+(Code.builtin "type.__call__" ⟨.ref D::args,[]⟩).weight+n<1000;rw[BM];exact Z1 this,
  by have:=C.hu;show A.units+(Code.builtin "type.__call__" ⟨.ref D::args,[]⟩).cUnits+16 * n+200<9900;rw[MC];exact Ys this,C.nd,C.aa⟩
noncomputable def EZ(init:List PV->M PV)(vs:List PV):M PV:=λσ=>match init (.inst σ.length::vs) (σ++[.obj []])with
 |some (.ok (.d .none),σ')=>some (.ok (.inst σ.length),σ')
 |_=>none
theorem Kr{init:List PV->M PV}{r:R PV}(e:EZ init vs σ=some (r,σ')):init (.inst σ.length::vs) (σ++[.obj []])=some (.ok (.d .none),σ')/\r= .ok (.inst σ.length):=by
 have e:(match(generalizing:=false) init (.inst σ.length::vs) (σ++[.obj []])with|some (.ok (.d .none),τ)=>some (R.ok (PV.inst σ.length),τ)|_=>none)=some (r,σ'):=e
 generalize init (.inst σ.length::vs) (σ++[.obj []])=o at e ⊢;cases o with
 |none=>exact eC e
 |some p=>cases p with
  |mk a τ=>cases a with
   |exc=>exact eC e
   |ok v=>cases v with
    |d d=>cases d with
     |none=>exact⟨dN some (dN (Prod.mk _) (Prod.mk.inj (si e)).2),(Prod.mk.inj (si e)).1.symm⟩
     |_=>exact eC e
    |_=>exact eC e
theorem PH{fI:Addr}{init:List PV->M PV}(hm:makesIn G.K G.rC=true)(hi:findIn G.K (.ref G.rC) "__init__"=some (some (.ref fI)))(hf:isFn G.K (.ref fI)=true)(h:fK G n fI init):fK G (n+1) G.rC (EZ init):=by
 intro f A ag Ls ad σ s R vs Vs r σ' C S rv e P;obtain⟨hh,g,d,t,os⟩:=s;have X:=G.KX.keeps S.base;refine make_core (makes_of X hm) (looks_findIn X hi) (λself=>bind_fn X self (kc.mp hf)) (.inl rfl) ?_;have S:St G (f.L::Ls) ad σ hh:=S;have rv:jA G hh ad vs Vs:=rv;have hfr:=fN hh;have hdf:(emptyDict:Obj)=dictOf [] 0:=rfl;have k1:∀b o,hh.get? b=some o->(hh.push emptyDict).get? b=some o:=λb o e=>fc _ e;have g1:(hh.push emptyDict).get? hh.objs.size=some emptyDict:=gP _ rfl;have ai:St G (f.L::Ls) (ad++[hh.objs.size]) (σ++[.obj []]) (hh.push emptyDict):=S.grow k1 hfr S.size ⟨[],0,g1,trivial⟩;have ax:dE (f.L::Ls) ad (ad++[hh.objs.size]) hh (hh.push emptyDict):=dE.grow k1 hfr
 have k2:∀b o,(hh.push emptyDict).get? b=some o->((hh.push emptyDict).push (instObj G.rC hh.objs.size)).get? b=some o:=λb o e=>fc _ e;have aq:=ai.of_keep k2;have aB:dE (f.L::Ls) (ad++[hh.objs.size]) (ad++[hh.objs.size]) _ _:=dE.of_keep k2
 have g2:((hh.push emptyDict).push (instObj G.rC hh.objs.size)).get? (hh.objs.size+1)=some (instObj G.rC hh.objs.size):=by
  have:=gP (hh.push emptyDict) (o:=instObj G.rC hh.objs.size) rfl
  rwa [Heap.size_push]at this
 have ri:eW G ((hh.push emptyDict).push (instObj G.rC hh.objs.size)) (ad++[hh.objs.size]) (.inst σ.length) (.ref (hh.objs.size+1)):=⟨hh.objs.size,_,by rw[<-S.len];simp,rfl,g2⟩;have rvs:jA G ((hh.push emptyDict).push (instObj G.rC hh.objs.size)) (ad++[hh.objs.size]) (.inst σ.length::vs) (.ref (hh.objs.size+1)::Vs):=⟨ri,(rv.stepE S ax).stepE ai aB⟩;refine oA (Kr e) λq ez=> ?_;clear e;subst ez;have C':wK G (A.under (.builtin "type.__call__" ⟨.ref G.rC::Vs,[]⟩)) n f ag Ls:=C.tc;refine h f _ ag Ls _ _ ⟨(hh.push emptyDict).push (instObj G.rC hh.objs.size),g,d,t,os⟩ _ _ _ _ _ C' aq rvs q ?_;intro V h' tk ad' S' p' r'
 obtain rfl:=Rd.none_inv r';refine⟨rfl,?_⟩;exact P (.ref (hh.objs.size+1)) h' tk ad' S' ((ax.trans aB).trans p') (eW.stepE ri aq p')
end
structure ku(M:Model)(h:Heap)(C:Addr):Prop where
 obj:∃od cd sl,h.get? C=some ⟨.type "type",od,.cls cd,sl⟩/\cd.abstract=false/\cd.hasDel=false/\cd.mro.isEmpty=false
 made:Looks M h (Bind.madeBy (.ref C)) (some "Exception.__new__")
 base:Looks M h (Bind.staticBase (.ref C)) (.ref C)
 self:Looks M h (isSubtype (.ref C) (.ref C)) true
 exc:Looks M h (isSubtype (.ref C) (.type "Exception")) true
 bexc:Looks M h (isSubtype (.ref C) (.type "BaseException")) true
 noAttr:Looks M h (isSubtype (.ref C) (.type "AttributeError")) false
 noName:Looks M h (isSubtype (.ref C) (.type "NameError")) false
 call:Looks M h (specialOf (.ref C) "__call__") (some (.builtin "type.__call__"))
 typ:Looks M h (isInstance (.ref C) (.type "type")) true
theorem ku.on{M:Model}{C:Addr}{K:Prop}(Y:ku M h C)(k:∀od cd sl,h.get? C=some ⟨.type "type",od,.cls cd,sl⟩->cd.abstract=false->cd.hasDel=false->cd.mro.isEmpty=false->Looks M h (Bind.madeBy (.ref C)) (some "Exception.__new__")->Looks M h (Bind.staticBase (.ref C)) (.ref C)->Looks M h (isSubtype (.ref C) (.ref C)) true->
  Looks M h (isSubtype (.ref C) (.type "Exception")) true->Looks M h (isSubtype (.ref C) (.type "BaseException")) true->Looks M h (isSubtype (.ref C) (.type "AttributeError")) false->Looks M h (isSubtype (.ref C) (.type "NameError")) false->Looks M h (specialOf (.ref C) "__call__") (some (.builtin "type.__call__"))->Looks M h (isInstance (.ref C) (.type "type")) true->K):K:=
 Y.obj.elim λod h=>h.elim λcd h=>h.elim λsl h=>k od cd sl h.1 h.2.1 h.2.2.1 h.2.2.2 Y.made Y.base Y.self Y.exc Y.bexc Y.noAttr Y.noName Y.call Y.typ
noncomputable abbrev rJ(C t:Addr):Obj:={ cls:= .ref C,data:= .fields #[.ref t,.none,.none,.none,.bool false,.none] }
section
variable{prog:Program}{w:World}{R:Result->Shared->Prop}{g:Array GenState}{d:Drawn}{t:Nat}{os:OsState}{C:Addr}
theorem PI{rest:List Value}(Y:ku (model prog w) h C)(hrest:rest.length<=sizeLine)
  (hq:R (.ok (.ret (.ref (h.objs.size+1)))) ⟨(h.push { cls:= .type "tuple",data:= .seq rest.toArray }).push (rJ C h.objs.size),g,d,t,os⟩):
  codeAny (model prog w) A (.call (.builtin "Exception.__new__") ⟨.ref C::rest,[]⟩) R ⟨h,g,d,t,os⟩:=by
 refine Y.on λod cd sl hC e1 e2 e4 made base self exc bexc noAttr noName call typ=> ?_;clear Y;have F:=PySem.F.excBase_Exception;have hends:=F.ends;have here:Looks (model prog w) h (Bind.madeHere "BaseException.__new__" (.ref C)) ():=base.andThen (made.andThen (Looks.of_pure (by simp only[Option.map_some,F.canon,bne_self_eq_false,jf,if_false])));have here2:Looks (model prog w) h (Bind.madeHere "Exception.__new__" (.ref C)) ():=base.andThen (made.andThen (Looks.of_pure (by simp only[Option.map_some,bne_self_eq_false,jf,if_false])));refine codeAny_call_builtin_code (Code.quiet_builtin _ F.quiet) ?_
 simp only[checkBuiltinCall,F.newKind,F.newSplit,F.newRow]
 repeat (first|simp only[bne_self_eq_false,jf,if_false]|lk|wp_step)
 refine codeAny_builtinAt F.entry ?_;unfold Builtin.«BaseException.__new__»;refine PySem.wpAt_bind ?_;show PySem.wpAt _ _ _ (stack >>= _) _ _ _;refine PySem.wpAt_bind (PySem.wpAt_stack λp below=>PySem.wpAt_of_wpAny ?_)
 wp_walk
 refine PySem.wpAt_of_wpAny ?_;rw[F.owner]
 repeat (first|simp only[bne_self_eq_false,jf,if_false]|lk|wp_step)
 refine nd_load (fc _ (fc _ hC)) (dc ?_);dsimp only;rw[e2];refine dc (dc (dc ?_));show R _ _;rw[Heap.size_push];exact hq
theorem MD{rest:List Value}{init:Value}(Y:ku (model prog w) h C)(hi:Looks (model prog w) h (typeLookup (.ref C) "__init__") (some init))(hb:∀self,Looks (model prog w) h (bindSpecial init self) (init,[self]))(hrest:rest.length<=sizeLine)
  (hq:codeAny (model prog w) (A.under (.builtin "type.__call__" ⟨.ref C::rest,[]⟩)) (.call init ⟨.ref (h.objs.size+1)::rest,[]⟩) (InitBack (h.objs.size+1) R) ⟨(h.push { cls:= .type "tuple",data:= .seq rest.toArray }).push (rJ C h.objs.size),g,d,t,os⟩):
  codeAny (model prog w) A (.call (.ref C) ⟨rest,[]⟩) R ⟨h,g,d,t,os⟩:=by
 have Y':=Y;refine Y.on λod cd sl hC e1 e2 e4 made base self exc bexc noAttr noName call typ=> ?_;clear Y;refine codeAny_of_tree ?_;show wpAny _ _ (callAny (.ref C) _) _ _ _;refine nd_load hC ?_;show wpAny _ _ (callAny.viaDunder (.ref C) _) _ _ _;unfold callAny.viaDunder;refine cQ (call.at ?_);dsimp only;rw[tc_bind];refine cQ (dc (cQ (dc ?_)));refine dc (a:=Fin.again (.call (.builtin "type.__call__") ⟨.ref C::rest,[]⟩)) (And.intro rfl ?_);refine codeAny_call_builtin_at (Code.quiet_builtin _ (by decide+kernel)) entry_typeCall (check_slot tc_kind tc_split typ (tc_args _ _ _) ?_);unfold Builtin.«type.__call__»
 have hm:Looks (model prog w) h (mroOf (.ref C)) cd.mro:=((Looks.ld (part:=none) hC).andThen .now).andThen .now
 repeat (first|simp only[e4,jf,if_false]|with_reducible refine wpAny_call ?_|lk)
 refine PI Y' hrest ?_;have k:∀b o,h.get? b=some o->((h.push { cls:= .type "tuple",data:= .seq rest.toArray }).push (rJ C h.objs.size)).get? b=some o:=λb o e=>fc _ (fc _ e);have hx:((h.push { cls:= .type "tuple",data:= .seq rest.toArray }).push (rJ C h.objs.size)).get? (h.objs.size+1)=some (rJ C h.objs.size):=by heap_get
 have t1:Looks (model prog w) ((h.push { cls:= .type "tuple",data:= .seq rest.toArray }).push (rJ C h.objs.size)) (typeOf (.ref (h.objs.size+1))) (.ref C):=(Looks.ld hx).andThen .now;have s1:=self.keeps k;have i1:=hi.keeps k;have b1:=(hb (.ref (h.objs.size+1))).keeps k;unfold isInstance callSpecial? specialOf
 repeat (first|with_reducible refine wpAny_call ?_|lk)
 refine codeAny_mono hq λr s' z=> ?_;rcases r with e|(v|_|_|_)<;>first|exact z|exact z.elim|skip
 obtain⟨rfl,z⟩:=z;exact dc (dc z)
theorem Hm{M:Model}{env:Env}{x:Sem Value}{Q:Flow->Shared->Prop}(hh:A.handled=none)
  (h:wpAny M A x (λv aJ=>∃e ob vs,v= .ref e/\aJ.heap.get? e=some ob/\ob.cls= .ref C/\ob.data= .fields vs/\vs[1]? =some .none/\ku M aJ.heap C/\E (.ref e) aJ) E s):
  wpAny M A (raiseStmt env (some x) none) Q E s:=by
 unfold raiseStmt;refine cQ (wpAny_mono h (λv aJ h₁=> ?_) λ_ _ x=>x);refine G0 h₁ λe ob vs ez1 he hcls hdat hv1 Y hE=> ?_;clear h₁;subst ez1;obtain⟨hp,g,d,tk,os⟩:=aJ;refine Y.on λod cd sl hC e1 e2 e4 made base self exc bexc noAttr noName call typ=> ?_;clear Y;obtain⟨obc,obd,obt,obs⟩:=ob;subst hcls hdat;have t1:Looks M hp (typeOf (.ref e)) (.ref C):=(Looks.ld he).andThen .now
 repeat (first|simp only[jf,if_false,if_true]|with_reducible refine wpAny_loadPart_at he ?_|lk|wp_step)
 rw[hv1];refine dc ?_;rw[cJ (by decide)];exact dc (wpAny_raiseNew_none hh hE)
end
section
theorem Hn(self:Value):refuseLoop self "__setattr__" [.type "Exception",.type "BaseException",.type "object"]=pure ():=by
 first|rfl|rfl'
structure PJ(G:Gl)(B:Addr):Prop where
 made:∀M:Model,ku M G.h₀ G.fC
 cd:∃cd,clsIn G.K G.fC=some cd/\cd.hasDict=true/\cd.mro=[.ref G.fC,.ref B,.type "Exception",.type "BaseException",.type "object"]
 sa:findIn G.K (.ref G.fC) "__setattr__"=some (some (.builtin "object.__setattr__"))
theorem ku.keeps{M:Model}{h h':Heap}{C:Addr}(Y:ku M h C)(k:∀b o,h.get? b=some o->h'.get? b=some o):ku M h' C:=by refine Y.on λod cd sl hC e1 e2 e4 made base self exc bexc noAttr noName call typ=> ?_;clear Y;exact⟨⟨od,cd,sl,k _ _ hC,e1,e2,e4⟩,made.keeps k,base.keeps k,self.keeps k,exc.keeps k,bexc.keeps k,noAttr.keeps k,noName.keeps k,call.keeps k,typ.keeps k⟩
section
variable{x B:Addr}{v:Value}{R:Result->Shared->Prop}
theorem E0{ox:Obj}{od:Option Obj}{name:Str}{tk:Tok}(F:PJ G B)(hb:G.h₀.StaysIn s.heap)(I:InstAt s.heap x ox G.fC od)(hf:findIn G.K (.ref G.fC) name=some none)
  (h:∀b,wpAny (model G.prog G.w) A.in1 (Builtin.ObjectAttr.storeInOwnDict (.ref x) (.ref G.fC) (.str name tk) name v b)
   (λkF s'=>match kF with| .done f=>R (.ok f) s'| .again c'=>c'.quiet=true/\codeAny (model G.prog G.w) A c' R s') (λe s'=>R (.error e) s') s):
  codeAny (model G.prog G.w) A (.call (.builtin "object.__setattr__") ⟨[.ref x,.str name tk,v],[]⟩) R s:=by
 have SF:=PySem.F.store_object;have X:=G.KX.keeps hb;refine ou F.cd λcd hc hdi hmro=> ?_
 have hM:mroIn G.K G.fC (.type "object")=some true:=by unfold mroIn;rw[hc,gQ,hmro,cJ (by simp)];simp
 have sub:Looks (model G.prog G.w) s.heap (isInstance (.ref x) (.type "object")) true:=I.type.andThen (looks_mroIn X hM);refine codeAny_call_builtin SF.slot.plain SF.entry (@check_slot (model G.prog G.w) _ _ s "object.__setattr__" "object" "__setattr__" (.ref x) [.str name tk,v] [] _ SF.kind SF.split sub (SF.args (.ref x) (.str name tk) v) ?_);have hm:Looks (model G.prog G.w) s.heap (mroOf (.ref G.fC)) cd.mro:=(looks_clsIn X hc).andThen .now;rw[osa_eq,refuse_eq];refine cQ (cQ (I.type.here (cQ (hm.here ?_))));rw[hmro,refuseLoop_ref,refuseLoop_ref,Hn];refine dc (cQ (I.type.here (cQ ((looks_findIn X hf).here (cQ (dc ?_))))))
 exact h _
def XO(G:Gl)(h:Heap)(x:Addr)(od:Option Addr):Prop:=∃vs sl a0,h.get? x=some ⟨.ref G.fC,od,.fields vs,sl⟩/\vs[1]? =some .none/\vs[0]? =some a0
def XD(h:Heap)(dx:Addr)(k:Nat):Prop:=∃es n,h.get? dx=some (dictOf es n)/\es.any (·.refKey)=false/\es.length<=k
theorem yW{dx:Addr}{es:List DictEntry}{k:Nat}{name:Str}{tk:Tok}{A':Around}(D:s.heap.get? dx=some (dictOf es n))(hr:es.any (·.refKey)=false)(hl:es.length<=k)(hk:k<=1000)
  (h:∀h' tk',(∀b o,b≠dx->s.heap.get? b=some o->h'.get? b=some o)->XD h' dx (k+1)->R (.ok (.ret .none)) { s with heap:=h',toks:=tk' }):
  wpAny (model G.prog G.w) A' (Builtin.ObjectAttr.storeInDict dx (.str name tk) name v)
   (λkF s'=>match kF with| .done f=>R (.ok f) s'| .again c'=>c'.quiet=true/\codeAny (model G.prog G.w) A c' R s') (λe s'=>R (.error e) s') s:=by
 unfold Builtin.ObjectAttr.storeInDict;refine cQ (dc (cQ ?_));unfold nsSet;refine cQ (cQ (wpAny_askSetting (dc (cQ (wpAny_mkText (cQ (wpAny_loadPart D ?_)))))));dsimp only
 have c:(!es.toArray.any (·.key.isStr name) && es.toArray.any (·.refKey))=false:=by rw[<-nW,<-nW,List.toList_toArray,hr,Bool.and_false]
 rw[aRefKeyMayBeTheName_at,c];refine wpAny_updatePart D ?_
 have D':(s.heap.update dx (Obj.putName name (PyData.keyHash G.w.params name) (.str name s.toks) v)).get? dx=some (dictOf (putL name (PyData.keyHash G.w.params name) (.str name s.toks) v es) (putN name es n)):=by rw[Heap.get?_update_self _ D (by rw[putName_dict];rfl),putName_dict]
 have h1:∀es:List DictEntry,(putL name (PyData.keyHash G.w.params name) (.str name s.toks) v es).length<=es.length+1:=by
  intro es
  induction es with
  |nil=>simp[putL]
  |cons e es ih=>
   unfold putL;split
   ·simp
   ·simpa using ih
 have h2:∀es:List DictEntry,es.any (·.refKey)=false->(putL name (PyData.keyHash G.w.params name) (.str name s.toks) v es).any (·.refKey)=false:=by
  intro es
  induction es with
  |nil=>intro _;rfl
  |cons e es ih=>
   intro hh;rw[lF,Bool.or_eq_false_iff]at hh;unfold putL;split
   ·rw[lF,Bool.or_eq_false_iff];exact⟨hh.1,hh.2⟩
   ·rw[lF,Bool.or_eq_false_iff];exact⟨hh.1,ih hh.2⟩
 refine cQ (wpAny_lookBehind D' (pastItsLine_dict ?_) ?_)
 ·rw[ro];have:=h1 es;have h4:sizeLine >= 1001:=by decide
  exact(lx (.l A2 (.a A3 K1)) [.l A0 A1,.l A1 (.k 1000),.l A2 (.a A0 K1),.l (.k 1001) A3]) hl hk this h4
 ·exact dc (h _ _ (λb o hb e=>(qG _ _ (Ne.symm hb)).trans e) ⟨_,_,D',h2 es hr,by have:=h1 es;exact(kI (.l A2 (.a A1 K1)) [.l A0 A1,.l A2 (.a A0 K1)]) hl this⟩)
theorem ME{name:Str}{Q:Unit->Shared->Prop}(F:PJ G B)(hb:G.h₀.StaysIn s.heap)(hx:XO G s.heap x none)(hf:findIn G.K (.ref G.fC) name=some none)
  (h:∀h' tk dx,(∀b o,b≠x->s.heap.get? b=some o->h'.get? b=some o)->XO G h' x (some dx)->s.heap.get? dx=none->XD h' dx 1->Q () { s with heap:=h',toks:=tk }):
  wpAny (model G.prog G.w) A (setAttr (.ref x) name v) Q E s:=by
 have X:=G.KX.keeps hb;refine iO hx λvs sl a0 ho h1 h0=> ?_;clear hx;have I:InstAt s.heap x ⟨.ref G.fC,none,.fields vs,sl⟩ G.fC none:=⟨ho,rfl,rfl,trivial⟩;refine set_plain X I F.sa (E0 (s:={ s with toks:=s.toks+1 }) F hb I hf λb=> ?_)
 refine ou F.cd λcd hc hdi hmro=> ?_;refine cQ (dc (cQ (cQ (wpAny_loadPart ho (cQ ((looks_clsIn X hc).here (s:={ s with toks:=s.toks+1 }) ?_))))))
 rw[hdi];simp only[Bool.not_true,jf,if_false,typeHasDict,Bool.or_self];have hfr:=fN s.heap;have hxl:x≠s.heap.objs.size:=Nat.ne_of_lt (kH ho);have ho1:=fc (h:=s.heap) { cls:= .type "dict",data:= .dict #[] } ho;refine cQ (wpAny_alloc (cQ (wpAny_update ho1 ?_)));refine dc ?_
 have hd1:((s.heap.push { cls:= .type "dict",data:= .dict #[] }).update x λo=>{ cls:=o.cls,dict:=some s.heap.objs.size,data:=o.data,slots:=o.slots }).get? s.heap.objs.size=some (dictOf [] 0):=
  (qG _ _ hxl).trans (gP _ rfl)
 have hx1:=Heap.get?_update_self (λo:Obj=>{ cls:=o.cls,dict:=some s.heap.objs.size,data:=o.data,slots:=o.slots }) ho1 rfl;refine yW (G:=G) (A:=A) (R:=λr s'=>match r with| .ok (.ret _)=>Q () s'| .ok _=>False| .error e=>E e s') (s:={ s with heap:=(s.heap.push { cls:= .type "dict",data:= .dict #[] }).update x λo=>{ cls:=o.cls,dict:=some s.heap.objs.size,data:=o.data,slots:=o.slots },toks:=s.toks+1 }) (k:=0) hd1 rfl (ip _) (by decide) λh' tk' kk D=> ?_
 refine h h' tk' s.heap.objs.size (λb o hb e=> ?_) ⟨vs,sl,a0,kk _ _ hxl hx1,h1,h0⟩ hfr D;refine kk b o (Nat.ne_of_lt (kH e)) ?_;exact(qG _ _ (Ne.symm hb)).trans (fc _ e)
theorem MF{name:Str}{dx:Addr}{k:Nat}{Q:Unit->Shared->Prop}(F:PJ G B)(hb:G.h₀.StaysIn s.heap)(hx:XO G s.heap x (some dx))(hd:XD s.heap dx k)(hk:k<=1000)(hf:findIn G.K (.ref G.fC) name=some none)
  (h:∀h' tk,(∀b o,b≠dx->s.heap.get? b=some o->h'.get? b=some o)->XD h' dx (k+1)->Q () { s with heap:=h',toks:=tk }):
  wpAny (model G.prog G.w) A (setAttr (.ref x) name v) Q E s:=by
 have X:=G.KX.keeps hb;refine iO hx λvs sl a0 ho h1 h0=> ?_;clear hx;refine iJ hd λes m hdo hr hl=> ?_;clear hd;have I:InstAt s.heap x ⟨.ref G.fC,some dx,.fields vs,sl⟩ G.fC (some (dictOf es m)):=⟨ho,rfl,rfl,hdo⟩;refine set_plain X I F.sa (E0 (s:={ s with toks:=s.toks+1 }) F hb I hf λb=> ?_)
 refine ou F.cd λcd hc hdi hmro=> ?_;refine cQ (dc (cQ (cQ (wpAny_loadPart ho (cQ ((looks_clsIn X hc).here (s:={ s with toks:=s.toks+1 }) ?_))))))
 rw[hdi];refine dc ?_;exact yW (G:=G) (A:=A) (R:=λr s'=>match r with| .ok (.ret _)=>Q () s'| .ok _=>False| .error e=>E e s') (s:={ s with toks:=s.toks+1 }) (k:=k) hdo hr hl hk λh' tk' kk D=>h h' tk' kk D
end
section
variable{prog:Program}{w:World}{g:Array GenState}{d:Drawn}{t:Nat}{os:OsState}{C:Addr}
theorem MG{e:Addr}{od:Option Addr}{vs:Array Value}{sl}{t0:Value}{rest:List Value}(Y:ku (model prog w) h C)
  (he:h.get? e=some ⟨.ref C,od,.fields vs,sl⟩)(h0:vs[0]? =some t0)(hrest:rest.length<=sizeLine)
  (hq:∀k,k=(h.push { cls:= .type "tuple",data:= .seq rest.toArray }).update e (Obj.mapFields (·.setIfInBounds 0 (.ref h.objs.size)))->Q .none ⟨k,g,d,t,os⟩):
  wpAny (model prog w) A (call (.builtin "Exception.__init__") (.ref e::rest)) Q E ⟨h,g,d,t,os⟩:=by
 have F:=PySem.F.excBase_Exception;refine Y.on λod cd sl hC e1 e2 e4 made base self exc bexc noAttr noName call typ=> ?_;clear Y;have t1:Looks (model prog w) h (typeOf (.ref e)) (.ref C):=(Looks.ld he).andThen .now;refine wpAny_call (codeAny_call_builtin F.init.plain F.initEntry ?_);simp only[checkBuiltinCall,F.initKind,F.initSplit,F.initRow];have hshort:=F.noStar;unfold isInstance
 repeat (first|simp only[jf,if_false,Bool.not_true]|with_reducible refine Looks.at (by assumption) ?_|with_reducible refine wpAny_loadPart_at he ?_|wp_step)
 refine wpAny_onRaise ?_
 rw[show ∀(a b:String)(n:Nat),Bind.check ⟨.positional,"*","Exception",.self,[⟨"args",.varPos,false⟩]⟩ a b n (List.map (λx=>x.fst) ({ pos:=Value.ref e::rest }:Args).kw)=pure ()from
  λa b n=>check_star_args _ _ _ _ _ _]
 refine dc ?_;unfold Builtin.«BaseException.__init__»;dsimp only;rw[cJ (by simp)];unfold newTuple Builtin.BaseException.bexcPut;have hsz:0<vs.size:=(Array.getElem?_eq_some_iff.mp h0).1;have bC:=fc (h:=h) { cls:= .type "tuple",data:= .seq rest.toArray } he;refine cQ (wpAny_newObj_type (cQ (cQ (wpAny_field bC rfl h0 (cQ (wpAny_setField bC rfl hsz ?_))))) (by show rest.toArray.size<=sizeLine;rw[ro];exact hrest));cases t0<;>first|exact wpAny_letGo (dc (hq _ rfl))|exact dc (dc (hq _ rfl))
end
end
section
section
variable{prog:Program}{w:World}{env:Env}
theorem so{o:cP}{name:Str}{apos:Pos}{args:List cP}
  (hbase:attributeBase o name env (eval o env)=eval o env)
  (hfew:((backTo pos (starEach args env)).all (λx=> !x.1) &&(backToKw pos (keywordEach [] env)).all (λx=>x.1.isSome)
   && decide (args.length+([]:List Keyword).length+(if([]:List Keyword).isEmpty then 0 else 1)<30))=true)
  (hline:(apos.endLine == pos.line)=true)
  (h:wpAny (model prog w) A (eval o env) (λov aJ=>∀pl,wpAny (model prog w) A (getMethod ov name pl) (λfx aO=>wpAny (model prog w) A (callWith pos fx.1 fx.2 (backTo pos (starEach args env)) []) Q E aO) E aJ) E s):
  wpAny (model prog w) A (eval (.Call (.Attribute o name apos) args [] pos) env) Q E s:=by
 rw[arm_eval_Call,hbase];refine cQ (wpAny_mono h (λov aJ h₁=> ?_) λ_ _ e=>e);refine cQ (iN ?_);have hform:methodCallForm (args.length+([]:List Keyword).length) (backTo pos (starEach args env)) (backToKw pos (keywordEach [] env))=true:=hfew;have hpos:methodCallPos true o env apos pos=pure pos:=by unfold methodCallPos;simp[hline]
 unfold methodCall;rw[hform];refine cQ (kb (wpAny_mono (h₁ _) (λfx aO ar=> ?_) λ_ _ e=>e));exact cQ (wpAny_of_eq hpos ar)
end
noncomputable def qQ(cn ini sf tx an vn:Str)(p1 p2 p3 p4 p5 p6 p7 p8 p9 p10:Pos):List Stmt:=
 [.Expr (.Call (.Attribute (.Name cn p1) ini p2) [.Name sf p3,.Name tx p4] [] p5) p6,.Assign [.Attribute (.Name sf p7) an p8] (.Name vn p9) p10]
structure Ho(G:Gl)(B fA fS:Addr):Prop extends PJ G B where
 gB:specialIn G.K (.ref B) "__getattribute__"=some (some (.builtin "type.__getattribute__"))
 tB:typeIn G.K (.ref B)=some (.type "type")
 rB:readsIn G.K B (.type "type")=true
 iB:findCls G.K (.ref B) (.type "type") "__init__"=some (.val (.ref fA))
 kA:keepIn G.K (.ref fA)=true
 iE:findCls G.K (.type "Exception") (.type "type") "__init__"=some (.val (.builtin "Exception.__init__"))
 xt:findIn G.K (.ref G.fC) "text"=some none
 xl:findIn G.K (.ref G.fC) "line"=some none
 iC:findIn G.K (.ref G.fC) "__init__"=some (some (.ref fS))
 fnS:isFn G.K (.ref fS)=true
 kC:keepIn G.K (.ref G.fC)=true
section
variable{B fA fS:Addr}{x:Addr}
theorem nZ{cn:Str}{m:Str->Option Value}{y:Str}{p:Pos}{V:Value}(hk:sc.kind= .function)(hl:sc.names.lookup y=some .local)(hd:(y ==("__debug__":Str))=false)
  (hn:s.heap.Ns L m)(hv:m y=some V)(h:Q V s):wpAny (model G.prog G.w) A (eval (.Name y p) (envOf cn sc L a cd)) Q E s:=
 wpAny_Name (wpAny_loadName_local hk hl hn hv h) hd
theorem yA{x:Addr}{m:Str->Option Value}(hn:h.Ns L m)(hx:L≠x)(k:∀b o,b≠x->h.get? b=some o->h'.get? b=some o):h'.Ns L m:=by refine o9 hn λo es ep e1 e2=> ?_;clear hn;exact⟨o,es,ep,k _ _ hx e1,e2⟩
theorem XO.ne{od:Option Addr}{m:Str->Option Value}(hx:XO G h x od)(hn:h.Ns L m):L≠x:=by refine o9 hx λvs sl a0 ho _=> ?_;clear hx;refine iO hn λo es ep e1 e2 _=> ?_;clear hn;intro z;subst z;rw[ho]at e1;replace e1:=si e1;subst e1;cases e2
theorem BN(hb:G.h₀.StaysIn h)(hx:G.h₀.get? x=none)(k:∀b o,b≠x->h.get? b=some o->h'.get? b=some o):G.h₀.StaysIn h':=λb o e=>k b o (λz=>by rw[z,hx]at e;exact eC e) (hb b o e)
theorem MH{cn:Str}{m:Str->Option Value}{sf tx:Str}{p1 p2 p3 p4 p5 p6 p7 p8 p9 p10:Pos}{V:Value}{Q:Flow->Shared->Prop}(F:Ho G B fA fS)(hk:sc.kind= .function)
  (hex:sc.names.lookup ("Exception":Str)=some .globalImplicit)(hl1:sc.names.lookup sf=some .local)(hl2:sc.names.lookup tx=some .local)(hd1:(sf ==("__debug__":Str))=false)(hd2:(tx ==("__debug__":Str))=false)
  (hmg:G.mg "Exception"=none)(hline:(p2.endLine == p5.line)=true)(hb:G.h₀.StaysIn s.heap)(hLa:G.h₀.objs.size<=L)(hxn:G.h₀.get? x=none)(hn:s.heap.Ns L m)(h1:m sf=some (.ref x))(h2:m tx=some V)(hx:XO G s.heap x none)
  (h:∀h' tk dx,(∀b o,b≠x->s.heap.get? b=some o->h'.get? b=some o)->XO G h' x (some dx)->s.heap.get? dx=none->XD h' dx 1->Q .next { s with heap:=h',toks:=tk }):
  wpAny (model G.prog G.w) A (execs (qQ "Exception" "__init__" sf tx "text" tx p1 p2 p3 p4 p5 p6 p7 p8 p9 p10) (envOf cn sc L a cd)) Q E s:=by
 have hLx:L≠x:=hx.ne hn;refine nV (wpAny_Expr_any (so rfl (by rfl) hline ?_) (by show((sc.kind == .module) && _)=false;rw[hk];rfl) (by rfl));refine Name_function_global hk hex (loadGlobal_builtin (env:=envOf cn sc L a cd) (G.hg.keeps hb) hmg (G.hb.keeps hb) ((G.hbo "Exception" (by decide)).trans (show bootBuiltins "Exception"=some (.type "Exception") by boot_by_name)) λpl=> ?_) (by decide);have Fr1:Fr G.h₀ L s.heap m:=⟨hn,hb,hLa⟩;refine method_type Fr1 G.KX (by first|exact PySem.F.isi_meta_Exception|rfl') (by decide+kernel) F.iE (by decide+kernel) ?_
 refine callWith_builtin rfl (evalArgs_plain (spliced_cons (nZ (s:={ s with toks:=s.toks+1 }) hk hl1 hd1 hn h1 (spliced_cons (nZ hk hl2 hd2 hn h2 (spliced_nil ?_))))))
 refine iO hx λvs sl a0 ho hv1 hv0=> ?_;clear hx;obtain⟨hh,g,d,t,os⟩:=s;refine MG (rest:=[V]) ((F.made _).keeps hb) ho hv0 (by show 1<=sizeLine;decide) λk hk'=> ?_;subst hk';have ho1:=fc (h:=hh) { cls:= .type "tuple",data:= .seq [V].toArray } ho;have hx1:=Heap.get?_update_self (Obj.mapFields (·.setIfInBounds 0 (.ref hh.objs.size))) ho1 rfl
 have kk:∀b o,b≠x->hh.get? b=some o->((hh.push { cls:= .type "tuple",data:= .seq [V].toArray }).update x (Obj.mapFields (·.setIfInBounds 0 (.ref hh.objs.size)))).get? b=some o:=λb o hb e=>(qG _ _ (Ne.symm hb)).trans (fc _ e)
 have XO1:XO G ((hh.push { cls:= .type "tuple",data:= .seq [V].toArray }).update x (Obj.mapFields (·.setIfInBounds 0 (.ref hh.objs.size)))) x none:=
  ⟨vs.setIfInBounds 0 (.ref hh.objs.size),sl,.ref hh.objs.size,hx1,by rw[Array.getElem?_setIfInBounds_ne (by decide)];exact hv1,by have:=(Array.getElem?_eq_some_iff.mp hv0).1;simp[this]⟩
 refine nV (plainObj_wpAny_Assign_Attribute (nZ hk hl2 hd2 (yA hn hLx kk) h2 (nZ hk hl1 hd1 (yA hn hLx kk) h1 ?_)) (by rfl));refine ME F.toPJ (BN hb hxn kk) XO1 F.xt λh' tk dx k2 hx' hdx hD=>wpAny_execs_nil ?_;refine h h' tk dx (λb o hb e=>k2 b o hb (kk b o hb e)) hx' ?_ hD;cases q:hh.get? dx with
 |none=>rfl
 |some o=>
  by_cases z:dx=x
  ·subst z;rw[hx1]at hdx;exact yt hdx
  ·rw[kk dx o z q]at hdx;exact yt hdx
theorem Sm{cn:Str}{k:Nat}{R:Result->Shared->Prop}(fn:CL G a cn sc cd body ps k [])(hps:∀y ∈ ps,sc.names.lookup y=some .local)(hk:Vs.length=k)(hb:G.h₀.StaysIn s.heap)(hsz:G.h₀.objs.size<=s.heap.objs.size)(hroom:A.depth<1000)
  (h:∀L h₁ tk,s.heap.get? L=none->G.h₀.objs.size<=L->h₁.Ns L (λy=>(ps.zip Vs).reverse.lookup y)->(∀b o,s.heap.get? b=some o->h₁.get? b=some o)->
   wpAny (model G.prog G.w) (A.deeper (envOf cn sc L a cd)) (execs body (envOf cn sc L a cd)) (λfl s'=>R (.ok (.ret (match fl with| .ret v=>v|_=> .none))) s')
    (λe s'=>wpAny (model G.prog G.w) (A.deeper (envOf cn sc L a cd)) (leaving (envOf cn sc L a cd) e) (λ_ s''=>R (.error e) s'') (λe' s''=>R (.error e') s'') s') { s with heap:=h₁,toks:=tk }):
  codeAny (model G.prog G.w) A (.call (.ref a) ⟨Vs,[]⟩) R s:=by
 refine vx fn.fn λo fd h1 h2 h3 ez1 ez2 ez3 h7 h8 h9 h10=> ?_;subst ez1;subst ez2;subst ez3;refine eN (h10 s Vs hb hk) λDs hD hbd=> ?_;cases hD;rw[gD]at hbd;refine codeAny_call_def hroom (hb _ _ h1) h2 (G.lim.keeps hb) (fn.code.keeps hb) h3 hbd fn.cell (λx hx=>hps x.1 (List.of_mem_zip (show(x.1,x.2) ∈ _ from hx)).1) (λh₁ hns hkeep=> ?_) fn.co fn.gen fn.kind
 have henv:callEnv fd s.heap.objs.size a=envOf fd.qualname fd.scope s.heap.objs.size a fd.code:=by unfold callEnv newEnv envOf;simp only[h7,h8,h9]
 rw[henv];exact h s.heap.objs.size h₁ _ (fN _) hsz hns hkeep
structure uT(G:Gl)(a:Addr)(cn:Str)(sc:Scope)(cd:Value)(ps:List Str)(own:Str)(body:List Stmt):Prop where
 fn:CL G a cn sc cd body ps ps.length []
 aa:∀y ∈ ps,sc.names.lookup y=some .local
 glob:sc.names.lookup own=some .globalImplicit
theorem XO.keepE{od:Option Addr}(hx:XO G h x od)(k:∀b o,h.get? b=some o->h'.get? b=some o):XO G h' x od:=by refine iO hx λvs sl a0 ho h1 h0=> ?_;clear hx;exact⟨vs,sl,a0,k _ _ ho,h1,h0⟩
theorem MI{cn:Str}{p1 p2 p3 p4 p5 p6 p7 p8 p9 p10:Pos}{V:Value}{R:Result->Shared->Prop}(F:Ho G B fA fS)
  (I:uT G fA cn sc cd ["self","text"] "Exception" (qQ "Exception" "__init__" "self" "text" "text" "text" p1 p2 p3 p4 p5 p6 p7 p8 p9 p10))(hmg:G.mg "Exception"=none)(hline:(p2.endLine == p5.line)=true)
  (hb:G.h₀.StaysIn s.heap)(hsz:G.h₀.objs.size<=s.heap.objs.size)(hroom:A.depth<1000)(hxn:G.h₀.get? x=none)(hx:XO G s.heap x none)
  (h:∀h' tk dx,(∀b o,b≠x->s.heap.get? b=some o->h'.get? b=some o)->XO G h' x (some dx)->s.heap.get? dx=none->XD h' dx 1->R (.ok (.ret .none)) { s with heap:=h',toks:=tk }):
  codeAny (model G.prog G.w) A (.call (.ref fA) ⟨[.ref x,V],[]⟩) R s:=by
 refine Sm I.fn I.aa rfl hb hsz hroom λL h₁ tk hL hLa hns hk=> ?_;refine MH (s:={ s with heap:=h₁,toks:=tk }) F I.fn.kind I.glob (I.aa _ (by simp)) (I.aa _ (by simp)) (by decide) (by decide) hmg hline (λb o e=>hk b o (hb b o e)) hLa hxn hns (V:=V) (by rfl) (by rfl) (hx.keepE hk) λh' tk' dx k2 hx' hdx hD=> ?_
 refine h h' tk' dx (λb o hb e=>k2 b o hb (hk b o e)) hx' ?_ hD;cases q:s.heap.get? dx with
 |none=>rfl
 |some o=>
  have hdx:h₁.get? dx=none:=hdx;rw[hk dx o q]at hdx;exact yt hdx
theorem MJ{cn cnA:Str}{scA:Scope}{cdA:Value}{p1 p2 p3 p4 p5 p6 p7 p8 p9 p10 q1 q2 q3 q4 q5 q6 q7 q8 q9 q10:Pos}{V W:Value}{R:Result->Shared->Prop}(F:Ho G B fA fS)
  (IA:uT G fA cnA scA cdA ["self","text"] "Exception" (qQ "Exception" "__init__" "self" "text" "text" "text" p1 p2 p3 p4 p5 p6 p7 p8 p9 p10))(hmg:G.mg "Exception"=none)(hline:(p2.endLine == p5.line)=true)
  (I:uT G fS cn sc cd ["self","line","text"] "AdaError" (qQ "AdaError" "__init__" "self" "text" "line" "line" q1 q2 q3 q4 q5 q6 q7 q8 q9 q10))(hmgA:G.mg "AdaError"=some (.ref B))(hlineA:(q2.endLine == q5.line)=true)
  (hb:G.h₀.StaysIn s.heap)(hsz:G.h₀.objs.size<=s.heap.objs.size)(hroom:A.depth+1<1000)(hxn:G.h₀.get? x=none)(hx:XO G s.heap x none)
  (h:∀h' tk dx,(∀b o,b≠x->s.heap.get? b=some o->h'.get? b=some o)->XO G h' x (some dx)->R (.ok (.ret .none)) { s with heap:=h',toks:=tk }):
  codeAny (model G.prog G.w) A (.call (.ref fS) ⟨[.ref x,V,W],[]⟩) R s:=by
 refine Sm I.fn I.aa rfl hb hsz ((lx (.t A0 A2) [.t (.a A0 A3) A1,.g (.a A1 K1) (.a A2 (.a A3 K1))]) hroom rfl) λL h₁ tk hL hLa hns hk=> ?_;have be:G.h₀.StaysIn h₁:=λb o e=>hk b o (hb b o e);have bp:=hx.keepE hk;have hLx:L≠x:=bp.ne hns;have l1:sc.names.lookup ("self":Str)=some .local:=I.aa _ (by simp);have l2:sc.names.lookup ("line":Str)=some .local:=I.aa _ (by simp);have l3:sc.names.lookup ("text":Str)=some .local:=I.aa _ (by simp);have hk':=I.fn.kind;refine nV (wpAny_Expr_any (so rfl (by rfl) hlineA ?_) (by show((sc.kind == .module) && _)=false;rw[hk'];rfl) (by rfl));refine Name_function_global hk' I.glob (loadGlobal_global (env:=envOf cn sc L fS cd) (s:={ s with heap:=h₁,toks:=tk }) (G.hg.keeps be) hmgA λpl=> ?_) (by decide)
 have Fr1:Fr G.h₀ L h₁ _:=⟨hns,be,hLa⟩;refine method_of_cls (s:={ s with heap:=h₁,toks:=tk }) Fr1 G.KX F.gB (cls_val (s:={ s with heap:=h₁,toks:=tk }) Fr1 G.KX F.tB F.rB F.iB rfl ?_)
 refine callWith_K G.KX F.kA ?_ rfl rfl;refine spliced_cons (nZ (s:={ s with heap:=h₁,toks:=tk+1 }) hk' l1 (by decide) hns (by rfl) (spliced_cons (nZ (s:={ s with heap:=h₁,toks:=tk+1 }) hk' l3 (by decide) hns (by rfl) (spliced_nil ⟨G.KX.keeps be,?_⟩))))
 refine wpAny_call (MI (s:={ s with heap:=h₁,toks:=tk+1 }) F IA hmg hline be ?_ (by show A.depth+1<1000;exact hroom) hxn bp λh' tk' dx k2 hx' hdx hD=> ?_)
 ·exact Nat.le_of_lt (Nat.lt_of_le_of_lt hLa hns.lt)
 have k2':∀b o,b≠x->h₁.get? b=some o->h'.get? b=some o:=k2;refine nV (plainObj_wpAny_Assign_Attribute (nZ (s:={ s with heap:=h',toks:=tk' }) hk' l2 (by decide) (yA hns hLx k2') (by rfl) (nZ (s:={ s with heap:=h',toks:=tk' }) hk' l1 (by decide) (yA hns hLx k2') (by rfl) ?_)) (by rfl))
 refine MF (s:={ s with heap:=h',toks:=tk' }) F.toPJ (BN be hxn k2') hx' hD (by decide) F.xl λh'' tk'' k3 hD'=>wpAny_execs_nil ?_
 have hdx:h₁.get? dx=none:=hdx
 have hxd:x≠dx:=λz=>by refine o9 bp λvs sl a0 ho _=> ?_;clear bp;rw[z,hdx]at ho;exact eC ho
 refine h h'' tk'' dx (λb o hb e=>k3 b o (λz=> ?_) (k2' b o hb (hk b o e))) ?_
 ·rw[z]at e;rw[hk dx o e]at hdx;exact yt hdx
 ·refine iO hx' λvs sl a0 ho h1 h0=> ?_;clear hx';exact⟨vs,sl,a0,k3 x _ hxd ho,h1,h0⟩
theorem Hp{cn cnA:Str}{scA:Scope}{cdA:Value}{p1 p2 p3 p4 p5 p6 p7 p8 p9 p10 q1 q2 q3 q4 q5 q6 q7 q8 q9 q10:Pos}{V W:Value}{R:Result->Shared->Prop}(F:Ho G B fA fS)
  (IA:uT G fA cnA scA cdA ["self","text"] "Exception" (qQ "Exception" "__init__" "self" "text" "text" "text" p1 p2 p3 p4 p5 p6 p7 p8 p9 p10))(hmg:G.mg "Exception"=none)(hline:(p2.endLine == p5.line)=true)
  (I:uT G fS cn sc cd ["self","line","text"] "AdaError" (qQ "AdaError" "__init__" "self" "text" "line" "line" q1 q2 q3 q4 q5 q6 q7 q8 q9 q10))(hmgA:G.mg "AdaError"=some (.ref B))(hlineA:(q2.endLine == q5.line)=true)
  (hb:G.h₀.StaysIn s.heap)(hsz:G.h₀.objs.size<=s.heap.objs.size)(hroom:A.depth+3<1000)
  (h:∀h' tk x,(∀b o,s.heap.get? b=some o->h'.get? b=some o)->s.heap.get? x=none->EL G s.heap h' x->R (.ok (.ret (.ref x))) { s with heap:=h',toks:=tk }):
  codeAny (model G.prog G.w) A (.call (.ref G.fC) ⟨[V,W],[]⟩) R s:=by
 obtain⟨hh,g,d,t,os⟩:=s;have X:=G.KX.keeps hb;have k:∀(o1 o2:Obj) b o,hh.get? b=some o->((hh.push o1).push o2).get? b=some o:=λo1 o2 b o e=>fc _ (fc _ e);refine MD ((F.made _).keeps hb) (looks_findIn X F.iC) (λself=>bind_fn X self (kc.mp F.fnS)) (by show 2<=sizeLine;decide) ?_;have hfr:hh.get? (hh.objs.size+1)=none:=Heap.get?_none_of_le (Nat.le_succ _);have hget:((hh.push { cls:= .type "tuple",data:= .seq [V,W].toArray }).push (rJ G.fC hh.objs.size)).get? (hh.objs.size+1)=some (rJ G.fC hh.objs.size):=by heap_get
 refine MJ (x:=hh.objs.size+1) (s:=⟨(hh.push { cls:= .type "tuple",data:= .seq [V,W].toArray }).push (rJ G.fC hh.objs.size),g,d,t,os⟩) F IA hmg hline I hmgA hlineA (λb o e=>k _ _ b o (hb b o e)) ?_ ?_ ?_ ?_ λh' tk dx kk hx'=> ?_
 ·show G.h₀.objs.size<=_;simp only[Heap.size_push];have hsz:G.h₀.objs.size<=hh.objs.size:=hsz;exact(ie (.l A0 (.a (.a A1 K1) K1)) [.l A0 A1]) hsz
 ·show A.depth+(Code.builtin "type.__call__" ⟨.ref G.fC::[V,W],[]⟩).weight+1<1000;rw[BM];exact(lE (.t (.a (.a A0 K1) K1) (.k 1000)) [.t (.a A0 (.k 3)) (.k 1000)]) hroom
 ·cases q:G.h₀.get? (hh.objs.size+1)with
  |none=>rfl
  |some o=>have:=hb _ o q;rw[show Shared.heap ⟨hh,g,d,t,os⟩=hh from rfl,hfr]at this;exact eC this
 ·exact⟨_,_,_,hget,rfl,rfl⟩
 ·refine⟨rfl,?_⟩;refine iO hx' λvs sl a0 ho h1 h0=> ?_;clear hx';refine h h' tk (hh.objs.size+1) (λb o e=>kk b o (λz=> ?_) (k _ _ b o e)) hfr ⟨hfr,_,vs,a0,ho,rfl,rfl,h1,h0⟩;rw[z]at e;exact absurd (kH e) (Nat.not_lt.mpr (Nat.le_succ _))
end
end
section
variable{f:Fm}{aa:List (Option PV)}
def jS(G:Gl)(n:Nat)(a:Addr)(sem:List PV->M Unit):Prop:=
 ∀(f:Fm)(A:Around)(ag:List Env)(Ls ad:List Addr)(σ:List MO)(s:Shared)(R:Result->Shared->Prop)(vs:List PV)(Vs:List Value)(σ':List MO),
  wK G A n f ag Ls->St G (f.L::Ls) ad σ s.heap->jA G s.heap ad vs Vs->sem vs σ=some (.ok (),σ')->
  (∀x h' tk ad',St G (f.L::Ls) ad' σ' h'->dE (f.L::Ls) ad ad' s.heap h'->EL G s.heap h' x->R (.ok (.ret (.ref x))) { s with heap:=h',toks:=tk })->
  codeAny (model G.prog G.w) A (.call (.ref a) ⟨Vs,[]⟩) R s
def CQ(m1 m2:M PV):M Unit:=bnd (ja [m1,m2]) λ_=>ret ()
theorem MK:∀{σ σ':List MO}{b:List PV},ja ms σ=some (.ok b,σ')->b.length=ms.length:=by
 induction ms with
 |nil=>intro σ σ' b e;exact oA (ky e) λe _=>dN List.length (R.ok.inj e)
 |cons m ms ih=>
  intro σ σ' b e;refine(nG e).elim (λ⟨_,_,_,e⟩=> ?_) λz=>nomatch z.2;refine(nG e).elim (λ⟨_,_,e1,e2⟩=> ?_) λz=>nomatch z.2;exact oA (ky e2) λe3 _=>(dN List.length (R.ok.inj e3)).trans (dN (· +1) (ih e1))
theorem Ty{C:Prop}{l:List α}(h:l.length=2)(k:∀x y,l=[x,y]->C):C:=by
 cases l with
 |nil=>exact nomatch h
 |cons x l=>cases l with
  |nil=>exact nomatch h
  |cons y l=>cases l with
   |nil=>exact k x y rfl
   |cons z l=>exact nomatch h
theorem ML{B fA fS:Addr}{cn:Str}{k:Nat}{e1 e2:cP}{sfn:Str}{p1 p6 p7:Pos}{m1 m2:List PV->M PV}
  (F:Ho G B fA fS)(mk:∀(A:Around) (s:Shared) (V W:Value) (R:Result->Shared->Prop),G.h₀.StaysIn s.heap->G.h₀.objs.size<=s.heap.objs.size->A.depth+3<1000->
   (∀h' tk x,(∀b o,s.heap.get? b=some o->h'.get? b=some o)->s.heap.get? x=none->EL G s.heap h' x->R (.ok (.ret (.ref x))) { s with heap:=h',toks:=tk })->codeAny (model G.prog G.w) A (.call (.ref G.fC) ⟨[V,W],[]⟩) R s)
  (fn:CL G a cn sc cd [.Return (some (.Call (.Name sfn p1) [e1,e2] [] p6)) p7] ps k ds)(hn:(ps++more).Nodup)(hl:∀x ∈ ps++more,sc.names.lookup x=some .local)
  (hsf:sc.names.lookup sfn=some .globalImplicit)(hsd:(sfn ==("__debug__":Str))=false)(hmg:G.mg sfn=some (.ref G.fC))(h1:W.isStarred e1=false)(h2:W.isStarred e2=false)
  (ok:∀vs L,vs.length=k->dR G (n+3) ⟨cn,sc,L,a,cd,ps++more⟩ (eR vs ds more.length) e1 (m1 vs)/\dR G (n+3) ⟨cn,sc,L,a,cd,ps++more⟩ (eR vs ds more.length) e2 (m2 vs)):
  jS G (n+4) a (λvs=>if vs.length=k then CQ (m1 vs) (m2 vs)else cU):=by
 intro f A ag Ls ad σ s R vs Vs σ' C S rv e P;have e:(if vs.length=k then CQ (m1 vs) (m2 vs)else cU) σ=some (Internal.R.ok (),σ'):=e;by_cases hk:vs.length=k
 case neg=>rw[cJ hk]at e;exact eC e
 rw[cH hk]at e;refine EU fn hn hl hk C S rv λL h₁ tk hfr hkeep C' ai Lc=> ?_;have aP:dE (f.L::Ls) ad ad s.heap h₁:=dE.of_keep hkeep;have hkind:sc.kind= .function:=fn.kind;refine nV (wpAny_Return_some (nU (Name_function_global hkind hsf (loadGlobal_global (env:=envOf cn sc L a cd) (s:={ s with heap:=h₁,toks:=tk }) (G.hg.keeps ai.base) hmg ?_) hsd)))
 have hs:jy G (n+3) ⟨cn,sc,L,a,cd,ps++more⟩ (eR vs ds more.length) [e1,e2] [m1 vs,m2 vs]:= .cons h1 (ok vs L hk).1 (.cons h2 (ok vs L hk).2 .nil);refine callWith_K (G.KX.keeps ai.base) F.kC ?_ (eb h1) (jy.plain (jy.cons h2 (ok vs L hk).2 .nil));rcases nG e with⟨b,σ₁,e3,e4⟩|⟨_,e4⟩
 case inr=>cases e4
 refine oA (ky e4) λ_ ez1=> ?_;subst ez1;refine oQ hs _ _ _ ad σ { s with heap:=h₁,toks:=tk } _ _ _ _ C' ai Lc e3 λWs ar aE aD aq aB rw=>⟨G.KX.keeps aq.base,?_⟩
 have hlen:=rw.length;have hd':=C'.hd;rw[MK e3]at hlen;refine Ty hlen λV W ez=> ?_;subst ez;refine wpAny_call (mk _ { s with heap:=ar,toks:=aE } V W _ aq.base aq.size ?_ λau aH x bz hx fl=> ?_)
 ·exact(ie (.t (.a A0 (.k 3)) (.k 1000)) [.t (.a A0 (.a A1 (.k 3))) (.k 1000)]) hd'
 ·have ay:=aq.of_keep bz;have aC:dE (L::f.L::Ls) aD aD ar au:=dE.of_keep bz;have q:dE (f.L::Ls) ad aD s.heap au:=iG.out hkeep hfr ((aB.trans aC).toS (gE.mp ai.fnd).1);exact P x au aH aD ay.tail q (fl.back λb z=>(iG.out hkeep hfr (aB.toS (gE.mp ai.fnd).1)).ex b z)
noncomputable def uU(m:M Unit):M Fl:=λσ=>match m σ with
 |some (.ok _,σ')=>some (.exc,σ')
 |_=>none
theorem Hq{m:M Unit}{r:R Fl}(e:uU m σ=some (r,σ')):m σ=some (.ok (),σ')/\r= .exc:=by
 have e:(match(generalizing:=false) m σ with|some (.ok _,τ)=>some (R.exc,τ)|_=>none)=some (r,σ'):=e
 generalize m σ=o at e ⊢;cases o with
 |none=>exact eC e
 |some p=>cases p with
  |mk a τ=>cases a with
   |ok u=>exact⟨dN some (dN (Prod.mk _) (Prod.mk.inj (si e)).2),(Prod.mk.inj (si e)).1.symm⟩
   |exc=>exact eC e
theorem MM{x:Str}{cp:Pos}{sem:List PV->M Unit}(F:∀M,ku M G.h₀ G.fC)(hx:f.cs.names.lookup x=some .globalImplicit)(hg:G.mg x=some (.ref a))(hd:(x ==("__debug__":Str))=false)(hkp:keepIn G.K (.ref a)=true)
  (hs:jy G n f aa es ms)(hne:es≠[])(hc:jS G n a sem):jB G n f aa (.Raise (some (.Call (.Name x np) es [] cp)) none pos) (bnd (ja ms) λvs=>uU (sem vs)):=by
 intro A ag Ls ad σ s Q E r σ' hE C S Lc er P;have hLF:f.L ∉ Ls:=(gE.mp S.fnd).1;show wpAny _ _ (do standAt pos;raiseStmt f.env (some (do let v <-eval (.Call (.Name x np) es [] cp) f.env;standAt pos;pure v)) none) _ _ _;refine cQ (iN (Hm (C:=G.fC) C.hh (cQ ?_)));refine nU (Name_function_global C.hk hx (loadGlobal_global (env:=f.env) (G.hg.keeps S.base) hg ?_) hd);cases hs with
 |nil=>exact absurd rfl hne
 |cons h0 h1 hs=>
  refine callWith_K (G.KX.keeps S.base) hkp ((oQ (.cons h0 h1 hs)).thnS C S Lc er P λvs Vs h₁ tk₁ ak σ₁ ai ax rv am aj al=>⟨G.KX.keeps ai.base,?_⟩) (eb h0) hs.plain;refine oA (Hq aj) λe2 ez=> ?_;clear aj;subst ez;refine wpAny_call (hc f A ag Ls ak σ₁ { s with heap:=h₁,toks:=tk₁ } _ vs Vs σ' C ai rv e2 λy h' tk ad' S' p' fl=> ?_)
  refine cQ (iN (dc ?_));have fl':=fl;refine Ka fl' λ_ ob vs' a0 g1 g2 g3 g4 g5=> ?_;clear fl';refine⟨y,ob,vs',rfl,g1,g2,g3,g4,(F _).keeps S'.base,?_⟩;exact al y h' tk ad' S' (p'.toS hLF) (.inl fl)
end
section
variable{f:Fm}{aa:List (Option PV)}
theorem E1{hs:Heap}{x:Addr}{fl:Value}(hb:G.h₀.StaysIn hs)(F:yK G hs h x fl):∃T,vF G h [x,T]/\(∀y ∈ [x,T],hs.get? y=none):=by
 have fresh0:∀b,hs.get? b=none->G.h₀.get? b=none:=λb e=>by
  cases q:G.h₀.get? b with
  |none=>rfl
  |some o=>rw[hb b o q]at e;exact yt e
 refine ls F λh1 a0 oe vs T oT ts h2 oz1 h4 h5 h6 h7 h8 h9 h10=> ?_;clear F;obtain⟨h3,h3'⟩:=oz1
 have hY:∀y ∈ [x,T],hs.get? y=none:=λy m=>by
  rcases dj.mp m with rfl|m
  ·exact h1
  ·cases ff.mp m;exact h6
 refine⟨T,⟨λy m=>fresh0 y (hY y m),λy m o e=> ?_⟩,hY⟩;rcases dj.mp m with rfl|m
 ·rw[h2]at e;replace e:=si e;subst e;exact⟨_,h4⟩
 ·cases ff.mp m;rw[h8]at e;replace e:=si e;subst e;exact⟨_,h9⟩
theorem BO{hs:Heap}{x:Addr}{fl:Value}{Q:Unit->Shared->Prop}{M:Model}
  (hb:G.h₀.StaysIn hs)(hk:∀b,s.heap.get? b=none->hs.get? b=none)(fly:yK G hs s.heap x fl)
  (hQ:∀h' Y,vF G s.heap Y->(∀y ∈ Y,hs.get? y=none)->oP Y F s.heap h'->(∀b,h'.get? b=none->hs.get? b=none)->yK G hs h' x .none->Q () { s with heap:=h' }):
  wpAny M A (setFlight (.ref x) none) Q E s:=by
 refine eN (E1 hb fly) λT RY hY=> ?_;refine ls fly λh1 a0 oe vs T' oT ts h2 h3 h4 h5 h6 h7 h8 h9 h10=> ?_;clear fly;unfold setFlight;refine cQ (wpAny_field h2 h4 h5 ?_);rw[cH (show(Value.ref T' != Value.none)=true from by simp)];have hsz:3<ts.size:=(Array.getElem?_eq_some_iff.mp h10).1;refine wpAny_setField h8 h9 hsz ?_;have other:∀b,b≠T'->(s.heap.update T' (Obj.mapFields (·.setIfInBounds 3 ((none:Option Addr).elim Value.none λf=>rawInt f)))).get? b=s.heap.get? b:=λb hb=>qG _ _ (Ne.symm hb)
 have RT:vF G s.heap [T']:=by
  refine⟨λy m=> ?_,λy m o e=> ?_⟩
  ·cases ff.mp m;cases q:G.h₀.get? T' with
   |none=>rfl
   |some o=>rw[hb T' o q]at h6;exact yt h6
  ·cases ff.mp m;rw[h8]at e;replace e:=si e;subst e;exact⟨_,h9⟩
 have hself:=Heap.get?_update_self (Obj.mapFields (·.setIfInBounds 3 ((none:Option Addr).elim Value.none λf=>rawInt f))) h8 (Obj.isFreed_of_fields (Obj.data_mapFields h9 _))
 refine hQ _ [T'] RT (λy m=>by cases ff.mp m;exact h6) ⟨λb o e h1 _=>(other b (λz=>h1 (z▸.head _))).trans e,λb o e _ h2=>⟨o.slots,(other b (λz=>h2 (z▸.head _))).trans e⟩⟩ (λb e=> ?_) ?_
 ·by_cases z:b=T'
  ·rw[z];exact h6
  ·exact hk b ((other b z).symm.trans e)
 ·exact⟨h1,a0,oe,vs,T',_,_,(other x (Ne.symm h7)).trans h2,h3,h4,h5,h6,h7,hself,Obj.data_mapFields h9 _,by simp[hsz]⟩
theorem BP{envs:List Env}{hs:Heap}{x:Addr}{fl a0:Value}{Y:List Addr}(S:St G F ad σ h)(hk:∀b,h.get? b=none->hs.get? b=none)(RY:vF G h Y)(hY:∀y ∈ Y,hs.get? y=none)(hx:x ∈ Y)
  (k:Heap.NotedW (hideAll h (Y++F)) envs x (.ref G.fC) a0 fl h h'):oP Y F h h'/\(∀b,h'.get? b=none->hs.get? b=none)/\yK G hs h' x fl:=by
 refine S5 k λk1 k2 k3 k4=> ?_;clear k
 have P:oP Y F h h':=⟨λb o e h1 h2=>k1 b o (hideAll_get _ e λm=>(eF.mp m).elim h1 h2),λb o e h1 h2=>by refine o8 (S.frs b h1) λ_ o' e' es n hd=> ?_;rw[e]at e';replace e':=si e';subst e';exact k4 b o e λvs z=>by rw[hd]at z;cases z⟩
 refine sS k3 λoe' vs' T' oT' ts' c1 oz1 c3 c4 c5 c6 c7 c8 c9=> ?_;clear k3;obtain⟨c2,c2'⟩:=oz1
 have ex:∀b,h'.get? b=none->hs.get? b=none:=λb e=>by
  by_cases m:b ∈ Y
  ·exact hY b m
  ·exact hk b (P.fresh e m)
 refine⟨P,ex,hY x hx,a0,oe',vs',T',oT',ts',c1,⟨c2,c2'⟩,c3,c4,?_,c6,c7,c8,c9⟩;cases q:hs.get? T' with
 |none=>rfl
 |some o=>
  exfalso
  cases q2:h.get? T' with
  |none=>rw[hk T' q2]at q;exact eC q
  |some o2=>
   have m:T' ∈ Y++F:=sR λm=>by have:=hideAll_get (Y++F) q2 m;rw[c5]at this;exact eC this
   rcases eF.mp m with m|m
   ·rw[hY T' m]at q;exact eC q
   ·refine o8 (S.frs T' m) λ_ o3 e3 es n hd=> ?_;refine oE (P.slots T' o3 e3 m (RY.not_F S · m)) λsl e4=> ?_
    rw[c7]at e4;replace e4:=si e4;subst e4;rw[hd]at c8;cases c8
theorem Ks{env:Env}{hs:Heap}{x:Addr}{Q:Unit->Shared->Prop}{M:Model}
  (hA:A.frames=some (env::ag))(hL:env.frame=some L)(out:ag.map (·.frame)=Ls.map some)(kinds:∀e ∈ env::ag,e.scope.kind≠.module)
  (S:St G (L::Ls) ad σ s.heap)(hb:G.h₀.StaysIn hs)(hk:∀b,s.heap.get? b=none->hs.get? b=none)(fl:Hh G hs s.heap x)
  (hQ:∀h' Y,vF G s.heap Y->(∀y ∈ Y,hs.get? y=none)->oP Y (L::Ls) s.heap h'->(∀b,h'.get? b=none->hs.get? b=none)->yK G hs h' x (rawInt L)->Q () { s with heap:=h' }):
  wpAny M A (noteFrame (.ref x) env) Q E s:=by
 have fresh0:∀b,hs.get? b=none->G.h₀.get? b=none:=λb e=>by
  cases q:G.h₀.get? b with
  |none=>rfl
  |some o=>rw[hb b o q]at e;exact yt e
 have funF:∀Y:List Addr,s.heap.FunFrames (hideAll s.heap (Y++(L::Ls))) (env::ag):=λY=>rG (F:=L::Ls) (by simp[hL,out]) kinds λb m=>⟨hideAll_none _ (eF.mpr (.inr m)),(S.frs b m).2⟩;rcases fl with⟨h1,oe,vs,a0,h2,h3,h4,h5,h6⟩|fly
 ·have RY:vF G s.heap [x]:=by
   refine⟨λy m=> ?_,λy m o e=> ?_⟩
   ·cases ff.mp m;exact fresh0 x h1
   ·cases ff.mp m;rw[h2]at e;replace e:=si e;subst e;exact⟨_,h4⟩
  have hY:∀y ∈ [x],hs.get? y=none:=λy m=>by cases ff.mp m;exact h1
  unfold noteFrame;simp only[hL];refine cQ (wpAny_field h2 h4 h5 ?_);rw[cJ (by decide)];refine wpAny_entryW (base:=hideAll s.heap ([x]++(L::Ls))) hA (funF [x]) hL h2 (λb o q=>of_hideAll _ q) (hideAll_none _ (eF.mpr (.inl (.head _)))) h4 (Array.getElem?_eq_some_iff.mp h5).1 h6 λh' k=> ?_;refine wD (BP S hk RY hY (.head _) (h3▸k)) λP ex F=> ?_;exact hQ h' [x] RY hY P ex F
 ·refine eN (E1 hb fly) λT RY hY=> ?_;refine ls fly λh1 a0 oe vs T' oT ts h2 h3 h4 h5 h6 h7 h8 h9 h10=> ?_;clear fly
  have RY2:vF G s.heap [x,T']:=by
   refine⟨λy m=> ?_,λy m o e=> ?_⟩
   ·rcases dj.mp m with rfl|m
    ·exact fresh0 _ h1
    ·cases ff.mp m;exact fresh0 _ h6
   ·rcases dj.mp m with rfl|m
    ·rw[h2]at e;replace e:=si e;subst e;exact⟨_,h4⟩
    ·cases ff.mp m;rw[h8]at e;replace e:=si e;subst e;exact⟨_,h9⟩
  have hY2:∀y ∈ [x,T'],hs.get? y=none:=λy m=>by
   rcases dj.mp m with rfl|m
   ·exact h1
   ·cases ff.mp m;exact h6
  refine wpAny_noteFrame_onW (base:=hideAll s.heap ([x,T']++(L::Ls))) hA (funF _) hL ⟨oe,vs,T',oT,ts,h2,h3,h4,h5,hideAll_none _ (eF.mpr (.inl (.tail _ (.head _)))),h7,h8,h9,h10⟩ (λb o q=>of_hideAll _ q) (hideAll_none _ (eF.mpr (.inl (.head _)))) λh' k=> ?_;refine wD (BP S hk RY2 hY2 (.head _) k) λP ex F=> ?_;exact hQ h' _ RY2 hY2 P ex F
theorem MN{M:Model}{C x:Addr}{oe:Obj}{Q:Bool->Shared->Prop}(Y:ku M s.heap C)(hx:s.heap.get? x=some oe)(hc:oe.cls= .ref C)(h:Q true s):wpAny M A (excMatches (.ref x) (.ref C)) Q E s:=by
 obtain⟨hp,g,d,t,os⟩:=s;refine Y.on λod cd sl hC e1 e2 e4 made base self exc bexc noAttr noName call typ=> ?_;clear Y;have hC:hp.get? C=_:=hC;have f:=tc_notTuple;obtain⟨oc,od',dt,sl'⟩:=oe;subst hc;have t1:Looks M hp (typeOf (.ref x)) (.ref C):=(Looks.ld hx).andThen .now;have t2:Looks M hp (typeOf (.ref C)) (.type "type"):=(Looks.ld hC).andThen .now;unfold excMatches
 repeat (first|simp only[jf,if_false,Bool.not_true]|lk|wp_step)
 all_goals exact h
noncomputable def CR(mb:M Fl):M Fl:=λσ=>match mb σ with
 |some (.ok fl,σ')=>some (.ok fl,σ')
 |some (.exc,σ')=>some (.ok (.ret (.d .none)),σ')
 |none=>none
theorem iG.recs{Y:List Addr}(p:iG L Ls ad ad' h h₁)(hn:∀y ∈ Y,h.get? y=none)(P:oP Y (L::Ls) h₁ h')(ex:∀b,h'.get? b=none->h.get? b=none):iG L Ls ad ad' h h':=by
 refine⟨p.pre,⟨λb o e h1 h2=> ?_,λb o e h1 h2=> ?_⟩,p.new,ex⟩
 ·refine P.keep b o (p.pres.keep b o e h1 h2) (λz=>by rw[hn b z]at e;exact eC e) (λz=> ?_);rcases dj.mp z with rfl|z
  ·exact h1 (.head _)
  ·exact h2 z
 ·refine oE (p.pres.slots b o e h1 h2) λsl e'=> ?_;refine oE (P.slots b _ e' (.tail _ h1) (λz=>by rw[hn b z]at e;exact eC e)) λsl' e''=> ?_;exact⟨sl',e''⟩
theorem Tz{c:Str}{p rp hp:Pos}{k:Nat}{mb:M Fl}(F:∀M,ku M G.h₀ G.fC)(hx:f.cs.names.lookup c=some .globalImplicit)(hg:G.mg c=some (.ref G.fC))(hd:(c ==("__debug__":Str))=false)(hb:oy G n f aa body mb):
  jB G n f aa (.Try body [.ExceptHandler (some (.Name c np)) none [.Return (some (.Constant .none k p)) rp] hp] [] [] pos) (CR mb):=by
 intro A ag Ls ad σ s Q E r σ' hE C S Lc er P
 have hkinds:∀e ∈ f.env::ag,e.scope.kind≠.module:=λe z=>by
  rcases dj.mp z with rfl|z
  ·show f.cs.kind≠.module;rw[C.hk];decide
  ·exact C.kinds e z
 refine wpAny_Try_except ?_;unfold CR at er
 have main:∀{x:Addr}{h':Heap}{tk:Nat}{ad':List Addr}{σ₁:List MO},St G (f.L::Ls) ad' σ₁ h'->iG f.L Ls ad ad' s.heap h'->Hh G s.heap h' x->
   (∀h'' tk'',St G (f.L::Ls) ad' σ₁ h''->iG f.L Ls ad ad' s.heap h''->Q (.ret .none) { s with heap:=h'',toks:=tk'' })->
   wpAny (model G.prog G.w) A (noteFrame (.ref x) f.env) (λ_ aO=>wpAny (model G.prog G.w) A (setFlight (.ref x) none) (λ_ aT=>wpAny (model G.prog G.w) A (handleBy (.ref x) f.env [.ExceptHandler (some (.Name c np)) none [.Return (some (.Constant .none k p)) rp] hp]) Q E aT) E aO) E { s with heap:=h',toks:=tk }:=by
  intro x h' tk ad' σ₁ S' p' fl kF;refine Ks (s:={ s with heap:=h',toks:=tk }) C.hA rfl C.out hkinds S' S.base p'.ex fl λar ck ca bX aA bG ce=> ?_
  have aq:=(S'.recs ca aA).1;have aB:=p'.recs bX aA bG;refine BO (F:=f.L::Ls) (s:={ s with heap:=ar,toks:=tk }) S.base bG ce λau cj b9 bW aM bF bK=> ?_
  have ay:=(aq.recs b9 aM).1;have aC:=aB.recs bW aM bF;refine wpAny_handleBy_cons (codeAny_handlers_test ?_) (by intro q;cases q);refine Name_function_global C.hk hx (loadGlobal_global (env:=f.env) (s:={ s with heap:=au,toks:=tk }) (G.hg.keeps ay.base) hg ?_) hd
  refine GZ (id bK) λ_ a0 oe vs _ _ _ g2 oz1 _=> ?_;obtain⟨g3,_⟩:=oz1;refine MN (s:={ s with heap:=au,toks:=tk }) ((F _).keeps ay.base) g2 g3 ?_
  refine codeAny_handlers_suite (BO (F:=f.L::Ls) (s:={ s with heap:=au,toks:=tk }) S.base bF bK λaN ch b8 bV a8 b4 cm=> ?_)
  have aX:=(ay.recs b8 a8).1;have aQ:=aC.recs bV a8 b4;exact nV (wpAny_Return_some (dc (kF aN tk aX aQ)))
 have hE':PassesOwn (model G.prog G.w) A f.env (λe aJ=>wpAny (model G.prog G.w) A (noteFrame e f.env) (λ_ aO=>wpAny (model G.prog G.w) A (setFlight e none) (λ_ aT=>wpAny (model G.prog G.w) A (handleBy e f.env [.ExceptHandler (some (.Name c np)) none [.Return (some (.Constant .none k p)) rp] hp]) Q E aT) E aO) E aJ):=PassesOwn.looking
 symm at er
 ·rename_i fl σ₁ q;refine Ph er ?_;clear er;intro ey ez;subst ey;subst ez;refine hb A ag Ls ad σ s _ _ (.ok fl) σ' hE' C S Lc q ?_;cases fl with
  |nxt loc'=>exactλh' tk ad' S' p' L'=>wpAny_execs_nil (P h' tk ad' S' p' L')
  |brk loc'=>exact P
  |ret v=>exact P
 ·rename_i σ₁ q;refine Ph er ?_;clear er;intro ey ez;subst ey;subst ez;exact hb A ag Ls ad σ s _ _ .exc σ' hE' C S Lc q λx h' tk ad' S' p' fl=>main S' p' fl λh'' tk'' S'' p''=>P .none h'' tk'' ad' S'' p'' Rd.none
 ·exact eC er
end
section
variable{f:Fm}{aa:List (Option PV)}
def E2(σ:List MO)(v k u:PV)(c:Unit->M Fl):M Fl:=λ_=>match v,k with
 | .ref j,.d (.str x)=>(match σ[j]? with
  |some (.dict kvs)=>if kvs.length<=1000 then c () (σ.set j (.dict (uS x u kvs)))else none
  |_=>none)
 |_,_=>none
theorem MP{bk:List MO}{v k u:PV}{c:Unit->M Fl}{r:R Fl×List MO}(e:E2 σ v k u c bk=some r):∃j x kvs,v= .ref j/\k= .d (.str x)/\σ[j]? =some (.dict kvs)/\kvs.length<=1000/\c () (σ.set j (.dict (uS x u kvs)))=some r:=by
 cases v with
 |ref j=>
  cases k with
  |d y=>
   cases y with
   |str x=>
    simp only[E2]at e
    symm at e
    ·rename_i kvs q
     symm at e
     ·rename_i hz;exact⟨j,x,kvs,rfl,rfl,q,hz,e⟩
     ·exact eC e
    ·exact eC e
   |_=>exact eC e
  |_=>exact eC e
 |_=>exact eC e
theorem ow.length{h:Heap}{ad:List Addr}:∀{es:List (Str×Value)}{kvs:List (List Nat×PV)},ow G h ad es kvs->es.length=kvs.length
 |[],[],_=>rfl
 |_::_,_::_,⟨_,_,h4⟩=>dN (· +1) (ow.length h4)
 |[],_::_,x=>x.elim
 |_::_,[],x=>x.elim
theorem E3(p:Str×Value)(ps:List (Str×Value))(x:Str)(V:Value)(hn:((p::ps).map (·.1)).Nodup):stored (p::ps) x V=if p.1=x then(p.1,V)::ps else p::stored ps x V:=by
 unfold stored;by_cases q:p.1=x
 ·rw[cH (by simp[q]),cH q];rw[jg,cH q]
  congr 1
  have:∀y ∈ ps,y.1≠x:=λy hy z=>(gE.mp hn).1 (by show p.1 ∈ _;rw[q,<-z];exact List.mem_map_of_mem hy)
  conv=>rhs;rw[<-List.map_id ps]
  exact List.map_congr_left λy hy=>by rw[cJ (this y hy)];rfl
 ·rw[cJ q];by_cases r:(ps.any λkv=>decide (kv.1=x))=true
  ·rw[cH (by simp[r]),cH r,jg,cJ q]
  ·rw[cJ (by simp[q];simpa using r),cJ r];rfl
theorem ow.put{v:PV}{V:Value}(rv:eW G h ad v V):∀{es:List (Str×Value)}{kvs:List (List Nat×PV)},(es.map (·.1)).Nodup->ow G h ad es kvs->
  ow G h ad (stored es ⟨x.toArray⟩ V) (uS x v kvs):=by
 intro l1
 induction l1 with
 |nil=>intro l2;cases l2 with
  |nil=>exactλ_ _=>⟨rfl,rv,trivial⟩
  |cons _ _=>exactλ_ hx=>hx.elim
 |cons e es ih=>intro l2;cases l2 with
  |nil=>exactλ_ hx=>hx.elim
  |cons kv kvs=>
    intro hn hx;obtain⟨h1,h3,h4⟩:=hx;rw[E3 _ _ _ _ hn];unfold uS;by_cases q:kv.1=x
    ·rw[cH q,cH (by rw[h1,q])];exact⟨h1,rv,h4⟩
    ·rw[cJ q,cJ (by rw[h1];exactλz=>q (by injection z with z;simpa using dN Array.toList z))]
     exact⟨h1,h3,ih (gE.mp hn).2 h4⟩
theorem Kt{x:Str}{xp tp:Pos}{i:cP}{mo mi:M PV}(hs:swapsWith e (some (.Subscript (.Name x xp) i tp)) pos.line f.env=pure false)(ho:dR G n f aa (.Name x xp) mo)(hi:dR G n f aa i mi)(he:dR G n f aa e m):
  jB G n f aa (.Assign [.Subscript (.Name x xp) i tp] e pos) (bnd m λu=>bnd mo λv=>bnd mi λk=>λσ=>E2 σ v k u (λ_=>ret (.nxt aa)) σ):=by
 intro A ag Ls ad σ s Q E r σ' hE C S Lc er P;refine wpAny_Assign_Subscript (he.thnS C S Lc er P λu U h₁ tk₁ ak σ₁ ai ax ru am aj al=>ho.thnS C ai am aj al λv V ar aE aD aG aq aB rv aK ao aA=>hi.thnS C aq aK ao aA λk K au aH aI bs ay aC rk bj az aM=> ?_) hs;have ru:=(ru.stepE ai aB).stepE aq aC;have rv:=rv.stepE aq aC;obtain⟨j,x',kvs,rfl,rfl,q,hz,az⟩:=MP az;have aM:=aM.of_ret az;obtain⟨a,ha,rfl⟩:=rv;refine Rd.str_on rk λt=> ?_;obtain⟨ps,hd,hp⟩:=ay.ads j a _ ha q;refine wpAny_setItem_pairs (s:={ s with heap:=au,toks:=aH }) (knd:=PySem.strKind G.prog G.w) (strKind_is _ _ _ _) hd (λh' hd' hsb=> ?_) ?_
 ·have kk:∀b o,b≠a->au.get? b=some o->h'.get? b=some o:=λb o hb e=>(hsb.2 b hb).trans e;obtain⟨o,_,_,hg',_⟩:=id hd';obtain⟨_,_,_,_,_,_,_,_,hnd⟩:=id hd;have p':dE (f.L::Ls) aI aI au h':=dE.upd (gu ha) kk ⟨_,hg'⟩;obtain⟨S',p''⟩:=ay.upd (mo:= .dict (uS x' u kvs)) ha kk ⟨_,hd',ow.mono (λv V r=>r.stepE ay p') (ow.put ru hnd hp)⟩;exact aM h' _ aI S' (p''.toS (gE.mp S.fnd).1) (bj.step ay p'')
 ·rw[hp.length];have h4:sizeLine >= 1001:=by decide
  exact(ie (.l A0 A1) [.l A0 (.k 1000),.l (.k 1001) A1]) hz h4
structure Z3(G:Gl)(Y F ad ad':List Addr)(h h':Heap):Prop where
 step:kK (Y++ad) F ad ad' h h'
 vk:∀v V,eW G h ad v V->eW G h' ad' v V
end
section
variable{f:Fm}{aa:List (Option PV)}
theorem E4{k:Nat}{ys:List D}{x:D}{V:Value}(S:St G F ad σ s.heap)(ha:ad[k]? =some a)(hk:σ[k]? =some (.list ys))(rx:Rd s.heap V x)(hz:ys.length<eZ)
  (h:∀h',St G F ad (σ.set k (.list (ys++[x]))) h'->dE F ad ad s.heap h'->Q .none { s with heap:=h' }):wpAny (model G.prog G.w) A (call (.builtin "list.append") [.ref a,V]) Q E s:=by
 refine mZ (S.ads k a _ ha hk) λitems m hg rr=> ?_;have hlen:=rr.length;rw[kG]at hlen;refine append_at hg (λh' hs he=> ?_) (by have:=jh;exact Z0 hz hlen this);have kk:∀b o,b≠a->s.heap.get? b=some o->h'.get? b=some o:=λb o hb e=>(hs.2 b hb).trans e;have im:lV s.heap h':=S.tupKeep (λ_ m=> .inl m) (dE.upd (F:=F) (gu ha) kk ⟨_,he⟩)
 refine oA (S.upd (h':=h') (mo:= .list (ys++[x])) ha kk ⟨items.push V,m+1,he,by rw[Array.toList_push];exact dD.snoc (Rd.keep im rx) (dD.keep im rr)⟩) λay aC=> ?_
 exact h h' ay aC
section
variable(elt:cP)(one part tp lv:Str)(po pp pl tpp po2 pp2 cp:Pos)(scope:Scope)(cpos:Pos)
noncomputable def m8:cP:= .ListComp (.Name part pp) [⟨.Name one po,.Name lv pl,[],0⟩,⟨.Name part pp2,.Call (.Name tp tpp) [.Name one po2] [] cp,[],0⟩] scope cpos
end
noncomputable def uV(acc:Nat)(w:PV):Nat->Nat->List MO->Option (List MO)
 | 0,_,_=>none
 |k+1,j,σ=>match uR w j σ with
  |none=>none
  |some none=>some σ
  |some (some v)=>(match v with
   | .d x=>(match σ[acc]? with
    |some (.list ys)=>if ys.length<eZ then uV acc w k (j+1) (σ.set acc (.list (ys++[x])))else none
    |_=>none)
   |_=>none)
noncomputable def s8(acc:Nat)(v:PV)(sem:List PV->M PV)(kk:Nat):Nat->Nat->List MO->Option (List MO)
 | 0,_,_=>none
 |k+1,i,σ=>match uR v i σ with
  |none=>none
  |some none=>some σ
  |some (some x)=>(match sem [x] σ with
   |some (.ok w,σ')=>(match dW σ' w with
    |some _=>(uV acc w kk 0 σ').bind λσ''=>s8 acc v sem kk k (i+1) σ''
    |none=>none)
   |_=>none)
section
variable{one part tp lv:Str}{po pp pl tpp po2 pp2 cp:Pos}{scope:Scope}{cpos:Pos}{env:Env}
theorem MQ(it acc:Value)(cenv:Env):compTurn (m8 one part tp lv po pp pl tpp po2 pp2 cp scope cpos) 1 it acc cenv=(standAt cp >>= λ_=>pyNext it >>= λr=>match r with
   |none=>pure (.done .next)
   |some v=>letOwnedTupleGo (.Name part pp2) it v >>= λ_=>assign (.Name part pp2) cenv v >>= λ_=>
    (eval (.Name part pp) cenv >>= λx=>call (.builtin "list.append") [acc,x] >>= λ_=>pure ()) >>= λ_=>
     again (.compLoop (m8 one part tp lv po pp pl tpp po2 pp2 cp scope cpos) 1 it acc cenv)):=by rfl
theorem MR(it acc:Value)(cenv:Env):compTurn (m8 one part tp lv po pp pl tpp po2 pp2 cp scope cpos) 0 it acc cenv=(standAt pl >>= λ_=>pyNext it >>= λr=>match r with
   |none=>pure (.done .next)
   |some v=>letOwnedTupleGo (.Name one po) it v >>= λ_=>assign (.Name one po) cenv v >>= λ_=>
    eval (.Call (.Name tp tpp) [.Name one po2] [] cp) cenv >>= λx=>standAt cp >>= λ_=>foldedSetIterable (.Call (.Name tp tpp) [.Name one po2] [] cp) cenv x >>= λx=>
     holding [x] (pyIter x) >>= λit2=>runOwn (.compStart (m8 one part tp lv po pp pl tpp po2 pp2 cp scope cpos) 1 it2 acc cenv) cenv >>= λ_=>
     again (.compLoop (m8 one part tp lv po pp pl tpp po2 pp2 cp scope cpos) 0 it acc cenv)):=by rfl
theorem yX{d:Nat}{it acc:Value}{cenv:Env}{R:Result->Shared->Prop}(hd:d=0\/d=1)
  (h0:codeAny (model G.prog G.w) A (.compLoop (m8 one part tp lv po pp pl tpp po2 pp2 cp scope cpos) d it acc cenv) R s)
  (h:wpAny (model G.prog G.w) A (pyIter it) (λit' s'=>codeAny (model G.prog G.w) A (.compLoop (m8 one part tp lv po pp pl tpp po2 pp2 cp scope cpos) d it' acc cenv) R s')
   (notedBy (model G.prog G.w) A cenv λx s'=>R (.error x) s') s):
  codeAny (model G.prog G.w) A (.compStart (m8 one part tp lv po pp pl tpp po2 pp2 cp scope cpos) d it acc cenv) R s:=by
 refine codeAny_of_tree ?_;show wpAny _ _ ((compStart (m8 one part tp lv po pp pl tpp po2 pp2 cp scope cpos) d it acc cenv).onRaise (λx=>do noteFrame x cenv;standAt theWindowsPlace)) _ _ s;refine wpAny_notedAt ?_;unfold compStart;rcases hd with rfl|rfl
 all_goals
  show wpAny _ _ (ask >>= _) _ _ s;refine cQ (wpAny_askSetting (wpAny_ite ?_));split
  ·first
    |exact cQ (dc (dc (And.intro rfl h0)))
    |exact dc (And.intro rfl h0)
  ·first
    |exact cQ (wpAny_rule (cQ (iN (cQ (wpAny_mono h (λit' s' h'=>dc (And.intro rfl h')) λ_ _ x=>x)))))
    |(refine cQ (wpAny_rule ?_);show wpAny _ _ (standAt _ >>= _) _ _ s;exact cQ (iN (cQ (wpAny_mono h (λit' s' h'=>dc (And.intro rfl h')) λ_ _ x=>x))))
end
end
section
variable{f:Fm}{aa:List (Option PV)}
theorem me.stayE{it:Addr}(pr:me G F ad h it)(p:dE F ad ad' h h'):∀o,h.get? it=some o->h'.get? it=some o:=λo e=>p.pres.keep it o e pr.ad pr.F
theorem me.stepE{it:Addr}(pr:me G F ad h it)(ex:∃o,h.get? it=some o)(p:dE F ad ad' h h'):me G F ad' h' it:=by
 refine oE ex λo e=> ?_;clear ex;refine⟨λm=> ?_,pr.F,pr.le,λo' e'=> ?_⟩
 ·rcases p.new it m with m|m
  ·exact pr.ad m
  ·rw[e]at m;exact yt m
 ·rw[pr.stayE p o e]at e';replace e':=si e';subst e';exact pr.cls o e
theorem Ns.there{C:Addr}{m:Str->Option Value}(x:h.Ns C m):∃o,h.get? C=some o:=by refine o9 x λo _ _ e _=> ?_;clear x;exact⟨o,e⟩
theorem yY{C:Addr}{m:Str->Option Value}(x:h.Ns C m)(k:∀o,h.get? C=some o->h'.get? C=some o):h'.Ns C m:=by refine o9 x λo es ep e r=> ?_;clear x;exact⟨o,es,ep,k o e,r⟩
theorem me.ofNs{C:Addr}{m:Str->Option Value}(pr:me G F ad h C)(x:h'.Ns C m):me G F ad h' C:=by refine iO x λo es ep e d _=> ?_;clear x;exact⟨pr.ad,pr.F,pr.le,λo' e'=>by rw[e]at e';replace e':=si e';subst e';exact EQ d⟩
structure CI(G:Gl)(f:Fm)(aa:Lo)(Ls aL:List Addr)(hs:Heap)(C it1 l:Addr)(v:PV)(i:Nat)(h:Heap)(ad:List Addr)(σ:List MO):Prop where
 S:St G (f.L::Ls) ad σ h
 p:dE (f.L::Ls) aL ad hs h
 prC:me G (f.L::Ls) ad h C
 pr1:me G (f.L::Ls) ad h it1
 ne:C≠it1
 I:h.IsListIter it1 l i/\eW G h ad v (.ref l)
 lc:uq G h ad f aa
section
variable{aL:List Addr}{hs:Heap}{C it1 l:Addr}{v:PV}{m:Str->Option Value}
theorem CI.byE(c:CI G f aa Ls aL hs C it1 l v i h ad σ)(hn:h.Ns C m)(S':St G (f.L::Ls) ad' σ' h')(p':dE (f.L::Ls) ad ad' h h'):CI G f aa Ls aL hs C it1 l v i h' ad' σ'/\h'.Ns C m:=by refine ou c.I.1 λo1 e1 e2 e3=> ?_;refine⟨⟨S',c.p.trans p',c.prC.stepE (Ns.there hn) p',c.pr1.stepE ⟨o1,e1⟩ p',c.ne,⟨⟨o1,c.pr1.stayE p' o1 e1,e2,e3⟩,c.I.2.stepE c.S p'⟩,c.lc.step c.S p'⟩,yY hn (c.prC.stayE p')⟩
theorem uq.priv(lc:uq G h ad f aa)(pr:me G F ad h a)(hL:f.L≠a)(kk:∀b o,b≠a->h.get? b=some o->h'.get? b=some o):uq G h' ad f aa:=by
 refine eN lc λm hn hv=> ?_;clear lc
 exact⟨m,yY hn λo e=>kk _ o hL e,λi x v h1 h2=>by refine eN (hv i x v h1 h2) λV e3 e4=> ?_;exact⟨V,e3,e4.im (pr.im kk) (hO _)⟩⟩
theorem CI.byC(c:CI G f aa Ls aL hs C it1 l v i h ad σ){m':Str->Option Value}(pa:me G (f.L::Ls) ad h a)(ha:hs.get? a=none)(ha1:a≠it1)(kk:∀b o,b≠a->h.get? b=some o->h'.get? b=some o)(hn':h'.Ns C m'):CI G f aa Ls aL hs C it1 l v i h' ad σ:=by refine ou c.I.1 λo1 e1 e2 e3=> ?_;have k1:=kk it1 o1 (Ne.symm ha1) e1;have im:=pa.im kk;refine⟨c.S.priv pa kk,kK.priv c.p ha kk,c.prC.ofNs hn',⟨c.pr1.ad,c.pr1.F,c.pr1.le,λo' e'=> ?_⟩,c.ne,⟨⟨o1,k1,e2,e3⟩,c.I.2.im im (hO _)⟩,c.lc.priv pa (λz=>pa.F (z▸.head _)) kk⟩;rw[k1]at e';replace e':=si e';subst e';exact c.pr1.cls o1 e1
end
section
variable{one part tp lv:Str}{po pp pl tpp po2 pp2 cp:Pos}{scope:Scope}{cpos:Pos}
variable{aL:List Addr}{hs:Heap}{C it1 l accA:Addr}{v:PV}{acc:Nat}{R:Result->Shared->Prop}
theorem MS(Cx:wK G A n f ag Ls)(hkd:scope.kind= .function)(hpart:scope.names.lookup part=some .local)(hdb:(part ==("__debug__":Str))=false)(hC0:hs.get? C=none){w:PV}{lw it2:Addr}(h20:hs.get? it2=none)(h2C:it2≠C)(h21:it2≠it1)(ha:ad[acc]? =some accA):
  ∀(k j:Nat)(σ σ':List MO)(s:Shared)(m:Str->Option Value),CI G f aa Ls aL hs C it1 l v i s.heap ad σ->s.heap.Ns C m->me G (f.L::Ls) ad s.heap it2->(s.heap.IsListIter it2 lw j/\eW G s.heap ad w (.ref lw))->uV acc w k j σ=some σ'->
  (∀h' tk m',CI G f aa Ls aL hs C it1 l v i h' ad σ'->h'.Ns C m'->R (.ok .next) { s with heap:=h',toks:=tk })->
  codeAny (model G.prog G.w) A (.compLoop (m8 one part tp lv po pp pl tpp po2 pp2 cp scope cpos) 1 (.ref it2) (.ref accA) (compEnv scope C f.env)) R s:=by
 intro k
 induction k with
 |zero=>exactλ_ _ _ _ _ _ _ _ _ e _=>eC e
 |succ k ih=>
  intro j σ σ' s m c hn pr2 hI e kF;refine codeAny_of_tree ?_;show wpAny _ A ((compTurn (m8 one part tp lv po pp pl tpp po2 pp2 cp scope cpos) 1 (.ref it2) (.ref accA) (compEnv scope C f.env)).onRaise (λx=>do noteFrame x (compEnv scope C f.env);theTreesLotGoes x)) _ _ s;refine wpAny_noted ?_;rw[MQ];refine cQ (iN (cQ ?_));unfold uV at e
  symm at e
  ·exact eC e
  ·rename_i q;replace e:=si e;subst e;refine(yT (n:=n) (f:=f) (it:=it2) (l:=lw) (v:=w)).next A ag Ls ad _ s _ _ j none Cx c.S pr2 hI q λh' kk=> ?_;have hn':=yY hn λo e=>kk _ o (Ne.symm h2C) e;exact dc (kF h' s.toks m (c.byC pr2 h20 h21 kk hn') hn')
  ·rename_i x q
   symm at e
   ·rename_i dx
    symm at e
    ·rename_i ys qa
     symm at e
     ·rename_i hz;refine(yT (n:=n) (f:=f) (it:=it2) (l:=lw) (v:=w)).next A ag Ls ad σ s _ _ j (some (.d dx)) Cx c.S pr2 hI q λV h₁ tk₁ kk bg rV=> ?_;have bc:=yY hn λo e=>kk _ o (Ne.symm h2C) e;have aS:=c.byC pr2 h20 h21 kk bc;refine cQ (wpAny_of_eq (by rfl) (cQ ?_));refine PySem.wpAny_assign_Name (wpAny_storeName_local (env:=compEnv scope C f.env) (s:={ s with heap:=h₁,toks:=tk₁ }) hpart bc (λar aW hsb=> ?_) (by show(scope.kind == .class ||(scope.kind == .module && _))=false;rw[hkd];rfl))
      have kC:∀b o,b≠C->h₁.get? b=some o->ar.get? b=some o:=λb o hb e=>(hsb.2 b hb).trans e;have aR:=aS.byC aS.prC hC0 c.ne kC aW;have bu:eW G ar ad (.d dx) V:=rV.im (aS.prC.im kC) (hO _);refine oA bg λoz1 bN=> ?_;clear bg;obtain⟨o2,g1,g2,g3⟩:=oz1;have g1':=kC it2 o2 h2C g1
      have pr2':me G (f.L::Ls) ad ar it2:=⟨pr2.ad,pr2.F,pr2.le,λo' e'=>by rw[g1']at e';replace e':=si e';subst e';exact rE ⟨by rw[g2];decide,λ_ z=>by rw[g2]at z;cases z⟩⟩
      refine cQ (cQ (wpAny_Name (wpAny_loadName_local (env:=compEnv scope C f.env) (s:={ s with heap:=ar,toks:=tk₁+1 }) hkd hpart aW (by simp;rfl) (cQ ?_)) hdb))
      refine E4 (s:={ s with heap:=ar,toks:=tk₁+1 }) aR.S ha qa bu hz λau ay aC=> ?_
      refine oA (aR.byE aW ay aC) λbh bq=> ?_;have bM:eW G ar ad w (.ref lw):=bN.im (aS.prC.im kC) (hO _);refine dc (dc ⟨rfl,?_⟩);exact ih (j+1) _ σ' { s with heap:=au,toks:=tk₁+1 } _ bh bq (pr2'.stepE ⟨o2,g1'⟩ aC) ⟨⟨o2,pr2'.stayE aC o2 g1',g2,g3⟩,bM.stepE aR.S aC⟩ e λh' tk m' c' hn'=>kF h' tk m' c' hn'
     ·exact eC e
    ·exact eC e
   ·exact eC e
theorem MT{ta:Addr}(Cx:wK G A n f ag Ls)(hkd:scope.kind= .function)(hone:scope.names.lookup one=some .local)(hdo:(one ==("__debug__":Str))=false)(hpart:scope.names.lookup part=some .local)(hdb:(part ==("__debug__":Str))=false)
  (htp:scope.names.lookup tp=some .globalImplicit)(hdt:(tp ==("__debug__":Str))=false)(hg:G.mg tp=some (.ref ta))(hkp:keepIn G.K (.ref ta)=true)(hc:fK G n ta sem)(hC0:hs.get? C=none)(h10:hs.get? it1=none)(kk:Nat):
  ∀(k i:Nat)(σ σ':List MO)(s:Shared)(ad:List Addr)(m:Str->Option Value),CI G f aa Ls aL hs C it1 l v i s.heap ad σ->s.heap.Ns C m->ad[acc]? =some accA->s8 acc v sem kk k i σ=some σ'->
  (∀h' tk ad' m',St G (f.L::Ls) ad' σ' h'->dE (f.L::Ls) aL ad' hs h'->me G (f.L::Ls) ad' h' C->h'.Ns C m'->uq G h' ad' f aa->ad'[acc]? =some accA->R (.ok .next) { s with heap:=h',toks:=tk })->
  codeAny (model G.prog G.w) A (.compLoop (m8 one part tp lv po pp pl tpp po2 pp2 cp scope cpos) 0 (.ref it1) (.ref accA) (compEnv scope C f.env)) R s:=by
 intro k
 induction k with
 |zero=>exactλ_ _ _ _ _ _ _ _ _ e _=>eC e
 |succ k ih=>
  intro i σ σ' s ad m c hn ha e kF;refine codeAny_of_tree ?_;show wpAny _ A ((compTurn (m8 one part tp lv po pp pl tpp po2 pp2 cp scope cpos) 0 (.ref it1) (.ref accA) (compEnv scope C f.env)).onRaise (λx=>do noteFrame x (compEnv scope C f.env);theTreesLotGoes x)) _ _ s;refine wpAny_noted ?_;rw[MR];refine cQ (iN (cQ ?_));unfold s8 at e
  symm at e
  ·exact eC e
  ·rename_i q;replace e:=si e;subst e;refine(yT (n:=n) (f:=f) (it:=it1) (l:=l) (v:=v)).next A ag Ls ad _ s _ _ i none Cx c.S c.pr1 c.I q λh' k1=> ?_;have hn':=yY hn λo e=>k1 _ o c.ne e;exact dc (kF h' s.toks ad m (c.S.priv c.pr1 k1) (kK.priv c.p h10 k1) (c.prC.ofNs hn') hn' (c.lc.priv c.pr1 (λz=>c.pr1.F (z▸.head _)) k1) ha)
  ·rename_i x q
   symm at e
   ·rename_i w σ₁ qs
    symm at e
    ·rename_i xs hgw;refine eN (dL.mp e) λaG e1 e2=> ?_;refine(yT (n:=n) (f:=f) (it:=it1) (l:=l) (v:=v)).next A ag Ls ad σ s _ _ i (some x) Cx c.S c.pr1 c.I q λV h₁ tk₁ k1 bg rV=> ?_;have bc:=yY hn λo e=>k1 _ o c.ne e
     have aS:CI G f aa Ls aL hs C it1 l v (i+1) h₁ ad σ:=by
      refine ou bg.1 λo1 g1 g2 g3=> ?_
      exact⟨c.S.priv c.pr1 k1,kK.priv c.p h10 k1,c.prC.ofNs bc,⟨c.pr1.ad,c.pr1.F,c.pr1.le,λo' e'=>by rw[g1]at e';replace e':=si e';subst e';exact rE ⟨by rw[g2];decide,λ_ z=>by rw[g2]at z;cases z⟩⟩,c.ne,bg,c.lc.priv c.pr1 (λz=>c.pr1.F (z▸.head _)) k1⟩
     refine cQ (wpAny_of_eq (by rfl) (cQ ?_));refine PySem.wpAny_assign_Name (wpAny_storeName_local (env:=compEnv scope C f.env) (s:={ s with heap:=h₁,toks:=tk₁ }) hone bc (λar aW hsb=> ?_) (by show(scope.kind == .class ||(scope.kind == .module && _))=false;rw[hkd];rfl))
     have kC:∀b o,b≠C->h₁.get? b=some o->ar.get? b=some o:=λb o hb e=>(hsb.2 b hb).trans e;have aR:=aS.byC aS.prC hC0 aS.ne kC aW;have bu:eW G ar ad x V:=rV.im (aS.prC.im kC) (hO _);refine cQ (nU (Name_function_global (env:=compEnv scope C f.env) hkd htp (loadGlobal_global (env:=compEnv scope C f.env) (s:={ s with heap:=ar,toks:=tk₁+1 }) (G.hg.keeps aR.S.base) hg ?_) hdt))
     refine callWith_K (G.KX.keeps aR.S.base) hkp (spliced_cons (wpAny_Name (wpAny_loadName_local (env:=compEnv scope C f.env) (s:={ s with heap:=ar,toks:=tk₁+1 }) hkd hone aW (by simp;rfl) (spliced_nil ⟨G.KX.keeps aR.S.base,?_⟩)) hdo)) rfl rfl
     refine hc.prim (f:=f) A ag Ls ad σ { s with heap:=ar,toks:=tk₁+1 } _ _ [x] [V] (.ok w) σ₁ Cx aR.S ⟨bu,trivial⟩ qs λW au aH aI ay aC rW=> ?_
     refine oA (aR.byE aW ay aC) λbh bq=> ?_;have bD:=pd aC.pre ha;refine cQ (iN (cQ (wpAny_of_eq (by rfl) (cQ (kb ?_)))));refine iJ (ay.isL rW hgw) λlw items ez1 hil _=> ?_;subst ez1;refine wpAny_pyIter_list (s:={ s with heap:=au,toks:=aH }) hil ?_
     have kp:∀b o,au.get? b=some o->(au.push { cls:= .type "list_iterator",data:= .fields #[.ref lw,.int 0 0] }).get? b=some o:=λb o e=>fc _ e;have aQ:dE (f.L::Ls) aI aI au _:=dE.of_keep kp;refine oA (bh.byE bq (ay.of_keep kp) aQ) λb6 bU=> ?_;have hfr:=fN au;have hg2:(au.push { cls:= .type "list_iterator",data:= .fields #[.ref lw,.int 0 0] }).get? au.objs.size=some { cls:= .type "list_iterator",data:= .fields #[.ref lw,.int 0 0] }:=gP _ rfl
     have pr2:me G (f.L::Ls) aI (au.push { cls:= .type "list_iterator",data:= .fields #[.ref lw,.int 0 0] }) au.objs.size:=by
      refine⟨λm=> ?_,λm=> ?_,ay.size,λo' e'=> ?_⟩
      ·refine eN (ay.adObj m) λx h1 _=> ?_;rw[hfr]at h1;exact eC h1
      ·refine vw (ay.frs _ m) λ_ x h1 _=> ?_;rw[hfr]at h1;exact eC h1
      ·rw[hg2]at e';replace e':=si e';subst e';exact rE ⟨(by show Value.type "list_iterator"≠Value.type "tuple";decide),λ_ z=>by cases z⟩
     have h20:hs.get? au.objs.size=none:=bh.p.ex _ hfr
     have h2C:au.objs.size≠C:=λz=>by refine oE (Ns.there bq) λo e=> ?_;rw[<-z,hfr]at e;exact eC e
     have h21:au.objs.size≠it1:=λz=>by refine eN bh.I.1 λo e _=> ?_;rw[<-z,hfr]at e;exact eC e
     refine cQ (wpAny_runOwn (A:=A) (h:=none) ?_ (by intro x;exact eC x))
     have main:codeAny (model G.prog G.w) A (.compLoop (m8 one part tp lv po pp pl tpp po2 pp2 cp scope cpos) 1 (.ref au.objs.size) (.ref accA) (compEnv scope C f.env)) (λr s'=>match r with
       | .ok _=>wpAny (model G.prog G.w) A (again (.compLoop (m8 one part tp lv po pp pl tpp po2 pp2 cp scope cpos) 0 (.ref it1) (.ref accA) (compEnv scope C f.env))) (λkF s'=>match kF with| .done f=>R (.ok f) s'| .again c'=>c'.quiet=true/\codeAny (model G.prog G.w) A c' R s') (notedBy (model G.prog G.w) A (compEnv scope C f.env) λe s'=>R (.error e) s') s'
       | .error e=>cameBackBy (model G.prog G.w) A (compEnv scope C f.env) (notedBy (model G.prog G.w) A (compEnv scope C f.env) λe s'=>R (.error e) s') e s') { s with heap:=au.push { cls:= .type "list_iterator",data:= .fields #[.ref lw,.int 0 0] },toks:=aH }:=by
      refine MS Cx hkd hpart hdb hC0 h20 h2C h21 bD kk 0 σ₁ aG _ _ b6 bU pr2 ⟨⟨_,hg2,rfl,rfl⟩,rW.stepE ay aQ⟩ e1 λbn bL bQ b5 bS=> ?_;exact dc ⟨rfl,ih (i+1) aG σ' { s with heap:=bn,toks:=bL } aI bQ b5 bS bD e2 λh' tk ad' m' a1 a2 a3 a4 a5 a6=>kF h' tk ad' m' a1 a2 a3 a4 a5 a6⟩
     have hmark:A.mark none=A:=rfl;rw[hmark];exact yX (.inr rfl) (codeAny_mono main λr s' hr=>by cases r<;>exact hr) (wpAny_pyIter_listiter (s:={ s with heap:=au.push { cls:= .type "list_iterator",data:= .fields #[.ref lw,.int 0 0] },toks:=aH }) ⟨_,hg2,rfl,rfl⟩ (codeAny_mono main λr s' hr=>by cases r<;>exact hr))
    ·exact eC e
   ·exact eC e
def xr(iy:Nat)(aa:Lo)(v:PV)(sem:List PV->M PV)(k kk:Nat):M Fl:=λσ=>match dW σ v with
 |some _=>(s8 σ.length v sem kk k 0 (σ++[.list []])).map λσ'=>(.ok (.nxt (rH aa iy (.ref σ.length))),σ')
 |none=>none
set_option tactic.hygienic true in
theorem PK{y:Str}{py spos:Pos}{iy:Nat}{ta:Addr}{mv:M PV}(k kk:Nat)(hy:f.names[iy]? =some y)(hlv:dR G n f aa (.Name lv pl) mv)
  (hsw:swapsWith (m8 one part tp lv po pp pl tpp po2 pp2 cp scope cpos) (some (.Name y py)) spos.line f.env=pure true)
  (hkd:scope.kind= .function)(hone:scope.names.lookup one=some .local)(hdo:(one ==("__debug__":Str))=false)(hpart:scope.names.lookup part=some .local)(hdb:(part ==("__debug__":Str))=false)
  (hfree:∀z ∈ scope.names,z.2≠.free)(hcell:∀z ∈ scope.names,z.2≠.cell)(hnames:∀z ∈ scope.names,z.2= .local->scope.names.lookup z.1=some .local)
  (htp:scope.names.lookup tp=some .globalImplicit)(hdt:(tp ==("__debug__":Str))=false)(hg:G.mg tp=some (.ref ta))(hkp:keepIn G.K (.ref ta)=true)(hc:fK G n ta sem):
  jB G n f aa (.Assign [.Name y py] (m8 one part tp lv po pp pl tpp po2 pp2 cp scope cpos) spos) (bnd mv λv=>xr iy aa v sem k kk):=by
 intro A ag Ls ad σ s Q E r σ' hE Cx S Lc er P;rw[exec_Assign_Name_used _ _ _ _ hsw];refine cQ (iN (cQ ?_));show wpAny _ A (do let _ <-comprehension (m8 one part tp lv po pp pl tpp po2 pp2 cp scope cpos) scope f.env _ (newList []) false (eval (.Name lv pl) f.env) (some (assign (.Name y py) f.env))) _ _ s;refine cQ (wpAny_mono (wpAny_comprehension_use (Q:=λ_ s'=>Q .next s') rfl (by intro _;rfl) hfree hkd hnames (hlv.thnS Cx S Lc er P λv V h₁ tk₁ ak σ₁ ai ax rv am aj al=> ?_)) (λ_ s' hq=>dc (dc hq)) λ_ _ e=>e);unfold xr at aj;split at aj
 case h_2=>exact eC aj
 rename_i xs hgl;refine eN (fe.mp aj) λaG e2 e3=> ?_;refine p1 e3 ?_;clear e3;intro ey ez;subst ey;subst ez;refine iJ (ai.isL rv hgl) λl items ez1 hil _=> ?_;subst ez1;refine wpAny_pyIter_list (s:={ s with heap:=h₁,toks:=tk₁ }) hil ?_
 have k1:∀b o,h₁.get? b=some o->(h₁.push { cls:= .type "list_iterator",data:= .fields #[.ref l,.int 0 0] }).get? b=some o:=λb o e=>fc _ e;have hf1:=fN h₁;have gi:(h₁.push { cls:= .type "list_iterator",data:= .fields #[.ref l,.int 0 0] }).get? h₁.objs.size=some { cls:= .type "list_iterator",data:= .fields #[.ref l,.int 0 0] }:=gP _ rfl;have aq:=ai.of_keep k1;have q1:dE (f.L::Ls) ak ak h₁ _:=dE.of_keep k1;generalize hH2:h₁.push { cls:= .type "list_iterator",data:= .fields #[.ref l,.int 0 0] }=H2 at *;refine wpAny_newObj_type (s:={ s with heap:=H2,toks:=tk₁ }) ?_ (by show 0<=sizeLine;exact iq _)
 have k2:∀b o,H2.get? b=some o->(H2.push { cls:= .type "list",data:= .seq ([]:List Value).toArray }).get? b=some o:=λb o e=>fc _ e;have hf2:=fN H2;have gl:(H2.push { cls:= .type "list",data:= .seq ([]:List Value).toArray }).get? H2.objs.size=some { cls:= .type "list",data:= .seq ([]:List Value).toArray }:=gP _ rfl;have ay:St G (f.L::Ls) (ak++[H2.objs.size]) (σ₁++[.list []]) (H2.push { cls:= .type "list",data:= .seq ([]:List Value).toArray }):=aq.grow k2 hf2 aq.size ⟨#[],0,gl,.nil⟩;have q2:dE (f.L::Ls) ak (ak++[H2.objs.size]) H2 _:=dE.grow k2 hf2;generalize hH3:H2.push { cls:= .type "list",data:= .seq ([]:List Value).toArray }=H3 at *
 refine wpAny_newFunctionEnv (s:={ s with heap:=H3,toks:=tk₁ }) hcell (by intro y hy;simp at hy) (λaN hns hsb=> ?_) hkd
 have hf3:=fN H3;have k3:∀b o,H3.get? b=some o->aN.get? b=some o:=λb o e=>hsb.extBut b o (Nat.ne_of_lt (kH e)) (fc _ e);have aX:=ay.of_keep k3;have q3:dE (f.L::Ls) (ak++[H2.objs.size]) (ak++[H2.objs.size]) H3 aN:=dE.of_keep k3;have q:dE (f.L::Ls) ak (ak++[H2.objs.size]) h₁ aN:=(q1.trans q2).trans q3;have hC0:h₁.get? H3.objs.size=none:=(q1.trans q2).ex _ hf3;have gi4:aN.get? h₁.objs.size=some { cls:= .type "list_iterator",data:= .fields #[.ref l,.int 0 0] }:=k3 _ _ (k2 _ _ gi)
 have hne:H3.objs.size≠h₁.objs.size:=λz=>by have:=k2 _ _ gi;rw[<-z,hf3]at this;exact eC this
 have out:∀{a:Addr},h₁.get? a=none->a ∉ f.L::Ls:=λ{a} ha m=>by refine vw (ai.frs _ m) λ_ x h1 _=> ?_;rw[ha]at h1;exact eC h1
 have nad:∀{a:Addr},h₁.get? a=none->a≠H2.objs.size->a ∉ ak++[H2.objs.size]:=λ{a} ha hz m=>by
  rcases eF.mp m with m|m
  ·refine eN (ai.adObj m) λx h1 _=> ?_;rw[ha]at h1;exact eC h1
  ·exact hz (ff.mp m)
 have hz1:H3.objs.size≠H2.objs.size:=λz=>by rw[<-z,hf3]at gl;exact eC gl
 have hz2:h₁.objs.size≠H2.objs.size:=λz=>by rw[z,hf2]at gi;exact eC gi
 have hle2:G.h₀.objs.size<=H3.objs.size:=ay.size
 have c:CI G f aa Ls ak h₁ H3.objs.size h₁.objs.size l v 0 aN (ak++[H2.objs.size]) (σ₁++[.list []]):=by
  refine⟨aX,q,?_,⟨nad hf1 hz2,out hf1,ai.size,λo' e'=> ?_⟩,hne,⟨⟨_,gi4,rfl,rfl⟩,rv.stepE ai q⟩,am.step ai q⟩
  ·refine iO hns λo es ep e d _=> ?_;clear hns;exact⟨nad hC0 hz1,out hC0,hle2,λo' e'=>by rw[e]at e';replace e':=si e';subst e';exact EQ d⟩
  ·rw[gi4]at e';replace e':=si e';subst e';exact rE ⟨(by show Value.type "list_iterator"≠Value.type "tuple";decide),λ_ z=>by cases z⟩
 have ha:(ak++[H2.objs.size])[σ₁.length]? =some H2.objs.size:=by rw[<-ai.len];simp
 have hLF:f.L ∉ Ls:=(gE.mp S.fnd).1
 have main:=MT (R:=λr s'=>match r with
   | .ok _=>wpAny (model G.prog G.w) A (assign (.Name y py) f.env (.ref H2.objs.size)) (λ_ s''=>∃m,s''.heap.Ns H3.objs.size m/\∀h',Heap.SameBut H3.objs.size s''.heap h'->Q .next { s'' with heap:=h' }) E s'
   | .error x=>∃m,s'.heap.Ns H3.objs.size m/\∀h',Heap.SameBut H3.objs.size s'.heap h'->wpAny (model G.prog G.w) A (passOn "comprehension.variables-let-go" x (compEnv scope H3.objs.size f.env):Sem Value) (λ_ s'=>Q .next s') E { s' with heap:=h' })
  (one:=one) (part:=part) (tp:=tp) (lv:=lv) (po:=po) (pp:=pp) (pl:=pl) (tpp:=tpp) (po2:=po2) (pp2:=pp2) (cp:=cp) (cpos:=cpos) Cx hkd hone hdo hpart hdb htp hdt hg hkp hc hC0 hf1 kk k 0 _ σ' { s with heap:=aN,toks:=tk₁+([]:List (Str×Value)).length } _ _ c hns ha e2 λh' tk ad' m' S' p' prC hn' lc' ha'=>by
   refine PySem.wpAny_assign_Name (qO (s:={ s with heap:=h',toks:=tk }) (v:= .ref σ₁.length) (V:= .ref H2.objs.size) hy Cx S' lc' ⟨_,ha',rfl⟩ λh'' S'' p'' L''=> ?_)
   have hCL:H3.objs.size≠f.L:=λz=>prC.F (z▸.head _)
   have hnC:h''.Ns H3.objs.size m':=yY hn' λo e=>p''.pres.keep _ o e (λm=>by
    rcases dj.mp m with z|m
    ·exact hCL z
    ·exact prC.ad m) (λm=>prC.F (.tail _ m))
   refine⟨m',hnC,λbn bR=> ?_⟩;have k5:∀b o,b≠H3.objs.size->h''.get? b=some o->bn.get? b=some o:=λb o hb e=>(bR.2 b hb).trans e;have prC'':me G (f.L::Ls) ad' h'' H3.objs.size:=prC.ofNs hnC;exact al bn _ ad' (S''.priv prC'' k5) (kK.priv ((p'.toS hLF).trans p'') hC0 k5) (L''.priv prC'' (Ne.symm hCL) k5)
 exact yX (.inl rfl) main (wpAny_pyIter_listiter (s:={ s with heap:=aN,toks:=tk₁+([]:List (Str×Value)).length }) ⟨_,gi4,rfl,rfl⟩ main)
end
end
section
variable{f:Fm}{aa:List (Option PV)}
structure GV(G:Gl)(x:Str)(v:PV):Prop where
 is:∃V,G.mg x=some V/\∀h ad,G.h₀.StaysIn h->eW G h ad v V
structure GF(G:Gl)(x:Str)(a:Addr):Prop where
 mg:G.mg x=some (.ref a)
 keep:keepIn G.K (.ref a)=true
structure GB(G:Gl)(x:Str)(V:Value):Prop where
 mg:G.mg x=none
 hb:bootBuiltins x=some V
 ne:x≠"__name__"
abbrev cG(aa:Lo)(i:Nat):M PV:=lift (aa[i]?).join
abbrev cY(i:Int):M PV:=ret (.d (.int i))
abbrev cW(s:List Nat):M PV:=ret (.d (.str s))
abbrev MU:M PV:=ret (.d .none)
abbrev uW(b:Bool):M PV:=ret (.d (.bool b))
abbrev kN(v:PV):M PV:=ret v
abbrev f7(ms:List (M PV)):M PV:=bnd (ja ms) EP
abbrev m9(ms:List (M PV)):M PV:=bnd (ja ms) G5
abbrev d7(op:Operator)(a b:M PV):M PV:=bnd a λx=>bnd b λy=>ly op x y
abbrev yZ(op:CmpOp)(a b:M PV):M PV:=bnd a λx=>bnd b λy=>bnd (ir op x y) λc=>ret (.d (.bool c))
abbrev dz(op:CmpOp)(a b:M PV):M Bool:=bnd a λx=>bnd b λy=>ir op x y
abbrev sP(m:M PV):M Bool:=bnd m λv=>lift (pX v)
abbrev Sn(m:M Bool):M Bool:=bnd m λb=>ret (!b)
abbrev PL(o1 o2:CmpOp)(a b c:M PV):M Bool:=bnd a λx=>bnd b λy=>bnd (ir o1 x y) λc'=>match c' with|false=>ret false|true=>bnd c λd=>ir o2 y d
abbrev E5(t:M Bool)(a b:M PV):M PV:=bnd t λc=>match c with|true=>a|false=>b
abbrev y0(m:M PV):M PV:=bnd m λv=>lift (Mi v)
def E6(v k:PV):M PV:=λσ=>(gZ σ v k).map λr=>(.ok r,σ)
abbrev dP(m i:M PV):M PV:=bnd m λv=>bnd i λk=>E6 v k
abbrev lG(m:M PV)(lo hi:Option (M PV)):M PV:=bnd m λv=>bnd (uu lo) λl=>bnd (uu hi) λh=>wQ v l h
abbrev xu(m:M PV):M PV:=bnd m λv=>Ml v
def E7(i:M PV)(vs:List PV):M PV:=if vs.length<100 then bnd i λk=>lift (s7 vs k)else cU
abbrev s9(ms:List (M PV))(i:M PV):M PV:=bnd (ja ms) λvs=>E7 i vs
def Je(s:List Nat)(v:PV):M PV:=λσ=>(oH σ s v).map λr=>(.ok r,σ)
abbrev Hr(s:List Nat)(m:M PV):M PV:=bnd m λv=>Je s v
abbrev cM(sem:List PV->M PV)(ms:List (M PV)):M PV:=bnd (ja ms) sem
abbrev jC(mo m:M PV):M PV:=bnd mo λv=>kz v m
abbrev E8(mo:M PV):M PV:=bnd mo λv=>Mq v
abbrev td(m:M PV):M PV:=bnd (ja [m]) BJ
abbrev MV(mo m:M PV):M PV:=bnd mo λv=>ES v m
abbrev MW(mo k d:M PV):M PV:=bnd mo λv=>yQ v k d
noncomputable def MX(ks:List (List Nat))(vs:List PV):M PV:=λσ=>some (.ok (.ref σ.length),σ++[.dict (ks.zip vs)])
abbrev Hs(ks:List (List Nat))(ms:List (M PV)):M PV:=bnd (ja ms) λvs=>MX ks vs
abbrev MY(ty:String)(m:M PV):M PV:=bnd m λv=>lift ((PD ty v).map λb=> .d (.bool b))
abbrev dF(aa:Lo):M Fl:=ret (.nxt aa)
abbrev dZ(aa:Lo)(i:Nat)(m:M PV):M Fl:=bnd m λv=>ret (.nxt (rH aa i v))
abbrev sp(aa:Lo)(i:Nat)(op:Operator)(m:M PV):M Fl:=bnd (lift (aa[i]?).join) λold=>bnd m λv=>bnd (lift (uQ op old v)) λw=>ret (.nxt (rH aa i w))
abbrev eS(t:M Bool)(a b:M Fl):M Fl:=bnd t λc=>match c with|true=>a|false=>b
abbrev eJ(m:M PV):M Fl:=bnd m λv=>ret (.ret v)
abbrev Ht:M Fl:=ret (.ret (.d .none))
abbrev E9(aa:Lo):M Fl:=ret (.brk aa)
abbrev oB(aa:Lo)(m:M PV):M Fl:=bnd m λ_=>ret (.nxt aa)
abbrev Fa(aa:Lo)(is:List Nat)(m:M PV):M Fl:=bnd m λv=>bnd (lift (AH is aa v)) λloc'=>ret (.nxt loc')
def MZ(aa:Lo)(is:List Nat)(v:PV):M Fl:=match v with| .d (.tup xs)=>if xs.length=is.length then ret (.nxt (rI aa is.reverse xs.reverse))else cU|_=>cU
abbrev Hu(aa:Lo)(is:List Nat)(m:M PV):M Fl:=bnd m λv=>MZ aa is v
abbrev M0(aa:Lo)(s:List Nat)(m mo:M PV):M Fl:=bnd m λu=>bnd mo λv=>setO s v u λ_=>ret (.nxt aa)
def Jf(aa:Lo)(s:List Nat)(op:Operator)(m:M PV)(v:PV):M Fl:=λσ=>match oH σ s v with
   |some old=>bnd m (λu=>bnd (lift (uQ op old u)) λw=>setO s v w λ_=>ret (.nxt aa)) σ
   |none=>none
abbrev Hv(aa:Lo)(s:List Nat)(op:Operator)(m mo:M PV):M Fl:=bnd mo λv=>Jf aa s op m v
def M1(aa:Lo)(u v k:PV):M Fl:=λσ=>E2 σ v k u (λ_=>ret (.nxt aa)) σ
abbrev Hw(aa:Lo)(m mo mi:M PV):M Fl:=bnd m λu=>bnd mo λv=>bnd mi λk=>M1 aa u v k
abbrev CS(sem:List PV->M Unit)(ms:List (M PV)):M Fl:=bnd (ja ms) λvs=>uU (sem vs)
abbrev BQ(k:Nat)(asg:Lo->PV->Option Lo)(mi:M PV)(mb:Lo->M Fl)(aa:Lo):M Fl:=bnd mi λv=>BL k asg mb aa v
abbrev Fb(k:Nat)(asg:Lo->PV->Option Lo)(mi:M PV)(mb:Lo->M Fl)(aa:Lo):M Fl:=bnd mi λv=>Kp k asg mb aa v
abbrev M2(k:Nat)(iy:Nat)(aa:Lo)(sem:List PV->M PV)(mv:M PV):M Fl:=bnd mv λv=>xr iy aa v sem k k
theorem WB{x:Str}{v:PV}(g:GV G x v)(hk:f.cs.kind= .function)(hx:f.cs.names.lookup x=some .globalImplicit)(hd:(x ==("__debug__":Str))=false):dR G n f aa (.Name x pos) (kN v):=by refine eN g.is λV h1 h2=> ?_;exact Kj hk hx h1 h2 hd
theorem wW{x:Str}{s:List Nat}{k:Nat}(hs:x.cps.toList=s):dR G n f aa (.Constant (.str x) k pos) (cW s):=by subst hs;exact Td
theorem Jg{x:Str}(g:GF G x a)(hx:f.cs.names.lookup x=some .globalImplicit)(hd:(x ==("__debug__":Str))=false)
  (hs:jy G n f aa es ms)(hc:fK G n a sem):dR G n f aa (.Call (.Name x np) es [] pos) (cM sem ms):=PA hx g.mg hd g.keep hs hc
theorem M3{x:Str}{id:String}{prim:List PV->M PV}(g:GB G x (.builtin id))(hx:f.cs.names.lookup x=some .globalImplicit)(hd:(x ==("__debug__":Str))=false)
  (hs:jy G n f aa (e::es) (m::ms))(hp:rF G n f (.builtin id) prim):dR G n f aa (.Call (.Name x np) (e::es) [] pos) (cM prim (m::ms)):=by
 cases hs with
 |cons h0 h1 hs=>exact Mm hx g.mg g.hb g.ne hd h0 h1 hs hp
theorem vI{x:Str}{id:String}{prim:List PV->M PV}(g:GB G x (.type id))(hx:f.cs.names.lookup x=some .globalImplicit)(hd:(x ==("__debug__":Str))=false)
  (hs:jy G n f aa (e::es) (m::ms))(hp:rF G n f (.type id) prim):dR G n f aa (.Call (.Name x np) (e::es) [] pos) (cM prim (m::ms)):=by
 cases hs with
 |cons h0 h1 hs=>exact Mn hx g.mg g.hb g.ne hd h0 h1 hs hp
theorem M4{x y:Str}{yp:Pos}{ty:String}(g:GB G x (.builtin "isinstance"))(hx:f.cs.names.lookup x=some .globalImplicit)(hd:(x ==("__debug__":Str))=false)
  (gy:GB G y (.type ty))(hy:f.cs.names.lookup y=some .globalImplicit)(hdy:(y ==("__debug__":Str))=false)(hty:ty="tuple"\/ty="list")
  (h0:W.isStarred e=false)(h1:dR G n f aa e m):dR G n f aa (.Call (.Name x np) [e,.Name y yp] [] pos) (MY ty m):=Tx hx g.mg g.hb g.ne hd hy gy.mg gy.hb gy.ne hdy hty h0 h1
theorem PM{x:Str}{xp:Pos}{nm:Str}{s:List Nat}(R:yU G)(hf:findIn G.K (.ref G.rC) nm=some none)(hs:nm.cps.toList=s)(h:dR G n f aa (.Name x xp) m):dR G n f aa (.Attribute (.Name x xp) nm pos) (Hr s m):=by subst hs;exact PG R hf h
theorem PN{x:Str}{xp tp:Pos}{nm:Str}{s:List Nat}{mo:M PV}(R:yU G)(hf:findIn G.K (.ref G.rC) nm=some none)(hn:nm.cps.toList=s)(hs:swapsWith e (some (.Attribute (.Name x xp) nm tp)) pos.line f.env=pure false)(ho:dR G n f aa (.Name x xp) mo)(he:dR G n f aa e m):
  jB G n f aa (.Assign [.Attribute (.Name x xp) nm tp] e pos) (M0 aa s m mo):=by
 subst hn;exact Hk R hf hs ho he
theorem PO{x:Str}{xp tp:Pos}{nm:Str}{s:List Nat}{op:Operator}{mo:M PV}(R:yU G)(hf:findIn G.K (.ref G.rC) nm=some none)(hn:nm.cps.toList=s)(ho:dR G n f aa (.Name x xp) mo)(he:dR G n f aa e m):
  jB G n f aa (.AugAssign (.Attribute (.Name x xp) nm tp) op e pos) (Hv aa s op m mo):=by
 subst hn;exact Hl R hf ho he
theorem Jh{ks:List (Str×Nat×Pos)}{ss:List (List Nat)}(hk:ks.map (·.1.cps.toList)=ss)(hs:jy G n f aa es ms)(hl:ks.length=es.length)(h0:ks≠[])(h15:ks.length<=15)(hn:(ks.map (·.1)).Nodup):
  dR G n f aa (.Dict (ks.map λk=>some (ET k)) es pos) (Hs ss ms):=by
 subst hk;exact Py hs hl h0 h15 hn
theorem TB{i:cP}{mi:M PV}(h:dR G n f aa e m)(hi:dR G n f aa i mi)(hs:qL i=true):dR G n f aa (.Subscript e i pos) (dP m mi):=Tq h hi hs
theorem PQ{i:cP}{lp:Pos}{mi:M PV}(h:jy G n f aa es ms)(hi:dR G n f aa i mi)(hs:qL i=true):dR G n f aa (.Subscript (.List es lp) i pos) (s9 ms mi):=PE h hi hs
theorem M5{x:Str}{cp:Pos}{sem:List PV->M Unit}(F:∀M,ku M G.h₀ G.fC)(g:GF G x a)(hx:f.cs.names.lookup x=some .globalImplicit)(hd:(x ==("__debug__":Str))=false)
  (hs:jy G n f aa es ms)(hne:es≠[])(hc:jS G n a sem):jB G n f aa (.Raise (some (.Call (.Name x np) es [] cp)) none pos) (CS sem ms):=MM F hx g.mg hd g.keep hs hne hc
theorem Fc{tgt:cP}{x:Str}{cpos:Pos}{b:List Stmt}(k:Nat)(g:GB G x (.type "range"))(hx:f.cs.names.lookup x=some .globalImplicit)(hd:(x ==("__debug__":Str))=false)
  (h0:W.isStarred e=false)(hf:∀y,foldedSetIterable (.Call (.Name x np) [e] [] cpos) f.env y=pure y)(ha:yR G n f tgt asg)(he:dR G n f aa e m)(hb:∀aa,oy G n f aa b (mb aa)):
  jB G n f aa (.For tgt (.Call (.Name x np) [e] [] cpos) b [] pos) (Fb k asg m mb aa):=My k hx g.mg g.hb g.ne hd h0 hf ha he hb
theorem TC{c:Str}{p rp hp:Pos}{k:Nat}{mb:M Fl}(F:∀M,ku M G.h₀ G.fC)(g:G.mg c=some (.ref G.fC))(hx:f.cs.names.lookup c=some .globalImplicit)(hd:(c ==("__debug__":Str))=false)(hb:oy G n f aa body mb):
  jB G n f aa (.Try body [.ExceptHandler (some (.Name c np)) none [.Return (some (.Constant .none k p)) rp] hp] [] [] pos) (CR mb):=Tz F hx g hd hb
end
section
structure FK(G:Gl)(a:Addr)(nm:Str)(pm:Arguments)(bod:List Stmt)(sc:Scope)(dV:Value):Prop where
 is:∃oc od sl nm' kV doc pv an c ct,G.K.lookup a=some ⟨oc,od,.func (fnOf nm' nm pm bod sc dV kV doc pv an (.ref c) ct),sl⟩/\codeIn G.K (.ref c) nm=true
structure WC(sc:Scope):Prop where
 cell:(sc.names.all λx=>x.2 != .cell)=true
 co:sc.isCoroutine=false
 gen:sc.isGenerator=false
 kind:sc.kind= .function
theorem tZ{nm:Str}{pm:Arguments}{bod:List Stmt}{dV:Value}{k:Nat}(F:FK G a nm pm bod sc dV)(S:WC sc)(hp:ps.length=k+ds.length)
  (hb:∀nm' kV doc pv an cd ct s Vs,G.h₀.StaysIn s.heap->Vs.length=k->∃Ds,dD G.h₀ Ds ds/\BindsTo s (fnOf nm' nm pm bod sc dV kV doc pv an cd ct) ⟨Vs,[]⟩ (ps.zip (Vs++Ds))):∃cd,CL G a nm sc cd bod ps k ds:=by
 refine Cu F.is λoc od sl nm' kV doc pv an c ct h1 h2=> ?_;refine⟨.ref c,⟨⟨_,_,G.KX _ _ h1,rfl,rfl,rfl,rfl,rfl,rfl,rfl,rfl,λs Vs=>hb nm' kV doc pv an (.ref c) ct s Vs⟩,codeRec_of G.KX h2,λx hx=> ?_,S.co,S.gen,S.kind,hp⟩⟩;have:=fu.mp S.cell x hx
 simpa using this
theorem CU{nm:Str}{pm:Arguments}{bod:List Stmt}{k:Nat}(h:∀nm' kV doc pv an cd ct Vs,Vs.length=k->bindArgs (fnOf nm' nm pm bod sc .none kV doc pv an cd ct) ⟨Vs,[]⟩=pure (ps.zip Vs)):
  ∀nm' kV doc pv an cd ct s Vs,G.h₀.StaysIn (Shared.heap s)->Vs.length=k->∃Ds,dD G.h₀ Ds []/\BindsTo s (fnOf nm' nm pm bod sc .none kV doc pv an cd ct) ⟨Vs,[]⟩ (ps.zip (Vs++Ds)):=
 λnm' kV doc pv an cd ct s Vs _ hl=>⟨[],.nil,.of_eq (by rw[gD];exact h nm' kV doc pv an cd ct Vs hl)⟩
def semF(k:Nat)(m:Lo->M Fl)(ds:List D)(more:Nat)(vs:List PV):M PV:=s6 (if vs.length=k then i6 (m (eR vs ds more))else cU)
theorem WD{cn:Str}{k:Nat}{m:Lo->M Fl}(fn:∃cd,CL G a cn sc cd body ps k ds)(hn:(ps++more).Nodup)(hl:((ps++more).all λx=>sc.names.lookup x == some .local)=true)
  (ok:∀aa L cd,oy G n ⟨cn,sc,L,a,cd,ps++more⟩ aa body (m aa)):fK G (n+1) a (semF k m ds more.length):=by
 refine oE fn λcd fn=> ?_;refine fK.drop λf A ag Ls ad σ s R vs Vs r σ' C S rv e P=> ?_;by_cases hk:vs.length=k
 ·rw[cH hk]at e;exact CM fn hn (λx hx=>by have:=fu.mp hl x hx;simpa using this) (λL=>ok _ L cd) hk C S rv e P
 ·rw[cJ hk]at e;exact eC e
def ph(k:Nat)(m:Lo->M Fl)(ds:List D)(more:Nat)(vs:List PV):M PV:=s6 (if vs.length=k then i6 (m (eR vs ds more))else if vs.length=k+ds.length then i6 (m (eR vs [] more))else cU)
theorem TD{cn:Str}{k:Nat}{m:Lo->M Fl}(fn:∃cd,CL G a cn sc cd body ps k ds)(fn':∃cd,CL G a cn sc cd body ps (k+ds.length) [])(hn:(ps++more).Nodup)(hl:((ps++more).all λx=>sc.names.lookup x == some .local)=true)
  (ok:∀aa L cd,oy G n ⟨cn,sc,L,a,cd,ps++more⟩ aa body (m aa)):fK G (n+1) a (ph k m ds more.length):=by
 refine oE fn λcd fn=> ?_;refine oE fn' λcd' fn'=> ?_;have hl':∀x ∈ ps++more,sc.names.lookup x=some .local:=λx hx=>by have:=fu.mp hl x hx;simpa using this
 refine fK.drop λf A ag Ls ad σ s R vs Vs r σ' C S rv e P=> ?_;by_cases hk:vs.length=k
 ·rw[cH hk]at e;exact CM fn hn hl' (λL=>ok _ L cd) hk C S rv e P
 ·rw[cJ hk]at e;by_cases hk2:vs.length=k+ds.length
  ·rw[cH hk2]at e;exact CM fn' hn hl' (λL=>ok _ L cd') hk2 C S rv e P
  ·rw[cJ hk2]at e;exact eC e
theorem wX:fK G n a (λ_=>cU):=λ_ _ _ _ _ _ _ _ _ _ _ _ _ _ _ e=>by exact eC e
theorem y6:jS G n a (λ_=>cU):=λ_ _ _ _ _ _ _ _ _ _ _ _ _ _ e=>by exact eC e
end
section
noncomputable def M6(g:Value->D->Bool):List Value->List D->Bool
 |[],ds=>ds.isEmpty
 |v::vs,ds=>match ds with
  |[]=>false
  |d::ds=>g v d && M6 g vs ds
noncomputable def WE(K:Frag)(a:Addr)(n:String):Option (List Value):=match K.lookup a with
 |some ⟨.type c,_,.seq items _,_⟩=>if c=n then some items.toList else none
 |_=>none
theorem Ji{K:Frag}{n:String}{vs:List Value}(e:WE K a n=some vs):∃od items m sl,K.lookup a=some ⟨.type n,od,.seq items m,sl⟩/\items.toList=vs:=by
 unfold WE at e
 symm at e
 ·rename_i q;exact oA (I6 e) λc e=>⟨_,_,_,_,c▸q,e⟩
 ·exact eC e
noncomputable def Vp(K:Frag):Nat->Value->D->Bool
 | 0,_,_=>false
 |f+1,V,d=>match d with
  | .none=>(match V with| .none=>true|_=>false)
  | .bool c=>(match V with| .bool b=>b == c|_=>false)
  | .int j=>(match V with| .int i _=>i == j|_=>false)
  | .str s=>(match V with| .str x _=>x.cps.toList == s|_=>false)
  | .tup xs=>match V with| .ref a=>(WE K a "tuple").elim false λvs=>M6 (Vp K f) vs xs|_=>false
theorem M7{o:Option α}{f:α->Bool}(e:o.elim false f=true):∃a,o=some a/\f a=true:=by
 cases o with
 |none=>exact mY e
 |some a=>exact⟨a,rfl,e⟩
theorem Jj{g:Value->D->Bool}(hg:∀v d,g v d=true->Rd h v d):∀{vs:List Value}{ds:List D},M6 g vs ds=true->dD h vs ds:=by
 intro vs
 induction vs with
 |nil=>intro ds e;cases ds with
  |nil=>exact .nil
  |cons d ds=>exact mY e
 |cons v vs ih=>intro ds e;cases ds with
  |nil=>exact mY e
  |cons d ds=>exact oA (Bool.and_eq_true_iff.mp e) λe1 e2=> .cons (hg v d e1) (ih e2)
theorem Hx{K:Frag}(X:K.In h)(f:Nat):∀(V:Value)(d:D),Vp K f V d=true->Rd h V d:=by
 induction f with
 |zero=>intro V d e;exact mY e
 |succ f ih=>
  intro V d e;cases d with
  |none=>
   have e:(match(generalizing:=false) V with| .none=>true|_=>false)=true:=e
   split at e
   ·exact .none
   ·exact mY e
  |bool c=>
   have e:(match(generalizing:=false) V with| .bool b=>b == c|_=>false)=true:=e
   split at e
   ·rw[kc.mp e];exact .bool _
   ·exact mY e
  |int j=>
   have e:(match(generalizing:=false) V with| .int i _=>i == j|_=>false)=true:=e
   split at e
   ·rw[kc.mp e];exact .int _ _
   ·exact mY e
  |str s=>
   have e:(match(generalizing:=false) V with| .str x _=>x.cps.toList == s|_=>false)=true:=e
   split at e
   ·rw[<-kc.mp e];exact .str _ _
   ·exact mY e
  |tup xs=>
   have e:(match(generalizing:=false) V with| .ref a=>(WE K a "tuple").elim false λvs=>M6 (Vp K f) vs xs|_=>false)=true:=e
   split at e
   ·exact eN (M7 e) λvs e1 e2=>match Ji e1 with|⟨_,_,_,_,q,r⟩=> .tup (X _ _ q) rfl rfl (Jj ih (r▸e2))
   ·exact mY e
def Z4(K:Frag)(x:Str)(pv:PV):Bool:=match nsIn K mainGlobals x with
 |some (some V)=>(match pv with
  | .d d=>Vp K 4 V d
  | .cl xs=>(match V with| .ref a=>(WE K a "list").elim false λvs=>M6 (Vp K 4) vs xs|_=>false)
  |_=>false)
 |_=>false
theorem my{x:Str}{pv:PV}(e:Z4 G.K x pv=true):GV G x pv:=by
 unfold Z4 at e
 symm at e
 ·rename_i V q;cases pv with
  |d d=>exact⟨V,mg_of G.KX G.hg q,λh ad k=>Hx (G.KX.keeps k) _ _ _ e⟩
  |cl xs=>
   dsimp only at e;split at e
   ·exact eN (M7 e) λvs e1 e2=>match Ji e1 with|⟨_,_,_,_,q2,r⟩=>⟨_,mg_of G.KX G.hg q,λh ad k=>⟨_,_,rfl,⟨_,G.KX _ _ q2,rfl,_,rfl⟩,Jj (λv d=>Hx G.KX 4 v d) (r▸e2)⟩⟩
   ·exact mY e
  |ref k=>exact mY e
  |inst k=>exact mY e
  |cd kvs=>exact mY e
 ·exact mY e
noncomputable def PR(P:Params)(l:List (Str×Tok×Value)):Array DictEntry:=(l.map λe=>⟨PyData.keyHash P e.1,.str e.1 e.2.1,e.2.2⟩).toArray
noncomputable def Yx(K:Frag):List (Str×Tok×Value)->List (List Nat×D)->Bool
 |[],kvs=>kvs.isEmpty
 |e::es,kvs=>match kvs with
  |[]=>false
  |kv::kvs=>(e.1.cps.toList == kv.1 && Vp K 4 e.2.2 kv.2) && Yx K es kvs
theorem TE{K:Frag}(X:K.In h):∀{l:List (Str×Tok×Value)}{kvs:List (List Nat×D)},Yx K l kvs=true->Ki h (l.map λe=>(e.1,e.2.2)) kvs:=by
 intro l
 induction l with
 |nil=>intro kvs z;cases kvs with
  |nil=>trivial
  |cons kv kvs=>exact mY z
 |cons e es ih=>intro kvs z;cases kvs with
  |nil=>exact mY z
  |cons kv kvs=>
   refine oA (Bool.and_eq_true_iff.mp z) λz1 z2=>oA (Bool.and_eq_true_iff.mp z1) λz3 z4=>⟨?_,Hx X _ _ _ z4,ih z2⟩;show e.1=_;rw[<-kc.mp z3,oR]
theorem Fd{prog:Program}{w:World}:∀l:List (Str×Tok×Value),Pairs (PySem.strKind prog w) (l.map λe=>(⟨PyData.keyHash w.params e.1,.str e.1 e.2.1,e.2.2⟩:DictEntry)) (l.map λe=>(e.1,e.2.2))
 |[]=> .nil
 |e::es=> .cons (strKind_is _ _ _ _) rfl (Fd es)
theorem Jk{x:Str}{l:List (Str×Tok×Value)}{kvs:List (List Nat×D)}(e:nsIn G.K mainGlobals x=some (some (.ref a)))(ha:(a == sysModules)=false)(ho:G.K.lookup a=some ⟨.type "dict",none,.dict (PR G.w.params l) n,#[]⟩)
  (hn:(l.map λe=>(e.1,e.2.2)).map (·.1) |>.Nodup)(hc:Yx G.K l kvs=true):GV G x (.cd kvs):=by
 refine⟨.ref a,mg_of G.KX G.hg e,λh ad k=>⟨a,l.map λe=>(e.1,e.2.2),rfl,ha,⟨_,_,_,G.KX _ _ ho,⟨rfl,rfl,rfl⟩,rfl,?_,?_,hn⟩,TE G.KX hc⟩⟩
 ·intro en hen;unfold PR at hen;rw[<-Array.mem_toList_iff,List.toList_toArray]at hen;refine eN (List.mem_map.mp hen) λe _ ez1=> ?_;subst ez1;exact⟨e.1,strKind_is _ _ _ _,rfl⟩
 ·show Pairs _ (PR G.w.params l).toList _;unfold PR;rw[List.toList_toArray];exact Fd l
theorem Jl{x:Str}(e:nsIn G.K mainGlobals x=some (some (.ref a)))(k:keepIn G.K (.ref a)=true):GF G x a:=⟨mg_of G.KX G.hg e,k⟩
theorem y7{x:Str}{V:Value}(e:nsIn G.K mainGlobals x=some none)(h:bootBuiltins x=some V)(ne:x≠"__name__"):GB G x V:=⟨mg_none_of G.KX G.hg e,h,ne⟩
end
end
variable{aa:Lo}{mo:Lo->M Fl}{mt:Lo->M Bool}{mb:Lo->M Fl}{asg:Lo->PV->Option Lo}
inductive Cm:Type->Type 1 where
 |ret {α:Type} (a:α):Cm α
 |ask {α:Type} (m:M α):Cm α
 |cmp {α:Type} (m:M α):Cm α
 |bnd {α β:Type} (c:Cm α) (f:α->Cm β):Cm β
 |seq (c:Cm Fl) (f:Lo->Cm Fl):Cm Fl
 |ite {α:Type} (t:Cm Bool) (a b:Cm α):Cm α
 |and (a b:Cm Bool):Cm Bool
 |or (a b:Cm Bool):Cm Bool
 |andV (a b:Cm PV):Cm PV
 |orV (a b:Cm PV):Cm PV
noncomputable def fG{α:Type}:Cm α->M α
 | .ret a=>Internal.ret a
 | .ask m=>m
 | .cmp m=>m
 | .bnd c f=>Internal.bnd (fG c) λa=>fG (f a)
 | .seq c f=>dn (fG c) λl=>fG (f l)
 | .ite t a b=>Internal.bnd (fG t) λc=>match c with|true=>fG a|false=>fG b
 | .and a b=>Internal.bnd (fG a) λc=>match c with|true=>fG b|false=>Internal.ret false
 | .or a b=>Internal.bnd (fG a) λc=>match c with|true=>Internal.ret true|false=>fG b
 | .andV a b=>Internal.bnd (fG a) λv=>match pX v with|some true=>fG b|some false=>Internal.ret v|none=>cU
 | .orV a b=>Internal.bnd (fG a) λv=>match pX v with|some true=>Internal.ret v|some false=>fG b|none=>cU
def onR(f:α->List MO->Prop)(K:R β->List MO->Prop):R α->List MO->Prop
 | .ok a,σ=>f a σ
 | .exc,σ=>K .exc σ
def Yy(a b:List MO->Prop)(K:R β->List MO->Prop):R Bool->List MO->Prop
 | .ok true,σ=>a σ
 | .ok false,σ=>b σ
 | .exc,σ=>K .exc σ
def onF(f:Lo->List MO->Prop)(K:R Fl->List MO->Prop):R Fl->List MO->Prop
 | .ok (.nxt l),σ=>f l σ
 | .ok (.brk l),σ=>K (.ok (.brk l)) σ
 | .ok (.ret v),σ=>K (.ok (.ret v)) σ
 | .exc,σ=>K .exc σ
def Z5(a b:PV->List MO->Prop)(K:R PV->List MO->Prop):R PV->List MO->Prop
 | .ok v,σ=>match pX v with
  |some true=>a v σ
  |some false=>b v σ
  |none=>True
 | .exc,σ=>K .exc σ
def Z6(K:R α->List MO->Prop):Option (R α×List MO)->Prop
 |some (r,σ)=>K r σ
 |none=>True
noncomputable def AI{α:Type}:Cm α->List MO->(R α->List MO->Prop)->Prop
 | .ret a,σ,K=>K (.ok a) σ
 | .ask m,σ,K=>∀{r σ'},m σ=some (r,σ')->K r σ'
 | .cmp m,σ,K=>Z6 K (m σ)
 | .bnd c f,σ,K=>AI c σ (onR (λa σ=>AI (f a) σ K) K)
 | .seq c f,σ,K=>AI c σ (onF (λa σ=>AI (f a) σ K) K)
 | .ite t a b,σ,K=>AI t σ (Yy (λσ=>AI a σ K) (λσ=>AI b σ K) K)
 | .and a b,σ,K=>AI a σ (Yy (λσ=>AI b σ K) (K (.ok false)) K)
 | .or a b,σ,K=>AI a σ (Yy (K (.ok true)) (λσ=>AI b σ K) K)
 | .andV a b,σ,K=>AI a σ (Z5 (λ_ σ=>AI b σ K) (λv=>K (.ok v)) K)
 | .orV a b,σ,K=>AI a σ (Z5 (λv=>K (.ok v)) (λ_ σ=>AI b σ K) K)
theorem eT{m:M α}{f:α->M β}{a:α}(h:m σ=some (.ok a,σ')):Internal.bnd m f σ=f a σ':=by unfold Internal.bnd;rw[h]
theorem te{m:M α}{f:α->M β}(h:m σ=some (.exc,σ')):Internal.bnd m f σ=some (.exc,σ'):=by unfold Internal.bnd;rw[h]
theorem Z7(c:Cm α):∀(σ:List MO)(K:R α->List MO->Prop),(∀r σ',fG c σ=some (r,σ')->K r σ')->AI c σ K:=by
 induction c with
 |ret a=>exactλσ K h=>h _ _ rfl
 |ask m=>exactλσ K h r σ' e=>h _ _ e
 |cmp m=>
  intro σ K h;show Z6 K (m σ);cases q:m σ with
  |none=>trivial
  |some p=>exact h _ _ q
 |bnd c f ih1 ih2=>
  refineλσ K h=>ih1 _ _ λr σ' e=> ?_
  cases r with
  |exc=>exact h _ _ (te e)
  |ok a=>exact ih2 a _ _ λr σ'' e2=>h _ _ ((eT e).trans e2)
 |seq c f ih1 ih2=>
  refineλσ K h=>ih1 _ _ λr σ' e=> ?_
  cases r with
  |exc=>exact h _ _ (te e)
  |ok a=>cases a with
   |nxt l=>exact ih2 l _ _ λr σ'' e2=>h _ _ ((eT e).trans e2)
   |_=>exact h _ _ (eT e)
 |ite t a b ih1 ih2 ih3=>
  refineλσ K h=>ih1 _ _ λr σ' e=> ?_
  cases r with
  |exc=>exact h _ _ (te e)
  |ok c=>cases c with
   |true=>exact ih2 _ _ λr σ'' e2=>h _ _ ((eT e).trans e2)
   |false=>exact ih3 _ _ λr σ'' e2=>h _ _ ((eT e).trans e2)
 |and a b ih1 ih2=>
  refineλσ K h=>ih1 _ _ λr σ' e=> ?_
  cases r with
  |exc=>exact h _ _ (te e)
  |ok c=>cases c with
   |true=>exact ih2 _ _ λr σ'' e2=>h _ _ ((eT e).trans e2)
   |false=>exact h _ _ (eT e)
 |or a b ih1 ih2=>
  refineλσ K h=>ih1 _ _ λr σ' e=> ?_
  cases r with
  |exc=>exact h _ _ (te e)
  |ok c=>cases c with
   |false=>exact ih2 _ _ λr σ'' e2=>h _ _ ((eT e).trans e2)
   |true=>exact h _ _ (eT e)
 |andV a b ih1 ih2=>
  refineλσ K h=>ih1 _ _ λr σ' e=> ?_
  cases r with
  |exc=>exact h _ _ (te e)
  |ok v=>
   show match pX v with|some true=>_|some false=>_|none=>_
   cases q:pX v with
   |none=>trivial
   |some c=>cases c with
    |true=>exact ih2 _ _ λr σ'' e2=>h _ _ ((eT e).trans (by show(match pX v with|some true=>fG b|some false=>Internal.ret v|none=>cU) σ'=_;rw[q];exact e2))
    |false=>exact h _ _ ((eT e).trans (by show(match pX v with|some true=>fG b|some false=>Internal.ret v|none=>cU) σ'=_;rw[q];rfl))
 |orV a b ih1 ih2=>
  refineλσ K h=>ih1 _ _ λr σ' e=> ?_
  cases r with
  |exc=>exact h _ _ (te e)
  |ok v=>
   show match pX v with|some true=>_|some false=>_|none=>_
   cases q:pX v with
   |none=>trivial
   |some c=>cases c with
    |true=>exact h _ _ ((eT e).trans (by show(match pX v with|some true=>Internal.ret v|some false=>fG b|none=>cU) σ'=_;rw[q];rfl))
    |false=>exact ih2 _ _ λr σ'' e2=>h _ _ ((eT e).trans (by show(match pX v with|some true=>Internal.ret v|some false=>fG b|none=>cU) σ'=_;rw[q];exact e2))
noncomputable def kF:R Fl->List MO->Option (R PV×List MO)
 | .ok (.ret v),σ=>some (.ok v,σ)
 | .ok (.nxt _),σ=>some (.ok (.d .none),σ)
 | .ok (.brk _),_=>none
 | .exc,σ=>some (.exc,σ)
theorem WG{m:M Fl}{c:Cm Fl}(h:m=fG c)(σ:List MO):AI c σ λr σ'=>True->i6 m σ=kF r σ':=
 Z7 c σ _ λr σ' e _=>by
  subst h;cases r with
  |exc=>exact te e
  |ok fl=>cases fl<;>exact eT e
theorem d8{m:M Fl}{c:Cm Fl}{o:Option (R PV×List MO)}(h:m=fG c)(f:(AI c σ λr σ'=>True->i6 m σ=kF r σ')->i6 m σ=o):i6 m σ=o:=f (WG h σ)
theorem pZ{m:M Fl}{c:Cm Fl}{o o':Option (R PV×List MO)}(h:m=fG c)(f:(AI c σ λr σ'=>True->i6 m σ=kF r σ')->i6 m σ=o)(e:o=o'):i6 m σ=o':=(f (WG h σ)).trans e
theorem Yz{m:M α}{c:Cm α}(h:m=fG c)(σ:List MO):AI c σ λr σ'=>True->m σ=some (r,σ'):=Z7 c σ _ λr σ' e _=>h▸e
theorem fX{m:M α}{c:Cm α}{o:Option (R α×List MO)}(h:m=fG c)(f:(AI c σ λr σ'=>True->m σ=some (r,σ'))->m σ=o):m σ=o:=f (Yz h σ)
abbrev cF(aa:Lo)(i:Nat):Cm PV:= .cmp (lift (aa[i]?).join)
noncomputable abbrev cL(i:Int):Cm PV:= .ret (.d (.int i))
noncomputable abbrev cK(s:List Nat):Cm PV:= .ret (.d (.str s))
noncomputable abbrev mz:Cm PV:= .ret (.d .none)
noncomputable abbrev y8(b:Bool):Cm PV:= .ret (.d (.bool b))
noncomputable abbrev lX(v:PV):Cm PV:= .ret v
noncomputable def xv:List (Cm PV)->Cm (List PV)
 |[]=> .ret []
 |m::r=> .bnd m λv=> .bnd (xv r) λvs=> .ret (v::vs)
abbrev eo(ms:List (Cm PV)):Cm PV:= .bnd (xv ms) λv=> .cmp (EP v)
abbrev mA(ms:List (Cm PV)):Cm PV:= .bnd (xv ms) λv=> .cmp (G5 v)
abbrev dT(op:Operator)(a b:Cm PV):Cm PV:= .bnd a λx=> .bnd b λy=> .ask (ly op x y)
abbrev pi(op:CmpOp)(a b:Cm PV):Cm PV:= .bnd a λx=> .bnd b λy=> .bnd (.ask (ir op x y)) λc=> .ret (.d (.bool c))
abbrev cV(op:CmpOp)(a b:Cm PV):Cm Bool:= .bnd a λx=> .bnd b λy=> .ask (ir op x y)
abbrev gv(m:Cm PV):Cm Bool:= .bnd m λv=> .cmp (lift (pX v))
noncomputable abbrev oC(m:Cm Bool):Cm Bool:= .bnd m λb=> .ret (!b)
abbrev M8(o1 o2:CmpOp)(a b c:Cm PV):Cm Bool:= .bnd a λx=> .bnd b λy=> .ite (.ask (ir o1 x y)) (.bnd c λd=> .ask (ir o2 y d)) (.ret false)
noncomputable abbrev sq(t:Cm Bool)(a b:Cm PV):Cm PV:= .ite t a b
abbrev M9(m:Cm PV):Cm PV:= .bnd m λv=> .cmp (lift (Mi v))
abbrev dr(m i:Cm PV):Cm PV:= .bnd m λv=> .bnd i λk=> .ask (E6 v k)
def WH(v:PV):M (Option Int):=match v with| .d (.int i)=>ret (some i)|_=>cU
def Na:Option (Cm PV)->Cm (Option Int)
 |none=> .ret none
 |some m=> .bnd m λv=> .cmp (WH v)
abbrev oI(m:Cm PV)(lo hi:Option (Cm PV)):Cm PV:= .bnd m λv=> .bnd (Na lo) λl=> .bnd (Na hi) λh=> .ask (wQ v l h)
abbrev Z8(m:Cm PV):Cm PV:= .bnd m λv=> .ask (Ml v)
abbrev qy(ms:List (Cm PV))(i:Cm PV):Cm PV:= .bnd (xv ms) λvs=> .ask (E7 (fG i) vs)
abbrev tf(s:List Nat)(m:Cm PV):Cm PV:= .bnd m λv=> .ask (Je s v)
abbrev cI(sem:List PV->M PV)(ms:List (Cm PV)):Cm PV:= .bnd (xv ms) λvs=> .ask (sem vs)
abbrev tg(mo m:Cm PV):Cm PV:= .bnd mo λv=> .ask (kz v (fG m))
abbrev Z9(mo:Cm PV):Cm PV:= .bnd mo λv=> .ask (Mq v)
abbrev YA(m:Cm PV):Cm PV:= .bnd (xv [m]) λvs=> .ask (BJ vs)
abbrev TF(mo m:Cm PV):Cm PV:= .bnd mo λv=> .ask (ES v (fG m))
abbrev aaa(mo k d:Cm PV):Cm PV:= .bnd mo λv=> .ask (yQ v (fG k) (fG d))
abbrev YB(ks:List (List Nat))(ms:List (Cm PV)):Cm PV:= .bnd (xv ms) λvs=> .cmp (MX ks vs)
abbrev Jm(ty:String)(m:Cm PV):Cm PV:= .bnd m λv=> .ask (lift ((PD ty v).map λb=> .d (.bool b)))
noncomputable def jb:List (Cm Bool)->Cm Bool
 |[]=> .ret true
 |m::r=> .and m (jb r)
noncomputable def pj:List (Cm Bool)->Cm Bool
 |[]=> .ret false
 |m::r=> .or m (pj r)
noncomputable def Jn:List (Cm PV)->Cm PV
 |[]=> .ask cU
 |[m]=>m
 |m::r=> .andV m (Jn r)
noncomputable def WI:List (Cm PV)->Cm PV
 |[]=> .ask cU
 |[m]=>m
 |m::r=> .orV m (WI r)
noncomputable abbrev cZ(aa:Lo):Cm Fl:= .ret (.nxt aa)
abbrev dA(aa:Lo)(i:Nat)(m:Cm PV):Cm Fl:= .bnd m λv=> .ret (.nxt (rH aa i v))
abbrev oD(aa:Lo)(i:Nat)(op:Operator)(m:Cm PV):Cm Fl:= .bnd (cF aa i) λold=> .bnd m λv=> .bnd (.ask (lift (uQ op old v))) λw=> .ret (.nxt (rH aa i w))
noncomputable abbrev dm(t:Cm Bool)(a b:Cm Fl):Cm Fl:= .ite t a b
noncomputable abbrev df(m:Cm PV):Cm Fl:= .bnd m λv=> .ret (.ret v)
noncomputable abbrev PU:Cm Fl:= .ret (.ret (.d .none))
noncomputable abbrev Nb(aa:Lo):Cm Fl:= .ret (.brk aa)
noncomputable abbrev mB(aa:Lo)(m:Cm PV):Cm Fl:= .bnd m λ_=> .ret (.nxt aa)
abbrev th(aa:Lo)(is:List Nat)(m:Cm PV):Cm Fl:= .bnd m λv=> .bnd (.cmp (lift (AH is aa v))) λloc'=> .ret (.nxt loc')
abbrev PW(aa:Lo)(is:List Nat)(m:Cm PV):Cm Fl:= .bnd m λv=> .cmp (MZ aa is v)
abbrev jT(aa:Lo)(s:List Nat)(m mo:Cm PV):Cm Fl:= .bnd m λu=> .bnd mo λv=> .ask (setO s v u λ_=>ret (.nxt aa))
abbrev nH(aa:Lo)(s:List Nat)(op:Operator)(m mo:Cm PV):Cm Fl:= .bnd mo λv=> .ask (Jf aa s op (fG m) v)
abbrev CV(aa:Lo)(m mo mi:Cm PV):Cm Fl:= .bnd m λu=> .bnd mo λv=> .bnd mi λk=> .ask (M1 aa u v k)
abbrev n3(sem:List PV->M Unit)(ms:List (Cm PV)):Cm Fl:= .bnd (xv ms) λvs=> .ask (uU (sem vs))
abbrev TG(m:Cm Fl):Cm Fl:= .ask (CR (fG m))
abbrev pq(t:Lo->Cm Bool)(b o:Lo->Cm Fl)(W:Nat)(aa:Lo):Cm Fl:= .ask (fw (λl=>fG (t l)) (λl=>fG (b l)) (λl=>fG (o l)) W aa)
abbrev Hy(k:Nat)(asg:Lo->PV->Option Lo)(mi:Cm PV)(mb:Lo->Cm Fl)(aa:Lo):Cm Fl:= .bnd mi λv=> .ask (BL k asg (λl=>fG (mb l)) aa v)
abbrev YC(k:Nat)(asg:Lo->PV->Option Lo)(mi:Cm PV)(mb:Lo->Cm Fl)(aa:Lo):Cm Fl:= .bnd mi λv=> .ask (Kp k asg (λl=>fG (mb l)) aa v)
abbrev PX(k:Nat)(iy:Nat)(aa:Lo)(sem:List PV->M PV)(mv:Cm PV):Cm Fl:= .bnd mv λv=> .ask (xr iy aa v sem k k)
theorem dC{v k x:PV}(h:gZ σ v k=some x):E6 v k σ=some (.ok x,σ):=by unfold E6;rw[h];rfl
theorem nj{s:List Nat}{v x:PV}(h:oH σ s v=some x):Je s v σ=some (.ok x,σ):=by unfold Je;rw[h];rfl
theorem ig{op:CmpOp}{a b:PV}{c:Bool}(h:gJ σ op a b=some c):ir op a b σ=some (.ok c,σ):=by unfold ir;rw[h];rfl
theorem ti{x y:Int}(h:x<y):ir .Lt (.d (.int x)) (.d (.int y)) σ=some (.ok true,σ):=ig (dN some (eE h))
theorem tj{x y:Int}(h:¬x<y):ir .Lt (.d (.int x)) (.d (.int y)) σ=some (.ok false,σ):=ig (dN some (ft h))
theorem Nc{x y:Int}(h:y<x):ir .Gt (.d (.int x)) (.d (.int y)) σ=some (.ok true,σ):=ig (dN some (eE h))
theorem y9{x y:Int}(h:¬y<x):ir .Gt (.d (.int x)) (.d (.int y)) σ=some (.ok false,σ):=ig (dN some (ft h))
theorem BR{x y:Int}{c:Bool}(h:(x == y)=c):ir .Eq (.d (.int x)) (.d (.int y)) σ=some (.ok c,σ):=ig (dN some h)
theorem oF{op:CmpOp}{a b:PV}(h:gJ σ op a b=some true):ir op a b σ=some (.ok true,σ):=ig h
theorem jU{op:CmpOp}{a b:PV}(h:gJ σ op a b=some false):ir op a b σ=some (.ok false,σ):=ig h
theorem xw{g:PV}{c:Bool}(h:AE σ x g=some c):ir .In (.d (.str x)) g σ=some (.ok c,σ):=ig (by rw[<-h];rfl)
theorem Nf{ys:List D}{c:Bool}(h:AE σ x (.d (.tup ys))=some c):ir .NotIn (.d (.str x)) (.d (.tup ys)) σ=some (.ok (!c),σ):=ig (by show(AE σ x _).map _=_;rw[h];rfl)
theorem px{s:List Nat}{v u:PV}(h:∀f:Unit->M Fl,setO s v u f σ=f () σ'):setO s v u (λ_=>ret (.nxt aa)) σ=some (.ok (.nxt aa),σ'):=h _
theorem jV{s:List Nat}{op:Operator}{v u old w:PV}(h:oH σ s v=some old)(h2:∀f:Unit->M Fl,setO s v w f σ=f () σ')(h3:autoParam (uQ op old u=some w) kq):Jf aa s op (ret u) v σ=some (.ok (.nxt aa),σ'):=by unfold Jf;rw[h];show bnd (lift (uQ op old u)) (λw=>setO s v w λ_=>ret (.nxt aa)) σ=_;rw[h3];exact h2 λ_=>ret (.nxt aa)
theorem rL(σ:List MO)(l:List D):dW (σ++[.list l]) (.ref σ.length)=some l:=by simp[dW]
theorem vJ{J:List MO}{v:PV}{l:List D}(h:dW σ v=some l):dW (σ++J) v=some l:=by
 cases v with
 |ref k=>
  unfold dW at h ⊢;dsimp only at h ⊢;cases q:σ[k]? with
  |none=>rw[q]at h;exact eC h
  |some x=>rw[q]at h;rw[fH (ek.mp q).1,q];exact h
 |_=>exact h
theorem za{k:Nat}(h:dW σ (.ref k)=some xs)(h2:xs.length<2 ^ 40):jQ [.ref k] σ=some (.ok (.d (.int xs.length)),σ):=by show(dW σ (.ref k)).bind _=_;rw[h];exact cH h2
theorem So{k:Nat}(h:dW σ (.ref k)=some xs)(h2:autoParam (Nat.blt xs.length (2 ^ 40)=true) kq):jQ [.ref k] σ=some (.ok (.d (.int xs.length)),σ):=za h (fq h2)
theorem Jo{v w:PV}{ys:List D}(h:dW σ v=some xs)(h2:dW σ w=some ys)(hv:∃k,v= .ref k)(h3:autoParam (Nat.ble (xs++ys).length eZ=true) kq):ly .Add v w σ=some (.ok (.ref σ.length),σ++[.list (xs++ys)]):=by refine oE hv λk ez1=> ?_;clear hv;subst ez1;show(dW σ _).bind _=_;rw[h,gQ,h2,gQ];exact cH (fq h3)
theorem wY{i:M PV}{k v:PV}(h:i σ=some (.ok k,σ'))(h2:s7 vs k=some v)(h3:autoParam (Nat.blt vs.length 100=true) kq):E7 i vs σ=some (.ok v,σ'):=by unfold E7;rw[cH (show vs.length<100 from fq h3),eT h,h2];rfl
theorem Ng{y:List Nat}(h:m σ=some (.ok (.d (.str y)),σ')):ES (.d (.str x)) m σ=some (.ok (.d (.int (sX x y))),σ'):=(eT h).trans rfl
theorem BS{op:Operator}{x y z:D}(h:sV op x y=some z):ly op (.d x) (.d y) σ=some (.ok (.d z),σ):=by show(sV op x y).map _=_;rw[h];rfl
theorem WJ{m:M Fl}(h:m σ=some (.exc,σ')):CR m σ=some (.ok (.ret (.d .none)),σ'):=by unfold CR;rw[h]
theorem pz{o:Option α}{a:α}(h:o=some a):lift o σ=some (.ok a,σ):=by subst h;rfl
theorem Fe{m:M α}{f:α->M β}(h:m σ=some (.exc,σ')):bnd m f σ=some (.exc,σ'):=by unfold bnd;rw[h]
theorem qR{m:M Fl}{k:Lo->M Fl}{l:Lo}(h:m σ=some (.ok (.nxt l),σ')):dn m k σ=k l σ':=eT h
theorem Jp{m:M Fl}{k:Lo->M Fl}(h:m σ=some (.exc,σ')):dn m k σ=some (.exc,σ'):=Fe h
theorem qS{m m':M Fl}(h:m σ=m' σ'):i6 m σ=i6 m' σ':=by unfold i6 bnd;rw[h]
theorem zb{m:M Fl}(h:m σ=some (.exc,σ')):i6 m σ=some (.exc,σ'):=Fe h
theorem TH(a:M Fl)(k k':Lo->M Fl):dn (dn a k) k'=dn a λl=>dn (k l) k':=by
 funext σ;unfold dn bnd;cases a σ with
 |none=>rfl
 |some x=>
  obtain⟨r,s⟩:=x;cases r with
  |exc=>rfl
  |ok f=>cases f<;>rfl
theorem rM{K:Nat}(h:mt aa σ=some (.ok false,σ')):fw mt mb mo (K+1) aa σ=mo aa σ':=eT h
theorem Nh{K:Nat}{loc':Lo}{σ1:List MO}(h:mt aa σ=some (.ok true,σ1))(h2:mb aa σ1=some (.ok (.brk loc'),σ')):fw mt mb mo (K+1) aa σ=some (.ok (.nxt loc'),σ'):=(eT h).trans (eT h2)
theorem pA{K:Nat}{loc':Lo}{σ1:List MO}(h:mt aa σ=some (.ok true,σ1))(h2:mb aa σ1=some (.ok (.nxt loc'),σ')):fw mt mb mo (K+1) aa σ=fw mt mb mo K loc' σ':=(eT h).trans (eT h2)
theorem TI{K:Nat}{v:PV}{σ1:List MO}(h:mt aa σ=some (.ok true,σ1))(h2:mb aa σ1=some (.ok (.ret v),σ')):fw mt mb mo (K+1) aa σ=some (.ok (.ret v),σ'):=(eT h).trans (eT h2)
theorem Ni{K:Nat}{σ1:List MO}(h:mt aa σ=some (.ok true,σ1))(h2:mb aa σ1=some (.exc,σ')):fw mt mb mo (K+1) aa σ=some (.exc,σ'):=(eT h).trans (Fe h2)
theorem Sq{m:M Fl}{v:PV}(h:m σ=some (.ok (.ret v),σ')):i6 m σ=some (.ok v,σ'):=eT h
theorem PY{t:M Bool}{a b:M Fl}(h:t σ=some (.ok false,σ')):eS t a b σ=b σ':=eT h
theorem Nj{K:Nat}{loc' l:Lo}{v:PV}(h1:nx i σ=some (some v))(h2:asg aa v=some loc')(h3:mb loc' σ=some (.ok (.nxt l),σ')):kM nx asg mb (K+1) i aa σ=kM nx asg mb K (i+1) l σ':=by simp only[kM,h1,h2];exact eT h3
theorem TJ{K:Nat}{loc':Lo}{v w:PV}(h1:nx i σ=some (some v))(h2:asg aa v=some loc')(h3:mb loc' σ=some (.ok (.ret w),σ')):kM nx asg mb (K+1) i aa σ=some (.ok (.ret w),σ'):=by simp only[kM,h1,h2];exact eT h3
theorem Nk{S:List MO}{L:List D}(h:dW S (.ref i)=some L):gJ (S++[.list []]) .Eq (.ref i) (.ref S.length)=some L.isEmpty:=by show(dW _ _).bind _=_;rw[vJ h,gQ,rL,gQ];cases L<;>rfl
theorem YD{K:Nat}{loc':Lo}{v:PV}(h1:nx i σ=some (some v))(h2:asg aa v=some loc')(h3:mb loc' σ=some (.exc,σ')):kM nx asg mb (K+1) i aa σ=some (.exc,σ'):=by simp only[kM,h1,h2];exact Fe h3
theorem TK{K:Nat}(h1:nx i σ=some none):kM nx asg mb (K+1) i aa σ=some (.ok (.nxt aa),σ):=by simp only[kM,h1];rfl
theorem PZ{K:Nat}{r:Option (R Fl×List MO)}(h:mt aa σ=some (.ok false,σ'))(h2:mo aa σ'=r):fw mt mb mo (K+1) aa σ=r:=(eT h).trans h2
theorem YE{K:Nat}{loc':Lo}{v:PV}(h1:uR (.ref i) 0 σ=some (some v))(h2:asg aa v=some loc')(h3:mb loc' σ=some (.exc,σ')):BL (K+1) asg mb aa (.ref i) σ=some (.exc,σ'):=YD h1 h2 h3
theorem TL{K:Nat}{loc' l:Lo}{v:PV}(h1:uR (.ref i) 0 σ=some (some v))(h2:asg aa v=some loc')(h3:mb loc' σ=some (.ok (.nxt l),σ'))(h4:uR (.ref i) 1 σ'=some none):BL (K+2) asg mb aa (.ref i) σ=some (.ok (.nxt l),σ'):=(Nj h1 h2 h3).trans (TK h4)
theorem Sr{m:M Fl}{fl:Fl}(h:m σ=some (.ok fl,σ')):CR m σ=some (.ok fl,σ'):=by unfold CR;rw[h]
section
open PySem.Calls PySem.Spec PyProof.Rows
section
variable{f:Fm}
noncomputable def Ff{β:Type}:List (Str×β)->Str->Option β
 |[],_=>none
 |p::r,x=>if p.1=x then some p.2 else Ff r x
noncomputable def Hz{β:Type}(P:Str->β->Prop):List (Str×β)->Prop
 |[]=>True
 |p::r=>P p.1 p.2/\Hz P r
theorem vK{P:Str->β->Prop}{x:Str}{v:β}(l:List (Str×β))(h:Hz P l)(e:Ff l x=some v):P x v:=by
 induction l with
 |nil=>exact eC e
 |cons p r ih=>
  have e:(if p.1=x then some p.2 else Ff r x)=some v:=e;by_cases q:p.1=x
  ·rw[cH q]at e;rw[<-q,<-si e];exact h.1
  ·rw[cJ q]at e;exact ih h.2 e
structure ux where
 fns:List (Str×(List PV->M PV))
 gvs:List (Str×PV)
 bis:List (Str×(List PV->M PV))
 ats:List Str
 rs:List PV->M Unit
 W:Nat
 unc:List Nat
structure pC(G:Gl)(n:Nat)(f:Fm)(Γ:ux):Prop where
 hk:f.cs.kind= .function
 fns:Hz (λx sem=>∃a,GF G x a/\fK G n a sem) Γ.fns
 gvs:Hz (λx v=>GV G x v) Γ.gvs
 bis:Hz (λx sem=>∃id,GB G x (.builtin id)/\rF G n f (.builtin id) sem) Γ.bis
 rcls:yU G
 ats:∀x ∈ Γ.ats,findIn G.K (.ref G.rC) x=some none
 mke:∀M,ku M G.h₀ G.fC
 rs:∃a,GF G "refuse_here" a/\jS G n a Γ.rs
noncomputable def Vq:List Str->Str->Option Nat
 |[],_=>none
 |y::r,x=>if y=x then some 0 else(Vq r x).map (· +1)
theorem HD{x:Str}(l:List Str):∀{i:Nat},Vq l x=some i->l[i]? =some x:=by
 induction l with
 |nil=>exactλe=>eC e
 |cons y r ih=>
  intro i e;have e:(if y=x then some 0 else(Vq r x).map (· +1))=some i:=e
  by_cases q:y=x
  ·rw[cH q]at e;rw[<-si e,q];rfl
  ·rw[cJ q]at e;refine eN (fe.mp e) λj e1 e2=> ?_;rw[<-e2];exact ih e1
noncomputable def YF{β:Type}(P:β->Prop):List β->Prop
 |[]=>True
 |p::r=>P p/\YF P r
theorem pD{P:α->Prop}{c:Bool}{a b:α}(h1:c=true->P a)(h2:c=false->P b):P (cond c a b):=by
 cases c
 ·exact h2 rfl
 ·exact h1 rfl
theorem tm{P:α->Prop}{o:Option β}{k:β->α}{d:α}(h1:∀b,o=some b->P (k b))(h2:P d):P (o.elim d k):=by
 cases o
 ·exact h2
 ·exact h1 _ rfl
noncomputable def YG(x:Str):Bool:=x ==("__debug__":Str)
noncomputable def YH:Option NameKind->Bool
 |some .globalImplicit=>true
 |_=>false
def glob(f:Fm)(x:Str):Bool:=YH (f.cs.names.lookup x) && !YG x
theorem CW{x:Str}(h:glob f x=true):f.cs.names.lookup x=some .globalImplicit/\(x ==("__debug__":Str))=false:=by
 unfold glob at h;cases q:YG x
 ·rw[q,Bool.not_false,Bool.and_true]at h;refine⟨?_,q⟩;cases q2:f.cs.names.lookup x with
  |none=>rw[q2]at h;exact mY h
  |some k=>rw[q2]at h;cases k<;>first|rfl|exact mY h
 ·rw[q,Bool.not_true,Bool.and_false]at h;exact mY h
def cN(Γ:ux)(f:Fm)(x:Str)(aa:Lo):M PV:=
 (Vq f.names x).elim (bif glob f x then(Ff Γ.gvs x).elim cU kN else cU) λi=>bif YG x then cU else cG aa i
theorem BU{Γ:ux}(H:pC G n f Γ)(x:Str)(p:Pos)(aa:Lo):dR G n f aa (.Name x p) (cN Γ f x aa):=
 tm (λi e=>pD (λ_=>gS) λq=>vz (HD _ e) q) (pD (λq=>tm (λv e=>oA (CW q) λq1 q2=>WB (vK _ H.gvs e) H.hk q1 q2) gS) λ_=>gS)
def cC:Const->M PV
 | .none=>MU
 | .bool b=>uW b
 | .int i=>cY i
 | .str x=>cW x.cps.toList
 |_=>cU
theorem WK(c:Const)(k:Nat)(p:Pos)(aa:Lo):dR G n f aa (.Constant c k p) (cC c):=by
 cases c with
 |none=>exact Pp
 |bool b=>exact Po
 |int i=>exact wL
 |str x=>exact wW rfl
 |_=>exact gS
abbrev sQ:=cP->Lo->M PV
abbrev Nl:=cP->Lo->M Bool
abbrev Vr:=List Stmt->Lo->M Fl
abbrev EC(G:Gl)(n:Nat)(f:Fm)(E:sQ):Prop:=∀e aa,dR G n f aa e (E e aa)
abbrev Vt(G:Gl)(n:Nat)(f:Fm)(T:Nl):Prop:=∀e aa,uN G n f aa e (T e aa)
abbrev YI(G:Gl)(n:Nat)(f:Fm)(S:Vr):Prop:=∀ss aa,oy G n f aa ss (S ss aa)
noncomputable abbrev Qa(E:sQ)(es:List cP)(aa:Lo):List (M PV):=es.map λe=>E e aa
theorem tn{E:sQ}(hE:EC G n f E)(aa:Lo)(es:List cP):es.any W.isStarred=false->jy G n f aa es (Qa E es aa):=by
 induction es with
 |nil=>exactλ_=> .nil
 |cons e r ih=>
  intro h;rw[lF,Bool.or_eq_false_iff]at h;exact .cons h.1 (hE _ _) (ih h.2)
theorem Nm{T:Nl}(hT:Vt G n f T)(aa:Lo)(es:List cP):BI G n f aa es (es.map λe=>T e aa):=by
 induction es with
 |nil=>exact .nil
 |cons e r ih=>exact .cons (hT _ _) ih
noncomputable def YJ(E:sQ)(aa:Lo):Option cP->Option (M PV)
 |none=>none
 |some e=>some (E e aa)
theorem Nn{E:sQ}(hE:EC G n f E)(aa:Lo)(o:Option cP):Kl G n f aa o (YJ E aa o):=by
 cases o
 ·exact .none
 ·exact .some (hE _ _)
noncomputable def HH:List α->Option α
 |[a]=>some a
 |_=>none
theorem wZ{l:List α}{a:α}(h:HH l=some a):l=[a]:=by
 match l,h with
 |[],h=>exact eC h
 |[b],h=>rw[si h]
 |_::_::_,h=>exact eC h
def cCm(E:sQ)(l:cP)(ops:List CmpOp)(rs:List cP)(aa:Lo):M PV:=
 (HH ops).elim cU λop=>(HH rs).elim cU λr=>bif behindInMarks op r then cU else yZ op (E l aa) (E r aa)
def tCm(E:sQ)(l:cP)(ops:List CmpOp)(rs:List cP)(aa:Lo):M Bool:=
 (HH ops).elim cU λop=>(HH rs).elim cU λr=>bif behindInMarks op r then cU else dz op (E l aa) (E r aa)
theorem TM{E:sQ}(hE:EC G n f E)(l:cP)(ops:List CmpOp)(rs:List cP)(p:Pos)(aa:Lo):dR G n f aa (.Compare l ops rs p) (cCm E l ops rs aa):=
 tm (P:=dR G n f aa (.Compare l ops rs p)) (λop e1=>tm (P:=dR G n f aa (.Compare l ops rs p)) (λr e2=>pD (P:=dR G n f aa (.Compare l ops rs p)) (λ_=>gS) λq=>by rw[wZ e1,wZ e2];exact Tg (hE _ _) (hE _ _) q) gS) gS
theorem TN{E:sQ}(hE:EC G n f E)(l:cP)(ops:List CmpOp)(rs:List cP)(p:Pos)(aa:Lo):uN G n f aa (.Compare l ops rs p) (tCm E l ops rs aa):=
 tm (P:=uN G n f aa (.Compare l ops rs p)) (λop e1=>tm (P:=uN G n f aa (.Compare l ops rs p)) (λr e2=>pD (P:=uN G n f aa (.Compare l ops rs p)) (λ_=>wU) λq=>by rw[wZ e1,wZ e2];exact Th (hE _ _) (hE _ _) q _) wU) wU
inductive V where
 |name (x:Str) (p:Pos)
 |con (c:Const) (k:Nat) (p:Pos)
 |tup (es:List cP) (k:Nat) (p:Pos)
 |lst (es:List cP) (p:Pos)
 |bin (l:cP) (op:Operator) (r:cP) (p:Pos)
 |cmp (l:cP) (ops:List CmpOp) (rs:List cP) (p:Pos)
 |bop (op:BoolOp) (es:List cP) (p:Pos)
 |un (op:UnaryOp) (e:cP) (p:Pos)
 |ife (t a b:cP) (p:Pos)
 |sub (v s:cP) (p:Pos)
 |att (v:cP) (x:Str) (p:Pos)
 |call (f:cP) (es:List cP) (ks:List Keyword) (p:Pos)
 |slc (a b c:Option cP) (p:Pos)
 |oth (e:cP)
noncomputable def V.ex:V->cP
 | .name x p=> .Name x p
 | .con c k p=> .Constant c k p
 | .tup es k p=> .Tuple es k p
 | .lst es p=> .List es p
 | .bin l op r p=> .BinOp l op r p
 | .cmp l ops rs p=> .Compare l ops rs p
 | .bop op es p=> .BoolOp op es p
 | .un op e p=> .UnaryOp op e p
 | .ife t a b p=> .IfExp t a b p
 | .sub v s p=> .Subscript v s p
 | .att v x p=> .Attribute v x p
 | .call f es ks p=> .Call f es ks p
 | .slc a b c p=> .Slice a b c p
 | .oth e=>e
noncomputable def qz:cP->V
 | .Name x p=> .name x p
 | .Constant c k p=> .con c k p
 | .Tuple es k p=> .tup es k p
 | .List es p=> .lst es p
 | .BinOp l op r p=> .bin l op r p
 | .Compare l ops rs p=> .cmp l ops rs p
 | .BoolOp op es p=> .bop op es p
 | .UnaryOp op e p=> .un op e p
 | .IfExp t a b p=> .ife t a b p
 | .Subscript v s p=> .sub v s p
 | .Attribute v x p=> .att v x p
 | .Call f es ks p=> .call f es ks p
 | .Slice a b c p=> .slc a b c p
 |e=> .oth e
theorem oU(e:cP):(qz e).ex=e:=by cases e<;>rfl
theorem No{P:cP->V->Prop}(e:cP)(k:∀v:V,P v.ex v):P e (qz e):=by
 have h:=k (qz e)
 rwa [oU]at h
def Ss(e:cP):Option (Str×Pos):=match qz e with
 | .name x p=>some (x,p)
 |_=>none
theorem w3{x:Str×Pos}(h:Ss e=some x):e= .Name x.1 x.2:=by rw[<-oU e];unfold Ss at h;cases q:qz e<;>rw[q]at h<;>first|exact eC h|exact si h▸rfl
def YK(E:sQ)(v s:cP)(aa:Lo):M PV:=bif qL s then(match qz v with
 | .lst es _=>bif es.any W.isStarred then cU else s9 (Qa E es aa) (E s aa)
 |_=>dP (E v aa) (E s aa))else cU
theorem TO{E:sQ}(hE:EC G n f E)(v s:cP)(p:Pos)(aa:Lo):dR G n f aa (.Subscript v s p) (YK E v s aa):=by
 have h:=oU v;unfold YK;refine pD (P:=dR G n f aa _) (λc=> ?_) λ_=>gS;cases q:qz v with
 |lst es p2=>
  rw[q]at h;exact pD (P:=dR G n f aa _) (λ_=>gS) λq=>h▸PQ (tn hE _ _ q) (hE _ _) c
 |_=>exact TB (hE _ _) (hE _ _) c
def YL(E:sQ)(v s:cP)(aa:Lo):M PV:=match qz s with
 | .slc a b c _=>bif c.isNone then lG (E v aa) (YJ E aa a) (YJ E aa b)else cU
 |_=>YK E v s aa
theorem TP{E:sQ}(hE:EC G n f E)(v s:cP)(p:Pos)(aa:Lo):dR G n f aa (.Subscript v s p) (YL E v s aa):=by
 have h:=oU s;unfold YL;cases q:qz s with
 |slc a b c p2=>
  rw[q]at h;exact pD (P:=dR G n f aa _) (λq=>by rw[<-h,Option.isNone_iff_eq_none.mp q];exact Tp (hE _ _) (Nn hE _ _) (Nn hE _ _)) λ_=>gS
 |_=>exact TO hE v s p aa
noncomputable def Vu(l:List Str)(x:Str):Bool:=match l with
 |[]=>false
 |y::r=>if y=x then true else Vu r x
theorem HI{x:Str}(l:List Str):Vu l x=true->x ∈ l:=by
 induction l with
 |nil=>exactλe=>mY e
 |cons y r ih=>
  intro e;have e:(if y=x then true else Vu r x)=true:=e;by_cases q:y=x
  ·rw[q];exact .head _
  ·rw[cJ q]at e;exact .tail _ (ih e)
def cAt(Γ:ux)(f:Fm)(v:cP)(nm:Str)(aa:Lo):M PV:=(Ss v).elim cU λx=>bif Vu Γ.ats nm then Hr nm.cps.toList (cN Γ f x.1 aa)else cU
theorem TQ{Γ:ux}(H:pC G n f Γ)(v:cP)(nm:Str)(p:Pos)(aa:Lo):dR G n f aa (.Attribute v nm p) (cAt Γ f v nm aa):=
 tm (P:=dR G n f aa _) (λx e=>pD (P:=dR G n f aa _) (λq=>w3 e▸PM H.rcls (H.ats _ (HI _ q)) rfl (BU H _ _ aa)) λ_=>gS) gS
def cMe(Γ:ux)(f:Fm)(E:sQ)(v:cP)(nm:Str)(apos pos:Pos)(es:List cP)(aa:Lo):M PV:=
 bif apos.endLine == pos.line then(Ss v).elim cU (λx=>if nm="append" then(HH es).elim cU (λe=>bif W.isStarred e then cU else jC (cN Γ f x.1 aa) (E e aa))else cU)else cU
theorem TR{Γ:ux}(H:pC G n f Γ){E:sQ}(hE:EC G n f E)(v:cP)(nm:Str)(apos pos:Pos)(es:List cP)(aa:Lo):dR G n f aa (.Call (.Attribute v nm apos) es [] pos) (cMe Γ f E v nm apos pos es aa):=by
 refine pD (P:=dR G n f aa _) (λq=>tm (P:=dR G n f aa _) (λx e=> ?_) gS) λ_=>gS;have e:=w3 e;by_cases c:nm="append"
 ·rw[cH c];exact tm (P:=dR G n f aa _) (λy h=>pD (P:=dR G n f aa _) (λ_=>gS) λq2=>by rw[c,wZ h,e];exact wS q (BU H _ _ aa) q2 (hE _ _)) gS
 ·rw[cJ c];exact gS
def cFn(Γ:ux)(f:Fm)(E:sQ)(x:Str)(es:List cP)(aa:Lo):M PV:=
 bif glob f x then(bif es.any W.isStarred then cU else(Ff Γ.fns x).elim (match es with
  |[]=>cU
  |e::es=>(Ff Γ.bis x).elim cU λsem=>cM sem (Qa E (e::es) aa)) λsem=>cM sem (Qa E es aa))else cU
theorem TS{Γ:ux}(H:pC G n f Γ){E:sQ}(hE:EC G n f E)(x:Str)(xp:Pos)(es:List cP)(pos:Pos)(aa:Lo):dR G n f aa (.Call (.Name x xp) es [] pos) (cFn Γ f E x es aa):=by
 refine pD (P:=dR G n f aa _) (λq=>pD (P:=dR G n f aa _) (λ_=>gS) λq2=> ?_) λ_=>gS;refine oA (CW q) λg1 g2=> ?_;refine tm (P:=dR G n f aa _) (λsem e=>eN (vK _ H.fns e) λa h1 h2=>Jg h1 g1 g2 (tn hE _ _ q2) h2) ?_;cases es with
 |nil=>exact gS
 |cons e es=>exact tm (P:=dR G n f aa _) (λsem e=>eN (vK _ H.bis e) λid h1 h2=>M3 h1 g1 g2 (tn hE _ _ q2) h2) gS
def cCl(Γ:ux)(f:Fm)(E:sQ)(fn:cP)(es:List cP)(ks:List Keyword)(pos:Pos)(aa:Lo):M PV:=
 bif ks.isEmpty then(match qz fn with
  | .name x _=>cFn Γ f E x es aa
  | .att v nm p=>cMe Γ f E v nm p pos es aa
  |_=>cU)else cU
theorem TT{Γ:ux}(H:pC G n f Γ){E:sQ}(hE:EC G n f E)(fn:cP)(es:List cP)(ks:List Keyword)(pos:Pos)(aa:Lo):dR G n f aa (.Call fn es ks pos) (cCl Γ f E fn es ks pos aa):=by
 refine pD (P:=dR G n f aa _) (λq=> ?_) λ_=>gS;rw[List.isEmpty_iff.mp q];have h:=oU fn;cases q:qz fn with
 |name x xp=>rw[q]at h;rw[<-h];exact TS H hE x xp es pos aa
 |att v nm p=>rw[q]at h;rw[<-h];exact TR H hE _ _ _ _ _ _
 |_=>exact gS
def eV(Γ:ux)(f:Fm)(E:sQ)(T:Nl)(aa:Lo):V->M PV
 | .name x _=>cN Γ f x aa
 | .con c _ _=>cC c
 | .tup es _ _=>bif es.any W.isStarred then cU else f7 (Qa E es aa)
 | .lst es _=>bif es.any W.isStarred then cU else m9 (Qa E es aa)
 | .bin l op r _=>d7 op (E l aa) (E r aa)
 | .cmp l ops rs _=>cCm E l ops rs aa
 | .bop op es _=>bif es.any W.isStarred then cU else(match op with
  | .And=>andV (Qa E es aa)
  | .Or=>orV (Qa E es aa))
 | .un op e _=>(match op with
  | .USub=>y0 (E e aa)
  |_=>cU)
 | .ife t a b _=>E5 (T t aa) (E a aa) (E b aa)
 | .sub v s _=>YL E v s aa
 | .att v nm _=>cAt Γ f v nm aa
 | .call fn es ks pos=>cCl Γ f E fn es ks pos aa
 |_=>cU
def Su(Γ:ux)(f:Fm)(E:sQ)(T:Nl)(e:cP)(aa:Lo):M PV:=eV Γ f E T aa (qz e)
theorem Np{Γ:ux}(H:pC G n f Γ){E:sQ}{T:Nl}(hE:EC G n f E)(hT:Vt G n f T):EC G n f (Su Γ f E T):=by
 intro e aa;refine No (P:=λe v=>dR G n f aa e (eV Γ f E T aa v)) e λv=> ?_;cases v with
 |name x p=>exact BU H x p aa
 |con c k p=>exact WK c k p aa
 |tup es k p=>exact pD (P:=dR G n f aa _) (λ_=>gS) λq=>Mj (tn hE _ _ q)
 |lst es p=>exact pD (P:=dR G n f aa _) (λ_=>gS) λq=>To (tn hE _ _ q)
 |bin l op r p=>exact pe (hE _ _) (hE _ _)
 |cmp l ops rs p=>exact TM hE l ops rs p aa
 |bop op es p=>
  refine pD (P:=dR G n f aa _) (λ_=>gS) λq=> ?_;cases op
  ·exact Tl (tn hE _ _ q)
  ·exact Wy (tn hE _ _ q)
 |un op e p=>
  cases op with
  |USub=>exact Tn (hE _ _)
  |_=>exact gS
 |ife t a b p=>exact Tm (hT _ _) (hE _ _) (hE _ _)
 |sub v s p=>exact TP hE v s p aa
 |att v nm p=>exact TQ H v nm p aa
 |call fn es ks p=>exact TT H hE fn es ks p aa
 |_=>exact gS
def tV(E:sQ)(T:Nl)(aa:Lo):V->M Bool
 | .cmp l ops rs _=>tCm E l ops rs aa
 | .bop op es _=>(match op with
  | .And=>uO (es.map λe=>T e aa)
  | .Or=>LI (es.map λe=>T e aa))
 | .un op x _=>(match op with
  | .Not=>Sn (T x aa)
  |_=>cU)
 | .name x p=>sP (E (.Name x p) aa)
 | .con c k p=>sP (E (.Constant c k p) aa)
 | .sub v s p=>sP (E (.Subscript v s p) aa)
 | .att v x p=>sP (E (.Attribute v x p) aa)
 | .call f es ks p=>sP (E (.Call f es ks p) aa)
 |_=>cU
def Sv(E:sQ)(T:Nl)(e:cP)(aa:Lo):M Bool:=tV E T aa (qz e)
theorem Nq{E:sQ}{T:Nl}(hE:EC G n f E)(hT:Vt G n f T):Vt G n f (Sv E T):=by
 intro e aa;refine No (P:=λe v=>uN G n f aa e (tV E T aa v)) e λv=> ?_;cases v with
 |cmp l ops rs p=>exact TN hE l ops rs p aa
 |bop op es p=>
  cases op
  ·exact Tj _ (Nm hT _ _)
  ·exact Wx _ (Nm hT _ _)
 |un op e p=>
  cases op with
  |Not=>exact Ti (hT _ _) _
  |_=>exact wU
 |name x p=>exact pf (hE _ _) λ_=>rfl
 |con c k p=>exact pf (hE _ _) λ_=>rfl
 |sub v s p=>exact pf (hE _ _) λ_=>rfl
 |att v nm p=>exact pf (hE _ _) λ_=>rfl
 |call fn es ks p=>exact pf (hE _ _) λ_=>rfl
 |_=>exact wU
noncomputable def LK(Γ:ux)(f:Fm):Nat->sQ×Nl
 | 0=>(λ_ _=>cU,λ_ _=>cU)
 |k+1=>(Su Γ f (LK Γ f k).1 (LK Γ f k).2,Sv (LK Γ f k).1 (LK Γ f k).2)
theorem CX{Γ:ux}(H:pC G n f Γ)(k:Nat):EC G n f (LK Γ f k).1/\Vt G n f (LK Γ f k).2:=by
 induction k with
 |zero=>exact⟨λ_ _=>gS,λ_ _=>wU⟩
 |succ k ih=>exact⟨Np H ih.1 ih.2,Nq ih.1 ih.2⟩
def uX(e:cP):Bool:=match qz e with
 | .oth _=>false
 |_=>true
theorem qT(h:uX e=true)(t:Option cP)(l:Nat)(env:Env):swapsWith e t l env=pure false:=by have h2:=oU e;unfold uX at h;cases q:qz e<;>rw[q]at h h2<;>rw[<-h2]<;>first|rfl|exact mY h
theorem Fg(h:uX e=true)(env:Env)(x:Value):foldedSetIterable e env x=pure x:=by have h2:=oU e;unfold uX at h;cases q:qz e<;>rw[q]at h h2<;>rw[<-h2]<;>first|rfl|exact mY h
noncomputable def YM(f:Fm):List cP->Option (List Nat)
 |[]=>some []
 |e::r=>(Ss e).bind λx=>(Vq f.names x.1).bind λi=>(YM f r).map (i::·)
theorem TU(ts:List cP):∀{is:List Nat},YM f ts=some is->∃ps,ts=ps.map EV/\yS f ps is:=by
 induction ts with
 |nil=>exactλh=>⟨[],rfl,si h▸trivial⟩
 |cons e r ih=>
  intro is h;refine eN (dL.mp h) λx h1 h=> ?_;refine eN (dL.mp h) λi h2 h=> ?_;refine eN (fe.mp h) λjs h3 h4=> ?_;refine eN (ih h3) λps h5 h6=> ?_;exact⟨x::ps,by rw[w3 h1,h5];rfl,h4▸⟨HD _ h2,h6⟩⟩
structure Ta(α:Type) where
 d:α
 N:Nat->α
 A:Str->List Nat->α
 S:Str->cP->α
 U:List Nat->α
def vTa(Γ:ux)(f:Fm)(t:Ta α):V->α
 | .name x _=>(Vq f.names x).elim t.d t.N
 | .att v nm _=>(Ss v).elim t.d λx=>bif Vu Γ.ats nm then t.A x.1 nm.cps.toList else t.d
 | .sub v i _=>(Ss v).elim t.d λx=>t.S x.1 i
 | .tup ts _ _=>(YM f ts).elim t.d t.U
 |_=>t.d
def Yd(Γ:ux)(f:Fm)(e:cP)(t:Ta α):α:=vTa Γ f t (qz e)
theorem HJ{P:cP->α->Prop}{Γ:ux}(H:pC G n f Γ)(e:cP){t:Ta α}(hd:∀e,P e t.d)(hN:∀i x p,f.names[i]? =some x->P (.Name x p) (t.N i))(hA:∀x xp nm p,findIn G.K (.ref G.rC) nm=some none->P (.Attribute (.Name x xp) nm p) (t.A x nm.cps.toList))
  (hS:∀x xp i p,P (.Subscript (.Name x xp) i p) (t.S x i))(hU:∀ps is k p,yS f ps is->P (.Tuple (ps.map EV) k p) (t.U is)):P e (Yd Γ f e t):=by
 refine No (P:=λe v=>P e (vTa Γ f t v)) e λv=> ?_;cases v with
 |name x p=>exact tm (P:=P _) (λi e=>hN i x p (HD _ e)) (hd _)
 |att v nm p=>exact tm (P:=P _) (λx e=>pD (P:=P _) (λq=>w3 e▸hA _ _ _ _ (H.ats _ (HI _ q))) λ_=>hd _) (hd _)
 |sub v i p=>exact tm (P:=P _) (λx e=>w3 e▸hS _ _ _ _) (hd _)
 |tup ts k p=>exact tm (P:=P _) (λis e=>eN (TU _ e) λps h1 h2=>h1▸hU _ _ _ _ h2) (hd _)
 |_=>exact hd _
def Nr(e:cP):Bool:=match qz e with
 | .tup .. =>false
 | .oth _=>false
 |_=>true
theorem Nt(h:Nr e=true)(ts:List cP)(k:Nat)(p:Pos)(env:Env):swappedStores [.Tuple ts k p] e env=pure none:=by have h2:=oU e;unfold Nr at h;cases q:qz e<;>rw[q]at h h2<;>rw[<-h2]<;>first|rfl|exact mY h
def cAs(Γ:ux)(f:Fm)(E:sQ)(t e:cP)(aa:Lo):M Fl:=bif uX e then Yd Γ f t ⟨cU,λi=>dZ aa i (E e aa),λx nm=>M0 aa nm (E e aa) (cN Γ f x aa),λx i=>Hw aa (E e aa) (cN Γ f x aa) (E i aa),λis=>bif Nr e then Fa aa is (E e aa)else cU⟩else cU
theorem TV{Γ:ux}(H:pC G n f Γ){E:sQ}(hE:EC G n f E)(t e:cP)(p:Pos)(aa:Lo):jB G n f aa (.Assign [t] e p) (cAs Γ f E t e aa):=
 pD (P:=jB G n f aa _) (λq=>HJ (P:=λt m=>jB G n f aa (.Assign [t] e p) m) H t (λ_=>jR) (λi x xp h=>gt h (qT q _ _ _) (hE _ _)) (λx xp nm p h=>PN H.rcls h rfl (qT q _ _ _) (BU H x xp aa) (hE _ _))
  (λx xp i p=>Kt (qT q _ _ _) (BU H x xp aa) (hE _ _) (hE _ _)) λps is k tp h=>pD (P:=jB G n f aa _) (λc=>Ko h (show swapsWith e (some (.Tuple (ps.map EV) k tp)) p.line f.env=pure false from qT q _ _ _) (Nt c _ _ _ _) (hE _ _)) λ_=>jR) λ_=>jR
def cAu(Γ:ux)(f:Fm)(E:sQ)(t:cP)(op:Operator)(e:cP)(aa:Lo):M Fl:=Yd Γ f t ⟨cU,λi=>sp aa i op (E e aa),λx nm=>Hv aa nm op (E e aa) (cN Γ f x aa),λ_ _=>cU,λ_=>cU⟩
theorem TX{Γ:ux}(H:pC G n f Γ){E:sQ}(hE:EC G n f E)(t:cP)(op:Operator)(e:cP)(p:Pos)(aa:Lo):jB G n f aa (.AugAssign t op e p) (cAu Γ f E t op e aa):=
 HJ (P:=λt m=>jB G n f aa (.AugAssign t op e p) m) H t (λ_=>jR) (λi x xp h=>Mu h (hE _ _)) (λx xp nm p h=>PO H.rcls h rfl (BU H x xp aa) (hE _ _)) (λ_ _ _ _=>jR) λ_ _ _ _ _=>jR
def cFo(Γ:ux)(f:Fm)(E:sQ)(S:Vr)(t e:cP)(b o:List Stmt)(aa:Lo):M Fl:=
 bif o.isEmpty && uX e then Yd Γ f t ⟨cU,λi=>BQ Γ.W (qP i) (E e aa) (λl=>S b l) aa,λ_ _=>cU,λ_ _=>cU,λis=>BQ Γ.W (AH is) (E e aa) (λl=>S b l) aa⟩else cU
theorem TY{Γ:ux}(H:pC G n f Γ){E:sQ}(hE:EC G n f E){S:Vr}(hS:YI G n f S)(t e:cP)(b o:List Stmt)(p:Pos)(aa:Lo):jB G n f aa (.For t e b o p) (cFo Γ f E S t e b o aa):=by refine pD (P:=jB G n f aa _) (λq=> ?_) λ_=>jR;rw[ej]at q;rw[List.isEmpty_iff.mp q.1];exact HJ (P:=λt m=>jB G n f aa (.For t e b [] p) m) H t (λ_=>jR) (λi x xp h=>CP _ (Fg q.2 _) (sZ h) (hE _ _) λl=>hS _ _) (λ_ _ _ _ _=>jR) (λ_ _ _ _=>jR) λps is k p h=>CP _ (Fg q.2 _) (BK h) (hE _ _) λl=>hS _ _
def YN(Γ:ux)(f:Fm)(E:sQ)(e:cP)(aa:Lo):M Fl:=match qz e with
 | .call fn es ks _=>(Ss fn).elim cU λx=>bif ks.isEmpty &&(glob f x.1 &&(!es.any W.isStarred && !es.isEmpty))then(if x.1="refuse_here" then CS Γ.rs (Qa E es aa)else cU)else cU
 |_=>cU
theorem TZ{Γ:ux}(H:pC G n f Γ){E:sQ}(hE:EC G n f E)(e:cP)(p:Pos)(aa:Lo):jB G n f aa (.Raise (some e) none p) (YN Γ f E e aa):=by
 have h:=oU e;unfold YN;cases q:qz e with
 |call fn es ks cp=>
  rw[q]at h;rw[<-h];refine tm (P:=jB G n f aa _) (λx h2=>pD (P:=jB G n f aa _) (λc=> ?_) λ_=>jR) jR;rw[ej,ej,ej,Bool.not_eq_true',Bool.not_eq_true']at c;refine S5 c λc1 c2 c3 c4=> ?_;by_cases d:x.1="refuse_here"
  ·rw[cH d];refine oA (CW c2) λg1 g2=> ?_;refine eN H.rs λb h3 h4=> ?_;rw[w3 h2,List.isEmpty_iff.mp c1];exact M5 H.mke (d▸h3) g1 g2 (tn hE _ _ c3) (λz=>by rw[z]at c4;exact Yl c4) h4
  ·rw[cJ d];exact jR
 |_=>exact jR
def Nu(Γ:ux)(f:Fm)(E:sQ)(T:Nl)(S:Vr)(st:Stmt)(aa:Lo):M Fl:=match st with
 | .Assign ts e _=>(HH ts).elim cU λt=>cAs Γ f E t e aa
 | .AugAssign t op e _=>cAu Γ f E t op e aa
 | .If t b o _=>eS (T t aa) (S b aa) (S o aa)
 | .While t b o _=>fw (λl=>T t l) (λl=>S b l) (λl=>S o l) Γ.W aa
 | .For t e b o _=>cFo Γ f E S t e b o aa
 | .Return v _=>(match v with
  |some e=>eJ (E e aa)
  |none=>Ht)
 | .Expr e _=>bif !interactive f.env && uX e then oB aa (E e aa)else cU
 | .Break _=>E9 aa
 | .Raise x c _=>(match x,c with
  |some e,none=>YN Γ f E e aa
  |_,_=>cU)
 |_=>cU
theorem Nv{Γ:ux}(H:pC G n f Γ){E:sQ}{T:Nl}{S:Vr}(hE:EC G n f E)(hT:Vt G n f T)(hS:YI G n f S)(st:Stmt)(aa:Lo):jB G n f aa st (Nu Γ f E T S st aa):=by
 cases st with
 |Assign ts e p=>exact tm (P:=jB G n f aa _) (λt h=>by rw[wZ h];exact TV H hE t e p aa) jR
 |AugAssign t op e p=>exact TX H hE t op e p aa
 |If t b o p=>exact nY (hT _ _) (hS _ _) (hS _ _)
 |While t b o p=>exact vH _ (λl=>hT _ _) (λl=>hS _ _) λl=>hS _ _
 |For t e b o p=>exact TY H hE hS t e b o p aa
 |Return v p=>
  cases v
  ·exact PB
  ·exact uP (hE _ _)
 |Expr e p=>
  refine pD (P:=jB G n f aa _) (λq=> ?_) λ_=>jR;rw[ej]at q;exact CO (hE _ _) (by simpa using q.1) (qT q.2 _ _ _)
 |Break p=>exact Mt
 |Raise x c p=>
  cases x with
  |none=>exact jR
  |some e=>
   cases c
   ·exact TZ H hE e p aa
   ·exact jR
 |_=>exact jR
noncomputable def WL(l:List Nat)(a:Nat):Bool:=match l with
 |[]=>false
 |y::r=>if y=a then true else WL r a
noncomputable def cS(Γ:ux)(f:Fm):Nat->Vr
 | 0,_,_=>cU
 |k+1,ss,aa=>match ss with
  |[]=>dF aa
  |st::r=>bif WL Γ.unc st.pos.line then cU else(match r with
   |[]=>Nu Γ f (LK Γ f k).1 (LK Γ f k).2 (cS Γ f k) st aa
   |st2::r=>dn (Nu Γ f (LK Γ f k).1 (LK Γ f k).2 (cS Γ f k) st aa) λl=>cS Γ f k (st2::r) l)
theorem WM{Γ:ux}(H:pC G n f Γ)(k:Nat):YI G n f (cS Γ f k):=by
 induction k with
 |zero=>exactλ_ _=>wT
 |succ k ih=>
  intro ss aa;have hS:=λst aa=>Nv H (CX H k).1 (CX H k).2 ih st aa;cases ss with
  |nil=>exact ko
  |cons st r=>
   refine pD (P:=oy G n f aa _) (λ_=>wT) λ_=> ?_;cases r with
   |nil=>exact oz (hS _ _)
   |cons st2 r=>exact eh (hS _ _) λl=>ih _ _
end
section
set_option tactic.hygienic true
def YO(i j:Nat):Option Stmt:=PySem.Challenge.pw_xm0009_01.main.body[i]?.bind λs=>(Yn s)[j]?
def Vv(i j:Nat):List Stmt:=(Vk (YO i j)).2.1
def Ku(i j:Nat):Scope:=(Vk (YO i j)).2.2
def T0(i j:Nat):Arguments:=(Vk (YO i j)).1
noncomputable def d9:List Nat:=[116,111,107,101,110,115]
noncomputable def ii:List Nat:=[97,116]
theorem WN:(("at":Str)).cps.toList=ii:=by decide+kernel
noncomputable def gb:List Nat:=[110,101,115,116]
noncomputable def iu:List Nat:=[100,101,101,112]
noncomputable def dX:List Nat:=[112,97,114,115,101,95,101,120,112,114]
noncomputable def ed:List Nat:=[112,97,114,115,101,95,110,97,109,101]
noncomputable def dM:List Nat:=[112,97,114,115,101,95,100,105,115,99,114,101,116,101]
noncomputable def dY:List Nat:=[112,97,114,115,101,95,99,104,111,105,99,101,115]
noncomputable def dH:List Nat:=[112,97,114,115,101,95,100,101,99,108,97,114,97,116,105,111,110,115]
noncomputable def eO:List Nat:=[112,97,114,115,101,95,102,111,114,109,97,108,115]
noncomputable def eB:List Nat:=[112,97,114,115,101,95,115,116,97,116,101,109,101,110,116,115]
noncomputable def fQ:List Nat:=[112,97,114,115,101,95,115,101,113,117,101,110,99,101]
noncomputable def gF:List Nat:=[112,97,114,115,101,95,104,97,110,100,108,101,114,115]
noncomputable def jd:List Nat:=[112,97,114,115,101,95,104,97,110,100,108,101,100]
noncomputable def oV:List Nat:=[112,97,114,115,101,95,105,116,101,109]
noncomputable def hG:List Nat:=[]
noncomputable def i7:List Nat:=[111,112]
noncomputable def jc:List Nat:=[119,111,114,100]
noncomputable def nl:List Nat:=[97,32,115,105,103,110,32,105,115,32,109,105,115,115,105,110,103,58,32]
noncomputable def fk:List Nat:=[110,97,109,101]
noncomputable def w4:List Nat:=[97,32,110,97,109,101,32,105,115,32,109,105,115,115,105,110,103]
noncomputable def vL:List Nat:=[98,114,97,99,107,101,116,115,32,116,111,111,32,100,101,101,112]
noncomputable def f8:List Nat:=[97,110,100]
noncomputable def nn:List Nat:=[116,104,101,110]
noncomputable def eA:List Nat:=[97,110,100,116,104,101,110]
noncomputable def iH:List Nat:=[111,114]
noncomputable def nq:List Nat:=[101,108,115,101]
noncomputable def fg:List Nat:=[111,114,101,108,115,101]
noncomputable def gf:List Nat:=[120,111,114]
noncomputable def iP:List Nat:=[108,111,103,105,99,97,108,32,111,112,101,114,97,116,111,114,115,32,109,105,120,101,100,32,119,105,116,104,111,117,116,32,98,114,97,99,107,101,116,115]
noncomputable def iQ:List Nat:=[98,105,110]
noncomputable def fY:List Nat:=[105,110]
noncomputable def gc:List Nat:=[110,111,116]
noncomputable def fM:List Nat:=[110,111,116,105,110]
noncomputable def pE:List Nat:=[97,32,114,101,108,97,116,105,111,110,32,98,101,104,105,110,100,32,97,32,114,101,108,97,116,105,111,110]
noncomputable def jD:List Nat:=[46,46]
noncomputable def fD:List Nat:=[114,97,110,103,101]
noncomputable def pF:List Nat:=[97,32,114,97,110,103,101,32,111,114,32,97,32,115,117,98,116,121,112,101,32,105,115,32,109,105,115,115,105,110,103]
noncomputable def i8:List Nat:=[43]
noncomputable def iR:List Nat:=[45]
noncomputable def lH:List Nat:=[117,110]
noncomputable def AJ:List Nat:=[38]
noncomputable def AK:List Nat:=[42]
noncomputable def AL:List Nat:=[47]
noncomputable def qg:List Nat:=[109,111,100]
noncomputable def qh:List Nat:=[114,101,109]
noncomputable def ji:List Nat:=[97,98,115]
noncomputable def gC:List Nat:=[42,42]
theorem WO:(("**":Str)).cps.toList=gC:=by decide+kernel
noncomputable def ic:List Nat:=[105,110,116]
noncomputable def uY:List Nat:=[99,104,97,114]
noncomputable def uZ:List Nat:=[114,101,97,108]
noncomputable def iS:List Nat:=[115,116,114,105,110,103]
noncomputable def fT:List Nat:=[40]
noncomputable def AM:List Nat:=[46]
noncomputable def rN:List Nat:=[110,117,108,108]
noncomputable def zc:List Nat:=[110,101,119]
noncomputable def tq:List Nat:=[39]
noncomputable def lI:List Nat:=[111,116,104,101,114,115]
noncomputable def Fh:List Nat:=[115,117,98]
noncomputable def Jq:List Nat:=[124]
noncomputable def BV:List Nat:=[61,62]
noncomputable def Jr:List Nat:=[44]
noncomputable def Fi:List Nat:=[114,101,99,111,114,100]
noncomputable def eY:List Nat:=[41]
noncomputable def pG:List Nat:=[97,32,114,97,110,103,101,32,119,104,101,114,101,32,97,32,118,97,108,117,101,32,105,115,32,119,97,110,116,101,100]
noncomputable def zd:List Nat:=[119,105,116,104]
noncomputable def t7:List Nat:=[112,97,114,101,110]
noncomputable def T1:List Nat:=[65]
theorem YQ:(("A":Str)).cps.toList=T1:=by decide+kernel
noncomputable def WP:List Nat:=[90]
theorem YR:(("Z":Str)).cps.toList=WP:=by decide+kernel
noncomputable def ED:List Nat:=[95]
noncomputable def Nw:List Nat:=[101]
noncomputable def Nx:List Nat:=[35]
noncomputable def Ny:List Nat:=[34]
noncomputable def Js:List Nat:=[10]
noncomputable def qi:List Nat:=[45,45]
noncomputable def pH:List Nat:=[43,45]
noncomputable def eP:List Nat:=[32]
theorem Nz:((" ":Str)).cps.toList=eP:=by decide+kernel
noncomputable def s_0:List Nat:=[48]
noncomputable def vM:List Nat:=[32,46,46,32]
noncomputable def NA:List Nat:=[32,105,110,32]
noncomputable def ze:List Nat:=[32,110,111,116,32,105,110,32]
noncomputable def NB:List Nat:=[97,103,103,114]
noncomputable def Fj:List Nat:=[101,120,116,101,110,100]
noncomputable def t8:List Nat:=[99,101,108,108,115]
theorem NC:(("cells":Str)).cps.toList=t8:=by decide+kernel
noncomputable def kO:List Nat:=[102,117,101,108]
theorem Qb:(("fuel":Str)).cps.toList=kO:=by decide+kernel
noncomputable def Sw:List Nat:=[120]
noncomputable def Sx:List Nat:=[121]
noncomputable def Sy:List Nat:=[122]
noncomputable def zf:List Nat:=[115,105,103,110]
noncomputable def iv:List Nat:=[104,105,103,104]
theorem Qc:(("high":Str)).cps.toList=iv:=by decide+kernel
noncomputable def qU:List Nat:=[109,101,116]
noncomputable def jW:List Nat:=[108,101,97,102]
noncomputable def vN:List Nat:=[97,100,100,101,100]
noncomputable def jj:List Nat:=[115,99,97,108,101,100]
noncomputable def ef:List Nat:=[48,49,50,51,52,53,54,55,56,57,97,98,99,100,101,102]
noncomputable def Fk:List Nat:=[61]
noncomputable def zg:List Nat:=[47,61]
noncomputable def Fo:List Nat:=[60]
noncomputable def zh:List Nat:=[60,61]
noncomputable def Fp:List Nat:=[62]
noncomputable def zi:List Nat:=[62,61]
noncomputable def Sz:List Nat:=[58,61]
noncomputable def SA:List Nat:=[60,60]
noncomputable def SD:List Nat:=[62,62]
noncomputable def SE:List Nat:=[60,62]
noncomputable def vO:List Nat:=[48,49,50,51,52,53,54,55,56,57]
noncomputable def SG:List Nat:=[32,9,13,10,12,11]
noncomputable def Fq:List Nat:=[115,101,108,101,99,116]
noncomputable def Qd:List Nat:=[97,112,112,108,121]
noncomputable def SH:List Nat:=[97,108,108]
noncomputable def T2:List Nat:=[116,105,99,107]
noncomputable def Qe:List Nat:=[97,98,111,114,116]
noncomputable def HN:List Nat:=[97,98,115,116,114,97,99,116]
noncomputable def ND:List Nat:=[97,99,99,101,112,116]
noncomputable def NE:List Nat:=[97,99,99,101,115,115]
noncomputable def Kv:List Nat:=[97,108,105,97,115,101,100]
noncomputable def Qf:List Nat:=[97,114,114,97,121]
noncomputable def Qg:List Nat:=[98,101,103,105,110]
noncomputable def T3:List Nat:=[98,111,100,121]
noncomputable def T4:List Nat:=[99,97,115,101]
noncomputable def HO:List Nat:=[99,111,110,115,116,97,110,116]
noncomputable def Kw:List Nat:=[100,101,99,108,97,114,101]
noncomputable def Qh:List Nat:=[100,101,108,97,121]
noncomputable def Qi:List Nat:=[100,101,108,116,97]
noncomputable def NF:List Nat:=[100,105,103,105,116,115]
noncomputable def YS:List Nat:=[100,111]
noncomputable def Qj:List Nat:=[101,108,115,105,102]
noncomputable def WQ:List Nat:=[101,110,100]
noncomputable def Qk:List Nat:=[101,110,116,114,121]
noncomputable def Fs:List Nat:=[101,120,99,101,112,116,105,111,110]
noncomputable def T5:List Nat:=[101,120,105,116]
noncomputable def WR:List Nat:=[102,111,114]
noncomputable def HQ:List Nat:=[102,117,110,99,116,105,111,110]
noncomputable def Kx:List Nat:=[103,101,110,101,114,105,99]
noncomputable def T6:List Nat:=[103,111,116,111]
noncomputable def YT:List Nat:=[105,102]
noncomputable def YU:List Nat:=[105,115]
noncomputable def Ky:List Nat:=[108,105,109,105,116,101,100]
noncomputable def T7:List Nat:=[108,111,111,112]
noncomputable def YV:List Nat:=[111,102]
noncomputable def WS:List Nat:=[111,117,116]
noncomputable def Kz:List Nat:=[112,97,99,107,97,103,101]
noncomputable def NG:List Nat:=[112,114,97,103,109,97]
noncomputable def KA:List Nat:=[112,114,105,118,97,116,101]
noncomputable def Ft:List Nat:=[112,114,111,99,101,100,117,114,101]
noncomputable def Fu:List Nat:=[112,114,111,116,101,99,116,101,100]
noncomputable def Ql:List Nat:=[114,97,105,115,101]
noncomputable def KB:List Nat:=[114,101,110,97,109,101,115]
noncomputable def KC:List Nat:=[114,101,113,117,101,117,101]
noncomputable def NH:List Nat:=[114,101,116,117,114,110]
noncomputable def KD:List Nat:=[114,101,118,101,114,115,101]
noncomputable def HT:List Nat:=[115,101,112,97,114,97,116,101]
noncomputable def KE:List Nat:=[115,117,98,116,121,112,101]
noncomputable def NI:List Nat:=[116,97,103,103,101,100]
noncomputable def T8:List Nat:=[116,97,115,107]
noncomputable def Fv:List Nat:=[116,101,114,109,105,110,97,116,101]
noncomputable def T9:List Nat:=[116,121,112,101]
noncomputable def Qm:List Nat:=[117,110,116,105,108]
noncomputable def WT:List Nat:=[117,115,101]
noncomputable def Ua:List Nat:=[119,104,101,110]
noncomputable def Qo:List Nat:=[119,104,105,108,101]
noncomputable def zj:List Nat:=[97,110,100,32,116,104,101,110]
noncomputable def BW:List Nat:=[111,114,32,101,108,115,101]
noncomputable def SI:List Nat:=[38,40,41,42,43,44,45,46,47,58,59,60,61,62,124]
noncomputable def kP:List Nat:=[97,98,99,100,101,102,103,104,105,106,107,108,109,110,111,112,113,114,115,116,117,118,119,120,121,122]
theorem tt:(("SyntaxFault":Str) ==("__debug__":Str))=false:=by decide+kernel
theorem CY:(("here_line":Str) ==("__debug__":Str))=false:=by decide+kernel
theorem CZ:(("int":Str) ==("__debug__":Str))=false:=by decide+kernel
theorem uy:(("isinstance":Str) ==("__debug__":Str))=false:=by decide+kernel
theorem NJ:(("level":Str) ==("__debug__":Str))=false:=by decide+kernel
theorem Qp:(("list":Str) ==("__debug__":Str))=false:=by decide+kernel
theorem Ub:(("one":Str) ==("__debug__":Str))=false:=by decide+kernel
theorem Qq:(("part":Str) ==("__debug__":Str))=false:=by decide+kernel
theorem Fw:(("range":Str) ==("__debug__":Str))=false:=by decide+kernel
theorem KF:(("reader":Str) ==("__debug__":Str))=false:=by decide+kernel
theorem Qr:(("text":Str) ==("__debug__":Str))=false:=by decide+kernel
theorem AN:(("tree_parts":Str) ==("__debug__":Str))=false:=by decide+kernel
theorem NK:(("tuple":Str) ==("__debug__":Str))=false:=by decide+kernel
def iM:PV:=(.d (.str ef))
def jx:PV:=(.cd [(gC,(.tup [(.int (5)),(.int (6)),(.int (6))])),(AK,(.tup [(.int (4)),(.int (4)),(.int (5))])),(AL,(.tup [(.int (4)),(.int (4)),(.int (5))])),(qg,(.tup [(.int (4)),(.int (4)),(.int (5))])),(qh,(.tup [(.int (4)),(.int (4)),(.int (5))])),(i8,(.tup [(.int (3)),(.int (3)),(.int (4))])),(iR,(.tup [(.int (3)),(.int (3)),(.int (4))])),(AJ,(.tup [(.int (3)),(.int (3)),(.int (4))])),(Fk,(.tup [(.int (2)),(.int (3)),(.int (3))])),(zg,(.tup [(.int (2)),(.int (3)),(.int (3))])),(Fo,(.tup [(.int (2)),(.int (3)),(.int (3))])),(zh,(.tup [(.int (2)),(.int (3)),(.int (3))])),(Fp,(.tup [(.int (2)),(.int (3)),(.int (3))])),(zi,(.tup [(.int (2)),(.int (3)),(.int (3))]))])
def rO:PV:=(.d (.tup [(.str BV),(.str jD),(.str gC),(.str Sz),(.str zg),(.str zi),(.str zh),(.str SA),(.str SD),(.str SE)]))
def pJ:PV:=(.d (.str vO))
def ke:PV:=(.d (.str ef))
def t9:PV:=(.d (.str SG))
noncomputable def nt:PV:=(.d (.tup [(.int (10)),(.int (2)),(.int (3)),(.int (4)),(.int (5)),(.int (6)),(.int (7)),(.int (8)),(.int (9)),(.int (11)),(.int (12)),(.int (13)),(.int (14)),(.int (15)),(.int (16))]))
noncomputable def gm:PV:=(.d (.int (80)))
noncomputable def oW:PV:=(.d (.int (60)))
noncomputable def pK:PV:=(.d (.int (24)))
noncomputable def qA:PV:=(.d (.int (400)))
def qV:PV:=(.d (.tup [(.str fk),(.str Fq),(.str Qd),(.str SH),(.str T2)]))
noncomputable def lz:PV:=(.d (.int (6)))
def rP:PV:=(.d (.tup [(.str Fk),(.str zg),(.str Fo),(.str zh),(.str Fp),(.str zi)]))
def jl:PV:=(.d (.tup [(.str Qe),(.str ji),(.str HN),(.str ND),(.str NE),(.str Kv),(.str SH),(.str f8),(.str Qf),(.str ii),(.str Qg),(.str T3),(.str T4),(.str HO),(.str Kw),(.str Qh),(.str Qi),(.str NF),(.str YS),(.str nq),(.str Qj),(.str WQ),(.str Qk),(.str Fs),(.str T5),(.str WR),(.str HQ),(.str Kx),(.str T6),(.str YT),(.str fY),(.str YU),(.str Ky),(.str T7),(.str qg),(.str zc),(.str gc),(.str rN),(.str YV),(.str iH),(.str lI),(.str WS),(.str Kz),(.str NG),(.str KA),(.str Ft),(.str Fu),(.str Ql),(.str fD),(.str Fi),(.str qh),(.str KB),(.str KC),(.str NH),(.str KD),(.str Fq),(.str HT),(.str KE),(.str NI),(.str T8),(.str Fv),(.str nn),(.str T9),(.str Qm),(.str WT),(.str Ua),(.str Qo),(.str zd),(.str gf)]))
def kQ:PV:=(.cd [(eA,(.str zj)),(fg,(.str BW))])
def va:PV:=(.d (.str SI))
def nu:PV:=(.d (.str kP))
def eG:PV:=(.cl [(.str i8),(.str iR),(.str AJ)])
def fE:PV:=(.cl [(.str Fk),(.str zg),(.str Fo),(.str zh),(.str Fp),(.str zi)])
def g6:PV:=(.cl [(.str AK),(.str AL),(.str qg),(.str qh)])
noncomputable abbrev dh:Addr:=681
noncomputable abbrev eQ:Addr:=709
noncomputable abbrev fp:Addr:=702
noncomputable abbrev dw:Addr:=688
noncomputable abbrev iI:Addr:=716
noncomputable abbrev eX:Addr:=695
noncomputable abbrev jm:Addr:=372
noncomputable abbrev jK:Addr:=379
noncomputable abbrev ik:Addr:=558
noncomputable abbrev gU:Addr:=225
noncomputable abbrev gV:Addr:=393
noncomputable abbrev iT:Addr:=204
noncomputable abbrev jX:Addr:=218
noncomputable abbrev fF:Addr:=506
noncomputable abbrev gM:Addr:=351
noncomputable abbrev eM:Addr:=309
noncomputable abbrev jY:Addr:=586
noncomputable abbrev fU:Addr:=436
noncomputable abbrev fy:Addr:=443
noncomputable abbrev il:Addr:=235
noncomputable abbrev dO:Addr:=156
noncomputable abbrev eH:Addr:=164
noncomputable abbrev dS:Addr:=551
noncomputable abbrev gg:Addr:=267
noncomputable abbrev fz:Addr:=260
noncomputable abbrev iU:Addr:=407
noncomputable abbrev gN:Addr:=288
noncomputable abbrev jn:Addr:=457
noncomputable abbrev jL:Addr:=330
noncomputable abbrev jo:Addr:=192
noncomputable abbrev jp:Addr:=185
noncomputable abbrev iw:Addr:=478
noncomputable abbrev ix:Addr:=513
noncomputable abbrev kS:Addr:=211
noncomputable abbrev gW:Addr:=365
noncomputable abbrev jq:Addr:=253
noncomputable abbrev gz:Addr:=127
noncomputable abbrev lY:Addr:=471
noncomputable abbrev gh:Addr:=316
noncomputable abbrev iV:Addr:=464
noncomputable abbrev gn:Addr:=148
noncomputable abbrev iD:Addr:=400
noncomputable abbrev g7:Addr:=274
noncomputable abbrev eg:Addr:=281
noncomputable abbrev jZ:Addr:=593
noncomputable abbrev jr:Addr:=579
noncomputable abbrev gG:Addr:=671
noncomputable abbrev iz:Addr:=621
noncomputable abbrev iA:Addr:=572
noncomputable abbrev iK:Addr:=664
noncomputable abbrev jt:Addr:=643
noncomputable abbrev ju:Addr:=657
noncomputable abbrev j0:Addr:=600
noncomputable abbrev dG:Addr:=565
noncomputable abbrev dQ:Addr:=295
noncomputable abbrev f9:Addr:=429
noncomputable abbrev fW:Addr:=171
noncomputable abbrev eK:Addr:=134
noncomputable abbrev g8:Addr:=178
noncomputable abbrev gk:Addr:=302
noncomputable abbrev eU:Addr:=120
noncomputable abbrev kU:Addr:=527
noncomputable abbrev gA:Addr:=199
theorem tv:(iZ 22).names.lookup ("range":Str)=some .globalImplicit:=by decide+kernel
theorem Fx:(iZ 125).names.lookup ("range":Str)=some .globalImplicit:=by decide+kernel
theorem nI:(iZ 123).names.lookup ("int":Str)=some .globalImplicit:=by decide+kernel
theorem qW:(iZ 124).names.lookup ("SyntaxFault":Str)=some .globalImplicit:=by decide+kernel
theorem l7:(iZ 21).names.lookup ("isinstance":Str)=some .globalImplicit:=by decide+kernel
theorem vQ:(iZ 21).names.lookup ("list":Str)=some .globalImplicit:=by decide+kernel
theorem vb:(iZ 21).names.lookup ("tuple":Str)=some .globalImplicit:=by decide+kernel
noncomputable abbrev pa(x:Str)(a:Addr):Str×Addr:=(x,a)
def Uc:List (Str×Addr):=[pa "_law_draw_next" dh,pa "_law_due" eQ,pa "_law_free" fp,pa "_law_grow" dw,pa "_law_heard" iI,pa "_law_word" eX,pa "assoc_here" jm,pa "assoc_row" jK,pa "binding_of" ik,pa "bounded_tree" gU,pa "bracket_tree" gV,pa "check_height" iT,pa "close_nest" jX,pa "delimiter_token" fF,pa "extent_tree" gM,pa "factor_tree" eM,pa "figures_of" jY,pa "is_name_letter" fU,pa "is_name_part" fy,pa "is_reserved" il,pa "is_sign" dO,pa "is_word" eH,pa "logical_sort" dS,pa "logical_tree" gg,pa "logical_word" fz,pa "lone_bracket" iU,pa "member_tree" gN,pa "name_token" jn,pa "name_tree" jL,pa "need_name" jo,pa "need_sign" jp,pa "number_token" iw,pa "one_token" ix,pa "open_nest" kS,pa "parse_choice" gW,pa "parse_expr" jq,pa "peek_token" gz,pa "power_of" lY,pa "primary_tree" gh,pa "read_numeral" iV,pa "refuse_ranges" iD,pa "relation_sign" g7,pa "relation_tree" eg,pa "show_based" jZ,pa "show_chain" jr,pa "show_expr" gG,pa "show_literal" iz,pa "show_logical" iA,pa "show_member" iK,pa "show_named" jt,pa "show_range" ju,pa "show_whole" j0,pa "show_within" dG,pa "simple_tree" dQ,pa "small_sign" f9,pa "take_sign" fW,pa "take_token" eK,pa "take_word" g8,pa "term_tree" gk,pa "token_ahead" eU,pa "tokens_of" kU,pa "tree_parts" gA]
def Ud:List (Str×PV):=[("BASED_FIGURES",iM),("BINDING",jx),("COMPOUNDS",rO),("FIGURES",pJ),("FIGURE_SIGNS",ke),("GAPS",t9),("LITERAL_BASES",nt),("MOST_FIGURES",gm),("MOST_HIGH",oW),("MOST_NESTED",pK),("MOST_POWER",qA),("NAMES",qV),("PRIMARY_LEVEL",lz),("RELATIONS",rP),("RESERVED",jl),("SHORT_WORDS",kQ),("SINGLES",va),("SMALL_LETTERS",nu),("_law_adding",eG),("_law_comparing",fE),("_law_scaling",g6)]
noncomputable def Fy:List Str:=["at","deep","nest","parse_choices","parse_declarations","parse_discrete","parse_expr","parse_formals","parse_handled","parse_handlers","parse_item","parse_name","parse_sequence","parse_statements","tokens"]
structure HG(G:Gl):Prop where
 rcls:yU G
 mke:∀M,ku M G.h₀ G.fC
 sf:G.mg "SyntaxFault"=some (.ref G.fC)
 ats:∀x ∈ Fy,findIn G.K (.ref G.rC) x=some none
 fR:GF G "Reader" G.rC
 fh:GF G "refuse_here" gn
 fs:∀p ∈ Uc,GF G p.1 p.2
 vs:Hz (GV G) Ud
 GW:GB G "int" (.type "int")
 sh:GB G "isinstance" (.builtin "isinstance")
 S3:GB G "len" (.builtin "len")
 O9:GB G "list" (.type "list")
 S4:GB G "max" (.builtin "max")
 EA:GB G "range" (.type "range")
 J9:GB G "tuple" (.type "tuple")
theorem C0{β:Type}{P:Str->β->Prop}:∀{l:List (Str×β)},(∀p ∈ l,P p.1 p.2)->Hz P l
 |[],_=>trivial
 |_::_,h=>⟨h _ (.head _),C0 λp q=>h p (.tail _ q)⟩
theorem HG.f(H:HG G)(x:Str)(e:Ff Uc x=some a):GF G x a:=vK _ (C0 H.fs) e
theorem HG.v(H:HG G)(x:Str){a:PV}(e:Ff Ud x=some a):GV G x a:=vK _ H.vs e
theorem HG.at_(H:HG G)(x:Str)(e:Vu Fy x=true):findIn G.K (.ref G.rC) x=some none:=H.ats _ (HI _ e)
end
section
set_option tactic.hygienic true
def GA(C:Addr->List PV->M PV)(Cf:List PV->M Unit)(Cr:List PV->M PV)(W:Nat)(unc:List Nat):ux:=⟨("Reader",Cr)::Uc.map (λp=>(p.1,C p.2)),Ud,[("len",jQ),("max",Pw)],Fy,Cf,W,unc⟩
theorem NL(H:HG G){Cr:List PV->M PV}(hC:∀a,fK G n a (C a))(hF:jS G n gn Cf)(hR:fK G n G.rC Cr)(W:Nat)(unc:List Nat){f:Fm}(hk:f.cs.kind= .function):pC G n f (GA C Cf Cr W unc):=
 ⟨hk,⟨⟨_,H.fR,hR⟩,C0 λp q=>eN (List.mem_map.mp q) λr h e=>e▸⟨_,H.fs r h,hC _⟩⟩,H.vs,⟨⟨_,H.S3,Mo⟩,⟨_,H.S4,Mp⟩,trivial⟩,H.rcls,H.ats,H.mke,⟨_,H.fh,hF⟩⟩
noncomputable def Ue:List Nat:=[48,72,211,214,219,221,231,236,238,240,243,274,285,294,296,304,320,328,341,392,405,412,414,419,424,435,442,445,450,452,455,483,491,493,507,510,572,575,583,609,630,658,677,679,681,780,783]
theorem Ay(H:HG G){Cr:List PV->M PV}(hC:∀a,fK G n a (C a))(hF:jS G n gn Cf)(hR:fK G n G.rC Cr)(W:Nat){f:Fm}(hk:f.cs.kind= .function){ss:List Stmt}{m:M Fl}(e:cS (GA C Cf Cr W Ue) f 100 ss aa=m):oy G n f aa ss m:=e▸WM (NL H hC hF hR W Ue hk) _ _ _
theorem oJ(H:HG G){Cr:List PV->M PV}(hC:∀a,fK G n a (C a))(hF:jS G n gn Cf)(hR:fK G n G.rC Cr)(W:Nat){f:Fm}(hk:f.cs.kind= .function){ss:cP}(e:(LK (GA C Cf Cr W []) f 100).1 ss aa=m):dR G n f aa ss m:=e▸(CX (NL H hC hF hR W [] hk) _).1 _ _
theorem GY(H:HG G){Cr:List PV->M PV}(hC:∀a,fK G n a (C a))(hF:jS G n gn Cf)(hR:fK G n G.rC Cr)(W:Nat){f:Fm}(hk:f.cs.kind= .function){ss:cP}{m:M Bool}(e:(LK (GA C Cf Cr W []) f 100).2 ss aa=m):uN G n f aa ss m:=e▸(CX (NL H hC hF hR W [] hk) _).2 _ _
abbrev Md:=(Addr->List PV->M PV)->(List PV->M Unit)->(List PV->M PV)->Nat->Lo->M Fl
abbrev Nd:=(Addr->List PV->M PV)->(List PV->M Unit)->(List PV->M PV)->Nat->Lo->Cm Fl
abbrev Ok(nm:Str)(sc:Scope)(ps more:List Str)(b:List Stmt)(m:Md):Prop:=∀{G:Gl}(_:HG G){n:Nat}{C:Addr->List PV->M PV}{Cf:List PV->M Unit}{Cr:List PV->M PV}(_:∀a,fK G n a (C a))(_:jS G n gn Cf)(_:fK G n G.rC Cr)(W:Nat)(aa:Lo)(L a:Addr)(cd:Value),oy G n ⟨nm,sc,L,a,cd,ps++more⟩ aa b (m C Cf Cr W aa)
theorem oS{nm:Str}{b:List Stmt}{m:Md}(hk:autoParam (sc.kind= .function) kr)(e:autoParam ((λC Cf Cr W aa (L a:Addr) (cd:Value)=>cS (GA C Cf Cr W Ue) ⟨nm,sc,L,a,cd,ps++more⟩ 100 b aa)=λC Cf Cr W aa L a cd=>m C Cf Cr W aa) kr):Ok nm sc ps more b m:=
 λH _ _ _ _ hC hF hR W aa L a cd=>Ay H hC hF hR W hk (congrFun (congrFun (congrFun (congrFun (congrFun (congrFun (congrFun (congrFun e _) _) _) _) _) _) _) _)
variable{Cr:List PV->M PV}{W:Nat}
def sr:Nd:=λC Cf Cr W aa=>(.seq (jT aa d9 (cF aa 1) (cF aa 0)) λaa=>(.seq (jT aa ii (cF aa 2) (cF aa 0)) λaa=>(.seq (jT aa gb (cL 0) (cF aa 0)) λaa=>(.seq (jT aa iu (cL 0) (cF aa 0)) λaa=>(.seq (jT aa dX mz (cF aa 0)) λaa=>(.seq (jT aa ed mz (cF aa 0)) λaa=>(.seq (jT aa dM mz (cF aa 0)) λaa=>(.seq (jT aa dY mz (cF aa 0)) λaa=>(.seq (jT aa dH mz (cF aa 0)) λaa=>(.seq (jT aa eO mz (cF aa 0)) λaa=>(.seq (jT aa eB mz (cF aa 0)) λaa=>(.seq (jT aa fQ mz (cF aa 0)) λaa=>(.seq (jT aa gF mz (cF aa 0)) λaa=>(.seq (jT aa jd mz (cF aa 0)) λaa=>(jT aa oV mz (cF aa 0))))))))))))))))
def kf:Md:=λC Cf Cr W aa=>fG (sr C Cf Cr W aa)
theorem xR:kf C Cf Cr W aa=fG (sr C Cf Cr W aa):=rfl
theorem xS:Ok "Reader.__init__" (Ku 6 0) ["self","tokens","at"] [] (Vv 6 0) kf:=oS
def uz:Nd:=λC Cf Cr W aa=>(.seq (dA aa 2 (dT .Add (tf ii (cF aa 0)) (cF aa 1))) λaa=>(.seq (dm (cV .Lt (cF aa 2) (cI jQ [(tf d9 (cF aa 0))])) (df (dr (tf d9 (cF aa 0)) (cF aa 2))) (cZ aa)) λaa=>(.seq (dm (cV .Eq (tf d9 (cF aa 0)) (mA [])) (.ask cU) (cZ aa)) λaa=>(df (eo [(cK hG),(cK hG),(dr (dr (tf d9 (cF aa 0)) (M9 (cL 1))) (cL 2))])))))
def lJ:Md:=λC Cf Cr W aa=>fG (uz C Cf Cr W aa)
theorem uA:lJ C Cf Cr W aa=fG (uz C Cf Cr W aa):=rfl
theorem AO:Ok "token_ahead" (iZ 7) ["reader","ahead"] ["spot"] (bd 7) lJ:=oS
def vR:Nd:=λC Cf Cr W aa=>(df (cI (C eU) [(cF aa 0),(cL 0)]))
def mC:Md:=λC Cf Cr W aa=>fG (vR C Cf Cr W aa)
theorem C1:mC C Cf Cr W aa=fG (vR C Cf Cr W aa):=rfl
theorem C2:Ok "peek_token" (iZ 8) ["reader"] [] (bd 8) mC:=oS
def vS:Nd:=λC Cf Cr W aa=>(.seq (dA aa 1 (cI (C eU) [(cF aa 0),(cL 0)])) λaa=>(.seq (nH aa ii .Add (cL 1) (cF aa 0)) λaa=>(df (cF aa 1))))
def mD:Md:=λC Cf Cr W aa=>fG (vS C Cf Cr W aa)
theorem C3:mD C Cf Cr W aa=fG (vS C Cf Cr W aa):=rfl
theorem C4:Ok "take_token" (iZ 9) ["reader"] ["token"] (bd 9) mD:=oS
def xx:Nd:=λC Cf Cr W aa=>(df (dr (cI (C eU) [(cF aa 0),(cL 0)]) (cL 2)))
def n4:Md:=λC Cf Cr W aa=>fG (xx C Cf Cr W aa)
theorem Fz:n4 C Cf Cr W aa=fG (xx C Cf Cr W aa):=rfl
theorem FA:Ok "here_line" (iZ 10) ["reader"] [] (bd 10) n4:=oS
def BX:Nd:=λC Cf Cr W aa=>(df (pi .Eq (oI (cI (C eU) [(cF aa 0),(cF aa 2)]) none (some (cL 2))) (eo [(cK i7),(cF aa 1)])))
def qX:Md:=λC Cf Cr W aa=>fG (BX C Cf Cr W aa)
theorem KG:qX C Cf Cr W aa=fG (BX C Cf Cr W aa):=rfl
theorem KH:Ok "is_sign" (iZ 12) ["reader","sign","ahead"] [] (bd 12) qX:=oS
def BY:Nd:=λC Cf Cr W aa=>(df (pi .Eq (oI (cI (C eU) [(cF aa 0),(cF aa 2)]) none (some (cL 2))) (eo [(cK jc),(cF aa 1)])))
def qY:Md:=λC Cf Cr W aa=>fG (BY C Cf Cr W aa)
theorem BZ:qY C Cf Cr W aa=fG (BY C Cf Cr W aa):=rfl
theorem KI:Ok "is_word" (iZ 13) ["reader","word","ahead"] [] (bd 13) qY:=oS
def xy:Nd:=λC Cf Cr W aa=>(.seq (dm (oC (gv (cI (C dO) [(cF aa 0),(cF aa 1)]))) (df (y8 false)) (cZ aa)) λaa=>(.seq (nH aa ii .Add (cL 1) (cF aa 0)) λaa=>(df (y8 true))))
def n5:Md:=λC Cf Cr W aa=>fG (xy C Cf Cr W aa)
theorem xz:n5 C Cf Cr W aa=fG (xy C Cf Cr W aa):=rfl
theorem FB:Ok "take_sign" (iZ 14) ["reader","sign"] [] (bd 14) n5:=oS
def xA:Nd:=λC Cf Cr W aa=>(.seq (dm (oC (gv (cI (C eH) [(cF aa 0),(cF aa 1)]))) (df (y8 false)) (cZ aa)) λaa=>(.ask cU))
def n6:Md:=λC Cf Cr W aa=>fG (xA C Cf Cr W aa)
theorem FC:n6 C Cf Cr W aa=fG (xA C Cf Cr W aa):=rfl
theorem FD:Ok "take_word" (iZ 15) ["reader","word"] [] (bd 15) n6:=oS
def xB:Nd:=λC Cf Cr W aa=>(dm (oC (gv (cI (C fW) [(cF aa 0),(cF aa 1)]))) (n3 Cf [(cF aa 0),(dT .Add (cK nl) (cF aa 1))]) (cZ aa))
def n7:Md:=λC Cf Cr W aa=>fG (xB C Cf Cr W aa)
theorem xC:n7 C Cf Cr W aa=fG (xB C Cf Cr W aa):=rfl
theorem FE:Ok "need_sign" (iZ 16) ["reader","sign"] [] (bd 16) n7:=oS
def xD:Nd:=λC Cf Cr W aa=>(.seq (dm (cV .NotEq (dr (cI (C gz) [(cF aa 0)]) (cL 0)) (cK fk)) (n3 Cf [(cF aa 0),(cK w4)]) (cZ aa)) λaa=>(df (dr (cI (C eK) [(cF aa 0)]) (cL 1))))
def n8:Md:=λC Cf Cr W aa=>fG (xD C Cf Cr W aa)
theorem n9:n8 C Cf Cr W aa=fG (xD C Cf Cr W aa):=rfl
theorem FF:Ok "need_name" (iZ 17) ["reader"] [] (bd 17) n8:=oS
def C5:Nd:=λC Cf Cr W aa=>(.seq (dA aa 1 (mA [])) λaa=>(.seq (Hy W (qP 2) (oI (cF aa 0) (some (cL 1)) none) (λaa=>(dm (gv (Jm "tuple" (cF aa 2))) (mB aa (tg (cF aa 1) (cF aa 2))) (dm (gv (Jm "list" (cF aa 2))) (.ask cU) (cZ aa)))) aa) λaa=>(df (cF aa 1))))
def mE:Md:=λC Cf Cr W aa=>(dn (dZ aa 1 (m9 [])) λaa=>(dn (BQ W (qP 2) (lG (cG aa 0) (some (cY 1)) none) (λaa=>(eS (sP (MY "tuple" (cG aa 2))) (oB aa (jC (cG aa 1) (cG aa 2))) (eS (sP (MY "list" (cG aa 2))) cU (dF aa)))) aa) λaa=>(eJ (cG aa 1))))
theorem C6:mE C Cf Cr W aa=fG (C5 C Cf Cr W aa):=rfl
theorem C7:Ok "tree_parts" (iZ 21) ["tree"] ["parts","part","one"] (bd 21) mE:=λH _ _ _ _ hC hF hR W aa L a cd=>
 (eh (gt (i:=1) rfl rfl (oJ H hC hF hR W rfl (by rfl'))) λaa=>(eh (CP W (λ_=>rfl) (sZ (i:=2) rfl) (oJ H hC hF hR W rfl (by rfl')) (λaa=>(oz (nY (pf (M4 H.sh l7 uy H.J9 vb NK (by simp) rfl (oJ H hC hF hR W rfl (by rfl'))) (λ_=>rfl)) (Ay H hC hF hR W rfl (by rfl')) (oz (nY (pf (M4 H.sh l7 uy H.O9 vQ Qp (by simp) rfl (oJ H hC hF hR W rfl (by rfl'))) (λ_=>rfl)) wT ko)))))) λaa=>(Ay H hC hF hR W rfl (by rfl'))))
def kW:Md:=λC Cf Cr W aa=>(dn (dZ aa 2 (m9 [(cG aa 1)])) λaa=>(dn (Fb W (qP 3) (kN oW) (λaa=>(dn (M2 W 2 aa (C gA) (cG aa 2)) λaa=>(eS (dz .Eq (cG aa 2) (m9 [])) Ht (dF aa)))) aa) λaa=>cU))
theorem zk:Ok "check_height" (iZ 22) ["reader","tree"] ["level","turn"] (bd 22) kW:=λH _ _ _ _ hC hF hR W aa L a cd=>
 (eh (gt (i:=2) rfl rfl (oJ H hC hF hR W rfl (by rfl'))) λaa=>(eh (Fc W H.EA tv Fw rfl (λ_=>rfl) (sZ (i:=3) rfl) (oJ H hC hF hR W rfl (by rfl')) (λaa=>(eh (PK W W (iy:=2) rfl (vz (i:=2) rfl NJ) (by rfl) rfl rfl Ub rfl Qq (by decide) (by decide) (by decide) rfl AN (H.f "tree_parts" (by rfl')).mg (H.f "tree_parts" (by rfl')).keep (hC _)) λaa=>(Ay H hC hF hR W rfl (by rfl'))))) λaa=>wT))
def xE:Nd:=λC Cf Cr W aa=>(.seq (nH aa gb .Add (cL 1) (cF aa 0)) λaa=>(dm (cV .Gt (tf gb (cF aa 0)) (lX pK)) (n3 Cf [(cF aa 0),(cK vL)]) (cZ aa)))
def oa:Md:=λC Cf Cr W aa=>fG (xE C Cf Cr W aa)
theorem xF:oa C Cf Cr W aa=fG (xE C Cf Cr W aa):=rfl
theorem FG:Ok "open_nest" (iZ 23) ["reader"] [] (bd 23) oa:=oS
def vT:Nd:=λC Cf Cr W aa=>(nH aa gb .Sub (cL 1) (cF aa 0))
def mF:Md:=λC Cf Cr W aa=>fG (vT C Cf Cr W aa)
theorem C8:mF C Cf Cr W aa=fG (vT C Cf Cr W aa):=rfl
theorem C9:Ok "close_nest" (iZ 24) ["reader"] [] (bd 24) mF:=oS
def tw:Nd:=λC Cf Cr W aa=>(.seq (dm (cV .Eq (tf gb (cF aa 0)) (cL 0)) (mB aa (cI (C iT) [(cF aa 0),(cF aa 1)])) (cZ aa)) λaa=>(df (cF aa 1)))
def kX:Md:=λC Cf Cr W aa=>fG (tw C Cf Cr W aa)
theorem tz:kX C Cf Cr W aa=fG (tw C Cf Cr W aa):=rfl
theorem zl:Ok "bounded_tree" (iZ 25) ["reader","tree"] [] (bd 25) kX:=oS
def uB:Nd:=λC Cf Cr W aa=>(df (pi .In (cF aa 0) (lX jl)))
def lK:Md:=λC Cf Cr W aa=>fG (uB C Cf Cr W aa)
theorem AP:lK C Cf Cr W aa=fG (uB C Cf Cr W aa):=rfl
theorem AQ:Ok "is_reserved" (iZ 30) ["word"] [] (bd 30) lK:=oS
def vU:Nd:=λC Cf Cr W aa=>(df (cI (C gU) [(cF aa 0),(cI (C gg) [(cF aa 0),(cI (C eg) [(cF aa 0),(cI (C dQ) [(cF aa 0)])])])]))
def mG:Md:=λC Cf Cr W aa=>fG (vU C Cf Cr W aa)
theorem oX:mG C Cf Cr W aa=fG (vU C Cf Cr W aa):=rfl
theorem Da:Ok "parse_expr" (iZ 37) ["reader"] [] (bd 37) mG:=oS
def tA:Nd:=λC Cf Cr W aa=>(.seq (dm (gv (cI (C eH) [(cF aa 0),(cK f8)])) (df (sq (gv (cI (C eH) [(cF aa 0),(cK nn),(cL 1)])) (eo [(cK eA),(cL 2)]) (eo [(cK f8),(cL 1)]))) (cZ aa)) λaa=>(.seq (dm (gv (cI (C eH) [(cF aa 0),(cK iH)])) (df (sq (gv (cI (C eH) [(cF aa 0),(cK nq),(cL 1)])) (eo [(cK fg),(cL 2)]) (eo [(cK iH),(cL 1)]))) (cZ aa)) λaa=>(.seq (dm (gv (cI (C eH) [(cF aa 0),(cK gf)])) (df (eo [(cK gf),(cL 1)])) (cZ aa)) λaa=>(df (eo [(cK hG),(cL 0)])))))
def kY:Md:=λC Cf Cr W aa=>fG (tA C Cf Cr W aa)
theorem pL:kY C Cf Cr W aa=fG (tA C Cf Cr W aa):=rfl
theorem zm:Ok "logical_word" (iZ 38) ["reader"] [] (bd 38) kY:=oS
def zn:Nd:=λC Cf Cr W aa=>(.seq (dA aa 2 (dr (cI (C fz) [(cF aa 0)]) (cL 0))) λaa=>(pq (λaa=>(gv (y8 true))) (λaa=>(.seq (th aa [3,4] (cI (C fz) [(cF aa 0)])) λaa=>(.seq (dm (cV .Eq (cF aa 3) (cK hG)) (df (cF aa 1)) (cZ aa)) λaa=>(.seq (dm (cV .NotEq (cF aa 3) (cF aa 2)) (n3 Cf [(cF aa 0),(cK iP)]) (cZ aa)) λaa=>(.seq (nH aa ii .Add (cF aa 4) (cF aa 0)) λaa=>(.seq (dA aa 5 (cI (C eg) [(cF aa 0),(cI (C dQ) [(cF aa 0)])])) λaa=>(dm (cV .Eq (cF aa 4) (cL 2)) (dA aa 1 (eo [(cF aa 3),(cF aa 1),(cF aa 5)])) (dA aa 1 (eo [(cK iQ),(cF aa 3),(cF aa 1),(cF aa 5)]))))))))) (λaa=>(cZ aa)) W aa))
def kZ:Md:=λC Cf Cr W aa=>fG (zn C Cf Cr W aa)
theorem zo:Ok "logical_tree" (iZ 39) ["reader","tree"] ["sort","word","size","right"] (bd 39) kZ:=oS
def su:Nd:=λC Cf Cr W aa=>(.seq (dA aa 1 (cI (C gz) [(cF aa 0)])) λaa=>(.seq (dm (jb [(cV .Eq (dr (cF aa 1) (cL 0)) (cK i7)),(cV .In (dr (cF aa 1) (cL 1)) (lX rP))]) (df (dr (cF aa 1) (cL 1))) (cZ aa)) λaa=>(df (cK hG))))
def kg:Md:=λC Cf Cr W aa=>fG (su C Cf Cr W aa)
theorem je:kg C Cf Cr W aa=fG (su C Cf Cr W aa):=rfl
theorem xT:Ok "relation_sign" (iZ 40) ["reader"] ["token"] (bd 40) kg:=oS
def sv:Nd:=λC Cf Cr W aa=>(.seq (dA aa 2 (cI (C g7) [(cF aa 0)])) λaa=>(.seq (dm (cV .NotEq (cF aa 2) (cK hG)) (.seq (nH aa ii .Add (cL 1) (cF aa 0)) λaa=>(dA aa 1 (eo [(cK iQ),(cF aa 2),(cF aa 1),(cI (C dQ) [(cF aa 0)])]))) (dm (gv (cI (C eH) [(cF aa 0),(cK fY)])) (.seq (nH aa ii .Add (cL 1) (cF aa 0)) λaa=>(dA aa 1 (eo [(cK fY),(cF aa 1),(cI (C gN) [(cF aa 0)])]))) (dm (jb [(gv (cI (C eH) [(cF aa 0),(cK gc)])),(gv (cI (C eH) [(cF aa 0),(cK fY),(cL 1)]))]) (.seq (nH aa ii .Add (cL 2) (cF aa 0)) λaa=>(dA aa 1 (eo [(cK fM),(cF aa 1),(cI (C gN) [(cF aa 0)])]))) (df (cF aa 1))))) λaa=>(.seq (dm (cV .NotEq (cI (C g7) [(cF aa 0)]) (cK hG)) (n3 Cf [(cF aa 0),(cK pE)]) (cZ aa)) λaa=>(df (cF aa 1)))))
def kh:Md:=λC Cf Cr W aa=>fG (sv C Cf Cr W aa)
theorem fO:kh C Cf Cr W aa=fG (sv C Cf Cr W aa):=rfl
theorem xU:Ok "relation_tree" (iZ 41) ["reader","tree"] ["sign"] (bd 41) kh:=oS
def uC:Nd:=λC Cf Cr W aa=>(.seq (dA aa 1 (cI (C dQ) [(cF aa 0)])) λaa=>(.seq (dm (gv (cI (C fW) [(cF aa 0),(cK jD)])) (df (eo [(cK fD),(cF aa 1),(cI (C dQ) [(cF aa 0)])])) (cZ aa)) λaa=>(.seq (dm (cV .NotIn (dr (cF aa 1) (cL 0)) (lX qV)) (n3 Cf [(cF aa 0),(cK pF)]) (cZ aa)) λaa=>(df (cF aa 1)))))
def lL:Md:=λC Cf Cr W aa=>fG (uC C Cf Cr W aa)
theorem lM:lL C Cf Cr W aa=fG (uC C Cf Cr W aa):=rfl
theorem AR:Ok "member_tree" (iZ 42) ["reader"] ["tree"] (bd 42) lL:=oS
def lN:Md:=λC Cf Cr W aa=>(dn (dZ aa 1 (cW hG)) λaa=>(dn (eS (LI [(sP (cM (C dO) [(cG aa 0),(cW i8)])),(sP (cM (C dO) [(cG aa 0),(cW iR)]))]) (dZ aa 1 (dP (cM (C eK) [(cG aa 0)]) (cY 1))) (dF aa)) λaa=>(dn (dZ aa 2 (cM (C gk) [(cG aa 0)])) λaa=>(dn (eS (dz .NotEq (cG aa 1) (cW hG)) (dZ aa 2 (f7 [(cW lH),(cG aa 1),(cG aa 2)])) (dF aa)) λaa=>(dn (fw (λaa=>(LI [(sP (cM (C dO) [(cG aa 0),(cW i8)])),(sP (cM (C dO) [(cG aa 0),(cW iR)])),(sP (cM (C dO) [(cG aa 0),(cW AJ)]))])) (λaa=>(dn (dZ aa 1 (dP (cM (C eK) [(cG aa 0)]) (cY 1))) λaa=>(dZ aa 2 (f7 [(cW iQ),(cG aa 1),(cG aa 2),(cM (C gk) [(cG aa 0)])])))) (λaa=>(dF aa)) W aa) λaa=>(eJ (cG aa 2)))))))
theorem AS:Ok "simple_tree" (iZ 43) ["reader"] ["sign","tree"] (bd 43) lN:=oS
def FH:Nd:=λC Cf Cr W aa=>(.seq (dA aa 1 (cI (C eM) [(cF aa 0)])) λaa=>(.seq (pq (λaa=>(pj [(gv (cI (C dO) [(cF aa 0),(cK AK)])),(gv (cI (C dO) [(cF aa 0),(cK AL)])),(gv (cI (C eH) [(cF aa 0),(cK qg)])),(gv (cI (C eH) [(cF aa 0),(cK qh)]))])) (λaa=>(.seq (dA aa 2 (dr (cI (C eK) [(cF aa 0)]) (cL 1))) λaa=>(dA aa 1 (eo [(cK iQ),(cF aa 2),(cF aa 1),(cI (C eM) [(cF aa 0)])])))) (λaa=>(cZ aa)) W aa) λaa=>(df (cF aa 1))))
def og:Md:=λC Cf Cr W aa=>fG (FH C Cf Cr W aa)
theorem FI:Ok "term_tree" (iZ 44) ["reader"] ["tree","sign"] (bd 44) og:=oS
def uD:Nd:=λC Cf Cr W aa=>(.seq (dm (pj [(gv (cI (C eH) [(cF aa 0),(cK ji)])),(gv (cI (C eH) [(cF aa 0),(cK gc)]))]) (.seq (dA aa 2 (dr (cI (C eK) [(cF aa 0)]) (cL 1))) λaa=>(df (eo [(cK lH),(cF aa 2),(cI (C gh) [(cF aa 0)])]))) (cZ aa)) λaa=>(.seq (dA aa 1 (cI (C gh) [(cF aa 0)])) λaa=>(.seq (dm (gv (cI (C fW) [(cF aa 0),(cK gC)])) (dA aa 1 (eo [(cK iQ),(cK gC),(cF aa 1),(cI (C gh) [(cF aa 0)])])) (cZ aa)) λaa=>(df (cF aa 1)))))
def lO:Md:=λC Cf Cr W aa=>fG (uD C Cf Cr W aa)
theorem iL:lO C Cf Cr W aa=fG (uD C Cf Cr W aa):=rfl
theorem AT:Ok "factor_tree" (iZ 45) ["reader"] ["tree","word"] (bd 45) lO:=oS
def tC:Nd:=λC Cf Cr W aa=>(.seq (th aa [1,2,3] (cI (C gz) [(cF aa 0)])) λaa=>(.seq (dm (pj [(cV .Eq (cF aa 1) (cK ic)),(cV .Eq (cF aa 1) (cK uY))]) (.seq (nH aa ii .Add (cL 1) (cF aa 0)) λaa=>(df (eo [(cF aa 1),(cF aa 2)]))) (cZ aa)) λaa=>(.seq (dm (cV .Eq (cF aa 1) (cK uZ)) (.ask cU) (cZ aa)) λaa=>(.seq (dm (jb [(cV .Eq (cF aa 1) (cK iS)),(oC (gv (cI (C dO) [(cF aa 0),(cK fT),(cL 1)]))),(oC (gv (cI (C dO) [(cF aa 0),(cK AM),(cL 1)])))]) (.ask cU) (cZ aa)) λaa=>(.seq (dm (jb [(cV .Eq (cF aa 1) (cK i7)),(cV .Eq (cF aa 2) (cK fT))]) (df (cI (C gV) [(cF aa 0)])) (cZ aa)) λaa=>(.seq (dm (gv (cI (C g8) [(cF aa 0),(cK rN)])) (.ask cU) (cZ aa)) λaa=>(.seq (dm (gv (cI (C g8) [(cF aa 0),(cK zc)])) (.ask cU) (cZ aa)) λaa=>(df (cI (C jL) [(cF aa 0)])))))))))
def jE:Md:=λC Cf Cr W aa=>fG (tC C Cf Cr W aa)
theorem jF:jE C Cf Cr W aa=fG (tC C Cf Cr W aa):=rfl
theorem zp:Ok "primary_tree" (iZ 46) ["reader"] ["kind","value","line"] (bd 46) jE:=oS
def FJ:Nd:=λC Cf Cr W aa=>(.seq (dm (cV .Eq (dr (cI (C gz) [(cF aa 0)]) (cL 0)) (cK iS)) (.ask cU) (dA aa 1 (eo [(cK fk),(cI (C jo) [(cF aa 0)])]))) λaa=>(pq (λaa=>(gv (y8 true))) (λaa=>(dm (gv (cI (C fW) [(cF aa 0),(cK AM)])) (.ask cU) (dm (gv (cI (C dO) [(cF aa 0),(cK fT)])) (.ask cU) (dm (jb [(gv (cI (C dO) [(cF aa 0),(cK tq)])),(gv (cI (C dO) [(cF aa 0),(cK fT),(cL 1)]))]) (.ask cU) (dm (gv (cI (C fW) [(cF aa 0),(cK tq)])) (.ask cU) (df (cF aa 1))))))) (λaa=>(cZ aa)) W aa))
def oh:Md:=λC Cf Cr W aa=>(dn (eS (dz .Eq (dP (cM (C gz) [(cG aa 0)]) (cY 0)) (cW iS)) cU (dZ aa 1 (f7 [(cW fk),(cM (C jo) [(cG aa 0)])]))) λaa=>(fw (λaa=>(sP (uW true))) (λaa=>(eS (sP (cM (C fW) [(cG aa 0),(cW AM)])) cU (eS (sP (cM (C dO) [(cG aa 0),(cW fT)])) cU (eS (uO [(sP (cM (C dO) [(cG aa 0),(cW tq)])),(sP (cM (C dO) [(cG aa 0),(cW fT),(cY 1)]))]) cU (eS (sP (cM (C fW) [(cG aa 0),(cW tq)])) cU (eJ (cG aa 1))))))) (λaa=>(dF aa)) W aa))
theorem FL:oh C Cf Cr W aa=fG (FJ C Cf Cr W aa):=rfl
theorem FM:Ok "name_tree" (iZ 48) ["reader"] ["tree"] (bd 48) oh:=oS
def uE:Nd:=λC Cf Cr W aa=>(.seq (dm (gv (cI (C fW) [(cF aa 0),(cK jD)])) (df (eo [(cK fD),(cF aa 1),(cI (C dQ) [(cF aa 0)])])) (cZ aa)) λaa=>(.seq (dm (jb [(cV .In (dr (cF aa 1) (cL 0)) (lX qV)),(gv (cI (C g8) [(cF aa 0),(cK fD)]))]) (.ask cU) (cZ aa)) λaa=>(df (cF aa 1))))
def lP:Md:=λC Cf Cr W aa=>fG (uE C Cf Cr W aa)
theorem nJ:lP C Cf Cr W aa=fG (uE C Cf Cr W aa):=rfl
theorem AU:Ok "extent_tree" (iZ 51) ["reader","tree"] [] (bd 51) lP:=oS
def tD:Nd:=λC Cf Cr W aa=>(.seq (dm (gv (cI (C g8) [(cF aa 0),(cK lI)])) (.ask cU) (cZ aa)) λaa=>(.seq (dA aa 1 (cI (C gM) [(cF aa 0),(cI (C dQ) [(cF aa 0)])])) λaa=>(.seq (dm (jb [(cV .NotEq (dr (cF aa 1) (cL 0)) (cK fD)),(cV .NotEq (dr (cF aa 1) (cL 0)) (cK Fh))]) (dA aa 1 (cI (C gg) [(cF aa 0),(cI (C eg) [(cF aa 0),(cF aa 1)])])) (cZ aa)) λaa=>(df (cI (C gU) [(cF aa 0),(cF aa 1)])))))
def k6:Md:=λC Cf Cr W aa=>fG (tD C Cf Cr W aa)
theorem jG:k6 C Cf Cr W aa=fG (tD C Cf Cr W aa):=rfl
theorem zq:Ok "parse_choice" (iZ 53) ["reader"] ["tree"] (bd 53) k6:=oS
def vV:Nd:=λC Cf Cr W aa=>(.seq (dA aa 1 (cI (C gW) [(cF aa 0)])) λaa=>(.seq (dm (jb [(oC (gv (cI (C dO) [(cF aa 0),(cK Jq)]))),(oC (gv (cI (C dO) [(cF aa 0),(cK BV)])))]) (.seq (dm (cV .Eq (cF aa 1) (eo [(cK lI)])) (.ask cU) (cZ aa)) λaa=>(df (eo [mz,(cF aa 1)]))) (cZ aa)) λaa=>(.ask cU)))
def mH:Md:=λC Cf Cr W aa=>fG (vV C Cf Cr W aa)
theorem vW:mH C Cf Cr W aa=fG (vV C Cf Cr W aa):=rfl
theorem Db:Ok "assoc_here" (iZ 54) ["reader"] ["first","choices"] (bd 54) mH:=oS
def xG:Nd:=λC Cf Cr W aa=>(.seq (dA aa 1 (mA [(cI (C jm) [(cF aa 0)])])) λaa=>(.seq (pq (λaa=>(gv (cI (C fW) [(cF aa 0),(cK Jr)]))) (λaa=>(.ask cU)) (λaa=>(cZ aa)) W aa) λaa=>(df (cF aa 1))))
def oi:Md:=λC Cf Cr W aa=>fG (xG C Cf Cr W aa)
theorem xH:oi C Cf Cr W aa=fG (xG C Cf Cr W aa):=rfl
theorem FN:Ok "assoc_row" (iZ 55) ["reader"] ["rows","one"] (bd 55) oi:=oS
def tE:Nd:=λC Cf Cr W aa=>(.seq (mB aa (cI (C jp) [(cF aa 0),(cK fT)])) λaa=>(.seq (mB aa (cI (C kS) [(cF aa 0)])) λaa=>(.seq (dm (jb [(gv (cI (C eH) [(cF aa 0),(cK rN)])),(gv (cI (C eH) [(cF aa 0),(cK Fi),(cL 1)]))]) (.ask cU) (.seq (dA aa 2 (cI (C jK) [(cF aa 0)])) λaa=>(.seq (mB aa (cI (C iD) [(cF aa 0),(cF aa 2)])) λaa=>(dm (jb [(cV .Eq (cI jQ [(cF aa 2)]) (cL 1)),(cV .Is (dr (dr (cF aa 2) (cL 0)) (cL 0)) mz)]) (dA aa 1 (cI (C iU) [(cF aa 0),(dr (dr (cF aa 2) (cL 0)) (cL 1))])) (.ask cU))))) λaa=>(.seq (mB aa (cI (C jp) [(cF aa 0),(cK eY)])) λaa=>(.seq (mB aa (cI (C jX) [(cF aa 0)])) λaa=>(df (cF aa 1)))))))
def k7:Md:=λC Cf Cr W aa=>fG (tE C Cf Cr W aa)
theorem k8:k7 C Cf Cr W aa=fG (tE C Cf Cr W aa):=rfl
theorem zr:Ok "bracket_tree" (iZ 57) ["reader"] ["tree","rows"] (bd 57) k7:=oS
def sw:Nd:=λC Cf Cr W aa=>(Hy W (AH [2,3]) (cF aa 1) (λaa=>(dm (pj [(cV .Eq (dr (cF aa 3) (cL 0)) (cK fD)),(cV .Eq (dr (cF aa 3) (cL 0)) (cK Fh))]) (n3 Cf [(cF aa 0),(cK pG)]) (cZ aa))) aa)
def ki:Md:=λC Cf Cr W aa=>fG (sw C Cf Cr W aa)
theorem sx:ki C Cf Cr W aa=fG (sw C Cf Cr W aa):=rfl
theorem xV:Ok "refuse_ranges" (iZ 58) ["reader","rows"] ["choices","value"] (bd 58) ki:=oS
def tF:Nd:=λC Cf Cr W aa=>(.seq (dm (oC (gv (cI (C g8) [(cF aa 0),(cK zd)]))) (.seq (dm (cV .In (dr (cF aa 1) (cL 0)) (lX qV)) (df (eo [(cK t7),(cF aa 1)])) (cZ aa)) λaa=>(df (cF aa 1))) (cZ aa)) λaa=>(.ask cU))
def k9:Md:=λC Cf Cr W aa=>fG (tF C Cf Cr W aa)
theorem zt:k9 C Cf Cr W aa=fG (tF C Cf Cr W aa):=rfl
theorem zu:Ok "lone_bracket" (iZ 59) ["reader","tree"] ["rows"] (bd 59) k9:=oS
def Dc:Nd:=λC Cf Cr W aa=>(.seq (dm (M8 .LtE .LtE (cK T1) (cF aa 0) (cK WP)) (.ask cU) (cZ aa)) λaa=>(df (cF aa 0)))
def mI:Md:=λC Cf Cr W aa=>(dn (eS (PL .LtE .LtE (cW T1) (cG aa 0) (cW WP)) cU (dF aa)) λaa=>(eJ (cG aa 0)))
theorem vX:mI C Cf Cr W aa=fG (Dc C Cf Cr W aa):=by rfl'
theorem Dd:Ok "small_sign" (iZ 74) ["sign"] [] (bd 74) mI:=λH _ _ _ _ hC hF hR W aa L a cd=>
 (eh (nY (Mz (wW YQ) (oJ H hC hF hR W rfl (by rfl')) (wW YR) rfl _) wT ko) λaa=>(Ay H hC hF hR W rfl (by rfl')))
def qZ:Nd:=λC Cf Cr W aa=>(df (Jn [(pi .NotEq (cF aa 0) (cK hG)),(pi .In (cI (C f9) [(cF aa 0)]) (lX nu))]))
def jH:Md:=λC Cf Cr W aa=>fG (qZ C Cf Cr W aa)
theorem w5:jH C Cf Cr W aa=fG (qZ C Cf Cr W aa):=rfl
theorem w6:Ok "is_name_letter" (iZ 75) ["sign"] [] (bd 75) jH:=oS
def tG:Nd:=λC Cf Cr W aa=>(df (WI [(cI (C fU) [(cF aa 0)]),(Jn [(pi .NotEq (cF aa 0) (cK hG)),(pi .In (cF aa 0) (lX pJ))])]))
def lf:Md:=λC Cf Cr W aa=>fG (tG C Cf Cr W aa)
theorem pM:lf C Cf Cr W aa=fG (tG C Cf Cr W aa):=rfl
theorem zv:Ok "is_name_part" (iZ 76) ["sign"] [] (bd 76) lf:=oS
def De:Nd:=λC Cf Cr W aa=>(.seq (dA aa 3 (cF aa 1)) λaa=>(.seq (dA aa 4 (cK hG)) λaa=>(.seq (pq (λaa=>(jb [(cV .Lt (cF aa 3) (cI jQ [(cF aa 0)])),(pj [(gv (cI (C fy) [(dr (cF aa 0) (cF aa 3))])),(cV .Eq (dr (cF aa 0) (cF aa 3)) (cK ED))])])) (λaa=>(.seq (dm (jb [(cV .Eq (dr (cF aa 0) (cF aa 3)) (cK ED)),(oC (gv (cI (C fy) [(oI (cF aa 0) (some (dT .Add (cF aa 3) (cL 1))) (some (dT .Add (cF aa 3) (cL 2))))])))]) (.ask cU) (cZ aa)) λaa=>(.seq (oD aa 4 .Add (cI (C f9) [(dr (cF aa 0) (cF aa 3))])) λaa=>(oD aa 3 .Add (cL 1))))) (λaa=>(cZ aa)) W aa) λaa=>(.seq (dm (gv (cI (C il) [(cF aa 4)])) (df (eo [(eo [(cK jc),(cF aa 4),(cF aa 2)]),(cF aa 3)])) (cZ aa)) λaa=>(df (eo [(eo [(cK fk),(cF aa 4),(cF aa 2)]),(cF aa 3)]))))))
def mJ:Md:=λC Cf Cr W aa=>fG (De C Cf Cr W aa)
theorem Df:Ok "name_token" (iZ 78) ["text","at","line"] ["end","name"] (bd 78) mJ:=oS
def lh:Md:=λC Cf Cr W aa=>(dn (dZ aa 4 (cY 0)) λaa=>(dn (dZ aa 5 (cY 0)) λaa=>(dn (dZ aa 6 (cG aa 1)) λaa=>(dn (fw (λaa=>(dz .Lt (cG aa 6) (cM jQ [(cG aa 0)]))) (λaa=>(dn (dZ aa 7 (MV (kN iM) (cM (C f9) [(dP (cG aa 0) (cG aa 6))]))) λaa=>(dn (eS (uO [(dz .Eq (dP (cG aa 0) (cG aa 6)) (cW ED)),(dz .Gt (cG aa 5) (cY 0))]) cU (dF aa)) λaa=>(dn (eS (LI [(dz .Lt (cG aa 7) (cY 0)),(uO [(dz .LtE (cG aa 2) (cY 10)),(dz .GtE (cG aa 7) (cY 10))])]) (E9 aa) (dF aa)) λaa=>(dn (eS (dz .GtE (cG aa 7) (cG aa 2)) cU (dF aa)) λaa=>(dn (eS (dz .Eq (cG aa 5) (kN gm)) cU (dF aa)) λaa=>(dn (dZ aa 4 (d7 .Add (d7 .Mult (cG aa 4) (cG aa 2)) (cG aa 7))) λaa=>(dn (sp aa 5 .Add (cY 1)) λaa=>(sp aa 6 .Add (cY 1)))))))))) (λaa=>(dF aa)) W aa) λaa=>(dn (eS (dz .Eq (cG aa 5) (cY 0)) cU (dF aa)) λaa=>(eJ (f7 [(cG aa 4),(cG aa 5),(cG aa 6)])))))))
theorem zw:Ok "read_numeral" (iZ 79) ["text","at","base","line"] ["value","count","end","figure"] (bd 79) lh:=λH _ _ _ _ hC hF hR W aa L a cd=>
 (eh (gt (i:=4) rfl rfl wL) λaa=>(eh (gt (i:=5) rfl rfl wL) λaa=>(eh (gt (i:=6) rfl rfl (oJ H hC hF hR W rfl (by rfl'))) λaa=>(eh (vH W (λaa=>(GY H hC hF hR W rfl (by rfl'))) (λaa=>(eh (gt (i:=7) rfl rfl (Px rfl (oJ H hC hF hR W rfl (by rfl')) rfl (oJ H hC hF hR W rfl (by rfl')))) λaa=>(Ay H hC hF hR W rfl (by rfl')))) (λaa=>ko)) λaa=>(Ay H hC hF hR W rfl (by rfl'))))))
def zx:Nd:=λC Cf Cr W aa=>(.seq (dm (cV .NotEq (cI (C f9) [(oI (cF aa 0) (some (cF aa 1)) (some (dT .Add (cF aa 1) (cL 1))))]) (cK Nw)) (df (eo [(cL 0),(cF aa 1)])) (cZ aa)) λaa=>(.ask cU))
def pN:Md:=λC Cf Cr W aa=>fG (zx C Cf Cr W aa)
theorem HU:pN C Cf Cr W aa=fG (zx C Cf Cr W aa):=rfl
theorem HV:Ok "power_of" (iZ 80) ["text","at","line"] ["sign","begin","value","count","end"] (bd 80) pN:=oS
def tH:Nd:=λC Cf Cr W aa=>(.seq (dA aa 3 (cL 10)) λaa=>(.seq (th aa [4,5,6] (cI (C iV) [(cF aa 0),(cF aa 1),(cL 10),(cF aa 2)])) λaa=>(.seq (dA aa 7 (pi .Eq (oI (cF aa 0) (some (cF aa 6)) (some (dT .Add (cF aa 6) (cL 1)))) (cK Nx))) λaa=>(.seq (dm (gv (cF aa 7)) (.ask cU) (cZ aa)) λaa=>(.seq (dA aa 8 (cL 0)) λaa=>(.seq (dA aa 9 (Jn [(pi .Eq (oI (cF aa 0) (some (cF aa 6)) (some (dT .Add (cF aa 6) (cL 1)))) (cK AM)),(pi .NotEq (oI (cF aa 0) (some (dT .Add (cF aa 6) (cL 1))) (some (dT .Add (cF aa 6) (cL 2)))) (cK AM))])) λaa=>(.seq (dm (gv (cF aa 9)) (.ask cU) (cZ aa)) λaa=>(.seq (dm (gv (cF aa 7)) (.ask cU) (cZ aa)) λaa=>(.seq (th aa [10,11] (cI (C lY) [(cF aa 0),(cF aa 6),(cF aa 2)])) λaa=>(.seq (dm (jb [(oC (gv (cF aa 9))),(pj [(cV .Lt (cF aa 10) (cL 0)),(jb [(cV .Eq (oI (cF aa 0) (some (dT .Add (cF aa 6) (cL 1))) (some (dT .Add (cF aa 6) (cL 2)))) (cK iR)),(cV .Gt (cF aa 11) (cF aa 6))])])]) (.ask cU) (cZ aa)) λaa=>(.seq (dm (pj [(gv (cI (C fy) [(oI (cF aa 0) (some (cF aa 11)) (some (dT .Add (cF aa 11) (cL 1))))])),(cV .Eq (oI (cF aa 0) (some (cF aa 11)) (some (dT .Add (cF aa 11) (cL 1)))) (cK ED))]) (.ask cU) (cZ aa)) λaa=>(.seq (dm (oC (gv (cF aa 9))) (df (eo [(eo [(cK ic),(dT .Mult (cF aa 4) (dT .Pow (cF aa 3) (cF aa 10))),(cF aa 2)]),(cF aa 11)])) (cZ aa)) λaa=>(.ask cU)))))))))))))
def li:Md:=λC Cf Cr W aa=>fG (tH C Cf Cr W aa)
theorem tI:li C Cf Cr W aa=fG (tH C Cf Cr W aa):=rfl
theorem zy:Ok "number_token" (iZ 81) ["text","at","line"] ["base","value","count","end","is_based","places","has_point","power","behind","part"] (bd 81) li:=oS
def qj:Nd:=λC Cf Cr W aa=>(.seq (dm (cV .In (oI (cF aa 0) (some (cF aa 1)) (some (dT .Add (cF aa 1) (cL 2)))) (lX rO)) (df (eo [(eo [(cK i7),(oI (cF aa 0) (some (cF aa 1)) (some (dT .Add (cF aa 1) (cL 2)))),(cF aa 2)]),(dT .Add (cF aa 1) (cL 2))])) (cZ aa)) λaa=>(.seq (dm (cV .In (dr (cF aa 0) (cF aa 1)) (lX va)) (df (eo [(eo [(cK i7),(dr (cF aa 0) (cF aa 1)),(cF aa 2)]),(dT .Add (cF aa 1) (cL 1))])) (cZ aa)) λaa=>(.ask cU)))
def jv:Md:=λC Cf Cr W aa=>fG (qj C Cf Cr W aa)
theorem qk:jv C Cf Cr W aa=fG (qj C Cf Cr W aa):=rfl
theorem vY:Ok "delimiter_token" (iZ 85) ["text","at","line"] [] (bd 85) jv:=oS
def FO:Nd:=λC Cf Cr W aa=>(.seq (dA aa 4 (dr (cF aa 0) (cF aa 1))) λaa=>(.seq (dm (gv (cI (C fU) [(cF aa 4)])) (df (cI (C jn) [(cF aa 0),(cF aa 1),(cF aa 2)])) (cZ aa)) λaa=>(.seq (dm (cV .In (cF aa 4) (lX pJ)) (df (cI (C iw) [(cF aa 0),(cF aa 1),(cF aa 2)])) (cZ aa)) λaa=>(.seq (dm (cV .Eq (cF aa 4) (cK Ny)) (.ask cU) (cZ aa)) λaa=>(.seq (dm (cV .Eq (cF aa 4) (cK tq)) (.ask cU) (cZ aa)) λaa=>(df (cI (C fF) [(cF aa 0),(cF aa 1),(cF aa 2)])))))))
def oj:Md:=λC Cf Cr W aa=>fG (FO C Cf Cr W aa)
theorem FP:Ok "one_token" (iZ 86) ["text","at","line","tokens"] ["sign"] (bd 86) oj:=oS
def FQ:Nd:=λC Cf Cr W aa=>(.seq (dA aa 1 (mA [])) λaa=>(.seq (dA aa 2 (cL 0)) λaa=>(.seq (dA aa 3 (cL 1)) λaa=>(.seq (pq (λaa=>(cV .Lt (cF aa 2) (cI jQ [(cF aa 0)]))) (λaa=>(dm (cV .In (dr (cF aa 0) (cF aa 2)) (lX t9)) (.seq (dm (cV .Eq (dr (cF aa 0) (cF aa 2)) (cK Js)) (.ask cU) (cZ aa)) λaa=>(oD aa 2 .Add (cL 1))) (dm (cV .Eq (oI (cF aa 0) (some (cF aa 2)) (some (dT .Add (cF aa 2) (cL 2)))) (cK qi)) (.ask cU) (.seq (th aa [4,2] (cI (C ix) [(cF aa 0),(cF aa 2),(cF aa 3),(cF aa 1)])) λaa=>(mB aa (tg (cF aa 1) (cF aa 4))))))) (λaa=>(cZ aa)) W aa) λaa=>(df (cF aa 1))))))
def ol:Md:=λC Cf Cr W aa=>fG (FQ C Cf Cr W aa)
theorem FR:Ok "tokens_of" (iZ 88) ["text"] ["tokens","at","line","token"] (bd 88) ol:=oS
def zz:Nd:=λC Cf Cr W aa=>(.seq (dm (cV .In (dr (cF aa 0) (cL 0)) (lX kQ)) (df (dr (cF aa 0) (cL 0))) (cZ aa)) λaa=>(.seq (dm (jb [(cV .Eq (dr (cF aa 0) (cL 0)) (cK iQ)),(cV .In (dr (cF aa 0) (cL 1)) (eo [(cK f8),(cK iH),(cK gf)]))]) (df (dr (cF aa 0) (cL 1))) (cZ aa)) λaa=>(df (cK hG))))
def mK:Md:=λC Cf Cr W aa=>fG (zz C Cf Cr W aa)
theorem zA:Ok "logical_sort" (iZ 96) ["tree"] [] (bd 96) mK:=oS
def Dg:Nd:=λC Cf Cr W aa=>(.seq (dm (cV .NotEq (cI (C dS) [(cF aa 0)]) (cK hG)) (df (cL 1)) (cZ aa)) λaa=>(.seq (dm (cV .Eq (dr (cF aa 0) (cL 0)) (cK iQ)) (df (dr (dr (lX jx) (dr (cF aa 0) (cL 1))) (cL 0))) (cZ aa)) λaa=>(.seq (dm (cV .Eq (dr (cF aa 0) (cL 0)) (cK lH)) (df (sq (cV .In (dr (cF aa 0) (cL 1)) (cK pH)) (cL 3) (cL 5))) (cZ aa)) λaa=>(.seq (dm (cV .In (dr (cF aa 0) (cL 0)) (eo [(cK fY),(cK fM)])) (df (cL 2)) (cZ aa)) λaa=>(df (lX lz))))))
def mL:Md:=λC Cf Cr W aa=>fG (Dg C Cf Cr W aa)
theorem Di:Ok "binding_of" (iZ 97) ["tree"] [] (bd 97) mL:=oS
def uF:Nd:=λC Cf Cr W aa=>(.seq (dm (cV .Lt (cI (C ik) [(cF aa 0)]) (cF aa 1)) (df (dT .Add (dT .Add (cK fT) (cI (C gG) [(cF aa 0)])) (cK eY))) (cZ aa)) λaa=>(df (cI (C gG) [(cF aa 0)])))
def lQ:Md:=λC Cf Cr W aa=>fG (uF C Cf Cr W aa)
theorem uG:lQ C Cf Cr W aa=fG (uF C Cf Cr W aa):=rfl
theorem AV:Ok "show_within" (iZ 98) ["tree","least"] [] (bd 98) lQ:=oS
def lj:Md:=λC Cf Cr W aa=>(dn (dZ aa 1 (cM (C dS) [(cG aa 0)])) λaa=>(dn (dZ aa 2 (m9 [])) λaa=>(dn (fw (λaa=>(dz .Eq (cM (C dS) [(cG aa 0)]) (cG aa 1))) (λaa=>(dn (Hu aa [3,4] (f7 [(dP (cG aa 0) (y0 (cY 2))),(dP (cG aa 0) (y0 (cY 1)))])) λaa=>(dn (oB aa (jC (cG aa 2) (d7 .Add (d7 .Add (d7 .Add (cW eP) (MW (kN kQ) (cG aa 1) (cG aa 1))) (cW eP)) (cM (C dG) [(cG aa 4),(cY 2)])))) λaa=>(dZ aa 0 (cG aa 3))))) (λaa=>(dF aa)) W aa) λaa=>(eJ (d7 .Add (cM (C dG) [(cG aa 0),(cY 2)]) (td (xu (cG aa 2))))))))
theorem zB:Ok "show_logical" (iZ 99) ["tree"] ["sort","behind","left","right"] (bd 99) lj:=λH _ _ _ _ hC hF hR W aa L a cd=>
 (eh (gt (i:=1) rfl rfl (oJ H hC hF hR W rfl (by rfl'))) λaa=>(eh (gt (i:=2) rfl rfl (oJ H hC hF hR W rfl (by rfl'))) λaa=>(eh (vH W (λaa=>(GY H hC hF hR W rfl (by rfl'))) (λaa=>(eh (Jd (ps:=[(("left":Str),⟨546,8,546,12⟩),(("right":Str),⟨546,14,546,19⟩)]) (is:=[3,4]) ⟨rfl,rfl,trivial⟩ rfl rfl rfl (oJ H hC hF hR W rfl (by rfl'))) λaa=>(eh (CO (wS rfl (oJ H hC hF hR W rfl (by rfl')) rfl (pe (pe (pe (wW Nz) (Jb rfl rfl (oJ H hC hF hR W rfl (by rfl')) rfl rfl (oJ H hC hF hR W rfl (by rfl')) (oJ H hC hF hR W rfl (by rfl')))) (wW Nz)) (oJ H hC hF hR W rfl (by rfl')))) rfl rfl) λaa=>(Ay H hC hF hR W rfl (by rfl'))))) (λaa=>ko)) λaa=>(by(with_reducible refine oz (uP ?_));exact(pe (oJ H hC hF hR W rfl (by rfl')) (CJ (k:=0) rfl rfl (Ha (oJ H hC hF hR W rfl (by rfl')) (oJ H hC hF hR W rfl (by rfl')) rfl)))))))
def mM:Md:=λC Cf Cr W aa=>(dn (dZ aa 1 (m9 [])) λaa=>(dn (fw (λaa=>(uO [(dz .Eq (dP (cG aa 0) (cY 0)) (cW iQ)),(dz .In (dP (cG aa 0) (cY 1)) (kN jx))])) (λaa=>(dn (Fa aa [2,3,4] (dP (kN jx) (dP (cG aa 0) (cY 1)))) λaa=>(dn (dZ aa 5 (dP (cG aa 0) (cY 1))) λaa=>(dn (eS (dz .NotEq (cG aa 5) (cW gC)) (dZ aa 5 (d7 .Add (d7 .Add (cW eP) (cG aa 5)) (cW eP))) (dF aa)) λaa=>(dn (oB aa (jC (cG aa 1) (d7 .Add (cG aa 5) (cM (C dG) [(dP (cG aa 0) (cY 3)),(cG aa 4)])))) λaa=>(dn (dZ aa 0 (dP (cG aa 0) (cY 2))) λaa=>(eS (dz .Lt (cM (C ik) [(cG aa 0)]) (cG aa 3)) (E9 aa) (dF aa)))))))) (λaa=>(eJ (d7 .Add (cM (C gG) [(cG aa 0)]) (td (xu (cG aa 1)))))) W aa) λaa=>(eJ (d7 .Add (d7 .Add (d7 .Add (cW fT) (cM (C gG) [(cG aa 0)])) (cW eY)) (td (xu (cG aa 1)))))))
theorem Dj:Ok "show_chain" (iZ 100) ["tree"] ["behind","level","left","right","sign"] (bd 100) mM:=λH _ _ _ _ hC hF hR W aa L a cd=>
 (eh (gt (i:=1) rfl rfl (oJ H hC hF hR W rfl (by rfl'))) λaa=>(eh (vH W (λaa=>(GY H hC hF hR W rfl (by rfl'))) (λaa=>(Ay H hC hF hR W rfl (by rfl'))) (λaa=>(by(with_reducible refine oz (uP ?_));exact(pe (oJ H hC hF hR W rfl (by rfl')) (CJ (k:=0) rfl rfl (Ha (oJ H hC hF hR W rfl (by rfl')) (oJ H hC hF hR W rfl (by rfl')) rfl)))))) λaa=>(by(with_reducible refine oz (uP ?_));exact(pe (oJ H hC hF hR W rfl (by rfl')) (CJ (k:=0) rfl rfl (Ha (oJ H hC hF hR W rfl (by rfl')) (oJ H hC hF hR W rfl (by rfl')) rfl))))))
def vZ:Nd:=λC Cf Cr W aa=>(.seq (dA aa 3 (cK hG)) λaa=>(.seq (pq (λaa=>(pj [(cV .Gt (cF aa 0) (cL 0)),(cV .Lt (cI jQ [(cF aa 3)]) (cF aa 2))])) (λaa=>(.seq (dA aa 3 (dT .Add (dr (lX ke) (dT .Mod (cF aa 0) (cF aa 1))) (cF aa 3))) λaa=>(oD aa 0 .FloorDiv (cF aa 1)))) (λaa=>(cZ aa)) W aa) λaa=>(df (cF aa 3))))
def mN:Md:=λC Cf Cr W aa=>fG (vZ C Cf Cr W aa)
theorem Dk:mN C Cf Cr W aa=fG (vZ C Cf Cr W aa):=rfl
theorem Dl:Ok "figures_of" (iZ 101) ["number","base","least"] ["text"] (bd 101) mN:=oS
def Dm:Nd:=λC Cf Cr W aa=>(.seq (dm (cV .NotEq (cF aa 0) (cL 10)) (.ask cU) (cZ aa)) λaa=>(.seq (dm (cV .Eq (cF aa 2) (cL 0)) (df (cF aa 1)) (cZ aa)) λaa=>(.ask cU)))
def oY:Md:=λC Cf Cr W aa=>fG (Dm C Cf Cr W aa)
theorem Dn:Ok "show_based" (iZ 102) ["base","text","power"] ["sign"] (bd 102) oY:=oS
def oZ:Md:=λC Cf Cr W aa=>(dn (BQ W (qP 1) (kN nt) (λaa=>(dn (dZ aa 2 (cM (C jY) [(cG aa 0),(cG aa 1),(cY 1)])) λaa=>(dn (dZ aa 3 (cM Pw [(cY 0),(d7 .Sub (cM jQ [(cG aa 2)]) (kN gm))])) λaa=>(eS (uO [(dz .LtE (cG aa 3) (kN qA)),(dz .Eq (lG (cG aa 2) (some (kN gm)) none) (d7 .Mult (cW s_0) (cG aa 3)))]) (eJ (cM (C jZ) [(cG aa 1),(lG (cG aa 2) none (some (kN gm))),(cG aa 3)])) (dF aa))))) aa) λaa=>cU)
theorem Do:Ok "show_whole" (iZ 103) ["number"] ["base","text","power"] (bd 103) oZ:=oS
def tJ:Nd:=λC Cf Cr W aa=>(.seq (dm (cV .Eq (dr (cF aa 0) (cL 0)) (cK ic)) (df (cI (C j0) [(dr (cF aa 0) (cL 1))])) (cZ aa)) λaa=>(.ask cU))
def ll:Md:=λC Cf Cr W aa=>fG (tJ C Cf Cr W aa)
theorem zC:ll C Cf Cr W aa=fG (tJ C Cf Cr W aa):=rfl
theorem zD:Ok "show_literal" (iZ 106) ["tree"] [] (bd 106) ll:=oS
def Dp:Nd:=λC Cf Cr W aa=>(.seq (dm (cV .Eq (dr (cF aa 0) (cL 0)) (cK fk)) (df (dr (cF aa 0) (cL 1))) (cZ aa)) λaa=>(.ask cU))
def o0:Md:=λC Cf Cr W aa=>fG (Dp C Cf Cr W aa)
theorem Dq:Ok "show_named" (iZ 110) ["tree"] ["base"] (bd 110) o0:=oS
def v4:Nd:=λC Cf Cr W aa=>(.seq (dm (cV .Eq (dr (cF aa 0) (cL 0)) (cK fD)) (df (dT .Add (dT .Add (cI (C dG) [(dr (cF aa 0) (cL 1)),(cL 3)]) (cK vM)) (cI (C dG) [(dr (cF aa 0) (cL 2)),(cL 3)]))) (cZ aa)) λaa=>(.ask cU))
def mO:Md:=λC Cf Cr W aa=>fG (v4 C Cf Cr W aa)
theorem Dr:mO C Cf Cr W aa=fG (v4 C Cf Cr W aa):=rfl
theorem Dt:Ok "show_range" (iZ 112) ["tree"] [] (bd 112) mO:=oS
def uH:Nd:=λC Cf Cr W aa=>(.seq (dA aa 1 (sq (cV .Eq (dr (cF aa 0) (cL 0)) (cK fY)) (cK NA) (cK ze))) λaa=>(df (dT .Add (dT .Add (cI (C dG) [(dr (cF aa 0) (cL 1)),(cL 3)]) (cF aa 1)) (cI (C dG) [(dr (cF aa 0) (cL 2)),(cL 3)]))))
def lR:Md:=λC Cf Cr W aa=>fG (uH C Cf Cr W aa)
theorem uI:lR C Cf Cr W aa=fG (uH C Cf Cr W aa):=rfl
theorem AW:Ok "show_member" (iZ 113) ["tree"] ["word"] (bd 113) lR:=oS
def FS:Nd:=λC Cf Cr W aa=>(.seq (dA aa 1 (dr (cF aa 0) (cL 0))) λaa=>(.seq (dm (cV .NotEq (cI (C dS) [(cF aa 0)]) (cK hG)) (df (cI (C iA) [(cF aa 0)])) (cZ aa)) λaa=>(.seq (dm (cV .Eq (cF aa 1) (cK iQ)) (df (cI (C jr) [(cF aa 0)])) (cZ aa)) λaa=>(.seq (dm (cV .Eq (cF aa 1) (cK lH)) (.seq (dm (cV .In (dr (cF aa 0) (cL 1)) (cK pH)) (df (dT .Add (dr (cF aa 0) (cL 1)) (cI (C dG) [(dr (cF aa 0) (cL 2)),(cL 4)]))) (cZ aa)) λaa=>(df (dT .Add (dT .Add (dr (cF aa 0) (cL 1)) (cK eP)) (cI (C dG) [(dr (cF aa 0) (cL 2)),(cL 6)])))) (cZ aa)) λaa=>(.seq (dm (cV .In (cF aa 1) (eo [(cK fY),(cK fM)])) (df (cI (C iK) [(cF aa 0)])) (cZ aa)) λaa=>(.seq (dm (cV .In (cF aa 1) (eo [(cK fD),(cK Fh)])) (df (cI (C ju) [(cF aa 0)])) (cZ aa)) λaa=>(.seq (dm (cV .In (cF aa 1) (eo [(cK t7),(cK NB),(cK Fj)])) (.ask cU) (cZ aa)) λaa=>(.seq (dm (cV .Eq (cF aa 1) (cK zc)) (.ask cU) (cZ aa)) λaa=>(.seq (dm (cV .Eq (cF aa 1) (cK lI)) (.ask cU) (cZ aa)) λaa=>(.seq (dm (cV .In (cF aa 1) (eo [(cK ic),(cK uZ),(cK uY),(cK iS),(cK rN)])) (df (cI (C iz) [(cF aa 0)])) (cZ aa)) λaa=>(df (cI (C jt) [(cF aa 0)]))))))))))))
def l8:Md:=λC Cf Cr W aa=>fG (FS C Cf Cr W aa)
theorem FT:Ok "show_expr" (iZ 114) ["tree"] ["tag"] (bd 114) l8:=oS
def sy:Nd:=λC Cf Cr W aa=>(.seq (dA aa 2 (dr (cF aa 0) (cK ii))) λaa=>(.seq (CV aa (dT .Add (cF aa 2) (cL 1)) (cF aa 0) (cK ii)) λaa=>(.seq (dm (cV .Lt (cF aa 2) (cI jQ [(dr (cF aa 0) (cK t8))])) (df (dT .Mod (dr (dr (cF aa 0) (cK t8)) (cF aa 2)) (cF aa 1))) (cZ aa)) λaa=>(df (dT .Mod (dT .Add (dT .Add (dT .Mult (dT .Mult (cL 2) (cF aa 2)) (cF aa 2)) (dT .Mult (cL 3) (cF aa 2))) (cL 3)) (cF aa 1))))))
def kl:Md:=λC Cf Cr W aa=>fG (sy C Cf Cr W aa)
theorem sA:kl C Cf Cr W aa=fG (sy C Cf Cr W aa):=rfl
theorem xW:Ok "_law_draw_next" (iZ 119) ["urn","many"] ["at"] (bd 119) kl:=oS
def HW:Nd:=λC Cf Cr W aa=>(.seq (CV aa (dT .Sub (dr (cF aa 0) (cK kO)) (cL 1)) (cF aa 0) (cK kO)) λaa=>(.seq (dA aa 2 (sq (jb [(cV .Gt (cF aa 1) (cL 0)),(cV .Gt (dr (cF aa 0) (cK kO)) (cL 0))]) (cI (C dh) [(cF aa 0),(cL 9)]) (cL 0))) λaa=>(.seq (dm (cV .Lt (cF aa 2) (cL 2)) (.seq (dm (cV .Eq (cI (C dh) [(cF aa 0),(cL 3)]) (cL 2)) (df (eo [(cK ic),(cI (C dh) [(cF aa 0),(cL 100)])])) (cZ aa)) λaa=>(df (eo [(cK fk),(qy [(cK Sw),(cK Sx),(cK Sy)] (cI (C dh) [(cF aa 0),(cL 3)]))]))) (cZ aa)) λaa=>(.seq (dm (cV .Eq (cF aa 2) (cL 2)) (df (eo [(cK lH),(qy [(cK iR),(cK ji),(cK gc),(cK i8)] (cI (C dh) [(cF aa 0),(cL 4)])),(cI (C dw) [(cF aa 0),(dT .Sub (cF aa 1) (cL 1))])])) (cZ aa)) λaa=>(.seq (dm (cV .Eq (cF aa 2) (cL 8)) (.seq (dA aa 6 (cI (C dw) [(cF aa 0),(dT .Sub (cF aa 1) (cL 2))])) λaa=>(.seq (dA aa 7 (eo [(cK fD),(cF aa 6),(cI (C dw) [(cF aa 0),(dT .Sub (cF aa 1) (cL 2))])])) λaa=>(df (eo [(qy [(cK fY),(cK fM)] (cI (C dh) [(cF aa 0),(cL 2)])),(cI (C dw) [(cF aa 0),(dT .Sub (cF aa 1) (cL 1))]),(cF aa 7)])))) (cZ aa)) λaa=>(.seq (dm (cV .Eq (cF aa 2) (cL 7)) (.seq (dA aa 8 (qy [(cK eA),(cK fg)] (cI (C dh) [(cF aa 0),(cL 2)]))) λaa=>(.seq (dA aa 5 (cI (C dw) [(cF aa 0),(dT .Sub (cF aa 1) (cL 1))])) λaa=>(df (eo [(cF aa 8),(cF aa 5),(cI (C dw) [(cF aa 0),(dT .Sub (cF aa 1) (cL 1))])])))) (cZ aa)) λaa=>(.seq (dA aa 3 (qy [(lX eG),(lX g6),(dT .Add (lX fE) (mA [(cK f8),(cK iH),(cK gf)])),(dT .Add (mA [(cK gC)]) (lX eG))] (dT .Sub (cF aa 2) (cL 3)))) λaa=>(.seq (dA aa 4 (dr (cF aa 3) (cI (C dh) [(cF aa 0),(cI jQ [(cF aa 3)])]))) λaa=>(.seq (dA aa 5 (cI (C dw) [(cF aa 0),(dT .Sub (cF aa 1) (cL 1))])) λaa=>(df (eo [(cK iQ),(cF aa 4),(cF aa 5),(cI (C dw) [(cF aa 0),(dT .Sub (cF aa 1) (cL 1))])])))))))))))
def pO:Md:=λC Cf Cr W aa=>fG (HW C Cf Cr W aa)
theorem HX:Ok "_law_grow" (iZ 120) ["urn","storeys"] ["way","bag","sign","first","low","span","word"] (bd 120) pO:=oS
def rQ:Md:=λC Cf Cr W aa=>(dn (eS (dz .Eq (dP (cG aa 0) (cY 0)) (cW lH)) (eJ (E5 (dz .In (dP (cG aa 0) (cY 1)) (f7 [(cW i8),(cW iR)])) (cW zf) (cW iv))) (dF aa)) λaa=>(dn (eS (dz .In (dP (cG aa 0) (cY 0)) (f7 [(cW fY),(cW fM)])) (eJ (cW qU)) (dF aa)) λaa=>(dn (eS (dz .In (dP (cG aa 0) (cY 0)) (f7 [(cW eA),(cW fg)])) (eJ (dP (cG aa 0) (cY 0))) (dF aa)) λaa=>(dn (eS (dz .NotEq (dP (cG aa 0) (cY 0)) (cW iQ)) (eJ (cW jW)) (dF aa)) λaa=>(dn (eS (dz .In (dP (cG aa 0) (cY 1)) (kN fE)) (eJ (cW qU)) (dF aa)) λaa=>(dn (eS (dz .In (dP (cG aa 0) (cY 1)) (kN eG)) (eJ (cW vN)) (dF aa)) λaa=>(dn (eS (dz .In (dP (cG aa 0) (cY 1)) (kN g6)) (eJ (cW jj)) (dF aa)) λaa=>(eJ (MW (Hs [gC] [(cW iv)]) (dP (cG aa 0) (cY 1)) (dP (cG aa 0) (cY 1)))))))))))
theorem HY:Ok "_law_word" (iZ 121) ["tree"] [] (bd 121) rQ:=λH _ _ _ _ hC hF hR W aa L a cd=>
 (eh (nY (GY H hC hF hR W rfl (by rfl')) (Ay H hC hF hR W rfl (by rfl')) ko) λaa=>(eh (nY (GY H hC hF hR W rfl (by rfl')) (Ay H hC hF hR W rfl (by rfl')) ko) λaa=>(eh (nY (GY H hC hF hR W rfl (by rfl')) (Ay H hC hF hR W rfl (by rfl')) ko) λaa=>(eh (nY (GY H hC hF hR W rfl (by rfl')) (Ay H hC hF hR W rfl (by rfl')) ko) λaa=>(eh (nY (GY H hC hF hR W rfl (by rfl')) (Ay H hC hF hR W rfl (by rfl')) ko) λaa=>(eh (nY (GY H hC hF hR W rfl (by rfl')) (Ay H hC hF hR W rfl (by rfl')) ko) λaa=>(eh (nY (GY H hC hF hR W rfl (by rfl')) (Ay H hC hF hR W rfl (by rfl')) ko) λaa=>(by(with_reducible refine oz (uP ?_));exact(Jb rfl rfl (Jh (ks:=[(("**":Str),0,⟨731,12,731,16⟩)]) (by simp only[jg,List.map_nil,WO]) (.cons rfl (wW Qc) .nil) rfl (by simp) (by simp) (by decide)) rfl rfl (oJ H hC hF hR W rfl (by rfl')) (oJ H hC hF hR W rfl (by rfl')))))))))))
def zE:Nd:=λC Cf Cr W aa=>(.seq (dA aa 2 (cI (C eX) [(cF aa 0)])) λaa=>(.seq (dA aa 3 (mA [(cK jW),(cK iv),(cK jj),(cK vN),(cK zf)])) λaa=>(.seq (dm (cV .In (cF aa 2) (eo [(cK iv),(cK fD)])) (df (sq (cV .Eq (cF aa 2) (cK iv)) (mA [(cK jW)]) (cF aa 3))) (cZ aa)) λaa=>(.seq (dm (cV .Eq (cF aa 2) (cK jj)) (df (sq (cV .Eq (cF aa 1) (cL 0)) (mA [(cK jW),(cK iv),(cK jj)]) (mA [(cK jW),(cK iv)]))) (cZ aa)) λaa=>(.seq (dm (cV .Eq (cF aa 2) (cK zf)) (df (mA [(cK jW),(cK iv),(cK jj)])) (cZ aa)) λaa=>(.seq (dm (cV .Eq (cF aa 2) (cK vN)) (df (sq (cV .Eq (cF aa 1) (cL 0)) (cF aa 3) (mA [(cK jW),(cK iv),(cK jj)]))) (cZ aa)) λaa=>(.seq (dm (cV .Eq (cF aa 2) (cK qU)) (df (cF aa 3)) (cZ aa)) λaa=>(df (dT .Add (dT .Add (cF aa 3) (mA [(cK qU)])) (sq (cV .Eq (cF aa 1) (cL 0)) (mA [(cF aa 2)]) (mA [])))))))))))
def pP:Md:=λC Cf Cr W aa=>fG (zE C Cf Cr W aa)
theorem iF:pP C Cf Cr W aa=fG (zE C Cf Cr W aa):=rfl
theorem HZ:Ok "_law_free" (iZ 122) ["tree","side"] ["word","simple"] (bd 122) pP:=oS
def KJ:Nd:=λC Cf Cr W aa=>(.seq (dm (cV .Eq (dr (cF aa 0) (cL 0)) (cK lH)) (df (dT .Add (cI (C eQ) [(dr (cF aa 0) (cL 2))]) (cI xP [(pi .NotIn (cI (C eX) [(dr (cF aa 0) (cL 2))]) (cI (C fp) [(cF aa 0),(cL 1)]))]))) (cZ aa)) λaa=>(.seq (dm (cV .In (dr (cF aa 0) (cL 0)) (eo [(cK fk),(cK ic)])) (df (cL 0)) (cZ aa)) λaa=>(.seq (dm (cV .In (dr (cF aa 0) (cL 0)) (eo [(cK fY),(cK fM)])) (.seq (dA aa 3 (cL 0)) λaa=>(.seq (Hy W (qP 4) (mA [(dr (cF aa 0) (cL 1)),(dr (dr (cF aa 0) (cL 2)) (cL 1)),(dr (dr (cF aa 0) (cL 2)) (cL 2))]) (λaa=>(oD aa 3 .Add (dT .Add (cI (C eQ) [(cF aa 4)]) (cI xP [(pi .NotIn (cI (C eX) [(cF aa 4)]) (cI (C fp) [(cF aa 0),(cL 0)]))])))) aa) λaa=>(df (cF aa 3)))) (cZ aa)) λaa=>(.seq (PW aa [1,2] (eo [(dr (cF aa 0) (M9 (cL 2))),(dr (cF aa 0) (M9 (cL 1)))])) λaa=>(.seq (dA aa 3 (dT .Add (cI (C eQ) [(cF aa 1)]) (cI xP [(pi .NotIn (cI (C eX) [(cF aa 1)]) (cI (C fp) [(cF aa 0),(cL 0)]))]))) λaa=>(df (dT .Add (dT .Add (cF aa 3) (cI (C eQ) [(cF aa 2)])) (cI xP [(pi .NotIn (cI (C eX) [(cF aa 2)]) (cI (C fp) [(cF aa 0),(cL 1)]))]))))))))
def nv:Md:=λC Cf Cr W aa=>(dn (eS (dz .Eq (dP (cG aa 0) (cY 0)) (cW lH)) (eJ (d7 .Add (cM (C eQ) [(dP (cG aa 0) (cY 2))]) (cM xP [(yZ .NotIn (cM (C eX) [(dP (cG aa 0) (cY 2))]) (cM (C fp) [(cG aa 0),(cY 1)]))]))) (dF aa)) λaa=>(dn (eS (dz .In (dP (cG aa 0) (cY 0)) (f7 [(cW fk),(cW ic)])) (eJ (cY 0)) (dF aa)) λaa=>(dn (eS (dz .In (dP (cG aa 0) (cY 0)) (f7 [(cW fY),(cW fM)])) (dn (dZ aa 3 (cY 0)) λaa=>(dn (BQ W (qP 4) (m9 [(dP (cG aa 0) (cY 1)),(dP (dP (cG aa 0) (cY 2)) (cY 1)),(dP (dP (cG aa 0) (cY 2)) (cY 2))]) (λaa=>(sp aa 3 .Add (d7 .Add (cM (C eQ) [(cG aa 4)]) (cM xP [(yZ .NotIn (cM (C eX) [(cG aa 4)]) (cM (C fp) [(cG aa 0),(cY 0)]))])))) aa) λaa=>(eJ (cG aa 3)))) (dF aa)) λaa=>(dn (Hu aa [1,2] (f7 [(dP (cG aa 0) (y0 (cY 2))),(dP (cG aa 0) (y0 (cY 1)))])) λaa=>(dn (dZ aa 3 (d7 .Add (cM (C eQ) [(cG aa 1)]) (cM xP [(yZ .NotIn (cM (C eX) [(cG aa 1)]) (cM (C fp) [(cG aa 0),(cY 0)]))]))) λaa=>(eJ (d7 .Add (d7 .Add (cG aa 3) (cM (C eQ) [(cG aa 2)])) (cM xP [(yZ .NotIn (cM (C eX) [(cG aa 2)]) (cM (C fp) [(cG aa 0),(cY 1)]))]))))))))
theorem w9:nv C Cf Cr W aa=fG (KJ C Cf Cr W aa):=rfl
theorem KL:Ok "_law_due" (iZ 123) ["tree"] ["first","second","count","part"] (bd 123) nv:=λH _ _ _ _ hC hF hR W aa L a cd=>
 (eh (nY (GY H hC hF hR W rfl (by rfl')) (by(with_reducible refine oz (uP ?_));exact(pe (oJ H hC hF hR W rfl (by rfl')) (vI H.GW nI CZ (.cons rfl (oJ H hC hF hR W rfl (by rfl')) .nil) vE))) ko) λaa=>(eh (nY (GY H hC hF hR W rfl (by rfl')) (Ay H hC hF hR W rfl (by rfl')) ko) λaa=>(eh (nY (GY H hC hF hR W rfl (by rfl')) (eh (gt (i:=3) rfl rfl wL) λaa=>(eh (CP W (λ_=>rfl) (sZ (i:=4) rfl) (oJ H hC hF hR W rfl (by rfl')) (λaa=>(oz (Mu (i:=3) rfl (pe (oJ H hC hF hR W rfl (by rfl')) (vI H.GW nI CZ (.cons rfl (oJ H hC hF hR W rfl (by rfl')) .nil) vE)))))) λaa=>(Ay H hC hF hR W rfl (by rfl')))) ko) λaa=>(eh (Jd (ps:=[(("first":Str),⟨756,4,756,9⟩),(("second":Str),⟨756,11,756,17⟩)]) (is:=[1,2]) ⟨rfl,rfl,trivial⟩ rfl rfl rfl (oJ H hC hF hR W rfl (by rfl'))) λaa=>(eh (gt (i:=3) rfl rfl (pe (oJ H hC hF hR W rfl (by rfl')) (vI H.GW nI CZ (.cons rfl (oJ H hC hF hR W rfl (by rfl')) .nil) vE))) λaa=>(by(with_reducible refine oz (uP ?_));exact(pe (oJ H hC hF hR W rfl (by rfl')) (vI H.GW nI CZ (.cons rfl (oJ H hC hF hR W rfl (by rfl')) .nil) vE))))))))
def FU:Nd:=λC Cf Cr W aa=>(.seq (dA aa 1 (cI Cr [(cF aa 0)])) λaa=>(.seq (TG (dA aa 2 (cI (C jq) [(cF aa 1)]))) λaa=>(df (sq (cV .Eq (tf ii (cF aa 1)) (cI jQ [(cF aa 0)])) (cF aa 2) mz))))
def oo:Md:=λC Cf Cr W aa=>(dn (dZ aa 1 (cM Cr [(cG aa 0)])) λaa=>(dn (CR (dZ aa 2 (cM (C jq) [(cG aa 1)]))) λaa=>(eJ (E5 (dz .Eq (Hr ii (cG aa 1)) (cM jQ [(cG aa 0)])) (cG aa 2) MU))))
theorem tK:oo C Cf Cr W aa=fG (FU C Cf Cr W aa):=rfl
theorem FV:Ok "_law_heard" (iZ 124) ["tokens"] ["reader","tree"] (bd 124) oo:=λH _ _ _ _ hC hF hR W aa L a cd=>
 (eh (gt (i:=1) rfl rfl (oJ H hC hF hR W rfl (by rfl'))) λaa=>(eh (TC H.mke H.sf qW tt (Ay H hC hF hR W rfl (by rfl'))) λaa=>(Ay H hC hF hR W rfl (by rfl'))))
def NM:Md:=λC Cf Cr W aa=>(dn (dZ aa 1 (Hs [t8,ii,kO] [(lG (cG aa 0) none (some (cY 40))),(cY 0),(cY 12)])) λaa=>(dn (dZ aa 2 (cM (C dw) [(cG aa 1),(cY 4)])) λaa=>(dn (dZ aa 3 (cM (C kU) [(cM (C gG) [(cG aa 2)])])) λaa=>(dn (eS (dz .NotEq (cM (C iI) [(cG aa 3)]) (cG aa 2)) cU (dF aa)) λaa=>(dn (dZ aa 4 (m9 [])) λaa=>(dn (dZ aa 5 (m9 [])) λaa=>(dn (Fb W (qP 6) (cM jQ [(cG aa 3)]) (λaa=>(dn (eS (dz .Eq (lG (dP (cG aa 3) (cG aa 6)) none (some (cY 2))) (f7 [(cW i7),(cW fT)])) (oB aa (jC (cG aa 5) (cG aa 6))) (dF aa)) λaa=>(eS (dz .Eq (lG (dP (cG aa 3) (cG aa 6)) none (some (cY 2))) (f7 [(cW i7),(cW eY)])) (oB aa (jC (cG aa 4) (f7 [(E8 (cG aa 5)),(cG aa 6)]))) (dF aa)))) aa) λaa=>(dn (eS (dz .NotEq (cM jQ [(cG aa 4)]) (cM (C eQ) [(cG aa 2)])) cU (dF aa)) λaa=>(dn (BQ W (AH [7,8]) (cG aa 4) (λaa=>(eS (dz .Eq (cM (C iI) [(d7 .Add (d7 .Add (lG (cG aa 3) none (some (cG aa 7))) (lG (cG aa 3) (some (d7 .Add (cG aa 7) (cY 1))) (some (cG aa 8)))) (lG (cG aa 3) (some (d7 .Add (cG aa 8) (cY 1))) none))]) (cG aa 2)) cU (dF aa))) aa) λaa=>(eJ (uW true)))))))))))
theorem WU:Ok "law" (iZ 125) ["script"] ["urn","tree","tokens","pairs","opened","at","low","high"] (bd 125) NM:=λH _ _ _ _ hC hF hR W aa L a cd=>
 (eh (gt (i:=1) rfl rfl (Jh (ks:=[(("cells":Str),0,⟨767,11,767,18⟩),(("at":Str),0,⟨767,33,767,37⟩),(("fuel":Str),0,⟨767,42,767,48⟩)]) (by simp only[jg,List.map_nil,NC,WN,Qb]) (.cons rfl (oJ H hC hF hR W rfl (by rfl')) (.cons rfl wL (.cons rfl wL .nil))) rfl (by simp) (by simp) (by decide))) λaa=>(eh (gt (i:=2) rfl rfl (oJ H hC hF hR W rfl (by rfl'))) λaa=>(eh (gt (i:=3) rfl rfl (oJ H hC hF hR W rfl (by rfl'))) λaa=>(eh (nY (GY H hC hF hR W rfl (by rfl')) wT ko) λaa=>(eh (gt (i:=4) rfl rfl (oJ H hC hF hR W rfl (by rfl'))) λaa=>(eh (gt (i:=5) rfl rfl (oJ H hC hF hR W rfl (by rfl'))) λaa=>(eh (Fc W H.EA Fx Fw rfl (λ_=>rfl) (sZ (i:=6) rfl) (oJ H hC hF hR W rfl (by rfl')) (λaa=>(eh (nY (GY H hC hF hR W rfl (by rfl')) (Ay H hC hF hR W rfl (by rfl')) ko) λaa=>(oz (nY (GY H hC hF hR W rfl (by rfl')) (oz (CO (wS rfl (oJ H hC hF hR W rfl (by rfl')) rfl (Mj (.cons rfl (Tu rfl (oJ H hC hF hR W rfl (by rfl'))) (.cons rfl (oJ H hC hF hR W rfl (by rfl')) .nil)))) rfl rfl)) ko))))) λaa=>(Ay H hC hF hR W rfl (by rfl')))))))))
end
end
section
set_option tactic.hygienic true
end
section
open PySem.Calls PySem.Spec PyProof.Rows
section
set_option tactic.hygienic true
theorem WV{P:List α->Prop}(h:P []):∀l:List α,l.length=0->P l
 |[],_=>h
 |_::_,e=>nomatch e
theorem NN{k:Nat}{P:List α->Prop}(h:∀v l,l.length=k->P (v::l)):∀l:List α,l.length=k+1->P l
 |[],e=>nomatch e
 |v::l,e=>h v l (Nat.succ.inj e)
theorem YW{P:List α->Prop}(h:∀v0,P [v0]):∀l:List α,l.length=1->P l:=NN λv=>WV (P:=λl=>P (v::l)) (h v)
theorem KM{P:List α->Prop}(h:∀v0 v1,P [v0,v1]):∀l:List α,l.length=2->P l:=NN λv=>YW (P:=λl=>P (v::l)) (h v)
theorem NO{P:List α->Prop}(h:∀v0 v1 v2,P [v0,v1,v2]):∀l:List α,l.length=3->P l:=NN λv=>KM (P:=λl=>P (v::l)) (h v)
theorem aav{P:List α->Prop}(h:∀v0 v1 v2 v3,P [v0,v1,v2,v3]):∀l:List α,l.length=4->P l:=NN λv=>NO (P:=λl=>P (v::l)) (h v)
noncomputable abbrev io:Addr:=106
noncomputable abbrev jM:Addr:=141
noncomputable abbrev pk(a:Addr)(x:Str)(i:Nat):Addr×Str×Nat:=(a,x,i)
def Uf:List (Addr×Str×Nat):=[pk gn "refuse_here" 11,pk eU "token_ahead" 7,pk gz "peek_token" 8,pk eK "take_token" 9,pk jM "here_line" 10,pk fW "take_sign" 14,pk g8 "take_word" 15,pk jp "need_sign" 16,pk jo "need_name" 17,pk gA "tree_parts" 21,pk iT "check_height" 22,pk kS "open_nest" 23,pk jX "close_nest" 24,pk gU "bounded_tree" 25,pk il "is_reserved" 30,pk jq "parse_expr" 37,pk fz "logical_word" 38,pk gg "logical_tree" 39,pk g7 "relation_sign" 40,pk eg "relation_tree" 41,pk gN "member_tree" 42,pk dQ "simple_tree" 43,pk gk "term_tree" 44,pk eM "factor_tree" 45,pk gh "primary_tree" 46,pk jL "name_tree" 48,pk gM "extent_tree" 51,pk gW "parse_choice" 53,pk jm "assoc_here" 54,pk jK "assoc_row" 55,pk gV "bracket_tree" 57,pk iD "refuse_ranges" 58,pk iU "lone_bracket" 59,pk f9 "small_sign" 74,pk fU "is_name_letter" 75,pk fy "is_name_part" 76,pk jn "name_token" 78,pk iV "read_numeral" 79,pk lY "power_of" 80,pk iw "number_token" 81,pk fF "delimiter_token" 85,pk ix "one_token" 86,pk kU "tokens_of" 88,pk dS "logical_sort" 96,pk ik "binding_of" 97,pk dG "show_within" 98,pk iA "show_logical" 99,pk jr "show_chain" 100,pk jY "figures_of" 101,pk jZ "show_based" 102,pk j0 "show_whole" 103,pk iz "show_literal" 106,pk jt "show_named" 110,pk ju "show_range" 112,pk iK "show_member" 113,pk gG "show_expr" 114,pk dh "_law_draw_next" 119,pk dw "_law_grow" 120,pk eX "_law_word" 121,pk fp "_law_free" 122,pk eQ "_law_due" 123,pk iI "_law_heard" 124]
structure WW(G:Gl)(a:Addr)(nm:Str)(pm:Arguments)(bod:List Stmt)(sc:Scope):Prop where
 is:∃T oc od tok m sl,FK G a nm pm bod sc (.ref T)/\G.K.lookup T=some ⟨oc,od,.seq #[.int 0 tok] m,sl⟩
structure HK(G:Gl):Prop extends HG G where
 sI:WW G io "Reader.__init__" (T0 6 0) (Vv 6 0) (Ku 6 0)
 Cq:WW G dO "is_sign" (Rt 12) (bd 12) (iZ 12)
 Ct:WW G eH "is_word" (Rt 13) (bd 13) (iZ 13)
 ks:∀p ∈ Uf,FK G p.1 p.2.1 (Rt p.2.2) (bd p.2.2) (iZ p.2.2) .none
 S2:FK G 28 "AdaError.__init__" (T0 1 0) (Vv 1 0) (Ku 1 0) .none
 S1:FK G 67 "SyntaxFault.__init__" (T0 3 0) (Vv 3 0) (Ku 3 0) .none
 e:Ho G 31 28 67
 xN:GF G "here_line" jM
 mgE:G.mg "Exception"=none
 mgA:G.mg "AdaError"=some (.ref 31)
 rm:makesIn G.K G.rC=true
 ri:findIn G.K (.ref G.rC) "__init__"=some (some (.ref io))
 rf:isFn G.K (.ref io)=true
abbrev Ck(a:Addr)(sem:(Addr->List PV->M PV)->(List PV->M Unit)->(List PV->M PV)->Nat->List PV->M PV):Prop:=∀{G:Gl}(_:HK G){n:Nat}{C:Addr->List PV->M PV}{Cf:List PV->M Unit}{Cr:List PV->M PV}(_:∀a,fK G n a (C a))(_:jS G n gn Cf)(_:fK G n G.rC Cr)(W:Nat),fK G (n+1) a (sem C Cf Cr W)
theorem HK.k(H:HK G)(k:Nat){nm:Str}(e:Uf[k]? =some (a,nm,i)):FK G a nm (Rt i) (bd i) (iZ i) .none:=H.ks _ (gu e)
noncomputable def NP(sc:Scope):Bool:=match sc.kind with| .function=>true|_=>false
def Ye(sc:Scope)(l:List Str):Bool:=(sc.names.all λx=>x.2 != .cell) &&(!sc.isCoroutine &&(!sc.isGenerator &&(NP sc &&(decide l.Nodup && l.all λx=>sc.names.lookup x == some .local))))
theorem NQ(h:NP sc=true):sc.kind= .function:=by unfold NP at h;cases e:sc.kind<;>rw[e]at h<;>first|rfl|exact mY h
theorem NR{l:List Str}(h:Ye sc l=true):WC sc/\l.Nodup/\(l.all λx=>sc.names.lookup x == some .local)=true:=by unfold Ye at h;simp only[ej,Bool.not_eq_true',decide_eq_true_eq]at h;exact⟨⟨h.1,h.2.1,h.2.2.1,NQ h.2.2.2.1⟩,h.2.2.2.2⟩
abbrev l9(a:Addr)(k:Nat)(m:Md)(j:Nat):Prop:=Ck a λC Cf Cr W=>semF k (m C Cf Cr W) [] j
def Fn(β:Type)(n:Nat):Type:=Nat.rec β (λ_ t=>Value->t) n
noncomputable def Qs(n:Nat):(List Value->β)->Fn β n:=Nat.rec (motive:=λn=>(List Value->β)->Fn β n) (λf=>f []) (λ_ h f v=>h λl=>f (v::l)) n
theorem Qt{f g:List Value->β}(e:Qs n f=Qs n g):∀l,l.length=n->f l=g l:=by
 induction n generalizing f g with
 |zero=>exact WV e
 |succ n h=>exact NN λv=>h (congrFun e v)
def bA(nm:Str)(i:Nat)(Vs:List Value):=λnm' kV doc pv an cd ct=>bindArgs (fnOf nm' nm (Rt i) (bd i) (iZ i) .none kV doc pv an cd ct) ⟨Vs,[]⟩
noncomputable def bB{γ δ ε ζ η:Type}(ps:List Str)(Vs:List Value):α->β->γ->δ->ε->ζ->η->Sem (List (Str×Value)):=λ_ _ _ _ _ _ _=>pure (ps.zip Vs)
theorem cX(k:Nat){nm:Str}(e:Uf[k]? =some (a,nm,i)){m:Md}(o:Ok nm (iZ i) ps more (bd i) m)(q:autoParam (Ye (iZ i) (ps++more)=true) kr)
  (b:autoParam (Qs ps.length (bA nm i)=Qs ps.length (bB ps)) kr):
  l9 a ps.length m more.length:=λH _ _ _ _ hC hF hR W=>
 wD (NR q) λq1 q2 q3=>WD (tZ (H.k k e) q1 rfl (CU λnm' kV doc pv an cd ct Vs h=>congrFun (congrFun (congrFun (congrFun (congrFun (congrFun (congrFun (Qt b Vs h) nm') kV) doc) pv) an) cd) ct)) q2 q3 λaa L cd=>o H.toHG hC hF hR W aa L _ cd
noncomputable def Jt(fd:FuncData)(Vs:List Value):{ k // bindArgs fd ⟨Vs,[]⟩=seqItems? fd.defaults >>= k }:=⟨_,rfl⟩
theorem cD{nm:Str}{pm:Arguments}{bod:List Stmt}{k:Nat}(F:∀{G},HK G->WW G a nm pm bod sc)(q:Ye sc (ps++more)=true)(hp:ps.length=k+1)
  (b:∀nm' T kV doc pv an cd ct tok Vs,Vs.length=k->(Jt (fnOf nm' nm pm bod sc (.ref T) kV doc pv an cd ct) Vs).1 (some #[.int 0 tok])=pure (ps.zip (Vs++[.int 0 tok])))
  (b':∀nm' T kV doc pv an cd ct tok Vs,Vs.length=k+1->(Jt (fnOf nm' nm pm bod sc (.ref T) kV doc pv an cd ct) Vs).1 (some #[.int 0 tok])=pure (ps.zip (Vs++[]))){m:Md}(o:Ok nm sc ps more bod m):
  Ck a λC Cf Cr W=>ph k (m C Cf Cr W) [.int 0] more.length:=λ{G} H _ _ _ _ hC hF hR W=>
 wD (NR q) λq1 q2 q3=>by
  obtain⟨T,oc,od,tok,mm,sl,f,ho⟩:=(F H).is
  exact TD (tZ f q1 hp λnm' kV doc pv an cd ct s Vs hs hl=>⟨[.int 0 tok],.cons (.int ..) .nil,binds_K (G.KX.keeps hs) rfl ho rfl (Jt _ _).2 (b nm' T kV doc pv an cd ct tok Vs hl)⟩)
   (tZ f q1 hp λnm' kV doc pv an cd ct s Vs hs hl=>⟨[],.nil,binds_K (G.KX.keeps hs) rfl ho rfl (Jt _ _).2 (b' nm' T kV doc pv an cd ct tok Vs hl)⟩) q2 q3 λaa L cd=>o H.toHG hC hF hR W aa L _ cd
theorem xX:Ck io λC Cf Cr W=>ph 2 (kf C Cf Cr W) [.int 0] 0:=
 cD (λH=>H.sI) (by rfl') rfl (λnm T kV doc pv an cd ct tok=>KM λv0 v1=>rfl) (λnm T kV doc pv an cd ct tok=>NO λv0 v1 v2=>rfl) xS
theorem AX:l9 eU 2 lJ 1:=cX 1 rfl AO
theorem Du:l9 gz 1 mC 0:=cX 2 rfl C2
theorem Dv:l9 eK 1 mD 1:=cX 3 rfl C4
theorem FW:l9 jM 1 n4 0:=cX 4 rfl FA
theorem KN:Ck dO λC Cf Cr W=>ph 2 (qX C Cf Cr W) [.int 0] 0:=
 cD (λH=>H.Cq) (by rfl') rfl (λnm T kV doc pv an cd ct tok=>KM λv0 v1=>rfl) (λnm T kV doc pv an cd ct tok=>NO λv0 v1 v2=>rfl) KH
theorem KO:Ck eH λC Cf Cr W=>ph 2 (qY C Cf Cr W) [.int 0] 0:=
 cD (λH=>H.Ct) (by rfl') rfl (λnm T kV doc pv an cd ct tok=>KM λv0 v1=>rfl) (λnm T kV doc pv an cd ct tok=>NO λv0 v1 v2=>rfl) KI
theorem FX:l9 fW 2 n5 0:=cX 5 rfl FB
theorem FY:l9 g8 2 n6 0:=cX 6 rfl FD
theorem FZ:l9 jp 2 n7 0:=cX 7 rfl FE
theorem F0:l9 jo 1 n8 0:=cX 8 rfl FF
theorem Dw:l9 gA 1 mE 3:=cX 9 rfl C7
theorem zF:l9 iT 2 kW 2:=cX 10 rfl zk
theorem F1:l9 kS 1 oa 0:=cX 11 rfl FG
theorem Dx:l9 jX 1 mF 0:=cX 12 rfl C9
theorem zG:l9 gU 2 kX 0:=cX 13 rfl zl
theorem AY:l9 il 1 lK 0:=cX 14 rfl AQ
theorem Dy:l9 jq 1 mG 0:=cX 15 rfl Da
theorem zH:l9 fz 1 kY 0:=cX 16 rfl zm
theorem zI:l9 gg 2 kZ 4:=cX 17 rfl zo
theorem xY:l9 g7 1 kg 1:=cX 18 rfl xT
theorem xZ:l9 eg 2 kh 1:=cX 19 rfl xU
theorem AZ:l9 gN 1 lL 1:=cX 20 rfl AR
theorem Ba:l9 dQ 1 lN 2:=cX 21 rfl AS
theorem F2:l9 gk 1 og 2:=cX 22 rfl FI
theorem Bb:l9 eM 1 lO 2:=cX 23 rfl AT
theorem zJ:l9 gh 1 jE 3:=cX 24 rfl zp
theorem F3:l9 jL 1 oh 1:=cX 25 rfl FM
theorem Bc:l9 gM 2 lP 0:=cX 26 rfl AU
theorem zK:l9 gW 1 k6 1:=cX 27 rfl zq
theorem Dz:l9 jm 1 mH 2:=cX 28 rfl Db
theorem F4:l9 jK 1 oi 2:=cX 29 rfl FN
theorem zL:l9 gV 1 k7 2:=cX 30 rfl zr
theorem ya:l9 iD 2 ki 2:=cX 31 rfl xV
theorem zM:l9 iU 2 k9 1:=cX 32 rfl zu
theorem DE:l9 f9 1 mI 0:=cX 33 rfl Dd
theorem xa:l9 fU 1 jH 0:=cX 34 rfl w6
theorem zN:l9 fy 1 lf 0:=cX 35 rfl zv
theorem DF:l9 jn 3 mJ 2:=cX 36 rfl Df
theorem zO:l9 iV 4 lh 4:=cX 37 rfl zw
theorem H0:l9 lY 3 pN 5:=cX 38 rfl HV
theorem zP:l9 iw 3 li 10:=cX 39 rfl zy
theorem v5:l9 fF 3 jv 0:=cX 40 rfl vY
theorem F5:l9 ix 4 oj 1:=cX 41 rfl FP
theorem F6:l9 kU 1 ol 4:=cX 42 rfl FR
theorem zQ:l9 dS 1 mK 0:=cX 43 rfl zA
theorem DG:l9 ik 1 mL 0:=cX 44 rfl Di
theorem Bd:l9 dG 2 lQ 0:=cX 45 rfl AV
theorem zR:l9 iA 1 lj 4:=cX 46 rfl zB
theorem DH:l9 jr 1 mM 5:=cX 47 rfl Dj
theorem DI:l9 jY 3 mN 1:=cX 48 rfl Dl
theorem DJ:l9 jZ 3 oY 1:=cX 49 rfl Dn
theorem DK:l9 j0 1 oZ 3:=cX 50 rfl Do
theorem zS:l9 iz 1 ll 0:=cX 51 rfl zD
theorem DL:l9 jt 1 o0 1:=cX 52 rfl Dq
theorem DM:l9 ju 1 mO 0:=cX 53 rfl Dt
theorem Be:l9 iK 1 lR 1:=cX 54 rfl AW
theorem F7:l9 gG 1 l8 1:=cX 55 rfl FT
theorem yb:l9 dh 2 kl 1:=cX 56 rfl xW
theorem H4:l9 dw 2 pO 7:=cX 57 rfl HX
theorem H5:l9 eX 1 rQ 0:=cX 58 rfl HY
theorem H6:l9 fp 2 pP 2:=cX 59 rfl HZ
theorem KP:l9 eQ 1 nv 4:=cX 60 rfl KL
theorem F8:l9 iI 1 oo 2:=cX 61 rfl FV
structure CT where
 c:Addr->List PV->M PV
 f:List PV->M Unit
 r:List PV->M PV
def CT0:CT:=⟨λ_ _=>cU,λ_=>cU,λ_=>cU⟩
def Ug(W:Nat)(t:CT)(a:Addr):List PV->M PV:=
  if a=io then ph 2 (kf t.c t.f t.r W) [.int 0] 0 else
  if a=eU then semF 2 (lJ t.c t.f t.r W) [] 1 else
  if a=gz then semF 1 (mC t.c t.f t.r W) [] 0 else
  if a=eK then semF 1 (mD t.c t.f t.r W) [] 1 else
  if a=jM then semF 1 (n4 t.c t.f t.r W) [] 0 else
  if a=dO then ph 2 (qX t.c t.f t.r W) [.int 0] 0 else
  if a=eH then ph 2 (qY t.c t.f t.r W) [.int 0] 0 else
  if a=fW then semF 2 (n5 t.c t.f t.r W) [] 0 else
  if a=g8 then semF 2 (n6 t.c t.f t.r W) [] 0 else
  if a=jp then semF 2 (n7 t.c t.f t.r W) [] 0 else
  if a=jo then semF 1 (n8 t.c t.f t.r W) [] 0 else
  if a=gA then semF 1 (mE t.c t.f t.r W) [] 3 else
  if a=iT then semF 2 (kW t.c t.f t.r W) [] 2 else
  if a=kS then semF 1 (oa t.c t.f t.r W) [] 0 else
  if a=jX then semF 1 (mF t.c t.f t.r W) [] 0 else
  if a=gU then semF 2 (kX t.c t.f t.r W) [] 0 else
  if a=il then semF 1 (lK t.c t.f t.r W) [] 0 else
  if a=jq then semF 1 (mG t.c t.f t.r W) [] 0 else
  if a=fz then semF 1 (kY t.c t.f t.r W) [] 0 else
  if a=gg then semF 2 (kZ t.c t.f t.r W) [] 4 else
  if a=g7 then semF 1 (kg t.c t.f t.r W) [] 1 else
  if a=eg then semF 2 (kh t.c t.f t.r W) [] 1 else
  if a=gN then semF 1 (lL t.c t.f t.r W) [] 1 else
  if a=dQ then semF 1 (lN t.c t.f t.r W) [] 2 else
  if a=gk then semF 1 (og t.c t.f t.r W) [] 2 else
  if a=eM then semF 1 (lO t.c t.f t.r W) [] 2 else
  if a=gh then semF 1 (jE t.c t.f t.r W) [] 3 else
  if a=jL then semF 1 (oh t.c t.f t.r W) [] 1 else
  if a=gM then semF 2 (lP t.c t.f t.r W) [] 0 else
  if a=gW then semF 1 (k6 t.c t.f t.r W) [] 1 else
  if a=jm then semF 1 (mH t.c t.f t.r W) [] 2 else
  if a=jK then semF 1 (oi t.c t.f t.r W) [] 2 else
  if a=gV then semF 1 (k7 t.c t.f t.r W) [] 2 else
  if a=iD then semF 2 (ki t.c t.f t.r W) [] 2 else
  if a=iU then semF 2 (k9 t.c t.f t.r W) [] 1 else
  if a=f9 then semF 1 (mI t.c t.f t.r W) [] 0 else
  if a=fU then semF 1 (jH t.c t.f t.r W) [] 0 else
  if a=fy then semF 1 (lf t.c t.f t.r W) [] 0 else
  if a=jn then semF 3 (mJ t.c t.f t.r W) [] 2 else
  if a=iV then semF 4 (lh t.c t.f t.r W) [] 4 else
  if a=lY then semF 3 (pN t.c t.f t.r W) [] 5 else
  if a=iw then semF 3 (li t.c t.f t.r W) [] 10 else
  if a=fF then semF 3 (jv t.c t.f t.r W) [] 0 else
  if a=ix then semF 4 (oj t.c t.f t.r W) [] 1 else
  if a=kU then semF 1 (ol t.c t.f t.r W) [] 4 else
  if a=dS then semF 1 (mK t.c t.f t.r W) [] 0 else
  if a=ik then semF 1 (mL t.c t.f t.r W) [] 0 else
  if a=dG then semF 2 (lQ t.c t.f t.r W) [] 0 else
  if a=iA then semF 1 (lj t.c t.f t.r W) [] 4 else
  if a=jr then semF 1 (mM t.c t.f t.r W) [] 5 else
  if a=jY then semF 3 (mN t.c t.f t.r W) [] 1 else
  if a=jZ then semF 3 (oY t.c t.f t.r W) [] 1 else
  if a=j0 then semF 1 (oZ t.c t.f t.r W) [] 3 else
  if a=iz then semF 1 (ll t.c t.f t.r W) [] 0 else
  if a=jt then semF 1 (o0 t.c t.f t.r W) [] 1 else
  if a=ju then semF 1 (mO t.c t.f t.r W) [] 0 else
  if a=iK then semF 1 (lR t.c t.f t.r W) [] 1 else
  if a=gG then semF 1 (l8 t.c t.f t.r W) [] 1 else
  if a=dh then semF 2 (kl t.c t.f t.r W) [] 1 else
  if a=dw then semF 2 (pO t.c t.f t.r W) [] 7 else
  if a=eX then semF 1 (rQ t.c t.f t.r W) [] 0 else
  if a=fp then semF 2 (pP t.c t.f t.r W) [] 2 else
  if a=eQ then semF 1 (nv t.c t.f t.r W) [] 4 else
  if a=iI then semF 1 (oo t.c t.f t.r W) [] 2 else
  λ_=>cU
def NS(b:Bool)(t:CT)(vs:List PV):M Unit:=if b then(if vs.length=2 then CQ (cM (t.c jM) [cG (eR vs [] 0) 0]) (cG (eR vs [] 0) 1)else cU)else cU
noncomputable def CN(W:Nat):Nat->CT
 | 0=>CT0
 |n+1=>⟨Ug W (CN W n),NS (decide (3<=n)) (CN W n),EZ ((CN W n).c io)⟩
theorem dU{x:Addr}{s t:List PV->M PV}(h1:fK G n x s)(h2:fK G n a t):fK G n a (if a=x then s else t):=by
 by_cases h:a=x
 ·rw[cH h,h];exact h1
 ·rw[cJ h];exact h2
theorem Uh(H:HK G){t:CT}(hC:∀a,fK G n a (t.c a))(hF:jS G n gn t.f)(hR:fK G n G.rC t.r)(W:Nat)(a:Addr):fK G (n+1) a (Ug W t a):=by
 unfold Ug;exact dU (xX H hC hF hR W) (dU (AX H hC hF hR W) (dU (Du H hC hF hR W) (dU (Dv H hC hF hR W) (dU (FW H hC hF hR W) (dU (KN H hC hF hR W) (dU (KO H hC hF hR W) (dU (FX H hC hF hR W) (dU (FY H hC hF hR W) (dU (FZ H hC hF hR W) (dU (F0 H hC hF hR W) (dU (Dw H hC hF hR W) (dU (zF H hC hF hR W) (dU (F1 H hC hF hR W) (dU (Dx H hC hF hR W) (dU (zG H hC hF hR W) (dU (AY H hC hF hR W) (dU (Dy H hC hF hR W) (dU (zH H hC hF hR W) (dU (zI H hC hF hR W) (dU (xY H hC hF hR W) (dU (xZ H hC hF hR W) (dU (AZ H hC hF hR W) (dU (Ba H hC hF hR W) (dU (F2 H hC hF hR W) (dU (Bb H hC hF hR W) (dU (zJ H hC hF hR W) (dU (F3 H hC hF hR W) (dU (Bc H hC hF hR W) (dU (zK H hC hF hR W) (dU (Dz H hC hF hR W) (dU (F4 H hC hF hR W) (dU (zL H hC hF hR W) (dU (ya H hC hF hR W) (dU (zM H hC hF hR W) (dU (DE H hC hF hR W) (dU (xa H hC hF hR W) (dU (zN H hC hF hR W) (dU (DF H hC hF hR W) (dU (zO H hC hF hR W) (dU (H0 H hC hF hR W) (dU (zP H hC hF hR W) (dU (v5 H hC hF hR W) (dU (F5 H hC hF hR W) (dU (F6 H hC hF hR W) (dU (zQ H hC hF hR W) (dU (DG H hC hF hR W) (dU (Bd H hC hF hR W) (dU (zR H hC hF hR W) (dU (DH H hC hF hR W) (dU (DI H hC hF hR W) (dU (DJ H hC hF hR W) (dU (DK H hC hF hR W) (dU (zS H hC hF hR W) (dU (DL H hC hF hR W) (dU (DM H hC hF hR W) (dU (Be H hC hF hR W) (dU (F7 H hC hF hR W) (dU (yb H hC hF hR W) (dU (H4 H hC hF hR W) (dU (H5 H hC hF hR W) (dU (H6 H hC hF hR W) (dU (KP H hC hF hR W) (dU (F8 H hC hF hR W) (wX))))))))))))))))))))))))))))))))))))))))))))))))))))))))))))))))
theorem Qu(H:HK G)(A:Around)(s:Shared)(V W:Value)(R:Result->Shared->Prop)(hb:G.h₀.StaysIn s.heap)(hsz:G.h₀.objs.size<=s.heap.objs.size)(hroom:A.depth+3<1000)
  (h:∀h' tk x,(∀b o,s.heap.get? b=some o->h'.get? b=some o)->s.heap.get? x=none->EL G s.heap h' x->R (.ok (.ret (.ref x))) { s with heap:=h',toks:=tk }):codeAny (model G.prog G.w) A (.call (.ref G.fC) ⟨[V,W],[]⟩) R s:=by
 obtain⟨cd1,f1⟩:=tZ (ps:=["self","text"]) (k:=2) (ds:=[]) H.S2 ⟨by decide+kernel,rfl,rfl,rfl⟩ rfl (CU λnm kV doc pv an cd ct=>KM λv0 v1=>rfl);obtain⟨cd2,f2⟩:=tZ (ps:=["self","line","text"]) (k:=3) (ds:=[]) H.S1 ⟨by decide+kernel,rfl,rfl,rfl⟩ rfl (CU λnm kV doc pv an cd ct=>NO λv0 v1 v2=>rfl);have i1:uT G 28 "AdaError.__init__" (Ku 1 0) cd1 ["self","text"] "Exception" (Vv 1 0):=⟨f1,by decide+kernel,by decide+kernel⟩;have i2:uT G 67 "SyntaxFault.__init__" (Ku 3 0) cd2 ["self","line","text"] "AdaError" (Vv 3 0):=⟨f2,by decide+kernel,by decide+kernel⟩;exact Hp H.e i1 H.mgE rfl i2 H.mgA rfl hb hsz hroom h
theorem Qv(H:HK G){t:CT}(hC:∀a,fK G (n+3) a (t.c a)):jS G (n+4) gn (NS true t):=by
 obtain⟨cd,fn⟩:=tZ (ps:=["reader","text"]) (k:=2) (ds:=[]) (H.k 0 rfl) ⟨by decide+kernel,rfl,rfl,rfl⟩ rfl (CU λnm kV doc pv an cd ct=>KM λv0 v1=>rfl)
 exact ML (more:=[]) (m1:=λvs=>cM (t.c jM) [cG (eR vs [] 0) 0]) (m2:=λvs=>cG (eR vs [] 0) 1) H.e (Qu H) fn (by decide+kernel) (by decide+kernel) (by decide+kernel) tt H.sf rfl rfl λvs L _=>
  ⟨Jg H.xN (show(iZ 11).names.lookup ("here_line":Str)=some .globalImplicit by decide+kernel) CY (.cons rfl (vz (i:=0) rfl KF) .nil) (hC _),vz (i:=1) rfl Qr⟩
theorem SJ{G:Gl}(H:HK G)(W:Nat):∀n,(∀a,fK G n a ((CN W n).c a))/\jS G n gn (CN W n).f/\fK G n G.rC (CN W n).r
 | 0=>⟨λ_=>wX,y6,wX⟩
 |n+1=>by
  obtain⟨h1,h2,h3⟩:=SJ H W n;refine⟨Uh H h1 h2 h3 W,?_,PH H.rm H.ri H.rf (h1 _)⟩;show jS G (n+1) gn (NS (decide (3<=n)) (CN W n));by_cases h:3<=n
  ·obtain⟨k,rfl⟩:∃k,n=k+3:=⟨n -3,by omega⟩;rw[eE h];exact Qv H h1
  ·rw[ft h];exact y6
variable(W n:Nat)
theorem xb:(CN W (n+1)).c io=ph 2 (kf (CN W n).c (CN W n).f (CN W n).r W) [.int 0] 0:=rfl
theorem zT:(CN W (n+1)).c eU=semF 2 (lJ (CN W n).c (CN W n).f (CN W n).r W) [] 1:=rfl
theorem Bf:(CN W (n+1)).c gz=semF 1 (mC (CN W n).c (CN W n).f (CN W n).r W) [] 0:=rfl
theorem Bg:(CN W (n+1)).c eK=semF 1 (mD (CN W n).c (CN W n).f (CN W n).r W) [] 1:=rfl
theorem DN:(CN W (n+1)).c jM=semF 1 (n4 (CN W n).c (CN W n).f (CN W n).r W) [] 0:=rfl
theorem H7:(CN W (n+1)).c dO=ph 2 (qX (CN W n).c (CN W n).f (CN W n).r W) [.int 0] 0:=rfl
theorem zU:(CN W (n+1)).c eH=ph 2 (qY (CN W n).c (CN W n).f (CN W n).r W) [.int 0] 0:=rfl
theorem DO:(CN W (n+1)).c fW=semF 2 (n5 (CN W n).c (CN W n).f (CN W n).r W) [] 0:=rfl
theorem DP:(CN W (n+1)).c g8=semF 2 (n6 (CN W n).c (CN W n).f (CN W n).r W) [] 0:=rfl
theorem DQ:(CN W (n+1)).c jp=semF 2 (n7 (CN W n).c (CN W n).f (CN W n).r W) [] 0:=rfl
theorem DR:(CN W (n+1)).c jo=semF 1 (n8 (CN W n).c (CN W n).f (CN W n).r W) [] 0:=rfl
theorem Bh:(CN W (n+1)).c gA=semF 1 (mE (CN W n).c (CN W n).f (CN W n).r W) [] 3:=rfl
theorem yc:(CN W (n+1)).c iT=semF 2 (kW (CN W n).c (CN W n).f (CN W n).r W) [] 2:=rfl
theorem DS:(CN W (n+1)).c kS=semF 1 (oa (CN W n).c (CN W n).f (CN W n).r W) [] 0:=rfl
theorem Bi:(CN W (n+1)).c jX=semF 1 (mF (CN W n).c (CN W n).f (CN W n).r W) [] 0:=rfl
theorem sC:(CN W (n+1)).c gU=semF 2 (kX (CN W n).c (CN W n).f (CN W n).r W) [] 0:=rfl
theorem zV:(CN W (n+1)).c il=semF 1 (lK (CN W n).c (CN W n).f (CN W n).r W) [] 0:=rfl
theorem Bj:(CN W (n+1)).c jq=semF 1 (mG (CN W n).c (CN W n).f (CN W n).r W) [] 0:=rfl
theorem yd:(CN W (n+1)).c fz=semF 1 (kY (CN W n).c (CN W n).f (CN W n).r W) [] 0:=rfl
theorem ye:(CN W (n+1)).c gg=semF 2 (kZ (CN W n).c (CN W n).f (CN W n).r W) [] 4:=rfl
theorem xc:(CN W (n+1)).c g7=semF 1 (kg (CN W n).c (CN W n).f (CN W n).r W) [] 1:=rfl
theorem xd:(CN W (n+1)).c eg=semF 2 (kh (CN W n).c (CN W n).f (CN W n).r W) [] 1:=rfl
theorem zW:(CN W (n+1)).c gN=semF 1 (lL (CN W n).c (CN W n).f (CN W n).r W) [] 1:=rfl
theorem zX:(CN W (n+1)).c dQ=semF 1 (lN (CN W n).c (CN W n).f (CN W n).r W) [] 2:=rfl
theorem DT:(CN W (n+1)).c gk=semF 1 (og (CN W n).c (CN W n).f (CN W n).r W) [] 2:=rfl
theorem zY:(CN W (n+1)).c eM=semF 1 (lO (CN W n).c (CN W n).f (CN W n).r W) [] 2:=rfl
theorem yf:(CN W (n+1)).c gh=semF 1 (jE (CN W n).c (CN W n).f (CN W n).r W) [] 3:=rfl
theorem v6:(CN W (n+1)).c jL=semF 1 (oh (CN W n).c (CN W n).f (CN W n).r W) [] 1:=rfl
theorem zZ:(CN W (n+1)).c gM=semF 2 (lP (CN W n).c (CN W n).f (CN W n).r W) [] 0:=rfl
theorem yg:(CN W (n+1)).c gW=semF 1 (k6 (CN W n).c (CN W n).f (CN W n).r W) [] 1:=rfl
theorem Bk:(CN W (n+1)).c jm=semF 1 (mH (CN W n).c (CN W n).f (CN W n).r W) [] 2:=rfl
theorem DU:(CN W (n+1)).c jK=semF 1 (oi (CN W n).c (CN W n).f (CN W n).r W) [] 2:=rfl
theorem sD:(CN W (n+1)).c gV=semF 1 (k7 (CN W n).c (CN W n).f (CN W n).r W) [] 2:=rfl
theorem xe:(CN W (n+1)).c iD=semF 2 (ki (CN W n).c (CN W n).f (CN W n).r W) [] 2:=rfl
theorem yh:(CN W (n+1)).c iU=semF 2 (k9 (CN W n).c (CN W n).f (CN W n).r W) [] 1:=rfl
theorem Bl:(CN W (n+1)).c f9=semF 1 (mI (CN W n).c (CN W n).f (CN W n).r W) [] 0:=rfl
theorem v7:(CN W (n+1)).c fU=semF 1 (jH (CN W n).c (CN W n).f (CN W n).r W) [] 0:=rfl
theorem yi:(CN W (n+1)).c fy=semF 1 (lf (CN W n).c (CN W n).f (CN W n).r W) [] 0:=rfl
theorem Bm:(CN W (n+1)).c jn=semF 3 (mJ (CN W n).c (CN W n).f (CN W n).r W) [] 2:=rfl
theorem yj:(CN W (n+1)).c iV=semF 4 (lh (CN W n).c (CN W n).f (CN W n).r W) [] 4:=rfl
theorem F9:(CN W (n+1)).c lY=semF 3 (pN (CN W n).c (CN W n).f (CN W n).r W) [] 5:=rfl
theorem yk:(CN W (n+1)).c iw=semF 3 (li (CN W n).c (CN W n).f (CN W n).r W) [] 10:=rfl
theorem pR:(CN W (n+1)).c fF=semF 3 (jv (CN W n).c (CN W n).f (CN W n).r W) [] 0:=rfl
theorem DV:(CN W (n+1)).c ix=semF 4 (oj (CN W n).c (CN W n).f (CN W n).r W) [] 1:=rfl
theorem DW:(CN W (n+1)).c kU=semF 1 (ol (CN W n).c (CN W n).f (CN W n).r W) [] 4:=rfl
theorem yl:(CN W (n+1)).c dS=semF 1 (mK (CN W n).c (CN W n).f (CN W n).r W) [] 0:=rfl
theorem Bn:(CN W (n+1)).c ik=semF 1 (mL (CN W n).c (CN W n).f (CN W n).r W) [] 0:=rfl
theorem z0:(CN W (n+1)).c dG=semF 2 (lQ (CN W n).c (CN W n).f (CN W n).r W) [] 0:=rfl
theorem ym:(CN W (n+1)).c iA=semF 1 (lj (CN W n).c (CN W n).f (CN W n).r W) [] 4:=rfl
theorem Bo:(CN W (n+1)).c jr=semF 1 (mM (CN W n).c (CN W n).f (CN W n).r W) [] 5:=rfl
theorem Bp:(CN W (n+1)).c jY=semF 3 (mN (CN W n).c (CN W n).f (CN W n).r W) [] 1:=rfl
theorem Bq:(CN W (n+1)).c jZ=semF 3 (oY (CN W n).c (CN W n).f (CN W n).r W) [] 1:=rfl
theorem Br:(CN W (n+1)).c j0=semF 1 (oZ (CN W n).c (CN W n).f (CN W n).r W) [] 3:=rfl
theorem yn:(CN W (n+1)).c iz=semF 1 (ll (CN W n).c (CN W n).f (CN W n).r W) [] 0:=rfl
theorem Bs:(CN W (n+1)).c jt=semF 1 (o0 (CN W n).c (CN W n).f (CN W n).r W) [] 1:=rfl
theorem Bt:(CN W (n+1)).c ju=semF 1 (mO (CN W n).c (CN W n).f (CN W n).r W) [] 0:=rfl
theorem z5:(CN W (n+1)).c iK=semF 1 (lR (CN W n).c (CN W n).f (CN W n).r W) [] 1:=rfl
theorem j1:(CN W (n+1)).c gG=semF 1 (l8 (CN W n).c (CN W n).f (CN W n).r W) [] 1:=rfl
theorem xf:(CN W (n+1)).c dh=semF 2 (kl (CN W n).c (CN W n).f (CN W n).r W) [] 1:=rfl
theorem Ga:(CN W (n+1)).c dw=semF 2 (pO (CN W n).c (CN W n).f (CN W n).r W) [] 7:=rfl
theorem Gb:(CN W (n+1)).c eX=semF 1 (rQ (CN W n).c (CN W n).f (CN W n).r W) [] 0:=rfl
theorem Gc:(CN W (n+1)).c fp=semF 2 (pP (CN W n).c (CN W n).f (CN W n).r W) [] 2:=rfl
theorem H8:(CN W (n+1)).c eQ=semF 1 (nv (CN W n).c (CN W n).f (CN W n).r W) [] 4:=rfl
theorem DX:(CN W (n+1)).c iI=semF 1 (oo (CN W n).c (CN W n).f (CN W n).r W) [] 2:=rfl
end
theorem Qw{vs:List Value}{xs:List Int}(hi:IntsAre vs xs):dD h vs (xs.map .int):=by
 induction hi with
 |nil=>exact .nil
 |cons n t _ ih=>exact .cons (.int n t) ih
def z6:Prop:=∀xs:List Int,xs.length<=63->∃n W σ',n<=500/\NM (CN W n).c (CN W n).f (CN W n).r W (eR [.cl (xs.map .int)] [] 8) []=some (.ok (.ret (.d (.bool true))),σ')
theorem NT(H:HK G)(run:z6){fa l:Addr}{items:List Value}{xs:List Int}{m:Str->Option Value}{Q:Flow->Shared->Prop}
  (F:Fr G.h₀ L h₁ m)(hm:m "script"=some (.ref l))(hl:G.h₀.IsList l items.toArray)(hi:IntsAre items xs)(hlen:xs.length<=63)(hsh:s.heap=h₁)
  (hE:PassesOwn (model G.prog G.w) (callerA.deeper (envOf "law" (iZ 125) L fa cd)) (envOf "law" (iZ 125) L fa cd) E)
  (hQ:∀h' tk',G.h₀.StaysIn h'->Q (.ret (.bool true)) { s with heap:=h',toks:=tk' }):
  wpAny (model G.prog G.w) (callerA.deeper (envOf "law" (iZ 125) L fa cd)) (execs (bd 125) (envOf "law" (iZ 125) L fa cd)) Q E s:=by
 subst hsh;refine o9 (run xs hlen) λn W σ' hn e=> ?_;refine wD (SJ H W n) λh1 h2 h3=> ?_
 have C:wK G (callerA.deeper (envOf "law" (iZ 125) L fa cd)) n ⟨"law",iZ 125,L,fa,cd,(["script"]:List Str)++(["urn","tree","tokens","pairs","opened","at","low","high"]:List Str)⟩ [] []:=
  {
   hA:=rfl
   out:=rfl
   kinds:=λe m=>by cases m
   hk:=rfl
   hh:=rfl
   hd:=by show 1+claimMargin+1+n<1000;unfold claimMargin;exact(lE (.t (.a (.a (.a K1 (.k 300)) K1) A0) (.k 1000)) [.l A0 (.k 500)]) hn
   hu:=by show 4+3+16 * n+200<9900;exact(lE (.t (.a (.a (.a (.k 4) (.k 3)) (.l 16 A0)) (.k 200)) (.k 9900)) [.l A0 (.k 500)]) hn
   nd:=(by decide+kernel:((["script"]:List Str)++(["urn","tree","tokens","pairs","opened","at","low","high"]:List Str)).Nodup)
   aa:=λx hx=>by
    have:((["script"]:List Str)++(["urn","tree","tokens","pairs","opened","at","low","high"]:List Str)).all (λx=>(iZ 125).names.lookup x == some .local)=true:=by decide+kernel
    have:=fu.mp this x hx
    simpa using this }
 have S:St G [L] [] [] s.heap:=by refine⟨F.keep,rfl,List.nodup_nil,λk a o h1 _=>by simp at h1,λa m=>(by cases m),λb mb=> ?_,by simp,λb _ m=>by cases m⟩;cases ff.mp mb;refine iO F.ns λo es ep e1 e2 _=> ?_;exact⟨F.above,o,e1,es,ep,e2⟩
 have Lc:uq G s.heap [] ⟨"law",iZ 125,L,fa,cd,(["script"]:List Str)++(["urn","tree","tokens","pairs","opened","at","low","high"]:List Str)⟩ (eR [.cl (xs.map .int)] [] 8):=by
  refine⟨m,F.ns,λi x v e1 e2=> ?_⟩
  match i with
  | 0=>
   have e1:some ("script":Str)=some x:=e1;have e2:some (some (PV.cl (xs.map .int)))=some (some v):=e2;replace e1:=si e1;subst e1;cases e2;exact⟨_,hm,l,items.toArray,rfl,hl,by simpa using Qw hi⟩
  |i+1=>
   have e2:(List.replicate 8 (none:Option PV))[i]? =some (some v):=e2;have:=List.eq_of_mem_replicate (gu e2);exact yt this
 refine WU H.toHG h1 h2 h3 W _ L fa cd _ _ _ _ _ s Q E _ _ hE C S Lc e ?_;intro V h' tk ad' S' p' r';obtain rfl:=Rd.bool_inv r';exact hQ h' tk S'.base
end
section
open PyProof.Rows
section
noncomputable abbrev PP:Program:=PySem.Challenge.pw_xm0009_01
noncomputable def Az:Pos:=⟨0,0,0,0⟩
def sK:Env:={ scope:=PP.main.scope,locals:=mainNs,globals:=mainNs,cells:=[],code:= .ref 13,frame:=some 14 }
def sM:Code:= .body (behindTheImports PP) sK
noncomputable def rS(tr:BT)(n tk:Nat)(os:OsState):SharedT:=⟨tr,n,{},#[],{},tk,os⟩
def sl(a n:Nat):List Stmt:=((behindTheImports PP).drop a).take n
theorem pc0(w:World)(os:OsState):segRunT treeTable PP w 11 (some (.ref 6)) 1 238 (rS (X6 w.params) 15 187 os) (piecesOf (sl 0 2) sK sM ⟨0,0,0,0⟩ [topFrame Az])=some (.next,rS (ZM w.params) 35 218 os,sM,⟨2,0,6,24⟩):=by rfl'
theorem pc1(w:World)(os:OsState):segRunT treeTable PP w 11 (some (.ref 6)) 1 247 (rS (ZM w.params) 35 218 os) (piecesOf (sl 2 1) sK sM ⟨2,0,6,24⟩ [topFrame Az])=some (.next,rS (ZN w.params) 54 244 os,sM,⟨7,0,11,24⟩):=by rfl'
theorem pc2(w:World)(os:OsState):segRunT treeTable PP w 11 (some (.ref 6)) 1 247 (rS (ZN w.params) 54 244 os) (piecesOf (sl 3 1) sK sM ⟨7,0,11,24⟩ [topFrame Az])=some (.next,rS (ZO w.params) 73 270 os,sM,⟨12,0,16,24⟩):=by rfl'
theorem pc3(w:World)(os:OsState):segRunT treeTable PP w 11 (some (.ref 6)) 1 259 (rS (ZO w.params) 73 270 os) (piecesOf (sl 4 2) sK sM ⟨12,0,16,24⟩ [topFrame Az])=some (.next,rS (ZP w.params) 92 301 os,sM,⟨24,0,24,8⟩):=by rfl'
theorem pc4(w:World)(os:OsState):segRunT treeTable PP w 11 (some (.ref 6)) 1 389 (rS (ZP w.params) 92 301 os) (piecesOf (sl 6 6) sK sM ⟨24,0,24,8⟩ [topFrame Az])=some (.next,rS (ZQ w.params) 149 385 os,sM,⟨58,0,59,47⟩):=by rfl'
theorem pc5(w:World)(os:OsState):segRunT treeTable PP w 11 (some (.ref 6)) 1 368 (rS (ZQ w.params) 149 385 os) (piecesOf (sl 12 15) sK sM ⟨58,0,59,47⟩ [topFrame Az])=some (.next,rS (ZR w.params) 226 482 os,sM,⟨113,0,113,8⟩):=by rfl'
theorem pc6(w:World)(os:OsState):segRunT treeTable PP w 11 (some (.ref 6)) 1 399 (rS (ZR w.params) 226 482 os) (piecesOf (sl 27 15) sK sM ⟨113,0,113,8⟩ [topFrame Az])=some (.next,rS (ZS w.params) 282 656 os,sM,⟨157,0,172,15⟩):=by rfl'
theorem pc7(w:World)(os:OsState):segRunT treeTable PP w 11 (some (.ref 6)) 1 373 (rS (ZS w.params) 282 656 os) (piecesOf (sl 42 12) sK sM ⟨157,0,172,15⟩ [topFrame Az])=some (.next,rS (ZT w.params) 366 764 os,sM,⟨283,0,289,37⟩):=by rfl'
theorem pc8(w:World)(os:OsState):segRunT treeTable PP w 11 (some (.ref 6)) 1 373 (rS (ZT w.params) 366 764 os) (piecesOf (sl 54 20) sK sM ⟨283,0,289,37⟩ [topFrame Az])=some (.next,rS (ZU w.params) 423 870 os,sM,⟨376,0,376,10⟩):=by rfl'
theorem pc9(w:World)(os:OsState):segRunT treeTable PP w 11 (some (.ref 6)) 1 391 (rS (ZU w.params) 423 870 os) (piecesOf (sl 74 12) sK sM ⟨376,0,376,10⟩ [topFrame Az])=some (.next,rS (S7 w.params) 507 996 os,sM,⟨478,0,483,55⟩):=by rfl'
theorem YX(w:World):∀os:OsState,segRunT treeTable PP w 11 (some (.ref 6)) 1 392 (rS (S7 w.params) 507 996 os) (piecesOf (sl 86 6) sK sM ⟨478,0,483,55⟩ [topFrame Az])=some (.next,rS (Pi w.params) 543 1102 os,sM,⟨517,0,517,7⟩):=by
 refine byRow2 "special-get-raises" (P:=λw=>∀os:OsState,segRunT treeTable PP w 11 (some (.ref 6)) 1 392 (rS (S7 w.params) 507 996 os) (piecesOf (sl 86 6) sK sM ⟨478,0,483,55⟩ [topFrame Az])=some (.next,rS (Pi w.params) 543 1102 os,sM,⟨517,0,517,7⟩)) (λw os=> ?_) (λw os=> ?_) w
 ·rfl'
 ·rfl'
theorem YY(w:World):∀os:OsState,segRunT treeTable PP w 11 (some (.ref 6)) 1 380 (rS (Pi w.params) 543 1102 os) (piecesOf (sl 92 13) sK sM ⟨517,0,517,7⟩ [topFrame Az])=some (.next,rS (S8 w.params) 608 1219 os,sM,⟨584,0,595,63⟩):=by
 refine byRow2 "special-get-raises" (P:=λw=>∀os:OsState,segRunT treeTable PP w 11 (some (.ref 6)) 1 380 (rS (Pi w.params) 543 1102 os) (piecesOf (sl 92 13) sK sM ⟨517,0,517,7⟩ [topFrame Az])=some (.next,rS (S8 w.params) 608 1219 os,sM,⟨584,0,595,63⟩)) (λw os=> ?_) (λw os=> ?_) w
 ·rfl'
 ·rfl'
theorem YZ(w:World)(os:OsState):segRunT treeTable PP w 11 (some (.ref 6)) 1 371 (rS (S8 w.params) 608 1219 os) (piecesOf (sl 105 15) sK sM ⟨584,0,595,63⟩ [topFrame Az])=some (.next,rS (VA w.params) 682 1319 os,sM,⟨689,0,694,44⟩):=by rfl'
theorem Y0(w:World)(os:OsState):segRunT treeTable PP w 11 (some (.ref 6)) 1 200 (rS (VA w.params) 682 1319 os) (piecesOf (sl 120 6) sK sM ⟨689,0,694,44⟩ [topFrame Az])=some (.next,rS (sJ w.params) 724 1386 os,sM,⟨766,0,784,15⟩):=by rfl'
theorem pcA(w:World)(os:OsState):topGo treeTable PP w 11 (some (.ref 6)) 12 ⟨boot_heap w.params,#[],boot_drawn,boot_toks,os⟩ (topStub PP)=some ((rS (X6 w.params) 15 187 os).abs,⟨denote treeTable sM,sM,Az,[topFrame Az]⟩):=by rfl'
theorem pcB(w:World)(os:OsState):segRun treeTable PP w 11 (some (.ref 6)) 1 1 (rS (X6 w.params) 15 187 os).abs (blockOf (behindTheImports PP) sK sM Az [topFrame Az])=some (.next,(rS (X6 w.params) 15 187 os).abs,sM,Az):=by rfl'
theorem pcZ(w:World)(os:OsState):topRun treeTable PP w 11 (some (.ref 6)) 2 (rS (sJ w.params) 724 1386 os).abs ⟨doneF .next,sM,⟨766,0,784,15⟩,[topFrame Az]⟩=some (rS (sJ w.params) 724 1386 os).abs:=by rfl'
theorem WX:behindTheImports PP=sl 0 2++(sl 2 1++(sl 3 1++(sl 4 2++(sl 6 6++(sl 12 15++(sl 27 15++(sl 42 12++(sl 54 20++(sl 74 12++(sl 86 6++(sl 92 13++(sl 105 15++(sl 120 6++[]))))))))))))):=by rfl'
theorem Qx(w:World)(os:OsState):topRun treeTable PP w 11 (some (.ref 6)) (12+(1+(238+(247+(247+(259+(389+(368+(399+(373+(373+(391+(392+(380+(371+(200+2)))))))))))))))) ⟨boot_heap w.params,#[],boot_drawn,boot_toks,os⟩ (topStub PP)=some (rS (sJ w.params) 724 1386 os).abs:=by refine go_top (pcA w os) ?_;refine piece_block (pcB w os) ?_;have h:=piece_app (segRun_of (pc0 w os)) (piece_app (segRun_of (pc1 w os)) (piece_app (segRun_of (pc2 w os)) (piece_app (segRun_of (pc3 w os)) (piece_app (segRun_of (pc4 w os)) (piece_app (segRun_of (pc5 w os)) (piece_app (segRun_of (pc6 w os)) (piece_app (segRun_of (pc7 w os)) (piece_app (segRun_of (pc8 w os)) (piece_app (segRun_of (pc9 w os)) (piece_app (segRun_of (YX w os)) (piece_app (segRun_of (YY w os)) (piece_app (segRun_of (YZ w os)) (piece_app (segRun_of (Y0 w os)) (piece_nil (pcZ w os)))))))))))))));rw[<-WX]at h;exact h
end
end
section
open PySem.Calls PySem.Spec PyProof.Rows
section
def qv:Program:={ PP with main:={ PP.main with body:=[Vl 125] } }
def vc:List Str:=((Vz.drop 8).dropLast).map λe=>PySem.Str.ofString e.1
def Gd:DefRec:=⟨PySem.Str.ofString "law",(Rt 125),bd 125,iZ 125,⟨766,0,784,15⟩⟩
def Y1(P:Params):List Obj:=objs P (G1 P) (GX P "law_xm0009_01" 1292 125) (um 89) (uo [vr 51,vr 70,vr 89])
noncomputable def WY:Nat->List Obj->Frag
 |_,[]=>[]
 |i,o::l=>(i,o)::WY (i+1) l
def KK(P:Params):Frag:=WY 0 (Y1 P)
noncomputable def asK:List Addr:=List.range 724
theorem WZ(P:Params):asK=(KK P).map (·.1):=by rfl'
abbrev Pc:Hook:=kHook KK asK WZ
abbrev RR:RowW:=OpenRow.toRowW PySem.Challenge.rw_xm0009_01.row
def Yg:Shared->Bool:=λs=>xlAt qv [] s && recOk (RowW.records RR) s
theorem opn(w:World):(fencedOpening treeTable PP w 9352).map (λs=>(s.heap,s.gens,s.drawn,s.toks))=some (boot_heap w.params,Array.mk [],boot_drawn,boot_toks):=
 boot_open (by rfl') (by rfl) (λs=>by rfl') w
theorem siz(w:World):((boot_heap w.params).isNs mainGlobals &&(#[]:Array GenState).size == 0,(boot_heap w.params).objs.size,(boot_heap w.params).nsMap mainGlobals "__annotations__")=(true,11,some (.ref 6)):=by rfl'
theorem Ui:defOf qv (PySem.Str.ofString "law")=some (Gd,[]):=by rfl'
theorem Y2:PP.theDef (PySem.Str.ofString "law")=some (Gd.params,Gd.body,Gd.scope):=by rfl'
theorem Y3:kwWritten? Gd.params.kwonlyargs Gd.params.kw_defaults=some []:=by rfl'
theorem W0:(chainsOk qv && opensWell PP &&(frees RR && RR.within.isEmpty))=true:=by rfl'
theorem W1:(!PySem.Challenge.rw_xm0009_01.row.writes || PySem.Challenge.rw_xm0009_01.row.records.isEmpty)=true:=by rfl'
end
section
set_option tactic.hygienic true
theorem Y4{t:BT}{K:Frag}{life:Life}(h:(List.range n).map (λa=>(t.get a).bind alive)=K.map λp=>some p.2):(List.range n).map (absHeap t n life).get? =K.map λp=>some p.2:=by
 rw[<-h];refine List.map_congr_left λa ha=> ?_;have:=List.mem_map_of_mem (f:=λa=>(t.get a).bind alive) ha;rw[h]at this;obtain⟨p,_,e⟩:=List.mem_map.mp this;cases g:t.get a with
 |none=>rw[g]at e;cases e
 |some o=>rw[abs_get (List.mem_range.mp ha) g];rfl
section
variable(w:World)(os:OsState)
theorem lk1:(staticsOk (importedModules PP.main.body) (boot_heap w.params) (absHeap (sJ w.params) 724 {}) && namesBound PP (absHeap (sJ w.params) 724 {}) && gensDone ⟨absHeap (sJ w.params) 724 {},#[],{},1386,os⟩ && laidKept (boot_heap w.params) (absHeap (sJ w.params) 724 {}))=true:=by rfl'
theorem lk2:openSeen qv vc (importedModules PP.main.body) Yg true ⟨absHeap (sJ w.params) 724 {},#[],{},1386,os⟩=openGood qv vc:=by rfl'
theorem lk3:(List.range 724).map (λa=>((sJ w.params).get a).bind alive)=(KK w.params).map λp=>some p.2:=by rfl'
end
theorem W2(w:World):(λos:OsState=>((staticsOk (importedModules PP.main.body) (boot_heap w.params) (absHeap (sJ w.params) 724 {}) && namesBound PP (absHeap (sJ w.params) 724 {}) && gensDone ⟨absHeap (sJ w.params) 724 {},#[],{},1386,os⟩ && laidKept (boot_heap w.params) (absHeap (sJ w.params) 724 {})),
    openSeen qv vc (importedModules PP.main.body) Yg true ⟨absHeap (sJ w.params) 724 {},#[],{},1386,os⟩,Pc.obs ⟨absHeap (sJ w.params) 724 {},#[],{},1386,os⟩))=λ_=>(true,openGood qv vc,Pc.val w):=funext λos=>Prod.ext (lk1 w os) (Prod.ext (lk2 w os) (Y4 (lk3 w)))
noncomputable def H1(P:Params):Heap:=absHeap (sJ P) 724 {}
theorem Uj(w:World)(os:OsState):(rS (sJ w.params) 724 1386 os).abs=⟨H1 w.params,#[],{},1386,os⟩:=rfl
theorem NU(w:World)(os:OsState):topRun treeTable PP w 11 (some (.ref 6)) (12+(1+(238+(247+(247+(259+(389+(368+(399+(373+(373+(391+(392+(380+(371+(200+2)))))))))))))))) ⟨boot_heap w.params,#[],boot_drawn,boot_toks,os⟩ (topStub PP)=some ⟨H1 w.params,#[],{},1386,os⟩:=by rw[Qx w os,Uj]
theorem Y5:LeftO PP qv vc Yg Pc.obs Pc.val 9352:=
 LeftO.of_pieces (H₀:=boot_heap) (H₁:=H1) (gs₀:=#[]) (gs₁:=#[]) (d₀:=boot_drawn) (d₁:={}) (k₀:=boot_toks) (k₁:=1386) (m₀:=11) (ann:=some (.ref 6)) (M:=12+(1+(238+(247+(247+(259+(389+(368+(399+(373+(373+(391+(392+(380+(371+(200+2)))))))))))))))) opn siz NU (by rfl') W2
end
section
set_option tactic.hygienic true
theorem bare:PP.bare:=⟨rfl,rfl,rfl,rfl,rfl,by decide+kernel⟩
theorem wit:RR.promised:=by w_witness2
noncomputable abbrev rq:=PySem.Challenge.rw_xm0009_01
theorem wC:(namesResolve rq.row.prog)=true:=by rfl'
theorem wR1:readsOut rq.row.prog rq.row.prog.main.body "vars"=false:=by rfl'
theorem wR2:readsOut rq.row.prog rq.row.prog.main.body "dir"=false:=by rfl'
theorem wR3:readsOut rq.row.prog rq.row.prog.main.body "locals"=false:=by rfl'
theorem wEb:(!(importedModules rq.row.prog.main.body).all cThrough.contains)=false:=by rfl'
theorem wEc:noRoadLSs { strict:=false,foot:=none,bare:=[] } rq.row.prog.main.body=true:=by rfl'
theorem fil{p:α->Bool}{a b c:α}(h:p a=false)(i:p b=false)(j:p c=false):[a,b,c].filter p=[]:=by simp only[List.filter,h,i,j]
theorem wEa:(["vars","dir","locals"]:List Str).filter (readsOut rq.row.prog rq.row.prog.main.body)=[]:=fil wR1 wR2 wR3
theorem nr{a:Bool}{l m:List Str}{B:List Stmt}(h:a=b)(k:l=m)(e:noRoadLSs { strict:=b,foot:=none,bare:=m } B=true):noRoadLSs { strict:=a,foot:=none,bare:=l } B=true:=by subst h;subst k;exact e
theorem wE:(noRoadLSs { strict:= !(importedModules rq.row.prog.main.body).all cThrough.contains,foot:=none,bare:=(["vars","dir","locals"]:List Str).filter (readsOut rq.row.prog rq.row.prog.main.body) } rq.row.prog.main.body)=true:=nr wEb wEa wEc
theorem wF:(namesMeet rq.row.prog rq.row.prog.main.body λ_ n=>attrL n)=true:=by rfl'
theorem wJ:(noRoadLSs { strict:=true,foot:=some rq.bound',writes:=rq.writes,may:=rq.may } rq.footing)=true:=by rfl'
theorem wO:(namesMeet rq.prog rq.above (λ_ n=> !rq.own.contains n))=true:=by rfl'
theorem wL1:(rq.bound'.all (λn=> !builtinNamed n || rq.about == [n] || !rq.reads n))=true:=by rfl'
theorem wL2:(!rq.writes ||(rq.prog.main.body.flatMap importedNames).all λn=> !rq.reads n)=true:=by rfl'
theorem wL3:((rq.prog.main.body.flatMap importedNames).all (λn=> !rq.reads n ||(drawsOf n rq.prog.main.body).all λmn=>mn.2 !=("attrgetter":Str) && mn.2 !=("methodcaller":Str)))=true:=by rfl'
theorem wM:(namesMeet rq.prog rq.footing (λsc n=>(!(["type","isinstance","issubclass","getattr","hasattr"]:List Str).contains n || sc.names.lookup n == some .globalImplicit) &&
  (rq.may != some n || sc.kind == .module || sc.names.lookup n == some .globalImplicit)))=true:=by rfl'
theorem wP:(namesMeet rq.prog rq.footing λsc n=>sc.kind == .module || sc.names.lookup n != some .globalExplicit)=true:=by rfl'
theorem Uk:PySem.Challenge.rw_xm0009_01.wellSaid=true:=by
 unfold OpenLaw.wellSaid OpenRow.wellSaid OpenRow.partSaid looksOpen
 repeat' with_reducible refine look_both ?_ ?_
 all_goals first|with_reducible exact wC|with_reducible exact wE|with_reducible exact wF|with_reducible exact wJ|with_reducible exact wO|with_reducible exact wL1|with_reducible exact wL2|with_reducible exact wL3|with_reducible exact wM|with_reducible exact wP|rfl'
end
end
inductive Tk where
 |op (s:List Nat)
 |word (s:List Nat)
 |name (s:List Nat)
 |int (i:Nat)
 deriving DecidableEq
noncomputable def Tk.str:Tk->List Nat
 | .op s=>s
 | .word s=>s
 | .name s=>s
 | .int _=>[]
inductive Tr where
 |name (s:List Nat)
 |num (i:Nat)
 |un (w:List Nat) (t:Tr)
 |bin (w:List Nat) (a b:Tr)
 |sc (w:List Nat) (a b:Tr)
 |mem (w:List Nat) (t m:Tr)
 |rng (a b:Tr)
 |pn (t:Tr)
inductive Wd where
 |leaf
 |high
 |scaled
 |added
 |sign
 |met
 |lg (w:List Nat)
 deriving DecidableEq
theorem Wd.lg.inj{a b:List Nat}(h:Wd.lg a=Wd.lg b):a=b:=by cases h;rfl
@[simp] theorem Wd.lg.injEq{a b:List Nat}:(Wd.lg a=Wd.lg b)=(a=b):=propext ⟨Wd.lg.inj,dN _⟩
def m7:List (List Nat):=[Fk,zg,Fo,zh,Fp,zi]
def qb:List (List Nat):=[i8,iR,AJ]
def oK:List (List Nat):=[AK,AL,qg,qh]
def cls(w:List Nat):Wd:=if w=gC then .high else if w ∈ m7 then .met else if w ∈ qb then .added else if w ∈ oK then .scaled else .lg w
def wd:Tr->Wd
 | .un w _=>if w=i8\/w=iR then .sign else .high
 | .bin w _ _=>cls w
 | .sc w _ _=> .lg w
 | .mem .. => .met
 |_=> .leaf
theorem oM(w:List Nat)(t:Tr):wd (.un w t)=if w=i8\/w=iR then .sign else .high:=rfl
theorem nw(w:List Nat)(a b:Tr):wd (.bin w a b)=cls w:=rfl
noncomputable def Wd.lvl:Wd->Nat
 | .leaf=>0
 | .high=>1
 | .scaled=>2
 | .added=>3
 | .sign=>3
 | .met=>4
 | .lg _=>5
def ew(n:Nat)(t:Tr):Nat:=if(wd t).lvl<=n then 0 else 1
def km(w:List Nat)(t:Tr):Nat:=if(wd t).lvl<=4\/wd t= .lg w then 0 else 1
def mP(c:Wd)(t:Tr):Nat:=match c with
 | .high=>ew 0 t
 | .scaled=>ew 2 t
 | .added=>ew 3 t
 | .met=>ew 3 t
 | .lg w=>km w t
 |_=>0
def kE(c:Wd)(t:Tr):Nat:=match c with
 | .high=>ew 0 t
 | .scaled=>ew 1 t
 | .added=>ew 2 t
 | .met=>ew 3 t
 | .lg _=>ew 4 t
 |_=>0
def vd(w:List Nat)(t:Tr):Nat:=if w=i8\/w=iR then ew 2 t else ew 0 t
noncomputable def gs:Tr->Nat
 | .name _=>0
 | .num _=>0
 | .un w t=>gs t+vd w t
 | .bin w a b=>gs a+mP (cls w) a+(gs b+kE (cls w) b)
 | .sc w a b=>gs a+km w a+(gs b+ew 4 b)
 | .mem _ t m=>gs t+ew 3 t+gs m
 | .rng a b=>gs a+ew 3 a+(gs b+ew 3 b)
 | .pn t=>gs t
abbrev Ps:=List Tk->Option (Tr×List Tk)
noncomputable def gK(s:List Nat):List Tk->Bool
 | .op x::_=>x == s
 |_=>false
noncomputable def fV(s:List Nat):List Tk->Bool
 | .word x::_=>x == s
 |_=>false
def ot:List Tk->List Nat
 |t::_=>t.str
 |[]=>[]
def nc(B:Ps):Ps
 | .int i::l=>some (.num i,l)
 | .name s::l=>some (.name s,l)
 | .op s::l=>if s=fT then B l else none
 |_=>none
def gX(B:Ps):Ps:=λl=>
 if fV ji l || fV gc l then(nc B l.tail).map λx=>(.un (ot l) x.1,x.2)
 else(nc B l).bind λx=>if gK gC x.2 then(nc B x.2.tail).map λy=>(.bin gC x.1 y.1,y.2)else some x
def ny(l:List Tk):Bool:=gK AK l || gK AL l || fV qg l || fV qh l
noncomputable def mQ(B:Ps):Nat->Tr->Ps
 | 0,_,_=>none
 |k+1,acc,l=>if ny l then(gX B l.tail).bind λy=>mQ B k (.bin (ot l) acc y.1) y.2 else some (acc,l)
def mc(B:Ps)(N:Nat):Ps:=λl=>(gX B l).bind λx=>mQ B N x.1 x.2
def q0(l:List Tk):Bool:=gK i8 l || gK iR l || gK AJ l
noncomputable def lT(B:Ps)(N:Nat):Nat->Tr->Ps
 | 0,_,_=>none
 |k+1,acc,l=>if q0 l then(mc B N l.tail).bind λy=>lT B N k (.bin (ot l) acc y.1) y.2 else some (acc,l)
def ve(l:List Tk):Bool:=gK i8 l || gK iR l
def eq(B:Ps)(N:Nat):Ps:=λl=>
 if ve l then(mc B N l.tail).bind λx=>lT B N N (.un (ot l) x.1) x.2
 else(mc B N l).bind λx=>lT B N N x.1 x.2
def jN:List Tk->Bool
 | .op s::_=>decide (s ∈ m7)
 |_=>false
noncomputable def yo:Tr->Bool
 | .name _=>true
 |_=>false
def xg(B:Ps)(N:Nat):Ps:=λl=>(eq B N l).bind λx=>
 if gK jD x.2 then(eq B N x.2.tail).map λy=>(.rng x.1 y.1,y.2)
 else if yo x.1 then some x else none
def noRel(x:Tr×List Tk):Option (Tr×List Tk):=if jN x.2 then none else some x
def mf(B:Ps)(N:Nat)(x:Tr):Ps:=λl=>
 if jN l then(eq B N l.tail).bind λy=>noRel (.bin (ot l) x y.1,y.2)
 else if fV fY l then(xg B N l.tail).bind λy=>noRel (.mem fY x y.1,y.2)
 else if fV gc l && fV fY l.tail then(xg B N l.tail.tail).bind λy=>noRel (.mem fM x y.1,y.2)
 else some (x,l)
def fZ(l:List Tk):List Nat×Nat:=
 if fV f8 l then(if fV nn l.tail then(eA,2)else(f8,1))
 else if fV iH l then(if fV nq l.tail then(fg,2)else(iH,1))
 else if fV gf l then(gf,1)
 else(hG,0)
noncomputable def Ge(w:List Nat)(c:Nat)(a b:Tr):Tr:=if c=2 then .sc w a b else .bin w a b
noncomputable def nf(B:Ps)(N:Nat)(first:List Nat):Nat->Tr->Ps
 | 0,_,_=>none
 |k+1,acc,l=>
  if(fZ l).1=hG then some (acc,l)
  else if(fZ l).1≠first then none
  else(eq B N (l.drop (fZ l).2)).bind λy=>(mf B N y.1 y.2).bind λz=>nf B N first k (Ge (fZ l).1 (fZ l).2 acc z.1) z.2
def vf(B:Ps)(N:Nat)(x:Tr):Ps:=λl=>nf B N (fZ l).1 N x l
def ng(B:Ps)(N:Nat):Ps:=λl=>(eq B N l).bind λx=>(mf B N x.1 x.2).bind λy=>vf B N y.1 y.2
def mR(B:Ps)(N:Nat):Ps:=λl=>(eq B N l).bind λx=>
 if gK jD x.2 then(eq B N x.2.tail).map λy=>(.rng x.1 y.1,y.2)
 else(mf B N x.1 x.2).bind λy=>vf B N y.1 y.2
noncomputable def re:Tr->Bool
 | .rng .. =>true
 |_=>false
def v8(t:Tr):Tr:=if yo t then .pn t else t
def Vw(B:Ps)(N:Nat):Ps:=λl=>(mR B N l).bind λx=>
 if re x.1 then none else if gK eY x.2 then some (v8 x.1,x.2.tail)else none
noncomputable def pB(N:Nat):Nat->Ps
 | 0=>λ_=>none
 |m+1=>Vw (pB N m) N
def gq(l:List Tk):Nat:=l.countP (· == .op fT)
theorem xh(n:Nat)(t:Tr):ew n t<=1:=by unfold ew;split<;>exact fq rfl
theorem tL{m:Nat}(h:m<=n)(t:Tr):ew n t<=ew m t:=by unfold ew;split<;>split<;>(first|exact fq rfl|omega)
theorem gY(l:List Tk):gq l.tail<=gq l:=by
 cases l with
 |nil=>simp
 |cons x l=>unfold gq;simp[List.countP_cons]
theorem H9(n:Nat)(l:List Tk):gq (l.drop n)<=gq l:=by
 induction n generalizing l with
 |zero=>simp
 |succ n ih=>cases l with
  |nil=>simp
  |cons x l=>exact gp (ih l) (gY (x::l))
theorem DY{s:List Nat}{l:List Tk}(h:fV s l=true):ot l=s:=by
 unfold fV at h;split at h
 ·simpa [ot,Tk.str] using h
 ·exact mY h
theorem yB{s:List Nat}{l:List Tk}(h:gK s l=true):ot l=s:=by
 unfold gK at h;split at h
 ·simpa [ot,Tk.str] using h
 ·exact mY h
theorem j2{o:Option α}{f:α->Option β}{b:β}(h:o.bind f=some b):∃a,o=some a/\f a=some b:=by
 cases o with
 |none=>exact eC h
 |some a=>exact⟨a,rfl,h⟩
theorem B1{o:Option α}{f:α->β}{b:β}(h:o.map f=some b):∃a,o=some a/\f a=b:=by
 cases o with
 |none=>exact eC h
 |some a=>exact⟨a,rfl,by simpa using h⟩
theorem Y6:cls gC= .high:=by decide
theorem rg(h:w ∈ oK):cls w= .scaled:=by simp only[oK,dj,dJ,dK]at h;rcases h with rfl|rfl|rfl|rfl<;>decide
theorem ua(h:w ∈ qb):cls w= .added:=by simp only[qb,dj,dJ,dK]at h;rcases h with rfl|rfl|rfl<;>decide
theorem ub(h:w ∈ m7):cls w= .met:=by simp only[m7,dj,dJ,dK]at h;rcases h with rfl|rfl|rfl|rfl|rfl|rfl<;>decide
theorem KQ{l:List Tk}(h:ny l=true):ot l ∈ oK:=by
 unfold ny at h;simp only[j9]at h;rcases h with((q|q)|q)|q
 ·rw[yB q];decide
 ·rw[yB q];decide
 ·rw[DY q];decide
 ·rw[DY q];decide
theorem NV{l:List Tk}(h:q0 l=true):ot l ∈ qb:=by unfold q0 at h;simp only[j9]at h;rcases h with(q|q)|q<;>rw[yB q]<;>decide
theorem Ju{l:List Tk}(h:ve l=true):ot l=i8\/ot l=iR:=by unfold ve at h;simp only[j9]at h;rcases h with q|q<;>rw[yB q]<;>simp
theorem Gf{l:List Tk}(h:jN l=true):ot l ∈ m7:=by
 unfold jN at h;split at h
 ·simpa [ot,Tk.str] using h
 ·exact mY h
theorem Qy(w:List Nat)(t:Tr):km w t<=ew 4 t:=by unfold km ew;split<;>split<;>first|(first|exact fq rfl|omega)|(rename_i h1 h2;exact absurd (.inl h2) h1)
theorem Pd{α:Sort _}{P:α->Prop}{c:Prop} [Decidable c]{a b:α}(h:c->P a)(k:¬ c->P b):P (if c then a else b):=by
 by_cases q:c
 ·rw[cH q];exact h q
 ·rw[cJ q];exact k q
def W3(p:List Nat×Nat):Prop:=p.1≠hG->(p.2=2/\∀a b,wd (.sc p.1 a b)= .lg p.1)\/(p.2=1/\cls p.1= .lg p.1)
theorem NW(l:List Tk):(fZ l).1≠hG->((fZ l).2=2/\∀a b,wd (.sc (fZ l).1 a b)= .lg (fZ l).1)\/((fZ l).2=1/\cls (fZ l).1= .lg (fZ l).1):=
 Pd (P:=W3) (λ_=>Pd (P:=W3) (λ_ _=> .inl ⟨rfl,λ_ _=>rfl⟩) λ_ _=> .inr ⟨rfl,by decide⟩)
  λ_=>Pd (P:=W3) (λ_=>Pd (P:=W3) (λ_ _=> .inl ⟨rfl,λ_ _=>rfl⟩) λ_ _=> .inr ⟨rfl,by decide⟩)
  λ_=>Pd (P:=W3) (λ_ _=> .inr ⟨rfl,by decide⟩) λ_ h=>absurd rfl h
theorem KR(t:Tr):gs (v8 t)=gs t:=by unfold v8;split<;>rfl
structure Yh(X:List Tk->Tr->List Tk->Prop)(Y:Tr->Prop)(P:Nat->List Nat->List Tk->Tr->List Tk->Prop):Prop where
 num:∀{i l},P 0 [] (.int i::l) (.num i) l
 name:∀{s l},P 0 [] (.name s::l) (.name s) l
 br:∀{l t r},X l t r->P 0 [] (.op fT::l) t r
 un:∀{l x r},(fV ji l || fV gc l)=true->P 0 [] l.tail x r->P 1 [] l (.un (ot l) x) r
 pow:∀{l x r y q},P 0 [] l x r->gK gC r=true->P 0 [] r.tail y q->P 1 [] l (.bin gC x y) q
 u0:∀{l x r},P 0 [] l x r->P 1 [] l x r
 u1:∀{l x r},P 1 [] l x r->P 2 [] l x r
 mul:∀{l x r y q},P 2 [] l x r->ny r=true->P 1 [] r.tail y q->P 2 [] l (.bin (ot r) x y) q
 u2:∀{l x r},P 2 [] l x r->P 3 [] l x r
 sg:∀{l x r},ve l=true->P 2 [] l.tail x r->P 3 [] l (.un (ot l) x) r
 add:∀{l x r y q},P 3 [] l x r->q0 r=true->P 2 [] r.tail y q->P 3 [] l (.bin (ot r) x y) q
 sd:∀{l x},Y x->P 3 [] l x l
 rng:∀{l x r y q},P 3 [] l x r->gK jD r=true->P 3 [] r.tail y q->P 7 [] l (.rng x y) q
 mn:∀{l x r},P 3 [] l x r->yo x=true->P 7 [] l x r
 u3:∀{l x r},P 3 [] l x r->P 4 [] l x r
 rel:∀{l x r y q},P 3 [] l x r->jN r=true->P 3 [] r.tail y q->P 4 [] l (.bin (ot r) x y) q
 mem:∀{l x r y q},P 3 [] l x r->fV fY r=true->P 7 [] r.tail y q->P 4 [] l (.mem fY x y) q
 nmem:∀{l x r y q},P 3 [] l x r->(fV gc r && fV fY r.tail)=true->P 7 [] r.tail.tail y q->P 4 [] l (.mem fM x y) q
 u4:∀{w l x r},P 4 [] l x r->P 5 w l x r
 lg:∀{w l x r y q},P 5 w l x r->¬(fZ r).1=hG->(fZ r).1=w->P 4 [] (r.drop (fZ r).2) y q->P 5 w l (Ge (fZ r).1 (fZ r).2 x y) q
 u5:∀{w l x r},P 5 w l x r->P 6 [] l x r
 u7:∀{l x r},P 7 [] l x r->P 6 [] l x r
def tM(o:Option (Tr×List Tk))(Q:Tr->List Tk->Prop):Prop:=∀t r,o=some (t,r)->Q t r
section
variable{Q R:Tr->List Tk->Prop}
theorem tM.none:tM none Q:=λ_ _ e=>eC e
theorem tM.some{t r}(h:Q t r):tM (some (t,r)) Q:=λt' r' e=>(Prod.mk.inj (si e)).1▸(Prod.mk.inj (si e)).2▸h
theorem tM.ite{c:Prop} [Decidable c]{a b}(h:c->tM a Q)(k:¬ c->tM b Q):tM (if c then a else b) Q:=by
 by_cases q:c
 ·rw[cH q];exact h q
 ·rw[cJ q];exact k q
theorem tM.bind{p:Option (Tr×List Tk)}{f}(hp:tM p R)(h:∀x q,R x q->tM (f (x,q)) Q):tM (p.bind f) Q:=by
 cases p with
 |none=>exact .none
 |some a=>exact h a.1 a.2 (hp _ _ rfl)
theorem tM.map{p:Option (Tr×List Tk)}{f:Tr×List Tk->Tr×List Tk}(hp:tM p R)(h:∀x q,R x q->Q (f (x,q)).1 (f (x,q)).2):tM (p.map f) Q:=by
 cases p with
 |none=>exact .none
 |some a=>exact .some (h a.1 a.2 (hp _ _ rfl))
theorem tM.mono{p}(hp:tM p R)(h:∀x q,R x q->Q x q):tM p Q:=λt r e=>h t r (hp t r e)
theorem tM.noRel{x r}(h:Q x r):tM (noRel (x,r)) Q:= .ite (λ_=> .none) λ_=> .some h
end
section
variable{X:List Tk->Tr->List Tk->Prop}{Y:Tr->Prop}{P:Nat->List Nat->List Tk->Tr->List Tk->Prop}(Al:Yh X Y P){B:Ps}{N:Nat}(hB:∀l t r,B l=some (t,r)->X l t r)
include Al hB
theorem DZ(l:List Tk):tM (nc B l) (P 0 [] l):=by
 cases l with
 |nil=>exact .none
 |cons k l=>cases k with
  |int i=>exact .some Al.num
  |name s=>exact .some Al.name
  |op s=>exact tM.ite (λc=>c▸λt r e=>Al.br (hB _ _ _ e)) λ_=> .none
  |_=>exact .none
theorem xi(l:List Tk):tM (gX B l) (P 1 [] l):=
 .ite (λc=> .map (DZ Al hB _) λx q h=>Al.un c h) λ_=> .bind (DZ Al hB _) λx q h=> .ite (λc=> .map (DZ Al hB _) λy p k=>Al.pow h c k) λ_=> .some (Al.u0 h)
theorem NX{m:List Tk}(k:Nat):∀acc l,P 2 [] m acc l->tM (mQ B k acc l) (P 2 [] m):=by
 induction k with
 |zero=>exactλ_ _ _=> .none
 |succ k ih=>exactλacc l h=> .ite (λc=> .bind (xi Al hB _) λy q k=>ih _ _ (Al.mul h c k)) λ_=> .some h
theorem yC(l:List Tk):tM (mc B N l) (P 2 [] l):= .bind (xi Al hB _) λx q h=>NX Al hB _ _ _ (Al.u1 h)
theorem Gg{m:List Tk}(k:Nat):∀acc l,P 3 [] m acc l->tM (lT B N k acc l) (P 3 [] m):=by
 induction k with
 |zero=>exactλ_ _ _=> .none
 |succ k ih=>exactλacc l h=> .ite (λc=> .bind (yC Al hB _) λy q k=>ih _ _ (Al.add h c k)) λ_=> .some h
theorem lA(l:List Tk):tM (eq B N l) (P 3 [] l):=
 .ite (λc=> .bind (yC Al hB _) λx q h=>Gg Al hB _ _ _ (Al.sg c h)) λ_=> .bind (yC Al hB _) λx q h=>Gg Al hB _ _ _ (Al.u2 h)
theorem NY(l:List Tk):tM (xg B N l) (P 7 [] l):=
 .bind (lA Al hB _) λx q h=> .ite (λc=> .map (lA Al hB _) λy p k=>Al.rng h c k) λ_=> .ite (λc=> .some (Al.mn h c)) λ_=> .none
theorem D0{m:List Tk}{x:Tr}{l:List Tk}(h:P 3 [] m x l):tM (mf B N x l) (P 4 [] m):=
 .ite (λc=> .bind (lA Al hB _) λy p k=> .noRel (Al.rel h c k)) λ_=> .ite (λc=> .bind (NY Al hB _) λy p k=> .noRel (Al.mem h c k)) λ_=> .ite (λc=> .bind (NY Al hB _) λy p k=> .noRel (Al.nmem h c k)) λ_=> .some (Al.u3 h)
theorem NZ{m:List Tk}(k:Nat):∀acc l,P 5 w m acc l->tM (nf B N w k acc l) (P 5 w m):=by
 induction k with
 |zero=>exactλ_ _ _=> .none
 |succ k ih=>exactλacc l h=> .ite (λ_=> .some h) λc=> .ite (λ_=> .none) λc2=> .bind (lA Al hB _) λy q k=> .bind (D0 Al hB k) λz p k=>ih _ _ (Al.lg h c (Classical.not_not.mp c2) k)
theorem N0{m:List Tk}{x:Tr}{l:List Tk}(h:P 4 [] m x l):tM (vf B N x l) (P 6 [] m):=(NZ Al hB N _ _ (Al.u4 h)).mono λ_ _=>Al.u5
theorem Jv(l:List Tk):tM (ng B N l) (P 6 [] l):= .bind (lA Al hB _) λx q h=> .bind (D0 Al hB h) λy p k=>N0 Al hB k
theorem B2(l:List Tk):tM (mR B N l) (P 6 [] l):=
 .bind (lA Al hB _) λx q h=> .ite (λc=> .map (lA Al hB _) λy p k=>Al.u7 (Al.rng h c k)) λ_=> .bind (D0 Al hB h) λy p k=>N0 Al hB k
theorem N1(l:List Tk):tM (Vw B N l) λt r=>∃x q,P 6 [] l x q/\t=v8 x/\r=q.tail:=
 .bind (B2 Al hB _) λx q h=> .ite (λ_=> .none) λ_=> .ite (λ_=> .some ⟨x,q,h,rfl,rfl⟩) λ_=> .none
end
def pn(n:Nat)(w:List Nat)(t:Tr):Nat:=if n=5 then km w t else if 5<n then 0 else ew n t
theorem Gh{t:Tr}{c:Wd}(h:wd t=c)(k:c.lvl<=n):ew n t=0:=by unfold ew;rw[h,cH k]
theorem Jw{X:List Tk->Tr->List Tk->Prop}(hX:∀{l t r},X l t r->gs t+gq r<=gq l):Yh X (λ_=>False) λn w l t r=>gs t+pn n w t+gq r<=gq l where
 num:=λ{i l}=>by have h:gq l<=gq (.int i::l):=gY (.int i::l);exact(pQ:Pn [_,_] (.l (.a (.a (.k 0) (.k 0)) A0) A1) [.l A0 A1]) h
 name:=λ{s l}=>by have h:gq l<=gq (.name s::l):=gY (.name s::l);exact(pQ:Pn [_,_] (.l (.a (.a (.k 0) (.k 0)) A0) A1) [.l A0 A1]) h
 br:=λ{l t r} h=>by
  have h1:=hX h;have h2:=xh 0 t;have h3:gq (.op fT::l)=gq l+1:=by unfold gq;rw[List.countP_cons];rfl
  show gs t+ew 0 t+gq r<=_;rw[h3];exact(pQ:Pn [_,_,_,_] (.l (.a (.a A0 A3) A1) (.a A2 (.k 1))) [.l (.a A0 A1) A2,.l A3 (.k 1)]) h1 h2
 un:=λ{l x r} c ih=>by
  have h2:=gY l
  have h3:¬(ot l=i8\/ot l=iR):=by rw[j9]at c;rcases c with q|q<;>rw[DY q]<;>decide
  show gs x+vd (ot l) x+ew 1 (.un (ot l) x)+gq r<=_;rw[Gh ((oM ..).trans (cJ h3)) (ip 1),show vd (ot l) x=ew 0 x from cJ h3];exact VK ih h2
 pow:=λ{l x r y q} i1 c i2=>G3 i1 i2 (gY r)
 u0:=λ{l x r} ih=>L0 ih (tL (Nat.le_succ 0) x)
 u1:=λ{l x r} ih=>L0 ih (tL (Nat.le_succ 1) x)
 mul:=λ{l x r y q} i1 c i2=>by have h4:cls (ot r)= .scaled:=rg (KQ c);show gs x+mP (cls (ot r)) x+(gs y+kE (cls (ot r)) y)+ew 2 (.bin (ot r) x y)+gq q<=_;rw[Gh ((nw ..).trans h4) (ip 2),h4];exact G3 i1 i2 (gY r)
 u2:=λ{l x r} ih=>L0 ih (tL (Nat.le_succ 2) x)
 sg:=λ{l x r} c ih=>by have h2:=gY l;show gs x+vd (ot l) x+ew 3 (.un (ot l) x)+gq r<=_;rw[Gh ((oM ..).trans (cH (Ju c))) (ip 3),show vd (ot l) x=ew 2 x from cH (Ju c)];exact VK ih h2
 add:=λ{l x r y q} i1 c i2=>by have h4:cls (ot r)= .added:=ua (NV c);show gs x+mP (cls (ot r)) x+(gs y+kE (cls (ot r)) y)+ew 3 (.bin (ot r) x y)+gq q<=_;rw[Gh ((nw ..).trans h4) (ip 3),h4];exact G3 i1 i2 (gY r)
 sd:=λh=>h.elim
 rng:=λ{l x r y q} i1 c i2=>G3 i1 i2 (gY r)
 mn:=λ{l x r} ih c=>(pQ:Pn [_,_,_,_] (.l (.a (.a A0 (.k 0)) A2) A3) [.l (.a (.a A0 A1) A2) A3]) ih
 u3:=λ{l x r} ih=>L0 ih (tL (Nat.le_succ 3) x)
 rel:=λ{l x r y q} i1 c i2=>by have h4:cls (ot r)= .met:=ub (Gf c);show gs x+mP (cls (ot r)) x+(gs y+kE (cls (ot r)) y)+ew 4 (.bin (ot r) x y)+gq q<=_;rw[Gh ((nw ..).trans h4) (ip 4),h4];exact G3 i1 i2 (gY r)
 mem:=λ{l x r y q} i1 c i2=>(pQ:Pn [_,_,_,_,_,_,_] (.l (.a (.a (.a (.a A0 A1) A4) (.k 0)) A5) A3) [.l (.a (.a A0 A1) A2) A3,.l (.a (.a A4 (.k 0)) A5) A6,.l A6 A2]) i1 i2 (gY r)
 nmem:=λ{l x r y q} i1 c i2=>(pQ:Pn [_,_,_,_,_,_,_] (.l (.a (.a (.a (.a A0 A1) A4) (.k 0)) A5) A3) [.l (.a (.a A0 A1) A2) A3,.l (.a (.a A4 (.k 0)) A5) A6,.l A6 A2]) i1 i2 (gp (gY r.tail) (gY r))
 u4:=λ{w l x r} ih=>L0 ih (Qy w x)
 lg:=λ{w l x r y q} i1 c e i2=>by
  have h4:=H9 (fZ r).2 r;rcases NW r c with⟨k,_⟩|⟨k,k2⟩
  ·rw[k]at i2 h4 ⊢;subst e;show gs x+km (fZ r).1 x+(gs y+ew 4 y)+km (fZ r).1 (.sc (fZ r).1 x y)+gq q<=_;rw[show km (fZ r).1 (.sc (fZ r).1 x y)=0 from cH (.inr rfl)];exact G3 i1 i2 h4
  ·rw[k]at i2 h4 ⊢;subst e;show gs x+mP (cls (fZ r).1) x+(gs y+kE (cls (fZ r).1) y)+km (fZ r).1 (.bin (fZ r).1 x y)+gq q<=_;rw[show km (fZ r).1 (.bin (fZ r).1 x y)=0 from cH (.inr k2),k2];exact G3 i1 i2 h4
 u5:=λ{w l x r} ih=>(pQ:Pn [_,_,_,_] (.l (.a (.a A0 (.k 0)) A2) A3) [.l (.a (.a A0 A1) A2) A3]) ih
 u7:=λ{l x r} ih=>ih
theorem Ul(N m:Nat):∀l t r,pB N m l=some (t,r)->gs t+gq r<=gq l:=by
 induction m with
 |zero=>exactλl t r e=>eC e
 |succ m ih=>
  intro l t r e;refine iJ (N1 (Jw (X:=λl t r=>pB N m l=some (t,r)) (ih _ _ _)) (λ_ _ _ e=>e) l t r e) λx q h e1 e2=> ?_;rw[e1,e2,KR];exact(pQ:Pn [_,_,_,_] (.l (.a A0 A3) A2) [.l (.a (.a A0 (.k 0)) A1) A2,.l A3 A1]) h (gY q)
theorem Y7(N m:Nat){l:List Tk}{t:Tr}{r:List Tk}(e:ng (pB N m) N l=some (t,r)):gs t<=gq l:=
 (pQ:Pn [_,_,_] (.l A0 A2) [.l (.a (.a A0 (.k 0)) A1) A2]) (Jv (Jw (X:=λl t r=>pB N m l=some (t,r)) (Ul N m _ _ _)) (λ_ _ _ e=>e) l t r e)
variable{r:List Tk}{P:Option (Tr×List Tk)}{l:List Tk}{t:Tr}{B:Ps}
def Jx:List (List Nat):=[i8,iR,AJ,AK,AL,gC,Fk,zg,Fo,zh,Fp,zi]
def iW(w:List Nat):Tk:=if w ∈ Jx then .op w else .word w
def brk(c:Nat)(l:List Tk):List Tk:=if c=0 then l else .op fT::(l++[.op eY])
def z7(w:List Nat):List Tk:=if w=eA then [.word f8,.word nn]else [.word iH,.word nq]
def oq(w:List Nat):List Tk:=if w=fY then [.word fY]else [.word gc,.word fY]
noncomputable def tk:Tr->List Tk
 | .name s=>[.name s]
 | .num i=>[.int i]
 | .un w t=>iW w::brk (vd w t) (tk t)
 | .bin w a b=>brk (mP (cls w) a) (tk a)++iW w::brk (kE (cls w) b) (tk b)
 | .sc w a b=>brk (km w a) (tk a)++(z7 w++brk (ew 4 b) (tk b))
 | .mem w t m=>brk (ew 3 t) (tk t)++(oq w++tk m)
 | .rng a b=>brk (ew 3 a) (tk a)++ .op jD::brk (ew 3 b) (tk b)
 | .pn t=> .op fT::(tk t++[.op eY])
def Bu:List (List Nat):=[iR,ji,gc,i8]
def sN:List (List Nat):=qb++oK++m7++[f8,iH,gf,gC]
noncomputable def WF:Tr->Prop
 | .name _=>True
 | .num _=>True
 | .un w t=>w ∈ Bu/\WF t
 | .bin w a b=>w ∈ sN/\WF a/\WF b
 | .sc w a b=>(w=eA\/w=fg)/\WF a/\WF b
 | .mem w t (.rng a b)=>(w=fY\/w=fM)/\WF t/\WF a/\WF b
 |_=>False
noncomputable def mS:Tr->Nat
 | .un _ t=>mS t+1
 | .bin _ a b=>max (mS a) (mS b)+1
 | .sc _ a b=>max (mS a) (mS b)+1
 | .mem _ t m=>max (mS t) (mS m)+1
 | .rng a b=>max (mS a) (mS b)
 | .pn t=>mS t+1
 |_=>0
theorem j3(x:Tk)(l:List Tk):gq (x::l)=gq l+(if x= .op fT then 1 else 0):=by unfold gq;rw[List.countP_cons];by_cases h:x= .op fT<;>simp[h]
theorem nA(l m:List Tk):gq (l++m)=gq l+gq m:=by unfold gq;exact List.countP_append
theorem o6(hc:c<=1)(l:List Tk):gq (brk c l)=gq l+c:=by
 unfold brk;split
 ·omega
 ·rw[j3,nA,cH rfl,j3,cJ (by decide)];have:gq []=0:=rfl
  omega
theorem v9(w:List Nat):iW w≠.op fT:=by
 unfold iW
 set_option tactic.hygienic true in split
 ·rename_i h;intro z
  injection z with z
  subst z;exact absurd h (by decide)
 ·intro z;cases z
theorem N2(w:List Nat)(t:Tr):km w t<=1:=by unfold km;split<;>exact fq rfl
theorem Um(c:Wd)(t:Tr):mP c t<=1:=by cases c<;>first|exact xh .. |exact N2 .. |exact iq _
theorem Un(c:Wd)(t:Tr):kE c t<=1:=by cases c<;>first|exact xh .. |exact iq _
theorem Uo(w:List Nat)(t:Tr):vd w t<=1:=by unfold vd;split<;>exact xh ..
theorem KS(w:List Nat):gq (z7 w)=0:=by unfold z7;split<;>decide
theorem Ia(w:List Nat):gq (oq w)=0:=by unfold oq;split<;>decide
theorem lU(t:Tr)(h:WF t):gq (tk t)=gs t:=by
 match t,h with
 | .name s,_=>rfl
 | .num i,_=>rfl
 | .un w t,h=>
  simp only[tk,j3,cJ (v9 w),o6 (Uo w t),lU t h.2,gs];exact(ie (.e (.a (.a A0 A1) (.k 0)) (.a A0 A1)) [])
 | .bin w a b,h=>
  simp only[tk,nA,j3,cJ (v9 w),o6 (Um ..),o6 (Un ..),lU a h.2.1,lU b h.2.2,gs];exact(lx (.e (.a (.a A0 A1) (.a (.a A2 A3) (.k 0))) (.a (.a A0 A1) (.a A2 A3))) [])
 | .sc w a b,h=>
  simp only[tk,nA,KS,o6 (N2 ..),o6 (xh ..),lU a h.2.1,lU b h.2.2,gs];exact(lx (.e (.a (.a A0 A1) (.a (.k 0) (.a A2 A3))) (.a (.a A0 A1) (.a A2 A3))) [])
 | .mem w t (.rng a b),h=>
  simp only[tk,nA,Ia,j3,cJ (show ¬(Tk.op jD= .op fT) by decide),o6 (xh ..),lU t h.2.1,lU a h.2.2.1,lU b h.2.2.2,gs];exact(Kf (.e (.a (.a A0 A1) (.a (.k 0) (.a (.a A2 A3) (.a (.a A4 A5) (.k 0))))) (.a (.a A0 A1) (.a (.a A2 A3) (.a A4 A5)))) [])
def xI(l:List Tk):Prop:=gK gC l=false
def vg(l:List Tk):Prop:=xI l/\ny l=false
def wc(l:List Tk):Prop:=vg l/\q0 l=false
def qm(l:List Tk):Prop:=wc l/\jN l=false/\fV fY l=false/\fV gc l=false
def SK(l:List Tk):Prop:=qm l/\(fZ l).1=hG
def Y8(B:Ps)(t:Tr):Prop:=∀r,B (tk t++ .op eY::r)=some (t,r)
inductive Yi:Tk->Prop
 |name (s0):Yi (.name s0)
 |int (i0):Yi (.int i0)
 |br:Yi (.op fT)
 |un (w0) (h:w0 ∈ Bu):Yi (iW w0)
theorem xj(l:List Tk):brk 0 l=l:=rfl
theorem Up(l:List Tk):brk 1 l= .op fT::(l++[.op eY]):=rfl
theorem z8(h:cls w= .scaled):w ∈ oK:=by
 unfold cls at h;split at h;· cases h
 split at h;· cases h
 split at h;· cases h
 split at h
 ·assumption
 ·cases h
theorem Bv(h:cls w= .added):w ∈ qb:=by
 unfold cls at h;split at h;· cases h
 split at h;· cases h
 split at h
 ·assumption
 split at h<;>cases h
theorem Gi(h:cls w= .met):w ∈ m7:=by
 unfold cls at h;split at h;· cases h
 split at h
 ·assumption
 split at h;· cases h
 split at h<;>cases h
theorem D1(h:cls w= .high):w=gC:=by
 unfold cls at h;split at h
 ·assumption
 split at h;· cases h
 split at h;· cases h
 split at h<;>cases h
theorem we(w:List Nat):cls w≠.leaf/\cls w≠.sign:=by
 constructor<;>(intro h;unfold cls at h;(repeat' split at h)<;>cases h)
theorem Uq{v:List Nat}(hw:w ∈ sN)(h:cls w= .lg v):v=w/\(w=f8\/w=iH\/w=gf):=by
 have k:∀w ∈ sN,(cls w).lvl=5->cls w= .lg w/\(w=f8\/w=iH\/w=gf):=by decide+kernel
 have k:=k w hw (dN Wd.lvl h);exact⟨(Wd.lg.inj (k.1.symm.trans h)).symm,k.2⟩
theorem Wd.sc_of{c:Wd}(h:c.lvl<=2)(k:¬ c.lvl<=1):c= .scaled:=by cases c<;>first|rfl|exact absurd h (by decide)|exact absurd (show _<=1 by decide) k|exact absurd (show 5<=2 from h) (by decide)
theorem Wd.ad_of{c:Wd}(h:c.lvl<=3)(k:¬ c.lvl<=2)(n:c≠.sign):c= .added:=by cases c<;>first|rfl|exact absurd rfl n|exact absurd h (by decide)|exact absurd (show _<=2 by decide) k|exact absurd (show 5<=3 from h) (by decide)
theorem Wd.me_of{c:Wd}(h:c.lvl<=4)(k:¬ c.lvl<=3):c= .met:=by cases c<;>first|rfl|exact absurd (show _<=3 by decide) k|exact absurd (show 5<=4 from h) (by decide)
theorem Wd.hi_of{c:Wd}(h:c.lvl<=1)(n:c≠.leaf):c= .high:=by cases c<;>first|rfl|exact absurd rfl n|exact absurd h (by decide)|exact absurd (show 5<=1 from h) (by decide)
theorem wg(w:List Nat)(l:List Tk):ot (iW w::l)=w:=by unfold iW;split<;>rfl
theorem Qz(h:w ∈ oK)(l:List Tk):ny (iW w::l)=true/\xI (iW w::l):=by simp only[oK,dj,dJ,dK]at h;rcases h with rfl|rfl|rfl|rfl<;>exact⟨rfl,rfl⟩
theorem Ur(h:w ∈ qb)(l:List Tk):q0 (iW w::l)=true/\vg (iW w::l):=by simp only[qb,dj,dJ,dK]at h;rcases h with rfl|rfl|rfl<;>exact⟨rfl,rfl,rfl⟩
theorem Us(h:w ∈ m7)(l:List Tk):jN (iW w::l)=true/\wc (iW w::l):=by simp only[m7,dj,dJ,dK]at h;rcases h with rfl|rfl|rfl|rfl|rfl|rfl<;>exact⟨rfl,⟨rfl,rfl⟩,rfl⟩
theorem Jy(hw:WF t)(h:wd t= .leaf):(∃s,t= .name s)\/(∃i,t= .num i):=by
 match t,hw with
 | .name s,_=>exact .inl ⟨s,rfl⟩
 | .num i,_=>exact .inr ⟨i,rfl⟩
 | .un w t,_=>rw[oM]at h;split at h<;>cases h
 | .bin w a b,_=>exact absurd h (we w).1
 | .sc ..,_=>cases h
 | .mem _ _ (.rng _ _),_=>cases h
theorem Ut{w:Wd}:w.lvl<=0↔w= .leaf:=by cases w<;>simp[Wd.lvl]
theorem j4(n:Nat)(t:Tr):(ew n t=0/\(wd t).lvl<=n)\/(ew n t=1/\¬(wd t).lvl<=n):=by
 unfold ew;by_cases h:(wd t).lvl<=n
 ·exact .inl ⟨cH h,h⟩
 ·exact .inr ⟨cJ h,h⟩
theorem Jz(t:Tr)(hw:WF t)(h:(wd t).lvl<=2)(r:List Tk):ve (tk t++r)=false:=by
 match t,hw with
 | .name s,_=>rfl
 | .num i,_=>rfl
 | .un w t,hw=>
  have h1:=hw.1;simp only[Bu,dj,dJ,dK]at h1;rcases h1 with rfl|rfl|rfl|rfl
  ·exact absurd h (by rw[oM,cH (.inr rfl)];decide)
  ·rfl
  ·rfl
  ·exact absurd h (by rw[oM,cH (.inl rfl)];decide)
 | .bin w a b,hw=>
  rw[nw]at h
  have key:∀n,n<=2->ve (brk (ew n a) (tk a)++iW w::brk (kE (cls w) b) (tk b)++r)=false:=by
   intro n hn;rcases j4 n a with⟨q,q2⟩|⟨q,q2⟩
   ·rw[q,xj,d6];exact Jz a hw.2.1 (gp q2 hn) _
   ·rw[q,Up];rfl
  have e:tk (.bin w a b)=brk (mP (cls w) a) (tk a)++iW w::brk (kE (cls w) b) (tk b):=rfl;rw[e];cases q:cls w with
  |high=>rw[q]at key;exact key 0 (by exact fq rfl)
  |scaled=>rw[q]at key;exact key 2 (by exact fq rfl)
  |leaf=>exact absurd q (we w).1
  |sign=>exact absurd q (we w).2
  |added=>rw[q]at h;exact absurd h (by decide)
  |met=>rw[q]at h;exact absurd h (by decide)
  |lg v=>rw[q]at h;exact absurd (show 5<=2 from h) (by decide)
 | .sc w a b,_=>exact absurd (show 5<=2 from h) (by decide)
 | .mem _ _ (.rng _ _),_=>exact absurd (show 4<=2 from h) (by decide)
theorem wh(s:List Nat)(hs:s ∉ Bu)(t:Tr)(hw:WF t)(c:Nat)(r:List Tk):fV s (brk c (tk t)++r)=false:=by
 unfold brk;split
 ·match t,hw with
  | .name s,_=>rfl
  | .num i,_=>rfl
  | .un w t,hw=>
   have h1:=hw.1;show fV s (iW w::_)=false;unfold iW;split
   ·rfl
   ·show(w == s)=false;simp only[gO];intro z;subst z;exact hs h1
  | .bin w a b,hw=>
   show fV s ((brk (mP (cls w) a) (tk a)++iW w::_)++r)=false;rw[d6];exact wh s hs a hw.2.1 _ _
  | .sc w a b,hw=>
   show fV s ((brk (km w a) (tk a)++_)++r)=false;rw[d6];exact wh s hs a hw.2.1 _ _
  | .mem w t (.rng a b),hw=>
   show fV s ((brk (ew 3 t) (tk t)++_)++r)=false;rw[d6];exact wh s hs t hw.2.1 _ _
 ·rfl
theorem QA(w:List Nat):1<=(z7 w).length:=by unfold z7;split<;>simp
theorem N3(w:List Nat):1<=(oq w).length:=by unfold oq;split<;>simp
theorem D2(t:Tr):1<=(tk t).length:=by
 cases t with
 |sc w a b=>have:=QA w;simp only[tk,dI];exact VT this
 |mem w a b=>have:=N3 w;simp only[tk,dI];exact VT this
 |_=>simp[tk]<;>exact(ie (.l K1 (.a A0 (.a A1 K1))) [])
theorem j5(c:Nat)(l:List Tk):l.length<=(brk c l).length:=by unfold brk;split<;>simp<;>exact VS
theorem Gj(l r:List Tk):ve (brk 1 l++r)=false:=rfl
theorem vh(h:(fV ji l || fV gc l)=true):gX B l=(nc B l.tail).map λx=>(.un (ot l) x.1,x.2):=by unfold gX;rw[cH h]
section
variable{B:Ps}{N h:Nat}(HB:∀a,WF a->mS a<h->(tk a).length<N->wd a≠.leaf->Y8 B a)
include HB
theorem Gk{a:Tr}(hw:WF a)(hh:mS a<h)(hl:(tk a).length<N)(hn:wd a≠.leaf)(r:List Tk):nc B (brk 1 (tk a)++r)=some (a,r):=by have:=HB a hw hh hl hn r;rw[Up];show(if fT=fT then B ((tk a++[.op eY])++r)else none)=_;rw[cH rfl,d6];exact this
omit HB in
theorem KT{a:Tr}(hw:WF a)(hn:wd a= .leaf)(r:List Tk):nc B (tk a++r)=some (a,r):=by rcases Jy hw hn with⟨s,rfl⟩|⟨i,rfl⟩<;>rfl
theorem D3{a:Tr}(hw:WF a)(hh:mS a<h)(hl:(tk a).length<N)(r:List Tk):nc B (brk (ew 0 a) (tk a)++r)=some (a,r):=by
 rcases j4 0 a with⟨q,q2⟩|⟨q,q2⟩
 ·rw[q,xj];exact KT hw (Ut.mp q2) r
 ·rw[q];exact Gk HB hw hh hl (λz=>q2 (Ut.mpr z)) r
omit HB in
theorem pS{a:Tr}(h1:fV ji l=false)(h2:fV gc l=false)(e:nc B l=some (a,r))(hr:xI r):gX B l=some (a,r):=by unfold gX;rw[h1,h2,e];simp only[Bool.or_self,jf,if_false,gQ];rw[cJ (by rw[hr];decide)]
theorem vj{a:Tr}(hw:WF a)(hh:mS a<h)(hl:(tk a).length<N)(hn:wd a≠.leaf)(hr:xI r):gX B (brk 1 (tk a)++r)=some (a,r):=
 pS rfl rfl (Gk HB hw hh hl hn r) hr
theorem B3(hw:WF t)(hh:mS t<=h)(hl:(tk t).length<N)(hv:(wd t).lvl<=1)(hr:xI r):gX B (tk t++r)=some (t,r):=by
 cases t with
 |name s=>exact pS rfl rfl rfl hr
 |num i=>exact pS rfl rfl rfl hr
 |un w t=>
  have h1:=hw.1
  have hlt:(tk t).length<N:=by have:=j5 (vd w t) (tk t);simp only[tk,eD]at hl;exact VN hl this
  have hp:=D3 HB hw.2 (show mS t<h from hh) hlt r;simp only[Bu,dj,dJ,dK]at h1;rcases h1 with rfl|rfl|rfl|rfl
  ·exact absurd hv (by rw[oM,cH (.inr rfl)];decide)
  ·have e:tk (.un ji t)= .word ji::brk (ew 0 t) (tk t):=rfl;rw[e];refine(vh rfl).trans ?_;show(nc B (brk (ew 0 t) (tk t)++r)).map _=_;rw[hp];rfl
  ·have e:tk (.un gc t)= .word gc::brk (ew 0 t) (tk t):=rfl;rw[e];refine(vh rfl).trans ?_;show(nc B (brk (ew 0 t) (tk t)++r)).map _=_;rw[hp];rfl
  ·exact absurd hv (by rw[oM,cH (.inl rfl)];decide)
 |bin w a b=>
  rw[nw]at hv;have hw7:w=gC:=D1 (Wd.hi_of hv (we w).1);subst hw7;have e:tk (.bin gC a b)=brk (ew 0 a) (tk a)++ .op gC::brk (ew 0 b) (tk b):=rfl;rw[e]at hl ⊢;have la:=j5 (ew 0 a) (tk a);have lb:=j5 (ew 0 b) (tk b);simp only[dI,eD]at hl;have hh:max (mS a) (mS b)+1<=h:=hh;have pa:=D3 HB hw.2.1 (CA hh) (Kh la hl) (.op gC::(brk (ew 0 b) (tk b)++r));have pb:=D3 HB hw.2.2 (CB hh) (Pm la lb hl) r
  have h1:∀s,fV s (brk (ew 0 a) (tk a)++ .op gC::(brk (ew 0 b) (tk b)++r))=false:=by
   intro s;rcases j4 0 a with⟨q,q2⟩|⟨q,q2⟩
   ·rw[q,xj];rcases Jy hw.2.1 (Ut.mp q2)with⟨s,rfl⟩|⟨i,rfl⟩<;>rfl
   ·rw[q,Up];rfl
  rw[d6,mj];unfold gX;rw[h1,h1,pa];simp only[Bool.or_self,jf,if_false,gQ];rw[cH (show gK gC (Tk.op gC::(brk (ew 0 b) (tk b)++r))=true from rfl)];show(nc B (brk (ew 0 b) (tk b)++r)).map _=_;rw[pb];rfl
 |sc w a b=>exact absurd (show 5<=1 from hv) (by decide)
 |mem=>exact absurd (show 4<=1 from hv) (by decide)
 |rng=>exact hw.elim
 |pn=>exact hw.elim
theorem Ib(hw:WF t)(hh:mS t<h)(hl:(tk t).length<N)(hr:xI r):gX B (brk (ew 1 t) (tk t)++r)=some (t,r):=by
 rcases j4 1 t with⟨q,q2⟩|⟨q,q2⟩
 ·rw[q,xj];exact B3 HB hw (AC hh) hl q2 hr
 ·rw[q];exact vj HB hw hh hl (λz=>by rw[z]at q2;exact q2 (by decide)) hr
theorem uc(hw:WF t)(hh:mS t<=h)(hl:(tk t).length<N)(h1:(wd t).lvl<=1)(hr:xI r)(K:Nat):∃k,K<=k+(tk t).length/\((gX B (tk t++r)).bind λx=>mQ B K x.1 x.2)=mQ B k t r:=
 ⟨K,Tc,by rw[B3 HB hw hh hl h1 hr];rfl⟩
theorem QB:WF t->mS t<=h->(tk t).length<N->(wd t).lvl<=2->∀{r:List Tk},xI r->∀K,(tk t).length<K->
  ∃k,K<=k+(tk t).length/\((gX B (tk t++r)).bind λx=>mQ B K x.1 x.2)=mQ B k t r:=by
 induction t with
 |bin w a b iha ihb=>
  intro hw hh hl hv r hr K hK;by_cases h1:(wd (.bin w a b)).lvl<=1
  ·exact uc HB hw hh hl h1 hr K
  rw[nw]at hv h1;have hs:cls w= .scaled:=Wd.sc_of hv h1;refine oA (Qz (z8 hs) (brk (ew 1 b) (tk b)++r)) λt1 t2=> ?_;have e:tk (.bin w a b)=brk (ew 2 a) (tk a)++iW w::brk (ew 1 b) (tk b):=by simp only[tk,hs,mP,kE]
  rw[e]at hl hK ⊢;have la:=j5 (ew 2 a) (tk a);have lb:=j5 (ew 1 b) (tk b);simp only[dI,eD]at hl hK ⊢;have hh:max (mS a) (mS b)+1<=h:=hh;have fb:=Ib HB hw.2.2 (CB hh) (Pm la lb hl) hr;rw[d6,mj]
  have step:∀k,mQ B (k+1) a (iW w::(brk (ew 1 b) (tk b)++r))=mQ B k (.bin w a b) r:=by intro k;simp only[mQ];rw[cH t1,wg];show(gX B (brk (ew 1 b) (tk b)++r)).bind _=_;rw[fb];rfl
  rcases j4 2 a with⟨q,q2⟩|⟨q,q2⟩
  ·rw[q,xj];refine eN (iha hw.2.1 (G4 hh) (Kh la hl) q2 t2 K (Kh la hK)) λk k1 k2=> ?_;rw[q,xj]at hK;obtain⟨k',rfl⟩:∃k',k=k'+1:=⟨k -1,by exact VR hK k1⟩;exact⟨k',by exact VQ k1,by rw[k2];exact step k'⟩
  ·rw[q];obtain⟨K',rfl⟩:∃k',K=k'+1:=⟨K -1,by exact VO la hK⟩;refine⟨K',by rw[q]at la;have:=D2 a;exact(lx (.l (.a A2 K1) (.a A2 (.a A1 (.a A3 K1)))) [.l A0 A1,.l K1 A0]) la this,?_⟩;rw[vj HB hw.2.1 (CA hh) (Kh la hl) (λz=>by rw[z]at q2;exact q2 (by decide)) t2];exact step K'
 |un w t=>
  intro hw hh hl hv r hr K hK;refine uc HB hw hh hl ?_ hr K;rw[oM]at hv ⊢;by_cases q:w=i8\/w=iR
  ·rw[cH q]at hv;exact absurd hv (by decide)
  ·rw[cJ q];exact ip 1
 |name=>intro hw hh hl hv r hr K hK;exact uc HB hw hh hl (iq _) hr K
 |num=>intro hw hh hl hv r hr K hK;exact uc HB hw hh hl (iq _) hr K
 |rng=>intro hw;exact hw.elim
 |pn=>intro hw;exact hw.elim
 |sc=>intro _ _ _ hv;exact absurd (show 5<=2 from hv) (by decide)
 |mem=>intro _ _ _ hv;exact absurd (show 4<=2 from hv) (by decide)
theorem JA(hw:WF t)(hh:mS t<=h)(hl:(tk t).length<N)(hv:(wd t).lvl<=2)(hr:vg r):mc B N (tk t++r)=some (t,r):=by refine eN (QB HB hw hh hl hv hr.1 N hl) λk k1 k2=> ?_;obtain⟨k',rfl⟩:∃k',k=k'+1:=⟨k -1,by exact VM hl k1⟩;unfold mc;rw[k2];simp only[mQ];rw[cJ (by rw[hr.2];decide)]
theorem z9(hw:WF t)(hh:mS t<h)(hl:(tk t).length<N)(hn:wd t≠.leaf)(hr:vg r):mc B N (brk 1 (tk t)++r)=some (t,r):=by unfold mc;rw[vj HB hw hh hl hn hr.1];obtain⟨k',rfl⟩:∃k',N=k'+1:=⟨N -1,by exact Pl hl⟩;simp only[gQ,mQ];rw[cJ (by rw[hr.2];decide)]
theorem Gm(hw:WF t)(hh:mS t<h)(hl:(tk t).length<N)(hr:vg r):mc B N (brk (ew 2 t) (tk t)++r)=some (t,r):=by
 rcases j4 2 t with⟨q,q2⟩|⟨q,q2⟩
 ·rw[q,xj];exact JA HB hw (AC hh) hl q2 hr
 ·rw[q];exact z9 HB hw hh hl (λz=>by rw[z]at q2;exact q2 (by decide)) hr
theorem qn(hw:WF t)(hh:mS t<=h)(hl:(tk t).length<N)(h1:(wd t).lvl<=2)(hr:vg r):∃k,N<=k+(tk t).length/\eq B N (tk t++r)=lT B N k t r:=by refine⟨N,Tc,?_⟩;unfold eq;rw[cJ (by rw[Jz t hw h1];decide),JA HB hw hh hl h1 hr];rfl
theorem KU:WF t->mS t<=h->(tk t).length<N->(wd t).lvl<=3->∀{r:List Tk},vg r->∃k,N<=k+(tk t).length/\eq B N (tk t++r)=lT B N k t r:=by
 induction t with
 |bin w a b iha ihb=>
  intro hw hh hl hv r hr;by_cases h1:(wd (.bin w a b)).lvl<=2
  ·exact qn HB hw hh hl h1 hr
  rw[nw]at hv h1;have hs:cls w= .added:=Wd.ad_of hv h1 (we w).2;refine oA (Ur (Bv hs) (brk (ew 2 b) (tk b)++r)) λt1 t2=> ?_;have e:tk (.bin w a b)=brk (ew 3 a) (tk a)++iW w::brk (ew 2 b) (tk b):=by simp only[tk,hs,mP,kE]
  rw[e]at hl ⊢;have la:=j5 (ew 3 a) (tk a);have lb:=j5 (ew 2 b) (tk b);simp only[dI,eD]at hl ⊢;have hh:max (mS a) (mS b)+1<=h:=hh;have fb:=Gm HB hw.2.2 (CB hh) (Pm la lb hl) hr;rw[d6,mj]
  have step:∀k,lT B N (k+1) a (iW w::(brk (ew 2 b) (tk b)++r))=lT B N k (.bin w a b) r:=by intro k;simp only[lT];rw[cH t1,wg];show(mc B N (brk (ew 2 b) (tk b)++r)).bind _=_;rw[fb];rfl
  rcases j4 3 a with⟨q,q2⟩|⟨q,q2⟩
  ·rw[q,xj];refine eN (iha hw.2.1 (G4 hh) (Kh la hl) q2 t2) λk k1 k2=> ?_;rw[q,xj]at hl;obtain⟨k',rfl⟩:∃k',k=k'+1:=⟨k -1,by exact VR hl k1⟩;exact⟨k',by exact VQ k1,by rw[k2];exact step k'⟩
  ·rw[q];obtain⟨K',hK'⟩:∃k',N=k'+1:=⟨N -1,by exact VO la hl⟩;refine⟨K',by rw[q]at la;have:=D2 a;exact(BC (.l A2 (.a A3 (.a A1 (.a A4 K1)))) [.l A0 A1,.e A2 (.a A3 K1),.l K1 A0]) la hK' this,?_⟩;unfold eq;rw[Gj,cJ (show ¬(false=true) by decide),z9 HB hw.2.1 (CA hh) (Yv la hl hK') (λz=>by rw[z]at q2;exact q2 (by decide)) t2];have:=step K';rw[<-hK']at this;exact this
 |un w t=>
  intro hw hh hl hv r hr;by_cases h1:(wd (.un w t)).lvl<=2
  ·exact qn HB hw hh hl h1 hr
  have h2:w=i8\/w=iR:=by
   rw[oM]at h1;by_cases q:w=i8\/w=iR
   ·exact q
   ·rw[cJ q]at h1;exact absurd (by decide) h1
  refine⟨N,by exact Tc,?_⟩;have e:tk (.un w t)=iW w::brk (ew 2 t) (tk t):=by simp only[tk,vd,cH h2]
  have lb:=j5 (ew 2 t) (tk t);rw[e]at hl ⊢;simp only[eD]at hl;have fb:=Gm HB hw.2 (show mS t<h from hh) (VN hl lb) hr;have h3:ve (iW w::(brk (ew 2 t) (tk t)++r))=true:=by rcases h2 with rfl|rfl<;>rfl
  rw[mj];unfold eq;rw[cH h3,wg];show(mc B N (brk (ew 2 t) (tk t)++r)).bind _=_;rw[fb];rfl
 |name=>intro hw hh hl hv r hr;exact qn HB hw hh hl (iq _) hr
 |num=>intro hw hh hl hv r hr;exact qn HB hw hh hl (iq _) hr
 |rng=>intro hw;exact hw.elim
 |pn=>intro hw;exact hw.elim
 |sc=>intro _ _ _ hv;exact absurd (show 5<=3 from hv) (by decide)
 |mem=>intro _ _ _ hv;exact absurd (show 4<=3 from hv) (by decide)
theorem B4(hw:WF t)(hh:mS t<=h)(hl:(tk t).length<N)(hv:(wd t).lvl<=3)(hr:wc r):eq B N (tk t++r)=some (t,r):=by refine eN (KU HB hw hh hl hv hr.1) λk k1 k2=> ?_;obtain⟨k',rfl⟩:∃k',k=k'+1:=⟨k -1,by exact VM hl k1⟩;rw[k2];simp only[lT];rw[cJ (by rw[hr.2];decide)]
theorem Aa(hw:WF t)(hh:mS t<h)(hl:(tk t).length<N)(hn:wd t≠.leaf)(hr:wc r):eq B N (brk 1 (tk t)++r)=some (t,r):=by
 unfold eq;rw[Gj,cJ (show ¬(false=true) by decide),z9 HB hw hh hl hn hr.1];obtain⟨k',hk⟩:∃k',N=k'+1:=⟨N -1,by exact Pl hl⟩;show lT B N N t r=_
 have:lT B N (k'+1) t r=some (t,r):=by simp only[lT];rw[cJ (by rw[hr.2];decide)]
 rw[<-hk]at this;exact this
theorem nC(hw:WF t)(hh:mS t<h)(hl:(tk t).length<N)(hr:wc r):eq B N (brk (ew 3 t) (tk t)++r)=some (t,r):=by
 rcases j4 3 t with⟨q,q2⟩|⟨q,q2⟩
 ·rw[q,xj];exact B4 HB hw (AC hh) hl q2 hr
 ·rw[q];exact Aa HB hw hh hl (λz=>by rw[z]at q2;exact q2 (by decide)) hr
end
section
variable{B:Ps}{N h:Nat}(HB:∀a,WF a->mS a<h->(tk a).length<N->wd a≠.leaf->Y8 B a)
include HB
def LM(B:Ps)(N:Nat):Ps:=λl=>(eq B N l).bind λx=>mf B N x.1 x.2
omit HB in
theorem xk{x:Tr}(hr:qm r):mf B N x r=some (x,r):=by unfold mf;rw[cJ (by rw[hr.2.1];decide),cJ (by rw[hr.2.2.1];decide),cJ (by rw[hr.2.2.2,Bool.false_and];decide)]
omit HB in
theorem Ab(x:Tr)(hr:qm r):noRel (x,r)=some (x,r):=by unfold noRel;rw[cJ (by show ¬ jN r=true;rw[hr.2.1];decide)]
omit HB in
theorem N4{x y:Tr}(h1:jN l=true)(h2:eq B N l.tail=some (y,r))(hr:qm r):mf B N x l=some (.bin (ot l) x y,r):=by unfold mf;rw[cH h1,h2];exact Ab _ hr
omit HB in
theorem QC{x y:Tr}(h2:xg B N l=some (y,r))(hr:qm r):mf B N x (.word fY::l)=some (.mem fY x y,r):=by unfold mf;rw[cJ (show ¬ jN (.word fY::l)=true fromλz=>by exact mY z),cH (show fV fY (.word fY::l)=true from rfl)];show(xg B N l).bind _=_;rw[h2];exact Ab _ hr
omit HB in
theorem Ic{x y:Tr}(h2:xg B N l=some (y,r))(hr:qm r):mf B N x (.word gc:: .word fY::l)=some (.mem fM x y,r):=by unfold mf;rw[cJ (show ¬ jN (.word gc:: .word fY::l)=true fromλz=>by exact mY z),cJ (show ¬ fV fY (.word gc:: .word fY::l)=true from(by show ¬((gc == fY)=true);decide)),cH (show(fV gc (.word gc:: .word fY::l) && fV fY (.word gc:: .word fY::l).tail)=true from rfl)];show(xg B N l).bind _=_;rw[h2];exact Ab _ hr
theorem Uu{a b:Tr}(ha:WF a)(hb:WF b)(hha:mS a<h)(hhb:mS b<h)(hla:(tk a).length<N)(hlb:(tk b).length<N)(hr:wc r):xg B N (tk (.rng a b)++r)=some (.rng a b,r):=by
 have e:tk (.rng a b)++r=brk (ew 3 a) (tk a)++ .op jD::(brk (ew 3 b) (tk b)++r):=by simp[tk]
 rw[e];unfold xg;rw[nC HB ha hha hla (show wc (.op jD::(brk (ew 3 b) (tk b)++r))from⟨⟨rfl,rfl⟩,rfl⟩)];show(if gK jD (.op jD::(brk (ew 3 b) (tk b)++r))=true then(eq B N (brk (ew 3 b) (tk b)++r)).map (λy=>(Tr.rng a y.1,y.2))else if yo a=true then some (a,.op jD::(brk (ew 3 b) (tk b)++r))else none)=_;rw[cH (show gK jD (.op jD::(brk (ew 3 b) (tk b)++r))=true from rfl),nC HB hb hhb hlb hr];rfl
theorem Id(hw:WF t)(hh:mS t<=h)(hl:(tk t).length<N)(hv:(wd t).lvl<=4)(hr:qm r):LM B N (tk t++r)=some (t,r):=by
 by_cases h1:(wd t).lvl<=3
 ·unfold LM;rw[B4 HB hw hh hl h1 hr.1];exact xk hr
 cases t with
 |bin w a b=>
  rw[nw]at hv h1;have hs:cls w= .met:=Wd.me_of hv h1;refine oA (Us (Gi hs) (brk (ew 3 b) (tk b)++r)) λt1 t2=> ?_;have e:tk (.bin w a b)=brk (ew 3 a) (tk a)++iW w::brk (ew 3 b) (tk b):=by simp only[tk,hs,mP,kE]
  rw[e]at hl ⊢;have la:=j5 (ew 3 a) (tk a);have lb:=j5 (ew 3 b) (tk b);simp only[dI,eD]at hl;have hh:max (mS a) (mS b)+1<=h:=hh;rw[d6,mj];unfold LM;rw[nC HB hw.2.1 (CA hh) (Kh la hl) t2];show mf B N a (iW w::(brk (ew 3 b) (tk b)++r))=_;rw[N4 t1 (nC HB hw.2.2 (CB hh) (Pm la lb hl) hr.1) hr,wg]
 |mem w t m=>cases m with
  |rng a b=>
   have e:tk (.mem w t (.rng a b))++r=brk (ew 3 t) (tk t)++(oq w++(tk (.rng a b)++r)):=by simp[tk]
   have hl':(brk (ew 3 t) (tk t)).length+((oq w).length+((brk (ew 3 a) (tk a)).length+((brk (ew 3 b) (tk b)).length+1)))<N:=by
    simpa [tk] using hl
   rw[e];have lt:=j5 (ew 3 t) (tk t);have la:=j5 (ew 3 a) (tk a);have lb:=j5 (ew 3 b) (tk b);have hh:max (mS t) (max (mS a) (mS b))+1<=h:=hh;unfold LM;have hm:=Uu HB hw.2.2.1 hw.2.2.2 ((lx (.t A1 A3) [.l (.a (.ma A0 (.ma A1 A2)) K1) A3]) hh) ((lx (.t A2 A3) [.l (.a (.ma A0 (.ma A1 A2)) K1) A3]) hh) ((Kg (.t A6 A4) [.t (.a A0 (.a A1 (.a A2 (.a A3 K1)))) A4,.l A5 A0,.l A6 A2]) hl' lt la) ((VB (.t A7 A4) [.t (.a A0 (.a A1 (.a A2 (.a A3 K1)))) A4,.l A5 A0,.l A6 A2,.l A7 A3]) hl' lt la lb) hr.1;rcases hw.1 with rfl|rfl
   ·rw[show oq fY=[.word fY]from rfl,nC HB hw.2.1 (by omega) (Rx lt la lb hl') (show wc ([.word fY]++(tk (.rng a b)++r))from⟨⟨rfl,rfl⟩,rfl⟩)];exact QC hm hr
   ·rw[show oq fM=[.word gc,.word fY]from rfl,nC HB hw.2.1 (by omega) (Rx lt la lb hl') (show wc ([.word gc,.word fY]++(tk (.rng a b)++r))from⟨⟨rfl,rfl⟩,rfl⟩)];exact Ic hm hr
  |_=>exact hw.elim
 |name s=>exact absurd (iq _) h1
 |num i=>exact absurd (iq _) h1
 |un w t=>
  rw[oM]at h1;split at h1
  ·exact absurd (by decide) h1
  ·exact absurd (by decide) h1
 |sc w a b=>exact absurd (show 5<=4 from hv) (by decide)
 |rng=>exact hw.elim
 |pn=>exact hw.elim
theorem JB(hw:WF t)(hh:mS t<h)(hl:(tk t).length<N)(hn:wd t≠.leaf)(hr:qm r):LM B N (brk 1 (tk t)++r)=some (t,r):=by unfold LM;rw[Aa HB hw hh hl hn hr.1];exact xk hr
theorem QD(hw:WF t)(hh:mS t<h)(hl:(tk t).length<N)(hr:qm r):LM B N (brk (ew 4 t) (tk t)++r)=some (t,r):=by
 rcases j4 4 t with⟨q,q2⟩|⟨q,q2⟩
 ·rw[q,xj];exact Id HB hw (AC hh) hl q2 hr
 ·rw[q];exact JB HB hw hh hl (λz=>by rw[z]at q2;exact q2 (by decide)) hr
def lgT:Tr->List Tk
 | .sc w _ _=>z7 w
 | .bin w _ _=>[.word w]
 |_=>[]
omit HB in
theorem QE(hw:w=eA\/w=fg)(l:List Tk):fZ (z7 w++l)=(w,2):=by
 rcases hw with rfl|rfl
 ·rfl
 ·rfl
omit HB in
theorem N5(h1:fV nn l=false):fZ (.word f8::l)=(f8,1):=by unfold fZ;rw[cH (show fV f8 (.word f8::l)=true from rfl)];show(if fV nn l=true then _ else _)=_;rw[h1];rfl
omit HB in
theorem QF(h1:fV nq l=false):fZ (.word iH::l)=(iH,1):=by unfold fZ;rw[cJ (show ¬ fV f8 (.word iH::l)=true by show ¬(iH == f8)=true;decide),cH (show fV iH (.word iH::l)=true from rfl)];show(if fV nq l=true then _ else _)=_;rw[h1];rfl
omit HB in
theorem N6(l:List Tk):fZ (.word gf::l)=(gf,1):=by unfold fZ;rw[cJ (show ¬ fV f8 (.word gf::l)=true by show ¬(gf == f8)=true;decide),cJ (show ¬ fV iH (.word gf::l)=true by show ¬(gf == iH)=true;decide),cH (show fV gf (.word gf::l)=true from rfl)]
omit HB in
theorem Ie{k:Nat}{acc z:Tr}(h1:fZ l=(w,c))(hw:w≠hG)(h2:LM B N (l.drop c)=some (z,r)):nf B N w (k+1) acc l=nf B N w k (Ge w c acc z) r:=by simp only[nf];rw[h1];rw[cJ hw,cJ (by simp)];unfold LM at h2;refine eN (j2 h2) λoz1 e1 e2=> ?_;obtain⟨y,ry⟩:=oz1;show(eq B N (l.drop c)).bind _=_;rw[e1];show(mf B N y ry).bind _=_;rw[show mf B N y ry=some (z,r)from e2];rfl
def LG(B:Ps)(N:Nat)(w:List Nat)(t:Tr)(r:List Tk):Prop:=∃y ry k,LM B N (tk t++r)=some (y,ry)/\(fZ ry).1=w/\w≠hG/\N<=k+(tk t).length/\nf B N w N y ry=nf B N w k t r
theorem JC{a b:Tr}{sep:List Tk}(ha:WF a)(hb:WF b)(hha:mS a<h)(hhb:mS b<h)(hl:(tk t).length<N)(ht:t=Ge w c a b)(hc:c=sep.length)(hc1:1<=c)(e:tk t=brk (km w a) (tk a)++(sep++brk (ew 4 b) (tk b)))
  (hlw:fZ (sep++(brk (ew 4 b) (tk b)++r))=(w,c))(hnr:qm (sep++(brk (ew 4 b) (tk b)++r)))(hr:qm r)(hne:w≠hG)(ih:wd a= .lg w->(tk a).length<N->LG B N w a (sep++(brk (ew 4 b) (tk b)++r))):LG B N w t r:=by
 have hl2:=hl;rw[e]at hl2;simp only[dI]at hl2;have la:=j5 (km w a) (tk a);have lb:=j5 (ew 4 b) (tk b);have hb':=QD HB hb hhb ((Kg (.t A6 A4) [.e A0 A1,.l K1 A0,.t (.a A2 (.a A1 A3)) A4,.l A5 A2,.l A6 A3]) hc hc1 hl2 la lb) hr
 have step:∀k,nf B N w (k+1) a (sep++(brk (ew 4 b) (tk b)++r))=nf B N w k t r:=by intro k;rw[ht];refine Ie hlw hne ?_;rw[hc,List.drop_left];exact hb'
 have et:tk t++r=brk (km w a) (tk a)++(sep++(brk (ew 4 b) (tk b)++r)):=by rw[e];simp
 have elen:(tk t).length=(brk (km w a) (tk a)).length+(sep.length+(brk (ew 4 b) (tk b)).length):=by rw[e];simp
 unfold LG;rw[et,elen];obtain⟨N',hN⟩:∃k',N=k'+1:=⟨N -1,by exact(BC (.e A1 (.a (.s A1 K1) K1)) [.t A0 A1,.e A0 (.a A2 (.a A3 A4))]) hl elen⟩;by_cases q4:(wd a).lvl<=4
 ·have q:km w a=0:=by unfold km;rw[cH (.inl q4)]
  rw[q,xj];refine⟨a,_,N',Id HB ha (AC hha) ((ZZ (.t A4 A1) [.t A0 A1,.e A2 A3,.l K1 A2,.l A4 A5,.l A6 A7,.e A0 (.a A5 (.a A3 A7)),.e A1 (.a A8 K1)]) hl hc hc1 la lb elen hN) q4 hnr,by rw[hlw],hne,by have:=D2 a;exact(Kg (.l A4 (.a A5 (.a A6 (.a A1 A3)))) [.e A0 A1,.l K1 A0,.l A2 A3,.e A4 (.a A5 K1),.l K1 A6]) hc hc1 lb hN this,?_⟩;have:=step N';rw[<-hN]at this;exact this
 ·by_cases q5:wd a= .lg w
  ·have q:km w a=0:=by unfold km;rw[cH (.inr q5)]
   rw[q,xj]at hl2 ⊢;refine EE (ih q5 ((Kg (.t A2 A4) [.e A0 A1,.l K1 A0,.t (.a A2 (.a A1 A3)) A4,.l A5 A3,.e A4 (.a A6 K1)]) hc hc1 hl2 lb hN)) λy ry k e1 e2 e3 e4 e5=> ?_;obtain⟨k',rfl⟩:∃k',k=k'+1:=⟨k -1,by exact(VB (.e A7 (.a (.s A7 K1) K1)) [.e A0 A1,.l K1 A0,.t (.a A2 (.a A1 A3)) A4,.l A5 A3,.e A4 (.a A6 K1),.l A4 (.a A7 A2)]) hc hc1 hl2 lb hN e4⟩;exact⟨y,ry,k',e1,e2,e3,by exact(VB (.l A4 (.a A6 (.a A7 (.a A1 A3)))) [.e A0 A1,.l K1 A0,.l A2 A3,.e A4 (.a A5 K1),.l A4 (.a (.a A6 K1) A7)]) hc hc1 lb hN e4,by rw[e5];exact step k'⟩
  ·have q:km w a=1:=by unfold km;rw[cJ (λz=>z.elim q4 q5)]
   rw[q]at la hl2 ⊢;refine⟨a,_,N',JB HB ha (by exact hha) ((VB (.t A5 A4) [.e A0 A1,.l K1 A0,.t (.a A2 (.a A1 A3)) A4,.l A5 A2,.l A6 A3,.e A4 (.a A7 K1)]) hc hc1 hl2 la lb hN) (λz=>by rw[z]at q4;exact q4 (by decide)) hnr,by rw[hlw],hne,by have:=D2 a;exact(VB (.l A6 (.a A7 (.a A3 (.a A1 A5)))) [.e A0 A1,.l K1 A0,.l A2 A3,.l A4 A5,.e A6 (.a A7 K1),.l K1 A2]) hc hc1 la lb hN this,?_⟩;have:=step N';rw[<-hN]at this;exact this
theorem Uv:WF t->mS t<=h->(tk t).length<N->∀w,wd t= .lg w->∀{r:List Tk},qm r->LG B N w t r:=by
 induction t with
 |sc v a b iha ihb=>
  intro hw hh hl w hv r hr;have hv:v=w:=Wd.lg.inj hv;subst hv;have hh:max (mS a) (mS b)+1<=h:=hh;have hq:v≠hG/\qm (z7 v++(brk (ew 4 b) (tk b)++r))/\(z7 v).length=2:=by rcases hw.1 with rfl|rfl<;>exact⟨by decide,⟨⟨⟨rfl,rfl⟩,rfl⟩,rfl,rfl,rfl⟩,rfl⟩
  exact JC HB (c:=2) hw.2.1 hw.2.2 (CA hh) (CB hh) hl rfl hq.2.2.symm (fq rfl) rfl (QE hw.1 _) hq.2.1 hr hq.1 λq ql=>iha hw.2.1 (G4 hh) ql v q hq.2.1
 |bin v a b iha ihb=>
  intro hw hh hl w hv r hr;refine oA (Uq hw.1 hv) λe hv3=> ?_;subst e;have hh:max (mS a) (mS b)+1<=h:=hh
  have hq:w≠hG/\qm ([.word w]++(brk (ew 4 b) (tk b)++r))/\fZ ([.word w]++(brk (ew 4 b) (tk b)++r))=(w,1)/\iW w= .word w:=by
   rcases hv3 with rfl|rfl|rfl
   ·exact⟨by decide,⟨⟨⟨rfl,rfl⟩,rfl⟩,rfl,rfl,rfl⟩,N5 (wh _ (by decide) b hw.2.2 _ _),rfl⟩
   ·exact⟨by decide,⟨⟨⟨rfl,rfl⟩,rfl⟩,rfl,rfl,rfl⟩,QF (wh _ (by decide) b hw.2.2 _ _),rfl⟩
   ·exact⟨by decide,⟨⟨⟨rfl,rfl⟩,rfl⟩,rfl,rfl,rfl⟩,N6 _,rfl⟩
  refine JC HB (c:=1) (sep:=[.word w]) hw.2.1 hw.2.2 (CA hh) (CB hh) hl rfl rfl (fq rfl) ?_ hq.2.2.1 hq.2.1 hr hq.1 λq ql=>iha hw.2.1 (G4 hh) ql w q hq.2.1;have hv:cls w= .lg w:=hv;simp only[tk,hv,mP,kE,hq.2.2.2];rfl
 |un v t ih=>intro _ _ _ w hv;rw[oM]at hv;split at hv<;>exact nomatch hv
 |_=>intro _ _ _ w hv;exact nomatch hv
omit HB in
theorem N7(l:List Tk):ng B N l=(LM B N l).bind λy=>vf B N y.1 y.2:=by unfold ng LM;cases eq B N l<;>rfl
theorem JD(hw:WF t)(hh:mS t<=h)(hl:(tk t).length<N)(hr:SK r):ng B N (tk t++r)=some (t,r):=by
 rw[N7]
 have kF:∀w k,0<k->nf B N w k t r=some (t,r):=by intro w k hk;obtain⟨k',rfl⟩:∃k',k=k'+1:=⟨k -1,by exact qH hk rfl⟩;simp only[nf];rw[cH hr.2]
 by_cases h4:(wd t).lvl<=4
 ·rw[Id HB hw hh hl h4 hr.1];exact kF _ _ (Rw hl)
 ·have:∃w,wd t= .lg w:=by
   cases q:wd t with
   |lg w=>exact⟨w,rfl⟩
   |_=>rw[q]at h4;exact absurd (by decide) h4
  refine oE this λw hv=> ?_;clear this;refine EE (Uv HB hw hh hl w hv hr.1) λy ry k e1 e2 e3 e4 e5=> ?_;rw[e1];show nf B N (fZ ry).1 N y ry=_;rw[e2,e5];exact kF _ _ ((kI (.t (.k 0) A2) [.t A0 A1,.l A1 (.a A2 A0)]) hl e4)
omit HB in
theorem KV(e:ng B N l=some (t,r))(h1:gK jD r=false):mR B N l=some (t,r):=by
 unfold ng at e;refine eN (j2 e) λoz1 e1 e2=> ?_;obtain⟨x,rx⟩:=oz1;unfold mR;rw[e1];show(if gK jD rx=true then _ else(mf B N x rx).bind λy=>vf B N y.1 y.2)=_;by_cases q:gK jD rx=true
 ·exfalso
  obtain⟨x1,l1,rfl⟩:∃x1 l1,rx=x1::l1:=by
   cases rx with
   |nil=>exact mY q
   |cons a b=>exact⟨a,b,rfl⟩
  have hx:x1= .op jD:=by
   cases x1 with
   |op s=>
    have:(s == jD)=true:=q;rw[kc]at this;rw[this]
   |_=>exact mY q
  subst hx;have e3:mf B N x (.op jD::l1)=some (x,.op jD::l1):=xk ⟨⟨⟨rfl,rfl⟩,rfl⟩,rfl,rfl,rfl⟩;simp only[e3]at e2;have e2:vf B N x (.op jD::l1)=some (t,r):=e2;unfold vf at e2;cases N with
  |zero=>exact eC e2
  |succ k=>
   simp only[nf]at e2;rw[cH (show(fZ (.op jD::l1)).1=hG from rfl)]at e2;refine sp2 e2 ?_;clear e2;intro ey ez;subst ey;subst ez;exact Yl h1
 ·rw[cJ q];exact e2
end
theorem QG(h:WF t):re t=false:=by cases t<;>first|rfl|exact h.elim
theorem Uw(h:wd t≠.leaf):yo t=false:=by cases t<;>first|rfl|exact absurd rfl h
theorem W4(N m:Nat):∀a,WF a->mS a<m->(tk a).length<N->wd a≠.leaf->Y8 (pB N m) a:=by
 induction m with
 |zero=>intro a _ hh;omega
 |succ m ih=>
  intro a hw hh hl hn r;have e:=JD ih hw ((ie (.l A0 A1) [.t A0 (.a A1 K1)]) hh) hl (show SK (.op eY::r)from⟨⟨⟨⟨rfl,rfl⟩,rfl⟩,rfl,rfl,rfl⟩,rfl⟩);have e:=KV e rfl;show Vw (pB N m) N _=_;unfold Vw;rw[e];show(if re a=true then none else if gK eY (.op eY::r)=true then some (v8 a,r)else none)=_;rw[QG hw,cJ (by decide),cH (show gK eY (.op eY::r)=true from rfl)];unfold v8;rw[Uw hn];rfl
theorem W5{N m:Nat}(hw:WF t)(hh:mS t<=m)(hl:(tk t).length<N):ng (pB N m) N (tk t)=some (t,[]):=by
 have:=JD (W4 N m) hw hh hl (r:=[]) ⟨⟨⟨⟨rfl,rfl⟩,rfl⟩,rfl,rfl,rfl⟩,rfl⟩
 rwa [gD]at this
def qo(p:Ps):Prop:=∀l t r,p l=some (t,r)->r.length<=l.length
theorem lm(l:List Tk):l.tail.length<=l.length:=by simp
theorem rh(hB:qo B):Yh (λl t r=>B l=some (t,r)) (λ_=>True) λ_ _ l _ r=>r.length<=l.length where
 num:=Nat.le_succ _
 name:=Nat.le_succ _
 br:=λh=>Nat.le_succ_of_le (hB _ _ _ h)
 un:=λ_ h=>gp h (lm _)
 pow:=λh _ k=>gp k (gp (lm _) h)
 u0:=id
 u1:=id
 mul:=λh _ k=>gp k (gp (lm _) h)
 u2:=id
 sg:=λ_ h=>gp h (lm _)
 add:=λh _ k=>gp k (gp (lm _) h)
 sd:=λ_=>ip _
 rng:=λh _ k=>gp k (gp (lm _) h)
 mn:=λh _=>h
 u3:=id
 rel:=λh _ k=>gp k (gp (lm _) h)
 mem:=λh _ k=>gp k (gp (lm _) h)
 nmem:=λh _ k=>gp k (gp (lm _) (gp (lm _) h))
 u4:=id
 lg:=λh _ _ k=>gp k (gp (by rw[mh];exact Nat.sub_le ..) h)
 u5:=id
 u7:=id
section
variable{B:Ps}(hB:qo B)(N:Nat)
include hB
theorem D4:qo (gX B):=xi (rh hB) λ_ _ _ e=>e
theorem Ig:qo (mc B N):=yC (rh hB) λ_ _ _ e=>e
theorem D5:qo (eq B N):=lA (rh hB) λ_ _ _ e=>e
theorem KW(x:Tr):qo (mf B N x):=λl=>D0 (rh hB) (λ_ _ _ e=>e) ((rh hB).sd (l:=l) (x:=x) trivial)
end
theorem JE(N m:Nat):qo (pB N m):=by
 induction m with
 |zero=>exactλl t r e=>eC e
 |succ m ih=>exactλl t r e=>iJ (N1 (rh ih) (λ_ _ _ e=>e) l t r e) λx q h _ e2=>e2▸gp (lm _) h
section
theorem fJ{x y:D}{c:Bool}(h:l5 x y=some c):ir .Eq (.d x) (.d y) σ=some (.ok c,σ):=by show(l5 x y).map _=_;rw[h];rfl
theorem iX{x y:D}{c:Bool}(h:l5 x y=some c):ir .NotEq (.d x) (.d y) σ=some (.ok (!c),σ):=by show((l5 x y).map _).map _=_;rw[h];rfl
theorem mT{y:List Nat}{c:Bool}(h:(x == y)=c):ir .Eq (.d (.str x)) (.d (.str y)) σ=some (.ok c,σ):=fJ (by rw[<-h];rfl)
theorem pT{y:List Nat}{c:Bool}(h:(x == y)=c):ir .NotEq (.d (.str x)) (.d (.str y)) σ=some (.ok (!c),σ):=iX (by rw[<-h];rfl)
theorem xm{r:R PV}(e:m σ=some (r,σ'))(hl:σ'.length=σ.length):s6 m σ=some (r,σ'):=by
 unfold s6;rw[e];have:σ'.take σ.length=σ':=by rw[<-hl];exact List.take_length
 cases r with
 |ok v=>simp only[this];split<;>rfl
 |exc=>simp only[this];split<;>rfl
def Cl(σ:List MO):Prop:=σ.all (MO.below σ.length)=true
theorem KY{σ₁ junk:List MO}{v:PV}(e:m σ=some (.ok v,σ₁++junk))(hl:σ₁.length=σ.length)(hv:v.below σ.length=true)(hc:Cl σ₁):s6 m σ=some (.ok v,σ₁):=by
 unfold s6;rw[e];have:(σ₁++junk).take σ.length=σ₁:=by rw[<-hl];simp
 unfold Cl at hc;rw[hl]at hc;simp only[this,hv,hc];rfl
theorem gH{k:Nat}{m:Lo->M Fl}{more:Nat}{σ₁ junk:List MO}{v:PV}(hk:vs.length=k)(e:i6 (m (eR vs ds more)) σ=some (.ok v,σ₁++junk))(hl:σ₁.length=σ.length)(hv:v.below σ.length=true)(hc:Cl σ₁):semF k m ds more vs σ=some (.ok v,σ₁):=by unfold semF;exact KY (junk:=junk) (by rw[cH hk];exact e) hl hv hc
theorem dk{k:Nat}{m:Lo->M Fl}{more:Nat}{r:R PV}(hk:vs.length=k)(e:i6 (m (eR vs ds more)) σ=some (r,σ'))(hl:σ'.length=σ.length):semF k m ds more vs σ=some (r,σ'):=by unfold semF;refine xm ?_ hl;rw[cH hk];exact e
theorem Ac{k:Nat}{m:Lo->M Fl}{d:D}{more:Nat}{r:R PV}(hk:vs.length=k)(e:i6 (m (eR vs [d] more)) σ=some (r,σ'))(hl:σ'.length=σ.length):ph k m [d] more vs σ=some (r,σ'):=by unfold ph;refine xm ?_ hl;rw[cH hk];exact e
theorem KZ{k:Nat}{m:Lo->M Fl}{d:D}{more:Nat}{r:R PV}(hk:vs.length=k+1)(e:i6 (m (eR vs [] more)) σ=some (r,σ'))(hl:σ'.length=σ.length):ph k m [d] more vs σ=some (r,σ'):=by unfold ph;refine xm ?_ hl;rw[cJ (VY hk),cH (by simpa using hk)];exact e
def Tk.kind:Tk->List Nat
 | .op _=>i7
 | .word _=>jc
 | .name _=>fk
 | .int _=>ic
noncomputable def Tk.val:Tk->D
 | .op s=> .str s
 | .word s=> .str s
 | .name s=> .str s
 | .int i=> .int i
def Tk.d(t:Tk):D:= .tup [.str t.kind,t.val,.int 1]
noncomputable def Tk.ok:Tk->Bool
 | .op s=>s.all (· <128)
 | .word s=>s.all (· <128)
 | .name s=>s.all (· <128)
 | .int _=>true
def Ux:D:= .tup [.str hG,.str hG,.int 1]
def oG(ah:List Tk)(i:Nat):D:=match ah[i]? with
 |some t=>t.d
 |none=>Ux
def i9(j:Nat)(a ae:Nat):MO:= .obj [(d9,.ref j),(ii,.d (.int a)),(gb,.d (.int ae)),(iu,.d (.int 0)),(dX,.d .none),(ed,.d .none),(dM,.d .none),(dY,.d .none),(dH,.d .none),(eO,.d .none),(eB,.d .none),(fQ,.d .none),(gF,.d .none),(jd,.d .none),(oV,.d .none)]
structure PS(σ:List MO)(k j:Nat)(ah:List Tk)(a ae:Nat):Prop where
 hk:σ[k]? =some (i9 j a ae)
 hj:σ[j]? =some (.list (ah.map Tk.d))
 ne:ah≠[]
 sz:ah.length<500
 ok:ah.all Tk.ok=true
 pos:a<1000
 cl:Cl σ
variable{k j a ae W:Nat}{ah:List Tk}
theorem PS.at_(p:PS σ k j ah a ae):oH σ ii (.inst k)=some (.d (.int a)):=by simp only[oH,xQ,p.hk,i9];rfl
theorem PS.toks(p:PS σ k j ah a ae):oH σ d9 (.inst k)=some (.ref j):=by simp only[oH,xQ,p.hk,i9];rfl
theorem PS.nest_(p:PS σ k j ah a ae):oH σ gb (.inst k)=some (.d (.int ae)):=by simp only[oH,xQ,p.hk,i9];rfl
theorem W6{len:Nat}(h:i<len):seqIndex? (i:Int) len=some i:=by have h0:¬(i:Int)<0:=Int.not_lt.mpr (Int.natCast_nonneg i);show(if(decide (0<=(if(i:Int)<0 then(i:Int)+len else i)) && decide ((if(i:Int)<0 then(i:Int)+len else i)<(len:Int)))=true then some (Int.toNat (if(i:Int)<0 then(i:Int)+len else i))else none)=_;rw[cJ h0,eE (Int.natCast_nonneg i),eE (Int.ofNat_lt.mpr h)];rfl
theorem jI(p:PS σ k j ah a ae)(ahead:Nat)(hah:ahead<1000):
  (CN W (n+1)).c eU [.inst k,.d (.int ahead)] σ=some (.ok (.d (oG ah (a+ahead))),σ):=by
 rw[zT];have h1:=p.at_;have h2:=p.toks;have hj:=p.hj;have hz:=p.sz;have hp:=p.pos;have h8:((a:Int)+ahead).natAbs<2 ^ 40:=VX hah hp;obtain⟨Lt,hL⟩:∃L,L=ah.map Tk.d:=⟨_,rfl⟩;have hlen:Lt.length=ah.length:=by rw[hL];simp
 have h7:Lt.length<2 ^ 40:=(ie (.t A1 (.pw 2 40)) [.t A0 (.k 500),.e A1 A0]) hz hlen;rw[<-hL]at hj;by_cases hin:a+ahead<ah.length
 ·have h4:((a:Int)+ahead)<(Lt.length:Nat):=(lx (.S (.a (.c A2) (.c A3)) (.c A0)) [.e A0 A1,.t (.a A2 A3) A1]) hlen hin;have h5:seqIndex? ((a:Int)+ahead) Lt.length=some (a+ahead):=W6 (hlen▸hin)
  have h6:Lt[a+ahead]? =some (oG ah (a+ahead)):=by unfold oG;rw[hL,List.getElem?_map,nQ hin];rfl
  have hs:gZ σ (.ref j) (.d (.int ((a:Int)+ahead)))=some (.d (oG ah (a+ahead))):=by show(if _ then _ else _)=_;rw[cH h8];simp only[dW,hj,gQ,h5,h6,Option.map_some]
  refine dk rfl ?_ rfl;exact d8 uA λr=>r (nj h1) rfl (nj h2) (za (show dW σ (.ref j)=some Lt by simp only[dW,hj]) h7) (ti h4) (nj h2) (dC hs) ⟨⟩
 ·have h4:¬((a:Int)+ahead)<(Lt.length:Nat):=(lx (.n (.S (.a (.c A2) (.c A3)) (.c A0))) [.e A0 A1,.n (.t (.a A2 A3) A1)]) hlen hin;have hne:=p.ne;have hpos:0<ah.length:=by cases ah<;>simp_all
  have h5:seqIndex? (-1) Lt.length=some (ah.length -1):=by unfold seqIndex?;simp;exact VW hz hlen hpos
  obtain⟨tl,htl⟩:∃t:Tk,ah[ah.length -1]? =some t:=⟨_,nQ ((ie (.t (.s A0 K1) A0) [.t A0 (.k 500),.e A1 A0,.t (.k 0) A0]) hz hlen hpos)⟩
  have h6:Lt[ah.length -1]? =some (.tup [.str tl.kind,tl.val,.int 1]):=by rw[hL,List.getElem?_map,htl];rfl
  have h9:seqIndex? 2 3=some 2:=rfl;have h10:(Lt.length !=([]:List D).length)=true:=by simp;intro z;rw[z]at hlen;simp at hlen;exact Rz hlen hpos
  have h11:oG ah (a+ahead)=Ux:=by unfold oG;rw[List.getElem?_eq_none (VV hlen hin)]
  have h12:¬(Lt=[]):=by intro z;rw[z]at hlen;simp at hlen;exact Rz hlen hpos
  have hkk:(σ++[MO.list []])[k]? =σ[k]? :=fH (ek.mp p.hk).1;have h13:(σ++[MO.list []])[σ.length]? =some (MO.list []):=by simp
  have hjj:(σ++[MO.list []])[j]? =some (MO.list Lt):=by rw[fH (ek.mp p.hj).1];exact hj
  have h14:oH (σ++[MO.list []]) d9 (.inst k)=some (.ref j):=by simp only[oH,xQ,hkk,p.hk,i9];rfl
  rw[h11];refine gH (σ₁:=σ) (junk:=[.list []]) rfl ?_ rfl rfl p.cl;have g1:dW (σ++[MO.list []]) (.ref j)=some Lt:=by simp only[dW,hjj]
  have g2:dW (σ++[MO.list []]) (.ref σ.length)=some []:=by simp only[dW,h13]
  have e1:gJ (σ++[MO.list []]) .Eq (.ref j) (.ref σ.length)=some false:=by show(dW _ _).bind _=_;rw[g1,gQ,g2,gQ];unfold Tf;rw[cH h10]
  have s1:gZ (σ++[MO.list []]) (.ref j) (.d (.int (-1)))=some (.d (.tup [.str tl.kind,tl.val,.int 1])):=by show(dW _ _).bind _=_;rw[g1,gQ,h5,gQ,h6];rfl
  exact d8 uA λr=>r (nj h1) rfl (nj h2) (za (show dW σ (.ref j)=some Lt by simp only[dW,hj]) h7) (tj h4) (nj h2) (ig e1) (nj h14) (dC s1) (dC rfl) ⟨⟩
theorem Bw(p:PS σ k j ah a ae):(CN W (n+2)).c gz [.inst k] σ=some (.ok (.d (oG ah a)),σ):=by rw[Bf];refine dk rfl ?_ rfl;have h:=jI (W:=W) (n:=n) p 0 (by decide);simp only[Nat.add_zero]at h;have h:(CN W (n+1)).c eU [.inst k,.d (.int 0)] σ=some (.ok (.d (oG ah a)),σ):=h;exact d8 C1 λr=>r h ⟨⟩
theorem JF(s:List Nat)(h:s.all (· <128)=true):(s.all (· <0x110000))=true:=by rw[fu]at h ⊢;intro x hx;have:=h x hx;simp only[decide_eq_true_eq]at this ⊢;exact mq this rfl
theorem Ih(x y:List Nat):((⟨x.toArray⟩:Str) ==⟨y.toArray⟩)=(x == y):=vA x y
theorem tN(a b c d:List Nat):I8 (.tup [.str a,.str b]) (.tup [.str c,.str d])=(a == c && b == d):=by simp[I8,D.py,D.pys,PyData.eqv,PyData.eqvAll,Ih]
theorem D6(a c d:List Nat)(i:Int):I8 (.tup [.str a,.int i]) (.tup [.str c,.str d])=false:=by simp[I8,D.py,D.pys,PyData.eqv,PyData.eqvAll,Ih]
def Tk.is(t:Tk)(kd s:List Nat):Bool:=t.kind == kd &&(match t.val with| .str v=>v == s|_=>false)
def ur(ah:List Tk)(i:Nat)(kd s:List Nat):Bool:=match ah[i]? with
 |some t=>t.is kd s
 |none=>false
theorem QH(t:Tk):t.kind.all (· <0x110000)=true:=by
 cases t
 ·show i7.all (· <0x110000)=true;decide
 ·show jc.all (· <0x110000)=true;decide
 ·show fk.all (· <0x110000)=true;decide
 ·show ic.all (· <0x110000)=true;decide
theorem D7(t:Tk)(ht:t.ok=true)(kd s:List Nat)(hk:kd.all (· <0x110000)=true)(hs:s.all (· <0x110000)=true):
  l5 (.tup [.str t.kind,t.val]) (.tup [.str kd,.str s])=some (t.is kd s):=by
 have hkk:=QH t
 have hv:D.ok t.val=true:=by
  cases t with
  |int i=>rfl
  |op v=>exact JF v ht
  |word v=>exact JF v ht
  |name v=>exact JF v ht
 have hd:D.dep t.val=0:=by cases t<;>rfl
 have e1:D.ok (.tup [.str t.kind,t.val])=true:=by simp[D.ok,D.oks,hv];simpa using hkk
 have e2:D.ok (.tup [.str kd,.str s])=true:=by simp[D.ok,D.oks];exact⟨by simpa using hk,by simpa using hs⟩
 have e3:D.dep (.tup [.str t.kind,t.val])<=64:=by simp[D.dep,D.deps,hd]
 have e4:D.dep (.tup [.str kd,.str s])<=64:=by simp[D.dep,D.deps]
 show(if D.ok (.tup [.str t.kind,t.val]) && D.ok (.tup [.str kd,.str s]) && decide (D.dep (.tup [.str t.kind,t.val])<=64) && decide (D.dep (.tup [.str kd,.str s])<=64)then some (I8 (.tup [.str t.kind,t.val]) (.tup [.str kd,.str s]))else none)=_;rw[e1,e2,eE e3,eE e4];simp only[Bool.and_self,if_true]
 congr 1
 cases t with
 |int i=>rw[show(Tk.int i).val= .int i from rfl,D6];simp[Tk.is,Tk.val]
 |op v=>rw[show(Tk.op v).val= .str v from rfl,tN];rfl
 |word v=>rw[show(Tk.word v).val= .str v from rfl,tN];rfl
 |name v=>rw[show(Tk.name v).val= .str v from rfl,tN];rfl
theorem QI(x y z:D):cut none (some 2) [x,y,z]=[x,y]:=rfl
theorem xJ(p:PS σ k j ah a ae)(s:List Nat)(hs:s.all (· <0x110000)=true):(CN W (n+2)).c dO [.inst k,.d (.str s)] σ=some (.ok (.d (.bool (ur ah a i7 s))),σ):=by
 rw[H7];refine Ac rfl ?_ rfl;have h:=jI (W:=W) (n:=n) p 0 (by decide);simp only[Nat.add_zero]at h;have h:(CN W (n+1)).c eU [.inst k,.d (.int 0)] σ=some (.ok (.d (oG ah a)),σ):=h
 have hc:∃x y,oG ah a= .tup [x,y,.int 1]/\l5 (.tup [x,y]) (.tup [.str i7,.str s])=some (ur ah a i7 s):=by
  unfold oG ur;cases q:ah[a]? with
  |none=>
   refine⟨_,_,rfl,?_⟩;show(if D.ok (.tup [.str hG,.str hG]) && D.ok (.tup [.str i7,.str s]) && decide (D.dep (.tup [.str hG,.str hG])<=64) && decide (D.dep (.tup [.str i7,.str s])<=64)then some (I8 (.tup [.str hG,.str hG]) (.tup [.str i7,.str s]))else none)=_;rw[show D.ok (.tup [.str i7,.str s])=true by simp[D.ok,D.oks];exact⟨by decide,by simpa using hs⟩,tN];rfl
  |some t=>exact⟨_,_,rfl,D7 t (fu.mp p.ok t (gu q)) _ _ (by decide) hs⟩
 refine mZ hc λx y h1 h2=> ?_;clear hc;rw[h1]at h;exact d8 KG λr=>r h (show wQ (.d (.tup [x,y,.int 1])) none (some 2) σ=some (.ok (.d (.tup [x,y])),σ)from rfl) (fJ h2) ⟨⟩
end
section
variable{k j a ae W:Nat}{ah:List Tk}
theorem JG(p:PS σ k j ah a ae)(i:Nat)(kd s:List Nat)(hk:kd.all (· <0x110000)=true)(hs:s.all (· <0x110000)=true)(hne:kd≠hG):
  ∃x y,oG ah i= .tup [x,y,.int 1]/\l5 (.tup [x,y]) (.tup [.str kd,.str s])=some (ur ah i kd s):=by
 unfold oG ur;cases q:ah[i]? with
 |none=>
  refine⟨_,_,rfl,?_⟩;show(if D.ok (.tup [.str hG,.str hG]) && D.ok (.tup [.str kd,.str s]) && decide (D.dep (.tup [.str hG,.str hG])<=64) && decide (D.dep (.tup [.str kd,.str s])<=64)then some (I8 (.tup [.str hG,.str hG]) (.tup [.str kd,.str s]))else none)=_;rw[show D.ok (.tup [.str kd,.str s])=true by simp[D.ok,D.oks];exact⟨by simpa using hk,by simpa using hs⟩,tN];have:(hG == kd)=false:=by simpa usingλz=>hne z.symm
  rw[this];rfl
 |some t=>exact⟨_,_,rfl,D7 t (fu.mp p.ok t (gu q)) _ _ hk hs⟩
theorem Ii(p:PS σ k j ah a ae)(s:List Nat)(hs:s.all (· <0x110000)=true)(ahead:Nat)(ha:ahead<1000):(CN W (n+2)).c eH [.inst k,.d (.str s),.d (.int ahead)] σ=some (.ok (.d (.bool (ur ah (a+ahead) jc s))),σ):=by rw[zU];refine KZ rfl ?_ rfl;have h:=jI (W:=W) (n:=n) p ahead ha;refine mZ (JG p (a+ahead) jc s (by decide) hs (by decide)) λx y h1 h2=> ?_;rw[h1]at h;exact d8 BZ λr=>r h rfl (fJ h2) ⟨⟩
theorem xK(p:PS σ k j ah a ae)(s:List Nat)(hs:s.all (· <0x110000)=true):(CN W (n+2)).c eH [.inst k,.d (.str s)] σ=some (.ok (.d (.bool (ur ah a jc s))),σ):=by rw[zU];refine Ac rfl ?_ rfl;have h:=jI (W:=W) (n:=n) p 0 (by decide);have h:(CN W (n+1)).c eU [.inst k,.d (.int 0)] σ=some (.ok (.d (oG ah a)),σ):=h;refine mZ (JG p a jc s (by decide) hs (by decide)) λx y h1 h2=> ?_;rw[h1]at h;exact d8 BZ λr=>r h rfl (fJ h2) ⟨⟩
theorem PS.kj(p:PS σ k j ah a ae):k≠j:=λz=>by have h1:=p.hk;have h2:=p.hj;rw[z,h2]at h1;unfold i9 at h1;cases h1
theorem PS.move(p:PS σ k j ah a ae){a' nest':Nat}(ha:a'<1000):PS (σ.set k (i9 j a' nest')) k j ah a' nest':=by
 have hk:=(ek.mp p.hk).1;have hj:=(ek.mp p.hj).1;refine⟨qF hk,by rw[o7 p.kj];exact p.hj,p.ne,p.sz,p.ok,ha,?_⟩;have hc:=p.cl;unfold Cl at hc ⊢;rw[fu]at hc ⊢;intro o ho;rw[List.length_set];rcases List.mem_or_eq_of_mem_set ho with h|h
 ·exact hc o h
 ·subst h;simp[i9,MO.below,PV.below,hj]
theorem PS.setO(p:PS σ k j ah a ae)(a':Nat)(f:Unit->M Fl):setO ii (.inst k) (.d (.int a')) f σ=f () (σ.set k (i9 j a' ae)):=by simp only[Internal.setO,xQ,p.hk,i9];rfl
theorem PS.setN(p:PS σ k j ah a ae)(n':Nat)(f:Unit->M Fl):Internal.setO gb (.inst k) (.d (.int n')) f σ=f () (σ.set k (i9 j a n')):=by simp only[Internal.setO,xQ,p.hk,i9];rfl
theorem wj(p:PS σ k j ah a ae)(s:List Nat)(hs:s.all (· <0x110000)=true):(CN W (n+3)).c fW [.inst k,.d (.str s)] σ=if ur ah a i7 s then some (.ok (.d (.bool true)),σ.set k (i9 j (a+1) ae))else some (.ok (.d (.bool false)),σ):=by
 rw[DO];have h:=xJ (W:=W) (n:=n) p s hs;have h1:=p.at_;have h3:=p.setO (a+1);by_cases q:ur ah a i7 s=true
 ·rw[cH q];refine dk rfl ?_ (by simp);rw[q]at h;exact d8 xz λr=>r h (jV h1 h3) ⟨⟩
 ·rw[cJ q];refine dk rfl ?_ rfl;rw[Bool.not_eq_true _ |>.mp q]at h
  exact d8 xz λr=>r h ⟨⟩
theorem D8(p:PS σ k j ah a ae)(s:List Nat)(hs:s.all (· <0x110000)=true)(q:ur ah a jc s=false):(CN W (n+3)).c g8 [.inst k,.d (.str s)] σ=some (.ok (.d (.bool false)),σ):=by rw[DP];have h:=xK (W:=W) (n:=n) p s hs;refine dk rfl ?_ rfl;rw[q]at h;exact d8 FC λr=>r h ⟨⟩
theorem Bx(p:PS σ k j ah a ae):(CN W (n+2)).c eK [.inst k] σ=some (.ok (.d (oG ah a)),σ.set k (i9 j (a+1) ae)):=by rw[Bg];refine dk rfl ?_ (by simp);have h:=jI (W:=W) (n:=n) p 0 (by decide);have h:(CN W (n+1)).c eU [.inst k,.d (.int 0)] σ=some (.ok (.d (oG ah a)),σ):=h;have h1:=p.at_;exact d8 C3 λr=>r h (jV h1 (p.setO (a+1))) ⟨⟩
theorem K2(ah:List Tk)(i:Nat):∃x y,oG ah i= .tup [x,y,.int 1]:=by
 unfold oG;cases ah[i]? with
 |none=>exact⟨_,_,rfl⟩
 |some t=>exact⟨_,_,rfl⟩
theorem D9(p:PS σ k j ah a ae):(CN W (n+2)).c jM [.inst k] σ=some (.ok (.d (.int 1)),σ):=by rw[DN];refine dk rfl ?_ rfl;have h:=jI (W:=W) (n:=n) p 0 (by decide);have h:(CN W (n+1)).c eU [.inst k,.d (.int 0)] σ=some (.ok (.d (oG ah a)),σ):=h;refine Kb (K2 ah a) λx y e=> ?_;rw[e]at h;have h9:seqIndex? 2 3=some 2:=rfl;exact d8 Fz λr=>r h rfl ⟨⟩
theorem K3(p:PS σ k j ah a ae)(msg:PV):(CN W (n+4)).f [.inst k,msg] σ=some (.ok (),σ):=by
 show NS (decide (3<=n+3)) (CN W (n+3)) [.inst k,msg] σ=_;rw[eE (V5)];have h:=D9 (W:=W) (n:=n+1) p
 (repeat' first|(with_reducible first|exact h|exact NS|exact CQ)|refine' sn rfl ?_|apply sn|rfl)
theorem Gn(p:PS σ k j ah a ae)(msg:PV):uU ((CN W (n+4)).f [.inst k,msg]) σ=some (.exc,σ):=by unfold uU;rw[K3 p msg]
theorem Ea(p:PS σ k j ah a ae)(s:List Nat)(hs:s.all (· <0x110000)=true)(hz:s.length<100):(CN W (n+5)).c jp [.inst k,.d (.str s)] σ=if ur ah a i7 s then some (.ok (.d .none),σ.set k (i9 j (a+1) ae))else some (.exc,σ):=by
 rw[DQ];have h:=wj (W:=W) (n:=n+1) p s hs;by_cases q:ur ah a i7 s=true
 ·rw[cH q]at h ⊢;refine dk rfl ?_ (by simp);exact d8 xC λr=>r h ⟨⟩
 ·rw[cJ q]at h ⊢;refine dk rfl ?_ rfl;have hr:=λmsg=>Gn (W:=W) (n:=n) p msg
  have h8:nl.length+s.length<=jP:=by
   have:nl.length=19:=by decide
   have:jP=4000000:=rfl
   omega
  exact d8 xC λr=>r h (BS (show sV .Add (.str _) (.str _)=_ from cH h8)) (hr _) ⟨⟩
end
section
variable{k j a ae W:Nat}{ah:List Tk}
theorem lq(ah:List Tk)(a:Nat):ah[a]? =(ah.drop a).head? :=by rw[List.head?_drop]
theorem Eb(ah:List Tk)(a:Nat)(s:List Nat):ur ah a i7 s=gK s (ah.drop a):=by
 unfold ur;rw[lq];cases ah.drop a with
 |nil=>rfl
 |cons t l=>cases t<;>rfl
theorem Ec(ah:List Tk)(a:Nat)(s:List Nat):ur ah a jc s=fV s (ah.drop a):=by
 unfold ur;rw[lq];cases ah.drop a with
 |nil=>rfl
 |cons t l=>cases t<;>rfl
theorem gw(ah:List Tk)(a:Nat):ah.drop (a+1)=(ah.drop a).tail:=by rw[List.tail_drop]
theorem PS.same(p:PS σ k j ah a ae):σ.set k (i9 j a ae)=σ:=by
 apply List.ext_getElem?;intro i;by_cases h:k=i
 ·subst h;rw[qF (ek.mp p.hk).1,p.hk]
 ·rw[o7 h]
theorem pU(p:PS σ k j ah a ae)(s:List Nat)(hs:s.all (· <0x110000)=true)(hn:2<=n):(CN W n).c dO [.inst k,.d (.str s)] σ=some (.ok (.d (.bool (gK s (ah.drop a)))),σ):=by obtain⟨m,rfl⟩:∃m,n=m+2:=⟨n -2,by exact dp hn rfl⟩;rw[xJ p s hs,Eb]
theorem qB(p:PS σ k j ah a ae)(s:List Nat)(hs:s.all (· <0x110000)=true)(hn:2<=n):(CN W n).c eH [.inst k,.d (.str s)] σ=some (.ok (.d (.bool (fV s (ah.drop a)))),σ):=by obtain⟨m,rfl⟩:∃m,n=m+2:=⟨n -2,by exact dp hn rfl⟩;rw[xK p s hs,Ec]
theorem Ed(p:PS σ k j ah a ae)(s:List Nat)(hs:s.all (· <0x110000)=true)(hn:2<=n):(CN W n).c eH [.inst k,.d (.str s),.d (.int 1)] σ=some (.ok (.d (.bool (fV s (ah.drop a).tail))),σ):=by obtain⟨m,rfl⟩:∃m,n=m+2:=⟨n -2,by exact dp hn rfl⟩;have:=Ii (W:=W) (n:=m) p s hs 1 (by decide);rw[Ec,gw]at this;exact this
theorem N8(p:PS σ k j ah a ae)(hn:2<=n):(CN W n).c eK [.inst k] σ=some (.ok (.d (oG ah a)),σ.set k (i9 j (a+1) ae)):=by obtain⟨m,rfl⟩:∃m,n=m+2:=⟨n -2,by exact dp hn rfl⟩;exact Bx p
theorem Ad(p:PS σ k j ah a ae)(hn:2<=n):(CN W n).c gz [.inst k] σ=some (.ok (.d (oG ah a)),σ):=by obtain⟨m,rfl⟩:∃m,n=m+2:=⟨n -2,by exact dp hn rfl⟩;exact Bw p
theorem ud(p:PS σ k j ah a ae)(s:List Nat)(hs:s.all (· <0x110000)=true)(hn:3<=n):(CN W n).c fW [.inst k,.d (.str s)] σ=if gK s (ah.drop a)then some (.ok (.d (.bool true)),σ.set k (i9 j (a+1) ae))else some (.ok (.d (.bool false)),σ):=by obtain⟨m,rfl⟩:∃m,n=m+3:=⟨n -3,by exact dp hn rfl⟩;rw[wj p s hs,Eb]
theorem wk(p:PS σ k j ah a ae)(s:List Nat)(hs:s.all (· <0x110000)=true)(q:fV s (ah.drop a)=false)(hn:3<=n):(CN W n).c g8 [.inst k,.d (.str s)] σ=some (.ok (.d (.bool false)),σ):=by obtain⟨m,rfl⟩:∃m,n=m+3:=⟨n -3,by exact dp hn rfl⟩;exact D8 p s hs (by rw[Ec];exact q)
theorem Ee(p:PS σ k j ah a ae)(s:List Nat)(hs:s.all (· <0x110000)=true)(hz:s.length<100)(hn:5<=n):(CN W n).c jp [.inst k,.d (.str s)] σ=if gK s (ah.drop a)then some (.ok (.d .none),σ.set k (i9 j (a+1) ae))else some (.exc,σ):=by obtain⟨m,rfl⟩:∃m,n=m+5:=⟨n -5,by exact dp hn rfl⟩;rw[Ea p s hs hz,Eb]
theorem qp(p:PS σ k j ah a ae)(msg:PV)(hn:4<=n):uU ((CN W n).f [.inst k,msg]) σ=some (.exc,σ):=by obtain⟨m,rfl⟩:∃m,n=m+4:=⟨n -4,by exact dp hn rfl⟩;exact Gn p msg
noncomputable def dy:Tr->D
 | .name s=> .tup [.str fk,.str s]
 | .num i=> .tup [.str ic,.int i]
 | .un w t=> .tup [.str lH,.str w,dy t]
 | .bin w a b=> .tup [.str iQ,.str w,dy a,dy b]
 | .sc w a b=> .tup [.str w,dy a,dy b]
 | .mem w t m=> .tup [.str w,dy t,dy m]
 | .rng a b=> .tup [.str fD,dy a,dy b]
 | .pn t=> .tup [.str t7,dy t]
def pW(σ:List MO)(k j:Nat)(ah:List Tk)(ae:Nat)(e:Option (R PV×List MO)):Option (Tr×List Tk)->Prop
 |some (t,l)=>∃a',a'<=ah.length/\ah.drop a'=l/\e=some (.ok (.d (dy t)),σ.set k (i9 j a' ae))
 |none=>∃a' nest',e=some (.exc,σ.set k (i9 j a' nest'))
def Ef:Tk->Bool
 | .op s=>decide (s ∉ [AM,tq,Jq,BV,Jr])
 | .word s=>decide (s ∉ [rN,zc,lI,fD,zd])
 |_=>true
structure rU(ah:List Tk):Prop where
 tk:ah.all Ef=true
 na:∀i s,ah[i]? =some (.name s)->ah[i+1]?≠some (.op fT)
theorem rU.noOp(g:rU ah)(a:Nat){s:List Nat}(hs:s ∈ [AM,tq,Jq,BV,Jr]):gK s (ah.drop a)=false:=by
 cases q:ah.drop a with
 |nil=>rfl
 |cons t l=>
  have ht:t ∈ ah:=List.mem_of_mem_drop (show t ∈ ah.drop a by rw[q];simp);have:=fu.mp g.tk t ht;cases t with
  |op x=>
   show(x == s)=false;simp only[gO];intro z;subst z;exact absurd hs (by simpa [Ef] using this)
  |_=>rfl
theorem rU.noWd(g:rU ah)(a:Nat){s:List Nat}(hs:s ∈ [rN,zc,lI,fD,zd]):fV s (ah.drop a)=false:=by
 cases q:ah.drop a with
 |nil=>rfl
 |cons t l=>
  have ht:t ∈ ah:=List.mem_of_mem_drop (show t ∈ ah.drop a by rw[q];simp);have:=fu.mp g.tk t ht;cases t with
  |word x=>
   show(x == s)=false;simp only[gO];intro z;subst z;exact absurd hs (by simpa [Ef] using this)
  |_=>rfl
end
section
variable{k j a ae W:Nat}{ah:List Tk}
theorem o4(ah:List Tk)(a:Nat):oG ah a=match ah.drop a with|t::_=>t.d|[]=>Ux:=by unfold oG;rw[lq];cases ah.drop a<;>rfl
theorem Go(p:PS σ k j ah a ae)(hn:6<=n):(CN W n).c jo [.inst k] σ=match ah.drop a with
  | .name s::_=>some (.ok (.d (.str s)),σ.set k (i9 j (a+1) ae))
  |_=>some (.exc,σ):=by
 obtain⟨m,rfl⟩:∃m,n=m+1:=⟨n -1,by exact dp hn rfl⟩;rw[DR];have h1:=Ad (W:=W) (n:=m) p (dl hn rfl);have h2:=N8 (W:=W) (n:=m) p (dl hn rfl);have hr:=λmsg=>qp (W:=W) (n:=m) p msg (dl hn rfl);rw[o4]at h1 h2;have e1:l5 (.str i7) (.str fk)=some false:=rfl;have e2:l5 (.str jc) (.str fk)=some false:=rfl;have e3:l5 (.str ic) (.str fk)=some false:=rfl;have e4:l5 (.str fk) (.str fk)=some true:=rfl;have e5:l5 (.str hG) (.str fk)=some false:=rfl;cases q:ah.drop a with
 |nil=>
  rw[q]at h1 h2;refine dk rfl ?_ rfl;exact d8 n9 λr=>r h1 rfl (iX e5) (hr _) ⟨⟩
 |cons t l=>
  rw[q]at h1 h2;cases t with
  |name s=>
   refine dk rfl ?_ (by simp);exact d8 n9 λr=>r h1 rfl (iX e4) h2 rfl ⟨⟩
  |op s=>
   refine dk rfl ?_ rfl;exact d8 n9 λr=>r h1 rfl (iX e5) (hr _) ⟨⟩
  |word s=>
   refine dk rfl ?_ rfl;exact d8 n9 λr=>r h1 rfl (iX e5) (hr _) ⟨⟩
  |int s=>
   refine dk rfl ?_ rfl;exact d8 n9 λr=>r h1 rfl (iX e5) (hr _) ⟨⟩
theorem i5{ah:List Tk}{a:Nat}{t:Tk}(q:ah.drop a=t::l):a+1<=ah.length/\ah.drop (a+1)=l:=by
 constructor
 ·have:(ah.drop a).length=ah.length -a:=mh;rw[q]at this;simp at this;exact(kI (.l (.a A2 K1) A1) [.e (.a A0 K1) (.s A1 A2)]) this
 ·rw[gw,q];rfl
theorem Uy(p:PS σ k j ah a ae)(g:rU ah)(hW:0<W)(hn:8<=n):pW σ k j ah ae ((CN W n).c jL [.inst k] σ) (match ah.drop a with| .name s::l=>some (.name s,l)|_=>none):=by
 obtain⟨m,rfl⟩:∃m,n=m+1:=⟨n -1,by exact dp hn rfl⟩;obtain⟨W',hW'⟩:∃w,W=w+1:=⟨W -1,by exact qH hW rfl⟩;have h1:=Ad (W:=W) (n:=m) p (dl hn rfl);have h2:=Go (W:=W) (n:=m) p (dl hn rfl);rw[o4]at h1;have e1:l5 (.str i7) (.str iS)=some false:=rfl;have e2:l5 (.str jc) (.str iS)=some false:=rfl;have e3:l5 (.str ic) (.str iS)=some false:=rfl;have e4:l5 (.str fk) (.str iS)=some false:=rfl;have e5:l5 (.str hG) (.str iS)=some false:=rfl
 have exc:∀kd v,oG ah a= .tup [.str kd,v,.int 1]->l5 (.str kd) (.str iS)=some false->(CN W m).c jo [.inst k] σ=some (.exc,σ)->∃a' nest',(CN W (m+1)).c jL [.inst k] σ=some (.exc,σ.set k (i9 j a' nest')):=by intro kd v he hq h3;refine⟨a,ae,?_⟩;rw[v6,p.same];have h1:=Ad (W:=W) (n:=m) p (dl hn rfl);rw[he]at h1;refine dk rfl ?_ rfl;exact d8 FL λr=>r h1 rfl (fJ hq) h3 ⟨⟩
 cases q:ah.drop a with
 |nil=>
  rw[q]at h2;exact exc hG (.str hG) (by rw[o4,q];rfl) e5 h2
 |cons t l=>
  rw[q]at h2;cases t with
  |op s=>exact exc i7 (.str s) (by rw[o4,q];rfl) e1 h2
  |word s=>exact exc jc (.str s) (by rw[o4,q];rfl) e2 h2
  |int s=>exact exc ic (.int s) (by rw[o4,q];rfl) e3 h2
  |name s=>
   rw[q]at h1;obtain⟨l1,l2⟩:=i5 q;have hp:a+1<1000:=by have:=p.sz;exact(ie (.t (.a A0 K1) (.k 1000)) [.l (.a A0 K1) A1,.t A1 (.k 500)]) l1 this
   have p':=p.move (nest':=ae) hp;have f1:=ud (W:=W) (n:=m) p' AM (by decide) (dl hn rfl);rw[g.noOp (a+1) (by decide)]at f1;have f2:=pU (W:=W) (n:=m) p' fT (by decide) (dl hn rfl);have f3:=pU (W:=W) (n:=m) p' tq (by decide) (dl hn rfl);rw[g.noOp (a+1) (by decide)]at f3;have f4:=ud (W:=W) (n:=m) p' tq (by decide) (dl hn rfl);rw[g.noOp (a+1) (by decide)]at f4
   have hb:gK fT (ah.drop (a+1))=false:=by
    have h5:ah[a]? =some (.name s):=by rw[lq,q];rfl
    have h6:=g.na a s h5;cases q7:ah.drop (a+1)with
    |nil=>rfl
    |cons x y=>
     cases x with
     |op z=>
      show(z == fT)=false;simp only[gO];intro e;subst e;exact h6 (by rw[lq,q7];rfl)
     |_=>rfl
   rw[hb]at f2;simp only[jf,if_false]at f1 f4;refine⟨a+1,l1,l2,?_⟩;rw[v6];refine dk rfl ?_ (by simp);simp only[hW']at *
   (repeat' first|(with_reducible first|exact h1|exact h2|exact f1|exact f2|exact f3|exact f4)|refine' sn rfl ?_|exact fJ e4|exact iX e4|apply sn|rfl)
end
section
variable{k j a ae W:Nat}{ah:List Tk}
def gL(W n k j ae:Nat)(ah:List Tk)(ad:Addr)(P:Ps):Prop:=
 ∀σ a,PS σ k j ah a ae->a<=ah.length->pW σ k j ah ae ((CN W n).c ad [.inst k] σ) (P (ah.drop a))
def wl(W n k j ae:Nat)(ah:List Tk)(B:Ps):Prop:=
 ∀σ a,PS σ k j ah a ae->gK fT (ah.drop a)=true->pW σ k j ah ae ((CN W n).c gV [.inst k] σ) (B (ah.drop a).tail)
theorem pW.semF{kk:Nat}{m:Lo->M Fl}{more:Nat}(hk:vs.length=kk)(h:pW σ k j ah ae (i6 (m (eR vs ds more)) σ) P):pW σ k j ah ae (semF kk m ds more vs σ) P:=by
 cases P with
 |none=>
  refine Kb h λa' n' e=> ?_;clear h;exact⟨a',n',dk hk e (by simp)⟩
 |some x=>
  refine ou h λa' l1 l2 e=> ?_;clear h;exact⟨a',l1,l2,dk hk e (by simp)⟩
theorem N9(a:Nat):((a:Int)+1)=((a+1:Nat):Int):=(lE (.E (.a (.c A0) (.k 1)) (.c (.a A0 (.k 1)))) [])
theorem PS.setO1(p:PS σ k j ah a ae)(f:Unit->M Fl):Internal.setO ii (.inst k) (.d (.int ((a:Int)+1))) f σ=f () (σ.set k (i9 j (a+1) ae)):=by rw[N9];exact p.setO (a+1) f
theorem PS.setO2(p:PS σ k j ah a ae)(f:Unit->M Fl):Internal.setO ii (.inst k) (.d (.int ((a:Int)+2))) f σ=f () (σ.set k (i9 j (a+2) ae)):=by rw[show((a:Int)+2)=((a+2:Nat):Int) by exact(lE (.E (.a (.c A0) (.k 2)) (.c (.a A0 (.k 2)))) [])];exact p.setO (a+2) f
theorem Uz(g:rU ah)(hW:0<W)(hn:8<=n)(HB:wl W n k j ae ah B):gL W (n+1) k j ae ah gh (nc B):=by
 intro σ a p ha;rw[yf];refine pW.semF rfl ?_;have h1:=Ad (W:=W) (n:=n) p (dq hn rfl);rw[o4]at h1;have w1:=wk (W:=W) (n:=n) p rN (by decide) (g.noWd a (by decide)) (dq hn rfl);have w2:=wk (W:=W) (n:=n) p zc (by decide) (g.noWd a (by decide)) (dq hn rfl);have hnm:=Uy (W:=W) (n:=n) p g hW hn;have hat:=p.at_;have hset:=p.setO1;have e1:∀x y,l5 (.str x) (.str y)=some (x == y):=λ_ _=>rfl;have c1:(hG == ic)=false:=by decide
 have c2:(hG == uY)=false:=by decide
 have c3:(hG == uZ)=false:=by decide
 have c4:(hG == iS)=false:=by decide
 have c5:(hG == i7)=false:=by decide
 have d1:(jc == ic)=false:=by decide
 have d2:(jc == uY)=false:=by decide
 have d3:(jc == uZ)=false:=by decide
 have d4:(jc == iS)=false:=by decide
 have d5:(jc == i7)=false:=by decide
 have f1:(fk == ic)=false:=by decide
 have f2:(fk == uY)=false:=by decide
 have f3:(fk == uZ)=false:=by decide
 have f4:(fk == iS)=false:=by decide
 have f5:(fk == i7)=false:=by decide
 have g1:(i7 == ic)=false:=by decide
 have g2:(i7 == uY)=false:=by decide
 have g3:(i7 == uZ)=false:=by decide
 have g4:(i7 == iS)=false:=by decide
 cases q:ah.drop a with
 |nil=>
  rw[q]at h1 hnm;refine Kb hnm λa' n' e=> ?_;clear hnm;refine⟨a',n',?_⟩;exact d8 jF λr=>r h1 (fJ (e1 _ _)) (fJ (e1 _ _)) (fJ (e1 _ _)) (fJ (e1 _ _)) (fJ (e1 _ _)) w1 w2 e ⟨⟩
 |cons t l=>
  rw[q]at h1 hnm;refine oA (i5 q) λl1 l2=> ?_;cases t with
  |int i=>
   refine⟨a+1,l1,l2,?_⟩;exact d8 jF λr=>r h1 (fJ (e1 _ _)) (jV hat hset) ⟨⟩
  |word s=>
   refine Kb hnm λa' n' e=> ?_;clear hnm;refine⟨a',n',?_⟩;exact d8 jF λr=>r h1 (fJ (e1 _ _)) (fJ (e1 _ _)) (fJ (e1 _ _)) (fJ (e1 _ _)) (fJ (e1 _ _)) w1 w2 e ⟨⟩
  |name s=>
   refine ou hnm λa' r1 r2 e=> ?_;clear hnm;refine⟨a',r1,r2,?_⟩;exact d8 jF λr=>r h1 (fJ (e1 _ _)) (fJ (e1 _ _)) (fJ (e1 _ _)) (fJ (e1 _ _)) (fJ (e1 _ _)) w1 w2 e ⟨⟩
  |op s=>
   by_cases hs:s=fT
   ·subst hs;have hb:=HB σ a p (by rw[q];rfl);rw[q]at hb;show pW σ k j ah ae _ (if fT=fT then B l else none);rw[cH rfl];have hb:pW σ k j ah ae ((CN W n).c gV [.inst k] σ) (B l):=hb
    have kF:∀X,(CN W n).c gV [.inst k] σ=some X->i6 (jE (CN W n).c (CN W n).f (CN W n).r W (eR [.inst k] [] 3)) σ=some X:=by
     rintro ⟨X,σX⟩ e
     cases X<;>exact d8 jF λr=>r h1 (fJ (e1 _ _)) (fJ (e1 _ _)) (fJ (e1 _ _)) (fJ (e1 _ _)) (fJ (e1 _ _)) (fJ (e1 _ _)) e ⟨⟩
    cases hB:B l with
    |none=>
     rw[hB]at hb;refine Kb hb λa' n' e=> ?_;clear hb;exact⟨a',n',kF _ e⟩
    |some x=>
     rw[hB]at hb;refine ou hb λa' r1 r2 e=> ?_;clear hb;exact⟨a',r1,r2,kF _ e⟩
   ·show pW σ k j ah ae _ (if s=fT then B l else none);rw[cJ hs];refine Kb hnm λa' n' e=> ?_;clear hnm;have hs':(s == fT)=false:=by simpa using hs
    refine⟨a',n',?_⟩;exact d8 jF λr=>r h1 (fJ (e1 _ _)) (fJ (e1 _ _)) (fJ (e1 _ _)) (fJ (e1 _ _)) (fJ (e1 _ _)) (mT hs') w1 w2 e ⟨⟩
end
noncomputable def Pe(s:List Nat):Bool:=s.all (· <128)
noncomputable def PT:Tr->Prop
 | .name s=>Pe s=true
 | .num _=>True
 | .un w t=>Pe w=true/\PT t
 | .bin w a b=>Pe w=true/\PT a/\PT b
 | .sc w a b=>(w=eA\/w=fg)/\PT a/\PT b
 | .mem w t m=>(w=fY\/w=fM)/\PT t/\PT m
 | .rng a b=>PT a/\PT b
 | .pn t=>yo t=true/\PT t
noncomputable def sz:Tr->Nat
 | .name _=>0
 | .num _=>0
 | .un _ t=>sz t+1
 | .bin _ a b=>sz a+sz b+1
 | .sc _ a b=>sz a+sz b+1
 | .mem _ t m=>sz t+sz m+1
 | .rng a b=>sz a+sz b+1
 | .pn t=>sz t
def sE:Tk->Bool
 | .op s=>decide (s≠fT/\s≠eY)
 | .word _=>true
 |_=>false
def ops(l:List Tk):Nat:=l.countP sE
theorem kn(x:Tk)(l:List Tk):ops (x::l)=ops l+(if sE x=true then 1 else 0):=by unfold ops;rw[List.countP_cons]
theorem wm(l:List Tk):ops l.tail<=ops l:=by
 cases l with
 |nil=>simp
 |cons x l=>rw[kn];simp
theorem xn{s:List Nat}(h:gK s l=true)(h1:s≠fT)(h2:s≠eY):ops l=ops l.tail+1:=by
 unfold gK at h;split at h
 ·rw[kc]at h;subst h;rw[kn,cH (by simp[sE,h1,h2])];rfl
 ·exact mY h
theorem nD{s:List Nat}(h:fV s l=true):ops l=ops l.tail+1:=by
 unfold fV at h;split at h
 ·rw[kn,cH (by rfl)];rfl
 ·exact mY h
theorem qq(h:l.all Tk.ok=true):l.tail.all Tk.ok=true:=by
 cases l with
 |nil=>rfl
 |cons x l=>simp only[hP,ej]at h;exact h.2
theorem ue(n:Nat)(h:l.all Tk.ok=true):(l.drop n).all Tk.ok=true:=by
 rw[fu]at h ⊢
 exactλx hx=>h x (List.mem_of_mem_drop hx)
theorem Gp(h:l.all Tk.ok=true):Pe (ot l)=true:=by
 cases l with
 |nil=>rfl
 |cons x l=>
  simp only[hP,ej]at h;cases x<;>first|exact h.1|rfl
def LN(p:Ps):Prop:=∀l t r,l.all Tk.ok=true->p l=some (t,r)->PT t/\r.all Tk.ok=true/\sz t+ops r<=ops l
theorem Oa(h:ny l=true):ops l=ops l.tail+1:=by
 unfold ny at h;simp only[j9]at h;rcases h with((q|q)|q)|q
 ·exact xn q (by decide) (by decide)
 ·exact xn q (by decide) (by decide)
 ·exact nD q
 ·exact nD q
theorem QJ(h:q0 l=true):ops l=ops l.tail+1:=by unfold q0 at h;simp only[j9]at h;rcases h with(q|q)|q<;>exact xn q (by decide) (by decide)
theorem UA(h:ve l=true):ops l=ops l.tail+1:=by unfold ve at h;simp only[j9]at h;rcases h with q|q<;>exact xn q (by decide) (by decide)
theorem QK(h:jN l=true):ops l=ops l.tail+1:=by
 unfold jN at h
 symm at h
 ·rename_i s l;rw[kn,cH];· rfl
  simp only[decide_eq_true_eq]at h;simp only[m7,dj,dJ,dK]at h;rcases h with rfl|rfl|rfl|rfl|rfl|rfl<;>decide
 ·exact mY h
def W7(l:List Tk)(p:List Nat×Nat):Prop:=p=(hG,0)\/(p.2=2/\(p.1=eA\/p.1=fg)/\ops (l.drop 2)+2=ops l)\/(p.2=1/\(p.1=f8\/p.1=iH\/p.1=gf)/\ops l.tail+1=ops l)
theorem SL(l:List Tk):l.drop 2=l.tail.tail:=by rw[<-List.drop_one,<-List.drop_one,List.drop_drop]
theorem Ae(l:List Tk):fZ l=(hG,0)\/((fZ l).2=2/\((fZ l).1=eA\/(fZ l).1=fg)/\ops (l.drop 2)+2=ops l)\/((fZ l).2=1/\((fZ l).1=f8\/(fZ l).1=iH\/(fZ l).1=gf)/\ops l.tail+1=ops l):=
 Pd (P:=W7 l) (λh=>Pd (P:=W7 l) (λk=> .inr (.inl ⟨rfl,.inl rfl,by rw[SL];exact Ry (nD h) (nD k)⟩)) λ_=> .inr (.inr ⟨rfl,.inl rfl,L1 (nD h)⟩))
  λ_=>Pd (P:=W7 l) (λh=>Pd (P:=W7 l) (λk=> .inr (.inl ⟨rfl,.inr rfl,by rw[SL];exact Ry (nD h) (nD k)⟩)) λ_=> .inr (.inr ⟨rfl,.inr (.inl rfl),L1 (nD h)⟩))
  λ_=>Pd (P:=W7 l) (λh=> .inr (.inr ⟨rfl,.inr (.inr rfl),L1 (nD h)⟩)) λ_=> .inl rfl
def IV(l:List Tk)(t:Tr)(r:List Tk):Prop:=l.all Tk.ok=true->PT t/\r.all Tk.ok=true/\sz t+ops r<=ops l
theorem IV.un{l r:List Tk}{x:Tr}(h:IV l.tail x r)(c:ops l=ops l.tail+1):IV l (.un (ot l) x) r:=λo=>wD (h (qq o)) λh1 h2 h3=>⟨⟨Gp o,h1⟩,h2,(lx (.l (.a (.a A0 K1) A1) A3) [.l (.a A0 A1) A2,.e A3 (.a A2 K1)]) h3 c⟩
theorem IV.b2{q m:List Tk}{x y:Tr}(h:IV l x r)(k:IV m y q)(n:ops r=ops m+1)(om:r.all Tk.ok=true->m.all Tk.ok=true)(e:sz t=sz x+sz y+1)(d:r.all Tk.ok=true->PT x->PT y->PT t):IV l t q:=λo=>
 wD (h o) λh1 h2 h3=>wD (k (om h2)) λk1 k2 k3=>⟨d h2 h1 k1,k2,by rw[e];exact(Kf (.l (.a (.a (.a A0 A3) K1) A4) A2) [.l (.a A0 A1) A2,.l (.a A3 A4) A5,.e A1 (.a A5 K1)]) h3 k3 n⟩
theorem IV.bt{q:List Tk}{x y:Tr}(h:IV l x r)(n:ops r=ops r.tail+1)(k:IV r.tail y q)(e:sz t=sz x+sz y+1)(d:r.all Tk.ok=true->PT x->PT y->PT t):IV l t q:=h.b2 k n qq e d
theorem Eg(hB:LN B):Yh (λl t r=>B l=some (t,r)) (λ_=>False) λ_ _ l t r=>IV l t r where
 num:=λ{i l} o=>⟨trivial,qq o,by rw[kn];exact(pQ:Pn [_,_] (.l (.a (.k 0) A0) (.a A0 A1)) [])⟩
 name:=λ{s l} o=>⟨Gp o,qq o,by rw[kn];exact(pQ:Pn [_,_] (.l (.a (.k 0) A0) (.a A0 A1)) [])⟩
 br:=λ{l t r} h o=>wD (hB _ _ _ (qq o) h) λh1 h2 h3=>⟨h1,h2,gp h3 (wm (.op fT::l))⟩
 un:=λc h=>h.un (by rw[j9]at c;exact c.elim nD nD)
 pow:=λh c k=>h.bt (xn c (by decide) (by decide)) k rfl λ_ h1 k1=>⟨by decide,h1,k1⟩
 u0:=id
 u1:=id
 mul:=λh c k=>h.bt (Oa c) k rfl λo h1 k1=>⟨Gp o,h1,k1⟩
 u2:=id
 sg:=λc h=>h.un (UA c)
 add:=λh c k=>h.bt (QJ c) k rfl λo h1 k1=>⟨Gp o,h1,k1⟩
 sd:=λh=>h.elim
 rng:=λh c k=>h.bt (xn c (by decide) (by decide)) k rfl λ_ h1 k1=>⟨h1,k1⟩
 mn:=λh _=>h
 u3:=id
 rel:=λh c k=>h.bt (QK c) k rfl λo h1 k1=>⟨Gp o,h1,k1⟩
 mem:=λh c k=>h.bt (nD c) k rfl λ_ h1 k1=>⟨.inl rfl,h1,k1⟩
 nmem:=λ{l x r y q} h c k o=>by rw[ej]at c;refine wD (h o) λh1 h2 h3=>wD (k (qq (qq h2))) λk1 k2 k3=>⟨⟨.inr rfl,h1,k1⟩,k2,?_⟩;have c1:=nD c.1;have c2:=wm r.tail;show sz x+sz y+1+ops q<=_;exact(Kg (.l (.a (.a (.a A0 A3) K1) A4) A2) [.l (.a A0 A1) A2,.l (.a A3 A4) A5,.e A1 (.a A6 K1),.l A5 A6]) h3 k3 c1 c2
 u4:=id
 lg:=λ{w l x r y q} h c e k=>by
  refine(Ae r).elim (λz=>absurd (dN Prod.fst z) c) λz=>z.elim (λ⟨q1,q2,q3⟩=> ?_) λ⟨q1,q2,q3⟩=> ?_
  ·rw[q1]at k ⊢;intro o;refine wD (h o) λh1 h2 h3=>wD (k (ue _ h2)) λk1 k2 k3=>⟨⟨q2,h1,k1⟩,k2,?_⟩;show sz x+sz y+1+ops q<=_
   omega
  ·rw[q1]at k ⊢;rw[List.drop_one]at k;exact h.bt q3.symm k rfl λo h1 k1=>⟨by rcases q2 with q|q|q<;>rw[q]<;>decide,h1,k1⟩
 u5:=id
 u7:=id
theorem IV.of{p:Ps}(h:∀l,tM (p l) (IV l)):LN p:=λl t r o e=>h l t r e o
section
variable{B:Ps}(hB:LN B)(N:Nat)
include hB
theorem Af:LN (eq B N):=IV.of (lA (Eg hB) λ_ _ _ e=>e)
theorem Ag:LN (mR B N):=IV.of (B2 (Eg hB) λ_ _ _ e=>e)
theorem Gq:LN (ng B N):=IV.of (Jv (Eg hB) λ_ _ _ e=>e)
end
theorem Ob(h:PT t):PT (v8 t)/\sz (v8 t)=sz t:=by
 unfold v8
 set_option tactic.hygienic true in split
 ·rename_i q;exact⟨⟨q,h⟩,rfl⟩
 ·exact⟨h,rfl⟩
theorem Ah(N m:Nat):LN (pB N m):=by
 induction m with
 |zero=>exactλl t r _ e=>eC e
 |succ m ih=>
  intro l t r o e;refine iJ (N1 (Eg ih) (λ_ _ _ e=>e) l t r e) λx q h e1 e2=> ?_;subst e1;subst e2;refine wD (h o) λh1 h2 h3=>oA (Ob h1) λq1 q2=> ?_;have q3:=wm q;exact⟨q1,qq h2,by rw[q2];exact(BC (.l (.a A0 A4) A2) [.l (.a A0 A1) A2,.e A3 A0,.l A4 A1]) h3 q2 q3⟩
theorem Ij{s:List Nat}(h:Pe s=true):(D.str s).ok=true:=by
 have:=JF s h
 simpa [D.ok] using this
theorem lC{x:D}{l:List D}(h:x.ok=true)(k:(D.tup l).ok=true):(D.tup (x::l)).ok=true:=Bool.and_eq_true_iff.mpr ⟨h,k⟩
theorem Eh(h:PT t):(dy t).ok=true:=by
 induction t with
 |name s=>exact lC (by decide) (lC (Ij h) rfl)
 |num i=>exact lC (by decide) (lC rfl rfl)
 |un w t ih=>exact lC (by decide) (lC (Ij h.1) (lC (ih h.2) rfl))
 |bin w a b iha ihb=>exact lC (by decide) (lC (Ij h.1) (lC (iha h.2.1) (lC (ihb h.2.2) rfl)))
 |sc w a b iha ihb=>exact lC (h.1.elim (λq=>q▸by decide) λq=>q▸by decide) (lC (iha h.2.1) (lC (ihb h.2.2) rfl))
 |mem w a b iha ihb=>exact lC (h.1.elim (λq=>q▸by decide) λq=>q▸by decide) (lC (iha h.2.1) (lC (ihb h.2.2) rfl))
 |rng a b iha ihb=>exact lC (by decide) (lC (iha h.1) (lC (ihb h.2) rfl))
 |pn t ih=>exact lC (by decide) (lC (ih h.2) rfl)
theorem kD{x:D}{l:List D}(h:x.dep<=n)(k:(D.tup l).dep<=n+1):(D.tup (x::l)).dep<=n+1:=Nat.succ_le_succ (Nat.max_le.mpr ⟨h,Nat.le_of_succ_le_succ k⟩)
theorem wn:(D.tup []).dep<=n+1:=Nat.succ_le_succ (iq _)
theorem rj{s:List Nat}:(D.str s).dep<=n:=iq _
theorem yD(h:PT t):(dy t).dep<=sz t+2:=by
 have m:∀{a n d},d<=a+2->a<=n->d<=n+1+1:=λh k=>gp h (Nat.add_le_add_right k 2)
 induction t with
 |name s=>exact Nat.le_succ_of_le (kD (n:=0) rj (kD rj wn))
 |num i=>exact Nat.le_succ_of_le (kD (n:=0) rj (kD (ip 0) wn))
 |un w t ih=>exact kD rj (kD rj (kD (ih h.2) wn))
 |bin w a b iha ihb=>exact kD rj (kD rj (kD (m (iha h.2.1) (Nat.le_add_right ..)) (kD (m (ihb h.2.2) (Nat.le_add_left ..)) wn)))
 |sc w a b iha ihb=>exact kD rj (kD (m (iha h.2.1) (Nat.le_add_right ..)) (kD (m (ihb h.2.2) (Nat.le_add_left ..)) wn))
 |mem w a b iha ihb=>exact kD rj (kD (m (iha h.2.1) (Nat.le_add_right ..)) (kD (m (ihb h.2.2) (Nat.le_add_left ..)) wn))
 |rng a b iha ihb=>exact kD rj (kD (m (iha h.1) (Nat.le_add_right ..)) (kD (m (ihb h.2) (Nat.le_add_left ..)) wn))
 |pn t ih=>cases t with
  |name s=>exact kD (n:=1) rj (kD (kD (n:=0) rj (kD rj wn)) wn)
  |_=>exact nomatch h.1
def By:Tr->List Nat
 | .name _=>fk
 | .num _=>ic
 | .un .. =>lH
 | .bin .. =>iQ
 | .sc w .. =>w
 | .mem w .. =>w
 | .rng .. =>fD
 | .pn _=>t7
theorem uf(t:Tr):∃l,dy t= .tup (.str (By t)::l):=by cases t<;>exact⟨_,rfl⟩
theorem o5(σ:List MO)(t:Tr):gZ σ (.d (dy t)) (.d (.int 0))=some (.d (.str (By t))):=by refine oE (uf t) λl e=> ?_;rw[e];simp[gZ,seqIndex?]
theorem B5(h:PT t)(σ:List MO):AE σ (By t) qV=some (yo t):=by
 cases t with
 |sc w a b=>rcases h.1 with q|q<;>subst q<;>rfl
 |mem w a b=>rcases h.1 with q|q<;>subst q<;>rfl
 |_=>rfl
theorem B6(h:PT t):(By t == fD)=re t:=by
 cases t with
 |sc w a b=>rcases h.1 with q|q<;>subst q<;>rfl
 |mem w a b=>rcases h.1 with q|q<;>subst q<;>rfl
 |name=>rfl
 |num=>rfl
 |un=>rfl
 |bin=>rfl
 |rng=>rfl
 |pn=>rfl
theorem JH(h:PT t):(By t == Fh)=false:=by
 cases t with
 |sc w a b=>rcases h.1 with q|q<;>subst q<;>rfl
 |mem w a b=>rcases h.1 with q|q<;>subst q<;>rfl
 |name=>rfl
 |num=>rfl
 |un=>rfl
 |bin=>rfl
 |rng=>rfl
 |pn=>rfl
def LO(p:Ps):Prop:=∀l t r,p l=some (t,r)->re t=false
theorem Oc(hB:LO B):LO (nc B):=by
 intro l t r e;unfold nc at e;split at e
 ·simp only[nN,j8]at e;refine oA e λez1 ez2=> ?_;clear e;subst ez1;subst ez2;rfl
 ·simp only[nN,j8]at e;refine oA e λez1 ez2=> ?_;clear e;subst ez1;subst ez2;rfl
 ·split at e
  ·exact hB _ _ _ e
  ·exact eC e
 ·exact eC e
theorem Ik(hB:LO B):LO (gX B):=by
 intro l t r e;unfold gX at e;split at e
 ·refine eN (B1 e) λoz1 e1 e2=> ?_;obtain⟨x,rx⟩:=oz1;simp only[j8]at e2;refine oA e2 λez1 ez2=> ?_;clear e2;subst ez1;subst ez2;rfl
 ·refine eN (j2 e) λoz1 e1 e2=> ?_;obtain⟨x,rx⟩:=oz1;have h1:=Oc hB _ _ _ e1;simp only at e2;split at e2
  ·refine eN (B1 e2) λoz1 e3 e4=> ?_;obtain⟨y,ry⟩:=oz1;simp only[j8]at e4;refine oA e4 λez1 ez2=> ?_;clear e4;subst ez1;subst ez2;rfl
  ·simp only[nN,j8]at e2;refine oA e2 λez1 ez2=> ?_;clear e2;subst ez1;subst ez2;exact h1
theorem K4(k:Nat):∀acc,re acc=false->LO (mQ B k acc):=by
 induction k with
 |zero=>intro acc _ l t r e;exact eC e
 |succ k ih=>
  intro acc ha l t r e;simp only[mQ]at e;split at e
  ·refine eN (j2 e) λoz1 e1 e2=> ?_;obtain⟨y,ry⟩:=oz1;exact ih _ rfl _ _ _ e2
  ·simp only[nN,j8]at e;refine oA e λez1 ez2=> ?_;clear e;subst ez1;subst ez2;exact ha
theorem Od(hB:LO B)(N:Nat):LO (mc B N):=by intro l t r e;refine eN (j2 e) λoz1 e1 e2=> ?_;obtain⟨x,rx⟩:=oz1;exact K4 _ _ (Ik hB _ _ _ e1) _ _ _ e2
theorem B7(N k:Nat):∀acc,re acc=false->LO (lT B N k acc):=by
 induction k with
 |zero=>intro acc _ l t r e;exact eC e
 |succ k ih=>
  intro acc ha l t r e;simp only[lT]at e;split at e
  ·refine eN (j2 e) λoz1 e1 e2=> ?_;obtain⟨y,ry⟩:=oz1;exact ih _ rfl _ _ _ e2
  ·simp only[nN,j8]at e;refine oA e λez1 ez2=> ?_;clear e;subst ez1;subst ez2;exact ha
theorem Il(hB:LO B)(N:Nat):LO (eq B N):=by
 intro l t r e;unfold eq at e;split at e
 ·refine eN (j2 e) λoz1 e1 e2=> ?_;obtain⟨x,rx⟩:=oz1;exact B7 _ _ _ rfl _ _ _ e2
 ·refine eN (j2 e) λoz1 e1 e2=> ?_;obtain⟨x,rx⟩:=oz1;exact B7 _ _ _ (Od hB _ _ _ _ e1) _ _ _ e2
theorem Oe(h:re t=false):re (v8 t)=false:=by unfold v8;split<;>first|rfl|exact h
theorem W8(N m:Nat):LO (pB N m):=by
 cases m with
 |zero=>intro l t r e;exact eC e
 |succ m=>
  intro l t r e;refine eN (j2 e) λoz1 e1 e2=> ?_;obtain⟨x,rx⟩:=oz1;simp only at e2
  symm at e2
  ·exact eC e2
  ·rename_i h;split at e2
   ·simp only[nN,j8]at e2;refine oA e2 λez1 ez2=> ?_;clear e2;subst ez1;subst ez2;exact Oe (by simpa using h)
   ·exact eC e2
theorem JI{x y:List D}(h1:(D.tup x).ok=true)(h2:(D.tup y).ok=true)(h3:(D.tup x).dep<=64)(h4:(D.tup y).dep<=64):l5 (.tup x) (.tup y)=some (I8 (.tup x) (.tup y)):=by show(if(D.tup x).ok &&(D.tup y).ok && decide ((D.tup x).dep<=64) && decide ((D.tup y).dep<=64)then some (I8 (.tup x) (.tup y))else none)=_;rw[h1,h2,eE h3,eE h4];rfl
theorem Im(h:PT t)(hz:sz t<=62):l5 (dy t) (.tup [.str lI])=some false:=by
 have h1:=Eh h;have h3:(dy t).dep<=64:=by have:=yD h;exact(ie (.l A1 (.k 64)) [.l A0 (.k 62),.l A1 (.a A0 (.k 2))]) hz this
 have key:∀a b l,dy t= .tup (a::b::l)->l5 (dy t) (.tup [.str lI])=some false:=by intro a b l e;rw[e]at h1 h3 ⊢;rw[JI h1 (by decide) h3 (by decide)];simp[I8,D.py,D.pys,PyData.eqv,PyData.eqvAll]
 cases t<;>exact key _ _ _ rfl
section
variable{k j a ae W:Nat}{ah:List Tk}
theorem eI(σ:List MO)(k:Nat)(x y:MO):(σ.set k x).set k y=σ.set k y:=List.set_set ..
theorem pW.cases{e:Option (R PV×List MO)}(h:pW σ k j ah ae e P):
  (∃t l a',P=some (t,l)/\a'<=ah.length/\ah.drop a'=l/\e=some (.ok (.d (dy t)),σ.set k (i9 j a' ae)))\/(P=none/\∃a' n',e=some (.exc,σ.set k (i9 j a' n'))):=by
 cases P with
 |none=>exact .inr ⟨rfl,h⟩
 |some x=>(refine ou h λa' h1 h2 h3=> ?_;clear h);exact .inl ⟨x.1,x.2,a',rfl,h1,h2,h3⟩
theorem pW.elim{e:Option (R PV×List MO)}{C:Prop}(h:pW σ k j ah ae e P)(h1:∀t l a',P=some (t,l)->a'<=ah.length->ah.drop a'=l->e=some (.ok (.d (dy t)),σ.set k (i9 j a' ae))->C)
  (h2:P=none->∀a' n',e=some (.exc,σ.set k (i9 j a' n'))->C):C:=by
 rcases h.cases with⟨t,l,a',x1,x2,x3,x4⟩|⟨x1,a',n',x2⟩
 ·exact h1 t l a' x1 x2 x3 x4
 ·exact h2 x1 a' n' x2
theorem gL.up{ad:Addr}{P:Ps}(h:gL W n k j ae ah ad P)(p:PS σ k j ah a ae){a' n':Nat}(p':PS (σ.set k (i9 j a' n')) k j ah a' ae)(hl:a'<=ah.length):pW σ k j ah ae ((CN W n).c ad [.inst k] (σ.set k (i9 j a' n'))) (P (ah.drop a')):=by
 have:=h _ a' p' hl;refine this.elim (λt l b e1 e2 e3 e4=> ?_) λe1 b m e4=> ?_
 ·rw[e1,e4];exact⟨b,e2,e3,by rw[eI]⟩
 ·rw[e1,e4];exact⟨b,m,by rw[eI]⟩
theorem PS.lt(p:PS σ k j ah a ae){b:Nat}(h:b<=ah.length):b<1000:=by have:=p.sz;exact(ie (.t A0 (.k 1000)) [.l A0 A1,.t A1 (.k 500)]) h this
theorem QL{ah:List Tk}{a:Nat}{t:Tk}(q:ah.drop a=t::l):oG ah a= .tup [.str t.kind,t.val,.int 1]:=by rw[o4,q];rfl
theorem qC{s:List Nat}(h:gK s l=true):∃l',l= .op s::l':=by
 unfold gK at h;split at h
 ·rw[kc]at h;subst h;exact⟨_,rfl⟩
 ·exact mY h
theorem rZ{s:List Nat}(h:fV s l=true):∃l',l= .word s::l':=by
 unfold fV at h;split at h
 ·rw[kc]at h;subst h;exact⟨_,rfl⟩
 ·exact mY h
theorem yE(p:PS σ k j ah a ae)(hn:2<=n){t:Tk}(q:ah.drop a=t::l):(CN W n).c eK [.inst k] σ=some (.ok (.d (.tup [.str t.kind,t.val,.int 1])),σ.set k (i9 j (a+1) ae)):=by rw[N8 p hn,QL q]
theorem Of(hn:8<=n)(HP:gL W n k j ae ah gh (nc B)):gL W (n+1) k j ae ah eM (gX B):=by
 intro σ a p ha;rw[zY];refine pW.semF rfl ?_;have h1:=qB (W:=W) (n:=n) p ji (by decide) (dq hn rfl);have h2:=qB (W:=W) (n:=n) p gc (by decide) (dq hn rfl);by_cases c:(fV ji (ah.drop a) || fV gc (ah.drop a))=true
 ·obtain⟨w,l,q,hw⟩:∃w l,ah.drop a= .word w::l/\(w=ji\/w=gc):=by
   rw[j9]at c;rcases c with c|c
   ·refine oE (rZ c) λl q=> ?_;exact⟨_,l,q,.inl rfl⟩
   ·refine oE (rZ c) λl q=> ?_;exact⟨_,l,q,.inr rfl⟩
  refine oA (i5 q) λl1 l2=> ?_;have ht:=yE (W:=W) (n:=n) p (dq hn rfl) q;have hp:=HP.up p (p.move (nest':=ae) (p.lt l1)) l1;rw[vh c];rw[q]at h1 h2 ⊢;rw[l2]at hp;have hx:fV ji (.word w::l)=(w == ji):=rfl;have hy:fV gc (.word w::l)=(w == gc):=rfl;have hz:(gc == ji)=false:=by decide
  rw[hx]at h1;rw[hy]at h2;refine hp.elim (λt r a' e1 e2 e3 e4=> ?_) λe1 a' m' e4=> ?_
  ·rw[show(Tk.word w::l).tail=l from rfl,e1];refine⟨a',e2,e3,?_⟩;rcases hw with rfl|rfl
   ·exact d8 iL λr=>r h1 ht rfl e4 ⟨⟩
   ·exact d8 iL λr=>r h1 h2 ht rfl e4 ⟨⟩
  ·rw[show(Tk.word w::l).tail=l from rfl,e1];refine⟨a',m',?_⟩;rcases hw with rfl|rfl
   ·exact d8 iL λr=>r h1 ht rfl e4 ⟨⟩
   ·exact d8 iL λr=>r h1 h2 ht rfl e4 ⟨⟩
 ·have c1:fV ji (ah.drop a)=false:=by cases q:fV ji (ah.drop a)<;>simp_all
  have c2:fV gc (ah.drop a)=false:=by cases q:fV gc (ah.drop a)<;>simp_all
  rw[c1]at h1;rw[c2]at h2;have hp:=HP σ a p ha;unfold gX;rw[cJ c];refine hp.elim (λt r a' e1 e2 e3 e4=> ?_) λe1 a' m' e4=> ?_
  ·rw[e1];have p':=p.move (nest':=ae) (p.lt e2);have h3:=ud (W:=W) (n:=n) p' gC (by decide) (dq hn rfl);rw[e3,eI]at h3;show pW σ k j ah ae _ (if gK gC r=true then(nc B r.tail).map (λy=>(.bin gC t y.1,y.2))else some (t,r));by_cases c7:gK gC r=true
   ·rw[cH c7]at h3 ⊢;refine oE (qC c7) λl' q'=> ?_;refine oA (i5 (ah:=ah) (a:=a') (by rw[e3,q'])) λl1 l2=> ?_;have hp2:=HP.up p (p.move (nest':=ae) (p.lt l1)) l1;rw[l2]at hp2;subst q';refine hp2.elim (λt2 r2 b f1 f2 f3 f4=> ?_) λf1 b m' f4=> ?_
    ·rw[show(Tk.op gC::l').tail=l' from rfl,f1];refine⟨b,f2,f3,?_⟩;exact d8 iL λr=>r h1 h2 e4 h3 f4 ⟨⟩
    ·rw[show(Tk.op gC::l').tail=l' from rfl,f1];refine⟨b,m',?_⟩;exact d8 iL λr=>r h1 h2 e4 h3 f4 ⟨⟩
   ·rw[cJ c7]at h3 ⊢;refine⟨a',e2,e3,?_⟩;exact d8 iL λr=>r h1 h2 e4 h3 ⟨⟩
  ·rw[e1];refine⟨a',m',?_⟩;exact d8 iL λr=>r h1 h2 e4 ⟨⟩
end
section
variable{k j a ae W:Nat}{ah:List Tk}
def tT(C:Addr->List PV->M PV)(aa:Lo):M Bool:=(LI [(sP (cM (C dO) [(cG aa 0),(cW AK)])),(sP (cM (C dO) [(cG aa 0),(cW AL)])),(sP (cM (C eH) [(cG aa 0),(cW qg)])),(sP (cM (C eH) [(cG aa 0),(cW qh)]))])
def Y9(C:Addr->List PV->M PV)(aa:Lo):Cm Bool:=(pj [(gv (cI (C dO) [(cF aa 0),(cK AK)])),(gv (cI (C dO) [(cF aa 0),(cK AL)])),(gv (cI (C eH) [(cF aa 0),(cK qg)])),(gv (cI (C eH) [(cF aa 0),(cK qh)]))])
theorem QM:tT C aa=fG (Y9 C aa):=rfl
def tB(C:Addr->List PV->M PV)(aa:Lo):M Fl:=(dn (dZ aa 2 (dP (cM (C eK) [(cG aa 0)]) (cY 1))) λaa=>(dZ aa 1 (f7 [(cW iQ),(cG aa 2),(cG aa 1),(cM (C eM) [(cG aa 0)])])))
def Za(C:Addr->List PV->M PV)(aa:Lo):Cm Fl:=(.seq (dA aa 2 (dr (cI (C eK) [(cF aa 0)]) (cL 1))) λaa=>(dA aa 1 (eo [(cK iQ),(cF aa 2),(cF aa 1),(cI (C eM) [(cF aa 0)])])))
theorem W9:tB C aa=fG (Za C aa):=rfl
theorem K5(C:Addr->List PV->M PV)(Cf:List PV->M Unit)(Cr:List PV->M PV)(W:Nat)(aa:Lo):og C Cf Cr W aa=
 dn (dZ aa 1 (cM (C eM) [(cG aa 0)])) λaa=>dn (fw (tT C) (tB C) (λaa=>dF aa) W aa) λaa=>eJ (cG aa 1):=rfl
def vm(σ:List MO)(k j:Nat)(ah:List Tk)(ae:Nat)(i:Nat)(e:Option (R Fl×List MO)):Option (Tr×List Tk)->Prop
 |some (t,l)=>∃a' loc',a'<=ah.length/\ah.drop a'=l/\(loc'[i]?).join=some (.d (dy t))/\(loc'[0]?).join=some (.inst k)/\e=some (.ok (.nxt loc'),σ.set k (i9 j a' ae))
 |none=>∃a' nest',e=some (.exc,σ.set k (i9 j a' nest'))
theorem vm.lift{e e':Option (R Fl×List MO)}{x:MO}(h:vm (σ.set k x) k j ah ae i e P)(he:∀z,e=z->e'=z):vm σ k j ah ae i e' P:=by
 cases P with
 |none=>refine Kb h λb m h=> ?_;exact⟨b,m,by rw[he _ h,eI]⟩
 |some y=>refine IP h λb loc' h1 h2 h3 h4 h=> ?_;exact⟨b,loc',h1,h2,h3,h4,by rw[he _ h,eI]⟩
theorem Io(h:ny l=true):∃t l',l=t::l'/\t.val= .str t.str:=by
 unfold ny at h;simp only[j9]at h;rcases h with((q|q)|q)|q
 ·refine oE (qC q) λl' e=> ?_;exact⟨_,_,e,rfl⟩
 ·refine oE (qC q) λl' e=> ?_;exact⟨_,_,e,rfl⟩
 ·refine oE (rZ q) λl' e=> ?_;exact⟨_,_,e,rfl⟩
 ·refine oE (rZ q) λl' e=> ?_;exact⟨_,_,e,rfl⟩
theorem Zb(p:PS σ k j ah a ae)(hn:2<=n)(v:Option PV)(w:Option PV):tT (CN W n).c [some (.inst k),v,w] σ=some (.ok (ny (ah.drop a)),σ):=by
 have h1:=pU (W:=W) (n:=n) p AK (by decide) hn;have h2:=pU (W:=W) (n:=n) p AL (by decide) hn;have h3:=qB (W:=W) (n:=n) p qg (by decide) hn;have h4:=qB (W:=W) (n:=n) p qh (by decide) hn;unfold ny
 cases c1:gK AK (ah.drop a)<;>cases c2:gK AL (ah.drop a)<;>cases c3:fV qg (ah.drop a)<;>cases c4:fV qh (ah.drop a)<;>rw[c1]at h1<;>rw[c2]at h2<;>rw[c3]at h3<;>rw[c4]at h4<;>
  first|exact fX QM λr=>r h1 h2 h3 h4 ⟨⟩|exact fX QM λr=>r h1 h2 h3 ⟨⟩|exact fX QM λr=>r h1 h2 ⟨⟩|exact fX QM λr=>r h1 ⟨⟩
theorem QN(hn:8<=n)(HF:gL W n k j ae ah eM (gX B))(K:Nat):∀(σ:List MO)(a:Nat)(t:Tr)(y:Option PV),PS σ k j ah a ae->a<=ah.length->ah.length -a<K->
  qo B->
  vm σ k j ah ae 1 (fw (tT (CN W n).c) (tB (CN W n).c) (λaa=>dF aa) K [some (.inst k),some (.d (dy t)),y] σ) (mQ B K t (ah.drop a)):=by
 induction K with
 |zero=>intro _ _ _ _ _ _ h;omega
 |succ K ih=>
  intro σ a t y p ha hK hB;have ht:=Zb (W:=W) (n:=n) p (dq hn rfl) (some (.d (dy t))) y;unfold mQ;by_cases c:ny (ah.drop a)=true
  ·rw[cH c];rw[c]at ht;refine mZ (Io c) λx l q hx=> ?_;refine oA (i5 q) λl1 l2=> ?_;have hk:=yE (W:=W) (n:=n) p (dq hn rfl) q;rw[hx]at hk;have hp:=HF.up p (p.move (nest':=ae) (p.lt l1)) l1;rw[l2]at hp;rw[q];show vm σ k j ah ae 1 _ ((gX B l).bind λz=>mQ B K (.bin x.str t z.1) z.2);refine hp.elim (λu r a' e1 e2 e3 e4=> ?_) λe1 a' m' e4=> ?_
   ·rw[e1]
    have hb:tB (CN W n).c [some (.inst k),some (.d (dy t)),y] σ=some (.ok (.nxt [some (.inst k),some (.d (dy (.bin x.str t u))),some (.d (.str x.str))]),σ.set k (i9 j a' ae)):=by exact fX W9 λr=>r hk rfl e4 ⟨⟩
    have p':=p.move (nest':=ae) (p.lt e2)
    have hlen:ah.length -a'<K:=by
     have h5:=D4 hB _ _ _ e1;have h6:r.length=ah.length -a':=by rw[<-e3];simp
     have h7:l.length=ah.length - (a+1):=by rw[<-l2];simp
     exact Si hK l1 e2 h5 h6 h7
    have hi:=ih _ a' (.bin x.str t u) (some (.d (.str x.str))) p' e2 hlen hB;rw[e3]at hi;show vm σ k j ah ae 1 _ (mQ B K (.bin x.str t u) r);exact vm.lift hi λz hz=>(pA ht hb).trans hz
   ·rw[e1]
    have hb:tB (CN W n).c [some (.inst k),some (.d (dy t)),y] σ=some (.exc,σ.set k (i9 j a' m')):=by exact fX W9 λr=>r hk rfl e4 ⟨⟩
    exact⟨a',m',Ni ht hb⟩
  ·rw[cJ c];rw[Bool.not_eq_true _ |>.mp c]at ht
   exact⟨a,[some (.inst k),some (.d (dy t)),y],ha,rfl,rfl,rfl,by rw[p.same];exact rM ht⟩
end
section
variable{k j a ae W:Nat}{ah:List Tk}
theorem vm.ret{i:Nat}{m:M Fl}{P:Option (Tr×List Tk)}{bk:List MO}(h:vm σ k j ah ae i (m bk) P):pW σ k j ah ae (i6 (dn m λaa=>eJ (cG aa i)) bk) P:=by
 cases P with
 |none=>refine Kb h λb q h=> ?_;exact⟨b,q,by(repeat' first|with_reducible exact h|refine' sn rfl ?_|apply sn|rfl)⟩
 |some y=>refine IP h λb loc' h1 h2 h3 h4 h=> ?_;exact⟨b,h1,h2,by simp[i6,bnd,dn,h,cG,Internal.lift,h3,Internal.ret]⟩
theorem UB(hn:8<=n)(hB:qo B)(hW:ah.length<W)(HF:gL W n k j ae ah eM (gX B)):gL W (n+1) k j ae ah gk (mc B W):=by
 intro σ a p ha;rw[DT];refine pW.semF rfl ?_;rw[K5];have hp:=HF σ a p ha;unfold mc;refine hp.elim (λt r a' e1 e2 e3 e4=> ?_) λe1 a' m' e4=> ?_
 ·rw[e1];have p':=p.move (nest':=ae) (p.lt e2);have hl:=QN (W:=W) (n:=n) hn HF W (σ.set k (i9 j a' ae)) a' t none p' e2 (L2 hW e2) hB;rw[e3]at hl;have:=(vm.lift (e':=fw (tT (CN W n).c) (tB (CN W n).c) (λaa=>dF aa) W [some (.inst k),some (.d (dy t)),none] (σ.set k (i9 j a' ae))) hl (λ_ h=>h)).ret;show pW σ k j ah ae _ (mQ B W t r)
  have e:i6 (dn (dZ (eR [.inst k] [] 2) 1 (cM ((CN W n).c eM) [(cG (eR [.inst k] [] 2) 0)])) λaa=>dn (fw (tT (CN W n).c) (tB (CN W n).c) (λaa=>dF aa) W aa) λaa=>eJ (cG aa 1)) σ=i6 (dn (fw (tT (CN W n).c) (tB (CN W n).c) (λaa=>dF aa) W [some (.inst k),some (.d (dy t)),none]) λaa=>eJ (cG aa 1)) (σ.set k (i9 j a' ae)):=by exact qS (qR (eT (show(CN W n).c eM [.inst k] σ=_ from e4)))
  rw[e];exact this
 ·rw[e1];refine⟨a',m',?_⟩;exact zb (Jp (Fe (show(CN W n).c eM [.inst k] σ=_ from e4)))
end
section
variable{k j a ae W:Nat}{ah:List Tk}
def sT(C:Addr->List PV->M PV)(aa:Lo):M Bool:=(LI [(sP (cM (C dO) [(cG aa 0),(cW i8)])),(sP (cM (C dO) [(cG aa 0),(cW iR)])),(sP (cM (C dO) [(cG aa 0),(cW AJ)]))])
def Zc(C:Addr->List PV->M PV)(aa:Lo):Cm Bool:=(pj [(gv (cI (C dO) [(cF aa 0),(cK i8)])),(gv (cI (C dO) [(cF aa 0),(cK iR)])),(gv (cI (C dO) [(cF aa 0),(cK AJ)]))])
theorem UC:sT C aa=fG (Zc C aa):=rfl
def sB(C:Addr->List PV->M PV)(aa:Lo):M Fl:=(dn (dZ aa 1 (dP (cM (C eK) [(cG aa 0)]) (cY 1))) λaa=>(dZ aa 2 (f7 [(cW iQ),(cG aa 1),(cG aa 2),(cM (C gk) [(cG aa 0)])])))
def Zd(C:Addr->List PV->M PV)(aa:Lo):Cm Fl:=(.seq (dA aa 1 (dr (cI (C eK) [(cF aa 0)]) (cL 1))) λaa=>(dA aa 2 (eo [(cK iQ),(cF aa 1),(cF aa 2),(cI (C gk) [(cF aa 0)])])))
theorem Xa:sB C aa=fG (Zd C aa):=rfl
def Xb(C:Addr->List PV->M PV)(aa:Lo):M Fl:=(dn (dZ aa 1 (cW hG)) λaa=>(dn (eS (LI [(sP (cM (C dO) [(cG aa 0),(cW i8)])),(sP (cM (C dO) [(cG aa 0),(cW iR)]))]) (dZ aa 1 (dP (cM (C eK) [(cG aa 0)]) (cY 1))) (dF aa)) λaa=>(dn (dZ aa 2 (cM (C gk) [(cG aa 0)])) λaa=>(eS (dz .NotEq (cG aa 1) (cW hG)) (dZ aa 2 (f7 [(cW lH),(cG aa 1),(cG aa 2)])) (dF aa)))))
def Xc(C:Addr->List PV->M PV)(aa:Lo):Cm Fl:=(.seq (dA aa 1 (cK hG)) λaa=>(.seq (dm (pj [(gv (cI (C dO) [(cF aa 0),(cK i8)])),(gv (cI (C dO) [(cF aa 0),(cK iR)]))]) (dA aa 1 (dr (cI (C eK) [(cF aa 0)]) (cL 1))) (cZ aa)) λaa=>(.seq (dA aa 2 (cI (C gk) [(cF aa 0)])) λaa=>(dm (cV .NotEq (cF aa 1) (cK hG)) (dA aa 2 (eo [(cK lH),(cF aa 1),(cF aa 2)])) (cZ aa)))))
theorem B8:Xb C aa=fG (Xc C aa):=rfl
def smL(C:Addr->List PV->M PV)(W:Nat)(aa:Lo):M Fl:=dn (fw (sT C) (sB C) (λaa=>dF aa) W aa) λaa=>eJ (cG aa 2)
theorem Gr(C:Addr->List PV->M PV)(Cf:List PV->M Unit)(Cr:List PV->M PV)(W:Nat)(aa:Lo):lN C Cf Cr W aa=dn (Xb C aa) (smL C W):=by
 unfold Xb;rw[TH];show dn _ _=_
 congr 1
 funext l;rw[TH]
 congr 1
 funext l;rw[TH];rfl
theorem K6(h:q0 l=true):∃t l',l=t::l'/\t.val= .str t.str:=by unfold q0 at h;simp only[j9]at h;rcases h with(q|q)|q<;>(refine oE (qC q) λl' e=> ?_;exact⟨_,_,e,rfl⟩)
theorem Ze(p:PS σ k j ah a ae)(hn:2<=n)(v:Option PV)(w:Option PV):sT (CN W n).c [some (.inst k),v,w] σ=some (.ok (q0 (ah.drop a)),σ):=by
 have h1:=pU (W:=W) (n:=n) p i8 (by decide) hn;have h2:=pU (W:=W) (n:=n) p iR (by decide) hn;have h3:=pU (W:=W) (n:=n) p AJ (by decide) hn;unfold q0
 cases c1:gK i8 (ah.drop a)<;>cases c2:gK iR (ah.drop a)<;>cases c3:gK AJ (ah.drop a)<;>rw[c1]at h1<;>rw[c2]at h2<;>rw[c3]at h3<;>
  first|exact fX UC λr=>r h1 h2 h3 ⟨⟩|exact fX UC λr=>r h1 h2 ⟨⟩|exact fX UC λr=>r h1 ⟨⟩
theorem QO(hn:8<=n)(HF:gL W n k j ae ah gk (mc B W))(K:Nat):∀(σ:List MO)(a:Nat)(t:Tr)(y:Option PV),PS σ k j ah a ae->a<=ah.length->ah.length -a<K->
  qo B->
  vm σ k j ah ae 2 (fw (sT (CN W n).c) (sB (CN W n).c) (λaa=>dF aa) K [some (.inst k),y,some (.d (dy t))] σ) (lT B W K t (ah.drop a)):=by
 induction K with
 |zero=>intro _ _ _ _ _ _ h;omega
 |succ K ih=>
  intro σ a t y p ha hK hB;have ht:=Ze (W:=W) (n:=n) p (dq hn rfl) y (some (.d (dy t)));unfold lT;by_cases c:q0 (ah.drop a)=true
  ·rw[cH c];rw[c]at ht;refine mZ (K6 c) λx l q hx=> ?_;refine oA (i5 q) λl1 l2=> ?_;have hk:=yE (W:=W) (n:=n) p (dq hn rfl) q;rw[hx]at hk;have hp:=HF.up p (p.move (nest':=ae) (p.lt l1)) l1;rw[l2]at hp;rw[q];show vm σ k j ah ae 2 _ ((mc B W l).bind λz=>lT B W K (.bin x.str t z.1) z.2);refine hp.elim (λu r a' e1 e2 e3 e4=> ?_) λe1 a' m' e4=> ?_
   ·rw[e1]
    have hb:sB (CN W n).c [some (.inst k),y,some (.d (dy t))] σ=some (.ok (.nxt [some (.inst k),some (.d (.str x.str)),some (.d (dy (.bin x.str t u)))]),σ.set k (i9 j a' ae)):=by exact fX Xa λr=>r hk rfl e4 ⟨⟩
    have p':=p.move (nest':=ae) (p.lt e2)
    have hlen:ah.length -a'<K:=by
     have h5:=Ig hB W _ _ _ e1;have h6:r.length=ah.length -a':=by rw[<-e3];simp
     have h7:l.length=ah.length - (a+1):=by rw[<-l2];simp
     exact Si hK l1 e2 h5 h6 h7
    have hi:=ih _ a' (.bin x.str t u) (some (.d (.str x.str))) p' e2 hlen hB;rw[e3]at hi;show vm σ k j ah ae 2 _ (lT B W K (.bin x.str t u) r);exact vm.lift hi λz hz=>(pA ht hb).trans hz
   ·rw[e1]
    have hb:sB (CN W n).c [some (.inst k),y,some (.d (dy t))] σ=some (.exc,σ.set k (i9 j a' m')):=by exact fX Xa λr=>r hk rfl e4 ⟨⟩
    exact⟨a',m',Ni ht hb⟩
  ·rw[cJ c];rw[Bool.not_eq_true _ |>.mp c]at ht
   exact⟨a,[some (.inst k),y,some (.d (dy t))],ha,rfl,rfl,rfl,by rw[p.same];exact rM ht⟩
theorem Og(h:ve l=true):∃t l',l=t::l'/\t.val= .str t.str/\(t.str == hG)=false/\(gK i8 l=true\/gK iR l=true):=by unfold ve at h;simp only[j9]at h;rcases h with q|q<;>(refine oE (qC q) λl' e=> ?_;exact⟨_,_,e,rfl,by decide,by simp[q]⟩)
theorem Oh(hn:8<=n)(hB:qo B)(hW:ah.length<W)(HF:gL W n k j ae ah gk (mc B W)):gL W (n+1) k j ae ah dQ (eq B W):=by
 intro σ a p ha;rw[zX];refine pW.semF rfl ?_;rw[Gr];have h1:=pU (W:=W) (n:=n) p i8 (by decide) (dq hn rfl);have h2:=pU (W:=W) (n:=n) p iR (by decide) (dq hn rfl);have c0:l5 (.str hG) (.str hG)=some true:=rfl
 have kF:∀(t:Tr)(y:Option PV)(a':Nat),a'<=ah.length->pW σ k j ah ae (i6 (smL (CN W n).c W [some (.inst k),y,some (.d (dy t))]) (σ.set k (i9 j a' ae))) (lT B W W t (ah.drop a')):=by intro t y a' e2;have p':=p.move (nest':=ae) (p.lt e2);have hl:=QO (W:=W) (n:=n) hn HF W (σ.set k (i9 j a' ae)) a' t y p' e2 (L2 hW e2) hB;exact(vm.lift (e':=fw (sT (CN W n).c) (sB (CN W n).c) (λaa=>dF aa) W [some (.inst k),y,some (.d (dy t))] (σ.set k (i9 j a' ae))) hl (λ_ h=>h)).ret
 unfold eq;by_cases c:ve (ah.drop a)=true
 ·rw[cH c];refine uM (Og c) λx l q hx hxe hor=> ?_;refine oA (i5 q) λl1 l2=> ?_;have hk:=yE (W:=W) (n:=n) p (dq hn rfl) q;rw[hx]at hk;have hp:=HF.up p (p.move (nest':=ae) (p.lt l1)) l1;rw[l2]at hp;have hxe':l5 (.str x.str) (.str hG)=some false:=by show some (x.str == hG)=_;rw[hxe]
  have hor':(gK i8 (ah.drop a)=true)\/(gK i8 (ah.drop a)=false/\gK iR (ah.drop a)=true):=by
   cases c1:gK i8 (ah.drop a)
   ·exact .inr ⟨rfl,hor.resolve_left (by rw[c1];decide)⟩
   ·exact .inl rfl
  rw[q];show pW σ k j ah ae _ ((mc B W l).bind λz=>lT B W W (.un x.str z.1) z.2);refine hp.elim (λt r a' e1 e2 e3 e4=> ?_) λe1 a' m' e4=> ?_
  ·rw[e1];have:=kF (.un x.str t) (some (.d (.str x.str))) a' e2;rw[e3]at this
   have e:Xb (CN W n).c (eR [.inst k] [] 2) σ=some (.ok (.nxt [some (.inst k),some (.d (.str x.str)),some (.d (dy (.un x.str t)))]),σ.set k (i9 j a' ae)):=by
    rcases hor' with c1|⟨c1,c2⟩
    ·rw[c1]at h1;exact fX B8 λr=>r h1 hk rfl e4 (iX hxe') ⟨⟩
    ·rw[c1]at h1;rw[c2]at h2;exact fX B8 λr=>r h1 h2 hk rfl e4 (iX hxe') ⟨⟩
   rw[qS (qR e)];exact this
  ·rw[e1];refine⟨a',m',?_⟩;rcases hor' with c1|⟨c1,c2⟩
   ·rw[c1]at h1;exact zb (Jp (by exact fX B8 λr=>r h1 hk rfl e4 ⟨⟩))
   ·rw[c1]at h1;rw[c2]at h2;exact zb (Jp (by exact fX B8 λr=>r h1 h2 hk rfl e4 ⟨⟩))
 ·rw[cJ c];have c1:gK i8 (ah.drop a)=false:=by unfold ve at c;cases q:gK i8 (ah.drop a)<;>simp_all
  have c2:gK iR (ah.drop a)=false:=by unfold ve at c;cases q:gK iR (ah.drop a)<;>simp_all
  rw[c1]at h1;rw[c2]at h2;have hp:=HF σ a p ha;refine hp.elim (λt r a' e1 e2 e3 e4=> ?_) λe1 a' m' e4=> ?_
  ·rw[e1];have:=kF t (some (.d (.str hG))) a' e2;rw[e3]at this
   have e:Xb (CN W n).c (eR [.inst k] [] 2) σ=some (.ok (.nxt [some (.inst k),some (.d (.str hG)),some (.d (dy t))]),σ.set k (i9 j a' ae)):=by exact fX B8 λr=>r h1 h2 e4 (iX c0) ⟨⟩
   rw[qS (qR e)];exact this
  ·rw[e1];refine⟨a',m',?_⟩;exact zb (Jp (by exact fX B8 λr=>r h1 h2 e4 ⟨⟩))
end
section
variable{k j a ae W:Nat}{ah:List Tk}
theorem Ei(x:List Nat)(l:List (List Nat)):(l.map D.str).any (Sj x)=l.any (· == x):=by induction l with
 |nil=>rfl
 |cons y l ih=>simp only[jg,lF,ih];rfl
theorem Oi(x:List Nat)(l:List (List Nat)):l.any (· == x)=decide (x ∈ l):=by rw[Bool.eq_iff_iff,List.any_eq_true,decide_eq_true_iff];exact⟨λ⟨y,m,e⟩=>eq_of_beq e▸m,λm=>⟨x,m,beq_self_eq_true x⟩⟩
theorem Ip(σ:List MO)(s:List Nat):AE σ s rP=some (decide (s ∈ m7)):=by show some ((m7.map D.str).any (Sj s))=_;rw[Ei,Oi]
theorem ug(p:PS σ k j ah a ae)(hn:3<=n):(CN W n).c g7 [.inst k] σ=some (.ok (.d (.str (if jN (ah.drop a)=true then ot (ah.drop a)else hG))),σ):=by
 obtain⟨m,rfl⟩:∃m,n=m+1:=⟨n -1,by exact dp hn rfl⟩;rw[xc];refine dk rfl ?_ rfl;have h1:=Ad (W:=W) (n:=m) p (dl hn rfl);rw[o4]at h1;have e1:l5 (.str i7) (.str i7)=some true:=rfl;have e2:l5 (.str jc) (.str i7)=some false:=rfl;have e3:l5 (.str ic) (.str i7)=some false:=rfl;have e4:l5 (.str fk) (.str i7)=some false:=rfl;have e5:l5 (.str hG) (.str i7)=some false:=rfl;have hi:=λs=>Ip σ s;cases q:ah.drop a with
 |nil=>rw[q]at h1;exact d8 je λr=>r h1 rfl (fJ e5) ⟨⟩
 |cons t l=>
  rw[q]at h1;cases t with
  |op s=>
   by_cases c:s ∈ m7
   ·have hi:=Ip σ s;rw[eE c]at hi;rw[cH (show jN (.op s::l)=true from eE c)];exact d8 je λr=>r h1 rfl (oF rfl) rfl (xw hi) rfl ⟨⟩
   ·have hi:=Ip σ s;rw[ft c]at hi;rw[cJ (λz=>c (of_decide_eq_true z):¬ jN (.op s::l)=true)];exact d8 je λr=>r h1 rfl (oF rfl) rfl (xw hi) ⟨⟩
  |word s=>exact d8 je λr=>r h1 rfl (fJ e5) ⟨⟩
  |name s=>exact d8 je λr=>r h1 rfl (fJ e5) ⟨⟩
  |int s=>exact d8 je λr=>r h1 rfl (fJ e5) ⟨⟩
theorem Oj(hn:8<=n)(hI:LN B)(HS:gL W n k j ae ah dQ (eq B W)):gL W (n+1) k j ae ah gN (xg B W):=by
 intro σ a p ha;rw[zW];refine pW.semF rfl ?_;have hp:=HS σ a p ha;unfold xg;refine hp.elim (λt r a' e1 e2 e3 e4=> ?_) λe1 a' m' e4=> ?_
 ·rw[e1];have p':=p.move (nest':=ae) (p.lt e2);have h3:=ud (W:=W) (n:=n) p' jD (by decide) (dq hn rfl);rw[e3,eI]at h3;show pW σ k j ah ae _ (if gK jD r=true then(eq B W r.tail).map (λy=>(.rng t y.1,y.2))else if yo t=true then some (t,r)else none);by_cases c:gK jD r=true
  ·rw[cH c]at h3 ⊢;refine oE (qC c) λl' q'=> ?_;refine oA (i5 (ah:=ah) (a:=a') (by rw[e3,q'])) λl1 l2=> ?_;have hp2:=HS.up p (p.move (nest':=ae) (p.lt l1)) l1;rw[l2]at hp2;subst q';refine hp2.elim (λt2 r2 b f1 f2 f3 f4=> ?_) λf1 b m' f4=> ?_
   ·rw[show(Tk.op jD::l').tail=l' from rfl,f1];refine⟨b,f2,f3,?_⟩;exact d8 lM λr=>r e4 h3 f4 ⟨⟩
   ·rw[show(Tk.op jD::l').tail=l' from rfl,f1];refine⟨b,m',?_⟩;exact d8 lM λr=>r e4 h3 f4 ⟨⟩
  ·rw[cJ c]at h3 ⊢;have pt:=(Af hI W _ _ _ (ue a p.ok) e1).1;have hr:=λmsg=>qp (W:=W) (n:=n) p' msg (dq hn rfl);have ht:=B5 pt (σ.set k (i9 j a' ae));have hs:=o5 (σ.set k (i9 j a' ae)) t;by_cases d:yo t=true
   ·rw[cH d];rw[d]at ht;refine⟨a',e2,e3,?_⟩;exact d8 lM λr=>r e4 h3 (dC hs) (Nf ht) ⟨⟩
   ·rw[cJ d];rw[Bool.not_eq_true _ |>.mp d]at ht
    refine⟨a',ae,?_⟩;exact d8 lM λr=>r e4 h3 (dC hs) (Nf ht) (hr _) ⟨⟩
 ·rw[e1];refine⟨a',m',?_⟩;exact d8 lM λr=>r e4 ⟨⟩
def j6(W n k j ae:Nat)(ah:List Tk)(ad:Addr)(P:Tr->Ps):Prop:=
 ∀σ a x,PS σ k j ah a ae->a<=ah.length->pW σ k j ah ae ((CN W n).c ad [.inst k,.d (dy x)] σ) (P x (ah.drop a))
theorem j6.up{ad:Addr}{P:Tr->Ps}(h:j6 W n k j ae ah ad P)(x:Tr){a' n':Nat}(p':PS (σ.set k (i9 j a' n')) k j ah a' ae)(hl:a'<=ah.length):pW σ k j ah ae ((CN W n).c ad [.inst k,.d (dy x)] (σ.set k (i9 j a' n'))) (P x (ah.drop a')):=by
 have:=h _ a' x p' hl;refine this.elim (λt l b e1 e2 e3 e4=> ?_) λe1 b m e4=> ?_
 ·rw[e1,e4];exact⟨b,e2,e3,by rw[eI]⟩
 ·rw[e1,e4];exact⟨b,m,by rw[eI]⟩
theorem wo(h:jN l=true):(ot l == hG)=false:=by have:=Gf h;simp only[m7,dj,dJ,dK]at this;rcases this with q|q|q|q|q|q<;>rw[q]<;>decide
theorem K7(h:jN l=true):∃s l',l= .op s::l':=by
 unfold jN at h;split at h
 ·exact⟨_,_,rfl⟩
 ·exact mY h
theorem K8(hn:8<=n)(HS:gL W n k j ae ah dQ (eq B W))(HM:gL W n k j ae ah gN (xg B W)):j6 W (n+1) k j ae ah eg (mf B W):=by
 intro σ a x p ha;rw[xd];refine pW.semF rfl ?_;have h0:=ug (W:=W) (n:=n) p (dq hn rfl);have hat:=p.at_;have c0:l5 (.str hG) (.str hG)=some true:=rfl;have hset:=p.setO1;have hset2:=p.setO2;unfold mf;by_cases c:jN (ah.drop a)=true
 ·rw[cH c]at h0 ⊢;refine Kb (K7 c) λs l q=> ?_;refine oA (i5 q) λl1 l2=> ?_;have c1:l5 (.str (ot (ah.drop a))) (.str hG)=some false:=by show some (_ == _)=_;rw[wo c]
  have hp:=HS.up p (p.move (nest':=ae) (p.lt l1)) l1;rw[gw]at hp;refine hp.elim (λt r a' e1 e2 e3 e4=> ?_) λe1 a' m' e4=> ?_
  ·rw[e1];have p':=p.move (nest':=ae) (p.lt e2);have h5:=ug (W:=W) (n:=n) p' (dq hn rfl);have hr:=λmsg=>qp (W:=W) (n:=n) p' msg (dq hn rfl);rw[e3]at h5;show pW σ k j ah ae _ (if jN r=true then none else some (.bin (ot (ah.drop a)) x t,r));by_cases d:jN r=true
   ·rw[cH d]at h5 ⊢;have c2:l5 (.str (ot r)) (.str hG)=some false:=by show some (_ == _)=_;rw[wo d]
    refine⟨a',ae,?_⟩;exact d8 fO λr=>r h0 (iX c1) (jV hat hset) e4 h5 (iX c2) (hr _) ⟨⟩
   ·rw[cJ d]at h5 ⊢;refine⟨a',e2,e3,?_⟩;exact d8 fO λr=>r h0 (iX c1) (jV hat hset) e4 h5 (iX c0) ⟨⟩
  ·rw[e1];refine⟨a',m',?_⟩;exact d8 fO λr=>r h0 (iX c1) (jV hat hset) e4 ⟨⟩
 ·rw[cJ c]at h0 ⊢;have h1:=qB (W:=W) (n:=n) p fY (by decide) (dq hn rfl);by_cases ci:fV fY (ah.drop a)=true
  ·rw[cH ci];rw[ci]at h1;refine oE (rZ ci) λl q=> ?_;refine oA (i5 q) λl1 l2=> ?_;have hp:=HM.up p (p.move (nest':=ae) (p.lt l1)) l1;rw[gw]at hp;refine hp.elim (λt r a' e1 e2 e3 e4=> ?_) λe1 a' m' e4=> ?_
   ·rw[e1];have p':=p.move (nest':=ae) (p.lt e2);have h5:=ug (W:=W) (n:=n) p' (dq hn rfl);have hr:=λmsg=>qp (W:=W) (n:=n) p' msg (dq hn rfl);rw[e3]at h5;show pW σ k j ah ae _ (if jN r=true then none else some (.mem fY x t,r));by_cases d:jN r=true
    ·rw[cH d]at h5 ⊢;have c2:l5 (.str (ot r)) (.str hG)=some false:=by show some (_ == _)=_;rw[wo d]
     refine⟨a',ae,?_⟩;exact d8 fO λr=>r h0 (iX c0) h1 (jV hat hset) e4 h5 (iX c2) (hr _) ⟨⟩
    ·rw[cJ d]at h5 ⊢;refine⟨a',e2,e3,?_⟩;exact d8 fO λr=>r h0 (iX c0) h1 (jV hat hset) e4 h5 (iX c0) ⟨⟩
   ·rw[e1];refine⟨a',m',?_⟩;exact d8 fO λr=>r h0 (iX c0) h1 (jV hat hset) e4 ⟨⟩
  ·rw[cJ ci];rw[Bool.not_eq_true _ |>.mp ci]at h1
   have h2:=qB (W:=W) (n:=n) p gc (by decide) (dq hn rfl);have h3:=Ed (W:=W) (n:=n) p fY (by decide) (dq hn rfl);by_cases cn:(fV gc (ah.drop a) && fV fY (ah.drop a).tail)=true
   ·rw[cH cn];rw[ej]at cn;rw[cn.1]at h2;rw[cn.2]at h3;refine oE (rZ cn.1) λl q=> ?_;refine oA (i5 q) λl1 l2=> ?_;have cn2:=cn.2;rw[<-gw]at cn2;refine oE (rZ cn2) λl' q'=> ?_;refine oA (i5 q') λl3 l4=> ?_;have hp:=HM.up p (p.move (nest':=ae) (p.lt l3)) l3;rw[gw,gw]at hp;refine hp.elim (λt r a' e1 e2 e3 e4=> ?_) λe1 a' m' e4=> ?_
    ·rw[e1];have p':=p.move (nest':=ae) (p.lt e2);have h5:=ug (W:=W) (n:=n) p' (dq hn rfl);have hr:=λmsg=>qp (W:=W) (n:=n) p' msg (dq hn rfl);rw[e3]at h5;show pW σ k j ah ae _ (if jN r=true then none else some (.mem fM x t,r));by_cases d:jN r=true
     ·rw[cH d]at h5 ⊢;have c2:l5 (.str (ot r)) (.str hG)=some false:=by show some (_ == _)=_;rw[wo d]
      refine⟨a',ae,?_⟩;exact d8 fO λr=>r h0 (iX c0) h1 h2 h3 (jV hat hset2) e4 h5 (iX c2) (hr _) ⟨⟩
     ·rw[cJ d]at h5 ⊢;refine⟨a',e2,e3,?_⟩;exact d8 fO λr=>r h0 (iX c0) h1 h2 h3 (jV hat hset2) e4 h5 (iX c0) ⟨⟩
    ·rw[e1];refine⟨a',m',?_⟩;exact d8 fO λr=>r h0 (iX c0) h1 h2 h3 (jV hat hset2) e4 ⟨⟩
   ·rw[cJ cn];refine⟨a,ha,rfl,?_⟩;rw[p.same]
    cases d1:fV gc (ah.drop a)<;>cases d2:fV fY (ah.drop a).tail<;>rw[d1]at h2<;>rw[d2]at h3<;>first|(exfalso;rw[d1,d2]at cn;exact cn rfl)|
     first|exact d8 fO λr=>r h0 (iX c0) h1 h2 ⟨⟩|exact d8 fO λr=>r h0 (iX c0) h1 h2 h3 ⟨⟩
end
section
variable{k j a ae W:Nat}{ah:List Tk}
theorem B9(p:PS σ k j ah a ae)(hn:3<=n):(CN W n).c fz [.inst k] σ=some (.ok (.d (.tup [.str (fZ (ah.drop a)).1,.int (fZ (ah.drop a)).2])),σ):=by
 obtain⟨m,rfl⟩:∃m,n=m+1:=⟨n -1,by exact dp hn rfl⟩;rw[yd];refine dk rfl ?_ rfl;have h1:=qB (W:=W) (n:=m) p f8 (by decide) (dl hn rfl);have h2:=Ed (W:=W) (n:=m) p nn (by decide) (dl hn rfl);have h3:=qB (W:=W) (n:=m) p iH (by decide) (dl hn rfl);have h4:=Ed (W:=W) (n:=m) p nq (by decide) (dl hn rfl);have h5:=qB (W:=W) (n:=m) p gf (by decide) (dl hn rfl);unfold fZ;cases c1:fV f8 (ah.drop a)with
 |true=>
  rw[c1]at h1
  cases c2:fV nn (ah.drop a).tail<;>rw[c2]at h2<;>
   exact d8 pL λr=>r h1 h2 ⟨⟩
 |false=>
  rw[c1]at h1;cases c3:fV iH (ah.drop a)with
  |true=>
   rw[c3]at h3
   cases c4:fV nq (ah.drop a).tail<;>rw[c4]at h4<;>
    exact d8 pL λr=>r h1 h3 h4 ⟨⟩
  |false=>
   rw[c3]at h3
   cases c5:fV gf (ah.drop a)<;>rw[c5]at h5<;>
    exact d8 pL λr=>r h1 h3 h5 ⟨⟩
def lB(C:Addr->List PV->M PV)(Cf:List PV->M Unit)(aa:Lo):M Fl:=(dn (Fa aa [3,4] (cM (C fz) [(cG aa 0)])) λaa=>(dn (eS (dz .Eq (cG aa 3) (cW hG)) (eJ (cG aa 1)) (dF aa)) λaa=>(dn (eS (dz .NotEq (cG aa 3) (cG aa 2)) (CS Cf [(cG aa 0),(cW iP)]) (dF aa)) λaa=>(dn (Hv aa ii .Add (cG aa 4) (cG aa 0)) λaa=>(dn (dZ aa 5 (cM (C eg) [(cG aa 0),(cM (C dQ) [(cG aa 0)])])) λaa=>(eS (dz .Eq (cG aa 4) (cY 2)) (dZ aa 1 (f7 [(cG aa 3),(cG aa 1),(cG aa 5)])) (dZ aa 1 (f7 [(cW iQ),(cG aa 3),(cG aa 1),(cG aa 5)]))))))))
def Zf(C:Addr->List PV->M PV)(Cf:List PV->M Unit)(aa:Lo):Cm Fl:=(.seq (th aa [3,4] (cI (C fz) [(cF aa 0)])) λaa=>(.seq (dm (cV .Eq (cF aa 3) (cK hG)) (df (cF aa 1)) (cZ aa)) λaa=>(.seq (dm (cV .NotEq (cF aa 3) (cF aa 2)) (n3 Cf [(cF aa 0),(cK iP)]) (cZ aa)) λaa=>(.seq (nH aa ii .Add (cF aa 4) (cF aa 0)) λaa=>(.seq (dA aa 5 (cI (C eg) [(cF aa 0),(cI (C dQ) [(cF aa 0)])])) λaa=>(dm (cV .Eq (cF aa 4) (cL 2)) (dA aa 1 (eo [(cF aa 3),(cF aa 1),(cF aa 5)])) (dA aa 1 (eo [(cK iQ),(cF aa 3),(cF aa 1),(cF aa 5)]))))))))
theorem K9:lB C Cf aa=fG (Zf C Cf aa):=rfl
theorem Ej(C:Addr->List PV->M PV)(Cf:List PV->M Unit)(Cr:List PV->M PV)(W:Nat)(aa:Lo):kZ C Cf Cr W aa=
 dn (dZ aa 2 (dP (cM (C fz) [(cG aa 0)]) (cY 0))) λaa=>fw (λ_=>(sP (uW true))) (lB C Cf) (λaa=>(dF aa)) W aa:=rfl
theorem QP{ah:List Tk}{a:Nat}(h:(fZ (ah.drop a)).1≠hG):a+(fZ (ah.drop a)).2<=ah.length/\1<=(fZ (ah.drop a)).2:=by
 have one:∀s,fV s (ah.drop a)=true->a+1<=ah.length:=by intro s q;refine oE (rZ q) λl q=> ?_;exact(i5 q).1
 have two:∀s,fV s (ah.drop a).tail=true->a+2<=ah.length:=by intro s q;rw[<-gw]at q;refine oE (rZ q) λl q=> ?_;exact(i5 q).1
 unfold fZ at h ⊢
 set_option tactic.hygienic true in split
 ·rename_i q
  set_option tactic.hygienic true in split
  ·rename_i q2;exact⟨two _ q2,by decide⟩
  ·exact⟨one _ q,by decide⟩
 ·set_option tactic.hygienic true in split
  ·rename_i q
   set_option tactic.hygienic true in split
   ·rename_i q2;exact⟨two _ q2,by decide⟩
   ·exact⟨one _ q,by decide⟩
  ·set_option tactic.hygienic true in split
   ·rename_i q;exact⟨one _ q,by decide⟩
   ·rename_i h1 h2 h3;rw[cJ h1,cJ h2,cJ h3]at h;exact absurd rfl h
theorem pW.lift{e e':Option (R PV×List MO)}{x:MO}(h:pW (σ.set k x) k j ah ae e P)(he:∀z,e=z->e'=z):pW σ k j ah ae e' P:=by
 refine h.elim (λt l a' e1 e2 e3 e4=> ?_) λe1 a' m' e4=> ?_
 ·rw[e1];exact⟨a',e2,e3,by rw[he _ e4,eI]⟩
 ·rw[e1];exact⟨a',m',by rw[he _ e4,eI]⟩
theorem QQ(hn:8<=n)(hB:qo B)(HS:gL W n k j ae ah dQ (eq B W))(HR:j6 W n k j ae ah eg (mf B W))(first:List Nat)(K:Nat):∀(σ:List MO)(a:Nat)(t:Tr)(y3 y4 y5:Option PV),PS σ k j ah a ae->a<=ah.length->ah.length -a<K->
  pW σ k j ah ae (i6 (fw (λ_=>(sP (uW true))) (lB (CN W n).c (CN W n).f) (λaa=>dF aa) K [some (.inst k),some (.d (dy t)),some (.d (.str first)),y3,y4,y5]) σ) (nf B W first K t (ah.drop a)):=by
 induction K with
 |zero=>intro _ _ _ _ _ _ _ _ h;omega
 |succ K ih=>
  intro σ a t y3 y4 y5 p ha hK;have h0:=B9 (W:=W) (n:=n) p (dq hn rfl);have hat:=p.at_;have ee:∀x y:List Nat,l5 (.str x) (.str y)=some (x == y):=λ_ _=>rfl;unfold nf;by_cases c:(fZ (ah.drop a)).1=hG
  ·rw[cH c];refine⟨a,ha,rfl,?_⟩;rw[p.same];rw[c]at h0;have cz:(hG == hG)=true:=rfl;exact Sq (TI rfl (by exact fX K9 λr=>r h0 (fJ (ee _ _)) ⟨⟩))
  ·rw[cJ c];have c':((fZ (ah.drop a)).1 == hG)=false:=by simpa using c
   by_cases d:(fZ (ah.drop a)).1=first
   ·rw[cJ (not_not_intro d)];refine oA (QP c) λl1 l2=> ?_;have p1:=p.move (nest':=ae) (p.lt l1)
    have hset:∀f:Unit->M Fl,Internal.setO ii (.inst k) (.d (.int ((a:Int)+((fZ (ah.drop a)).2:Nat)))) f σ=f () (σ.set k (i9 j (a+(fZ (ah.drop a)).2) ae)):=by intro f;rw[show((a:Int)+((fZ (ah.drop a)).2:Nat))=((a+(fZ (ah.drop a)).2:Nat):Int) by exact(ie (.E (.a (.c A0) (.c A1)) (.c (.a A0 A1))) [])];exact p.setO _ f
    have hp:=HS.up p p1 l1;have hdr:ah.drop (a+(fZ (ah.drop a)).2)=(ah.drop a).drop (fZ (ah.drop a)).2:=by rw[List.drop_drop]
    rw[hdr]at hp;have hlw:=Ae (ah.drop a);obtain⟨w,sz',hw⟩:∃w s,fZ (ah.drop a)=(w,s):=⟨_,_,rfl⟩;rw[hw]at h0 c c' d l1 l2 p1 hset hp hdr hlw ⊢;simp only at h0 c c' d l1 l2 p1 hset hp hdr hlw ⊢;subst d;have d':(w == w)=true:=by simp
    refine hp.elim (λu r a' e1 e2 e3 e4=> ?_) λe1 a' m' e4=> ?_
    ·rw[e1];show pW σ k j ah ae _ ((mf B W u r).bind λz=>nf B W w K (Ge w sz' t z.1) z.2);have p2:=p.move (nest':=ae) (p.lt e2);have hp2:=HR.up u p2 e2;rw[e3]at hp2;refine hp2.elim (λv r2 b f1 f2 f3 f4=> ?_) λf1 b m' f4=> ?_
     ·rw[f1];show pW σ k j ah ae _ (nf B W w K (Ge w sz' t v) r2);have p3:=p.move (nest':=ae) (p.lt f2)
      have hlen:ah.length -b<K:=by
       have h5:=KW hB W _ _ _ _ f1;have h6:=D5 hB W _ _ _ e1;have h7:r2.length=ah.length -b:=by rw[<-f3];simp
       rw[<-hdr]at h6;rw[mh]at h6;exact(Kg (.t (.s A1 A4) A2) [.l A0 A1,.t (.s A1 A0) (.a A2 K1),.l K1 A3,.l (.a A0 A3) A1,.l A4 A1,.l A5 A6,.l A6 (.s A1 (.a A0 A3)),.e A5 (.s A1 A4)]) ha hK l2 l1 f2 h5 h6 h7
      have hi:=ih _ b (Ge w sz' t v) (some (.d (.str w))) (some (.d (.int sz'))) (some (.d (dy v))) p3 f2 hlen;rw[f3]at hi
      have hb:lB (CN W n).c (CN W n).f [some (.inst k),some (.d (dy t)),some (.d (.str w)),y3,y4,y5] σ=some (.ok (.nxt [some (.inst k),some (.d (dy (Ge w sz' t v))),some (.d (.str w)),some (.d (.str w)),some (.d (.int sz')),some (.d (dy v))]),σ.set k (i9 j b ae)):=by
       rcases hlw with q|⟨q,-,-⟩|⟨q,-,-⟩
       ·simp only[j8]at q;exact absurd q.1 c
       ·subst q;have ei:l5 (.int ((2:Nat):Int)) (.int 2)=some true:=rfl;simp at hset ei h0 ⊢;exact fX K9 λr=>r h0 (mT c') (pT d') (jV hat hset) e4 f4 (fJ ei) ⟨⟩
       ·subst q;have ei:l5 (.int ((1:Nat):Int)) (.int 2)=some false:=rfl;simp at hset ei h0 ⊢;exact fX K9 λr=>r h0 (mT c') (pT d') (jV hat hset) e4 f4 (fJ ei) ⟨⟩
      exact pW.lift hi λz hz=>(qS (pA rfl hb)).trans hz
     ·rw[f1];refine⟨b,m',?_⟩;exact zb (Ni rfl (by exact fX K9 λr=>r h0 (mT c') (pT d') (jV hat hset) e4 f4 ⟨⟩))
    ·rw[e1];refine⟨a',m',?_⟩;exact zb (Ni rfl (by exact fX K9 λr=>r h0 (mT c') (pT d') (jV hat hset) e4 ⟨⟩))
   ·rw[cH d];have d':((fZ (ah.drop a)).1 == first)=false:=by simpa using d
    have hr:=λmsg=>qp (W:=W) (n:=n) p msg (dq hn rfl);refine⟨a,ae,?_⟩;rw[p.same];exact zb (Ni rfl (by exact fX K9 λr=>r h0 (mT c') (pT d') (hr _) ⟨⟩))
theorem La(hn:8<=n)(hB:qo B)(hW:ah.length<W)(HS:gL W n k j ae ah dQ (eq B W))(HR:j6 W n k j ae ah eg (mf B W)):j6 W (n+1) k j ae ah gg (vf B W):=by
 intro σ a x p ha;rw[ye];refine pW.semF rfl ?_;rw[Ej];have h0:=B9 (W:=W) (n:=n) p (dq hn rfl);have hl:=QQ hn hB HS HR (fZ (ah.drop a)).1 W σ a x none none none p ha (L2 hW ha);unfold vf
 have e:i6 (dn (dZ (eR [.inst k,.d (dy x)] [] 4) 2 (dP (cM ((CN W n).c fz) [(cG (eR [.inst k,.d (dy x)] [] 4) 0)]) (cY 0))) λaa=>fw (λ_=>(sP (uW true))) (lB (CN W n).c (CN W n).f) (λaa=>(dF aa)) W aa) σ=i6 (fw (λ_=>(sP (uW true))) (lB (CN W n).c (CN W n).f) (λaa=>dF aa) W [some (.inst k),some (.d (dy x)),some (.d (.str (fZ (ah.drop a)).1)),none,none,none]) σ:=by have hs:gZ σ (.d (.tup [.str (fZ (ah.drop a)).1,.int (fZ (ah.drop a)).2])) (.d (.int 0))=some (.d (.str (fZ (ah.drop a)).1)):=rfl;exact qS (qR (eT (show bnd _ _ σ=_ from(eT (show(CN W n).c fz [.inst k] σ=_ from h0)).trans (dC hs))))
 rw[e];exact hl
theorem Ol(hn:8<=n)(g:rU ah)(HS:gL W n k j ae ah dQ (eq B W))(p:PS σ k j ah a ae)(ha:a<=ah.length)(x:Tr):pW σ k j ah ae ((CN W (n+1)).c gM [.inst k,.d (dy x)] σ) (if gK jD (ah.drop a)=true then(eq B W (ah.drop a).tail).map (λy=>(.rng x y.1,y.2))else some (x,ah.drop a)):=by
 rw[zZ];refine pW.semF rfl ?_;have h3:=ud (W:=W) (n:=n) p jD (by decide) (dq hn rfl);by_cases c:gK jD (ah.drop a)=true
 ·rw[cH c]at h3 ⊢;refine oE (qC c) λl' q'=> ?_;refine oA (i5 (ah:=ah) (a:=a) q') λl1 l2=> ?_;have hp2:=HS.up p (p.move (nest':=ae) (p.lt l1)) l1;rw[gw]at hp2;refine hp2.elim (λt2 r2 b f1 f2 f3 f4=> ?_) λf1 b m' f4=> ?_
  ·rw[f1];refine⟨b,f2,f3,?_⟩;exact d8 nJ λr=>r h3 f4 ⟨⟩
  ·rw[f1];refine⟨b,m',?_⟩;exact d8 nJ λr=>r h3 f4 ⟨⟩
 ·rw[cJ c]at h3 ⊢;have w1:=wk (W:=W) (n:=n) p fD (by decide) (g.noWd a (by decide)) (dq hn rfl);have hs:=o5 σ x;obtain⟨b,ht⟩:∃b,AE σ (By x) qV=some b:=⟨_,rfl⟩;refine⟨a,ha,rfl,?_⟩;rw[p.same]
  cases b<;>
   first|exact d8 nJ λr=>r h3 (dC hs) (xw ht) ⟨⟩|exact d8 nJ λr=>r h3 (dC hs) (xw ht) w1 ⟨⟩
end
section
variable{k j a ae W:Nat}{ah:List Tk}
theorem Ca(p:PS σ k j ah a ae)(h:ae≠0)(hn:1<=n)(x:D):(CN W n).c gU [.inst k,.d x] σ=some (.ok (.d x),σ):=by
 obtain⟨m,rfl⟩:∃m,n=m+1:=⟨n -1,by exact dp hn rfl⟩;rw[sC];refine dk rfl ?_ rfl;have h1:=p.nest_;have e:l5 (.int (ae:Nat)) (.int 0)=some false:=by show some (_ == _)=_;simp[h]
 exact d8 tz λr=>r (nj h1) (fJ e) ⟨⟩
def QR(B:Ps)(W:Nat)(x:Tr):Ps:=λl=>if gK jD l=true then(eq B W l.tail).map (λy=>(.rng x y.1,y.2))else some (x,l)
theorem Lb(hn:8<=n)(g:rU ah)(HS:gL W n k j ae ah dQ (eq B W)):j6 W (n+1) k j ae ah gM (QR B W):=
 λ_ _ x p ha=>Ol hn g HS p ha x
theorem Om(hn:8<=n)(g:rU ah)(hN:ae≠0)(hI:LN B)(hR:LO B)(HS:gL W n k j ae ah dQ (eq B W))(HE:j6 W n k j ae ah gM (QR B W))(HR:j6 W n k j ae ah eg (mf B W))(HL:j6 W n k j ae ah gg (vf B W)):gL W (n+1) k j ae ah gW (mR B W):=by
 intro σ a p ha;rw[yg];refine pW.semF rfl ?_;have w1:=wk (W:=W) (n:=n) p lI (by decide) (g.noWd a (by decide)) (dq hn rfl);have hp:=HS σ a p ha;have ee:∀x y:List Nat,l5 (.str x) (.str y)=some (x == y):=λ_ _=>rfl;unfold mR;refine hp.elim (λt r a' e1 e2 e3 e4=> ?_) λe1 a' m' e4=> ?_
 ·rw[e1];have p':=p.move (nest':=ae) (p.lt e2);have hx:=HE.up t p' e2;rw[e3]at hx;unfold QR at hx;show pW σ k j ah ae _ (if gK jD r=true then(eq B W r.tail).map (λy=>(.rng t y.1,y.2))else(mf B W t r).bind λy=>vf B W y.1 y.2);by_cases c:gK jD r=true
  ·rw[cH c]at hx ⊢;cases e5:eq B W r.tail with
   |none=>
    rw[e5]at hx;refine Kb hx λb q f4=> ?_;clear hx;refine⟨b,q,?_⟩;exact d8 jG λr=>r w1 e4 f4 ⟨⟩
   |some y=>
    rw[e5]at hx;refine ou hx λb f2 f3 f4=> ?_;clear hx;have p2:=p.move (nest':=ae) (p.lt f2);have hb:=Ca (W:=W) (n:=n) p2 hN (dq hn rfl) (dy (.rng t y.1));have hs:=o5 (σ.set k (i9 j b ae)) (.rng t y.1);have hs':(By (.rng t y.1) == fD)=true:=rfl;refine⟨b,f2,f3,?_⟩;exact d8 jG λr=>r w1 e4 f4 (dC hs) (iX (ee _ _)) hb ⟨⟩
  ·rw[cJ c]at hx ⊢;refine ou hx λb f2 f3 f4=> ?_;clear hx;have p2:=p.move (nest':=ae) (p.lt f2);have pt:=(Af hI W _ _ _ (ue a p.ok) e1).1;have hs:=o5 (σ.set k (i9 j b ae)) t;have hs':(By t == fD)=false:=by rw[B6 pt];exact Il hR W _ _ _ e1
   have hs2:=JH pt;have hr:=HR.up t p2 f2;rw[f3]at hr;refine hr.elim (λu r2 c2 g1 g2 g3 g4=> ?_) λg1 c2 m' g4=> ?_
   ·have p3:=p.move (nest':=ae) (p.lt g2);have hl:=HL.up u p3 g2;rw[g3]at hl;rw[g1];show pW σ k j ah ae _ (vf B W u r2);refine hl.elim (λv r3 d i1 i2 i3 i4=> ?_) λi1 d m' i4=> ?_
    ·rw[i1];have p4:=p.move (nest':=ae) (p.lt i2);have hb:=Ca (W:=W) (n:=n) p4 hN (dq hn rfl) (dy v);refine⟨d,i2,i3,?_⟩;exact d8 jG λr=>r w1 e4 f4 (dC hs) (pT hs') (dC hs) (pT hs2) g4 i4 hb ⟨⟩
    ·rw[i1];refine⟨d,m',?_⟩;exact d8 jG λr=>r w1 e4 f4 (dC hs) (pT hs') (dC hs) (pT hs2) g4 i4 ⟨⟩
   ·rw[g1];refine⟨c2,m',?_⟩;exact d8 jG λr=>r w1 e4 f4 (dC hs) (pT hs') (dC hs) (pT hs2) g4 ⟨⟩
 ·rw[e1];refine⟨a',m',?_⟩;exact d8 jG λr=>r w1 e4 ⟨⟩
theorem PV.below_mono{a b:Nat}(h:a<=b){v:PV}(hv:v.below a=true):v.below b=true:=by cases v<;>simp_all [PV.below]<;>exact(kI (.t A2 A1) [.l A0 A1,.t A2 A0]) h hv
theorem MO.below_mono{a b:Nat}(h:a<=b){o:MO}(ho:o.below a=true):o.below b=true:=by
 cases o with
 |list=>rfl
 |dict kvs=>simp only[MO.below,fu]at ho ⊢;exactλx hx=>PV.below_mono h (ho x hx)
 |obj kvs=>simp only[MO.below,fu]at ho ⊢;exactλx hx=>PV.below_mono h (ho x hx)
theorem PS.app(p:PS σ k j ah a ae)(ds:List D):PS (σ++[.list ds]) k j ah a ae:=by
 have hk:=(ek.mp p.hk).1;have hj:=(ek.mp p.hj).1;refine⟨by rw[fH hk];exact p.hk,by rw[fH hj];exact p.hj,p.ne,p.sz,p.ok,p.pos,?_⟩;have hc:=p.cl;unfold Cl at hc ⊢;rw[fu]at hc ⊢;intro o ho;rw[eF]at ho;rcases ho with h|h
 ·exact MO.below_mono (by simp) (hc o h)
 ·simp only[ff]at h;subst h;rfl
theorem uh{kk:Nat}{m:Lo->M Fl}{more:Nat}{v:PV}(hk:vs.length=kk)(e:i6 (m (eR vs ds more)) σ=some (.ok v,σ'))(hv:v.below σ.length=false):semF kk m ds more vs σ=some (.ok v,σ'):=by unfold semF s6;rw[cH hk,e];simp[hv]
theorem Cb{kk:Nat}{m:Lo->M Fl}{more:Nat}{σ₁ junk:List MO}(hk:vs.length=kk)(e:i6 (m (eR vs ds more)) σ=some (.exc,σ₁++junk))(hl:σ₁.length=σ.length)(hc:Cl σ₁):semF kk m ds more vs σ=some (.exc,σ₁):=by
 unfold semF s6;rw[cH hk,e];have:(σ₁++junk).take σ.length=σ₁:=by rw[<-hl];simp
 unfold Cl at hc;rw[hl]at hc;simp only[this,hc];rfl
def Ld(σ:List MO)(k j:Nat)(ah:List Tk)(ae:Nat)(f:Tr->PV)(ext:Tr->List MO)(e:Option (R PV×List MO)):Option (Tr×List Tk)->Prop
 |some (t,l)=>∃a',a'<=ah.length/\ah.drop a'=l/\e=some (.ok (f t),σ.set k (i9 j a' ae)++ext t)
 |none=>∃a' nest',e=some (.exc,σ.set k (i9 j a' nest'))
theorem Ld.cases{f:Tr->PV}{ext:Tr->List MO}{e:Option (R PV×List MO)}(h:Ld σ k j ah ae f ext e P):
  (∃t l a',P=some (t,l)/\a'<=ah.length/\ah.drop a'=l/\e=some (.ok (f t),σ.set k (i9 j a' ae)++ext t))\/(P=none/\∃a' n',e=some (.exc,σ.set k (i9 j a' n'))):=by
 cases P with
 |none=>exact .inr ⟨rfl,h⟩
 |some x=>(refine ou h λa' h1 h2 h3=> ?_;clear h);exact .inl ⟨x.1,x.2,a',rfl,h1,h2,h3⟩
theorem Gs(n:Nat)(l:List Tk):ops (l.drop n)<=ops l:=by
 induction n generalizing l with
 |zero=>simp
 |succ n ih=>cases l with
  |nil=>simp
  |cons x l=>exact gp (ih l) (wm (x::l))
theorem Ek(hn:8<=n)(g:rU ah)(hI:LN B)(ho:ops ah<=62)(HC:gL W n k j ae ah gW (mR B W))(p:PS σ k j ah a ae)(ha:a<=ah.length):Ld σ k j ah ae (λt=> .d (.tup [.none,dy t])) (λ_=>[]) ((CN W (n+1)).c jm [.inst k] σ) (mR B W (ah.drop a)):=by
 rw[Bk];have hp:=HC σ a p ha;refine hp.elim (λt r a' e1 e2 e3 e4=> ?_) λe1 a' m' e4=> ?_
 ·rw[e1];have p':=p.move (nest':=ae) (p.lt e2);have f1:=pU (W:=W) (n:=n) p' Jq (by decide) (dq hn rfl);rw[g.noOp a' (by decide)]at f1;have f2:=pU (W:=W) (n:=n) p' BV (by decide) (dq hn rfl);rw[g.noOp a' (by decide)]at f2;refine wD (Ag hI W _ _ _ (ue a p.ok) e1) λi1 i2 i3=> ?_;have hz:=Gs a ah;have h5:=Im i1 ((lx (.l A1 (.k 62)) [.l A0 (.k 62),.l (.a A1 A2) A3,.l A3 A0]) ho i3 hz);refine⟨a',e2,e3,?_⟩;refine dk rfl ?_ (by simp);exact pZ vW (λr=>r e4 f1 f2 (fJ h5) ⟨⟩) (by rw[gD];rfl)
 ·rw[e1];refine⟨a',m',?_⟩;refine dk rfl ?_ (by simp);exact d8 vW λr=>r e4 ⟨⟩
theorem Gu{P:Ps}(hn:8<=n)(g:rU ah)(hW:0<W)(p:PS σ k j ah a ae)(HA:Ld σ k j ah ae (λt=> .d (.tup [.none,dy t])) (λ_=>[]) ((CN W n).c jm [.inst k] σ) (P (ah.drop a))):Ld σ k j ah ae (λ_=> .ref σ.length) (λt=>[.list [.tup [.none,dy t]]]) ((CN W (n+1)).c jK [.inst k] σ) (P (ah.drop a)):=by
 obtain⟨W',hW'⟩:∃w,W=w+1:=⟨W -1,by exact qH hW rfl⟩;rw[DU];rcases HA.cases with⟨t,r,a',e1,e2,e3,e4⟩|⟨e1,a',m',e4⟩
 ·rw[e1];rw[gD]at e4;have p':=(p.move (nest':=ae) (p.lt e2)).app [.tup [.none,dy t]];have f1:=ud (W:=W) (n:=n) p' Jr (by decide) (dq hn rfl);rw[g.noOp a' (by decide)]at f1;simp only[jf,if_false]at f1;refine⟨a',e2,e3,?_⟩;refine uh rfl ?_ (by simp[PV.below]);simp only[hW']at *;exact pZ xH (λr=>r e4 (PZ (fX rfl λr=>r f1 ⟨⟩) rfl) ⟨⟩) (by rw[List.length_set];rfl)
 ·rw[e1];refine⟨a',m',?_⟩;refine dk rfl ?_ (by simp);exact d8 xH λr=>r e4 ⟨⟩
theorem On(ht:PT t)(hW:1<W)(hn:5<=n)(p:PS σ k j ah a ae)(hi:σ[i]? =some (.list [.tup [.none,dy t]])):(CN W n).c iD [.inst k,.ref i] σ=if re t then some (.exc,σ)else some (.ok (.d .none),σ):=by
 obtain⟨m,rfl⟩:∃m,n=m+1:=⟨n -1,by exact dp hn rfl⟩;obtain⟨W',rfl⟩:∃w,W=w+2:=⟨W -2,by exact qH hW rfl⟩;rw[xe];have hg:dW σ (.ref i)=some [.tup [.none,dy t]]:=by simp only[dW,hi]
 have hr:=λmsg=>qp (W:=W'+2) (n:=m) p msg (dl hn rfl);have hs:=o5 σ t;have n0:uR (.ref i) 0 σ=some (some (.d (.tup [.none,dy t]))):=by unfold uR;rw[hg];rfl
 have n1:uR (.ref i) 1 σ=some none:=by unfold uR;rw[hg];rfl
 have h1:=B6 ht;have h2:=JH ht;cases c:re t with
 |true=>
  rw[c]at h1;refine dk rfl ?_ rfl;exact d8 sx λr=>r (YE n0 rfl (fX rfl λr=>r (dC hs) (mT h1) (hr _) ⟨⟩)) ⟨⟩
 |false=>
  rw[c]at h1;refine dk rfl ?_ rfl;exact d8 sx λr=>r (TL n0 rfl (fX rfl λr=>r (dC hs) (mT h1) (dC hs) (mT h2) ⟨⟩) n1) ⟨⟩
theorem UD(ht:PT t)(g:rU ah)(hn:4<=n)(p:PS σ k j ah a ae):(CN W n).c iU [.inst k,.d (dy t)] σ=some (.ok (.d (dy (v8 t))),σ):=by
 obtain⟨m,rfl⟩:∃m,n=m+1:=⟨n -1,by exact dp hn rfl⟩;rw[yh];refine dk rfl ?_ rfl;have w1:=wk (W:=W) (n:=m) p zd (by decide) (g.noWd a (by decide)) (dl hn rfl);have hs:=o5 σ t;have h1:=B5 ht σ;unfold v8
 cases c:yo t<;>rw[c]at h1<;>
  exact d8 zt λr=>r w1 (dC hs) (xw h1) ⟨⟩
theorem Oo(hn:5<=n)(p:PS σ k j ah a ae):(CN W n).c kS [.inst k] σ=if ae<24 then some (.ok (.d .none),σ.set k (i9 j a (ae+1)))else some (.exc,σ.set k (i9 j a (ae+1))):=by
 obtain⟨m,rfl⟩:∃m,n=m+1:=⟨n -1,by exact dp hn rfl⟩;rw[DS];have h1:=p.nest_;have hset:∀f:Unit->M Fl,Internal.setO gb (.inst k) (.d (.int ((ae:Int)+1))) f σ=f () (σ.set k (i9 j a (ae+1))):=λf=>p.setN (ae+1) f;have p':=p.move (nest':=ae+1) p.pos;have h2:=p'.nest_;have hr:=λmsg=>qp (W:=W) (n:=m) p' msg (dl hn rfl);have hm:pK= .d (.int 24):=rfl;by_cases c:ae<24
 ·rw[cH c];refine dk rfl ?_ (by simp);have c1:¬(24<(ae:Int)+1):=(lE (.n (.S (.k 24) (.a (.c A0) (.k 1)))) [.t A0 (.k 24)]) c;exact d8 xF λr=>r (jV h1 hset) (nj h2) (show ir .Gt (.d (.int ((ae+1:Nat):Int))) (.d (.int 24)) _=_ from y9 c1) ⟨⟩
 ·rw[cJ c];refine dk rfl ?_ (by simp);have c1:(24<(ae:Int)+1):=(lE (.S (.k 24) (.a (.c A0) (.k 1))) [.n (.t A0 (.k 24))]) c;exact d8 xF λr=>r (jV h1 hset) (nj h2) (show ir .Gt (.d (.int ((ae+1:Nat):Int))) (.d (.int 24)) _=_ from Nc c1) (hr _) ⟨⟩
theorem QS(hn:1<=n)(p:PS σ k j ah a (ae+1)):(CN W n).c jX [.inst k] σ=some (.ok (.d .none),σ.set k (i9 j a ae)):=by
 obtain⟨m,rfl⟩:∃m,n=m+1:=⟨n -1,by exact dp hn rfl⟩;rw[Bi];have h1:=p.nest_
 have hset:∀f:Unit->M Fl,Internal.setO gb (.inst k) (.d (.int (((ae+1:Nat):Int) -1))) f σ=f () (σ.set k (i9 j a ae)):=by intro f;rw[show(((ae+1:Nat):Int) -1)=(ae:Nat) by exact(lE (.E (.s (.c (.a A0 (.k 1))) (.k 1)) (.c A0)) [])];exact p.setN ae f
 refine dk rfl ?_ (by simp);exact d8 C8 λr=>r (jV h1 hset) ⟨⟩
end
section
variable{k j a ae W:Nat}{ah:List Tk}
theorem El(σ:List MO)(k:Nat)(x:MO):(σ.set k x).length=σ.length:=List.length_set
theorem UE(hn:6<=n):wl W n k j 24 ah (pB W 0):=by intro σ a p hs;obtain⟨m,rfl⟩:∃m,n=m+1:=⟨n -1,by exact dp hn rfl⟩;rw[sD];refine oE (qC hs) λl q=> ?_;refine oA (i5 q) λl1 l2=> ?_;have h1:=Ee (W:=W) (n:=m) p fT (by decide) (by decide) (dl hn rfl);rw[cH hs]at h1;have h2:=Oo (W:=W) (n:=m) (dl hn rfl) (p.move (nest':=24) (p.lt l1));rw[cJ (by decide),eI]at h2;refine⟨a+1,24+1,?_⟩;refine dk rfl ?_ (by simp);exact d8 k8 λr=>r h1 h2 ⟨⟩
theorem Xd(hn:8<=n)(g:rU ah)(hW:1<W)(hlt:ae<24)(hI:LN B)(HA:∀σ a,PS σ k j ah a (ae+1)->a<=ah.length->Ld σ k j ah (ae+1) (λ_=> .ref σ.length) (λt=>[.list [.tup [.none,dy t]]]) ((CN W n).c jK [.inst k] σ) (mR B W (ah.drop a))):wl W (n+1) k j ae ah (Vw B W):=by
 intro σ a p hs;rw[sD];refine oE (qC hs) λl q=> ?_;refine oA (i5 q) λl1 l2=> ?_;have h1:=Ee (W:=W) (n:=n) p fT (by decide) (by decide) (dq hn rfl);rw[cH hs]at h1;have h2:=Oo (W:=W) (n:=n) (dq hn rfl) (p.move (nest':=ae) (p.lt l1));rw[cH hlt,eI]at h2;have p1:=p.move (nest':=ae+1) (p.lt l1);have h3:=qB (W:=W) (n:=n) p1 rN (by decide) (dq hn rfl);rw[g.noWd _ (by decide)]at h3;have ha:=HA _ _ p1 l1;rw[l2,El]at ha;rw[q];unfold Vw;rcases ha.cases with⟨t,r,a',e1,e2,e3,e4⟩|⟨e1,a',m',e4⟩
 ·rw[eI]at e4;rw[show(Tk.op fT::l).tail=l from rfl,e1];show pW σ k j ah ae _ (if re t=true then none else if gK eY r=true then some (v8 t,r.tail)else none);have pt:=(Ag hI W _ _ _ (by rw[<-l2];exact ue (a+1) p.ok) e1).1;have p2:=p.move (nest':=ae+1) (p.lt e2);have p3:=p2.app [.tup [.none,dy t]]
  have hi:(σ.set k (i9 j a' (ae+1))++[MO.list [.tup [.none,dy t]]])[σ.length]? =some (.list [.tup [.none,dy t]]):=by rw[nO (by simp)];simp
  have hg:dW (σ.set k (i9 j a' (ae+1))++[MO.list [.tup [.none,dy t]]]) (.ref σ.length)=some [.tup [.none,dy t]]:=by simp only[dW,hi]
  have h5:=On (W:=W) (n:=n) pt hW (dq hn rfl) p3 hi;by_cases c:re t=true
  ·rw[cH c]at h5 ⊢;refine⟨a',ae+1,?_⟩;refine Cb (σ₁:=σ.set k (i9 j a' (ae+1))) (junk:=[MO.list [.tup [.none,dy t]]]) rfl ?_ (by simp) p2.cl;exact d8 k8 λr=>r h1 h2 h3 e4 h5 ⟨⟩
  ·rw[cJ c]at h5 ⊢;have h6:=UD (W:=W) (n:=n) pt g (dq hn rfl) p3;have h7:=Ee (W:=W) (n:=n) p3 eY (by decide) (by decide) (dq hn rfl);rw[e3]at h7
   have ss:∀x,gZ (σ.set k (i9 j a' (ae+1))++[MO.list [.tup [.none,dy t]]]) (.ref σ.length) (.d (.int 0))=x->x=some (.d (.tup [.none,dy t])):=by intro x hx;rw[<-hx];simp[gZ,dW,hi,seqIndex?]
   have ss:=ss _ rfl;have s0:gZ (σ.set k (i9 j a' (ae+1))++[MO.list [.tup [.none,dy t]]]) (.d (.tup [.none,dy t])) (.d (.int 0))=some (.d .none):=rfl;have s1:gZ (σ.set k (i9 j a' (ae+1))++[MO.list [.tup [.none,dy t]]]) (.d (.tup [.none,dy t])) (.d (.int 1))=some (.d (dy t)):=rfl;have ei:l5 (.int 1) (.int 1)=some true:=rfl;by_cases d:gK eY r=true
   ·rw[cH d]at h7 ⊢;refine oE (qC d) λl' q'=> ?_;refine oA (i5 (ah:=ah) (a:=a') (by rw[e3,q'])) λl3 l4=> ?_
    have hsa:(σ.set k (i9 j a' (ae+1))++[MO.list [.tup [.none,dy t]]]).set k (i9 j (a'+1) (ae+1))=σ.set k (i9 j (a'+1) (ae+1))++[MO.list [.tup [.none,dy t]]]:=by rw[List.set_append_left _ _ (by rw[El];exact(ek.mp p.hk).1),eI]
    have p4:=(p.move (nest':=ae+1) (p.lt l3)).app [.tup [.none,dy t]];have h8:=QS (W:=W) (n:=n) (dq hn rfl) p4
    have hsb:(σ.set k (i9 j (a'+1) (ae+1))++[MO.list [.tup [.none,dy t]]]).set k (i9 j (a'+1) ae)=σ.set k (i9 j (a'+1) ae)++[MO.list [.tup [.none,dy t]]]:=by rw[List.set_append_left _ _ (by rw[El];exact(ek.mp p.hk).1),eI]
    rw[hsa]at h7;rw[hsb]at h8;have p5:=p.move (nest':=ae) (p.lt l3);refine⟨a'+1,l3,by rw[gw,e3],?_⟩;refine gH (σ₁:=σ.set k (i9 j (a'+1) ae)) (junk:=[MO.list [.tup [.none,dy t]]]) rfl ?_ (by simp) rfl p5.cl;exact d8 k8 λr=>r h1 h2 h3 e4 h5 (So hg) (oF rfl) (dC ss) (dC s0) (oF rfl) (dC ss) (dC s1) h6 h7 h8 ⟨⟩
   ·rw[cJ d]at h7 ⊢;refine⟨a',ae+1,?_⟩;refine Cb (σ₁:=σ.set k (i9 j a' (ae+1))) (junk:=[MO.list [.tup [.none,dy t]]]) rfl ?_ (by simp) p2.cl;exact d8 k8 λr=>r h1 h2 h3 e4 h5 (So hg) (oF rfl) (dC ss) (dC s0) (oF rfl) (dC ss) (dC s1) h6 h7 ⟨⟩
 ·rw[eI]at e4;rw[show(Tk.op fT::l).tail=l from rfl,e1];refine⟨a',m',?_⟩;refine dk rfl ?_ (by simp);exact d8 k8 λr=>r h1 h2 h3 e4 ⟨⟩
structure All(W n k j ae:Nat)(ah:List Tk)(B:Ps):Prop where
 simple:∀m,n+5<=m->gL W m k j ae ah dQ (eq B W)
 rel:∀m,n+7<=m->j6 W m k j ae ah eg (mf B W)
 log:∀m,n+8<=m->j6 W m k j ae ah gg (vf B W)
theorem Op(hn:8<=n)(g:rU ah)(hW:ah.length<W)(hI:LN B)(hB:qo B)(HB:∀m,n<=m->wl W m k j ae ah B):All W n k j ae ah B:=by
 have h1:∀m,n+1<=m->gL W m k j ae ah gh (nc B):=λm hm=>by obtain⟨i,rfl⟩:∃i,m=i+1:=⟨m -1,by exact(ie (.e A1 (.a (.s A1 K1) K1)) [.l (.k 8) A0,.l (.a A0 K1) A1]) hn hm⟩;exact Uz g (Rw hW) ((ie (.l (.k 8) A1) [.l (.k 8) A0,.l (.a A0 K1) (.a A1 K1)]) hn hm) (HB i ((ie (.l A0 A1) [.l (.a A0 K1) (.a A1 K1)]) hm))
 have h2:∀m,n+2<=m->gL W m k j ae ah eM (gX B):=λm hm=>by obtain⟨i,rfl⟩:∃i,m=i+1:=⟨m -1,by exact(ie (.e A1 (.a (.s A1 K1) K1)) [.l (.k 8) A0,.l (.a A0 (.k 2)) A1]) hn hm⟩;exact Of ((ie (.l (.k 8) A1) [.l (.k 8) A0,.l (.a A0 (.k 2)) (.a A1 K1)]) hn hm) (h1 i ((ie (.l (.a A0 K1) A1) [.l (.a A0 (.k 2)) (.a A1 K1)]) hm))
 have h3:∀m,n+3<=m->gL W m k j ae ah gk (mc B W):=λm hm=>by obtain⟨i,rfl⟩:∃i,m=i+1:=⟨m -1,by exact(ie (.e A1 (.a (.s A1 K1) K1)) [.l (.k 8) A0,.l (.a A0 (.k 3)) A1]) hn hm⟩;exact UB ((ie (.l (.k 8) A1) [.l (.k 8) A0,.l (.a A0 (.k 3)) (.a A1 K1)]) hn hm) hB hW (h2 i ((ie (.l (.a A0 (.k 2)) A1) [.l (.a A0 (.k 3)) (.a A1 K1)]) hm))
 have h4:∀m,n+4<=m->gL W m k j ae ah dQ (eq B W):=λm hm=>by obtain⟨i,rfl⟩:∃i,m=i+1:=⟨m -1,by exact(ie (.e A1 (.a (.s A1 K1) K1)) [.l (.k 8) A0,.l (.a A0 (.k 4)) A1]) hn hm⟩;exact Oh ((ie (.l (.k 8) A1) [.l (.k 8) A0,.l (.a A0 (.k 4)) (.a A1 K1)]) hn hm) hB hW (h3 i ((ie (.l (.a A0 (.k 3)) A1) [.l (.a A0 (.k 4)) (.a A1 K1)]) hm))
 have h5:∀m,n+5<=m->gL W m k j ae ah gN (xg B W):=λm hm=>by obtain⟨i,rfl⟩:∃i,m=i+1:=⟨m -1,by exact(ie (.e A1 (.a (.s A1 K1) K1)) [.l (.k 8) A0,.l (.a A0 (.k 5)) A1]) hn hm⟩;exact Oj ((ie (.l (.k 8) A1) [.l (.k 8) A0,.l (.a A0 (.k 5)) (.a A1 K1)]) hn hm) hI (h4 i ((ie (.l (.a A0 (.k 4)) A1) [.l (.a A0 (.k 5)) (.a A1 K1)]) hm))
 have h6:∀m,n+6<=m->j6 W m k j ae ah eg (mf B W):=λm hm=>by obtain⟨i,rfl⟩:∃i,m=i+1:=⟨m -1,by exact(ie (.e A1 (.a (.s A1 K1) K1)) [.l (.k 8) A0,.l (.a A0 (.k 6)) A1]) hn hm⟩;exact K8 ((ie (.l (.k 8) A1) [.l (.k 8) A0,.l (.a A0 (.k 6)) (.a A1 K1)]) hn hm) (h4 i ((ie (.l (.a A0 (.k 4)) A1) [.l (.a A0 (.k 6)) (.a A1 K1)]) hm)) (h5 i ((ie (.l (.a A0 (.k 5)) A1) [.l (.a A0 (.k 6)) (.a A1 K1)]) hm))
 have h7:∀m,n+7<=m->j6 W m k j ae ah gg (vf B W):=λm hm=>by obtain⟨i,rfl⟩:∃i,m=i+1:=⟨m -1,by exact(ie (.e A1 (.a (.s A1 K1) K1)) [.l (.k 8) A0,.l (.a A0 (.k 7)) A1]) hn hm⟩;exact La ((ie (.l (.k 8) A1) [.l (.k 8) A0,.l (.a A0 (.k 7)) (.a A1 K1)]) hn hm) hB hW (h4 i ((ie (.l (.a A0 (.k 4)) A1) [.l (.a A0 (.k 7)) (.a A1 K1)]) hm)) (h6 i ((ie (.l (.a A0 (.k 6)) A1) [.l (.a A0 (.k 7)) (.a A1 K1)]) hm))
 exact⟨λm hm=>h4 m ((ie (.l (.a A0 (.k 4)) A1) [.l (.a A0 (.k 5)) A1]) hm),λm hm=>h6 m ((ie (.l (.a A0 (.k 6)) A1) [.l (.a A0 (.k 7)) A1]) hm),λm hm=>h7 m ((ie (.l (.a A0 (.k 7)) A1) [.l (.a A0 (.k 8)) A1]) hm)⟩
theorem q_B(g:rU ah)(ho:ops ah<=62)(hW:ah.length<W)(hW1:1<W)(d:Nat):∀ae,ae+d=24->∀n,8+13 * d<=n->wl W n k j ae ah (pB W d):=by
 induction d with
 |zero=>
  intro ae h n hn;obtain rfl:ae=24:=(lE (.e A0 (.k 24)) [.e (.a A0 (.k 0)) (.k 24)]) h;exact UE ((lE (.l (.k 6) A0) [.l (.a (.k 8) (.l 13 (.k 0))) A0]) hn)
 |succ d ih=>
  intro ae h n hn;have A:All W (8+13 * d) k j (ae+1) ah (pB W d):=Op ((ie (.l (.k 8) (.a (.k 8) (.l 13 A1))) [.e (.a A0 (.a A1 K1)) (.k 24)]) h) g hW (Ah W d) (JE W d) (λm hm=>ih (ae+1) ((ie (.e (.a (.a A0 K1) A1) (.k 24)) [.e (.a A0 (.a A1 K1)) (.k 24)]) h) m hm)
  have HC:∀m,8+13 * d+10<=m->gL W m k j (ae+1) ah gW (mR (pB W d) W):=λm hm=>by
   obtain⟨i,rfl⟩:∃i,m=i+1:=⟨m -1,by exact(kI (.e A2 (.a (.s A2 K1) K1)) [.e (.a A0 (.a A1 K1)) (.k 24),.l (.a (.a (.k 8) (.l 13 A1)) (.k 10)) A2]) h hm⟩
   have HE:j6 W i k j (ae+1) ah gM (QR (pB W d) W):=by obtain⟨i,rfl⟩:∃i',i=i'+1:=⟨i -1,by exact(kI (.e A2 (.a (.s A2 K1) K1)) [.e (.a A0 (.a A1 K1)) (.k 24),.l (.a (.a (.k 8) (.l 13 A1)) (.k 10)) (.a A2 K1)]) h hm⟩;exact Lb ((kI (.l (.k 8) A2) [.e (.a A0 (.a A1 K1)) (.k 24),.l (.a (.a (.k 8) (.l 13 A1)) (.k 10)) (.a (.a A2 K1) K1)]) h hm) g (A.simple i ((ie (.l (.a (.a (.k 8) (.l 13 A0)) (.k 5)) A1) [.l (.a (.a (.k 8) (.l 13 A0)) (.k 10)) (.a (.a A1 K1) K1)]) hm))
   exact Om ((kI (.l (.k 8) A2) [.e (.a A0 (.a A1 K1)) (.k 24),.l (.a (.a (.k 8) (.l 13 A1)) (.k 10)) (.a A2 K1)]) h hm) g ((ie (.n (.e (.a A0 K1) (.k 0))) [.e (.a A0 (.a A1 K1)) (.k 24)]) h) (Ah W d) (W8 W d) (A.simple i ((ie (.l (.a (.a (.k 8) (.l 13 A0)) (.k 5)) A1) [.l (.a (.a (.k 8) (.l 13 A0)) (.k 10)) (.a A1 K1)]) hm)) HE (A.rel i ((ie (.l (.a (.a (.k 8) (.l 13 A0)) (.k 7)) A1) [.l (.a (.a (.k 8) (.l 13 A0)) (.k 10)) (.a A1 K1)]) hm)) (A.log i ((ie (.l (.a (.a (.k 8) (.l 13 A0)) (.k 8)) A1) [.l (.a (.a (.k 8) (.l 13 A0)) (.k 10)) (.a A1 K1)]) hm))
  obtain⟨i,rfl⟩:∃i,n=i+3:=⟨n -3,by exact(kI (.e A2 (.a (.s A2 (.k 3)) (.k 3))) [.e (.a A0 (.a A1 K1)) (.k 24),.l (.a (.k 8) (.l 13 (.a A1 K1))) A2]) h hn⟩;exact Xd (n:=i+2) ((kI (.l (.k 8) (.a A2 (.k 2))) [.e (.a A0 (.a A1 K1)) (.k 24),.l (.a (.k 8) (.l 13 (.a A1 K1))) (.a A2 (.k 3))]) h hn) g hW1 ((ie (.t A0 (.k 24)) [.e (.a A0 (.a A1 K1)) (.k 24)]) h) (Ah W d) (λσ a p ha=>Gu (n:=i+1) ((kI (.l (.k 8) (.a A2 K1)) [.e (.a A0 (.a A1 K1)) (.k 24),.l (.a (.k 8) (.l 13 (.a A1 K1))) (.a A2 (.k 3))]) h hn) g ((kI (.t A2 A0) [.t A1 A0,.g (.a (.a A2 K1) (.k 0)) (.a (.a A1 K1) (.k 0))]) hW1 rfl) p (Ek (n:=i) ((kI (.l (.k 8) A2) [.e (.a A0 (.a A1 K1)) (.k 24),.l (.a (.k 8) (.l 13 (.a A1 K1))) (.a A2 (.k 3))]) h hn) g (Ah W d) ho (HC i ((ie (.l (.a (.a (.k 8) (.l 13 A0)) (.k 10)) A1) [.l (.a (.k 8) (.l 13 (.a A0 K1))) (.a A1 (.k 3))]) hn)) p ha))
end
section
variable{k j a ae W:Nat}{ah:List Tk}
noncomputable def sO:Tr->List Tr
 | .name _=>[]
 | .num _=>[]
 | .un _ t=>[t]
 | .bin _ a b=>[a,b]
 | .sc _ a b=>[a,b]
 | .mem _ a b=>[a,b]
 | .rng a b=>[a,b]
 | .pn t=>[t]
theorem Cc(σ:List MO)(zs:List D):qN (σ++[.list zs]) (.ref σ.length)=some (σ.length,zs):=by simp[qN]
theorem Oq(σ:List MO)(x y:MO):(σ++[x]).set σ.length y=σ++[y]:=by simp
noncomputable def Em:D->Bool
 | .tup _=>true
 |_=>false
noncomputable def Cd:D->Bool
 | .tup _=>true
 | .str _=>true
 | .int _=>true
 |_=>false
def Xe(aa:Lo):Cm Fl:=dm (gv (Jm "tuple" (cF aa 2))) (mB aa (tg (cF aa 1) (cF aa 2))) (dm (gv (Jm "list" (cF aa 2))) (.ask cU) (cZ aa))
theorem Xf{zs:List D}{x:D}(hm:m (σ++[.list zs])=some (.ok (.d x),σ++[.list zs]))(hz:zs.length<eZ):kz (.ref σ.length) m (σ++[.list zs])=some (.ok (.d .none),σ++[.list (zs++[x])]):=by unfold kz;rw[Cc,gQ,eT hm];show(qN _ _).bind _=_;rw[Cc,gQ];exact(cH hz).trans (by rw[Oq])
theorem Xg{x:D}(h:Cd x=true)(e:PV){zs:List D}(hz:zs.length<eZ):fG (Xe [some e,some (.ref σ.length),some (.d x),none]) (σ++[.list zs])=some (.ok (.nxt [some e,some (.ref σ.length),some (.d x),none]),σ++[.list (if Em x then zs++[x]else zs)]):=by
 cases x with
 |tup xs=>exact fX rfl λr=>r (pz (a:= .d (.bool true)) rfl) (Xf rfl hz) ⟨⟩
 |str s=>exact fX rfl λr=>r (pz (a:= .d (.bool false)) rfl) (pz (a:= .d (.bool false)) rfl) ⟨⟩
 |int s=>exact fX rfl λr=>r (pz (a:= .d (.bool false)) rfl) (pz (a:= .d (.bool false)) rfl) ⟨⟩
 |_=>exact mY h
theorem Xh(xs:List D)(hx:xs.all Cd=true)(e:PV)(K:Nat):∀(i:Nat)(zs:List D)(y:Option PV),xs.length -i<K->zs.length+(xs.length -i)<eZ->
  ∃y',kM (Sl xs) (qP 2) (λl=>fG (Xe l)) K i [some e,some (.ref σ.length),y,none] (σ++[.list zs])=some (.ok (.nxt [some e,some (.ref σ.length),y',none]),σ++[.list (zs++(xs.drop i).filter Em)]):=by
 induction K with
 |zero=>intro i zs y h;exact absurd h (Nat.not_lt_zero _)
 |succ K ih=>
  intro i zs y hK hz;by_cases c:i<xs.length
  ·have e1:Sl xs i (σ++[.list zs])=some (some (.d xs[i])):=by unfold Sl;rw[nQ c];rfl
   have hb:=Xg (σ:=σ) (fu.mp hx _ (List.getElem_mem c)) e (zs:=zs) (by exact(lx (.t A0 A3) [.t (.a A0 (.s A1 A2)) A3]) hz);obtain⟨y',h2⟩:=ih (i+1) (if Em xs[i]then zs++[xs[i]]else zs) (some (.d xs[i])) (by exact(kI (.t (.s A0 (.a A1 K1)) A2) [.t (.s A0 A1) (.a A2 K1),.t A1 A0]) hK c) (by cases Em xs[i]<;>simp<;>omega);refine⟨y',?_⟩;unfold kM;rw[e1];refine(eT hb).trans (h2.trans ?_);rw[List.drop_eq_getElem_cons c,List.filter_cons];cases Em xs[i]
   ·rfl
   ·simp only[if_true,d6,mj,qe]
  ·have e1:Sl xs i (σ++[.list zs])=some none:=by unfold Sl;rw[List.getElem?_eq_none (Nat.le_of_not_lt c)];rfl
   refine⟨y,?_⟩;unfold kM;rw[e1,List.drop_eq_nil_of_le (Nat.le_of_not_lt c),List.filter_nil,gD];rfl
theorem Os(t:Tr):Em (dy t)=true:=by cases t<;>rfl
theorem Le(t:Tr):Cd (dy t)=true:=by cases t<;>rfl
theorem QT(s:List Nat):Cd (.str s)=true:=rfl
theorem QU(i:Int):Cd (.int i)=true:=rfl
theorem UF(s:List Nat):Em (.str s)=false:=rfl
theorem UG(i:Int):Em (.int i)=false:=rfl
noncomputable def Vx:D->List D
 | .tup (_::r)=>r
 |_=>[]
theorem QV(t:Tr)(hW:4<=W)(hn:1<=n):(CN W n).c gA [.d (dy t)] σ=some (.ok (.ref σ.length),σ++[.list ((sO t).map dy)]):=by
 obtain⟨m,rfl⟩:∃m,n=m+1:=⟨n -1,by exact dp hn rfl⟩;rw[Bh];refine uh rfl ?_ (by simp[PV.below]);have hs:wQ (.d (dy t)) (some 1) none (σ++[.list []])=some (.ok (.d (.tup (Vx (dy t)))),σ++[.list []]):=by cases t<;>rfl
 have hx:(Vx (dy t)).all Cd=true:=by cases t<;>simp only[dy,Vx,hP,List.all_nil,QT,QU,Le,Bool.and_self]
 have hf:(Vx (dy t)).filter Em=(sO t).map dy:=by cases t<;>simp[dy,Vx,UF,UG,Os,sO]
 have hl:(Vx (dy t)).length<=3:=by cases t<;>exact fq rfl
 obtain⟨y',h⟩:=Xh (σ:=σ) _ hx (.d (dy t)) W 0 [] none (by exact(ie (.t (.s A1 (.k 0)) A0) [.l (.k 4) A0,.l A1 (.k 3)]) hW hl) (by unfold eZ;simp;exact(lE (.t A0 (.k 4000000)) [.l A0 (.k 3)]) hl);rw[List.drop_zero,hf,qe]at h;exact d8 C6 λr=>r hs h ⟨⟩
theorem Lf{x:MO}(h:σ[i]? =some x):σ.set i x=σ:=by
 apply List.ext_getElem?;intro q;by_cases e:i=q
 ·subst e;rw[qF (ek.mp h).1,h]
 ·rw[o7 e]
theorem Ot(acc wi:Nat)(hne:wi≠acc)(ys:List D)(K:Nat):∀(i:Nat)(σ:List MO)(zs:List D),σ[wi]? =some (.list ys)->σ[acc]? =some (.list zs)->i<=ys.length->ys.length -i<K->zs.length+(ys.length -i)<eZ->
  uV acc (.ref wi) K i σ=some (σ.set acc (.list (zs++ys.drop i))):=by
 induction K with
 |zero=>intro _ _ _ _ _ _ h;omega
 |succ K ih=>
  intro i σ zs h1 h2 hi hK hl;have hg:dW σ (.ref wi)=some ys:=by simp only[dW,h1]
  by_cases c:i<ys.length
  ·have e1:uR (.ref wi) i σ=some (some (.d ys[i])):=by simp[uR,hg,c]
   have hacc:=(ek.mp h2).1;unfold uV;rw[e1];simp only[h2];rw[cH (V0 hl)];have:=ih (i+1) (σ.set acc (.list (zs++[ys[i]]))) (zs++[ys[i]]) (by rw[o7 (VZ hne c)];exact h1) (by rw[qF hacc]) (BE c) (L3 hK c) (by simp;exact(lx (.t (.a (.a A0 K1) (.s A1 (.a A2 K1))) A3) [.t (.a A0 (.s A1 A2)) A3,.t A2 A1]) hl c);rw[this,List.set_set,d6,List.drop_eq_getElem_cons c];rfl
  ·have e1:uR (.ref wi) i σ=some none:=by simp[uR,hg];exact EJ hi c
   unfold uV;rw[e1];simp only;have:ys.drop i=[]:=List.drop_eq_nil_of_le (EJ hi c);rw[this,gD,Lf h2]
theorem Ou(t:Tr):(sO t).length<=2:=by cases t<;>simp[sO]
theorem Gv(A:List MO)(vi:Nat)(ts:List Tr)(hv:A[vi]? =some (.list (ts.map dy)))(hW:4<=W)(hn:1<=n)(K:Nat):∀(i:Nat)(J:List MO)(zs:List D),i<=ts.length->ts.length -i<K->zs.length+((ts.drop i).flatMap sO).length<eZ->
  ∃J',s8 A.length (.ref vi) ((CN W n).c gA) W K i (A++ .list zs::J)=some (A++ .list (zs++((ts.drop i).flatMap sO).map dy)::J'):=by
 induction K with
 |zero=>intro _ _ _ _ h;omega
 |succ K ih=>
  intro i J zs hi hK hl;have hlt:=(ek.mp hv).1;have hvs:(A++MO.list zs::J)[vi]? =some (.list (ts.map dy)):=by rw[fH hlt];exact hv
  have hg:dW (A++MO.list zs::J) (.ref vi)=some (ts.map dy):=by simp only[dW,hvs]
  by_cases c:i<ts.length
  ·have e1:uR (.ref vi) i (A++MO.list zs::J)=some (some (.d (dy ts[i]))):=by simp[uR,hg,c]
   have e2:=QV (W:=W) (n:=n) (σ:=A++MO.list zs::J) ts[i] hW hn;have hd:ts.drop i=ts[i]::ts.drop (i+1):=List.drop_eq_getElem_cons c;rw[hd,List.flatMap_cons]at hl ⊢;rw[dI]at hl;obtain⟨L,hL⟩:∃L,L=(sO ts[i]).map dy:=⟨_,rfl⟩;have hLl:L.length=(sO ts[i]).length:=by rw[hL];simp
   rw[<-hL]at e2;have h3:(A++MO.list zs::J++[MO.list L])[(A++MO.list zs::J).length]? =some (.list L):=by simp
   have h4:(A++MO.list zs::J++[MO.list L])[A.length]? =some (.list zs):=by simp
   have k2:=Ou ts[i];have e3:=Ot A.length (A++MO.list zs::J).length (by simp) L W 0 _ zs h3 h4 ((lx (.l (.k 0) A2) [.t A0 A1,.e A2 A3,.l A3 (.k 2)]) c hLl k2) ((BC (.t (.s A3 (.k 0)) A0) [.l (.k 4) A0,.t A1 A2,.e A3 A4,.l A4 (.k 2)]) hW c hLl k2) ((Kg (.t (.a A2 (.s A6 (.k 0))) A5) [.t A0 A1,.t (.a A2 (.a A3 A4)) A5,.e A6 A3,.l A3 (.k 2)]) c hl hLl k2);have hg2:dW (A++MO.list zs::J++[MO.list L]) (.ref (A++MO.list zs::J).length)=some L:=by simp only[dW,h3]
   have h5:(A++MO.list zs::J++[MO.list L]).set A.length (.list (zs++L.drop 0))=A++ .list (zs++L)::(J++[.list L]):=by simp
   obtain⟨J',h6⟩:=ih (i+1) (J++[.list L]) (zs++L) (BE c) (L3 hK c) (by rw[dI];exact(Kg (.t (.a (.a A2 A6) A4) A5) [.t A0 A1,.t (.a A2 (.a A3 A4)) A5,.e A6 A3]) c hl hLl);refine⟨J',?_⟩;unfold s8;rw[e1];simp only[e2,hg2,e3,h5,Option.bind,h6];rw[List.map_append,<-hL,d6]
  ·have e1:uR (.ref vi) i (A++MO.list zs::J)=some none:=by simp[uR,hg];exact EJ hi c
   refine⟨J,?_⟩;unfold s8;rw[e1];have:ts.drop i=[]:=List.drop_eq_nil_of_le (EJ hi c);rw[this];simp
def hB(W:Nat)(C:Addr->List PV->M PV)(aa:Lo):M Fl:=(dn (M2 W 2 aa (C gA) (cG aa 2)) λaa=>(eS (dz .Eq (cG aa 2) (m9 [])) Ht (dF aa)))
def Zg(W:Nat)(C:Addr->List PV->M PV)(aa:Lo):Cm Fl:=(.seq (PX W 2 aa (C gA) (cF aa 2)) λaa=>(dm (cV .Eq (cF aa 2) (mA [])) PU (cZ aa)))
theorem Xi{W:Nat}:hB W C aa=fG (Zg W C aa):=rfl
theorem Gw(C:Addr->List PV->M PV)(Cf:List PV->M Unit)(Cr:List PV->M PV)(W:Nat)(aa:Lo):kW C Cf Cr W aa=dn (dZ aa 2 (m9 [(cG aa 1)])) λaa=>(dn (Fb W (qP 3) (kN oW) (hB W C) aa) λaa=>cU):=rfl
noncomputable def ht:Tr->Nat
 | .name _=>0
 | .num _=>0
 | .un _ t=>ht t+1
 | .bin _ a b=>max (ht a) (ht b)+1
 | .sc _ a b=>max (ht a) (ht b)+1
 | .mem _ a b=>max (ht a) (ht b)+1
 | .rng a b=>max (ht a) (ht b)+1
 | .pn t=>ht t+1
noncomputable def cnt:Tr->Nat
 | .name _=>1
 | .num _=>1
 | .un _ t=>cnt t+1
 | .bin _ a b=>cnt a+cnt b+1
 | .sc _ a b=>cnt a+cnt b+1
 | .mem _ a b=>cnt a+cnt b+1
 | .rng a b=>cnt a+cnt b+1
 | .pn t=>cnt t+1
def r4(l:List Tr):Nat:=(l.map cnt).sum
theorem QW(t:Tr):1<=cnt t:=by cases t<;>simp[cnt]
theorem Lg(t:Tr):r4 (sO t)<=cnt t:=by cases t<;>simp[r4,sO,cnt]<;>omega
theorem Ov(a b:List Tr):r4 (a++b)=r4 a+r4 b:=by simp[r4]
theorem Lh(l:List Tr):r4 (l.flatMap sO)<=r4 l:=by
 induction l with
 |nil=>simp
 |cons t l ih=>
  rw[List.flatMap_cons,Ov];have:=Lg t;have h:r4 (t::l)=cnt t+r4 l:=by simp[r4]
  exact(BC (.l (.a A2 A0) A4) [.l A0 A1,.l A2 A3,.e A4 (.a A3 A1)]) ih this h
theorem Ai(l:List Tr):l.length<=r4 l:=by
 induction l with
 |nil=>simp
 |cons t l ih=>
  have:=QW t;have h:r4 (t::l)=cnt t+r4 l:=by simp[r4]
  simp only[eD];exact(lx (.l (.a A0 K1) A3) [.l A0 A1,.l K1 A2,.e A3 (.a A2 A1)]) ih this h
theorem JJ{u:Tr}(h:u ∈ sO t):ht u<ht t:=by cases t<;>simp[sO]at h<;>(try rcases h with rfl|rfl)<;>(try subst h)<;>simp[ht]<;>(first|exact IZ|exact I0)
theorem Iq{A S:List MO}{vi:Nat}{l:List D}{x:Option PV}(hg:dW A (.ref vi)=some l)(e:s8 A.length (.ref vi) sem W W 0 (A++[.list []])=some S)(i:Int):xr 2 [some (.inst k),x,some (.ref vi),some (.d (.int i))] (.ref vi) sem W W A=some (.ok (.nxt [some (.inst k),x,some (.ref A.length),some (.d (.int i))]),S):=by unfold xr;rw[hg,e];rfl
theorem SM{A S:List MO}{vi K:Nat}{x y:Option PV}(hi:(i:Int)<60)(hc:∀i:Int,xr 2 [some (.inst k),x,some (.ref vi),some (.d (.int i))] (.ref vi) ((CN W n).c gA) W W A=some (.ok (.nxt [some (.inst k),x,some (.ref A.length),some (.d (.int i))]),S))(h:dW S (.ref A.length)=some []):kM (LJ 60) (qP 3) (hB W (CN W n).c) (K+1) i [some (.inst k),x,some (.ref vi),y] A=some (.ok (.ret (.d .none)),S++[.list []]):=
 TJ (v:= .d (.int i)) (by unfold LJ;rw[cH hi]) rfl (fX Xi λr=>r (hc _) (ig (c:=true) (Nk h)) ⟨⟩)
theorem Xj{A S:List MO}{vi K:Nat}{x y:Option PV}{L:List D}(hi:(i:Int)<60)(hc:∀i:Int,xr 2 [some (.inst k),x,some (.ref vi),some (.d (.int i))] (.ref vi) ((CN W n).c gA) W W A=some (.ok (.nxt [some (.inst k),x,some (.ref A.length),some (.d (.int i))]),S))(h:dW S (.ref A.length)=some L)(c:L.isEmpty=false):kM (LJ 60) (qP 3) (hB W (CN W n).c) (K+1) i [some (.inst k),x,some (.ref vi),y] A=kM (LJ 60) (qP 3) (hB W (CN W n).c) K (i+1) [some (.inst k),x,some (.ref A.length),some (.d (.int i))] (S++[.list []]):=
 Nj (v:= .d (.int i)) (by unfold LJ;rw[cH hi]) rfl (fX Xi λr=>r (hc _) (ig (c:=false) (c▸Nk h)) ⟨⟩)
theorem Gx(hW:4<=W)(hn:1<=n)(h:Nat):∀(i K:Nat)(A:List MO)(vi:Nat)(lv:List Tr)(x y:Option PV),A[vi]? =some (.list (lv.map dy))->(∀t ∈ lv,ht t<=h)->i+h<60->h<K->r4 lv<W->r4 lv<4000->
  ∃J,kM (LJ 60) (qP 3) (hB W (CN W n).c) K i [some (.inst k),x,some (.ref vi),y] A=some (.ok (.ret (.d .none)),A++J):=by
 induction h with
 |zero=>
  intro i K A vi lv x y hv hh hi hK hc hc2;obtain⟨K,rfl⟩:∃q,K=q+1:=⟨K -1,by exact qH hK rfl⟩;have hl:=Ai lv
  have hf:lv.flatMap sO=[]:=by
   rw[List.flatMap_eq_nil_iff];intro t ht';cases q:sO t with
   |nil=>rfl
   |cons u _=>have h1:=JJ (t:=t) (u:=u) (by rw[q];simp);have tz1:=hh t ht';omega
  obtain⟨J',e⟩:=Gv (W:=W) (n:=n) A vi lv hv hW hn W 0 [] [] (RC) (RA hc hl) (by simp[hf,eZ]);simp only[List.drop_zero,hf,List.map_nil,gD]at e;have hg:dW A (.ref vi)=some (lv.map dy):=by simp only[dW,hv]
  refine⟨.list []::(J'++[.list []]),?_⟩;have hi':(i:Int)<60:=(lE (.S (.c A0) (.k 60)) [.t (.a A0 (.k 0)) (.k 60)]) hi;exact(SM hi' (Iq hg e) (by simp[dW])).trans (by rw[d6];rfl)
 |succ h ih=>
  intro i K A vi lv x y hv hh hi hK hc hc2;obtain⟨K,rfl⟩:∃q,K=q+1:=⟨K -1,by exact(kI (.e A2 (.a (.s A2 K1) K1)) [.t (.a A0 (.a A1 K1)) (.k 60),.t (.a A1 K1) A2]) hi hK⟩;have hl:=Ai lv;have hcf:=Lh lv;have hlf:=Ai (lv.flatMap sO);obtain⟨J',e⟩:=Gv (W:=W) (n:=n) A vi lv hv hW hn W 0 [] [] (RC) (RA hc hl) (by simp only[List.drop_zero,List.length_nil];simp only[eZ];exact(kI (.t (.a (.k 0) A2) (.k 4000000)) [.t A0 (.k 4000),.l A1 A0,.l A2 A1]) hc2 hcf hlf);simp only[List.drop_zero,qe]at e;obtain⟨lv',hlv⟩:∃l,l=lv.flatMap sO:=⟨_,rfl⟩;rw[<-hlv]at e hcf hlf;have hg:dW A (.ref vi)=some (lv.map dy):=by simp only[dW,hv]
  have hi':(i:Int)<60:=(ie (.S (.c A0) (.k 60)) [.t (.a A0 (.a A1 (.k 1))) (.k 60)]) hi;by_cases c:lv'=[]
  ·subst c;refine⟨.list []::(J'++[.list []]),?_⟩;exact(SM hi' (Iq hg e) (by simp[dW])).trans (by rw[d6];rfl)
  ·have hv':(A++MO.list (lv'.map dy)::(J'++[MO.list []]))[A.length]? =some (.list (lv'.map dy)):=by simp
   obtain⟨J2,e2⟩:=ih (i+1) K _ A.length lv' x (some (.d (.int i))) hv' (by intro u hu;rw[hlv,List.mem_flatMap]at hu;obtain⟨t,ht1,ht2⟩:=hu;have tz2:=hh t ht1;have:=JJ ht2;exact(kI (.l A2 A1) [.l A0 (.a A1 K1),.t A2 A0]) tz2 this) ((ie (.t (.a (.a A0 K1) A1) (.k 60)) [.t (.a A0 (.a A1 K1)) (.k 60)]) hi) (IY hK) ((kI (.t A2 A1) [.t A0 A1,.l A2 A0]) hc hcf) ((ie (.t A1 (.k 4000)) [.t A0 (.k 4000),.l A1 A0]) hc2 hcf)
   refine⟨.list (lv'.map dy)::(J'++[.list []])++J2,?_⟩
   have c2:(lv'.map dy).isEmpty=false:=by cases lv' with
    |nil=>exact absurd rfl c
    |cons _ _=>rfl
   refine(Xj hi' (Iq hg e) (L:=lv'.map dy) (by simp[dW]) c2).trans ?_;rw[d6,mj];refine e2.trans ?_;rw[d6]
theorem Ow(hW:4<=W)(hn:2<=n)(t:Tr)(h1:ht t<60)(h2:cnt t<W)(h3:cnt t<4000)(h4:60<W)(p:PS σ k j ah a ae):(CN W n).c iT [.inst k,.d (dy t)] σ=some (.ok (.d .none),σ):=by
 obtain⟨m,rfl⟩:∃m,n=m+1:=⟨n -1,by exact dp hn rfl⟩;rw[yc];have hv:(σ++[MO.list [dy t]])[σ.length]? =some (.list ([t].map dy)):=by simp
 obtain⟨J,e⟩:=Gx (W:=W) (n:=m) (k:=k) hW (dl hn rfl) (ht t) 0 W (σ++[.list [dy t]]) σ.length [t] (some (.d (dy t))) none hv (by simp) ((lE (.t (.a (.k 0) A0) (.k 60)) [.t A0 (.k 60)]) h1) ((ie (.t A0 A1) [.t A0 (.k 60),.t (.k 60) A1]) h1 h4) (by simpa [r4] using h2) (by simpa [r4] using h3);have hm:oW= .d (.int 60):=rfl;refine gH (σ₁:=σ) (junk:= .list [dy t]::J) rfl ?_ rfl rfl p.cl;rw[Gw];simp at e;simp[i6,dn,bnd,eR,lift,ret,ja,G5,qK,rD,eZ,rH,hm,Kp,e]
end
section
variable{k j a ae W:Nat}{ah:List Tk}
theorem Xk(h:PT t):ht t<=sz t+1:=by
 induction t with
 |name s=>simp[ht]
 |num i=>simp[ht]
 |un w t ih=>have:=ih h.2;simp[ht,sz];exact this
 |bin w a b iha ihb=>have tz1:=iha h.2.1;have tz2:=ihb h.2.2;simp[ht,sz];exact(lx (.l (.ma A0 A2) (.a (.a A1 A3) K1)) [.l A0 (.a A1 K1),.l A2 (.a A3 K1)]) tz1 tz2
 |sc w a b iha ihb=>have tz3:=iha h.2.1;have tz4:=ihb h.2.2;simp[ht,sz];exact(lx (.l (.ma A0 A2) (.a (.a A1 A3) K1)) [.l A0 (.a A1 K1),.l A2 (.a A3 K1)]) tz3 tz4
 |mem w a b iha ihb=>have tz5:=iha h.2.1;have tz6:=ihb h.2.2;simp[ht,sz];exact(lx (.l (.ma A0 A2) (.a (.a A1 A3) K1)) [.l A0 (.a A1 K1),.l A2 (.a A3 K1)]) tz5 tz6
 |rng a b iha ihb=>have tz7:=iha h.1;have:=ihb h.2;simp[ht,sz];exact(lx (.l (.ma A0 A2) (.a (.a A1 A3) K1)) [.l A0 (.a A1 K1),.l A2 (.a A3 K1)]) tz7 this
 |pn t ih=>
  have h1:=h.1;cases t<;>first|(simp[yo]at h1;done)|simp[ht,sz]
theorem UH(h:PT t):cnt t<=3 * sz t+2:=by
 induction t with
 |name s=>simp[cnt]
 |num i=>simp[cnt]
 |un w t ih=>have:=ih h.2;simp[cnt,sz];exact(ie (.l A0 (.a (.l 3 (.a A1 K1)) K1)) [.l A0 (.a (.l 3 A1) (.k 2))]) this
 |bin w a b iha ihb=>have tz8:=iha h.2.1;have tz9:=ihb h.2.2;simp[cnt,sz];exact(lx (.l (.a A0 A2) (.a (.l 3 (.a (.a A1 A3) K1)) K1)) [.l A0 (.a (.l 3 A1) (.k 2)),.l A2 (.a (.l 3 A3) (.k 2))]) tz8 tz9
 |sc w a b iha ihb=>have tz10:=iha h.2.1;have tz11:=ihb h.2.2;simp[cnt,sz];exact(lx (.l (.a A0 A2) (.a (.l 3 (.a (.a A1 A3) K1)) K1)) [.l A0 (.a (.l 3 A1) (.k 2)),.l A2 (.a (.l 3 A3) (.k 2))]) tz10 tz11
 |mem w a b iha ihb=>have tz12:=iha h.2.1;have tz13:=ihb h.2.2;simp[cnt,sz];exact(lx (.l (.a A0 A2) (.a (.l 3 (.a (.a A1 A3) K1)) K1)) [.l A0 (.a (.l 3 A1) (.k 2)),.l A2 (.a (.l 3 A3) (.k 2))]) tz12 tz13
 |rng a b iha ihb=>have tz14:=iha h.1;have:=ihb h.2;simp[cnt,sz];exact(lx (.l (.a A0 A2) (.a (.l 3 (.a (.a A1 A3) K1)) K1)) [.l A0 (.a (.l 3 A1) (.k 2)),.l A2 (.a (.l 3 A3) (.k 2))]) tz14 this
 |pn t ih=>
  have h1:=h.1;cases t<;>first|(simp[yo]at h1;done)|simp[cnt,sz]
theorem Ir(p:PS σ k j ah a 0)(hn:3<=n)(ht':PT t)(hz:sz t<=56)(hW:200<=W):(CN W n).c gU [.inst k,.d (dy t)] σ=some (.ok (.d (dy t)),σ):=by obtain⟨m,rfl⟩:∃m,n=m+1:=⟨n -1,by exact dp hn rfl⟩;rw[sC];refine dk rfl ?_ rfl;have h1:=p.nest_;have e:l5 (.int ((0:Nat):Int)) (.int 0)=some true:=rfl;have h2:=Xk ht';have h3:=UH ht';have h4:=Ow (W:=W) (n:=m) (dq hW rfl) (dl hn rfl) t ((ie (.t A1 (.k 60)) [.l A0 (.k 56),.l A1 (.a A0 K1)]) hz h2) ((kI (.t A2 A1) [.l A0 (.k 56),.l (.k 200) A1,.l A2 (.a (.l 3 A0) (.k 2))]) hz hW h3) ((ie (.t A1 (.k 4000)) [.l A0 (.k 56),.l A1 (.a (.l 3 A0) (.k 2))]) hz h3) (EI hW rfl) p;simp at h1 e;exact d8 tz λr=>r (nj h1) (fJ e) h4 ⟨⟩
theorem UI(g:rU ah)(ho:ops ah<=56)(hW:500<=W)(hn:332<=n):gL W n k j 0 ah jq (ng (pB W 24) W):=by
 intro σ a p ha;obtain⟨m,rfl⟩:∃m,n=m+1:=⟨n -1,by exact dp hn rfl⟩;rw[Bj];refine pW.semF rfl ?_;have A:All W 320 k j 0 ah (pB W 24):=Op (by exact fq rfl) g (by have:=p.sz;exact RD hW this) (Ah W 24) (JE W 24) (λm hm=>q_B g (kJ ho rfl) (by have:=p.sz;exact RD hW this) (EI hW rfl) 24 0 rfl m ((lE (.l (.a (.k 8) (.l 13 (.k 24))) A0) [.l (.k 320) A0]) hm));have hp:=A.simple m ((lE (.l (.a (.k 320) (.k 5)) A0) [.l (.k 332) (.a A0 K1)]) hn) σ a p ha;refine hp.elim (λt r a1 e1 e2 e3 e4=> ?_) λe1 a1 m' e4=> ?_
 ·have p1:=p.move (nest':=0) (p.lt e2);have hr:=(A.rel m ((lE (.l (.a (.k 320) (.k 7)) A0) [.l (.k 332) (.a A0 K1)]) hn)).up t p1 e2;rw[e3]at hr;refine hr.elim (λu r2 a2 f1 f2 f3 f4=> ?_) λf1 a2 m' f4=> ?_
  ·have p2:=p.move (nest':=0) (p.lt f2);have hl:=(A.log m ((lE (.l (.a (.k 320) (.k 8)) A0) [.l (.k 332) (.a A0 K1)]) hn)).up u p2 f2;rw[f3]at hl
   have hE:ng (pB W 24) W (ah.drop a)=vf (pB W 24) W u r2:=by unfold ng;rw[e1];show(mf (pB W 24) W t r).bind _=_;rw[f1];rfl
   refine hl.elim (λv r3 a3 g1 g2 g3 g4=> ?_) λg1 a3 m' g4=> ?_
   ·rw[hE,g1];rw[g1]at hE;refine wD (Gq (Ah W 24) W _ _ _ (ue a p.ok) hE) λi1 i2 i3=> ?_;have hz:=Gs a ah;have p3:=p.move (nest':=0) (p.lt g2);have hb:=Ir (W:=W) (n:=m) p3 (dl hn rfl) i1 ((lx (.l A1 (.k 56)) [.l A0 (.k 56),.l (.a A1 A2) A3,.l A3 A0]) ho i3 hz) (dq hW rfl);refine⟨a3,g2,g3,?_⟩;exact d8 oX λr=>r e4 f4 g4 hb ⟨⟩
   ·rw[hE,g1];refine⟨a3,m',?_⟩;exact d8 oX λr=>r e4 f4 g4 ⟨⟩
  ·have hE:ng (pB W 24) W (ah.drop a)=none:=by
    unfold ng;rw[e1];show(mf (pB W 24) W t r).bind _=_;rw[f1];rfl
   rw[hE];refine⟨a2,m',?_⟩;exact d8 oX λr=>r e4 f4 ⟨⟩
 ·have hE:ng (pB W 24) W (ah.drop a)=none:=by
   unfold ng;rw[e1];rfl
  rw[hE];refine⟨a1,m',?_⟩;exact d8 oX λr=>r e4 ⟨⟩
theorem iY{A:List MO}{u:PV}{f:Unit->M Fl}{kvs kvs':List (List Nat×PV)}(h1:kvs.length<=1000)(h2:uS x u kvs=kvs'):setO x (.inst A.length) u f (A++[.obj kvs])=f () (A++[.obj kvs']):=by
 have h:(A++[MO.obj kvs])[A.length]? =some (.obj kvs):=by simp
 simp only[setO,xQ,h,cH h1,h2]
 congr 1
 simp
theorem UJ(A:List MO)(hn:2<=n):(CN W n).r [.ref j] A=some (.ok (.inst A.length),A++[i9 j 0 0]):=by
 obtain⟨m,rfl⟩:∃m,n=m+2:=⟨n -2,by exact dp hn rfl⟩;show EZ ((CN W (m+1)).c io) [.ref j] A=_;have h1:∀f:Unit->M Fl,setO d9 (.inst A.length) (.ref j) f (A++[.obj []])=f () (A++[.obj [(d9,.ref j)]]):=λf=>iY (by simp) rfl;have h2:∀f:Unit->M Fl,setO ii (.inst A.length) (.d (.int 0)) f (A++[.obj [(d9,.ref j)]])=f () (A++[.obj [(d9,.ref j),(ii,.d (.int 0))]]):=λf=>iY (by simp) rfl;have h3:∀f:Unit->M Fl,setO gb (.inst A.length) (.d (.int 0)) f (A++[.obj [(d9,.ref j),(ii,.d (.int 0))]])=f () (A++[.obj [(d9,.ref j),(ii,.d (.int 0)),(gb,.d (.int 0))]]):=λf=>iY (by simp) rfl;have h4:∀f:Unit->M Fl,setO iu (.inst A.length) (.d (.int 0)) f (A++[.obj [(d9,.ref j),(ii,.d (.int 0)),(gb,.d (.int 0))]])=f () (A++[.obj [(d9,.ref j),(ii,.d (.int 0)),(gb,.d (.int 0)),(iu,.d (.int 0))]]):=λf=>iY (by simp) rfl
 have h5:∀f:Unit->M Fl,setO dX (.inst A.length) (.d .none) f (A++[.obj [(d9,.ref j),(ii,.d (.int 0)),(gb,.d (.int 0)),(iu,.d (.int 0))]])=f () (A++[.obj [(d9,.ref j),(ii,.d (.int 0)),(gb,.d (.int 0)),(iu,.d (.int 0)),(dX,.d .none)]]):=λf=>iY (by simp) rfl;have h6:∀f:Unit->M Fl,setO ed (.inst A.length) (.d .none) f (A++[.obj [(d9,.ref j),(ii,.d (.int 0)),(gb,.d (.int 0)),(iu,.d (.int 0)),(dX,.d .none)]])=f () (A++[.obj [(d9,.ref j),(ii,.d (.int 0)),(gb,.d (.int 0)),(iu,.d (.int 0)),(dX,.d .none),(ed,.d .none)]]):=λf=>iY (by simp) rfl;have h7:∀f:Unit->M Fl,setO dM (.inst A.length) (.d .none) f (A++[.obj [(d9,.ref j),(ii,.d (.int 0)),(gb,.d (.int 0)),(iu,.d (.int 0)),(dX,.d .none),(ed,.d .none)]])=f () (A++[.obj [(d9,.ref j),(ii,.d (.int 0)),(gb,.d (.int 0)),(iu,.d (.int 0)),(dX,.d .none),(ed,.d .none),(dM,.d .none)]]):=λf=>iY (by simp) rfl
 have h8:∀f:Unit->M Fl,setO dY (.inst A.length) (.d .none) f (A++[.obj [(d9,.ref j),(ii,.d (.int 0)),(gb,.d (.int 0)),(iu,.d (.int 0)),(dX,.d .none),(ed,.d .none),(dM,.d .none)]])=f () (A++[.obj [(d9,.ref j),(ii,.d (.int 0)),(gb,.d (.int 0)),(iu,.d (.int 0)),(dX,.d .none),(ed,.d .none),(dM,.d .none),(dY,.d .none)]]):=λf=>iY (by simp) rfl;have h9:∀f:Unit->M Fl,setO dH (.inst A.length) (.d .none) f (A++[.obj [(d9,.ref j),(ii,.d (.int 0)),(gb,.d (.int 0)),(iu,.d (.int 0)),(dX,.d .none),(ed,.d .none),(dM,.d .none),(dY,.d .none)]])=f () (A++[.obj [(d9,.ref j),(ii,.d (.int 0)),(gb,.d (.int 0)),(iu,.d (.int 0)),(dX,.d .none),(ed,.d .none),(dM,.d .none),(dY,.d .none),(dH,.d .none)]]):=λf=>iY (by simp) rfl
 have h10:∀f:Unit->M Fl,setO eO (.inst A.length) (.d .none) f (A++[.obj [(d9,.ref j),(ii,.d (.int 0)),(gb,.d (.int 0)),(iu,.d (.int 0)),(dX,.d .none),(ed,.d .none),(dM,.d .none),(dY,.d .none),(dH,.d .none)]])=f () (A++[.obj [(d9,.ref j),(ii,.d (.int 0)),(gb,.d (.int 0)),(iu,.d (.int 0)),(dX,.d .none),(ed,.d .none),(dM,.d .none),(dY,.d .none),(dH,.d .none),(eO,.d .none)]]):=λf=>iY (by simp) rfl;have h11:∀f:Unit->M Fl,setO eB (.inst A.length) (.d .none) f (A++[.obj [(d9,.ref j),(ii,.d (.int 0)),(gb,.d (.int 0)),(iu,.d (.int 0)),(dX,.d .none),(ed,.d .none),(dM,.d .none),(dY,.d .none),(dH,.d .none),(eO,.d .none)]])=f () (A++[.obj [(d9,.ref j),(ii,.d (.int 0)),(gb,.d (.int 0)),(iu,.d (.int 0)),(dX,.d .none),(ed,.d .none),(dM,.d .none),(dY,.d .none),(dH,.d .none),(eO,.d .none),(eB,.d .none)]]):=λf=>iY (by simp) rfl
 have h12:∀f:Unit->M Fl,setO fQ (.inst A.length) (.d .none) f (A++[.obj [(d9,.ref j),(ii,.d (.int 0)),(gb,.d (.int 0)),(iu,.d (.int 0)),(dX,.d .none),(ed,.d .none),(dM,.d .none),(dY,.d .none),(dH,.d .none),(eO,.d .none),(eB,.d .none)]])=f () (A++[.obj [(d9,.ref j),(ii,.d (.int 0)),(gb,.d (.int 0)),(iu,.d (.int 0)),(dX,.d .none),(ed,.d .none),(dM,.d .none),(dY,.d .none),(dH,.d .none),(eO,.d .none),(eB,.d .none),(fQ,.d .none)]]):=λf=>iY (by simp) rfl;have h13:∀f:Unit->M Fl,setO gF (.inst A.length) (.d .none) f (A++[.obj [(d9,.ref j),(ii,.d (.int 0)),(gb,.d (.int 0)),(iu,.d (.int 0)),(dX,.d .none),(ed,.d .none),(dM,.d .none),(dY,.d .none),(dH,.d .none),(eO,.d .none),(eB,.d .none),(fQ,.d .none)]])=f () (A++[.obj [(d9,.ref j),(ii,.d (.int 0)),(gb,.d (.int 0)),(iu,.d (.int 0)),(dX,.d .none),(ed,.d .none),(dM,.d .none),(dY,.d .none),(dH,.d .none),(eO,.d .none),(eB,.d .none),(fQ,.d .none),(gF,.d .none)]]):=λf=>iY (by simp) rfl
 have h14:∀f:Unit->M Fl,setO jd (.inst A.length) (.d .none) f (A++[.obj [(d9,.ref j),(ii,.d (.int 0)),(gb,.d (.int 0)),(iu,.d (.int 0)),(dX,.d .none),(ed,.d .none),(dM,.d .none),(dY,.d .none),(dH,.d .none),(eO,.d .none),(eB,.d .none),(fQ,.d .none),(gF,.d .none)]])=f () (A++[.obj [(d9,.ref j),(ii,.d (.int 0)),(gb,.d (.int 0)),(iu,.d (.int 0)),(dX,.d .none),(ed,.d .none),(dM,.d .none),(dY,.d .none),(dH,.d .none),(eO,.d .none),(eB,.d .none),(fQ,.d .none),(gF,.d .none),(jd,.d .none)]]):=λf=>iY (by simp) rfl;have h15:∀f:Unit->M Fl,setO oV (.inst A.length) (.d .none) f (A++[.obj [(d9,.ref j),(ii,.d (.int 0)),(gb,.d (.int 0)),(iu,.d (.int 0)),(dX,.d .none),(ed,.d .none),(dM,.d .none),(dY,.d .none),(dH,.d .none),(eO,.d .none),(eB,.d .none),(fQ,.d .none),(gF,.d .none),(jd,.d .none)]])=f () (A++[.obj [(d9,.ref j),(ii,.d (.int 0)),(gb,.d (.int 0)),(iu,.d (.int 0)),(dX,.d .none),(ed,.d .none),(dM,.d .none),(dY,.d .none),(dH,.d .none),(eO,.d .none),(eB,.d .none),(fQ,.d .none),(gF,.d .none),(jd,.d .none),(oV,.d .none)]]):=λf=>iY (by simp) rfl
 have h:(CN W (m+1)).c io [.inst A.length,.ref j] (A++[.obj []])=some (.ok (.d .none),A++[i9 j 0 0]):=by rw[xb];refine Ac rfl ?_ (by simp);exact d8 xR λr=>r (px h1) (px h2) (px h3) (px h4) (px h5) (px h6) (px h7) (px h8) (px h9) (px h10) (px h11) (px h12) (px h13) (px h14) (px h15) ⟨⟩
 simp only[EZ,h]
theorem Lj(j a ae L:Nat)(h:j<L):(i9 j a ae).below L=true:=by simp[i9,MO.below,PV.below,h]
theorem Cl.app{A:List MO}(h:Cl A){x:MO}(hx:x.below (A.length+1)=true):Cl (A++[x]):=by
 unfold Cl at h ⊢;rw[fu]at h ⊢;intro o ho;rw[eF]at ho;rw[dI];rcases ho with q|q
 ·exact MO.below_mono (by simp) (h o q)
 ·simp only[ff]at q;subst q;exact hx
def Pf(W:Nat)(ah:List Tk):D:=match ng (pB W 24) W ah with
 |some (t,[])=>dy t
 |_=> .none
theorem JK(g:rU ah)(ho:ops ah<=56)(hW:500<=W)(hn:340<=n)(hj:σ[j]? =some (.list (ah.map Tk.d)))(ne:ah≠[])(hs:ah.length<500)(ok:ah.all Tk.ok=true)(hc:Cl σ):(CN W n).c iI [.ref j] σ=some (.ok (.d (Pf W ah)),σ):=by
 obtain⟨m,rfl⟩:∃m,n=m+1:=⟨n -1,by exact dp hn rfl⟩;have hlt:=(ek.mp hj).1;have p:PS (σ++[i9 j 0 0]) σ.length j ah 0 0:=⟨by simp,by rw[fH hlt];exact hj,ne,hs,ok,by exact(pQ:Pn [] (.t (.k 0) (.k 1000)) []),hc.app (Lj _ _ _ _ ((ie (.t A0 (.a A1 K1)) [.t A0 A1]) hlt))⟩;have h1:=UJ (W:=W) (n:=m) (j:=j) σ (dl hn rfl);have h2:=UI (k:=σ.length) (j:=j) (n:=m) g ho hW (dl hn rfl) _ 0 p ((lE (.l (.k 0) A0) [.t A0 (.k 500)]) hs);rw[List.drop_zero]at h2;rw[DX];unfold Pf;have hset:∀a' n',(σ++[i9 j 0 0]).set σ.length (i9 j a' n')=σ++[i9 j a' n']:=by intro a' n';simp
 refine h2.elim (λt l a' e1 e2 e3 e4=> ?_) λe1 a' n' e4=> ?_
 ·rw[e1];rw[hset]at e4;have p':=p.move (nest':=0) (a':=a') (p.lt e2);rw[hset]at p';have h3:=p'.at_;have h4:dW (σ++[i9 j a' 0]) (.ref j)=some (ah.map Tk.d):=by simp only[dW,p'.hj]
  have hlen:(ah.map Tk.d).length=ah.length:=by simp
  have hl2:ah.length<1099511627776:=(ie (.t A0 (.k 1099511627776)) [.t A0 (.k 500),.e A1 A0]) hs hlen;cases l with
  |nil=>
   have:a'=ah.length:=by have:=dN List.length e3;simp at this;exact(kI (.e A0 A1) [.l A0 A1,.e A2 A1,.e (.s A1 A0) (.k 0)]) e2 hlen this
   subst this;have ei:l5 (.int (ah.length:Nat)) (.int (ah.length:Nat))=some true:=by show some (_ == _)=_;simp
   refine gH (σ₁:=σ) (junk:=[i9 j ah.length 0]) rfl ?_ rfl rfl hc;have hcm:ir .Eq (.d (.int (ah.length:Nat))) (.d (.int ((ah.map Tk.d).length:Nat))) (σ++[i9 j ah.length 0])=some (.ok true,σ++[i9 j ah.length 0]):=by rw[hlen];exact fJ ei
   exact d8 tK λr=>r h1 (Sr (fX rfl λr=>r e4 ⟨⟩)) (nj h3) (za h4 (by rw[hlen];exact hl2)) hcm ⟨⟩
  |cons x l=>
   have:a'<ah.length:=by have:=dN List.length e3;simp at this;exact(lx (.t A0 A1) [.l A0 A1,.e A2 A1,.e (.s A1 A0) (.a A3 K1)]) e2 hlen this
   have ei:l5 (.int (a':Nat)) (.int (ah.length:Nat))=some false:=by show some (_ == _)=_;simp;exact(kI (.n (.E (.c A2) (.c A1))) [.e A0 A1,.t A2 A1]) hlen this
   refine gH (σ₁:=σ) (junk:=[i9 j a' 0]) rfl ?_ rfl rfl hc;have hcm:ir .Eq (.d (.int (a':Nat))) (.d (.int ((ah.map Tk.d).length:Nat))) (σ++[i9 j a' 0])=some (.ok false,σ++[i9 j a' 0]):=by rw[hlen];exact fJ ei
   exact d8 tK λr=>r h1 (Sr (fX rfl λr=>r e4 ⟨⟩)) (nj h3) (za h4 (by rw[hlen];exact hl2)) hcm ⟨⟩
 ·rw[e1];rw[hset]at e4;refine gH (σ₁:=σ) (junk:=[i9 j a' n']) rfl ?_ rfl rfl hc;exact d8 tK λr=>r h1 (WJ (fX rfl λr=>r e4 ⟨⟩)) ⟨⟩
end
section
variable{W:Nat}
def Wd.nm:Wd->List Nat
 | .leaf=>jW
 | .high=>iv
 | .scaled=>jj
 | .added=>vN
 | .sign=>zf
 | .met=>qU
 | .lg w=>w
theorem j7(h:w ∈ sN):w ∈ qb\/w ∈ oK\/w ∈ m7\/w=f8\/w=iH\/w=gf\/w=gC:=by
 simp only[sN,eF,dj,dJ,dK]at h;rcases h with((h|h)|h)|h
 ·exact .inl h
 ·exact .inr (.inl h)
 ·exact .inr (.inr (.inl h))
 ·exact .inr (.inr (.inr h))
theorem ui{kvs:List (List Nat×PV)}{m:M Fl}(hd:lW (σ++[MO.dict kvs]) (.ref σ.length)=some kvs)(w:List Nat)(e:i6 m σ=i6 (eJ (yQ (.ref σ.length) (ret (.d (.str w))) (ret (.d (.str w))))) (σ++[.dict kvs])):i6 m σ=some (.ok ((mx w kvs).getD (.d (.str w))),σ++[.dict kvs]):=by rw[e];simp[i6,bnd,yQ,CK,hd,ret,Ms]
theorem JL(h:WF t)(hc:Cl σ)(hn:1<=n):(CN W n).c eX [.d (dy t)] σ=some (.ok (.d (.str (wd t).nm)),σ):=by
 obtain⟨m,rfl⟩:∃m,n=m+1:=⟨n -1,by exact dp hn rfl⟩;rw[Gb]
 match t,h with
 | .name s,_=>exact dk rfl rfl rfl
 | .num i,_=>exact dk rfl rfl rfl
 | .un w t,h=>
  have h1:=h.1;simp only[Bu,dj,dJ,dK]at h1;rcases h1 with rfl|rfl|rfl|rfl<;>exact dk rfl rfl rfl
 | .sc w a b,h=>
  rcases h.1 with rfl|rfl<;>exact dk rfl rfl rfl
 | .mem w t (.rng a b),h=>
  rcases h.1 with rfl|rfl<;>exact dk rfl rfl rfl
 | .bin w a b,h=>
  rcases j7 h.1 with q|q|q|q|q|q|q
  ·simp only[qb,dj,dJ,dK]at q;rcases q with rfl|rfl|rfl<;>exact dk rfl rfl rfl
  ·simp only[oK,dj,dJ,dK]at q;rcases q with rfl|rfl|rfl|rfl<;>exact dk rfl rfl rfl
  ·simp only[m7,dj,dJ,dK]at q;rcases q with rfl|rfl|rfl|rfl|rfl|rfl<;>exact dk rfl rfl rfl
  all_goals (subst q;have hd:lW (σ++[MO.dict [(gC,.d (.str iv))]]) (.ref σ.length)=some [(gC,.d (.str iv))]:=(by simp[lW]))
  ·exact gH (σ₁:=σ) (junk:=[.dict [(gC,.d (.str iv))]]) rfl ((ui hd f8 (by rfl)).trans rfl) rfl rfl hc
  ·exact gH (σ₁:=σ) (junk:=[.dict [(gC,.d (.str iv))]]) rfl ((ui hd iH (by rfl)).trans rfl) rfl rfl hc
  ·exact gH (σ₁:=σ) (junk:=[.dict [(gC,.d (.str iv))]]) rfl ((ui hd gf (by rfl)).trans rfl) rfl rfl hc
  ·exact gH (σ₁:=σ) (junk:=[.dict [(gC,.d (.str iv))]]) rfl ((ui hd gC (by rfl)).trans rfl) rfl rfl hc
theorem Ce(h:WF t):wd t= .leaf\/wd t= .high\/wd t= .scaled\/wd t= .added\/wd t= .sign\/wd t= .met\/wd t= .lg f8\/wd t= .lg iH\/wd t= .lg gf\/wd t= .lg eA\/wd t= .lg fg:=by
 match t,h with
 | .name s,_=>exact .inl rfl
 | .num i,_=>exact .inl rfl
 | .un w t,h=>
  rw[oM];split
  ·exact .inr (.inr (.inr (.inr (.inl rfl))))
  ·exact .inr (.inl rfl)
 | .sc w a b,h=>
  rcases h.1 with rfl|rfl
  ·exact .inr (.inr (.inr (.inr (.inr (.inr (.inr (.inr (.inr (.inl rfl)))))))))
  ·exact .inr (.inr (.inr (.inr (.inr (.inr (.inr (.inr (.inr (.inr rfl)))))))))
 | .mem w t (.rng a b),h=>exact .inr (.inr (.inr (.inr (.inr (.inl rfl)))))
 | .bin w a b,h=>
  rw[nw];rcases j7 h.1 with q|q|q|q|q|q|q
  ·rw[ua q];simp
  ·rw[rg q];simp
  ·rw[ub q];simp
  ·subst q;exact .inr (.inr (.inr (.inr (.inr (.inr (.inl rfl))))))
  ·subst q;exact .inr (.inr (.inr (.inr (.inr (.inr (.inr (.inl rfl)))))))
  ·subst q;exact .inr (.inr (.inr (.inr (.inr (.inr (.inr (.inr (.inl rfl))))))))
  ·subst q;exact .inr (.inl rfl)
theorem Lk(σ:List MO)(l:List D):dW (σ++[.list l]) (.ref σ.length)=some l:=by simp[dW]
def fj:List (List Nat):=[jW,iv,jj,vN,zf]
def lr(p:Wd)(side:Nat):List (List (List Nat)):=match p with
 | .high=>[fj,[jW]]
 | .scaled=>[fj,if side=0 then [jW,iv,jj]else [jW,iv]]
 | .sign=>[fj,[jW,iv,jj]]
 | .added=>if side=0 then [fj]else [fj,[jW,iv,jj]]
 | .met=>[fj]
 | .lg w=>if side=0 then [fj,[qU],fj++[qU],[w],fj++[qU]++[w]]else [fj,[qU],fj++[qU],[],fj++[qU]++[]]
 | .leaf=>[]
noncomputable def lZ(l:List (List Nat)):MO:= .list (l.map .str)
theorem Ox{kk:Nat}{m:Lo->M Fl}{more:Nat}{J:List MO}(hk:vs.length=kk)(e:i6 (m (eR vs ds more)) σ=some (.ok (.ref (σ.length+i)),σ++J)):semF kk m ds more vs σ=some (.ok (.ref (σ.length+i)),σ++J):=uh hk e (by simp[PV.below])
theorem QX(h:WF t)(hl:wd t≠.leaf)(hc:Cl σ)(hn:2<=n)(side:Nat)(hs:side=0\/side=1):(CN W n).c fp [.d (dy t),.d (.int side)] σ=some (.ok (.ref (σ.length+((lr (wd t) side).length -1))),σ++(lr (wd t) side).map lZ):=by
 obtain⟨m,rfl⟩:∃m,n=m+1:=⟨n -1,by exact dp hn rfl⟩;rw[Gc];have h1:=JL (W:=W) (n:=m) h hc (dl hn rfl);refine Ox rfl ?_;have hg:=λl:List D=>Lk σ l;rcases Ce h with q|q|q|q|q|q|q|q|q|q|q<;>rw[q]at h1 hl ⊢<;>first|exact absurd rfl hl|skip
 all_goals rcases hs with rfl|rfl
 ·exact pZ iF (λr=>r h1 (oF rfl) (oF rfl) ⟨⟩) (by simp[kF,lr,lZ,fj,Wd.nm,d6])
 ·exact pZ iF (λr=>r h1 (oF rfl) (oF rfl) ⟨⟩) (by simp[kF,lr,lZ,fj,Wd.nm,d6])
 ·exact pZ iF (λr=>r h1 (jU rfl) (oF rfl) (oF rfl) ⟨⟩) (by simp[kF,lr,lZ,fj,Wd.nm,d6])
 ·exact pZ iF (λr=>r h1 (jU rfl) (oF rfl) (jU rfl) ⟨⟩) (by simp[kF,lr,lZ,fj,Wd.nm,d6])
 ·exact pZ iF (λr=>r h1 (jU rfl) (jU rfl) (jU rfl) (oF rfl) (oF rfl) ⟨⟩) (by simp[kF,lr,lZ,fj,Wd.nm,d6])
 ·exact pZ iF (λr=>r h1 (jU rfl) (jU rfl) (jU rfl) (oF rfl) (jU rfl) ⟨⟩) (by simp[kF,lr,lZ,fj,Wd.nm,d6])
 ·exact pZ iF (λr=>r h1 (jU rfl) (jU rfl) (oF rfl) ⟨⟩) (by simp[kF,lr,lZ,fj,Wd.nm,d6])
 ·exact pZ iF (λr=>r h1 (jU rfl) (jU rfl) (oF rfl) ⟨⟩) (by simp[kF,lr,lZ,fj,Wd.nm,d6])
 ·exact pZ iF (λr=>r h1 (jU rfl) (jU rfl) (jU rfl) (jU rfl) (oF rfl) ⟨⟩) (by simp[kF,lr,lZ,fj,Wd.nm,d6])
 ·exact pZ iF (λr=>r h1 (jU rfl) (jU rfl) (jU rfl) (jU rfl) (oF rfl) ⟨⟩) (by simp[kF,lr,lZ,fj,Wd.nm,d6])
 all_goals first|exact pZ iF (λr=>r h1 (jU rfl) (jU rfl) (jU rfl) (jU rfl) (jU rfl) (Jo (vJ (hg _)) (rL _ _) ⟨_,rfl⟩) (oF rfl) (Jo (vJ (rL _ _)) (rL _ _) ⟨_,rfl⟩) ⟨⟩) (by simp[kF,lr,lZ,fj,Wd.nm,d6])|exact pZ iF (λr=>r h1 (jU rfl) (jU rfl) (jU rfl) (jU rfl) (jU rfl) (Jo (vJ (hg _)) (rL _ _) ⟨_,rfl⟩) (jU rfl) (Jo (vJ (rL _ _)) (rL _ _) ⟨_,rfl⟩) ⟨⟩) (by simp[kF,lr,lZ,fj,Wd.nm,d6])
end
section
variable{W:Nat}
def Gy(p:Wd)(side:Nat):List (List Nat):=match p with
 | .high=>[jW]
 | .scaled=>if side=0 then [jW,iv,jj]else [jW,iv]
 | .sign=>[jW,iv,jj]
 | .added=>if side=0 then fj else [jW,iv,jj]
 | .met=>fj
 | .lg w=>if side=0 then fj++[qU]++[w]else fj++[qU]++[]
 | .leaf=>[]
def Aj(p:Wd)(side:Nat)(u:Tr):Nat:=if(Gy p side).any (· ==(wd u).nm)then 0 else 1
theorem It{p:Wd}(hp:p≠.leaf)(side:Nat)(σ:List MO):dW (σ++(lr p side).map lZ) (.ref (σ.length+((lr p side).length -1)))=some ((Gy p side).map .str):=by cases p<;>first|exact absurd rfl hp|(by_cases h:side=0<;>simp[lr,Gy,h,dW,lZ])
theorem Oy(l:List (List Nat)):AD (l.map .str)=true:=by induction l with
 |nil=>rfl
 |cons x l ih=>exact ih
theorem Ll{l:List (List Nat)}(h:dW σ (.ref i)=some (l.map .str))(x:List Nat):gJ σ .NotIn (.d (.str x)) (.ref i)=some (!(l.any (· == x))):=by
 show(AE σ x (.ref i)).map (!·)=_
 have:AE σ x (.ref i)=(dW σ (.ref i)).bind (yM x):=rfl;rw[this,h];simp only[Option.bind,yM,Oy,if_true,Ei,Option.map]
def Iu:List Wd:=[.leaf,.high,.scaled,.added,.sign,.met,.lg f8,.lg iH,.lg gf,.lg eA,.lg fg]
theorem JM(h:WF t):wd t ∈ Iu:=by
 have:=Ce h
 simpa only[Iu,dj,dJ,dK] using this
def fS(p:Wd)(side:Nat)(w:Wd):Nat:=if(Gy p side).any (· == w.nm)then 0 else 1
def fP(n:Nat)(w:Wd):Nat:=if w.lvl<=n then 0 else 1
def fL(x:List Nat)(w:Wd):Nat:=if w.lvl<=4\/w= .lg x then 0 else 1
def fA(c w:Wd):Nat:=match c with
 | .high=>fP 0 w
 | .scaled=>fP 2 w
 | .added=>fP 3 w
 | .met=>fP 3 w
 | .lg x=>fL x w
 |_=>0
def fB(c w:Wd):Nat:=match c with
 | .high=>fP 0 w
 | .scaled=>fP 1 w
 | .added=>fP 2 w
 | .met=>fP 3 w
 | .lg _=>fP 4 w
 |_=>0
theorem Xl(p:Wd)(u:Tr):fA p (wd u)=mP p u:=by cases p<;>rfl
theorem Xm(p:Wd)(u:Tr):fB p (wd u)=kE p u:=by cases p<;>rfl
theorem Oz:∀p ∈ Iu,p= .leaf\/p= .sign\/∀w ∈ Iu,fS p 0 w=fA p w/\fS p 1 w=fB p w:=by decide+kernel
theorem QY:∀x ∈ Bu,∀w ∈ Iu,fS (if x=i8\/x=iR then .sign else .high) 1 w=if x=i8\/x=iR then fP 2 w else fP 0 w:=by decide+kernel
theorem Iv{p:Wd}(hp:p= .high\/p= .scaled\/p= .added\/p= .met\/p= .lg f8\/p= .lg iH\/p= .lg gf\/p= .lg eA\/p= .lg fg){u:Tr}(hu:WF u):Aj p 0 u=mP p u/\Aj p 1 u=kE p u:=by
 rw[<-Xl,<-Xm]
 have hm:p ∈ Iu:=by simp only[Iu,dj,dJ,dK];rcases hp with h|h|h|h|h|h|h|h|h<;>simp only[h,true_or,or_true]
 rcases Oz p hm with h|h|h
 ·subst h;simp at hp
 ·subst h;simp at hp
 ·exact h _ (JM hu)
theorem UK(hw:w ∈ Bu){u:Tr}(hu:WF u):Aj (wd (.un w t)) 1 u=vd w u:=QY w hw _ (JM hu)
def jk(t:Tr)(side:Nat):List MO:=(lr (wd t) side).map lZ
theorem Cl.appJ{A:List MO}(h:Cl A)(J:List (List (List Nat))):Cl (A++J.map lZ):=by
 unfold Cl at h ⊢;rw[fu]at h ⊢;intro o ho;rw[eF]at ho;rw[dI];rcases ho with q|q
 ·exact MO.below_mono (by simp) (h o q)
 ·rw[List.mem_map]at q;refine eN q λl _ ez1=> ?_;clear q;subst ez1;rfl
theorem gI(τ:List MO)(x y:List Nat):gJ τ .Eq (.d (.str x)) (.d (.str y))=some (x == y):=rfl
structure Pen(W n:Nat)(t u:Tr)(side:Nat)(σ:List MO):Prop where
 w:(CN W n).c eX [.d (dy u)] σ=some (.ok (.d (.str (wd u).nm)),σ)
 f:(CN W n).c fp [.d (dy t),.d (.int side)] σ=some (.ok (.ref (σ.length+((lr (wd t) side).length -1))),σ++jk t side)
 c:∃b,gJ (σ++jk t side) .NotIn (.d (.str (wd u).nm)) (.ref (σ.length+((lr (wd t) side).length -1)))=some b/\(if b=true then 1 else 0:Int)=(Aj (wd t) side u:Nat)
theorem En{u:Tr}(ht:WF t)(hl:wd t≠.leaf)(hu:WF u)(hc:Cl σ)(hn:2<=n)(side:Nat)(hs:side=0\/side=1):Pen W n t u side σ:=by refine⟨JL hu hc (dq hn rfl),QX ht hl hc hn side hs,_,Ll (It hl side σ) _,?_⟩;unfold Aj;cases(Gy (wd t) side).any (· ==(wd u).nm)<;>rfl
theorem OA:wd (.un w t)≠.leaf:=by rw[oM];split<;>intro h<;>cases h
theorem Ak{a b:Tr}(h:w ∈ sN):cls w= .high\/cls w= .scaled\/cls w= .added\/cls w= .met\/cls w= .lg f8\/cls w= .lg iH\/cls w= .lg gf\/cls w= .lg eA\/cls w= .lg fg:=by
 rcases j7 h with q|q|q|q|q|q|q
 ·rw[ua q];simp
 ·rw[rg q];simp
 ·rw[ub q];simp
 ·subst q;exact .inr (.inr (.inr (.inr (.inl rfl))))
 ·subst q;exact .inr (.inr (.inr (.inr (.inr (.inl rfl)))))
 ·subst q;exact .inr (.inr (.inr (.inr (.inr (.inr (.inl rfl))))))
 ·subst q;exact .inl rfl
theorem JN{a b:Tr}{x y:Nat}(ht:WF t)(hl:wd t≠.leaf)(wa:WF a)(wb:WF b)(hc:Cl σ)(hn:2<=n)(g0:(By t == lH)=false)
  (g1:∀τ,gJ τ .In (.d (.str (By t))) (.d (.tup [.str fk,.str ic]))=some false)(g2:∀τ,gJ τ .In (.d (.str (By t))) (.d (.tup [.str fY,.str fM]))=some false)
  (e2:∀τ,gZ τ (.d (dy t)) (.d (.int (-2)))=some (.d (dy a)))(e1:∀τ,gZ τ (.d (dy t)) (.d (.int (-1)))=some (.d (dy b)))
  (hA:Aj (wd t) 0 a=x)(hB:Aj (wd t) 1 b=y)
  (da:∀τ,Cl τ->(CN W n).c eQ [.d (dy a)] τ=some (.ok (.d (.int (gs a))),τ))(db:∀τ,Cl τ->(CN W n).c eQ [.d (dy b)] τ=some (.ok (.d (.int (gs b))),τ)):
  ∃J,i6 (nv (CN W n).c (CN W n).f (CN W n).r W (eR [.d (dy t)] [] 4)) σ=some (.ok (.d (.int ((gs a+x+(gs b+y):Nat)))),σ++J):=by
 obtain⟨aw,af,c1,ab,av⟩:=En (W:=W) (n:=n) ht hl wa hc hn 0 (.inl rfl);have hc1:Cl (σ++jk t 0):=hc.appJ _;obtain⟨bw,bf,c2,bb,bv⟩:=En (W:=W) (n:=n) ht hl wb hc1 hn 1 (.inr rfl);rw[hA]at av;rw[hB]at bv;have h1:=da σ hc;have h2:=db _ hc1;have s0:=o5 σ t;have g0':∀τ:List MO,gJ τ .Eq (.d (.str (By t))) (.d (.str lH))=some false:=λτ=>by rw[gI,g0]
 refine⟨jk t 0++jk t 1,?_⟩;generalize (lr (wd t) 0).length -1=i1 at af ab;generalize (lr (wd t) 1).length -1=i2 at bf bb;generalize hJ1:jk t 0=J1 at *;generalize hJ2:jk t 1=J2 at *;have hval:(gs a:Int)+(if c1=true then 1 else 0)+gs b+(if c2=true then 1 else 0)=((gs a+x+(gs b+y):Nat):Int):=by rw[av,bv];push_cast;exact(lx (.E (.a (.a (.a (.c A0) (.c A1)) (.c A2)) (.c A3)) (.a (.a (.c A0) (.c A1)) (.a (.c A2) (.c A3)))) [])
 rw[<-hval];simp at af bf bb;exact d8 w9 λr=>r (dC s0) (mT g0) (dC s0) (ig (g1 _)) (dC s0) (ig (g2 _)) (dC (e2 _)) (dC (e1 _)) h1 aw af (ig ab) rfl rfl h2 rfl bw bf (ig bb) rfl rfl ⟨⟩
def dB(C:Addr->List PV->M PV)(aa:Lo):M Fl:=(sp aa 3 .Add (d7 .Add (cM (C eQ) [(cG aa 4)]) (cM xP [(yZ .NotIn (cM (C eX) [(cG aa 4)]) (cM (C fp) [(cG aa 0),(cY 0)]))])))
def Zh(C:Addr->List PV->M PV)(aa:Lo):Cm Fl:=(oD aa 3 .Add (dT .Add (cI (C eQ) [(cF aa 4)]) (cI xP [(pi .NotIn (cI (C eX) [(cF aa 4)]) (cI (C fp) [(cF aa 0),(cL 0)]))])))
theorem Zi:dB C aa=fG (Zh C aa):=rfl
theorem Am{u:Tr}{x:Nat}{τ:List MO}(ht:WF t)(hl:wd t≠.leaf)(wu:WF u)(hc:Cl τ)(hn:2<=n)(hx:Aj (wd t) 0 u=x)(du:∀τ,Cl τ->(CN W n).c eQ [.d (dy u)] τ=some (.ok (.d (.int (gs u))),τ)):
  dB (CN W n).c [some (.d (dy t)),none,none,some (.d (.int c)),some (.d (dy u))] τ=some (.ok (.nxt [some (.d (dy t)),none,none,some (.d (.int ((c+(gs u+x):Nat)))),some (.d (dy u))]),τ++jk t 0):=by
 obtain⟨aw,af,c1,ab,av⟩:=En (W:=W) (n:=n) ht hl wu hc hn 0 (.inl rfl);rw[hx]at av;have h1:=du τ hc;generalize (lr (wd t) 0).length -1=i1 at af ab;generalize hJ1:jk t 0=J1 at *;have hval:(c:Int)+(gs u+(if c1=true then 1 else 0))=((c+(gs u+x):Nat):Int):=by rw[av];push_cast;exact(kI (.E (.a (.c A0) (.a (.c A1) (.c A2))) (.a (.c A0) (.a (.c A1) (.c A2)))) [])
 rw[<-hval];simp at af ab;exact fX Zi λr=>r h1 aw af (ig ab) rfl rfl rfl ⟨⟩
theorem Lm{p q r:Tr}{x y z:Nat}(ht:WF t)(hl:wd t≠.leaf)(wp:WF p)(wq:WF q)(wr:WF r)(hc:Cl σ)(hn:2<=n)(hW:4<=W)(g0:(By t == lH)=false)
  (g1:∀τ,gJ τ .In (.d (.str (By t))) (.d (.tup [.str fk,.str ic]))=some false)(g2:∀τ,gJ τ .In (.d (.str (By t))) (.d (.tup [.str fY,.str fM]))=some true)
  (e1:∀τ,gZ τ (.d (dy t)) (.d (.int 1))=some (.d (dy p)))(e2:∀τ,gZ τ (.d (dy t)) (.d (.int 2))=some (.d (.tup [.str fD,dy q,dy r])))
  (hA:Aj (wd t) 0 p=x)(hB:Aj (wd t) 0 q=y)(hC:Aj (wd t) 0 r=z)
  (du:∀u,u=p\/u=q\/u=r->∀τ,Cl τ->(CN W n).c eQ [.d (dy u)] τ=some (.ok (.d (.int (gs u))),τ)):
  ∃J,i6 (nv (CN W n).c (CN W n).f (CN W n).r W (eR [.d (dy t)] [] 4)) σ=some (.ok (.d (.int ((((0+(gs p+x))+(gs q+y))+(gs r+z):Nat)))),σ++J):=by
 obtain⟨W',rfl⟩:∃w,W=w+4:=⟨W -4,by exact dp hW rfl⟩;have s0:=o5 σ t;have g0':∀τ:List MO,gJ τ .Eq (.d (.str (By t))) (.d (.str lH))=some false:=λτ=>by rw[gI,g0]
 have q1:∀τ:List MO,gZ τ (.d (.tup [.str fD,dy q,dy r])) (.d (.int 1))=some (.d (dy q)):=λ_=>rfl;have q2:∀τ:List MO,gZ τ (.d (.tup [.str fD,dy q,dy r])) (.d (.int 2))=some (.d (dy r)):=λ_=>rfl;have hc0:Cl (σ++[.list [dy p,dy q,dy r]]):=hc.app rfl;have hc1:Cl (σ++[.list [dy p,dy q,dy r]]++jk t 0):=hc0.appJ _;have hc2:Cl (σ++[.list [dy p,dy q,dy r]]++jk t 0++jk t 0):=hc1.appJ _;have b1:=Am (W:=W'+4) (n:=n) (c:=0) ht hl wp hc0 hn hA (du p (.inl rfl));have b2:=Am (W:=W'+4) (n:=n) (c:=0+(gs p+x)) ht hl wq hc1 hn hB (du q (.inr (.inl rfl)));have b3:=Am (W:=W'+4) (n:=n) (c:=0+(gs p+x)+(gs q+y)) ht hl wr hc2 hn hC (du r (.inr (.inr rfl)))
 generalize hJ1:jk t 0=J1 at *
 have nx:∀K i,uR (.ref σ.length) i (σ++ .list [dy p,dy q,dy r]::K)=some (([dy p,dy q,dy r][i]?).map .d):=by
  intro K i;have:dW (σ++ .list [dy p,dy q,dy r]::K) (.ref σ.length)=some [dy p,dy q,dy r]:=by simp[dW]
  simp[uR,this]
 refine⟨.list [dy p,dy q,dy r]::(J1++(J1++J1)),?_⟩;have b1':dB (CN (W'+4) n).c [some (.d (dy t)),none,none,some (.d (.int 0)),some (.d (dy p))] (σ++[.list [dy p,dy q,dy r]])=_:=b1;generalize 0+(gs p+x)=c1 at b1' b2 b3 ⊢;generalize c1+(gs q+y)=c2 at b2 b3 ⊢;generalize c2+(gs r+z)=c3 at b3 ⊢
 have L:kM (uR (.ref σ.length)) (qP 4) (dB (CN (W'+4) n).c) (W'+4) 0 [some (.d (dy t)),none,none,some (.d (.int 0)),none] (σ++[.list [dy p,dy q,dy r]])=some (.ok (.nxt [some (.d (dy t)),none,none,some (.d (.int c3)),some (.d (dy r))]),σ++ .list [dy p,dy q,dy r]::(J1++(J1++J1))):=by simp only[d6,List.singleton_append,mj,qe]at b1' b2 b3;simp[bnd,kM,nx,qP,rH,b1',b2,b3,ret]
 have hd:dB (CN (W'+4) n).c=λaa=>(sp aa 3 .Add (d7 .Add (cM ((CN (W'+4) n).c eQ) [(cG aa 4)]) (cM xP [(yZ .NotIn (cM ((CN (W'+4) n).c eX) [(cG aa 4)]) (cM ((CN (W'+4) n).c fp) [(cG aa 0),(cY 0)]))]))):=rfl;rw[hd]at L;exact d8 w9 λr=>r (dC s0) (mT g0) (dC s0) (ig (g1 _)) (dC s0) (ig (g2 _)) (dC (e1 _)) (dC (e2 _)) (dC (q1 _)) (dC (e2 _)) (dC (q2 _)) L ⟨⟩
theorem wv(t:Tr)(h:WF t):∀(σ:List MO)(n:Nat),Cl σ->ht t+3<=n->4<=W->(CN W n).c eQ [.d (dy t)] σ=some (.ok (.d (.int (gs t))),σ):=by
 intro σ n hc hn hW;obtain⟨m,rfl⟩:∃m,n=m+1:=⟨n -1,by exact(ie (.e A1 (.a (.s A1 K1) K1)) [.l (.a A0 (.k 3)) A1]) hn⟩;rw[H8]
 match t,h with
 | .name s,_=>exact dk rfl rfl rfl
 | .num i,_=>exact dk rfl rfl rfl
 | .un w t,h=>
  simp only[ht]at hn;have h1:=wv t h.2 σ m hc ((ie (.l (.a A0 (.k 3)) A1) [.l (.a (.a A0 K1) (.k 3)) (.a A1 K1)]) hn) hW;obtain⟨hw,hf,b,hb,hv⟩:=En (W:=W) (n:=m) h OA h.2 hc ((ie (.l (.k 2) A1) [.l (.a (.a A0 K1) (.k 3)) (.a A1 K1)]) hn) 1 (.inr rfl);rw[UK h.1 h.2]at hv;refine gH (σ₁:=σ) (junk:=jk (.un w t) 1) rfl ?_ rfl rfl hc;have e0:l5 (.str lH) (.str lH)=some true:=rfl;have s0:gZ σ (.d (dy (.un w t))) (.d (.int 0))=some (.d (.str lH)):=rfl;have s2:gZ σ (.d (dy (.un w t))) (.d (.int 2))=some (.d (dy t)):=rfl;simp at hf;exact pZ w9 (λr=>r (dC s0) (fJ e0) (dC s2) h1 (dC s2) hw hf (ig hb) rfl rfl ⟨⟩) (by cases b<;>simp at hv<;>simp[gs,<-hv,kF])
 | .sc w a b,h=>
  simp only[ht]at hn;have hl:wd (.sc w a b)≠.leaf:=by intro z;cases z
  have hp:=λu(hu:WF u)=>Iv (p:= .lg w) (by rcases h.1 with q|q<;>simp[q]) hu
  refine oE (JN (t:= .sc w a b) (σ:=σ) (W:=W) (n:=m) h hl h.2.1 h.2.2 hc (RG hn) (by rcases h.1 with rfl|rfl<;>rfl) (by rcases h.1 with rfl|rfl<;>exactλ_=>rfl) (by rcases h.1 with rfl|rfl<;>exactλ_=>rfl) (λ_=>rfl) (λ_=>rfl) (hp a h.2.1).1 (hp b h.2.2).2 (λτ hτ=>wv a h.2.1 τ m hτ (RF hn) hW) (λτ hτ=>wv b h.2.2 τ m hτ (RE hn) hW)) λJ e=> ?_
  exact gH rfl e rfl rfl hc
 | .bin w a b,h=>
  simp only[ht]at hn;have hm:=Ak (a:=a) (b:=b) h.1;have hl:wd (.bin w a b)≠.leaf:=by rw[nw];rcases hm with q|q|q|q|q|q|q|q|q<;>rw[q]<;>intro z<;>cases z
  have hp:=λu(hu:WF u)=>Iv (p:=cls w) hm hu;refine oE (JN (t:= .bin w a b) (σ:=σ) (W:=W) (n:=m) h hl h.2.1 h.2.2 hc (RG hn) rfl (λ_=>rfl) (λ_=>rfl) (λ_=>rfl) (λ_=>rfl) (hp a h.2.1).1 (hp b h.2.2).2 (λτ hτ=>wv a h.2.1 τ m hτ (RF hn) hW) (λτ hτ=>wv b h.2.2 τ m hτ (RE hn) hW)) λJ e=> ?_;exact gH rfl e rfl rfl hc
 | .mem w t (.rng a b),h=>
  simp only[ht]at hn;have hl:wd (.mem w t (.rng a b))≠.leaf:=by intro z;cases z
  have hp:=λu(hu:WF u)=>(Iv (p:= .met) (by simp) hu).1
  refine oE (Lm (t:= .mem w t (.rng a b)) (σ:=σ) (W:=W) (n:=m) h hl h.2.1 h.2.2.1 h.2.2.2 hc ((lx (.l (.k 2) A3) [.l (.a (.a (.ma A0 (.a (.ma A1 A2) K1)) K1) (.k 3)) (.a A3 K1)]) hn) hW (by rcases h.1 with rfl|rfl<;>rfl) (by rcases h.1 with rfl|rfl<;>exactλ_=>rfl) (by rcases h.1 with rfl|rfl<;>exactλ_=>rfl) (λ_=>rfl) (λ_=>rfl) (hp t h.2.1) (hp a h.2.2.1) (hp b h.2.2.2) (by
   rintro u (rfl|rfl|rfl) τ hτ
   ·exact wv u h.2.1 τ m hτ ((lx (.l (.a A0 (.k 3)) A3) [.l (.a (.a (.ma A0 (.a (.ma A1 A2) K1)) K1) (.k 3)) (.a A3 K1)]) hn) hW
   ·exact wv u h.2.2.1 τ m hτ ((lx (.l (.a A1 (.k 3)) A3) [.l (.a (.a (.ma A0 (.a (.ma A1 A2) K1)) K1) (.k 3)) (.a A3 K1)]) hn) hW
   ·exact wv u h.2.2.2 τ m hτ ((lx (.l (.a A2 (.k 3)) A3) [.l (.a (.a (.ma A0 (.a (.ma A1 A2) K1)) K1) (.k 3)) (.a A3 K1)]) hn) hW)) λJ e=> ?_
  have hv:(((0+(gs t+mP .met t))+(gs a+mP .met a))+(gs b+mP .met b):Nat)=gs (.mem w t (.rng a b)):=by have:∀u,mP .met u=ew 3 u:=λ_=>rfl;simp only[gs,this];exact(Kf (.e (.a (.a (.a (.k 0) (.a A0 A1)) (.a A2 A3)) (.a A4 A5)) (.a (.a A0 A1) (.a (.a A2 A3) (.a A4 A5)))) [])
  rw[hv]at e;exact gH rfl e rfl rfl hc
end
section
variable{W u:Nat}{cells:List Int}{a:Nat}{f:Int}
def sF(c:Nat)(a:Nat)(f:Int):MO:= .dict [(t8,.ref c),(ii,.d (.int a)),(kO,.d (.int f))]
structure yF(σ:List MO)(u c:Nat)(cells:List Int)(a:Nat)(f:Int):Prop where
 hu:σ[u]? =some (sF c a f)
 hc:σ[c]? =some (.list (cells.map .int))
 ne:u≠c
 cl:Cl σ
 len:cells.length<1000
theorem Cl.set{A:List MO}(h:Cl A){i:Nat}{x:MO}(hx:x.below A.length=true):Cl (A.set i x):=by
 unfold Cl at h ⊢;rw[fu]at h ⊢;intro o ho;rw[List.length_set];rcases List.mem_or_eq_of_mem_set ho with q|q
 ·exact h o q
 ·subst q;exact hx
theorem yF.move(U:yF σ u c cells a f)(a':Nat)(f':Int):yF (σ.set u (sF c a' f')) u c cells a' f':=by have h1:=(ek.mp U.hu).1;have h2:=(ek.mp U.hc).1;exact⟨qF h1,by rw[o7 U.ne];exact U.hc,U.ne,U.cl.set (by simp[sF,MO.below,PV.below,h2]),U.len⟩
theorem yF.app(U:yF σ u c cells a f)(J:List (List (List Nat))):yF (σ++J.map lZ) u c cells a f:=by have h1:=(ek.mp U.hu).1;have h2:=(ek.mp U.hc).1;exact⟨by rw[fH h1];exact U.hu,by rw[fH h2];exact U.hc,U.ne,U.cl.appJ J,U.len⟩
theorem yF.at_(U:yF σ u c cells a f):gZ σ (.ref u) (.d (.str ii))=some (.d (.int a)):=by simp only[gZ,lW,U.hu,sF];rfl
theorem yF.fuel(U:yF σ u c cells a f):gZ σ (.ref u) (.d (.str kO))=some (.d (.int f)):=by simp only[gZ,lW,U.hu,sF];rfl
theorem yF.cel(U:yF σ u c cells a f):gZ σ (.ref u) (.d (.str t8))=some (.ref c):=by simp only[gZ,lW,U.hu,sF];rfl
theorem yF.putA(U:yF σ u c cells a f)(a':Nat)(k:Unit->M Fl)(τ:List MO):E2 σ (.ref u) (.d (.str ii)) (.d (.int a')) k τ=k () (σ.set u (sF c a' f)):=by simp only[E2,U.hu,sF];rfl
theorem yF.putF(U:yF σ u c cells a f)(f':Int)(k:Unit->M Fl)(τ:List MO):E2 σ (.ref u) (.d (.str kO)) (.d (.int f')) k τ=k () (σ.set u (sF c a f')):=by simp only[E2,U.hu,sF];rfl
theorem JO(x:Int){m:Nat}(hm:0<m):∃v:Nat,v<m/\x.fmod m=v:=by have h1:0<=x.fmod m:=Int.fmod_nonneg_of_pos x (L4 hm);have h2:x.fmod m<m:=Int.fmod_lt_of_pos x (L4 hm);exact⟨(x.fmod m).toNat,by exact V4 h1 h2,by exact V3 h1⟩
theorem tO(U:yF σ u c cells a f)(many:Nat)(hm:0<many)(ha:a<1000)(hn:1<=n):∃v:Nat,v<many/\(CN W n).c dh [.ref u,.d (.int many)] σ=some (.ok (.d (.int v)),σ.set u (sF c (a+1) f)):=by
 obtain⟨m,rfl⟩:∃m,n=m+1:=⟨n -1,by exact dp hn rfl⟩;rw[xf];have h1:=U.at_;have U':=U.move (a+1) f;have h2:=U'.cel;have h3:dW (σ.set u (sF c (a+1) f)) (.ref c)=some (cells.map .int):=by simp only[dW,U'.hc]
 have hp:=U.putA (a+1);rw[show((a+1:Nat):Int)=(a:Int)+1 by exact VE]at hp;have hlen:=U.len;have hl2:cells.length<1099511627776:=mq hlen rfl;have hm':(0:Int)<(many:Nat):=L4 hm;by_cases q:a<cells.length
 ·refine eN (JO cells[a] hm) λv hv hx=> ?_;refine⟨v,hv,dk rfl ?_ (by simp)⟩;have h5:((a:Int)<((cells.map D.int).length:Nat)):=by rw[f6];exact yJ q
  have h9:sV .Mod (.int cells[a]) (.int (many:Nat))=some (.int v):=(cH hm').trans (by rw[hx]);have hl3:(cells.map D.int).length<2 ^ 40:=by rw[f6];exact hl2
  have h6:gZ (σ.set u (sF c (a+1) f)) (.ref c) (.d (.int a))=some (.d (.int cells[a])):=by have h7:(a:Int).natAbs<2 ^ 40:=V2 ha q;have h8:seqIndex? (a:Int) cells.length=some a:=W6 q;simp only[gZ,cH h7,h3,Option.bind,f6,h8,List.getElem?_map,nQ q,Option.map]
  exact d8 sA λr=>r (dC h1) rfl (hp _ _) (dC h2) (za h3 hl3) (ti h5) (dC h2) (dC h6) (BS h9) ⟨⟩
 ·refine eN (JO (2 *(a:Int) * a+3 * a+3) hm) λv hv hx=> ?_;refine⟨v,hv,dk rfl ?_ (by simp)⟩;have h5:¬((a:Int)<((cells.map D.int).length:Nat)):=by rw[f6];exact I1 q
  have h9:sV .Mod (.int (2 *(a:Int) * a+3 * a+3)) (.int (many:Nat))=some (.int v):=(cH hm').trans (by rw[hx]);have hl3:(cells.map D.int).length<2 ^ 40:=by rw[f6];exact hl2
  have b1:a<1099511627776:=mq ha rfl;have b2:(2 *(a:Int)).natAbs<1099511627776:=V1 ha;have h10:sV .Mult (.int 2) (.int (a:Int))=some (.int (2 * a)):=cH ⟨by decide,b1⟩;have h11:sV .Mult (.int (2 *(a:Int))) (.int (a:Int))=some (.int (2 * a * a)):=cH ⟨b2,b1⟩;have h12:sV .Mult (.int 3) (.int (a:Int))=some (.int (3 * a)):=cH ⟨by decide,b1⟩;exact d8 sA λr=>r (dC h1) rfl (hp _ _) (dC h2) (za h3 hl3) (tj h5) (BS h10) (BS h11) (BS h12) rfl rfl (BS h9) ⟨⟩
end
section
variable{W u:Nat}{cells:List Int}{a:Nat}{f:Int}
noncomputable def LV:Tr->Prop
 | .name s=>s=Sw\/s=Sx\/s=Sy
 | .num i=>i<100
 | .un _ t=>LV t
 | .bin _ a b=>LV a/\LV b
 | .sc _ a b=>LV a/\LV b
 | .mem _ t m=>LV t/\LV m
 | .rng a b=>LV a/\LV b
 | .pn _=>False
noncomputable def DD:Nat->Nat
 | 0=>2
 |k+1=>3 * DD k+2
noncomputable def OO:Nat->Nat
 | 0=>0
 | 1=>3
 |k+2=>2 * OO (k+1)+2
noncomputable def LL:Nat->Nat
 | 0=>1
 |k+1=>3 * LL k+9
theorem UL(k:Nat):3+OO k+2 * OO (k -1)<=OO (k+1):=by
 cases k with
 |zero=>decide
 |succ k=>
  simp only[Nat.add_sub_cancel,OO];cases k with
  |zero=>decide
  |succ k=>simp only[OO];exact(lE (.l (.a (.a (.k 3) (.a (.l 2 A0) (.k 2))) (.l 2 A0)) (.a (.l 2 (.a (.l 2 A0) (.k 2))) (.k 2))) [])
theorem Iw(k:Nat):2+2 * OO k<=OO (k+1):=by
 cases k with
 |zero=>decide
 |succ k=>simp only[OO];exact(lE (.l (.a (.k 2) (.l 2 A0)) (.a (.l 2 A0) (.k 2))) [])
theorem QZ(k:Nat):LL (k -1)<=LL k:=by
 cases k with
 |zero=>decide
 |succ k=>simp only[Nat.add_sub_cancel,LL];exact(lE (.l A0 (.a (.l 3 A0) (.k 9))) [])
theorem Q0(k:Nat):DD (k -1)<=DD k:=by
 cases k with
 |zero=>decide
 |succ k=>simp only[Nat.add_sub_cancel,DD];exact(lE (.l A0 (.a (.l 3 A0) (.k 2))) [])
theorem nK(l m:List Tk):ops (l++m)=ops l+ops m:=by unfold ops;exact List.countP_append
theorem mU(x:Nat)(l:List Tk):ops (brk x l)=ops l:=by
 unfold brk;split
 ·rfl
 ·rw[kn,nK];simp[sE,ops]
theorem qr(x:Nat)(l:List Tk):(brk x l).length<=l.length+2:=by unfold brk;split<;>simp
theorem Ix(x:Tk)(l:List Tk):ops (x::l)<=ops l+1:=by rw[kn];split<;>(first|exact(lE (.l (.a A0 (.k 0)) (.a A0 K1)) [])|exact I2)
structure nh(k:Nat)(t:Tr):Prop where
 wf:WF t
 lv:LV t
 o:ops (tk t)<=OO k
 h:mS t<=k
 l:(tk t).length<=LL k
theorem vo{k:Nat}{s:List Nat}(hs:s=Sw\/s=Sx\/s=Sy):nh k (.name s):=by
 refine⟨trivial,hs,?_,iq _,?_⟩
 ·show ops [Tk.name s]<=_;simp[ops,sE]
 ·cases k<;>simp[tk,LL]
theorem Ln{k:Nat}(hs:i<100):nh k (.num i):=by
 refine⟨trivial,hs,?_,iq _,?_⟩
 ·show ops [Tk.int i]<=_;simp[ops,sE]
 ·cases k<;>simp[tk,LL]
theorem OB{k:Nat}(hw:w ∈ Bu)(h:nh k t):nh (k+1) (.un w t):=by
 have h1:=Iw k;refine⟨⟨hw,h.wf⟩,h.lv,?_,by have:=h.h;exact RH this,?_⟩
 ·have:=Ix (iW w) (brk (vd w t) (tk t));rw[mU]at this;have tz1:=h.o;simp only[tk];exact(lx (.l A2 A1) [.l (.a (.k 2) (.l 2 A0)) A1,.l A2 (.a A3 K1),.l A3 A0]) h1 this tz1
 ·have tz2:=qr (vd w t) (tk t);have:=h.l;simp only[tk,LL,eD];exact(kI (.l (.a A0 K1) (.a (.l 3 A2) (.k 9))) [.l A0 (.a A1 (.k 2)),.l A1 A2]) tz2 this
theorem Lp{k:Nat}{x y:Tr}(hw:w ∈ sN)(hx:nh k x)(hy:nh k y):nh (k+1) (.bin w x y):=by
 have h1:=Iw k;refine⟨⟨hw,hx.wf,hy.wf⟩,⟨hx.lv,hy.lv⟩,?_,by have tz3:=hx.h;have tz4:=hy.h;exact(kI (.l (.a (.ma A0 A2) K1) (.a A1 K1)) [.l A0 A1,.l A2 A1]) tz3 tz4,?_⟩
 ·have:=Ix (iW w) (brk (kE (cls w) y) (tk y));rw[mU]at this;have tz5:=hx.o;have tz6:=hy.o;simp only[tk,nK,mU];exact(BC (.l (.a A4 A2) A1) [.l (.a (.k 2) (.l 2 A0)) A1,.l A2 (.a A3 K1),.l A4 A0,.l A3 A0]) h1 this tz5 tz6
 ·have tz7:=qr (mP (cls w) x) (tk x);have tz8:=qr (kE (cls w) y) (tk y);have tz9:=hx.l;have:=hy.l;simp only[tk,LL,dI,eD];exact(BC (.l (.a A0 (.a A2 K1)) (.a (.l 3 A4) (.k 9))) [.l A0 (.a A1 (.k 2)),.l A2 (.a A3 (.k 2)),.l A1 A4,.l A3 A4]) tz7 tz8 tz9 this
theorem OC{k:Nat}{x y:Tr}(hw:w=eA\/w=fg)(hx:nh k x)(hy:nh k y):nh (k+1) (.sc w x y):=by
 have h1:=Iw k;have h2:ops (z7 w)=2/\(z7 w).length=2:=by unfold z7;split<;>decide
 refine⟨⟨hw,hx.wf,hy.wf⟩,⟨hx.lv,hy.lv⟩,?_,by have tz10:=hx.h;have tz11:=hy.h;exact(kI (.l (.a (.ma A0 A2) K1) (.a A1 K1)) [.l A0 A1,.l A2 A1]) tz10 tz11,?_⟩
 ·have tz12:=hx.o;have tz13:=hy.o;simp only[tk,nK,mU];exact(Kf (.l (.a A4 (.a A2 A5)) A1) [.l (.a (.k 2) (.l 2 A0)) A1,.c (.e A2 (.k 2)) (.e A3 (.k 2)),.l A4 A0,.l A5 A0]) h1 h2 tz12 tz13
 ·have tz14:=qr (km w x) (tk x);have tz15:=qr (ew 4 y) (tk y);have tz16:=hx.l;have:=hy.l;simp only[tk,LL,dI];exact(Kg (.l (.a A2 (.a A1 A4)) (.a (.l 3 A6) (.k 9))) [.c (.e A0 (.k 2)) (.e A1 (.k 2)),.l A2 (.a A3 (.k 2)),.l A4 (.a A5 (.k 2)),.l A3 A6,.l A5 A6]) h2 tz14 tz15 tz16 this
theorem Lq{k:Nat}{x y:Tr}(hw:w=fY\/w=fM)(ht:nh k t)(hx:nh (k -1) x)(hy:nh (k -1) y):nh (k+1) (.mem w t (.rng x y)):=by
 have h1:=UL k;have h2:ops (oq w)<=2/\(oq w).length<=2:=by unfold oq;split<;>decide
 have h3:=QZ k;refine⟨⟨hw,ht.wf,hx.wf,hy.wf⟩,⟨ht.lv,hx.lv,hy.lv⟩,?_,by have tz17:=ht.h;have tz18:=hx.h;have tz19:=hy.h;exact(lx (.l (.a (.ma A0 (.ma A2 A3)) K1) (.a A1 K1)) [.l A0 A1,.l A2 (.s A1 K1),.l A3 (.s A1 K1)]) tz17 tz18 tz19,?_⟩
 ·have:=Ix (.op jD) (brk (ew 3 y) (tk y));rw[mU]at this;have tz20:=ht.o;have tz21:=hx.o;have tz22:=hy.o;simp only[tk,nK,mU];exact(ZZ (.l (.a A7 (.a A3 (.a A8 A5))) A2) [.l (.a (.a (.k 3) A0) (.l 2 A1)) A2,.c (.l A3 (.k 2)) (.l A4 (.k 2)),.l A5 (.a A6 K1),.l A7 A0,.l A8 A1,.l A6 A1]) h1 h2 this tz20 tz21 tz22
 ·have tz23:=qr (ew 3 t) (tk t);have tz24:=qr (ew 3 x) (tk x);have tz25:=qr (ew 3 y) (tk y);have tz26:=ht.l;have tz27:=hx.l;have:=hy.l;simp only[tk,LL,dI,eD];exact(Yr (.l (.a A4 (.a A1 (.a A6 (.a A8 K1)))) (.a (.l 3 A3) (.k 9))) [.c (.l A0 (.k 2)) (.l A1 (.k 2)),.l A2 A3,.l A4 (.a A5 (.k 2)),.l A6 (.a A7 (.k 2)),.l A8 (.a A9 (.k 2)),.l A5 A3,.l A7 A2,.l A9 A2]) h2 h3 tz23 tz24 tz25 tz26 tz27 this
def Cg(W n u c:Nat)(cells:List Int)(k:Nat):Prop:=∀(s:Int)(σ:List MO)(a:Nat)(f:Int),s<=k->yF σ u c cells a f->a+DD k<=900->
 ∃t a' f',nh k t/\a'<=a+DD k/\(CN W n).c dw [.ref u,.d (.int s)] σ=some (.ok (.d (dy t)),σ.set u (sF c a' f'))
def Gz(C:Addr->List PV->M PV)(aa:Lo):M PV:=(E5 (uO [(dz .Gt (cG aa 1) (cY 0)),(dz .Gt (dP (cG aa 0) (cW kO)) (cY 0))]) (cM (C dh) [(cG aa 0),(cY 9)]) (cY 0))
def Q1(C:Addr->List PV->M PV)(aa:Lo):Cm PV:=(sq (jb [(cV .Gt (cF aa 1) (cL 0)),(cV .Gt (dr (cF aa 0) (cK kO)) (cL 0))]) (cI (C dh) [(cF aa 0),(cL 9)]) (cL 0))
theorem Eo:Gz C aa=fG (Q1 C aa):=rfl
def GC(C:Addr->List PV->M PV)(aa:Lo):M Fl:=(dn (eS (dz .Lt (cG aa 2) (cY 2)) (dn (eS (dz .Eq (cM (C dh) [(cG aa 0),(cY 3)]) (cY 2)) (eJ (f7 [(cW ic),(cM (C dh) [(cG aa 0),(cY 100)])])) (dF aa)) λaa=>(eJ (f7 [(cW fk),(s9 [(cW Sw),(cW Sx),(cW Sy)] (cM (C dh) [(cG aa 0),(cY 3)]))]))) (dF aa)) λaa=>(dn (eS (dz .Eq (cG aa 2) (cY 2)) (eJ (f7 [(cW lH),(s9 [(cW iR),(cW ji),(cW gc),(cW i8)] (cM (C dh) [(cG aa 0),(cY 4)])),(cM (C dw) [(cG aa 0),(d7 .Sub (cG aa 1) (cY 1))])])) (dF aa)) λaa=>(dn (eS (dz .Eq (cG aa 2) (cY 8)) (dn (dZ aa 6 (cM (C dw) [(cG aa 0),(d7 .Sub (cG aa 1) (cY 2))])) λaa=>(dn (dZ aa 7 (f7 [(cW fD),(cG aa 6),(cM (C dw) [(cG aa 0),(d7 .Sub (cG aa 1) (cY 2))])])) λaa=>(eJ (f7 [(s9 [(cW fY),(cW fM)] (cM (C dh) [(cG aa 0),(cY 2)])),(cM (C dw) [(cG aa 0),(d7 .Sub (cG aa 1) (cY 1))]),(cG aa 7)])))) (dF aa)) λaa=>(dn (eS (dz .Eq (cG aa 2) (cY 7)) (dn (dZ aa 8 (s9 [(cW eA),(cW fg)] (cM (C dh) [(cG aa 0),(cY 2)]))) λaa=>(dn (dZ aa 5 (cM (C dw) [(cG aa 0),(d7 .Sub (cG aa 1) (cY 1))])) λaa=>(eJ (f7 [(cG aa 8),(cG aa 5),(cM (C dw) [(cG aa 0),(d7 .Sub (cG aa 1) (cY 1))])])))) (dF aa)) λaa=>(dn (dZ aa 3 (s9 [(kN eG),(kN g6),(d7 .Add (kN fE) (m9 [(cW f8),(cW iH),(cW gf)])),(d7 .Add (m9 [(cW gC)]) (kN eG))] (d7 .Sub (cG aa 2) (cY 3)))) λaa=>(dn (dZ aa 4 (dP (cG aa 3) (cM (C dh) [(cG aa 0),(cM jQ [(cG aa 3)])]))) λaa=>(dn (dZ aa 5 (cM (C dw) [(cG aa 0),(d7 .Sub (cG aa 1) (cY 1))])) λaa=>(eJ (f7 [(cW iQ),(cG aa 4),(cG aa 5),(cM (C dw) [(cG aa 0),(d7 .Sub (cG aa 1) (cY 1))])])))))))))
def Q2(C:Addr->List PV->M PV)(aa:Lo):Cm Fl:=(.seq (dm (cV .Lt (cF aa 2) (cL 2)) (.seq (dm (cV .Eq (cI (C dh) [(cF aa 0),(cL 3)]) (cL 2)) (df (eo [(cK ic),(cI (C dh) [(cF aa 0),(cL 100)])])) (cZ aa)) λaa=>(df (eo [(cK fk),(qy [(cK Sw),(cK Sx),(cK Sy)] (cI (C dh) [(cF aa 0),(cL 3)]))]))) (cZ aa)) λaa=>(.seq (dm (cV .Eq (cF aa 2) (cL 2)) (df (eo [(cK lH),(qy [(cK iR),(cK ji),(cK gc),(cK i8)] (cI (C dh) [(cF aa 0),(cL 4)])),(cI (C dw) [(cF aa 0),(dT .Sub (cF aa 1) (cL 1))])])) (cZ aa)) λaa=>(.seq (dm (cV .Eq (cF aa 2) (cL 8)) (.seq (dA aa 6 (cI (C dw) [(cF aa 0),(dT .Sub (cF aa 1) (cL 2))])) λaa=>(.seq (dA aa 7 (eo [(cK fD),(cF aa 6),(cI (C dw) [(cF aa 0),(dT .Sub (cF aa 1) (cL 2))])])) λaa=>(df (eo [(qy [(cK fY),(cK fM)] (cI (C dh) [(cF aa 0),(cL 2)])),(cI (C dw) [(cF aa 0),(dT .Sub (cF aa 1) (cL 1))]),(cF aa 7)])))) (cZ aa)) λaa=>(.seq (dm (cV .Eq (cF aa 2) (cL 7)) (.seq (dA aa 8 (qy [(cK eA),(cK fg)] (cI (C dh) [(cF aa 0),(cL 2)]))) λaa=>(.seq (dA aa 5 (cI (C dw) [(cF aa 0),(dT .Sub (cF aa 1) (cL 1))])) λaa=>(df (eo [(cF aa 8),(cF aa 5),(cI (C dw) [(cF aa 0),(dT .Sub (cF aa 1) (cL 1))])])))) (cZ aa)) λaa=>(.seq (dA aa 3 (qy [(lX eG),(lX g6),(dT .Add (lX fE) (mA [(cK f8),(cK iH),(cK gf)])),(dT .Add (mA [(cK gC)]) (lX eG))] (dT .Sub (cF aa 2) (cL 3)))) λaa=>(.seq (dA aa 4 (dr (cF aa 3) (cI (C dh) [(cF aa 0),(cI jQ [(cF aa 3)])]))) λaa=>(.seq (dA aa 5 (cI (C dw) [(cF aa 0),(dT .Sub (cF aa 1) (cL 1))])) λaa=>(df (eo [(cK iQ),(cF aa 4),(cF aa 5),(cI (C dw) [(cF aa 0),(dT .Sub (cF aa 1) (cL 1))])])))))))))
theorem r5:GC C aa=fG (Q2 C aa):=rfl
theorem Lr(C:Addr->List PV->M PV)(Cf:List PV->M Unit)(Cr:List PV->M PV)(W:Nat)(aa:Lo):pO C Cf Cr W aa=
 dn (Hw aa (d7 .Sub (dP (cG aa 0) (cW kO)) (cY 1)) (cG aa 0) (cW kO)) λaa=>dn (dZ aa 2 (Gz C aa)) (GC C):=rfl
end
section
variable{W u:Nat}{cells:List Int}{a:Nat}{f:Int}
theorem OD{τ:List MO}{b:PV}(h:dW τ b=some xs)(hi:i<xs.length)(hm:i<1000):gZ τ b (.d (.int i))=some (.d xs[i]):=by
 have h7:(i:Int).natAbs<2 ^ 40:=V7 hm;have h8:seqIndex? (i:Int) xs.length=some i:=W6 hi;cases b with
 |d x=>exact eC h
 |ref r=>simp only[gZ,cH h7,h,Option.bind,h8,nQ hi,Option.map]
 |cl r=>simp only[gZ,cH h7,h,Option.bind,h8,nQ hi,Option.map]
 |inst r=>exact eC h
 |cd r=>exact eC h
theorem An{τ:List MO}{b:PV}(h:dW τ b=some xs)(hi:xs.length<1000):jQ [b] τ=some (.ok (.d (.int xs.length)),τ):=by
 have h7:xs.length<2 ^ 40:=(lE (.t A0 (.pw 2 40)) [.t A0 (.k 1000)]) hi;cases b with
 |d x=>exact eC h
 |ref r=>show Hc _ τ=_;unfold Hc;rw[h];exact cH h7
 |cl r=>show Hc _ τ=_;unfold Hc;rw[h];exact cH h7
 |inst r=>exact eC h
 |cd r=>exact eC h
noncomputable def vp(u:Nat)(s w:Int):Lo:=[some (.ref u),some (.d (.int s)),some (.d (.int w)),none,none,none,none,none,none]
def GR(σ:List MO)(W n u c k a B:Nat)(s w:Int):Prop:=∃t a' f' J,nh k t/\a'<=a+B/\i6 (GC (CN W n).c (vp u s w)) σ=some (.ok (.d (dy t)),σ.set u (sF c a' f')++J)
theorem lt3{v:Nat}(h:v<3):v=0\/v=1\/v=2:=(lE (.o (.e A0 (.k 0)) (.o (.e A0 K1) (.e A0 (.k 2)))) [.t A0 (.k 3)]) h
theorem lt4{v:Nat}(h:v<4):v=0\/v=1\/v=2\/v=3:=(lE (.o (.e A0 (.k 0)) (.o (.e A0 K1) (.o (.e A0 (.k 2)) (.e A0 (.k 3))))) [.t A0 (.k 4)]) h
theorem lt2{v:Nat}(h:v<2):v=0\/v=1:=(lE (.o (.e A0 (.k 0)) (.e A0 K1)) [.t A0 (.k 2)]) h
theorem JP(U:yF σ u c cells a f)(ha:a<950)(hn:1<=n)(k:Nat)(s w:Int)(hw:w<2):GR σ W n u c k a 2 s w:=by
 refine eN (tO (W:=W) (n:=n) U 3 (by decide) (mq ha rfl) hn) λv1 hv1 d1=> ?_;have U1:=U.move (a+1) f;by_cases q:v1=2
 ·subst q;refine eN (tO (W:=W) (n:=n) U1 100 (by decide) (BD ha rfl) hn) λv2 hv2 d2=> ?_;rw[eI]at d2;refine⟨.num v2,a+1+1,f,[],Ln hv2,by exact I3,?_⟩;simp at d1 d2;exact pZ r5 (λr=>r (ti hw) d1 (oF rfl) d2 ⟨⟩) (by rw[gD];rfl)
 ·refine eN (tO (W:=W) (n:=n) U1 3 (by decide) (BD ha rfl) hn) λv2 hv2 d2=> ?_;rw[eI]at d2;have q':((v1:Int) == 2)=false:=by simp;exact(lE (.n (.E (.c A0) (.k 2))) [.n (.e A0 (.k 2))]) q
  rcases lt3 hv2 with rfl|rfl|rfl
  ·refine⟨.name Sw,a+1+1,f,[],vo (.inl rfl),by exact I3,?_⟩;simp at d1 d2;exact pZ r5 (λr=>r (ti hw) d1 (BR q') (wY (fX rfl λr=>r d2 ⟨⟩) rfl) ⟨⟩) (by rw[gD];rfl)
  ·refine⟨.name Sx,a+1+1,f,[],vo (.inr (.inl rfl)),by exact I3,?_⟩;simp at d1 d2;exact pZ r5 (λr=>r (ti hw) d1 (BR q') (wY (fX rfl λr=>r d2 ⟨⟩) rfl) ⟨⟩) (by rw[gD];rfl)
  ·refine⟨.name Sy,a+1+1,f,[],vo (.inr (.inr rfl)),by exact I3,?_⟩;simp at d1 d2;exact pZ r5 (λr=>r (ti hw) d1 (BR q') (wY (fX rfl λr=>r d2 ⟨⟩) rfl) ⟨⟩) (by rw[gD];rfl)
theorem Xn(U:yF σ u c cells a f){k:Nat}(ha:a+1+DD k<=900)(hn:1<=n)(s:Int)(hs:s<=(k+1:Nat))(G:Cg W n u c cells k):GR σ W n u c (k+1) a (1+DD k) s 2:=by
 refine eN (tO (W:=W) (n:=n) U 4 (by decide) ((ie (.t A0 (.k 1000)) [.l (.a (.a A0 K1) A1) (.k 900)]) ha) hn) λv1 hv1 d1=> ?_;have U1:=U.move (a+1) f;refine iO (G (s -1) _ _ _ (BF hs) U1 (by exact ha)) λt a' f' h1 h2 g1=> ?_;rw[eI]at g1
 have kF:∀w,w ∈ Bu->[PV.d (.str iR),.d (.str ji),.d (.str gc),.d (.str i8)][v1]? =some (.d (.str w))->GR σ W n u c (k+1) a (1+DD k) s 2:=by
  intro w hw hv
  have hv':s7 [PV.d (.str iR),.d (.str ji),.d (.str gc),.d (.str i8)] (.d (.int v1))=some (.d (.str w)):=by
   simp only[s7];rw[cH (V6 hv1)]
   simpa using hv
  refine⟨.un w t,a',f',[],OB hw h1,by exact(kI (.l A0 (.a A1 (.a K1 A2))) [.l A0 (.a (.a A1 K1) A2)]) h2,?_⟩;simp at d1;exact pZ r5 (λr=>r (jU rfl) (oF rfl) (wY (fX rfl λr=>r d1 ⟨⟩) hv') rfl g1 ⟨⟩) (by rw[gD];rfl)
 rcases lt4 hv1 with rfl|rfl|rfl|rfl
 ·exact kF iR (by decide) rfl
 ·exact kF ji (by decide) rfl
 ·exact kF gc (by decide) rfl
 ·exact kF i8 (by decide) rfl
theorem Xo(U:yF σ u c cells a f){k:Nat}(ha:a+1+2 * DD k<=900)(hn:1<=n)(s:Int)(hs:s<=(k+1:Nat))(G:Cg W n u c cells k):GR σ W n u c (k+1) a (1+2 * DD k) s 7:=by
 refine eN (tO (W:=W) (n:=n) U 2 (by decide) (RN ha) hn) λv1 hv1 d1=> ?_;have U1:=U.move (a+1) f;refine iO (G (s -1) _ _ _ (BF hs) U1 (RM ha)) λt a' f' h1 h2 g1=> ?_;rw[eI]at g1;have U2:=U.move a' f';refine iO (G (s -1) _ _ _ (BF hs) U2 (RL ha h2)) λt2 a2 f2 h3 h4 g2=> ?_;rw[eI]at g2
 have kF:∀w,(w=eA\/w=fg)->[PV.d (.str eA),.d (.str fg)][v1]? =some (.d (.str w))->GR σ W n u c (k+1) a (1+2 * DD k) s 7:=by
  intro w hw hv
  have hv':s7 [PV.d (.str eA),.d (.str fg)] (.d (.int v1))=some (.d (.str w)):=by
   simp only[s7];rw[cH (RI hv1)]
   simpa using hv
  refine⟨.sc w t t2,a2,f2,[],OC hw h1 h3,by exact RK h2 h4,?_⟩;simp at d1;exact pZ r5 (λr=>r (jU rfl) (jU rfl) (jU rfl) (oF rfl) (wY (fX rfl λr=>r d1 ⟨⟩) hv') rfl g1 rfl g2 ⟨⟩) (by rw[gD];rfl)
 rcases lt2 hv1 with rfl|rfl
 ·exact kF eA (.inl rfl) rfl
 ·exact kF fg (.inr rfl) rfl
theorem UM(U:yF σ u c cells a f){k:Nat}(ha:a+1+3 * DD k<=900)(hn:1<=n)(s:Int)(hs:s<=(k+1:Nat))(G:Cg W n u c cells k)(G':Cg W n u c cells (k -1)):GR σ W n u c (k+1) a (1+3 * DD k) s 8:=by
 have hD:=Q0 k;refine iO (G' (s -2) _ _ _ (RJ hs) U ((kI (.l (.a A0 A2) (.k 900)) [.l (.a (.a A0 K1) (.l 3 A1)) (.k 900),.l A2 A1]) ha hD)) λt a1 f1 h1 h2 g1=> ?_;have U1:=U.move a1 f1;refine iO (G' (s -2) _ _ _ (RJ hs) U1 ((lx (.l (.a A3 A2) (.k 900)) [.l (.a (.a A0 K1) (.l 3 A1)) (.k 900),.l A2 A1,.l A3 (.a A0 A2)]) ha hD h2)) λt2 a2 f2 h3 h4 g2=> ?_;rw[eI]at g2;have U2:=U.move a2 f2;refine eN (tO (W:=W) (n:=n) U2 2 (by decide) ((BC (.t A4 (.k 1000)) [.l (.a (.a A0 K1) (.l 3 A1)) (.k 900),.l A2 A1,.l A3 (.a A0 A2),.l A4 (.a A3 A2)]) ha hD h2 h4) hn) λv1 hv1 d1=> ?_;rw[eI]at d1;have U3:=U.move (a2+1) f2
 refine iO (G (s -1) _ _ _ (BF hs) U3 ((BC (.l (.a (.a A4 K1) A1) (.k 900)) [.l (.a (.a A0 K1) (.l 3 A1)) (.k 900),.l A2 A1,.l A3 (.a A0 A2),.l A4 (.a A3 A2)]) ha hD h2 h4)) λt3 a3 f3 h5 h6 g3=> ?_;rw[eI]at g3
 have kF:∀w,(w=fY\/w=fM)->[PV.d (.str fY),.d (.str fM)][v1]? =some (.d (.str w))->GR σ W n u c (k+1) a (1+3 * DD k) s 8:=by
  intro w hw hv
  have hv':s7 [PV.d (.str fY),.d (.str fM)] (.d (.int v1))=some (.d (.str w)):=by
   simp only[s7];rw[cH (RI hv1)]
   simpa using hv
  refine⟨.mem w t3 (.rng t t2),a3,f3,[],Lq hw h5 h1 h3,by exact(Kf (.l A5 (.a A3 (.a K1 (.l 3 A1)))) [.l A0 A1,.l A2 (.a A3 A0),.l A4 (.a A2 A0),.l A5 (.a (.a A4 K1) A1)]) hD h2 h4 h6,?_⟩;simp at d1;exact pZ r5 (λr=>r (jU rfl) (jU rfl) (oF rfl) rfl g1 rfl g2 (wY (fX rfl λr=>r d1 ⟨⟩) hv') rfl g3 ⟨⟩) (by rw[gD];rfl)
 rcases lt2 hv1 with rfl|rfl
 ·exact kF fY (.inl rfl) rfl
 ·exact kF fM (.inr rfl) rfl
end
section
variable{W u:Nat}{cells:List Int}{a:Nat}{f:Int}
def kx:List (List Nat):=[f8,iH,gf]
def ww:List (List (List Nat)):=[kx,m7++kx,[gC],[gC]++qb]
def uJ(w:Nat):List (List Nat):=if w=3 then qb else if w=4 then oK else if w=5 then m7++kx else [gC]++qb
def Lu(L w:Nat):PV:=if w=3 then eG else if w=4 then g6 else if w=5 then .ref (L+1)else .ref (L+3)
theorem JQ(σ τ:List MO){w:Nat}(hw:w=3\/w=4\/w=5\/w=6)(h1:τ[σ.length+1]? =some (lZ (m7++kx)))(h3:τ[σ.length+3]? =some (lZ ([gC]++qb))):dW τ (Lu σ.length w)=some ((uJ w).map .str):=by
 rcases hw with rfl|rfl|rfl|rfl
 ·rfl
 ·rfl
 ·show dW τ (.ref (σ.length+1))=_;simp only[dW,h1,lZ];rfl
 ·show dW τ (.ref (σ.length+3))=_;simp only[dW,h3,lZ];rfl
theorem OE{w:Nat}(hw:w=3\/w=4\/w=5\/w=6)(h:x ∈ uJ w):x ∈ sN:=by
 have:∀x ∈ uJ w,x ∈ sN:=by rcases hw with rfl|rfl|rfl|rfl<;>decide
 exact this x h
theorem Q3{w:Nat}(hw:w=3\/w=4\/w=5\/w=6):0<(uJ w).length/\(uJ w).length<100:=by rcases hw with rfl|rfl|rfl|rfl<;>decide
theorem OF{w:Nat}(hw:w=3\/w=4\/w=5\/w=6)(aa:Lo)(hl:(aa[2]?).join=some (.d (.int w))):s9 [(kN eG),(kN g6),(d7 .Add (kN fE) (m9 [(cW f8),(cW iH),(cW gf)])),(d7 .Add (m9 [(cW gC)]) (kN eG))] (d7 .Sub (cG aa 2) (cY 3)) σ=some (.ok (Lu σ.length w),σ++ww.map lZ):=by
 have g1:∀τ,dW τ fE=some (m7.map .str):=λ_=>rfl;have g2:∀τ,dW τ eG=some (qb.map .str):=λ_=>rfl
 have b1:∀τ i xs ys,dW τ (.ref i)=some xs->m7.map D.str++xs=ys->ys.length<=eZ->ly .Add fE (.ref i) τ=some (.ok (.ref τ.length),τ++[.list ys]):=by intro τ i xs ys h e hl;subst e;have:ly .Add fE (.ref i) τ=(dW τ fE).bind λxs=>(dW τ (.ref i)).bind λys=>rD (xs++ys) τ:=rfl;rw[this,g1,h];simp only[Option.bind,rD,cH hl]
 have b2:∀τ i xs ys,dW τ (.ref i)=some xs->xs++qb.map D.str=ys->ys.length<=eZ->ly .Add (.ref i) eG τ=some (.ok (.ref τ.length),τ++[.list ys]):=by intro τ i xs ys h e hl;subst e;have:ly .Add (.ref i) eG τ=(dW τ (.ref i)).bind λxs=>(dW τ eG).bind λys=>rD (xs++ys) τ:=rfl;rw[this,g2,h];simp only[Option.bind,rD,cH hl]
 have l1:dW (σ++[.list [.str f8,.str iH,.str gf]]) (.ref σ.length)=some [.str f8,.str iH,.str gf]:=by simp[dW]
 have c1:=b1 _ _ _ _ l1 rfl (by decide);have l2:dW (σ++[.list [.str f8,.str iH,.str gf],.list (m7.map D.str++[.str f8,.str iH,.str gf]),.list [.str gC]]) (.ref (σ.length+2))=some [.str gC]:=by simp[dW]
 have c2:=b2 _ _ _ _ l2 rfl (by decide);simp at c1 c2
 have hp:∀x y:PV,s7 [eG,g6,.ref (σ.length+1),.ref (σ.length+3)] (.d (.int ((w:Int) -3)))=some (Lu σ.length w):=by intro _ _;rcases hw with rfl|rfl|rfl|rfl<;>rfl
 have hp:=hp (.d .none) (.d .none)
 have hJ:σ++ww.map lZ=σ++[.list [.str f8,.str iH,.str gf],.list (m7.map D.str++[.str f8,.str iH,.str gf]),.list [.str gC],.list ([.str gC]++qb.map D.str)]:=by simp[ww,lZ,kx]
 rw[hJ];have h3:∀τ,ly .Sub (.d (.int w)) (.d (.int 3)) τ=some (.ok (.d (.int ((w:Int) -3))),τ):=λ_=>rfl;simp[bnd,lift,ret,ja,G5,qK,rD,eZ,c1,c2,E7,hl,h3,hp]
def Xp(C:Addr->List PV->M PV)(aa:Lo):M Fl:=(dn (dZ aa 4 (dP (cG aa 3) (cM (C dh) [(cG aa 0),(cM jQ [(cG aa 3)])]))) λaa=>(dn (dZ aa 5 (cM (C dw) [(cG aa 0),(d7 .Sub (cG aa 1) (cY 1))])) λaa=>(eJ (f7 [(cW iQ),(cG aa 4),(cG aa 5),(cM (C dw) [(cG aa 0),(d7 .Sub (cG aa 1) (cY 1))])]))))
def UN(C:Addr->List PV->M PV)(aa:Lo):Cm Fl:=(.seq (dA aa 4 (dr (cF aa 3) (cI (C dh) [(cF aa 0),(cI jQ [(cF aa 3)])]))) λaa=>(.seq (dA aa 5 (cI (C dw) [(cF aa 0),(dT .Sub (cF aa 1) (cL 1))])) λaa=>(df (eo [(cK iQ),(cF aa 4),(cF aa 5),(cI (C dw) [(cF aa 0),(dT .Sub (cF aa 1) (cL 1))])]))))
theorem UO:Xp C aa=fG (UN C aa):=rfl
theorem UP(U:yF σ u c cells a f){k:Nat}(ha:a+1+2 * DD k<=900)(hn:1<=n)(s:Int)(hs:s<=(k+1:Nat))(G:Cg W n u c cells k){w:Nat}(hw:w=3\/w=4\/w=5\/w=6):GR σ W n u c (k+1) a (1+2 * DD k) s w:=by
 have hpk:=OF (σ:=σ) hw (vp u s w) rfl;have ult:=(ek.mp U.hu).1;have U0:=U.app ww;refine oA (Q3 hw) λbl1 bl2=> ?_;have hset:∀x,(σ++ww.map lZ).set u x=σ.set u x++ww.map lZ:=λx=>List.set_append_left _ _ ult;have g0:dW (σ++ww.map lZ) (Lu σ.length w)=some ((uJ w).map .str):=JQ σ _ hw (by simp[ww]) (by simp[ww]);have hlen:=An g0 (by simp;exact(lE (.t A0 (.k 1000)) [.t (.k 0) A0,.t A0 (.k 100)]) bl1 bl2);rw[f6]at hlen;refine eN (tO (W:=W) (n:=n) U0 (uJ w).length bl1 (RN ha) hn) λv hv d1=> ?_
 have g1:dW ((σ++ww.map lZ).set u (sF c (a+1) f)) (Lu σ.length w)=some ((uJ w).map .str):=by rw[hset];exact JQ σ _ hw (by simp[ww]) (by simp[ww])
 have hsub:=OD g1 (i:=v) (by simpa using hv) ((ie (.t A1 (.k 1000)) [.t (.k 0) A0,.t A0 (.k 100),.t A1 A0]) bl1 bl2 hv);rw[List.getElem_map]at hsub;have hx:=OE hw (List.getElem_mem hv);have U1:=U0.move (a+1) f;refine iO (G (s -1) _ _ _ (BF hs) U1 (RM ha)) λt a1 f1 h1 h2 k1=> ?_;rw[eI]at k1;have U2:=U0.move a1 f1;refine iO (G (s -1) _ _ _ (BF hs) U2 (RL ha h2)) λt2 a2 f2 h3 h4 k2=> ?_;rw[eI]at k2;refine⟨.bin (uJ w)[v] t t2,a2,f2,ww.map lZ,Lp hx h1 h3,by exact RK h2 h4,?_⟩;rw[<-hset];have w1:¬((w:Int)<2):=(lE (.n (.S (.c A0) (.k 2))) [.o (.e A0 (.k 3)) (.o (.e A0 (.k 4)) (.o (.e A0 (.k 5)) (.e A0 (.k 6))))]) hw
 have w2:((w:Int) == 2)=false:=by simp;exact(lE (.n (.E (.c A0) (.k 2))) [.o (.e A0 (.k 3)) (.o (.e A0 (.k 4)) (.o (.e A0 (.k 5)) (.e A0 (.k 6))))]) hw
 have w7:((w:Int) == 7)=false:=by simp;exact(lE (.n (.E (.c A0) (.k 7))) [.o (.e A0 (.k 3)) (.o (.e A0 (.k 4)) (.o (.e A0 (.k 5)) (.e A0 (.k 6))))]) hw
 have w8:((w:Int) == 8)=false:=by simp;exact(lE (.n (.E (.c A0) (.k 8))) [.o (.e A0 (.k 3)) (.o (.e A0 (.k 4)) (.o (.e A0 (.k 5)) (.e A0 (.k 6))))]) hw
 have q1:∀a,eS (dz .Lt (cG (vp u s w) 2) (cY 2)) a (dF (vp u s w)) σ=some (.ok (.nxt (vp u s w)),σ):=λa=>PY (show ir .Lt (.d (.int w)) (.d (.int 2)) σ=_ from tj w1);have q2:∀a,eS (dz .Eq (cG (vp u s w) 2) (cY 2)) a (dF (vp u s w)) σ=some (.ok (.nxt (vp u s w)),σ):=λa=>PY (show ir .Eq (.d (.int w)) (.d (.int 2)) σ=_ from BR w2);have q3:∀a,eS (dz .Eq (cG (vp u s w) 2) (cY 8)) a (dF (vp u s w)) σ=some (.ok (.nxt (vp u s w)),σ):=λa=>PY (show ir .Eq (.d (.int w)) (.d (.int 8)) σ=_ from BR w8);have q4:∀a,eS (dz .Eq (cG (vp u s w) 2) (cY 7)) a (dF (vp u s w)) σ=some (.ok (.nxt (vp u s w)),σ):=λa=>PY (show ir .Eq (.d (.int w)) (.d (.int 7)) σ=_ from BR w7)
 refine(qS (qR (q1 _))).trans ((qS (qR (q2 _))).trans ((qS (qR (q3 _))).trans ((qS (qR (q4 _))).trans ((qS (qR (eT hpk))).trans ?_))));generalize hBV:Lu σ.length w=bv at *;generalize σ++ww.map lZ=τ at *
 have e:i6 (Xp (CN W n).c [some (.ref u),some (.d (.int s)),some (.d (.int w)),some bv,none,none,none,none,none]) τ=some (.ok (.d (dy (.bin (uJ w)[v] t t2))),τ.set u (sF c a2 f2)):=by exact d8 UO λr=>r hlen d1 (dC hsub) rfl k1 rfl k2 ⟨⟩
 exact e
theorem Xq(W:Nat)(k:Nat):∀n,2 * k+2<=n->Cg W n u c cells k:=by
 induction k using Nat.strongRecOn with
 |_ k ih=>
  intro n hn s σ a f hs U ha;obtain⟨m,rfl⟩:∃m,n=m+1:=⟨n -1,by exact(ie (.e A1 (.a (.s A1 K1) K1)) [.l (.a (.l 2 A0) (.k 2)) A1]) hn⟩;have uset:∀x,(σ.set u x).length=σ.length:=λx=>by simp
  have U0:=U.move a (f -1)
  have wrap:∀(k a1 B:Nat)(w:Int),(∃τ,τ=σ.set u (sF c a1 (f -1))/\Gz (CN W m).c (eR [.ref u,.d (.int s)] [] 7) (σ.set u (sF c a (f -1)))=some (.ok (.d (.int w)),τ)/\GR τ W m u c k a1 B s w)->
    ∃t a' f',nh k t/\a'<=a1+B/\(CN W (m+1)).c dw [.ref u,.d (.int s)] σ=some (.ok (.d (dy t)),σ.set u (sF c a' f')):=by
   rintro k a1 B w ⟨τ,rfl,hh,t,a',f',J,s1,s2,e⟩
   rw[eI]at e;refine⟨t,a',f',s1,s2,?_⟩;rw[Ga];refine gH (σ₁:=σ.set u (sF c a' f')) (junk:=J) rfl ?_ (by simp) rfl (U.move a' f').cl;rw[Lr];have hf:=U.fuel;have hp:=U.putF (f -1);have hg:eR [PV.ref u,.d (.int s)] [] 7=[some (.ref u),some (.d (.int s)),none,none,none,none,none,none,none]:=rfl;rw[hg]at hh ⊢;have e':GC (CN W m).c [some (.ref u),some (.d (.int s)),some (.d (.int w)),none,none,none,none,none,none] (σ.set u (sF c a1 (f -1)))=GC (CN W m).c (vp u s w) (σ.set u (sF c a1 (f -1))):=rfl;rw[<-e];have b0:M1 [some (.ref u),some (.d (.int s)),none,none,none,none,none,none,none] (.d (.int (f -1))) (.ref u) (.d (.str kO)) σ=some (.ok (.nxt [some (.ref u),some (.d (.int s)),none,none,none,none,none,none,none]),σ.set u (sF c a (f -1))):=hp (λ_=>ret (.nxt _)) σ
   have a0:Hw [some (.ref u),some (.d (.int s)),none,none,none,none,none,none,none] (d7 .Sub (dP (cG [some (.ref u),some (.d (.int s)),none,none,none,none,none,none,none] 0) (cW kO)) (cY 1)) (cG [some (.ref u),some (.d (.int s)),none,none,none,none,none,none,none] 0) (cW kO) σ=some (.ok (.nxt [some (.ref u),some (.d (.int s)),none,none,none,none,none,none,none]),σ.set u (sF c a (f -1))):=fX (c:=CV [some (.ref u),some (.d (.int s)),none,none,none,none,none,none,none] (dT .Sub (dr (cF [some (.ref u),some (.d (.int s)),none,none,none,none,none,none,none] 0) (cK kO)) (cL 1)) (cF [some (.ref u),some (.d (.int s)),none,none,none,none,none,none,none] 0) (cK kO)) rfl λr=>r (dC hf) rfl b0 ⟨⟩
   exact(qS (qR a0)).trans (qS (qR (eT hh)))
  have hfu:=U0.fuel;by_cases q:0<s/\0<f -1
  ·obtain⟨k',rfl⟩:∃k',k=k'+1:=⟨k -1,by exact(pI:Qn [_] [_,_] (.e A0 (.a (.s A0 (.k 1)) (.k 1))) [.L (.v 0) (.c A0),.c (.S (.k 0) (.v 0)) (.S (.k 0) (.s (.v 1) (.k 1)))]) hs q⟩;simp only[DD]at ha;refine eN (tO (W:=W) (n:=m) U0 9 (by decide) ((ie (.t A0 (.k 1000)) [.l (.a A0 (.a (.l 3 A1) (.k 2))) (.k 900)]) ha) (BG hn)) λw hw d1=> ?_;have U1:=U0.move (a+1) (f -1);rw[eI]at d1 U1
   have hh:Gz (CN W m).c (eR [.ref u,.d (.int s)] [] 7) (σ.set u (sF c a (f -1)))=some (.ok (.d (.int w)),σ.set u (sF c (a+1) (f -1))):=by exact fX Eo λr=>r (ti q.1) (dC hfu) (Nc q.2) d1 ⟨⟩
   have G:=ih k' (RQ) m ((ie (.l (.a (.l 2 A0) (.k 2)) A1) [.l (.a (.l 2 (.a A0 K1)) (.k 2)) (.a A1 K1)]) hn);have G':=ih (k' -1) ((lE (.t (.s A0 K1) (.a A0 K1)) [])) m ((ie (.l (.a (.l 2 (.s A0 K1)) (.k 2)) A1) [.l (.a (.l 2 (.a A0 K1)) (.k 2)) (.a A1 K1)]) hn);have hD2:2<=DD k':=by cases k'<;>simp[DD]
   have kF:∀B,B<=1+3 * DD k'->GR (σ.set u (sF c (a+1) (f -1))) W m u c (k'+1) (a+1) B s w->∃t a' f',nh (k'+1) t/\a'<=a+DD (k'+1)/\(CN W (m+1)).c dw [.ref u,.d (.int s)] σ=some (.ok (.d (dy t)),σ.set u (sF c a' f')):=by intro B hB g;refine iO (wrap (k'+1) (a+1) B w ⟨_,rfl,hh,g⟩) λt a' f' x1 x2 x3=> ?_;exact⟨t,a',f',x1,by simp only[DD];exact(lx (.l A2 (.a A3 (.a (.l 3 A1) (.k 2)))) [.l A0 (.a K1 (.l 3 A1)),.l A2 (.a (.a A3 K1) A0)]) hB x2,x3⟩
   rcases(V8 hw:(w:Int)<2\/w=2\/w=7\/w=8\/(w=3\/w=4\/w=5\/w=6))with h|h|h|h|h
   ·exact kF 2 ((lE (.l (.k 2) (.a K1 (.l 3 A0))) [.l (.k 2) A0]) hD2) (JP U1 ((ie (.t (.a A0 K1) (.k 950)) [.l (.a A0 (.a (.l 3 A1) (.k 2))) (.k 900),.l (.k 2) A1]) ha hD2) (BG hn) _ s w h)
   ·subst h;exact kF _ ((lE (.l (.a K1 A0) (.a K1 (.l 3 A0))) [.l (.k 2) A0]) hD2) (Xn U1 ((ie (.l (.a (.a (.a A0 K1) K1) A1) (.k 900)) [.l (.a A0 (.a (.l 3 A1) (.k 2))) (.k 900),.l (.k 2) A1]) ha hD2) (BG hn) s hs G)
   ·subst h;exact kF _ (RP hD2) (Xo U1 (RO ha hD2) (BG hn) s hs G)
   ·subst h;exact kF _ ((lE (.l (.a K1 (.l 3 A0)) (.a K1 (.l 3 A0))) [])) (UM U1 ((ie (.l (.a (.a (.a A0 K1) K1) (.l 3 A1)) (.k 900)) [.l (.a A0 (.a (.l 3 A1) (.k 2))) (.k 900)]) ha) (BG hn) s hs G G')
   ·exact kF _ (RP hD2) (UP U1 (RO ha hD2) (BG hn) s hs G h)
  ·have hh:Gz (CN W m).c (eR [.ref u,.d (.int s)] [] 7) (σ.set u (sF c a (f -1)))=some (.ok (.d (.int 0)),σ.set u (sF c a (f -1))):=by
    by_cases q1:0<s
    ·exact fX Eo λr=>r (ti q1) (dC hfu) (y9 λz=>q ⟨q1,z⟩) ⟨⟩
    ·exact fX Eo λr=>r (tj q1) ⟨⟩
   have hD2:2<=DD k:=by cases k<;>simp[DD]
   refine iO (wrap k a 2 0 ⟨_,rfl,hh,JP U0 (by exact(ie (.t A0 (.k 950)) [.l (.a A0 A1) (.k 900),.l (.k 2) A1]) ha hD2) (by exact(ie (.l K1 A1) [.l (.a (.l 2 A0) (.k 2)) (.a A1 K1)]) hn) k s 0 (by exact(pQ:Pn [] (.S (.k 0) (.k 2)) []))⟩) λt a' f' x1 x2 x3=> ?_;exact⟨t,a',f',x1,by exact(kI (.l A1 (.a A2 A0)) [.l (.k 2) A0,.l A1 (.a A2 (.k 2))]) hD2 x2,x3⟩
end
section
variable{W:Nat}
def tb(c:Nat)(l:List Nat):List Nat:=if c=0 then l else fT++l++eY
noncomputable def qt(i:Nat):List Nat:=if i<10 then [48+i]else [48+i / 10,48+i % 10]
def bT(w:List Nat):List Nat:=if w=gC then w else eP++w++eP
def oN(w:List Nat):List Nat:=if w=eA then zj else if w=fg then BW else w
def yq(w:List Nat):List Nat:=if w=fY then NA else ze
noncomputable def tx:Tr->List Nat
 | .name s=>s
 | .num i=>qt i
 | .un w t=>if w=i8\/w=iR then w++tb (ew 2 t) (tx t)else w++eP++tb (ew 0 t) (tx t)
 | .bin w a b=>tb (mP (cls w) a) (tx a)++(bT w++tb (kE (cls w) b) (tx b))
 | .sc w a b=>tb (km w a) (tx a)++(eP++oN w++eP++tb (ew 4 b) (tx b))
 | .mem w t m=>tb (ew 3 t) (tx t)++yq w++tx m
 | .rng a b=>tb (ew 3 a) (tx a)++vM++tb (ew 3 b) (tx b)
 | .pn t=>fT++tx t++eY
def Sh:Tr->Prop
 | .rng a b=>WF a/\WF b
 |t=>WF t
theorem Sh.of(h:WF t):Sh t:=by cases t<;>first|exact h|exact(show False from h).elim
def gx:Tr->List Nat
 | .sc w _ _=>w
 | .bin w _ _=>if w ∈ kx then w else hG
 |_=>hG
theorem nL(h:Sh t)(hn:1<=n):(CN W n).c dS [.d (dy t)] σ=some (.ok (.d (.str (gx t))),σ):=by
 obtain⟨m,rfl⟩:∃m,n=m+1:=⟨n -1,by exact dp hn rfl⟩;rw[yl]
 match t,h with
 | .name s,_=>exact dk rfl rfl rfl
 | .num i,_=>exact dk rfl rfl rfl
 | .un w t,h=>exact dk rfl rfl rfl
 | .sc w a b,h=>
  rcases h.1 with rfl|rfl<;>exact dk rfl rfl rfl
 | .mem w t (.rng a b),h=>
  rcases h.1 with rfl|rfl<;>exact dk rfl rfl rfl
 | .rng a b,h=>exact dk rfl rfl rfl
 | .bin w a b,h=>
  rcases j7 h.1 with q|q|q|q|q|q|q
  ·simp only[qb,dj,dJ,dK]at q;rcases q with rfl|rfl|rfl<;>exact dk rfl rfl rfl
  ·simp only[oK,dj,dJ,dK]at q;rcases q with rfl|rfl|rfl|rfl<;>exact dk rfl rfl rfl
  ·simp only[m7,dj,dJ,dK]at q;rcases q with rfl|rfl|rfl|rfl|rfl|rfl<;>exact dk rfl rfl rfl
  all_goals (subst q;exact dk rfl rfl rfl)
def ni(t:Tr):Nat:=6 - (wd t).lvl
def OG(aa:Lo):M Fl:=(dn (eS (dz .Eq (dP (cG aa 0) (cY 0)) (cW iQ)) (eJ (dP (dP (kN jx) (dP (cG aa 0) (cY 1))) (cY 0))) (dF aa)) λaa=>(dn (eS (dz .Eq (dP (cG aa 0) (cY 0)) (cW lH)) (eJ (E5 (dz .In (dP (cG aa 0) (cY 1)) (cW pH)) (cY 3) (cY 5))) (dF aa)) λaa=>(dn (eS (dz .In (dP (cG aa 0) (cY 0)) (f7 [(cW fY),(cW fM)])) (eJ (cY 2)) (dF aa)) λaa=>(eJ (kN lz)))))
def Q4(aa:Lo):Cm Fl:=(.seq (dm (cV .Eq (dr (cF aa 0) (cL 0)) (cK iQ)) (df (dr (dr (lX jx) (dr (cF aa 0) (cL 1))) (cL 0))) (cZ aa)) λaa=>(.seq (dm (cV .Eq (dr (cF aa 0) (cL 0)) (cK lH)) (df (sq (cV .In (dr (cF aa 0) (cL 1)) (cK pH)) (cL 3) (cL 5))) (cZ aa)) λaa=>(.seq (dm (cV .In (dr (cF aa 0) (cL 0)) (eo [(cK fY),(cK fM)])) (df (cL 2)) (cZ aa)) λaa=>(df (lX lz)))))
theorem Q5:OG aa=fG (Q4 aa):=rfl
def bI(C:Addr->List PV->M PV)(aa:Lo):M Fl:=eS (dz .NotEq (cM (C dS) [(cG aa 0)]) (cW hG)) (eJ (cY 1)) (dF aa)
def Zj(C:Addr->List PV->M PV)(aa:Lo):Cm Fl:=dm (cV .NotEq (cI (C dS) [(cF aa 0)]) (cK hG)) (df (cL 1)) (cZ aa)
theorem Xr:bI C aa=fG (Zj C aa):=rfl
theorem Lv(C:Addr->List PV->M PV)(Cf:List PV->M Unit)(Cr:List PV->M PV)(W:Nat)(aa:Lo):mL C Cf Cr W aa=dn (bI C aa) OG:=rfl
theorem Xs:EB i8 pH=true:=by decide+kernel
theorem Xu:EB iR pH=true:=by decide+kernel
theorem OH:EB ji pH=false:=by decide+kernel
theorem OI:EB gc pH=false:=by decide+kernel
theorem OJ(h:Sh t)(hl:gx t=hG):i6 (OG [some (.d (dy t))]) σ=some (.ok (.d (.int (ni t))),σ):=by
 match t,h with
 | .name s,_=>rfl
 | .num i,_=>rfl
 | .un w t,h=>
  have h1:=h.1;simp only[Bu,dj,dJ,dK]at h1;have s0:gZ σ (.d (dy (.un w t))) (.d (.int 0))=some (.d (.str lH)):=rfl;have s1:gZ σ (.d (dy (.un w t))) (.d (.int 1))=some (.d (.str w)):=rfl;have e0:l5 (.str lH) (.str iQ)=some false:=rfl;have e1:l5 (.str lH) (.str lH)=some true:=rfl
  have hb:ni (.un w t)=if EB w pH=true then 3 else 5:=by
   rcases h1 with rfl|rfl|rfl|rfl
   ·rw[Xu];rfl
   ·rw[OH];rfl
   ·rw[OI];rfl
   ·rw[Xs];rfl
  rw[hb];cases q:EB w pH<;>exact d8 Q5 λr=>r (dC s0) (fJ e0) (dC s0) (fJ e1) (dC s1) (xw (dN some q)) ⟨⟩
 | .sc w a b,h=>rcases h.1 with rfl|rfl<;>exact absurd hl (by simp only[gx];decide)
 | .mem w t (.rng a b),h=>
  rcases h.1 with rfl|rfl<;>rfl
 | .rng a b,h=>rfl
 | .bin w a b,h=>
  rcases j7 h.1 with q|q|q|q|q|q|q
  ·simp only[qb,dj,dJ,dK]at q;rcases q with rfl|rfl|rfl<;>rfl
  ·simp only[oK,dj,dJ,dK]at q;rcases q with rfl|rfl|rfl|rfl<;>rfl
  ·simp only[m7,dj,dJ,dK]at q;rcases q with rfl|rfl|rfl|rfl|rfl|rfl<;>rfl
  ·subst q;exact absurd hl (by simp only[gx];decide)
  ·subst q;exact absurd hl (by simp only[gx];decide)
  ·subst q;exact absurd hl (by simp only[gx];decide)
  ·subst q;rfl
theorem GD(h:Sh t)(hl:gx t≠hG):wd t= .lg (gx t):=by
 match t,h with
 | .name s,_=>exact absurd rfl hl
 | .num i,_=>exact absurd rfl hl
 | .un w t,h=>exact absurd rfl hl
 | .sc w a b,h=>rfl
 | .mem w t (.rng a b),h=>exact absurd rfl hl
 | .rng a b,h=>exact absurd rfl hl
 | .bin w a b,h=>
  by_cases q:w ∈ kx
  ·simp only[gx,cH q,nw];simp only[kx,dj,dJ,dK]at q;rcases q with rfl|rfl|rfl<;>rfl
  ·simp only[gx,cJ q]at hl;exact absurd rfl hl
theorem OK(h:Sh t)(hn:2<=n):(CN W n).c ik [.d (dy t)] σ=some (.ok (.d (.int (ni t))),σ):=by
 obtain⟨m,rfl⟩:∃m,n=m+1:=⟨n -1,by exact dp hn rfl⟩;rw[Bn];refine dk rfl ?_ rfl;rw[Lv];have h1:=nL (σ:=σ) (W:=W) (n:=m) h (dl hn rfl);have ee:l5 (.str (gx t)) (.str hG)=some (gx t == hG):=rfl;by_cases q:gx t=hG
 ·have:=OJ (σ:=σ) h q;rw[<-this];rw[q]at h1;have e0:l5 (.str hG) (.str hG)=some true:=rfl
  have hb:bI (CN W m).c (eR [.d (dy t)] [] 0) σ=some (.ok (.nxt [some (.d (dy t))]),σ):=by exact fX Xr λr=>r h1 (iX e0) ⟨⟩
  exact qS (qR hb)
 ·have q':(gx t == hG)=false:=by simpa using q
  have:ni t=1:=by unfold ni;rw[GD h q];rfl
  rw[this];rw[q']at ee
  have hb:bI (CN W m).c (eR [.d (dy t)] [] 0) σ=some (.ok (.ret (.d (.int 1))),σ):=by exact fX Xr λr=>r h1 (iX ee) ⟨⟩
  exact Sq (eT hb)
theorem add_str{y:List Nat}(h:x.length+y.length<=3000000)(τ:List MO):ly .Add (.d (.str x)) (.d (.str y)) τ=some (.ok (.d (.str (x++y))),τ):=by show(sV .Add (.str x) (.str y)).map _=_;simp only[sV,addD_ss,mulD_ii];rw[cH (by simp only[jP];exact(ie (.l (.a A0 A1) (.k 4000000)) [.l (.a A0 A1) (.k 3000000)]) h)];rfl
theorem GE(t:Tr)(l:Nat)(hl:l<=6):ew (6 -l) t=if ni t<l then 1 else 0:=by
 unfold ew ni;have:(wd t).lvl<=5:=by cases wd t<;>simp[Wd.lvl]
 split<;>split<;>(first|exact(pQ:Pn [] (.e (.k 0) (.k 0)) [])|exact(pQ:Pn [] (.e K1 K1) [])|omega)
def jO(W n:Nat)(t:Tr):Prop:=∀σ,Cl σ->(CN W n).c gG [.d (dy t)] σ=some (.ok (.d (.str (tx t))),σ)
theorem mV(h:Sh t)(hn:2<=n)(hS:jO W n t)(hx:(tx t).length<=1000000)(l:Nat)(hl:l<=6)(hc:Cl σ):(CN W (n+1)).c dG [.d (dy t),.d (.int l)] σ=some (.ok (.d (.str (tb (ew (6 -l) t) (tx t)))),σ):=by
 rw[z0,GE t l hl];refine dk rfl ?_ rfl;have h1:=OK (σ:=σ) (W:=W) (n:=n) h hn;have h2:=hS σ hc;have a1:ly .Add (.d (.str fT)) (.d (.str (tx t))) σ=_:=add_str (by have:fT.length=1:=rfl;exact(ie (.l (.a A1 A0) (.k 3000000)) [.l A0 (.k 1000000),.e A1 K1]) hx this) σ;have a2:ly .Add (.d (.str (fT++tx t))) (.d (.str eY)) σ=_:=add_str (by have tz1:fT.length=1:=rfl;have:eY.length=1:=rfl;rw[dI];exact(kI (.l (.a (.a A1 A0) A2) (.k 3000000)) [.l A0 (.k 1000000),.e A1 K1,.e A2 K1]) hx tz1 this) σ;by_cases q:ni t<l
 ·have q':((ni t:Int)<l):=yJ q;rw[cH q];exact d8 uG λr=>r h1 (ti q') h2 a1 a2 ⟨⟩
 ·have q':¬((ni t:Int)<l):=I1 q;rw[cJ q];exact d8 uG λr=>r h1 (tj q') h2 ⟨⟩
theorem UQ(d:Nat)(h:d<10)(τ:List MO):gZ τ ke (.d (.int d))=some (.d (.str [48+d])):=by rcases(Wb h:d=0\/d=1\/d=2\/d=3\/d=4\/d=5\/d=6\/d=7\/d=8\/d=9)with rfl|rfl|rfl|rfl|rfl|rfl|rfl|rfl|rfl|rfl<;>rfl
theorem UR(i:Nat):(i:Int).fmod 10=((i % 10:Nat):Int):=by rw[Int.fmod_eq_emod_of_nonneg _ (by decide)];exact Wa
theorem US(i:Nat):(i:Int).fdiv 10=((i / 10:Nat):Int):=by rw[Int.fdiv_eq_ediv_of_nonneg _ (by decide)];exact V9
def UT(aa:Lo):M Bool:=(LI [(dz .Gt (cG aa 0) (cY 0)),(dz .Lt (cM jQ [(cG aa 3)]) (cG aa 2))])
def Xv(aa:Lo):Cm Bool:=(pj [(cV .Gt (cF aa 0) (cL 0)),(cV .Lt (cI jQ [(cF aa 3)]) (cF aa 2))])
theorem JR:UT aa=fG (Xv aa):=rfl
def Xw(aa:Lo):M Fl:=(dn (dZ aa 3 (d7 .Add (dP (kN ke) (d7 .Mod (cG aa 0) (cG aa 1))) (cG aa 3))) λaa=>(sp aa 0 .FloorDiv (cG aa 1)))
def Xx(aa:Lo):Cm Fl:=(.seq (dA aa 3 (dT .Add (dr (lX ke) (dT .Mod (cF aa 0) (cF aa 1))) (cF aa 3))) λaa=>(oD aa 0 .FloorDiv (cF aa 1)))
theorem Xy:Xw aa=fG (Xx aa):=rfl
noncomputable def Lw(i:Int)(l:List Nat):Lo:=[some (.d (.int i)),some (.d (.int 10)),some (.d (.int 1)),some (.d (.str l))]
theorem SN{l:List Nat}(h:0<i):UT (Lw i l) σ=some (.ok true,σ):=fX JR λr=>r (Nc (Int.natCast_pos.mpr h)) ⟨⟩
theorem Xz:UT (Lw ((0:Nat):Int) []) σ=some (.ok true,σ):=fX JR λr=>r (y9 (by decide)) (show jQ [.d (.str [])] σ=some (.ok (.d (.int 0)),σ)from rfl) (ti (by decide)) ⟨⟩
theorem XA(x:Nat):UT (Lw ((0:Nat):Int) [x]) σ=some (.ok false,σ):=fX JR λr=>r (y9 (by decide)) (show jQ [.d (.str [x])] σ=some (.ok (.d (.int 1)),σ)from rfl) (tj (by decide)) ⟨⟩
theorem XB(x y:Nat):UT (Lw ((0:Nat):Int) [x,y]) σ=some (.ok false,σ):=fX JR λr=>r (y9 (by decide)) (show jQ [.d (.str [x,y])] σ=some (.ok (.d (.int 2)),σ)from rfl) (tj (by decide)) ⟨⟩
theorem OL{l:List Nat}(a:ly .Add (.d (.str [48+i % 10])) (.d (.str l)) σ=some (.ok (.d (.str ((48+i % 10)::l))),σ)):Xw (Lw i l) σ=some (.ok (.nxt (Lw ((i / 10:Nat):Int) ((48+i % 10)::l))),σ):=by
 have f1:=UQ (i % 10) (RS) σ;have b1:ly .Mod (.d (.int i)) (.d (.int 10)) σ=some (.ok (.d (.int ((i % 10:Nat):Int))),σ):=by rw[<-UR i];rfl
 have c1:uQ .FloorDiv (.d (.int i)) (.d (.int 10))=some (.d (.int ((i / 10:Nat):Int))):=by rw[<-US i];rfl
 exact fX Xy λr=>r b1 (dC f1) a (pz c1) ⟨⟩
theorem UU(hi:i<100)(hW:3<=W)(hn:1<=n):(CN W n).c jY [.d (.int i),.d (.int 10),.d (.int 1)] σ=some (.ok (.d (.str (qt i))),σ):=by
 obtain⟨m,rfl⟩:∃m,n=m+1:=⟨n -1,by exact dp hn rfl⟩;obtain⟨W',rfl⟩:∃w,W=w+3:=⟨W -3,by exact dp hW rfl⟩;rw[Bp];refine dk rfl ?_ rfl
 have hw:fw UT Xw (λaa=>dF aa) (W'+3) (Lw i []) σ=some (.ok (.nxt (Lw ((0:Nat):Int) (qt i))),σ):=by
  have s1:Xw (Lw i []) σ=some (.ok (.nxt (Lw ((i / 10:Nat):Int) [48+i % 10])),σ):=OL rfl
  have t1:UT (Lw i []) σ=some (.ok true,σ):=by
   by_cases z:0<i
   ·exact SN z
   ·have z:i=0:=by exact(lE (.e A0 (.k 0)) [.t A0 (.k 100),.n (.t (.k 0) A0)]) hi z
    subst z;exact Xz
  refine(pA t1 s1).trans ?_;by_cases q:i<10
  ·have hd:qt i=[48+i]:=by unfold qt;rw[cH q]
   have e0:i / 10=0:=Nat.div_eq_of_lt q;have e1:i % 10=i:=Nat.mod_eq_of_lt q;rw[hd,e0,e1];exact rM (XA _)
  ·have hd:qt i=[48+i / 10,48+i % 10]:=by unfold qt;rw[cJ q]
   have e0:i / 10 / 10=0:=by omega
   have e1:i / 10 % 10=i / 10:=by omega
   have s2:Xw (Lw ((i / 10:Nat):Int) [48+i % 10]) σ=some (.ok (.nxt (Lw ((i / 10 / 10:Nat):Int) [48+i / 10 % 10,48+i % 10])),σ):=OL rfl;rw[e0,e1]at s2;rw[hd];exact(pA (SN (by omega)) s2).trans (rM (XB _ _))
 exact d8 Dk λr=>r hw ⟨⟩
end
section
variable{W:Nat}
def SO(C:Addr->List PV->M PV)(aa:Lo):M Fl:=(dn (eS (dz .NotEq (cM (C dS) [(cG aa 0)]) (cW hG)) (eJ (cM (C iA) [(cG aa 0)])) (dF aa)) λaa=>(dn (eS (dz .Eq (cG aa 1) (cW iQ)) (eJ (cM (C jr) [(cG aa 0)])) (dF aa)) λaa=>(dn (eS (dz .Eq (cG aa 1) (cW lH)) (dn (eS (dz .In (dP (cG aa 0) (cY 1)) (cW pH)) (eJ (d7 .Add (dP (cG aa 0) (cY 1)) (cM (C dG) [(dP (cG aa 0) (cY 2)),(cY 4)]))) (dF aa)) λaa=>(eJ (d7 .Add (d7 .Add (dP (cG aa 0) (cY 1)) (cW eP)) (cM (C dG) [(dP (cG aa 0) (cY 2)),(cY 6)])))) (dF aa)) λaa=>(dn (eS (dz .In (cG aa 1) (f7 [(cW fY),(cW fM)])) (eJ (cM (C iK) [(cG aa 0)])) (dF aa)) λaa=>(dn (eS (dz .In (cG aa 1) (f7 [(cW fD),(cW Fh)])) (eJ (cM (C ju) [(cG aa 0)])) (dF aa)) λaa=>(dn (eS (dz .In (cG aa 1) (f7 [(cW t7),(cW NB),(cW Fj)])) cU (dF aa)) λaa=>(dn (eS (dz .Eq (cG aa 1) (cW zc)) cU (dF aa)) λaa=>(dn (eS (dz .Eq (cG aa 1) (cW lI)) cU (dF aa)) λaa=>(dn (eS (dz .In (cG aa 1) (f7 [(cW ic),(cW uZ),(cW uY),(cW iS),(cW rN)])) (eJ (cM (C iz) [(cG aa 0)])) (dF aa)) λaa=>(eJ (cM (C jt) [(cG aa 0)])))))))))))
theorem g9{t:M Bool}{x:M Fl}{k:Lo->M Fl}(h:t σ=some (.ok false,σ)):dn (eS t x (dF aa)) k σ=k aa σ:=qR (eT h)
theorem r7{t:M Bool}{x y:M Fl}{k:Lo->M Fl}{v:PV}(h:t σ=some (.ok true,σ))(h2:x σ=some (.ok (.ret v),σ')):dn (eS t x y) k σ=some (.ok (.ret v),σ'):=eT (show eS t x y σ=_ from(eT h).trans h2)
theorem vq{m:M Fl}{v:PV}(h:m σ=some (.ok (.ret v),σ')):i6 m σ=some (.ok v,σ'):=eT h
theorem l0{f:List PV->M PV}{v r:PV}(hl:(aa[i]?).join=some v)(h:f [v] σ=some (.ok r,σ)):eJ (cM f [cG aa i]) σ=some (.ok (.ret r),σ):=by simp[bnd,ja,lift,hl,h,ret]
theorem Zk{y:List Nat}(hl:(aa[i]?).join=some (.d (.str x))):dz .Eq (cG aa i) (cW y) σ=some (.ok (x == y),σ):=by simp[bnd,lift,hl,ret,ir,gI]
theorem XC(h:m σ=some (.ok (.d (.str x)),σ)):dz .NotEq m (cW hG) σ=some (.ok (!(x == hG)),σ):=by
 have:gJ σ .NotEq (.d (.str x)) (.d (.str hG))=some (!(x == hG)):=rfl
 (repeat' first|(with_reducible first|exact h|exact this)|refine' sn rfl ?_|apply sn|rfl)
theorem xL{y1 y2:List Nat}(hl:(aa[i]?).join=some (.d (.str x)))(h:AE σ x (.d (.tup [.str y1,.str y2]))=some b):dz .In (cG aa i) (f7 [cW y1,cW y2]) σ=some (.ok b,σ):=by simp[bnd,lift,hl,ret,ja,EP,qK,eZ,ir,gJ,h]
theorem SP{y1 y2 y3:List Nat}(hl:(aa[i]?).join=some (.d (.str x)))(h:AE σ x (.d (.tup [.str y1,.str y2,.str y3]))=some b):dz .In (cG aa i) (f7 [cW y1,cW y2,cW y3]) σ=some (.ok b,σ):=by simp[bnd,lift,hl,ret,ja,EP,qK,eZ,ir,gJ,h]
theorem SQ{y1 y2 y3 y4 y5:List Nat}(hl:(aa[i]?).join=some (.d (.str x)))(h:AE σ x (.d (.tup [.str y1,.str y2,.str y3,.str y4,.str y5]))=some b):dz .In (cG aa i) (f7 [cW y1,cW y2,cW y3,cW y4,cW y5]) σ=some (.ok b,σ):=by simp[bnd,lift,hl,ret,ja,EP,qK,eZ,ir,gJ,h]
theorem nE{Cr:List PV->M PV}{r:PV}(h:SO C [some (.d (dy t)),some (.d (.str (By t)))] σ=some (.ok (.ret r),σ')):i6 (l8 C Cf Cr W (eR [.d (dy t)] [] 1)) σ=some (.ok r,σ'):=by
 refine vq ?_;rw[<-h];have s0:=o5 σ t;have e:l8 C Cf Cr W (eR [.d (dy t)] [] 1)=dn (dZ [some (.d (dy t)),none] 1 (dP (cG [some (.d (dy t)),none] 0) (cY 0))) (λaa=>SO C aa):=rfl;rw[e]
 have e2:∀k:Lo->M Fl,dn (dZ [some (.d (dy t)),none] 1 (dP (cG [some (.d (dy t)),none] 0) (cY 0))) k σ=k [some (.d (dy t)),some (.d (.str (By t)))] σ:=by intro k;simp[dn,bnd,cG,lift,ret,E6,s0,rH]
 exact e2 _
theorem Ch(hl:(aa[0]?).join=some (.d (dy t)))(h:C dS [.d (dy t)] σ=some (.ok (.d (.str (gx t))),σ))(h2:gx t=hG):dz .NotEq (cM (C dS) [cG aa 0]) (cW hG) σ=some (.ok false,σ):=by have:=XC (σ:=σ) (m:=cM (C dS) [cG aa 0]) (x:=gx t) (by simp[bnd,ja,lift,hl,h,ret]);rw[this,h2];rfl
theorem UV(hl:(aa[0]?).join=some (.d (dy t)))(h:C dS [.d (dy t)] σ=some (.ok (.d (.str (gx t))),σ))(h2:gx t≠hG):dz .NotEq (cM (C dS) [cG aa 0]) (cW hG) σ=some (.ok true,σ):=by have:=XC (σ:=σ) (m:=cM (C dS) [cG aa 0]) (x:=gx t) (by simp[bnd,ja,lift,hl,h,ret]);rw[this];simp[h2]
theorem mW{y:List Nat}(hl:(aa[i]?).join=some (.d (.str x)))(hb:(x == y)=b):dz .Eq (cG aa i) (cW y) σ=some (.ok b,σ):=by rw[<-hb];exact Zk hl
theorem Ep(i:Nat):(qt i).length<=2:=by unfold qt;split<;>simp
theorem XE(l:List Nat)(h:l.length<=2):cut (some 80) none l=[]/\cut none (some 80) l=l:=by
 unfold cut
 match l,h with
 |[],_=>exact⟨rfl,rfl⟩
 |[a],_=>exact⟨rfl,rfl⟩
 |[a,b],_=>exact⟨rfl,rfl⟩
theorem Q6(x:List Nat)(hn:1<=n):(CN W n).c jZ [.d (.int 10),.d (.str x),.d (.int 0)] σ=some (.ok (.d (.str x)),σ):=by obtain⟨m,rfl⟩:∃m,n=m+1:=⟨n -1,by exact dp hn rfl⟩;rw[Bq];exact dk rfl rfl rfl
theorem Q7(hi:i<100)(hW:3<=W)(hn:2<=n):(CN W n).c j0 [.d (.int i)] σ=some (.ok (.d (.str (qt i))),σ):=by
 obtain⟨m,rfl⟩:∃m,n=m+1:=⟨n -1,by exact dp hn rfl⟩;have h1:=UU (σ:=σ) (W:=W) (n:=m) hi hW (dl hn rfl);have hl:=Ep i;have h2:=Q6 (σ:=σ) (W:=W) (n:=m) (qt i) (dl hn rfl);obtain⟨c1,c2⟩:=XE (qt i) hl;obtain⟨W',rfl⟩:∃w,W=w+1:=⟨W -1,by exact dp hW rfl⟩;rw[Br];refine dk rfl ?_ rfl
 have l1:jQ [.d (.str (qt i))] σ=some (.ok (.d (.int (qt i).length)),σ):=by show(if(qt i).length<2 ^ 40 then _ else none)=_;rw[cH (We hl)]
 have hmf:gm= .d (.int 80):=rfl;have hmp:qA= .d (.int 400):=rfl
 have hmax:Pw [.d (.int 0),.d (.int ((qt i).length -80))] σ=some (.ok (.d (.int 0)),σ):=by show some (R.ok (PV.d (.int (if((qt i).length -80:Int) > 0 then _ else 0))),σ)=_;rw[cJ (Wc hl)]
 have s1:wQ (.d (.str (qt i))) (some 80) none σ=some (.ok (.d (.str [])),σ):=by show(if(cut (some 80) none (qt i)).length<=jP then some (R.ok (PV.d (.str (cut (some 80) none (qt i)))),σ)else none)=_;rw[c1];rfl
 have s2:wQ (.d (.str (qt i))) none (some 80) σ=some (.ok (.d (.str (qt i))),σ):=by show(if(cut none (some 80) (qt i)).length<=jP then some (R.ok (PV.d (.str (cut none (some 80) (qt i)))),σ)else none)=_;rw[c2,cH (by simp only[jP];exact kJ hl rfl)]
 have hb:nt=(.d (.tup [(.int (10)),(.int (2)),(.int (3)),(.int (4)),(.int (5)),(.int (6)),(.int (7)),(.int (8)),(.int (9)),(.int (11)),(.int (12)),(.int (13)),(.int (14)),(.int (15)),(.int (16))])):=rfl;have m1:ly .Mult (.d (.str s_0)) (.d (.int 0)) σ=some (.ok (.d (.str [])),σ):=rfl;have m2:ly .Sub (.d (.int (qt i).length)) (.d (.int 80)) σ=some (.ok (.d (.int ((qt i).length -80))),σ):=rfl;have ee:l5 (.str []) (.str [])=some true:=rfl
 (repeat' first|(with_reducible first|exact hb|exact h1|exact l1|exact hmf|exact m2|exact hmax|exact hmp|exact s1|exact s2|exact m1|exact h2|exact kM|exact Sl|exact qP)|refine' sn rfl ?_|exact fJ ee|exact iX ee|apply sn|rfl)
theorem Ly(hi:i<100)(hW:3<=W)(hn:4<=n):jO W n (.num i):=by
 intro σ hc;obtain⟨m,rfl⟩:∃m,n=m+2:=⟨n -2,by exact dp hn rfl⟩;have h1:=Q7 (σ:=σ) (W:=W) (n:=m) hi hW (dl hn rfl)
 have h2:(CN W (m+1)).c iz [.d (dy (.num i))] σ=some (.ok (.d (.str (qt i))),σ):=by rw[yn];refine dk rfl ?_ rfl;have s0:gZ σ (.d (dy (.num i))) (.d (.int 0))=some (.d (.str ic)):=rfl;have s1:gZ σ (.d (dy (.num i))) (.d (.int 1))=some (.d (.int i)):=rfl;have ee:l5 (.str ic) (.str ic)=some true:=rfl;exact d8 zC λr=>r (dC s0) (fJ ee) (dC s1) h1 ⟨⟩
 have h3:=nL (σ:=σ) (W:=W) (n:=m+1) (t:= .num i) trivial (jw hn rfl);rw[j1];refine dk rfl (nE ?_) rfl;refine(g9 (Ch rfl h3 rfl)).trans ?_;refine(g9 (mW (x:=ic) rfl rfl)).trans ?_;refine(g9 (mW (x:=ic) rfl rfl)).trans ?_;refine(g9 (xL (x:=ic) rfl rfl)).trans ?_;refine(g9 (xL (x:=ic) rfl rfl)).trans ?_;refine(g9 (SP (x:=ic) rfl rfl)).trans ?_;refine(g9 (mW (x:=ic) rfl rfl)).trans ?_;refine(g9 (mW (x:=ic) rfl rfl)).trans ?_;exact r7 (SQ (x:=ic) rfl rfl) (l0 rfl h2)
theorem Iy{s:List Nat}(hn:4<=n):jO W n (.name s):=by
 intro σ hc;obtain⟨m,rfl⟩:∃m,n=m+2:=⟨n -2,by exact dp hn rfl⟩
 have h2:(CN W (m+1)).c jt [.d (dy (.name s))] σ=some (.ok (.d (.str s)),σ):=by rw[Bs];refine dk rfl ?_ rfl;rfl
 have h3:=nL (σ:=σ) (W:=W) (n:=m+1) (t:= .name s) trivial (jw hn rfl);rw[j1];refine dk rfl (nE ?_) rfl;refine(g9 (Ch rfl h3 rfl)).trans ?_;refine(g9 (mW (x:=fk) rfl rfl)).trans ?_;refine(g9 (mW (x:=fk) rfl rfl)).trans ?_;refine(g9 (xL (x:=fk) rfl rfl)).trans ?_;refine(g9 (xL (x:=fk) rfl rfl)).trans ?_;refine(g9 (SP (x:=fk) rfl rfl)).trans ?_;refine(g9 (mW (x:=fk) rfl rfl)).trans ?_;refine(g9 (mW (x:=fk) rfl rfl)).trans ?_;refine(g9 (SQ (x:=fk) rfl rfl)).trans ?_;exact l0 rfl h2
theorem qu(c:Nat)(l:List Nat):l.length<=(tb c l).length:=by
 unfold tb;split
 ·exact ip _
 ·simp only[dI];exact(kI (.l A0 (.a (.a A1 A0) A2)) [])
def SR(C:Addr->List PV->M PV)(aa:Lo):M Fl:=(dn (eS (dz .In (dP (cG aa 0) (cY 1)) (cW pH)) (eJ (d7 .Add (dP (cG aa 0) (cY 1)) (cM (C dG) [(dP (cG aa 0) (cY 2)),(cY 4)]))) (dF aa)) λaa=>(eJ (d7 .Add (d7 .Add (dP (cG aa 0) (cY 1)) (cW eP)) (cM (C dG) [(dP (cG aa 0) (cY 2)),(cY 6)]))))
def Q8(C:Addr->List PV->M PV)(aa:Lo):Cm Fl:=(.seq (dm (cV .In (dr (cF aa 0) (cL 1)) (cK pH)) (df (dT .Add (dr (cF aa 0) (cL 1)) (cI (C dG) [(dr (cF aa 0) (cL 2)),(cL 4)]))) (cZ aa)) λaa=>(df (dT .Add (dT .Add (dr (cF aa 0) (cL 1)) (cK eP)) (cI (C dG) [(dr (cF aa 0) (cL 2)),(cL 6)]))))
theorem JS:SR C aa=fG (Q8 C aa):=rfl
theorem OM(h:WF (.un w t))(hn:4<=n)(hS:∀m,n<=m+2->jO W m t)(hx:(tx (.un w t)).length<=1000000):jO W n (.un w t):=by
 intro σ hc;obtain⟨m,rfl⟩:∃m,n=m+2:=⟨n -2,by exact dp hn rfl⟩;have h3:=nL (σ:=σ) (W:=W) (n:=m+1) (t:= .un w t) h (jw hn rfl);have s1:gZ σ (.d (dy (.un w t))) (.d (.int 1))=some (.d (.str w)):=rfl;have s2:gZ σ (.d (dy (.un w t))) (.d (.int 2))=some (.d (dy t)):=rfl;have hw:=h.1;simp only[Bu,dj,dJ,dK]at hw
 have hcase:(EB w pH=true/\(w=i8\/w=iR))\/(EB w pH=false/\¬(w=i8\/w=iR)):=by
  rcases hw with rfl|rfl|rfl|rfl
  ·exact .inl ⟨Xu,.inr rfl⟩
  ·exact .inr ⟨OH,by decide⟩
  ·exact .inr ⟨OI,by decide⟩
  ·exact .inl ⟨Xs,.inl rfl⟩
 have key:SR (CN W (m+1)).c [some (.d (dy (.un w t))),some (.d (.str lH))] σ=some (.ok (.ret (.d (.str (tx (.un w t))))),σ):=by
  rcases hcase with⟨q,q2⟩|⟨q,q2⟩
  ·simp only[tx,cH q2]at hx ⊢;rw[dI]at hx;have:=qu (ew 2 t) (tx t);have hwi:=mV (σ:=σ) (W:=W) (n:=m) (Sh.of h.2) (dl hn rfl) (hS m (RU)) ((kI (.l A2 (.k 1000000)) [.l (.a A0 A1) (.k 1000000),.l A2 A1]) hx this) 4 (by exact fq rfl) hc;simp at hwi;have a1:=add_str (x:=w) (y:=tb (ew 2 t) (tx t)) (RW hx) σ;exact fX JS λr=>r (dC s1) (xw (c:=true) (dN some q)) (dC s1) (dC s2) hwi a1 ⟨⟩
  ·simp only[tx,cJ q2]at hx ⊢;rw[dI,dI]at hx;have:=qu (ew 0 t) (tx t);have hwi:=mV (σ:=σ) (W:=W) (n:=m) (Sh.of h.2) (dl hn rfl) (hS m (RU)) ((lx (.l A3 (.k 1000000)) [.l (.a (.a A0 A1) A2) (.k 1000000),.l A3 A2]) hx this) 6 (by exact fq rfl) hc;simp at hwi;have a1:=add_str (x:=w) (y:=eP) (L6 hx) σ;have a2:=add_str (x:=w++eP) (y:=tb (ew 0 t) (tx t)) (by rw[dI];exact L5 hx) σ;exact fX JS λr=>r (dC s1) (xw (c:=false) (dN some q)) (dC s1) a1 (dC s2) hwi a2 ⟨⟩
 rw[j1];refine dk rfl (nE ?_) rfl;refine(g9 (Ch rfl h3 rfl)).trans ?_;refine(g9 (mW (x:=lH) rfl rfl)).trans ?_;exact r7 (mW (x:=lH) rfl rfl) key
theorem Lz{a b:Tr}(h:WF a/\WF b)(hn:5<=n)(hA:∀m,n<=m+3->jO W m a)(hB:∀m,n<=m+3->jO W m b)(hx:(tx (.rng a b)).length<=1000000):jO W n (.rng a b):=by
 intro σ hc;obtain⟨m,rfl⟩:∃m,n=m+3:=⟨n -3,by exact dp hn rfl⟩;simp only[tx,dI]at hx;have tz1:=qu (ew 3 a) (tx a);have:=qu (ew 3 b) (tx b);have ee:∀x y:List Nat,l5 (.str x) (.str y)=some (x == y):=λ_ _=>rfl;have s0:gZ σ (.d (dy (.rng a b))) (.d (.int 0))=some (.d (.str fD)):=rfl
 have h2:(CN W (m+2)).c ju [.d (dy (.rng a b))] σ=some (.ok (.d (.str (tx (.rng a b)))),σ):=by
  rw[Bt];refine dk rfl ?_ rfl;have s1:gZ σ (.d (dy (.rng a b))) (.d (.int 1))=some (.d (dy a)):=rfl;have s2:gZ σ (.d (dy (.rng a b))) (.d (.int 2))=some (.d (dy b)):=rfl;have w1:=mV (σ:=σ) (W:=W) (n:=m) (Sh.of h.1) (dl hn rfl) (hA m (I4)) (by exact(lx (.l A3 (.k 1000000)) [.l (.a (.a A0 A1) A2) (.k 1000000),.l A3 A0]) hx tz1) 3 (by exact fq rfl) hc;have w2:=mV (σ:=σ) (W:=W) (n:=m) (Sh.of h.2) (dl hn rfl) (hB m (I4)) (by exact(BC (.l A4 (.k 1000000)) [.l (.a (.a A0 A1) A2) (.k 1000000),.l A3 A0,.l A4 A2]) hx tz1 this) 3 (by exact fq rfl) hc;simp at w1 w2;have a1:=add_str (x:=tb (ew 3 a) (tx a)) (y:=vM) (L6 hx) σ
  have a2:=add_str (x:=tb (ew 3 a) (tx a)++vM) (y:=tb (ew 3 b) (tx b)) (by rw[dI];exact L5 hx) σ;have c1:(fD == fD)=true:=rfl;have e:tx (.rng a b)=tb (ew 3 a) (tx a)++vM++tb (ew 3 b) (tx b):=rfl;rw[e];generalize tb (ew 3 a) (tx a)++vM=X at *;exact d8 Dr λr=>r (dC s0) (fJ (ee _ _)) (dC s1) w1 a1 (dC s2) w2 a2 ⟨⟩
 have h3:=nL (σ:=σ) (W:=W) (n:=m+2) (t:= .rng a b) h (jw hn rfl);rw[j1];refine dk rfl (nE ?_) rfl;refine(g9 (Ch rfl h3 rfl)).trans ?_;refine(g9 (mW (x:=fD) rfl rfl)).trans ?_;refine(g9 (mW (x:=fD) rfl rfl)).trans ?_;refine(g9 (xL (x:=fD) rfl rfl)).trans ?_;exact r7 (xL (x:=fD) rfl rfl) (l0 rfl h2)
theorem LA{a b:Tr}(h:WF (.mem w t (.rng a b)))(hn:5<=n)(hT:∀m,n<=m+3->jO W m t)(hR:∀m,n<=m+3->jO W m (.rng a b))(hx:(tx (.mem w t (.rng a b))).length<=1000000):jO W n (.mem w t (.rng a b)):=by
 intro σ hc;obtain⟨m,rfl⟩:∃m,n=m+3:=⟨n -3,by exact dp hn rfl⟩
 have hx':(tb (ew 3 t) (tx t)).length+(yq w).length+(tx (.rng a b)).length<=1000000:=by simp only[tx,dI]at hx ⊢;exact hx
 have:=qu (ew 3 t) (tx t);have ee:∀x y:List Nat,l5 (.str x) (.str y)=some (x == y):=λ_ _=>rfl;have s0:gZ σ (.d (dy (.mem w t (.rng a b)))) (.d (.int 0))=some (.d (.str w)):=rfl
 have h2:(CN W (m+2)).c iK [.d (dy (.mem w t (.rng a b)))] σ=some (.ok (.d (.str (tx (.mem w t (.rng a b))))),σ):=by
  rw[z5];refine dk rfl ?_ rfl;have s1:gZ σ (.d (dy (.mem w t (.rng a b)))) (.d (.int 1))=some (.d (dy t)):=rfl;have s2:gZ σ (.d (dy (.mem w t (.rng a b)))) (.d (.int 2))=some (.d (dy (.rng a b))):=rfl;have w1:=mV (σ:=σ) (W:=W) (n:=m) (Sh.of h.2.1) (dl hn rfl) (hT m (I4)) ((lx (.l A3 (.k 1000000)) [.l (.a (.a A0 A1) A2) (.k 1000000),.l A3 A0]) hx' this) 3 (by exact fq rfl) hc;have w2:=mV (σ:=σ) (W:=W) (n:=m) (t:= .rng a b) h.2.2 (dl hn rfl) (hR m (I4)) ((lx (.l A2 (.k 1000000)) [.l (.a (.a A0 A1) A2) (.k 1000000),.l A3 A0]) hx' this) 3 (by exact fq rfl) hc;have hp:tb (ew 3 (.rng a b)) (tx (.rng a b))=tx (.rng a b):=rfl
  simp only[Nat.reduceSub,hp]at w1 w2;have a1:=add_str (x:=tb (ew 3 t) (tx t)) (y:=yq w) (L6 hx') σ;have a2:=add_str (x:=tb (ew 3 t) (tx t)++yq w) (y:=tx (.rng a b)) (by rw[dI];exact L5 hx') σ;have e:tx (.mem w t (.rng a b))=tb (ew 3 t) (tx t)++yq w++tx (.rng a b):=rfl;rw[e];generalize tx (.rng a b)=X at *;simp at w1 w2;rcases h.1 with rfl|rfl
  ·have c1:(fY == fY)=true:=rfl;have hm:yq fY=NA:=rfl;rw[hm]at a1 a2 ⊢;exact d8 uI λr=>r (dC s0) (fJ (ee _ _)) (dC s1) w1 a1 (dC s2) w2 a2 ⟨⟩
  ·have c1:(fM == fY)=false:=rfl;have hm:yq fM=ze:=rfl;rw[hm]at a1 a2 ⊢;exact d8 uI λr=>r (dC s0) (fJ (ee _ _)) (dC s1) w1 a1 (dC s2) w2 a2 ⟨⟩
 have h3:=nL (σ:=σ) (W:=W) (n:=m+2) (t:= .mem w t (.rng a b)) h (jw hn rfl);rw[j1];refine dk rfl (nE ?_) rfl;refine(g9 (Ch rfl h3 rfl)).trans ?_;rcases h.1 with rfl|rfl
 ·refine(g9 (mW (x:=fY) rfl rfl)).trans ?_;refine(g9 (mW (x:=fY) rfl rfl)).trans ?_;exact r7 (xL (x:=fY) rfl rfl) (l0 rfl h2)
 ·refine(g9 (mW (x:=fM) rfl rfl)).trans ?_;refine(g9 (mW (x:=fM) rfl rfl)).trans ?_;exact r7 (xL (x:=fM) rfl rfl) (l0 rfl h2)
end
section
variable{W:Nat}
noncomputable def sL(R:List (List Nat)):MO:= .list (R.reverse.map .str)
theorem Iz(l:List (List Nat)):sW (l.map .str)=some l:=by
 induction l with
 |nil=>rfl
 |cons x l ih=>simp only[jg,sW,ih];rfl
theorem Er{R:List (List Nat)}(hl:(aa[i]?).join=some (.ref σ.length))(h1:R.flatten.length<=1000000)(h2:R.length<=1000000):td (xu (cG aa i)) (σ++[sL R])=some (.ok (.d (.str R.flatten)),σ++[sL R,.list (R.map .str)]):=by
 have g1:dW (σ++[sL R]) (.ref σ.length)=some (R.reverse.map .str):=by simp[dW,sL]
 have g2:dW (σ++[sL R,.list (R.map .str)]) (.ref (σ.length+1))=some (R.map .str):=by simp[dW]
 have e1:(R.reverse.map D.str).reverse=R.map .str:=by rw[<-List.map_reverse,List.reverse_reverse]
 have e2:Ml (.ref σ.length) (σ++[sL R])=some (.ok (.ref (σ.length+1)),σ++[sL R,.list (R.map .str)]):=by simp only[Ml,g1,Option.bind,e1,rD];rw[cH (by rw[f6];simp only[eZ];exact kJ h2 rfl)];simp
 have e3:BJ [.ref (σ.length+1)] (σ++[sL R,.list (R.map .str)])=some (.ok (.d (.str R.flatten)),σ++[sL R,.list (R.map .str)]):=by simp only[BJ,g2,Option.bind,Iz];rw[cH ⟨by simp only[jP];exact kJ h1 rfl,by simp only[eZ];exact kJ h2 rfl⟩]
 simp only[td,xu,cG,bnd,ja,lift,hl,Option.map,e2,ret,e3]
theorem rn{R:List (List Nat)}{s:List Nat}(h:m (σ++[sL R])=some (.ok (.d (.str s)),σ++[sL R]))(h2:R.length<=1000000):kz (.ref σ.length) m (σ++[sL R])=some (.ok (.d .none),σ++[sL (s::R)]):=by
 have r1:qN (σ++[sL R]) (.ref σ.length)=some (σ.length,R.reverse.map .str):=by simp[qN,sL]
 simp only[kz,r1,Option.bind,bnd,h];rw[cH (by simp only[f6,List.length_reverse,eZ];exact Nat.lt_of_le_of_lt h2 (fq rfl))];simp[sL]
theorem Cl.sL{R:List (List Nat)}(h:Cl σ):Cl (σ++[Internal.sL R]):=h.app rfl
def cT(aa:Lo):M Bool:=(uO [(dz .Eq (dP (cG aa 0) (cY 0)) (cW iQ)),(dz .In (dP (cG aa 0) (cY 1)) (kN jx))])
def cB(C:Addr->List PV->M PV)(aa:Lo):M Fl:=(dn (Fa aa [2,3,4] (dP (kN jx) (dP (cG aa 0) (cY 1)))) λaa=>(dn (dZ aa 5 (dP (cG aa 0) (cY 1))) λaa=>(dn (eS (dz .NotEq (cG aa 5) (cW gC)) (dZ aa 5 (d7 .Add (d7 .Add (cW eP) (cG aa 5)) (cW eP))) (dF aa)) λaa=>(dn (oB aa (jC (cG aa 1) (d7 .Add (cG aa 5) (cM (C dG) [(dP (cG aa 0) (cY 3)),(cG aa 4)])))) λaa=>(dn (dZ aa 0 (dP (cG aa 0) (cY 2))) λaa=>(eS (dz .Lt (cM (C ik) [(cG aa 0)]) (cG aa 3)) (E9 aa) (dF aa)))))))
def Zl(C:Addr->List PV->M PV)(aa:Lo):Cm Fl:=(.seq (th aa [2,3,4] (dr (lX jx) (dr (cF aa 0) (cL 1)))) λaa=>(.seq (dA aa 5 (dr (cF aa 0) (cL 1))) λaa=>(.seq (dm (cV .NotEq (cF aa 5) (cK gC)) (dA aa 5 (dT .Add (dT .Add (cK eP) (cF aa 5)) (cK eP))) (cZ aa)) λaa=>(.seq (mB aa (tg (cF aa 1) (dT .Add (cF aa 5) (cI (C dG) [(dr (cF aa 0) (cL 3)),(cF aa 4)])))) λaa=>(.seq (dA aa 0 (dr (cF aa 0) (cL 2))) λaa=>(dm (cV .Lt (cI (C ik) [(cF aa 0)]) (cF aa 3)) (Nb aa) (cZ aa)))))))
theorem Q9:cB C aa=fG (Zl C aa):=rfl
def cO(C:Addr->List PV->M PV)(aa:Lo):M Fl:=(eJ (d7 .Add (cM (C gG) [(cG aa 0)]) (td (xu (cG aa 1)))))
def cR(C:Addr->List PV->M PV)(aa:Lo):M Fl:=(eJ (d7 .Add (d7 .Add (d7 .Add (cW fT) (cM (C gG) [(cG aa 0)])) (cW eY)) (td (xu (cG aa 1)))))
theorem IB(C:Addr->List PV->M PV)(Cf:List PV->M Unit)(Cr:List PV->M PV)(W:Nat)(aa:Lo):mM C Cf Cr W aa=dn (dZ aa 1 (m9 [])) λaa=>dn (fw cT (cB C) (cO C) W aa) (cR C):=rfl
def IC:Tr->Bool
 | .bin w _ _=>decide (w ∉ kx)
 |_=>false
theorem SS(h:Sh t){x1 x2 x3 x5:Option PV}:cT [some (.d (dy t)),x1,x2,x3,x4,x5] σ=some (.ok (IC t),σ):=by
 match t,h with
 | .name s,_=>rfl
 | .num i,_=>rfl
 | .un w t,h=>rfl
 | .sc w a b,h=>rcases h.1 with rfl|rfl<;>rfl
 | .mem w t (.rng a b),h=>rcases h.1 with rfl|rfl<;>rfl
 | .rng a b,h=>rfl
 | .bin w a b,h=>
  rcases j7 h.1 with q|q|q|q|q|q|q
  ·simp only[qb,dj,dJ,dK]at q;rcases q with rfl|rfl|rfl<;>rfl
  ·simp only[oK,dj,dJ,dK]at q;rcases q with rfl|rfl|rfl|rfl<;>rfl
  ·simp only[m7,dj,dJ,dK]at q;rcases q with rfl|rfl|rfl|rfl|rfl|rfl<;>rfl
  all_goals (subst q;rfl)
structure Bnd(w:List Nat)(lv le ri:Nat):Prop where
 tup:∀τ,gZ τ jx (.d (.str w))=some (.d (.tup [.int lv,.int le,.int ri]))
 a:∀t,mP (cls w) t=ew (6 -le) t
 b:∀t,kE (cls w) t=ew (6 -ri) t
 l6:le<=6
 r6:ri<=6
 ln:w.length<=3
theorem UW(h:w ∈ sN)(hl:w ∉ kx):∃lv le ri,Bnd w lv le ri:=by
 rcases j7 h with q|q|q|q|q|q|q
 ·refine⟨3,3,4,?_,by rw[ua q];exactλ_=>rfl,by rw[ua q];exactλ_=>rfl,by exact fq rfl,by exact fq rfl,?_⟩<;>
   (simp only[qb,dj,dJ,dK]at q;rcases q with rfl|rfl|rfl)<;>first|exactλ_=>rfl|decide
 ·refine⟨4,4,5,?_,by rw[rg q];exactλ_=>rfl,by rw[rg q];exactλ_=>rfl,by exact fq rfl,by exact fq rfl,?_⟩<;>
   (simp only[oK,dj,dJ,dK]at q;rcases q with rfl|rfl|rfl|rfl)<;>first|exactλ_=>rfl|decide
 ·refine⟨2,3,3,?_,by rw[ub q];exactλ_=>rfl,by rw[ub q];exactλ_=>rfl,by exact fq rfl,by exact fq rfl,?_⟩<;>
   (simp only[m7,dj,dJ,dK]at q;rcases q with rfl|rfl|rfl|rfl|rfl|rfl)<;>first|exactλ_=>rfl|decide
 ·subst q;exact absurd (by decide) hl
 ·subst q;exact absurd (by decide) hl
 ·subst q;exact absurd (by decide) hl
 ·subst q;exact⟨5,6,6,λ_=>rfl,λ_=>rfl,λ_=>rfl,by exact fq rfl,by exact fq rfl,by decide⟩
theorem XF{a b:Tr}{lv le ri:Nat}(hb:Bnd w lv le ri)(h:WF (.bin w a b))(hn:3<=n)(hS:∀m,n<=m+1->jO W m b)(hx:(tx b).length<=1000000)(hx2:(tb (kE (cls w) b) (tx b)).length<=1000000)(hc:Cl σ){R:List (List Nat)}(hR:R.length<=1000000){x2 x3 x5:Option PV}:
  ∃loc',loc'=[some (.d (dy a)),some (.ref σ.length),some (.d (.int lv)),some (.d (.int le)),some (.d (.int ri)),some (.d (.str (bT w)))]/\
  cB (CN W n).c [some (.d (dy (.bin w a b))),some (.ref σ.length),x2,x3,x4,x5] (σ++[sL R])=some (.ok (if ni a<le then .brk loc' else .nxt loc'),σ++[sL ((bT w++tb (kE (cls w) b) (tx b))::R)]):=by
 refine⟨_,rfl,?_⟩;obtain⟨m,rfl⟩:∃m,n=m+1:=⟨n -1,by exact dp hn rfl⟩;have hl:=hb.ln;have s1:∀τ,gZ τ (.d (dy (.bin w a b))) (.d (.int 1))=some (.d (.str w)):=λ_=>rfl;have s2:∀τ,gZ τ (.d (dy (.bin w a b))) (.d (.int 2))=some (.d (dy a)):=λ_=>rfl;have s3:∀τ,gZ τ (.d (dy (.bin w a b))) (.d (.int 3))=some (.d (dy b)):=λ_=>rfl;have w1:=mV (σ:=σ++[sL R]) (W:=W) (n:=m) (Sh.of h.2.2) (dl hn rfl) (hS m (I2)) hx ri hb.r6 hc.sL;rw[<-hb.b]at w1
 have tlen:(bT w).length<=5:=by
  unfold bT;split
  ·exact kJ hl rfl
  ·simp only[dI];have:eP.length=1:=rfl;exact(ie (.l (.a (.a A1 A0) A1) (.k 5)) [.l A0 (.k 3),.e A1 K1]) hl this
 have a1:=add_str (x:=bT w) (y:=tb (kE (cls w) b) (tx b)) ((ie (.l (.a A1 A0) (.k 3000000)) [.l A0 (.k 1000000),.l A1 (.k 5)]) hx2 tlen) (σ++[sL R]);have h1:=OK (σ:=σ++[sL ((bT w++tb (kE (cls w) b) (tx b))::R)]) (W:=W) (n:=m+1) (Sh.of h.2.1) (jw hn rfl);have ee:gJ (σ++[sL R]) .NotEq (.d (.str w)) (.d (.str gC))=some (!(w == gC)):=rfl;have tp:=hb.tup;have cl:∀loc':Lo,ni a<le->ir .Lt (.d (.int (ni a))) (.d (.int le)) (σ++[sL ((bT w++tb (kE (cls w) b) (tx b))::R)])=some (.ok true,_):=λ_ q=>ti (Int.ofNat_lt.mpr q);have cg:∀loc':Lo,¬ ni a<le->ir .Lt (.d (.int (ni a))) (.d (.int le)) (σ++[sL ((bT w++tb (kE (cls w) b) (tx b))::R)])=some (.ok false,_):=λ_ q=>tj λz=>q (Int.ofNat_lt.mp z)
 by_cases q:w=gC
 ·subst q;have c1:(gC == gC)=true:=rfl;rw[c1]at ee;by_cases q2:ni a<le
  ·rw[cH q2];exact fX Q9 λr=>r (dC (s1 _)) (dC (tp _)) (dC (s1 _)) (ig ee) (rn (fX rfl λr=>r (dC (s3 _)) w1 a1 ⟨⟩) hR) (dC (s2 _)) h1 (cl [] q2) ⟨⟩
  ·rw[cJ q2];exact fX Q9 λr=>r (dC (s1 _)) (dC (tp _)) (dC (s1 _)) (ig ee) (rn (fX rfl λr=>r (dC (s3 _)) w1 a1 ⟨⟩) hR) (dC (s2 _)) h1 (cg [] q2) ⟨⟩
 ·have c1:(w == gC)=false:=by simpa using q
  rw[c1]at ee;have hbt:bT w=eP++w++eP:=by unfold bT;rw[cJ q]
  have b1:=add_str (x:=eP) (y:=w) (by have:eP.length=1:=rfl;exact(ie (.l (.a A1 A0) (.k 3000000)) [.l A0 (.k 3),.e A1 K1]) hl this) (σ++[sL R])
  have b2:ly .Add (.d (.str (eP++w))) (.d (.str eP)) (σ++[sL R])=some (.ok (.d (.str (bT w))),σ++[sL R]):=by rw[hbt];exact add_str (x:=eP++w) (y:=eP) (by have:eP.length=1:=rfl;rw[dI];exact(ie (.l (.a (.a A1 A0) A1) (.k 3000000)) [.l A0 (.k 3),.e A1 K1]) hl this) (σ++[sL R])
  by_cases q2:ni a<le
  ·rw[cH q2];exact fX Q9 λr=>r (dC (s1 _)) (dC (tp _)) (dC (s1 _)) (ig ee) b1 b2 (rn (fX rfl λr=>r (dC (s3 _)) w1 a1 ⟨⟩) hR) (dC (s2 _)) h1 (cl [] q2) ⟨⟩
  ·rw[cJ q2];exact fX Q9 λr=>r (dC (s1 _)) (dC (tp _)) (dC (s1 _)) (ig ee) b1 b2 (rn (fX rfl λr=>r (dC (s3 _)) w1 a1 ⟨⟩) hR) (dC (s2 _)) h1 (cg [] q2) ⟨⟩
end
section
variable{W:Nat}
theorem ID(c:Nat)(l:List Nat):(tb c l).length<=l.length+2:=by
 unfold tb;split
 ·exact(lE (.l A0 (.a A0 (.k 2))) [])
 ·simp only[dI];have tz1:fT.length=1:=rfl;have:eY.length=1:=rfl;exact(kI (.l (.a (.a A0 A2) A1) (.a A2 (.k 2))) [.e A0 K1,.e A1 K1]) tz1 this
theorem IE(w:List Nat)(a b:Tr):tx (.bin w a b)=tb (mP (cls w) a) (tx a)++(bT w++tb (kE (cls w) b) (tx b)):=rfl
theorem XG(w:List Nat)(a b:Tr):tx (.sc w a b)=tb (km w a) (tx a)++(eP++oN w++eP++tb (ew 4 b) (tx b)):=rfl
theorem qw{m1 m2:M PV}{σ1 σ2:List MO}{y:List Nat}(h1:m1 σ=some (.ok (.d (.str x)),σ1))(h2:m2 σ1=some (.ok (.d (.str y)),σ2))(hl:x.length+y.length<=3000000):d7 .Add m1 m2 σ=some (.ok (.d (.str (x++y))),σ2):=by simp only[d7,bnd,h1,h2,add_str hl]
theorem uj{v:PV}(h:m σ=some (.ok v,σ')):eJ m σ=some (.ok (.ret v),σ'):=eT h
theorem Ci{f:List PV->M PV}{v:PV}{r:Option (R PV×List MO)}(hl:(aa[i]?).join=some v)(h:f [v] σ=r):cM f [cG aa i] σ=r:=by simp only[cM,bnd,ja,cG,lift,hl,Option.map,ret,h]
theorem ST{f:List PV->M PV}{l:Int}{v:PV}{r:Option (R PV×List MO)}(hl:(aa[i]?).join=some v)(h:f [v,.d (.int l)] σ=r):cM f [cG aa i,cY l] σ=r:=by simp only[cM,bnd,ja,cG,cY,lift,hl,Option.map,ret,h]
theorem Yj(x:List Nat):cW x σ=some (.ok (.d (.str x)),σ):=rfl
theorem XH(hS:jO W n t)(hc:Cl σ){R:List (List Nat)}(hx:(tx t).length+R.flatten.length<=1000000)(hR:R.length<=1000000){x2 x3 x5:Option PV}:∃J,cO (CN W n).c [some (.d (dy t)),some (.ref σ.length),x2,x3,x4,x5] (σ++[sL R])=some (.ok (.ret (.d (.str (tx t++R.flatten)))),σ++J):=by have h1:=hS (σ++[sL R]) hc.sL;have h2:=Er (σ:=σ) (aa:=[some (.d (dy t)),some (.ref σ.length),x2,x3,x4,x5]) (i:=1) (R:=R) rfl (L7 hx) hR;exact⟨_,uj (qw (Ci rfl h1) h2 (RW hx))⟩
theorem XI(hS:jO W n t)(hc:Cl σ){R:List (List Nat)}(hx:(tx t).length+R.flatten.length<=1000000)(hR:R.length<=1000000){x2 x3 x5:Option PV}:∃J,cR (CN W n).c [some (.d (dy t)),some (.ref σ.length),x2,x3,x4,x5] (σ++[sL R])=some (.ok (.ret (.d (.str (tb 1 (tx t)++R.flatten)))),σ++J):=by have h1:=hS (σ++[sL R]) hc.sL;have h2:=Er (σ:=σ) (aa:=[some (.d (dy t)),some (.ref σ.length),x2,x3,x4,x5]) (i:=1) (R:=R) rfl (L7 hx) hR;have e8:fT.length=1:=rfl;have e14:eY.length=1:=rfl;exact⟨_,uj (qw (qw (qw (Yj _) (Ci rfl h1) ((kI (.l (.a A2 A0) (.k 3000000)) [.l (.a A0 A1) (.k 1000000),.e A2 K1]) hx e8)) (Yj _) (by rw[dI];exact(lx (.l (.a (.a A2 A0) A3) (.k 3000000)) [.l (.a A0 A1) (.k 1000000),.e A2 K1,.e A3 K1]) hx e8 e14)) h2 (by have:=ID 1 (tx t);exact R2 hx this))⟩
theorem UX{m:M Fl}{k:Lo->M Fl}{v:PV}(h:m σ=some (.ok (.ret v),σ')):dn m k σ=some (.ok (.ret v),σ'):=eT h
theorem ij{m:M Fl}{k:Lo->M Fl}{l:Lo}(h:m σ=some (.ok (.nxt l),σ')):dn m k σ=k l σ':=eT h
theorem JT{m m':M Fl}{k:Lo->M Fl}(h:m σ=m' σ'):dn m k σ=dn m' k σ':=by simp only[dn,bnd,h]
theorem IF(hn:3<=n)(H:Nat)(hH:∀u,WF u->LV u->ht u<H->(tx u).length<=1000000->∀m,n<=m+1->jO W m u)(hc:Cl σ)(t:Tr):∀(K:Nat)(R:List (List Nat))(x2 x3 x4 x5:Option PV),WF t->LV t->IC t=true->ht t<=H->ht t<K->(tx t).length+R.flatten.length<=1000000->R.length+ht t<=1000000->
  ∃J,dn (fw cT (cB (CN W n).c) (cO (CN W n).c) K [some (.d (dy t)),some (.ref σ.length),x2,x3,x4,x5]) (cR (CN W n).c) (σ++[sL R])=some (.ok (.ret (.d (.str (tx t++R.flatten)))),σ++J):=by
 induction t with
 |bin w a b iha ihb=>
  intro K R x2 x3 x4 x5 h hlv hch hh hK hx hR;simp only[ht]at hh hK hR;obtain⟨K,rfl⟩:∃q,K=q+1:=⟨K -1,by exact(kI (.e A2 (.a (.s A2 K1) K1)) [.t (.a (.ma A0 A1) K1) A2]) hK⟩;have hnl:w ∉ kx:=by simpa [IC] using hch
  refine Ym (UW h.1 hnl) λlv le ri hb=> ?_;rw[IE]at hx ⊢;simp only[dI]at hx;have l1:=qu (mP (cls w) a) (tx a);have l2:=qu (kE (cls w) b) (tx b);refine eN (XF (W:=W) (n:=n) (σ:=σ) hb h hn (hH b h.2.2 hlv.2 (CB hh) (R1 hx l2)) (R1 hx l2) ((lx (.l A2 (.k 1000000)) [.l (.a (.a A0 (.a A1 A2)) A3) (.k 1000000)]) hx) hc (R:=R) ((kI (.l A0 (.k 1000000)) [.l (.a A0 (.a (.ma A1 A2) K1)) (.k 1000000)]) hR) (x2:=x2) (x3:=x3) (x4:=x4) (x5:=x5)) λloc' hloc hB=> ?_;have hT:cT [some (.d (dy (.bin w a b))),some (.ref σ.length),x2,x3,x4,x5] (σ++[sL R])=some (.ok true,σ++[sL R]):=by rw[SS (t:= .bin w a b) h,hch]
  have hfl:((bT w++tb (kE (cls w) b) (tx b))::R).flatten=(bT w++tb (kE (cls w) b) (tx b))++R.flatten:=rfl;have hsa:=hH a h.2.1 hlv.1 (CA hh) ((Kf (.l A4 (.k 1000000)) [.l (.a (.a A0 (.a A1 A2)) A3) (.k 1000000),.l A4 A0,.l A5 A2]) hx l1 l2) n ((lE (.l A0 (.a A0 K1)) []));have hpa:=GE a le hb.l6;by_cases q:ni a<le
  ·rw[cH q]at hB hpa;rw[ij (Nh hT hB),hloc];refine oE (XI (W:=W) (n:=n) (σ:=σ) (R:=(bT w++tb (kE (cls w) b) (tx b))::R) hsa hc (by rw[hfl];simp only[dI];exact(BC (.l (.a A4 (.a (.a A1 A2) A3)) (.k 1000000)) [.l (.a (.a A0 (.a A1 A2)) A3) (.k 1000000),.l A4 A0]) hx l1) (by simp only[eD];exact RZ hR) (x2:=some (.d (.int lv))) (x3:=some (.d (.int le))) (x4:=some (.d (.int ri))) (x5:=some (.d (.str (bT w))))) λJ e=> ?_;refine⟨J,e.trans ?_⟩;simp only[hfl,hb.a,hpa,d6]
  ·rw[cJ q]at hB hpa;rw[JT (pA hT hB),hloc];rw[hb.a,hpa]at hx l1 ⊢;have htb:tb 0 (tx a)=tx a:=rfl;rw[htb]at hx l1 ⊢;by_cases qc:IC a=true
   ·refine oE (iha K ((bT w++tb (kE (cls w) b) (tx b))::R) (some (.d (.int lv))) (some (.d (.int le))) (some (.d (.int ri))) (some (.d (.str (bT w)))) h.2.1 hlv.1 qc (G4 hh) ((kI (.t A0 A2) [.t (.a (.ma A0 A1) K1) (.a A2 K1)]) hK) (by rw[hfl];simp only[dI];exact R0 hx) (by simp only[eD];exact(kI (.l (.a (.a A0 K1) A1) (.k 1000000)) [.l (.a A0 (.a (.ma A1 A2) K1)) (.k 1000000)]) hR)) λJ e=> ?_;refine⟨J,e.trans ?_⟩;simp only[hfl,d6]
   ·obtain⟨K,rfl⟩:∃q,K=q+1:=⟨K -1,by exact(kI (.e A2 (.a (.s A2 K1) K1)) [.t (.a (.ma A0 A1) K1) (.a A2 K1)]) hK⟩
    have hT2:∀x2 x3 x4 x5 τ,cT [some (.d (dy a)),some (.ref σ.length),x2,x3,x4,x5] τ=some (.ok false,τ):=by intro x2 x3 x4 x5 τ;rw[SS (t:=a) (Sh.of h.2.1)];simp[qc]
    refine oE (XH (W:=W) (n:=n) (σ:=σ) (R:=(bT w++tb (kE (cls w) b) (tx b))::R) hsa hc (by rw[hfl];simp only[dI];exact R0 hx) (by simp only[eD];exact RZ hR) (x2:=some (.d (.int lv))) (x3:=some (.d (.int le))) (x4:=some (.d (.int ri))) (x5:=some (.d (.str (bT w))))) λJ e=> ?_;refine⟨J,(UX ((rM (hT2 _ _ _ _ _)).trans e)).trans ?_⟩;simp only[hfl,d6]
 |_=>intro K R x2 x3 x4 x5 h hlv hch;exact mY hch
theorem GG(h:WF t)(hlv:LV t)(hch:IC t=true)(hn:5<=n)(hH:∀u,WF u->LV u->ht u<ht t->(tx u).length<=1000000->∀m,n<=m+3->jO W m u)(hx:(tx t).length<=1000000)(hW:ht t<W)(hW2:ht t<=1000000):jO W n t:=by
 intro σ hc;obtain⟨m,rfl⟩:∃m,n=m+2:=⟨n -2,by exact dp hn rfl⟩;have h3:=nL (σ:=σ) (W:=W) (n:=m+1) (Sh.of h) (jw hn rfl)
 have h2:(CN W (m+1)).c jr [.d (dy t)] σ=some (.ok (.d (.str (tx t))),σ):=by rw[Bo];refine oE (IF (W:=W) (n:=m) (σ:=σ) (dl hn rfl) (ht t) (λu hu hl hh hxu m' hm=>hH u hu hl hh hxu m' (RX hm)) hc t W [] none none none none h hlv hch (ip _) hW (by simpa using hx) (by simpa using hW2)) λJ e=> ?_;rw[List.flatten_nil,gD]at e;refine gH (σ₁:=σ) (junk:=J) rfl (vq ?_) rfl rfl hc;rw[IB];refine Eq.trans (ij (l:=[some (.d (dy t)),some (.ref σ.length),none,none,none,none]) (σ':=σ++[sL []]) ?_) e;rfl
 have htag:By t=iQ/\gx t=hG:=by
  cases t with
  |bin w a b=>
   have:w ∉ kx:=by simpa [IC] using hch
   exact⟨rfl,by simp only[gx,cJ this]⟩
  |_=>exact mY hch
 rw[j1];refine dk rfl (nE ?_) rfl;rw[htag.1];refine(g9 (Ch rfl h3 htag.2)).trans ?_;exact r7 (mW (x:=iQ) rfl rfl) (l0 rfl h2)
def gT(C:Addr->List PV->M PV)(aa:Lo):M Bool:=(dz .Eq (cM (C dS) [(cG aa 0)]) (cG aa 1))
def gB(C:Addr->List PV->M PV)(aa:Lo):M Fl:=(dn (Hu aa [3,4] (f7 [(dP (cG aa 0) (y0 (cY 2))),(dP (cG aa 0) (y0 (cY 1)))])) λaa=>(dn (oB aa (jC (cG aa 2) (d7 .Add (d7 .Add (d7 .Add (cW eP) (MW (kN kQ) (cG aa 1) (cG aa 1))) (cW eP)) (cM (C dG) [(cG aa 4),(cY 2)])))) λaa=>(dZ aa 0 (cG aa 3))))
def gR(C:Addr->List PV->M PV)(aa:Lo):M Fl:=(eJ (d7 .Add (cM (C dG) [(cG aa 0),(cY 2)]) (td (xu (cG aa 2)))))
theorem ON(C:Addr->List PV->M PV)(Cf:List PV->M Unit)(Cr:List PV->M PV)(W:Nat)(aa:Lo):lj C Cf Cr W aa=dn (dZ aa 1 (cM (C dS) [(cG aa 0)])) λaa=>dn (dZ aa 2 (m9 [])) λaa=>dn (fw (gT C) (gB C) (λaa=>(dF aa)) W aa) (gR C):=rfl
theorem SU(h:Sh t)(hn:1<=n)(w:List Nat){x2 x3:Option PV}:gT (CN W n).c [some (.d (dy t)),some (.d (.str w)),x2,x3,x4] σ=some (.ok (gx t == w),σ):=by
 have h1:=nL (σ:=σ) (W:=W) (n:=n) h hn
 (repeat' first|(with_reducible first|exact h1|exact gT|exact gI)|refine' sn rfl ?_|apply sn|rfl)
theorem LB(h:w ∈ [f8,iH,gf,eA,fg])(τ:List MO):yQ kQ (ret (.d (.str w))) (ret (.d (.str w))) τ=some (.ok (.d (.str (oN w))),τ)/\(oN w).length<=20:=by simp only[dj,dJ,dK]at h;rcases h with rfl|rfl|rfl|rfl|rfl<;>exact⟨rfl,by decide⟩
theorem Ao{v:PV}(h:m σ=some (.ok v,σ')):oB aa m σ=some (.ok (.nxt aa),σ'):=eT h
theorem IG{v:PV}{r:Option (R PV×List MO)}(hl:(aa[i]?).join=some v)(h:kz v m σ=r):jC (cG aa i) m σ=r:=by simp only[jC,bnd,cG,lift,hl,Option.map,h]
theorem XJ{a b:Tr}(hw:w ∈ [f8,iH,gf,eA,fg])(e2:∀τ,gZ τ (.d (dy t)) (.d (.int (-2)))=some (.d (dy a)))(e1:∀τ,gZ τ (.d (dy t)) (.d (.int (-1)))=some (.d (dy b)))(wb:WF b)(hn:3<=n)(hS:∀m,n<=m+1->jO W m b)(hx:(tx b).length<=1000000)(hc:Cl σ){R:List (List Nat)}(hR:R.length<=1000000){x3:Option PV}:
  gB (CN W n).c [some (.d (dy t)),some (.d (.str w)),some (.ref σ.length),x3,x4] (σ++[sL R])=some (.ok (.nxt [some (.d (dy a)),some (.d (.str w)),some (.ref σ.length),some (.d (dy a)),some (.d (dy b))]),σ++[sL ((eP++oN w++eP++tb (ew 4 b) (tx b))::R)]):=by
 obtain⟨m,rfl⟩:∃m,n=m+1:=⟨n -1,by exact dp hn rfl⟩;have w1:=mV (σ:=σ++[sL R]) (W:=W) (n:=m) (Sh.of wb) (dl hn rfl) (hS m (I2)) hx 2 (by exact fq rfl) hc.sL;have w1:(CN W (m+1)).c dG [.d (dy b),.d (.int 2)] (σ++[sL R])=some (.ok (.d (.str (tb (ew 4 b) (tx b)))),σ++[sL R]):=w1;refine oA (LB hw (σ++[sL R])) λsg sl=> ?_;have tl:=ID (ew 4 b) (tx b);have l21:eP.length=1:=rfl;unfold gB;refine(ij (l:=[some (.d (dy t)),some (.d (.str w)),some (.ref σ.length),some (.d (dy a)),some (.d (dy b))]) (σ':=σ++[sL R]) ?_).trans ?_
 ·simp[bnd,lift,ret,ja,E6,Mi,e1,e2,EP,qK,eZ,MZ,rI,rH]
 refine(ij (l:=[some (.d (dy t)),some (.d (.str w)),some (.ref σ.length),some (.d (dy a)),some (.d (dy b))]) (σ':=σ++[sL ((eP++oN w++eP++tb (ew 4 b) (tx b))::R)]) ?_).trans ?_
 ·have e:=qw (qw (qw (Yj (σ:=σ++[sL R]) eP) sg ((ie (.l (.a A1 A0) (.k 3000000)) [.l A0 (.k 20),.e A1 K1]) sl l21)) (Yj eP) (by rw[dI];exact(ie (.l (.a (.a A1 A0) A1) (.k 3000000)) [.l A0 (.k 20),.e A1 K1]) sl l21)) (ST (aa:=[some (.d (dy t)),some (.d (.str w)),some (.ref σ.length),some (.d (dy a)),some (.d (dy b))]) (i:=4) rfl w1) (by simp only[dI];exact(lx (.l (.a (.a (.a A3 A1) A3) A2) (.k 3000000)) [.l A0 (.k 1000000),.l A1 (.k 20),.l A2 (.a A0 (.k 2)),.e A3 K1]) hx sl tl l21);exact Ao (IG rfl (rn (σ:=σ) (R:=R) e hR))
 ·rfl
end
section
variable{W:Nat}
theorem OP(h:WF t)(hw:wd t= .lg w):gx t=w:=by
 match t,h with
 | .name s,_=>cases hw
 | .num i,_=>cases hw
 | .un w' t,h=>rw[oM]at hw;split at hw<;>cases hw
 | .sc w' a b,h=>cases hw;rfl
 | .mem w' t (.rng a b),h=>cases hw
 | .bin w' a b,h=>
  rw[nw]at hw;rcases j7 h.1 with q|q|q|q|q|q|q
  ·rw[ua q]at hw;cases hw
  ·rw[rg q]at hw;cases hw
  ·rw[ub q]at hw;cases hw
  ·subst q;cases hw;rfl
  ·subst q;cases hw;rfl
  ·subst q;cases hw;rfl
  ·subst q;cases hw
theorem XK(wt:WF t)(hS:∀m,n<=m+1->jO W m t)(hn:3<=n)(hc:Cl σ){R:List (List Nat)}(hx:(tx t).length+R.flatten.length<=1000000)(hR:R.length<=1000000){x3:Option PV}:∃J,gR (CN W n).c [some (.d (dy t)),some (.d (.str w)),some (.ref σ.length),x3,x4] (σ++[sL R])=some (.ok (.ret (.d (.str (tb (ew 4 t) (tx t)++R.flatten)))),σ++J):=by obtain⟨m,rfl⟩:∃m,n=m+1:=⟨n -1,by exact dp hn rfl⟩;have w1:(CN W (m+1)).c dG [.d (dy t),.d (.int 2)] (σ++[sL R])=some (.ok (.d (.str (tb (ew 4 t) (tx t)))),σ++[sL R]):=mV (σ:=σ++[sL R]) (W:=W) (n:=m) (Sh.of wt) (dl hn rfl) (hS m (I2)) ((ie (.l A0 (.k 1000000)) [.l (.a A0 A1) (.k 1000000)]) hx) 2 (by exact fq rfl) hc.sL;have h2:=Er (σ:=σ) (aa:=[some (.d (dy t)),some (.d (.str w)),some (.ref σ.length),x3,x4]) (i:=2) (R:=R) rfl (L7 hx) hR;exact⟨_,uj (qw (ST rfl w1) h2 (by have:=ID (ew 4 t) (tx t);exact R2 hx this))⟩
def Es(W n:Nat)(σ:List MO)(w:List Nat)(t:Tr):Prop:=∀(K:Nat)(R:List (List Nat))(x3 x4:Option PV),ht t<K->(tx t).length+R.flatten.length<=1000000->R.length+ht t<=1000000->
  ∃J,dn (fw (gT (CN W n).c) (gB (CN W n).c) (λaa=>(dF aa)) K [some (.d (dy t)),some (.d (.str w)),some (.ref σ.length),x3,x4]) (gR (CN W n).c) (σ++[sL R])=some (.ok (.ret (.d (.str (tx t++R.flatten)))),σ++J)
theorem GH{a b:Tr}(hw:w ∈ [f8,iH,gf,eA,fg])(ht':Sh t)(hls:gx t=w)(htx:tx t=tb (km w a) (tx a)++(eP++oN w++eP++tb (ew 4 b) (tx b)))(hht:ht a<ht t/\ht b<ht t)(e2:∀τ,gZ τ (.d (dy t)) (.d (.int (-2)))=some (.d (dy a)))(e1:∀τ,gZ τ (.d (dy t)) (.d (.int (-1)))=some (.d (dy b)))(wa:WF a)(wb:WF b)(hn:3<=n)
  (hA:(tx a).length<=1000000->∀m,n<=m+1->jO W m a)(hB:(tx b).length<=1000000->∀m,n<=m+1->jO W m b)(hc:Cl σ)(ih:gx a=w->Es W n σ w a):Es W n σ w t:=by
 intro K R x3 x4 hK hx hR;obtain⟨K,rfl⟩:∃q,K=q+1:=⟨K -1,by exact(lx (.e A3 (.a (.s A3 K1) K1)) [.c (.t A0 A1) (.t A2 A1),.t A1 A3]) hht hK⟩;rw[htx]at hx ⊢;simp only[dI]at hx;have l1:=qu (km w a) (tx a);have l2:=qu (ew 4 b) (tx b);have hb:=XJ (W:=W) (n:=n) (σ:=σ) (R:=R) (t:=t) (x3:=x3) (x4:=x4) hw e2 e1 wb hn (hB (R5 hx l1 l2)) (R5 hx l1 l2) hc ((lx (.l A3 (.k 1000000)) [.c (.t A0 A1) (.t A2 A1),.l (.a A3 A1) (.k 1000000)]) hht hR)
 have hT:gT (CN W n).c [some (.d (dy t)),some (.d (.str w)),some (.ref σ.length),x3,x4] (σ++[sL R])=some (.ok true,σ++[sL R]):=by rw[SU ht' (dq hn rfl),hls];simp
 have hfl:((eP++oN w++eP++tb (ew 4 b) (tx b))::R).flatten=(eP++oN w++eP++tb (ew 4 b) (tx b))++R.flatten:=rfl;have hfll:((eP++oN w++eP++tb (ew 4 b) (tx b))::R).flatten.length=(eP.length+(oN w).length+eP.length+(tb (ew 4 b) (tx b)).length)+R.flatten.length:=by rw[hfl];simp only[dI]
 rw[JT (pA hT hb)];by_cases q:gx a=w
 ·have hp:km w a=0:=by
   unfold km;rw[cH]
   have h5:w≠hG:=by simp only[dj,dJ,dK]at hw;rcases hw with rfl|rfl|rfl|rfl|rfl<;>decide
   right
   rw[<-q];exact GD (Sh.of wa) (by rw[q];exact h5)
  rw[hp]at hx l1 ⊢;have htb:tb 0 (tx a)=tx a:=rfl;rw[htb]at hx l1 ⊢;refine oE (ih q K ((eP++oN w++eP++tb (ew 4 b) (tx b))::R) (some (.d (dy a))) (some (.d (dy b))) ((lx (.t A0 A3) [.c (.t A0 A1) (.t A2 A1),.t A1 (.a A3 K1)]) hht hK) ((Kf (.l (.a A0 A5) (.k 1000000)) [.l (.a (.a A0 (.a (.a (.a A1 A2) A1) A3)) A4) (.k 1000000),.e A5 (.a (.a (.a (.a A1 A2) A1) A3) A4)]) hx hfll) (by simp only[eD];exact(lx (.l (.a (.a A3 K1) A0) (.k 1000000)) [.c (.t A0 A1) (.t A2 A1),.l (.a A3 A1) (.k 1000000)]) hht hR)) λJ e=> ?_;refine⟨J,e.trans ?_⟩;rw[hfl];simp only[d6]
 ·have hp:km w a=ew 4 a:=by
   unfold km ew;have:wd a≠.lg w:=λz=>q (OP wa z);simp only[this,dK]
  rw[hp]at hx l1 ⊢;obtain⟨K,rfl⟩:∃q,K=q+1:=⟨K -1,by exact(lx (.e A3 (.a (.s A3 K1) K1)) [.c (.t A0 A1) (.t A2 A1),.t A1 (.a A3 K1)]) hht hK⟩
  have hT2:∀x3 x4 τ,gT (CN W n).c [some (.d (dy a)),some (.d (.str w)),some (.ref σ.length),x3,x4] τ=some (.ok false,τ):=by intro x3 x4 τ;rw[SU (Sh.of wa) (dq hn rfl)];simp[q]
  refine oE (XK (W:=W) (n:=n) (σ:=σ) (w:=w) (R:=(eP++oN w++eP++tb (ew 4 b) (tx b))::R) (x3:=some (.d (dy a))) (x4:=some (.d (dy b))) wa (hA ((Kg (.l A5 (.k 1000000)) [.l (.a (.a A0 (.a (.a (.a A1 A2) A1) A3)) A4) (.k 1000000),.l A5 A0,.e A6 (.a (.a (.a (.a A1 A2) A1) A3) A4)]) hx l1 hfll)) hn hc ((Kg (.l (.a A5 A6) (.k 1000000)) [.l (.a (.a A0 (.a (.a (.a A1 A2) A1) A3)) A4) (.k 1000000),.l A5 A0,.e A6 (.a (.a (.a (.a A1 A2) A1) A3) A4)]) hx l1 hfll) (by simp only[eD];exact(lx (.l (.a A3 K1) (.k 1000000)) [.c (.t A0 A1) (.t A2 A1),.l (.a A3 A1) (.k 1000000)]) hht hR)) λJ e=> ?_;refine⟨J,(ij (rM (hT2 _ _ _))).trans (e.trans ?_)⟩
  rw[hfl];simp only[d6]
theorem OQ(hn:3<=n)(w:List Nat)(hw:w ∈ [f8,iH,gf,eA,fg])(H:Nat)(hH:∀u,WF u->LV u->ht u<H->(tx u).length<=1000000->∀m,n<=m+1->jO W m u)(hc:Cl σ)(t:Tr):WF t->LV t->gx t=w->ht t<=H->Es W n σ w t:=by
 have hne:w≠hG:=by simp only[dj,dJ,dK]at hw;rcases hw with rfl|rfl|rfl|rfl|rfl<;>decide
 induction t with
 |bin w' a b iha ihb=>
  intro h hlv hls hh;simp only[ht]at hh
  have hl:w' ∈ kx:=by
   by_cases q:w' ∈ kx
   ·exact q
   ·simp only[gx,cJ q]at hls;exact absurd hls.symm hne
  simp only[gx,cH hl]at hls;subst hls;refine GH hw (Sh.of h) (by simp only[gx,cH hl]) ?_ ⟨by simp only[ht];exact IZ,by simp only[ht];exact I0⟩ (λ_=>rfl) (λ_=>rfl) h.2.1 h.2.2 hn (hH a h.2.1 hlv.1 (CA hh)) (hH b h.2.2 hlv.2 (CB hh)) hc (λq=>iha h.2.1 hlv.1 q (G4 hh));simp only[kx,dj,dJ,dK]at hl;rcases hl with rfl|rfl|rfl<;>rfl
 |sc w' a b iha ihb=>
  intro h hlv hls hh;simp only[ht]at hh;simp only[gx]at hls;subst hls;exact GH hw (Sh.of h) rfl rfl ⟨by simp only[ht];exact IZ,by simp only[ht];exact I0⟩ (λ_=>rfl) (λ_=>rfl) h.2.1 h.2.2 hn (hH a h.2.1 hlv.1 (CA hh)) (hH b h.2.2 hlv.2 (CB hh)) hc (λq=>iha h.2.1 hlv.1 q (G4 hh))
 |_=>intro _ _ hls;exact absurd hls.symm hne
theorem LC(h:WF t)(hl:gx t≠hG):gx t ∈ [f8,iH,gf,eA,fg]:=by
 match t,h with
 | .sc w a b,h=>rcases h.1 with rfl|rfl<;>simp[gx]
 | .bin w a b,h=>
  by_cases q:w ∈ kx
  ·simp only[gx,cH q];simp only[kx,dj,dJ,dK]at q;rcases q with rfl|rfl|rfl<;>simp
  ·simp only[gx,cJ q]at hl;exact absurd rfl hl
 | .name s,_=>exact absurd rfl hl
 | .num i,_=>exact absurd rfl hl
 | .un w t,h=>exact absurd rfl hl
 | .mem w t (.rng a b),h=>exact absurd rfl hl
theorem Cj(h:WF t)(hlv:LV t)(hl:gx t≠hG)(hn:5<=n)(hH:∀u,WF u->LV u->ht u<ht t->(tx u).length<=1000000->∀m,n<=m+3->jO W m u)(hx:(tx t).length<=1000000)(hW:ht t<W)(hW2:ht t<=1000000):jO W n t:=by
 intro σ hc;obtain⟨m,rfl⟩:∃m,n=m+2:=⟨n -2,by exact dp hn rfl⟩;have h3:=nL (σ:=σ) (W:=W) (n:=m+1) (Sh.of h) (jw hn rfl);have h3':=nL (σ:=σ) (W:=W) (n:=m) (Sh.of h) (dl hn rfl)
 have h2:(CN W (m+1)).c iA [.d (dy t)] σ=some (.ok (.d (.str (tx t))),σ):=by
  rw[ym];refine oE (OQ (W:=W) (n:=m) (σ:=σ) (dl hn rfl) (gx t) (LC h hl) (ht t) (λu hu hl hh hxu m' hm=>hH u hu hl hh hxu m' (RX hm)) hc t h hlv rfl (ip _) W [] none none hW (by simpa using hx) (by simpa using hW2)) λJ e=> ?_;rw[List.flatten_nil,gD]at e;refine gH (σ₁:=σ) (junk:=J) rfl (vq ?_) rfl rfl hc;rw[ON];refine Eq.trans (ij (l:=[some (.d (dy t)),some (.d (.str (gx t))),none,none,none]) (σ':=σ) ?_) ?_
  ·have e1:=Ci (aa:=eR [PV.d (dy t)] [] 4) (i:=0) rfl h3';simp only[dZ,bnd,e1,ret];rfl
  refine Eq.trans (ij (l:=[some (.d (dy t)),some (.d (.str (gx t))),some (.ref σ.length),none,none]) (σ':=σ++[sL []]) rfl) e
 rw[j1];refine dk rfl (nE ?_) rfl;exact r7 (UV rfl h3 hl) (l0 rfl h2)
theorem XM(hW:1000<=W)(h:Nat):h<=500->∀t,Sh t->LV t->ht t<h->(tx t).length<=1000000->∀n,3 * h+5<=n->jO W n t:=by
 induction h with
 |zero=>intro _ t _ _ hh;omega
 |succ h ih=>
  intro hh5 t hs hlv hh hx n hn;have sub:∀u,Sh u->LV u->ht u<ht t->(tx u).length<=1000000->∀m,n<=m+3->jO W m u:=λu hu hlu h1 h2 m hm=>ih ((lx (.l A0 A2) [.l (.a A0 A3) A1,.g (.a A1 (.k 0)) (.a A2 A3)]) hh5 rfl) u hu hlu ((kI (.t A2 A1) [.t A0 (.a A1 K1),.t A2 A0]) hh h1) h2 m ((kI (.l (.a (.l 3 A0) (.k 5)) A2) [.l (.a (.l 3 (.a A0 K1)) (.k 5)) A1,.l A1 (.a A2 (.k 3))]) hn hm);cases t with
  |name s=>exact Iy (Ma hn hh)
  |num i=>exact Ly hlv (dq hW rfl) (Ma hn hh)
  |un w t=>
   have hl:(tx t).length<=(tx (.un w t)).length:=by have h1:=qu (ew 2 t) (tx t);have h2:=qu (ew 0 t) (tx t);simp only[tx];split<;>simp only[dI]<;>(first|exact(kI (.l A0 (.a A2 A1)) [.l A0 A1]) h1|exact(lx (.l A0 (.a (.a A2 A3) A1)) [.l A0 A1]) h2)
   exact OM hs (Ma hn hh) (λm hm=>sub t (Sh.of hs.2) hlv (by simp only[ht];exact RQ) ((ie (.l A1 (.k 1000000)) [.l A0 (.k 1000000),.l A1 A0]) hx hl) m ((ie (.l A0 (.a A1 (.k 3))) [.l A0 (.a A1 (.k 2))]) hm)) hx
  |rng a b=>
   have hl:(tx a).length<=(tx (.rng a b)).length/\(tx b).length<=(tx (.rng a b)).length:=by have h1:=qu (ew 3 a) (tx a);have h2:=qu (ew 3 b) (tx b);simp only[tx,dI];exact(BC (.c (.l A0 (.a (.a A1 A4) A3)) (.l A2 (.a (.a A1 A4) A3))) [.l A0 A1,.l A2 A3]) h1 h2
   exact Lz hs (EK hn hh) (λm hm=>sub a (Sh.of hs.1) hlv.1 (by simp only[ht];exact IZ) (R4 hx hl) m hm) (λm hm=>sub b (Sh.of hs.2) hlv.2 (by simp only[ht];exact I0) (R3 hx hl) m hm) hx
  |mem w t m=>cases m with
   |rng a b=>
    have hl:(tx t).length<=(tx (.mem w t (.rng a b))).length/\(tx (.rng a b)).length<=(tx (.mem w t (.rng a b))).length:=by have h1:=qu (ew 3 t) (tx t);simp only[tx,dI];exact(Kf (.c (.l A0 (.a (.a A1 A2) (.a (.a A3 A4) A5))) (.l (.a (.a A3 A4) A5) (.a (.a A1 A2) (.a (.a A3 A4) A5)))) [.l A0 A1]) h1
    exact LA hs (EK hn hh) (λm hm=>sub t (Sh.of hs.2.1) hlv.1 (by simp only[ht];exact(kI (.t A0 (.a (.ma A0 (.a (.ma A1 A2) K1)) K1)) [])) (R4 hx hl) m hm) (λm hm=>sub (.rng a b) hs.2.2 hlv.2 (by simp only[ht];exact(kI (.t (.a (.ma A0 A1) K1) (.a (.ma A2 (.a (.ma A0 A1) K1)) K1)) [])) (R3 hx hl) m hm) hx
   |_=>exact hs.elim
  |sc w a b=>
   refine Cj hs hlv ?_ (EK hn hh) (λu hu hl h1 h2 m hm=>sub u (Sh.of hu) hl h1 h2 m hm) hx (L9 hW hh5 hh) (L8 hh5 hh);rcases hs.1 with rfl|rfl<;>(simp only[gx];decide)
  |bin w a b=>
   by_cases q:w ∈ kx
   ·refine Cj hs hlv ?_ (EK hn hh) (λu hu hl h1 h2 m hm=>sub u (Sh.of hu) hl h1 h2 m hm) hx (L9 hW hh5 hh) (L8 hh5 hh);simp only[gx,cH q];intro z;subst z;exact absurd q (by decide)
   ·exact GG hs hlv (by simp[IC,q]) (EK hn hh) (λu hu hl h1 h2 m hm=>sub u (Sh.of hu) hl h1 h2 m hm) hx (L9 hW hh5 hh) (L8 hh5 hh)
  |pn=>exact hs.elim
end
section
variable{W:Nat}
noncomputable def isL(c:Nat):Bool:=decide (97<=c) && decide (c<=122)
noncomputable def AA(c:Nat):Bool:=decide (48<=c) && decide (c<=57)
noncomputable def CH:List Nat:=[97,98,99,100,101,102,103,104,105,106,107,108,109,110,111,112,113,114,115,116,117,118,119,120,121,122,48,49,50,51,52,53,54,55,56,57,32,38,40,41,42,43,45,46,47,60,61,62]
noncomputable def Ra:List Nat:=[38,40,41,42,43,45,46,47,60,61,62]
theorem OR:∀c ∈ CH,EB [c] kP=isL c:=by decide+kernel
theorem Rb:∀c ∈ CH,EB [c] vO=AA c:=by decide+kernel
theorem JU:∀c ∈ CH,EB [c] SG=(c == 32):=by decide+kernel
theorem IH:∀c ∈ Ra,EB [c] SI=true:=by decide+kernel
theorem XN:∀c ∈ CH,decide ([c]<T1)=false/\decide (WP<[c])=true\/decide ([c]<T1)=true:=by decide+kernel
theorem Rc:∀c ∈ CH,AA c=true->sX ef [c]=((c -48:Nat):Int):=by decide+kernel
theorem LD:∀c ∈ [32,41,42],sX ef [c]= -1:=by decide+kernel
end
section
variable{W:Nat}
def Yk:List Nat->Prop:=λs=>s=[]\/∃c,c ∈ CH/\s=[c]
noncomputable def xM(f:Nat->Bool):List Nat->Bool
 |c::_=>f c
 |[]=>false
theorem wx{s:List Nat}(h:Yk s)(hn:1<=n):(CN W n).c f9 [.d (.str s)] σ=some (.ok (.d (.str s)),σ):=by
 obtain⟨m,rfl⟩:∃m,n=m+1:=⟨n -1,by exact dp hn rfl⟩;rw[Bl];refine dk rfl ?_ rfl;have e1:∀x y:List Nat,gJ σ .LtE (.d (.str x)) (.d (.str y))=some (!decide (y<x)):=λ_ _=>rfl;rcases h with rfl|⟨c,hc,rfl⟩
 ·rfl
 ·rcases XN c hc with⟨h1,h2⟩|h1
  ·have g1:=e1 T1 [c];rw[h1]at g1;have g2:=e1 [c] WP;rw[h2]at g2;exact d8 vX λr=>r (ig g1) (ig g2) ⟨⟩
  ·have g1:=e1 T1 [c];rw[h1]at g1;exact d8 vX λr=>r (ig g1) ⟨⟩
theorem ne_str(x y:List Nat):gJ σ .NotEq (.d (.str x)) (.d (.str y))=some (!(x == y)):=rfl
theorem OS(hc:c ∈ CH):gJ σ .In (.d (.str [c])) nu=some (isL c):=by show some (EB [c] _)=_;rw[OR c hc]
theorem Et(hc:c ∈ CH):gJ σ .In (.d (.str [c])) pJ=some (AA c):=by show some (EB [c] _)=_;rw[Rb c hc]
theorem wy{s:List Nat}(h:Yk s)(hn:2<=n):(CN W n).c fU [.d (.str s)] σ=some (.ok (.d (.bool (xM isL s))),σ):=by
 obtain⟨m,rfl⟩:∃m,n=m+1:=⟨n -1,by exact dp hn rfl⟩;rw[v7];refine dk rfl ?_ rfl;have h1:=wx (σ:=σ) (W:=W) (n:=m) h (dl hn rfl);rcases h with rfl|⟨c,hc,rfl⟩
 ·rfl
 ·have g1:=ne_str (σ:=σ) [c] hG;have g2:=OS (σ:=σ) hc;have g3:([c] == hG)=false:=rfl;rw[g3]at g1;exact d8 w5 λr=>r (pT g3) h1 (ig g2) ⟨⟩
theorem II{s:List Nat}(h:Yk s)(hn:3<=n):(CN W n).c fy [.d (.str s)] σ=some (.ok (.d (.bool (xM (λc=>isL c || AA c) s))),σ):=by
 obtain⟨m,rfl⟩:∃m,n=m+1:=⟨n -1,by exact dp hn rfl⟩;rw[yi];refine dk rfl ?_ rfl;have h1:=wy (σ:=σ) (W:=W) (n:=m) h (dl hn rfl);rcases h with rfl|⟨c,hc,rfl⟩
 ·have g1:=ne_str (σ:=σ) [] hG;have g3:(([]:List Nat) == hG)=true:=rfl;rw[g3]at g1;exact d8 pM λr=>r h1 (pT g3) ⟨⟩
 ·have g1:=ne_str (σ:=σ) [c] hG;have g2:=Et (σ:=σ) hc;have g3:([c] == hG)=false:=rfl;rw[g3]at g1;have h1:(CN W m).c fU [.d (.str [c])] σ=some (.ok (.d (.bool (isL c))),σ):=h1;show i6 _ σ=some (.ok (.d (.bool (isL c || AA c))),σ)
  cases q:isL c<;>rw[q]at h1
  ·exact d8 pM λr=>r h1 (pT g3) (ig g2) ⟨⟩
  ·exact d8 pM λr=>r h1 ⟨⟩
theorem tP{r:List Nat}(h:T.drop p=c::r)(hT:T.length<100000):gZ σ (.d (.str T)) (.d (.int p))=some (.d (.str [c])):=by
 have hp:p<T.length:=by have:(T.drop p).length=T.length -p:=mh;rw[h]at this;simp at this;exact(kI (.t A2 A1) [.e (.a A0 K1) (.s A1 A2)]) this
 have h7:(p:Int).natAbs<2 ^ 40:=Wh hT hp;have h8:seqIndex? (p:Int) T.length=some p:=W6 hp
 have h9:T[p]? =some c:=by have:=List.head?_drop (l:=T) (i:=p);rw[h]at this;exact this.symm
 simp only[gZ,cH h7,h8,Option.bind,h9,Option.map]
theorem Ap{k:Nat}(hp:p<=T.length)(hT:T.length<100000):wQ (.d (.str T)) (some (p:Int)) (some ((p+k:Nat):Int)) σ=some (.ok (.d (.str ((T.drop p).take k))),σ):=by
 have e:cut (some (p:Int)) (some ((p+k:Nat):Int)) T=(T.drop p).take k:=by
  simp only[cut,Option.elim,clipAt_nat,qd hp];by_cases q:p+k<=T.length
  ·rw[qd q];congr 1;exact(ie (.e (.s (.a A0 A1) A0) A1) [])
  ·rw[Nat.min_eq_right (Wg q),List.take_of_length_le (by simp),List.take_of_length_le (by simp;exact(kI (.l A2 (.a A1 A0)) [.n (.l (.a A0 A1) A2)]) q)]
 show(if(cut _ _ T).length<=jP then _ else none)=_;rw[e,cH (by simp only[List.length_take,mh,jP];exact(kI (.l (.mi A2 (.s A1 A0)) (.k 4000000)) [.l A0 A1,.t A1 (.k 100000)]) hp hT)]
theorem sG{r:List Nat}(h:T.drop p=r)(hr:r≠[]):p<T.length:=by
 have:(T.drop p).length=T.length -p:=mh;rw[h]at this;have:r.length≠0:=λz=>hr (List.length_eq_zero_iff.mp z)
 omega
theorem len_str(hT:T.length<100000):jQ [.d (.str T)] σ=some (.ok (.d (.int T.length)),σ):=by show(if T.length<2 ^ 40 then _ else none)=_;rw[cH (Wf hT)]
theorem GI{s r:List Nat}(h:T.drop p=s++r):T.drop (p+s.length)=r:=by rw[<-List.drop_drop,h,List.drop_left]
def Aq(r:List Nat):Prop:=r=[]\/∃c r',r=c::r'/\(c=32\/c=41\/c=42)
theorem OT(h:c=32\/c=41\/c=42):c ∈ CH/\isL c=false/\AA c=false:=by rcases h with rfl|rfl|rfl<;>decide
theorem UY:∀c:Fin 128,(isL c.1 || AA c.1)=true->c.1 ∈ CH:=by decide+kernel
theorem SV(h:(isL c || AA c)=true)(hc:c<128):c ∈ CH:=UY ⟨c,hc⟩ h
theorem xo(h:isL c=true):c ∈ CH:=SV (by rw[h];rfl) (by simp only[isL,ej,decide_eq_true_eq]at h;exact Nat.lt_of_le_of_lt h.2 (by decide))
theorem wz(h:AA c=true):c ∈ CH:=SV (by rw[h,Bool.or_true]) (by simp only[AA,ej,decide_eq_true_eq]at h;exact Nat.lt_of_le_of_lt h.2 (by decide))
def nT(C:Addr->List PV->M PV)(aa:Lo):M Bool:=(uO [(dz .Lt (cG aa 3) (cM jQ [(cG aa 0)])),(LI [(sP (cM (C fy) [(dP (cG aa 0) (cG aa 3))])),(dz .Eq (dP (cG aa 0) (cG aa 3)) (cW ED))])])
def Zm(C:Addr->List PV->M PV)(aa:Lo):Cm Bool:=(jb [(cV .Lt (cF aa 3) (cI jQ [(cF aa 0)])),(pj [(gv (cI (C fy) [(dr (cF aa 0) (cF aa 3))])),(cV .Eq (dr (cF aa 0) (cF aa 3)) (cK ED))])])
theorem XQ:nT C aa=fG (Zm C aa):=rfl
def nB(C:Addr->List PV->M PV)(aa:Lo):M Fl:=(dn (eS (uO [(dz .Eq (dP (cG aa 0) (cG aa 3)) (cW ED)),(Sn (sP (cM (C fy) [(lG (cG aa 0) (some (d7 .Add (cG aa 3) (cY 1))) (some (d7 .Add (cG aa 3) (cY 2))))])))]) cU (dF aa)) λaa=>(dn (sp aa 4 .Add (cM (C f9) [(dP (cG aa 0) (cG aa 3))])) λaa=>(sp aa 3 .Add (cY 1))))
def Zn(C:Addr->List PV->M PV)(aa:Lo):Cm Fl:=(.seq (dm (jb [(cV .Eq (dr (cF aa 0) (cF aa 3)) (cK ED)),(oC (gv (cI (C fy) [(oI (cF aa 0) (some (dT .Add (cF aa 3) (cL 1))) (some (dT .Add (cF aa 3) (cL 2))))])))]) (.ask cU) (cZ aa)) λaa=>(.seq (oD aa 4 .Add (cI (C f9) [(dr (cF aa 0) (cF aa 3))])) λaa=>(oD aa 3 .Add (cL 1))))
theorem Zo:nB C aa=fG (Zn C aa):=rfl
def nR(C:Addr->List PV->M PV)(aa:Lo):M Fl:=(dn (eS (sP (cM (C il) [(cG aa 4)])) (eJ (f7 [(f7 [(cW jc),(cG aa 4),(cG aa 2)]),(cG aa 3)])) (dF aa)) λaa=>(eJ (f7 [(f7 [(cW fk),(cG aa 4),(cG aa 2)]),(cG aa 3)])))
def Zp(C:Addr->List PV->M PV)(aa:Lo):Cm Fl:=(.seq (dm (gv (cI (C il) [(cF aa 4)])) (df (eo [(eo [(cK jc),(cF aa 4),(cF aa 2)]),(cF aa 3)])) (cZ aa)) λaa=>(df (eo [(eo [(cK fk),(cF aa 4),(cF aa 2)]),(cF aa 3)])))
theorem Zq:nR C aa=fG (Zp C aa):=rfl
theorem LE(C:Addr->List PV->M PV)(Cf:List PV->M Unit)(Cr:List PV->M PV)(W:Nat)(aa:Lo):mJ C Cf Cr W aa=dn (dZ aa 3 (cG aa 1)) λaa=>dn (dZ aa 4 (cW hG)) λaa=>dn (fw (nT C) (nB C) (λaa=>(dF aa)) W aa) (nR C):=rfl
noncomputable def Eu(T:List Nat)(p q:Nat)(nm:List Nat):Lo:=[some (.d (.str T)),some (.d (.int p)),some (.d (.int 1)),some (.d (.int q)),some (.d (.str nm))]
theorem XR{q:Nat}{nm:List Nat}(hT:T.length<100000)(hq:q<=T.length)(h:Aq (T.drop q))(hn:3<=n):nT (CN W n).c (Eu T p q nm) σ=some (.ok false,σ):=by
 have hl:=len_str (σ:=σ) hT;rcases h with h|⟨c,r,h,hc⟩
 ·have:¬ q<T.length:=by
   have:=dN List.length h;simp at this;exact R6 this
  simp[nT,Eu,bnd,lift,ret,ja,uO,hl,ir,gJ,this]
 ·have h1:=sG h (by simp);refine wD (OT hc) λc1 c2 c3=> ?_;have h2:=tP (σ:=σ) h hT;have h3:=II (σ:=σ) (W:=W) (n:=n) (s:=[c]) (.inr ⟨c,c1,rfl⟩) hn
  have h4:gJ σ .Eq (.d (.str [c])) (.d (.str ED))=some false:=by rw[gI];rcases hc with rfl|rfl|rfl<;>rfl
  simp only[xM,c2,c3,Bool.or_false]at h3
  have h5:gJ σ .Lt (.d (.int q)) (.d (.int T.length))=some true:=by show some (decide _)=_;rw[eE (yJ h1)]
  exact fX XQ λr=>r hl (ig h5) (dC h2) h3 (dC h2) (ig h4) ⟨⟩
theorem XS{q:Nat}{r nm:List Nat}(hT:T.length<100000)(h:T.drop q=c::r)(hc:isL c=true)(hn:3<=n)(hm:nm.length<100000):nT (CN W n).c (Eu T p q nm) σ=some (.ok true,σ)/\nB (CN W n).c (Eu T p q nm) σ=some (.ok (.nxt (Eu T p (q+1) (nm++[c]))),σ):=by
 have hl:=len_str (σ:=σ) hT;have h1:=sG h (by simp);have c1:=xo hc;have h2:=tP (σ:=σ) h hT;have h3:=II (σ:=σ) (W:=W) (n:=n) (s:=[c]) (.inr ⟨c,c1,rfl⟩) hn;have h6:=wx (σ:=σ) (W:=W) (n:=n) (s:=[c]) (.inr ⟨c,c1,rfl⟩) (dq hn rfl);simp only[xM,hc,Bool.true_or]at h3
 have h5:gJ σ .Lt (.d (.int q)) (.d (.int T.length))=some true:=by show some (decide _)=_;rw[eE (yJ h1)]
 have h4:gJ σ .Eq (.d (.str [c])) (.d (.str ED))=some false:=by
  rw[gI]
  congr 1
  simp only[isL,ej,decide_eq_true_eq]at hc;rw[gO];intro z;simp only[ED,List.cons.injEq,and_true]at z;exact(lE (.f) [.c (.l (.k 97) A0) (.l A0 (.k 122)),.e A0 (.k 95)]) hc z
 have h7:uQ .Add (.d (.str nm)) (.d (.str [c]))=some (.d (.str (nm++[c]))):=by show(PC .Add (.str nm) (.str [c])).map _=_;simp only[PC,addD_ss];rw[cH (by simp only[List.length_singleton,jP];exact(lx (.l (.a A0 A3) A2) [.t A0 A1,.g (.a A1 A3) (.a A2 K1)]) hm rfl)];rfl
 have h8:uQ .Add (.d (.int q)) (.d (.int 1))=some (.d (.int ((q+1:Nat)))):=rfl
 constructor
 ·exact fX XQ λr=>r hl (ig h5) (dC h2) h3 ⟨⟩
 ·exact fX Zo λr=>r (dC h2) (ig h4) (dC h2) h6 (pz h7) (pz h8) ⟨⟩
end
section
variable{W:Nat}
theorem UZ(hT:T.length<100000)(hn:3<=n){r:List Nat}(hr:Aq r)(w:List Nat):∀(q:Nat)(nm:List Nat)(K:Nat),w.all isL=true->q<=T.length->T.drop q=w++r->w.length<K->nm.length+w.length<100000->
  fw (nT (CN W n).c) (nB (CN W n).c) (λaa=>(dF aa)) K (Eu T p q nm) σ=some (.ok (.nxt (Eu T p (q+w.length) (nm++w))),σ):=by
 induction w with
 |nil=>
  intro q nm K _ hq h hK hl;obtain⟨K,rfl⟩:∃q,K=q+1:=⟨K -1,by exact Pl hK⟩;rw[rM (XR hT hq (by rw[h];exact hr) hn)];simp[Eu,ret]
 |cons c w ih=>
  intro q nm K hw hq h hK hl;simp only[hP,ej]at hw;simp only[eD]at hK hl;obtain⟨K,rfl⟩:∃q,K=q+1:=⟨K -1,by exact Mc hK⟩;have hlt:=sG h (by simp);refine oA (XS (σ:=σ) (W:=W) (p:=p) (nm:=nm) hT h hw.1 hn ((ie (.t A0 (.k 100000)) [.t (.a A0 (.a A1 K1)) (.k 100000)]) hl)) λs1 s2=> ?_;rw[pA s1 s2,ih (q+1) (nm++[c]) K hw.2 (BE hlt) (by rw[<-List.tail_drop,h];rfl) (IY hK) (by simp;exact(ie (.t (.a (.a A0 K1) A1) (.k 100000)) [.t (.a A0 (.a A1 K1)) (.k 100000)]) hl)];simp[Nat.add_assoc,Nat.add_comm 1]
theorem IJ(hb:AE σ w jl=some b)(hn:1<=n):(CN W n).c il [.d (.str w)] σ=some (.ok (.d (.bool b)),σ):=by obtain⟨m,rfl⟩:∃m,n=m+1:=⟨n -1,by exact dp hn rfl⟩;rw[zV];refine dk rfl ?_ rfl;have:gJ σ .In (.d (.str w)) jl=some b:=hb;exact d8 AP λr=>r (ig this) ⟨⟩
theorem OU(hT:T.length<100000)(hn:4<=n){r:List Nat}(hr:Aq r)(hw:w.all isL=true)(h:T.drop p=w++r)(hp:p<=T.length)(hW:100000<=W)(hb:AE σ w jl=some b):(CN W n).c jn [.d (.str T),.d (.int p),.d (.int 1)] σ=some (.ok (.d (.tup [.tup [.str (if b=true then jc else fk),.str w,.int 1],.int ((p+w.length:Nat))])),σ):=by
 obtain⟨m,rfl⟩:∃m,n=m+1:=⟨n -1,by exact dp hn rfl⟩;rw[Bm];refine dk rfl ?_ rfl;rw[LE]
 have hwl:w.length<=T.length:=by have:=dN List.length h;simp at this;exact(lx (.l A2 A1) [.l A0 A1,.e (.s A1 A0) (.a A2 A3)]) hp this
 have hl:=UZ (σ:=σ) (W:=W) (n:=m) (p:=p) hT (dl hn rfl) hr w p [] W hw hp h ((kI (.t A2 A1) [.t A0 (.k 100000),.l (.k 100000) A1,.l A2 A0]) hT hW hwl) (by simp;exact(ie (.t A1 (.k 100000)) [.t A0 (.k 100000),.l A1 A0]) hT hwl);rw[qe]at hl;have hrs:=IJ (W:=W) (n:=m) hb (dl hn rfl);refine vq ?_;refine Eq.trans (ij (l:=[some (.d (.str T)),some (.d (.int p)),some (.d (.int 1)),some (.d (.int p)),none]) (σ':=σ) rfl) ?_;refine Eq.trans (ij (l:=Eu T p p []) (σ':=σ) rfl) ?_;refine Eq.trans (ij hl) ?_;cases b<;>exact fX Zq λr=>r hrs ⟨⟩
def rT(aa:Lo):M Bool:=(dz .Lt (cG aa 6) (cM jQ [(cG aa 0)]))
def Zr(aa:Lo):Cm Bool:=(cV .Lt (cF aa 6) (cI jQ [(cF aa 0)]))
theorem Zs:rT aa=fG (Zr aa):=rfl
def rB(C:Addr->List PV->M PV)(aa:Lo):M Fl:=(dn (dZ aa 7 (MV (kN iM) (cM (C f9) [(dP (cG aa 0) (cG aa 6))]))) λaa=>(dn (eS (uO [(dz .Eq (dP (cG aa 0) (cG aa 6)) (cW ED)),(dz .Gt (cG aa 5) (cY 0))]) cU (dF aa)) λaa=>(dn (eS (LI [(dz .Lt (cG aa 7) (cY 0)),(uO [(dz .LtE (cG aa 2) (cY 10)),(dz .GtE (cG aa 7) (cY 10))])]) (E9 aa) (dF aa)) λaa=>(dn (eS (dz .GtE (cG aa 7) (cG aa 2)) cU (dF aa)) λaa=>(dn (eS (dz .Eq (cG aa 5) (kN gm)) cU (dF aa)) λaa=>(dn (dZ aa 4 (d7 .Add (d7 .Mult (cG aa 4) (cG aa 2)) (cG aa 7))) λaa=>(dn (sp aa 5 .Add (cY 1)) λaa=>(sp aa 6 .Add (cY 1)))))))))
def Zt(C:Addr->List PV->M PV)(aa:Lo):Cm Fl:=(.seq (dA aa 7 (TF (lX iM) (cI (C f9) [(dr (cF aa 0) (cF aa 6))]))) λaa=>(.seq (dm (jb [(cV .Eq (dr (cF aa 0) (cF aa 6)) (cK ED)),(cV .Gt (cF aa 5) (cL 0))]) (.ask cU) (cZ aa)) λaa=>(.seq (dm (pj [(cV .Lt (cF aa 7) (cL 0)),(jb [(cV .LtE (cF aa 2) (cL 10)),(cV .GtE (cF aa 7) (cL 10))])]) (Nb aa) (cZ aa)) λaa=>(.seq (dm (cV .GtE (cF aa 7) (cF aa 2)) (.ask cU) (cZ aa)) λaa=>(.seq (dm (cV .Eq (cF aa 5) (lX gm)) (.ask cU) (cZ aa)) λaa=>(.seq (dA aa 4 (dT .Add (dT .Mult (cF aa 4) (cF aa 2)) (cF aa 7))) λaa=>(.seq (oD aa 5 .Add (cL 1)) λaa=>(oD aa 6 .Add (cL 1)))))))))
theorem XT:rB C aa=fG (Zt C aa):=rfl
def rR(aa:Lo):M Fl:=(dn (eS (dz .Eq (cG aa 5) (cY 0)) cU (dF aa)) λaa=>(eJ (f7 [(cG aa 4),(cG aa 5),(cG aa 6)])))
def Zu(aa:Lo):Cm Fl:=(.seq (dm (cV .Eq (cF aa 5) (cL 0)) (.ask cU) (cZ aa)) λaa=>(df (eo [(cF aa 4),(cF aa 5),(cF aa 6)])))
theorem Zv:rR aa=fG (Zu aa):=rfl
theorem LF(C:Addr->List PV->M PV)(Cf:List PV->M Unit)(Cr:List PV->M PV)(W:Nat)(aa:Lo):lh C Cf Cr W aa=dn (dZ aa 4 (cY 0)) λaa=>dn (dZ aa 5 (cY 0)) λaa=>dn (dZ aa 6 (cG aa 1)) λaa=>dn (fw rT (rB C) (λaa=>(dF aa)) W aa) rR:=rfl
noncomputable def Bz(T:List Nat)(p v cnt q:Nat)(x7:Option PV):Lo:=[some (.d (.str T)),some (.d (.int p)),some (.d (.int 10)),some (.d (.int 1)),some (.d (.int v)),some (.d (.int cnt)),some (.d (.int q)),x7]
theorem SW{v cnt q:Nat}{x7:Option PV}(hT:T.length<100000):rT (Bz T p v cnt q x7) σ=some (.ok (decide (q<T.length)),σ):=by
 have hl:=len_str (σ:=σ) hT
 have h5:gJ σ .Lt (.d (.int q)) (.d (.int T.length))=some (decide (q<T.length)):=by
  show some (decide _)=_
  congr 1
  by_cases z:q<T.length
  ·rw[eE z,eE (yJ z)]
  ·rw[ft z,ft (I1 z)]
 exact fX Zs λr=>r hl (ig h5) ⟨⟩
theorem U4{v cnt q:Nat}{r:List Nat}{x7:Option PV}(hT:T.length<100000)(h:T.drop q=c::r)(hc:c=32\/c=41\/c=42)(hn:1<=n):∃x7',rB (CN W n).c (Bz T p v cnt q x7) σ=some (.ok (.brk (Bz T p v cnt q x7')),σ):=by
 refine wD (OT hc) λc1 c2 c3=> ?_;have h2:=tP (σ:=σ) h hT;have h6:=wx (σ:=σ) (W:=W) (n:=n) (s:=[c]) (.inr ⟨c,c1,rfl⟩) (dq hn rfl);have hf:sX ef [c]= -1:=LD c (by rcases hc with rfl|rfl|rfl<;>decide)
 have hg:iM= .d (.str ef):=rfl
 have h4:gJ σ .Eq (.d (.str [c])) (.d (.str ED))=some false:=by rw[gI];rcases hc with rfl|rfl|rfl<;>rfl
 have h5:gJ σ .Lt (.d (.int (sX ef [c]))) (.d (.int 0))=some true:=by rw[hf];rfl
 refine⟨some (.d (.int (sX ef [c]))),?_⟩;exact fX XT λr=>r (Ng (fX rfl λr=>r (dC h2) h6 ⟨⟩)) (dC h2) (ig h4) (ig h5) ⟨⟩
theorem U5{v cnt q:Nat}{r:List Nat}{x7:Option PV}(hT:T.length<100000)(h:T.drop q=c::r)(hc:AA c=true)(hn:1<=n)(hv:v<100000)(hcn:cnt<80):∃x7',rB (CN W n).c (Bz T p v cnt q x7) σ=some (.ok (.nxt (Bz T p (v * 10+(c -48)) (cnt+1) (q+1) x7')),σ):=by
 have c1:=wz hc;have h2:=tP (σ:=σ) h hT;have h6:=wx (σ:=σ) (W:=W) (n:=n) (s:=[c]) (.inr ⟨c,c1,rfl⟩) (dq hn rfl);have hf:=Rc c c1 hc;have hg:iM= .d (.str ef):=rfl;have hm:gm= .d (.int 80):=rfl;simp only[AA,ej,decide_eq_true_eq]at hc;obtain⟨d,hd,hd9⟩:∃d,d=c -48/\d<10:=⟨_,rfl,by exact(lE (.t (.s A0 (.k 48)) (.k 10)) [.c (.l (.k 48) A0) (.l A0 (.k 57))]) hc⟩;rw[<-hd]at hf ⊢
 have h4:gJ σ .Eq (.d (.str [c])) (.d (.str ED))=some false:=by
  rw[gI]
  congr 1
  rw[gO];intro z;simp only[ED,List.cons.injEq,and_true]at z;exact(lE (.f) [.c (.l (.k 48) A0) (.l A0 (.k 57)),.e A0 (.k 95)]) hc z
 have h5:gJ σ .Lt (.d (.int (sX ef [c]))) (.d (.int 0))=some false:=by rw[hf];show some (decide _)=_;rw[ft (Wk hd hd9)]
 have h7:gJ σ .LtE (.d (.int 10)) (.d (.int 10))=some true:=rfl;have h8:gJ σ .GtE (.d (.int (sX ef [c]))) (.d (.int 10))=some false:=by rw[hf];show some (decide _)=_;rw[ft (Wj hd hd9)]
 have h9:gJ σ .Eq (.d (.int cnt)) gm=some false:=by
  rw[hm];show some (_ == _)=_
  congr 1
  rw[gO];exact(lE (.n (.E (.c A0) (.k 80))) [.t A0 (.k 80)]) hcn
 have b1:ly .Mult (.d (.int v)) (.d (.int 10)) σ=some (.ok (.d (.int ((v * 10:Nat)))),σ):=by show(sV .Mult (.int v) (.int 10)).map _=_;simp only[sV,addD_ss,mulD_ii];rw[cH ⟨by exact Wi hv,by decide⟩];rfl
 have b2:ly .Add (.d (.int ((v * 10:Nat)))) (.d (.int (sX ef [c]))) σ=some (.ok (.d (.int ((v * 10+d:Nat)))),σ):=by rw[hf];rfl
 have a1:uQ .Add (.d (.int cnt)) (.d (.int 1))=some (.d (.int ((cnt+1:Nat)))):=rfl;have a2:uQ .Add (.d (.int q)) (.d (.int 1))=some (.d (.int ((q+1:Nat)))):=rfl;refine⟨some (.d (.int (sX ef [c]))),?_⟩;exact fX XT λr=>r (Ng (fX rfl λr=>r (dC h2) h6 ⟨⟩)) (dC h2) (ig h4) (ig h5) (ig h7) (ig h8) (ig h8) (ig h9) b1 b2 (pz a1) (pz a2) ⟨⟩
noncomputable def dg(c:Nat):Nat:=c -48
noncomputable def Ev(v:Nat):List Nat->Nat
 |[]=>v
 |d::r=>Ev (v * 10+d) r
theorem GJ(v:Nat):Ev v []=v:=rfl
theorem uk(v d:Nat)(r:List Nat):Ev v (d::r)=Ev (v * 10+d) r:=rfl
theorem XU{v cnt q K:Nat}{x7:Option PV}(hT:T.length<100000)(hn:1<=n){r:List Nat}(hr:Aq r)(h:T.drop q=r):∃x7',fw rT (rB (CN W n).c) (λaa=>(dF aa)) (K+1) (Bz T p v cnt q x7) σ=some (.ok (.nxt (Bz T p v cnt q x7')),σ):=by
 have ht:=SW (σ:=σ) (p:=p) (v:=v) (cnt:=cnt) (q:=q) (x7:=x7) hT;rcases hr with hr|⟨c,r',hr,hc⟩
 ·have:decide (q<T.length)=false:=by
   have:=dN List.length h;rw[hr]at this;simp at this;exact ft (R6 this)
  rw[this]at ht;exact⟨x7,rM ht⟩
 ·rw[hr]at h;rw[eE (sG h (by simp))]at ht;exact(U4 hT h hc hn).elim λ_ hb=>⟨_,Nh ht hb⟩
theorem U6(hT:T.length<100000)(hn:1<=n){r:List Nat}(hr:Aq r)(ds:List Nat):∀(v cnt q:Nat)(x7:Option PV)(K:Nat),ds.all AA=true->q<=T.length->T.drop q=ds++r->ds.length<K->cnt+ds.length<=2->(ds.length=2/\v=0\/ds.length=1/\v<10\/ds.length=0)->
  ∃x7',fw rT (rB (CN W n).c) (λaa=>(dF aa)) K (Bz T p v cnt q x7) σ=some (.ok (.nxt (Bz T p (Ev v (ds.map dg)) (cnt+ds.length) (q+ds.length) x7')),σ):=by
 induction ds with
 |nil=>
  intro v cnt q x7 K _ hq h hK hl hv;obtain⟨K,rfl⟩:∃q,K=q+1:=⟨K -1,by exact Pl hK⟩;exact XU hT hn hr h
 |cons c ds ih=>
  intro v cnt q x7 K hw hq h hK hl hv;simp only[hP,ej]at hw;simp only[eD]at hK hl;obtain⟨K,rfl⟩:∃q,K=q+1:=⟨K -1,by exact Mc hK⟩;have hlt:=sG h (by simp);have ht:=SW (σ:=σ) (p:=p) (v:=v) (cnt:=cnt) (q:=q) (x7:=x7) hT;rw[eE hlt]at ht;simp only[eD]at hv;have hv2:v<100:=(ie (.t A1 (.k 100)) [.o (.c (.e (.a A0 K1) (.k 2)) (.e A1 (.k 0))) (.o (.c (.e (.a A0 K1) K1) (.t A1 (.k 10))) (.e (.a A0 K1) (.k 0)))]) hv;refine oE (U5 (σ:=σ) (W:=W) (n:=n) (p:=p) (v:=v) (cnt:=cnt) (x7:=x7) hT h hw.1 hn (mq hv2 rfl) ((ie (.t A0 (.k 80)) [.l (.a A0 (.a A1 K1)) (.k 2)]) hl)) λx8 hb=> ?_
  have hd:c -48<10:=by have:=hw.1;simp only[AA,ej,decide_eq_true_eq]at this;omega
  refine oE (ih (v * 10+(c -48)) (cnt+1) (q+1) x8 K hw.2 (BE hlt) (by rw[<-List.tail_drop,h];rfl) (IY hK) ((ie (.l (.a (.a A0 K1) A1) (.k 2)) [.l (.a A0 (.a A1 K1)) (.k 2)]) hl) ((lx (.o (.c (.e A1 (.k 2)) (.e (.a (.r A2 10) (.s A3 (.k 48))) (.k 0))) (.o (.c (.e A1 K1) (.t (.a (.r A2 10) (.s A3 (.k 48))) (.k 10))) (.e A1 (.k 0)))) [.l (.a A0 (.a A1 K1)) (.k 2),.o (.c (.e (.a A1 K1) (.k 2)) (.e A2 (.k 0))) (.o (.c (.e (.a A1 K1) K1) (.t A2 (.k 10))) (.e (.a A1 K1) (.k 0))),.t (.s A3 (.k 48)) (.k 10)]) hl hv hd)) λx9 e=> ?_;have e1:cnt+1+ds.length=cnt+(c::ds).length:=by simp only[eD];exact Mb
  have e2:q+1+ds.length=q+(c::ds).length:=by simp only[eD];exact Mb
  have e3:Ev v ((c::ds).map dg)=Ev (v * 10+dg c) (ds.map dg):=by rw[jg,uk]
  have e4:c -48=dg c:=rfl;rw[e4,e1,e2,<-e3]at e;rw[e4]at hb;exact⟨x9,(pA ht hb).trans e⟩
theorem U7(hT:T.length<100000)(hn:2<=n){ds r:List Nat}(hr:Aq r)(hw:ds.all AA=true)(h:T.drop p=ds++r)(hp:p<=T.length)(hW:10<=W)(h0:0<ds.length)(h2:ds.length<=2):(CN W n).c iV [.d (.str T),.d (.int p),.d (.int 10),.d (.int 1)] σ=some (.ok (.d (.tup [.int (Ev 0 (ds.map dg)),.int ds.length,.int ((p+ds.length:Nat))])),σ):=by
 obtain⟨m,rfl⟩:∃m,n=m+1:=⟨n -1,by exact dp hn rfl⟩;rw[yj];refine dk rfl ?_ rfl;rw[LF];refine oE (U6 (σ:=σ) (W:=W) (n:=m) (p:=p) hT (dl hn rfl) hr ds 0 0 p none W hw hp h ((ie (.t A1 A0) [.l (.k 10) A0,.t (.k 0) A1,.l A1 (.k 2)]) hW h0 h2) ((lE (.l (.a (.k 0) A0) (.k 2)) [.t (.k 0) A0,.l A0 (.k 2)]) h0 h2) ((lE (.o (.c (.e A0 (.k 2)) (.e (.k 0) (.k 0))) (.o (.c (.e A0 K1) (.t (.k 0) (.k 10))) (.e A0 (.k 0)))) [.t (.k 0) A0,.l A0 (.k 2)]) h0 h2)) λx7 hl=> ?_;rw[Nat.zero_add]at hl;refine vq ?_;refine Eq.trans (ij (l:=[some (.d (.str T)),some (.d (.int p)),some (.d (.int 10)),some (.d (.int 1)),some (.d (.int 0)),none,none,none]) (σ':=σ) rfl) ?_
 refine Eq.trans (ij (l:=[some (.d (.str T)),some (.d (.int p)),some (.d (.int 10)),some (.d (.int 1)),some (.d (.int 0)),some (.d (.int 0)),none,none]) (σ':=σ) rfl) ?_;refine Eq.trans (ij (l:=Bz T p 0 0 p none) (σ':=σ) rfl) ?_;refine Eq.trans (ij hl) ?_
 have h9:gJ σ .Eq (.d (.int ds.length)) (.d (.int 0))=some false:=by
  show some (_ == _)=_
  congr 1
  rw[gO];exact(lE (.n (.E (.c A0) (.k 0))) [.t (.k 0) A0,.l A0 (.k 2)]) h0 h2
 generalize p+ds.length=q at *;exact fX Zv λr=>r (ig h9) ⟨⟩
end
section
variable{W:Nat}
theorem IK(h1:48<=c)(h2:c<=57):AA c=true:=by unfold AA;rw[eE h1,eE h2];rfl
theorem Ar(hi:i<100):Ev 0 ((qt i).map dg)=i/\(qt i).all AA=true/\0<(qt i).length:=by
 unfold qt;have hg:∀x,dg (48+x)=x:=λx=>by unfold dg;exact(lE (.e (.s (.a (.k 48) A0) (.k 48)) A0) [])
 split
 ·refine⟨?_,?_,by simp⟩
  ·rw[jg,List.map_nil,uk,GJ,hg];exact(lE (.e (.a (.l 0 (.k 10)) A0) A0) [])
  ·simp only[hP,List.all_nil,Bool.and_true];exact IK (by omega) (by omega)
 ·refine⟨?_,?_,by simp⟩
  ·rw[jg,jg,List.map_nil,uk,uk,GJ,hg,hg];exact Wo
  ·simp only[hP,List.all_nil,Bool.and_true,ej];exact⟨IK (by omega) (by omega),IK (Wn) (Wm)⟩
theorem GK{r:List Nat}(h:Aq r):Yk (r.take 1)/\xM (λc=>isL c || AA c) (r.take 1)=false/\((r.take 1) == Nx)=false/\((r.take 1) == AM)=false/\((r.take 1) == Nw)=false/\((r.take 1) == ED)=false:=by
 rcases h with rfl|⟨c,r',rfl,hc⟩
 ·exact⟨.inl rfl,rfl,rfl,rfl,rfl,rfl⟩
 ·rcases hc with rfl|rfl|rfl
  ·exact⟨.inr ⟨_,by decide,rfl⟩,rfl,rfl,rfl,rfl,rfl⟩
  ·exact⟨.inr ⟨_,by decide,rfl⟩,rfl,rfl,rfl,rfl,rfl⟩
  ·exact⟨.inr ⟨_,by decide,rfl⟩,rfl,rfl,rfl,rfl,rfl⟩
theorem Re(T:List Nat)(hT:T.length<100000)(lo hi:Int):∃s,wQ (.d (.str T)) (some lo) (some hi) σ=some (.ok (.d (.str s)),σ):=by refine⟨cut (some lo) (some hi) T,?_⟩;show(if(cut _ _ T).length<=jP then _ else none)=_;rw[cH];simp only[cut,List.length_take,mh,jP];exact(kI (.l (.mi (.s A1 A2) (.s A0 A2)) (.k 4000000)) [.t A0 (.k 100000)]) hT
theorem Rf(hT:T.length<100000)(hn:2<=n)(hr:Aq (T.drop p))(hp:p<=T.length):(CN W n).c lY [.d (.str T),.d (.int p),.d (.int 1)] σ=some (.ok (.d (.tup [.int 0,.int p])),σ):=by obtain⟨m,rfl⟩:∃m,n=m+1:=⟨n -1,by exact dp hn rfl⟩;rw[F9];refine dk rfl ?_ rfl;refine LP (GK hr) λt1 _ _ _ t2 _=> ?_;have s1:=Ap (σ:=σ) (T:=T) (p:=p) (k:=1) hp hT;have h1:=wx (σ:=σ) (W:=W) (n:=m) t1 (dl hn rfl);have b1:ly .Add (.d (.int p)) (.d (.int 1)) σ=some (.ok (.d (.int ((p+1:Nat)))),σ):=rfl;have g1:=ne_str (σ:=σ) ((T.drop p).take 1) Nw;rw[t2]at g1;generalize p+1=p1 at *;generalize (T.drop p).take 1=X at *;exact d8 HU λr=>r b1 s1 h1 (pT t2) ⟨⟩
theorem OV(hi:i<100)(hT:T.length<100000)(hn:4<=n){r:List Nat}(hr:Aq r)(h:T.drop p=qt i++r)(hp:p<=T.length)(hW:10<=W):(CN W n).c iw [.d (.str T),.d (.int p),.d (.int 1)] σ=some (.ok (.d (.tup [.tup [.str ic,.int i,.int 1],.int ((p+(qt i).length:Nat))])),σ):=by
 obtain⟨m,rfl⟩:∃m,n=m+1:=⟨n -1,by exact dp hn rfl⟩;rw[yk];refine dk rfl ?_ rfl;refine wD (Ar hi) λv1 v2 v3=> ?_;have h1:=U7 (σ:=σ) (W:=W) (n:=m) hT (dl hn rfl) hr v2 h hp hW v3 (Ep i);rw[v1]at h1;have hd:=GI h
 have hq:p+(qt i).length<=T.length:=by have:=dN List.length h;simp at this;exact(lx (.l (.a A0 A2) A1) [.l A0 A1,.e (.s A1 A0) (.a A2 A3)]) hp this
 obtain⟨q,hqq⟩:∃q,q=p+(qt i).length:=⟨_,rfl⟩;rw[<-hqq]at h1 hd hq ⊢;have hr':Aq (T.drop q):=by rw[hd];exact hr
 refine LP (GK hr') λt1 t2 t3 t4 t5 t6=> ?_;have s1:=Ap (σ:=σ) (T:=T) (p:=q) (k:=1) hq hT;have b1:ly .Add (.d (.int q)) (.d (.int 1)) σ=some (.ok (.d (.int ((q+1:Nat)))),σ):=rfl;have b2:ly .Add (.d (.int q)) (.d (.int 2)) σ=some (.ok (.d (.int ((q+2:Nat)))),σ):=rfl;have ep:=II (σ:=σ) (W:=W) (n:=m) t1 (dl hn rfl);rw[t2]at ep;have pw:=Rf (σ:=σ) (W:=W) (n:=m) hT (dl hn rfl) hr' hq;refine oE (Re (σ:=σ) T hT ((q+1:Nat)) ((q+2:Nat))) λZ hZ=> ?_;generalize (T.drop q).take 1=X at *;have e1:gJ σ .Eq (.d (.str X)) (.d (.str Nx))=some false:=by rw[gI,t3]
 have e2:gJ σ .Eq (.d (.str X)) (.d (.str AM))=some false:=by rw[gI,t4]
 have e3:gJ σ .Eq (.d (.str X)) (.d (.str ED))=some false:=by rw[gI,t6]
 have e4:=gI σ Z iR;have e5:gJ σ .Gt (.d (.int q)) (.d (.int q))=some false:=by show some (decide _)=_;simp
 have e6:gJ σ .Lt (.d (.int 0)) (.d (.int 0))=some false:=rfl;have p1:ly .Pow (.d (.int 10)) (.d (.int 0)) σ=some (.ok (.d (.int 1)),σ):=rfl
 have m1:ly .Mult (.d (.int i)) (.d (.int 1)) σ=some (.ok (.d (.int i)),σ):=by show(sV .Mult (.int i) (.int 1)).map _=_;simp only[sV,addD_ss,mulD_ii];rw[cH ⟨by exact Wl hi v1,by decide⟩,Int.mul_one];rfl
 cases q9:(Z == iR)<;>rw[q9]at e4
 ·refine d8 tI λr=> ?_;exact r h1 b1 s1 (mT t3) b1 s1 (mT t4) pw (ig e6) b1 b2 hZ (mT q9) b1 s1 ep b1 s1 (mT t6) p1 m1 ⟨⟩
 ·refine d8 tI λr=> ?_;exact r h1 b1 s1 (mT t3) b1 s1 (mT t4) pw (ig e6) b1 b2 hZ (mT q9) (ig e5) b1 s1 ep b1 s1 (mT t6) p1 m1 ⟨⟩
end
section
variable{W:Nat}
def uK:List (List Nat):=[BV,jD,gC,Sz,zg,zi,zh,SA,SD,SE]
theorem GL(x:List Nat):gJ σ .In (.d (.str x)) rO=some (decide (x ∈ uK)):=by show some ((uK.map D.str).any (Sj x))=_;rw[Ei,Oi]
theorem OW(hT:T.length<100000)(hp:p<=T.length)(h:(T.drop p).take 2=x)(hx:x ∈ uK)(hn:1<=n):(CN W n).c fF [.d (.str T),.d (.int p),.d (.int 1)] σ=some (.ok (.d (.tup [.tup [.str i7,.str x,.int 1],.int ((p+2:Nat))])),σ):=by obtain⟨m,rfl⟩:∃m,n=m+1:=⟨n -1,by exact dp hn rfl⟩;rw[pR];refine dk rfl ?_ rfl;have s1:=Ap (σ:=σ) (T:=T) (p:=p) (k:=2) hp hT;rw[h]at s1;have c1:=GL (σ:=σ) x;rw[eE hx]at c1;have b2:ly .Add (.d (.int p)) (.d (.int 2)) σ=some (.ok (.d (.int ((p+2:Nat)))),σ):=rfl;generalize p+2=q at *;exact d8 qk λr=>r b2 s1 (ig c1) b2 s1 b2 ⟨⟩
theorem OX{r:List Nat}(hT:T.length<100000)(h:T.drop p=c::r)(hc:c ∈ Ra)(hx:(c::r).take 2 ∉ uK)(hn:1<=n):(CN W n).c fF [.d (.str T),.d (.int p),.d (.int 1)] σ=some (.ok (.d (.tup [.tup [.str i7,.str [c],.int 1],.int ((p+1:Nat))])),σ):=by
 obtain⟨m,rfl⟩:∃m,n=m+1:=⟨n -1,by exact dp hn rfl⟩;rw[pR];refine dk rfl ?_ rfl;have hp:=sG h (by simp);have s1:=Ap (σ:=σ) (T:=T) (p:=p) (k:=2) (AC hp) hT;rw[h]at s1;have c1:=GL (σ:=σ) ((c::r).take 2);rw[ft hx]at c1;have s2:=tP (σ:=σ) h hT
 have c2:gJ σ .In (.d (.str [c])) va=some true:=by show some (EB [c] _)=_;rw[IH c hc]
 have b1:ly .Add (.d (.int p)) (.d (.int 1)) σ=some (.ok (.d (.int ((p+1:Nat)))),σ):=rfl;have b2:ly .Add (.d (.int p)) (.d (.int 2)) σ=some (.ok (.d (.int ((p+2:Nat)))),σ):=rfl;generalize (c::r).take 2=X at *;generalize p+2=q at *;generalize p+1=q1 at *;exact d8 qk λr=>r b2 s1 (ig c1) (dC s2) (ig c2) (dC s2) b1 ⟨⟩
def XV(W n:Nat)(σ:List MO)(T:List Nat)(p:Nat)(t:Tk)(q:Nat)(toks:PV):Prop:=(CN W n).c ix [.d (.str T),.d (.int p),.d (.int 1),toks] σ=some (.ok (.d (.tup [t.d,.int q])),σ)
def SX(C:Addr->List PV->M PV)(aa:Lo):M Fl:=(dn (eS (sP (cM (C fU) [(cG aa 4)])) (eJ (cM (C jn) [(cG aa 0),(cG aa 1),(cG aa 2)])) (dF aa)) λaa=>(dn (eS (dz .In (cG aa 4) (kN pJ)) (eJ (cM (C iw) [(cG aa 0),(cG aa 1),(cG aa 2)])) (dF aa)) λaa=>(dn (eS (dz .Eq (cG aa 4) (cW Ny)) cU (dF aa)) λaa=>(dn (eS (dz .Eq (cG aa 4) (cW tq)) cU (dF aa)) λaa=>(eJ (cM (C fF) [(cG aa 0),(cG aa 1),(cG aa 2)]))))))
noncomputable def yr(T:List Nat)(p c:Nat)(toks:PV):Lo:=[some (.d (.str T)),some (.d (.int p)),some (.d (.int 1)),some toks,some (.d (.str [c]))]
theorem As{r:List Nat}{toks:PV}{v:PV}(hT:T.length<100000)(h:T.drop p=c::r)(hn:1<=n)(e:SX (CN W (n -1)).c (yr T p c toks) σ=some (.ok (.ret v),σ)):(CN W n).c ix [.d (.str T),.d (.int p),.d (.int 1),toks] σ=some (.ok v,σ):=by obtain⟨m,rfl⟩:∃m,n=m+1:=⟨n -1,by exact dp hn rfl⟩;rw[DV];refine dk rfl (vq ?_) rfl;have s2:=tP (σ:=σ) h hT;rw[<-e];have e2:oj (CN W m).c (CN W m).f (CN W m).r W (eR [.d (.str T),.d (.int p),.d (.int 1),toks] [] 1)=dn (dZ [some (.d (.str T)),some (.d (.int p)),some (.d (.int 1)),some toks,none] 4 (dP (cG [some (.d (.str T)),some (.d (.int p)),some (.d (.int 1)),some toks,none] 0) (cG [some (.d (.str T)),some (.d (.int p)),some (.d (.int 1)),some toks,none] 1))) (SX (CN W m).c):=rfl;rw[e2];refine ij ?_;simp[bnd,lift,ret,E6,s2,rH,yr]
theorem Ew{f:List PV->M PV}{v:PV}(hl:(aa[i]?).join=some v)(h:f [v] σ=some (.ok (.d (.bool b)),σ)):sP (cM f [cG aa i]) σ=some (.ok b,σ):=by simp[bnd,ja,lift,hl,ret,h,pX]
theorem OY{f:List PV->M PV}{j k:Nat}{u v w:PV}{r:Option (R PV×List MO)}(h1:(aa[i]?).join=some u)(h2:(aa[j]?).join=some v)(h3:(aa[k]?).join=some w)(h:f [u,v,w] σ=r):cM f [cG aa i,cG aa j,cG aa k] σ=r:=by simp[bnd,ja,lift,h1,h2,h3,ret,h]
theorem OZ{toks:PV}(hT:T.length<100000)(hn:6<=n){r:List Nat}(hr:Aq r)(hw:w.all isL=true)(hw0:w≠[])(h:T.drop p=w++r)(hW:100000<=W)(hb:AE σ w jl=some b):XV W n σ T p (if b=true then .word w else .name w) (p+w.length) toks:=by
 obtain⟨m,rfl⟩:∃m,n=m+1:=⟨n -1,by exact dp hn rfl⟩
 obtain⟨c,w',hcw⟩:∃c w',w=c::w':=by cases w with
  |nil=>exact absurd rfl hw0
  |cons c w'=>exact⟨c,w',rfl⟩
 have h':T.drop p=c::(w'++r):=by rw[h,hcw];rfl
 have hlt:=sG h' (by simp);have hc:isL c=true:=by rw[hcw]at hw;simp only[hP,ej]at hw;exact hw.1
 have e:=OU (σ:=σ) (W:=W) (n:=m) hT (dl hn rfl) hr hw h (AC hlt) hW hb;refine As hT h' (jw hn rfl) ?_;have l1:=wy (σ:=σ) (W:=W) (n:=m) (s:=[c]) (.inr ⟨c,xo hc,rfl⟩) (dl hn rfl);have l2:xM isL [c]=true:=hc;rw[l2]at l1;refine r7 (Ew (aa:=yr T p c toks) (i:=4) rfl l1) (uj (OY (aa:=yr T p c toks) rfl rfl rfl ?_));refine Eq.trans (b:=_) e ?_;cases b<;>rfl
theorem Rg{toks:PV}(hi:i<100)(hT:T.length<100000)(hn:6<=n){r:List Nat}(hr:Aq r)(h:T.drop p=qt i++r)(hW:10<=W):XV W n σ T p (.int i) (p+(qt i).length) toks:=by
 obtain⟨m,rfl⟩:∃m,n=m+1:=⟨n -1,by exact dp hn rfl⟩;refine wD (Ar hi) λ_ v2 v3=> ?_
 obtain⟨c,w',hcw⟩:∃c w',qt i=c::w':=by cases q:qt i with
  |nil=>rw[q]at v3;exact absurd v3 (by decide)
  |cons c w'=>exact⟨c,w',rfl⟩
 have h':T.drop p=c::(w'++r):=by rw[h,hcw];rfl
 have hlt:=sG h' (by simp);have hc:AA c=true:=by rw[hcw]at v2;simp only[hP,ej]at v2;exact v2.1
 have e:=OV (σ:=σ) (W:=W) (n:=m) hi hT (dl hn rfl) hr h (AC hlt) hW;refine As hT h' (jw hn rfl) ?_;have l1:=wy (σ:=σ) (W:=W) (n:=m) (s:=[c]) (.inr ⟨c,wz hc,rfl⟩) (dl hn rfl)
 have l2:xM isL [c]=false:=by show isL c=false;simp only[AA,ej,decide_eq_true_eq]at hc;unfold isL;rw[ft (Wp hc)];rfl
 rw[l2]at l1;refine(g9 (Ew (aa:=yr T p c toks) (i:=4) rfl l1)).trans ?_;have l3:=Et (σ:=σ) (wz hc);rw[hc]at l3;refine r7 ?_ (uj (OY (aa:=yr T p c toks) rfl rfl rfl e));simp[bnd,lift,ret,yr,ir,l3]
theorem Cn{r:List Nat}{toks v:PV}(hT:T.length<100000)(hn:4<=n)(h:T.drop p=c::r)(hc:c ∈ Ra)(e:(CN W (n -1)).c fF [.d (.str T),.d (.int p),.d (.int 1)] σ=some (.ok v,σ)):(CN W n).c ix [.d (.str T),.d (.int p),.d (.int 1),toks] σ=some (.ok v,σ):=by
 refine As hT h (dq hn rfl) ?_
 have hch:c ∈ CH/\isL c=false/\AA c=false/\([c] == Ny)=false/\([c] == tq)=false:=by simp only[Ra,dj,dJ,dK]at hc;rcases hc with rfl|rfl|rfl|rfl|rfl|rfl|rfl|rfl|rfl|rfl|rfl<;>decide
 refine Vy hch λc1 c2 c3 c4 c5=> ?_;clear hch;have l1:=wy (σ:=σ) (W:=W) (n:=n -1) (s:=[c]) (.inr ⟨c,c1,rfl⟩) ((lE (.l (.k 2) (.s A0 K1)) [.l (.k 4) A0]) hn);have l2:xM isL [c]=false:=c2;rw[l2]at l1;refine(g9 (Ew (aa:=yr T p c toks) (i:=4) rfl l1)).trans ?_;have l3:=Et (σ:=σ) c1;rw[c3]at l3;refine(g9 (show _=some (R.ok false,σ)from ?_)).trans ?_
 ·simp[bnd,lift,ret,yr,ir,l3]
 refine(g9 (mW (aa:=yr T p c toks) (i:=4) rfl c4)).trans ?_;refine(g9 (mW (aa:=yr T p c toks) (i:=4) rfl c5)).trans ?_;exact uj (OY (aa:=yr T p c toks) rfl rfl rfl e)
end
section
variable{W:Nat}
def kT(aa:Lo):M Bool:=(dz .Lt (cG aa 2) (cM jQ [(cG aa 0)]))
def Zw(aa:Lo):Cm Bool:=(cV .Lt (cF aa 2) (cI jQ [(cF aa 0)]))
theorem Zx:kT aa=fG (Zw aa):=rfl
def kB(C:Addr->List PV->M PV)(aa:Lo):M Fl:=(eS (dz .In (dP (cG aa 0) (cG aa 2)) (kN t9)) (dn (eS (dz .Eq (dP (cG aa 0) (cG aa 2)) (cW Js)) cU (dF aa)) λaa=>(sp aa 2 .Add (cY 1))) (eS (dz .Eq (lG (cG aa 0) (some (cG aa 2)) (some (d7 .Add (cG aa 2) (cY 2)))) (cW qi)) cU (dn (Fa aa [4,2] (cM (C ix) [(cG aa 0),(cG aa 2),(cG aa 3),(cG aa 1)])) λaa=>(oB aa (jC (cG aa 1) (cG aa 4))))))
def Zy(C:Addr->List PV->M PV)(aa:Lo):Cm Fl:=(dm (cV .In (dr (cF aa 0) (cF aa 2)) (lX t9)) (.seq (dm (cV .Eq (dr (cF aa 0) (cF aa 2)) (cK Js)) (.ask cU) (cZ aa)) λaa=>(oD aa 2 .Add (cL 1))) (dm (cV .Eq (oI (cF aa 0) (some (cF aa 2)) (some (dT .Add (cF aa 2) (cL 2)))) (cK qi)) (.ask cU) (.seq (th aa [4,2] (cI (C ix) [(cF aa 0),(cF aa 2),(cF aa 3),(cF aa 1)])) λaa=>(mB aa (tg (cF aa 1) (cF aa 4))))))
theorem XW:kB C aa=fG (Zy C aa):=rfl
theorem GM(C:Addr->List PV->M PV)(Cf:List PV->M Unit)(Cr:List PV->M PV)(W:Nat)(aa:Lo):ol C Cf Cr W aa=dn (dZ aa 1 (m9 [])) λaa=>dn (dZ aa 2 (cY 0)) λaa=>dn (dZ aa 3 (cY 1)) λaa=>dn (fw kT (kB C) (λaa=>(dF aa)) W aa) λaa=>(eJ (cG aa 1)):=rfl
noncomputable def IL(T:List Nat)(L p:Nat)(x4:Option PV):Lo:=[some (.d (.str T)),some (.ref L),some (.d (.int p)),some (.d (.int 1)),x4]
def At(σ:List MO)(toks:List Tk):List MO:=σ++[.list (toks.map Tk.d)]
theorem O0{L:Nat}(hT:T.length<100000):kT (IL T L p x4) σ=some (.ok (decide (p<T.length)),σ):=by
 have hl:=len_str (σ:=σ) hT
 have h5:gJ σ .Lt (.d (.int p)) (.d (.int T.length))=some (decide (p<T.length)):=by
  show some (decide _)=_
  congr 1
  by_cases z:p<T.length
  ·rw[eE z,eE (yJ z)]
  ·rw[ft z,ft (I1 z)]
 exact fX Zx λr=>r hl (ig h5) ⟨⟩
theorem U8{L:Nat}{r:List Nat}(hT:T.length<100000)(h:T.drop p=32::r):kB (CN W n).c (IL T L p x4) σ=some (.ok (.nxt (IL T L (p+1) x4)),σ):=by
 have s2:=tP (σ:=σ) h hT
 have c1:gJ σ .In (.d (.str [32])) t9=some true:=by show some (EB [32] _)=_;rw[JU 32 (by decide)];rfl
 have c2:gJ σ .Eq (.d (.str [32])) (.d (.str Js))=some false:=rfl;have a2:uQ .Add (.d (.int p)) (.d (.int 1))=some (.d (.int ((p+1:Nat)))):=rfl;generalize p+1=q at *;exact fX XW λr=>r (dC s2) (ig c1) (dC s2) (ig c2) (pz a2) ⟨⟩
theorem U9{q:Nat}{r:List Nat}{t:Tk}{toks:List Tk}(hT:T.length<100000)(h:T.drop p=c::r)(hc:c ∈ CH)(hg:c≠32)(hm:((c::r).take 2 == qi)=false)(hl:toks.length<100000)(e:XV W n (At σ toks) T p t q (.ref σ.length)):kB (CN W n).c (IL T σ.length p x4) (At σ toks)=some (.ok (.nxt (IL T σ.length q (some (.d t.d)))),At σ (toks++[t])):=by
 have s2:=tP (σ:=At σ toks) h hT;have hp:=sG h (by simp)
 have c1:gJ (At σ toks) .In (.d (.str [c])) t9=some false:=by
  show some (EB [c] _)=_;rw[JU c hc]
  congr 1
  rw[gO];exact hg
 have s1:=Ap (σ:=At σ toks) (T:=T) (p:=p) (k:=2) (AC hp) hT;rw[h]at s1;have c3:gJ (At σ toks) .Eq (.d (.str ((c::r).take 2))) (.d (.str qi))=some false:=by rw[gI,hm]
 have b2:ly .Add (.d (.int p)) (.d (.int 2)) (At σ toks)=some (.ok (.d (.int ((p+2:Nat)))),At σ toks):=rfl;have r1:qN (At σ toks) (.ref σ.length)=some (σ.length,toks.map Tk.d):=by simp[qN,At]
 have ap:kz (.ref σ.length) (ret (.d t.d)) (At σ toks)=some (.ok (.d .none),At σ (toks++[t])):=by simp only[kz,r1,Option.bind,bnd,ret];rw[cH (by simp only[f6,eZ];exact mq hl rfl)];simp[At]
 unfold XV at e;exact fX XW λr=>r (dC s2) (ig c1) b2 s1 (ig c3) e ap ⟨⟩
def AtP(W n:Nat)(σ:List MO)(T:List Nat)(K p:Nat)(toks:List Tk)(res:Option (R Fl×List MO)):Prop:=∀x4,dn (fw kT (kB (CN W n).c) (λaa=>(dF aa)) K (IL T σ.length p x4)) (λaa=>(eJ (cG aa 1))) (At σ toks)=res
def Lx(W n:Nat)(σ:List MO)(T:List Nat)(s:List Nat)(l:List Tk)(A:List Nat->Prop):Prop:=∀p r toks,T.drop p=s++r->A r->toks.length+l.length<100000->∃c,c<=s.length/\∀K res,AtP W n σ T K (p+s.length) (toks++l) res->AtP W n σ T (K+c) p toks res
theorem Lx.app{s1 s2:List Nat}{l1 l2:List Tk}{A1 A2:List Nat->Prop}(h1:Lx W n σ T s1 l1 A1)(h2:Lx W n σ T s2 l2 A2)(h:∀r,A2 r->A1 (s2++r)):Lx W n σ T (s1++s2) (l1++l2) A2:=by intro p r toks hd ha hl;rw[dI]at hl;rw[d6]at hd;refine eN (h1 p (s2++r) toks hd (h r ha) ((kI (.t (.a (.v 0) (.v 1)) (.k 100000)) [.t (.a (.v 0) (.a (.v 1) (.v 2))) (.k 100000)]) hl)) λc1 k1 f1=> ?_;refine eN (h2 (p+s1.length) r (toks++l1) (GI hd) ha (by rw[dI];exact(kI (.t (.a (.a (.v 0) (.v 1)) (.v 2)) (.k 100000)) [.t (.a (.v 0) (.a (.v 1) (.v 2))) (.k 100000)]) hl)) λc2 k2 f2=> ?_;refine⟨c2+c1,by rw[dI];exact(lx (.l (.a (.v 2) (.v 0)) (.a (.v 1) (.v 3))) [.l (.v 0) (.v 1),.l (.v 2) (.v 3)]) k1 k2,λK res e=> ?_⟩;rw[dI,<-Nat.add_assoc,<-d6]at e;rw[<-Nat.add_assoc];exact f1 _ _ (f2 _ _ e)
theorem Lx.mono{s:List Nat}{A B:List Nat->Prop}(h:Lx W n σ T s l A)(hb:∀r,B r->A r):Lx W n σ T s l B:=λp r toks hd ha hl=>h p r toks hd (hb r ha) hl
theorem Au(hT:T.length<100000):Lx W n σ T [32] [] (λ_=>True):=by intro p r toks hd _ _;refine⟨1,ip _,λK res e x4=> ?_⟩;have hlt:=sG hd (by simp);have ht:=O0 (σ:=At σ toks) (L:=σ.length) (p:=p) (x4:=x4) hT;rw[eE hlt]at ht;rw[JT (pA ht (U8 hT hd))];rw[gD]at e;exact e x4
theorem Ex{s:List Nat}{t:Tk}{A:List Nat->Prop}(hT:T.length<100000)(hs:∀r,A r->∃c r',s++r=c::r'/\c ∈ CH/\c≠32/\((c::r').take 2 == qi)=false)(h0:s≠[])(e:∀p r toks,T.drop p=s++r->A r->XV W n (At σ toks) T p t (p+s.length) (.ref σ.length)):Lx W n σ T s [t] A:=by
 intro p r toks hd ha hl
 have hs0:1<=s.length:=by cases s with
  |nil=>exact absurd rfl h0
  |cons=>simp
 refine⟨1,hs0,λK res e' x4=> ?_⟩;refine uM (hs r ha) λc r' h1 h2 h3 h4=> ?_;have hd':=hd;rw[h1]at hd';have hlt:=sG hd' (by simp);have ht:=O0 (σ:=At σ toks) (L:=σ.length) (p:=p) (x4:=x4) hT;rw[eE hlt]at ht;rw[JT (pA ht (U9 hT hd' h2 h3 h4 (Wq hl) (e p r toks hd ha)))];exact e' _
theorem JV(hT:T.length<100000)(hn:6<=n)(hW:100000<=W)(hw:w.all isL=true)(hw0:w≠[])(hb:∀τ,AE τ w jl=some b):Lx W n σ T w [if b=true then .word w else .name w] Aq:=by
 refine Ex hT (λr hr=> ?_) hw0 (λp r toks hd ha=>OZ hT hn ha hw hw0 hd hW (hb _));cases w with
 |nil=>exact absurd rfl hw0
 |cons c w'=>
  simp only[hP,ej]at hw;refine⟨c,w'++r,rfl,xo hw.1,?_,?_⟩
  ·intro z;subst z;exact absurd hw.1 (by decide)
  ·rw[gO];intro z
   have:c=45:=by
    cases hq:w'++r with
    |nil=>rw[hq]at z;cases z
    |cons d q=>rw[hq]at z;simp only[qi,List.take_succ_cons,List.take_zero,List.cons.injEq]at z;exact z.1
   subst this;exact absurd hw.1 (by decide)
theorem Va(hi:i<100)(hT:T.length<100000)(hn:6<=n)(hW:10<=W):Lx W n σ T (qt i) [.int i] Aq:=by
 refine wD (Ar hi) λ_ v2 v3=> ?_;have h0:qt i≠[]:=by intro z;rw[z]at v3;exact absurd v3 (by decide)
 refine Ex hT (λr hr=> ?_) h0 (λp r toks hd ha=>Rg hi hT hn ha hd hW);cases q:qt i with
 |nil=>exact absurd q h0
 |cons c w'=>
  rw[q]at v2;simp only[hP,ej]at v2;refine⟨c,w'++r,rfl,wz v2.1,?_,?_⟩
  ·intro z;subst z;exact absurd v2.1 (by decide)
  ·rw[gO];intro z
   have:c=45:=by
    cases hq:w'++r with
    |nil=>rw[hq]at z;cases z
    |cons d q=>rw[hq]at z;simp only[qi,List.take_succ_cons,List.take_zero,List.cons.injEq]at z;exact z.1
   subst this;exact absurd v2.1 (by decide)
theorem IM{A:List Nat->Prop}(hT:T.length<100000)(hn:6<=n)(hc:c ∈ Ra)(ha:∀r,A r->(c::r).take 2 ∉ uK/\((c::r).take 2 == qi)=false):Lx W n σ T [c] [.op [c]] A:=by
 have hch:c ∈ CH/\c≠32:=by simp only[Ra,dj,dJ,dK]at hc;rcases hc with rfl|rfl|rfl|rfl|rfl|rfl|rfl|rfl|rfl|rfl|rfl<;>decide
 refine Ex hT (λr hr=>⟨c,r,rfl,hch.1,hch.2,(ha r hr).2⟩) (by simp) (λp r toks hd hr=> ?_);exact Cn hT (dq hn rfl) hd hc (OX hT hd hc (ha r hr).1 (R7 hn))
theorem IN{d:Nat}(hT:T.length<100000)(hn:6<=n)(hc:c ∈ Ra)(hx:[c,d] ∈ uK):Lx W n σ T [c,d] [.op [c,d]] (λ_=>True):=by
 have hch:c ∈ CH/\c≠32:=by simp only[Ra,dj,dJ,dK]at hc;rcases hc with rfl|rfl|rfl|rfl|rfl|rfl|rfl|rfl|rfl|rfl|rfl<;>decide
 have h2:([c,d] == qi)=false:=by rw[gO];intro z;rw[z]at hx;exact absurd hx (by decide)
 refine Ex hT (λr _=>⟨c,d::r,rfl,hch.1,hch.2,h2⟩) (by simp) (λp r toks hd hr=> ?_);have hp:=sG hd (by simp);exact Cn hT (dq hn rfl) (c:=c) (r:=d::r) hd hc (OW (σ:=At σ toks) (p:=p) (x:=[c,d]) hT (AC hp) (by rw[hd];rfl) hx (R7 hn))
end
section
variable{W:Nat}
def Rh:List Nat->Prop:=λ_=>True
def Sp:List Nat->Prop:=λr=>∃r',r=32::r'
theorem Ey{r:List Nat}(h:Sp r):Aq r:=by refine oE h λr' ez1=> ?_;clear h;subst ez1;exact .inr ⟨32,r',rfl,.inl rfl⟩
theorem XX(c:Nat)(r:List Nat):(c::r).take 2=[c]\/∃d,(c::r).take 2=[c,d]:=by
 cases r with
 |nil=>exact .inl rfl
 |cons d r=>exact .inr ⟨d,rfl⟩
theorem JW(hc:c=40\/c=41\/c=43\/c=45)(r:List Nat):(c::r).take 2 ∉ uK:=by intro z;have h:uK.all (λl=>l.headD 0 != 40 &&(l.headD 0 != 41 &&(l.headD 0 != 43 && l.headD 0 != 45)))=true:=rfl;have h:=fu.mp h _ z;rcases hc with q|q|q|q<;>(rw[q]at h;exact mY h)
theorem Ri(hc:c≠45)(r:List Nat):((c::r).take 2 == qi)=false:=by
 rw[gO];rcases XX c r with h|⟨d,h⟩<;>rw[h]<;>intro z<;>simp[qi]at z
 exact hc z.1
theorem Av(hT:T.length<100000)(hn:6<=n)(hc:c=40\/c=41\/c=43):Lx W n σ T [c] [.op [c]] Rh:=
 IM hT hn (by rcases hc with rfl|rfl|rfl<;>decide) (λr _=>⟨JW (by rcases hc with h|h|h<;>simp[h]) r,Ri ((lE (.n (.e A0 (.k 45))) [.o (.e A0 (.k 40)) (.o (.e A0 (.k 41)) (.e A0 (.k 43)))]) hc) r⟩)
theorem O1(hT:T.length<100000)(hn:6<=n):Lx W n σ T [45] [.op [45]] (λr=>∃c r',r=c::r'/\c≠45):=
 IM hT hn (by decide) (λr hr=>⟨JW (by simp) r,by refine mZ hr λc r' ez1 hc=> ?_;clear hr;subst ez1;rw[gO];intro z;simp[qi]at z;exact hc z⟩)
theorem Rj(hT:T.length<100000)(hn:6<=n)(hc:c ∈ [38,42,43,45,47,60,61,62]):Lx W n σ T [c] [.op [c]] Sp:=
 IM hT hn (by simp only[dj,dJ,dK]at hc;rcases hc with rfl|rfl|rfl|rfl|rfl|rfl|rfl|rfl<;>decide) (λr hr=>by refine oE hr λr' ez1=> ?_;clear hr;subst ez1;show [c,32] ∉ uK/\([c,32] == qi)=false;simp only[dj,dJ,dK]at hc;rcases hc with rfl|rfl|rfl|rfl|rfl|rfl|rfl|rfl<;>decide)
theorem r8(hT:T.length<100000)(hn:6<=n)(hW:100000<=W)(hw:w ∈ [ji,gc,qg,qh,f8,nn,iH,nq,gf,fY]):Lx W n σ T w [.word w] Aq:=by
 have h:w.all isL=true/\w≠[]/\∀τ,AE τ w jl=some true:=by simp only[dj,dJ,dK]at hw;rcases hw with rfl|rfl|rfl|rfl|rfl|rfl|rfl|rfl|rfl|rfl<;>exact⟨by decide,by decide,λ_=>rfl⟩
 exact JV (b:=true) hT hn hW h.1 h.2.1 h.2.2
theorem Vb(hT:T.length<100000)(hn:6<=n)(hW:100000<=W)(hw:w=Sw\/w=Sx\/w=Sy):Lx W n σ T w [.name w] Aq:=by
 have h:w.all isL=true/\w≠[]/\∀τ,AE τ w jl=some false:=by rcases hw with rfl|rfl|rfl<;>exact⟨by decide,by decide,λ_=>rfl⟩
 exact JV (b:=false) hT hn hW h.1 h.2.1 h.2.2
theorem r9(hT:T.length<100000){s:List Nat}(h:Lx W n σ T s l Sp):Lx W n σ T ([32]++s++[32]) l Rh:=by
 have h1:=(Lx.app (Au (W:=W) (n:=n) (σ:=σ) hT) h (λ_ _=>trivial)).app (Au hT) (λr _=>⟨r,rfl⟩);have h2:Lx W n σ T ([32]++s++[32]) l (λ_=>True):=by simpa using h1
 exact h2
theorem XY(hT:T.length<100000)(hn:6<=n)(hW:100000<=W)(hw:w ∈ sN):Lx W n σ T (bT w) [iW w] Rh:=by
 have one:∀c,c ∈ [38,42,43,45,47,60,61,62]->w=[c]->w ∈ Jx->w≠gC->Lx W n σ T (bT w) [iW w] Rh:=by
  intro c hc e hs hne;have:bT w=[32]++w++[32]:=by unfold bT;rw[cJ hne];rfl
  rw[this];unfold iW;rw[cH hs];subst e;exact r9 hT (Rj hT hn hc)
 have two:∀c d,c ∈ Ra->w=[c,d]->[c,d] ∈ uK->w ∈ Jx->w≠gC->Lx W n σ T (bT w) [iW w] Rh:=by
  intro c d hc e hx hs hne;have:bT w=[32]++w++[32]:=by unfold bT;rw[cJ hne];rfl
  rw[this];unfold iW;rw[cH hs];subst e;exact r9 hT ((IN hT hn hc hx).mono (λ_ _=>trivial))
 have wrd:w ∈ [ji,gc,qg,qh,f8,nn,iH,nq,gf,fY]->w ∉ Jx->w≠gC->Lx W n σ T (bT w) [iW w] Rh:=by
  intro hx hs hne;have:bT w=[32]++w++[32]:=by unfold bT;rw[cJ hne];rfl
  rw[this];unfold iW;rw[cJ hs];exact r9 hT ((r8 hT hn hW hx).mono (λ_ h=>Ey h))
 rcases j7 hw with q|q|q|q|q|q|q
 ·simp only[qb,dj,dJ,dK]at q;rcases q with rfl|rfl|rfl<;>exact one _ (by decide) rfl (by decide) (by decide)
 ·simp only[oK,dj,dJ,dK]at q;rcases q with rfl|rfl|rfl|rfl
  ·exact one _ (by decide) rfl (by decide) (by decide)
  ·exact one _ (by decide) rfl (by decide) (by decide)
  ·exact wrd (by decide) (by decide) (by decide)
  ·exact wrd (by decide) (by decide) (by decide)
 ·simp only[m7,dj,dJ,dK]at q;rcases q with rfl|rfl|rfl|rfl|rfl|rfl
  ·exact one _ (by decide) rfl (by decide) (by decide)
  ·exact two _ _ (by decide) rfl (by decide) (by decide) (by decide)
  ·exact one _ (by decide) rfl (by decide) (by decide)
  ·exact two _ _ (by decide) rfl (by decide) (by decide) (by decide)
  ·exact one _ (by decide) rfl (by decide) (by decide)
  ·exact two _ _ (by decide) rfl (by decide) (by decide) (by decide)
 ·subst q;exact wrd (by decide) (by decide) (by decide)
 ·subst q;exact wrd (by decide) (by decide) (by decide)
 ·subst q;exact wrd (by decide) (by decide) (by decide)
 ·subst q;exact(IN (c:=42) (d:=42) hT hn (by decide) (by decide)).mono (λ_ _=>trivial)
theorem Vc(r:List Nat):Aq (bT w++r):=by
 unfold bT
 set_option tactic.hygienic true in split
 ·rename_i h;subst h;exact .inr ⟨42,42::r,rfl,.inr (.inr rfl)⟩
 ·exact .inr ⟨32,w++eP++r,by simp[eP],.inl rfl⟩
theorem uL(hT:T.length<100000)(hn:6<=n){s:List Nat}(h:Lx W n σ T s l Aq)(c:Nat):Lx W n σ T (tb c s) (brk c l) Aq:=by
 unfold tb brk;split
 ·exact h
 ·have:=(Lx.app (Av (W:=W) (n:=n) (σ:=σ) (c:=40) hT hn (.inl rfl)) (Lx.app h (Av (c:=41) hT hn (.inr (.inl rfl))) (λr _=> .inr ⟨41,r,rfl,.inr (.inl rfl)⟩)) (λ_ _=>trivial)).mono (B:=Aq) (λ_ _=>trivial)
  simpa [fT,eY] using this
theorem XZ(t:Tr)(h:WF t)(hv:LV t)(hp:ew 2 t=0):∃c r,tx t=c::r/\c≠45:=by
 match t,h with
 | .name s,_=>
  rcases hv with rfl|rfl|rfl<;>exact⟨_,_,rfl,by decide⟩
 | .num i,_=>
  show ∃c r,qt i=c::r/\c≠45;unfold qt;split
  ·exact⟨_,_,rfl,by omega⟩
  ·exact⟨_,_,rfl,by omega⟩
 | .un w t,h=>
  have hw:=h.1;simp only[Bu,dj,dJ,dK]at hw;rcases hw with rfl|rfl|rfl|rfl
  ·exact absurd hp (by unfold ew;rw[oM];decide)
  ·exact⟨97,_,rfl,by decide⟩
  ·exact⟨110,_,rfl,by decide⟩
  ·exact absurd hp (by unfold ew;rw[oM];decide)
 | .bin w a b,h=>
  have key:(mP (cls w) a=0->ew 2 a=0)/\(cls w= .high\/cls w= .scaled):=by
   unfold ew at hp;rw[nw]at hp;rcases Ak (a:=a) (b:=b) h.1 with q|q|q|q|q|q|q|q|q<;>rw[q]at hp ⊢
   ·exact⟨λz=>by have:=tL (show 0<=2 by exact fq rfl) a;have z':ew 0 a=0:=z;exact(ie (.e A0 (.k 0)) [.l A0 A1,.e A1 (.k 0)]) this z',.inl rfl⟩
   ·exact⟨λz=>z,.inr rfl⟩
   all_goals exact absurd hp (by decide)
  rw[IE];by_cases z:mP (cls w) a=0
  ·refine mZ (XZ a h.2.1 hv.1 (key.1 z)) λc r e hc=> ?_;refine⟨c,r++(bT w++tb (kE (cls w) b) (tx b)),?_,hc⟩;unfold tb;rw[cH z,e];rfl
  ·refine⟨40,tx a++eY++(bT w++tb (kE (cls w) b) (tx b)),?_,by decide⟩;show(if mP (cls w) a=0 then tx a else fT++tx a++eY)++_=_;rw[cJ z];rfl
 | .sc w a b,h=>exact absurd hp (by unfold ew;show ¬((if 5<=2 then 0 else 1)=0);simp)
 | .mem w t (.rng a b),h=>exact absurd hp (by unfold ew;show ¬((if 4<=2 then 0 else 1)=0);simp)
theorem X0(h:WF t)(hv:LV t)(r:List Nat):∃c r',tb (ew 2 t) (tx t)++r=c::r'/\c≠45:=by
 by_cases z:ew 2 t=0
 ·refine mZ (XZ t h hv z) λc r' e hc=> ?_;refine⟨c,r'++r,?_,hc⟩;unfold tb;rw[cH z,e];rfl
 ·refine⟨40,tx t++eY++r,?_,by decide⟩;show(if ew 2 t=0 then tx t else fT++tx t++eY)++r=_;rw[cJ z];rfl
theorem nM(hT:T.length<100000)(hn:6<=n)(hW:100000<=W)(t:Tr)(h:Sh t)(hv:LV t):Lx W n σ T (tx t) (tk t) Aq:=by
 match t,h with
 | .name s,_=>exact Vb hT hn hW hv
 | .num i,_=>exact Va hv hT hn (dq hW rfl)
 | .un w t,h=>
  have h1:=nM hT hn hW t (Sh.of h.2) hv;have hw:=h.1;simp only[Bu,dj,dJ,dK]at hw
  have word:∀w,(w=ji\/w=gc)->Lx W n σ T (tx (.un w t)) (tk (.un w t)) Aq:=by
   intro w hw;have e1:tx (.un w t)=w++[32]++tb (ew 0 t) (tx t):=by rcases hw with rfl|rfl<;>rfl
   have e2:tk (.un w t)=[.word w]++[]++brk (ew 0 t) (tk t):=by rcases hw with rfl|rfl<;>rfl
   rw[e1,e2];exact Lx.app (Lx.app (r8 hT hn hW (by rcases hw with rfl|rfl<;>decide)) (Au hT) (λr _=> .inr ⟨32,r,rfl,.inl rfl⟩)) (uL hT hn h1 _) (λ_ _=>trivial)
  rcases hw with rfl|rfl|rfl|rfl
  ·have e1:tx (.un iR t)=[45]++tb (ew 2 t) (tx t):=rfl;have e2:tk (.un iR t)=[.op [45]]++brk (ew 2 t) (tk t):=rfl;rw[e1,e2];exact Lx.app (O1 hT hn) (uL hT hn h1 _) (λr _=>X0 h.2 hv r)
  ·exact word _ (.inl rfl)
  ·exact word _ (.inr rfl)
  ·have e1:tx (.un i8 t)=[43]++tb (ew 2 t) (tx t):=rfl;have e2:tk (.un i8 t)=[.op [43]]++brk (ew 2 t) (tk t):=rfl;rw[e1,e2];exact Lx.app (Av hT hn (.inr (.inr rfl))) (uL hT hn h1 _) (λr _=>trivial)
 | .bin w a b,h=>
  have h1:=nM hT hn hW a (Sh.of h.2.1) hv.1;have h2:=nM hT hn hW b (Sh.of h.2.2) hv.2;have e2:tk (.bin w a b)=brk (mP (cls w) a) (tk a)++([iW w]++brk (kE (cls w) b) (tk b)):=rfl;rw[IE,e2];exact Lx.app (uL hT hn h1 _) (Lx.app (XY hT hn hW h.1) (uL hT hn h2 _) (λ_ _=>trivial)) (λr _=>by rw[d6];exact Vc _)
 | .sc w a b,h=>
  have h1:=nM hT hn hW a (Sh.of h.2.1) hv.1;have h2:=nM hT hn hW b (Sh.of h.2.2) hv.2;have e2:tk (.sc w a b)=brk (km w a) (tk a)++(z7 w++brk (ew 4 b) (tk b)):=rfl
  have two:∀u v,u ∈ [ji,gc,qg,qh,f8,nn,iH,nq,gf,fY]->v ∈ [ji,gc,qg,qh,f8,nn,iH,nq,gf,fY]->Lx W n σ T ([32]++(u++([32]++v))++[32]) ([.word u]++([]++[.word v])) Rh:=by intro u v hu hv;exact r9 hT (Lx.app (r8 hT hn hW hu) (Lx.app (Au hT) ((r8 hT hn hW hv).mono (λ_ h=>Ey h)) (λ_ _=>trivial)) (λr _=> .inr ⟨32,v++r,rfl,.inl rfl⟩))
  have hm:Lx W n σ T (eP++oN w++eP) (z7 w) Rh:=by
   rcases h.1 with rfl|rfl
   ·exact two f8 nn (by decide) (by decide)
   ·exact two iH nq (by decide) (by decide)
  rw[XG,e2];exact Lx.app (uL hT hn h1 _) (Lx.app hm (uL hT hn h2 _) (λ_ _=>trivial)) (λr _=> .inr ⟨32,oN w++eP++tb (ew 4 b) (tx b)++r,by simp[eP],.inl rfl⟩)
 | .mem w t (.rng a b),h=>
  have h1:=nM hT hn hW t (Sh.of h.2.1) hv.1;have h2:=nM hT hn hW (.rng a b) h.2.2 hv.2
  have e1:tx (.mem w t (.rng a b))=tb (ew 3 t) (tx t)++(yq w++tx (.rng a b)):=by show tb (ew 3 t) (tx t)++yq w++tx (.rng a b)=_;rw[d6]
  have e2:tk (.mem w t (.rng a b))=brk (ew 3 t) (tk t)++(oq w++tk (.rng a b)):=rfl
  have hm:Lx W n σ T (yq w) (oq w) Rh:=by
   rcases h.1 with rfl|rfl
   ·exact r9 (s:=fY) hT ((r8 hT hn hW (by decide)).mono (λ_ h=>Ey h))
   ·exact r9 (s:=gc++([32]++fY)) (l:=[.word gc]++([]++[.word fY])) hT (Lx.app (r8 hT hn hW (by decide)) (Lx.app (Au hT) ((r8 hT hn hW (by decide)).mono (λ_ h=>Ey h)) (λ_ _=>trivial)) (λr _=> .inr ⟨32,fY++r,rfl,.inl rfl⟩))
  rw[e1,e2];refine Lx.app (uL hT hn h1 _) (Lx.app hm h2 (λ_ _=>trivial)) (λr _=> ?_);rcases h.1 with rfl|rfl
  ·exact .inr ⟨32,_,rfl,.inl rfl⟩
  ·exact .inr ⟨32,_,rfl,.inl rfl⟩
 | .rng a b,h=>
  have h1:=nM hT hn hW a (Sh.of h.1) hv.1;have h2:=nM hT hn hW b (Sh.of h.2) hv.2
  have e1:tx (.rng a b)=tb (ew 3 a) (tx a)++(vM++tb (ew 3 b) (tx b)):=by show tb (ew 3 a) (tx a)++vM++tb (ew 3 b) (tx b)=_;rw[d6]
  have e2:tk (.rng a b)=brk (ew 3 a) (tk a)++([.op jD]++brk (ew 3 b) (tk b)):=rfl;rw[e1,e2];exact Lx.app (uL hT hn h1 _) (Lx.app (r9 (s:=jD) hT ((IN (c:=46) (d:=46) hT hn (by decide) (by decide)).mono (λ_ _=>trivial))) (uL hT hn h2 _) (λ_ _=>trivial)) (λr _=> .inr ⟨32,_,rfl,.inl rfl⟩)
theorem O2(h:WF t)(hv:LV t)(hT:(tx t).length<100000)(hl:(tk t).length<100000)(hn:7<=n)(hW:100001<=W):(CN W n).c kU [.d (.str (tx t))] σ=some (.ok (.ref σ.length),σ++[.list ((tk t).map Tk.d)]):=by
 obtain⟨m,rfl⟩:∃m,n=m+1:=⟨n -1,by exact dp hn rfl⟩;rw[DW];refine uh rfl (vq ?_) (by simp[PV.below]);rw[GM];refine Eq.trans (ij (l:=[some (.d (.str (tx t))),some (.ref σ.length),none,none,none]) (σ':=At σ []) rfl) ?_;refine Eq.trans (ij (l:=[some (.d (.str (tx t))),some (.ref σ.length),some (.d (.int 0)),none,none]) (σ':=At σ []) rfl) ?_;refine Eq.trans (ij (l:=IL (tx t) σ.length 0 none) (σ':=At σ []) rfl) ?_;refine eN (nM (σ:=σ) (W:=W) (n:=m) hT (dl hn rfl) (dq hW rfl) t (Sh.of h) hv 0 [] [] (by simp) (.inl rfl) (by simpa using hl)) λc hc hx=> ?_;obtain⟨K,rfl⟩:∃K,W=K+1+c:=⟨W -1 -c,by exact(kI (.e A1 (.a (.a (.s (.s A1 K1) A2) K1) A2)) [.t A0 (.k 100000),.l (.k 100001) A1,.l A2 A0]) hT hW hc⟩
 refine hx (K+1) _ (λx4=> ?_) none;rw[Nat.zero_add,qe];have ht:=O0 (σ:=At σ (tk t)) (L:=σ.length) (p:=(tx t).length) (x4:=x4) hT;rw[ft (Wr)]at ht;refine(ij ((rM ht).trans rfl)).trans rfl
end
def Zz:Tk->Bool
 | .name _=>true
 | .op s=>s == eY
 |_=>false
def ok2(x y:Tk):Prop:=Zz x=true->y≠.op fT
noncomputable def nb:List Tk->Prop
 |x::y::l=>ok2 x y/\nb (y::l)
 |_=>True
theorem wA{x:Tk}(h:nb (x::l)):nb l:=by
 cases l with
 |nil=>trivial
 |cons y l=>exact h.2
theorem mX{x:Tk}(hx:Zz x=false)(h:nb l):nb (x::l):=by
 cases l with
 |nil=>trivial
 |cons y l=>exact⟨λz=>absurd z (by rw[hx];decide),h⟩
theorem vv{x:Tk}{m:List Tk}(h:nb l)(hm:nb (x::m))(hx:x≠.op fT):nb (l++x::m):=by
 induction l with
 |nil=>exact hm
 |cons y l ih=>
  have:=ih (wA h);cases l with
  |nil=>exact⟨λ_=>hx,hm⟩
  |cons z l=>exact⟨h.1,this⟩
theorem Aw{m:List Tk}(h:nb (l++m)):nb m:=by
 induction l with
 |nil=>exact h
 |cons x l ih=>exact ih (wA h)
theorem GN(w:List Nat)(hw:w≠eY):Zz (iW w)=false:=by
 unfold iW;split
 ·show(w == eY)=false;rw[gO];exact hw
 ·rfl
theorem tQ(h:nb l)(c:Nat):nb (brk c l):=by
 unfold brk;split
 ·exact h
 ·exact mX (by decide) (vv h trivial (by decide))
theorem JX(h:w ∈ sN):w≠eY:=by intro z;subst z;exact absurd h (by decide)
theorem O3(h:w ∈ Bu):w≠eY:=by intro z;subst z;exact absurd h (by decide)
theorem tR(t:Tr)(h:Sh t):nb (tk t):=by
 match t,h with
 | .name s,_=>trivial
 | .num i,_=>trivial
 | .un w t,h=>exact mX (GN w (O3 h.1)) (tQ (tR t (Sh.of h.2)) _)
 | .bin w a b,h=>exact vv (tQ (tR a (Sh.of h.2.1)) _) (mX (GN w (JX h.1)) (tQ (tR b (Sh.of h.2.2)) _)) (v9 w)
 | .sc w a b,h=>
  have h1:=tQ (tR a (Sh.of h.2.1)) (km w a);have h2:=tQ (tR b (Sh.of h.2.2)) (ew 4 b);show nb (brk (km w a) (tk a)++(z7 w++brk (ew 4 b) (tk b)));unfold z7;split
  ·exact vv h1 (mX rfl (mX rfl h2)) (by decide)
  ·exact vv h1 (mX rfl (mX rfl h2)) (by decide)
 | .mem w t (.rng a b),h=>
  have h1:=tQ (tR t (Sh.of h.2.1)) (ew 3 t);have h2:=tR (.rng a b) h.2.2;show nb (brk (ew 3 t) (tk t)++(oq w++tk (.rng a b)));unfold oq;split
  ·exact vv h1 (mX rfl h2) (by decide)
  ·exact vv h1 (mX rfl (mX rfl h2)) (by decide)
 | .rng a b,h=>exact vv (tQ (tR a (Sh.of h.1)) _) (mX (by decide) (tQ (tR b (Sh.of h.2)) _)) (by decide)
def gd(x:Tk):Bool:=Ef x && x.ok
theorem JY(h:w ∈ sN\/w ∈ Bu):gd (iW w)=true:=by
 have h1:∀w ∈ sN,gd (iW w)=true:=by decide
 have h2:∀w ∈ Bu,gd (iW w)=true:=by decide
 exact h.elim (h1 w) (h2 w)
theorem tS(h:l.all gd=true)(c:Nat):(brk c l).all gd=true:=by
 unfold brk;split
 ·exact h
 ·simp only[hP,List.all_append,List.all_nil,h,Bool.and_true];decide
theorem sH(t:Tr)(h:Sh t)(hv:LV t):(tk t).all gd=true:=by
 match t,h with
 | .name s,_=>
  rcases hv with rfl|rfl|rfl<;>decide
 | .num i,_=>rfl
 | .un w t,h=>
  simp only[tk,hP,JY (.inr h.1),tS (sH t (Sh.of h.2) hv),Bool.and_true]
 | .bin w a b,h=>
  simp only[tk,hP,List.all_append,JY (.inl h.1),tS (sH a (Sh.of h.2.1) hv.1),tS (sH b (Sh.of h.2.2) hv.2),Bool.and_true]
 | .sc w a b,h=>
  have:(z7 w).all gd=true:=by unfold z7;split<;>decide
  simp only[tk,List.all_append,this,tS (sH a (Sh.of h.2.1) hv.1),tS (sH b (Sh.of h.2.2) hv.2),Bool.and_true]
 | .mem w t (.rng a b),h=>
  have:(oq w).all gd=true:=by unfold oq;split<;>decide
  have h2:=sH (.rng a b) h.2.2 hv.2;have e:tk (.mem w t (.rng a b))=brk (ew 3 t) (tk t)++(oq w++tk (.rng a b)):=rfl;rw[e];simp only[List.all_append,this,tS (sH t (Sh.of h.2.1) hv.1),h2,Bool.and_true]
 | .rng a b,h=>
  have:gd (.op jD)=true:=by decide
  simp only[tk,hP,List.all_append,this,tS (sH a (Sh.of h.1) hv.1),tS (sH b (Sh.of h.2) hv.2),Bool.and_true]
noncomputable def na:List Tk->Prop
 |x::y::l=>(∀s,x= .name s->y≠.op fT)/\na (y::l)
 |_=>True
theorem SY(h:nb l):na l:=by
 induction l with
 |nil=>trivial
 |cons x l ih=>
  cases l with
  |nil=>trivial
  |cons y l=>exact⟨λs e=>h.1 (by rw[e];rfl),ih h.2⟩
theorem JZ(h:l.all gd=true)(hn:na l):rU l:=by
 refine⟨?_,?_⟩
 ·rw[fu]at h ⊢;intro x hx;have:=h x hx;simp only[gd,ej]at this;exact this.1
 ·clear h
  induction l with
  |nil=>intro i s h;simp at h
  |cons x l ih=>
   intro i s h;cases l with
   |nil=>simp
   |cons y l=>
    cases i with
    |zero=>
     simp only[List.getElem?_cons_zero,nN]at h;simp only[Nat.zero_add,List.getElem?_cons_succ,List.getElem?_cons_zero,ne_eq,nN];exact hn.1 s h
    |succ i=>
     simp only[List.getElem?_cons_succ]at h ⊢;exact ih hn.2 i s h
theorem GO(h:l.all gd=true):l.all Tk.ok=true:=by rw[fu]at h ⊢;intro x hx;have:=h x hx;simp only[gd,ej]at this;exact this.2
theorem J0{m:List Tk}(h:nb l)(hm:na m)(hj:∀x y l' m',l=l'++[x]->m=y::m'->∀s,x= .name s->y≠.op fT):na (l++m):=by
 induction l with
 |nil=>exact hm
 |cons x l ih=>
  have h2:=ih (wA h) (λa b l' m' e1 e2=>hj a b (x::l') m' (by rw[e1];rfl) e2);cases l with
  |nil=>
   cases m with
   |nil=>trivial
   |cons y m=>exact⟨hj x y [] m rfl rfl,hm⟩
  |cons z l=>exact⟨λs e=>h.1 (by rw[e];rfl),h2⟩
theorem GP{m:List Tk}(h:nb (l++m)):nb l:=by
 induction l with
 |nil=>trivial
 |cons x l ih=>
  cases l with
  |nil=>trivial
  |cons y l=>exact⟨h.1,ih h.2⟩
theorem Vd{A B C:List Tk}(h:nb (A++ .op fT::(B++ .op eY::C))):na (A++(B++C)):=by
 have hA:=GP h;have h1:=wA (Aw h);have hB:=GP h1;have hC0:=Aw h1;have hC:=wA hC0;refine J0 hA (J0 hB (SY hC) ?_) ?_
 ·intro x y l' m' e1 e2 s hx;subst e2;exact hC0.1 (by decide)
 ·intro x y l' m' e1 e2 s hx
  exfalso
  subst e1;rw[d6]at h;have:=(Aw h).1;exact this (by rw[hx];rfl) rfl
mutual
noncomputable def D.pl:D->Bool
 | .none=>false
 | .bool _=>false
 | .int _=>true
 | .str _=>true
 | .tup xs=>D.pls xs
noncomputable def D.pls:List D->Bool
 |[]=>true
 |x::xs=>x.pl && D.pls xs
end
mutual
theorem O4:∀x y:D,x.pl=true->y.pl=true->(PyData.eqv x.py y.py=true↔x=y)
 | .int a,.int b,_,_=>by simp[D.py,PyData.eqv]
 | .int a,.str b,_,_=>by simp[D.py,PyData.eqv]
 | .int a,.tup b,_,_=>by simp[D.py,PyData.eqv]
 | .str a,.int b,_,_=>by simp[D.py,PyData.eqv]
 | .str a,.str b,_,_=>by
  simp only[D.py,PyData.eqv,Ih,kc]
  constructor
  ·intro h;rw[h]
  ·intro h;cases h;rfl
 | .str a,.tup b,_,_=>by simp[D.py,PyData.eqv]
 | .tup a,.int b,_,_=>by simp[D.py,PyData.eqv]
 | .tup a,.str b,_,_=>by simp[D.py,PyData.eqv]
 | .tup a,.tup b,h1,h2=>by
  have:=J3 a b h1 h2;simp only[D.py,PyData.eqv,this]
  constructor
  ·intro h;rw[h]
  ·intro h;cases h;rfl
 | .none,_,h,_=>by exact mY h
 | .bool _,_,h,_=>by exact mY h
 | .int _,.none,_,h=>by exact mY h
 | .int _,.bool _,_,h=>by exact mY h
 | .str _,.none,_,h=>by exact mY h
 | .str _,.bool _,_,h=>by exact mY h
 | .tup _,.none,_,h=>by exact mY h
 | .tup _,.bool _,_,h=>by exact mY h
theorem J3:∀x y:List D,D.pls x=true->D.pls y=true->(PyData.eqvAll (D.pys x) (D.pys y)=true↔x=y)
 |[],[],_,_=>by simp[D.pys,PyData.eqvAll]
 |[],y::ys,_,_=>by simp[D.pys,PyData.eqvAll]
 |x::xs,[],_,_=>by simp[D.pys,PyData.eqvAll]
 |x::xs,y::ys,h1,h2=>by simp only[D.pls,ej]at h1 h2;simp only[D.pys,PyData.eqvAll,ej,O4 x y h1.1 h2.1,J3 xs ys h1.2 h2.2,List.cons.injEq]
end
theorem O5(t:Tr):(dy t).pl=true:=by
 induction t with
 |name s=>rfl
 |num i=>rfl
 |un w t ih=>simp[dy,D.pl,D.pls,ih]
 |bin w a b iha ihb=>simp[dy,D.pl,D.pls,iha,ihb]
 |sc w a b iha ihb=>simp[dy,D.pl,D.pls,iha,ihb]
 |mem w a b iha ihb=>simp[dy,D.pl,D.pls,iha,ihb]
 |rng a b iha ihb=>simp[dy,D.pl,D.pls,iha,ihb]
 |pn t ih=>simp[dy,D.pl,D.pls,ih]
theorem nk{C:Prop}{a b:Nat}(h:a=b)(k:Nat.beq a b=false):C:=by subst h;rw[Nat.beq_refl]at k;exact nomatch k
theorem Ax{a b:D}{l m:List D}(e:D.tup (a::l)= .tup (b::m)):a=b/\D.tup l= .tup m:=⟨(List.cons.inj (D.tup.inj e)).1,dN D.tup (List.cons.inj (D.tup.inj e)).2⟩
theorem t2{a b c d:D}(e:D.tup [a,b]= .tup [c,d]):a=c/\b=d:=⟨(Ax e).1,(Ax (Ax e).2).1⟩
theorem t3{a b x c d y:D}(e:D.tup [a,b,x]= .tup [c,d,y]):a=c/\b=d/\x=y:=⟨(Ax e).1,t2 (Ax e).2⟩
def kTr(w:List Nat):Nat:=if w=fk then 0 else if w=ic then 1 else if w=lH then 2 else if w=iQ then 3 else if w=eA\/w=fg then 4 else if w=fD then 6 else if w=t7 then 7 else 5
noncomputable def ZA:Tr->Nat
 | .name _=>0
 | .num _=>1
 | .un .. =>2
 | .bin .. =>3
 | .sc .. =>4
 | .mem .. =>5
 | .rng .. =>6
 | .pn _=>7
theorem J4(h:PT t):kTr (By t)=ZA t:=by
 cases t with
 |sc w a b=>rcases h.1 with q|q<;>subst q<;>rfl
 |mem w a b=>rcases h.1 with q|q<;>subst q<;>rfl
 |_=>rfl
theorem tU{u:Tr}(h1:PT t)(h2:PT u)(h:dy t=dy u):ZA t=ZA u:=by rw[<-J4 h1,<-J4 h2];refine oE (uf t) λl e=>oE (uf u) λm e'=> ?_;rw[e,e']at h;exact dN kTr (D.str.inj (Ax h).1)
theorem Rk:∀{u:Tr},PT t->PT u->dy t=dy u->t=u:=by
 induction t with
 |name s=>intro u h1 h2 e;have hk:=tU h1 h2 e;cases u with
  |name s'=>exact dN Tr.name (D.str.inj (t2 e).2)
  |_=>exact nk hk rfl
 |num i=>intro u h1 h2 e;have hk:=tU h1 h2 e;cases u with
  |num j=>exact dN Tr.num (Int.ofNat.inj (D.int.inj (t2 e).2))
  |_=>exact nk hk rfl
 |un w t ih=>intro u h1 h2 e;have hk:=tU h1 h2 e;cases u with
  |un w' t'=>have e:=(t3 e).2;rw[D.str.inj e.1,ih h1.2 h2.2 e.2]
  |_=>exact nk hk rfl
 |bin w a b iha ihb=>intro u h1 h2 e;have hk:=tU h1 h2 e;cases u with
  |bin w' a' b'=>have e:=t3 (Ax e).2;rw[D.str.inj e.1,iha h1.2.1 h2.2.1 e.2.1,ihb h1.2.2 h2.2.2 e.2.2]
  |_=>exact nk hk rfl
 |sc w a b iha ihb=>intro u h1 h2 e;have hk:=tU h1 h2 e;cases u with
  |sc w' a' b'=>have e:=t3 e;rw[D.str.inj e.1,iha h1.2.1 h2.2.1 e.2.1,ihb h1.2.2 h2.2.2 e.2.2]
  |_=>exact nk hk rfl
 |mem w a b iha ihb=>intro u h1 h2 e;have hk:=tU h1 h2 e;cases u with
  |mem w' a' b'=>have e:=t3 e;rw[D.str.inj e.1,iha h1.2.1 h2.2.1 e.2.1,ihb h1.2.2 h2.2.2 e.2.2]
  |_=>exact nk hk rfl
 |rng a b iha ihb=>intro u h1 h2 e;have hk:=tU h1 h2 e;cases u with
  |rng a' b'=>have e:=t3 e;rw[iha h1.1 h2.1 e.2.1,ihb h1.2 h2.2 e.2.2]
  |_=>exact nk hk rfl
 |pn t ih=>intro u h1 h2 e;have hk:=tU h1 h2 e;cases u with
  |pn t'=>rw[ih h1.2 h2.2 (t2 e).2]
  |_=>exact nk hk rfl
theorem J5{u:Tr} [Decidable (t=u)](h1:PT t)(h2:PT u)(s1:sz t<=60)(s2:sz u<=60):l5 (dy t) (dy u)=some (decide (t=u)):=by
 have d1:=yD h1;have d2:=yD h2;have o1:=Eh h1;have o2:=Eh h2;refine oE (uf t) λl e1=> ?_;refine oE (uf u) λm e2=> ?_
 have hd:I8 (dy t) (dy u)=decide (t=u):=by
  have:=O4 (dy t) (dy u) (O5 t) (O5 u);by_cases q:t=u
  ·rw[eE q];exact this.mpr (by rw[q])
  ·rw[ft q];cases z:I8 (dy t) (dy u)
   ·rfl
   ·exact absurd (Rk h1 h2 (this.mp z)) q
 rw[<-hd];rw[e1]at d1 o1 ⊢;rw[e2]at d2 o2 ⊢;exact JI o1 o2 (Me s1 d1) (Me s2 d2)
theorem GQ{u:Tr}(h2:PT u)(s2:sz u<=60):l5 .none (dy u)=some false:=by have d2:=yD h2;have o2:=Eh h2;refine oE (uf u) λm e2=> ?_;rw[e2]at d2 o2 ⊢;show(if D.none.ok &&(D.tup _).ok && decide (D.none.dep<=64) && decide ((D.tup _).dep<=64)then some (I8 .none (.tup _))else none)=_;rw[o2,eE (show(D.tup (D.str (By u)::m)).dep<=64 by exact Me s2 d2)];rfl
theorem tW{t:Tr}(h:Sh t)(hv:LV t):PT t:=by
 have asc_b:∀w ∈ sN,Pe w=true:=by decide
 have asc_u:∀w ∈ Bu,Pe w=true:=by decide
 match t,h with
 | .name s,_=>
  rcases hv with rfl|rfl|rfl
  ·show Pe Sw=true;decide
  ·show Pe Sx=true;decide
  ·show Pe Sy=true;decide
 | .num i,_=>trivial
 | .un w t,h=>exact⟨asc_u w h.1,tW (Sh.of h.2) hv⟩
 | .bin w a b,h=>exact⟨asc_b w h.1,tW (Sh.of h.2.1) hv.1,tW (Sh.of h.2.2) hv.2⟩
 | .sc w a b,h=>exact⟨h.1,tW (Sh.of h.2.1) hv.1,tW (Sh.of h.2.2) hv.2⟩
 | .mem w t (.rng a b),h=>exact⟨h.1,tW (Sh.of h.2.1) hv.1,tW (t:= .rng a b) h.2.2 hv.2⟩
 | .rng a b,h=>exact⟨tW (Sh.of h.1) hv.1,tW (Sh.of h.2) hv.2⟩
theorem pV{t:Tr}(h:Sh t):sz t<=ops (tk t):=by
 have c1:∀w,w ∈ sN\/w ∈ Bu->sE (iW w)=true:=by
  have h1:∀w ∈ sN,sE (iW w)=true:=by decide
  have h2:∀w ∈ Bu,sE (iW w)=true:=by decide
  exactλw h=>h.elim (h1 w) (h2 w)
 match t,h with
 | .name s,_=>exact iq _
 | .num i,_=>exact iq _
 | .un w t,h=>
  have:=pV (Sh.of h.2);simp only[tk,sz,kn,mU,c1 w (.inr h.1),if_true];exact RH this
 | .bin w a b,h=>
  have tz1:=pV (Sh.of h.2.1);have tz2:=pV (Sh.of h.2.2);simp only[tk,sz,nK,kn,mU,c1 w (.inl h.1),if_true];exact(lx (.l (.a (.a A0 A2) K1) (.a A1 (.a A3 K1))) [.l A0 A1,.l A2 A3]) tz1 tz2
 | .sc w a b,h=>
  have tz3:=pV (Sh.of h.2.1);have tz4:=pV (Sh.of h.2.2);have tz5:ops (z7 w)=2:=by unfold z7;split<;>decide
  simp only[tk,sz,nK,mU];exact(BC (.l (.a (.a A0 A2) K1) (.a A1 (.a A4 A3))) [.l A0 A1,.l A2 A3,.e A4 (.k 2)]) tz3 tz4 tz5
 | .mem w t (.rng a b),h=>
  have tz6:=pV (Sh.of h.2.1);have h3:=pV (t:= .rng a b) h.2.2;have tz7:1<=ops (oq w):=by unfold oq;split<;>decide
  have e:tk (.mem w t (.rng a b))=brk (ew 3 t) (tk t)++(oq w++tk (.rng a b)):=rfl;rw[e,nK,nK,mU];simp only[sz]at h3 ⊢;exact(Kf (.l (.a (.a A0 (.a (.a A2 A3) K1)) K1) (.a A1 (.a A5 A4))) [.l A0 A1,.l (.a (.a A2 A3) K1) A4,.l K1 A5]) tz6 h3 tz7
 | .rng a b,h=>
  have tz8:=pV (Sh.of h.1);have tz9:=pV (Sh.of h.2);have:sE (.op jD)=true:=by decide
  simp only[tk,sz,nK,kn,mU,this,if_true];exact(lx (.l (.a (.a A0 A2) K1) (.a A1 (.a A3 K1))) [.l A0 A1,.l A2 A3]) tz8 tz9
theorem tX{s:List Nat}(h:s.length<=10 * l.length)(c:Nat):(tb c s).length<=10 *(brk c l).length:=by
 unfold tb brk;split
 ·exact h
 ·simp only[dI,eD,List.length_nil];have tz10:fT.length=1:=rfl;have:eY.length=1:=rfl;exact(lx (.l (.a (.a A2 A0) A3) (.l 10 (.a (.a A1 (.a (.k 0) K1)) K1))) [.l A0 (.l 10 A1),.e A2 K1,.e A3 K1]) h tz10 this
theorem qD{t:Tr}(h:Sh t)(hv:LV t):(tx t).length<=10 *(tk t).length:=by
 have lb:∀w ∈ sN,(bT w).length<=10:=by decide
 have lu:∀w ∈ Bu,w.length<=3:=by decide
 match t,h with
 | .name s,_=>rcases hv with rfl|rfl|rfl<;>decide
 | .num i,_=>
  have:=Ep i;simp only[tx,tk,eD,List.length_nil];exact(lE (.l A0 (.l 10 (.a (.k 0) K1))) [.l A0 (.k 2)]) this
 | .un w t,h=>
  have h1:=qD (Sh.of h.2) hv;have h2:=tX h1 (vd w t);have h3:=lu w h.1;have h21:eP.length=1:=rfl;simp only[tk,eD];unfold vd at h2 ⊢;simp only[tx];by_cases q:w=i8\/w=iR
  ·rw[cH q]at h2 ⊢;rw[cH q];simp only[dI];exact(kI (.l (.a A2 A0) (.l 10 (.a A1 K1))) [.l A0 (.l 10 A1),.l A2 (.k 3)]) h2 h3
  ·rw[cJ q]at h2 ⊢;rw[cJ q];simp only[dI];exact(lx (.l (.a (.a A2 A3) A0) (.l 10 (.a A1 K1))) [.l A0 (.l 10 A1),.l A2 (.k 3),.e A3 K1]) h2 h3 h21
 | .bin w a b,h=>
  have h1:=tX (qD (Sh.of h.2.1) hv.1) (mP (cls w) a);have h2:=tX (qD (Sh.of h.2.2) hv.2) (kE (cls w) b);have h3:=lb w h.1;simp only[tx,tk,dI,eD];exact(BC (.l (.a A0 (.a A4 A2)) (.l 10 (.a A1 (.a A3 K1)))) [.l A0 (.l 10 A1),.l A2 (.l 10 A3),.l A4 (.k 10)]) h1 h2 h3
 | .sc w a b,h=>
  have h1:=tX (qD (Sh.of h.2.1) hv.1) (km w a);have h2:=tX (qD (Sh.of h.2.2) hv.2) (ew 4 b);have h3:(oN w).length<=8/\(z7 w).length=2:=by rcases h.1 with rfl|rfl<;>decide
  have h21:eP.length=1:=rfl;simp only[tx,tk,dI];exact(Kg (.l (.a A0 (.a (.a (.a A6 A4) A6) A2)) (.l 10 (.a A1 (.a A5 A3)))) [.l A0 (.l 10 A1),.l A2 (.l 10 A3),.c (.l A4 (.k 8)) (.e A5 (.k 2)),.e A6 K1]) h1 h2 h3 h21
 | .mem w t (.rng a b),h=>
  have h1:=tX (qD (Sh.of h.2.1) hv.1) (ew 3 t);have h2:=qD (t:= .rng a b) h.2.2 hv.2;have h3:(yq w).length<=8/\1<=(oq w).length:=by rcases h.1 with rfl|rfl<;>decide
  have e1:tx (.mem w t (.rng a b))=tb (ew 3 t) (tx t)++yq w++tx (.rng a b):=rfl;have e2:tk (.mem w t (.rng a b))=brk (ew 3 t) (tk t)++(oq w++tk (.rng a b)):=rfl;rw[e1,e2];simp only[dI];exact(Kf (.l (.a (.a A0 A4) A2) (.l 10 (.a A1 (.a A5 A3)))) [.l A0 (.l 10 A1),.l A2 (.l 10 A3),.c (.l A4 (.k 8)) (.l K1 A5)]) h1 h2 h3
 | .rng a b,h=>
  have h1:=tX (qD (Sh.of h.1) hv.1) (ew 3 a);have h2:=tX (qD (Sh.of h.2) hv.2) (ew 3 b);have h22:vM.length=4:=rfl;simp only[tx,tk,dI,eD];exact(BC (.l (.a (.a A0 A4) A2) (.l 10 (.a A1 (.a A3 K1)))) [.l A0 (.l 10 A1),.l A2 (.l 10 A3),.e A4 (.k 4)]) h1 h2 h22
theorem se{t:Tr}(h:WF t):ht t<=2 * mS t:=by
 match t,h with
 | .name s,_=>exact iq _
 | .num i,_=>exact iq _
 | .un w t,h=>have:=se h.2;exact(ie (.l (.a A0 K1) (.l 2 (.a A1 K1))) [.l A0 (.l 2 A1)]) this
 | .bin w a b,h=>have tz11:=se h.2.1;have tz12:=se h.2.2;exact(lx (.l (.a (.ma A0 A2) K1) (.l 2 (.a (.ma A1 A3) K1))) [.l A0 (.l 2 A1),.l A2 (.l 2 A3)]) tz11 tz12
 | .sc w a b,h=>have tz13:=se h.2.1;have tz14:=se h.2.2;exact(lx (.l (.a (.ma A0 A2) K1) (.l 2 (.a (.ma A1 A3) K1))) [.l A0 (.l 2 A1),.l A2 (.l 2 A3)]) tz13 tz14
 | .mem w t (.rng a b),h=>have tz15:=se h.2.1;have tz16:=se h.2.2.1;have:=se h.2.2.2;exact(Kf (.l (.a (.ma A0 (.a (.ma A2 A4) K1)) K1) (.l 2 (.a (.ma A1 (.ma A3 A5)) K1))) [.l A0 (.l 2 A1),.l A2 (.l 2 A3),.l A4 (.l 2 A5)]) tz15 tz16 this
section
variable{W:Nat}
abbrev Sc:=List Nat×List (Nat×Nat)
def Rm(i:Nat)(x:Tk)(s:Sc):Option Sc:=if x= .op fT then some (s.1++[i],s.2)else if x= .op eY then s.1.getLast?.map λj=>(s.1.dropLast,s.2++[(j,i)])else some s
noncomputable def wB:Nat->List Tk->Sc->Option Sc
 |_,[],s=>some s
 |i,x::l,s=>(Rm i x s).bind (wB (i+1) l)
theorem GS(l m:List Tk):∀(i:Nat)(s:Sc),wB i (l++m) s=(wB i l s).bind (wB (i+l.length) m):=by
 induction l with
 |nil=>intro i s;rfl
 |cons x l ih=>
  intro i s;simp only[mj,wB,eD];cases Rm i x s with
  |none=>rfl
  |some s'=>
   simp only[gQ];rw[ih,show i+1+l.length=i+(l.length+1) by exact Mb]
def VP(l:List Tk)(i:Nat)(p:Nat×Nat):Prop:=∃A B C,l=A++ .op fT::(B++ .op eY::C)/\p=(i+A.length,i+A.length+B.length+1)
def Co(l:List Tk):Prop:=∀(i:Nat)(st:List Nat)(ps:List (Nat×Nat)),∃P,wB i l (st,ps)=some (st,ps++P)/\P.length=gq l/\∀p ∈ P,VP l i p
theorem Co.nil:Co []:=λi st ps=>⟨[],by simp[wB],rfl,λp h=>by simp at h⟩
theorem Co.app{m:List Tk}(h1:Co l)(h2:Co m):Co (l++m):=by
 intro i st ps;refine ou (h1 i st ps) λP e1 n1 v1=> ?_;refine ou (h2 (i+l.length) st (ps++P)) λQ e2 n2 v2=> ?_;refine⟨P++Q,by rw[GS,e1];simp only[gQ];rw[e2,d6],by rw[dI,nA,n1,n2],?_⟩;intro p hp;rw[eF]at hp;rcases hp with hp|hp
 ·refine o9 (v1 p hp) λA B C e q=> ?_;exact⟨A,B,C++m,by rw[e];simp,q⟩
 ·refine o9 (v2 p hp) λA B C e q=> ?_;refine⟨l++A,B,C,by rw[e];simp,?_⟩;rw[q,dI];simp only[j8];exact(lx (.c (.e (.a (.a A0 A1) A2) (.a A0 (.a A1 A2))) (.e (.a (.a (.a (.a A0 A1) A2) A3) K1) (.a (.a (.a A0 (.a A1 A2)) A3) K1))) [])
theorem Co.cons{x:Tk}(hx:x≠.op fT)(hx2:x≠.op eY)(h:Co l):Co (x::l):=by
 have h1:Co [x]:=by intro i st ps;refine⟨[],by simp[wB,Rm,hx,hx2],?_,λp h=>by simp at h⟩;rw[j3,cJ hx];rfl
 exact h1.app h
theorem Co.brk{l:List Tk}(h:Co l)(c:Nat):Co (Internal.brk c l):=by
 unfold Internal.brk;split
 ·exact h
 intro i st ps;refine ou (h (i+1) (st++[i]) ps) λP e1 n1 v1=> ?_;refine⟨P++[(i,i+1+l.length)],?_,?_,?_⟩
 ·have e0:Rm i (.op fT) (st,ps)=some (st++[i],ps):=rfl
  have e2:Rm (i+1+l.length) (.op eY) (st++[i],ps++P)=some (st,ps++P++[(i,i+1+l.length)]):=by
   have:¬(Tk.op eY= .op fT):=by decide
   simp[Rm,this]
  simp only[wB,e0,gQ,GS,e1,e2];rw[d6]
 ·rw[dI,n1,j3,nA,cH rfl,j3,cJ (by decide)];have:gq []=0:=rfl;simp only[List.length_singleton];exact(ie (.e (.a A1 K1) (.a (.a A1 (.a A0 (.k 0))) K1)) [.e A0 (.k 0)]) this
 ·intro p hp;rw[eF]at hp;rcases hp with hp|hp
  ·refine o9 (v1 p hp) λA B C e q=> ?_;refine⟨.op fT::A,B,C++[.op eY],by rw[e];simp,?_⟩;rw[q];simp only[eD,j8];exact(kI (.c (.e (.a (.a A0 K1) A1) (.a A0 (.a A1 K1))) (.e (.a (.a (.a (.a A0 K1) A1) A2) K1) (.a (.a (.a A0 (.a A1 K1)) A2) K1))) [])
  ·simp only[ff]at hp;exact⟨[],l,[],rfl,by rw[hp];simp only[List.length_nil,j8];exact(ie (.c (.e A0 (.a A0 (.k 0))) (.e (.a (.a A0 K1) A1) (.a (.a (.a A0 (.k 0)) A1) K1))) [])⟩
theorem GT(h:w≠eY):iW w≠.op eY:=by
 unfold iW;split
 ·intro z;injection z with z;exact h z
 ·intro z;cases z
theorem qE(t:Tr)(h:Sh t):Co (tk t):=by
 match t,h with
 | .name s,_=>exact Co.nil.cons (by intro z;cases z) (by intro z;cases z)
 | .num i,_=>exact Co.nil.cons (by intro z;cases z) (by intro z;cases z)
 | .un w t,h=>exact((qE t (Sh.of h.2)).brk _).cons (v9 w) (GT (O3 h.1))
 | .bin w a b,h=>exact((qE a (Sh.of h.2.1)).brk _).app (((qE b (Sh.of h.2.2)).brk _).cons (v9 w) (GT (JX h.1)))
 | .sc w a b,h=>
  have h1:=(qE a (Sh.of h.2.1)).brk (km w a);have h2:=(qE b (Sh.of h.2.2)).brk (ew 4 b)
  have hm:∀l,Co l->Co (z7 w++l):=by intro l hl;unfold z7;split<;>exact(hl.cons (by intro z;cases z) (by intro z;cases z)).cons (by intro z;cases z) (by intro z;cases z)
  exact h1.app (hm _ h2)
 | .mem w t (.rng a b),h=>
  have h1:=(qE t (Sh.of h.2.1)).brk (ew 3 t);have h2:=qE (.rng a b) h.2.2
  have hm:∀l,Co l->Co (oq w++l):=by
   intro l hl;unfold oq;split
   ·exact hl.cons (by intro z;cases z) (by intro z;cases z)
   ·exact(hl.cons (by intro z;cases z) (by intro z;cases z)).cons (by intro z;cases z) (by intro z;cases z)
  exact h1.app (hm _ h2)
 | .rng a b,h=>exact((qE a (Sh.of h.1)).brk _).app (((qE b (Sh.of h.2)).brk _).cons (by decide) (by decide))
end
section
variable{W:Nat}
theorem O6(h:WF t)(hh:mS t<=24)(hl:(tk t).length<W):Pf W (tk t)=dy t:=by unfold Pf;rw[W5 h hh hl]
theorem Rn(h:WF t)(hv:LV t)(ho:ops (tk t)<=56){A B C:List Tk}(e:tk t=A++ .op fT::(B++ .op eY::C)):
  rU (A++B++C)/\ops (A++B++C)<=56/\(A++B++C).all Tk.ok=true/\(A++B++C≠[]->l5 (Pf W (A++B++C)) (dy t)=some false):=by
 have hg:=sH t (Sh.of h) hv;have hb:=tR t (Sh.of h)
 have hops:ops (tk t)=ops (A++B++C):=by
  rw[e];simp only[nK,kn];have h1:¬(sE (.op fT)=true):=by decide
  have h2:¬(sE (.op eY)=true):=by decide
  rw[cJ h1,cJ h2];exact(kI (.e (.a A0 (.a (.a A1 (.a A2 (.k 0))) (.k 0))) (.a (.a A0 A1) A2)) [])
 have hopn:gq (tk t)=gq (A++B++C)+1:=by
  rw[e];simp only[nA,j3];have h2:¬(Tk.op eY= .op fT):=by decide
  rw[cH trivial,cJ h2];exact(kI (.e (.a A0 (.a (.a A1 (.a A2 (.k 0))) K1)) (.a (.a (.a A0 A1) A2) K1)) [])
 have hg':(A++B++C).all gd=true:=by rw[e]at hg;simp only[List.all_append,hP,ej]at hg ⊢;exact⟨⟨hg.1,hg.2.2.1⟩,hg.2.2.2.2⟩
 have hok:=GO hg'
 have hna:na (A++B++C):=by rw[d6];rw[e]at hb;exact Vd hb
 refine⟨JZ hg' hna,by exact(ie (.l A1 (.k 56)) [.l A0 (.k 56),.e A0 A1]) ho hops,hok,λ_=> ?_⟩;have pt:=tW (Sh.of h) hv;have st:=pV (Sh.of h);unfold Pf;cases q:ng (pB W 24) W (A++B++C)with
 |none=>exact GQ pt (Mf ho hops st)
 |some x=>
  obtain⟨u,r⟩:=x;cases r with
  |cons y r=>exact GQ pt (Mf ho hops st)
  |nil=>
   refine wD (Gq (Ah W 24) W _ _ _ hok q) λi1 i2 i3=> ?_;have hp:=Y7 W 24 q;have hn:=lU t h;show l5 (dy u) (dy t)=some false;rw[@J5 _ _ (Classical.propDecidable _) i1 pt (Wu ho hops i3) (Mf ho hops st)];exact dN some (@ft _ (Classical.propDecidable _) λz=>by subst z;exact(kI (.f) [.l A0 A1,.e A2 (.a A1 K1),.e A2 A0]) hp hopn hn)
noncomputable def tY(p:Nat×Nat):D:= .tup [.int p.1,.int p.2]
def lS(b:List MO)(s:Sc):List MO:=b++[.list (s.2.map tY),.list (s.1.map λi=> .int (i:Nat))]
def l1B(aa:Lo):M Fl:=(dn (eS (dz .Eq (lG (dP (cG aa 3) (cG aa 6)) none (some (cY 2))) (f7 [(cW i7),(cW fT)])) (oB aa (jC (cG aa 5) (cG aa 6))) (dF aa)) λaa=>(eS (dz .Eq (lG (dP (cG aa 3) (cG aa 6)) none (some (cY 2))) (f7 [(cW i7),(cW eY)])) (oB aa (jC (cG aa 4) (f7 [(E8 (cG aa 5)),(cG aa 6)]))) (dF aa)))
noncomputable def jz(x0 x1 x2:Option PV)(j L i:Nat)(x6:Option PV):Lo:=[x0,x1,x2,some (.ref j),some (.ref L),some (.ref (L+1)),x6,none,none]
theorem X1(x:Tk)(s:List Nat):x.is i7 s=decide (x= .op s):=by
 cases x with
 |op v=>
  show(i7 == i7 && v == s)=_;by_cases q:v=s
  ·subst q;simp
  ·have:(v == s)=false:=by simpa using q
   rw[this,ft (by intro z;injection z with z;exact q z)];simp
 |word v=>rw[ft (by intro z;cases z)];rfl
 |name v=>rw[ft (by intro z;cases z)];rfl
 |int v=>rw[ft (by intro z;cases z)];rfl
theorem O7{j:Nat}{x:Tk}{ah:List Tk}{s:List Nat}(h3:(aa[3]?).join=some (.ref j))(h6:(aa[6]?).join=some (.d (.int i)))(hj:dW σ (.ref j)=some (ah.map Tk.d))(hx:ah[i]? =some x)(ok:x.ok=true)(hl:ah.length<500)(hs:s.all (· <0x110000)=true):
  dz .Eq (lG (dP (cG aa 3) (cG aa 6)) none (some (cY 2))) (f7 [(cW i7),(cW s)]) σ=some (.ok (decide (x= .op s)),σ):=by
 have hi:i<ah.length:=(ek.mp hx).1;have h7:(i:Int).natAbs<2 ^ 40:=Wt hl hi;have h8:seqIndex? (i:Int) (ah.map Tk.d).length=some i:=W6 (by rw[f6];exact hi)
 have s1:gZ σ (.ref j) (.d (.int i))=some (.d (.tup [.str x.kind,x.val,.int 1])):=by simp only[gZ,cH h7,hj,Option.bind,h8,List.getElem?_map,hx,Option.map];rfl
 have c1:gJ σ .Eq (.d (.tup [.str x.kind,x.val])) (.d (.tup [.str i7,.str s]))=some (decide (x= .op s)):=by rw[<-X1];exact D7 x ok _ _ (by decide) hs
 simp[bnd,lift,h3,h6,ret,E6,s1,uu,wQ,QI,ja,EP,qK,eZ,ir,c1]
theorem Ro{b:List MO}{x0 x1 x2:Option PV}{j:Nat}{x:Tk}{ah:List Tk}{s s':Sc}(hj:b[j]? =some (.list (ah.map Tk.d)))(hx:ah[i]? =some x)(ok:x.ok=true)(hl:ah.length<500)(hs1:s.1.length<1000)(hs2:s.2.length<1000)(e:Rm i x s=some s'):
  l1B (jz x0 x1 x2 j b.length i (some (.d (.int i)))) (lS b s)=some (.ok (.nxt (jz x0 x1 x2 j b.length i (some (.d (.int i))))),lS b s'):=by
 have hjl:=(ek.mp hj).1
 have hg:∀s,dW (lS b s) (.ref j)=some (ah.map Tk.d):=by
  intro s;have:(lS b s)[j]? =some (.list (ah.map Tk.d)):=by unfold lS;rw[fH hjl];exact hj
  simp only[dW,this]
 have t1:=O7 (σ:=lS b s) (aa:=jz x0 x1 x2 j b.length i (some (.d (.int i)))) (s:=fT) rfl rfl (hg s) hx ok hl (by decide);have t2:=O7 (σ:=lS b s) (aa:=jz x0 x1 x2 j b.length i (some (.d (.int i)))) (s:=eY) rfl rfl (hg s) hx ok hl (by decide);unfold Rm at e;by_cases q1:x= .op fT
 ·rw[cH q1]at e;replace e:=si e;subst e;rw[eE q1]at t1;have t2':=O7 (σ:=lS b (s.1++[i],s.2)) (aa:=jz x0 x1 x2 j b.length i (some (.d (.int i)))) (s:=eY) rfl rfl (hg _) hx ok hl (by decide);rw[ft (by rw[q1];decide)]at t2';have r1:qN (lS b s) (.ref (b.length+1))=some (b.length+1,s.1.map λi=> .int (i:Nat)):=by simp[qN,lS]
  have ap:kz (.ref (b.length+1)) (cG (jz x0 x1 x2 j b.length i (some (.d (.int i)))) 6) (lS b s)=some (.ok (.d .none),lS b (s.1++[i],s.2)):=by have hm:cG (jz x0 x1 x2 j b.length i (some (.d (.int i)))) 6 (lS b s)=some (.ok (.d (.int i)),lS b s):=rfl;simp only[kz,r1,Option.bind,bnd,hm];rw[cH (by simp only[f6,eZ];exact mq hs1 rfl)];simp[lS]
  refine(ij (l:=jz x0 x1 x2 j b.length i (some (.d (.int i)))) (σ':=lS b (s.1++[i],s.2)) ?_).trans ?_
  ·have:=Ao (aa:=jz x0 x1 x2 j b.length i (some (.d (.int i)))) (IG (aa:=jz x0 x1 x2 j b.length i (some (.d (.int i)))) (i:=5) (v:= .ref (b.length+1)) rfl ap);simp only[eS,bnd,t1];exact this
  ·simp only[eS,bnd,t2'];rfl
 ·rw[cJ q1]at e;rw[ft q1]at t1;by_cases q2:x= .op eY
  ·rw[cH q2]at e;rw[eE q2]at t2;refine eN (fe.mp e) λk hk ez1=> ?_;subst ez1;have r1:qN (lS b s) (.ref (b.length+1))=some (b.length+1,s.1.map λi=> .int (i:Nat)):=by simp[qN,lS]
   have pp:Mq (.ref (b.length+1)) (lS b s)=some (.ok (.d (.int k)),lS b (s.1.dropLast,s.2)):=by simp only[Mq,r1,Option.bind];rw[cH (by simp only[f6,eZ];exact yI hs1 rfl),List.getLast?_map,hk];simp[lS,List.map_dropLast]
   have r2:qN (lS b s) (.ref b.length)=some (b.length,s.2.map tY):=by simp[qN,lS]
   have r3:qN (lS b (s.1.dropLast,s.2)) (.ref b.length)=some (b.length,s.2.map tY):=by simp[qN,lS]
   have hm:f7 [(E8 (cG (jz x0 x1 x2 j b.length i (some (.d (.int i)))) 5)),(cG (jz x0 x1 x2 j b.length i (some (.d (.int i)))) 6)] (lS b s)=some (.ok (.d (tY (k,i))),lS b (s.1.dropLast,s.2)):=by have h5:cG (jz x0 x1 x2 j b.length i (some (.d (.int i)))) 5 (lS b s)=some (.ok (.ref (b.length+1)),lS b s):=rfl;have h6:∀τ,cG (jz x0 x1 x2 j b.length i (some (.d (.int i)))) 6 τ=some (.ok (.d (.int i)),τ):=λ_=>rfl;simp only[f7,E8,bnd,ja,h5,pp,h6,ret];rfl
   have ap:kz (.ref b.length) (f7 [(E8 (cG (jz x0 x1 x2 j b.length i (some (.d (.int i)))) 5)),(cG (jz x0 x1 x2 j b.length i (some (.d (.int i)))) 6)]) (lS b s)=some (.ok (.d .none),lS b (s.1.dropLast,s.2++[(k,i)])):=by simp only[kz,r2,Option.bind];simp only[bnd]at hm ⊢;simp only[hm,r3];rw[cH (by simp only[f6,eZ];exact mq hs2 rfl)];simp[lS]
   refine(g9 t1).trans ?_;have:=Ao (aa:=jz x0 x1 x2 j b.length i (some (.d (.int i)))) (IG (aa:=jz x0 x1 x2 j b.length i (some (.d (.int i)))) (i:=4) (v:= .ref b.length) rfl ap);simp only[eS,bnd]at t2 ⊢;simp only[t2];exact this
  ·rw[cJ q2]at e;replace e:=si e;subst e;rw[ft q2]at t2;refine(g9 t1).trans ?_;simp only[eS,bnd]at t2 ⊢;simp only[t2];rfl
end
section
variable{W:Nat}
theorem GU(l:List Tk):∀(i:Nat)(s s':Sc),wB i l s=some s'->s'.1.length<=s.1.length+l.length/\s'.2.length<=s.2.length+l.length:=by
 induction l with
 |nil=>intro i s s' e;replace e:=si e;subst e;simp
 |cons x l ih=>
  intro i s s' e;simp only[wB]at e;refine eN (dL.mp e) λs1 e1 e2=> ?_;have h:=ih _ _ _ e2
  have h1:s1.1.length<=s.1.length+1/\s1.2.length<=s.2.length+1:=by
   unfold Rm at e1;split at e1
   ·replace e1:=si e1;subst e1;simp
   ·split at e1
    ·refine eN (fe.mp e1) λk _ ez1=> ?_;subst ez1;simp;exact VS
    ·replace e1:=si e1;subst e1;exact(ie (.c (.l A0 (.a A0 K1)) (.l A1 (.a A1 K1))) [])
  simp only[eD];exact(Kg (.c (.l A0 (.a A5 (.a A2 K1))) (.l A3 (.a A6 (.a A2 K1)))) [.c (.l A0 (.a A1 A2)) (.l A3 (.a A4 A2)),.c (.l A1 (.a A5 K1)) (.l A4 (.a A6 K1))]) h h1
theorem Rp{b:List MO}{x0 x1 x2:Option PV}{j:Nat}{ah:List Tk}(hj:b[j]? =some (.list (ah.map Tk.d)))(ok:ah.all Tk.ok=true)(hl:ah.length<500)(rest:List Tk):∀(i K:Nat)(s s':Sc)(x6:Option PV),ah.drop i=rest->i<=ah.length->rest.length<K->s.1.length<=i->s.2.length<=i->wB i rest s=some s'->
  ∃x6',kM (LJ ah.length) (qP 6) l1B K i (jz x0 x1 x2 j b.length i x6) (lS b s)=some (.ok (.nxt (jz x0 x1 x2 j b.length i x6')),lS b s'):=by
 induction rest with
 |nil=>
  intro i K s s' x6 hd hi hK h1 h2 e;replace e:=si e;subst e;obtain⟨K,rfl⟩:∃q,K=q+1:=⟨K -1,by simp at hK;exact qH hK rfl⟩
  have:i=ah.length:=by have:=dN List.length hd;simp at this;exact(ie (.e A0 A1) [.l A0 A1,.e (.s A1 A0) (.k 0)]) hi this
  subst this;exact⟨x6,by simp[kM,LJ,ret]⟩
 |cons x rest ih=>
  intro i K s s' x6 hd hi hK h1 h2 e;simp only[eD]at hK;obtain⟨K,rfl⟩:∃q,K=q+1:=⟨K -1,by exact Mc hK⟩;simp only[wB]at e;refine eN (dL.mp e) λs1 e1 e2=> ?_
  have hlt:i<ah.length:=by have:=dN List.length hd;simp at this;exact(kI (.t A0 A1) [.l A0 A1,.e (.s A1 A0) (.a A2 K1)]) hi this
  have hx:ah[i]? =some x:=by have:=List.head?_drop (l:=ah) (i:=i);rw[hd]at this;exact this.symm
  have hox:=fu.mp ok x (gu hx);have st:=Ro (x0:=x0) (x1:=x1) (x2:=x2) hj hx hox hl (R8 hl h1 hlt) (R8 hl h2 hlt) e1;have hb:=GU [x] i s s1 (by simp only[wB,e1,gQ]);simp only[List.length_singleton]at hb;refine oE (ih (i+1) K s1 s' (some (.d (.int i))) (by rw[<-List.tail_drop,hd];rfl) (BE hlt) (IY hK) ((BC (.l A2 (.a A1 K1)) [.l A0 A1,.c (.l A2 (.a A0 K1)) (.l A3 (.a A4 K1))]) h1 hb) ((BC (.l A4 (.a A1 K1)) [.l A0 A1,.c (.l A2 (.a A3 K1)) (.l A4 (.a A0 K1))]) h2 hb) e2) λx7 e3=> ?_;refine⟨x7,?_⟩
  have hn:LJ ah.length i (lS b s)=some (some (.d (.int i))):=by simp only[LJ];rw[cH (yJ hlt)]
  have ha:qP 6 (jz x0 x1 x2 j b.length i x6) (.d (.int i))=some (jz x0 x1 x2 j b.length i (some (.d (.int i)))):=rfl;simp only[kM,hn,ha,bnd,st];exact e3
def ZB(C:Addr->List PV->M PV)(aa:Lo):M Fl:=(eS (dz .Eq (cM (C iI) [(d7 .Add (d7 .Add (lG (cG aa 3) none (some (cG aa 7))) (lG (cG aa 3) (some (d7 .Add (cG aa 7) (cY 1))) (some (cG aa 8)))) (lG (cG aa 3) (some (d7 .Add (cG aa 8) (cY 1))) none))]) (cG aa 2)) cU (dF aa))
def oO(x0 x1:Option PV)(t:Tr)(j L:Nat)(x6 x7 x8:Option PV):Lo:=[x0,x1,some (.d (dy t)),some (.ref j),some (.ref L),some (.ref (L+1)),x6,x7,x8]
theorem ZC{A R:List Tk}:cut none (some (A.length:Int)) ((A++R).map Tk.d)=A.map Tk.d:=by simp only[cut,Option.elim,clipAt_nat];rw[qd (by simp)];simp
theorem ZD{A B R:List Tk}{x:Tk}:cut (some ((A.length+1:Nat):Int)) (some ((A.length+B.length+1:Nat):Int)) ((A++x::(B++R)).map Tk.d)=B.map Tk.d:=by
 simp only[cut,Option.elim,clipAt_nat];rw[qd (by simp only[f6,dI,eD];exact(kI (.l (.a (.a A0 A1) K1) (.a A0 (.a (.a A1 A2) K1))) [])),qd (by simp only[f6,dI,eD];exact(kI (.l (.a A0 K1) (.a A0 (.a (.a A1 A2) K1))) []))];rw[show A.length+B.length+1 - (A.length+1)=B.length by exact(ie (.e (.s (.a (.a A0 A1) K1) (.a A0 K1)) A1) []),<-List.map_drop,<-List.map_take]
 congr 1
 have:(A++x::(B++R)).drop (A.length+1)=B++R:=by rw[show A++x::(B++R)=(A++[x])++(B++R) by simp,show A.length+1=(A++[x]).length by simp,List.drop_left]
 rw[this,List.take_left]
theorem ZE{A C:List Tk}{x:Tk}:cut (some ((A.length+1:Nat):Int)) none ((A++x::C).map Tk.d)=C.map Tk.d:=by
 simp only[cut,Option.elim,clipAt_nat];rw[qd (by simp only[f6,dI,eD];exact(ie (.l (.a A0 K1) (.a A0 (.a A1 K1))) []))];rw[<-List.map_drop,List.take_of_length_le (by simp only[f6,mh];exact(ie (.l (.s A0 (.a A1 K1)) (.s A0 (.a A1 K1))) []))]
 congr 1
 rw[show A++x::C=(A++[x])++C by simp,show A.length+1=(A++[x]).length by simp,List.drop_left]
theorem Ez{τ:List MO}{j:Nat}{L R:List D}{a c:Option Int}(h:dW τ (.ref j)=some L)(hl:L.length<1000)(e:cut a c L=R)(hr:R.length<1000):wQ (.ref j) a c τ=some (.ok (.ref τ.length),τ++[.list R]):=by show(dW τ (.ref j)).bind _=_;rw[h];simp only[Option.bind];rw[cH (by simp only[eZ];exact yI hl rfl),e];simp only[rD];rw[cH (by simp only[eZ];exact yI hr rfl)]
theorem J6{τ:List MO}{j:Nat}{L R:List D}(h1:dW τ (.ref i)=some L)(h2:dW τ (.ref j)=some R)(hl:L.length+R.length<2000):ly .Add (.ref i) (.ref j) τ=some (.ok (.ref τ.length),τ++[.list (L++R)]):=by show(dW τ (.ref i)).bind _=_;rw[h1];simp only[Option.bind,h2,rD];rw[cH (by simp only[dI,eZ];exact(ie (.l (.a A0 A1) (.k 4000000)) [.t (.a A0 A1) (.k 2000)]) hl)]
theorem J7{m1 m2:M PV}{τ1 τ2:List MO}{x y:PV}{r:Option (R PV×List MO)}(h1:m1 σ=some (.ok x,τ1))(h2:m2 τ1=some (.ok y,τ2))(h3:ly .Add x y τ2=r):d7 .Add m1 m2 σ=r:=by simp only[d7,bnd,h1,h2,h3]
theorem O8{f:List PV->M PV}{τ:List MO}{x:PV}{r:Option (R PV×List MO)}(h1:m σ=some (.ok x,τ))(h2:f [x] τ=r):cM f [m] σ=r:=by simp only[cM,bnd,ja,h1,ret,h2]
theorem Rq(h:WF t)(hv:LV t)(ho:ops (tk t)<=56)(hl:(tk t).length<500)(hW:500<=W)(hn:340<=n){j L:Nat}{x0 x1 x6:Option PV}(hc:Cl σ)(hj:σ[j]? =some (.list ((tk t).map Tk.d))){A B C:List Tk}(e:tk t=A++ .op fT::(B++ .op eY::C))(hne:A++B++C≠[]):
  ∃J,ZB (CN W n).c (oO x0 x1 t j L x6 (some (.d (.int A.length))) (some (.d (.int ((A.length+B.length+1:Nat)))))) σ=some (.ok (.nxt (oO x0 x1 t j L x6 (some (.d (.int A.length))) (some (.d (.int ((A.length+B.length+1:Nat))))))),σ++J)/\Cl (σ++J):=by
 refine S5 (Rn (W:=W) h hv ho e) λg o1 ok heq=> ?_;have heq:=heq hne;have hjl:=(ek.mp hj).1;have hle:(tk t).length=A.length+B.length+C.length+2:=by rw[e];simp;exact(kI (.e (.a A0 (.a (.a A1 (.a A2 K1)) K1)) (.a (.a (.a A0 A1) A2) (.k 2))) [])
 have gj:∀K:List MO,dW (σ++K) (.ref j)=some ((tk t).map Tk.d):=by
  intro K;have:(σ++K)[j]? =some (.list ((tk t).map Tk.d)):=by rw[fH hjl];exact hj
  simp only[dW,this]
 have ml:((tk t).map Tk.d).length<1000:=by simp;exact(lx (.t A0 (.k 1000)) [.t A0 (.k 500),.e A0 (.a (.a (.a A1 A2) A3) (.k 2))]) hl hle
 have la:(A.map Tk.d).length<1000:=by simp;exact(lx (.t A1 (.k 1000)) [.t A0 (.k 500),.e A0 (.a (.a (.a A1 A2) A3) (.k 2))]) hl hle
 have lb:(B.map Tk.d).length<1000:=by simp;exact(lx (.t A2 (.k 1000)) [.t A0 (.k 500),.e A0 (.a (.a (.a A1 A2) A3) (.k 2))]) hl hle
 have lc:(C.map Tk.d).length<1000:=by simp;exact(lx (.t A3 (.k 1000)) [.t A0 (.k 500),.e A0 (.a (.a (.a A1 A2) A3) (.k 2))]) hl hle
 obtain⟨DA,hDA⟩:∃x,x=A.map Tk.d:=⟨_,rfl⟩;obtain⟨DB,hDB⟩:∃x,x=B.map Tk.d:=⟨_,rfl⟩;obtain⟨DC,hDC⟩:∃x,x=C.map Tk.d:=⟨_,rfl⟩;have c1:cut none (some (A.length:Int)) ((tk t).map Tk.d)=DA:=by rw[e,hDA];exact ZC
 have c2:cut (some ((A.length+1:Nat):Int)) (some ((A.length+B.length+1:Nat):Int)) ((tk t).map Tk.d)=DB:=by rw[e,hDB];exact ZD
 have c3:cut (some ((A.length+B.length+1+1:Nat):Int)) none ((tk t).map Tk.d)=DC:=by
  have e':tk t=(A++ .op fT::B)++ .op eY::C:=by rw[e];simp
  have:=ZE (A:=A++ .op fT::B) (C:=C) (x:= .op eY);rw[<-e',show(A++Tk.op fT::B).length=A.length+B.length+1 by simp;exact(ie (.e (.a A0 (.a A1 K1)) (.a (.a A0 A1) K1)) [])]at this;rw[this,hDC]
 rw[<-hDA]at la;rw[<-hDB]at lb;rw[<-hDC]at lc;have lABC:DA.length+DB.length+DC.length<500:=by rw[hDA,hDB,hDC];simp;exact(lx (.t (.a (.a A1 A2) A3) (.k 500)) [.t A0 (.k 500),.e A0 (.a (.a (.a A1 A2) A3) (.k 2))]) hl hle
 have g0:=gj [];rw[gD]at g0;have s1:=Ez g0 ml c1 la;have s2:=Ez (gj [MO.list DA]) ml c2 lb;have s3:=J6 (τ:=σ++[MO.list DA]++[MO.list DB]) (i:=σ.length) (j:=(σ++[MO.list DA]).length) (L:=DA) (R:=DB) (by simp[dW]) (by simp[dW]) ((kI (.t (.a A1 A2) (.k 2000)) [.t A0 (.k 1000),.t (.a (.a A1 A2) A0) (.k 500)]) lc lABC);have s4:=Ez (τ:=σ++[MO.list DA]++[MO.list DB]++[MO.list (DA++DB)]) (j:=j) (by rw[d6,d6];exact gj _) ml c3 lc;have s5:=J6 (τ:=σ++[MO.list DA]++[MO.list DB]++[MO.list (DA++DB)]++[MO.list DC]) (i:=(σ++[MO.list DA]++[MO.list DB]).length) (j:=(σ++[MO.list DA]++[MO.list DB]++[MO.list (DA++DB)]).length) (L:=DA++DB) (R:=DC) (by simp[dW]) (by simp[dW]) (by simp;exact(kI (.t (.a (.a A0 A1) A2) (.k 2000)) [.t (.a (.a A0 A1) A2) (.k 500)]) lABC)
 have hcl:Cl (σ++[MO.list DA]++[MO.list DB]++[MO.list (DA++DB)]++[MO.list DC]++[MO.list (DA++DB++DC)]):=((((hc.app rfl).app rfl).app rfl).app rfl).app rfl;have hD:DA++DB++DC=(A++B++C).map Tk.d:=by rw[hDA,hDB,hDC];simp
 have h6:=JK (σ:=σ++[MO.list DA]++[MO.list DB]++[MO.list (DA++DB)]++[MO.list DC]++[MO.list (DA++DB++DC)]) (W:=W) (n:=n) (j:=(σ++[MO.list DA]++[MO.list DB]++[MO.list (DA++DB)]++[MO.list DC]).length) (ah:=A++B++C) g o1 hW hn (by rw[hD];simp) hne (by simp;exact(lx (.t (.a A1 (.a A2 A3)) (.k 500)) [.t A0 (.k 500),.e A0 (.a (.a (.a A1 A2) A3) (.k 2))]) hl hle) ok hcl;have b1:∀τ,ly .Add (.d (.int A.length)) (.d (.int 1)) τ=some (.ok (.d (.int ((A.length+1:Nat)))),τ):=λ_=>rfl;have b2:∀τ,ly .Add (.d (.int ((A.length+B.length+1:Nat)))) (.d (.int 1)) τ=some (.ok (.d (.int ((A.length+B.length+1+1:Nat)))),τ):=λ_=>rfl
 refine⟨[MO.list DA]++[MO.list DB]++[MO.list (DA++DB)]++[MO.list DC]++[MO.list (DA++DB++DC)],?_,by simpa [d6] using hcl⟩;have hfin:∀τ,gJ τ .Eq (.d (Pf W (A++B++C))) (.d (dy t))=some false:=λ_=>heq;have hassoc:σ++([MO.list DA]++[MO.list DB]++[MO.list (DA++DB)]++[MO.list DC]++[MO.list (DA++DB++DC)])=σ++[MO.list DA]++[MO.list DB]++[MO.list (DA++DB)]++[MO.list DC]++[MO.list (DA++DB++DC)]:=by simp
 rw[hassoc];have p1:∀(i:Int) τ,uu (some (ret (.d (.int i)))) τ=some (.ok (some i),τ):=λ_ _=>rfl;generalize A.length+B.length+1+1=q2 at *;generalize A.length+B.length+1=q1 at *;generalize A.length+1=p1' at *;generalize A.length=p0 at *;generalize Pf W (A++B++C)=HR at *;have m1:(lG (cG (oO x0 x1 t j L x6 (some (.d (.int p0))) (some (.d (.int q1)))) 3) none (some (cG (oO x0 x1 t j L x6 (some (.d (.int p0))) (some (.d (.int q1)))) 7))) σ=some (.ok (.ref σ.length),σ++[MO.list DA]):=s1
 have m2:(lG (cG (oO x0 x1 t j L x6 (some (.d (.int p0))) (some (.d (.int q1)))) 3) (some (d7 .Add (cG (oO x0 x1 t j L x6 (some (.d (.int p0))) (some (.d (.int q1)))) 7) (cY 1))) (some (cG (oO x0 x1 t j L x6 (some (.d (.int p0))) (some (.d (.int q1)))) 8))) (σ++[MO.list DA])=some (.ok (.ref (σ++[MO.list DA]).length),σ++[MO.list DA]++[MO.list DB]):=by rw[<-s2];simp[oO,bnd,lift,ret,uu,b1]
 have m4:(lG (cG (oO x0 x1 t j L x6 (some (.d (.int p0))) (some (.d (.int q1)))) 3) (some (d7 .Add (cG (oO x0 x1 t j L x6 (some (.d (.int p0))) (some (.d (.int q1)))) 8) (cY 1))) none) (σ++[MO.list DA]++[MO.list DB]++[MO.list (DA++DB)])=some (.ok (.ref (σ++[MO.list DA]++[MO.list DB]++[MO.list (DA++DB)]).length),σ++[MO.list DA]++[MO.list DB]++[MO.list (DA++DB)]++[MO.list DC]):=by rw[<-s4];simp[oO,bnd,lift,ret,uu,b2]
 have m3:=J7 m1 m2 s3;have m5:=J7 m3 m4 s5;have m6:=O8 m5 h6;have hloc:∀τ,cG (oO x0 x1 t j L x6 (some (.d (.int p0))) (some (.d (.int q1)))) 2 τ=some (.ok (.d (dy t)),τ):=λ_=>rfl;simp only[ZB,eS,dz,bnd,ir]at m6 ⊢;simp only[m6,hloc,hfin,Option.map];rfl
end
section
variable{W:Nat}
noncomputable def J8:Tk->Bool
 | .name _=>true
 | .int _=>true
 |_=>false
theorem yG(h:l.any J8=true)(c:Nat):(brk c l).any J8=true:=by
 unfold brk;split
 ·exact h
 ·simp only[lF,List.any_append,h,Bool.true_or,Bool.or_true]
theorem ul{t:Tr}(h:WF t):(tk t).any J8=true:=by
 match t,h with
 | .name s,_=>rfl
 | .num i,_=>rfl
 | .un w t,h=>simp only[tk,lF,yG (ul h.2),Bool.or_true]
 | .bin w a b,h=>simp only[tk,List.any_append,yG (ul h.2.1),Bool.true_or]
 | .sc w a b,h=>simp only[tk,List.any_append,yG (ul h.2.1),Bool.true_or]
 | .mem w t (.rng a b),h=>
  show(brk (ew 3 t) (tk t)++_).any J8=true;simp only[List.any_append,yG (ul h.2.1),Bool.true_or]
theorem Ve(h:WF t){A B C:List Tk}(e:tk t=A++ .op fT::(B++ .op eY::C)):A++B++C≠[]:=by intro z;simp only[List.append_eq_nil_iff]at z;refine oA z λoz1 ez2=> ?_;clear z;obtain⟨rfl,rfl⟩:=oz1;subst ez2;have:=ul h;rw[e]at this;exact absurd this (by decide)
theorem Rr(h:WF t)(hv:LV t)(ho:ops (tk t)<=56)(hl:(tk t).length<500)(hW:500<=W)(hn:340<=n){j L:Nat}{x0 x1 x6:Option PV}{ps:List (Nat×Nat)}(hp:∀p ∈ ps,VP (tk t) 0 p)(hps:ps.length<1000)(K:Nat):∀(i:Nat)(τ:List MO)(x7 x8:Option PV),Cl τ->τ[j]? =some (.list ((tk t).map Tk.d))->τ[L]? =some (.list (ps.map tY))->i<=ps.length->ps.length -i<K->
  ∃loc' J,kM (uR (.ref L)) (AH [7,8]) (ZB (CN W n).c) K i (oO x0 x1 t j L x6 x7 x8) τ=some (.ok (.nxt loc'),τ++J):=by
 induction K with
 |zero=>intro _ _ _ _ _ _ _ _ h;omega
 |succ K ih=>
  intro i τ x7 x8 hc hj hL hi hK;have hg:dW τ (.ref L)=some (ps.map tY):=by simp only[dW,hL]
  by_cases q:i<ps.length
  ·refine o9 (hp ps[i] (List.getElem_mem q)) λA B C e e2=> ?_;have hn':uR (.ref L) i τ=some (some (.d (tY ps[i]))):=by simp[uR,hg,q]
   rw[e2]at hn'
   have ha:AH [7,8] (oO x0 x1 t j L x6 x7 x8) (.d (tY (0+A.length,0+A.length+B.length+1)))=some (oO x0 x1 t j L x6 (some (.d (.int A.length))) (some (.d (.int ((A.length+B.length+1:Nat)))))):=by rw[Nat.zero_add];rfl
   refine eN (Rq (σ:=τ) (W:=W) (n:=n) (L:=L) (x0:=x0) (x1:=x1) (x6:=x6) h hv ho hl hW hn hc hj e (Ve h e)) λJ e3 hc2=> ?_;refine Kb (ih (i+1) (τ++J) (some (.d (.int A.length))) (some (.d (.int ((A.length+B.length+1:Nat))))) hc2 (by rw[fH (ek.mp hj).1];exact hj) (by rw[fH (ek.mp hL).1];exact hL) (BE q) (L3 hK q)) λloc' J2 e4=> ?_;refine⟨loc',J++J2,?_⟩;simp only[kM,hn',ha,bnd,e3];rw[e4,d6]
  ·have hn':uR (.ref L) i τ=some none:=by simp[uR,hg];exact EJ hi q
   exact⟨oO x0 x1 t j L x6 x7 x8,[],by simp only[kM,hn',ret,gD]⟩
theorem Vf(xs:List D):cut none (some (40:Int)) xs=xs.take 40:=by
 have:((40:Nat):Int)=40:=rfl;simp only[cut,Option.elim,<-this,clipAt_nat,List.drop_zero,Nat.sub_zero];by_cases q:40<=xs.length
 ·rw[qd q]
 ·rw[Nat.min_eq_right (Sg q),List.take_of_length_le (ip _),List.take_of_length_le (Sg q)]
theorem X2{b:List MO}(h:Cl b)(s:Sc):Cl (lS b s):=by
 have:=(h.app (x:= .list (s.2.map tY)) rfl).app (x:= .list (s.1.map λi=> .int (i:Nat))) rfl;unfold lS
 simpa using this
theorem lawRun:z6:=by
 intro xs hxs;obtain⟨cells,hcells⟩:∃c,c=xs.take 40:=⟨_,rfl⟩;have hcl:cells.length<=40:=by rw[hcells];simp;exact(lE (.l (.mi (.k 40) A0) (.k 40)) [.l A0 (.k 63)]) hxs
 refine⟨400,200000,?_⟩;obtain⟨W,hW⟩:∃w:Nat,w=200000:=⟨_,rfl⟩;obtain⟨n,hn⟩:∃w:Nat,w=400:=⟨_,rfl⟩;rw[<-hW,<-hn];have U0:yF [.list (cells.map .int),sF 0 0 12] 1 0 cells 0 12:=⟨rfl,rfl,by decide,by unfold Cl;rfl,by exact qI hcl rfl⟩;refine iO (Xq W 4 n ((lE (.l (.a (.l 2 (.k 4)) (.k 2)) A0) [.e A0 (.k 400)]) hn) 4 _ 0 12 (by decide) U0 (by decide)) λt a' f' hs _ gr=> ?_;have U1:=U0.move a' f';have hb2:([MO.list (cells.map .int),sF 0 0 12].set 1 (sF 0 a' f'))=[MO.list (cells.map .int),sF 0 a' f']:=rfl;rw[hb2]at gr U1;obtain⟨b2,hb⟩:∃b,b=[MO.list (cells.map D.int),sF 0 a' f']:=⟨_,rfl⟩;have hb2l:b2.length=2:=by rw[hb];rfl
 rw[<-hb]at gr U1;have hc2:=U1.cl;have wf:=hs.wf;have lv:=hs.lv;have ho:ops (tk t)<=38:=hs.o;have hh:mS t<=4:=hs.h;have hl:(tk t).length<=441:=hs.l;have htt:=se wf;have htx:=qD (Sh.of wf) lv;have pt:=tW (Sh.of wf) lv;have szt:=pV (Sh.of wf);have h1:=XM (W:=W) ((lE (.l (.k 1000) A0) [.e A0 (.k 200000)]) hW) 9 (by exact fq rfl) t (Sh.of wf) lv ((ie (.t A1 (.k 9)) [.l A0 (.k 4),.l A1 (.l 2 A0)]) hh htt) ((ie (.l A1 (.k 1000000)) [.l A0 (.k 441),.l A1 (.l 10 A0)]) hl htx) n ((lE (.l (.a (.l 3 (.k 9)) (.k 5)) A0) [.e A0 (.k 400)]) hn) b2 hc2;have h2:=O2 (σ:=b2) (W:=W) (n:=n) wf lv ((ie (.t A1 (.k 100000)) [.l A0 (.k 441),.l A1 (.l 10 A0)]) hl htx) (qI hl rfl) ((lE (.l (.k 7) A0) [.e A0 (.k 400)]) hn) ((lE (.l (.k 100001) A0) [.e A0 (.k 200000)]) hW)
 obtain⟨b3,hb3⟩:∃b,b=b2++[MO.list ((tk t).map Tk.d)]:=⟨_,rfl⟩;rw[<-hb3]at h2;have hb3l:b3.length=3:=by rw[hb3];simp[hb2l]
 have hc3:Cl b3:=by rw[hb3];exact hc2.app rfl
 have hj3:b3[2]? =some (.list ((tk t).map Tk.d)):=by rw[hb3,<-hb2l];simp
 rw[hb2l]at h2;have good:=JZ (sH t (Sh.of wf) lv) (SY (tR t (Sh.of wf)));have okt:=GO (sH t (Sh.of wf) lv)
 have hne:tk t≠[]:=by intro z;have:=ul wf;rw[z]at this;exact mY this
 have h3:=JK (σ:=b3) (W:=W) (n:=n) (j:=2) good (kJ ho rfl) (Sd hW) (Sb hn) hj3 hne (qI hl rfl) okt hc3;rw[O6 wf (kJ hh rfl) (Se hW hl)]at h3
 have c3:∀τ,gJ τ .NotEq (.d (dy t)) (.d (dy t))=some false:=by
  intro τ;show(l5 (dy t) (dy t)).map (!·)=_
  rw[@J5 _ _ (Classical.propDecidable _) pt pt (Sf ho szt) (Sf ho szt),@eE _ (Classical.propDecidable _) rfl];rfl
 refine ou (qE t (Sh.of wf) 0 [] []) λP e4 nP vP=> ?_;rw[qe]at e4;rw[lU t wf]at nP
 have hPl:P.length<=441:=by have:=GU (tk t) 0 _ _ e4;simp at this;exact(kI (.l A1 (.k 441)) [.l A0 (.k 441),.e A1 A2,.l A1 A0]) hl nP this
 refine oE (Rp (b:=b3) (x0:=some (.cl (xs.map .int))) (x1:=some (.ref 1)) (x2:=some (.d (dy t))) hj3 okt (qI hl rfl) (tk t) 0 W ([],[]) ([],P) none (by simp) ((lE (.l (.k 0) A0) [.l A0 (.k 441)]) hl) (Se hW hl) (by simp) (by simp) e4) λx6 h5=> ?_;have hc4:=X2 hc3 ([],P)
 have hj4:(lS b3 ([],P))[2]? =some (.list ((tk t).map Tk.d)):=by unfold lS;rw[fH (Sa hb3l)];exact hj3
 have hp4:(lS b3 ([],P))[3]? =some (.list (P.map tY)):=by unfold lS;rw[<-hb3l];simp
 have h6:=wv (W:=W) t wf (lS b3 ([],P)) n hc4 ((kI (.l (.a A2 (.k 3)) A0) [.e A0 (.k 400),.l A1 (.k 4),.l A2 (.l 2 A1)]) hn hh htt) ((lE (.l (.k 4) A0) [.e A0 (.k 200000)]) hW);refine Kb (Rr (W:=W) (n:=n) (L:=3) (j:=2) (x0:=some (.cl (xs.map .int))) (x1:=some (.ref 1)) (x6:=x6) wf lv (kJ ho rfl) (qI hl rfl) (Sd hW) (Sb hn) (ps:=P) vP (R9 nP hPl) W 0 (lS b3 ([],P)) none none hc4 hj4 hp4 ((ie (.l (.k 0) A0) [.e A0 A1,.l A0 (.k 441)]) nP hPl) ((kI (.t (.s A1 (.k 0)) A0) [.e A0 (.k 200000),.e A1 A2,.l A1 (.k 441)]) hW nP hPl)) λloc' J h7=> ?_;refine⟨lS b3 ([],P)++J,by exact(lE (.l A0 (.k 500)) [.e A0 (.k 400)]) hn,?_⟩
 have hlen:jQ [.ref 2] (lS b3 ([],[]))=some (.ok (.d (.int (tk t).length)),lS b3 ([],[])):=by
  have hg:dW (lS b3 ([],[])) (.ref 2)=some ((tk t).map Tk.d):=by
   have:(lS b3 ([],[]))[2]? =some (.list ((tk t).map Tk.d)):=by unfold lS;rw[fH (Sa hb3l)];exact hj3
   simp only[dW,this]
  have:=An hg (by simp;exact qI hl rfl);rw[f6]at this;exact this
 have hlen2:jQ [.ref 3] (lS b3 ([],P))=some (.ok (.d (.int (gs t))),lS b3 ([],P)):=by
  have hg:dW (lS b3 ([],P)) (.ref 3)=some (P.map tY):=by simp only[dW,hp4]
  have:=An hg (by simp;exact R9 nP hPl);rw[f6,nP]at this;exact this
 have c4:∀τ,gJ τ .NotEq (.d (.int (gs t))) (.d (.int (gs t)))=some false:=by intro τ;show some (!(_ == _))=_;simp
 unfold NM;refine(ij (l:=[some (.cl (xs.map .int)),some (.ref 1),none,none,none,none,none,none,none]) (σ':=[.list (cells.map .int),sF 0 0 12]) ?_).trans ?_
 ·have s1:wQ (.cl (xs.map .int)) none (some 40) []=some (.ok (.ref 0),[.list (cells.map .int)]):=by
   show(if(xs.map D.int).length<=eZ then rD (cut none (some 40) (xs.map D.int)) []else none)=_;rw[cH (by simp only[f6,eZ];exact kJ hxs rfl),Vf,<-List.map_take,<-hcells];simp only[rD];rw[cH (by simp only[f6,eZ];exact kJ hcl rfl)];rfl
  simp[bnd,lift,ret,ja,eR,uu,s1,MX,rH,sF]
 refine(ij (l:=[some (.cl (xs.map .int)),some (.ref 1),some (.d (dy t)),none,none,none,none,none,none]) (σ':=b2) ?_).trans ?_
 ·simp[bnd,lift,ret,ja,gr,rH]
 refine(ij (l:=[some (.cl (xs.map .int)),some (.ref 1),some (.d (dy t)),some (.ref 2),none,none,none,none,none]) (σ':=b3) ?_).trans ?_
 ·simp[bnd,lift,ret,ja,h1,h2,rH]
 refine(g9 ?_).trans ?_
 ·simp[bnd,lift,ret,ja,h3,ir,c3]
 refine(ij (l:=[some (.cl (xs.map .int)),some (.ref 1),some (.d (dy t)),some (.ref 2),some (.ref 3),none,none,none,none]) (σ':=b3++[.list []]) ?_).trans ?_
 ·simp[bnd,lift,ret,ja,G5,qK,rD,hb3l,rH]
 refine(ij (l:=jz (some (.cl (xs.map .int))) (some (.ref 1)) (some (.d (dy t))) 2 3 0 none) (σ':=lS b3 ([],[])) ?_).trans ?_
 ·simp[bnd,lift,ret,ja,G5,qK,rD,hb3l,rH,jz,lS]
 rw[hb3l]at h5;refine(ij (l:=jz (some (.cl (xs.map .int))) (some (.ref 1)) (some (.d (dy t))) 2 3 0 x6) (σ':=lS b3 ([],P)) ?_).trans ?_
 ·have e1:=Ci (σ:=lS b3 ([],[])) (f:=jQ) (aa:=jz (some (.cl (xs.map .int))) (some (.ref 1)) (some (.d (dy t))) 2 3 0 none) (i:=3) rfl hlen;simp only[Fb,bnd,e1,Kp];rw[cH ⟨by exact(lE (.S (.n' (.k 1000000000)) (.c A0)) [.l A0 (.k 441)]) hl,by exact(lE (.S (.c A0) (.k 1000000000)) [.l A0 (.k 441)]) hl⟩];exact h5
 refine(g9 ?_).trans ?_
 ·have e1:=Ci (σ:=lS b3 ([],P)) (f:=jQ) (aa:=jz (some (.cl (xs.map .int))) (some (.ref 1)) (some (.d (dy t))) 2 3 0 x6) (i:=4) rfl hlen2;have e2:=Ci (σ:=lS b3 ([],P)) (f:=(CN W n).c eQ) (aa:=jz (some (.cl (xs.map .int))) (some (.ref 1)) (some (.d (dy t))) 2 3 0 x6) (i:=2) rfl h6;simp only[dz,bnd,e1,e2,ir,c4,Option.map]
 refine(ij (l:=loc') (σ':=lS b3 ([],P)++J) ?_).trans rfl;exact h7
end
variable{r:List Tk}{P:Option (Tr×List Tk)}{l:List Tk}{t:Tr}{B:Ps}
section
open PySem.Calls PySem.Spec PyProof.Rows
section
set_option tactic.hygienic true
noncomputable def gl(K:Params->Frag)(prog:Program)(w:World)(h₀:Heap)(mg mb:Str->Option Value)(KX:(K w.params).In h₀)(hg:h₀.Ns mainGlobals mg)(hb:h₀.Ns builtinsNs mb)(hbo:∀x:Str,x≠"__name__"->mb x=bootBuiltins x)(lim:h₀.NoLimit):Gl:=
 { prog,w,h₀,K:=K w.params,mg,mb,KX,hg,hb,hbo,lim,rC:=109,fC:=70,fa:=λ_=>0 }
theorem Cp{nm:Str}{pm:Arguments}{bod:List Stmt}{dV:Value}{oc od sl nm' kV doc pv an c ct}(e:G.K.lookup a=some ⟨oc,od,.func (fnOf nm' nm pm bod sc dV kV doc pv an (.ref c) ct),sl⟩)(h:codeIn G.K (.ref c) nm=true):FK G a nm pm bod sc dV:=⟨_,_,_,_,_,_,_,_,_,_,e,h⟩
theorem IO{nm:Str}{pm:Arguments}{bod:List Stmt}{T:Addr}{oc:Value}{od:Option Addr}{tok m:Nat}{sl:Array (Option Value)}(f:FK G a nm pm bod sc (.ref T))(e:G.K.lookup T=some ⟨oc,od,.seq #[.int 0 tok] m,sl⟩):WW G a nm pm bod sc:=⟨_,_,_,_,_,_,f,e⟩
theorem Vg{l:List (Str×Addr)}(e:l.map (λp=>nsIn G.K mainGlobals p.1)=l.map λp=>some (some (.ref p.2)))(k:(l.all λp=>keepIn G.K (.ref p.2))=true):∀p ∈ l,GF G p.1 p.2:=
 λp h=>Jl (List.map_inj_left.mp e p h) (fu.mp k p h)
noncomputable def ZF(o:Option Obj)(nm:Str)(pm:Arguments)(bod:List Stmt)(sc:Scope):Option (Option Obj):=
 match o with
 |some ⟨oc,od,.func F,sl⟩=>match F.code with
  | .ref c=>some (some ⟨oc,od,.func (fnOf F.name nm pm bod sc .none F.kwdefaults F.doc F.pyModule F.annotations (.ref c) F.closureTuple),sl⟩)
  |_=>none
 |_=>none
noncomputable def ZG(K:Frag)(o:Option Obj)(nm:Str):Bool:=
 match o with
 |some ⟨_,_,.func F,_⟩=>codeIn K F.code nm
 |_=>false
theorem Vh{nm:Str}{pm:Arguments}{bod:List Stmt}(e:some (G.K.lookup a)=ZF (G.K.lookup a) nm pm bod sc)(h:ZG G.K (G.K.lookup a) nm=true):FK G a nm pm bod sc .none:=by
 generalize q:G.K.lookup a=o at e h;unfold ZF at e;split at e
 ·split at e
  ·rename_i c r;have e:=Option.some.inj e;unfold ZG at h;dsimp only at h;rw[r]at h;exact Cp (q.trans e) h
  ·exact yt e
 ·exact yt e
theorem Vi{l:List (Addr×Str×Nat)}(e:l.map (λp=>some (G.K.lookup p.1))=l.map λp=>ZF (G.K.lookup p.1) p.2.1 (Rt p.2.2) (bd p.2.2) (iZ p.2.2))(k:(l.all λp=>ZG G.K (G.K.lookup p.1) p.2.1)=true):
  ∀p ∈ l,FK G p.1 p.2.1 (Rt p.2.2) (bd p.2.2) (iZ p.2.2) .none:=λp h=>Vh (List.map_inj_left.mp e p h) (fu.mp k p h)
section
variable{prog:Program}{w:World}{h₀:Heap}{mg mb:Str->Option Value}{KX:(KK w.params).In h₀}{hg:h₀.Ns mainGlobals mg}{hb:h₀.Ns builtinsNs mb}{hbo:∀x:Str,x≠"__name__"->mb x=bootBuiltins x}{lim:h₀.NoLimit}
theorem Vj:yU (gl KK prog w h₀ mg mb KX hg hb hbo lim):=⟨by rfl',by rfl',by rfl',by rfl'⟩
theorem SZ(KX:(KK w.params).In h₀)(M:Model):ku M h₀ 70:=by have X:(KK w.params).In h₀:=KX;refine⟨?_,Looks.of_peek X (by rfl'),Looks.of_peek X (by rfl'),looks_mroIn X (by rfl'),looks_mroIn X (by rfl'),looks_mroIn X (by rfl'),looks_mroIn X (by rfl'),looks_mroIn X (by rfl'),looks_specialIn X (by rfl'),looks_instIn X (by rfl')⟩;exact⟨_,_,_,X 70 _ (by rfl),rfl,rfl,rfl⟩
theorem ZH:HG (gl KK prog w h₀ mg mb KX hg hb hbo lim) where
 rcls:=Vj
 mke:=SZ KX
 sf:=mg_of KX hg (by rfl')
 ats:=List.map_inj_left.mp (show Fy.map (λx=>findIn (KK w.params) (.ref 109) x)=Fy.map λ_=>some none by rfl')
 fR:=Jl (by rfl') (by rfl')
 fh:=Jl (by rfl') (by rfl')
 fs:=Vg (by rfl') (by rfl')
 vs:=⟨my (by rfl'),Jk (a:=528) (n:=14) (l:=[(("**":Str),1031,PySem.Value.ref 529),(("*":Str),1035,PySem.Value.ref 530),(("/":Str),1039,PySem.Value.ref 531),(("mod":Str),1043,PySem.Value.ref 532),(("rem":Str),1047,PySem.Value.ref 533),(("+":Str),1051,PySem.Value.ref 534),(("-":Str),1055,PySem.Value.ref 535),(("&":Str),1059,PySem.Value.ref 536),(("=":Str),1063,PySem.Value.ref 537),(("/=":Str),1067,PySem.Value.ref 538),(("<":Str),1071,PySem.Value.ref 539),(("<=":Str),1075,PySem.Value.ref 540),((">":Str),1079,PySem.Value.ref 541),((">=":Str),1083,PySem.Value.ref 542)]) (by rfl') (by decide) (by rfl') (by decide+kernel) (by rfl'),my (by rfl'),my (by rfl'),my (by rfl'),my (by rfl'),my (by rfl'),my (by rfl'),my (by rfl'),my (by rfl'),my (by rfl'),my (by rfl'),my (by rfl'),my (by rfl'),my (by rfl'),Jk (a:=543) (n:=2) (l:=[(("andthen":Str),1102,PySem.Value.str (PySem.Str.ofString "and then") 1103),(("orelse":Str),1104,PySem.Value.str (PySem.Str.ofString "or else") 1105)]) (by rfl') (by decide) (by rfl') (by decide+kernel) (by rfl'),my (by rfl'),my (by rfl'),my (by rfl'),my (by rfl'),my (by rfl'),trivial⟩
 GW:=y7 (by rfl') (by boot_by_name) (by decide+kernel)
 sh:=y7 (by rfl') (by boot_by_name) (by decide+kernel)
 S3:=y7 (by rfl') (by boot_by_name) (by decide+kernel)
 O9:=y7 (by rfl') (by boot_by_name) (by decide+kernel)
 S4:=y7 (by rfl') (by boot_by_name) (by decide+kernel)
 EA:=y7 (by rfl') (by boot_by_name) (by decide+kernel)
 J9:=y7 (by rfl') (by boot_by_name) (by decide+kernel)
theorem h_e:Ho (gl KK prog w h₀ mg mb KX hg hb hbo lim) 31 28 67 where
 made:=SZ KX
 cd:=⟨_,rfl,rfl,rfl⟩
 sa:=by rfl'
 gB:=by rfl'
 tB:=by rfl'
 rB:=by rfl'
 iB:=by rfl'
 kA:=by rfl'
 iE:=by rfl'
 xt:=by rfl'
 xl:=by rfl'
 iC:=by rfl'
 fnS:=by rfl'
 kC:=by rfl'
theorem ZI:HK (gl KK prog w h₀ mg mb KX hg hb hbo lim) where
 toHG:=ZH
 sI:=IO (Cp (by rfl) (by rfl')) (by rfl)
 Cq:=IO (Cp (by rfl) (by rfl')) (by rfl)
 Ct:=IO (Cp (by rfl) (by rfl')) (by rfl)
 ks:=Vi (by rfl') (by rfl')
 S2:=Cp (by rfl) (by rfl')
 S1:=Cp (by rfl) (by rfl')
 e:=h_e
 xN:=Jl (by rfl') (by rfl')
 mgE:=mg_none_of KX hg (by rfl')
 mgA:=mg_of KX hg (by rfl')
 rm:=by rfl'
 ri:=by rfl'
 rf:=by rfl'
end
end
section
set_option tactic.hygienic true
theorem LH(run:z6){w:World}{aJ:Shared}{mg mb:Str->Option Value}{p:Program}{loose:List Str}{mean:ExcName->Option Value}(KX:(KK w.params).In aJ.heap)(T:Top p loose mean mg mb aJ.heap)
  {fa l:Addr}{items:List Value}{xs:List Int}{m:Str->Option Value}{Q:Flow->Shared->Prop}
  (F:Fr aJ.heap L h₁ m)(hl:aJ.heap.IsList l items.toArray)(hi:IntsAre items xs)(hlen:¬((63:Nat):Int)<(xs.length:Int))(hm:m "script"=some (.ref l))(hsh:s.heap=h₁)
  (hE:PassesOwn (model PySem.Challenge.rw_xm0009_01.row.prog w) (callerA.deeper (envOf "law" (iZ 125) L fa cd)) (envOf "law" (iZ 125) L fa cd) E)
  (hQ:∀h' tk',aJ.heap.StaysIn h'->Q (.ret (.bool true)) { s with heap:=h',toks:=tk' }):
  wpAny (model PySem.Challenge.rw_xm0009_01.row.prog w) (callerA.deeper (envOf "law" (iZ 125) L fa cd)) (execs (bd 125) (envOf "law" (iZ 125) L fa cd)) Q E s:=
 NT (ZI (KX:=KX) (hg:=T.g) (hb:=T.b) (hbo:=T.builtins) (lim:=T.nolimit)) run F hm hl hi (by exact(lE (.l A0 (.k 63)) [.n (.S (.c (.k 63)) (.c A0))]) hlen) hsh hE hQ
theorem call(run:z6):WalkO qv vc (XL qv []) Pc.says RR Gd [] λf vs=>PySem.call f vs:=by
 intro w aU aJ mg mb G Y fa o pm cd doc dV kV ho hd hcd hD hmg hg args vals as hpre hlay Pf hwl hlo;have KX:=kIn_of Y;have X:=(Ground.X G).1;have V:=(Ground.X G).2;refine Ground.open G ?_;intro T B D E TW
 try (refine guard_noD D (by decide+kernel) ?_;clear D)
 refine Kb (bmod_of_top T) λ_ _ M=> ?_;have TA:=at_of_top T
 try (refine mZ (based_of_top T rfl hmg ho hd) λ_ _ he B0=> ?_;have he':cd=_:=he;subst he';clear he)
 clear hmg
 wrow_args hpre hlay Pf hwl hlo
 all_goals (
  first|refine callC_kw (enter_call ?_)|refine enter_call ?_|refine callC_kw (enter_callW ?_)|refine enter_callW ?_|w_how
  w_top on
  try refine codeAny_mono ?_ (λ_ _ g=>GoodW.toG g)
  have K0:=below_caller (Top.heap T)
  w_call any ho hd hcd hD T F
  clear hd TA
  k_drop
  skip)
 (all_goals try k_fold)
 refine LH run (by assumption) (by assumption) (by assumption) (by assumption) (by assumption) (by assumption) (by rfl) rfl PassesOwn.leaving ?_;intro h' tk' hk;refine⟨.inl ⟨.bool true,.bool true,[],rfl,?_,?_,?_,?_⟩,hk,rfl,?_⟩
 ·intro cls;rfl
 ·exact .bool true
 ·wrow_post
 ·exactλ_=>⟨List.nodup_nil,λa m=>by cases m⟩
 ·assumption
theorem t1(run:z6):PySem.Challenge.rw_xm0009_01.Holds:=
 holds_law Uk λUk=>holds_open (r:=PySem.Challenge.rw_xm0009_01.row) (q:=qv) (loose:=vc) (Xt:=Yg) (XP:=XL qv []) (Yf:=Pc.obs) (Ya:=Pc.val) (YP:=Pc.says) (d:=Gd) (kwd:=[]) (N:=9352)
  Y5 Pc.of Pc.keeps (λs e=>xl_of s (Bool.and_eq_true_iff.mp e).1) XL.keeps Ui Y2 Y3 (λs e=>recFacts_of (Bool.and_eq_true_iff.mp e).2) W1 Uk W0 bare wit (call run)
end
end
end Mine.Internal
end
theorem PySem.Challenge.cw_xm0009_01_holds : PySem.Challenge.rw_xm0009_01.Holds :=
 Mine.Internal.t1 Mine.Internal.lawRun
