import PyProof.Rows.All
import PySem.Eval
import PyProof.StrBlockL
import Wide.All
import OpenK.AllK
import Wide.FinOn
import PyProof.Rows.KernelRfl
import KE.KBytesCut
import KE.KSliceW
import KE.BytesMake
import KE.KTupSum
import PyProof.TupleOfSeq
import PyProof.TupleOfGen
import KE.KBytesWalk
import PyProof.StrLawsTight
import PyProof.StrLawsChain
import PyProof.StrCalls2
import KE.KDictOf
import PyProof.AttrMissHeap
import PyProof.Rows.TupDisplay
import PyProof.StrCalls3
import PyProof.EnumMake
import PyProof.CompUse
import PyProof.Rows.StrFirst2
import PySem.Challenge.RW_pf0246_01
set_option maxRecDepth 100000
set_option linter.all false
set_option genInjectivity false
set_option genSizeOf false
set_option maxHeartbeats 4000000
noncomputable section
namespace Mine
abbrev bk:=@Bool.and_eq_true_iff
abbrev aM:=@decide_eq_true
abbrev aI:=@Nat.le_trans
abbrev aD:=@PySem.wpAny_bind
abbrev bx:=@of_decide_eq_true
abbrev bQ:=@List.mem_singleton
abbrev cO:=@List.mem_append_right
abbrev cG:=@List.length_append
abbrev cg:=@List.nodup_append
abbrev bR:=@List.mem_append
abbrev cP:=@List.mem_append_left
abbrev bI:=@List.length_map
abbrev aR:=@PySem.wpAny_pure
abbrev dH:=@List.append_assoc
abbrev eX:=@Nat.add_le_add_right
abbrev dm:=@Option.some.inj
abbrev cC:=@List.mem_cons
abbrev dz:=@Nat.add_le_add
abbrev gn:=@Nat.add_le_add_left
abbrev bN:=@cond_false
abbrev bq:=@congrArg
abbrev gS:=@Bool.or_eq_false_iff
abbrev cD:=@PySem.wpAny_of_eq
abbrev kF:=@PySem.W.Fast.te14364793385576792824
abbrev fu:=@PySem.wpAny_specialOf
abbrev jq:=@PySem.builtinLookup_eq_fast
abbrev fU:=@List.append_nil
abbrev gh:=@List.nodup_cons
abbrev jj:=@Nat.mul_le_mul_left
abbrev jk:=@Array.length_toList
abbrev gF:=@decide_eq_false
abbrev iu:=@PySem.Str.length_append
abbrev iU:=@List.flatten_cons
abbrev nq:=@PySem.W.Fast.te10110043849684766642
abbrev dY:=@Prod.mk.inj
abbrev jY:=@beq_eq_false_iff_ne
abbrev eL:=@PySem.bm_if_false
abbrev jl:=@List.length_cons
abbrev iY:=@List.map_append
abbrev kJ:=@Nat.lt_of_le_of_lt
abbrev j5:=@List.Sublist.refl
abbrev jo:=@PySem.typeLookup_type
abbrev gD:=@PySem.Heap.lt_size
abbrev j0:=@beq_self_eq_true
abbrev qd:=@Nat.le_of_add_right_le
abbrev bG:=@if_neg
abbrev gK:=@Nat.le_refl
abbrev nu:=@Nat.lt_of_lt_of_le
abbrev jr:=@List.mem_map
abbrev oH:=@Int.natCast_nonneg
abbrev sy:=@Classical.choose_spec
abbrev iS:=@Nat.zero_le
abbrev kH:=@Nat.lt_irrefl
abbrev kg:=@Nat.succ_pos
abbrev tY:=@Nat.eq_of_beq_eq_true
abbrev oG:=@Bool.and_eq_true
abbrev rX:=@Bool.false_ne_true
abbrev vH:=@Nat.lt_of_succ_lt_succ
abbrev tW:=@PySem.Around.under_plainId
abbrev ir:=@cond_true
set_option backward.match.sparseCases false
@[elab_as_elim] theorem rE {γ:Sort _} {a b:γ} {P:γ->Prop} (h:a=b) (x:P b):P a:=h▸x
@[elab_as_elim] theorem rS {γ:Sort _} {a b:γ} {P:γ->Prop} (h:b=a) (x:P b):P a:=h▸x
theorem oA{p0 p1 G:Prop}(e:p0/\p1)(f:p0->p1->G):G:=f e.1 e.2
theorem oE{t0:Sort _}{p0:t0->Prop}{G:Prop}(e:∃a0,p0 a0)(f:∀a0,p0 a0->G):G:=e.elim f
theorem dh{p0 p1 p2 G:Prop}(e:p0/\p1/\p2)(f:p0->p1->p2->G):G:=oA e.2 (f e.1)
theorem aH{t0:Sort _}{p0 p1:t0->Prop}{G:Prop}(e:∃a0,p0 a0/\p1 a0)(f:∀a0,p0 a0->p1 a0->G):G:=e.elim fun a h=>oA h (f a)
theorem tD{t0 t1:Sort _}{p0:t0->t1->Prop}{G:Prop}(e:∃a0 a1,p0 a0 a1)(f:∀a0 a1,p0 a0 a1->G):G:=e.elim fun a h=>oE h (f a)
theorem uq{p0 p1 p2 p3 G:Prop}(e:p0/\p1/\p2/\p3)(f:p0->p1->p2->p3->G):G:=dh e.2 (f e.1)
theorem gO{t0:Sort _}{p0 p1 p2:t0->Prop}{G:Prop}(e:∃a0,p0 a0/\p1 a0/\p2 a0)(f:∀a0,p0 a0->p1 a0->p2 a0->G):G:=e.elim fun a h=>dh h (f a)
theorem cF{t0 t1:Sort _}{p0 p1:t0->t1->Prop}{G:Prop}(e:∃a0 a1,p0 a0 a1/\p1 a0 a1)(f:∀a0 a1,p0 a0 a1->p1 a0 a1->G):G:=e.elim fun a h=>aH h (f a)
theorem LK{t0 t1 t2:Sort _}{p0:t0->t1->t2->Prop}{G:Prop}(e:∃a0 a1 a2,p0 a0 a1 a2)(f:∀a0 a1 a2,p0 a0 a1 a2->G):G:=e.elim fun a h=>tD h (f a)
theorem rU{p0 p1 p2 p3 p4 G:Prop}(e:p0/\p1/\p2/\p3/\p4)(f:p0->p1->p2->p3->p4->G):G:=uq e.2 (f e.1)
theorem jS{t0:Sort _}{p0 p1 p2 p3:t0->Prop}{G:Prop}(e:∃a0,p0 a0/\p1 a0/\p2 a0/\p3 a0)(f:∀a0,p0 a0->p1 a0->p2 a0->p3 a0->G):G:=e.elim fun a h=>uq h (f a)
theorem cy{t0 t1:Sort _}{p0 p1 p2:t0->t1->Prop}{G:Prop}(e:∃a0 a1,p0 a0 a1/\p1 a0 a1/\p2 a0 a1)(f:∀a0 a1,p0 a0 a1->p1 a0 a1->p2 a0 a1->G):G:=e.elim fun a h=>gO h (f a)
theorem fq{t0 t1 t2:Sort _}{p0 p1:t0->t1->t2->Prop}{G:Prop}(e:∃a0 a1 a2,p0 a0 a1 a2/\p1 a0 a1 a2)(f:∀a0 a1 a2,p0 a0 a1 a2->p1 a0 a1 a2->G):G:=e.elim fun a h=>cF h (f a)
theorem oEEEE{t0 t1 t2 t3:Sort _}{p0:t0->t1->t2->t3->Prop}{G:Prop}(e:∃a0 a1 a2 a3,p0 a0 a1 a2 a3)(f:∀a0 a1 a2 a3,p0 a0 a1 a2 a3->G):G:=e.elim fun a h=>LK h (f a)
theorem pS{p0 p1 p2 p3 p4 p5 G:Prop}(e:p0/\p1/\p2/\p3/\p4/\p5)(f:p0->p1->p2->p3->p4->p5->G):G:=rU e.2 (f e.1)
theorem Hh{t0:Sort _}{p0 p1 p2 p3 p4:t0->Prop}{G:Prop}(e:∃a0,p0 a0/\p1 a0/\p2 a0/\p3 a0/\p4 a0)(f:∀a0,p0 a0->p1 a0->p2 a0->p3 a0->p4 a0->G):G:=e.elim fun a h=>rU h (f a)
theorem mJ{t0 t1:Sort _}{p0 p1 p2 p3:t0->t1->Prop}{G:Prop}(e:∃a0 a1,p0 a0 a1/\p1 a0 a1/\p2 a0 a1/\p3 a0 a1)(f:∀a0 a1,p0 a0 a1->p1 a0 a1->p2 a0 a1->p3 a0 a1->G):G:=e.elim fun a h=>jS h (f a)
theorem yT{t0 t1 t2:Sort _}{p0 p1 p2:t0->t1->t2->Prop}{G:Prop}(e:∃a0 a1 a2,p0 a0 a1 a2/\p1 a0 a1 a2/\p2 a0 a1 a2)(f:∀a0 a1 a2,p0 a0 a1 a2->p1 a0 a1 a2->p2 a0 a1 a2->G):G:=e.elim fun a h=>cy h (f a)
theorem Hi{t0 t1 t2 t3:Sort _}{p0 p1:t0->t1->t2->t3->Prop}{G:Prop}(e:∃a0 a1 a2 a3,p0 a0 a1 a2 a3/\p1 a0 a1 a2 a3)(f:∀a0 a1 a2 a3,p0 a0 a1 a2 a3->p1 a0 a1 a2 a3->G):G:=e.elim fun a h=>fq h (f a)
theorem OA{t0 t1 t2 t3 t4:Sort _}{p0:t0->t1->t2->t3->t4->Prop}{G:Prop}(e:∃a0 a1 a2 a3 a4,p0 a0 a1 a2 a3 a4)(f:∀a0 a1 a2 a3 a4,p0 a0 a1 a2 a3 a4->G):G:=e.elim fun a h=>oEEEE h (f a)
theorem VJ{p0 p1 p2 p3 p4 p5 p6 G:Prop}(e:p0/\p1/\p2/\p3/\p4/\p5/\p6)(f:p0->p1->p2->p3->p4->p5->p6->G):G:=pS e.2 (f e.1)
theorem VK{t0:Sort _}{p0 p1 p2 p3 p4 p5:t0->Prop}{G:Prop}(e:∃a0,p0 a0/\p1 a0/\p2 a0/\p3 a0/\p4 a0/\p5 a0)(f:∀a0,p0 a0->p1 a0->p2 a0->p3 a0->p4 a0->p5 a0->G):G:=e.elim fun a h=>pS h (f a)
theorem kP{t0 t1:Sort _}{p0 p1 p2 p3 p4:t0->t1->Prop}{G:Prop}(e:∃a0 a1,p0 a0 a1/\p1 a0 a1/\p2 a0 a1/\p3 a0 a1/\p4 a0 a1)(f:∀a0 a1,p0 a0 a1->p1 a0 a1->p2 a0 a1->p3 a0 a1->p4 a0 a1->G):G:=e.elim fun a h=>Hh h (f a)
theorem gX{t0 t1 t2:Sort _}{p0 p1 p2 p3:t0->t1->t2->Prop}{G:Prop}(e:∃a0 a1 a2,p0 a0 a1 a2/\p1 a0 a1 a2/\p2 a0 a1 a2/\p3 a0 a1 a2)(f:∀a0 a1 a2,p0 a0 a1 a2->p1 a0 a1 a2->p2 a0 a1 a2->p3 a0 a1 a2->G):G:=e.elim fun a h=>mJ h (f a)
theorem KS{t0 t1 t2 t3:Sort _}{p0 p1 p2:t0->t1->t2->t3->Prop}{G:Prop}(e:∃a0 a1 a2 a3,p0 a0 a1 a2 a3/\p1 a0 a1 a2 a3/\p2 a0 a1 a2 a3)(f:∀a0 a1 a2 a3,p0 a0 a1 a2 a3->p1 a0 a1 a2 a3->p2 a0 a1 a2 a3->G):G:=e.elim fun a h=>yT h (f a)
theorem Ay{t0 t1 t2 t3 t4:Sort _}{p0 p1:t0->t1->t2->t3->t4->Prop}{G:Prop}(e:∃a0 a1 a2 a3 a4,p0 a0 a1 a2 a3 a4/\p1 a0 a1 a2 a3 a4)(f:∀a0 a1 a2 a3 a4,p0 a0 a1 a2 a3 a4->p1 a0 a1 a2 a3 a4->G):G:=e.elim fun a h=>Hi h (f a)
theorem Rg{p0 p1 p2 p3 p4 p5 p6 p7 G:Prop}(e:p0/\p1/\p2/\p3/\p4/\p5/\p6/\p7)(f:p0->p1->p2->p3->p4->p5->p6->p7->G):G:=VJ e.2 (f e.1)
theorem Hj{t0 t1:Sort _}{p0 p1 p2 p3 p4 p5:t0->t1->Prop}{G:Prop}(e:∃a0 a1,p0 a0 a1/\p1 a0 a1/\p2 a0 a1/\p3 a0 a1/\p4 a0 a1/\p5 a0 a1)(f:∀a0 a1,p0 a0 a1->p1 a0 a1->p2 a0 a1->p3 a0 a1->p4 a0 a1->p5 a0 a1->G):G:=e.elim fun a h=>VK h (f a)
theorem Hl{t0 t1 t2:Sort _}{p0 p1 p2 p3 p4:t0->t1->t2->Prop}{G:Prop}(e:∃a0 a1 a2,p0 a0 a1 a2/\p1 a0 a1 a2/\p2 a0 a1 a2/\p3 a0 a1 a2/\p4 a0 a1 a2)(f:∀a0 a1 a2,p0 a0 a1 a2->p1 a0 a1 a2->p2 a0 a1 a2->p3 a0 a1 a2->p4 a0 a1 a2->G):G:=e.elim fun a h=>kP h (f a)
theorem xr{t0 t1 t2 t3:Sort _}{p0 p1 p2 p3:t0->t1->t2->t3->Prop}{G:Prop}(e:∃a0 a1 a2 a3,p0 a0 a1 a2 a3/\p1 a0 a1 a2 a3/\p2 a0 a1 a2 a3/\p3 a0 a1 a2 a3)(f:∀a0 a1 a2 a3,p0 a0 a1 a2 a3->p1 a0 a1 a2 a3->p2 a0 a1 a2 a3->p3 a0 a1 a2 a3->G):G:=e.elim fun a h=>gX h (f a)
theorem Rh{t0 t1 t2 t3 t4:Sort _}{p0 p1 p2:t0->t1->t2->t3->t4->Prop}{G:Prop}(e:∃a0 a1 a2 a3 a4,p0 a0 a1 a2 a3 a4/\p1 a0 a1 a2 a3 a4/\p2 a0 a1 a2 a3 a4)(f:∀a0 a1 a2 a3 a4,p0 a0 a1 a2 a3 a4->p1 a0 a1 a2 a3 a4->p2 a0 a1 a2 a3 a4->G):G:=e.elim fun a h=>KS h (f a)
theorem Ri{t0 t1 t2 t3 t4 t5:Sort _}{p0 p1:t0->t1->t2->t3->t4->t5->Prop}{G:Prop}(e:∃a0 a1 a2 a3 a4 a5,p0 a0 a1 a2 a3 a4 a5/\p1 a0 a1 a2 a3 a4 a5)(f:∀a0 a1 a2 a3 a4 a5,p0 a0 a1 a2 a3 a4 a5->p1 a0 a1 a2 a3 a4 a5->G):G:=e.elim fun a h=>Ay h (f a)
theorem Fb{p0 p1 p2 p3 p4 p5 p6 p7 p8 G:Prop}(e:p0/\p1/\p2/\p3/\p4/\p5/\p6/\p7/\p8)(f:p0->p1->p2->p3->p4->p5->p6->p7->p8->G):G:=Rg e.2 (f e.1)
theorem Fc{t0 t1 t2:Sort _}{p0 p1 p2 p3 p4 p5:t0->t1->t2->Prop}{G:Prop}(e:∃a0 a1 a2,p0 a0 a1 a2/\p1 a0 a1 a2/\p2 a0 a1 a2/\p3 a0 a1 a2/\p4 a0 a1 a2/\p5 a0 a1 a2)(f:∀a0 a1 a2,p0 a0 a1 a2->p1 a0 a1 a2->p2 a0 a1 a2->p3 a0 a1 a2->p4 a0 a1 a2->p5 a0 a1 a2->G):G:=e.elim fun a h=>Hj h (f a)
theorem jD{t0 t1 t2 t3:Sort _}{p0 p1 p2 p3 p4:t0->t1->t2->t3->Prop}{G:Prop}(e:∃a0 a1 a2 a3,p0 a0 a1 a2 a3/\p1 a0 a1 a2 a3/\p2 a0 a1 a2 a3/\p3 a0 a1 a2 a3/\p4 a0 a1 a2 a3)(f:∀a0 a1 a2 a3,p0 a0 a1 a2 a3->p1 a0 a1 a2 a3->p2 a0 a1 a2 a3->p3 a0 a1 a2 a3->p4 a0 a1 a2 a3->G):G:=e.elim fun a h=>Hl h (f a)
theorem OB{t0 t1 t2 t3 t4 t5 t6:Sort _}{p0 p1:t0->t1->t2->t3->t4->t5->t6->Prop}{G:Prop}(e:∃a0 a1 a2 a3 a4 a5 a6,p0 a0 a1 a2 a3 a4 a5 a6/\p1 a0 a1 a2 a3 a4 a5 a6)(f:∀a0 a1 a2 a3 a4 a5 a6,p0 a0 a1 a2 a3 a4 a5 a6->p1 a0 a1 a2 a3 a4 a5 a6->G):G:=e.elim fun a h=>Ri h (f a)
theorem LL{p0 p1 p2 p3 p4 p5 p6 p7 p8 p9 G:Prop}(e:p0/\p1/\p2/\p3/\p4/\p5/\p6/\p7/\p8/\p9)(f:p0->p1->p2->p3->p4->p5->p6->p7->p8->p9->G):G:=Fb e.2 (f e.1)
theorem LM{t0:Sort _}{p0 p1 p2 p3 p4 p5 p6 p7 p8:t0->Prop}{G:Prop}(e:∃a0,p0 a0/\p1 a0/\p2 a0/\p3 a0/\p4 a0/\p5 a0/\p6 a0/\p7 a0/\p8 a0)(f:∀a0,p0 a0->p1 a0->p2 a0->p3 a0->p4 a0->p5 a0->p6 a0->p7 a0->p8 a0->G):G:=e.elim fun a h=>Fb h (f a)
theorem jX{t0 t1 t2 t3:Sort _}{p0 p1 p2 p3 p4 p5:t0->t1->t2->t3->Prop}{G:Prop}(e:∃a0 a1 a2 a3,p0 a0 a1 a2 a3/\p1 a0 a1 a2 a3/\p2 a0 a1 a2 a3/\p3 a0 a1 a2 a3/\p4 a0 a1 a2 a3/\p5 a0 a1 a2 a3)(f:∀a0 a1 a2 a3,p0 a0 a1 a2 a3->p1 a0 a1 a2 a3->p2 a0 a1 a2 a3->p3 a0 a1 a2 a3->p4 a0 a1 a2 a3->p5 a0 a1 a2 a3->G):G:=e.elim fun a h=>Fc h (f a)
theorem LO{t0 t1 t2 t3 t4:Sort _}{p0 p1 p2 p3 p4:t0->t1->t2->t3->t4->Prop}{G:Prop}(e:∃a0 a1 a2 a3 a4,p0 a0 a1 a2 a3 a4/\p1 a0 a1 a2 a3 a4/\p2 a0 a1 a2 a3 a4/\p3 a0 a1 a2 a3 a4/\p4 a0 a1 a2 a3 a4)(f:∀a0 a1 a2 a3 a4,p0 a0 a1 a2 a3 a4->p1 a0 a1 a2 a3 a4->p2 a0 a1 a2 a3 a4->p3 a0 a1 a2 a3 a4->p4 a0 a1 a2 a3 a4->G):G:=e.elim fun a h=>jD h (f a)
theorem JX{t0:Sort _}{p0 p1 p2 p3 p4 p5 p6 p7 p8 p9:t0->Prop}{G:Prop}(e:∃a0,p0 a0/\p1 a0/\p2 a0/\p3 a0/\p4 a0/\p5 a0/\p6 a0/\p7 a0/\p8 a0/\p9 a0)(f:∀a0,p0 a0->p1 a0->p2 a0->p3 a0->p4 a0->p5 a0->p6 a0->p7 a0->p8 a0->p9 a0->G):G:=e.elim fun a h=>LL h (f a)
theorem JY{t0 t1:Sort _}{p0 p1 p2 p3 p4 p5 p6 p7 p8:t0->t1->Prop}{G:Prop}(e:∃a0 a1,p0 a0 a1/\p1 a0 a1/\p2 a0 a1/\p3 a0 a1/\p4 a0 a1/\p5 a0 a1/\p6 a0 a1/\p7 a0 a1/\p8 a0 a1)(f:∀a0 a1,p0 a0 a1->p1 a0 a1->p2 a0 a1->p3 a0 a1->p4 a0 a1->p5 a0 a1->p6 a0 a1->p7 a0 a1->p8 a0 a1->G):G:=e.elim fun a h=>LM h (f a)
theorem JZ{t0 t1 t2 t3 t4:Sort _}{p0 p1 p2 p3 p4 p5:t0->t1->t2->t3->t4->Prop}{G:Prop}(e:∃a0 a1 a2 a3 a4,p0 a0 a1 a2 a3 a4/\p1 a0 a1 a2 a3 a4/\p2 a0 a1 a2 a3 a4/\p3 a0 a1 a2 a3 a4/\p4 a0 a1 a2 a3 a4/\p5 a0 a1 a2 a3 a4)(f:∀a0 a1 a2 a3 a4,p0 a0 a1 a2 a3 a4->p1 a0 a1 a2 a3 a4->p2 a0 a1 a2 a3 a4->p3 a0 a1 a2 a3 a4->p4 a0 a1 a2 a3 a4->p5 a0 a1 a2 a3 a4->G):G:=e.elim fun a h=>jX h (f a)
theorem A7{t0 t1 t2 t3 t4 t5:Sort _}{p0 p1 p2 p3 p4:t0->t1->t2->t3->t4->t5->Prop}{G:Prop}(e:∃a0 a1 a2 a3 a4 a5,p0 a0 a1 a2 a3 a4 a5/\p1 a0 a1 a2 a3 a4 a5/\p2 a0 a1 a2 a3 a4 a5/\p3 a0 a1 a2 a3 a4 a5/\p4 a0 a1 a2 a3 a4 a5)(f:∀a0 a1 a2 a3 a4 a5,p0 a0 a1 a2 a3 a4 a5->p1 a0 a1 a2 a3 a4 a5->p2 a0 a1 a2 a3 a4 a5->p3 a0 a1 a2 a3 a4 a5->p4 a0 a1 a2 a3 a4 a5->G):G:=e.elim fun a h=>LO h (f a)
theorem Ho{t0 t1:Sort _}{p0 p1 p2 p3 p4 p5 p6 p7 p8 p9:t0->t1->Prop}{G:Prop}(e:∃a0 a1,p0 a0 a1/\p1 a0 a1/\p2 a0 a1/\p3 a0 a1/\p4 a0 a1/\p5 a0 a1/\p6 a0 a1/\p7 a0 a1/\p8 a0 a1/\p9 a0 a1)(f:∀a0 a1,p0 a0 a1->p1 a0 a1->p2 a0 a1->p3 a0 a1->p4 a0 a1->p5 a0 a1->p6 a0 a1->p7 a0 a1->p8 a0 a1->p9 a0 a1->G):G:=e.elim fun a h=>JX h (f a)
theorem Hp{t0 t1 t2:Sort _}{p0 p1 p2 p3 p4 p5 p6 p7 p8:t0->t1->t2->Prop}{G:Prop}(e:∃a0 a1 a2,p0 a0 a1 a2/\p1 a0 a1 a2/\p2 a0 a1 a2/\p3 a0 a1 a2/\p4 a0 a1 a2/\p5 a0 a1 a2/\p6 a0 a1 a2/\p7 a0 a1 a2/\p8 a0 a1 a2)(f:∀a0 a1 a2,p0 a0 a1 a2->p1 a0 a1 a2->p2 a0 a1 a2->p3 a0 a1 a2->p4 a0 a1 a2->p5 a0 a1 a2->p6 a0 a1 a2->p7 a0 a1 a2->p8 a0 a1 a2->G):G:=e.elim fun a h=>JY h (f a)
theorem Hq{t0 t1 t2 t3 t4 t5:Sort _}{p0 p1 p2 p3 p4 p5:t0->t1->t2->t3->t4->t5->Prop}{G:Prop}(e:∃a0 a1 a2 a3 a4 a5,p0 a0 a1 a2 a3 a4 a5/\p1 a0 a1 a2 a3 a4 a5/\p2 a0 a1 a2 a3 a4 a5/\p3 a0 a1 a2 a3 a4 a5/\p4 a0 a1 a2 a3 a4 a5/\p5 a0 a1 a2 a3 a4 a5)(f:∀a0 a1 a2 a3 a4 a5,p0 a0 a1 a2 a3 a4 a5->p1 a0 a1 a2 a3 a4 a5->p2 a0 a1 a2 a3 a4 a5->p3 a0 a1 a2 a3 a4 a5->p4 a0 a1 a2 a3 a4 a5->p5 a0 a1 a2 a3 a4 a5->G):G:=e.elim fun a h=>JZ h (f a)
theorem Hr{t0 t1 t2 t3 t4 t5 t6:Sort _}{p0 p1 p2 p3 p4:t0->t1->t2->t3->t4->t5->t6->Prop}{G:Prop}(e:∃a0 a1 a2 a3 a4 a5 a6,p0 a0 a1 a2 a3 a4 a5 a6/\p1 a0 a1 a2 a3 a4 a5 a6/\p2 a0 a1 a2 a3 a4 a5 a6/\p3 a0 a1 a2 a3 a4 a5 a6/\p4 a0 a1 a2 a3 a4 a5 a6)(f:∀a0 a1 a2 a3 a4 a5 a6,p0 a0 a1 a2 a3 a4 a5 a6->p1 a0 a1 a2 a3 a4 a5 a6->p2 a0 a1 a2 a3 a4 a5 a6->p3 a0 a1 a2 a3 a4 a5 a6->p4 a0 a1 a2 a3 a4 a5 a6->G):G:=e.elim fun a h=>A7 h (f a)
theorem F2{t0 t1 t2:Sort _}{p0 p1 p2 p3 p4 p5 p6 p7 p8 p9:t0->t1->t2->Prop}{G:Prop}(e:∃a0 a1 a2,p0 a0 a1 a2/\p1 a0 a1 a2/\p2 a0 a1 a2/\p3 a0 a1 a2/\p4 a0 a1 a2/\p5 a0 a1 a2/\p6 a0 a1 a2/\p7 a0 a1 a2/\p8 a0 a1 a2/\p9 a0 a1 a2)(f:∀a0 a1 a2,p0 a0 a1 a2->p1 a0 a1 a2->p2 a0 a1 a2->p3 a0 a1 a2->p4 a0 a1 a2->p5 a0 a1 a2->p6 a0 a1 a2->p7 a0 a1 a2->p8 a0 a1 a2->p9 a0 a1 a2->G):G:=e.elim fun a h=>Ho h (f a)
theorem F3{t0 t1 t2 t3:Sort _}{p0 p1 p2 p3 p4 p5 p6 p7 p8:t0->t1->t2->t3->Prop}{G:Prop}(e:∃a0 a1 a2 a3,p0 a0 a1 a2 a3/\p1 a0 a1 a2 a3/\p2 a0 a1 a2 a3/\p3 a0 a1 a2 a3/\p4 a0 a1 a2 a3/\p5 a0 a1 a2 a3/\p6 a0 a1 a2 a3/\p7 a0 a1 a2 a3/\p8 a0 a1 a2 a3)(f:∀a0 a1 a2 a3,p0 a0 a1 a2 a3->p1 a0 a1 a2 a3->p2 a0 a1 a2 a3->p3 a0 a1 a2 a3->p4 a0 a1 a2 a3->p5 a0 a1 a2 a3->p6 a0 a1 a2 a3->p7 a0 a1 a2 a3->p8 a0 a1 a2 a3->G):G:=e.elim fun a h=>Hp h (f a)
theorem DO{t0 t1 t2 t3 t4:Sort _}{p0 p1 p2 p3 p4 p5 p6 p7 p8:t0->t1->t2->t3->t4->Prop}{G:Prop}(e:∃a0 a1 a2 a3 a4,p0 a0 a1 a2 a3 a4/\p1 a0 a1 a2 a3 a4/\p2 a0 a1 a2 a3 a4/\p3 a0 a1 a2 a3 a4/\p4 a0 a1 a2 a3 a4/\p5 a0 a1 a2 a3 a4/\p6 a0 a1 a2 a3 a4/\p7 a0 a1 a2 a3 a4/\p8 a0 a1 a2 a3 a4)(f:∀a0 a1 a2 a3 a4,p0 a0 a1 a2 a3 a4->p1 a0 a1 a2 a3 a4->p2 a0 a1 a2 a3 a4->p3 a0 a1 a2 a3 a4->p4 a0 a1 a2 a3 a4->p5 a0 a1 a2 a3 a4->p6 a0 a1 a2 a3 a4->p7 a0 a1 a2 a3 a4->p8 a0 a1 a2 a3 a4->G):G:=e.elim fun a h=>F3 h (f a)
theorem vm{t0 t1 t2 t3 t4 t5:Sort _}{p0 p1 p2 p3 p4 p5 p6 p7 p8:t0->t1->t2->t3->t4->t5->Prop}{G:Prop}(e:∃a0 a1 a2 a3 a4 a5,p0 a0 a1 a2 a3 a4 a5/\p1 a0 a1 a2 a3 a4 a5/\p2 a0 a1 a2 a3 a4 a5/\p3 a0 a1 a2 a3 a4 a5/\p4 a0 a1 a2 a3 a4 a5/\p5 a0 a1 a2 a3 a4 a5/\p6 a0 a1 a2 a3 a4 a5/\p7 a0 a1 a2 a3 a4 a5/\p8 a0 a1 a2 a3 a4 a5)(f:∀a0 a1 a2 a3 a4 a5,p0 a0 a1 a2 a3 a4 a5->p1 a0 a1 a2 a3 a4 a5->p2 a0 a1 a2 a3 a4 a5->p3 a0 a1 a2 a3 a4 a5->p4 a0 a1 a2 a3 a4 a5->p5 a0 a1 a2 a3 a4 a5->p6 a0 a1 a2 a3 a4 a5->p7 a0 a1 a2 a3 a4 a5->p8 a0 a1 a2 a3 a4 a5->G):G:=e.elim fun a h=>DO h (f a)
theorem bE{G:Prop}(b:Bool)(f:b=false->G)(t:b=true->G):G:=by
 induction b using Bool.casesOn with
 |false=>exact f rfl
 |true=>exact t rfl
theorem bT{G:Prop}(b:Bool)(t:b=true->G)(f:b=false->G):G:=bE b f t
theorem nE{β:Type _}{G:Prop}(o:Option β)(n:o=none->G)(s:∀v,o=some v->G):G:=by
 induction o using Option.casesOn with
 |none=>exact n rfl
 |some v=>exact s v rfl
theorem sE{β:Type _}{G:Prop}(o:Option β)(s:∀v,o=some v->G)(n:o=none->G):G:=nE o n s
theorem lE{β:Type _}{G:Prop}(l:List β)(n:l= []->G)(c:∀a r,l=a::r->G):G:=by
 induction l using List.casesOn with
 |nil=>exact n rfl
 |cons a r=>exact c a r rfl
theorem hid{P:Prop}(h:let G:Prop:=P;G):P:=h
open PySem
section
inductive MV where
 |none
 |bool (b:Bool)
 |int (i:Int)
 |str (s:Str)
 |bytes (b:List Nat)
 |tup (l:List MV)
 |lst (l:List MV)
 |gk (l:List (MV×MV))
 |obj (c:Str) (fs:List (Str×MV))
 |dI (l:List MV)
 |fV (b:List Nat)
 |own (k:Str)
 deriving Inhabited
@[elab_as_elim] theorem ju {β:Type} {n:Nat} {P:List β->Prop} {l:List β} (h:l.length=n+1) (p:∀a r,r.length=n->P (a::r)):P l:=by
 induction l using List.casesOn with
 |nil=>exact nomatch h
 |cons a r=>exact p a r (Nat.succ.inj h)
@[elab_as_elim] theorem lenZ {β:Type} {P:List β->Prop} {l:List β} (h:l.length=0) (p:P []):P l:=by
 induction l using List.casesOn with
 |nil=>exact p
 |cons a r=>exact nomatch h
variable{β:Type}{P:Prop}
theorem aq{ah:β}(e:Option.none=some ah):P:=by cases e
theorem aP(e:false=true):P:=by cases e
theorem Hs{b:Bool}(q:(!b)=true):b=false:=by induction b using Bool.casesOn;rfl;exact aP q
abbrev α:Type:=MV×Bool×List MV
structure Fr where
 sc:Scope
 vs:List (Str×MV)
structure St where
 fr:List Fr
 ow:List (Str×MV)
noncomputable def look{β:Type}:List (Str×β)->Str->Option β
 | [],_=>Option.none
 |(y,v)::r,x=>cond (y==x) (some v) (look r x)
noncomputable def dJ{β:Type}:List (Str×β)->Str->β->List (Str×β)
 | [],x,v=>[(x,v)]
 |(y,u)::r,x,v=>cond (y==x) ((y,v)::r) ((y,u)::dJ r x v)
noncomputable def del{β:Type}:List (Str×β)->Str->List (Str×β)
 | [],_=>[]
 |(y,u)::r,x=>cond (y==x) (del r x) ((y,u)::del r x)
theorem bg(y:Str)(v:β)(r:List (Str×β))(x:Str):look ((y,v)::r) x=cond (y==x) (some v) (look r x):=rfl
theorem Rj(y:Str)(u:β)(r:List (Str×β))(x:Str)(v:β):dJ ((y,u)::r) x v=cond (y==x) ((y,v)::r) ((y,u)::dJ r x v):=rfl
theorem xu(y:Str)(u:β)(r:List (Str×β))(x:Str):del ((y,u)::r) x=cond (y==x) (del r x) ((y,u)::del r x):=rfl
theorem aG{c:Bool}{x:Option β}{ah:β}(e:cond c x Option.none=some ah):c=true/\x=some ah:=by
 induction c using Bool.casesOn with
 |true=>exact⟨rfl,e⟩
 |false=>exact aq e
theorem ur{x y:Str}(h:¬x=y):(x==y)=false:=jY.mpr h
noncomputable def xw:List Fr->Str->Option MV
 | [],_=>Option.none
 |f::r,x=>match look f.sc.names x with
  |some .cell=>look f.vs x
  |some .free=>xw r x
  |_=>Option.none
def gu:List Fr->Str->Option MV
 | [],_=>Option.none
 |f::r,x=>match look f.sc.names x with
  |some .local=>look f.vs x
  |some .cell=>look f.vs x
  |some .free=>xw r x
  |_=>Option.none
def iw(st:St)(x:Str):Bool:=match st.fr with
 |f::_=>(match look f.sc.names x with|some .globalImplicit=>true|_=>false)
 | []=>false
noncomputable def gY:List (Str×MV)->Bool
 | []=>true
 |(_,.dI _)::_=>false
 |_::r=>gY r
def mK:MV->Bool
 | .lst _=>true
 | .gk _=>true
 | .obj _ fs=>gY fs
 |_=>false
noncomputable def ud(k:Str)(c:MV):List (Str×MV)->List (Str×MV)
 | []=>[]
 |(y,.own k')::r=>(y,cond (k'==k) c (.own k'))::ud k c r
 |p::r=>p::ud k c r
noncomputable def Ht(k:Str)(c:MV):List Fr->List Fr
 | []=>[]
 |f::r=> {f with vs:=ud k c f.vs}::Ht k c r
def freeze(k:Str)(c:MV)(st:St):St:= {fr:=Ht k c st.fr,ow:=del st.ow k}
section
def bW(v:MV)(st:St)(k:MV->St->Option α):Option α:=match v with
 | .own x=>(match look st.ow x with
  |some c=>cond (mK c) (k c (freeze x c st)) Option.none
  |Option.none=>Option.none)
 | .dI _=>Option.none
 | .fV _=>Option.none
 | .obj c fs=>cond (gY fs) (k (.obj c fs) st) Option.none
 |v=>k v st
def cU(v:MV)(st:St)(k:MV->Option α):Option α:=match v with
 | .own x=>(match look st.ow x with
  |some c=>k c
  |Option.none=>Option.none)
 | .fV _=>Option.none
 | .dI _=>Option.none
 |v=>k v
end
noncomputable def isInt:MV->Bool| .int _=>true|_=>false
mutual
noncomputable def i7:MV->MV->Bool
 | .none,.none=>true
 | .bool a,.bool b=>a==b
 | .int a,.int b=>decide (a=b)
 | .str a,.str b=>a==b
 | .tup a,.tup b=>nX a b
 | .lst a,.lst b=>nX a b
 |_,_=>false
noncomputable def nX:List MV->List MV->Bool
 | [],[]=>true
 |a::r,b::q=>i7 a b&&nX r q
 |_,_=>false
end
noncomputable def VL:MV->MV->Bool
 | .int _,.int _=>true
 | .str _,.str _=>true
 | .bool _,.bool _=>true
 |_,_=>false
noncomputable def dj:List MV->Bool
 | []=>true
 | .str _::r=>dj r
 |_=>false
noncomputable def sA:List MV->Bool
 | []=>true
 | .int _::r=>sA r
 |_=>false
def Hu:MV->MV->Bool
 | .int _,.int _=>true
 | .tup a,.tup b=>sA a&&sA b
 |_,_=>false
def vp:MV->Bool
 | .own _=>false
 | .dI _=>false
 | .fV _=>false
 | .obj _ fs=>gY fs
 |_=>true
noncomputable def dW{β:Type}:List β->Bool| []=>true|_=>false
noncomputable def eN(x:MV):List MV->Bool
 | []=>false
 |y::r=>i7 x y||eN x r
noncomputable def i8(x:MV):List MV->Bool
 | []=>true
 |y::r=>Hu x y&&i8 x r
noncomputable def qR(x:MV):List (MV×MV)->Bool
 | []=>false
 |(y,_)::r=>i7 x y||qR x r
noncomputable def yU(x:MV):List (MV×MV)->MV
 | []=> .none
 |(y,v)::r=>cond (i7 x y) v (yU x r)
noncomputable def yV(x v:MV):List (MV×MV)->List (MV×MV)
 | []=>[(x,v)]
 |(y,u)::r=>cond (i7 x y) ((y,v)::r) ((y,u)::yV x v r)
noncomputable def mL(x:MV):List (MV×MV)->Bool
 | []=>true
 |(y,_)::r=>VL x y&&mL x r
noncomputable def Az(n:Int):Option Int->Int
 |Option.none=>0
 |some i=>cond (decide (i<0)) (cond (decide (i+n<0)) 0 (i+n)) (cond (decide (n<i)) n i)
noncomputable def AA(n:Int):Option Int->Int
 |Option.none=>n
 |some i=>cond (decide (i<0)) (cond (decide (i+n<0)) 0 (i+n)) (cond (decide (n<i)) n i)
def cut{β:Type}(l:List β)(a b:Option Int):List β:=
 let n:=(l.length:Int)
 (l.take (AA n b).toNat).drop (Az n a).toNat
noncomputable def small(i:Int):Bool:=decide (-18446744073709551616<i)&&decide (i<=18446744073709551615)
noncomputable def mG:List MV->Bool
 | []=>true
 | .int i::r=>decide (0<=i)&&decide (i<=255)&&mG r
 |_=>false
noncomputable def Hv:List MV->List Nat
 | .int i::r=>i.toNat::Hv r
 |_=>[]
noncomputable def AB:List MV->Bool
 | []=>true
 | .int _::r=>AB r
 |_=>false
noncomputable def pU:List MV->List Int
 | .int i::r=>i::pU r
 |_=>[]
noncomputable def Hw:List Int->Int
 | []=>0
 |i::r=>i+Hw r
noncomputable def tN(dK:List Nat):List MV->Option (List Nat)
 | []=>some []
 | [.bytes b]=>some b
 | .bytes b::r=>(match tN dK r with|some t=>some (b++(dK++t))|Option.none=>Option.none)
 |_=>Option.none
noncomputable def sC:List MV->Option (List Str)
 | []=>some []
 | .str b::r=>(match sC r with|some t=>some (b::t)|Option.none=>Option.none)
 |_=>Option.none
noncomputable def pairsOf:List MV->Option (List (MV×MV))
 | []=>some []
 | .tup [a,b]::r=>(match pairsOf r with|some t=>some ((a,b)::t)|Option.none=>Option.none)
 |_=>Option.none
noncomputable def fW:List (MV×MV)->List MV
 | []=>[]
 |(a,_)::r=>a::fW r
noncomputable def putAll:List (MV×MV)->List (MV×MV)->List (MV×MV)
 |d,[]=>d
 |d,(a,b)::r=>putAll (yV a b d) r
noncomputable def rW:MV->Bool
 | .int _=>true
 | .str _=>true
 |_=>false
noncomputable def l8:List (MV×MV)->Bool
 | []=>true
 |(.int _,v)::r=>rW v&&l8 r
 |_=>false
noncomputable def fy:List (MV×MV)->Bool
 | []=>true
 |(.str _,v)::r=>rW v&&fy r
 |_=>false
noncomputable def cH:Nat->Int->List MV
 |0,_=>[]
 |n+1,i=> .int i::cH n (i+1)
noncomputable def iC:Int->List MV->List MV
 |_,[]=>[]
 |i,x::r=> .tup [.int i,x]::iC (i+1) r
def pA:MV->Option (List MV)
 | .lst l=>some l
 | .tup l=>some l
 | .gk l=>some (fW l)
 |_=>Option.none
def Ci:MV->Option Bool
 | .none=>some false
 | .bool b=>some b
 | .int i=>some (!decide (i=0))
 | .lst l=>cond (decide (l.length<=1000000)) (some (!dW l)) Option.none
 |_=>Option.none
structure Spec where
 val:MV
 fresh:Bool
 outs:List MV
structure Entry where
 uu:List Bool
 ba:Bool
 sp:List MV->(Spec->Option α)->Option α
abbrev fE:=Str->Option Entry
inductive cI where
 |aL
 |ret (v:MV) (fresh:Bool)
structure Cf where
 T:fE
 M:Str->fE
 consts:List (Str×Int)
 uu:List Str
 pm:List Str
 ba:Bool
structure Ev where
 ex:Expr->St->(MV->Bool->St->Option α)->Option α
 ts:Expr->St->(Bool->St->Option α)->Option α
 st:Stmt->St->(cI->St->Option α)->Option α
noncomputable def ak:Nat:=1000000
end
section
noncomputable def cJ(x:Str):List Str->Bool
 | []=>false
 |y::r=>cond (y==x) true (cJ x r)
theorem tQ{x y:Str}{r:List Str}:cJ x (y::r)=cond (y==x) true (cJ x r):=rfl
def eu(x:Str):Bool:=cJ x ["__debug__","__classdict__"]
noncomputable def eG:List Str:=["octets","at","ident","across","down","quant","code","precision","height","width","components","idents","dc_slots","ac_slots","start","end","high","low","payload","data",
 "n","wrong","frame","scans","quants","codes","interval"]
noncomputable def pend(x:Str):Str:=("%":Str)++x
noncomputable def ownsOf:List MV->List Str
 | []=>[]
 | .own x::r=>x::ownsOf r
 |_::r=>ownsOf r
noncomputable def n8:List Str->Bool
 | []=>true
 |x::r=>cond (cJ x r) false (n8 r)
noncomputable def Hx{α β γ:Type}(a:Option α)(b:Option β)(f:α->β->Option γ):Option γ:=match a with
 |some a=>(match b with
  |some b=>f a b
  |Option.none=>Option.none)
 |Option.none=>Option.none
variable{β:Type}
theorem xx{α γ:Type}{a:Option α}{b:Option β}{f:α->β->Option γ}{o:γ}(e:Hx a b f=some o):∃x y,a=some x/\b=some y/\f x y=some o:=by
 induction a using Option.casesOn with
 |none=>exact nomatch (show(Option.none:Option γ)=some o from e)
 |some x=>
  induction b using Option.casesOn with
  |none=>exact nomatch (show(Option.none:Option γ)=some o from e)
  |some y=>exact⟨x,y,rfl,rfl,e⟩
variable{v:Option MV}
theorem Ye{f:Str->Option β}{o:β}(e:(match v with|some (.own y)=>f y|_=>Option.none)=some o):∃y,v=some (.own y)/\f y=some o:=by
 induction v using Option.casesOn with
 |none=>exact nomatch (show(Option.none:Option β)=some o from e)
 |some m=>induction m using MV.casesOn<;>first|exact nomatch (show(Option.none:Option β)=some o from e)|exact⟨_,rfl,e⟩
theorem Rk{f:Str->List (Str×MV)->Option β}{o:β}(e:(match v with|some (.obj c fs)=>f c fs|_=>Option.none)=some o):∃c fs,v=some (.obj c fs)/\f c fs=some o:=by
 induction v using Option.casesOn with
 |none=>exact nomatch (show(Option.none:Option β)=some o from e)
 |some m=>induction m using MV.casesOn<;>first|exact nomatch (show(Option.none:Option β)=some o from e)|exact⟨_,_,rfl,e⟩
theorem mMlst{f:List MV->Option β}{o:β}(e:(match v with|some (.dI l)=>f l|_=>Option.none)=some o):∃l,v=some (.dI l)/\f l=some o:=by
 induction v using Option.casesOn with
 |none=>exact nomatch (show(Option.none:Option β)=some o from e)
 |some m=>induction m using MV.casesOn<;>first|exact nomatch (show(Option.none:Option β)=some o from e)|exact⟨_,rfl,e⟩
variable{a:MV}
theorem VM{f:Int->List MV->Option β}{o:β}(e:(match a,v with| .int i,some (.lst l)=>f i l|_,_=>Option.none)=some o):∃i l,a= .int i/\v=some (.lst l)/\f i l=some o:=by
 induction a using MV.casesOn<;>first|exact nomatch (show(Option.none:Option β)=some o from e)|skip
 induction v using Option.casesOn with
 |none=>exact nomatch (show(Option.none:Option β)=some o from e)
 |some m=>induction m using MV.casesOn<;>first|exact nomatch (show(Option.none:Option β)=some o from e)|exact⟨_,_,rfl,rfl,e⟩
theorem Rl{w:Option MV}{f:Str->MV->Option β}{o:β}(e:(match v,w with|some (.own x),some t=>f x t|_,_=>Option.none)=some o):∃x t,v=some (.own x)/\w=some t/\f x t=some o:=by
 induction v using Option.casesOn with
 |none=>exact nomatch (show(Option.none:Option β)=some o from e)
 |some m=>
  induction m using MV.casesOn<;>first|exact nomatch (show(Option.none:Option β)=some o from e)|skip
  induction w using Option.casesOn with
  |none=>exact nomatch (show(Option.none:Option β)=some o from e)
  |some t=>exact⟨_,_,rfl,rfl,e⟩
theorem LP{f:Int->Option β}{o:β}(e:(match a with| .int i=>f i|_=>Option.none)=some o):∃i,a= .int i/\f i=some o:=by
 induction a using MV.casesOn<;>first|exact nomatch (show(Option.none:Option β)=some o from e)|exact⟨_,rfl,e⟩
theorem Rm{f:List MV->Option β}{o:β}(e:(match a with| .lst l=>f l|_=>Option.none)=some o):∃l,a= .lst l/\f l=some o:=by
 induction a using MV.casesOn<;>first|exact nomatch (show(Option.none:Option β)=some o from e)|exact⟨_,rfl,e⟩
def Ul(ow:List (Str×MV)):MV->Option MV
 | .own x=>look ow x
 |v=>some v
noncomputable def BA(ow:List (Str×MV)):List MV->Option (List MV)
 | []=>some []
 |v::r=>Hx (Ul ow v) (BA ow r) fun c t=>some (c::t)
noncomputable def iD(ow:List (Str×MV)):List Str->List MV->List (Str×MV)
 |x::r,c::q=>iD (dJ ow x c) r q
 |_,_=>ow
noncomputable def jH(dK:Str):List Str->Str
 | []=>("":Str)
 | [x]=>x
 |x::r=>x++(dK++jH dK r)
noncomputable def iE(n:Nat):List Str->Nat
 | []=>0
 |x::r=>x.length+n+iE n r
noncomputable def Yg:MV->Bool
 | .str _=>true
 |_=>false
def allStrs(x:MV)(l:List MV):Bool:=Yg x&&dj l
noncomputable def xy(x:MV):List MV->Nat
 | []=>0
 |y::r=>cond (i7 x y) 0 (xy x r+1)
noncomputable def wh{β:Type}:Option β->Bool|Option.none=>true|_=>false
noncomputable def single{β:Type}:List β->Bool| [_]=>true|_=>false
def wj(x:Str)(v:MV)(st:St):Option St:=match st.fr with
 |f::r=>(match look f.sc.names x with
  |some .local=>some {st with fr:= {f with vs:=dJ f.vs x v}::r}
  |some .cell=>some {st with fr:= {f with vs:=dJ f.vs x v}::r}
  |_=>Option.none)
 | []=>Option.none
noncomputable def ji:MV->Bool
 | .lst _=>true
 | .gk _=>true
 | .obj _ _=>true
 | .fV _=>true
 |_=>false
noncomputable def pW(e:Expr):Bool:=Nat.beq e.ctorIdx 25
noncomputable def Cj(e:Expr):Bool:=Nat.beq e.ctorIdx 22
noncomputable def xA:List Expr->List MV->Bool
 | [],[]=>true
 |_::r,_::q=>xA r q
 |_,_=>false
noncomputable def bC:List Expr->Bool
 | []=>false
 |e::r=>Cj e||bC r
section
def gZ(x:Str)(v:MV)(st:St)(k:St->Option α):Option α:=match wj x v st with
 |some aY=>k aY
 |Option.none=>Option.none
mutual
noncomputable def vq:Expr->MV->St->(St->Option α)->Option α
 | .Name x _,v,st,k=>gZ x v st k
 | .Tuple es _ _,v,st,k=>(match v with
  | .tup l=>cond (bC es|| !xA es l) Option.none (yW es l st k)
  |_=>Option.none)
 |_,_,_,_=>Option.none
noncomputable def yW:List Expr->List MV->St->(St->Option α)->Option α
 | [],[],st,k=>k st
 |e::es,v::vs,st,k=>vq e v st fun aA=>yW es vs aA k
 |_,_,_,_=>Option.none
end
noncomputable def Ck:MV->Option Int
 | .int i=>some i
 |_=>Option.none
def uv(a b:MV)(f:Int->Int->Option α):Option α:=match Ck a with
 |some i=>(match Ck b with
  |some j=>f i j
  |Option.none=>Option.none)
 |Option.none=>Option.none
def DP(a b:MV)(k:MV->Option α):Option α:=match a with
 | .int a=>(match b with
  | .int b=>k (.int (a+b))
  |_=>Option.none)
 | .str a=>(match b with
  | .str b=>cond (decide (a.length+b.length<=ak)) (k (.str (a++b))) Option.none
  |_=>Option.none)
 | .bytes a=>(match b with
  | .bytes b=>cond (decide (a.length+b.length<=ak)) (k (.bytes (a++b))) Option.none
  |_=>Option.none)
 | .lst a=>(match b with
  | .lst b=>cond (decide (a.length+b.length<=ak)) (k (.lst (a++b))) Option.none
  |_=>Option.none)
 |_=>Option.none
def Hy(op:Operator)(a b:MV)(k:MV->Option α):Option α:=match op with
 | .Add=>DP a b k
 | .Sub=>uv a b fun a b=>k (.int (a - b))
 | .Mult=>uv a b fun a b=>cond (small a||small b) (k (.int (a * b))) Option.none
 | .FloorDiv=>uv a b fun a b=>cond (decide (0<b)&&small b) (k (.int (a.fdiv b))) Option.none
 | .Mod=>uv a b fun a b=>cond (decide (0<b)&&small b) (k (.int (a.fmod b))) Option.none
 | .Pow=>uv a b fun a b=>cond (decide (a=10)&&decide (b=18)) (k (.int 1000000000000000000)) Option.none
 |_=>Option.none
def DQ(x y:List MV)(k:Bool->Option α):Option α:=cond (dW y) (k (dW x)) (cond (dj x&&dj y) (k (nX x y)) Option.none)
def Yh(a b:MV)(k:Bool->Option α):Option α:=match a with
 | .lst x=>(match b with
  | .lst y=>DQ x y k
  |_=>Option.none)
 | .int i=>(match b with
  | .int j=>k (decide (i=j))
  |_=>Option.none)
 | .str i=>(match b with
  | .str j=>k (i==j)
  |_=>Option.none)
 | .bool i=>(match b with
  | .bool j=>k (i==j)
  |_=>Option.none)
 |_=>Option.none
def Yi(x c:MV)(k:Bool->Option α):Option α:=match c with
 | .lst l=>cond (i8 x l) (k (eN x l)) Option.none
 | .tup l=>cond (i8 x l) (k (eN x l)) Option.none
 | .gk d=>cond (dW d) Option.none (cond (mL x d) (k (qR x d)) Option.none)
 |_=>Option.none
noncomputable def isNone:MV->Bool| .none=>true|_=>false
def vR(op:CmpOp)(a b:MV)(k:Bool->Option α):Option α:=match op with
 | .Eq=>Yh a b k
 | .NotEq=>Yh a b fun r=>k (!r)
 | .In=>Yi a b k
 | .NotIn=>Yi a b fun r=>k (!r)
 | .Is=>(match b with| .none=>cond (vp a) (k (isNone a)) Option.none|_=>Option.none)
 | .IsNot=>(match b with| .none=>cond (vp a) (k (!isNone a)) Option.none|_=>Option.none)
 | .Lt=>uv a b fun x y=>k (decide (x<y))
 | .LtE=>uv a b fun x y=>k (decide (x<=y))
 | .Gt=>uv a b fun x y=>k (decide (y<x))
 | .GtE=>uv a b fun x y=>k (decide (y<=x))
noncomputable def eZ(i:Int):Bool:=decide (-1000000000<i)&&decide (i<=999999999)
def LQ(a i:MV)(k:MV->Option α):Option α:=match a,i with
 | .lst l,.int i=>cond (eZ i&&(decide (-(l.length:Int)<=i)&&decide (i<l.length))) (k (l.getD (cond (decide (i<0)) (i+l.length) i).toNat .none)) Option.none
 | .tup l,.int i=>cond (eZ i&&(decide (-(l.length:Int)<=i)&&decide (i<l.length))) (k (l.getD (cond (decide (i<0)) (i+l.length) i).toNat .none)) Option.none
 | .bytes l,.int i=>cond (eZ i&&(decide (-(l.length:Int)<=i)&&decide (i<l.length))) (k (.int (l.getD (cond (decide (i<0)) (i+l.length) i).toNat 0:Nat))) Option.none
 | .gk d,x=>cond (dW d) Option.none (cond (mL x d&&qR x d) (k (yU x d)) Option.none)
 |_,_=>Option.none
def Rn(a:MV)(lo hi:Option Int)(k:MV->Option α):Option α:=match a with
 | .lst l=>cond (decide (l.length<=ak)) (k (.lst (cut l lo hi))) Option.none
 | .bytes l=>cond (decide (l.length<=ak)) (k (.bytes (cut l lo hi))) Option.none
 | .str s=>cond (decide (s.length<=ak)) (k (.str ⟨(cut s.cps.toList lo hi).toArray⟩)) Option.none
 |_=>Option.none
def Ro(a:MV)(k:MV->Option α):Option α:=match a with
 | .lst l=>cond (decide (l.length<=ak)) (k (.int l.length)) Option.none
 | .gk l=>cond (decide (l.length<=ak)) (k (.int l.length)) Option.none
 | .bytes l=>cond (decide (l.length<=ak)) (k (.int l.length)) Option.none
 |_=>Option.none
def DR(f:Str)(a:MV)(k:MV->Option α):Option α:=
 cond (f==("len":Str)) (Ro a k)<|
 cond (f==("int":Str)) (match a with
  | .int i=>k (.int i)
  | .bool b=>k (.int (cond b 1 0))
  |_=>Option.none)<|
 cond (f==("str":Str)) (match a with
  | .int i=>cond (small i) (k (.str (Str.ofString (toString i)))) Option.none
  |_=>Option.none)<|
 cond (f==("bytes":Str)) (match a with
  | .lst l=>cond (mG l&&decide (l.length<=ak)) (k (.bytes (Hv l))) Option.none
  | .bytes b=>cond (decide (b.length<=ak)) (k (.bytes b)) Option.none
  | .fV b=>cond (decide (b.length<=ak)) (k (.bytes b)) Option.none
  | .int n=>cond (decide (0<=n)&&decide (n<1000)) (k (.bytes (List.replicate n.toNat 0))) Option.none
  |_=>Option.none)<|
 cond (f==("list":Str)) (match a with
  | .lst l=>cond (decide (l.length<=ak)) (k (.lst l)) Option.none
  | .tup l=>cond (decide (l.length<=ak)) (k (.lst l)) Option.none
  | .gk d=>cond (decide (d.length<=ak)) (k (.lst (fW d))) Option.none
  |_=>Option.none)<|
 cond (f==("tuple":Str)) (match a with
  | .bytes b=>cond (decide (b.length<=ak)) (k (.tup (b.map fun(x:Nat)=>MV.int (x:Int)))) Option.none
  | .lst l=>cond (decide (l.length<=ak)) (k (.tup l)) Option.none
  |_=>Option.none)<|
 cond (f==("sum":Str)) (match a with
  | .tup l=>cond (AB l&&decide (l.length<=ak)) (k (.int (Hw (pU l)))) Option.none
  |_=>Option.none)<|
 Option.none
def GP(fr:Bool)(v:MV)(k:MV->Option α):Option α:=match v with
 | .lst l=>(match pairsOf l with
  |some ps=>cond (fr&&((l8 ps||fy ps)&&decide (l.length<=1000))) (k (.gk (putAll [] ps))) Option.none
  |Option.none=>Option.none)
 |_=>Option.none
def LR(f:Str):Bool:=cJ f ["len","int","str","bytes","list","tuple","sum"]
def Cm(ba:Bool)(en:Entry)(args:List MV)(st:St)(k:MV->Bool->St->Option α):Option α:=cond (en.ba&& !ba) Option.none (match BA st.ow args with
  |some cs=>cond (n8 (ownsOf args)) (en.sp cs fun s=>k s.val s.fresh {st with ow:=iD st.ow (ownsOf args) s.outs}) Option.none
  |Option.none=>Option.none)
variable(cf:Cf)(self:Ev)
noncomputable def iF:List Expr->St->(List MV->St->Option α)->Option α
 | [],st,k=>k [] st
 |e::r,st,k=>self.ex e st fun v _ aA=>bW v aA fun t au=>iF r au fun ts bX=>k (t::ts) bX
noncomputable def tR(e:Expr):Bool:=Nat.beq e.ctorIdx 7
noncomputable def vA:Nat->List Expr->Bool
 |_,[]=>true
 |0,_::_=>false
 |n+1,_::r=>vA n r
def iQ(es:List Expr):Bool:=bC es|| !vA 20 es
noncomputable def jK:List Expr->Bool
 | []=>false
 |e::r=>tR e||jK r
noncomputable def oU(e:Expr):Bool:=Nat.beq e.ctorIdx 16
noncomputable def n9:MV->List CmpOp->List Expr->St->(Bool->St->Option α)->Option α
 |left,[op],[e],st,k=>self.ex e st fun r _ aA=>cU left aA fun a=>cU r aA fun b=>vR op a b fun c=>k c aA
 |left,op::wm::jc,e::e'::es,st,k=>self.ex e st fun r _ aA=>cU left aA fun a=>cU r aA fun b=>vR op a b fun c=>
   cond c (n9 r (wm::jc) (e'::es) aA k) (k false aA)
 |_,_,_,_,_=>Option.none
def wu(v:MV)(k:Bool->Option α):Option α:=match Ci v with
 |some b=>k b
 |Option.none=>Option.none
noncomputable def AD(op:BoolOp):List Expr->St->(MV->Bool->St->Option α)->Option α
 | [],_,_=>Option.none
 | [e],st,k=>self.ex e st k
 |e::r,st,k=>self.ex e st fun v fr aA=>cU v aA fun a=>wu a fun b=>match op with
   | .And=>cond b (AD op r aA k) (k v fr aA)
   | .Or=>cond b (k v fr aA) (AD op r aA k)
noncomputable def lC(op:BoolOp):List Expr->St->(Bool->St->Option α)->Option α
 | [],st,k=>(match op with| .And=>k true st| .Or=>k false st)
 |e::r,st,k=>self.ts e st fun b aA=>match op with
   | .And=>cond b (lC op r aA k) (k false aA)
   | .Or=>cond b (k true aA) (lC op r aA k)
noncomputable def wz:Option Expr->St->(Option Int->St->Option α)->Option α
 |Option.none,st,k=>k Option.none st
 |some e,st,k=>self.ex e st fun v _ aA=>match v with
  | .int i=>k (some i) aA
  |_=>Option.none
noncomputable def ownOf:MV->Option Str
 | .own y=>some y
 |_=>Option.none
def Cn(fr:List Fr):Expr->Option Str
 | .Name x _=>cond (eu x) Option.none (match gu fr x with
  |some v=>ownOf v
  |Option.none=>Option.none)
 |_=>Option.none
noncomputable def oF:List Bool->List Expr->St->(List MV->St->Option α)->Option α
 | [],[],st,k=>k [] st
 |m::ms,e::es,st,k=>cond m
   (match Cn st.fr e with
    |some y=>oF ms es st fun r aA=>k (.own y::r) aA
    |Option.none=>Option.none)
   (self.ex e st fun v _ aA=>bW v aA fun t au=>oF ms es au fun r bX=>k (t::r) bX)
 |_,_,_,_=>Option.none
noncomputable def yX:List (Option Expr)->List Expr->St->(List (MV×MV)->St->Option α)->Option α
 | [],[],st,k=>k [] st
 |some a::as,b::bs,st,k=>self.ex a st fun x _ aA=>bW x aA fun x' au=>self.ex b au fun y _ bX=>bW y bX fun y' qD=>yX as bs qD fun r uw=>k ((x',y')::r) uw
 |_,_,_,_=>Option.none
noncomputable def AE:List (Option Expr)->Bool
 | []=>true
 |some _::r=>AE r
 |Option.none::_=>false
def yY(ks:List (Option Expr))(vs:List Expr):Bool:=AE ks&&(decide (ks.length=vs.length)&&(!dW ks&&decide (ks.length<=15)))
noncomputable def GQ:Expr->Option (Str×Expr)
 | .Call f as ks _=>(match f with
  | .Name f _=>(match as with
   | []=>Option.none
   |a::r=>(match r with
    | []=>(match ks with
     | []=>some (f,a)
     |_::_=>Option.none)
    |_::_=>Option.none))
  |_=>Option.none)
 |_=>Option.none
def vB(en:Bool)(e:Expr)(st:St)(k:List MV->St->Option α):Option α:=match GQ e with
 |some fa=>
  cond (fa.1==("range":Str)) (cond (iQ [fa.2]|| !iw st fa.1) Option.none<|self.ex fa.2 st fun v _ aA=>match v with
   | .int n=>cond (decide (0<=n)&&decide (n<100000)) (k (cH n.toNat 0) aA) Option.none
   |_=>Option.none)<|
  cond (fa.1==("enumerate":Str)) (cond (iQ [fa.2]|| !iw st fa.1|| !en) Option.none<|self.ex fa.2 st fun v _ aA=>bW v aA fun t au=>match t with
   | .lst l=>k (iC 0 l) au
   |_=>Option.none)<|
  self.ex e st fun v _ aA=>bW v aA fun t au=>match pA t with
   |some l=>k l au
   |Option.none=>Option.none
 |Option.none=>cond (tR e) Option.none<|self.ex e st fun v _ aA=>bW v aA fun t au=>match pA t with
   |some l=>k l au
   |Option.none=>Option.none
noncomputable def k9(body:MV->St->List MV->(St->List MV->Option α)->Option α):List MV->St->List MV->(St->List MV->Option α)->Option α
 | [],st,acc,k=>k st acc
 |x::xs,st,acc,k=>body x st acc fun aY xB=>k9 body xs aY xB k
def xC(t:Expr)(ifs:List Expr)(inner:St->List MV->(St->List MV->Option α)->Option α)(x:MV)(st:St)(acc:List MV)(k:St->List MV->Option α):Option α:=
 vq t x st fun aA=>lC self .And ifs aA fun ok au=>cond ok (inner au acc k) (k au acc)
def wA(cR:Expr)(au:St)(acc:List MV)(k:St->List MV->Option α):Option α:=
 self.ex cR au fun v _ bX=>bW v bX fun u qD=>cond (decide (acc.length<=ak)) (k qD (acc++[u])) Option.none
def GR(cR t' i':Expr)(mw:List Expr)(au:St)(acc:List MV)(k:St->List MV->Option α):Option α:=
 vB self false i' au fun OC bX=>k9 (xC self t' mw (wA self cR)) OC bX acc k
def lF(cR:Expr)(gens:List Comprehension)(items:List MV)(st:St)(acc:List MV)(k:St->List MV->Option α):Option α:=match gens with
 | [⟨t,_,ifs,y⟩]=>cond (decide (y=0)) (k9 (xC self t ifs (wA self cR)) items st acc k) Option.none
 | [⟨t,_,ifs,y⟩,⟨t',i',mw,y'⟩]=>cond (decide (y=0)&&decide (y'=0)) (k9 (xC self t ifs (GR self cR t' i' mw)) items st acc k) Option.none
 |_=>Option.none
noncomputable def kQ(k:NameKind):Option NameKind->Bool
 |some k'=>decide (k'=k)
 |Option.none=>false
noncomputable def ux(sc:Scope)(fr:List Fr):List (Str×NameKind)->Bool
 | []=>true
 |(n,.local)::r=>kQ .local (look sc.names n)&&ux sc fr r
 |(n,.free)::r=>kQ .free (look sc.names n)&&((match fr with|f::_=>kQ .cell (look f.sc.names n)| []=>false)&&ux sc fr r)
 |(n,.globalImplicit)::r=>kQ .globalImplicit (look sc.names n)&&ux sc fr r
 |_=>false
def qU(sc:Scope)(fr:List Fr):Bool:=decide (sc.kind= .function)&&ux sc fr sc.names
noncomputable def LS:List Comprehension->Bool
 | []=>true
 | [⟨_,_,_,y⟩]=>decide (y=0)
 |_=>false
def tT(cR:Expr)(gens:List Comprehension)(scope:Scope)(st:St)(k:MV->Bool->St->Option α):Option α:=match gens with
 |⟨t,i,ifs,y⟩::r=>cond (decide (y=0)&&(LS r&&qU scope st.fr)) (vB self false i st fun items aA=>cond (qU scope aA.fr)
   (lF self cR (⟨t,i,ifs,y⟩::r) items {aA with fr:=⟨scope,[]⟩::aA.fr} [] fun au acc=>match au.fr with
    |_::fr=>k (.lst acc) true {au with fr:=fr}
    | []=>Option.none) Option.none) Option.none
 | []=>Option.none
def OD(x:Str)(as:List MV)(o:Option MV)(au:St)(k:MV->Bool->St->Option α):Option α:=match as,o with
 | [t],some (.lst l)=>cond (decide (l.length<=ak)) (k .none false {au with ow:=dJ au.ow x (.lst (l++[t]))}) Option.none
 |_,_=>Option.none
def Co(x:Str)(as:List MV)(au:St)(k:MV->Bool->St->Option α):Option α:=OD x as (look au.ow x) au k
def OE(ba:Bool)(x:Str)(as:List MV)(o:Option MV)(au:St)(k:MV->Bool->St->Option α):Option α:=match as,o with
 | [.int i],some (.fV l)=>cond (ba&&(decide (0<=i)&&(decide (i<256)&&decide (l.length<=ak)))) (k .none false {au with ow:=dJ au.ow x (.fV (l++[i.toNat]))}) Option.none
 |_,_=>Option.none
def GS(ba:Bool)(x:Str)(as:List MV)(au:St)(k:MV->Bool->St->Option α):Option α:=OE ba x as (look au.ow x) au k
def LU(x:Str)(pC:Bool)(l:List MV)(d:List (MV×MV))(o:Option (List (MV×MV)))(au:St)(k:MV->Bool->St->Option α):Option α:=match o with
 |some ps=>cond (pC&&((fy ps&&(fy d&& !dW d))&&(decide (l.length<=1000)&&decide (d.length<=1000)))) (k .none false {au with ow:=dJ au.ow x (.gk (putAll d ps))}) Option.none
 |Option.none=>Option.none
def Um(x:Str)(pC:Bool)(v:MV)(o:Option MV)(au:St)(k:MV->Bool->St->Option α):Option α:=match v,o with
 | .lst l,some (.gk d)=>LU x pC l d (pairsOf l) au k
 |_,_=>Option.none
def Rp(x:Str)(pC:Bool)(v:MV)(au:St)(k:MV->Bool->St->Option α):Option α:=Um x pC v (look au.ow x) au k
def OF(l:List MV)(o:Option (List Nat))(au:St)(k:MV->Bool->St->Option α):Option α:=match o with
 |some b=>cond (decide (l.length<=ak)&&decide (b.length<=ak)) (k (.bytes b) true au) Option.none
 |Option.none=>Option.none
def Cp(as:List MV)(au:St)(k:MV->Bool->St->Option α):Option α:=match as with
 | [.lst l]=>OF l (tN [] l) au k
 |_=>Option.none
def OG(dK:Str)(l:List MV)(o:Option (List Str))(au:St)(k:MV->Bool->St->Option α):Option α:=match o with
 |some b=>cond (decide (l.length<=ak)&&decide (iE dK.length b<=ak)) (k (.str (jH dK b)) true au) Option.none
 |Option.none=>Option.none
def yZ(dK:Str)(as:List MV)(au:St)(k:MV->Bool->St->Option α):Option α:=match as with
 | [.lst l]=>OG dK l (sC l) au k
 |_=>Option.none
def KU(dK y:Str)(cs:List Nat)(au:St)(k:MV->Bool->St->Option α):Option α:=match cs with
 | [_]=>cond (decide (dK.length<=ak)) (k (.lst ((Txt.split dK y).map MV.str)) true au) Option.none
 |_=>Option.none
def wB(dK:Str)(as:List MV)(au:St)(k:MV->Bool->St->Option α):Option α:=match as with
 | [.str y]=>KU dK y y.cps.toList au k
 |_=>Option.none
def Cq(l:List MV)(as:List MV)(au:St)(k:MV->Bool->St->Option α):Option α:=match as with
 | [x]=>cond (allStrs x l&&eN x l&&decide (l.length<=ak)) (k (.int (xy x l)) true au) Option.none
 |_=>Option.none
def DS(name:Str)(args:List Expr)(x c:Str)(fs:List (Str×MV))(aA:St)(k:MV->Bool->St->Option α):Option α:=cond (wh (look fs name)) (match cf.M c name with
 |some en=>(match en.uu with
  |true::ms=>oF self ms args aA fun as au=>Cm cf.ba en (.own x::as) au k
  |_=>Option.none)
 |Option.none=>Option.none) Option.none
def DT(name:Str)(args:List Expr)(x:Str)(m:MV)(aA:St)(k:MV->Bool->St->Option α):Option α:=match m with
 | .obj c fs=>DS cf self name args x c fs aA k
 | .lst _=>cond (name==("append":Str)) (iF self args aA fun as au=>Co x as au k) Option.none
 | .fV _=>cond (name==("append":Str)) (iF self args aA fun as au=>GS cf.ba x as au k) Option.none
 | .gk _=>cond (name==("update":Str)) (match args with
  | [e]=>self.ex e aA fun v pC au=>Rp x pC v au k
  |_=>Option.none) Option.none
 |_=>Option.none
def OH(name:Str)(args:List Expr)(v:MV)(fr:Bool)(aA:St)(k:MV->Bool->St->Option α):Option α:=match v with
 | .own x=>(match look aA.ow x with
  |some m=>DT cf self name args x m aA k
  |Option.none=>Option.none)
 | .bytes dK=>cond (dW dK&&name==("join":Str)) (iF self args aA fun as au=>Cp as au k) Option.none
 | .str dK=>cond (name==("join":Str)) (iF self args aA fun as au=>yZ dK as au k)<|
   cond (name==("split":Str)) (iF self args aA fun as au=>wB dK as au k) Option.none
 | .lst l=>cond (fr&&name==("index":Str)) (iF self args aA fun as au=>Cq l as au k) Option.none
 |_=>Option.none
def Cr(o:Expr)(name:Str)(args:List Expr)(st:St)(k:MV->Bool->St->Option α):Option α:=cond (oU o) Option.none<|self.ex o st fun v fr aA=>OH cf self name args v fr aA k
def LV(f:Str)(args:List Expr)(st:St)(k:MV->Bool->St->Option α):Option α:=
 cond (iw st f&& !eu f) (match cf.T f with
  |some en=>oF self en.uu args st fun as aA=>Cm cf.ba en as aA k
  |Option.none=>match args with
   | [e]=>cond (LR f) (self.ex e st fun v _ aA=>cU v aA fun a=>DR f a fun r=>k r true aA)<|
     cond (f==("dict":Str)) (self.ex e st fun v fr aA=>GP fr v fun r=>k r true aA) Option.none
   | [e,e']=>cond (f==("max":Str)) (self.ex e st fun v _ aA=>self.ex e' aA fun u _ au=>match v,u with
     | .int a,.int b=>k (.int (cond (decide (a<b)) b a)) true au
     |_,_=>Option.none) Option.none
   | []=>cond (cf.ba&&f==("bytearray":Str)) (k (.fV []) true st) Option.none
   |_=>Option.none) Option.none
noncomputable def vC:MV->Bool
 | .none=>true
 | .bool _=>true
 | .int _=>true
 | .str _=>true
 | .bytes _=>true
 |_=>false
noncomputable def KV:Const->Option MV
 | .none=>some .none
 | .bool b=>some (.bool b)
 | .int i=>some (.int i)
 | .str s=>some (.str s)
 | .bytes b=>some (.bytes (b.map (·.toNat)))
 |_=>Option.none
noncomputable def Hz:Expr->Option (Str×Str)
 | .Attribute (.Name s _) a _=>some (s,a)
 |_=>Option.none
noncomputable def DU:List Expr->Option Str
 | [.Name y _]=>some y
 |_=>Option.none
def KW(s a y:Str)(st:St)(k:MV->Bool->St->Option α):Option α:=cond (eu s||(eu y|| !cJ a eG)) Option.none (match gu st.fr s,gu st.fr y with
 |some (.own x),some t=>(match look st.ow x with
  |some (.obj c fs)=>(match look fs a with
   |some (.dI l)=>cond (vC t&&decide (l.length<=ak)) (k .none false {st with ow:=dJ st.ow x (.obj c (dJ fs a (.dI (l++[t]))))}) Option.none
   |_=>Option.none)
  |_=>Option.none)
 |_,_=>Option.none)
def Cs(o:Expr)(name:Str)(args:List Expr)(st:St)(k:MV->Bool->St->Option α):Option α:=match Hz o with
 |some (s,a)=>cond (name==("append":Str)) (match DU args with
  |some y=>KW s a y st k
  |Option.none=>Option.none) (Cr cf self o name args st k)
 |Option.none=>Cr cf self o name args st k
def HA(e:Expr)(st:St)(k:MV->Bool->St->Option α):Option α:=match e with
 | .Constant c _ _=>(match KV c with|some v=>k v false st|Option.none=>Option.none)
 | .Name x _=>cond (eu x) Option.none (match gu st.fr x with
  |some v=>k v false st
  |Option.none=>cond (iw st x) (match look cf.consts x with|some i=>k (.int i) false st|Option.none=>Option.none) Option.none)
 | .BinOp l op r _=>self.ex l st fun a _ aA=>self.ex r aA fun b _ au=>cU a au fun a'=>cU b au fun b'=>Hy op a' b' fun v=>k v true au
 | .UnaryOp .USub x _=>self.ex x st fun v _ aA=>(match v with| .int i=>k (.int (-i)) true aA|_=>Option.none)
 | .BoolOp op vs _=>AD self op vs st k
 | .IfExp t x y _=>self.ts t st fun b aA=>cond b (self.ex x aA k) (self.ex y aA k)
 | .Compare l jc cs _=>cond (jK cs) Option.none<|self.ex l st fun v _ aA=>n9 self v jc cs aA fun b au=>k (.bool b) true au
 | .Call (.Attribute o name mO) args [] pos=>cond (iQ args|| !(mO.endLine==pos.line)) Option.none (Cs cf self o name args st k)
 | .Call (.Name f _) args [] _=>cond (iQ args) Option.none<|LV cf self f args st k
 | .List es _=>cond (iQ es) Option.none<|iF self es st fun l aA=>k (.lst l) true aA
 | .Tuple es _ _=>cond (iQ es) Option.none<|iF self es st fun l aA=>k (.tup l) true aA
 | .Dict ks vs _=>cond (yY ks vs) (yX self ks vs st fun ps aA=>cond (l8 ps||fy ps) (k (.gk (putAll [] ps)) true aA) Option.none) Option.none
 | .ListComp cR gens scope _=>tT self cR gens scope st k
 | .Subscript v (.Slice lo hi Option.none _) _=>self.ex v st fun a _ aA=>wz self lo aA fun HB au=>wz self hi au fun za bX=>cU a bX fun a'=>Rn a' HB za fun r=>k r true bX
 | .Subscript v i _=>self.ex v st fun a _ aA=>self.ex i aA fun j _ au=>cU a au fun a'=>bW j au fun j' bX=>LQ a' j' fun r=>k r false bX
 | .Attribute o a _=>cond (oU o|| !cJ a eG) Option.none<|self.ex o st fun v _ aA=>match v with
  | .own x=>(match look aA.ow x with
   |some (.obj _ fs)=>(match look fs a with
    |some (.dI l)=>k (.lst l) true {aA with ow:=del aA.ow x}
    |some t=>k t false aA
    |Option.none=>Option.none)
   |_=>Option.none)
  | .obj _ fs=>cond (gY fs) (match look fs a with|some t=>k t false aA|Option.none=>Option.none) Option.none
  |_=>Option.none
 |_=>Option.none
def OI(e:Expr)(st:St)(k:Bool->St->Option α):Option α:=match e with
 | .UnaryOp .Not x _=>self.ts x st fun b aA=>k (!b) aA
 | .BoolOp op vs _=>lC self op vs st k
 | .IfExp _ _ _ _=>Option.none
 | .Compare l jc cs _=>cond (jK cs) Option.none<|self.ex l st fun v _ aA=>n9 self v jc cs aA k
 |e=>self.ex e st fun v _ aA=>cU v aA fun a=>wu a fun b=>k b aA
noncomputable def aC:List Stmt->St->(cI->St->Option α)->Option α
 | [],st,k=>k .aL st
 |s::r,st,k=>self.st s st fun f aA=>match f with
  | .aL=>aC r aA k
  | .ret v fr=>k (.ret v fr) aA
noncomputable def bO(t:Expr)(body:List Stmt):List MV->St->(cI->St->Option α)->Option α
 | [],st,k=>k .aL st
 |x::xs,st,k=>vq t x st fun aA=>aC self body aA fun f au=>match f with
  | .aL=>bO t body xs au k
  | .ret v fr=>k (.ret v fr) au
noncomputable def jy(uy:Expr)(body:List Stmt):Nat->St->(cI->St->Option α)->Option α
 |0,_,_=>Option.none
 |n+1,st,k=>self.ts uy st fun b aA=>cond b (aC self body aA fun f au=>match f with
  | .aL=>jy uy body n au k
  | .ret v fr=>k (.ret v fr) au) (k .aL aA)
def kR(x:Str)(v:MV)(fresh:Bool)(st:St)(k:St->Option α):Option α:=
 cond (cJ x cf.uu&&ji v)
  (cond (fresh&&single st.fr&& !cJ x cf.pm) (gZ x (.own x) st fun aA=>k {aA with ow:=dJ aA.ow x v}) Option.none)
  (bW v st fun t aA=>gZ x t aA k)
noncomputable def uz:List Expr->List Expr->Option (Str×MV)->St->(List (Str×MV)->Option (Str×MV)->St->Option α)->Option α
 | [],[],pd,st,k=>k [] pd st
 | .Name x _::ts,e::es,pd,st,k=>self.ex e st fun v fr aA=>
   cond (cJ x cf.uu&&ji v)
    (cond (fr&&wh pd&& !cJ x cf.pm) (uz ts es (some (x,v)) aA fun r pD au=>k ((x,.own x)::r) pD au) Option.none)
    (bW v aA fun t au=>uz ts es pd au fun r pD bX=>k ((x,t)::r) pD bX)
 |_,_,_,_,_=>Option.none
noncomputable def qV:List (Str×MV)->St->(St->Option α)->Option α
 | [],st,k=>k st
 |(x,t)::r,st,k=>gZ x t st fun aA=>qV r aA k
def Ct(pd:Option (Str×MV))(st:St)(k:St->Option α):Option α:=match pd with
 |Option.none=>k st
 |some (x,v)=>(match st.fr with
  | [f]=>k ⟨[⟨f.sc,del f.vs x⟩],dJ st.ow x v⟩
  |_=>Option.none)
noncomputable def d8:List Expr->List Str
 | []=>[]
 | .Name x _::r=>x::d8 r
 |_::r=>d8 r
noncomputable def vD(st:St)(line:Nat):List Expr->Bool
 | []=>true
 | .Name x p::r=>(p.line==line&&(match st.fr with|f::_=>kQ .local (look f.sc.names x)| []=>false))&&vD st line r
 |_=>false
noncomputable def jL:List Expr->Bool
 | []=>true
 | .Name _ _::r=>jL r
 |_=>false
noncomputable def HC(ts:List Expr):Nat:=(ts.head?.map (·.pos.line)).getD 0
noncomputable def qW(ts es:List Expr)(st:St):Option Bool:=
 cond (!(jL ts&&(wC ts es&&(n8 (d8 ts)&&(!bC es&&vA 20 ts))))) Option.none<|
 cond (ts.length==2||ts.length==3) (cond (vD st (HC ts) ts&& !es.all (foldedForSure 8)&& !es.all (constantsAlone 8)) (some true) Option.none) (some false)
where
 wC:List Expr->List Expr->Bool
  | [],[]=>true
  |_::r,_::q=>wC r q
  |_,_=>false
noncomputable def fF(e:Expr):Bool:=Nat.beq e.ctorIdx 9||Nat.beq e.ctorIdx 10
noncomputable def eV(e:Expr):Bool:=Nat.beq e.ctorIdx 8
noncomputable def HD(x:Str):List (Str×NameKind)->Bool
 | []=>true
 |(y,k)::r=> !(y==x&&(k== .local||k== .cell))&&HD x r
def oX(st:St)(x:Str)(p:Pos):Expr->Bool
 | .ListComp _ _ sc q=>p.line==q.line&&((match st.fr with| [f]=>kQ .local (look f.sc.names x)|_=>false)&&HD x sc.names)
 |_=>true
def DV(st:St)(s a:Str):Bool:=match gu st.fr s with
 |some (.own x)=>(match look st.ow x with
  |some (.obj _ fs)=>wh (look fs a)
  |_=>false)
 |_=>false
def BB(s a:Str)(m:MV)(st:St)(k:St->Option α):Option α:=cond (eu s|| !cJ a eG) Option.none (match gu st.fr s with
 |some (.own x)=>(match look st.ow x with
  |some (.obj c fs)=>cond (decide (fs.length<=100)) (k {st with ow:=dJ st.ow x (.obj c (dJ fs a m))}) Option.none
  |_=>Option.none)
 |_=>Option.none)
def asgK(t e:Expr)(st:St)(k:cI->St->Option α):Option α:=match t with
 | .Name x p=>cond (fF e|| !oX st x p e) Option.none<|self.ex e st fun v fr aA=>kR cf x v fr aA fun au=>k .aL au
 | .Tuple ts tx tp=>cond (fF e||eV e) Option.none (match e with
  | .Tuple es _ _=>(match qW ts es st with
   |some b=>uz cf self ts es Option.none st fun r pd aA=>Ct pd aA fun au=>qV (cond b r.reverse r) au fun bX=>k .aL bX
   |Option.none=>Option.none)
  |e=>self.ex e st fun v _ aA=>bW v aA fun t au=>vq (.Tuple ts tx tp) t au fun bX=>k .aL bX)
 | .Attribute (.Name s _) a _=>cond (fF e||eV e) Option.none<|self.ex e st fun v fr aA=>cond (a==("wrong":Str))
   (match v with
   | .lst l=>cond (fr&&DV aA s a) (BB s a (.dI l) aA fun au=>k .aL au) Option.none
   |_=>Option.none)
   (bW v aA fun t au=>BB s a t au fun bX=>k .aL bX)
 | .Subscript (.Name x _) i _=>cond (fF e||eV e) Option.none<|self.ex e st fun v _ aA=>bW v aA fun t au=>cond (eu x) Option.none (match gu au.fr x with
  |some (.own y)=>self.ex i au fun j _ bX=>(match j,look bX.ow y with
   | .int j,some (.lst l)=>cond (eZ j&&(decide (0<=j)&&decide (j<l.length))) (k .aL {bX with ow:=dJ bX.ow y (.lst (l.set j.toNat t))}) Option.none
   |_,_=>Option.none)
  |_=>Option.none)
 |_=>Option.none
def OJ(s:Stmt)(st:St)(k:cI->St->Option α):Option α:=match s with
 | .Expr e _=>cond (fF e||eV e) Option.none<|self.ex e st fun v _ aA=>cond (vC v) (k .aL aA) Option.none
 | .Pass _=>k .aL st
 | .Return (some e) _=>self.ex e st fun v fr aA=>k (.ret v fr) aA
 | .Return Option.none _=>k (.ret .none false) st
 | .If t b o _=>self.ts t st fun c aA=>cond c (aC self b aA k) (aC self o aA k)
 | .While t b [] _=>jy self t b 300 st k
 | .For t i b [] _=>vB self (pW t) i st fun items aA=>bO self t b items aA k
 | .Try b _ [] [] _=>aC self b st k
 | .Assign [t] e _=>asgK cf self t e st k
 |_=>Option.none
end
noncomputable def ev(cf:Cf):Nat->Ev
 |0=>⟨fun _ _ _=>Option.none,fun _ _ _=>Option.none,fun _ _ _=>Option.none⟩
 |n+1=>⟨HA cf (ev cf n),OI (ev cf n),OJ cf (ev cf n)⟩
abbrev aJ:=α
noncomputable def qX:List Str->List Bool->List MV->List (Str×MV)
 |p::ps,m::ms,a::as=>(p,cond m (.own p) a)::qX ps ms as
 |_,_,_=>[]
noncomputable def qY:List Str->List Bool->List MV->List (Str×MV)
 |p::ps,m::ms,a::as=>cond m ((p,a)::qY ps ms as) (qY ps ms as)
 |_,_,_=>[]
noncomputable def isOwn(x:Str):Option MV->Bool
 |some (.own y)=>y==x
 |_=>false
noncomputable def mR(st:St):List Str->List Bool->Option (List MV)
 |p::ps,true::ms=>Hx (look st.ow p) (mR st ps ms) fun c r=>cond (isOwn p (gu st.fr p)) (some (c::r)) Option.none
 |_::ps,false::ms=>mR st ps ms
 |_,_=>some []
noncomputable def DW:MV->Option Str
 | .own x=>some x
 |_=>Option.none
noncomputable def Yj:MV->Bool
 | .dI _=>false
 | .fV _=>false
 |_=>true
def HE(ps:List Str)(v:MV)(fr:Bool)(outs:List MV)(st:St):Option aJ:=match DW v with
 |some x=>cond (cJ x ps) Option.none (match look st.ow x with
  |some c=>cond (mK c) (some (c,true,outs)) Option.none
  |Option.none=>Option.none)
 |Option.none=>cond (Yj v) (some (v,fr,outs)) Option.none
def HF(ps:List Str)(ms:List Bool)(f:cI)(st:St):Option aJ:=match mR st ps ms with
 |some outs=>(match f with
  | .aL=>some (.none,false,outs)
  | .ret v fr=>HE ps v fr outs st)
 |Option.none=>Option.none
structure Fn where
 sc:Scope
 ps:List Str
 body:List Stmt
 ms:List Bool
 mv:List Str
 ba:Bool
noncomputable def lG:List Str->List Bool->List Str
 |p::ps,true::ms=>p::lG ps ms
 |_::ps,false::ms=>lG ps ms
 |_,_=>[]
def cj(T:fE)(M:Str->fE)(consts:List (Str×Int))(f:Fn)(args:List MV)(k:Spec->Option α):Option α:=
 aC (ev ⟨T,M,consts,f.mv,lG f.ps f.ms,f.ba⟩ 30) f.body ⟨[⟨f.sc,qX f.ps f.ms args⟩],qY f.ps f.ms args⟩ fun fl st=>match HF f.ps f.ms fl st with
  |some (v,fr,outs)=>k ⟨v,fr,outs⟩
  |Option.none=>Option.none
noncomputable def LW(k:Spec->Option α)(s:Spec):Option α:=match s.val with
 | .none=>(match s.outs with
  | [o]=>k ⟨o,true,[]⟩
  |_=>Option.none)
 |_=>Option.none
end
set_option tactic.hygienic false
open PySem.W PySem.Calls PyProof.Rows
open Sem (wp)
def CalB(Γ:Ctx):Prop:=∃x,x∈Γ.below/\x.1.isCaller=true
def Cal(Γ:Ctx):Prop:=Γ.code.isCaller=true∨CalB Γ
def aE{α:Type}(M:Model)(A:Around)(t:Sem α)(Q:α->Shared->Prop)(E:Value->Shared->Prop)(s:Shared):Prop:=
 ∀Γ p,Γ.In A->Cal Γ->wp M Γ t (fun a _ s'=>Q a s') (fun e _ s'=>E e s') p s
def dF(M:Model)(A:Around)(c:Code)(R:Result->Shared->Prop)(s:Shared):Prop:=
 ∀Γ p,Γ.code=c->Γ.Below A->CalB Γ->wpCode M Γ R p s
section
variable{α β:Type}{M:Model}{A:Around}{E E':Value->Shared->Prop}{s:Shared}
variable{t:Sem α}{Q:α->Shared->Prop}
theorem aT(h:wpAny M A t Q E s):aE M A t Q E s:=fun Γ p hΓ _=>h Γ p hΓ
variable{R:Result->Shared->Prop}
theorem Rq{c:Code}(h:codeAny M A c R s):dF M A c R s:=fun Γ p hc hΓ _=>h Γ p hc hΓ
theorem kT{Q':α->Shared->Prop}(h:aE M A t Q E s)(hQ:∀a s,Q a s->Q' a s)(hE:∀e s,E e s->E' e s):aE M A t Q' E' s:=
 fun Γ p hΓ hc=>Sem.wp_mono M Γ t (fun a _ s=>hQ a s) (fun e _ s=>hE e s) p s (h Γ p hΓ hc)
theorem aK{a:α}(h:Q a s):aE M A (pure a) Q E s:=aT (aR h)
variable{m:Sem α}{f:α->Sem β}
theorem aj{Q:β->Shared->Prop}(h:aE M A m (fun a s'=>aE M A (f a) Q E s') E s):aE M A (m >>= f) Q E s:=fun Γ p hΓ hc=>by
 rw[Sem.wp_bind'];exact Sem.wp_mono M Γ m (fun a p' s' h'=>h' Γ p' hΓ hc) (fun _ _ _ h'=>h') p s (h Γ p hΓ hc)
theorem jZ{k:Value->Sem Unit}
  (h:aE M A m Q (fun e s'=>aE M A (k e) (fun _ dU=>E e dU) E s') s):aE M A (m.onRaise k) Q E s:=fun Γ p hΓ hc=>by
 rw[Sem.wp_onRaise];exact Sem.wp_mono M Γ m (fun _ _ _ h'=>h') (fun e p' s' h'=>h' Γ p' hΓ hc) p s (h Γ p hΓ hc)
theorem Fd{Q:Except Value α->Shared->Prop}(h:aE M A m (fun a=>Q (.ok a)) (fun e=>Q (.error e)) s):
  aE M A m.attempt Q E s:=fun Γ p hΓ hc=>by rw[Sem.wp_attempt];exact h Γ p hΓ hc
theorem aW{vs:List Value}(h:aE M A m Q E s):aE M A (holding vs m) Q E s:=
 fun Γ p hΓ hc=>by rw[Sem.wp_holding];exact h Γ p hΓ hc
theorem aX{pos:Pos}{Q:Unit->Shared->Prop}(h:Q () s):aE M A (standAt pos) Q E s:=fun _ _ _ _=>h
theorem vE{vs:List Value}{m:Sem Value}{Q:Value->Shared->Prop}(h:aE M A m Q E s):aE M A (operate vs m) Q E s:=fun Γ p hΓ hc=>by
 rw[Sem.wp_operate];exact h Γ p hΓ hc
theorem Un{c:Prop}[Decidable c]{a b:Sem α}(h:if c then aE M A a Q E s else aE M A b Q E s):
  aE M A (if c then a else b) Q E s:=by split<;>simp_all
theorem Fe{Γ:Ctx}(h:Cal Γ)(c:Code)(hd:Option Value)(p:Pos):CalB (Γ.enter c hd p):=by
 rcases h with h|⟨x,hx,h⟩
 ·exact⟨(Γ.code,p),.head _,h⟩
 ·exact⟨x,.tail _ hx,h⟩
theorem iR{c:Code}{R':Result->Shared->Prop}(h:dF M A c R s)(hR:∀r s,R r s->R' r s):dF M A c R' s:=
 fun Γ p hc hΓ hb=>wpCode_mono hR (h Γ p hc hΓ hb)
theorem Uo{c:Code}{h:Option Value}{Q:Flow->Shared->Prop}
  (hc:dF M (A.mark h) c (fun r s'=>match r with| .ok f=>Q f s'| .error e=>E e s') s) (hnb:h≠some byPass):
  aE M A (run c h) Q E s:=
 fun Γ p hΓ hb=>by rw[Sem.wp_run];exact hc _ p rfl (hΓ.enter c h p hnb) (Fe hb c h p)
set_option backward.match.sparseCases true in
theorem LX{c:Code}{Q:Value->Shared->Prop}
  (hc:dF M A c (fun r s'=>match r with| .ok (.ret v)=>Q v s'| .ok _=>False| .error e=>E e s') s):
  aE M A (runValue c) Q E s:=fun Γ p hΓ hb=>by rw[Sem.wp_runValue];exact hc _ p rfl (hΓ.enter c none p (by intro x;exact nomatch x)) (Fe hb c none p)
set_option backward.match.sparseCases true in
theorem wD{f:Value}{pos:List Value}{kw:List (Str×Value)}{Q:Value->Shared->Prop}
  (hc:dF M A (.call f ⟨pos,kw⟩) (fun r s'=>match r with| .ok (.ret v)=>Q v s'| .ok _=>False| .error e=>E e s') s):
  aE M A (call f pos kw) Q E s:=LX hc
theorem e7{c:Code}
  (h:aE M (A.under c) (M.den c) (fun gm s'=>match gm with| .done f=>R (.ok f) s'| .again c'=>c'.quiet=true/\dF M A c' R s')
   (fun e s'=>R (.error e) s') s):dF M A c R s:=fun Γ p hc hΓ hb=>by
 rw[wpCode_iff_wp,hc];refine Sem.wp_mono M Γ _ (fun gm p' s' h'=>?_) (fun _ _ _ h'=>h') p s (h Γ p (hc▸hΓ.in) (.inr hb));cases gm with
 |done f=>exact h'
 |again c'=>exact⟨h'.1,h'.2 (Γ.goto c') p' rfl (hΓ.goto c') hb⟩
theorem Cu{c:Code}(hq:c.quiet=true)(I:Nat->Shared->Prop)
  (turn:∀n s,I n s->aE M (A.under c) (M.den c)
   (fun gm s'=>match gm with| .done f=>R (.ok f) s'| .again c'=>c'=c/\∃m,m<n/\I m s') (fun e s'=>R (.error e) s') s)
  (n:Nat) (h:I n s):dF M A c R s:=by
 induction n using Nat.strongRecOn generalizing s with
 |ind n ih=>
  refine e7 (kT (turn n s h) (fun gm s' hf=>?_) fun _ _ h'=>h');cases gm with
  |done f=>exact hf
  |again c'=>obtain⟨rfl,m,hm,hI⟩:=hf;exact⟨hq,ih m hm hI⟩
structure tU(A:Around):Prop where
 frames:∃l,A.frames=some l/\A.units<=4+3 * l.length
theorem HG{P:Prop}(e:false=true):P:=by exact nomatch e
theorem J0{c:Code}(q:c.isFrame=true):c.cUnits=3:=by
 induction c using Code.casesOn with
 |compStart e n=>induction e using Expr.casesOn<;>first|exact HG (Eq.trans (by kernel_rfl!) q)|(induction n using Nat.casesOn<;>first|kernel_rfl!| exact HG (Eq.trans (by kernel_rfl!) q))
 |compLoop e n=>induction e using Expr.casesOn<;>first|exact HG (Eq.trans (by kernel_rfl!) q)|(induction n using Nat.casesOn<;>first|kernel_rfl!| exact HG (Eq.trans (by kernel_rfl!) q))
 |_=>first|exact HG (Eq.trans (by kernel_rfl!) q)|kernel_rfl!
theorem uA:∀l:List (Code×Pos),3 * (envsOf l).length<=unitsOf l:=by
 intro x0
 induction x0 with
 |nil=>
  exact iS _
 |cons gA r dR=>
  rcases gA with⟨c,p⟩
  have ih:=dR;rw[envsOf_cons,unitsOf_cons,cG];have:3 * c.envs.length<=c.cUnits:=by
   unfold Code.envs
   split
   ·rename_i q
    have h1:c.env?.toList.length<=1:=by cases c.env?<;>simp
    have h2:c.cUnits=3:=by
     exact J0 q
    rw[h2];exact jj 3 h1
   ·exact iS _
  rw[Nat.mul_add];exact dz this ih
theorem zc{c:Code}(h:c.isCaller=true):c.cUnits=4/\c.envs= []:=by
 unfold Code.isCaller at h
 split at h
 ·exact⟨rfl,rfl⟩
 ·exact nomatch h
theorem xD(y:Code×Pos):3 * y.1.envs.length<=y.1.cUnits:=by
 have h1:=uA [y];rw[show [y]=(y.1,y.2):: []from rfl,envsOf_cons,unitsOf_cons,cG]at h1;have e1:(envsOf ([]:List (Code×Pos))).length=0:=rfl;have e2:unitsOf ([]:List (Code×Pos))=0:=rfl;exact String.Pos.Raw.mk_le_mk.mp h1
theorem xE(y:Code×Pos)(r:List (Code×Pos)):(envsOf (y::r)).length=y.1.envs.length+(envsOf r).length/\unitsOf (y::r)=y.1.cUnits+unitsOf r:=by
 obtain⟨c,p⟩:=y;rw[envsOf_cons,unitsOf_cons,cG];exact⟨rfl,rfl⟩
variable{b u v k:Nat}
theorem u3{a:Nat}(h1:3 * a<=u)(h2:3 * b+k<=v):3 * (a+b)+k<=u+v:=by
 rw[Nat.mul_add,Nat.add_assoc];exact dz h1 h2
theorem u5{j:Nat}(h:3 * b+j<=v)(q:k<=u):3 * (0+b)+(j+k)<=u+v:=by
 rw[Nat.zero_add,←Nat.add_assoc,Nat.add_comm u];exact dz h q
variable{x:Code×Pos}
theorem OL(h:x.1.isCaller=true)(l:List (Code×Pos))(hx:x∈l):3 * (envsOf l).length+4<=unitsOf l:=by
 induction l with
 |nil=>exact nomatch hx
 |cons z r ih=>
  refine oA (xE z r) fun e1 e2=>?_;rw[e1,e2]
  rcases cC.mp hx with e|hx
  ·refine oA (zc h) fun a b=>?_
   rw[←e,a,b,List.length_nil];exact u5 (j:=0) (uA r) (gK 4)
  ·exact u3 (xD z) (ih hx)
variable{y:Code×Pos}
theorem OM(h:y.1.envs= [])(h':1<=y.1.cUnits)(l:List (Code×Pos))(hx:y∈l):3 * (envsOf l).length+1<=unitsOf l:=by
 induction l with
 |nil=>exact nomatch hx
 |cons z r ih=>
  refine oA (xE z r) fun e1 e2=>?_;rw[e1,e2]
  rcases cC.mp hx with e|hx
  ·rw[←e,h,List.length_nil]
   exact u5 (j:=0) (uA r) h'
  ·exact u3 (xD z) (ih hx)
theorem units_caller(h:x.1.isCaller=true)(h1:y.1.isCaller=false)(h2:y.1.envs= [])(h3:1<=y.1.cUnits)(l:List (Code×Pos))(hx:x∈l)(hy:y∈l):3 * (envsOf l).length+5<=unitsOf l:=by
 induction l with
 |nil=>exact nomatch hx
 |cons z r ih=>
  refine oA (xE z r) fun e1 e2=>?_;rw[e1,e2]
  rcases cC.mp hx with e|hx
  ·rcases cC.mp hy with e'|hy
   ·rw[e]at h;rw[e',h]at h1;exact nomatch h1
   ·refine oA (zc h) fun a b=>?_
    rw[←e,a,b,List.length_nil];exact u5 (OM h2 h3 r hy) (gK 4)
  ·rcases cC.mp hy with e'|hy
   ·rw[←e',h2,List.length_nil]
    exact u5 (OL h r hx) h3
   ·exact u3 (xD z) (ih hx hy)
def pX{α:Type}(M:Model)(A:Around)(c:Code)(t:Sem α)(Q:α->Shared->Prop)(E:Value->Shared->Prop)(s:Shared):Prop:=
 ∀Γ p,Γ.code=c->Γ.Below A->CalB Γ->wp M Γ t (fun a _ s'=>Q a s') (fun e _ s'=>E e s') p s
theorem Yk{c:Code}(h:aE M (A.under c) t Q E s):pX M A c t Q E s:=fun Γ p hc hΓ hb=>h Γ p (hc▸hΓ.in) (.inr hb)
theorem uB{c:Code}{Q:β->Shared->Prop}(h:pX M A c m (fun a s'=>pX M A c (f a) Q E s') E s):pX M A c (m >>= f) Q E s:=
 fun Γ p hc hΓ hb=>by
  rw[Sem.wp_bind'];exact Sem.wp_mono M Γ m (fun a p' s' h'=>h' Γ p' hc hΓ hb) (fun _ _ _ h'=>h') p s (h Γ p hc hΓ hb)
theorem HH{c:Code}
  (h:pX M A c (M.den c) (fun gm s'=>match gm with| .done f=>R (.ok f) s'| .again c'=>c'.quiet=true/\dF M A c' R s')
   (fun e s'=>R (.error e) s') s):dF M A c R s:=fun Γ p hc hΓ hb=>by
 rw[wpCode_iff_wp,hc];refine Sem.wp_mono M Γ _ (fun gm p' s' h'=>?_) (fun _ _ _ h'=>h') p s (h Γ p hc hΓ hb);cases gm with
 |done f=>exact h'
 |again c'=>exact⟨h'.1,h'.2 (Γ.goto c') p' rfl (hΓ.goto c') hb⟩
theorem HJ{c:Code}{f:Code×Pos->Bool}{Q:Bool->Shared->Prop}(T:tU A)(hf:∀c p,f (c,p)=true->c.isCaller=false/\∃id args,c= .builtin id args)(hc:∀p,f (c,p)=false)(h:Q false s):
  pX M A c (do return (←stack).any f) Q E s:=fun Γ p ec hΓ hb=>by
 show Q (((Γ.code,p)::Γ.below).any f) s;have:(((Γ.code,p)::Γ.below).any f)=false:=by
  rw[List.any_cons,ec,hc p,Bool.false_or,List.any_eq_false];intro y hy q;obtain⟨h1,id,args,h2⟩:=hf y.1 y.2 q;refine aH (T.frames) fun l hl hu=>?_;refine aH (hb) fun x hx HK=>?_;try clear hb;have e1:envsOf Γ.below=l:=hΓ.2.2.1 l hl;have h3:y.1.envs= []:=by rw[h2];rfl
  have h4:1<=y.1.cUnits:=by rw[h2];show 1<=1+3 * _;exact Nat.le_add_right 1 (3 * (Code.builtin id args).frames)
  have:=units_caller HK h1 h3 h4 Γ.below hx hy;have h5:=hΓ.2.2.2.2;rw[e1]at this
  lia
 rw[this];exact h
end
section
noncomputable abbrev HL:Ctx:=⟨.builtin "claim.caller" {},none,none,[],none⟩
variable{w:World}{s:Shared}
theorem F4{prog:Program}{t:Sem Fin}{R:Result->Shared->Prop}(hreg:s.asleep)
  (h:aE (model prog w) callerA t (fun gm s'=>∃f,gm= .done f/\R (.ok f) s'/\leftWithCleanup s'.gens=false) (fun e s'=>R (.error e) s'/\leftWithCleanup s'.gens=false) s):
  ∃n r s' dU,runN (denote table) prog w n s ⟨t,.builtin "claim.caller" {},default,[]⟩= .halted (outcomeOf r) s'∧
   schedN (denote table) prog w n (.single s ⟨t,.builtin "claim.caller" {},default,[]⟩)= .halted (outcomeOf r) s'∧s'.forget=dU.forget∧R r dU:=by
 have top:wp (model prog w) HL t (Sem.finPost (model prog w) HL fun r s'=>R r s'/\leftWithCleanup s'.gens=false) (fun e _ s'=>R (.error e) s'/\leftWithCleanup s'.gens=false) default s:=by
  refine Sem.wp_mono _ _ t (fun gm p s' x=>?_) (fun _ _ _ x=>x) default s (h HL default caller_in (.inl rfl));obtain⟨f,rfl,y⟩:=x;exact y
 obtain⟨n,r,a,b,h1,h2,h3,h4⟩:=wp_halts_full (M:=model prog w) (R:=R) hreg top;exact⟨n,r,b,a,h2,h1,h3,h4⟩
abbrev LY(q:Program)(vF:List Str)(XP:(Str->Option Value)->Heap->Prop)(YP:World->Heap->Prop)(r:RowW)(d:DefRec)(kwd:List (Str×Expr)):Prop:=
 ∀(w:World) (s₀ s₁:Shared) (mg mb:Str->Option Value),Ground q vF r.records XP w s₀ mg mb s₁.heap->YP w s₁.heap->∀(a:Addr) (o:Obj) (pm cd doc dV kV:Value),s₁.heap.get? a=some o->
  o.data= .func {docDef d.name d.params d.body d.scope pm cd doc with defaults:=dV,kwdefaults:=kV}->s₁.heap.CodeRec cd d.name->Dflts mg s₁.heap d.params kwd dV kV->mg d.name=some (.ref a)->s₁.gens= #[]->
  ∀(args:List WData) (vals:List Value) (as:List Addr),r.claim.pre args=true->WData.layableAll args=true->ReadsAllW r.records (classAt s₀.heap) s₁.heap vals args as->WellAll w.params s₁.heap vals args->(∀x∈as,(x==sysModules)=false)->
   aE (model r.prog w) callerA (PySem.call (.ref a) vals) (fun v s'=>GoodWG r.claim (classAt s₀.heap) (ExcName.means s₀.heap) args s₁ (.ok (.ret v)) s')
    (fun e s'=>GoodWG r.claim (classAt s₀.heap) (ExcName.means s₀.heap) args s₁ (.error e) s') s₁
noncomputable abbrev Rr(n:Str)(vs:List Value):Sem Fin:=do match ←nsGet mainNs n with
 |some f=>do ret (←PySem.call f vs)
 |none=>unsupported "claim.caller:no-such-global"
section
variable{r:OpenRow}{q:Program}{vF:List Str}{XP:(Str->Option Value)->Heap->Prop}{YP:World->Heap->Prop}{d:DefRec}{kwd:List (Str×Expr)}
theorem ON{DX:Heap->Prop}{free:Addr->Prop}{gens:Prop}(hz:s.asleep)(Up:s.gens= #[])(LZ:r.claim.same=none)(Yl:r.claim.within= [])(hi:∀a b,r.claim.ident a b=true)
  (G:Ground q vF r.records XP w s (s.heap.nsMap mainGlobals) (s.heap.nsMap builtinsNs) s.heap) (Ym:∀mg h h',XP mg h->(∀b o,h.get? b=some o->h'.get? b=some o)->XP mg h')
  (y:YP w s.heap) (Yn:∀w h h',YP w h->(∀b o,h.get? b=some o->h'.get? b=some o)->YP w h') (HM:defOf q r.name=some (d,kwd))
  (hk:∀h₁ h',(∀b o,s.heap.get? b=some o->h₁.get? b=some o)->(∀b o,h₁.get? b=some o->asItWas h₁ h' b o)->DX h')
  (call:LY q vF XP YP r.toRowW d kwd):r.claim.CallFrom (callStub r.name) w free gens DX s:=by
 intro args HN L0 ord Yo;refine hid ?_;intro Z;refine oE (Option.isSome_iff_exists.mp (layAllW_isSome (P:=w.params) (ord:=ord) G.has args r.args s (pre_splitW HN).1)) fun o0 AF=>?_;obtain⟨vs,s₁⟩:=o0;have keeps:=layAllW_keeps _ _ _ AF;have rest:=layAllW_rest _ _ _ AF;refine gO (reads_layAllW Yo _ _ _ AF L0 s₁.heap (fun _ _ e=>e)) fun as KX lg Yp=>?_;have L:Laid r.records w s s₁ args vs as:=⟨⟨ord,Yo,AF⟩,KX,lg,Yp,keeps,rest.1.trans Up,rest.2.2.1⟩;have G₁:=G.keeps Ym keeps;refine Hr (G₁.fn HM) fun a o pm cd doc dV kV h1 h2 h3 h4 h5=>?_;have main:=call w s s₁ _ _ G₁ (Yn _ _ _ y keeps) a o pm cd doc dV kV h2 h3 h4 h5 (defOf_name HM▸h1) L.gens args vs as HN L0 L.reads L.well (L.low G.low);have done:∀res s',GoodWG r.claim (classAt s.heap) (ExcName.means s.heap) args s₁ res s'->(r.claim.Ends s args vs s₁ res s'/\s'.os=s.os/\DX s'.heap)/\leftWithCleanup s'.gens=false:=fun res s' g=>
  have z:=g.laid (c:=r.claim) LZ Yl hi L
  ⟨⟨z.1,z.2.1,hk _ _ keeps g.2.1.old⟩,leftWithCleanup_false_of_bare z.2.2⟩
 have tree:aE (model r.prog w) callerA (Rr r.name vs) (fun gm s'=>∃f,gm= .done f/\(r.claim.Ends s args vs s₁ (.ok f) s'/\s'.os=s.os/\DX s'.heap)/\leftWithCleanup s'.gens=false)
   (fun e s'=>(r.claim.Ends s args vs s₁ (.error e) s'/\s'.os=s.os/\DX s'.heap)/\leftWithCleanup s'.gens=false) s₁:=by
  refine aj (aT (wpAny_nsGet G₁.T.g ?_));rw[h1];exact aj (kT main (fun v s' g=>aK ⟨_,rfl,done _ _ g⟩) fun e s' g=>done _ _ g)
 obtain⟨k,res,s',dU,DY,OO,hfo,hE,Yq,Yr⟩:=F4 (R:=fun res s'=>r.claim.Ends s args vs s₁ res s'/\s'.os=s.os/\DX s'.heap) (Shared.asleep_of_life rest.2.2.2 hz) tree;obtain⟨eh,_,_,eo,_⟩:=Shared.forget_eq hfo;rw[←eh]at Yr;rw[←eo]at Yq;have life:s'.heap.life=s.heap.life:=(runN_life _ _ _ DY).trans rest.2.2.2;refine⟨vs,s₁,AF,k,_,s',OO,?_,fun _ i x hx=>by rw[Up]at hx;simp at hx,Yr,by rw[life],Shared.rest_eq Yq⟩;clear tree main done L G₁ keeps rest KX lg Yp AF OO DY Yr Yq HN L0;refine hid ?_;intro Z2
 rcases hE.congr eh with⟨v,rfl,d1,d2,d3,d4,d5⟩|⟨e,ob,cls,rfl,d1,d2,d3,d4,d5⟩
 ·exact Or.inl ⟨v,rfl,d1,d2,d3,fun b o y _=>d4 b o y,d5⟩
 ·exact Or.inr ⟨e,ob,cls,rfl,d1,d2,d3,d4,fun b o y _=>d5 b o y⟩
end
theorem Ys{r:OpenRow}{q:Program}{vF:List Str}{Xt:Shared->Bool}{XP:(Str->Option Value)->Heap->Prop}{α:Type}{Yf:Shared->α}{Ya:World->α}{YP:World->Heap->Prop}{d:DefRec}{kwd:List (Str×Expr)}{N:Nat}
  (left:LeftO r.prog q vF Xt Yf Ya N) (hY:∀w s,Yf s=Ya w->YP w s.heap) (Yn:∀w h h',YP w h->(∀b o,h.get? b=some o->h'.get? b=some o)->YP w h')
  (hX:∀s,Xt s=true->XP (s.heap.nsMap mainGlobals) s.heap) (Ym:∀mg h h',XP mg h->(∀b o,h.get? b=some o->h'.get? b=some o)->XP mg h')
  (HM:defOf q r.name=some (d,kwd)) (hp:r.prog.theDef r.name=some (d.params,d.body,d.scope)) (hk:kwWritten? d.params.kwonlyargs d.params.kw_defaults=some kwd) (hRf:∀s,Xt s=true->RecFacts r.records s.heap) (hwr:(!r.writes||r.records.isEmpty)=true)
  (said:r.wellSaid=true) (ok:(chainsOk q&&opensWell r.prog&&(frees r.toRowW&&r.within.isEmpty))=true) (bare:r.prog.bare) (hw:r.toRowW.promised)
  (call:LY q vF XP YP r.toRowW d kwd):r.Holds:=by
 simp only[oG]at ok;refine dh (ok) fun o0 Yt Yl=>?_;try clear ok;refine oA (o0) fun hch Yu=>?_;try clear o0;refine rU (frees_parts Yt) fun LZ hu ha hap hm=>?_;refine⟨said,hw,⟨bare,Yu,by show r.makers.map _= [];rw[hm];rfl⟩,hw.witness,fun w=>?_⟩;have B:=left.behind (XP:=fun mg h=>XP mg h/\RecFacts r.records h) (fun s hs=>⟨hX s hs,hRf s hs⟩) hch w;refine⟨B.1,fun s' KY=>?_⟩;obtain⟨s₀,hf,g0,s,T,hz,hgn,hg,G2,y⟩:=B.2 s' KY;have G0:Ground q vF [] XP w s (s.heap.nsMap mainGlobals) (s.heap.nsMap builtinsNs) s.heap:= {G2 with X:=G2.X.1};have RF:=G2.X.2;refine⟨s₀,hf,g0,s,T,fun n hn=>?_,RF.1,RF.2.1,?_⟩
 ·have:n=r.name:=by split at hn<;>simp_all
  clear hn;subst this;exact pinned_of_view hg G0 HM hp hk
 ·refine ON hz (Array.eq_empty_of_size_eq_zero (beq_iff_eq.mp hgn)) LZ (List.isEmpty_iff.mp Yl) (ident_freeW hu ha hap) (RF.ground G0) Ym (hY w s y) Yn HM (fun h₁ h' kl old q=>?_) call
  have T2:=T;exact⟨namesKept_of (s:=s) (s₁:= {s with heap:=h₁}) (s':= {s with heap:=h'}) T2 hg r.keeps kl old,noTable hwr q⟩
end
namespace Hd
set_option tactic.hygienic true
noncomputable def pw:Program:=PySem.Challenge.pw_pf0246_01
def body:List Stmt:=pw.main.body
def Yv:List Stmt:=behindTheImports pw
noncomputable def z(x:String):Str:= .ofString x
noncomputable def vs(x:String)(t:Nat):Value:= .str (.ofString x) t
noncomputable def vi(i t:Nat):Value:= .int (.ofNat i) t
noncomputable def vr(a:Nat):Value:= .ref a
noncomputable def vt(x:String):Value:= .type x
noncomputable def vb(x:String):Value:= .builtin x
noncomputable def vo(b:Bool):Value:= .bool b
noncomputable def vn:Value:= .none
noncomputable def Uq(t:Nat):Value:= .bytes ⟨[]⟩ t
noncomputable def e(P:Params)(k:String)(t:Nat)(v:Value):DictEntry:=⟨PyData.keyHash P (.ofString k),.str (.ofString k) t,v⟩
noncomputable def tup(l:List Value)(_:Params):Obj:= {cls:= .type "tuple",data:= .seq ⟨l⟩ 0}
noncomputable def fld(l:List Value)(_:Params):Obj:= {cls:= .none,data:= .fields ⟨l⟩}
noncomputable def fl(c:String)(l:List Value)(_:Params):Obj:= {cls:= .type c,data:= .fields ⟨l⟩}
noncomputable def dc0(l:List DictEntry)(n:Nat):Obj:= {cls:= .none,data:= .dict ⟨l⟩ n}
noncomputable def dc1(l:List DictEntry)(n:Nat):Obj:= {cls:= .type "dict",data:= .dict ⟨l⟩ n}
noncomputable def pla(c:String)(l:List (Option Value))(_:Params):Obj:= {cls:= .type c,slots:=⟨l⟩}
noncomputable def Yx(d:Option Addr)(c:ClassData)(l:List (Option Value))(_:Params):Obj:= {cls:= .type "type",dict:=d,data:= .cls c,slots:=⟨l⟩}
noncomputable def nt{α:Type}(d:α):List α->Nat->α
 |s::_,0=>s
 |_::r,n+1=>nt d r n
 | [],_=>d
def d7(l:List Stmt)(n:Nat):Stmt:=nt (.Pass default) l n
noncomputable def cbody:Stmt->List Stmt
 | .ClassDef _ _ _ b _ _ _ _ _ _ _=>b
 |_=>[]
def df(i:Nat):Stmt:=d7 body i
def mf(i j:Nat):Stmt:=d7 (cbody (d7 body i)) j
noncomputable def Yy(s:Stmt)(q:String)(gl:Addr)(cl:List (Str×Addr))(ds kd dc md:Value)(an:Option Addr)(co ct:Value)(bi:Addr):FuncData:=match s with
 | .FunctionDef n ps b _ _ _ sc _ _ _=>⟨n,.ofString q,ps,.stmts b,sc,gl,cl,ds,kd,dc,md,an,co,ct,bi⟩
 |_=>default
def fu0(s:Stmt)(q:String)(gl:Addr)(cl:List (Str×Addr))(ds kd dc md:Value)(an:Option Addr)(co ct:Value)(bi:Addr)(_:Params):Obj:= {cls:= .none,data:= .func (Yy s q gl cl ds kd dc md an co ct bi)}
def fu1(s:Stmt)(q:String)(gl:Addr)(cl:List (Str×Addr))(ds kd dc md:Value)(an:Option Addr)(co ct:Value)(bi:Addr)(_:Params):Obj:= {cls:= .type "function",data:= .func (Yy s q gl cl ds kd dc md an co ct bi)}
noncomputable def tn:List String->Nat->List Value
 | [],_=>[]
 |x::r,t=>vs x t::tn r (t+1)
noncomputable def t3:List Nat->List Value
 |a::b::c::r=>vi a 0::vi b 0::vr c::t3 r
 |_=>[]
def Ur(A B:String)(t l a b c d x:Nat)(g:Bool)(y:Nat)(r:List Value)(u:Nat):Params→Obj:=fl "code" ([vs A t,vs B (t+1),vs "/claim/cut.py" (t+2),vi l 0,vi a 0,vi b 0,vi c 0,vi d 0,vr x,vo g,vi 181 0,vr y]++r++[vi u 0,vi l 0,vs "/claim/cut.py" (u+1)])
def g0(s:Stmt)(q:String):Params->Obj:=fu0 s q 0 [] vn vn vn vn none vn vn 0
abbrev PO:Type:=Params->Obj
abbrev PE:Type:=Params->DictEntry
noncomputable def A{α:Type}:List α->List α->List α
 | [],r=>r
 |a::l,r=>a::A l r
noncomputable def tk{α:Type}:List α->Nat->List α
 |a::l,n+1=>a::tk l n
 |_,_=>[]
noncomputable def ap{β:Type}(P:Params):List (Params->β)->List β
 | []=>[]
 |f::r=>f P::ap P r
def E(k:String)(t:Nat)(v:Value):PE:=fun P=>e P k t v
def C(k:String)(t v:Nat):PE:=E k (t+1) (vi v t)
def Es(t a:Nat):PE:=E "__static_attributes__" t (vr a)
def Ed(t a:Nat):PE:=E "__dict__" t (vr a)
def Ew(t a:Nat):PE:=E "__weakref__" t (vr a)
def Eo(t:Nat):PE:=E "__doc__" t vn
def D(l:List PE)(n:Nat):PO:=fun P=>dc1 (ap P l) n
def d2(m:Value)(t l:Nat)(ms:List PE)(n:Nat):PO:=D (E "__module__" t m::E "__firstlineno__" (t+4) (vi l (t+3))::ms) n
def d1(m:Value)(t:Nat)(q:String)(l:Nat)(ms:List PE)(n:Nat):PO:=D (E "__module__" t m::E "__qualname__" (t+2) (vs q (t+1))::E "__firstlineno__" (t+4) (vi l (t+3))::ms) n
def si(a:Nat):PO:=fl "builtin_function_or_method" [vb "object.__init_subclass__",vr a]
def su(a:Nat):PO:=fl "super" [vr a,vr a,vr a]
def gd(t a:Nat):PO:=fl "getset_descriptor" [vs "__dict__" t,vr a,vb "function.__dict__",vb "function.__dict__#set"]
def gw(t a:Nat):PO:=fl "getset_descriptor" [vs "__weakref__" t,vr a,vb "ExceptionGroup.__weakref__",vn]
def fm(a d:Nat)(m:Value):PO:=pla "frame" [some (vr a),some (vr 3),some (vr d),none,some m,none,some (vr 0)]
def cc(x:String)(t l a:Nat):PO:=Ur x x t l 0 0 0 0 a false (a+1) [vn,vn,vn,vn] (t+3)
def cl(x:String)(b:List Value)(a:Nat)(m:List Value)(n:Nat)(s:List Value)(o:Option Value)(t u:Nat)(w:String):PO:=Yx none ⟨z x,b,vr a::m,n,z x,true,[],s,false,none,false⟩ [o,none,some (vs x t),some (vs x u),some (vb w),some (vo true)]
noncomputable def ln:List String->Nat
 | []=>0
 |_::r=>ln r+1
def q0:PO:=tup []
def q1:PO:=fld []
def q2:PO:=fl "builtin_function_or_method" [vb "type.__prepare__",vt "type"]
def gg(s:Stmt)(q:String)(m:Value)(x:Nat):PO:=fu1 s q 3 [] vn vn vn m none (vr x) vn 0
def f7(b t l a:Nat)(s:Stmt)(x q:String)(n:List String)(m:Value)(r:List PO):List PO:=q0::q1::tup (tn n (t+3))::q0::g0 s q::Ur x q t l a 0 0 3 b true (b+1) [vn,vr (b+2),vr (b+3),vr (b+4)] (t+3+ln n)::gg s q m (b+5)::r
def h7(b t l a:Nat)(s:Stmt)(q:String)(n:List String)(m:Value)(r:List PO):List PO:=f7 b t l a s q q n m r
def f5(b t l a:Nat)(s:Stmt)(x q:String)(m:Value)(r:List PO):List PO:=q0::q1::g0 s q::Ur x q t l a 0 0 3 b true (b+1) [vn,vn,vn,vr (b+2)] (t+3)::gg s q m (b+3)::r
def h5(b t l a:Nat)(s:Stmt)(q:String)(m:Value)(r:List PO):List PO:=f5 b t l a s q q m r
def m0:Value:=vs "__main__" 164
def m1:Value:=vs "pixelpress.errors" 187
def m2:Value:=vs "pixelpress.markers" 266
def m3:Value:=vs "pixelpress.octets" 362
def m4:Value:=vs "pixelpress.head_segments" 425
def m5:Value:=vs "pixelpress.stuffing" 659
def m6:Value:=vs "pixelpress.table_segments" 690
def m7:Value:=vs "pixelpress.report" 769
def m8:Value:=vs "law_pf0246_01" 910
def G:List PE:=[E "__doc__" 166 vn,E "__package__" 167 vn,E "__loader__" 168 (vb "__main__.__loader__#opaque"),E "__spec__" 169 vn,E "__annotations__" 170 (vr 6),E "__builtins__" 171 (vr 4),E "__file__" 173 (vs "/claim/cut.py" 172),E "__cached__" 174 vn,E "PressError" 217 (vr 31),E "SegmentError" 233 (vr 44),E "CodeError" 249 (vr 56),E "CutError" 265 (vr 68),C "TEM" 268 1,C "SOF0" 270 192,C "DHT" 272 196,C "JPG" 274 200,C "DAC" 276 204,C "SOF15" 278 207,C "RST0" 280 208,C "SOI" 282 216,C "EOI" 284 217,C "SOS" 286 218,C "DQT" 288 219,C "DNL" 290 220,C "DRI" 292 221,C "DHP" 294 222,C "EXP" 296 223,C "APP0" 298 224,C "COM" 300 254,E "name_of" 312 (vr 77),E "is_frame" 319 (vr 84),E "is_restart" 326 (vr 91),E "Piece" 361 (vr 109),E "OctetReader" 424 (vr 158),C "MOST_SAMPLING" 427 4,C "MOST_SLOT_head_segments" 429 3,C "MOST_IN_SCAN" 431 4,C "MOST_PLACE" 433 63,C "MOST_POINT" 435 15,E "ComponentHead" 471 (vr 179),E "FrameHead" 508 (vr 200),E "ScanHead" 549 (vr 221),E "want" 557 (vr 232),E "is_lossless" 564 (vr 239),E "is_precision" 572 (vr 246),E "are_unlike" 580 (vr 253),E "check_component" 587 (vr 260),E "check_frame" 593 (vr 265),E "read_frame" 610 (vr 272),E "check_scan" 620 (vr 279),E "read_scan" 636 (vr 286),E "read_number" 643 (vr 293),E "read_interval" 650 (vr 300),E "read_lines" 658 (vr 307),E "unstuff" 669 (vr 314),E "behind_fill" 677 (vr 321),E "split_data" 689 (vr 328),C "MOST_SLOT_table_segments" 692 3,C "CODE_SIZES" 694 16,C "MOST_SYMBOLS" 696 256,E "read_kind" 706 (vr 335),E "need" 714 (vr 342),E "check_divisor" 722 (vr 349),E "read_quant" 736 (vr 356),E "read_huffman" 748 (vr 363),E "check_conditioning" 756 (vr 370),E "read_conditioning" 768 (vr 377),E "frame_text" 782 (vr 384),E "scan_text" 794 (vr 391),E "tables_text" 811 (vr 398),E "piece_text" 820 (vr 405),E "report" 831 (vr 412),E "FileCheck" 898 (vr 453),E "check_file" 909 (vr 464),E "_law_pool" 922 (vr 471),E "_law_take" 931 (vr 478),E "_law_one" 939 (vr 485),E "_law_quants" 945 (vr 490),E "_law_codes" 951 (vr 495),E "_law_frame" 957 (vr 500),E "_law_scan" 963 (vr 505),E "_law_pieces" 969 (vr 510),E "_law_bent" 981 (vr 517),E "_law_tables_due" 997 (vr 524),E "_law_scan_due" 1012 (vr 531),E "_law_due" 1030 (vr 538),E "law" 1036 (vr 543)]
def md(m:Value)(k:Nat):PO:=D (E "__name__" 165 m::tk G k) (k+1)
noncomputable def LN:List Nat:=[2,0,20,7,0,40,9,0,52,11,0,64,31,0,76,39,0,83,41,0,90,43,0,97,50,0,119,78,0,168,85,0,189,93,0,210,103,0,231,106,0,238,108,0,245,112,0,252,117,0,259,122,0,264,131,0,271,145,0,278,156,0,285,173,0,292,176,0,299,178,0,306,183,0,313,194,0,320,198,0,327,222,0,334,227,0,341,230,0,348,233,0,355,245,0,362,257,0,369,264,0,376,275,0,383,282,0,390,290,0,397,302,0,404,317,0,411,325,0,418,391,0,463,404,0,470,411,0,477,418,0,484,420,0,489,423,0,494,426,0,499,431,0,504,442,0,509,457,0,516,465,0,523,479,0,530,491,0,537,512,0,542]
def nl(k:Nat):PO:=fld (t3 (tk LN (3 * k)))
def e17:List PE:=[E "__init__" 208 (vr 28),Es 210 29]
def e94:List PE:=[E "__init__" 350 (vr 106),Es 354 107]
def Yz:List PE:=[E "__init__" 383 (vr 127),E "left" 390 (vr 134),E "take" 399 (vr 141),E "byte" 406 (vr 148),E "word" 414 (vr 155),Es 417 156]
def YA:List PE:=[E "__init__" 459 (vr 176),Es 464 177]
def YB:List PE:=[E "__init__" 495 (vr 197),Es 501 198]
def YC:List PE:=[E "__init__" 534 (vr 218),Es 542 219]
def YD:List PE:=[E "__init__" 851 (vr 426),E "tell" 859 (vr 433),E "piece" 865 (vr 438),E "scan" 871 (vr 443),E "tables" 883 (vr 450),Es 891 451]
def YE:PO:=tup [(Uq 339),(Uq 340)]
def xe(s:List Value):PO:=cl "PressError" [(vt "Exception")] 31 [(vt "Exception"),(vt "BaseException"),(vt "object")] 30 s (some (vr 15)) 189 197 "Exception.__new__"
def l2:List PO:=A [gw 211 31,su 31,si 31,tup [vr 31],q2,d1 m1 225 "SegmentError" 7 [Es 230 42] 4,q0,q1,cc "SegmentError" 220 7 38,fm 40 37 m1,q0,d2 m1 225 7 [Es 230 42,Eo 231] 2,cl "SegmentError" [vr 31] 44 [vr 31,vt "Exception",vt "BaseException",vt "object"] 43 [] (some (vr 35)) 218 226 "Exception.__new__",su 44,si 44,tup [vr 31],q2,d1 m1 241 "CodeError" 9 [Es 246 54] 4,q0,q1,cc "CodeError" 236 9 50,fm 52 49 m1,q0,d2 m1 241 9 [Es 246 54,Eo 247] 2,cl "CodeError" [vr 31] 56 [vr 31,vt "Exception",vt "BaseException",vt "object"] 55 [] (some (vr 47)) 234 242 "Exception.__new__",su 56,si 56,tup [vr 31],q2,d1 m1 257 "CutError" 11 [Es 262 66] 4,q0,q1,cc "CutError" 252 11 62,fm 64 61 m1,q0,d2 m1 257 11 [Es 262 66,Eo 263] 2,cl "CutError" [vr 31] 68 [vr 31,vt "Exception",vt "BaseException",vt "object"] 67 [] (some (vr 59)) 250 258 "Exception.__new__",su 68,si 68]<|
 h7 71 302 31 1 (df 23) "name_of" ["code","known","first","most","name"] m2<|
 h7 78 313 39 1 (df 24) "is_frame" ["code"] m2<|
 h7 85 320 41 1 (df 25) "is_restart" ["code"] m2<|
 A [q0,q2,d1 m2 334 "Piece" 43 e94 5,q0,fld (t3 [45,4,105]),cc "Piece" 329 43 95,fm 97 94 m2,YE,q0,q1,tup (tn ["self","code","payload","data"] 344),q0,g0 (mf 26 0) "Piece.__init__",Ur "__init__" "Piece.__init__" 341 45 4 0 0 3 100 true 101 [vn,vr 102,vr 103,vr 104] 348,fu1 (mf 26 0) "Piece.__init__" 3 [] (vr 99) vn vn (vs "pixelpress.markers" 266) none (vr 105) vn 0,tup (tn ["code","data","payload"] 351),d2 m2 334 43 (A e94 [Ed 356 110,Ew 358 111,Eo 359]) 4,cl "Piece" [vt "object"] 109 [vt "object"] 108 [] none 327 335 "object.__new__",gd 355 109,gw 357 109,su 109,si 109,q0,q2,d1 m3 371 "OctetReader" 50 Yz 9,q0,fld (t3 [52,4,126,56,4,133,59,4,140,66,4,147,69,4,154]),cc "OctetReader" 366 50 117,fm 119 116 m3]<|
 f7 121 376 52 2 (mf 28 0) "__init__" "OctetReader.__init__" ["self","octets"] m3<|
 f7 128 384 56 1 (mf 28 1) "left" "OctetReader.left" ["self"] m3<|
 f7 135 391 59 2 (mf 28 2) "take" "OctetReader.take" ["self","size","found"] m3<|
 f7 142 400 66 1 (mf 28 3) "byte" "OctetReader.byte" ["self"] m3<|
 f7 149 407 69 1 (mf 28 4) "word" "OctetReader.word" ["self","two"] m3<|
 A [tup (tn ["at","octets"] 415),d2 m3 371 50 (A Yz [Ed 419 159,Ew 421 160,Eo 422]) 4,cl "OctetReader" [vt "object"] 158 [vt "object"] 157 [] none 364 372 "object.__new__",gd 418 158,gw 420 158,su 158,si 158,q0,q2,d1 m4 444 "ComponentHead" 78 YA 5,q0,fld (t3 [80,4,175]),cc "ComponentHead" 439 78 166,fm 168 165 m4]<|
 f7 170 449 80 5 (mf 35 0) "__init__" "ComponentHead.__init__" ["self","ident","across","down","quant"] m4<|
 A [tup (tn ["across","down","ident","quant"] 460),d2 m4 444 78 (A YA [Ed 466 180,Ew 468 181,Eo 469]) 4,cl "ComponentHead" [vt "object"] 179 [vt "object"] 178 [] none 437 445 "object.__new__",gd 465 179,gw 467 179,su 179,si 179,q0,q2,d1 m4 479 "FrameHead" 85 YB 5,q0,fld (t3 [87,4,196]),cc "FrameHead" 474 85 187,fm 189 186 m4]<|
 f7 191 484 87 6 (mf 36 0) "__init__" "FrameHead.__init__" ["self","code","precision","height","width","components"] m4<|
 A [tup (tn ["code","components","height","precision","width"] 496),d2 m4 479 85 (A YB [Ed 503 201,Ew 505 202,Eo 506]) 4,cl "FrameHead" [vt "object"] 200 [vt "object"] 199 [] none 472 480 "object.__new__",gd 502 200,gw 504 200,su 200,si 200,q0,q2,d1 m4 516 "ScanHead" 93 YC 5,q0,fld (t3 [95,4,217]),cc "ScanHead" 511 93 208,fm 210 207 m4]<|
 f7 212 521 95 8 (mf 37 0) "__init__" "ScanHead.__init__" ["self","idents","dc_slots","ac_slots","start","end","high","low"] m4<|
 A [tup (tn ["ac_slots","dc_slots","end","high","idents","low","start"] 535),d2 m4 516 93 (A YC [Ed 544 222,Ew 546 223,Eo 547]) 4,cl "ScanHead" [vt "object"] 221 [vt "object"] 220 [] none 509 517 "object.__new__",gd 543 221,gw 545 221,su 221,si 221]<|
 h7 226 550 103 2 (df 38) "want" ["is_so","message"] m4<|
 h7 233 558 106 1 (df 39) "is_lossless" ["code"] m4<|
 h7 240 565 108 2 (df 40) "is_precision" ["code","precision"] m4<|
 h7 247 573 112 1 (df 41) "are_unlike" ["idents","at"] m4<|
 h7 254 581 117 1 (df 42) "check_component" ["component"] m4<|
 h5 261 588 122 1 (df 43) "check_frame" m4<|
 h7 266 594 131 2 (df 44) "read_frame" ["code","payload","reader","precision","height","width","components","turn","ident","both","head"] m4<|
 h7 273 611 145 1 (df 45) "check_scan" ["head","many","ident","slot"] m4<|
 h7 280 621 156 1 (df 46) "read_scan" ["payload","reader","idents","dc_slots","ac_slots","turn","both","start","end","head"] m4<|
 h7 287 637 173 1 (df 47) "read_number" ["payload"] m4<|
 h7 294 644 176 1 (df 48) "read_interval" ["payload"] m4<|
 h7 301 651 178 1 (df 49) "read_lines" ["payload","lines"] m4<|
 h7 308 661 183 1 (df 51) "unstuff" ["octets","found","at"] m5<|
 h7 315 670 194 2 (df 52) "behind_fill" ["data","at"] m5<|
 h7 322 678 198 1 (df 53) "split_data" ["data","intervals","numbers","begin","at","last"] m5<|
 h7 329 698 222 2 (df 58) "read_kind" ["reader","most","both"] m6<|
 h7 336 707 227 2 (df 59) "need" ["reader","size"] m6<|
 h7 343 715 230 2 (df 60) "check_divisor" ["divisor","precision"] m6<|
 h7 350 723 233 2 (df 61) "read_quant" ["payload","n","reader","found","precision","slot","divisors","turn"] m6<|
 h7 357 737 245 1 (df 62) "read_huffman" ["payload","reader","found","kind","slot","counts"] m6<|
 h7 364 749 257 2 (df 63) "check_conditioning" ["kind","value"] m6<|
 h7 371 757 264 1 (df 64) "read_conditioning" ["payload","reader","found","kind","slot","value"] m6<|
 h7 378 771 275 2 (df 66) "frame_text" ["code","payload","head","told","one","sampling"] m7<|
 h7 385 783 282 2 (df 67) "scan_text" ["payload","data","head","parts","at","told"] m7<|
 h7 392 795 290 3 (df 68) "tables_text" ["code","payload","n","parts","slot","precision","divisors","kind","counts","symbols","value"] m7<|
 h7 399 812 302 2 (df 69) "piece_text" ["piece","n","name"] m7<|
 h7 406 821 317 2 (df 70) "report" ["pieces","n","found","piece","error"] m7<|
 A [q0,q2,d1 m7 839 "FileCheck" 325 YD 9,q0,fld (t3 [327,4,425,336,4,432,339,4,437,361,4,442,380,4,449]),cc "FileCheck" 834 325 416,fm 418 415 m7]<|
 f7 420 844 327 2 (mf 71 0) "__init__" "FileCheck.__init__" ["self","n"] m7<|
 f7 427 852 336 2 (mf 71 1) "tell" "FileCheck.tell" ["self","message"] m7<|
 f5 434 860 339 4 (mf 71 2) "piece" "FileCheck.piece" m7<|
 f5 439 866 361 3 (mf 71 3) "scan" "FileCheck.scan" m7<|
 f7 444 872 380 3 (mf 71 4) "tables" "FileCheck.tables" ["self","head","at","needed","kind","slot"] m7<|
 A [tup (tn ["codes","frame","interval","n","quants","scans","wrong"] 884),d2 m7 839 325 (A YD [Ed 893 454,Ew 895 455,Eo 896]) 4,cl "FileCheck" [vt "object"] 453 [vt "object"] 452 [] none 832 840 "object.__new__",gd 892 453,gw 894 453,su 453,si 453]<|
 h7 458 899 391 2 (df 72) "check_file" ["pieces","n","check","place","error"] m7<|
 h7 465 912 404 2 (df 74) "_law_pool" ["script","k","cell","big","mixed"] m8<|
 h7 472 923 411 2 (df 75) "_law_take" ["source","top","drawn"] m8<|
 h7 479 932 418 2 (df 76) "_law_one" ["source","things"] m8<|
 h5 486 940 420 1 (df 77) "_law_quants" m8<|
 h5 491 946 423 2 (df 78) "_law_codes" m8<|
 h5 496 952 426 2 (df 79) "_law_frame" m8<|
 h5 501 958 431 3 (df 80) "_law_scan" m8<|
 h5 506 964 442 1 (df 81) "_law_pieces" m8<|
 h7 511 970 457 2 (df 82) "_law_bent" ["source","some","way","at","to","rest"] m8<|
 h7 518 982 465 5 (df 83) "_law_tables_due" ["frame","told","row","quants","codes","ident","dc","ac","has_loss","found"] m8<|
 h7 525 998 479 5 (df 84) "_law_scan_due" ["frame","told","quants","codes","interval","found","row","at","number"] m8<|
 h7 532 1013 491 1 (df 85) "_law_due" ["some","found","frame","scans","quants","codes","interval","place","name","told","payload","data"] m8<|
 h5 539 1031 512 1 (df 86) "law" m8<|
 []
def l1(x:PO):List PO:=A [cc "<module>" 182 1 11,fm 13 3 m0,tup [vt "Exception"],q2,d1 m1 196 "PressError" 2 e17 5,q0,fld (t3 [4,4,27]),cc "PressError" 191 2 18,fm 20 17 m1]<|
 f7 22 201 4 2 (mf 1 0) "__init__" "PressError.__init__" ["self","message"] m1<|
 A [tup (tn ["message"] 209),d2 m1 196 2 (A e17 [Ew 212 32,Eo 213]) 3]<|
 x::l2
def ls(a b c x:PO):List PO:=boot_o_0::boot_o_1::a::b::boot_o_4::boot_o_5::boot_o_6::boot_o_7::boot_o_8::boot_o_9::boot_o_10::q0::c::l1 x
def wF(P:Params):Obj:=dc0 [(e P "type.__subclasses__.Exception.0" 214 (vi 31 0)),(e P "type.__subclasses__.Exception.n" 215 (vi 1 0))] 2
def BC:PO:=md m8 87
noncomputable def sp{α:Type}:List α->Bool->List α
 | [],_=>[]
 |a::r,b=>cond b (a::sp r false) (sp r true)
noncomputable def br(P:Params):Nat->List PO->BT
 |n+1,a::r=> .node (a P) (br P n (sp r true)) (br P n (sp r false))
 |_,_=> .nil
def t47(P:Params):BT:=br P 10 (tk (ls boot_o_2 boot_o_3 q1 (xe [])) 15)
def t71(P:Params):BT:=br P 10 (tk (ls wF (md m1 9) (nl 1) (xe [])) 35)
def t86(P:Params):BT:=br P 10 (tk (ls wF (md m1 10) (nl 2) (xe [vr 44])) 47)
def YF(P:Params):BT:=br P 10 (tk (ls wF (md m1 11) (nl 3) (xe [vr 44,vr 56])) 59)
def YG(P:Params):BT:=br P 10 (tk (ls wF (md m2 29) (nl 4) (xe [vr 44,vr 56,vr 68])) 71)
def YH(P:Params):BT:=br P 10 (tk (ls wF (md m3 33) (nl 8) (xe [vr 44,vr 56,vr 68])) 114)
def YI(P:Params):BT:=br P 10 (tk (ls wF (md m4 38) (nl 9) (xe [vr 44,vr 56,vr 68])) 163)
def YJ(P:Params):BT:=br P 10 (tk (ls wF (md m4 40) (nl 10) (xe [vr 44,vr 56,vr 68])) 184)
def YK(P:Params):BT:=br P 10 (tk (ls wF (md m4 41) (nl 11) (xe [vr 44,vr 56,vr 68])) 205)
def YL(P:Params):BT:=br P 10 (tk (ls wF (md m4 47) (nl 17) (xe [vr 44,vr 56,vr 68])) 261)
def YM(P:Params):BT:=br P 10 (tk (ls wF (md m6 61) (nl 28) (xe [vr 44,vr 56,vr 68])) 336)
def YN(P:Params):BT:=br P 10 (tk (ls wF (md m7 72) (nl 39) (xe [vr 44,vr 56,vr 68])) 413)
def YO(P:Params):BT:=br P 10 (tk (ls wF (md m8 74) (nl 41) (xe [vr 44,vr 56,vr 68])) 465)
def lz:List PO:=ls wF BC (nl 54) (xe [vr 44,vr 56,vr 68])
def YQ(P:Params):BT:=br P 10 lz
def q607:PO:=gg (df 86) "law" m8 542
def DZ(P:Params):Heap:=⟨⟨ap P lz⟩,{}⟩
def h46(P:Params):Heap:=⟨⟨ap P (tk (ls boot_o_2 boot_o_3 q1 (xe [])) 15)⟩,{}⟩
def env:Env:= {scope:=pw.main.scope,locals:=mainNs,globals:=mainNs,cells:=[],code:= .ref 13,frame:=some 14}
def cd:Code:= .body Yv env
noncomputable def tf:Frame:=topFrame ⟨0,0,0,0⟩
noncomputable def T(t:BT)(n k:Nat)(os:OsState):SharedT:=⟨t,n,{},⟨[]⟩,{},k,os⟩
def ez:List Stmt:=(body.drop 0).take 2
def aA:List Stmt:=(body.drop 2).take 1
def au:List Stmt:=(body.drop 3).take 1
def bX:List Stmt:=(body.drop 4).take 19
def qD:List Stmt:=(body.drop 23).take 5
def uw:List Stmt:=(body.drop 28).take 6
def KZ:List Stmt:=(body.drop 34).take 2
def st7:List Stmt:=(body.drop 36).take 1
def Us:List Stmt:=(body.drop 37).take 6
def st9:List Stmt:=(body.drop 43).take 16
def YR:List Stmt:=(body.drop 59).take 12
def YS:List Stmt:=(body.drop 71).take 3
def YT:List Stmt:=(body.drop 74).take 13
theorem YU(w:World):(fun os=>segRunT treeTable pw w 11 (some (.ref 6)) 1 238 (T (t47 w.params) 15 187 os) (piecesOf ez env cd ⟨0,0,0,0⟩ [tf])) =
  fun os=>some (.next,T (t71 w.params) 35 218 os,cd,⟨2,0,6,30⟩):=by
 rw[nq,kF]
 kernel_rfl
theorem YV(w:World):(fun os=>segRunT treeTable pw w 11 (some (.ref 6)) 1 214 (T (t71 w.params) 35 218 os) (piecesOf aA env cd ⟨2,0,6,30⟩ [tf])) =
  fun os=>some (.next,T (t86 w.params) 47 234 os,cd,⟨7,0,8,8⟩):=by
 rw[nq,kF]
 kernel_rfl
theorem YW(w:World):(fun os=>segRunT treeTable pw w 11 (some (.ref 6)) 1 214 (T (t86 w.params) 47 234 os) (piecesOf au env cd ⟨7,0,8,8⟩ [tf])) =
  fun os=>some (.next,T (YF w.params) 59 250 os,cd,⟨9,0,10,8⟩):=by
 rw[nq,kF]
 kernel_rfl
theorem YX(w:World):(fun os=>segRunT treeTable pw w 11 (some (.ref 6)) 1 376 (T (YF w.params) 59 250 os) (piecesOf bX env cd ⟨9,0,10,8⟩ [tf])) =
  fun os=>some (.next,T (YG w.params) 71 302 os,cd,⟨30,0,30,3⟩):=by
 rw[nq,kF]
 kernel_rfl
theorem YY(w:World):(fun os=>segRunT treeTable pw w 11 (some (.ref 6)) 1 330 (T (YG w.params) 71 302 os) (piecesOf qD env cd ⟨30,0,30,3⟩ [tf])) =
  fun os=>some (.next,T (YH w.params) 114 364 os,cd,⟨49,0,49,8⟩):=by
 rw[nq,kF]
 kernel_rfl
theorem YZ(w:World):(fun os=>segRunT treeTable pw w 11 (some (.ref 6)) 1 396 (T (YH w.params) 114 364 os) (piecesOf uw env cd ⟨49,0,49,8⟩ [tf])) =
  fun os=>some (.next,T (YI w.params) 163 435 os,cd,⟨76,0,76,10⟩):=by
 rw[nq,kF]
 kernel_rfl
theorem Y0(w:World):(fun os=>segRunT treeTable pw w 11 (some (.ref 6)) 1 238 (T (YI w.params) 163 435 os) (piecesOf KZ env cd ⟨76,0,76,10⟩ [tf])) =
  fun os=>some (.next,T (YJ w.params) 184 472 os,cd,⟨78,0,84,26⟩):=by
 rw[nq,kF]
 kernel_rfl
theorem Y3(w:World):(fun os=>segRunT treeTable pw w 11 (some (.ref 6)) 1 231 (T (YJ w.params) 184 472 os) (piecesOf st7 env cd ⟨78,0,84,26⟩ [tf])) =
  fun os=>some (.next,T (YK w.params) 205 509 os,cd,⟨85,0,92,36⟩):=by
 rw[nq,kF]
 kernel_rfl
theorem Y4(w:World):(fun os=>segRunT treeTable pw w 11 (some (.ref 6)) 1 383 (T (YK w.params) 205 509 os) (piecesOf Us env cd ⟨85,0,92,36⟩ [tf])) =
  fun os=>some (.next,T (YL w.params) 261 588 os,cd,⟨117,0,121,82⟩):=by
 rw[nq,kF]
 kernel_rfl
theorem Y5(w:World):(fun os=>segRunT treeTable pw w 11 (some (.ref 6)) 1 395 (T (YL w.params) 261 588 os) (piecesOf st9 env cd ⟨117,0,121,82⟩ [tf])) =
  fun os=>some (.next,T (YM w.params) 336 707 os,cd,⟨222,0,226,34⟩):=by
 rw[nq,kF]
 kernel_rfl
theorem VN(w:World):(fun os=>segRunT treeTable pw w 11 (some (.ref 6)) 1 375 (T (YM w.params) 336 707 os) (piecesOf YR env cd ⟨222,0,226,34⟩ [tf])) =
  fun os=>some (.next,T (YN w.params) 413 832 os,cd,⟨317,0,324,16⟩):=by
 rw[nq,kF]
 kernel_rfl
theorem VO(w:World):(fun os=>segRunT treeTable pw w 11 (some (.ref 6)) 1 395 (T (YN w.params) 413 832 os) (piecesOf YS env cd ⟨317,0,324,16⟩ [tf])) =
  fun os=>some (.next,T (YO w.params) 465 912 os,cd,⟨403,0,403,8⟩):=by
 rw[nq,kF]
 kernel_rfl
theorem VP(w:World):(fun os=>segRunT treeTable pw w 11 (some (.ref 6)) 1 400 (T (YO w.params) 465 912 os) (piecesOf YT env cd ⟨403,0,403,8⟩ [tf])) =
  fun os=>some (.next,T (YQ w.params) 544 1037 os,cd,⟨512,0,524,15⟩):=by
 rw[nq,kF]
 kernel_rfl
set_option backward.match.sparseCases true
theorem pre(w:World):(fun os=>topGo treeTable pw w 11 (some (.ref 6)) 12 ⟨boot_heap w.params,⟨[]⟩,boot_drawn,boot_toks,os⟩ (topStub pw)) =
  fun os=>some (⟨h46 w.params,⟨[]⟩,{},187,os⟩,⟨denote treeTable cd,cd,⟨0,0,0,0⟩,[tf]⟩):=by
 rw[Fast.te15667345088766844465,kF,Fast.te11892475500146522536]
 kernel_rfl
theorem block(w:World):(fun os=>segRun treeTable pw w 11 (some (.ref 6)) 1 1 ⟨h46 w.params,⟨[]⟩,{},187,os⟩ (blockOf Yv env cd ⟨0,0,0,0⟩ [tf])) =
  fun os=>some (.next,(T (t47 w.params) 15 187 os).abs,cd,⟨0,0,0,0⟩):=by
 rw[Fast.te14374325043358763698,kF]
 kernel_rfl
theorem gm(w:World):(fun os=>topRun treeTable pw w 11 (some (.ref 6)) 2 (T (YQ w.params) 544 1037 os).abs ⟨doneF .next,cd,⟨512,0,524,15⟩,[tf]⟩) =
  fun os=>some ⟨DZ w.params,⟨[]⟩,{},1037,os⟩:=by
 rw[Fast.te14082659384304107361,kF]
 kernel_rfl
theorem stmts:Yv=ez++(aA++(au++(bX++(qD++(uw++(KZ++(st7++(Us++(st9++(YR++(YS++(YT++[])))))))))))):=by kernel_rfl
theorem run(w:World)(os:OsState):topRun treeTable pw w 11 (some (.ref 6)) (Nat.add 12 (Nat.add 1 (Nat.add 238 (Nat.add 214 (Nat.add 214 (Nat.add 376 (Nat.add 330 (Nat.add 396 (Nat.add 238 (Nat.add 231 (Nat.add 383 (Nat.add 395 (Nat.add 375 (Nat.add 395 (Nat.add 400 2))))))))))))))) ⟨boot_heap w.params,⟨[]⟩,boot_drawn,boot_toks,os⟩ (topStub pw)=some ⟨DZ w.params,⟨[]⟩,{},1037,os⟩:=by
 refine go_top (congrFun (pre w) os) (piece_block (congrFun (block w) os) ?_);rw[stmts];refine piece_app (segRun_of (congrFun (YU w) os)) ?_;refine piece_app (segRun_of (congrFun (YV w) os)) ?_;refine piece_app (segRun_of (congrFun (YW w) os)) ?_;refine piece_app (segRun_of (congrFun (YX w) os)) ?_;refine piece_app (segRun_of (congrFun (YY w) os)) ?_;refine piece_app (segRun_of (congrFun (YZ w) os)) ?_;refine piece_app (segRun_of (congrFun (Y0 w) os)) ?_;refine piece_app (segRun_of (congrFun (Y3 w) os)) ?_;refine piece_app (segRun_of (congrFun (Y4 w) os)) ?_;refine piece_app (segRun_of (congrFun (Y5 w) os)) ?_;refine piece_app (segRun_of (congrFun (VN w) os)) ?_;refine piece_app (segRun_of (congrFun (VO w) os)) ?_;refine piece_app (segRun_of (congrFun (VP w) os)) ?_;exact piece_nil (congrFun (gm w) os)
def vw:Program:= {pw with main:= {pw.main with body:=(body.drop 1).take 4++((body.drop 6).take 21++((body.drop 28).take 1++((body.drop 30).take 20++((body.drop 51).take 3++((body.drop 55).take 10++((body.drop 66).take 7++((body.drop 74).take 13)))))))}}
noncomputable def ka:List Addr:=[3,76,77,83,84,90,91,99,105,106,108,109,126,127,133,134,140,141,147,148,154,155,157,158,175,176,178,179,196,197,199,200,217,218,220,221,231,232,238,239,245,246,252,253,259,260,264,265,271,272,278,279,285,286,292,293,299,300,306,307,313,314,320,321,327,328,334,335,341,342,348,349,355,356,362,363,369,370,376,377,383,384,390,391,397,398,404,405,411,412,425,426,432,433,437,438,442,443,449,450,452,453,463,464,470,471,477,478,484,485,489,490,494,495,499,500,504,505,509,510,516,517,523,524,530,531,537,538,542,543]
def kf(P:Params):Frag:=ka.map fun a=>(a,nt q0 lz a P)
theorem Ut(P:Params):ka=(kf P).map (·.1):=by kernel_rfl
def hook:Hook:=kHook kf ka Ut
def sF(w:World)(os:OsState):Shared:=⟨DZ w.params,⟨[]⟩,{},1037,os⟩
theorem opens:opening pw=plainProg pw.main.scope.names:=by kernel_rfl
theorem size(w:World):((boot_heap w.params).isNs mainGlobals&&(⟨[]⟩:Array GenState).size==0,(boot_heap w.params).objs.size,(boot_heap w.params).nsMap mainGlobals "__annotations__")=(true,11,some (.ref 6)):=by
 rw[Fast.te8920871248978507458]
 kernel_rfl
theorem look1(w:World):(fun os=>(staticsOk (importedModules pw.main.body) (boot_heap w.params) (DZ w.params)&&namesBound pw (DZ w.params)&&gensDone (sF w os)&&laidKept (boot_heap w.params) (DZ w.params)))=fun os=>true:=by
 rw[Fast.te5923862056798008813]
 kernel_rfl
theorem look3(w:World):(fun os=>hook.obs (sF w os))=fun os=>hook.val w:=by kernel_rfl
def xt(s:Shared):Bool:=xlAt vw [] s&&recOk [] s
theorem look2(w:World):(fun os=>openSeen vw [z "Piece"] (importedModules pw.main.body) xt true (sF w os))=fun os=>openGood vw [z "Piece"]:=by
 rw[Fast.te4187177175401517315,Fast.te5923862056798008813]
 kernel_rfl
theorem left:LeftO pw vw [z "Piece"] xt hook.obs hook.val 8470 true:=
 LeftO.of_pieces (boot_open opens (by rfl) fun s=>rfl) size run (by rfl) fun w=>funext fun os=>looks_pair (congrFun (look1 w) os) (looks_pair (congrFun (look2 w) os) (congrFun (look3 w) os))
end Hd
set_option tactic.hygienic true
noncomputable def consts:List (Str×Int):=[(.ofString "TEM",1),(.ofString "SOF0",192),(.ofString "DHT",196),(.ofString "JPG",200),(.ofString "DAC",204),(.ofString "SOF15",207),(.ofString "RST0",208),(.ofString "SOI",216),(.ofString "EOI",217),(.ofString "SOS",218),(.ofString "DQT",219),(.ofString "DNL",220),(.ofString "DRI",221),(.ofString "DHP",222),(.ofString "EXP",223),(.ofString "APP0",224),(.ofString "COM",254),(.ofString "MOST_SAMPLING",4),(.ofString "MOST_SLOT_head_segments",3),(.ofString "MOST_IN_SCAN",4),(.ofString "MOST_PLACE",63),(.ofString "MOST_POINT",15),(.ofString "MOST_SLOT_table_segments",3),(.ofString "CODE_SIZES",16),(.ofString "MOST_SYMBOLS",256)]
noncomputable def zd:List (Str×Addr):=[(.ofString "Piece",109),(.ofString "OctetReader",158),(.ofString "ComponentHead",179),(.ofString "FrameHead",200),(.ofString "ScanHead",221),(.ofString "FileCheck",453)]
noncomputable def A8:List (Str×Addr):=[(.ofString "name_of",77),(.ofString "is_frame",84),(.ofString "is_restart",91),(.ofString "want",232),(.ofString "is_lossless",239),(.ofString "is_precision",246),(.ofString "are_unlike",253),(.ofString "check_component",260),(.ofString "check_frame",265),(.ofString "read_frame",272),(.ofString "check_scan",279),(.ofString "read_scan",286),(.ofString "read_number",293),(.ofString "read_interval",300),(.ofString "read_lines",307),(.ofString "unstuff",314),(.ofString "behind_fill",321),(.ofString "split_data",328),(.ofString "read_kind",335),(.ofString "need",342),(.ofString "check_divisor",349),(.ofString "read_quant",356),(.ofString "read_huffman",363),(.ofString "frame_text",384),(.ofString "scan_text",391),(.ofString "tables_text",398),(.ofString "piece_text",405),(.ofString "report",412),(.ofString "check_file",464),(.ofString "_law_pool",471),(.ofString "_law_take",478),(.ofString "_law_one",485),(.ofString "_law_quants",490),(.ofString "_law_codes",495),(.ofString "_law_frame",500),(.ofString "_law_scan",505),(.ofString "_law_pieces",510),(.ofString "_law_bent",517),(.ofString "_law_tables_due",524),(.ofString "_law_scan_due",531),(.ofString "_law_due",538),(.ofString "law",543),(.ofString "Piece",109),(.ofString "OctetReader",158),(.ofString "ComponentHead",179),(.ofString "FrameHead",200),(.ofString "ScanHead",221),(.ofString "FileCheck",453)]
class inductive BD:List Int->List Value->Prop
 |nil:BD [] []
 |cons {i t l vs:_}:BD l vs->BD (i::l) (.int i t::vs)
set_option tactic.hygienic false
section
structure Gx where
 prog:Program
 w:World
 H0:Heap
 K:Frag
 mg:Str->Option Value
 mb:Str->Option Value
 cls:List (Str×Addr)
variable{β:Type}
theorem mOptM{v:Option MV}{f:MV->Option β}{o:β}(e:(match v with|some y=>f y|Option.none=>Option.none)=some o):∃y,v=some y/\f y=some o:=by
 induction v using Option.casesOn with
 |none=>exact aq e
 |some y=>exact⟨y,rfl,e⟩
theorem mOptL{v:Option (List MV)}{f:(List MV)->Option β}{o:β}(e:(match v with|some y=>f y|Option.none=>Option.none)=some o):∃y,v=some y/\f y=some o:=by
 induction v using Option.casesOn with
 |none=>exact aq e
 |some y=>exact⟨y,rfl,e⟩
theorem mOptE{v:Option Entry}{f:Entry->Option β}{o:β}(e:(match v with|some y=>f y|Option.none=>Option.none)=some o):∃y,v=some y/\f y=some o:=by
 induction v using Option.casesOn with
 |none=>exact aq e
 |some y=>exact⟨y,rfl,e⟩
theorem GU{v:Option St}{f:St->Option β}{o:β}(e:(match v with|some y=>f y|Option.none=>Option.none)=some o):∃y,v=some y/\f y=some o:=by
 induction v using Option.casesOn with
 |none=>exact aq e
 |some y=>exact⟨y,rfl,e⟩
theorem mOptB{v:Option Bool}{f:Bool->Option β}{o:β}(e:(match v with|some y=>f y|Option.none=>Option.none)=some o):∃y,v=some y/\f y=some o:=by
 induction v using Option.casesOn with
 |none=>exact aq e
 |some y=>exact⟨y,rfl,e⟩
noncomputable def HO:List (Str×Value):=[("len",.builtin "len"),("int",.type "int"),("str",.type "str"),("bytes",.type "bytes"),("list",.type "list"),("tuple",.type "tuple"),("sum",.builtin "sum"),("dict",.type "dict"),
 ("max",.builtin "max"),("bytearray",.type "bytearray"),("range",.type "range"),("enumerate",.type "enumerate")]
noncomputable def uC(K:Frag)(C:Addr)(a:Str):Bool:=plainGet K C a&&(hasDictIn K C&&((findIn K (.ref C) a==some none)&&((findIn K (.ref C) "__setattr__"==some (some (.builtin "object.__setattr__")))&&(plainOver K C&&(takerIn K C a==some none)))))
structure fO(g:Gx)(consts:List (Str×Int)):Prop where
 ns:g.H0.Ns mainGlobals g.mg
 nb:g.H0.Ns builtinsNs g.mb
 nolimit:g.H0.NoLimit
 nodigits:∃mc,g.H0.Ns cStatics mc∧mc "sys.int_max_str_digits"=none
 ze:g.K.In g.H0
 consts:∀x i,look consts x=some i->∃t,g.mg x=some (.int i t)
 bi:∀x v,look HO x=some v->g.mg x=none/\g.mb x=some v
 low:8<g.H0.objs.size
 fld:∀c C a,look g.cls c=some C->cJ a eG=true->uC g.K C a=true
noncomputable def gOf(Q:Gx->Prop):Gx:= @Classical.epsilon Gx ⟨⟨default,aWorld 0,default,[],fun _=>none,fun _=>none,[]⟩⟩ fun g=>¬Q g
theorem Y6{Q:Gx->Prop}(h:Q (gOf Q))(g:Gx):Q g:=Classical.byContradiction fun n=> @Classical.epsilon_spec_aux Gx ⟨⟨default,aWorld 0,default,[],fun _=>none,fun _=>none,[]⟩⟩ (fun g=>¬Q g) ⟨g,n⟩ h
def Y7(g:Gx):Prop:=fO g consts->g.K=Hd.kf g.w.params->g.cls=zd->(∀x a,look A8 x=some a->g.mg x=some (.ref a))->(∃t o,g.H0.get? t=some o/\g.H0.objs.size<=t+1)->
 ∀(s:Shared) (a:Addr) (o:Obj) (vs:Array Value) (n:Nat) (l:List Int),(∀b o,g.H0.get? b=some o→s.heap.get? b=some o)→s.heap.get? a=some o→o.cls= .type "list" →o.data= .seq vs n→BD l vs.toList→l.length≤63→
  dF (model g.prog g.w) callerA (.call (.ref 543) ⟨[.ref a],[]⟩) (fun r s'=>r= .ok (.ret (.bool true))/\(∀b o,s.heap.get? b=some o->s'.heap.get? b=some o)/\s'.gens=s.gens/\s'.os=s.os) s
def g:Gx:=gOf Y7
inductive kG:MV->Value->Prop
 |int (i t):kG (.int i) (.int i t)
 |str (x t):kG (.str x) (.str x t)
class inductive uD:List (MV×MV)->List (Int×Value)->Prop
 |nil:uD [] []
 |cons {k v mv d kvs:_}:kG mv v->uD d kvs->uD ((.int k,mv)::d) ((k,v)::kvs)
class inductive vG:List (MV×MV)->List (Str×Value)->Prop
 |nil:vG [] []
 |cons {k v mv d kvs:_}:kG mv v->vG d kvs->vG ((.str k,mv)::d) ((k,v)::kvs)
mutual
inductive Tree(h:Heap)(O:List Addr):MV->Value->Prop
 |none:Tree h O .none .none
 |bool (b):Tree h O (.bool b) (.bool b)
 |int (i t):Tree h O (.int i) (.int i t)
 |str (x t):Tree h O (.str x) (.str x t)
 |bytes (b:Array UInt8) (t):Tree h O (.bytes (b.toList.map UInt8.toNat)) (.bytes b t)
 |tup {l a o vs n:_}:h.get? a=some o→o.cls= .type "tuple" →o.data= .seq vs n→a∉O→aQ h O l vs.toList→Tree h O (.tup l) (.ref a)
 |lst {l a o vs n:_}:h.get? a=some o→o.cls= .type "list" →o.data= .seq vs n→a∉O→aQ h O l vs.toList→Tree h O (.lst l) (.ref a)
 |dX {d a kvs:_}:h.DictOf (intKind g.prog g.w) a kvs->a∉O->(a==sysModules)=false->uD d kvs->Tree h O (.gk d) (.ref a)
 |jd {d a kvs:_}:h.DictOf (strKind g.prog g.w) a kvs->a∉O->(a==sysModules)=false->vG d kvs->Tree h O (.gk d) (.ref a)
 |obj {c fs a C dx es n:_}:look g.cls c=some C->h.get? a=some (instObj C dx)->h.get? dx=some (dictOf es n)->a∉O->dx∉O->nY h O fs es->Tree h O (.obj c fs) (.ref a)
inductive aQ(h:Heap)(O:List Addr):List MV->List Value->Prop
 |nil:aQ h O [] []
 |cons {m v ms vs:_}:Tree h O m v->aQ h O ms vs->aQ h O (m::ms) (v::vs)
inductive nY(h:Heap)(O:List Addr):List (Str×MV)->List DictEntry->Prop
 |nil:nY h O [] []
 |cons {x t mv e fs es:_}:e.key= .str x t->Tree h O mv e.val->nY h O fs es->nY h O ((x,mv)::fs) (e::es)
end
class inductive cV(h:Heap)(O:List Addr):List (Str×MV)->List DictEntry->List Addr->Prop
 |nil:cV h O [] [] []
 |tree {x t mv e fs es as:_}:e.key= .str x t->Tree h O mv e.val->cV h O fs es as->cV h O ((x,mv)::fs) (e::es) as
 |dI {x t l e fs es as a o vs n:_}:e.key= .str x t→e.val= .ref a→h.get? a=some o→o.cls= .type "list" →o.dict=none→o.data= .seq vs n→aQ h O l vs.toList→
   cV h O fs es as->cV h O ((x,.dI l)::fs) (e::es) (a::as)
inductive c9(h:Heap)(O:List Addr):MV->List Addr->Prop
 |lst {l a o vs n:_}:h.get? a=some o→o.cls= .type "list" →o.dict=none→o.data= .seq vs n→aQ h O l vs.toList→c9 h O (.lst l) [a]
 |fV {b:Array UInt8} {a o:_}:h.get? a=some o→o.cls= .type "bytearray" →o.dict=none→o.data= .bytearray b 0→c9 h O (.fV (b.toList.map UInt8.toNat)) [a]
 |dX {d a kvs:_}:h.DictOf (intKind g.prog g.w) a kvs->(a==sysModules)=false->uD d kvs->c9 h O (.gk d) [a]
 |jd {d a kvs:_}:h.DictOf (strKind g.prog g.w) a kvs->(a==sysModules)=false->vG d kvs->c9 h O (.gk d) [a]
 |obj {c fs a C dx es n as:_}:look g.cls c=some C->h.get? a=some (instObj C dx)->h.get? dx=some (dictOf es n)->cV h O fs es as->c9 h O (.obj c fs) (a::dx::as)
structure cM(h:Heap)(O:List Addr)(h':Heap)(O':List Addr)(W:List Addr):Prop where
 keep:∀b o,h.get? b=some o->b∉W->h'.get? b=some o
 off:∀b o,h.get? b=some o->b∉O->b∉O'
 sub:∀b,b∈W->b∈O
variable{h h':Heap}{O O' W:List Addr}
theorem cM.get(S:cM h O h' O' W){a:Addr}{o:Obj}(e:h.get? a=some o)(n:a∉O):h'.get? a=some o/\a∉O':=
 ⟨S.keep a o e fun q=>n (S.sub a q),S.off a o e n⟩
theorem cM.dict{prog:Program}{w:World}{K:Type}[DecidableEq K]{knd:KeyKind prog w K}{a:Addr}{kvs:List (K×Value)}(S:cM h O h' O' W)(d:h.DictOf knd a kvs)(n:a∉O):h'.DictOf knd a kvs/\a∉O':=by
 refine fq (d) fun o es ep e r=>?_;try clear d;exact⟨⟨o,es,ep,(S.get e n).1,r⟩,(S.get e n).2⟩
theorem Tree.aU(S:cM h O h' O' W){m v}(x:Tree h O m v):Tree h' O' m v:=
 @Tree.rec h O (fun m v _=>Tree h' O' m v) (fun m v _=>aQ h' O' m v) (fun m v _=>nY h' O' m v)
  .none .bool .int .str .bytes
  (fun e c d n _ r=> .tup (S.get e n).1 c d (S.get e n).2 r) (fun e c d n _ r=> .lst (S.get e n).1 c d (S.get e n).2 r)
  (fun d n m r=> .dX (S.dict d n).1 (S.dict d n).2 m r) (fun d n m r=> .jd (S.dict d n).1 (S.dict d n).2 m r)
  (fun c e d n n' _ r=> .obj c (S.get e n).1 (S.get d n').1 (S.get e n).2 (S.get d n').2 r)
  .nil (fun _ _ t r=> .cons t r) .nil (fun k _ _ t r=> .cons k t r) m v x
theorem aQ.aU(S:cM h O h' O' W){m v}(x:aQ h O m v):aQ h' O' m v:=
 @aQ.rec h O (fun m v _=>Tree h' O' m v) (fun m v _=>aQ h' O' m v) (fun m v _=>nY h' O' m v)
  .none .bool .int .str .bytes
  (fun e c d n _ r=> .tup (S.get e n).1 c d (S.get e n).2 r) (fun e c d n _ r=> .lst (S.get e n).1 c d (S.get e n).2 r)
  (fun d n m r=> .dX (S.dict d n).1 (S.dict d n).2 m r) (fun d n m r=> .jd (S.dict d n).1 (S.dict d n).2 m r)
  (fun c e d n n' _ r=> .obj c (S.get e n).1 (S.get d n').1 (S.get e n).2 (S.get d n').2 r)
  .nil (fun _ _ t r=> .cons t r) .nil (fun k _ _ t r=> .cons k t r) m v x
theorem nY.aU(S:cM h O h' O' W){m v}(x:nY h O m v):nY h' O' m v:=
 @nY.rec h O (fun m v _=>Tree h' O' m v) (fun m v _=>aQ h' O' m v) (fun m v _=>nY h' O' m v)
  .none .bool .int .str .bytes
  (fun e c d n _ r=> .tup (S.get e n).1 c d (S.get e n).2 r) (fun e c d n _ r=> .lst (S.get e n).1 c d (S.get e n).2 r)
  (fun d n m r=> .dX (S.dict d n).1 (S.dict d n).2 m r) (fun d n m r=> .jd (S.dict d n).1 (S.dict d n).2 m r)
  (fun c e d n n' _ r=> .obj c (S.get e n).1 (S.get d n').1 (S.get e n).2 (S.get d n').2 r)
  .nil (fun _ _ t r=> .cons t r) .nil (fun k _ _ t r=> .cons k t r) m v x
theorem cV.aU(S:cM h O h' O' W){fs es as}(x:cV h O fs es as)(q:∀b o,b∈as->h.get? b=some o->h'.get? b=some o):cV h' O' fs es as:=by
 induction x with
 |nil=>exact .nil
 |tree k t _ ih=>exact .tree k (t.aU S) (ih q)
 |dI k e ho c dn d t _ ih=>exact .dI k e (q _ _ (.head _) ho) c dn d (t.aU S) (ih fun b o hb=>q b o (.tail _ hb))
theorem c9.aU(S:cM h O h' O' W){m as}(x:c9 h O m as)(q:∀b o,b∈as->h.get? b=some o->h'.get? b=some o):c9 h' O' m as:=by
 induction x using c9.casesOn with
 |lst e c dn d r=>exact .lst (q _ _ (.head _) e) c dn d (r.aU S)
 |fV e c dn d=>exact .fV (q _ _ (.head _) e) c dn d
 |dX d m r=>obtain⟨o,es,ep,e,z⟩:=d;exact .dX ⟨o,es,ep,q _ _ (.head _) e,z⟩ m r
 |jd d m r=>obtain⟨o,es,ep,e,z⟩:=d;exact .jd ⟨o,es,ep,q _ _ (.head _) e,z⟩ m r
 |obj c e d r=>exact .obj c (q _ _ (.head _) e) (q _ _ (.tail _ (.head _)) d) (r.aU S fun b o hb=>q b o (.tail _ (.tail _ hb)))
theorem HP{x:Str}{mv:MV}{v:Value}{fs:List (Str×MV)}(t:Tree h O mv v)(q:gY ((x,mv)::fs)=true):gY fs=true:=by
 induction t using Tree.casesOn<;>exact q
theorem cV.toTree{fs es as}(x:cV h O fs es as)(q:gY fs=true):as= []/\nY h O fs es:=by
 induction x with
 |nil=>exact⟨rfl,.nil⟩
 |tree k t _ ih=>obtain⟨a,b⟩:=ih (HP t q);exact⟨a,.cons k t b⟩
 |dI=>exact aP q
theorem c9.toTree{m a as}(x:c9 h O m (a::as))(t:mK m=true)(n:∀b,b∈a::as->b∉O')(sub:∀b,b∈O'->b∈O):Tree h O' m (.ref a):=by
 have S:cM h O h O' []:=⟨fun _ _ e _=>e,fun _ _ _ q q'=>q (sub _ q'),fun _ q=>nomatch q⟩;cases x with
 |lst e c dn d r=>exact .lst e c d (n _ (.head _)) (r.aU S)
 |fV=>cases t
 |dX d m r=>exact .dX d (n _ (.head _)) m r
 |jd d m r=>exact .jd d (n _ (.head _)) m r
 |obj c e d r=>
  refine oA (r.toTree t) fun q f=>?_;exact .obj c e d (n _ (.head _)) (n _ (.tail _ (.head _))) (f.aU S)
theorem c9.ne_nil{m as}(x:c9 h O m as):∃a r,as=a::r:=by induction x using c9.casesOn<;>exact⟨_,_,rfl⟩
theorem Tree.bool_inv{b v}(t:Tree h O (.bool b) v):v= .bool b:=by cases t;rfl
theorem Tree.int_inv{i v}(t:Tree h O (.int i) v):∃k,v= .int i k:=by cases t;exact⟨_,rfl⟩
theorem Tree.str_inv{x v}(t:Tree h O (.str x) v):∃k,v= .str x k:=by cases t;exact⟨_,rfl⟩
theorem Tree.Ff{l v}(t:Tree h O (.bytes l) v):∃b k,v= .bytes b k/\l=b.toList.map UInt8.toNat:=by cases t;exact⟨_,_,rfl,rfl⟩
theorem Tree.D0{l v}(t:Tree h O (.tup l) v):∃a o vs n,v= .ref a∧h.get? a=some o∧o.cls= .type "tuple" ∧o.data= .seq vs n∧a∉O∧aQ h O l vs.toList:=by
 cases t with|tup a b c d e=>exact⟨_,_,_,_,rfl,a,b,c,d,e⟩
theorem Tree.lst_inv{l v}(t:Tree h O (.lst l) v):∃a o vs n,v= .ref a∧h.get? a=some o∧o.cls= .type "list" ∧o.data= .seq vs n∧a∉O∧aQ h O l vs.toList:=by
 cases t with|lst a b c d e=>exact⟨_,_,_,_,rfl,a,b,c,d,e⟩
variable{P:Prop}
theorem Tree.BE{x v}(t:Tree h O (.dI x) v):P:=by cases t
theorem aQ.iT{vs}(t:aQ h O [] vs):vs= []:=by cases t;rfl
theorem aQ.eT{m ms vs}(t:aQ h O (m::ms) vs):∃v r,vs=v::r/\Tree h O m v/\aQ h O ms r:=by cases t with|cons a b=>exact⟨_,_,rfl,a,b⟩
theorem aQ.length{m v}(x:aQ h O m v):m.length=v.length:=by
 induction m generalizing v with
 |nil=>obtain rfl:=x.iT;rfl
 |cons a r ih=>obtain⟨w,vs,rfl,-,y⟩:=x.eT;exact bq (· +1) (ih y)
theorem aQ.append{m v m' v'}(x:aQ h O m v)(y:aQ h O m' v'):aQ h O (m++m') (v++v'):=by
 induction m generalizing v with
 |nil=>obtain rfl:=x.iT;exact y
 |cons a r ih=>obtain⟨w,vs,rfl,t,z⟩:=x.eT;exact .cons t (ih z)
theorem aQ.get{m v}(x:aQ h O m v)(i:Nat)(q:i<m.length):∃x,v[i]?=some x/\Tree h O (m.getD i .none) x:=by
 induction m generalizing v i with
 |nil=>exact absurd q (Nat.not_lt_zero i)
 |cons a r ih=>
  refine cy (x.eT) fun w vs o2 t z=>?_;clear x;obtain rfl:=o2
  induction i using Nat.casesOn with
  |zero=>exact⟨_,rfl,t⟩
  |succ i=>exact ih z i (vH q)
theorem aQ.drop{m v}(x:aQ h O m v)(n:Nat):aQ h O (m.drop n) (v.drop n):=by
 induction n generalizing m v with
 |zero=>exact x
 |succ n ih=>
  induction m using List.casesOn with
  |nil=>obtain rfl:=x.iT;exact .nil
  |cons a r=>obtain⟨w,vs,rfl,-,z⟩:=x.eT;exact ih z
theorem aQ.take{m v}(x:aQ h O m v)(n:Nat):aQ h O (m.take n) (v.take n):=by
 induction n generalizing m v with
 |zero=>exact .nil
 |succ n ih=>
  induction m using List.casesOn with
  |nil=>obtain rfl:=x.iT;exact .nil
  |cons a r=>obtain⟨w,vs,rfl,t,z⟩:=x.eT;exact .cons t (ih z)
theorem c9.lst_inv{l as}(t:c9 h O (.lst l) as):∃a o vs n,as= [a]∧h.get? a=some o∧o.cls= .type "list" ∧o.dict=none∧o.data= .seq vs n∧aQ h O l vs.toList:=by
 cases t with|lst a b c d e=>exact⟨_,_,_,_,rfl,a,b,c,d,e⟩
theorem c9.Rt{l as}(t:c9 h O (.fV l) as):∃a o b,as= [a]∧h.get? a=some o∧o.cls= .type "bytearray" ∧o.dict=none∧o.data= .bytearray b 0∧l=b.toList.map UInt8.toNat:=by
 cases t with|fV a b c d=>exact⟨_,_,_,rfl,a,b,c,d,rfl⟩
theorem c9.VQ{c fs as}(t:c9 h O (.obj c fs) as):∃a C dx es n r,as=a::dx::r/\look g.cls c=some C/\h.get? a=some (instObj C dx)/\h.get? dx=some (dictOf es n)/\cV h O fs es r:=by
 cases t with|obj a b c d=>exact⟨_,_,_,_,_,_,rfl,a,b,c,d⟩
theorem c9.Y8{d a as}(t:c9 h O (.gk d) (a::as)):∃o,h.get? a=some o∧o.cls= .type "dict" ∧o.dict=none:=by
 cases t with
 |dX hD=>obtain⟨o,es,ep,ho,hx,_⟩:=hD;exact⟨o,ho,hx.1,hx.2.1⟩
 |jd hD=>obtain⟨o,es,ep,ho,hx,_⟩:=hD;exact⟨o,ho,hx.1,hx.2.1⟩
theorem Fg{e:Expr}(h:pW e=true):∃es k p,e= .Tuple es k p:=by
 induction e using Expr.casesOn<;>first|exact aP h|exact⟨_,_,_,rfl⟩
noncomputable def treeM:MV->Bool
 | .dI _=>false
 | .fV _=>false
 | .own _=>false
 |_=>true
theorem Tree.no{h:Heap}{O:List Addr}{m:MV}{v:Value}(x:Tree h O m v)(q:treeM m=false):P:=by
 induction x using Tree.casesOn<;>exact aP q.symm
theorem c9.no{h:Heap}{O:List Addr}{m:MV}{as:List Addr}(x:c9 h O m as)(q:ji m=false):P:=by
 induction x using c9.casesOn<;>exact aP q.symm
end
section
variable{F F':List Addr}{envs:List Env}{aa:List (List Addr)}{al al' dG:Al}{st:St}{h h' gB:Heap}{O O' W:List Addr}
section
abbrev Al:=List (Str×List Addr)
noncomputable def flat:Al->List Addr
 | []=>[]
 |(_,as)::r=>as++flat r
abbrev Ob(F:List Addr)(aa:List (List Addr))(al:Al):List Addr:=F++(aa.flatten++flat al)
def cS(h:Heap)(O:List Addr)(al:Al):MV->Value->Prop
 | .own k,v=>∀as,look al k=some as->∃a r,as=a::r/\v= .ref a
 |m,v=>Tree h O m v
structure pY(h:Heap)(O:List Addr)(ow:List (Str×MV))(al:Al):Prop where
 own:∀k m,look ow k=some m->∃as,look al k=some as/\c9 h O m as
structure Ru(env:Env)(sc:Scope):Prop where
 kind:env.scope.kind= .function
 gl:env.globals=mainGlobals
 bt:env.builtins=builtinsNs
 loc:∀x,look sc.names x=some .local->env.kindOf x=some .local
 cel:∀x,look sc.names x=some .cell->env.kindOf x=some .cell
 fre:∀x,look sc.names x=some .free->env.kindOf x=some .free∨env.kindOf x=some .cell
 glo:∀x,look sc.names x=some .globalImplicit->env.kindOf x=some .globalImplicit
structure wG(h:Heap)(O:List Addr)(al:Al)(env:Env)(f:Fr)(ps:List Addr):Prop where
 base:Ru env f.sc
 mem:env.locals∈ps
 ns:∃m,h.Ns env.locals m/\∀x mv,look f.sc.names x=some .local->look f.vs x=some mv->∃v,m x=some v/\cS h O al mv v
 cells:∀x,look f.sc.names x=some .cell->∃c ov,env.cells.lookup x=some c/\c∈ps/\c≠env.locals/\h.IsCell c ov/\∀mv,look f.vs x=some mv->∃v,ov=some v/\cS h O al mv v
 apart:∀x y c,look f.sc.names x=some .cell->look f.sc.names y=some .cell->env.cells.lookup x=some c->env.cells.lookup y=some c->x=y
 mark:∀x k,look f.vs x=some (.own k)->x=k
class inductive jM(h:Heap)(O:List Addr)(al:Al):List Env->List Fr->List (List Addr)->Prop
 |nil:jM h O al [] [] []
 |cons {env f ps envs fs aa:_}:wG h O al env f ps->(∀x,look f.sc.names x=some .free->∀e' r,envs=e'::r->env.cells.lookup x=e'.cells.lookup x)->
   jM h O al envs fs aa->jM h O al (env::envs) (f::fs) (ps::aa)
structure az(F:List Addr)(envs:List Env)(aa:List (List Addr))(al:Al)(st:St)(h:Heap):Prop where
 fr:jM h (Ob F aa al) al envs st.fr aa
 ow:pY h (Ob F aa al) st.ow al
 nd:(Ob F aa al).Nodup
 live:∀a,a∈Ob F aa al->∃o,h.get? a=some o
 hi:∀a,a∈Ob F aa al->g.H0.objs.size<=a
 jN:∀b o,g.H0.get? b=some o->h.get? b=some o
 top:∃t o,g.H0.get? t=some o/\g.H0.objs.size<=t+1
structure Sp(aa:List (List Addr))(al:Al)(h:Heap)(al':Al)(h':Heap):Prop where
 keep:∀b o,h.get? b=some o->b∉aa.flatten->b∉flat al->h'.get? b=some o
 sub:∀a,a∈flat al'->a∈flat al∨a∈aa.flatten∨h.get? a=none
 heads:∀k as',look al' k=some as'->(∃as,look al k=some as/\as.head?=as'.head?)
structure Sq(pm:List Str)(aa:List (List Addr))(al:Al)(h:Heap)(al':Al)(h':Heap):Prop where
 keep:∀b o,h.get? b=some o->b∉aa.flatten->b∉flat al->h'.get? b=some o
 sub:∀a,a∈flat al'->a∈flat al∨a∈aa.flatten∨h.get? a=none
 heads:∀k as',cJ k pm=true->look al' k=some as'->(∃as,look al k=some as/\as.head?=as'.head?)
theorem Sp.refl:Sp aa al h al h:=⟨fun _ _ e _ _=>e,fun _ q=> .inl q,fun _ as' e=>⟨as',e,rfl⟩⟩
variable{pm:List Str}
theorem Sp.sq(s:Sp aa al h al' h'):Sq pm aa al h al' h':=⟨s.keep,s.sub,fun k as _ e=>s.heads k as e⟩
theorem Sq.refl:Sq pm aa al h al h:=Sp.refl.sq
theorem qZ{b:Addr}(s:Sq pm aa al h al' h')(e:h'.get? b=none):b∈flat al∨b∈aa.flatten∨h.get? b=none:=by
 by_cases p:b∈flat al
 ·exact .inl p
 ·by_cases q:b∈aa.flatten
  ·exact .inr (.inl q)
  ·refine .inr (.inr ?_)
   cases z:h.get? b with
   |none=>rfl
   |some o=>rw[s.keep b o z q p]at e;cases e
theorem Sq.trans(s:Sq pm aa al h al' h')(t:Sq pm aa al' h' dG gB):Sq pm aa al h dG gB:=by
 refine⟨fun b o e p q=>?_,fun a q=>?_,fun k as z e=>?_⟩
 ·refine t.keep b o (s.keep b o e p q) p fun z=>?_
  rcases s.sub b z with z|z|z
  ·exact q z
  ·exact p z
  ·rw[z]at e;exact aq e
 ·rcases t.sub a q with z|z|z
  ·exact s.sub a z
  ·exact .inr (.inl z)
  ·exact qZ s z
 ·refine aH (t.heads k as z e) fun as' e' q=>?_
  refine aH (s.heads k as' z e') fun Rv Y9 q'=>?_;exact⟨Rv,Y9,q'.trans q⟩
theorem Sp.trans(s:Sp aa al h al' h')(t:Sp aa al' h' dG gB):Sp aa al h dG gB:=by
 refine⟨(Sq.trans (pm:=[]) s.sq t.sq).keep,(Sq.trans (pm:=[]) s.sq t.sq).sub,fun k as e=>?_⟩;refine aH (t.heads k as e) fun as' e' q=>?_;refine aH (s.heads k as' e') fun Rv Y9 q'=>?_;exact⟨Rv,Y9,q'.trans q⟩
theorem Sp.ext(k:∀b o,h.get? b=some o->h'.get? b=some o):Sp aa al h al h':=
 ⟨fun b o e _ _=>k b o e,fun _ q=> .inl q,fun _ as' e=>⟨as',e,rfl⟩⟩
theorem aO{a:Addr}:a∈Ob F aa al↔a∈F∨a∈aa.flatten∨a∈flat al:=by
 simp[Ob,bR]
theorem Sq.aU(s:Sq pm aa al h al' h'):cM h (Ob F aa al) h' (Ob F aa al') (aa.flatten++flat al):=by
 refine⟨fun b o e q=>?_,fun b o e q=>?_,fun b q=>?_⟩
 ·rw[bR]at q
  exact s.keep b o e (fun z=>q (.inl z)) fun z=>q (.inr z)
 ·rw[aO]at q ⊢
  rintro(z|z|z)
  ·exact q (.inl z)
  ·exact q (.inr (.inl z))
  ·rcases s.sub b z with z|z|z
   ·exact q (.inr (.inr z))
   ·exact q (.inr (.inl z))
   ·rw[z]at e;exact aq e
 ·rw[bR]at q
  exact aO.mpr (.inr q)
theorem Sq.tree{pm:List Str}(s:Sq pm aa al h al' h'){m v}(t:Tree h (Ob F aa al) m v):Tree h' (Ob F aa al') m v:=t.aU s.aU
theorem Sq.trees(s:Sq pm aa al h al' h'){m v}(t:aQ h (Ob F aa al) m v):aQ h' (Ob F aa al') m v:=t.aU s.aU
set_option tactic.hygienic true in
theorem cS.aU{m v}(S:cM h O h' O' W)(hd:∀k as',look al' k=some as'->(∃as,look al k=some as/\as.head?=as'.head?))(x:cS h O al m v):cS h' O' al' m v:=by
 induction m using MV.casesOn<;>first|exact Tree.aU S x|skip
 rename_i k;intro as' e;refine aH (hd k as' e) fun as e1 q=>?_;refine cF (x as e1) fun a r o2 o3=>?_;clear e1;obtain rfl:=o2;clear x;obtain rfl:=o3
 induction as' using List.casesOn with
 |nil=>cases q
 |cons b r'=>cases q;exact⟨_,_,rfl,rfl⟩
theorem wG.aU{env f ps}(S:cM h O h' O' W)(hd:∀k as',look al' k=some as'->(∃as,look al k=some as/\as.head?=as'.head?))(hp:∀b o,b∈ps->h.get? b=some o->h'.get? b=some o)
  (x:wG h O al env f ps):wG h' O' al' env f ps:=by
 refine⟨x.base,x.mem,?_,fun y hy=>?_,x.apart,x.mark⟩
 ·refine aH (x.ns) fun m o1 q=>?_
  refine fq (o1) fun o es ep ho r=>?_;try clear o1;refine⟨m,⟨o,es,ep,hp _ _ x.mem ho,r⟩,fun y mv a b=>?_⟩;refine aH (q y mv a b) fun v c d=>?_;exact⟨v,c,d.aU S hd⟩
 ·refine kP (x.cells y hy) fun c ov a b n o5 q=>?_
  refine aH (o5) fun o ho d=>?_;try clear o5;refine⟨c,ov,a,b,n,⟨o,hp _ _ b ho,d⟩,fun mv e=>?_⟩;refine aH (q mv e) fun v c d=>?_;exact⟨v,c,d.aU S hd⟩
theorem jM.aU(S:cM h O h' O' W)(hd:∀k as',look al' k=some as'->(∃as,look al k=some as/\as.head?=as'.head?)){envs fs aa}(hp:∀b o,b∈aa.flatten->h.get? b=some o->h'.get? b=some o)
  (x:jM h O al envs fs aa):jM h' O' al' envs fs aa:=by
 induction x with
 |nil=>exact .nil
 |cons s c r ih=>
  exact .cons (s.aU S hd fun b o q=>hp b o (by simp only[iU,bR];exact .inl q)) c (ih fun b o q=>hp b o (by simp only[iU,bR];exact .inr q))
theorem cZ:∀{al:Al} {k as},look al k=some as->∀b,b∈as->b∈flat al
 |(k',as')::r,k,as,e,b,hb=>by
  rw[bg]at e;refine bT (k'==k) (fun q=>?_) fun q=>?_
  ·rw[q]at e;cases e;exact cP _ hb
  ·rw[q]at e;exact cO _ (cZ e b hb)
theorem pY.aU(S:cM h O h' O' W){ow al}(hp:∀b o,b∈flat al->h.get? b=some o->h'.get? b=some o)(x:pY h O ow al):pY h' O' ow al:=
 ⟨fun k m e=>let ⟨as,a,b⟩:=x.own k m e;⟨as,a,b.aU S fun c o q=>hp c o (cZ a c q)⟩⟩
theorem pY.look{ow al}(x:pY h O ow al){k m}(e:Mine.look ow k=some m):∃as,Mine.look al k=some as/\c9 h O m as:=x.own k m e
theorem az.gen(X:az F envs aa al st h)(hk:∀b o,h.get? b=some o->b∉F->h'.get? b=some o)(hF:∀b,b∈F'->b∈F∨h.get? b=none)
  (nd:(Ob F' aa al).Nodup) (lt:∀a,a∈F'->(∃o,h'.get? a=some o)/\g.H0.objs.size<=a):az F' envs aa al st h':=by
 have S:cM h (Ob F aa al) h' (Ob F' aa al) F:=by
  refine⟨hk,fun b o e q=>?_,fun b q=>aO.mpr (.inl q)⟩;rw[aO]at q ⊢;rintro(z|z)
  ·rcases hF b z with z|z
   ·exact q (.inl z)
   ·rw[z]at e;exact aq e
  ·exact q (.inr z)
 have nF:∀b,b∈aa.flatten++flat al->b∉F:=fun b q z=>(cg.mp X.nd).2.2 b z b q rfl;refine⟨X.fr.aU S (fun _ as' e=>⟨as',e,rfl⟩) (fun b o q e=>hk b o e (nF b (cP _ q))),X.ow.aU S (fun b o q e=>hk b o e (nF b (cO _ q))),nd,fun a q=>?_,fun a q=>?_,fun b o e=>?_,X.top⟩
 ·rcases bR.mp q with q|q
  ·exact(lt a q).1
  ·refine oE (X.live a (cO _ q)) fun o e=>?_
   exact⟨o,hk a o e (nF a q)⟩
 ·rcases bR.mp q with q|q
  ·exact(lt a q).2
  ·exact X.hi a (cO _ q)
 ·refine hk b o (X.jN b o e) fun q=>?_
  exact kH _ (nu (gD e) (X.hi b (aO.mpr (.inl q))))
theorem az.ext(X:az F envs aa al st h)(hk:∀b o,h.get? b=some o->h'.get? b=some o):az F envs aa al st h':=
 X.gen (fun b o e _=>hk b o e) (fun _ q=> .inl q) X.nd (fun a q=>⟨(X.live a (aO.mpr (.inl q))).imp fun o e=>hk a o e,X.hi a (aO.mpr (.inl q))⟩)
theorem az.push(X:az F envs aa al st h)(o:Obj):az F envs aa al st (h.push o):=X.ext (fun b o' e=>Heap.get?_push_of_some o e)
theorem az.BF(X:az F envs aa al st h)(hk:∀b o,h.get? b=some o->h'.get? b=some o)(N:List Addr)(hN:∀a,a∈N->h.get? a=none/\(∃o,h'.get? a=some o)/\g.H0.objs.size<=a)(nN:N.Nodup):
  az (N++F) envs aa al st h':=by
 refine X.gen (fun b o e _=>hk b o e) (fun b q=>?_) ?_ (fun a q=>?_)
 ·rcases bR.mp q with q|q
  ·exact .inr (hN b q).1
  ·exact .inl q
 ·show(N++F++(aa.flatten++flat al)).Nodup
  rw[dH];refine cg.mpr ⟨nN,X.nd,fun a qa b qb e=>?_⟩;subst e;refine oE (X.live a qb) fun o e=>?_;rw[(hN a qa).1]at e;exact aq e
 ·rcases bR.mp q with q|q
  ·exact(hN a q).2
  ·exact⟨(X.live a (aO.mpr (.inl q))).imp fun o e=>hk a o e,X.hi a (aO.mpr (.inl q))⟩
theorem az.vI{N:List Addr}(X:az (N++F) envs aa al st h):az F envs aa al st h:=by
 refine X.gen (fun b o e _=>e) (fun b q=> .inl (cO _ q)) ?_ (fun a q=>⟨X.live a (aO.mpr (.inl (cO _ q))),X.hi a (aO.mpr (.inl (cO _ q)))⟩);have z:(N++F++(aa.flatten++flat al)).Nodup:=X.nd;rw[dH]at z;exact(cg.mp z).2.1
theorem az.big(X:az F envs aa al st h):g.H0.objs.size<=h.objs.size:=by
 refine cF (X.top) fun t o e q=>?_;exact aI q (Nat.succ_le_of_lt (gD (X.jN t o e)))
theorem eW{h:Heap}:h.get? h.objs.size=none:=Heap.get?_none_of_le (gK _)
theorem az.AG(X:az F envs aa al st h):h.objs.size∉Ob F aa al:=fun q=>by
 refine oE (X.live _ q) fun o e=>?_;rw[eW]at e;exact aq e
end
variable{env:Env}{aY:St}
section
structure bz(A:Around)(d n:Nat)(tb:Bool):Prop where
 depth:A.depth+3 * d+20<=600
 units:A.units+8 * (40 * d+n)+200<=9000
 handled:A.handled=none
 AH:tb=true->tU A
theorem bz.le{A:Around}{d n m:Nat}{tb:Bool}(R:bz A d n tb)(q:m<=n):bz A d m tb:=⟨R.depth,aI (eX (gn (jj 8 (gn q _)) _) _) R.units,R.handled,R.AH⟩
inductive vU(F:List Addr)(envs:List Env)(aa:List (List Addr))(al:Al)(st:St)(h:Heap):MV->Bool->Value->List Addr->Prop
 |tree {m fr v:_}:Tree h (Ob F aa al) m v->(fr=true->ji m=false)->vU F envs aa al st h m fr v []
 |own {k fr v:_}:cS h (Ob F aa al) al (.own k) v->vU F envs aa al st h (.own k) fr v []
 |fresh {m as a:_}:az ((a::as)++F) envs aa al st h->c9 h (Ob ((a::as)++F) aa al) m (a::as)->vU F envs aa al st h m true (.ref a) (a::as)
def uE(aa:List (List Addr))(al:Al)(h:Heap)(N:List Addr):Prop:=∀b,b∈N->b∈flat al∨b∈aa.flatten∨h.get? b=none
def gf(F:List Addr)(envs:List Env)(aa:List (List Addr))(bM:Al)(h0:Heap)(al:Al)(st:St)(h:Heap)(m:MV)(fr:Bool)(v:Value):Prop:=
 ∃N,vU F envs aa al st h m fr v N/\uE aa bM h0 N
theorem uE.nil:uE aa al h []:=fun _ q=>nomatch q
theorem gf.tree{bM h0 m fr v}(t:Tree h (Ob F aa al) m v)(q:fr=true->ji m=false):gf F envs aa bM h0 al st h m fr v:=⟨[],.tree t q,uE.nil⟩
theorem gf.own{bM h0 k fr v}(x:cS h (Ob F aa al) al (.own k) v):gf F envs aa bM h0 al st h (.own k) fr v:=⟨[],.own x,uE.nil⟩
theorem uE.base{pm bM h0 N}(s:Sq pm aa bM h0 al h)(q:uE aa al h N):uE aa bM h0 N:=fun b hb=>by
 rcases q b hb with z|z|z
 ·exact s.sub b z
 ·exact .inr (.inl z)
 ·exact qZ s z
theorem gf.base{pm bM h0 m fr v}(s:Sq pm aa bM h0 al h)(r:gf F envs aa al h al' st h' m fr v):gf F envs aa bM h0 al' st h' m fr v:=
 let ⟨N,a,b⟩:=r
 ⟨N,a,b.base s⟩
def A9(h:Heap)(O:List Addr)(al:Al):MV->Value->Prop
 | .own k,v=>cS h O al (.own k) v
 |m,v=>vp m=true->Tree h O m v
def Uu:MV->Bool
 | .obj _ fs=> !gY fs
 |_=>false
set_option tactic.hygienic true in
theorem OQ{m:MV}(q:Uu m=true):vp m=false:=by
 induction m using MV.casesOn<;>first|exact aP q|skip
 rename_i c fs;show gY fs=false;cases z:gY fs with
 |false=>rfl
 |true=>
  have q:(!gY fs)=true:=q;rw[z]at q;exact aP q
inductive cN(h:Heap)(O:List Addr):MV->Value->Prop
 |tree {m v:_}:Tree h O m v->cN h O m v
 |own {m a as:_}:c9 h O m (a::as)->cN h O m (.ref a)
 |pZ {m v:_}:Uu m=true->cN h O m v
theorem L2{m:MV}{as:List Addr}{a:Addr}(X:az ((a::as)++F) envs aa al st h)(o:c9 h (Ob ((a::as)++F) aa al) m (a::as))(t:mK m=true):Tree h (Ob F aa al) m (.ref a):=by
 refine o.toTree t (fun b q z=>?_) fun b q=>?_
 ·have w:=X.nd
  rw[Ob,dH]at w;exact(cg.mp w).2.2 b q b z rfl
 ·rw[aO]at q ⊢
  rcases q with q|q
  ·exact .inl (cO _ q)
  ·exact .inr q
theorem gf.jE{bM h0 m fr v}(r:gf F envs aa bM h0 al st h m fr v):A9 h (Ob F aa al) al m v:=by
 obtain⟨N,r,-⟩:=r
 induction r using vU.casesOn with
 |tree t _=>have t':=t;induction t using Tree.casesOn<;>exact fun _=>t'
 |own x=>exact x
 |fresh X o=>
  have go:=L2 X o;cases o with
  |lst=>exact fun _=>go rfl
  |fV=>exact fun q=>by exact aP q
  |dX=>exact fun _=>go rfl
  |jd=>exact fun _=>go rfl
  |obj=>exact fun q=>go q
set_option tactic.hygienic true in
theorem A9.sp{m v}(s:Sp aa al h al' h')(x:A9 h (Ob F aa al) al m v):A9 h' (Ob F aa al') al' m v:=by
 induction m using MV.casesOn<;>first|exact fun q=>(s.sq (pm:=[])).tree (x q)|skip
 rename_i k;have y:cS h (Ob F aa al) al (.own k) v:=x;have z:cS h' (Ob F aa al') al' (.own k) v:=y.aU ((s.sq (pm:=[])).aU (F:=F)) s.heads;exact z
theorem gf.AI{bM h0 m fr v}(r:gf F envs aa bM h0 al st h m fr v)(s:Sp aa al h al' h'):A9 h' (Ob F aa al') al' m v:=r.jE.sp s
set_option tactic.hygienic true in
theorem gG{m:MV}{v:Value}{k:MV->Option α}{ah:α}(X:az F envs aa al st h)(x:A9 h (Ob F aa al) al m v)(e:cU m st k=some ah):
  ∃c,k c=some ah/\cN h (Ob F aa al) c v:=by
 have plain:∀m,(∀k',m≠ .own k')->cU m st k=some ah->A9 h (Ob F aa al) al m v->∃c,k c=some ah/\cN h (Ob F aa al) c v:=by
  intro m hm e x;refine⟨m,?_,?_⟩
  ·induction m using MV.casesOn<;>first|exact e|exact absurd rfl (hm _)|exact aq e
  ·refine bE (vp m) (fun q=>?_) fun q=>?_
   ·
    refine .pZ ?_
    induction m using MV.casesOn<;>first|exact absurd rfl (hm _)|(cases e;done)|(cases q;done)|skip
    rename_i c fs;have q:gY fs=false:=q;show(!gY fs)=true;rw[q]
    rfl
   ·induction m using MV.casesOn<;>first|exact .tree (x q)|exact absurd rfl (hm _)
 induction m using MV.casesOn with
 |own y=>
  unfold cU at e
  try dsimp only at e
  refine aH (mOptM e) fun c q e9=>?_;clear e;revert e9;intro e
  ·
   obtain⟨as,ha,o⟩:=X.ow.look q;have x':cS h (Ob F aa al) al (.own y) v:=x;obtain⟨a,r,rfl,rfl⟩:=x' as ha;exact⟨c,e,.own o⟩
 |_=>exact plain _ (fun _ z=>by cases z) e x
theorem cN.int{i v}(c:cN h O (.int i) v):∃t,v= .int i t:=by
 induction c using cN.casesOn with
 |tree t=>cases t;exact⟨_,rfl⟩
 |own o=>exact o.no rfl
 |pZ q=>exact aP q
theorem cN.bool{i v}(c:cN h O (.bool i) v):v= .bool i:=by
 induction c using cN.casesOn with
 |tree t=>cases t;rfl
 |own o=>exact o.no rfl
 |pZ q=>exact aP q
theorem cN.none{v}(c:cN h O .none v):v= .none:=by
 induction c using cN.casesOn with
 |tree t=>cases t;rfl
 |own o=>exact o.no rfl
 |pZ q=>exact aP q
theorem cN.str{x v}(c:cN h O (.str x) v):∃t,v= .str x t:=by
 induction c using cN.casesOn with
 |tree t=>cases t;exact⟨_,rfl⟩
 |own o=>exact o.no rfl
 |pZ q=>exact aP q
theorem cN.bytes{x v}(c:cN h O (.bytes x) v):∃(b:Array UInt8) (t:Tok),v= .bytes b t/\x=b.toList.map UInt8.toNat:=by
 induction c using cN.casesOn with
 |tree t=>cases t;exact⟨_,_,rfl,rfl⟩
 |own o=>exact o.no rfl
 |pZ q=>exact aP q
theorem cN.lst{l v}(c:cN h O (.lst l) v):∃a o vs n,v= .ref a∧h.get? a=some o∧o.cls= .type "list" ∧o.data= .seq vs n∧aQ h O l vs.toList:=by
 induction c using cN.casesOn with
 |tree t=>cases t;exact⟨_,_,_,_,rfl,by assumption,by assumption,by assumption,by assumption⟩
 |own o=>cases o;exact⟨_,_,_,_,rfl,by assumption,by assumption,by assumption,by assumption⟩
 |pZ q=>exact aP q
theorem cN.tup{l v}(c:cN h O (.tup l) v):∃a o vs n,v= .ref a∧h.get? a=some o∧o.cls= .type "tuple" ∧o.data= .seq vs n∧aQ h O l vs.toList:=by
 induction c using cN.casesOn with
 |tree t=>cases t;exact⟨_,_,_,_,rfl,by assumption,by assumption,by assumption,by assumption⟩
 |own o=>exact o.no rfl
 |pZ q=>exact aP q
theorem cN.gk{d v}(c:cN h O (.gk d) v):∃a,v= .ref a/\(a==sysModules)=false/\((∃kvs,h.DictOf (intKind g.prog g.w) a kvs/\uD d kvs)∨(∃kvs,h.DictOf (strKind g.prog g.w) a kvs/\vG d kvs)):=by
 induction c using cN.casesOn with
 |tree t=>cases t with
  |dX d _ m r=>exact⟨_,rfl,m,.inl ⟨_,d,r⟩⟩
  |jd d _ m r=>exact⟨_,rfl,m,.inr ⟨_,d,r⟩⟩
 |own o=>cases o with
  |dX d m r=>exact⟨_,rfl,m,.inl ⟨_,d,r⟩⟩
  |jd d m r=>exact⟨_,rfl,m,.inr ⟨_,d,r⟩⟩
 |pZ q=>exact aP q
structure dQ(s s':Shared):Prop where
 gens:s'.gens=s.gens
 drawn:s'.drawn=s.drawn
 os:s'.os=s.os
theorem dQ.refl{s:Shared}:dQ s s:=⟨rfl,rfl,rfl⟩
theorem dQ.trans{s s' dU:Shared}(a:dQ s s')(b:dQ s' dU):dQ s dU:=⟨b.gens.trans a.gens,b.drawn.trans a.drawn,b.os.trans a.os⟩
def aF:Value->Shared->Prop:=fun _ _=>False
variable{α:Type}
inductive d9(F:List Addr)(envs:List Env)(aa:List (List Addr))(al:Al)(s:Shared)(k:MV->Bool->St->Option α)(ah:α)(v:Value)(s':Shared):Prop
 |mk (m:_) (fr:_) (aY:_) (al':_) (h0:k m fr aY=some ah) (h1:az F envs aa al' aY s'.heap) (h2:gf F envs aa al s.heap al' aY s'.heap m fr v) (h3:Sp aa al s.heap al' s'.heap) (h4:dQ s s'):d9 F envs aa al s k ah v s'
inductive lH(F:List Addr)(envs:List Env)(aa:List (List Addr))(al:Al)(s:Shared)(k:Bool->St->Option α)(ah:α)(b:Bool)(s':Shared):Prop
 |mk (aY:_) (al':_) (h0:k b aY=some ah) (h1:az F envs aa al' aY s'.heap) (h2:Sp aa al s.heap al' s'.heap) (h3:dQ s s'):lH F envs aa al s k ah b s'
inductive mS(F:List Addr)(envs:List Env)(aa:List (List Addr))(bM:Al)(h0:Heap)(al:Al)(st:St)(h:Heap):cI->Flow->Prop
 |aL:mS F envs aa bM h0 al st h .aL .next
 |ret {m fr v:_}:gf F envs aa bM h0 al st h m fr v->mS F envs aa bM h0 al st h (.ret m fr) (.ret v)
inductive gQ(pm:List Str)(F:List Addr)(envs:List Env)(aa:List (List Addr))(al:Al)(s:Shared)(k:cI->St->Option α)(ah:α)(f:Flow)(s':Shared):Prop
 |mk (w:_) (aY:_) (al':_) (h0:k w aY=some ah) (h1:az F envs aa al' aY s'.heap) (h2:mS F envs aa al s.heap al' aY s'.heap w f) (h3:Sq pm aa al s.heap al' s'.heap) (h4:dQ s s'):gQ pm F envs aa al s k ah f s'
structure bU(d n:Nat)(tb:Bool)(pm:List Str)(Ba:Ev):Prop where
 ex:∀{e st k ah},Ba.ex e st k=some ah->∀{A env envs F aa al s},bz A d n tb->az F (env::envs) aa al st s.heap->aE (model g.prog g.w) A (eval e env) (d9 F (env::envs) aa al s k ah) aF s
 ts:∀{e st k ah},Ba.ts e st k=some ah->∀{A env envs F aa al s},bz A d n tb->az F (env::envs) aa al st s.heap->aE (model g.prog g.w) A (isTrue e env (eval e env)) (lH F (env::envs) aa al s k ah) aF s
 st:∀{c st k ah},Ba.st c st k=some ah->∀{A env envs F aa al s},bz A d n tb->az F (env::envs) aa al st s.heap->aE (model g.prog g.w) A (exec c env) (gQ pm F (env::envs) aa al s k ah) aF s
end
section
variable{β:Type}
theorem iG (l : List (Str × β)) (k x : Str) : look (del l k) x = if k = x then Option.none else look l x := by
  induction l with
  | nil => by_cases h : k = x; · rw [if_pos h]; rfl
           · rw [bG h]; rfl
  | cons p r ih =>
    obtain ⟨y, v⟩ := p
    rw [xu]
    by_cases q : y = k
    · subst q
      rw [j0, ir, ih, bg]
      by_cases h : y = x
      · rw [if_pos h, if_pos h]
      · rw [bG h, bG h, ur h]; rfl
    · rw [ur q, bN, bg, bg, ih]
      by_cases h : y = x
      · clear ih
        subst h
        rw [j0, bG (Ne.symm q), bG (Ne.symm q)]
      · rw [ur h]; rfl
variable{k:Str}
theorem j4{l:List (Str×β)}{x:Str}{v:β}(e:look (del l k) x=some v):¬k=x/\look l x=some v:=by
 rw[iG]at e
 by_cases q:k=x
 ·rw[if_pos q]at e;exact aq e
 ·rw[bG q]at e;exact⟨q,e⟩
theorem jO(k:Str)(v:β)(l:List (Str×β))(x:Str):look (dJ l k v) x=if k=x then some v else look l x:=by
 induction l with
 |nil=>
  show cond (k==x) (some v) Option.none=_
  by_cases h:k=x
  ·rw[if_pos h,h,j0];rfl
  ·rw[bG h,ur h];rfl
 |cons p r ih=>
  obtain⟨y,u⟩:=p;rw[Rj]
  by_cases q:y=k
  ·clear ih
   subst q;rw[j0,ir,bg,bg]
   by_cases h:y=x
   ·rw[if_pos h,h,j0];rfl
   ·rw[bG h,ur h];rfl
  ·rw[ur q,bN,bg,bg,ih]
   by_cases h:y=x
   ·clear ih
    subst h;rw[j0,bG (Ne.symm q),bG (Ne.symm q)]
   ·rw[ur h];rfl
noncomputable def L5(k:Str)(c:MV):MV->MV
 | .own k'=>cond (k'==k) c (.own k')
 |m=>m
theorem uF(k:Str)(c:MV)(l:List (Str×MV))(x:Str):look (ud k c l) x=(look l x).map (L5 k c):=by
 induction l with
 |nil=>rfl
 |cons p r ih=>
  obtain⟨y,u⟩:=p;have e:ud k c ((y,u)::r)=(y,L5 k c u)::ud k c r:=by induction u using MV.casesOn<;>rfl
  rw[e,bg,bg,ih];cases y==x<;>rfl
theorem pY.del(k:Str){ow al}(x:pY h O ow al):pY h O (Mine.del ow k) (Mine.del al k):=⟨fun y m e=>by
 have q:=(j4 e).1;have e:=(j4 e).2
 ·
  refine aH (x.own y m e) fun as a b=>?_;exact⟨as,by rw[iG,bG q];exact a,b⟩⟩
theorem eY{a:Addr}(k:Str){al:Al}:a∈flat (del al k)->a∈flat al:=by
 induction al with
 |nil=>exact id
 |cons p r ih=>
  obtain⟨k',as⟩:=p;rw[xu];cases k'==k with
  |true=>exact fun q=>cO _ (ih q)
  |false=>exact fun q=>(bR.mp q).elim (fun q=>cP _ q) fun q=>cO _ (ih q)
theorem je(k:Str)(al:Al):(flat (del al k)).Sublist (flat al):=by
 induction al with
 |nil=>exact .refl _
 |cons p r ih=>
  obtain⟨k',as⟩:=p;rw[xu];cases k'==k with
  |true=>exact ih.trans (List.sublist_append_right _ _)
  |false=>exact(j5 as).append ih
theorem jg{al:Al}:∀{as:List Addr},(flat al).Nodup->look al k=some as->∀a,a∈as->a∉flat (del al k):=by
 induction al with
 |nil=>intro as _ e;exact nomatch e
 |cons p r ih=>
  obtain⟨k',bs⟩:=p;intro as nd e a q;refine dh (cg.mp nd) fun n1 n2 n3=>?_;rw[bg]at e;rw[xu];cases z:k'==k with
  |true=>
   rw[z]at e;have eO:=dm e;clear e;obtain rfl:=eO;exact fun y=>n3 a q a (eY k y) rfl
  |false=>
   rw[z]at e;exact fun y=>(bR.mp y).elim (fun y=>n3 a y a (cZ e a q) rfl) (ih n2 e a q)
theorem L7(X:az F envs aa al st h):(flat al).Nodup:=(cg.mp (cg.mp X.nd).2.1).2.1
variable{m:MV}{v:Value}{as:List Addr}
theorem cS.L8{c:MV}(S:cM h O h O' [])(e:look al k=some as)(t:∀a r,as=a::r->Tree h O' c (.ref a))(x:cS h O al m v):cS h O' (del al k) (L5 k c m) v:=by
 induction m using MV.casesOn with
 |own k'=>
  show cS h O' (del al k) (cond (k'==k) c (.own k')) v;cases q:k'==k with
  |true=>
   have:k'=k:=eq_of_beq q;clear q;subst this;refine cF (x as e) fun a r o2 o3=>?_;clear e;obtain rfl:=o2;clear x;obtain rfl:=o3;have:=t a r rfl;rw[ir]
   induction c using MV.casesOn<;>first|exact this|exact this.no rfl
  |false=>
   intro as' e';have e':=(j4 e').2
   ·exact x as' e'
 |_=>exact Tree.aU S x
theorem jM.L8{c:MV}(S:cM h O h O' [])(e:Mine.look al k=some as)(ne:∃a r,as=a::r)(t:∀a r,as=a::r->Tree h O' c (.ref a)){envs fs aa}(x0:jM h O al envs fs aa):jM h O' (Mine.del al k) envs (Ht k c fs) aa:=by
 induction x0 with
 |nil=>exact .nil
 |cons s cl r ih=>
  refine .cons ⟨s.base,s.mem,?_,fun x hx=>?_,s.apart,fun x k' hx=>?_⟩ cl ih
  ·refine aH (s.ns) fun m hn q=>?_
   refine⟨m,hn,fun x mv a b=>?_⟩;rw[uF]at b;refine aH (Option.map_eq_some_iff.mp b) fun HQ hb o2=>?_;clear b;obtain rfl:=o2;refine aH (q x HQ a hb) fun v h1 h2=>?_;exact⟨v,h1,h2.L8 S e t⟩
  ·refine kP (s.cells x hx) fun cc ov h1 h2 h3 h4 q=>?_
   refine⟨cc,ov,h1,h2,h3,h4,fun mv b=>?_⟩;rw[uF]at b;refine aH (Option.map_eq_some_iff.mp b) fun HQ hb o2=>?_;clear b;obtain rfl:=o2;refine aH (q HQ hb) fun v h1 h2=>?_;exact⟨v,h1,h2.L8 S e t⟩
  ·rw[uF]at hx
   refine aH (Option.map_eq_some_iff.mp hx) fun HQ hb hx9=>?_;try clear hx;revert hx9;intro hx
   induction HQ using MV.casesOn with
   |own Za=>
    have uG:cond (Za==k) c (.own Za)= .own k':=hx;refine bT (Za==k) (fun q=>?_) fun q=>?_
    ·
     rw[q,ir]at uG;clear hx;subst uG;refine tD (ne) fun a r' hr=>?_;try clear ne;have:=t a r' hr;exact this.no rfl
    ·rw[q,bN]at uG;cases uG;exact s.mark _ _ hb
   |_=>cases hx
theorem az.freeze{c:MV}(X:az F envs aa al st h)(e:look st.ow k=some c)(tr:mK c=true):
  ∃a as,look al k=some (a::as)/\az F envs aa (del al k) (Mine.freeze k c st) h/\Tree h (Ob F aa (del al k)) c (.ref a)/\Sp aa al h (del al k) h:=by
 refine aH (X.ow.look e) fun as ha o=>?_;refine tD (o.ne_nil) fun a r o2=>?_;obtain rfl:=o2;have sub:∀b,b∈Ob F aa (del al k)->b∈Ob F aa al:=fun b q=>by
  rw[aO]at q ⊢
  rcases q with q|q|q
  ·exact .inl q
  ·exact .inr (.inl q)
  ·exact .inr (.inr (eY k q))
 have S:cM h (Ob F aa al) h (Ob F aa (del al k)) []:=⟨fun _ _ e _=>e,fun _ _ _ q z=>q (sub _ z),fun _ q=>nomatch q⟩;have tree:Tree h (Ob F aa (del al k)) c (.ref a):=by
  refine o.toTree tr (fun b q z=>?_) sub;rw[aO]at z;have q':=cZ ha b q
  rcases z with z|z|z
  ·exact(cg.mp X.nd).2.2 b z b (cO _ q') rfl
  ·exact(cg.mp (cg.mp X.nd).2.1).2.2 b z b q' rfl
  ·exact jg (L7 X) ha b q z
 refine⟨a,r,ha,⟨X.fr.L8 S ha ⟨_,_,rfl⟩ fun a' r' q=>by cases q;exact tree,(X.ow.aU S fun _ _ _ e=>e).del k,?_,fun b q=>X.live b (sub b q),fun b q=>X.hi b (sub b q),X.jN,X.top⟩,tree,
  ⟨fun _ _ e _ _=>e,fun b q=> .inl (eY k q),fun k' as' q=>?_⟩⟩
 ·exact X.nd.sublist ((j5 F).append ((j5 _).append (je k al)))
 ·rw[iG]at q
  split at q
  ·exact aq q
  ·exact⟨as',q,rfl⟩
theorem gq{k:MV->St->Option α}{ah:α}(X:az F envs aa al st h)(x:A9 h (Ob F aa al) al m v)(e:bW m st k=some ah):
  ∃t aY al',k t aY=some ah/\az F envs aa al' aY h/\Tree h (Ob F aa al') t v/\Sp aa al h al' h:=by
 induction m using MV.casesOn with
 |own y=>
  have e:(match look st.ow y with|some c=>cond (mK c) (k c (freeze y c st)) Option.none|Option.none=>Option.none)=some ah:=e;refine nE (look st.ow y) (fun q=>?_) fun c q=>?_
  ·rw[q]at e;exact aq e
  ·
   rw[q]at e;refine bE (mK c) (fun tr=>?_) fun tr=>?_
   ·exact aq ((bq (fun b=>cond b _ _) tr).symm.trans e)
   ·
    have e:=(bq (fun b=>cond b (k c (freeze y c st)) Option.none) tr).symm.trans e;refine mJ (X.freeze q tr) fun a as ha X' t s=>?_;have x':cS h (Ob F aa al) al (.own y) v:=x;refine cF (x' _ ha) fun a' r q1 o3=>?_;obtain rfl:=o3
    (first|exact aq q1|exact aP q1|cases q1)
    exact⟨c,_,_,e,X',t,s⟩
 |dI=>exact aq e
 |fV=>exact aq e
 |obj c fs=>
  refine oA (aG (show cond (gY fs) (k (.obj c fs) st) Option.none=some ah from e)) fun tr e9=>?_;try clear e;revert e9;intro e;exact⟨_,_,_,e,X,x tr,.refl⟩
 |_=>exact⟨_,_,_,e,X,x rfl,.refl⟩
end
variable{s s':Shared}{A:Around}{d n:Nat}{tb:Bool}{consts:List (Str×Int)}
section
inductive j6(F:List Addr)(envs:List Env)(aa:List (List Addr))(al:Al)(st:St)(s:Shared)(fr:Bool)(k:MV->Option α)(ah:α)(v:Value)(s':Shared):Prop
 |mk (m:_) (h0:k m=some ah) (h1:az F envs aa al st s'.heap) (h2:gf F envs aa al s.heap al st s'.heap m fr v) (h3:Sp aa al s.heap al s'.heap) (h4:dQ s s'):j6 F envs aa al st s fr k ah v s'
inductive Cv(F:List Addr)(envs:List Env)(aa:List (List Addr))(al:Al)(st:St)(s:Shared)(k:Bool->Option α)(ah:α)(v:Value)(s':Shared):Prop
 |mk (b:_) (h0:v= .bool b) (h1:k b=some ah) (h2:az F envs aa al st s'.heap) (h3:Sp aa al s.heap al s'.heap) (h4:dQ s s'):Cv F envs aa al st s k ah v s'
variable{k:MV->Option α}{ah:α}{v:Value}
theorem cK{m:MV}{fr:Bool}{t:Nat}(X:az F envs aa al st s.heap)(e:k m=some ah)(tr:Tree s.heap (Ob F aa al) m v)(q:fr=true->ji m=false):
  j6 F envs aa al st s fr k ah v {s with toks:=t}:=⟨m,e,X,.tree tr q,.refl,⟨rfl,rfl,rfl⟩⟩
theorem iV{b:Bool}{k:Bool->Option α}{t:Nat}(X:az F envs aa al st s.heap)(e:k b=some ah):Cv F envs aa al st s k ah (.bool b) {s with toks:=t}:=⟨b,rfl,e,X,.refl,⟨rfl,rfl,rfl⟩⟩
theorem cM.ext(k:∀b o,h.get? b=some o->h'.get? b=some o):cM h O h' O []:=⟨fun b o e _=>k b o e,fun _ _ _ q=>q,fun _ q=>nomatch q⟩
theorem Tree.ext(k:∀b o,h.get? b=some o->h'.get? b=some o){m v}(t:Tree h O m v):Tree h' O m v:=t.aU (cM.ext k)
theorem aQ.ext(k:∀b o,h.get? b=some o->h'.get? b=some o){m v}(t:aQ h O m v):aQ h' O m v:=t.aU (cM.ext k)
theorem cM.Ma{N:List Addr}(X:az F envs aa al st h)(k:∀b o,h.get? b=some o->h'.get? b=some o)(hN:∀a,a∈N->h.get? a=none):cM h (Ob F aa al) h' (Ob (N++F) aa al) []:=by
 refine⟨fun b o e _=>k b o e,fun b o e q=>?_,fun _ q=>nomatch q⟩;rw[aO]at q ⊢;rintro(z|z)
 ·rcases bR.mp z with z|z
  ·rw[hN b z]at e;exact aq e
  ·exact q (.inl z)
 ·exact q (.inr z)
variable{l:List MV}
theorem Mb{vs:List Value}(X:az F envs aa al st h)(t:aQ h (Ob F aa al) l vs):
  gf F envs aa al h al st (h.push {cls:= .type "list",data:= .seq vs.toArray}) (.lst l) true (.ref h.objs.size):=by
 have k:∀b o,h.get? b=some o→(h.push {cls:= .type "list",data:= .seq vs.toArray}).get? b=some o:=fun b o e=>Heap.get?_push_of_some _ e;refine⟨[h.objs.size],.fresh (as:=[]) (X.BF k [h.objs.size] (fun a q=>?_) (by simp)) (.lst (Heap.get?_push_size _ rfl) rfl rfl rfl ?_),fun b q=>by rcases bQ.mp q with rfl;exact .inr (.inr eW)⟩
 ·rcases cC.mp q with rfl|q
  ·exact⟨eW,⟨_,Heap.get?_push_size _ rfl⟩,X.big⟩
  ·exact nomatch q
 ·exact t.aU (cM.Ma X k (N:=[h.objs.size]) fun a q=>by rcases cC.mp q with rfl|q;exact eW;exact nomatch q)
theorem J1{vs:List Value}(X:az F envs aa al st h)(t:aQ h (Ob F aa al) l vs):
  Tree (h.push {cls:= .type "tuple",data:= .seq vs.toArray}) (Ob F aa al) (.tup l) (.ref h.objs.size):=
 .tup (Heap.get?_push_size _ rfl) rfl rfl X.AG (t.ext fun b o e=>Heap.get?_push_of_some _ e)
theorem tV{vs:List Value}{t:Nat}(X:az F envs aa al st s.heap)(e:k (.lst l)=some ah)(tr:aQ s.heap (Ob F aa al) l vs):
  j6 F envs aa al st s true k ah (.ref s.heap.objs.size) {s with heap:=s.heap.push {cls:= .type "list",data:= .seq vs.toArray},toks:=t}:=
 ⟨_,e,X.push _,Mb X tr,Sp.ext (fun b o e=>Heap.get?_push_of_some _ e),⟨rfl,rfl,rfl⟩⟩
variable{a:Int}
theorem yf(q:small a=true):Builtin.Int.intBits a<=64:=by
 simp only[small,oG,decide_eq_true_eq]at q;exact X.bits_is (n:=Builtin.Int.intBits a) rfl▸X.bits_le (by lia) (by lia)
variable{b:Int}
theorem D3(q:(small a||small b)=true):IntMulOk a b:=by
 unfold IntMulOk;intro z;simp only[oG,decide_eq_true_eq]at z;refine oA (z) fun o0 _=>?_;try clear z;refine oA (o0) fun z1 z2=>?_;try clear o0;have:shortFactorBits=64:=rfl
 rcases Bool.or_eq_true_iff.mp q with q|q
 ·have:=yf q;lia
 ·have:=yf q;lia
theorem Uv(h: -18446744073709551616<b/\b<=18446744073709551615):b.natAbs<2 ^ 64:=by
 induction b using Int.casesOn with
 |ofNat n=>exact Nat.lt_succ_of_le (Int.ofNat_le.mp h.2)
 |negSucc n=>exact Int.ofNat_lt.mp (Int.lt_of_neg_lt_neg (show -18446744073709551616< -((n+1:Nat):Int)from h.1))
theorem Rw(q:small b=true):Builtin.divisionGoesByPylong a b=false:=by
 have hb:=q;simp only[small,oG,decide_eq_true_eq]at hb;unfold Builtin.divisionGoesByPylong;have:¬((if b==0 then 0 else b.natAbs.log2 / 30+1)>300):=by
  split
  ·exact Nat.not_lt_zero 300
  ·have hn:b.natAbs<2 ^ 64:=Uv hb
   have h0:b.natAbs≠0:=by
    rename_i hz;intro e;apply hz;have:b=0:=by exact Int.natAbs_eq_zero.mp e
    simp[this]
   exact Nat.not_lt.mpr (Nat.succ_le_of_lt (kJ (Nat.div_le_self _ _) (Nat.lt_trans ((Nat.log2_lt h0).mpr hn) (by decide))))
 simp only[this,decide_false,Bool.false_and]
theorem HR(b c:Array UInt8):b.toList.map UInt8.toNat++c.toList.map UInt8.toNat=(b++c).toList.map UInt8.toNat:=by simp
theorem Mc(b c:Array UInt8)(t:Tok):Tree h O (.bytes (b.toList.map UInt8.toNat++c.toList.map UInt8.toNat)) (.bytes (b++c) t):=by
 rw[HR];exact .bytes _ _
theorem iH:ak<=sizeLine:=by rw[sizeLine_eq];decide
theorem iW(c:cN h O (.lst l) v):∃a vs,v= .ref a/\h.IsList a vs/\aQ h O l vs.toList:=by
 refine jD (c.lst) fun a o vs n o4 e c1 c2 t=>?_;clear c;obtain rfl:=o4;exact⟨a,vs,rfl,⟨o,e,c1,n,c2⟩,t⟩
theorem Cw{l b:Addr}{K0 D4:Array Value}{Q:Value->Shared->Prop}(ha:s.heap.IsList l K0)(hb:s.heap.IsList b D4)
  (hQ:Q (.ref s.heap.objs.size) {s with heap:=s.heap.push {cls:= .type "list",data:= .seq (K0.toList++D4.toList).toArray}}) (hz:K0.size+D4.size≤sizeLine):
  wpAny (model g.prog g.w) A (binaryOp .Add (.ref l) (.ref b)) Q aF s:=by
 obtain⟨⟨cls,dd,data,sl⟩,ho,hc,n,hd⟩:=id ha;obtain⟨⟨cls2,dd2,data2,Zb⟩,Bb,K2,n2,Fi⟩:=id hb;simp only at hc hd K2 Fi;subst hc hd K2 Fi;have e:K0++D4=(K0.toList++D4.toList).toArray:=by simp
 refine concat_meets ⟨_,ho,rfl⟩ ⟨_,Bb,rfl⟩ noFill_list_add seq_list_add PySem.F.slot_list_add PySem.F.entry_list_add (PySem.F.args_list_add_2 _ _) (list_addW l b K0 D4 n n2 dd dd2 sl Zb hz) ⟨ho,Bb,?_⟩;rw[e];exact hQ
theorem Fj{a:MV}{i:Int}(e:Ck a=some i):a= .int i:=by
 induction a using MV.casesOn<;>first|exact aq e|exact bq MV.int (dm e)
theorem uH{a b:MV}{f:Int->Int->Option α}(e:uv a b f=some ah):∃i j,a= .int i/\b= .int j/\f i j=some ah:=by
 unfold uv at e;refine nE (Ck a) (fun ha=>?_) fun i ha=>?_
 ·rw[ha]at e;exact aq e
 ·
  rw[ha]at e;refine nE (Ck b) (fun hb=>?_) fun j hb=>?_
  ·rw[hb]at e;exact aq e
  ·rw[hb]at e;exact⟨i,j,Fj ha,Fj hb,e⟩
variable{va:Value}
theorem Zc{a b:MV}{vb:Value}(X:az F envs aa al st s.heap)(e:DP a b k=some ah)
  (ca:cN s.heap (Ob F aa al) a va) (cb:cN s.heap (Ob F aa al) b vb):wpAny (model g.prog g.w) A (binaryOp .Add va vb) (j6 F envs aa al st s true k ah) aF s:=by
 induction a using MV.casesOn with
 |int a=>induction b using MV.casesOn with
  |int b=>
   obtain⟨t,rfl⟩:=ca.int;obtain⟨u,rfl⟩:=cb.int;exact add_int (cK X e (.int _ _) (fun _=>rfl))
  |_=>exact aq e
 |str a=>induction b using MV.casesOn with
  |str b=>
   refine oA (aG (c:=decide (a.length+b.length<=ak)) e) fun q e9=>?_;try clear e;revert e9;intro e;obtain⟨t,rfl⟩:=ca.str;obtain⟨u,rfl⟩:=cb.str;exact add_str (fun t' tk=>cK X e (.str _ _) (fun _=>rfl)) (aI (bx q) iH)
  |_=>exact aq e
 |bytes a=>induction b using MV.casesOn with
  |bytes b=>
   refine oA (aG (c:=decide (a.length+b.length<=ak)) e) fun q e9=>?_;try clear e;revert e9;intro e;obtain⟨x,t,rfl,rfl⟩:=ca.bytes;obtain⟨y,u,rfl,rfl⟩:=cb.bytes;have hz:=bx q;simp only[bI,jk]at hz;exact PySem.W.KBy.add_bytes (aI hz iH) (fun t' tk=>cK X e (Mc _ _ _) (fun _=>rfl))
  |_=>exact aq e
 |lst a=>induction b using MV.casesOn with
  |lst b=>
   refine oA (aG (c:=decide (a.length+b.length<=ak)) e) fun q e9=>?_;try clear e;revert e9;intro e;obtain⟨a,vs,rfl,ha,ta⟩:=iW ca;obtain⟨b,ws,rfl,hb,tb⟩:=iW cb;have hz:=bx q;rw[ta.length,tb.length]at hz;exact Cw ha hb (tV (t:=s.toks) X e (ta.append tb)) (aI hz iH)
  |_=>exact aq e
 |_=>exact aq e
theorem Zd{op:Operator}{a b:MV}{vb:Value}(R:bz A d n tb)(X:az F envs aa al st s.heap)(e:Hy op a b k=some ah)
  (ca:cN s.heap (Ob F aa al) a va) (cb:cN s.heap (Ob F aa al) b vb):wpAny (model g.prog g.w) A (binaryOp op va vb) (j6 F envs aa al st s true k ah) aF s:=by
 by_cases ad:op= .Add
 ·subst ad;exact Zc X e ca cb
 have e2:∃i j,a= .int i/\b= .int j:=by
  induction op using Operator.casesOn<;>first|exact aq e|exact absurd rfl ad|(obtain⟨i,j,h1,h2,-⟩:=uH e;exact⟨i,j,h1,h2⟩)
 refine cF (e2) fun i j o2 o3=>?_;try clear e2;obtain rfl:=o2;obtain rfl:=o3;obtain⟨t,rfl⟩:=ca.int;obtain⟨u,rfl⟩:=cb.int
 induction op using Operator.casesOn with
 |Add=>exact absurd rfl ad
 |Sub=>exact sub_int (cK X e (.int _ _) (fun _=>rfl))
 |Mult=>
  refine oA (aG (c:=small i||small j) e) fun q e9=>?_;try clear e;revert e9;intro e;exact mul_int (cK X e (.int _ _) (fun _=>rfl)) (D3 q)
 |FloorDiv=>
  refine oA (aG (c:=decide (0<j)&&small j) e) fun q e9=>?_;try clear e;revert e9;intro e;refine oA (bk.mp q) fun q1 q2=>?_;exact floordiv_int (Int.ne_of_gt (bx q1)) (cK X e (.int _ _) (fun _=>rfl)) (.inl (Rw q2))
 |Mod=>
  refine oA (aG (c:=decide (0<j)&&small j) e) fun q e9=>?_;try clear e;revert e9;intro e;refine oA (bk.mp q) fun q1 q2=>?_;exact mod_int' (Int.ne_of_gt (bx q1)) (cK X e (.int _ _) (fun _=>rfl))
 |Pow=>
  refine oA (aG (c:=decide (i=10)&&decide (j=18)) e) fun q e9=>?_;try clear e;revert e9;intro e;refine oA (bk.mp q) fun q1 q2=>?_;have eO:=bx q1;clear q1 ca;obtain rfl:=eO;have eO:=bx q2;clear q q2 cb;obtain rfl:=eO;exact AutoIntOps.pow_4 (by decide) (by decide) (by decide) (by decide) (by decide +kernel) (cK X e (.int _ _) (fun _=>rfl))
 |_=>exact aq e
end
section
theorem bz.line(R:bz A d n tb):A.units+65+64<cLine:=kJ (eX (eX (aI (aI (Nat.le_add_right _ _) (Nat.le_add_right _ _)) R.units) 65) 64) (by decide)
theorem nB{β:Type}[DecidableEq β](a b:β):(a==b)=decide (a=b):=by
 by_cases h:a=b<;>simp[h]
theorem D5(n:Nat)(e:Nat->Bool):(List.range (n+1)).all e=(e 0&&(List.range n).all fun i=>e (i+1)):=by
 rw[List.range_succ_eq_map,List.all_cons,List.all_map];rfl
theorem K3:∀{x y:List MV},x.length=y.length->(List.range x.length).all (fun j=>i7 (x.getD j .none) (y.getD j .none))=nX x y
 | [],[],_=>rfl
 |a::r,b::q,h=>by
  have ih:=K3 (x:=r) (y:=q) (Nat.succ.inj h);rw[jl,D5];show(i7 a b&&_)=(i7 a b&&nX r q);rw[←ih]
  rfl
theorem VR:∀{x y:List MV},x.length≠y.length->nX x y=false:=by
 intro x1
 induction x1 with
 |nil=>
  intro x2
  induction x2 using List.casesOn with
  |nil=>
   intro h;exact absurd rfl h
  |cons c3 c4=>
   intro _;exact rfl
 |cons a r dR=>
  intro x5
  induction x5 using List.casesOn with
  |nil=>
   intro _;exact rfl
  |cons b q=>
   intro h;show(i7 a b&&nX r q)=false;rw[dR (fun e=>h (bq (· +1) e)),Bool.and_false]
def Ze(x y:List MV):Prop:=∀j,j<x.length->j<y.length->(∃p q,x.getD j .none= .str p/\y.getD j .none= .str q)∨(∃p q,x.getD j .none= .int p/\y.getD j .none= .int q)
variable{a b:MV}{va:Value}
theorem VS{vb:Value}(ta:Tree h O a va)(tb:Tree h O b vb)(q:(∃p q,a= .str p/\b= .str q)∨(∃p q,a= .int p/\b= .int q)):SeqAt.EqAt A s va vb (i7 a b):=by
 rcases q with⟨p,q,rfl,rfl⟩|⟨p,q,rfl,rfl⟩
 ·refine oE (ta.str_inv) fun t o1=>?_
  clear ta;obtain rfl:=o1;refine oE (tb.str_inv) fun u o1=>?_;clear tb;obtain rfl:=o1;exact(eqGives_str p q _ _).at A s
 ·refine oE (ta.int_inv) fun t o1=>?_
  clear ta;obtain rfl:=o1;refine oE (tb.int_inv) fun u o1=>?_;clear tb;obtain rfl:=o1;have e:i7 (.int p) (.int q)=(p==q):=(nB p q).symm;rw[e];exact(MeetsSeq.EqGives.int p q _ _).at A s
variable{x:List MV}
theorem HS{y:List MV}{vs ws:Array Value}(q:Ze x y)(t:aQ h O x vs.toList)(t':aQ h O y ws.toList):
  ∀j (h1:j<vs.size) (h2:j<ws.size),SeqAt.EqAt A s vs[j] ws[j] (i7 (x.getD j .none) (y.getD j .none)):=by
 intro j h1 h2;have l1:=t.length;have l2:=t'.length;simp only[jk]at l1 l2;refine aH (t.get j (by exact Nat.lt_of_lt_of_eq h1 (id (Eq.symm l1)))) fun v e1 tv=>?_;refine aH (t'.get j (by exact Nat.lt_of_lt_of_eq h2 (id (Eq.symm l2)))) fun w e2 tw=>?_;have e1':vs[j]=v:=by
  rw[Array.getElem?_toList,Array.getElem?_eq_getElem h1]at e1;exact dm e1
 have e2':ws[j]=w:=by
  rw[Array.getElem?_toList,Array.getElem?_eq_getElem h2]at e2;exact dm e2
 rw[e1',e2'];exact VS tv tw (q j (by exact Nat.lt_of_lt_of_eq h1 (id (Eq.symm l1))) (by exact Nat.lt_of_lt_of_eq h2 (id (Eq.symm l2))))
theorem HT{l l' va vb}(R:bz A d n tb)(ca:cN s.heap O (.lst l) va)(cb:cN s.heap O (.lst l') vb)(p:Ze l l'):
  (∀Q:Value->Shared->Prop,Q (.bool (nX l l')) s->wpAny (model g.prog g.w) A (compareOp .Eq va vb) Q aF s)/\
  (∀Q:Value->Shared->Prop,Q (.bool (!nX l l')) s->wpAny (model g.prog g.w) A (compareOp .NotEq va vb) Q aF s):=by
 refine cy (iW ca) fun a vs o2 ha t=>?_;clear ca;obtain rfl:=o2;refine cy (iW cb) fun a' ws o2 hb t'=>?_;clear cb;obtain rfl:=o2;have u:=R.line;have hu:A.units<cLine:=by exact Nat.lt_of_add_right_lt u
 have l1:=t.length;have l2:=t'.length;simp only[jk]at l1 l2
 by_cases hz:l.length=l'.length
 ·have hsz:vs.size=ws.size:=by lia
  have r:=SeqAt.RcAt.lists (A:=A) ha hb hsz hu (HS p t t');have r':=SeqAt.RcNeAt.lists (A:=A) ha hb hsz hu (HS p t t');rw[←l1,K3 hz]at r r';exact⟨fun Q hq=>r g.prog g.w aF Q hq,fun Q hq=>r' g.prog g.w aF Q hq⟩
 ·have hsz:(vs.size != ws.size)=true:=by simp;lia
  rw[VR hz];exact⟨fun Q hq=>SeqAt.RcAt.lists_lengths (A:=A) ha hb hsz hu g.prog g.w aF Q hq,fun Q hq=>SeqAt.RcNeAt.lists_lengths (A:=A) ha hb hsz hu g.prog g.w aF Q hq⟩
variable{v:MV}{r:List MV}
theorem vV(q:dj (v::r)=true):∃p,v= .str p/\dj r=true:=by induction v using MV.casesOn<;>first|exact aP q|exact⟨_,rfl,q⟩
theorem J2(q:sA (v::r)=true):∃p,v= .int p/\sA r=true:=by induction v using MV.casesOn<;>first|exact aP q|exact⟨_,rfl,q⟩
theorem Cx:dj x=true->∀j,j<x.length->∃p,x.getD j .none= .str p:=by
 induction x with
 |nil=>exact fun _ j h=>absurd h (Nat.not_lt_zero _)
 |cons v r ih=>
  intro q j h;refine aH (vV q) fun p o1 q9=>?_;try clear q;obtain rfl:=o1;revert q9;intro q
  induction j using Nat.casesOn with
  |zero=>exact⟨p,rfl⟩
  |succ j=>exact ih q j (vH h)
theorem OR:∀{l:List MV},dW l=nX l []:=by
 intro x0
 induction x0 with
 |nil=>
  exact rfl
 |cons _ _ ih=>
  exact rfl
variable{k:Bool->Option α}{ah:α}
theorem OS {vb : Value}   (R : bz A d n tb) (e : Yh a b k = some ah) (ca : cN s.heap O a va) (cb : cN s.heap O b vb) :
    ∃ r, k r = some ah ∧ (∀ Q : Value → Shared → Prop, Q (.bool r) s → wpAny (model g.prog g.w) A (compareOp .Eq va vb) Q aF s) ∧
    (∀ Q : Value → Shared → Prop, Q (.bool (!r)) s → wpAny (model g.prog g.w) A (compareOp .NotEq va vb) Q aF s) := by
  induction a using MV.casesOn with
  | lst x => induction b using MV.casesOn with
    | lst y =>
      have e : DQ x y k = some ah := e
      induction y using List.casesOn with
      | nil =>
        have e' : k (dW x) = some ah := e
        rw [OR] at e'
        refine oA (HT R ca cb fun j _ h => absurd h (Nat.not_lt_zero _)) fun p q => ?_
        exact ⟨_, e', p, q⟩
      | cons y0 y =>
        refine oA (aG (c := dj x && dj (y0 :: y)) (x := k (nX x (y0 :: y))) e) fun q e9 => ?_
        try clear e
        revert e9; intro e
        refine oA (bk.mp q) fun q1 q2 => ?_
        refine oA (HT R ca cb fun j h1 h2 => by
          refine oE (Cx q1 j h1) fun p e1 => ?_
          refine oE (Cx q2 j h2) fun q e2 => ?_
          exact .inl ⟨p, q, e1, e2⟩) fun p9 q9 => ?_
        try clear p
        try clear q
        revert p9 q9; intro p q
        exact ⟨_, e, p, q⟩
    | _ => exact aq e
  | bool x => induction b using MV.casesOn with
    | bool y =>
      have eO := ca.bool
      clear ca
      obtain rfl := eO; obtain rfl := cb.bool
      exact ⟨_, e, fun Q hq => eq_bool hq, fun Q hq => ne_bool hq⟩
    | _ => exact aq e
  | int x => induction b using MV.casesOn with
    | int y =>
      obtain ⟨t, rfl⟩ := ca.int; obtain ⟨u, rfl⟩ := cb.int
      have e : k (decide (x = y)) = some ah := e
      rw [← nB] at e
      exact ⟨_, e, fun Q hq => PyProof.Rows.eq_int hq, fun Q hq => PyProof.Rows.ne_int hq⟩
    | _ => exact aq e
  | str x => induction b using MV.casesOn with
    | str y =>
      obtain ⟨t, rfl⟩ := ca.str; obtain ⟨u, rfl⟩ := cb.str
      exact ⟨_, e, fun Q hq => PyProof.Rows.eq_str hq, fun Q hq => PyProof.Rows.ne_str hq⟩
    | _ => exact aq e
  | _ => exact aq e
theorem zf(i j:Int):i7 (.int i) (.int j)=i7 (.int j) (.int i):=by
 exact decide_eq_decide.mpr ⟨Eq.symm,Eq.symm⟩
inductive Dat:MV->PyData->Prop
 |int (i):Dat (.int i) (.int i)
class inductive vW:List MV->List PyData->Prop
 |nil:vW [] []
 |cons {m D ms Ds:_}:Dat m D->vW ms Ds->vW (m::ms) (D::Ds)
inductive uI:MV->PyData->Prop
 |int (i):uI (.int i) (.int i)
 |tup {l D:_}:vW l D->uI (.tup l) (.tuple D)
class inductive Cy:List MV->List PyData->Prop
 |nil:Cy [] []
 |cons {m D ms Ds:_}:uI m D->Cy ms Ds->Cy (m::ms) (D::Ds)
theorem Tree.dat{m v D}(t:Tree h O m v)(q:Dat m D):Reads h v D []/\D.canLay0=true/\D.depth=0:=by
 induction q using Dat.casesOn with
 |int i=>obtain⟨k,rfl⟩:=t.int_inv;exact⟨.int _ _,rfl,rfl⟩
theorem aQ.dats{ms vs Ds}(t:aQ h O ms vs)(q:vW ms Ds):ReadsAll h vs Ds []/\PyData.canLayAll0 Ds=true/\PyData.depthAll Ds=0:=by
 induction q generalizing vs with
 |nil=>obtain rfl:=t.iT;exact⟨.nil,rfl,rfl⟩
 |cons p q ih=>
  refine cy (t.eT) fun v r o2 t9 r=>?_;try clear t;obtain rfl:=o2;revert t9;intro t;refine dh (t.dat p) fun a b c=>?_;refine dh (ih r) fun a' b' c'=>?_;refine⟨.cons (as:=[]) (bs:=[]) a a',?_,?_⟩
  ·simp only[PyData.canLayAll0,b,b',Bool.and_self]
  ·simp only[PyData.depthAll,c,c',Nat.max_self]
theorem Tree.Zf{m v D}(t:Tree h O m v)(q:uI m D):Reads h v D []/\D.canLay0=true/\D.depth<=1:=by
 induction q using uI.casesOn with
 |int i=>obtain⟨k,rfl⟩:=t.int_inv;exact⟨.int _ _,rfl,iS _⟩
 |tup q=>
  refine jX (t.D0) fun a0 o vs n o4 e c d nn r=>?_;clear t;obtain rfl:=o4;refine dh (r.dats q) fun a b c'=>?_;exact⟨.tuple e c d a,by simp only[PyData.canLay0,b],by simp only[PyData.depth,c'];exact gK _⟩
theorem aQ.Uw{ms vs Ds}(t:aQ h O ms vs)(q:Cy ms Ds):ReadsAll h vs Ds []/\PyData.canLayAll0 Ds=true/\PyData.depthAll Ds<=1:=by
 induction q generalizing vs with
 |nil=>obtain rfl:=t.iT;exact⟨.nil,rfl,iS _⟩
 |cons p q ih=>
  refine cy (t.eT) fun v r o2 t9 r=>?_;try clear t;obtain rfl:=o2;revert t9;intro t;refine dh (t.Zf p) fun a b c=>?_;refine dh (ih r) fun a' b' c'=>?_;refine⟨.cons (as:=[]) (bs:=[]) a a',?_,?_⟩
  ·simp only[PyData.canLayAll0,b,b',Bool.and_self]
  ·simp only[PyData.depthAll];exact Nat.max_le.mpr ⟨c,c'⟩
theorem HU{l:List MV}:sA l=true->∃Ds,vW l Ds:=by
 induction l with
 |nil=>exact fun _=>⟨[],.nil⟩
 |cons v r ih=>
  intro q;refine aH (J2 q) fun x o1 q9=>?_;try clear q;obtain rfl:=o1;revert q9;intro q;refine oE (ih q) fun Ds hd=>?_;exact⟨_,.cons (.int x) hd⟩
theorem VT{m m' D D'}(p:Dat m D)(q:Dat m' D'):PyData.eqv D D'=i7 m' m:=by
 induction p using Dat.casesOn;induction q using Dat.casesOn;rw[zf];simp only[PyData.eqv];exact nB _ _
theorem Rx{m m' D D'}(p:vW m D):vW m' D'->PyData.eqvAll D D'=nX m' m:=by
 induction p generalizing m' D' with
 |nil=>intro q;induction q using vW.casesOn<;>(simp only[PyData.eqvAll];rfl)
 |cons p r ih=>
  intro q
  induction q using vW.casesOn with
  |nil=>simp only[PyData.eqvAll];rfl
  |cons q z=>simp only[PyData.eqvAll,VT p q,ih z];rfl
theorem Cz:∀{x y:MV},Hu x y=true->(∃i j,x= .int i/\y= .int j)∨(∃a b,x= .tup a/\y= .tup b/\sA a=true/\sA b=true):=by
 intro x y q
 induction x using MV.casesOn with
 |int i=>induction y using MV.casesOn<;>first|exact aP q|exact .inl ⟨_,_,rfl,rfl⟩
 |tup a=>
  induction y using MV.casesOn with
  |tup b=>
   refine oA (bk.mp q) fun a b=>?_;exact .inr ⟨_,_,rfl,rfl,a,b⟩
  |_=>exact aP q
 |_=>exact aP q
theorem Me{x y:MV}{D:PyData}(q:Hu x y=true)(p:uI x D):∃D',uI y D'/\PyData.eqv D' D=i7 x y:=by
 rcases Cz q with⟨i,j,rfl,rfl⟩|⟨a,b,rfl,rfl,qa,qb⟩
 ·cases p
  exact⟨_,.int j,by rw[zf];simp only[PyData.eqv];exact nB _ _⟩
 ·cases p with
  |tup p=>
   refine oE (HU qb) fun D' hd=>?_;exact⟨_,.tup hd,by simp only[PyData.eqv];exact Rx hd p⟩
theorem Mf{x:MV}{D:PyData}(p:uI x D):∀{l:List MV},i8 x l=true->∃Ds,Cy l Ds/\(Ds.any fun y=>PyData.eqv y D)=eN x l:=by
 intro x0
 induction x0 with
 |nil=>
  intro _;exact⟨[],.nil,rfl⟩
 |cons y r ih=>
  intro q;refine oA (bk.mp q) fun q1 q2=>?_;refine aH (Me q1 p) fun D' h1 h2=>?_;refine aH (ih q2) fun Ds h3 h4=>?_;exact⟨_,.cons h1 h3,by rw[List.any_cons,h2,h4];rfl⟩
theorem Ry{x:MV}{y}{l:List MV}(q:i8 x (y::l)=true):∃D,uI x D:=by
 refine oA (bk.mp q) fun q1 q2=>?_
 rcases Cz q1 with⟨i,j,rfl,rfl⟩|⟨a,b,rfl,rfl,qa,qb⟩
 ·exact⟨_,.int i⟩
 ·refine oE (HU qa) fun D h=>?_
  exact⟨_,.tup h⟩
theorem Rz{x:MV}{D:PyData}{v:Value}(p:uI x D)(c:cN h O x v):Tree h O x v:=by
 induction p using uI.casesOn with
 |int i=>obtain⟨t,rfl⟩:=c.int;exact .int _ _
 |tup p=>
  induction c using cN.casesOn with
  |tree t=>exact t
  |own o=>exact o.no rfl
  |pZ q=>exact aP q
def Zg(A:Around)(s:Shared)(k:Bool->Option α)(ah:α)(va vb:Value):Prop:=∃r t,k r=some ah/\
  (∀Q:Value->Shared->Prop,Q (.bool r) {s with toks:=t}->wpAny (model g.prog g.w) A (compareOp .In va vb) Q aF s)/\
  (∀Q:Value->Shared->Prop,Q (.bool (!r)) {s with toks:=t}->wpAny (model g.prog g.w) A (compareOp .NotIn va vb) Q aF s)
theorem CA:(#[]:Array Value).any (fun _=>false)=false:=by simp
theorem Fl{x:MV}{l:List MV}{vb:Value}(R:bz A d n tb)(q:i8 x l=true)(e:k (eN x l)=some ah)(cx:cN s.heap O x va)
  (cl:cN s.heap O (.lst l) vb∨cN s.heap O (.tup l) vb):Zg A s k ah va vb:=by
 refine⟨_,s.toks,e,?_⟩;have u:=R.line
 induction l using List.casesOn with
 |nil=>
  rcases cl with c|c
  ·refine jD (c.lst) fun a o vs m o4 e1 e2 e3 t=>?_
   clear c;obtain rfl:=o4;have hl:s.heap.IsList a vs:=⟨_,e1,e2,_,e3⟩;have z:vs= #[]:=by induction vs using Array.casesOn;cases t;rfl
   clear t e3;subst z;exact⟨fun Q hq=>SeqAt.in_listAt (fun _=>false) hl (fun y hy=>nomatch hy) (by rw[CA];exact hq),fun Q hq=>SeqAt.notIn_listAt (fun _=>false) hl (fun y hy=>nomatch hy) (by rw[CA];exact hq)⟩
  ·refine jD (c.tup) fun a o vs m o4 e1 e2 e3 t=>?_
   clear c;obtain rfl:=o4;have hl:s.heap.IsTuple a vs:=⟨_,e1,e2,_,e3⟩;have z:vs= #[]:=by induction vs using Array.casesOn;cases t;rfl
   clear t e3;subst z;exact⟨fun Q hq=>SeqAt.in_tupleAt (fun _=>false) hl (fun y hy=>nomatch hy) (by rw[CA];exact hq),fun Q hq=>SeqAt.notIn_tupleAt (fun _=>false) hl (fun y hy=>nomatch hy) (by rw[CA];exact hq)⟩
 |cons y0 l=>
  refine oE (Ry q) fun D hD=>?_;refine aH (Mf hD q) fun Ds Ux Mg=>?_;refine dh ((Rz hD cx).Zf hD) fun rx r2 r3=>?_
  rcases cl with c|c
  ·refine jD (c.lst) fun a o vs m o4 e1 e2 e3 t=>?_
   clear c;obtain rfl:=o4;refine dh (t.Uw Ux) fun p1 p2 p3=>?_;have hu:A.units+1+min (PyData.depthAll Ds) D.depth<cLine:=kJ (gn (aI (Nat.min_le_left _ _) p3) (A.units+1)) (kJ (show A.units+2<=A.units+129 from gn (by decide) _) R.line);exact⟨fun Q hq=>SeqAt.in_list_reads (.list e1 e2 e3 p1) rx p2 r2 hu (by rw[Mg];exact hq),fun Q hq=>SeqAt.notIn_list_reads (.list e1 e2 e3 p1) rx p2 r2 hu (by rw[Mg];exact hq)⟩
  ·refine jD (c.tup) fun a o vs m o4 e1 e2 e3 t=>?_
   clear c;obtain rfl:=o4;refine dh (t.Uw Ux) fun p1 p2 p3=>?_;have hu:A.units+1+min (PyData.depthAll Ds) D.depth<cLine:=kJ (gn (aI (Nat.min_le_left _ _) p3) (A.units+1)) (kJ (show A.units+2<=A.units+129 from gn (by decide) _) R.line);exact⟨fun Q hq=>SeqAt.in_tuple_reads (.tuple e1 e2 e3 p1) rx p2 r2 hu (by rw[Mg];exact hq),fun Q hq=>SeqAt.notIn_tuple_reads (.tuple e1 e2 e3 p1) rx p2 r2 hu (by rw[Mg];exact hq)⟩
variable{kvs:List (Int×Value)}
theorem OT{d:List (MV×MV)}(r:uD d kvs)(i:Int):(valueAt kvs i).isSome=qR (.int i) d/\(qR (.int i) d=true->∃v,valueAt kvs i=some v/\kG (yU (.int i) d) v):=by
 induction r with
 |nil=>exact⟨rfl,fun q=>by exact aP q⟩
 | @cons k v mv d kvs f r ih=>
  by_cases e:k=i
  ·clear ih
   subst e;have h1:i7 (.int k) (.int k)=true:=aM rfl;have h2:valueAt ((k,v)::kvs) k=some v:=by simp[valueAt]
   refine⟨by rw[h2];show true=(i7 _ _||_);rw[h1];rfl,fun _=>⟨v,h2,?_⟩⟩;show kG (cond (i7 (.int k) (.int k)) mv _) v;rw[h1];exact f
  ·have h1:i7 (.int i) (.int k)=false:=gF (Ne.symm e)
   have h2:valueAt ((k,v)::kvs) i=valueAt kvs i:=by simp[valueAt,e]
   have h3:qR (.int i) ((.int k,mv)::d)=qR (.int i) d:=by show(i7 _ _||_)=_;rw[h1];rfl
   rw[h2,h3];refine⟨ih.1,fun q=>?_⟩;refine aH (ih.2 q) fun v' a b=>?_;refine⟨v',a,?_⟩;show kG (cond (i7 (.int i) (.int k)) mv _) v';rw[h1];exact b
theorem OU{d:List (MV×MV)}{kvs:List (Str×Value)}(r:vG d kvs)(i:Str):(valueAt kvs i).isSome=qR (.str i) d/\(qR (.str i) d=true->∃v,valueAt kvs i=some v/\kG (yU (.str i) d) v):=by
 induction r with
 |nil=>exact⟨rfl,fun q=>by exact aP q⟩
 | @cons k v mv d kvs f r ih=>
  by_cases e:k=i
  ·clear ih
   subst e;have h1:i7 (.str k) (.str k)=true:=j0 k;have h2:valueAt ((k,v)::kvs) k=some v:=by simp[valueAt]
   refine⟨by rw[h2];show true=(i7 _ _||_);rw[h1];rfl,fun _=>⟨v,h2,?_⟩⟩;show kG (cond (i7 (.str k) (.str k)) mv _) v;rw[h1];exact f
  ·have h1:i7 (.str i) (.str k)=false:=jY.mpr (Ne.symm e)
   have h2:valueAt ((k,v)::kvs) i=valueAt kvs i:=by simp[valueAt,e]
   have h3:qR (.str i) ((.str k,mv)::d)=qR (.str i) d:=by show(i7 _ _||_)=_;rw[h1];rfl
   rw[h2,h3];refine⟨ih.1,fun q=>?_⟩;refine aH (ih.2 q) fun v' a b=>?_;refine⟨v',a,?_⟩;show kG (cond (i7 (.str i) (.str k)) mv _) v';rw[h1];exact b
theorem K4{x:MV}{d:List (MV×MV)}(r:uD d kvs)(nn:dW d=false)(q:mL x d=true):∃i,x= .int i:=by
 induction r using uD.casesOn with
 |nil=>exact aP nn.symm
 |cons f r=>
  refine oA (bk.mp q) fun a b=>?_
  induction x using MV.casesOn<;>first|exact⟨_,rfl⟩|exact aP a
theorem K5{x:MV}{d:List (MV×MV)}{kvs:List (Str×Value)}(r:vG d kvs)(nn:dW d=false)(q:mL x d=true):∃i,x= .str i:=by
 induction r using vG.casesOn with
 |nil=>exact aP nn.symm
 |cons f r=>
  refine oA (bk.mp q) fun a b=>?_
  induction x using MV.casesOn<;>first|exact⟨_,rfl⟩|exact aP a
theorem OV{vb:Value}(R:bz A d n tb)(e:Yi a b k=some ah)(ca:cN s.heap O a va)(cb:cN s.heap O b vb):
  Zg A s k ah va vb:=by
 induction b using MV.casesOn with
 |lst l=>
  refine oA (aG (show cond (i8 a l) (k (eN a l)) none=some ah from e)) fun q e9=>?_;try clear e;revert e9;intro e;exact Fl R q e ca (.inl cb)
 |tup l=>
  refine oA (aG (show cond (i8 a l) (k (eN a l)) none=some ah from e)) fun q e9=>?_;try clear e;revert e9;intro e;exact Fl R q e ca (.inr cb)
 |gk dd=>
  have e:cond (dW dd) none (cond (mL a dd) (k (qR a dd)) none)=some ah:=e;refine bT (dW dd) (fun nn=>?_) fun nn=>?_
  ·rw[nn]at e;exact aq e
  ·
   rw[nn,bN]at e;refine oA (aG e) fun q e9=>?_;try clear e;revert e9;intro e;refine gO (cb.gk) fun ad o1 hs o3=>?_;clear cb;obtain rfl:=o1;obtain⟨kvs,hd,r⟩|⟨kvs,hd,r⟩:=o3
   ·refine oE (K4 r nn q) fun i o1=>?_
    obtain rfl:=o1;refine oE (ca.int) fun t o1=>?_;obtain rfl:=o1;rw[←(OT r i).1]at e;exact⟨_,_,e,fun Q hq=>wpAny_in_of (intKind_is _ _ i t) hs hd.mapOf hq,fun Q hq=>wpAny_notIn_of (intKind_is _ _ i t) hs hd.mapOf hq⟩
   ·refine oE (K5 r nn q) fun i o1=>?_
    obtain rfl:=o1;refine oE (ca.str) fun t o1=>?_;obtain rfl:=o1;rw[←(OU r i).1]at e;exact⟨_,_,e,fun Q hq=>wpAny_in_of (strKind_is _ _ i t) hs hd.mapOf hq,fun Q hq=>wpAny_notIn_of (strKind_is _ _ i t) hs hd.mapOf hq⟩
 |_=>exact aq e
end
variable{self:Ev}{a:MV}{v:Value}
section
theorem Bc(c:cN h O a v)(t:vp a=true):(v==Value.none)=isNone a:=by
 induction c using cN.casesOn with
 |tree t=>induction t using Tree.casesOn<;>rfl
 |own o=>cases o<;>rfl
 |pZ q=>rw[OQ q]at t;exact nomatch t
variable{op:CmpOp}{b:MV}{k:Bool->Option α}{ah:α}
theorem OW{f:Bool->Option α}(h:vR op a .none k=cond (vp a) (f (isNone a)) none)(e:vR op a b k=some ah)(Yu:op= .Is∨op= .IsNot):b= .none/\vp a=true/\f (isNone a)=some ah:=by
 induction b using MV.casesOn with
 |none=>exact⟨rfl,aG (h▸e)⟩
 |_=>rcases Yu with rfl|rfl<;>exact aq e
theorem CB{va vb:Value}(R:bz A d n tb)(X:az F envs aa al st s.heap)(e:vR op a b k=some ah)
  (ca:cN s.heap (Ob F aa al) a va) (cb:cN s.heap (Ob F aa al) b vb):wpAny (model g.prog g.w) A (compareOp op va vb) (Cv F envs aa al st s k ah) aF s:=by
 induction op using CmpOp.casesOn with
 |Eq=>
  refine gO (OS R e ca cb) fun r e9 p q=>?_;try clear e;revert e9;intro e;exact p _ (iV (t:=s.toks) X e)
 |NotEq=>
  refine gO (OS R e ca cb) fun r e9 p q=>?_;try clear e;revert e9;intro e;exact q _ (iV (t:=s.toks) X e)
 |In=>
  refine cy (OV R e ca cb) fun r t e9 p q=>?_;try clear e;revert e9;intro e;exact p _ (iV X e)
 |NotIn=>
  obtain⟨r,t,e,p,q⟩:=OV (k:=fun r=>k (!r)) R e ca cb;exact q _ (iV X e)
 |Is=>
  refine dh (OW (f:=k) (op:= .Is) rfl e (.inl rfl)) fun o0 q e9=>?_;try clear e;obtain rfl:=o0;revert e9;intro e;have eO:=cb.none;clear cb;obtain rfl:=eO;refine is_none_gen ?_;rw[Bc ca q];exact iV (t:=s.toks) X e
 |IsNot=>
  refine dh (OW (f:=fun b=>k (!b)) (op:= .IsNot) rfl e (.inr rfl)) fun o0 q e9=>?_;try clear e;obtain rfl:=o0;revert e9;intro e;have eO:=cb.none;clear cb;obtain rfl:=eO;refine isnot_none_gen ?_;rw[Bc ca q];exact iV (t:=s.toks) X e
 |Lt=>
  refine cy (uH e) fun i j o2 o3 e9=>?_;try clear e;obtain rfl:=o2;obtain rfl:=o3;revert e9;intro e;obtain⟨t,rfl⟩:=ca.int;obtain⟨u,rfl⟩:=cb.int;exact lt_int (iV (t:=s.toks) X e)
 |LtE=>
  refine cy (uH e) fun i j o2 o3 e9=>?_;try clear e;obtain rfl:=o2;obtain rfl:=o3;revert e9;intro e;obtain⟨t,rfl⟩:=ca.int;obtain⟨u,rfl⟩:=cb.int;exact PyProof.Rows.le_int (iV (t:=s.toks) X e)
 |Gt=>
  refine cy (uH e) fun i j o2 o3 e9=>?_;try clear e;obtain rfl:=o2;obtain rfl:=o3;revert e9;intro e;obtain⟨t,rfl⟩:=ca.int;obtain⟨u,rfl⟩:=cb.int;exact PyProof.Rows.gt_int (iV (t:=s.toks) X e)
 |GtE=>
  refine cy (uH e) fun i j o2 o3 e9=>?_;try clear e;obtain rfl:=o2;obtain rfl:=o3;revert e9;intro e;obtain⟨t,rfl⟩:=ca.int;obtain⟨u,rfl⟩:=cb.int;exact PyProof.Rows.ge_int (iV (t:=s.toks) X e)
def GV(s:Shared)(k:Bool->Option α)(ah:α):Bool->Shared->Prop:=fun b s'=>
 k b=some ah/\∃t,s'= {s with toks:=t}
theorem GV.same{b:Bool}(z:GV s k ah b s')(X:az F envs aa al st s.heap):k b=some ah/\az F envs aa al st s'.heap/\Sp aa al s.heap al s'.heap/\dQ s s'/\s'.heap=s.heap:=by
 obtain⟨e,t,rfl⟩:=z;exact⟨e,X,.refl,⟨rfl,rfl,rfl⟩,rfl⟩
theorem OX(e:wu a k=some ah):∃b,Ci a=some b/\k b=some ah:=by
 have e:(match Ci a with|some b=>k b|none=>none)=some ah:=e;cases h:Ci a with
 |none=>rw[h]at e;exact aq e
 |some b=>rw[h]at e;exact⟨b,rfl,e⟩
theorem HV(e:wu a k=some ah)(c:cN s.heap O a v):
  wpAny (model g.prog g.w) A (truthy v) (GV s k ah) aF s:=by
 refine aH (OX e) fun b q e2=>?_;clear e;have e:=e2;clear e2
 induction a using MV.casesOn with
 |none=>
  have eO:=c.none;clear c;obtain rfl:=eO;have eO:=dm (show some false=some b from q);clear q;obtain rfl:=eO;exact PyProof.Rows.truthy_none ⟨e,s.toks,rfl⟩
 |bool b'=>
  have eO:=c.bool;clear c;obtain rfl:=eO;have eO:=dm (show some b'=some b from q);clear q;obtain rfl:=eO;exact wpAny_truthy_bool ⟨e,s.toks,rfl⟩
 |int i=>
  refine oE (c.int) fun t o1=>?_;clear c;obtain rfl:=o1;refine truthy_int ⟨?_,s.toks,rfl⟩;rw[←dm (show some (!decide (i=0))=some b from q),←nB]at e;exact e
 |lst l=>
  refine oA (aG (show cond (decide (l.length<=1000000)) (some (!dW l)) none=some b from q)) fun q1 q9=>?_;try clear q;revert q9;intro q;refine cy (iW c) fun a vs o2 ha t=>?_;obtain rfl:=o2;have l1:=t.length;simp only[jk]at l1;refine wpAny_truthy_list ha (by have hz:=bx q1;lia) ⟨?_,_,rfl⟩;rw[←dm q]at e;rw[←e]
  congr 1
  induction l using List.casesOn with
  |nil=>have:vs= #[]:=Array.eq_empty_of_size_eq_zero (by rw[←l1];rfl);subst this;rfl
  |cons x r=>
   have:vs.isEmpty=false:=by
    rw[Array.isEmpty_eq_false_iff];rintro rfl;refine cF (t.eT) fun _ _ z _=>?_;exact nomatch z
   rw[this];rfl
 |_=>exact aq q
theorem D6(G:fO g consts)(X:az F envs aa al st h):h.Ns mainGlobals g.mg/\h.Ns builtinsNs g.mb:=by
 refine fq (G.ns) fun o es ep ho r=>?_;refine fq (G.nb) fun o' es' ep' qc r'=>?_;exact⟨⟨o,es,ep,X.jN _ _ ho,r⟩,⟨o',es',ep',X.jN _ _ qc,r'⟩⟩
variable{β:Type}{o:Option NameKind}
theorem kind3{a b c:Option β}{mv:β}(e:(match o with|some .local=>a|some .cell=>b|some .free=>c|_=>none)=some mv):(o=some .local/\a=some mv)∨(o=some .cell/\b=some mv)∨(o=some .free/\c=some mv):=by
 induction o using Option.casesOn with
 |none=>exact nomatch e
 |some n=>induction n using NameKind.casesOn<;>first|exact .inl ⟨rfl,e⟩|exact .inr (.inl ⟨rfl,e⟩)|exact .inr (.inr ⟨rfl,e⟩)|exact nomatch e
theorem kind2{b c:Option β}{mv:β}(e:(match o with|some .cell=>b|some .free=>c|_=>none)=some mv):(o=some .cell/\b=some mv)∨(o=some .free/\c=some mv):=by
 induction o using Option.casesOn with
 |none=>exact nomatch e
 |some n=>induction n using NameKind.casesOn<;>first|exact .inl ⟨rfl,e⟩|exact .inr ⟨rfl,e⟩|exact nomatch e
theorem J3{envs fs aa}(Y:jM h O al envs fs aa):∀{x mv},xw fs x=some mv->∃e' r c v,envs=e'::r/\e'.cells.lookup x=some c/\h.IsCell c (some v)/\cS h O al mv v:=by
 induction Y with
 |nil=>intro x mv e;exact nomatch e
 | @cons env f _ envs fs aa sc cl r ih=>
  intro x mv e
  rcases kind2 (show(match look f.sc.names x with|some .cell=>look f.vs x|some .free=>xw fs x|_=>none)=some mv from e)with⟨q,e⟩|⟨q,e⟩
  ·refine kP (sc.cells x q) fun c ov h1 h2 h3 h4 h5=>?_
   refine aH (h5 mv e) fun v o1 hv=>?_;clear h5;obtain rfl:=o1;exact⟨_,_,c,v,rfl,h1,h4,hv⟩
  ·refine xr (ih e) fun e' r' c v o4 h1 h2 h3=>?_
   clear ih r;obtain rfl:=o4;exact⟨_,_,c,v,rfl,(cl x q e' r' rfl).trans h1,h2,h3⟩
variable{x:Str}
theorem jI(q:eu x=false):(x==("__debug__":Str))=false∧(x==("__classdict__":Str))=false:=by
 have q:cond (("__debug__":Str)==x) true (cond (("__classdict__":Str)==x) true false)=false:=q;have q1:∀{a b:Bool},cond a true b=false→a=false∧b=false:=by intro a b;induction a using Bool.casesOn<;>induction b using Bool.casesOn<;>decide
 refine oA (q1 q) fun a b=>?_;refine oA (q1 b) fun c d=>?_;have sw:∀{p q:Str},(p==q)=false->(q==p)=false:=fun z=>by rw[jY]at z ⊢;exact z.symm
 exact⟨sw a,sw c⟩
variable{M:Model}
theorem lJ{E:Value->Shared->Prop}{mv:MV}(X:az F (env::envs) aa al st s.heap)(e:gu st.fr x=some mv)(q:eu x=false):
  ∃v,cS s.heap (Ob F aa al) al mv v/\∀Q:Value->Shared->Prop,Q v s->wpAny M A (loadName env x) Q E s:=by
 have Y:=X.fr;obtain⟨fr,ow⟩:=st;dsimp only at e Y;cases Y with
 |cons sc cl r=>
  rcases kind3 e with⟨z,e⟩|⟨z,e⟩|⟨z,e⟩
  ·refine aH (sc.ns) fun m hn hm=>?_
   refine aH (hm x mv z e) fun v h1 h2=>?_;exact⟨v,h2,fun Q hq=>wpAny_loadName_local sc.base.kind (sc.base.loc _ z) hn h1 hq⟩
  ·refine kP (sc.cells _ z) fun c ov h1 h2 h3 h4 h5=>?_
   refine aH (h5 mv e) fun v o1 hv=>?_;clear h5;obtain rfl:=o1;exact⟨v,hv,fun Q hq=>wpAny_loadName_cell sc.base.kind (sc.base.cel _ z) h1 h4 hq⟩
  ·refine xr (J3 r e) fun e' r' c v o4 h1 h2 h3=>?_
   clear X r;obtain rfl:=o4;have h1':=(cl _ z e' r' rfl).trans h1;refine⟨v,h3,fun Q hq=>?_⟩
   rcases sc.base.fre _ z with y|y
   ·exact wpAny_loadName_free sc.base.kind y h1' h2 hq (jI q).2
   ·exact wpAny_loadName_cell sc.base.kind y h1' h2 hq
theorem RB(e:(match o with|some .globalImplicit=>true|_=>false)=true):o=some .globalImplicit:=by
 induction o using Option.casesOn with
 |none=>exact nomatch e
 |some n=>induction n using NameKind.casesOn<;>first|rfl|exact nomatch e
theorem Fo(X:az F (env::envs) aa al st h)(e:iw st x=true):Ru env (match st.fr with|f::_=>f.sc| []=>default)/\env.kindOf x=some .globalImplicit:=by
 have Y:=X.fr;obtain⟨fr,ow⟩:=st;dsimp only at Y;cases Y with
 |cons sc cl r=>
  refine⟨sc.base,sc.base.glo x ?_⟩;exact RB e
variable{Q:Value->Shared->Prop}
theorem Bd{E:Value->Shared->Prop}(G:fO g consts)(X:az F (env::envs) aa al st s.heap)(e:iw st x=true)(hv:g.mg x=some v)(hq:Q v s):
  wpAny M A (loadName env x) Q E s:=by
 refine oA (Fo X e) fun b k=>?_;rw[loadName_read b.kind k];exact loadGlobal_global (by rw[b.gl];exact(D6 G X).1) hv hq
theorem mT{E:Value->Shared->Prop}(G:fO g consts)(X:az F (env::envs) aa al st s.heap)(e:iw st x=true)(hm:g.mg x=none)(hv:g.mb x=some v)(hq:Q v s):
  wpAny M A (loadName env x) Q E s:=by
 refine oA (Fo X e) fun b k=>?_;rw[loadName_read b.kind k];exact loadGlobal_builtin (by rw[b.gl];exact(D6 G X).1) hm (by rw[b.bt];exact(D6 G X).2) hv hq
theorem cS.res{bM h0}{m:MV}(x:cS h (Ob F aa al) al m v):gf F envs aa bM h0 al st h m false v:=by
 induction m using MV.casesOn<;>first|exact .own x|exact .tree x (fun q=>nomatch q)
variable{pos:Pos}
theorem VU{k:MV->Bool->St->Option α}(G:fO g consts)(X:az F (env::envs) aa al st s.heap)
  (e:cond (eu x) Option.none (match gu st.fr x with
  |some v=>k v false st
  |Option.none=>cond (iw st x) (match look consts x with|some i=>k (.int i) false st|Option.none=>Option.none) Option.none)=some ah):
  aE (model g.prog g.w) A (eval (.Name x pos) env) (d9 F (env::envs) aa al s k ah) aF s:=by
 refine bT (eu x) (fun od=>?_) fun od=>?_
 ·rw[od]at e;exact aq e
 ·
  rw[od,bN]at e;refine aT (wpAny_Name ?_ (jI od).1);refine sE (gu st.fr x) (fun v q=>?_) fun q=>?_
  ·
   rw[q]at e;obtain⟨w,hw,go⟩:=lJ X q od;exact go _ ⟨v,false,st,al,e,X,hw.res,.refl,.refl⟩
  ·
   rw[q]at e;refine oA (aG e) fun gl e9=>?_;try clear e;revert e9;intro e;refine nE (look consts x) (fun q=>?_) fun i q=>?_
   ·rw[q]at e;exact aq e
   ·
    rw[q]at e;refine oE (G.consts x i q) fun t ht=>?_;exact Bd G X gl ht ⟨_,_,st,al,e,X,.tree (.int _ _) (fun q=>nomatch q),.refl,.refl⟩
set_option tactic.hygienic true in
theorem RC{c:Const}{kd:Nat}{k:MV->Bool->St->Option α}(X:az F (env::envs) aa al st s.heap)
  (e:(match KV c with|some v=>k v false st|Option.none=>Option.none)=some ah):
  aE (model g.prog g.w) A (eval (.Constant c kd pos) env) (d9 F (env::envs) aa al s k ah) aF s:=by
 have go:∀{m v t},k m false st=some ah->Tree s.heap (Ob F aa al) m v->d9 F (env::envs) aa al s k ah v {s with toks:=t}:=fun e t=>⟨_,_,st,al,e,X,.tree t (fun q=>nomatch q),.refl,⟨rfl,rfl,rfl⟩⟩
 induction c using Const.casesOn<;>first|cases e|skip
 ·exact aT<|wpAny_Constant_none (go (t:=s.toks) e .none)
 ·exact aT<|wpAny_Constant_bool (go (t:=s.toks) e (.bool _))
 ·exact aT<|wpAny_Constant_int (go e (.int _ _))
 ·exact aT<|wpAny_Constant_str (go e (.str _ _))
 ·rename_i b
  refine aT ?_;show wpAny _ _ (mkTextBytes b.toArray) _ _ _;refine wpAny_mkTextBytes ?_;have:b.map (·.toNat)=b.toArray.toList.map UInt8.toNat:=rfl;exact go (this▸e) (.bytes _ _)
end
variable{dU:Shared}{pm:List Str}{k:MV->Bool->St->Option α}{ah:α}
section
theorem d9.back(sp:Sp aa al s.heap al' s'.heap)(sm:dQ s s')(w:d9 F envs aa al' s' k ah v dU):d9 F envs aa al s k ah v dU:=by
 obtain⟨m,fr,aY,dG,e,X,r,CD,CE⟩:=w;exact⟨m,fr,aY,dG,e,X,r.base (sp.sq (pm:=[])),sp.trans CD,sm.trans CE⟩
theorem lH.back{k:Bool->St->Option α}{b:Bool}(sp:Sp aa al s.heap al' s'.heap)(sm:dQ s s')(w:lH F envs aa al' s' k ah b dU):lH F envs aa al s k ah b dU:=by
 obtain⟨aY,dG,e,X,CD,CE⟩:=w;exact⟨aY,dG,e,X,sp.trans CD,sm.trans CE⟩
theorem j6.want{fr:Bool}(w:j6 F envs aa al st s fr (fun m=>k m fr st) ah v s'):d9 F envs aa al s k ah v s':=by
 obtain⟨m,e,X,r,sp,sm⟩:=w;exact⟨m,fr,st,al,e,X,r,sp,sm⟩
theorem Cv.Uy{k:Bool->St->Option α}(w:Cv F envs aa al st s (fun m=>k m st) ah v s'):∃b,v= .bool b/\lH F envs aa al s k ah b s':=by
 obtain⟨b,rfl,e,X,sp,sm⟩:=w;exact⟨b,rfl,st,al,e,X,sp,sm⟩
variable{β:Type}
theorem CF{M:Model}{t:Sem β}{Q Q':β->Shared->Prop}(x:wpAny M A t Q aF s)(q:∀b s',Q b s'->Q' b s'):wpAny M A t Q' aF s:=wpAny_mono x q fun _ _ z=>z
theorem aN{M:Model}{t:Sem β}{Q Q':β->Shared->Prop}(x:aE M A t Q aF s)(q:∀b s',Q b s'->Q' b s'):aE M A t Q' aF s:=kT x q fun _ _ z=>z
section
variable{M:Model}{E:Value->Shared->Prop}
variable{Q:Value->Shared->Prop}
theorem VV{l op r pos}(h:aE M A (eval l env) (fun a s₁=>aE M A (eval r env) (fun b s₂=>aE M A (binaryOp op a b) Q aF s₂) aF s₁) aF s):aE M A (eval (.BinOp l op r pos) env) Q aF s:=by
 rw[eval_BinOp];exact aj (aN h fun a s₁ h₁=>aj (aW (aN h₁ fun b s₂ h₂=>aj (aX (vE h₂)))))
theorem OY{op x pos}(h:aE M A (eval x env) (fun v s₁=>aE M A (unaryOp op v) Q aF s₁) aF s):aE M A (eval (.UnaryOp op x pos) env) Q aF s:=by
 rw[eval_UnaryOp];exact aj (aN h fun v s₁ h₁=>aj (aX (aW h₁)))
theorem VW{uy body lW pos}
  (h:aE M A (isTrue uy env (eval uy env)) (fun c s₂=>if c then aE M A (eval body env) Q aF s₂ else aE M A (eval lW env) Q aF s₂) aF s):aE M A (eval (.IfExp uy body lW pos) env) Q aF s:=by
 rw[eval_IfExp];refine aj (aN h fun c s₂ h₂=>?_)
 induction c using Bool.casesOn<;>exact h₂
theorem sD{vs keep:List Value}{Q:Unit->Shared->Prop}(h:Q () s):aE M A (release vs keep) Q aF s:=aT (wpAny_release' h)
variable{pos:Pos}{a:Value}{op wm:CmpOp}{jc:List CmpOp}{r r':Sem Value}{rs:List (Sem Value)}
theorem HW(h:aE M A r (fun b s₁=>aE M A (compareOp op a b) (fun c s₂=>aE M A (truthy c)
   (fun t s₃=>if t then aE M A (compareChain pos b (wm::jc) (r'::rs)) Q aF s₃ else Q c s₃) aF s₂) aF s₁) aF s):
  aE M A (compareChain pos a (op::wm::jc) (r::r'::rs)) Q aF s:=by
 show aE M A (do
  let rv ←holding [a] r
  standAt pos
  let c ←holding [a,rv] (compareOp op a rv)
  release [a,rv] [c]
  if ←holding [c,rv] (truthy c)then compareChain pos rv (wm::jc) (r'::rs)else pure c) Q aF s
 refine aj (aW (aN h fun b s₁ h₁=>aj (aX (aj (aW (aN h₁ fun c s₂ h₂=>aj (sD (aj (aW (aN h₂ fun t s₃ h₃=>?_))))))))))
 induction t using Bool.casesOn with
 |false=>exact aK h₃
 |true=>exact h₃
theorem HX(h:aE M A r (fun b s₁=>aE M A (compareOp op a b) Q aF s₁) aF s):aE M A (compareChain pos a [op] [r]) Q aF s:=by
 show aE M A (do
  let rv ←holding [a] r
  standAt pos
  operate [a,rv] (compareOp op a rv)) Q aF s
 exact aj (aW (aN h fun b s₁ h₁=>aj (aX (vE h₁))))
theorem J4{Q:Bool->Shared->Prop}
  (h:aE M A r (fun b s₁=>aE M A (compareOp op a b) (fun c s₂=>aE M A (truthy c)
   (fun t s₃=>if t then aE M A (testChain pos b (wm::jc) (r'::rs)) Q aF s₃ else Q false s₃) aF s₂) aF s₁) aF s):
  aE M A (testChain pos a (op::wm::jc) (r::r'::rs)) Q aF s:=by
 show aE M A (do
  let rv ←holding [a] r
  standAt pos
  let c ←holding [a,rv] (compareOp op a rv)
  release [a,rv] [c]
  if ←holding [c,rv] (truthy c)then testChain pos rv (wm::jc) (r'::rs)else pure false) Q aF s
 refine aj (aW (aN h fun b s₁ h₁=>aj (aX (aj (aW (aN h₁ fun c s₂ h₂=>aj (sD (aj (aW (aN h₂ fun t s₃ h₃=>?_))))))))))
 induction t using Bool.casesOn with
 |false=>exact aK h₃
 |true=>exact h₃
theorem J5{Q:Bool->Shared->Prop}
  (h:aE M A r (fun b s₁=>aE M A (compareOp op a b) (fun c s₂=>aE M A (truthy c) Q aF s₂) aF s₁) aF s):aE M A (testChain pos a [op] [r]) Q aF s:=by
 show aE M A (do
  let rv ←holding [a] r
  standAt pos
  let c ←operate [a,rv] (compareOp op a rv)
  holding [c] (truthy c)) Q aF s
 exact aj (aW (aN h fun b s₁ h₁=>aj (aX (aj (vE (aN h₁ fun c s₂ h₂=>aW h₂))))))
theorem fZ{Q:List Value->Shared->Prop}(h:Q [] s):aE M A (spliced (backTo pos (starEach [] env))) Q aF s:=aT (wpAny_items_nil h)
theorem eS{e:Expr}{rest:List Expr}{Q:List Value->Shared->Prop}
  (h:aE M A (eval e env) (fun v s₁=>aE M A (spliced (backTo pos (starEach rest env))) (fun vs s₂=>Q (v::vs) s₂) aF s₁) aF s)
  (he:starEach (e::rest) env=(false,eval e env)::starEach rest env):aE M A (spliced (backTo pos (starEach (e::rest) env))) Q aF s:=by
 rw[he];show aE M A (do
  let v ←eval e env
  let here ←(pure [v]:Sem (List Value))
  return here++(←holding here (spliced (backTo pos (starEach rest env))))) Q aF s
 exact aj (aN h fun v s₁ h₁=>aj (aK (aj (aW (aN h₁ fun vs s₂ h₂=>aK h₂)))))
variable{Mh:List Expr}
theorem Zh(h:aE M A (spliced (backTo pos (starEach Mh env))) (fun vs s₁=>vs.length≤sizeLine∧Q (.ref s₁.heap.objs.size) {s₁ with heap:=s₁.heap.push {cls:= .type "list",data:= .seq vs.toArray}}) aF s):
  aE M A (eval (.List Mh pos) env) Q aF s:=by
 rw[arm_eval_List];exact aj (aX (aj (aN h fun vs s₁ h₁=>aT (wpAny_newList h₁.2 h₁.1))))
theorem K6{x1}
  (h:aE M A (spliced (backTo pos (starEach Mh env))) (fun vs s₁=>vs.length≤sizeLine∧Q (.ref s₁.heap.objs.size) {s₁ with heap:=s₁.heap.push {cls:= .type "tuple",data:= .seq vs.toArray}}) aF s):
  aE M A (eval (.Tuple Mh x1 pos) env) Q aF s:=by
 rw[arm_eval_Tuple];exact aj (aX (aj (aN h fun vs s₁ h₁=>aT (wpAny_newTuple h₁.2 h₁.1))))
end
variable(hs:bU d n tb pm self)(R:bz A d n tb)
include hs R
variable{l:Expr}
theorem RD{r:Expr}{op:Operator}(X:az F (env::envs) aa al st s.heap)
  (e:(self.ex l st fun a _ aA=>self.ex r aA fun b _ au=>cU a au fun a'=>cU b au fun b'=>Hy op a' b' fun v=>k v true au)=some ah):
  aE (model g.prog g.w) A (eval (.BinOp l op r pos) env) (d9 F (env::envs) aa al s k ah) aF s:=by
 refine VV (aN (hs.ex e R X) ?_);rintro va s1 ⟨a,fr,aA,bY,e,X1,ra,bu,bA⟩;refine aN (hs.ex e R X1) ?_;rintro vb s2 ⟨b,fr,au,aV,e,X2,rb,bS,eF⟩;refine aH (gG X2 (ra.AI bS) e) fun a' e9 ca=>?_;try clear e;revert e9;intro e;refine aH (gG X2 rb.jE e) fun b' e9 cb=>?_;try clear e;revert e9;intro e;refine aN (aT (Zd R X2 e ca cb)) ?_;rintro v s3 w;exact(w.want.back bS eF).back bu bA
variable{x:Expr}
theorem VX (X : az F (env :: envs) aa al st s.heap)
    (e : (self.ex x st fun v _ aA => (match v with | .int i => k (.int (-i)) true aA | _ => Option.none)) = some ah) :
    aE (model g.prog g.w) A (eval (.UnaryOp .USub x pos) env) (d9 F (env :: envs) aa al s k ah) aF s := by
  refine OY (aN (hs.ex e R X) ?_)
  rintro va s1 ⟨a, fr, aA, bY, e, X1, ra, bu, bA⟩
  refine aH (LP e) fun i9 oi e9 => ?_
  clear e
  obtain rfl := oi
  revert e9; intro e
  · refine aH (ra) fun N ra9 _ => ?_
    try clear ra
    revert ra9; intro ra
    cases ra with
    | tree t _ =>
      cases t with
      | int i t => exact aT <| PyProof.Rows.neg_int (d9.back bu bA ⟨_, _, _, _, e, X1, .tree (.int _ _) (fun _ => rfl), .refl, ⟨rfl, rfl, rfl⟩⟩)
    | fresh _ o => exact o.no rfl
theorem RE{t y:Expr}(X:az F (env::envs) aa al st s.heap)
  (e:(self.ts t st fun b aA=>cond b (self.ex x aA k) (self.ex y aA k))=some ah):
  aE (model g.prog g.w) A (eval (.IfExp t x y pos) env) (d9 F (env::envs) aa al s k ah) aF s:=by
 refine VW (aN (hs.ts e R X) ?_);rintro b s1 ⟨aA,bY,e,X1,bu,bA⟩
 induction b using Bool.casesOn with
 |true=>exact aN (hs.ex e R X1) fun v s2 w=>w.back bu bA
 |false=>exact aN (hs.ex e R X1) fun v s2 w=>w.back bu bA
set_option backward.match.sparseCases true in
theorem VY{op:BoolOp}:∀{es:List Expr} {st:St} {al:Al} {s:Shared},az F (env::envs) aa al st s.heap->AD self op es st k=some ah->
  aE (model g.prog g.w) A (boolOp pos op (evalEach es env)) (d9 F (env::envs) aa al s k ah) aF s:=by
 intro x1
 induction x1 with
 |nil=>
  intro _ _ _ _ e;exact aq e
 |cons x c2 dR=>
  induction c2 using List.casesOn with
  |nil=>
   intro st al s X e;exact hs.ex e R X
  |cons y r=>
   intro st al s X e;have e1:(self.ex x st fun v fr aA=>cU v aA fun a=>wu a fun b=>match (generalizing:=false) op with
    | .And=>cond b (AD self op (y::r) aA k) (k v fr aA)
    | .Or=>cond b (k v fr aA) (AD self op (y::r) aA k))=some ah:=e
   show aE _ _ (do
    let v ←eval x env
    standAt pos
    let t ←holding [v] (truthy v)
    match op,t with
    | .And,false| .Or,true=>pure v
    |_,_=>boolOp pos op (evalEach (y::r) env)) _ _ _
   refine aj (aN (hs.ex e1 R X) ?_);rintro v s1 ⟨m,fr,aA,bY,e,X1,ra,bu,bA⟩;refine aH (gG X1 ra.jE e) fun c e9 ca=>?_;try clear e;revert e9;intro e;refine aj (aX (aj (aW (aN (aT (HV e ca)) ?_))));intro b s2 w;have eqh:=w.2;refine rU (GV.same (F:=F) (envs:=env::envs) (aa:=aa) (al:=bY) (st:=aA) w X1) fun e X2 bS eF hh=>?_;refine oE (eqh) fun t o1=>?_;try clear eqh;obtain rfl:=o1
   induction op using BoolOp.casesOn with
   |And=>
    induction b using Bool.casesOn with
    |true=>exact aN (dR X2 e) fun v s2 w=>(w.back bS eF).back bu bA
    |false=>exact aK ⟨m,fr,aA,bY,e,X2,ra,bu,bA.trans ⟨rfl,rfl,rfl⟩⟩
   |Or=>
    induction b using Bool.casesOn with
    |false=>exact aN (dR X2 e) fun v s2 w=>(w.back bS eF).back bu bA
    |true=>exact aK ⟨m,fr,aA,bY,e,X2,ra,bu,bA.trans ⟨rfl,rfl,rfl⟩⟩
set_option backward.match.sparseCases true in
theorem Zi{op:BoolOp}{k:Bool->St->Option α}:∀{es:List Expr} {st:St} {al:Al} {s:Shared},az F (env::envs) aa al st s.heap->lC self op es st k=some ah->
  aE (model g.prog g.w) A (allTrue op es env) (lH F (env::envs) aa al s k ah) aF s:=by
 intro x0
 induction x0 with
 |nil=>
  intro st al s X e
  induction op using BoolOp.casesOn with
  |And=>exact aK (a:=true) ⟨st,al,e,X,.refl,.refl⟩
  |Or=>exact aK (a:=false) ⟨st,al,e,X,.refl,.refl⟩
 |cons x r ih=>
  intro st al s X e
  induction op using BoolOp.casesOn with
  |And=>
   have e1:(self.ts x st fun b aA=>cond b (lC self .And r aA k) (k false aA))=some ah:=e;show aE _ _ (do
    match BoolOp.And,←isTrue x env (eval x env)with
    | .And,false=>pure false
    | .Or,true=>pure true
    |_,_=>allTrue .And r env) _ _ _
   refine aj (aN (hs.ts e1 R X) ?_);rintro b s1 ⟨aA,bY,e,X1,bu,bA⟩
   induction b using Bool.casesOn with
   |true=>exact aN (ih X1 e) fun v s2 w=>w.back bu bA
   |false=>exact aK ⟨aA,bY,e,X1,bu,bA⟩
  |Or=>
   have e1:(self.ts x st fun b aA=>cond b (k true aA) (lC self .Or r aA k))=some ah:=e;show aE _ _ (do
    match BoolOp.Or,←isTrue x env (eval x env)with
    | .And,false=>pure false
    | .Or,true=>pure true
    |_,_=>allTrue .Or r env) _ _ _
   refine aj (aN (hs.ts e1 R X) ?_);rintro b s1 ⟨aA,bY,e,X1,bu,bA⟩
   induction b using Bool.casesOn with
   |false=>exact aN (ih X1 e) fun v s2 w=>w.back bu bA
   |true=>exact aK ⟨aA,bY,e,X1,bu,bA⟩
theorem RG{k:Bool->St->Option α}:∀{jc:List CmpOp} {es:List Expr} {left:MV} {lv:Value} {st:St} {al:Al} {s:Shared},az F (env::envs) aa al st s.heap->A9 s.heap (Ob F aa al) al left lv->
  n9 self left jc es st k=some ah->
  aE (model g.prog g.w) A (compareChain pos lv jc (evalEach es env)) (fun v s'=>∃b,v= .bool b/\lH F (env::envs) aa al s k ah b s') aF s:=by
 intro x1
 induction x1 with
 |nil=>
  intro _ _ _ _ _ _ _ _ e;exact aq e
 |cons op c2 dR=>
  induction c2 using List.casesOn with
  |nil=>
   intro x3
   induction x3 using List.casesOn with
   |nil=>
    intro _ _ _ _ _ _ _ e;exact aq e
   |cons x c4=>
    induction c4 using List.casesOn with
    |nil=>
     intro left lv st al s X pl e;have e1:(self.ex x st fun r _ aA=>cU left aA fun a=>cU r aA fun b=>vR op a b fun c=>k c aA)=some ah:=e;refine HX (aN (hs.ex e1 R X) ?_);rintro vb s2 ⟨b,fr,au,aV,e,X2,rb,bS,eF⟩;refine aH (gG X2 (pl.sp bS) e) fun a' e9 ca=>?_;try clear e;revert e9;intro e;refine aH (gG X2 rb.jE e) fun b' e9 cb=>?_;try clear e;revert e9;intro e;refine aN (aT (CB R X2 e ca cb)) ?_;intro v s3 w;refine aH (w.Uy) fun c o1 w1=>?_;obtain rfl:=o1;exact⟨c,rfl,w1.back bS eF⟩
    |cons c5 c6=>
     intro _ _ _ _ _ _ _ e;exact aq e
  |cons wm jc=>
   intro x7
   induction x7 using List.casesOn with
   |nil=>
    intro _ _ _ _ _ _ _ e;exact aq e
   |cons x c8=>
    induction c8 using List.casesOn with
    |nil=>
     intro _ _ _ _ _ _ _ e;exact aq e
    |cons x' es=>
     intro left lv st al s X pl e;have e1:(self.ex x st fun r _ aA=>cU left aA fun a=>cU r aA fun b=>vR op a b fun c=>
      cond c (n9 self r (wm::jc) (x'::es) aA k) (k false aA))=some ah:=e
     refine HW (aN (hs.ex e1 R X) ?_);rintro vb s2 ⟨b,fr,au,aV,e,X2,rb,bS,eF⟩;refine aH (gG X2 (pl.sp bS) e) fun a' e9 ca=>?_;try clear e;revert e9;intro e;refine aH (gG X2 rb.jE e) fun b' e9 cb=>?_;try clear e;revert e9;intro e;refine aN (aT (CB R X2 e ca cb)) ?_;rintro v s3 ⟨c,rfl,e,X3,gr,jm⟩;refine aT (wpAny_truthy_bool ?_)
     induction c using Bool.casesOn with
     |true=>exact aN (dR X3 (rb.AI gr) e) fun v s4 ⟨c,q,w⟩=>⟨c,q,(w.back gr jm).back bS eF⟩
     |false=>exact⟨false,rfl,au,aV,e,X3,bS.trans gr,eF.trans jm⟩
theorem OZ{k:Bool->St->Option α}:∀{jc:List CmpOp} {es:List Expr} {left:MV} {lv:Value} {st:St} {al:Al} {s:Shared},az F (env::envs) aa al st s.heap->A9 s.heap (Ob F aa al) al left lv->
  n9 self left jc es st k=some ah->
  aE (model g.prog g.w) A (testChain pos lv jc (evalEach es env)) (lH F (env::envs) aa al s k ah) aF s:=by
 intro x1
 induction x1 with
 |nil=>
  intro _ _ _ _ _ _ _ _ e;exact aq e
 |cons op c2 dR=>
  induction c2 using List.casesOn with
  |nil=>
   intro x3
   induction x3 using List.casesOn with
   |nil=>
    intro _ _ _ _ _ _ _ e;exact aq e
   |cons x c4=>
    induction c4 using List.casesOn with
    |nil=>
     intro left lv st al s X pl e;have e1:(self.ex x st fun r _ aA=>cU left aA fun a=>cU r aA fun b=>vR op a b fun c=>k c aA)=some ah:=e;refine J5 (aN (hs.ex e1 R X) ?_);rintro vb s2 ⟨b,fr,au,aV,e,X2,rb,bS,eF⟩;refine aH (gG X2 (pl.sp bS) e) fun a' e9 ca=>?_;try clear e;revert e9;intro e;refine aH (gG X2 rb.jE e) fun b' e9 cb=>?_;try clear e;revert e9;intro e;refine aN (aT (CB R X2 e ca cb)) ?_;intro v s3 w;refine aH (w.Uy) fun c o1 w1=>?_;obtain rfl:=o1;exact aT<|wpAny_truthy_bool (w1.back bS eF)
    |cons c5 c6=>
     intro _ _ _ _ _ _ _ e;exact aq e
  |cons wm jc=>
   intro x7
   induction x7 using List.casesOn with
   |nil=>
    intro _ _ _ _ _ _ _ e;exact aq e
   |cons x c8=>
    induction c8 using List.casesOn with
    |nil=>
     intro _ _ _ _ _ _ _ e;exact aq e
    |cons x' es=>
     intro left lv st al s X pl e;have e1:(self.ex x st fun r _ aA=>cU left aA fun a=>cU r aA fun b=>vR op a b fun c=>
      cond c (n9 self r (wm::jc) (x'::es) aA k) (k false aA))=some ah:=e
     refine J4 (aN (hs.ex e1 R X) ?_);rintro vb s2 ⟨b,fr,au,aV,e,X2,rb,bS,eF⟩;refine aH (gG X2 (pl.sp bS) e) fun a' e9 ca=>?_;try clear e;revert e9;intro e;refine aH (gG X2 rb.jE e) fun b' e9 cb=>?_;try clear e;revert e9;intro e;refine aN (aT (CB R X2 e ca cb)) ?_;rintro v s3 ⟨c,rfl,e,X3,gr,jm⟩;refine aT (wpAny_truthy_bool ?_)
     induction c using Bool.casesOn with
     |true=>exact aN (dR X3 (rb.AI gr) e) fun v s4 w=>(w.back gr jm).back bS eF
     |false=>exact⟨au,aV,e,X3,bS.trans gr,eF.trans jm⟩
omit hs R in
theorem zg:∀{jc:List CmpOp} {es:List Expr},jK es=false->lastMarks jc es=false:=by
 intro x1
 induction x1 with
 |nil=>
  intro _ _;simp[lastMarks]
 |cons op c2 dR=>
  induction c2 using List.casesOn with
  |nil=>
   intro x3
   induction x3 using List.casesOn with
   |nil=>
    intro _;simp[lastMarks]
   |cons e c4=>
    induction c4 using List.casesOn with
    |nil=>
     intro q;have q1:tR e=false:=by
      cases z:tR e with
      |false=>rfl
      |true=>simp[jK,z]at q
     induction e using Expr.casesOn<;>first|rfl|exact aP q1.symm
    |cons e' es=>
     intro q;have q1:jK (e'::es)=false:=by
      cases z:jK (e'::es)with
      |false=>rfl
      |true=>unfold jK at q;rw[z,Bool.or_true]at q;exact aP q.symm
     exact dR q1
  |cons wm jc=>
   intro x5
   induction x5 using List.casesOn with
   |nil=>
    intro _;simp[lastMarks]
   |cons e es=>
    intro q;have q1:jK es=false:=by
     cases z:jK es with
     |false=>rfl
     |true=>unfold jK at q;rw[z,Bool.or_true]at q;exact aP q.symm
    exact dR q1
variable{cs:List Expr}
theorem Mi(X:az F (env::envs) aa al st s.heap)
  (e:(cond (jK cs) Option.none<|self.ex l st fun v _ aA=>n9 self v jc cs aA fun b au=>k (.bool b) true au)=some ah):
  aE (model g.prog g.w) A (eval (.Compare l jc cs pos) env) (d9 F (env::envs) aa al s k ah) aF s:=by
 refine bT (jK cs) (fun q=>?_) fun q=>?_
 ·rw[q]at e;exact aq e
 ·
  rw[q,bN]at e;refine(?_:aE _ _ (do compareChain pos (←eval l env) jc (markedEach jc cs (evalEach cs env))) _ _ _);rw[markedEach_of_false _ _ _ (zg q)];refine aj (aN (hs.ex e R X) ?_);rintro va s1 ⟨a,fr,aA,bY,e,X1,ra,bu,bA⟩;refine aN (RG hs R X1 ra.jE e) ?_;rintro v s2 ⟨b,rfl,au,aV,e,X2,bS,eF⟩;exact⟨_,_,au,aV,e,X2,.tree (.bool _) (fun _=>rfl),bu.trans bS,bA.trans eF⟩
theorem Mj{Mk}{k:Bool->St->Option α}(X:az F (env::envs) aa al st s.heap)
  (e:(cond (jK cs) Option.none<|self.ex l st fun v _ aA=>n9 self v jc cs aA k)=some ah):
  aE (model g.prog g.w) A (isTrue (.Compare l jc cs pos) env Mk) (lH F (env::envs) aa al s k ah) aF s:=by
 refine bT (jK cs) (fun q=>?_) fun q=>?_
 ·rw[q]at e;exact aq e
 ·
  rw[q,bN]at e;refine(?_:aE _ _ (do testChain pos (←eval l env) jc (markedEach jc cs (evalEach cs env))) _ _ _);rw[markedEach_of_false _ _ _ (zg q)];refine aj (aN (hs.ex e R X) ?_);rintro va s1 ⟨a,fr,aA,bY,e,X1,ra,bu,bA⟩;exact aN (OZ hs R X1 ra.jE e) fun b s2 w=>w.back bu bA
inductive Uz(F:List Addr)(envs:List Env)(aa:List (List Addr))(al:Al)(s:Shared)(k:List MV->St->Option α)(ah:α)(vs:List Value)(s':Shared):Prop
 |mk (ms:_) (aY:_) (al':_) (h0:k ms aY=some ah) (h1:az F envs aa al' aY s'.heap) (h2:aQ s'.heap (Ob F aa al') ms vs) (h3:Sp aa al s.heap al' s'.heap) (h4:dQ s s'):Uz F envs aa al s k ah vs s'
omit hs R in
theorem fz{e:Expr}{r:List Expr}(q:bC (e::r)=false):starEach (e::r) env=(false,eval e env)::starEach r env/\bC r=false:=by
 have q1:Cj e=false/\bC r=false:=by
  exact gS.mp q
 refine⟨?_,q1.2⟩
 induction e using Expr.casesOn<;>first|rfl|cases q1.1
theorem sG:∀{es:List Expr} {k:List MV->St->Option α} {st:St} {al:Al} {s:Shared},bC es=false->az F (env::envs) aa al st s.heap->iF self es st k=some ah->
  aE (model g.prog g.w) A (spliced (backTo pos (starEach es env))) (fun vs s'=>vs.length=es.length/\Uz F (env::envs) aa al s k ah vs s') aF s:=by
 intro x0
 induction x0 with
 |nil=>
  intro k st al s _ X e;exact fZ ⟨rfl,_,st,al,e,X,.nil,.refl,.refl⟩
 |cons x r ih=>
  intro k st al s q X e;have e1:(self.ex x st fun v _ aA=>bW v aA fun t au=>iF self r au fun ts bX=>k (t::ts) bX)=some ah:=e;refine eS (aN (hs.ex e1 R X) ?_) (fz q).1;rintro v s1 ⟨m,fr,aA,bY,e,X1,ra,bu,bA⟩;refine gX (gq X1 ra.jE e) fun t au aV e9 X2 tt bS=>?_;try clear e;revert e9;intro e;refine aN (ih (fz (env:=env) q).2 X2 e) ?_;rintro vs s2 ⟨hl,ms,bX,qE,e,X3,ts,gr,jm⟩;exact⟨bq (· +1) hl,_,bX,qE,e,X3,.cons ((gr.sq (pm:=[])).tree tt) ts,(bu.trans bS).trans gr,bA.trans jm⟩
omit hs R in
theorem BG:∀{n:Nat} {es:List Expr},vA n es=true->es.length<=n
 |_,[],_=>iS _
 |0,_::_,q=>by exact aP q
 |n+1,_::r,q=>Nat.succ_le_succ (BG (n:=n) (es:=r) q)
variable{es:List Expr}
omit hs R in
theorem xF{x:Option β}{ah:β}(e:cond (iQ es) Option.none x=some ah):bC es=false/\es.length<=20/\x=some ah:=by
 refine bT (iQ es) (fun q=>?_) fun q=>?_
 ·rw[q]at e;exact aq e
 ·
  rw[q]at e;refine oA (gS.mp q) fun a b=>?_;refine⟨a,BG ?_,e⟩;cases z:vA 20 es with
  |true=>rfl
  |false=>rw[z]at b;exact aP b.symm
omit hs R in
theorem xG{n:Nat}(q:n<=20):n<=sizeLine:=by have:=sizeLine_eq;lia
theorem VZ(X:az F (env::envs) aa al st s.heap)
  (e:(cond (iQ es) Option.none<|iF self es st fun l aA=>k (.lst l) true aA)=some ah):
  aE (model g.prog g.w) A (eval (.List es pos) env) (d9 F (env::envs) aa al s k ah) aF s:=by
 refine dh (xF e) fun q hl e9=>?_;try clear e;revert e9;intro e;refine Zh (aN (sG hs R q X e) ?_);rintro vs s1 ⟨hv,ms,aA,bY,e,X1,ts,bu,bA⟩;refine⟨xG (by rw[hv];exact hl),?_⟩;exact(tV (t:=s1.toks) (k:=fun m=>k m true aA) X1 e ts).want.back bu bA
theorem RH{x1}(X:az F (env::envs) aa al st s.heap)
  (e:(cond (iQ es) Option.none<|iF self es st fun l aA=>k (.tup l) true aA)=some ah):
  aE (model g.prog g.w) A (eval (.Tuple es x1 pos) env) (d9 F (env::envs) aa al s k ah) aF s:=by
 refine dh (xF e) fun q hl e9=>?_;try clear e;revert e9;intro e;refine K6 (aN (sG hs R q X e) ?_);rintro vs s1 ⟨hv,ms,aA,bY,e,X1,ts,bu,bA⟩;refine⟨xG (by rw[hv];exact hl),?_⟩;have kk:∀b o,s1.heap.get? b=some o→(s1.heap.push {cls:= .type "tuple",data:= .seq vs.toArray}).get? b=some o:=fun b o e=>Heap.get?_push_of_some _ e;exact⟨_,true,aA,bY,e,X1.push _,.tree (J1 X1 ts) (fun _=>rfl),bu.trans (Sp.ext kk),bA.trans ⟨rfl,rfl,rfl⟩⟩
end
section
def Fp(s:Shared)(o:Value):Prop:=∃T id,s.TypeIs o T∧typeLookup (.type T) "__getitem__"=pure (some (.builtin id))
variable{Q:Value->Shared->Prop}
theorem HY {value Ml : Expr} {pos : Pos} 
    (h : aE (model g.prog g.w) A (eval value env) (fun o s1 => aE (model g.prog g.w) A (eval Ml env) (fun i s2 => Fp s2 o ∧ aE (model g.prog g.w) A (getItem o i) Q aF s2) aF s1) aF s) :
    aE (model g.prog g.w) A (eval (.Subscript value Ml pos) env) Q aF s := by
  rw [eval_Subscript]
  refine aj (aN h fun o s₁ h₁ => aj (aW (aN h₁ fun i s₂ h₂ => aj (aX ?_))))
  refine oA (h₂) fun o0 hg => ?_
  try clear h₂
  refine cF (o0) fun T id hT hl => ?_
  try clear o0
  have gm : ∀ vs, aE (model g.prog g.w) A (operate vs (getItem o i) >>= fun r => letTemporaryGo value o r >>= fun _ => pure r) Q aF s₂ := fun vs =>
    aj (vE (aN hg fun r s₃ h₃ => aj (aT (wpAny_letTemporaryGo (aK h₃)))))
  refine aj ?_
  rw [getitemInPython_of_ne hT.not_modules]
  refine aj (aT (fu hT hl ?_))
  refine aK ?_
  induction Ml using Expr.casesOn with
  | Slice _ _ st _ => induction st using Option.casesOn <;> exact gm _
  | _ => exact gm _
variable{a:Addr}
theorem HZ{vs:Array Value}(x:s.heap.IsList a vs):Fp s (.ref a):=⟨"list",_,x.typeIs,slot_list_getitem.lookup⟩
theorem O0{o:Obj}(e:s.heap.get? a=some o)(c:o.cls= .type "tuple"):Fp s (.ref a):=⟨"tuple",_,⟨o,e,c⟩,F.slot_tuple_getitem.lookup⟩
theorem H6{K:Type}[DecidableEq K]{knd:PySem.KeyKind g.prog g.w K}{kvs:List (K×Value)}(x:s.heap.DictOf knd a kvs):Fp s (.ref a):=⟨"dict",_,x.mapOf.typeIs,slot_dict_getitem.lookup⟩
variable{t:Tok}
theorem Fq{b:Array UInt8}:Fp s (.bytes b t):=⟨"bytes",_,typeIs_bytes _ _ _,FB.slot_bytes_getitem.lookup⟩
theorem V0{b:Str}:Fp s (.str b t):=⟨"str",_,typeIs_str _ _ _,F.slot_str_getitem.lookup⟩
variable{v:Value}
theorem Ft{m:MV}(f:kG m v):Tree h O m v:=by
 induction f using kG.casesOn with
 |int=>exact .int _ _
 |str=>exact .str _ _
variable{i:Int}
theorem H7{n:Nat}(h1: -(n:Int)<=i)(h2:i<n):seqIndex? i n=some (cond (decide (i<0)) (i+n) i).toNat/\(cond (decide (i<0)) (i+n) i).toNat<n:=by
 unfold seqIndex?
 by_cases q:i<0
 ·simp only[if_pos q,aM q,ir]
  have p0:0<=i+(n:Int):=by have:=Int.add_le_add_right h1 (n:Int);rw[Int.add_left_neg]at this;exact this
  have p1:i+(n:Int)<n:=by have:=Int.add_lt_add_right q (n:Int);rw[Int.zero_add]at this;exact this
  rw[if_pos (bk.mpr ⟨aM p0,aM p1⟩)];exact⟨rfl,(Int.toNat_lt p0).mpr p1⟩
 ·simp only[bG q,gF q,bN]
  have p0:0<=i:=Int.not_lt.mp q;rw[if_pos (bk.mpr ⟨aM p0,aM h2⟩)];exact⟨rfl,(Int.toNat_lt p0).mpr h2⟩
theorem BH{vs:Array Value}{x:Value}(hl:s.heap.IsList a vs)(h1: -(vs.size:Int)<=i)(h2:i<vs.size)(f:eZ i=true)
  (hx:vs[(cond (decide (i<0)) (i+vs.size) i).toNat]?=some x) (h:Q x s):wpAny (model g.prog g.w) A (getItem (.ref a) (.int i t)) Q aF s:=by
 simp only[eZ,oG,decide_eq_true_eq]at f
 by_cases q:i<0
 ·rw[aM q,ir]at hx
  exact wpAny_getItem_list_neg hl q h1 (by lia) hx h
 ·rw[gF q,bN]at hx
  exact wpAny_getItem_list hl (by exact Int.not_lt.mp q) (by lia) hx h
theorem Mm(b:Array UInt8)(j:Nat)(hj:j<b.size):b[j]?=some (b.toList.getD j 0)/\(b.toList.getD j 0).toNat=(b.toList.map UInt8.toNat).getD j 0:=by
 have:j<b.toList.length:=by simpa using hj
 have e1:b.toList[j]?=some b.toList[j]:=List.getElem?_eq_getElem this;have e2:(b.toList.map UInt8.toNat)[j]?=some b.toList[j].toNat:=by rw[List.getElem?_map,e1];rfl
 rw[List.getD_eq_getElem?_getD,List.getD_eq_getElem?_getD,e1,e2];exact⟨by rw[←Array.getElem?_toList,e1];rfl,rfl⟩
def UA(i:Int)(n:Nat):Bool:=eZ i&&(decide (-(n:Int)<=i)&&decide (i<n))
theorem D7{n:Nat}(q:UA i n=true):eZ i=true/\-(n:Int)<=i/\i<n:=by
 refine oA (bk.mp q) fun f q9=>?_;try clear q;revert q9;intro q;refine oA (bk.mp q) fun q1 q2=>?_;exact⟨f,bx q1,bx q2⟩
theorem CG(f:eZ i=true): -1000000000<=i/\i<=999999999:=by
 refine oA (bk.mp f) fun f1 f2=>?_;exact⟨Int.le_of_lt (bx f1),bx f2⟩
variable{va:Value}{k:MV->Option α}{ah:α}
theorem V1{a i:MV}{vi:Value}(X:az F envs aa al st s.heap)(e:LQ a i k=some ah)(ca:cN s.heap (Ob F aa al) a va)(ti:Tree s.heap (Ob F aa al) i vi):
  Fp s va/\wpAny (model g.prog g.w) A (getItem va vi) (j6 F envs aa al st s false k ah) aF s:=by
 induction a using MV.casesOn with
 |lst l=>induction i using MV.casesOn with
  |int j=>
   refine oA (aG (show cond (UA j l.length) (k (l.getD _ .none)) none=some ah from e)) fun q e9=>?_;try clear e;revert e9;intro e;refine dh (D7 q) fun f q1 q2=>?_;refine cy (iW ca) fun ad vs o2 hl t=>?_;clear ca;obtain rfl:=o2;refine oE (ti.int_inv) fun O1 o1=>?_;try clear ti;obtain rfl:=o1;revert O1;intro ti;have l1:=t.length;simp only[jk]at l1;refine oA (H7 q1 q2) fun _ q4=>?_;refine aH (t.get _ q4) fun x hx tx=>?_;rw[l1]at q1 q2 hx;rw[Array.getElem?_toList]at hx;exact⟨HZ hl,BH hl q1 q2 f hx (cK (t:=s.toks) X e tx (fun q=>nomatch q))⟩
  |_=>exact aq e
 |tup l=>induction i using MV.casesOn with
  |int j=>
   refine oA (aG (show cond (UA j l.length) (k (l.getD _ .none)) none=some ah from e)) fun q e9=>?_;try clear e;revert e9;intro e;refine dh (D7 q) fun f q1 q2=>?_;refine jD (ca.tup) fun ad o vs m o4 e1 e2 e3 t=>?_;clear ca;obtain rfl:=o4;refine oE (ti.int_inv) fun O1 o1=>?_;try clear ti;obtain rfl:=o1;revert O1;intro ti;have l1:=t.length;simp only[jk]at l1;refine oA (H7 q1 q2) fun q3 q4=>?_;refine aH (t.get _ q4) fun x hx tx=>?_;rw[Array.getElem?_toList]at hx;refine oA (CG f) fun f1 f2=>?_;exact⟨O0 e1 e2,PyProof.Rows.getItem_tuple ⟨o,e1,e2,_,e3⟩ (Int.le_trans (by decide) f1) (Int.lt_of_le_of_lt f2 (by decide)) (by rw[←l1];exact q3) hx (cK (t:=s.toks) X e tx (fun q=>nomatch q))⟩
  |_=>exact aq e
 |bytes l=>induction i using MV.casesOn with
  |int j=>
   refine oA (aG (show cond (UA j l.length) (k (.int (l.getD _ 0:Nat))) none=some ah from e)) fun q e9=>?_;try clear e;revert e9;intro e;refine dh (D7 q) fun f q1 q2=>?_;refine cF (ca.bytes) fun b t o2 o3=>?_;obtain rfl:=o2;clear ca q;obtain rfl:=o3;refine oE (ti.int_inv) fun O1 o1=>?_;try clear ti;obtain rfl:=o1;revert O1;intro ti;simp only[bI,jk]at q1 q2 e;refine oA (H7 q1 q2) fun q3 q4=>?_;refine oA (Mm b _ q4) fun b1 b2=>?_;refine oA (CG f) fun f1 f2=>?_;rw[←b2]at e;refine⟨Fq,getItem_gives (typeIs_bytes s _ _) (by decide) FB.slot_bytes_getitem FB.entry_bytes_getitem (FB.args_bytes_getitem_2 _ _) (gives_bytes_getitem _ _ t _ _ ?_ (by rw[q3];exact b1)) (cK X e (.int _ _) (fun q=>nomatch q))⟩;simp only[Builtin.Bytes.fitsIndex,oG,decide_eq_true_eq];exact⟨Int.le_trans (by decide) f1,Int.lt_of_le_of_lt f2 (by decide)⟩
  |_=>exact aq e
 |gk dd=>
  have e:cond (dW dd) none (cond (mL i dd&&qR i dd) (k (yU i dd)) none)=some ah:=e;refine bT (dW dd) (fun nn=>?_) fun nn=>?_
  ·rw[nn]at e;exact aq e
  ·
   rw[nn,bN]at e;refine oA (aG e) fun q e9=>?_;try clear e;revert e9;intro e;refine oA (bk.mp q) fun q1 q2=>?_;refine gO (ca.gk) fun ad o1 hs o3=>?_;clear ca;obtain rfl:=o1;obtain⟨kvs,hd,r⟩|⟨kvs,hd,r⟩:=o3
   ·refine oE (K4 r nn q1) fun i o1=>?_
    obtain rfl:=o1;refine oE (ti.int_inv) fun t o1=>?_;obtain rfl:=o1;refine aH ((OT r i).2 q2) fun v hv fv=>?_;exact⟨H6 hd,wpAny_getItem_of (intKind_is _ _ i t) hd.mapOf hv (cK X e (Ft fv) (fun q=>nomatch q))⟩
   ·refine oE (K5 r nn q1) fun i o1=>?_
    obtain rfl:=o1;refine oE (ti.str_inv) fun t o1=>?_;obtain rfl:=o1;refine aH ((OU r i).2 q2) fun v hv fv=>?_;exact⟨H6 hd,wpAny_getItem_of (strKind_is _ _ i t) hd.mapOf hv (cK X e (Ft fv) (fun q=>nomatch q))⟩
 |_=>exact aq e
theorem O3(n:Nat)(i:Int):(cond (decide (i<0)) (cond (decide (i+n<0)) 0 (i+n)) (cond (decide ((n:Int)<i)) (n:Int) i)).toNat=clipAt n i:=by
 unfold clipAt
 by_cases q:i<0
 ·rw[aM q,if_pos q,ir,Int.min_eq_left (Int.le_trans (Int.add_le_add_right (Int.le_of_lt q) n) (Int.le_of_eq (Int.zero_add _)))]
  by_cases q2:i+(n:Int)<0
  ·rw[aM q2,Int.max_eq_left (Int.le_of_lt q2)];rfl
  ·rw[gF q2,Int.max_eq_right (Int.not_lt.mp q2)];rfl
 ·rw[gF q,bG q,bN]
  by_cases q2:(n:Int)<i
  ·rw[aM q2,Int.min_eq_right (Int.le_of_lt q2),Int.max_eq_right (oH n)];rfl
  ·rw[gF q2,Int.min_eq_left (Int.not_lt.mp q2),Int.max_eq_right (Int.not_lt.mp q)];rfl
theorem UB(lo hi:Option Int)(n:Nat):kms_lo lo n=lo.elim 0 (clipAt n)/\kms_hi hi n=hi.elim n (clipAt n):=by
 have e:=(kms_bounds lo hi n).symm.trans (sliceBounds_plain lo hi n);exact⟨Int.ofNat.inj (bq (·.1) e),Int.ofNat.inj (bq (·.2.1) e)⟩
theorem H8(n:Nat)(a:Option Int):(Az n a).toNat=a.elim 0 (clipAt n):=by
 induction a using Option.casesOn with
 |none=>rfl
 |some i=>exact O3 n i
theorem H9(n:Nat)(a:Option Int):(AA n a).toNat=a.elim n (clipAt n):=by
 induction a using Option.casesOn with
 |none=>rfl
 |some i=>exact O3 n i
variable{β:Type}
theorem Ia(l:List β)(a b:Option Int):cut l a b=(l.drop (a.elim 0 (clipAt l.length))).take (b.elim l.length (clipAt l.length) - a.elim 0 (clipAt l.length)):=by
 unfold cut;dsimp only;rw[H8,H9,List.drop_take]
theorem V2(l:List Value)(a b:Option Int):cut l a b=kms_pick l a b:=by
 unfold cut kms_pick;dsimp only;rw[H8,H9,List.drop_take,(UB a b _).1,(UB a b _).2]
theorem V3(l:List β)(a b:Option Int):(cut l a b).length<=l.length:=by
 unfold cut;rw[List.length_drop,List.length_take];exact aI (Nat.sub_le _ _) (Nat.min_le_right _ _)
theorem aQ.cut{m v}(t:aQ h O m v)(a b:Option Int):aQ h O (Mine.cut m a b) (Mine.cut v a b):=by
 unfold Mine.cut;rw[t.length];exact(t.take _).drop _
theorem V4{γ:Type}(f:β->γ)(l:List β)(a b:Option Int):cut (l.map f) a b=(cut l a b).map f:=by
 unfold cut;rw[bI,List.map_drop,List.map_take]
theorem K7(a b:Option Int)(n:Nat):Builtin.Str.strSliceIndices a b 1 n=sliceRange ((a.elim 0 (clipAt n):Nat):Int) ((b.elim n (clipAt n):Nat):Int) 1:=by
 have h1:(1:Int)>0:=by decide
 induction a using Option.casesOn<;>induction b using Option.casesOn<;>simp only[Option.elim,clipAt_cast,h1,if_true,Int.ofNat_zero]<;>rfl
theorem V5(x:Str)(a b:Option Int):(Builtin.Str.strSliceIndices a b 1 x.length).filterMap (x.cps[·]?)=cut x.cps.toList a b:=by
 rw[K7,sliceRange_one,pick_run,Ia]
 rfl
theorem CH{i:Option Int}(p:IsPart v i):∃q:Option (Int×Tok),v=partValue q/\q.map (·.1)=i:=by
 induction p using IsPart.casesOn with
 |none=>exact⟨none,rfl,rfl⟩
 |int i t=>exact⟨some (i,t),rfl,rfl⟩
theorem O4(n:Nat)(i:Int):clipAt n i<=n:=by
 have h:(clipAt n i:Int)<=n:=by rw[clipAt_cast];exact Int.max_le.mpr ⟨oH _,Int.min_le_right _ _⟩
 exact Int.ofNat_le.mp h
theorem V6(n:Nat)(i:Option Int):i.elim n (clipAt n)<=n:=by
 induction i using Option.casesOn with
 |none=>exact gK _
 |some i=>exact O4 n i
theorem V7(l:List β)(a b:Option Int):(cut l a b).Sublist l:=by
 exact(List.drop_sublist _ _).trans (List.take_sublist _ _)
theorem RI {x : Str} {t : Tok} {p1 p2 : Option (Int × Tok)}  (hz : x.length ≤ sizeLine) (hq : ∀ t' tk, Q (.str ⟨(cut x.cps.toList (p1.map (·.1)) (p2.map (·.1))).toArray⟩ t') { s with toks := tk }) :
    (sliceMade x t p1 p2 none).post Q s := by
  have e1 : (slicePicked x p1 p2 none).filterMap (x.cps[·]?) = cut x.cps.toList (p1.map (·.1)) (p2.map (·.1)) := V5 _ _ _
  have hl : x.cps.toList.length = x.length := rfl
  unfold sliceMade
  split
  · rename_i q
    refine oA (bk.mp q) fun _ q9 => ?_
    try clear q
    revert q9; intro q
    have q := eq_of_beq q
    have e2 : (slicePicked x p1 p2 none).length = (cut x.cps.toList (p1.map (·.1)) (p2.map (·.1))).length := by
      refine (?_ : (Builtin.Str.strSliceIndices _ _ 1 _).length = _)
      rw [K7, sliceRange_one, Ia, bI, List.length_range, List.length_take, List.length_drop, hl]
      exact (Nat.min_eq_left (Nat.sub_le_sub_right (V6 x.length (p2.map (·.1))) _)).symm
    have e3 : cut x.cps.toList (p1.map (·.1)) (p2.map (·.1)) = x.cps.toList := (V7 _ _ _).eq_of_length (by rw [← e2, q]; exact hl.symm)
    have := hq t s.toks
    rw [e3] at this
    exact this
  · rw [e1]
    refine ⟨?_, hq _ _⟩
    refine (?_ : (cut x.cps.toList (p1.map (·.1)) (p2.map (·.1))).toArray.size ≤ _)
    rw [List.size_toArray]
    exact aI (V3 _ _ _) (by rw [hl]; exact hz)
noncomputable abbrev oY(l u:Value):Obj:= {cls:= .type "slice",data:= .fields #[l,u,.none]}
theorem Zj {a : MV} {vl vu : Value} {lo hi : Option Int}   (X : az F envs aa al st s.heap) (e : Rn a lo hi k = some ah) (ca : cN s.heap (Ob F aa al) a va) (pl : IsPart vl lo) (pu : IsPart vu hi) :
    Fp { s with heap := s.heap.push (oY vl vu) } va ∧ wpAny (model g.prog g.w) A (getItem va (.ref s.heap.objs.size)) (j6 F envs aa al st s true k ah) aF { s with heap := s.heap.push (oY vl vu) } := by
  have kk : ∀ b o, s.heap.get? b = some o → (s.heap.push (oY vl vu)).get? b = some o := fun b o e => Heap.get?_push_of_some _ e
  have bu : Sp aa al s.heap al (s.heap.push (oY vl vu)) := Sp.ext kk
  have X1 : az F envs aa al st (s.heap.push (oY vl vu)) := X.push _
  induction a using MV.casesOn with
  | lst l =>
    refine oA (aG (show cond (decide (l.length ≤ ak)) (k (.lst (cut l lo hi))) none = some ah from e)) fun q e9 => ?_
    try clear e
    revert e9; intro e
    refine cy (iW ca) fun ad vs o2 hl t => ?_
    clear ca
    obtain rfl := o2
    have hz := bx q
    have l1 := t.length
    simp only [jk] at l1
    have := iH
    refine ⟨HZ (hl.push _), wpAny_getItem_list_slice (hl.push _) (Heap.IsSliceOf.new ..) pl pu .none (by simp) ?_ (by lia)⟩
    have t1 : aQ (s.heap.push (oY vl vu)) (Ob F aa al) (cut _ lo hi) (cut vs.toList lo hi) := (t.ext kk).cut lo hi
    have z := tV (s := { s with heap := s.heap.push (oY vl vu) }) (t := s.toks) X1 e t1
    obtain ⟨m, e, X2, r, sp, sm⟩ := z
    rw [kms_pick_eq, ← V2]
    exact ⟨m, e, X2, r.base (bu.sq (pm := [])), bu.trans sp, ⟨rfl, rfl, rfl⟩⟩
  | bytes l =>
    refine oA (aG (show cond (decide (l.length ≤ ak)) (k (.bytes (cut l lo hi))) none = some ah from e)) fun q e9 => ?_
    try clear e
    revert e9; intro e
    refine cF (ca.bytes) fun b t o2 o3 => ?_
    obtain rfl := o2
    clear ca
    obtain rfl := o3
    have hz := bx q
    simp only [bI, jk] at hz
    have := iH
    refine ⟨Fq, getItem_meets (typeIs_bytes _ _ _) (by decide) FB.slot_bytes_getitem FB.entry_bytes_getitem (FB.args_bytes_getitem_2 _ _) (KBc.meets_slice2 b t _ pl pu) ⟨Heap.IsSliceOf.new .., aI (KBc.size_picked_le b lo hi) (by exact aI hz this), fun t' kt => ?_⟩⟩
    have eb : cut (b.toList.map UInt8.toNat) lo hi = (KBy.picked b lo hi).toList.map UInt8.toNat := by
      rw [V4, KBc.picked_eq, Ia]
      rfl
    rw [eb] at e
    exact ⟨_, e, X1, .tree (.bytes _ _) (fun _ => rfl), bu, ⟨rfl, rfl, rfl⟩⟩
  | str l =>
    refine oA (aG (show cond (decide (l.length ≤ ak)) (k (.str ⟨(cut l.cps.toList lo hi).toArray⟩)) none = some ah from e)) fun q e9 => ?_
    try clear e
    revert e9; intro e
    refine oE (ca.str) fun t o1 => ?_
    clear ca
    obtain rfl := o1
    refine aH (CH pl) fun p1 o1 o2 => ?_
    obtain rfl := o1
    clear pl
    obtain rfl := o2
    refine aH (CH pu) fun p2 o1 o2 => ?_
    clear kk
    obtain rfl := o1
    clear pu
    obtain rfl := o2
    have hz := bx q
    have := iH
    refine ⟨V0, wpAny_getItem_str_slice (l := p1) (u := p2) (st := none) (Heap.IsSliceOf.new ..) rfl ?_⟩
    refine RI (aI hz this) fun t' tk => ?_
    exact ⟨_, e, X1, .tree (.str _ _) (fun _ => rfl), bu, ⟨rfl, rfl, rfl⟩⟩
  | _ => exact aq e
end
variable{m:MV}
section
variable{β:Type}
theorem mlstE{v:Option MV}{a:List MV->Option β}{b:MV->Option β}{o:β}(e:(match v with|some (.dI l)=>a l|some t=>b t|Option.none=>Option.none)=some o):∃t,v=some t/\((∃l,t= .dI l/\a l=some o)∨((∀l,t≠ .dI l)/\b t=some o)):=by
 induction v using Option.casesOn with
 |none=>exact aq e
 |some t=>exact⟨t,rfl,by induction t using MV.casesOn<;>first|exact .inl ⟨_,rfl,e⟩|exact .inr ⟨(fun _ q=>nomatch q),e⟩⟩
theorem cN.stp0(S:cM h O h O' W)(c:cN h O m v):cN h O' m v:=by
 induction c using cN.casesOn with
 |tree t=>exact .tree (t.aU S)
 |own o=>exact .own (o.aU S fun _ _ _ e=>e)
 |pZ q=>exact .pZ q
theorem Sp.aU(s:Sp aa al h al' h'):cM h (Ob F aa al) h' (Ob F aa al') (aa.flatten++flat al):=(s.sq (pm:=[])).aU
theorem AJ(G:fO g consts)(X:az F envs aa al st h):g.K.In h:=fun a o e=>X.jN _ _ (G.ze a o e)
variable{dx:Addr}{es:List DictEntry}
theorem AK{a C:Addr}{n:Nat}(e:h.get? a=some (instObj C dx))(d:h.get? dx=some (dictOf es n)):InstAt h a (instObj C dx) C (some (dictOf es n)):=⟨e,rfl,rfl,d⟩
variable{a x:Str}{t:Tok}{en:DictEntry}
theorem AL(k:en.key= .str x t)(q:(x==a)=true):getL a (en::es)=some (some en.val):=by
 have hk:en.key.isStr a=true:=by rw[k];exact q
 unfold getL;rw[List.find?_cons,hk]
theorem ue(k:en.key= .str x t)(q:(x==a)=false):getL a (en::es)=getL a es:=by
 have hk:en.key.isStr a=false:=by rw[k];exact q
 have:en.refKey=false:=by unfold DictEntry.refKey;rw[k]
 unfold getL;rw[List.find?_cons,hk,List.any_cons,this,Bool.false_or]
theorem pF{v:β}{r:List (Str×β)}(q:(x==a)=true):look ((x,v)::r) a=some v:=by
 show cond (x==a) (some v) (look r a)=_;rw[q,ir]
theorem pG{v:β}{r:List (Str×β)}(q:(x==a)=false):look ((x,v)::r) a=look r a:=by
 show cond (x==a) (some v) (look r a)=_;rw[q,bN]
theorem nY.cons_inv{x mv fs es}(y:nY h O ((x,mv)::fs) es):∃t e r,es=e::r/\e.key= .str x t/\Tree h O mv e.val/\nY h O fs r:=by cases y with|cons a b c=>exact⟨_,_,_,rfl,a,b,c⟩
theorem RJ{fs es mv}(y:nY h O fs es)(e:look fs a=some mv):∃v,getL a es=some (some v)/\Tree h O mv v:=by
 induction fs generalizing es with
 |nil=>exact aq e
 |cons p fs ih=>
  obtain⟨x,m⟩:=p;refine gX (y.cons_inv) fun t en r o3 k tt y9=>?_;try clear y;obtain rfl:=o3;revert y9;intro y;refine bT (x==a) (fun q=>?_) fun q=>?_
  ·
   rw[pF q]at e;have eO:=dm e;clear e ih;obtain rfl:=eO;exact⟨_,AL k q,tt⟩
  ·
   rw[pG q]at e;rw[ue k q];exact ih y e
inductive Zk(h:Heap)(O as:List Addr)(mv:MV)(v:Value):Prop
 |mk (l:_) (b:_) (o:_) (vs:_) (n:_) (e1:mv= .dI l) (e2:v= .ref b) (hb:b∈as) (ho:h.get? b=some o) (hc:o.cls= .type "list") (gT:o.dict=none) (hd:o.data= .seq vs n) (tr:aQ h O l vs.toList):Zk h O as mv v
theorem D8{fs es as mv}(y:cV h O fs es as)(e:look fs a=some mv):∃v,getL a es=some (some v)/\(Tree h O mv v∨Zk h O as mv v):=by
 induction y with
 |nil=>exact aq e
 | @tree x t m en fs es as k tt r ih=>
  refine bT (x==a) (fun q=>?_) fun q=>?_
  ·
   rw[pF q]at e;have eO:=dm e;clear e ih;obtain rfl:=eO;exact⟨_,AL k q,.inl tt⟩
  ·
   rw[pG q]at e;rw[ue k q];exact ih e
 | @dI x t l en fs es as b o vs n k kv ho hc gT hd tr r ih=>
  refine bT (x==a) (fun q=>?_) fun q=>?_
  ·
   rw[pF q]at e;have eO:=dm e;clear e ih;obtain rfl:=eO;exact⟨_,AL k q,.inr ⟨_,_,_,_,_,rfl,kv,.head _,ho,hc,gT,hd,tr⟩⟩
  ·
   rw[pG q]at e;rw[ue k q];refine aH (ih e) fun v h1 h2=>?_;exact⟨v,h1,h2.imp id fun⟨l,b,o,vs,n,h3,h4,h5,h6,h7,h8,h9,Fv⟩=>⟨l,b,o,vs,n,h3,h4,.tail _ h5,h6,h7,h8,h9,Fv⟩⟩
theorem Tree.handed{m v}(t:Tree h O m v):handedIn v=true:=by induction t using Tree.casesOn<;>rfl
variable{Q:Value->Shared->Prop}
theorem CI(G:fO g consts)(X:g.K.In s.heap){c:Str}{x C:Addr}{n:Nat}(hc:look g.cls c=some C)(ha:cJ a eG=true)
  (e:s.heap.get? x=some (instObj C dx)) (dd:s.heap.get? dx=some (dictOf es n)) (hl:getL a es=some (some v)) (hh:handedIn v=true) (h:Q v {s with toks:=s.toks+1}):
  wpAny (model g.prog g.w) A (getAttr (.ref x) a true) Q aF s:=by
 have f:=G.fld c C a hc ha;simp only[uC,oG,beq_iff_eq]at f;refine pS (f) fun f1 f2 f3 f4 f5 f6=>?_;try clear f;exact get_value X (AK e dd) (plainGet_of f1).1 (findObj_own (attr:=none) f2 f3 rfl hl) hh h
variable{o:Expr}
theorem D9{t:Sem Value}(q:oU o=false):attributeBase o a env t=t:=by
 induction o using Expr.casesOn<;>first|rfl|exact aP q.symm
theorem az.give{m:MV}{as:List Addr}{b:Addr}(X:az F envs aa al st h)(e:look al x=some as)(hb:b∈as):
  az ([b]++F) envs aa (del al x) {st with ow:=del st.ow x} h:=by
 have sub:∀c,c∈Ob ([b]++F) aa (del al x)->c∈Ob F aa al:=fun c q=>by
  rw[aO]at q ⊢
  rcases q with q|q|q
  ·rcases bR.mp q with q|q
   ·rcases bQ.mp q with rfl
    exact .inr (.inr (cZ e _ hb))
   ·exact .inl q
  ·exact .inr (.inl q)
  ·exact .inr (.inr (eY x q))
 have S:cM h (Ob F aa al) h (Ob ([b]++F) aa (del al x)) []:=⟨fun _ _ e _=>e,fun _ _ _ q z=>q (sub _ z),fun _ q=>nomatch q⟩;have hd:∀k as',look (del al x) k=some as'->∃as,look al k=some as/\as.head?=as'.head?:=fun k as' q=>by
  have q:=(j4 q).2
  ·exact⟨as',q,rfl⟩
 refine⟨X.fr.aU S hd fun _ _ _ e=>e,(X.ow.aU S fun _ _ _ e=>e).del x,?_,fun c q=>X.live c (sub c q),fun c q=>X.hi c (sub c q),X.jN,X.top⟩;have nd:=X.nd;refine dh (cg.mp nd) fun n1 n2 n3=>?_;obtain⟨n4,n5,n6⟩:=cg.mp n2;have O5:=cZ e b hb;show(b::(F++(aa.flatten++flat (del al x)))).Nodup;refine gh.mpr ⟨fun z=>?_,nd.sublist ((j5 F).append ((j5 _).append (je x al)))⟩
 rcases bR.mp z with z|z
 ·exact n3 b z b (cO _ O5) rfl
 ·rcases bR.mp z with z|z
  ·exact n6 b z b O5 rfl
  ·exact jg n5 e b hb z
theorem Sp.del:Sp aa al h (del al x) h:=⟨fun _ _ e _ _=>e,fun b q=> .inl (eY x q),fun k' as' q=>by
  have q:=(j4 q).2
  ·exact⟨as',q,rfl⟩⟩
theorem V8{UC UD step:Option Expr}{p:Pos}
  (h:aE (model g.prog g.w) A (evalPart UC env) (fun l s₁=>aE (model g.prog g.w) A (evalPart UD env) (fun u s₂=>aE (model g.prog g.w) A (evalPart step env) (fun st s₃=>
   Q (.ref s₃.heap.objs.size) {s₃ with heap:=s₃.heap.push {cls:= .type "slice",data:= .fields #[l,u,st]}}) aF s₂) aF s₁) aF s):
  aE (model g.prog g.w) A (eval (.Slice UC UD step p) env) Q aF s:=by
 rw[arm_eval_Slice];refine aj (aN h fun l s₁ h₁=>aj (aW (aN h₁ fun u s₂ h₂=>aj (aW (aN h₂ fun st s₃ h₃=>?_)))));exact aT (wpAny_newObj_type h₃)
variable(hs:bU d n tb pm self)(R:bz A d n tb)
include hs R
variable{pos:Pos}{k:MV->Bool->St->Option α}{ah:α}
theorem V9{v i:Expr}(X:az F (env::envs) aa al st s.heap)
  (e:(self.ex v st fun a _ aA=>self.ex i aA fun j _ au=>cU a au fun a'=>bW j au fun j' bX=>LQ a' j' fun r=>k r false bX)=some ah):
  aE (model g.prog g.w) A (eval (.Subscript v i pos) env) (d9 F (env::envs) aa al s k ah) aF s:=by
 refine HY (aN (hs.ex e R X) ?_);rintro va s1 ⟨a,fr,aA,bY,e,X1,ra,bu,bA⟩;refine aN (hs.ex e R X1) ?_;rintro vb s2 ⟨b,fr,au,aV,e,X2,rb,bS,eF⟩;refine aH (gG X2 (ra.AI bS) e) fun a' e9 ca=>?_;try clear e;revert e9;intro e;refine gX (gq X2 rb.jE e) fun b' bX qE e9 X3 tb gr=>?_;try clear e;revert e9;intro e;obtain⟨hi,hg⟩:=V1 X3 e (ca.stp0 (Sp.aU (F:=F) gr)) tb;exact⟨hi,aN (aT hg) fun r s3 w=>((w.want.back gr .refl).back bS eF).back bu bA⟩
variable{lo:Option Expr}
theorem O6{k:Option Int->St->Option α}(X:az F (env::envs) aa al st s.heap)(e:wz self lo st k=some ah):
  aE (model g.prog g.w) A (evalPart lo env) (fun v s'=>∃i aY al',IsPart v i/\k i aY=some ah/\az F (env::envs) aa al' aY s'.heap/\Sp aa al s.heap al' s'.heap/\dQ s s') aF s:=by
 induction lo using Option.casesOn with
 |none=>exact aK ⟨none,st,al,.none,e,X,.refl,.refl⟩
 |some x=>
  have e1:(self.ex x st fun v _ aA=>match v with
   | .int i=>k (some i) aA
   |_=>Option.none)=some ah:=e
  rw[evalPart_some];refine aN (hs.ex e1 R X) ?_;rintro va s1 ⟨a,fr,aA,bY,e,X1,ra,bu,bA⟩
  try dsimp only at e
  refine aH (LP e) fun i9 oi e9=>?_;clear e;obtain rfl:=oi;revert e9;intro e
  ·obtain⟨N,ra,-⟩:=ra
   cases ra with
   |tree t _=>
    cases t with
    |int i t=>exact⟨_,_,_,.int _ _,e,X1,bu,bA⟩
   |fresh _ o=>exact o.no rfl
variable{p:Pos}
theorem RK{v:Expr}{hi:Option Expr}(X:az F (env::envs) aa al st s.heap)
  (e:(self.ex v st fun a _ aA=>wz self lo aA fun HB au=>wz self hi au fun za bX=>cU a bX fun a'=>Rn a' HB za fun r=>k r true bX)=some ah):
  aE (model g.prog g.w) A (eval (.Subscript v (.Slice lo hi none p) pos) env) (d9 F (env::envs) aa al s k ah) aF s:=by
 refine HY (aN (hs.ex e R X) ?_);rintro va s1 ⟨a,fr,aA,bY,e,X1,ra,bu,bA⟩;refine V8 (aN (O6 hs R X1 e) ?_);rintro vl s2 ⟨HB,au,aV,pl,e,X2,bS,eF⟩;refine aN (O6 hs R X2 e) ?_;rintro vu s3 ⟨za,bX,qE,pu,e,X3,gr,jm⟩;rw[evalPart_none];refine aH (gG X3 ((ra.AI bS).sp gr) e) fun a' e9 ca=>?_;try clear e;revert e9;intro e;obtain⟨Zl,hg⟩:=Zj X3 e ca pl pu;refine aK ⟨Zl,aN (aT hg) fun r s4 w=>?_⟩;exact((w.want.back gr jm).back bS eF).back bu bA
set_option tactic.hygienic true in
theorem Wa (G : fO g consts)   {pos : Pos}  {ah : α} (X : az F (env :: envs) aa al st s.heap)
    (e : (cond (oU o || !cJ a eG) Option.none <| self.ex o st fun v _ aA => match v with
    | .own x => (match look aA.ow x with
      | some (.obj _ fs) => (match look fs a with
        | some (.dI l) => k (.lst l) true { aA with ow := del aA.ow x }
        | some t => k t false aA
        | Option.none => Option.none)
      | _ => Option.none)
    | .obj _ fs => cond (gY fs) (match look fs a with | some t => k t false aA | Option.none => Option.none) Option.none
    | _ => Option.none) = some ah) :
    aE (model g.prog g.w) A (eval (.Attribute o a pos) env) (d9 F (env :: envs) aa al s k ah) aF s := by
  refine bT ((oU o || !cJ a eG)) (fun q => ?_) fun q => ?_
  · rw [q] at e; exact aq e
  ·
    rw [q, bN] at e
    refine oA (gS.mp q) fun q1 q2 => ?_
    have q2 : cJ a eG = true := by cases z : cJ a eG <;> simp [z] at q2 ⊢
    rw [arm_eval_Attribute, D9 q1]
    refine aj (aN (hs.ex e R X) ?_)
    rintro va s1 ⟨m, fr, aA, bY, e, X1, ra, bu, bA⟩
    refine aj (aX (aj (aW ?_)))
    have gm : ∀ {v : Value}, d9 F (env :: envs) aa bY s1 k ah v { s1 with toks := s1.toks + 1 } → aE (model g.prog g.w) A (letTemporaryGo o va v >>= fun _ => pure v) (d9 F (env :: envs) aa al s k ah) aF { s1 with toks := s1.toks + 1 } :=
      fun w => aj (aT (wpAny_letTemporaryGo (aK (w.back bu bA))))
    have ze := AJ G X1
    try dsimp only at e
    induction m using MV.casesOn with
    | own x =>
      refine cF (Rk e) fun c fs hx e9 => ?_
      clear e
      revert e9; intro e
      ·
        refine aH (X1.ow.look hx) fun as ha oo => ?_
        have hv : cS s1.heap (Ob F aa bY) bY (.own x) va := ra.jE
        refine cF (hv _ ha) fun b r o2 o3 => ?_
        obtain rfl := o2
        clear hv ra
        obtain rfl := o3
        cases oo with
        | obj hc ho hd hf =>
          refine aH (mlstE e) fun t hl e9 => ?_
          clear e
          rcases e9 with ⟨l, z, e⟩ | ⟨zh, e⟩
          · obtain rfl := z
            refine aH (D8 hf hl) fun v h1 h2 => ?_
            rcases h2 with h2 | ⟨l', b', o', vs, nn, h3, rfl, h5, h6, h7, h7', h8, h9⟩
            · exact nomatch h2
            · cases h3
              refine aT <| CI G ze hc q2 ho hd h1 rfl (gm ?_)
              have X2 := X1.give (m := .none) (b := b') ha (.tail _ (.tail _ h5))
              have S0 : cM s1.heap (Ob F aa bY) s1.heap (Ob ([b'] ++ F) aa (del bY x)) [] := by
                refine ⟨fun _ _ e _ => e, fun c o e q => ?_, fun _ q => nomatch q⟩
                intro z
                rw [aO] at z q
                rcases z with z | z | z
                · rcases bR.mp z with z | z
                  · rcases bQ.mp z with rfl
                    exact q (.inr (.inr (cZ ha _ (.tail _ (.tail _ h5)))))
                  · exact q (.inl z)
                · exact q (.inr (.inl z))
                · exact q (.inr (.inr (eY x z)))
              exact ⟨_, _, _, _, e, X2.vI, ⟨[b'], .fresh (as := []) X2 (.lst h6 h7 h7' h8 (h9.aU S0)), fun c q => by rcases bQ.mp q with rfl; exact .inl (cZ ha _ (.tail _ (.tail _ h5)))⟩, .del, ⟨rfl, rfl, rfl⟩⟩
          ·
            refine aH (D8 hf hl) fun v h1 h2 => ?_
            rcases h2 with h2 | ⟨l', b', o', vs, nn, rfl, h4⟩
            · exact aT <| CI G ze hc q2 ho hd h1 h2.handed (gm ⟨_, _, _, _, e, X1, .tree h2 (fun q => nomatch q), .refl, ⟨rfl, rfl, rfl⟩⟩)
            · exact absurd rfl (zh l')
    | obj c fs =>
      refine oA (aG e) fun q3 e9 => ?_
      try clear e
      revert e9; intro e
      have tt : Tree s1.heap (Ob F aa bY) (.obj c fs) va := ra.jE q3
      refine nE (look fs a) (fun hl => ?_) fun t hl => ?_
      · rw [hl] at e; exact aq e
      · rw [hl] at e
        cases tt with
        | obj hc ho hd n1 n2 hf =>
          refine aH (RJ hf hl) fun v h1 h2 => ?_
          exact aT <| CI G ze hc q2 ho hd h1 h2.handed (gm ⟨_, _, _, _, e, X1, .tree h2 (fun q => nomatch q), .refl, ⟨rfl, rfl, rfl⟩⟩)
    | _ => exact aq e
end
section
theorem K8:∀{es:List Expr} {pos:Pos},bC es=false->(backTo pos (starEach es env)).any (·.1)=false:=by
 intro x0
 induction x0 with
 |nil=>
  intro _ _;exact rfl
 |cons e r ih=>
  intro pos q;refine oA (fz (env:=env) q) fun a b=>?_;rw[a];show(false||_)=false;exact ih b
variable{f:Value}{pos:Pos}
theorem Ib {Q : Args → Shared → Prop} : ∀ {es : List Expr}, bC es = false → aE (model g.prog g.w) A (spliced (backTo pos (starEach es env))) (fun vs s' => Q ⟨vs, []⟩ s') aF s →
    aE (model g.prog g.w) A (evalArgs f true (backTo pos (starEach es env)) []) Q aF s := by
  intro x0
  induction x0 with
  | nil =>
    intro _ x
    unfold evalArgs
    show aE _ A (spliced [] >>= _) Q aF s
    refine aj (aN x fun vs s' h' => ?_)
    first
      | (refine aj (aK ?_)
         refine aW ?_
         exact aj (aK (aj (aK (aK h')))))
      | (refine aW ?_
         exact aj (aK (aj (aK (aK h')))))
  | cons e r ih =>
    intro q x
    rw [(fz (env := env) q).1] at x ⊢
    unfold evalArgs
    show aE _ A (spliced ((false, eval e env) :: backTo pos (starEach r env)) >>= _) Q aF s
    refine aj (aN x fun vs s' h' => ?_)
    refine aW ?_
    exact aj (aK (aj (aK (aK h'))))
def Keeps(f:Value)(P:Heap->Prop):Prop:=∀h,P h->∃k,(k=Keeper.frame∨k=Keeper.machine∨k=Keeper.boundFrame)/\Looks (model g.prog g.w) h (keeperOf f) k
theorem iX{T:String}:Keeps (.type T) fun _=>True:=fun h _=>⟨.machine,.inr (.inl rfl),Looks.of_pure rfl⟩
theorem oJ{T:String}:Keeps (.builtin T) fun _=>True:=fun h _=>⟨.machine,.inr (.inl rfl),Looks.of_pure rfl⟩
theorem Zm{β:Type}{vs:List Value}{m:Sem β}{Q:β->Shared->Prop}(h:aE (model g.prog g.w) A m Q aF s):aE (model g.prog g.w) A (m.keep vs) Q aF s:=
 fun Γ p hΓ hc=>by rw[Sem.wp_keep];exact h Γ p hΓ hc
variable{P:Heap->Prop}{es:List Expr}{Q:Value->Shared->Prop}
theorem uJ{first:List Value}(hk:Keeps f P)(q:bC es=false)(ln:es.length<=20)
  (h:aE (model g.prog g.w) A (spliced (backTo pos (starEach es env))) (fun vs s₁=>P s₁.heap/\aE (model g.prog g.w) A (call f (first++vs)) Q aF s₁) aF s):
  aE (model g.prog g.w) A (callWith pos f first (backTo pos (starEach es env)) []) Q aF s:=by
 have Zn:((backTo pos (starEach es env)).any (·.1)||([]:List (Option Str×Sem Value)).any (·.1.isNone))=false:=by rw[K8 q];rfl
 unfold callWith;refine aj (aW (aN (Ib (Q:=fun a s₁=>P s₁.heap/\aE (model g.prog g.w) A (call f (first++a.pos) a.kw) Q aF s₁) q h) fun a s₁ h₁=>aj (aX ?_)));refine aH (hk _ h₁.1) fun k O7 L=>?_;simp only[Zn];refine aj (aT (L.here ?_));have tail:∀{t:Sem Value},aE (model g.prog g.w) A t Q aF s₁->aE (model g.prog g.w) A (t >>= fun r=>holding [r] point >>= fun _=>pure r) Q aF s₁:=
  fun ht=>aj (aN ht fun r s₂ hr=>aj (aW (aT (wpAny_point (aK hr)))))
 have h2:aE (model g.prog g.w) A (call f (first++a.pos) a.kw) Q aF s₁:=h₁.2;have Zo (mk:Value):aE (model g.prog g.w) A (callMarked mk f (first++a.pos) a.kw) Q aF s₁:=by unfold callMarked;exact Zm h2
 rcases O7 with rfl|rfl|rfl<;>dsimp only<;>first|exact tail h2|(split<;>first|exact tail h2|exact tail (Zo _))
theorem g8{fv:Value}{f:Str}{p:Pos}(od:(f==("__debug__":Str))=false)(hk:Keeps fv P)(q:bC es=false)(ln:es.length≤20)
  (hl:∀Q:Value->Shared->Prop,Q fv s->wpAny (model g.prog g.w) A (loadName env f) Q aF s)
  (h:aE (model g.prog g.w) A (spliced (backTo pos (starEach es env))) (fun vs s₁=>P s₁.heap/\aE (model g.prog g.w) A (call fv vs) Q aF s₁) aF s):
  aE (model g.prog g.w) A (eval (.Call (.Name f p) es [] pos) env) Q aF s:=by
 show aE _ _ (do callWith pos (←eval (.Name f p) env) [] (backTo pos (starEach es env)) (backToKw pos (keywordEach [] env))) _ _ _;exact aj (aT (wpAny_Name (hl _ (uJ hk q ln h)) od))
def Bi(F:List Addr)(envs:List Env)(aa:List (List Addr))(al:Al)(st:St)(A:Around)(s:Shared)(k:MV->Option α)(ah:α)(f va:Value):Prop:=
 wpAny (model g.prog g.w) A (call f [va]) (j6 F envs aa al st s true k ah) aF s
variable{m:MV}{k:MV->Option α}{ah:α}
theorem vJ{fr:Bool}{v:Value}{t:Nat}(X:az F envs aa al st s.heap)(hk:∀b o,s.heap.get? b=some o->h'.get? b=some o)(e:k m=some ah)(tr:Tree s.heap (Ob F aa al) m v)
  (q:fr=true->ji m=false):j6 F envs aa al st s fr k ah v {s with heap:=h',toks:=t}:=
 ⟨m,e,X.ext hk,.tree (tr.ext hk) q,Sp.ext hk,⟨rfl,rfl,rfl⟩⟩
theorem Mn{n:Nat}(h:n<=ak):(n:Int)<2 ^ 63:=Int.lt_of_le_of_lt (Int.ofNat_le.mpr h) (show((ak:Nat):Int)<2 ^ 63 by decide)
variable{a:MV}{va:Value}
theorem Zp(X:az F envs aa al st s.heap)(e:Ro a k=some ah)(ca:cN s.heap (Ob F aa al) a va):Bi F envs aa al st A s k ah (.builtin "len") va:=by
 unfold Ro at e
 induction a using MV.casesOn<;>first|exact aq e|skip
 ·refine oA (aG e) fun q e9=>?_
  try clear e;revert e9;intro e;have hz:=bx q;refine cF (ca.bytes) fun b t o2 o3=>?_;obtain rfl:=o2;clear ca q;obtain rfl:=o3;simp only[bI,jk]at e hz;exact len_bytes (aI hz (by decide)) (cK X e (.int _ _) (fun _=>rfl))
 ·refine oA (aG e) fun q e9=>?_
  try clear e;revert e9;intro e;have hz:=bx q;refine cy (iW ca) fun ad vs o2 hl t=>?_;clear ca;obtain rfl:=o2;have l1:=t.length;simp only[jk]at l1;rw[l1]at e;exact call_len_list hl (Mn (l1▸hz)) (cK X e (.int _ _) (fun _=>rfl))
 ·refine oA (aG e) fun q e9=>?_
  try clear e;revert e9;intro e;have hz:=bx q;refine gO (ca.gk) fun ad o1 hs o3=>?_;clear ca;obtain rfl:=o1;obtain⟨kvs,hd,r⟩|⟨kvs,hd,r⟩:=o3
  ·have l1:∀{dd:List (MV×MV)} {kvs:List (Int×Value)},uD dd kvs->dd.length=kvs.length:=fun r=>by induction r with|nil=>rfl|cons _ _ ih=>exact bq (· +1) ih
   have l1:=l1 r;rw[l1]at e;exact call_len_dict hs hd (Mn (l1▸hz)) (cK X e (.int _ _) (fun _=>rfl))
  ·have l1:∀{dd:List (MV×MV)} {kvs:List (Str×Value)},vG dd kvs->dd.length=kvs.length:=fun r=>by induction r with|nil=>rfl|cons _ _ ih=>exact bq (· +1) ih
   have l1:=l1 r;rw[l1]at e;exact call_len_dict hs hd (Mn (l1▸hz)) (cK X e (.int _ _) (fun _=>rfl))
set_option tactic.hygienic true in
theorem Zq(X:az F envs aa al st s.heap)(e:(match a with
  | .int i=>k (.int i)
  | .bool b=>k (.int (cond b 1 0))
  |_=>Option.none)=some ah) (ca:cN s.heap (Ob F aa al) a va):Bi F envs aa al st A s k ah (.type "int") va:=by
 induction a using MV.casesOn<;>first|exact aq e|skip
 ·obtain rfl:=ca.bool
  refine call_int_bool ?_;rename_i b;have:(if b=true then(1:Int)else 0)=cond b 1 0:=by induction b using Bool.casesOn<;>rfl
  rw[this];exact cK X e (.int _ _) (fun _=>rfl)
 ·refine oE (ca.int) fun t o1=>?_
  clear ca;obtain rfl:=o1;exact call_int_int (cK (t:=s.toks) X e (.int _ _) (fun _=>rfl))
theorem O8{i:Int}(q:small i=true):i.natAbs.log2<1920:=by
 simp only[small,oG,decide_eq_true_eq]at q
 by_cases h0:i.natAbs=0
 ·rw[h0];decide
 ·have:i.natAbs<2 ^ 64:=Uv q
  have:=(Nat.log2_lt h0).mpr this
  lia
theorem Zr(X:az F envs aa al st s.heap)(e:(match a with
  | .int i=>cond (small i) (k (.str (Str.ofString (toString i)))) Option.none
  |_=>Option.none)=some ah) (ca:cN s.heap (Ob F aa al) a va):Bi F envs aa al st A s k ah (.type "str") va:=by
 induction a using MV.casesOn<;>first|exact aq e|skip
 ·refine oA (aG e) fun q e9=>?_
  try clear e;revert e9;intro e;refine oE (ca.int) fun t o1=>?_;clear ca;obtain rfl:=o1;exact P.str_of_int (O8 q) (cK X e (.str _ _) (fun _=>rfl))
variable{r:List MV}
theorem Mp(q:mG (m::r)=true):∃i,m= .int i/\0<=i/\i<256/\mG r=true:=by
 induction m using MV.casesOn<;>first|exact aP q|skip
 refine oA (bk.mp q) fun q1 q2=>?_;refine oA (bk.mp q1) fun q3 q4=>?_;exact⟨_,rfl,bx q3,Int.lt_of_le_of_lt (bx q4) (by decide),q2⟩
variable{l:List MV}
theorem Mq{vs:List Value}(q:mG l=true)(x:aQ h O l vs):∃ns,IntsAre vs ns/\(∀n∈ns,0<=n/\n<256)/\ns.length=vs.length/\(byteArr ns).toList.map UInt8.toNat=Hv l:=by
 induction l generalizing vs with
 |nil=>obtain rfl:=x.iT;exact⟨[],.nil,(fun _ q=>nomatch q),rfl,rfl⟩
 |cons m r ih=>
  refine jS (Mp q) fun i o1 q3 q4 q2=>?_;obtain rfl:=o1;refine cy (x.eT) fun w vs o2 t rr=>?_;obtain rfl:=o2;refine oE (t.int_inv) fun u o1=>?_;obtain rfl:=o1;refine jS (ih q2 rr) fun ns a b c dd=>?_;refine⟨i::ns,.cons _ _ a,?_,bq (· +1) c,?_⟩
  ·intro n hn
   rcases cC.mp hn with rfl|hn
   ·exact⟨q3,q4⟩
   ·exact b n hn
  ·show(i.toNat.toUInt8).toNat::_=i.toNat::Hv r
   have e1:(i.toNat.toUInt8).toNat=i.toNat:=by
    exact Nat.mod_eq_of_lt ((Int.toNat_lt q3).mpr q4)
   rw[e1];exact bq (i.toNat:: ·) dd
theorem oK{vs:Array Value}{c':Nat}{t:Nat}(X:az F envs aa al st s.heap)(hk:∀b o,s.heap.get? b=some o->h'.get? b=some o)(e:k (.lst l)=some ah)
  (ho:h'.get? s.heap.objs.size=some {cls:= .type "list",dict:=none,data:= .seq vs c',slots:= #[]}) (tr:aQ s.heap (Ob F aa al) l vs.toList):
  j6 F envs aa al st s true k ah (.ref s.heap.objs.size) {s with heap:=h',toks:=t}:=by
 have nF:az ([s.heap.objs.size]++F) envs aa al st h':=X.BF hk [s.heap.objs.size] (fun a q=>by
  rcases bQ.mp q with rfl
  exact⟨eW,⟨_,ho⟩,X.big⟩) (by simp)
 refine⟨_,e,X.ext hk,⟨[s.heap.objs.size],.fresh (as:=[]) nF (.lst ho rfl rfl rfl ?_),fun b q=>by rcases bQ.mp q with rfl;exact .inr (.inr eW)⟩,Sp.ext hk,⟨rfl,rfl,rfl⟩⟩;exact tr.aU (cM.Ma X hk (N:=[s.heap.objs.size]) fun a q=>by rcases bQ.mp q with rfl;exact eW)
theorem BI{vs:List Value}(q:l.length=vs.length)(f:∀j v,vs[j]?=some v->Tree h O (l.getD j .none) v):aQ h O l vs:=by
 induction l generalizing vs with
 |nil=>obtain rfl:=List.length_eq_zero_iff.mp q.symm;exact .nil
 |cons a r ih=>
  induction vs using List.casesOn with
  |nil=>exact absurd q (Nat.succ_ne_zero _)
  |cons v vs=>exact .cons (f 0 v rfl) (ih (Nat.succ.inj q) fun j w e=>f (j+1) w e)
theorem RL{d:List (MV×MV)}{kvs:List (Int×Value)}(x:uD d kvs):(fW d).length=kvs.length/\∀(j:Nat) k x,kvs[j]?=some (k,x)->(fW d).getD j .none= .int k:=by
 induction x with
 |nil=>exact⟨rfl,fun j k x e=>aq e⟩
 |cons f r ih=>
  refine⟨bq (· +1) ih.1,fun j k x e=>?_⟩
  induction j using Nat.casesOn with
  |zero=>cases e;rfl
  |succ j=>exact ih.2 j k x e
theorem RO{d:List (MV×MV)}{kvs:List (Str×Value)}(x:vG d kvs):(fW d).length=kvs.length/\∀(j:Nat) k x,kvs[j]?=some (k,x)->(fW d).getD j .none= .str k:=by
 induction x with
 |nil=>exact⟨rfl,fun j k x e=>aq e⟩
 |cons f r ih=>
  refine⟨bq (· +1) ih.1,fun j k x e=>?_⟩
  induction j using Nat.casesOn with
  |zero=>cases e;rfl
  |succ j=>exact ih.2 j k x e
theorem RP:∀{d:List (MV×MV)},(fW d).length=d.length:=by
 intro x0
 induction x0 with
 |nil=>
  exact rfl
 |cons _ r ih=>
  exact bq (· +1) (ih)
theorem Wb(R:bz A d n tb)(X:az F envs aa al st s.heap)(e:(match a with
  | .lst l=>cond (decide (l.length<=ak)) (k (.lst l)) Option.none
  | .tup l=>cond (decide (l.length<=ak)) (k (.lst l)) Option.none
  | .gk d=>cond (decide (d.length<=ak)) (k (.lst (fW d))) Option.none
  |_=>Option.none)=some ah) (ca:cN s.heap (Ob F aa al) a va):Bi F envs aa al st A s k ah (.type "list") va:=by
 have:=iH
 induction a using MV.casesOn<;>first|exact aq e|skip
 ·refine oA (aG e) fun q e9=>?_
  try clear e;revert e9;intro e;have hz:=bx q;refine jD (ca.tup) fun ad o vs m o4 e1 e2 e3 t=>?_;clear ca;obtain rfl:=o4;have l1:=t.length;simp only[jk]at l1;exact call_list_seq ad (.inr rfl) e1 e2 e3 (fun h' c' hk ho=>oK (t:=s.toks) X hk e ho t) (by lia)
 ·refine oA (aG e) fun q e9=>?_
  try clear e;revert e9;intro e;have hz:=bx q;refine jD (ca.lst) fun ad o vs m o4 e1 e2 e3 t=>?_;clear ca;obtain rfl:=o4;have l1:=t.length;simp only[jk]at l1;exact call_list_seq ad (.inl rfl) e1 e2 e3 (fun h' c' hk ho=>oK (t:=s.toks) X hk e ho t) (by lia)
 ·refine oA (aG e) fun q e9=>?_
  try clear e;revert e9;intro e;have hz:=bx q;rw[←RP]at hz;refine gO (ca.gk) fun ad o1 hs o3=>?_;clear ca;obtain rfl:=o1;obtain⟨kvs,hd,r⟩|⟨kvs,hd,r⟩:=o3
  ·refine oA (RL r) fun z1 z2=>?_
   refine oE (hd.dictAt) fun ep Zs=>?_;refine kdl_call (kdl_dict (knd:=intKind g.prog g.w) (kvs:=kvs) (ep:=ep) hs) R.handled Zs (by lia) fun h' tk xB c' hk ho hi=>oK X hk e ho ?_;refine BI (by rw[z1,jk];exact hi.1.symm) fun j v hv=>?_;refine cF (hi.2 j v (by rw[←Array.getElem?_toList];exact hv)) fun kk x hx O9=>?_;rw[z2 j kk x hx];refine oE (Value.isInt_shape O9) fun t o1=>?_;clear O9 hv;obtain rfl:=o1;exact .int _ _
  ·refine oA (RO r) fun z1 z2=>?_
   refine oE (hd.dictAt) fun ep Zs=>?_;refine kdl_call (kdl_dict (knd:=strKind g.prog g.w) (kvs:=kvs) (ep:=ep) hs) R.handled Zs (by lia) fun h' tk xB c' hk ho hi=>oK X hk e ho ?_;refine BI (by rw[z1,jk];exact hi.1.symm) fun j v hv=>?_;refine cF (hi.2 j v (by rw[←Array.getElem?_toList];exact hv)) fun kk x hx O9=>?_;rw[z2 j kk x hx];refine oE (Value.isStrOf_shape O9) fun t o1=>?_;clear O9 hv;obtain rfl:=o1;exact .str _ _
theorem Mr(q:AB (m::r)=true):∃i,m= .int i/\AB r=true:=by
 induction m using MV.casesOn<;>first|exact aP q|exact⟨_,rfl,q⟩
theorem Ms{vs:List Value}(q:AB l=true)(x:aQ h O l vs):IntsAre vs (pU l)/\(pU l).sum=Hw (pU l):=by
 induction l generalizing vs with
 |nil=>obtain rfl:=x.iT;exact⟨.nil,rfl⟩
 |cons m r ih=>
  refine aH (Mr q) fun i o1 q2=>?_;clear q;obtain rfl:=o1;refine cy (x.eT) fun w vs o2 t rr=>?_;obtain rfl:=o2;refine oE (t.int_inv) fun u o1=>?_;clear x t;obtain rfl:=o1;refine oA (ih q2 rr) fun a b=>?_;exact⟨.cons _ _ a,by show(i::pU r).sum=i+Hw (pU r);rw[List.sum_cons,b]⟩
theorem Zt(R:bz A d n tb)(X:az F envs aa al st s.heap)(e:(match a with
  | .tup l=>cond (AB l&&decide (l.length<=ak)) (k (.int (Hw (pU l)))) Option.none
  |_=>Option.none)=some ah) (ca:cN s.heap (Ob F aa al) a va):Bi F envs aa al st A s k ah (.builtin "sum") va:=by
 induction a using MV.casesOn<;>first|exact aq e|skip
 ·refine oA (aG e) fun q e9=>?_
  try clear e;revert e9;intro e;refine oA (bk.mp q) fun q1 q2=>?_;refine jD (ca.tup) fun ad o vs m o4 e1 e2 e3 t=>?_;clear ca;obtain rfl:=o4;refine oA (Ms q1 t) fun hi hsum=>?_;have ht:s.heap.IsTuple ad vs:=⟨_,e1,e2,_,e3⟩;refine oE (hi.allInts.items) fun xs hx=>?_;have uG:vs=intItems xs:=by rw[←hx]
  have hn:numsOf vs.toList=pU _:=hi.numsOf;rw[uG]at ht hn;rw[nums_intItems]at hn;refine ktm_sumG R.handled ht fun h' tk t' hk=>?_;rw[preSum_eq,List.take_of_length_le (by simp),hn,hsum];exact vJ X hk e (.int _ _) (fun _=>rfl)
theorem Zu{a b:Int}{t u:Tok}(R:bz A d n tb)(X:az F envs aa al st s.heap)(e:k (.int (cond (decide (a<b)) b a))=some ah):
  wpAny (model g.prog g.w) A (call (.builtin "max") [.int a t,.int b u]) (j6 F envs aa al st s true k ah) aF s:=by
 refine max_two_ints R.handled fun h' tk hk=>?_
 by_cases q:a<b
 ·rw[if_pos q]
  rw[aM q]at e;exact vJ X hk e (.int _ _) (fun _=>rfl)
 ·rw[bG q]
  rw[gF q]at e;exact vJ X hk e (.int _ _) (fun _=>rfl)
theorem F5(R:bz A d n tb)(X:az F envs aa al st s.heap)(e:cond (mG l&&decide (l.length<=ak)) (k (.bytes (Hv l))) Option.none=some ah)
  (ca:cN s.heap (Ob F aa al) (.lst l) va):Bi F envs aa al st A s k ah (.type "bytes") va:=by
 refine oA (aG e) fun q e9=>?_;try clear e;revert e9;intro e;refine oA (bk.mp q) fun q1 q2=>?_;have hz:=bx q2;have:=iH;refine cy (iW ca) fun ad vs o2 hl t=>?_;clear ca;obtain rfl:=o2;refine jS (Mq q1 t) fun ns z1 z2 z3 z4=>?_;have l1:=t.length;rw[←z4]at e;have gH:s.heap.IsList ad vs.toList.toArray:=by rw[Array.toArray_toList];exact hl
 exact call_bytes_ints gH z1 z2 (by lia) R.handled fun h' t' kt hk=>vJ X hk e (.bytes _ _) (fun _=>rfl)
end
theorem F6:typeLookup (.type "bytes") "__bytes__"=pure (some (.builtin "bytes.__bytes__")):=by rw[jo,jq];kernel_rfl
theorem CJ:typeLookup (.type "int") "__bytes__"=pure none:=by rw[jo,jq];kernel_rfl
section
variable{prog:Program}{w:World}{A:Around}{E:Value->Shared->Prop}{s:Shared}
variable{t:Tok}{Q:Value->Shared->Prop}
theorem Ic{b:Array UInt8}(hQ:Q (.bytes b t) s):
  codeAny (model prog w) A (.call (.builtin "bytes.__new__") ⟨[.type "bytes",.bytes b t],[]⟩) (wants Q E) s:=by
 refine codeAny_of_tree ?_;refine aD (cD (F.bm_newCall _) (aR ⟨plainId_quiet F.bm_plain _,codeAny_builtin F.bm_entry ?_⟩));rw[tW F.bm_plain _];have hT:s.TypeIs (.bytes b t) "bytes":=PySem.W.typeIs_bytes _ _ _;refine aD (cD (a:=true) rfl ?_);refine eL rfl ?_;refine aD (cD F.bm_sub ?_);refine eL rfl ?_;refine aD (cD (F.bm_bind _) ?_);refine aD (cD (a:=()) rfl ?_);refine aD (cD (a:=()) rfl ?_);refine eL rfl ?_;refine aD (fu hT F6 ?_);refine aD (wpAny_rule ?_);refine aD (wpAny_typeOf hT ?_);refine bm_if_true (by decide) ?_
 first
  |exact aR hQ
  |exact aD (aR (aR hQ))
theorem Mt{n:Int}{t:Tok}(h0:0<=n)(h1:n<1000)(hQ:∀t' k,Q (.bytes (Array.replicate n.toNat 0) t') {s with toks:=k}):
  codeAny (model prog w) A (.call (.builtin "bytes.__new__") ⟨[.type "bytes",.int n t],[]⟩) (wants Q E) s:=by
 refine codeAny_of_tree ?_;refine aD (cD (F.bm_newCall _) (aR ⟨plainId_quiet F.bm_plain _,codeAny_builtin F.bm_entry ?_⟩));rw[tW F.bm_plain _];have hT:s.TypeIs (.int n t) "int":=typeIs_int _ _ _;refine aD (cD (a:=true) rfl ?_);refine eL rfl ?_;refine aD (cD F.bm_sub ?_);refine eL rfl ?_;refine aD (cD (F.bm_bind _) ?_);refine aD (cD (a:=()) rfl ?_);refine aD (cD (a:=()) rfl ?_);refine eL rfl ?_;refine aD (fu hT CJ ?_);refine aD (aD (aR (aR ?_)));refine eL rfl ?_;refine aD (fu (name:=Str.ofString "__index__") hT F.slot_int_index.lookup ?_);refine eL rfl ?_;refine aD (wpAny_attempt (cD (rfl:asIndex (.int n t)=pure n) ?_));refine eL ?_ ?_
 ·simp only[Builtin.Bytes.fitsIndex,Bool.not_eq_false',oG,decide_eq_true_eq];lia
 refine wpAny_ite ?_;rw[bG (by exact Int.not_lt_of_ge h0)];refine wpAny_ite ?_;rw[bG (by lia)];refine eL ?_ ?_
 ·unfold Builtin.Bytes.tooLong;have:=sizeLine_eq;simp;lia
 refine aD (wpAny_rule ?_);refine aD (wpAny_mkBytes ?_ ?_)
 ·refine bm_if_true (by decide) ?_
  first
   |exact aR (hQ _ _)
   |exact aD (aR (aR (hQ _ _)))
 ·have:=sizeLine_eq;simp;lia
theorem vX{v:Value}(h:codeAny (model prog w) A.in1 (.call (.builtin "bytes.__new__") ⟨[.type "bytes",v],[]⟩) (wants (fun obj s₁=>s₁.TypeIs obj "bytes" ∧Q obj s₁) E) s):
  wpAny (model prog w) A (call (.type "bytes") [v]) Q E s:=by
 refine callType_codes (Q₁:=fun obj s₁=>s₁.TypeIs obj "bytes" ∧Q obj s₁) F.bm_called (F.bm_typeCall _) F.entry_object_init h fun obj s₁ h₁=>?_;exact⟨h₁.1,F.args_object_init_2 obj _,object_init_meets F.bm_called.init.lookup F.bm_called.made (by decide) prog w A.in1 _ s₁ ⟨h₁.1,rfl,h₁.2⟩⟩
theorem Ie:typeLookup (.type "bytes") "__len__"=pure (some (.builtin "bytes.__len__")):=by rw[jo,jq];kernel_rfl
theorem BJ{Q:List Value->Shared->Prop}(hh:A.handled=none)(b:Array UInt8)(t:Tok)
  (hQ:∀s' acc,(∀b o,s.heap.get? b=some o->s'.heap.get? b=some o)->s'.gens=s.gens->s'.drawn=s.drawn->s'.os=s.os->ItemsOf (fun i v=>∃c u,b[i]?=some c/\v= .int (c.toNat:Int) u) acc b.size->Q acc.toList s') (hn:b.size<=sizeLine):
  wpAny (model prog w) A (collect (.bytes b t)) Q E s:=by
 refine aD (wpAny_runValue (codeAny_builtin F.entry_proto_collect ?_));rw[tW F.plain_proto_collect _];refine aD (wpAny_newObj_type ?_);refine aR ⟨plainId_quiet F.plain_list_iadd _,codeAny_builtin F.entry_list_iadd ?_⟩;rw[tW F.plain_list_iadd _];refine(?_:wpAny _ A.in1 (Builtin.List.listExtendWith (.ref s.heap.objs.size) (.bytes b t) (.ref s.heap.objs.size)) _ _ _);refine aD (wpAny_typeOf (T:= "bytes") (v:= .bytes b t) rfl ?_);have h1:Builtin.List.listSameRef (.ref s.heap.objs.size) (.bytes b t)=false:=rfl;have h2:(Value.type "bytes"==Value.type "list")=false:=by decide
 have h3:(Value.type "bytes"==Value.type "tuple")=false:=by decide
 simp only[h1,h2,h3,Bool.or_false,Bool.false_eq_true,if_false];refine aD (KBw.pyIter_bytes ?_);refine aD (wpAny_holding ?_);refine aD (fu (T:= "bytes") (v:= .bytes b t) rfl Ie ?_)
 wp_delta
 refine aD (wpAny_isInstance (T:= "bytes") (v:= .bytes b t) (b:=true) rfl (by rw[isSubtype_type];kernel_rfl) ?_);refine aD (wpAny_typeOf (T:= "bytes") (v:= .bytes b t) rfl ?_);refine aR ?_;rw[bG (by decide)];generalize hH:s.heap.push {cls:= .type "list",data:= .seq ([]:List Value).toArray}=H;have Zv:H.objs.size=s.heap.objs.size+1:=by rw[←hH,Heap.size_push]
 have W:=KBw.walks (prog:=prog) (w:=w) (A:=A.in1) hh H.objs.size b t;have hSf:s.heap.objs.size∉[H.objs.size]:=fun hm=>by rw[bQ.mp hm]at Zv;exact absurd Zv (Nat.ne_of_lt (Nat.lt_succ_self _))
 have hS:(H.push {cls:= .type "bytes_iterator",data:= .fields #[.bytes b t,.int 0 0]}).get? s.heap.objs.size=some {cls:= .type "list",data:= .seq ([]:List Value).toArray}:=Heap.get?_push_of_some _ (hH▸Heap.get?_push_size _ rfl);have hst:KBw.IsBytesIter (H.push {cls:= .type "bytes_iterator",data:= .fields #[.bytes b t,.int 0 0]}) H.objs.size b t 0:=⟨_,Heap.get?_push_size _ rfl,rfl,rfl⟩;refine aR ⟨plainId_quiet F.plain_extend_loop _,codeAny_extend_loopS W.toS hn _ hSf _ b.size 0 _ _ _ rfl (iS _) hst hS (ItemsOf.nil _) fun s' xB c' hm hS' Ea=>?_⟩;refine aD (wpAny_load hS' ?_);refine aR (hQ s' xB (fun b ob e=>hm.heap b ob (fun hb=>?_) (Heap.get?_push_of_some _ (hH▸Heap.get?_push_of_some _ e))) hm.gens hm.drawn hm.os Ea);have kU:=gD e
 rcases cC.mp hb with h|h
 ·exact absurd kU (h▸kH _)
 ·rw[bQ.mp h,Zv]at kU;exact absurd kU (Nat.not_lt.mpr (Nat.le_succ _))
theorem Ig{Q₁:Value->Shared->Prop}(hh:A.handled=none)(b:Array UInt8)(t:Tok)
  (h:∀(s':Shared) acc,(∀b o,s.heap.get? b=some o->s'.heap.get? b=some o)->s'.gens=s.gens->s'.drawn=s.drawn->s'.os=s.os->ItemsOf (fun i v=>∃c u,b[i]?=some c/\v= .int (c.toNat:Int) u) acc b.size->
   Q₁ (.ref s'.heap.objs.size) {s' with heap:=s'.heap.push {cls:= .type "tuple",data:= .seq acc}}) (hsz:b.size≤sizeLine):
  codeAny (model prog w) A (.call (.builtin "tuple.__new__") ⟨[.type "tuple",.bytes b t],[]⟩) (wants Q₁ E) s:=by
 refine codeAny_of_tree ?_;refine aD (cD (F.newCall_tuple_1 _) (aR ⟨plainId_quiet F.plain_tuple_new _,codeAny_builtin F.entry_tuple_new ?_⟩));rw[tW F.plain_tuple_new _];have hsub:=sub_tuple_self;have hinit:=init_tuple_lookup;have hmh:=madeHere_tuple;refine aD (cD (a:=true) rfl ?_);refine eL rfl ?_;refine aD (cD hsub ?_);refine eL rfl ?_;refine eL (by decide +kernel) ?_;refine aD (cD hmh ?_);refine aD (cD hinit ?_);refine bm_if_true rfl ?_;refine aD (cD (a:=()) rfl ?_);refine aD (cD (a:=()) rfl ?_);refine bm_if_true rfl ?_;refine aD (aD (wpAny_typeOf (T:= "bytes") (v:= .bytes b t) rfl (aR ?_)));refine eL (by decide) ?_;refine aD (BJ (A:=A.in1) hh b t (fun s' acc h1 h2 h3 h4 Ea=>?_) hsz);refine aD (aR ?_);refine aD (wpAny_newObj_type ?_ (by show acc.toList.toArray.size≤sizeLine;simp only[Array.toArray_toList];rw[Ea.1];exact hsz));refine aR ?_;have e:acc.toList.toArray=acc:=by simp
 rw[e];exact h s' acc h1 h2 h3 h4 Ea
end
set_option tactic.hygienic true
theorem uK:isSubtype (.type "bytearray") (.type "bytearray")=pure true:=by rw[isSubtype_type];kernel_rfl
theorem J6:typeLookup (.type "bytearray") "__bytes__"=pure none:=by rw[jo,jq];kernel_rfl
theorem J7:typeLookup (.type "bytearray") "__index__"=pure none:=by rw[jo,jq];kernel_rfl
theorem zj:typeLookup (.type "bytearray") "__buffer__"=pure (some (.builtin "bytearray.__buffer__")):=by rw[jo,jq];kernel_rfl
theorem Mu:typeLookup (.type "bytearray") "__release_buffer__"=pure (some (.builtin "bytearray.__release_buffer__")):=by rw[jo,jq];kernel_rfl
section
variable{prog:Program}{w:World}{A:Around}{E:Value->Shared->Prop}{s:Shared}
variable{a:Addr}{Q:Bool->Shared->Prop}
theorem F7(hT:s.TypeIs (.ref a) "bytearray")(h:Q true s):wpAny (model prog w) A (Builtin.Bytes.slotIsOwn (.ref a) "__buffer__") Q E s:=by
 unfold Builtin.Bytes.slotIsOwn;refine aD (fu hT zj ?_);refine eL (by decide +kernel) ?_;have e:("bytearray.__buffer__".dropRight ("__buffer__".length+1))= "bytearray":=by decide +kernel
 rw[e];exact wpAny_isInstance hT uK h
theorem wH(hT:s.TypeIs (.ref a) "bytearray")(h:Q true s):wpAny (model prog w) A (Builtin.Bytes.slotIsOwn (.ref a) "__release_buffer__") Q E s:=by
 unfold Builtin.Bytes.slotIsOwn;refine aD (fu hT Mu ?_);refine eL (by decide +kernel) ?_;have e:("bytearray.__release_buffer__".dropRight ("__release_buffer__".length+1))= "bytearray":=by decide +kernel
 rw[e];exact wpAny_isInstance hT uK h
theorem J8{o:Obj}{b:Array UInt8}{Q:Value→Shared→Prop}(ho:s.heap.get? a=some o)(hc:o.cls= .type "bytearray")(hd:o.data= .bytearray b 0)(hz:b.size≤sizeLine)
  (hQ:∀t k,Q (.bytes b t) {s with toks:=k}):
  codeAny (model prog w) A (.call (.builtin "bytes.__new__") ⟨[.type "bytes",.ref a],[]⟩) (wants Q E) s:=by
 refine codeAny_of_tree ?_;show wpAny _ A.in1 (do checkBuiltinCall "bytes.__new__" ⟨[.type "bytes",.ref a],[]⟩;again (.builtin "bytes.__new__" ⟨[.type "bytes",.ref a],[]⟩)) _ _ s;refine aD (cD (F.bm_newCall _) (aR ⟨plainId_quiet F.bm_plain _,codeAny_builtin F.bm_entry ?_⟩));rw[tW F.bm_plain _];have hT:s.TypeIs (.ref a) "bytearray":=⟨o,ho,hc⟩;unfold Builtin.«bytes.__new__»;refine aD (cD (a:=true) rfl ?_);refine eL rfl ?_;refine aD (cD F.bm_sub ?_);refine eL rfl ?_;refine aD (cD (F.bm_bind _) ?_);refine aD (cD (a:=()) rfl ?_);refine aD (cD (a:=()) rfl ?_);refine eL rfl ?_;refine aD (fu hT J6 ?_);refine aD (aD ?_);show wpAny _ _ (load a >>= _) _ _ _;refine aD (wpAny_load ho ?_);rw[hd];refine aR (aR ?_);refine eL rfl ?_;refine aD (fu hT J7 ?_);refine bm_if_true rfl ?_
 first
  |show wpAny _ _ (Builtin.Bytes.buffer? "bytes.__new__" (.ref a) true >>= _) _ _ _
  |(refine aD ?_;show wpAny _ _ (Builtin.Bytes.buffer? "bytes.__new__" (.ref a) true >>= _) _ _ _)
 refine aD ?_;unfold Builtin.Bytes.buffer?;refine aD (fu hT zj ?_);refine aD (F7 hT ?_);refine eL rfl ?_;refine aD (fu hT zj ?_);unfold Builtin.Bytes.ownRelease;refine aD (aD (wH hT (aR ?_)));refine eL rfl ?_;refine aD ?_;unfold Builtin.Bytes.payload Builtin.Bytes.payload?;refine aD (aD (wpAny_load ho ?_));rw[hd];refine aR (aR (aR ?_));refine aD (wpAny_rule ?_);refine aD (wpAny_mkBytes ?_ hz);refine bm_if_true (by decide) ?_
 first
  |exact aR (hQ _ _)
  |exact aD (aR (aR (hQ _ _)))
end
set_option tactic.hygienic false
section
variable{prog:Program}{w:World}{A:Around}{E:Value->Shared->Prop}{s:Shared}{M:Model}{α:Type}
theorem Ih{k:Code}{c:Bool}{a b:Sem α}{Q:α->Shared->Prop}(hc:c=false)(h:pX M A k b Q E s):pX M A k (if c=true then a else b) Q E s:=by
 subst hc;exact h
theorem uL{c:Code}{t:Sem α}{Q:α->Shared->Prop}(h:wpAny M (A.under c) t Q E s):pX M A c t Q E s:=Yk (aT h)
variable{id:String}
theorem Mv{args:Args}(e:id≠ "claim.caller"):(Code.builtin id args).isCaller=false:=by
 unfold Code.isCaller
 split
 ·rename_i q
  cases q
  exact absurd rfl e
 ·rfl
theorem CK(a:Addr):∃f:Code×Pos->Bool,Builtin.Bytes.exported (.ref a)=(do return (←stack).any f)/\(∀c p,f (c,p)=true->c.isCaller=false/\∃id args,c= .builtin id args)/\
  (∀p v,f (.builtin "bytearray.append" ⟨v,[]⟩,p)=false)∧(∀p v,f (.builtin "bytearray.__init__" ⟨v,[]⟩,p)=false)∧(∀p v,f (.builtin "type.__call__" ⟨v,[]⟩,p)=false):=by
 unfold Builtin.Bytes.exported;refine⟨_,rfl,fun c p q=>?_,fun p v=>?_,fun p v=>?_,fun p v=>?_⟩
 ·induction c using Code.casesOn with
  |builtin id args=>
   refine⟨?_,_,_,rfl⟩
   by_cases e:id= "claim.caller"
   ·subst e
    obtain⟨v,kw⟩:=args
    induction v using List.casesOn with
    |nil=>exact aP ((show _=false by kernel_rfl).symm.trans q)
    |cons x r=>exact aP (((show _=(Builtin.Bytes.sameRef x (.ref a)&&false)by kernel_rfl).trans (Bool.and_false _)).symm.trans q)
   ·exact Mv e
  |_=>exact aP q
 all_goals
  induction v using List.casesOn with
  |nil=>kernel_rfl
  |cons x r=>exact(show _=(Builtin.Bytes.sameRef x (.ref a)&&false)by kernel_rfl).trans (Bool.and_false _)
variable{v:List Value}{a:Addr}{Q:Bool->Shared->Prop}
theorem Ii(T:tU A)(h:Q false s):pX M A (.builtin "bytearray.append" ⟨v,[]⟩) (Builtin.Bytes.exported (.ref a)) Q E s:=by
 refine jS (CK a) fun f e h1 h2 _=>?_;rw[e];exact HJ T h1 (fun p=>h2 p v) h
theorem wI:Slot "bytearray" "append" "bytearray.append":=
 .of (owner:= "bytearray") (n:= "append") (by rw[jo,jq];kernel_rfl) (by decide +kernel) (by decide +kernel) (by decide +kernel)
  (by first|exact .inl (by decide +kernel)|exact .inr (by decide +kernel)) uK
theorem mU:Slot "bytearray" "__init__" "bytearray.__init__":=
 .of (owner:= "bytearray") (n:= "__init__") (by rw[jo,jq];kernel_rfl) (by decide +kernel) (by decide +kernel) (by decide +kernel)
  (by first|exact .inl (by decide +kernel)|exact .inr (by decide +kernel)) uK
theorem CL:entryFor table "bytearray.append"=some Builtin.«bytearray.append» :=by first|exact entryFor_of_fast (by kernel_rfl)|exact entryFor_of_tree (by kernel_rfl)
theorem F8:entryFor table "bytearray.__init__"=some Builtin.«bytearray.__init__» :=by first|exact entryFor_of_fast (by kernel_rfl)|exact entryFor_of_tree (by kernel_rfl)
theorem Ij:entryFor table "bytearray.__new__"=some Builtin.«list.__new__» :=entryFor_alias (id':= "list.__new__") (by kernel_rfl) rfl (by decide +kernel) (by kernel_rfl)
theorem Eb(a b:Value):argsOk "bytearray.append" ⟨[a,b],[]⟩:=by unfold argsOk;kernel_rfl
theorem Ik(a:Value):argsOk "bytearray.__init__" ⟨[a],[]⟩:=by unfold argsOk;kernel_rfl
theorem Il:mroOf (.type "bytearray")=pure [.type "bytearray",.type "object"]:=by rw[mroOf_type];kernel_rfl
theorem F9:typeLookup (.type "bytearray") "__new__"=pure (some (.builtin "bytearray.__new__")):=by rw[jo,jq];kernel_rfl
theorem zl:TypeCalled "bytearray" "bytearray.__new__" "bytearray.__init__":=
 ⟨by decide +kernel,by decide +kernel,⟨_,_,Il⟩,madeBy_type Il F9 (by decide +kernel),by decide +kernel,uK,mU⟩
theorem J9:checkTypeCall "bytearray" ⟨[],[]⟩=pure ():=by kernel_rfl
theorem Mw:checkBuiltinCall "bytearray.__new__" ⟨[.type "bytearray"],[]⟩=pure ():=by kernel_rfl
theorem CM:typeLookup (.type "bytearray") "__getattribute__"=pure (some (.builtin "bytearray.__getattribute__")):=by rw[jo,jq];kernel_rfl
theorem RQ:(Manifest.canonical "bytearray.__getattribute__" != "object.__getattribute__")=false:=by decide +kernel
theorem Mx:typeLookup (.type "bytearray") "__getattr__"=pure none:=by rw[jo,jq];kernel_rfl
theorem Ec:typeOf (.builtin "bytearray.append")=pure (.type "method_descriptor"):=by show builtinType _=_;rw[builtinType_eq_fast];kernel_rfl
variable{o:Obj}
theorem Im{l:Addr}{pl:Sem Bool}{Q:Value×List Value→Shared→Prop}(ho:s.heap.get? l=some o)(hc:o.cls= .type "bytearray")(hd:o.dict=none)
  (h:Q (.builtin "bytearray.append",[.ref l]) s):wpAny M A (getMethod (.ref l) "append" pl) Q E s:=by
 have hT:s.TypeIs (.ref l) "bytearray":=⟨o,ho,hc⟩;unfold getMethod;refine aD (fu hT CM ?_);show wpAny M A (if(Manifest.canonical "bytearray.__getattribute__" != "object.__getattribute__")=true then _ else _) Q E s;rw[RQ,bG rX];refine aD (fu hT Mx ?_);refine aD (fu hT wI.lookup ?_);refine aD (cD Ec ?_);refine aD (wpAny_load ho ?_);rw[hd];exact aD (wpAny_rule (aR h))
variable{R:Result->Shared->Prop}
theorem Ga{args:Args}{b:Builtin}(hb:entryFor table id=some b)
  (h:pX (model prog w) A (.builtin id args) (b args) (fun gm s'=>match gm with| .done f=>R (.ok f) s'| .again c'=>c'.quiet=true/\dF (model prog w) A c' R s') (fun e s'=>R (.error e) s') s):
  dF (model prog w) A (.builtin id args) R s:=by
 refine HH ?_;show pX _ _ _ (match entryFor table id with|some b=>b args|none=>unsupported ((withoutEnding? id "#data").getD id)) _ _ s;rw[hb];exact h
theorem zm{T:String}{name:Str}{self:Value}{rest:List Value}(h:Slot T name id)(hT:s.TypeIs self T)(ha:argsOk id ⟨self::rest,[]⟩)
  (hc:dF (model prog w) A (.builtin id ⟨self::rest,[]⟩) R s):dF (model prog w) A (.call (.builtin id) ⟨self::rest,[]⟩) R s:=by
 refine e7 ?_;show aE _ _ (do checkBuiltinCall id ⟨self::rest,[]⟩;again (.builtin id ⟨self::rest,[]⟩)) _ _ s;exact aj (aT (h.check _ _ _ _ _ _ _ _ hT ha (aK ⟨plainId_quiet h.plain _,hc⟩)))
variable{b:Array UInt8}
theorem Gb(T:tU A)
  (ho:s.heap.get? a=some o) (hd:o.data= .bytearray b 0) (h:Q false s):pX (model prog w) A (.builtin "bytearray.append" ⟨v,[]⟩) (Builtin.Bytes.exported (.ref a)<||> (do return (←Builtin.Bytes.exportsOf (.ref a))>0)) Q E s:=by
 show pX _ _ _ (Builtin.Bytes.exported (.ref a) >>= fun b=>match b with|true=>pure b|false=>(do return decide ((←Builtin.Bytes.exportsOf (.ref a))>0))) _ _ _;refine uB (Ii T ?_);refine uL ?_;refine aD ?_;unfold Builtin.Bytes.exportsOf;refine aD (wpAny_load ho ?_);rw[hd];exact aR (aR h)
variable{i:Int}
theorem Zw(h0:0<=i)(h1:i<256):(i.toNat.toUInt8).toNat=i.toNat:=by
 exact Nat.mod_eq_of_lt ((Int.toNat_lt h0).mpr h1)
theorem Pa{t:Tok}(T:tU A)(ho:s.heap.get? a=some o)(hc:o.cls= .type "bytearray")(gT:o.dict=none)(hd:o.data= .bytearray b 0)(h0:0≤i)(h1:i<256)(hz:b.size<sizeLine)
  (hR:∀h' o',h'.get? a=some o'→o'.cls= .type "bytearray" →o'.dict=none→o'.data= .bytearray (b.push i.toNat.toUInt8) 0→(∀c o,c≠a→s.heap.get? c=some o→h'.get? c=some o)→R (.ok (.ret .none)) {s with heap:=h'}):
  dF (model prog w) A (.call (.builtin "bytearray.append") ⟨[.ref a,.int i t],[]⟩) R s:=by
 refine zm wI ⟨o,ho,hc⟩ (Eb _ _) (Ga CL ?_);unfold Builtin.«bytearray.append»;refine uB (uL (cD (a:=(.ref a,.int i t)) rfl ?_));refine uB (uL ?_);unfold Builtin.Bytes.byteValue;refine aD (cD (a:=i) rfl ?_);refine eL (by simp only[gS,decide_eq_false_iff_not];lia) (aR ?_);refine uB ?_;unfold Builtin.Bytes.checkResize;refine uB (Gb T ho hd (Ih rfl (uL (aR (uL ?_)))));refine aD ?_;show wpAny _ _ (updateBytearray a (·.push i.toNat.toUInt8)) _ _ _;unfold updateBytearray;refine aD (wpAny_load ho ?_);rw[hd];show wpAny _ _ (update a (Obj.mapBytearray (·.push i.toNat.toUInt8)) >>= fun _=>lookBehind a) _ _ _;obtain⟨c,dd,dt,sl⟩:=o;have hd:dt= .bytearray b 0:=hd;subst hd;refine aD (wpAny_update ho ?_);have hS:=Heap.get?_update_self (Obj.mapBytearray (·.push i.toNat.toUInt8)) ho rfl;refine wpAny_lookBehind hS ?_ ?_
 ·show(if(b.push i.toNat.toUInt8).size>sizeLine then some "bytearray:memory" else none)=none
  rw[bG];simp;exact kdl_size hz
 ·exact aR (hR _ _ hS hc gT rfl fun c o' ne e=>((Heap.SameBut.update ..).2 c ne).trans e)
end
theorem Wc:Builtin.Bytes.bindOptional "bytearray.__init__" "bytearray" ["source","encoding","errors"] [] []=pure [none,none,none]:=by kernel_rfl
set_option maxRecDepth 1000000 in
set_option maxHeartbeats 4000000 in
theorem RS:("bytearray.__new__".splitOn ".__new__").headD ""= "bytearray":=by simp +decide [String.splitOn,String.splitOnAux]
theorem My:typeHasDict (.type "bytearray")=false:=by decide +kernel
section
variable{prog:Program}{w:World}{A:Around}{E:Value->Shared->Prop}{s:Shared}{M:Model}{α β:Type}{Γ:Ctx}
def uM(M:Model)(Γ:Ctx)(t:Sem α)(Q:α->Shared->Prop)(E:Value->Shared->Prop)(s:Shared):Prop:=∀p,Sem.wp M Γ t (fun a _ s'=>Q a s') (fun e _ s'=>E e s') p s
variable{Q:α->Shared->Prop}
theorem nD{t:Sem α}(lg:Γ.In A)(h:wpAny M A t Q E s):uM M Γ t Q E s:=fun p=>h Γ p lg
theorem wJ{a:α}(h:Q a s):uM M Γ (pure a) Q E s:=fun p=>h
variable{m:Sem α}
theorem jh{f:α->Sem β}{Q:β->Shared->Prop}(h:uM M Γ m (fun a s'=>uM M Γ (f a) Q E s') E s):uM M Γ (m >>= f) Q E s:=fun p=>by
 rw[Sem.wp_bind'];exact Sem.wp_mono M Γ m (fun a p' s' h'=>h' p') (fun _ _ _ h'=>h') p s (h p)
theorem lK{c:Bool}{a b:Sem α}(hc:c=false)(h:uM M Γ b Q E s):uM M Γ (if c=true then a else b) Q E s:=by
 subst hc;exact h
theorem zo{vs:List Value}(h:uM M Γ m Q E s):uM M Γ (holding vs m) Q E s:=fun p=>by rw[Sem.wp_holding];exact h p
set_option backward.match.sparseCases true in
theorem Zx{f:Value}{pos:List Value}{kw:List (Str×Value)}{Q:Value->Shared->Prop}
  (h:∀p,wpCode M (Γ.enter (.call f ⟨pos,kw⟩) none p) (fun r s'=>match r with| .ok (.ret v)=>Q v s'| .ok _=>False| .error e=>E e s') p s):uM M Γ (call f pos kw) Q E s:=fun p=>by
 refine(?_:Sem.wp M Γ (runValue (.call f ⟨pos,kw⟩)) _ _ p s);rw[Sem.wp_runValue];exact h p
variable{R:Result->Shared->Prop}
theorem Io(h:uM M Γ (M.den Γ.code) (fun gm s'=>match gm with| .done f=>R (.ok f) s'| .again c'=>c'.quiet=true/\∀p,wpCode M (Γ.goto c') R p s') (fun e s'=>R (.error e) s') s)(p:Pos):wpCode M Γ R p s:=by
 rw[wpCode_iff_wp];refine Sem.wp_mono M Γ _ (fun gm p' s' h'=>?_) (fun _ _ _ h'=>h') p s (h p);cases gm with
 |done f=>exact h'
 |again c'=>exact⟨h'.1,h'.2 p'⟩
theorem Fw{id:String}{args:Args}{b:Builtin}(hc:Γ.code= .builtin id args)(hb:entryFor table id=some b)
  (h:uM (model prog w) Γ (b args) (fun gm s'=>match gm with| .done f=>R (.ok f) s'| .again c'=>c'.quiet=true/\∀p,wpCode (model prog w) (Γ.goto c') R p s') (fun e s'=>R (.error e) s') s) (p:Pos):wpCode (model prog w) Γ R p s:=by
 refine Io ?_ p;rw[hc];refine(?_:uM _ _ (match entryFor table id with|some b=>b args|none=>unsupported ((withoutEnding? id "#data").getD id)) _ _ s);rw[hb];exact h
variable{f:Code×Pos->Bool}
theorem Mz{Q:Bool->Shared->Prop}(hf:∀x,x∈Γ.below->f x=false)(hc:∀p,f (Γ.code,p)=false)(h:Q false s):uM M Γ (do return (←stack).any f) Q E s:=fun p=>by
 refine(?_:Q (((Γ.code,p)::Γ.below).any f) s);have:(((Γ.code,p)::Γ.below).any f)=false:=by
  rw[List.any_cons,hc p,Bool.false_or,List.any_eq_false];intro y hy q;rw[hf y hy]at q;exact aP q
 rw[this];exact h
theorem Ka(T:tU A)(hΓ:Γ.Below A)(hb:CalB Γ)(hf:∀c p,f (c,p)=true->c.isCaller=false/\∃id args,c= .builtin id args):∀x,x∈Γ.below->f x=false:=by
 intro y hy;cases q:f y with
 |false=>rfl
 |true=>
  obtain⟨h1,id,args,h2⟩:=hf y.1 y.2 q;refine aH (T.frames) fun l hl hu=>?_;refine aH (hb) fun x hx HK=>?_;try clear hb;have e1:envsOf Γ.below=l:=hΓ.2.2.1 l hl;have h3:y.1.envs= []:=by rw[h2];rfl
  have h4:1<=y.1.cUnits:=by rw[h2];show 1<=1+3 * _;exact Nat.le_add_right 1 (3 * (Code.builtin id args).frames)
  have:=units_caller HK h1 h3 h4 Γ.below hx hy;have h5:=hΓ.2.2.2.2;rw[e1]at this
  lia
theorem Wd{a:Addr}{sl:Array (Option Value)}{R:Result→Shared→Prop}{p:Pos}(lg:Γ.Below A)(hc:Γ.code= .call (.builtin "bytearray.__init__") ⟨[.ref a],[]⟩)
  (hf:∀f:Code×Pos→Bool,(∀c p,f (c,p)=true→c.isCaller=false∧∃id args,c= .builtin id args)→(∀p v,f (.builtin "type.__call__" ⟨v,[]⟩,p)=false)→∀x,x∈Γ.below→f x=false)
  (ho:s.heap.get? a=some {cls:= .type "bytearray",dict:=none,data:= .bytearray #[],slots:=sl})
  (hR:∀h',h'.get? a=some {cls:= .type "bytearray",dict:=none,data:= .bytearray #[],slots:=sl}→(∀c o,c≠a→s.heap.get? c=some o→h'.get? c=some o)→R (.ok (.ret .none)) {s with heap:=h'}):
  wpCode (model prog w) Γ R p s:=by
 have hT:s.TypeIs (.ref a) "bytearray":=⟨_,ho,rfl⟩;refine Io ?_ p;rw[hc];have i1:=lg.in;refine jh (nD i1 (mU.check _ _ _ _ _ _ _ _ hT (Ik _) (wJ ⟨plainId_quiet mU.plain _,fun p=>?_⟩)));have i2:(Γ.goto (.builtin "bytearray.__init__" ⟨[.ref a],[]⟩)).In (A.under (.builtin "bytearray.__init__" ⟨[.ref a],[]⟩)):=(lg.goto _).in;refine Fw rfl F8 ?_ p;refine jh (nD i2 ?_);refine aD (wH hT (aR ?_));refine lK rfl ?_;refine jh (nD i2 (cD Wc ?_));refine jh (nD i2 (cD (a:=()) rfl ?_));refine jh (nD i2 (cD (a:=()) rfl ?_));refine Hh (CK a) fun f e h1 h2 h3 h4=>?_;have noex:∀{Q:Bool→Shared→Prop} {E:Value→Shared→Prop},Q false s→uM (model prog w) (Γ.goto (.builtin "bytearray.__init__" ⟨[.ref a],[]⟩)) (Builtin.Bytes.exported (.ref a)<||> (do return (←Builtin.Bytes.exportsOf (.ref a))>0)) Q E s:=fun{Q E} hq=>by
  refine jh ?_;rw[e];refine Mz (hf f h1 h4) (fun p=>h3 p _) (nD i2 ?_);refine aD ?_;refine aD (wpAny_load ho ?_);exact aR (aR hq)
 refine jh (noex (lK rfl (nD i2 ?_)));refine aD ?_;refine(?_:wpAny _ _ (updateBytearray a (fun _=> #[])) _ _ _);refine aD (wpAny_load ho ?_);refine aD (wpAny_update ho ?_);have hS:=Heap.get?_update_self (Obj.mapBytearray (fun _=> #[])) ho rfl;refine wpAny_lookBehind hS rfl ?_;refine aD (cD (a:=()) rfl ?_);exact aR (hR _ hS fun c o' ne e=>((Heap.SameBut.update ..).2 c ne).trans e)
theorem Zy{Q₁:Value→Shared→Prop}(h:Q₁ (.ref s.heap.objs.size) {s with heap:=s.heap.push {cls:= .type "bytearray",data:= .bytearray #[]}}):
  codeAny (model prog w) A (.call (.builtin "bytearray.__new__") ⟨[.type "bytearray"],[]⟩) (wants Q₁ E) s:=by
 refine codeAny_of_tree ?_;refine aD (cD Mw (aR ⟨plainId_quiet zl.plain _,codeAny_builtin_stack Ij rfl fun p st=>?_⟩));rw[tW zl.plain _];have Ip:=RS;simp only[Ip];refine aD (cD (a:=true) rfl ?_);refine eL rfl ?_;refine aD (cD uK ?_);refine eL rfl ?_;refine aD (cD (a:= .bytearray #[]) rfl ?_);refine bm_if_true (by rw[My];rfl) ?_;refine aD (wpAny_newObj_type ?_ (iS _))
 first
  |exact aR h
  |exact aD (aR (aR h))
theorem We{Q:Value->Shared->Prop}(T:tU A)
  (hQ:∀h',h'.get? s.heap.objs.size=some {cls:= .type "bytearray",dict:=none,data:= .bytearray #[],slots:= #[]}→(∀c o,s.heap.get? c=some o→h'.get? c=some o)→Q (.ref s.heap.objs.size) {s with heap:=h'}):
  aE (model prog w) A (call (.type "bytearray") []) Q E s:=by
 refine wD fun Γ p hc hb HK=>?_;refine Io ?_ p;rw[hc];refine wJ ⟨Code.quiet_builtin _ (by decide +kernel),fun p=>?_⟩;have zp:(Γ.goto (.builtin "type.__call__" ⟨[.type "bytearray"],[]⟩)).Below A:=hb.goto _;have i2:(Γ.goto (.builtin "type.__call__" ⟨[.type "bytearray"],[]⟩)).In (A.under (.builtin "type.__call__" ⟨[.type "bytearray"],[]⟩)):=zp.in;refine Fw rfl F.entry_type_call ?_ p;unfold Builtin.«type.__call__»;refine lK (by decide) ?_;refine lK (by decide +kernel) ?_;refine jh (nD i2 (cD J9 ?_));refine jh (nD i2 (cD Il ?_));refine lK rfl ?_;refine jh (nD i2 (cD zl.made ?_));refine jh (wJ ?_);refine jh (zo (nD i2 (wpAny_call (Zy ?_))));generalize hh:s.heap.push {cls:= .type "bytearray",data:= .bytearray #[]}=h1;have ho:h1.get? s.heap.objs.size=some {cls:= .type "bytearray",dict:=none,data:= .bytearray #[],slots:= #[]}:=by rw[←hh];exact Heap.get?_push_size _ rfl
 have hk:∀c o,s.heap.get? c=some o->h1.get? c=some o:=fun c o e=>by rw[←hh];exact Heap.get?_push_of_some _ e
 have hT:({s with heap:=h1}:Shared).TypeIs (.ref s.heap.objs.size) "bytearray":=⟨_,ho,rfl⟩;refine jh (nD i2 (wpAny_isInstance hT uK ?_));refine lK rfl ?_;refine jh (zo ?_);simp only[callSpecial?];refine jh (nD i2 (fu hT mU.lookup ?_));simp only[mU.bind];refine zo (jh (wJ (jh (Zx fun p3=>?_))));refine Wd (A:=A.under (.builtin "type.__call__" ⟨[.type "bytearray"],[]⟩)) (i2.enter _ none p3 (by intro x;exact aq x)) rfl (fun f f1 f2 x hx=>?_) ho fun h' e1 e2=>?_
 ·have hx:x∈(Code.builtin "type.__call__" ⟨[.type "bytearray"],[]⟩,p3)::Γ.below:=hx
  rcases cC.mp hx with rfl|hx
  ·exact f2 _ _
  ·exact Ka T hb HK f1 x hx
 ·refine wJ ?_
  refine lK (by decide) ?_;refine wJ ?_;exact hQ h' e1 fun c o e=>e2 c o (Nat.ne_of_lt (gD e)) (hk c o e)
end
section
variable{prog:Program}{w:World}{A:Around}{E:Value->Shared->Prop}{s:Shared}
variable{b:List Str}
theorem Kc{v:MV}{r:List MV}(e:sC (v::r)=some b):∃x c,v= .str x/\sC r=some c/\b=x::c:=by
 induction v using MV.casesOn with
 |str x=>
  have e:(match sC r with|some t=>some (x::t)|none=>none)=some b:=e;cases h:sC r with
  |none=>rw[h]at e;exact nomatch e
  |some t=>rw[h]at e;exact⟨x,t,rfl,rfl,(dm e).symm⟩
 |_=>exact nomatch e
variable{h:Heap}{O:List Addr}{l:List MV}
theorem Kd:∀{vs:List Value} {b:List Str},sC l=some b->aQ h O l vs->∃l':List (Str×Tok),vs=strValues l'/\l'.map (·.1)=b:=by
 induction l with
 |nil=>intro vs b e t;cases e;obtain rfl:=t.iT;exact⟨[],rfl,rfl⟩
 |cons v r ih=>
  intro vs b e t;refine cy (Kc e) fun x c o2 hq o4=>?_;obtain rfl:=o2;clear e;obtain rfl:=o4;refine cy (t.eT) fun w vs o2 t9 tr=>?_;try clear t;obtain rfl:=o2;revert t9;intro t;refine oE (t.str_inv) fun u o1=>?_;clear t;obtain rfl:=o1;refine aH (ih hq tr) fun l' o1 h2=>?_;clear tr;obtain rfl:=o1;exact⟨(x,u)::l',rfl,bq (x:: ·) h2⟩
theorem MA(dK:Str):∀b:List Str,jH dK b=Str.join dK b:=by
 intro x1
 induction x1 with
 |nil=>
  exact rfl
 |cons x c2 dR=>
  induction c2 using List.casesOn with
  |nil=>
   exact rfl
  |cons y r=>
   show x++(dK++jH dK (y::r))=Str.join dK (x::y::r);rw[dR];show _=x++dK++Str.join dK (y::r);rw[Str.append_assoc]
theorem Wf:∀(b:List Str) (k n:Nat),b.foldl (fun a p=>a+p.length+n) k=k+iE n b:=by
 intro x0
 induction x0 with
 |nil=>
  intro k n;exact rfl
 |cons x r ih=>
  intro k n;rw[List.foldl_cons,ih];show _=k+(x.length+n+iE n r)
  lia
variable{x:Str}{Q:Value->Shared->Prop}
theorem Wg{D:Addr}{t:Tok}{l:List (Str×Tok)}(hl:s.heap.IsList D (strValues l).toArray)(ht:l.map (·.1)=b)(hz:iE x.length b<=sizeLine)
  (hq:∀t' k,Q (.str (jH x b) t') {s with toks:=k}):wpAny (model prog w) A (call (.builtin "str.join") [.str x t,.ref D]) Q E s:=by
 refine SC.join hl ht ?_ fun t' k=>?_
 ·unfold JoinOk Builtin.Str.tooLong
  have:=Wf b 0 x.length;rw[List.foldl_toArray];rw[this];simp
  omega
 ·have:Txt.join x b=jH x b:=by
   unfold Txt.join;rw[StrLaws.glued_eq_join,MA]
  rw[this];exact hq t' k
theorem RT(y:Str):∀(p:Str) (r:List Str),r.length * y.length<=(Str.join y (p::r)).length:=by
 intro p x1
 induction x1 generalizing p with
 |nil=>
  simp
 |cons q r dR=>
  have ih:=dR q;have e:Str.join y (p::q::r)=p++y++Str.join y (q::r):=rfl;rw[e,iu,iu,jl,Nat.succ_mul];exact aI (eX ih _) (by rw[Nat.add_comm];exact eX (Nat.le_add_left _ _) _)
theorem RU{y:Str}{t u:Tok}(hy:y.length=1)(hz:x.length<sizeLine)
  (hq:∀l k,l.map (·.1)=Txt.split x y→Q (.ref s.heap.objs.size) {s with toks:=k,heap:=s.heap.push {cls:= .type "list",data:= .seq (strValues l).toArray}}):
  wpAny (model prog w) A (call (.builtin "str.split") [.str x t,.str y u]) Q E s:=by
 have hy0:(y.length==0)=false:=by rw[hy];rfl
 have js:=StrLaws.join_split x y;cases h1:(decide (x.length<y.length)||decide (Builtin.Str.strKind x<Builtin.Str.strKind y))
 ·cases hf:(Builtin.Str.occurrences x y 0 x.length (x.length+1)).isEmpty
  ·have e:Txt.split x y=Builtin.Str.partsBetween x (Builtin.Str.occurrences x y 0 x.length (x.length+1)) y.length:=(bG (ne_true_of_eq_false h1)).trans (bG (ne_true_of_eq_false hf))
   have Zz:(Builtin.Str.partsBetween x (Builtin.Str.occurrences x y 0 x.length (x.length+1)) y.length).length<=sizeLine:=by
    rw[←e];rw[←js]at hz;cases hs:Txt.split x y with
    |nil=>exact iS _
    |cons p r=>
     rw[hs]at hz;have:=RT y p r;rw[hy,Nat.mul_one]at this;rw[jl];exact fits_base_add this hz
   refine call_meets F.slot_str_split (typeIs_str _ _ _) F.entry_str_split (F.args_str_split_2 _ _) (meets_str_split_sep x y t u h1 hy0 hf (Nat.le_of_lt hz) Zz) ?_;show wants Q E _ {s with toks:=_,heap:=s.heap.push {cls:= .type "list",data:= .seq (strsFrom s.toks (Builtin.Str.partsBetween x (Builtin.Str.occurrences x y 0 x.length (x.length+1)) y.length)).toArray}};rw[strsFrom_eq];exact hq (numbered s.toks _) _ ((numbered_texts _ _).trans e.symm)
  ·exact call_meets F.slot_str_split (typeIs_str _ _ _) F.entry_str_split (F.args_str_split_2 _ _) (meets_str_split_not_found x y t u h1 hy0 hf)
    (hq [(x,t)] s.toks ((bG (ne_true_of_eq_false h1)).trans (if_pos hf)).symm)
 ·exact call_meets F.slot_str_split (typeIs_str _ _ _) F.entry_str_split (F.args_str_split_2 _ _) (meets_str_split_cannot_occur x y t u h1)
   (hq [(x,t)] s.toks (if_pos h1).symm)
noncomputable def MB(x:Str):Value->Bool
 | .str y _=>y==x
 |_=>false
theorem ZA{vs:List Value}(a:dj l=true)(q:eN (.str x) l=true)(tr:aQ h O l vs):
  ∃j,xy (.str x) l=j/\(∃v,vs[j]?=some v/\MB x v=true)/\∀m v,m<j->vs[m]?=some v->MB x v=false:=by
 induction l generalizing vs with
 |nil=>exact aP q
 |cons m r ih=>
  refine aH (vV a) fun y o1 a2=>?_;clear a;obtain rfl:=o1;refine cy (tr.eT) fun w vs o2 t CN=>?_;obtain rfl:=o2;refine oE (t.str_inv) fun u o1=>?_;clear tr t;obtain rfl:=o1;have q:(x==y||eN (.str x) r)=true:=q;have hi:xy (.str x) (.str y::r)=cond (x==y) 0 (xy (.str x) r+1):=rfl;rw[hi];have sym:(y==x)=(x==y):=BEq.comm;cases z:x==y with
  |true=>exact⟨0,rfl,⟨_,rfl,sym.trans z⟩,fun m v hm=>absurd hm (Nat.not_lt_zero m)⟩
  |false=>
   rw[z,Bool.false_or]at q;refine gO (ih a2 q CN) fun j hj h1 h2=>?_;refine⟨j+1,bq (· +1) hj,h1,fun m v kU e=>?_⟩
   induction m using Nat.casesOn with
   |zero=>
    have eO:=dm e;clear e;obtain rfl:=eO;exact sym.trans z
   |succ m=>exact h2 m v (vH kU) e
theorem all_strs{vs:List Value}(a:dj l=true)(tr:aQ h O l vs):∀v,v∈vs->∃y u,v= .str y u:=by
 induction l generalizing vs with
 |nil=>obtain rfl:=tr.iT;exact fun v m=>nomatch m
 |cons m r ih=>
  refine aH (vV a) fun y o1 a2=>?_;clear a;obtain rfl:=o1;refine cy (tr.eT) fun w vs o2 t CN=>?_;obtain rfl:=o2;refine oE (t.str_inv) fun u o1=>?_;clear tr t;obtain rfl:=o1;intro v m
  rcases cC.mp m with rfl|m
  ·exact⟨y,u,rfl⟩
  ·exact ih a2 CN v m
theorem RV{a:Addr}{o:Obj}{vs:Array Value}{m:Nat}{t:Tok}(ho:s.heap.get? a=some o)(hc:o.cls= .type "list")(hd:o.data= .seq vs m)
  (tr:aQ s.heap O l vs.toList) (a1:dj l=true) (a2:eN (.str x) l=true) (hz:l.length<=ak) (hq:Q (.int (xy (.str x) l:Nat) s.toks) {s with toks:=s.toks+1}):
  wpAny (model prog w) A (call (.builtin "list.index") [.ref a,.str x t]) Q E s:=by
 obtain⟨cls,dd,data,sl⟩:=o;simp only at hc hd;subst hc hd;have l1:=tr.length;simp only[jk]at l1;have hs:ak=1000000:=rfl;refine gO (ZA a1 a2 tr) fun j hij o2 h2=>?_;refine aH (o2) fun v0 hv0 h1=>?_;try clear o2;rw[hij]at hq;refine oE (List.getElem?_eq_some_iff.mp hv0) fun hjl hjv=>?_;have hjs:j<vs.size:=by simpa using hjl
 refine call_meets PySem.F.slot_list_index ⟨_,ho,rfl⟩ PySem.F.entry_list_index (PySem.F.args_list_index_2 _ _)
  (SeqAt.list_indexAt a vs m dd sl (.str x t) (MB x) j hjs (by lia) ?_ (fun k hk kU=>?_)) ⟨ho,fun y hy=>?_,hq⟩
 ·have:vs[j]=v0:=by rw[←hjv];simp
  rw[this];exact h1
 ·refine h2 k _ kU ?_
  rw[Array.getElem?_toList];exact Array.getElem?_eq_getElem hk
 ·refine tD (all_strs a1 tr y (by simpa using hy)) fun z u o2=>?_
  clear hy;obtain rfl:=o2;have:MB x (.str z u)=decide (z=x):=by
   show(z==x)=_;rw[Bool.eq_iff_iff];simp
  rw[this];exact fun prog w E Q hq=>wpAny_eqBool_str hq
end
theorem sH:typeLookup (.type "bytes") "__buffer__"=pure (some (.builtin "bytes.__buffer__")):=by rw[jo,jq];kernel_rfl
theorem MD:typeLookup (.type "bytes") "__release_buffer__"=pure none:=by rw[jo,jq];kernel_rfl
theorem zq:Slot "bytes" "join" "bytes.join":=
 .of (owner:= "bytes") (n:= "join") (by rw[jo,jq];kernel_rfl) (by decide +kernel) (by decide +kernel) (by decide +kernel)
  (by first|exact .inl (by decide +kernel)|exact .inr (by decide +kernel)) F.bm_sub
theorem Gd:entryFor table "bytes.join"=some Builtin.«bytes.join» :=by first|exact entryFor_of_fast (by kernel_rfl)|exact entryFor_of_tree (by kernel_rfl)
theorem Iq(a b:Value):argsOk "bytes.join" ⟨[a,b],[]⟩:=by unfold argsOk;kernel_rfl
theorem CP:typeLookup (.type "bytes") "__getattribute__"=pure (some (.builtin "bytes.__getattribute__")):=by rw[jo,jq];kernel_rfl
theorem RW:(Manifest.canonical "bytes.__getattribute__" != "object.__getattribute__")=false:=by decide +kernel
theorem ME:typeLookup (.type "bytes") "__getattr__"=pure none:=by rw[jo,jq];kernel_rfl
theorem Ir:typeOf (.builtin "bytes.join")=pure (.type "method_descriptor"):=by show builtinType _=_;rw[builtinType_eq_fast];kernel_rfl
section
variable{prog:Program}{w:World}{A:Around}{E:Value->Shared->Prop}{s:Shared}{M:Model}
variable{b:Array UInt8}{t:Tok}
theorem Iu{pl:Sem Bool}{Q:Value×List Value->Shared->Prop}
  (h:Q (.builtin "bytes.join",[.bytes b t]) s):wpAny M A (getMethod (.bytes b t) "join" pl) Q E s:=by
 have hT:s.TypeIs (.bytes b t) "bytes":=typeIs_bytes s b t;refine aD (fu hT CP ?_);refine(?_:wpAny M A (if(Manifest.canonical "bytes.__getattribute__" != "object.__getattribute__")=true then _ else _) Q E s);rw[RW,bG rX];refine aD (fu hT ME ?_);refine aD (fu hT zq.lookup ?_);refine aD (cD Ir ?_)
 first
  |exact aD (aR (aD (wpAny_rule (aR h))))
  |exact aD (wpAny_rule (aR h))
  |exact aR h
theorem Wh{id:String}{Q:Option (Array UInt8×Option Value)->Shared->Prop}(h:Q (some (b,none)) s):wpAny (model prog w) A (Builtin.Bytes.takeBufferQuiet? id (.bytes b t) 0) Q E s:=by
 have hT:s.TypeIs (.bytes b t) "bytes":=typeIs_bytes s b t;have ob:∀{Q:Bool→Shared→Prop} {E:Value→Shared→Prop},Q true s→wpAny (model prog w) A (Builtin.Bytes.slotIsOwn (.bytes b t) "__buffer__") Q E s:=fun{Q E} hq=>by
  refine aD (fu hT sH ?_);refine eL (by decide +kernel) ?_;have e:("bytes.__buffer__".dropRight ("__buffer__".length+1))= "bytes":=by decide +kernel
  rw[e];exact wpAny_isInstance hT F.bm_sub hq
 refine aD (wpAny_attempt ?_);refine aD (fu hT sH ?_);refine aD (ob ?_);refine eL rfl ?_;refine aD (fu hT sH ?_);refine aD ?_;refine aD (fu hT sH ?_);refine aD (ob ?_);refine eL rfl ?_;refine aD (fu hT sH ?_);refine aD (aD ?_);refine aD (fu hT MD (aR (aR ?_)));refine eL rfl ?_;refine aD (cD (a:=b) rfl ?_);exact aR (aR (aR h))
theorem Ke:∀(l:List (Array UInt8)) (k:Nat) (acc:Array UInt8),(l.zipIdx k).foldl (fun ah (p,i)=>(if i>0 then ah++(#[]:Array UInt8)else ah)++p) acc=acc++(l.map (·.toList)).flatten.toArray:=by
 intro x0
 induction x0 with
 |nil=>
  intro _ acc;simp
 |cons p r ih=>
  intro k acc;rw[List.zipIdx_cons,List.foldl_cons,ih];refine(?_:((if k>0 then acc++(#[]:Array UInt8)else acc)++p)++_=_);have e:(if k>0 then acc++(#[]:Array UInt8)else acc)=acc:=by split<;>simp
  rw[e];apply Array.ext';simp
theorem RX{keep:List Value}{Q:Unit->Shared->Prop}:∀{l:List (Array UInt8×Tok)},Q () s->wpAny M A (Builtin.Bytes.joinLetGo (l.map fun p=>(.bytes p.1 p.2,none)) keep) Q E s:=by
 intro x0
 induction x0 with
 |nil=>
  intro h;exact aR h
 |cons p r ih=>
  intro h;exact aD (wpAny_letGo (ih h))
noncomputable abbrev CQ(l:List (Array UInt8×Tok)):List Value:=l.map fun p=> .bytes p.1 p.2
theorem Pb:∀(l:List (Array UInt8×Tok)),((l.map fun p=>((Value.bytes p.1 p.2,none):Value×Option Value)).any (·.1.onHeap))=false:=by
 intro x0
 induction x0 with
 |nil=>
  exact rfl
 |cons p r ih=>
  exact ih
theorem Pc:∀(l:List (Array UInt8×Tok)) (k:Nat),(l.map (·.1)).foldl (fun a p=>a+p.size) k=k+(l.map (·.1.size)).sum:=by
 intro x0
 induction x0 with
 |nil=>
  intro k;exact rfl
 |cons p r ih=>
  intro k;rw[List.map_cons,List.foldl_cons,ih,List.map_cons,List.sum_cons];exact Nat.add_assoc k p.fst.size (List.map (fun x=>x.fst.size) r).sum
set_option pp.explicit false in
theorem Wi{D:Addr}{t:Tok}{l:List (Array UInt8×Tok)}{Q:Value->Shared->Prop}(hl:s.heap.IsList D (CQ l).toArray)(hz:(l.map (·.1.size)).sum<=sizeLine)
  (hq:∀t' k,Q (.bytes (l.map (·.1.toList)).flatten.toArray t') {s with toks:=k}):wpAny (model prog w) A (call (.builtin "bytes.join") [.bytes #[] t,.ref D]) Q E s:=by
 obtain⟨o,ho,hc,n,hd⟩:=id hl;refine wpAny_call_entry zq (typeIs_bytes s _ _) Gd ?_ (Iq _ _);refine aD (cD (a:=(.bytes #[] t,.ref D)) rfl ?_);refine aD ?_;refine aD (wpAny_typeOf hl.typeIs ?_);refine bm_if_true (by decide) (aR ?_);refine aD (wpAny_seqItems ho hd ?_)
 match l,hl,hz,hq,hd with
 | [p],hl,hz,hq,hd=>
  refine bm_if_true (by decide) ?_;refine aD (wpAny_typeOf (T:= "bytes") (v:= .bytes p.1 p.2) rfl ?_);refine bm_if_true (by decide) ?_;refine aD (wpAny_rule ?_);have e:(([p].map (·.1.toList)).flatten.toArray:Array UInt8)=p.1:=by simp
  rw[e]at hq
  first
   |exact aR ⟨_,rfl,hq p.2 s.toks⟩
   |exact aD (aR (aR ⟨_,rfl,hq p.2 s.toks⟩))
 | [],hl,hz,hq,hd=>
  refine aD ?_;rw[Std.Legacy.Range.forIn_eq_forIn_range'];refine(?_:wpAny _ _ (forIn [] _ _) _ _ _);rw[List.forIn_nil];refine aR ?_;refine aD (cD (a:=(#[]:Array UInt8)) rfl ?_);refine eL (by decide) ?_;refine aD (wpAny_mkBytes ?_ (iS _));refine aD (wpAny_holding (wpAny_point ?_));refine aD (aR ?_);exact aR ⟨_,rfl,hq _ _⟩
 |p::q::r,hl,hz,hq,hd=>
  refine aD ?_;rw[Std.Legacy.Range.forIn_eq_forIn_range'];simp only[Std.Legacy.Range.size,Nat.sub_zero,Nat.add_sub_cancel,Nat.div_one];generalize p::q::r=bs at *;have hsz:(CQ bs).toArray.size=bs.length:=by simp
  refine wpAny_forIn_list _ (fun rest b s'=>∃i,s'=s/\rest=List.range' i (bs.length - i)/\i<=bs.length/\b=(((bs.take i).map (·.1)).toArray,(bs.take i).map fun p=>(.bytes p.1 p.2,none))) _ ?_ ?_ _ _ ⟨0,rfl,by rw[hsz];simp,iS _,rfl⟩
  ·rintro x rest b s' ⟨i,rfl,hr,hi,rfl⟩
   have kU:i<bs.length:=by
    rcases Nat.lt_or_ge i bs.length with h|h
    ·exact h
    ·rw[Nat.sub_eq_zero_of_le h]at hr;simp at hr
   obtain⟨rfl,hrest⟩:x=i/\rest=List.range' (i+1) (bs.length - (i+1)):=by
    have e:bs.length - i=(bs.length - (i+1))+1:=(Nat.sub_one_add_one (Nat.sub_ne_zero_of_lt kU)).symm;rw[e,List.range'_succ]at hr
    injection hr with h1 h2
    exact⟨h1,h2⟩
   have hx:bs[x]?=some bs[x]:=List.getElem?_eq_getElem kU;have hg:(CQ bs).toArray.getD x .none= .bytes bs[x].1 bs[x].2:=by simp[Array.getD,kU]
   have ht:bs.take (x+1)=bs.take x++[bs[x]]:=by rw[List.take_add_one,hx];rfl
   refine aD (wpAny_seqItems ho hd ?_);dsimp only;rw[hg];refine eL (by rw[Pb];rfl) ?_;refine aD (wpAny_holding (Wh ?_));refine aD (wpAny_seqItems ho hd ?_);refine eL (by simp) (aR ?_);refine⟨x+1,rfl,hrest,kU,?_⟩;rw[ht,iY,iY];simp[-List.map_take]
  ·rintro b s' ⟨i,rfl,hr,hi,rfl⟩
   have lg:i=bs.length:=by
    rcases Nat.lt_or_ge i bs.length with h|h
    ·have e:bs.length - i=(bs.length - (i+1))+1:=(Nat.sub_one_add_one (Nat.sub_ne_zero_of_lt h)).symm
     rw[e,List.range'_succ]at hr;cases hr
    ·exact Nat.le_antisymm hi h
   clear hi hr;subst lg;rw[List.take_length];refine aD (cD (a:=(#[]:Array UInt8)) rfl ?_);have tz:((bs.map (·.1)).toArray.foldl (fun x1 x2=>x1+x2.size) ((#[]:Array UInt8).size * ((bs.map (·.1)).toArray.size - 1)))=(bs.map (·.1.size)).sum:=by
    rw[List.foldl_toArray];have:=Pc bs ((#[]:Array UInt8).size * ((bs.map (·.1)).toArray.size - 1));rw[this];simp
   refine eL (by unfold Builtin.Bytes.tooLong;rw[tz];simpa using hz) ?_;have jf:Builtin.Bytes.joined #[] (bs.map (·.1)).toArray.toList=(bs.map (·.1.toList)).flatten.toArray:=by
    unfold Builtin.Bytes.joined;rw[Ke];simp[Function.comp_def]
   rw[jf];refine aD (wpAny_mkBytes ?_ ?_)
   ·refine aD (wpAny_holding (wpAny_point ?_))
    refine aD (RX ?_);exact aR ⟨_,rfl,hq _ _⟩
   ·have:((bs.map (·.1.toList)).flatten.toArray:Array UInt8).size=(bs.map (·.1.size)).sum:=by
     simp[List.length_flatten,Function.comp_def]
    rw[this];exact hz
end
class inductive oh{K:Type}(iM:K->MV):List (MV×MV)->List (K×Value)->Prop
 |nil:oh iM [] []
 |cons {k v mv d kvs:_}:kG mv v->oh iM d kvs->oh iM ((iM k,mv)::d) ((k,v)::kvs)
theorem K9{d kvs}(x:oh MV.int d kvs):uD d kvs:=by
 induction x with
 |nil=>exact .nil
 |cons f _ ih=>exact .cons f ih
theorem Ef{d kvs}(x:oh MV.str d kvs):vG d kvs:=by
 induction x with
 |nil=>exact .nil
 |cons f _ ih=>exact .cons f ih
theorem Wj{d kvs}(x:vG d kvs):oh MV.str d kvs:=by
 induction x with
 |nil=>exact .nil
 |cons f _ ih=>exact .cons f ih
section
variable{K:Type}[DecidableEq K]{iM:K->MV}
theorem Kf{k:K}{v:Value}:∀{r:List (K×Value)},(∀p,p∈r->p.1≠k)->r.map (fun kv=>if kv.1=k then(kv.1,v)else kv)=r:=by
 intro x0
 induction x0 with
 |nil=>
  intro _;exact rfl
 |cons p r ih=>
  intro h;rw[List.map_cons,bG (h p (.head _)),ih fun q hq=>h q (.tail _ hq)]
theorem Wk(he:∀a b,i7 (iM a) (iM b)=decide (a=b)){k:K}{mv:MV}{v:Value}(f:kG mv v){d:List (MV×MV)}{kvs:List (K×Value)}(x:oh iM d kvs):(kvs.map (·.1)).Nodup->oh iM (yV (iM k) mv d) (stored kvs k v):=by
 induction x with
 |nil=>exact fun _=> .cons f .nil
 | @cons k' v' HQ d kvs f' r ih=>
  intro nd;refine oA (gh.mp nd) fun n1 n2=>?_;show oh iM (cond (i7 (iM k) (iM k')) ((iM k',mv)::d) ((iM k',HQ)::yV (iM k) mv d)) _;rw[he]
  by_cases e:k=k'
  ·clear nd
   subst e;rw[aM rfl];have:stored ((k,v')::kvs) k v=(k,v)::kvs:=by
    unfold stored;rw[if_pos (by simp),List.map_cons,if_pos rfl,Kf fun p hp q=>n1 (by have:=List.mem_map_of_mem (f:=fun x:K×Value=>x.1) hp;rw[q]at this;exact this)]
   rw[this];exact .cons f r
  ·rw[gF e]
   have:stored ((k',v')::kvs) k v=(k',v')::stored kvs k v:=by
    unfold stored;have e':¬k'=k:=fun q=>e q.symm;rw[List.any_cons];simp only[e',decide_false,Bool.false_or]
    split
    ·rw[List.map_cons,bG e']
    ·rfl
   rw[this];exact .cons f' (ih n2)
theorem Iv{k:K}{v:Value}{kvs:List (K×Value)}(nd:(kvs.map (·.1)).Nodup):((stored kvs k v).map (·.1)).Nodup:=by
 unfold stored
 split
 ·have:(kvs.map fun kv=>if kv.1=k then(kv.1,v)else kv).map (·.1)=kvs.map (·.1):=by
   rw[List.map_map];refine List.map_congr_left fun p _=>?_;show(if p.1=k then(p.1,v)else p).1=p.1
   split<;>rfl
  rw[this];exact nd
 ·rename_i h
  rw[iY];refine cg.mpr ⟨nd,by simp,fun a ha b hb e=>?_⟩;subst e;have hb:a=k:=by simpa using hb
  subst hb;refine aH (jr.mp ha) fun p hp o2=>?_;clear hb ha;obtain rfl:=o2;exact h (List.any_eq_true.mpr ⟨p,hp,by simp⟩)
theorem AM(he:∀a b,i7 (iM a) (iM b)=decide (a=b)){ps:List (MV×MV)}{more:List (K×Value)}(x:oh iM ps more):∀{d:List (MV×MV)} {kvs:List (K×Value)},oh iM d kvs->(kvs.map (·.1)).Nodup->oh iM (putAll d ps) (merged kvs more):=by
 induction x with
 |nil=>exact fun y _=>y
 | @cons k v mv d' ZC f r ih=>
  intro d kvs y nd;have e:merged kvs ((k,v)::ZC)=merged (stored kvs k v) ZC:=rfl;rw[e];show oh iM (putAll (yV (iM k) mv d) d') _;exact ih (Wk he f y nd) (Iv nd)
end
theorem La:∀a b:Int,i7 (.int a) (.int b)=decide (a=b):=fun a b=>rfl
theorem Eg:∀a b:Str,i7 (.str a) (.str b)=decide (a=b):=nB
section
variable{prog:Program}{w:World}{A:Around}{E:Value->Shared->Prop}{s:Shared}{K:Type}[DecidableEq K]{knd:KeyKind prog w K}
theorem MF:typeLookup (.type "list") "keys"=pure none:=by rw[jo,jq];kernel_rfl
variable{a:Addr}{xs:Array Value}
theorem MG{o:Obj}{k:Nat}{u:Tok}{Q:Value→Shared→Prop}(hx:s.heap.get? a=some o)(hc:o.cls= .type "list")(MH:o.data= .seq xs k)(hd:o.dict=none)(hA:A.handled=none)
  (h:∀h' tk e,Heap.NewExcOf s.heap h' e "AttributeError" →E (.ref e) {s with heap:=h',toks:=tk}):
  wpAny (model prog w) A (getAttrBy (.ref a) (.str "keys" u) false) Q E s:=by
 obtain⟨c,gk,dat,sl⟩:=o;simp only at hc MH hd;subst hc MH hd;obtain⟨hp,g,d,tk,os⟩:=s;have hT:∀tk',(⟨hp,g,d,tk',os⟩:Shared).TypeIs (.ref a) "list":=fun _=>⟨_,hx,rfl⟩;have f1:=sub_AttributeError;have f3:=F.slot_list_getattribute.lookup;have f4:=F.slot_list_getattribute.bind (.ref a);have f5:=am_list_getattr_none;unfold getAttrBy
 repeat (any_goals (first|assumption|exact hT _|((with_reducible show wpAny _ _ (call (Value.builtin "list.__getattribute__") _ _) _ _ _);refine call_meets F.slot_list_getattribute (hT _) am_entry_list_getattribute (F.args_list_getattribute_2 _ _) (meets_getattribute_miss_list a xs k sl "keys" _ MF (by decide) (by rw[sizeLine_eq];decide)) ⟨hx,hA,fun h' tk' e uG=>?_⟩)|wp_step))
 refine tD (uG.there) fun t' u' he=>?_;show wpAny _ _ (getattributeRaised _ _ _ _ _ _ _) _ _ _;unfold getattributeRaised
 repeat (any_goals (first|assumption|wp_step))
 exact h _ _ _ uG.of
theorem Wl{o:Obj}{k:Nat}{Q:Option Value→Shared→Prop}(hx:s.heap.get? a=some o)(hc:o.cls= .type "list")(MH:o.data= .seq xs k)(hd:o.dict=none)(hA:A.handled=none)
  (h:∀h' tk,(∀b o,s.heap.get? b=some o→h'.get? b=some o)→Q none {s with heap:=h',toks:=tk}):wpAny (model prog w) A (getAttr? (.ref a) "keys") Q E s:=by
 unfold getAttr? getAttrBy?;refine aD (wpAny_mkText (aD (wpAny_attempt (MG (s:= {s with toks:=s.toks+1}) hx hc MH hd hA fun h' tk e hn=>?_))));refine cy (hn.there) fun ob vs h1 h2 _=>?_;refine aD (wpAny_isInstance (T:= "AttributeError") (b:=true) ⟨ob,h1,h2⟩ sub_AttributeError ?_);exact aR (h h' tk hn.keeps)
class inductive gv(knd:KeyKind prog w K)(h:Heap):List Value->List (K×Value)->Prop
 |nil:gv knd h [] []
 |cons {p o key v n k vs ps:_}:h.get? p=some o→o.cls= .type "tuple" →o.data= .seq #[key,v] n→knd.is k key=true→gv knd h vs ps→gv knd h (.ref p::vs) ((k,v)::ps)
variable{h:Heap}
theorem gv.length{vs ps}(x:gv knd h vs ps):vs.length=ps.length:=by
 induction x with
 |nil=>rfl
 |cons _ _ _ _ _ ih=>exact bq (· +1) ih
theorem gv.get{vs ps}(x:gv knd h vs ps):∀i,i<vs.length→∃p o key v n k,vs[i]?=some (.ref p)∧ps[i]?=some (k,v)∧h.get? p=some o∧o.cls= .type "tuple" ∧o.data= .seq #[key,v] n∧knd.is k key=true:=by
 induction x with
 |nil=>exact fun i q=>absurd q (Nat.not_lt_zero i)
 |cons a b c d _ ih=>
  intro i q
  induction i using Nat.casesOn with
  |zero=>exact⟨_,_,_,_,_,_,rfl,rfl,a,b,c,d⟩
  |succ i=>exact ih i (vH q)
theorem xH:plainId "dict.update.loop"=true:=by decide +kernel
theorem Iw:entryFor table "dict.update.loop"=some Builtin.«dict.update.loop» :=by first|exact entryFor_of_fast (by kernel_rfl)|exact entryFor_of_tree (by kernel_rfl)
theorem Wm{R:Result->Shared->Prop}{l I D:Addr}{vs:List Value}{ps:List (K×Value)}{res:Value}(hh:A.handled=none)(hIl:I≠l)(ZD:I≠D)(hDl:D≠l):
  ∀(k i:Nat) (s:Shared) (kvs:List (K×Value)),vs.length - i=k->i<=vs.length->kvs.length+k<=sizeLine->s.heap.IsList l vs.toArray->gv knd s.heap vs ps->s.heap.IsListIter I l i->s.heap.DictOf knd D kvs->
   (∀h' t',h'.DictOf knd D (merged kvs (ps.drop i))->(∀b o,b≠I->b≠D->s.heap.get? b=some o->h'.get? b=some o)->R (.ok (.ret res)) {s with heap:=h',toks:=t'})->
   codeAny (model prog w) A (.builtin "dict.update.loop" ⟨[.ref D,.ref I,rawInt i,res],[]⟩) R s:=by
 intro k
 induction k with
 |zero=>
  intro i s kvs hk ZE hz hl hP Iz hD hR;have lg:i=vs.length:=Nat.le_antisymm ZE (Nat.le_of_sub_eq_zero hk);clear ZE hk;subst lg;refine codeAny_builtin Iw ?_;rw[tW xH _];unfold Builtin.«dict.update.loop»;refine aD (wpAny_pyNext_list_end hh Iz hl (by simp) fun h' he=>?_);refine aD (cD (a:=()) rfl ?_);refine aR (hR h' s.toks ?_ fun b o hb _ e=>he b o hb e);have:ps.drop vs.length= []:=List.drop_eq_nil_of_le (by rw[hP.length];exact gK _);rw[this];refine fq (hD) fun o es ep ho r=>?_;try clear hD;exact⟨o,es,ep,he D o (Ne.symm ZD) ho,r⟩
 |succ k ih=>
  intro i s kvs hk ZE hz hl hP Iz hD hR;have kU:i<vs.length:=by exact Nat.lt_of_sub_eq_succ hk
  refine Hq (hP.get i kU) fun p o key v n kk g1 g2 g3 g4 g5 g6=>?_;refine codeAny_builtin Iw ?_;rw[tW xH _];unfold Builtin.«dict.update.loop»;refine aD (wpAny_pyNext_list_item (x:= .ref p) Iz hl (by simpa using g1) fun h' hit' hs=>?_);have gH:=hl;obtain⟨ol,hol,hlc,nl,hld⟩:=gH;have ke:∀b o,b≠I->s.heap.get? b=some o->h'.get? b=some o:=fun b o hb e=>hs.extBut b o hb e;have pI:p≠I:=fun e=>by
   refine gO (Iz) fun oi ZF ZG _=>?_;try clear Iz;rw[e,ZF]at g3;cases g3;rw[ZG]at g4;exact absurd (Value.type.inj g4) (by decide)
  have Pd:=ke p o pI g3;have hD':h'.DictOf knd D kvs:=by
   refine fq (hD) fun od es ep ho r=>?_;try clear hD;exact⟨od,es,ep,ke D od (Ne.symm ZD) ho,r⟩
  refine aD (wpAny_holding (aD (wpAny_tryCatch ?_)));unfold Builtin.Dict.pairItems;refine aD (wpAny_typeOf (T:= "tuple") ⟨o,Pd,g4⟩ ?_);refine bm_if_true (by decide) ?_;refine aD (wpAny_seqItems Pd g5 (aR ?_));show wpAny _ _ (holding [key,v] (dictSet D key v)) _ _ _;refine wpAny_holding (wpAny_dictSet_pairs (hsz:=by exact qd hz) g6 hD' fun h2 CR UE=>?_);have hlen:(stored kvs kk v).length+k≤sizeLine:=aI (eX (stored_length_le kvs kk v) k) (by rw[Nat.add_assoc,Nat.add_comm 1];exact hz);have k2:∀b o,b≠I→b≠D→s.heap.get? b=some o→h2.get? b=some o:=fun b o hb zp e=>(UE.2 b zp).trans (ke b o hb e);refine aR ⟨plainId_quiet xH _,?_⟩;have hc:((i:Int)+1)=((i+1:Nat):Int):=by push_cast;rfl
  show codeAny _ A (.builtin "dict.update.loop" ⟨[.ref D,.ref I,rawInt ((i:Int)+1),res],[]⟩) R _;rw[hc];have lI:l≠I:=Ne.symm hIl;have lD:l≠D:=Ne.symm hDl;refine ih (i+1) _ (stored kvs kk v) (by rw[Nat.sub_succ,hk];rfl) kU hlen ⟨ol,k2 l ol lI lD hol,hlc,nl,hld⟩ ?_ (hit'.extBut UE.extBut ZD) CR fun h3 t3 hm ZI=>?_
  ·
   have go:∀{vs ps},gv knd s.heap vs ps->gv knd h2 vs ps:=by
    intro vs ps x
    induction x with
    |nil=>exact .nil
    | @cons p o key v n kk vs ps a b c dd _ ih2=>
     refine .cons (k2 p o (fun e=>?_) (fun e=>?_) a) b c dd ih2
     ·refine gO (Iz) fun oi ZF ZG _=>?_
      try clear Iz;rw[e,ZF]at a;cases a;rw[ZG]at b;exact absurd (Value.type.inj b) (by decide)
     ·refine yT (hD) fun od es ep ho Pe _=>?_
      try clear hD;rw[e,ho]at a;cases a;rw[Pe.1]at b;exact absurd (Value.type.inj b) (by decide)
   exact go hP
  ·refine hR h3 t3 ?_ fun b o hb zp e=>ZI b o hb zp (k2 b o hb zp e)
   have:ps.drop i=(kk,v)::ps.drop (i+1):=by
    refine oE (List.getElem?_eq_some_iff.mp g2) fun hil hiv=>?_;rw[List.drop_eq_getElem_cons hil,hiv]
   rw[this];exact hm
end
section
variable{prog:Program}{w:World}{A:Around}{s:Shared}
variable{R:Result->Shared->Prop}
set_option backward.match.sparseCases true in
theorem MI{body env}
  (h:aE (model prog w) (A.deeper env) (execs body env) (fun f s'=>R (.ok (.ret (match f with| .ret v=>v|_=> .none))) s') aF s):dF (model prog w) A (.func body env) R s:=by
 refine e7 ?_;show aE _ (A.deeper env) (do point;match ←(execs body env).onRaise (leaving env)with| .ret v=>ret v|_=>ret .none) _ _ s;refine aj (aT (wpAny_point (aj (jZ (kT h (fun f s' h'=>?_) fun _ _ h'=>h'.elim)))))
 induction f using Flow.casesOn<;>exact aK h'
set_option backward.match.sparseCases true in
theorem BK{a:Addr}{o:Obj}{fd:FuncData}{body:List Stmt}{vals:List Value}{binds:List (Str×Value)}
  (hroom:A.depth<recursionLimit) (ho:s.heap.get? a=some o) (hdata:o.data= .func fd) (hlim:s.heap.NoLimit) (Pe:s.heap.CodeRec fd.code fd.qualname)
  (hbody:fd.body= .stmts body) (GW:BindsTo s fd ⟨vals,[]⟩ binds) (hclo:fd.closure= [])
  (GY:∀x∈binds,fd.scope.names.lookup x.1=some .local∨(fd.scope.names.lookup x.1=some .cell/\((cellsFrom (s.heap.objs.size+1) fd.scope.names []).lookup x.1).isSome=true))
  (hco:fd.scope.isCoroutine=false) (hgen:fd.scope.isGenerator=false) (hk:fd.scope.kind= .function)
  (h:∀s₁,InCallC s (callEnvC fd s.heap.objs.size a).locals (bindL (callEnvC fd s.heap.objs.size a).kindOf binds fun _=>none) (callEnvC fd s.heap.objs.size a).cells
    (bindC (callEnvC fd s.heap.objs.size a).kindOf binds fun _=>none) s₁->
   aE (model prog w) (A.deeper (callEnvC fd s.heap.objs.size a)) (execs body (callEnvC fd s.heap.objs.size a)) (fun f s'=>R (.ok (.ret (match f with| .ret v=>v|_=> .none))) s') aF s₁):
  dF (model prog w) A (.call (.ref a) ⟨vals,[]⟩) R s:=by
 refine e7 (aT ?_);show wpAny _ A.in1 (callAny (.ref a) ⟨vals,[]⟩) _ _ s;simp only[callAny];refine aD (wpAny_load ho ?_);refine xr (Pe) fun c oc vs tq hc ZJ ZK hq=>?_;try clear Pe;simp only[hdata,callFunction,hco,hgen,hbody,hc];refine aD (m:=field (.ref c) 1) (wpAny_field ZJ ZK hq (aD (aR ?_)));rw[hclo];refine aD (GW _ _ _ _ (aD (wpAny_newFunctionEnv_cells hk GY fun env he s' x=>?_)));rw[←hc]at he;have he':env=callEnvC fd s.heap.objs.size a:=he;clear he;subst he';exact aD (wpAny_enterFrame (hlim.keeps x.toInCall.keep) hroom (aR (And.intro rfl (MI (h s' x)))))
end
section
variable{F F':List Addr}{envs:List Env}{env:Env}{aa:List (List Addr)}{al al' dG bZ:Al}{st aY:St}{h h' gB:Heap}{O O' W:List Addr}{s s' dU:Shared}{A:Around}{d n:Nat}{tb:Bool}
 {consts:List (Str×Int)} {self:Ev}
noncomputable def cX{β:Type}(al:List (Str×β)):List Str->List (Str×β)
 | []=>al
 |y::r=>cX (del al y) r
variable{β:Type}
theorem Be:∀(ys:List Str) (l:List (Str×β)) (x:Str),look (cX l ys) x=if x∈ys then Option.none else look l x:=by
 intro x0
 induction x0 with
 |nil=>
  intro l x;rw[bG (fun h=>nomatch h)];rfl
 |cons y r ih=>
  intro l x;show look (cX (del l y) r) x=_;rw[ih,iG]
  by_cases h:x∈r
  ·simp[h]
  ·by_cases h2:y=x
   ·subst h2;simp
   ·have:¬x=y:=fun e=>h2 e.symm
    simp[h,h2,this]
theorem rY:∀(ys:List Str) (al:Al) (a:Addr),a∈flat (cX al ys)->a∈flat al:=by
 intro x0
 induction x0 with
 |nil=>
  intro _ _ h;exact h
 |cons y r ih=>
  intro al a h;exact eY y (ih _ a h)
theorem CS:∀(ys:List Str) (al:Al),(flat (cX al ys)).Sublist (flat al):=by
 intro x0
 induction x0 with
 |nil=>
  intro _;exact j5 _
 |cons y r ih=>
  intro al;exact(ih (del al y)).trans (je y al)
class inductive Args(h:Heap)(O:List Addr)(ow:List (Str×MV))(al:Al):List Str->List Bool->List MV->List MV->List Value->Al->List Str->Prop
 |nil:Args h O ow al [] [] [] [] [] [] []
 |tree {p ps ms m as cs v vs bZ ys:_}:Tree h O m v->Args h O ow al ps ms as cs vs bZ ys->Args h O ow al (p::ps) (false::ms) (m::as) (m::cs) (v::vs) bZ ys
 |own {p ps ms y c a r as cs vs bZ ys:_}:look al y=some (a::r)->look ow y=some c->Args h O ow al ps ms as cs vs bZ ys->
   Args h O ow al (p::ps) (true::ms) (.own y::as) (c::cs) (.ref a::vs) ((p,a::r)::bZ) (y::ys)
theorem Args.RY{ow ps ms as cs vs ys}(x:Args h O ow al ps ms as cs vs bZ ys):vs.length=ps.length/\ms.length=ps.length:=by
 induction x with
 |nil=>exact⟨rfl,rfl⟩
 |tree _ _ ih=>exact⟨bq (· +1) ih.1,bq (· +1) ih.2⟩
 |own _ _ _ ih=>exact⟨bq (· +1) ih.1,bq (· +1) ih.2⟩
theorem Args.Eh{ow ps ms as cs vs ys}(x:Args h O ow al ps ms as cs vs bZ ys):∀bM:Al,(∀y,y∈ys->look bM y=look al y)->∀b,b∈flat bZ->b∈flat bM:=by
 induction x with
 |nil=>exact fun _ _ _ q=>nomatch q
 |tree _ _ ih=>exact ih
 |own e _ _ ih=>
  intro bM hq b q
  rcases bR.mp q with q|q
  ·exact cZ ((hq _ (.head _)).trans e) b q
  ·exact ih bM (fun y hy=>hq y (.tail _ hy)) b q
theorem lN:∀{bM:Al} {y:Str} {as:List Addr},(flat bM).Nodup->look bM y=some as->as.Nodup
 |(k,bs)::r,y,as,nd,e=>by
  rw[bg]at e;refine dh (cg.mp nd) fun n1 n2 n3=>?_;refine bT (k==y) (fun z=>?_) fun z=>?_
  ·rw[z]at e;cases e;exact n1
  ·rw[z]at e;exact lN n2 e
theorem Args.nodup{ow ps ms as cs vs ys}(x:Args h O ow al ps ms as cs vs bZ ys):∀bM:Al,(flat bM).Nodup->(∀y,y∈ys->look bM y=look al y)->ys.Nodup->(flat bZ++flat (cX bM ys)).Nodup:=by
 induction x with
 |nil=>exact fun _ nd _ _=>nd
 |tree _ _ ih=>exact ih
 | @own p ps ms y c a r as cs vs bZ ys e _ x' ih=>
  intro bM nd q ny;refine oA (gh.mp ny) fun n1 n2=>?_;have e0:look bM y=some (a::r):=(q y (.head _)).trans e;have Pf:(flat (del bM y)).Nodup:=nd.sublist (je y bM);have q':∀z,z∈ys->look (del bM y) z=look al z:=fun z hz=>by
   rw[iG,bG (fun ee:y=z=>n1 (ee▸hz))];exact q z (.tail _ hz)
  have:=ih (del bM y) Pf q' n2;show((a::r)++flat bZ++flat (cX (del bM y) ys)).Nodup;rw[dH];refine cg.mpr ⟨lN nd e0,this,fun b hb c hc ZL=>?_⟩;subst ZL;have h1:=jg nd e0 b hb
  rcases bR.mp hc with hc|hc
  ·exact h1 (x'.Eh (del bM y) q' b hc)
  ·exact h1 (rY ys _ _ hc)
theorem iZ:∀(l:List (Str×β)) (x:Str),look l x=l.lookup x:=by
 intro x0
 induction x0 with
 |nil=>
  intro _;exact rfl
 |cons gA r ih=>
  rcases gA with⟨y,v⟩
  intro x;rw[bg,List.lookup_cons,ih x];have:(y==x)=(x==y):=by
   by_cases h:y=x
   ·subst h;rfl
   ·rw[jY.mpr h,jY.mpr (Ne.symm h)]
  rw[this];cases x==y<;>rfl
theorem RZ(kd:Str->Option NameKind):∀(bs:List (Str×Value)) (m:Str->Option Value) (x:Str),kd x=some .local->(bs.map (·.1)).Nodup->bindL kd bs m x=match look bs x with|some v=>some v|Option.none=>m x:=by
 intro x0
 induction x0 with
 |nil=>
  intro m x _ _;exact rfl
 |cons gA r ih=>
  rcases gA with⟨y,v⟩
  intro m x hx nd;refine oA (gh.mp nd) fun n1 n2=>?_;unfold bindL;rw[ih _ x hx n2,bg];cases z:y==x with
  |true=>
   have:y=x:=eq_of_beq z;subst this;have:look r y=Option.none:=by
    cases e:look r y with
    |none=>rfl
    |some v'=>rw[iZ]at e;exact absurd (List.mem_map_of_mem (f:=(·.1)) (mem_of_lookup e)) n1
   rw[this];simp[hx]
  |false=>
   have zh:¬x=y:=fun e=>by subst e;simp at z
   simp only[bN];cases look r x with
   |some v'=>rfl
   |none=>dsimp only;split<;>simp[zh]
theorem R0(kd:Str->Option NameKind):∀(bs:List (Str×Value)) (m:Str->Option Value) (x:Str),kd x=some .cell->(bs.map (·.1)).Nodup->bindC kd bs m x=match look bs x with|some v=>some v|Option.none=>m x:=by
 intro x0
 induction x0 with
 |nil=>
  intro m x _ _;exact rfl
 |cons gA r ih=>
  rcases gA with⟨y,v⟩
  intro m x hx nd;refine oA (gh.mp nd) fun n1 n2=>?_;unfold bindC;rw[ih _ x hx n2,bg];cases z:y==x with
  |true=>
   have:y=x:=eq_of_beq z;subst this;have:look r y=Option.none:=by
    cases e:look r y with
    |none=>rfl
    |some v'=>rw[iZ]at e;exact absurd (List.mem_map_of_mem (f:=(·.1)) (mem_of_lookup e)) n1
   rw[this];simp[hx]
  |false=>
   have zh:¬x=y:=fun e=>by subst e;simp at z
   simp only[bN];cases look r x with
   |some v'=>rfl
   |none=>dsimp only;split<;>simp[zh]
theorem Args.vals{ow ps ms as cs vs ys}(x:Args h O ow al ps ms as cs vs bZ ys)(S:cM h O h' O' W):ps.Nodup->∀(q:Str) mv,look (qX ps ms cs) q=some mv->∃v,look (ps.zip vs) q=some v/\cS h' O' bZ mv v/\q∈ps/\∀k,mv= .own k->q=k:=by
 induction x with
 |nil=>intro _ q mv e;exact aq e
 | @tree p ps ms m as cs v vs bZ ys t _ ih=>
  intro nd q mv e;refine oA (gh.mp nd) fun n1 n2=>?_;replace e:look ((p,m)::qX ps ms cs) q=some mv:=e;rw[List.zip_cons_cons,bg];rw[bg]at e;cases z:p==q with
  |true=>
   rw[z]at e
   (first|exact aq e|exact aP e|cases e)
   refine⟨v,rfl,?_,by rw[eq_of_beq z];exact .head _,?_⟩
   ·have t':=t.aU S
    induction t' using Tree.casesOn<;>first|exact t.aU S|skip
   ·intro k e;subst e;exact nomatch t
  |false=>
   rw[z]at e;refine jS (ih n2 q mv e) fun v' h1 h2 h3 h4=>?_;exact⟨v',h1,h2,.tail _ h3,h4⟩
 | @own p ps ms y c a r as cs vs bZ ys e0 _ x' ih=>
  intro nd q mv e;refine oA (gh.mp nd) fun n1 n2=>?_;replace e:look ((p,.own p)::qX ps ms cs) q=some mv:=e;rw[List.zip_cons_cons,bg];rw[bg]at e;cases z:p==q with
  |true=>
   rw[z]at e
   (first|exact aq e|exact aP e|cases e)
   refine⟨_,rfl,?_,by rw[eq_of_beq z];exact .head _,?_⟩
   ·intro as' e'
    rw[bg]at e';rw[show(p==p)=true from j0 p]at e'
    (first|exact aq e'|exact aP e'|cases e')
    exact⟨_,_,rfl,rfl⟩
   ·intro k e;cases e;exact(eq_of_beq z).symm
  |false=>
   rw[z]at e;refine jS (ih n2 q mv e) fun v' h1 h2 h3 h4=>?_;refine⟨v',h1,?_,.tail _ h3,h4⟩
   induction mv using MV.casesOn<;>first|exact h2|skip
   rename_i k;intro as' e';have:q=k:=h4 k rfl;clear h4 e;subst this;rw[bg,z]at e';exact h2 as' e'
theorem Args.ows{ow ps ms as cs vs ys}(x:Args h O ow al ps ms as cs vs bZ ys)(B:pY h O ow al):pY h O (qY ps ms cs) bZ:=by
 induction x with
 |nil=>exact⟨fun k m e=>by exact aq e⟩
 |tree _ _ ih=>exact ih
 | @own p ps ms y c a r as cs vs bZ ys e0 e1 x' ih=>
  refine⟨fun k m e=>?_⟩;have e':look ((p,c)::qY ps ms cs) k=some m:=e;rw[bg]at e' ⊢;cases z:p==k with
  |true=>
   rw[z]at e'
   (first|exact aq e'|exact aP e'|cases e')
   refine aH (B.own y _ e1) fun as h1 h2=>?_;rw[e0]at h1
   (first|exact aq h1|exact aP h1|cases h1)
   exact⟨_,rfl,h2⟩
  |false=>rw[z]at e';exact ih.own k m e'
end
variable{bZ:Al}{s₁:Shared}{f:Fn}{fv:Addr}{fd:FuncData}
structure FnAt(f:Fn)(fv:Addr)(fd:FuncData):Prop where
 obj:∃o,g.H0.get? fv=some o/\o.data= .func fd
 sc:fd.scope=f.sc
 body:fd.body= .stmts f.body
 Yx:fd.closure= []
 gl:fd.globals=mainGlobals
 bt:fd.builtins=builtinsNs
 code:g.H0.CodeRec fd.code fd.qualname
 bind:∀vals:List Value,vals.length=f.ps.length->∀s:Shared,(∀b o,g.H0.get? b=some o->s.heap.get? b=some o)->BindsTo s fd ⟨vals,[]⟩ (f.ps.zip vals)
 kinds:∀p,p∈f.ps->look f.sc.names p=some .local∨look f.sc.names p=some .cell
 nd:f.ps.Nodup
 cnd:((cellsFrom 0 f.sc.names []).map (·.1)).Nodup
 kind:f.sc.kind= .function
 co:f.sc.isCoroutine=false
 gen:f.sc.isGenerator=false
theorem MJ:∀(names:List (Str×NameKind)) (n m:Nat) (acc xB:List (Str×Addr)),acc.map (·.1)=xB.map (·.1)->(cellsFrom n names acc).map (·.1)=(cellsFrom m names xB).map (·.1):=by
 intro x0
 induction x0 with
 |nil=>
  intro _ _ _ _ e;exact e
 |cons gA r ih=>
  rcases gA with⟨x,k⟩
  intro n m acc xB e;unfold cellsFrom
  split
  ·exact ih _ _ _ _ (by rw[List.map_cons,List.map_cons,e])
  ·exact ih _ _ _ _ e
theorem MK{β:Type}:∀{l:List (Str×β)} {x:Str×β},(l.map (·.1)).Nodup->x∈l->l.lookup x.1=some x.2:=by
 intro l
 induction l with
 |nil=>intro x _ hx;exact nomatch hx
 |cons p r ih=>
  intro x nd hx
  induction p using Prod.casesOn with
  |mk k v=>
   refine oA (gh.mp nd) fun n1 n2=>?_;rw[List.lookup_cons]
   rcases cC.mp hx with rfl|hx
   ·simp
   ·have:(x.1==k)=false:=jY.mpr fun e=>n1 (e▸List.mem_map_of_mem (f:=(·.1)) hx)
    rw[this];exact ih n2 hx
noncomputable abbrev uN(env:Env):List Addr:=env.locals::env.cells.map (·.2)
abbrev Wn(f:Fn)(cs:List MV):St:=⟨[⟨f.sc,qX f.ps f.ms cs⟩],qY f.ps f.ms cs⟩
theorem map_fst_zip{ps:List Str}{vs:List Value}(e:vs.length=ps.length):(ps.zip vs).map (·.1)=ps:=List.map_fst_zip (Nat.le_of_eq e.symm)
theorem Kg(FA:FnAt f fv fd)(L:Addr)(x:Str):(callEnvC fd L fv).kindOf x=look f.sc.names x:=by
 show fd.scope.names.lookup x=_;rw[FA.sc,iZ]
theorem R4(X:az F envs aa al st s.heap){a:Addr}(q:a∈Ob F aa al):a<s.heap.objs.size:=by
 refine oE (X.live a q) fun o e=>?_;exact gD e
theorem R6(FA:FnAt f fv fd)(X:az F envs aa al st s.heap){as cs vs ys}(Ar:Args s.heap (Ob F aa al) st.ow al f.ps f.ms as cs vs bZ ys)(ny:ys.Nodup)
  (I:InCallC s (callEnvC fd s.heap.objs.size fv).locals (bindL (callEnvC fd s.heap.objs.size fv).kindOf (f.ps.zip vs) fun _=>none) (callEnvC fd s.heap.objs.size fv).cells
    (bindC (callEnvC fd s.heap.objs.size fv).kindOf (f.ps.zip vs) fun _=>none) s₁):
  az (F++(aa.flatten++flat (cX al ys))) [callEnvC fd s.heap.objs.size fv] [uN (callEnvC fd s.heap.objs.size fv)] bZ (Wn f cs) s₁.heap/\(∀a,a∈uN (callEnvC fd s.heap.objs.size fv)->s.heap.objs.size<=a)/\
  cM s.heap (Ob F aa al) s₁.heap (Ob (F++(aa.flatten++flat (cX al ys))) [uN (callEnvC fd s.heap.objs.size fv)] bZ) []:=by
 generalize hE:callEnvC fd s.heap.objs.size fv=E at I ⊢;have Lb:∀x,E.kindOf x=look f.sc.names x:=fun x=>by rw[←hE];exact Kg FA _ x
 have hE1:E.globals=mainGlobals:=by rw[←hE];exact FA.gl
 have hE2:E.builtins=builtinsNs:=by rw[←hE];exact FA.bt
 have hE3:E.scope.kind= .function:=by rw[←hE];show fd.scope.kind=_;rw[FA.sc];exact FA.kind
 have hE4:E.cells=cellsFrom (s.heap.objs.size+1) f.sc.names []:=by rw[←hE];show cellsFrom _ fd.scope.names []=_;rw[FA.sc]
 refine oA (Ar.RY) fun l1 l2=>?_;have hmap:=map_fst_zip l1;have UG:((f.ps.zip vs).map (·.1)).Nodup:=by rw[hmap];exact FA.nd
 have lg:=Ar.Eh al (fun _ _=>rfl);have keep:=I.toInCall.keep;have sI:∀a,a∈uN E->s.heap.objs.size<=a:=fun a q=>by
  rcases cC.mp q with rfl|q
  ·exact I.toInCall.fresh
  ·refine aH (jr.mp q) fun x hx o2=>?_
   obtain rfl:=o2;exact Nat.le_of_lt (kJ I.toInCall.fresh (I.above x.1 x.2 hx))
 have hpl:∀a,a∈uN E->∃o,s₁.heap.get? a=some o:=fun a q=>by
  rcases cC.mp q with rfl|q
  ·refine fq (I.toInCall.ns) fun o es ep ho _=>?_
   exact⟨o,ho⟩
  ·refine aH (jr.mp q) fun x hx o2=>?_
   obtain rfl:=o2;have hk:(E.cells.map (·.1)).Nodup:=by rw[hE4,MJ f.sc.names _ 0 [] [] rfl];exact FA.cnd
   refine aH (I.cell x.1 x.2 (MK hk hx)) fun o ho _=>?_;exact⟨o,ho⟩
 have sJ:∀b,b∈F++(aa.flatten++flat (cX al ys))->b∈Ob F aa al:=fun b q=>by
  rw[aO]
  rcases bR.mp q with q|q
  ·exact .inl q
  ·rcases bR.mp q with q|q
   ·exact .inr (.inl q)
   ·exact .inr (.inr (rY _ _ _ q))
 have ZM:∀b,b∈Ob (F++(aa.flatten++flat (cX al ys))) [uN E] bZ->b∈Ob F aa al∨b∈uN E:=fun b q=>by
  rw[aO]at q
  rcases q with q|q|q
  ·exact .inl (sJ b q)
  ·simp only[iU,List.flatten_nil,fU]at q
   exact .inr q
  ·exact .inl (aO.mpr (.inr (.inr (lg b q))))
 have S:cM s.heap (Ob F aa al) s₁.heap (Ob (F++(aa.flatten++flat (cX al ys))) [uN E] bZ) []:=by
  refine⟨fun b o e _=>keep b o e,fun b o e q z=>?_,fun _ q=>nomatch q⟩
  rcases ZM b z with z|z
  ·exact q z
  ·exact kH _ (nu (gD e) (sI b z))
 refine⟨⟨.cons ⟨⟨hE3,hE1,hE2,fun x q=>by rw[Lb];exact q,fun x q=>by rw[Lb];exact q,fun x q=> .inl (by rw[Lb];exact q),fun x q=>by rw[Lb];exact q⟩,.head _,?_,?_,?_,?_⟩ (fun x _ e' r q=>by cases q) .nil,
  ⟨?_⟩,?_,?_,?_,?_,X.top⟩,sI,S⟩
 ·refine⟨_,I.toInCall.ns,fun x mv hx hl=>?_⟩
  refine jS (Ar.vals S FA.nd x mv hl) fun v h1 h2 h3 h4=>?_;refine⟨v,?_,h2⟩;rw[RZ _ _ _ x (by rw[Lb];exact hx) UG,h1]
 ·intro x hx
  have hs:=cellsFrom_some (x:=x) f.sc.names (s.heap.objs.size+1) [] (.inl (by rw[←iZ];exact hx));refine oE (Option.isSome_iff_exists.mp hs) fun c hc=>?_;rw[←hE4]at hc;refine⟨c,_,hc,.tail _ (List.mem_map_of_mem (f:=(·.2)) (mem_of_lookup hc)),Nat.ne_of_gt (I.above x c (mem_of_lookup hc)),I.cell x c hc,fun mv hl=>?_⟩;refine jS (Ar.vals S FA.nd x mv hl) fun v h1 h2 h3 h4=>?_;refine⟨v,?_,h2⟩;rw[R0 _ _ _ x (by rw[Lb];exact hx) UG,h1]
 ·intro x y c hx hy e1 e2
  exact name_of_addr I.apart (mem_of_lookup e1) (mem_of_lookup e2)
 ·intro x k hl
  refine jS (Ar.vals S FA.nd x _ hl) fun v h1 h2 h3 h4=>?_;exact h4 k rfl
 ·have q:=Ar.ows X.ow
  intro k m e;refine aH (q.own k m e) fun as' h1 h2=>?_;exact⟨as',h1,h2.aU S fun b o _ e=>keep b o e⟩
 ·
  refine dh (cg.mp X.nd) fun n1 n2 n3=>?_;refine dh (cg.mp n2) fun n4 n5 n6=>?_;have nA:=Ar.nodup al n5 (fun _ _=>rfl) ny;refine dh (cg.mp nA) fun m1 m2 m3=>?_;have nP:(uN E).Nodup:=by
   refine gh.mpr ⟨fun q=>?_,?_⟩
   ·refine aH (jr.mp q) fun x hx e=>?_
    exact Nat.ne_of_gt (I.above x.1 x.2 hx) e
   ·exact List.pairwise_map.mpr I.apart
  have nF':(F++(aa.flatten++flat (cX al ys))).Nodup:=X.nd.sublist ((j5 F).append ((j5 _).append (CS ys al)));show((F++(aa.flatten++flat (cX al ys)))++([uN E].flatten++flat bZ)).Nodup;simp only[iU,List.flatten_nil,fU];have kU:∀b,b∈Ob F aa al->b∉uN E:=fun b q z=>kH _ (nu (R4 X q) (sI b z));refine cg.mpr ⟨nF',cg.mpr ⟨nP,m1,fun a qa b qb e=>?_⟩,fun a qa b qb e=>?_⟩
  ·subst e
   exact kU a (aO.mpr (.inr (.inr (lg a qb)))) qa
  ·subst e
   rcases bR.mp qb with qb|qb
   ·exact kU a (sJ a qa) qb
   ·rcases bR.mp qa with qa|qa
    ·exact n3 a qa a (cO _ (lg a qb)) rfl
    ·rcases bR.mp qa with qa|qa
     ·exact n6 a qa a (lg a qb) rfl
     ·exact m3 a qb a qa rfl
 ·intro a q
  rcases ZM a q with q|q
  ·refine oE (X.live a q) fun o e=>?_
   exact⟨o,keep a o e⟩
  ·exact hpl a q
 ·intro a q
  rcases ZM a q with q|q
  ·exact X.hi a q
  ·exact aI X.big (sI a q)
 ·exact fun b o e=>keep b o (X.jN b o e)
variable{N:List Addr}{E:Env}{aV:Al}{au:St}{h₁ h2:Heap}{O2:List Addr}
noncomputable def gi(aV:Al):List Str->List Bool->List MV->Al
 |p::ps,true::ms,.own y::as=>(y,(look aV p).getD [])::gi aV ps ms as
 |_::ps,false::ms,_::as=>gi aV ps ms as
 |_,_,_=>[]
theorem lO{p ps ms m as}:gi aV (p::ps) (false::ms) (m::as)=gi aV ps ms as:=by induction m using MV.casesOn<;>rfl
theorem vY{β:Type}:∀(l r:List (Str×β)) (k:Str),look (l++r) k=match look l k with|some v=>some v|Option.none=>look r k:=by
 intro x0
 induction x0 with
 |nil=>
  intro r k;exact rfl
 |cons gA l ih=>
  rcases gA with⟨y,v⟩
  intro r k;rw[List.cons_append,bg,bg];cases y==k with
  |true=>rfl
  |false=>exact ih r k
theorem rZ:∀(l r:Al),flat (l++r)=flat l++flat r:=by
 intro x0
 induction x0 with
 |nil=>
  intro r;exact rfl
 |cons gA l ih=>
  rcases gA with⟨y,v⟩
  intro r;show v++flat (l++r)=v++flat l++flat r;rw[ih r,dH]
theorem Pg{p:Str}{b:Addr}(q:b∈(look aV p).getD []):b∈flat aV:=by
 refine nE (look aV p) (fun e=>?_) fun as e=>?_
 ·rw[e]at q;exact nomatch q
 ·rw[e]at q;exact cZ e b q
theorem Args.CT{ow ps ms as cs vs ys}(x:Args h O ow al ps ms as cs vs bZ ys):∀b,b∈flat (gi aV ps ms as)->b∈flat aV:=by
 induction x with
 |nil=>exact fun _ q=>nomatch q
 |tree _ _ ih=>intro b q;rw[lO]at q;exact ih b q
 |own _ _ _ ih=>
  intro b q
  rcases bR.mp q with q|q
  ·exact Pg q
  ·exact ih b q
theorem Args.Ph{ow ps ms as cs vs ys}(x:Args h O ow al ps ms as cs vs bZ ys):∀a1 a2:Al,(∀p,p∈ps->look a1 p=look a2 p)->gi a1 ps ms as=gi a2 ps ms as:=by
 induction x with
 |nil=>exact fun _ _ _=>rfl
 |tree _ _ ih=>intro a1 a2 q;rw[lO,lO];exact ih a1 a2 fun p hp=>q p (.tail _ hp)
 |own _ _ _ ih=>
  intro a1 a2 q;show(_,_)::_=(_,_)::_;rw[q _ (.head _),ih a1 a2 fun p hp=>q p (.tail _ hp)]
theorem Args.Pj{ow ps ms as cs vs ys}(x:Args h O ow al ps ms as cs vs bZ ys):∀aV:Al,ps.Nodup->(flat aV).Nodup->(flat (gi aV ps ms as)).Nodup:=by
 induction x with
 |nil=>exact fun _ _ _=>List.nodup_nil
 |tree _ _ ih=>intro aV np nd;rw[lO];exact ih aV (gh.mp np).2 nd
 | @own p ps ms y c a r as cs vs bZ ys _ _ x' ih=>
  intro aV np nd;refine oA (gh.mp np) fun n1 n2=>?_;have e1:gi aV ps ms as=gi (del aV p) ps ms as:=x'.Ph _ _ fun q hq=>by
   rw[iG,bG fun e:p=q=>n1 (e▸hq)]
  show((look aV p).getD []++flat (gi aV ps ms as)).Nodup;rw[e1];have h2:=ih (del aV p) n2 (nd.sublist (je p aV));cases e:look aV p with
  |none=>exact h2
  |some as'=>
   refine cg.mpr ⟨lN nd e,h2,fun b hb c hc ZL=>?_⟩;subst ZL;exact jg nd e b hb (x'.CT b hc)
theorem Args.R7{ow ps ms as cs vs ys}(x:Args h O ow al ps ms as cs vs bZ ys):∀k,k∉ys->look (gi aV ps ms as) k=Option.none:=by
 induction x with
 |nil=>exact fun _ _=>rfl
 |tree _ _ ih=>intro k q;rw[lO];exact ih k q
 | @own p ps ms y c a r as cs vs bZ ys _ _ x' ih=>
  intro k q;show look ((y,_)::_) k=_;have:(y==k)=false:=jY.mpr fun e=>q (e▸ .head _);rw[bg,this];exact ih k fun z=>q (.tail _ z)
set_option tactic.hygienic true in
theorem Args.outs{ow ps ms as cs vs ys}(x:Args h O ow al ps ms as cs vs bZ ys)(B:pY h2 O2 au.ow aV):∀outs,mR au ps ms=some outs->ys.Nodup->∀Fx k m,look (iD Fx ys outs) k=some m->
  (k∉ys/\look Fx k=some m)∨(k∈ys/\∃as',look (gi aV ps ms as) k=some as'/\c9 h2 O2 m as'):=by
 induction x with
 |nil=>intro outs _ _ Fx k m e;exact .inl ⟨(fun q=>nomatch q),by induction outs using List.casesOn<;>exact e⟩
 |tree _ _ ih=>intro outs eo ny Fx k m e;rw[lO];exact ih outs eo ny Fx k m e
 | @own p ps ms y c a r as cs vs bZ ys _ _ x' ih=>
  intro outs eo ny Fx k m e;refine oA (gh.mp ny) fun n1 n2=>?_;refine cy (xx eo) fun c' r' e1 e2 UH=>?_;clear eo
  ·
   refine oA (aG UH) fun _ eo=>?_;clear UH;cases eo;have e':look (iD (dJ Fx y c') ys r') k=some m:=e
   rcases ih r' e2 n2 (dJ Fx y c') k m e' with⟨h1,h2⟩|⟨h1,as',h2,h3⟩
   ·rw[jO]at h2
    by_cases hy:y=k
    ·clear h1
     subst hy;rw[if_pos rfl]at h2
     (first|exact aq h2|exact aP h2|cases h2)
     refine aH (B.own p _ e1) fun as' h4 h5=>?_;refine .inr ⟨.head _,as',?_,h5⟩;show look ((y,(look aV p).getD [])::_) y=_;rw[bg,j0,h4]
     rfl
    ·rw[bG hy]at h2
     exact .inl ⟨fun q=>by rcases cC.mp q with e|q;exact hy e.symm;exact h1 q,h2⟩
   ·refine .inr ⟨.tail _ h1,as',?_,h3⟩
    show look ((y,(look aV p).getD [])::_) k=_;have:(y==k)=false:=jY.mpr fun e=>n1 (e▸h1);rw[bg,this];exact h2
theorem zu:∀{l:List Str} {x:Str},x∈l->cJ x l=true
 |y::r,x,h=>by
  rw[tQ]
  rcases cC.mp h with rfl|h
  ·rw[j0];rfl
  ·rw[zu h];cases y==x<;>rfl
set_option tactic.hygienic true in
theorem Args.heads{ow ps ms as cs vs ys}(x:Args h O ow al ps ms as cs vs bZ ys)(B:pY h2 O2 au.ow aV):∀outs,mR au ps ms=some outs->ps.Nodup->
  (∀p,p∈lG ps ms->∀jF,look aV p=some jF->∃qF,look bZ p=some qF/\qF.head?=jF.head?)->∀k as',look (gi aV ps ms as) k=some as'->∃UI,look al k=some UI/\UI.head?=as'.head?:=by
 induction x with
 |nil=>intro _ _ _ _ k as' e;exact aq e
 |tree _ _ ih=>
  intro outs eo np q k as' e;rw[lO]at e;exact ih outs eo (gh.mp np).2 q k as' e
 | @own p ps ms y c a r as cs vs bZ ys e0 _ x' ih=>
  intro outs eo np q k as' e;refine oA (gh.mp np) fun n1 n2=>?_;refine cy (xx eo) fun c' r' e1 e2 UH=>?_;clear eo UH
  ·
   have e':look ((y,(look aV p).getD [])::gi aV ps ms as) k=some as':=e;rw[bg]at e';refine bT (y==k) (fun z=>?_) fun z=>?_
   ·
    rw[z]at e';have:y=k:=eq_of_beq z;clear z;subst this;refine aH (B.own p c' e1) fun jF h4 h5=>?_;rw[h4]at e'
    (first|exact aq e'|exact aP e'|cases e')
    refine aH (q p (.head _) jF h4) fun qF h6 h7=>?_;rw[bg,j0]at h6;cases h6;exact⟨_,e0,h7⟩
   ·
    rw[z]at e';refine ih r' e2 n2 (fun p' Pd jF ha=>?_) k as' e';refine aH (q p' (.tail _ Pd) jF ha) fun qF h6 h7=>?_;have zh:(p==p')=false:=jY.mpr fun e=>n1 (e▸IA Pd);rw[bg,zh]at h6;exact⟨qF,h6,h7⟩
where
 IA:∀{ps:List Str} {ms:List Bool} {p:Str},p∈lG ps ms->p∈ps
  |q::ps,true::ms,p,h=>by
   rcases cC.mp h with rfl|h
   ·exact .head _
   ·exact .tail _ (IA h)
  |q::ps,false::ms,p,h=> .tail _ (IA (ms:=ms) h)
set_option tactic.hygienic true in
theorem BL(X:az F envs aa al st h){ps ms as cs vs ys outs}(np:ps.Nodup)(Ar:Args h (Ob F aa al) st.ow al ps ms as cs vs bZ ys)(ny:ys.Nodup){aA:St}{P:List Addr}
  (X1:az (F++(aa.flatten++flat (cX al ys))) [E] [P] bZ aA h₁) (hP:∀a,a∈P->h.objs.size<=a)
  (keep:∀b o,h.get? b=some o->h₁.get? b=some o)
  (X2:az (N++(F++(aa.flatten++flat (cX al ys)))) [E] [P] aV au h2) (q2:Sq (lG ps ms) [P] bZ h₁ aV h2) (hN:uE [P] bZ h₁ N) (eo:mR au ps ms=some outs):
  az (N++F) envs aa (gi aV ps ms as++cX al ys) {st with ow:=iD st.ow ys outs} h2/\Sp aa al h (gi aV ps ms as++cX al ys) h2/\uE aa al h N/\
  (∀b,b∈Ob (N++F) aa (gi aV ps ms as++cX al ys)->b∈Ob (N++(F++(aa.flatten++flat (cX al ys)))) [P] aV):=by
 have lg:=Ar.Eh al (fun _ _=>rfl);have nP:∀b o,h.get? b=some o->b∉[P].flatten:=fun b o e q=>by
  simp only[iU,List.flatten_nil,fU]at q;exact kH _ (nu (gD e) (hP b q))
 have K1:∀b o,h.get? b=some o->b∉flat bZ->h2.get? b=some o:=fun b o e q=>q2.keep b o (keep b o e) (nP b o e) q;have bJ:∀b,b∈flat bZ∨b∈[P].flatten∨h₁.get? b=none->b∈flat al∨h.get? b=none:=fun b q=>by
  cases z:h.get? b with
  |none=>exact .inr rfl
  |some o=>
   rcases q with q|q|q
   ·exact .inl (lg b q)
   ·exact absurd q (nP b o z)
   ·rw[keep b o z]at q;exact nomatch q
 have ZN:∀b,b∈flat (gi aV ps ms as)->b∈flat al∨h.get? b=none:=fun b q=>bJ b (q2.sub b (Ar.CT b q));have nF1:∀b,b∈F++(aa.flatten++flat (cX al ys))->b∉flat bZ:=fun b q z=>(cg.mp X1.nd).2.2 b q b (cO _ z) rfl;have S2:cM h (Ob F aa al) h2 (Ob (N++F) aa (gi aV ps ms as++cX al ys)) (flat bZ):=by
  refine⟨K1,fun b o e q z=>?_,fun b q=>aO.mpr (.inr (.inr (lg b q)))⟩;rw[aO]at q z
  rcases z with z|z|z
  ·rcases bR.mp z with z|z
   ·rcases bJ b (hN b z)with z|z
    ·exact q (.inr (.inr z))
    ·rw[z]at e;exact aq e
   ·exact q (.inl z)
  ·exact q (.inr (.inl z))
  ·rw[rZ]at z
   rcases bR.mp z with z|z
   ·rcases ZN b z with z|z
    ·exact q (.inr (.inr z))
    ·rw[z]at e;exact aq e
   ·exact q (.inr (.inr (rY _ _ _ z)))
 have hd:∀k as',look (gi aV ps ms as++cX al ys) k=some as'->∃as,look al k=some as/\as.head?=as'.head?:=fun k as' e=>by
  rw[vY]at e;refine nE (look (gi aV ps ms as) k) (fun z=>?_) fun v z=>?_
  ·rw[z]at e
   have e:look (cX al ys) k=some as':=e;rw[Be]at e
   split at e
   ·exact aq e
   ·exact⟨as',e,rfl⟩
  ·rw[z]at e
   obtain rfl:=dm e;exact Ar.heads X2.ow outs eo np (fun p hp jF ha=>q2.heads p jF (zu hp) ha) k _ z
 have sJ:∀b,b∈Ob (N++F) aa (gi aV ps ms as++cX al ys)->b∈Ob (N++(F++(aa.flatten++flat (cX al ys)))) [P] aV:=fun b q=>by
  rw[aO]at q ⊢
  rcases q with q|q|q
  ·rcases bR.mp q with q|q
   ·exact .inl (cP _ q)
   ·exact .inl (cO _ (cP _ q))
  ·exact .inl (cO _ (cO _ (cP _ q)))
  ·rw[rZ]at q
   rcases bR.mp q with q|q
   ·exact .inr (.inr (Ar.CT b q))
   ·exact .inl (cO _ (cO _ (cO _ q)))
 have So:cM h2 (Ob (N++(F++(aa.flatten++flat (cX al ys)))) [P] aV) h2 (Ob (N++F) aa (gi aV ps ms as++cX al ys)) []:=
  ⟨fun _ _ e _=>e,fun b o e q z=>q (sJ b z),fun _ q=>nomatch q⟩
 refine⟨⟨X.fr.aU S2 hd (fun b o q e=>K1 b o e (nF1 b (cO _ (cP _ q)))),⟨fun k m e=>?_⟩,?_,fun b q=>X2.live b (sJ b q),fun b q=>X2.hi b (sJ b q),X2.jN,X.top⟩,⟨?_,?_,hd⟩,fun b q=>?_,sJ⟩
 ·rcases Ar.outs X2.ow outs eo ny st.ow k m e with⟨h1,ZO⟩|⟨h1,as',ZO,h3⟩
  ·refine aH (X.ow.own k m ZO) fun as' h4 h5=>?_
   have hD:look (cX al ys) k=some as':=by rw[Be,bG h1];exact h4
   refine⟨as',?_,h5.aU S2 fun b o q e=>K1 b o e (nF1 b (cO _ (cO _ (cZ hD b q))))⟩;rw[vY,Ar.R7 k h1];exact hD
  ·refine⟨as',?_,h3.aU So fun _ _ _ e=>e⟩
   rw[vY,ZO]
 ·have A1:=(cg.mp X2.nd).1
  have A2:=(cg.mp (cg.mp X2.nd).2.1).2.1;have A3:=(cg.mp X2.nd).2.2;have R1:=Ar.Pj aV np A2;show((N++F)++(aa.flatten++flat (gi aV ps ms as++cX al ys))).Nodup;rw[rZ];have pm:((N++F)++(aa.flatten++(flat (gi aV ps ms as)++flat (cX al ys)))).Perm (flat (gi aV ps ms as)++(N++(F++(aa.flatten++flat (cX al ys))))):=by
   rw[List.perm_iff_count];intro a;simp only[List.count_append]
   lia
  refine pm.nodup_iff.mpr (cg.mpr ⟨R1,A1,fun a qa b qb e=>?_⟩);subst e;exact A3 a qb a (cO _ (Ar.CT a qa)) rfl
 ·intro b o e q1 q3
  exact K1 b o e fun z=>q3 (lg b z)
 ·intro b q
  rw[rZ]at q
  rcases bR.mp q with q|q
  ·rcases ZN b q with z|z
   ·exact .inl z
   ·exact .inr (.inr z)
  ·exact .inl (rY _ _ _ q)
 ·rcases bJ b (hN b q)with z|z
  ·exact .inl z
  ·exact .inr (.inr z)
section
theorem Args.rename{ow ps ms as cs vs ys}(x:Args h O ow al ps ms as cs vs bZ ys):∀yg:List Str,yg.length=ps.length->∃IB,Args h O ow al yg ms as cs vs IB ys:=by
 induction x with
 |nil=>intro yg e;induction yg using List.casesOn with
  |nil=>exact⟨_,.nil⟩
  |cons _ _=>exact nomatch e
 |tree t _ ih=>intro yg e;induction yg using List.casesOn with
  |nil=>exact nomatch e
  |cons p yg=>obtain⟨IB,a⟩:=ih yg (Nat.succ.inj e);exact⟨_,.tree t a⟩
 |own e1 e2 _ ih=>intro yg e;induction yg using List.casesOn with
  |nil=>exact nomatch e
  |cons p yg=>obtain⟨IB,a⟩:=ih yg (Nat.succ.inj e);exact⟨_,.own e1 e2 a⟩
def ML(F:List Addr)(envs:List Env)(aa:List (List Addr))(al:Al)(st:St)(s:Shared)(ys:List Str)(sp:Spec):Result->Shared->Prop:=fun r s'=>match r with
 | .ok (.ret v)=>∃al',az F envs aa al' {st with ow:=iD st.ow ys sp.outs} s'.heap/\gf F envs aa al s.heap al' {st with ow:=iD st.ow ys sp.outs} s'.heap sp.val sp.fresh v/\Sp aa al s.heap al' s'.heap/\dQ s s'
 |_=>False
def kW(d:Nat)(en:Entry)(fv:Value):Prop:=∀{A F envs aa al st s ps as cs vs bZ ys k ah},bz A d 0 en.ba->az F envs aa al st s.heap->Args s.heap (Ob F aa al) st.ow al ps en.uu as cs vs bZ ys->ys.Nodup->
 en.sp cs k=some ah->dF (model g.prog g.w) A (.call fv ⟨vs,[]⟩) (fun r s'=>∃sp,k sp=some ah/\ML F envs aa al st s ys sp r s') s
structure kK(d:Nat)(T:fE)(M:Str->fE):Prop where
 fn:∀f en,T f=some en->∃fv,g.mg f=some (.ref fv)/\keepIn g.K (.ref fv)=true/\kW d en (.ref fv)
 me:∀c name en,M c name=some en->∃C fv,look g.cls c=some C/\plainGet g.K C name=true/\findIn g.K (.ref C) name=some (some (.ref fv))/\isFn g.K (.ref fv)=true/\keepIn g.K (.ref fv)=true/\kW d en (.ref fv)
class inductive Bf(h:Heap)(O:List Addr)(al:Al):List Bool->List MV->List Value->Prop
 |nil:Bf h O al [] [] []
 |tree {m v ms as vs:_}:Tree h O m v->Bf h O al ms as vs->Bf h O al (false::ms) (m::as) (v::vs)
 |own {y v ms as vs:_}:cS h O al (.own y) v->Bf h O al ms as vs->Bf h O al (true::ms) (.own y::as) (v::vs)
theorem Bf.args{ow:List (Str×MV)}(B:pY h O ow al):∀{ms as vs},Bf h O al ms as vs→∀{cs},BA ow as=some cs→∃bZ,Args h O ow al (List.replicate ms.length ("":Str)) ms as cs vs bZ (ownsOf as):=by
 intro ms as vs x
 induction x with
 |nil=>intro cs e;cases e;exact⟨_,.nil⟩
 | @tree m v ms as vs t _ ih=>
  intro cs e;have cm:Ul ow m=some m:=by induction t using Tree.casesOn<;>rfl
  refine cy (xx e) fun c r e0 e1 e2=>?_;clear e;rw[cm]at e0;clear cm;cases e0;cases e2;refine oE (ih e1) fun bZ a=>?_;have:ownsOf (m::as)=ownsOf as:=by induction t using Tree.casesOn<;>rfl
  rw[this];exact⟨_,.tree t a⟩
 | @own y v ms as vs hv _ ih=>
  intro cs e;refine cy (xx e) fun c r hc hr e2=>?_;clear e;cases e2;refine oE (ih hr) fun bZ a=>?_;refine aH (B.own y c hc) fun as' h1 h2=>?_;refine cF (hv as' h1) fun b q o2 o3=>?_;clear h2;obtain rfl:=o2;clear hv;obtain rfl:=o3;exact⟨_,.own h1 hc a⟩
theorem vK:∀{l:List Str},n8 l=true->l.Nodup:=by
 intro x0
 induction x0 with
 |nil=>
  intro _;exact List.nodup_nil
 |cons x r ih=>
  intro q;replace q:cond (cJ x r) false (n8 r)=true:=q;refine bT (cJ x r) (fun z=>?_) fun z=>?_
  ·rw[z]at q;exact aP q
  ·
   rw[z]at q;refine gh.mpr ⟨fun h=>?_,ih q⟩;rw[zu h]at z;exact aP z.symm
inductive UJ(F:List Addr)(envs:List Env)(aa:List (List Addr))(al:Al)(s:Shared)(ms:List Bool)(k:List MV->St->Option α)(ah:α)(vs:List Value)(s':Shared):Prop
 |mk (as:_) (aY:_) (al':_) (h0:k as aY=some ah) (h1:az F envs aa al' aY s'.heap) (h2:Bf s'.heap (Ob F aa al') al' ms as vs) (h3:Sp aa al s.heap al' s'.heap) (h4:dQ s s'):UJ F envs aa al s ms k ah vs s'
set_option tactic.hygienic true in
theorem MM{fr:List Fr}{e:Expr}{y:Str}(q:Cn fr e=some y):∃nm pp,e= .Name nm pp/\eu nm=false/\gu fr nm=some (.own y)/\True:=by
 induction e using Expr.casesOn<;>first|exact aq q|skip
 rename_i nm pp;have q:cond (eu nm) Option.none (match gu fr nm with
  |some v=>ownOf v
  |Option.none=>Option.none)=some y:=q
 refine bT (eu nm) (fun od=>?_) fun od=>?_
 ·rw[od]at q;exact aq q
 ·rw[od]at q
  refine nE (gu fr nm) (fun z=>?_) fun v z=>?_
  ·rw[z]at q;exact aq q
  ·rw[z]at q
   have q:ownOf v=some y:=q
   induction v using MV.casesOn<;>first|exact aq q|skip
   exact⟨nm,pp,rfl,od,by rw[z,show _=y from dm q],trivial⟩
variable{ah:α}
set_option tactic.hygienic true in
theorem Lc(hs:bU d n tb pm self)(R:bz A d n tb){pos:Pos}:∀{ms:List Bool} {es:List Expr} {k:List MV->St->Option α} {st:St} {al:Al} {s:Shared},bC es=false->az F (env::envs) aa al st s.heap->oF self ms es st k=some ah->
  aE (model g.prog g.w) A (spliced (backTo pos (starEach es env))) (UJ F (env::envs) aa al s ms k ah) aF s:=by
 intro x1
 induction x1 with
 |nil=>
  intro x2
  induction x2 using List.casesOn with
  |nil=>
   intro k st al s _ X e;exact fZ ⟨_,st,al,e,X,.nil,.refl,.refl⟩
  |cons c3 c4=>
   intro _ _ _ _ _ _ e;exact aq e
 |cons c5 ms dR=>
  intro x6
  induction x6 using List.casesOn with
  |nil=>
   intro _ _ _ _ _ _ e;exact aq e
  |cons x r=>
   induction c5 using Bool.casesOn with
   |true=>
    intro k st al s q X e;have e1:(match Cn st.fr x with
     |some y=>oF self ms r st fun q aA=>k (.own y::q) aA
     |Option.none=>Option.none)=some ah:=e
    clear e;refine nE (Cn st.fr x) (fun q0=>?_) fun y q0=>?_
    ·rw[q0]at e1;exact aq e1
    ·rw[q0]at e1
     refine mJ (MM q0) fun nm pp o1 od hy _=>?_;clear q0;subst o1;refine aH (lJ (M:=model g.prog g.w) (A:=A) (E:=aF) X hy od) fun v hv go=>?_;refine eS (aT (wpAny_Name (go _ ?_) (jI od).1)) (fz q).1;refine aN (dR (fz (env:=env) q).2 X e1) ?_;rintro vs s2 ⟨as,bX,qE,e,X3,ts,gr,jm⟩;exact⟨_,bX,qE,e,X3,.own (hv.aU (Sp.aU (F:=F) gr) gr.heads) ts,gr,jm⟩
   |false=>
    intro k st al s q X e;have e1:(self.ex x st fun v _ aA=>bW v aA fun t au=>oF self ms r au fun ts bX=>k (t::ts) bX)=some ah:=e;refine eS (aN (hs.ex e1 R X) ?_) (fz q).1;rintro v s1 ⟨m,fr,aA,bY,e,X1,ra,bu,bA⟩;refine gX (gq X1 ra.jE e) fun t au aV e9 X2 tt bS=>?_;try clear e;revert e9;intro e;refine aN (dR (fz (env:=env) q).2 X2 e) ?_;rintro vs s2 ⟨as,bX,qE,e,X3,ts,gr,jm⟩;exact⟨_,bX,qE,e,X3,.tree ((gr.sq (pm:=[])).tree tt) ts,(bu.trans bS).trans gr,bA.trans jm⟩
theorem bz.call{e:Bool}(R:bz A (d+1) n tb)(q:e=true->tb=true):bz A d 0 e:=⟨by have:=R.depth;lia,by have:=R.units;lia,R.handled,fun z=>R.AH (q z)⟩
set_option tactic.hygienic true in
theorem Ld{en:Entry}{f:Value}{ba:Bool}{as:List MV}{vs:List Value}{k:MV->Bool->St->Option α}(C:kW d en f)(R:bz A (d+1) n ba)(X:az F envs aa al st s.heap)(p:Bf s.heap (Ob F aa al) al en.uu as vs)
  (e:Cm ba en as st k=some ah):aE (model g.prog g.w) A (call f vs) (d9 F envs aa al s k ah) aF s:=by
 unfold Cm at e;refine bT (en.ba&& !ba) (fun q=>?_) fun q=>?_
 ·rw[q]at e;exact aq e
 ·
  rw[q,bN]at e;refine aH (mOptL e) fun cs hc e9=>?_;clear e;revert e9;intro e
  ·
   refine oA (aG e) fun z2 e9=>?_;try clear e;revert e9;intro e;refine oE (p.args X.ow hc) fun bZ a=>?_;refine wD (iR (C (R.call fun hb=>by rw[hb]at q;induction ba using Bool.casesOn<;>first|rfl|exact aP q.symm) X a (vK z2) e) ?_);rintro r s' ⟨sp,e,w⟩
   rcases r with e'|(v|_|_|_)<;>first|exact w.elim|skip
   refine jS (w) fun al' X' r' CD CE=>?_;try clear w;exact⟨_,_,_,_,e,X',r',CD,CE⟩
end
variable{bM:Al}{h0:Heap}{o:Obj}
section
theorem CU:typeLookup (.type "dict") "__getattribute__"=pure (some (.builtin "dict.__getattribute__")):=by rw[jo,jq];kernel_rfl
theorem R8:(Manifest.canonical "dict.__getattribute__" != "object.__getattribute__")=false:=by decide +kernel
theorem MN:typeLookup (.type "dict") "__getattr__"=pure none:=by rw[jo,jq];kernel_rfl
theorem IC{M:Model}{E:Value→Shared→Prop}{l:Addr}{pl:Sem Bool}{Q:Value×List Value→Shared→Prop}(ho:s.heap.get? l=some o)(hc:o.cls= .type "dict")(hd:o.dict=none)
  (h:Q (.builtin "dict.update",[.ref l]) s):wpAny M A (getMethod (.ref l) "update" pl) Q E s:=by
 have hT:s.TypeIs (.ref l) "dict":=⟨o,ho,hc⟩;unfold getMethod;refine aD (fu hT CU ?_);show wpAny M A (if(Manifest.canonical "dict.__getattribute__" != "object.__getattribute__")=true then _ else _) Q E s;rw[R8,bG rX];refine aD (fu hT MN ?_);refine aD (fu hT F.slot_dict_update.lookup ?_);refine aD (cD F.type_dict_update ?_);refine aD (wpAny_load ho ?_);rw[hd];exact aD (wpAny_rule (aR h))
variable{ps:List (MV×MV)}
theorem ID{m:MV}{r:List MV}(e:pairsOf (m::r)=some ps):∃a b t,m= .tup [a,b]/\pairsOf r=some t/\ps=(a,b)::t:=by
 induction m using MV.casesOn with
 |tup l=>
  rcases l with _|⟨a,_|⟨b,_|⟨c,l⟩⟩⟩
  ·exact nomatch e
  ·exact nomatch e
  ·have e:(match pairsOf r with|some t=>some ((a,b)::t)|none=>none)=some ps:=e
   cases h:pairsOf r with
   |none=>rw[h]at e;exact nomatch e
   |some t=>rw[h]at e;exact⟨a,b,t,rfl,rfl,(dm e).symm⟩
  ·exact nomatch e
 |_=>exact nomatch e
variable{p:MV×MV}{t:List (MV×MV)}
theorem IE(q:l8 (p::t)=true):(∃i,p.1= .int i)/\rW p.2=true/\l8 t=true:=by
 obtain⟨a,b⟩:=p
 induction a using MV.casesOn<;>first|exact aP q|exact⟨⟨_,rfl⟩,bk.mp q⟩
theorem IF(q:fy (p::t)=true):(∃i,p.1= .str i)/\rW p.2=true/\fy t=true:=by
 obtain⟨a,b⟩:=p
 induction a using MV.casesOn<;>first|exact aP q|exact⟨⟨_,rfl⟩,bk.mp q⟩
theorem MO{b:MV}{v:Value}(t:Tree h O b v)(q:rW b=true):kG b v:=by
 induction b using MV.casesOn with
 |int i=>obtain⟨k,rfl⟩:=t.int_inv;exact .int _ _
 |str i=>obtain⟨k,rfl⟩:=t.str_inv;exact .str _ _
 |_=>exact aP q
variable{K:Type}{l:List MV}
theorem Fy[DecidableEq K]{knd:KeyKind g.prog g.w K}{iM:K->MV}{Le:List (MV×MV)->Bool}(hc:∀p t,Le (p::t)=true->(∃i,p.1=iM i)/\rW p.2=true/\Le t=true)(hk:∀i v,Tree h O (iM i) v->knd.is i v=true)
  :∀{vs:List Value} {ps:List (MV×MV)},pairsOf l=some ps->Le ps=true->aQ h O l vs->∃more,gv knd h vs more/\oh iM ps more:=by
 induction l with
 |nil=>intro vs ps e q t;cases e;obtain rfl:=t.iT;exact⟨[],.nil,.nil⟩
 |cons m r ih=>
  intro vs ps e q t;refine yT (ID e) fun a b c o3 hr o5=>?_;obtain rfl:=o3;obtain rfl:=o5;refine cy (t.eT) fun w vs o2 t9 tr=>?_;try clear t;obtain rfl:=o2;revert t9;intro t;refine jX (t.D0) fun p o pvs n o4 ho ZP hd na tt=>?_;obtain rfl:=o4;obtain⟨pl⟩:=pvs;obtain⟨key,pl,rfl,ta,tt⟩:=(show aQ h O [a,b] pl from tt).eT;obtain⟨val,pl,rfl,tb,tt⟩:=tt.eT;obtain rfl:=tt.iT;obtain⟨⟨i,rfl⟩,qf,qr⟩:=hc _ _ q;obtain⟨more,h1,h2⟩:=ih hr qr tr;exact⟨(i,val)::more,.cons ho ZP hd (hk i key ta) h1,.cons (MO tb qf) h2⟩
theorem Pk{vs:List Value}(e:pairsOf l=some ps)(q:l8 ps=true)(t:aQ h O l vs):∃more,gv (intKind g.prog g.w) h vs more/\oh MV.int ps more:=
 Fy (fun _ _=>IE) (fun i v t=>by obtain⟨k,rfl⟩:=t.int_inv;show Value.isInt i (.int i k)=true;unfold Value.isInt;simp) e q t
theorem Fz{vs:List Value}(e:pairsOf l=some ps)(q:fy ps=true)(t:aQ h O l vs):∃more,gv (strKind g.prog g.w) h vs more/\oh MV.str ps more:=
 Fy (fun _ _=>IF) (fun i v t=>by obtain⟨k,rfl⟩:=t.str_inv;show Value.isStrOf i (.str i k)=true;unfold Value.isStrOf;simp) e q t
theorem gv.ext[DecidableEq K]{knd:KeyKind g.prog g.w K}{vs:List Value}{ps:List (K×Value)}(x:gv knd h vs ps)(k:∀b o,h.get? b=some o->h'.get? b=some o):gv knd h' vs ps:=by
 induction x with
 |nil=>exact .nil
 |cons a b c d _ ih=>exact .cons (k _ _ a) b c d ih
theorem IG{E:Value->Shared->Prop}[DecidableEq K]{knd:KeyKind g.prog g.w K}{id:String}{A2 A1:Around}{D a:Addr}{vs:List Value}{m:Nat}{kvs more:List (K×Value)}{res:Value}{R:Result->Shared->Prop}(h1:A1.handled=none)(h2:A2.handled=none)
  (ho:s.heap.get? a=some o) (hc:o.cls= .type "list") (gT:o.dict=none) (hd:o.data= .seq vs.toArray m) (P:gv knd s.heap vs more) (hD:s.heap.DictOf knd D kvs) (hz:kvs.length+vs.length≤sizeLine)
  (hR:∀h' t',h'.DictOf knd D (merged kvs more)->(∀b o,b≠D->s.heap.get? b=some o->h'.get? b=some o)->R (.ok (.ret res)) {s with heap:=h',toks:=t'}):
  wpAny (model g.prog g.w) A2 (Builtin.Dict.updateFrom id D (.ref a) [] res) (fun gm s'=>match gm with| .done f=>R (.ok f) s'| .again c'=>c'.quiet=true/\codeAny (model g.prog g.w) A1 c' R s') E s:=by
 unfold Builtin.Dict.updateFrom;refine aD (wpAny_typeOf (T:= "list") ⟨o,ho,hc⟩ ?_);refine bm_if_true (by decide) ?_;refine aD (Wl ho hc hd gT h2 fun h' tk hk=>?_);refine bm_if_true rfl ?_;refine aD (wpAny_rule ?_);have hl:h'.IsList a vs.toArray:=⟨o,hk a o ho,hc,m,hd⟩;refine aD (wpAny_pyIter_list (s:= {s with heap:=h',toks:=tk}) hl ?_);have kp:∀b o,h'.get? b=some o→(h'.push {cls:= .type "list_iterator",data:= .fields #[.ref a,.int 0 0]}).get? b=some o:=fun b o e=>Heap.get?_push_of_some _ e;have ka:∀b o,s.heap.get? b=some o→(h'.push {cls:= .type "list_iterator",data:= .fields #[.ref a,.int 0 0]}).get? b=some o:=fun b o e=>kp b o (hk b o e);have CR:(h'.push {cls:= .type "list_iterator",data:= .fields #[.ref a,.int 0 0]}).DictOf knd D kvs:=by
  refine fq (hD) fun od es ep kB r=>?_;try clear hD;exact⟨od,es,ep,ka D od kB,r⟩
 have Ux:D<h'.objs.size:=by
  refine fq (hD) fun od es ep kB r=>?_;try clear hD;exact gD (hk D od kB)
 have has:a<h'.objs.size:=gD (hk a o ho);have hDa:D≠a:=fun e=>by
  refine yT (hD) fun od es ep kB r _=>?_;try clear hD;rw[e,ho]at kB;cases kB;have:=r.1;rw[hc]at this;exact absurd (Value.type.inj this) (by decide)
 refine aR ⟨plainId_quiet xH _,?_⟩;refine Wm (knd:=knd) (l:=a) (vs:=vs) (ps:=more) h1 (Nat.ne_of_gt has) (Nat.ne_of_gt Ux) hDa vs.length 0 _ kvs (by simp) (iS _) hz ⟨o,ka a o ho,hc,m,hd⟩ (P.ext ka) ⟨_,Heap.get?_push_size _ rfl,rfl,rfl⟩ CR fun h3 t3 hm ZI=>?_;refine hR h3 t3 hm fun b ob hb e=>ZI b ob (fun z=>?_) hb (ka b ob e);rw[z]at e;have:=gD (hk _ _ e);exact kH _ this
end
variable{x:Str}{as as':List Addr}{c':MV}
theorem az.Pn(X:az (N++F) envs aa al st h)(e:look al x=some as)(hk:∀b o,h.get? b=some o->b∉as->h'.get? b=some o)
  (hn:∀b,b∈as'->b∈as∨b∈N) (Pf:as'.Nodup) (hl:∀b,b∈as'->∃o,h'.get? b=some o) (hh:as.head?=as'.head?)
  (ho:cM h (Ob (N++F) aa al) h' (Ob F aa ((x,as')::del al x)) as->c9 h' (Ob F aa ((x,as')::del al x)) c' as'):
  az F envs aa ((x,as')::del al x) {st with ow:=dJ st.ow x c'} h'/\(∀b o,h.get? b=some o->b∉flat al->h'.get? b=some o)/\(∀b,b∈flat ((x,as')::del al x)->b∈flat al∨b∈N)/\
  (∀k jF,look ((x,as')::del al x) k=some jF->∃qF,look al k=some qF/\qF.head?=jF.head?):=by
 refine dh (cg.mp X.nd) fun n1 n2 n3=>?_;refine dh (cg.mp n2) fun n4 n5 n6=>?_;refine dh (cg.mp n1) fun m1 m2 m3=>?_;have hf:=fun b hb=>cZ e b hb;have sJ:∀b,b∈Ob F aa ((x,as')::del al x)->b∈Ob (N++F) aa al:=fun b q=>by
  rw[aO]at q ⊢
  rcases q with q|q|q
  ·exact .inl (cO _ q)
  ·exact .inr (.inl q)
  ·rcases bR.mp q with q|q
   ·rcases hn b q with q|q
    ·exact .inr (.inr (hf b q))
    ·exact .inl (cP _ q)
   ·exact .inr (.inr (eY x q))
 have S:cM h (Ob (N++F) aa al) h' (Ob F aa ((x,as')::del al x)) as:=⟨hk,fun b o _ q z=>q (sJ b z),fun b q=>aO.mpr (.inr (.inr (hf b q)))⟩;have hd:∀k jF,look ((x,as')::del al x) k=some jF->∃qF,look al k=some qF/\qF.head?=jF.head?:=fun k jF q=>by
  rw[bg]at q;refine bT (x==k) (fun z=>?_) fun z=>?_
  ·rw[z]at q;cases q;rw[←eq_of_beq z];exact⟨as,e,hh⟩
  ·
   rw[z,bN]at q;have q:=(j4 q).2
   ·exact⟨jF,q,rfl⟩
 refine⟨⟨X.fr.aU S hd fun b o q z=>hk b o z fun w=>n6 b q b (hf b w) rfl,⟨fun k m q=>?_⟩,?_,fun b q=>?_,fun b q=>X.hi b (sJ b q),fun b o q=>?_,X.top⟩,fun b o q z=>hk b o q fun w=>z (hf b w),fun b q=>?_,hd⟩
 ·have q':look (dJ st.ow x c') k=some m:=q
  rw[jO]at q'
  by_cases hx:x=k
  ·rw[if_pos hx]at q'
   cases q'
   exact⟨as',by rw[bg,hx,j0];rfl,ho S⟩
  ·rw[bG hx]at q'
   refine aH (X.ow.own k m q') fun jF h1 h2=>?_;have hD:look (del al x) k=some jF:=by rw[iG,bG hx];exact h1
   refine⟨jF,by rw[bg,jY.mpr hx];exact hD,h2.aU S fun b o hb hz=>hk b o hz fun w=>?_⟩;exact jg n5 e b w (cZ hD b hb)
 ·show(F++(aa.flatten++(as'++flat (del al x)))).Nodup
  have dA:∀b,b∈as'->b∉F/\b∉aa.flatten/\b∉flat (del al x):=fun b q=>by
   rcases hn b q with q|q
   ·exact⟨fun z=>n3 b (cO _ z) b (cO _ (hf b q)) rfl,fun z=>n6 b z b (hf b q) rfl,jg n5 e b q⟩
   ·exact⟨fun z=>m3 b q b z rfl,fun z=>n3 b (cP _ q) b (cP _ z) rfl,fun z=>n3 b (cP _ q) b (cO _ (eY x z)) rfl⟩
  refine cg.mpr ⟨m2,cg.mpr ⟨n4,cg.mpr ⟨Pf,n5.sublist (je x al),fun a qa b qb ee=>?_⟩,fun a qa b qb ee=>?_⟩,fun a qa b qb ee=>?_⟩
  ·subst ee;exact(dA a qa).2.2 qb
  ·subst ee
   rcases bR.mp qb with qb|qb
   ·exact(dA a qb).2.1 qa
   ·exact n6 a qa a (eY x qb) rfl
  ·subst ee
   rcases bR.mp qb with qb|qb
   ·exact n3 a (cO _ qa) a (cP _ qb) rfl
   ·rcases bR.mp qb with qb|qb
    ·exact(dA a qb).1 qa
    ·exact n3 a (cO _ qa) a (cO _ (eY x qb)) rfl
 ·have q0:=q
  rw[aO]at q
  by_cases w:b∈as'
  ·exact hl b w
  ·refine oE (X.live b (sJ b q0)) fun o z=>?_
   refine⟨o,hk b o z fun wa=>?_⟩
   rcases q with q|q|q
   ·exact n3 b (cO _ q) b (cO _ (hf b wa)) rfl
   ·exact n6 b q b (hf b wa) rfl
   ·rcases bR.mp q with q|q
    ·exact w q
    ·exact jg n5 e b wa q
 ·refine hk b o (X.jN b o q) fun w=>?_
  exact kH _ (nu (gD q) (X.hi b (aO.mpr (.inr (.inr (hf b w))))))
 ·rcases bR.mp q with q|q
  ·rcases hn b q with q|q
   ·exact .inl (hf b q)
   ·exact .inr q
  ·exact .inl (eY x q)
theorem az.wK (X : az F envs aa al st h) (e : look al x = some as) (hk : ∀ b o, h.get? b = some o → b ∉ as → h'.get? b = some o)
    (hn : ∀ b, b ∈ as' → b ∈ as) (Pf : as'.Nodup) (hl : ∀ b, b ∈ as' → ∃ o, h'.get? b = some o) (hh : as.head? = as'.head?)
    (ho : cM h (Ob F aa al) h' (Ob F aa ((x, as') :: del al x)) as → c9 h' (Ob F aa ((x, as') :: del al x)) c' as') :
    az F envs aa ((x, as') :: del al x) { st with ow := dJ st.ow x c' } h' ∧ Sp aa al h ((x, as') :: del al x) h' := by
  refine uq (az.Pn (N := []) X e hk (fun b q => .inl (hn b q)) Pf hl hh ho) fun a b9 c dd => ?_
  try clear b
  revert b9; intro b
  refine ⟨a, ⟨fun q o z _ w => b q o z w, fun q z => ?_, dd⟩⟩
  rcases c q z with z | z
  · exact .inl z
  · cases z
theorem GZ{m:MV}{v:Value}{k:MV->Bool->St->Option α}{ah:α}{fr:Bool}(X:az F envs aa al' aY s'.heap)(e:k m fr aY=some ah)(t:Tree s'.heap (Ob F aa al') m v)(q:fr=true->ji m=false)(sp:Sp aa al s.heap al' s'.heap)(sm:dQ s s'):
  d9 F envs aa al s k ah v s':=⟨m,fr,aY,al',e,X,.tree t q,sp,sm⟩
variable{k:MV->Option α}
section
theorem zw{t:Nat}(X:az F envs aa al st s.heap)(hk:∀b o,s.heap.get? b=some o->h'.get? b=some o)(e:k m=some ah)(lv:∃o,h'.get? s.heap.objs.size=some o)
  (oo:∀O,c9 h' O m [s.heap.objs.size]):j6 F envs aa al st s true k ah (.ref s.heap.objs.size) {s with heap:=h',toks:=t}:=by
 have nF:az ([s.heap.objs.size]++F) envs aa al st h':=X.BF hk [s.heap.objs.size] (fun a q=>by
  rcases bQ.mp q with rfl
  exact⟨eW,lv,X.big⟩) (by simp)
 exact⟨_,e,X.ext hk,⟨[s.heap.objs.size],.fresh (as:=[]) nF (oo _),fun b q=>by rcases bQ.mp q with rfl;exact .inr (.inr eW)⟩,Sp.ext hk,⟨rfl,rfl,rfl⟩⟩
variable{a:Addr}
theorem II{K:Type}[DecidableEq K]{knd:KeyKind g.prog g.w K}{o:Obj}{vs:List Value}{m:Nat}{more:List (K×Value)}{Q:Value->Shared->Prop}(hh:A.handled=none)
  (ho:s.heap.get? a=some o) (hc:o.cls= .type "list") (gT:o.dict=none) (hd:o.data= .seq vs.toArray m) (P:gv knd s.heap vs more) (hz:vs.length≤sizeLine)
  (hQ:∀h' t',h'.DictOf knd s.heap.objs.size (merged [] more)->(∀b o,s.heap.get? b=some o->h'.get? b=some o)->Q (.ref s.heap.objs.size) {s with heap:=h',toks:=t'}):
  wpAny (model g.prog g.w) A (call (.type "dict") [.ref a]) Q aF s:=by
 refine callType_codes (Q₁:=fun obj s₁=>obj= .ref s.heap.objs.size∧s₁= {s with heap:=s.heap.push {cls:= .type "dict",data:= .dict #[]}}) F.kt_called_dict (F.kt_typeCall_dict_1 _) F.entry_dict_init (kt_code_dict_new _ ⟨rfl,rfl⟩) ?_;rintro obj s₁ ⟨rfl,rfl⟩;have Ei:(s.heap.push {cls:= .type "dict",data:= .dict #[]}).DictOf knd s.heap.objs.size []:=Heap.DictOf.new s.heap;have kp:∀b o,s.heap.get? b=some o→(s.heap.push {cls:= .type "dict",data:= .dict #[]}).get? b=some o:=fun b o e=>Heap.get?_push_of_some _ e;refine⟨Ei.typeIs,F.args_dict_init_2 _ _,?_⟩;unfold Builtin.«dict.__init__»;refine aD ?_;unfold Builtin.Dict.selfAndRest;refine aD (wpAny_notOrdered_dict Ei.typeIs ?_);show wpAny _ _ (pure (s.heap.objs.size,[Value.ref a])) _ _ _;refine aR ?_;show wpAny _ _ (Builtin.Dict.updateFrom "dict.__init__" s.heap.objs.size (.ref a) [] .none) _ _ _;refine IG (kvs:=[]) hh hh (kp a o ho) hc gT hd (P.ext kp) Ei (by simpa using hz) fun h' t' h1 h2=>?_;exact⟨rfl,hQ h' t' h1 fun b o e=>h2 b o (Nat.ne_of_lt (gD e)) (kp b o e)⟩
variable{v:Value}
set_option tactic.hygienic true in
theorem Wo(low:8<g.H0.objs.size){fr:Bool}(R:bz A d n tb)(X:az F envs aa al st s.heap)(r:gf F envs aa bM h0 al st s.heap m fr v)(e:GP fr m k=some ah):
  wpAny (model g.prog g.w) A (call (.type "dict") [v]) (j6 F envs aa al st s true k ah) aF s:=by
 unfold GP at e;refine aH (Rm e) fun l o1 e9=>?_;clear e;obtain rfl:=o1;revert e9;intro e
 ·
  refine nE (pairsOf l) (fun sI=>?_) fun ps sI=>?_
  ·rw[sI]at e;exact aq e
  ·rw[sI]at e
   refine oA (aG e) fun q e2=>?_;refine oA (bk.mp q) fun q1 q9=>?_;try clear q;revert q9;intro q;refine oA (bk.mp q) fun q2 q3=>?_;have q3:=bx q3;refine aH (r) fun N ri hN=>?_;try clear r
   cases ri with
   |tree t qq=>rw[q1]at qq;exact Bool.noConfusion (qq rfl)
   | @fresh _ as a Xf oo=>
    cases oo with
    | @lst _ _ o vs mm ho hc gT hd tr=>
     obtain⟨vl⟩:=vs;have l1:=tr.length;have hz:vl.length<=sizeLine:=by rw[sizeLine_eq];simp only at l1;lia
     have MQ:(s.heap.objs.size==sysModules)=false:=by
      have:=X.big;rw[jY];unfold sysModules
      lia
     rcases Bool.or_eq_true_iff.mp q2 with q2|q2
     ·refine aH (Pk sI q2 tr) fun more h1 h2=>?_
      refine II R.handled ho hc gT hd h1 hz fun h' t' hm hk=>?_;have zx:=hm;refine fq (zx) fun od es ep kB rr=>?_;try clear zx;exact zw X hk e2 ⟨od,kB⟩ fun O=> .dX hm MQ (K9 (AM La h2 .nil List.nodup_nil))
     ·refine aH (Fz sI q2 tr) fun more h1 h2=>?_
      refine II R.handled ho hc gT hd h1 hz fun h' t' hm hk=>?_;have zx:=hm;refine fq (zx) fun od es ep kB rr=>?_;try clear zx;exact zw X hk e2 ⟨od,kB⟩ fun O=> .jd hm MQ (Ef (AM Eg h2 .nil List.nodup_nil))
theorem MR{d:List (MV×MV)}{kvs:List (Int×Value)}(x:uD d kvs)(q:fy d=true):d= []:=by
 induction x using uD.casesOn with
 |nil=>rfl
 |cons f r=>exact aP q
set_option backward.match.sparseCases true in
theorem ZQ{x:Str}{l:List MV}{dd ps:List (MV×MV)}{fr:Bool}{as:List Addr}{k:MV->Bool->St->Option α}{ah:α}(R:bz A d n tb)(X:az F envs aa al st s.heap)(r:gf F envs aa bM h0 al st s.heap (.lst l) fr v)
  (hx:look st.ow x=some (.gk dd)) (ha:look al x=some (a::as)) (sI:pairsOf l=some ps) (Yt:fr=true) (q1:fy ps=true) (q2:fy dd=true) (q3:dW dd=false) (z1:l.length<=1000) (z2:dd.length<=1000)
  (e:k .none false {st with ow:=dJ st.ow x (.gk (putAll dd ps))}=some ah):
  wpAny (model g.prog g.w) A (call (.builtin "dict.update") [.ref a,v]) (d9 F envs aa al s k ah) aF s:=by
 subst Yt;refine aH (r) fun N ri hN=>?_;try clear r
 cases ri with
 |tree t qq=>exact Bool.noConfusion (qq rfl)
 | @fresh _ bs b Xf oo=>
  cases oo with
  | @lst _ _ o vs mm ho hc gT hd tr=>
   obtain⟨vl⟩:=vs;have l1:=tr.length;simp only at l1;refine aH (Fz sI q1 tr) fun more h1 h2=>?_;refine aH (X.ow.own x _ hx) fun as' Bg od=>?_;rw[ha]at Bg
   (first|exact aq Bg|exact aP Bg|cases Bg)
   cases od with
   | @dX _ _ kvs hD hm hr=>
    have:=MR hr q2;clear hr e z2 q2 hx;subst this;exact aP q3.symm
   | @jd _ _ kvs hD hm hr=>
    have lk:kvs.length=dd.length:=by
     clear q2 q3 hx hD z2 e
     induction hr with
     |nil=>rfl
     |cons _ _ ih=>exact bq (· +1) ih
    have nd:(kvs.map (·.1)).Nodup:=let ⟨_,_,_,_,_,_,_,_,hn⟩:=hD;hn
    refine wpAny_call (codeAny_call_builtin PySem.F.slot_dict_update.plain PySem.F.entry_dict_update (PySem.F.slot_dict_update.check _ _ _ _ _ _ _ _ hD.typeIs (PySem.F.args_dict_update_2 _ _) ?_));unfold Builtin.«dict.update»;refine aD ?_;unfold Builtin.Dict.selfAndRest;refine aD (wpAny_notOrdered_dict hD.typeIs ?_);show wpAny _ _ (pure (a,[Value.ref b])) _ _ s;refine aR ?_;show wpAny _ _ (Builtin.Dict.updateFrom "dict.update" a (.ref b) [] .none) _ _ s;refine IG (R:=fun r s'=>match r with| .ok (.ret v)=>d9 F envs aa al s k ah v s'| .ok _=>False| .error e=>aF e s') R.handled R.handled ho hc gT hd h1 hD (by rw[sizeLine_eq];lia) fun h' t' UK hk=>?_;have zx:=UK;refine fq (zx) fun odd es ep kB rr=>?_;try clear zx
    refine oA (az.wK (x:=x) (as:=[a]) (as':=[a]) (c':= .gk (putAll dd ps)) (h':=h') X ha (fun b o e q=>hk b o (fun z=>q (z▸ .head _)) e) (fun b q=>q) (by simp) (fun b q=>by rcases bQ.mp q with rfl;exact⟨odd,kB⟩) rfl
     (fun S=> .jd UK hm (Ef (AM Eg h2 (Wj hr) nd)))) fun X' sp=>?_
    exact GZ X' e .none (fun q=>nomatch q) sp ⟨rfl,rfl,rfl⟩
end
variable{b:List Nat}{va:Value}
section
theorem Ej(R:bz A d n tb)(X:az F envs aa al st s.heap)(e:cond (decide (b.length<=ak)) (k (.bytes b)) Option.none=some ah)
  (ca:cN s.heap (Ob F aa al) (.bytes b) va):Bi F envs aa al st A s k ah (.type "bytes") va:=by
 refine cF (ca.bytes) fun bb t o2 o3=>?_;obtain rfl:=o2;clear ca;obtain rfl:=o3;refine oA (aG e) fun _ e9=>?_;try clear e;revert e9;intro e;exact vX (Ic ⟨PySem.W.typeIs_bytes _ _ _,cK (t:=s.toks) X e (.bytes _ _) (fun _=>rfl)⟩)
theorem Ge(R:bz A d n tb)(X:az F envs aa al st s.heap)(e:cond (decide (b.length<=ak)) (k (.bytes b)) Option.none=some ah)
  (ca:cN s.heap (Ob F aa al) (.fV b) va):Bi F envs aa al st A s k ah (.type "bytes") va:=by
 refine oA (aG e) fun q e9=>?_;try clear e;revert e9;intro e;have hz:=bx q
 induction ca using cN.casesOn with
 |tree t=>exact t.no rfl
 |pZ q=>exact aP q
 |own o=>
  cases o with
  | @fV bb a o ho hc gT hd=>
   have:bb.size<=sizeLine:=by
    have:=iH;simp at hz;exact aI hz this
   exact vX (J8 ho hc hd this fun t k=>⟨PySem.W.typeIs_bytes _ _ _,cK X e (.bytes _ _) (fun _=>rfl)⟩)
theorem IJ{i:Int}(R:bz A d n tb)(X:az F envs aa al st s.heap)(e:cond (decide (0<=i)&&decide (i<1000)) (k (.bytes (List.replicate i.toNat 0))) Option.none=some ah)
  (ca:cN s.heap (Ob F aa al) (.int i) va):Bi F envs aa al st A s k ah (.type "bytes") va:=by
 refine oE (ca.int) fun t o1=>?_;clear ca;obtain rfl:=o1;refine oA (aG e) fun q e9=>?_;try clear e;revert e9;intro e;refine oA (bk.mp q) fun q1 q2=>?_
 have tr:∀t',Tree s.heap (Ob F aa al) (.bytes (List.replicate i.toNat 0)) (.bytes (Array.replicate i.toNat 0) t'):=fun t'=>by
  have:List.replicate i.toNat 0=(Array.replicate i.toNat (0:UInt8)).toList.map UInt8.toNat:=by simp
  rw[this];exact .bytes _ _
 exact vX (Mt (bx q1) (bx q2) fun t' k=>⟨PySem.W.typeIs_bytes _ _ _,cK X e (tr t') (fun _=>rfl)⟩)
variable{a:MV}
set_option tactic.hygienic true in
theorem R9(R:bz A d n tb)(X:az F envs aa al st s.heap)(e:(match a with
  | .bytes b=>cond (decide (b.length<=ak)) (k (.tup (b.map fun(x:Nat)=>MV.int (x:Int)))) Option.none
  | .lst l=>cond (decide (l.length<=ak)) (k (.tup l)) Option.none
  |_=>Option.none)=some ah) (ca:cN s.heap (Ob F aa al) a va):Bi F envs aa al st A s k ah (.type "tuple") va:=by
 have gm:∀{l:List MV} {s':Shared} {acc:Array Value} {tk:Nat},k (.tup l)=some ah->(∀b o,s.heap.get? b=some o->s'.heap.get? b=some o)->s'.gens=s.gens->s'.drawn=s.drawn->s'.os=s.os->aQ s'.heap (Ob F aa al) l acc.toList->
   j6 F envs aa al st s true k ah (.ref s'.heap.objs.size) {s' with heap:=s'.heap.push {cls:= .type "tuple",data:= .seq acc}}:=fun{l s' acc tk} e hk h1 h2 h3 tr=>by
  have X':az F envs aa al st s'.heap:=X.ext hk;have kk:∀b o,s'.heap.get? b=some o→(s'.heap.push {cls:= .type "tuple",data:= .seq acc}).get? b=some o:=fun b o e=>Heap.get?_push_of_some _ e;refine⟨_,e,X'.push _,.tree (.tup (Heap.get?_push_size _ rfl) rfl rfl X'.AG (tr.ext kk)) (fun _=>rfl),Sp.ext fun b o e=>kk b o (hk b o e),⟨h1,h2,h3⟩⟩
 induction a using MV.casesOn<;>first|exact aq e|skip
 ·rename_i b
  refine oA (aG e) fun q e9=>?_;try clear e;revert e9;intro e;have hz:=bx q;refine cF (ca.bytes) fun bb t o2 o3=>?_;obtain rfl:=o2;clear ca q;obtain rfl:=o3
  have Zz:bb.size<=sizeLine:=by
   have:=iH;simp at hz;exact aI hz this
  refine callType_codes (Q₁:=fun obj s₁=>s₁.TypeIs obj "tuple" ∧j6 F envs aa al st s true k ah obj s₁) PySem.F.called_tuple (PySem.F.typeCall_tuple_1 _) PySem.F.entry_object_init (Ig (A:=A.in1) R.handled bb t (fun s' acc hk h1 h2 h3 hi=>?_) Zz) fun obj s₁ h₁=>?_
  ·refine⟨⟨_,Heap.get?_push_size _ rfl,rfl⟩,gm (tk:=0) e hk h1 h2 h3 (BI (by simp[hi.1]) fun j v hv=>?_)⟩
   refine cF (hi.2 j v (by rw[←Array.getElem?_toList];exact hv)) fun c u hc o3=>?_;clear hv;obtain rfl:=o3;have:((bb.toList.map UInt8.toNat).map fun(x:Nat)=>MV.int (x:Int)).getD j .none= .int (c.toNat:Int):=by
    have sL:bb.toList[j]?=some c:=by rw[Array.getElem?_toList];exact hc
    simp[List.getD,sL]
   rw[this];exact .int _ _
  ·exact⟨h₁.1,PySem.F.args_object_init_2 obj _,object_init_meets PySem.F.called_tuple.init.lookup PySem.F.called_tuple.made (by decide) _ _ A.in1 _ s₁ ⟨h₁.1,rfl,h₁.2⟩⟩
 ·rename_i l
  refine oA (aG e) fun q e9=>?_;try clear e;revert e9;intro e;have hz:=bx q;refine cy (iW ca) fun ad vs o2 hl t=>?_;clear ca;obtain rfl:=o2;have l1:=t.length;simp only[jk]at l1;exact call_tuple_list hl (fun h' hk=>gm (s':= {s with heap:=h'}) (tk:=0) e hk rfl rfl rfl (t.ext hk)) (l1▸aI hz iH)
theorem Sa{k:MV->Bool->St->Option α}(T:tU A)(X:az F envs aa al st s.heap)(e:k (.fV []) true st=some ah):
  aE (model g.prog g.w) A (call (.type "bytearray") []) (d9 F envs aa al s k ah) aF s:=by
 refine We T fun h' ho hk=>?_;exact(zw (k:=fun m=>k m true st) (t:=s.toks) X hk e ⟨_,ho⟩ fun O=> .fV (b:= #[]) ho rfl rfl rfl).want
theorem Po{f:Str}{fw:Value}(hf:look HO f=some fw)(R:bz A d n tb)(X:az F envs aa al st s.heap)(e:DR f a k=some ah)(ca:cN s.heap (Ob F aa al) a va):
  Bi F envs aa al st A s k ah fw va:=by
 unfold DR at e;cases z1:f==("len":Str)with
 |true=>rw[z1]at e;have:=eq_of_beq z1;subst this;cases hf;exact Zp X e ca
 |false=>
 rw[z1,bN]at e;cases z2:f==("int":Str)with
 |true=>rw[z2]at e;have:=eq_of_beq z2;subst this;cases hf;exact Zq X e ca
 |false=>
 rw[z2,bN]at e;cases z3:f==("str":Str)with
 |true=>rw[z3]at e;have:=eq_of_beq z3;subst this;cases hf;exact Zr X e ca
 |false=>
 rw[z3,bN]at e;cases z4:f==("bytes":Str)with
 |true=>
  rw[z4,ir]at e;have:=eq_of_beq z4;subst this;cases hf
  induction a using MV.casesOn<;>first|exact aq e|exact F5 R X e ca|exact Ej R X e ca|exact Ge R X e ca|exact IJ R X e ca
 |false=>
 rw[z4,bN]at e;cases z5:f==("list":Str)with
 |true=>rw[z5]at e;have:=eq_of_beq z5;subst this;cases hf;exact Wb R X e ca
 |false=>
 rw[z5,bN]at e;cases z6:f==("tuple":Str)with
 |true=>rw[z6]at e;have:=eq_of_beq z6;subst this;cases hf;exact R9 R X e ca
 |false=>
 rw[z6,bN]at e;refine bT (f==("sum":Str)) (fun z7=>?_) fun z7=>?_
 ·rw[z7]at e;have:=eq_of_beq z7;subst this;cases hf;exact Zt R X e ca
 ·rw[z7,bN]at e;exact aq e
theorem ZR{f:Str}(q:LR f=true):∃fw,look HO f=some fw/\(Keeps fw fun _=>True):=by
 have go:∀{x:Str} {r:List Str},cJ f (x::r)=true->f=x∨cJ f r=true:=fun{x r} q=>by
  rw[tQ]at q;refine bT (x==f) (fun z=>?_) fun z=>?_
  ·exact .inl (eq_of_beq z).symm
  ·rw[z]at q;exact .inr q
 unfold LR at q
 rcases go q with rfl|q
 ·exact⟨_,rfl,oJ⟩
 rcases go q with rfl|q
 ·exact⟨_,rfl,iX⟩
 rcases go q with rfl|q
 ·exact⟨_,rfl,iX⟩
 rcases go q with rfl|q
 ·exact⟨_,rfl,iX⟩
 rcases go q with rfl|q
 ·exact⟨_,rfl,iX⟩
 rcases go q with rfl|q
 ·exact⟨_,rfl,iX⟩
 rcases go q with rfl|q
 ·exact⟨_,rfl,oJ⟩
 exact aP q
theorem IK{f:Value}(hk:keepIn g.K f=true):Keeps f g.K.In:=fun h X=>keeps_K hk h X
variable{pos:Pos}
set_option tactic.hygienic true in
theorem Wq(G:fO g consts){cf:Cf}(T:kK d cf.T cf.M)(hs:bU (d+1) n cf.ba pm self)(R:bz A (d+1) n cf.ba){f:Str}{p:Pos}{args:List Expr}{k:MV->Bool->St->Option α}(X:az F (env::envs) aa al st s.heap)
  (e:(cond (iQ args) Option.none<|LV cf self f args st k)=some ah):aE (model g.prog g.w) A (eval (.Call (.Name f p) args [] pos) env) (d9 F (env::envs) aa al s k ah) aF s:=by
 refine dh (xF e) fun q ln e9=>?_;try clear e;revert e9;intro e;unfold LV at e;refine oA (aG e) fun z e9=>?_;try clear e;revert e9;intro e;refine oA (bk.mp z) fun z1 z2=>?_;have od:eu f=false:=by cases zz:eu f<;>simp[zz]at z2 ⊢
 refine nE (cf.T f) (fun h0=>?_) fun en Lf=>?_
 ·rw[h0]at e
  induction args using List.casesOn with
  |nil=>
   dsimp only at e;refine oA (aG e) fun zb e2=>?_;refine oA (bk.mp zb) fun zb0 zb9=>?_;try clear zb;revert zb9;intro zb;have:=eq_of_beq zb;clear zb e z2 z;subst this;refine oA (G.bi ("bytearray":Str) (.type "bytearray") rfl) fun b1 b2=>?_;refine g8 (jI od).1 iX q ln (fun Q hq=>mT G X z1 b1 b2 hq) (fZ ⟨trivial,?_⟩);exact Sa (R.AH zb0) X e2
  |cons x r1=>
   induction r1 using List.casesOn with
   |nil=>
    dsimp only at e;cases zb:LR f with
    |false=>
     rw[zb,bN]at e;refine oA (aG e) fun zb e9=>?_;try clear e;revert e9;intro e;have:=eq_of_beq zb;subst this;refine oA (G.bi ("dict":Str) (.type "dict") rfl) fun b1 b2=>?_;refine g8 (jI od).1 iX q ln (fun Q hq=>mT G X z1 b1 b2 hq) ?_;refine eS (aN (hs.ex e R X) ?_) (fz q).1;rintro v s1 ⟨m,fr,aA,bY,e,X1,ra,bu,bA⟩;refine fZ ⟨trivial,?_⟩;exact aN (aT (Wo G.low R X1 ra e)) fun r s2 w=>w.want.back bu bA
    |true=>
    rw[zb,ir]at e;refine aH (ZR zb) fun fw hfw hk=>?_;refine oA (G.bi f fw hfw) fun b1 b2=>?_;refine g8 (jI od).1 hk q ln (fun Q hq=>mT G X z1 b1 b2 hq) ?_;refine eS (aN (hs.ex e R X) ?_) (fz q).1;rintro v s1 ⟨m,fr,aA,bY,e,X1,ra,bu,bA⟩;refine aH (gG X1 ra.jE e) fun c e9 ca=>?_;try clear e;revert e9;intro e;refine fZ ⟨trivial,?_⟩;exact aN (aT (Po hfw R X1 e ca)) fun r s2 w=>w.want.back bu bA
   |cons y r2=>
    induction r2 using List.casesOn with
    |nil=>
     dsimp only at e;refine oA (aG e) fun zb e9=>?_;try clear e;revert e9;intro e;have:=eq_of_beq zb;clear zb z2 z;subst this;refine oA (G.bi ("max":Str) (.builtin "max") rfl) fun b1 b2=>?_;refine g8 (jI od).1 oJ q ln (fun Q hq=>mT G X z1 b1 b2 hq) ?_;refine eS (aN (hs.ex e R X) ?_) (fz q).1;rintro v s1 ⟨m,fr,aA,bY,e,X1,ra,bu,bA⟩;refine eS (aN (hs.ex e R X1) ?_) (fz (fz (env:=env) q).2).1;rintro u s2 ⟨m2,pC,au,aV,e,X2,rb,bS,eF⟩
     try dsimp only at e
     induction m using MV.casesOn<;>first|exact aq e|skip
     induction m2 using MV.casesOn<;>first|exact aq e|skip
     ·refine oE (cN.int (cN.tree (ra.AI bS rfl))) fun t o1=>?_
      clear ra;obtain rfl:=o1;refine oE (cN.int (cN.tree (rb.jE rfl))) fun t' o1=>?_;clear rb;obtain rfl:=o1;refine fZ ⟨trivial,?_⟩;exact aN (aT (Zu (k:=fun m=>k m true au) R X2 e)) fun r s3 w=>(w.want.back bS eF).back bu bA
    |cons _ _=>exact aq e
 ·rw[Lf]at e
  dsimp only at e;refine gO (T.fn f en Lf) fun fv hfv hk hC=>?_;refine g8 (jI od).1 (IK hk) q ln (fun Q hq=>Bd G X z1 hfv hq) (aN (Lc hs R q X e) ?_);rintro vs s1 ⟨as,aA,bY,e,X1,pre,bu,bA⟩;exact⟨AJ G X1,aN (Ld hC R X1 pre e) fun v s2 w=>w.back bu bA⟩
theorem IL{o:Expr}{name:Str}{mO:Pos}{es:List Expr}{Q:Value->Shared->Prop}(hb:oU o=false)(q:bC es=false)(ln:es.length<=20)(CV:(mO.endLine==pos.line)=true)
  (h:aE (model g.prog g.w) A (eval o env) (fun ov s1=>∀pl,aE (model g.prog g.w) A (getMethod ov name pl) (fun p s2=>aE (model g.prog g.w) A (callWith pos p.1 p.2 (backTo pos (starEach es env)) []) Q aF s2) aF s1) aF s):
  aE (model g.prog g.w) A (eval (.Call (.Attribute o name mO) es [] pos) env) Q aF s:=by
 rw[arm_eval_Call,D9 hb];refine aj (aN h fun ov s1 h1=>aj (aX ?_));have hall:∀{l:List (Bool×Sem Value)},l.any (·.1)=false->l.all (fun x=> !x.1)=true:=fun{l} z=>by
  rw[List.all_eq_true];intro x hx;rw[List.any_eq_false]at z;have:=z x hx;cases IM:x.1 with
  |true=>exact absurd IM this
  |false=>rfl
 have hform:methodCallForm (es.length+([]:List Keyword).length) (backTo pos (starEach es env)) (backToKw pos (keywordEach [] env))=true:=by
  show((backTo pos (starEach es env)).all (fun x=> !x.1)&&true&&decide (es.length+0+0<30))=true;rw[hall (K8 q)];simp
  lia
 have hpos:methodCallPos true o env mO pos=pure pos:=by unfold methodCallPos;simp[CV]
 unfold methodCall;rw[hform];exact aj (aW (aN (h1 _) fun p s2 h2=>aj (by rw[hpos];exact aK h2)))
theorem Bh{a:Str}{fs es as}(y:cV h O fs es as)(e:look fs a=Option.none):getL a es=some none:=by
 induction y with
 |nil=>rfl
 | @tree x _ _ _ _ _ _ k _ _ ih| @dI x _ _ _ _ _ _ _ _ _ _ k _ _ _ _ _ _ _ ih=>
  refine bT (x==a) (fun q=>?_) fun q=>?_
  ·rw[pF q]at e;exact aq e.symm
  ·rw[pG q]at e;rw[ue k q];exact ih e
end
section
theorem mMs{β:Type}{v:List Bool}{f:List Bool->Option β}{o:β}(e:(match v with|true::ms=>f ms|_=>Option.none)=some o):∃ms,v=true::ms/\f ms=some o:=by
 induction v using List.casesOn with
 |nil=>exact aq e
 |cons b r=>induction b using Bool.casesOn;exact aq e;exact⟨r,rfl,e⟩
theorem uO{x:Str}{c:MV}{v:Value}(X:az F envs aa al st h)(hx:look st.ow x=some c)(hv:cS h (Ob F aa al) al (.own x) v):∃a r,look al x=some (a::r)/\v= .ref a/\c9 h (Ob F aa al) c (a::r):=by
 refine aH (X.ow.own x c hx) fun as ha oo=>?_;refine cF (hv as ha) fun a r o2 o3=>?_;obtain rfl:=o2;clear hv;obtain rfl:=o3;exact⟨a,r,ha,rfl,oo⟩
variable{l:List MV}{a:Addr}{tv:Value}
theorem xJ(R:bz A d n tb){x:Str}{t:MV}{k:MV->Bool->St->Option α}{ah:α}{as:List Addr}(X:az F envs aa al st s.heap)(hx:look st.ow x=some (.lst l))(ha:look al x=some (a::as))
  (tt:Tree s.heap (Ob F aa al) t tv) (e:cond (decide (l.length<=ak)) (k .none false {st with ow:=dJ st.ow x (.lst (l++[t]))}) Option.none=some ah):
  wpAny (model g.prog g.w) A (call (.builtin "list.append") [.ref a,tv]) (d9 F envs aa al s k ah) aF s:=by
 refine oA (aG e) fun q e9=>?_;try clear e;revert e9;intro e;have hz:=bx q;refine aH (X.ow.own x _ hx) fun as' Bg oo=>?_;rw[ha]at Bg;cases Bg
 cases oo with
 | @lst _ _ o vs m ho hc gT hd tr=>
  have l1:=tr.length;simp only[jk]at l1;refine xK ho hc gT hd (fun h' o' m' qc sL BN uP hs=>?_) (l1▸aI hz iH);refine oA (az.wK (x:=x) (as:=[a]) (as':=[a]) (c':= .lst (l++[t])) (h':=h') X ha (fun b o e q=>hs b o (fun z=>q (z▸ .head _)) e) (fun b q=>q) (by simp) (fun b q=>by rcases bQ.mp q with rfl;exact⟨_,qc⟩) rfl
   (fun S=> .lst qc sL BN uP (by rw[Array.toList_push];exact(tr.append (.cons tt .nil)).aU S))) fun X' sp=>?_
  exact GZ X' e .none (fun q=>nomatch q) sp ⟨rfl,rfl,rfl⟩
where
 xK {a:Addr} {o:Obj} {vs:Array Value} {m:Nat} {x:Value} {Q:Value→Shared→Prop} (ho:s.heap.get? a=some o) (hc:o.cls= .type "list") (gT:o.dict=none) (hd:o.data= .seq vs m)
   (hQ:∀h' o' m',h'.get? a=some o'→o'.cls= .type "list" →o'.dict=none→o'.data= .seq (vs.push x) m'→(∀b o,b≠a→s.heap.get? b=some o→h'.get? b=some o)→Q .none {s with heap:=h'}) (hsz:vs.size≤sizeLine):
   wpAny (model g.prog g.w) A (call (.builtin "list.append") [.ref a,x]) Q aF s:=by
  refine oE (Obj.data_mapSeq hd (·.push x)) fun n' uP=>?_;refine wpAny_call_entry slot_list_append ⟨o,ho,hc⟩ entry_list_append ?_ (args_list_append _ _);show wpAny _ _ (updateSeq a (·.push x) >>= fun _=>ret .none) _ _ s;refine aD ?_;refine wpAny_updateSeq ho hd (aR ⟨.none,rfl,hQ _ _ n' (Heap.get?_update_self _ ho (Obj.isFreed_of_seq uP)) ((Obj.cls_mapSeq ..).trans hc) ?_ uP ?_⟩)
  ·obtain⟨c,dd,dt,sl⟩:=o
   induction dt using Data.casesOn<;>exact gT
  ·intro b o' hb e
   exact((Heap.SameBut.update ..).2 b hb).trans e
variable{m:MV}{r:List MV}{b:List Nat}
theorem MU(e:tN [] (m::r)=some b):∃x,m= .bytes x:=by
 induction r using List.casesOn<;>induction m using MV.casesOn<;>first|exact⟨_,rfl⟩|exact aq (show none=some b from e)
theorem MW{x:List Nat}(e:tN [] (.bytes x::m::r)=some b):∃c,tN [] (m::r)=some c/\b=x++c:=by
 have e:(match tN [] (m::r)with|some t=>some (x++([]++t))|none=>none)=some b:=e;cases h:tN [] (m::r)with
 |none=>rw[h]at e;exact nomatch e
 |some c=>rw[h]at e;exact⟨c,rfl,(dm e).symm⟩
theorem MX:∀{l:List MV} {vs:List Value} {b:List Nat},tN [] l=some b->aQ h O l vs->∃bs:List (Array UInt8×Tok),vs=CQ bs/\b=(bs.map (·.1.toList)).flatten.map UInt8.toNat:=by
 intro l
 induction l with
 |nil=>intro vs b e t;obtain rfl:=t.iT;cases e;exact⟨[],rfl,rfl⟩
 |cons m r ih=>
  intro vs b e t;refine cy (t.eT) fun v vs o2 t9 tr=>?_;try clear t;obtain rfl:=o2;revert t9;intro t;refine oE (MU e) fun x o1=>?_;obtain rfl:=o1;refine cF (t.Ff) fun bb tk o2 o3=>?_;obtain rfl:=o2;clear t;obtain rfl:=o3
  induction r using List.casesOn with
  |nil=>
   have eO:=tr.iT;clear tr;obtain rfl:=eO;have eO:=dm (show some (bb.toList.map UInt8.toNat)=some b from e);clear e;obtain rfl:=eO;exact⟨[(bb,tk)],rfl,by simp⟩
  |cons m2 r2=>
   refine aH (MW e) fun c ht o2=>?_;obtain rfl:=o2;refine aH (ih ht tr) fun bs o1 o2=>?_;clear tr;obtain rfl:=o1;clear e ht;obtain rfl:=o2;exact⟨(bb,tk)::bs,rfl,by simp⟩
theorem Kh(T:tU A){x:Str}{l:List Nat}{i:Int}{k:MV->Bool->St->Option α}{ah:α}{as:List Addr}(X:az F envs aa al st s.heap)(hx:look st.ow x=some (.fV l))(ha:look al x=some (a::as))
  (tt:Tree s.heap (Ob F aa al) (.int i) tv) (q:(decide (0<=i)&&(decide (i<256)&&decide (l.length<=ak)))=true) (e:k .none false {st with ow:=dJ st.ow x (.fV (l++[i.toNat]))}=some ah):
  aE (model g.prog g.w) A (call (.builtin "bytearray.append") [.ref a,tv]) (d9 F envs aa al s k ah) aF s:=by
 refine oA (bk.mp q) fun q1 q9=>?_;try clear q;revert q9;intro q;refine oA (bk.mp q) fun q2 q3=>?_;have q1:=bx q1;have q2:=bx q2;have q3:=bx q3;refine aH (X.ow.own x _ hx) fun as' Bg oo=>?_;rw[ha]at Bg;cases Bg
 cases tt with
 |int i t=>
  cases oo with
  | @fV b _ o ho hc gT hd=>
   have hz:b.size<sizeLine:=by
    have:=sizeLine_eq;have hs:ak=1000000:=rfl;simp at q3
    lia
   refine wD (Pa T ho hc gT hd q1 q2 hz fun h' o' e1 e2 e3 e4 hk=>?_);have el:b.toList.map UInt8.toNat++[i.toNat]=(b.push i.toNat.toUInt8).toList.map UInt8.toNat:=by
    rw[Array.toList_push,iY,List.map_cons,List.map_nil,Zw q1 q2]
   rw[el]at e;refine oA (az.wK (x:=x) (as:=[a]) (as':=[a]) (c':= .fV ((b.push i.toNat.toUInt8).toList.map UInt8.toNat)) (h':=h') X ha (fun b o e q=>hk b o (fun z=>q (z▸ .head _)) e) (fun b q=>q) (by simp) (fun b q=>by rcases bQ.mp q with rfl;exact⟨_,e1⟩) rfl
    (fun S=> .fV e1 e2 e3 e4)) fun X' sp=>?_
   exact GZ X' e .none (fun q=>nomatch q) sp ⟨rfl,rfl,rfl⟩
theorem jG{id:String}{v:Value}{pos:Pos}{es:List Expr}{Q:Value->Shared->Prop}(q:bC es=false)(ln:es.length<=20)
  (h:aE (model g.prog g.w) A (spliced (backTo pos (starEach es env))) (fun vs s₁=>aE (model g.prog g.w) A (call (.builtin id) (v::vs)) Q aF s₁) aF s):
  aE (model g.prog g.w) A (callWith pos (.builtin id) [v] (backTo pos (starEach es env)) []) Q aF s:=
 uJ oJ q ln (aN h fun vs s1 h1=>⟨trivial,h1⟩)
theorem qe{x:Str}{r:List Addr}(e:look al x=some (a::r))(s':Sp aa al h al' h'){as'}(e':look al' x=some as'):∃r',as'=a::r':=by
 refine aH (s'.heads x as' e') fun as h1 h2=>?_;rw[e]at h1
 (first|exact aq h1|exact aP h1|cases h1)
 induction as' using List.casesOn with
 |nil=>cases h2
 |cons b r'=>cases h2;exact⟨r',rfl⟩
theorem notF'(X:az F envs aa al st h):∀a,a∈F->a∉aa.flatten/\a∉flat al:=by
 intro a q;have z:=(cg.mp X.nd).2.2 a q;exact⟨fun y=>z a (cP _ y) rfl,fun y=>z a (cO _ y) rfl⟩
theorem Kl{x:MV}(z:allStrs x l=true):∃y,x= .str y/\dj l=true:=by
 refine oA (bk.mp z) fun z1 z2=>?_
 induction x using MV.casesOn<;>first|exact aP z1|exact⟨_,rfl,z2⟩
theorem Gf:typeOf (.builtin "list.index")=pure (.type "method_descriptor"):=PySem.F.type_list_index
theorem Gg{M:Model}{E:Value→Shared→Prop}{l:Addr}{o:Obj}{pl:Sem Bool}{Q:Value×List Value→Shared→Prop}(ho:s.heap.get? l=some o)(hc:o.cls= .type "list")(hd:o.dict=none)
  (h:Q (.builtin "list.index",[.ref l]) s):wpAny M A (getMethod (.ref l) "index" pl) Q E s:=by
 have hT:s.TypeIs (.ref l) "list":=⟨o,ho,hc⟩;unfold getMethod;refine aD (fu hT list_getattribute ?_);show wpAny M A (if(Manifest.canonical "list.__getattribute__" != "object.__getattribute__")=true then _ else _) Q E s;rw[canon_list_getattribute,bG rX];refine aD (fu hT list_getattr_none ?_);refine aD (fu hT PySem.F.slot_list_index.lookup ?_);refine aD (cD Gf ?_);refine aD (wpAny_load ho ?_);rw[hd];exact aD (wpAny_rule (aR h))
section
variable{x:Str}{as:List MV}{k:MV->Bool->St->Option α}{ah:α}
variable{o:Option MV}
theorem MY(e:OD x as o au k=some ah):∃t l,as= [t]/\o=some (.lst l)/\cond (decide (l.length<=ak)) (k .none false {au with ow:=dJ au.ow x (.lst (l++[t]))}) Option.none=some ah:=by
 rcases as with _|⟨t,_|⟨u,r⟩⟩
 ·exact aq e
 ·induction o using Option.casesOn with
  |none=>exact aq e
  |some m=>induction m using MV.casesOn<;>first|exact aq e|exact⟨_,_,rfl,rfl,e⟩
 ·exact aq e
theorem Pp(e:Co x as au k=some ah):∃t l,as= [t]/\look au.ow x=some (.lst l)/\cond (decide (l.length<=ak)) (k .none false {au with ow:=dJ au.ow x (.lst (l++[t]))}) Option.none=some ah:=MY e
variable{ba:Bool}
theorem MZ(e:OE ba x as o au k=some ah):∃i l,as= [.int i]/\o=some (.fV l)/\ba=true/\(decide (0<=i)&&(decide (i<256)&&decide (l.length<=ak)))=true/\k .none false {au with ow:=dJ au.ow x (.fV (l++[i.toNat]))}=some ah:=by
 rcases as with _|⟨t,_|⟨u,r⟩⟩
 ·exact aq e
 ·induction t using MV.casesOn with
  |int i=>induction o using Option.casesOn with
   |none=>exact aq e
   |some m=>induction m using MV.casesOn with
    |fV l=>
     refine oA (aG (show cond (ba&&(decide (0<=i)&&(decide (i<256)&&decide (l.length<=ak)))) _ none=some ah from e)) fun z e9=>?_;try clear e;revert e9;intro e;refine oA (bk.mp z) fun z1 z2=>?_;exact⟨_,_,rfl,rfl,z1,z2,e⟩
    |_=>exact aq e
  |_=>exact aq e
 ·induction t using MV.casesOn<;>exact aq e
theorem Pq(e:GS ba x as au k=some ah):∃i l,as= [.int i]/\look au.ow x=some (.fV l)/\ba=true/\(decide (0<=i)&&(decide (i<256)&&decide (l.length<=ak)))=true/\k .none false {au with ow:=dJ au.ow x (.fV (l++[i.toNat]))}=some ah:=MZ e
variable{pC:Bool}
theorem Pr{v:MV}(e:Um x pC v o au k=some ah):∃l d,v= .lst l/\o=some (.gk d)/\LU x pC l d (pairsOf l) au k=some ah:=by
 induction v using MV.casesOn with
 |lst l=>induction o using Option.casesOn with
  |none=>exact aq e
  |some m=>induction m using MV.casesOn<;>first|exact aq e|exact⟨_,_,rfl,rfl,e⟩
 |_=>exact aq e
theorem Pu{d:List (MV×MV)}{o:Option (List (MV×MV))}(e:LU x pC l d o au k=some ah):∃ps,o=some ps/\pC=true/\fy ps=true/\fy d=true/\dW d=false/\l.length<=1000/\d.length<=1000/\
  k .none false {au with ow:=dJ au.ow x (.gk (putAll d ps))}=some ah:=by
 induction o using Option.casesOn with
 |none=>exact aq e
 |some ps=>
  refine oA (aG (show cond (pC&&((fy ps&&(fy d&& !dW d))&&(decide (l.length<=1000)&&decide (d.length<=1000)))) _ none=some ah from e)) fun z e9=>?_;try clear e;revert e9;intro e;refine oA (bk.mp z) fun z1 z9=>?_;try clear z;revert z9;intro z;refine oA (bk.mp z) fun z2 z9=>?_;try clear z;revert z9;intro z;refine oA (bk.mp z2) fun z29 z3=>?_;try clear z2;revert z29;intro z2;refine oA (bk.mp z3) fun z39 z4=>?_;try clear z3;revert z39;intro z3;refine oA (bk.mp z) fun z5 z6=>?_;exact⟨_,rfl,z1,z2,z3,Hs z4,bx z5,bx z6,e⟩
theorem Sd{v:MV}(e:Rp x pC v au k=some ah):∃l d ps,v= .lst l/\look au.ow x=some (.gk d)/\pairsOf l=some ps/\pC=true/\fy ps=true/\fy d=true/\dW d=false/\l.length<=1000/\d.length<=1000/\
  k .none false {au with ow:=dJ au.ow x (.gk (putAll d ps))}=some ah:=by
 refine cy (Pr e) fun l d o2 h e9=>?_;try clear e;obtain rfl:=o2;revert e9;intro e;refine aH (Pu e) fun ps h2 z=>?_;exact⟨l,d,ps,rfl,h,h2,z⟩
theorem M0{o:Option (List Nat)}(e:OF l o au k=some ah):∃b,o=some b/\b.length<=ak/\k (.bytes b) true au=some ah:=by
 induction o using Option.casesOn with
 |none=>exact aq e
 |some b=>
  refine oA (aG (show cond (decide (l.length<=ak)&&decide (b.length<=ak)) _ none=some ah from e)) fun z e9=>?_;try clear e;revert e9;intro e;exact⟨_,rfl,bx (bk.mp z).2,e⟩
theorem M1(e:Cp as au k=some ah):∃l b,as= [.lst l]/\tN [] l=some b/\b.length<=ak/\k (.bytes b) true au=some ah:=by
 rcases as with _|⟨t,_|⟨u,r⟩⟩
 ·exact aq e
 ·induction t using MV.casesOn with
  |lst l=>obtain⟨b,z⟩:=M0 (l:=l) e;exact⟨l,b,rfl,z⟩
  |_=>exact aq e
 ·induction t using MV.casesOn<;>exact aq e
variable{dK:Str}
theorem M3{o:Option (List Str)}(e:OG dK l o au k=some ah):∃b,o=some b/\iE dK.length b<=ak/\k (.str (jH dK b)) true au=some ah:=by
 induction o using Option.casesOn with
 |none=>exact aq e
 |some b=>
  refine oA (aG (show cond (decide (l.length<=ak)&&decide (iE dK.length b<=ak)) _ none=some ah from e)) fun z e9=>?_;try clear e;revert e9;intro e;exact⟨_,rfl,bx (bk.mp z).2,e⟩
theorem M4(e:yZ dK as au k=some ah):∃l b,as= [.lst l]/\sC l=some b/\iE dK.length b<=ak/\k (.str (jH dK b)) true au=some ah:=by
 rcases as with _|⟨t,_|⟨u,r⟩⟩
 ·exact aq e
 ·induction t using MV.casesOn with
  |lst l=>obtain⟨b,z⟩:=M3 (l:=l) e;exact⟨l,b,rfl,z⟩
  |_=>exact aq e
 ·induction t using MV.casesOn<;>exact aq e
theorem Km{y:Str}{cs:List Nat}(e:KU dK y cs au k=some ah):cs.length=1/\dK.length<=ak/\k (.lst ((Txt.split dK y).map MV.str)) true au=some ah:=by
 rcases cs with _|⟨t,_|⟨u,r⟩⟩
 ·exact aq e
 ·refine oA (aG (show cond (decide (dK.length<=ak)) _ none=some ah from e)) fun z e9=>?_
  try clear e;revert e9;intro e;exact⟨rfl,bx z,e⟩
 ·exact aq e
theorem Kn(e:wB dK as au k=some ah):∃y,as= [.str y]/\y.length=1/\dK.length<=ak/\k (.lst ((Txt.split dK y).map MV.str)) true au=some ah:=by
 rcases as with _|⟨t,_|⟨u,r⟩⟩
 ·exact aq e
 ·induction t using MV.casesOn with
  |str y=>exact⟨y,rfl,Km (y:=y) e⟩
  |_=>exact aq e
 ·induction t using MV.casesOn<;>exact aq e
theorem M5(e:Cq l as au k=some ah):∃x,as= [x]/\allStrs x l=true/\eN x l=true/\l.length<=ak/\k (.int (xy x l)) true au=some ah:=by
 rcases as with _|⟨t,_|⟨u,r⟩⟩
 ·exact aq e
 ·refine oA (aG (show cond (allStrs t l&&eN t l&&decide (l.length<=ak)) _ none=some ah from e)) fun z e9=>?_
  try clear e;revert e9;intro e;refine oA (bk.mp z) fun z12 z3=>?_;refine oA (bk.mp z12) fun z1 z2=>?_;exact⟨_,rfl,z1,z2,bx z3,e⟩
 ·exact aq e
end
theorem aQ.one{m:MV}{vs:List Value}(t:aQ h O [m] vs):∃v,vs= [v]/\Tree h O m v:=by
 refine cy (t.eT) fun v r o2 a b=>?_;obtain rfl:=o2;have:=b.iT;clear t b;subst this;exact⟨v,rfl,a⟩
def r7(A:Around)(F:List Addr)(env:Env)(envs:List Env)(aa:List (List Addr))(al:Al)(s:Shared)(k:MV->Bool->St->Option α)(ah:α)(pos:Pos)(args:List Expr)(v:Value)(name:Str)(pl:Sem Bool):Prop:=
 aE (model g.prog g.w) A (getMethod v name pl) (fun p s2=>aE (model g.prog g.w) A (callWith pos p.1 p.2 (backTo pos (starEach args env)) []) (d9 F (env::envs) aa al s k ah) aF s2) aF s
section
variable{x name:Str}{args:List Expr}{k:MV->Bool->St->Option α}{ah:α}{pos:Pos}{pl:Sem Bool}{v:Value}{cf:Cf}
set_option tactic.hygienic true in
theorem m_obj(G:fO g consts)(T:kK d cf.T cf.M)(hs:bU (d+1) n cf.ba pm self)(R:bz A (d+1) n cf.ba)(X:az F (env::envs) aa al st s.heap)(q:bC args=false)(ln:args.length<=20){c:Str}{fs:List (Str×MV)}
  (hx:look st.ow x=some (.obj c fs)) (hv:cS s.heap (Ob F aa al) al (.own x) v) (e:DS cf self name args x c fs st k=some ah):r7 A F env envs aa al s k ah pos args v name pl:=by
 unfold DS at e;refine oA (aG e) fun nn e9=>?_;try clear e;revert e9;intro e;have nn':look fs name=Option.none:=by cases z:look fs name with|none=>rfl|some _=>rw[z]at nn;exact aP nn
 refine aH (mOptE e) fun en Lf e9=>?_;clear e;revert e9;intro e
 ·
  refine aH (mMs e) fun ms Pw e9=>?_;clear e;revert e9;intro e
  ·
   refine cy (uO X hx hv) fun a r ha o3 oo=>?_;clear hv;obtain rfl:=o3;refine Hj (T.me c name en Lf) fun C fa h1 h2 h3 h4 h5 hC=>?_;refine A7 (oo.VQ) fun a2 C2 dx es n2 r2 z2 hc ho hd hf=>?_;refine oA (List.cons.inj z2) fun o0 o1=>?_;obtain rfl:=o0;clear z2 oo;obtain rfl:=o1;rw[hc]at h1;have eO:=dm h1;clear h1;obtain rfl:=eO;refine aT (method_fn (AJ G X) (AK ho hd) (plainGet_of h2).1 (plainGet_of h2).2 h3 (beq_iff_eq.mp h4) (by show(lookIn name (dictOf _ _)).map _=_;rw[lookIn_dict,Bh hf nn'];rfl) ?_);refine uJ (IK h5) q ln (aN (Lc hs R q X e) ?_);rintro vs s2 ⟨as,au,aV,e,X2,pre,bS,eF⟩;refine⟨AJ G X2,?_⟩;have pre':Bf s2.heap (Ob F aa aV) aV en.uu (.own x::as) (.ref a::vs):=by
    rw[Pw];refine .own (fun as' e'=>?_) pre;refine oE (qe ha bS e') fun r' Lg=>?_;exact⟨a,r',Lg,rfl⟩
   exact aN (Ld hC R X2 pre' e) fun r s3 w=>w.back bS eF
theorem m_lst(hs:bU (d+1) n cf.ba pm self)(R:bz A (d+1) n cf.ba)(X:az F (env::envs) aa al st s.heap)(q:bC args=false)(ln:args.length<=20){l0:List MV}
  (hx:look st.ow x=some (.lst l0)) (hv:cS s.heap (Ob F aa al) al (.own x) v) (e:(iF self args st fun as au=>Co x as au k)=some ah):r7 A F env envs aa al s k ah pos args v "append" pl:=by
 refine cy (uO X hx hv) fun a r ha o3 oo=>?_;clear hv;obtain rfl:=o3;refine jX (oo.lst_inv) fun a' o vl m z ho hc gT hd tr=>?_;refine oA (List.cons.inj z) fun o0 o1=>?_;obtain rfl:=o0;clear z oo;obtain rfl:=o1;refine aT (Calls.getMethod_list_append ho hc gT ?_);refine jG q ln (aN (sG hs R q X e) ?_);rintro vs s2 ⟨hl,ms,au,aV,e,X2,ts,bS,eF⟩;refine cy (Pp e) fun t l o2 yh e9=>?_;try clear e;obtain rfl:=o2;revert e9;intro e;refine aH (ts.one) fun v o1 tt=>?_;clear ts hl;obtain rfl:=o1;refine aH (X2.ow.own x _ yh) fun jF FD _=>?_;refine oE (qe ha bS FD) fun r' o1=>?_;obtain rfl:=o1;exact aN (aT (xJ R X2 yh FD tt e)) fun r s3 w=>w.back bS eF
theorem ZS(hs:bU (d+1) n cf.ba pm self)(R:bz A (d+1) n cf.ba)(X:az F (env::envs) aa al st s.heap)(q:bC args=false)(ln:args.length<=20){l0:List Nat}
  (hx:look st.ow x=some (.fV l0)) (hv:cS s.heap (Ob F aa al) al (.own x) v) (e:(iF self args st fun as au=>GS cf.ba x as au k)=some ah):r7 A F env envs aa al s k ah pos args v "append" pl:=by
 refine cy (uO X hx hv) fun a r ha o3 oo=>?_;clear hv;obtain rfl:=o3;refine Fc (oo.Rt) fun a' o b z ho hc gT hd _=>?_;refine oA (List.cons.inj z) fun o0 o1=>?_;obtain rfl:=o0;clear z oo;obtain rfl:=o1;refine aT (Im ho hc gT ?_);refine jG q ln (aN (sG hs R q X e) ?_);rintro vs s2 ⟨hl,ms,au,aV,e,X2,ts,bS,eF⟩;refine kP (Pq e) fun i l o2 yh z1 z2 e9=>?_;try clear e;obtain rfl:=o2;revert e9;intro e;refine aH (ts.one) fun v o1 tt=>?_;clear ts hl;obtain rfl:=o1;refine aH (X2.ow.own x _ yh) fun jF FD _=>?_;refine oE (qe ha bS FD) fun r' o1=>?_;obtain rfl:=o1;exact aN (Kh (R.AH z1) X2 yh FD tt z2 e) fun r s3 w=>w.back bS eF
theorem m_dct(hs:bU (d+1) n cf.ba pm self)(R:bz A (d+1) n cf.ba)(X:az F (env::envs) aa al st s.heap)(ex:Expr)(q:bC [ex]=false)(ln: [ex].length<=20){d0:List (MV×MV)}
  (hx:look st.ow x=some (.gk d0)) (hv:cS s.heap (Ob F aa al) al (.own x) v) (e:(self.ex ex st fun v pC au=>Rp x pC v au k)=some ah):r7 A F env envs aa al s k ah pos [ex] v "update" pl:=by
 refine cy (uO X hx hv) fun a r ha o3 oo=>?_;clear hv;obtain rfl:=o3;refine gO (oo.Y8) fun od kB ZK hdd=>?_;refine aT (IC kB ZK hdd ?_);refine jG q ln (eS (rest:=[]) (aN (hs.ex e R X) ?_) (fz q).1);rintro lv s2 ⟨m2,pC,au,aV,e,X2,ZT,bS,eF⟩;refine fZ ?_;refine F2 (Sd e) fun l dd ps o3 yh sI z1 z4 z6 z7 z8 z9 e9=>?_;try clear e;obtain rfl:=o3;revert e9;intro e;refine aH (X2.ow.own x _ yh) fun jF FD _=>?_;refine oE (qe ha bS FD) fun r' o1=>?_;obtain rfl:=o1;exact aN (aT (ZQ R X2 ZT yh FD sI z1 z4 z6 z7 z8 z9 e)) fun r s3 w=>w.back bS eF
theorem m_own(G:fO g consts)(T:kK d cf.T cf.M)(hs:bU (d+1) n cf.ba pm self)(R:bz A (d+1) n cf.ba)(X:az F (env::envs) aa al st s.heap)(q:bC args=false)(ln:args.length<=20)
  (hx:look st.ow x=some m) (hv:cS s.heap (Ob F aa al) al (.own x) v) (e:DT cf self name args x m st k=some ah):r7 A F env envs aa al s k ah pos args v name pl:=by
 induction m using MV.casesOn<;>first|exact aq e|skip
 ·refine oA (aG (c:=name==("append":Str)) (x:=iF self args st fun as au=>Co x as au k) e) fun nm e2=>?_
  have eO:=eq_of_beq nm;clear nm e;obtain rfl:=eO;exact m_lst hs R X q ln hx hv e2
 ·refine oA (aG (c:=name==("update":Str)) e) fun nm e9=>?_
  try clear e;revert e9;intro e;have eO:=eq_of_beq nm;clear nm;obtain rfl:=eO
  match args,q,ln,e with
  | [],_,_,e=>exact aq e
  | [ex],q,ln,e=>exact m_dct hs R X ex q ln hx hv e
  |_::_::_,_,_,e=>exact aq e
 ·exact m_obj G T hs R X q ln hx hv e
 ·refine oA (aG (c:=name==("append":Str)) (x:=iF self args st fun as au=>GS cf.ba x as au k) e) fun nm e2=>?_
  have eO:=eq_of_beq nm;clear nm e;obtain rfl:=eO;exact ZS hs R X q ln hx hv e2
variable{t:Tok}
theorem Wr(hs:bU (d+1) n cf.ba pm self)(R:bz A (d+1) n cf.ba)(X:az F (env::envs) aa al st s.heap)(q:bC args=false)(ln:args.length<=20)
  (e:(iF self args st fun as au=>Cp as au k)=some ah):r7 A F env envs aa al s k ah pos args (.bytes #[] t) "join" pl:=by
 refine aT (Iu ?_);refine jG q ln (aN (sG hs R q X e) ?_);rintro vs s2 ⟨hl,ms,au,aV,e,X2,ts,bS,eF⟩;refine mJ (M1 e) fun l b o2 hb z2 e9=>?_;try clear e;obtain rfl:=o2;revert e9;intro e;refine aH (ts.one) fun v o1 tt=>?_;obtain rfl:=o1;refine jX (tt.lst_inv) fun a o vl mm o4 ho hc hd _ tr=>?_;clear ts hl tt;obtain rfl:=o4;refine aH (MX hb tr) fun bs ZU o2=>?_;clear hb;obtain rfl:=o2;obtain⟨vl⟩:=vl;have ZU:vl=CQ bs:=ZU;clear tr;subst ZU
 have hz:(bs.map (·.1.size)).sum<=sizeLine:=by
  have:=sizeLine_eq;have hs:ak=1000000:=rfl;have:((bs.map (·.1.toList)).flatten.map UInt8.toNat).length=(bs.map (·.1.size)).sum:=by simp[List.length_flatten,Function.comp_def]
  lia
 refine aN (aT (Wi (s:=s2) ⟨o,ho,hc,mm,hd⟩ hz fun t' k'=>?_)) fun r s3 w=>(d9.back (s:=s) (s':=s2) bS eF w);exact⟨_,true,au,aV,e,X2,.tree (by
  have:=Tree.bytes (h:=s2.heap) (O:=Ob F aa aV) (bs.map (·.1.toList)).flatten.toArray t'
  simpa using this) (fun _=>rfl),.refl,⟨rfl,rfl,rfl⟩⟩
theorem ZV(hs:bU (d+1) n cf.ba pm self)(R:bz A (d+1) n cf.ba)(X:az F (env::envs) aa al st s.heap)(q:bC args=false)(ln:args.length<=20)
  (e:(iF self args st fun as au=>yZ dK as au k)=some ah):r7 A F env envs aa al s k ah pos args (.str dK t) "join" pl:=by
 refine aT (GM.join ?_);refine jG q ln (aN (sG hs R q X e) ?_);rintro vs s2 ⟨hl,ms,au,aV,e,X2,ts,bS,eF⟩;refine mJ (M4 e) fun l b o2 hb z2 e9=>?_;try clear e;obtain rfl:=o2;revert e9;intro e;refine aH (ts.one) fun v o1 tt=>?_;obtain rfl:=o1;refine jX (tt.lst_inv) fun a o vl mm o4 ho hc hd _ tr=>?_;clear ts hl tt;obtain rfl:=o4;refine aH (Kd hb tr) fun l' gH IP=>?_;obtain⟨vl⟩:=vl;have gH:vl=strValues l':=gH;clear tr;subst gH;refine aN (aT (Wg (s:=s2) ⟨o,ho,hc,mm,hd⟩ IP (aI z2 iH) fun t' k'=>?_)) fun r s3 w=>(d9.back (s:=s) (s':=s2) bS eF w);exact⟨_,true,au,aV,e,X2,.tree (.str _ _) (fun _=>rfl),.refl,⟨rfl,rfl,rfl⟩⟩
theorem M6:∀{l':List (Str×Tok)},aQ h O (l'.map fun p=>MV.str p.1) (strValues l'):=by
 intro x0
 induction x0 with
 |nil=>
  exact .nil
 |cons _ _ ih=>
  exact .cons (.str _ _) ih
theorem m_split(hs:bU (d+1) n cf.ba pm self)(R:bz A (d+1) n cf.ba)(X:az F (env::envs) aa al st s.heap)(q:bC args=false)(ln:args.length<=20)
  (e:(iF self args st fun as au=>wB dK as au k)=some ah):r7 A F env envs aa al s k ah pos args (.str dK t) "split" pl:=by
 refine aT (GM.split ?_);refine jG q ln (aN (sG hs R q X e) ?_);rintro vs s2 ⟨hl,ms,au,aV,e,X2,ts,bS,eF⟩;refine jS (Kn e) fun y o1 hy1 z e9=>?_;try clear e;obtain rfl:=o1;revert e9;intro e;refine aH (ts.one) fun v o1 tt=>?_;obtain rfl:=o1;refine oE (tt.str_inv) fun u o1=>?_;clear ts hl tt;obtain rfl:=o1
 have hz:dK.length<sizeLine:=by
  have:=sizeLine_eq;have hs:ak=1000000:=rfl
  lia
 refine aN (aT (RU (s:=s2) hy1 hz fun l' k' gH=>?_)) fun r s3 w=>(d9.back (s:=s) (s':=s2) bS eF w);have e':k (.lst (l'.map fun p=>MV.str p.1)) true au=some ah:=by
  rw[←gH,List.map_map]at e;exact e
 exact(tV (t:=k') (k:=fun m=>k m true au) X2 e' M6).want
theorem Ws(hs:bU (d+1) n cf.ba pm self)(R:bz A (d+1) n cf.ba){as:List Addr}(Xf:az ((a::as)++F) (env::envs) aa al st s.heap)(oo:c9 s.heap (Ob ((a::as)++F) aa al) (.lst l) (a::as))(q:bC args=false)(ln:args.length<=20)
  (e:(iF self args st fun as au=>Cq l as au k)=some ah):r7 A F env envs aa al s k ah pos args (.ref a) "index" pl:=by
 refine jX (oo.lst_inv) fun a' o vl mm z ho hc gT hd tr=>?_;refine oA (List.cons.inj z) fun o0 o1=>?_;obtain rfl:=o0;clear z oo;obtain rfl:=o1;refine aT (Gg ho hc gT ?_);refine jG q ln (aN (sG hs R q Xf e) ?_);rintro vs s2 ⟨hl,ms,au,aV,e,X2,ts,bS,eF⟩;refine Hh (M5 e) fun x o1 z1 z2 z3 e9=>?_;try clear e;obtain rfl:=o1;revert e9;intro e;refine aH (ts.one) fun v o1 tt=>?_;obtain rfl:=o1;have nf:=notF' Xf a (cP _ (bQ.mpr rfl));have Bb:=bS.keep a o ho nf.1 nf.2;have CN:=(bS.sq (pm:=[])).trees tr;refine aH (Kl z1) fun y o1 z19=>?_;try clear z1;obtain rfl:=o1;revert z19;intro z1;refine oE (tt.str_inv) fun u o1=>?_;clear ts tt hl;obtain rfl:=o1;refine aN (aT (RV (s:=s2) Bb hc hd CN z1 z2 z3 ?_)) fun r s3 w=>(d9.back (s:=s) (s':=s2) bS eF w);exact⟨_,true,au,aV,e,X2.vI,.tree (.int _ _) (fun _=>rfl),.refl,⟨rfl,rfl,rfl⟩⟩
set_option tactic.hygienic true in
theorem m_on(G:fO g consts)(T:kK d cf.T cf.M)(hs:bU (d+1) n cf.ba pm self)(R:bz A (d+1) n cf.ba)(X:az F (env::envs) aa al st s.heap)(q:bC args=false)(ln:args.length<=20){bM:Al}{h0:Heap}{fr:Bool}
  (ra:gf F (env::envs) aa bM h0 al st s.heap m fr v) (e:OH cf self name args m fr st k=some ah):r7 A F env envs aa al s k ah pos args v name pl:=by
 have hv:=ra.jE
 induction m using MV.casesOn<;>first|exact aq e|skip
 ·rename_i dK
  refine oE (Tree.str_inv (hv rfl)) fun u o1=>?_;clear hv ra;obtain rfl:=o1;refine bT (name==("join":Str)) (fun nm=>?_) fun nm=>?_
  ·
   have e2:cond (name==("join":Str)) (iF self args st fun as au=>yZ dK as au k) (cond (name==("split":Str)) (iF self args st fun as au=>wB dK as au k) Option.none)=some ah:=e;rw[nm,ir]at e2;have eO:=eq_of_beq nm;clear nm e;obtain rfl:=eO;exact ZV hs R X q ln e2
  ·
   have e2:cond (name==("join":Str)) (iF self args st fun as au=>yZ dK as au k) (cond (name==("split":Str)) (iF self args st fun as au=>wB dK as au k) Option.none)=some ah:=e;rw[nm,bN]at e2;refine oA (aG e2) fun nm2 ZW=>?_;try clear e2;revert ZW;intro e2;have eO:=eq_of_beq nm2;clear nm2 nm e;obtain rfl:=eO;exact m_split hs R X q ln e2
 ·rename_i dK
  refine oA (aG (c:=dW dK&&name==("join":Str)) (x:=iF self args st fun as au=>Cp as au k) e) fun nm e2=>?_;refine oA (bk.mp nm) fun ns ZX=>?_;try clear nm;revert ZX;intro nm;have eO:=eq_of_beq nm;clear nm e;obtain rfl:=eO;refine cF (Tree.Ff (hv rfl)) fun b t o2 hb=>?_;obtain rfl:=o2
  have:b= #[]:=by
   refine lE (b.toList) (fun ZY=>?_) fun c r ZY=>?_
   ·exact Array.ext' ZY
   ·rw[hb,ZY]at ns;exact aP ns
  clear hv ra hb;subst this;exact Wr hs R X q ln e2
 ·rename_i l
  refine oA (aG (c:=fr&&name==("index":Str)) (x:=iF self args st fun as au=>Cq l as au k) e) fun nm e2=>?_;refine oA (bk.mp nm) fun hf ZX=>?_;try clear nm;revert ZX;intro nm;have eO:=eq_of_beq nm;clear nm;obtain rfl:=eO;clear e;subst hf;refine aH (ra) fun N ri hN=>?_;try clear ra
  cases ri with
  |tree t qq=>exact Bool.noConfusion (qq rfl)
  |fresh Xf oo=>exact Ws hs R Xf oo q ln e2
 ·rename_i y
  have e2:(match look st.ow y with|some m=>DT cf self name args y m st k|Option.none=>Option.none)=some ah:=e;refine nE (look st.ow y) (fun hx=>?_) fun m hx=>?_
  ·rw[hx]at e2;exact aq e2
  ·rw[hx]at e2;exact m_own G T hs R X q ln hx hv e2
theorem Wt(G:fO g consts)(T:kK d cf.T cf.M)(hs:bU (d+1) n cf.ba pm self)(R:bz A (d+1) n cf.ba){o:Expr}{mO:Pos}(X:az F (env::envs) aa al st s.heap)
  (q:bC args=false) (ln:args.length<=20) (CV:(mO.endLine==pos.line)=true) (e:Cr cf self o name args st k=some ah):aE (model g.prog g.w) A (eval (.Call (.Attribute o name mO) args [] pos) env) (d9 F (env::envs) aa al s k ah) aF s:=by
 unfold Cr at e;refine bT (oU o) (fun UL=>?_) fun UL=>?_
 ·rw[UL]at e;exact aq e
 ·
  rw[UL,bN]at e;refine IL UL q ln CV (aN (hs.ex e R X) ?_);rintro v s1 ⟨m,fr,aA,bY,e,X1,ra,bu,bA⟩ pl;exact aN (m_on (pos:=pos) (pl:=pl) G T hs R X1 q ln ra e) fun p s2 h=>aN h fun r s3 w=>w.back bu bA
end
end
theorem gQ.back{k:cI->St->Option α}{ah:α}{v:Flow}(sq:Sq pm aa al s.heap al' s'.heap)(sm:dQ s s')(w:gQ pm F envs aa al' s' k ah v dU):gQ pm F envs aa al s k ah v dU:=by
 obtain⟨w,aY,dG,e,X,r,ZZ,CE⟩:=w;refine⟨w,aY,dG,e,X,?_,sq.trans ZZ,sm.trans CE⟩
 induction r using mS.casesOn with
 |aL=>exact .aL
 |ret r=>exact .ret (r.base sq)
theorem AN{x:Str}{t:MV}{v:Value}{aY:St}(X:az F (env::envs) aa al st s.heap)(e:wj x t st=some aY)(tv:cS s.heap (Ob F aa al) al t v)(mk:∀k,t= .own k->x=k){Q:Unit->Shared->Prop}
  (hQ:∀h' tk,az F (env::envs) aa al aY h'->Sp aa al s.heap al h'->aY.ow=st.ow->Q () {s with heap:=h',toks:=tk}):wpAny (model g.prog g.w) A (storeName env x v) Q aF s:=by
 have Y:=X.fr;have X0:=X;obtain⟨fr,ow⟩:=st;dsimp only at Y;cases Y with
 | @cons _ f ps _ fs rm sc cl r=>
  have nP:(ps++rm.flatten).Nodup:=by
   have:=(cg.mp (cg.mp X.nd).2.1).1
   simpa using this
  have sI:∀b,b∈ps->b∈Ob F (ps::rm) al:=fun b q=>aO.mpr (.inr (.inl (by simp only[iU,bR];exact .inl q)));have go:∀(c:Addr) (h':Heap),c∈ps->(∀b o,b≠c->s.heap.get? b=some o->h'.get? b=some o)->(∃o,h'.get? c=some o)->
    (cM s.heap (Ob F (ps::rm) al) h' (Ob F (ps::rm) al) [c]->wG h' (Ob F (ps::rm) al) al env {f with vs:=dJ f.vs x t} ps)->
    az F (env::envs) (ps::rm) al ⟨{f with vs:=dJ f.vs x t}::fs,ow⟩ h'/\Sp (ps::rm) al s.heap al h':=by
   intro c h' hc hk hl Px;have S:cM s.heap (Ob F (ps::rm) al) h' (Ob F (ps::rm) al) [c]:=⟨fun b o e q=>hk b o (fun z=>q (z▸ .head _)) e,fun _ _ _ q=>q,fun b q=>by rcases bQ.mp q with rfl;exact sI _ hc⟩;have UM:=sI c hc;refine⟨⟨.cons (Px S) cl (r.aU S (fun _ as' e=>⟨as',e,rfl⟩) fun b o q e=>hk b o (fun z=>?_) e),X.ow.aU S (fun b o q e=>hk b o (fun z=>?_) e),X.nd,fun b q=>?_,X.hi,fun b o q=>?_,X.top⟩,⟨fun b o e q _=>hk b o (fun z=>?_) e,fun b q=> .inl q,fun _ as' e=>⟨as',e,rfl⟩⟩⟩
   ·clear UM S Px hl hk
    subst z;exact(cg.mp nP).2.2 _ hc _ q rfl
   ·clear UM S Px hl hk
    subst z;exact(cg.mp (cg.mp X.nd).2.1).2.2 b (by simp only[iU,bR];exact .inl hc) b q rfl
   ·by_cases z:b=c
    ·rw[z];exact hl
    ·refine oE (X.live b q) fun o eo=>?_
     exact⟨o,hk b o z eo⟩
   ·refine hk b o (fun z=>?_) (X.jN b o q)
    clear S Px hl hk hc;subst z;exact kH _ (nu (gD q) (X.hi b UM))
   ·clear UM S Px hl hk
    subst z;exact q (by simp only[iU,bR];exact .inl hc)
  unfold wj at e
  try dsimp only at e
  refine nE (look f.sc.names x) (fun z=>?_) fun kk z=>?_
  ·rw[z]at e;exact aq e
  rw[z]at e
  induction kk using NameKind.casesOn with
  | «local» =>
   obtain rfl:=dm e;refine aH (sc.ns) fun m hn hm=>?_;refine wpAny_storeName_local (sc.base.loc x z) hn (fun h' UN hs=>?_) (by rw[sc.base.kind];rfl);have hk:∀b o,b≠env.locals->s.heap.get? b=some o->h'.get? b=some o:=fun b o hb e=>(hs.2 b hb).trans e;refine oA (go env.locals h' sc.mem hk (by obtain⟨o,es,ep,ho,_⟩:=UN;exact⟨o,ho⟩) fun S=>by
    have Z0:=tv.aU S (fun _ as' e=>⟨as',e,rfl⟩);refine⟨sc.base,sc.mem,⟨_,UN,fun y mv hy hl=>?_⟩,fun y hy=>?_,sc.apart,fun y k hl=>?_⟩
    ·have gH:look (dJ f.vs x t) y=some mv:=hl
     rw[jO]at gH
     by_cases pH:x=y
     ·rw[if_pos pH]at gH;cases gH
      exact⟨v,by rw[if_pos pH.symm],Z0⟩
     ·rw[bG pH]at gH
      refine aH (hm y mv hy gH) fun w h1 h2=>?_;exact⟨w,by rw[bG (Ne.symm pH)];exact h1,h2.aU S fun _ as' e=>⟨as',e,rfl⟩⟩
    ·refine kP (sc.cells y hy) fun c ov h1 h2 h3 h4 h5=>?_
     refine aH (h4) fun o ho hd=>?_;try clear h4;refine⟨c,ov,h1,h2,h3,⟨o,hk c o h3 ho,hd⟩,fun mv hl=>?_⟩;have gH:look (dJ f.vs x t) y=some mv:=hl;rw[jO,bG (fun ee:x=y=>by rw[ee,hy]at z;exact nomatch z)]at gH;refine aH (h5 mv gH) fun w h6 h7=>?_;exact⟨w,h6,h7.aU S fun _ as' e=>⟨as',e,rfl⟩⟩
    ·have gH:look (dJ f.vs x t) y=some (.own k):=hl
     rw[jO]at gH
     by_cases pH:x=y
     ·rw[if_pos pH]at gH;cases gH
      rw[←pH];exact mk k rfl
     ·rw[bG pH]at gH
      exact sc.mark y k gH) fun a b=>?_
   exact hQ h' _ a b rfl
  |cell=>
   obtain rfl:=dm e;refine kP (sc.cells x z) fun c ov h1 h2 h3 h4 h5=>?_;refine wpAny_storeName_cell sc.base.kind (sc.base.cel x z) h1 h4 fun h' sL hs=>?_;have hk:∀b o,b≠c->s.heap.get? b=some o->h'.get? b=some o:=fun b o hb e=>(hs.2 b hb).trans e;refine oA (go c h' h2 hk (by obtain⟨o,ho,_⟩:=sL;exact⟨o,ho⟩) fun S=>by
    have Z0:=tv.aU S (fun _ as' e=>⟨as',e,rfl⟩);refine aH (sc.ns) fun m hn hm=>?_;have UN:h'.Ns env.locals m:=by obtain⟨o,es,ep,ho,r⟩:=hn;exact⟨o,es,ep,hk _ _ (Ne.symm h3) ho,r⟩
    refine⟨sc.base,sc.mem,⟨m,UN,fun y mv hy hl=>?_⟩,fun y hy=>?_,sc.apart,fun y k hl=>?_⟩
    ·have gH:look (dJ f.vs x t) y=some mv:=hl
     rw[jO,bG (fun ee:x=y=>by rw[ee,hy]at z;exact nomatch z)]at gH;refine aH (hm y mv hy gH) fun w h1 h2=>?_;exact⟨w,h1,h2.aU S fun _ as' e=>⟨as',e,rfl⟩⟩
    ·refine kP (sc.cells y hy) fun c2 ov2 i1 i2 i3 i4 i5=>?_
     by_cases pH:x=y
     ·clear i5 hy
      subst pH;rw[h1]at i1;cases i1;refine⟨c,some v,h1,h2,h3,sL,fun mv hl=>?_⟩;have gH:look (dJ f.vs x t) x=some mv:=hl;rw[jO,if_pos rfl]at gH;cases gH;exact⟨v,rfl,Z0⟩
     ·have UO:c2≠c:=fun ee=>pH (sc.apart x y c z hy h1 (ee▸i1))
      refine aH (i4) fun o ho hd=>?_;try clear i4;refine⟨c2,ov2,i1,i2,i3,⟨o,hk c2 o UO ho,hd⟩,fun mv hl=>?_⟩;have gH:look (dJ f.vs x t) y=some mv:=hl;rw[jO,bG pH]at gH;refine aH (i5 mv gH) fun w h6 h7=>?_;exact⟨w,h6,h7.aU S fun _ as' e=>⟨as',e,rfl⟩⟩
    ·have gH:look (dJ f.vs x t) y=some (.own k):=hl
     rw[jO]at gH
     by_cases pH:x=y
     ·rw[if_pos pH]at gH;cases gH
      rw[←pH];exact mk k rfl
     ·rw[bG pH]at gH
      exact sc.mark y k gH) fun a b=>?_
   exact hQ h' _ a b rfl
  |_=>exact aq e
variable{cf:Cf}{ow:List (Str×MV)}
section
theorem az.weaken{f:Fr}{fs:List Fr}{vs':List (Str×MV)}(X:az F envs aa al ⟨f::fs,ow⟩ h)(q:∀y mv,look vs' y=some mv->look f.vs y=some mv):az F envs aa al ⟨{f with vs:=vs'}::fs,ow⟩ h:=by
 have Y:=X.fr;dsimp only at Y;cases Y with
 |cons sc cl r=>
  refine⟨.cons ⟨sc.base,sc.mem,?_,fun y hy=>?_,sc.apart,fun y k hl=>sc.mark y k (q y _ hl)⟩ cl r,X.ow,X.nd,X.live,X.hi,X.jN,X.top⟩
  ·refine aH (sc.ns) fun m hn hm=>?_
   exact⟨m,hn,fun y mv a b=>hm y mv a (q y mv b)⟩
  ·refine kP (sc.cells y hy) fun c ov h1 h2 h3 h4 h5=>?_
   exact⟨c,ov,h1,h2,h3,h4,fun mv b=>h5 mv (q y mv b)⟩
variable{x:Str}{m:MV}
set_option tactic.hygienic true in
theorem az.Py{f:Fr}(X:az (N++F) envs aa al ⟨[f],ow⟩ h)(no:∀y,look f.vs y≠some (.own x))(o:c9 h (Ob (N++F) aa al) m N):
  az F envs aa ((x,N)::del al x) ⟨[f],dJ ow x m⟩ h:=by
 have Y:=X.fr;dsimp only at Y;refine dh (cg.mp X.nd) fun n1 n2 n3=>?_;refine dh (cg.mp n2) fun n4 n5 n6=>?_;refine dh (cg.mp n1) fun m1 m2 m3=>?_;have sJ:∀b,b∈Ob F aa ((x,N)::del al x)->b∈Ob (N++F) aa al:=fun b q=>by
  rw[aO]at q ⊢
  rcases q with q|q|q
  ·exact .inl (cO _ q)
  ·exact .inr (.inl q)
  ·rcases bR.mp q with q|q
   ·exact .inl (cP _ q)
   ·exact .inr (.inr (eY x q))
 have S:cM h (Ob (N++F) aa al) h (Ob F aa ((x,N)::del al x)) []:=⟨fun _ _ e _=>e,fun b o _ q z=>q (sJ b z),fun _ q=>nomatch q⟩;have vo:∀{mv v},mv≠ .own x->cS h (Ob (N++F) aa al) al mv v->cS h (Ob F aa ((x,N)::del al x)) ((x,N)::del al x) mv v:=fun{mv v} ne z=>by
  induction mv using MV.casesOn<;>first|exact Tree.aU S z|skip
  rename_i k;intro as' e;have hk:¬x=k:=fun ee=>ne (by rw[ee]);rw[bg,jY.mpr hk,bN,iG,bG hk]at e;exact z as' e
 have ndN:(F++(aa.flatten++(N++flat (del al x)))).Nodup:=by
  have nd0:=X.nd.sublist ((j5 (N++F)).append ((j5 aa.flatten).append (je x al)));have pm:(F++(aa.flatten++(N++flat (del al x)))).Perm ((N++F)++(aa.flatten++flat (del al x))):=by
   rw[List.perm_iff_count];intro a;simp only[List.count_append]
   lia
  exact pm.nodup_iff.mpr nd0
 cases Y with
 |cons sc cl r=>
  cases r
  refine⟨.cons ⟨sc.base,sc.mem,?_,fun y hy=>?_,sc.apart,sc.mark⟩ cl .nil,⟨fun k m' q=>?_⟩,?_,fun b q=>X.live b (sJ b q),fun b q=>X.hi b (sJ b q),X.jN,X.top⟩
  ·refine aH (sc.ns) fun m hn hm=>?_
   refine⟨m,hn,fun y mv a b=>?_⟩;refine aH (hm y mv a b) fun v h1 h2=>?_;exact⟨v,h1,vo (fun ee=>no y (ee▸b)) h2⟩
  ·refine kP (sc.cells y hy) fun c ov h1 h2 h3 h4 h5=>?_
   refine⟨c,ov,h1,h2,h3,h4,fun mv b=>?_⟩;refine aH (h5 mv b) fun v h6 h7=>?_;exact⟨v,h6,vo (fun ee=>no y (ee▸b)) h7⟩
  ·have q':look (dJ ow x m) k=some m':=q
   rw[jO]at q'
   by_cases hx:x=k
   ·rw[if_pos hx]at q'
    cases q'
    exact⟨N,by rw[bg,hx,j0];rfl,o.aU S fun _ _ _ e=>e⟩
   ·rw[bG hx]at q'
    refine aH (X.ow.own k m' q') fun jF h1 h2=>?_;exact⟨jF,by rw[bg,jY.mpr hx,bN,iG,bG hx];exact h1,h2.aU S fun _ _ _ e=>e⟩
  ·exact ndN
theorem Pz{l:List Fr}(q:single l=true):∃f,l= [f]:=by
 induction l using List.casesOn with
 |nil=>exact aP q
 |cons f r=>induction r using List.casesOn with
  |nil=>exact⟨f,rfl⟩
  |cons _ _=>exact aP q
theorem IQ(X:az F envs aa al st h):∀a,a∈F->a∉aa.flatten/\a∉flat al:=by
 intro a q;have z:=(cg.mp X.nd).2.2 a q;exact⟨fun y=>z a (cP _ y) rfl,fun y=>z a (cO _ y) rfl⟩
variable{ah:α}
set_option tactic.hygienic true in
theorem FE{fr:Bool}{v:Value}{bM:Al}{s0:Shared}{k:St->Option α}(X:az F (env::envs) aa al st s.heap)(r:gf F (env::envs) aa bM s0.heap al st s.heap m fr v)(sq:Sq cf.pm aa bM s0.heap al s.heap)
  (e:kR cf x m fr st k=some ah) {Q:Unit->Shared->Prop}
  (hQ:∀h' tk aY al',k aY=some ah->az F (env::envs) aa al' aY h'->Sq cf.pm aa bM s0.heap al' h'->(∀b o,b∈F->s.heap.get? b=some o->h'.get? b=some o)->Q () {s with heap:=h',toks:=tk}):wpAny (model g.prog g.w) A (storeName env x v) Q aF s:=by
 unfold kR at e;refine bE ((cJ x cf.uu&&ji m)) (fun z=>?_) fun z=>?_
 ·
  rw[z,bN]at e;refine gX (gq X r.jE e) fun t aA bY e9 X1 tt bu=>?_;try clear e;revert e9;intro e;unfold gZ at e;refine aH (GU e) fun au hb e9=>?_;clear e;revert e9;intro e
  ·
   have nt:∀k,t≠ .own k:=fun k ee=>by rw[ee]at tt;exact nomatch tt
   have tv:cS s.heap (Ob F aa bY) bY t v:=by induction t using MV.casesOn<;>first|exact tt|exact absurd rfl (nt _)
   exact AN X1 hb tv (fun k ee=>absurd ee (nt k)) fun h' tk X2 bS _=>hQ h' tk au bY e X2 (sq.trans ((bu.trans bS).sq)) fun b o IP eo=>bS.keep b o eo (IQ X1 b IP).1 (IQ X1 b IP).2
 ·
  rw[z,ir]at e;refine oA (aG e) fun q e2=>?_;clear e;refine oA (bk.mp q) fun q12 q3=>?_;refine oA (bk.mp q12) fun q1 q2=>?_;have q3:cJ x cf.pm=false:=by cases zz:cJ x cf.pm<;>simp[zz]at q3 ⊢
  refine aH (r) fun N ri hN=>?_;try clear r;have Ip:=(bk.mp z).2
  cases ri with
  |tree t qq=>rw[qq q1]at Ip;exact aP Ip
  |own _=>exact aP Ip
  | @fresh _ as a Xf oo=>
   refine oE (Pz q2) fun f0 hf0=>?_;obtain⟨sfr,UP⟩:=st;dsimp only at hf0;clear q12 q q2;subst hf0;unfold gZ at e2;refine aH (GU e2) fun au hb ZW=>?_;clear e2;revert ZW;intro e2
   ·
    have Xw:=Xf.weaken (vs':=del f0.vs x) fun y mv hl=>by
     have hl:=(j4 hl).2
     ·exact hl
    have Yw:=Xf.fr;dsimp only at Yw;have Z1:∀y,look (del f0.vs x) y≠some (.own x):=fun y hl=>by
     have ne:=(j4 hl).1;have hl:=(j4 hl).2
     ·
      cases Yw with
      |cons sc cl r=>exact ne (sc.mark y x hl).symm
    have Xn:=Xw.Py Z1 oo;have GW:∃bX,wj x (.own x) ⟨[{f0 with vs:=del f0.vs x}],dJ UP x m⟩=some bX/\bX=⟨[{f0 with vs:=dJ (del f0.vs x) x (.own x)}],dJ UP x m⟩/\au=⟨[{f0 with vs:=dJ f0.vs x (.own x)}],UP⟩:=by
     unfold wj at hb ⊢;dsimp only at hb ⊢;refine nE (look f0.sc.names x) (fun z=>?_) fun kk z=>?_
     ·rw[z]at hb;exact aq hb
     rw[z]at hb ⊢
     induction kk using NameKind.casesOn<;>first|exact aq hb|skip
     ·obtain rfl:=dm hb;exact⟨_,rfl,rfl,rfl⟩
     ·obtain rfl:=dm hb;exact⟨_,rfl,rfl,rfl⟩
    refine gO (GW) fun bX hb3 o2 o3=>?_;try clear GW;obtain rfl:=o2;clear hb;obtain rfl:=o3
    have tv:cS s.heap (Ob F aa ((x,a::as)::del al x)) ((x,a::as)::del al x) (.own x) (.ref a):=fun as' e'=>by
     rw[bg,j0]at e'
     (first|exact aq e'|exact aP e'|cases e')
     exact⟨a,as,rfl,rfl⟩
    refine AN Xn hb3 tv (fun k ee=>by cases ee;rfl) fun h' tk X2 bS _=>?_;have X3:=X2.weaken (vs':=dJ f0.vs x (.own x)) fun y mv hl=>by
     rw[jO]at hl ⊢
     by_cases pH:x=y
     ·rw[if_pos pH]at hl ⊢;exact hl
     ·rw[bG pH]at hl ⊢
      rw[iG,bG pH];exact hl
    refine hQ h' tk _ _ e2 X3 ?_ ?_
    rotate_left
    ·exact fun b o IP eo=>bS.keep b o eo (IQ Xn b IP).1 (IQ Xn b IP).2
    have hN':uE aa bM s0.heap (a::as):=hN;have S1:Sq cf.pm aa bM s0.heap ((x,a::as)::del al x) s.heap:=by
     refine⟨sq.keep,fun b q=>?_,fun k as' zz ee=>?_⟩
     ·rcases bR.mp q with q|q
      ·exact hN' b q
      ·exact sq.sub b (eY x q)
     ·have hk:¬x=k:=fun e3=>by rw[e3,zz]at q3;exact aP q3.symm
      rw[bg,jY.mpr hk,bN,iG,bG hk]at ee;exact sq.heads k as' zz ee
    exact S1.trans bS.sq
theorem uQ{e:Expr}{t:Option Expr}{l:Nat}(q:fF e=false)(q':eV e=false):swapsWith e t l env=pure false:=by
 induction e using Expr.casesOn<;>first|rfl|exact Bool.noConfusion q'|exact Bool.noConfusion q
variable{pos:Pos}{k:cI->St->Option α}
theorem Ek(hs:bU d n tb cf.pm self)(R:bz A d n tb){e:Expr}{p:Pos}(X:az F (env::envs) aa al st s.heap)(nl:eV e=false)
  (h:(cond (fF e|| !oX st x p e) Option.none<|self.ex e st fun v fr aA=>kR cf x v fr aA fun au=>k .aL au)=some ah):
  aE (model g.prog g.w) A (exec (.Assign [.Name x p] e pos) env) (gQ cf.pm F (env::envs) aa al s k ah) aF s:=by
 refine bT ((fF e|| !oX st x p e)) (fun q'=>?_) fun q'=>?_
 ·rw[q']at h;exact aq h
 ·
  rw[q',bN]at h;refine oA (gS.mp q') fun q _=>?_;rw[exec_Assign_Name env x p e pos (uQ q nl)];refine aj (aX (aj (aN (hs.ex h R X) ?_)));rintro v s1 ⟨m,fr,aA,bY,h,X1,ra,bu,bA⟩;refine aj (aX (aj (aT (wpAny_bindName (FE X1 ra bu.sq h fun h' tk aY al' hk X' ZZ _=>?_)))));exact aK ⟨.aL,aY,al',hk,X',.aL,ZZ,bA.trans ⟨rfl,rfl,rfl⟩⟩
theorem Wu(hs:bU d n tb pm self)(R:bz A d n tb){e:Expr}(X:az F (env::envs) aa al st s.heap)(hki:env.scope.kind= .function)
  (h:(cond (fF e||eV e) Option.none<|self.ex e st fun v _ aA=>cond (vC v) (k .aL aA) Option.none)=some ah):
  aE (model g.prog g.w) A (exec (.Expr e pos) env) (gQ pm F (env::envs) aa al s k ah) aF s:=by
 refine bT ((fF e||eV e)) (fun q=>?_) fun q=>?_
 ·rw[q]at h;exact aq h
 ·
  rw[q,bN]at h;refine oA (gS.mp q) fun q1 q2=>?_;rw[exec_Expr env e pos (by unfold interactive;rw[hki];rfl) (uQ q1 q2)];refine aj (aX (aj (aN (hs.ex h R X) ?_)));rintro v s1 ⟨m,fr,aA,bY,h,X1,ra,bu,bA⟩;refine oA (aG h) fun fl h9=>?_;try clear h;revert h9;intro h
  have nv:∀a,v≠ .ref a:=fun a ee=>by
   refine aH (ra) fun N ri _=>?_;try clear ra
   induction ri using vU.casesOn with
   |tree t _=>induction t using Tree.casesOn<;>first|exact Value.noConfusion ee|exact Bool.noConfusion fl
   |own _=>exact nomatch fl
   |fresh _ o=>cases o<;>exact Bool.noConfusion fl
  rw[dropValue_plain nv];exact aK ⟨.aL,aA,bY,h,X1,.aL,bu.sq,bA⟩
theorem PA(hs:bU d n tb pm self)(R:bz A d n tb){e:Expr}(X:az F (env::envs) aa al st s.heap)
  (h:(self.ex e st fun v fr aA=>k (.ret v fr) aA)=some ah):aE (model g.prog g.w) A (exec (.Return (some e) pos) env) (gQ pm F (env::envs) aa al s k ah) aF s:=by
 rw[exec_Return_some];refine aj (aX (aj (aN (hs.ex h R X) ?_)));rintro v s1 ⟨m,fr,aA,bY,h,X1,ra,bu,bA⟩;exact aK ⟨_,aA,bY,h,X1,.ret ra,bu.sq,bA⟩
theorem wL(hs:bU d n tb pm self)(R:bz A d n tb):∀{l:List Stmt} {k:cI->St->Option α} {st:St} {al:Al} {s:Shared},az F (env::envs) aa al st s.heap->aC self l st k=some ah->
  aE (model g.prog g.w) A (execs l env) (gQ pm F (env::envs) aa al s k ah) aF s:=by
 intro x0
 induction x0 with
 |nil=>
  intro k st al s X h;rw[execs_nil];exact aK ⟨.aL,st,al,h,X,.aL,.refl,.refl⟩
 |cons c r ih=>
  intro k st al s X h;have h1:(self.st c st fun f aA=>match f with
   | .aL=>aC self r aA k
   | .ret v fr=>k (.ret v fr) aA)=some ah:=h
  rw[execs_cons];refine aj (aN (hs.st h1 R X) ?_);rintro fl s1 ⟨w,aA,bY,h,X1,fo,PB,bA⟩
  induction fo using mS.casesOn with
  |aL=>exact aN (ih X1 h) fun v s2 z=>z.back PB bA
  |ret ra=>exact aK ⟨_,aA,bY,h,X1,.ret ra,PB,bA⟩
theorem st_If(hs:bU d n tb pm self)(R:bz A d n tb){t:Expr}{b o:List Stmt}(X:az F (env::envs) aa al st s.heap)
  (h:(self.ts t st fun c aA=>cond c (aC self b aA k) (aC self o aA k))=some ah):aE (model g.prog g.w) A (exec (.If t b o pos) env) (gQ pm F (env::envs) aa al s k ah) aF s:=by
 rw[exec_If];refine aj (aX (aj (aN (hs.ts h R X) ?_)));rintro c s1 ⟨aA,bY,h,X1,bu,bA⟩
 induction c using Bool.casesOn with
 |true=>exact aN (wL hs R X1 h) fun v s2 z=>z.back bu.sq bA
 |false=>exact aN (wL hs R X1 h) fun v s2 z=>z.back bu.sq bA
end
section
variable{prog:Program}{w:World}{A:Around}{s:Shared}
theorem BO{M:Model}{c:Code}{env:Env}{Q:Flow->Shared->Prop}(hc:dF M A c (fun r s'=>match r with| .ok f=>Q f s'| .error e=>aF e s') s):aE M A (runOwn c env) Q aF s:=by
 unfold runOwn;refine jZ (Uo (h:=none) (iR hc fun r s' z=>?_) (fun x=>nomatch x))
 induction r using Except.casesOn with
 |ok f=>exact z
 |error e=>exact z.elim
theorem CW{uy body lW env}{R:Result->Shared->Prop}(I:Nat->Shared->Prop)
  (turn:∀n s,I n s->
   aE (model prog w) A (isTrue uy env (eval uy env)) (fun b s₂=>
    if b then aE (model prog w) A (execs body env) (fun f s₃=>match f with
      | .next| .cont=>∃m,m<n/\I m s₃
      | .brk=>R (.ok .next) s₃
      | .ret v=>R (.ok (.ret v)) s₃) aF s₂
    else aE (model prog w) A (execs lW env) (fun f s₃=>R (.ok f) s₃) aF s₂) aF s)
  (n:Nat) (h:I n s):dF (model prog w) A (.whileLoop uy body lW env) R s:=by
 refine Cu rfl I (fun n s hI=>?_) n h;show aE _ A ((whileTurn uy body lW env).onRaise (fun x=>do noteFrame x env;theTreesLotGoes x)) _ _ s;refine jZ (kT (E:=aF) ?_ (fun _ _ z=>z) fun _ _ z=>z.elim);simp only[whileTurn];refine aj (aN (turn n s hI) fun b s₂ h₂=>?_)
 induction b using Bool.casesOn with
 |false=>
  simp only[Bool.false_eq_true,if_false]at h₂ ⊢;exact aj (aN h₂ fun f s₃ h₃=>aK h₃)
 |true=>
  simp only[if_true]at h₂ ⊢;refine aj (aN h₂ fun f s₃ h₃=>?_)
  induction f using Flow.casesOn with
  |next=>exact aK ⟨rfl,h₃⟩
  |cont=>exact aK ⟨rfl,h₃⟩
  |brk=>exact aK h₃
  |ret v=>exact aK h₃
end
section
variable{F F' N:List Addr}{envs:List Env}{env E:Env}{aa:List (List Addr)}{al al' dG bZ aV:Al}{st aY au:St}{h h' gB h₁ h2:Heap}{O O' O2 W:List Addr}{s s₁ s' dU:Shared}{A:Around}{d n:Nat}{tb:Bool}
 {consts:List (Str×Int)} {self:Ev} {pm:List Str} {f:Fn} {fv:Addr} {fd:FuncData} {cf:Cf}
variable{b:List Stmt}{pos:Pos}{k:cI->St->Option α}{ah:α}
theorem Se(hs:bU d n tb pm self)(R:bz A d n tb){t:Expr}{N:Nat}(X:az F (env::envs) aa al st s.heap)
  (h:jy self t b N st k=some ah):aE (model g.prog g.w) A (exec (.While t b [] pos) env) (gQ pm F (env::envs) aa al s k ah) aF s:=by
 rw[exec_While];refine aj (aX (BO (CW (fun m s'=>∃aY al',jy self t b m aY k=some ah/\az F (env::envs) aa al' aY s'.heap/\Sq pm aa al s.heap al' s'.heap/\dQ s s') ?_ N ⟨st,al,h,X,.refl,.refl⟩)));rintro m s1 ⟨aA,bY,h,X1,PB,bA⟩
 induction m using Nat.casesOn with
 |zero=>exact aq h
 |succ m=>
  have h1:(self.ts t aA fun b' au=>cond b' (aC self b au fun f bX=>match f with
   | .aL=>jy self t b m bX k
   | .ret v fr=>k (.ret v fr) bX) (k .aL au))=some ah:=h
  refine aN (hs.ts h1 R X1) ?_;rintro c s2 ⟨au,aV,h,X2,bS,eF⟩;have wM:Sq pm aa al s.heap aV s2.heap:=PB.trans bS.sq
  induction c using Bool.casesOn with
  |true=>
   rw[if_pos rfl];refine aN (wL hs R X2 h) ?_;rintro fl s3 ⟨w,bX,qE,h,X3,fo,Lh,jm⟩
   induction fo using mS.casesOn with
   |aL=>exact⟨m,Nat.lt_succ_self m,bX,qE,h,X3,wM.trans Lh,(bA.trans eF).trans jm⟩
   |ret ra=>exact⟨_,bX,qE,h,X3,.ret (ra.base wM),wM.trans Lh,(bA.trans eF).trans jm⟩
  |false=>
   rw[bG (by decide)];rw[execs_nil];exact aK ⟨.aL,au,aV,h,X2,.aL,wM,bA.trans eF⟩
theorem Z3(hs:bU d n tb pm self)(R:bz A d n tb){hd:List ExceptHandler}(X:az F (env::envs) aa al st s.heap)
  (h:aC self b st k=some ah):aE (model g.prog g.w) A (exec (.Try b hd [] [] pos) env) (gQ pm F (env::envs) aa al s k ah) aF s:=by
 show aE _ _ (do standAt pos;tryStmt false (execs b env) hd (execs [] env) [] env) _ _ _;refine aj (aX ?_);refine aj (Fd (kT (wL hs R X h) (fun fl s1 w=>?_) fun _ _ z=>z.elim));have w2:=w;obtain⟨w',aA,bY,h1,X1,fo,PB,bA⟩:=w2
 induction fo using mS.casesOn with
 |aL=>rw[execs_nil];exact aK w
 |ret ra=>exact aK w
end
section
theorem Sf(name:Str)(hsh:Int)(key v:Value):∀es:List DictEntry,(putL name hsh key v es).length<=es.length+1:=by
 intro x0
 induction x0 with
 |nil=>
  exact gK _
 |cons a r ih=>
  have:=ih;unfold putL
  split<;>simp<;>omega
variable{dx:Addr}{v:Value}{es:List DictEntry}{m:Nat}
set_option tactic.hygienic true in
theorem Wv{x C:Addr}{name:Str}{tk:Tok}{R:Result->Shared->Prop}(X:g.K.In s.heap)(e:s.heap.get? x=some (instObj C dx))(D:s.heap.get? dx=some (dictOf es m))(fb:uC g.K C name=true)
  (hl:(getL name es).isSome=true) (hz:es.length<=500)
  (hQ:∀h' tk t hsh,h'.get? dx=some (dictOf (putL name hsh (.str name t) v es) (putN name es m))->(∀b o,b≠dx->s.heap.get? b=some o->h'.get? b=some o)->R (.ok (.ret .none)) {s with heap:=h',toks:=tk}):
  codeAny (model g.prog g.w) A (.call (.builtin "object.__setattr__") ⟨[.ref x,.str name tk,v],[]⟩) R s:=by
 simp only[uC,oG,beq_iff_eq]at fb;refine pS (fb) fun f1 f2 f3 f4 f5 f6=>?_;try clear fb;have I:=AK e D;refine osa_open (od:=some (dictOf es m)) X I f5 f6 fun b=>?_;refine aH (any_some f2) fun cd hc uP=>?_;refine aD (aR (aD (aD (wpAny_loadPart e (aD ((looks_clsIn X hc).here ?_))))));rw[uP];refine aR (a:=some dx) (aD (aR (aD ?_)));unfold nsSet;refine aD (aD (wpAny_askSetting (aR (aD (wpAny_mkText (aD (wpAny_loadPart D ?_)))))))
 have c':(!es.toArray.any (·.key.isStr name)&&es.toArray.any (·.refKey))=false:=by
  rw[←Array.any_toList,←Array.any_toList];show(!es.any _&&es.any _)=false;unfold getL at hl
  split at hl
  ·rename_i en he
   rw[List.any_eq_true.mpr ⟨en,List.mem_of_find?_eq_some he,List.find?_some he⟩];rfl
  ·split at hl
   ·exact aP hl
   ·rename_i z;rw[Bool.not_eq_true]at z;rw[z,Bool.and_false]
 dsimp only;rw[aRefKeyMayBeTheName_at,c'];refine wpAny_updatePart D ?_;have D':∀hsh key,(s.heap.update dx (Obj.putName name hsh key v)).get? dx=some (dictOf (putL name hsh key v es) (putN name es m)):=fun hsh key=>by
  have:=Heap.get?_update_self (Obj.putName name hsh key v) D (by rw[putName_dict];rfl);rw[putName_dict]at this;exact this
 refine aD (wpAny_lookBehind (D' _ _) (pastItsLine_dict (by rw[List.size_toArray];exact aI (Sf _ _ _ _ _) (by rw[sizeLine_eq];omega))) ?_);exact aR (hQ _ _ _ _ (D' _ _) fun b o hb eb=>(Heap.get?_update_ne _ _ _ _ hb).trans eb)
theorem Ko{x C:Addr}{name:Str}(X:g.K.In s.heap)(e:s.heap.get? x=some (instObj C dx))(D:s.heap.get? dx=some (dictOf es m))(fb:uC g.K C name=true)
  (hl:(getL name es).isSome=true) (hz:es.length<=500) {Q:Unit->Shared->Prop}
  (hQ:∀h' tk t hsh,h'.get? dx=some (dictOf (putL name hsh (.str name t) v es) (putN name es m))->(∀b o,b≠dx->s.heap.get? b=some o->h'.get? b=some o)->Q () {s with heap:=h',toks:=tk}):
  wpAny (model g.prog g.w) A (setAttr (.ref x) name v) Q aF s:=by
 have fb':=fb;simp only[uC,oG,beq_iff_eq]at fb;refine pS (fb) fun f1 f2 f3 f4 f5 f6=>?_;try clear fb;exact set_plain X (AK e D) f4 (Wv (s:= {s with toks:=s.toks+1}) X e D fb' hl hz hQ)
theorem Ww{fs es as}(y:cV h O fs es as):es.length=fs.length:=by
 induction y with
 |nil=>rfl
 |tree _ _ _ ih|dI _ _ _ _ _ _ _ _ ih=>exact bq (· +1) ih
variable{a:Str}
theorem Sg{fs es as}(x:cV h O fs es as):(getL a es).isSome=true:=by
 refine nE (look fs a) (fun q=>?_) fun mv q=>?_
 ·rw[Bh x q];rfl
 ·obtain⟨v,h1,_⟩:=D8 x q;rw[h1];rfl
variable{x:Str}{t:Tok}{hsh:Int}{en:DictEntry}
theorem Li{tk:Tok}(k:en.key= .str x t)(q:(x==a)=true):putL a hsh (.str a tk) v (en::es)= {en with val:=v}::es:=by
 have hk:en.key.isStr a=true:=by rw[k];exact q
 unfold putL;rw[hk]
 rfl
theorem AO{tk:Tok}(k:en.key= .str x t)(q:(x==a)=false):putL a hsh (.str a tk) v (en::es)=en::putL a hsh (.str a tk) v es:=by
 have hk:en.key.isStr a=false:=by rw[k];exact q
 rw[putL,hk]
 rfl
variable{β:Type}
theorem IS{v w:β}{r:List (Str×β)}(q:(x==a)=true):dJ ((x,v)::r) a w=(x,w)::r:=by
 show cond (x==a) _ _=_;rw[q,ir]
theorem wN{v w:β}{r:List (Str×β)}(q:(x==a)=false):dJ ((x,v)::r) a w=(x,v)::dJ r a w:=by
 show cond (x==a) _ _=_;rw[q,bN]
theorem Wx{t:MV}{tk:Tok}(tt:Tree h O t v){fs es as}(y:cV h O fs es as):∃as',cV h O (dJ fs a t) (putL a hsh (.str a tk) v es) as'/\as'.Sublist as:=by
 induction y with
 |nil=>exact⟨[],.tree rfl tt .nil,j5 _⟩
 | @tree x _ _ _ _ _ as k t0 r ih=>
  refine bT (x==a) (fun q=>?_) fun q=>?_
  ·rw[IS q,Li k q];exact⟨as,.tree k tt r,j5 _⟩
  ·
   refine aH (ih) fun as' h1 h2=>?_;try clear ih;rw[wN q,AO k q];exact⟨as',.tree k t0 h1,h2⟩
 | @dI x _ _ _ _ _ as b _ _ _ k kv ho hc gT hd tr r ih=>
  refine bT (x==a) (fun q=>?_) fun q=>?_
  ·rw[IS q,Li k q];exact⟨as,.tree k tt r,List.sublist_cons_self _ _⟩
  ·
   refine aH (ih) fun as' h1 h2=>?_;try clear ih;rw[wN q,AO k q];exact⟨b::as',.dI k kv ho hc gT hd tr h1,h2.cons_cons _⟩
theorem Sh{l:List MV}{b:Addr}{o:Obj}{vs:Array Value}{tk:Tok}(ho:h.get? b=some o)(hc:o.cls= .type "list")(gT:o.dict=none)(hd:o.data= .seq vs m)(tr:aQ h O l vs.toList)
  {fs es as} (y:cV h O fs es as) (e:look fs a=Option.none):cV h O (dJ fs a (.dI l)) (putL a hsh (.str a tk) (.ref b) es) (as++[b]):=by
 induction y with
 |nil=>exact .dI rfl rfl ho hc gT hd tr .nil
 | @tree x _ _ _ _ _ _ k t0 r ih=>
  refine bT (x==a) (fun q=>?_) fun q=>?_
  ·rw[pF q]at e;exact aq e.symm
  ·rw[pG q]at e;rw[wN q,AO k q];exact .tree k t0 (ih e)
 | @dI x _ _ _ _ _ _ _ _ _ _ k kv qc sL BN uP tr' r ih=>
  refine bT (x==a) (fun q=>?_) fun q=>?_
  ·rw[pF q]at e;exact aq e.symm
  ·rw[pG q]at e;rw[wN q,AO k q];exact .dI k kv qc sL BN uP tr' (ih e)
end
variable{pos:Pos}
theorem uR{t e:Expr}(ha:assignEach [t] env= [(false,assign t env)])(hs:swapsWith e (some t) pos.line env=pure false)(hn:swappedStores [t] e env=pure none):
  exec (.Assign [t] e pos) env=(do standAt pos;let v ←eval e env;assign t env v;pure .next):=by
 have e0:exec (.Assign [t] e pos) env=(do
   standAt pos
   if ←swapsWith e (some t) pos.line env then do
    evalThenUse e env fun v=>assignAll v ((assignEach [t] env).map (·.2))
    pure .next
   else do
    let v ←eval e env
    assignStores env v (←swappedStores [t] e env) ((assignEach [t] env).map (·.2))):=rfl
 rw[e0,hs,hn,ha]
 rfl
theorem PC:∀{ms vs} {m v},aQ h O ms vs->Tree h O m v->∀j,aQ h O (ms.set j m) (vs.set j v):=by
 intro ms
 induction ms with
 |nil=>intro vs m v x _ j;rw[x.iT];exact .nil
 |cons a r ih=>
  intro vs m v x y j;refine cy (x.eT) fun v1 r1 e t q=>?_;rw[e]
  induction j using Nat.casesOn with
  |zero=>exact .cons y q
  |succ j=>exact .cons t (ih q y j)
theorem Kp{l:Addr}{o:Obj}{items:Array Value}{ne:Nat}{k:Int}{t:Tok}{v:Value}{Q:Unit→Shared→Prop}(ho:s.heap.get? l=some o)(hc:o.cls= .type "list")(gT:o.dict=none)(hd:o.data= .seq items ne)
  (h0:0<=k) (Z4:k<2 ^ 63) (hn:k<items.size)
  (hQ:∀h' o' m',h'.get? l=some o'→o'.cls= .type "list" →o'.dict=none→o'.data= .seq (items.setIfInBounds k.toNat v) m'→(∀b o,b≠l→s.heap.get? b=some o→h'.get? b=some o)→Q () {s with heap:=h'}):
  wpAny (model g.prog g.w) A (setItem (.ref l) (.int k t) v) Q aF s:=by
 have hl:s.heap.IsList l items:=⟨o,ho,hc,ne,hd⟩;unfold setItem
 try with_reducible refine wpAny_holding ?_
 first|refine aD (aR ?_)|skip
 refine aD (wpAny_sequenceKey hl.typeIs (by decide) ?_);refine aD (wpAny_callSpecial?_slot (name:=Str.ofString "__setitem__") hl.typeIs slot_list_setitem
  (wpAny_call_entry slot_list_setitem hl.typeIs entry_list_setitem ?_ (args_list_setitem _ _ _)))
 show wpAny _ _ (Builtin.List.listSubscript? (.int k t) >>= _) _ _ s;refine aD (wpAny_listSubscript_int (fitsIndex_of h0 Z4) ?_);clear Z4;refine oE (Int.eq_ofNat_of_zero_le h0) fun j o1=>?_;clear h0;obtain rfl:=o1;have hj:j<items.size:=by omega
 have uG:items[j]?=some items[j]:=Array.getElem?_eq_getElem hj;show wpAny _ _ ((seqItemAt l j >>= fun r=>pure (r.map (j,·))) >>= _) _ _ s;refine aD (aD (wpAny_seqItemAt ho hd (aR ?_)));rw[uG];show wpAny _ _ (setSeqItemAt l j v >>= _) _ _ s;refine oE (Obj.data_mapSeq hd (·.setIfInBounds j v)) fun n' uP=>?_;have gm:=hQ (s.heap.update l (Obj.mapSeq (·.setIfInBounds j v))) _ n' (Heap.get?_update_self _ ho (Obj.isFreed_of_seq uP)) ((Obj.cls_mapSeq ..).trans hc) (by obtain⟨c,dd,dt,sl⟩:=o;induction dt using Data.casesOn<;>exact gT) uP
  (fun b o' hb e=>((Heap.SameBut.update ..).2 b hb).trans e)
 refine aD (wpAny_setSeqItemAt ho hd ?_)
 first
  |exact aD (aR (aR ⟨.none,rfl,aR gm⟩))
  |exact aR ⟨.none,rfl,aR gm⟩
set_option tactic.hygienic true in
theorem Gh(hs:bU d n tb pm self)(R:bz A d n tb){x:Str}{i e:Expr}{p1 p2 pos:Pos}{k:cI->St->Option α}{ah:α}(X:az F (env::envs) aa al st s.heap)
  (h:(cond (fF e||eV e) Option.none<|self.ex e st fun v _ aA=>bW v aA fun t au=>cond (eu x) Option.none (match gu au.fr x with
  |some (.own y)=>self.ex i au fun j _ bX=>(match j,look bX.ow y with
   | .int j,some (.lst l)=>cond (eZ j&&(decide (0<=j)&&decide (j<l.length))) (k .aL {bX with ow:=dJ bX.ow y (.lst (l.set j.toNat t))}) Option.none
   |_,_=>Option.none)
  |_=>Option.none))=some ah):aE (model g.prog g.w) A (exec (.Assign [.Subscript (.Name x p1) i p2] e pos) env) (gQ pm F (env::envs) aa al s k ah) aF s:=by
 refine bT ((fF e||eV e)) (fun q=>?_) fun q=>?_
 ·rw[q]at h;exact aq h
 ·
  rw[q,bN]at h;refine oA (gS.mp q) fun q1 q2=>?_;rw[uR rfl (uQ q1 q2) (by induction e using Expr.casesOn<;>exact @Eq.refl _ (pure none))];refine aj (aX (aj (aN (hs.ex h R X) ?_)));rintro v s1 ⟨m,fr,aA,bY,h,X1,ra,bu,bA⟩;refine gX (gq X1 ra.jE h) fun t au aV h9 X2 tt bS=>?_;try clear h;revert h9;intro h;refine bT (eu x) (fun od=>?_) fun od=>?_
  ·rw[od]at h;exact aq h
  ·
   rw[od,bN]at h;refine aH (Ye h) fun y hy h9=>?_;clear h;revert h9;intro h
   ·
    obtain⟨ov,yi,go⟩:=lJ X2 hy od;refine aj ?_;rw[assign_Subscript];refine aj (aW (aT (wpAny_Name (go _ ?_) (jI od).1)));refine aj (aW (aN (hs.ex h R X2) ?_));rintro iv s3 ⟨j,fr3,bX,qE,h,X3,rj,gr,jm⟩
    try dsimp only at h
    refine cy (VM h) fun j9 l oj hl h9=>?_;clear h;obtain rfl:=oj;revert j9;intro j h9 rj
    ·
     refine oA (aG h9) fun z h=>?_;clear h9;refine oA (bk.mp z) fun z1 z2=>?_;refine oA (bk.mp z2) fun z3 z4=>?_;have z3:=bx z3;have z4:=bx z4;simp only[eZ,oG,decide_eq_true_eq]at z1;refine oE (cN.int (cN.tree (rj.jE rfl))) fun tj o1=>?_;clear rj;obtain rfl:=o1;have hov3:cS s3.heap (Ob F aa qE) qE (.own y) ov:=yi.aU (Sp.aU (F:=F) gr) gr.heads;refine cy (uO X3 hl hov3) fun a r ha o3 oo=>?_;obtain rfl:=o3;cases oo with
     | @lst _ _ o vs mm ho hc gT hd tr=>
      have l1:=tr.length;simp only[jk]at l1;refine aj (aX (aj (aW (aT (Kp ho hc gT hd z3 (by omega) (by omega) fun h' o' m' qc sL BN uP hk=>?_)))));have tt3:=(gr.sq (pm:=[])).tree tt;refine oA (az.wK (x:=y) (as:=[a]) (as':=[a]) (c':= .lst (l.set j.toNat t)) (h':=h') X3 ha (fun b o e q=>hk b o (fun z=>q (z▸ .head _)) e) (fun b q=>q) (by simp) (fun b q=>by rcases bQ.mp q with rfl;exact⟨_,qc⟩) rfl
       (fun S=> .lst qc sL BN uP (by rw[Array.toList_setIfInBounds];exact(PC tr tt3 _).aU S))) fun X' CD=>?_
      refine sD (aK ⟨.aL,_,_,h,X',.aL,(((bu.trans bS).trans gr).trans CD).sq,(bA.trans jm).trans ⟨rfl,rfl,rfl⟩⟩)
variable{sn a:Str}
set_option tactic.hygienic true in
theorem IT{k:St->Option α}(e:BB sn a m st k=some ah):eu sn=false/\cJ a eG=true/\∃x c fs,gu st.fr sn=some (.own x)/\look st.ow x=some (.obj c fs)/\fs.length<=100/\k {st with ow:=dJ st.ow x (.obj c (dJ fs a m))}=some ah:=by
 unfold BB at e;refine bT ((eu sn|| !cJ a eG)) (fun q=>?_) fun q=>?_
 ·rw[q]at e;exact aq e
 ·
  rw[q,bN]at e;refine oA (gS.mp q) fun q1 q2=>?_;refine⟨q1,by cases z:cJ a eG<;>simp[z]at q2 ⊢,?_⟩;refine aH (Ye e) fun x hx e9=>?_;clear e
  ·
   refine cF (Rk e9) fun c fs hc e=>?_;clear e9
   ·
    refine oA (aG e) fun z e9=>?_;try clear e;revert e9;intro e;exact⟨x,c,fs,hx,hc,bx z,e⟩
theorem IU(G:fO g consts){x c:Str}{fs:List (Str×MV)}{v ov:Value}(X:az (N++F) (env::envs) aa al st s.heap)(hx:look st.ow x=some (.obj c fs))(yi:cS s.heap (Ob (N++F) aa al) al (.own x) ov)(ha:cJ a eG=true)(ln:fs.length<=100)
  (nl:∀{es as},cV s.heap (Ob (N++F) aa al) fs es as->∀hsh tk,∃as',cV s.heap (Ob (N++F) aa al) (dJ fs a m) (putL a hsh (.str a tk) v es) as'/\(∀b,b∈as'->b∈as∨b∈N)/\(as.Nodup->(∀b,b∈as->b∉N)->as'.Nodup)) (hNl:∀b,b∈N->∃o,s.heap.get? b=some o)
  {Q:Unit->Shared->Prop} (hQ:∀h' tk al',az F (env::envs) aa al' {st with ow:=dJ st.ow x (.obj c (dJ fs a m))} h'->(∀b o,s.heap.get? b=some o->b∉flat al->h'.get? b=some o)->(∀b,b∈flat al'->b∈flat al∨b∈N)->
   (∀k jF,look al' k=some jF->∃qF,look al k=some qF/\qF.head?=jF.head?)->Q () {s with heap:=h',toks:=tk}):
  wpAny (model g.prog g.w) A (setAttr ov a v) Q aF s:=by
 refine cy (uO X hx yi) fun a0 r yj o3 oo=>?_;obtain rfl:=o3;cases oo with
 | @obj _ _ _ C dx es mm as hc ho hd hf=>
  refine dh (cg.mp X.nd) fun n1 n2 n3=>?_;refine dh (cg.mp n2) fun n4 n5 n6=>?_;have nd:=lN n5 yj;refine oA (gh.mp nd) fun d1 d2=>?_;refine oA (gh.mp d2) fun d3 d4=>?_;refine Ko (AJ G X) ho hd (G.fld c C a hc ha) (Sg hf) (by rw[Ww hf];lia) fun h' tk t hsh hdx hk=>?_;refine gO (nl hf hsh t) fun as' hf' lg UG=>?_;have dN:∀b,b∈as->b∉N:=fun b hb z=>n3 b (cP _ z) b (cO _ (cZ yj b (.tail _ (.tail _ hb)))) rfl;have nN:∀b,b∈N->b≠a0/\b≠dx:=fun b z=>⟨fun e=>n3 b (cP _ z) b (cO _ (cZ yj b (e▸ .head _))) rfl,fun e=>n3 b (cP _ z) b (cO _ (cZ yj b (e▸ .tail _ (.head _)))) rfl⟩;have UQ:a0≠dx:=fun e=>d1 (e▸ .head _);have M7:∀b,b∈as'->b≠dx/\b≠a0:=fun b hb=>by
   rcases lg b hb with z|z
   ·exact⟨fun e=>d3 (e▸z),fun e=>d1 (e▸ .tail _ z)⟩
   ·exact⟨(nN b z).2,(nN b z).1⟩
  have qc:h'.get? a0=some (instObj C dx):=hk a0 _ UQ ho;refine uq (az.Pn (N:=N) (x:=x) (as:=a0::dx::as) (as':=a0::dx::as') (c':= .obj c (dJ fs a m)) (h':=h') X yj (fun b o e q=>hk b o (fun z=>q (z▸ .tail _ (.head _))) e)
   (fun b q=>by
    rcases cC.mp q with rfl|q
    ·exact .inl (.head _)
    ·rcases cC.mp q with rfl|q
     ·exact .inl (.tail _ (.head _))
     ·exact(lg b q).imp (fun z=> .tail _ (.tail _ z)) id)
   (gh.mpr ⟨fun q=>by
     rcases cC.mp q with e|q
     ·exact UQ e
     ·exact(M7 a0 q).2 rfl,gh.mpr ⟨fun q=>(M7 dx q).1 rfl,UG d4 dN⟩⟩)
   (fun b q=>by
    rcases cC.mp q with rfl|q
    ·exact⟨_,qc⟩
    ·rcases cC.mp q with rfl|q
     ·exact⟨_,hdx⟩
     ·have:∃o,s.heap.get? b=some o:=by
       rcases lg b q with z|z
       ·exact X.live b (aO.mpr (.inr (.inr (cZ yj b (.tail _ (.tail _ z))))))
       ·exact hNl b z
      refine oE (this) fun o e=>?_;try clear this;exact⟨o,hk b o (M7 b q).1 e⟩) rfl
   (fun S=> .obj hc qc hdx (hf'.aU S fun b o hb e=>hk b o (M7 b hb).1 e))) fun X' k1 k2 k3=>?_
  exact hQ h' tk _ X' k1 k2 k3
set_option tactic.hygienic true in
theorem El(G:fO g consts)(hs:bU d n tb pm self)(R:bz A d n tb){e:Expr}{p1 p2 pos:Pos}{k:cI->St->Option α}(X:az F (env::envs) aa al st s.heap)
  (h:(cond (fF e||eV e) Option.none<|self.ex e st fun v fr aA=>cond (a==("wrong":Str))
   (match v with
   | .lst l=>cond (fr&&DV aA sn a) (BB sn a (.dI l) aA fun au=>k .aL au) Option.none
   |_=>Option.none)
   (bW v aA fun t au=>BB sn a t au fun bX=>k .aL bX))=some ah):aE (model g.prog g.w) A (exec (.Assign [.Attribute (.Name sn p1) a p2] e pos) env) (gQ pm F (env::envs) aa al s k ah) aF s:=by
 refine bT ((fF e||eV e)) (fun q=>?_) fun q=>?_
 ·rw[q]at h;exact aq h
 ·
  rw[q,bN]at h;refine oA (gS.mp q) fun q1 q2=>?_;rw[uR rfl (uQ q1 q2) (by induction e using Expr.casesOn<;>exact @Eq.refl _ (pure none))];refine aj (aX (aj (aN (hs.ex h R X) ?_)));rintro v s1 ⟨m,fr,aA,bY,h,X1,ra,bu,bA⟩;have ea:assign (.Attribute (.Name sn p1) a p2) env v=(do
    let ov ←holding [v] (eval (.Name sn p1) env)
    standAt p2.atName
    holding [v,ov] (setAttr ov a v)
    release [v,ov] []):=rfl
  refine aj ?_;rw[ea];refine bE (a==("wrong":Str)) (fun w=>?_) fun w=>?_
  ·
   have h:(bW m aA fun t au=>BB sn a t au fun bX=>k .aL bX)=some ah:=by rw[w]at h;exact h
   refine gX (gq X1 ra.jE h) fun t au aV h9 X2 tt bS=>?_;try clear h;revert h9;intro h;obtain⟨od,ha,x,c,fs,hx,hc,ln,h⟩:=IT h;obtain⟨ov,yi,go⟩:=lJ X2 hx od;refine aj (aW (aT (wpAny_Name (go _ ?_) (jI od).1)));refine aj (aX (aj (aW (aT (IU (N:=[]) (m:=t) G X2 hc yi ha ln ?_ (fun _ z=>nomatch z) fun h' tk al' X' k1 k2 k3=>?_)))))
   ·intro es as hf hsh tk
    refine aH (Wx (hsh:=hsh) (tk:=tk) (a:=a) tt hf) fun as' h1 h2=>?_;exact⟨as',h1,fun b hb=> .inl (h2.subset hb),fun nd _=>nd.sublist h2⟩
   ·have gr:Sp aa aV s1.heap al' h':=⟨fun b o e _ w=>k1 b o e w,fun b z=> .inl ((k2 b z).resolve_right (fun zz=>nomatch zz)),k3⟩
    exact sD (aK ⟨.aL,_,al',h,X',.aL,((bu.trans bS).trans gr).sq,bA.trans ⟨rfl,rfl,rfl⟩⟩)
  ·
   try dsimp only at h
   rw[w,ir]at h;refine aH (Rm h) fun l o1 h9=>?_;clear h;obtain rfl:=o1;revert h9;intro h
   ·
    refine oA (aG h) fun z h9=>?_;try clear h;revert h9;intro h;refine oA (bk.mp z) fun z1 z2=>?_;obtain⟨od,ha,x,c,fs,hx,hc,ln,h9⟩:=IT h
    have nf:look fs a=Option.none:=by
     unfold DV at z2;rw[hx]at z2;dsimp only at z2;rw[hc]at z2;dsimp only at z2;cases zz:look fs a with
     |none=>rfl
     |some _=>rw[zz]at z2;exact aP z2
    refine aH (ra) fun N ri hN=>?_;try clear ra
    cases ri with
    |tree t qq=>exact Bool.noConfusion (qq z1)
    | @fresh _ bs b Xf oo=>
     cases oo with
     | @lst _ _ o vs mm lo lc ldn ld ltr=>
      have Z5:∃ov,cS s1.heap (Ob ([b]++F) aa bY) bY (.own x) ov/\∀Q:Value->Shared->Prop,Q ov s1->wpAny (model g.prog g.w) A (loadName env sn) Q aF s1:=by
       refine aH (lJ (M:=model g.prog g.w) (A:=A) (E:=aF) Xf hx od) fun ov yi go=>?_;exact⟨ov,yi,go⟩
      refine aH (Z5) fun ov yi go=>?_;try clear Z5;refine aj (aW (aT (wpAny_Name (go _ ?_) (jI od).1)));refine aj (aX (aj (aW (aT (IU (N:=[b]) (m:= .dI l) G Xf hc yi ha ln ?_ (fun b' z=>by rcases bQ.mp z with rfl;exact⟨_,lo⟩) fun h' tk al' X' k1 k2 k3=>?_)))))
      ·intro es as hf hsh tk
       exact⟨as++[b],Sh lo lc ldn ld ltr hf nf,fun b' hb=>by
        rcases bR.mp hb with z|z
        ·exact .inl z
        ·exact .inr z,fun nd dd=>cg.mpr ⟨nd,by simp,fun a1 q1 b1 q2 e=>dd a1 q1 (e▸q2)⟩⟩
      ·have Lh:Sq pm aa al s.heap al' h':=by
        refine⟨fun b' o' e' p' q'=>?_,fun b' z=>?_,fun k' jF _ e'=>?_⟩
        ·refine k1 b' o' (bu.keep b' o' e' p' q') fun zz=>?_
         rcases bu.sub b' zz with y|y|y
         ·exact q' y
         ·exact p' y
         ·rw[y]at e';exact aq e'
        ·rcases k2 b' z with z|z
         ·exact bu.sub b' z
         ·exact hN b' z
        ·refine aH (k3 k' jF e') fun qF i1 i2=>?_
         refine aH (bu.heads k' qF i1) fun UI i3 i4=>?_;exact⟨UI,i3,i4.trans i2⟩
       exact sD (aK ⟨.aL,_,al',h9,X',.aL,Lh,bA.trans ⟨rfl,rfl,rfl⟩⟩)
section
inductive qg(F:List Addr)(envs:List Env)(aa:List (List Addr))(al:Al)(s:Shared)(k:St->Option α)(ah:α)(u:Unit)(s':Shared):Prop
 |mk (aY:_) (h0:k aY=some ah) (h1:az F envs aa al aY s'.heap) (h2:Sp aa al s.heap al s'.heap) (h3:dQ s s'):qg F envs aa al s k ah u s'
variable{k:St->Option α}{ah:α}
theorem qg.back{u:Unit}(sp:Sp aa al s.heap al s'.heap)(sm:dQ s s')(w:qg F envs aa al s' k ah u dU):qg F envs aa al s k ah u dU:=by
 obtain⟨aY,e,X,CD,CE⟩:=w;exact⟨aY,e,X,sp.trans CD,sm.trans CE⟩
set_option tactic.hygienic true in
theorem Gi{x:Str}{t:MV}{v:Value}(X:az F (env::envs) aa al st s.heap)(tt:Tree s.heap (Ob F aa al) t v)(e:gZ x t st k=some ah):
  wpAny (model g.prog g.w) A (bindName env x v) (qg F (env::envs) aa al s k ah) aF s:=by
 unfold gZ at e;refine aH (GU e) fun au hb e9=>?_;clear e;revert e9;intro e
 ·
  have nt:∀k,t≠ .own k:=fun k ee=>by rw[ee]at tt;exact tt.no rfl
  have tv:cS s.heap (Ob F aa al) al t v:=by induction t using MV.casesOn<;>first|exact tt|exact absurd rfl (nt _)
  exact wpAny_bindName (AN X hb tv (fun k ee=>absurd ee (nt k)) fun h' tk X2 bS _=>⟨au,e,X2,bS,⟨rfl,rfl,rfl⟩⟩)
theorem vL{e:Expr}{r:List Expr}(q:bC (e::r)=false):assignEach (e::r) env=(false,assign e env)::assignEach r env/\bC r=false:=by
 obtain⟨-,q2⟩:=fz (env:=env) q;refine⟨?_,q2⟩;unfold bC at q;obtain⟨q1,-⟩:=gS.mp q
 induction e using Expr.casesOn<;>first|rfl|exact aP q1.symm
theorem oZ:∀{es:List Expr},bC es=false->(assignEach es env).length=es.length/\(assignEach es env).findIdx? (·.1)=none
 | [],_=>⟨rfl,rfl⟩
 |e::r,q=>by
  obtain⟨a,b⟩:=vL (env:=env) q;obtain⟨c,dd⟩:=oZ b;rw[a];exact⟨bq (· +1) c,by simp[List.findIdx?_cons,dd]⟩
theorem Si:∀{es:List Expr} {l:List MV},xA es l=true->es.length=l.length:=by
 intro es
 induction es with
 |nil=>
  intro l e
  induction l using List.casesOn with
  |nil=>rfl
  |cons _ _=>exact aP e
 |cons x r ih=>
  intro l e
  induction l using List.casesOn with
  |nil=>exact aP e
  |cons y q=>exact bq (· +1) (ih (l:=q) e)
theorem Expr.Z6{P:Expr->Prop}(h:∀e,(∀es x p,e= .Tuple es x p->∀y,y∈es->P y)->P e)(e:Expr):P e:=
 (measure (α:=Expr) sizeOf).wf.induction e fun e ih=>h e fun es x p q y hy=>ih y (by
  rw[q];show sizeOf y<sizeOf (Expr.Tuple es x p);have:=List.sizeOf_lt_of_mem hy;rw[Expr.Tuple.sizeOf_spec]
  lia)
def UR(F:List Addr)(env:Env)(envs:List Env)(aa:List (List Addr))(al:Al)(A:Around)(ah:α)(iy:Expr):Prop:=
 ∀{t:MV} {v:Value} {st:St} {s:Shared} {k:St->Option α},az F (env::envs) aa al st s.heap->Tree s.heap (Ob F aa al) t v->vq iy t st k=some ah->
  wpAny (model g.prog g.w) A (assign iy env v) (qg F (env::envs) aa al s k ah) aF s
theorem M8:∀(es:List Expr),(∀y,y∈es->UR F env envs aa al A ah y)->∀{l:List MV} {vs:List Value} {st:St} {s:Shared} {k:St->Option α},bC es=false->az F (env::envs) aa al st s.heap->aQ s.heap (Ob F aa al) l vs->yW es l st k=some ah->
  wpAny (model g.prog g.w) A (assignInOrder ((assignEach es env).map (·.2)) vs) (qg F (env::envs) aa al s k ah) aF s:=by
 intro es
 induction es with
 |nil=>
  intro H l vs st s k q X tr e
  induction l using List.casesOn with
  |nil=>rw[tr.iT];exact aR ⟨st,e,X,.refl,.refl⟩
  |cons _ _=>exact aq e
 |cons x r ih=>
  intro H l vs st s k q X tr e
  induction l using List.casesOn with
  |nil=>exact aq e
  |cons m ms=>
   refine cy (tr.eT) fun v ws ev tt tr1=>?_;rw[ev];have e1:(vq x m st fun aA=>yW r ms aA k)=some ah:=e;refine oA (vL (env:=env) q) fun a b=>?_;rw[a];show wpAny _ _ (do holding ws (assign x env v);assignInOrder ((assignEach r env).map (·.2)) ws) _ _ _;refine aD (wpAny_holding (CF (H x (.head _) X tt e1) ?_));intro u s1 w1
   induction w1 using qg.casesOn with|mk aA e X1 bu bA=>?_
   exact CF (ih (fun y hy=>H y (.tail _ hy)) b X1 ((bu.sq (pm:=[])).trees tr1) e) fun u s2 w=>w.back bu bA
theorem zy(R:bz A d n tb)(iy:Expr):UR F env envs aa al A ah iy:=by
 induction iy using Expr.Z6 with|h iy H=>?_
 intro t v st s k X tt e
 induction iy using Expr.casesOn with
 |Name x p=>
  refine(?_:wpAny _ _ (do standAt p;bindName env x v) _ _ _);exact aD (wpAny_standAt (Gi X tt e))
 |Tuple es x1 p=>
  have e0:∃l,t= .tup l/\cond (bC es|| !xA es l) Option.none (yW es l st k)=some ah:=by
   induction t using MV.casesOn<;>first|exact aq e|exact⟨_,rfl,e⟩
  refine aH e0 fun l o1 e1=>?_;clear e0;refine bT ((bC es|| !xA es l)) (fun sq=>?_) fun sq=>?_
  ·rw[sq]at e1;exact aq e1
  ·
   rw[sq,bN]at e1;refine oA (gS.mp sq) fun q1 q2=>?_;have q2:xA es l=true:=by cases z:xA es l<;>simp[z]at q2 ⊢
   have le:=Si q2;rw[o1]at tt;refine jX (tt.D0) fun a o vs m ev ho hc hd na tr=>?_;rw[ev];have l1:=tr.length;simp only[jk]at l1;refine oA (oZ (env:=env) q1) fun f1 f2=>?_;refine wpAny_assign_Tuple R.handled ⟨_,ho,hc,_,hd⟩ (by lia) f2 fun h' hx=>?_;have hk:∀b o,s.heap.get? b=some o->h'.get? b=some o:=fun b o eb=>hx b o (Nat.ne_of_lt (gD eb)) eb;refine CF (M8 es (H es x1 p rfl) q1 (s:= {s with heap:=h'}) (X.ext hk) (tr.ext hk) e1) ?_;exact fun u s2 w=>w.back (s:=s) (s':= {s with heap:=h'}) (Sp.ext hk) ⟨rfl,rfl,rfl⟩
 |_=>exact aq e
end
section
inductive ig(h:Heap)(O:List Addr):List Addr->Addr->List MV->Prop
 |lst {I a i o vs m items:_}:h.IsListIter I a i→h.get? a=some o→o.cls= .type "list" →o.data= .seq vs m→a∉O→aQ h O items (vs.toList.drop i)→ig h O [I] I items
 |tup {I a i o vs m items:_}:h.IsTupleIter I a i→h.get? a=some o→o.cls= .type "tuple" →o.data= .seq vs m→a∉O→aQ h O items (vs.toList.drop i)→ig h O [I] I items
 |FF {I:_} {x:Int} {m:Nat}:IsRangeIter h I x (m:Int) 1->ig h O [I] I (cH m x)
 |dX {I dd i ep:_} {kvs:List (Int×Value)}:h.IsKeyIter I dd i kvs.length ep->h.DictAt (intKind g.prog g.w) dd kvs ep->dd∉O->ig h O [I] I ((kvs.drop i).map fun p=> .int p.1)
 |jd {I dd i ep:_} {kvs:List (Str×Value)}:h.IsKeyIter I dd i kvs.length ep->h.DictAt (strKind g.prog g.w) dd kvs ep->dd∉O->ig h O [I] I ((kvs.drop i).map fun p=> .str p.1)
def iN(N:List Addr)(h h':Heap):Prop:=∀b o,h.get? b=some o->b∉N->h'.get? b=some o
theorem iN.one{I:Addr}(x:∀b o,b≠I->h.get? b=some o->h'.get? b=some o):iN [I] h h':=fun b o e q=>x b o (fun z=>q (bQ.mpr z)) e
theorem iN.aU(k:iN N h h')(q:∀b,b∈N->b∈O):cM h O h' O N:=⟨fun b o e z=>k b o e z,fun b o e z=>z,q⟩
theorem ig.aU(x:ig h O N I items)(S:cM h O h' O' W)(k:∀b o,b∈N->h.get? b=some o->h'.get? b=some o):ig h' O' N I items:=by
 induction x using ig.casesOn with
 |lst a b c dd e f=>
  refine aH (a) fun o ho r=>?_;try clear a;refine oA (S.get b e) fun p q=>?_;exact .lst ⟨o,k _ o (bQ.mpr rfl) ho,r⟩ p c dd q (f.aU S)
 |tup a b c dd e f=>
  refine aH (a) fun o ho r=>?_;try clear a;refine oA (S.get b e) fun p q=>?_;exact .tup ⟨o,k _ o (bQ.mpr rfl) ho,r⟩ p c dd q (f.aU S)
 |FF a=>exact .FF (k _ _ (bQ.mpr rfl) a)
 |dX a b c=>
  refine aH (a) fun o ho r=>?_;try clear a;refine cF (b) fun od es kB rd=>?_;try clear b;refine oA (S.get kB c) fun p q=>?_;exact .dX ⟨o,k _ o (bQ.mpr rfl) ho,r⟩ ⟨od,es,p,rd⟩ q
 |jd a b c=>
  refine aH (a) fun o ho r=>?_;try clear a;refine cF (b) fun od es kB rd=>?_;try clear b;refine oA (S.get kB c) fun p q=>?_;exact .jd ⟨o,k _ o (bQ.mpr rfl) ho,r⟩ ⟨od,es,p,rd⟩ q
def Turn(s:Shared)(O N:List Addr)(I:Addr):List MV->Option Value->Shared->Prop
 | [],r,s'=>r=none/\iN N s.heap s'.heap/\dQ s s'
 |x::xs,r,s'=>(∃v,r=some v/\Tree s'.heap O x v)/\ig s'.heap O N I xs/\iN N s.heap s'.heap/\dQ s s'
variable{v:Value}
theorem zA{vs:List Value}:∀{l:List Value} {i:Nat},l.drop i=v::vs->l[i]?=some v/\l.drop (i+1)=vs:=by
 intro x1
 induction x1 with
 |nil=>
  intro i e;simp at e
 |cons x l dR=>
  intro x2
  induction x2 using Nat.casesOn with
  |zero=>
   intro e;simp at e;refine oA (e) fun o0 o1=>?_;try clear e;obtain rfl:=o0;obtain rfl:=o1;exact⟨rfl,rfl⟩
  |succ i=>
   intro e;have:=dR (i:=i) (by simpa using e)
   simpa using this
theorem BP{l:List Value}{i:Nat}(e:l.drop i= []):l[i]?=none:=by
 rw[List.getElem?_eq_none_iff];exact List.drop_eq_nil_iff.mp e
theorem FG(R:bz A d n tb){items:List MV}{I:Addr}(x:ig s.heap O N I items)(q:∀b,b∈N->b∈O):
  wpAny (model g.prog g.w) A (pyNext (.ref I)) (Turn s O N I items) aF s:=by
 cases x with
 | @lst _ a i o vs m _ hI ho hc hd na tr=>
  have hl:s.heap.IsList a vs:=⟨o,ho,hc,_,hd⟩;generalize hw:vs.toList.drop i=ws at tr;cases tr with
  |nil=>exact wpAny_pyNext_list_end R.handled hI hl (by have:=BP hw;simpa using this) fun h' k=>⟨rfl,iN.one k,⟨rfl,rfl,rfl⟩⟩
  | @cons mx v ms ws t tr=>
   refine oA (zA hw) fun z1 z2=>?_;refine wpAny_pyNext_list_item hI hl (x:=v) (by simpa using z1) fun h' CX k=>?_;have B:iN [I] s.heap h':=iN.one k.extBut;have S:=B.aU q;refine oA (S.get ho na) fun qc Z7=>?_;exact⟨⟨v,rfl,t.aU S⟩,.lst CX qc hc hd Z7 (z2▸tr.aU S),B,⟨rfl,rfl,rfl⟩⟩
 | @tup _ a i o vs m _ hI ho hc hd na tr=>
  have hl:s.heap.IsTuple a vs:=⟨o,ho,hc,_,hd⟩;generalize hw:vs.toList.drop i=ws at tr;cases tr with
  |nil=>exact wpAny_pyNext_tuple_end R.handled hI hl (by have:=BP hw;simpa using this) fun h' k=>⟨rfl,iN.one k,⟨rfl,rfl,rfl⟩⟩
  | @cons mx v ms ws t tr=>
   refine oA (zA hw) fun z1 z2=>?_;refine wpAny_pyNext_tuple_item hI hl (x:=v) (by simpa using z1) fun h' CX k=>?_;have B:iN [I] s.heap h':=iN.one k.extBut;have S:=B.aU q;refine oA (S.get ho na) fun qc Z7=>?_;exact⟨⟨v,rfl,t.aU S⟩,.tup CX qc hc hd Z7 (z2▸tr.aU S),B,⟨rfl,rfl,rfl⟩⟩
 | @FF _ x m hI=>
  cases m with
  |zero=>exact wpAny_pyNext_range_end R.handled hI (by simp) fun h' k=>⟨rfl,iN.one k,⟨rfl,rfl,rfl⟩⟩
  |succ m=>
   refine wpAny_pyNext_range_item hI (by exact Int.ofNat_succ_pos m) fun h' CX k=>?_;refine⟨⟨_,rfl,.int _ _⟩,.FF ?_,iN.one k.extBut,⟨rfl,rfl,rfl⟩⟩;have:((m+1:Nat):Int) - 1=(m:Int):=by exact Int.sub_eq_iff_eq_add.mpr rfl
   rw[←this];exact CX
 | @dX _ dd i ep kvs hI hD na=>
  cases hx:kvs.drop i with
  |nil=>
   have uG:kvs[i]?=none:=List.getElem?_eq_none_iff.mpr (List.drop_eq_nil_iff.mp hx);exact wpAny_pyNext_dict_end R.handled hI hD uG fun h' k=>⟨rfl,iN.one k,⟨rfl,rfl,rfl⟩⟩
  |cons p ps=>
   have IM:kvs[i]?=some p:=by have:=bq List.head? hx;simpa [List.head?_drop]using this
   have yh:kvs.drop (i+1)=ps:=by have:=bq List.tail hx;simpa [List.tail_drop]using this
   refine wpAny_pyNext_dict_item hI hD IM fun key h' hk CX k=>?_;have B:iN [I] s.heap h':=iN.one k.extBut;have S:=B.aU q;refine cF (hD) fun od es kB rd=>?_;try clear hD;refine oA (S.get kB na) fun p1 p2=>?_;refine⟨⟨key,rfl,?_⟩,yh▸ .dX CX ⟨od,es,p1,rd⟩ p2,B,⟨rfl,rfl,rfl⟩⟩;refine oE (Value.isInt_shape hk) fun t o1=>?_;clear hk;obtain rfl:=o1;exact .int _ _
 | @jd _ dd i ep kvs hI hD na=>
  cases hx:kvs.drop i with
  |nil=>
   have uG:kvs[i]?=none:=List.getElem?_eq_none_iff.mpr (List.drop_eq_nil_iff.mp hx);exact wpAny_pyNext_dict_end R.handled hI hD uG fun h' k=>⟨rfl,iN.one k,⟨rfl,rfl,rfl⟩⟩
  |cons p ps=>
   have IM:kvs[i]?=some p:=by have:=bq List.head? hx;simpa [List.head?_drop]using this
   have yh:kvs.drop (i+1)=ps:=by have:=bq List.tail hx;simpa [List.tail_drop]using this
   refine wpAny_pyNext_dict_item hI hD IM fun key h' hk CX k=>?_;have B:iN [I] s.heap h':=iN.one k.extBut;have S:=B.aU q;refine cF (hD) fun od es kB rd=>?_;try clear hD;refine oA (S.get kB na) fun p1 p2=>?_;refine⟨⟨key,rfl,?_⟩,yh▸ .jd CX ⟨od,es,p1,rd⟩ p2,B,⟨rfl,rfl,rfl⟩⟩;refine oE (Value.isStrOf_shape hk) fun t o1=>?_;clear hk;obtain rfl:=o1;exact .str _ _
variable{iy:Expr}{Q:Unit->Shared->Prop}
set_option tactic.hygienic true in
theorem oq {I : Addr}  {o : Obj} {c : String}  (ho : s.heap.get? I = some o) (hc : o.cls = .type c) (hn : (["enumerate", "zip", "dict_itemiterator", "dict_reverseitemiterator", "odict_iterator", "itertools.zip_longest", "itertools.pairwise"].contains c) = false)
    (hQ : Q () s) : wpAny (model g.prog g.w) A (letOwnedTupleGo iy (.ref I) v) Q aF s := by
  unfold letOwnedTupleGo
  induction iy using Expr.casesOn <;> first
    | exact aR hQ
    | (induction v using Value.casesOn <;> first
        | exact aR hQ
        | (refine aD (wpAny_load ho ?_)
           rw [hc]
           split
           · rename_i nn vs' h1 h2
             (first | exact aq h1 | exact aP h1 | cases h1)
             rw [hn, Bool.false_and, bG rX]
             exact aR hQ
           · exact aR hQ))
theorem Lj(x:ig s.heap O N I items)(hQ:Q () s):wpAny (model g.prog g.w) A (letOwnedTupleGo iy (.ref I) v) Q aF s:=by
 induction x using ig.casesOn with
 |lst a=>obtain⟨o,ho,hc,-⟩:=a;exact oq ho hc (by decide) hQ
 |tup a=>obtain⟨o,ho,hc,-⟩:=a;exact oq ho hc (by decide) hQ
 |FF a=>exact oq a rfl (by decide) hQ
 |dX a=>obtain⟨o,ho,hc,-⟩:=a;exact oq ho hc (by decide) hQ
 |jd a=>obtain⟨o,ho,hc,-⟩:=a;exact oq ho hc (by decide) hQ
end
section
variable{prog:Program}{w:World}{A:Around}{s:Shared}
variable{R:Result->Shared->Prop}
theorem Kq{stmts:List Stmt}{env:Env}
  (h:aE (model prog w) A (execs stmts env) (fun f s'=>R (.ok f) s') aF s):dF (model prog w) A (.block stmts env) R s:=by
 refine e7 ?_;show aE _ _ (do return Fin.done (←(execs stmts env).onRaise (fun x=>do noteFrame x env;theTreesLotGoes x))) _ _ s;refine aj (jZ (kT (E:=aF) h (fun f s' h'=>aK h') fun _ _ z=>z.elim))
theorem Gj{iy it body lW env}(I:Nat->Shared->Prop)
  (turn:∀n s,I n s->aE (model prog w) A (pyNext it) (fun r s₁=>match r with
   |none=>aE (model prog w) A (execs lW env) (fun f s₃=>R (.ok f) s₃) aF s₁
   |some v=>aE (model prog w) A (letOwnedTupleGo iy it v) (fun _ s₁'=>aE (model prog w) A (assign iy env v) (fun _ s₂=>aE (model prog w) A (execs body env) (fun f s₃=>match f with
     | .next| .cont=>∃m,m<n/\I m s₃
     | .brk=>R (.ok .next) s₃
     | .ret v=>R (.ok (.ret v)) s₃) aF s₂) aF s₁') aF s₁) aF s)
  (n:Nat) (h:I n s):dF (model prog w) A (.forLoop iy it body lW env) R s:=by
 have step:∀n,(∀m,m<n->∀s,I m s->dF (model prog w) A (.forLoop iy it body lW env) R s)->∀s,I n s->dF (model prog w) A (.forLoop iy it body lW env) R s:=by
  intro n ih s hI;refine e7 ?_;show aE _ _ ((forTurn iy it body lW env).onRaise (fun x=>do noteFrame x env;theTreesLotGoes x)) _ _ s;refine jZ (kT (E:=aF) ?_ (fun _ _ z=>z) fun _ _ z=>z.elim);simp only[forTurn];refine aj (aX (aj (jZ (kT (turn n s hI) (fun r s₁ h₁=>?_) fun _ _ z=>z.elim))))
  induction r using Option.casesOn with
  |none=>exact aK ⟨rfl,Kq h₁⟩
  |some v=>
   refine aj (aN h₁ fun _ s₁' h₁=>aj (aN h₁ fun _ s₂ h₂=>aj (aN h₂ fun f s₃ h₃=>?_)))
   induction f using Flow.casesOn with
   |next=>obtain⟨m,q,z⟩:=h₃;exact aK ⟨rfl,ih m q s₃ z⟩
   |cont=>obtain⟨m,q,z⟩:=h₃;exact aK ⟨rfl,ih m q s₃ z⟩
   |brk=>exact aK h₃
   |ret v=>exact aK h₃
 induction n using Nat.strongRecOn generalizing s with
 |ind n ih=>exact step n (fun m q s z=>ih m q z) s h
end
section
variable{F F' N:List Addr}{envs:List Env}{env E:Env}{aa:List (List Addr)}{al al' dG bZ aV bM:Al}{st aY au:St}{h h' gB h₁ h2 h0:Heap}{O O' O2 W:List Addr}{s s₁ s' dU:Shared}{A:Around}{d n:Nat}{tb:Bool}
 {consts:List (Str×Int)} {self:Ev} {pm:List Str} {f:Fn} {fv:Addr} {fd:FuncData} {cf:Cf}
theorem cM.xM:cM h (Ob (N++F) aa al) h (Ob F aa al) []:=by
 refine⟨fun b o e _=>e,fun b o e q z=>q ?_,fun b q=>nomatch q⟩;rw[aO]at z ⊢
 rcases z with z|z
 ·exact .inl (cO _ z)
 ·exact .inr z
variable{m:MV}{v:Value}
theorem cS.xM(x:cS h (Ob (N++F) aa al) al m v):cS h (Ob F aa al) al m v:=
 x.aU cM.xM fun _ as' e=>⟨as',e,rfl⟩
theorem az.Wy{M:List Addr}(X:az (M++(N++F)) envs aa al st h):az (M++F) envs aa al st h:=by
 have sub:∀b,b∈M++F->b∈M++(N++F):=fun b q=>by
  simp only[bR]at q ⊢
  rcases q with q|q
  ·exact .inl q
  ·exact .inr (.inr q)
 refine X.gen (fun b o e _=>e) (fun b q=> .inl (sub b q)) ?_ (fun a q=>⟨X.live a (aO.mpr (.inl (sub a q))),X.hi a (aO.mpr (.inl (sub a q)))⟩);refine List.Sublist.nodup ?_ X.nd;refine List.Sublist.append ?_ (j5 _);exact List.Sublist.append (j5 _) (List.sublist_append_right _ _)
theorem gf.xM{fr:Bool}(x:gf (N++F) envs aa bM h0 al st h m fr v):gf F envs aa bM h0 al st h m fr v:=by
 refine aH (x) fun M r nw=>?_;try clear x
 induction r using vU.casesOn with
 |tree t q=>exact⟨[],.tree (t.aU cM.xM) q,nw⟩
 |own x=>exact⟨[],.own (cS.xM x),nw⟩
 | @fresh m as a X o=>
  have S:cM h (Ob ((a::as)++(N++F)) aa al) h (Ob ((a::as)++F) aa al) []:=by
   refine⟨fun b o e _=>e,fun b o e q z=>q ?_,fun b q=>nomatch q⟩;rw[aO]at z ⊢
   rcases z with z|z
   ·refine .inl ?_
    rcases bR.mp z with z|z
    ·exact cP _ z
    ·exact cO _ (cO _ z)
   ·exact .inr z
  exact⟨_,.fresh X.Wy (o.aU S fun _ _ _ e=>e),nw⟩
theorem az.but(X:az (N++F) envs aa al st h)(k:iN N h h')(lv:∀a,a∈N->∃o,h'.get? a=some o):az (N++F) envs aa al st h':=by
 refine X.gen (fun b o e q=>k b o e fun z=>q (cP _ z)) (fun b q=> .inl q) X.nd (fun a q=>⟨?_,X.hi a (aO.mpr (.inl q))⟩)
 by_cases z:a∈N
 ·exact lv a z
 ·refine oE (X.live a (aO.mpr (.inl q))) fun o e=>?_
  exact⟨o,k a o e z⟩
theorem Sq.but(x:Sq pm aa bM h0 al h)(k:iN N h h')(nw:∀a,a∈N->h0.get? a=none):Sq pm aa bM h0 al h':=by
 refine⟨fun b o e p q=>k b o (x.keep b o e p q) fun z=>?_,x.sub,x.heads⟩;rw[nw b z]at e;exact aq e
theorem ig.live(x:ig h O N I items):∀a,a∈N->∃o,h.get? a=some o:=by
 intro a q
 induction x using ig.casesOn with
 |lst z=>rcases bQ.mp q with rfl;obtain⟨o,ho,-⟩:=z;exact⟨o,ho⟩
 |tup z=>rcases bQ.mp q with rfl;obtain⟨o,ho,-⟩:=z;exact⟨o,ho⟩
 |FF z=>rcases bQ.mp q with rfl;exact⟨_,z⟩
 |dX z=>rcases bQ.mp q with rfl;obtain⟨o,ho,-⟩:=z;exact⟨o,ho⟩
 |jd z=>rcases bQ.mp q with rfl;obtain⟨o,ho,-⟩:=z;exact⟨o,ho⟩
theorem ig.xN(x:ig h (Ob (N++F) aa al) N I items)(X:az (N++F) envs aa al st h):∀a,a∈N->a∉aa.flatten/\a∉flat al:=by
 intro a q;have nd:=X.nd;have z:=(cg.mp nd).2.2 a (cP _ q);exact⟨fun y=>z a (cP _ y) rfl,fun y=>z a (cO _ y) rfl⟩
end
section
variable{F F' N:List Addr}{envs:List Env}{env E:Env}{aa:List (List Addr)}{al al' dG bZ aV bM:Al}{st aY au:St}{h h' gB h₁ h2 h0:Heap}{O O' O2 W:List Addr}{s s₁ s' dU:Shared}{A:Around}{d n:Nat}{tb:Bool}
 {consts:List (Str×Int)} {self:Ev} {pm:List Str} {f:Fn} {fv:Addr} {fd:FuncData} {cf:Cf}
inductive jT(F:List Addr)(envs:List Env)(aa:List (List Addr))(al:Al)(s:Shared)(k:List MV->St->Option α)(ah:α)(v:Value)(s':Shared):Prop
 |mk (N:_) (I:_) (items:_) (aY:_) (al':_) (h2:_) (q0:v= .ref I) (q1:k items aY=some ah) (q2:az (N++F) envs aa al' aY s'.heap) (q3:ig s'.heap (Ob (N++F) aa al') N I items) (q4:Sp aa al s.heap al' h2) (q5:(∀a,a∈N->h2.get? a=none)) (q6:(∀b o,h2.get? b=some o->s'.heap.get? b=some o)) (q7:dQ s s'):jT F envs aa al s k ah v s'
variable{k:List MV->St->Option α}{ah:α}{v:Value}
theorem jT.back(sp:Sp aa bM s.heap al s'.heap)(sm:dQ s s')(w:jT F envs aa al s' k ah v dU):jT F envs aa bM s k ah v dU:=by
 obtain⟨N,I,items,aY,al',h2,a,b,c,dd,e,f,q,r⟩:=w;exact⟨N,I,items,aY,al',h2,a,b,c,dd,sp.trans e,f,q,sm.trans r⟩
theorem PD(X:az F envs aa al st h)(o:Obj)(hf:o.isFreed=false):az ([h.objs.size]++F) envs aa al st (h.push o):=
 X.BF (fun b o' e=>Heap.get?_push_of_some o e) [h.objs.size] (fun a q=>by rcases bQ.mp q with rfl;exact⟨eW,⟨o,Heap.get?_push_size _ hf⟩,X.big⟩) (gh.mpr ⟨fun q=>(nomatch q),.nil⟩)
theorem rq(X:az F envs aa al st h)(o:Obj):cM h (Ob F aa al) (h.push o) (Ob ([h.objs.size]++F) aa al) []:=
 cM.Ma X (fun b o' e=>Heap.get?_push_of_some o e) fun a q=>by rcases bQ.mp q with rfl;exact eW
theorem zB{items:List MV}(X:az F envs aa al st s.heap)(o:Obj)(hf:o.isFreed=false)(e:k items st=some ah)
  (it:ig (s.heap.push o) (Ob ([s.heap.objs.size]++F) aa al) [s.heap.objs.size] s.heap.objs.size items):jT F envs aa al s k ah (.ref s.heap.objs.size) {s with heap:=s.heap.push o}:=
 ⟨_,_,items,st,al,s.heap,rfl,e,PD X o hf,it,.refl,fun a q=>by rcases bQ.mp q with rfl;exact eW,fun b o' e=>Heap.get?_push_of_some o e,⟨rfl,rfl,rfl⟩⟩
theorem Wz{d:List (MV×MV)}{kvs:List (Int×Value)}(x:uD d kvs):fW d=kvs.map fun p=> .int p.1:=by
 induction x with
 |nil=>rfl
 |cons f r ih=>exact bq (List.cons _) ih
theorem WA{d:List (MV×MV)}{kvs:List (Str×Value)}(x:vG d kvs):fW d=kvs.map fun p=> .str p.1:=by
 induction x with
 |nil=>rfl
 |cons f r ih=>exact bq (List.cons _) ih
theorem PF{l:List (MV×MV)}(X:az F envs aa al st s.heap)(t:Tree s.heap (Ob F aa al) (.gk l) v)(e:k (fW l) st=some ah):
  wpAny (model g.prog g.w) A (pyIter v) (jT F envs aa al s k ah) aF s:=by
 cases t with
 | @dX _ a kvs hd na ns r=>
  refine oE (hd.dictAt) fun ep hD=>?_;refine wpAny_pyIter_dict ns hD (zB X _ rfl e ?_);have CR:=hD;refine cF (CR) fun od es kB rd=>?_;try clear CR;refine oA ((rq X {cls:= .type "dict_keyiterator",data:= .fields #[.ref a,.int 0 0,.int kvs.length 0,.int ep 0]}).get kB na) fun p1 p2=>?_;rw[Wz r];exact .dX (i:=0) ⟨_,Heap.get?_push_size _ rfl,rfl,rfl⟩ ⟨od,es,p1,rd⟩ p2
 | @jd _ a kvs hd na ns r=>
  refine oE (hd.dictAt) fun ep hD=>?_;refine wpAny_pyIter_dict ns hD (zB X _ rfl e ?_);have CR:=hD;refine cF (CR) fun od es kB rd=>?_;try clear CR;refine oA ((rq X {cls:= .type "dict_keyiterator",data:= .fields #[.ref a,.int 0 0,.int kvs.length 0,.int ep 0]}).get kB na) fun p1 p2=>?_;rw[WA r];exact .jd (i:=0) ⟨_,Heap.get?_push_size _ rfl,rfl,rfl⟩ ⟨od,es,p1,rd⟩ p2
theorem FH{t:MV}{l:List MV}(X:az F envs aa al st s.heap)(tt:Tree s.heap (Ob F aa al) t v)(q:pA t=some l)(e:k l st=some ah):
  wpAny (model g.prog g.w) A (pyIter v) (jT F envs aa al s k ah) aF s:=by
 induction t using MV.casesOn<;>first|exact aq q|skip
 ·obtain rfl:=dm q
  cases tt with
  | @tup _ a o vs m ho hc hd na tr=>
   refine wpAny_pyIter_tuple ⟨o,ho,hc,_,hd⟩ (zB X _ rfl e ?_);obtain⟨p1,p2⟩:=(rq X _).get ho na;exact .tup (i:=0) ⟨_,Heap.get?_push_size _ rfl,rfl,rfl⟩ p1 hc hd p2 (tr.aU (rq X _))
 ·obtain rfl:=dm q
  cases tt with
  | @lst _ a o vs m ho hc hd na tr=>
   refine wpAny_pyIter_list ⟨o,ho,hc,_,hd⟩ (zB X _ rfl e ?_);obtain⟨p1,p2⟩:=(rq X _).get ho na;exact .lst (i:=0) ⟨_,Heap.get?_push_size _ rfl,rfl,rfl⟩ p1 hc hd p2 (tr.aU (rq X _))
 ·obtain rfl:=dm q
  exact PF X tt e
theorem yl(n:Int):Builtin.Range.rangeSize 0 n 1=(n.toNat:Int):=by
 have:=rangeSize_nat 0 n
 simpa using this
theorem CY{n:Int}{r:Addr}{t u v:Tok}(X:az F envs aa al st s.heap)(hr:IsRange s.heap r 0 n 1 t u v)(lt:n<100000)(ge:0<=n)(e:k (cH n.toNat 0) st=some ah):
  wpAny (model g.prog g.w) A (pyIter (.ref r)) (jT F envs aa al s k ah) aF s:=by
 refine wpAny_pyIter_range hr ?_ (zB X _ rfl e (.FF ?_))
 ·have h2:=yl n
  unfold Builtin.Range.small;rw[h2];unfold Builtin.Range.rangeFitsLong;simp;rw[Int.max_eq_left ge];have b1: -9223372036854775808<=n:=Int.le_trans (by decide) ge;have b2:n<9223372036854775808:=Int.lt_trans lt (by decide);exact⟨⟨⟨b1,b2⟩,b1,b2⟩,.inr ⟨b1,b2⟩⟩
 ·rw[←yl n]
  exact Heap.get?_push_size _ rfl
end
set_option tactic.hygienic true in
theorem FI{e:Expr}{p:Str×Expr}(q:GQ e=some p):∃p1 p2,e= .Call (.Name p.1 p1) [p.2] [] p2:=by
 induction e using Expr.casesOn<;>first|exact aq q|skip
 rename_i f as ks pos
 induction f using Expr.casesOn<;>first|exact aq q|skip
 rename_i x px
 rcases as with _|⟨a,_|⟨b,r⟩⟩
 ·exact aq q
 ·rcases ks with _|⟨k,r⟩
  ·rw[←dm q];exact⟨_,_,rfl⟩
  ·exact aq q
 ·exact aq q
section
theorem sM{e:Expr}{x:Value}(q:tR e=false):foldedSetIterable e env x=pure x:=by
 unfold foldedSetIterable
 induction e using Expr.casesOn<;>first|rfl|exact aP q.symm
noncomputable def sN(i:Expr)(env:Env):Sem Value:=do
 let x ←foldedSetIterable i env (←eval i env)
 standAt i.pos
 holding [x] (pyIter x)
variable{k:List MV->St->Option α}{ah:α}
theorem CZ(hs:bU d n tb pm self)(R:bz A d n tb){i:Expr}(X:az F (env::envs) aa al st s.heap)(q:tR i=false)
  (e:(self.ex i st fun v _ aA=>bW v aA fun t au=>match pA t with
   |some l=>k l au
   |Option.none=>Option.none)=some ah):aE (model g.prog g.w) A (sN i env) (jT F (env::envs) aa al s k ah) aF s:=by
 refine aj (aN (hs.ex e R X) ?_);rintro v s1 ⟨m,fr,aA,bY,e,X1,ra,bu,bA⟩;refine gX (gq X1 ra.jE e) fun t au aV e9 X2 tt bS=>?_;try clear e;revert e9;intro e;rw[sM q];refine aj (aK (aj (aX (aW ?_))));refine nE (pA t) (fun z=>?_) fun l z=>?_
 ·rw[z]at e;exact aq e
 ·
  rw[z]at e;exact aN (aT (FH X2 tt z e)) fun v s2 w=>(w.back bS .refl).back bu bA
structure Walks(A:Around)(t:Expr)(N:List Addr)(I:Addr)(P:Heap->List Addr->List MV->Prop):Prop where
 aU:∀{h O h' O' W items},P h O items->cM h O h' O' W->(∀b o,b∈N->h.get? b=some o->h'.get? b=some o)->P h' O' items
 live:∀{h O items},P h O items->∀a,a∈N->∃o,h.get? a=some o
 turn:∀{s:Shared} {O items},P s.heap O items->(∀b,b∈N->b∈O)->(∀b,b∈O->∃o,s.heap.get? b=some o)->wpAny (model g.prog g.w) A (pyNext (.ref I)) (fun r s1=>match items with
  | []=>r=none/\iN N s.heap s1.heap/\dQ s s1
  |x::xs=>∃v,r=some v/\wpAny (model g.prog g.w) A (letOwnedTupleGo t (.ref I) v) (fun _ s2=>Tree s2.heap O x v/\P s2.heap O xs/\iN N s.heap s2.heap/\dQ s s2) aF s1) aF s
variable{t:Expr}
theorem M9(R:bz A d n tb){I:Addr}:Walks A t N I (fun h O items=>ig h O N I items):=by
 refine⟨fun x S k=>x.aU S k,fun x=>x.live,fun{s O items} x q _=>CF (FG R x q) fun r s1 tn=>?_⟩
 induction items using List.casesOn with
 |nil=>exact tn
 |cons x xs=>
  refine uq (tn) fun o0 it bt sm=>?_;try clear tn;refine aH (o0) fun v o1 tv=>?_;try clear o0;obtain rfl:=o1;exact⟨v,rfl,Lj it ⟨tv,it,bt,sm⟩⟩
inductive Na(E I:Addr)(h:Heap)(O:List Addr):List MV->Prop
 |mk {a:Addr} {i:Nat} {old:Value} {vs:Array Value} {o:Obj} {m:Nat} {ms:List MV}:IsEnum h E I i old→h.IsListIter I a i→h.get? a=some o→o.cls= .type "list" →o.data= .seq vs m→a∉O→aQ h O ms (vs.toList.drop i)→Na E I h O (iC i ms)
theorem Nb(R:bz A d n tb)(ht:pW t=true){E I:Addr}(ne:E≠I):Walks A t [E,I] E (Na E I):=by
 refine LK (Fg ht) fun es kk pp ot=>?_;subst ot;refine⟨fun{h O h' O' W items} x S k=>?_,fun{h O items} x a q=>?_,fun{s O items} x q lv=>?_⟩
 ·obtain⟨a1,a2,a3,a4,a5,a6,a7⟩:=x
  refine oA (S.get a3 a6) fun p1 p2=>?_;refine aH (a2) fun o ho r=>?_;try clear a2;exact .mk (k _ _ (.head _) a1) ⟨o,k _ o (.tail _ (.head _)) ho,r⟩ p1 a4 a5 p2 (a7.aU S)
 ·obtain⟨a1,a2,a3,a4,a5,a6,a7⟩:=x
  rcases cC.mp q with rfl|q
  ·exact⟨_,a1⟩
  ·rcases bQ.mp q with rfl
   refine aH (a2) fun o ho r=>?_;try clear a2;exact⟨o,ho⟩
 ·obtain @⟨a,i,old,vs,o,m,ms,a1,a2,a3,a4,a5,a6,a7⟩:=x
  have hl:s.heap.IsList a vs:=⟨o,a3,a4,_,a5⟩;generalize hw:vs.toList.drop i=ws at a7
  induction a7 using aQ.casesOn with
  |nil=>exact wpAny_pyNext_enum_end R.handled a1 a2 hl (by have:=BP hw;simpa using this) fun h' k=>⟨rfl,fun b o e z=>k b o (fun y=>z (y▸ .tail _ (.head _))) e,⟨rfl,rfl,rfl⟩⟩
  | @cons mx v ms ws tv tr=>
   refine oA (zA hw) fun z1 z2=>?_;refine wpAny_pyNext_enum_item a1 a2 hl (x:=v) (by simpa using z1) ne fun h' b1 b2 b3 b4 b5=>⟨_,rfl,?_⟩;refine wpAny_letOwnedTupleGo_enum b1 fun h2 c1 c2=>?_;have B:iN [E,I] s.heap h2:=fun b o e z=>(c2.2 b fun y=>z (y▸ .head _)).trans (b5 b o (fun y=>z (y▸ .head _)) (fun y=>z (y▸ .tail _ (.head _))) e);have S:=B.aU q;have tE:s.heap.objs.size≠E:=Nat.ne_of_gt (gD a1);have tO:s.heap.objs.size∉O:=fun z=>by
    refine oE (lv _ z) fun o e=>?_;rw[eW]at e;exact aq e
   refine oA (S.get a3 a6) fun p1 p2=>?_;have c1':IsEnum h2 E I ((i+1:Nat):Int) v:=by rw[Int.natCast_succ];exact c1
   refine⟨.tup ((c2.2 _ tE).trans b3) rfl rfl tO (.cons (.int _ _) (.cons (tv.aU S) .nil)),?_,B,⟨rfl,rfl,rfl⟩⟩;have:iC ((i:Int)+1) ms=iC ((i+1:Nat):Int) ms:=by rw[Int.natCast_succ]
   show Na E I h2 O (iC ((i:Int)+1) ms);rw[this];exact .mk c1' (b2.extBut c2.extBut (Ne.symm ne)) p1 a4 a5 p2 (z2▸tr.aU S)
inductive sO(A:Around)(t:Expr)(F:List Addr)(envs:List Env)(aa:List (List Addr))(al:Al)(s:Shared)(k:List MV->St->Option α)(ah:α)(v:Value)(s':Shared):Prop
 |mk (N:_) (I:_) (P:_) (items:_) (aY:_) (al':_) (h2:_) (q0:Walks A t N I P) (q1:v= .ref I) (q2:k items aY=some ah) (q3:az (N++F) envs aa al' aY s'.heap) (q4:P s'.heap (Ob (N++F) aa al') items) (q5:Sp aa al s.heap al' h2) (q6:(∀a,a∈N->h2.get? a=none)) (q7:(∀b o,h2.get? b=some o->s'.heap.get? b=some o)) (q8:dQ s s'):sO A t F envs aa al s k ah v s'
theorem sO.back{v:Value}(sp:Sp aa bM s.heap al s'.heap)(sm:dQ s s')(w:sO A t F envs aa al s' k ah v dU):sO A t F envs aa bM s k ah v dU:=by
 obtain⟨N,I,P,items,aY,al',h2,z,a,b,c,dd,e,f,q,r⟩:=w;exact⟨N,I,P,items,aY,al',h2,z,a,b,c,dd,sp.trans e,f,q,sm.trans r⟩
theorem jT.it(R:bz A d n tb){v:Value}(w:jT F envs aa al s k ah v s'):sO A t F envs aa al s k ah v s':=by
 obtain⟨N,I,items,aY,al',h2,a,b,c,dd,e,f,q,r⟩:=w;exact⟨N,I,_,items,aY,al',h2,M9 R,a,b,c,dd,e,f,q,r⟩
variable{pos:Pos}
theorem PG(hs:bU d n tb pm self)(R:bz A d n tb){p:Pos}{a:Expr}(G:fO g consts)(X:az F (env::envs) aa al st s.heap)
  (e:(cond (iQ [a]|| !iw st "enumerate" || !pW t) Option.none<|self.ex a st fun v _ aA=>bW v aA fun t au=>match t with
   | .lst l=>k (iC 0 l) au
   |_=>Option.none)=some ah):aE (model g.prog g.w) A (sN (.Call (.Name "enumerate" p) [a] [] pos) env) (sO A t F (env::envs) aa al s k ah) aF s:=by
 refine bT ((iQ [a]|| !iw st "enumerate" || !pW t)) (fun q2=>?_) fun q2=>?_
 ·rw[q2]at e;exact aq e
 ·
  rw[q2,bN]at e;refine oA (gS.mp q2) fun IV q6=>?_;try clear q2;revert IV;intro q2;refine oA (gS.mp q2) fun q3 q4=>?_;have q4:iw st "enumerate"=true:=by cases z:iw st "enumerate" <;>simp[z]at q4 ⊢
  have q6:pW t=true:=by cases z:pW t<;>simp[z]at q6 ⊢
  have q5:bC [a]=false/\[a].length<=20:=by
   unfold iQ at q3;exact⟨(gS.mp q3).1,by simp⟩
  refine oA (G.bi ("enumerate":Str) (.type "enumerate") rfl) fun b1 b2=>?_;refine aj (g8 (by decide) iX q5.1 q5.2 (fun Q hq=>mT G X q4 b1 b2 hq) ?_);refine eS (aN (hs.ex e R X) ?_) (fz q5.1).1;rintro v s1 ⟨m,fr,aA,bY,e,X1,ra,bu,bA⟩;refine fZ ⟨trivial,?_⟩;refine gX (gq X1 ra.jE e) fun tt au aV e9 X2 tr bS=>?_;try clear e;revert e9;intro e;clear ra;refine aH (Rm e) fun l o1 e9=>?_;clear e;obtain rfl:=o1;revert e9;intro e
  ·
   cases tr with
   | @lst _ a' o vs mm ho hc hd na trs=>
    refine aT (call_enumerate_list (items:=vs) ⟨o,ho,hc,_,hd⟩ fun h' c1 c2 c3 ck=>?_);rw[sM rfl];refine aj (aK (aj (aX (aW (aT (wpAny_pyIter_enum c1 ?_))))));refine sO.back (s:=s) (s':=s1) (al:=aV) (bu.trans bS) bA ?_;have hN:∀b,b∈[s1.heap.objs.size+1,s1.heap.objs.size]->s1.heap.get? b=none:=fun b hb=>by
     refine Heap.get?_none_of_le ?_
     rcases cC.mp hb with rfl|hb
     ·exact Nat.le_add_right s1.heap.objs.size 1
     ·rcases bQ.mp hb with rfl;exact gK s1.heap.objs.size
    have S:=cM.Ma X2 ck hN;refine oA (S.get ho na) fun p1 p2=>?_;refine⟨[s1.heap.objs.size+1,s1.heap.objs.size],s1.heap.objs.size+1,_,_,au,aV,s1.heap,Nb R q6 (Nat.succ_ne_self _),rfl,e,X2.BF ck _ (fun b hb=>⟨hN b hb,?_,?_⟩) ?_,.mk (i:=0) c1 c2 p1 hc hd p2 (trs.aU S),.refl,hN,ck,⟨rfl,rfl,rfl⟩⟩
    ·rcases cC.mp hb with rfl|hb
     ·exact⟨_,c1⟩
     ·rcases bQ.mp hb with rfl
      refine aH (c2) fun o ho r=>?_;try clear c2;exact⟨o,ho⟩
    ·have:=X2.big
     rcases cC.mp hb with rfl|hb
     ·exact Nat.le_add_right_of_le this
     ·rcases bQ.mp hb with rfl;omega
    ·refine gh.mpr ⟨fun z=>?_,by simp⟩
     exact Nat.succ_ne_self _ (bQ.mp z)
set_option tactic.hygienic true in
theorem WB(G:fO g consts)(hs:bU d n tb pm self)(R:bz A d n tb){i:Expr}(X:az F (env::envs) aa al st s.heap)
  (e:vB self (pW t) i st k=some ah):aE (model g.prog g.w) A (sN i env) (sO A t F (env::envs) aa al s k ah) aF s:=by
 unfold vB at e;refine nE (GQ i) (fun q0=>?_) fun fa q0=>?_
 ·rw[q0]at e
  dsimp only at e;refine bT (tR i) (fun q=>?_) fun q=>?_
  ·rw[q]at e;exact aq e
  ·rw[q,bN]at e
   exact aN (CZ hs R X q e) fun v s' w=>jT.it R w
 ·rw[q0]at e
  dsimp only at e;refine tD (FI q0) fun p pos hi=>?_;clear q0;subst hi
  induction fa using Prod.casesOn with|mk f a=>?_
  dsimp only at e ⊢;refine bT (f==("range":Str)) (fun q1=>?_) fun q1=>?_
  ·
   refine aN ?_ fun v s' w=>jT.it R w;rw[q1,ir]at e;have:=eq_of_beq q1;clear q1;subst this;refine bT ((iQ [a]|| !iw st "range")) (fun q2=>?_) fun q2=>?_
   ·rw[q2]at e;exact aq e
   ·
    rw[q2,bN]at e;refine oA (gS.mp q2) fun q3 q4=>?_;have q4:iw st "range"=true:=by cases z:iw st "range" <;>simp[z]at q4 ⊢
    have q5:bC [a]=false/\[a].length<=20:=by
     unfold iQ at q3;exact⟨(gS.mp q3).1,by simp⟩
    refine oA (G.bi ("range":Str) (.type "range") rfl) fun b1 b2=>?_;refine aj (g8 (by decide) iX q5.1 q5.2 (fun Q hq=>mT G X q4 b1 b2 hq) ?_);refine eS (aN (hs.ex e R X) ?_) (fz q5.1).1;rintro v s1 ⟨m,fr,aA,bY,e,X1,ra,bu,bA⟩;refine fZ ⟨trivial,?_⟩
    try dsimp only at e
    refine aH (LP e) fun nn o1 e9=>?_;clear e;obtain rfl:=o1;revert e9;intro e
    ·
     refine oA (aG e) fun z e9=>?_;try clear e;revert e9;intro e;refine oA (bk.mp z) fun z1 z2=>?_;have z1:=bx z1;have z2:=bx z2;refine oE (cN.int (cN.tree (ra.jE rfl))) fun t o1=>?_;clear ra;obtain rfl:=o1;refine aT (call_range_1 ?_);rw[sM rfl];refine aj (aK (aj (aX (aW ?_))));have X2:=X1.push {cls:= .type "range",data:= .fields #[.int 0 s1.toks,.int nn t,.int 1 (s1.toks+1)]};refine aN (aT (CY (s:= {s1 with heap:=s1.heap.push {cls:= .type "range",data:= .fields #[.int 0 s1.toks,.int nn t,.int 1 (s1.toks+1)]},toks:=s1.toks+1+1}) X2 (IsRange.new ..) z2 z1 e)) fun v s2 w=>?_;exact(jT.back (s:=s1) (s':= {s1 with heap:=s1.heap.push {cls:= .type "range",data:= .fields #[.int 0 s1.toks,.int nn t,.int 1 (s1.toks+1)]},toks:=s1.toks+1+1}) (Sp.ext fun b o e=>Heap.get?_push_of_some _ e) ⟨rfl,rfl,rfl⟩ w).back bu bA
  ·
   rw[q1,bN]at e;refine bT (f==("enumerate":Str)) (fun q2=>?_) fun q2=>?_
   ·
    rw[q2,ir]at e;have:=eq_of_beq q2;clear q2 q1;subst this;exact PG hs R G X e
   ·
    rw[q2,bN]at e;exact aN (CZ hs R X rfl e) fun v s' w=>jT.it R w
theorem az.IW(X:az (N++F) envs aa al st h)(k:iN N h h'):az F envs aa al st h':=by
 have sub:∀b,b∈F->b∈N++F:=fun b q=>cO _ q;have nd:=X.nd;rw[Ob,dH]at nd;refine X.gen (fun b o e q=>k b o e fun z=>q (cP _ z)) (fun b q=> .inl (sub b q)) (cg.mp nd).2.1 (fun a q=>⟨?_,X.hi a (aO.mpr (.inl (sub a q)))⟩);refine oE (X.live a (aO.mpr (.inl (sub a q)))) fun o e=>?_;exact⟨o,k a o e fun z=>(cg.mp nd).2.2 a z a (cP _ q) rfl⟩
theorem xN{O:List Addr}(X:az (N++F) envs aa al st h):∀a,a∈N->a∉aa.flatten/\a∉flat al:=by
 intro a q;have nd:=X.nd;have z:=(cg.mp nd).2.2 a (cP _ q);exact⟨fun y=>z a (cP _ y) rfl,fun y=>z a (cO _ y) rfl⟩
inductive Z8(F N:List Addr)(P:Heap->List Addr->List MV->Prop)(envs:List Env)(aa:List (List Addr))(pm:List Str)(bM:Al)(h0:Heap)(s:Shared)(run:List MV->St->Option α)(ah:α)(m:Nat)(s':Shared):Prop
 |mk (items:_) (aY:_) (al':_) (hm:items.length=m) (e:run items aY=some ah) (X:az (N++F) envs aa al' aY s'.heap) (it:P s'.heap (Ob (N++F) aa al') items) (sq:Sq pm aa bM h0 al' s'.heap) (sm:dQ s s'):Z8 F N P envs aa pm bM h0 s run ah m s'
theorem Z9(G:fO g consts)(hs:bU d n tb pm self)(R:bz A d n tb){i:Expr}{b:List Stmt}{k:cI->St->Option α}(X:az F (env::envs) aa al st s.heap)
  (h:(vB self (pW t) i st fun items aA=>bO self t b items aA k)=some ah):aE (model g.prog g.w) A (exec (.For t i b [] pos) env) (gQ pm F (env::envs) aa al s k ah) aF s:=by
 have ex:exec (.For t i b [] pos) env=(do standAt pos;let it ←sN i env;runOwn (.forLoop t it b [] env) env):=by
  rw[exec_For];unfold sN;simp only[bind_assoc]
 rw[ex];refine aj (aX (aj (aN (WB G hs R X h) ?_)));rintro v s1 ⟨N,I,P,items,aA,bY,h2,wk,rfl,h,X1,it,bu,nw,k2,bA⟩;have sq0:Sq pm aa bY h2 bY s1.heap:=(Sp.ext k2).sq;refine BO (Gj (Z8 F N P (env::envs) aa pm bY h2 s (fun items aY=>bO self t b items aY k) ah) ?_ items.length ⟨items,aA,bY,rfl,h,X1,it,sq0,bA⟩);clear h X1 it sq0 bA;rintro m s2 ⟨items,au,aV,hm,h,X2,it,wM,eF⟩;have gm:∀{fl:Flow} {s'},gQ pm F (env::envs) aa bY {s with heap:=h2} k ah fl s'->gQ pm F (env::envs) aa al s k ah fl s':=by
  rintro fl s' ⟨w,aY,al',e,X,fo,sq,sm⟩;refine⟨w,aY,al',e,X,?_,(bu.sq).trans sq,⟨sm.gens,sm.drawn,sm.os⟩⟩
  induction fo using mS.casesOn with
  |aL=>exact .aL
  |ret ra=>exact .ret (ra.base (pm:=pm) bu.sq)
 refine aN (aT (wk.turn it (fun b q=>aO.mpr (.inl (cP _ q))) X2.live)) ?_;intro r s3 tn
 induction items using List.casesOn with
 |nil=>
  refine dh (tn) fun o0 bt jm=>?_;try clear tn;obtain rfl:=o0;have e:k .aL au=some ah:=h;rw[execs_nil];have sm:=eF.trans jm;exact aK (gm ⟨.aL,au,aV,e,X2.IW bt,.aL,wM.but bt nw,⟨sm.gens,sm.drawn,sm.os⟩⟩)
 |cons x xs=>
  refine aH (tn) fun v o1 tn9=>?_;try clear tn;obtain rfl:=o1;revert tn9;intro tn;refine aN (aT tn) ?_;rintro u0 s3 ⟨tv,US,bt,jm⟩;have X3:=X2.but bt (wk.live US);have Lh:=wM.but bt nw
  have h1:(vq t x au fun aA=>aC self b aA fun f au=>match f with
   | .aL=>bO self t b xs au k
   | .ret v fr=>k (.ret v fr) au)=some ah:=h
  refine aN (aT (zy R t X3 tv h1)) ?_;rintro u s4 ⟨qD,h1,X4,ym,vM⟩;have it4:P s4.heap (Ob (N++F) aa aV) xs:=wk.aU US (ym.sq (pm:=pm)).aU fun b o q e=>ym.keep b o e (xN (O:=[]) X3 b q).1 (xN (O:=[]) X3 b q).2;have sq4:Sq pm aa bY h2 aV s4.heap:=Lh.trans ym.sq;refine aN (wL hs R X4 h1) ?_;rintro fl s5 ⟨w,uw,wO,h,X5,fo,sq5,mV⟩;have UT:P s5.heap (Ob (N++F) aa wO) xs:=wk.aU it4 sq5.aU fun b o q e=>sq5.keep b o e (xN (O:=[]) X4 b q).1 (xN (O:=[]) X4 b q).2;have sq6:Sq pm aa bY h2 wO s5.heap:=sq4.trans sq5;have sm:=(((eF.trans jm).trans vM).trans mV)
  induction fo using mS.casesOn with
  |aL=>exact⟨xs.length,hm▸Nat.lt_succ_self _,xs,uw,wO,rfl,h,X5,UT,sq6,sm⟩
  |ret ra=>exact gm ⟨_,uw,wO,h,X5.vI,.ret ((ra.base sq4).xM),sq6,⟨sm.gens,sm.drawn,sm.os⟩⟩
end
variable{k:cI->St->Option α}
theorem PI(hs:bU d n tb pm self)(R:bz A d n tb){ts:List Expr}{tx}{tp:Pos}{e:Expr}(X:az F (env::envs) aa al st s.heap)(ht:pW e=false)
  (h:(cond (fF e||eV e) Option.none (self.ex e st fun v _ aA=>bW v aA fun t au=>vq (.Tuple ts tx tp) t au fun bX=>k .aL bX))=some ah):
  aE (model g.prog g.w) A (exec (.Assign [.Tuple ts tx tp] e pos) env) (gQ pm F (env::envs) aa al s k ah) aF s:=by
 refine bT ((fF e||eV e)) (fun q=>?_) fun q=>?_
 ·rw[q]at h;exact aq h
 ·
  rw[q,bN]at h;refine oA (gS.mp q) fun q1 q2=>?_;rw[uR rfl (uQ q1 q2) (by induction e using Expr.casesOn<;>first|exact @Eq.refl _ (pure none)|exact aP ht.symm)];refine aj (aX (aj (aN (hs.ex h R X) ?_)));rintro v s1 ⟨m,fr,aA,bY,h,X1,ra,bu,bA⟩;refine gX (gq X1 ra.jE h) fun t au aV h9 X2 tt bS=>?_;try clear h;revert h9;intro h;refine aj (aN (aT (zy R (.Tuple ts tx tp) X2 tt h)) ?_);rintro u s2 ⟨bX,e3,X3,gr,jm⟩;exact aK ⟨.aL,bX,aV,e3,X3,.aL,(bu.trans (bS.trans gr)).sq,bA.trans jm⟩
theorem WC(X:az F (env::envs) aa al st s.heap)(h:k .aL st=some ah):
  aE (model g.prog g.w) A (exec (.Pass pos) env) (gQ pm F (env::envs) aa al s k ah) aF s:=by
 show aE _ _ (do standAt pos;pure Flow.next) _ _ _;exact aj (aX (aK ⟨.aL,st,al,h,X,.aL,.refl,.refl⟩))
theorem Nc(X:az F (env::envs) aa al st s.heap)(h:k (.ret .none false) st=some ah):
  aE (model g.prog g.w) A (exec (.Return Option.none pos) env) (gQ pm F (env::envs) aa al s k ah) aF s:=by
 show aE _ _ (do standAt pos;pure (Flow.ret Value.none)) _ _ _;exact aj (aX (aK ⟨_,st,al,h,X,.ret (gf.tree .none (fun q=>by exact aP q)),.refl,.refl⟩))
set_option tactic.hygienic true
section
variable{prog:Program}{w:World}{A:Around}{s:Shared}{env:Env}
def Em(M:Model)(A:Around)(wQ:Option (Value->Sem Unit))(Q:Value->Shared->Prop)(acc:Value)(C:Addr)(r:Result)(s':Shared):Prop:=
 match r,wQ with
 | .ok _,none=>∃m,s'.heap.Ns C m/\∀h',Heap.SameBut C s'.heap h'->Q acc {s' with heap:=h'}
 | .ok _,some u=>aE M A (u acc) (fun _ dU=>∃m,dU.heap.Ns C m/\∀h',Heap.SameBut C dU.heap h'->Q .none {dU with heap:=h'}) aF s'
 | .error _,_=>False
variable{pos:Pos}
theorem PJ{M:Model}{α:Type}{c:Prop}[Decidable c]{k:PUnit->Sem α}{Q:α->Shared->Prop}(h:aE M A (k ()) Q aF s):
  aE M A (if c then(standAt pos >>= k)else k ()) Q aF s:=by
 split
 ·exact aj (aX h)
 ·exact h
theorem C0 {e : Expr} {scope : Scope}  {C1 first : Sem Value} {g : Comprehension} {gs : List Comprehension} {cl : List (Str × Addr)} {wQ : Option (Value → Sem Unit)}
    {Q : Value → Shared → Prop}
    (ZP : clausesOf e = g :: gs) (hclos : closureFor scope env = pure cl)
    (GY : scope.kind = .function) (hnames : ∀ x ∈ scope.names, x.2 = .local → scope.names.lookup x.1 = some .local)
    (h : aE (model prog w) A (do let x ← first; standAt pos; let x ← foldedSetIterable g.iter env x; holding [x] (pyIter x)) (fun it s₂ => aE (model prog w) A C1 (fun acc s₃ =>
      aE (model prog w) A (newFunctionEnv scope env.globals cl [] env.qual none .none (some env)) (fun cenv s₄ =>
        dF (model prog w) A (.compStart e 0 it acc { cenv with scope := relabel scope env }) (Em (model prog w) A wQ Q acc cenv.locals) s₄) aF s₃) aF s₂) aF s) :
    aE (model prog w) A (comprehension e scope env pos C1 false first wQ) Q aF s := by
  have eq : comprehension e scope env pos C1 false first wQ = ((do let x ← first; standAt pos; let x ← foldedSetIterable g.iter env x; holding [x] (pyIter x)) >>= fun it => (do
      if wQ.isSome then standAt e.pos
      let acc ← C1
      let cenv ← newFunctionEnv scope env.globals (← closureFor scope env) [] env.qual none .none (some env)
      let own (n : Str) (k : NameKind) := k == .free && env.scope.kind == .function && env.kindOf n == some .cell
      let cenv := { cenv with scope := { scope with names := scope.names.map fun (n, k) => if own n k then (n, .cell) else (n, k) } }
      let vars := scope.names.filter fun (n, k) => (k == .local || k == .cell) && n != (".0" : Str)
      let cellOf? (n : Str) : List Value := ((cenv.cells.lookup n).map Value.ref).toList
      let wR (vs : List (Str × NameKind)) : List Value := vs.flatMap fun (n, k) => if k == .cell then cellOf? n else []
      holding [.ref cenv.locals] do
        match ← (holding (acc :: wR vars) (run (.compStart e 0 it acc cenv))).attempt, wQ with
        | .ok _, none => holding [acc] (comprehension.letGo cenv wR vars.reverse); pure acc
        | .ok _, some u =>
          rule "comprehension.stores-exchanged"
          holding (wR vars) (u acc)
          comprehension.letGo cenv wR (vars.reverse.drop 1 ++ vars.reverse.take 1)
          pure .none
        | .error x, _ => holding [x] (comprehension.letGo cenv wR vars.reverse); passOn "comprehension.variables-let-go" x cenv)) := by
    unfold comprehension
    rw [ZP]
    simp only [bind_assoc]
    rfl
  rw [eq]
  refine aj (aN h fun it s₂ h₂ => ?_)
  rw [hclos]
  refine PJ (aj (aN h₂ fun acc s₃ h₃ => aj (aK (aj (aN h₃ fun cenv s₄ h₄ => ?_)))))
  dsimp only
  have hv : ∀ x ∈ (scope.names.filter fun x => (x.2 == .local || x.2 == .cell) && x.1 != (".0" : Str)).reverse, x.2 = .local →
      Env.kindOf { cenv with scope := relabel scope env } x.1 = some .local := fun x hx hl => lookup_relabel_local (hnames x (List.mem_filter.mp (List.mem_reverse.mp hx)).1 hl)
  have hv' : ∀ x ∈ (scope.names.filter fun x => (x.2 == .local || x.2 == .cell) && x.1 != (".0" : Str)).reverse.drop 1 ++ (scope.names.filter fun x => (x.2 == .local || x.2 == .cell) && x.1 != (".0" : Str)).reverse.take 1,
      x.2 = .local → Env.kindOf { cenv with scope := relabel scope env } x.1 = some .local := fun x hx hl => by
    rcases bR.mp hx with h1 | h1
    · exact hv x (List.mem_of_mem_drop h1) hl
    · exact hv x (List.mem_of_mem_take h1) hl
  refine aW (aj (Fd (aW (Uo (h := none) (iR h₄ fun r s' hr => ?_) (fun x => nomatch x)))))
  induction r using Except.casesOn with
  | ok f =>
    induction wQ using Option.casesOn with
    | none =>
      refine aH (hr) fun m hn hr9 => ?_
      try clear hr
      revert hr9; intro hr
      exact aj (aW (aT (wpAny_comp_letGo (cenv := { cenv with scope := relabel scope env }) GY _ s' m hv hn fun h' m' _ KY => aK (hr h' KY))))
    | some u =>
      refine aj (aT (wpAny_rule (aj (aW (aN hr fun _ dU Lg => ?_)))))
      refine aH (Lg) fun m hn hr'9 => ?_
      try clear Lg
      revert hr'9; intro Lg
      exact aj (aT (wpAny_comp_letGo (cenv := { cenv with scope := relabel scope env }) GY _ dU m hv' hn fun h' m' _ KY => aK (Lg h' KY)))
  | error x => induction wQ using Option.casesOn <;> exact (hr : False).elim
end
set_option tactic.hygienic false
section
variable{prog:Program}{w:World}{A:Around}{s:Shared}{env:Env}
noncomputable def nG(env:Env):Bool->List Expr->Sem Bool
 |r,[]=>pure r
 |true,c::cs=>isTrue c env (eval c env) >>= fun ok=>nG env ok cs
 |false,c::cs=>nG env false cs
theorem FJ{env:Env}{c:Expr}{cs:List Expr}:nG env true (c::cs)=(isTrue c env (eval c env) >>= fun ok=>nG env ok cs):=rfl
theorem Kr:∀(ifs:List Expr) (r:Bool),(forIn ifs r fun c r=>if r=true then do let ok ←isTrue c env (eval c env);pure (ForInStep.yield ok)else pure (ForInStep.yield r))=nG env r ifs:=by
 intro x1
 induction x1 with
 |nil=>
  intro r
  induction r using Bool.casesOn<;>rfl
 |cons c cs dR=>
  intro x2
  induction x2 using Bool.casesOn with
  |true=>
   rw[List.forIn_cons];simp only[if_true,bind_assoc,pure_bind];rw[FJ];exact bq _ (funext fun ok=>dR ok)
  |false=>
   rw[List.forIn_cons];simp only[Bool.false_eq_true,if_false,pure_bind];exact dR false
theorem Gk:∀(ifs:List Expr),nG env false ifs=pure false:=by
 intro x0
 induction x0 with
 |nil=>
  exact rfl
 |cons c cs ih=>
  exact ih
noncomputable def ou(e:Expr)(gens:List Comprehension)(cR:Expr)(depth:Nat)(acc:Value)(env:Env):Sem Unit:=match gens[depth+1]? with
 |some g'=>do
  let x ←eval g'.iter env
  standAt g'.iter.pos
  let x ←if g'.is_async != 0 then foldedIterable g'.iter x else foldedSetIterable g'.iter env x
  let _ ←runOwn (.compStart e (depth+1) (←holding [x] (if g'.is_async != 0 then asyncIter x else pyIter x)) acc env) env
 |none=>do let _ ←call (.builtin "list.append") [acc,←eval cR env]
variable{cR t i:Expr}{gens:List Comprehension}{scope:Scope}{pos:Pos}{depth:Nat}{acc:Value}{ifs:List Expr}
theorem Nd{it:Value}{Q:Fin->Shared->Prop}(hg:gens[depth]?=some ⟨t,i,ifs,0⟩)
  (hn:∀g',gens[depth+1]?=some g'->g'.is_async=0)
  (h:aE (model prog w) A (pyNext it) (fun r s₁=>match r with
   |none=>Q (.done .next) s₁
   |some v=>aE (model prog w) A (letOwnedTupleGo t it v) (fun _ s₂=>aE (model prog w) A (assign t env v) (fun _ s₃=>aE (model prog w) A (nG env true ifs) (fun ok s₄=>
     if ok then aE (model prog w) A (ou (.ListComp cR gens scope pos) gens cR depth acc env) (fun _ s₅=>Q (.again (.compLoop (.ListComp cR gens scope pos) depth it acc env)) s₅) aF s₄
     else Q (.again (.compLoop (.ListComp cR gens scope pos) depth it acc env)) s₄) aF s₃) aF s₂) aF s₁) aF s):
  aE (model prog w) A (compTurn (.ListComp cR gens scope pos) depth it acc env) Q aF s:=by
 have z0:((0:Int) != 0)=false:=rfl;unfold compTurn;dsimp only;rw[hg];dsimp only;simp only[Kr,z0,Bool.false_eq_true,if_false];refine aj (aX (aj (aN h fun r s₁ h₁=>?_)))
 induction r using Option.casesOn with
 |none=>exact aK h₁
 |some v=>
  refine aj (aN h₁ fun _ s₂ h₂=>aj (aN h₂ fun _ s₃ h₃=>aj (aN h₃ fun ok s₄ h₄=>?_)))
  induction ok using Bool.casesOn with
  |false=>
   simp only[Bool.false_eq_true,if_false]at h₄ ⊢;exact aK h₄
  |true=>
   simp only[if_true]at h₄ ⊢;have go:aE (model prog w) A (ou (.ListComp cR gens scope pos) gens cR depth acc env >>= fun _=>again (.compLoop (.ListComp cR gens scope pos) depth it acc env)) Q aF s₄:=aj (aN h₄ fun _ s₅ h₅=>aK h₅);unfold ou at go;cases hq:gens[depth+1]? with
   |none=>
    rw[hq]at go;exact go
   |some g'=>
    rw[hq]at go;have z1:(g'.is_async != 0)=false:=by rw[hn g' hq];rfl
    simp only[z1,Bool.false_eq_true,if_false,bind_assoc]at go ⊢;exact go
variable{R:Result->Shared->Prop}
theorem En{it:Value}(hg:gens[depth]?=some ⟨t,i,ifs,0⟩)
  (hn:∀g',gens[depth+1]?=some g'->g'.is_async=0) (I:Nat->Shared->Prop)
  (turn:∀n s,I n s->aE (model prog w) A (pyNext it) (fun r s₁=>match r with
   |none=>R (.ok .next) s₁
   |some v=>aE (model prog w) A (letOwnedTupleGo t it v) (fun _ s₂=>aE (model prog w) A (assign t env v) (fun _ s₃=>aE (model prog w) A (nG env true ifs) (fun ok s₄=>
     if ok then aE (model prog w) A (ou (.ListComp cR gens scope pos) gens cR depth acc env) (fun _ s₅=>∃m,m<n/\I m s₅) aF s₄
     else ∃m,m<n/\I m s₄) aF s₃) aF s₂) aF s₁) aF s)
  (n:Nat) (h:I n s):dF (model prog w) A (.compLoop (.ListComp cR gens scope pos) depth it acc env) R s:=by
 refine Cu rfl I (fun n s hI=>?_) n h;show aE _ A ((compTurn (.ListComp cR gens scope pos) depth it acc env).onRaise (fun x=>do noteFrame x env;theTreesLotGoes x)) _ _ s;refine jZ (kT (E:=aF) (Nd hg hn (aN (turn n s hI) fun r s₁ h₁=>?_)) (fun _ _ z=>z) fun _ _ z=>z.elim)
 induction r using Option.casesOn with
 |none=>exact h₁
 |some v=>
  refine aN h₁ fun _ s₂ h₂=>aN h₂ fun _ s₃ h₃=>aN h₃ fun ok s₄ h₄=>?_
  induction ok using Bool.casesOn with
  |false=>exact⟨rfl,h₄⟩
  |true=>exact aN h₄ fun _ s₅ h₅=>⟨rfl,h₅⟩
variable{rest:List Comprehension}
theorem uS{it:Value}
  (h0:dF (model prog w) A (.compLoop (.ListComp cR (⟨t,i,ifs,0⟩::rest) scope pos) 0 it acc env) R s)
  (h:aE (model prog w) A (pyIter it) (fun C3 s'=>dF (model prog w) A (.compLoop (.ListComp cR (⟨t,i,ifs,0⟩::rest) scope pos) 0 C3 acc env) R s') aF s):
  dF (model prog w) A (.compStart (.ListComp cR (⟨t,i,ifs,0⟩::rest) scope pos) 0 it acc env) R s:=by
 refine e7 ?_;show aE _ A ((compStart (.ListComp cR (⟨t,i,ifs,0⟩::rest) scope pos) 0 it acc env).onRaise (fun x=>do noteFrame x env;standAt theWindowsPlace)) _ _ s;refine jZ (kT (E:=aF) ?_ (fun _ _ z=>z) fun _ _ z=>z.elim);unfold compStart;show aE _ _ (ask >>= _) _ _ s;refine aj (aT (wpAny_askSetting (Un ?_)))
 split
 ·first
   |exact aj (aK (aK (And.intro rfl h0)))
   |exact aK (And.intro rfl h0)
 ·first
   |exact aj (aT (wpAny_rule (aj (aX (aj (aN h (fun C3 s' h'=>aK (And.intro rfl h'))))))))
   |(refine aj (aT (wpAny_rule ?_));show aE _ _ (standAt i.pos >>= _) _ _ s;exact aj (aX (aj (aN h (fun C3 s' h'=>aK (And.intro rfl h'))))))
theorem BQ{g0:Comprehension}{it:Value}
  (h0:dF (model prog w) A (.compLoop (.ListComp cR (g0::⟨t,i,ifs,0⟩::rest) scope pos) 1 it acc env) R s)
  (h:aE (model prog w) A (pyIter it) (fun C3 s'=>dF (model prog w) A (.compLoop (.ListComp cR (g0::⟨t,i,ifs,0⟩::rest) scope pos) 1 C3 acc env) R s') aF s):
  dF (model prog w) A (.compStart (.ListComp cR (g0::⟨t,i,ifs,0⟩::rest) scope pos) 1 it acc env) R s:=by
 refine e7 ?_;show aE _ A ((compStart (.ListComp cR (g0::⟨t,i,ifs,0⟩::rest) scope pos) 1 it acc env).onRaise (fun x=>do noteFrame x env;standAt theWindowsPlace)) _ _ s;refine jZ (kT (E:=aF) ?_ (fun _ _ z=>z) fun _ _ z=>z.elim);unfold compStart;show aE _ _ (ask >>= _) _ _ s;refine aj (aT (wpAny_askSetting (Un ?_)))
 split
 ·first
   |exact aj (aK (aK (And.intro rfl h0)))
   |exact aK (And.intro rfl h0)
 ·first
   |exact aj (aT (wpAny_rule (aj (aX (aj (aN h (fun C3 s' h'=>aK (And.intro rfl h'))))))))
   |(refine aj (aT (wpAny_rule ?_));show aE _ _ (standAt i.pos >>= _) _ _ s;exact aj (aX (aj (aN h (fun C3 s' h'=>aK (And.intro rfl h'))))))
end
section
theorem ifs_ok(hs:bU d n tb pm self)(R:bz A d n tb){k:Bool->St->Option α}:∀{es:List Expr} {st:St} {al:Al} {s:Shared},az F (env::envs) aa al st s.heap->lC self .And es st k=some ah->
  aE (model g.prog g.w) A (nG env true es) (lH F (env::envs) aa al s k ah) aF s:=by
 intro x0
 induction x0 with
 |nil=>
  intro st al s X e;exact aK (a:=true) ⟨st,al,e,X,.refl,.refl⟩
 |cons x r ih=>
  intro st al s X e;have e1:(self.ts x st fun b aA=>cond b (lC self .And r aA k) (k false aA))=some ah:=e;rw[FJ];refine aj (aN (hs.ts e1 R X) ?_);rintro b s1 ⟨aA,bY,e,X1,bu,bA⟩
  induction b using Bool.casesOn with
  |true=>exact aN (ih X1 e) fun v s2 w=>w.back bu bA
  |false=>
   rw[Gk];exact aK ⟨aA,bY,e,X1,bu,bA⟩
structure nH(h:Heap)(O:List Addr)(a:Addr)(l:List MV):Prop where
 at_:∃o vs m,h.get? a=some o∧o.cls= .type "list" ∧o.dict=none∧o.data= .seq vs m∧aQ h O l vs.toList
variable{a:Addr}{l:List MV}
theorem nH.aU(x:nH h O a l)(S:cM h O h' O' W)(k:∀o,h.get? a=some o->h'.get? a=some o):nH h' O' a l:=by
 refine Hl (x.at_) fun o vs m a b c dd t=>?_;exact⟨⟨o,vs,m,k o a,b,c,dd,t.aU S⟩⟩
structure SpB(B:List Addr)(aa:List (List Addr))(al:Al)(h:Heap)(al':Al)(h':Heap):Prop where
 sp:Sp (B::aa) al h al' h'
variable{B:List Addr}
theorem Sp.more(s:Sp aa al h al' h'):Sp (B::aa) al h al' h':=by
 refine⟨fun b o e p q=>s.keep b o e (fun z=>p ?_) q,fun a q=>?_,s.heads⟩
 ·rw[iU];exact cO _ z
 ·rcases s.sub a q with z|z|z
  ·exact .inl z
  ·exact .inr (.inl (by rw[iU];exact cO _ z))
  ·exact .inr (.inr z)
theorem Sp.less(s:Sp (B::aa) al h al' h')(nw:∀b,b∈B->h.get? b=none):Sp aa al h al' h':=by
 refine⟨fun b o e p q=>s.keep b o e (fun z=>?_) q,fun a q=>?_,s.heads⟩
 ·rw[iU]at z
  rcases bR.mp z with z|z
  ·rw[nw b z]at e;exact aq e
  ·exact p z
 ·rcases s.sub a q with z|z|z
  ·exact .inl z
  ·rw[iU]at z
   rcases bR.mp z with z|z
   ·exact .inr (.inr (nw a z))
   ·exact .inr (.inl z)
  ·exact .inr (.inr z)
theorem Sp.but(s:Sp (B::aa) bM h0 al h)(k:iN N h h')(q:∀b,b∈N->b∈B∨h0.get? b=none):Sp (B::aa) bM h0 al h':=by
 refine⟨fun b o e p r=>k b o (s.keep b o e p r) fun z=>?_,s.sub,s.heads⟩
 rcases q b z with z|z
 ·exact p (by rw[iU];exact cP _ z)
 ·rw[z]at e;exact aq e
theorem az.butIn(X:az F envs aa al st h)(k:iN [a] h h')(ha:a∈F)(lv:∃o,h'.get? a=some o):az F envs aa al st h':=by
 refine X.gen (fun b o e q=>k b o e fun z=>q (bQ.mp z▸ha)) (fun b q=> .inl q) X.nd (fun b q=>⟨?_,X.hi b (aO.mpr (.inl q))⟩)
 by_cases z:b=a
 ·exact z▸lv
 ·refine oE (X.live b (aO.mpr (.inl q))) fun o e=>?_
  exact⟨o,k b o e fun y=>z (bQ.mp y)⟩
theorem zC(X:az (N++([a]++F)) envs aa al st h):a∉N/\a∉aa.flatten/\a∉flat al:=by
 have nd:=X.nd;have z:=cg.mp nd;refine⟨fun q=>?_,fun q=>?_,fun q=>?_⟩
 ·exact(cg.mp z.1).2.2 a q a (cP _ (bQ.mpr rfl)) rfl
 ·exact z.2.2 a (cO _ (cP _ (bQ.mpr rfl))) a (cP _ q) rfl
 ·exact z.2.2 a (cO _ (cP _ (bQ.mpr rfl))) a (cO _ q) rfl
inductive C4(F:List Addr)(envs:List Env)(aa:List (List Addr))(acc:Addr)(bM:Al)(s0:Shared)(k:St->List MV->Option α)(ah:α)(s':Shared):Prop
 |mk (aY:_) (al':_) (l':_) (e:k aY l'=some ah) (X:az F envs aa al' aY s'.heap) (ao:nH s'.heap (Ob F aa al') acc l') (sp:Sp ([acc]::aa) bM s0.heap al' s'.heap) (sm:dQ s0 s'):C4 F envs aa acc bM s0 k ah s'
def UU(F:List Addr)(envs:List Env)(aa:List (List Addr))(acc:Addr)(bM:Al)(s0:Shared)(k:St->List MV->Option α)(ah:α)(r:Result)(s':Shared):Prop:=match r with
 | .ok _=>C4 ([acc]++F) envs aa acc bM s0 k ah s'
 | .error _=>False
inductive UW(F N:List Addr)(I:Addr)(envs:List Env)(aa:List (List Addr))(acc:Addr)(bM:Al)(s0:Shared)(body:MV->St->List MV->(St->List MV->Option α)->Option α)(k:St->List MV->Option α)(ah:α)(m:Nat)(s':Shared):Prop
 |mk (items:_) (st:_) (al:_) (l:_) (hm:items.length=m) (e:k9 body items st l k=some ah) (X:az (N++([acc]++F)) envs aa al st s'.heap) (it:ig s'.heap (Ob (N++([acc]++F)) aa al) N I items)
   (ao:nH s'.heap (Ob (N++([acc]++F)) aa al) acc l) (sp:Sp ([acc]::aa) bM s0.heap al s'.heap) (sm:dQ s0 s'):UW F N I envs aa acc bM s0 body k ah m s'
variable{acc:Addr}
theorem IX:acc∈N++([acc]++F):=cO _ (cP _ (bQ.mpr rfl))
theorem Sp.stpA(sp:Sp ([acc]::aa) al h al' h')(ha:acc∈F):cM h (Ob F aa al) h' (Ob F aa al') (([acc]::aa).flatten++flat al):=by
 refine⟨fun b o e q=>sp.keep b o e (fun z=>q (cP _ z)) fun z=>q (cO _ z),fun b o e q z=>?_,fun b q=>?_⟩
 ·rw[aO]at z q
  rcases z with z|z|z
  ·exact q (.inl z)
  ·exact q (.inr (.inl z))
  ·rcases sp.sub b z with y|y|y
   ·exact q (.inr (.inr y))
   ·rcases cC.mp y with rfl|y
    ·exact q (.inl ha)
    ·exact q (.inr (.inl y))
   ·rw[y]at e;exact aq e
 ·rw[aO]
  rcases bR.mp q with q|q
  ·rcases cC.mp q with rfl|q
   ·exact .inl ha
   ·exact .inr (.inl q)
  ·exact .inr (.inr q)
variable{cR:Expr}{gens:List Comprehension}{scope:Scope}{pos:Pos}{depth:Nat}{k:St->List MV->Option α}
theorem BR(hs:bU d n tb pm self)(R:bz A d n tb){I:Addr}{t i:Expr}{ifs:List Expr}{s0:Shared}
  {inner:St->List MV->(St->List MV->Option α)->Option α} (hg:gens[depth]?=some ⟨t,i,ifs,0⟩) (hn:∀g',gens[depth+1]?=some g'->g'.is_async=0) (nw:∀a,a∈N->s0.heap.get? a=none)
  (lg:∀{st:St} {al:Al} {s:Shared} {l:List MV} {k:St->List MV->Option α},inner st l k=some ah->az (N++([acc]++F)) (env::envs) aa al st s.heap->nH s.heap (Ob (N++([acc]++F)) aa al) acc l->
   aE (model g.prog g.w) A (ou (.ListComp cR gens scope pos) gens cR depth (.ref acc) env) (fun _ s'=>C4 (N++([acc]++F)) (env::envs) aa acc al s k ah s') aF s)
  {items:List MV} (e:k9 (xC self t ifs inner) items st l k=some ah)
  (X:az (N++([acc]++F)) (env::envs) aa al st s.heap) (it:ig s.heap (Ob (N++([acc]++F)) aa al) N I items) (ao:nH s.heap (Ob (N++([acc]++F)) aa al) acc l)
  (sp:Sp ([acc]::aa) bM s0.heap al s.heap) (sm:dQ s0 s):
  dF (model g.prog g.w) A (.compLoop (.ListComp cR gens scope pos) depth (.ref I) (.ref acc) env) (UU F (env::envs) aa acc bM s0 k ah) s:=by
 refine En hg hn (UW F N I (env::envs) aa acc bM s0 (xC self t ifs inner) k ah) ?_ items.length ⟨items,st,al,l,rfl,e,X,it,ao,sp,sm⟩;clear e X it ao sp sm;rintro m s1 ⟨items,st,al,l,hm,e,X,it,ao,sp,sm⟩;refine aN (aT (FG R it fun b q=>aO.mpr (.inl (cP _ q)))) ?_;intro r s2 tn;have nm:=zC X
 induction items using List.casesOn with
 |nil=>
  refine dh (tn) fun o0 bt eF=>?_;try clear tn;obtain rfl:=o0;have S1:=bt.aU (O:=Ob (N++([acc]++F)) aa al) fun b q=>aO.mpr (.inl (cP _ q));exact⟨st,al,l,e,X.IW bt,(ao.aU S1 fun o q=>bt _ o q nm.1).aU cM.xM fun o q=>q,sp.but bt fun b q=> .inr (nw b q),sm.trans eF⟩
 |cons x xs=>
  refine uq (tn) fun o0 Bj bt eF=>?_;try clear tn;refine aH (o0) fun v o1 tv=>?_;try clear o0;obtain rfl:=o1;have S1:=bt.aU (O:=Ob (N++([acc]++F)) aa al) fun b q=>aO.mpr (.inl (cP _ q));have X2:=X.but bt Bj.live;have ao2:=ao.aU S1 fun o q=>bt _ o q nm.1;have bS:=sp.but bt fun b q=> .inr (nw b q);clear S1 ao X it sp;refine aT (Lj Bj ?_);refine aN (aT (zy R t X2 tv e)) ?_;rintro u s3 ⟨bX,e,X3,gr,jm⟩;have hm:xs.length<m:=by rw[←hm];exact Nat.lt_succ_self _
  refine aN (ifs_ok hs R X3 e) ?_;rintro ok s4 ⟨qD,al4,e,X4,ym,vM⟩;have Ep:=gr.trans ym;have vM:=((sm.trans eF).trans jm).trans vM;have ao4:=ao2.aU Ep.aU fun o q=>Ep.keep _ o q nm.2.1 nm.2.2
  induction ok using Bool.casesOn with
  |false=>
   rw[bG (by decide)];exact⟨xs.length,hm,xs,qD,al4,l,rfl,e,X4,Bj.aU Ep.aU fun b o q e=>Ep.keep b o e (Bj.xN X2 b q).1 (Bj.xN X2 b q).2,ao4,bS.trans Ep.more,vM⟩
  |true=>
   rw[if_pos rfl];refine aN (lg e X4 ao4) ?_;rintro _ s5 ⟨uw,wO,l5,e,X5,zD,qh,mV⟩;have Er:=(Ep.more (B:=[acc])).trans qh;refine⟨xs.length,hm,xs,uw,wO,l5,rfl,e,X5,Bj.aU (Er.stpA IX) (fun b o q e=>Er.keep b o e (fun z=>?_) (Bj.xN X2 b q).2),zD,bS.trans Er,vM.trans mV⟩
   rcases cC.mp z with rfl|z
   ·exact nm.1 q
   ·exact(Bj.xN X2 b q).1 z
theorem Lk(hs:bU d n tb pm self)(R:bz A d n tb)(hn:gens[depth+1]?=none)
  (e:wA self cR st l k=some ah) (X:az (N++([acc]++F)) (env::envs) aa al st s.heap) (ao:nH s.heap (Ob (N++([acc]++F)) aa al) acc l):
  aE (model g.prog g.w) A (ou (.ListComp cR gens scope pos) gens cR depth (.ref acc) env) (fun _ s'=>C4 (N++([acc]++F)) (env::envs) aa acc al s k ah s') aF s:=by
 have nm:=zC X;unfold ou;rw[hn];refine aj (aN (hs.ex e R X) ?_);rintro w s5 ⟨mv,fr,uw,wO,e,X5,ra,qh,mV⟩;refine gX (gq X5 ra.jE e) fun tt KZ UX e9 X6 tw IY=>?_;try clear e;revert e9;intro e;refine oA (aG e) fun lz e9=>?_;try clear e;revert e9;intro e;have Sj:=qh.trans IY;obtain⟨⟨o,vs,mm,ho,hc,gT,hd,tr⟩⟩:=ao.aU Sj.aU fun o q=>Sj.keep _ o q nm.2.1 nm.2.2;have l1:l.length=vs.size:=tr.length;refine aj (aT (xJ.xK ho hc gT hd (fun h' o' m' qc sL BN uP hx=>aK ?_) (l1▸aI (bx lz) iH)));have B:iN [acc] s5.heap h':=fun b o e q=>hx b o (fun z=>q (bQ.mpr z)) e;have S6:=B.aU (O:=Ob (N++([acc]++F)) aa UX) fun b q=>by rcases bQ.mp q with rfl;exact aO.mpr (.inl IX)
 refine⟨KZ,UX,l++[tt],e,X6.butIn B IX ⟨_,qc⟩,⟨⟨o',_,m',qc,sL,BN,uP,?_⟩⟩,Sj.more.but B fun b q=> .inl q,mV.trans ⟨rfl,rfl,rfl⟩⟩;rw[Array.toList_push];exact(tr.append (.cons tw .nil)).aU S6
end
noncomputable def mW(env:Env):List (Str×NameKind)->List (Str×Addr)->List (Str×Addr)
 | [],acc=>acc
 |(n,k)::r,acc=>if k== .free then mW env r ((n,(env.cells.lookup n).getD 0)::acc)else mW env r acc
theorem Bk{n:Str}{k:NameKind}{r:List (Str×NameKind)}{acc:List (Str×Addr)}:mW env ((n,k)::r) acc=if k== .free then mW env r ((n,(env.cells.lookup n).getD 0)::acc)else mW env r acc:=rfl
theorem Nf:∀(names:List (Str×NameKind)) (acc:List (Str×Addr)),(∀x,(x,NameKind.free)∈names->∃c,env.cells.lookup x=some c)->
  (forIn names acc fun x cs=>(if x.2==NameKind.free then do let a ←cellOf env x.1;pure (ForInStep.yield ((x.1,a)::cs))else pure (ForInStep.yield cs):Sem _))=pure (mW env names acc):=by
 intro x0
 induction x0 with
 |nil=>
  intro acc _;exact rfl
 |cons gA r dR=>
  rcases gA with⟨n,k⟩
  intro acc q;have ih:=fun acc=>dR acc fun x z=>q x (.tail _ z);rw[List.forIn_cons,Bk]
  by_cases hk:(k==NameKind.free)=true
  ·have O7:k= .free:=by simpa using hk
   subst O7;refine oE (q n (.head _)) fun c hc=>?_;simp only[hk,if_true];unfold cellOf;simp only[hc,pure_bind,Option.getD_some];exact ih _
  ·simp only[hk,if_false,pure_bind]
   exact ih _
theorem Ng{scope:Scope}(q:∀x,(x,NameKind.free)∈scope.names->∃c,env.cells.lookup x=some c):closureFor scope env=pure (mW env scope.names []):=by
 unfold closureFor;have:=Nf (env:=env) scope.names [] q;simp only[bind_pure];exact this
theorem Gl:∀(names:List (Str×NameKind)) (acc:List (Str×Addr)) (x:Str) (c:Addr),env.cells.lookup x=some c->(∀y a,acc.lookup y=some a->env.cells.lookup y=some a)->((x,NameKind.free)∈names∨(acc.lookup x).isSome=true)->
  (∀y,(y,NameKind.free)∈names->∃c,env.cells.lookup y=some c)->(mW env names acc).lookup x=some c:=by
 intro x0
 induction x0 with
 |nil=>
  intro acc x c hc ha q _
  rcases q with q|q
  ·cases q
  ·refine oE (Option.isSome_iff_exists.mp q) fun a e=>?_
   have z:=ha x a e;rw[hc]at z;show acc.lookup x=some c;rw[e,z]
 |cons gA r ih=>
  rcases gA with⟨n,k⟩
  intro acc x c hc ha q qq;rw[Bk];have qr:∀y,(y,NameKind.free)∈r->∃c,env.cells.lookup y=some c:=fun y z=>qq y (.tail _ z)
  by_cases hk:(k==NameKind.free)=true
  ·have O7:k= .free:=by simpa using hk
   subst O7;rw[if_pos hk];refine oE (qq n (.head _)) fun c' sL=>?_;refine ih _ x c hc (fun y a e=>?_) ?_ qr
   ·rw[List.lookup_cons]at e
    refine bT (y==n) (fun z=>?_) fun z=>?_
    ·
     rw[z]at e;have e:(env.cells.lookup n).getD 0=a:=dm e;rw[sL]at e;rw[eq_of_beq z,sL];exact bq some e
    ·rw[z]at e;exact ha y a e
   ·rcases q with q|q
    ·rcases cC.mp q with q|q
     ·refine .inr ?_
      rw[List.lookup_cons];rw[show(x==n)=true from beq_iff_eq.mpr (dY q).1]
      rfl
     ·exact .inl q
    ·refine .inr ?_
     rw[List.lookup_cons];cases z:x==n with
     |true=>rfl
     |false=>exact q
  ·rw[bG hk]
   refine ih _ x c hc ha ?_ qr
   rcases q with q|q
   ·rcases cC.mp q with q|q
    ·exact absurd (by rw[←(dY q).2];rfl) hk
    ·exact .inl q
   ·exact .inr q
theorem C5{sc:Scope}{fr:List Fr}:∀{names:List (Str×NameKind)},ux sc fr names=true->∀x k,(x,k)∈names->look sc.names x=some k/\((k= .local∨k= .globalImplicit)∨(k= .free/\∃f r,fr=f::r/\look f.sc.names x=some .cell)):=by
 intro x0
 induction x0 with
 |nil=>
  intro _ x k m;exact nomatch m
 |cons gA r ih=>
  rcases gA with⟨y,k'⟩
  intro q x k m;have kk:∀{o:Option NameKind} {k:NameKind},kQ k o=true->o=some k:=fun{o k} z=>by
   induction o using Option.casesOn with
   |none=>exact aP z
   |some k'=>unfold kQ at z;rw[bx z]
  induction k' using NameKind.casesOn with
  | «local» =>
   refine oA (bk.mp q) fun q1 q2=>?_
   rcases cC.mp m with e|m
   ·refine oA (dY e) fun o0 o1=>?_
    obtain rfl:=o0;obtain rfl:=o1;exact⟨kk q1,.inl (.inl rfl)⟩
   ·exact ih q2 x k m
  |free=>
   refine oA (bk.mp q) fun q1 q2=>?_;refine oA (bk.mp q2) fun IV q3=>?_;try clear q2;revert IV;intro q2
   rcases cC.mp m with e|m
   ·refine oA (dY e) fun o0 o1=>?_
    obtain rfl:=o0;obtain rfl:=o1;refine⟨kk q1,.inr ⟨rfl,?_⟩⟩
    induction fr using List.casesOn with
    |nil=>exact aP q2
    |cons f r=>exact⟨f,r,rfl,kk q2⟩
   ·exact ih q3 x k m
  |globalImplicit=>
   refine oA (bk.mp q) fun q1 q2=>?_
   rcases cC.mp m with e|m
   ·refine oA (dY e) fun o0 o1=>?_
    obtain rfl:=o0;obtain rfl:=o1;exact⟨kk q1,.inl (.inr rfl)⟩
   ·exact ih q2 x k m
  |cell=>exact aP q
  |globalExplicit=>exact aP q
section
theorem Et{env:Env}:∀{names:List (Str×NameKind)} {x:Str},
  (names.map fun(n,k)=>if(k==NameKind.free&&env.scope.kind== .function&&env.kindOf n==some .cell)then(n,NameKind.cell)else(n,k)).lookup x =
   (names.lookup x).map fun k=>if(k==NameKind.free&&env.scope.kind== .function&&env.kindOf x==some .cell)then NameKind.cell else k:=by
 intro names
 induction names with
 |nil=>intro x;rfl
 |cons p r dR=>
  intro x
  induction p using Prod.casesOn with|mk n k=>?_
  have ih:= @dR x;show List.lookup x ((if(k==NameKind.free&&env.scope.kind== .function&&env.kindOf n==some .cell)=true then(n,NameKind.cell)else(n,k))::_)=_;refine bT (x==n) (fun hx=>?_) fun hx=>?_
  ·
   have:=eq_of_beq hx;subst this
   by_cases hc:(k==NameKind.free&&env.scope.kind== .function&&env.kindOf x==some .cell)=true
   ·rw[if_pos hc];simp only[List.lookup_cons,hx,Option.map_some,if_pos hc]
   ·rw[bG hc];simp only[List.lookup_cons,hx,Option.map_some,bG hc]
  ·
   by_cases hc:(k==NameKind.free&&env.scope.kind== .function&&env.kindOf n==some .cell)=true
   ·rw[if_pos hc];simp only[List.lookup_cons,hx];exact ih
   ·rw[bG hc];simp only[List.lookup_cons,hx];exact ih
theorem BS{names:List (Str×NameKind)}{x:Str}{k:NameKind}(e:look names x=some k):(x,k)∈names:=by
 rw[iZ]at e;exact mem_of_lookup e
abbrev compEnv(scope:Scope)(C:Addr)(env:Env):Env:= {newEnv scope C env.globals (mW env scope.names []) env.qual none .none (some env) builtinsNs with scope:=relabel scope env}
variable{scope:Scope}
theorem FL(X:az F (env::envs) aa al st h)(Bl:qU scope st.fr=true):∀x,(x,NameKind.free)∈scope.names->∃c,env.cells.lookup x=some c:=by
 intro x m;refine oA (bk.mp Bl) fun f1 f2=>?_;refine oA (C5 f2 x _ m) fun _ q=>?_;have fr:=X.fr;revert fr q;generalize st.fr=IZ;intro q fr;cases fr with
 |cons sc fc r=>
  rcases q with(q|q)|⟨-,f,r',q1,q2⟩
  ·cases q
  ·cases q
  ·(first|exact aq q1|exact aP q1|cases q1)
   refine cF (sc.cells x q2) fun c ov a _=>?_;exact⟨c,a⟩
theorem vZ{IZ:List Fr}:jM h O al (env::envs) IZ aa->∃sc,Ru env sc
 | .cons x _ _=>⟨_,x.base⟩
theorem Nh(X:az F (env::envs) aa al st h)(Bl:qU scope st.fr=true){o:Obj}(ns:h'.Ns h.objs.size fun x=>([]:List (Str×Value)).reverse.lookup x)(sb:Heap.SameBut h.objs.size (h.push o) h'):
  az F (compEnv scope h.objs.size env::env::envs) ([h.objs.size]::aa) al {st with fr:=⟨scope,[]⟩::st.fr} h':=by
 refine oA (bk.mp Bl) fun f1 f2=>?_;have f1:scope.kind= .function:=bx f1;have keep:∀b o',h.get? b=some o'->h'.get? b=some o':=fun b o' e=>by
  have ne:b≠h.objs.size:=Nat.ne_of_lt (gD e);rw[sb.2 b ne];exact Heap.get?_push_of_some _ e
 have inO:∀b,b∈Ob F ([h.objs.size]::aa) al->b=h.objs.size∨b∈Ob F aa al:=fun b q=>by
  rw[aO]at q
  rcases q with q|q|q
  ·exact .inr (aO.mpr (.inl q))
  ·rw[iU]at q
   rcases bR.mp q with q|q
   ·exact .inl (bQ.mp q)
   ·exact .inr (aO.mpr (.inr (.inl q)))
  ·exact .inr (aO.mpr (.inr (.inr q)))
 have S:cM h (Ob F aa al) h' (Ob F ([h.objs.size]::aa) al) []:=by
  refine⟨fun b o' e _=>keep b o' e,fun b o' e q z=>?_,fun _ q=>nomatch q⟩
  rcases inO b z with z|z
  ·exact Nat.ne_of_lt (gD e) z
  ·exact q z
 have fr:=X.fr.aU S (fun _ as' e=>⟨as',e,rfl⟩) fun b o' _ e=>keep b o' e;have cf:=FL X Bl;refine oE (vZ fr) fun PK B=>?_;have hk:∀x k,look scope.names x=some k->(compEnv scope h.objs.size env).kindOf x=some (if(k==NameKind.free&&env.scope.kind== .function&&env.kindOf x==some .cell)then NameKind.cell else k):=fun x k e=>by
  show List.lookup x (scope.names.map fun(n,k)=>if(k==NameKind.free&&env.scope.kind== .function&&env.kindOf n==some .cell)then(n,NameKind.cell)else(n,k))=_;rw[Et,←iZ,e]
  rfl
 have I0:∀x,look scope.names x=some .cell->False:=fun x e=>by
  refine oA (C5 f2 x _ (BS e)) fun _ q=>?_
  rcases q with(q|q)|⟨q,-⟩<;>cases q
 have live:∀a,a∈Ob F ([h.objs.size]::aa) al->∃o,h'.get? a=some o:=fun a q=>by
  rcases inO a q with rfl|q
  ·refine fq (ns) fun o es ep ho _=>?_
   try clear ns;exact⟨o,ho⟩
  ·refine oE (X.live a q) fun o e=>?_
   exact⟨o,keep a o e⟩
 refine⟨.cons ⟨⟨f1,B.gl,B.bt,fun x e=>by rw[hk x _ e];rfl,fun x e=>(I0 x e).elim,fun x e=>?_,fun x e=>by rw[hk x _ e];rfl⟩,.head _,⟨_,ns,fun x mv a b=>nomatch b⟩,fun x e=>(I0 x e).elim,fun x y c e=>(I0 x e).elim,fun x k e=>nomatch e⟩ (fun x e e' r q=>?_) fr,
  X.ow.aU S fun b o' _ e=>keep b o' e,?_,live,fun a q=>?_,fun b o' e=>keep b o' (X.jN b o' e),X.top⟩
 ·rw[hk x _ e]
  split
  ·exact .inr rfl
  ·exact .inl rfl
 ·(first|exact aq q|exact aP q|cases q)
  refine oE (cf x (BS e)) fun c hc=>?_;show(mW env scope.names []).lookup x=_;rw[hc];exact Gl scope.names [] x c hc (fun y a z=>nomatch z) (.inl (BS e)) cf
 ·have nd:=X.nd
  have ne:=X.AG;show(F++((([h.objs.size]::aa).flatten)++flat al)).Nodup;rw[iU,dH];have p:(F++([h.objs.size]++(aa.flatten++flat al))).Perm ([h.objs.size]++(F++(aa.flatten++flat al))):=by
   have z:(F++[h.objs.size]++(aa.flatten++flat al)).Perm ([h.objs.size]++F++(aa.flatten++flat al)):=List.perm_append_comm.append_right _;rw[dH,dH]at z;exact z
  refine p.nodup_iff.mpr ?_;exact gh.mpr ⟨ne,nd⟩
 ·rcases inO a q with rfl|q
  ·exact X.big
  ·exact X.hi a q
end
section
theorem C6{IZ:List Fr}:jM h O al (env::envs) IZ aa->∃f fr,IZ=f::fr/\∀C rm,aa= [C]::rm->jM h O al envs fr rm
 | .cons x _ r=>⟨_,_,rfl,fun C rm e=>by cases e;exact r⟩
theorem az.Sk{C:Addr}(X:az F (env::envs) ([C]::aa) al st h)(k:iN [C] h h'):∃f fr,st.fr=f::fr/\az F envs aa al {st with fr:=fr} h'/\cM h (Ob F ([C]::aa) al) h' (Ob F aa al) [C]/\C∉F:=by
 refine cF (C6 X.fr) fun f fr e q=>?_;have sub:∀b,b∈Ob F aa al->b∈Ob F ([C]::aa) al:=fun b z=>by
  rw[aO]at z ⊢;rw[iU]
  rcases z with z|z|z
  ·exact .inl z
  ·exact .inr (.inl (cO _ z))
  ·exact .inr (.inr z)
 have nd:(F++([C]++(aa.flatten++flat al))).Nodup:=by
  have nd:=X.nd;rw[Ob,iU,dH]at nd;exact nd
 have nC:C∉F:=fun z=>(cg.mp nd).2.2 C z C (.head _) rfl;have nC2:C∉aa.flatten++flat al:=fun z=>(cg.mp (cg.mp nd).2.1).2.2 C (.head _) C z rfl;have nO:∀b,b∈Ob F aa al->b≠C:=fun b z e=>by
  clear nd sub q k X;subst e
  rcases bR.mp z with z|z
  ·exact nC z
  ·exact nC2 z
 have S:cM h (Ob F ([C]::aa) al) h' (Ob F aa al) [C]:=by
  refine⟨fun b o e z=>k b o e z,fun b o e z y=>z (sub b y),fun b z=>?_⟩
  rcases bQ.mp z with rfl
  exact aO.mpr (.inr (.inl (by rw[iU];exact .head _)))
 have kO:∀b o,b∈Ob F aa al->h.get? b=some o->h'.get? b=some o:=fun b o z e=>k b o e fun y=>nO b z (bQ.mp y);refine⟨f,fr,e,⟨(q C aa rfl).aU S (fun _ as' e=>⟨as',e,rfl⟩) fun b o z e=>kO b o (aO.mpr (.inr (.inl z))) e,X.ow.aU S fun b o z e=>kO b o (aO.mpr (.inr (.inr z))) e,?_,fun a z=>?_,fun a z=>X.hi a (sub a z),fun b o e=>k b o (X.jN b o e) fun z=>?_,X.top⟩,S,nC⟩
 ·refine List.Sublist.nodup ?_ nd
  exact List.Sublist.append (j5 _) (List.sublist_append_right _ _)
 ·refine oE (X.live a (sub a z)) fun o e=>?_
  exact⟨o,kO a o z e⟩
 ·rcases bQ.mp z with rfl
  exact kH _ (nu (gD e) (X.hi b (S.sub b z)))
theorem az.PL{C:Addr}(X:az F (env::envs) ([C]::aa) al st h):∃f fr,st.fr=f::fr/\az ([C]++F) envs aa al {st with fr:=fr} h/\cM h (Ob F ([C]::aa) al) h (Ob ([C]++F) aa al) []:=by
 refine cF (C6 X.fr) fun f fr e q=>?_;have sub:∀b,b∈Ob ([C]++F) aa al->b∈Ob F ([C]::aa) al:=fun b z=>by
  rw[aO]at z ⊢;rw[iU]
  rcases z with z|z|z
  ·rcases bR.mp z with z|z
   ·exact .inr (.inl (cP _ z))
   ·exact .inl z
  ·exact .inr (.inl (cO _ z))
  ·exact .inr (.inr z)
 have S:cM h (Ob F ([C]::aa) al) h (Ob ([C]++F) aa al) []:=⟨fun b o e _=>e,fun b o e z y=>z (sub b y),fun b z=>nomatch z⟩;refine⟨f,fr,e,⟨(q C aa rfl).aU S (fun _ as' e=>⟨as',e,rfl⟩) fun b o _ e=>e,X.ow.aU S fun b o _ e=>e,?_,fun a z=>X.live a (sub a z),fun a z=>X.hi a (sub a z),X.jN,X.top⟩,S⟩;have nd:=X.nd;rw[Ob,iU,dH]at nd;have p:(F++([C]++(aa.flatten++flat al))).Perm ([C]++F++(aa.flatten++flat al)):=by
  rw[←dH];exact List.perm_append_comm.append_right _
 exact p.nodup_iff.mp nd
noncomputable def tX(i:Expr)(pq:Pos)(env:Env):Sem Value:=do
 let x ←eval i env
 standAt pq
 let x ←foldedSetIterable i env x
 holding [x] (pyIter x)
variable{pq:Pos}{i:Expr}{k:List MV->St->Option α}{ah:α}
theorem Bm(hs:bU d n tb pm self)(R:bz A d n tb)(X:az F (env::envs) aa al st s.heap)(q:tR i=false)
  (e:(self.ex i st fun v _ aA=>bW v aA fun t au=>match pA t with
   |some l=>k l au
   |Option.none=>Option.none)=some ah):aE (model g.prog g.w) A (tX i pq env) (jT F (env::envs) aa al s k ah) aF s:=by
 refine aj (aN (hs.ex e R X) ?_);rintro v s1 ⟨m,fr,aA,bY,e,X1,ra,bu,bA⟩;refine gX (gq X1 ra.jE e) fun t au aV e9 X2 tt bS=>?_;try clear e;revert e9;intro e;refine aj (aX ?_);rw[sM q];refine aj (aK (aW ?_));refine nE (pA t) (fun z=>?_) fun l z=>?_
 ·rw[z]at e;exact aq e
 ·
  rw[z]at e;exact aN (aT (FH X2 tt z e)) fun v s2 w=>(w.back bS .refl).back bu bA
set_option tactic.hygienic true in
theorem I1(G:fO g consts)(hs:bU d n tb pm self)(R:bz A d n tb)(X:az F (env::envs) aa al st s.heap)
  (e:vB self false i st k=some ah):aE (model g.prog g.w) A (tX i pq env) (jT F (env::envs) aa al s k ah) aF s:=by
 unfold vB at e;refine nE (GQ i) (fun q0=>?_) fun fa q0=>?_
 ·rw[q0]at e
  dsimp only at e;refine bT (tR i) (fun q=>?_) fun q=>?_
  ·rw[q]at e;exact aq e
  ·rw[q,bN]at e
   exact Bm hs R X q e
 ·rw[q0]at e
  dsimp only at e;refine tD (FI q0) fun p pos hi=>?_;clear q0;subst hi
  induction fa using Prod.casesOn with|mk f a=>?_
  dsimp only at e ⊢;refine bT (f==("range":Str)) (fun q1=>?_) fun q1=>?_
  ·
   rw[q1,ir]at e;have:=eq_of_beq q1;clear q1;subst this;refine bT ((iQ [a]|| !iw st "range")) (fun q2=>?_) fun q2=>?_
   ·rw[q2]at e;exact aq e
   ·
    rw[q2,bN]at e;refine oA (gS.mp q2) fun q3 q4=>?_;have q4:iw st "range"=true:=by cases z:iw st "range" <;>simp[z]at q4 ⊢
    have q5:bC [a]=false/\[a].length<=20:=by
     unfold iQ at q3;exact⟨(gS.mp q3).1,by simp⟩
    refine oA (G.bi ("range":Str) (.type "range") rfl) fun b1 b2=>?_;refine aj (g8 (by decide) iX q5.1 q5.2 (fun Q hq=>mT G X q4 b1 b2 hq) ?_);refine eS (aN (hs.ex e R X) ?_) (fz q5.1).1;rintro v s1 ⟨m,fr,aA,bY,e,X1,ra,bu,bA⟩;refine fZ ⟨trivial,?_⟩
    try dsimp only at e
    refine aH (LP e) fun nn o1 e9=>?_;clear e;obtain rfl:=o1;revert e9;intro e
    ·
     refine oA (aG e) fun z e9=>?_;try clear e;revert e9;intro e;refine oA (bk.mp z) fun z1 z2=>?_;have z1:=bx z1;have z2:=bx z2;refine oE (cN.int (cN.tree (ra.jE rfl))) fun t o1=>?_;clear ra;obtain rfl:=o1;refine aT (call_range_1 ?_);refine aj (aX ?_);rw[sM rfl];refine aj (aK (aW ?_));have X2:=X1.push {cls:= .type "range",data:= .fields #[.int 0 s1.toks,.int nn t,.int 1 (s1.toks+1)]};refine aN (aT (CY (s:= {s1 with heap:=s1.heap.push {cls:= .type "range",data:= .fields #[.int 0 s1.toks,.int nn t,.int 1 (s1.toks+1)]},toks:=s1.toks+1+1}) X2 (IsRange.new ..) z2 z1 e)) fun v s2 w=>?_;exact(jT.back (s:=s1) (s':= {s1 with heap:=s1.heap.push {cls:= .type "range",data:= .fields #[.int 0 s1.toks,.int nn t,.int 1 (s1.toks+1)]},toks:=s1.toks+1+1}) (Sp.ext fun b o e=>Heap.get?_push_of_some _ e) ⟨rfl,rfl,rfl⟩ w).back bu bA
  ·
   rw[q1,bN]at e;refine bT (f==("enumerate":Str)) (fun q2=>?_) fun q2=>?_
   ·
    rw[q2,ir]at e;simp only[Bool.not_false,Bool.or_true,ir]at e;exact aq e
   ·
    rw[q2,bN]at e;exact Bm hs R X rfl e
end
section
theorem zE(it:ig s.heap O N I items){Q:Value->Shared->Prop}(h:Q (.ref I) s):wpAny (model g.prog g.w) A (pyIter (.ref I)) Q aF s:=by
 induction it using ig.casesOn with
 |lst a=>exact wpAny_pyIter_listiter a h
 |tup a=>exact wpAny_pyIter_tupleiter a h
 |FF a=>exact wpAny_pyIter_rangeiter a h
 |dX a=>exact wpAny_pyIter_keyiter a h
 |jd a=>exact wpAny_pyIter_keyiter a h
theorem az.perm(X:az F envs aa al st h)(p:F.Perm F'):az F' envs aa al st h:=
 X.gen (fun b o e _=>e) (fun b q=> .inl (p.mem_iff.mpr q)) ((p.append_right _).nodup_iff.mp X.nd) fun a q=>⟨X.live a (aO.mpr (.inl (p.mem_iff.mpr q))),X.hi a (aO.mpr (.inl (p.mem_iff.mpr q)))⟩
theorem cM.perm(p:F.Perm F'):cM h (Ob F aa al) h (Ob F' aa al) []:=by
 refine⟨fun b o e _=>e,fun b o e q z=>q ?_,fun b q=>nomatch q⟩;rw[aO]at z ⊢
 rcases z with z|z
 ·exact .inl (p.mem_iff.mpr z)
 ·exact .inr z
theorem xO{a:Addr}:([a]++(N++F)).Perm (N++([a]++F)):=by
 rw[←dH,←dH];exact List.perm_append_comm.append_right _
theorem FN{IZ:List Fr}:jM h O al (env::envs) IZ aa->∃m,h.Ns env.locals m
 | .cons x _ _=>let ⟨m,a,_⟩:=x.ns;⟨m,a⟩
theorem PM{C:Addr}(hC:h.get? C=none)(k:∀b o,h.get? b=some o->h'.get? b=some o):cM h (Ob F aa al) h' (Ob F ([C]::aa) al) []:=by
 refine⟨fun b o e _=>k b o e,fun b o e q z=>?_,fun b q=>nomatch q⟩;rw[aO,iU]at z
 rcases z with z|z|z
 ·exact q (aO.mpr (.inl z))
 ·rcases bR.mp z with z|z
  ·rw[bQ.mp z,hC]at e;exact aq e
  ·exact q (aO.mpr (.inr (.inl z)))
 ·exact q (aO.mpr (.inr (.inr z)))
variable{cR:Expr}{scope:Scope}{pos:Pos}{acc:Addr}{k:St->List MV->Option α}{ah:α}{l:List MV}
theorem two_in(G:fO g consts)(hs:bU d n tb pm self)(R:bz A d n tb){t i t' i':Expr}{ifs mw:List Expr}
  (e:GR self cR t' i' mw st l k=some ah) (X:az (N++([acc]++F)) (env::envs) aa al st s.heap) (ao:nH s.heap (Ob (N++([acc]++F)) aa al) acc l):
  aE (model g.prog g.w) A (ou (.ListComp cR [⟨t,i,ifs,0⟩,⟨t',i',mw,0⟩] scope pos) [⟨t,i,ifs,0⟩,⟨t',i',mw,0⟩] cR 0 (.ref acc) env) (fun _ s'=>C4 (N++([acc]++F)) (env::envs) aa acc al s k ah s') aF s:=by
 have nm:=zC X;have ci:ou (.ListComp cR [⟨t,i,ifs,0⟩,⟨t',i',mw,0⟩] scope pos) [⟨t,i,ifs,0⟩,⟨t',i',mw,0⟩] cR 0 (.ref acc) env=(tX i' i'.pos env >>= fun C3=>runOwn (.compStart (.ListComp cR [⟨t,i,ifs,0⟩,⟨t',i',mw,0⟩] scope pos) 1 C3 (.ref acc) env) env >>= fun _=>pure ()):=by
  unfold ou tX;simp only[bind_assoc]
  rfl
 rw[ci];refine aj (aN (I1 (pq:=i'.pos) G hs R X e) ?_);rintro w s5 ⟨N',I',OC,uw,wO,h5,rfl,e,X5,UT,qh,nw5,k5,mV⟩;have Er:Sp aa al s.heap wO s5.heap:=qh.trans (Sp.ext k5);have UY:(N'++(N++([acc]++F))).Perm (N'++([acc]++(N++F))):=List.Perm.append_left _ (by rw[←dH,←dH];exact List.perm_append_comm.append_right _);have S5:cM s.heap (Ob (N++([acc]++F)) aa al) s5.heap (Ob (N'++(N++([acc]++F))) aa wO) (aa.flatten++flat al):=by
  have S:=Er.aU (F:=N++([acc]++F));refine⟨S.keep,fun b o e q z=>?_,S.sub⟩;rw[aO]at z
  rcases z with z|z
  ·rcases bR.mp z with z|z
   ·have hb5:=nw5 b z
    rw[qh.keep b o e (fun y=>q (aO.mpr (.inr (.inl y)))) fun y=>q (aO.mpr (.inr (.inr y)))]at hb5;exact aq hb5.symm
   ·exact q (aO.mpr (.inl z))
  ·exact S.off b o e q (aO.mpr (.inr z))
 have zD:=(ao.aU S5 fun o q=>Er.keep _ o q nm.2.1 nm.2.2).aU (cM.perm UY) fun o q=>q;have main:=BR (s:=s5) (s0:= {s with heap:=h5}) (inner:=wA self cR) (gens:=[⟨t,i,ifs,0⟩,⟨t',i',mw,0⟩]) (scope:=scope) (pos:=pos) (depth:=1) (bM:=wO) hs R rfl (fun g' z=>aq z) nw5 (Lk hs R rfl) e (X5.perm UY) (UT.aU (cM.perm UY) fun b o _ e=>e) zD (Sp.ext k5).more ⟨mV.gens,mV.drawn,mV.os⟩;refine aj (BO (iR (BQ main (aT (zE (UT.aU (cM.perm UY) fun b o _ e=>e) main))) ?_));intro r s6 cr
 induction r using Except.casesOn with
 |error _=>exact cr.elim
 |ok fl=>
  obtain⟨KZ,UX,l6,hk,X6,ao6,IY,sm6⟩:=cr;have PN:([acc]++(N++F)).Perm (N++([acc]++F)):=xO;exact aK ⟨KZ,UX,l6,hk,X6.perm PN,ao6.aU (cM.perm PN) fun o q=>q,(qh.more (B:=[acc])).trans IY,⟨sm6.gens,sm6.drawn,sm6.os⟩⟩
inductive Ll:List Comprehension->Prop
 |one {t i ifs:_}:Ll [⟨t,i,ifs,0⟩]
 |two {t i ifs t' i' mw:_}:Ll [⟨t,i,ifs,0⟩,⟨t',i',mw,0⟩]
theorem two_of{t i:Expr}{ifs:List Expr}:∀{r:List Comprehension},LS r=true->Ll (⟨t,i,ifs,0⟩::r)
 | [],_=> .one
 | [⟨t',i',mw,y'⟩],q=>by
  have:y'=0:=bx q;clear q;subst this;exact .two
 |⟨_,_,_,_⟩::_::_,q=>by unfold LS at q;exact aP q
variable{gens:List Comprehension}{I:Addr}{s0:Shared}{items:List MV}
theorem PR(G:fO g consts)(hs:bU d n tb pm self)(R:bz A d n tb)(two:Ll gens)
  (nw:∀a,a∈N->s0.heap.get? a=none) (e:lF self cR gens items st l k=some ah)
  (X:az (N++([acc]++F)) (env::envs) aa al st s.heap) (it:ig s.heap (Ob (N++([acc]++F)) aa al) N I items) (ao:nH s.heap (Ob (N++([acc]++F)) aa al) acc l)
  (sp:Sp ([acc]::aa) bM s0.heap al s.heap) (sm:dQ s0 s):
  dF (model g.prog g.w) A (.compStart (.ListComp cR gens scope pos) 0 (.ref I) (.ref acc) env) (UU F (env::envs) aa acc bM s0 k ah) s:=by
 induction two using Ll.casesOn with
 | @one t i ifs=>
  refine oA (aG (c:=decide ((0:Int)=0)) (x:=k9 (xC self t ifs (wA self cR)) items st l k) e) fun _ e9=>?_;try clear e;revert e9;intro e;have main:=BR (depth:=0) (i:=i) (gens:=[⟨t,i,ifs,0⟩]) (inner:=wA self cR) (scope:=scope) (pos:=pos) hs R rfl (fun g' z=>aq z) nw (Lk hs R rfl) e X it ao sp sm;exact uS main (aT (zE it main))
 | @two t i ifs t' i' mw=>
  refine oA (aG (c:=decide ((0:Int)=0)&&decide ((0:Int)=0)) (x:=k9 (xC self t ifs (GR self cR t' i' mw)) items st l k) e) fun _ e9=>?_;try clear e;revert e9;intro e;have main:=BR (depth:=0) (i:=i) (gens:=[⟨t,i,ifs,0⟩,⟨t',i',mw,0⟩]) (inner:=GR self cR t' i' mw) (scope:=scope) (pos:=pos) hs R rfl (fun g' z=>by cases z;rfl) nw (two_in G hs R) e X it ao sp sm;exact uS main (aT (zE it main))
theorem PS(G:fO g consts)(hs:bU d n tb pm self)(R:bz A d n tb){scope:Scope}{pos:Pos}{I:Addr}{kk:St->List MV->Option α}{ah:α}{s1 s0:Shared}(two:Ll gens)
  {Sl:Value->Addr->Result->Shared->Prop}
  (e:lF self cR gens items {st with fr:=⟨scope,[]⟩::st.fr} [] kk=some ah) (Bl:qU scope st.fr=true)
  (X:az (N++F) (env::envs) aa al st s1.heap) (it:ig s1.heap (Ob (N++F) aa al) N I items) (sp:Sp aa bM s0.heap al h2) (nw:∀a,a∈N->h2.get? a=none)
  (k2:∀b o,h2.get? b=some o->s1.heap.get? b=some o) (sm:dQ s0 s1)
  (Sm:∀acc C s5 aY al' l' fl,kk aY l'=some ah->az ([acc]++F) (compEnv scope C env::env::envs) ([C]::aa) al' aY s5.heap->nH s5.heap (Ob ([acc]++F) ([C]::aa) al') acc l'->
   Sp ([acc]:: [C]::aa) al h2 al' s5.heap->h2.get? acc=none->h2.get? C=none->dQ s0 s5->Sl (.ref acc) C (.ok fl) s5):
  aE (model g.prog g.w) A (newList []) (fun acc s₃=>
   aE (model g.prog g.w) A (newFunctionEnv scope env.globals (mW env scope.names []) [] env.qual none .none (some env)) (fun cenv s₄=>
    dF (model g.prog g.w) A (.compStart (.ListComp cR gens scope pos) 0 (.ref I) acc {cenv with scope:=relabel scope env}) (Sl acc cenv.locals) s₄) aF s₃) aF s1:=by
 refine oA (bk.mp Bl) fun f1 f2=>?_;have f1:scope.kind= .function:=bx f1;refine aT (wpAny_newList ?_ (by simp));generalize ho:({cls:= .type "list",data:= .seq ([]:List Value).toArray}:Obj)=ol;have hf:ol.isFreed=false:=by rw[←ho];rfl
 have X2:=(PD X ol hf).perm xO;have S2:=(rq X ol);have Bj:ig (s1.heap.push ol) (Ob (N++([s1.heap.objs.size]++F)) aa al) N I items:=(it.aU S2 fun b o _ e=>Heap.get?_push_of_some _ e).aU (cM.perm xO) fun b o _ e=>e;have Ea:(s1.heap.push ol).get? s1.heap.objs.size=some ol:=Heap.get?_push_size _ hf;refine aT (wpAny_newFunctionEnv (binds:=[]) (fun x m z=>?_) (fun x m=>nomatch m) (fun h' ns sb=>?_) f1)
 ·refine oA (C5 f2 x.1 x.2 m) fun _ q=>?_
  rw[z]at q
  rcases q with(q|q)|⟨q,-⟩<;>cases q
 ·have G1:∀b o,(s1.heap.push ol).get? b=some o->h'.get? b=some o:=fun b o e=>by
   have ne:b≠(s1.heap.push ol).objs.size:=Nat.ne_of_lt (gD e);rw[sb.2 b ne];exact Heap.get?_push_of_some _ e
  have X3:=Nh X2 Bl ns sb;have S3:cM (s1.heap.push ol) (Ob (N++([s1.heap.objs.size]++F)) aa al) h' (Ob (N++([s1.heap.objs.size]++F)) ([(s1.heap.push ol).objs.size]::aa) al) []:=PM eW G1;have US:=Bj.aU S3 fun b o _ e=>G1 b o e;have ao3:nH h' (Ob (N++([s1.heap.objs.size]++F)) ([(s1.heap.push ol).objs.size]::aa) al) s1.heap.objs.size []:=⟨⟨ol,_,_,G1 _ _ Ea,by rw[←ho],by rw[←ho],by rw[←ho],.nil⟩⟩;have kk2:∀b o,h2.get? b=some o->h'.get? b=some o:=fun b o e=>G1 b o (Heap.get?_push_of_some _ (k2 b o e));have BU:h2.get? s1.heap.objs.size=none:=by
   cases z:h2.get? s1.heap.objs.size with
   |none=>rfl
   |some o=>have:=k2 _ o z;rw[eW]at this;exact aq this
  have nC:h2.get? (s1.heap.push ol).objs.size=none:=by
   cases z:h2.get? (s1.heap.push ol).objs.size with
   |none=>rfl
   |some o=>have:=Heap.get?_push_of_some ol (k2 _ o z);rw[eW]at this;exact aq this
  have main:=PR (s:= {s1 with heap:=h',toks:=s1.toks+([]:List (Str×Value)).length}) (s0:= {s0 with heap:=h2}) (scope:=scope) (pos:=pos) G hs R two nw e X3 US ao3 (Sp.ext kk2) ⟨sm.gens,sm.drawn,sm.os⟩;refine iR main ?_;intro r s5 cr
  induction r using Except.casesOn with
  |error _=>exact cr.elim
  |ok fl=>
   obtain⟨aY,al',l',hk,X5,zD,qh,mV⟩:=cr;exact Sm _ _ s5 aY al' l' fl hk X5 zD qh BU nC ⟨mV.gens,mV.drawn,mV.os⟩
end
variable{cR:Expr}{scope:Scope}{k:MV->Bool->St->Option α}
section
theorem mFrB{v:List Fr}{f:Fr->Bool}(e:(match v with| [x]=>f x|_=>false)=true):∃x,v= [x]/\f x=true:=by
 induction v using List.casesOn with
 |nil=>exact aP e
 |cons x r=>induction r using List.casesOn;exact⟨x,rfl,e⟩;exact aP e
theorem I2(G:fO g consts)(hs:bU d n tb pm self)(R:bz A d n tb){t i:Expr}{ifs:List Expr}{y:Int}{r:List Comprehension}{pos pq:Pos}{wQ:Option (Value->Sem Unit)}{Q:Value->Shared->Prop}
  (X:az F (env::envs) aa al st s.heap) (e:tT self cR (⟨t,i,ifs,y⟩::r) scope st k=some ah)
  (Sm:∀acc C s5 aY al' l' fl h2 aV,(match aY.fr with|_::fr=>k (.lst l') true {aY with fr:=fr}| []=>Option.none)=some ah->az ([acc]++F) (compEnv scope C env::env::envs) ([C]::aa) al' aY s5.heap->nH s5.heap (Ob ([acc]++F) ([C]::aa) al') acc l'->
   Sp aa al s.heap aV h2->Sp ([acc]:: [C]::aa) aV h2 al' s5.heap->h2.get? acc=none->h2.get? C=none->dQ s s5->Em (model g.prog g.w) A wQ Q (.ref acc) C (.ok fl) s5):
  aE (model g.prog g.w) A (comprehension (.ListComp cR (⟨t,i,ifs,y⟩::r) scope pos) scope env pq (newList []) false (eval i env) wQ) Q aF s:=by
 unfold tT at e;refine oA (aG e) fun q e9=>?_;try clear e;revert e9;intro e;refine oA (bk.mp q) fun q1 q2=>?_;refine oA (bk.mp q2) fun IV Bl=>?_;try clear q2;revert IV;intro q2;have:=bx q1;clear q1 q;subst this;have two:=two_of (t:=t) (i:=i) (ifs:=ifs) q2;have cfree:=FL X Bl;refine oA (bk.mp Bl) fun f1 f2=>?_;have f1:scope.kind= .function:=bx f1;refine C0 (g:=⟨t,i,ifs,0⟩) (gs:=r) rfl (Ng cfree) f1 (fun x m z=>?_) (aN (I1 (pq:=pq) G hs R X e) ?_)
 ·refine oA (C5 f2 x.1 x.2 m) fun a _=>?_
  rw[←iZ,a,z]
 ·rintro v s1 ⟨N,I,items,aA,bY,h2,rfl,e,X1,it,bu,nw,k2,bA⟩
  refine oA (aG e) fun fit1 e9=>?_;try clear e;revert e9;intro e;exact PS (Sl:=fun acc C r s'=>Em (model g.prog g.w) A wQ Q acc C r s') G hs R two e fit1 X1 it bu nw k2 bA fun acc C s5 aY al' l' fl hk X5 zD qh na nc mV=>Sm acc C s5 aY al' l' fl h2 bY hk X5 zD bu qh na nc mV
variable{gens:List Comprehension}{pos:Pos}
theorem Ks(G:fO g consts)(hs:bU d n tb pm self)(R:bz A d n tb)
  (X:az F (env::envs) aa al st s.heap) (e:tT self cR gens scope st k=some ah):
  aE (model g.prog g.w) A (eval (.ListComp cR gens scope pos) env) (d9 F (env::envs) aa al s k ah) aF s:=by
 induction gens using List.casesOn with
 |nil=>exact aq e
 |cons g0 r=>
 obtain⟨t,i,ifs,y⟩:=g0;have y0:y=0:=by
  unfold tT at e;refine oA (aG e) fun q e9=>?_;try clear e;revert e9;intro e;exact bx (bk.mp q).1
 subst y0;show aE _ _ (comprehension _ scope env (firstIterPos _ pos) (newList []) false (eval i env)) _ _ _;refine I2 G hs R X e fun acc C s5 aY al' l' fl h2 aV hk X5 zD bu qh BU nC mV=>?_;refine oE (FN X5.fr) fun m hm=>?_;refine⟨m,hm,fun h6 sb6=>?_⟩;have B:iN [C] s5.heap h6:=iN.one sb6.extBut;refine mJ (X5.Sk B) fun f fr e' X6 S6 nF=>?_;rw[e']at hk;have ao6:=zD.aU S6 fun o q=>B _ o q fun z=>nF (cP _ (by rw[bQ.mp z];exact .head _));obtain⟨⟨o,vs,mm,a1,a2,a3,a4,a5⟩⟩:=ao6;have IY:Sp aa aV h2 al' h6:=((qh.but B fun b q=> .inr (by rw[bQ.mp q];exact nC)).less fun b q=>by rw[bQ.mp q];exact BU).less fun b q=>by rw[bQ.mp q];exact nC
 exact⟨.lst l',true,{aY with fr:=fr},al',hk,X6.vI,⟨[acc],.fresh (as:=[]) X6 (.lst a1 a2 a3 a4 a5),fun b q=>by rw[bQ.mp q];exact qZ (pm:=[]) bu.sq BU⟩,bu.trans IY,⟨mV.gens,mV.drawn,mV.os⟩⟩
variable{x:Str}
theorem PT:∀{l:List (Str×NameKind)},HD x l=true->(l.any fun(n,k)=>n==x&&(k== .local||k== .cell))=false:=by
 intro x0
 induction x0 with
 |nil=>
  intro _;exact rfl
 |cons gA r ih=>
  rcases gA with⟨y,k⟩
  intro q;refine oA (bk.mp q) fun q1 q2=>?_;rw[List.any_cons,ih q2,Bool.or_false];refine bT ((y==x&&(k==NameKind.local||k==NameKind.cell))) (fun z=>?_) fun z=>?_
  ·rw[z]at q1;exact aP q1
  ·exact z
theorem C7(X:az F (env::envs) aa al st h){f:Fr}{fr:List Fr}(e:st.fr=f::fr)(q:kQ .local (look f.sc.names x)=true):env.kindOf x=some .local/\env.scope.kind= .function:=by
 have Y:=X.fr;rw[e]at Y;cases Y with
 |cons sc _ _=>
  refine⟨sc.base.loc x ?_,sc.base.kind⟩;cases z:look f.sc.names x with
  |none=>rw[z]at q;exact aP q
  |some k=>rw[z]at q;unfold kQ at q;rw[bx q]
set_option tactic.hygienic true in
theorem Eu(G:fO g consts)(hs:bU d n tb cf.pm self)(R:bz A d n tb){p pe:Pos}{k:cI->St->Option α}(X:az F (env::envs) aa al st s.heap)
  (Ss:oX st x p (.ListComp cR gens scope pe)=true) (h:tT self cR gens scope st (fun v fr aA=>kR cf x v fr aA fun au=>k .aL au)=some ah):
  aE (model g.prog g.w) A (exec (.Assign [.Name x p] (.ListComp cR gens scope pe) pos) env) (gQ cf.pm F (env::envs) aa al s k ah) aF s:=by
 unfold oX at Ss;refine oA (bk.mp Ss) fun c1 c2=>?_;refine oA (bk.mp c2) fun c29 c3=>?_;try clear c2;revert c29;intro c2
 have kl:env.kindOf x=some .local/\env.scope.kind= .function:=by
  exact aH (mFrB c2) fun f z c2=>C7 X z c2
 have hsw:swapsWith (.ListComp cR gens scope pe) (some (.Name x p)) pos.line env=pure true:=by
  show(pure (env.blockKind== .function&&env.kindOf x==some .local&&p.line==pe.line&& !(scope.names.any fun(n,k)=>n==x&&(k== .local||k== .cell))):Sem Bool)=pure true;rw[PT c3,c1,kl.1];unfold Env.blockKind;rw[kl.2]
  rfl
 rw[exec_Assign_Name_used _ _ _ _ hsw];refine aj (aX (aj ?_))
 induction gens using List.casesOn with
 |nil=>exact aq h
 |cons g0 r=>
 obtain⟨t,i,ifs,y⟩:=g0;have y0:y=0:=by
  unfold tT at h;refine oA (aG h) fun q h9=>?_;try clear h;revert h9;intro h;exact bx (bk.mp q).1
 clear hsw Ss;subst y0;refine aj (I2 G hs R X h fun acc C s5 aY al' l' fl h2 aV hk X5 zD bu qh BU nC mV=>?_);refine oE (FN X5.fr) fun m hm=>?_;refine cy (X5.PL) fun f fr e' X6 S6=>?_;rw[e']at hk;have PN:([C]++([acc]++F)).Perm ([acc]++([C]++F)):=xO;have X7:=X6.perm PN;have ao7:=(zD.aU S6 fun o q=>q).aU (cM.perm PN) fun o q=>q;obtain⟨⟨o,vs,mm,a1,a2,a3,a4,a5⟩⟩:=ao7;have IY:Sp aa aV h2 al' s5.heap:=(qh.less fun b q=>by rw[bQ.mp q];exact BU).less fun b q=>by rw[bQ.mp q];exact nC
 have sqB:Sq cf.pm aa al s.heap al' s5.heap:=(bu.trans IY).sq;refine aj (aX (aT (wpAny_bindName (FE (F:=[C]++F) (s0:=s) X7.vI ⟨[acc],.fresh (as:=[]) X7 (.lst a1 a2 a3 a4 a5),fun b q=>by rw[bQ.mp q];exact qZ (pm:=[]) bu.sq BU⟩ sqB hk fun h7 tk Us al8 hk8 X8 sq8 keep8=>?_))));refine fq (hm) fun oc es ep ZJ rest=>?_;try clear hm;refine⟨m,⟨oc,es,ep,keep8 C oc (cP _ (bQ.mpr rfl)) ZJ,rest⟩,fun h9 sb9=>?_⟩;have B:iN [C] h7 h9:=iN.one sb9.extBut
 have nCs:s.heap.get? C=none∨C∈aa.flatten∨C∈flat al:=by
  rcases qZ (pm:=[]) bu.sq nC with z|z|z
  ·exact .inr (.inr z)
  ·exact .inr (.inl z)
  ·exact .inl z
 refine aK (aK ⟨.aL,Us,al8,hk8,X8.IW B,.aL,⟨fun b o e p' q'=>B b o (sq8.keep b o e p' q') fun z=>?_,sq8.sub,sq8.heads⟩,mV.trans ⟨rfl,rfl,rfl⟩⟩);rw[bQ.mp z]at e p' q'
 rcases nCs with y|y|y
 ·rw[y]at e;exact aq e
 ·exact p' y
 ·exact q' y
end
set_option backward.match.sparseCases true
variable{N2 Np:List Addr}
section
set_option backward.match.sparseCases false in
theorem mFr{β:Type}{v:List Fr}{f:Fr->Option β}{o:β}(e:(match v with| [x]=>f x|_=>Option.none)=some o):∃x,v= [x]/\f x=some o:=by
 induction v using List.casesOn with
 |nil=>exact aq e
 |cons x r=>induction r using List.casesOn;exact⟨x,rfl,e⟩;exact aq e
class inductive PV(h:Heap)(O:List Addr)(al:Al):List (Str×MV)->List Value->Prop
 |nil:PV h O al [] []
 |cons {x t v r vs:_}:cS h O al t v->(∀k,t= .own k->x=k)->PV h O al r vs->PV h O al ((x,t)::r) (v::vs)
theorem PV.iT{vs}(x:PV h O al [] vs):vs= []:=by cases x;rfl
theorem PV.eT{x t r vs}(p:PV h O al ((x,t)::r) vs):∃v r',vs=v::r'/\cS h O al t v/\(∀k,t= .own k->x=k)/\PV h O al r r':=by
 cases p with
 |cons a b c=>exact⟨_,_,rfl,a,b,c⟩
theorem PV.sp{r vs}(x:PV h (Ob F aa al) al r vs)(sp:Sp aa al h al' h'):PV h' (Ob F aa al') al' r vs:=by
 induction x with
 |nil=>exact .nil
 |cons a b _ ih=>exact .cons (a.aU (Sp.aU (F:=F) sp) sp.heads) b ih
theorem PV.append{r vs r' vs'}(x:PV h O al r vs)(y:PV h O al r' vs'):PV h O al (r++r') (vs++vs'):=by
 induction x with
 |nil=>exact y
 |cons a b _ ih=>exact .cons a b ih
theorem PV.reverse{r vs}(x:PV h O al r vs):PV h O al r.reverse vs.reverse:=by
 induction x with
 |nil=>exact .nil
 |cons a b _ ih=>
  rw[List.reverse_cons,List.reverse_cons];exact ih.append (.cons a b .nil)
variable{ah:α}
set_option tactic.hygienic true in
theorem zF{x:Str}{t:MV}{v:Value}{k:St->Option α}(X:az F (env::envs) aa al st s.heap)(tv:cS s.heap (Ob F aa al) al t v)(mk:∀k,t= .own k->x=k)(e:gZ x t st k=some ah):
  wpAny (model g.prog g.w) A (bindName env x v) (qg F (env::envs) aa al s k ah) aF s:=by
 unfold gZ at e;refine aH (GU e) fun au hb e9=>?_;clear e;revert e9;intro e
 ·
  exact wpAny_bindName (AN X hb tv mk fun h' tk X2 bS _=>⟨au,e,X2,bS,⟨rfl,rfl,rfl⟩⟩)
theorem PU:∀{r:List (Str×MV)} {vs:List Value} {st:St} {s:Shared} {k:St->Option α},PV s.heap (Ob F aa al) al r vs->az F (env::envs) aa al st s.heap->qV r st k=some ah->
  wpAny (model g.prog g.w) A (assignInOrder (r.map fun p=>bindName env p.1) vs) (qg F (env::envs) aa al s k ah) aF s:=by
 intro r
 induction r with
 |nil=>
  intro vs st s k pv X e;have:=pv.iT;clear pv;subst this;exact aR ⟨st,e,X,.refl,.refl⟩
 |cons a r ih=>
  obtain⟨x,t⟩:=a;intro vs st s k pv X e;refine mJ (pv.eT) fun v r' o2 tv mk pv9=>?_;try clear pv;obtain rfl:=o2;revert pv9;intro pv;have e1:(gZ x t st fun aA=>qV r aA k)=some ah:=e;refine aD (wpAny_holding (CF (zF X tv mk e1) ?_));rintro u s1 ⟨aA,e,X1,bu,bA⟩;exact CF (ih (pv.sp bu) X1 e) fun u s2 w=>w.back bu bA
variable{ts:List Expr}
theorem BV{e:Expr}(q:jL (e::ts)=true):∃x p,e= .Name x p/\jL ts=true:=by induction e using Expr.casesOn<;>first|exact aP q|exact⟨_,_,rfl,q⟩
theorem Ku:∀{ts:List Expr} {r:List (Str×MV)} {vs:List Value} {st:St} {s:Shared} {k:St->Option α},jL ts=true->r.map (·.1)=d8 ts->PV s.heap (Ob F aa al) al r vs->az F (env::envs) aa al st s.heap->qV r st k=some ah->
  wpAny (model g.prog g.w) A (assignInOrder ((assignEach ts env).map (·.2)) vs) (qg F (env::envs) aa al s k ah) aF s:=by
 intro ts
 induction ts with
 |nil=>
  intro r vs st s k an nm pv X e
  induction r using List.casesOn with
  |nil=>have:=pv.iT;subst this;exact aR ⟨st,e,X,.refl,.refl⟩
  |cons _ _=>exact nomatch nm
 |cons c ts ih=>
  intro r vs st s k an nm pv X e;refine cF (BV an) fun y p o2 an9=>?_;try clear an;obtain rfl:=o2;revert an9;intro an
  induction r using List.casesOn with
  |nil=>exact nomatch nm
  |cons a r=>
   obtain⟨x,t⟩:=a;refine oA (List.cons.inj nm) fun n1 n2=>?_;have n1:x=y:=n1;clear nm;subst n1;have e1:(gZ x t st fun aA=>qV r aA k)=some ah:=e
   ·refine mJ (pv.eT) fun v vs o2 tv mk pv9=>?_
    try clear pv;obtain rfl:=o2;revert pv9;intro pv;refine aD (wpAny_holding ?_);refine aD (wpAny_standAt (CF (zF X tv mk e1) ?_));rintro u s1 ⟨aA,e,X1,bu,bA⟩;exact CF (ih an n2 (pv.sp bu) X1 e) fun u s2 w=>w.back bu bA
inductive zG(pm:List Str)(h:Heap)(O:List Addr):Option (Str×MV)->List Addr->Prop
 |none:zG pm h O Option.none []
 |some {x m a as:_}:cJ x pm=false->c9 h O m (a::as)->zG pm h O (some (x,m)) (a::as)
class inductive PW(h:Heap)(O:List Addr)(pd:Option (Str×MV))(N:List Addr):List (Str×MV)->List Value->Prop
 |nil:PW h O pd N [] []
 |tree {x t v r vs:_}:Tree h O t v->PW h O pd N r vs->PW h O pd N ((x,t)::r) (v::vs)
 |own {x m a as r vs:_}:pd=some (x,m)->N=a::as->PW h O pd N r vs->PW h O pd N ((x,.own x)::r) (.ref a::vs)
theorem stpN(sp:Sp aa al h al' h')(nw:∀b,b∈N2->b∈Np∨b∈flat al∨b∈aa.flatten∨h.get? b=none):cM h (Ob (Np++F) aa al) h' (Ob (N2++F) aa al') (aa.flatten++flat al):=by
 have S:=Sp.aU (F:=Np++F) sp;refine⟨S.keep,fun b o e q z=>?_,S.sub⟩;have q':=S.off b o e q;rw[aO]at z q q'
 rcases z with z|z
 ·rcases bR.mp z with z|z
  ·rcases nw b z with y|y|y|y
   ·exact q (.inl (cP _ y))
   ·exact q (.inr (.inr y))
   ·exact q (.inr (.inl y))
   ·rw[y]at e;exact aq e
  ·exact q' (.inl (cO _ z))
 ·exact q' (.inr z)
inductive C8(pm:List Str)(F:List Addr)(envs:List Env)(aa:List (List Addr))(al:Al)(s:Shared)(ts es:List Expr)(pd:Option (Str×MV))(Np:List Addr)(k:List (Str×MV)->Option (Str×MV)->St->Option α)(ah:α)(vs:List Value)(s':Shared):Prop
 |mk (r:_) (pD:_) (N2:_) (aY:_) (al':_) (e:k r pD aY=some ah) (lv:vs.length=es.length) (nm:r.map (·.1)=d8 ts) (X:az (N2++F) envs aa al' aY s'.heap) (P:zG pm s'.heap (Ob (N2++F) aa al') pD N2)
  (pw:PW s'.heap (Ob (N2++F) aa al') pD N2 r vs) (sp:Sp aa al s.heap al' s'.heap) (nw:∀b,b∈N2->b∈Np∨b∈flat al∨b∈aa.flatten∨s.heap.get? b=none) (kp:pd≠Option.none->N2=Np/\pD=pd) (sm:dQ s s'):C8 pm F envs aa al s ts es pd Np k ah vs s'
variable{es:List Expr}{pd:Option (Str×MV)}
theorem PX{t c:Expr}{k:List (Str×MV)->Option (Str×MV)->St->Option α}{st:St}(e:uz cf self (t::ts) (c::es) pd st k=some ah):∃x p,t= .Name x p:=by induction t using Expr.casesOn<;>first|exact⟨_,_,rfl⟩|exact aq e
theorem Ni{t:Expr}{k:List (Str×MV)->Option (Str×MV)->St->Option α}{st:St}{P:Prop}(e:uz cf self (t::ts) [] pd st k=some ah):P:=by induction t using Expr.casesOn<;>exact aq e
def Nj(cf:Cf)(self:Ev)(A:Around)(F:List Addr)(env:Env)(envs:List Env)(aa:List (List Addr))(pos:Pos)(ah:α)(ts es:List Expr):Prop:=∀{pd:Option (Str×MV)} {Np:List Addr} {k:List (Str×MV)->Option (Str×MV)->St->Option α} {st:St} {al:Al} {s:Shared},
  az (Np++F) (env::envs) aa al st s.heap->zG cf.pm s.heap (Ob (Np++F) aa al) pd Np->uz cf self ts es pd st k=some ah->
  aE (model g.prog g.w) A (spliced (backTo pos (starEach es env))) (C8 cf.pm F (env::envs) aa al s ts es pd Np k ah) aF s
theorem vU.PY{aA:St}{m:MV}{v:Value}(ri:vU F envs aa al aA h m true v N)(ho:ji m=true):∃a as,v= .ref a/\N=a::as/\az ((a::as)++F) envs aa al aA h/\c9 h (Ob ((a::as)++F) aa al) m (a::as):=by
 cases ri with
 |tree _ q=>rw[q rfl]at ho;exact aP ho
 |own _=>exact aP ho
 |fresh a b=>exact⟨_,_,rfl,rfl,a,b⟩
variable{pos p:Pos}{s1:Shared}{bY:Al}
theorem WD(IH:Nj cf self A F env envs aa pos ah ts es){x:Str}{c:Expr}{Np:List Addr}{k:List (Str×MV)->Option (Str×MV)->St->Option α}{aA:St}{s:Shared}{al:Al}{m:MV}{fr:Bool}{v:Value}
  (P:zG cf.pm s.heap (Ob (Np++F) aa al) pd Np) (z:ji m=true) (e:cond (fr&&wh pd&& !cJ x cf.pm) (uz cf self ts es (some (x,m)) aA fun r pD au=>k ((x,.own x)::r) pD au) Option.none=some ah)
  (ra:gf (Np++F) (env::envs) aa al s.heap bY aA s1.heap m fr v) (bu:Sp aa al s.heap bY s1.heap) (bA:dQ s s1):
  aE (model g.prog g.w) A (spliced (backTo pos (starEach es env))) (fun vs s2=>C8 cf.pm F (env::envs) aa al s (.Name x p::ts) (c::es) pd Np k ah (v::vs) s2) aF s1:=by
 refine oA (aG e) fun y e2=>?_;clear e;refine oA (bk.mp y) fun y12 y3=>?_;refine oA (bk.mp y12) fun y1 y2=>?_;cases P with
 |some _ _=>exact aP y2
 |none=>
  clear y12 y;subst y1;refine aH (ra) fun Nn ri hN=>?_;try clear ra;refine mJ (ri.PY z) fun a as o2 o3 Xf oo=>?_;obtain rfl:=o2;clear ri;obtain rfl:=o3;refine aN (IH (Np:=a::as) Xf (.some (Hs y3) oo) e2) ?_;rintro vs s2 ⟨r,pD,N2,au,aV,e,lv,nm,X2,P2,pw,bS,nw2,kp,eF⟩;refine oA (kp (fun z=>nomatch z)) fun o0 o1=>?_;clear nw2;obtain rfl:=o0;clear kp;obtain rfl:=o1;exact⟨(x,.own x)::r,_,_,au,aV,e,bq (· +1) lv,bq (List.cons x) nm,X2,P2,.own rfl rfl pw,bu.trans bS,fun b hb=> .inr (hN b hb),fun z=>absurd rfl z,bA.trans eF⟩
theorem Su(IH:Nj cf self A F env envs aa pos ah ts es){x:Str}{c:Expr}{Np:List Addr}{k:List (Str×MV)->Option (Str×MV)->St->Option α}{aA:St}{s:Shared}{al:Al}{m:MV}{fr:Bool}{v:Value}
  (P:zG cf.pm s.heap (Ob (Np++F) aa al) pd Np) (nF:∀b,b∈Np++F->b∉aa.flatten/\b∉flat al) (e:(bW m aA fun t au=>uz cf self ts es pd au fun r pD bX=>k ((x,t)::r) pD bX)=some ah)
  (X1:az (Np++F) (env::envs) aa bY aA s1.heap) (ra:gf (Np++F) (env::envs) aa al s.heap bY aA s1.heap m fr v) (bu:Sp aa al s.heap bY s1.heap) (bA:dQ s s1):
  aE (model g.prog g.w) A (spliced (backTo pos (starEach es env))) (fun vs s2=>C8 cf.pm F (env::envs) aa al s (.Name x p::ts) (c::es) pd Np k ah (v::vs) s2) aF s1:=by
 refine gX (gq X1 ra.jE e) fun t au aV e9 X2 tt bS=>?_;try clear e;revert e9;intro e;have I3:=bu.trans bS
 have P2:zG cf.pm s1.heap (Ob (Np++F) aa aV) pd Np:=by
  clear e;cases P with
  |none=>exact .none
  |some a b=>exact .some a (b.aU (Sp.aU (F:=_++F) I3) fun b o hb e=>I3.keep b o e (nF b (cP _ hb)).1 (nF b (cP _ hb)).2)
 refine aN (IH X2 P2 e) ?_;rintro vs s2 ⟨r,pD,N2,bX,qE,e,lv,nm,X3,P3,pw,gr,nw3,kp,jm⟩;exact⟨(x,t)::r,pD,N2,bX,qE,e,bq (· +1) lv,bq (List.cons x) nm,X3,P3,.tree (tt.aU (stpN gr nw3)) pw,I3.trans gr,
  fun b hb=>(nw3 b hb).elim .inl fun y=> .inr (y.elim (I3.sub b) fun y=>y.elim (fun y=> .inr (.inl y)) (qZ (pm:=[]) I3.sq)),kp,bA.trans jm⟩
theorem par_ok(hs:bU d n tb cf.pm self)(R:bz A d n tb):∀{es:List Expr},bC es=false->Nj cf self A F env envs aa pos ah ts es:=by
 induction ts with
 |nil=>
  intro es q pd Np k st al s X P e
  induction es using List.casesOn with
  |nil=>exact fZ ⟨[],pd,Np,st,al,e,rfl,rfl,X,P,.nil,.refl,fun b z=> .inl z,fun _=>⟨rfl,rfl⟩,.refl⟩
  |cons _ _=>exact aq e
 |cons t ts ih=>
  intro es q pd Np k st al s X P e
  induction es using List.casesOn with
  |nil=>exact Ni e
  |cons c es=>
   refine tD (PX e) fun x p o2=>?_;obtain rfl:=o2;have e1:(self.ex c st fun v fr aA=>
    cond (cJ x cf.uu&&ji v)
     (cond (fr&&wh pd&& !cJ x cf.pm) (uz cf self ts es (some (x,v)) aA fun r pD au=>k ((x,.own x)::r) pD au) Option.none)
     (bW v aA fun t au=>uz cf self ts es pd au fun r pD bX=>k ((x,t)::r) pD bX))=some ah:=e
   clear e;refine eS (aN (hs.ex e1 R X) ?_) (fz q).1;rintro v s1 ⟨m,fr,aA,bY,e,X1,ra,bu,bA⟩;refine bT ((cJ x cf.uu&&ji m)) (fun z=>?_) fun z=>?_
   ·exact WD (ih (fz (env:=env) q).2) P (bk.mp z).2 (by rw[z]at e;exact e) ra bu bA
   ·exact Su (ih (fz (env:=env) q).2) P (fun b hb=>IQ X b hb) (by rw[z]at e;exact e) X1 ra bu bA
set_option tactic.hygienic true in
theorem WE{r:List (Str×MV)}{vs:List Value}{k:St->Option α}(X:az (N++F) envs aa al st h)(P:zG pm h (Ob (N++F) aa al) pd N)(pw:PW h (Ob (N++F) aa al) pd N r vs)(e:Ct pd st k=some ah)(hN:uE aa bM h2 N)(sq:Sq pm aa bM h2 al h):
  ∃aY al',k aY=some ah/\az F envs aa al' aY h/\PV h (Ob F aa al') al' r vs/\Sq pm aa bM h2 al' h:=by
 cases P with
 |none=>
  refine⟨st,al,e,X,?_,sq⟩;clear e
  induction pw with
  |nil=>exact .nil
  | @tree x t v r vs tt _ ih=>
   have nt:∀k,t≠ .own k:=fun k ee=>by rw[ee]at tt;exact tt.no rfl
   exact .cons (by induction t using MV.casesOn<;>first|exact tt|exact absurd rfl (nt _)) (fun k ee=>absurd ee (nt k)) ih
  |own a _ _ _=>exact aq a
 | @some x m a as hx oo=>
  unfold Ct at e
  try dsimp only at e
  refine aH (mFr e) fun f hf e9=>?_;clear e;revert e9;intro e
  ·
   obtain⟨sfr,UP⟩:=st;subst hf;have Xw:=X.weaken (vs':=del f.vs x) fun y mv hl=>by
    have hl:=(j4 hl).2
    ·exact hl
   have Yw:=X.fr;have Z1:∀y,look (del f.vs x) y≠some (.own x):=fun y hl=>by
    have ne:=(j4 hl).1;have hl:=(j4 hl).2
    ·
     cases Yw with
     |cons sc cl r=>exact ne (sc.mark y x hl).symm
   have Xn:=Xw.Py Z1 oo;refine⟨_,_,e,Xn,?_,⟨sq.keep,fun b q=>?_,fun k' as' zz ee=>?_⟩⟩
   ·have sJ:∀b,b∈Ob F aa ((x,a::as)::del al x)->b∈Ob ((a::as)++F) aa al:=fun b q=>by
     rw[aO]at q ⊢
     rcases q with q|q|q
     ·exact .inl (cO _ q)
     ·exact .inr (.inl q)
     ·rcases bR.mp q with q|q
      ·exact .inl (cP _ q)
      ·exact .inr (.inr (eY x q))
    have S:cM h (Ob ((a::as)++F) aa al) h (Ob F aa ((x,a::as)::del al x)) []:=⟨fun _ _ e _=>e,fun b o _ q z=>q (sJ b z),fun _ q=>nomatch q⟩;clear e
    induction pw with
    |nil=>exact .nil
    | @tree x' t v r vs tt _ ih=>
     have nt:∀k,t≠ .own k:=fun k ee=>by rw[ee]at tt;exact nomatch tt
     have t2:=tt.aU S;exact .cons (by induction t using MV.casesOn<;>first|exact t2|exact absurd rfl (nt _)) (fun k ee=>absurd ee (nt k)) ih
    | @own x' m' a' as' r vs h1 h3 _ ih=>
     (first|exact aq h1|exact aP h1|cases h1)
     cases h3
     refine .cons (fun jF e2=>?_) (fun k ee=>by cases ee;rfl) ih;rw[bg,j0]at e2;cases e2;exact⟨a,as,rfl,rfl⟩
   ·rcases bR.mp q with q|q
    ·exact hN b q
    ·exact sq.sub b (eY x q)
   ·have hk:¬x=k':=fun e3=>by rw[e3,zz]at hx;exact aP hx.symm
    rw[bg,jY.mpr hk,bN,iG,bG hk]at ee;exact sq.heads k' as' zz ee
theorem PZ:∀{es:List Expr},qW.wC ts es=true->ts.length=es.length:=by
 induction ts with
 |nil=>intro es q;induction es using List.casesOn with|nil=>rfl|cons _ _=>exact aP q
 |cons _ ts ih=>intro es q;induction es using List.casesOn with|nil=>exact aP q|cons _ es=>exact bq (· +1) (ih q)
theorem zH:jL ts=true->(d8 ts).length=ts.length:=by
 induction ts with
 |nil=>exact fun _=>rfl
 |cons e ts ih=>intro q;obtain⟨x,p,rfl,q⟩:=BV q;exact bq (· +1) (ih q)
theorem P4{st:St}{line:Nat}{x:Str}(q:vD st line (.Name x p::ts)=true):(p.line==line)=true/\(∃f r,st.fr=f::r/\kQ .local (look f.sc.names x)=true)/\vD st line ts=true:=by
 refine oA (bk.mp q) fun q1 q2=>?_;refine oA (bk.mp q1) fun q19 q3=>?_;try clear q1;revert q19;intro q1;refine⟨q1,?_,q2⟩;clear q q1 q2;obtain⟨fr,ow⟩:=st
 induction fr using List.casesOn with
 |nil=>exact aP q3
 |cons f r=>exact⟨f,r,rfl,q3⟩
theorem Nk{st:St}{line:Nat}{e:Expr}(q:vD st line (e::ts)=true):∃x p,e= .Name x p:=by induction e using Expr.casesOn<;>first|exact aP q|exact⟨_,_,rfl⟩
theorem Nl(X:az F (env::envs) aa al st h){line:Nat}:vD st line ts=true->(ts.filterMap fun
  | .Name id pos=>if env.kindOf id==some .local&&pos.line==line then some id else none
  |_=>none)=d8 ts:=by
 induction ts with
 |nil=>exact fun _=>rfl
 |cons e ts ih=>
  intro q;refine tD (Nk q) fun x p o2=>?_;obtain rfl:=o2;refine dh (P4 q) fun q1 o1 q2=>?_;refine cF (o1) fun f fr z q3=>?_;try clear o1;have kl:env.kindOf x=some .local:=(C7 X z q3).1;rw[List.filterMap_cons]
  have:(if(env.kindOf x==some NameKind.local&&p.line==line)=true then some x else none)=some x:=by
   rw[kl,q1];rfl
  dsimp only;rw[this,ih q2]
  rfl
theorem Nm:jL ts=true->bC ts=false:=by
 induction ts with
 |nil=>exact fun _=>rfl
 |cons e ts ih=>intro q;obtain⟨x,p,rfl,q⟩:=BV q;exact ih q
variable{l:List Str}
theorem r8{a b:Str}(nd:(a::l).Nodup)(m:b∈l):(b==a)=false:=jY.mpr fun e=>(gh.mp nd).1 (e▸m)
theorem Kv(nd:l.Nodup)(q:l.length=2∨l.length=3):l.eraseDups.length=l.length:=by
 rcases q with q|q
 ·revert nd
  exact ju q fun a _ q=>ju q fun b _ q=>lenZ q fun nd=>by
   simp only[List.eraseDups_cons,List.filter_cons,r8 nd (.head _),Bool.not_false,if_true,List.filter_nil,List.eraseDups_nil,jl]
 ·revert nd
  exact ju q fun a _ q=>ju q fun b _ q=>ju q fun c _ q=>lenZ q fun nd=>by
   simp only[List.eraseDups_cons,List.filter_cons,r8 nd (.head _),r8 nd (.tail _ (.head _)),r8 (gh.mp nd).2 (.head _),Bool.not_false,if_true,List.filter_nil,List.eraseDups_nil,jl]
set_option backward.match.sparseCases true in
theorem Sv{e:Expr}:Cj e=false->(match e with| .Starred .. =>true|_=>false)=false:=by intro q;induction e using Expr.casesOn<;>first|rfl|exact aP q.symm
set_option backward.match.sparseCases true in
theorem Sw:bC es=false->(es.any fun| .Starred .. =>true|_=>false)=false:=by
 induction es with
 |nil=>exact fun _=>rfl
 |cons e r ih=>
  intro q;refine oA (gS.mp (show(Cj e||bC r)=false from q)) fun q1 q2=>?_;rw[List.any_cons,ih q2,Bool.or_false];exact Sv q1
variable{tp ep:Pos}
theorem Kw{x1 y1}(X:az F (env::envs) aa al st h)(hk:env.scope.kind= .function)(hl:ts.length=2∨ts.length=3)(le:ts.length=es.length)(an:jL ts=true)(nd:(d8 ts).Nodup)(ns:bC es=false)
  (bt:vD st (HC ts) ts=true) (q1:es.all (foldedForSure 8)=false) (q2:es.all (constantsAlone 8)=false):swappedStores [.Tuple ts x1 tp] (.Tuple es y1 ep) env=pure (some (d8 ts)):=by
 have c1:(!(ts.length==2||ts.length==3)||es.length != ts.length||env.blockKind != .function)=false:=by
  unfold Env.blockKind;rw[hk,←le]
  rcases hl with e|e<;>rw[e]<;>rfl
 have bn:=Nl X bt;have nl:=zH an;have ed:=Kv nd (by rw[nl];exact hl);refine(bG (fun hc=>rX (c1.symm.trans hc))).trans ?_;refine(bG (fun hc=>rX ((Sw ns).symm.trans hc))).trans ?_;have bn2:∀nm:List Str,nm=d8 ts→(if(nm.length != ts.length||nm.eraseDups.length != nm.length)=true then pure none else if es.all (foldedForSure 8)=true then pure none else if es.all (constantsAlone 8)=true then(do let _ ←(unsupported "assign.tuple-of-constant-expressions:order-of-the-stores":Sem PUnit);pure (some nm))else pure (some nm):Sem (Option (List Str)))=pure (some (d8 ts)):=by
  rintro nm rfl;have c3:((d8 ts).length != ts.length||(d8 ts).eraseDups.length != (d8 ts).length)=false:=by rw[nl,ed,nl];simp
  rw[bG (by rw[c3];exact rX),bG (by rw[q1];exact rX),bG (by rw[q2];exact rX)]
 exact bn2 _ bn
theorem Nq{x1 y1}(hl:(ts.length==2||ts.length==3)=false):swappedStores [.Tuple ts x1 tp] (.Tuple es y1 ep) env=pure none:=by
 exact if_pos (c:=(!(ts.length==2||ts.length==3)||es.length != ts.length||env.blockKind != .function)=true) (by rw[hl];rfl)
set_option tactic.hygienic true in
theorem st_Par(hs:bU d n tb cf.pm self)(R:bz A d n tb){x1 y1}{k:cI->St->Option α}(X:az F (env::envs) aa al st s.heap)
  (h:(match qW ts es st with
   |some b=>uz cf self ts es Option.none st fun r pd aA=>Ct pd aA fun au=>qV (cond b r.reverse r) au fun bX=>k .aL bX
   |Option.none=>Option.none)=some ah):
  aE (model g.prog g.w) A (exec (.Assign [.Tuple ts x1 tp] (.Tuple es y1 ep) pos) env) (gQ cf.pm F (env::envs) aa al s k ah) aF s:=by
 refine oE (vZ X.fr) fun PK B0=>?_;have hk:=B0.kind;refine aH (mOptB h) fun b hb h9=>?_;clear h;revert h9;intro h
 ·
  unfold qW at hb;refine bT ((!(jL ts&&(qW.wC ts es&&(n8 (d8 ts)&&(!bC es&&vA 20 ts)))))) (fun z=>?_) fun z=>?_
  ·rw[z]at hb;exact aq hb
  ·
   rw[z,bN]at hb;have z:(jL ts&&(qW.wC ts es&&(n8 (d8 ts)&&(!bC es&&vA 20 ts))))=true:=by
    cases zz:(jL ts&&(qW.wC ts es&&(n8 (d8 ts)&&(!bC es&&vA 20 ts))))with
    |true=>rfl
    |false=>rw[zz]at z;exact aP z.symm
   refine oA (bk.mp z) fun z1 z9=>?_;try clear z;revert z9;intro z;refine oA (bk.mp z) fun z2 z9=>?_;try clear z;revert z9;intro z;refine oA (bk.mp z) fun z3 z9=>?_;try clear z;revert z9;intro z;refine oA (bk.mp z) fun z4 z5=>?_;have z4:bC es=false:=by cases zz:bC es<;>simp[zz]at z4 ⊢
   have le:=PZ z2;have l20:=BG z5;have nd:=vK z3;rw[exec_Assign];refine aj (aX ?_);have s0:swapsWithSole [.Tuple ts x1 tp] (.Tuple es y1 ep) pos.line env=pure false:=rfl;rw[s0];refine aj (aK ?_);rw[bG (by decide)];refine aj (K6 (aN (par_ok (Np:=[]) hs R z4 X .none h) ?_));rintro vs s1 ⟨r,pD,N2,aA,bY,h,lv,nm,X1,P1,pw,bu,nw1,-,bA⟩;refine⟨xG (by rw[lv,←le];exact l20),?_⟩;have hN:uE aa al s.heap N2:=fun b hb=>(nw1 b hb).resolve_left (fun z=>nomatch z);refine mJ (WE X1 P1 pw h hN bu.sq) fun au aV h9 X2 pv wM=>?_;try clear h;revert h9;intro h;have kk:∀b o,s1.heap.get? b=some o→(s1.heap.push {cls:= .type "tuple",data:= .seq vs.toArray}).get? b=some o:=fun b o e=>Heap.get?_push_of_some _ e;have ht:∀{hp:Heap},(∀b o,(s1.heap.push {cls:= .type "tuple",data:= .seq vs.toArray}).get? b=some o→hp.get? b=some o)→hp.IsTuple s1.heap.objs.size vs.toArray:=fun q=>⟨_,q _ _ (Heap.get?_push_size _ rfl),rfl,_,rfl⟩;have hT:=ht fun b o e=>e;have lr:r.length=ts.length:=by have:=bq List.length nm;rw[bI,zH z1]at this;exact this
   have UZ:∀h',Heap.ExtBut (s1.heap.push {cls:= .type "tuple",data:= .seq vs.toArray}).objs.size (s1.heap.push {cls:= .type "tuple",data:= .seq vs.toArray}) h'→(∀b o,s1.heap.get? b=some o→h'.get? b=some o):=fun h' hx b o e=>hx b o (Nat.ne_of_lt (gD (kk b o e))) (kk b o e)
   induction b using Bool.casesOn with
   |true=>
    have zp:(ts.length==2||ts.length==3)=true/\(vD st (HC ts) ts&& !es.all (foldedForSure 8)&& !es.all (constantsAlone 8))=true:=by
     cases w:(ts.length==2||ts.length==3)with
     |false=>rw[w]at hb;exact nomatch hb
     |true=>rw[w,ir]at hb;exact⟨rfl,(aG hb).1⟩
    refine oA (zp) fun w1 w2=>?_;try clear zp;refine oA (bk.mp w2) fun w29 w3=>?_;try clear w2;revert w29;intro w2;refine oA (bk.mp w2) fun w29 w4=>?_;try clear w2;revert w29;intro w2;have w1:ts.length=2∨ts.length=3:=by simpa using w1
    rw[Kw X hk w1 le z1 nd z4 w2 (by cases zz:es.all (foldedForSure 8)<;>simp[zz]at w4 ⊢) (by cases zz:es.all (constantsAlone 8)<;>simp[zz]at w3 ⊢)];refine aj (aK ?_);refine(?_:aE _ _ (do rule "assign.swapped-stores";let items ←unpackItems (.ref s1.heap.objs.size) (d8 ts).length none;assignInOrder ((d8 ts).reverse.map fun n=>bindName env n) items.reverse;pure Flow.next) _ _ _);have ln:(d8 ts).length=vs.toArray.size:=by rw[zH z1,le,←lv];simp
    rw[ln];refine aj (aT (wpAny_rule (aj (aT (wpAny_unpackItems_tuple R.handled hT fun h' hx=>?_)))));have k2:=UZ h' hx;have e1:((d8 ts).reverse.map fun n=>bindName env n)=r.reverse.map fun p=>bindName env p.1:=by rw[←nm,←List.map_reverse,List.map_map];rfl
    rw[e1];have X3:az F (env::envs) aa aV au h':=X2.ext k2;have pv3:PV h' (Ob F aa aV) aV r.reverse vs.reverse:=(pv.reverse).sp (Sp.ext k2);refine aj (aN (aT (PU (s:= {s1 with heap:=h'}) pv3 X3 h)) ?_);rintro u s4 ⟨qD,h4,X4,ym,vM⟩;exact aK ⟨.aL,qD,aV,h4,X4,.aL,(wM.trans (Sp.ext k2).sq).trans ym.sq,bA.trans ⟨vM.gens,vM.drawn,vM.os⟩⟩
   |false=>
    have zp:(ts.length==2||ts.length==3)=false:=by
     cases w:(ts.length==2||ts.length==3)with
     |false=>rfl
     |true=>
      rw[w,ir]at hb;have:=(aG hb).2;exact nomatch this
    rw[Nq zp];refine aj (aK ?_);refine(?_:aE _ _ (do assign (.Tuple ts x1 tp) env (.ref s1.heap.objs.size);pure Flow.next) _ _ _);have ez:bC ts=false:=Nm z1;refine oA (oZ (env:=env) ez) fun f1 f2=>?_;refine aj (aT (wpAny_assign_Tuple R.handled hT (by rw[f1,le,←lv];simp) f2 fun h' hx=>?_));have k2:=UZ h' hx;have X3:az F (env::envs) aa aV au h':=X2.ext k2;have pv3:PV h' (Ob F aa aV) aV r vs:=pv.sp (Sp.ext k2);refine CF (Ku (s:= {s1 with heap:=h'}) z1 nm pv3 X3 h) ?_;rintro u s4 ⟨qD,h4,X4,ym,vM⟩;exact aK ⟨.aL,qD,aV,h4,X4,.aL,(wM.trans (Sp.ext k2).sq).trans ym.sq,bA.trans ⟨vM.gens,vM.drawn,vM.os⟩⟩
end
set_option backward.match.sparseCases false
section
inductive Grow(h:Heap)(a:Str)(t:MV)(v:Value)(fs:List (Str×MV))(es:List DictEntry)(as:List Addr)(l:List MV):Prop
 |mk (b:_) (o:_) (vs:_) (m:_) (hb:b∈as) (hg:getL a es=some (some (.ref b))) (ho:h.get? b=some o) (hc:o.cls= .type "list") (gT:o.dict=none) (hd:o.data= .seq vs m) (hl:l.length=vs.size)
  (hn:∀{O h' O' W o' m'},cM h O h' O' W→cV h O fs es as→(∀c o,c≠b→h.get? c=some o→h'.get? c=some o)→h'.get? b=some o'→o'.cls= .type "list" →o'.dict=none→o'.data= .seq (vs.push v) m'→Tree h O t v→cV h' O' (dJ fs a (.dI (l++[t]))) es as):Grow h a t v fs es as l
theorem cV.tree_r{x m e fs es as}(y:cV h O ((x,m)::fs) (e::es) as)(nm:∀l,m≠ .dI l):∃t,e.key= .str x t/\Tree h O m e.val/\cV h O fs es as:=by
 cases y with
 |tree a b c=>exact⟨_,a,b,c⟩
 |dI=>exact absurd rfl (nm _)
theorem cV.P5{x l e fs es as}(y:cV h O ((x,.dI l)::fs) (e::es) as):∃t b o vs n r,as=b::r∧e.key= .str x t∧e.val= .ref b∧h.get? b=some o∧o.cls= .type "list" ∧o.dict=none∧o.data= .seq vs n∧aQ h O l vs.toList∧cV h O fs es r:=by
 cases y with
 |tree _ b _=>exact b.BE
 |dI a b c d e f g k=>exact⟨_,_,_,_,_,_,rfl,a,b,c,d,e,f,g,k⟩
variable{a:Str}
theorem Sx{t:MV}{v:Value}{fs es as l}(y:cV h O fs es as)(nd:as.Nodup)(e:look fs a=some (.dI l)):Grow h a t v fs es as l:=by
 induction y with
 |nil=>exact aq e
 | @tree x _ mv en fs es as k t0 r ih=>
  refine bT (x==a) (fun q=>?_) fun q=>?_
  ·
   rw[pF q]at e;have eO:=dm e;clear e;obtain rfl:=eO;exact t0.BE
  ·
   rw[pG q]at e;obtain⟨b,o,vs,m,h1,h2,h3,h4,h5,h6,h6',h7⟩:=ih nd e;refine⟨b,o,vs,m,h1,(ue k q).trans h2,h3,h4,h5,h6,h6',fun S y k' e1 e2 e3 e4 tt=>?_⟩;refine gO (y.tree_r fun l z=>by subst z;exact t0.BE) fun _ k t1 r1=>?_;rw[wN q];exact .tree k (t1.aU S) (h7 S r1 k' e1 e2 e3 e4 tt)
 | @dI x _ l' en fs es as b' o vs n k kv ho hc gT hd tr r ih=>
  refine oA (gh.mp nd) fun n1 n2=>?_;refine bT (x==a) (fun q=>?_) fun q=>?_
  ·
   rw[pF q]at e;have eO:=MV.noConfusion (dm e) id;clear e ih;obtain rfl:=eO;refine⟨b',o,vs,n,.head _,(AL k q).trans (bq (fun v=>some (some v)) kv),ho,hc,gT,hd,tr.length,fun S y k' e1 e2 e3 e4 tt=>?_⟩;refine vm (y.P5) fun _ b2 o2 vs2 n2 r2 z k kv2 Bb K2 Sy Fi CN r3=>?_;refine oA (List.cons.inj z) fun o0 o1=>?_;clear kv2;obtain rfl:=o0;clear z;obtain rfl:=o1;rw[ho]at Bb;have eO:=dm Bb;clear Bb Sy K2;obtain rfl:=eO;rw[hd]at Fi;refine oA (Data.seq.inj Fi) fun o0 _=>?_;clear Fi;obtain rfl:=o0;rw[IS q];exact .dI k kv e1 e2 e3 e4 (by rw[Array.toList_push];exact(CN.append (.cons tt .nil)).aU S) (r3.aU S fun c o sL ec=>k' c o (fun z=>n1 (z▸sL)) ec)
  ·
   rw[pG q]at e;obtain⟨b,o,vs,m,h1,h2,h3,h4,h5,h6,h6',h7⟩:=ih n2 e;refine⟨b,o,vs,m,.tail _ h1,(ue k q).trans h2,h3,h4,h5,h6,h6',fun S y k' e1 e2 e3 e4 tt=>?_⟩;refine vm (y.P5) fun _ b2 o2 vs2 n2 r2 z k kv2 Bb K2 Sy Fi CN r3=>?_;refine oA (List.cons.inj z) fun o0 o1=>?_;clear kv2;obtain rfl:=o0;clear z;obtain rfl:=o1;rw[wN q];exact .dI k kv (k' _ _ (fun z=>n1 (z▸h1)) Bb) K2 Sy Fi (CN.aU S) (h7 S r3 k' e1 e2 e3 e4 tt)
set_option tactic.hygienic true in
theorem Gm(G:fO g consts)(R:bz A d n tb){sn y:Str}{p1 p2 py mO pos:Pos}{k:MV->Bool->St->Option α}{ah:α}(X:az F (env::envs) aa al st s.heap)(CV:(mO.endLine==pos.line)=true)
  (e:cond (eu sn||(eu y|| !cJ a eG)) Option.none (match gu st.fr sn,gu st.fr y with
     |some (.own x),some t=>(match look st.ow x with
      |some (.obj c fs)=>(match look fs a with
       |some (.dI l)=>cond (vC t&&decide (l.length<=ak)) (k .none false {st with ow:=dJ st.ow x (.obj c (dJ fs a (.dI (l++[t]))))}) Option.none
       |_=>Option.none)
      |_=>Option.none)
     |_,_=>Option.none)=some ah):
  aE (model g.prog g.w) A (eval (.Call (.Attribute (.Attribute (.Name sn p1) a p2) "append" mO) [.Name y py] [] pos) env) (d9 F (env::envs) aa al s k ah) aF s:=by
 refine bT ((eu sn||(eu y|| !cJ a eG))) (fun q=>?_) fun q=>?_
 ·rw[q]at e;exact aq e
 ·
  rw[q,bN]at e;refine oA (gS.mp q) fun q1 q2=>?_;refine oA (gS.mp q2) fun IV q3=>?_;try clear q2;revert IV;intro q2;have q3:cJ a eG=true:=by cases z:cJ a eG<;>simp[z]at q3 ⊢
  refine cy (Rl e) fun x t hx hy e9=>?_;clear e
  ·
   refine cF (Rk e9) fun c fs hc e8=>?_;clear e9
   ·
    refine aH (mMlst e8) fun l hl e=>?_;clear e8
    ·
     refine oA (aG e) fun z e9=>?_;try clear e;revert e9;intro e;refine oA (bk.mp z) fun z1 z2=>?_;have z2:=bx z2;obtain⟨ov,yi,go⟩:=lJ X hx q1;have X1:az F (env::envs) aa al st {s with toks:=s.toks+1}.heap:=X;refine aH (lJ (M:=model g.prog g.w) (A:=A) (E:=aF) (s:= {s with toks:=s.toks+1}) X1 hy q2) fun tv htv goy2=>?_;have tt:Tree s.heap (Ob F aa al) t tv:=by induction t using MV.casesOn<;>first|exact htv|exact aP z1
     refine cy (uO X hc yi) fun a0 r yj o3 oo=>?_;clear yi;obtain rfl:=o3;cases oo with
     | @obj _ _ _ C dx es mm as UO ho hd hf=>
      refine dh (cg.mp X.nd) fun n1 n2 n3=>?_;refine dh (cg.mp n2) fun n4 n5 n6=>?_;have nd:=lN n5 yj;refine oA (gh.mp nd) fun d1 d2=>?_;refine oA (gh.mp d2) fun d3 d4=>?_;obtain⟨b,o,vs,m,g1,g2,g3,g4,g5,g6,g6',g7⟩:=Sx (t:=t) (v:=tv) hf d4 hl;refine IL rfl rfl (by simp) CV ?_;rw[arm_eval_Attribute,D9 rfl];refine aj (aT (wpAny_Name (go _ ?_) (jI q1).1));refine aj (aX (aj (aW (aT (CI G (AJ G X) UO q3 ho hd g2 rfl ?_)))));refine aj (aT (wpAny_letTemporaryGo (aK fun pl=>?_)));refine aT (Calls.getMethod_list_append g3 g4 g5 ?_);refine jG rfl (by simp) (eS (e:= .Name y py) (rest:=[]) ?_ rfl);refine aT (wpAny_Name (goy2 _ (fZ (aT ?_))) (jI q2).1);have:=iH;refine xJ.xK (s:= {s with toks:=s.toks+1}) g3 g4 g5 g6 (fun h' o' m' e1 e2 e3 e4 hs=>?_) (by lia);have UQ:a0≠b:=fun e=>d1 (e▸ .tail _ g1);have nex:dx≠b:=fun e=>d3 (e▸g1);refine oA (az.wK (x:=x) (as:=a0::dx::as) (as':=a0::dx::as) (c':= .obj c (dJ fs a (.dI (l++[t])))) (h':=h') X yj (fun b' o e q=>hs b' o (fun z=>q (z▸ .tail _ (.tail _ g1))) e) (fun b q=>q) nd
       (fun b' q=>by
        by_cases z:b'=b
        ·exact⟨_,z▸e1⟩
        ·refine oE (X.live b' (aO.mpr (.inr (.inr (cZ yj b' q))))) fun o eo=>?_
         exact⟨o,hs b' o z eo⟩) rfl
       (fun S=> .obj UO (hs _ _ UQ ho) (hs _ _ nex hd) (g7 S hf (fun c o z e=>hs c o z e) e1 e2 e3 e4 tt))) fun X' sp=>?_
      exact GZ X' e .none (fun q=>nomatch q) sp ⟨rfl,rfl,rfl⟩
end
variable{Q:List (Value×Value)->Shared->Prop}
section
theorem Ky(h:Q [] s):aE (model g.prog g.w) A (evalPairs (pairTrees [] [] env pos)) Q aF s:=aT (evalPairs_nil h)
variable{ks:List (Option Expr)}
theorem I4{k v:Expr}{vs:List Expr}
  (h:aE (model g.prog g.w) A (eval k env) (fun kv s₁=>aE (model g.prog g.w) A (eval v env) (fun vv s₂=>aE (model g.prog g.w) A (evalPairs (pairTrees ks vs env pos)) (fun r s₃=>Q ((kv,vv)::r) s₃) aF s₂) aF s₁) aF s):
  aE (model g.prog g.w) A (evalPairs (pairTrees (some k::ks) (v::vs) env pos)) Q aF s:=by
 show aE (model g.prog g.w) A (evalPairs ((eval k env,do let x ←eval v env;standAt pos;pure x)::pairTrees ks vs env pos)) Q aF s;rw[evalPairs];refine aj (aN h fun kv s₁ h₁=>?_);refine aj (aW (aj (aN h₁ fun vv s₂ h₂=>aj (aX (aK ?_)))));exact aj (aW (aN h₂ fun vs s₃ h₃=>aK h₃))
inductive U0(F:List Addr)(envs:List Env)(aa:List (List Addr))(al:Al)(s:Shared)(k:List (MV×MV)->St->Option α)(ah:α)(vs:List (Value×Value))(s':Shared):Prop
 |mk (ps:_) (aY:_) (al':_) (h0:k ps aY=some ah) (h1:az F envs aa al' aY s'.heap) (h2:aQ s'.heap (Ob F aa al') (ps.map (·.1)) (vs.map (·.1))) (h3:aQ s'.heap (Ob F aa al') (ps.map (·.2)) (vs.map (·.2))) (h4:Sp aa al s.heap al' s'.heap) (h5:dQ s s'):U0 F envs aa al s k ah vs s'
variable{ah:α}
theorem Sz(hs:bU d n tb pm self)(R:bz A d n tb):∀{ks:List (Option Expr)} {vs:List Expr} {k:List (MV×MV)->St->Option α} {st:St} {al:Al} {s:Shared},az F (env::envs) aa al st s.heap->yX self ks vs st k=some ah->
  aE (model g.prog g.w) A (evalPairs (pairTrees ks vs env pos)) (fun r s'=>r.length=ks.length/\U0 F (env::envs) aa al s k ah r s') aF s:=by
 intro x1
 induction x1 with
 |nil=>
  intro x2
  induction x2 using List.casesOn with
  |nil=>
   intro k st al s X e;exact Ky ⟨rfl,_,st,al,e,X,.nil,.nil,.refl,.refl⟩
  |cons c3 c4=>
   intro _ _ _ _ _ e;exact aq e
 |cons c5 as dR=>
  induction c5 using Option.casesOn with
  |none=>
   intro x6
   induction x6 using List.casesOn with
   |nil=>
    intro _ _ _ _ _ e;exact aq e
   |cons c7 c8=>
    intro _ _ _ _ _ e;exact aq e
  |some a=>
   intro x9
   induction x9 using List.casesOn with
   |nil=>
    intro _ _ _ _ _ e;exact aq e
   |cons b bs=>
    intro k st al s X e;have e1:(self.ex a st fun x _ aA=>bW x aA fun x' au=>self.ex b au fun y _ bX=>bW y bX fun y' qD=>yX self as bs qD fun r uw=>k ((x',y')::r) uw)=some ah:=e;refine I4 (aN (hs.ex e1 R X) ?_);rintro v s1 ⟨m,fr,aA,bY,e,X1,ra,bu,bA⟩;refine gX (gq X1 ra.jE e) fun t au aV e9 X2 tt bS=>?_;try clear e;revert e9;intro e;refine aN (hs.ex e R X2) ?_;rintro v2 s2 ⟨m2,pC,bX,qE,e,X3,ZT,gr,jm⟩;refine gX (gq X3 ZT.jE e) fun t2 qD al4 e9 X4 tt2 ym=>?_;try clear e;revert e9;intro e;refine aN (dR X4 e) ?_;rintro vs s3 ⟨hl,ps,uw,wO,e,X5,ts,us,qh,mV⟩;exact⟨bq (· +1) hl,_,uw,wO,e,X5,.cons ((qh.sq (pm:=[])).tree ((ym.sq (pm:=[])).tree ((gr.sq (pm:=[])).tree tt))) ts,.cons ((qh.sq (pm:=[])).tree tt2) us,(((bu.trans bS).trans gr).trans ym).trans qh,(bA.trans jm).trans mV⟩
theorem P6{m:MV}{v:Value}(q:rW m=true)(t:Tree h O m v):kG m v:=by
 induction t using Tree.casesOn<;>first|exact .int _ _|exact .str _ _|exact aP q
variable{a b:MV}{r:List (MV×MV)}
theorem P7(q:l8 ((a,b)::r)=true):∃i,a= .int i/\rW b=true/\l8 r=true:=by
 induction a using MV.casesOn<;>first|exact aP q|skip
 exact⟨_,rfl,bk.mp q⟩
theorem P8(q:fy ((a,b)::r)=true):∃i,a= .str i/\rW b=true/\fy r=true:=by
 induction a using MV.casesOn<;>first|exact aP q|skip
 exact⟨_,rfl,bk.mp q⟩
variable{K:Type}
theorem carr[DecidableEq K]{knd:KeyKind g.prog g.w K}{iM:K->MV}{q:List (MV×MV)->Bool}(hq:∀{a b r},q ((a,b)::r)=true->∃i,a=iM i/\rW b=true/\q r=true)(hk:∀{i v},Tree h O (iM i) v->knd.is i v=true):
  ∀{ps:List (MV×MV)} {vs:List (Value×Value)},q ps=true->aQ h O (ps.map (·.1)) (vs.map (·.1))->aQ h O (ps.map (·.2)) (vs.map (·.2))->∃kvs,Carries knd vs kvs/\oh iM ps kvs:=by
 intro ps
 induction ps with
 |nil=>
  intro vs _ t _;have eO:=List.map_eq_nil_iff.mp t.iT;clear t;obtain rfl:=eO;exact⟨[],trivial,.nil⟩
 |cons p r ih=>
  obtain⟨a,b⟩:=p;intro vs e t u;refine gO (hq e) fun i o1 q1 q2=>?_;clear e;obtain rfl:=o1
  induction vs using List.casesOn with
  |nil=>obtain⟨_,_,z,_⟩:=t.eT;exact absurd z (List.cons_ne_nil _ _).symm
  |cons v vr=>
   obtain⟨va,vb⟩:=v;refine cy (t.eT) fun v1 r1 z1 t1 ts=>?_;refine cy (u.eT) fun v2 r2 z2 u1 us=>?_;refine oA (List.cons.inj z1) fun o0 o1=>?_;obtain rfl:=o0;clear z1;obtain rfl:=o1;refine oA (List.cons.inj z2) fun o0 o1=>?_;obtain rfl:=o0;clear z2;obtain rfl:=o1;refine aH (ih q2 ts us) fun kvs h1 h2=>?_;exact⟨(i,vb)::kvs,⟨hk t1,rfl,h1⟩,.cons (P6 q1 u1) h2⟩
variable{ps:List (MV×MV)}
theorem SA{vs:List (Value×Value)}:l8 ps=true->aQ h O (ps.map (·.1)) (vs.map (·.1))->aQ h O (ps.map (·.2)) (vs.map (·.2))->∃kvs,Carries (intKind g.prog g.w) vs kvs/\oh MV.int ps kvs:=
 carr P7 fun t=>by obtain⟨k,rfl⟩:=t.int_inv;simp[PySem.intKind,Value.isInt]
theorem SD{vs:List (Value×Value)}:fy ps=true->aQ h O (ps.map (·.1)) (vs.map (·.1))->aQ h O (ps.map (·.2)) (vs.map (·.2))->∃kvs,Carries (PySem.strKind g.prog g.w) vs kvs/\oh MV.str ps kvs:=
 carr P8 fun t=>by obtain⟨k,rfl⟩:=t.str_inv;simp[PySem.strKind,Value.isStrOf]
theorem Nr:∀{ks:List (Option Expr)},AE ks=true->ks.all (·.isSome)=true:=by
 intro x1
 induction x1 with
 |nil=>
  intro _;exact rfl
 |cons c2 r dR=>
  induction c2 using Option.casesOn with
  |none=>
   intro q;exact aP q
  |some c3=>
   intro q;have q':AE r=true:=q
   simpa using dR q'
theorem I5[DecidableEq K]{knd:KeyKind g.prog g.w K}{ps:List (MV×MV)}{vs:List (Value×Value)}{kvs:List (K×Value)}{iM:K->MV}{k:MV->Bool->St->Option α}{ah:α}{s1:Shared}{bY:Al}{aA:St}
  (he:∀a b,i7 (iM a) (iM b)=decide (a=b)) (X0:az F (env::envs) aa al st s.heap)
  (X1:az ([s.heap.objs.size]++F) (env::envs) aa bY aA s1.heap) (bu:Sp aa al (s.heap.push {cls:= .type "dict",data:= .dict #[]}) bY s1.heap) (sm:dQ {s with heap:=s.heap.push {cls:= .type "dict",data:= .dict #[]}} s1)
  (e:k (.gk (putAll [] ps)) true aA=some ah) (c:Carries knd vs kvs) (kv:oh iM ps kvs) (hl:vs.length<=15) (low:8<g.H0.objs.size)
  (oo:∀h' d kvs O,h'.DictOf knd s.heap.objs.size kvs->oh iM d kvs->(s.heap.objs.size==sysModules)=false->c9 h' O (.gk d) [s.heap.objs.size]):
  aE (model g.prog g.w) A (storeAll s.heap.objs.size vs) (fun _ s₂=>d9 F (env::envs) aa al s k ah (.ref s.heap.objs.size) s₂) aF s1:=by
 have ne:=X0.AG;rw[aO]at ne;have kp:∀b o,s.heap.get? b=some o→(s.heap.push {cls:= .type "dict",data:= .dict #[]}).get? b=some o:=fun b o e=>Heap.get?_push_of_some _ e;have Ei:(s.heap.push {cls:= .type "dict",data:= .dict #[]}).DictOf knd s.heap.objs.size []:=Heap.DictOf.new s.heap;refine fq (Ei) fun o es ep ho r=>?_;try clear Ei;have hd1:s1.heap.DictOf knd s.heap.objs.size []:=⟨o,es,ep,bu.keep _ _ ho (fun q=>ne (.inr (.inl q))) fun q=>ne (.inr (.inr q)),r⟩
 have MQ:(s.heap.objs.size==sysModules)=false:=by
  have:=X0.big;rw[jY];unfold sysModules
  lia
 refine aT (wpAny_storeAll (knd:=knd) vs kvs [] s1 _ c hd1 (by have:=c.length;rw[sizeLine_eq,List.length_nil];lia) fun h' hm hsb=>?_);have zx:=hm;refine fq (zx) fun od es2 ep2 kB rr=>?_;try clear zx;have B:iN [s.heap.objs.size] s1.heap h':=iN.one hsb.extBut;have X2:=X1.but B fun a q=>by rcases bQ.mp q with rfl;exact⟨od,kB⟩
 have sp:Sp aa al s.heap bY s1.heap:=(Sp.ext kp).trans bu;refine⟨_,true,aA,bY,e,X2.vI,⟨[s.heap.objs.size],.fresh (as:=[]) X2 (oo h' _ _ _ hm (AM he kv .nil List.nodup_nil) MQ),fun b q=>by rcases bQ.mp q with rfl;exact .inr (.inr eW)⟩,⟨fun b ob eb p q=>B b ob (sp.keep b ob eb p q) fun z=>?_,sp.sub,sp.heads⟩,⟨sm.gens,sm.drawn,sm.os⟩⟩
 rcases bQ.mp z with rfl
 rw[eW]at eb;exact aq eb
variable{k:MV->Bool->St->Option α}
theorem WG(G:fO g consts)(hs:bU d n tb pm self)(R:bz A d n tb){vs:List Expr}(X:az F (env::envs) aa al st s.heap)
  (e:cond (yY ks vs) (yX self ks vs st fun ps aA=>cond (l8 ps||fy ps) (k (.gk (putAll [] ps)) true aA) Option.none) Option.none=some ah):
  aE (model g.prog g.w) A (eval (.Dict ks vs pos) env) (d9 F (env::envs) aa al s k ah) aF s:=by
 refine oA (aG e) fun q e9=>?_;try clear e;revert e9;intro e;unfold yY at q;refine oA (bk.mp q) fun q1 q9=>?_;try clear q;revert q9;intro q;refine oA (bk.mp q) fun q2 q9=>?_;try clear q;revert q9;intro q;refine oA (bk.mp q) fun q3 q4=>?_;have q1:=Nr q1;have q2:=bx q2;have q4:=bx q4;have hn:=pairTrees_length ks vs env pos q1 q2
 have hp0:pairTrees ks vs env pos≠[]:=by
  intro he;rw[he]at hn;have:ks= []:=List.length_eq_zero_iff.mp hn.symm;rw[this]at q3;exact aP q3
 rw[arm_eval_Dict,zip_pairTrees ks vs env pos q1 q2,dictDisplay_pairs _ hp0 (by rw[hn];lia)];have kp:∀b o,s.heap.get? b=some o→(s.heap.push {cls:= .type "dict",data:= .dict #[]}).get? b=some o:=fun b o e=>Heap.get?_push_of_some _ e;have X0:az ([s.heap.objs.size]++F) (env::envs) aa al st (s.heap.push {cls:= .type "dict",data:= .dict #[]}):=X.BF kp [s.heap.objs.size] (fun a q=>by
  rcases bQ.mp q with rfl
  exact⟨eW,⟨_,Heap.get?_push_size _ rfl⟩,X.big⟩) (by simp)
 refine aj (aX (aj ?_));unfold subDict;refine aj (aT (wpAny_alloc ?_));refine aj (aW ?_);rw[if_pos (by rw[hn];exact q4)];refine aj (aN (Sz (s:= {s with heap:=s.heap.push {cls:= .type "dict",data:= .dict #[]}}) hs R X0 e) ?_);rintro r s1 ⟨hl,ps,aA,bY,e,X1,ts,us,bu,bA⟩;refine oA (aG e) fun q5 e9=>?_;try clear e;revert e9;intro e;refine aW (aj ?_);have hl:r.length≤15:=by rw[hl];exact q4
 rcases Bool.or_eq_true_iff.mp q5 with q5|q5
 ·refine aH (SA q5 ts us) fun kvs c kv=>?_
  exact aN (I5 La X X1 bu bA e c kv hl G.low fun h' d kvs O a b c=> .dX a c (K9 b)) fun _ s₂ w=>aK (aK (aK w))
 ·refine aH (SD q5 ts us) fun kvs c kv=>?_
  exact aN (I5 Eg X X1 bu bA e c kv hl G.low fun h' d kvs O a b c=> .jd a c (Ef b)) fun _ s₂ w=>aK (aK (aK w))
end
set_option backward.match.sparseCases true
section
theorem I6(hs:bU d n tb pm self)(R:bz A d n tb){e:Expr}{k:Bool->St->Option α}(X:az F (env::envs) aa al st s.heap)
  (hi:isTrue e env (eval e env)=(do let v ←eval e env;standAt e.pos;holding [v] (truthy v)))
  (h:aE (model g.prog g.w) A (eval e env) (d9 F (env::envs) aa al s (fun v _ aA=>cU v aA fun a=>wu a fun b=>k b aA) ah) aF s):
  aE (model g.prog g.w) A (isTrue e env (eval e env)) (lH F (env::envs) aa al s k ah) aF s:=by
 rw[hi];refine aj (aN h ?_);rintro v s1 ⟨m,fr,aA,bY,e1,X1,ra,bu,bA⟩;refine aH (gG X1 ra.jE e1) fun c e2 con=>?_;refine aj (aX (aW (aN (aT (HV e2 con)) fun b s2 w=>?_)));refine rU (w.same X1) fun e3 X2 bS eF _=>?_;exact⟨aA,bY,e3,X2,bu.trans bS,bA.trans eF⟩
variable{o:Expr}
set_option tactic.hygienic true in
theorem Nt{s a:Str}(e:Hz o=some (s,a)):∃p1 p2,o= .Attribute (.Name s p1) a p2:=by
 induction o using Expr.casesOn<;>first|exact aq e|skip
 rename_i o a' p2
 induction o using Expr.casesOn<;>first|exact aq e|skip
 rename_i s' p1;refine oA (dY (dm e)) fun o0 o1=>?_;obtain rfl:=o0;clear e;obtain rfl:=o1;exact⟨p1,p2,rfl⟩
theorem Kz{l:List Expr}{y:Str}(e:DU l=some y):∃p,l= [.Name y p]:=by
 match l,e with
 | [],e=>exact aq e
 | [x],e=>
  induction x using Expr.casesOn<;>first|exact aq e|skip
  obtain rfl:=dm e;exact⟨_,rfl⟩
 |x::_::_,e=>induction x using Expr.casesOn<;>exact aq e
variable{k:MV->Bool->St->Option α}
theorem P9{name:Str}{args:List Expr}{st:St}(h:Cs cf self o name args st k=some ah):
  Cr cf self o name args st k=some ah∨∃sn p1 a p2 y py,o= .Attribute (.Name sn p1) a p2∧name=("append":Str)∧args= [.Name y py]∧KW sn a y st k=some ah:=by
 unfold Cs at h;refine nE (Hz o) (fun ao=>?_) fun sa ao=>?_
 ·rw[ao]at h;exact .inl h
 ·
  obtain⟨s,a⟩:=sa;refine tD (Nt ao) fun p1 p2 o2=>?_;obtain rfl:=o2;rw[ao]at h;refine bE (name==("append":Str)) (fun nm=>?_) fun nm=>?_
  ·rw[nm]at h;exact .inl h
  ·
   rw[nm]at h;refine nE (DU args) (fun on=>?_) fun y on=>?_
   ·rw[on]at h;exact aq h
   ·
    rw[on]at h;refine oE (Kz on) fun py o1=>?_;clear on;obtain rfl:=o1;exact .inr ⟨s,p1,a,p2,y,py,rfl,eq_of_beq nm,rfl,h⟩
variable{pos:Pos}
theorem Qa(G:fO g cf.consts)(T:kK d cf.T cf.M)(hs:bU (d+1) n cf.ba cf.pm self){name:Str}{mO:Pos}{args:List Expr}{st:St}
  (h:HA cf self (.Call (.Attribute o name mO) args [] pos) st k=some ah) (R:bz A (d+1) n cf.ba) (X:az F (env::envs) aa al st s.heap):aE (model g.prog g.w) A (eval (.Call (.Attribute o name mO) args [] pos) env) (d9 F (env::envs) aa al s k ah) aF s:=by
 have h1:cond (iQ args|| !(mO.endLine==pos.line)) Option.none (Cs cf self o name args st k)=some ah:=h;clear h;refine bT ((iQ args|| !(mO.endLine==pos.line))) (fun q=>?_) fun q=>?_
 ·rw[q]at h1;exact aq h1
 ·
  rw[q,bN]at h1;refine oA (gS.mp q) fun q1 q2=>?_;have q2:(mO.endLine==pos.line)=true:=by simpa using q2
  have q3:(cond (iQ args) none (some ()))=some ():=by rw[q1];rfl
  refine dh (xF q3) fun q4 q5 _=>?_
  rcases P9 h1 with h1|⟨sn,p1,a,p2,y,py,rfl,rfl,rfl,h1⟩
  ·exact Wt G T hs R X q4 q5 q2 h1
  ·exact Gm G R X q2 h1
set_option tactic.hygienic true in
theorem WH(G:fO g cf.consts)(T:kK d cf.T cf.M)(hs:bU (d+1) n cf.ba cf.pm self){e:Expr}{st:St}(h:HA cf self e st k=some ah)
  (R:bz A (d+1) n cf.ba) (X:az F (env::envs) aa al st s.heap):aE (model g.prog g.w) A (eval e env) (d9 F (env::envs) aa al s k ah) aF s:=by
 induction e using Expr.casesOn with
 |Constant c kd pos=>exact RC X h
 |Name x pos=>exact VU G X h
 |BinOp l op r pos=>exact RD hs R X h
 |UnaryOp op x pos=>induction op using UnaryOp.casesOn<;>first|exact aq h|exact VX hs R X h
 |BoolOp op vs pos=>rw[arm_eval_BoolOp];exact VY hs R X h
 |IfExp t x y pos=>exact RE hs R X h
 |Compare l jc cs pos=>exact Mi hs R X h
 |Call f args kws pos=>
  induction kws using List.casesOn with
  |cons _ _=>induction f using Expr.casesOn<;>exact aq h
  |nil=>induction f using Expr.casesOn<;>first|exact aq h|exact Wq G T hs R X h|exact Qa G T hs h R X
 |List es pos=>exact VZ hs R X h
 |Tuple es kd pos=>exact RH hs R X h
 |Dict ks vs pos=>exact WG G hs R X h
 |ListComp cR gens scope pos=>exact Ks G hs R X h
 |Subscript v i pos=>
  by_cases y:∃lo hi p,i= .Slice lo hi none p
  ·refine LK (y) fun lo hi p o3=>?_
   try clear y;obtain rfl:=o3;exact RK hs R X h
  ·refine V9 hs R X ?_
   induction i using Expr.casesOn<;>first|exact h|skip
   rename_i lo hi sp p
   induction sp using Option.casesOn with
   |none=>exact absurd ⟨lo,hi,p,rfl⟩ y
   |some _=>exact h
 |Attribute o a pos=>exact Wa hs R G X h
 |_=>exact aq h
theorem c_Not{x:Expr}{Mk:Sem Value}{k:Bool->St->Option α}(h:aE (model g.prog g.w) A (isTrue x env (eval x env)) (lH F (env::envs) aa al s (fun b aA=>k (!b) aA) ah) aF s):
  aE (model g.prog g.w) A (isTrue (.UnaryOp .Not x pos) env Mk) (lH F (env::envs) aa al s k ah) aF s:=by
 show aE _ _ (do return !(←isTrue x env (eval x env))) _ _ _;refine aj (aN h ?_);rintro b s1 ⟨aA,bY,e,X1,bu,bA⟩;exact aK ⟨aA,bY,e,X1,bu,bA⟩
theorem WI(hs:bU d n tb pm self){e:Expr}{st:St}{k:Bool->St->Option α}(h:OI self e st k=some ah)
  (R:bz A d n tb) (X:az F (env::envs) aa al st s.heap):aE (model g.prog g.w) A (isTrue e env (eval e env)) (lH F (env::envs) aa al s k ah) aF s:=by
 induction e using Expr.casesOn with
 |UnaryOp op x pos=>induction op using UnaryOp.casesOn<;>first|exact c_Not (hs.ts h R X)|exact I6 hs R X rfl (hs.ex h R X)
 |BoolOp op vs pos=>exact Zi hs R X h
 |IfExp t x y pos=>exact aq h
 |Compare l jc cs pos=>exact Mj hs R X h
 |_=>exact I6 hs R X rfl (hs.ex h R X)
theorem WJ(G:fO g cf.consts)(hs:bU d n tb cf.pm self)
  (hx:∀{cR gens scope pe st} {k:MV->Bool->St->Option α} {ah},self.ex (.ListComp cR gens scope pe) st k=some ah->∃(Ba:Ev) (m:Nat),m<=n/\bU d m tb cf.pm Ba/\tT Ba cR gens scope st k=some ah) {c:Stmt} {st:St} {k:cI->St->Option α} (h:OJ cf self c st k=some ah)
  (R:bz A d n tb) (X:az F (env::envs) aa al st s.heap):aE (model g.prog g.w) A (exec c env) (gQ cf.pm F (env::envs) aa al s k ah) aF s:=by
 refine oE (vZ X.fr) fun PK B0=>?_
 induction c using Stmt.casesOn with
 |Expr e pos=>exact Wu hs R X B0.kind h
 |Pass pos=>exact WC X h
 |Return v pos=>induction v using Option.casesOn with
  |some e=>exact PA hs R X h
  |none=>exact Nc X h
 |If t b o pos=>exact st_If hs R X h
 |While t b o pos=>induction o using List.casesOn with
  |nil=>exact Se hs R X h
  |cons _ _=>exact aq h
 |For t i b o pos=>induction o using List.casesOn with
  |nil=>exact Z9 G hs R X h
  |cons _ _=>exact aq h
 |Try b hd o f pos=>induction o using List.casesOn with
  |nil=>induction f using List.casesOn with
   |nil=>exact Z3 hs R X h
   |cons _ _=>exact aq h
  |cons _ _=>exact aq h
 |Assign ts e pos=>
  match ts,h with
  | [],h=>exact aq h
  |_::_::_,h=>exact aq h
  | [t],h=>
   induction t using Expr.casesOn with
   |Name x p=>
    refine bE (eV e) (fun nl=>?_) fun nl=>?_
    ·exact Ek hs R X nl h
    ·
     induction e using Expr.casesOn with
     |ListComp cR gens scope pe=>
      have h1:cond (!oX st x p (.ListComp cR gens scope pe)) Option.none (self.ex (.ListComp cR gens scope pe) st fun v fr aA=>kR cf x v fr aA fun au=>k .aL au)=some ah:=h;refine bE (oX st x p (.ListComp cR gens scope pe)) (fun q=>?_) fun q=>?_
      ·rw[q]at h1;exact aq h1
      ·
       rw[q]at h1;refine cy (hx h1) fun Ba m hm UE h2=>?_;exact Eu G UE (R.le hm) X q h2
     |_=>exact aP nl
   |Tuple ts tx tp=>
    refine bE (pW e) (fun it=>?_) fun it=>?_
    ·
     refine PI hs R X it ?_
     induction e using Expr.casesOn<;>first|exact h|exact aP it.symm
    ·
     refine LK (Fg it) fun es kk pp oe=>?_;subst oe;exact st_Par hs R X h
   |Attribute o a p=>induction o using Expr.casesOn<;>first|exact aq h|exact El G hs R X h
   |Subscript o i p=>induction o using Expr.casesOn<;>first|exact aq h|exact Gh hs R X h
   |_=>exact aq h
 |_=>exact aq h
theorem SE(G:fO g cf.consts)(T:kK d cf.T cf.M):∀n,bU (d+1) n cf.ba cf.pm (ev cf n):=by
 have go:∀n,bU (d+1) n cf.ba cf.pm (ev cf n)/\(∀{cR gens scope pe st} {k:MV->Bool->St->Option α} {ah},(ev cf n).ex (.ListComp cR gens scope pe) st k=some ah->∃(Ba:Ev) (m:Nat),m<=n/\bU (d+1) m cf.ba cf.pm Ba/\tT Ba cR gens scope st k=some ah):=by
  intro n
  induction n with
  |zero=>exact⟨⟨fun e=>by(exact aq e),fun e=>by(exact aq e),fun e=>by(exact aq e)⟩,fun e=>by(exact aq e)⟩
  |succ n ih=>
   refine oA (ih) fun hs hx=>?_;try clear ih;refine⟨⟨fun e=>?_,fun e=>?_,fun e=>?_⟩,fun e=>⟨ev cf n,n,Nat.le_succ n,hs,e⟩⟩
   ·intro A env envs F aa al s R X;exact WH G T hs e (R.le (Nat.le_succ n)) X
   ·intro A env envs F aa al s R X;exact WI hs e (R.le (Nat.le_succ n)) X
   ·intro A env envs F aa al s R X;exact WJ G hs hx e (R.le (Nat.le_succ n)) X
 exact fun n=>(go n).1
end
set_option backward.match.sparseCases false
variable{T:fE}{M:Str->fE}
section
theorem az.giveAll(X:az F envs aa al st h)(e:look al x=some as):
  az (as++F) envs aa (del al x) {st with ow:=del st.ow x} h:=by
 have sub:∀c,c∈Ob (as++F) aa (del al x)->c∈Ob F aa al:=fun c q=>by
  rw[aO]at q ⊢
  rcases q with q|q|q
  ·rcases bR.mp q with q|q
   ·exact .inr (.inr (cZ e _ q))
   ·exact .inl q
  ·exact .inr (.inl q)
  ·exact .inr (.inr (eY x q))
 have S:cM h (Ob F aa al) h (Ob (as++F) aa (del al x)) []:=⟨fun _ _ e _=>e,fun _ _ _ q z=>q (sub _ z),fun _ q=>nomatch q⟩;have hd:∀k as',look (del al x) k=some as'->∃as,look al k=some as/\as.head?=as'.head?:=fun k as' q=>by
  have q:=(j4 q).2
  ·exact⟨as',q,rfl⟩
 refine⟨X.fr.aU S hd fun _ _ _ e=>e,(X.ow.aU S fun _ _ _ e=>e).del x,?_,fun c q=>X.live c (sub c q),fun c q=>X.hi c (sub c q),X.jN,X.top⟩;refine dh (cg.mp X.nd) fun n1 n2 n3=>?_;refine dh (cg.mp n2) fun n4 n5 n6=>?_;have O5:=cZ e;show((as++F)++(aa.flatten++flat (del al x))).Nodup;rw[dH];refine cg.mpr ⟨lN n5 e,X.nd.sublist ((j5 F).append ((j5 _).append (je x al))),fun a qa b qb ee=>?_⟩;subst ee
 rcases bR.mp qb with z|z
 ·exact n3 a z a (cO _ (O5 a qa)) rfl
 ·rcases bR.mp z with z|z
  ·exact n6 a z a (O5 a qa) rfl
  ·exact jg n5 e a qa z
theorem SG{fr:List Fr}:∀{ps:List Str} {ms:List Bool} {ow:List (Str×MV)},cJ x ps=false->mR ⟨fr,del ow x⟩ ps ms=mR ⟨fr,ow⟩ ps ms:=by
 intro x1
 induction x1 with
 |nil=>
  intro _ _ _
  rfl
 |cons p ps dR=>
  intro x2
  induction x2 using List.casesOn with
  |nil=>
   intro _ _
   rfl
  |cons c3 ms=>
   induction c3 using Bool.casesOn with
   |true=>
    intro ow q;rw[tQ]at q;refine bT (p==x) (fun z=>?_) fun z=>?_
    ·rw[z]at q;exact aP q.symm
    ·
     rw[z,bN]at q;have zh:¬x=p:=fun e=>by rw[e,j0]at z;exact aP z.symm
     show Hx (look (del ow x) p) (mR ⟨fr,del ow x⟩ ps ms) _=Hx (look ow p) (mR ⟨fr,ow⟩ ps ms) _;rw[iG,bG zh,dR (ms:=ms) q]
   |false=>
    intro ow q;rw[tQ]at q;refine bT (p==x) (fun z=>?_) fun z=>?_
    ·rw[z]at q;exact aP q.symm
    ·
     rw[z,bN]at q;exact dR (ms:=ms) q
variable{m:MV}
theorem Qc{v:Value}(t:Tree h O m v):DW m=Option.none:=by induction t using Tree.casesOn<;>rfl
theorem SH(t:c9 h O m as):DW m=Option.none:=by induction t using c9.casesOn<;>rfl
variable{v:MV}
theorem AP{v':MV}{f f':Bool}{o o':List MV}(e:some ((v,f,o):aJ)=some (v',f',o')):v=v'/\f=f'/\o=o':=by
 cases e;exact⟨rfl,rfl,rfl⟩
theorem fn_end{ps:List Str}{ms:List Bool}{as cs:List MV}{vs:List Value}{ys:List Str}{P:List Addr}{s1 s2:Shared}{aA:St}{w:cI}{fl:Flow}{fr:Bool}{outs:List MV}
  (X:az F envs aa al st s.heap) (np:ps.Nodup) (Ar:Args s.heap (Ob F aa al) st.ow al ps ms as cs vs bZ ys) (ny:ys.Nodup)
  (X1:az (F++(aa.flatten++flat (cX al ys))) [E] [P] bZ aA s1.heap) (hP:∀a,a∈P->s.heap.objs.size<=a)
  (keep:∀b o,s.heap.get? b=some o->s1.heap.get? b=some o) (sm:dQ s s2)
  (X2:az (F++(aa.flatten++flat (cX al ys))) [E] [P] aV au s2.heap) (fo:mS (F++(aa.flatten++flat (cX al ys))) [E] [P] bZ s1.heap aV au s2.heap w fl)
  (q2:Sq (lG ps ms) [P] bZ s1.heap aV s2.heap) (e:HF ps ms w au=some (v,fr,outs)):
  ML F envs aa al st s ys ⟨v,fr,outs⟩ (.ok (.ret (match (generalizing:=false) fl with| .ret v=>v|_=> .none))) s2:=by
 unfold HF at e;refine nE (mR au ps ms) (fun eo=>?_) fun Nu eo=>?_
 ·rw[eo]at e;exact aq e
 ·
  rw[eo]at e;have tr:∀{m:MV} {fr:Bool} {val:Value},Tree s2.heap (Ob (F++(aa.flatten++flat (cX al ys))) [P] aV) m val->(fr=true->ji m=false)->ML F envs aa al st s ys ⟨m,fr,Nu⟩ (.ok (.ret val)) s2:=by
   intro m fr val t q;refine uq (BL (N:=[]) X np Ar ny X1 hP keep X2 q2 uE.nil eo) fun a b c dd=>?_;exact⟨_,a,⟨[],.tree (t.aU (W:=[]) ⟨fun _ _ e _=>e,fun b o _ q z=>q (dd b z),fun _ q=>nomatch q⟩) q,uE.nil⟩,b,sm⟩
  induction fo using mS.casesOn with
  |aL=>
   refine dh (AP e) fun o0 o1 o2=>?_;obtain rfl:=o0;obtain rfl:=o1;clear e;obtain rfl:=o2;exact tr .none (fun q=>aP q)
  | @ret m fr' val r=>
   refine aH (r) fun N r9 hN=>?_;try clear r;revert r9;intro r;have e:HE ps m fr' Nu au=some (v,fr,outs):=e;unfold HE at e
   induction r using vU.casesOn with
   |tree t q=>
    rw[Qc t]at e;refine oA (aG e) fun _ e9=>?_;try clear e;revert e9;intro e;refine dh (AP e) fun o0 o1 o2=>?_;obtain rfl:=o0;obtain rfl:=o1;obtain rfl:=o2;exact tr t q
   | @own x _ _ hv=>
    have e:cond (cJ x ps) Option.none (match look au.ow x with|some c=>cond (mK c) (some (c,true,Nu)) Option.none|Option.none=>Option.none)=some (v,fr,outs):=e;refine bT (cJ x ps) (fun q=>?_) fun q=>?_
    ·rw[q]at e;exact aq e
    ·
     rw[q,bN]at e;refine nE (look au.ow x) (fun hc=>?_) fun c hc=>?_
     ·rw[hc]at e;exact aq e
     ·
      rw[hc]at e;refine oA (aG e) fun tc e9=>?_;try clear e;revert e9;intro e;refine dh (AP e) fun o0 o1 o2=>?_;obtain rfl:=o0;obtain rfl:=o1;obtain rfl:=o2;refine aH (X2.ow.own x c hc) fun as' ha oo=>?_;refine cF (hv as' ha) fun a r o2 o3=>?_;obtain rfl:=o2;clear hv;obtain rfl:=o3
      have q2':Sq (lG ps ms) [P] bZ s1.heap (del aV x) s2.heap:=⟨q2.keep,fun b hb=>q2.sub b (eY x hb),fun k jF z e=>by
       have e:=(j4 e).2
       ·exact q2.heads k jF z e⟩
      refine uq (BL X np Ar ny X1 hP keep (X2.giveAll ha) q2' (fun b hb=>q2.sub b (cZ ha b hb)) ((SG q).trans eo)) fun a1 b1 c1 d1=>?_;refine⟨_,a1.vI,⟨a::r,.fresh a1 (oo.aU (W:=[]) ⟨fun _ _ e _=>e,fun b o _ q z=>q ?_,fun _ q=>nomatch q⟩ fun _ _ _ e=>e),c1⟩,b1,sm⟩;have z2:=d1 b z;rw[aO]at z2 ⊢
      rcases z2 with z2|z2|z2
      ·rcases bR.mp z2 with z2|z2
       ·exact .inr (.inr (cZ ha b z2))
       ·exact .inl z2
      ·exact .inr (.inl z2)
      ·exact .inr (.inr (eY x z2))
   | @fresh _ as' a Xf oo=>
    rw[SH oo]at e;refine oA (aG e) fun _ e9=>?_;try clear e;revert e9;intro e;refine dh (AP e) fun o0 o1 o2=>?_;obtain rfl:=o0;obtain rfl:=o1;obtain rfl:=o2;refine uq (BL X np Ar ny X1 hP keep Xf q2 hN eo) fun a1 b1 c1 d1=>?_;exact⟨_,a1.vI,⟨a::as',.fresh a1 (oo.aU (W:=[]) ⟨fun _ _ e _=>e,fun b o _ q z=>q (d1 b z),fun _ q=>nomatch q⟩ fun _ _ _ e=>e),c1⟩,b1,sm⟩
theorem Nv(G:fO g consts)(X:az F envs aa al st h):h.NoLimit:=Heap.NoLimit.keeps G.nolimit X.jN
theorem U1(G:fO g consts)(FA:FnAt f fv fd)(ml:f.ms.length=f.ps.length)(TB:kK d T M){I7:List MV->(Spec->Option α)->Option α}(DY:∀cs k ah,I7 cs k=some ah->cj T M consts f cs k=some ah):
  kW (d+2) ⟨f.ms,f.ba,I7⟩ (.ref fv):=by
 intro A F envs aa al st s ps as cs vs bZ ys k ah R X Ar ny hsp;have e:=DY cs k ah hsp;refine oA (Ar.RY) fun l1 l2=>?_;have l2:f.ms.length=ps.length:=l2;refine oE (Ar.rename f.ps (by lia)) fun IB Qd=>?_;have Qd:Args s.heap (Ob F aa al) st.ow al f.ps f.ms as cs vs IB ys:=Qd;refine oA (Qd.RY) fun m1 m2=>?_;refine aH (FA.obj) fun o ho hd=>?_;have hdep:=R.depth;have hun:=R.units;refine BK (by unfold recursionLimit;lia) (X.jN _ _ ho) hd (Nv G X) (FA.code.keeps X.jN) FA.body (FA.bind vs m1 s X.jN) FA.Yx (fun x hx=>?_) (by rw[FA.sc];exact FA.co) (by rw[FA.sc];exact FA.gen) (by rw[FA.sc];exact FA.kind) fun s₁ I=>?_
 ·have IM:x.1∈f.ps:=by
   have:=List.mem_map_of_mem (f:=(·.1)) hx;rw[map_fst_zip m1]at this;exact this
  rw[FA.sc,←iZ]
  rcases FA.kinds _ IM with q|q
  ·exact .inl q
  ·exact .inr ⟨q,cellsFrom_some (x:=x.1) f.sc.names (s.heap.objs.size+1) [] (.inl (by rw[←iZ];exact q))⟩
 ·refine dh (R6 FA X Qd ny I) fun X1 hP S1=>?_
  have snd:=SE (cf:=⟨T,M,consts,f.mv,lG f.ps f.ms,f.ba⟩) G TB 30;have R':bz (A.deeper (callEnvC fd s.heap.objs.size fv)) (d+1) 30 f.ba:=by
   refine⟨?_,?_,R.handled,fun q=>?_⟩
   ·show A.depth+1+3 * (d+1)+20<=600;lia
   ·show A.units+3+8 * (40 * (d+1)+30)+200<=9000;lia
   ·refine aH ((R.AH q).frames) fun l h1 h2=>?_
    refine⟨callEnvC fd s.heap.objs.size fv::l,?_,?_⟩
    ·show A.frames.map _=_;rw[h1];rfl
    ·show A.units+3<=_;rw[jl];exact eX h2 3
  unfold cj at e;refine kT (wL snd R' X1 e) ?_ fun _ _ z=>z;rintro fl s2 ⟨w,au,aV,e2,X2,fo,wM,eF⟩;refine cF (I.done) fun h' tk hs1 hk=>?_;have sm:dQ s s2:=by
   clear wM fo S1 X1 I;subst hs1;exact⟨eF.gens,eF.drawn,eF.os⟩
  have keep:∀b o,s.heap.get? b=some o->s₁.heap.get? b=some o:=by subst hs1;exact hk
  refine nE (HF f.ps f.ms w au) (fun he=>?_) fun r he=>?_
  ·rw[he]at e2;exact aq e2
  ·
   obtain⟨v,fr,outs⟩:=r;rw[he]at e2;have z:=fn_end X FA.nd Qd ny X1 hP keep sm X2 fo wM he;refine⟨⟨v,fr,outs⟩,e2,?_⟩
   induction fl using Flow.casesOn<;>exact z
end
section
variable{prog:Program}{w:World}{A:Around}{K:Frag}{C:Addr}{R:Result->Shared->Prop}{h:Heap}{g:Array GenState}{d:Drawn}{t:Nat}{os:OsState}
theorem make_c{rest:List Value}{init:Value}(Y:Makes (model prog w) h C)(hi:Looks (model prog w) h (typeLookup (.ref C) "__init__") (some init))
  (hb:∀self,Looks (model prog w) h (bindSpecial init self) (init,[self])) (zh:(some init != some (Value.builtin "object.__init__"))=true)
  (hq:dF (model prog w) (A.under (.builtin "type.__call__" ⟨.ref C::rest,[]⟩)) (.call init ⟨.ref (h.objs.size+1)::rest,[]⟩) (InitBack (h.objs.size+1) R) ⟨(h.push emptyDict).push (instObj C h.objs.size),g,d,t,os⟩):
  dF (model prog w) A (.call (.ref C) ⟨rest,[]⟩) R ⟨h,g,d,t,os⟩:=by
 have Y':=Y;obtain⟨⟨oc,od,cd,sl,hC,e1,e2,e4⟩,made,base,self,top,call,typ⟩:=Y;refine e7 ?_;show aE _ _ (callAny (.ref C) _) _ _ _;have st:∀{Q:Fin->Shared->Prop},aE (model prog w) (A.under (.call (.ref C) ⟨rest,[]⟩)) (callAny.viaDunder (.ref C) ⟨rest,[]⟩) Q (fun e s'=>R (.error e) s') ⟨h,g,d,t,os⟩->aE (model prog w) (A.under (.call (.ref C) ⟨rest,[]⟩)) (callAny (.ref C) ⟨rest,[]⟩) Q (fun e s'=>R (.error e) s') ⟨h,g,d,t,os⟩:=
  fun x Γ p hΓ hc=>⟨_,hC,x Γ p hΓ hc⟩
 refine st ?_;unfold callAny.viaDunder;refine aj (aT (call.at ?_));dsimp only;rw[tc_bind];refine aj (aK (aj (aK ?_)));refine aK (a:=Fin.again (.call (.builtin "type.__call__") ⟨.ref C::rest,[]⟩)) (And.intro rfl ?_);refine e7 ?_;show aE _ _ (do checkBuiltinCall "type.__call__" ⟨.ref C::rest,[]⟩;again (.builtin "type.__call__" ⟨.ref C::rest,[]⟩)) _ _ _;refine aj (aT (check_slot tc_kind tc_split typ (tc_args _ _ _) ?_));refine aK (And.intro (Code.quiet_builtin _ (by decide +kernel)) (e7 ?_));show aE _ _ (match entryFor table "type.__call__" with|some b=>b ⟨.ref C::rest,[]⟩|none=>unsupported ((withoutEnding? "type.__call__" "#data").getD "type.__call__")) _ _ _;rw[entry_typeCall];have hm:Looks (model prog w) h (mroOf (.ref C)) cd.mro:=((Looks.ld (part:=none) hC).andThen .now).andThen .now;show aE _ _ (Builtin.«type.__call__» ⟨.ref C::rest,[]⟩) _ _ _;unfold Builtin.«type.__call__»;show aE _ _ (mroOf (.ref C) >>= _) _ _ _;refine aj (aT (hm.at ?_));simp only[e4,Bool.false_eq_true,if_false];refine aj (aT (made.at ?_));refine aj (aK (aj (aW (wD (Rq (new_K (R:=fun r s'=>r= .ok (.ret (.ref (h.objs.size+1)))∧s'=⟨(h.push emptyDict).push (instObj C h.objs.size),g,d,t,os⟩) Y' hi (.inl zh) ⟨rfl,rfl⟩)|> fun z=>iR z ?_)))));rintro r s' ⟨rfl,rfl⟩;have k:∀b o,h.get? b=some o→((h.push emptyDict).push (instObj C h.objs.size)).get? b=some o:=fun b o e=>Heap.get?_push_of_some _ (Heap.get?_push_of_some _ e);have hx:((h.push emptyDict).push (instObj C h.objs.size)).get? (h.objs.size+1)=some (instObj C h.objs.size):=by heap_get
 have t1:Looks (model prog w) ((h.push emptyDict).push (instObj C h.objs.size)) (typeOf (.ref (h.objs.size+1))) (.ref C):=(Looks.ld hx).andThen .now;have s1:=self.keeps k;have i1:=hi.keeps k;have b1:=(hb (.ref (h.objs.size+1))).keeps k;have t2:Looks (model prog w) ((h.push emptyDict).push (instObj C h.objs.size)) (isInstance (.ref (h.objs.size+1)) (.ref C)) true:=t1.andThen s1;have t3:Looks (model prog w) ((h.push emptyDict).push (instObj C h.objs.size)) (specialOf (.ref (h.objs.size+1)) "__init__") (some init):=t1.andThen i1;dsimp only;refine aj (aT (t2.at ?_));simp only[Bool.not_true,Bool.false_eq_true,if_false];unfold callSpecial?;refine aj (aW (aj (aT (t3.at ?_))));refine aW (aj (aT (b1.at ?_)));refine aj (wD (iR hq fun r s' z=>?_))
 rcases r with e|(v|_|_|_)<;>first|exact z|exact z.elim|skip
 obtain⟨rfl,z⟩:=z;exact aK (aK z)
end
variable{C:Addr}
theorem Args.flat{ow ow':List (Str×MV)}{ps ms as cs vs ys}(x:Args h O ow al ps ms as cs vs bZ ys)(S:cM h O h' O' W):(∀b,b∈ms->b=false)->ys= []/\Args h' O' ow' al' ps ms as cs vs [] []:=by
 induction x with
 |nil=>exact fun _=>⟨rfl,.nil⟩
 |tree t _ ih=>intro q;obtain⟨a,b⟩:=ih fun b hb=>q b (.tail _ hb);exact⟨a,.tree (t.aU S) b⟩
 |own _ _ _ _=>intro q;exact absurd (q true (.head _)) (by decide)
theorem KC(args:PySem.Args):(Code.builtin "type.__call__" args).weight≤3∧(Code.builtin "type.__call__" args).cUnits≤100:=by
 have h1:(Code.builtin "type.__call__" args).frames=0:=by kernel_rfl
 have h2:(Code.builtin "type.__call__" args).isGuard=false:=by kernel_rfl
 have h3:(Code.builtin "type.__call__" args).isCaller=false:=by kernel_rfl
 constructor
 ·unfold Code.weight
  rw[h1,h2,h3];have e1:(if false=true then claimMargin else 0)=0:=rfl;have e2:(if false=true then 1 else 0)=0:=rfl;rw[e1,e2]
  split<;>lia
 ·show 1+3 * _<=100
  rw[h1]
  lia
theorem Qe{k:Spec->Option α}{s:Spec}{ah:α}(e:LW k s=some ah):s.val= .none/\∃o,s.outs= [o]/\k ⟨o,true,[]⟩=some ah:=by
 obtain⟨v,fr,outs⟩:=s
 induction v using MV.casesOn<;>first|exact aq e|skip
 match outs,e with
 | [o],e=>exact⟨rfl,o,rfl,e⟩
theorem SI(G:fO g consts)(FA:FnAt f fv fd)(ml:f.ms.length=f.ps.length)(TB:kK d T M)(nb:f.ba=false){c:Str}{ms:List Bool}(Pw:f.ms=true::ms)(hmf:∀b,b∈ms->b=false)(hC:look g.cls c=some C)
  (mk:makesIn g.K C=true) (hi:findIn g.K (.ref C) "__init__"=some (some (.ref fv))) (hf:typeIn g.K (.ref fv)=some (.type "function")) {I7:List MV→(Spec→Option α)→Option α}
  (DY:∀cs k ah,I7 cs k=some ah->cj T M consts f (.obj c []::cs) (LW k)=some ah):
  kW (d+3) ⟨ms,false,I7⟩ (.ref C):=by
 intro A F envs aa al st s ps as cs vs bZ ys k ah R X Ar ny hsp;have e:=DY cs k ah hsp;obtain⟨heap,gens,drawn,toks,os⟩:=s;have ze:g.K.In heap:=fun a o e=>X.jN _ _ (G.ze a o e);have kp:∀b o,heap.get? b=some o->((heap.push emptyDict).push (instObj C heap.objs.size)).get? b=some o:=fun b o e=>Heap.get?_push_of_some _ (Heap.get?_push_of_some _ e);have gx:((heap.push emptyDict).push (instObj C heap.objs.size)).get? (heap.objs.size+1)=some (instObj C heap.objs.size):=by heap_get
 have gd:((heap.push emptyDict).push (instObj C heap.objs.size)).get? heap.objs.size=some emptyDict:=by heap_get
 have big:g.H0.objs.size≤heap.objs.size:=X.big;have X1:az (Ob F aa al) [] [] [("self",[heap.objs.size+1,heap.objs.size])] ⟨[],[("self",.obj c [])]⟩ ((heap.push emptyDict).push (instObj C heap.objs.size)):=by
  have lt:∀a,a∈Ob F aa al->a<heap.objs.size:=fun a q=>by obtain⟨o,e⟩:=X.live a q;exact gD e
  have nm:∀a,a∈Ob (Ob F aa al) [] [(("self":Str),[heap.objs.size+1,heap.objs.size])]↔a∈Ob F aa al∨a=heap.objs.size+1∨a=heap.objs.size:=fun a=>by
   rw[aO (F:=Ob F aa al)];simp[Mine.flat]
  refine⟨.nil,⟨fun k m q=>?_⟩,?_,fun a q=>?_,fun a q=>?_,fun b o e=>kp b o (X.jN b o e),X.top⟩
  ·rw[bg]at q
   refine bT ((("self":Str)==k)) (fun z=>?_) fun z=>?_
   ·
    rw[z,ir]at q
    (first|exact aq q|exact aP q|cases q)
    refine⟨_,by rw[bg,z];rfl,?_⟩;exact .obj (es:=[]) (n:=0) hC gx gd .nil
   ·rw[z]at q;(first|exact aq q|exact aP q|cases q)
  ·show(Ob F aa al++([]++([heap.objs.size+1,heap.objs.size]++[]))).Nodup
   refine cg.mpr ⟨X.nd,by simp,fun a qa b qb e=>?_⟩;subst e;have kU:a<heap.objs.size:=lt a qa;simp at qb
   rcases qb with q|q
   ·exact kH _ (nu kU (q▸Nat.le_succ _))
   ·exact kH _ (q▸kU)
  ·rcases(nm a).mp q with q|q|q
   ·obtain⟨o,e⟩:=X.live a q;exact⟨o,kp a o e⟩
   ·rw[q];exact⟨_,gx⟩
   ·rw[q];exact⟨_,gd⟩
  ·rcases(nm a).mp q with q|q|q
   ·exact X.hi a q
   ·rw[q];exact aI big (Nat.le_succ _)
   ·rw[q];exact big
 have S0:cM heap (Ob F aa al) ((heap.push emptyDict).push (instObj C heap.objs.size)) (Ob (Ob F aa al) [] [(("self":Str),[heap.objs.size+1,heap.objs.size])]) []:=by
  refine⟨fun b o e _=>kp b o e,fun b o e q z=>?_,fun _ q=>nomatch q⟩;rw[aO (F:=Ob F aa al)]at z;have kU:b<heap.objs.size:=gD e
  rcases z with z|z|z
  ·exact q z
  ·simp at z
  ·simp[Mine.flat]at z
   rcases z with q|q
   ·exact kH _ (nu kU (q▸Nat.le_succ _))
   ·exact kH _ (q▸kU)
 refine oA (Ar.flat (al':=[(("self":Str),[heap.objs.size+1,heap.objs.size])]) (ow':=[(("self":Str),.obj c [])]) S0 hmf) fun ye Ar1=>?_;clear Ar ny;subst ye;refine make_c (makes_of ze mk) (looks_findIn ze hi) (fun self=>bind_fn ze self hf) rfl ?_;refine oA (KC ⟨.ref C::vs,[]⟩) fun u1 u2=>?_;have R':bz (A.under (.builtin "type.__call__" ⟨.ref C::vs,[]⟩)) (d+2) 0 f.ba:=by
  have r1:=R.depth;have r2:=R.units;refine⟨?_,?_,R.handled,fun q=>by rw[nb]at q;cases q⟩
  ·show A.depth+_+3 * (d+2)+20<=600;lia
  ·show A.units+_+8 * (40 * (d+2)+0)+200<=9000;lia
 have CO:kW (d+2) ⟨f.ms,f.ba,cj T M consts f⟩ (.ref fv):=U1 G FA ml TB fun _ _ _ e=>e;have A1:Args ((heap.push emptyDict).push (instObj C heap.objs.size)) (Ob (Ob F aa al) [] [(("self":Str),[heap.objs.size+1,heap.objs.size])]) [(("self":Str),.obj c [])] [(("self":Str),[heap.objs.size+1,heap.objs.size])] ("self"::ps) (true::ms) (.own "self"::as) (.obj c []::cs) (.ref (heap.objs.size+1)::vs) [("self",[heap.objs.size+1,heap.objs.size])] ["self"]:=
  .own rfl rfl Ar1
 have CC:=CO (s:=⟨(heap.push emptyDict).push (instObj C heap.objs.size),gens,drawn,toks,os⟩) (ps:= "self"::ps) R' X1 (by rw[Pw];exact A1) (by simp) e;refine iR CC fun r s' z=>?_;refine aH (z) fun o0 hk z9=>?_;try clear z;obtain⟨spv,fr0,spo⟩:=o0;revert z9;intro z;obtain⟨h1,o,h2,hk⟩:=Qe hk;have h1:spv= .none:=h1;have h2:spo= [o]:=h2;subst h1 h2
 rcases r with e'|fl
 ·exact z.elim
 induction fl using Flow.casesOn<;>first|exact z.elim|skip
 rename_i v;refine jS (z) fun qE X3 r3 gr jm=>?_;try clear z;have e3:look (iD [(("self":Str),MV.obj c [])] ["self"] [o]) ("self":Str)=some o:=rfl;refine aH (X3.ow.own _ _ e3) fun as3 ha3 oo3=>?_;refine aH (gr.heads _ _ ha3) fun qF ha1 hh=>?_
 have ha1':qF= [heap.objs.size+1,heap.objs.size]:=by
  have:look [(("self":Str),[heap.objs.size+1,heap.objs.size])] ("self":Str)=some [heap.objs.size+1,heap.objs.size]:=rfl;rw[this]at ha1;exact(dm ha1).symm
 clear ha1;subst ha1';refine tD (oo3.ne_nil) fun x r o2=>?_;obtain rfl:=o2;have hx:x=heap.objs.size+1:=(dm hh).symm;clear hh;subst hx;have hv:v= .none:=by
  refine aH (r3) fun N r39 _=>?_;try clear r3;revert r39;intro r3
  cases r3 with
  |tree t _=>cases t;rfl
  |fresh _ o=>cases o
 have nd3:=X3.nd;have sub3:∀b,b∈(heap.objs.size+1)::r->b∈Mine.flat qE:=cZ ha3;have keep:∀b o,heap.get? b=some o->s'.heap.get? b=some o:=fun b o e=>by
  refine gr.keep b o (kp b o e) (fun q=>nomatch q) fun q=>?_;have kU:b<heap.objs.size:=gD e;simp[Mine.flat]at q
  rcases q with q|q
  ·exact kH _ (nu kU (q▸Nat.le_succ _))
  ·exact kH _ (q▸kU)
 have hN:∀a,a∈(heap.objs.size+1)::r->heap.get? a=none/\(∃o,s'.heap.get? a=some o)/\g.H0.objs.size<=a:=fun a q=>by
  have qf:=sub3 a q;refine⟨?_,X3.live a (aO.mpr (.inr (.inr qf))),X3.hi a (aO.mpr (.inr (.inr qf)))⟩
  rcases gr.sub a qf with z|z|z
  ·simp[Mine.flat]at z
   rcases z with q|q
   ·exact Heap.get?_none_of_le (q▸Nat.le_succ _)
   ·exact Heap.get?_none_of_le (q▸gK _)
  ·(first|exact aq z|exact aP z|cases z)
  ·cases y:heap.get? a with
   |none=>rfl
   |some o=>rw[kp a o y]at z;(first|exact aq z|exact aP z|cases z)
 have nN:((heap.objs.size+1)::r).Nodup:=lN (cg.mp (cg.mp nd3).2.1).2.1 ha3;have Xf:az (((heap.objs.size+1)::r)++F) envs aa al st s'.heap:=X.BF keep _ hN nN;refine⟨hv,⟨o,true,[]⟩,hk,?_⟩;show ∃al',_;have po:iD st.ow [] []=st.ow:=rfl;rw[po];refine⟨al,X.ext keep,?_,Sp.ext keep,⟨jm.gens,jm.drawn,jm.os⟩⟩;refine⟨(heap.objs.size+1)::r,.fresh Xf (oo3.aU (W:=[]) ⟨fun _ _ e _=>e,fun b o _ q z=>q ?_,fun _ q=>nomatch q⟩ fun _ _ _ e=>e),fun b q=> .inr (.inr (hN b q).1)⟩;rw[aO (F:=Ob F aa al)];rw[aO]at z
 rcases z with z|z|z
 ·rcases bR.mp z with z|z
  ·exact .inr (.inr (sub3 b z))
  ·exact .inl (aO.mpr (.inl z))
 ·exact .inl (aO.mpr (.inr (.inl z)))
 ·exact .inl (aO.mpr (.inr (.inr z)))
end
set_option tactic.hygienic true
noncomputable def fnOf(s:Stmt)(ms:List Bool)(mv:List Str)(ba:Bool):Fn:=match s with
 | .FunctionDef _ a b _ _ _ sc _ _ _=>⟨sc,a.args.map (·.arg),b,ms,mv,ba⟩
 |_=>⟨default,[],[],[],[],false⟩
def Qf:Fn:=fnOf (Hd.df 23) [false] [] true
def xP:Fn:=fnOf (Hd.df 24) [false] [] true
def uT:Fn:=fnOf (Hd.df 25) [false] [] true
def f_want:Fn:=fnOf (Hd.df 38) [false,false] [] true
def Gn:Fn:=fnOf (Hd.df 39) [false] [] true
def wU:Fn:=fnOf (Hd.df 40) [false,false] [] true
def I8:Fn:=fnOf (Hd.df 41) [false] [] true
def AZ:Fn:=fnOf (Hd.df 42) [false] [] true
def Gp:Fn:=fnOf (Hd.df 43) [false] [] true
def I9:Fn:=fnOf (Hd.df 44) [false,false] ["reader","components"] true
def Ja:Fn:=fnOf (Hd.df 45) [false] [] true
def KD:Fn:=fnOf (Hd.df 46) [false] ["reader","idents","dc_slots","ac_slots"] true
def Gq:Fn:=fnOf (Hd.df 47) [false] [] true
def C9:Fn:=fnOf (Hd.df 48) [false] [] true
def Jb:Fn:=fnOf (Hd.df 49) [false] [] true
def Qg:Fn:=fnOf (Hd.df 51) [false] ["found"] true
def f9:Fn:=fnOf (Hd.df 52) [false,false] [] true
def qi:Fn:=fnOf (Hd.df 53) [false] ["intervals","numbers"] true
def se:Fn:=fnOf (Hd.df 58) [true,false] [] true
def f_need:Fn:=fnOf (Hd.df 59) [true,false] [] true
def Dc:Fn:=fnOf (Hd.df 60) [false,false] [] true
def Jc:Fn:=fnOf (Hd.df 61) [false,false] ["reader","found","divisors"] true
def Ex:Fn:=fnOf (Hd.df 62) [false] ["reader","found"] true
def uU:Fn:=fnOf (Hd.df 66) [false,false] [] true
def v5:Fn:=fnOf (Hd.df 67) [false,false] ["parts"] true
def sX:Fn:=fnOf (Hd.df 68) [false,false,false] ["parts"] true
def uV:Fn:=fnOf (Hd.df 69) [false,false] [] true
def BW:Fn:=fnOf (Hd.df 70) [false,false] ["found"] true
def kX:Fn:=fnOf (Hd.df 72) [false,false] ["check"] true
def nI:Fn:=fnOf (Hd.df 74) [false,false] [] true
def j7:Fn:=fnOf (Hd.df 75) [true,false] [] true
def g9:Fn:=fnOf (Hd.df 76) [true,false] [] true
def uW:Fn:=fnOf (Hd.df 77) [true] [] true
def v7:Fn:=fnOf (Hd.df 78) [true,false] [] true
def v8:Fn:=fnOf (Hd.df 79) [true,false] [] true
def xQ:Fn:=fnOf (Hd.df 80) [true,false,false] ["numbers"] true
def qj:Fn:=fnOf (Hd.df 81) [true] ["some"] true
def nJ:Fn:=fnOf (Hd.df 82) [true,false] [] true
def o7:Fn:=fnOf (Hd.df 83) [false,false,false,false,false] ["found"] true
def ru:Fn:=fnOf (Hd.df 84) [false,false,false,false,false] ["found"] true
def pJ:Fn:=fnOf (Hd.df 85) [false] ["found"] true
def AQ:Fn:=fnOf (Hd.df 86) [false] ["source","known"] true
def AR:Fn:=fnOf (Hd.mf 26 0) [true,false,false,false] [] false
def Gr:Fn:=fnOf (Hd.mf 28 0) [true,false] [] false
def Dd:Fn:=fnOf (Hd.mf 35 0) [true,false,false,false,false] [] false
def KG:Fn:=fnOf (Hd.mf 36 0) [true,false,false,false,false,false] [] false
def Nx:Fn:=fnOf (Hd.mf 37 0) [true,false,false,false,false,false,false,false] [] false
def KH:Fn:=fnOf (Hd.mf 71 0) [true,false] [] false
def zI:Fn:=fnOf (Hd.mf 28 1) [true] [] true
def zJ:Fn:=fnOf (Hd.mf 28 2) [true,false] [] true
def zK:Fn:=fnOf (Hd.mf 28 3) [true] [] true
def zM:Fn:=fnOf (Hd.mf 28 4) [true] [] true
def BX:Fn:=fnOf (Hd.mf 71 1) [true,false] [] true
def kM:Fn:=fnOf (Hd.mf 71 2) [true,false,false,false] [] true
def jP:Fn:=fnOf (Hd.mf 71 3) [true,false,false] [] true
def gI:Fn:=fnOf (Hd.mf 71 4) [true,false,false] ["needed"] true
def tl(rows:List (Str×Entry)):fE:=fun x=>look rows x
def tm(rows:List (Str×List (Str×Entry))):Str->fE:=fun c x=>match look rows c with
 |some r=>look r x
 |none=>none
abbrev bw:Type:=List MV->(Spec->Option aJ)->Option aJ
noncomputable def eK(f:Fn)(sp:bw):Entry:=⟨f.ms,f.ba,sp⟩
noncomputable def U3(f:Fn)(sp:bw):Entry:=⟨f.ms.tail,false,sp⟩
def Runs(T:fE)(M:Str->fE)(f:Fn)(sp:bw):Prop:=∀cs k ah,sp cs k=some ah->cj T M consts f cs k=some ah
def SJ(T:fE)(M:Str->fE)(c:Str)(f:Fn):bw:=fun cs k=>cj T M consts f (.obj c []::cs) (LW k)
def U4(T:fE)(M:Str->fE)(c:Str)(f:Fn)(sp:bw):Prop:=∀cs k ah,sp cs k=some ah->SJ T M c f cs k=some ah
set_option tactic.hygienic false
section
variable{d d' n:Nat}
theorem bz.less{A:Around}{tb:Bool}(R:bz A d' n tb)(q:d<=d'):bz A d n tb:=⟨aI (eX (gn (jj 3 q) _) _) R.depth,aI (eX (gn (jj 8 (eX (jj 40 q) _)) _) _) R.units,R.handled,R.AH⟩
variable{en:Entry}
theorem kW.le{fv:Value}(x:kW d en fv)(q:d<=d'):kW d' en fv:=by
 intro A F envs aa al st s ps as cs vs bZ ys k ah R X Ar ny h1;exact x (R.less q) X Ar ny h1
def De(fd:FuncData)(ps:List Str):Prop:=∀vals:List Value,vals.length=ps.length->∀s:Shared,(∀b o,g.H0.get? b=some o->s.heap.get? b=some o)->BindsTo s fd ⟨vals,[]⟩ (ps.zip vals)
def Jd:Nat->(List Value->Prop)->Prop
 |0,P=>P []
 |n+1,P=>∀a,Jd n fun r=>P (a::r)
theorem Jd.get:∀{n:Nat} {P:List Value->Prop},Jd n P->∀l:List Value,l.length=n->P l:=by
 intro n
 induction n with
 |zero=>intro P h l e;rw[List.eq_nil_of_length_eq_zero e];exact h
 |succ n ih=>
  intro P h l e
  induction l using List.casesOn with
  |nil=>exact Nat.noConfusion e
  |cons a r=>exact ih (P:=fun r=>P (a::r)) (h a) r (Nat.succ.inj e)
def CurT(β:Type):Nat->Type
 |0=>β
 |n+1=>Value->CurT β n
noncomputable def Qh{β:Type}:(n:Nat)->(List Value->β)->CurT β n
 |0,F=>F []
 |n+1,F=>fun a=>Qh n fun r=>F (a::r)
variable{β:Type}
theorem WK:∀{n:Nat} {F G:List Value->β},Qh n F=Qh n G->∀l:List Value,l.length=n->F l=G l:=by
 intro n
 induction n with
 |zero=>intro F G h l e;rw[List.eq_nil_of_length_eq_zero e];exact h
 |succ n ih=>
  intro F G h l e
  induction l using List.casesOn with
  |nil=>exact Nat.noConfusion e
  |cons a r=>exact ih (F:=fun r=>F (a::r)) (G:=fun r=>G (a::r)) (congrFun h a) r (Nat.succ.inj e)
noncomputable def U5(o:Option NameKind):Bool:=match o with
 |some .local=>true
 |some .cell=>true
 |_=>false
theorem SK{o:Option NameKind}(q:U5 o=true):o=some .local∨o=some .cell:=by
 induction o using Option.casesOn with
 |none=>exact aP q
 |some k=>induction k using NameKind.casesOn<;>first|exact aP q|exact .inl rfl|exact .inr rfl
noncomputable def Je(names:List (Str×NameKind)):List Str->Bool
 | []=>true
 |p::r=>U5 (look names p)&&Je names r
theorem Qi{names:List (Str×NameKind)}{ps:List Str}(q:Je names ps=true):∀p,p∈ps->look names p=some .local∨look names p=some .cell:=by
 induction ps with
 |nil=>intro p h;cases h
 |cons a r ih=>
  refine oA (bk.mp q) fun q1 q2=>?_;intro p h
  rcases cC.mp h with rfl|h
  ·exact SK q1
  ·exact ih q2 p h
noncomputable def Qj(k:ScopeKind):Bool:=match k with
 | .function=>true
 |_=>false
theorem Qk{k:ScopeKind}(q:Qj k=true):k= .function:=by induction k using ScopeKind.casesOn<;>first|rfl|exact aP q
def fnChk(f:Fn):Bool:=n8 f.ps&&(Je f.sc.names f.ps&&(n8 ((cellsFrom 0 f.sc.names []).map (·.1))&&(Qj f.sc.kind&&(!f.sc.isCoroutine&& !f.sc.isGenerator))))
def kL(a:Addr):Option Obj:=(Hd.kf g.w.params).lookup a
def kD(a:Addr):Data:=match kL a with
 |some o=>o.data
 |none=>default
noncomputable def fdO(o:Data):FuncData:=match o with
 | .func fd=>fd
 |_=>default
noncomputable def vsO(o:Data):Array Value:=match o with
 | .fields v=>v
 |_=> #[]
noncomputable def adO(v:Value):Addr:=match v with
 | .ref c=>c
 |_=>0
noncomputable def tkO(v:Option Value):Nat:=match v with
 |some (.str _ t)=>t
 |_=>0
def tF(fv:Addr):FuncData:=fdO (kD fv)
def cdK(fv:Addr):Addr:=adO (tF fv).code
def vsK(fv:Addr):Array Value:=vsO (kD (cdK fv))
def U6(f:Fn)(fv:Addr):=((kL fv).map (·.data),(kL (cdK fv)).map (·.data),(tF fv).code,(vsK fv)[1]?,(tF fv).scope,(tF fv).body,(tF fv).closure,(tF fv).globals,(tF fv).builtins,fnChk f,f.ms.length)
def U7(f:Fn)(fv:Addr):=(some (Data.func (tF fv)),some (Data.fields (vsK fv)),Value.ref (cdK fv),some (Value.str (tF fv).qualname (tkO (vsK fv)[1]?)),f.sc,FuncBody.stmts f.body,([]:List (Str×Addr)),mainGlobals,builtinsNs,true,f.ps.length)
def bLr(f:Fn)(fv:Addr)(n:Nat):=(f.ps.length,Qh n fun vals=>bindArgs (tF fv) ⟨vals,[]⟩)
def bRr(f:Fn)(n:Nat):=(n,Qh n fun vals=>(pure (f.ps.zip vals):Sem (List (Str×Value))))
def mz{β:Type}(P:Str->β->Prop):List (Str×β)->Prop
 | []=>True
 |v::l=>P v.1 v.2/\mz P l
theorem mz.nil{P:Str->β->Prop}:mz P []:=trivial
theorem mz.cons{β:Type}{P:Str->β->Prop}{x v l}(h:P x v)(r:mz P l):mz P ((x,v)::l):=⟨h,r⟩
variable{x:Str}
theorem mz.get{P:Str->β->Prop}{l:List (Str×β)}(a:mz P l){v:β}(e:look l x=some v):P x v:=by
 induction l with
 |nil=>exact aq e
 |cons y l ih=>
  rw[show look (y::l) x=cond (y.1==x) (some y.2) (look l x)from bg _ _ _ _]at e;refine bT (y.1==x) (fun z=>?_) fun z=>?_
  ·rw[z]at e;rw[←eq_of_beq z];exact dm e▸a.1
  ·rw[z]at e;exact ih a.2 e
structure W0:Prop where
 G:fO g consts
 K:g.K=Hd.kf g.w.params
 c:g.cls=zd
 m:∀x a,look A8 x=some a->g.mg x=some (.ref a)
inductive uX(f:Fn)(fv:Addr):Prop
 |mk {fd:FuncData}:FnAt f fv fd->f.ms.length=f.ps.length->uX f fv
theorem W0.kl(w:W0){a:Addr}{o:Obj}(e:kL a=some o):g.H0.get? a=some o:=w.G.ze a o (w.K▸e)
theorem mapS{γ:Type}{o:Option β}{f:β->γ}{c:γ}(e:o.map f=some c):∃b,o=some b/\f b=c:=by
 induction o using Option.casesOn with
 |none=>exact aq e
 |some b=>exact⟨b,rfl,dm e⟩
variable{f:Fn}
theorem Ey{fv:Addr}(w:W0)(h:U6 f fv=U7 f fv)(hb:De (tF fv) f.ps):uX f fv:=by
 have h:=dY h;refine oA h fun h1 h=>?_;refine oA (dY h) fun h2 h=>?_;refine oA (dY h) fun h3 h=>?_;refine oA (dY h) fun h4 h=>?_;refine oA (dY h) fun h5 h=>?_;refine oA (dY h) fun h6 h=>?_;refine oA (dY h) fun h7 h=>?_;refine oA (dY h) fun h8 h=>?_;refine oA (dY h) fun h9 h=>?_;refine oA (dY h) fun k h=>?_;refine oA (bk.mp k) fun k1 k=>?_;refine oA (bk.mp k) fun k2 k=>?_;refine oA (bk.mp k) fun k3 k=>?_;refine oA (bk.mp k) fun k4 k=>?_;refine oA (bk.mp k) fun k5 k6=>?_;refine aH (mapS h1) fun o a1 a2=>?_;refine aH (mapS h2) fun p b1 b2=>?_;exact⟨⟨⟨o,w.kl a1,a2⟩,h5,h6,h7,h8,h9,⟨_,p,_,_,h3,w.kl b1,b2,h4⟩,hb,Qi k2,vK k1,vK k3,Qk k4,Hs k5,Hs k6⟩,h⟩
theorem mX{fv:Addr}(h:bLr f fv n=bRr f n):De (tF fv) f.ps:=by
 refine oA (dY h) fun h1 h2 vals q s _=>?_;exact .of_eq (WK h2 vals (q.trans h1))
inductive Ny(x:Str)(f:Fn):Prop
 |mk (fv:Addr):Mine.look A8 x=some fv->keepIn (Hd.kf g.w.params) (.ref fv)=true->uX f fv->Ny x f
inductive Nz(x:Str)(f:Fn):Prop
 |mk (C fv:Addr) (ms:List Bool):Mine.look A8 x=some C->Mine.look zd x=some C->keepIn (Hd.kf g.w.params) (.ref C)=true->uX f fv->f.ba=false->f.ms=true::ms->ms.all (fun b=> !b)=true->
   makesIn (Hd.kf g.w.params) C=true→findIn (Hd.kf g.w.params) (.ref C) "__init__"=some (some (.ref fv))→typeIn (Hd.kf g.w.params) (.ref fv)=some (.type "function")→Nz x f
inductive NB(c x:Str)(f:Fn):Prop
 |mk (C fv:Addr):Mine.look zd c=some C->plainGet (Hd.kf g.w.params) C x=true->findIn (Hd.kf g.w.params) (.ref C) x=some (some (.ref fv))->isFn (Hd.kf g.w.params) (.ref fv)=true->keepIn (Hd.kf g.w.params) (.ref fv)=true->uX f fv->NB c x f
def fdP:FuncData:=Hd.Yy (Hd.mf 26 0) "Piece.__init__" 3 [] (.ref 99) .none (.none) (Hd.vs "pixelpress.markers" 266) none (.ref 105) .none 0
theorem bindP(w:W0):De (tF 106) AR.ps:=fun vals q s st=>
 Jd.get (P:=fun vals=>BindsTo s (tF 106) ⟨vals,[]⟩ (AR.ps.zip vals)) ((show tF 106=fdP by kernel_rfl)▸show Jd 4 fun vals=>BindsTo s fdP ⟨vals,[]⟩ (AR.ps.zip vals)from
  fun a b c d=>fun M A E Q hq=>BindsTo.of_defaults (T:=99) (o:=Hd.YE g.w.params) (items:=⟨[Hd.Uq 339,Hd.Uq 340]⟩) (n:=0) rfl (st _ _ (w.kl (by kernel_rfl))) rfl rfl rfl M A E Q hq) vals (q.trans (by kernel_rfl))
theorem fr(w:W0)(fv n:Nat)(h:(U6 f fv,look A8 x,keepIn (Hd.kf g.w.params) (.ref fv),bLr f fv n)=(U7 f fv,some fv,true,bRr f n)):Ny x f:=by
 refine oA (dY h) fun h1 h=>?_;refine oA (dY h) fun h2 h=>?_;refine oA (dY h) fun h3 h=>?_;exact⟨fv,h2,h3,Ey w h1 (mX h)⟩
theorem mr(w:W0){c:Str}(C fv n:Nat)(h:(U6 f fv,look zd c,plainGet (Hd.kf g.w.params) C x,findIn (Hd.kf g.w.params) (.ref C) x,isFn (Hd.kf g.w.params) (.ref fv),keepIn (Hd.kf g.w.params) (.ref fv),bLr f fv n)=(U7 f fv,some C,true,some (some (.ref fv)),true,true,bRr f n)):NB c x f:=by
 refine oA (dY h) fun h1 h=>?_;refine oA (dY h) fun h2 h=>?_;refine oA (dY h) fun h3 h=>?_;refine oA (dY h) fun h4 h=>?_;refine oA (dY h) fun h5 h=>?_;refine oA (dY h) fun h6 h=>?_;exact⟨C,fv,h2,h3,h4,h5,h6,Ey w h1 (mX h)⟩
theorem cr(w:W0)(C fv:Nat)(hb:De (tF fv) f.ps)(h:(U6 f fv,look A8 x,look zd x,keepIn (Hd.kf g.w.params) (.ref C),f.ba,f.ms,f.ms.tail.all (fun b=> !b),makesIn (Hd.kf g.w.params) C,findIn (Hd.kf g.w.params) (.ref C) "__init__",typeIn (Hd.kf g.w.params) (.ref fv))=(U7 f fv,some C,some C,true,false,true::f.ms.tail,true,true,some (some (.ref fv)),some (.type "function"))):Nz x f:=by
 refine oA (dY h) fun h1 h=>?_;refine oA (dY h) fun h2 h=>?_;refine oA (dY h) fun h3 h=>?_;refine oA (dY h) fun h4 h=>?_;refine oA (dY h) fun h5 h=>?_;refine oA (dY h) fun h6 h=>?_;refine oA (dY h) fun h7 h=>?_;refine oA (dY h) fun h8 h=>?_;refine oA (dY h) fun h9 Fv=>?_;exact⟨C,fv,_,h2,h3,h4,Ey w h1 hb,h5,h6,h7,h8,h9,Fv⟩
inductive cz(d:Nat)(x:Str)(en:Entry):Prop
 |mk (fv:Addr):g.mg x=some (.ref fv)->keepIn g.K (.ref fv)=true->kW d en (.ref fv)->cz d x en
inductive lQ(d:Nat)(c x:Str)(en:Entry):Prop
 |mk (C fv:Addr):look g.cls c=some C->plainGet g.K C x=true->findIn g.K (.ref C) x=some (some (.ref fv))->isFn g.K (.ref fv)=true->keepIn g.K (.ref fv)=true->kW d en (.ref fv)->lQ d c x en
theorem cz.le(a:cz d x en)(q:d<=d'):cz d' x en:=by
 obtain⟨fv,a,b,c⟩:=a;exact⟨fv,a,b,c.le q⟩
theorem lQ.le{c:Str}(a:lQ d c x en)(q:d<=d'):lQ d' c x en:=by
 obtain⟨C,fv,a,b,c,d,e,f⟩:=a;exact⟨C,fv,a,b,c,d,e,f.le q⟩
theorem cQ{rows:List (Str×Entry)}{ms:List (Str×List (Str×Entry))}(a:mz (cz d) rows)(b:mz (fun c r=>mz (lQ d c) r) ms):kK d (tl rows) (tm ms):=by
 refine⟨fun x en e=>?_,fun c x en e=>?_⟩
 ·obtain⟨fv,a,b,c⟩:=a.get e
  exact⟨fv,a,b,c⟩
 ·have e:(match look ms c with|some r=>look r x|none=>none)=some en:=e
  refine nE (look ms c) (fun h=>?_) fun r h=>?_
  ·rw[h]at e;exact aq e
  ·
   rw[h]at e;obtain⟨C,fv,a,b,c,d,e,f⟩:=(b.get h).get e;exact⟨C,fv,a,b,c,d,e,f⟩
variable{M:Str->fE}
theorem uX.ok{fv:Addr}(x:uX f fv)(w:W0){T:fE}{sp}(r:Runs T M f sp)(TB:kK d T M):kW (d+3) (eK f sp) (.ref fv):=by
 obtain⟨FA,ml⟩:=x;exact kW.le (U1 w.G FA ml TB r) (Nat.le_succ _)
theorem Ny.ok(a:Ny x f)(w:W0){T:fE}{sp}(r:Runs T M f sp)(TB:kK d T M):cz (d+3) x (eK f sp):=by
 obtain⟨fv,h1,h2,h3⟩:=a;exact⟨fv,w.m _ _ h1,w.K▸h2,h3.ok w r TB⟩
theorem NB.ok{c:Str}(a:NB c x f)(w:W0){T:fE}{sp}(r:Runs T M f sp)(TB:kK d T M):lQ (d+3) c x (eK f sp):=by
 obtain⟨C,fv,h1,h2,h3,h4,h5,h6⟩:=a;exact⟨C,fv,w.c▸h1,w.K▸h2,w.K▸h3,w.K▸h4,w.K▸h5,h6.ok w r TB⟩
theorem Nz.ok(a:Nz x f)(w:W0){T:fE}{sp}(r:U4 T M x f sp)(TB:kK d T M):cz (d+3) x (U3 f sp):=by
 obtain⟨C,fv,ms,h1,h2,h3,⟨FA,ml⟩,h5,h6,h7,h8,h9,Fv⟩:=a;rw[←w.K]at h3 h8 h9 Fv;have e:U3 f sp=⟨ms,false,sp⟩:=by unfold U3;rw[h6];rfl
 rw[e];exact⟨C,w.m _ _ h1,h3,SI w.G FA ml TB h5 h6 (fun b hb=>Hs (List.all_eq_true.mp h7 b hb)) (w.c▸h2) h8 h9 Fv r⟩
end
section
abbrev lu:Type:=(Spec->Option aJ)->Option aJ
noncomputable def U8(o:List Nat)(i:Int):MV:= .obj "OctetReader" [("octets",.bytes o),("at",.int i)]
variable{a b:Bool}
theorem jv(e:(a&&b)=true):a=true/\b=true:=bk.mp e
theorem Ez{c:Bool}(e:(a&&(b&&c))=true):a=true/\b=true/\c=true:=⟨(jv e).1,jv (jv e).2⟩
theorem oz(q:(a||b)=true):a=true∨b=true:=by induction a using Bool.casesOn;exact .inr q;exact .inl rfl
noncomputable def gd{β:Type}:List (Bool×Bool)->Option β->Option β
 | [],r=>r
 |(b,true)::l,r=>cond b (gd l r) none
 |(b,false)::l,r=>cond b none (gd l r)
noncomputable def fX:List (Bool×Bool)->Bool
 | []=>true
 |(b,true)::l=>cond b (fX l) false
 |(b,false)::l=>cond b false (fX l)
variable{β:Type}
theorem bH{r:Option β}:∀{l:List (Bool×Bool)},fX l=true->gd l r=r:=by
 intro x1
 induction x1 with
 |nil=>
  intro _;exact rfl
 |cons c2 l dR=>
  induction c2 using Prod.casesOn with
  |mk b c3=>
   induction c3 using Bool.casesOn with
   |true=>
    intro q
    induction b using Bool.casesOn;exact aP q;exact dR q
   |false=>
    intro q
    induction b using Bool.casesOn;exact dR q;exact aP q
noncomputable def Lm(f:MV->lu):bw:=fun cs k=>match cs with
 | [a]=>f a k
 |_=>none
noncomputable def zN(f:MV->MV->lu):bw:=fun cs k=>match cs with
 | [a,b]=>f a b k
 |_=>none
variable{cs:List MV}{k:Spec->Option aJ}{ah:aJ}
theorem wV{f:MV->lu}(e:Lm f cs k=some ah):∃a,cs= [a]/\f a k=some ah:=by
 rcases cs with _|⟨a,_|⟨b,r⟩⟩
 ·exact aq e
 ·exact⟨a,rfl,e⟩
 ·exact aq e
theorem l9{f:MV->MV->lu}(e:zN f cs k=some ah):∃a b,cs= [a,b]/\f a b k=some ah:=by
 rcases cs with _|⟨a,_|⟨b,_|⟨c,r⟩⟩⟩
 ·exact aq e
 ·exact aq e
 ·exact⟨a,b,rfl,e⟩
 ·exact aq e
noncomputable def BY(c:Str)(ns:List Str):MV->Option (List MV)
 | .obj d fs=>cond (c==d) (go ns fs) none
 |_=>none
where
 go:List Str->List (Str×MV)->Option (List MV)
 | [],[]=>some []
 |n::ns,(m,v)::r=>cond (n==m) (match go ns r with|some l=>some (v::l)|none=>none) none
 |_,_=>none
theorem WL:∀{ns:List Str} {fs:List (Str×MV)} {l:List MV},BY.go ns fs=some l->fs=ns.zip l/\l.length=ns.length:=by
 intro x1
 induction x1 with
 |nil=>
  intro x2
  induction x2 using List.casesOn with
  |nil=>
   intro _ e;cases e;exact⟨rfl,rfl⟩
  |cons c3 c4=>
   intro _ e;exact aq e
 |cons n ns dR=>
  intro x5
  induction x5 using List.casesOn with
  |nil=>
   intro _ e;exact aq e
  |cons c6 r=>
   induction c6 using Prod.casesOn with
   |mk m v=>
    intro l e;have e:cond (n==m) (match BY.go ns r with|some l=>some (v::l)|none=>none) none=some l:=e;refine bE (n==m) (fun z=>?_) fun z=>?_
    ·rw[z]at e;exact aq e
    ·
     rw[z]at e;refine nE (BY.go ns r) (fun h=>?_) fun l' h=>?_
     ·rw[h]at e;exact aq e
     ·
      rw[h]at e;have e2:v::l'=l:=dm e;refine oA (dR h) fun o0 q=>?_;obtain rfl:=o0;subst e2;exact⟨by rw[eq_of_beq z];rfl,by rw[jl,q];rfl⟩
variable{v:MV}
theorem SM{c:Str}{ns:List Str}{l:List MV}(h:BY c ns v=some l):v= .obj c (ns.zip l)/\l.length=ns.length:=by
 have q:∃d fs,v= .obj d fs:=by induction v using MV.casesOn<;>first|exact⟨_,_,rfl⟩|exact aq h
 refine tD (q) fun d fs o2=>?_;try clear q;obtain rfl:=o2;have h:cond (c==d) (BY.go ns fs) none=some l:=h;refine bE (c==d) (fun z=>?_) fun z=>?_
 ·rw[z]at h;exact aq h
 ·
  rw[z]at h;refine oA (WL h) fun o0 q=>?_;obtain rfl:=o0;exact⟨by rw[eq_of_beq z],q⟩
noncomputable def zP(f:Int->lu):MV->lu
 | .int i=>f i
 |_=>fun _=>none
noncomputable def U9(f:List Nat->lu):MV->lu
 | .bytes i=>f i
 |_=>fun _=>none
theorem mh{f:Int->lu}(e:zP f v k=some ah):∃a,v= .int a/\f a k=some ah:=by induction v using MV.casesOn<;>first|exact⟨_,rfl,e⟩|exact aq e
theorem EA{f:List Nat->lu}(e:U9 f v k=some ah):∃a,v= .bytes a/\f a k=some ah:=by induction v using MV.casesOn<;>first|exact⟨_,rfl,e⟩|exact aq e
def EV(T:fE)(M:Str->fE)(f:Fn)(n:Nat):Ev:=ev ⟨T,M,consts,f.mv,lG f.ps f.ms,f.ba⟩ n
def bh(f:Fn)(k:Spec->Option aJ):cI->St->Option aJ:=fun fl st=>match HF f.ps f.ms fl st with
 |some (v,fr,outs)=>k ⟨v,fr,outs⟩
 |none=>none
def dZ(self:Ev)(rest:List Stmt)(k:cI->St->Option aJ):cI->St->Option aJ:=fun f st=>match f with
 | .aL=>aC self rest st k
 | .ret v fr=>k (.ret v fr) st
noncomputable def Df:Stmt->Expr
 | .While t _ _ _=>t
 | .For t _ _ _ _=>t
 | .If t _ _ _=>t
 | .Assign _ e _=>e
 | .Return (some e) _=>e
 | .Expr e _=>e
 |_=> .List [] default
noncomputable def G3:Stmt->List Stmt
 | .While _ b _ _=>b
 | .For _ _ b _ _=>b
 | .If _ b _ _=>b
 | .Try b _ _ _ _=>b
 |_=>[]
structure ExP where
 e:Expr
 es:List Expr
 g:List Comprehension
 sc:Option Scope
noncomputable def FO:Expr->ExP
 | .ListComp e g s _=>⟨e,[],g,some s⟩
 | .Call _ es _ _=>⟨.List [] default,es,[],none⟩
 | .BinOp _ _ e _=>⟨e,[],[],none⟩
 | .Compare l _ es _=>⟨l,es,[],none⟩
 |e=>⟨e,[],[],none⟩
abbrev fG:Stmt->Expr:=Df
abbrev fH:Stmt->List Stmt:=G3
def kY(o:List Nat)(i:Int):Bool:=decide (0<=i)&&(decide (i+1<=o.length)&&decide (o.length<=ak))
noncomputable def v9(o:List Nat)(i:Int):Nat:=o.getD i.toNat 0
def Ln:bw:=zN fun a b=>U9 (fun d=>zP (fun i k=>gd [(kY d i&&kY d (i+1),true),(decide (((v9 d (i+1):Nat):Int)=255),false)] (k ⟨.int i,false,[]⟩)) b) a
def Ql:bw:=Lm (zP fun c k=>k ⟨.bool (cond (decide (208<=c)) (decide (c<=208+7)) false),true,[]⟩)
theorem lY{r:Option β}{ah:β}:∀{l:List (Bool×Bool)},gd l r=some ah->fX l=true/\r=some ah:=by
 intro x1
 induction x1 with
 |nil=>
  intro e;exact⟨rfl,e⟩
 |cons c2 l dR=>
  induction c2 using Prod.casesOn with
  |mk b c3=>
   induction c3 using Bool.casesOn with
   |true=>
    intro e
    induction b using Bool.casesOn;exact aq e;exact dR e
   |false=>
    intro e
    induction b using Bool.casesOn;exact dR e;exact aq e
noncomputable def onO(c:Str)(ns:List Str)(f:List MV->lu)(v:MV):lu:=match BY c ns v with
 |some l=>f l
 |none=>fun _=>none
def onR(f:List Nat→Int→lu):MV→lu:=onO "OctetReader" ["octets","at"] (zN fun a b=>U9 (fun o=>zP (fun i=>f o i) b) a)
theorem WM{f:List Nat->Int->lu}(e:onR f v k=some ah):∃o i,v=U8 o i/\f o i k=some ah:=by
 unfold onR onO at e;refine nE (BY "OctetReader" ["octets","at"] v) (fun h=>?_) fun l h=>?_
 ·rw[h]at e;exact aq e
 ·
  rw[h]at e;refine oA (SM h) fun o0 _=>?_;obtain rfl:=o0;refine cF (l9 e) fun a b o2 e9=>?_;try clear e;obtain rfl:=o2;revert e9;intro e;refine aH (EA e) fun o o1 e9=>?_;try clear e;obtain rfl:=o1;revert e9;intro e;refine aH (mh e) fun i o1 e9=>?_;try clear e;clear h;obtain rfl:=o1;revert e9;intro e;exact⟨o,i,rfl,e⟩
def Jf:bw:=zN fun a b=>onR (fun o i=>zP (fun n k=>gd [(decide (0<=n)&&kY o i,true),(Nat.ble (v9 o i) 3,true)] (k ⟨.tup [.int 0,.int (v9 o i:Nat)],true,[U8 o (i+1)]⟩)) b) a
noncomputable def cu(c:Int):Bool:=decide (c=192)||(decide (c=193)||(decide (c=194)||(decide (c=195)||(decide (c=201)||decide (c=203)))))
theorem ff{c:Int}(q:cu c=true):c=192∨c=193∨c=194∨c=195∨c=201∨c=203:=
 (oz q).imp bx fun q=>(oz q).imp bx fun q=>(oz q).imp bx fun q=>(oz q).imp bx fun q=>(oz q).imp bx bx
def Dg:bw:=Lm (zP fun c k=>gd [(cu c,true)] (k ⟨.bool true,true,[]⟩))
def Lo:bw:=zN fun a b=>zP (fun c=>zP (fun p k=>gd [(cu c,true),(decide (p=8),true)] (k ⟨.bool true,true,[]⟩)) b) a
noncomputable def xR:List Nat->List Nat
 | []=>[]
 |n::r=>255::(n+1)::43::xR r
def gj(l:List Nat):List Nat:=42::255::0::xR l
noncomputable def Dh:List Nat->List MV
 | []=>[]
 |_::r=> .bytes [43]::Dh r
noncomputable def fK(l:List Nat):List MV:=l.map fun(n:Nat)=>MV.int (((n+1:Nat):Int) - 208)
noncomputable def xS(n:Nat):List (Bool×Bool):=[(decide (((n+1:Nat):Int)=255),false),(!cond (decide (208<=((n+1:Nat):Int))) (decide (((n+1:Nat):Int)<=208+7)) false,false)]
noncomputable def lZ:List Nat->List (Bool×Bool)
 | []=>[]
 |n::r=>xS n++lZ r
noncomputable def qk:List Nat->Option (List Nat)
 | []=>some []
 |a::(b+1)::c::r=>cond (Nat.beq a 255&&Nat.beq c 43) (match qk r with|some l=>some (b::l)|none=>none) none
 |_=>none
noncomputable def jC(n:Nat):Bool:=Nat.beq n 0||(Nat.beq n 1||(Nat.beq n 3||Nat.beq n 10))
def Di:List Nat->Option (List Nat)
 |a::b::c::r=>cond (Nat.beq a 42&&(Nat.beq b 255&&Nat.beq c 0)) (match qk r with|some l=>cond (jC l.length) (some l) none|none=>none) none
 |_=>none
theorem Dj:∀{d l:List Nat},qk d=some l->d=xR l
 | [],l,h=>by cases h;rfl
 |a::(b+1)::c::r,l,h=>by
  have h:cond (Nat.beq a 255&&Nat.beq c 43) (match qk r with|some l=>some (b::l)|none=>none) none=some l:=h;refine bE ((Nat.beq a 255&&Nat.beq c 43)) (fun z=>?_) fun z=>?_
  ·rw[z]at h;exact aq h
  ·
   rw[z]at h;have h:(match qk r with|some l=>some (b::l)|none=>none)=some l:=h;refine oA (jv z) fun z1 z2=>?_;refine nE (qk r) (fun y=>?_) fun l' y=>?_
   ·rw[y]at h;exact aq h
   ·
    rw[y]at h;have h:b::l'=l:=dm h;rw[←h,Dj y,tY z1,tY z2]
    rfl
 | [_],_,h=>aq h
 | [_,0],_,h=>aq h
 | [_,_+1],_,h=>aq h
 |_::0::_::_,_,h=>aq h
theorem NC{d l:List Nat}(h:Di d=some l):d=gj l/\jC l.length=true:=by
 match d,h with
 |a::b::c::r,h=>
  have h:cond (Nat.beq a 42&&(Nat.beq b 255&&Nat.beq c 0)) (match qk r with|some l=>cond (jC l.length) (some l) none|none=>none) none=some l:=h;refine bE ((Nat.beq a 42&&(Nat.beq b 255&&Nat.beq c 0))) (fun z=>?_) fun z=>?_
  ·rw[z]at h;exact aq h
  ·
   rw[z]at h;have h:(match qk r with|some l=>cond (jC l.length) (some l) none|none=>none)=some l:=h;refine dh (Ez z) fun z1 z2 z3=>?_;refine nE (qk r) (fun y=>?_) fun l' y=>?_
   ·rw[y]at h;exact aq h
   ·
    rw[y]at h;have h:cond (jC l'.length) (some l') none=some l:=h;refine bE (jC l'.length) (fun x=>?_) fun x=>?_
    ·rw[x]at h;exact aq h
    ·
     rw[x]at h;have h:l'=l:=dm h;subst h;rw[Dj y,tY z1,tY z2,tY z3];exact⟨rfl,x⟩
def Jg:bw:=Lm (U9 fun d k=>match Di d with
 |some l=>gd (lZ l) (k ⟨.tup [.lst (.bytes [42,255]::Dh l),.lst (fK l)],true,[]⟩)
 |none=>none)
def ez(f:Fn)(args:List MV):St:=⟨[⟨f.sc,qX f.ps f.ms args⟩],qY f.ps f.ms args⟩
theorem bK{self:Ev}{b:List Stmt}{k:cI->St->Option aJ}:∀{a:List Stmt} {st:St},aC self (a++b) st k=aC self a st (dZ self b k):=by
 intro x0
 induction x0 with
 |nil=>
  intro st;exact rfl
 |cons s r ih=>
  intro st;show self.st s st _=self.st s st _
  congr 1
  funext f aA
  induction f using cI.casesOn with
  |aL=>exact ih
  |ret=>rfl
theorem iI{T:fE}{M:Str->fE}{f:Fn}{args:List MV}(n:Nat):cj T M consts f args k=aC (EV T M f 30) (f.body.take n) (ez f args) (dZ (EV T M f 30) (f.body.drop n) (bh f k)):=by
 rw[←bK,List.take_append_drop]
 rfl
noncomputable def bJ(a b:Int):MV:= .lst [.int a,.int b]
noncomputable def FP(f:Int->Int->lu):MV->lu
 | .lst [.int a,.int b]=>f a b
 |_=>fun _=>none
noncomputable def Jh(f:List MV->lu):MV->lu
 | .lst l=>f l
 |_=>fun _=>none
structure j8 where
 D:Int->Int->Int->Int
 A:Int->Int->Int->Int
 B:Int->Int->Int->Int
 fr:Int->Int->Int->Bool
def Ji(o:j8):bw:=zN fun x y=>FP (fun a b=>zP (fun t k=>gd [(decide (0<t)&&small t,true)] (k ⟨.int (o.D a b t),o.fr a b t,[bJ (o.A a b t) (o.B a b t)]⟩)) y) x
noncomputable def yp(b:Int):Int:=(b * 39373+7).fmod 2147483647
def bf:j8:=⟨fun a b t=>cond (decide (0<a)) (a.fmod t) ((((yp b * yp b).fmod 2147483629).fdiv 32).fmod t),fun a b t=>cond (decide (0<a)) (a.fdiv t) a,fun a b t=>cond (decide (0<a)) b (yp b),fun a b t=>cond (decide (0<a)) false true⟩
noncomputable def i6:MV->Int
 | .int i=>i
 |_=>0
noncomputable def ND:MV->Bool
 | .tup [.int _,.int _]=>true
 |_=>false
noncomputable def optB:MV->Bool
 | .none=>true
 | .int _=>true
 |_=>false
noncomputable def Dk:MV->Int
 | .tup [.int i,_]=>i
 |_=>0
noncomputable def Dl:MV->Int
 | .tup [_,.int i]=>i
 |_=>0
structure mC where
 v:Int->Int->List MV->MV
 A:Int->Int->List MV->Int
 B:Int->Int->List MV->Int
noncomputable def zQ(l:List MV):Bool:=decide (l.length<=1000)
def SN(o:mC):bw:=zN fun x y=>FP (fun a b=>Jh (fun l k=>match l with
 | .int _::_=>gd [(zQ l&&l.all isInt,true)] (k ⟨.int (i6 (o.v a b l)),false,[bJ (o.A a b l) (o.B a b l)]⟩)
 | .tup _::_=>gd [(zQ l&&l.all ND,true)] (k ⟨.tup [.int (Dk (o.v a b l)),.int (Dl (o.v a b l))],false,[bJ (o.A a b l) (o.B a b l)]⟩)
 | .none::_=>gd [(zQ l&&l.all optB,true)] (cond (isInt (o.v a b l)) (k ⟨.int (i6 (o.v a b l)),false,[bJ (o.A a b l) (o.B a b l)]⟩) (k ⟨.none,false,[bJ (o.A a b l) (o.B a b l)]⟩))
 |_=>none) y) x
def bB:mC:=⟨fun a b l=>l.getD (bf.D a b l.length).toNat .none,fun a b l=>bf.A a b l.length,fun a b l=>bf.B a b l.length⟩
def EB:bw:=Ji bf
def Jj:bw:=SN bB
@[elab_as_elim] theorem iJ {β:Type} {P:List β->Prop} {l:List β} (l1:0<l.length) (l2:l.length<=3) (h1:∀a,P [a]) (h2:∀a b,P [a,b]) (h3:∀a b c,P [a,b,c]):P l:=by
 rcases l with _|⟨a,_|⟨b,_|⟨c,_|⟨d,r⟩⟩⟩⟩
 ·exact absurd l1 (kH 0)
 ·exact h1 a
 ·exact h2 a b
 ·exact h3 a b c
 ·exact absurd (Nat.le_of_succ_le_succ (Nat.le_of_succ_le_succ (Nat.le_of_succ_le_succ l2))) (Nat.not_succ_le_zero _)
variable{n:Nat}
theorem Dm(h:jC n=true):n=0∨n=1∨n=3∨n=10:=(oz h).imp tY fun h=>(oz h).imp tY fun h=>(oz h).imp tY tY
theorem uf(h:jC n=true):n<=10:=(Dm h).elim (fun e=>aI (Nat.le_of_eq e) (by decide)) fun h=>h.elim (fun e=>aI (Nat.le_of_eq e) (by decide)) fun h=>h.elim (fun e=>aI (Nat.le_of_eq e) (by decide)) Nat.le_of_eq
@[elab_as_elim] theorem tZ {P:List Nat->Prop} {l:List Nat} (hl:jC l.length=true) (h0:P []) (h1:∀a,P [a]) (h3:∀a b c,P [a,b,c]) (Fv:∀a b c d e f g h i j,P [a,b,c,d,e,f,g,h,i,j]):P l:=
 (Dm hl).elim (fun h=>lenZ h h0) fun h=>h.elim (fun h=>ju h fun a _ h=>lenZ h (h1 a)) fun h=>h.elim (fun h=>ju h fun a _ h=>ju h fun b _ h=>ju h fun c _ h=>lenZ h (h3 a b c))
  fun h=>ju h fun a _ h=>ju h fun b _ h=>ju h fun c _ h=>ju h fun d _ h=>ju h fun e _ h=>ju h fun f _ h=>ju h fun g _ h=>ju h fun i _ h=>ju h fun j _ h=>ju h fun k _ h=>lenZ h (Fv a b c d e f g i j k)
@[elab_as_elim] theorem lt9 {P:Nat->Prop} {n:Nat} (h:n<9) (h0:P 0) (h1:P 1) (h2:P 2) (h3:P 3) (h4:P 4) (h5:P 5) (h6:P 6) (h7:P 7) (h8:P 8):P n:=by
 rcases n with _|_|_|_|_|_|_|_|_|n
 ·exact h0
 ·exact h1
 ·exact h2
 ·exact h3
 ·exact h4
 ·exact h5
 ·exact h6
 ·exact h7
 ·exact h8
 ·exact absurd h (by exact of_decide_eq_false rfl)
@[elab_as_elim] theorem lt1 {P:Nat->Prop} {n:Nat} (h:n<1) (h0:P 0):P n:=by
 rcases n with _|n
 ·exact h0
 ·exact absurd h (by exact of_decide_eq_false rfl)
@[elab_as_elim] theorem lt2 {P:Nat->Prop} {n:Nat} (h:n<2) (h0:P 0) (h1:P 1):P n:=by
 rcases n with _|_|n
 ·exact h0
 ·exact h1
 ·exact absurd h (by exact of_decide_eq_false rfl)
@[elab_as_elim] theorem lt3 {P:Nat->Prop} {n:Nat} (h:n<3) (h0:P 0) (h1:P 1) (h2:P 2):P n:=by
 rcases n with _|_|_|n
 ·exact h0
 ·exact h1
 ·exact h2
 ·exact absurd h (by exact of_decide_eq_false rfl)
theorem kZ{b:List (Bool×Bool)}:∀{a:List (Bool×Bool)},fX a=true->fX b=true->fX (a++b)=true:=by
 intro x0
 induction x0 with
 |nil=>
  intro _ h;exact h
 |cons gA r ih=>
  rcases gA with⟨x,y⟩
  intro h1 h2
  induction x using Bool.casesOn<;>induction y using Bool.casesOn<;>first|exact ih h1 h2|exact(nomatch h1)
theorem BZ{α:Type}{f:α->List (Bool×Bool)}:∀{l:List α},(∀x,x∈l->fX (f x)=true)->fX (l.flatMap f)=true:=by
 intro x0
 induction x0 with
 |nil=>
  intro _;exact rfl
 |cons x r ih=>
  intro h;rw[List.flatMap_cons];exact kZ (h x (.head _)) (ih fun y m=>h y (.tail _ m))
theorem ry{f:β->Bool×Bool}:∀{l:List β},(∀x,x∈l->fX [f x]=true)->fX (l.map f)=true:=by
 intro x0
 induction x0 with
 |nil=>
  intro _;exact rfl
 |cons x r ih=>
  intro h;exact kZ (a:=[f x]) (h x (.head _)) (ih fun y m=>h y (.tail _ m))
theorem EE(h:b=true):fX [(b,true)]=true:=by rw[h];rfl
theorem Qm(h:b=false):fX [(b,false)]=true:=by rw[h];rfl
theorem Lp{p:Prop}[Decidable p](h:p):fX [(decide p,true)]=true:=EE (aM h)
variable{l:List (Bool×Bool)}
theorem NF(h:b=true)(g:fX l=true):fX ((b,true)::l)=true:=by rw[h];exact g
theorem Va(h:b=false)(g:fX l=true):fX ((b,false)::l)=true:=by rw[h];exact g
end
set_option tactic.hygienic true
abbrev jz:Type:=List (Str×Entry)
abbrev sP:Type:=List (Str×List (Str×Entry))
noncomputable def rN:jz:=[]
noncomputable def mN:sP:=[]
noncomputable def oc(r:jz):sP:=[("OctetReader",r)]
noncomputable def fc(r:jz):sP:=[("FileCheck",r)]
def fe(r:jz)(m:sP)(f:Fn):Entry:=eK f (cj (tl r) (tm m) consts f)
def ce(x:Str)(f:Fn):Entry:=U3 f (SJ (tl rN) (tm mN) x f)
def yq:Entry:=fe rN mN nI
def jw:Entry:=eK j7 EB
def zR:jz:=[("_law_take",jw)]
def zT:Entry:=eK g9 Jj
def WN:jz:=[("_law_one",zT),("_law_take",jw)]
def rz:jz:=[("_law_take",jw)]
def ql:jz:=[("_law_take",jw)]
def Yd:jz:=[("_law_one",zT),("_law_take",jw)]
def yr:jz:=[("_law_take",jw)]
def B3:Entry:=ce "Piece" AR
def zU:Entry:=ce "FileCheck" KH
def nK:Entry:=fe rN mN Qf
def fJ:Entry:=fe rN mN BX
def sf:Entry:=fe rN mN xP
def yt:Entry:=eK xP Dg
def pK:Entry:=fe rN mN f_want
def k7:Entry:=ce "OctetReader" Gr
def zV:Entry:=ce "FrameHead" KG
def nM:Entry:=fe rN mN Gn
def Dn:jz:=[("is_lossless",nM)]
def vN:Entry:=eK wU Lo
def zW:jz:=[("want",pK)]
def sQ:Entry:=fe zW mN AZ
def sY:Entry:=fe rN mN I8
def EF:jz:=[("want",pK),("is_frame",yt),("is_precision",vN),("check_component",sQ),("are_unlike",sY)]
def wW:Entry:=fe EF mN Gp
def uY:Entry:=ce "ComponentHead" Dd
def iz:Entry:=fe rN mN zI
def yO:sP:=oc [("left",iz)]
def jU:Entry:=fe rN yO zJ
def yP:sP:=oc [("take",jU)]
def iA:Entry:=fe rN yP zK
def yQ:sP:=oc [("take",jU)]
def mD:Entry:=fe rN yQ zM
def Gs:jz:=[("want",pK),("OctetReader",k7),("FrameHead",zV),("check_frame",wW),("ComponentHead",uY)]
def Gu:sP:=oc [("byte",iA),("word",mD)]
def sZ:Entry:=fe Gs Gu I9
def EG:jz:=[("want",pK)]
def rA:Entry:=fe EG mN Gq
def B4:jz:=[("read_number",rA)]
def lU:Entry:=fe B4 mN C9
def uZ:sP:=oc [("byte",iA)]
def zX:Entry:=fe rN uZ se
def yu:Entry:=eK se Jf
def WO:sP:=oc [("left",iz)]
def EH:Entry:=fe rN WO f_need
def u6:Entry:=fe rN mN Dc
def Gv:jz:=[("OctetReader",k7),("read_kind",yu),("need",EH),("check_divisor",u6)]
def Gw:sP:=oc [("left",iz),("word",mD),("byte",iA)]
def s7:Entry:=fe Gv Gw Jc
def Gy:jz:=[("read_number",rA),("want",pK)]
def oM:Entry:=fe Gy mN Jb
def Dp:jz:=[("OctetReader",k7),("read_kind",zX),("need",EH)]
def Dq:sP:=oc [("left",iz),("take",jU)]
def qm:Entry:=fe Dp Dq Ex
def Bo:Entry:=ce "ScanHead" Nx
def Gz:jz:=[("want",pK),("are_unlike",sY)]
def yw:Entry:=fe Gz mN Ja
def Jk:jz:=[("want",pK),("OctetReader",k7),("ScanHead",Bo),("check_scan",yw)]
def Jl:sP:=oc [("byte",iA)]
def u7:Entry:=fe Jk Jl KD
def Dr:Entry:=fe rN mN Qg
def wX:Entry:=eK f9 Ln
def yx:Entry:=eK uT Ql
def GA:jz:=[("unstuff",Dr),("behind_fill",wX),("is_restart",yx)]
def s8:Entry:=eK qi Jg
def qG:jz:=[("is_lossless",nM)]
def qH:sP:=fc [("tell",fJ)]
def qJ:Entry:=fe qG qH gI
def tG:jz:=[("split_data",s8),("is_lossless",nM)]
def A0:sP:=fc [("tell",fJ),("tables",qJ)]
def tH:Entry:=fe tG A0 jP
def sR:jz:=[("is_frame",sf),("read_frame",sZ),("read_interval",lU),("read_quant",s7),("read_lines",oM),("read_huffman",qm),("read_scan",u7)]
def sS:sP:=fc [("tell",fJ),("scan",tH)]
def sU:Entry:=fe sR sS kM
def s9:jz:=[("FileCheck",zU),("name_of",nK)]
def yy:sP:=fc [("tell",fJ),("piece",sU)]
def qK:Entry:=fe rN mN o7
def A4:jz:=[("_law_tables_due",qK)]
def tK:Entry:=fe A4 mN ru
def zY:jz:=[("_law_scan_due",tK)]
def yz:jz:=[("read_frame",sZ)]
def yC:Entry:=fe yz mN uU
def qo:jz:=[("read_scan",u7),("split_data",s8)]
def zZ:Entry:=fe qo mN v5
def wY:jz:=[("read_quant",s7),("read_huffman",qm)]
def wZ:Entry:=fe wY mN sX
def GB:jz:=[("name_of",nK),("is_frame",sf),("frame_text",yC),("scan_text",zZ),("tables_text",wZ),("read_interval",lU),("read_lines",oM)]
def yD:Entry:=fe GB mN uV
def Qn:jz:=[("piece_text",yD),("name_of",nK)]
def FQ:Entry:=fe Qn mN BW
set_option tactic.hygienic false
section
variable{o:List Nat}
theorem SO{i:Int}(q:kY o i=true):∃k:Nat,i=k/\k<o.length/\o.length<=ak:=by
 refine dh (Ez q) fun q1 q2 q3=>?_;have q1:=bx q1;have q2:=bx q2;exact⟨i.toNat,by exact Int.eq_natCast_toNat.mpr q1,by exact(Int.toNat_lt q1).mpr q2,bx q3⟩
theorem cut_at{i n:Nat}(q:i+n<=o.length):cut o (some (i:Int)) (some ((i:Int)+n))=(o.take (i+n)).drop i:=by
 have h1:AA o.length (some ((i:Int)+n))=(i+n:Nat):=by
  show cond (decide ((i:Int)+n<0)) (cond (decide ((i:Int)+n+o.length<0)) 0 ((i:Int)+n+o.length)) (cond (decide ((o.length:Int)<(i:Int)+n)) (o.length:Int) ((i:Int)+n))=_;rw[gF (show ¬(i:Int)+n<0 by exact of_decide_eq_false rfl),gF (show ¬(o.length:Int)<(i:Int)+n by lia)];exact(Int.natCast_add i n).symm
 have h2:Az o.length (some (i:Int))=(i:Nat):=by
  show cond (decide ((i:Int)<0)) (cond (decide ((i:Int)+o.length<0)) 0 ((i:Int)+o.length)) (cond (decide ((o.length:Int)<(i:Int))) (o.length:Int) (i:Int))=_;rw[gF (show ¬(i:Int)<0 by exact Int.not_ofNat_neg i),gF (show ¬(o.length:Int)<(i:Int)by lia)]
  rfl
 unfold cut;dsimp only;rw[h1,h2]
 rfl
theorem one_at{k:Nat}(q:k<o.length):(o.take (k+1)).drop k= [o.getD k 0]:=by
 have h:(o.drop k).take 1= [o[k]]:=by rw[List.drop_eq_getElem_cons q];rfl
 rw[List.drop_take,show k+1 - k=1 by exact Nat.add_sub_self_left k 1,h];simp[List.getD,q]
theorem SP:Runs (tl rN) (tm mN) uT Ql:=fun cs k ah e0=>by
 refine aH (wV e0) fun a o1 e1=>?_;obtain rfl:=o1;refine aH (mh e1) fun c o1 e=>?_;clear e0 e1;obtain rfl:=o1;refine(show cj (tl rN) (tm mN) consts uT [.int c] k=cond (decide (208<=c)) (k ⟨.bool (decide (c<=208+7)),true,[]⟩) (k ⟨.bool false,true,[]⟩)by kernel_rfl!).trans (Eq.trans ?_ e);cases decide (208<=c)<;>rfl
theorem Qo:Runs (tl rN) (tm mN) f9 Ln:=fun cs k ah e0=>by
 refine cF (l9 e0) fun a b o2 e1=>?_;obtain rfl:=o2;refine aH (EA e1) fun d o1 e2=>?_;obtain rfl:=o1;refine aH (mh e2) fun i o1 e3=>?_;clear e0 e1 e2;obtain rfl:=o1;refine oA (lY e3) fun q e=>?_;have q:cond (kY d i&&kY d (i+1)) (cond (decide (((v9 d (i+1):Nat):Int)=255)) false true) false=true:=q;have q0:(kY d i&&kY d (i+1))=true:=by cases z:(kY d i&&kY d (i+1))with|true=>rfl|false=>rw[z]at q;exact aP q
 have q3:decide (((v9 d (i+1):Nat):Int)=255)=false:=by cases z:decide (((v9 d (i+1):Nat):Int)=255)with|false=>rfl|true=>rw[q0,z]at q;exact aP q
 refine oA (jv q0) fun q1 q2=>?_;refine dh (Ez q1) fun q4 q5 q6=>?_;refine dh (Ez q2) fun _ q7 _=>?_;have q4:=bx q4;have q7:=bx q7;have q6':=bx q6;refine(show cj (tl rN) (tm mN) consts f9 [.bytes d,.int i] k=gd [(decide (d.length<=ak),true)] (cond (decide (i+1<d.length))
  (gd [(eZ (i+1)&&(decide (-(d.length:Int)<=i+1)&&decide (i+1<d.length)),true)] (cond (decide (((d.getD (cond (decide (i+1<0)) (i+1+d.length) (i+1)).toNat 0:Nat):Int)=255))
   (jy (EV (tl rN) (tm mN) f9 29) (fG (Hd.d7 f9.body 0)) (fH (Hd.d7 f9.body 0)) 299 ⟨[⟨f9.sc,[("data",.bytes d),("at",.int (i+1))]⟩],[]⟩
    (dZ (EV (tl rN) (tm mN) f9 30) (f9.body.drop 1) (bh f9 k)))
   (k ⟨.int i,false,[]⟩)))
  (k ⟨.int i,false,[]⟩))by kernel_rfl!).trans (Eq.trans ?_ e)
 have hs:(ak:Int)=1000000:=rfl;have KY:ak=1000000:=rfl;have h2:eZ (i+1)=true:=by
  unfold eZ;rw[aM (show -1000000000<i+1 by lia),aM (show i+1<=999999999 by lia)]
  rfl
 rw[q6,aM (show i+1<(d.length:Int)by exact Int.lt_of_add_one_le q7),h2,aM (show -(d.length:Int)<=i+1 by lia),gF (show ¬i+1<0 by lia)];have h3:decide (((d.getD (i+1).toNat 0:Nat):Int)=255)=false:=q3;show cond (decide (((d.getD (i+1).toNat 0:Nat):Int)=255)) _ _=_;rw[h3]
 rfl
theorem NG:Runs (tl rN) (tm uZ) se Jf:=fun cs k ah e0=>by
 refine cF (l9 e0) fun a b o2 e1=>?_;obtain rfl:=o2;refine cF (WM e1) fun o i o2 e2=>?_;obtain rfl:=o2;refine aH (mh e2) fun n o1 e3=>?_;obtain rfl:=o1;refine oA (lY e3) fun q e=>?_;have q:cond (decide (0<=n)&&kY o i) (cond (Nat.ble (v9 o i) 3) true false) false=true:=q;have q0:(decide (0<=n)&&kY o i)=true:=by cases z:(decide (0<=n)&&kY o i)with|true=>rfl|false=>rw[z]at q;exact aP q
 have q3:Nat.ble (v9 o i) 3=true:=by cases z:Nat.ble (v9 o i) 3 with|true=>rfl|false=>rw[q0,z]at q;exact aP q
 refine oA (jv q0) fun q1 q2=>?_;have q1:=bx q1;have q3:=Nat.le_of_ble_eq_true q3
 let c:List Nat:=cut o (some i) (some (i+1))
 let b:Nat:=c.getD (cond (decide ((0:Int)<0)) (0+(c.length:Int)) 0).toNat 0
 refine(show cj (tl rN) (tm uZ) consts se [U8 o i,.int n] k=gd [(decide (o.length<=ak),true),(decide ((o.length:Int) - i<1),false),(decide (o.length<=ak),true),(decide (c.length<=ak),true),
  (eZ 0&&(decide (-(c.length:Int)<=0)&&decide (0<(c.length:Int))),true),(decide (n<(b:Int).fdiv 16),false),(decide (3<(b:Int).fmod 16),false)] (k ⟨.tup [.int ((b:Int).fdiv 16),.int ((b:Int).fmod 16)],true,[U8 o (i+1)]⟩)by kernel_rfl!).trans (Eq.trans ?_ e)
 refine gO (SO q2) fun j o1 h3 h4=>?_;obtain rfl:=o1;have hc:c= [o.getD j 0]:=(cut_at (n:=1) h3).trans (one_at h3);have hb:b=o.getD j 0:=by show c.getD 0 0=_;rw[hc];rfl
 have hn:v9 o (j:Int)=o.getD j 0:=rfl;rw[hn]at q3 ⊢;have h1:((o.getD j 0:Nat):Int).fdiv 16=0:=by rw[Int.fdiv_eq_ediv_of_nonneg _ (by decide)];lia
 have h2:((o.getD j 0:Nat):Int).fmod 16=(o.getD j 0:Nat):=by rw[Int.fmod_eq_emod_of_nonneg _ (by decide)];lia
 rw[hb,hc,h1,h2,aM h4,gF (show ¬(o.length:Int) - j<1 by lia),gF (show ¬n<0 by exact Int.not_lt_of_ge q1),gF (show ¬(3:Int)<(o.getD j 0:Nat)by lia)]
 rfl
variable{b:Bool}
theorem Dt(q:fX [(b,true)]=true):b=true:=by induction b using Bool.casesOn;exact aP q;rfl
theorem gd2{a:Bool}(q:fX [(a,true),(b,true)]=true):a=true/\b=true:=by induction a using Bool.casesOn;exact aP q;induction b using Bool.casesOn;exact aP q;exact⟨rfl,rfl⟩
theorem Jm:Runs (tl rN) (tm mN) xP Dg:=fun cs k ah e0=>by
 refine aH (wV e0) fun a o1 e1=>?_;obtain rfl:=o1;refine aH (mh e1) fun c o1 e2=>?_;obtain rfl:=o1;refine oA (lY e2) fun q e=>?_
 rcases ff (Dt q)with rfl|rfl|rfl|rfl|rfl|rfl<;>exact(show _=k _ by kernel_rfl!).trans e
theorem Qp:Runs (tl Dn) (tm mN) wU Lo:=fun cs k ah e0=>by
 refine cF (l9 e0) fun a b o2 e1=>?_;obtain rfl:=o2;refine aH (mh e1) fun c o1 e2=>?_;obtain rfl:=o1;refine aH (mh e2) fun p o1 e3=>?_;obtain rfl:=o1;refine oA (lY e3) fun q e=>?_;refine oA (gd2 q) fun q1 q2=>?_;rw[bx q2]
 rcases ff q1 with rfl|rfl|rfl|rfl|rfl|rfl<;>exact(show _=k _ by kernel_rfl!).trans e
end
section
variable{v:MV}{k:Spec->Option aJ}{ah:aJ}
set_option tactic.hygienic true in
theorem rD{f:Int->Int->lu}(e:FP f v k=some ah):∃a b,v=bJ a b/\f a b k=some ah:=by
 induction v using MV.casesOn<;>first|exact aq e|skip
 rename_i l
 rcases l with _|⟨x,_|⟨y,_|⟨z,r⟩⟩⟩
 ·exact aq e
 ·induction x using MV.casesOn<;>exact aq e
 ·induction x using MV.casesOn<;>first|exact aq e|skip
  induction y using MV.casesOn<;>first|exact aq e|exact⟨_,_,rfl,e⟩
 ·induction x using MV.casesOn<;>first|exact aq e|skip
  induction y using MV.casesOn<;>exact aq e
theorem ug{f:List MV->lu}(e:Jh f v k=some ah):∃l,v= .lst l/\f l k=some ah:=by induction v using MV.casesOn<;>first|exact⟨_,rfl,e⟩|exact aq e
variable{a t:Int}
theorem EI(h:0<t):0<=a.fmod t/\a.fmod t<t:=by
 rw[Int.fmod_eq_emod_of_nonneg a (Int.le_of_lt h)];exact⟨Int.emod_nonneg a (Int.ne_of_gt h),Int.emod_lt_of_pos a h⟩
variable{b:Int}
theorem Qq:(small (yp b)||small (yp b))=true:=by
 refine oA (EI (a:=b * 39373+7) (t:=2147483647) (by decide)) fun h1 h2=>?_;have h:small (yp b)=true:=by
  unfold small yp;rw[aM (Int.lt_of_lt_of_le (by decide) h1),aM (Int.le_trans (Int.le_of_lt h2) (by decide))]
  rfl
 rw[h]
 rfl
theorem Qs:Runs (tl rN) (tm mN) j7 EB:=fun cs k ah e0=>by
 refine cF (l9 e0) fun x y o2 e1=>?_;obtain rfl:=o2;refine cF (rD e1) fun a b o2 e2=>?_;obtain rfl:=o2;refine aH (mh e2) fun t o1 e3=>?_;clear e0 e1 e2;obtain rfl:=o1;refine oA (lY e3) fun q e=>?_;have q:=Dt q;refine(show cj (tl rN) (tm mN) consts j7 [bJ a b,.int t] k=cond (decide (0<a)) (gd [(decide (0<t)&&small t,true),(decide (0<t)&&small t,true)] (k ⟨.int (a.fmod t),false,[bJ (a.fdiv t) b]⟩))
  (gd [(small b||small 39373,true),(small (yp b)||small (yp b),true),(decide (0<t)&&small t,true)] (k ⟨.int ((((yp b * yp b).fmod 2147483629).fdiv 32).fmod t),true,[bJ a (yp b)]⟩))by kernel_rfl!).trans (Eq.trans ?_ e)
 rw[q,Qq,show(small b||small 39373)=true by rw[Bool.or_comm];rfl];unfold bf;dsimp only;cases decide (0<a)<;>rfl
theorem draw(h:0<t):0<=bf.D a b t/\bf.D a b t<t:=by
 show 0<=cond (decide (0<a)) _ _/\cond (decide (0<a)) _ _<t;cases decide (0<a)
 ·exact EI h
 ·exact EI h
theorem B5(h:isInt v=true):v= .int (i6 v):=by induction v using MV.casesOn<;>first|rfl|exact aP h
set_option tactic.hygienic true in
theorem Lq(h:ND v=true):v= .tup [.int (Dk v),.int (Dl v)]:=by
 induction v using MV.casesOn<;>first|exact aP h|skip
 rename_i l
 rcases l with _|⟨x,_|⟨y,_|⟨z,r⟩⟩⟩
 ·exact aP h
 ·induction x using MV.casesOn<;>exact aP h
 ·induction x using MV.casesOn<;>first|exact aP h|skip
  induction y using MV.casesOn<;>first|exact aP h|rfl
 ·induction x using MV.casesOn<;>first|exact aP h|skip
  induction y using MV.casesOn<;>exact aP h
theorem WQ(h:optB v=true)(g:isInt v=false):v= .none:=by induction v using MV.casesOn<;>first|rfl|exact aP h|exact aP g.symm
variable{l:List MV}
theorem uh(h:0<l.length):bB.v a b l∈l:=by
 refine oA (draw (a:=a) (b:=b) (t:=l.length) (Int.natCast_pos.mpr h)) fun h1 h2=>?_;have h3:(bf.D a b l.length).toNat<l.length:=by exact(Int.toNat_lt h1).mpr h2
 show l.getD (bf.D a b l.length).toNat .none∈l;rw[List.getD_eq_getElem?_getD,List.getElem?_eq_getElem h3];exact List.getElem_mem h3
def Jo(a b:Int)(l:List MV):St:=⟨[⟨g9.sc,[("source",.own "source"),("things",.lst l)]⟩],[("source",bJ (bB.A a b l) (bB.B a b l))]⟩
theorem WR(h:0<l.length)(q:zQ l=true):
  cj (tl zR) (tm mN) consts g9 [bJ a b,.lst l] k=bh g9 k (.ret (bB.v a b l) false) (Jo a b l):=by
 have q:l.length<=1000:=bx q;have hs:ak=1000000:=rfl;refine oA (draw (a:=a) (b:=b) (t:=l.length) (Int.natCast_pos.mpr h)) fun h1 h2=>?_;refine(show _=gd [(decide (l.length<=ak),true),(decide (0<(l.length:Int))&&small (l.length:Int),true),(eZ (bf.D a b l.length)&&(decide (-(l.length:Int)<=bf.D a b l.length)&&decide (bf.D a b l.length<l.length)),true)]
  (bh g9 k (.ret (l.getD (cond (decide (bf.D a b l.length<0)) (bf.D a b l.length+l.length) (bf.D a b l.length)).toNat .none) false) (Jo a b l))by kernel_rfl!).trans ((bH ?_).trans ?_)
 ·have s:small (l.length:Int)=true:=by
   unfold small;rw[aM (by exact(Int.toNat_lt' h).mp h),aM (by lia)]
   rfl
  have i:eZ (bf.D a b l.length)=true:=by
   unfold eZ;rw[aM (by omega),aM (by lia)]
   rfl
  rw[s,i,aM (show l.length<=ak by lia),aM (Int.natCast_pos.mpr h),aM (show -(l.length:Int)<=bf.D a b l.length by lia),aM h2]
  rfl
 ·rw[gF (Int.not_lt.mpr h1)]
  rfl
variable{i:Int}
theorem Qt:bh g9 k (.ret (.int i) false) (Jo a b l)=k ⟨.int i,false,[bJ (bB.A a b l) (bB.B a b l)]⟩:=by kernel_rfl!
theorem one_e2{j:Int}:bh g9 k (.ret (.tup [.int i,.int j]) false) (Jo a b l)=k ⟨.tup [.int i,.int j],false,[bJ (bB.A a b l) (bB.B a b l)]⟩:=by kernel_rfl!
theorem one_e3:bh g9 k (.ret .none false) (Jo a b l)=k ⟨.none,false,[bJ (bB.A a b l) (bB.B a b l)]⟩:=by kernel_rfl!
theorem SQ : Runs (tl zR) (tm mN) g9 Jj := fun cs k ah e0 => by
  refine cF (l9 e0) fun x y o2 e1 => ?_
  obtain rfl := o2
  refine cF (rD e1) fun a b o2 e2 => ?_
  obtain rfl := o2
  refine aH (ug e2) fun l o1 e3 => ?_
  obtain rfl := o1
  induction l using List.casesOn with
  | nil => exact aq e3
  | cons u r =>
    have m := uh (a := a) (b := b) (l := u :: r) (kg _)
    induction u using MV.casesOn <;> first
      | exact aq e3
      | (obtain ⟨q, e⟩ := lY e3
         refine oA (jv (Dt q)) fun q1 q2 => ?_
         have z := List.all_eq_true.mp q2 _ m
         rw [WR (l := _ :: r) (kg _) q1]
         first
           | (rw [B5 z]; exact Qt.trans e)
           | (rw [Lq z]; exact one_e2.trans e)
           | (cases g : isInt (bB.v a b (.none :: r)) with
              | true => rw [g] at e; rw [B5 g]; exact Qt.trans e
              | false => rw [g] at e; rw [WQ z g]; exact one_e3.trans e))
theorem WS(h:0<l.length)(q:l.all isInt=true):MV.int (i6 (bB.v a b l))∈l:=by
 rw[←B5 (List.all_eq_true.mp q _ (uh h))];exact uh h
theorem SS(h:0<l.length)(q:l.all ND=true):MV.tup [.int (Dk (bB.v a b l)),.int (Dl (bB.v a b l))]∈l:=by
 rw[←Lq (List.all_eq_true.mp q _ (uh h))];exact uh h
end
section
noncomputable def aZ(W:List MV)(F:MV)(s:Int)(Q C:List MV)(I:Int):MV:= .obj "FileCheck" [("n",.int 2),("wrong",.dI W),("frame",F),("scans",.int s),("quants",.lst Q),("codes",.lst C),("interval",.int I)]
noncomputable def dM(c:Int)(p d:List Nat):MV:= .obj "Piece" [("code",.int c),("payload",.bytes p),("data",.bytes d)]
noncomputable def dD(b:Bool)(m:Str)(W:List MV):List MV:=cond b (W++[MV.str m]) W
noncomputable def u9:Str:= "SOI does not stand first, and alone"
noncomputable def B6:Str:= "EOI does not stand last, and alone"
abbrev TP:fE:=tl sR
abbrev MP:Str->fE:=tm sS
abbrev fP:Fn:=kM
variable{pl many s I:Int}{W Q:List MV}{F:MV}
theorem NH{c:Int}{p d:List Nat}{C:List MV}{K:cI->St->Option aJ}(len:W.length+1<=ak):
  aC (EV TP MP fP 30) (fP.body.take 2) (ez fP [aZ W F s Q C I,dM c p d,.int pl,.int many]) K =
  K .aL (ez fP [aZ (dD (!(decide (c=217)==decide (pl=many - 1))) B6 (dD (!(decide (c=216)==decide (pl=0))) u9 W)) F s Q C I,dM c p d,.int pl,.int many]):=by
 refine(show _=cond (!(decide (c=216)==decide (pl=0)))
  (gd [(decide (W.length<=ak),true)] (cond (!(decide (c=217)==decide (pl=many - 1)))
   (gd [(decide ((W++[MV.str u9]).length<=ak),true)] (K .aL (ez fP [aZ ((W++[MV.str u9])++[.str B6]) F s Q C I,dM c p d,.int pl,.int many])))
   (K .aL (ez fP [aZ (W++[MV.str u9]) F s Q C I,dM c p d,.int pl,.int many]))))
  (cond (!(decide (c=217)==decide (pl=many - 1)))
   (gd [(decide (W.length<=ak),true)] (K .aL (ez fP [aZ (W++[MV.str B6]) F s Q C I,dM c p d,.int pl,.int many])))
   (K .aL (ez fP [aZ W F s Q C I,dM c p d,.int pl,.int many])))by kernel_rfl!).trans ?_
 rw[aM (show W.length<=ak by exact Nat.le_of_succ_le len),aM (show(W++[MV.str u9]).length<=ak by rw[cG];exact len)];cases(!(decide (c=216)==decide (pl=0)))<;>cases(!(decide (c=217)==decide (pl=many - 1)))<;>rfl
variable{k:Spec->Option aJ}
theorem SV{i:Nat}{C:List MV}:
  aC (EV TP MP fP 30) (fP.body.drop 2) (ez fP [aZ W F s Q C I,dM 221 [0,i] [],.int pl,.int many]) (bh fP k)=gd [(small ((0:Nat):Int)||small 256,true)] (k ⟨.none,false,[aZ W F s Q C (((0:Nat):Int) * 256+(i:Int))]⟩):=by kernel_rfl!
theorem SW{C:List MV}:
  aC (EV TP MP fP 30) (fP.body.drop 2) (ez fP [aZ W F s Q C I,dM 216 [] [],.int pl,.int many]) (bh fP k)=k ⟨.none,false,[aZ W F s Q C I]⟩:=by kernel_rfl!
theorem SX{C:List MV}:
  aC (EV TP MP fP 30) (fP.body.drop 2) (ez fP [aZ W F s Q C I,dM 217 [] [],.int pl,.int many]) (bh fP k)=k ⟨.none,false,[aZ W F s Q C I]⟩:=by kernel_rfl!
end
section
noncomputable def qp:Str:= "DNL stands elsewhere than behind the first scan of a frame without a height"
noncomputable def EJ:Str:= "a second frame"
noncomputable def comp(i q:Int):MV:= .obj "ComponentHead" [("ident",.int i),("across",.int 1),("down",.int 1),("quant",.int q)]
noncomputable def b8(c h:Int)(cs:List MV):MV:= .obj "FrameHead" [("code",.int c),("precision",.int 8),("height",.int h),("width",.int 4),("components",.lst cs)]
variable{pl many s I:Int}{W Q:List MV}{k:Spec->Option aJ}
theorem Qu{C:List MV}(len:W.length<=ak):
  aC (EV TP MP fP 30) (fP.body.drop 2) (ez fP [aZ W .none s Q C I,dM 220 [0,4] [],.int pl,.int many]) (bh fP k)=k ⟨.none,false,[aZ (dD (!decide (s=1)) qp W) .none s Q C I]⟩:=by
 refine(show _=cond (!decide (s=1)) (gd [(decide (W.length<=ak),true)] (k ⟨.none,false,[aZ (W++[MV.str qp]) .none s Q C I]⟩)) (k ⟨.none,false,[aZ W .none s Q C I]⟩)by kernel_rfl!).trans ?_;rw[aM len];cases(!decide (s=1))<;>rfl
theorem Qv{c h:Int}{C cs:List MV}(len:W.length<=ak):
  aC (EV TP MP fP 30) (fP.body.drop 2) (ez fP [aZ W (b8 c h cs) s Q C I,dM 220 [0,4] [],.int pl,.int many]) (bh fP k) =
   k ⟨.none,false,[aZ (dD (!decide (s=1)|| !decide (h=0)) qp W) (b8 c h cs) s Q C I]⟩:=by
 refine(show _=cond (!decide (s=1)) (gd [(decide (W.length<=ak),true)] (k ⟨.none,false,[aZ (W++[MV.str qp]) (b8 c h cs) s Q C I]⟩))
  (cond (!decide (h=0)) (gd [(decide (W.length<=ak),true)] (k ⟨.none,false,[aZ (W++[MV.str qp]) (b8 c h cs) s Q C I]⟩)) (k ⟨.none,false,[aZ W (b8 c h cs) s Q C I]⟩))by kernel_rfl!).trans ?_
 rw[aM len];cases(!decide (s=1))<;>cases(!decide (h=0))<;>rfl
noncomputable def EK:List Nat->List Nat
 | []=>[]
 |s::r=>s::1::2::3::4::EK r
variable{F:MV}{l:List Nat}
theorem SY{C:List MV}(l1:0<l.length)(l2:l.length<=3)(l3:∀x,x∈l->x<=3)(len:Q.length+3<=ak):
  aC (EV TP MP fP 30) (fP.body.drop 2) (ez fP [aZ W F s Q C I,dM 219 (EK l) [],.int pl,.int many]) (bh fP k)=k ⟨.none,false,[aZ W F s (Q++l.map fun x=>MV.int (x:Nat)) C I]⟩:=by
 have e:aC (EV TP MP fP 30) (fP.body.drop 2) (ez fP [aZ W F s Q C I,dM 219 (EK l) [],.int pl,.int many]) (bh fP k)=gd (l.map (fun a=>(Nat.ble a 3,true))++[(decide (Q.length+l.length<=ak),true)]) (k ⟨.none,false,[aZ W F s (Q++l.map fun x=>MV.int (x:Nat)) C I]⟩):=
  iJ l1 l2 (fun _=>by kernel_rfl!) (fun _ _=>by kernel_rfl!) (fun _ _ _=>by kernel_rfl!)
 exact e.trans (bH (kZ (ry fun x m=>EE (Nat.ble_eq_true_of_le (l3 x m))) (Lp (aI (gn l2 _) len))))
noncomputable def EM:List Nat->List Nat
 | []=>[]
 |s::r=>s::1::0::0::0::0::0::0::0::0::0::0::0::0::0::0::0::5::EM r
noncomputable def kindOf(b:Nat):MV:= .tup [.int ((b:Int).fdiv 16),.int ((b:Int).fmod 16)]
noncomputable def hT(a:Nat):List (Bool×Bool):=[(decide (1<(a:Int).fdiv 16),false),(decide (3<(a:Int).fmod 16),false)]
theorem Vb(l3:∀x,x∈l->(x:Int).fdiv 16<=1/\(x:Int).fmod 16<=3):fX (l.flatMap hT)=true:=BZ fun x m=>Va (gF (Int.not_lt.mpr (l3 x m).1)) (Qm (gF (Int.not_lt.mpr (l3 x m).2)))
theorem S4{C:List MV}(l1:0<l.length)(l2:l.length<=3)(l3:∀x,x∈l->(x:Int).fdiv 16<=1/\(x:Int).fmod 16<=3)(len:C.length+3<=ak):
  aC (EV TP MP fP 30) (fP.body.drop 2) (ez fP [aZ W F s Q C I,dM 196 (EM l) [],.int pl,.int many]) (bh fP k)=k ⟨.none,false,[aZ W F s Q (C++l.map kindOf) I]⟩:=by
 have e:aC (EV TP MP fP 30) (fP.body.drop 2) (ez fP [aZ W F s Q C I,dM 196 (EM l) [],.int pl,.int many]) (bh fP k)=gd (l.flatMap hT++[(decide (C.length+l.length<=ak),true)]) (k ⟨.none,false,[aZ W F s Q (C++l.map kindOf) I]⟩):=
  iJ l1 l2 (fun _=>by kernel_rfl!) (fun _ _=>by kernel_rfl!) (fun _ _ _=>by kernel_rfl!)
 exact e.trans (bH (kZ (Vb l3) (Lp (aI (gn l2 _) len))))
end
section
abbrev ifB:Stmt->List Stmt:=G3
def Jp:List Stmt:=ifB (Hd.d7 (fP.body.drop 2) 0)
variable{pl many s I:Int}{W Q:List MV}
theorem sof_if{c:Int}{p:List Nat}{C:List MV}{F:MV}{K:cI->St->Option aJ}(hc:cu c=true):
  aC (EV TP MP fP 30) (fP.body.drop 2) (ez fP [aZ W F s Q C I,dM c p [],.int pl,.int many]) K =
  aC (EV TP MP fP 29) Jp (ez fP [aZ W F s Q C I,dM c p [],.int pl,.int many]) (dZ (EV TP MP fP 30) [] K):=by
 rcases ff hc with rfl|rfl|rfl|rfl|rfl|rfl<;>kernel_rfl!
noncomputable def Vc:List Nat->List Nat->List Nat
 |i::is,q::qs=>i::17::q::Vc is qs
 |_,_=>[]
def Aa(h:Nat)(qs:List Nat):List Nat:=8::0::h::0::4::qs.length::Vc [1,2,7] qs
noncomputable def xT:List Nat->List Nat->List MV
 |i::is,q::qs=>comp (i:Nat) (q:Nat)::xT is qs
 |_,_=>[]
noncomputable abbrev hh(h:Nat):Int:=((0:Nat):Int) * 256+(h:Int)
noncomputable def ftT(qs:List Nat):List (Bool×Bool):=qs.map fun(a:Nat)=>(!decide ((a:Int)<=3),false)
theorem ftT_ok{q:List Nat}(h:∀x,x∈q->x<=3):fX (ftT q)=true:=ry fun x m=>Qm (by rw[aM (show(x:Int)<=3 from Int.ofNat_le.mpr (h x m))];rfl)
def NI(c:Int)(h:Nat)(q:List Nat):List (Bool×Bool):=[(cu c,true),(cu c,true),(!decide (hh h<=65535),false)]++ftT q
variable{h:Nat}
theorem G4:hh h=(h:Int):=(bq (· +(h:Int)) (Int.zero_mul 256)).trans (Int.zero_add _)
theorem EN{c:Int}{q:List Nat}(hc:cu c=true)(h1:h<=255)(l3:∀x,x∈q->x<=3):fX (NI c h q)=true:=
 NF hc (NF hc (Va (by rw[G4,aM (show(h:Int)<=65535 from Int.ofNat_le.mpr (aI h1 (by decide)))];rfl) (ftT_ok l3)))
variable{qs:List Nat}{k:Spec->Option aJ}
theorem S7{c:Int}{C:List MV}(hc:cu c=true)(h1:h<=255)(l1:0<qs.length)(l2:qs.length<=3)(l3:∀x,x∈qs->x<=3):
  aC (EV TP MP fP 29) Jp (ez fP [aZ W .none s Q C I,dM c (Aa h qs) [],.int pl,.int many]) (dZ (EV TP MP fP 30) [] (bh fP k))=k ⟨.none,false,[aZ W (b8 c (hh h) (xT [1,2,7] qs)) s Q C I]⟩:=by
 have e:aC (EV TP MP fP 29) Jp (ez fP [aZ W .none s Q C I,dM c (Aa h qs) [],.int pl,.int many]) (dZ (EV TP MP fP 30) [] (bh fP k))=gd (NI c h qs) (k ⟨.none,false,[aZ W (b8 c (hh h) (xT [1,2,7] qs)) s Q C I]⟩):=
  iJ l1 l2 (fun _=>by kernel_rfl!) (fun _ _=>by kernel_rfl!) (fun _ _ _=>by kernel_rfl!)
 exact e.trans (bH (EN hc h1 l3))
theorem S8{c c' h':Int}{cs:List MV}{C:List MV}(hc:cu c=true)(h1:h<=255)(l1:0<qs.length)(l2:qs.length<=3)(l3:∀x,x∈qs->x<=3)(len:W.length<=ak):
  aC (EV TP MP fP 29) Jp (ez fP [aZ W (b8 c' h' cs) s Q C I,dM c (Aa h qs) [],.int pl,.int many]) (dZ (EV TP MP fP 30) [] (bh fP k))=k ⟨.none,false,[aZ (W++[MV.str EJ]) (b8 c (hh h) (xT [1,2,7] qs)) s Q C I]⟩:=by
 have e:aC (EV TP MP fP 29) Jp (ez fP [aZ W (b8 c' h' cs) s Q C I,dM c (Aa h qs) [],.int pl,.int many]) (dZ (EV TP MP fP 30) [] (bh fP k))=gd ((decide (W.length<=ak),true)::NI c h qs) (k ⟨.none,false,[aZ (W++[MV.str EJ]) (b8 c (hh h) (xT [1,2,7] qs)) s Q C I]⟩):=
  iJ l1 l2 (fun _=>by kernel_rfl!) (fun _ _=>by kernel_rfl!) (fun _ _ _=>by kernel_rfl!)
 exact e.trans (bH (NF (aM len) (EN hc h1 l3)))
end
section
noncomputable def gU(ids ds as:List MV)(s e h:Int):MV:= .obj "ScanHead" [("idents",.lst ids),("dc_slots",.lst ds),("ac_slots",.lst as),("start",.int s),("end",.int e),("high",.int h),("low",.int 0)]
noncomputable def Ab(a:Bool):Str:=("no Huffman table ":Str)++cond a ("ac ":Str) ("dc ":Str)
def EO(a:Bool)(b:Int):Str:=Ab a++Str.ofString (toString b)
noncomputable def kh(a:Bool)(b:Int):MV:= .tup [.int (cond a 1 0),.int b]
noncomputable def B7(C:List MV)(K:List MV->Option aJ):List (Bool×Int)->List MV->Option aJ
 | [],W=>K W
 |(a,b)::r,W=>gd [(i8 (kh a b) C,true)] (cond (!eN (kh a b) C)
   (gd [(small b,true),(decide ((Ab a).length+(Str.ofString (toString b)).length<=ak),true),(decide (W.length<=ak),true)] (B7 C K r (W++[MV.str (EO a b)]))) (B7 C K r W))
def Jq(L:Bool)(e ac:Int)(C:List MV)(K:List MV->Option aJ)(N:List (Bool×Int))(W:List MV):Option aJ:=
 cond (!L) (cond (decide (0<e)) (B7 C K (N++[(true,ac)]) W) (B7 C K N W)) (B7 C K N W)
def NJ(c s e hi dc ac:Int)(C W:List MV)(K:List MV->Option aJ):Option aJ:=
 cond (decide (201<=c)) (K W) (cond (decide (c.fmod 4=3)) (Jq (decide (c.fmod 4=3)) e ac C K [(false,dc)] W)
  (cond (decide (s=0)) (cond (decide (hi=0)) (Jq (decide (c.fmod 4=3)) e ac C K [(false,dc)] W) (Jq (decide (c.fmod 4=3)) e ac C K [] W)) (Jq (decide (c.fmod 4=3)) e ac C K [] W)))
abbrev TT:fE:=tl qG
abbrev MT:Str->fE:=tm qH
variable{W Q ids cs:List MV}{h n I s hi:Int}{ds:List Int}{k:Spec->Option aJ}
theorem KI{C:List MV}{c e:Int}(lp:0<ds.length)(l0:ds.length<=3):∀as:List Int,as.length=ds.length->∀j:Nat,j<ds.length->
  cj TT MT consts gI [aZ W (b8 c h cs) n Q C I,gU ids (ds.map .int) (as.map .int) s e hi,.int j] k =
   NJ c s e hi (ds.getD j 0) (as.getD j 0) C W fun W'=>k ⟨.none,false,[aZ W' (b8 c h cs) n Q C I]⟩:=
 iJ lp l0 (fun a as h j hj=>ju h fun x _ h=>lenZ h (lt1 hj (by kernel_rfl!))) (fun a b as h j hj=>ju h fun x _ h=>ju h fun y _ h=>lenZ h (lt2 hj (by kernel_rfl!) (by kernel_rfl!)))
  (fun a b d as h j hj=>ju h fun x _ h=>ju h fun y _ h=>ju h fun z _ h=>lenZ h (lt3 hj (by kernel_rfl!) (by kernel_rfl!) (by kernel_rfl!)))
theorem NK{C:List MV}{c e:Int}{as:List Int}(l0:ds.length<=3)(l1:as.length=ds.length)(j:Nat)(hj:j<ds.length):
  cj TT MT consts gI [aZ W (b8 c h cs) n Q C I,gU ids (ds.map .int) (as.map .int) s e hi,.int j] k =
   NJ c s e hi (ds.getD j 0) (as.getD j 0) C W fun W'=>k ⟨.none,false,[aZ W' (b8 c h cs) n Q C I]⟩:=KI (kJ (iS _) hj) l0 as l1 j hj
noncomputable def nR(c s e hi dc ac:Int):List (Bool×Int):=cond (decide (201<=c)) [] (cond (decide (c.fmod 4=3)||(decide (s=0)&&decide (hi=0))) [(false,dc)] []++cond (!decide (c.fmod 4=3)&&decide (0<e)) [(true,ac)] [])
noncomputable def cY(C:List MV):List (Bool×Int)->List MV
 | []=>[]
 |(a,b)::r=>cond (eN (kh a b) C) [] [MV.str (EO a b)]++cY C r
variable{a:Bool}{b:Int}
theorem Ac{C:List MV}{r:List (Bool×Int)}:cY C ((a,b)::r)=cond (eN (kh a b) C) [] [MV.str (EO a b)]++cY C r:=rfl
theorem KJ{C:List MV}:cY C []= []:=rfl
def jt(C:List MV):Prop:=∀v,v∈C->∃a b,v= .tup [.int a,.int b]
def strOk(b:Int):Bool:=small b&&decide ((Str.ofString (toString b)).length<=100)
theorem Ad{C:List MV}(h:jt C):i8 (kh a b) C=true:=by
 induction C with
 |nil=>rfl
 |cons v r ih=>
  refine tD (h v (.head _)) fun x y o2=>?_;obtain rfl:=o2;exact ih fun u hu=>h u (.tail _ hu)
variable{K:List MV->Option aJ}
theorem WT{C:List MV}(hC:jt C):∀{N:List (Bool×Int)} {W:List MV},(∀p,p∈N->strOk p.2=true)->W.length+N.length<=ak->B7 C K N W=K (W++cY C N):=by
 intro x0
 induction x0 with
 |nil=>
  intro W _ _;rw[KJ,fU];rfl
 |cons gA r ih=>
  rcases gA with⟨a,b⟩
  intro W h len;refine oA (jv (h _ (.head _))) fun q1 q2=>?_;have q2:(Str.ofString (toString b)).length<=100:=bx q2;have hn:(Ab a).length<=100:=by induction a using Bool.casesOn<;>decide
  have hs:ak=1000000:=rfl;have len:W.length+(r.length+1)<=ak:=len;have h2:∀p,p∈r->strOk p.2=true:=fun p hp=>h p (.tail _ hp);show gd [(i8 (kh a b) C,true)] _=_;rw[Ad hC,q1,aM (show(Ab a).length+(Str.ofString (toString b)).length<=ak by lia),aM (show W.length<=ak by lia)];rw[Ac];cases eN (kh a b) C with
  |true=>exact ih h2 (by lia)
  |false=>
   refine(ih (W:=W++[MV.str (EO a b)]) h2 (by rw[cG];show W.length+1+r.length<=ak;lia)).trans ?_;rw[dH]
   rfl
theorem WU{c e dc ac:Int}{C:List MV}(hC:jt C)(h1:strOk dc=true)(h2:strOk ac=true)(len:W.length+2<=ak):
  NJ c s e hi dc ac C W K=K (W++cY C (nR c s e hi dc ac)):=by
 have z:∀N,N= []∨N= [(false,dc)]∨N= [(true,ac)]∨N= [(false,dc),(true,ac)]->B7 C K N W=K (W++cY C N):=by
  intro N hN;refine WT hC (fun p hp=>?_) ?_
  ·rcases hN with rfl|rfl|rfl|rfl
   ·exact nomatch hp
   ·cases hp with|head=>exact h1|tail _ h=>exact nomatch h
   ·cases hp with|head=>exact h2|tail _ h=>exact nomatch h
   ·cases hp with
    |head=>exact h1
    |tail _ h=>cases h with|head=>exact h2|tail _ h=>exact nomatch h
  ·have:N.length<=2:=by rcases hN with rfl|rfl|rfl|rfl<;>simp
   lia
 unfold NJ nR Jq;cases decide (201<=c)with
 |true=>exact z [] (.inl rfl)
 |false=>
  cases decide (c.fmod 4=3)with
  |true=>exact z _ (.inr (.inl rfl))
  |false=>
   cases decide (s=0)<;>cases decide (hi=0)<;>cases decide (0<e)<;>first|exact z _ (.inl rfl)|exact z _ (.inr (.inl rfl))|exact z _ (.inr (.inr (.inl rfl)))|exact z _ (.inr (.inr (.inr rfl)))
end
section
abbrev TS:fE:=tl tG
def MS(sp:bw):Str→fE:=tm [(.ofString "FileCheck",[(.ofString "tell",fJ),(.ofString "tables",eK gI sp)])]
abbrev fS:Fn:=jP
def eg(i:Nat):Stmt:=Hd.d7 fS.body i
noncomputable def S9:Str:= "a scan of a component that the frame has not"
noncomputable def nQ:Str:= "no quantisation table for component "
def mQ(id:Int):Str:=nQ++Str.ofString (toString id)
def gJ(l:List (Int×Int)):List MV:=l.map fun p=>comp p.1 p.2
def FT(cs head:MV)(data:List Nat)(a:Int)(nm:List MV):St:=⟨[⟨jP.sc,[("self",.own "self"),("head",head),("data",.bytes data),("at",.int a),("named",.lst nm)]⟩],[("self",cs)]⟩
def Jr(ix:Bool)(id c:Int)(Q:List MV)(call:List MV->List (Int×Int)->Option aJ)(W:List MV):List (Int×Int)->Option aJ
 | []=>gd [(decide (W.length<=ak),true)] (call (W++[MV.str S9]) [])
 |(i,q)::r=>cond (!decide (c.fmod 4=3)) (gd [(i8 (.int q) Q,true)] (cond (!eN (.int q) Q)
   (gd [(ix,true),(small id,true),(decide (nQ.length+(Str.ofString (toString id)).length<=ak),true),(decide (W.length<=ak),true)] (call (W++[MV.str (mQ id)]) ((i,q)::r)))
   (call W ((i,q)::r)))) (call W ((i,q)::r))
noncomputable def xU(ix:Bool)(id:Int)(K:List (Int×Int)->Option aJ):List (Int×Int)->List (Int×Int)->Option aJ
 | [],acc=>K acc
 |(i,q)::r,acc=>gd [(ix,true)] (cond (decide (i=id)) (xU ix id K r (acc++[(i,q)])) (xU ix id K r acc))
def yE(j:Int)(n:Nat):Bool:=eZ j&&(decide (-(n:Int)<=j)&&decide (j<n))
def Du(sp:bw)(xs:List MV)(K:cI->St->Option aJ)(F head:MV)(n:Int)(Q C:List MV)(I:Int)(data:List Nat)(j:Int)(W:List MV)(acc:List (Int×Int)):Option aJ:=
 sp [aZ W F n Q C I,head,.int j] fun s=>cond (vC s.val) (bO (EV TS (MS sp) fS 29) (fG (eg 2)) (fH (eg 2)) xs ⟨[⟨fS.sc,[("self",.own "self"),("head",head),("data",.bytes data),("at",.int j),("named",.lst (gJ acc))]⟩],
  iD [("self",aZ W F n Q C I)] ["self"] s.outs⟩ K) none
variable{W Q ids ds as xs:List MV}{h s hi n I id:Int}{data:List Nat}{K:cI->St->Option aJ}{cs:List (Int×Int)}
theorem B8{C:List MV}{c e:Int}{sp:bw}(l1:0<cs.length)(l2:cs.length<=3):
  bO (EV TS (MS sp) fS 29) (fG (eg 2)) (fH (eg 2)) (.int 0::xs) (ez fS [aZ W (b8 c h (gJ cs)) n Q C I,gU (.int id::ids) ds as s e hi,.bytes data]) K =
  xU (yE 0 (ids.length+1)) id (Jr (yE 0 (ids.length+1)) id c Q (Du sp xs K (b8 c h (gJ cs)) (gU (.int id::ids) ds as s e hi) n Q C I data 0) W) cs []:=
 iJ l1 l2 (fun _=>by kernel_rfl!) (fun _ _=>by kernel_rfl!) (fun _ _ _=>by kernel_rfl!)
variable{nm:List MV}{i0:MV}{a:Int}
theorem Js{C:List MV}{c e:Int}{sp:bw}(l1:0<cs.length)(l2:cs.length<=3):
  bO (EV TS (MS sp) fS 29) (fG (eg 2)) (fH (eg 2)) (.int 1::xs) (FT (aZ W (b8 c h (gJ cs)) n Q C I) (gU (i0:: .int id::ids) ds as s e hi) data a nm) K =
  xU (yE 1 (ids.length+2)) id (Jr (yE 1 (ids.length+2)) id c Q (Du sp xs K (b8 c h (gJ cs)) (gU (i0:: .int id::ids) ds as s e hi) n Q C I data 1) W) cs []:=
 iJ l1 l2 (fun _=>by kernel_rfl!) (fun _ _=>by kernel_rfl!) (fun _ _ _=>by kernel_rfl!)
theorem Tc{C:List MV}{i1:MV}{c e:Int}{sp:bw}(l1:0<cs.length)(l2:cs.length<=3):
  bO (EV TS (MS sp) fS 29) (fG (eg 2)) (fH (eg 2)) (.int 2::xs) (FT (aZ W (b8 c h (gJ cs)) n Q C I) (gU (i0::i1:: .int id::ids) ds as s e hi) data a nm) K =
  xU (yE 2 (ids.length+3)) id (Jr (yE 2 (ids.length+3)) id c Q (Du sp xs K (b8 c h (gJ cs)) (gU (i0::i1:: .int id::ids) ds as s e hi) n Q C I data 2) W) cs []:=
 iJ l1 l2 (fun _=>by kernel_rfl!) (fun _ _=>by kernel_rfl!) (fun _ _ _=>by kernel_rfl!)
end
section
def stN(cs head:MV)(data:List Nat)(a:Int)(nm iv N:List MV):St:=⟨[⟨jP.sc,[("self",.own "self"),("head",head),("data",.bytes data),("at",.int a),("named",.lst nm),("intervals",.lst iv),("numbers",.lst N)]⟩],[("self",cs)]⟩
noncomputable def Ae:Str:= "a scan ahead of the frame"
noncomputable def oB:Str:= "restarts without an interval"
noncomputable def tu(v j:Int):Str:=("restart ":Str)++Str.ofString (toString v)++(" stands where ":Str)++Str.ofString (toString (j.fmod 8))++(" is wanted":Str)
def Td(v j:Int):List (Bool×Bool):=[(small v,true),(decide (("restart ":Str).length+(Str.ofString (toString v)).length≤ak),true),(decide ((("restart ":Str)++Str.ofString (toString v)).length+(" stands where ":Str).length≤ak),true),
 (decide ((("restart ":Str)++Str.ofString (toString v)++(" stands where ":Str)).length+(Str.ofString (toString (j.fmod 8))).length≤ak),true),
 (decide ((("restart ":Str)++Str.ofString (toString v)++(" stands where ":Str)++Str.ofString (toString (j.fmod 8))).length+(" is wanted":Str).length≤ak),true)]
variable{W Q:List MV}{head:MV}{n I:Int}{data:List Nat}
theorem Qw{C:List MV}{sp:bw}{k:Spec->Option aJ}(len:W.length<=ak):
  cj TS (MS sp) consts fS [aZ W .none n Q C I,head,.bytes data] k=k ⟨.none,false,[aZ (W++[MV.str Ae]) .none (n+1) Q C I]⟩:=by
 refine(show _=gd [(decide (W.length<=ak),true)] (k ⟨.none,false,[aZ (W++[MV.str Ae]) .none (n+1) Q C I]⟩)by kernel_rfl!).trans ?_;rw[aM len]
 rfl
variable{K:cI->St->Option aJ}
theorem WV{C cs:List MV}{c h:Int}{sp:bw}:
  aC (EV TS (MS sp) fS 30) (fS.body.take 2) (ez fS [aZ W (b8 c h cs) n Q C I,head,.bytes data]) K=K .aL (ez fS [aZ W (b8 c h cs) (n+1) Q C I,head,.bytes data]):=by kernel_rfl!
variable{F:MV}
theorem WW{C ds as:List MV}{s e hi:Int}{sp:bw}{ids:List MV}(l1:0<ids.length)(l2:ids.length<=3):
  aC (EV TS (MS sp) fS 30) [eg 2] (ez fS [aZ W F n Q C I,gU ids ds as s e hi,.bytes data]) K =
   bO (EV TS (MS sp) fS 29) (fG (eg 2)) (fH (eg 2)) (cH ids.length 0) (ez fS [aZ W F n Q C I,gU ids ds as s e hi,.bytes data]) (dZ (EV TS (MS sp) fS 30) [] K):=
 iJ l1 l2 (fun _=>by kernel_rfl!) (fun _ _=>by kernel_rfl!) (fun _ _ _=>by kernel_rfl!)
variable{cs:MV}{nm:List MV}{a:Int}{l:List Nat}
theorem WX{sp:bw}(hl:jC l.length=true):
  aC (EV TS (MS sp) fS 30) [eg 3] (FT cs head (gj l) a nm) K=gd (lZ l) (K .aL (stN cs head (gj l) a nm (.bytes [42,255]::Dh l) (fK l))):=
 tZ hl (by kernel_rfl!) (fun _=>by kernel_rfl!) (fun _ _ _=>by kernel_rfl!) (fun _ _ _ _ _ _ _ _ _ _=>by kernel_rfl!)
variable{iv:List MV}
theorem WY{C N:List MV}{sp:bw}(len:W.length<=ak):
  aC (EV TS (MS sp) fS 30) [eg 4] (stN (aZ W F n Q C I) head data a nm iv N) K=K .aL (stN (aZ (dD (!dW N&&decide (I=0)) oB W) F n Q C I) head data a nm iv N):=by
 refine(show _=cond (!dW N) (cond (decide (I=0)) (gd [(decide (W.length<=ak),true)] (K .aL (stN (aZ (W++[MV.str oB]) F n Q C I) head data a nm iv N))) (K .aL (stN (aZ W F n Q C I) head data a nm iv N)))
  (K .aL (stN (aZ W F n Q C I) head data a nm iv N))by kernel_rfl!).trans ?_
 rw[aM len];cases(!dW N)<;>cases decide (I=0)<;>rfl
theorem WZ{sp:bw}(hl:jC l.length=true):
  aC (EV TS (MS sp) fS 30) [eg 5] (stN cs head data a nm iv (fK l)) K=bO (EV TS (MS sp) fS 29) (fG (eg 5)) (fH (eg 5)) (cH l.length 0) (stN cs head data a nm iv (fK l)) (dZ (EV TS (MS sp) fS 30) [] K):=
 tZ hl (by kernel_rfl!) (fun _=>by kernel_rfl!) (fun _ _ _=>by kernel_rfl!) (fun _ _ _ _ _ _ _ _ _ _=>by kernel_rfl!)
@[elab_as_elim] theorem ind9 {β:Type} {P:List β->Prop} {l:List β} (h:l.length<=9) (h0:P []) (h1:∀a,P [a]) (h2:∀a b,P [a,b]) (h3:∀a b c,P [a,b,c]) (h4:∀a b c d,P [a,b,c,d]) (h5:∀a b c d e,P [a,b,c,d,e]) (h6:∀a b c d e f,P [a,b,c,d,e,f])
  (h7:∀a b c d e f g,P [a,b,c,d,e,f,g]) (h8:∀a b c d e f g i,P [a,b,c,d,e,f,g,i]) (h9:∀a b c d e f g i j,P [a,b,c,d,e,f,g,i,j]):P l:=by
 rcases l with _|⟨a,_|⟨b,_|⟨c,_|⟨d,_|⟨e,_|⟨f,_|⟨g,_|⟨i,_|⟨j,_|⟨k,r⟩⟩⟩⟩⟩⟩⟩⟩⟩⟩
 ·exact h0
 ·exact h1 a
 ·exact h2 a b
 ·exact h3 a b c
 ·exact h4 a b c d
 ·exact h5 a b c d e
 ·exact h6 a b c d e f
 ·exact h7 a b c d e f g
 ·exact h8 a b c d e f g i
 ·exact h9 a b c d e f g i j
 ·exact absurd h (by show ¬r.length+10<=9;exact Std.LawfulOrderOrd.isLE_compare_eq_false.mp rfl)
theorem Te{C R xs P:List MV}{v:Int}{sp:bw}(lp:P.length<=9):
  bO (EV TS (MS sp) fS 29) (fG (eg 5)) (fH (eg 5)) (.int P.length::xs) (stN (aZ W F n Q C I) head data a nm iv (P++ .int v::R)) K =
   gd [(yE P.length (P++MV.int v::R).length,true)] (cond (!decide (v=(P.length:Int).fmod 8)) (gd [(yE P.length (P++MV.int v::R).length,true)] (gd (Td v P.length) (gd [(decide (W.length<=ak),true)]
    (bO (EV TS (MS sp) fS 29) (fG (eg 5)) (fH (eg 5)) xs (stN (aZ (W++[MV.str (tu v P.length)]) F n Q C I) head data P.length nm iv (P++ .int v::R)) K))))
    (bO (EV TS (MS sp) fS 29) (fG (eg 5)) (fH (eg 5)) xs (stN (aZ W F n Q C I) head data P.length nm iv (P++ .int v::R)) K)):=
 ind9 lp (by kernel_rfl!) (fun _=>by kernel_rfl!) (fun _ _=>by kernel_rfl!) (fun _ _ _=>by kernel_rfl!) (fun _ _ _ _=>by kernel_rfl!) (fun _ _ _ _ _=>by kernel_rfl!) (fun _ _ _ _ _ _=>by kernel_rfl!) (fun _ _ _ _ _ _ _=>by kernel_rfl!) (fun _ _ _ _ _ _ _ _=>by kernel_rfl!) (fun _ _ _ _ _ _ _ _ _=>by kernel_rfl!)
end
section
abbrev spT:bw:=cj TT MT consts gI
def jQ(c:Int)(Q:List MV)(id:Int):List (Int×Int)->List MV
 | []=>[MV.str S9]
 |(_,q)::_=>cond (!decide (c.fmod 4=3)&& !eN (.int q) Q) [MV.str (mQ id)] []
noncomputable def qL(cs:List (Int×Int))(id:Int):List (Int×Int):=cs.filter fun p=>decide (p.1=id)
def fB(c s e hi:Int)(Q C:List MV)(cs:List (Int×Int))(r:Int×Int×Int):List MV:=jQ c Q r.1 (qL cs r.1)++cY C (nR c s e hi r.2.1 r.2.2)
def l7(Q:List MV):Prop:=∀v,v∈Q->∃i,v= .int i
variable{Q:List MV}
theorem Bp{q:Int}(h:l7 Q):i8 (.int q) Q=true:=by
 induction Q with
 |nil=>rfl
 |cons v r ih=>
  refine oE (h v (.head _)) fun x o1=>?_;obtain rfl:=o1;exact ih fun u hu=>h u (.tail _ hu)
variable{ix:Bool}{id:Int}
theorem sel_ok(hx:ix=true){K:List (Int×Int)->Option aJ}:∀{cs acc:List (Int×Int)},xU ix id K cs acc=K (acc++qL cs id):=by
 intro x0
 induction x0 with
 |nil=>
  intro acc;rw[qL,List.filter_nil,fU];rfl
 |cons gA r ih=>
  rcases gA with⟨i,q⟩
  intro acc;subst hx;refine(?_:cond (decide (i=id)) (xU true id K r (acc++[(i,q)])) (xU true id K r acc)=_);cases h:decide (i=id)with
  |true=>rw[qL,List.filter_cons_of_pos (by exact h)];refine(ih).trans ?_;rw[dH];rfl
  |false=>rw[qL,List.filter_cons_of_neg (by rw[h];decide)];exact ih
variable{W:List MV}
theorem W2(hx:ix=true){c:Int}{call:List MV->List (Int×Int)->Option aJ}(hQ:l7 Q)(hi:strOk id=true)(len:W.length+200<=ak)(acc:List (Int×Int)):
  Jr ix id c Q call W acc=call (W++jQ c Q id acc) acc:=by
 subst hx;have hs:ak=1000000:=rfl;refine oA (jv hi) fun h1 h2=>?_;have h2:(Str.ofString (toString id)).length<=100:=bx h2;have h3:nQ.length<=100:=by decide
 match acc with
 | []=>
  refine(?_:gd [(decide (W.length<=ak),true)] _=_);rw[aM (show W.length<=ak by exact qd len)]
  rfl
 |(i,q)::r=>
  show cond (!decide (c.fmod 4=3)) (gd [(i8 (.int q) Q,true)] (cond (!eN (.int q) Q)
   (gd [(true,true),(small id,true),(decide (nQ.length+(Str.ofString (toString id)).length<=ak),true),(decide (W.length<=ak),true)] (call (W++[MV.str (mQ id)]) ((i,q)::r)))
   (call W ((i,q)::r)))) (call W ((i,q)::r))=call (W++cond (!decide (c.fmod 4=3)&& !eN (.int q) Q) [MV.str (mQ id)] []) ((i,q)::r)
  rw[Bp hQ,h1,aM (show W.length<=ak by exact qd len),aM (show nQ.length+(Str.ofString (toString id)).length<=ak by lia)];cases(!decide (c.fmod 4=3))with
  |false=>show call W _=call (W++[]) _;rw[fU]
  |true=>
   cases eN (.int q) Q with
   |true=>show call W _=call (W++[]) _;rw[fU]
   |false=>rfl
variable{K:cI->St->Option aJ}{h n s hi I:Int}{data:List Nat}
theorem rG{xs:List MV}{c e:Int}{cs ids:List MV}{ds as:List Int}{C:List MV}{j:Nat}{acc:List (Int×Int)}(l0:ds.length<=3)(l1:as.length=ds.length)(hj:j<ds.length)
  (hC:jt C) (h1:strOk (ds.getD j 0)=true) (h2:strOk (as.getD j 0)=true) (len:W.length+2<=ak):
  Du spT xs K (b8 c h cs) (gU ids (ds.map .int) (as.map .int) s e hi) n Q C I data j W acc =
   bO (EV TS (MS spT) fS 29) (fG (eg 2)) (fH (eg 2)) xs (FT (aZ (W++cY C (nR c s e hi (ds.getD j 0) (as.getD j 0))) (b8 c h cs) n Q C I) (gU ids (ds.map .int) (as.map .int) s e hi) data j (gJ acc)) K:=by
 unfold Du;refine(?_:cj TT MT consts gI _ _=_);rw[NK l0 l1 j hj,WU hC h1 h2 len]
 rfl
noncomputable def mj:List Nat->Int->List MV
 | [],_=>[]
 |n::r,j=>cond (decide (((n+1:Nat):Int) - 208=j.fmod 8)) [] [MV.str (tu (((n+1:Nat):Int) - 208) j)]++mj r (j+1)
variable{j:Int}
theorem vc{n:Nat}{r:List Nat}:mj (n::r) j=cond (decide (((n+1:Nat):Int) - 208=j.fmod 8)) [] [MV.str (tu (((n+1:Nat):Int) - 208) j)]++mj r (j+1):=rfl
theorem Bq:mj [] j= []:=rfl
theorem Qx{v:Int}(h1:strOk v=true)(h2:strOk (j.fmod 8)=true):fX (Td v j)=true:=by
 refine oA (jv h1) fun a1 a2=>?_;refine oA (jv h2) fun _ b2=>?_;have a2:(Str.ofString (toString v)).length≤100:=bx a2;have b2:(Str.ofString (toString (j.fmod 8))).length≤100:=bx b2;have hs:ak=1000000:=rfl;have l1:("restart ":Str).length≤100:=by decide
 have l2:(" stands where ":Str).length≤100:=by decide
 have l3:(" is wanted":Str).length≤100:=by decide
 unfold Td;rw[a1,iu,iu,iu,iu,iu,iu,aM (aI (dz l1 a2) (by decide)),aM (aI (dz (dz l1 a2) l2) (by decide)),aM (aI (dz (dz (dz l1 a2) l2) b2) (by decide)),aM (aI (dz (dz (dz (dz l1 a2) l2) b2) l3) (by decide))]
 rfl
theorem G5{j n:Nat}(h:j<n)(hn:n<=1000):yE j n=true:=by
 unfold yE eZ;rw[aM (by exact Rat.intCast_lt_intCast.mp rfl),aM (by lia),aM (by exact Int.neg_natCast_le_natCast n j),aM (by exact Int.ofNat_lt.mpr h)]
 rfl
theorem Tf{head F:MV}{nm iv C:List MV}:∀{R P:List Nat} {W:List MV} {a:Int},P.length+R.length<=10->(∀x,x∈R->strOk (((x+1:Nat):Int) - 208)=true)->(∀j:Nat,j<10->strOk ((j:Int).fmod 8)=true)->W.length+R.length<=ak->
  ∃a',bO (EV TS (MS spT) fS 29) (fG (eg 5)) (fH (eg 5)) (cH R.length P.length) (stN (aZ W F n Q C I) head data a nm iv (fK (P++R))) K=K .aL (stN (aZ (W++mj R P.length) F n Q C I) head data a' nm iv (fK (P++R))):=by
 intro x0
 induction x0 with
 |nil=>
  intro P W a _ _ _ _;exact⟨a,by rw[Bq,fU W];rfl⟩
 |cons x R ih=>
  intro P W a hp hx h8 len;have hp:P.length+(R.length+1)<=10:=hp;have len:W.length+(R.length+1)<=ak:=len;have e:fK (P++x::R)=fK P++MV.int (((x+1:Nat):Int) - 208)::fK R:=by unfold fK;rw[iY];rfl
  have lP:(fK P).length=P.length:=bI _;have lR:(fK R).length=R.length:=bI _;have eP:P++x::R=(P++[x])++R:=by rw[dH];rfl
  have lx:((P++[x]).length:Int)=(P.length:Int)+1:=by rw[cG];rfl
  have Zl:yE (P.length:Int) (fK P++MV.int (((x+1:Nat):Int) - 208)::fK R).length=true:=G5 (by rw[cG,jl,lP];lia) (by rw[cG,jl,lP,lR];lia);have ht:=Qx (hx x (.head _)) (h8 P.length (by lia));have it:=Te (W:=W) (Q:=Q) (C:=C) (nm:=nm) (iv:=iv) (R:=fK R) (xs:=cH R.length ((P.length:Int)+1)) (P:=fK P) (F:=F) (head:=head) (v:=((x+1:Nat):Int) - 208) (a:=a) (n:=n) (I:=I) (data:=data) (sp:=spT) (K:=K) (by lia);rw[lP]at it;rw[Zl]at it;have h9:∀W':List MV,W'.length+R.length<=ak->∃a',bO (EV TS (MS spT) fS 29) (fG (eg 5)) (fH (eg 5)) (cH R.length ((P.length:Int)+1)) (stN (aZ W' F n Q C I) head data P.length nm iv (fK P++MV.int (((x+1:Nat):Int) - 208)::fK R)) K=K .aL (stN (aZ (W'++mj R ((P.length:Int)+1)) F n Q C I) head data a' nm iv (fK (P++x::R))):=fun W' hw=>by
   refine oE (ih (P:=P++[x]) (W:=W') (a:=(P.length:Int)) (by rw[cG];show P.length+1+R.length<=10;lia) (fun y hy=>hx y (.tail _ hy)) h8 hw) fun a' h=>?_;rw[lx,←eP,e]at h;exact⟨a',by rw[e];exact h⟩
  rw[e];refine(?_:∃a',bO _ _ _ (MV.int P.length::cH R.length ((P.length:Int)+1)) _ K=_);rw[it,bH (l:=[(true,true)]) rfl,bH ht,aM (show W.length<=ak by lia),bH (l:=[(true,true)]) rfl,bH (l:=[(true,true)]) rfl];rw[vc];cases decide (((x+1:Nat):Int) - 208=(P.length:Int).fmod 8)with
  |true=>
   refine oE (h9 W (by lia)) fun a' h=>?_;rw[e]at h;exact⟨a',h⟩
  |false=>
   refine oE (h9 (W++[MV.str (tu (((x+1:Nat):Int) - 208) P.length)]) (by rw[cG];show W.length+1+R.length<=ak;lia)) fun a' h=>?_;rw[e,dH]at h;exact⟨a',h⟩
noncomputable def pL(rows:List (Int×Int×Int)):List MV:=rows.map fun r=>MV.int r.1
noncomputable def mY(rows:List (Int×Int×Int)):List Int:=rows.map fun r=>r.2.1
noncomputable def qt(rows:List (Int×Int×Int)):List Int:=rows.map fun r=>r.2.2
def Jt(rows:List (Int×Int×Int)):Prop:=∀r,r∈rows->strOk r.1=true/\strOk r.2.1=true/\strOk r.2.2=true
noncomputable def iK(c s e hi:Int)(Q C:List MV)(cs:List (Int×Int)):List (Int×Int×Int)->List MV
 | []=>[]
 |r::rs=>fB c s e hi Q C cs r++iK c s e hi Q C cs rs
variable{cs:List (Int×Int)}{r:Int×Int×Int}
theorem Af{c e:Int}{C:List MV}{rs:List (Int×Int×Int)}:iK c s e hi Q C cs (r::rs)=fB c s e hi Q C cs r++iK c s e hi Q C cs rs:=rfl
theorem KL{c e:Int}{C:List MV}:iK c s e hi Q C cs []= []:=rfl
theorem vd{c:Int}{l:List (Int×Int)}:(jQ c Q id l).length<=1:=by
 match l with
 | []=>exact gK _
 |(_,q)::_=>
  refine(?_:(cond (!decide (c.fmod 4=3)&& !eN (.int q) Q) [MV.str (mQ id)] []).length<=1);cases(!decide (c.fmod 4=3)&& !eN (.int q) Q)<;>simp
theorem Br{C:List MV}:∀{N:List (Bool×Int)},(cY C N).length<=N.length:=by
 intro x0
 induction x0 with
 |nil=>
  exact gK _
 |cons gA r ih=>
  rcases gA with⟨a,b⟩
  rw[Ac,cG,jl];have:=ih;cases eN (kh a b) C
  ·show 1+_<=_;lia
  ·show 0+_<=_;lia
theorem Qy{c e dc ac:Int}:(nR c s e hi dc ac).length<=2:=by
 unfold nR;cases decide (201<=c)<;>cases(decide (c.fmod 4=3)||(decide (s=0)&&decide (hi=0)))<;>cases(!decide (c.fmod 4=3)&&decide (0<e))<;>simp
theorem mq{c e:Int}{C:List MV}:(fB c s e hi Q C cs r).length<=3:=by
 unfold fB;rw[cG];have h1:=vd (c:=c) (id:=r.1) (Q:=Q) (l:=qL cs r.1);have h2:=Br (C:=C) (N:=nR c s e hi r.2.1 r.2.2);have h3:=Qy (c:=c) (s:=s) (e:=e) (hi:=hi) (dc:=r.2.1) (ac:=r.2.2);exact dz h1 (aI h2 h3)
theorem um(hx:ix=true){c:Int}{call:List MV->List (Int×Int)->Option aJ}(hQ:l7 Q)(hi:strOk id=true)(len:W.length+200<=ak):
  xU ix id (Jr ix id c Q call W) cs []=call (W++jQ c Q id (qL cs id)) (qL cs id):=(sel_ok hx).trans (W2 hx hQ hi len _)
theorem Qz{C:List MV}{c e:Int}{rows:List (Int×Int×Int)}(l1:0<cs.length)(l2:cs.length<=3)(r1:0<rows.length)(r2:rows.length<=3)
  (hQ:l7 Q) (hC:jt C) (hr:Jt rows) (len:W.length+300<=ak):
  ∃a nm,bO (EV TS (MS spT) fS 29) (fG (eg 2)) (fH (eg 2)) (cH rows.length 0) (ez fS [aZ W (b8 c h (gJ cs)) n Q C I,gU (pL rows) ((mY rows).map .int) ((qt rows).map .int) s e hi,.bytes data]) K =
   K .aL (FT (aZ (W++iK c s e hi Q C cs rows) (b8 c h (gJ cs)) n Q C I) (gU (pL rows) ((mY rows).map .int) ((qt rows).map .int) s e hi) data a nm):=by
 have hl:(mY rows).length<=3:=by unfold mY;rw[bI];exact r2
 have Bs:(qt rows).length=(mY rows).length:=by unfold mY qt;rw[bI,bI]
 have sz:∀{V:List MV} {r:Int×Int×Int},V.length+3<=ak->(V++jQ c Q r.1 (qL cs r.1)).length+2<=ak:=fun{V r} hV=>by
  rw[cG];have:=vd (c:=c) (id:=r.1) (Q:=Q) (l:=qL cs r.1);lia
 have sz3:∀{V:List MV} {r:Int×Int×Int} {m:Nat},V.length+m+3<=ak->(V++jQ c Q r.1 (qL cs r.1)++cY C (nR c s e hi r.2.1 r.2.2)).length+m<=ak:=fun{V r m} hV=>by
  rw[dH,cG];have:=mq (c:=c) (s:=s) (e:=e) (hi:=hi) (Q:=Q) (C:=C) (cs:=cs) (r:=r);unfold fB at this;lia
 revert hr hl Bs;refine iJ r1 r2 (fun a hr hl Bs=>?_) (fun a b hr hl Bs=>?_) (fun a b d hr hl Bs=>?_)
 ·
  refine dh (hr a (.head _)) fun a1 a2 a3=>?_;refine⟨0,gJ (qL cs a.1),?_⟩;refine(B8 (ids:=[]) l1 l2).trans ((um rfl hQ a1 (by lia)).trans ((rG (j:=0) hl Bs (by exact Nat.zero_lt_succ _) hC a2 a3 (sz (by lia))).trans ?_));refine(?_:K .aL _=K .aL (FT (aZ (W++(fB c s e hi Q C cs a++[])) _ _ _ _ _) _ _ _ _));rw[fU,dH]
  rfl
 ·
  refine dh (hr a (.head _)) fun a1 a2 a3=>?_;refine dh (hr b (.tail _ (.head _))) fun b1 b2 b3=>?_;have w1:=sz3 (m:=250) (r:=a) (V:=W) (by lia);refine⟨1,gJ (qL cs b.1),?_⟩;refine(B8 (ids:=[MV.int b.1]) l1 l2).trans ((um rfl hQ a1 (by lia)).trans ((rG (j:=0) hl Bs (by exact Nat.zero_lt_succ _) hC a2 a3 (sz (by lia))).trans ?_));refine(Js (ids:=[]) l1 l2).trans ((um rfl hQ b1 (aI (gn (by decide:200<=250) _) w1)).trans ((rG (j:=1) hl Bs (by exact Nat.succ_lt_succ (Nat.zero_lt_succ _)) hC b2 b3 (sz (aI (gn (by decide:3<=250) _) w1))).trans ?_));refine(?_:K .aL _=K .aL (FT (aZ (W++(fB c s e hi Q C cs a++(fB c s e hi Q C cs b++[]))) _ _ _ _ _) _ _ _ _));rw[fU];unfold fB;simp only[dH]
  rfl
 ·
  refine dh (hr a (.head _)) fun a1 a2 a3=>?_;refine dh (hr b (.tail _ (.head _))) fun b1 b2 b3=>?_;refine dh (hr d (.tail _ (.tail _ (.head _)))) fun d1 d2 d3=>?_;have w1:=sz3 (m:=250) (r:=a) (V:=W) (by lia);have w2:=sz3 (m:=220) (r:=b) (V:=W++jQ c Q a.1 (qL cs a.1)++cY C (nR c s e hi a.2.1 a.2.2)) (by lia);refine⟨2,gJ (qL cs d.1),?_⟩;refine(B8 (ids:=[MV.int b.1,MV.int d.1]) l1 l2).trans ((um rfl hQ a1 (by lia)).trans ((rG (j:=0) hl Bs (by exact Nat.zero_lt_succ _) hC a2 a3 (sz (by lia))).trans ?_));refine(Js (ids:=[MV.int d.1]) l1 l2).trans ((um rfl hQ b1 (aI (gn (by decide:200<=250) _) w1)).trans ((rG (j:=1) hl Bs (by exact Nat.succ_lt_succ (Nat.zero_lt_succ _)) hC b2 b3 (sz (aI (gn (by decide:3<=250) _) w1))).trans ?_));refine(Tc (ids:=[]) l1 l2).trans ((um rfl hQ d1 (aI (gn (by decide:200<=220) _) w2)).trans ((rG (j:=2) hl Bs (by exact Nat.succ_lt_succ (Nat.succ_lt_succ (Nat.zero_lt_succ _))) hC d2 d3 (sz (aI (gn (by decide:3<=220) _) w2))).trans ?_));refine(?_:K .aL _=K .aL (FT (aZ (W++(fB c s e hi Q C cs a++(fB c s e hi Q C cs b++(fB c s e hi Q C cs d++[])))) _ _ _ _ _) _ _ _ _));rw[fU];unfold fB;simp only[dH]
  rfl
end
section
theorem QA:fS.body.drop 2= [eg 2]++([eg 3]++([eg 4]++[eg 5])):=by kernel_rfl!
variable{k:Spec->Option aJ}
theorem Tg{cs head:MV}{data:List Nat}{a:Int}{nm iv N:List MV}:bh fS k .aL (stN cs head data a nm iv N)=k ⟨.none,false,[cs]⟩:=by kernel_rfl!
theorem Vd:∀j:Nat,j<10->strOk ((j:Int).fmod 8)=true:=by decide +kernel
def Ju(l:List Nat):Prop:=fX (lZ l)=true/\∀x,x∈l->strOk (((x+1:Nat):Int) - 208)=true
variable{l:List Nat}
theorem FU:dW (fK l)=dW l:=by induction l using List.casesOn<;>rfl
def o8(c s e hi I:Int)(Q C:List MV)(cs:List (Int×Int))(rows:List (Int×Int×Int))(l:List Nat):List MV:=
 iK c s e hi Q C cs rows++(dD (!dW l&&decide (I=0)) oB []++mj l 0)
theorem wc{c s e hi:Int}{Q C:List MV}{cs:List (Int×Int)}:∀{rows:List (Int×Int×Int)},(iK c s e hi Q C cs rows).length<=3 * rows.length:=by
 intro x0
 induction x0 with
 |nil=>
  exact gK _
 |cons r rs ih=>
  rw[Af,cG,jl];have h1:=mq (c:=c) (s:=s) (e:=e) (hi:=hi) (Q:=Q) (C:=C) (cs:=cs) (r:=r);exact aI (dz h1 ih) (Nat.le_of_eq (Nat.add_comm _ _))
variable{b:Bool}{m:Str}{W:List MV}
theorem Dv:dD b m W=W++dD b m []:=by induction b using Bool.casesOn<;>simp[dD]
theorem ki:(dD b m W).length<=W.length+1:=by induction b using Bool.casesOn<;>simp[dD]
theorem Th{E:Ev}{K:cI->St->Option aJ}{st:St}:dZ E [] K .aL st=K .aL st:=rfl
theorem Ti{Q C:List MV}{c h s e hi n I:Int}{cs:List (Int×Int)}{rows:List (Int×Int×Int)}(l1:0<cs.length)(l2:cs.length<=3)(r1:0<rows.length)(r2:rows.length<=3)
  (hQ:l7 Q) (hC:jt C) (hr:Jt rows) (hl:jC l.length=true) (hn:Ju l) (len:W.length+300<=ak):
  cj TS (MS spT) consts fS [aZ W (b8 c h (gJ cs)) n Q C I,gU (pL rows) ((mY rows).map .int) ((qt rows).map .int) s e hi,.bytes (gj l)] k =
   k ⟨.none,false,[aZ (W++o8 c s e hi I Q C cs rows l) (b8 c h (gJ cs)) (n+1) Q C I]⟩:=by
 have hll:l.length<=10:=uf hl;have yj:=wc (c:=c) (s:=s) (e:=e) (hi:=hi) (Q:=Q) (C:=C) (cs:=cs) (rows:=rows);have hb:=aI yj (jj 3 r2);rw[iI 2,WV];show aC (EV TS (MS spT) fS 30) (fS.body.drop 2) _ (bh fS k)=_;rw[QA,bK];have li:(pL rows).length=rows.length:=bI _;rw[WW (by rw[li];exact r1) (by rw[li];exact r2),li];refine tD (Qz (W:=W) (Q:=Q) (C:=C) (c:=c) (h:=h) (s:=s) (e:=e) (hi:=hi) (n:=n+1) (I:=I) (data:=gj l) (K:=dZ (EV TS (MS spT) fS 30) [] (dZ (EV TS (MS spT) fS 30) ([eg 3]++([eg 4]++[eg 5])) (bh fS k))) l1 l2 r1 r2 hQ hC hr len) fun a nm h1=>?_;rw[h1];show aC (EV TS (MS spT) fS 30) ([eg 3]++([eg 4]++[eg 5])) _ (bh fS k)=_;rw[bK,WX hl,bH hn.1];show aC (EV TS (MS spT) fS 30) ([eg 4]++[eg 5]) _ (bh fS k)=_;rw[bK,WY (by rw[cG];exact aI (gn (aI hb (by decide)) _) len)];show aC (EV TS (MS spT) fS 30) [eg 5] _ (bh fS k)=_;rw[WZ hl];refine oE (Tf (R:=l) (P:=[]) (W:=dD (!dW (fK l)&&decide (I=0)) oB (W++iK c s e hi Q C cs rows)) (a:=a) (K:=dZ (EV TS (MS spT) fS 30) [] (bh fS k)) (head:=gU (pL rows) ((mY rows).map .int) ((qt rows).map .int) s e hi) (F:=b8 c h (gJ cs)) (data:=gj l) (nm:=nm) (iv:= .bytes [42,255]::Dh l) (Q:=Q) (C:=C) (n:=n+1) (I:=I)
  (by show 0+l.length<=10;rw[Nat.zero_add];exact hll) hn.2 Vd (by have:=ki (b:=(!dW (fK l)&&decide (I=0))) (m:=oB) (W:=W++iK c s e hi Q C cs rows);rw[cG]at this;exact aI (dz this hll) (aI (eX (eX (gn hb _) 1) 10) (aI (gn (show 20<=300 by decide) W.length) len)))) fun a' h2=>?_
 refine h2.trans ?_;rw[Th,Tg,FU,Dv];unfold o8;simp only[dH]
 rfl
noncomputable def tB(rows:List (Nat×Nat))(s e x:Nat):List Nat:=rows.length::(rows.flatMap fun p=>[p.1,p.2])++[s,e,x]
def Ve(sp:bw):Str→fE:=tm [(.ofString "FileCheck",[(.ofString "tell",fJ),(.ofString "scan",eK jP sp)])]
end
def Dw(l:List (Bool×Bool))(A B:Bool)(R:Option aJ):Option aJ:=cond A (gd (l++[(!B,false)]) R) (gd [(!A,false)] R)
theorem xV{l:List (Bool×Bool)}{A B:Bool}{R:Option aJ}(hl:fX l=true)(hA:A=true)(hB:B=true):Dw l A B R=R:=by
 subst hA hB;show gd (l++[(!true,false)]) R=R;refine bH ?_
 induction l with
 |nil=>rfl
 |cons a l ih=>obtain⟨a,b⟩:=a;induction a using Bool.casesOn<;>induction b using Bool.casesOn<;>first|exact ih hl|exact(nomatch hl)
noncomputable def slotT(b:Nat):List (Bool×Bool):=[(decide (0<=(b:Int).fdiv 16),true),(!decide ((b:Int).fdiv 16<=3),false)]
noncomputable def slotT'(b:Nat):List (Bool×Bool):=[(decide (0<=(b:Int).fmod 16),true),(!decide ((b:Int).fmod 16<=3),false)]
noncomputable def Ag(rows:List (Nat×Nat))(s e x:Nat):MV:= .obj "ScanHead" [("idents",.lst (rows.map fun p=>MV.int (p.1:Nat))),("dc_slots",.lst (rows.map fun p=>MV.int (((p.2:Nat):Int).fdiv 16))),("ac_slots",.lst (rows.map fun p=>MV.int (((p.2:Nat):Int).fmod 16))),("start",.int (s:Nat)),("end",.int (e:Nat)),("high",.int (((x:Nat):Int).fdiv 16)),("low",.int (((x:Nat):Int).fmod 16))]
def NL(W:List MV)(F:MV)(n:Int)(Q C:List MV)(I:Int)(pc:MV)(pl many:Int)(k:Spec->Option aJ):Spec->Option aJ:=
 fun s=>cond (vC s.val) (bh fP k .aL ⟨[⟨fP.sc,[("self",.own "self"),("piece",pc),("place",.int pl),("many",.int many)]⟩],iD [("self",aZ W F n Q C I)] ["self"] s.outs⟩) none
def NN(sp:bw)(W:List MV)(F:MV)(n:Int)(Q C:List MV)(I:Int)(pc:MV)(pl many:Int)(head:MV)(data:List Nat)(k:Spec->Option aJ):Option aJ:=
 sp [aZ W F n Q C I,head,.bytes data] (NL W F n Q C I pc pl many k)
noncomputable def Vf:List MV->List (Nat×Nat)->List (Bool×Bool)
 |acc,[]=>[]
 |acc,p::r=>(eN (.int (p.1:Nat)) acc,false)::Vf (acc++[.int (p.1:Nat)]) r
noncomputable def idT(l:List (Nat×Nat)):List (Bool×Bool):=l.map fun p=>(!decide (((p.1:Nat):Int)<=255),false)
def Tj(l:List (Nat×Nat)):List (Bool×Bool):=Vf [] l++(idT l++((l.flatMap fun p=>slotT p.2)++(l.flatMap fun p=>slotT' p.2)))
theorem W3{W Q C:List MV}{F:MV}{s I pl many:Int}{rows:List (Nat×Nat)}{st e x:Nat}{data:List Nat}{sp:bw}{k:Spec->Option aJ}(l1:0<rows.length)(l2:rows.length<=3):aC (EV TP (Ve sp) fP 30) (fP.body.drop 2) (ez fP [aZ W F s Q C I,dM 218 (tB rows st e x) data,.int pl,.int many]) (bh fP k) =
  gd (Tj rows) (Dw [] (decide ((st:Int)<=63)) (decide ((e:Int)<=63)) (gd [(decide (0<=(x:Int).fdiv 16),true)] (Dw [(decide (0<=(x:Int).fmod 16),true)] (decide ((x:Int).fdiv 16<=15)) (decide ((x:Int).fmod 16<=15))
   (NN sp W F s Q C I (dM 218 (tB rows st e x) data) pl many (Ag rows st e x) data k)))):=
 iJ l1 l2 (fun _=>by kernel_rfl!) (fun _ _=>by kernel_rfl!) (fun _ _ _=>by kernel_rfl!)
section
theorem qu(d a:Nat)(h:a<16):((16 * d+a:Nat):Int).fdiv 16=(d:Int):=by rw[Int.fdiv_eq_ediv_of_nonneg _ (by decide)];exact bq Int.ofNat (show(16 * d+a) / 16=d by rw[Nat.mul_add_div (by decide),Nat.div_eq_of_lt h,Nat.add_zero])
theorem oO(d a:Nat)(h:a<16):((16 * d+a:Nat):Int).fmod 16=(a:Int):=by rw[Int.fmod_eq_emod_of_nonneg _ (by decide)];exact bq Int.ofNat (show(16 * d+a) % 16=a by rw[Nat.mul_add_mod,Nat.mod_eq_of_lt h])
abbrev R3:Type:=Nat×Nat×Nat
noncomputable def rb(r:R3):Nat×Nat:=(r.1,16 * r.2.1+r.2.2)
noncomputable def rI(r:R3):Int×Int×Int:=((r.1:Nat),(r.2.1:Nat),(r.2.2:Nat))
structure sr(rows:List R3):Prop where
 one:0<rows.length
 most:rows.length<=3
 un:fX (Vf [] (rows.map rb))=true
 Vg:∀r,r∈rows->(r.1=1∨r.1=2∨r.1=7∨r.1=9)/\r.2.1<=3/\r.2.2<=3
variable{rows:List R3}
theorem sr.each(h:sr rows)(r:R3)(m:r∈rows):r.1<=9/\r.2.1<=3/\r.2.2<=3:=by
 refine oA (h.Vg r m) fun a b=>?_;exact⟨by lia,b⟩
theorem Lr(h:sr rows):fX (Tj (rows.map rb))=true:=by
 have q:∀p,p∈rows.map rb->∃r:R3,rb r=p/\r.1<=9/\r.2.1<=3/\r.2.2<=3:=fun p m=>by
  refine aH (jr.mp m) fun r m9 e=>?_;try clear m;revert m9;intro m;exact⟨r,e,h.each r m⟩
 refine kZ h.un (kZ ?_ (kZ (BZ fun p m=>?_) (BZ fun p m=>?_)))
 ·have z:∀l:List (Nat×Nat),(∀p,p∈l->p.1<=255)->fX (idT l)=true:=by
   intro l
   induction l with
   |nil=>exact fun _=>rfl
   |cons p r ih=>
    intro g;have g1:decide (((p.1:Nat):Int)<=255)=true:=aM (by have:=g p (.head _);exact Nat.ToInt.of_le rfl rfl this);show fX ((!decide (((p.1:Nat):Int)<=255),false)::idT r)=true;rw[g1];exact ih fun x m=>g x (.tail _ m)
  exact z _ fun p m=>by obtain⟨r,rfl,a,-⟩:=q p m;exact aI a (by decide)
 ·refine jS (q p m) fun r o1 _ a b=>?_
  clear m;obtain rfl:=o1;show fX [(decide (0<=((16 * r.2.1+r.2.2:Nat):Int).fdiv 16),true),(!decide (((16 * r.2.1+r.2.2:Nat):Int).fdiv 16<=3),false)]=true;rw[qu _ _ (by lia),aM (by exact oH r.snd.fst),aM (by exact Nat.ToInt.of_le rfl rfl a)]
  rfl
 ·refine jS (q p m) fun r o1 _ a b=>?_
  clear m;obtain rfl:=o1;show fX [(decide (0<=((16 * r.2.1+r.2.2:Nat):Int).fmod 16),true),(!decide (((16 * r.2.1+r.2.2:Nat):Int).fmod 16<=3),false)]=true;rw[oO _ _ (by lia),aM (by exact oH r.snd.snd),aM (by exact Nat.ToInt.of_le rfl rfl b)]
  rfl
variable{st hi:Nat}
theorem W4{e:Nat}(h:sr rows):Ag (rows.map rb) st e (16 * hi+0) =
  gU (pL (rows.map rI)) ((mY (rows.map rI)).map .int) ((qt (rows.map rI)).map .int) (st:Nat) (e:Nat) (hi:Nat):=by
 unfold Ag gU pL mY qt;rw[qu _ _ (by decide),oO _ _ (by decide),List.map_map,List.map_map,List.map_map,List.map_map,List.map_map,List.map_map,List.map_map,List.map_map];have a:rows.map ((fun p=>MV.int (((p.2:Nat):Int).fdiv 16)) ∘ rb)=rows.map (MV.int ∘ ((fun r=>r.2.1) ∘ rI)):=List.map_congr_left fun r m=>by
  refine dh (h.each r m) fun _ _ b=>?_;exact bq MV.int (qu r.2.1 r.2.2 (by lia))
 have a2:rows.map ((fun p=>MV.int (((p.2:Nat):Int).fmod 16)) ∘ rb)=rows.map (MV.int ∘ ((fun r=>r.2.2) ∘ rI)):=List.map_congr_left fun r m=>by
  refine dh (h.each r m) fun _ _ b=>?_;exact bq MV.int (oO r.2.1 r.2.2 (by lia))
 rw[a,a2]
 rfl
theorem strN:∀j:Nat,j<10->strOk (j:Int)=true:=by decide +kernel
theorem W5(h:sr rows):Jt (rows.map rI):=by
 intro r m;refine aH (jr.mp m) fun x m' o2=>?_;clear m;obtain rfl:=o2;refine dh (h.each x m') fun a b c=>?_;exact⟨strN _ (by exact Nat.lt_succ_of_le a),strN _ (by lia),strN _ (by lia)⟩
def spS:bw:=fun a k=>cj TS (MS spT) consts fS a k
variable{W Q:List MV}{F:MV}{s I pl many:Int}{data:List Nat}{k:Spec->Option aJ}
theorem FW{C:List MV}{e:Nat}{sp:bw}(h:sr rows)(h1:st<=63)(h2:e<=63)(h3:hi<=15):
  aC (EV TP (Ve sp) fP 30) (fP.body.drop 2) (ez fP [aZ W F s Q C I,dM 218 (tB (rows.map rb) st e (16 * hi+0)) data,.int pl,.int many]) (bh fP k) =
   NN sp W F s Q C I (dM 218 (tB (rows.map rb) st e (16 * hi+0)) data) pl many (gU (pL (rows.map rI)) ((mY (rows.map rI)).map .int) ((qt (rows.map rI)).map .int) (st:Nat) (e:Nat) (hi:Nat)) data k:=by
 rw[W3 (by rw[bI];exact h.one) (by rw[bI];exact h.most),bH (Lr h),xV rfl (aM (by exact Nat.ToInt.of_le rfl rfl h1)) (aM (by exact Nat.ToInt.of_le rfl rfl h2)),qu _ _ (by decide),oO _ _ (by decide),
  bH (by rw[aM (by exact oH hi)];rfl),xV (by rfl) (aM (by exact Nat.ToInt.of_le rfl rfl h3)) (by rfl),W4 h]
variable{X:MV}
theorem QB{C:List MV}{pc:MV}:NL W F s Q C I pc pl many k ⟨.none,false,[X]⟩=k ⟨.none,false,[X]⟩:=by kernel_rfl!
theorem Jv{C:List MV}{pc head:MV}(h:∀K:Spec->Option aJ,cj TS (MS spT) consts fS [aZ W F s Q C I,head,.bytes data] K=K ⟨.none,false,[X]⟩):
  NN spS W F s Q C I pc pl many head data k=k ⟨.none,false,[X]⟩:=
 (h (NL W F s Q C I pc pl many k)).trans QB
variable{l:List Nat}
theorem Tn{C:List MV}{c ht:Int}{cs:List (Int×Int)}{e:Nat}(h:sr rows)(h1:st<=63)(h2:e<=63)(h3:hi<=15)
  (c1:0<cs.length) (c2:cs.length<=3) (hQ:l7 Q) (hC:jt C) (hl:jC l.length=true) (hn:Ju l) (len:W.length+300<=ak):
  aC (EV TP (Ve spS) fP 30) (fP.body.drop 2) (ez fP [aZ W (b8 c ht (gJ cs)) s Q C I,dM 218 (tB (rows.map rb) st e (16 * hi+0)) (gj l),.int pl,.int many]) (bh fP k) =
   k ⟨.none,false,[aZ (W++o8 c (st:Nat) (e:Nat) (hi:Nat) I Q C cs (rows.map rI) l) (b8 c ht (gJ cs)) (s+1) Q C I]⟩:=by
 exact(FW h h1 h2 h3).trans (Jv fun K=>Ti c1 c2 (by rw[bI];exact h.one) (by rw[bI];exact h.most) hQ hC (W5 h) hl hn len)
theorem GC{C:List MV}{e:Nat}(h:sr rows)(h1:st<=63)(h2:e<=63)(h3:hi<=15)(len:W.length<=ak):
  aC (EV TP (Ve spS) fP 30) (fP.body.drop 2) (ez fP [aZ W .none s Q C I,dM 218 (tB (rows.map rb) st e (16 * hi+0)) (gj l),.int pl,.int many]) (bh fP k) =
   k ⟨.none,false,[aZ (W++[MV.str Ae]) .none (s+1) Q C I]⟩:=by
 exact(FW h h1 h2 h3).trans (Jv fun K=>Qw len)
end
inductive bF where
 |kj|eoi|vO
 |qw (i:Nat)
 |eU (l:List Nat)
 |iO (k:Nat) (l:List Nat)
 |iP (c h:Nat) (q:List Nat)
 |sV (rows:List R3) (st e hi:Nat) (l:List Nat)
def bF.Ok:bF->Prop
 | .kj| .eoi| .vO=>True
 | .qw i=>i<=1
 | .eU l=>0<l.length/\l.length<=3/\∀x,x∈l->x<=3
 | .iO k l=>k<=1/\0<l.length/\l.length<=3/\∀x,x∈l->x<=3
 | .iP c h q=>cu (c:Nat)=true/\h<=4/\0<q.length/\q.length<=3/\∀x,x∈q->x<=3
 | .sV rows st e hi l=>sr rows/\st<=63/\e<=63/\hi<=2/\jC l.length=true/\∀x,x∈l->x<=7
noncomputable def bF.code:bF->Nat
 | .kj=>216| .eoi=>217| .vO=>220| .qw _=>221| .eU _=>219| .iO _ _=>196| .iP c _ _=>c| .sV _ _ _ _ _=>218
def bF.w5:bF->List Nat
 | .kj=>[]| .eoi=>[]| .vO=>[0,4]| .qw i=>[0,i]| .eU l=>EK l| .iO k l=>EM (l.map (16 * k+ ·))| .iP _ h q=>Aa h q
 | .sV rows st e hi _=>tB (rows.map rb) st e (16 * hi+0)
noncomputable def gV(l:List Nat):List Nat:=l.map (· +207)
def bF.dat:bF->List Nat
 | .sV _ _ _ _ l=>gj (gV l)|_=>[]
def fh(r:bF):MV:=dM (r.code:Nat) r.w5 r.dat
structure FS where
 W:List MV
 F:Option (Nat×Nat×List Nat)
 s:Int
 Q:List Nat
 C:List (Nat×Nat)
 I:Nat
noncomputable def bV:List Nat->List Nat->List (Int×Int)
 |i::is,q::qs=>((i:Nat),(q:Nat))::bV is qs
 |_,_=>[]
def we:Option (Nat×Nat×List Nat)->MV
 |none=> .none
 |some (c,h,q)=>b8 (c:Nat) (hh h) (xT [1,2,7] q)
noncomputable def gC(Q:List Nat):List MV:=Q.map fun(x:Nat)=>MV.int (x:Int)
noncomputable def fY(C:List (Nat×Nat)):List MV:=C.map fun p=>MV.tup [.int (p.1:Nat),.int (p.2:Nat)]
def xW(t:FS):MV:=aZ t.W (we t.F) t.s (gC t.Q) (fY t.C) (t.I:Nat)
def hOf:Option (Nat×Nat×List Nat)->Bool
 |none=>false
 |some (_,h,_)=> !decide (hh h=0)
def w6(t:FS)(rows:List R3)(st e hi:Nat)(l:List Nat):List MV:=match t.F with
 |none=>[MV.str Ae]
 |some (c,_,q)=>o8 (c:Nat) (st:Nat) (e:Nat) (hi:Nat) (t.I:Nat) (gC t.Q) (fY t.C) (bV [1,2,7] q) (rows.map rI) (gV l)
def NO(t:FS):bF->FS
 | .kj=>t
 | .eoi=>t
 | .vO=> {t with W:=dD (!decide (t.s=1)||hOf t.F) qp t.W}
 | .qw i=> {t with I:=i}
 | .eU l=> {t with Q:=t.Q++l}
 | .iO k l=> {t with C:=t.C++l.map fun x=>(k,x)}
 | .iP c h q=> {t with W:=dD t.F.isSome EJ t.W,F:=some (c,h,q)}
 | .sV rows st e hi l=> {t with W:=t.W++w6 t rows st e hi l,s:=t.s+1}
def kr(pl many:Int)(c:Int)(W:List MV):List MV:=dD (!(decide (c=217)==decide (pl=many - 1))) B6 (dD (!(decide (c=216)==decide (pl=0))) u9 W)
def lV(pl many:Int)(t:FS)(r:bF):FS:=NO {t with W:=kr pl many (r.code:Nat) t.W} r
def Jw(t:FS):Prop:=∀p,t.F=some p->cu (p.1:Nat)=true/\0<p.2.2.length/\p.2.2.length<=3
theorem To:∀{a q:List Nat},xT a q=gJ (bV a q):=by
 intro x1
 induction x1 with
 |nil=>
  intro _;exact rfl
 |cons i is dR=>
  intro x2
  induction x2 using List.casesOn with
  |nil=>
   exact rfl
  |cons q qs=>
   exact bq (List.cons _) dR
theorem QC:∀{a q:List Nat},(bV a q).length=min a.length q.length:=by
 intro x1
 induction x1 with
 |nil=>
  intro q;show 0=min 0 q.length;exact(Nat.zero_min _).symm
 |cons i is dR=>
  intro x2
  induction x2 using List.casesOn with
  |nil=>exact(Nat.min_zero _).symm
  |cons q qs=>
   show(bV is qs).length+1=_;rw[dR,jl,jl];exact Eq.symm (Nat.add_min_add_right is.length qs.length 1)
theorem Ls{Q:List Nat}:l7 (gC Q):=fun v m=>by obtain⟨x,-,rfl⟩:=jr.mp m;exact⟨_,rfl⟩
theorem Jx{C:List (Nat×Nat)}:jt (fY C):=fun v m=>by obtain⟨x,-,rfl⟩:=jr.mp m;exact⟨_,_,rfl⟩
theorem QD:∀l:List Nat,(∀x,x∈l->x<=7)->fX (lZ (gV l))=true:=by
 intro x0
 induction x0 with
 |nil=>
  intro _;exact rfl
 |cons n r ih=>
  intro h;refine kZ (a:=xS (n+207)) ?_ (ih fun x m=>h x (.tail _ m));have z:∀j:Nat,j<8->fX (xS (j+207))=true:=by decide +kernel
  exact z n (by have:=h n (.head _);exact Nat.lt_succ_of_le this)
theorem EP{l:List Nat}(h:∀x,x∈l->x<=7):Ju (gV l):=by
 refine⟨QD l h,fun x m=>?_⟩;refine aH (jr.mp m) fun y m' o2=>?_;clear m;obtain rfl:=o2;have z:(((y+207+1:Nat):Int) - 208)=(y:Int):=by exact Int.sub_eq_iff_eq_add.mpr rfl
 rw[z];exact strN y (by have:=h y m';lia)
section
def Vh(t:FS)(r:bF)(pl many:Int)(k:Spec->Option aJ):Option aJ:=aC (EV TP MP fP 30) (fP.body.drop 2) (ez fP [xW t,fh r,.int pl,.int many]) (bh fP k)
theorem mu{b:Bool}{m:Str}{W:List MV}{n:Nat}(h:W.length<=n):(dD b m W).length<=n+1:=aI ki (by exact eX h 1)
theorem cd_map{k:Nat}(hk:k<=1):∀{l:List Nat},(∀x,x∈l->x<=3)->(l.map (16 * k+ ·)).map kindOf=fY (l.map fun x=>(k,x)):=by
 intro x0
 induction x0 with
 |nil=>
  intro _;exact rfl
 |cons x r ih=>
  intro h;have e:kindOf (16 * k+x)=MV.tup [.int (k:Nat),.int (x:Nat)]:=by
   unfold kindOf;rw[qu k x (by have:=h x (.head _);lia),oO k x (by have:=h x (.head _);lia)]
  exact congr (bq List.cons e) (ih fun y m=>h y (.tail _ m))
variable{t:FS}{r:bF}{pl many:Int}{k:Spec->Option aJ}
theorem W6(h:r.Ok)(hF:Jw t)(len:t.W.length+300<=ak)(lq:t.Q.length+3<=ak)(lc:t.C.length+3<=ak):
  Vh t r pl many k=k ⟨.none,false,[xW (NO t r)]⟩:=by
 obtain⟨W,F,s,Q,C,I⟩:=t;have len:W.length+300<=ak:=len;have Ah:W.length<=ak:=aI (Nat.le_add_right _ _) len
 induction r using bF.casesOn with
 |kj=>exact SW
 |eoi=>exact SX
 |vO=>
  match F with
  |none=>
   refine(Qu (W:=W) (Q:=gC Q) (C:=fY C) (s:=s) (I:=(I:Nat)) Ah).trans ?_;show _=k ⟨.none,false,[aZ (dD (!decide (s=1)||false) qp W) .none s (gC Q) (fY C) (I:Nat)]⟩;rw[Bool.or_false]
  |some (c,ht,q)=>exact Qv (W:=W) (Q:=gC Q) (C:=fY C) (s:=s) (I:=(I:Nat)) Ah
 |qw i=>
  refine(SV (W:=W) (Q:=gC Q) (C:=fY C) (s:=s) (I:=(I:Nat)) (F:=we F)).trans ((bH rfl).trans ?_);have e:((0:Nat):Int) * 256+(i:Int)=(i:Int):=by show(0:Int) * 256+i=i;exact Eq.symm ((fun{b a c}=>Int.sub_eq_iff_eq_add'.mp) rfl)
  rw[e]
  rfl
 |eU l=>
  refine dh (h) fun h1 h2 h3=>?_;try clear h;refine(SY (W:=W) (Q:=gC Q) (C:=fY C) (s:=s) (I:=(I:Nat)) (F:=we F) h1 h2 h3 (by unfold gC;rw[bI];exact lq)).trans ?_;show _=k ⟨.none,false,[aZ W (we F) s (gC (Q++l)) (fY C) (I:Nat)]⟩;rw[show gC (Q++l)=gC Q++l.map fun(x:Nat)=>MV.int (x:Int)from iY]
 |iO a l=>
  refine uq (h) fun h0 h1 h2 h3=>?_;try clear h;refine(S4 (W:=W) (Q:=gC Q) (C:=fY C) (s:=s) (I:=(I:Nat)) (F:=we F) (l:=l.map (16 * a+ ·)) (by rw[bI];exact h1) (by rw[bI];exact h2) (fun x m=>?_) (by unfold fY;rw[bI];exact lc)).trans ?_
  ·refine aH (jr.mp m) fun y m' o2=>?_
   clear m;obtain rfl:=o2;have:=h3 y m';rw[qu a y (kJ this (by decide)),oO a y (kJ this (by decide))]
   lia
  ·show _=k ⟨.none,false,[aZ W (we F) s (gC Q) (fY (C++l.map fun x=>(a,x))) (I:Nat)]⟩
   rw[cd_map h0 h3,show fY (C++l.map fun x=>(a,x))=fY C++fY (l.map fun x=>(a,x))from iY]
 |iP c ht q=>
  refine rU (h) fun h0 h1 h2 h3 h4=>?_;try clear h;refine(sof_if (W:=W) (Q:=gC Q) (C:=fY C) (s:=s) (I:=(I:Nat)) (F:=we F) h0).trans ?_
  match F with
  |none=>exact S7 h0 (aI h1 (by decide)) h2 h3 h4
  |some (c',ht',q')=>exact S8 h0 (aI h1 (by decide)) h2 h3 h4 Ah
 |sV rows st e hi l=>
  refine pS (h) fun h0 h1 h2 h3 h4 h5=>?_;try clear h
  match F,hF with
  |none,_=>exact GC (W:=W) (Q:=gC Q) (C:=fY C) (s:=s) (I:=(I:Nat)) (l:=gV l) h0 h1 h2 (aI h3 (by decide)) Ah
  |some (c,ht,q),hF=>
   refine dh (hF _ rfl) fun _ q1 q2=>?_;have fe:we (some (c,ht,q))=b8 (c:Nat) (hh ht) (gJ (bV [1,2,7] q)):=bq (b8 _ _) To;have cl:=QC (a:=[1,2,7]) (q:=q);have q1:0<q.length:=q1;have q2:q.length<=3:=q2;have cl:(bV [1,2,7] q).length=min 3 q.length:=cl;unfold Vh xW;show aC (EV TP MP fP 30) (fP.body.drop 2) (ez fP [aZ W (we (some (c,ht,q))) s (gC Q) (fY C) (I:Nat),_,.int pl,.int many]) (bh fP k) =
    k ⟨.none,false,[aZ (W++w6 ⟨W,some (c,ht,q),s,Q,C,I⟩ rows st e hi l) (we (some (c,ht,q))) (s+1) (gC Q) (fY C) (I:Nat)]⟩
   rw[fe];exact Tn (W:=W) (Q:=gC Q) (C:=fY C) (s:=s) (I:=(I:Nat)) (l:=gV l) h0 h1 h2 (aI h3 (by decide)) (by rw[cl];exact Nat.lt_min.mpr ⟨by decide,q1⟩) (by rw[cl];exact Nat.min_le_left 3 q.length) Ls Jx (by unfold gV;rw[bI];exact h4) (EP h5) len
theorem Jy(h:r.Ok)(hF:Jw t)(len:t.W.length+302<=ak)(lq:t.Q.length+3<=ak)(lc:t.C.length+3<=ak):
  cj TP MP consts fP [xW t,fh r,.int pl,.int many] k=k ⟨.none,false,[xW (lV pl many t r)]⟩:=by
 rw[iI 2];unfold xW fh;rw[NH (by lia)];have l2:(kr pl many (r.code:Nat) t.W).length<=t.W.length+2:=mu ki;exact W6 (t:= {t with W:=kr pl many (r.code:Nat) t.W}) h hF (by show(kr pl many (r.code:Nat) t.W).length+300<=ak;exact aI (eX l2 300) len) lq lc
end
set_option tactic.hygienic true
section
abbrev TC:fE:=tl s9
def MC(sp:bw):Str→fE:=tm [(.ofString "FileCheck",[(.ofString "tell",fJ),(.ofString "piece",eK kM sp)])]
abbrev fC:Fn:=kX
abbrev EC(sp:bw)(n:Nat):Ev:=EV TC (MC sp) fC n
abbrev tryB:Stmt->List Stmt:=G3
def argsOf(s:Stmt):List Expr:=(FO (Df s)).es
def cT:Expr:=fG (Hd.d7 fC.body 1)
def cB:List Stmt:=fH (Hd.d7 fC.body 1)
def cA:List Expr:=argsOf (Hd.d7 (tryB (Hd.d7 cB 0)) 0)
def stC(xs:List MV)(cs:MV):St:=⟨[⟨fC.sc,[("pieces",.lst xs),("n",.int 2),("check",.own "check")]⟩],[("check",cs)]⟩
def qx(xs:List MV)(cs:MV)(j:Int):St:=⟨[⟨fC.sc,[("pieces",.lst xs),("n",.int 2),("check",.own "check"),("place",.int j)]⟩],[("check",cs)]⟩
variable{xs:List MV}{K:cI->St->Option aJ}
theorem cf0{sp:bw}:aC (EC sp 30) (fC.body.take 1) (ez fC [.lst xs,.int 2]) K=K .aL (stC xs (aZ [] .none 0 [] [] 0)):=by kernel_rfl!
variable{cs:MV}
theorem cf1{sp:bw}:aC (EC sp 30) [Hd.d7 fC.body 1] (stC xs cs) K=gd [(decide (xs.length<=ak),true),(decide (0<=(xs.length:Int))&&decide ((xs.length:Int)<100000),true)] (bO (EC sp 29) cT cB (cH (xs.length:Int).toNat 0) (stC xs cs) (dZ (EC sp 30) [] K)):=by kernel_rfl!
def NP(sp:bw)(ys:List MV)(K:cI→St→Option aJ):List MV→St→Option aJ:=fun as au=>Cm fC.ba (eK kM sp) (.own "check"::as) au fun v _ aA=>cond (vC v) (bO (EC sp 29) cT cB ys aA K) none
variable{ys W Q:List MV}{j:Nat}{F:MV}{s I:Int}
theorem cf_a{sp:bw}{C:List MV}:bO (EC sp 29) cT cB (.int (j:Nat)::ys) (stC xs (aZ W F s Q C I)) K=oF (EC sp 26) [false,false,false] cA (qx xs (aZ W F s Q C I) j) (NP sp ys K):=by kernel_rfl!
theorem cf_b{sp:bw}{i:Nat}{C:List MV}:bO (EC sp 29) cT cB (.int (j:Nat)::ys) (qx xs (aZ W F s Q C I) i) K=oF (EC sp 26) [false,false,false] cA (qx xs (aZ W F s Q C I) j) (NP sp ys K):=by kernel_rfl!
theorem Vi{sp:bw}{K:List MV->St->Option aJ}:oF (EC sp 26) [false,false,false] cA (qx xs cs j) K =
  gd [(yE (j:Nat) xs.length,true)] (bW (xs.getD (cond (decide ((j:Int)<0)) ((j:Int)+xs.length) (j:Int)).toNat .none) (qx xs cs j) fun t au=>oF (EC sp 26) [false,false] (cA.drop 1) au fun r bX=>K (t::r) bX):=by kernel_rfl!
theorem Vj{sp:bw}{K:List MV->St->Option aJ}:oF (EC sp 26) [false,false] (cA.drop 1) (qx xs cs j) K=gd [(decide (xs.length<=ak),true)] (K [.int (j:Nat),.int (xs.length:Nat)] (qx xs cs j)):=by kernel_rfl!
variable{p d:List Nat}
theorem Lu{c:Int}{st:St}{k:MV->St->Option aJ}:bW (dM c p d) st k=k (dM c p d) st:=by kernel_rfl!
def QE(sp:bw)(xs ys:List MV)(cs:MV)(j:Int)(K:cI→St→Option aJ):Spec→Option aJ:=fun s'=>cond (vC s'.val) (bO (EC sp 29) cT cB ys ⟨[⟨fC.sc,[("pieces",.lst xs),("n",.int 2),("check",.own "check"),("place",.int j)]⟩],iD [("check",cs)] ["check"] s'.outs⟩ K) none
theorem Vk{sp:bw}{C:List MV}{j n c:Int}:
  NP sp ys K [dM c p d,.int j,.int n] (qx xs (aZ W F s Q C I) j)=sp [aZ W F s Q C I,dM c p d,.int j,.int n] (QE sp xs ys (aZ W F s Q C I) j K):=by kernel_rfl!
theorem Dy{sp:bw}{X:MV}{j:Int}:QE sp xs ys cs j K ⟨.none,false,[X]⟩=bO (EC sp 29) cT cB ys (qx xs X j) K:=by kernel_rfl!
end
set_option tactic.hygienic false
section
structure FY(t:FS)(j:Nat):Prop where
 fr:Jw t
 w:t.W.length<=40 * j
 q:t.Q.length<=3 * j
 c:t.C.length<=3 * j
noncomputable def oR(many:Int):Nat->FS->List bF->FS
 |_,t,[]=>t
 |j,t,r::rs=>oR many (j+1) (lV (j:Nat) many t r) rs
theorem W7:∀{l:List Nat} {j:Int},(mj l j).length<=l.length:=by
 intro x0
 induction x0 with
 |nil=>
  intro _;exact gK _
 |cons n r ih=>
  intro j;rw[vc,cG,jl];have:=ih (j:=j+1);have z:(cond (decide (((n+1:Nat):Int) - 208=j.fmod 8)) [] [MV.str (tu (((n+1:Nat):Int) - 208) j)]).length<=1:=by
   cases decide (((n+1:Nat):Int) - 208=j.fmod 8)
   ·exact gK _
   ·exact iS _
  exact aI (dz z this) (Nat.le_of_eq (Nat.add_comm 1 _))
variable{t:FS}
theorem Dz{rows:List R3}{st e hi:Nat}{l:List Nat}(h1:rows.length<=3)(h2:l.length<=10):(w6 t rows st e hi l).length<=20:=by
 unfold w6
 split
 ·exact(by decide:1<=20)
 ·unfold o8
  rw[cG,cG];have b:=W7 (l:=gV l) (j:=0);have b2:(gV l).length=l.length:=bI _;have c:∀{x:Bool},(dD x oB []).length<=1:=ki;have d2:(rows.map rI).length=rows.length:=bI _;have:=fun cc cs=> @wc cc (st:Nat) (e:Nat) (hi:Nat) (gC t.Q) (fY t.C) cs (rows.map rI);refine aI (dz (this _ _) (dz c b)) ?_;rw[d2,b2];exact aI (dz (jj 3 h1) (gn h2 1)) (by decide)
variable{r:bF}
theorem ve{j:Nat}{pl many:Int}(h:r.Ok)(f:FY t j):FY (lV pl many t r) (j+1):=by
 obtain⟨W,F,s,Q,C,I⟩:=t;obtain⟨f1,f2,f3,f4⟩:=f;have f2:W.length<=40 * j:=f2;have f3:Q.length<=3 * j:=f3;have f4:C.length<=3 * j:=f4;have lw:(kr pl many (r.code:Nat) W).length<=W.length+2:=mu ki;have g3:Q.length<=3 * (j+1):=aI f3 (jj 3 (Nat.le_succ j));have g4:C.length<=3 * (j+1):=aI f4 (jj 3 (Nat.le_succ j));have w3:∀k,k<=40->W.length+k<=40 * (j+1):=fun k q=>show W.length+k<=40 * j+40 from dz f2 q
 induction r using bF.casesOn with
 |kj|eoi=>exact⟨f1,aI lw (w3 2 (by decide)),g3,g4⟩
 |vO=>exact⟨f1,aI (mu (b:= !decide (s=1)||hOf F) (m:=qp) lw) (w3 3 (by decide)),g3,g4⟩
 |qw i=>exact⟨f1,aI lw (w3 2 (by decide)),g3,g4⟩
 |eU l=>exact⟨f1,aI lw (w3 2 (by decide)),by obtain⟨-,h,-⟩:=h;show(Q++l).length<=_;rw[cG];exact dz f3 h,g4⟩
 |iO k l=>exact⟨f1,aI lw (w3 2 (by decide)),g3,by obtain⟨-,-,h,-⟩:=h;show(C++l.map _).length<=_;rw[cG,bI];exact dz f4 h⟩
 |iP c ht q=>
  refine rU (h) fun h0 h1 h2 h3 h4=>?_;try clear h;exact⟨fun p e=>by cases e;exact⟨h0,h2,h3⟩,aI (mu (b:=F.isSome) (m:=EJ) lw) (w3 3 (by decide)),g3,g4⟩
 |sV rows st e hi l=>
  obtain⟨h0,h1,h2,h3,h4,h5⟩:=h;have ll:l.length<=10:=uf h4;have sl:=Dz (t:=⟨kr pl many 218 W,F,s,Q,C,I⟩) (st:=st) (e:=e) (hi:=hi) h0.most ll;exact⟨f1,by show(kr _ _ _ W++w6 _ _ _ _ _ _).length<=_;rw[cG];exact aI (dz lw sl) (w3 22 (by decide)),g3,g4⟩
def FZ:bw:=fun a k=>cj TP MP consts fP a k
theorem at_mid{N R:List bF}:((N++r::R).map fh).getD N.length .none=fh r:=by
 rw[List.getD_eq_getElem?_getD,List.getElem?_map,List.getElem?_append_right (gK _),Nat.sub_self]
 rfl
theorem W8{many:Nat}(hm:many<=100){K:cI->St->Option aJ}:∀(R N:List bF) (t:FS) (i:Nat),(N++R).length=many->(∀r,r∈R->r.Ok)->FY t N.length->
  ∃i':Nat,bO (EC FZ 29) cT cB (cH R.length (N.length:Int)) (qx ((N++R).map fh) (xW t) (i:Nat)) K=K .aL (qx ((N++R).map fh) (xW (oR many N.length t R)) (i':Nat)):=by
 intro x0
 induction x0 with
 |nil=>
  intro N t i _ _ _;exact⟨i,rfl⟩
 |cons r R ih=>
  intro N t i hl hr f;have hs:ak=1000000:=rfl;have e0:N++r::R=(N++[r])++R:=by simp
  have l1:((N++r::R).map fh).length=many:=by rw[bI];exact hl
  have l2:N.length<many:=by rw[←hl,cG,jl];exact Nat.lt_add_of_pos_right (kg _)
  have hn:N.length<=100:=aI (Nat.le_of_lt l2) hm;have f':=ve (pl:=(N.length:Nat)) (many:=(many:Nat)) (hr r (.head _)) f;obtain⟨i',h⟩:=ih (N++[r]) (lV (N.length:Nat) many t r) N.length (by rw[←e0];exact hl) (fun x m=>hr x (.tail _ m)) (by rw[cG];exact f');refine⟨i',?_⟩;refine cf_b.trans (Vi.trans ((bH (by rw[l1,G5 l2 (aI hm (by decide))];rfl)).trans ?_));have e1:(cond (decide (((N.length:Nat):Int)<0)) (((N.length:Nat):Int)+((N++r::R).map fh).length) ((N.length:Nat):Int)).toNat=N.length:=by rw[gF (Int.not_ofNat_neg N.length)];rfl
  rw[e1,at_mid];refine Lu.trans (Vj.trans ((bH (by rw[l1,aM (by lia)];rfl)).trans (Vk.trans ?_)));rw[l1];refine(Jy (t:=t) (r:=r) (hr r (.head _)) f.fr (aI (eX (aI f.w (jj 40 hn)) _) (by decide)) (aI (eX (aI f.q (jj 3 hn)) _) (by decide)) (aI (eX (aI f.c (jj 3 hn)) _) (by decide))).trans (Dy.trans ?_);rw[e0,show(N.length:Int)+1=((N++[r]).length:Nat)by rw[cG];rfl];rw[h,cG]
  rfl
end
section
noncomputable def tC:Str:= "no frame"
noncomputable def xX:Str:= "no scan"
variable{xs W Q:List MV}{s I i:Int}{k:Spec->Option aJ}
theorem W9{sp:bw}{C:List MV}(len:W.length+1<=ak):
  aC (EC sp 30) (fC.body.drop 2) (qx xs (aZ W .none s Q C I) i) (bh fC k)=k ⟨.lst (dD (decide (s=0)) xX (W++[MV.str tC])),true,[]⟩:=by
 refine(show _=gd [(decide (W.length<=ak),true)] (cond (decide (s=0)) (gd [(decide ((W++[MV.str tC]).length<=ak),true)] (k ⟨.lst (W++[MV.str tC]++[MV.str xX]),true,[]⟩)) (k ⟨.lst (W++[MV.str tC]),true,[]⟩))by kernel_rfl!).trans ?_;rw[aM (show W.length<=ak by exact Nat.le_of_succ_le len),aM (show(W++[MV.str tC]).length<=ak by rw[cG];exact len)];cases decide (s=0)<;>rfl
theorem Xa{sp:bw}{C cs:List MV}{c h:Int}(len:W.length+1<=ak):
  aC (EC sp 30) (fC.body.drop 2) (qx xs (aZ W (b8 c h cs) s Q C I) i) (bh fC k)=k ⟨.lst (dD (decide (s=0)) xX W),true,[]⟩:=by
 refine(show _=(cond (decide (s=0)) (gd [(decide (W.length<=ak),true)] (k ⟨.lst (W++[MV.str xX]),true,[]⟩)) (k ⟨.lst W,true,[]⟩))by kernel_rfl!).trans ?_;rw[aM (show W.length<=ak by exact Nat.le_of_succ_le len)];cases decide (s=0)<;>rfl
def Tp(t:FS):List MV:=dD (decide (t.s=0)) xX (dD t.F.isNone tC t.W)
noncomputable def yF:FS:=⟨[],none,0,[],[],0⟩
theorem NQ:FY yF 0:=⟨fun p e=>(nomatch e),gK _,gK _,gK _⟩
theorem Jz{many:Int}:∀{R:List bF} {j:Nat} {t:FS},(∀r,r∈R->r.Ok)->FY t j->FY (oR many j t R) (j+R.length):=by
 intro x0
 induction x0 with
 |nil=>
  intro _ _ _ f;exact f
 |cons r R ih=>
  intro j t h f;rw[show j+(r::R).length=j+1+R.length by rw[jl];exact Eq.symm (Nat.succ_add_eq_add_succ j R.length)];exact ih (fun x m=>h x (.tail _ m)) (ve (h r (.head _)) f)
def mZ(R:List bF):List MV:=Tp (oR (R.length:Nat) 0 yF R)
theorem cf_run{R:List bF}(h0:0<R.length)(h1:R.length<=100)(h:∀r,r∈R->r.Ok):
  cj TC (MC FZ) consts fC [.lst (R.map fh),.int 2] k=k ⟨.lst (mZ R),true,[]⟩:=by
 match R,h0,h with
 |r::R,_,h=>
  have hz:(r::R).length<=ak:=aI h1 (by decide);have l1:((r::R).map fh).length=(r::R).length:=bI _;have f':=ve (pl:=(0:Nat)) (many:=((r::R).length:Nat)) (h r (.head _)) NQ;have g:=Jz (many:=((r::R).length:Nat)) (fun x m=>h x (.tail _ m)) f';refine oE (W8 (many:=(r::R).length) h1 (K:=dZ (EC FZ 30) [] (dZ (EC FZ 30) (fC.body.drop 2) (bh fC k))) R [r] (lV (0:Nat) (r::R).length yF r) 0 rfl (fun x m=>h x (.tail _ m)) f') fun i e=>?_;rw[iI 2];show aC (EC FZ 30) ([Hd.d7 fC.body 0]++[Hd.d7 fC.body 1]) _ _=_;rw[bK];refine cf0.trans ?_;show aC (EC FZ 30) [Hd.d7 fC.body 1] _ _=_;refine cf1.trans ((bH (by rw[l1,aM hz,aM (by exact oH (r::R).length),aM (by exact Int.ofNat_lt.mpr (kJ h1 (by decide)))];rfl)).trans ?_);have e2:(((r::R).map fh).length:Int).toNat=R.length+1:=by rw[l1];rfl
  rw[e2];refine(cf_a (j:=0)).trans (Vi.trans ((bH (by rw[l1,G5 (j:=0) (n:=(r::R).length) (Nat.zero_lt_succ _) (aI h1 (by decide))];rfl)).trans ?_));refine(Lu (c:=(r.code:Nat)) (p:=r.w5) (d:=r.dat)).trans (Vj.trans ((bH (by rw[l1,aM hz];rfl)).trans (Vk.trans ?_)));rw[l1];refine(Jy (t:=yF) (r:=r) (h r (.head _)) NQ.fr (by decide) (by decide) (by decide)).trans (Dy.trans (e.trans ?_));show aC (EC FZ 30) (fC.body.drop 2) _ (bh fC k)=_;have gw:=g.w;unfold mZ;show aC (EC FZ 30) (fC.body.drop 2) (qx _ (xW (oR ((r::R).length:Nat) 1 (lV (0:Nat) (r::R).length yF r) R)) _) (bh fC k)=k ⟨.lst (Tp (oR ((r::R).length:Nat) 1 (lV (0:Nat) (r::R).length yF r) R)),true,[]⟩;generalize oR ((r::R).length:Nat) 1 (lV (0:Nat) (r::R).length yF r) R=t at gw;have h1:R.length+1<=100:=h1;obtain⟨W,F,s,Q,C,I⟩:=t;have gw:W.length<=40 * (0+1+R.length):=gw;have gz:W.length+1<=ak:=aI (eX (aI gw (jj 40 (show 0+1+R.length<=100 by rw[Nat.zero_add,Nat.add_comm];exact h1))) 1) (by decide)
  rcases F with _|⟨c,ht,q⟩
  ·exact W9 gz
  ·exact Xa gz
end
set_option tactic.hygienic true
section
abbrev vf:Fn:=o7
abbrev Bt(n:Nat):Ev:=EV (tl rN) (tm mN) vf n
noncomputable def dX(d:List (Int×Int)):List (MV×MV):=d.map fun p=>(MV.int p.1,MV.int p.2)
def dw(c h:Int)(d:List (Int×Int)):MV:= .tup [.int c,.int h,.gk (dX d)]
noncomputable def b7(rows:List MV)(s e hi:Int)(nums:List MV):MV:= .tup [.lst rows,.int s,.int e,.int hi,.lst nums]
noncomputable def ng(id dc ac:Int):MV:= .tup [.int id,.int dc,.int ac]
def qy(fr told row:MV)(Q C:List MV)(id dc ac:Int)(L:Bool)(W:List MV):St:=⟨[⟨vf.sc,[("frame",fr),("told",told),("row",row),("quants",.lst Q),("codes",.lst C),("ident",.int id),("dc",.int dc),("ac",.int ac),("found",.own "found"),("has_loss",.bool L)]⟩],[("found",.lst W)]⟩
def Vl(c:Int):Bool:= !eN (.int c) [.int 195,.int 203]
variable{Q rows nums:List MV}{h s hi id dc ac:Int}{d:List (Int×Int)}{K:cI->St->Option aJ}
theorem dt0{C:List MV}{c e:Int}:
  aC (Bt 30) (vf.body.take 2) (ez vf [dw c h d,b7 rows s e hi nums,ng id dc ac,.lst Q,.lst C]) K=K .aL (qy (dw c h d) (b7 rows s e hi nums) (ng id dc ac) Q C id dc ac (Vl c) []):=by kernel_rfl!
def qz(i:Nat):Stmt:=Hd.d7 vf.body i
def Vm(L:Bool)(id:Int)(Q:List MV)(K:List MV->Option aJ):List (Int×Int)->Option aJ
 | []=>K [MV.str S9]
 |(_,q)::_=>cond L (gd [(i8 (.int q) Q,true)] (cond (!eN (.int q) Q) (K [MV.str (mQ id)]) (K []))) (K [])
variable{L:Bool}
theorem dt2(hi:id=1∨id=2∨id=7∨id=9){told row:MV}{C:List MV}{c:Int}{q:List Nat}(l1:0<q.length)(l2:q.length<=3):
  aC (Bt 30) [qz 2] (qy (dw c h (bV [1,2,7] q)) told row Q C id dc ac L []) K=Vm L id Q (fun W=>K .aL (qy (dw c h (bV [1,2,7] q)) told row Q C id dc ac L W)) (qL (bV [1,2,7] q) id):=
 iJ l1 l2 (fun _=>by rcases hi with rfl|rfl|rfl|rfl<;>kernel_rfl!) (fun _ _=>by rcases hi with rfl|rfl|rfl|rfl<;>kernel_rfl!) (fun _ _ _=>by rcases hi with rfl|rfl|rfl|rfl<;>kernel_rfl!)
variable{W:List MV}
theorem dt3{told row:MV}{C:List MV}{c:Int}:
  aC (Bt 30) [qz 3] (qy (dw c h d) told row Q C id dc ac L W) K=cond (eN (.int c) [.int 201,.int 203]) (K (.ret (.own "found") false) (qy (dw c h d) told row Q C id dc ac L W)) (K .aL (qy (dw c h d) told row Q C id dc ac L W)):=by kernel_rfl!
def QF(a:Bool)(m:Str)(v:Int)(C:List MV)(K:List MV->Option aJ)(W:List MV):Option aJ:=
 gd [(i8 (kh a v) C,true)] (cond (!eN (kh a v) C) (gd [(small v,true),(decide (m.length+(Str.ofString (toString v)).length<=ak),true),(decide (W.length<=ak),true)] (K (W++[MV.str (m++Str.ofString (toString v))]))) (K W))
noncomputable def mDc:Str:= "no Huffman table dc "
noncomputable def mAc:Str:= "no Huffman table ac "
theorem dt4{fr row:MV}{C:List MV}{e:Int}:
  aC (Bt 30) [qz 4] (qy fr (b7 rows s e hi nums) row Q C id dc ac L W) K =
   cond (!L) (QF false mDc dc C (fun W=>K .aL (qy fr (b7 rows s e hi nums) row Q C id dc ac L W)) W)
    (cond (decide (s=0)) (cond (decide (hi=0)) (QF false mDc dc C (fun W=>K .aL (qy fr (b7 rows s e hi nums) row Q C id dc ac L W)) W) (K .aL (qy fr (b7 rows s e hi nums) row Q C id dc ac L W))) (K .aL (qy fr (b7 rows s e hi nums) row Q C id dc ac L W))):=by kernel_rfl!
theorem dt5{fr row:MV}{C:List MV}{e:Int}:
  aC (Bt 30) [qz 5] (qy fr (b7 rows s e hi nums) row Q C id dc ac L W) K =
   cond L (cond (decide (0<e)) (QF true mAc ac C (fun W=>K .aL (qy fr (b7 rows s e hi nums) row Q C id dc ac L W)) W) (K .aL (qy fr (b7 rows s e hi nums) row Q C id dc ac L W))) (K .aL (qy fr (b7 rows s e hi nums) row Q C id dc ac L W)):=by kernel_rfl!
variable{k:Spec->Option aJ}
theorem dt6{fr told row:MV}{C:List MV}:
  aC (Bt 30) [qz 6] (qy fr told row Q C id dc ac L W) (bh vf k)=k ⟨.lst W,true,[]⟩:=by kernel_rfl!
theorem dt_ret{fr told row:MV}{C:List MV}:
  bh vf k (.ret (.own "found") false) (qy fr told row Q C id dc ac L W)=k ⟨.lst W,true,[]⟩:=by kernel_rfl!
end
set_option tactic.hygienic false
section
theorem mDc_eq:mDc=Ab false:=by kernel_rfl!
theorem mAc_eq:mAc=Ab true:=by kernel_rfl!
variable{a:Bool}{v:Int}
theorem KN{C:List MV}:cY C [(a,v)]=cond (eN (kh a v) C) [] [MV.str (EO a v)]:=fU _
variable{W:List MV}{K:List MV->Option aJ}
theorem QG{m:Str}{C:List MV}(hm:m=Ab a)(hC:jt C)(hv:strOk v=true)(len:W.length<=ak):QF a m v C K W=K (W++cY C [(a,v)]):=by
 refine oA (jv hv) fun a1 a2=>?_;have a2:(Str.ofString (toString v)).length<=100:=bx a2;have hs:ak=1000000:=rfl;have l1:(Ab a).length<=100:=by induction a using Bool.casesOn<;>decide +kernel
 subst hm;unfold QF;rw[KN,Ad hC,a1,aM (by lia),aM len];cases eN (kh a v) C
 ·rfl
 ·exact bq K (fU W).symm
variable{id:Int}{Q:List MV}
theorem Tq{c:Int}{L:Bool}(hL:L= !decide (c.fmod 4=3))(hQ:l7 Q):∀{l:List (Int×Int)},Vm L id Q K l=K (jQ c Q id l):=by
 intro x0
 induction x0 with
 |nil=>
  exact rfl
 |cons gA r ih=>
  rcases gA with⟨i,q⟩
  show cond L (gd [(i8 (.int q) Q,true)] (cond (!eN (.int q) Q) (K [MV.str (mQ id)]) (K []))) (K [])=K (cond (!decide (c.fmod 4=3)&& !eN (.int q) Q) [MV.str (mQ id)] []);rw[Bp hQ,←hL]
  induction L using Bool.casesOn<;>cases eN (.int q) Q<;>rfl
theorem Xb{c:Int}(hc:cu c=true):Vl c=(!decide (c.fmod 4=3))/\eN (.int c) [.int 201,.int 203]=decide (201<=c):=by
 rcases ff hc with rfl|rfl|rfl|rfl|rfl|rfl<;>decide +kernel
theorem KO{C:List MV}:∀{a b:List (Bool×Int)},cY C (a++b)=cY C a++cY C b:=by
 intro x0
 induction x0 with
 |nil=>
  intro _;exact rfl
 |cons gA r ih=>
  rcases gA with⟨x,y⟩
  intro b;show cond _ _ _++cY C (r++b)=(cond _ _ _++cY C r)++cY C b;rw[ih,dH]
variable{rows nums:List MV}{s hi dc ac:Int}{k:Spec->Option aJ}
theorem Xc{fr row:MV}{C:List MV}{c e:Int}(hC:jt C)(h1:strOk dc=true)(h2:strOk ac=true)(len:W.length+2<=ak)(NR:decide (201<=c)=false):
  aC (Bt 30) ([qz 4]++([qz 5]++[qz 6])) (qy fr (b7 rows s e hi nums) row Q C id dc ac (!decide (c.fmod 4=3)) W) (bh vf k)=k ⟨.lst (W++cY C (nR c s e hi dc ac)),true,[]⟩:=by
 have Vn:∀V:List MV,V.length<=ak->aC (Bt 30) ([qz 5]++[qz 6]) (qy fr (b7 rows s e hi nums) row Q C id dc ac (!decide (c.fmod 4=3)) V) (bh vf k)=k ⟨.lst (V++cY C (cond (!decide (c.fmod 4=3)&&decide (0<e)) [(true,ac)] [])),true,[]⟩:=by
  intro V lv;rw[bK,dt5,QG mAc_eq hC h2 lv];cases decide (c.fmod 4=3)<;>cases decide (0<e)<;>first|exact dt6|(refine dt6.trans ?_;show _=k ⟨.lst (V++[]),true,[]⟩;rw[fU])
 have z:(cY C [(false,dc)]).length<=1:=Br;rw[bK,dt4,QG mDc_eq hC h1 (by exact qd len)];unfold nR;rw[NR];show _=k ⟨.lst (W++cY C (cond (decide (c.fmod 4=3)||(decide (s=0)&&decide (hi=0))) [(false,dc)] []++cond (!decide (c.fmod 4=3)&&decide (0<e)) [(true,ac)] [])),true,[]⟩;rw[KO,←dH];have g1:=Vn (W++cY C [(false,dc)]) (by rw[cG];lia);have g2:=Vn W (by exact qd len);have e0:W++cY C []=W:=fU _;generalize (cond (!decide (c.fmod 4=3)&&decide (0<e)) [(true,ac)] [])=A at g1 g2 ⊢;cases h:decide (c.fmod 4=3)<;>cases decide (s=0)<;>cases decide (hi=0)<;>rw[h]at g1 g2<;>first|exact g1|(refine g2.trans ?_;show _=k ⟨.lst (W++cY C []++cY C A),true,[]⟩;rw[e0])
theorem Xd:vf.body.drop 2= [qz 2]++([qz 3]++([qz 4]++([qz 5]++[qz 6]))):=by kernel_rfl!
theorem Tr{c e:Int}(h:decide (201<=c)=true):nR c s e hi dc ac= []:=by unfold nR;rw[h];rfl
theorem dt_run{C:List MV}{c h e:Int}{q:List Nat}(hc:cu c=true)(za:id=1∨id=2∨id=7∨id=9)(l1:0<q.length)(l2:q.length<=3)
  (hQ:l7 Q) (hC:jt C) (h1:strOk dc=true) (h2:strOk ac=true):
  cj (tl rN) (tm mN) consts vf [dw c h (bV [1,2,7] q),b7 rows s e hi nums,ng id dc ac,.lst Q,.lst C] k =
   k ⟨.lst (fB c s e hi Q C (bV [1,2,7] q) (id,dc,ac)),true,[]⟩:=by
 refine oA (Xb hc) fun c1 c2=>?_;rw[iI 2];refine dt0.trans ?_;show aC (Bt 30) (vf.body.drop 2) _ (bh vf k)=_;rw[Xd,bK,dt2 za l1 l2,Tq c1 hQ];show aC (Bt 30) ([qz 3]++([qz 4]++([qz 5]++[qz 6]))) _ (bh vf k)=_;have cl:(jQ c Q id (qL (bV [1,2,7] q) id)).length<=1:=vd;rw[bK,dt3,c2,c1];unfold fB;generalize jQ c Q id (qL (bV [1,2,7] q) id)=W at cl ⊢;cases NR:decide (201<=c)
 ·exact Xc hC h1 h2 (aI (eX cl 2) (by decide)) NR
 ·rw[Tr NR,show W++cY C []=W from fU _]
  exact dt_ret (fr:=dw c h (bV [1,2,7] q)) (told:=b7 rows s e hi nums) (row:=ng id dc ac) (Q:=Q) (C:=C) (id:=id) (dc:=dc) (ac:=ac) (L:= !decide (c.fmod 4=3))
end
section
abbrev nh:Fn:=ru
abbrev QH(sp:bw):fE:=tl [(.ofString "_law_tables_due",eK o7 sp)]
abbrev ia(sp:bw)(n:Nat):Ev:=EV (QH sp) (tm []) nh n
def dP(i:Nat):Stmt:=Hd.d7 nh.body i
def jA(fr told:MV)(Q C:List MV)(I:Int)(ex:List (Str×MV))(W:List MV):St:=⟨[⟨nh.sc,([("frame",fr),("told",told),("quants",.lst Q),("codes",.lst C),("interval",.int I),("found",.own "found")]:List (Str×MV))++ex⟩],[("found",.lst W)]⟩
variable{Q:List MV}{I:Int}{k:Spec->Option aJ}
theorem Xe{sp:bw}{told:MV}{C:List MV}:cj (QH sp) (tm []) consts nh [.none,told,.lst Q,.lst C,.int I] k=k ⟨.lst [MV.str Ae],true,[]⟩:=by kernel_rfl!
variable{h:Int}{d:List (Int×Int)}{K:cI->St->Option aJ}
theorem sd0{sp:bw}{told:MV}{C:List MV}{c:Int}:
  aC (ia sp 30) (nh.body.take 2) (ez nh [dw c h d,told,.lst Q,.lst C,.int I]) K=K .aL (jA (dw c h d) told Q C I [] []):=by kernel_rfl!
def G6(sp:bw)(fr told:MV)(Q C:List MV)(I:Int)(row:MV)(W xs:List MV)(K:cI->St->Option aJ):Spec->Option aJ:=
 fun s=>cU s.val (jA fr told Q C I [("row",row)] W) fun b=>DP (.lst W) b fun v=>kR ⟨QH sp,tm [],consts,nh.mv,lG nh.ps nh.ms,nh.ba⟩ "found" v true (jA fr told Q C I [("row",row)] W) fun au=>bO (ia sp 29) (fG (dP 2)) (fH (dP 2)) xs au K
variable{W xs rows nums:List MV}{id dc ac s hi:Int}
theorem sd2a{sp:bw}{C:List MV}{c e:Int}:
  bO (ia sp 29) (fG (dP 2)) (fH (dP 2)) (ng id dc ac::xs) (jA (dw c h d) (b7 rows s e hi nums) Q C I [] W) K=sp [dw c h d,b7 rows s e hi nums,ng id dc ac,.lst Q,.lst C] (G6 sp (dw c h d) (b7 rows s e hi nums) Q C I (ng id dc ac) W xs K):=by kernel_rfl!
theorem sd2b{sp:bw}{C:List MV}{c e:Int}{row:MV}:
  bO (ia sp 29) (fG (dP 2)) (fH (dP 2)) (ng id dc ac::xs) (jA (dw c h d) (b7 rows s e hi nums) Q C I [("row",row)] W) K=sp [dw c h d,b7 rows s e hi nums,ng id dc ac,.lst Q,.lst C] (G6 sp (dw c h d) (b7 rows s e hi nums) Q C I (ng id dc ac) W xs K):=by kernel_rfl!
theorem QI{sp:bw}{fr told row:MV}{C R:List MV}(len:W.length+R.length<=ak):
  G6 sp fr told Q C I row W xs K ⟨.lst R,true,[]⟩=bO (ia sp 29) (fG (dP 2)) (fH (dP 2)) xs (jA fr told Q C I [("row",row)] (W++R)) K:=by
 refine(show _=gd [(decide (W.length+R.length≤ak),true)] (bO (ia sp 29) (fG (dP 2)) (fH (dP 2)) xs (jA fr told Q C I [("row",row)] (W++R)) K)by kernel_rfl!).trans ?_;rw[aM len]
 rfl
theorem sd2{sp:bw}{fr:MV}{C:List MV}{e:Int}:
  aC (ia sp 30) [dP 2] (jA fr (b7 rows s e hi nums) Q C I [] W) K=bO (ia sp 29) (fG (dP 2)) (fH (dP 2)) rows (jA fr (b7 rows s e hi nums) Q C I [] W) (dZ (ia sp 30) [] K):=by kernel_rfl!
variable{ex:MV}
theorem sd3{sp:bw}{fr:MV}{C:List MV}{e:Int}(len:W.length<=ak):
  aC (ia sp 30) [dP 3] (jA fr (b7 rows s e hi nums) Q C I [("row",ex)] W) K=K .aL (jA fr (b7 rows s e hi nums) Q C I [("row",ex)] (dD (!dW nums&&decide (I=0)) oB W)):=by
 refine(show _=cond (!dW nums) (cond (decide (I=0)) (gd [(decide (W.length≤ak),true)] (K .aL (jA fr (b7 rows s e hi nums) Q C I [("row",ex)] (W++[MV.str oB])))) (K .aL (jA fr (b7 rows s e hi nums) Q C I [("row",ex)] W)))
  (K .aL (jA fr (b7 rows s e hi nums) Q C I [("row",ex)] W))by kernel_rfl!).trans ?_
 rw[aM len];cases dW nums<;>cases decide (I=0)<;>rfl
theorem sd4{sp:bw}{fr:MV}{C:List MV}{e:Int}:
  aC (ia sp 30) [dP 4] (jA fr (b7 rows s e hi nums) Q C I [("row",ex)] W) K=bO (ia sp 29) (fG (dP 4)) (fH (dP 4)) (iC 0 nums) (jA fr (b7 rows s e hi nums) Q C I [("row",ex)] W) (dZ (ia sp 30) [] K):=by kernel_rfl!
def DA(v j:Int):List (Bool×Bool):=[(small v,true),(decide (("restart ":Str).length+(Str.ofString (toString v)).length≤ak),true),(decide ((("restart ":Str)++Str.ofString (toString v)).length+(" stands where ":Str).length≤ak),true),(small (j.fmod 8),true),
 (decide ((("restart ":Str)++Str.ofString (toString v)++(" stands where ":Str)).length+(Str.ofString (toString (j.fmod 8))).length≤ak),true),
 (decide ((("restart ":Str)++Str.ofString (toString v)++(" stands where ":Str)++Str.ofString (toString (j.fmod 8))).length+(" is wanted":Str).length≤ak),true)]
noncomputable def pj(j n:Int):List (Str×MV):=[("at",.int j),("number",.int n)]
variable{j n:Int}
theorem sd4a{sp:bw}{fr told:MV}{C:List MV}:
  bO (ia sp 29) (fG (dP 4)) (fH (dP 4)) (.tup [.int j,.int n]::xs) (jA fr told Q C I [("row",ex)] W) K =
   cond (!decide (n=j.fmod 8)) (gd (DA n j) (gd [(decide (W.length≤ak),true)] (bO (ia sp 29) (fG (dP 4)) (fH (dP 4)) xs (jA fr told Q C I (("row",ex)::pj j n) (W++[MV.str (tu n j)])) K)))
    (bO (ia sp 29) (fG (dP 4)) (fH (dP 4)) xs (jA fr told Q C I (("row",ex)::pj j n) W) K):=by kernel_rfl!
variable{a b:Int}
theorem sd4b{sp:bw}{fr told:MV}{C:List MV}:
  bO (ia sp 29) (fG (dP 4)) (fH (dP 4)) (.tup [.int j,.int n]::xs) (jA fr told Q C I (("row",ex)::pj a b) W) K =
   cond (!decide (n=j.fmod 8)) (gd (DA n j) (gd [(decide (W.length≤ak),true)] (bO (ia sp 29) (fG (dP 4)) (fH (dP 4)) xs (jA fr told Q C I (("row",ex)::pj j n) (W++[MV.str (tu n j)])) K)))
    (bO (ia sp 29) (fG (dP 4)) (fH (dP 4)) xs (jA fr told Q C I (("row",ex)::pj j n) W) K):=by kernel_rfl!
theorem sd5a{sp:bw}{fr told:MV}{C:List MV}:aC (ia sp 30) [dP 5] (jA fr told Q C I [("row",ex)] W) (bh nh k)=k ⟨.lst W,true,[]⟩:=by kernel_rfl!
theorem sd5b{sp:bw}{fr told:MV}{C:List MV}:aC (ia sp 30) [dP 5] (jA fr told Q C I (("row",ex)::pj a b) W) (bh nh k)=k ⟨.lst W,true,[]⟩:=by kernel_rfl!
end
section
abbrev o9:bw:=cj (tl rN) (tm mN) consts vf
def nZ(r:Int×Int×Int):MV:=ng r.1 r.2.1 r.2.2
def Tt(r:Int×Int×Int):Prop:=(r.1=1∨r.1=2∨r.1=7∨r.1=9)/\strOk r.2.1=true/\strOk r.2.2=true
variable{h s hi I:Int}{Q W xs rows nums:List MV}{K:cI->St->Option aJ}
theorem Lv{c e:Int}{q:List Nat}{C:List MV}{r:Int×Int×Int}(hc:cu c=true)(l1:0<q.length)(l2:q.length<=3)(hQ:l7 Q)(hC:jt C)
  (hr:Tt r) (len:W.length+3<=ak):
  o9 [dw c h (bV [1,2,7] q),b7 rows s e hi nums,nZ r,.lst Q,.lst C] (G6 o9 (dw c h (bV [1,2,7] q)) (b7 rows s e hi nums) Q C I (nZ r) W xs K) =
   bO (ia o9 29) (fG (dP 2)) (fH (dP 2)) xs (jA (dw c h (bV [1,2,7] q)) (b7 rows s e hi nums) Q C I [("row",nZ r)] (W++fB c s e hi Q C (bV [1,2,7] q) r)) K:=
 (dt_run hc hr.1 l1 l2 hQ hC hr.2.1 hr.2.2).trans (QI (aI (gn mq _) len))
theorem Xg{c e:Int}{q:List Nat}{C:List MV}(hc:cu c=true)(l1:0<q.length)(l2:q.length<=3)(hQ:l7 Q)(hC:jt C):
  ∀(R:List (Int×Int×Int)) (row:MV) (W:List MV),(∀r,r∈R->Tt r)->W.length+3 * R.length<=ak->∃ES,
   bO (ia o9 29) (fG (dP 2)) (fH (dP 2)) (R.map nZ) (jA (dw c h (bV [1,2,7] q)) (b7 rows s e hi nums) Q C I [("row",row)] W) K =
    K .aL (jA (dw c h (bV [1,2,7] q)) (b7 rows s e hi nums) Q C I [("row",ES)] (W++iK c s e hi Q C (bV [1,2,7] q) R)):=by
 intro x0
 induction x0 with
 |nil=>
  intro row W _ _;exact⟨row,by rw[KL,fU];rfl⟩
 |cons r R ih=>
  intro row W hr len;have len:W.length+3 * (R.length+1)<=ak:=len;have z:(fB c s e hi Q C (bV [1,2,7] q) r).length<=3:=mq;obtain⟨ES,g⟩:=ih (nZ r) (W++fB c s e hi Q C (bV [1,2,7] q) r) (fun x m=>hr x (.tail _ m)) (by rw[cG];exact aI (eX (gn mq _) _) (by rw[Nat.add_assoc,Nat.add_comm 3];exact len));refine⟨ES,sd2b.trans ((Lv hc l1 l2 hQ hC (hr r (.head _)) (aI (gn (show 3<=3 * (R.length+1)from Nat.le_mul_of_pos_right 3 (kg _)) _) len)).trans (g.trans ?_))⟩;rw[Af,dH]
variable{j:Int}
theorem NS{v:Int}(h1:strOk v=true)(h2:strOk (j.fmod 8)=true):fX (DA v j)=true:=by
 refine oA (jv h1) fun a1 a2=>?_;refine oA (jv h2) fun b1 b2=>?_;have a2:(Str.ofString (toString v)).length≤100:=bx a2;have b2:(Str.ofString (toString (j.fmod 8))).length≤100:=bx b2;have hs:ak=1000000:=rfl;have l1:("restart ":Str).length≤100:=by decide
 have l2:(" stands where ":Str).length≤100:=by decide
 have l3:(" is wanted":Str).length≤100:=by decide
 unfold DA;rw[a1,b1,iu,iu,iu,iu,iu,iu,aM (aI (dz l1 a2) (by decide)),aM (aI (dz (dz l1 a2) l2) (by decide)),aM (aI (dz (dz (dz l1 a2) l2) b2) (by decide)),aM (aI (dz (dz (dz (dz l1 a2) l2) b2) l3) (by decide))]
 rfl
def Lw(fr told:MV)(Q C:List MV)(I:Int)(ex:MV)(p:Option (Int×Int))(W:List MV):St:=match p with
 |none=>jA fr told Q C I [("row",ex)] W
 |some (a,b)=>jA fr told Q C I (("row",ex)::pj a b) W
variable{ex:MV}{p:Option (Int×Int)}
theorem sd4c{sp:bw}{fr told:MV}{C:List MV}{n:Int}(h1:strOk n=true)(h2:strOk (j.fmod 8)=true)(len:W.length<=ak):
  bO (ia sp 29) (fG (dP 4)) (fH (dP 4)) (.tup [.int j,.int n]::xs) (Lw fr told Q C I ex p W) K =
   bO (ia sp 29) (fG (dP 4)) (fH (dP 4)) xs (Lw fr told Q C I ex (some (j,n)) (W++cond (decide (n=j.fmod 8)) [] [MV.str (tu n j)])) K:=by
 have e:bO (ia sp 29) (fG (dP 4)) (fH (dP 4)) (.tup [.int j,.int n]::xs) (Lw fr told Q C I ex p W) K=cond (!decide (n=j.fmod 8)) (gd (DA n j) (gd [(decide (W.length≤ak),true)] (bO (ia sp 29) (fG (dP 4)) (fH (dP 4)) xs (jA fr told Q C I (("row",ex)::pj j n) (W++[MV.str (tu n j)])) K)))
    (bO (ia sp 29) (fG (dP 4)) (fH (dP 4)) xs (jA fr told Q C I (("row",ex)::pj j n) W) K):=by
  match p with
  |none=>exact sd4a
  |some (a,b)=>exact sd4b
 rw[e,bH (NS h1 h2),aM len];cases decide (n=j.fmod 8)
 ·rfl
 ·show _=bO _ _ _ xs (jA fr told Q C I (("row",ex)::pj j n) (W++[])) K
  rw[fU]
  rfl
theorem Xh{sp:bw}{fr told:MV}{C:List MV}:
  ∀(R:List Nat) (j:Nat) (p:Option (Int×Int)) (W:List MV),j+R.length<=10->(∀x,x∈R->strOk (((x+1:Nat):Int) - 208)=true)->W.length+R.length<=ak->∃p',
   bO (ia sp 29) (fG (dP 4)) (fH (dP 4)) (iC (j:Nat) (fK R)) (Lw fr told Q C I ex p W) K=K .aL (Lw fr told Q C I ex p' (W++mj R (j:Nat))):=by
 intro x0
 induction x0 with
 |nil=>
  intro j p W _ _ _;exact⟨p,by rw[Bq,fU];rfl⟩
 |cons x R ih=>
  intro j p W hj hx len;have hj:j+(R.length+1)<=10:=hj;have len:W.length+(R.length+1)<=ak:=len;have z:(cond (decide (((x+1:Nat):Int) - 208=(j:Int).fmod 8)) [] [MV.str (tu (((x+1:Nat):Int) - 208) j)]).length<=1:=by
   cases decide (((x+1:Nat):Int) - 208=(j:Int).fmod 8)
   ·exact gK _
   ·exact iS _
  refine oE (ih (j+1) (some ((j:Int),((x+1:Nat):Int) - 208)) (W++cond (decide (((x+1:Nat):Int) - 208=(j:Int).fmod 8)) [] [MV.str (tu (((x+1:Nat):Int) - 208) j)]) (by rw[Nat.add_assoc,Nat.add_comm 1];exact hj) (fun y m=>hx y (.tail _ m)) (by rw[cG];exact aI (eX (gn z _) _) (by rw[Nat.add_assoc,Nat.add_comm 1];exact len))) fun p' g=>?_;refine⟨p',(sd4c (hx x (.head _)) (Vd j (nu (Nat.lt_add_of_pos_right (kg _)) hj)) (aI (Nat.le_add_right _ _) len)).trans (g.trans ?_)⟩;rw[vc,dH]
  rfl
variable{k:Spec->Option aJ}
theorem sd5{sp:bw}{fr told:MV}{C:List MV}:aC (ia sp 30) [dP 5] (Lw fr told Q C I ex p W) (bh nh k)=k ⟨.lst W,true,[]⟩:=by
 match p with
 |none=>exact sd5a
 |some (a,b)=>exact sd5b
theorem Xi:nh.body.drop 2= [dP 2]++([dP 3]++([dP 4]++[dP 5])):=by kernel_rfl!
theorem sd_run{c e:Int}{q:List Nat}{C:List MV}{R:List (Int×Int×Int)}{l:List Nat}(hc:cu c=true)(l1:0<q.length)(l2:q.length<=3)(hQ:l7 Q)(hC:jt C)
  (hR:∀r,r∈R->Tt r) (r1:0<R.length) (r2:R.length<=3) (hl:l.length<=10) (hx:∀x,x∈l->strOk (((x+1:Nat):Int) - 208)=true):
  cj (QH o9) (tm []) consts nh [dw c h (bV [1,2,7] q),b7 (R.map nZ) s e hi (fK l),.lst Q,.lst C,.int I] k =
   k ⟨.lst (o8 c s e hi I Q C (bV [1,2,7] q) R l),true,[]⟩:=by
 match R,r1,hR with
 |r::R,_,hR=>
  have r2:R.length+1≤3:=r2;have z:(fB c s e hi Q C (bV [1,2,7] q) r).length≤3:=mq;have z2:(iK c s e hi Q C (bV [1,2,7] q) (r::R)).length≤3 * (R.length+1):=wc;have z3:=aI z2 (jj 3 r2);rw[iI 2];refine sd0.trans ?_;show aC (ia o9 30) (nh.body.drop 2) _ (bh nh k)=_;rw[Xi,bK];refine sd2.trans (sd2a.trans ((Lv hc l1 l2 hQ hC (hR r (.head _)) (by show 0+3≤_;exact Nat.le_of_ble_eq_true rfl)).trans ?_));refine oE (Xg (I:=I) (s:=s) (e:=e) (hi:=hi) (h:=h) (rows:=(r::R).map nZ) (nums:=fK l) (K:=dZ (ia o9 30) [] (dZ (ia o9 30) ([dP 3]++([dP 4]++[dP 5])) (bh nh k))) hc l1 l2 hQ hC R (nZ r) ([]++fB c s e hi Q C (bV [1,2,7] q) r) (fun x m=>hR x (.tail _ m)) (by show(fB c s e hi Q C (bV [1,2,7] q) r).length+3 * R.length≤_;exact aI (dz z (jj 3 (Nat.le_of_succ_le_succ r2))) (by decide))) fun ES g=>?_;refine g.trans ?_;show aC (ia o9 30) ([dP 3]++([dP 4]++[dP 5])) (jA _ _ Q C I [("row",ES)] (iK c s e hi Q C (bV [1,2,7] q) (r::R))) (bh nh k)=_;rw[bK,sd3 (aI z3 (by decide))];show aC (ia o9 30) ([dP 4]++[dP 5]) _ (bh nh k)=_;rw[bK];have tl:=ki (b:=(!dW (fK l)&&decide (I=0))) (m:=oB) (W:=iK c s e hi Q C (bV [1,2,7] q) (r::R));refine oE (Xh (sp:=o9) (fr:=dw c h (bV [1,2,7] q)) (told:=b7 ((r::R).map nZ) s e hi (fK l)) (ex:=ES) (Q:=Q) (C:=C) (I:=I) (K:=dZ (ia o9 30) [] (dZ (ia o9 30) [dP 5] (bh nh k))) l 0 none (dD (!dW (fK l)&&decide (I=0)) oB (iK c s e hi Q C (bV [1,2,7] q) (r::R))) (by rw[Nat.zero_add];exact hl) hx (aI (dz tl hl) (aI (eX (eX z3 1) 10) (by decide)))) fun p' g2=>?_;refine sd4.trans (g2.trans ?_);show aC (ia o9 30) [dP 5] _ (bh nh k)=_;refine sd5.trans ?_;rw[FU,Dv];unfold o8;rw[dH]
  rfl
end
section
abbrev fD:Fn:=pJ
abbrev TD(sp:bw):fE:=tl [(.ofString "_law_scan_due",eK ru sp)]
abbrev ED(sp:bw)(n:Nat):Ev:=EV (TD sp) (tm []) fD n
def dT:Expr:=fG (Hd.d7 fD.body 1)
def dB:List Stmt:=fH (Hd.d7 fD.body 1)
def Vo:Option (Nat×Nat×List Nat)->MV
 |none=> .none
 |some (c,h,q)=>dw (c:Nat) (h:Nat) (bV [1,2,7] q)
noncomputable def z6(Q C:List MV)(F:MV)(s I:Int):List (Str×MV):=[("frame",F),("scans",.int s),("quants",.lst Q),("codes",.lst C),("interval",.int I)]
noncomputable def zO:List (Str×MV):=[("found",.own "found")]
noncomputable def zS(xs:List MV):List (Str×MV):=[("some",.lst xs)]
structure R5 where
 j:MV
 n:MV
 t:MV
 p:MV
 d:MV
noncomputable def z5(x:R5):List (Str×MV):=[("place",x.j),("name",x.n),("told",x.t),("payload",x.p),("data",x.d)]
def Vp(xs W Q C:List MV)(F:MV)(s I:Int):St:=⟨[⟨fD.sc,zS xs++(zO++z6 Q C F s I)⟩],[("found",.lst W)]⟩
def fj(l:Bool)(x:R5)(xs W Q C:List MV)(F:MV)(s I:Int):St:=⟨[⟨fD.sc,cond l (zS xs++(z6 Q C F s I++(z5 x++zO))) (zS xs++(zO++(z6 Q C F s I++z5 x)))⟩],[("found",.lst W)]⟩
def G7(sp:bw)(ys:List MV)(K:cI->St->Option aJ):cI->St->Option aJ:=fun f au=>match f with
 | .aL=>bO (ED sp 29) dT dB ys au K
 | .ret v fr=>K (.ret v fr) au
variable{xs:List MV}{K:cI->St->Option aJ}
theorem du0{sp:bw}:aC (ED sp 30) (fD.body.take 1) (ez fD [.lst xs]) K=K .aL (Vp xs [] [] [] .none 0 0):=by kernel_rfl!
variable{W Q:List MV}{F:MV}{s I:Int}
theorem du1{sp:bw}{C:List MV}:aC (ED sp 30) [Hd.d7 fD.body 1] (Vp xs W Q C F s I) K=bO (ED sp 29) dT dB (iC 0 xs) (Vp xs W Q C F s I) (dZ (ED sp 30) [] K):=by kernel_rfl!
variable{j n t p d:MV}{ys:List MV}
theorem du_a{sp:bw}{C:List MV}:
  bO (ED sp 29) dT dB (.tup [j,.tup [n,t,p,d]]::ys) (Vp xs W Q C F s I) K=aC (ED sp 29) dB (fj false ⟨j,n,t,p,d⟩ xs W Q C F s I) (G7 sp ys K):=by kernel_rfl!
variable{l:Bool}{x:R5}
theorem du_b{sp:bw}{C:List MV}:
  bO (ED sp 29) dT dB (.tup [j,.tup [n,t,p,d]]::ys) (fj l x xs W Q C F s I) K=aC (ED sp 29) dB (fj l ⟨j,n,t,p,d⟩ xs W Q C F s I) (G7 sp ys K):=by induction l using Bool.casesOn<;>kernel_rfl!
theorem du_h{sp:bw}{j:Int}{n:Str}{C:List MV}(lx:xs.length<=ak)(len:W.length+1<=ak):
  aC (ED sp 29) (dB.take 2) (fj l ⟨.int j,.str n,t,p,d⟩ xs W Q C F s I) K =
   K .aL (fj l ⟨.int j,.str n,t,p,d⟩ xs (dD (!((n==("EOI":Str))==decide (j=(xs.length:Int) - 1))) B6 (dD (!((n==("SOI":Str))==decide (j=0))) u9 W)) Q C F s I):=by
 have e:aC (ED sp 29) (dB.take 2) (fj l ⟨.int j,.str n,t,p,d⟩ xs W Q C F s I) K =
   cond (!((n==("SOI":Str))==decide (j=0)))
    (gd [(decide (W.length≤ak),true),(decide (xs.length≤ak),true)] (cond (!((n==("EOI":Str))==decide (j=(xs.length:Int) - 1)))
     (gd [(decide ((W++[MV.str u9]).length<=ak),true)] (K .aL (fj l ⟨.int j,.str n,t,p,d⟩ xs ((W++[MV.str u9])++[MV.str B6]) Q C F s I)))
     (K .aL (fj l ⟨.int j,.str n,t,p,d⟩ xs (W++[MV.str u9]) Q C F s I))))
    (gd [(decide (xs.length≤ak),true)] (cond (!((n==("EOI":Str))==decide (j=(xs.length:Int) - 1)))
     (gd [(decide (W.length<=ak),true)] (K .aL (fj l ⟨.int j,.str n,t,p,d⟩ xs (W++[MV.str B6]) Q C F s I)))
     (K .aL (fj l ⟨.int j,.str n,t,p,d⟩ xs W Q C F s I)))):=by induction l using Bool.casesOn<;>kernel_rfl!
 rw[e,aM (show W.length≤ak by exact Nat.le_of_succ_le len),aM lx,aM (show(W++[MV.str u9]).length≤ak by rw[cG];exact len)];cases(!((n==("SOI":Str))==decide (j=0)))<;>cases(!((n==("EOI":Str))==decide (j=(xs.length:Int) - 1)))<;>rfl
theorem du_soi{sp:bw}{C:List MV}:
  aC (ED sp 29) (dB.drop 2) (fj l ⟨j,.str "SOI",t,p,d⟩ xs W Q C F s I) K=K .aL (fj l ⟨j,.str "SOI",t,p,d⟩ xs W Q C F s I):=by induction l using Bool.casesOn<;>kernel_rfl!
theorem du_eoi{sp:bw}{C:List MV}:
  aC (ED sp 29) (dB.drop 2) (fj l ⟨j,.str "EOI",t,p,d⟩ xs W Q C F s I) K=K .aL (fj l ⟨j,.str "EOI",t,p,d⟩ xs W Q C F s I):=by induction l using Bool.casesOn<;>kernel_rfl!
theorem du_dri{sp:bw}{i:Int}{C:List MV}:
  aC (ED sp 29) (dB.drop 2) (fj l ⟨j,.str "DRI",.int i,p,d⟩ xs W Q C F s I) K=K .aL (fj l ⟨j,.str "DRI",.int i,p,d⟩ xs W Q C F s i):=by induction l using Bool.casesOn<;>kernel_rfl!
theorem du_dqt{sp:bw}{q:List MV}{C:List MV}:
  aC (ED sp 29) (dB.drop 2) (fj l ⟨j,.str "DQT",.lst q,p,d⟩ xs W Q C F s I) K=gd [(decide (Q.length+q.length≤ak),true)] (K .aL (fj l ⟨j,.str "DQT",.lst q,p,d⟩ xs W (Q++q) C F s I)):=by induction l using Bool.casesOn<;>kernel_rfl!
theorem du_dht{sp:bw}{q:List MV}{C:List MV}:
  aC (ED sp 29) (dB.drop 2) (fj l ⟨j,.str "DHT",.lst q,p,d⟩ xs W Q C F s I) K=gd [(decide (C.length+q.length≤ak),true)] (K .aL (fj l ⟨j,.str "DHT",.lst q,p,d⟩ xs W Q (C++q) F s I)):=by induction l using Bool.casesOn<;>kernel_rfl!
theorem Xj{sp:bw}{C:List MV}(len:W.length<=ak):
  aC (ED sp 29) (dB.drop 2) (fj l ⟨j,.str "DNL",t,p,d⟩ xs W Q C .none s I) K=K .aL (fj l ⟨j,.str "DNL",t,p,d⟩ xs (dD (!decide (s=1)||false) qp W) Q C .none s I):=by
 have e:aC (ED sp 29) (dB.drop 2) (fj l ⟨j,.str "DNL",t,p,d⟩ xs W Q C .none s I) K=cond (!decide (s=1)) (gd [(decide (W.length≤ak),true)] (K .aL (fj l ⟨j,.str "DNL",t,p,d⟩ xs (W++[MV.str qp]) Q C .none s I)))
   (K .aL (fj l ⟨j,.str "DNL",t,p,d⟩ xs W Q C .none s I)):=by induction l using Bool.casesOn<;>kernel_rfl!
 rw[e,aM len];cases decide (s=1)<;>rfl
variable{h:Int}{m:List (Int×Int)}
theorem Xk{sp:bw}{c:Int}{C:List MV}(len:W.length<=ak):
  aC (ED sp 29) (dB.drop 2) (fj l ⟨j,.str "DNL",t,p,d⟩ xs W Q C (dw c h m) s I) K=K .aL (fj l ⟨j,.str "DNL",t,p,d⟩ xs (dD (!decide (s=1)|| !decide (h=0)) qp W) Q C (dw c h m) s I):=by
 have e:aC (ED sp 29) (dB.drop 2) (fj l ⟨j,.str "DNL",t,p,d⟩ xs W Q C (dw c h m) s I) K=cond (!decide (s=1)) (gd [(decide (W.length≤ak),true)] (K .aL (fj l ⟨j,.str "DNL",t,p,d⟩ xs (W++[MV.str qp]) Q C (dw c h m) s I)))
   (cond (!decide (h=0)) (gd [(decide (W.length≤ak),true)] (K .aL (fj l ⟨j,.str "DNL",t,p,d⟩ xs (W++[MV.str qp]) Q C (dw c h m) s I))) (K .aL (fj l ⟨j,.str "DNL",t,p,d⟩ xs W Q C (dw c h m) s I))):=by induction l using Bool.casesOn<;>kernel_rfl!
 rw[e,aM len];cases decide (s=1)<;>cases decide (h=0)<;>rfl
noncomputable def ku(c:Int):Str:=("SOF":Str)++Str.ofString (toString (c - 192))
theorem Xl{sp:bw}{c:Int}(hc:cu c=true){C:List MV}(len:W.length<=ak):
  aC (ED sp 29) (dB.drop 2) (fj l ⟨j,.str (ku c),dw c h m,p,d⟩ xs W Q C .none s I) K=K .aL (fj true ⟨j,.str (ku c),dw c h m,p,d⟩ xs W Q C (dw c h m) s I):=by
 have e:aC (ED sp 29) (dB.drop 2) (fj l ⟨j,.str (ku c),dw c h m,p,d⟩ xs W Q C .none s I) K=gd [(decide (W.length+0<=ak),true)] (K .aL (fj true ⟨j,.str (ku c),dw c h m,p,d⟩ xs (W++[]) Q C (dw c h m) s I)):=by
  rcases ff hc with rfl|rfl|rfl|rfl|rfl|rfl<;>induction l using Bool.casesOn<;>kernel_rfl!
 rw[e,aM (show W.length+0<=ak from len),fU]
 rfl
theorem Xm{sp:bw}{c:Int}(hc:cu c=true){c' h':Int}{m':List (Int×Int)}{C:List MV}(len:W.length+1<=ak):
  aC (ED sp 29) (dB.drop 2) (fj l ⟨j,.str (ku c),dw c h m,p,d⟩ xs W Q C (dw c' h' m') s I) K=K .aL (fj true ⟨j,.str (ku c),dw c h m,p,d⟩ xs (W++[MV.str EJ]) Q C (dw c h m) s I):=by
 have e:aC (ED sp 29) (dB.drop 2) (fj l ⟨j,.str (ku c),dw c h m,p,d⟩ xs W Q C (dw c' h' m') s I) K=gd [(decide (W.length+1<=ak),true)] (K .aL (fj true ⟨j,.str (ku c),dw c h m,p,d⟩ xs (W++[MV.str EJ]) Q C (dw c h m) s I)):=by
  rcases ff hc with rfl|rfl|rfl|rfl|rfl|rfl<;>induction l using Bool.casesOn<;>kernel_rfl!
 rw[e,aM len]
 rfl
def NT(sp:bw)(st:St)(W:List MV)(K:cI->St->Option aJ):Spec->Option aJ:=
 fun s=>cU s.val st fun b=>DP (.lst W) b fun v=>kR ⟨TD sp,tm [],consts,fD.mv,lG fD.ps fD.ms,fD.ba⟩ "found" v true st fun au=>K .aL au
theorem du_sos{sp:bw}(hF:F= .none∨∃c h m,F=dw c h m){x y z:Int}{r n:List MV}{C:List MV}:
  aC (ED sp 29) (dB.drop 2) (fj l ⟨j,.str "SOS",b7 r x y z n,p,d⟩ xs W Q C F s I) K =
   sp [F,b7 r x y z n,.lst Q,.lst C,.int I] (NT sp (fj l ⟨j,.str "SOS",b7 r x y z n,p,d⟩ xs W Q C F (s+1) I) W K):=by
 obtain rfl|⟨c,h,m,rfl⟩:=hF<;>induction l using Bool.casesOn<;>kernel_rfl!
theorem QJ{sp:bw}{C R:List MV}(len:W.length+R.length<=ak):
  NT sp (fj l x xs W Q C F s I) W K ⟨.lst R,true,[]⟩=K .aL (fj l x xs (W++R) Q C F s I):=by
 have e:NT sp (fj l x xs W Q C F s I) W K ⟨.lst R,true,[]⟩=gd [(decide (W.length+R.length<=ak),true)] (K .aL (fj l x xs (W++R) Q C F s I)):=by induction l using Bool.casesOn<;>kernel_rfl!
 rw[e,aM len]
 rfl
variable{k:Spec->Option aJ}
theorem du2n{sp:bw}{C:List MV}(len:W.length+2<=ak):
  aC (ED sp 30) [Hd.d7 fD.body 2] (fj l x xs W Q C .none s I) (bh fD k)=k ⟨.lst (dD (decide (s=0)) xX (W++[MV.str tC])),true,[]⟩:=by
 have e:aC (ED sp 30) [Hd.d7 fD.body 2] (fj l x xs W Q C .none s I) (bh fD k)=gd [(decide (W.length+1<=ak),true)] (cond (decide (s=0))
   (gd [(decide ((W++[MV.str tC]).length+1<=ak),true)] (k ⟨.lst ((W++[MV.str tC])++[MV.str xX]),true,[]⟩)) (gd [(decide ((W++[MV.str tC]).length+0<=ak),true)] (k ⟨.lst ((W++[MV.str tC])++[]),true,[]⟩))):=by induction l using Bool.casesOn<;>kernel_rfl!
 have l2:(W++[MV.str tC]).length=W.length+1:=cG;rw[e,l2,aM (show W.length+1<=ak by exact Nat.le_of_succ_le len),aM (show W.length+1+1<=ak by omega),fU];cases decide (s=0)<;>rfl
theorem du2s{sp:bw}{C:List MV}{c:Int}(len:W.length+2<=ak):
  aC (ED sp 30) [Hd.d7 fD.body 2] (fj l x xs W Q C (dw c h m) s I) (bh fD k)=k ⟨.lst (dD (decide (s=0)) xX W),true,[]⟩:=by
 have e:aC (ED sp 30) [Hd.d7 fD.body 2] (fj l x xs W Q C (dw c h m) s I) (bh fD k)=gd [(decide (W.length+0<=ak),true)] (cond (decide (s=0))
   (gd [(decide ((W++[]).length+1<=ak),true)] (k ⟨.lst ((W++[])++[MV.str xX]),true,[]⟩)) (gd [(decide ((W++[]).length+0<=ak),true)] (k ⟨.lst ((W++[])++[]),true,[]⟩))):=by induction l using Bool.casesOn<;>kernel_rfl!
 have l2:W++[]=W:=fU W;rw[e,l2,l2,aM (show W.length+1<=ak by exact Nat.le_of_succ_le len),aM (show W.length+0<=ak by exact qd len)];cases decide (s=0)<;>rfl
end
section
def bF.name:bF->Str
 | .kj=> "SOI" | .eoi=> "EOI" | .vO=> "DNL" | .qw _=> "DRI" | .eU _=> "DQT" | .iO _ _=> "DHT" | .iP c _ _=>ku (c:Nat)| .sV _ _ _ _ _=> "SOS"
def bF.told:bF->MV
 | .kj=> .none| .eoi=> .none| .vO=> .int 4| .qw i=> .int (i:Nat)| .eU l=> .lst (gC l)| .iO k l=> .lst (fY (l.map fun x=>(k,x)))
 | .iP c h q=>dw (c:Nat) (h:Nat) (bV [1,2,7] q)
 | .sV rows st e hi l=>b7 ((rows.map rI).map nZ) (st:Nat) (e:Nat) (hi:Nat) (fK (gV l))
def aB(r:bF):MV:= .tup [.str r.name,r.told,.bytes r.w5,.bytes r.dat]
variable{r:bF}
theorem Xo(h:r.Ok):(r.name==("EOI":Str))=decide ((r.code:Int)=217)∧(r.name==("SOI":Str))=decide ((r.code:Int)=216):=by
 induction r using bF.casesOn with
 |iP c ht q=>
  have z:∀c:Int,cu c=true→(ku c==("EOI":Str))=decide (c=217)∧(ku c==("SOI":Str))=decide (c=216):=by
   intro c hc
   rcases ff hc with rfl|rfl|rfl|rfl|rfl|rfl<;>decide +kernel
  exact z _ h.1
 |_=>exact⟨by kernel_rfl,by kernel_rfl⟩
def B9(l:Bool)(x:R5)(xs:List MV)(t:FS):St:=fj l x xs t.W (gC t.Q) (fY t.C) (Vo t.F) t.s (t.I:Nat)
abbrev qA:bw:=cj (QH o9) (tm []) consts nh
theorem qs_app{a b:List Nat}:gC (a++b)=gC a++gC b:=iY
theorem cd_app{a b:List (Nat×Nat)}:fY (a++b)=fY a++fY b:=iY
theorem frO_is{F:Option (Nat×Nat×List Nat)}:Vo F= .none∨∃c h m,Vo F=dw c h m:=by
 rcases F with _|⟨c,h,q⟩
 ·exact .inl rfl
 ·exact .inr ⟨_,_,_,rfl⟩
variable{t:FS}{k:Spec->Option aJ}
theorem Xp{rows:List R3}{st e hi:Nat}{l:List Nat}(h:(bF.sV rows st e hi l).Ok)(hF:Jw t):
  qA [Vo t.F,b7 ((rows.map rI).map nZ) (st:Nat) (e:Nat) (hi:Nat) (fK (gV l)),.lst (gC t.Q),.lst (fY t.C),.int (t.I:Nat)] k=k ⟨.lst (w6 t rows st e hi l),true,[]⟩:=by
 obtain⟨W,F,s,Q,C,I⟩:=t;refine pS (h) fun h0 h1 h2 h3 h4 h5=>?_;try clear h
 rcases F with _|⟨c,ht,q⟩
 ·exact Xe
 ·
  refine dh (hF _ rfl) fun q0 q1 q2=>?_;have lr:(rows.map rI).length=rows.length:=bI _;refine sd_run q0 q1 q2 Ls Jx (fun r m=>?_) (by rw[lr];exact h0.one) (by rw[lr];exact h0.most) (by unfold gV;rw[bI];exact uf h4) (EP h5).2;refine aH (jr.mp m) fun x m' o2=>?_;clear m;obtain rfl:=o2;refine dh (h0.Vg x m') fun a b c=>?_;exact⟨by show((x.1:Nat):Int)=1∨((x.1:Nat):Int)=2∨((x.1:Nat):Int)=7∨((x.1:Nat):Int)=9;lia,strN _ (by lia),strN _ (by lia)⟩
variable{l:Bool}{p d:MV}{xs:List MV}{K:cI->St->Option aJ}
theorem du_t{j:MV}(h:r.Ok)(hF:Jw t)(len:t.W.length+20<=ak)(lq:t.Q.length+3<=ak)(lc:t.C.length+3<=ak):
  ∃l',aC (ED qA 29) (dB.drop 2) (B9 l ⟨j,.str r.name,r.told,p,d⟩ xs t) K=K .aL (B9 l' ⟨j,.str r.name,r.told,p,d⟩ xs (NO t r)):=by
 obtain⟨W,F,s,Q,C,I⟩:=t;have len:W.length+20<=ak:=len;have Ah:W.length<=ak:=aI (Nat.le_add_right _ _) len
 induction r using bF.casesOn with
 |kj=>exact⟨l,du_soi⟩
 |eoi=>exact⟨l,du_eoi⟩
 |vO=>
  rcases F with _|⟨c,ht,q⟩
  ·exact⟨l,Xj Ah⟩
  ·
   refine⟨l,(Xk Ah).trans ?_⟩;show _=K .aL (fj l _ xs (dD (!decide (s=1)|| !decide (hh ht=0)) qp W) (gC Q) (fY C) _ s _);rw[G4]
   rfl
 |qw i=>exact⟨l,du_dri⟩
 |eU a=>
  refine dh (h) fun h1 h2 h3=>?_;try clear h;refine⟨l,du_dqt.trans ((bH ?_).trans ?_)⟩
  ·rw[aM (show(gC Q).length+(gC a).length<=ak by unfold gC;rw[bI,bI];have lq:Q.length+3<=ak:=lq;lia)]
   rfl
  ·rw[←qs_app]
   rfl
 |iO b a=>
  refine uq (h) fun h0 h1 h2 h3=>?_;try clear h;refine⟨l,du_dht.trans ((bH ?_).trans ?_)⟩
  ·rw[aM (show(fY C).length+(fY (a.map fun x=>(b,x))).length<=ak by unfold fY;rw[bI,bI,bI];have lc:C.length+3<=ak:=lc;lia)]
   rfl
  ·rw[←cd_app]
   rfl
 |iP c ht q=>
  refine rU (h) fun h0 h1 h2 h3 h4=>?_;try clear h
  rcases F with _|⟨c',ht',q'⟩
  ·exact⟨true,Xl h0 Ah⟩
  ·exact⟨true,Xm h0 (by lia)⟩
 |sV rows st e hi a=>
  refine⟨l,(du_sos frO_is).trans ((Xp (t:=⟨W,F,s,Q,C,I⟩) h hF).trans (QJ ?_))⟩;refine pS (h) fun h0 h1 h2 h3 h4 h5=>?_;try clear h;have:=Dz (t:=⟨W,F,s,Q,C,I⟩) (st:=st) (e:=e) (hi:=hi) (l:=a) h0.most (by exact uf h4)
  lia
theorem QK{j:Nat}(h:r.Ok)(lx:xs.length<=100)(f:FY t j)(hj:j<=100):
  ∃l',aC (ED qA 29) dB (B9 l ⟨.int (j:Nat),.str r.name,r.told,p,d⟩ xs t) K=K .aL (B9 l' ⟨.int (j:Nat),.str r.name,r.told,p,d⟩ xs (lV (j:Nat) (xs.length:Nat) t r)):=by
 have hs:ak=1000000:=rfl;refine oA (Xo h) fun n1 n2=>?_;have f1:=f.w;have f2:=f.q;have f3:=f.c;have lw:(kr (j:Nat) (xs.length:Nat) (r.code:Nat) t.W).length<=t.W.length+2:=mu ki;refine oE (du_t (l:=l) (r:=r) (j:= .int (j:Nat)) (p:=p) (d:=d) (xs:=xs) (t:= {t with W:=kr (j:Nat) (xs.length:Nat) (r.code:Nat) t.W}) (K:=K) h f.fr (aI (eX (aI (mu ki) (eX (aI f.w (jj 40 hj)) 2)) 20) (by decide)) (aI (eX (aI f.q (jj 3 hj)) 3) (by decide)) (aI (eX (aI f.c (jj 3 hj)) 3) (by decide))) fun l' e=>?_;refine⟨l',?_⟩;rw[show dB=dB.take 2++dB.drop 2 from(List.take_append_drop 2 dB).symm,bK];refine(du_h (by lia) (by lia)).trans ?_;rw[n1,n2];exact e
theorem Xq(lx:xs.length<=100):∀(R:List bF) (j:Nat) (t:FS) (l:Bool) (x:R5),j+R.length<=100->(∀r,r∈R->r.Ok)->FY t j->
  ∃l' x',bO (ED qA 29) dT dB (iC (j:Nat) (R.map aB)) (B9 l x xs t) K=K .aL (B9 l' x' xs (oR (xs.length:Nat) j t R)):=by
 intro x0
 induction x0 with
 |nil=>
  intro j t l x _ _ _;exact⟨l,x,rfl⟩
 |cons r R ih=>
  intro j t l x hj hr f;have hj:j+(R.length+1)<=100:=hj;refine oE (QK (l:=l) (r:=r) (j:=j) (p:= .bytes r.w5) (d:= .bytes r.dat) (xs:=xs) (t:=t) (K:=G7 qA (iC ((j:Int)+1) (R.map aB)) K) (hr r (.head _)) lx f (by lia)) fun l1 e1=>?_;refine tD (ih (j+1) (lV (j:Nat) (xs.length:Nat) t r) l1 ⟨.int (j:Nat),.str r.name,r.told,.bytes r.w5,.bytes r.dat⟩ (by lia) (fun x m=>hr x (.tail _ m)) (ve (hr r (.head _)) f)) fun l2 x2 e2=>?_;exact⟨l2,x2,du_b.trans (e1.trans e2)⟩
theorem Xr{R:List bF}(h0:0<R.length)(h1:R.length<=100)(h:∀r,r∈R->r.Ok):
  cj (TD qA) (tm []) consts fD [.lst (R.map aB)] k=k ⟨.lst (mZ R),true,[]⟩:=by
 match R,h0,h with
 |r::R,_,h=>
  have hs:ak=1000000:=rfl;have l1:((r::R).map aB).length=(r::R).length:=bI _;have lx:((r::R).map aB).length<=100:=by rw[l1];exact h1
  have h1:R.length+1<=100:=h1;have f':=ve (pl:=(0:Nat)) (many:=(((r::R).map aB).length:Nat)) (h r (.head _)) NQ;have g:=Jz (many:=(((r::R).map aB).length:Nat)) (fun x m=>h x (.tail _ m)) f';refine oE (QK (l:=false) (r:=r) (j:=0) (p:= .bytes r.w5) (d:= .bytes r.dat) (xs:=(r::R).map aB) (t:=yF) (K:=G7 qA (iC (1:Int) (R.map aB)) (dZ (ED qA 30) [] (dZ (ED qA 30) (fD.body.drop 2) (bh fD k)))) (h r (.head _)) lx NQ (by exact iS 100)) fun la e1=>?_;obtain⟨lb,x,e2⟩:=Xq lx (K:=dZ (ED qA 30) [] (dZ (ED qA 30) (fD.body.drop 2) (bh fD k))) R 1 (lV (0:Nat) (((r::R).map aB).length:Nat) yF r) la ⟨.int (0:Nat),.str r.name,r.told,.bytes r.w5,.bytes r.dat⟩ (by lia) (fun x m=>h x (.tail _ m)) f';rw[iI 2];show aC (ED qA 30) (fD.body.take 1++[Hd.d7 fD.body 1]) _ _=_;rw[bK];refine du0.trans ?_;show aC (ED qA 30) [Hd.d7 fD.body 1] _ _=_;refine du1.trans (du_a.trans (e1.trans (e2.trans ?_)));unfold mZ;rw[←l1];show aC (ED qA 30) [Hd.d7 fD.body 2] (B9 lb x _ (oR (((r::R).map aB).length:Nat) 1 (lV (0:Nat) (((r::R).map aB).length:Nat) yF r) R)) (bh fD k)=k ⟨.lst (Tp (oR (((r::R).map aB).length:Nat) 1 (lV (0:Nat) (((r::R).map aB).length:Nat) yF r) R)),true,[]⟩;generalize oR (((r::R).map aB).length:Nat) 1 (lV (0:Nat) (((r::R).map aB).length:Nat) yF r) R=t at g;obtain⟨W,F,s,Q,C,I⟩:=t;have gw:W.length<=40 * (0+1+R.length):=g.w
  rcases F with _|⟨c,ht,q⟩
  ·exact du2n (W:=W) (by lia)
  ·exact du2s (W:=W) (by lia)
end
set_option tactic.hygienic true
inductive Itm where
 |s (x:Str)
 |i (v:Int)
noncomputable def Itm.str:Itm->Str
 | .s x=>x
 | .i v=>Str.ofString (toString v)
def Itm.ok:Itm->Bool
 | .s x=>decide (x.length<=100)
 | .i v=>strOk v
noncomputable def jV:List Itm->Str->(Str->Option aJ)->Option aJ
 | [],acc,k=>k acc
 | .s x::r,acc,k=>gd [(decide (acc.length+x.length<=ak),true)] (jV r (acc++x) k)
 | .i v::r,acc,k=>gd [(small v,true),(decide (acc.length+(Str.ofString (toString v)).length<=ak),true)] (jV r (acc++Str.ofString (toString v)) k)
noncomputable def nT:List Itm->Str->Str
 | [],acc=>acc
 |x::r,acc=>nT r (acc++x.str)
theorem Lx{x:Itm}(h:x.ok=true):x.str.length<=100:=by
 induction x using Itm.casesOn with
 |s x=>exact bx h
 |i v=>exact bx (jv h).2
theorem pM:∀{l:List Itm} {acc:Str},l.all Itm.ok=true->(nT l acc).length<=acc.length+100 * l.length:=by
 intro x0
 induction x0 with
 |nil=>
  intro _ _;exact gK _
 |cons x r ih=>
  intro acc h;refine oA (jv h) fun a b=>?_;refine aI (ih b) ?_;rw[iu,jl];have:=Lx a
  lia
theorem rH{k:Str->Option aJ}:∀{l:List Itm} {acc:Str},l.all Itm.ok=true->acc.length+100 * l.length<=ak->jV l acc k=k (nT l acc):=by
 intro x0
 induction x0 with
 |nil=>
  intro _ _ _;exact rfl
 |cons x r ih=>
  intro acc h len;refine oA (jv h) fun a b=>?_;rw[jl]at len;have q:=Lx a;refine Eq.trans ?_ (ih (acc:=acc++x.str) b (by rw[iu];lia))
  induction x using Itm.casesOn with
  |s x=>exact bH (by rw[aM (show acc.length+x.length<=ak by show acc.length+(Itm.s x).str.length<=_;lia)];rfl)
  |i v=>exact bH (by rw[(jv a).1,aM (show acc.length+(Str.ofString (toString v)).length<=ak by show acc.length+(Itm.i v).str.length<=_;lia)];rfl)
abbrev fFt:Fn:=uU
abbrev Tu:bw:=cj (tl yz) (tm mN) consts fFt
noncomputable def DB:List Nat->List Nat->List Itm
 |i::is,q::qs=> .s ", ":: .i (i:Nat):: .s ": ":: .s "1 x 1":: .s " table ":: .i (q:Nat)::DB is qs
 |_,_=>[]
def Vq(h:Nat):List Itm:=[.s " x ",.i (hh h),.s ", ",.i 8,.s " bits"]
theorem ft_run{c:Int}{h:Nat}{q:List Nat}{k:Spec->Option aJ}(l1:0<q.length)(l2:q.length<=3):
  Tu [.int c,.bytes (Aa h q)] k=gd (NI c h q) (jV (Vq h++DB [1,2,7] q) "4" fun s=>k ⟨.str s,false,[]⟩):=
 iJ l1 l2 (fun _=>by kernel_rfl!) (fun _ _=>by kernel_rfl!) (fun _ _ _=>by kernel_rfl!)
set_option tactic.hygienic false
section
abbrev fTt:Fn:=sX
abbrev JA:bw:=cj (tl wY) (tm mN) consts fTt
noncomputable def ET:List (Str×List Itm)->(List Str->Option aJ)->Option aJ
 | [],k=>k []
 |(s,l)::r,k=>jV l s fun x=>ET r fun xs=>k (x::xs)
def DC(ss:List Str)(k:Str→Option aJ):Option aJ:=gd [(decide (iE (", ":Str).length ss≤ak),true)] (k (jH ", " ss))
noncomputable def qI(x:Nat):Str×List Itm:=("slot ",[.i (x:Nat),.s " of ",.i 8,.s " bits"])
variable{l:List Nat}{k:Spec->Option aJ}
theorem tt_q(l1:0<l.length)(l2:l.length<=3):
  JA [.int 219,.bytes (EK l),.int 2] k=gd (l.map fun a=>(Nat.ble a 3,true)) (ET (l.map qI) fun ss=>DC ss fun s=>k ⟨.str s,true,[]⟩):=
 iJ l1 l2 (fun _=>by kernel_rfl!) (fun _ _=>by kernel_rfl!) (fun _ _ _=>by kernel_rfl!)
noncomputable def hI(x:Nat):List Itm:=[.i ((x:Int).fmod 16),.s " of ",.i 1,.s " codes"]
noncomputable def G8:List Nat->(List Str->Option aJ)->Option aJ
 | [],k=>k []
 |x::r,k=>cond (decide ((x:Int).fdiv 16=1)) (jV (hI x) "ac " fun s=>G8 r fun ss=>k (s::ss)) (jV (hI x) "dc " fun s=>G8 r fun ss=>k (s::ss))
theorem tt_h(l1:0<l.length)(l2:l.length<=3):
  JA [.int 196,.bytes (EM l),.int 2] k=gd (l.flatMap hT) (G8 l fun ss=>DC ss fun s=>k ⟨.str s,true,[]⟩):=
 iJ l1 l2 (fun _=>by kernel_rfl!) (fun _ _=>by kernel_rfl!) (fun _ _ _=>by kernel_rfl!)
abbrev Bu:Fn:=v5
abbrev spSt:bw:=cj (tl qo) (tm mN) consts Bu
noncomputable def rowI(p:Nat×Nat):Str×List Itm:=(Str.ofString (toString (p.1:Int)),[.s ": ",.i ((p.2:Int).fdiv 16),.s " ",.i ((p.2:Int).fmod 16)])
noncomputable def NU:List (Nat×Nat)->(List Str->Option aJ)->Option aJ
 | [],k=>k []
 |p::r,k=>gd [(small (p.1:Int),true)] (jV (rowI p).2 (rowI p).1 fun x=>NU r fun xs=>k (x::xs))
abbrev EvT(n:Nat):Ev:=EV (tl qo) (tm mN) Bu n
def stT(w5 data:List Nat)(head kC NV:MV)(t:Str):St:=⟨[⟨Bu.sc,[("payload",.bytes w5),("data",.bytes data),("head",head),("parts",NV),("at",kC),("told",.str t)]⟩],[]⟩
noncomputable def AS(st e x:Nat):List Itm:=[.s ", band ",.i (st:Nat),.s " to ",.i (e:Nat)]
noncomputable def AU(x:Nat):List Itm:=[.s ", bits ",.i ((x:Int).fdiv 16),.s " to ",.i ((x:Int).fmod 16)]
theorem st_a{rows:List (Nat×Nat)}{st e x:Nat}{data:List Nat}{K:cI->St->Option aJ}(l1:0<rows.length)(l2:rows.length<=3):
  aC (EvT 30) (Bu.body.take 5) (ez Bu [.bytes (tB rows st e x),.bytes data]) K=gd (Tj rows) (Dw [] (decide ((st:Int)<=63)) (decide ((e:Int)<=63)) (gd [(decide (0<=(x:Int).fdiv 16),true)] (Dw [(decide (0<=(x:Int).fmod 16),true)] (decide ((x:Int).fdiv 16<=15)) (decide ((x:Int).fmod 16<=15))
   (NU rows fun ss=>DC ss fun t=>jV (AS st e x++AU x) t fun t=>K .aL (stT (tB rows st e x) data (Ag rows st e x) (.int ((rows.length - 1:Nat):Int)) (.lst (ss.map .str)) t))))):=
 iJ l1 l2 (fun _=>by kernel_rfl!) (fun _ _=>by kernel_rfl!) (fun _ _ _=>by kernel_rfl!)
theorem st_b{w5:List Nat}{head kC NV:MV}{t:Str}(hl:jC l.length=true):
  aC (EvT 30) (Bu.body.drop 5) (stT w5 (gj l) head kC NV t) (bh Bu k)=jV [.s ", intervals "] t fun t=>gd (lZ l) (jV [.i ((l.length+1:Nat):Int),.s ", octets ",.i ((gj l).length:Nat)] t fun t=>k ⟨.str t,true,[]⟩):=
 tZ hl (by kernel_rfl!) (fun _=>by kernel_rfl!) (fun _ _ _=>by kernel_rfl!) (fun _ _ _ _ _ _ _ _ _ _=>by kernel_rfl!)
end
section
theorem KP{dK:Str}:∀{l:List Str},(jH dK l).length<=iE dK.length l:=by
 intro x1
 induction x1 with
 |nil=>
  exact iS _
 |cons x c2 dR=>
  induction c2 using List.casesOn with
  |nil=>
   show x.length<=x.length+dK.length+0;lia
  |cons y r=>
   refine(?_:(x++(dK++jH dK (y::r))).length<=x.length+dK.length+iE dK.length (y::r));rw[iu,iu];have:=dR
   lia
def JB(sp:bw)(args:List MV):Prop:=∀k:Spec->Option aJ,∃s fr,s.length<=20000/\sp args k=k ⟨.str s,fr,[]⟩
def Ai(f:(List Str->Option aJ)->Option aJ)(n:Nat):Prop:=∀k,∃ss,iE 2 ss<=3000 * n/\f k=k ss
theorem Ai.nil:Ai (fun k=>k []) 0:=fun k=>⟨[],gK _,rfl⟩
theorem Ai.cons{f:(List Str->Option aJ)->Option aJ}{n:Nat}{s:Str}{l:List Itm}(h:Ai f n)(hs:s.length<=100)(hl:l.all Itm.ok=true)(hn:l.length<=20)(k:List Str->Option aJ):
  ∃ss,iE 2 ss<=3000 * (n+1)/\jV l s (fun x=>f fun xs=>k (x::xs))=k ss:=by
 have hz:ak=1000000:=rfl;refine aH (h fun xs=>k (nT l s::xs)) fun ss a b=>?_;have:=pM (l:=l) (acc:=s) hl;exact⟨nT l s::ss,by show(nT l s).length+2+iE 2 ss<=_;lia,(rH hl (by lia)).trans b⟩
theorem Tv:∀{L:List (Str×List Itm)},(∀p,p∈L->p.1.length<=100/\p.2.all Itm.ok=true/\p.2.length<=20)->Ai (ET L) L.length:=by
 intro x0
 induction x0 with
 |nil=>
  intro _;exact .nil
 |cons gA r ih=>
  rcases gA with⟨s,l⟩
  intro h;exact(ih fun p m=>h p (.tail _ m)).cons (h _ (.head _)).1 (h _ (.head _)).2.1 (h _ (.head _)).2.2
theorem each_h:∀{l:List Nat},(∀x,x∈l->strOk ((x:Int).fmod 16)=true)->Ai (G8 l) l.length:=by
 intro x0
 induction x0 with
 |nil=>
  intro _;exact .nil
 |cons x r ih=>
  intro h;exact fun k=>by
   have e:(hI x).all Itm.ok=true:=by
    refine(?_:(strOk ((x:Int).fmod 16)&&_)=true);rw[h x (.head _)]
    decide +kernel
   refine(?_:∃ss,_/\cond (decide ((x:Int).fdiv 16=1)) _ _=_);cases decide ((x:Int).fdiv 16=1)
   ·exact(ih fun y m=>h y (.tail _ m)).cons (by decide +kernel) e (by exact Nat.le_add_left 4 16) k
   ·exact(ih fun y m=>h y (.tail _ m)).cons (by decide +kernel) e (by exact Nat.le_add_left 4 16) k
theorem each_r:∀{l:List (Nat×Nat)},(∀p,p∈l->strOk (p.1:Int)=true/\strOk ((p.2:Int).fdiv 16)=true/\strOk ((p.2:Int).fmod 16)=true)->Ai (NU l) l.length:=by
 intro x0
 induction x0 with
 |nil=>
  intro _;exact .nil
 |cons p r ih=>
  intro h;exact fun k=>by
   refine dh (h p (.head _)) fun h1 h2 h3=>?_;refine(?_:∃ss,_/\gd [(small (p.1:Int),true)] _=_);rw[(jv h1).1];refine(ih fun y m=>h y (.tail _ m)).cons (bx (jv h1).2) ?_ (by exact Nat.le_add_left 4 16) k;refine(?_:(_&&(strOk ((p.2:Int).fdiv 16)&&(_&&(strOk ((p.2:Int).fmod 16)&&true))))=true);rw[h2,h3]
   decide +kernel
theorem Aj{f:(List Str->Option aJ)->Option aJ}{n:Nat}(h:Ai f n)(hn:n<=3)(k:Str->Option aJ):∃s,s.length<=9000/\f (fun ss=>DC ss k)=k s:=by
 have hz:ak=1000000:=rfl;have z2:(", ":Str).length=2:=by decide +kernel
 obtain⟨ss,a,b⟩:=h fun ss=>DC ss k;have q:(jH ", " ss).length≤iE (", ":Str).length ss:=KP;rw[z2]at q;refine⟨jH ", " ss,by lia,b.trans (bH ?_)⟩;rw[z2,aM (by lia)]
 rfl
theorem DE:∀j:Nat,j<64->strOk (j:Int)=true:=by decide +kernel
theorem Tw : ∀ {a q : List Nat}, (∀ x, x ∈ a → x < 10) → (∀ x, x ∈ q → x < 10) → (DB a q).all Itm.ok = true ∧ (DB a q).length ≤ 6 * q.length := by
  intro x1
  induction x1 with
  | nil =>
    intro _ _ _
    exact ⟨rfl, iS _⟩
  | cons i is dR =>
    intro x2
    induction x2 using List.casesOn with
    | nil =>
      intro _ _
      exact ⟨rfl, iS _⟩
    | cons q qs =>
      intro h1 h2
      refine oA (dR (q := qs) (fun x m => h1 x (.tail _ m)) fun x m => h2 x (.tail _ m)) fun a9 b => ?_
      try clear a
      revert a9; intro a
      refine ⟨?_, by show (DB is qs).length + 6 ≤ 6 * (qs.length + 1); lia⟩
      refine (?_ : (_ && (strOk (i : Int) && (_ && (_ && (_ && (strOk (q : Int) && (DB is qs).all Itm.ok)))))) = true)
      rw [a, strN i (h1 i (.head _)), strN q (h2 q (.head _))]
      decide +kernel
theorem NW {c : Int} {h : Nat} {q : List Nat} (hc : cu c = true) (hh4 : h ≤ 4) (l1 : 0 < q.length) (l2 : q.length ≤ 3) (l3 : ∀ x, x ∈ q → x ≤ 3) : JB Tu [.int c, .bytes (Aa h q)] := fun k => by
  have hz : ak = 1000000 := rfl
  refine oA (Tw (a := [1, 2, 7]) (q := q) (by decide) fun x m => by have := l3 x m; lia) fun a9 b => ?_
  try clear a
  revert a9; intro a
  have e : (Vq h ++ DB [1, 2, 7] q).all Itm.ok = true := by
    rw [List.all_append, a]
    refine (?_ : (_ && (strOk (hh h) && _)) && true = true)
    rw [G4, strN h (by lia)]
    decide +kernel
  have l4 : ("4" : Str).length = 1 := by decide +kernel
  have l5 : (Vq h ++ DB [1, 2, 7] q).length ≤ 23 := by rw [cG]; show 5 + _ ≤ _; lia
  have l6 := pM (acc := "4") e
  exact ⟨nT (Vq h ++ DB [1, 2, 7] q) "4", false, by lia, (ft_run l1 l2).trans ((bH (EN hc (aI hh4 (by decide)) l3)).trans (rH e (by lia)))⟩
variable{l:List Nat}
theorem says_q(l1:0<l.length)(l2:l.length<=3)(l3:∀x,x∈l->x<=3):JB JA [.int 219,.bytes (EK l),.int 2]:=fun k=>by
 obtain⟨s,a,b⟩:=Aj (Tv (L:=l.map qI) fun p m=>by
  refine aH (jr.mp m) fun x m' o2=>?_;clear m;obtain rfl:=o2;refine⟨by show("slot ":Str).length≤100;decide +kernel,?_,by exact Nat.le_add_left 4 16⟩;refine(?_:(strOk (x:Int)&&_)=true);rw[strN x (by have:=l3 x m';lia)]
  decide +kernel) (by rw[bI];exact l2) fun s=>k ⟨.str s,true,[]⟩
 refine⟨s,true,by lia,(tt_q l1 l2).trans ((bH (ry fun x m=>EE (Nat.ble_eq_true_of_le (l3 x m)))).trans b)⟩
theorem says_h{k:Nat}(hk:k<=1)(l1:0<l.length)(l2:l.length<=3)(l3:∀x,x∈l->x<=3):JB JA [.int 196,.bytes (EM (l.map (16 * k+ ·))),.int 2]:=fun K=>by
 have lm:(l.map (16 * k+ ·)).length=l.length:=bI _;obtain⟨s,a,b⟩:=Aj (each_h (l:=l.map (16 * k+ ·)) fun y m=>by
  refine aH (jr.mp m) fun x m' o2=>?_;clear m;obtain rfl:=o2;have:=l3 x m';rw[oO k x (by lia)];exact strN x (by lia)) (by rw[lm];exact l2) fun s=>K ⟨.str s,true,[]⟩
 refine⟨s,true,by lia,(tt_h (by rw[lm];exact l1) (by rw[lm];exact l2)).trans ((bH (Vb fun y m=>?_)).trans b)⟩;obtain⟨x,m',rfl⟩:=jr.mp m;have:=l3 x m';rw[qu k x (by lia),oO k x (by lia)];exact⟨Int.ofNat_le.mpr hk,Int.ofNat_le.mpr this⟩
theorem QM{rows:List R3}{st e hi:Nat}(h:(bF.sV rows st e hi l).Ok):JB spSt [.bytes (tB (rows.map rb) st e (16 * hi+0)),.bytes (gj (gV l))]:=fun k=>by
 have hz:ak=1000000:=rfl;refine pS (h) fun h0 h1 h2 h3 h4 h5=>?_;try clear h;have lm:(rows.map rb).length=rows.length:=bI _;have ln:(gV l).length=l.length:=bI _;have l10:l.length<=10:=uf h4
 have ld:∀l:List Nat,(gj l).length=3 * l.length+3:=by
  intro l
  induction l with
  |nil=>rfl
  |cons x r ih=>
   have ih:(xR r).length+1+1+1=3 * r.length+3:=ih;refine(?_:(xR r).length+1+1+1+1+1+1=3 * (r.length+1)+3);exact bq (· +3) ih
 have e1:(AS st e (16 * hi+0)++AU (16 * hi+0)).all Itm.ok=true:=by
  refine(?_:(_&&(strOk (st:Int)&&(_&&(strOk (e:Int)&&(_&&(strOk (((16 * hi+0:Nat):Int).fdiv 16)&&(_&&(strOk (((16 * hi+0:Nat):Int).fmod 16)&&true))))))))=true);rw[qu _ _ (by decide),oO _ _ (by decide),DE st (Nat.lt_succ_of_le h1),DE e (Nat.lt_succ_of_le h2),strN hi (kJ h3 (by decide))]
  decide +kernel
 have e2:([.i (((gV l).length+1:Nat):Int),.s ", octets ",.i ((gj (gV l)).length:Nat)]:List Itm).all Itm.ok=true:=by
  refine(?_:(strOk (((gV l).length+1:Nat):Int)&&(_&&(strOk ((gj (gV l)).length:Int)&&true)))=true);rw[ld,ln,DE _ (kJ (eX l10 1) (by decide)),DE _ (kJ (eX (jj 3 l10) 3) (by decide))]
  decide +kernel
 have e3:([.s ", intervals "]:List Itm).all Itm.ok=true:=by decide +kernel
 let c3:Str->Option aJ:=fun t=>k ⟨.str t,true,[]⟩
 let c2:Str→Option aJ:=fun t=>gd (lZ (gV l)) (jV [.i (((gV l).length+1:Nat):Int),.s ", octets ",.i ((gj (gV l)).length:Nat)] t c3)
 refine aH (Aj (each_r (l:=rows.map rb) fun y m=>by
  refine aH (jr.mp m) fun x m' o2=>?_;clear m;obtain rfl:=o2;refine dh (h0.each x m') fun c1 c2 c3=>?_;refine(?_:strOk ((x.1:Nat):Int)=true∧strOk (((16 * x.2.1+x.2.2:Nat):Int).fdiv 16)=true∧strOk (((16 * x.2.1+x.2.2:Nat):Int).fmod 16)=true);rw[qu _ _ (by lia),oO _ _ (by lia)];exact⟨strN _ (by lia),strN _ (by lia),strN _ (by lia)⟩) (by rw[lm];exact h0.most) fun t=>jV (AS st e (16 * hi+0)++AU (16 * hi+0)) t fun t=>jV [.s ", intervals "] t c2) fun s a b=>?_
 have f1:(nT (AS st e (16 * hi+0)++AU (16 * hi+0)) s).length≤_:=pM e1;have f2:(nT [.s ", intervals "] (nT (AS st e (16 * hi+0)++AU (16 * hi+0)) s)).length≤_:=pM e3;have f3:(nT [.i (((gV l).length+1:Nat):Int),.s ", octets ",.i ((gj (gV l)).length:Nat)] (nT [.s ", intervals "] (nT (AS st e (16 * hi+0)++AU (16 * hi+0)) s))).length≤_:=pM e2;have f1:_≤s.length+800:=f1;have f2:_≤_+100:=f2;have f3:_≤_+300:=f3;refine⟨_,true,aI f3 (by lia),?_⟩;refine(?_:cj (tl qo) (tm mN) consts Bu _ k=_);rw[iI 5];refine(st_a (by rw[lm];exact h0.one) (by rw[lm];exact h0.most)).trans ((bH (Lr h0)).trans ((xV rfl (aM (by lia)) (aM (by lia))).trans ((bH (by rw[qu _ _ (by decide),aM (by lia)];rfl)).trans ((xV (by rw[oO _ _ (by decide)];rfl) (aM (by rw[qu _ _ (by decide)];lia)) (by rw[oO _ _ (by decide)];rfl)).trans ?_))));have g:∀ss t,dZ (EvT 30) (Bu.body.drop 5) (bh Bu k) .aL (stT (tB (rows.map rb) st e (16 * hi+0)) (gj (gV l)) (Ag (rows.map rb) st e (16 * hi+0)) (.int (((rows.map rb).length - 1:Nat):Int)) (.lst (List.map .str ss)) t)=jV [.s ", intervals "] t c2:=fun ss t=>st_b (by rw[ln];exact h4);simp only[g];refine b.trans ((rH e1 (by show _+800≤_;lia)).trans ((rH e3 (by show _+100≤_;lia)).trans ((bH (EP h5).1).trans (rH e2 (by show _+300≤_;lia)))))
end
section
variable{k:Spec->Option aJ}
theorem Tz{l:List Int}(h:l.length<=63):∃a b,cj (tl rN) (tm mN) consts nI [.lst (l.map .int),.int 0] k=k ⟨bJ a b,true,[]⟩:=by
 match l,h with
 | [],_=>exact⟨0,820607,by kernel_rfl!⟩
 |x::r,h=>
  let m:Int:=cond (decide (x< -1 - x)) (-1 - x) x
  let c:Int:=cond (decide (1000000000000000000<=m)) 1 0
  refine⟨m * c,((m.fmod 2147483629+7919 * 0 * 0+31 * 0+17) * 48271).fmod 2147483647,?_⟩;refine(show _=gd [(decide (((x::r).map MV.int).length<=ak),true)] (cond (decide (0<(((x::r).map MV.int).length:Int))) (gd [(eZ 0&&(decide (-(((x::r).map MV.int).length:Int)<=0)&&decide (0<(((x::r).map MV.int).length:Int))),true),
   (small (m.fmod 2147483629+7919 * 0 * 0+31 * 0+17)||small 48271,true),(small m||small c,true)] (k ⟨bJ (m * c) (((m.fmod 2147483629+7919 * 0 * 0+31 * 0+17) * 48271).fmod 2147483647),true,[]⟩)) (k ⟨bJ 0 820607,true,[]⟩))by kernel_rfl!).trans ?_
  have l1:((x::r).map MV.int).length=(x::r).length:=bI _;have h:r.length+1<=63:=h;have l2:((x::r).map MV.int).length<=63:=by rw[l1];exact h
  have l3:0<((x::r).map MV.int).length:=by rw[l1];exact kg _
  have c1:small c=true:=by show small (cond (decide (1000000000000000000<=m)) 1 0)=true;cases decide (1000000000000000000<=m)<;>rfl
  rw[aM (show((x::r).map MV.int).length<=ak from aI l2 (by decide)),aM (Int.natCast_pos.mpr l3),aM (show -(((x::r).map MV.int).length:Int)<=0 by exact Int.neg_natCast_le_ofNat (List.map MV.int (x::r)).length 0),c1,Bool.or_comm (small _) (small 48271),Bool.or_comm (small m) true]
  rfl
abbrev rJ:Stmt->Expr:=Df
def AV(e:Expr):Expr:=(FO e).e
def w7(e:Expr):List Comprehension:=(FO e).g
def wg(e:Expr):Scope:=(FO e).sc.getD nI.sc
def kq(self:Ev)(e:Expr)(items:List MV)(f:Fr)(ow:List (Str×MV))(k:MV->St->Option aJ):Option aJ:=
 lF self (AV e) (w7 e) items ⟨[⟨wg e,[]⟩,f],ow⟩ [] fun au acc=>match au.fr with
  |_::fr=>k (.lst acc) {au with fr:=fr}
  | []=>none
noncomputable def dr(o:j8)(t:Int):Nat->Int->Int->List Int
 |0,_,_=>[]
 |n+1,a,b=>o.D a b t::dr o t n (o.A a b t) (o.B a b t)
noncomputable def QN(o:j8)(t:Int):Nat->Int->Int->Int
 |0,a,_=>a
 |n+1,a,b=>QN o t n (o.A a b t) (o.B a b t)
noncomputable def QO(o:j8)(t:Int):Nat->Int->Int->Int
 |0,_,b=>b
 |n+1,a,b=>QO o t n (o.A a b t) (o.B a b t)
noncomputable def xd(l:List Nat):List Int:=l.map fun(x:Nat)=>(x:Int)
theorem QS{t:Nat}(ht:0<t):∀(n:Nat) (a b:Int),∃l:List Nat,l.length=n/\(∀x,x∈l->x<t)/\dr bf t n a b=xd l:=by
 intro x0
 induction x0 with
 |zero=>
  intro _ _;exact⟨[],rfl,fun _ m=>(nomatch m),rfl⟩
 |succ n ih=>
  intro a b;refine gO (ih (bf.A a b t) (bf.B a b t)) fun l h1 h2 h3=>?_;refine oA (draw (a:=a) (b:=b) (t:=t) (Int.natCast_pos.mpr ht)) fun g1 g2=>?_;refine oE (Int.eq_ofNat_of_zero_le g1) fun d e=>?_;rw[e]at g2;refine⟨d::l,bq Nat.succ h1,fun x m=>?_,?_⟩
  ·rcases cC.mp m with rfl|m
   ·exact Int.ofNat_lt.mp g2
   ·exact h2 x m
  ·show bf.D a b t::_=_
   rw[e,h3]
   rfl
variable{a b:Int}
theorem few:∃n:Nat,(1+bf.D a b 3).toNat=n+1/\n+1<=3/\(decide (0<=1+bf.D a b 3)&&decide (1+bf.D a b 3<100000))=true:=by
 refine oA (draw (a:=a) (b:=b) (t:=3) (by decide)) fun g1 g2=>?_;refine oE (Int.eq_ofNat_of_zero_le g1) fun d e=>?_;rw[e]at g2 ⊢;rw[Int.add_comm];have g3:d<3:=Int.ofNat_lt.mp g2;refine⟨d,rfl,g3,?_⟩;exact bk.mpr ⟨aM (oH (d+1)),aM (Int.ofNat_lt.mpr (kJ g3 (by decide):d+1<100000))⟩
abbrev Bv(o:j8):fE:=tl [(.ofString "_law_take",eK j7 (Ji o))]
abbrev fQ:Fn:=uW
abbrev EQ(o:j8)(n:Nat):Ev:=EV (Bv o) (tm []) fQ n
def QT(self:Fn)(T:fE)(x:Str)(K:cI->St->Option aJ)(v:MV)(st:St):Option aJ:=kR ⟨T,tm [],consts,self.mv,lG self.ps self.ms,self.ba⟩ x v true st fun st=>K .aL st
variable{o:j8}{K:cI->St->Option aJ}
theorem q0:aC (EQ o 30) (fQ.body.take 1) (ez fQ [bJ a b]) K=gd [(decide (0<=1+o.D a b 3)&&decide (1+o.D a b 3<100000),true)]
  (kq (EQ o 28) (rJ (Hd.d7 fQ.body 0)) (cH (1+o.D a b 3).toNat 0) ⟨fQ.sc,[("source",.own "source")]⟩ [("source",bJ (o.A a b 3) (o.B a b 3))] (QT fQ (Bv o) "slots" K)):=by kernel_rfl!
def stQ(a b:Int)(l:List MV):St:=⟨[⟨fQ.sc,[("source",.own "source"),("slots",.lst l)]⟩],[("source",bJ a b)]⟩
variable{n:Nat}
theorem q1(h:n+1≤3):kq (EQ o 28) (rJ (Hd.d7 fQ.body 0)) (cH (n+1) 0) ⟨fQ.sc,[("source",.own "source")]⟩ [("source",bJ a b)] (QT fQ (Bv o) "slots" K) =
  K .aL (stQ (QN o 4 (n+1) a b) (QO o 4 (n+1) a b) ((dr o 4 (n+1) a b).map .int)):=by
 exact lt3 (show n<3 from h) (by kernel_rfl!) (by kernel_rfl!) (by kernel_rfl!)
def qT(x:Nat):Bool×Bool:=(mG [.int (x:Nat),.int 1,.int 2,.int 3,.int 4]&&true,true)
variable{l:List Nat}
theorem q2(l1:0<l.length)(l2:l.length<=3):aC (EQ o 30) (fQ.body.drop 1) (stQ a b (gC l)) (bh fQ k)=gd (l.map qT) (k ⟨aB (.eU l),true,[bJ a b]⟩):=
 iJ l1 l2 (fun _=>by kernel_rfl!) (fun _ _=>by kernel_rfl!) (fun _ _ _=>by kernel_rfl!)
theorem NX:∃l a' b',(bF.eU l).Ok/\∀k:Spec->Option aJ,cj (tl ql) (tm mN) consts fQ [bJ a b] k=k ⟨aB (.eU l),true,[bJ a' b']⟩:=by
 refine gO (few (a:=a) (b:=b)) fun n h1 h2 h3=>?_;refine gO (QS (t:=4) (by decide) (n+1) (bf.A a b 3) (bf.B a b 3)) fun l g1 g2 g3=>?_;refine⟨l,QN bf 4 (n+1) (bf.A a b 3) (bf.B a b 3),QO bf 4 (n+1) (bf.A a b 3) (bf.B a b 3),⟨by rw[g1];exact kg _,by rw[g1];exact h2,fun x m=>Nat.le_of_lt_succ (g2 x m)⟩,fun k=>?_⟩;rw[iI 1];show aC (EQ bf 30) (fQ.body.take 1) _ _=_;rw[q0,h3,h1];refine(q1 h2).trans ?_;have g3:dr bf 4 (n+1) (bf.A a b 3) (bf.B a b 3)=xd l:=g3;rw[g3];show aC (EQ bf 30) (fQ.body.drop 1) (stQ _ _ ((xd l).map .int)) (bh fQ k)=_;rw[show(xd l).map .int=gC l from List.map_map];refine(q2 (by rw[g1];exact kg _) (by rw[g1];exact h2)).trans (bH (ry fun x m=>?_));have:=g2 x m;show cond (decide (0<=(x:Int))&&decide ((x:Int)<=255)&&true&&true) true false=true;rw[aM (oH x),aM (by lia)]
 rfl
abbrev tL:Fn:=v7
abbrev Ly(o:j8)(n:Nat):Ev:=EV (Bv o) (tm []) tL n
def TA(kd:Nat)(ex:List (Str×MV)):Fr:=⟨tL.sc,([("source",.own "source"),("kind",.int (kd:Nat))]:List (Str×MV))++ex⟩
def TF(kd:Nat)(a b:Int)(l:List MV):St:=⟨[TA kd [("slots",.lst l)]],[("source",bJ a b)]⟩
variable{kd:Nat}
theorem co0:aC (Ly o 30) (tL.body.take 1) (ez tL [bJ a b,.int (kd:Nat)]) K=gd [(decide (0<=1+o.D a b 3)&&decide (1+o.D a b 3<100000),true)]
  (kq (Ly o 28) (rJ (Hd.d7 tL.body 0)) (cH (1+o.D a b 3).toNat 0) (TA kd []) [("source",bJ (o.A a b 3) (o.B a b 3))] (QT tL (Bv o) "slots" K)):=by kernel_rfl!
theorem co1(h:n+1≤3):kq (Ly o 28) (rJ (Hd.d7 tL.body 0)) (cH (n+1) 0) (TA kd []) [("source",bJ a b)] (QT tL (Bv o) "slots" K) =
  K .aL (TF kd (QN o 4 (n+1) a b) (QO o 4 (n+1) a b) ((dr o 4 (n+1) a b).map fun d=> .tup [.int (kd:Nat),.int d])):=by
 match n,h with
 |0,_=>kernel_rfl!
 |1,_=>kernel_rfl!
 |2,_=>kernel_rfl!
def coT(kd x:Nat):Bool×Bool:=(mG [.int ((16 * kd+x:Nat):Int),.int 1]&&true,true)
theorem co2(l1:0<l.length)(l2:l.length<=3):aC (Ly o 30) (tL.body.drop 1) (TF kd a b (fY (l.map fun x=>(kd,x)))) (bh tL k)=gd (l.map (coT kd)) (k ⟨aB (.iO kd l),true,[bJ a b]⟩):=
 iJ l1 l2 (fun _=>by kernel_rfl!) (fun _ _=>by kernel_rfl!) (fun _ _ _=>by kernel_rfl!)
theorem QU(hk:kd<=1):∃l a' b',(bF.iO kd l).Ok/\∀k:Spec->Option aJ,cj (tl rz) (tm mN) consts tL [bJ a b,.int (kd:Nat)] k=k ⟨aB (.iO kd l),true,[bJ a' b']⟩:=by
 refine gO (few (a:=a) (b:=b)) fun n h1 h2 h3=>?_;refine gO (QS (t:=4) (by decide) (n+1) (bf.A a b 3) (bf.B a b 3)) fun l g1 g2 g3=>?_;refine⟨l,QN bf 4 (n+1) (bf.A a b 3) (bf.B a b 3),QO bf 4 (n+1) (bf.A a b 3) (bf.B a b 3),⟨hk,by rw[g1];exact kg _,by rw[g1];exact h2,fun x m=>Nat.le_of_lt_succ (g2 x m)⟩,fun k=>?_⟩;rw[iI 1];show aC (Ly bf 30) (tL.body.take 1) _ _=_;rw[co0,h3,h1];refine(co1 h2).trans ?_;have g3:dr bf 4 (n+1) (bf.A a b 3) (bf.B a b 3)=xd l:=g3;rw[g3];show aC (Ly bf 30) (tL.body.drop 1) (TF kd _ _ ((xd l).map fun d=> .tup [.int (kd:Nat),.int d])) (bh tL k)=_;have e:((xd l).map fun d=>MV.tup [.int (kd:Nat),.int d])=fY (l.map fun x=>(kd,x)):=by
  unfold xd fY;rw[List.map_map,List.map_map]
  rfl
 rw[e];refine(co2 (by rw[g1];exact kg _) (by rw[g1];exact h2)).trans (bH (ry fun x m=>?_));have:=g2 x m;show cond (decide (0<=((16 * kd+x:Nat):Int))&&decide (((16 * kd+x:Nat):Int)<=255)&&true&&true) true false=true;rw[aM (oH _),aM (by lia)]
 rfl
end
section
abbrev qB:Fn:=v8
abbrev DF(o:j8)(o1:mC):fE:=tl [(.ofString "_law_one",eK g9 (SN o1)),(.ofString "_law_take",eK j7 (Ji o))]
abbrev JC(o:j8)(o1:mC)(n:Nat):Ev:=EV (DF o o1) (tm []) qB n
noncomputable def cL:List Nat:=[192,193,194,194,195,201,203]
noncomputable def hL:List Nat:=[4,4,0]
noncomputable def iL(l:List Nat):List MV:=l.map fun(x:Nat)=>MV.int (x:Int)
def frF(q:List MV)(h c:Int)(ex:List (Str×MV)):Fr:=⟨qB.sc,([("source",.own "source"),("quants",.lst q),("height",.int h),("code",.int c)]:List (Str×MV))++ex⟩
def Lz(q:List MV)(h c:Int)(ex:List (Str×MV))(a b:Int):St:=⟨[frF q h c ex],[("source",bJ a b)]⟩
variable{o:j8}{o1:mC}{a b:Int}{K:cI->St->Option aJ}
theorem f0{q:List MV}:aC (JC o o1 30) (qB.body.take 1) (ez qB [bJ a b,.lst q]) K =
  K .aL (Lz q (i6 (o1.v (o1.A a b (iL cL)) (o1.B a b (iL cL)) (iL hL))) (i6 (o1.v a b (iL cL))) [] (o1.A (o1.A a b (iL cL)) (o1.B a b (iL cL)) (iL hL)) (o1.B (o1.A a b (iL cL)) (o1.B a b (iL cL)) (iL hL))):=by kernel_rfl!
def LA(e:Expr):Expr:=(FO e).es.headD (.List [] default)
def dic(o:j8)(o1:mC)(K:cI→St→Option aJ)(v:MV)(st:St):Option aJ:=GP true v fun r=>QT qB (DF o o1) "table" K r st
variable{h:Int}
theorem f1{c:Int}{q:List MV}:aC (JC o o1 30) ((qB.body.drop 1).take 1) (Lz q h c [] a b) K =
  kq (JC o o1 27) (LA (rJ (Hd.d7 qB.body 1))) (cut [.int 1,.int 2,.int 7] none (some (1+o.D a b 3))) (frF q h c []) [("source",bJ (o.A a b 3) (o.B a b 3))] (dic o o1 K):=by kernel_rfl!
noncomputable def LB(o:mC)(L:List MV):Nat->Int->Int->List Int
 |0,_,_=>[]
 |n+1,a,b=>i6 (o.v a b L)::LB o L n (o.A a b L) (o.B a b L)
noncomputable def TG(o:mC)(L:List MV):Nat->Int->Int->Int
 |0,a,_=>a
 |n+1,a,b=>TG o L n (o.A a b L) (o.B a b L)
noncomputable def TH(o:mC)(L:List MV):Nat->Int->Int->Int
 |0,_,b=>b
 |n+1,a,b=>TH o L n (o.A a b L) (o.B a b L)
noncomputable def NY:List Int->List Int->List (Int×Int)
 |i::is,q::qs=>(i,q)::NY is qs
 |_,_=>[]
noncomputable def QL(q:List MV):List MV:=(q++q)++[MV.int 3]
def qT2(q:List MV):List (Bool×Bool):=[(decide (q.length+q.length<=ak),true),(decide ((q++q).length+1<=ak),true),(zQ (QL q)&&(QL q).all isInt,true)]
noncomputable def NZ(l:List (Bool×Bool)):Nat->List (Bool×Bool)
 |0=>[]
 |n+1=>l++NZ l n
variable{n:Nat}
theorem f1b(hn:n+1<=3){c x:Int}{q:List MV}:
  kq (JC o o1 27) (LA (rJ (Hd.d7 qB.body 1))) (([.int 1,.int 2,.int 7]:List MV).take (n+1)) (frF (.int x::q) h c []) [("source",bJ a b)] (dic o o1 K) =
   gd (NZ (qT2 (.int x::q)) (n+1)) (K .aL (Lz (.int x::q) h c [("table",.gk (dX (NY [1,2,7] (LB o1 (QL (.int x::q)) (n+1) a b))))]
    (TG o1 (QL (.int x::q)) (n+1) a b) (TH o1 (QL (.int x::q)) (n+1) a b))):=by
 match n,hn with
 |0,_=>kernel_rfl!
 |1,_=>kernel_rfl!
 |2,_=>kernel_rfl!
def fT(i x:Nat):Bool×Bool:=(mG [.int (i:Nat),.int 17,.int (x:Nat)]&&true,true)
noncomputable def fTs:List Nat->List Nat->List (Bool×Bool)
 |i::is,q::qs=>fT i q::fTs is qs
 |_,_=>[]
theorem f2{c h:Nat}{Q:List MV}{q:List Nat}(l1:0<q.length)(l2:q.length<=3){k:Spec->Option aJ}:
  aC (JC o o1 30) (qB.body.drop 2) (Lz Q (h:Nat) (c:Nat) [("table",.gk (dX (bV [1,2,7] q)))] a b) (bh qB k) =
   gd (fTs [1,2,7] q) (jV [.i ((c:Int) - 192)] "SOF" fun s=>gd [(mG [.int 8,.int 0,.int (h:Nat),.int 0,.int 4,.int (q.length:Nat)]&&true,true)]
    (k ⟨.tup [.str s,dw (c:Nat) (h:Nat) (bV [1,2,7] q),.bytes (Aa h q),.bytes []],true,[bJ a b]⟩)):=
 iJ l1 l2 (fun _=>by kernel_rfl!) (fun _ _=>by kernel_rfl!) (fun _ _ _=>by kernel_rfl!)
variable{l:List Nat}
theorem Xs{i:Int}(h:MV.int i∈iL l):∃x,x∈l/\i=(x:Nat):=by
 refine aH (jr.mp h) fun x m e=>?_;exact⟨x,m,(bq i6 e).symm⟩
theorem JD:(iL l).all isInt=true:=List.all_eq_true.mpr fun v m=>by
 refine aH (jr.mp m) fun x _ o2=>?_;clear m;obtain rfl:=o2
 rfl
theorem vg:(iL l).length=l.length:=bI _
theorem pN(h:0<l.length):∃x,x∈l/\i6 (bB.v a b (iL l))=(x:Nat):=Xs (WS (by rw[vg];exact h) JD)
theorem Xu{M:List Nat}(h:0<M.length):∀(n:Nat) (a b:Int),∃l:List Nat,l.length=n/\(∀x,x∈l->x∈M)/\LB bB (iL M) n a b=xd l:=by
 intro x0
 induction x0 with
 |zero=>
  intro _ _;exact⟨[],rfl,fun _ m=>(nomatch m),rfl⟩
 |succ n ih=>
  intro a b;refine gO (ih (bB.A a b (iL M)) (bB.B a b (iL M))) fun l h1 h2 h3=>?_;refine aH (pN (a:=a) (b:=b) h) fun d md e=>?_;refine⟨d::l,bq Nat.succ h1,fun x m=>?_,?_⟩
  ·rcases cC.mp m with e'|m'
   ·exact e'▸md
   ·exact h2 x m'
  ·show i6 (bB.v a b (iL M))::_=_
   rw[e,h3]
   rfl
variable{Q:List Nat}
theorem Vr:QL (iL Q)=iL ((Q++Q)++[3]):=by unfold QL iL;rw[iY,iY];rfl
theorem Xv:∀{a q:List Nat},NY (xd a) (xd q)=bV a q:=by
 intro x1
 induction x1 with
 |nil=>
  intro _;exact rfl
 |cons i is dR=>
  intro x2
  induction x2 using List.casesOn with
  |nil=>
   exact rfl
  |cons q qs=>
   exact bq (List.cons _) dR
theorem few2:∃n:Nat,1+bf.D a b 3=(n+1:Nat)/\n+1<=3:=by
 refine oA (draw (a:=a) (b:=b) (t:=3) (by decide)) fun g1 g2=>?_;exact⟨(bf.D a b 3).toNat,by rw[Int.add_comm];exact bq (· +1) (Int.toNat_of_nonneg g1).symm,(Int.toNat_lt g1).mpr g2⟩
theorem cut127(h:n+1<=3):cut [MV.int 1,.int 2,.int 7] none (some ((n+1:Nat):Int))=([MV.int 1,.int 2,.int 7]:List MV).take (n+1):=by
 match n,h with
 |0,_=>rfl
 |1,_=>rfl
 |2,_=>rfl
theorem JE{l:List (Bool×Bool)}(h:fX l=true):∀n,fX (NZ l n)=true:=by
 intro x0
 induction x0 with
 |zero=>
  exact rfl
 |succ n ih=>
  exact kZ h (ih)
theorem ni{x:Nat}(h:x<=255):(decide (0<=(x:Int))&&decide ((x:Int)<=255))=true:=by
 rw[aM (oH x),aM (show(x:Int)<=255 from Int.ofNat_le.mpr h)]
 rfl
theorem fTs_ok:∀{is q:List Nat},(∀x,x∈is->x<=255)->(∀x,x∈q->x<=255)->fX (fTs is q)=true:=by
 intro x1
 induction x1 with
 |nil=>
  intro _ _ _;exact rfl
 |cons i is dR=>
  intro x2
  induction x2 using List.casesOn with
  |nil=>
   intro _ _;exact rfl
  |cons q qs=>
   intro h1 h2;refine kZ (a:=[fT i q]) ?_ (dR (fun x m=>h1 x (.tail _ m)) fun x m=>h2 x (.tail _ m));show cond (decide (0<=(i:Int))&&decide ((i:Int)<=255)&&(true&&(decide (0<=(q:Int))&&decide ((q:Int)<=255)&&true))&&true) true false=true;rw[ni (h1 i (.head _)),ni (h2 q (.head _))]
   rfl
theorem QV(l1:0<Q.length)(l2:Q.length<=100)(l3:∀x,x∈Q->x<=3):
  ∃c h q a' b',(bF.iP c h q).Ok/\∀k:Spec->Option aJ,cj (DF bf bB) (tm []) consts qB [bJ a b,.lst (iL Q)] k=k ⟨aB (.iP c h q),true,[bJ a' b']⟩:=by
 have hs:ak=1000000:=rfl;refine aH (pN (a:=a) (b:=b) (l:=cL) (by decide)) fun c c1 c2=>?_;refine aH (pN (a:=bB.A a b (iL cL)) (b:=bB.B a b (iL cL)) (l:=hL) (by decide)) fun h h1 h2=>?_
 let a2:=bB.A (bB.A a b (iL cL)) (bB.B a b (iL cL)) (iL hL)
 let b2:=bB.B (bB.A a b (iL cL)) (bB.B a b (iL cL)) (iL hL)
 refine aH (few2 (a:=a2) (b:=b2)) fun n n1 n2=>?_
 let a3:=bf.A a2 b2 3
 let b3:=bf.B a2 b2 3
 have lM:((Q++Q)++[3]).length=Q.length+Q.length+1:=by rw[cG,cG];rfl
 refine gO (Xu (M:=(Q++Q)++[3]) (by rw[lM];exact kg _) (n+1) a3 b3) fun q q1 q2 q3=>?_;have q4:∀x,x∈q->x<=3:=fun x m=>by
  rcases bR.mp (q2 x m)with m|m
  ·rcases bR.mp m with m|m<;>exact l3 x m
  ·exact Nat.le_of_eq (bQ.mp m)
 have hc:cu (c:Nat)=true:=(by decide:∀c,c∈cL->cu ((c:Nat):Int)=true) c c1;have h4:h<=4:=(by decide:∀h,h∈hL->h<=4) h h1;have p1:0<q.length:=by rw[q1];exact kg _
 have p2:q.length<=3:=by rw[q1];exact n2
 have sc:strOk ((c:Int) - 192)=true:=(by decide +kernel:∀c,c∈cL->strOk (((c:Nat):Int) - 192)=true) c c1;refine⟨c,h,q,TG bB (QL (iL Q)) (n+1) a3 b3,TH bB (QL (iL Q)) (n+1) a3 b3,⟨hc,h4,p1,p2,q4⟩,fun k=>?_⟩;rw[iI 2,show qB.body.take 2=qB.body.take 1++(qB.body.drop 1).take 1 by kernel_rfl,bK];refine f0.trans ?_;rw[c2,h2];show aC (JC bf bB 30) ((qB.body.drop 1).take 1) (Lz (iL Q) (h:Nat) (c:Nat) [] a2 b2) _=_;rw[f1,n1,cut127 n2]
 match Q,l1 with
 |x::r,_=>
  have l2:r.length+1<=100:=l2;have lr:(iL r).length=r.length:=vg;refine(f1b (x:=(x:Nat)) (q:=iL r) n2).trans ((bH (JE ?_ _)).trans ?_)
  ·have z:(QL (MV.int (x:Nat)::iL r))=iL ((x::r++x::r)++[3]):=Vr (Q:=x::r)
   have z2:zQ (iL ((x::r++x::r)++[3]))=true:=aM (by rw[vg,lM];show r.length+1+(r.length+1)+1<=1000;lia);unfold qT2;rw[z,JD,z2,aM (show(MV.int (x:Nat)::iL r).length+(MV.int (x:Nat)::iL r).length<=ak by show(iL r).length+1+((iL r).length+1)<=_;lia),
    aM (show(MV.int (x:Nat)::iL r++MV.int (x:Nat)::iL r).length+1<=ak by rw[cG];show(iL r).length+1+((iL r).length+1)+1<=_;lia)]
   rfl
  ·have e:LB bB (QL (MV.int (x:Nat)::iL r)) (n+1) a3 b3=xd q:=by rw[←q3];exact bq (fun L=>LB bB L (n+1) a3 b3) (Vr (Q:=x::r))
   show aC (JC bf bB 30) (qB.body.drop 2) (Lz (MV.int (x:Nat)::iL r) (h:Nat) (c:Nat) [("table",.gk (dX (NY (xd [1,2,7]) (LB bB (QL (MV.int (x:Nat)::iL r)) (n+1) a3 b3))))] _ _) (bh qB k)=_;rw[e,Xv];refine(f2 p1 p2).trans ((bH (fTs_ok (by decide) fun x m=>aI (q4 x m) (by decide))).trans ((rH (by show(strOk ((c:Int) - 192)&&true)=true;rw[sc];rfl) (show("SOF":Str).length+100≤ak by decide +kernel)).trans ((bH ?_).trans rfl)));show cond (true&&(true&&(decide (0≤(h:Int))&&decide ((h:Int)≤255)&&(true&&(true&&(decide (0≤(q.length:Int))&&decide ((q.length:Int)≤255)&&true)))))&&true) true false=true;rw[ni (show h≤255 by lia),ni (show q.length≤255 by lia)]
   rfl
end
section
abbrev gM:Fn:=xQ
abbrev qM(o:j8)(o1:mC)(n:Nat):Ev:=EV (DF o o1) (tm []) gM n
noncomputable def Ak(d e:List MV):MV:= .lst [.lst d,.lst e]
def frSc(ids:List MV)(d e:List MV)(ex:List (Str×MV)):Fr:=⟨gM.sc,([("source",.own "source"),("idents",.lst ids),("slots",Ak d e)]:List (Str×MV))++ex⟩
def n7(ids:List MV)(d e:List MV)(ex:List (Str×MV))(a b:Int):St:=⟨[frSc ids d e ex],[("source",bJ a b)]⟩
noncomputable def pickK(o:j8):List Nat->List Nat->Int->Int->(List Nat->Int->Int->Option aJ)->Option aJ
 | [],acc,a,b,k=>k acc a b
 |x::r,acc,a,b,k=>cond (decide (0<o.D a b 3)) (pickK o r (acc++[x]) (o.A a b 3) (o.B a b 3) k) (pickK o r acc (o.A a b 3) (o.B a b 3) k)
noncomputable def EU:List Nat->List (List Nat)
 | []=>[[]]
 |x::r=>(EU r).map (x:: ·)++EU r
variable{o:j8}
theorem Xx:∀{l acc:List Nat} {a b:Int},∃s a' b',s∈EU l/\∀k,pickK o l acc a b k=k (acc++s) a' b':=by
 intro x0
 induction x0 with
 |nil=>
  intro acc a b;exact⟨[],a,b,.head _,fun k=>by rw[fU];rfl⟩
 |cons x r ih=>
  intro acc a b;show ∃s a' b',_/\∀k,cond (decide (0<o.D a b 3)) _ _=_;cases decide (0<o.D a b 3)
  ·refine fq (ih (acc:=acc) (a:=o.A a b 3) (b:=o.B a b 3)) fun s a' b' h e=>?_
   exact⟨s,a',b',cO _ h,e⟩
  ·refine fq (ih (acc:=acc++[x]) (a:=o.A a b 3) (b:=o.B a b 3)) fun s a' b' h e=>?_
   exact⟨x::s,a',b',cP _ (jr.mpr ⟨s,h,rfl⟩),fun k=>(e k).trans (by rw[dH];rfl)⟩
def someK(o1:mC)(ids d e:List MV)(K:cI->St->Option aJ)(l:List Nat)(a b:Int):Option aJ:=match l with
 | []=>K .aL (n7 ids d e [("some",.lst [.int (i6 (o1.v a b (iL [1,9])))])] (o1.A a b (iL [1,9])) (o1.B a b (iL [1,9])))
 |x::r=>K .aL (n7 ids d e [("some",.lst (iL (x::r)))] a b)
variable{o1:mC}{n:Nat}{a b:Int}{d:List MV}{K:cI->St->Option aJ}
theorem PK(h:n+1<=3){e:List MV}:aC (qM o o1 30) (gM.body.take 1) (ez gM [bJ a b,.lst (iL (([1,2,7]:List Nat).take (n+1))),Ak d e]) K =
  pickK o (([1,2,7]:List Nat).take (n+1)) [] a b (someK o1 (iL (([1,2,7]:List Nat).take (n+1))) d e K):=by
 match n,h with
 |0,_=>kernel_rfl!
 |1,_=>kernel_rfl!
 |2,_=>kernel_rfl!
noncomputable def jJ:List (List Nat):=[[1],[2],[7],[1,2],[1,7],[2,7],[1,2,7],[9]]
theorem sc0_ok(h:n+1<=3):∃l a' b',l∈jJ/\∀(d e:List MV) (K:cI->St->Option aJ),aC (qM bf bB 30) (gM.body.take 1) (ez gM [bJ a b,.lst (iL (([1,2,7]:List Nat).take (n+1))),Ak d e]) K =
  K .aL (n7 (iL (([1,2,7]:List Nat).take (n+1))) d e [("some",.lst (iL l))] a' b'):=by
 refine fq (Xx (o:=bf) (l:=([1,2,7]:List Nat).take (n+1)) (acc:=[]) (a:=a) (b:=b)) fun s a' b' m q=>?_;have z:s= []∨s∈jJ:=by
  match n,h,m with
  |0,_,m=>exact(by decide:∀s,s∈EU [1]->s= []∨s∈jJ) s m
  |1,_,m=>exact(by decide:∀s,s∈EU [1,2]->s= []∨s∈jJ) s m
  |2,_,m=>exact(by decide:∀s,s∈EU [1,2,7]->s= []∨s∈jJ) s m
 match s,z with
 |x::r,.inr g=>exact⟨x::r,a',b',g,fun d e K=>by rw[PK h,q];rfl⟩
 | [],_=>
  refine aH (pN (a:=a') (b:=b') (l:=[1,9]) (by decide)) fun c c1 c2=>?_;refine⟨[c],bB.A a' b' (iL [1,9]),bB.B a' b' (iL [1,9]),(by decide:∀c,c∈([1,9]:List Nat)→[c]∈jJ) c c1,fun d e K=>?_⟩;rw[PK h,q];show K .aL (n7 _ d e [("some",.lst [.int (i6 (bB.v a' b' (iL [1,9])))])] _ _)=_;rw[c2]
  rfl
noncomputable def yG(c:Int)(q:List MV):List MV:=(q++q)++[MV.int c]
def Vs(c:Int)(q:List MV):List (Bool×Bool):=[(decide (q.length+q.length<=ak),true),(decide ((q++q).length+1<=ak),true),(zQ (yG c q)&&(yG c q).all isInt,true)]
noncomputable def rwD(o:mC)(L M:List MV):List Nat->Int->Int->List (Int×Int×Int)
 | [],_,_=>[]
 |i::r,a,b=>((i:Nat),i6 (o.v a b L),i6 (o.v (o.A a b L) (o.B a b L) M))::rwD o L M r (o.A (o.A a b L) (o.B a b L) M) (o.B (o.A a b L) (o.B a b L) M)
noncomputable def Vt(o:mC)(L M:List MV):List Nat->Int->Int->Int
 | [],a,_=>a
 |_::r,a,b=>Vt o L M r (o.A (o.A a b L) (o.B a b L) M) (o.B (o.A a b L) (o.B a b L) M)
noncomputable def Vu(o:mC)(L M:List MV):List Nat->Int->Int->Int
 | [],_,b=>b
 |_::r,a,b=>Vu o L M r (o.A (o.A a b L) (o.B a b L) M) (o.B (o.A a b L) (o.B a b L) M)
theorem sc1{l:List Nat}(l1:0<l.length)(l2:l.length<=3){x y:Int}{ids e:List MV}:
  aC (qM o o1 30) ((gM.body.drop 1).take 1) (n7 ids (.int x::d) (.int y::e) [("some",.lst (iL l))] a b) K=gd (NZ (Vs 2 (.int x::d)++Vs 1 (.int y::e)) l.length)
   (K .aL (n7 ids (.int x::d) (.int y::e) [("some",.lst (iL l)),("rows",.lst ((rwD o1 (yG 2 (.int x::d)) (yG 1 (.int y::e)) l a b).map nZ))] (Vt o1 (yG 2 (.int x::d)) (yG 1 (.int y::e)) l a b) (Vu o1 (yG 2 (.int x::d)) (yG 1 (.int y::e)) l a b))):=
 iJ l1 l2 (fun _=>by kernel_rfl!) (fun _ _=>by kernel_rfl!) (fun _ _ _=>by kernel_rfl!)
end
section
noncomputable def bL:List MV:=[.tup [.int 0,.int 3],.tup [.int 0,.int 3],.tup [.int 0,.int 0],.tup [.int 1,.int 3],.tup [.int 0,.int 63]]
noncomputable def ex0(so ro:MV):List (Str×MV):=[("some",so),("rows",ro)]
noncomputable def Am(so ro:MV)(p q t h:Int):List (Str×MV):=[("some",so),("rows",ro),("band",.tup [.int p,.int q]),("turns",.int t),("high",.int h)]
theorem sc2{o:j8}{o1:mC}{a b:Int}{so ro:MV}{ids d e:List MV}{K:cI->St->Option aJ}:
  let a1:=o1.A a b bL;let b1:=o1.B a b bL;let a2:=o1.A a1 b1 (iL [0,0,0,2]);let b2:=o1.B a1 b1 (iL [0,0,0,2])
  aC (qM o o1 30) ((gM.body.drop 2).take 2) (n7 ids d e (ex0 so ro) a b) K =
   K .aL (n7 ids d e (Am so ro (Dk (o1.v a b bL)) (Dl (o1.v a b bL)) (i6 (o1.v a2 b2 (iL [0,0,1,3,10]))) (i6 (o1.v a1 b1 (iL [0,0,0,2])))) (o1.A a2 b2 (iL [0,0,1,3,10])) (o1.B a2 b2 (iL [0,0,1,3,10]))):=by
 intro a1 b1 a2 b2;kernel_rfl!
def EW(ids d e:List MV)(ex:List (Str×MV))(N:List MV)(a b:Int):St:=⟨[frSc ids d e ex],[("source",bJ a b),("numbers",.lst N)]⟩
noncomputable def base(t:Nat):List Nat:=(List.range t).map (· % 8)
noncomputable def nO:List (Str×MV):=[("numbers",.own "numbers")]
noncomputable def pO(P:List Nat):List (Str×MV):=[("numbers",.own "numbers"),("payload",.bytes P)]
noncomputable def dO(N:List MV)(P D:List Nat):List (Str×MV):=[("numbers",.lst N),("payload",.bytes P),("data",.bytes D)]
def Vv(o:j8)(t:Nat)(v a b:Int)(k:List MV->Int->Int->Option aJ):Option aJ:=
 gd [(eZ (o.D a b t)&&(decide (0<=o.D a b t)&&decide (o.D a b t<(t:Nat))),true)] (k ((iL (base t)).set (o.D a b t).toNat (.int v)) (o.A a b t) (o.B a b t))
def setN2(o:j8)(t:Nat)(a b:Int)(k:List MV->Int->Int->Option aJ):Option aJ:=Vv o t (o.D a b 8) (o.A a b 8) (o.B a b 8) k
def setN(o:j8)(t:Nat)(a b:Int)(k:List MV->Int->Int->Option aJ):Option aJ:=cond (decide (o.D a b 4=0)) (setN2 o t (o.A a b 4) (o.B a b 4) k) (k (iL (base t)) (o.A a b 4) (o.B a b 4))
variable{o:j8}{o1:mC}{a b p h:Int}{so ro:MV}{ids d:List MV}{K:cI->St->Option aJ}
theorem sc40{q:Int}{e:List MV}:
  aC (qM o o1 30) ((gM.body.drop 4).take 2) (n7 ids d e (Am so ro p q (0:Nat) h) a b) K=K .aL (EW ids d e (Am so ro p q (0:Nat) h++nO) [] a b):=by kernel_rfl!
theorem sc4{t:Nat}(ht:t=1∨t=3∨t=10){q:Int}{e:List MV}:
  aC (qM o o1 30) ((gM.body.drop 4).take 2) (n7 ids d e (Am so ro p q (t:Nat) h) a b) K=setN o t a b fun N a b=>K .aL (EW ids d e (Am so ro p q (t:Nat) h++nO) N a b):=by
 rcases ht with rfl|rfl|rfl<;>kernel_rfl!
def payT(r:R3):Bool×Bool:=(mG [.int (r.1:Nat),.int ((16 * r.2.1+r.2.2:Nat):Int)]&&true,true)
def N1(l:List R3):List Nat:=l.length::(l.map rb).flatMap fun p=>[p.1,p.2]
variable{t:Int}{N:List MV}
theorem sc6{l:List R3}(l1:0<l.length)(l2:l.length<=3){q:Int}{e:List MV}:
  aC (qM o o1 30) ((gM.body.drop 6).take 1) (EW ids d e (Am so (.lst ((l.map rI).map nZ)) p q t h++nO) N a b) K=gd (l.map payT) (K .aL (EW ids d e (Am so (.lst ((l.map rI).map nZ)) p q t h++pO (N1 l)) N a b)):=
 iJ l1 l2 (fun _=>by kernel_rfl!) (fun _ _=>by kernel_rfl!) (fun _ _ _=>by kernel_rfl!)
def datT(x:Nat):Bool×Bool:=(mG [.int 255,.int ((208+x:Nat):Int),.int 43]&&true,true)
noncomputable def datB(l:List Nat):List Nat:=42::255::0::l.flatMap fun x=>[255,208+x,43]
variable{R:List MV}{P:List Nat}
theorem sc7{l:List Nat}(hl:jC l.length=true){q:Int}{e S:List MV}:
  aC (qM o o1 30) ((gM.body.drop 7).take 1) (EW ids d e (Am (.lst S) (.lst R) p q t h++pO P) (iL l) a b) K=gd (l.map datT) (K .aL (n7 ids d e (Am (.lst S) (.lst R) p q t h++dO (iL l) P (datB l)) a b)):=
 tZ hl (by kernel_rfl!) (fun _=>by kernel_rfl!) (fun _ _ _=>by kernel_rfl!) (fun _ _ _ _ _ _ _ _ _ _=>by kernel_rfl!)
theorem sc8{p q h:Nat}{e:List MV}{D:List Nat}{k:Spec->Option aJ}:
  aC (qM o o1 30) (gM.body.drop 8) (n7 ids d e (Am so (.lst R) (p:Nat) (q:Nat) t (h:Nat)++dO N P D) a b) (bh gM k) =
   gd [(mG [.int (p:Nat),.int (q:Nat),.int ((16 * h:Nat):Int)]&&true,true),(decide (P.length+3≤ak),true)] (k ⟨.tup [.str "SOS",b7 R (p:Nat) (q:Nat) (h:Nat) N,.bytes (P++[p,q,16 * h]),.bytes D],true,[bJ a b]⟩):=by kernel_rfl!
end
section
variable{Q:List Nat}
theorem JF{c:Nat}:yG (c:Nat) (iL Q)=iL ((Q++Q)++[c]):=by unfold yG iL;rw[iY,iY];rfl
theorem mem3{c x:Nat}(h:∀x,x∈Q->x<=3)(hc:c<=3)(m:x∈(Q++Q)++[c]):x<=3:=by
 rcases bR.mp m with m|m
 ·rcases bR.mp m with m|m<;>exact h x m
 ·rw[bQ.mp m];exact hc
theorem rw_nat{L M:List Nat}(hL:0<L.length)(hM:0<M.length)(l3:∀x,x∈L->x<=3)(m3:∀x,x∈M->x<=3):∀(l:List Nat) (a b:Int),∃rows:List R3,rows.map (·.1)=l/\(∀r,r∈rows->r.2.1<=3/\r.2.2<=3)/\rwD bB (iL L) (iL M) l a b=rows.map rI:=by
 intro x0
 induction x0 with
 |nil=>
  intro _ _;exact⟨[],rfl,fun _ m=>(nomatch m),rfl⟩
 |cons i l ih=>
  intro a b;refine aH (pN (a:=a) (b:=b) hL) fun d d1 d2=>?_;refine aH (pN (a:=bB.A a b (iL L)) (b:=bB.B a b (iL L)) hM) fun e e1 e2=>?_;refine gO (ih (bB.A (bB.A a b (iL L)) (bB.B a b (iL L)) (iL M)) (bB.B (bB.A a b (iL L)) (bB.B a b (iL L)) (iL M))) fun rows h1 h2 h3=>?_;refine⟨(i,d,e)::rows,bq (List.cons i) h1,fun r m=>?_,?_⟩
  ·rcases cC.mp m with rfl|m
   ·exact⟨l3 d d1,m3 e e1⟩
   ·exact h2 r m
  ·refine(?_:(((i:Nat):Int),i6 _,i6 _)::_=_)
   rw[d2,e2,h3]
   rfl
noncomputable def unI:List MV->List Nat->List (Bool×Bool)
 |_,[]=>[]
 |acc,i::r=>(eN (.int (i:Nat)) acc,false)::unI (acc++[.int (i:Nat)]) r
theorem un_fst:∀{rows:List R3} {acc:List MV},Vf acc (rows.map rb)=unI acc (rows.map (·.1)):=by
 intro x0
 induction x0 with
 |nil=>
  intro _;exact rfl
 |cons _ _ ih=>
  intro _;exact bq (List.cons _) ih
variable{rows:List R3}{l:List Nat}
theorem rowsN(hl:l∈jJ)(h:rows.map (·.1)=l)(h2:∀r,r∈rows->r.2.1<=3/\r.2.2<=3):sr rows:=by
 have e:rows.length=l.length:=by rw[←h,bI]
 refine⟨?_,?_,?_,fun r m=>⟨?_,h2 r m⟩⟩
 ·rw[e];exact(by decide:∀l,l∈jJ->0<l.length) l hl
 ·rw[e];exact(by decide:∀l,l∈jJ->l.length<=3) l hl
 ·rw[un_fst,h];exact(by decide +kernel:∀l,l∈jJ->fX (unI [] l)=true) l hl
 ·exact(by decide:∀l,l∈jJ->∀x,x∈l->(x=1∨x=2∨x=7∨x=9)) l hl _ (h▸jr.mpr ⟨r,m,rfl⟩)
variable{a b:Int}
theorem TJ:∃p q:Nat,p<=63/\q<=63/\Dk (bB.v a b bL)=(p:Nat)/\Dl (bB.v a b bL)=(q:Nat):=by
 have m:=SS (a:=a) (b:=b) (l:=bL) (by decide) (by decide);have z:∀i j:Int,MV.tup [.int i,.int j]∈bL->∃p q:Nat,p<=63/\q<=63/\i=(p:Nat)/\j=(q:Nat):=by
  intro i j m;have f:∀u v:Nat,MV.tup [.int i,.int j]=MV.tup [.int (u:Nat),.int (v:Nat)]->u<=63->v<=63->∃p q:Nat,p<=63/\q<=63/\i=(p:Nat)/\j=(q:Nat):=by
   intro u v e hu hv;cases e;exact⟨u,v,hu,hv,rfl,rfl⟩
  rcases cC.mp m with e|m
  ·exact f 0 3 e (by decide) (by decide)
  rcases cC.mp m with e|m
  ·exact f 0 3 e (by decide) (by decide)
  rcases cC.mp m with e|m
  ·exact f 0 0 e (by decide) (by decide)
  rcases cC.mp m with e|m
  ·exact f 1 3 e (by decide) (by decide)
  ·exact f 0 63 (bQ.mp m) (by decide) (by decide)
 exact z _ _ m
variable{t:Nat}
theorem Xy(ht:t<=10):(base t).length=t/\∀x,x∈base t->x<=7:=(by decide:∀t,t<11->(base t).length=t/\∀x,x∈base t->x<=7) t (Nat.lt_succ_of_le ht)
theorem Xz(h0:0<t)(ht:t<=10):∃ns a' b',ns.length=t/\(∀x,x∈ns->x<=7)/\∀k,setN bf t a b k=k (iL ns) a' b':=by
 refine oA (Xy ht) fun l1 l2=>?_;have z:∀v a b:Int,(∃n:Nat,n<=7/\v=(n:Nat))->∃ns a' b',ns.length=t/\(∀x,x∈ns->x<=7)/\∀k,Vv bf t v a b k=k (iL ns) a' b':=by
  rintro v a b ⟨n,h7,rfl⟩;refine oA (draw (a:=a) (b:=b) (t:=t) (Int.natCast_pos.mpr h0)) fun g1 g2=>?_;refine⟨(base t).set (bf.D a b t).toNat n,bf.A a b t,bf.B a b t,by rw[List.length_set,l1],fun x m=>?_,fun k=>(bH ?_).trans ?_⟩
  ·rcases List.mem_or_eq_of_mem_set m with m|rfl
   ·exact l2 x m
   ·exact h7
  ·have i:eZ (bf.D a b t)=true:=by
    unfold eZ;rw[aM (by lia),aM (by lia)]
    rfl
   rw[i,aM g1,aM g2]
   rfl
  ·unfold iL
   rw[List.map_set]
 refine(?_:∃ns a' b',_/\_/\∀k,cond (decide (bf.D a b 4=0)) _ _=_);cases decide (bf.D a b 4=0)
 ·exact⟨base t,_,_,l1,l2,fun _=>rfl⟩
 ·refine oA (draw (a:=bf.A a b 4) (b:=bf.B a b 4) (t:=8) (by decide)) fun g1 g2=>?_
  exact z _ _ _ ⟨(bf.D (bf.A a b 4) (bf.B a b 4) 8).toNat,by lia,by exact Int.eq_natCast_toNat.mpr g1⟩
theorem num_eq:∀{l:List Nat},iL l=fK (gV l):=by
 intro x0
 induction x0 with
 |nil=>
  exact rfl
 |cons x r ih=>
  refine(?_:MV.int (x:Nat)::iL r=MV.int (((x+207+1:Nat):Int) - 208)::fK (gV r));rw[ih,show(((x+207+1:Nat):Int) - 208)=(x:Int)by exact Int.sub_eq_iff_eq_add.mpr rfl]
theorem dat_eq:datB l=gj (gV l):=by
 have z:∀l:List Nat,(l.flatMap fun x=>[255,208+x,43])=xR (gV l):=by
  intro l
  induction l with
  |nil=>rfl
  |cons x r ih=>
   refine(?_:255::(208+x)::43::(r.flatMap fun x=>[255,208+x,43])=255::(x+207+1)::43::xR (gV r));rw[ih,Nat.add_comm 208 x]
 exact bq (fun r=>42::255::0::r) (z l)
theorem pay_eq{p q h:Nat}:N1 rows++[p,q,16 * h]=tB (rows.map rb) p q (16 * h+0):=by
 refine(?_:rows.length::_=(rows.map rb).length::_);rw[bI]
 rfl
theorem QW{c:Nat}(h:Q.length<=100):fX (Vs (c:Nat) (iL Q))=true:=by
 have hs:ak=1000000:=rfl;have l1:(iL Q).length=Q.length:=vg;have l2:(iL Q++iL Q).length=Q.length+Q.length:=by rw[cG,l1]
 have l3:zQ (iL ((Q++Q)++[c]))=true:=aM (by rw[vg,cG,cG];show Q.length+Q.length+1<=1000;lia);unfold Vs;rw[JF,JD,l3,l2,l1,aM (show Q.length+Q.length<=ak by lia),aM (show Q.length+Q.length+1<=ak by lia)]
 rfl
theorem QX{n:Nat}(hn:n+1<=3){D E:List Nat}(d1:0<D.length)(d2:D.length<=3)(d3:∀x,x∈D->x<=3)(e1:0<E.length)(e2:E.length<=3)(e3:∀x,x∈E->x<=3):
  ∃rows st e hi l a' b',(bF.sV rows st e hi l).Ok/\∀k:Spec->Option aJ,cj (DF bf bB) (tm []) consts gM [bJ a b,.lst (iL (([1,2,7]:List Nat).take (n+1))),Ak (iL D) (iL E)] k=k ⟨aB (.sV rows st e hi l),true,[bJ a' b']⟩:=by
 have hs:ak=1000000:=rfl
 let ids:=iL (([1,2,7]:List Nat).take (n+1))
 refine fq (sc0_ok hn (a:=a) (b:=b)) fun L a1 b1 hL q0=>?_;have hL1:0<L.length:=(by decide:∀l,l∈jJ->0<l.length) L hL;have hL2:L.length<=3:=(by decide:∀l,l∈jJ->l.length<=3) L hL;have lD:∀c:Nat,0<((D++D)++[c]).length:=fun c=>by rw[cG];exact kg _
 have lE:∀c:Nat,0<((E++E)++[c]).length:=fun c=>by rw[cG];exact kg _
 refine gO (rw_nat (lD 2) (lE 1) (fun x m=>mem3 d3 (by decide) m) (fun x m=>mem3 e3 (by decide) m) L a1 b1) fun rows r1 r2 r3=>?_;have RN:=rowsN hL r1 r2;have q1:∀KA:cI→St→Option aJ,aC (qM bf bB 30) ((gM.body.drop 1).take 1) (n7 ids (iL D) (iL E) [("some",.lst (iL L))] a1 b1) KA=KA .aL (n7 ids (iL D) (iL E) (ex0 (.lst (iL L)) (.lst ((rows.map rI).map nZ))) (Vt bB (iL ((D++D)++[2])) (iL ((E++E)++[1])) L a1 b1) (Vu bB (iL ((D++D)++[2])) (iL ((E++E)++[1])) L a1 b1)):=by
  intro KA;rw[←r3]
  match D,E,d1,e1,d2,e2 with
  |x::d,y::e,_,_,d2,e2=>
   refine(sc1 (x:=(x:Nat)) (y:=(y:Nat)) (d:=iL d) (e:=iL e) hL1 hL2).trans ((bH (JE (kZ (QW (c:=2) (Q:=x::d) (aI d2 (by decide))) (QW (c:=1) (Q:=y::e) (aI e2 (by decide)))) _)).trans ?_);have z1:yG 2 (MV.int (x:Nat)::iL d)=iL ((x::d++x::d)++[2]):=JF (c:=2) (Q:=x::d);have z2:yG 1 (MV.int (y:Nat)::iL e)=iL ((y::e++y::e)++[1]):=JF (c:=1) (Q:=y::e);rw[z1,z2]
   rfl
 let a2:=Vt bB (iL ((D++D)++[2])) (iL ((E++E)++[1])) L a1 b1
 let b2:=Vu bB (iL ((D++D)++[2])) (iL ((E++E)++[1])) L a1 b1
 refine mJ (TJ (a:=a2) (b:=b2)) fun p q hp hq p1 p2=>?_
 let a3:=bB.A a2 b2 bL
 let b3:=bB.B a2 b2 bL
 refine aH (pN (a:=a3) (b:=b3) (l:=[0,0,0,2]) (by decide)) fun h h1 h2=>?_
 let a4:=bB.A a3 b3 (iL [0,0,0,2])
 let b4:=bB.B a3 b3 (iL [0,0,0,2])
 refine aH (pN (a:=a4) (b:=b4) (l:=[0,0,1,3,10]) (by decide)) fun t t1 t2=>?_
 let a5:=bB.A a4 b4 (iL [0,0,1,3,10])
 let b5:=bB.B a4 b4 (iL [0,0,1,3,10])
 let EX:=Am (.lst (iL L)) (.lst ((rows.map rI).map nZ)) (p:Nat) (q:Nat) (t:Nat) (h:Nat)
 have hh2:h<=2:=(by decide:∀h,h∈([0,0,0,2]:List Nat)->h<=2) h h1;have ht:t=0∨t=1∨t=3∨t=10:=(by decide:∀t,t∈([0,0,1,3,10]:List Nat)->(t=0∨t=1∨t=3∨t=10)) t t1;have nl:jC t=true:=(by decide:∀t,t∈([0,0,1,3,10]:List Nat)->jC t=true) t t1;obtain⟨ns,a6,b6,n1,n2,q4⟩:∃ns a' b',ns.length=t/\(∀x,x∈ns->x<=7)/\∀KB:cI->St->Option aJ,aC (qM bf bB 30) ((gM.body.drop 4).take 2) (n7 ids (iL D) (iL E) EX a5 b5) KB=KB .aL (EW ids (iL D) (iL E) (EX++nO) (iL ns) a' b'):=by
  rcases ht with rfl|ht
  ·exact⟨[],a5,b5,rfl,fun x m=>(nomatch m),fun _=>sc40⟩
  ·refine yT (Xz (t:=t) (a:=a5) (b:=b5) (by lia) (by lia)) fun ns a' b' n1 n2 g=>?_
   exact⟨ns,a',b',n1,n2,fun KB=>(sc4 ht).trans (g _)⟩
 have q6:fX (rows.map payT)=true:=ry fun r m=>by
  refine dh (RN.each r m) fun c1 c2 c3=>?_;refine(?_:cond (decide (0<=(r.1:Int))&&decide ((r.1:Int)<=255)&&(decide (0<=((16 * r.2.1+r.2.2:Nat):Int))&&decide (((16 * r.2.1+r.2.2:Nat):Int)<=255)&&true)&&true) true false=true);rw[ni (by lia),ni (by lia)]
  rfl
 have q7:fX (ns.map datT)=true:=ry fun x m=>by
  have:=n2 x m;refine(?_:cond (true&&(decide (0<=((208+x:Nat):Int))&&decide (((208+x:Nat):Int)<=255)&&true)&&true) true false=true);rw[ni (by lia)]
  rfl
 refine⟨rows,p,q,h,ns,a6,b6,⟨RN,hp,hq,hh2,by rw[n1];exact nl,n2⟩,fun k=>?_⟩;rw[iI 1,show gM.body.drop 1=(gM.body.drop 1).take 1++gM.body.drop 2 by kernel_rfl];have kk:∀(A B:List Stmt) (K:cI->St->Option aJ),dZ (qM bf bB 30) (A++B) K=dZ (qM bf bB 30) A (dZ (qM bf bB 30) B K):=fun A B K=>by
  funext f st
  induction f using cI.casesOn with
  |aL=>exact bK
  |ret=>rfl
 rw[kk];refine(q0 _ _ _).trans ((q1 _).trans ?_);refine(?_:aC (qM bf bB 30) (gM.body.drop 2) _ (bh gM k)=_);rw[show gM.body.drop 2=(gM.body.drop 2).take 2++((gM.body.drop 4).take 2++gM.body.drop 6)by kernel_rfl,bK];refine sc2.trans ?_;rw[p1,p2,h2,t2];refine(?_:aC (qM bf bB 30) ((gM.body.drop 4).take 2++gM.body.drop 6) (n7 ids (iL D) (iL E) EX a5 b5) (bh gM k)=_);rw[bK];refine(q4 _).trans ?_;refine(?_:aC (qM bf bB 30) (gM.body.drop 6) _ (bh gM k)=_);rw[show gM.body.drop 6=(gM.body.drop 6).take 1++((gM.body.drop 7).take 1++gM.body.drop 8)by kernel_rfl,bK];refine(sc6 RN.one RN.most).trans ((bH q6).trans ?_);refine(?_:aC (qM bf bB 30) ((gM.body.drop 7).take 1++gM.body.drop 8) _ (bh gM k)=_);rw[bK];refine(sc7 (by rw[n1];exact nl)).trans ((bH q7).trans ?_);have lp:(N1 rows).length=2 * rows.length+1:=by
  have z:∀l:List R3,((l.map rb).flatMap fun p=>[p.1,p.2]).length=2 * l.length:=by
   intro l
   induction l with
   |nil=>rfl
   |cons x r ih=>show((r.map rb).flatMap fun p=>[p.1,p.2]).length+1+1=2 * (r.length+1);lia
  exact bq Nat.succ (z rows)
 have RM:=RN.most;refine sc8.trans ((bH ?_).trans ?_)
 ·rw[aM (show(N1 rows).length+3<=ak by lia)]
  refine(?_:cond (decide (0<=(p:Int))&&decide ((p:Int)<=255)&&(decide (0<=(q:Int))&&decide ((q:Int)<=255)&&(decide (0<=((16 * h:Nat):Int))&&decide (((16 * h:Nat):Int)<=255)&&true))&&true) true false=true);rw[ni (by lia),ni (by lia),ni (by lia)]
  rfl
 ·rw[pay_eq,dat_eq,num_eq]
  rfl
end
section
abbrev pP(β:Type):Type:=β×Int×Int
def spQ(r:Int->Int->pP (List Nat)):bw:=Lm (FP fun a b k=>k ⟨aB (.eU (r a b).1),true,[bJ (r a b).2.1 (r a b).2.2]⟩)
def spC(r:Nat->Int->Int->pP (List Nat)):bw:=zN fun x y=>FP (fun a b=>zP (fun i k=>gd [(decide (0<=i)&&decide (i<=1),true)] (k ⟨aB (.iO i.toNat (r i.toNat a b).1),true,[bJ (r i.toNat a b).2.1 (r i.toNat a b).2.2]⟩)) y) x
noncomputable def is3:MV->Bool
 | .int i=>decide (0<=i)&&decide (i<=3)
 |_=>false
def mH(n:Nat)(l:List MV):Bool:=decide (0<l.length)&&(decide (l.length<=n)&&l.all is3)
def spF(r:Int->Int->List MV->pP (Nat×Nat×List Nat)):bw:=zN fun x y=>FP (fun a b=>Jh (fun l k=>gd [(mH 100 l,true)] (k ⟨aB (.iP (r a b l).1.1 (r a b l).1.2.1 (r a b l).1.2.2),true,[bJ (r a b l).2.1 (r a b l).2.2]⟩)) y) x
noncomputable def An:List Nat->List MV->Bool
 | [],[]=>true
 |n::r,.int i::l=>decide (i=(n:Nat))&&An r l
 |_,_=>false
def xY(l:List MV):Bool:=An [1] l||(An [1,2] l||An [1,2,7] l)
noncomputable def onD(f:List MV->List MV->lu):MV->lu
 | .lst [.lst d,.lst e]=>f d e
 |_=>fun _=>none
noncomputable def on3(f:MV->MV->MV->lu):bw:=fun cs k=>match cs with
 | [a,b,c]=>f a b c k
 |_=>none
noncomputable def rK(p:List R3×Nat×Nat×Nat×List Nat):bF:= .sV p.1 p.2.1 p.2.2.1 p.2.2.2.1 p.2.2.2.2
def TM(r:Int->Int->List MV->List MV->List MV->pP (List R3×Nat×Nat×Nat×List Nat)):bw:=on3 fun x y z=>FP (fun a b=>Jh (fun l=>onD (fun d e k=>gd [(xY l&&(mH 3 d&&mH 3 e),true)] (k ⟨aB (rK (r a b l d e).1),true,[bJ (r a b l d e).2.1 (r a b l d e).2.2]⟩)) z) y) x
variable{k:Spec->Option aJ}{ah:aJ}
theorem XA{f:MV->MV->MV->lu}{cs:List MV}(e:on3 f cs k=some ah):∃a b c,cs= [a,b,c]/\f a b c k=some ah:=by
 rcases cs with _|⟨a,_|⟨b,_|⟨c,_|⟨d,r⟩⟩⟩⟩
 ·exact aq e
 ·exact aq e
 ·exact aq e
 ·exact⟨a,b,c,rfl,e⟩
 ·exact aq e
set_option tactic.hygienic true in
theorem XC{f:List MV->List MV->lu}{v:MV}(e:onD f v k=some ah):∃d g,v=Ak d g/\f d g k=some ah:=by
 induction v using MV.casesOn<;>first|exact aq e|skip
 rename_i l
 rcases l with _|⟨x,_|⟨y,_|⟨z,r⟩⟩⟩
 ·exact aq e
 ·induction x using MV.casesOn<;>exact aq e
 ·induction x using MV.casesOn<;>first|exact aq e|skip
  induction y using MV.casesOn<;>first|exact aq e|exact⟨_,_,rfl,e⟩
 ·induction x using MV.casesOn<;>first|exact aq e|skip
  induction y using MV.casesOn<;>exact aq e
theorem Ao:∀{r:List Nat} {l:List MV},An r l=true->l=iL r:=by
 intro x1
 induction x1 with
 |nil=>
  intro x2
  induction x2 using List.casesOn with
  |nil=>
   intro _;exact rfl
  |cons c3 c4=>
   intro h;exact aP h
 |cons n r dR=>
  intro x5
  induction x5 using List.casesOn with
  |nil=>
   intro h;exact aP h
  |cons v l=>
   intro h
   induction v using MV.casesOn<;>first|exact aP h|skip
   refine oA (jv h) fun a b=>?_;rw[bx a,dR b]
   rfl
variable{l:List MV}
set_option tactic.hygienic true in
theorem JG{n:Nat}(h:mH n l=true):∃Q:List Nat,l=iL Q/\0<Q.length/\Q.length<=n/\∀x,x∈Q->x<=3:=by
 refine dh (Ez h) fun a b c=>?_;have z:∀l:List MV,l.all is3=true->∃Q:List Nat,l=iL Q/\∀x,x∈Q->x<=3:=by
  intro l
  induction l with
  |nil=>exact fun _=>⟨[],rfl,fun x m=>(nomatch m)⟩
  |cons v l ih=>
   intro g;refine oA (jv g) fun g1 g2=>?_;refine aH (ih g2) fun Q o1 q=>?_;clear g2 ih;obtain rfl:=o1
   induction v using MV.casesOn<;>first|exact aP g1|skip
   rename_i i;refine oA (jv g1) fun p1 p2=>?_;have p1:=bx p1;have p2:=bx p2;refine oE (Int.eq_ofNat_of_zero_le p1) fun n o1=>?_;obtain rfl:=o1;refine⟨n::Q,rfl,fun x m=>?_⟩
   rcases cC.mp m with rfl|m
   ·exact Int.ofNat_le.mp p2
   ·exact q x m
 refine aH (z l c) fun Q o1 q=>?_;clear c h;obtain rfl:=o1;have l1:(iL Q).length=Q.length:=vg;rw[l1]at a b;exact⟨Q,rfl,bx a,bx b,q⟩
abbrev rQ:bw:=cj (tl ql) (tm mN) consts fQ
theorem q_ex(a b:Int):∃p:pP (List Nat),(bF.eU p.1).Ok/\∀k,rQ [bJ a b] k=k ⟨aB (.eU p.1),true,[bJ p.2.1 p.2.2]⟩:=by
 refine fq (NX (a:=a) (b:=b)) fun l a' b' h e=>?_;exact⟨(l,a',b'),h,e⟩
def Ca(a b:Int):pP (List Nat):=Classical.choose (q_ex a b)
theorem EY(a b:Int):(bF.eU (Ca a b).1).Ok/\∀k,rQ [bJ a b] k=k ⟨aB (.eU (Ca a b).1),true,[bJ (Ca a b).2.1 (Ca a b).2.2]⟩:=sy (q_ex a b)
theorem KQ:Runs (tl ql) (tm mN) fQ (spQ Ca):=fun cs k ah e0=>by
 refine aH (wV e0) fun x o1 e1=>?_;obtain rfl:=o1;refine cF (rD e1) fun a b o2 e=>?_;clear e0 e1;obtain rfl:=o2;exact((EY a b).2 k).trans e
abbrev rC:bw:=cj (tl rz) (tm mN) consts tL
theorem c_ex(i:Nat)(a b:Int):∃p:pP (List Nat),i<=1->(bF.iO i p.1).Ok/\∀k,rC [bJ a b,.int (i:Nat)] k=k ⟨aB (.iO i p.1),true,[bJ p.2.1 p.2.2]⟩:=by
 by_cases hi:i<=1
 ·refine fq (QU hi (a:=a) (b:=b)) fun l a' b' h e=>?_
  exact⟨(l,a',b'),fun _=>⟨h,e⟩⟩
 ·exact⟨([],0,0),fun h=>absurd h hi⟩
def xZ(i:Nat)(a b:Int):pP (List Nat):=Classical.choose (c_ex i a b)
theorem EZ(i:Nat)(a b:Int)(hi:i<=1):(bF.iO i (xZ i a b).1).Ok/\∀k,rC [bJ a b,.int (i:Nat)] k=k ⟨aB (.iO i (xZ i a b).1),true,[bJ (xZ i a b).2.1 (xZ i a b).2.2]⟩:=sy (c_ex i a b) hi
theorem N3:Runs (tl rz) (tm mN) tL (spC xZ):=fun cs k ah e0=>by
 refine cF (l9 e0) fun x y o2 e1=>?_;obtain rfl:=o2;refine cF (rD e1) fun a b o2 e2=>?_;obtain rfl:=o2;refine aH (mh e2) fun i o1 e3=>?_;obtain rfl:=o1;refine oA (lY e3) fun q e=>?_;refine oA (jv (Dt q)) fun q1 q2=>?_;refine oE (Int.eq_ofNat_of_zero_le (bx q1)) fun n o1=>?_;clear q1 q e0 e1 e2 e3;obtain rfl:=o1;exact((EZ n a b (Int.ofNat_le.mp (bx q2))).2 k).trans e
abbrev rF:bw:=cj (DF bf bB) (tm []) consts qB
theorem f_ex(a b:Int)(l:List MV):∃p:pP (Nat×Nat×List Nat),mH 100 l=true->(bF.iP p.1.1 p.1.2.1 p.1.2.2).Ok/\∀k,rF [bJ a b,.lst l] k=k ⟨aB (.iP p.1.1 p.1.2.1 p.1.2.2),true,[bJ p.2.1 p.2.2]⟩:=by
 cases h:mH 100 l with
 |true=>
  refine jS (JG h) fun Q o1 q1 q2 q3=>?_;clear h;obtain rfl:=o1;refine Ay (QV (a:=a) (b:=b) q1 q2 q3) fun c ht q a' b' g e=>?_;exact⟨((c,ht,q),a',b'),fun _=>⟨g,e⟩⟩
 |false=>exact⟨((0,0,[]),0,0),fun h=>aP h⟩
def rM(a b:Int)(l:List MV):pP (Nat×Nat×List Nat):=Classical.choose (f_ex a b l)
theorem LC(a b:Int)(l:List MV)(h:mH 100 l=true):(bF.iP (rM a b l).1.1 (rM a b l).1.2.1 (rM a b l).1.2.2).Ok/\∀k,rF [bJ a b,.lst l] k=k ⟨aB (.iP (rM a b l).1.1 (rM a b l).1.2.1 (rM a b l).1.2.2),true,[bJ (rM a b l).2.1 (rM a b l).2.2]⟩:=sy (f_ex a b l) h
theorem N4:Runs (DF bf bB) (tm []) qB (spF rM):=fun cs k ah e0=>by
 refine cF (l9 e0) fun x y o2 e1=>?_;obtain rfl:=o2;refine cF (rD e1) fun a b o2 e2=>?_;obtain rfl:=o2;refine aH (ug e2) fun l o1 e3=>?_;clear e0 e1 e2;obtain rfl:=o1;refine oA (lY e3) fun q e=>?_;exact((LC a b l (Dt q)).2 k).trans e
abbrev rSq:bw:=cj (DF bf bB) (tm []) consts gM
theorem XD(h:xY l=true):∃n,n+1<=3/\l=iL (([1,2,7]:List Nat).take (n+1)):=by
 rcases oz h with h|h
 ·exact⟨0,by decide,Ao h⟩
 rcases oz h with h|h
 ·exact⟨1,by decide,Ao h⟩
 ·exact⟨2,by decide,Ao h⟩
theorem s_ex(a b:Int)(l d e:List MV):∃p:pP (List R3×Nat×Nat×Nat×List Nat),(xY l&&(mH 3 d&&mH 3 e))=true->(rK p.1).Ok/\∀k,rSq [bJ a b,.lst l,Ak d e] k=k ⟨aB (rK p.1),true,[bJ p.2.1 p.2.2]⟩:=by
 cases h:xY l&&(mH 3 d&&mH 3 e)with
 |true=>
  refine dh (Ez h) fun h1 h2 h3=>?_;refine aH (XD h1) fun n hn o2=>?_;clear h1;obtain rfl:=o2;refine jS (JG h2) fun D o1 d1 d2 d3=>?_;clear h2;obtain rfl:=o1;refine jS (JG h3) fun E o1 e1 e2 e3=>?_;clear h h3;obtain rfl:=o1;refine OB (QX hn d1 d2 d3 e1 e2 e3 (a:=a) (b:=b)) fun rows st e hi l a' b' g q=>?_;exact⟨((rows,st,e,hi,l),a',b'),fun _=>⟨g,q⟩⟩
 |false=>exact⟨(([],0,0,0,[]),0,0),fun h=>aP h⟩
def Aq(a b:Int)(l d e:List MV):pP (List R3×Nat×Nat×Nat×List Nat):=Classical.choose (s_ex a b l d e)
theorem E0(a b:Int)(l d e:List MV)(h:(xY l&&(mH 3 d&&mH 3 e))=true):(rK (Aq a b l d e).1).Ok/\∀k,rSq [bJ a b,.lst l,Ak d e] k=k ⟨aB (rK (Aq a b l d e).1),true,[bJ (Aq a b l d e).2.1 (Aq a b l d e).2.2]⟩:=sy (s_ex a b l d e) h
theorem QY:Runs (DF bf bB) (tm []) gM (TM Aq):=fun cs k ah e0=>by
 refine fq (XA e0) fun x y z o3 e1=>?_;obtain rfl:=o3;refine cF (rD e1) fun a b o2 e2=>?_;obtain rfl:=o2;refine aH (ug e2) fun l o1 e3=>?_;obtain rfl:=o1;refine cF (XC e3) fun d g o2 e4=>?_;clear e0 e1 e2 e3;obtain rfl:=o2;refine oA (lY e4) fun q e=>?_;exact((E0 a b l d g (Dt q)).2 k).trans e
end
section
abbrev dg:Fn:=qj
structure As where
 o:j8
 o1:mC
 q:Int->Int->pP (List Nat)
 c:Nat->Int->Int->pP (List Nat)
 f:Int->Int->List MV->pP (Nat×Nat×List Nat)
 s:Int->Int->List MV->List MV->List MV->pP (List R3×Nat×Nat×Nat×List Nat)
def rPc(O:As):List (Str×Entry):=[(.ofString "_law_one",eK g9 (SN O.o1)),(.ofString "_law_frame",eK v8 (spF O.f)),(.ofString "_law_codes",eK v7 (spC O.c)),(.ofString "_law_quants",eK uW (spQ O.q)),(.ofString "_law_take",eK j7 (Ji O.o)),(.ofString "_law_scan",eK xQ (TM O.s))]
def JH(O:As):fE:=tl (rPc O)
abbrev fM(O:As)(n:Nat):Ev:=EV (JH O) (tm []) dg n
def frPc(vs:List (Str×MV)):Fr:=⟨dg.sc,([("source",.own "source"),("some",.own "some")]:List (Str×MV))++vs⟩
def cW(vs:List (Str×MV))(S:List MV)(a b:Int):St:=⟨[frPc vs],[("source",bJ a b),("some",.lst S)]⟩
def Au(e:Expr):Expr:=(FO e).e
def asgP(O:As)(x:Str)(K:cI->St->Option aJ)(v:MV)(st:St):Option aJ:=kR ⟨JH O,tm [],consts,dg.mv,lG dg.ps dg.ms,dg.ba⟩ x v true st fun st=>K .aL st
def Vw(O:As)(K:cI→St→Option aJ)(v:MV)(st:St):Option aJ:=cU v st fun b'=>DP (.lst [aB .kj]) b' fun v=>asgP O "some" K v st
variable{O:As}{a b:Int}{K:cI->St->Option aJ}
theorem pc0:aC (fM O 30) (dg.body.take 1) (ez dg [bJ a b]) K=gd [(decide (0<=1+O.o.D a b 2)&&decide (1+O.o.D a b 2<100000),true)]
  (kq (fM O 27) (Au (rJ (Hd.d7 dg.body 0))) (cH (1+O.o.D a b 2).toNat 0) ⟨dg.sc,[("source",.own "source")]⟩ [("source",bJ (O.o.A a b 2) (O.o.B a b 2))] (Vw O K)):=by kernel_rfl!
theorem pc0a:kq (fM O 27) (Au (rJ (Hd.d7 dg.body 0))) (cH 1 0) ⟨dg.sc,[("source",.own "source")]⟩ [("source",bJ a b)] (Vw O K) =
  K .aL (cW [] [aB .kj,aB (.eU (O.q a b).1)] (O.q a b).2.1 (O.q a b).2.2):=by kernel_rfl!
theorem pc0b:kq (fM O 27) (Au (rJ (Hd.d7 dg.body 0))) (cH 2 0) ⟨dg.sc,[("source",.own "source")]⟩ [("source",bJ a b)] (Vw O K) =
  K .aL (cW [] [aB .kj,aB (.eU (O.q a b).1),aB (.eU (O.q (O.q a b).2.1 (O.q a b).2.2).1)] (O.q (O.q a b).2.1 (O.q a b).2.2).2.1 (O.q (O.q a b).2.1 (O.q a b).2.2).2.2):=by kernel_rfl!
variable{l:List Nat}
theorem pc1a(l1:0<l.length)(l2:l.length<=3):
  aC (fM O 30) ((dg.body.drop 1).take 1) (cW [] [aB .kj,aB (.eU l)] a b) K=K .aL (cW [("quants",.lst (iL l))] [aB .kj,aB (.eU l)] a b):=
 iJ l1 l2 (fun _=>by kernel_rfl!) (fun _ _=>by kernel_rfl!) (fun _ _ _=>by kernel_rfl!)
variable{m:List Nat}
theorem pc1b(l1:0<l.length)(l2:l.length<=3)(m1:0<m.length)(m2:m.length<=3):
  aC (fM O 30) ((dg.body.drop 1).take 1) (cW [] [aB .kj,aB (.eU l),aB (.eU m)] a b) K=K .aL (cW [("quants",.lst (iL (l++m)))] [aB .kj,aB (.eU l),aB (.eU m)] a b):=by
 refine iJ l1 l2 (fun _=>?_) (fun _ _=>?_) (fun _ _ _=>?_)
 all_goals exact iJ m1 m2 (fun _=>by kernel_rfl!) (fun _ _=>by kernel_rfl!) (fun _ _ _=>by kernel_rfl!)
variable{Q:List MV}
theorem pc2{S:List MV}:
  aC (fM O 30) ((dg.body.drop 2).take 1) (cW [("quants",.lst Q)] S a b) K=gd [(mH 100 Q,true),(decide (S.length≤ak),true)] (K .aL (cW [("quants",.lst Q)] (S++[aB (.iP (O.f a b Q).1.1 (O.f a b Q).1.2.1 (O.f a b Q).1.2.2)]) (O.f a b Q).2.1 (O.f a b Q).2.2)):=by kernel_rfl!
def JI(c0 c1:List Nat):MV:= .lst [aB (.iO 0 c0),aB (.iO 1 c1)]
theorem pc3{S:List MV}:
  aC (fM O 30) ((dg.body.drop 3).take 1) (cW [("quants",.lst Q)] S a b) K=K .aL (cW [("quants",.lst Q),("codes",JI (O.c 0 a b).1 (O.c 1 (O.c 0 a b).2.1 (O.c 0 a b).2.2).1)] S (O.c 1 (O.c 0 a b).2.1 (O.c 0 a b).2.2).2.1 (O.c 1 (O.c 0 a b).2.1 (O.c 0 a b).2.2).2.2):=by kernel_rfl!
noncomputable def nL:List MV:=[.none,.int 0,.int 1,.int 1]
def DG(Q:List MV)(c0 c1:List Nat)(i:MV):List (Str×MV):=[("quants",.lst Q),("codes",JI c0 c1),("interval",i)]
variable{c0 c1:List Nat}
theorem pc4{S:List MV}:
  aC (fM O 30) ((dg.body.drop 4).take 1) (cW [("quants",.lst Q),("codes",JI c0 c1)] S a b) K=cond (isInt (O.o1.v a b nL)) (K .aL (cW (DG Q c0 c1 (.int (i6 (O.o1.v a b nL)))) S (O.o1.A a b nL) (O.o1.B a b nL)))
   (K .aL (cW (DG Q c0 c1 .none) S (O.o1.A a b nL) (O.o1.B a b nL))):=by kernel_rfl!
theorem pc5n{S:List MV}:
  aC (fM O 30) ((dg.body.drop 5).take 1) (cW (DG Q c0 c1 .none) S a b) K=K .aL (cW (DG Q c0 c1 .none) S a b):=by kernel_rfl!
theorem pc5i{i:Nat}{S:List MV}:
  aC (fM O 30) ((dg.body.drop 5).take 1) (cW (DG Q c0 c1 (.int (i:Nat))) S a b) K=gd [(mG [.int 0,.int (i:Nat)]&&true,true),(decide (S.length<=ak),true)] (K .aL (cW (DG Q c0 c1 (.int (i:Nat))) (S++[aB (.qw i)]) a b)):=by kernel_rfl!
noncomputable def tM(tn:MV):List (Str×MV):=[("turn",tn)]
def jx(Q:List MV)(c0 c1:List Nat)(i:MV):List (Str×MV):=[("quants",.lst Q),("codes",JI c0 c1),("interval",i),("slots",Ak (iL c0) (iL c1))]
variable{i:MV}
theorem pc6{S:List MV}(l1:0<c0.length)(l2:c0.length<=3)(m1:0<c1.length)(m2:c1.length<=3):
  aC (fM O 30) ((dg.body.drop 6).take 1) (cW (DG Q c0 c1 i) S a b) K=K .aL (cW (jx Q c0 c1 i) S a b):=by
 refine iJ l1 l2 (fun _=>?_) (fun _ _=>?_) (fun _ _ _=>?_)
 all_goals exact iJ m1 m2 (fun _=>by kernel_rfl!) (fun _ _=>by kernel_rfl!) (fun _ _ _=>by kernel_rfl!)
theorem pc7{S:List MV}:
  aC (fM O 30) ((dg.body.drop 7).take 1) (cW (jx Q c0 c1 i) S a b) K=gd [(decide (S.length+2<=ak),true)] (K .aL (cW (jx Q c0 c1 i) (S++[aB (.iO 0 c0),aB (.iO 1 c1)]) a b)):=by kernel_rfl!
theorem pc9{tn:MV}{S:List MV}{k:Spec->Option aJ}:
  aC (fM O 30) (dg.body.drop 9) (cW (jx Q c0 c1 i++tM tn) S a b) (bh dg k)=gd [(decide (S.length+1<=ak),true)] (k ⟨.lst (S++[aB .eoi]),true,[bJ a b]⟩):=by kernel_rfl!
abbrev pT:Expr:=fG (Hd.d7 dg.body 8)
abbrev pB:List Stmt:=fH (Hd.d7 dg.body 8)
def Vx(O:As)(ys:List MV)(K:cI->St->Option aJ):cI->St->Option aJ:=fun f au=>match f with
 | .aL=>bO (fM O 29) pT pB ys au K
 | .ret v fr=>K (.ret v fr) au
theorem pc8{S:List MV}:
  aC (fM O 30) ((dg.body.drop 8).take 1) (cW (jx Q c0 c1 i) S a b) K=gd [(decide (0<=1+O.o.D a b 2)&&decide (1+O.o.D a b 2<100000),true)]
   (bO (fM O 29) pT pB (cH (1+O.o.D a b 2).toNat 0) (cW (jx Q c0 c1 i) S (O.o.A a b 2) (O.o.B a b 2)) (dZ (fM O 30) [] K)):=by kernel_rfl!
variable{j:MV}{ys:List MV}
theorem pc8a{S:List MV}:
  bO (fM O 29) pT pB (j::ys) (cW (jx Q c0 c1 i) S a b) K=aC (fM O 29) pB (cW (jx Q c0 c1 i++tM j) S a b) (Vx O ys K):=by kernel_rfl!
theorem pc8b{j':MV}{S:List MV}:
  bO (fM O 29) pT pB (j::ys) (cW (jx Q c0 c1 i++tM j') S a b) K=aC (fM O 29) pB (cW (jx Q c0 c1 i++tM j) S a b) (Vx O ys K):=by kernel_rfl!
theorem pc8d{S:List MV}:
  aC (fM O 29) (pB.drop 1) (cW (jx Q c0 c1 i++tM j) S a b) K=cond (decide (O.o.D a b 3=0)) (gd [(decide (S.length<=ak),true)] (K .aL (cW (jx Q c0 c1 i++tM j) (S++[aB .vO]) (O.o.A a b 3) (O.o.B a b 3))))
   (K .aL (cW (jx Q c0 c1 i++tM j) S (O.o.A a b 3) (O.o.B a b 3))):=by kernel_rfl!
noncomputable def kE(x y:Bool)(l m:List Nat)(c h:Nat)(q:List Nat)(i:Nat)(c0 c1:List Nat)(z:List bF):List bF:=
 [.kj,.eU l]++(cond x [.eU m] []++(.iP c h q::(cond y [.qw i] []++(.iO 0 c0:: .iO 1 c1::z))))
abbrev SR:Type:=List R3×Nat×Nat×Nat×List Nat
def zL:Option (SR×Bool)->List bF
 |none=>[]
 |some (p,e)=>rK p::cond e [.vO] []
theorem Vy{P:Nat->Prop}{c:Nat}(h:cu (c:Nat)=true)(h0:P 192)(h1:P 193)(h2:P 194)(h3:P 195)(h9:P 201)(h11:P 203):P c:=by
 rcases ff h with e|e|e|e|e|e<;>rw[Int.ofNat.inj e]<;>assumption
theorem pc8c{iv:MV}{x y:Bool}{c h:Nat}{q:List Nat}{i:Nat}{z:Option (SR×Bool)}(hc:cu (c:Nat)=true):
  aC (fM O 29) (pB.take 1) (cW (jx Q c0 c1 iv++tM j) ((kE x y l m c h q i c0 c1 (zL z)).map aB) a b) K =
   gd [(decide ((dX (bV [1,2,7] q)).length<=ak),true),(xY (fW (dX (bV [1,2,7] q)))&&(mH 3 (iL c0)&&mH 3 (iL c1)),true)]
    (K .aL (cW (jx Q c0 c1 iv++tM j) ((kE x y l m c h q i c0 c1 (zL z)).map aB++[aB (rK (O.s a b (fW (dX (bV [1,2,7] q))) (iL c0) (iL c1)).1)])
     (O.s a b (fW (dX (bV [1,2,7] q))) (iL c0) (iL c1)).2.1 (O.s a b (fW (dX (bV [1,2,7] q))) (iL c0) (iL c1)).2.2)):=by
 refine Vy (P:=fun c=>aC (fM O 29) (pB.take 1) (cW (jx Q c0 c1 iv++tM j) ((kE x y l m c h q i c0 c1 (zL z)).map aB) a b) K =
   gd [(decide ((dX (bV [1,2,7] q)).length<=ak),true),(xY (fW (dX (bV [1,2,7] q)))&&(mH 3 (iL c0)&&mH 3 (iL c1)),true)]
    (K .aL (cW (jx Q c0 c1 iv++tM j) ((kE x y l m c h q i c0 c1 (zL z)).map aB++[aB (rK (O.s a b (fW (dX (bV [1,2,7] q))) (iL c0) (iL c1)).1)])
     (O.s a b (fW (dX (bV [1,2,7] q))) (iL c0) (iL c1)).2.1 (O.s a b (fW (dX (bV [1,2,7] q))) (iL c0) (iL c1)).2.2))) hc ?_ ?_ ?_ ?_ ?_ ?_
 all_goals
  induction x using Bool.casesOn<;>induction y using Bool.casesOn<;>first
  |(match z with
   |none=>kernel_rfl!
   |some (p,true)=>kernel_rfl!
   |some (p,false)=>kernel_rfl!)
end
section
def OP:As:=⟨bf,bB,Ca,xZ,rM,Aq⟩
variable{l:List Nat}
theorem DH{n:Nat}(h1:0<l.length)(h2:l.length<=n)(h3:∀x,x∈l->x<=3):mH n (iL l)=true:=by
 unfold mH;rw[vg,aM h1,aM h2];refine List.all_eq_true.mpr fun v m=>?_;refine aH (jr.mp m) fun x m' o2=>?_;clear m;obtain rfl:=o2;show(decide (0<=(x:Int))&&decide ((x:Int)<=3))=true;rw[aM (oH x),aM (show(x:Int)<=3 from Int.ofNat_le.mpr (h3 x m'))]
 rfl
theorem pre_ok{q:List Nat}(h1:0<q.length)(h2:q.length<=3):xY (fW (dX (bV [1,2,7] q)))=true/\(dX (bV [1,2,7] q)).length<=ak:=
 iJ h1 h2 (fun _=>⟨rfl,(by decide:1<=ak)⟩) (fun _ _=>⟨rfl,(by decide:2<=ak)⟩) (fun _ _ _=>⟨rfl,(by decide:3<=ak)⟩)
variable{a b:Int}
theorem few3:(decide (0<=1+bf.D a b 2)&&decide (1+bf.D a b 2<100000))=true/\((1+bf.D a b 2).toNat=1∨(1+bf.D a b 2).toNat=2):=by
 refine oA (draw (a:=a) (b:=b) (t:=2) (by decide)) fun g1 g2=>?_;refine oE (Int.eq_ofNat_of_zero_le g1) fun d e=>?_;rw[e]at g2 ⊢;rw[Int.add_comm];have g3:d<2:=Int.ofNat_lt.mp g2;refine⟨bk.mpr ⟨aM (oH (d+1)),aM (Int.ofNat_lt.mpr (kJ g3 (by decide):d+1<100000))⟩,?_⟩;show d+1=1∨d+1=2;exact lt2 g3 (.inl rfl) (.inr rfl)
structure yH(l:List Nat):Prop where
 one:0<l.length
 most:l.length<=3
 le:∀x,x∈l->x<=3
theorem yH.q(h:(bF.eU l).Ok):yH l:=⟨h.1,h.2.1,h.2.2⟩
theorem yH.c{k:Nat}(h:(bF.iO k l).Ok):yH l:=⟨h.2.1,h.2.2.1,h.2.2.2⟩
theorem LD {iv j : MV} {Q : List MV} {x y : Bool} {m : List Nat} {c h : Nat} {q : List Nat} {i : Nat} {c0 c1 : List Nat} {z : Option (SR × Bool)} (hc : (bF.iP c h q).Ok) (h0 : yH c0) (h1 : yH c1) (lz : ((kE x y l m c h q i c0 c1 (zL z)).map aB).length ≤ 100) :
    ∃ p e a' b', (rK p).Ok ∧ ∀ K, aC (fM OP 29) pB (cW (jx Q c0 c1 iv ++ tM j) ((kE x y l m c h q i c0 c1 (zL z)).map aB) a b) K =
      K .aL (cW (jx Q c0 c1 iv ++ tM j) ((kE x y l m c h q i c0 c1 (zL z)).map aB ++ (zL (some (p, e))).map aB) a' b') := by
  refine rU (hc) fun k1 k2 k3 k4 k5 => ?_
  try clear hc
  refine oA (pre_ok k3 k4) fun p1 p2 => ?_
  have g : (xY (fW (dX (bV [1, 2, 7] q))) && (mH 3 (iL c0) && mH 3 (iL c1))) = true := by
    rw [p1, DH h0.one h0.most h0.le, DH h1.one h1.most h1.le]
    rfl
  let r := Aq a b (fW (dX (bV [1, 2, 7] q))) (iL c0) (iL c1)
  have s1 : ∀ K, aC (fM OP 29) pB (cW (jx Q c0 c1 iv ++ tM j) ((kE x y l m c h q i c0 c1 (zL z)).map aB) a b) K = aC (fM OP 29) (pB.drop 1) (cW (jx Q c0 c1 iv ++ tM j) ((kE x y l m c h q i c0 c1 (zL z)).map aB ++ [aB (rK r.1)]) r.2.1 r.2.2) K := fun K => by
    rw [show pB = pB.take 1 ++ pB.drop 1 from (List.take_append_drop 1 pB).symm, bK]
    refine (pc8c k1).trans (bH ?_)
    rw [g, aM p2]
    rfl
  refine bE (decide (bf.D r.2.1 r.2.2 3 = 0)) (fun hd => ?_) fun hd => ?_
  · exact ⟨r.1, false, bf.A r.2.1 r.2.2 3, bf.B r.2.1 r.2.2 3, (E0 a b _ _ _ g).1, fun K => (s1 K).trans (pc8d.trans (by rw [show decide (OP.o.D r.2.1 r.2.2 3 = 0) = false from hd]; rfl))⟩
  ·
    refine ⟨r.1, true, bf.A r.2.1 r.2.2 3, bf.B r.2.1 r.2.2 3, (E0 a b _ _ _ g).1, fun K => (s1 K).trans (pc8d.trans ?_)⟩
    rw [show decide (OP.o.D r.2.1 r.2.2 3 = 0) = true from hd, aM (show ((kE x y l m c h q i c0 c1 (zL z)).map aB ++ [aB (rK r.1)]).length ≤ ak by rw [cG]; exact aI (eX lz 1) (by decide))]
    show K .aL (cW _ (((kE x y l m c h q i c0 c1 (zL z)).map aB ++ [aB (rK r.1)]) ++ [aB .vO]) _ _) = _
    rw [dH]
    rfl
end
section
theorem zb{z k:Nat}(h1:5<=k)(h2:k<=7):5+z<=z+k/\z+k<=7+z:=⟨Nat.add_comm 5 z▸gn h1 z,Nat.add_comm 7 z▸gn h2 z⟩
variable{x y:Bool}{l m c0 c1:List Nat}{h i:Nat}
theorem LF{c:Nat}{q:List Nat}{z w:List bF}:kE x y l m c h q i c0 c1 (z++w)=kE x y l m c h q i c0 c1 z++w:=by induction x using Bool.casesOn<;>induction y using Bool.casesOn<;>rfl
theorem AW{c:Nat}{q:List Nat}{z:List bF}:5+z.length<=(kE x y l m c h q i c0 c1 z).length/\(kE x y l m c h q i c0 c1 z).length<=7+z.length:=by
 induction x using Bool.casesOn<;>induction y using Bool.casesOn
 ·exact(show 5+z.length<=z.length+5/\z.length+5<=7+z.length from zb (by decide) (by decide))
 ·exact(show 5+z.length<=z.length+6/\z.length+6<=7+z.length from zb (by decide) (by decide))
 ·exact(show 5+z.length<=z.length+6/\z.length+6<=7+z.length from zb (by decide) (by decide))
 ·exact(show 5+z.length<=z.length+7/\z.length+7<=7+z.length from zb (by decide) (by decide))
theorem QZ{p:SR}{e:Bool}:1<=(zL (some (p,e))).length/\(zL (some (p,e))).length<=2:=by
 induction e using Bool.casesOn
 ·exact(show 1<=1/\1<=2 from⟨by decide,by decide⟩)
 ·exact(show 1<=2/\2<=2 from⟨by decide,by decide⟩)
theorem stepA(a b:Int):∃x l m a' b',yH l/\yH m/\∀K,aC (fM OP 30) (dg.body.take 1) (ez dg [bJ a b]) K=K .aL (cW [] ((.kj:: .eU l::cond x [.eU m] []:List bF).map aB) a' b'):=by
 refine oA (few3 (a:=a) (b:=b)) fun g1 g2=>?_;have h1:=(EY (bf.A a b 2) (bf.B a b 2)).1;have e:∀K,aC (fM OP 30) (dg.body.take 1) (ez dg [bJ a b]) K=kq (fM OP 27) (Au (rJ (Hd.d7 dg.body 0))) (cH (1+bf.D a b 2).toNat 0) ⟨dg.sc,[("source",.own "source")]⟩ [("source",bJ (bf.A a b 2) (bf.B a b 2))] (Vw OP K):=fun K=>pc0.trans (bH (by show fX [(decide (0≤1+bf.D a b 2)&&decide (1+bf.D a b 2<100000),true)]=true;rw[g1];rfl))
 rcases g2 with g|g
 ·rw[g]at e
  exact⟨false,_,_,_,_,.q h1,.q h1,fun K=>(e K).trans pc0a⟩
 ·rw[g]at e
  exact⟨true,_,_,_,_,.q h1,.q (EY _ _).1,fun K=>(e K).trans pc0b⟩
theorem stepB(hl:yH l)(hm:yH m)(a b:Int):∃Q:List Nat,mH 100 (iL Q)=true/\∀K,aC (fM OP 30) ((dg.body.drop 1).take 1) (cW [] ((.kj:: .eU l::cond x [.eU m] []:List bF).map aB) a b) K =
  K .aL (cW [("quants",.lst (iL Q))] ((.kj:: .eU l::cond x [.eU m] []:List bF).map aB) a b):=by
 induction x using Bool.casesOn with
 |false=>exact⟨l,DH hl.one (aI hl.most (by decide)) hl.le,fun K=>pc1a hl.one hl.most⟩
 |true=>
  refine⟨l++m,DH ?_ ?_ fun x h=>?_,fun K=>pc1b hl.one hl.most hm.one hm.most⟩
  ·rw[cG];exact Nat.add_pos_left hl.one _
  ·rw[cG];exact aI (dz hl.most hm.most) (by decide)
  ·exact(bR.mp h).elim (hl.le x) (hm.le x)
theorem uo{n:Nat}(h:n<=100):decide (n<=ak)=true:=aM (aI h (by decide))
variable{Q:List Nat}{R:List bF}
theorem stepC(hQ:mH 100 (iL Q)=true)(lR:R.length≤90)(a b:Int):∃c h q a' b',(bF.iP c h q).Ok∧∀K,aC (fM OP 30) ((dg.body.drop 2).take 1) (cW [("quants",.lst (iL Q))] (R.map aB) a b) K =
  K .aL (cW [("quants",.lst (iL Q))] ((R++[bF.iP c h q]).map aB) a' b'):=by
 refine⟨_,_,_,(rM a b (iL Q)).2.1,(rM a b (iL Q)).2.2,(LC a b (iL Q) hQ).1,fun K=>pc2.trans ((bH ?_).trans ?_)⟩
 ·rw[hQ,bI,uo (aI lR (by decide))]
  rfl
 ·rw[iY]
  rfl
theorem stepD{S:List MV}(a b:Int):∃c0 c1 a' b',(bF.iO 0 c0).Ok∧(bF.iO 1 c1).Ok∧∀K,aC (fM OP 30) ((dg.body.drop 3).take 1) (cW [("quants",.lst (iL Q))] S a b) K =
  K .aL (cW [("quants",.lst (iL Q)),("codes",JI c0 c1)] S a' b'):=by
 have h0:=(EZ 0 a b (by decide)).1;have h1:=(EZ 1 (xZ 0 a b).2.1 (xZ 0 a b).2.2 (by decide)).1;exact⟨_,_,_,_,h0,h1,fun K=>pc3⟩
theorem stepE{Q:List MV}(lR:R.length≤90)(a b:Int):∃y i iv a' b',i≤1∧∀K,aC (fM OP 30) ((dg.body.drop 4).take 1++(dg.body.drop 5).take 1) (cW [("quants",.lst Q),("codes",JI c0 c1)] (R.map aB) a b) K =
  K .aL (cW (DG Q c0 c1 iv) ((R++cond y [bF.qw i] []).map aB) a' b'):=by
 have m:=uh (a:=a) (b:=b) (l:=nL) (by decide);have e:∀K,aC (fM OP 30) ((dg.body.drop 4).take 1++(dg.body.drop 5).take 1) (cW [("quants",.lst Q),("codes",JI c0 c1)] (R.map aB) a b) K=cond (isInt (bB.v a b nL)) _ _:=fun K=>by rw[bK];exact pc4
 refine bE (isInt (bB.v a b nL)) (fun h=>?_) fun h=>?_
 ·
  refine⟨false,0,.none,bB.A a b nL,bB.B a b nL,by decide,fun K=>(e K).trans ?_⟩;rw[h];exact pc5n.trans (by rw[show R++cond false [bF.qw 0] []=R from fU R];rfl)
 ·
  have z:∀v:MV,v∈nL->isInt v=true->∃i:Nat,i<=1/\i6 v=(i:Nat):=by
   intro v m g
   rcases cC.mp m with rfl|m
   ·exact aP g
   rcases cC.mp m with rfl|m
   ·exact⟨0,by decide,rfl⟩
   rcases cC.mp m with rfl|m
   ·exact⟨1,by decide,rfl⟩
   ·rw[bQ.mp m];exact⟨1,by decide,rfl⟩
  refine aH (z _ m h) fun i hi ei=>?_;refine⟨true,i,.int (i:Nat),bB.A a b nL,bB.B a b nL,hi,fun K=>(e K).trans ?_⟩;rw[h];show dZ (fM OP 30) ((dg.body.drop 5).take 1) K .aL (cW (DG Q c0 c1 (.int (i6 (bB.v a b nL)))) (R.map aB) (bB.A a b nL) (bB.B a b nL))=_;rw[ei];refine pc5i.trans ((bH ?_).trans ?_)
  ·rw[bI,uo (aI lR (by decide))]
   show cond (true&&(decide (0<=(i:Int))&&decide ((i:Int)<=255)&&true)&&true) _ false=true;rw[ni (aI hi (by decide))]
   rfl
  ·rw[iY]
   rfl
theorem stepH{iv:MV}{Q:List MV}{c:Nat}{q:List Nat}(hc:(bF.iP c h q).Ok)(h0:yH c0)(h1:yH c1)(a b:Int):
  ∃Z tn a' b',(∀r,r∈Z->r.Ok)/\1<=Z.length/\Z.length<=4/\∀K,aC (fM OP 30) ((dg.body.drop 8).take 1) (cW (jx Q c0 c1 iv) ((kE x y l m c h q i c0 c1 []).map aB) a b) K =
   K .aL (cW (jx Q c0 c1 iv++tM tn) ((kE x y l m c h q i c0 c1 Z).map aB) a' b'):=by
 refine oA (few3 (a:=a) (b:=b)) fun g1 g2=>?_;have e:∀K,aC (fM OP 30) ((dg.body.drop 8).take 1) (cW (jx Q c0 c1 iv) ((kE x y l m c h q i c0 c1 []).map aB) a b) K=bO (fM OP 29) pT pB (cH (1+bf.D a b 2).toNat 0) (cW (jx Q c0 c1 iv) ((kE x y l m c h q i c0 c1 []).map aB) (bf.A a b 2) (bf.B a b 2)) (dZ (fM OP 30) [] K):=
  fun K=>pc8.trans (bH (by show fX [(decide (0<=1+bf.D a b 2)&&decide (1+bf.D a b 2<100000),true)]=true;rw[g1];rfl))
 have zok:∀p e,(rK p).Ok->∀r,r∈zL (some (p,e))->r.Ok:=fun p e hp r m=>by
  rcases cC.mp m with rfl|m
  ·exact hp
  ·induction e using Bool.casesOn with
   |false=>exact nomatch m
   |true=>rw[bQ.mp m];exact trivial
 have sl:((kE x y l m c h q i c0 c1 []).map aB).length<=100:=by rw[bI];exact aI AW.2 (by decide)
 refine Hi (LD (a:=bf.A a b 2) (b:=bf.B a b 2) (iv:=iv) (j:= .int 0) (Q:=Q) (x:=x) (y:=y) (l:=l) (m:=m) (i:=i) (z:=none) hc h0 h1 sl) fun p f a1 b1 hp t1=>?_;refine oA (QZ (p:=p) (e:=f)) fun zl1 zl2=>?_;have ap:(kE x y l m c h q i c0 c1 (zL none)).map aB++(zL (some (p,f))).map aB=(kE x y l m c h q i c0 c1 (zL (some (p,f)))).map aB:=by
  rw[←iY,←LF]
  rfl
 rcases g2 with g|g
 ·rw[g]at e
  refine⟨zL (some (p,f)),.int 0,a1,b1,zok p f hp,zl1,aI zl2 (by decide),fun K=>(e K).trans (pc8a.trans ((t1 _).trans ?_))⟩;rw[ap]
  rfl
 ·rw[g]at e
  have Zb:((kE x y l m c h q i c0 c1 (zL (some (p,f)))).map aB).length<=100:=by rw[bI];exact aI AW.2 (by lia)
  refine Hi (LD (a:=a1) (b:=b1) (iv:=iv) (j:= .int (0+1)) (Q:=Q) (x:=x) (y:=y) (l:=l) (m:=m) (i:=i) (z:=some (p,f)) hc h0 h1 Zb) fun p2 f2 a2 b2 hp2 t2=>?_;refine oA (QZ (p:=p2) (e:=f2)) fun zl3 zl4=>?_;refine⟨zL (some (p,f))++zL (some (p2,f2)),.int (0+1),a2,b2,fun r m=>(bR.mp m).elim (zok p f hp r) (zok p2 f2 hp2 r),by rw[cG];exact Nat.le_add_right_of_le zl1,by rw[cG];lia,fun K=>(e K).trans (pc8a.trans ((t1 _).trans ?_))⟩;rw[ap];refine(pc8b (ys:=[])).trans ((t2 _).trans ?_);rw[LF,iY]
  rfl
theorem XE:dg.body=dg.body.take 1++((dg.body.drop 1).take 1++((dg.body.drop 2).take 1++((dg.body.drop 3).take 1++(((dg.body.drop 4).take 1++(dg.body.drop 5).take 1)++((dg.body.drop 6).take 1++((dg.body.drop 7).take 1++((dg.body.drop 8).take 1++dg.body.drop 9))))))):=by kernel_rfl
structure gW(R:List bF)(lo hi:Nat):Prop where
 lo:lo<=R.length
 hi:R.length<=hi
 ok:∀r,r∈R->r.Ok
theorem N5(a b:Int):∃R a' b',gW R 7 12/\∀k,cj (JH OP) (tm []) consts dg [bJ a b] k=k ⟨.lst (R.map aB),true,[bJ a' b']⟩:=by
 refine Rh (stepA a b) fun x l m a1 b1 hl hm eA=>?_;refine aH (stepB (x:=x) hl hm a1 b1) fun Q hQ eB=>?_;have lx:(bF.kj:: .eU l::cond x [.eU m] []:List bF).length<=3:=by induction x using Bool.casesOn<;>exact Nat.le_of_ble_eq_true rfl
 refine Ay (stepC hQ (R:= .kj:: .eU l::cond x [.eU m] []) (aI lx (by decide)) a1 b1) fun c h q a2 b2 hc eC=>?_;refine KS (stepD (Q:=Q) (S:=((.kj:: .eU l::cond x [.eU m] []:List bF)++[bF.iP c h q]).map aB) a2 b2) fun c0 c1 a3 b3 h0 h1 eD=>?_;refine Ay (stepE (Q:=iL Q) (c0:=c0) (c1:=c1) (R:=(.kj:: .eU l::cond x [.eU m] []:List bF)++[bF.iP c h q]) (by rw[cG];show _+1<=90;lia) a3 b3) fun y i iv a4 b4 hi eE=>?_;refine xr (stepH (iv:=iv) (Q:=iL Q) (x:=x) (y:=y) (l:=l) (m:=m) (i:=i) hc (.c h0) (.c h1) a4 b4) fun Z tn a5 b5 hZ z1 z2 eH=>?_;have sl:=AW (x:=x) (y:=y) (l:=l) (m:=m) (c:=c) (h:=h) (q:=q) (i:=i) (c0:=c0) (c1:=c1) (z:=Z);have sl0:=AW (x:=x) (y:=y) (l:=l) (m:=m) (c:=c) (h:=h) (q:=q) (i:=i) (c0:=c0) (c1:=c1) (z:=[]);refine⟨kE x y l m c h q i c0 c1 Z++[.eoi],a5,b5,⟨by rw[cG];show 7<=_+1;lia,by rw[cG];show _+1<=12;lia,fun r mr=>?_⟩,fun k=>?_⟩
 ·rcases bR.mp mr with mr|mr
  ·have gH:(bF.eU l).Ok:=⟨hl.one,hl.most,hl.le⟩
   have UK:(bF.eU m).Ok:=⟨hm.one,hm.most,hm.le⟩;have za:(bF.qw i).Ok:=hi;have g:∀r,r∈kE x y l m c h q i c0 c1 Z->r= .kj∨r= .eU l∨r= .eU m∨r= .iP c h q∨r= .qw i∨r= .iO 0 c0∨r= .iO 1 c1∨r∈Z:=by
    intro r mr
    induction x using Bool.casesOn<;>induction y using Bool.casesOn<;>simp[kE]at mr<;>grind
   rcases g r mr with rfl|rfl|rfl|rfl|rfl|rfl|rfl|mr
   ·trivial
   ·exact gH
   ·exact UK
   ·exact hc
   ·exact za
   ·exact h0
   ·exact h1
   ·exact hZ r mr
  ·rw[bQ.mp mr];trivial
 ·show aC (fM OP 30) dg.body (ez dg [bJ a b]) (bh dg k)=_
  rw[XE,bK,eA];show aC (fM OP 30) _ _ (bh dg k)=_;rw[bK,eB];show aC (fM OP 30) _ _ (bh dg k)=_;rw[bK,eC];show aC (fM OP 30) _ _ (bh dg k)=_;rw[bK,eD];show aC (fM OP 30) _ _ (bh dg k)=_;rw[bK,eE];show aC (fM OP 30) _ _ (bh dg k)=_;rw[bK];refine(pc6 h0.2.1 h0.2.2.1 h1.2.1 h1.2.2.1).trans ?_;show aC (fM OP 30) _ _ (bh dg k)=_;have es:(((.kj:: .eU l::cond x [.eU m] []:List bF)++[bF.iP c h q])++cond y [.qw i] [])++[.iO 0 c0,.iO 1 c1]=kE x y l m c h q i c0 c1 []:=by induction x using Bool.casesOn<;>induction y using Bool.casesOn<;>rfl
  rw[bK];refine pc7.trans ((bH ?_).trans ?_)
  ·have e2:=bq List.length es
   rw[cG]at e2;have e2:_+2=_:=e2;rw[bI,e2,uo (aI sl0.2 (by decide))]
   rfl
  ·have e3:((((.kj:: .eU l::cond x [.eU m] []:List bF)++[bF.iP c h q])++cond y [bF.qw i] []).map aB)++[aB (.iO 0 c0),aB (.iO 1 c1)]=(kE x y l m c h q i c0 c1 []).map aB:=(iY (f:=aB) (l₂:=[.iO 0 c0,.iO 1 c1])).symm.trans (bq (List.map aB) es)
   rw[e3];show aC (fM OP 30) _ _ (bh dg k)=_;rw[bK,eH];refine pc9.trans ((bH ?_).trans ?_)
   ·rw[bI,uo (by lia)]
    rfl
   ·rw[iY]
    rfl
end
set_option tactic.hygienic true
section
abbrev Bw:Fn:=nJ
abbrev EBe(o:j8)(n:Nat):Ev:=EV (Bv o) (tm []) Bw n
def N6(X:List MV)(to kC xg:Int)(ex:List (Str×MV))(a b:Int):St:=⟨[⟨Bw.sc,([("source",.own "source"),("some",.lst X),("to",.int to),("at",.int kC),("way",.int xg)]:List (Str×MV))++ex⟩],[("source",bJ a b)]⟩
abbrev N7:Stmt->Expr:=Df
abbrev TN:Stmt->List Stmt:=G3
def G9(o:j8)(n:Nat)(s1:List MV)(e2:Expr)(k:Spec->Option aJ):MV->St->Option aJ:=fun t au=>cU (.lst s1) au fun a'=>cU (.lst [t]) au fun b'=>Hy .Add a' b' fun v=>
 (EBe o n).ex e2 au fun b _ bX=>cU v bX fun a'=>cU b bX fun b'=>Hy .Add a' b' fun v=>bh Bw k (.ret v true) bX
def JJ(X:List MV)(i:Int):Bool:=eZ i&&(decide (-(X.length:Int)<=i)&&decide (i<X.length))
noncomputable def Vz(X:List MV)(i:Int):MV:=X.getD (cond (decide (i<0)) (i+X.length) i).toNat .none
def uc(X:List MV)(i:Int):List MV:=cut X none (some i)++cut X (some (i+1)) none
def qC(X:List MV):Bool×Bool:=(decide (X.length<=ak),true)
def Q0(o:j8)(X:List MV)(xg kC to a b:Int)(k:Spec->Option aJ):Option aJ:=
 cond (decide (xg=0)) (gd [qC X,qC X,(decide ((cut X none (some kC)).length+(cut X (some (kC+1)) none).length<=ak),true)] (k ⟨.lst (uc X kC),true,[bJ a b]⟩))
  (cond (decide (xg=1)) (gd [qC X,(JJ X kC,true)] (bW (Vz X kC) (N6 X to kC xg [] a b) (G9 o 27 (cut X none (some kC)) (Au (N7 (Hd.d7 (TN (Hd.d7 Bw.body 2)) 0))) k)))
   (gd [qC X,qC X,(decide ((cut X none (some kC)).length+(cut X (some (kC+1)) none).length<=ak),true),qC (uc X kC),(JJ X kC,true)]
    (bW (Vz X kC) (N6 X to kC xg [("rest",.lst (uc X kC))] a b) (G9 o 28 (cut (uc X kC) none (some to)) (Au (N7 (Hd.d7 Bw.body 4))) k))))
def be0(o:j8)(X:List MV)(xg kC a b:Int)(k:Spec->Option aJ):Option aJ:=gd [qC X,(decide (0<(X.length:Int))&&small (X.length:Int),true)] (Q0 o X xg kC (o.D a b X.length) (o.A a b X.length) (o.B a b X.length) k)
def beX(o:j8)(X:List MV)(xg a b:Int)(k:Spec->Option aJ):Option aJ:=gd [qC X,(decide (0<(X.length:Int))&&small (X.length:Int),true)] (be0 o X xg (o.D a b X.length) (o.A a b X.length) (o.B a b X.length) k)
variable{o:j8}{a b:Int}{X:List MV}{k:Spec->Option aJ}
theorem be_run:cj (Bv o) (tm []) consts Bw [bJ a b,.lst X] k=beX o X (o.D a b 4) (o.A a b 4) (o.B a b 4) k:=by kernel_rfl!
variable{s1 t:List MV}{to kC xg:Int}
theorem be_c1:G9 o 27 s1 (Au (N7 (Hd.d7 (TN (Hd.d7 Bw.body 2)) 0))) k (.tup t) (N6 X to kC xg [] a b) =
  gd [(decide (s1.length+1<=ak),true),qC X,(decide ((s1++[MV.tup t]).length+(cut X (some kC) none).length<=ak),true)] (k ⟨.lst ((s1++[MV.tup t])++cut X (some kC) none),true,[bJ a b]⟩):=by kernel_rfl!
theorem be_c2{Y:List MV}:G9 o 28 s1 (Au (N7 (Hd.d7 Bw.body 4))) k (.tup t) (N6 X to kC xg [("rest",.lst Y)] a b) =
  gd [(decide (s1.length+1<=ak),true),qC Y,(decide ((s1++[MV.tup t]).length+(cut Y (some to) none).length<=ak),true)] (k ⟨.lst ((s1++[MV.tup t])++cut Y (some to) none),true,[bJ a b]⟩):=by kernel_rfl!
end
set_option tactic.hygienic false
section
variable{β:Type}{i:Nat}
theorem Q2{l:List β}(h:i<=l.length):cut l none (some (i:Int))=l.take i:=by
 have h1:AA l.length (some (i:Int))=(i:Nat):=by
  refine(?_:cond (decide ((i:Int)<0)) (cond (decide ((i:Int)+l.length<0)) 0 ((i:Int)+l.length)) (cond (decide ((l.length:Int)<(i:Int))) (l.length:Int) (i:Int))=_);rw[gF (show ¬(i:Int)<0 by exact Int.not_ofNat_neg i),gF (show ¬(l.length:Int)<(i:Int)by lia)]
  rfl
 unfold cut;dsimp only;rw[h1]
 rfl
theorem JK{l:List β}(h:i<=l.length):cut l (some (i:Int)) none=l.drop i:=by
 have h1:Az l.length (some (i:Int))=(i:Nat):=by
  refine(?_:cond (decide ((i:Int)<0)) (cond (decide ((i:Int)+l.length<0)) 0 ((i:Int)+l.length)) (cond (decide ((l.length:Int)<(i:Int))) (l.length:Int) (i:Int))=_);rw[gF (show ¬(i:Int)<0 by exact Int.not_ofNat_neg i),gF (show ¬(l.length:Int)<(i:Int)by lia)]
  rfl
 unfold cut;dsimp only;rw[h1];refine(?_:(l.take l.length).drop i=_);rw[List.take_length]
theorem VA{a b:Int}{n:Nat}(h:0<n):∃i:Nat,bf.D a b n=(i:Nat)/\i<n:=by
 refine oA (draw (a:=a) (b:=b) (t:=n) (Int.natCast_pos.mpr h)) fun g1 g2=>?_;exact⟨(bf.D a b n).toNat,by exact Int.eq_natCast_toNat.mpr g1,by exact(Int.toNat_lt g1).mpr g2⟩
theorem JL{t:List MV}{st:St}{k:MV->St->Option aJ}:bW (.tup t) st k=k (.tup t) st:=rfl
def N8(r:bF):List MV:=[.str r.name,r.told,.bytes r.w5,.bytes r.dat]
theorem JM{R:List bF}{lo hi:Nat}(h:gW R (lo+1) hi)(F0:hi<=90)(a b:Int):∃R' a' b',gW R' lo (hi+1)/\∀k,cj (Bv bf) (tm []) consts Bw [bJ a b,.lst (R.map aB)] k=k ⟨.lst (R'.map aB),true,[bJ a' b']⟩:=by
 obtain⟨h1,h2,h3⟩:=h;have hR:R.length<=90:=aI h2 F0;have lX:(R.map aB).length=R.length:=bI _;have pos:0<R.length:=nu (kg _) h1
 let a1:=bf.A a b 4
 let b1:=bf.B a b 4
 refine aH (VA (a:=a1) (b:=b1) pos) fun i ei yI=>?_
 let a2:=bf.A a1 b1 R.length
 let b2:=bf.B a1 b1 R.length
 refine aH (VA (a:=a2) (b:=b2) pos) fun j ej VB=>?_
 let a3:=bf.A a2 b2 R.length
 let b3:=bf.B a2 b2 R.length
 have s1:small (R.length:Int)=true:=by
  unfold small;rw[aM (by exact(Int.toNat_lt' pos).mp pos),aM (by exact Int.ofNat_le.mpr (aI hR (by decide)))]
  rfl
 have lT:qC (R.map aB)=(true,true):=by unfold qC;rw[lX,uo (aI hR (by decide))]
 have g:∀k,cj (Bv bf) (tm []) consts Bw [bJ a b,.lst (R.map aB)] k=Q0 bf (R.map aB) (bf.D a b 4) (i:Nat) (j:Nat) a3 b3 k:=fun k=>by
  refine be_run.trans ((bH ?_).trans ((bH ?_).trans ?_))
  ·rw[lT,lX,s1,aM (Int.natCast_pos.mpr pos)];rfl
  ·rw[lT,lX,s1,aM (Int.natCast_pos.mpr pos)];rfl
  ·rw[lX,ei,ej]
 have c1:cut (R.map aB) none (some ((i:Nat):Int))=(R.take i).map aB:=(Q2 (by rw[lX];exact Nat.le_of_succ_le yI)).trans (List.map_take).symm;have c2:cut (R.map aB) (some (((i:Nat):Int)+1)) none=(R.drop (i+1)).map aB:=(JK (i:=i+1) (by rw[lX];exact Nat.succ_le_of_lt yI)).trans (List.map_drop).symm;have c3:cut (R.map aB) (some ((i:Nat):Int)) none=(R.drop i).map aB:=(JK (by rw[lX];exact Nat.le_of_succ_le yI)).trans (List.map_drop).symm;have l1:(R.take i).length=i:=List.length_take_of_le (Nat.le_of_lt yI);have l2:(R.drop (i+1)).length=R.length - (i+1):=List.length_drop;have l3:(R.drop i).length=R.length - i:=List.length_drop;have cr:uc (R.map aB) (i:Nat)=(R.take i++R.drop (i+1)).map aB:=by
  unfold uc;rw[c1,c2,iY]
 have lr:(R.take i++R.drop (i+1)).length=R.length - 1:=by rw[cG,l1,l2,Nat.add_comm i 1,←Nat.sub_sub,Nat.add_sub_of_le (Nat.le_sub_one_of_lt yI)]
 have at1:Vz (R.map aB) (i:Nat)= .tup (N8 R[i]):=by
  unfold Vz;rw[gF (show ¬((i:Nat):Int)<0 by exact Int.not_ofNat_neg i)];refine(?_:(R.map aB).getD i .none=_);rw[List.getD_eq_getElem?_getD,List.getElem?_map,List.getElem?_eq_getElem yI]
  rfl
 have ix:JJ (R.map aB) (i:Nat)=true:=by
  unfold JJ;rw[lX];exact G5 (j:=i) (n:=R.length) yI (aI hR (by decide))
 have ok1:∀r,r∈R.take i->r.Ok:=fun r m=>h3 r (List.mem_of_mem_take m);have ok2:∀r,r∈R.drop (i+1)->r.Ok:=fun r m=>h3 r (List.mem_of_mem_drop m);have ok3:∀r,r∈R.drop i->r.Ok:=fun r m=>h3 r (List.mem_of_mem_drop m);have oki:R[i].Ok:=h3 _ (List.getElem_mem yI);have okr:∀r,r∈R.take i++R.drop (i+1)->r.Ok:=fun r m=>(bR.mp m).elim (ok1 r) (ok2 r);have sum:decide (((R.take i).map aB).length+((R.drop (i+1)).map aB).length<=ak)=true:=aM (by rw[bI,bI,l1,l2];exact aI (dz (aI (Nat.le_of_lt yI) hR) (aI (Nat.sub_le _ _) hR)) (by decide));have lT2:qC (uc (R.map aB) (i:Nat))=(true,true):=by unfold qC;rw[cr,bI,lr,uo (aI (Nat.sub_le _ _) (aI hR (by decide)))]
 have ap:∀{A B:List bF} {r:bF},(A.map aB++[.tup (N8 r)])++B.map aB=(A++r::B).map aB:=fun{A B r}=>by rw[iY,dH];rfl
 have okm:∀{A B:List bF} {r:bF},(∀r,r∈A->r.Ok)->r.Ok->(∀r,r∈B->r.Ok)->∀x,x∈A++r::B->x.Ok:=fun{A B r} ha hr hb x m=>(bR.mp m).elim (ha x) fun m=>(cC.mp m).elim (fun e=>e▸hr) (hb x);refine bT (decide (bf.D a b 4=0)) (fun w0=>?_) fun w0=>?_
 ·
  refine⟨R.take i++R.drop (i+1),a3,b3,⟨by rw[lr];exact(Nat.le_sub_one_iff_lt pos).mpr h1,by rw[lr];exact aI (Nat.sub_le _ _) (Nat.le_add_right_of_le h2),okr⟩,fun k=>(g k).trans ?_⟩;unfold Q0;rw[w0,lT,c1,c2,sum,cr]
  rfl
 ·
  refine bT (decide (bf.D a b 4=1)) (fun w1=>?_) fun w1=>?_
  ·
   have lz:(R.take i++R[i]::R.drop i).length=R.length+1:=by rw[cG,jl,l1,l3,←Nat.add_assoc,Nat.add_sub_of_le (Nat.le_of_lt yI)]
   refine⟨R.take i++R[i]::R.drop i,a3,b3,⟨by rw[lz];exact Nat.le_succ_of_le (Nat.le_of_succ_le h1),by rw[lz];exact eX h2 1,okm ok1 oki ok3⟩,fun k=>(g k).trans ?_⟩;unfold Q0;rw[w0,w1,lT,ix,at1,c1,JL];refine(bH rfl).trans (be_c1.trans ((bH ?_).trans ?_))
   ·rw[lT,c3,aM (show((R.take i).map aB).length+1<=ak by rw[bI,l1];exact aI yI (aI hR (by decide))),aM (show((R.take i).map aB++[MV.tup (N8 R[i])]).length+((R.drop i).map aB).length<=ak by rw[cG,bI,bI,l1,l3];exact aI (dz (aI yI hR) (aI (Nat.sub_le _ _) hR)) (by decide))]
    rfl
   ·rw[c3,ap]
  ·
   have hj:j<=(R.take i++R.drop (i+1)).length:=by rw[lr];exact(Nat.le_sub_one_iff_lt pos).mpr VB
   have d1:cut (uc (R.map aB) (i:Nat)) none (some ((j:Nat):Int))=((R.take i++R.drop (i+1)).take j).map aB:=by rw[cr];exact(Q2 (by rw[bI];exact hj)).trans (List.map_take).symm
   have d2:cut (uc (R.map aB) (i:Nat)) (some ((j:Nat):Int)) none=((R.take i++R.drop (i+1)).drop j).map aB:=by rw[cr];exact(JK (by rw[bI];exact hj)).trans (List.map_drop).symm
   have m1:((R.take i++R.drop (i+1)).take j).length=j:=by rw[List.length_take];exact Nat.min_eq_left hj
   have m2:((R.take i++R.drop (i+1)).drop j).length=R.length - 1 - j:=by rw[List.length_drop,lr]
   have lz:((R.take i++R.drop (i+1)).take j++R[i]::(R.take i++R.drop (i+1)).drop j).length=R.length:=by rw[cG,jl,m1,m2,←Nat.add_assoc,Nat.add_sub_of_le (Nat.le_sub_one_of_lt VB),Nat.sub_one_add_one (Nat.ne_of_gt pos)]
   refine⟨(R.take i++R.drop (i+1)).take j++R[i]::(R.take i++R.drop (i+1)).drop j,a3,b3,⟨by rw[lz];exact Nat.le_of_succ_le h1,by rw[lz];exact Nat.le_add_right_of_le h2,okm (fun r m=>okr r (List.mem_of_mem_take m)) oki (fun r m=>okr r (List.mem_of_mem_drop m))⟩,fun k=>(g k).trans ?_⟩;unfold Q0;rw[w0,w1,lT,lT2,ix,at1,d1,c1,c2,sum,JL];refine(bH rfl).trans (be_c2.trans ((bH ?_).trans ?_))
   ·rw[lT2,d2,aM (show(((R.take i++R.drop (i+1)).take j).map aB).length+1<=ak by rw[bI,m1];exact aI VB (aI hR (by decide))),aM (show(((R.take i++R.drop (i+1)).take j).map aB++[MV.tup (N8 R[i])]).length+(((R.take i++R.drop (i+1)).drop j).map aB).length<=ak by rw[cG,bI,bI,m1,m2];exact aI (dz (aI VB hR) (aI (Nat.sub_le _ _) (aI (Nat.sub_le _ _) hR))) (by decide))]
    rfl
   ·rw[d2,ap]
end
set_option tactic.hygienic true
section
abbrev VC:Fn:=uV
def TPt(a b c:bw):fE:=tl [(.ofString "name_of",nK),(.ofString "is_frame",sf),(.ofString "frame_text",eK uU a),(.ofString "scan_text",eK v5 b),(.ofString "tables_text",eK sX c),(.ofString "read_interval",lU),(.ofString "read_lines",oM)]
abbrev DI(a b c:bw):bw:=cj (TPt a b c) (tm []) consts VC
def x8(pc:MV)(n:Str)(k:Spec->Option aJ):Spec->Option aJ:=fun s=>
 cU s.val ⟨[⟨VC.sc,[("piece",pc),("n",.int 2),("name",.str n)]⟩],[]⟩ fun b'=>DP (.str (n++ " ")) b' fun v=>bh VC k (.ret v true) ⟨[⟨VC.sc,[("piece",pc),("n",.int 2),("name",.str n)]⟩],[]⟩
section
variable{a b c:bw}{p d:List Nat}{k:Spec->Option aJ}
theorem pt_soi:DI a b c [dM 216 p d,.int 2] k=k ⟨.str "SOI",false,[]⟩:=by kernel_rfl!
theorem pt_eoi:DI a b c [dM 217 p d,.int 2] k=k ⟨.str "EOI",false,[]⟩:=by kernel_rfl!
theorem pt_dnl:DI a b c [dM 220 [0,4] d,.int 2] k=k ⟨.str ("DNL" ++ " " ++ "4"),true,[]⟩:=by kernel_rfl!
theorem pt_dri{i:Nat}:DI a b c [dM 221 [0,i] d,.int 2] k=gd [(small ((0:Nat):Int)||small 256,true)] (jV [.i (hh i)] ("DRI" ++ " ") fun s=>k ⟨.str s,true,[]⟩):=by kernel_rfl!
theorem pt_dqt:DI a b c [dM 219 p d,.int 2] k=c [.int 219,.bytes p,.int 2] (x8 (dM 219 p d) "DQT" k):=by kernel_rfl!
theorem pt_dht:DI a b c [dM 196 p d,.int 2] k=c [.int 196,.bytes p,.int 2] (x8 (dM 196 p d) "DHT" k):=by kernel_rfl!
theorem pt_sos:DI a b c [dM 218 p d,.int 2] k=b [.bytes p,.bytes d] (x8 (dM 218 p d) "SOS" k):=by kernel_rfl!
theorem pt_sof{x:Int}(h:cu x=true):DI a b c [dM x p d,.int 2] k=a [.int x,.bytes p] (x8 (dM x p d) (ku x) k):=by
 rcases ff h with rfl|rfl|rfl|rfl|rfl|rfl<;>kernel_rfl!
variable{n:Str}
theorem Q3{pc:MV}{x:Str}{f:Bool}:x8 pc n k ⟨.str x,f,[]⟩=gd [(decide ((n++ " ").length+x.length≤ak),true)] (k ⟨.str (n++ " " ++x),true,[]⟩):=by kernel_rfl!
end
def N9(n s:Str):Prop:=s.length≤30000∧(s=n∨∃x,s=n++ " " ++x)
variable{r:bF}
theorem TQ(h:r.Ok):r.name.length<=100:=by
 induction r using bF.casesOn with
 |iP c ht q=>
  have z:∀c:Int,cu c=true->(ku c).length<=100:=by
   intro c hc
   rcases ff hc with rfl|rfl|rfl|rfl|rfl|rfl<;>decide +kernel
  exact z _ h.1
 |_=>exact bx (by kernel_rfl)
theorem vP{sp:bw}{args:List MV}{pc:MV}{k:Spec->Option aJ}(h:JB sp args)(hn:n.length<=100):∃s f,N9 n s/\sp args (x8 pc n k)=k ⟨.str s,f,[]⟩:=by
 have hz:ak=1000000:=rfl;refine cF (h (x8 pc n k)) fun s f l e=>?_;have l1:(" ":Str).length=1:=by decide +kernel
 have l2:(n++ " ").length+s.length≤30000:=by rw[iu];lia
 refine⟨n++ " " ++s,true,⟨by rw[iu];exact l2,.inr ⟨s,rfl⟩⟩,e.trans (Q3.trans (bH ?_))⟩;rw[aM (aI l2 (by decide))]
 rfl
abbrev Cb:bw:=DI Tu spSt JA
theorem pt_ok{k:Spec->Option aJ}(h:r.Ok):∃s f,N9 r.name s/\Cb [fh r,.int 2] k=k ⟨.str s,f,[]⟩:=by
 have hn:=TQ h
 induction r using bF.casesOn with
 |kj=>exact⟨_,_,⟨aI hn (by decide),.inl rfl⟩,pt_soi⟩
 |eoi=>exact⟨_,_,⟨aI hn (by decide),.inl rfl⟩,pt_eoi⟩
 |vO=>exact⟨_,_,⟨by decide +kernel,.inr ⟨"4",rfl⟩⟩,pt_dnl⟩
 |qw i=>
  have h:i<=1:=h;have z:([.i (hh i)]:List Itm).all Itm.ok=true:=by
   show(strOk (hh i)&&true)=true;rw[G4,strN i (by lia)]
   rfl
  refine⟨_,true,⟨aI (pM (l:=[.i (hh i)]) (acc:= "DRI" ++ " ") z) (show("DRI" ++ " ":Str).length+100≤30000 by decide +kernel),.inr ⟨_,rfl⟩⟩,pt_dri.trans ((bH rfl).trans (rH z (show("DRI" ++ " ":Str).length+100≤ak by decide +kernel)))⟩
 |eU l=>
  obtain⟨s,f,a,b⟩:=vP (says_q h.1 h.2.1 h.2.2) (n:= "DQT") hn;exact⟨s,f,a,pt_dqt.trans b⟩
 |iO q l=>
  obtain⟨s,f,a,b⟩:=vP (says_h h.1 h.2.1 h.2.2.1 h.2.2.2) (n:= "DHT") hn;exact⟨s,f,a,pt_dht.trans b⟩
 |iP c ht q=>
  refine rU (h) fun h0 h1 h2 h3 h4=>?_;try clear h;obtain⟨s,f,a,b⟩:=vP (NW h0 h1 h2 h3 h4) (n:=ku (c:Nat)) hn;exact⟨s,f,a,(pt_sof h0).trans b⟩
 |sV rows st e hi l=>
  obtain⟨s,f,a,b⟩:=vP (QM h) (n:= "SOS") hn;exact⟨s,f,a,pt_sos.trans b⟩
end
section
abbrev fR:Fn:=BW
def TR(sp:bw):fE:=tl [(.ofString "piece_text",eK uV sp),(.ofString "name_of",nK)]
abbrev ER(sp:bw)(n:Nat):Ev:=EV (TR sp) (tm []) fR n
def rT:Expr:=fG (Hd.d7 fR.body 1)
def rB:List Stmt:=fH (Hd.d7 fR.body 1)
def F1(xs W:List MV)(p:Option MV):St:=⟨[⟨fR.sc,match p with
 |none=>[("pieces",.lst xs),("n",.int 2),("found",.own "found")]
 |some x=>[("pieces",.lst xs),("n",.int 2),("found",.own "found"),("piece",x)]⟩],[("found",.lst W)]⟩
def Oa(sp:bw)(xs W ys:List MV)(x:MV)(K:cI→St→Option aJ):Spec→Option aJ:=fun s=>bW s.val (F1 xs W (some x)) fun t st=>Co "found" [t] st fun _ _ st=>bO (ER sp 29) rT rB ys st K
variable{xs:List MV}{K:cI->St->Option aJ}
theorem rp0{sp:bw}:aC (ER sp 30) (fR.body.take 2) (ez fR [.lst xs,.int 2]) K=bO (ER sp 29) rT rB xs (F1 xs [] none) (dZ (ER sp 30) [] K):=by kernel_rfl!
variable{W ys:List MV}{p:Option MV}
theorem rp1{sp:bw}{c:Int}{y z:List Nat}:
  bO (ER sp 29) rT rB (dM c y z::ys) (F1 xs W p) K=sp [dM c y z,.int 2] (Oa sp xs W ys (dM c y z) K):=by induction p using Option.casesOn<;>kernel_rfl!
theorem Q4{sp:bw}{x:MV}{s:Str}{f:Bool}(len:W.length<=ak):
  Oa sp xs W ys x K ⟨.str s,f,[]⟩=bO (ER sp 29) rT rB ys (F1 xs (W++[.str s]) (some x)) K:=by
 refine(show _=gd [(decide (W.length<=ak),true)] (bO (ER sp 29) rT rB ys (F1 xs (W++[.str s]) (some x)) K)by kernel_rfl!).trans (bH ?_);rw[aM len]
 rfl
variable{k:Spec->Option aJ}
theorem rp2{sp:bw}:aC (ER sp 30) (fR.body.drop 2) (F1 xs W p) (bh fR k)=k ⟨.lst W,true,[]⟩:=by induction p using Option.casesOn<;>kernel_rfl!
class inductive ya:List bF->List Str->Prop where
 |nil:ya [] []
 |cons {r s R ss:_}:N9 r.name s->ya R ss->ya (r::R) (s::ss)
theorem XF:∀(R:List bF) (W:List MV) (p:Option MV),(∀r,r∈R->r.Ok)->W.length+R.length<=ak->∃ss p',ya R ss/\
  bO (ER Cb 29) rT rB (R.map fh) (F1 xs W p) K=K .aL (F1 xs (W++ss.map MV.str) p'):=by
 intro x0
 induction x0 with
 |nil=>
  intro W p _ _;exact⟨[],p,.nil,by rw[List.map_nil,List.map_nil,fU];rfl⟩
 |cons r R ih=>
  intro W p h len;have len:W.length+(R.length+1)<=ak:=len;refine cF (pt_ok (r:=r) (k:=Oa Cb xs W (R.map fh) (fh r) K) (h r (.head _))) fun s f a b=>?_;refine cF (ih (W++[.str s]) (some (fh r)) (fun x m=>h x (.tail _ m)) (by rw[cG];exact aI (Nat.le_of_eq (Nat.add_right_comm _ _ _)) len)) fun ss p' a2 b2=>?_;refine⟨s::ss,p',.cons a a2,rp1.trans (b.trans ((Q4 (qd len)).trans (b2.trans ?_)))⟩;rw[dH]
  rfl
theorem rp_run{R:List bF}(h:∀r,r∈R->r.Ok)(len:R.length<=100):∃ss,ya R ss/\cj (TR Cb) (tm []) consts fR [.lst (R.map fh),.int 2] k=k ⟨.lst (ss.map MV.str),true,[]⟩:=by
 refine cF (XF (xs:=R.map fh) (K:=dZ (ER Cb 30) [] (dZ (ER Cb 30) (fR.body.drop 2) (bh fR k))) R [] none h (by show 0+R.length<=_;rw[Nat.zero_add];exact aI len (by decide))) fun ss p' a b=>?_;refine⟨ss,a,?_⟩;rw[iI 2];exact rp0.trans (b.trans rp2)
theorem XG{r:bF}(h:r.Ok):r.name.cps.toList.all (· != 32)=true:=by
 induction r using bF.casesOn with
 |iP c ht q=>
  have z:∀c:Int,cu c=true->(ku c).cps.toList.all (· != 32)=true:=by
   intro c hc
   rcases ff hc with rfl|rfl|rfl|rfl|rfl|rfl<;>decide +kernel
  exact z _ h.1
 |_=>exact(by kernel_rfl)
end
set_option tactic.hygienic false
section
open PySem.Builtin PySem.Builtin.Str
section
variable{s:Str}{i:Nat}
theorem TU:subAt s " " i=true↔s.cps.toList[i]?=some 32:=by
 unfold subAt;have e:(" ":Str).cps= #[32]:=by decide +kernel
 have l:(" ":Str).length=1:=by decide +kernel
 rw[e,l,beq_iff_eq,←Array.toList_inj,Array.toList_extract,List.extract_eq_take_drop,Nat.add_sub_cancel_left];cases h:s.cps.toList[i]? with
 |none=>
  rw[List.getElem?_eq_none_iff]at h;rw[List.drop_eq_nil_of_le h];exact⟨fun e=>(nomatch e),fun e=>(nomatch e)⟩
 |some v=>
  obtain⟨q,rfl⟩:=List.getElem?_eq_some_iff.mp h;rw[List.drop_eq_getElem_cons q];show [s.cps.toList[i]]= [32]↔_;exact⟨fun e=>bq some (List.cons.inj e).1,fun e=>bq (fun x=>[x]) (dm e)⟩
theorem LG(a b:Str):(a++b).cps.toList=a.cps.toList++b.cps.toList:=Array.toList_append
theorem XH{a b:Str}(h:a.cps.toList=b.cps.toList):a=b:=by
 obtain⟨⟨a⟩⟩:=a;obtain⟨⟨b⟩⟩:=b;cases h
 rfl
variable{n:Str}
theorem no32(h:n.cps.toList.all (· != 32)=true):n.cps.toList[i]?≠some 32:=fun e=>by
 have:=List.all_eq_true.mp h 32 (List.mem_of_getElem? e);exact Bool.noConfusion this
theorem Oc(h:n.cps.toList.all (· != 32)=true)(w:s=n∨∃x,s=n++ " " ++x):(Txt.split s " ")[0]?=some n:=by
 obtain⟨z,hz⟩:∃z,(Txt.split s " ")[0]?=some z:=⟨_,List.getElem?_eq_getElem (split_pos s " ")⟩;rw[hz];have q:=split_head s " " (by decide +kernel) z hz;have at0:∀x:Str,(n++ " " ++x).cps.toList=n.cps.toList++32::x.cps.toList:=fun x=>by
  rw[LG,LG,dH]
  rfl
 have len:∀s:Str,s.length=s.cps.toList.length:=fun s=>rfl
 rcases w with rfl|⟨x,rfl⟩
 ·rcases q with⟨rfl,-⟩|⟨i,-,⟨-,b⟩,-⟩
  ·rfl
  ·exact absurd (TU.mp b) (no32 h)
 ·have here:StrLaws.At (n++ " " ++x) " " (n++ " " ++x).length n.length:=by
   refine⟨?_,TU.mpr ?_⟩
   ·rw[iu,iu]
    exact Nat.le_add_right _ _
   ·rw[at0,len,List.getElem?_append_right (gK _),Nat.sub_self]
    rfl
  rcases q with⟨-,no⟩|⟨i,rfl,⟨-,b⟩,no⟩
  ·exact absurd here (no _)
  ·have le:i<=n.length:=Nat.le_of_not_lt fun g=>no _ g here
   rcases Nat.lt_or_eq_of_le le with g|rfl
   ·have b:=TU.mp b
    rw[at0,List.getElem?_append_left g]at b;exact absurd b (no32 h)
   ·refine bq some (XH ?_)
    show((n++ " " ++x).cps.extract 0 n.length).toList=_;rw[Array.toList_extract,at0,List.extract_eq_take_drop,List.drop_zero,Nat.sub_zero];exact List.take_left' rfl
end
end
section
abbrev fL:Fn:=AQ
structure pg where
 Od:bw
 pieces:bw
 rep:bw
 o:j8
 gc:List MV->Bool
 Le:List MV->List MV
 gd:List MV->Bool
 due:List MV->List MV
 gb:List MV->Bool
 be:Int->Int->List MV->pP (List MV)
def Oe(g:List MV->Bool)(f:List MV->List MV):bw:=zN fun x y=>Jh (fun l=>zP (fun i k=>gd [(decide (i=2)&&g l,true)] (k ⟨.lst (f l),true,[]⟩)) y) x
def Of(g:List MV->Bool)(f:List MV->List MV):bw:=Lm (Jh fun l k=>gd [(g l,true)] (k ⟨.lst (f l),true,[]⟩))
def Og(g:List MV->Bool)(f:Int->Int->List MV->pP (List MV)):bw:=zN fun x y=>FP (fun a b=>Jh (fun l k=>gd [(g l,true)] (k ⟨.lst (f a b l).1,true,[bJ (f a b l).2.1 (f a b l).2.2]⟩)) y) x
def rL(O:pg):List (Str×Entry):=[(.ofString "_law_pool",eK nI O.Od),(.ofString "_law_pieces",eK qj O.pieces),(.ofString "_law_bent",eK nJ (Og O.gb O.be)),(.ofString "_law_take",eK j7 (Ji O.o)),(.ofString "Piece",B3),
 (.ofString "check_file",eK kX (Oe O.gc O.Le)),(.ofString "_law_due",eK pJ (Of O.gd O.due)),(.ofString "report",eK BW O.rep)]
def TL(O:pg):fE:=tl (rL O)
section
variable(O:pg)
abbrev EL(n:Nat):Ev:=EV (TL O) (tm []) fL n
def TV(x:Str)(K:cI->St->Option aJ)(v:MV)(fr:Bool)(st:St):Option aJ:=kR ⟨TL O,tm [],consts,fL.mv,lG fL.ps fL.ms,fL.ba⟩ x v fr st fun st=>K .aL st
end
variable{O:pg}
def JN(O:pg)(xs:List MV)(K:cI→St→Option aJ):Spec→Option aJ:=fun s=>TV O "source" K s.val s.fresh ⟨[⟨fL.sc,[("script",.lst xs)]⟩],iD [] [] s.outs⟩
def TX(xs:List MV)(a b:Int):St:=⟨[⟨fL.sc,[("script",.lst xs),("source",.own "source")]⟩],[("source",bJ a b)]⟩
variable{xs:List MV}{K:cI->St->Option aJ}
theorem la0:aC (EL O 30) (fL.body.take 1) (ez fL [.lst xs]) K=O.Od [.lst xs,.int 0] (JN O xs K):=by kernel_rfl!
variable{a b:Int}
theorem la0e:JN O xs K ⟨bJ a b,true,[]⟩=K .aL (TX xs a b):=by kernel_rfl!
def Q5(O:pg)(xs:List MV)(a b:Int)(K:cI→St→Option aJ):Spec→Option aJ:=fun s=>TV O "some" K s.val s.fresh ⟨(TX xs a b).fr,iD [("source",bJ a b)] ["source"] s.outs⟩
def stLb(xs X:List MV)(a b:Int):St:=⟨[⟨fL.sc,[("script",.lst xs),("source",.own "source"),("some",.lst X)]⟩],[("source",bJ a b)]⟩
theorem la1:aC (EL O 30) ((fL.body.drop 1).take 1) (TX xs a b) K=O.pieces [bJ a b] (Q5 O xs a b K):=by kernel_rfl!
variable{X:List MV}
theorem la1e{a' b':Int}:Q5 O xs a b K ⟨.lst X,true,[bJ a' b']⟩=K .aL (stLb xs X a' b'):=by kernel_rfl!
def knownD:List (MV×MV):=[(.str "SOI",.int 216),(.str "EOI",.int 217),(.str "DQT",.int 219),(.str "DHT",.int 196),(.str "DRI",.int 221),(.str "DNL",.int 220),(.str "SOS",.int 218),
 (.str (ku 192),.int 192),(.str (ku 193),.int 193),(.str (ku 194),.int 194),(.str (ku 195),.int 195),(.str (ku 201),.int 201),(.str (ku 203),.int 203)]
def k8(xs X:List MV)(ex:List (Str×MV)):Fr:=⟨fL.sc,([("script",.lst xs),("source",.own "source"),("some",.lst X),("known",.own "known")]:List (Str×MV))++ex⟩
def qN(a b:Int):List (Str×MV):=[("source",bJ a b),("known",.gk knownD)]
def jB(xs X:List MV)(ex:List (Str×MV))(a b:Int):St:=⟨[k8 xs X ex],qN a b⟩
theorem la2:aC (EL O 30) ((fL.body.drop 2).take 2) (stLb xs X a b) K=K .aL (jB xs X [] a b):=by kernel_rfl!
abbrev lT:Expr:=fG (Hd.d7 fL.body 4)
abbrev lB:List Stmt:=fH (Hd.d7 fL.body 4)
def VD(O:pg)(ys:List MV)(K:cI->St->Option aJ):cI->St->Option aJ:=fun f au=>match f with
 | .aL=>bO (EL O 29) lT lB ys au K
 | .ret v fr=>K (.ret v fr) au
theorem la4:aC (EL O 30) ((fL.body.drop 4).take 1) (jB xs X [] a b) K=gd [(decide (0<=1+O.o.D a b 3)&&decide (1+O.o.D a b 3<100000),true)]
  (bO (EL O 29) lT lB (cH (1+O.o.D a b 3).toNat 0) (jB xs X [] (O.o.A a b 3) (O.o.B a b 3)) (dZ (EL O 30) [] K)):=by kernel_rfl!
noncomputable def Q6(j:MV):List (Str×MV):=[("turn",j)]
noncomputable def lA(j:MV)(P:List MV):List (Str×MV):=[("turn",j),("pieces",.lst P)]
variable{ys:List MV}{j:MV}
theorem lb0:bO (EL O 29) lT lB (j::ys) (jB xs X [] a b) K=aC (EL O 29) lB (jB xs X (Q6 j) a b) (VD O ys K):=by kernel_rfl!
variable{P:List MV}
theorem lb1{j':MV}:bO (EL O 29) lT lB (j::ys) (jB xs X (lA j' P) a b) K=aC (EL O 29) lB (jB xs X (lA j P) a b) (VD O ys K):=by kernel_rfl!
def Hf(O:pg)(K:cI→St→Option aJ)(v:MV)(st:St):Option aJ:=TV O "pieces" K v true st
theorem l0a:aC (EL O 29) (lB.take 1) (jB xs X (Q6 j) a b) K=kq (EL O 27) (rJ (Hd.d7 lB 0)) X (k8 xs X (Q6 j)) (qN a b) (Hf O K):=by kernel_rfl!
theorem l0b:aC (EL O 29) (lB.take 1) (jB xs X (lA j P) a b) K=kq (EL O 27) (rJ (Hd.d7 lB 0)) X (k8 xs X (lA j P)) (qN a b) (Hf O K):=by kernel_rfl!
theorem l0e:Hf O K (.lst P) (jB xs X (Q6 j) a b)=K .aL (jB xs X (lA j P) a b):=by kernel_rfl!
theorem l0f{P':List MV}:Hf O K (.lst P) (jB xs X (lA j P') a b)=K .aL (jB xs X (lA j P) a b):=by kernel_rfl!
theorem l1:aC (EL O 29) ((lB.drop 1).take 1) (jB xs X (lA j P) a b) K=gd [(true&&O.gc P,true),(O.gd X,true)]
  (DQ (O.Le P) (O.due X) fun r=>cond (!r) (K (.ret (.bool false) false) (jB xs X (lA j P) a b)) (K .aL (jB xs X (lA j P) a b))):=by kernel_rfl!
abbrev VE:Stmt->Expr:=Df
def cmpL(e:Expr):Expr:=(FO e).e
def TY(e:Expr):Expr:=(FO e).es.headD (.List [] default)
def JO(O:pg)(K:cI->St->Option aJ)(v:MV)(st:St):Option aJ:=n9 (EL O 27) v [.NotEq] [TY (VE (Hd.d7 lB 2))] st fun c aA=>cond c (aC (EL O 28) (TN (Hd.d7 lB 2)) aA K) (aC (EL O 28) [] aA K)
def rO:Expr:=cmpL (VE (Hd.d7 lB 2))
def E1(O:pg)(st:St)(K:cI->St->Option aJ):Spec->Option aJ:=fun s=>bW s.val ⟨st.fr,iD st.ow [] s.outs⟩ fun t au=>match pA t with
 |some l=>cond (qU (wg rO) au.fr) (lF (EL O 26) (AV rO) (w7 rO) l {au with fr:=⟨wg rO,[]⟩::au.fr} [] fun au acc=>match au.fr with
  |_::fr=>JO O K (.lst acc) {au with fr:=fr}
  | []=>none) none
 |none=>none
theorem l2a:aC (EL O 29) ((lB.drop 2).take 1) (jB xs X (lA j P) a b) K=O.rep [.lst P,.int 2] (E1 O (jB xs X (lA j P) a b) K):=by kernel_rfl!
theorem l2r{A:List MV}{f:Bool}:E1 O (jB xs X (lA j P) a b) K ⟨.lst A,f,[]⟩=kq (EL O 26) rO A (k8 xs X (lA j P)) (qN a b) (JO O K):=by kernel_rfl!
def Q7(A:List MV)(K:cI->St->Option aJ)(v:MV)(st:St):Option aJ:=cU v st fun b=>vR .NotEq (.lst A) b fun c=>cond c (K (.ret (.bool false) false) st) (K .aL st)
theorem l2b{A:List MV}:JO O K (.lst A) (jB xs X (lA j P) a b)=kq (EL O 26) (TY (VE (Hd.d7 lB 2))) X (k8 xs X (lA j P)) (qN a b) (Q7 A K):=by kernel_rfl!
theorem l2c{A B:List MV}{st:St}:Q7 A K (.lst B) st=DQ A B fun r=>cond (!r) (K (.ret (.bool false) false) st) (K .aL st):=rfl
theorem l3:aC (EL O 29) (lB.drop 3) (jB xs X (lA j P) a b) K=gd [(O.gb X,true)] (K .aL (jB xs (O.be a b X).1 (lA j P) (O.be a b X).2.1 (O.be a b X).2.2)):=by kernel_rfl!
theorem le0{k:Spec->Option aJ}:aC (EL O 30) (fL.body.drop 5) (jB xs X (lA j P) a b) (bh fL k)=k ⟨.bool true,false,[]⟩:=by kernel_rfl!
end
section
variable{O:pg}
abbrev eP:Expr:=rJ (Hd.d7 lB 0)
abbrev gP(O:pg)(xs:List MV)(vs:List (Str×MV))(F:Fr)(a b:Int)(acc:List MV)(k:St->List MV->Option aJ):Option aJ:=lF (EL O 27) (AV eP) (w7 eP) xs ⟨[⟨wg eP,vs⟩,F],qN a b⟩ acc k
def rV(r:bF):List (Str×MV):=[("name",.str r.name),("told",r.told),("payload",.bytes r.w5),("data",.bytes r.dat)]
def oV:Option bF->List (Str×MV)
 |none=>[]
 |some r=>rV r
variable{r:bF}{o:Option bF}{xs X ys acc:List MV}{ex:List (Str×MV)}{a b:Int}{k:St->List MV->Option aJ}
theorem gp1(hr:r.Ok):
  gP O (aB r::ys) (oV o) (k8 xs X ex) a b acc k=gd [(decide (acc.length<=ak),true)] (gP O ys (rV r) (k8 xs X ex) a b (acc++[fh r]) k):=by
 induction r using bF.casesOn with
 |iP c h q=>refine Vy (P:=fun c=>gP O (aB (.iP c h q)::ys) (oV o) (k8 xs X ex) a b acc k=gd [(decide (acc.length<=ak),true)] (gP O ys (rV (.iP c h q)) (k8 xs X ex) a b (acc++[fh (.iP c h q)]) k)) hr.1 ?_ ?_ ?_ ?_ ?_ ?_<;>induction o using Option.casesOn<;>kernel_rfl!
 |_=>induction o using Option.casesOn<;>kernel_rfl!
theorem XI:∀(R:List bF) (o:Option bF) (acc:List MV),(∀r,r∈R->r.Ok)->acc.length+R.length<=ak->
  ∃o',gP O (R.map aB) (oV o) (k8 xs X ex) a b acc k=k ⟨[⟨wg eP,oV o'⟩,k8 xs X ex],qN a b⟩ (acc++R.map fh):=by
 intro x0
 induction x0 with
 |nil=>
  intro o acc _ _;exact⟨o,bq (k _) (fU acc).symm⟩
 |cons r R ih=>
  intro o acc h len;have len:acc.length+(R.length+1)<=ak:=len;refine oE (ih (some r) (acc++[fh r]) (fun x m=>h x (.tail _ m)) (by rw[cG];exact aI (Nat.le_of_eq (Nat.add_right_comm _ _ _)) len)) fun o' e=>?_;refine⟨o',(gp1 (h r (.head _))).trans ((bH ?_).trans (e.trans (by rw[dH];rfl)))⟩;rw[aM (qd len)]
  rfl
variable{R:List bF}{kk:MV->St->Option aJ}
theorem Bx(h:∀r,r∈R->r.Ok)(len:R.length<=100):kq (EL O 27) eP (R.map aB) (k8 xs X ex) (qN a b) kk=kk (.lst (R.map fh)) ⟨[k8 xs X ex],qN a b⟩:=by
 refine oE (XI (O:=O) (xs:=xs) (X:=X) (ex:=ex) (a:=a) (b:=b) (k:=fun au acc=>match au.fr with
  |_::fr=>kk (.lst acc) {au with fr:=fr}
  | []=>none) R none [] h (by show 0+_<=_;rw[Nat.zero_add];exact aI len (by decide))) fun o' e=>?_
 exact e
abbrev gR(O:pg)(xs:List MV)(vs:List (Str×MV))(F:Fr)(a b:Int)(acc:List MV)(k:St->List MV->Option aJ):Option aJ:=lF (EL O 26) (AV rO) (w7 rO) xs ⟨[⟨wg rO,vs⟩,F],qN a b⟩ acc k
noncomputable def oW:Option Str->List (Str×MV)
 |none=>[]
 |some s=>[("row",.str s)]
noncomputable def LH(s:Str):MV:=((Txt.split s " ").map MV.str).getD (cond (decide ((0:Int)<0)) (0+(((Txt.split s " ").map MV.str).length:Int)) 0).toNat .none
variable{s:Str}
theorem gr1{o:Option Str}:
  gR O (.str s::ys) (oW o) (k8 xs X ex) a b acc k=gd [(decide (s.length≤ak),true),(JJ ((Txt.split s " ").map MV.str) 0,true)]
   (bW (LH s) ⟨[⟨wg rO,oW (some s)⟩,k8 xs X ex],qN a b⟩ fun u qD=>cond (decide (acc.length<=ak)) (lF (EL O 26) (AV rO) (w7 rO) ys qD (acc++[u]) k) none):=by
 induction o using Option.casesOn<;>kernel_rfl!
theorem gr_ok {n : Str} (hw : N9 n s) (hn : n.cps.toList.all (· != 32) = true) {o : Option Str}     (len : acc.length ≤ ak) :
    gR O (.str s :: ys) (oW o) (k8 xs X ex) a b acc k = gR O ys (oW (some s)) (k8 xs X ex) a b (acc ++ [.str n]) k := by
  refine oA (hw) fun h1 h2 => ?_
  try clear hw
  have f := Oc hn h2
  have f1 : LH s = .str n := by
    show ((Txt.split s " ").map MV.str).getD 0 .none = _
    rw [List.getD_eq_getElem?_getD, List.getElem?_map, f]
    rfl
  have l1 : 1 ≤ (Txt.split s " ").length := split_pos s " "
  have l2 : JJ ((Txt.split s " ").map MV.str) 0 = true := by
    unfold JJ
    rw [bI, aM (show -((Txt.split s " ").length : Int) ≤ 0 by exact Int.neg_natCast_le_ofNat (Txt.split s (Str.ofString " ")).length 0), aM (show (0 : Int) < (Txt.split s " ").length by exact Int.natCast_pos.mpr l1)]
    rfl
  refine gr1.trans ((bH ?_).trans ?_)
  · rw [l2, aM (aI h1 (by decide))]
    rfl
  · rw [f1]
    show cond (decide (acc.length ≤ ak)) _ _ = _
    rw [aM len]
    rfl
def sW(r:bF):MV:= .str r.name
theorem XJ:∀{R:List bF} {ss:List Str},ya R ss->∀(o:Option Str) (acc:List MV),(∀r,r∈R->r.Ok)->acc.length+R.length<=ak->
  ∃o',gR O (ss.map MV.str) (oW o) (k8 xs X ex) a b acc k=k ⟨[⟨wg rO,oW o'⟩,k8 xs X ex],qN a b⟩ (acc++R.map sW):=by
 intro R ss w
 induction w with
 |nil=>exact fun o acc _ _=>⟨o,bq (k _) (fU acc).symm⟩
 | @cons r s R ss hw w ih=>
  intro o acc h len;have len:acc.length+(R.length+1)<=ak:=len;refine oE (ih (some s) (acc++[sW r]) (fun x m=>h x (.tail _ m)) (by rw[cG];exact aI (Nat.le_of_eq (Nat.add_right_comm _ _ _)) len)) fun o' e=>?_;exact⟨o',(gr_ok hw (XG (h r (.head _))) (qd len)).trans (e.trans (by rw[dH];rfl))⟩
theorem TZ{ss:List Str}(w:ya R ss)(h:∀r,r∈R->r.Ok)(len:R.length<=100):kq (EL O 26) rO (ss.map MV.str) (k8 xs X ex) (qN a b) kk=kk (.lst (R.map sW)) ⟨[k8 xs X ex],qN a b⟩:=by
 refine oE (XJ (O:=O) (xs:=xs) (X:=X) (ex:=ex) (a:=a) (b:=b) (k:=fun au acc=>match au.fr with
  |_::fr=>kk (.lst acc) {au with fr:=fr}
  | []=>none) w none [] h (by show 0+_<=_;rw[Nat.zero_add];exact aI len (by decide))) fun o' e=>?_
 exact e
abbrev Q8:Expr:=TY (VE (Hd.d7 lB 2))
abbrev gN(O:pg)(xs:List MV)(vs:List (Str×MV))(F:Fr)(a b:Int)(acc:List MV)(k:St->List MV->Option aJ):Option aJ:=lF (EL O 26) (AV Q8) (w7 Q8) xs ⟨[⟨wg Q8,vs⟩,F],qN a b⟩ acc k
def oN:Option bF->List (Str×MV)
 |none=>[]
 |some r=>[("row",aB r)]
theorem gn1:
  gN O (aB r::ys) (oN o) (k8 xs X ex) a b acc k=gd [(decide (acc.length<=ak),true)] (gN O ys (oN (some r)) (k8 xs X ex) a b (acc++[sW r]) k):=by induction o using Option.casesOn<;>kernel_rfl!
theorem XK:∀(R:List bF) (o:Option bF) (acc:List MV),acc.length+R.length<=ak->
  ∃o',gN O (R.map aB) (oN o) (k8 xs X ex) a b acc k=k ⟨[⟨wg Q8,oN o'⟩,k8 xs X ex],qN a b⟩ (acc++R.map sW):=by
 intro x0
 induction x0 with
 |nil=>
  intro o acc _;exact⟨o,bq (k _) (fU acc).symm⟩
 |cons r R ih=>
  intro o acc len;have len:acc.length+(R.length+1)<=ak:=len;refine oE (ih (some r) (acc++[sW r]) (by rw[cG];exact aI (Nat.le_of_eq (Nat.add_right_comm _ _ _)) len)) fun o' e=>?_;refine⟨o',gn1.trans ((bH ?_).trans (e.trans (by rw[dH];rfl)))⟩;rw[aM (qd len)]
  rfl
theorem Oh(len:R.length<=100):kq (EL O 26) Q8 (R.map aB) (k8 xs X ex) (qN a b) kk=kk (.lst (R.map sW)) ⟨[k8 xs X ex],qN a b⟩:=by
 refine oE (XK (O:=O) (xs:=xs) (X:=X) (ex:=ex) (a:=a) (b:=b) (k:=fun au acc=>match au.fr with
  |_::fr=>kk (.lst acc) {au with fr:=fr}
  | []=>none) R none [] (by show 0+_<=_;rw[Nat.zero_add];exact aI len (by decide))) fun o' e=>?_
 exact e
set_option tactic.hygienic true in
theorem T3:∀{A:List MV},dj A=true->nX A A=true:=by
 intro x0
 induction x0 with
 |nil=>
  intro _;exact rfl
 |cons v r ih=>
  intro h
  induction v using MV.casesOn<;>first|exact aP h|skip
  rename_i s;show((s==s)&&nX r r)=true;rw[ih h,j0]
  rfl
theorem JP{A:List MV}(h:dj A=true){k:Bool->Option aJ}:DQ A A k=k true:=by
 induction A using List.casesOn with
 |nil=>rfl
 |cons v r=>
  show cond (dj (v::r)&&dj (v::r)) (k (nX (v::r) (v::r))) none=_;rw[T3 h,h]
  rfl
theorem pQ:∀{A B:List MV},dj A=true->dj B=true->dj (A++B)=true:=by
 intro x0
 induction x0 with
 |nil=>
  intro _ _ h;exact h
 |cons v r ih=>
  intro B h g
  induction v using MV.casesOn<;>first|exact aP h|exact ih h g
theorem pn{b:Bool}{m:Str}{W:List MV}(h:dj W=true):dj (dD b m W)=true:=by
 induction b using Bool.casesOn
 ·exact h
 ·exact pQ h rfl
theorem XM{C:List MV}:∀{N:List (Bool×Int)},dj (cY C N)=true:=by
 intro x0
 induction x0 with
 |nil=>
  exact rfl
 |cons gA r ih=>
  rcases gA with⟨a,v⟩
  refine pQ (A:=cond (eN (kh a v) C) [] [MV.str (EO a v)]) ?_ ih;cases eN (kh a v) C<;>rfl
variable{Q:List MV}
theorem T4{c id:Int}:∀{l:List (Int×Int)},dj (jQ c Q id l)=true:=by
 intro x0
 induction x0 with
 |nil=>
  exact rfl
 |cons gA _ ih=>
  rcases gA with⟨_,q⟩
  show dj (cond (!decide (c.fmod 4=3)&& !eN (.int q) Q) [MV.str (mQ id)] [])=true;cases(!decide (c.fmod 4=3)&& !eN (.int q) Q)<;>rfl
theorem XN{c s e hi:Int}{C:List MV}{cs:List (Int×Int)}:∀{rows:List (Int×Int×Int)},dj (iK c s e hi Q C cs rows)=true:=by
 intro x0
 induction x0 with
 |nil=>
  exact rfl
 |cons _ _ ih=>
  exact pQ (pQ T4 XM) ih
theorem XO:∀{l:List Nat} {j:Int},dj (mj l j)=true:=by
 intro x0
 induction x0 with
 |nil=>
  intro _;exact rfl
 |cons n r ih=>
  intro j;refine pQ (A:=cond (decide (((n+1:Nat):Int) - 208=j.fmod 8)) [] [MV.str (tu (((n+1:Nat):Int) - 208) j)]) ?_ ih;cases decide (((n+1:Nat):Int) - 208=j.fmod 8)<;>rfl
variable{many:Int}
theorem T5{t:FS}{pl:Int}(h:dj t.W=true):dj (lV pl many t r).W=true:=by
 have h2:dj (kr pl many (r.code:Nat) t.W)=true:=pn (pn h);obtain⟨W,F,s,Q,C,I⟩:=t
 induction r using bF.casesOn with
 |kj|eoi|qw|eU|iO=>exact h2
 |vO=>exact pn h2
 |iP=>exact pn h2
 |sV rows st e hi l=>
  refine pQ h2 ?_
  rcases F with _|⟨c,ht,q⟩
  ·rfl
  ·exact pQ XN (pQ (pn rfl) XO)
theorem T6:∀{R:List bF} {j:Nat} {t:FS},dj t.W=true->dj (oR many j t R).W=true:=by
 intro x0
 induction x0 with
 |nil=>
  intro _ _ h;exact h
 |cons _ r ih=>
  intro _ _ h;exact ih (T5 h)
theorem Oi:dj (mZ R)=true:=pn (pn (T6 rfl))
theorem Q9:∀{R:List bF},dj (R.map sW)=true:=by
 intro x0
 induction x0 with
 |nil=>
  exact rfl
 |cons _ r ih=>
  exact ih
end
set_option tactic.hygienic true
section
noncomputable def kI:Spec->Option aJ:=fun s=>some (s.val,s.fresh,s.outs)
def JQ(P:List MV):Bool:= @decide (∃R,gW R 1 100/\P=R.map fh) (Classical.propDecidable _)
def xh(n:Nat)(X:List MV):Bool:= @decide (∃R,gW R 1 n/\X=R.map aB) (Classical.propDecidable _)
abbrev sCk:bw:=cj (tl s9) (tm yy) consts kX
abbrev sDu:bw:=cj (tl zY) (tm mN) consts pJ
abbrev sBe:bw:=cj (tl yr) (tm mN) consts nJ
variable{R:List bF}
theorem Ra{n:Nat}(h:gW R 1 100)(k:Spec->Option aJ):sCk [.lst (R.map fh),.int 2] k=k ⟨.lst (mZ R),true,[]⟩:=cf_run h.lo h.hi h.ok
theorem Rb(h:gW R 1 100)(k:Spec->Option aJ):sDu [.lst (R.map aB)] k=k ⟨.lst (mZ R),true,[]⟩:=Xr h.lo h.hi h.ok
theorem Oj(P:List MV):∃W,JQ P=true->∀k,sCk [.lst P,.int 2] k=k ⟨.lst W,true,[]⟩:=by
 by_cases h:∃R,gW R 1 100/\P=R.map fh
 ·refine aH (h) fun R h9 o2=>?_
  try clear h;obtain rfl:=o2;revert h9;intro h;exact⟨mZ R,fun _=>Ra (n:=0) h⟩
 ·exact⟨[],fun g=>absurd (@of_decide_eq_true _ (Classical.propDecidable _) g) h⟩
def E2(P:List MV):List MV:=Classical.choose (Oj P)
theorem VF(h:gW R 1 100):JQ (R.map fh)=true:= @decide_eq_true _ (Classical.propDecidable _) ⟨R,h,rfl⟩
variable{n:Nat}
theorem Hg(h:gW R 1 n):xh n (R.map aB)=true:= @decide_eq_true _ (Classical.propDecidable _) ⟨R,h,rfl⟩
theorem LI{sp:bw}{args A B:List MV}(h:∀k,sp args k=k ⟨.lst A,true,[]⟩)(g:∀k,sp args k=k ⟨.lst B,true,[]⟩):A=B:=by
 have e:=(h kI).symm.trans (g kI);cases e
 rfl
theorem chk_eq(h:gW R 1 100):E2 (R.map fh)=mZ R:=LI (sy (Oj (R.map fh)) (VF h)) (Ra (n:=0) h)
theorem Ol(X:List MV):∃W,xh 100 X=true->∀k,sDu [.lst X] k=k ⟨.lst W,true,[]⟩:=by
 by_cases h:∃R,gW R 1 100/\X=R.map aB
 ·refine aH (h) fun R h9 o2=>?_
  try clear h;obtain rfl:=o2;revert h9;intro h;exact⟨mZ R,fun _=>Rb h⟩
 ·exact⟨[],fun g=>absurd (@of_decide_eq_true _ (Classical.propDecidable _) g) h⟩
def E3(X:List MV):List MV:=Classical.choose (Ol X)
theorem due_eq(h:gW R 1 100):E3 (R.map aB)=mZ R:=LI (sy (Ol (R.map aB)) (Hg h)) (Rb h)
theorem Om(a b:Int)(X:List MV):∃p:pP (List MV),xh 90 X=true->∀k,sBe [bJ a b,.lst X] k=k ⟨.lst p.1,true,[bJ p.2.1 p.2.2]⟩:=by
 by_cases h:∃R,gW R 1 90/\X=R.map aB
 ·refine aH (h) fun R h9 o2=>?_
  try clear h;obtain rfl:=o2;revert h9;intro h;refine fq (JM (lo:=0) h (gK _) a b) fun R' a' b' _ e=>?_;exact⟨(R'.map aB,a',b'),fun _=>e⟩
 ·exact⟨([],0,0),fun g=>absurd (@of_decide_eq_true _ (Classical.propDecidable _) g) h⟩
def xj(a b:Int)(X:List MV):pP (List MV):=Classical.choose (Om a b X)
variable{lo hi:Nat}
theorem gW.mono{HB za:Nat}(h:gW R lo hi)(h1:HB<=lo)(h2:hi<=za):gW R HB za:=⟨aI h1 h.lo,aI h.hi h2,h.ok⟩
theorem be_eq(h:gW R (lo+1) hi)(F0:hi<=90)(a b:Int):∃R' a' b',gW R' lo (hi+1)/\xj a b (R.map aB)=(R'.map aB,a',b'):=by
 refine fq (JM h F0 a b) fun R' a' b' g e=>?_;have q:=sy (Om a b (R.map aB)) (Hg (h.mono (Nat.succ_le_succ (iS _)) F0));have e:_=_:=(q kI).symm.trans (e kI);refine⟨R',a',b',g,?_⟩;show(xj a b (R.map aB))=_;have e2:some ((MV.lst (xj a b (R.map aB)).1,true,[bJ (xj a b (R.map aB)).2.1 (xj a b (R.map aB)).2.2]):aJ)=some (MV.lst (R'.map aB),true,[bJ a' b']):=e;generalize xj a b (R.map aB)=p at e2;obtain⟨p1,p2,p3⟩:=p;cases e2
 rfl
theorem Oo:Runs (tl s9) (tm yy) kX (Oe JQ E2):=fun cs k ah e0=>by
 refine cF (l9 e0) fun x y o2 e1=>?_;obtain rfl:=o2;refine aH (ug e1) fun l o1 e2=>?_;obtain rfl:=o1;refine aH (mh e2) fun i o1 e3=>?_;clear e0 e1 e2;obtain rfl:=o1;refine oA (lY e3) fun q e=>?_;refine oA (jv (Dt q)) fun q1 q2=>?_;rw[bx q1];exact(sy (Oj l) q2 k).trans e
theorem T7:Runs (tl zY) (tm mN) pJ (Of (xh 100) E3):=fun cs k ah e0=>by
 refine aH (wV e0) fun x o1 e1=>?_;obtain rfl:=o1;refine aH (ug e1) fun l o1 e2=>?_;clear e0 e1;obtain rfl:=o1;refine oA (lY e2) fun q e=>?_;exact(sy (Ol l) (Dt q) k).trans e
theorem Rc:Runs (tl yr) (tm mN) nJ (Og (xh 90) xj):=fun cs k ah e0=>by
 refine cF (l9 e0) fun x y o2 e1=>?_;obtain rfl:=o2;refine cF (rD e1) fun a b o2 e2=>?_;obtain rfl:=o2;refine aH (ug e2) fun l o1 e3=>?_;clear e0 e1 e2;obtain rfl:=o1;refine oA (lY e3) fun q e=>?_;exact(sy (Om a b l) (Dt q) k).trans e
def nj:pg:=⟨cj (tl rN) (tm mN) consts nI,cj (JH OP) (tm []) consts dg,cj (TR Cb) (tm []) consts fR,bf,JQ,E2,xh 100,E3,xh 90,xj⟩
theorem T8:nj.Od=cj (tl rN) (tm mN) consts nI:=by kernel_rfl
theorem Oq:nj.pieces=cj (JH OP) (tm []) consts dg:=by kernel_rfl
variable{xs:List MV}
theorem JR(h:gW R (lo+1) hi)(F0:hi<=90){j:MV}{ex:List (Str×MV)}(hex:ex=Q6 j∨∃P,ex=lA j P)(a b:Int):
  ∃R' a' b',gW R' lo (hi+1)/\∀K,aC (EL nj 29) lB (jB xs (R.map aB) ex a b) K=K .aL (jB xs (R'.map aB) (lA j (R.map fh)) a' b'):=by
 have h1:gW R 1 100:=h.mono (Nat.succ_le_succ (iS _)) (aI F0 (by decide));refine fq (be_eq h F0 a b) fun R' a' b' g e=>?_;refine⟨R',a',b',g,fun K=>?_⟩;rw[show lB=lB.take 1++((lB.drop 1).take 1++((lB.drop 2).take 1++lB.drop 3))by kernel_rfl,bK];have s0:∀K,aC (EL nj 29) (lB.take 1) (jB xs (R.map aB) ex a b) K=K .aL (jB xs (R.map aB) (lA j (R.map fh)) a b):=fun K=>by
  rcases hex with rfl|⟨P,rfl⟩
  ·exact l0a.trans ((Bx h.ok h1.hi).trans l0e)
  ·exact l0b.trans ((Bx h.ok h1.hi).trans l0f)
 refine(s0 _).trans ?_;show aC (EL nj 29) ((lB.drop 1).take 1++((lB.drop 2).take 1++lB.drop 3)) _ K=_;rw[bK];refine l1.trans ((bH ?_).trans ?_)
 ·show fX [(true&&JQ (R.map fh),true),(xh 100 (R.map aB),true)]=true
  rw[VF h1,Hg h1]
  rfl
 show DQ (E2 (R.map fh)) (E3 (R.map aB)) _=_;rw[chk_eq h1,due_eq h1];refine(JP Oi).trans ?_;show aC (EL nj 29) ((lB.drop 2).take 1++lB.drop 3) _ K=_;rw[bK];obtain⟨ss,w,r⟩:=rp_run (R:=R) (k:=E1 nj (jB xs (R.map aB) (lA j (R.map fh)) a b) (dZ (EL nj 29) (lB.drop 3) K)) h.ok h1.hi;refine l2a.trans (r.trans (l2r.trans ((TZ w h.ok h1.hi).trans (l2b.trans ((Oh h1.hi).trans (l2c.trans ((JP Q9).trans ?_)))))));show aC (EL nj 29) (lB.drop 3) (jB xs (R.map aB) (lA j (R.map fh)) a b) K=_;refine l3.trans ((bH ?_).trans ?_)
 ·show fX [(xh 90 (R.map aB),true)]=true
  rw[Hg (h.mono (Nat.succ_le_succ (iS _)) F0)]
  rfl
 ·show K .aL (jB xs (xj a b (R.map aB)).1 _ (xj a b (R.map aB)).2.1 (xj a b (R.map aB)).2.2)=_
  rw[e]
theorem T9{K:cI->St->Option aJ}:∀(m:Nat) (R:List bF) (hi:Nat) (i:Int) (j:MV) (P:List MV) (a b:Int),gW R (m+1) hi->hi+m<=90->
  ∃(R':List bF) (j':MV) (P':List MV) (a' b':Int),bO (EL nj 29) lT lB (cH m i) (jB xs (R.map aB) (lA j P) a b) K=K .aL (jB xs (R'.map aB) (lA j' P') a' b'):=by
 intro x0
 induction x0 with
 |zero=>
  intro R hi i j P a b _ _;exact⟨R,j,P,a,b,rfl⟩
 |succ m ih=>
  intro R hi i j P a b h l;obtain⟨R1,a1,b1,g,e⟩:=JR (xs:=xs) h (by exact qd l) (.inr ⟨P,rfl⟩) a b;refine OA (ih R1 (hi+1) (i+1) (.int i) (R.map fh) a1 b1 g (by lia)) fun R' j' P' a' b' e'=>?_;exact⟨R',j',P',a',b',lb1.trans ((e _).trans e')⟩
theorem XQ{l:List Int}(h:l.length<=63)(k:Spec->Option aJ):cj (TL nj) (tm []) consts fL [.lst (l.map .int)] k=k ⟨.bool true,false,[]⟩:=by
 have hb:fL.body=fL.body.take 1++((fL.body.drop 1).take 1++((fL.body.drop 2).take 2++((fL.body.drop 4).take 1++fL.body.drop 5))):=by kernel_rfl
 show aC (EL nj 30) fL.body (ez fL [.lst (l.map .int)]) (bh fL k)=_;rw[hb,bK];have e0:∀K,∃a b,nj.Od [.lst (l.map .int),.int 0] K=K ⟨bJ a b,true,[]⟩:=fun K=>by rw[T8];exact Tz h
 refine tD (e0 (JN nj (l.map .int) (dZ (EL nj 30) ((fL.body.drop 1).take 1++((fL.body.drop 2).take 2++((fL.body.drop 4).take 1++fL.body.drop 5))) (bh fL k)))) fun a b e09=>?_;try clear e0;revert e09;intro e0;refine la0.trans (e0.trans (la0e.trans ?_));show aC (EL nj 30) _ _ (bh fL k)=_;rw[bK];refine fq (N5 a b) fun R a1 b1 hR e1=>?_;have e1:∀k,nj.pieces [bJ a b] k=k ⟨.lst (R.map aB),true,[bJ a1 b1]⟩:=fun k=>by rw[Oq];exact e1 k
 refine la1.trans ((e1 _).trans (la1e.trans ?_));show aC (EL nj 30) _ _ (bh fL k)=_;rw[bK];refine la2.trans ?_;show aC (EL nj 30) _ _ (bh fL k)=_;rw[bK];refine gO (few (a:=a1) (b:=b1)) fun n n1 n2 n3=>?_;refine la4.trans ((bH ?_).trans ?_)
 ·show fX [(decide (0<=1+bf.D a1 b1 3)&&decide (1+bf.D a1 b1 3<100000),true)]=true
  rw[n3]
  rfl
 show bO (EL nj 29) lT lB (cH (1+bf.D a1 b1 3).toNat 0) (jB _ _ [] (bf.A a1 b1 3) (bf.B a1 b1 3)) _=_;rw[n1];refine fq (JR (xs:=l.map .int) (j:= .int 0) (lo:=n+1) (hR.mono (by lia) (gK _)) (by decide) (.inl rfl) (bf.A a1 b1 3) (bf.B a1 b1 3)) fun R2 a2 b2 h2 e2=>?_;refine OA (T9 (xs:=l.map .int) (K:=dZ (EL nj 30) [] (dZ (EL nj 30) (fL.body.drop 5) (bh fL k))) n R2 13 (0+1) (.int 0) (R.map fh) a2 b2 h2 (by lia)) fun R3 j3 P3 a3 b3 e3=>?_;exact lb0.trans ((e2 _).trans (e3.trans le0))
end
set_option tactic.hygienic false
section
abbrev qO:fE:=tl GA
abbrev qP:Str->fE:=tm mN
abbrev jR:Fn:=qi
def pR:Stmt:=Hd.d7 jR.body 4
def Cc(d:List Nat)(iv nm:List MV)(b a:Int):St:=⟨[⟨qi.sc,[("data",.bytes d),("intervals",.own "intervals"),("numbers",.own "numbers"),("begin",.int b),("at",.int a)]⟩],[("intervals",.lst iv),("numbers",.lst nm)]⟩
def stSe(d:List Nat)(iv nm:List MV)(b a l:Int):St:=⟨[⟨qi.sc,[("data",.bytes d),("intervals",.own "intervals"),("numbers",.own "numbers"),("begin",.int b),("at",.int a),("last",.int l)]⟩],[("intervals",.lst iv),("numbers",.lst nm)]⟩
variable{K:cI->St->Option aJ}
theorem XR{d:List Nat}:aC (EV qO qP jR 30) (jR.body.take 4) (ez jR [.bytes d]) K=K .aL (Cc d [] [] 0 0):=by kernel_rfl!
theorem Ua{st:St}:aC (EV qO qP jR 30) (jR.body.drop 4) st K=jy (EV qO qP jR 29) (fG pR) (fH pR) 300 st (dZ (EV qO qP jR 30) (jR.body.drop 5) K):=by rfl
variable{l:List Nat}{m:Nat}
theorem Ub(hl:jC l.length=true):jy (EV qO qP jR 29) (fG pR) (fH pR) (m+2) (Cc (gj l) [] [] 0 0) K=jy (EV qO qP jR 29) (fG pR) (fH pR) m (Cc (gj l) [] [] 0 3) K:=
 tZ hl (by kernel_rfl!) (fun _=>by kernel_rfl!) (fun _ _ _=>by kernel_rfl!) (fun _ _ _ _ _ _ _ _ _ _=>by kernel_rfl!)
def yc(d P:List Nat):St:=stSe d (.bytes [42,255]::Dh P.tail) (fK P) ((3 * P.length+2:Nat):Int) ((3 * P.length+3:Nat):Int) ((3 * P.length:Nat):Int)
theorem Uc(hl:jC l.length=true):0<l.length->
  jy (EV qO qP jR 29) (fG pR) (fH pR) (m+2) (Cc (gj l) [] [] 0 3) K=gd (xS (l.getD 0 0)) (jy (EV qO qP jR 29) (fG pR) (fH pR) m (yc (gj l) (l.take 1)) K):=
 tZ hl (fun h=>nomatch h) (fun _ _=>by kernel_rfl!) (fun _ _ _ _=>by kernel_rfl!) (fun _ _ _ _ _ _ _ _ _ _ _=>by kernel_rfl!)
theorem XS{p:Nat}(hl:jC l.length=true):p+1<l.length->
  jy (EV qO qP jR 29) (fG pR) (fH pR) (m+2) (yc (gj l) (l.take (p+1))) K=gd (xS (l.getD (p+1) 0)) (jy (EV qO qP jR 29) (fG pR) (fH pR) m (yc (gj l) (l.take (p+2))) K):=
 tZ hl (fun h=>nomatch h) (fun _ h=>absurd (vH h) (Nat.not_lt_zero _)) (fun _ _ _ h=>lt2 (vH h) (by kernel_rfl!) (by kernel_rfl!))
  (fun _ _ _ _ _ _ _ _ _ _ h=>lt9 (vH h) (by kernel_rfl!) (by kernel_rfl!) (by kernel_rfl!) (by kernel_rfl!) (by kernel_rfl!) (by kernel_rfl!) (by kernel_rfl!) (by kernel_rfl!) (by kernel_rfl!))
theorem vd_end(hl:jC l.length=true):0<l.length->jy (EV qO qP jR 29) (fG pR) (fH pR) (m+1) (yc (gj l) l) K=K .aL (yc (gj l) l):=
 tZ hl (fun h=>nomatch h) (fun _ _=>by kernel_rfl!) (fun _ _ _ _=>by kernel_rfl!) (fun _ _ _ _ _ _ _ _ _ _ _=>by kernel_rfl!)
theorem XT:jy (EV qO qP jR 29) (fG pR) (fH pR) (m+1) (Cc (gj []) [] [] 0 3) K=K .aL (Cc (gj []) [] [] 0 3):=by kernel_rfl!
variable{k:Spec->Option aJ}
theorem XU:aC (EV qO qP jR 30) (jR.body.drop 5) (Cc (gj []) [] [] 0 3) (bh jR k)=k ⟨.tup [.lst (.bytes [42,255]::Dh []),.lst (fK [])],true,[]⟩:=by kernel_rfl!
theorem vd_fin(hl:jC l.length=true):0<l.length->
  aC (EV qO qP jR 30) (jR.body.drop 5) (yc (gj l) l) (bh jR k)=k ⟨.tup [.lst (.bytes [42,255]::Dh l),.lst (fK l)],true,[]⟩:=
 tZ hl (fun h=>nomatch h) (fun _ _=>by kernel_rfl!) (fun _ _ _ _=>by kernel_rfl!) (fun _ _ _ _ _ _ _ _ _ _ _=>by kernel_rfl!)
theorem Rd{β:Type}{r:Option β}:∀{a b:List (Bool×Bool)},gd (a++b) r=gd a (gd b r):=by
 intro x1
 induction x1 with
 |nil=>
  intro _;exact rfl
 |cons c2 a dR=>
  induction c2 using Prod.casesOn with
  |mk x c3=>
   induction c3 using Bool.casesOn with
   |true=>
    intro b;exact bq (fun z=>cond x z none) dR
   |false=>
    intro b;exact bq (fun z=>cond x none z) dR
theorem drop_getD:∀{l:List Nat} {p:Nat},p<l.length->l.drop p=l.getD p 0::l.drop (p+1)
 |_::_,0,_=>rfl
 |_::r,p+1,h=>drop_getD (l:=r) (vH h)
theorem XW(hl:jC l.length=true):∀(q p:Nat),p+1+q=l.length->
  jy (EV qO qP jR 29) (fG pR) (fH pR) (m+1+2 * q) (yc (gj l) (l.take (p+1))) K=gd (lZ (l.drop (p+1))) (K .aL (yc (gj l) l)):=by
 intro x0
 induction x0 with
 |zero=>
  intro p e;have e:p+1=l.length:=e;rw[e,List.take_length,List.drop_length];exact vd_end hl (e▸kg p)
 |succ q ih=>
  intro p e;have h:p+1<l.length:=e▸Nat.lt_add_of_pos_right (kg q);rw[drop_getD h];exact(XS hl h).trans ((bq (gd (xS (l.getD (p+1) 0))) (ih (p+1) ((Nat.succ_add (p+1) q).trans e))).trans Rd.symm)
theorem Ot:Runs qO qP jR Jg:=fun cs k ah e0=>by
 refine aH (wV e0) fun a o1 e1=>?_;obtain rfl:=o1;refine aH (EA e1) fun d o1 e2=>?_;obtain rfl:=o1;have e2:(match Di d with|some l=>gd (lZ l) (k ⟨.tup [.lst (.bytes [42,255]::Dh l),.lst (fK l)],true,[]⟩)|none=>none)=some ah:=e2;refine nE (Di d) (fun h=>?_) fun l h=>?_
 ·rw[h]at e2;exact aq e2
 ·
  have e3:gd (lZ l) (k ⟨.tup [.lst (.bytes [42,255]::Dh l),.lst (fK l)],true,[]⟩)=some ah:=by rw[h]at e2;exact e2
  clear e0 e1 e2;refine oA (NC h) fun o0 hl=>?_;clear h e2;obtain rfl:=o0;refine Eq.trans ?_ e3;rw[iI 4,XR];show aC (EV qO qP jR 30) (jR.body.drop 4) _ (bh jR k)=_;rw[Ua,show 300=298+2 from rfl,Ub hl]
  rcases Nat.eq_zero_or_pos l.length with h0|h0
  ·rw[List.length_eq_zero_iff.mp h0]
   exact(XT (m:=297)).trans XU
  ·obtain⟨q,hq⟩:∃q,0+1+q=l.length:=⟨l.length - 1,Nat.add_sub_of_le h0⟩
   have h9:q<=9:=Nat.le_of_add_le_add_left (a:=1) (aI (Nat.le_of_eq hq) (uf hl));rw[show 298=((295 - 2 * q)+1+2 * q)+2 from bq (· +2) (show 296=(295 - 2 * q)+1+2 * q by rw[Nat.add_right_comm,Nat.sub_add_cancel (aI (jj 2 h9) (by decide))]),Uc hl h0,XW hl q 0 hq];show gd (xS (l.getD 0 0)) (gd (lZ (l.drop 1)) (aC (EV qO qP jR 30) (jR.body.drop 5) (yc (gj l) l) (bh jR k)))=_;rw[vd_fin hl h0,←Rd];exact bq (fun l=>gd (lZ l) _) (drop_getD h0).symm
end
section
noncomputable def rr:RowW:=PySem.Challenge.rw_pf0246_01.row.toRowW
theorem Ou{xs:List WData}(h:WShape.hasItems [] xs .int=true):∃l:List Int,xs=l.map .int:=by
 induction xs with
 |nil=>exact⟨[],rfl⟩
 |cons d r ih=>
  have h:(WShape.has [] d .int&&WShape.hasItems [] r .int)=true:=by simpa [WShape.hasItems]using h
  refine oA (bk.mp h) fun h1 h2=>?_;refine oE (ih h2) fun l o1=>?_;clear h2 ih;obtain rfl:=o1
  induction d using W.WData.casesOn<;>first|exact⟨_::l,rfl⟩|exact aP h1
theorem Ud{args:List WData}(h:rr.claim.pre args=true):∃l:List Int,args= [.list (l.map .int)]/\l.length<=63:=by
 refine oA (pre_splitW h) fun h1 h2=>?_;have h1:WShape.hasAll [] args [.list .int]=true:=h1;refine cy (hasAllW_cons h1) fun d r o2 hd hr=>?_;obtain rfl:=o2;have hr:r= []:=by induction r using List.casesOn with
  |nil=>rfl
  |cons=>simp[WShape.hasAll]at hr
 subst hr;have hx:∃xs,d= .list xs:=by induction d using W.WData.casesOn<;>first|exact⟨_,rfl⟩|exact aP hd
 refine oE (hx) fun xs o1=>?_;try clear hx;obtain rfl:=o1;have hd:WShape.hasItems [] xs .int=true:=by simpa [WShape.has,WShape.arms]using hd
 refine oE (Ou hd) fun l o1=>?_;obtain rfl:=o1;refine⟨l,rfl,?_⟩;have h2:WTm.holds [] PySem.Challenge.rw_pf0246_01.pre {args:=[.list (l.map .int)]}=true:=h2;have e:PySem.Challenge.rw_pf0246_01.pre= .and (.not (.lt (.lit (.int 63)) (.len (.arg 0)))) (.lit (.bool true)):=by kernel_rfl
 rw[e]at h2;refine bE (decide ((63:Int)<l.length)) (fun z=>?_) fun z=>?_
 ·exact by have:=of_decide_eq_false z;lia
 ·
  have:less? (WData.int 63) (WData.int l.length)=some true:=by rw[←z];rfl
  simp[WTm.holds,WTm.value,this]at h2
noncomputable def nk(h:Heap):Heap:=⟨h.objs.extract 0 544,h.life⟩
variable{h:Heap}{a:Nat}
theorem AX(q:a<544):(nk h).get? a=h.get? a:=by
 have e:(h.objs.extract 0 544)[a]?=h.objs[a]?:=by
  rw[Array.getElem?_extract]
  by_cases z:a<h.objs.size
  ·rw[if_pos (by lia),Nat.zero_add]
  ·rw[bG (by lia),Array.getElem?_eq_none (Nat.not_lt.mp z)]
 unfold Heap.get? nk;rw[e]
theorem cut_le{o:Obj}(e:(nk h).get? a=some o):h.get? a=some o:=by
 have q:a<544:=by
  have y:a<(nk h).objs.size:=gD e;have z:(nk h).objs.size=min 544 h.objs.size - 0:=Array.size_extract;rw[z]at y;exact nu y (Nat.min_le_left _ _)
 rw[AX q]at e;exact e
theorem DJ{m:Str->Option Value}(q:a<544)(n:h.Ns a m):(nk h).Ns a m:=by
 refine fq (n) fun o es ep e r=>?_;try clear n;exact⟨o,es,ep,(AX q).trans e,r⟩
noncomputable def E4(o:Obj):Array DictEntry:=match o.data with
 | .dict es _=>es
 |_=> #[]
noncomputable def refB(a:Addr)(v:Option Value):Bool:=match v with
 |some (.ref b)=>b==a
 |_=>false
variable{v:Option Value}
theorem XX{a:Addr}(q:refB a v=true):v=some (.ref a):=by
 induction v using Option.casesOn with
 |none=>exact aP q
 |some v=>
  induction v using Value.casesOn<;>first|exact aP q|exact bq (fun a=>some (Value.ref a)) (eq_of_beq q)
noncomputable def intB(i:Int)(v:Option Value):Bool:=match v with
 |some (.int j _)=>j==i
 |_=>false
set_option tactic.hygienic true in
theorem XY{i:Int}(q:intB i v=true):∃t,v=some (.int i t):=by
 induction v using Option.casesOn with
 |none=>exact aP q
 |some v=>
  induction v using Value.casesOn<;>first|exact aP q|skip
  rename_i j t;exact⟨t,by rw[show j=i from eq_of_beq q]⟩
noncomputable def Cd{β:Type}(f:Str->β->Bool):List (Str×β)->Bool
 | []=>true
 |(x,v)::r=>f x v&&Cd f r
theorem xm{β:Type}{f:Str->β->Bool}{x:Str}{v:β}:∀{l:List (Str×β)},Cd f l=true->look l x=some v->f x v=true:=by
 intro x0
 induction x0 with
 |nil=>
  intro _ e;exact aq e
 |cons gA r ih=>
  rcases gA with⟨y,u⟩
  intro q e;refine oA (bk.mp q) fun q1 q2=>?_;have e:cond (y==x) (some u) (look r x)=some v:=e;refine bT (y==x) (fun z=>?_) fun z=>?_
  ·rw[z]at e;cases e;rw[←eq_of_beq z];exact q1
  ·rw[z]at e;exact ih q2 e
theorem Ue(P:Params):Cd (fun x a=>refB a (nsFind (E4 (Hd.BC P)) x)) A8=true:=by kernel_rfl
theorem Ug(P:Params):Cd (fun x i=>intB i (nsFind (E4 (Hd.BC P)) x)) consts=true:=by kernel_rfl
noncomputable def AY:List (Str×Value):=[("len",.builtin "len"),("int",.type "int"),("str",.type "str"),("bytes",.type "bytes"),("list",.type "list"),("tuple",.type "tuple"),("sum",.builtin "sum"),("dict",.type "dict"),
 ("max",.builtin "max"),("bytearray",.type "bytearray"),("range",.type "range"),("enumerate",.type "enumerate")]
noncomputable def VG(v:Option Value):Bool:=match v with
 |none=>true
 |_=>false
theorem Uh(q:VG v=true):v=none:=by induction v using Option.casesOn;rfl;exact aP q
theorem bi_chk(P:Params):Cd (fun x _=>VG (nsFind (E4 (Hd.BC P)) x)) AY=true:=by kernel_rfl
noncomputable def VH(v:Value)(u:Option Value):Bool:=match v,u with
 | .builtin x,some (.builtin y)=>x==y
 | .type x,some (.type y)=>x==y
 |_,_=>false
set_option tactic.hygienic true in
theorem Ui{v:Value}{u:Option Value}(q:VH v u=true):u=some v:=by
 induction u using Option.casesOn with
 |none=>induction v using Value.casesOn<;>exact aP q
 |some u=>
  induction v using Value.casesOn<;>first|exact aP q|skip
  ·rename_i x;induction u using Value.casesOn<;>first|exact aP q|(rename_i y;rw[show x=y from eq_of_beq q])
  ·rename_i x;induction u using Value.casesOn<;>first|exact aP q|(rename_i y;rw[show x=y from eq_of_beq q])
theorem XZ:Cd (fun x v=>VH v (bootBuiltins x)&&x != "__name__") AY=true:=by kernel_rfl
end
set_option tactic.hygienic true
section
noncomputable def finK:Spec->Option aJ:=fun s=>some (s.val,s.fresh,s.outs)
def DK:Prop:=∀w:W0,∃sp,cz 27 (.ofString "law") (eK AQ sp)∧∀l:List Int,l.length≤63→∃fr outs,sp [.lst (l.map .int)] finK=some (.bool true,fr,outs)
variable{h:Heap}{l:List Int}
theorem Ov{O:List Addr}{vs:List Value}(x:BD l vs):aQ h O (l.map .int) vs:=by
 induction x with
 |nil=>exact .nil
 |cons _ ih=>exact .cons (.int _ _) ih
theorem Yb(lw:DK):Y7 g:=by
 intro G hK hc hm top s a o vs n l st ho c d il len;obtain⟨spl,⟨fv,h1,h2,CO⟩,h4⟩:=lw ⟨G,hK,hc,hm⟩;have e1:look A8 (.ofString "law")=some 543:=by kernel_rfl
 rw[hm _ _ e1]at h1;cases h1;have Lf:eK AQ spl=⟨[false],true,spl⟩:=by
  have Pw:AQ.ms= [false]:=by kernel_rfl
  have hba:AQ.ba=true:=by kernel_rfl
  unfold eK;rw[Pw,hba]
 rw[Lf]at CO;obtain⟨fr,outs,e⟩:=h4 l len;have R:bz callerA 27 0 true:=⟨by show 1+300+3 * 27+20≤600;omega,by show 4+8 * (40 * 27+0)+200≤9000;omega,rfl,fun _=>⟨[],rfl,by show 4≤4+3 * 0;omega⟩⟩;have X:az [] [] [] [] ⟨[],[]⟩ s.heap:=⟨.nil,⟨fun k m q=>aq q⟩,List.nodup_nil,(fun a q=>nomatch q),(fun a q=>nomatch q),st,top⟩;have T:Tree s.heap (Ob [] [] []) (.lst (l.map .int)) (.ref a):= .lst ho c d (fun q=>nomatch q) (Ov il);refine iR (CO (ps:=[.ofString ""]) R X (.tree T .nil) List.nodup_nil e) fun r s' z=>?_;obtain⟨⟨v1,f1,o1⟩,hk,z⟩:=z;have hk:some (v1,f1,o1)=some (MV.bool true,fr,outs):=hk;cases hk;cases r with
 |error e=>exact z.elim
 |ok fl=>
  cases fl with
  |ret v=>
   obtain⟨al',X',⟨N,ri,-⟩,sp,sm⟩:=z;refine⟨?_,fun b o e=>sp.keep b o e (fun q=>nomatch q) (fun q=>nomatch q),sm.gens,sm.os⟩;cases ri with
   |tree t _=>rw[t.bool_inv]
   |fresh _ o=>cases o
  |_=>exact z.elim
theorem Yc(P:Params):Cd (fun _ C=>eG.all fun a=>uC (Hd.kf P) C a) zd=true:=by kernel_rfl
theorem Uj{f:Str->Bool}{a:Str}:∀{l:List Str},l.all f=true->cJ a l=true->f a=true:=by
 intro x0
 induction x0 with
 |nil=>
  intro _ e;exact aP e
 |cons y r ih=>
  intro q e;obtain⟨q1,q2⟩:=bk.mp q;have e:cond (y==a) true (cJ a r)=true:=e;cases z:y==a with
  |true=>rw[←eq_of_beq z];exact q1
  |false=>rw[z]at e;exact ih q2 e
def dl:DefRec:=match Hd.df 86 with
 | .FunctionDef n a b _ _ _ sc _ _ p=>⟨n,a,b,sc,p⟩
 |_=>⟨Str.empty,default,[],default,default⟩
theorem Ow{β:Type}{a:Nat}{b:β}:∀{l:List (Nat×β)},l.lookup a=some b->a∈l.map (·.1):=by
 intro x0
 induction x0 with
 |nil=>
  intro e;exact aq e
 |cons gA r ih=>
  rcases gA with⟨c,u⟩
  intro e;unfold List.lookup at e;cases z:a==c with
  |true=>rw[eq_of_beq z];exact .head _
  |false=>rw[z]at e;exact .tail _ (ih e)
theorem ka_lt:Hd.ka.all (fun a=>decide (a<544))=true:=by kernel_rfl
theorem Ox{cl:Str->Option Addr}:∀{vs as},ReadsAllW [] cl h vs (l.map .int) as->BD l vs:=by
 induction l with
 |nil=>intro vs as r;cases r;exact .nil
 |cons i l ih=>
  intro vs as r;cases r with
  |cons a b=>
   obtain⟨t,rfl,-⟩:=readsW_int_inv a;exact .cons (ih b)
theorem walk(lw:DK):LY Hd.vw [Hd.z "Piece"] (XL Hd.vw []) Hd.hook.says rr dl []:=by
 intro w s₀ s₁ mg mb G Y a o pm cd doc dV kV ho hd Pe hD hmg hg args vals as HN L0 KX hwl hlo;have Y:(Hd.kf w.params).In s₁.heap:=Y;obtain⟨l,rfl,len⟩:=Ud HN;have h3:s₁.heap.get? 3=some (Hd.BC w.params):=Y 3 _ (by kernel_rfl);have hns:∀x,nsFind (E4 (Hd.BC w.params)) x=mg x:=by
  obtain⟨o',es,ep,e1,e2,e3,e4⟩:=G.T.g;have e1:s₁.heap.get? 3=some o':=e1;rw[h3]at e1;cases e1;have:E4 (Hd.BC w.params)=es:=by unfold E4;rw[e2]
  rw[this];exact e4
 have hm:∀x a,look A8 x=some a->mg x=some (.ref a):=fun x a e=>(hns x).symm.trans (XX (xm (Ue w.params) e));have ha:a=543:=by
  have e1:look A8 (.ofString "law")=some 543:=by kernel_rfl
  have e2:dl.name= .ofString "law":=by kernel_rfl
  rw[e2,hm _ _ e1]at hmg;cases hmg
  rfl
 subst ha;have h543:s₁.heap.get? 543=some (Hd.q607 w.params):=Y 543 _ (by kernel_rfl);have size:544<=s₁.heap.objs.size:=gD h543;have csize:(nk s₁.heap).objs.size=544:=by
  have:(nk s₁.heap).objs.size=min 544 s₁.heap.objs.size - 0:=Array.size_extract;rw[this,Nat.min_eq_left size]
 let gx:Gx:=⟨rr.prog,w,nk s₁.heap,Hd.kf w.params,mg,mb,zd⟩
 have GX:fO gx consts:=by
  refine⟨DJ (by decide) G.T.g,DJ (by decide) G.T.b,?_,?_,fun b o' e=>(AX ?_).trans (Y b o' e),fun x i e=>?_,fun x v e=>?_,?_,fun c C a hC he=>?_⟩
  ·obtain⟨mc,n1,n2⟩:=G.T.nolimit
   exact⟨mc,DJ (by decide) n1,n2⟩
  ·obtain⟨mc,n1,n2⟩:=G.T.nodigits
   exact⟨mc,DJ (by decide) n1,n2⟩
  ·exact bx (List.all_eq_true.mp ka_lt b (Hd.Ut w.params▸Ow e))
  ·obtain⟨t,e2⟩:=XY (xm (Ug w.params) e)
   exact⟨t,(hns x).symm.trans e2⟩
  ·have b1:=Uh (xm (bi_chk w.params) (l:=AY) e)
   have b2:=xm XZ (l:=AY) e;obtain⟨b3,b4⟩:=bk.mp b2;refine⟨(hns x).symm.trans b1,(G.T.builtins x fun q=>?_).trans (Ui b3)⟩;subst q;exact aP b4
  ·show 8<(nk s₁.heap).objs.size
   rw[csize];decide
  ·exact Uj (xm (Yc w.params) hC) he
 have read:∃o vs n,∃b,vals= [.ref b]∧s₁.heap.get? b=some o∧o.cls= .type "list" ∧o.data= .seq vs n∧BD l vs.toList:=by
  have KX:ReadsAllW [] (classAt s₀.heap) s₁.heap vals [.list (l.map .int)] as:=KX;cases KX with
  |cons r1 r2=>
   cases r2
   cases r1 with
   |list r1 r2 r3 r4=>exact⟨_,_,_,_,rfl,r1,r2,r3,Ox r4⟩
 obtain⟨o',vs,n,b,rfl,r1,r2,r3,r4⟩:=read;have main:=Y6 (Yb lw) gx GX rfl rfl hm ⟨543,_,(AX (by decide)).trans h543,by show(nk s₁.heap).objs.size<=544;omega⟩ s₁ b o' vs n l (fun _ _ e=>cut_le e) r1 r2 r3 r4 len;refine wD (iR main fun r s' z=>?_);obtain⟨rfl,z1,z2,z3⟩:=z;exact⟨.inl ⟨_,.bool true,[],rfl,fun cls=>rfl,.bool true,by kernel_rfl!,fun _=>⟨List.nodup_nil,fun a q=>nomatch q⟩⟩,.of_keep z1,z3,.of_eq (z2.trans hg)⟩
theorem VI:PySem.Challenge.rw_pf0246_01.row.wellSaid=true:=by
 rw[Fast.te17960256430627541270]
 kernel_rfl
theorem said2:PySem.Challenge.rw_pf0246_01.wellSaid=true:=by
 unfold OpenLaw.wellSaid;rw[VI]
 kernel_rfl
set_option maxHeartbeats 4000000 in
theorem holds(lw:DK):PySem.Challenge.rw_pf0246_01.row.Holds:=
 Ys (XP:=XL Hd.vw []) Hd.left (Hook.of Hd.hook) (Hook.keeps Hd.hook) (fun s e=>xl_of s (bk.mp e).1) XL.keeps (d:=dl) (kwd:=[]) (by kernel_rfl) (by kernel_rfl) (by kernel_rfl) (fun s e=>recFacts_of (bk.mp e).2) (by kernel_rfl) VI (by kernel_rfl) ⟨rfl,rfl,rfl,rfl,rfl,by kernel_rfl⟩ ⟨[.list [.int 3]],by kernel_rfl,by kernel_rfl⟩ (walk lw)
theorem last(lw:DK):PySem.Challenge.rw_pf0246_01.Holds:=holds_law said2 fun _=>holds lw
end
section
variable{M:Str->fE}{f:Fn}
theorem bD{T:fE}:Runs T M f (cj T M consts f):=fun _ _ _ e=>e
theorem nU{T:fE}{c:Str}:U4 T M c f (SJ T M c f):=fun _ _ _ e=>e
variable{d d':Nat}{x:Str}{en:Entry}
theorem cE{l}(a:cz d' x en)(q:Nat.ble d' d=true)(r:mz (cz d) l):mz (cz d) ((x,en)::l):=⟨a.le (Nat.le_of_ble_eq_true q),r⟩
theorem mE{c:Str}{l}(a:lQ d' c x en)(q:Nat.ble d' d=true)(r:mz (lQ d c) l):mz (lQ d c) ((x,en)::l):=⟨a.le (Nat.le_of_ble_eq_true q),r⟩
theorem m1{c:Str}{l}(h:mz (lQ d c) l):mz (fun c r=>mz (lQ d c) r) [(c,l)]:=⟨h,trivial⟩
theorem t0:kK d (tl rN) (tm mN):=cQ .nil .nil
theorem GD(w:W0):cz 3 "_law_pool" yq:=(fr w 471 2 (by kernel_rfl)).ok w bD t0
theorem ie(w:W0):cz 3 "_law_take" jw:=(fr w 478 2 (by kernel_rfl)).ok w Qs t0
theorem vh(w:W0):cz 6 "_law_one" (eK g9 Jj):=(fr w 485 2 (by kernel_rfl)).ok w SQ (cQ (cE (ie w) rfl .nil) .nil)
theorem E5(w:W0):cz 9 "_law_frame" (eK v8 (spF rM)):=(fr w 500 2 (by kernel_rfl)).ok w N4 (cQ (cE (vh w) rfl (cE (ie w) rfl .nil)) .nil)
theorem E6(w:W0):cz 6 "_law_codes" (eK v7 (spC xZ)):=(fr w 495 2 (by kernel_rfl)).ok w N3 (cQ (cE (ie w) rfl .nil) .nil)
theorem DL(w:W0):cz 6 "_law_quants" (eK uW (spQ Ca)):=(fr w 490 1 (by kernel_rfl)).ok w KQ (cQ (cE (ie w) rfl .nil) .nil)
theorem GF(w:W0):cz 9 "_law_scan" (eK xQ (TM Aq)):=(fr w 505 3 (by kernel_rfl)).ok w QY (cQ (cE (vh w) rfl (cE (ie w) rfl .nil)) .nil)
theorem DM(w:W0):cz 12 "_law_pieces" (eK qj (cj (JH OP) (tm []) consts dg)):=(fr w 510 1 (by kernel_rfl)).ok w bD (cQ (cE (vh w) rfl (cE (E5 w) rfl (cE (E6 w) rfl (cE (DL w) rfl (cE (ie w) rfl (cE (GF w) rfl .nil)))))) .nil)
theorem GG(w:W0):cz 6 "_law_bent" (eK nJ (Og (xh 90) xj)):=(fr w 517 2 (by kernel_rfl)).ok w Rc (cQ (cE (ie w) rfl .nil) .nil)
theorem Uk(w:W0):cz 3 "Piece" B3:=(cr w 109 106 (bindP w) (by kernel_rfl)).ok w nU t0
theorem JS(w:W0):cz 3 "FileCheck" zU:=(cr w 453 426 (mX (n:=2) (by kernel_rfl)) (by kernel_rfl)).ok w nU t0
theorem yd(w:W0):cz 3 "name_of" nK:=(fr w 77 1 (by kernel_rfl)).ok w bD t0
theorem kN(w:W0):lQ 3 "FileCheck" "tell" fJ:=(mr w 453 433 2 (by kernel_rfl)).ok w bD t0
theorem By(w:W0):cz 3 "is_frame" sf:=(fr w 84 1 (by kernel_rfl)).ok w bD t0
theorem GH(w:W0):cz 3 "is_frame" yt:=(fr w 84 1 (by kernel_rfl)).ok w Jm t0
theorem rP(w:W0):cz 3 "want" pK:=(fr w 232 2 (by kernel_rfl)).ok w bD t0
theorem nW(w:W0):cz 3 "OctetReader" k7:=(cr w 158 127 (mX (n:=2) (by kernel_rfl)) (by kernel_rfl)).ok w nU t0
theorem JT(w:W0):cz 3 "FrameHead" zV:=(cr w 200 197 (mX (n:=6) (by kernel_rfl)) (by kernel_rfl)).ok w nU t0
theorem rR(w:W0):cz 3 "is_lossless" nM:=(fr w 239 1 (by kernel_rfl)).ok w bD t0
theorem DN(w:W0):cz 6 "is_precision" vN:=(fr w 246 2 (by kernel_rfl)).ok w Qp (cQ (cE (rR w) rfl .nil) .nil)
theorem Av(w:W0):cz 6 "check_component" sQ:=(fr w 260 1 (by kernel_rfl)).ok w bD (cQ (cE (rP w) rfl .nil) .nil)
theorem yJ(w:W0):cz 3 "are_unlike" sY:=(fr w 253 1 (by kernel_rfl)).ok w bD t0
theorem E7(w:W0):cz 9 "check_frame" wW:=(fr w 265 1 (by kernel_rfl)).ok w bD (cQ (cE (rP w) rfl (cE (GH w) rfl (cE (DN w) rfl (cE (Av w) rfl (cE (yJ w) rfl .nil))))) .nil)
theorem Ce(w:W0):cz 3 "ComponentHead" uY:=(cr w 179 176 (mX (n:=5) (by kernel_rfl)) (by kernel_rfl)).ok w nU t0
theorem jW(w:W0):lQ 3 "OctetReader" "left" iz:=(mr w 158 134 1 (by kernel_rfl)).ok w bD t0
theorem mF(w:W0):lQ 6 "OctetReader" "take" jU:=(mr w 158 141 2 (by kernel_rfl)).ok w bD (cQ .nil (m1 (mE (jW w) rfl .nil)))
theorem iB(w:W0):lQ 9 "OctetReader" "byte" iA:=(mr w 158 148 1 (by kernel_rfl)).ok w bD (cQ .nil (m1 (mE (mF w) rfl .nil)))
theorem qQ(w:W0):lQ 9 "OctetReader" "word" mD:=(mr w 158 155 1 (by kernel_rfl)).ok w bD (cQ .nil (m1 (mE (mF w) rfl .nil)))
theorem yK(w:W0):cz 12 "read_frame" sZ:=(fr w 272 2 (by kernel_rfl)).ok w bD (cQ (cE (rP w) rfl (cE (nW w) rfl (cE (JT w) rfl (cE (E7 w) rfl (cE (Ce w) rfl .nil))))) (m1 (mE (iB w) rfl (mE (qQ w) rfl .nil))))
theorem xq(w:W0):cz 6 "read_number" rA:=(fr w 293 1 (by kernel_rfl)).ok w bD (cQ (cE (rP w) rfl .nil) .nil)
theorem vj(w:W0):cz 9 "read_interval" lU:=(fr w 300 1 (by kernel_rfl)).ok w bD (cQ (cE (xq w) rfl .nil) .nil)
theorem JU(w:W0):cz 12 "read_kind" zX:=(fr w 335 2 (by kernel_rfl)).ok w bD (cQ .nil (m1 (mE (iB w) rfl .nil)))
theorem GI(w:W0):cz 12 "read_kind" yu:=(fr w 335 2 (by kernel_rfl)).ok w NG (cQ .nil (m1 (mE (iB w) rfl .nil)))
theorem LJ(w:W0):cz 6 "need" EH:=(fr w 342 2 (by kernel_rfl)).ok w bD (cQ .nil (m1 (mE (jW w) rfl .nil)))
theorem Cg(w:W0):cz 3 "check_divisor" u6:=(fr w 349 2 (by kernel_rfl)).ok w bD t0
theorem yL(w:W0):cz 15 "read_quant" s7:=(fr w 356 2 (by kernel_rfl)).ok w bD (cQ (cE (nW w) rfl (cE (GI w) rfl (cE (LJ w) rfl (cE (Cg w) rfl .nil)))) (m1 (mE (jW w) rfl (mE (qQ w) rfl (mE (iB w) rfl .nil)))))
theorem yM(w:W0):cz 9 "read_lines" oM:=(fr w 307 1 (by kernel_rfl)).ok w bD (cQ (cE (xq w) rfl (cE (rP w) rfl .nil)) .nil)
theorem vQ(w:W0):cz 15 "read_huffman" qm:=(fr w 363 1 (by kernel_rfl)).ok w bD (cQ (cE (nW w) rfl (cE (JU w) rfl (cE (LJ w) rfl .nil))) (m1 (mE (jW w) rfl (mE (mF w) rfl .nil))))
theorem KR(w:W0):cz 3 "ScanHead" Bo:=(cr w 221 218 (mX (n:=8) (by kernel_rfl)) (by kernel_rfl)).ok w nU t0
theorem GJ(w:W0):cz 6 "check_scan" yw:=(fr w 279 1 (by kernel_rfl)).ok w bD (cQ (cE (rP w) rfl (cE (yJ w) rfl .nil)) .nil)
theorem Aw(w:W0):cz 12 "read_scan" u7:=(fr w 286 1 (by kernel_rfl)).ok w bD (cQ (cE (rP w) rfl (cE (nW w) rfl (cE (KR w) rfl (cE (GJ w) rfl .nil)))) (m1 (mE (iB w) rfl .nil)))
theorem Oz(w:W0):cz 3 "unstuff" Dr:=(fr w 314 1 (by kernel_rfl)).ok w bD t0
theorem E8(w:W0):cz 3 "behind_fill" wX:=(fr w 321 2 (by kernel_rfl)).ok w Qo t0
theorem GK(w:W0):cz 3 "is_restart" yx:=(fr w 91 1 (by kernel_rfl)).ok w SP t0
theorem yN(w:W0):cz 6 "split_data" s8:=(fr w 328 1 (by kernel_rfl)).ok w Ot (cQ (cE (Oz w) rfl (cE (E8 w) rfl (cE (GK w) rfl .nil))) .nil)
theorem yR(w:W0):lQ 6 "FileCheck" "tables" qJ:=(mr w 453 450 3 (by kernel_rfl)).ok w bD (cQ (cE (rR w) rfl .nil) (m1 (mE (kN w) rfl .nil)))
theorem A5(w:W0):lQ 9 "FileCheck" "scan" tH:=(mr w 453 443 3 (by kernel_rfl)).ok w bD (cQ (cE (yN w) rfl (cE (rR w) rfl .nil)) (m1 (mE (kN w) rfl (mE (yR w) rfl .nil))))
theorem Ax(w:W0):lQ 18 "FileCheck" "piece" sU:=(mr w 453 438 4 (by kernel_rfl)).ok w bD (cQ (cE (By w) rfl (cE (yK w) rfl (cE (vj w) rfl (cE (yL w) rfl (cE (yM w) rfl (cE (vQ w) rfl (cE (Aw w) rfl .nil))))))) (m1 (mE (kN w) rfl (mE (A5 w) rfl .nil))))
theorem GL(w:W0):cz 21 "check_file" (eK kX (Oe JQ E2)):=(fr w 464 2 (by kernel_rfl)).ok w Oo (cQ (cE (JS w) rfl (cE (yd w) rfl .nil)) (m1 (mE (kN w) rfl (mE (Ax w) rfl .nil))))
theorem yS(w:W0):cz 3 "_law_tables_due" qK:=(fr w 524 5 (by kernel_rfl)).ok w bD t0
theorem A6(w:W0):cz 6 "_law_scan_due" tK:=(fr w 531 5 (by kernel_rfl)).ok w bD (cQ (cE (yS w) rfl .nil) .nil)
theorem JV(w:W0):cz 9 "_law_due" (eK pJ (Of (xh 100) E3)):=(fr w 538 1 (by kernel_rfl)).ok w T7 (cQ (cE (A6 w) rfl .nil) .nil)
theorem GN(w:W0):cz 15 "frame_text" yC:=(fr w 384 2 (by kernel_rfl)).ok w bD (cQ (cE (yK w) rfl .nil) .nil)
theorem JW(w:W0):cz 15 "scan_text" zZ:=(fr w 391 2 (by kernel_rfl)).ok w bD (cQ (cE (Aw w) rfl (cE (yN w) rfl .nil)) .nil)
theorem E9(w:W0):cz 18 "tables_text" wZ:=(fr w 398 3 (by kernel_rfl)).ok w bD (cQ (cE (yL w) rfl (cE (vQ w) rfl .nil)) .nil)
theorem GO(w:W0):cz 21 "piece_text" yD:=(fr w 405 2 (by kernel_rfl)).ok w bD (cQ (cE (yd w) rfl (cE (By w) rfl (cE (GN w) rfl (cE (JW w) rfl (cE (E9 w) rfl (cE (vj w) rfl (cE (yM w) rfl .nil))))))) .nil)
theorem Rf(w:W0):cz 24 "report" FQ:=(fr w 412 2 (by kernel_rfl)).ok w bD (cQ (cE (GO w) rfl (cE (yd w) rfl .nil)) .nil)
def rLr:List (Str×Entry):=[("_law_pool",yq),("_law_pieces",eK qj (cj (JH OP) (tm []) consts dg)),("_law_bent",eK nJ (Og (xh 90) xj)),("_law_take",eK j7 EB),("Piece",B3),
 ("check_file",eK kX (Oe JQ E2)),("_law_due",eK pJ (Of (xh 100) E3)),("report",FQ)]
theorem TL_eq:TL nj=tl rLr:=by kernel_rfl
theorem ok_law(w:W0):cz 27 "law" (eK AQ (cj (tl rLr) (tm []) consts fL)):=(fr w 543 1 (by kernel_rfl)).ok w bD (cQ (cE (GD w) rfl (cE (DM w) rfl (cE (GG w) rfl (cE (ie w) rfl (cE (Uk w) rfl (cE (GL w) rfl (cE (JV w) rfl (cE (Rf w) rfl .nil)))))))) .nil)
theorem law_ok:DK:=fun w=>⟨_,ok_law w,fun l len=>⟨false,[],by rw[←TL_eq];exact XQ len finK⟩⟩
theorem done:PySem.Challenge.rw_pf0246_01.Holds:=last law_ok
end
end Mine
end
theorem PySem.Challenge.cw_pf0246_01_holds : PySem.Challenge.rw_pf0246_01.Holds :=
  Mine.done
