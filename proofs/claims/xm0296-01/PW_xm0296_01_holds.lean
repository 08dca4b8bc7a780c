import PyProof.Rows.All
import Wide.All
import OpenK.KLine
import Open.Tops
import Lean
import PySem.Challenge.RW_xm0296_01
set_option Elab.async false
set_option maxRecDepth 100000
set_option linter.all false
set_option maxHeartbeats 2000000
set_option tactic.hygienic false
namespace Mine
universe u
@[elab_as_elim] theorem af{α:Sort u}{p:α→Prop}{a b:α}(h:a=b)(k:p b):p a:=by subst h;exact k
@[elab_as_elim] theorem bt{α:Sort u}{p:α→Prop}{a b:α}(h:a=b)(k:p a):p b:=by subst h;exact k
@[elab_as_elim] theorem zD{α:Sort u}{p:α→Prop}{r a b:α}(h:r=a∨r=b)(x:p a)(y:p b):p r:=h.elim (fun e=>af e x) fun e=>af e y
@[elab_as_elim] theorem FV{α:Sort u}{p:α→Prop}{r a b c:α}(h:r=a∨r=b∨r=c)(x:p a)(y:p b)(z:p c):p r:=h.elim (fun e=>af e x) fun h=>zD h y z
@[elab_as_elim] theorem xM{α:Sort u}{p:α→Prop}{r a b c d:α}(h:r=a∨r=b∨r=c∨r=d)(x:p a)(y:p b)(z:p c)(w:p d):p r:=h.elim (fun e=>af e x) fun h=>FV h y z w
theorem aQ{α:Type u}{a b:α}(h:some a=some b):a=b:=Option.some.inj h
theorem aI{α:Sort u}{p:α→Prop}{b:Prop}(h:∃ x,p x)(k:∀ x,p x→b):b:=h.elim k
theorem ak{α:Sort u}{a b c:α}(h:a=b)(k:b=c):a=c:=h.trans k
theorem aH{c:Prop}{h:Decidable c}(k:c){α:Sort u}{t e:α}:ite c t e=t:=if_pos k
theorem aE{c:Prop}{h:Decidable c}(k:¬c){α:Sort u}{t e:α}:ite c t e=e:=if_neg k
theorem bS{p:Prop}[inst:Decidable p](h:p):decide p=true:=decide_eq_true h
theorem bH{p:Prop}[inst:Decidable p](h:¬p):decide p=false:=decide_eq_false h
theorem Fu{a b c d:Prop}(h:a∨b∨c)(x:a→d)(y:b→d)(z:c→d):d:=h.elim x fun h=>h.elim y z
theorem D9{a b c e d:Prop}(h:a∨b∨c∨e)(x:a→d)(y:b→d)(z:c→d)(w:e→d):d:=h.elim x fun h=>Fu h y z w
theorem o0x2{p0:Prop}{p1:Prop}{c:Prop}(h:p0∧p1)(k:p0→p1→c):c:=k h.1 h.2
theorem o0x3{p0:Prop}{p1:Prop}{p2:Prop}{c:Prop}(h:p0∧p1∧p2)(k:p0→p1→p2→c):c:=k h.1 h.2.1 h.2.2
theorem o0x4{p0:Prop}{p1:Prop}{p2:Prop}{p3:Prop}{c:Prop}(h:p0∧p1∧p2∧p3)(k:p0→p1→p2→p3→c):c:=k h.1 h.2.1 h.2.2.1 h.2.2.2
theorem o0x5{p0:Prop}{p1:Prop}{p2:Prop}{p3:Prop}{p4:Prop}{c:Prop}(h:p0∧p1∧p2∧p3∧p4)(k:p0→p1→p2→p3→p4→c):c:=k h.1 h.2.1 h.2.2.1 h.2.2.2.1 h.2.2.2.2
theorem o0x7{p0:Prop}{p1:Prop}{p2:Prop}{p3:Prop}{p4:Prop}{p5:Prop}{p6:Prop}{c:Prop}(h:p0∧p1∧p2∧p3∧p4∧p5∧p6)(k:p0→p1→p2→p3→p4→p5→p6→c):c:=k h.1 h.2.1 h.2.2.1 h.2.2.2.1 h.2.2.2.2.1 h.2.2.2.2.2.1 h.2.2.2.2.2.2
theorem o0x8{p0:Prop}{p1:Prop}{p2:Prop}{p3:Prop}{p4:Prop}{p5:Prop}{p6:Prop}{p7:Prop}{c:Prop}(h:p0∧p1∧p2∧p3∧p4∧p5∧p6∧p7)(k:p0→p1→p2→p3→p4→p5→p6→p7→c):c:=k h.1 h.2.1 h.2.2.1 h.2.2.2.1 h.2.2.2.2.1 h.2.2.2.2.2.1 h.2.2.2.2.2.2.1 h.2.2.2.2.2.2.2
theorem o1x2{α:Type}{p0:α→Prop}{p1:α→Prop}{c:Prop}(h:∃ x0:α,p0 x0∧p1 x0)(k:∀ x0:α,p0 x0→p1 x0→c):c:=Exists.elim h fun x0 h=>k x0 h.1 h.2
theorem o1x3{α:Type}{p0:α→Prop}{p1:α→Prop}{p2:α→Prop}{c:Prop}(h:∃ x0:α,p0 x0∧p1 x0∧p2 x0)(k:∀ x0:α,p0 x0→p1 x0→p2 x0→c):c:=Exists.elim h fun x0 h=>k x0 h.1 h.2.1 h.2.2
theorem o1x4{α:Type}{p0:α→Prop}{p1:α→Prop}{p2:α→Prop}{p3:α→Prop}{c:Prop}(h:∃ x0:α,p0 x0∧p1 x0∧p2 x0∧p3 x0)(k:∀ x0:α,p0 x0→p1 x0→p2 x0→p3 x0→c):c:=Exists.elim h fun x0 h=>k x0 h.1 h.2.1 h.2.2.1 h.2.2.2
theorem o1x5{α:Type}{p0:α→Prop}{p1:α→Prop}{p2:α→Prop}{p3:α→Prop}{p4:α→Prop}{c:Prop}(h:∃ x0:α,p0 x0∧p1 x0∧p2 x0∧p3 x0∧p4 x0)(k:∀ x0:α,p0 x0→p1 x0→p2 x0→p3 x0→p4 x0→c):c:=Exists.elim h fun x0 h=>k x0 h.1 h.2.1 h.2.2.1 h.2.2.2.1 h.2.2.2.2
theorem o1x6{α:Type}{p0:α→Prop}{p1:α→Prop}{p2:α→Prop}{p3:α→Prop}{p4:α→Prop}{p5:α→Prop}{c:Prop}(h:∃ x0:α,p0 x0∧p1 x0∧p2 x0∧p3 x0∧p4 x0∧p5 x0)(k:∀ x0:α,p0 x0→p1 x0→p2 x0→p3 x0→p4 x0→p5 x0→c):c:=Exists.elim h fun x0 h=>k x0 h.1 h.2.1 h.2.2.1 h.2.2.2.1 h.2.2.2.2.1 h.2.2.2.2.2
theorem o2x1{α β:Type}{p0:α→β→Prop}{c:Prop}(h:∃ x0:α,∃ x1:β,p0 x0 x1)(k:∀ x0:α,∀ x1:β,p0 x0 x1→c):c:=Exists.elim h fun x0 h=>Exists.elim h fun x1 h=>k x0 x1 h
theorem o2x2{α β:Type}{p0:α→β→Prop}{p1:α→β→Prop}{c:Prop}(h:∃ x0:α,∃ x1:β,p0 x0 x1∧p1 x0 x1)(k:∀ x0:α,∀ x1:β,p0 x0 x1→p1 x0 x1→c):c:=Exists.elim h fun x0 h=>Exists.elim h fun x1 h=>k x0 x1 h.1 h.2
theorem o2x3{α β:Type}{p0:α→β→Prop}{p1:α→β→Prop}{p2:α→β→Prop}{c:Prop}(h:∃ x0:α,∃ x1:β,p0 x0 x1∧p1 x0 x1∧p2 x0 x1)(k:∀ x0:α,∀ x1:β,p0 x0 x1→p1 x0 x1→p2 x0 x1→c):c:=Exists.elim h fun x0 h=>Exists.elim h fun x1 h=>k x0 x1 h.1 h.2.1 h.2.2
theorem o2x3_1v0l_2v1l{α β:Type}{f0:α}{f1:β}{p0:α→β→Prop}{c:Prop}(h:∃ x0:α,∃ x1:β,p0 x0 x1∧x0=f0∧x1=f1)(k:p0 f0 f1→c):c:=by
 obtain⟨x0,x1,h0,rfl,rfl⟩:=h;exact k h0
theorem o2x4{α β:Type}{p0:α→β→Prop}{p1:α→β→Prop}{p2:α→β→Prop}{p3:α→β→Prop}{c:Prop}(h:∃ x0:α,∃ x1:β,p0 x0 x1∧p1 x0 x1∧p2 x0 x1∧p3 x0 x1)(k:∀ x0:α,∀ x1:β,p0 x0 x1→p1 x0 x1→p2 x0 x1→p3 x0 x1→c):c:=Exists.elim h fun x0 h=>Exists.elim h fun x1 h=>k x0 x1 h.1 h.2.1 h.2.2.1 h.2.2.2
theorem o2x5{α β:Type}{p0:α→β→Prop}{p1:α→β→Prop}{p2:α→β→Prop}{p3:α→β→Prop}{p4:α→β→Prop}{c:Prop}(h:∃ x0:α,∃ x1:β,p0 x0 x1∧p1 x0 x1∧p2 x0 x1∧p3 x0 x1∧p4 x0 x1)(k:∀ x0:α,∀ x1:β,p0 x0 x1→p1 x0 x1→p2 x0 x1→p3 x0 x1→p4 x0 x1→c):c:=Exists.elim h fun x0 h=>Exists.elim h fun x1 h=>k x0 x1 h.1 h.2.1 h.2.2.1 h.2.2.2.1 h.2.2.2.2
theorem o2x8{α β:Type}{p0:α→β→Prop}{p1:α→β→Prop}{p2:α→β→Prop}{p3:α→β→Prop}{p4:α→β→Prop}{p5:α→β→Prop}{p6:α→β→Prop}{p7:α→β→Prop}{c:Prop}(h:∃ x0:α,∃ x1:β,p0 x0 x1∧p1 x0 x1∧p2 x0 x1∧p3 x0 x1∧p4 x0 x1∧p5 x0 x1∧p6 x0 x1∧p7 x0 x1)(k:∀ x0:α,∀ x1:β,p0 x0 x1→p1 x0 x1→p2 x0 x1→p3 x0 x1→p4 x0 x1→p5 x0 x1→p6 x0 x1→p7 x0 x1→c):c:=Exists.elim h fun x0 h=>Exists.elim h fun x1 h=>k x0 x1 h.1 h.2.1 h.2.2.1 h.2.2.2.1 h.2.2.2.2.1 h.2.2.2.2.2.1 h.2.2.2.2.2.2.1 h.2.2.2.2.2.2.2
theorem o2x9{α β:Type}{p0:α→β→Prop}{p1:α→β→Prop}{p2:α→β→Prop}{p3:α→β→Prop}{p4:α→β→Prop}{p5:α→β→Prop}{p6:α→β→Prop}{p7:α→β→Prop}{p8:α→β→Prop}{c:Prop}(h:∃ x0:α,∃ x1:β,p0 x0 x1∧p1 x0 x1∧p2 x0 x1∧p3 x0 x1∧p4 x0 x1∧p5 x0 x1∧p6 x0 x1∧p7 x0 x1∧p8 x0 x1)(k:∀ x0:α,∀ x1:β,p0 x0 x1→p1 x0 x1→p2 x0 x1→p3 x0 x1→p4 x0 x1→p5 x0 x1→p6 x0 x1→p7 x0 x1→p8 x0 x1→c):c:=Exists.elim h fun x0 h=>Exists.elim h fun x1 h=>k x0 x1 h.1 h.2.1 h.2.2.1 h.2.2.2.1 h.2.2.2.2.1 h.2.2.2.2.2.1 h.2.2.2.2.2.2.1 h.2.2.2.2.2.2.2.1 h.2.2.2.2.2.2.2.2
theorem o3x1{α β γ:Type}{p0:α→β→γ→Prop}{c:Prop}(h:∃ x0:α,∃ x1:β,∃ x2:γ,p0 x0 x1 x2)(k:∀ x0:α,∀ x1:β,∀ x2:γ,p0 x0 x1 x2→c):c:=Exists.elim h fun x0 h=>Exists.elim h fun x1 h=>Exists.elim h fun x2 h=>k x0 x1 x2 h
theorem o3x2{α β γ:Type}{p0:α→β→γ→Prop}{p1:α→β→γ→Prop}{c:Prop}(h:∃ x0:α,∃ x1:β,∃ x2:γ,p0 x0 x1 x2∧p1 x0 x1 x2)(k:∀ x0:α,∀ x1:β,∀ x2:γ,p0 x0 x1 x2→p1 x0 x1 x2→c):c:=Exists.elim h fun x0 h=>Exists.elim h fun x1 h=>Exists.elim h fun x2 h=>k x0 x1 x2 h.1 h.2
theorem o3x3{α β γ:Type}{p0:α→β→γ→Prop}{p1:α→β→γ→Prop}{p2:α→β→γ→Prop}{c:Prop}(h:∃ x0:α,∃ x1:β,∃ x2:γ,p0 x0 x1 x2∧p1 x0 x1 x2∧p2 x0 x1 x2)(k:∀ x0:α,∀ x1:β,∀ x2:γ,p0 x0 x1 x2→p1 x0 x1 x2→p2 x0 x1 x2→c):c:=Exists.elim h fun x0 h=>Exists.elim h fun x1 h=>Exists.elim h fun x2 h=>k x0 x1 x2 h.1 h.2.1 h.2.2
theorem o3x4{α β γ:Type}{p0:α→β→γ→Prop}{p1:α→β→γ→Prop}{p2:α→β→γ→Prop}{p3:α→β→γ→Prop}{c:Prop}(h:∃ x0:α,∃ x1:β,∃ x2:γ,p0 x0 x1 x2∧p1 x0 x1 x2∧p2 x0 x1 x2∧p3 x0 x1 x2)(k:∀ x0:α,∀ x1:β,∀ x2:γ,p0 x0 x1 x2→p1 x0 x1 x2→p2 x0 x1 x2→p3 x0 x1 x2→c):c:=Exists.elim h fun x0 h=>Exists.elim h fun x1 h=>Exists.elim h fun x2 h=>k x0 x1 x2 h.1 h.2.1 h.2.2.1 h.2.2.2
theorem o3x5{α β γ:Type}{p0:α→β→γ→Prop}{p1:α→β→γ→Prop}{p2:α→β→γ→Prop}{p3:α→β→γ→Prop}{p4:α→β→γ→Prop}{c:Prop}(h:∃ x0:α,∃ x1:β,∃ x2:γ,p0 x0 x1 x2∧p1 x0 x1 x2∧p2 x0 x1 x2∧p3 x0 x1 x2∧p4 x0 x1 x2)(k:∀ x0:α,∀ x1:β,∀ x2:γ,p0 x0 x1 x2→p1 x0 x1 x2→p2 x0 x1 x2→p3 x0 x1 x2→p4 x0 x1 x2→c):c:=Exists.elim h fun x0 h=>Exists.elim h fun x1 h=>Exists.elim h fun x2 h=>k x0 x1 x2 h.1 h.2.1 h.2.2.1 h.2.2.2.1 h.2.2.2.2
theorem o3x6{α β γ:Type}{p0:α→β→γ→Prop}{p1:α→β→γ→Prop}{p2:α→β→γ→Prop}{p3:α→β→γ→Prop}{p4:α→β→γ→Prop}{p5:α→β→γ→Prop}{c:Prop}(h:∃ x0:α,∃ x1:β,∃ x2:γ,p0 x0 x1 x2∧p1 x0 x1 x2∧p2 x0 x1 x2∧p3 x0 x1 x2∧p4 x0 x1 x2∧p5 x0 x1 x2)(k:∀ x0:α,∀ x1:β,∀ x2:γ,p0 x0 x1 x2→p1 x0 x1 x2→p2 x0 x1 x2→p3 x0 x1 x2→p4 x0 x1 x2→p5 x0 x1 x2→c):c:=Exists.elim h fun x0 h=>Exists.elim h fun x1 h=>Exists.elim h fun x2 h=>k x0 x1 x2 h.1 h.2.1 h.2.2.1 h.2.2.2.1 h.2.2.2.2.1 h.2.2.2.2.2
theorem o3x7{α β γ:Type}{p0:α→β→γ→Prop}{p1:α→β→γ→Prop}{p2:α→β→γ→Prop}{p3:α→β→γ→Prop}{p4:α→β→γ→Prop}{p5:α→β→γ→Prop}{p6:α→β→γ→Prop}{c:Prop}(h:∃ x0:α,∃ x1:β,∃ x2:γ,p0 x0 x1 x2∧p1 x0 x1 x2∧p2 x0 x1 x2∧p3 x0 x1 x2∧p4 x0 x1 x2∧p5 x0 x1 x2∧p6 x0 x1 x2)(k:∀ x0:α,∀ x1:β,∀ x2:γ,p0 x0 x1 x2→p1 x0 x1 x2→p2 x0 x1 x2→p3 x0 x1 x2→p4 x0 x1 x2→p5 x0 x1 x2→p6 x0 x1 x2→c):c:=Exists.elim h fun x0 h=>Exists.elim h fun x1 h=>Exists.elim h fun x2 h=>k x0 x1 x2 h.1 h.2.1 h.2.2.1 h.2.2.2.1 h.2.2.2.2.1 h.2.2.2.2.2.1 h.2.2.2.2.2.2
theorem o3x8{α β γ:Type}{p0:α→β→γ→Prop}{p1:α→β→γ→Prop}{p2:α→β→γ→Prop}{p3:α→β→γ→Prop}{p4:α→β→γ→Prop}{p5:α→β→γ→Prop}{p6:α→β→γ→Prop}{p7:α→β→γ→Prop}{c:Prop}(h:∃ x0:α,∃ x1:β,∃ x2:γ,p0 x0 x1 x2∧p1 x0 x1 x2∧p2 x0 x1 x2∧p3 x0 x1 x2∧p4 x0 x1 x2∧p5 x0 x1 x2∧p6 x0 x1 x2∧p7 x0 x1 x2)(k:∀ x0:α,∀ x1:β,∀ x2:γ,p0 x0 x1 x2→p1 x0 x1 x2→p2 x0 x1 x2→p3 x0 x1 x2→p4 x0 x1 x2→p5 x0 x1 x2→p6 x0 x1 x2→p7 x0 x1 x2→c):c:=Exists.elim h fun x0 h=>Exists.elim h fun x1 h=>Exists.elim h fun x2 h=>k x0 x1 x2 h.1 h.2.1 h.2.2.1 h.2.2.2.1 h.2.2.2.2.1 h.2.2.2.2.2.1 h.2.2.2.2.2.2.1 h.2.2.2.2.2.2.2
theorem o3x9{α β γ:Type}{p0:α→β→γ→Prop}{p1:α→β→γ→Prop}{p2:α→β→γ→Prop}{p3:α→β→γ→Prop}{p4:α→β→γ→Prop}{p5:α→β→γ→Prop}{p6:α→β→γ→Prop}{p7:α→β→γ→Prop}{p8:α→β→γ→Prop}{c:Prop}(h:∃ x0:α,∃ x1:β,∃ x2:γ,p0 x0 x1 x2∧p1 x0 x1 x2∧p2 x0 x1 x2∧p3 x0 x1 x2∧p4 x0 x1 x2∧p5 x0 x1 x2∧p6 x0 x1 x2∧p7 x0 x1 x2∧p8 x0 x1 x2)(k:∀ x0:α,∀ x1:β,∀ x2:γ,p0 x0 x1 x2→p1 x0 x1 x2→p2 x0 x1 x2→p3 x0 x1 x2→p4 x0 x1 x2→p5 x0 x1 x2→p6 x0 x1 x2→p7 x0 x1 x2→p8 x0 x1 x2→c):c:=Exists.elim h fun x0 h=>Exists.elim h fun x1 h=>Exists.elim h fun x2 h=>k x0 x1 x2 h.1 h.2.1 h.2.2.1 h.2.2.2.1 h.2.2.2.2.1 h.2.2.2.2.2.1 h.2.2.2.2.2.2.1 h.2.2.2.2.2.2.2.1 h.2.2.2.2.2.2.2.2
theorem o4x2{α β γ δ:Type}{p0:α→β→γ→δ→Prop}{p1:α→β→γ→δ→Prop}{c:Prop}(h:∃ x0:α,∃ x1:β,∃ x2:γ,∃ x3:δ,p0 x0 x1 x2 x3∧p1 x0 x1 x2 x3)(k:∀ x0:α,∀ x1:β,∀ x2:γ,∀ x3:δ,p0 x0 x1 x2 x3→p1 x0 x1 x2 x3→c):c:=Exists.elim h fun x0 h=>Exists.elim h fun x1 h=>Exists.elim h fun x2 h=>Exists.elim h fun x3 h=>k x0 x1 x2 x3 h.1 h.2
theorem o4x4{α β γ δ:Type}{p0:α→β→γ→δ→Prop}{p1:α→β→γ→δ→Prop}{p2:α→β→γ→δ→Prop}{p3:α→β→γ→δ→Prop}{c:Prop}(h:∃ x0:α,∃ x1:β,∃ x2:γ,∃ x3:δ,p0 x0 x1 x2 x3∧p1 x0 x1 x2 x3∧p2 x0 x1 x2 x3∧p3 x0 x1 x2 x3)(k:∀ x0:α,∀ x1:β,∀ x2:γ,∀ x3:δ,p0 x0 x1 x2 x3→p1 x0 x1 x2 x3→p2 x0 x1 x2 x3→p3 x0 x1 x2 x3→c):c:=Exists.elim h fun x0 h=>Exists.elim h fun x1 h=>Exists.elim h fun x2 h=>Exists.elim h fun x3 h=>k x0 x1 x2 x3 h.1 h.2.1 h.2.2.1 h.2.2.2
theorem o5x2{α β γ δ ε:Type}{p0:α→β→γ→δ→ε→Prop}{p1:α→β→γ→δ→ε→Prop}{c:Prop}(h:∃ x0:α,∃ x1:β,∃ x2:γ,∃ x3:δ,∃ x4:ε,p0 x0 x1 x2 x3 x4∧p1 x0 x1 x2 x3 x4)(k:∀ x0:α,∀ x1:β,∀ x2:γ,∀ x3:δ,∀ x4:ε,p0 x0 x1 x2 x3 x4→p1 x0 x1 x2 x3 x4→c):c:=Exists.elim h fun x0 h=>Exists.elim h fun x1 h=>Exists.elim h fun x2 h=>Exists.elim h fun x3 h=>Exists.elim h fun x4 h=>k x0 x1 x2 x3 x4 h.1 h.2
end Mine
namespace MineH
open PySem PySem.W PySem.Calls PyProof.Rows
noncomputable def top:List Stmt:=PySem.Challenge.pw_xm0296_01.main.body
noncomputable def yH:List Stmt→Nat→Stmt
 |[],_=>.Pass default
 |s::l,n=>match n with
  |0=>s
  |n+1=>yH l n
noncomputable def at1(n:Nat):Stmt:=yH top n
noncomputable def GQ:Stmt→List Stmt
 |.ClassDef _ _ _ b _ _ _ _ _ _ _=>b
 |_=>[]
noncomputable def at2(n m:Nat):Stmt:=yH (GQ (at1 n)) m
noncomputable def dArgs:Stmt→Arguments
 |.FunctionDef _ a _ _ _ _ _ _ _ _=>a
 |_=>default
noncomputable def dBody:Stmt→List Stmt
 |.FunctionDef _ _ b _ _ _ _ _ _ _=>b
 |_=>[]
noncomputable def dScope:Stmt→Scope
 |.FunctionDef _ _ _ _ _ _ sc _ _ _=>sc
 |_=>default
noncomputable def sv(s:String)(t:Nat):Value:=.str (Str.ofString s) t
noncomputable def kv(P:Params)(s:String)(t:Nat)(v:Value):DictEntry:=⟨PyData.keyHash P (Str.ofString s),.str (Str.ofString s) t,v⟩
noncomputable def tp(l:List Value):Obj:=⟨.type "tuple",none,.seq ⟨l⟩ 0,#[]⟩
noncomputable def fl(l:List Value):Obj:=⟨.none,none,.fields ⟨l⟩,#[]⟩
noncomputable def xJ(n q:String)(d:Stmt)(g:Addr)(m c:Value):Data:=.func ⟨Str.ofString n,Str.ofString q,dArgs d,.stmts (dBody d),dScope d,g,[],.none,.none,.none,m,none,c,.none,0⟩
noncomputable section
noncomputable abbrev M:=Params→Obj
noncomputable def tn:M:=fun _=>tp []
noncomputable def fn:M:=fun _=>fl []
noncomputable def Gi(l:List String):Nat→List Value:=List.rec (motive:=fun _=>Nat→List Value) (fun _=>[]) (fun s _ ih n=>sv s n::ih (n+1)) l
noncomputable def tw(n:Nat)(l:List String):M:=fun _=>tp (Gi l n)
noncomputable def Gj(l:List (Nat×Nat)):List Value:=List.rec (motive:=fun _=>List Value) [] (fun p _ ih=>.int (Int.ofNat p.1) 0::.int 0 0::.ref p.2::ih) l
noncomputable def r9(l:List (Nat×Nat)):List Value:=List.rec (motive:=fun _=>List Value) [] (fun p _ ih=>.int (Int.ofNat p.1) 0::.int 4 0::.ref p.2::ih) l
noncomputable def fw(a b:String)(d:Stmt)(m:Value)(k:Nat):M:=fun _=>⟨.type "function",none,xJ a b d 3 m (.ref (k-1)),⟨[]⟩⟩
noncomputable def fu(a:String)(d:Stmt)(m:Value)(k:Nat):M:=fw a a d m k
noncomputable def fx(a b:String)(d:Stmt):M:=fun _=>⟨.none,none,xJ a b d 0 .none .none,⟨[]⟩⟩
noncomputable def fv(a:String)(d:Stmt):M:=fx a a d
noncomputable def cf(x:Nat)(y:Bool)(a b:Value)(r1 r2:Nat)(c:Value)(n q:String)(t l ar u:Nat):M:=fun _=>⟨.type "code",none,.fields ⟨[sv n t,sv q (t+1),sv "/claim/cut.py" (t+2),.int (Int.ofNat l) 0,.int (Int.ofNat ar) 0,.int 0 0,.int 0 0,.int (Int.ofNat x) 0,.ref r1,.bool y,.int 181 0,.ref r2,.none,a,b,c,.int (Int.ofNat u) 0,.int (Int.ofNat l) 0,sv "/claim/cut.py" (u+1)]⟩,⟨[]⟩⟩
noncomputable def ca(n q:String)(t l ar u k:Nat):M:=cf 3 true (.ref (k-3)) (.ref (k-2)) (k-5) (k-4) (.ref (k-1)) n q t l ar u
noncomputable def cb(n q:String)(t l ar u k:Nat):M:=cf 0 false .none .none (k-2) (k-1) .none n q t l ar u
noncomputable def cc(n q:String)(t l ar u k:Nat):M:=cf 3 true .none .none (k-3) (k-2) (.ref (k-1)) n q t l ar u
noncomputable def bm(l:List Value):M:=fun _=>⟨.type "builtin_function_or_method",none,.fields ⟨l⟩,⟨[]⟩⟩
noncomputable def dc(n:Nat)(l:List DictEntry):Obj:=⟨.type "dict",none,.dict ⟨l⟩ n,⟨[]⟩⟩
noncomputable def kr(P:Params)(s:String)(t a:Nat):DictEntry:=kv P s t (.ref a)
noncomputable def ki(P:Params)(s:String)(t a:Nat):DictEntry:=kv P s t (.int (Int.ofNat a) (t-1))
noncomputable def m0:Value:=sv "__main__" 164
noncomputable def m1:Value:=sv "framerune.faults" 194
noncomputable def m2:Value:=sv "framerune.kinds" 247
noncomputable def m3:Value:=sv "framerune.values" 641
noncomputable def m4:Value:=sv "framerune.heap" 689
noncomputable def m5:Value:=sv "framerune.places" 869
noncomputable def m6:Value:=sv "framerune.mbase" 1024
noncomputable def m7:Value:=sv "framerune.store" 1378
noncomputable def m8:Value:=sv "framerune.mplain" 1525
noncomputable def m9:Value:=sv "framerune.mfield" 1537
noncomputable def jl:Value:=sv "law_xm0296_01" 1577
noncomputable def o2:M:=fun P=>⟨.none,none,(.dict ⟨[kv P "type.__subclasses__.Exception.0" 227 (.int 38 0),kv P "type.__subclasses__.Exception.n" 228 (.int 1 0)]⟩ 2),⟨[]⟩⟩
noncomputable def e3(P:Params):List DictEntry:=[kv P "__doc__" 166 .none,kv P "__package__" 167 .none,kv P "__loader__" 168 (.builtin "__main__.__loader__#opaque"),kv P "__spec__" 169 .none,kr P "__annotations__" 170 6,kr P "__builtins__" 171 4,kv P "__file__" 173 (sv "/claim/cut.py" 172),kv P "__cached__" 174 .none,kr P "_wall" 193 21,ki P "W_EMPTY" 197 2,ki P "W_PLACE" 199 4,kr P "RuneError" 230 38,kr P "BadKind" 246 51,ki P "VOID" 250 0,ki P "BOOL" 252 1,ki P "CHAR" 254 2,ki P "I1" 256 3,ki P "U1" 258 4,ki P "I2" 260 5,ki P "U2" 262 6,ki P "I4" 264 7,ki P "U4" 266 8,ki P "I8" 268 9,ki P "U8" 270 10,ki P "NINT" 272 11,ki P "OBJECT" 274 12,ki P "STRING" 276 13,ki P "NULLK" 278 14,ki P "PRIM_END" 280 16,ki P "R_PRIM" 282 1,ki P "R_CLASS" 284 2,ki P "R_VALUE" 286 3,ki P "R_ARRAY" 288 4,ki P "R_BYREF" 290 5,ki P "R_VAR" 292 6,ki P "R_MVAR" 294 7,ki P "R_BOXED" 296 8,ki P "R_ROREF" 298 9,ki P "R_FTN" 300 10,ki P "R_RAW" 302 11,ki P "DEEPEST_KIND" 304 24,ki P "HEAVIEST_KIND" 306 4096,kr P "PRIM_TID" 335 54,kr P "TID_PRIM" 364 55,ki P "ARRAY_TID" 366 5,ki P "NULLABLE_TID" 368 8,kr P "KindTable" 425 86,kr P "inner_kinds" 433 97,kr P "row_level" 440 104,kr P "row_length" 447 111,kr P "check_kind_row" 457 118,kr P "check_named" 465 125,kr P "check_args" 474 132,kr P "may_stand" 483 139,kr P "class_kind" 492 146,kr P "value_kind" 501 153,kr P "prim_kind" 509 160,kr P "array_kind" 517 167,kr P "byref_kind" 525 174,kr P "kind_sort" 533 181,kr P "elem_of" 542 188,kr P "tid_of" 551 195,kr P "args_of" 560 202,kr P "is_value" 568 209,kr P "is_var" 577 216,kr P "close" 587 223,kr P "close_in" 601 230,kr P "with_inner" 611 237,kr P "box_of" 619 244,kr P "pick_arg" 628 251,kr P "close_all" 640 258,ki P "V_REF" 644 4,ki P "V_STRUCT" 646 5,ki P "PL_LOCAL" 648 1,ki P "PL_ARG" 650 2,ki P "PL_HEAP" 652 3,ki P "PL_STATIC" 654 4,kr P "get_path" 663 265,kr P "put_path" 677 272,kr P "refs_in" 688 279,ki P "FIRST_ADDRESS" 692 16,ki P "HEAD_WORDS" 694 2,ki P "LEAST_SIZE" 696 3,kr P "words_for" 703 286,kr P "Thing" 739 303,kr P "Heap" 780 324,kr P "heap_alloc" 790 335,kr P "find_thing" 803 342,kr P "slot_word" 811 349,kr P "slot_at" 820 356,kr P "read_slot" 830 363,kr P "holds_reference" 838 370,kr P "card_number" 846 377,kr P "store_slot" 856 384,kr P "write_slot" 868 391,kv P "KEEP_PLACE" 873 (.int (-1) 872),kr P "PlaceHost" 906 408,kr P "local_place" 914 419,kr P "arg_place" 922 426,kr P "keep_place" 929 433,kr P "heap_place" 937 440,kr P "static_place" 945 447,kr P "field_place" 953 454,kr P "path_of" 960 461,kr P "slots_of" 969 468,kr P "index_of" 976 475,kr P "read_whole" 986 482,kr P "read_place" 995 489,kr P "write_place" 1006 496,kr P "start_of" 1015 503,kr P "same_place" 1023 510,kv P "JP_STAY" 1028 (.int (-2) 1027),ki P "ST_RUN" 1030 0,ki P "ST_WRONG" 1032 3,kr P "LOST" 1035 511,kr P "Frame" 1082 528,kr P "Starter" 1131 563,kr P "KindCloser" 1171 591,kr P "Tray" 1349 717,kr P "told_row" 1358 728,kr P "tell_wrong" 1369 735,kr P "pop_value" 1377 742,ki P "MF_STATIC" 1381 1,kr P "MethodDef" 1429 759,kr P "Body" 1464 780,kr P "Store" 1498 801,kr P "plain_names" 1507 812,kr P "method_sig" 1517 819,kr P "is_static" 1524 826,kr P "arg_kind" 1536 833,kr P "item_kind" 1546 840,kr P "heap_kind" 1555 847,kr P "whole_kind" 1565 854,kr P "place_kind" 1576 861,kr P "_law_ADDRESSES" 1583 862,kr P "_law_WORDS" 1592 863,kr P "_law_GENS" 1617 872,kr P "_law_draw" 1626 879,kr P "_law_shapes" 1632 884,kr P "_law_spots" 1647 891,kr P "_law_within" 1655 898,kr P "_law_made" 1661 903,kr P "_law_put" 1676 910,kr P "_law_show" 1682 915,kr P "_law_refs" 1696 922,kr P "_law_place" 1707 929,kr P "_law_write" 1719 936,kr P "_law_read" 1731 943,kr P "_law_nowhere" 1740 950,kr P "_law_astray" 1753 957,kr P "_law_turned" 1763 964,kr P "_law_apart" 1779 971,kr P "_law_copy" 1785 976,kr P "_law_first" 1794 983,kr P "_law_compare" 1811 990,kr P "_law_deed" 1824 997,kr P "_law_world" 1830 1002,kr P "_law_deepest" 1840 1009,kr P "_law_other" 1847 1016,kr P "_law_bottoms" 1857 1023,kr P "_law_settled" 1863 1028,kr P "law" 1876 1035]
noncomputable def o3:M:=fun P=>⟨.type "dict",none,.dict ⟨kv P "__name__" 165 (sv "law_xm0296_01" 1577)::e3 P⟩ 163,⟨[]⟩⟩
def o11:=tn
def ji:=Gj [(1,20),(7,27),(12,47),(48,61),(97,96),(106,103),(110,110),(116,117),(138,124),(142,131),(146,138),(151,145),(155,152),(159,159),(163,166),(165,173),(167,180),(169,187),(174,194),(183,201),(188,208),(192,215),(195,222),(200,229),(215,236),(224,243),(232,250),(236,257),(248,264),(254,271),(266,278),(289,285),(293,292),(302,313),(317,334),(326,341),(344,348),(346,355),(351,362),(359,369),(366,376),(368,383),(372,390),(385,397),(391,418),(393,425),(395,432),(397,439),(399,446),(401,453),(405,460),(409,467),(420,474),(424,481),(434,488),(439,495),(448,502),(456,509),(463,517),(481,538),(491,573),(498,601),(567,727),(572,734),(583,741),(590,748),(607,769),(614,790),(624,811),(629,818),(637,825),(640,832),(650,839),(654,846),(663,853),(681,860),(697,878),(703,883),(723,890),(733,897),(735,902),(742,909),(749,914),(754,921),(762,928),(767,935),(773,942),(781,949),(787,956),(798,963),(804,970),(816,975),(824,982),(829,989),(838,996),(854,1001),(893,1008),(899,1015),(903,1022),(911,1027),(924,1034)]
def o12:M:=fun _=>fl ji
def o13:=cb "<module>" "<module>" 182 1 0 185 13
noncomputable def o14:M:=fun P=>⟨(.type "frame"),none,.plain,⟨[(some (.ref 13)),(some (.ref 3)),(some (.ref 3)),none,(some (sv "__main__" 164)),none,(some (.ref 0))]⟩⟩
def o15:=tn
def o16:=fn
def o17:=tw 190 ["k"]
def o18:=tn
def o19:=fv "_wall" (at1 0)
def o20:=ca "_wall" "_wall" 187 1 1 191 20
def o21:=fu "_wall" (at1 0) m0 21
noncomputable def o22:M:=fun _=>tp [(.type "Exception")]
def o23:=bm [(.builtin "type.__prepare__"),(.type "type")]
def o24:M:=fun P=>dc 5 [kv P "__module__" 207 (sv "framerune.faults" 194),kv P "__qualname__" 209 (sv "RuneError" 208),ki P "__firstlineno__" 211 7,kr P "__init__" 220 35,kr P "__static_attributes__" 223 36]
def o25:=tn
def o26:M:=fun _=>fl (r9 [(9,34)])
def o27:=cb "RuneError" "RuneError" 202 7 0 205 27
noncomputable def o28:M:=fun P=>⟨(.type "frame"),none,.plain,⟨[(some (.ref 27)),(some (.ref 3)),(some (.ref 24)),none,(some (sv "framerune.faults" 194)),none,(some (.ref 0))]⟩⟩
def o29:=tn
def o30:=fn
def o31:=tw 215 ["self","code","at"]
def o32:=tn
def o33:=fx "__init__" "RuneError.__init__" (at2 4 0)
def o34:=ca "__init__" "RuneError.__init__" 212 9 3 218 34
def o35:=fw "__init__" "RuneError.__init__" (at2 4 0) m1 35
def o36:=tw 221 ["at","code"]
def o37:M:=fun P=>dc 3 [kv P "__module__" 207 (sv "framerune.faults" 194),ki P "__firstlineno__" 211 7,kr P "__init__" 220 35,kr P "__static_attributes__" 223 36,kr P "__weakref__" 225 39,kv P "__doc__" 226 .none]
noncomputable def o38:M:=fun P=>⟨(.type "type"),none,(.cls ⟨.ofString "RuneError",[(.type "Exception")],[(.ref 38),(.type "Exception"),(.type "BaseException"),(.type "object")],37,.ofString "RuneError",true,[],[(.ref 51)],false,none,false⟩),⟨[(some (.ref 22)),none,(some (sv "RuneError" 200)),(some (sv "RuneError" 208)),(some (.builtin "Exception.__new__")),(some (.bool true))]⟩⟩
noncomputable def o39:M:=fun P=>⟨(.type "getset_descriptor"),none,(.fields ⟨[(sv "__weakref__" 224),(.ref 38),(.builtin "ExceptionGroup.__weakref__"),.none]⟩),⟨[]⟩⟩
noncomputable def o40:M:=fun P=>⟨(.type "super"),none,(.fields ⟨[(.ref 38),(.ref 38),(.ref 38)]⟩),⟨[]⟩⟩
def o41:=bm [(.builtin "object.__init_subclass__"),(.ref 38)]
noncomputable def o42:M:=fun _=>tp [(.ref 38)]
def o43:=bm [(.builtin "type.__prepare__"),(.type "type")]
def o44:M:=fun P=>dc 4 [kv P "__module__" 238 (sv "framerune.faults" 194),kv P "__qualname__" 240 (sv "BadKind" 239),ki P "__firstlineno__" 242 12,kr P "__static_attributes__" 243 49]
def o45:=tn
def o46:=fn
def o47:=cb "BadKind" "BadKind" 233 12 0 236 47
noncomputable def o48:M:=fun P=>⟨(.type "frame"),none,.plain,⟨[(some (.ref 47)),(some (.ref 3)),(some (.ref 44)),none,(some (sv "framerune.faults" 194)),none,(some (.ref 0))]⟩⟩
def o49:=tn
def o50:M:=fun P=>dc 2 [kv P "__module__" 238 (sv "framerune.faults" 194),ki P "__firstlineno__" 242 12,kr P "__static_attributes__" 243 49,kv P "__doc__" 244 .none]
noncomputable def o51:M:=fun P=>⟨(.type "type"),none,(.cls ⟨.ofString "BadKind",[(.ref 38)],[(.ref 51),(.ref 38),(.type "Exception"),(.type "BaseException"),(.type "object")],50,.ofString "BadKind",true,[],[],false,none,false⟩),⟨[(some (.ref 42)),none,(some (sv "BadKind" 231)),(some (sv "BadKind" 239)),(some (.builtin "Exception.__new__")),(some (.bool true))]⟩⟩
noncomputable def o52:M:=fun P=>⟨(.type "super"),none,(.fields ⟨[(.ref 51),(.ref 51),(.ref 51)]⟩),⟨[]⟩⟩
def o53:=bm [(.builtin "object.__init_subclass__"),(.ref 51)]
def o54:M:=fun P=>dc 14 [⟨0,(.int 0 249),(.int 20 307)⟩,⟨1,(.int 1 251),(.int 9 308)⟩,⟨2,(.int 2 253),(.int 10 309)⟩,⟨3,(.int 3 255),(.int 11 310)⟩,⟨4,(.int 4 257),(.int 12 311)⟩,⟨5,(.int 5 259),(.int 13 312)⟩,⟨6,(.int 6 261),(.int 14 313)⟩,⟨7,(.int 7 263),(.int 15 314)⟩,⟨8,(.int 8 265),(.int 16 315)⟩,⟨9,(.int 9 267),(.int 17 316)⟩,⟨10,(.int 10 269),(.int 18 317)⟩,⟨11,(.int 11 271),(.int 19 318)⟩,⟨12,(.int 12 273),(.int 1 319)⟩,⟨13,(.int 13 275),(.int 4 320)⟩]
def o55:M:=fun P=>dc 14 [⟨20,(.int 20 336),(.int 0 249)⟩,⟨9,(.int 9 337),(.int 1 251)⟩,⟨10,(.int 10 338),(.int 2 253)⟩,⟨11,(.int 11 339),(.int 3 255)⟩,⟨12,(.int 12 340),(.int 4 257)⟩,⟨13,(.int 13 341),(.int 5 259)⟩,⟨14,(.int 14 342),(.int 6 261)⟩,⟨15,(.int 15 343),(.int 7 263)⟩,⟨16,(.int 16 344),(.int 8 265)⟩,⟨17,(.int 17 345),(.int 9 267)⟩,⟨18,(.int 18 346),(.int 10 269)⟩,⟨19,(.int 19 347),(.int 11 271)⟩,⟨1,(.int 1 348),(.int 12 273)⟩,⟨4,(.int 4 349),(.int 13 275)⟩]
def o56:=tn
def o57:=bm [(.builtin "type.__prepare__"),(.type "type")]
def o58:M:=fun P=>dc 7 [kv P "__module__" 376 (sv "framerune.kinds" 247),kv P "__qualname__" 378 (sv "KindTable" 377),ki P "__firstlineno__" 380 48,kr P "__init__" 389 69,kr P "row" 397 76,kr P "put" 412 83,kr P "__static_attributes__" 418 84]
def o59:=tn
def o60:M:=fun _=>fl (r9 [(50,68),(64,75),(69,82)])
def o61:=cb "KindTable" "KindTable" 371 48 0 374 61
noncomputable def o62:M:=fun P=>⟨(.type "frame"),none,.plain,⟨[(some (.ref 61)),(some (.ref 3)),(some (.ref 58)),none,(some (sv "framerune.kinds" 247)),none,(some (.ref 0))]⟩⟩
def o63:=tn
def o64:=fn
def o65:=tw 384 ["self","number","row"]
def o66:=tn
def o67:=fx "__init__" "KindTable.__init__" (at2 40 0)
def o68:=ca "__init__" "KindTable.__init__" 381 50 1 387 68
def o69:=fw "__init__" "KindTable.__init__" (at2 40 0) m2 69
def o70:=tn
def o71:=fn
def o72:=tw 393 ["self","k"]
def o73:=tn
def o74:=fx "row" "KindTable.row" (at2 40 1)
def o75:=ca "row" "KindTable.row" 390 64 2 395 75
def o76:=fw "row" "KindTable.row" (at2 40 1) m2 76
def o77:=tn
def o78:=fn
def o79:=tw 401 ["self","row","found","depth","weight","opened","level","inner","k"]
def o80:=tn
def o81:=fx "put" "KindTable.put" (at2 40 2)
def o82:=ca "put" "KindTable.put" 398 69 2 410 82
def o83:=fw "put" "KindTable.put" (at2 40 2) m2 83
def o84:=tw 413 ["depths","index","opens","rows","weights"]
def o85:M:=fun P=>dc 4 [kv P "__module__" 376 (sv "framerune.kinds" 247),ki P "__firstlineno__" 380 48,kr P "__init__" 389 69,kr P "row" 397 76,kr P "put" 412 83,kr P "__static_attributes__" 418 84,kr P "__dict__" 420 87,kr P "__weakref__" 422 88,kv P "__doc__" 423 .none]
noncomputable def o86:M:=fun P=>⟨(.type "type"),none,(.cls ⟨.ofString "KindTable",[(.type "object")],[(.ref 86),(.type "object")],85,.ofString "KindTable",true,[],[],false,none,false⟩),⟨[none,none,(some (sv "KindTable" 369)),(some (sv "KindTable" 377)),(some (.builtin "object.__new__")),(some (.bool true))]⟩⟩
noncomputable def o87:M:=fun P=>⟨(.type "getset_descriptor"),none,(.fields ⟨[(sv "__dict__" 419),(.ref 86),(.builtin "function.__dict__"),(.builtin "function.__dict__#set")]⟩),⟨[]⟩⟩
noncomputable def o88:M:=fun P=>⟨(.type "getset_descriptor"),none,(.fields ⟨[(sv "__weakref__" 421),(.ref 86),(.builtin "ExceptionGroup.__weakref__"),.none]⟩),⟨[]⟩⟩
noncomputable def o89:M:=fun P=>⟨(.type "super"),none,(.fields ⟨[(.ref 86),(.ref 86),(.ref 86)]⟩),⟨[]⟩⟩
def o90:=bm [(.builtin "object.__init_subclass__"),(.ref 86)]
def o91:=tn
def o92:=fn
def o93:=tw 429 ["row","sort"]
def o94:=tn
def o95:=fv "inner_kinds" (at1 41)
def o96:=ca "inner_kinds" "inner_kinds" 426 97 1 431 96
def o97:=fu "inner_kinds" (at1 41) m2 97
def o98:=tn
def o99:=fn
def o100:=tw 437 ["sort"]
def o101:=tn
def o102:=fv "row_level" (at1 42)
def o103:=ca "row_level" "row_level" 434 106 1 438 103
def o104:=fu "row_level" (at1 42) m2 104
def o105:=tn
def o106:=fn
def o107:=tw 444 ["sort"]
def o108:=tn
def o109:=fv "row_length" (at1 43)
def o110:=ca "row_length" "row_length" 441 110 1 445 110
def o111:=fu "row_length" (at1 43) m2 111
def o112:=tn
def o113:=fn
def o114:=tw 451 ["kt","row","sort","inner"]
def o115:=tn
def o116:=fv "check_kind_row" (at1 44)
def o117:=ca "check_kind_row" "check_kind_row" 448 116 2 455 117
def o118:=fu "check_kind_row" (at1 44) m2 118
def o119:=tn
def o120:=fn
def o121:=tw 461 ["kt","row"]
def o122:=tn
def o123:=fv "check_named" (at1 45)
def o124:=ca "check_named" "check_named" 458 138 2 463 124
def o125:=fu "check_named" (at1 45) m2 125
def o126:=tn
def o127:=fn
def o128:=tw 469 ["kt","args","arg"]
def o129:=tn
def o130:=fv "check_args" (at1 46)
def o131:=ca "check_args" "check_args" 466 142 2 472 131
def o132:=fu "check_args" (at1 46) m2 132
def o133:=tn
def o134:=fn
def o135:=tw 478 ["kt","k","sort"]
def o136:=tn
def o137:=fv "may_stand" (at1 47)
def o138:=ca "may_stand" "may_stand" 475 146 2 481 138
def o139:=fu "may_stand" (at1 47) m2 139
def o140:=tn
def o141:=fn
def o142:=tw 487 ["kt","tid","args"]
def o143:=tn
def o144:=fv "class_kind" (at1 48)
def o145:=ca "class_kind" "class_kind" 484 151 3 490 145
def o146:=fu "class_kind" (at1 48) m2 146
def o147:=tn
def o148:=fn
def o149:=tw 496 ["kt","tid","args"]
def o150:=tn
def o151:=fv "value_kind" (at1 49)
def o152:=ca "value_kind" "value_kind" 493 155 3 499 152
def o153:=fu "value_kind" (at1 49) m2 153
def o154:=tn
def o155:=fn
def o156:=tw 505 ["tid","args"]
def o157:=tn
def o158:=fv "prim_kind" (at1 50)
def o159:=ca "prim_kind" "prim_kind" 502 159 2 507 159
def o160:=fu "prim_kind" (at1 50) m2 160
def o161:=tn
def o162:=fn
def o163:=tw 513 ["kt","elem"]
def o164:=tn
def o165:=fv "array_kind" (at1 51)
def o166:=ca "array_kind" "array_kind" 510 163 2 515 166
def o167:=fu "array_kind" (at1 51) m2 167
def o168:=tn
def o169:=fn
def o170:=tw 521 ["kt","inner"]
def o171:=tn
def o172:=fv "byref_kind" (at1 52)
def o173:=ca "byref_kind" "byref_kind" 518 165 2 523 173
def o174:=fu "byref_kind" (at1 52) m2 174
def o175:=tn
def o176:=fn
def o177:=tw 529 ["kt","k"]
def o178:=tn
def o179:=fv "kind_sort" (at1 53)
def o180:=ca "kind_sort" "kind_sort" 526 167 2 531 180
def o181:=fu "kind_sort" (at1 53) m2 181
def o182:=tn
def o183:=fn
def o184:=tw 537 ["kt","k","row"]
def o185:=tn
def o186:=fv "elem_of" (at1 54)
def o187:=ca "elem_of" "elem_of" 534 169 2 540 187
def o188:=fu "elem_of" (at1 54) m2 188
def o189:=tn
def o190:=fn
def o191:=tw 546 ["kt","k","row"]
def o192:=tn
def o193:=fv "tid_of" (at1 55)
def o194:=ca "tid_of" "tid_of" 543 174 2 549 194
def o195:=fu "tid_of" (at1 55) m2 195
def o196:=tn
def o197:=fn
def o198:=tw 555 ["kt","k","row"]
def o199:=tn
def o200:=fv "args_of" (at1 56)
def o201:=ca "args_of" "args_of" 552 183 2 558 201
def o202:=fu "args_of" (at1 56) m2 202
def o203:=tn
def o204:=fn
def o205:=tw 564 ["kt","k"]
def o206:=tn
def o207:=fv "is_value" (at1 57)
def o208:=ca "is_value" "is_value" 561 188 2 566 208
def o209:=fu "is_value" (at1 57) m2 209
def o210:=tn
def o211:=fn
def o212:=tw 572 ["kt","k","sort"]
def o213:=tn
def o214:=fv "is_var" (at1 58)
def o215:=ca "is_var" "is_var" 569 192 2 575 215
def o216:=fu "is_var" (at1 58) m2 216
def o217:=tn
def o218:=fn
def o219:=tw 581 ["kt","k","targs","margs"]
def o220:=tn
def o221:=fv "close" (at1 59)
def o222:=ca "close" "close" 578 195 4 585 222
def o223:=fu "close" (at1 59) m2 223
def o224:=tn
def o225:=fn
def o226:=tw 591 ["kt","k","targs","margs","seen","row","inner","part"]
def o227:=tn
def o228:=fv "close_in" (at1 60)
def o229:=ca "close_in" "close_in" 588 200 5 599 229
def o230:=fu "close_in" (at1 60) m2 230
def o231:=tn
def o232:=fn
def o233:=tw 605 ["kt","row","inner","sort"]
def o234:=tn
def o235:=fv "with_inner" (at1 61)
def o236:=ca "with_inner" "with_inner" 602 215 3 609 236
def o237:=fu "with_inner" (at1 61) m2 237
def o238:=tn
def o239:=fn
def o240:=tw 615 ["kt","k"]
def o241:=tn
def o242:=fv "box_of" (at1 62)
def o243:=ca "box_of" "box_of" 612 224 2 617 243
def o244:=fu "box_of" (at1 62) m2 244
def o245:=tn
def o246:=fn
def o247:=tw 623 ["args","place","k"]
def o248:=tn
def o249:=fv "pick_arg" (at1 63)
def o250:=ca "pick_arg" "pick_arg" 620 232 3 626 250
def o251:=fu "pick_arg" (at1 63) m2 251
def o252:=tn
def o253:=fn
def o254:=tw 632 ["kt","ks","targs","margs","out","k"]
def o255:=tn
def o256:=fv "close_all" (at1 64)
def o257:=ca "close_all" "close_all" 629 236 4 638 257
def o258:=fu "close_all" (at1 64) m2 258
def o259:=tn
def o260:=fn
def o261:=tw 658 ["value","path","slot"]
def o262:=tn
def o263:=fv "get_path" (at1 72)
def o264:=ca "get_path" "get_path" 655 248 2 661 264
def o265:=fu "get_path" (at1 72) m3 265
def o266:=tn
def o267:=fn
def o268:=tw 667 ["value","path","new","way","at_slot","slot","place","outer"]
def o269:=tn
def o270:=fv "put_path" (at1 73)
def o271:=ca "put_path" "put_path" 664 254 3 675 271
def o272:=fu "put_path" (at1 73) m3 272
def o273:=tn
def o274:=fn
def o275:=tw 681 ["value","found","todo","top","place"]
def o276:=tn
def o277:=fv "refs_in" (at1 74)
def o278:=ca "refs_in" "refs_in" 678 266 1 686 278
def o279:=fu "refs_in" (at1 74) m3 279
def o280:=tn
def o281:=fn
def o282:=tw 700 ["count"]
def o283:=tn
def o284:=fv "words_for" (at1 79)
def o285:=ca "words_for" "words_for" 697 289 1 701 285
def o286:=fu "words_for" (at1 79) m4 286
def o287:=tn
def o288:=bm [(.builtin "type.__prepare__"),(.type "type")]
def o289:M:=fun P=>dc 5 [kv P "__module__" 711 (sv "framerune.heap" 689),kv P "__qualname__" 713 (sv "Thing" 712),ki P "__firstlineno__" 715 293,kr P "__init__" 725 300,kr P "__static_attributes__" 732 301]
def o290:=tn
def o291:M:=fun _=>fl (r9 [(295,299)])
def o292:=cb "Thing" "Thing" 706 293 0 709 292
noncomputable def o293:M:=fun P=>⟨(.type "frame"),none,.plain,⟨[(some (.ref 292)),(some (.ref 3)),(some (.ref 289)),none,(some (sv "framerune.heap" 689)),none,(some (.ref 0))]⟩⟩
def o294:=tn
def o295:=fn
def o296:=tw 719 ["self","addr","kind","slots"]
def o297:=tn
def o298:=fx "__init__" "Thing.__init__" (at2 80 0)
def o299:=ca "__init__" "Thing.__init__" 716 295 4 723 299
def o300:=fw "__init__" "Thing.__init__" (at2 80 0) m4 300
def o301:=tw 726 ["addr","gen","kind","serial","size","slots"]
def o302:M:=fun P=>dc 4 [kv P "__module__" 711 (sv "framerune.heap" 689),ki P "__firstlineno__" 715 293,kr P "__init__" 725 300,kr P "__static_attributes__" 732 301,kr P "__dict__" 734 304,kr P "__weakref__" 736 305,kv P "__doc__" 737 .none]
noncomputable def o303:M:=fun P=>⟨(.type "type"),none,(.cls ⟨.ofString "Thing",[(.type "object")],[(.ref 303),(.type "object")],302,.ofString "Thing",true,[],[],false,none,false⟩),⟨[none,none,(some (sv "Thing" 704)),(some (sv "Thing" 712)),(some (.builtin "object.__new__")),(some (.bool true))]⟩⟩
noncomputable def o304:M:=fun P=>⟨(.type "getset_descriptor"),none,(.fields ⟨[(sv "__dict__" 733),(.ref 303),(.builtin "function.__dict__"),(.builtin "function.__dict__#set")]⟩),⟨[]⟩⟩
noncomputable def o305:M:=fun P=>⟨(.type "getset_descriptor"),none,(.fields ⟨[(sv "__weakref__" 735),(.ref 303),(.builtin "ExceptionGroup.__weakref__"),.none]⟩),⟨[]⟩⟩
noncomputable def o306:M:=fun P=>⟨(.type "super"),none,(.fields ⟨[(.ref 303),(.ref 303),(.ref 303)]⟩),⟨[]⟩⟩
def o307:=bm [(.builtin "object.__init_subclass__"),(.ref 303)]
def o308:=tn
def o309:=bm [(.builtin "type.__prepare__"),(.type "type")]
def o310:M:=fun P=>dc 5 [kv P "__module__" 747 (sv "framerune.heap" 689),kv P "__qualname__" 749 (sv "Heap" 748),ki P "__firstlineno__" 751 302,kr P "__init__" 760 321,kr P "__static_attributes__" 773 322]
def o311:=tn
def o312:M:=fun _=>fl (r9 [(304,320)])
def o313:=cb "Heap" "Heap" 742 302 0 745 313
noncomputable def o314:M:=fun P=>⟨(.type "frame"),none,.plain,⟨[(some (.ref 313)),(some (.ref 3)),(some (.ref 310)),none,(some (sv "framerune.heap" 689)),none,(some (.ref 0))]⟩⟩
def o315:=tn
def o316:=fn
def o317:=tw 755 ["self","limit","card_bits"]
def o318:=tn
def o319:=fx "__init__" "Heap.__init__" (at2 81 0)
def o320:=ca "__init__" "Heap.__init__" 752 304 3 758 320
def o321:=fw "__init__" "Heap.__init__" (at2 81 0) m4 321
def o322:=tw 761 ["at","card_bits","cards","finals","fresh","limit","made","moved","ready","things","top","young_limit"]
def o323:M:=fun P=>dc 4 [kv P "__module__" 747 (sv "framerune.heap" 689),ki P "__firstlineno__" 751 302,kr P "__init__" 760 321,kr P "__static_attributes__" 773 322,kr P "__dict__" 775 325,kr P "__weakref__" 777 326,kv P "__doc__" 778 .none]
noncomputable def o324:M:=fun P=>⟨(.type "type"),none,(.cls ⟨.ofString "Heap",[(.type "object")],[(.ref 324),(.type "object")],323,.ofString "Heap",true,[],[],false,none,false⟩),⟨[none,none,(some (sv "Heap" 740)),(some (sv "Heap" 748)),(some (.builtin "object.__new__")),(some (.bool true))]⟩⟩
noncomputable def o325:M:=fun P=>⟨(.type "getset_descriptor"),none,(.fields ⟨[(sv "__dict__" 774),(.ref 324),(.builtin "function.__dict__"),(.builtin "function.__dict__#set")]⟩),⟨[]⟩⟩
noncomputable def o326:M:=fun P=>⟨(.type "getset_descriptor"),none,(.fields ⟨[(sv "__weakref__" 776),(.ref 324),(.builtin "ExceptionGroup.__weakref__"),.none]⟩),⟨[]⟩⟩
noncomputable def o327:M:=fun P=>⟨(.type "super"),none,(.fields ⟨[(.ref 324),(.ref 324),(.ref 324)]⟩),⟨[]⟩⟩
def o328:=bm [(.builtin "object.__init_subclass__"),(.ref 324)]
def o329:=tn
def o330:=fn
def o331:=tw 784 ["heap","kind","slots","thing"]
def o332:=tn
def o333:=fv "heap_alloc" (at1 82)
def o334:=ca "heap_alloc" "heap_alloc" 781 317 3 788 334
def o335:=fu "heap_alloc" (at1 82) m4 335
def o336:=tn
def o337:=fn
def o338:=tw 794 ["heap","word","exact","low","high","middle","thing"]
def o339:=tn
def o340:=fv "find_thing" (at1 83)
def o341:=ca "find_thing" "find_thing" 791 326 2 801 341
def o342:=fu "find_thing" (at1 83) m4 342
def o343:=tn
def o344:=fn
def o345:=tw 807 ["thing","slot"]
def o346:=tn
def o347:=fv "slot_word" (at1 84)
def o348:=ca "slot_word" "slot_word" 804 344 2 809 348
def o349:=fu "slot_word" (at1 84) m4 349
def o350:=tn
def o351:=fn
def o352:=tw 815 ["thing","word","slot"]
def o353:=tn
def o354:=fv "slot_at" (at1 85)
def o355:=ca "slot_at" "slot_at" 812 346 2 818 355
def o356:=fu "slot_at" (at1 85) m4 356
def o357:=tn
def o358:=fn
def o359:=tw 824 ["heap","word","thing","slot"]
def o360:=tn
def o361:=fv "read_slot" (at1 86)
def o362:=ca "read_slot" "read_slot" 821 351 2 828 362
def o363:=fu "read_slot" (at1 86) m4 363
def o364:=tn
def o365:=fn
def o366:=tw 834 ["value","addr"]
def o367:=tn
def o368:=fv "holds_reference" (at1 87)
def o369:=ca "holds_reference" "holds_reference" 831 359 1 836 369
def o370:=fu "holds_reference" (at1 87) m4 370
def o371:=tn
def o372:=fn
def o373:=tw 842 ["heap","word"]
def o374:=tn
def o375:=fv "card_number" (at1 88)
def o376:=ca "card_number" "card_number" 839 366 2 844 376
def o377:=fu "card_number" (at1 88) m4 377
def o378:=tn
def o379:=fn
def o380:=tw 850 ["heap","thing","slot","value"]
def o381:=tn
def o382:=fv "store_slot" (at1 89)
def o383:=ca "store_slot" "store_slot" 847 368 4 854 383
def o384:=fu "store_slot" (at1 89) m4 384
def o385:=tn
def o386:=fn
def o387:=tw 860 ["heap","word","path","value","thing","slot"]
def o388:=tn
def o389:=fv "write_slot" (at1 90)
def o390:=ca "write_slot" "write_slot" 857 372 4 866 390
def o391:=fu "write_slot" (at1 90) m4 391
def o392:=tn
def o393:=bm [(.builtin "type.__prepare__"),(.type "type")]
def o394:M:=fun P=>dc 5 [kv P "__module__" 881 (sv "framerune.places" 869),kv P "__qualname__" 883 (sv "PlaceHost" 882),ki P "__firstlineno__" 885 385,kr P "__init__" 895 405,kr P "__static_attributes__" 899 406]
def o395:=tn
def o396:M:=fun _=>fl (r9 [(387,404)])
def o397:=cb "PlaceHost" "PlaceHost" 876 385 0 879 397
noncomputable def o398:M:=fun P=>⟨(.type "frame"),none,.plain,⟨[(some (.ref 397)),(some (.ref 3)),(some (.ref 394)),none,(some (sv "framerune.places" 869)),none,(some (.ref 0))]⟩⟩
def o399:=tn
def o400:=fn
def o401:=tw 889 ["self","heap","frames","statics"]
def o402:=tn
def o403:=fx "__init__" "PlaceHost.__init__" (at2 93 0)
def o404:=ca "__init__" "PlaceHost.__init__" 886 387 4 893 404
def o405:=fw "__init__" "PlaceHost.__init__" (at2 93 0) m5 405
def o406:=tw 896 ["frames","heap","statics"]
def o407:M:=fun P=>dc 4 [kv P "__module__" 881 (sv "framerune.places" 869),ki P "__firstlineno__" 885 385,kr P "__init__" 895 405,kr P "__static_attributes__" 899 406,kr P "__dict__" 901 409,kr P "__weakref__" 903 410,kv P "__doc__" 904 .none]
noncomputable def o408:M:=fun P=>⟨(.type "type"),none,(.cls ⟨.ofString "PlaceHost",[(.type "object")],[(.ref 408),(.type "object")],407,.ofString "PlaceHost",true,[],[],false,none,false⟩),⟨[none,none,(some (sv "PlaceHost" 874)),(some (sv "PlaceHost" 882)),(some (.builtin "object.__new__")),(some (.bool true))]⟩⟩
noncomputable def o409:M:=fun P=>⟨(.type "getset_descriptor"),none,(.fields ⟨[(sv "__dict__" 900),(.ref 408),(.builtin "function.__dict__"),(.builtin "function.__dict__#set")]⟩),⟨[]⟩⟩
noncomputable def o410:M:=fun P=>⟨(.type "getset_descriptor"),none,(.fields ⟨[(sv "__weakref__" 902),(.ref 408),(.builtin "ExceptionGroup.__weakref__"),.none]⟩),⟨[]⟩⟩
noncomputable def o411:M:=fun P=>⟨(.type "super"),none,(.fields ⟨[(.ref 408),(.ref 408),(.ref 408)]⟩),⟨[]⟩⟩
def o412:=bm [(.builtin "object.__init_subclass__"),(.ref 408)]
def o413:=tn
def o414:=fn
def o415:=tw 910 ["f","i"]
def o416:=tn
def o417:=fv "local_place" (at1 94)
def o418:=ca "local_place" "local_place" 907 391 2 912 418
def o419:=fu "local_place" (at1 94) m5 419
def o420:=tn
def o421:=fn
def o422:=tw 918 ["f","i"]
def o423:=tn
def o424:=fv "arg_place" (at1 95)
def o425:=ca "arg_place" "arg_place" 915 393 2 920 425
def o426:=fu "arg_place" (at1 95) m5 426
def o427:=tn
def o428:=fn
def o429:=tw 926 ["f"]
def o430:=tn
def o431:=fv "keep_place" (at1 96)
def o432:=ca "keep_place" "keep_place" 923 395 1 927 432
def o433:=fu "keep_place" (at1 96) m5 433
def o434:=tn
def o435:=fn
def o436:=tw 933 ["thing","slot"]
def o437:=tn
def o438:=fv "heap_place" (at1 97)
def o439:=ca "heap_place" "heap_place" 930 397 2 935 439
def o440:=fu "heap_place" (at1 97) m5 440
def o441:=tn
def o442:=fn
def o443:=tw 941 ["owner","slot"]
def o444:=tn
def o445:=fv "static_place" (at1 98)
def o446:=ca "static_place" "static_place" 938 399 2 943 446
def o447:=fu "static_place" (at1 98) m5 447
def o448:=tn
def o449:=fn
def o450:=tw 949 ["place","slot"]
def o451:=tn
def o452:=fv "field_place" (at1 99)
def o453:=ca "field_place" "field_place" 946 401 2 951 453
def o454:=fu "field_place" (at1 99) m5 454
def o455:=tn
def o456:=fn
def o457:=tw 957 ["place"]
def o458:=tn
def o459:=fv "path_of" (at1 100)
def o460:=ca "path_of" "path_of" 954 405 1 958 460
def o461:=fu "path_of" (at1 100) m5 461
def o462:=tn
def o463:=fn
def o464:=tw 964 ["ph","place","f"]
def o465:=tn
def o466:=fv "slots_of" (at1 101)
def o467:=ca "slots_of" "slots_of" 961 409 2 967 467
def o468:=fu "slots_of" (at1 101) m5 468
def o469:=tn
def o470:=fn
def o471:=tw 973 ["place"]
def o472:=tn
def o473:=fv "index_of" (at1 102)
def o474:=ca "index_of" "index_of" 970 420 1 974 474
def o475:=fu "index_of" (at1 102) m5 475
def o476:=tn
def o477:=fn
def o478:=tw 980 ["ph","place","slots","i"]
def o479:=tn
def o480:=fv "read_whole" (at1 103)
def o481:=ca "read_whole" "read_whole" 977 424 2 984 481
def o482:=fu "read_whole" (at1 103) m5 482
def o483:=tn
def o484:=fn
def o485:=tw 990 ["ph","place","slot_value"]
def o486:=tn
def o487:=fv "read_place" (at1 104)
def o488:=ca "read_place" "read_place" 987 434 2 993 488
def o489:=fu "read_place" (at1 104) m5 489
def o490:=tn
def o491:=fn
def o492:=tw 999 ["ph","place","value","slot_value","slots"]
def o493:=tn
def o494:=fv "write_place" (at1 105)
def o495:=ca "write_place" "write_place" 996 439 3 1004 495
def o496:=fu "write_place" (at1 105) m5 496
def o497:=tn
def o498:=fn
def o499:=tw 1010 ["place","path","n"]
def o500:=tn
def o501:=fv "start_of" (at1 106)
def o502:=ca "start_of" "start_of" 1007 448 1 1013 502
def o503:=fu "start_of" (at1 106) m5 503
def o504:=tn
def o505:=fn
def o506:=tw 1019 ["a","b"]
def o507:=tn
def o508:=fv "same_place" (at1 107)
def o509:=ca "same_place" "same_place" 1016 456 2 1021 509
def o510:=fu "same_place" (at1 107) m5 510
noncomputable def o511:M:=fun _=>tp [(.int 0 1033),(.int 0 1034)]
def o512:=tn
def o513:=bm [(.builtin "type.__prepare__"),(.type "type")]
def o514:M:=fun P=>dc 5 [kv P "__module__" 1043 (sv "framerune.mbase" 1024),kv P "__qualname__" 1045 (sv "Frame" 1044),ki P "__firstlineno__" 1047 463,kr P "__init__" 1059 525,kr P "__static_attributes__" 1075 526]
def o515:=tn
def o516:M:=fun _=>fl (r9 [(465,524)])
def o517:=cb "Frame" "Frame" 1038 463 0 1041 517
noncomputable def o518:M:=fun P=>⟨(.type "frame"),none,.plain,⟨[(some (.ref 517)),(some (.ref 3)),(some (.ref 514)),none,(some (sv "framerune.mbase" 1024)),none,(some (.ref 0))]⟩⟩
def o519:=tn
def o520:=fn
def o521:=tw 1051 ["self","number","mref","body","args","sort"]
def o522:=tn
def o523:=fx "__init__" "Frame.__init__" (at2 113 0)
def o524:=ca "__init__" "Frame.__init__" 1048 465 6 1057 524
def o525:=fw "__init__" "Frame.__init__" (at2 113 0) m6 525
def o526:=tw 1060 ["args","body","caught","caughtv","conts","extra","home","ip","keep","locals_","mref","number","prefix","sort","stack"]
def o527:M:=fun P=>dc 4 [kv P "__module__" 1043 (sv "framerune.mbase" 1024),ki P "__firstlineno__" 1047 463,kr P "__init__" 1059 525,kr P "__static_attributes__" 1075 526,kr P "__dict__" 1077 529,kr P "__weakref__" 1079 530,kv P "__doc__" 1080 .none]
noncomputable def o528:M:=fun P=>⟨(.type "type"),none,(.cls ⟨.ofString "Frame",[(.type "object")],[(.ref 528),(.type "object")],527,.ofString "Frame",true,[],[],false,none,false⟩),⟨[none,none,(some (sv "Frame" 1036)),(some (sv "Frame" 1044)),(some (.builtin "object.__new__")),(some (.bool true))]⟩⟩
noncomputable def o529:M:=fun P=>⟨(.type "getset_descriptor"),none,(.fields ⟨[(sv "__dict__" 1076),(.ref 528),(.builtin "function.__dict__"),(.builtin "function.__dict__#set")]⟩),⟨[]⟩⟩
noncomputable def o530:M:=fun P=>⟨(.type "getset_descriptor"),none,(.fields ⟨[(sv "__weakref__" 1078),(.ref 528),(.builtin "ExceptionGroup.__weakref__"),.none]⟩),⟨[]⟩⟩
noncomputable def o531:M:=fun P=>⟨(.type "super"),none,(.fields ⟨[(.ref 528),(.ref 528),(.ref 528)]⟩),⟨[]⟩⟩
def o532:=bm [(.builtin "object.__init_subclass__"),(.ref 528)]
def o533:=tn
def o534:=bm [(.builtin "type.__prepare__"),(.type "type")]
def o535:M:=fun P=>dc 7 [kv P "__module__" 1090 (sv "framerune.mbase" 1024),kv P "__qualname__" 1092 (sv "Starter" 1091),ki P "__firstlineno__" 1094 481,kr P "need" 1104 546,kr P "done" 1113 553,kr P "failed" 1123 560,kr P "__static_attributes__" 1124 561]
def o536:=tn
def o537:M:=fun _=>fl (r9 [(483,545),(486,552),(489,559)])
def o538:=cb "Starter" "Starter" 1085 481 0 1088 538
noncomputable def o539:M:=fun P=>⟨(.type "frame"),none,.plain,⟨[(some (.ref 538)),(some (.ref 3)),(some (.ref 535)),none,(some (sv "framerune.mbase" 1024)),none,(some (.ref 0))]⟩⟩
def o540:=tn
def o541:=fn
def o542:=tw 1098 ["self","m","kind","why"]
def o543:=tn
def o544:=fx "need" "Starter.need" (at2 114 0)
def o545:=ca "need" "Starter.need" 1095 483 4 1102 545
def o546:=fw "need" "Starter.need" (at2 114 0) m6 546
def o547:=tn
def o548:=fn
def o549:=tw 1108 ["self","m","kind"]
def o550:=tn
def o551:=fx "done" "Starter.done" (at2 114 1)
def o552:=ca "done" "Starter.done" 1105 486 3 1111 552
def o553:=fw "done" "Starter.done" (at2 114 1) m6 553
def o554:=tn
def o555:=fn
def o556:=tw 1117 ["self","m","kind","addr"]
def o557:=tn
def o558:=fx "failed" "Starter.failed" (at2 114 2)
def o559:=ca "failed" "Starter.failed" 1114 489 4 1121 559
def o560:=fw "failed" "Starter.failed" (at2 114 2) m6 560
def o561:=tn
def o562:M:=fun P=>dc 4 [kv P "__module__" 1090 (sv "framerune.mbase" 1024),ki P "__firstlineno__" 1094 481,kr P "need" 1104 546,kr P "done" 1113 553,kr P "failed" 1123 560,kr P "__static_attributes__" 1124 561,kr P "__dict__" 1126 564,kr P "__weakref__" 1128 565,kv P "__doc__" 1129 .none]
noncomputable def o563:M:=fun P=>⟨(.type "type"),none,(.cls ⟨.ofString "Starter",[(.type "object")],[(.ref 563),(.type "object")],562,.ofString "Starter",true,[],[],false,none,false⟩),⟨[none,none,(some (sv "Starter" 1083)),(some (sv "Starter" 1091)),(some (.builtin "object.__new__")),(some (.bool true))]⟩⟩
noncomputable def o564:M:=fun P=>⟨(.type "getset_descriptor"),none,(.fields ⟨[(sv "__dict__" 1125),(.ref 563),(.builtin "function.__dict__"),(.builtin "function.__dict__#set")]⟩),⟨[]⟩⟩
noncomputable def o565:M:=fun P=>⟨(.type "getset_descriptor"),none,(.fields ⟨[(sv "__weakref__" 1127),(.ref 563),(.builtin "ExceptionGroup.__weakref__"),.none]⟩),⟨[]⟩⟩
noncomputable def o566:M:=fun P=>⟨(.type "super"),none,(.fields ⟨[(.ref 563),(.ref 563),(.ref 563)]⟩),⟨[]⟩⟩
def o567:=bm [(.builtin "object.__init_subclass__"),(.ref 563)]
def o568:=tn
def o569:=bm [(.builtin "type.__prepare__"),(.type "type")]
def o570:M:=fun P=>dc 6 [kv P "__module__" 1139 (sv "framerune.mbase" 1024),kv P "__qualname__" 1141 (sv "KindCloser" 1140),ki P "__firstlineno__" 1143 491,kr P "kind" 1153 581,kr P "ref" 1163 588,kr P "__static_attributes__" 1164 589]
def o571:=tn
def o572:M:=fun _=>fl (r9 [(493,580),(496,587)])
def o573:=cb "KindCloser" "KindCloser" 1134 491 0 1137 573
noncomputable def o574:M:=fun P=>⟨(.type "frame"),none,.plain,⟨[(some (.ref 573)),(some (.ref 3)),(some (.ref 570)),none,(some (sv "framerune.mbase" 1024)),none,(some (.ref 0))]⟩⟩
def o575:=tn
def o576:=fn
def o577:=tw 1147 ["self","m","f","k"]
def o578:=tn
def o579:=fx "kind" "KindCloser.kind" (at2 115 0)
def o580:=ca "kind" "KindCloser.kind" 1144 493 4 1151 580
def o581:=fw "kind" "KindCloser.kind" (at2 115 0) m6 581
def o582:=tn
def o583:=fn
def o584:=tw 1157 ["self","m","f","fref"]
def o585:=tn
def o586:=fx "ref" "KindCloser.ref" (at2 115 1)
def o587:=ca "ref" "KindCloser.ref" 1154 496 4 1161 587
def o588:=fw "ref" "KindCloser.ref" (at2 115 1) m6 588
def o589:=tn
def o590:M:=fun P=>dc 4 [kv P "__module__" 1139 (sv "framerune.mbase" 1024),ki P "__firstlineno__" 1143 491,kr P "kind" 1153 581,kr P "ref" 1163 588,kr P "__static_attributes__" 1164 589,kr P "__dict__" 1166 592,kr P "__weakref__" 1168 593,kv P "__doc__" 1169 .none]
noncomputable def o591:M:=fun P=>⟨(.type "type"),none,(.cls ⟨.ofString "KindCloser",[(.type "object")],[(.ref 591),(.type "object")],590,.ofString "KindCloser",true,[],[],false,none,false⟩),⟨[none,none,(some (sv "KindCloser" 1132)),(some (sv "KindCloser" 1140)),(some (.builtin "object.__new__")),(some (.bool true))]⟩⟩
noncomputable def o592:M:=fun P=>⟨(.type "getset_descriptor"),none,(.fields ⟨[(sv "__dict__" 1165),(.ref 591),(.builtin "function.__dict__"),(.builtin "function.__dict__#set")]⟩),⟨[]⟩⟩
noncomputable def o593:M:=fun P=>⟨(.type "getset_descriptor"),none,(.fields ⟨[(sv "__weakref__" 1167),(.ref 591),(.builtin "ExceptionGroup.__weakref__"),.none]⟩),⟨[]⟩⟩
noncomputable def o594:M:=fun P=>⟨(.type "super"),none,(.fields ⟨[(.ref 591),(.ref 591),(.ref 591)]⟩),⟨[]⟩⟩
def o595:=bm [(.builtin "object.__init_subclass__"),(.ref 591)]
def o596:=tn
def o597:=bm [(.builtin "type.__prepare__"),(.type "type")]
def o598:M:=fun P=>dc 20 [kv P "__module__" 1179 (sv "framerune.mbase" 1024),kv P "__qualname__" 1181 (sv "Tray" 1180),ki P "__firstlineno__" 1183 498,kr P "__init__" 1192 609,kr P "is_a" 1201 616,kr P "slots_of" 1209 623,kr P "kinds_of" 1217 630,kr P "skinds_of" 1225 637,kr P "slot_place" 1233 644,kr P "target" 1242 651,kr P "default" 1250 658,kr P "plain" 1258 665,kr P "closed" 1267 672,kr P "closed_ref" 1276 679,kr P "alloc" 1285 686,kr P "wrong" 1293 693,kr P "pop" 1301 700,kr P "throw_new" 1310 707,kr P "push_call" 1320 714,kr P "__static_attributes__" 1342 715]
def o599:=tn
def o600:M:=fun _=>fl (r9 [(500,608),(523,615),(526,622),(529,629),(532,636),(535,643),(538,650),(541,657),(544,664),(547,671),(550,678),(553,685),(556,692),(559,699),(562,706),(565,713)])
def o601:=cb "Tray" "Tray" 1174 498 0 1177 601
noncomputable def o602:M:=fun P=>⟨(.type "frame"),none,.plain,⟨[(some (.ref 601)),(some (.ref 3)),(some (.ref 598)),none,(some (sv "framerune.mbase" 1024)),none,(some (.ref 0))]⟩⟩
def o603:=tn
def o604:=fn
def o605:=tw 1187 ["self","store","heap"]
def o606:=tn
def o607:=fx "__init__" "Tray.__init__" (at2 116 0)
def o608:=ca "__init__" "Tray.__init__" 1184 500 3 1190 608
def o609:=fw "__init__" "Tray.__init__" (at2 116 0) m6 609
def o610:=tn
def o611:=fn
def o612:=tw 1196 ["self","exact","k"]
def o613:=tn
def o614:=fx "is_a" "Tray.is_a" (at2 116 1)
def o615:=ca "is_a" "Tray.is_a" 1193 523 3 1199 615
def o616:=fw "is_a" "Tray.is_a" (at2 116 1) m6 616
def o617:=tn
def o618:=fn
def o619:=tw 1205 ["self","k"]
def o620:=tn
def o621:=fx "slots_of" "Tray.slots_of" (at2 116 2)
def o622:=ca "slots_of" "Tray.slots_of" 1202 526 2 1207 622
def o623:=fw "slots_of" "Tray.slots_of" (at2 116 2) m6 623
def o624:=tn
def o625:=fn
def o626:=tw 1213 ["self","k"]
def o627:=tn
def o628:=fx "kinds_of" "Tray.kinds_of" (at2 116 3)
def o629:=ca "kinds_of" "Tray.kinds_of" 1210 529 2 1215 629
def o630:=fw "kinds_of" "Tray.kinds_of" (at2 116 3) m6 630
def o631:=tn
def o632:=fn
def o633:=tw 1221 ["self","k"]
def o634:=tn
def o635:=fx "skinds_of" "Tray.skinds_of" (at2 116 4)
def o636:=ca "skinds_of" "Tray.skinds_of" 1218 532 2 1223 636
def o637:=fw "skinds_of" "Tray.skinds_of" (at2 116 4) m6 637
def o638:=tn
def o639:=fn
def o640:=tw 1229 ["self","fref"]
def o641:=tn
def o642:=fx "slot_place" "Tray.slot_place" (at2 116 5)
def o643:=ca "slot_place" "Tray.slot_place" 1226 535 2 1231 643
def o644:=fw "slot_place" "Tray.slot_place" (at2 116 5) m6 644
def o645:=tn
def o646:=fn
def o647:=tw 1237 ["self","exact","mref"]
def o648:=tn
def o649:=fx "target" "Tray.target" (at2 116 6)
def o650:=ca "target" "Tray.target" 1234 538 3 1240 650
def o651:=fw "target" "Tray.target" (at2 116 6) m6 651
def o652:=tn
def o653:=fn
def o654:=tw 1246 ["self","k"]
def o655:=tn
def o656:=fx "default" "Tray.default" (at2 116 7)
def o657:=ca "default" "Tray.default" 1243 541 2 1248 657
def o658:=fw "default" "Tray.default" (at2 116 7) m6 658
def o659:=tn
def o660:=fn
def o661:=tw 1254 ["self","k"]
def o662:=tn
def o663:=fx "plain" "Tray.plain" (at2 116 8)
def o664:=ca "plain" "Tray.plain" 1251 544 2 1256 664
def o665:=fw "plain" "Tray.plain" (at2 116 8) m6 665
def o666:=tn
def o667:=fn
def o668:=tw 1262 ["self","f","k"]
def o669:=tn
def o670:=fx "closed" "Tray.closed" (at2 116 9)
def o671:=ca "closed" "Tray.closed" 1259 547 3 1265 671
def o672:=fw "closed" "Tray.closed" (at2 116 9) m6 672
def o673:=tn
def o674:=fn
def o675:=tw 1271 ["self","f","fref"]
def o676:=tn
def o677:=fx "closed_ref" "Tray.closed_ref" (at2 116 10)
def o678:=ca "closed_ref" "Tray.closed_ref" 1268 550 3 1274 678
def o679:=fw "closed_ref" "Tray.closed_ref" (at2 116 10) m6 679
def o680:=tn
def o681:=fn
def o682:=tw 1280 ["self","kind","count"]
def o683:=tn
def o684:=fx "alloc" "Tray.alloc" (at2 116 11)
def o685:=ca "alloc" "Tray.alloc" 1277 553 3 1283 685
def o686:=fw "alloc" "Tray.alloc" (at2 116 11) m6 686
def o687:=tn
def o688:=fn
def o689:=tw 1289 ["self","code"]
def o690:=tn
def o691:=fx "wrong" "Tray.wrong" (at2 116 12)
def o692:=ca "wrong" "Tray.wrong" 1286 556 2 1291 692
def o693:=fw "wrong" "Tray.wrong" (at2 116 12) m6 693
def o694:=tn
def o695:=fn
def o696:=tw 1297 ["self","f"]
def o697:=tn
def o698:=fx "pop" "Tray.pop" (at2 116 13)
def o699:=ca "pop" "Tray.pop" 1294 559 2 1299 699
def o700:=fw "pop" "Tray.pop" (at2 116 13) m6 700
def o701:=tn
def o702:=fn
def o703:=tw 1305 ["self","tid","text"]
def o704:=tn
def o705:=fx "throw_new" "Tray.throw_new" (at2 116 14)
def o706:=ca "throw_new" "Tray.throw_new" 1302 562 3 1308 706
def o707:=fw "throw_new" "Tray.throw_new" (at2 116 14) m6 707
def o708:=tn
def o709:=fn
def o710:=tw 1314 ["self","mref","args","sort"]
def o711:=tn
def o712:=fx "push_call" "Tray.push_call" (at2 116 15)
def o713:=ca "push_call" "Tray.push_call" 1311 565 4 1318 713
def o714:=fw "push_call" "Tray.push_call" (at2 116 15) m6 714
def o715:=tw 1321 ["by_number","calls","closer","defaults","frames","heap","held","inits","kin","kt","ops","places","rows","starter","state","statics","store","targets","thrown","told","unders"]
def o716:M:=fun P=>dc 4 [kv P "__module__" 1179 (sv "framerune.mbase" 1024),ki P "__firstlineno__" 1183 498,kr P "__init__" 1192 609,kr P "is_a" 1201 616,kr P "slots_of" 1209 623,kr P "kinds_of" 1217 630,kr P "skinds_of" 1225 637,kr P "slot_place" 1233 644,kr P "target" 1242 651,kr P "default" 1250 658,kr P "plain" 1258 665,kr P "closed" 1267 672,kr P "closed_ref" 1276 679,kr P "alloc" 1285 686,kr P "wrong" 1293 693,kr P "pop" 1301 700,kr P "throw_new" 1310 707,kr P "push_call" 1320 714,kr P "__static_attributes__" 1342 715,kr P "__dict__" 1344 718,kr P "__weakref__" 1346 719,kv P "__doc__" 1347 .none]
noncomputable def o717:M:=fun P=>⟨(.type "type"),none,(.cls ⟨.ofString "Tray",[(.type "object")],[(.ref 717),(.type "object")],716,.ofString "Tray",true,[],[],false,none,false⟩),⟨[none,none,(some (sv "Tray" 1172)),(some (sv "Tray" 1180)),(some (.builtin "object.__new__")),(some (.bool true))]⟩⟩
noncomputable def o718:M:=fun P=>⟨(.type "getset_descriptor"),none,(.fields ⟨[(sv "__dict__" 1343),(.ref 717),(.builtin "function.__dict__"),(.builtin "function.__dict__#set")]⟩),⟨[]⟩⟩
noncomputable def o719:M:=fun P=>⟨(.type "getset_descriptor"),none,(.fields ⟨[(sv "__weakref__" 1345),(.ref 717),(.builtin "ExceptionGroup.__weakref__"),.none]⟩),⟨[]⟩⟩
noncomputable def o720:M:=fun P=>⟨(.type "super"),none,(.fields ⟨[(.ref 717),(.ref 717),(.ref 717)]⟩),⟨[]⟩⟩
def o721:=bm [(.builtin "object.__init_subclass__"),(.ref 717)]
def o722:=tn
def o723:=fn
def o724:=tw 1353 ["m","k","row"]
def o725:=tn
def o726:=fv "told_row" (at1 117)
def o727:=ca "told_row" "told_row" 1350 567 2 1356 727
def o728:=fu "told_row" (at1 117) m6 728
def o729:=tn
def o730:=fn
def o731:=tw 1362 ["m","code","mid","ip","f"]
def o732:=tn
def o733:=fv "tell_wrong" (at1 118)
def o734:=ca "tell_wrong" "tell_wrong" 1359 572 2 1367 734
def o735:=fu "tell_wrong" (at1 118) m6 735
def o736:=tn
def o737:=fn
def o738:=tw 1373 ["m","f"]
def o739:=tn
def o740:=fv "pop_value" (at1 119)
def o741:=ca "pop_value" "pop_value" 1370 583 2 1375 741
def o742:=fu "pop_value" (at1 119) m6 742
def o743:=tn
def o744:=bm [(.builtin "type.__prepare__"),(.type "type")]
def o745:M:=fun P=>dc 5 [kv P "__module__" 1389 (sv "framerune.store" 1378),kv P "__qualname__" 1391 (sv "MethodDef" 1390),ki P "__firstlineno__" 1393 590,kr P "__init__" 1407 756,kr P "__static_attributes__" 1422 757]
def o746:=tn
def o747:M:=fun _=>fl (r9 [(592,755)])
def o748:=cb "MethodDef" "MethodDef" 1384 590 0 1387 748
noncomputable def o749:M:=fun P=>⟨(.type "frame"),none,.plain,⟨[(some (.ref 748)),(some (.ref 3)),(some (.ref 745)),none,(some (sv "framerune.store" 1378)),none,(some (.ref 0))]⟩⟩
def o750:=tn
def o751:=fn
def o752:=tw 1397 ["self","mid","owner","name","access","flags","ret","params"]
def o753:=tn
def o754:=fx "__init__" "MethodDef.__init__" (at2 122 0)
def o755:=ca "__init__" "MethodDef.__init__" 1394 592 8 1405 755
def o756:=fw "__init__" "MethodDef.__init__" (at2 122 0) m7 756
def o757:=tw 1408 ["access","body","flags","gbounds","gnames","mid","name","native","ngen","owner","params","pflags","pnames","ret"]
def o758:M:=fun P=>dc 4 [kv P "__module__" 1389 (sv "framerune.store" 1378),ki P "__firstlineno__" 1393 590,kr P "__init__" 1407 756,kr P "__static_attributes__" 1422 757,kr P "__dict__" 1424 760,kr P "__weakref__" 1426 761,kv P "__doc__" 1427 .none]
noncomputable def o759:M:=fun P=>⟨(.type "type"),none,(.cls ⟨.ofString "MethodDef",[(.type "object")],[(.ref 759),(.type "object")],758,.ofString "MethodDef",true,[],[],false,none,false⟩),⟨[none,none,(some (sv "MethodDef" 1382)),(some (sv "MethodDef" 1390)),(some (.builtin "object.__new__")),(some (.bool true))]⟩⟩
noncomputable def o760:M:=fun P=>⟨(.type "getset_descriptor"),none,(.fields ⟨[(sv "__dict__" 1423),(.ref 759),(.builtin "function.__dict__"),(.builtin "function.__dict__#set")]⟩),⟨[]⟩⟩
noncomputable def o761:M:=fun P=>⟨(.type "getset_descriptor"),none,(.fields ⟨[(sv "__weakref__" 1425),(.ref 759),(.builtin "ExceptionGroup.__weakref__"),.none]⟩),⟨[]⟩⟩
noncomputable def o762:M:=fun P=>⟨(.type "super"),none,(.fields ⟨[(.ref 759),(.ref 759),(.ref 759)]⟩),⟨[]⟩⟩
def o763:=bm [(.builtin "object.__init_subclass__"),(.ref 759)]
def o764:=tn
def o765:=bm [(.builtin "type.__prepare__"),(.type "type")]
def o766:M:=fun P=>dc 5 [kv P "__module__" 1437 (sv "framerune.store" 1378),kv P "__qualname__" 1439 (sv "Body" 1438),ki P "__firstlineno__" 1441 607,kr P "__init__" 1452 777,kr P "__static_attributes__" 1457 778]
def o767:=tn
def o768:M:=fun _=>fl (r9 [(609,776)])
def o769:=cb "Body" "Body" 1432 607 0 1435 769
noncomputable def o770:M:=fun P=>⟨(.type "frame"),none,.plain,⟨[(some (.ref 769)),(some (.ref 3)),(some (.ref 766)),none,(some (sv "framerune.store" 1378)),none,(some (.ref 0))]⟩⟩
def o771:=tn
def o772:=fn
def o773:=tw 1445 ["self","locals_","maxstack","code","clauses"]
def o774:=tn
def o775:=fx "__init__" "Body.__init__" (at2 123 0)
def o776:=ca "__init__" "Body.__init__" 1442 609 5 1450 776
def o777:=fw "__init__" "Body.__init__" (at2 123 0) m7 777
def o778:=tw 1453 ["clauses","code","locals_","maxstack"]
def o779:M:=fun P=>dc 4 [kv P "__module__" 1437 (sv "framerune.store" 1378),ki P "__firstlineno__" 1441 607,kr P "__init__" 1452 777,kr P "__static_attributes__" 1457 778,kr P "__dict__" 1459 781,kr P "__weakref__" 1461 782,kv P "__doc__" 1462 .none]
noncomputable def o780:M:=fun P=>⟨(.type "type"),none,(.cls ⟨.ofString "Body",[(.type "object")],[(.ref 780),(.type "object")],779,.ofString "Body",true,[],[],false,none,false⟩),⟨[none,none,(some (sv "Body" 1430)),(some (sv "Body" 1438)),(some (.builtin "object.__new__")),(some (.bool true))]⟩⟩
noncomputable def o781:M:=fun P=>⟨(.type "getset_descriptor"),none,(.fields ⟨[(sv "__dict__" 1458),(.ref 780),(.builtin "function.__dict__"),(.builtin "function.__dict__#set")]⟩),⟨[]⟩⟩
noncomputable def o782:M:=fun P=>⟨(.type "getset_descriptor"),none,(.fields ⟨[(sv "__weakref__" 1460),(.ref 780),(.builtin "ExceptionGroup.__weakref__"),.none]⟩),⟨[]⟩⟩
noncomputable def o783:M:=fun P=>⟨(.type "super"),none,(.fields ⟨[(.ref 780),(.ref 780),(.ref 780)]⟩),⟨[]⟩⟩
def o784:=bm [(.builtin "object.__init_subclass__"),(.ref 780)]
def o785:=tn
def o786:=bm [(.builtin "type.__prepare__"),(.type "type")]
def o787:M:=fun P=>dc 5 [kv P "__module__" 1472 (sv "framerune.store" 1378),kv P "__qualname__" 1474 (sv "Store" 1473),ki P "__firstlineno__" 1476 614,kr P "__init__" 1483 798,kr P "__static_attributes__" 1491 799]
def o788:=tn
def o789:M:=fun _=>fl (r9 [(616,797)])
def o790:=cb "Store" "Store" 1467 614 0 1470 790
noncomputable def o791:M:=fun P=>⟨(.type "frame"),none,.plain,⟨[(some (.ref 790)),(some (.ref 3)),(some (.ref 787)),none,(some (sv "framerune.store" 1378)),none,(some (.ref 0))]⟩⟩
def o792:=tn
def o793:=fn
def o794:=tw 1480 ["self"]
def o795:=tn
def o796:=fx "__init__" "Store.__init__" (at2 124 0)
def o797:=ca "__init__" "Store.__init__" 1477 616 1 1481 797
def o798:=fw "__init__" "Store.__init__" (at2 124 0) m7 798
def o799:=tw 1484 ["asms","entry","fields_","kt","methods","names","types"]
def o800:M:=fun P=>dc 4 [kv P "__module__" 1472 (sv "framerune.store" 1378),ki P "__firstlineno__" 1476 614,kr P "__init__" 1483 798,kr P "__static_attributes__" 1491 799,kr P "__dict__" 1493 802,kr P "__weakref__" 1495 803,kv P "__doc__" 1496 .none]
noncomputable def o801:M:=fun P=>⟨(.type "type"),none,(.cls ⟨.ofString "Store",[(.type "object")],[(.ref 801),(.type "object")],800,.ofString "Store",true,[],[],false,none,false⟩),⟨[none,none,(some (sv "Store" 1465)),(some (sv "Store" 1473)),(some (.builtin "object.__new__")),(some (.bool true))]⟩⟩
noncomputable def o802:M:=fun P=>⟨(.type "getset_descriptor"),none,(.fields ⟨[(sv "__dict__" 1492),(.ref 801),(.builtin "function.__dict__"),(.builtin "function.__dict__#set")]⟩),⟨[]⟩⟩
noncomputable def o803:M:=fun P=>⟨(.type "getset_descriptor"),none,(.fields ⟨[(sv "__weakref__" 1494),(.ref 801),(.builtin "ExceptionGroup.__weakref__"),.none]⟩),⟨[]⟩⟩
noncomputable def o804:M:=fun P=>⟨(.type "super"),none,(.fields ⟨[(.ref 801),(.ref 801),(.ref 801)]⟩),⟨[]⟩⟩
def o805:=bm [(.builtin "object.__init_subclass__"),(.ref 801)]
def o806:=tn
def o807:=fn
def o808:=tw 1502 ["count","out","place"]
def o809:=tn
def o810:=fv "plain_names" (at1 125)
def o811:=ca "plain_names" "plain_names" 1499 624 1 1505 811
def o812:=fu "plain_names" (at1 125) m7 812
def o813:=tn
def o814:=fn
def o815:=tw 1511 ["store","mref","m","targs"]
def o816:=tn
def o817:=fv "method_sig" (at1 126)
def o818:=ca "method_sig" "method_sig" 1508 629 2 1515 818
def o819:=fu "method_sig" (at1 126) m7 819
def o820:=tn
def o821:=fn
def o822:=tw 1521 ["m"]
def o823:=tn
def o824:=fv "is_static" (at1 127)
def o825:=ca "is_static" "is_static" 1518 637 1 1522 825
def o826:=fu "is_static" (at1 127) m7 826
def o827:=tn
def o828:=fn
def o829:=tw 1530 ["m","f","i","md"]
def o830:=tn
def o831:=fv "arg_kind" (at1 129)
def o832:=ca "arg_kind" "arg_kind" 1527 640 3 1534 832
def o833:=fu "arg_kind" (at1 129) m8 833
def o834:=tn
def o835:=fn
def o836:=tw 1542 ["ks","i"]
def o837:=tn
def o838:=fv "item_kind" (at1 131)
def o839:=ca "item_kind" "item_kind" 1539 650 2 1544 839
def o840:=fu "item_kind" (at1 131) m9 840
def o841:=tn
def o842:=fn
def o843:=tw 1550 ["m","word","thing"]
def o844:=tn
def o845:=fv "heap_kind" (at1 132)
def o846:=ca "heap_kind" "heap_kind" 1547 654 2 1553 846
def o847:=fu "heap_kind" (at1 132) m9 847
def o848:=tn
def o849:=fn
def o850:=tw 1559 ["m","place","f","k"]
def o851:=tn
def o852:=fv "whole_kind" (at1 133)
def o853:=ca "whole_kind" "whole_kind" 1556 663 2 1563 853
def o854:=fu "whole_kind" (at1 133) m9 854
def o855:=tn
def o856:=fn
def o857:=tw 1569 ["m","place","k","path","slot"]
def o858:=tn
def o859:=fv "place_kind" (at1 134)
def o860:=ca "place_kind" "place_kind" 1566 681 2 1574 860
def o861:=fu "place_kind" (at1 134) m9 861
noncomputable def o862:M:=fun _=>tp [(.int 0 1579),(.int 16 1580),(.int 20 1581),(.int 24 1582)]
noncomputable def o863:M:=fun _=>tp [(.int 0 1584),(.int 0 1585),(.int 0 1586),(.int 19 1587),(.int 22 1588),(.int 23 1589),(.int 26 1590),(.int 0 1591)]
noncomputable def o864:M:=fun _=>tp [(.int 2 1593),(.int 2 1594),(.int 2 1595)]
noncomputable def o865:M:=fun _=>tp [(.int 0 1596),(.int 0 1597),(.int 0 1598)]
noncomputable def o866:M:=fun _=>tp [(.int 1 1599),(.int 0 1600),(.int 0 1601)]
noncomputable def o867:M:=fun _=>tp [(.int 1 1602),(.int 1 1603),(.int 0 1604)]
noncomputable def o868:M:=fun _=>tp [(.int 1 1605),(.int 1 1606),(.int 1 1607)]
noncomputable def o869:M:=fun _=>tp [(.int 2 1608),(.int 0 1609),(.int 0 1610)]
noncomputable def o870:M:=fun _=>tp [(.int 2 1611),(.int 1 1612),(.int 0 1613)]
noncomputable def o871:M:=fun _=>tp [(.int 2 1614),(.int 2 1615),(.int 1 1616)]
noncomputable def o872:M:=fun _=>tp [(.ref 864),(.ref 865),(.ref 866),(.ref 867),(.ref 868),(.ref 869),(.ref 870),(.ref 871)]
def o873:=tn
def o874:=fn
def o875:=tw 1621 ["st","count","at"]
def o876:=tn
def o877:=fv "_law_draw" (at1 139)
def o878:=ca "_law_draw" "_law_draw" 1618 697 2 1624 878
def o879:=fu "_law_draw" (at1 139) jl 879
def o880:=tn
def o881:=fn
def o882:=fv "_law_shapes" (at1 140)
def o883:=cc "_law_shapes" "_law_shapes" 1627 703 3 1630 883
def o884:=fu "_law_shapes" (at1 140) jl 884
def o885:=tn
def o886:=fn
def o887:=tw 1636 ["tower","shapes","spots","kind","found","i","k","path","far"]
def o888:=tn
def o889:=fv "_law_spots" (at1 141)
def o890:=ca "_law_spots" "_law_spots" 1633 723 2 1645 890
def o891:=fu "_law_spots" (at1 141) jl 891
def o892:=tn
def o893:=fn
def o894:=tw 1651 ["w","kind"]
def o895:=tn
def o896:=fv "_law_within" (at1 142)
def o897:=ca "_law_within" "_law_within" 1648 733 2 1653 897
def o898:=fu "_law_within" (at1 142) jl 898
def o899:=tn
def o900:=fn
def o901:=fv "_law_made" (at1 143)
def o902:=cc "_law_made" "_law_made" 1656 735 3 1659 902
def o903:=fu "_law_made" (at1 143) jl 903
def o904:=tn
def o905:=fn
def o906:=tw 1665 ["w","root","path","kind","value","way","k","piece","slot"]
def o907:=tn
def o908:=fv "_law_put" (at1 144)
def o909:=ca "_law_put" "_law_put" 1662 742 5 1674 909
def o910:=fu "_law_put" (at1 144) jl 910
def o911:=tn
def o912:=fn
def o913:=fv "_law_show" (at1 145)
def o914:=cc "_law_show" "_law_show" 1677 749 4 1680 914
def o915:=fu "_law_show" (at1 145) jl 915
def o916:=tn
def o917:=fn
def o918:=tw 1686 ["w","root","path","kind","out","way","k","addr"]
def o919:=tn
def o920:=fv "_law_refs" (at1 146)
def o921:=ca "_law_refs" "_law_refs" 1683 754 4 1694 921
def o922:=fu "_law_refs" (at1 146) jl 922
def o923:=tn
def o924:=fn
def o925:=tw 1700 ["w","root","path","place","slot"]
def o926:=tn
def o927:=fv "_law_place" (at1 147)
def o928:=ca "_law_place" "_law_place" 1697 762 3 1705 928
def o929:=fu "_law_place" (at1 147) jl 929
def o930:=tn
def o931:=fn
def o932:=tw 1711 ["w","root","path","kind","value","got"]
def o933:=tn
def o934:=fv "_law_write" (at1 148)
def o935:=ca "_law_write" "_law_write" 1708 767 5 1717 935
def o936:=fu "_law_write" (at1 148) jl 936
def o937:=tn
def o938:=fn
def o939:=tw 1723 ["w","root","path","kind","place","value"]
def o940:=tn
def o941:=fv "_law_read" (at1 149)
def o942:=ca "_law_read" "_law_read" 1720 773 4 1729 942
def o943:=fu "_law_read" (at1 149) jl 943
def o944:=tn
def o945:=fn
def o946:=tw 1735 ["w","place","got"]
def o947:=tn
def o948:=fv "_law_nowhere" (at1 150)
def o949:=ca "_law_nowhere" "_law_nowhere" 1732 781 2 1738 949
def o950:=fu "_law_nowhere" (at1 150) jl 950
def o951:=tn
def o952:=fn
def o953:=tw 1744 ["w","root","path","z","kind","i","slot"]
def o954:=tn
def o955:=fv "_law_astray" (at1 151)
def o956:=ca "_law_astray" "_law_astray" 1741 787 4 1751 956
def o957:=fu "_law_astray" (at1 151) jl 957
def o958:=tn
def o959:=fn
def o960:=tw 1757 ["value","way","new","row"]
def o961:=tn
def o962:=fv "_law_turned" (at1 152)
def o963:=ca "_law_turned" "_law_turned" 1754 798 3 1761 963
def o964:=fu "_law_turned" (at1 152) jl 964
def o965:=tn
def o966:=fn
def o967:=tw 1767 ["w","st","root","path","kind","value","lies","way","k","new"]
def o968:=tn
def o969:=fv "_law_apart" (at1 153)
def o970:=ca "_law_apart" "_law_apart" 1764 804 5 1777 970
def o971:=fu "_law_apart" (at1 153) jl 971
def o972:=tn
def o973:=fn
def o974:=fv "_law_copy" (at1 154)
def o975:=cc "_law_copy" "_law_copy" 1780 816 5 1783 975
def o976:=fu "_law_copy" (at1 154) jl 976
def o977:=tn
def o978:=fn
def o979:=tw 1789 ["w","path","kind"]
def o980:=tn
def o981:=fv "_law_first" (at1 155)
def o982:=ca "_law_first" "_law_first" 1786 824 3 1792 982
def o983:=fu "_law_first" (at1 155) jl 983
def o984:=tn
def o985:=fn
def o986:=tw 1798 ["w","st","root","path","kind","goal","lies","way","k","got","want"]
def o987:=tn
def o988:=fv "_law_compare" (at1 156)
def o989:=ca "_law_compare" "_law_compare" 1795 829 5 1809 989
def o990:=fu "_law_compare" (at1 156) jl 990
def o991:=tn
def o992:=fn
def o993:=tw 1815 ["w","st","root","lies","path","kind","sort"]
def o994:=tn
def o995:=fv "_law_deed" (at1 157)
def o996:=ca "_law_deed" "_law_deed" 1812 838 2 1822 996
def o997:=fu "_law_deed" (at1 157) jl 997
def o998:=tn
def o999:=fn
def o1000:=fv "_law_world" (at1 158)
def o1001:=cc "_law_world" "_law_world" 1825 854 1 1828 1001
def o1002:=fu "_law_world" (at1 158) jl 1002
def o1003:=tn
def o1004:=fn
def o1005:=tw 1834 ["w","kind","best","spot"]
def o1006:=tn
def o1007:=fv "_law_deepest" (at1 159)
def o1008:=ca "_law_deepest" "_law_deepest" 1831 893 2 1838 1008
def o1009:=fu "_law_deepest" (at1 159) jl 1009
def o1010:=tn
def o1011:=fn
def o1012:=tw 1844 ["value"]
def o1013:=tn
def o1014:=fv "_law_other" (at1 160)
def o1015:=ca "_law_other" "_law_other" 1841 899 1 1845 1015
def o1016:=fu "_law_other" (at1 160) jl 1016
def o1017:=tn
def o1018:=fn
def o1019:=tw 1851 ["w","root","path","kind"]
def o1020:=tn
def o1021:=fv "_law_bottoms" (at1 161)
def o1022:=ca "_law_bottoms" "_law_bottoms" 1848 903 1 1855 1022
def o1023:=fu "_law_bottoms" (at1 161) jl 1023
def o1024:=tn
def o1025:=fn
def o1026:=fv "_law_settled" (at1 162)
def o1027:=cc "_law_settled" "_law_settled" 1858 911 1 1861 1027
def o1028:=fu "_law_settled" (at1 162) jl 1028
def o1029:=tn
def o1030:=fn
def o1031:=tw 1867 ["script","numbers","st","w","turns","root","deepest"]
def o1032:=tn
def o1033:=fv "law" (at1 163)
def o1034:=ca "law" "law" 1864 924 1 1874 1034
def o1035:=fu "law" (at1 163) jl 1035
end
noncomputable def tk{α:Type}(l:List α):Nat→List α:=List.rec (motive:=fun _=>Nat→List α) (fun _=>[]) (fun a _ ih n=>Nat.rec (motive:=fun _=>List α) [] (fun m _=>a::ih m) n) l
noncomputable def dr{α:Type}(l:List α):Nat→List α:=List.rec (motive:=fun _=>Nat→List α) (fun _=>[]) (fun a l ih n=>Nat.rec (motive:=fun _=>List α) (a::l) (fun m _=>ih m) n) l
noncomputable def D9(i:Nat):Bool:=Bool.rec (Bool.rec (Bool.rec (Nat.beq i 38) true (Nat.beq i 12)) true (Nat.beq i 3)) true (Nat.beq i 2)
noncomputable def ju(n:Nat)(ov:Nat→Obj)(t:BT):Nat→Nat→BT:=BT.rec (motive:=fun _=>Nat→Nat→BT) (fun _ _=>.nil)
 (fun v _ _ l r a b=>Bool.rec (motive:=fun _=>BT) .nil (.node (Bool.rec (motive:=fun _=>Obj) v (ov b) (D9 b)) (l (2 * a) (a+b)) (r (2 * a) (2 * a+b))) (Nat.blt b n)) t
noncomputable def dU(a b c d:Obj)(i:Nat):Obj:=Bool.rec (motive:=fun _=>Obj) (Bool.rec (motive:=fun _=>Obj) (Bool.rec (motive:=fun _=>Obj) d c (Nat.beq i 12)) b (Nat.beq i 3)) a (Nat.beq i 2)
noncomputable def v3(P:Params)(v:Value)(m:Nat):Obj:=⟨.type "dict",none,.dict ⟨kv P "__name__" 165 v::tk (e3 P) (m - 1)⟩ m,⟨[]⟩⟩
noncomputable def lf(P:Params)(o:M):BT:=.node (o P) .nil .nil
noncomputable def nd(P:Params)(o:M)(l r:BT):BT:=.node (o P) l r
noncomputable def T(P:Params):BT:=(nd P boot_o_0 (nd P boot_o_1 (nd P o3 (nd P boot_o_7 (nd P o15 (nd P o31 (nd P o63 (nd P o127 (nd P o255 (nd P o511 (lf P o1023) .nil) (lf P o767)) (nd P o383 (lf P o639) (lf P o895))) (nd P o191 (nd P o319 (lf P o575) (lf P o831)) (nd P o447 (lf P o703) (lf P o959)))) (nd P o95 (nd P o159 (nd P o287 (lf P o543) (lf P o799)) (nd P o415 (lf P o671) (lf P o927))) (nd P o223 (nd P o351 (lf P o607) (lf P o863)) (nd P o479 (lf P o735) (lf P o991))))) (nd P o47 (nd P o79 (nd P o143 (nd P o271 (lf P o527) (lf P o783)) (nd P o399 (lf P o655) (lf P o911))) (nd P o207 (nd P o335 (lf P o591) (lf P o847)) (nd P o463 (lf P o719) (lf P o975)))) (nd P o111 (nd P o175 (nd P o303 (lf P o559) (lf P o815)) (nd P o431 (lf P o687) (lf P o943))) (nd P o239 (nd P o367 (lf P o623) (lf P o879)) (nd P o495 (lf P o751) (lf P o1007)))))) (nd P o23 (nd P o39 (nd P o71 (nd P o135 (nd P o263 (nd P o519 (lf P o1031) .nil) (lf P o775)) (nd P o391 (lf P o647) (lf P o903))) (nd P o199 (nd P o327 (lf P o583) (lf P o839)) (nd P o455 (lf P o711) (lf P o967)))) (nd P o103 (nd P o167 (nd P o295 (lf P o551) (lf P o807)) (nd P o423 (lf P o679) (lf P o935))) (nd P o231 (nd P o359 (lf P o615) (lf P o871)) (nd P o487 (lf P o743) (lf P o999))))) (nd P o55 (nd P o87 (nd P o151 (nd P o279 (lf P o535) (lf P o791)) (nd P o407 (lf P o663) (lf P o919))) (nd P o215 (nd P o343 (lf P o599) (lf P o855)) (nd P o471 (lf P o727) (lf P o983)))) (nd P o119 (nd P o183 (nd P o311 (lf P o567) (lf P o823)) (nd P o439 (lf P o695) (lf P o951))) (nd P o247 (nd P o375 (lf P o631) (lf P o887)) (nd P o503 (lf P o759) (lf P o1015))))))) (nd P o11 (nd P o19 (nd P o35 (nd P o67 (nd P o131 (nd P o259 (nd P o515 (lf P o1027) .nil) (lf P o771)) (nd P o387 (lf P o643) (lf P o899))) (nd P o195 (nd P o323 (lf P o579) (lf P o835)) (nd P o451 (lf P o707) (lf P o963)))) (nd P o99 (nd P o163 (nd P o291 (lf P o547) (lf P o803)) (nd P o419 (lf P o675) (lf P o931))) (nd P o227 (nd P o355 (lf P o611) (lf P o867)) (nd P o483 (lf P o739) (lf P o995))))) (nd P o51 (nd P o83 (nd P o147 (nd P o275 (lf P o531) (lf P o787)) (nd P o403 (lf P o659) (lf P o915))) (nd P o211 (nd P o339 (lf P o595) (lf P o851)) (nd P o467 (lf P o723) (lf P o979)))) (nd P o115 (nd P o179 (nd P o307 (lf P o563) (lf P o819)) (nd P o435 (lf P o691) (lf P o947))) (nd P o243 (nd P o371 (lf P o627) (lf P o883)) (nd P o499 (lf P o755) (lf P o1011)))))) (nd P o27 (nd P o43 (nd P o75 (nd P o139 (nd P o267 (nd P o523 (lf P o1035) .nil) (lf P o779)) (nd P o395 (lf P o651) (lf P o907))) (nd P o203 (nd P o331 (lf P o587) (lf P o843)) (nd P o459 (lf P o715) (lf P o971)))) (nd P o107 (nd P o171 (nd P o299 (lf P o555) (lf P o811)) (nd P o427 (lf P o683) (lf P o939))) (nd P o235 (nd P o363 (lf P o619) (lf P o875)) (nd P o491 (lf P o747) (lf P o1003))))) (nd P o59 (nd P o91 (nd P o155 (nd P o283 (lf P o539) (lf P o795)) (nd P o411 (lf P o667) (lf P o923))) (nd P o219 (nd P o347 (lf P o603) (lf P o859)) (nd P o475 (lf P o731) (lf P o987)))) (nd P o123 (nd P o187 (nd P o315 (lf P o571) (lf P o827)) (nd P o443 (lf P o699) (lf P o955))) (nd P o251 (nd P o379 (lf P o635) (lf P o891)) (nd P o507 (lf P o763) (lf P o1019)))))))) (nd P boot_o_5 (nd P boot_o_9 (nd P o17 (nd P o33 (nd P o65 (nd P o129 (nd P o257 (nd P o513 (lf P o1025) .nil) (lf P o769)) (nd P o385 (lf P o641) (lf P o897))) (nd P o193 (nd P o321 (lf P o577) (lf P o833)) (nd P o449 (lf P o705) (lf P o961)))) (nd P o97 (nd P o161 (nd P o289 (lf P o545) (lf P o801)) (nd P o417 (lf P o673) (lf P o929))) (nd P o225 (nd P o353 (lf P o609) (lf P o865)) (nd P o481 (lf P o737) (lf P o993))))) (nd P o49 (nd P o81 (nd P o145 (nd P o273 (lf P o529) (lf P o785)) (nd P o401 (lf P o657) (lf P o913))) (nd P o209 (nd P o337 (lf P o593) (lf P o849)) (nd P o465 (lf P o721) (lf P o977)))) (nd P o113 (nd P o177 (nd P o305 (lf P o561) (lf P o817)) (nd P o433 (lf P o689) (lf P o945))) (nd P o241 (nd P o369 (lf P o625) (lf P o881)) (nd P o497 (lf P o753) (lf P o1009)))))) (nd P o25 (nd P o41 (nd P o73 (nd P o137 (nd P o265 (nd P o521 (lf P o1033) .nil) (lf P o777)) (nd P o393 (lf P o649) (lf P o905))) (nd P o201 (nd P o329 (lf P o585) (lf P o841)) (nd P o457 (lf P o713) (lf P o969)))) (nd P o105 (nd P o169 (nd P o297 (lf P o553) (lf P o809)) (nd P o425 (lf P o681) (lf P o937))) (nd P o233 (nd P o361 (lf P o617) (lf P o873)) (nd P o489 (lf P o745) (lf P o1001))))) (nd P o57 (nd P o89 (nd P o153 (nd P o281 (lf P o537) (lf P o793)) (nd P o409 (lf P o665) (lf P o921))) (nd P o217 (nd P o345 (lf P o601) (lf P o857)) (nd P o473 (lf P o729) (lf P o985)))) (nd P o121 (nd P o185 (nd P o313 (lf P o569) (lf P o825)) (nd P o441 (lf P o697) (lf P o953))) (nd P o249 (nd P o377 (lf P o633) (lf P o889)) (nd P o505 (lf P o761) (lf P o1017))))))) (nd P o13 (nd P o21 (nd P o37 (nd P o69 (nd P o133 (nd P o261 (nd P o517 (lf P o1029) .nil) (lf P o773)) (nd P o389 (lf P o645) (lf P o901))) (nd P o197 (nd P o325 (lf P o581) (lf P o837)) (nd P o453 (lf P o709) (lf P o965)))) (nd P o101 (nd P o165 (nd P o293 (lf P o549) (lf P o805)) (nd P o421 (lf P o677) (lf P o933))) (nd P o229 (nd P o357 (lf P o613) (lf P o869)) (nd P o485 (lf P o741) (lf P o997))))) (nd P o53 (nd P o85 (nd P o149 (nd P o277 (lf P o533) (lf P o789)) (nd P o405 (lf P o661) (lf P o917))) (nd P o213 (nd P o341 (lf P o597) (lf P o853)) (nd P o469 (lf P o725) (lf P o981)))) (nd P o117 (nd P o181 (nd P o309 (lf P o565) (lf P o821)) (nd P o437 (lf P o693) (lf P o949))) (nd P o245 (nd P o373 (lf P o629) (lf P o885)) (nd P o501 (lf P o757) (lf P o1013)))))) (nd P o29 (nd P o45 (nd P o77 (nd P o141 (nd P o269 (lf P o525) (lf P o781)) (nd P o397 (lf P o653) (lf P o909))) (nd P o205 (nd P o333 (lf P o589) (lf P o845)) (nd P o461 (lf P o717) (lf P o973)))) (nd P o109 (nd P o173 (nd P o301 (lf P o557) (lf P o813)) (nd P o429 (lf P o685) (lf P o941))) (nd P o237 (nd P o365 (lf P o621) (lf P o877)) (nd P o493 (lf P o749) (lf P o1005))))) (nd P o61 (nd P o93 (nd P o157 (nd P o285 (lf P o541) (lf P o797)) (nd P o413 (lf P o669) (lf P o925))) (nd P o221 (nd P o349 (lf P o605) (lf P o861)) (nd P o477 (lf P o733) (lf P o989)))) (nd P o125 (nd P o189 (nd P o317 (lf P o573) (lf P o829)) (nd P o445 (lf P o701) (lf P o957))) (nd P o253 (nd P o381 (lf P o637) (lf P o893)) (nd P o509 (lf P o765) (lf P o1021))))))))) (nd P o2 (nd P boot_o_4 (nd P boot_o_8 (nd P o16 (nd P o32 (nd P o64 (nd P o128 (nd P o256 (nd P o512 (lf P o1024) .nil) (lf P o768)) (nd P o384 (lf P o640) (lf P o896))) (nd P o192 (nd P o320 (lf P o576) (lf P o832)) (nd P o448 (lf P o704) (lf P o960)))) (nd P o96 (nd P o160 (nd P o288 (lf P o544) (lf P o800)) (nd P o416 (lf P o672) (lf P o928))) (nd P o224 (nd P o352 (lf P o608) (lf P o864)) (nd P o480 (lf P o736) (lf P o992))))) (nd P o48 (nd P o80 (nd P o144 (nd P o272 (lf P o528) (lf P o784)) (nd P o400 (lf P o656) (lf P o912))) (nd P o208 (nd P o336 (lf P o592) (lf P o848)) (nd P o464 (lf P o720) (lf P o976)))) (nd P o112 (nd P o176 (nd P o304 (lf P o560) (lf P o816)) (nd P o432 (lf P o688) (lf P o944))) (nd P o240 (nd P o368 (lf P o624) (lf P o880)) (nd P o496 (lf P o752) (lf P o1008)))))) (nd P o24 (nd P o40 (nd P o72 (nd P o136 (nd P o264 (nd P o520 (lf P o1032) .nil) (lf P o776)) (nd P o392 (lf P o648) (lf P o904))) (nd P o200 (nd P o328 (lf P o584) (lf P o840)) (nd P o456 (lf P o712) (lf P o968)))) (nd P o104 (nd P o168 (nd P o296 (lf P o552) (lf P o808)) (nd P o424 (lf P o680) (lf P o936))) (nd P o232 (nd P o360 (lf P o616) (lf P o872)) (nd P o488 (lf P o744) (lf P o1000))))) (nd P o56 (nd P o88 (nd P o152 (nd P o280 (lf P o536) (lf P o792)) (nd P o408 (lf P o664) (lf P o920))) (nd P o216 (nd P o344 (lf P o600) (lf P o856)) (nd P o472 (lf P o728) (lf P o984)))) (nd P o120 (nd P o184 (nd P o312 (lf P o568) (lf P o824)) (nd P o440 (lf P o696) (lf P o952))) (nd P o248 (nd P o376 (lf P o632) (lf P o888)) (nd P o504 (lf P o760) (lf P o1016))))))) (nd P o12 (nd P o20 (nd P o36 (nd P o68 (nd P o132 (nd P o260 (nd P o516 (lf P o1028) .nil) (lf P o772)) (nd P o388 (lf P o644) (lf P o900))) (nd P o196 (nd P o324 (lf P o580) (lf P o836)) (nd P o452 (lf P o708) (lf P o964)))) (nd P o100 (nd P o164 (nd P o292 (lf P o548) (lf P o804)) (nd P o420 (lf P o676) (lf P o932))) (nd P o228 (nd P o356 (lf P o612) (lf P o868)) (nd P o484 (lf P o740) (lf P o996))))) (nd P o52 (nd P o84 (nd P o148 (nd P o276 (lf P o532) (lf P o788)) (nd P o404 (lf P o660) (lf P o916))) (nd P o212 (nd P o340 (lf P o596) (lf P o852)) (nd P o468 (lf P o724) (lf P o980)))) (nd P o116 (nd P o180 (nd P o308 (lf P o564) (lf P o820)) (nd P o436 (lf P o692) (lf P o948))) (nd P o244 (nd P o372 (lf P o628) (lf P o884)) (nd P o500 (lf P o756) (lf P o1012)))))) (nd P o28 (nd P o44 (nd P o76 (nd P o140 (nd P o268 (lf P o524) (lf P o780)) (nd P o396 (lf P o652) (lf P o908))) (nd P o204 (nd P o332 (lf P o588) (lf P o844)) (nd P o460 (lf P o716) (lf P o972)))) (nd P o108 (nd P o172 (nd P o300 (lf P o556) (lf P o812)) (nd P o428 (lf P o684) (lf P o940))) (nd P o236 (nd P o364 (lf P o620) (lf P o876)) (nd P o492 (lf P o748) (lf P o1004))))) (nd P o60 (nd P o92 (nd P o156 (nd P o284 (lf P o540) (lf P o796)) (nd P o412 (lf P o668) (lf P o924))) (nd P o220 (nd P o348 (lf P o604) (lf P o860)) (nd P o476 (lf P o732) (lf P o988)))) (nd P o124 (nd P o188 (nd P o316 (lf P o572) (lf P o828)) (nd P o444 (lf P o700) (lf P o956))) (nd P o252 (nd P o380 (lf P o636) (lf P o892)) (nd P o508 (lf P o764) (lf P o1020)))))))) (nd P boot_o_6 (nd P boot_o_10 (nd P o18 (nd P o34 (nd P o66 (nd P o130 (nd P o258 (nd P o514 (lf P o1026) .nil) (lf P o770)) (nd P o386 (lf P o642) (lf P o898))) (nd P o194 (nd P o322 (lf P o578) (lf P o834)) (nd P o450 (lf P o706) (lf P o962)))) (nd P o98 (nd P o162 (nd P o290 (lf P o546) (lf P o802)) (nd P o418 (lf P o674) (lf P o930))) (nd P o226 (nd P o354 (lf P o610) (lf P o866)) (nd P o482 (lf P o738) (lf P o994))))) (nd P o50 (nd P o82 (nd P o146 (nd P o274 (lf P o530) (lf P o786)) (nd P o402 (lf P o658) (lf P o914))) (nd P o210 (nd P o338 (lf P o594) (lf P o850)) (nd P o466 (lf P o722) (lf P o978)))) (nd P o114 (nd P o178 (nd P o306 (lf P o562) (lf P o818)) (nd P o434 (lf P o690) (lf P o946))) (nd P o242 (nd P o370 (lf P o626) (lf P o882)) (nd P o498 (lf P o754) (lf P o1010)))))) (nd P o26 (nd P o42 (nd P o74 (nd P o138 (nd P o266 (nd P o522 (lf P o1034) .nil) (lf P o778)) (nd P o394 (lf P o650) (lf P o906))) (nd P o202 (nd P o330 (lf P o586) (lf P o842)) (nd P o458 (lf P o714) (lf P o970)))) (nd P o106 (nd P o170 (nd P o298 (lf P o554) (lf P o810)) (nd P o426 (lf P o682) (lf P o938))) (nd P o234 (nd P o362 (lf P o618) (lf P o874)) (nd P o490 (lf P o746) (lf P o1002))))) (nd P o58 (nd P o90 (nd P o154 (nd P o282 (lf P o538) (lf P o794)) (nd P o410 (lf P o666) (lf P o922))) (nd P o218 (nd P o346 (lf P o602) (lf P o858)) (nd P o474 (lf P o730) (lf P o986)))) (nd P o122 (nd P o186 (nd P o314 (lf P o570) (lf P o826)) (nd P o442 (lf P o698) (lf P o954))) (nd P o250 (nd P o378 (lf P o634) (lf P o890)) (nd P o506 (lf P o762) (lf P o1018))))))) (nd P o14 (nd P o22 (nd P o38 (nd P o70 (nd P o134 (nd P o262 (nd P o518 (lf P o1030) .nil) (lf P o774)) (nd P o390 (lf P o646) (lf P o902))) (nd P o198 (nd P o326 (lf P o582) (lf P o838)) (nd P o454 (lf P o710) (lf P o966)))) (nd P o102 (nd P o166 (nd P o294 (lf P o550) (lf P o806)) (nd P o422 (lf P o678) (lf P o934))) (nd P o230 (nd P o358 (lf P o614) (lf P o870)) (nd P o486 (lf P o742) (lf P o998))))) (nd P o54 (nd P o86 (nd P o150 (nd P o278 (lf P o534) (lf P o790)) (nd P o406 (lf P o662) (lf P o918))) (nd P o214 (nd P o342 (lf P o598) (lf P o854)) (nd P o470 (lf P o726) (lf P o982)))) (nd P o118 (nd P o182 (nd P o310 (lf P o566) (lf P o822)) (nd P o438 (lf P o694) (lf P o950))) (nd P o246 (nd P o374 (lf P o630) (lf P o886)) (nd P o502 (lf P o758) (lf P o1014)))))) (nd P o30 (nd P o46 (nd P o78 (nd P o142 (nd P o270 (lf P o526) (lf P o782)) (nd P o398 (lf P o654) (lf P o910))) (nd P o206 (nd P o334 (lf P o590) (lf P o846)) (nd P o462 (lf P o718) (lf P o974)))) (nd P o110 (nd P o174 (nd P o302 (lf P o558) (lf P o814)) (nd P o430 (lf P o686) (lf P o942))) (nd P o238 (nd P o366 (lf P o622) (lf P o878)) (nd P o494 (lf P o750) (lf P o1006))))) (nd P o62 (nd P o94 (nd P o158 (nd P o286 (lf P o542) (lf P o798)) (nd P o414 (lf P o670) (lf P o926))) (nd P o222 (nd P o350 (lf P o606) (lf P o862)) (nd P o478 (lf P o734) (lf P o990)))) (nd P o126 (nd P o190 (nd P o318 (lf P o574) (lf P o830)) (nd P o446 (lf P o702) (lf P o958))) (nd P o254 (nd P o382 (lf P o638) (lf P o894)) (nd P o510 (lf P o766) (lf P o1022))))))))))
noncomputable def x1(P:Params):Obj:=⟨.none,none,(.dict ⟨[]⟩ 0),⟨[]⟩⟩
noncomputable def S0(w:World)(os:OsState):SharedT:=⟨ju 15 (dU (x1 w.params) (v3 w.params (sv "__main__" 164) 9) (fl (tk ji 0)) (o38 w.params)) (T w.params) 1 0,15,{},⟨[]⟩,{},187,os⟩
noncomputable def x2(P:Params):Obj:=⟨.none,none,(.dict ⟨[kv P "type.__subclasses__.Exception.0" 227 (.int 38 0),kv P "type.__subclasses__.Exception.n" 228 (.int 1 0)]⟩ 2),⟨[]⟩⟩
noncomputable def x3(P:Params):Obj:=⟨(.type "type"),none,(.cls ⟨.ofString "RuneError",[(.type "Exception")],[(.ref 38),(.type "Exception"),(.type "BaseException"),(.type "object")],37,.ofString "RuneError",true,[],[],false,none,false⟩),⟨[(some (.ref 22)),none,(some (sv "RuneError" 200)),(some (sv "RuneError" 208)),(some (.builtin "Exception.__new__")),(some (.bool true))]⟩⟩
noncomputable def S1(w:World)(os:OsState):SharedT:=⟨ju 42 (dU (x2 w.params) (v3 w.params (sv "framerune.faults" 194) 13) (fl (tk ji 6)) (x3 w.params)) (T w.params) 1 0,42,{},⟨[]⟩,{},231,os⟩
noncomputable def x4(P:Params):Obj:=⟨(.type "type"),none,(.cls ⟨.ofString "RuneError",[(.type "Exception")],[(.ref 38),(.type "Exception"),(.type "BaseException"),(.type "object")],37,.ofString "RuneError",true,[],[(.ref 51)],false,none,false⟩),⟨[(some (.ref 22)),none,(some (sv "RuneError" 200)),(some (sv "RuneError" 208)),(some (.builtin "Exception.__new__")),(some (.bool true))]⟩⟩
noncomputable def S2(w:World)(os:OsState):SharedT:=⟨ju 54 (dU (x2 w.params) (v3 w.params (sv "framerune.kinds" 247) 33) (fl (tk ji 9)) (x4 w.params)) (T w.params) 1 0,54,{},⟨[]⟩,{},287,os⟩
noncomputable def S3(w:World)(os:OsState):SharedT:=⟨ju 55 (dU (x2 w.params) (v3 w.params (sv "framerune.kinds" 247) 44) (fl (tk ji 9)) (x4 w.params)) (T w.params) 1 0,55,{},⟨[]⟩,{},336,os⟩
noncomputable def S4(w:World)(os:OsState):SharedT:=⟨ju 56 (dU (x2 w.params) (v3 w.params (sv "framerune.kinds" 247) 47) (fl (tk ji 9)) (x4 w.params)) (T w.params) 1 0,56,{},⟨[]⟩,{},369,os⟩
noncomputable def S5(w:World)(os:OsState):SharedT:=⟨ju 112 (dU (x2 w.params) (v3 w.params (sv "framerune.kinds" 247) 51) (fl (tk ji 21)) (x4 w.params)) (T w.params) 1 0,112,{},⟨[]⟩,{},448,os⟩
noncomputable def S6(w:World)(os:OsState):SharedT:=⟨ju 203 (dU (x2 w.params) (v3 w.params (sv "framerune.kinds" 247) 64) (fl (tk ji 60)) (x4 w.params)) (T w.params) 1 0,203,{},⟨[]⟩,{},561,os⟩
noncomputable def S7(w:World)(os:OsState):SharedT:=⟨ju 273 (dU (x2 w.params) (v3 w.params (sv "framerune.values" 641) 80) (fl (tk ji 90)) (x4 w.params)) (T w.params) 1 0,273,{},⟨[]⟩,{},678,os⟩
noncomputable def S8(w:World)(os:OsState):SharedT:=⟨ju 308 (dU (x2 w.params) (v3 w.params (sv "framerune.heap" 689) 86) (fl (tk ji 99)) (x4 w.params)) (T w.params) 1 0,308,{},⟨[]⟩,{},740,os⟩
noncomputable def S9(w:World)(os:OsState):SharedT:=⟨ju 364 (dU (x2 w.params) (v3 w.params (sv "framerune.heap" 689) 92) (fl (tk ji 117)) (x4 w.params)) (T w.params) 1 0,364,{},⟨[]⟩,{},831,os⟩
noncomputable def Gh(w:World)(os:OsState):SharedT:=⟨ju 413 (dU (x2 w.params) (v3 w.params (sv "framerune.places" 869) 98) (fl (tk ji 132)) (x4 w.params)) (T w.params) 1 0,413,{},⟨[]⟩,{},907,os⟩
noncomputable def Gg(w:World)(os:OsState):SharedT:=⟨ju 504 (dU (x2 w.params) (v3 w.params (sv "framerune.places" 869) 111) (fl (tk ji 171)) (x4 w.params)) (T w.params) 1 0,504,{},⟨[]⟩,{},1016,os⟩
noncomputable def Gf(w:World)(os:OsState):SharedT:=⟨ju 533 (dU (x2 w.params) (v3 w.params (sv "framerune.mbase" 1024) 117) (fl (tk ji 177)) (x4 w.params)) (T w.params) 1 0,533,{},⟨[]⟩,{},1083,os⟩
noncomputable def Gd(w:World)(os:OsState):SharedT:=⟨ju 568 (dU (x2 w.params) (v3 w.params (sv "framerune.mbase" 1024) 118) (fl (tk ji 180)) (x4 w.params)) (T w.params) 1 0,568,{},⟨[]⟩,{},1132,os⟩
noncomputable def Gc(w:World)(os:OsState):SharedT:=⟨ju 596 (dU (x2 w.params) (v3 w.params (sv "framerune.mbase" 1024) 119) (fl (tk ji 183)) (x4 w.params)) (T w.params) 1 0,596,{},⟨[]⟩,{},1172,os⟩
noncomputable def Gb(w:World)(os:OsState):SharedT:=⟨ju 722 (dU (x2 w.params) (v3 w.params (sv "framerune.mbase" 1024) 120) (fl (tk ji 186)) (x4 w.params)) (T w.params) 1 0,722,{},⟨[]⟩,{},1350,os⟩
noncomputable def Ga(w:World)(os:OsState):SharedT:=⟨ju 764 (dU (x2 w.params) (v3 w.params (sv "framerune.store" 1378) 125) (fl (tk ji 198)) (x4 w.params)) (T w.params) 1 0,764,{},⟨[]⟩,{},1430,os⟩
noncomputable def F9(w:World)(os:OsState):SharedT:=⟨ju 785 (dU (x2 w.params) (v3 w.params (sv "framerune.store" 1378) 126) (fl (tk ji 201)) (x4 w.params)) (T w.params) 1 0,785,{},⟨[]⟩,{},1465,os⟩
noncomputable def F8(w:World)(os:OsState):SharedT:=⟨ju 841 (dU (x2 w.params) (v3 w.params (sv "framerune.mfield" 1537) 132) (fl (tk ji 219)) (x4 w.params)) (T w.params) 1 0,841,{},⟨[]⟩,{},1547,os⟩
noncomputable def F7(w:World)(os:OsState):SharedT:=⟨ju 916 (dU (x2 w.params) (v3 w.params (sv "law_xm0296_01" 1577) 145) (fl (tk ji 249)) (x4 w.params)) (T w.params) 1 0,916,{},⟨[]⟩,{},1683,os⟩
noncomputable def F6(w:World)(os:OsState):SharedT:=⟨ju 991 (dU (x2 w.params) (v3 w.params (sv "law_xm0296_01" 1577) 156) (fl (tk ji 282)) (x4 w.params)) (T w.params) 1 0,991,{},⟨[]⟩,{},1812,os⟩
noncomputable def F5(w:World)(os:OsState):SharedT:=⟨ju 1017 (dU (x2 w.params) (v3 w.params (sv "law_xm0296_01" 1577) 160) (fl (tk ji 294)) (x4 w.params)) (T w.params) 1 0,1017,{},⟨[]⟩,{},1848,os⟩
noncomputable def F4(w:World)(os:OsState):SharedT:=⟨ju 1036 (dU (x2 w.params) (v3 w.params (sv "law_xm0296_01" 1577) 163) (fl (tk ji 303)) (x4 w.params)) (T w.params) 1 0,1036,{},⟨[]⟩,{},1877,os⟩
noncomputable def en:Env:={ scope:=PySem.Challenge.pw_xm0296_01.main.scope,locals:=mainNs,globals:=mainNs,cells:=[],code:=.ref 13,frame:=some 14 }
noncomputable def cd(b:List Stmt):Code:=.body b en
noncomputable abbrev p0:Pos:=⟨0,0,0,0⟩
noncomputable def DL:List Stmt:=tk (dr top 0) 5
noncomputable def Ft:List Stmt:=tk (dr top 5) 21
noncomputable def Bx:List Stmt:=tk (dr top 26) 11
noncomputable def Bu:List Stmt:=tk (dr top 37) 3
noncomputable def Fs:List Stmt:=tk (dr top 40) 4
noncomputable def Fq:List Stmt:=tk (dr top 44) 13
noncomputable def Fp:List Stmt:=tk (dr top 57) 17
noncomputable def Fo:List Stmt:=tk (dr top 74) 7
noncomputable def Fm:List Stmt:=tk (dr top 81) 6
noncomputable def Fk:List Stmt:=tk (dr top 87) 7
noncomputable def BI:List Stmt:=tk (dr top 94) 13
noncomputable def BH:List Stmt:=tk (dr top 107) 7
noncomputable def BG:List Stmt:=tk (dr top 114) 1
noncomputable def BF:List Stmt:=tk (dr top 115) 1
noncomputable def BE:List Stmt:=tk (dr top 116) 1
noncomputable def BD:List Stmt:=tk (dr top 117) 6
noncomputable def BC:List Stmt:=tk (dr top 123) 1
noncomputable def BB:List Stmt:=tk (dr top 124) 8
noncomputable def BA:List Stmt:=tk (dr top 132) 14
noncomputable def Bz:List Stmt:=tk (dr top 146) 11
noncomputable def Bw:List Stmt:=tk (dr top 157) 4
noncomputable def Bv:List Stmt:=tk (dr top 161) 3
theorem Gz:∀ (w:World),(fun(p:Program) (b:List Stmt) (os:OsState)=>Fast.tw10110043849684766642 Fast.tw14364793385576792824 p w 11 (some (.ref 6)) 1 287 (S0 w os) ⟨(Fast.tw12563942051412417395 DL en).wrap doneF deadEnd id id,cd b,⟨0,0,0,0⟩,[topFrame p0]⟩)=fun p b os=>some (.next,S1 w os,cd b,⟨7,0,11,20⟩):=by
 intro w;kernel_rfl
theorem Gy:∀ (w:World),(fun(p:Program) (b:List Stmt) (os:OsState)=>Fast.tw10110043849684766642 Fast.tw14364793385576792824 p w 11 (some (.ref 6)) 1 394 (S1 w os) ⟨(Fast.tw12563942051412417395 Ft en).wrap doneF deadEnd id id,cd b,⟨7,0,11,20⟩,[topFrame p0]⟩)=fun p b os=>some (.next,S2 w os,cd b,⟨33,0,33,7⟩):=by
 intro w;kernel_rfl
theorem DU:∀ (w:World),(fun(p:Program) (b:List Stmt) (os:OsState)=>Fast.tw10110043849684766642 Fast.tw14364793385576792824 p (w.withFollow "special-get-raises" false) 11 (some (.ref 6)) 1 297 (S2 (w.withFollow "special-get-raises" false) os) ⟨(Fast.tw12563942051412417395 Bx en).wrap doneF deadEnd id id,cd b,⟨33,0,33,7⟩,[topFrame p0]⟩)=fun p b os=>some (.next,S3 (w.withFollow "special-get-raises" false) os,cd b,⟨44,0,44,8⟩):=by
 intro w;kernel_rfl
theorem DS:∀ (w:World),(fun(p:Program) (b:List Stmt) (os:OsState)=>Fast.tw10110043849684766642 Fast.tw14364793385576792824 p (w.withFollow "special-get-raises" true) 11 (some (.ref 6)) 1 297 (S2 (w.withFollow "special-get-raises" true) os) ⟨(Fast.tw12563942051412417395 Bx en).wrap doneF deadEnd id id,cd b,⟨33,0,33,7⟩,[topFrame p0]⟩)=fun p b os=>some (.next,S3 (w.withFollow "special-get-raises" true) os,cd b,⟨44,0,44,8⟩):=by
 intro w;kernel_rfl
theorem DT:∀ (w:World),(fun(p:Program) (b:List Stmt) (os:OsState)=>Fast.tw10110043849684766642 Fast.tw14364793385576792824 p (w.withFollow "special-get-raises" false) 11 (some (.ref 6)) 1 225 (S3 (w.withFollow "special-get-raises" false) os) ⟨(Fast.tw12563942051412417395 Bu en).wrap doneF deadEnd id id,cd b,⟨44,0,44,8⟩,[topFrame p0]⟩)=fun p b os=>some (.next,S4 (w.withFollow "special-get-raises" false) os,cd b,⟨47,0,47,12⟩):=by
 intro w;kernel_rfl
theorem DQ:∀ (w:World),(fun(p:Program) (b:List Stmt) (os:OsState)=>Fast.tw10110043849684766642 Fast.tw14364793385576792824 p (w.withFollow "special-get-raises" true) 11 (some (.ref 6)) 1 225 (S3 (w.withFollow "special-get-raises" true) os) ⟨(Fast.tw12563942051412417395 Bu en).wrap doneF deadEnd id id,cd b,⟨44,0,44,8⟩,[topFrame p0]⟩)=fun p b os=>some (.next,S4 (w.withFollow "special-get-raises" true) os,cd b,⟨47,0,47,12⟩):=by
 intro w;kernel_rfl
theorem Gv:∀ (w:World),(fun(p:Program) (b:List Stmt) (os:OsState)=>Fast.tw10110043849684766642 Fast.tw14364793385576792824 p w 11 (some (.ref 6)) 1 387 (S4 w os) ⟨(Fast.tw12563942051412417395 Fs en).wrap doneF deadEnd id id,cd b,⟨47,0,47,12⟩,[topFrame p0]⟩)=fun p b os=>some (.next,S5 w os,cd b,⟨110,0,115,12⟩):=by
 intro w;kernel_rfl
theorem Gu:∀ (w:World),(fun(p:Program) (b:List Stmt) (os:OsState)=>Fast.tw10110043849684766642 Fast.tw14364793385576792824 p w 11 (some (.ref 6)) 1 400 (S5 w os) ⟨(Fast.tw12563942051412417395 Fq en).wrap doneF deadEnd id id,cd b,⟨110,0,115,12⟩,[topFrame p0]⟩)=fun p b os=>some (.next,S6 w os,cd b,⟨183,0,187,13⟩):=by
 intro w;kernel_rfl
theorem Gs:∀ (w:World),(fun(p:Program) (b:List Stmt) (os:OsState)=>Fast.tw10110043849684766642 Fast.tw14364793385576792824 p w 11 (some (.ref 6)) 1 387 (S6 w os) ⟨(Fast.tw12563942051412417395 Fp en).wrap doneF deadEnd id id,cd b,⟨183,0,187,13⟩,[topFrame p0]⟩)=fun p b os=>some (.next,S7 w os,cd b,⟨254,0,265,14⟩):=by
 intro w;kernel_rfl
theorem Gq:∀ (w:World),(fun(p:Program) (b:List Stmt) (os:OsState)=>Fast.tw10110043849684766642 Fast.tw14364793385576792824 p w 11 (some (.ref 6)) 1 328 (S7 w os) ⟨(Fast.tw12563942051412417395 Fo en).wrap doneF deadEnd id id,cd b,⟨254,0,265,14⟩,[topFrame p0]⟩)=fun p b os=>some (.next,S8 w os,cd b,⟨293,0,301,23⟩):=by
 intro w;kernel_rfl
theorem Gp:∀ (w:World),(fun(p:Program) (b:List Stmt) (os:OsState)=>Fast.tw10110043849684766642 Fast.tw14364793385576792824 p w 11 (some (.ref 6)) 1 395 (S8 w os) ⟨(Fast.tw12563942051412417395 Fm en).wrap doneF deadEnd id id,cd b,⟨293,0,301,23⟩,[topFrame p0]⟩)=fun p b os=>some (.next,S9 w os,cd b,⟨351,0,358,28⟩):=by
 intro w;kernel_rfl
theorem Gn:∀ (w:World),(fun(p:Program) (b:List Stmt) (os:OsState)=>Fast.tw10110043849684766642 Fast.tw14364793385576792824 p w 11 (some (.ref 6)) 1 376 (S9 w os) ⟨(Fast.tw12563942051412417395 Fk en).wrap doneF deadEnd id id,cd b,⟨351,0,358,28⟩,[topFrame p0]⟩)=fun p b os=>some (.next,Gh w os,cd b,⟨385,0,390,30⟩):=by
 intro w;kernel_rfl
theorem D8:∀ (w:World),(fun(p:Program) (b:List Stmt) (os:OsState)=>Fast.tw10110043849684766642 Fast.tw14364793385576792824 p w 11 (some (.ref 6)) 1 396 (Gh w os) ⟨(Fast.tw12563942051412417395 BI en).wrap doneF deadEnd id id,cd b,⟨385,0,390,30⟩,[topFrame p0]⟩)=fun p b os=>some (.next,Gg w os,cd b,⟨448,0,455,51⟩):=by
 intro w;kernel_rfl
theorem D7:∀ (w:World),(fun(p:Program) (b:List Stmt) (os:OsState)=>Fast.tw10110043849684766642 Fast.tw14364793385576792824 p w 11 (some (.ref 6)) 1 324 (Gg w os) ⟨(Fast.tw12563942051412417395 BH en).wrap doneF deadEnd id id,cd b,⟨448,0,455,51⟩,[topFrame p0]⟩)=fun p b os=>some (.next,Gf w os,cd b,⟨463,0,480,24⟩):=by
 intro w;kernel_rfl
theorem D6:∀ (w:World),(fun(p:Program) (b:List Stmt) (os:OsState)=>Fast.tw10110043849684766642 Fast.tw14364793385576792824 p w 11 (some (.ref 6)) 1 291 (Gf w os) ⟨(Fast.tw12563942051412417395 BG en).wrap doneF deadEnd id id,cd b,⟨463,0,480,24⟩,[topFrame p0]⟩)=fun p b os=>some (.next,Gd w os,cd b,⟨481,0,490,16⟩):=by
 intro w;kernel_rfl
theorem D5:∀ (w:World),(fun(p:Program) (b:List Stmt) (os:OsState)=>Fast.tw10110043849684766642 Fast.tw14364793385576792824 p w 11 (some (.ref 6)) 1 258 (Gd w os) ⟨(Fast.tw12563942051412417395 BF en).wrap doneF deadEnd id id,cd b,⟨481,0,490,16⟩,[topFrame p0]⟩)=fun p b os=>some (.next,Gc w os,cd b,⟨491,0,497,19⟩):=by
 intro w;kernel_rfl
theorem D4:∀ (w:World),(fun(p:Program) (b:List Stmt) (os:OsState)=>Fast.tw10110043849684766642 Fast.tw14364793385576792824 p w 11 (some (.ref 6)) 1 732 (Gc w os) ⟨(Fast.tw12563942051412417395 BE en).wrap doneF deadEnd id id,cd b,⟨491,0,497,19⟩,[topFrame p0]⟩)=fun p b os=>some (.next,Gb w os,cd b,⟨498,0,566,17⟩):=by
 intro w;kernel_rfl
theorem D3:∀ (w:World),(fun(p:Program) (b:List Stmt) (os:OsState)=>Fast.tw10110043849684766642 Fast.tw14364793385576792824 p w 11 (some (.ref 6)) 1 354 (Gb w os) ⟨(Fast.tw12563942051412417395 BD en).wrap doneF deadEnd id id,cd b,⟨498,0,566,17⟩,[topFrame p0]⟩)=fun p b os=>some (.next,Ga w os,cd b,⟨590,0,606,23⟩):=by
 intro w;kernel_rfl
theorem D0:∀ (w:World),(fun(p:Program) (b:List Stmt) (os:OsState)=>Fast.tw10110043849684766642 Fast.tw14364793385576792824 p w 11 (some (.ref 6)) 1 229 (Ga w os) ⟨(Fast.tw12563942051412417395 BC en).wrap doneF deadEnd id id,cd b,⟨590,0,606,23⟩,[topFrame p0]⟩)=fun p b os=>some (.next,F9 w os,cd b,⟨607,0,613,30⟩):=by
 intro w;kernel_rfl
theorem DZ:∀ (w:World),(fun(p:Program) (b:List Stmt) (os:OsState)=>Fast.tw10110043849684766642 Fast.tw14364793385576792824 p w 11 (some (.ref 6)) 1 400 (F9 w os) ⟨(Fast.tw12563942051412417395 BB en).wrap doneF deadEnd id id,cd b,⟨607,0,613,30⟩,[topFrame p0]⟩)=fun p b os=>some (.next,F8 w os,cd b,⟨650,0,653,13⟩):=by
 intro w;kernel_rfl
theorem DY:∀ (w:World),(fun(p:Program) (b:List Stmt) (os:OsState)=>Fast.tw10110043849684766642 Fast.tw14364793385576792824 p w 11 (some (.ref 6)) 1 401 (F8 w os) ⟨(Fast.tw12563942051412417395 BA en).wrap doneF deadEnd id id,cd b,⟨650,0,653,13⟩,[topFrame p0]⟩)=fun p b os=>some (.next,F7 w os,cd b,⟨749,0,753,95⟩):=by
 intro w;kernel_rfl
theorem DX:∀ (w:World),(fun(p:Program) (b:List Stmt) (os:OsState)=>Fast.tw10110043849684766642 Fast.tw14364793385576792824 p w 11 (some (.ref 6)) 1 370 (F7 w os) ⟨(Fast.tw12563942051412417395 Bz en).wrap doneF deadEnd id id,cd b,⟨749,0,753,95⟩,[topFrame p0]⟩)=fun p b os=>some (.next,F6 w os,cd b,⟨829,0,837,48⟩):=by
 intro w;kernel_rfl
theorem DW:∀ (w:World),(fun(p:Program) (b:List Stmt) (os:OsState)=>Fast.tw10110043849684766642 Fast.tw14364793385576792824 p w 11 (some (.ref 6)) 1 123 (F6 w os) ⟨(Fast.tw12563942051412417395 Bw en).wrap doneF deadEnd id id,cd b,⟨829,0,837,48⟩,[topFrame p0]⟩)=fun p b os=>some (.next,F5 w os,cd b,⟨899,0,902,43⟩):=by
 intro w;kernel_rfl
theorem DV:∀ (w:World),(fun(p:Program) (b:List Stmt) (os:OsState)=>Fast.tw10110043849684766642 Fast.tw14364793385576792824 p w 11 (some (.ref 6)) 1 94 (F5 w os) ⟨(Fast.tw12563942051412417395 Bv en).wrap doneF deadEnd id id,cd b,⟨899,0,902,43⟩,[topFrame p0]⟩)=fun p b os=>some (.next,F4 w os,cd b,⟨924,0,939,81⟩):=by
 intro w;kernel_rfl
noncomputable abbrev pg:Program:=PySem.Challenge.pw_xm0296_01
noncomputable abbrev rw_:=PySem.Challenge.rw_xm0296_01
noncomputable def vq:Program:={ pg with main:={ pg.main with body:=[at1 163] } }
noncomputable def names:List Str:=List.rec (motive:=fun _=>List Str) [] (fun p _ ih=>p.1::ih) pg.main.scope.names
noncomputable def HF(P:Params):Heap:=absHeap (T P) 1036 {}
theorem BJ:∀ w:World,((boot_heap w.params).isNs mainGlobals && (⟨[]⟩:Array GenState).size == 0,(boot_heap w.params).objs.size,Fast.tw8920871248978507458 (boot_heap w.params) mainGlobals (Str.ofString "__annotations__"))=(true,11,some (.ref 6)):=by
 intro w;kernel_rfl
theorem CT:opening pg=plainProg pg.main.scope.names:=by kernel_rfl
theorem Cs:∀ s:Shared,fenceModules? pg s=some s:=by intro s;kernel_rfl
noncomputable def HB(P:Params):Heap:=⟨⟨dr [] 0⟩,{}⟩
theorem DP:∀ w:World,(fun os=>Fast.tw15667345088766844465 Fast.tw14364793385576792824 pg w 11 (some (.ref 6)) 12 ⟨boot_heap w.params,⟨[]⟩,boot_drawn,boot_toks,os⟩ (topStub pg)) =
  fun os=>some (⟨absHeap (ju 15 (dU (x1 w.params) (v3 w.params (sv "__main__" 164) 9) (fl []) (o38 w.params)) (T w.params) 1 0) 15 {},⟨[]⟩,{},187,os⟩,⟨Fast.tw11892475500146522536 Fast.tw14364793385576792824 (cd (behindTheImports pg)),cd (behindTheImports pg),p0,[topFrame p0]⟩):=by
 intro w;kernel_rfl
theorem AM:∀ w:World,(fun os=>Fast.tw14374325043358763698 Fast.tw14364793385576792824 pg w 11 (some (.ref 6)) 1 1 (S0 w os).abs ⟨(Fast.tw1066825118222455980 (behindTheImports pg) en).wrap (fun _=>doneF .next) deadEnd id id,cd (behindTheImports pg),p0,[topFrame p0]⟩)=fun os=>some (.next,(S0 w os).abs,cd (behindTheImports pg),p0):=by
 intro w;kernel_rfl
theorem Ew:∀ w:World,(fun os=>Fast.tw14082659384304107361 Fast.tw14364793385576792824 pg w 11 (some (.ref 6)) 2 (F4 w os).abs ⟨doneF .next,cd (behindTheImports pg),⟨924,0,939,81⟩,[topFrame p0]⟩)=fun os=>some ⟨HF w.params,⟨[]⟩,{},1877,os⟩:=by
 intro w;kernel_rfl
theorem Ca:∀ w:World,(fun os=>staticsOk (Fast.tw5923862056798008813 pg.main.body) (boot_heap w.params) (HF w.params))=fun(os:OsState)=>true:=by
 intro w;kernel_rfl
theorem B9:∀ w:World,(fun os=>namesBound pg (HF w.params))=fun(os:OsState)=>true:=by
 intro w;kernel_rfl
theorem B8:∀ w:World,(fun os=>gensDone ⟨HF w.params,⟨[]⟩,{},1877,os⟩)=fun(os:OsState)=>true:=by
 intro w;kernel_rfl
theorem B7:∀ w:World,(fun os=>laidKept (boot_heap w.params) (HF w.params))=fun(os:OsState)=>true:=by
 intro w;kernel_rfl
theorem B6:∀ w:World,(fun os=>Fast.tw4187177175401517315 vq names (Fast.tw5923862056798008813 pg.main.body) (fun _=>true) true ⟨HF w.params,⟨[]⟩,{},1877,os⟩)=fun(os:OsState)=>openGood vq names:=by
 intro w;kernel_rfl
theorem up{p:Program}{w:World}{N:Nat}{s s':SharedT}{l b:List Stmt}{pos pos':Pos}(h:Fast.tw10110043849684766642 Fast.tw14364793385576792824 p w 11 (some (.ref 6)) 1 N s ⟨(Fast.tw12563942051412417395 l en).wrap doneF deadEnd id id,cd b,pos,[topFrame p0]⟩=some (.next,s',cd b,pos')) :
  segRun treeTable p w 11 (some (.ref 6)) 1 N s.abs (piecesOf l en (cd b) pos [topFrame p0])=some (.next,s'.abs,cd b,pos'):=by
 refine segRun_of ?_
 rw[Fast.te10110043849684766642,Fast.te14364793385576792824,piecesOf,Fast.te12563942051412417395]
 exact h
theorem E9:behindTheImports pg=DL++(Ft++(Bx++(Bu++(Fs++(Fq++(Fp++(Fo++(Fm++(Fk++(BI++(BH++(BG++(BF++(BE++(BD++(BC++(BB++(BA++(Bz++(Bw++(Bv++[]))))))))))))))))))))):=by kernel_rfl
theorem jw{α:Type}{f g:Program→List Stmt→OsState→α}(h:f=g)(p:Program)(b:List Stmt)(os:OsState):f p b os=g p b os:=by rw[h]
theorem Gx(w:World):(fun(p:Program) (b:List Stmt) (os:OsState)=>Fast.tw10110043849684766642 Fast.tw14364793385576792824 p w 11 (some (.ref 6)) 1 297 (S2 w os) ⟨(Fast.tw12563942051412417395 Bx en).wrap doneF deadEnd id id,cd b,⟨33,0,33,7⟩,[topFrame p0]⟩)=fun p b os=>some (.next,S3 w os,cd b,⟨44,0,44,8⟩):=byRow2 "special-get-raises" (P:=fun w=>(fun(p:Program) (b:List Stmt) (os:OsState)=>Fast.tw10110043849684766642 Fast.tw14364793385576792824 p w 11 (some (.ref 6)) 1 297 (S2 w os) ⟨(Fast.tw12563942051412417395 Bx en).wrap doneF deadEnd id id,cd b,⟨33,0,33,7⟩,[topFrame p0]⟩)=fun p b os=>some (.next,S3 w os,cd b,⟨44,0,44,8⟩)) DU DS w
theorem Gw(w:World):(fun(p:Program) (b:List Stmt) (os:OsState)=>Fast.tw10110043849684766642 Fast.tw14364793385576792824 p w 11 (some (.ref 6)) 1 225 (S3 w os) ⟨(Fast.tw12563942051412417395 Bu en).wrap doneF deadEnd id id,cd b,⟨44,0,44,8⟩,[topFrame p0]⟩)=fun p b os=>some (.next,S4 w os,cd b,⟨47,0,47,12⟩):=byRow2 "special-get-raises" (P:=fun w=>(fun(p:Program) (b:List Stmt) (os:OsState)=>Fast.tw10110043849684766642 Fast.tw14364793385576792824 p w 11 (some (.ref 6)) 1 225 (S3 w os) ⟨(Fast.tw12563942051412417395 Bu en).wrap doneF deadEnd id id,cd b,⟨44,0,44,8⟩,[topFrame p0]⟩)=fun p b os=>some (.next,S4 w os,cd b,⟨47,0,47,12⟩)) DT DQ w
theorem DN(w:World)(os:OsState):topRun treeTable pg w 11 (some (.ref 6)) (12+(1+(287+(394+(297+(225+(387+(400+(387+(328+(395+(376+(396+(324+(291+(258+(732+(354+(229+(400+(401+(370+(123+(94+2)))))))))))))))))))))))) ⟨boot_heap w.params,⟨[]⟩,boot_drawn,boot_toks,os⟩ (topStub pg)=some ⟨HF w.params,⟨[]⟩,{},1877,os⟩:=by
 refine go_top (by rw[Fast.te15667345088766844465,Fast.te14364793385576792824];exact congrFun (DP w) os) ?_
 rw[← Fast.te11892475500146522536,← Fast.te14364793385576792824]
 refine piece_block (by rw[Fast.te14374325043358763698,Fast.te14364793385576792824,blockOf,Fast.te1066825118222455980];exact congrFun (AM w) os) ?_
 rw[show restOf (behindTheImports pg) en=restOf (DL++_) en from congrArg (restOf · en) E9]
 refine piece_app (up (jw (Gz w) pg _ os)) ?_
 refine piece_app (up (jw (Gy w) pg _ os)) ?_
 refine piece_app (up (jw (Gx w) pg _ os)) ?_
 refine piece_app (up (jw (Gw w) pg _ os)) ?_
 refine piece_app (up (jw (Gv w) pg _ os)) ?_
 refine piece_app (up (jw (Gu w) pg _ os)) ?_
 refine piece_app (up (jw (Gs w) pg _ os)) ?_
 refine piece_app (up (jw (Gq w) pg _ os)) ?_
 refine piece_app (up (jw (Gp w) pg _ os)) ?_
 refine piece_app (up (jw (Gn w) pg _ os)) ?_
 refine piece_app (up (jw (D8 w) pg _ os)) ?_
 refine piece_app (up (jw (D7 w) pg _ os)) ?_
 refine piece_app (up (jw (D6 w) pg _ os)) ?_
 refine piece_app (up (jw (D5 w) pg _ os)) ?_
 refine piece_app (up (jw (D4 w) pg _ os)) ?_
 refine piece_app (up (jw (D3 w) pg _ os)) ?_
 refine piece_app (up (jw (D0 w) pg _ os)) ?_
 refine piece_app (up (jw (DZ w) pg _ os)) ?_
 refine piece_app (up (jw (DY w) pg _ os)) ?_
 refine piece_app (up (jw (DX w) pg _ os)) ?_
 refine piece_app (up (jw (DW w) pg _ os)) ?_
 refine piece_app (up (jw (DV w) pg _ os)) ?_
 refine piece_nil ?_
 rw[Fast.te14082659384304107361,Fast.te14364793385576792824]
 exact congrFun (Ew w) os
theorem y5:∀ w:World,(fun os=>((staticsOk (importedModules pg.main.body) (boot_heap w.params) (HF w.params) && namesBound pg (HF w.params) && gensDone ⟨HF w.params,⟨[]⟩,{},1877,os⟩ && laidKept (boot_heap w.params) (HF w.params)),
    openSeen vq names (importedModules pg.main.body) (fun _=>true) true ⟨HF w.params,⟨[]⟩,{},1877,os⟩,HF w.params))=fun(os:OsState)=>(true,openGood vq names,HF w.params):=by
 intro w;funext os
 rw[Fast.te5923862056798008813,Fast.te4187177175401517315,congrFun (Ca w) os,congrFun (B9 w) os,congrFun (B8 w) os,congrFun (B7 w) os,congrFun (B6 w) os]
 rfl
theorem Cb:LeftO pg vq names (fun _=>true) (fun s=>s.heap) (fun w=>HF w.params) 20000:=
 LeftO.of_pieces (H₀:=boot_heap) (H₁:=HF) (gs₁:=⟨[]⟩) (d₁:={}) (k₁:=1877) (boot_open CT (by decide) Cs) (fun w=>by rw[Fast.te8920871248978507458];exact BJ w) DN (by decide) y5
noncomputable def Ek:Stmt→DefRec
 |.FunctionDef n a b _ _ _ sc _ _ p=>⟨n,a,b,sc,p⟩
 |_=>⟨default,default,default,default,default⟩
noncomputable def dLaw:DefRec:=Ek (at1 163)
theorem an{a b:Bool}(h:a=true)(k:b=true):(a && b)=true:=by rw[h,k];rfl
theorem n1:namesResolve pg=true:=by kernel_rfl
theorem n2:readsOut pg pg.main.body "vars" = false:=by kernel_rfl
theorem n3:readsOut pg pg.main.body "dir" = false:=by kernel_rfl
theorem n4:readsOut pg pg.main.body "locals" = false:=by kernel_rfl
theorem n5:noRoadLSs { strict:=false,foot:=none,bare:=[] } pg.main.body=true:=by kernel_rfl
theorem n6:(namesMeet pg pg.main.body fun _ n=>attrL n)=true:=by kernel_rfl
theorem n7:(["vars","dir","locals"]:List Str).filter (readsOut pg pg.main.body)=[]:=by
 rw[List.filter_cons_of_neg (by rw[n2];exact Bool.false_ne_true),List.filter_cons_of_neg (by rw[n3];exact Bool.false_ne_true),List.filter_cons_of_neg (by rw[n4];exact Bool.false_ne_true)];rfl
theorem n8:(!(importedModules pg.main.body).all cThrough.contains)=false:=by kernel_rfl
theorem n9:looksOpen pg=true:=by
 delta looksOpen
 with_reducible refine an (an (an (an (an ?_ ?_) n1) ?_) ?_) n6
 ·kernel_rfl
 ·kernel_rfl
 ·kernel_rfl
 ·rw[n7,n8];exact n5
theorem GJ:rw_.row.wellSaid=true:=by
 delta OpenRow.wellSaid OpenRow.partSaid
 with_reducible refine an (an (an (an (an (an (an (an (an (an (an (an (an (an (an ?_ ?_) ?_) ?_) ?_) ?_) ?_) ?_) ?_) ?_) ?_) ?_) ?_) ?_) ?_) ?_
 ·exact n9
 all_goals kernel_rfl
theorem GI:noRoadLSs { strict:=true,foot:=some rw_.bound',writes:=rw_.writes,may:=rw_.may } rw_.footing=true:=by kernel_rfl
theorem GH:(rw_.bound'.all fun n=>!builtinNamed n || rw_.about == [n] || !rw_.reads n)=true:=by kernel_rfl
theorem GF:(namesMeet rw_.prog rw_.above fun _ n=>!rw_.own.contains n)=true:=by kernel_rfl
theorem GD:(namesMeet rw_.prog rw_.footing fun sc n=>sc.kind == .module || sc.names.lookup n != some .globalExplicit)=true:=by kernel_rfl
theorem DM:rw_.wellSaid=true:=by
 delta OpenLaw.wellSaid
 with_reducible refine an (an (an (an (an (an (an (an (an (an (an (an (an (an (an (an (an (an GJ ?_) ?_) ?_) ?_) ?_) GI) ?_) ?_) ?_) GH) ?_) ?_) ?_) ?_) ?_) ?_) GF) GD
 all_goals kernel_rfl
noncomputable abbrev vA(l:List Stmt):=TablesWhole.wSs TablesWhole.holds pg.main.scope ⟨pg.main.scope,[],[],[],none⟩ pg.main.scope l
theorem DC{A:TablesWhole.Alg Bool}{t sc:Scope}{cx:TablesWhole.Ctx}(n:Nat)(e:A.both=fun a b=>a && b):∀ l:List Stmt,TablesWhole.wSs A t cx sc (tk l n)=true→TablesWhole.wSs A t cx sc (dr l n)=true→TablesWhole.wSs A t cx sc l=true:=by
 induction n with
 |zero=>intro l h k;cases l with
  |nil=>exact k
  |cons s l=>exact k
 |succ n ih=>intro l;cases l with
  |nil=>intro h k;exact k
  |cons s l=>
   intro h k
   have h':A.both (TablesWhole.wS A t cx sc s) (TablesWhole.wSs A t cx sc (tk l n))=true:=h
   show A.both (TablesWhole.wS A t cx sc s) (TablesWhole.wSs A t cx sc l)=true
   rw[e] at h' ⊢
   have q:=(Bool.and_eq_true _ _).mp h'
   exact an q.1 (ih l q.2 k)
theorem Bo:TablesWhole.wSs TablesWhole.gather pg.main.scope ⟨pg.main.scope,[],[],[],none⟩ pg.main.scope pg.main.body=[]:=by kernel_rfl
theorem t1:vA (tk pg.main.body 60)=true:=by kernel_rfl
theorem t2:vA (tk (dr pg.main.body 60) 40)=true:=by kernel_rfl
theorem t3:vA (tk (dr (dr pg.main.body 60) 40) 40)=true:=by kernel_rfl
theorem t4:vA (dr (dr (dr pg.main.body 60) 40) 40)=true:=by kernel_rfl
theorem DF(m:Module)(h1:TablesWhole.noTwice m.scope=true)(h0:TablesWhole.wSs TablesWhole.gather m.scope ⟨m.scope,[],[],[],none⟩ m.scope m.body=[])(h2:TablesWhole.wSs TablesWhole.holds m.scope ⟨m.scope,[],[],[],none⟩ m.scope m.body=true):TablesWhole.wModule TablesWhole.holds m=true:=by
 show(true && (TablesWhole.noTwice m.scope && (TablesWhole.wSs TablesWhole.holds m.scope ⟨m.scope,[],TablesWhole.wSs TablesWhole.gather m.scope ⟨m.scope,[],[],[],none⟩ m.scope m.body,[],none⟩ m.scope m.body && true)))=true
 rw[h0,h1,h2];rfl
theorem yo:TablesWhole.noTwice pg.main.scope=true:=by kernel_rfl
theorem yi:TablesWhole.wModule TablesWhole.holds pg.main=true:=DF pg.main yo Bo (DC 60 rfl pg.main.body t1 (DC 40 rfl (dr pg.main.body 60) t2 (DC 40 rfl (dr (dr pg.main.body 60) 40) t3 t4)))
theorem DE(p:Program)(h0:TablesWhole.wModule TablesWhole.holds p.main=true)(h1:p.modules=[])(h2:p.parses=[])(h3:p.harvested=[]):p.tablesWhole=true:=by
 show(TablesWhole.wModule TablesWhole.holds p.main && (TablesWhole.holds.all (p.modules.map fun(_,_,m)=>TablesWhole.wModule TablesWhole.holds m) && (TablesWhole.holds.all (p.parses.map (TablesWhole.wParse TablesWhole.holds)) && (TablesWhole.holds.all (p.harvested.map (TablesWhole.wParse TablesWhole.holds)) && true))))=true
 rw[h0,h1,h2,h3];rfl
theorem Bq:pg.tablesWhole=true:=DE pg yi rfl rfl rfl
theorem zF:defOf vq rw_.row.name=some (dLaw,[]):=by kernel_rfl
theorem vB:rw_.row.prog.theDef rw_.row.name=some (dLaw.params,dLaw.body,dLaw.scope):=by kernel_rfl
theorem GO:kwWritten? dLaw.params.kwonlyargs dLaw.params.kw_defaults=some []:=by kernel_rfl
theorem GA:(chainsOk vq && opensWell rw_.row.prog && (frees rw_.row.toRowW && rw_.row.within.isEmpty))=true:=by kernel_rfl
theorem CV:rw_.row.prog.bare:=⟨rfl,rfl,rfl,rfl,rfl,Bq⟩
theorem BO:rw_.row.toRowW.promised:=⟨[.list []],by kernel_rfl,by kernel_rfl⟩
noncomputable abbrev YP(w:World)(h:Heap):Prop:=∀ b o,(HF w.params).get? b=some o→h.get? b=some o
theorem head_(c:WalkO vq names (fun _ _=>True) YP rw_.row.toRowW dLaw [] fun f vs=>PySem.call f vs):rw_.Holds:=
 holds_law DM fun s=>holds_open (Xt:=fun _=>true) (XP:=fun _ _=>True) (Yf:=fun s=>s.heap) (Ya:=fun w=>HF w.params) (YP:=YP) (N:=20000) Cb (fun w s e b o h=>by rw[e];exact h) (fun w h h' y k b o e=>k b o (y b o e)) (fun _ _=>trivial) (fun _ _ _ _ _=>trivial)
  zF vB GO (fun _ _=>recFacts_nil rfl) rfl s GA CV BO c
end MineH
namespace Mine
open PySem
inductive V where
 |none
 |bool (b:Bool)
 |int (i:Int)
 |sym (n:Nat)
 |str (s:Str)
 |tup (l:List V)
 |ref (a:Addr)
 |rng (n:Int)
 |bi (n:Nat)
 |fn (n:Nat)
 |gd
 |arg (l:List V)
deriving Inhabited
inductive O where
 |list (xs:List V)
 |dict (es:List (V×V))
 |inst (c:Nat) (fs:List (Nat×V))
deriving Inhabited
noncomputable def nm:List String:=[
 "inner_kinds","row_level","row_length","check_kind_row","check_named","check_args","may_stand","class_kind","value_kind","array_kind","kind_sort","elem_of",
 "args_of","is_value","close","close_all","get_path","put_path","refs_in","words_for","heap_alloc","find_thing","slot_word","slot_at","read_slot",
 "holds_reference","card_number","store_slot","write_slot","local_place","arg_place","keep_place","heap_place","static_place","field_place","path_of",
 "slots_of","index_of","read_whole","read_place","write_place","start_of","same_place","told_row","tell_wrong","plain_names","method_sig","is_static",
 "arg_kind","item_kind","heap_kind","whole_kind","place_kind","_law_draw","_law_shapes","_law_spots","_law_within","_law_made","_law_put","_law_show",
 "_law_refs","_law_place","_law_write","_law_read","_law_nowhere","_law_astray","_law_turned","_law_apart","_law_copy","_law_first","_law_compare",
 "_law_deed","_law_world","_law_deepest","_law_other","_law_bottoms","_law_settled","law","KindTable","Thing","Heap","PlaceHost","Frame","Starter",
 "KindCloser","Tray","MethodDef","Body","Store","__init__","rows","index","depths","weights","opens","append","row","number","put","get","depth",
 "large","sort","length","place","method","boxed","inner","named","argument","pop","addr","kind","slots","gen","size","serial","things","at","top",
 "limit","cards","card_bits","fresh","young_limit","finals","ready","moved","made","heap","frames","statics","home","locals_","args","keep","mref",
 "body","ip","stack","conts","caught","caughtv","extra","prefix","need","done","failed","ref","store","kt","kin","targets","defaults","unders",
 "by_number","inits","ops","state","told","thrown","calls","held","places","starter","closer","is_a","kinds_of","skinds_of","slot_place","target",
 "default","plain","closed","closed_ref","alloc","wrong","throw_new","push_call","mid","owner","name","access","flags","ngen","gnames","gbounds","ret",
 "params","pnames","pflags","native","maxstack","code","clauses","types","fields_","methods","names","asms","entry","p","numbers","spots","shapes",
 "cells","roots","m","aged","bits","kinds","odd","M","W_EMPTY","W_PLACE","VOID","BOOL","CHAR","I1","U1","I2","U2","I4","U4","I8","U8","NINT",
 "OBJECT","STRING","NULLK","PRIM_END","R_PRIM","R_CLASS","R_VALUE","R_ARRAY","R_BYREF","R_VAR","R_MVAR","R_BOXED","R_ROREF","R_FTN","R_RAW",
 "DEEPEST_KIND","HEAVIEST_KIND","V_REF","V_STRUCT","PL_LOCAL","PL_ARG","PL_HEAP","PL_STATIC","FIRST_ADDRESS","HEAD_WORDS","LEAST_SIZE","KEEP_PLACE",
 "JP_STAY","ST_RUN","ST_WRONG","MF_STATIC","TID_PRIM","_law_ADDRESSES","_law_WORDS","_law_GENS","len","range","tuple","list","str","isinstance","bool"]
noncomputable def dA(l:List Int):V:=.tup (l.map V.int)
noncomputable def gl:List (Option V):=[
 some (.fn 0),some (.fn 1),some (.fn 2),some (.fn 3),some (.fn 4),some (.fn 5),some (.fn 6),some (.fn 7),some (.fn 8),some (.fn 9),some (.fn 10),
 some (.fn 11),some (.fn 12),some (.fn 13),some (.fn 14),some (.fn 15),some (.fn 16),some (.fn 17),some (.fn 18),some (.fn 19),some (.fn 20),some (.fn 21),
 some (.fn 22),some (.fn 23),some (.fn 24),some (.fn 25),some (.fn 26),some (.fn 27),some (.fn 28),some (.fn 29),some (.fn 30),some (.fn 31),some (.fn 32),
 some (.fn 33),some (.fn 34),some (.fn 35),some (.fn 36),some (.fn 37),some (.fn 38),some (.fn 39),some (.fn 40),some (.fn 41),some (.fn 42),some (.fn 43),
 some (.fn 44),some (.fn 45),some (.fn 46),some (.fn 47),some (.fn 48),some (.fn 49),some (.fn 50),some (.fn 51),some (.fn 52),some (.fn 53),some (.fn 54),
 some (.fn 55),some (.fn 56),some (.fn 57),some (.fn 58),some (.fn 59),some (.fn 60),some (.fn 61),some (.fn 62),some (.fn 63),some (.fn 64),some (.fn 65),
 some (.fn 66),some (.fn 67),some (.fn 68),some (.fn 69),some (.fn 70),some (.fn 71),some (.fn 72),some (.fn 73),some (.fn 74),some (.fn 75),some (.fn 76),
 some (.fn 77),some (.fn 78),some (.fn 79),some (.fn 80),some (.fn 81),some (.fn 82),some (.fn 83),some (.fn 84),some (.fn 85),some (.fn 86),some (.fn 87),
 some (.fn 88),Option.none,Option.none,Option.none,Option.none,Option.none,Option.none,Option.none,Option.none,Option.none,Option.none,Option.none,
 Option.none,Option.none,Option.none,Option.none,Option.none,Option.none,Option.none,Option.none,Option.none,Option.none,Option.none,Option.none,
 Option.none,Option.none,Option.none,Option.none,Option.none,Option.none,Option.none,Option.none,Option.none,Option.none,Option.none,Option.none,
 Option.none,Option.none,Option.none,Option.none,Option.none,Option.none,Option.none,Option.none,Option.none,Option.none,Option.none,Option.none,
 Option.none,Option.none,Option.none,Option.none,Option.none,Option.none,Option.none,Option.none,Option.none,Option.none,Option.none,Option.none,
 Option.none,Option.none,Option.none,Option.none,Option.none,Option.none,Option.none,Option.none,Option.none,Option.none,Option.none,Option.none,
 Option.none,Option.none,Option.none,Option.none,Option.none,Option.none,Option.none,Option.none,Option.none,Option.none,Option.none,Option.none,
 Option.none,Option.none,Option.none,Option.none,Option.none,Option.none,Option.none,Option.none,Option.none,Option.none,Option.none,Option.none,
 Option.none,Option.none,Option.none,Option.none,Option.none,Option.none,Option.none,Option.none,Option.none,Option.none,Option.none,Option.none,
 Option.none,Option.none,Option.none,Option.none,Option.none,Option.none,Option.none,Option.none,Option.none,Option.none,Option.none,Option.none,
 Option.none,Option.none,Option.none,Option.none,Option.none,some (.int 2),some (.int 4),some (.int 0),some (.int 1),some (.int 2),some (.int 3),
 some (.int 4),some (.int 5),some (.int 6),some (.int 7),some (.int 8),some (.int 9),some (.int 10),some (.int 11),some (.int 12),some (.int 13),
 some (.int 14),some (.int 16),some (.int 1),some (.int 2),some (.int 3),some (.int 4),some (.int 5),some (.int 6),some (.int 7),some (.int 8),some (.int 9),
 some (.int 10),some (.int 11),some (.int 24),some (.int 4096),some (.int 4),some (.int 5),some (.int 1),some (.int 2),some (.int 3),some (.int 4),
 some (.int 16),some (.int 2),some (.int 3),some (.int (-1)),some (.int (-2)),some (.int 0),some (.int 3),some (.int 1),some (.gd),
 some (dA [0,16,20,24]),some (dA [0,0,0,19,22,23,26,0]),
 some (.tup [dA [2,2,2],dA [0,0,0],dA [1,0,0],dA [1,1,0],dA [1,1,1],dA [2,0,0],dA [2,1,0],dA [2,2,1]]),some (.bi 0),
 some (.bi 1),some (.bi 2),some (.bi 3),some (.bi 4),some (.bi 5),some (.bi 6)]
noncomputable def DA:List Nat:=[
 41,42,43,44,45,46,47,48,49,51,53,54,56,57,59,64,72,73,74,79,82,83,84,85,86,87,88,89,90,94,95,96,97,98,99,100,101,102,103,104,
 105,106,107,117,118,125,126,127,129,131,132,133,134,139,140,141,142,143,144,145,146,147,148,149,150,151,152,153,154,155,156,157,158,
 159,160,161,162,163,40,80,81,93,113,114,115,116,122,123,124,999,999,999,999,999,999,999,999,999,999,999,999,999,999,999,999,999,999,
 999,999,999,999,999,999,999,999,999,999,999,999,999,999,999,999,999,999,999,999,999,999,999,999,999,999,999,999,999,999,999,999,999,
 999,999,999,999,999,999,999,999,999,999,999,999,999,999,999,999,999,999,999,999,999,999,999,999,999,999,999,999,999,999,999,999,999,
 999,999,999,999,999,999,999,999,999,999,999,999,999,999,999,999,999,999,999,999,999,999,999,999,999,999,999,999,999,999,999,999,999,
 999,999,999,999,999,999,999,999,999,999,999,999,999,999,999,999,999,999,999,999,999,999,999,999,999,999,999,999,999,999,999,999,999,
 999,999,999,999,999,999,999,999,999,999,999,999,999,999,999,999,999,999,999,999,999,999,999,999,999,999,999,999,999,999]
inductive Tr where
 |nil
 |node (c n:Nat) (l r:Tr)
noncomputable def Tr.find:Tr→Nat→Nat
 |.nil,_=>269
 |.node c n l r,x=>if x=c then n else if x<c then l.find x else r.find x
noncomputable def rO:List Nat→Nat→Nat
 |[],a=>a
 |c::r,a=>if c<127 then rO r (a * 128+(c+1)) else 0
noncomputable def fZ(x:Str):Nat:=rO x.cps.toList 1
noncomputable def Fx:Tr:=(.node 8446564645999 160 (.node 57398704104 79 (.node 435333077 226 (.node 3880303 151 (.node 27443 221 (.node 25907 220 (.node 241 201 (.node 238 207
 (.node 206 212 .nil .nil) .nil) (.node 25906 218 .nil .nil)) (.node 25913 224 (.node 25909 222 .nil .nil) (.node 27442 219 .nil .nil))) (.node 30065 138
 (.node 27449 225 (.node 27445 223 .nil .nil) (.node 29045 118 .nil .nil)) (.node 3814255 114 (.node 30325 150 .nil .nil) (.node 3814261 99 .nil .nil))))
 (.node 3994485 187 (.node 3946740 157 (.node 3913061 179 (.node 3896175 262 (.node 3895672 77 .nil .nil) .nil) (.node 3945189 211 .nil .nil)) (.node 3963765
 98 (.node 3962993 110 .nil .nil) (.node 3994471 148 .nil .nil))) (.node 410265677 216 (.node 4012787 266 (.node 3995768 96 .nil .nil) (.node 4028529 119
 .nil .nil)) (.node 412246355 217 (.node 410792698 87 .nil .nil) (.node 423211377 80 .nil .nil))))) (.node 496678885 112 (.node 477902957 268 (.node 475853940
 134 (.node 475624179 111 (.node 452207941 215 (.node 448590202 85 .nil .nil) .nil) (.node 475673445 208 .nil .nil)) (.node 477805300 209 (.node 475871092
 199 .nil .nil) (.node 477901562 137 .nil .nil))) (.node 490321637 162 (.node 482097126 146 (.node 479998694 193 .nil .nil) (.node 490320241 129 .nil .nil))
 (.node 492646498 166 (.node 490485606 132 .nil .nil) (.node 496612209 135 .nil .nil)))) (.node 513554933 102 (.node 502903653 145 (.node 501019495 136
 (.node 500740838 128 (.node 498776693 265 .nil .nil) .nil) (.node 502839142 181 .nil .nil)) (.node 511458420 90 (.node 502936431 184 .nil .nil) (.node
 513457638 115 .nil .nil))) (.node 56842382031 240 (.node 53661448038 82 (.node 515651301 159 .nil .nil) (.node 55747765964 229 .nil .nil)) (.node 56842641747
 236 (.node 56842576216 241 .nil .nil) (.node 57155533286 88 .nil .nil)))))) (.node 65745467878 149 (.node 63574897396 210 (.node 61687495401 100 (.node
 61410702068 121 (.node 61171725157 106 (.node 60896802916 175 (.node 57916318535 244 .nil .nil) .nil) (.node 61410604788 161 .nil .nil)) (.node 61433723494
 14 (.node 61418993396 205 .nil .nil) (.node 61439998708 140 .nil .nil))) (.node 62251448937 123 (.node 61995842018 143 (.node 61974870522 200 .nil .nil)
 (.node 62238798964 183 .nil .nil)) (.node 63048432372 156 (.node 63048348537 91 .nil .nil) (.node 63048512371 107 .nil .nil)))) (.node 64923153775 172
 (.node 64363410292 198 (.node 64124482405 127 (.node 63843317109 120 (.node 63826621542 101 .nil .nil) .nil) (.node 64363410277 108 .nil .nil)) (.node
 64677999475 180 (.node 64663173108 94 .nil .nil) (.node 64923152998 104 .nil .nil))) (.node 65728690932 113 (.node 65445343994 126 (.node 65437168742 263
 .nil .nil) (.node 65466546932 206 .nil .nil)) (.node 65745236588 139 (.node 65737079540 203 .nil .nil) (.node 65745238758 158 .nil .nil))))) (.node 7965788124916
 125 (.node 7307284245327 255 (.node 7202057267656 247 (.node 66815014888 176 (.node 66024403828 195 (.node 66016016102 264 .nil .nil) .nil) (.node 7164969198165
 227 .nil .nil)) (.node 7275845838158 231 (.node 7275839611219 237 .nil .nil) (.node 7307256833992 228 .nil .nil))) (.node 7863516607333 173 (.node 7795872741349
 95 (.node 7792355818100 182 .nil .nil) (.node 7860576204021 141 .nil .nil)) (.node 7895999411444 92 (.node 7863516607347 165 .nil .nil) (.node 7963630334821
 147 .nil .nil)))) (.node 8308576007284 190 (.node 8205245249637 105 (.node 8001462973300 185 (.node 7968176976756 130 .nil .nil) (.node 8170872912617 103
 .nil .nil)) (.node 8243885175667 97 (.node 8238531263462 191 .nil .nil) (.node 8307246413684 188 .nil .nil))) (.node 8411399500141 116 (.node 8310700618612
 189 (.node 8310163583860 163 .nil .nil) (.node 8311782634873 144 .nil .nil)) (.node 8444685464437 170 (.node 8412169270132 204 .nil .nil) (.node 8446545753204
 117 .nil .nil))))))) (.node 16927794555738830821 49 (.node 121459361661166165 245 (.node 1015323521726567 11 (.node 931309842295622 233 (.node 931304503141189
 238 (.node 921863344726353 248 (.node 895612527927642 254 (.node 8482505472500 154 .nil .nil) .nil) (.node 931304240898394 234 .nil .nil)) (.node 931304764910164
 232 (.node 931304524014407 235 .nil .nil) (.node 931308798010183 239 .nil .nil))) (.node 997938043566183 12 (.node 953295536679642 213 (.node 936432499520371
 83 .nil .nil) (.node 953298487124550 214 .nil .nil)) (.node 1006526372066164 194 (.node 1006153754114807 142 .nil .nil) (.node 1010685200676597 171 .nil
 .nil)))) (.node 1077169987875699 164 (.node 1055217302485492 202 (.node 1046212364696160 133 (.node 1023778718741236 186 (.node 1019618487007840 196 .nil
 .nil) .nil) (.node 1050271391953652 197 .nil .nil)) (.node 1072257889219951 18 (.node 1063328092272743 35 .nil .nil) (.node 1076898871914869 23 .nil .nil)))
 (.node 117998509219717453 246 (.node 1080919739448052 152 (.node 1077169991889524 131 .nil .nil) (.node 1094248902064884 93 .nil .nil)) (.node 119722546411349960
 256 (.node 118024141886564293 230 .nil .nil) (.node 120236192283551054 258 .nil .nil))))) (.node 14901803476554183527 86 (.node 133326223225403495 167
 (.node 129367705686604532 153 (.node 127736064232830949 48 (.node 126583576305892213 58 (.node 126526674184269920 89 .nil .nil) .nil) (.node 127736070142539765
 109 .nil .nil)) (.node 132221970232653927 37 (.node 131057036035668713 16 .nil .nil) (.node 132243793181899622 13 .nil .nil))) (.node 137877758447990887
 41 (.node 136193954360638185 17 (.node 134417286386201196 192 .nil .nil) (.node 137843055647012967 36 .nil .nil)) (.node 14759913555320436454 78 (.node
 138419092324153464 43 .nil .nil) (.node 14884258940145984836 257 .nil .nil)))) (.node 16202697767158133748 60 (.node 16202697767128773477 71 (.node 16202697767067428820
 261 (.node 15121833170917145205 81 (.node 15103809421980296516 249 .nil .nil) .nil) (.node 16202697767126841594 68 .nil .nil)) (.node 16202697767147582182
 57 (.node 16202697767128985976 53 .nil .nil) (.node 16202697767158133093 63 .nil .nil))) (.node 16484809807744383732 122 (.node 16350216223150617190 30
 (.node 16202697767160281208 59 .nil .nil) (.node 16426179799230772083 155 .nil .nil)) (.node 16847275223292753893 50 (.node 16490989580092749549 15 .nil
 .nil) (.node 16927205429281125732 47 .nil .nil)))))) (.node 2248684896176681268966 38 (.node 2073945314195467301747 74 (.node 17933842993213208691 19 (.node
 17573576839591228269 1 (.node 17432822064793302765 178 (.node 17205416368056874981 6 (.node 17065756567524882933 10 .nil .nil) .nil) (.node 17567850751371999349
 24 .nil .nil)) (.node 17643911117499283941 22 (.node 17643321574441891943 168 .nil .nil) (.node 17713729940456469368 177 .nil .nil))) (.node 1895872826217241685446
 252 (.node 1886651693159976837702 253 (.node 1858979272474926310100 251 .nil .nil) (.node 1889268934499880481651 84 .nil .nil)) (.node 2073945314191700703733
 67 (.node 2073945314188946891476 260 .nil .nil) (.node 2073945314193028479605 69 .nil .nil)))) (.node 2138299980459164743656 21 (.node 2092833878114628712421
 9 (.node 2073945314197604464357 72 (.node 2073945314196532771572 55 (.node 2073945314195718845030 61 .nil .nil) .nil) (.node 2073945314197610609382 62
 .nil .nil)) (.node 2110838785433581303781 7 (.node 2110552736213600367732 5 .nil .nil) (.node 2110846666253210022759 174 .nil .nil))) (.node 2184123596493198766694
 31 (.node 2156451228582820754022 32 (.node 2156451228578794403940 20 .nil .nil) (.node 2166687902427986522726 267 .nil .nil)) (.node 2230742551062912874469
 52 (.node 2202578750178345170280 46 .nil .nil) (.node 2248684896174810378854 39 .nil .nil))))) (.node 280840493189369609892454 29 (.node 265465000216538535227770
 65 (.node 2267137867884271515624 44 (.node 2258420623038022726246 169 (.node 2257626797633001009766 42 (.node 2249417835467660475113 2 .nil .nil) .nil)
 (.node 2258997075195843016821 27 .nil .nil)) (.node 2295025845826511091685 51 (.node 2285296421363949156325 8 .nil .nil) (.node 2295743079251558758517
 28 .nil .nil))) (.node 270087123890499506205555 26 (.node 265465000217191902868325 66 (.node 265465000217154017850228 54 .nil .nil) (.node 265465000217291764954479
 56 .nil .nil)) (.node 273701753505297204818534 34 (.node 270150750235344301175653 4 .nil .nil) (.node 277290289866901682909940 0 .nil .nil)))) (.node 33979520027773970459245030
 64 (.node 29853091233947038279444421 242 (.node 293855114144198715552358 40 (.node 285535049953335775572852 45 .nil .nil) (.node 296189488591746721625461
 124 .nil .nil)) (.node 33979520027725589279980006 70 (.node 33979520027721193121134452 75 .nil .nil) (.node 33979520027729641581689461 73 .nil .nil)))
 (.node 3898562263654650824606525381 243 (.node 37011279099184069968704102 33 (.node 33979520027795616314389349 76 .nil .nil) (.node 3860501143531416602411117140
 250 .nil .nil)) (.node 566547186157551118267717580920 3 (.node 556720456131781708359625155412 259 .nil .nil) (.node 74120069799254584586236333912678 25
 .nil .nil))))))))
noncomputable def ix(x:Str):Nat:=Fx.find (fZ x)
noncomputable def NT:Nat:=269
inductive E where
 |bad
 |k (v:V)
 |x (i:Nat)
 |bin (op:Operator) (a b:E)
 |neg (a:E)
 |not (a:E)
 |bl (op:BoolOp) (l:List E)
 |ite (t a b:E)
 |cmp (a:E) (op:CmpOp) (b:E)
 |cmp2 (a:E) (op:CmpOp) (b:E) (op2:CmpOp) (c:E)
 |tup (l:List E)
 |lst (l:List E)
 |dct (ks vs:List E)
 |att (o:E) (n:Nat)
 |idx (o i:E)
 |slc (o lo hi:E)
 |slcL (o lo:E)
 |slcH (o hi:E)
 |rev (o:E)
 |mth (o:E) (m:Nat) (as:List E)
 |call (f:E) (as:List E)
 |comp (e:E) (t:List Nat) (it:E) (ifs:List E)
deriving Inhabited
inductive Tg where
 |bad
 |v (i:Nat)
 |v2 (i j:Nat)
 |att (o:E) (n:Nat)
 |idx (o i:E)
inductive C where
 |bad
 |ex (e:E)
 |ret (e:E)
 |set (t:Tg) (e:E)
 |augV (i:Nat) (op:Operator) (e:E)
 |augA (o:E) (n:Nat) (op:Operator) (e:E)
 |ite (t:E) (a b:List C)
 |wh (t:E) (b:List C)
 |for_ (t:List Nat) (it:E) (b:List C)
deriving Inhabited
inductive cQ where
 |loc (i:Nat)
 |gl (v:V)
 |no
noncomputable def ij(x:Str):cQ:=match gl.getD (ix x) Option.none with | some v=>.gl v | Option.none=>.no
noncomputable def aY(sc:Scope):List (Nat×NameKind):=sc.names.map fun p=>(fZ p.1,p.2)
noncomputable def fD:List (Nat×NameKind)→Nat→Nat→Option (Nat×NameKind)
 |[],_,_=>Option.none
 |p::r,c,i=>if p.1=c then some (i,p.2) else fD r c (i+1)
noncomputable def hO(ns:List (Nat×NameKind))(x:Str):cQ:=if fZ x=0 then .no else match fD ns (fZ x) 0 with
 |some (_,.globalImplicit)=>ij x
 |some (_,.globalExplicit)=>.no
 |some (i,_)=>.loc i
 |Option.none=>.no
noncomputable def cR(ns:List (Nat×NameKind))(r:Str→cQ)(x:Str):cQ:=if fZ x=0 then .no else match fD ns (fZ x) 0 with
 |some (_,.globalImplicit)=>ij x
 |some (i,.local)=>.loc (100+i)
 |some (_,.free)=>r x
 |_=>.no
noncomputable def pE:Const→E
 |.none=>.k .none
 |.bool b=>.k (.bool b)
 |.int i=>.k (.int i)
 |.str s=>if ix s<NT then .k (.sym (ix s)) else .bad
 |_=>.bad
noncomputable def jv(r:Str→cQ):Expr→List Nat
 |.Name x _=>(match r x with | .loc i=>[i] | _=>[])
 |.Tuple [.Name x _,.Name y _] _ _=>(match r x,r y with | .loc i,.loc j=>[i,j] | _,_=>[])
 |_=>[]
mutual
noncomputable def cE:Expr→(Str→cQ)→E
 |.Constant c _ _,_=>pE c
 |.Name x _,r=>(match r x with | .loc i=>.x i | .gl v=>.k v | .no=>.bad)
 |.BinOp a op b _,r=>.bin op (cE a r) (cE b r)
 |.UnaryOp .Not a _,r=>.not (cE a r)
 |.UnaryOp .USub a _,r=>.neg (cE a r)
 |.BoolOp op l _,r=>.bl op (qH l r)
 |.IfExp t a b _,r=>.ite (cE t r) (cE a r) (cE b r)
 |.Compare a [op] [b] _,r=>.cmp (cE a r) op (cE b r)
 |.Compare a [op,op2] [b,c] _,r=>.cmp2 (cE a r) op (cE b r) op2 (cE c r)
 |.Tuple l _ _,r=>.tup (qH l r)
 |.List l _,r=>.lst (qH l r)
 |.Dict ks vs _,r=>.dct (Dw ks r) (qH vs r)
 |.Attribute o x _,r=>.att (cE o r) (ix x)
 |.Subscript o (.Slice (some a) (some b) Option.none _) _,r=>.slc (cE o r) (cE a r) (cE b r)
 |.Subscript o (.Slice (some a) Option.none Option.none _) _,r=>.slcL (cE o r) (cE a r)
 |.Subscript o (.Slice Option.none (some b) Option.none _) _,r=>.slcH (cE o r) (cE b r)
 |.Subscript o (.Slice Option.none Option.none (some (.UnaryOp .USub (.Constant (.int 1) _ _) _)) _) _,r=>.rev (cE o r)
 |.Subscript _ (.Slice _ _ _ _) _,_=>.bad
 |.Subscript o i _,r=>.idx (cE o r) (cE i r)
 |.Call (.Attribute o x _) as [] _,r=>.mth (cE o r) (ix x) (qH as r)
 |.Call f as [] _,r=>.call (cE f r) (qH as r)
 |.ListComp e gs csc _,r=>cG gs csc r (cE e (cR (aY csc) r))
 |_,_=>.bad
noncomputable def qH:List Expr→(Str→cQ)→List E
 |[],_=>[]
 |e::l,r=>cE e r::qH l r
noncomputable def Dw:List (Option Expr)→(Str→cQ)→List E
 |[],_=>[]
 |some e::l,r=>cE e r::Dw l r
 |Option.none::l,r=>.bad::Dw l r
noncomputable def cG:List Comprehension→Scope→(Str→cQ)→E→E
 |[⟨t,it,ifs,_⟩],csc,r,e=>.comp e (jv (cR (aY csc) r) t) (cE it r) (qH ifs (cR (aY csc) r))
 |_,_,_,_=>.bad
end
noncomputable def cT(r:Str→cQ):Expr→Tg
 |.Name x p=>(match jv r (.Name x p) with | [i]=>.v i | _=>.bad)
 |.Tuple l k p=>(match jv r (.Tuple l k p) with | [i,j]=>.v2 i j | _=>.bad)
 |.Attribute o x _=>.att (cE o r) (ix x)
 |.Subscript _ (.Slice _ _ _ _) _=>.bad
 |.Subscript o i _=>.idx (cE o r) (cE i r)
 |_=>.bad
mutual
noncomputable def cS:Stmt→(Str→cQ)→C
 |.Expr e _,r=>.ex (cE e r)
 |.Return (some e) _,r=>.ret (cE e r)
 |.Assign [t] e _,r=>.set (cT r t) (cE e r)
 |.AugAssign (.Name x _) op e _,r=>(match r x with | .loc i=>.augV i op (cE e r) | _=>.bad)
 |.AugAssign (.Attribute o x _) op e _,r=>.augA (cE o r) (ix x) op (cE e r)
 |.If t a b _,r=>.ite (cE t r) (mD a r) (mD b r)
 |.While t b [] _,r=>.wh (cE t r) (mD b r)
 |.For t it b [] _,r=>.for_ (jv r t) (cE it r) (mD b r)
 |_,_=>.bad
noncomputable def mD:List Stmt→(Str→cQ)→List C
 |[],_=>[]
 |s::l,r=>cS s r::mD l r
end
noncomputable abbrev pw:=PySem.Challenge.pw_xm0296_01
structure FD where
 params:List Str
 body:List Stmt
 scope:Scope
deriving Inhabited
noncomputable def wT:Stmt→Option FD
 |.FunctionDef _ args body _ _ _ sc _ _ _=>some ⟨args.args.map (·.arg),body,sc⟩
 |_=>Option.none
noncomputable def yL(c:Nat):Stmt→Bool
 |.FunctionDef n ..=>fZ n == c
 |.ClassDef n ..=>fZ n == c
 |_=>false
noncomputable def E1:Stmt→List Stmt
 |.ClassDef _ _ _ body _ _ _ _ _ _ _=>body
 |_=>[]
noncomputable def DJ:Stmt→List Str
 |.ClassDef _ _ _ _ _ _ _ _ _ st _=>st
 |_=>[]
noncomputable def GS(f:Nat):Option FD:=(pw.main.body[DA.getD f 999]?).bind wT
noncomputable def xI(c:Nat):List Stmt→Option Stmt
 |[]=>Option.none
 |s::r=>if yL c s then some s else xI c r
noncomputable def GK(c f:Nat):Option FD:=(pw.main.body[DA.getD c 999]?).bind fun s=>(xI (fZ (Str.ofString (nm.getD f ""))) (E1 s)).bind wT
noncomputable def Dz(c:Nat):List Nat:=((pw.main.body[DA.getD c 999]?).map fun s=>(DJ s).map ix).getD []
structure Fn where
 ps:List Nat
 body:List C
noncomputable def CE(d:FD):List (Nat×NameKind)→Fn:=fun ns=>⟨d.params.map fun x=>((fD ns (fZ x) 0).map (·.1)).getD 99,mD d.body (hO ns)⟩
noncomputable def FD.fn(d:FD):Fn:=CE d (aY d.scope)
noncomputable abbrev H:=Addr→Option O
noncomputable def H.set(Z:H)(a:Addr)(o:O):H:=fun b=>if b=a then some o else Z b
noncomputable def Env:=Nat→Option V
noncomputable def Env.set(U:Env)(i:Nat)(v:V):Env:=fun j=>if j=i then some v else U j
noncomputable def Env.outer(U:Env):Env:=fun j=>if j<100 then U j else Option.none
noncomputable def Env.nil:Env:=fun za=>Option.none
noncomputable def bM:Nat:=100000
mutual
noncomputable def dJ:V→V→Bool
 |.none,.none=>true
 |.int a,.int b=>decide (a=b)
 |.sym a,.sym b=>decide (a=b)
 |.tup l,.tup m=>mS l m
 |_,_=>false
noncomputable def mS:List V→List V→Bool
 |[],[]=>true
 |a::l,b::m=>dJ a b && mS l m
 |_,_=>false
end
mutual
noncomputable def pv:Nat→V→Bool
 |_,.none=>true
 |_,.int _=>true
 |_,.sym n=>decide (n<NT)
 |n+1,.tup l=>yB n l
 |_,_=>false
noncomputable def yB:Nat→List V→Bool
 |_,[]=>true
 |n,a::l=>pv n a && yB n l
end
mutual
noncomputable def hk:Nat→V→Bool
 |_,.int _=>true
 |_,.sym n=>decide (n<NT)
 |n+1,.tup l=>tT n l
 |_,_=>false
noncomputable def tT:Nat→List V→Bool
 |_,[]=>true
 |n,a::l=>hk n a && tT n l
end
noncomputable def key(v:V):Bool:=hk 4 v
noncomputable def mK:V→Nat
 |.int _=>1
 |.sym _=>2
 |.tup _=>3
 |_=>0
noncomputable def be(es:List (V×V))(k:V):Bool:=key k && (match es with | []=>true | e::_=>mK e.1 == mK k)
noncomputable def rG(es:List (V×V)):Bool:=es.all fun e=>be es e.1
noncomputable def aJ:List (V×V)→V→Option V
 |[],_=>Option.none
 |e::es,k=>if dJ e.1 k then some e.2 else aJ es k
noncomputable def bJ:List (V×V)→V→V→List (V×V)
 |[],k,v=>[(k,v)]
 |e::es,k,v=>if dJ e.1 k then(e.1,v)::es else e::bJ es k v
noncomputable def dK:List (Nat×V)→Nat→Option V
 |[],_=>Option.none
 |e::fs,x=>if e.1=x then some e.2 else dK fs x
noncomputable def cZ:List (Nat×V)→Nat→V→List (Nat×V)
 |[],x,v=>[(x,v)]
 |e::fs,x,v=>if e.1=x then(e.1,v)::fs else e::cZ fs x v
noncomputable def cy(n:Nat):Str:=Str.ofString (nm.getD n "")
mutual
noncomputable def gO:V→PyData
 |.int i=>.int i
 |.sym n=>.str (cy n)
 |.tup l=>.tuple (fV l)
 |_=>.none
noncomputable def fV:List V→List PyData
 |[]=>[]
 |a::l=>gO a::fV l
end
noncomputable def kE(Z:H):Nat→V→Option PyData
 |n+1,.ref a=>match Z a with
  |some (.list xs)=>(xs.mapM (kE Z n)).map PyData.list
  |_=>Option.none
 |_,x=>if pv 30 x then some (gO x) else Option.none
noncomputable def nh(Z:H)(x y:V):Prop:=∃ d,kE Z 6 x=some d∧kE Z 6 y=some d
noncomputable def ga(Z:H):List (V×V)→List (V×V)→Prop
 |[],[]=>True
 |e::es,f::fs=>e.1=f.1∧(∃ i,e.1=.int i)∧nh Z e.2 f.2∧ga Z es fs
 |_,_=>False
noncomputable def zC(Z:H)(x y:V)(b:Bool):Prop:=match x,y with
 |.ref p,.ref q=>b=true∧(nh Z (.ref p) (.ref q)∨∃ es fs,Z p=some (.dict es)∧Z q=some (.dict fs)∧ga Z es fs)
 |.bool p,.bool q=>b=(p == q)
 |x,y=>(pv 30 x && pv 30 y)=true∧b=dJ x y
noncomputable def um:CmpOp→Int→Int→Option Bool
 |.Lt,a,b=>some (decide (a<b))
 |.LtE,a,b=>some (decide (a≤b))
 |.Gt,a,b=>some (decide (b<a))
 |.GtE,a,b=>some (decide (b≤a))
 |_,_,_=>Option.none
noncomputable def pj:V→Bool
 |.none=>true
 |_=>false
noncomputable def gU:List Int:=[20,9,10,11,12,13,14,15,16,17,18,19,1,4]
noncomputable def Bg(Z:H):V→V→Option Bool
 |k,.ref b=>match Z b with
  |some (.dict es)=>if be es k then some (aJ es k).isSome else Option.none
  |_=>Option.none
 |.int i,.gd=>some (gU.contains i)
 |_,_=>Option.none
noncomputable def ze:V→Option Bool
 |.none=>some true
 |.bi _=>Option.none
 |_=>some false
noncomputable def eg(Z:H)(op:CmpOp)(a b:V)(c:Bool):Prop:=match op with
 |.Is=>b=.none∧ze a=some c
 |.IsNot=>b=.none∧ze a=some (!c)
 |.Eq=>zC Z a b c
 |.NotEq=>zC Z a b (!c)
 |.In=>Bg Z a b=some c
 |.NotIn=>Bg Z a b=some (!c)
 |op=>∃ x y,a=.int x∧b=.int y∧um op x y=some c
noncomputable abbrev aP:=V→H→Prop
noncomputable def gf(o:O)(Q:aP)(Z:H):Prop:=∀ a,Z a=Option.none→Q (.ref a) (Z.set a o)
noncomputable def j0(a b:V)(k:Int→Int→Prop):Prop:=match a with
 |.int x=>(match b with | .int y=>k x y | _=>False)
 |_=>False
theorem fF{a b:V}{k:Int→Int→Prop}(h:j0 a b k):∃ x y,a=.int x∧b=.int y∧k x y:=by
 induction a using V.casesOn with
 |int x=>induction b using V.casesOn with
  |int y=>exact⟨x,y,rfl,rfl,h⟩
  |_=>exact False.elim h
 |_=>exact False.elim h
noncomputable def w9(op:Operator)(a b:V)(Q:aP)(Z:H):Prop:=match op with
 |.Add=>(match a with
  |.int x=>(match b with | .int y=>Q (.int (x+y)) Z | _=>False)
  |.sym _=>(match b with | .str y=>y.cps.size≤5∧Q (.str ⟨y.cps.push 0⟩) Z | _=>False)
  |.tup x=>(match b with | .tup y=>(x.length+y.length≤bM)∧Q (.tup (x++y)) Z | _=>False)
  |.ref x=>(match b with | .ref y=>∃ xs ys,Z x=some (.list xs)∧Z y=some (.list ys)∧(xs.length+ys.length≤bM)∧gf (.list (xs++ys)) Q Z | _=>False)
  |_=>False)
 |.Sub=>j0 a b fun x y=>Q (.int (x - y)) Z
 |.Mult=>(match a with
  |.int x=>(match b with | .int y=>(x.natAbs<2 ^ 40∧y.natAbs<2 ^ 40)∧Q (.int (x * y)) Z | _=>False)
  |.tup l=>(match l with | [x]=>(match b with | .int y=>y=2∧Q (.tup [x,x]) Z | _=>False) | _=>False)
  |_=>False)
 |.FloorDiv=>j0 a b fun x y=>(0<y∧y<2 ^ 30)∧Q (.int (x / y)) Z
 |.Mod=>j0 a b fun x y=>0<y∧Q (.int (x % y)) Z
 |.Pow=>j0 a b fun x y=>(x=2∧0≤y∧y<32)∧Q (.int (2 ^ y.toNat)) Z
 |.RShift=>j0 a b fun x y=>(0≤x∧0≤y∧y<32)∧Q (.int (x / 2 ^ y.toNat)) Z
 |.BitAnd=>j0 a b fun x y=>(x=1∧y=1)∧Q (.int 1) Z
 |_=>False
noncomputable def kW(k:V):Option O→Option V
 |some (.list xs)=>(match k with | .int i=>if 0≤i then xs[i.toNat]? else Option.none | _=>Option.none)
 |some (.dict es)=>if be es k then aJ es k else Option.none
 |_=>Option.none
noncomputable def bE(Z:H):V→V→Option V
 |.tup l,.int i=>if 0≤i then l[i.toNat]? else Option.none
 |.ref a,k=>kW k (Z a)
 |_,_=>Option.none
noncomputable def sG(Z:H)(a:Addr)(k v:V):Option O→Option H
 |some (.list xs)=>(match k with | .int i=>if 0≤i∧i<xs.length then some (Z.set a (.list (xs.set i.toNat v))) else Option.none | _=>Option.none)
 |some (.dict es)=>if be es k∧es.length<bM then some (Z.set a (.dict (bJ es k v))) else Option.none
 |_=>Option.none
noncomputable def eU(Z:H):V→V→V→Option H
 |.ref a,k,v=>sG Z a k v (Z a)
 |_,_,_=>Option.none
noncomputable abbrev aO:=Option Nat→Nat→List V→aP→H→Prop
noncomputable def bq(Z:H):V→Option (List V)
 |.tup l=>some l
 |.rng n=>some ((List.range n.toNat).map fun(i:Nat)=>V.int (i:Int))
 |.ref a=>match Z a with
  |some (.list xs)=>some xs
  |_=>Option.none
 |_=>Option.none
noncomputable def sQ:V→Prop
 |.rng n=>n≤1000
 |_=>True
noncomputable def cN:List Nat→V→Env→Option Env
 |[i],v,U=>some (U.set i v)
 |[i,j],.tup [v,u],U=>some ((U.set i v).set j u)
 |_,_,_=>Option.none
noncomputable def db(c:Nat):Bool:=decide (78≤c) && decide (c<89)
noncomputable def gJ(c:Nat):Bool:=!(c == 83 || c == 84)
noncomputable def oh:V→Bool
 |.fn _=>true
 |.bi _=>true
 |_=>false
noncomputable def Be(vs:List V)(k:V→Prop):Prop:=match vs with
 |[]=>False
 |v::l=>(match l with
  |[]=>k v
  |_::_=>False)
theorem jS{vs:List V}{k:V→Prop}(h:Be vs k):∃ v,vs=[v]∧k v:=by
 induction vs using List.casesOn with
 |nil=>exact False.elim h
 |cons v l=>induction l using List.casesOn with
  |nil=>exact⟨v,rfl,h⟩
  |cons _ _=>exact False.elim h
noncomputable def xd(n:Nat)(vs:List V)(Q:aP)(Z:H):Prop:=match n with
 |0=>Be vs fun v=>(match v with
  |.tup l=>Q (.int l.length) Z
  |.ref a=>∃ xs,Z a=some (.list xs)∧Q (.int xs.length) Z
  |_=>False)
 |1=>Be vs fun v=>∃ n,v=.int n∧(0≤n∧n<2 ^ 40)∧Q (.rng n) Z
 |2=>Be vs fun v=>(match v with
  |.tup l=>Q (.tup l) Z
  |.ref a=>∃ xs,Z a=some (.list xs)∧Q (.tup xs) Z
  |_=>False)
 |3=>Be vs fun v=>∃ l,v=.tup l∧gf (.list l) Q Z
 |4=>Be vs fun v=>∃ n,v=.int n∧(0≤n∧n<10)∧Q (.str Str.empty) Z
 |5=>∃ b,vs=[.bool b,.bi 6]∧Q (.bool true) Z
 |_=>False
noncomputable def fK(C:aO)(f:V)(vs:List V)(Q:aP)(Z:H):Prop:=match f with
 |.fn x=>if db x then
   (if gJ x then ∀ a,Z a=Option.none→C (some x) 89 (.ref a::vs) (fun r Z'=>pj r=true∧Q (.ref a) Z') (Z.set a (.inst x []))
    else vs=[]∧gf (.inst x []) Q Z)
  else C Option.none x vs Q Z
 |.bi n=>xd n vs Q Z
 |_=>False
inductive MK where
 |tup
 |list
 |dict
 |inst (c:Nat)
noncomputable def fC(Z:H):V→Option MK
 |.tup _=>some .tup
 |.ref a=>(match Z a with
  |some (.list _)=>some .list
  |some (.dict _)=>some .dict
  |some (.inst c _)=>some (.inst c)
  |_=>Option.none)
 |_=>Option.none
noncomputable def xC(C:aO)(k:MK)(o:V)(name:Nat)(vs:List V)(Q:aP)(Z:H):Prop:=match k with
 |.tup=>name=91∧(match o,vs with
   |.tup l,[.int i]=>∃ (is:List Int) (j:Nat),l=is.map V.int∧is.findIdx? (fun x=>x == i)=some j∧Q (.int j) Z
   |_,_=>False)
 |.list=>(match o with
  |.ref a=>∃ xs,Z a=some (.list xs)∧(match vs with
    |[v]=>name=95∧xs.length<bM∧Q .none (Z.set a (.list (xs++[v])))
    |[]=>name=110∧∃ v,xs.getLast? = some v∧Q v (Z.set a (.list xs.dropLast))
    |_=>False)
  |_=>False)
 |.dict=>name=99∧(match o with
  |.ref a=>∃ es,Z a=some (.dict es)∧(match vs with
    |[k]=>be es k=true∧Q ((aJ es k).getD .none) Z
    |[k,d]=>be es k=true∧Q ((aJ es k).getD d) Z
    |_=>False)
  |_=>False)
 |.inst c=>C (some c) name (o::vs) Q Z
noncomputable def dH:List (V×V)→List (V×V)→List (V×V)
 |acc,[]=>acc
 |acc,e::r=>dH (bJ acc e.1 e.2) r
noncomputable def ou:List (Nat×List Nat):=[(78,[90,91,92,93,94]),(79,[111,112,113,114,115,116]),(80,[117,118,119,120,121,122,123,124,125,126,127,128]),(81,[129,130,131]),(82,[97,136,137,138,134,133,139,140,141,142,135,102,132,143,144]),(85,[149,150,129,151,90,152,153,154,130,155,131,156,157,158,159,160,161,162,163,164,165]),(86,[179,180,181,182,183,184,185,186,187,188,189,190,137,191]),(87,[133,192,193,194]),(88,[150,195,196,197,198,199,200])]
noncomputable def bo(c:Nat):List Nat:=(ou.lookup c).getD []
noncomputable def fR:List (Nat×Nat):=[(78,96),(78,98),(84,112),(85,167),(85,168),(85,172),(85,173),(85,176),(78,89),(79,89),(80,89),(81,89),(82,89),(85,89),(86,89),(87,89),(88,89)]
noncomputable def fq:MK→Nat→Bool
 |.tup,m=>m == 91
 |.list,m=>m == 95 || m == 110
 |.dict,m=>m == 99
 |.inst c,m=>fR.contains (c,m) && m != 89
noncomputable def cV(Z:H)(o:V)(x:Nat):Option V:=match o with
 |.ref a=>(match Z a with
  |some (.inst c fs)=>if(bo c).contains x then dK fs x else Option.none
  |_=>Option.none)
 |_=>Option.none
noncomputable def dg(Z:H)(o:V)(x:Nat)(v:V):Option H:=match o with
 |.ref a=>(match Z a with
  |some (.inst c fs)=>if(bo c).contains x then some (Z.set a (.inst c (cZ fs x v))) else Option.none
  |_=>Option.none)
 |_=>Option.none
inductive Fl where
 |next
 |ret (v:V)
noncomputable abbrev bL:=Fl→Env→H→Prop
noncomputable def im(live:H→Prop)(bind:V→Option Env)(tests:Env→(Bool→H→Prop)→H→Prop)(elt:Env→aP→H→Prop):List V→List V→(List V→H→Prop)→H→Prop
 |[],acc,K,Z=>K acc Z
 |x::xs,acc,K,Z=>∃ U',bind x=some U'∧tests U' (fun b Zq=>(b=true→elt U' (fun v Zr=>live Zr∧im live bind tests elt xs (acc++[v]) K Zr) Zq)∧
   (b=false→live Zq∧im live bind tests elt xs acc K Zq)) Z
noncomputable def me(live:H→Prop)(bind:V→Env→Option Env)(body:Env→bL→H→Prop):List V→Env→bL→H→Prop
 |[],U,Q,Z=>Q .next U Z
 |x::xs,U,Q,Z=>∃ U',bind x U=some U'∧body U' (fun f U'' Z'=>match f with
   |.next=>live Z'∧me live bind body xs U'' Q Z'
   |.ret v=>Q (.ret v) U'' Z') Z
noncomputable def iA(test:Env→(Bool→H→Prop)→H→Prop)(body:Env→bL→H→Prop):Nat→Env→bL→H→Prop
 |0,_,_,_=>False
 |n+1,U,Q,Z=>test U (fun b Zq=>(b=true→body U (fun f U' Zr=>match f with
   |.next=>iA test body n U' Q Zr
   |.ret v=>Q (.ret v) U' Zr) Zq)∧(b=false→Q .next U Zq)) Z
noncomputable def Bf:List (aP→H→Prop)→List (aP→H→Prop)→(List (V×V)→H→Prop)→H→Prop
 |[],[],Q,Z=>Q [] Z
 |k::ks,e::es,Q,Z=>k (fun k' Zq=>e (fun v Zr=>Bf ks es (fun r Za=>Q ((k',v)::r) Za) Zr) Zq) Z
 |_,_,_,_=>False
noncomputable def EZ(_ _ _:V)(_:aP)(_:H):Prop:=False
noncomputable def uh(a l:V)(Q:aP)(Z:H):Prop:=match a,l with
 |.tup s,.int i=>(0≤i∧i<2 ^ 40)∧Q (.tup (s.drop i.toNat)) Z
 |_,_=>False
noncomputable def ui(a h:V)(Q:aP)(Z:H):Prop:=match a,h with
 |.tup s,.int j=>(0≤j∧j<2 ^ 40)∧Q (.tup (s.take j.toNat)) Z
 |.ref p,.int j=>∃ xs,Z p=some (.list xs)∧(0≤j∧j<2 ^ 40)∧gf (.list (xs.take j.toNat)) Q Z
 |.arg xs,.int j=>(0≤j∧j<2 ^ 40)∧gf (.list (xs.take j.toNat)) Q Z
 |_,_=>False
noncomputable def sT(a:V)(Q:aP)(Z:H):Prop:=match a with
 |.ref p=>∃ xs,Z p=some (.list xs)∧gf (.list xs.reverse) Q Z
 |_=>False
noncomputable def BS(a:V)(Q:aP)(Z:H):Prop:=match a with
 |.int i=>Q (.int (-i)) Z
 |_=>False
noncomputable def xx(Q:Bool→H→Prop):aP:=fun v Z=>match v with
 |.bool b=>Q b Z
 |_=>False
mutual
noncomputable def df(C:aO):E→Env→aP→H→Prop
 |.bad,_,_,_=>False
 |.k v,_,Q,Z=>Q v Z
 |.x i,U,Q,Z=>∃ v,U i=some v∧Q v Z
 |.bin op a b,U,Q,Z=>df C a U (fun u Zq=>df C b U (fun v Zr=>w9 op u v Q Zr) Zq) Z
 |.neg a,U,Q,Z=>df C a U (fun u Zq=>BS u Q Zq) Z
 |.not a,U,Q,Z=>oA C a U (df C a U) (fun b Zq=>Q (.bool (!b)) Zq) Z
 |.bl op l,U,Q,Z=>yg C op l U (fun b Zq=>Q (.bool b) Zq) Z
 |.ite t a b,U,Q,Z=>oA C t U (df C t U) (fun c Zq=>(c=true→df C a U Q Zq)∧(c=false→df C b U Q Zq)) Z
 |.cmp a op b,U,Q,Z=>df C a U (fun u Zq=>df C b U (fun v Zr=>∃ c,eg Zr op u v c∧Q (.bool c) Zr) Zq) Z
 |.cmp2 a op b op2 c,U,Q,Z=>df C a U (fun u Zq=>df C b U (fun v Zr=>∃ r,eg Zr op u v r∧(r=true→df C c U (fun w Za=>∃ r2,eg Za op2 v w r2∧Q (.bool r2) Za) Zr)∧(r=false→Q (.bool false) Zr)) Zq) Z
 |.tup l,U,Q,Z=>ky C l U (fun vs Zq=>Q (.tup vs) Zq) Z
 |.lst l,U,Q,Z=>ky C l U (fun vs Zq=>gf (.list vs) Q Zq) Z
 |.dct ks vs,U,Q,Z=>Bf (sy C ks U) (sy C vs U) (fun es Zq=>rG es=true∧gf (.dict (dH [] es)) Q Zq) Z
 |.att o n,U,Q,Z=>df C o U (fun a Zq=>∃ v,cV Zq a n=some v∧Q v Zq) Z
 |.idx o i,U,Q,Z=>df C o U (fun a Zq=>df C i U (fun k Zr=>∃ v,bE Zr a k=some v∧Q v Zr) Zq) Z
 |.slc o lo hi,U,Q,Z=>df C o U (fun a Zq=>df C lo U (fun l Zr=>df C hi U (fun h Za=>EZ a l h Q Za) Zr) Zq) Z
 |.slcL o lo,U,Q,Z=>df C o U (fun a Zq=>df C lo U (fun l Zr=>uh a l Q Zr) Zq) Z
 |.slcH o hi,U,Q,Z=>df C o U (fun a Zq=>df C hi U (fun h Zr=>ui a h Q Zr) Zq) Z
 |.rev o,U,Q,Z=>df C o U (fun a Zq=>sT a Q Zq) Z
 |.mth o m as,U,Q,Z=>df C o U (fun a Zq=>∃ k,fC Zq a=some k∧fq k m=true∧ky C as U (fun vs Zr=>xC C k a m vs Q Zr) Zq) Z
 |.call f as,U,Q,Z=>df C f U (fun g Zq=>oh g=true∧ky C as U (fun vs Zr=>fK C g vs Q Zr) Zq) Z
 |.comp e t it ifs,U,Q,Z=>df C it U (fun v Zq=>∃ xs,bq Zq v=some xs∧sQ v∧
   im (fun Z'=>bq Z' v=some xs) (fun x=>cN t x U.outer) (fun U' K Z'=>lB C ifs U' K Z') (fun U' K Z'=>df C e U' K Z') xs [] (fun out Zr=>gf (.list out) Q Zr) Zq) Z
noncomputable def ky(C:aO):List E→Env→(List V→H→Prop)→H→Prop
 |[],_,Q,Z=>Q [] Z
 |e::es,U,Q,Z=>df C e U (fun v Zq=>ky C es U (fun vs Zr=>Q (v::vs) Zr) Zq) Z
noncomputable def sy(C:aO):List E→Env→List (aP→H→Prop)
 |[],_=>[]
 |e::r,U=>df C e U::sy C r U
noncomputable def oA(C:aO):E→Env→(aP→H→Prop)→(Bool→H→Prop)→H→Prop
 |.not a,U,_,Q,Z=>oA C a U (df C a U) (fun b Zq=>Q (!b) Zq) Z
 |.bl op l,U,_,Q,Z=>yg C op l U Q Z
 |_,_,whole,Q,Z=>whole (xx Q) Z
noncomputable def yg(C:aO):BoolOp→List E→Env→(Bool→H→Prop)→H→Prop
 |_,[],_,_,_=>False
 |_,[e],U,Q,Z=>oA C e U (df C e U) Q Z
 |op,e::es,U,Q,Z=>oA C e U (df C e U) (fun b Zq=>(match op with
    |.And=>(b=true→yg C op es U Q Zq)∧(b=false→Q false Zq)
    |.Or=>(b=true→Q true Zq)∧(b=false→yg C op es U Q Zq))) Z
noncomputable def lB(C:aO):List E→Env→(Bool→H→Prop)→H→Prop
 |[],_,Q,Z=>Q true Z
 |e::es,U,Q,Z=>oA C e U (df C e U) (fun b Zq=>(b=true→lB C es U Q Zq)∧(b=false→Q false Zq)) Z
end
noncomputable def dP(C:aO):Tg→V→Env→(Env→H→Prop)→H→Prop
 |.bad,_,_,_,_=>False
 |.v i,v,U,Q,Z=>Q (U.set i v) Z
 |.v2 i j,v,U,Q,Z=>∃ U',cN [i,j] v U=some U'∧Q U' Z
 |.att o n,v,U,Q,Z=>df C o U (fun a Zq=>∃ Z',dg Zq a n v=some Z'∧Q U Z') Z
 |.idx o i,v,U,Q,Z=>df C o U (fun a Zq=>df C i U (fun k Zr=>∃ Z',eU Zr a k v=some Z'∧Q U Z') Zq) Z
noncomputable def rX:Operator→Int→Int→Option Int
 |.Add,a,b=>some (a+b)
 |.Sub,a,b=>some (a - b)
 |_,_,_=>Option.none
mutual
noncomputable def Fh(K:aO):C→Env→bL→H→Prop
 |.bad,_,_,_=>False
 |.ex e,U,Q,Z=>df K e U (fun za Zq=>Q .next U Zq) Z
 |.ret e,U,Q,Z=>df K e U (fun v Zq=>Q (.ret v) U Zq) Z
 |.set t e,U,Q,Z=>df K e U (fun v Zq=>dP K t v U (fun U' Zr=>Q .next U' Zr) Zq) Z
 |.augV i op e,U,Q,Z=>∃ a,U i=some (.int a)∧df K e U (fun b Zq=>∃ c d,b=.int c∧rX op a c=some d∧Q .next (U.set i (.int d)) Zq) Z
 |.augA o n op e,U,Q,Z=>df K o U (fun a Zq=>∃ u,cV Zq a n=some (.int u)∧df K e U (fun b Zr=>∃ c d,b=.int c∧rX op u c=some d∧∃ Z',dg Zr a n (.int d)=some Z'∧Q .next U Z') Zq) Z
 |.ite t a b,U,Q,Z=>oA K t U (df K t U) (fun c Zq=>(c=true→eR K a U Q Zq)∧(c=false→eR K b U Q Zq)) Z
 |.wh t b,U,Q,Z=>∃ n,iA (fun U' K' Z'=>oA K t U' (df K t U') K' Z') (fun U' K' Z'=>eR K b U' K' Z') n U Q Z
 |.for_ t it b,U,Q,Z=>df K it U (fun v Zq=>∃ xs,bq Zq v=some xs∧me (fun Z'=>bq Z' v=some xs) (fun x U'=>cN t x U') (fun U' K' Z'=>eR K b U' K' Z') xs U Q Zq) Z
noncomputable def eR(K:aO):List C→Env→bL→H→Prop
 |[],U,Q,Z=>Q .next U Z
 |s::r,U,Q,Z=>Fh K s U (fun f U' Z'=>(match f with
   |.next=>eR K r U' Q Z'
   |.ret v=>Q (.ret v) U' Z')) Z
end
noncomputable def bV:List Nat→List V→Env→Env
 |x::xs,v::vs,U=>bV xs vs (U.set x v)
 |_,_,U=>U
noncomputable def fy(Q:aP):bL:=fun fl za Z=>match fl with
 |.ret v=>Q v Z
 |.next=>Q .none Z
noncomputable def Fi(K:aO)(f:Fn)(vs:List V)(Q:aP)(Z:H):Prop:=f.ps.length=vs.length∧eR K f.body (bV f.ps vs Env.nil) (fy Q) Z
noncomputable def po(c:Option Nat)(f:Nat):Option FD:=match c with
 |Option.none=>if f<78 then GS f else Option.none
 |some c=>if fR.contains (c,f) then GK c f else Option.none
noncomputable def a9:Nat→aO
 |0=>fun za za za za za=>False
 |n+1=>fun c f vs Q Z=>∃ fd,po c f=some fd∧Fi (a9 n) fd.fn vs Q Z
theorem ff{Q:Prop}(h:false=true):Q:=nomatch h
theorem tf{Q:Prop}(h:true=false):Q:=nomatch h
theorem ns{α:Type _}{a:α}{Q:Prop}(h:Option.none=some a):Q:=nomatch h
theorem sn{α:Type _}{a:α}{Q:Prop}(h:some a=Option.none):Q:=nomatch h
end Mine
namespace Mine
open PySem PySem.W PySem.Calls PyProof.Rows
theorem dj{a b:Bool}(h:(a && b)=true):a=true∧b=true:=Bool.and_eq_true_iff.mp h
theorem pI{a b c:Bool}(h:(a && b && c)=true):(a=true∧b=true)∧c=true:=⟨dj (dj h).1,(dj h).2⟩
theorem CX{a b c d:Bool}(h:(a && b && c && d)=true):((a=true∧b=true)∧c=true)∧d=true:=⟨pI (dj h).1,(dj h).2⟩
theorem AQ{a b c d e:Bool}(h:(a && b && c && d && e)=true):(((a=true∧b=true)∧c=true)∧d=true)∧e=true:=⟨CX (dj h).1,(dj h).2⟩
theorem E8{a b c d e f:Bool}(h:(a && b && c && d && e && f)=true):((((a=true∧b=true)∧c=true)∧d=true)∧e=true)∧f=true:=⟨AQ (dj h).1,(dj h).2⟩
theorem cP{G:Prop}(h:∀ P:Prop,(G→P)→P):G:=h G id
structure GT where
 fn:Nat→Option Addr
 gd:Addr
 mt:Nat→Nat→Option Addr
 arg:Addr
 argl:List V
noncomputable def km:Nat→Option Value
 |0=>some (.builtin "len")
 |1=>some (.type "range")
 |2=>some (.type "tuple")
 |3=>some (.type "list")
 |4=>some (.type "str")
 |5=>some (.builtin "isinstance")
 |6=>some (.type "bool")
 |_=>Option.none
theorem kh{P:Nat→Value→Prop}{n:Nat}{f:Value}(h0:P 0 (.builtin "len"))(h1:P 1 (.type "range"))(h2:P 2 (.type "tuple"))(h3:P 3 (.type "list"))
  (h4:P 4 (.type "str")) (h5:P 5 (.builtin "isinstance")) (h6:P 6 (.type "bool")):km n=some f→P n f:=by
 have go:∀ {a:Value} {n},P n a→some a=some f→P n f:=fun p e=>aQ e▸p
 induction n using Nat.casesAuxOn with
 |zero=>exact go h0
 |succ n=>induction n using Nat.casesAuxOn with
  |zero=>exact go h1
  |succ n=>induction n using Nat.casesAuxOn with
   |zero=>exact go h2
   |succ n=>induction n using Nat.casesAuxOn with
    |zero=>exact go h3
    |succ n=>induction n using Nat.casesAuxOn with
     |zero=>exact go h4
     |succ n=>induction n using Nat.casesAuxOn with
      |zero=>exact go h5
      |succ n=>induction n using Nat.casesAuxOn with
       |zero=>exact go h6
       |succ n=>exact ns
mutual
inductive bh (G:GT) (h:Heap):Value→V→Prop
 |none:bh G h .none .none
 |bool (b:Bool):bh G h (.bool b) (.bool b)
 |int (i:Int) (t:Tok):bh G h (.int i t) (.int i)
 |sym (n:Nat) (t:Tok):n<NT→bh G h (.str (cy n) t) (.sym n)
 |str (x y:Str) (t:Tok):x.length≤10+100 * y.length→bh G h (.str x t) (.str y)
 |tup {a:Addr} {vs:Array Value} {n:Nat} {l:List V}:h.get? a=some { cls:=.type "tuple",data:=.seq vs n }→bx G h vs.toList l→l.length≤bM→bh G h (.ref a) (.tup l)
 |ref (a:Addr):bh G h (.ref a) (.ref a)
 |rng {a:Addr} {n:Int} {t u v:Tok}:IsRange h a 0 n 1 t u v→(0≤n∧n<2 ^ 40)→bh G h (.ref a) (.rng n)
 |bi {n:Nat} {v:Value}:km n=some v→bh G h v (.bi n)
 |fn {n:Nat} {a:Addr}:G.fn n=some a→bh G h (.ref a) (.fn n)
 |gd:bh G h (.ref G.gd) .gd
 |arg:bh G h (.ref G.arg) (.arg G.argl)
inductive bx (G:GT) (h:Heap):List Value→List V→Prop
 |nil:bx G h [] []
 |cons {v:Value} {vs:List Value} {x:V} {xs:List V}:bh G h v x→bx G h vs xs→bx G h (v::vs) (x::xs)
end
section
variable {G:GT} {h:Heap} {v:Value}
noncomputable def Ff(G:GT)(h:Heap)(v:Value):V→Prop
 |.none=>v=.none
 |.bool b=>v=.bool b
 |.int i=>∃ t,v=.int i t
 |.sym n=>∃ t,v=.str (cy n) t∧n<NT
 |.str y=>∃ x t,v=.str x t∧x.length≤10+100 * y.length
 |.tup l=>∃ a vs n,v=.ref a∧h.get? a=some { cls:=.type "tuple",data:=.seq vs n }∧bx G h vs.toList l∧l.length≤bM
 |.ref a=>v=.ref a
 |.rng n=>∃ a t u w,v=.ref a∧IsRange h a 0 n 1 t u w∧(0≤n∧n<2 ^ 40)
 |.bi n=>km n=some v
 |.fn n=>∃ a,v=.ref a∧G.fn n=some a
 |.gd=>v=.ref G.gd
 |.arg l=>v=.ref G.arg∧l=G.argl
theorem bh.inv{x:V}(r:bh G h v x):Ff G h v x:=by
 induction r using bh.casesOn with
 |none | bool | ref | gd=>rfl
 |int _ t=>exact⟨t,rfl⟩
 |sym _ t e=>exact⟨t,rfl,e⟩
 |str x _ t e=>exact⟨x,t,rfl,e⟩
 |tup e r z=>exact⟨_,_,_,rfl,e,r,z⟩
 |rng e z=>exact⟨_,_,_,_,rfl,e,z⟩
 |bi e=>exact e
 |fn e=>exact⟨_,rfl,e⟩
 |arg=>exact⟨rfl,rfl⟩
theorem bh.tup_inv{l:List V}(r:bh G h v (.tup l)):∃ a vs n,v=.ref a∧h.get? a=some { cls:=.type "tuple",data:=.seq vs n }∧bx G h vs.toList l∧l.length≤bM:=r.inv
theorem bh.int_inv{i:Int}(r:bh G h v (.int i)):∃ t,v=.int i t:=r.inv
theorem bh.sym_inv{i:Nat}(r:bh G h v (.sym i)):∃ t,v=.str (cy i) t∧i<NT:=r.inv
theorem bh.str_inv{y:Str}(r:bh G h v (.str y)):∃ x t,v=.str x t∧x.length≤10+100 * y.length:=r.inv
theorem bh.none_inv(r:bh G h v .none):v=.none:=r.inv
theorem bh.bool_inv{b:Bool}(r:bh G h v (.bool b)):v=.bool b:=r.inv
theorem bh.ref_inv{a:Addr}(r:bh G h v (.ref a)):v=.ref a:=r.inv
theorem bh.rng_inv{n:Int}(r:bh G h v (.rng n)):∃ a t u w,v=.ref a∧IsRange h a 0 n 1 t u w∧(0≤n∧n<2 ^ 40):=r.inv
theorem bh.bi_inv{n:Nat}(r:bh G h v (.bi n)):km n=some v:=r.inv
theorem bh.fn_inv{n:Nat}(r:bh G h v (.fn n)):∃ a,v=.ref a∧G.fn n=some a:=r.inv
theorem bh.gd_inv(r:bh G h v .gd):v=.ref G.gd:=r.inv
end
noncomputable def cw(o:Obj):Prop:=(o.cls=.type "tuple" ∧∃ vs n,o.data=.seq vs n)∨(o.cls=.type "range" ∧∃ vs,o.data=.fields vs)
theorem cw.tup{vs:Array Value}{n:Nat}:cw { cls:=.type "tuple",data:=.seq vs n }:=.inl ⟨rfl,_,_,rfl⟩
theorem cw.rng{vs:Array Value}:cw { cls:=.type "range",data:=.fields vs }:=.inr ⟨rfl,_,rfl⟩
noncomputable def b8(h h':Heap):Prop:=∀ b o,h.get? b=some o→cw o→h'.get? b=some o
theorem b8.refl(h:Heap):b8 h h:=fun za za e za=>e
theorem b8.trans{h h' h'':Heap}(x:b8 h h')(y:b8 h' h''):b8 h h'':=fun b o e c=>y b o (x b o e c) c
theorem bh.stays{G:GT}{h h':Heap}(k:b8 h h'){v:Value}{x:V}(r:bh G h v x):bh G h' v x:=
 bh.rec (motive_1:=fun v x za=>bh G h' v x) (motive_2:=fun vs xs za=>bx G h' vs xs) .none .bool .int .sym .str (fun e za z q=>.tup (k _ _ e .tup) q z) .ref (fun e z=>.rng (k _ _ e .rng) z) .bi .fn .gd .arg .nil (fun za za a b=>.cons a b) r
theorem bx.stays{G:GT}{h h':Heap}(k:b8 h h'){vs:List Value}{xs:List V}(r:bx G h vs xs):bx G h' vs xs:=by
 induction vs generalizing xs with
 |nil=>cases r;exact .nil
 |cons v vs ih=>cases r with | cons a r=>exact .cons (a.stays k) (ih r)
section
variable {G:GT} {h:Heap}
theorem bx.length{vs:List Value}{xs:List V}(r:bx G h vs xs):vs.length=xs.length:=by
 induction vs generalizing xs with
 |nil=>cases r;rfl
 |cons v vs ih=>cases r with | cons _ r=>(refine ak (List.length_cons) ?_;refine af List.length_cons ?_;(refine af (ih r) ?_;with_reducible rfl))
theorem bx.append{vs us:List Value}{xs ys:List V}(r:bx G h vs xs)(r':bx G h us ys):bx G h (vs++us) (xs++ys):=by
 induction vs generalizing xs with
 |nil=>cases r;exact r'
 |cons v vs ih=>cases r with | cons a r=>exact .cons a (ih r)
theorem bx.get{vs:List Value}{xs:List V}(r:bx G h vs xs){i:Nat}{x:V}(e:xs[i]? = some x):∃ v,vs[i]? = some v∧bh G h v x:=by
 induction vs generalizing xs i with
 |nil=>cases r;simp at e
 |cons v vs ih=>
  cases r with
  |cons a r=>
   induction i using Nat.casesAuxOn with
   |zero=>simp at e;refine bt e ?_;exact⟨v,rfl,a⟩
   |succ i=>simp at e;refine o1x2 (ih r e) fun u h1 h2=>?_;exact⟨u,by simpa using h1,h2⟩
theorem bx.take{vs:List Value}{xs:List V}(r:bx G h vs xs)(n:Nat):bx G h (vs.take n) (xs.take n):=by
 induction vs generalizing xs n with
 |nil=>cases r;simp;exact .nil
 |cons v vs ih=>
  cases r with
  |cons a r=>induction n using Nat.casesAuxOn with
   |zero=>exact .nil
   |succ n=>exact .cons a (ih r n)
theorem bx.drop{vs:List Value}{xs:List V}(r:bx G h vs xs)(n:Nat):bx G h (vs.drop n) (xs.drop n):=by
 induction vs generalizing xs n with
 |nil=>cases r;simp;exact .nil
 |cons v vs ih=>
  cases r with
  |cons a r=>induction n using Nat.casesAuxOn with
   |zero=>exact .cons a r
   |succ n=>exact ih r n
theorem bx.set{vs:List Value}{xs:List V}(r:bx G h vs xs)(i:Nat){v:Value}{x:V}(q:bh G h v x):bx G h (vs.set i v) (xs.set i x):=by
 induction vs generalizing xs i with
 |nil=>cases r;exact .nil
 |cons u vs ih=>
  cases r with
  |cons a r=>induction i using Nat.casesAuxOn with
   |zero=>exact .cons q r
   |succ n=>exact .cons a (ih r n)
theorem bx.reverse{vs:List Value}{xs:List V}(r:bx G h vs xs):bx G h vs.reverse xs.reverse:=by
 induction vs generalizing xs with
 |nil=>cases r;exact .nil
 |cons v vs ih=>cases r with | cons a r=>(refine af List.reverse_cons ?_;refine af List.reverse_cons ?_);exact(ih r).append (.cons a .nil)
theorem bx.replicate{v:Value}{x:V}(r:bh G h v x):∀ n,bx G h (List.replicate n v) (List.replicate n x)
 |0=>.nil
 |n+1=>.cons r (bx.replicate r n)
end
noncomputable def kJ(l:List Int):Int:=reduceHash (Builtin.Tuple.tupleHashOf l)
mutual
noncomputable def gS(P:Params):V→Int
 |.int i=>hashInt i
 |.sym n=>PyData.keyHash P (cy n)
 |.tup l=>kJ (fc P l)
 |_=>0
noncomputable def fc(P:Params):List V→List Int
 |[]=>[]
 |a::l=>gS P a::fc P l
end
inductive KK where
 |i | s | t
noncomputable def fW:V→Option KK
 |.int _=>some .i
 |.sym n=>if n<NT then some .s else none
 |.tup l=>if tT 3 l then some .t else none
 |_=>none
inductive cI (P:Params) (G:GT) (h:Heap) (kk:KK):List DictEntry→List (V×V)→Prop
 |nil:cI P G h kk [] []
 |cons {d:DictEntry} {ds:List DictEntry} {e:V×V} {es:List (V×V)}:bh G h d.key e.1→fW e.1=some kk→d.hash=gS P e.1→bh G h d.val e.2→cI P G h kk ds es→cI P G h kk (d::ds) (e::es)
noncomputable def g9:List (V×V)→Prop
 |[]=>True
 |e::es=>(∀ e' ∈ es,dJ e'.1 e.1=false)∧g9 es
inductive jp (P:Params) (G:GT) (h:Heap):List DictEntry→List (Nat×V)→Prop
 |nil:jp P G h [] []
 |cons {d:DictEntry} {ds:List DictEntry} {e:Nat×V} {es:List (Nat×V)} {t:Tok}:e.1<NT→d.key=.str (cy e.1) t→d.hash=PyData.keyHash P (cy e.1)→bh G h d.val e.2→jp P G h ds es→jp P G h (d::ds) (e::es)
noncomputable def fi(P:Params)(G:GT)(h:Heap)(a:Addr):O→Prop
 |.list xs=>∃ vs n,h.get? a=some { cls:=.type "list",data:=.seq vs n }∧bx G h vs.toList xs∧xs.length≤bM
 |.dict es=>∃ ds n kk,h.get? a=some { cls:=.type "dict",data:=.dict ds n }∧cI P G h kk ds.toList es∧g9 es∧es.length≤bM
 |.inst c fs=>∃ C ds n,0<a∧G.fn c=some C∧db c=true∧h.get? a=some { cls:=.ref C,dict:=some (a - 1),data:=.plain }∧h.get? (a - 1)=some { cls:=.type "dict",data:=.dict ds n }∧jp P G h ds.toList fs∧(∀ x ∈ fs.map (·.1),(bo c).contains x=true)∧(fs.map (·.1)).Nodup
theorem cI.stays{P:Params}{G:GT}{h h':Heap}{kk:KK}(k:b8 h h'){ds:List DictEntry}{es:List (V×V)}(r:cI P G h kk ds es):cI P G h' kk ds es:=by
 induction r with
 |nil=>exact .nil
 |cons a b c d _ ih=>exact .cons (a.stays k) b c (d.stays k) ih
theorem jp.stays{P:Params}{G:GT}{h h':Heap}(k:b8 h h'){ds:List DictEntry}{es:List (Nat×V)}(r:jp P G h ds es):jp P G h' ds es:=by
 induction r with
 |nil=>exact .nil
 |cons a b c d _ ih=>exact .cons a b c (d.stays k) ih
noncomputable def bv(Z:H)(b:Addr):Prop:=Z b≠none∨∃ c fs,Z (b+1)=some (.inst c fs)
noncomputable def fz(a:Addr):O→Addr→Prop
 |.inst _ _,b=>b=a∨b+1=a
 |_,b=>b=a
theorem i9{Z:H}{a b:Addr}{o:O}(e:Z a=some o)(t:fz a o b):bv Z b:=by
 induction o using O.casesOn with
 |inst c fs=>
  rcases t with rfl | t
  ·exact .inl (by refine af e ?_;simp)
  ·exact .inr ⟨c,fs,by(refine af t ?_;(refine ak (e) ?_;with_reducible rfl))⟩
 |_=>refine af t ?_;exact .inl (by refine af e ?_;simp)
theorem ja{a b:Addr}{o:O}(t:fz a o b):b=a∨(b+1=a∧∃ c fs,o=.inst c fs):=by
 induction o using O.casesOn with
 |inst c fs=>exact t.imp id fun q=>⟨q,c,fs,rfl⟩
 |list xs=>exact .inl t
 |dict es=>exact .inl t
structure St (P:Params) (G:GT) (h₀:Heap) (Z:H) (h:Heap):Prop where
 obj:∀ a o,Z a=some o→fi P G h a o
 inst:∀ a c fs,Z a=some (.inst c fs)→Z (a - 1)=none
 new:∀ b,bv Z b→h₀.get? b=none
 base:∀ b o,h₀.get? b=some o→h.get? b=some o
structure oG (Z:H) (h:Heap) (Z':H) (h':Heap):Prop where
 keep:∀ b o,h.get? b=some o→¬bv Z b→h'.get? b=some o
 own:∀ b,bv Z' b→bv Z b∨h.get? b=none
theorem oG.refl(Z:H)(h:Heap):oG Z h Z h:=⟨fun za za e za=>e,fun za o=>.inl o⟩
theorem oG.notOwned{Z Z':H}{h h':Heap}(e:oG Z h Z' h'){b:Addr}{o:Obj}(hb:h.get? b=some o)(n:¬bv Z b):¬bv Z' b:=fun q=>by
 refine Or.elim (e.own b q) (fun q=>?_) (fun q=>?_)
 ·exact n q
 ·rw[hb] at q;exact sn q
theorem oG.trans{Z Z' Z'':H}{h h' h'':Heap}(x:oG Z h Z' h')(y:oG Z' h' Z'' h''):oG Z h Z'' h'' where
 keep:=fun b o e n=>y.keep b o (x.keep b o e n) (x.notOwned e n)
 own:=fun b q=>by
  refine Or.elim (y.own b q) (fun q=>?_) (fun q=>?_)
  ·exact x.own b q
  ·induction e:h.get? b using Option.casesOn with
   |none=>exact .inr rfl
   |some o=>
    refine .inl ?_
    by_cases n:bv Z b
    ·exact n
    ·rw[x.keep b o e n] at q;exact sn q
section
variable {P:Params} {G:GT} {h₀ h h':Heap} {Z Z':H}
theorem St.low(S:St P G h₀ Z h){b:Addr}(q:bv Z b):∃ o,h.get? b=some o:=by
 rcases q with q | ⟨c,fs,q⟩
 ·induction hq:Z b using Option.casesOn with
  |none=>exact absurd hq q
  |some ob=>
   have:=S.obj b ob hq
   induction ob using O.casesOn with
   |list xs=>refine o2x2 this fun vs n e' za=>?_;clear this;exact⟨_,e'⟩
   |dict es=>refine o3x2 this fun vs n kk e' za=>?_;clear this;exact⟨_,e'⟩
   |inst c fs=>refine o3x5 this fun C ds n za za za e' za=>?_;clear this;exact⟨_,e'⟩
 ·refine o3x6 (S.obj _ _ q) fun C ds n za za za za e' za=>?_
  rw[Nat.add_sub_cancel] at e';exact⟨_,e'⟩
theorem St.fresh(S:St P G h₀ Z h){b:Addr}(e:h.get? b=none):¬bv Z b:=fun q=>by
 refine aI (S.low q) fun o e'=>?_
 rw[e] at e';exact ns e'
theorem St.fresh'(S:St P G h₀ Z h){b:Addr}(n:¬bv Z b):Z b=none:=by
 induction q:Z b using Option.casesOn with
 |none=>rfl
 |some o=>exact absurd (.inl (by refine af q ?_;simp)) n
theorem St.plainCls(S:St P G h₀ Z h){b:Addr}{o:Obj}(q:bv Z b)(e:h.get? b=some o):¬cw o:=by
 have key:(o.cls≠.type "tuple" ∧o.cls≠.type "range")→¬cw o:=fun x y=>y.elim (fun z=>x.1 z.1) fun z=>x.2 z.1
 rcases q with q | ⟨c,fs,q⟩
 ·induction hq:Z b using Option.casesOn with
  |none=>exact absurd hq q
  |some ob=>
   have:=S.obj b ob hq
   induction ob using O.casesOn with
   |list xs=>refine o2x2 this fun vs n e' za=>?_;clear this;rw[e] at e';obtain rfl:=aQ e';exact key ⟨by simp,by simp⟩
   |dict es=>refine o3x2 this fun vs n kk e' za=>?_;clear this;rw[e] at e';obtain rfl:=aQ e';exact key ⟨by simp,by simp⟩
   |inst c fs=>refine o3x5 this fun C ds n za za za e' za=>?_;clear this;rw[e] at e';obtain rfl:=aQ e';exact key ⟨by simp,by simp⟩
 ·refine o3x6 (S.obj _ _ q) fun C ds n za za za za e' za=>?_
  (rewrite[Nat.add_sub_cancel] at e';rw[e] at e');obtain rfl:=aQ e';exact key ⟨by simp,by simp⟩
theorem St.stays(S:St P G h₀ Z h)(k:∀ b o,h.get? b=some o→¬bv Z b→h'.get? b=some o):b8 h h':=fun b o e c=>k b o e fun q=>S.plainCls q e c
theorem oG.stays(S:St P G h₀ Z h)(x:oG Z h Z' h'):b8 h h':=S.stays x.keep
theorem fi.move(st:b8 h h'){a:Addr}{o:O}(k:∀ b,fz a o b→∀ x,h.get? b=some x→h'.get? b=some x)(R:fi P G h a o):fi P G h' a o:=by
 induction o using O.casesOn with
 |list xs=>refine o2x3 R fun vs n e' r z=>?_;clear R;exact⟨vs,n,k _ rfl _ e',r.stays st,z⟩
 |dict es=>refine o3x3 R fun vs n kk e' r z=>?_;clear R;exact⟨vs,n,kk,k _ rfl _ e',r.stays st,z⟩
 |inst c fs=>
  refine o3x7 R fun C ds n z0 z1 z2 e1 e2 r z=>?_;clear R
  exact⟨C,ds,n,z0,z1,z2,k _ (.inl rfl) _ e1,k _ (.inr (Nat.sub_add_cancel z0)) _ e2,r.stays st,z⟩
set_option tactic.hygienic true in
theorem St.change{a d:Addr}{o o':O}(S:St P G h₀ Z h)(ea:Z a=some o)(hd:fz a o d)(hk:∀ b,fz a o' b↔fz a o b)
  (hc:∀ c fs,o'=.inst c fs→∃ c' fs',o=.inst c' fs') (hs:∀ b x,b≠d→h.get? b=some x→h'.get? b=some x)
  (ho:b8 h h'→fi P G h' a o'):St P G h₀ (Z.set a o') h'∧oG Z h (Z.set a o') h':=by
 have od:bv Z d:=i9 ea hd
 have keep:∀ b x,h.get? b=some x→¬bv Z b→h'.get? b=some x:=fun b x e n=>hs b x (fun q=>n (q▸od)) e
 have st:=S.stays keep
 have inst':∀ b c fs,(Z.set a o') b=some (.inst c fs)→∃ c' fs',Z b=some (.inst c' fs'):=fun b c fs e=>by
  delta H.set at e
  split at e
  ·rename_i q;refine af q ?_
   refine o2x1 (hc c fs (aQ e)) fun c' fs' q=>?_
   exact⟨c',fs',by(refine ak (ea) ?_;(refine af q ?_;with_reducible rfl))⟩
  ·exact⟨c,fs,e⟩
 have own':∀ b,bv (Z.set a o') b→bv Z b:=fun b q=>by
  rcases q with q | ⟨c,fs,q⟩
  ·by_cases hb:b=a
   ·refine af hb ?_;exact .inl (by refine af ea ?_;simp)
   ·exact .inl (by delta H.set at q;rwa [aE hb] at q)
  ·exact .inr (inst' _ _ _ q)
 refine⟨⟨fun b x e=>?_,fun b c fs e=>?_,fun b q=>S.new b (own' b q),fun b x e=>?_⟩,⟨keep,fun b q=>.inl (own' b q)⟩⟩
 ·by_cases hb:b=a
  ·subst hb
   delta H.set at e
   rw[aH rfl] at e
   refine bt (aQ e) ?_
   exact ho st
  ·unfold H.set at e
   rw[aE hb] at e
   refine(S.obj b x e).move st fun b' t y ey=>hs b' y ?_ ey
   rintro rfl
   have e1:=ja t
   have e2:=ja hd
   rcases e1 with rfl | ⟨e1,c,fs,rfl⟩
   ·rcases e2 with e2 | ⟨e2,c,fs,rfl⟩
    ·exact hb e2
    ·have:=S.inst a c fs ea
     (rewrite[← e2] at this;rewrite[Nat.add_sub_cancel] at this;rw[e] at this)
     exact sn this
   ·rcases e2 with rfl | ⟨e2,_⟩
    ·have:=S.inst b c fs e
     (rewrite[← e1] at this;rewrite[Nat.add_sub_cancel] at this;rw[ea] at this)
     exact sn this
    ·exact hb (by(refine bt e1 ?_;(refine bt e2 ?_;with_reducible rfl)))
 ·refine o2x1 (inst' b c fs e) fun c' fs' q=>?_
  have:=S.inst b c' fs' q
  skip
  by_cases hb:b - 1=a
  ·(rewrite[hb] at this;rw[ea] at this);exact sn this
  ·refine ak (aE hb) ?_;exact this
 ·exact keep b x (S.base b x e) fun q=>by rw[S.new b q] at e;exact ns e
theorem St.touch{d:Addr}(S:St P G h₀ Z h)(hd:¬bv Z d)(hn:h₀.get? d=none)(hc:∀ o,h.get? d=some o→¬cw o)(hs:∀ b x,b≠d→h.get? b=some x→h'.get? b=some x):St P G h₀ Z h':=by
 have st:b8 h h':=fun b x e c=>hs b x (fun q=>by
  subst q
  exact hc x e c) e
 refine⟨fun b x e=>(S.obj b x e).move st fun b' t y ey=>hs b' y (fun q=>hd (q▸i9 e t)) ey,S.inst,S.new,fun b x e=>hs b x (fun q=>by subst q;rw[hn] at e;exact ns e) (S.base b x e)⟩
set_option tactic.hygienic true in
theorem St.adopt{a:Addr}{o:O}(S:St P G h₀ Z h)(hn:∀ b,fz a o b→¬bv Z b)(hz:∀ b,fz a o b→h₀.get? b=none)(hi:∀ c fs,o=.inst c fs→0<a)(ho:fi P G h a o) :
  St P G h₀ (Z.set a o) h∧(∀ b,bv (Z.set a o) b→bv Z b∨fz a o b)∧Z a=none:=by
 have ta:fz a o a:=by induction o using O.casesOn<;>first | exact rfl | exact .inl rfl
 have na:=S.fresh' (hn a ta)
 have own':∀ b,bv (Z.set a o) b→bv Z b∨fz a o b:=fun b q=>by
  rcases q with q | ⟨c,fs,q⟩
  ·by_cases hb:b=a
   ·refine af hb ?_;exact .inr ta
   ·exact .inl (.inl (by delta H.set at q;rwa [aE hb] at q))
  ·delta H.set at q
   split at q
   ·rename_i e
    refine af (aQ q) ?_
    exact .inr (.inr e)
   ·exact .inl (.inr ⟨c,fs,q⟩)
 refine⟨⟨fun b x e=>?_,fun b c fs e=>?_,fun b q=>?_,S.base⟩,own',na⟩
 ·by_cases hb:b=a
  ·subst hb
   delta H.set at e
   rw[aH rfl] at e
   refine bt (aQ e) ?_
   exact ho
  ·unfold H.set at e
   rw[aE hb] at e
   exact S.obj b x e
 ·by_cases hb:b=a
  ·subst hb
   delta H.set at e ⊢
   rw[aH rfl] at e
   obtain rfl:=aQ e
   have h0:=hi c fs rfl
   refine ak (aE (Nat.ne_of_lt (Nat.sub_lt h0 Nat.one_pos))) ?_
   exact S.fresh' (hn _ (.inr (Nat.sub_add_cancel h0)))
  ·have e':Z b=some (.inst c fs):=by unfold H.set at e;rwa [aE hb] at e
   skip
   by_cases q:b - 1=a
   ·exfalso
    by_cases hb0:b=0
    ·subst hb0
     have:a=0:=q.symm
     exact hb this.symm
    ·exact hn a ta (.inr ⟨c,fs,by(refine bt q ?_;refine af (Nat.sub_add_cancel (Nat.pos_of_ne_zero hb0)) ?_);exact e'⟩)
   ·refine ak (aE q) ?_;exact S.inst b c fs e'
 ·refine Or.elim (own' b q) (fun q=>?_) (fun q=>?_)
  ·exact S.new b q
  ·exact hz b q
theorem St.add{a:Addr}{o:O}(S:St P G h₀ Z h)(hn:∀ b,fz a o b→h.get? b=none)(hs:∀ b x,h.get? b=some x→h'.get? b=some x)
  (hi:∀ c fs,o=.inst c fs→0<a) (ho:fi P G h' a o):St P G h₀ (Z.set a o) h'∧oG Z h (Z.set a o) h'∧Z a=none:=by
 have S':St P G h₀ Z h':=⟨fun b x e=>(S.obj b x e).move (fun c y e za=>hs c y e) fun b' za y ey=>hs b' y ey,S.inst,S.new,fun b x e=>hs b x (S.base b x e)⟩
 have B:=S'.adopt (a:=a) (o:=o) (fun b t=>S.fresh (hn b t)) (fun b t=>by
  induction q:h₀.get? b using Option.casesOn with
  |none=>rfl
  |some x=>have:=hn b t;rw[S.base b x q] at this;exact sn this) hi ho
 exact⟨B.1,⟨fun b x e za=>hs b x e,fun b q=>(B.2.1 b q).imp id (hn b)⟩,B.2.2⟩
end
theorem ph:∀ n,n<NT→ix (cy n)=n:=by
 have:((List.range NT).all fun n=>ix (cy n) == n)=true:=by decide +kernel
 intro n hn
 exact beq_iff_eq.mp (List.all_eq_true.mp this n (List.mem_range.mpr hn))
theorem ia{m n:Nat}(hm:m<NT)(hn:n<NT)(e:cy m=cy n):m=n:=by
 (refine bt (ph m hm) ?_;refine bt (ph n hn) ?_;(refine af e ?_;with_reducible rfl))
theorem yG:∀ n,n<NT→PyData.strOk (cy n)=true:=by
 have:((List.range NT).all fun n=>PyData.strOk (cy n))=true:=by decide +kernel
 intro n hn
 exact List.all_eq_true.mp this n (List.mem_range.mpr hn)
inductive Pl (b:Bool):Nat→V→Prop
 |none (n:Nat):b=true→Pl b n .none
 |int (n:Nat) (i:Int):Pl b n (.int i)
 |sym (n k:Nat):k<NT→Pl b n (.sym k)
 |tup (n:Nat) (l:List V):(∀ x ∈ l,Pl b n x)→Pl b (n+1) (.tup l)
theorem qe{n:Nat}{l:List V}:yB n l=true↔∀ x ∈ l,pv n x=true:=by
 induction l with
 |nil=>exact⟨fun za x h=>(nomatch h),fun za=>rfl⟩
 |cons a l ih=>
  constructor
  ·intro h x hx
   have h:=dj (a:=pv n a) (b:=yB n l) h
   rcases List.mem_cons.mp hx with rfl | hx
   ·exact h.1
   ·exact ih.mp h.2 x hx
  ·exact fun h=>Bool.and_eq_true_iff.mpr ⟨h a (.head _),ih.mpr fun x hx=>h x (.tail _ hx)⟩
theorem qy{n:Nat}{l:List V}:tT n l=true↔∀ x ∈ l,hk n x=true:=by
 induction l with
 |nil=>exact⟨fun za x h=>(nomatch h),fun za=>rfl⟩
 |cons a l ih=>
  constructor
  ·intro h x hx
   have h:=dj (a:=hk n a) (b:=tT n l) h
   rcases List.mem_cons.mp hx with rfl | hx
   ·exact h.1
   ·exact ih.mp h.2 x hx
  ·exact fun h=>Bool.and_eq_true_iff.mpr ⟨h a (.head _),ih.mpr fun x hx=>h x (.tail _ hx)⟩
theorem np{n:Nat}:∀ {x:V},pv n x=true→Pl true n x:=by
 induction n with
 |zero=>intro x h;induction x using V.casesOn<;>first | exact .none _ rfl | exact .int _ _ | exact .sym _ _ (of_decide_eq_true h) | exact ff h
 |succ n ih=>intro x h;induction x using V.casesOn<;>first | exact .none _ rfl | exact .int _ _ | exact .sym _ _ (of_decide_eq_true h) | exact .tup _ _ fun x hx=>ih (qe.mp h x hx) | exact ff h
theorem kO{n:Nat}:∀ {x:V},hk n x=true→Pl false n x:=by
 induction n with
 |zero=>intro x h;induction x using V.casesOn<;>first | exact .int _ _ | exact .sym _ _ (of_decide_eq_true h) | exact ff h
 |succ n ih=>intro x h;induction x using V.casesOn<;>first | exact .int _ _ | exact .sym _ _ (of_decide_eq_true h) | exact .tup _ _ fun x hx=>ih (qy.mp h x hx) | exact ff h
theorem BN{b:Bool}{n:Nat}{x:V}(h:Pl b n x):pv n x=true:=by
 induction h with
 |none n _=>induction n using Nat.casesAuxOn<;>rfl
 |int n i=>induction n using Nat.casesAuxOn<;>rfl
 |sym n k h=>induction n using Nat.casesAuxOn<;>exact bS h
 |tup n l _ ih=>exact qe.mpr ih
theorem Ci{n:Nat}{x:V}(h:Pl false n x):hk n x=true:=by
 induction h with
 |none n h=>exact ff h
 |int n i=>induction n using Nat.casesAuxOn<;>rfl
 |sym n k h=>induction n using Nat.casesAuxOn<;>exact bS h
 |tup n l _ ih=>exact qy.mpr ih
theorem hV(n:Nat)(x:V)(h:hk n x=true):pv n x=true:=BN (kO h)
theorem Pl.mono{b:Bool}{n:Nat}{x:V}(h:Pl b n x):∀ {m:Nat},n≤m→Pl b m x:=by
 induction h with
 |none n e=>exact fun za=>.none _ e
 |int n i=>exact fun za=>.int _ _
 |sym n k h=>exact fun za=>.sym _ _ h
 |tup n l _ ih=>
  intro m hm
  induction m using Nat.casesAuxOn with
  |zero=>cases hm
  |succ m=>exact .tup _ _ fun x hx=>ih x hx (Nat.le_of_succ_le_succ hm)
theorem wH(n m:Nat)(x:V)(h:n≤m)(k:hk n x=true):hk m x=true:=Ci ((kO k).mono h)
theorem lH:∀ l,(fV l).length=l.length
 |[]=>rfl
 |_::l=>congrArg (· + 1) (lH l)
section
variable {G:GT} {h:Heap}
theorem oP{vs:List Value}{xs:List V}(r:bx G h vs xs):(∀ x ∈ xs,∀ v,bh G h v x→∃ as,Reads h v (gO x) as)→∃ as,ReadsAll h vs (fV xs) as:=by
 induction vs generalizing xs with
 |nil=>cases r;exact fun za=>⟨_,.nil⟩
 |cons v vs ih=>
  cases r with
  |cons a r=>
   intro f
   refine aI (f _ (.head _) v a) fun as q=>?_
   refine aI (ih r fun x hx=>f x (.tail _ hx)) fun bs q'=>?_
   exact⟨_,.cons q q'⟩
theorem eZ(n:Nat){v:Value}{x:V}(r:bh G h v x)(hp:pv n x=true):∃ as,Reads h v (gO x) as:=by
 replace hp:=np hp
 induction hp generalizing v with
 |none n _=>refine af r.none_inv ?_;exact⟨_,.none⟩
 |int n i=>refine aI r.int_inv fun t e1=>?_;refine af e1 ?_;exact⟨_,.int i t⟩
 |sym n k _=>obtain⟨t,rfl,_⟩:=r.sym_inv;exact⟨_,.str _ t⟩
 |tup n l _ ih=>
  refine o3x2 r.tup_inv fun a vs m e3 q9=>?_;refine af e3 ?_;refine o0x3 q9 fun e rl za=>?_;clear q9
  refine aI (oP rl fun x hx v rv=>ih x hx rv) fun as q=>?_
  exact⟨as,.tuple e rfl rfl q⟩
end
theorem tE{n:Nat}{l:List V}:(∀ x ∈ l,(gO x).canLay0=true∧(gO x).depth≤n)→PyData.canLayAll0 (fV l)=true∧PyData.depthAll (fV l)≤n:=by
 induction l with
 |nil=>exact fun za=>⟨rfl,Nat.zero_le _⟩
 |cons a l ih=>
  intro f
  have h1:=f a (.head _)
  have h2:=ih fun x hx=>f x (.tail _ hx)
  exact⟨Bool.and_eq_true_iff.mpr ⟨h1.1,h2.1⟩,Nat.max_le.mpr ⟨h1.2,h2.2⟩⟩
theorem gm(n:Nat)(x:V)(hp:pv n x=true):(gO x).canLay0=true∧(gO x).depth≤n:=by
 replace hp:=np hp
 induction hp with
 |none n _=>exact⟨rfl,Nat.zero_le _⟩
 |int n i=>exact⟨rfl,Nat.zero_le _⟩
 |sym n k h=>exact⟨yG k h,Nat.zero_le _⟩
 |tup n l _ ih=>
  have:=tE ih
  exact⟨this.1,Nat.succ_le_succ this.2⟩
theorem uf{m:Nat}{xs:List V}:∀ {ys:List V},(∀ x ∈ xs,∀ y,Pl true m y→PyData.eqv (gO x) (gO y)=dJ x y)→(∀ y ∈ ys,Pl true m y)→PyData.eqvAll (fV xs) (fV ys)=mS xs ys:=by
 induction xs with
 |nil=>intro ys _ _;induction ys using List.casesOn<;>rfl
 |cons a xs ih=>
  intro ys f g
  induction ys using List.casesOn with
  |nil=>rfl
  |cons b ys=>
   show(PyData.eqv (gO a) (gO b) && PyData.eqvAll (fV xs) (fV ys))=(dJ a b && mS xs ys)
   (refine af (f a (.head _) b (g b (.head _))) ?_;(refine af (ih (fun x hx=>f x (.tail _ hx)) fun y hy=>g y (.tail _ hy)) ?_;with_reducible rfl))
theorem mj(n m:Nat)(x y:V)(hx:pv n x=true)(hy:pv m y=true):PyData.eqv (gO x) (gO y)=dJ x y:=by
 replace hx:=np hx
 replace hy:=np hy
 induction hx generalizing m y with
 |none n _=>induction hy using Pl.casesOn<;>rfl
 |int n i=>induction hy using Pl.casesOn with
  |_=>rfl
 |sym n k hk=>induction hy using Pl.casesOn with
  |sym _ j hj=>
   show decide (cy k=cy j)=decide (k=j)
   by_cases e:k=j
   ·refine af e ?_;(refine ak (bS rfl) ?_;(refine af (bS rfl) ?_;with_reducible rfl))
   ·(refine af (bH e) ?_;(refine ak (bH fun q=>e (ia hk hj q)) ?_;with_reducible rfl))
  |_=>rfl
 |tup n l _ ih=>induction hy using Pl.casesOn with
  |tup m k h=>exact uf (fun x hx y hy=>ih x hx m y hy) h
  |_=>rfl
theorem qT{l:List V}:(∀ x ∈ l,dJ x x=true)→mS l l=true:=by
 induction l with
 |nil=>exact fun za=>rfl
 |cons a l ih=>exact fun f=>Bool.and_eq_true_iff.mpr ⟨f a (.head _),ih fun x hx=>f x (.tail _ hx)⟩
theorem dz(n:Nat)(x:V)(hp:pv n x=true):dJ x x=true:=by
 replace hp:=np hp
 induction hp with
 |none n _=>rfl
 |int n i=>exact bS rfl
 |sym n k _=>exact bS rfl
 |tup n l _ ih=>exact qT ih
mutual
theorem dX:∀ (x y:V),dJ x y=true→x=y
 |.none,y,e=>by induction y using V.casesOn<;>first | rfl | exact ff e
 |.int a,y,e=>by induction y using V.casesOn<;>first | exact congrArg V.int (of_decide_eq_true e) | exact ff e
 |.sym a,y,e=>by induction y using V.casesOn<;>first | exact congrArg V.sym (of_decide_eq_true e) | exact ff e
 |.tup l,y,e=>by induction y using V.casesOn<;>first | exact congrArg V.tup (j8 l _ e) | exact ff e
 |.bool _,_,e | .str _,_,e | .ref _,_,e | .rng _,_,e | .bi _,_,e | .fn _,_,e | .gd,_,e=>by exact ff e
theorem j8:∀ (x y:List V),mS x y=true→x=y
 |[],y,e=>by induction y using List.casesOn<;>first | rfl | exact ff e
 |a::l,y,e=>by
  induction y using List.casesOn with
  |nil=>exact ff e
  |cons b m=>
   have e:=dj (a:=dJ a b) (b:=mS l m) e
   (refine af (dX a b e.1) ?_;(refine af (j8 l m e.2) ?_;with_reducible rfl))
end
end Mine
namespace Mine
open PySem PySem.W PySem.Calls PyProof.Rows
mutual
noncomputable def iW:V→Nat
 |.tup l=>eJ l+1
 |_=>1
noncomputable def eJ:List V→Nat
 |[]=>0
 |a::l=>iW a+eJ l
end
section
variable {prog:Program} {w:World} {A:Around} {E:Value→Shared→Prop} {s:Shared} {G:GT}
theorem Cg{h:Heap}{a:Addr}{vs:Array Value}{n:Nat}(e:h.get? a=some { cls:=.type "tuple",data:=.seq vs n }):h.IsTuple a vs:=⟨_,e,rfl,n,rfl⟩
theorem pU{a:Addr}{vs:Array Value}{n:Nat}(e:s.heap.get? a=some { cls:=.type "tuple",data:=.seq vs n }):s.TypeIs (.ref a) "tuple" :=⟨_,e,rfl⟩
theorem qz:∀ (n:Nat) (A:Around) (E:Value→Shared→Prop) (s:Shared) (v:Value) (x:V) (Q:Int→Shared→Prop),bh G s.heap v x→hk n x=true→A.units+n<cLine→
  Q (gS w.params x) { s with toks:=s.toks+iW x }→wpAny (model prog w) A (pyHash v) Q E s:=by
 intro n A E s v x Q r hp
 replace hp:=kO hp
 induction hp generalizing A E s v Q with
 |none _ e=>exact ff e
 |int n i=>intro _ h;refine aI r.int_inv fun t e1=>?_;refine af e1 ?_;exact wpAny_pyHash_int h
 |sym n k _=>intro _ h;obtain⟨t,rfl,_⟩:=r.sym_inv;exact wpAny_pyHash_str h
 |tup n l _ ih=>
   intro hu h
   refine o3x2 r.tup_inv fun a vs m e3 q9=>?_;refine af e3 ?_;refine o0x3 q9 fun e r z=>?_;clear q9
   have hT:=pU e
   first | unfold pyHashByItsType | skip
   refine wpAny_bind (wpAny_cRoomFor_or (.inr (Nat.lt_of_le_of_lt (Nat.le_add_right _ _) hu)) ?_)
   refine wpAny_bind (wpAny_specialOf hT F.slot_tuple_hash.lookup ?_)
   show wpAny _ _ (if(some (Value.builtin "tuple.__hash__") == some Value.none)=true then _ else _) Q E s
   refine af (aE (by rw[beq_builtin_none];exact Bool.false_ne_true)) ?_
   refine wpAny_bind (wpAny_specialOf hT F.slot_tuple_hash.lookup ?_)
   show wpAny _ _ (callSpecialIfBoundUnlessNone? (.ref a) "__hash__" _ >>= _) Q E s
   refine wpAny_bind (wpAny_callSpecialIfBoundUnlessNone?_slot hT F.slot_tuple_hash (wpAny_call_entry F.slot_tuple_hash hT F.entry_tuple_hash ?_ (F.args_tuple_hash_1 _)))
   show wpAny _ _ (Builtin.Tuple.tupleItemsOf (.ref a) >>= _) _ _ s
   refine wpAny_bind (wpAny_tupleItemsOf e rfl ?_)
   refine wpAny_bind ?_
   refine bt Array.forIn_toList ?_
   refine wpAny_forIn_list _
    (fun rest (b:Array Int) s'=>∃ done left,l=done++left∧bx G s.heap rest left∧(∀ x ∈ left,x ∈ l)∧b.toList=fc w.params done∧s'={ s with toks:=s.toks+eJ done })
    _ ?_ ?_ _ _ ⟨[],l,rfl,r,fun za h=>h,rfl,rfl⟩
   ·intro x rest b s' p0;refine o2x5 p0 fun done left hl hr hh hb e6=>?_;clear p0;refine af e6 ?_
    cases hr with
    |@cons _ _ k ks' h1 hl'=>
     have hh2:∀ (d:List V) (c:V),fc w.params (d++[c])=fc w.params d++[gS w.params c]:=fun d c=>by
      induction d with
      |nil=>rfl
      |cons y d ih=>(refine af List.cons_append ?_;rewrite[fc];rewrite[fc];refine af ih ?_);rfl
     have hd2:∀ (d:List V) (c:V),eJ (d++[c])=eJ d+iW c:=fun d c=>by
      induction d with
      |nil=>simp[eJ]
      |cons y d ih=>(refine af List.cons_append ?_;rewrite[eJ];rewrite[eJ];refine af ih ?_;rw[Nat.add_assoc])
     refine wpAny_bind (ih k (hh k (.head _)) A.in1 _ { s with toks:=s.toks+eJ done } x _ h1 (by simp only[Around.in1_units];lia) ?_)
     first
      |exact wpAny_pure ⟨done++[k],ks',by refine ak (hl) ?_;simp,hl',fun x hx=>hh x (.tail _ hx),by simp[hb,hh2],by rw[hd2];simp[Nat.add_assoc]⟩
      |exact wpAny_bind (wpAny_pure (wpAny_pure ⟨done++[k],ks',by rw[hl];simp,hl',fun x hx=>hh x (.tail _ hx),by simp[hb,hh2],by rw[hd2];simp[Nat.add_assoc]⟩))
   ·intro b s' p0;refine o2x5 p0 fun done left hl hr hh hb e6=>?_;clear p0;refine af e6 ?_
    cases hr
    rw[List.append_nil] at hl
    subst hl
    show wpAny _ _ (retInt (Builtin.Tuple.tupleHashOf b.toList)) _ _ _
    refine af hb ?_
    refine wpAny_ret_mkInt ?_
    show wpAny _ _ (if(decide (-(2:Int) ^ 63≤Builtin.Tuple.tupleHashOf (fc w.params l)) && decide (Builtin.Tuple.tupleHashOf (fc w.params l)<2 ^ 63))=true then _ else _) Q E _
    rw[gS] at h
    unfold kJ reduceHash at h
    by_cases hr:(decide (-(2:Int) ^ 63≤Builtin.Tuple.tupleHashOf (fc w.params l)) && decide (Builtin.Tuple.tupleHashOf (fc w.params l)<2 ^ 63))=true
    ·refine af (aH hr) ?_
     rw[aH hr] at h
     exact wpAny_pure (by simpa [iW,Nat.add_assoc] using h)
    ·refine af (aE hr) ?_
     rw[aE hr] at h
     exact wpAny_bind (wpAny_rule (wpAny_pure (by simpa [iW,Nat.add_assoc] using h)))
theorem sZ:∀ (n:Nat) (A:Around) (E:Value→Shared→Prop) (s:Shared) (v:Value) (x:V) (Q:Bool→Shared→Prop),bh G s.heap v x→hk n x=true→
  Q true s→wpAny (model prog w) A (eqIsQuiet n v) Q E s:=by
 intro n A E s v x Q r hp
 replace hp:=kO hp
 induction hp generalizing A E s v Q with
 |none _ e=>exact ff e
 |int n i=>intro h;refine aI r.int_inv fun t e1=>?_;refine af e1 ?_;refine af (eqIsQuiet_byValue _ rfl) ?_;exact wpAny_pure h
 |sym n k _=>intro h;obtain⟨t,rfl,_⟩:=r.sym_inv;refine af (eqIsQuiet_byValue _ rfl) ?_;exact wpAny_pure h
 |tup n l _ ih=>
   intro h
   refine o3x2 r.tup_inv fun a vs m e3 q9=>?_;refine af e3 ?_;refine o0x3 q9 fun e r z=>?_;clear q9
   have hT:=pU e
   unfold eqIsQuiet
   refine wpAny_bind (wpAny_specialOf hT F.slot_tuple_eq.lookup ?_)
   show wpAny _ _ (isInstance (.ref a) (.type "tuple") >>= _) _ _ s
   refine wpAny_bind (wpAny_isInstance hT isSubtype_tuple_tuple ?_)
   simp only[Bool.not_true,Bool.false_eq_true,if_false]
   refine wpAny_bind (wpAny_seqItems e rfl ?_)
   refine wpAny_bind ?_
   show wpAny _ _ (forIn vs _ _) _ _ s
   refine bt Array.forIn_toList ?_
   refine wpAny_forIn_list _ (fun rest r s'=>r.1=none∧s'=s∧∃ left,bx G s.heap rest left∧∀ x ∈ left,x ∈ l) _ ?_ ?_ _ _ ⟨rfl,rfl,l,r,fun za h=>h⟩
   ·intro v rest r s' p0;refine o0x3 p0 fun hr e1 q9=>?_;clear p0;refine af e1 ?_;refine o1x2 q9 fun left hl hh=>?_;clear q9
    cases hl with
    |cons a r=>
     refine wpAny_bind (ih _ (hh _ (.head _)) A _ _ v _ a ?_)
     simp only[Bool.not_true,Bool.false_eq_true,if_false]
     exact wpAny_pure ⟨rfl,rfl,_,r,fun x hx=>hh x (.tail _ hx)⟩
   ·rintro⟨r1,r2⟩ s' ⟨hr,rfl,_⟩
    simp only at hr
    refine af hr ?_
    exact wpAny_pure h
end
theorem sX{G:GT}{h:Heap}{m:Nat}{vs:List Value}:∀ {xs ys:List V},bx G h vs xs→bx G h vs ys→(∀ x ∈ xs,∀ m y v,bh G h v x→bh G h v y→Pl false m y→x=y)→(∀ y ∈ ys,Pl false m y)→xs=ys:=by
 induction vs with
 |nil=>intro xs ys r q _ _;cases r;cases q;rfl
 |cons v vs ih=>
  intro xs ys r q f g
  cases r with
  |cons a1 r1=>cases q with
   |cons a2 r2=>(refine af (f _ (.head _) m _ v a1 a2 (g _ (.head _))) ?_;(refine af (ih r1 r2 (fun x hx=>f x (.tail _ hx)) fun y hy=>g y (.tail _ hy)) ?_;with_reducible rfl))
theorem vL{G:GT}{h:Heap}(n:Nat)(x y:V)(v:Value)(r:bh G h v x)(q:bh G h v y)(hx:hk n x=true)(hy:hk n y=true):x=y:=by
 replace hx:=kO hx
 replace hy:=kO hy
 have:∀ m,Pl false m y→x=y:=by
  clear hy
  induction hx generalizing y v with
  |none _ e=>exact ff e
  |int n i=>
   refine aI r.int_inv fun t e1=>?_;obtain rfl:=e1
   intro m hy
   induction hy using Pl.casesOn with
   |none _ e=>exact ff e
   |int _ j=>refine aI q.int_inv fun za e=>?_;cases e;rfl
   |sym _ j _=>refine o1x2 q.sym_inv fun za e za=>?_;cases e
   |tup _ l _=>refine o3x2 q.tup_inv fun za za za e za=>?_;cases e
  |sym n k hk=>
   obtain⟨t,rfl,_⟩:=r.sym_inv
   intro m hy
   induction hy using Pl.casesOn with
   |none _ e=>exact ff e
   |int _ j=>refine aI q.int_inv fun za e=>?_;cases e
   |sym _ j hj=>refine o1x2 q.sym_inv fun za e za=>?_;injection e with e1 _;(refine af (ia hk hj e1) ?_;with_reducible rfl)
   |tup _ l _=>refine o3x2 q.tup_inv fun za za za e za=>?_;cases e
  |tup n l _ ih=>
   refine o3x2 r.tup_inv fun a vs m' e3 q9=>?_;obtain rfl:=e3;refine o0x3 q9 fun e r z=>?_;clear q9
   intro m hy
   induction hy using Pl.casesOn with
   |none _ e=>exact ff e
   |int _ j=>refine aI q.int_inv fun za e=>?_;cases e
   |sym _ j hj=>refine o1x2 q.sym_inv fun za e za=>?_;cases e
   |tup m k g=>
    refine o3x4 q.tup_inv fun za za za e1 e2 r' za=>?_
    cases e1
    rw[e] at e2
    cases e2
    exact congrArg V.tup (sX r r' (fun x hx m y v r q=>ih x hx y v r q m) g)
 exact this n hy
noncomputable def TK:={ l:List V // tT 3 l=true }
theorem sW{G:GT}{h h':Heap}{d:Addr}{o:Obj}{es ep}(ho:h.get? d=some o)(hd:o.data=.dict es ep)(hs:Heap.SameBut d h h')(n:Nat)(x:V)(v:Value)(r:bh G h v x)(_:hk n x=true):bh G h' v x:=
 r.stays fun b ob e f=>(hs.2 b (fun q=>by
  subst q
  cases ho.symm.trans e
  rcases f with⟨_,_,_,q⟩ | ⟨_,_,q⟩<;>(rw[hd] at q;cases q))).trans e
open Classical in
noncomputable def sw(prog:Program)(w:World)(G:GT):HeapKind prog w TK where
 is:=fun h k a=>bh G h (.ref a) (.tup k.1)
 hash:=fun k=>gS w.params (.tup k.1)
 draws:=fun k=>iW (.tup k.1)
 room:=fun A=>A.units+64<cLine
 inj:=fun{h a x y} hx hy=>Subtype.ext (by
  have:=vL 4 _ _ _ hx hy (by simpa [hk] using x.2) (by simpa [hk] using y.2)
  exact V.tup.inj this)
 keeps:=fun{h h' k a d o es ep} x ho hd hs=>sW ho hd hs 4 _ _ x (by simpa [hk] using k.2)
 pyHash:=fun{A E s k a Q} hu r h=>qz 4 A E s _ _ Q r (by simpa [hk] using k.2) (by lia) h
 eqBool:=fun{A E s x y a b Q} hu hx hy h=>by
  have px:=hV 4 (.tup x.1) (by simpa [hk] using x.2)
  have py:=hV 4 (.tup y.1) (by simpa [hk] using y.2)
  refine aI (eZ 4 hx px) fun as rx=>?_
  refine aI (eZ 4 hy py) fun bs ry=>?_
  have lx:=gm 4 _ px
  have ly:=gm 4 _ py
  refine PySem.SeqAt.eqBoolOverData prog w A E s _ _ _ _ _ _ Q rx ry lx.1 ly.1 (by lia) ?_
  refine af (mj 4 4 _ _ px py) ?_
  have:dJ (.tup x.1) (.tup y.1)=decide (x=y):=by
   by_cases e:x=y
   ·refine bt e ?_;refine af (bS rfl) ?_;exact dz 4 _ px
   ·refine af (bH e) ?_
    cases q:dJ (.tup x.1) (.tup y.1) with
    |false=>rfl
    |true=>exact absurd (Subtype.ext (V.tup.inj (dX _ _ q))) e
  refine af this ?_;exact h
 quiet:=fun{A E s k a Q} r h=>sZ 8 A E s _ _ Q r (wH 4 8 _ (by lia) (by simpa [hk] using k.2)) h
end Mine
namespace Mine
open PySem PySem.W PySem.Calls PyProof.Rows
theorem bZ{c:Prop}[Decidable c]{α:Type _}{a b:α}(h:(if c then some a else none)=some b):c∧a=b:=by
 by_cases q:c
 ·rw[aH q] at h;exact⟨q,aQ h⟩
 ·rw[aE q] at h;exact ns h
theorem gI{c:Prop}[Decidable c]{α:Type _}{o:Option α}{b:α}(h:(if c then o else none)=some b):c∧o=some b:=by
 by_cases q:c
 ·rw[aH q] at h;exact⟨q,h⟩
 ·rw[aE q] at h;exact ns h
noncomputable def vf:KK→Nat
 |.i=>1
 |.s=>2
 |.t=>3
noncomputable def FA:Nat→KK
 |1=>.i
 |2=>.s
 |_=>.t
theorem xD(a:KK):FA (vf a)=a:=by induction a using KK.casesOn<;>rfl
theorem wq{a b:KK}(h:vf a=vf b):a=b:=(xD a).symm.trans ((congrArg FA h).trans (xD b))
theorem kx{a b:KK}{Q:Prop}(h:a=b)(n:vf a≠vf b:=by decide):Q:=absurd (congrArg vf h) n
theorem tK{k:V}{kk:KK}:fW k=some kk→mK k=vf kk:=by
 induction k using V.casesOn with
 |int i=>exact fun h=>congrArg vf (aQ h)
 |sym n=>exact fun h=>congrArg vf (bZ h).2
 |tup l=>exact fun h=>congrArg vf (bZ h).2
 |_=>exact ns
theorem je{k:V}:key k=true→∃ kk,fW k=some kk:=by
 induction k using V.casesOn with
 |int i=>exact fun h=>⟨_,rfl⟩
 |sym n=>exact fun h=>⟨.s,aH (of_decide_eq_true h)⟩
 |tup l=>exact fun h=>⟨.t,aH h⟩
 |_=>exact ff
theorem jf{k:V}{kk:KK}:fW k=some kk→key k=true:=by
 induction k using V.casesOn with
 |int i=>exact fun h=>rfl
 |sym n=>exact fun h=>bS (bZ h).1
 |tup l=>exact fun h=>(bZ h).1
 |_=>exact ns
theorem tL{k k':V}{kk:KK}(h:fW k=some kk)(h':key k'=true)(e:mK k=mK k'):fW k'=some kk:=by
 refine aI (je h') fun kk' q=>?_
 refine af (wq ((tK h).symm.trans (e.trans (tK q)))) ?_;exact q
theorem jY{P:Params}{G:GT}{h:Heap}{kk:KK}{ds:List DictEntry}{es:List (V×V)}{k:V}(D:cI P G h kk ds es)(e:be es k=true):∃ kk',cI P G h kk' ds es∧fW k=some kk':=by
 unfold be at e
 rw[Bool.and_eq_true] at e
 induction D using cI.casesOn with
 |nil=>
  refine aI (je e.1) fun kk' q=>?_
  exact⟨kk',.nil,q⟩
 |cons a b c d r=>exact⟨kk,.cons a b c d r,tL b e.1 (by simpa using e.2)⟩
section
variable {P:Params} {G:GT} {h:Heap} {kk:KK}
theorem cI.length{ds:List DictEntry}{es:List (V×V)}(D:cI P G h kk ds es):ds.length=es.length:=by
 induction D with
 |nil=>rfl
 |cons _ _ _ _ _ ih=>(refine ak (List.length_cons) ?_;refine af List.length_cons ?_;(refine af ih ?_;with_reducible rfl))
theorem cI.get{ds:List DictEntry}{es:List (V×V)}(D:cI P G h kk ds es){i:Nat}{e:V×V}(q:es[i]? = some e) :
  ∃ d,ds[i]? = some d∧bh G h d.key e.1∧fW e.1=some kk∧d.hash=gS P e.1∧bh G h d.val e.2:=by
 induction D generalizing i with
 |nil=>simp at q
 |cons a b c d _ ih=>
  induction i using Nat.casesAuxOn with
  |zero=>simp at q;refine bt q ?_;exact⟨_,rfl,a,b,c,d⟩
  |succ i=>simpa using ih (by simpa using q)
theorem cI.append{ds ds':List DictEntry}{es es':List (V×V)}(D:cI P G h kk ds es)(D':cI P G h kk ds' es'):cI P G h kk (ds++ds') (es++es'):=by
 induction D with
 |nil=>exact D'
 |cons a b c d _ ih=>exact .cons a b c d ih
end
noncomputable def eE(es:List (V×V))(k:V):Option Nat:=es.findIdx? fun e=>dJ e.1 k
theorem lb:∀ (es:List (V×V)) (k:V),aJ es k=(eE es k).bind fun i=>(es[i]?).map (·.2)
 |[],k=>rfl
 |e::es,k=>by
  unfold aJ eE
  refine af (List.findIdx?_cons) ?_
  induction q:dJ e.1 k using Bool.casesOn with
  |true=>simp
  |false=>
   have:=lb es k
   unfold eE at this
   simp only[Bool.false_eq_true,if_false]
   refine ak (this) ?_
   cases es.findIdx? (fun e=>dJ e.1 k)<;>simp
theorem iX:∀ (es:List (V×V)) (k v:V) (i:Nat),eE es k=some i→bJ es k v=es.modify i fun e=>(e.1,v)
 |[],k,v,i,h=>by simp[eE] at h
 |e::es,k,v,i,h=>by
  delta eE at h
  rw[List.findIdx?_cons] at h
  unfold bJ
  induction q:dJ e.1 k using Bool.casesOn with
  |true=>rw[q] at h;simp at h;subst h;rfl
  |false=>
   rw[q] at h
   simp only[Bool.false_eq_true,if_false,Option.map_eq_some_iff] at h ⊢
   refine o1x2 h fun j hj e2=>?_;clear h;obtain rfl:=e2
   refine af (iX es k v j hj) ?_;rfl
theorem iY:∀ (es:List (V×V)) (k v:V),eE es k=none→bJ es k v=es++[(k,v)]
 |[],k,v,h=>rfl
 |e::es,k,v,h=>by
  delta eE at h
  rw[List.findIdx?_cons] at h
  unfold bJ
  induction q:dJ e.1 k using Bool.casesOn with
  |true=>rw[q] at h;simp at h
  |false=>
   rw[q] at h
   simp only[Bool.false_eq_true,if_false,Option.map_eq_none_iff] at h ⊢
   refine af (iY es k v h) ?_;rfl
theorem n0{es:List (V×V)}{k:V}{i:Nat}(h:eE es k=some i):∃ e,es[i]? = some e∧dJ e.1 k=true:=by
 unfold eE at h
 obtain⟨hi,q,_⟩:=List.findIdx?_eq_some_iff_getElem.mp h
 exact⟨es[i],by simp[hi],q⟩
set_option tactic.hygienic true in
theorem iM:∀ {es:List (V×V)} {k v:V},g9 es→g9 (bJ es k v)
 |[],k,v,_=>⟨fun za h=>by simp at h,trivial⟩
 |e::es,k,v,h=>by
  unfold bJ
  split
  ·exact⟨h.1,h.2⟩
  ·rename_i q
   refine⟨fun e' he'=>?_,iM h.2⟩
   have mem:∀ (es:List (V×V)),e' ∈ bJ es k v→(∃ e'' ∈ es,e'.1=e''.1)∨e'.1=k:=by
    intro es
    induction es with
    |nil=>intro hm;simp[bJ] at hm;exact .inr (by(refine af hm ?_;with_reducible rfl))
    |cons x es ih=>
     intro hm
     unfold bJ at hm
     split at hm
     ·rcases List.mem_cons.mp hm with rfl | hm
      ·exact .inl ⟨x,.head _,rfl⟩
      ·exact .inl ⟨e',.tail _ hm,rfl⟩
     ·rcases List.mem_cons.mp hm with rfl | hm
      ·exact .inl ⟨_,.head _,rfl⟩
      ·rcases ih hm with⟨e'',h1,h2⟩ | h1
       ·exact .inl ⟨e'',.tail _ h1,h2⟩
       ·exact .inr h1
   rcases mem es he' with⟨e'',h1,h2⟩ | h1
   ·refine af h2 ?_;exact h.1 _ h1
   ·refine af h1 ?_
    induction z:dJ k e.1 using Bool.casesOn with
    |false=>rfl
    |true=>
     have:=dX _ _ z
     rw[this] at q z
     exact absurd z q
open Classical in
theorem pV{prog:Program}{w:World}{G:GT}{h:Heap}:∀ {ds:List DictEntry} {es:List (V×V)},cI w.params G h .t ds es→g9 es→
  ∃ xs:List (TK×Addr×Value),ds=xs.map (entryOfKey (sw prog w G))∧(∀ x ∈ xs,(sw prog w G).is h x.1 x.2.1)∧(xs.map (·.1)).Nodup∧es.map (·.1)=xs.map fun x=>V.tup x.1.1
 |_,_,.nil,_=>⟨[],rfl,fun za h=>by simp at h,List.nodup_nil,rfl⟩
 |d::ds',e::es',.cons a b c q r,o=>by
  refine o1x4 (pV (prog:=prog) r o.2) fun xs h1 h2 h3 h4=>?_
  obtain⟨k,v⟩:=e
  dsimp only at a b c q
  induction k using V.casesOn with
  |tup l=>
   have hl:tT 3 l=true:=by
    unfold fW at b;dsimp only at b
    split at b
    ·assumption
    ·exact ns b
   refine o3x2 a.tup_inv fun a' vs n ek za=>?_
   refine⟨(⟨l,hl⟩,a',d.val)::xs,?_,?_,?_,?_⟩
   ·(rewrite[List.map_cons];rw[← h1])
    congr 1
    obtain⟨dh,dk,dv⟩:=d
    dsimp only at ek c a
    (refine af ek ?_;refine af c ?_)
    rfl
   ·intro x hx
    rcases List.mem_cons.mp hx with rfl | hx
    ·show bh G h (.ref a') (.tup l)
     rw[← ek];exact a
    ·exact h2 x hx
   ·(rewrite[List.map_cons];rw[List.nodup_cons])
    refine⟨fun hm=>?_,h3⟩
    refine o1x2 (List.mem_map.mp hm) fun x hx ex=>?_
    have:V.tup l ∈ es'.map (·.1):=by
     rw[h4]
     exact List.mem_map.mpr ⟨x,hx,by rw[ex]⟩
    refine o1x2 (List.mem_map.mp this) fun e' he' ee=>?_
    have z:=o.1 e' he'
    dsimp only at z
    (rewrite[ee] at z;rw[dz 4 _ (hV 4 _ (by simpa [hk] using hl))] at z)
    exact tf z
   ·(rewrite[List.map_cons];rewrite[List.map_cons];rw[h4])
  |int i=>cases b
  |sym n=>exact kx (bZ b).2
  |_=>exact ns b
theorem gq{α:Type}(ds:Array α)(p:α→Bool):ds.findIdx? p=ds.toList.findIdx? p:=by obtain⟨l⟩:=ds;simp
theorem Ck(P:Params)(i:Int):gS P (.int i)=hashInt i:=rfl
section
variable {prog:Program} {w:World} {A:Around} {E:Value→Shared→Prop} {s:Shared} {G:GT}
theorem pf{h:Heap}{ds:Array DictEntry}{es:List (V×V)}(D:cI w.params G h .i ds.toList es):KeysOf (intKind prog w) ds:=by
 intro e he
 have he':=Array.mem_toList_iff.mpr he
 generalize ds.toList=l at D he'
 induction D with
 |nil=>simp at he'
 |@cons d ds' x es' a b c q r ih=>
  rcases List.mem_cons.mp he' with rfl | he'
  ·obtain⟨k,v⟩:=x
   dsimp only at a b c
   induction k using V.casesOn with
   |int i=>obtain⟨t,et⟩:=a.int_inv;exact⟨i,by refine af et ?_;simp[intKind,Value.isInt],c⟩
   |sym n=>exact kx (bZ b).2
   |tup n=>exact kx (bZ b).2
   |_=>exact ns b
  ·exact ih he'
theorem pe{h:Heap}{ds:Array DictEntry}{es:List (V×V)}(D:cI w.params G h .s ds.toList es):KeysOf (PySem.strKind prog w) ds:=by
 intro e he
 have he':=Array.mem_toList_iff.mpr he
 generalize ds.toList=l at D he'
 induction D with
 |nil=>simp at he'
 |@cons d ds' x es' a b c q r ih=>
  rcases List.mem_cons.mp he' with rfl | he'
  ·obtain⟨k,v⟩:=x
   dsimp only at a b c
   induction k using V.casesOn with
   |sym i=>refine o1x2 a.sym_inv fun t et za=>?_;exact⟨cy i,by refine af et ?_;simp[PySem.strKind,Value.isStrOf],c⟩
   |int n=>cases b
   |tup n=>exact kx (bZ b).2
   |_=>exact ns b
  ·exact ih he'
theorem qx{h:Heap}{i:Int}:∀ {ds:List DictEntry} {es:List (V×V)},cI w.params G h .i ds es→(ds.findIdx? fun e=>Value.isInt i e.key)=eE es (.int i)
 |_,_,.nil=>rfl
 |d::_,(k,v)::_,.cons a b c q r=>by
  have ih:=qx (i:=i) r
  unfold eE at ih ⊢
  (refine ak (List.findIdx?_cons) ?_;refine af (List.findIdx?_cons) ?_;refine af ih ?_)
  dsimp only at a b c
  induction k using V.casesOn with
  |int j=>
   refine aI a.int_inv fun t et=>?_
   refine af et ?_
   have:Value.isInt i (.int j t)=dJ (.int j) (.int i):=rfl
   (refine af this ?_;with_reducible rfl)
  |sym n=>exact kx (bZ b).2
  |tup n=>exact kx (bZ b).2
  |_=>exact ns b
theorem qw{h:Heap}{i:Nat}(hi:i<NT):∀ {ds:List DictEntry} {es:List (V×V)},cI w.params G h .s ds es→(ds.findIdx? fun e=>Value.isStrOf (cy i) e.key)=eE es (.sym i)
 |_,_,.nil=>rfl
 |d::_,(k,v)::_,.cons a b c q r=>by
  have ih:=qw hi r
  unfold eE at ih ⊢
  (refine ak (List.findIdx?_cons) ?_;refine af (List.findIdx?_cons) ?_;refine af ih ?_)
  dsimp only at a b c
  induction k using V.casesOn with
  |sym j=>
   refine o1x2 a.sym_inv fun t et hj=>?_
   refine af et ?_
   have:Value.isStrOf (cy i) (.str (cy j) t)=dJ (.sym j) (.sym i):=by
    by_cases e:j=i
    ·refine af e ?_;simp[Value.isStrOf,dJ]
    ·have:¬cy j=cy i:=fun z=>e (ia hj hi z)
     simp[Value.isStrOf,dJ,e,this]
   (refine af this ?_;with_reducible rfl)
  |int n=>cases b
  |tup n=>exact kx (bZ b).2
  |_=>exact ns b
set_option tactic.hygienic true in
open Classical in
theorem mf{d:Addr}{ds:Array DictEntry}{n:Nat}{es:List (V×V)}{kk:KK}{kv:Value}{k:V}{Q:Option Nat→Shared→Prop}(ho:s.heap.get? d=some { cls:=.type "dict",data:=.dict ds n })
  (D:cI w.params G s.heap kk ds.toList es) (O:g9 es) (rk:bh G s.heap kv k) (hk:fW k=some kk) (hu:A.units+64<cLine) (h:Q (eE es k) s):wpAny (model prog w) A (dictFind d kv (gS w.params k)) Q E s:=by
 induction k using V.casesOn with
 |int i=>
  obtain rfl:=aQ hk
  refine aI rk.int_inv fun t e1=>?_;obtain rfl:=e1
  refine wpAny_dictFind_of (knd:=intKind prog w) (k:=i) (by simp[intKind,Value.isInt]) ho rfl (pf D) ?_
  (rewrite[gq];refine af (show(ds.toList.findIdx? fun e=>(intKind prog w).is i e.key)=_ from qx D) ?_);exact h
 |sym i=>
  refine o1x2 rk.sym_inv fun t e1 hi=>?_;refine af e1 ?_
  have:kk=.s:=by unfold fW at hk;dsimp only at hk;rw[aH hi] at hk;refine af (aQ hk) ?_;rfl
  subst this
  refine wpAny_dictFind_of (knd:=PySem.strKind prog w) (k:=cy i) (by simp[PySem.strKind,Value.isStrOf]) ho rfl (pe D) ?_
  (rewrite[gq];refine af (show(ds.toList.findIdx? fun e=>(PySem.strKind prog w).is (cy i) e.key)=_ from qw hi D) ?_);exact h
 |tup l=>
  have hl:tT 3 l=true∧kk=.t:=by
   unfold fW at hk;dsimp only at hk
   split at hk
   ·rename_i z;refine af (aQ hk) ?_;exact⟨z,rfl⟩
   ·exact ns hk
  obtain⟨hl,rfl⟩:=hl
  obtain⟨a,vs,m,rfl,_⟩:=rk.tup_inv
  obtain⟨xs,h1,h2,h3,h4⟩:=pV (prog:=prog) D O
  have key:∀ j:Nat,(es[j]?).map (·.1)=(xs[j]?).map fun x=>V.tup x.1.1:=fun j=>by
   (refine bt (List.getElem?_map) ?_;refine af h4 ?_;(refine ak (List.getElem?_map) ?_;with_reducible rfl))
  have iff:∀ j:Nat,(∃ p,xs[j]? = some ((⟨l,hl⟩:TK),p))↔∃ e,es[j]? = some e∧dJ e.1 (.tup l)=true:=fun j=>by
   have kj:=key j
   constructor
   ·intro p0;refine aI p0 fun p hp=>?_;clear p0
    rw[hp] at kj
    induction q:es[j]? using Option.casesOn with
    |none=>rw[q] at kj;exact ns kj
    |some e=>
     rw[q] at kj
     have:e.1=.tup l:=aQ kj
     exact⟨e,rfl,by refine af this ?_;exact dz 4 _ (hV 4 _ (by simpa [Mine.hk] using hl))⟩
   ·intro p0;refine o1x2 p0 fun e he hv=>?_;clear p0
    rw[he] at kj
    induction q:xs[j]? using Option.casesOn with
    |none=>rw[q] at kj;exact sn kj
    |some x=>
     rw[q] at kj
     obtain⟨x1,p⟩:=x
     refine⟨p,?_⟩
     have e1:=dX _ _ hv
     have:V.tup x1.1=.tup l:=by refine bt e1 ?_;exact(aQ kj).symm
     have:x1=⟨l,hl⟩:=Subtype.ext (V.tup.inj this)
     refine af this ?_
     rfl
  refine wpAny_dictFind_heap (knd:=sw prog w G) (k:=⟨l,hl⟩) hu rk ho rfl h1 h2 h3 (fun hno=>?_) fun j p hj=>?_
  ·have:eE es (.tup l)=none:=by
    unfold eE
    rw[List.findIdx?_eq_none_iff]
    intro e he
    cases q:dJ e.1 (.tup l) with
    |false=>rfl
    |true=>
     refine aI (List.mem_iff_getElem?.mp he) fun j hj=>?_
     refine aI ((iff j).mpr ⟨e,hj,q⟩) fun p hp=>?_
     exact absurd hp (hno j p)
   rw[this] at h;exact h
  ·have:eE es (.tup l)=some j:=by
    cases q:eE es (.tup l) with
    |none=>
     refine o1x2 ((iff j).mp ⟨p,hj⟩) fun e he hv=>?_
     unfold eE at q
     rw[List.findIdx?_eq_none_iff] at q
     rw[q e (List.mem_of_getElem? he)] at hv;exact ff hv
    |some i=>
     refine o1x2 (n0 q) fun e he hv=>?_
     refine aI ((iff i).mpr ⟨e,he,hv⟩) fun p' hp'=>?_
     (refine af (idxH_unique h3 hp' hj) ?_;with_reducible rfl)
   rw[this] at h;exact h
 |_=>exact ns hk
theorem nS{kv:Value}{k:V}{Q:Int→Shared→Prop}(rk:bh G s.heap kv k)(hk:key k=true)(hu:A.units+64<cLine)(h:∀ tk,Q (gS w.params k) { s with toks:=tk }):wpAny (model prog w) A (pyHash kv) Q E s:=
 qz 4 A E s kv k Q rk hk (by lia) (h _)
theorem mv{d:Addr}{ds:Array DictEntry}{n:Nat}{es:List (V×V)}{kk:KK}{kv:Value}{k:V}{Q:Option Value→Shared→Prop}(ho:s.heap.get? d=some { cls:=.type "dict",data:=.dict ds n })
  (D:cI w.params G s.heap kk ds.toList es) (O:g9 es) (rk:bh G s.heap kv k) (hk:be es k=true) (hu:A.units+64<cLine)
  (h1:∀ x v tk,aJ es k=some x→bh G s.heap v x→Q (some v) { s with toks:=tk }) (h2:∀ tk,aJ es k=none→Q none { s with toks:=tk }) :
  wpAny (model prog w) A (dictGet d kv) Q E s:=by
 refine o1x2 (jY D hk) fun kk D hkk=>?_
 unfold dictGet
 try with_reducible refine wpAny_holding ?_
 refine wpAny_bind (nS rk (jf hkk) hu fun tk=>wpAny_bind (mf (s:={ s with toks:=tk }) ho D O rk hkk hu ?_))
 have e:=lb es k
 induction q:eE es k using Option.casesOn with
 |none=>rw[q] at e;exact wpAny_pure (h2 tk e)
 |some i=>
  rw[q] at e
  refine o1x2 (n0 q) fun x hx za=>?_
  refine o1x5 (D.get hx) fun y hy za za za ry=>?_
  (rewrite[Option.bind_some] at e;rw[hx] at e)
  refine wpAny_bind (wpAny_dictEntries (s:={ s with toks:=tk }) ho rfl ?_)
  refine af (show ds[i]? = some y from by rw[← Array.getElem?_toList];exact hy) ?_
  exact wpAny_pure (h1 _ _ tk e ry)
theorem qB{d:Addr}{ds:Array DictEntry}{n:Nat}{es:List (V×V)}{kk:KK}{kv v:Value}{k x:V}{Q:Unit→Shared→Prop}(ho:s.heap.get? d=some { cls:=.type "dict",data:=.dict ds n })
  (D:cI w.params G s.heap kk ds.toList es) (O:g9 es) (rk:bh G s.heap kv k) (hk:be es k=true) (hu:A.units+64<cLine) (hz:es.length<bM) (rv:bh G s.heap v x)
  (h:∀ h' tk ds' n' kk',Heap.SameBut d s.heap h'→h'.get? d=some { cls:=.type "dict",data:=.dict ds' n' }→cI w.params G s.heap kk' ds'.toList (bJ es k x)→(bJ es k x).length≤bM→Q () { s with heap:=h',toks:=tk }) :
  wpAny (model prog w) A (dictSet d kv v) Q E s:=by
 refine o1x2 (jY D hk) fun kk D hkk=>?_
 unfold dictSet
 try with_reducible refine wpAny_holding ?_
 refine wpAny_bind (nS rk (jf hkk) hu fun tk=>?_)
 unfold dictSetHashed
 try with_reducible refine wpAny_holding ?_
 refine wpAny_bind (mf (s:={ s with toks:=tk }) ho D O rk hkk hu ?_)
 have hl:ds.size=es.length:=by refine bt D.length ?_;simp
 induction q:eE es k using Option.casesOn with
 |none=>
  refine wpAny_bind (wpAny_rule (wpAny_updateDictKeys (hz:=by refine af hl ?_;unfold bM at hz;refine af sizeLine_eq ?_;lia) (s:={ s with toks:=tk }) ho rfl ?_))
  refine h _ tk _ _ kk (Heap.SameBut.update ..) (Heap.get?_update_self _ ho rfl) ?_ ?_
  ·(refine af (iY _ _ _ q) ?_;refine af Array.toList_push ?_)
   exact D.append (.cons rk hkk rfl rv .nil)
  ·refine af (iY _ _ _ q) ?_;simp;lia
 |some i=>
  refine wpAny_bind (wpAny_rule (wpAny_bind (wpAny_updateDict (s:={ s with toks:=tk }) ho rfl (wpAny_point ?_))))
  refine h _ tk _ _ kk (Heap.SameBut.update ..) (Heap.get?_update_self _ ho rfl) ?_ ?_
  ·(refine af (iX _ _ _ _ q) ?_;refine af Array.toList_modify ?_)
   have:∀ {ds:List DictEntry} {es:List (V×V)},cI w.params G s.heap kk ds es→∀ i,cI w.params G s.heap kk (ds.modify i fun e=>{ e with val:=v }) (es.modify i fun e=>(e.1,x)):=by
    intro ds es D
    induction D with
    |nil=>intro i;induction i using Nat.casesAuxOn<;>exact .nil
    |cons a b c d r ih=>
     intro i
     induction i using Nat.casesAuxOn with
     |zero=>simp only[List.modify_zero_cons];exact .cons a b c rv r
     |succ i=>simp only[List.modify_succ_cons];exact .cons a b c d (ih i)
   exact this D i
  ·refine af (iX _ _ _ _ q) ?_;simp;lia
end
end Mine
namespace Mine
open PySem PySem.W PySem.Calls PyProof.Rows
section
variable {P:Params} {G:GT} {h₀ h h':Heap} {Z:H}
theorem fi.ext(k:∀ b o,h.get? b=some o→h'.get? b=some o){a:Addr}{o:O}(R:fi P G h a o):fi P G h' a o:=R.move (fun b x e za=>k b x e) fun b za x e=>k b x e
theorem St.ext(S:St P G h₀ Z h)(k:∀ b o,h.get? b=some o→h'.get? b=some o):St P G h₀ Z h'∧oG Z h Z h':=
 ⟨⟨fun a o e=>(S.obj a o e).ext k,S.inst,S.new,fun b o e=>k b o (S.base b o e)⟩,⟨fun b o e za=>k b o e,fun za o=>.inl o⟩⟩
theorem dS(h:Heap):h.get? h.objs.size=none:=Heap.get?_none_of_le (Nat.le_refl _)
end
structure Go (P:Params) (G:GT) (h₀:Heap) (Z:H) (s:Shared) (Z':H) (s':Shared):Prop where
 eq:∃ h' tk,s'={ s with heap:=h',toks:=tk }
 st:St P G h₀ Z' s'.heap
 eff:oG Z s.heap Z' s'.heap
section
variable {P:Params} {G:GT} {h₀:Heap} {Z Z' Z'':H} {s s' s'':Shared}
theorem Go.refl(S:St P G h₀ Z s.heap):Go P G h₀ Z s Z s:=⟨⟨_,_,rfl⟩,S,oG.refl ..⟩
theorem Go.trans(x:Go P G h₀ Z s Z' s')(y:Go P G h₀ Z' s' Z'' s''):Go P G h₀ Z s Z'' s'':=by
 refine o2x1 x.eq fun h1 t1 e1=>?_
 refine o2x1 y.eq fun h2 t2 e2=>?_
 exact⟨⟨h2,t2,by(refine ak (e2) ?_;(refine af e1 ?_;with_reducible rfl))⟩,y.st,x.eff.trans y.eff⟩
theorem Go.tok(S:St P G h₀ Z s.heap)(tk:Nat):Go P G h₀ Z s Z { s with toks:=tk }:=⟨⟨_,_,rfl⟩,S,oG.refl ..⟩
theorem Go.ext(S:St P G h₀ Z s.heap){h':Heap}{tk:Nat}(k:∀ b o,s.heap.get? b=some o→h'.get? b=some o):Go P G h₀ Z s Z { s with heap:=h',toks:=tk }:=
 ⟨⟨_,_,rfl⟩,(S.ext k).1,(S.ext k).2⟩
theorem Go.push(S:St P G h₀ Z s.heap)(o:Obj)(tk:Nat):Go P G h₀ Z s Z { s with heap:=s.heap.push o,toks:=tk }:=
 Go.ext S (fun b x e=>Heap.get?_push_of_some _ e)
theorem Go.stays(x:Go P G h₀ Z s Z' s')(S:St P G h₀ Z s.heap):b8 s.heap s'.heap:=x.eff.stays S
theorem Go.rep(x:Go P G h₀ Z s Z' s')(S:St P G h₀ Z s.heap){v:Value}{y:V}(r:bh G s.heap v y):bh G s'.heap v y:=r.stays (x.stays S)
end
noncomputable def bU(P:Params)(G:GT)(h₀:Heap)(Z:H)(s:Shared)(Q:aP):Value→Shared→Prop:=fun v s'=>∃ x Z',Q x Z'∧bh G s'.heap v x∧Go P G h₀ Z s Z' s'
section
variable {P:Params} {G:GT} {h₀:Heap} {Z:H} {s:Shared} {Q:aP}
theorem bU.val(S:St P G h₀ Z s.heap){v:Value}{x:V}(q:Q x Z)(r:bh G s.heap v x)(tk:Nat):bU P G h₀ Z s Q v { s with toks:=tk }:=⟨x,Z,q,r,Go.tok S tk⟩
theorem bU.int(S:St P G h₀ Z s.heap){i:Int}(q:Q (.int i) Z)(t:Tok)(tk:Nat):bU P G h₀ Z s Q (.int i t) { s with toks:=tk }:=⟨_,Z,q,.int i t,Go.tok S tk⟩
theorem bU.here(S:St P G h₀ Z s.heap){v:Value}{x:V}(q:Q x Z)(r:bh G s.heap v x):bU P G h₀ Z s Q v s:=⟨x,Z,q,r,Go.refl S⟩
theorem bU.tup(S:St P G h₀ Z s.heap){vs:Array Value}{l:List V}(q:Q (.tup l) Z)(r:bx G s.heap vs.toList l)(z:l.length≤bM)(tk:Nat) :
  bU P G h₀ Z s Q (.ref s.heap.objs.size) { s with heap:=s.heap.push { cls:=.type "tuple",data:=.seq vs },toks:=tk }:=
 ⟨_,Z,q,.tup (Heap.get?_push_size _ rfl) (r.stays fun b x e za=>Heap.get?_push_of_some _ e) z,Go.push S _ tk⟩
theorem bU.list(S:St P G h₀ Z s.heap){vs:Array Value}{l:List V}(q:gf (.list l) Q Z)(r:bx G s.heap vs.toList l)(z:l.length≤bM)(tk:Nat) :
  bU P G h₀ Z s Q (.ref s.heap.objs.size) { s with heap:=s.heap.push { cls:=.type "list",data:=.seq vs },toks:=tk }:=by
 have A:=S.add (h':=s.heap.push { cls:=.type "list",data:=.seq vs }) (a:=s.heap.objs.size) (o:=.list l) (fun b t=>by refine af (show b=_ from t) ?_;exact dS _) (fun b x e=>Heap.get?_push_of_some _ e)
  (fun za za e=>by cases e) ⟨vs,0,Heap.get?_push_size _ rfl,r.stays fun b x e za=>Heap.get?_push_of_some _ e,z⟩
 exact⟨_,_,q _ A.2.2,.ref _,⟨_,_,rfl⟩,A.1,A.2.1⟩
theorem bU.dict(S:St P G h₀ Z s.heap){l:List (V×V)}(q:gf (.dict l) Q Z){h':Heap}{ds:Array DictEntry}{n:Nat}{kk:KK}{a:Addr}(ha:s.heap.get? a=none)(k:∀ b o,s.heap.get? b=some o→h'.get? b=some o)
  (e:h'.get? a=some { cls:=.type "dict",data:=.dict ds n }) (D:cI P G h' kk ds.toList l) (o:g9 l) (zl:l.length≤bM) (tk:Nat) :
  bU P G h₀ Z s Q (.ref a) { s with heap:=h',toks:=tk }:=by
 have A:=S.add (h':=h') (a:=a) (o:=.dict l) (fun b t=>by refine af (show b=_ from t) ?_;exact ha) k (fun za za e=>by cases e) ⟨ds,n,kk,e,D,o,zl⟩
 exact⟨_,_,q _ A.2.2,.ref _,⟨_,_,rfl⟩,A.1,A.2.1⟩
end
theorem oU:∀ n,n<NT→(cy n).length≤90:=by
 have:((List.range NT).all fun n=>decide ((cy n).length≤90))=true:=by decide +kernel
 intro n hn
 simpa using List.all_eq_true.mp this n (List.mem_range.mpr hn)
theorem cr{n:Nat}(h:n≤bM):n≤sizeLine:=by delta bM at h;refine af sizeLine_eq ?_;lia
theorem iT:fillsNumberSlot (.type "tuple") "mul" = pure false:=
 PySem.fillsNumberSlot_seq (id := "tuple.__mul__") (r:=some (.builtin "tuple.__rmul__")) F.slot_tuple_mul.lookup (by decide +kernel) F.slot_tuple_rmul.lookup (by decide +kernel)
theorem lR:seqRepeat? (.type "tuple")=pure (some (.builtin "tuple.__mul__")):=by
 skip
 (refine ak (PySem.seqSlot_of (T := "tuple") (name := "__mul__") (id := "tuple.__mul__") F.slot_tuple_mul.lookup (by decide +kernel)) ?_;refine af (PySem.seqSlot_of (T := "tuple") (name := "__rmul__") (id := "tuple.__rmul__") F.slot_tuple_rmul.lookup (by decide +kernel)) ?_)
 rfl
open MeetsSeq in
theorem j1(a:Int)(t:Tok)(l:Addr)(items:Array Value)(n:Nat) :
  Meets (Builtin.«int.__rmul__» ⟨[.int a t,.ref l],[]⟩) (fun za R s=>s.heap.get? l=some { cls:=.type "tuple",dict:=none,data:=.seq items n,slots:=#[] }∧R (.ok (.ret Value.notImplemented)) s):=
 .of_wp fun prog w A R s h=>by obtain⟨hp,g,d,tk,os⟩:=s;refine o0x2 h fun hl h=>?_;wp_walk;exact⟨_,rfl,h⟩
open MeetsSeq in
theorem kA(l:Addr)(v:Value)(n:Nat)(u:Tok) :
  Meets (Builtin.«tuple.__mul__» ⟨[.ref l,.int 2 u],[]⟩) (fun za R s=>s.heap.get? l=some { cls:=.type "tuple",dict:=none,data:=.seq #[v] n,slots:=#[] }∧R (.ok (.ret (.ref s.heap.objs.size))) { s with heap:=s.heap.push { cls:=.type "tuple",data:=.seq #[v,v] } }):=
 .of_wp fun prog w A R s h=>by
  refine o0x2 h fun hl h=>?_
  show wpAny _ _ (do
   let n ← asIndex (.int 2 u)
   if n < -(2 ^ 63) || n≥2 ^ 63 then
    rule "tuple.repeat.overflow";raiseError "OverflowError" s!"cannot fit '{← typeNameOf (.int 2 u)}' into an index-sized integer"
   let xs ← Builtin.Tuple.tupleItemsOf (.ref l)
   if xs.isEmpty || n == 1 then
    if ← Builtin.Tuple.tupleIsExact (.ref l) then rule "tuple.repeat.same-object";return ← ret (.ref l)
   if n≤0 || xs.isEmpty then return ← ret (← Builtin.Tuple.tupleExact #[])
   if xs.size * n > (2 ^ 63 - 1) / 8 then rule "tuple.repeat.no-memory";raiseNew (← newExc (.type "MemoryError") [])
   if Builtin.Tuple.tupleTooMany (xs.size * n) then unsupported "tuple.__mul__:memory"
   ret (← Builtin.Tuple.tupleExact ((List.replicate n.toNat xs).foldl (·++·) #[]))) _ _ s
  refine wpAny_bind (wpAny_of_eq (a:=2) rfl ?_)
  refine af (aE (by decide)) ?_
  refine wpAny_bind (tupleItemsOf_ ⟨_,hl,rfl,n,rfl⟩ ?_)
  (refine af (aE (by simp)) ?_;refine af (aE (by simp)) ?_;refine af (aE (by show ¬((1:Int) * 2 > (2 ^ 63 - 1) / 8);lia)) ?_;refine af (aE (by show ¬(decide ((1:Int) * 2 > (sizeLine:Int))=true);rw[sizeLine_eq];trivial)) ?_)
  refine wpAny_bind (m:=Builtin.Tuple.tupleExact _) (wpAny_newObj_type (wpAny_pure ⟨_,rfl,h⟩) (by show _≤sizeLine;refine af sizeLine_eq ?_;show 2≤_;lia))
section
variable {prog:Program} {w:World} {A:Around} {E:Value→Shared→Prop} {s:Shared}
theorem kD{l:Addr}{v:Value}{n:Nat}{u:Tok}{Q:Value→Shared→Prop}(hl:s.heap.get? l=some { cls:=.type "tuple",data:=.seq #[v] n })
  (h:Q (.ref s.heap.objs.size) { s with heap:=s.heap.push { cls:=.type "tuple",data:=.seq #[v,v] } }):wpAny (model prog w) A (binaryOp .Mult (.ref l) (.int 2 u)) Q E s:=
 wpAny_binaryOp_repeat_ref (T := "tuple") (U := "int") (by decide) ⟨_,hl,rfl⟩ (fun s'=>typeIs_int s' 2 u) iT F.fills_int_mul F.slot_int_rmul lR F.slot_int_index.lookup
  (call_meets F.slot_int_rmul (typeIs_int s 2 u) F.entry_int_rmul (F.args_int_rmul_2 _ _) (j1 2 u l #[v] n)
   ⟨hl,rfl,⟨_,hl,rfl⟩,call_meets F.slot_tuple_mul ⟨_,hl,rfl⟩ F.entry_tuple_mul (F.args_tuple_mul_2 _ _) (kA l v n u) ⟨hl,h⟩⟩)
end
theorem nB{x:Int}(h:x.natAbs<2 ^ 40):Builtin.Int.intBits x≤64:=intBits_le_64 (by lia) (by lia)
section
variable {prog:Program} {w:World} {A:Around} {E:Value→Shared→Prop} {s:Shared} {G:GT} {h₀:Heap} {Z:H} {Q:aP}
theorem xn{va vb:Value}{x:Nat}{y:Str}(S:St w.params G h₀ Z s.heap)(ra:bh G s.heap va (.sym x))(rb:bh G s.heap vb (.str y))(hy:y.cps.size≤5)(h:Q (.str ⟨y.cps.push 0⟩) Z):wpAny (model prog w) A (binaryOp .Add va vb) (bU w.params G h₀ Z s Q) E s:=by
 refine o1x2 ra.sym_inv fun t e1 hn=>?_;refine af e1 ?_;refine o2x2 rb.str_inv fun x u e2 hl=>?_;refine af e2 ?_
 have hs:=oU _ hn
 unfold Str.length at hl hs
 refine add_str (fun t' tk=>bU.val S h (.str _ _ _ ?_) _) ?_
 ·rw[strLen_append]
  show _≤10+100 * (Array.push _ _).size
  rw[Array.size_push]
  unfold Str.length
  lia
 ·refine af sizeLine_eq ?_;delta Str.length;lia
theorem xm{va vb:Value}{x y:List V}(S:St w.params G h₀ Z s.heap)(ra:bh G s.heap va (.tup x))(rb:bh G s.heap vb (.tup y))(z:x.length+y.length≤bM)(h:Q (.tup (x++y)) Z):wpAny (model prog w) A (binaryOp .Add va vb) (bU w.params G h₀ Z s Q) E s:=by
 refine o3x2 ra.tup_inv fun p vs n e3 q9=>?_;obtain rfl:=e3;refine o0x3 q9 fun e1 r1 za=>?_;clear q9;refine o3x2 rb.tup_inv fun q us m e3 q9=>?_;obtain rfl:=e3;refine o0x3 q9 fun e2 r2 za=>?_;clear q9
 have l1:=r1.length
 have l2:=r2.length
 by_cases c1:vs.isEmpty=true
 ·refine concat_meets ⟨_,e1,rfl⟩ ⟨_,e2,rfl⟩ noFill_tuple_add seq_tuple_add F.slot_tuple_add F.entry_tuple_add (F.args_tuple_add_2 _ _) (AutoSeq1.tuple___add___tuple_tuple_0 p vs n q us m c1) ⟨e1,e2,?_⟩
  have:vs = #[]:=by simpa using c1
  subst this
  cases r1
  exact bU.here S h rb
 ·by_cases c2:us.isEmpty=true
  ·refine concat_meets ⟨_,e1,rfl⟩ ⟨_,e2,rfl⟩ noFill_tuple_add seq_tuple_add F.slot_tuple_add F.entry_tuple_add (F.args_tuple_add_2 _ _) (AutoSeq1.tuple___add___tuple_tuple_1 p vs n q us m c1 c2) ⟨e1,e2,?_⟩
   have:us = #[]:=by simpa using c2
   subst this
   cases r2
   rw[List.append_nil] at h
   exact bU.here S h ra
  ·refine concat_meets ⟨_,e1,rfl⟩ ⟨_,e2,rfl⟩ noFill_tuple_add seq_tuple_add F.slot_tuple_add F.entry_tuple_add (F.args_tuple_add_2 _ _) (AutoSeq1.tuple___add___tuple_tuple_2 p vs n q us m c1 c2 (cr (by simp at l1 l2;lia))) ⟨e1,e2,?_⟩
   exact bU.tup S h (by refine af Array.toList_append ?_;exact r1.append r2) (by refine af List.length_append ?_;exact z) _
theorem xo{a b:Addr}{xs ys:List V}(S:St w.params G h₀ Z s.heap)(h1:Z a=some (.list xs))(h2:Z b=some (.list ys))(z:xs.length+ys.length≤bM)(h:gf (.list (xs++ys)) Q Z):wpAny (model prog w) A (binaryOp .Add (.ref a) (.ref b)) (bU w.params G h₀ Z s Q) E s:=by
 refine o2x3 (S.obj _ _ h1) fun vs n e1 r1 za=>?_
 refine o2x3 (S.obj _ _ h2) fun us m e2 r2 za=>?_
 have l1:=r1.length
 have l2:=r2.length
 exact P.add_list e1 e2 (bU.list S h (by refine af Array.toList_append ?_;exact r1.append r2) (by refine af List.length_append ?_;exact z) _) (cr (by simp at l1 l2;lia))
theorem vZ{va vb:Value}{x:V}(S:St w.params G h₀ Z s.heap)(ra:bh G s.heap va (.tup [x]))(rb:bh G s.heap vb (.int 2))(h:Q (.tup [x,x]) Z):wpAny (model prog w) A (binaryOp .Mult va vb) (bU w.params G h₀ Z s Q) E s:=by
 refine o3x2 ra.tup_inv fun p vs n e3 q9=>?_;refine af e3 ?_;refine o0x3 q9 fun e1 r1 za=>?_;clear q9;refine aI rb.int_inv fun u e1=>?_;refine af e1 ?_
 obtain⟨l⟩:=vs
 cases r1 with
 |cons r r'=>
  cases r'
  exact kD e1 (bU.tup S h (.cons r (.cons r .nil)) (by show 2≤100000;lia) _)
theorem AO{op:Operator}{va vb:Value}{a b:V}(S:St w.params G h₀ Z s.heap)(ra:bh G s.heap va a)(rb:bh G s.heap vb b)(h:w9 op a b Q Z) :
  wpAny (model prog w) A (binaryOp op va vb) (bU w.params G h₀ Z s Q) E s:=by
 induction op using Operator.casesOn with
 |Add=>
  induction a using V.casesOn with
  |int x=>
   induction b using V.casesOn with
   |int y=>
    refine aI ra.int_inv fun t e1=>?_;refine af e1 ?_;refine aI rb.int_inv fun u e1=>?_;refine af e1 ?_
    exact add_int (bU.int S h _ _)
   |_=>exact False.elim h
  |sym x=>
   induction b using V.casesOn with
   |str y=>
    exact xn S ra rb h.1 h.2
   |_=>exact False.elim h
  |tup x=>
   induction b using V.casesOn with
   |tup y=>
    exact xm S ra rb h.1 h.2
   |_=>exact False.elim h
  |ref x=>
   induction b using V.casesOn with
   |ref y=>
    refine o2x4 h fun xs ys h1 h2 z h=>?_
    refine af ra.ref_inv ?_;refine af rb.ref_inv ?_
    exact xo S h1 h2 z h
   |_=>exact False.elim h
  |_=>exact False.elim h
 |Sub=>
  refine o2x2 (fF h) fun x y e2 q9=>?_;obtain rfl:=e2;refine o0x2 q9 fun e0 h=>?_;clear q9;obtain rfl:=e0
  refine aI ra.int_inv fun t e1=>?_;refine af e1 ?_;refine aI rb.int_inv fun u e1=>?_;refine af e1 ?_
  exact sub_int (bU.int S h _ _)
 |Mult=>
  induction a using V.casesOn with
  |int x=>
   induction b using V.casesOn with
   |int y=>
    refine aI ra.int_inv fun t e1=>?_;refine af e1 ?_;refine aI rb.int_inv fun u e1=>?_;refine af e1 ?_
    exact mul_int (bU.int S h.2 _ _) (IntMulOk.of_left (nB h.1.1))
   |_=>exact False.elim h
  |tup l=>
   induction l using List.casesOn with
   |nil=>exact False.elim h
   |cons x l=>
    induction l using List.casesOn with
    |cons _ _=>exact False.elim h
    |nil=>
     induction b using V.casesOn with
     |int y=>
      obtain⟨rfl,h⟩:=h
      exact vZ S ra rb h
     |_=>exact False.elim h
  |_=>exact False.elim h
 |FloorDiv=>
  refine o2x2 (fF h) fun x y e2 q9=>?_;obtain rfl:=e2;refine o0x2 q9 fun e0 h=>?_;clear q9;obtain rfl:=e0
  refine aI ra.int_inv fun t e1=>?_;refine af e1 ?_;refine aI rb.int_inv fun u e1=>?_;refine af e1 ?_
  refine o0x2 h fun q0 h=>?_;obtain⟨h1,h2⟩:=q0
  refine floordiv_int (by lia) (bU.int S ?_ _ _) (.inl (PyProof.noPylong_small (by lia)))
  refine af (Int.fdiv_eq_ediv_of_nonneg _ (by lia)) ?_;exact h
 |Mod=>
  refine o2x2 (fF h) fun x y e2 q9=>?_;obtain rfl:=e2;refine o0x2 q9 fun e0 h=>?_;clear q9;obtain rfl:=e0
  refine aI ra.int_inv fun t e1=>?_;refine af e1 ?_;refine aI rb.int_inv fun u e1=>?_;refine af e1 ?_
  refine mod_int' (by lia) (bU.int S ?_ _ _)
  refine af (Int.fmod_eq_emod_of_nonneg _ (by lia)) ?_;exact h.2
 |Pow=>
  refine o2x2 (fF h) fun x y e2 q9=>?_;obtain rfl:=e2;refine o0x2 q9 fun e0 h=>?_;clear q9;obtain rfl:=e0
  refine aI ra.int_inv fun t e1=>?_;refine af e1 ?_;refine aI rb.int_inv fun u e1=>?_;refine af e1 ?_
  refine o0x2 h fun q0 hq=>?_;clear h;obtain⟨rfl,h1,h2⟩:=q0
  refine pow_int h1 ?_ (bU.int S hq _ _)
  refine af (show Builtin.Int.intBits 2=2 from by decide) ?_;lia
 |RShift=>
  refine o2x2 (fF h) fun x y e2 q9=>?_;obtain rfl:=e2;refine o0x2 q9 fun e0 h=>?_;clear q9;obtain rfl:=e0
  refine aI ra.int_inv fun t e1=>?_;refine af e1 ?_;refine aI rb.int_inv fun u e1=>?_;refine af e1 ?_
  refine o0x2 h fun q0 h=>?_;obtain⟨h0,h1,h2⟩:=q0
  refine rshift_int h1 (bU.int S ?_ _ _)
  refine af (Int.fdiv_eq_ediv_of_nonneg _ (by exact Int.le_of_lt (Int.pow_pos (by decide)))) ?_;exact h
 |BitAnd=>
  refine o2x2 (fF h) fun x y e2 q9=>?_;obtain rfl:=e2;refine o0x2 q9 fun e0 h=>?_;clear q9;obtain rfl:=e0
  refine aI ra.int_inv fun t e1=>?_;refine af e1 ?_;refine aI rb.int_inv fun u e1=>?_;refine af e1 ?_
  refine o0x2 h fun q0 hq=>?_;clear h;obtain⟨rfl,rfl⟩:=q0
  exact and_int (bU.int S hq _ _)
 |_=>exact False.elim h
end
end Mine
namespace Mine
open PySem PySem.W PySem.Calls PyProof.Rows
noncomputable def xv(G:GT)(h:Heap):Prop:=∃ o ds n,h.get? G.gd=some o∧o.cls=.type "dict" ∧o.data=.dict ds n∧(∀ e ∈ ds,∃ i t,e.key=.int i t∧e.hash=hashInt i)∧(∀ i,(ds.findIdx? fun e=>Value.isInt i e.key).isSome=gU.contains i)∧G.gd≠sysModules
section
variable {prog:Program} {w:World} {A:Around} {E:Value→Shared→Prop} {s:Shared} {G:GT} {h₀:Heap} {Z:H}
theorem iQ(S:St w.params G h₀ Z s.heap)(hz:∃ o,h₀.get? sysModules=some o){a:Addr}(e:Z a≠none):(a == sysModules)=false:=by
 have:=S.new a (.inl e)
 rw[beq_eq_false_iff_ne]
 intro q
 refine aI hz fun o ho=>?_;clear hz
 (rewrite[q] at this;rw[ho] at this)
 exact sn this
theorem kU{o:Option O}{k x:V}{P:Prop}(e:kW k o=some x)(h2:∀ xs i,o=some (.list xs)→k=.int i→0≤i→xs[i.toNat]? = some x→P)
  (h3:∀ es,o=some (.dict es)→be es k=true→aJ es k=some x→P):P:=by
 induction o using Option.casesOn with
 |none=>exact ns e
 |some o=>induction o using O.casesOn with
  |list xs=>
   revert e
   induction k using V.casesOn with
   |int i=>exact fun e=>h2 xs i rfl rfl (gI e).1 (gI e).2
   |_=>exact ns
  |dict es=>exact h3 es rfl (gI e).1 (gI e).2
  |inst=>exact ns e
theorem kT{a k x:V}{P:Prop}(h1:∀ l i,a=.tup l→k=.int i→0≤i→l[i.toNat]? = some x→P)(h2:∀ p,a=.ref p→kW k (Z p)=some x→P):bE Z a k=some x→P:=by
 induction a using V.casesOn with
 |tup l=>induction k using V.casesOn with
  |int i=>exact fun e=>h1 l i rfl rfl (gI e).1 (gI e).2
  |_=>exact ns
 |ref p=>exact h2 p rfl
 |_=>exact ns
theorem sF{o:Option O}{p:Addr}{k x:V}{Z':H}{P:Prop}(e:sG Z p k x o=some Z')(h2:∀ xs i,o=some (.list xs)→k=.int i→0≤i∧i<xs.length→Z.set p (.list (xs.set i.toNat x))=Z'→P)
  (h3:∀ es,o=some (.dict es)→be es k=true∧es.length<bM→Z.set p (.dict (bJ es k x))=Z'→P):P:=by
 induction o using Option.casesOn with
 |none=>exact ns e
 |some o=>induction o using O.casesOn with
  |list xs=>
   revert e
   induction k using V.casesOn with
   |int i=>exact fun e=>h2 xs i rfl rfl (bZ e).1 (bZ e).2
   |_=>exact ns
  |dict es=>exact h3 es rfl (bZ e).1 (bZ e).2
  |inst=>exact ns e
theorem lP{a k x:V}{Z':H}{P:Prop}(h2:∀ p,a=.ref p→sG Z p k x (Z p)=some Z'→P):eU Z a k x=some Z'→P:=by
 induction a using V.casesOn with
 |ref p=>exact h2 p rfl
 |_=>exact ns
theorem qk{vs:List Value}{xs:List V}{k:Nat}{x:V}{h:Heap}(r1:bx G h vs xs)(z:xs.length≤bM)(e:xs[k]? = some x):∃ v,vs[k]? = some v∧bh G h v x∧k<vs.length∧vs.length≤bM:=by
 refine o1x2 (r1.get e) fun v hv rv=>?_
 exact⟨v,hv,rv,(List.getElem?_eq_some_iff.mp hv).1,by refine af r1.length ?_;exact z⟩
theorem nK{va vk:Value}{l:List V}{i:Int}{x:V}{Q:Value→Shared→Prop}(ra:bh G s.heap va (.tup l))(rk:bh G s.heap vk (.int i))(h0:0≤i)(e:l[i.toNat]? = some x)
  (h:∀ v tk,bh G s.heap v x→Q v { s with toks:=tk }):wpAny (model prog w) A (getItem va vk) Q E s:=by
 refine o3x2 ra.tup_inv fun p vs n e3 q9=>?_;refine af e3 ?_;refine o0x3 q9 fun e1 r1 z=>?_;clear q9
 refine aI rk.int_inv fun u e1=>?_;obtain rfl:=e1
 refine o1x4 (qk r1 z e) fun v hv rv hlt hz=>?_
 refine aI (Int.eq_ofNat_of_zero_le h0) fun j e1=>?_;obtain rfl:=e1
 rw[Array.length_toList] at hlt hz
 rw[Array.getElem?_toList] at hv
 refine P.getItem_tuple (i:=(j:Int)) e1 (by unfold bM at hz;lia) (by unfold bM at hz;lia) (k:=j) (y:=v) ?_ hv (h v _ rv)
 have hi:¬(j:Int)<0:=Int.not_lt.mpr h0
 simp[seqIndex?,hi]
 exact hlt
theorem nL{p:Addr}{vk:Value}{xs:List V}{i:Int}{x:V}{Q:Value→Shared→Prop}(S:St w.params G h₀ Z s.heap)(hZ:Z p=some (.list xs))(rk:bh G s.heap vk (.int i))(h0:0≤i)(e:xs[i.toNat]? = some x)
  (h:∀ v tk,bh G s.heap v x→Q v { s with toks:=tk }):wpAny (model prog w) A (getItem (.ref p) vk) Q E s:=by
 refine o2x3 (S.obj _ _ hZ) fun vs n e1 r1 z=>?_
 refine aI rk.int_inv fun u e1=>?_;obtain rfl:=e1
 refine o1x4 (qk r1 z e) fun v hv rv hlt hz=>?_
 rw[Array.length_toList] at hlt hz
 rw[Array.getElem?_toList] at hv
 exact wpAny_getItem_list ⟨_,e1,rfl,n,rfl⟩ h0 (by unfold bM at hz;lia) hv (h v _ rv)
theorem nM{p:Addr}{vk:Value}{es:List (V×V)}{k x:V}{Q:Value→Shared→Prop}(S:St w.params G h₀ Z s.heap)(hZ:Z p=some (.dict es))(rk:bh G s.heap vk k)(hu:A.units+70<cLine)(hk:be es k=true)(e:aJ es k=some x)
  (h:∀ v tk,bh G s.heap v x→Q v { s with toks:=tk }):wpAny (model prog w) A (getItem (.ref p) vk) Q E s:=by
 refine o3x4 (S.obj _ _ hZ) fun ds n kk e1 D O z=>?_
 have hT:s.TypeIs (.ref p) "dict" :=⟨_,e1,rfl⟩
 unfold getItem
 try with_reducible refine wpAny_holding ?_
 refine wpAny_bind (wpAny_sequenceKey hT (by decide) ?_)
 refine wpAny_bind (wpAny_callSpecial?_slot (name:=Str.ofString "__getitem__") hT slot_dict_getitem
  (wpAny_call_entry slot_dict_getitem hT entry_dict_getitem ?_ (args_dict_getitem _ _)))
 show wpAny _ _ (dictGet p vk >>= _) _ _ s
 refine wpAny_bind (mv e1 D O rk hk (by show A.units+1+64<_;lia) (fun x' v tk e' rv=>?_) fun tk e'=>?_)
 ·obtain rfl:=aQ (e.symm.trans e')
  exact wpAny_pure ⟨v,rfl,wpAny_pure (h v tk rv)⟩
 ·exact sn (e.symm.trans e')
theorem wv{va vk:Value}{a k x:V}{Q:Value→Shared→Prop}(S:St w.params G h₀ Z s.heap)(ra:bh G s.heap va a)(rk:bh G s.heap vk k)(hu:A.units+70<cLine)(e:bE Z a k=some x)
  (h:∀ v tk,bh G s.heap v x→Q v { s with toks:=tk }):wpAny (model prog w) A (getItem va vk) Q E s:=by
 refine kT (fun l i q1 q2 h0 e=>?_) (fun p q e=>?_) e
 ·exact nK (q1▸ra) (q2▸rk) h0 e h
 ·obtain rfl:=(show bh G s.heap va (.ref p) from q▸ra).ref_inv
  exact kU e (fun xs i hZ q h0 e=>nL S hZ (q▸rk) h0 e h) fun es hZ hk e=>nM S hZ rk hu hk e h
theorem jK{p:Addr}{vk vv:Value}{xs:List V}{i:Int}{x:V}{Q:Unit→Shared→Prop}(S:St w.params G h₀ Z s.heap)(hZ:Z p=some (.list xs))(rk:bh G s.heap vk (.int i))(rv:bh G s.heap vv x)(h0:0≤i∧i<xs.length)
  (h:∀ s',Go w.params G h₀ Z s (Z.set p (.list (xs.set i.toNat x))) s'→Q () s'):wpAny (model prog w) A (setItem (.ref p) vk vv) Q E s:=by
 refine o2x3 (S.obj _ _ hZ) fun vs n e1 r1 z=>?_
 refine aI rk.int_inv fun u e1=>?_;obtain rfl:=e1
 have hz:vs.size≤bM:=by(refine bt Array.length_toList ?_;refine af r1.length ?_);exact z
 have hl:Heap.IsList s.heap p vs:=⟨_,e1,rfl,n,rfl⟩
 unfold setItem
 try with_reducible refine wpAny_holding ?_
 first | refine wpAny_bind (wpAny_pure ?_) | skip
 refine wpAny_bind (wpAny_sequenceKey hl.typeIs (by decide) ?_)
 refine wpAny_bind (wpAny_callSpecial?_slot (name:=Str.ofString "__setitem__") hl.typeIs slot_list_setitem
  (wpAny_call_entry slot_list_setitem hl.typeIs entry_list_setitem ?_ (args_list_setitem _ _ _)))
 show wpAny _ _ (Builtin.List.listSubscript? (.int i u) >>= _) _ _ s
 have hv:vs.size=xs.length:=by(refine bt Array.length_toList ?_;(refine ak (r1.length) ?_;with_reducible rfl))
 refine wpAny_bind (wpAny_listSubscript_int (fitsIndex_of h0.1 (by unfold bM at hz;lia)) ?_)
 refine o0x2 h0 fun h0 h1=>?_
 refine aI (Int.eq_ofNat_of_zero_le h0) fun j e1=>?_;obtain rfl:=e1
 have hj:j<vs.size:=hv▸Int.ofNat_lt.mp h1
 show wpAny _ _ ((seqItemAt p j >>= fun r=>pure (r.map (j,·))) >>= _) _ _ s
 refine wpAny_bind (wpAny_bind (wpAny_seqItemAt e1 rfl (wpAny_pure ?_)))
 refine af (Array.getElem?_eq_getElem hj) ?_
 show wpAny _ _ (setSeqItemAt p j vv >>= _) _ _ s
 refine wpAny_bind (wpAny_setSeqItemAt e1 rfl ?_)
 have g:Go w.params G h₀ Z s (Z.set p (.list (xs.set j x))) { s with heap:=s.heap.update p (Obj.mapSeq (·.setIfInBounds j vv)) }:=by
  have h2:Heap.get? (s.heap.update p (Obj.mapSeq (·.setIfInBounds j vv))) p=some { cls:=.type "list",data:=.seq (vs.setIfInBounds j vv) (if(vs.setIfInBounds j vv).size == vs.size then n else n+1) }:=Heap.get?_update_self _ e1 rfl
  have C:=S.change (h':=s.heap.update p (Obj.mapSeq (·.setIfInBounds j vv))) (a:=p) (d:=p) (o':=.list (xs.set j x)) hZ rfl (fun b=>Iff.rfl) (fun za za q=>nomatch q)
   (fun b y hb hy=>(Heap.SameBut.update ..).extBut b y hb hy)
   fun st=>⟨_,_,h2,by refine af Array.toList_setIfInBounds ?_;exact(r1.set j rv).stays st,by refine af List.length_set ?_;exact z⟩
  exact⟨⟨_,_,rfl⟩,C.1,C.2⟩
 first
  |exact wpAny_bind (wpAny_pure (wpAny_pure ⟨.none,rfl,wpAny_pure (h _ g)⟩))
  |exact wpAny_pure ⟨.none,rfl,wpAny_pure (h _ g)⟩
theorem jL{p:Addr}{vk vv:Value}{es:List (V×V)}{k x:V}{Q:Unit→Shared→Prop}(S:St w.params G h₀ Z s.heap)(hZ:Z p=some (.dict es))(rk:bh G s.heap vk k)(rv:bh G s.heap vv x)(hu:A.units+70<cLine)(hk:be es k=true∧es.length<bM)
  (h:∀ s',Go w.params G h₀ Z s (Z.set p (.dict (bJ es k x))) s'→Q () s'):wpAny (model prog w) A (setItem (.ref p) vk vv) Q E s:=by
 refine o3x4 (S.obj _ _ hZ) fun ds n kk e1 D O z=>?_
 have hT:s.TypeIs (.ref p) "dict" :=⟨_,e1,rfl⟩
 unfold setItem
 try with_reducible refine wpAny_holding ?_
 refine wpAny_bind (wpAny_sequenceKey hT (by decide) ?_)
 refine wpAny_bind (wpAny_callSpecial?_slot (name:=Str.ofString "__setitem__") hT slot_dict_setitem
  (wpAny_call_entry slot_dict_setitem hT entry_dict_setitem ?_ (args_dict_setitem _ _ _)))
 show wpAny _ _ (Builtin.Dict.notOrdered "__setitem__" ⟨[.ref p,vk,vv],[]⟩ >>= _) _ _ s
 refine wpAny_bind (wpAny_notOrdered_dict hT ?_)
 show wpAny _ _ (dictSet p vk vv >>= _) _ _ s
 refine wpAny_bind (qB e1 D O rk hk.1 (by show A.units+1+64<_;lia) hk.2 rv fun h' tk ds' n' kk' hs e' D' z'=>wpAny_pure ⟨.none,rfl,wpAny_pure (h _ ?_)⟩)
 have C:=S.change (h':=h') (a:=p) (d:=p) (o':=.dict (bJ es k x)) hZ rfl (fun b=>Iff.rfl) (fun za za q=>nomatch q) (fun b y hb hy=>hs.extBut b y hb hy)
  fun st=>⟨ds',n',kk',e',D'.stays st,iM O,z'⟩
 exact⟨⟨_,_,rfl⟩,C.1,C.2⟩
theorem oM{va vk vv:Value}{a k x:V}{Z':H}{Q:Unit→Shared→Prop}(S:St w.params G h₀ Z s.heap)(ra:bh G s.heap va a)(rk:bh G s.heap vk k)(rv:bh G s.heap vv x)(hu:A.units+70<cLine)(e:eU Z a k x=some Z')
  (h:∀ s',Go w.params G h₀ Z s Z' s'→Q () s'):wpAny (model prog w) A (setItem va vk vv) Q E s:=by
 refine lP (fun p q e=>?_) e
 refine af ((show bh G s.heap va (.ref p) from q▸ra).ref_inv) ?_
 exact sF e (fun xs i hZ q h0 e=>jK S hZ (q▸rk) rv h0 fun s' g=>h s' (e▸g)) fun es hZ hk e=>jL S hZ rk rv hu hk fun s' g=>h s' (e▸g)
end
section
variable {prog:Program} {w:World} {A:Around} {E:Value→Shared→Prop} {s:Shared} {G:GT} {h₀:Heap} {Z:H}
theorem gW{d:Addr}{o:Obj}{kv:Value}{b:Bool}{Q:Bool→Shared→Prop}(hd:(d == sysModules)=false)(ho:s.heap.get? d=some o)(hc:o.cls=.type "dict")
  (hg:∀ E':Value→Shared→Prop,wpAny (model prog w) A.in1 (dictGet d kv) (fun r s'=>∃ tk,s'={ s with toks:=tk }∧r.isSome=b) E' s) (h:∀ tk,Q b { s with toks:=tk }) :
  wpAny (model prog w) A (contains (.ref d) kv) Q E s:=by
 have hT:s.TypeIs (.ref d) "dict" :=⟨_,ho,hc⟩
 unfold contains
 try with_reducible refine wpAny_holding ?_
 refine wpAny_bind (wpAny_specialOf hT slot_dict_contains.lookup ?_)
 show wpAny _ _ (if(some (Value.builtin "dict.__contains__") == some Value.none)=true then _ else _) _ E s
 refine af (aE (by rw[beq_builtin_none];exact Bool.false_ne_true)) ?_
 refine wpAny_bind (wpAny_callSpecialUnlessNone?_slot (name:=Str.ofString "__contains__") hT slot_dict_contains
  (wpAny_call_entry slot_dict_contains hT entry_dict_contains ?_ (args_dict_contains _ _)))
 show wpAny _ _ (dictGet d kv >>= _) _ _ s
 refine wpAny_bind (wpAny_mono (hg _) (fun r s' hr=>?_) fun za za e=>e)
 obtain⟨tk,rfl,hr⟩:=hr
 induction r using Option.casesOn with
 |some v=>
  induction b using Bool.casesOn with
  |false=>exact tf hr
  |true=>exact wpAny_pure ⟨_,rfl,wpAny_truthy_bool (h _)⟩
 |none=>
  induction b using Bool.casesOn with
  |true=>exact ff hr
  |false=>
   show wpAny _ _ (Builtin.Dict.pendingKey? d kv >>= _) _ _ _
   exact wpAny_bind (wpAny_pendingKey_other hd (wpAny_pure ⟨_,rfl,wpAny_truthy_bool (h _)⟩))
set_option tactic.hygienic true in
theorem xE{vk vd:Value}{k d:V}{b:Bool}{Q:Bool→Shared→Prop}(S:St w.params G h₀ Z s.heap)(hz:∃ o,h₀.get? sysModules=some o)(hg:xv G h₀)(rk:bh G s.heap vk k)(rd:bh G s.heap vd d)(hu:A.units+70<cLine)(e:Bg Z k d=some b)
  (h:∀ tk,Q b { s with toks:=tk }):wpAny (model prog w) A (contains vd vk) Q E s:=by
 unfold Bg at e
 split at e
 ·rename_i p
  refine af rd.ref_inv ?_
  split at e
  ·rename_i es hZ
   refine o3x4 (S.obj _ _ hZ) fun ds n kk e1 D O z=>?_
   split at e
   ·rename_i hk
    have e:=aQ e
    refine gW (iQ S hz (by refine af hZ ?_;simp)) e1 rfl (fun E'=>?_) h
    exact mv e1 D O rk hk (by show A.units+1+64<_;lia) (fun x v tk q za=>⟨tk,rfl,by(refine bt e ?_;refine af q ?_);rfl⟩) fun tk q=>⟨tk,rfl,by(refine bt e ?_;refine af q ?_);rfl⟩
   ·exact ns e
  ·exact ns e
 ·rename_i i
  refine af rd.gd_inv ?_
  refine aI rk.int_inv fun t e1=>?_;refine af e1 ?_
  have e:=aQ e
  refine o3x6 hg fun o ds n ho hc hd hk hf hs=>?_;clear hg
  have ho':=S.base _ _ ho
  refine gW (by rw[beq_eq_false_iff_ne];exact hs) ho' hc (fun E'=>?_) h
  try with_reducible refine wpAny_holding ?_
  refine wpAny_bind (wpAny_pyHash_int (wpAny_bind (wpAny_dictFind_of (key:=.int i t) (knd:=intKind prog w) (k:=i) (by simp[intKind,Value.isInt]) (s:={ s with toks:=s.toks+1 }) ho' hd (fun x hx=>?_) ?_)))
  ·refine o2x2 (hk x hx) fun j u h1 h2=>?_
   exact⟨j,by refine af h1 ?_;simp[intKind,Value.isInt],h2⟩
  ·have hf:=hf i
   refine af (show(fun e:DictEntry=>(intKind prog w).is i e.key)=fun e=>Value.isInt i e.key from rfl) ?_
   induction q:ds.findIdx? fun e=>Value.isInt i e.key using Option.casesOn with
   |none=>
    rw[q] at hf
    exact wpAny_pure ⟨_,rfl,by(refine bt e ?_;refine bt hf ?_);rfl⟩
   |some j=>
    rw[q] at hf
    refine wpAny_bind (wpAny_dictEntries (s:={ s with toks:=s.toks+1 }) ho' hd (wpAny_pure ⟨_,rfl,?_⟩))
    refine aI (Array.findIdx?_eq_some_iff_getElem.mp q) fun hj za=>?_
    (refine bt e ?_;refine bt hf ?_;refine af (Array.getElem?_eq_getElem hj) ?_);rfl
 ·exact ns e
theorem oQ(n:Nat){vs:List Value}:∀ {xs:List V} {ds:List PyData},(∀ v x d,bh G s.heap v x→kE Z n x=some d→(∃ as,Reads s.heap v d as)∧d.canLay0=true∧d.depth≤n+30)→bx G s.heap vs xs→xs.mapM (kE Z n)=some ds→(∃ as,ReadsAll s.heap vs ds as)∧PyData.canLayAll0 ds=true∧PyData.depthAll ds≤n+30:=by
 induction vs with
 |nil=>intro xs ds f r e;cases r;refine bt (aQ e) ?_;exact⟨⟨_,.nil⟩,rfl,Nat.zero_le _⟩
 |cons v vs ih=>
  intro xs ds f r e
  cases r with
  |cons r rs=>
   rw[List.mapM_cons] at e
   refine o1x2 (Option.bind_eq_some_iff.mp e) fun d e1 e=>?_
   refine o1x2 (Option.bind_eq_some_iff.mp e) fun ds' e2 e=>?_
   refine bt (aQ e) ?_
   refine o0x3 (f v _ d r e1) fun q0 h2 h3=>?_;obtain⟨as,h1⟩:=q0
   refine o0x3 (ih f rs e2) fun q0 g2 g3=>?_;obtain⟨bs,g1⟩:=q0
   exact⟨⟨_,.cons h1 g1⟩,Bool.and_eq_true_iff.mpr ⟨h2,g2⟩,Nat.max_le.mpr ⟨h3,g3⟩⟩
theorem jb{v:Value}{x:V}{d:PyData}{m:Nat}(r:bh G s.heap v x)(e:(if pv 30 x=true then some (gO x) else none)=some d):(∃ as,Reads s.heap v d as)∧d.canLay0=true∧d.depth≤m+30:=by
 split at e
 ·next hp=>refine bt (aQ e) ?_;exact⟨eZ 30 r hp,(gm 30 x hp).1,Nat.le_trans (gm 30 x hp).2 (Nat.le_add_left _ _)⟩
 ·exact ns e
theorem eK(S:St w.params G h₀ Z s.heap)(n:Nat):∀ (v:Value) (x:V) (d:PyData),bh G s.heap v x→kE Z n x=some d→(∃ as,Reads s.heap v d as)∧d.canLay0=true∧d.depth≤n+30:=by
 induction n with
 |zero=>intro v x d r e;exact jb r (by induction x using V.casesOn<;>exact e)
 |succ n ih=>
  intro v x d r e
  induction x using V.casesOn with
  |ref a=>
   refine af r.ref_inv ?_
   have e:(match Z a with | some (.list xs)=>(xs.mapM (kE Z n)).map PyData.list | _=>Option.none)=some d:=e
   split at e
   ·next xs hZ=>
    refine o2x3 (S.obj _ _ hZ) fun vs k e1 r1 z=>?_
    refine o1x2 (Option.map_eq_some_iff.mp e) fun ds e2 e2=>?_;obtain rfl:=e2
    refine o0x3 (oQ n ih r1 e2) fun q0 h2 h3=>?_;obtain⟨as,h1⟩:=q0
    exact⟨⟨_,.list e1 rfl rfl h1⟩,h2,by rw[PyData.depth];lia⟩
   ·exact ns e
  |_=>exact jb r e
end
theorem gR{Z:H}:∀ {es fs:List (V×V)},ga Z es fs→es.length=fs.length
 |[],[],_=>rfl
 |_::es,_::fs,h=>by(refine ak (List.length_cons) ?_;refine af List.length_cons ?_;(refine af (gR h.2.2.2) ?_;with_reducible rfl))
 |[],_::_,h=>h.elim
 |_::_,[],h=>h.elim
theorem jN{Z:H}:∀ {es fs:List (V×V)},ga Z es fs→∀ {i:Nat} {e:V×V},es[i]? = some e→∃ f j,fs[i]? = some f∧e.1=f.1∧e.1=.int j∧nh Z e.2 f.2
 |[],_,_,i,e,q=>by simp at q
 |e::es,f::fs,h,i,e',q=>by
  induction i using Nat.casesAuxOn with
  |zero=>
   simp at q;subst q
   obtain⟨j,hj⟩:=h.2.1
   exact⟨f,j,rfl,h.1,hj,h.2.2.1⟩
  |succ i=>simpa using jN h.2.2.2 (by simpa using q)
 |_::_,[],h,_,_,_=>h.elim
theorem nu:∀ {fs:List (V×V)},g9 fs→∀ {i:Nat} {f:V×V} {j:Int},fs[i]? = some f→f.1=.int j→eE fs (.int j)=some i
 |[],_,i,f,j,q,_=>by simp at q
 |g::fs,O,i,f,j,q,e=>by
  induction i using Nat.casesAuxOn with
  |zero=>
   simp at q;subst q
   unfold eE
   (refine ak (List.findIdx?_cons) ?_;refine af e ?_;rw[dJ])
   simp
  |succ i=>
   simp at q
   have ih:=nu O.2 q e
   have ne:=O.1 f (List.mem_of_getElem? q)
   unfold eE at ih ⊢
   refine ak (List.findIdx?_cons) ?_
   have:dJ g.1 (.int j)=false:=by
    rw[e] at ne
    induction hg:g.1 using V.casesOn with
    |int k=>
     rw[hg] at ne
     simp[dJ] at ne ⊢
     exact fun z=>ne z.symm
    |_=>dsimp only [dJ]
   (refine af this ?_;refine af ih ?_);rfl
section
variable {prog:Program} {w:World} {A:Around} {E:Value→Shared→Prop} {s:Shared} {G:GT} {h₀:Heap} {Z:H}
theorem mm(S:St w.params G h₀ Z s.heap){u v:Value}{x y:V}{Q:Bool→Shared→Prop}(ru:bh G s.heap u x)(rv:bh G s.heap v y)(e:nh Z x y)(hu:A.units+64<cLine)(h:Q true s) :
  wpAny (model prog w) A (eqBool u v) Q E s:=by
 refine o1x2 e fun d e1 e2=>?_;clear e
 refine o0x3 (eK S _ _ _ _ ru e1) fun q0 l1 z1=>?_;obtain⟨as,r1⟩:=q0
 refine o0x3 (eK S _ _ _ _ rv e2) fun q0 l2 z2=>?_;obtain⟨bs,r2⟩:=q0
 refine SeqAt.eqBoolOverData _ _ _ _ _ _ _ _ _ _ _ _ r1 r2 l1 l2 (by lia) ?_
 refine af (SeqAt.eqv_refl d l1) ?_;exact h
theorem hM{id:String}{a b:Addr}{ds ds':Array DictEntry}{n m:Nat}{es fs:List (V×V)}{kk kk':KK}{Q:Bool→Shared→Prop}(S:St w.params G h₀ Z s.heap)(ha:(a == sysModules)=false)(hb:(b == sysModules)=false)
  (e1:s.heap.get? a=some { cls:=.type "dict",data:=.dict ds n }) (e2:s.heap.get? b=some { cls:=.type "dict",data:=.dict ds' m }) (D1:cI w.params G s.heap kk ds.toList es) (D2:cI w.params G s.heap kk' ds'.toList fs)
  (O:g9 fs) (same:ga Z es fs) (hu:A.units+64<cLine) (h:Q true s):wpAny (model prog w) A (Builtin.Dict.samePairs id a b) Q E s:=by
 have l1:ds.size=es.length:=by refine bt D1.length ?_;rfl
 have l2:ds'.size=fs.length:=by refine bt D2.length ?_;rfl
 have l3:=gR same
 delta Builtin.Dict.samePairs Builtin.Dict.showsAll
 (refine af ha ?_;refine af hb ?_;refine af (aE Bool.false_ne_true) ?_)
 refine wpAny_bind (wpAny_pure (wpAny_bind (wpAny_pure (wpAny_bind (wpAny_dictEntries e1 rfl (wpAny_bind (wpAny_dictEntries e2 rfl ?_)))))))
 have hne:(ds.size != ds'.size)=false:=by(refine af l1 ?_;refine af l2 ?_;refine af l3 ?_);simp
 (refine af hne ?_;refine af (aE Bool.false_ne_true) ?_)
 refine wpAny_bind (wpAny_dictEpoch e1 rfl (wpAny_bind ?_))
 rw[Std.Legacy.Range.forIn_eq_forIn_range']
 rw[Std.Legacy.Range.size,Nat.sub_zero,Nat.add_sub_cancel,Nat.div_one]
 refine wpAny_forIn_list _ (fun rest r s'=>∃ i,rest=List.range' i (ds.size - i)∧i≤ds.size∧r.1=none∧s'=s) _ ?_ ?_ _ _ ⟨0,by simp,Nat.zero_le _,rfl,rfl⟩
 ·intro x rest r za p0;refine o1x4 p0 fun i hr hi hr1 e4=>?_;clear p0;refine af e4 ?_
  have hlt:i<ds.size:=by
   refine Or.elim (Nat.lt_or_ge i ds.size) (fun h=>?_) (fun h=>?_)
   ·exact h
   ·rw[Nat.sub_eq_zero_of_le h] at hr;simp at hr
  obtain⟨rfl,hrest⟩:x=i∧rest=List.range' (i+1) (ds.size - (i+1)):=by
   have e:ds.size - i=(ds.size - (i+1))+1:=by lia
   (rewrite[e] at hr;rw[List.range'_succ] at hr)
   injection hr with h1 h2
   exact⟨h1,h2⟩
  refine aI ((⟨es[x]'(by lia),List.getElem?_eq_getElem _⟩:∃ e,es[x]? = some e)) fun e he=>?_
  refine o1x5 (D1.get he) fun d hd rk hk hh rv=>?_
  refine o2x4 (jN same he) fun f j hf k1 k2 sd=>?_
  refine o1x5 (D2.get hf) fun d' hd' rk' hk' hh' rv'=>?_
  have ix:=nu O hf (k1▸k2)
  refine wpAny_bind (wpAny_dictEntries e1 rfl ?_)
  refine af (show ds[x]? = some d from by rw[← Array.getElem?_toList];exact hd) ?_
  refine wpAny_bind (wpAny_holding (wpAny_bind ?_))
  refine af hh ?_
  have kkk:kk=kk':=by rw[k1] at hk;rw[hk] at hk';exact aQ hk'
  subst kkk
  refine mf e2 D2 O rk hk hu ?_
  (refine af k2 ?_;refine af ix ?_)
  refine wpAny_bind (wpAny_dictEntries e2 rfl ?_)
  refine af (show ds'[x]? = some d' from by rw[← Array.getElem?_toList];exact hd') ?_
  refine wpAny_holding (mm S rv rv' sd hu ?_)
  refine af (aE (by trivial)) ?_
  refine wpAny_bind (wpAny_dictEpoch e1 rfl ?_)
  refine af (aE (by simp)) ?_
  exact wpAny_pure ⟨x+1,hrest,hlt,rfl,rfl⟩
 ·intro r za p0;refine o1x4 p0 fun i hr hi hr1 e4=>?_;clear p0;refine af e4 ?_
  obtain⟨r1,r2⟩:=r
  dsimp only at hr1
  refine af hr1 ?_
  exact wpAny_pure h
theorem mu{a b:Addr}{ds ds':Array DictEntry}{n m:Nat}{es fs:List (V×V)}{kk kk':KK}{Q:Value→Shared→Prop}(S:St w.params G h₀ Z s.heap)(ha:(a == sysModules)=false)(hb:(b == sysModules)=false)
  (e1:s.heap.get? a=some { cls:=.type "dict",data:=.dict ds n }) (e2:s.heap.get? b=some { cls:=.type "dict",data:=.dict ds' m }) (D1:cI w.params G s.heap kk ds.toList es) (D2:cI w.params G s.heap kk' ds'.toList fs)
  (O:g9 fs) (same:ga Z es fs) (hu:A.units+65<cLine) (h:Q (.bool true) s):wpAny (model prog w) A (call (.builtin "dict.__eq__") [.ref a,.ref b]) Q E s:=by
 have hT:s.TypeIs (.ref a) "dict" :=⟨_,e1,rfl⟩
 have hT':s.TypeIs (.ref b) "dict" :=⟨_,e2,rfl⟩
 refine wpAny_call_entry F.slot_dict_eq hT F.entry_dict_eq ?_ (F.args_dict_eq_2 _ _)
 show wpAny _ _ (do
  let (self,other) ← Builtin.Dict.dictSlotArgs "__eq__" ⟨[.ref a,.ref b],[]⟩
  if !(← isInstance other (.type "dict")) then rule s!"dict.{"__eq__"}.not-a-dict";return ← ret .notImplemented
  ret (.bool ((← Builtin.Dict.samePairs s!"dict.{"__eq__"}" (← Builtin.Dict.addrOf self) (← Builtin.Dict.addrOf other)) == true))) _ _ s
 refine wpAny_bind (wpAny_bind (wpAny_notOrdered_dict hT (wpAny_bind (wpAny_pure (wpAny_pure ?_)))))
 refine wpAny_bind (wpAny_isInstance hT' isSubtype_dict_dict ?_)
 refine af (aE (by trivial)) ?_
 refine wpAny_bind (wpAny_pure (wpAny_bind (wpAny_pure (wpAny_bind (hM S ha hb e1 e2 D1 D2 O same (by show A.units+1+64<_;lia) ?_)))))
 exact wpAny_pure ⟨_,rfl,h⟩
theorem mr{a b:Addr}{ds ds':Array DictEntry}{n m:Nat}{es fs:List (V×V)}{kk kk':KK}{Q:Value→Shared→Prop}(S:St w.params G h₀ Z s.heap)(ha:(a == sysModules)=false)(hb:(b == sysModules)=false)
  (e1:s.heap.get? a=some { cls:=.type "dict",data:=.dict ds n }) (e2:s.heap.get? b=some { cls:=.type "dict",data:=.dict ds' m }) (D1:cI w.params G s.heap kk ds.toList es) (D2:cI w.params G s.heap kk' ds'.toList fs)
  (O:g9 fs) (same:ga Z es fs) (hu:A.units+65<cLine) (h:Q (.bool false) s):wpAny (model prog w) A (call (.builtin "dict.__ne__") [.ref a,.ref b]) Q E s:=by
 have hT:s.TypeIs (.ref a) "dict" :=⟨_,e1,rfl⟩
 have hT':s.TypeIs (.ref b) "dict" :=⟨_,e2,rfl⟩
 refine wpAny_call_entry F.slot_dict_ne hT F.entry_dict_ne ?_ (F.args_dict_ne_2 _ _)
 show wpAny _ _ (do
  let (self,other) ← Builtin.Dict.dictSlotArgs "__ne__" ⟨[.ref a,.ref b],[]⟩
  if !(← isInstance other (.type "dict")) then rule s!"dict.{"__ne__"}.not-a-dict";return ← ret .notImplemented
  ret (.bool ((← Builtin.Dict.samePairs s!"dict.{"__ne__"}" (← Builtin.Dict.addrOf self) (← Builtin.Dict.addrOf other)) == false))) _ _ s
 refine wpAny_bind (wpAny_bind (wpAny_notOrdered_dict hT (wpAny_bind (wpAny_pure (wpAny_pure ?_)))))
 refine wpAny_bind (wpAny_isInstance hT' isSubtype_dict_dict ?_)
 refine af (aE (by trivial)) ?_
 refine wpAny_bind (wpAny_pure (wpAny_bind (wpAny_pure (wpAny_bind (hM S ha hb e1 e2 D1 D2 O same (by show A.units+1+64<_;lia) ?_)))))
 exact wpAny_pure ⟨_,rfl,h⟩
set_option tactic.hygienic true in
theorem zB{va vb:Value}{a b:V}{c:Bool}{Q:Value→Shared→Prop}(S:St w.params G h₀ Z s.heap)(hz:∃ o,h₀.get? sysModules=some o)(ra:bh G s.heap va a)(rb:bh G s.heap vb b)(hu:A.units+70<cLine)(e:zC Z a b c)(h:Q (.bool c) s) :
  wpAny (model prog w) A (compareOp .Eq va vb) Q E s:=by
 delta zC at e
 split at e
 ·rename_i p q
  refine af ra.ref_inv ?_;refine af rb.ref_inv ?_
  obtain⟨rfl,e | ⟨es,fs,h1,h2,sd⟩⟩:=e
  ·refine o1x2 e fun d d1 d2=>?_;clear e
   refine o0x3 (eK S _ _ _ _ (.ref p) d1) fun q0 l1 z1=>?_;obtain⟨as,r1⟩:=q0
   refine o0x3 (eK S _ _ _ _ (.ref q) d2) fun q0 l2 z2=>?_;obtain⟨bs,r2⟩:=q0
   have sh:SeqAt.shaped d=true:=by
    delta SeqAt.shaped
    (rewrite[l1];rewrite[Bool.true_and];rw[decide_eq_true_eq]);lia
   refine eq_dataH r1 r2 sh sh (by lia) ?_
   rw[SeqAt.eqv_refl d l1];exact h
  ·refine o3x4 (S.obj _ _ h1) fun ds n kk e1 D1 O1 z1=>?_
   refine o3x4 (S.obj _ _ h2) fun ds' m kk' e2 D2 O2 z2=>?_
   show wpAny _ _ (richCompare .Eq (.ref p) (.ref q)) _ _ _
   exact wpAny_richCompare_same_room (T := "dict") ⟨_,e1,rfl⟩ ⟨_,e2,rfl⟩ F.slot_dict_eq
    (mu S (iQ S hz (by rw[h1];simp)) (iQ S hz (by rw[h2];simp)) e1 e2 D1 D2 O2 sd (by lia) ⟨(fun x=>nomatch x),h⟩) (by lia)
 ·refine af ra.bool_inv ?_;refine af rb.bool_inv ?_
  subst e;exact PyProof.Rows.eq_bool h
 ·refine o0x2 e fun hp e1=>?_;clear e;obtain rfl:=e1
  rw[Bool.and_eq_true] at hp
  refine aI (eZ 30 ra hp.1) fun as r1=>?_
  refine aI (eZ 30 rb hp.2) fun bs r2=>?_
  have l1:=gm 30 _ hp.1
  have l2:=gm 30 _ hp.2
  refine eq_dataH r1 r2 ?_ ?_ (by lia) ?_
  ·delta SeqAt.shaped;(rewrite[l1.1];rewrite[Bool.true_and];rw[decide_eq_true_eq]);lia
  ·delta SeqAt.shaped;(rewrite[l2.1];rewrite[Bool.true_and];rw[decide_eq_true_eq]);lia
  ·rw[mj 30 30 _ _ hp.1 hp.2];exact h
set_option tactic.hygienic true in
theorem yK{va vb:Value}{a b:V}{c:Bool}{Q:Value→Shared→Prop}(S:St w.params G h₀ Z s.heap)(hz:∃ o,h₀.get? sysModules=some o)(ra:bh G s.heap va a)(rb:bh G s.heap vb b)(hu:A.units+70<cLine)(e:zC Z a b c)(h:Q (.bool (!c)) s) :
  wpAny (model prog w) A (compareOp .NotEq va vb) Q E s:=by
 delta zC at e
 split at e
 ·rename_i p q
  refine af ra.ref_inv ?_;refine af rb.ref_inv ?_
  obtain⟨rfl,e | ⟨es,fs,h1,h2,sd⟩⟩:=e
  ·refine o1x2 e fun d d1 d2=>?_;clear e
   refine o0x3 (eK S _ _ _ _ (.ref p) d1) fun q0 l1 z1=>?_;obtain⟨as,r1⟩:=q0
   refine o0x3 (eK S _ _ _ _ (.ref q) d2) fun q0 l2 z2=>?_;obtain⟨bs,r2⟩:=q0
   have sh:SeqAt.shaped d=true:=by
    delta SeqAt.shaped
    (refine af l1 ?_;rewrite[Bool.true_and];refine af decide_eq_true_eq ?_);lia
   refine ne_dataH r1 r2 sh sh (by lia) ?_
   refine af (SeqAt.eqv_refl d l1) ?_;exact h
  ·refine o3x4 (S.obj _ _ h1) fun ds n kk e1 D1 O1 z1=>?_
   refine o3x4 (S.obj _ _ h2) fun ds' m kk' e2 D2 O2 z2=>?_
   show wpAny _ _ (richCompare .NotEq (.ref p) (.ref q)) _ _ _
   exact wpAny_richCompare_same_room (T := "dict") ⟨_,e1,rfl⟩ ⟨_,e2,rfl⟩ F.slot_dict_ne
    (mr S (iQ S hz (by refine af h1 ?_;simp)) (iQ S hz (by refine af h2 ?_;simp)) e1 e2 D1 D2 O2 sd (by lia) ⟨(fun x=>nomatch x),h⟩) (by lia)
 ·refine af ra.bool_inv ?_;refine af rb.bool_inv ?_
  subst e;exact PyProof.Rows.ne_bool h
 ·refine o0x2 e fun hp e1=>?_;clear e;obtain rfl:=e1
  rw[Bool.and_eq_true] at hp
  refine aI (eZ 30 ra hp.1) fun as r1=>?_
  refine aI (eZ 30 rb hp.2) fun bs r2=>?_
  have l1:=gm 30 _ hp.1
  have l2:=gm 30 _ hp.2
  refine ne_dataH r1 r2 ?_ ?_ (by lia) ?_
  ·delta SeqAt.shaped;(refine af l1.1 ?_;rewrite[Bool.true_and];refine af decide_eq_true_eq ?_);lia
  ·delta SeqAt.shaped;(refine af l2.1 ?_;rewrite[Bool.true_and];refine af decide_eq_true_eq ?_);lia
  ·refine af (mj 30 30 _ _ hp.1 hp.2) ?_;exact h
theorem i0{op:CmpOp}{va vb:Value}{a b:V}{c:Bool}{Q:Value→Shared→Prop}(S:St w.params G h₀ Z s.heap)(hz:∃ o,h₀.get? sysModules=some o)(hg:xv G h₀)(ra:bh G s.heap va a)(rb:bh G s.heap vb b)(hu:A.units+70<cLine)(e:eg Z op a b c)
  (h:∀ tk,Q (.bool c) { s with toks:=tk }):wpAny (model prog w) A (compareOp op va vb) Q E s:=by
 have isn:∀ {r:Bool} {Q:Bool→Shared→Prop},ze a=some r→Q r s→wpAny (model prog w) A (isSame va .none) Q E s:=fun{r Q} er hq=>by
  refine wpAny_isSame_plain (by induction ra using bh.casesOn<;>first | rfl | exact ns er) ?_
  have:(va == Value.none)=r:=by
   induction ra using bh.casesOn<;>(first | exact ns er | cases er)<;>rfl
  refine af this ?_;exact hq
 delta eg at e
 split at e
 ·obtain⟨rfl,e⟩:=e
  refine af rb.none_inv ?_
  show wpAny _ _ (do return Value.bool (← isSame va Value.none)) _ _ _
  exact wpAny_bind (isn e (wpAny_pure (h s.toks)))
 ·obtain⟨rfl,e⟩:=e
  refine af rb.none_inv ?_
  show wpAny _ _ (do return Value.bool (!(← isSame va Value.none))) _ _ _
  exact wpAny_bind (isn e (wpAny_pure (by rw[Bool.not_not];exact h s.toks)))
 ·exact zB S hz ra rb hu e (h _)
 ·refine yK S hz ra rb hu e ?_
  rw[Bool.not_not];exact h _
 ·show wpAny _ _ (do return Value.bool (← contains vb va)) _ _ _
  exact wpAny_bind (xE S hz hg ra rb hu e fun tk=>wpAny_pure (h _))
 ·show wpAny _ _ (do return Value.bool (!(← contains vb va))) _ _ _
  refine wpAny_bind (xE S hz hg ra rb hu e fun tk=>wpAny_pure ?_)
  rw[Bool.not_not];exact h _
 ·obtain⟨x,y,rfl,rfl,e⟩:=e
  obtain⟨t,rfl⟩:=ra.int_inv;obtain⟨u,rfl⟩:=rb.int_inv
  delta um at e
  split at e
  ·obtain rfl:=aQ e;exact PyProof.Rows.lt_int (h _)
  ·obtain rfl:=aQ e;exact PyProof.Rows.le_int (h _)
  ·obtain rfl:=aQ e;exact PyProof.Rows.gt_int (h _)
  ·obtain rfl:=aQ e;exact PyProof.Rows.ge_int (h _)
  ·exact ns e
end
theorem AU(a n:Nat):Builtin.Slice.sliceAdjust (some (a:Int)) none 1 (n:Int)=(((min a n:Nat):Int),(n:Int)):=by
 unfold Builtin.Slice.sliceAdjust
 have h1:¬((1:Int)<0):=by lia
 have h2:¬((a:Int)<0):=by lia
 simp only[h1,h2,if_false]
 congr 1
 lia
theorem AV(a n:Nat):Builtin.Slice.sliceAdjust none (some (a:Int)) 1 (n:Int)=((0:Int),((min a n:Nat):Int)):=by
 unfold Builtin.Slice.sliceAdjust
 have h1:¬((1:Int)<0):=by lia
 have h2:¬((a:Int)<0):=by lia
 simp only[h1,h2,if_false]
 congr 1
 lia
theorem jR(a n:Nat):Builtin.Slice.slicePlaces (a:Int) (n:Int) 1=n - a:=by
 unfold Builtin.Slice.slicePlaces
 have h1:(1:Int) > 0:=by lia
 simp only[h1,if_true,Int.ediv_one]
 split<;>lia
theorem s9(vs:Array Value):(slicePick vs none none (some (-1))).toList=vs.toList.reverse:=by
 have e:sliceBounds none none (some (-1)) vs.size=((vs.size:Int) - 1,-1,-1):=by
  simp only[sliceBounds,Option.getD_some]
  rfl
 have c:sliceRange ((vs.size:Int) - 1) (-1) (-1)=(List.range vs.size).map fun k=>vs.size - 1 - k:=by
  have h1:¬((-1:Int) > 0):=by lia
  have hc:((if(-1:Int) > 0 then(if(vs.size:Int) - 1 < -1 then(-1 - ((vs.size:Int) - 1) + -1 - 1) / -1 else 0) else(if(vs.size:Int) - 1 > -1 then((vs.size:Int) - 1 - -1 - -1 - 1) / (- -1) else 0)):Int).toNat=vs.size:=by
   refine af (aE h1) ?_
   split
   ·have:((vs.size:Int) - 1 - -1 - -1 - 1) / (- -1)=vs.size:=by
     (refine af (show(- -1:Int)=1 from rfl) ?_;rw[Int.ediv_one]);lia
    refine af this ?_;rfl
   ·lia
  show(List.range _).map _=_
  refine af hc ?_
  apply List.map_congr_left
  intro k hk
  have:=List.mem_range.mp hk
  lia
 unfold slicePick
 refine af e ?_
 refine af c ?_
 have r:(List.range vs.size).map (fun k=>vs.size - 1 - k)=(List.range vs.size).reverse:=by
  apply List.ext_getElem
  ·simp
  ·intro i h1 h2
   simp only[List.length_map,List.length_range] at h1
   (rewrite[List.getElem_map];rewrite[List.getElem_range];rewrite[List.getElem_reverse];rewrite[List.getElem_range];(refine af List.length_range ?_;with_reducible rfl))
 have f:=pick_run vs 0 vs.size
 rw[List.filterMap_map] at f
 have e2:((fun x=>vs[x]?)∘fun x=>0+x)=fun i=>vs[i]?:=by funext i;simp
 rw[e2] at f
 (refine af r ?_;refine ak (List.filterMap_reverse) ?_;refine af f ?_;refine af List.drop_zero ?_;rw[List.take_of_length_le (by simp)])
section
variable {prog:Program} {w:World} {A:Around} {E:Value→Shared→Prop} {s:Shared} {G:GT} {h₀:Heap} {Z:H}
theorem pG{sl:Addr}{a n:Nat}{u:Tok}{Q:Int×Int×Nat→Shared→Prop}(hs:s.heap.IsSliceOf sl (.int a u) .none .none)(h:Q (((min a n:Nat):Int),1,n - a) s) :
  wpAny (model prog w) A (Builtin.Slice.sliceApplied (.ref sl) (pure (n:Int))) Q E s:=by
 refine cP fun PP kk=>?_
 refine o1x3 (id hs) fun os hos hcs hds=>?_
 refine kk ?_
 refine wpAny_bind (wpAny_bind (wpAny_field hos hds (x:=.int a u) rfl (wpAny_bind (wpAny_field hos hds (x:=.none) rfl (wpAny_bind (wpAny_field hos hds (x:=.none) rfl (wpAny_pure ?_)))))))
 refine wpAny_bind (slicePart_none ?_)
 show wpAny _ _ (if((1:Int) == 0)=true then _ else _) _ _ s
 refine af (aE (by decide)) ?_
 refine wpAny_bind (slicePart_int (wpAny_bind (slicePart_none (wpAny_bind (wpAny_pure ?_)))))
 show wpAny _ _ (match Builtin.Slice.sliceAdjust (some (a:Int)) none 1 (n:Int) with | (lo,hi)=>pure (lo,(1:Int),Builtin.Slice.slicePlaces lo hi 1)) _ _ s
 refine af (AU a n) ?_
 show wpAny _ _ (pure (((min a n:Nat):Int),(1:Int),Builtin.Slice.slicePlaces ((min a n:Nat):Int) (n:Int) 1)) _ _ s
 rw[jR]
 refine af (show n - min a n=n - a by lia) ?_
 exact wpAny_pure h
theorem pH{sl:Addr}{a n:Nat}{u:Tok}{Q:Int×Int×Nat→Shared→Prop}(hs:s.heap.IsSliceOf sl .none (.int a u) .none)(h:Q (0,1,min a n) s) :
  wpAny (model prog w) A (Builtin.Slice.sliceApplied (.ref sl) (pure (n:Int))) Q E s:=by
 refine cP fun PP kk=>?_
 refine o1x3 (id hs) fun os hos hcs hds=>?_
 refine kk ?_
 refine wpAny_bind (wpAny_bind (wpAny_field hos hds (x:=.none) rfl (wpAny_bind (wpAny_field hos hds (x:=.int a u) rfl (wpAny_bind (wpAny_field hos hds (x:=.none) rfl (wpAny_pure ?_)))))))
 refine wpAny_bind (slicePart_none ?_)
 show wpAny _ _ (if((1:Int) == 0)=true then _ else _) _ _ s
 refine af (aE (by decide)) ?_
 refine wpAny_bind (slicePart_none (wpAny_bind (slicePart_int (wpAny_bind (wpAny_pure ?_)))))
 show wpAny _ _ (match Builtin.Slice.sliceAdjust none (some (a:Int)) 1 (n:Int) with | (lo,hi)=>pure (lo,(1:Int),Builtin.Slice.slicePlaces lo hi 1)) _ _ s
 refine af (AV a n) ?_
 show wpAny _ _ (pure ((0:Int),(1:Int),Builtin.Slice.slicePlaces ((0:Nat):Int) ((min a n:Nat):Int) 1)) _ _ s
 rw[jR]
 exact wpAny_pure h
theorem tb(xs:Array Value)(a k:Nat)(_h:a+k≤xs.size):((List.range k).filterMap fun(i:Nat)=>xs[((a:Int)+(i:Int) * 1).toNat]?).toArray=((xs.toList.drop a).take k).toArray:=by
 have e:(fun(i:Nat)=>xs[((a:Int)+(i:Int) * 1).toNat]?)=fun i=>xs[a+i]?:=by
  funext i
  have:((a:Int)+(i:Int) * 1).toNat=a+i:=by lia
  (refine af this ?_;with_reducible rfl)
 refine af e ?_
 have:=pick_run xs a k
 rw[List.filterMap_map] at this
 have e2:((fun x=>xs[x]?)∘fun x=>a+x)=fun i=>xs[a+i]?:=rfl
 rw[e2] at this
 (refine af this ?_;with_reducible rfl)
theorem kM{t sl:Addr}{items:Array Value}{lo k:Nat}{Q:Value→Shared→Prop}(ht:IsTup s.heap t items)(hsl:s.TypeIs (.ref sl) "slice")
  (ha:∀ {Q:Int×Int×Nat→Shared→Prop} {A:Around} {E:Value→Shared→Prop},Q ((lo:Int),1,k) s→wpAny (model prog w) A (Builtin.Slice.sliceApplied (.ref sl) (pure (items.size:Int))) Q E s) (hb:lo+k≤items.size)
  (h1:lo=0→k=items.size→Q (.ref t) s)
  (h2:Q (.ref s.heap.objs.size) { s with heap:=s.heap.push { cls:=.type "tuple",data:=.seq ((items.toList.drop lo).take k).toArray } })
  (hsz:items.size≤sizeLine):wpAny (model prog w) A (getItem (.ref t) (.ref sl)) Q E s:=by
 have hdrop:sizeOk (.seq ((items.toList.drop lo).take k).toArray):=by
  show((items.toList.drop lo).take k).toArray.size≤sizeLine
  (refine af List.size_toArray ?_;refine af List.length_take ?_;refine af List.length_drop ?_;refine af Array.length_toList ?_)
  lia
 delta getItem
 try with_reducible refine wpAny_holding ?_
 first | refine wpAny_bind (wpAny_pure ?_) | skip
 refine wpAny_bind (wpAny_sequenceKey ht.typeIs (by decide) ?_)
 refine wpAny_bind (wpAny_callSpecial?_slot (name:=Str.ofString "__getitem__") ht.typeIs slot_tuple_getitem
  (wpAny_call_entry slot_tuple_getitem ht.typeIs entry_tuple_getitem ?_ (args_tuple_getitem _ _)))
 show wpAny _ _ (Builtin.Tuple.tupleItemsOf (.ref t) >>= _) _ _ s
 refine wpAny_bind (tupleItemsOf_ ht ?_)
 refine wpAny_bind (wpAny_typeOf hsl ?_)
 refine af (aH (by decide)) ?_
 refine wpAny_bind (ha ?_)
 show wpAny _ _ (if((lo:Int) == 0 && (1:Int) == 1 && k == items.size)=true then _ else _) _ _ s
 have fin:wpAny (model prog w) A.in1 (Builtin.Tuple.tupleExact ((List.range k).filterMap fun(i:Nat)=>items[((lo:Int)+(i:Int) * 1).toNat]?).toArray >>= fun v=>ret v) (fun fin s'=>∃ v,fin=Fin.done (Flow.ret v)∧wpAny (model prog w) A (pure v) Q E s') E s:=by
  refine af (tb items lo k hb) ?_
  exact wpAny_bind (m:=Builtin.Tuple.tupleExact _) (wpAny_newObj_type (wpAny_pure ⟨_,rfl,wpAny_pure h2⟩) hdrop)
 by_cases hw:((lo:Int) == 0 && (1:Int) == 1 && k == items.size)=true
 ·refine af (aH hw) ?_
  have hw':lo=0∧k=items.size:=by simpa using hw
  refine wpAny_bind (wpAny_bind (wpAny_typeOf ht.typeIs (wpAny_pure ?_)))
  refine af (aH (by decide)) ?_
  first
   |exact wpAny_bind (wpAny_rule (wpAny_pure ⟨_,rfl,wpAny_pure (h1 hw'.1 hw'.2)⟩))
 ·refine af (aE hw) ?_
  first
   |exact fin
set_option tactic.hygienic true in
theorem wZ{va vl:Value}{a l:V}{sl:Addr}{Q:aP}(S:St w.params G h₀ Z s.heap)(ra:bh G s.heap va a)(rl:bh G s.heap vl l)(hs:s.heap.IsSliceOf sl vl .none .none)(h:uh a l Q Z) :
  wpAny (model prog w) A (getItem va (.ref sl)) (bU w.params G h₀ Z s Q) E s:=by
 delta uh at h
 split at h
 ·refine cP fun PP kk=>?_
  rename_i xs i
  refine o0x2 h fun q0 h=>?_;obtain⟨h0,_⟩:=q0
  refine o3x2 ra.tup_inv fun p vs n e3 q9=>?_;obtain rfl:=e3;refine o0x3 q9 fun e1 r1 z=>?_;clear q9;refine aI rl.int_inv fun u e1=>?_;obtain rfl:=e1
  refine aI (Int.eq_ofNat_of_zero_le h0) fun j e1=>?_;obtain rfl:=e1
  have l1:vs.size=xs.length:=by refine bt r1.length ?_;rfl
  refine o1x3 (id hs) fun os hos hcs hds=>?_
  have ej:((j:Int)).toNat=j:=rfl
  rw[ej] at h
  refine kk ?_
  refine kM (lo:=min j vs.size) (k:=vs.size - j) ⟨_,e1,rfl,n,rfl⟩ ⟨os,hos,hcs⟩ (fun hq=>pG hs hq) (by lia) (fun h1 h2=>?_) ?_ (cr (by lia))
  ·refine bU.here S h ?_
   have:xs.drop j=xs:=by
    rcases Nat.eq_zero_or_pos j with rfl | hj
    ·rfl
    ·have:vs.size=0:=by lia
     have:xs=[]:=List.eq_nil_of_length_eq_zero (by lia)
     refine af this ?_;simp
   refine af this ?_;exact ra
  ·refine bU.tup S h ?_ (by refine af List.length_drop ?_;lia) _
   have:(vs.toList.drop (min j vs.size)).take (vs.size - j)=vs.toList.drop j:=by
    refine Or.elim (Nat.le_total j vs.size) (fun hj=>?_) (fun hj=>?_)
    ·(refine af (Nat.min_eq_left hj) ?_;(refine ak (List.take_of_length_le (by simp)) ?_;with_reducible rfl))
    ·(refine af (Nat.min_eq_right hj) ?_;refine af (List.drop_of_length_le (by simp)) ?_;refine af (List.drop_of_length_le (by simp;lia)) ?_);simp
   refine af (show((vs.toList.drop (min j vs.size)).take (vs.size - j)).toArray.toList=_ from this) ?_
   exact r1.drop j
 ·exact h.elim
noncomputable def lA(G:GT)(h:Heap):Prop:=∃ vs n,h.get? G.arg=some { cls:=.type "list",data:=.seq vs n }∧bx G h vs.toList G.argl∧G.argl.length≤bM
set_option tactic.hygienic true in
theorem w0(hA:lA G h₀){va vh:Value}{a hi:V}{sl:Addr}{Q:aP}(S:St w.params G h₀ Z s.heap)(ra:bh G s.heap va a)(rl:bh G s.heap vh hi)(hs:s.heap.IsSliceOf sl .none vh .none)(h:ui a hi Q Z) :
  wpAny (model prog w) A (getItem va (.ref sl)) (bU w.params G h₀ Z s Q) E s:=by
 delta ui at h
 split at h
 ·refine cP fun PP kk=>?_
  rename_i xs i
  obtain⟨⟨h0,_⟩,h⟩:=h
  obtain⟨p,vs,n,rfl,e1,r1,z⟩:=ra.tup_inv;obtain⟨u,rfl⟩:=rl.int_inv
  obtain⟨j,rfl⟩:=Int.eq_ofNat_of_zero_le h0
  have l1:vs.size=xs.length:=by refine bt r1.length ?_;rfl
  obtain⟨os,hos,hcs,hds⟩:=id hs
  have ej:((j:Int)).toNat=j:=rfl
  rw[ej] at h
  refine kk ?_
  refine kM (lo:=0) (k:=min j vs.size) ⟨_,e1,rfl,n,rfl⟩ ⟨os,hos,hcs⟩ (fun hq=>pH hs hq) (by lia) (fun h1 h2=>?_) ?_ (cr (by lia))
  ·refine bU.here S h ?_
   refine af (List.take_of_length_le (by lia)) ?_;exact ra
  ·refine bU.tup S h ?_ (by refine af List.length_take ?_;lia) _
   have:(vs.toList.drop 0).take (min j vs.size)=vs.toList.take j:=by
    refine af List.drop_zero ?_
    refine Or.elim (Nat.le_total j vs.size) (fun hj=>?_) (fun hj=>?_)
    ·(refine af (Nat.min_eq_left hj) ?_;with_reducible rfl)
    ·(refine af (Nat.min_eq_right hj) ?_;refine ak (List.take_of_length_le (by simp)) ?_;(refine af (List.take_of_length_le (by simp;lia)) ?_;with_reducible rfl))
   refine af (show((vs.toList.drop 0).take (min j vs.size)).toArray.toList=_ from this) ?_
   exact r1.take j
 ·refine cP fun PP kk=>?_
  rename_i p i
  obtain⟨xs,hZ,⟨h0,hl⟩,h⟩:=h
  refine kk ?_
  obtain rfl:=ra.ref_inv;obtain⟨u,rfl⟩:=rl.int_inv
  refine cP fun PP kk=>?_
  obtain⟨vs,n,e1,r1,z⟩:=S.obj _ _ hZ
  obtain⟨j,rfl⟩:=Int.eq_ofNat_of_zero_le h0
  have l1:vs.size=xs.length:=by refine bt r1.length ?_;rfl
  have ej:((j:Int)).toNat=j:=rfl
  rw[ej] at h
  refine kk ?_
  refine wpAny_getItem_list_slice ⟨_,e1,rfl,n,rfl⟩ hs .none (.int _ u) .none (by trivial) ?_ (cr (by lia))
  refine bU.list S h ?_ (by refine af List.length_take ?_;lia) _
  have:(slicePick vs none (some (j:Int)) none).toList=vs.toList.take j:=by
   (refine af (slicePick_upto' vs j) ?_;with_reducible rfl)
  refine af this ?_;exact r1.take j
 ·refine cP fun PP kk=>?_
  rename_i xs i
  obtain⟨⟨h0,_⟩,h⟩:=h
  obtain⟨rfl,rfl⟩:=ra.inv;obtain⟨u,rfl⟩:=rl.int_inv
  obtain⟨vs,n,e0,r0,z⟩:=hA
  have e1:=S.base _ _ e0
  have r1:=r0.stays (h':=s.heap) fun b o e za=>S.base b o e
  obtain⟨j,rfl⟩:=Int.eq_ofNat_of_zero_le h0
  have l1:vs.size=G.argl.length:=by refine bt r1.length ?_;rfl
  have ej:((j:Int)).toNat=j:=rfl
  rw[ej] at h
  refine kk ?_
  refine wpAny_getItem_list_slice ⟨_,e1,rfl,n,rfl⟩ hs .none (.int _ u) .none (by trivial) ?_ (cr (by lia))
  refine bU.list S h ?_ (by refine af List.length_take ?_;lia) _
  have:(slicePick vs none (some (j:Int)) none).toList=vs.toList.take j:=by
   (refine af (slicePick_upto' vs j) ?_;with_reducible rfl)
  refine af this ?_;exact r1.take j
 ·exact h.elim
set_option tactic.hygienic true in
theorem vH{va:Value}{a:V}{sl:Addr}{u:Tok}{Q:aP}(S:St w.params G h₀ Z s.heap)(ra:bh G s.heap va a)(hs:s.heap.IsSliceOf sl .none .none (.int (-1) u))(h:sT a Q Z) :
  wpAny (model prog w) A (getItem va (.ref sl)) (bU w.params G h₀ Z s Q) E s:=by
 delta sT at h
 split at h
 ·rename_i p
  refine o1x2 h fun xs hZ h=>?_
  refine af ra.ref_inv ?_
  refine cP fun PP kk=>?_
  refine o2x3 (S.obj _ _ hZ) fun vs n e1 r1 z=>?_
  have l1:vs.size=xs.length:=by refine bt r1.length ?_;rfl
  refine kk ?_
  refine wpAny_getItem_list_slice ⟨_,e1,rfl,n,rfl⟩ hs .none .none (.int _ u) (by trivial) ?_ (cr (by lia))
  refine bU.list S h ?_ (by refine af List.length_reverse ?_;lia) _
  have:(slicePick vs none none (some (-1))).toList=vs.toList.reverse:=s9 vs
  refine af this ?_;exact r1.reverse
 ·exact h.elim
end
section
variable {P:Params} {G:GT} {h:Heap}
theorem j5{ds:List DictEntry}{fs:List (Nat×V)}(F:jp P G h ds fs){x:Nat}(hx:x<NT):(∀ y,dK fs x=some y→∃ v,getL (cy x) ds=some (some v)∧bh G h v y)∧(dK fs x=none→getL (cy x) ds=some none)∧ds.any (·.refKey)=false:=by
 induction F with
 |nil=>exact⟨(fun y e=>by exact ns e),fun za=>rfl,rfl⟩
 |@cons d ds e es t hlt hk hh r F ih=>
  have hr:d.refKey=false:=by unfold DictEntry.refKey;(refine af hk ?_;with_reducible rfl)
  have any:(d::ds).any (·.refKey)=false:=by(refine ak (List.any_cons) ?_;refine af hr ?_;refine ak (ih.2.2) ?_);rfl
  by_cases q:e.1=x
  ·refine bt q ?_
   have hs:d.key.isStr (cy e.1)=true:=by refine af hk ?_;simp[Value.isStr]
   refine⟨fun y ey=>?_,fun ey=>?_,any⟩
   ·unfold dK at ey;rw[aH rfl] at ey;refine bt (aQ ey) ?_
    exact⟨d.val,by unfold getL;(refine af (List.find?_cons) ?_;(refine af hs ?_;with_reducible rfl)),r⟩
   ·unfold dK at ey;rw[aH rfl] at ey;exact sn ey
  ·have hs:d.key.isStr (cy x)=false:=by
    refine af hk ?_
    have:¬cy e.1=cy x:=fun z=>q (ia hlt hx z)
    simp[Value.isStr,this]
   refine⟨fun y ey=>?_,fun ey=>?_,any⟩
   ·unfold dK at ey;rw[aE q] at ey
    refine o1x2 (ih.1 y ey) fun v h1 h2=>?_
    refine⟨v,?_,h2⟩
    unfold getL at h1 ⊢
    (refine af (List.find?_cons) ?_;refine af hs ?_;refine af any ?_)
    rw[ih.2.2] at h1
    exact h1
   ·unfold dK at ey;rw[aE q] at ey
    have h1:=ih.2.1 ey
    unfold getL at h1 ⊢
    (refine af (List.find?_cons) ?_;refine af hs ?_;refine af any ?_)
    rw[ih.2.2] at h1
    exact h1
theorem tY{ds:List DictEntry}{fs:List (Nat×V)}(F:jp P G h ds fs){x:Nat}(hx:x<NT){v:Value}{y:V}(r:bh G h v y)(t:Tok):jp P G h (putL (cy x) (PyData.keyHash P (cy x)) (.str (cy x) t) v ds) (cZ fs x y):=by
 induction F with
 |nil=>exact .cons hx rfl rfl r .nil
 |@cons d ds e es t' hlt hk hh r' F ih=>
  unfold putL cZ
  by_cases q:e.1=x
  ·refine bt q ?_
   have hs:d.key.isStr (cy e.1)=true:=by refine af hk ?_;simp[Value.isStr]
   (refine af (aH hs) ?_;refine af (aH rfl) ?_)
   exact .cons hlt hk hh r F
  ·have hs:d.key.isStr (cy x)=false:=by
    refine af hk ?_
    have:¬cy e.1=cy x:=fun z=>q (ia hlt hx z)
    simp[Value.isStr,this]
   (refine af (aE (by rw[hs];exact Bool.false_ne_true)) ?_;refine af (aE q) ?_)
   exact .cons hlt hk hh r' ih
theorem jh{ds:List DictEntry}{fs:List (Nat×V)}(F:jp P G h ds fs):ds.length=fs.length:=by
 induction F with
 |nil=>rfl
 |cons _ _ _ _ _ ih=>(refine ak (List.length_cons) ?_;refine af List.length_cons ?_;(refine af ih ?_;with_reducible rfl))
end
theorem kX:∀ (fs:List (Nat×V)) (x:Nat) (y:V),(cZ fs x y).map (·.1)=if x ∈ fs.map (·.1) then fs.map (·.1) else fs.map (·.1)++[x]
 |[],x,y=>by simp[cZ]
 |e::fs,x,y=>by
  unfold cZ
  by_cases q:e.1=x
  ·refine af (aH q) ?_;simp[q]
  ·(refine af (aE q) ?_;refine ak (List.map_cons) ?_;refine af (kX fs x y) ?_;refine af List.map_cons ?_)
   by_cases z:x ∈ fs.map (·.1)
   ·(refine af (aH z) ?_;(refine af (aH (.tail _ z)) ?_;with_reducible rfl))
   ·(refine af (aE z) ?_;refine af (aE (by intro h;rcases List.mem_cons.mp h with h | h;exact q h.symm;exact z h)) ?_);rfl
theorem iR:∀ (l:List Nat),l.Nodup→∀ (m:List Nat),(∀ x ∈ l,x ∈ m)→l.length≤m.length
 |[],_,m,_=>Nat.zero_le _
 |a::l,hn,m,hs=>by
  have hn:=List.nodup_cons.mp hn
  have:=iR l hn.2 (m.erase a) (fun x hx=>by
   have:x≠a:=fun z=>hn.1 (z▸hx)
   exact(List.mem_erase_of_ne this).mpr (hs x (.tail _ hx)))
  rw[List.length_erase_of_mem (hs a (.head _))] at this
  have:0<m.length:=List.length_pos_of_mem (hs a (.head _))
  refine af List.length_cons ?_;lia
theorem tW{P:List Nat→Prop}(h0:P [])(c:Nat):∀ {l:List (Nat×List Nat)},(∀ p ∈ l,P p.2)→P ((l.lookup c).getD []):=by
 intro l
 induction l with
 |nil=>exact fun _z=>h0
 |cons p l ih=>
  intro h
  refine af List.lookup_cons ?_
  induction c == p.1 using Bool.casesOn with
  |true=>exact h p (.head _)
  |false=>exact ih fun q hq=>h q (.tail _ hq)
noncomputable def sz(l:List Nat):Bool:=l.all (fun x=>decide (x<NT)) && decide (l.length≤30)
theorem gu(c x:Nat)(h:(bo c).contains x=true):x<NT∧(bo c).length≤30:=by
 have k:sz (bo c)=true:=tW (P:=fun l=>sz l=true) rfl c (List.all_eq_true.mp (show(ou.all fun p=>sz p.2)=true by kernel_rfl))
 have k:=(Bool.and_eq_true_iff.mp k)
 exact⟨of_decide_eq_true (List.all_eq_true.mp k.1 x (List.contains_iff_mem.mp h)),of_decide_eq_true k.2⟩
structure qS (K:Frag) (c:Nat) (C:Addr):Prop where
 get:plainGet K C "" = true
 dict:hasDictIn K C=true
 set:findIn K (.ref C) "__setattr__" = some (some (.builtin "object.__setattr__"))
 over:plainOver K C=true
 attrs:∀ x,(bo c).contains x=true→takerIn K C (cy x)=some none∧∃ attr,findIn K (.ref C) (cy x)=some attr∧noGet K attr=true
section
variable {prog:Program} {w:World} {A:Around} {E:Value→Shared→Prop} {s:Shared} {G:GT} {h₀:Heap} {Z:H} {K:Frag}
theorem lZ(S:St w.params G h₀ Z s.heap){a:Addr}{c:Nat}{fs:List (Nat×V)}(e:Z a=some (.inst c fs)):∃ C ds n,G.fn c=some C∧db c=true∧0<a∧s.heap.get? a=some { cls:=.ref C,dict:=some (a - 1),data:=.plain }∧s.heap.get? (a - 1)=some (dictOf ds n)∧
  jp w.params G s.heap ds fs∧(∀ x ∈ fs.map (·.1),(bo c).contains x=true)∧(fs.map (·.1)).Nodup∧InstAt s.heap a { cls:=.ref C,dict:=some (a - 1),data:=.plain } C (some (dictOf ds n)):=by
 refine cP fun PP kk=>?_
 refine o3x8 (S.obj _ _ e) fun C ds n z0 z1 z2 e1 e2 F z3 z4=>?_
 have e2':s.heap.get? (a - 1)=some (dictOf ds.toList n):=by(refine ak (e2) ?_;with_reducible rfl)
 refine kk ?_
 exact⟨C,ds.toList,n,z1,z2,z0,e1,e2',F,z3,z4,⟨e1,rfl,rfl,e2'⟩⟩
theorem zi{h:Heap}{v:Value}{x:V}(r:bh G h v x):handedIn v=true:=by
 induction r using bh.casesOn with
 |bi e=>refine kh (P:=fun _z v=>handedIn v=true) ?_ ?_ ?_ ?_ ?_ ?_ ?_ e<;>decide +kernel
 |_=>rfl
set_option tactic.hygienic true in
theorem qJ{va:Value}{o y:V}{x:Nat}{expr:Bool}{Q:Value→Shared→Prop}(S:St w.params G h₀ Z s.heap)(X:K.In h₀)(hc:∀ c C,db c=true→G.fn c=some C→qS K c C)(ra:bh G s.heap va o)(e:cV Z o x=some y)
  (h:∀ v tk,bh G s.heap v y→Q v { s with toks:=tk }):wpAny (model prog w) A (getAttr va (cy x) expr) Q E s:=by
 unfold cV at e
 split at e
 ·rename_i a
  refine af ra.ref_inv ?_
  split at e
  ·rename_i c fs hZ
   split at e
   ·refine cP fun PP kk=>?_
    rename_i hx
    refine o3x9 (lZ S hZ) fun C ds n z1 z2 z0 e1 e2 F z3 z4 I=>?_
    obtain⟨k1,k2,k3,k4,k5⟩:=hc c C z2 z1
    obtain⟨k6,attr,k7,k8⟩:=k5 x hx
    refine o1x2 ((j5 F (gu c x hx).1).1 y e) fun v h1 r=>?_
    have X':K.In s.heap:=X.keeps S.base
    refine kk ?_
    exact get_value X' I (plainGet_of k1).1 (findObj_own k2 k7 k8 h1) (zi r) (h v _ r)
   ·exact ns e
  ·exact ns e
 ·exact ns e
set_option tactic.hygienic true in
theorem jM{va vv:Value}{o y:V}{x:Nat}{Z':H}{Q:Unit→Shared→Prop}(S:St w.params G h₀ Z s.heap)(X:K.In h₀)(hc:∀ c C,db c=true→G.fn c=some C→qS K c C)(ra:bh G s.heap va o)(rv:bh G s.heap vv y)(e:dg Z o x y=some Z')
  (h:∀ s',Go w.params G h₀ Z s Z' s'→Q () s'):wpAny (model prog w) A (setAttr va (cy x) vv) Q E s:=by
 unfold dg at e
 split at e
 ·rename_i a
  refine af ra.ref_inv ?_
  split at e
  ·rename_i c fs hZ
   split at e
   ·refine cP fun PP kk=>?_
    rename_i hx
    obtain rfl:=aQ e
    refine o3x9 (lZ S hZ) fun C ds n z1 z2 z0 e1 e2 F z3 z4 I=>?_
    obtain⟨k1,k2,k3,k4,k5⟩:=hc c C z2 z1
    obtain⟨k6,attr,k7,k8⟩:=k5 x hx
    refine o0x2 (gu c x hx) fun hxl hal=>?_
    have X':K.In s.heap:=X.keeps S.base
    have I':InstAt ({ s with toks:=s.toks+1 }:Shared).heap a { cls:=.ref C,dict:=some (a - 1),data:=.plain } C (some (dictOf ds n)):=I
    refine kk ?_
    refine set_plain X' I k3 (osa_open (s:={ s with toks:=s.toks+1 }) X' I' k4 k6 fun b=>?_)
    refine o1x2 (any_some k2) fun cd hcd hd'=>?_
    have hlen:ds.length≤30:=by
     (refine af (jh F) ?_;refine bt (List.length_map (f:=(·.1))) ?_)
     exact Nat.le_trans (iR _ z4 (bo c) fun x hx=>by simpa using z3 x hx) hal
    refine wpAny_bind (wpAny_pure (wpAny_bind (wpAny_bind (wpAny_loadPart (s:={ s with toks:=s.toks+1 }) e1 (wpAny_bind ((looks_clsIn X' hcd).here (s:={ s with toks:=s.toks+1 }) ?_))))))
    refine af hd' ?_
    refine wpAny_pure (a:=some (a - 1)) (wpAny_bind (wpAny_pure (wpAny_bind ?_)))
    refine wpAny_bind (wpAny_bind (wpAny_askSetting (wpAny_pure (wpAny_bind (wpAny_mkText (wpAny_bind (wpAny_loadPart (s:={ s with toks:=s.toks+1+1 }) e2 ?_)))))))
    dsimp only
    have hany:=(j5 F hxl).2.2
    (rewrite[aRefKeyMayBeTheName_at];refine bt Array.any_toList ?_;refine bt Array.any_toList ?_;refine af hany ?_;rewrite[Bool.and_false];refine af (aE Bool.false_ne_true) ?_)
    have hput:=putName_dict (cy x) (PyData.keyHash w.params (cy x)) (.str (cy x) (s.toks+1)) vv ds n
    have D':(s.heap.update (a - 1) (Obj.putName (cy x) (PyData.keyHash w.params (cy x)) (.str (cy x) (s.toks+1)) vv)).get? (a - 1) =
      some (dictOf (putL (cy x) (PyData.keyHash w.params (cy x)) (.str (cy x) (s.toks+1)) vv ds) (putN (cy x) ds n)):=by
     (refine ak (Heap.get?_update_self _ e2 (by rw[hput];rfl)) ?_;(refine af hput ?_;with_reducible rfl))
    have F':=tY F hxl rv (s.toks+1)
    have hl2:=jh F'
    have hk2:=kX fs x y
    have hne:a≠a - 1:=Nat.ne_of_gt (Nat.sub_lt z0 Nat.one_pos)
    have hsub:∀ x' ∈ (cZ fs x y).map (·.1),(bo c).contains x'=true:=by
     refine af hk2 ?_
     intro x' hx'
     split at hx'
     ·exact z3 x' hx'
     ·refine Or.elim (List.mem_append.mp hx') (fun h=>?_) (fun h=>?_)
      ·exact z3 x' h
      ·refine af (List.mem_singleton.mp h) ?_;exact hx
    have hnd:((cZ fs x y).map (·.1)).Nodup:=by
     refine af hk2 ?_
     split
     ·exact z4
     ·rename_i hni
      exact List.nodup_append.mpr ⟨z4,by simp,fun p hp q hq=>by refine af (List.mem_singleton.mp hq) ?_;exact fun z=>hni (z▸hp)⟩
    refine wpAny_updatePart (s:={ s with toks:=s.toks+1+1 }) e2 ?_
    refine wpAny_bind (wpAny_lookBehind D' (by
     refine pastItsLine_dict ?_
     (refine af List.size_toArray ?_;refine af hl2 ?_;refine bt (List.length_map (f:=(·.1))) ?_;refine af sizeLine_eq ?_)
     have:=iR _ hnd (bo c) fun x hx=>by simpa using hsub x hx
     lia) (wpAny_pure ?_))
    have C:=S.change (h':=s.heap.update (a - 1) (Obj.putName (cy x) (PyData.keyHash w.params (cy x)) (.str (cy x) (s.toks+1)) vv)) (a:=a) (d:=a - 1) (o':=.inst c (cZ fs x y)) hZ (.inr (Nat.sub_add_cancel z0))
     (fun b=>Iff.rfl) (fun za za q=>⟨c,fs,rfl⟩) (fun b y hb hy=>(Heap.SameBut.update ..).extBut b y hb hy)
     fun st=>⟨C,_,_,z0,z1,z2,(Heap.SameBut.update ..).extBut _ _ hne e1,D',by simpa using F'.stays st,hsub,hnd⟩
    exact h _ ⟨⟨_,_,rfl⟩,C.1,C.2⟩
   ·exact ns e
  ·exact ns e
 ·exact ns e
end
inductive fL (h:Heap) (I:Addr) (i:Nat):Value→V→Prop
 |list {a:Addr}:h.IsListIter I a i→fL h I i (.ref a) (.ref a)
 |tup {a:Addr} {l:List V}:h.IsTupleIter I a i→fL h I i (.ref a) (.tup l)
 |rng {a:Addr} {n:Int}:IsRangeIter h I i (n - i) 1→fL h I i (.ref a) (.rng n)
theorem nf{o:Obj}(x:o.cls≠.type "tuple")(y:o.cls≠.type "range"):¬cw o:=fun z=>z.elim (fun z=>x z.1) fun z=>y z.1
theorem fL.obj{h:Heap}{I:Addr}{i:Nat}{v:Value}{y:V}(x:fL h I i v y):∃ o,h.get? I=some o∧¬cw o∧∃ n vs,o.cls=.type n∧o.data=.fields vs∧
  ["enumerate","zip","dict_itemiterator","dict_reverseitemiterator","odict_iterator","itertools.zip_longest","itertools.pairwise"].contains n=false:=by
 induction x using fL.casesOn with
 |list it=>refine o1x3 it fun o a b c=>?_;clear it;exact⟨o,a,nf (by refine af b ?_;decide) (by refine af b ?_;decide),_,_,b,c,by decide⟩
 |tup it=>refine o1x3 it fun o a b c=>?_;clear it;exact⟨o,a,nf (by refine af b ?_;decide) (by refine af b ?_;decide),_,_,b,c,by decide⟩
 |rng it=>exact⟨_,it,nf (by simp) (by simp),_,_,rfl,rfl,by decide⟩
theorem fL.same{h h':Heap}{I:Addr}{i:Nat}{v:Value}{y:V}(x:fL h I i v y)(k:∀ o,h.get? I=some o→h'.get? I=some o):fL h' I i v y:=by
 induction x using fL.casesOn with
 |list it=>refine o1x3 it fun o a b c=>?_;clear it;exact .list ⟨o,k _ a,b,c⟩
 |tup it=>refine o1x3 it fun o a b c=>?_;clear it;exact .tup ⟨o,k _ a,b,c⟩
 |rng it=>exact .rng (k _ it)
section
variable {prog:Program} {w:World} {A:Around} {E:Value→Shared→Prop} {s:Shared} {G:GT} {h₀:Heap} {Z:H}
theorem jd{target:Expr}{I:Addr}{i:Nat}{v u:Value}{y:V}{Q:Unit→Shared→Prop}(x:fL s.heap I i v y)(h:Q () s):wpAny (model prog w) A (letOwnedTupleGo target (.ref I) u) Q E s:=by
 obtain⟨o,ho,_,n,vs,hc,hd,hn⟩:=x.obj
 have body:wpAny (model prog w) A (match(Value.ref I,u) with
   |(.ref r,.ref a)=>do
    let o ← load r
    match o.cls,o.data with
    |.type n,.fields vs=>
     if["enumerate","zip","dict_itemiterator","dict_reverseitemiterator","odict_iterator","itertools.zip_longest","itertools.pairwise"].contains n && vs[0]? == some (rawInt a) then do
      rule "for.unpacks-the-owned-tuple"
      updateField r 0 .none
     else pure ()
    |_,_=>pure ()
   |_=>pure ()) Q E s:=by
  induction u using Value.casesOn with
  |ref a=>
   refine wpAny_bind (wpAny_load ho ?_)
   (refine af hc ?_;refine af hd ?_)
   dsimp only
   (refine af hn ?_;rewrite[Bool.false_and];refine af (aE Bool.false_ne_true) ?_)
   exact wpAny_pure h
  |_=>exact wpAny_pure h
 induction target using Expr.casesOn<;>first | exact wpAny_pure h | exact body
set_option tactic.hygienic true in
theorem nH{v:Value}{y:V}{xs:List V}{Q:Value→Shared→Prop}(S:St w.params G h₀ Z s.heap)(r:bh G s.heap v y)(e:bq Z y=some xs)
  (h:∀ o,o.isFreed=false→fL (s.heap.push o) s.heap.objs.size 0 v y→Q (.ref s.heap.objs.size) { s with heap:=s.heap.push o }):wpAny (model prog w) A (pyIter v) Q E s:=by
 unfold bq at e
 split at e
 ·refine o3x2 r.tup_inv fun a vs n e3 q9=>?_;obtain rfl:=e3;refine o0x3 q9 fun e1 r1 z=>?_;clear q9
  exact wpAny_pyIter_tuple ⟨_,e1,rfl,n,rfl⟩ (h _ rfl (.tup ⟨_,Heap.get?_push_size _ rfl,rfl,rfl⟩))
 ·rename_i n
  refine o4x2 r.rng_inv fun a t u w' e4 q9=>?_;obtain rfl:=e4;refine o0x2 q9 fun e1 hn=>?_;clear q9
  refine wpAny_pyIter_range e1 (small_one (by lia) (by lia) (by lia) (by lia)) (h _ rfl (.rng ?_))
  rw[rangeSize_one]
  have:(if(0:Int)<n then n - 0 else 0)=n - ((0:Nat):Int):=by split<;>lia
  refine af this ?_
  exact Heap.get?_push_size _ rfl
 ·rename_i a
  obtain rfl:=r.ref_inv
  split at e
  ·rename_i ys hZ
   refine o2x3 (S.obj _ _ hZ) fun vs n e1 r1 z=>?_
   exact wpAny_pyIter_list ⟨_,e1,rfl,n,rfl⟩ (h _ rfl (.list ⟨_,Heap.get?_push_size _ rfl,rfl,rfl⟩))
  ·exact ns e
 ·exact ns e
set_option tactic.hygienic true in
theorem kS{v:Value}{y x:V}{xs:List V}{I:Addr}{i:Nat}{Q:Option Value→Shared→Prop}(S:St w.params G h₀ Z s.heap)(r:bh G s.heap v y)(e:bq Z y=some xs)(it:fL s.heap I i v y)(hx:xs[i]? = some x)
  (h:∀ u h' tk,bh G s.heap u x→fL h' I (i+1) v y→Heap.SameBut I s.heap h'→Q (some u) { s with heap:=h',toks:=tk }):wpAny (model prog w) A (pyNext (.ref I)) Q E s:=by
 unfold bq at e
 split at e
 ·refine o3x2 r.tup_inv fun a vs n e3 q9=>?_;obtain rfl:=e3;refine o0x3 q9 fun e1 r1 z=>?_;clear q9
  obtain rfl:=aQ e
  cases it with
  |tup it=>
   refine o1x2 (r1.get hx) fun u hu ru=>?_
   exact wpAny_pyNext_tuple_item it ⟨_,e1,rfl,n,rfl⟩ (by refine bt (Array.getElem?_toList) ?_;exact hu) fun h' it' hs=>h u h' _ ru (.tup it') hs
 ·rename_i n
  refine o4x2 r.rng_inv fun a t u w' e4 q9=>?_;obtain rfl:=e4;refine o0x2 q9 fun e1 hn=>?_;clear q9
  obtain rfl:=aQ e
  cases it with
  |rng it=>
   rw[List.getElem?_map] at hx
   refine o1x2 (Option.map_eq_some_iff.mp hx) fun j hj e2=>?_;obtain rfl:=e2
   refine aI (List.getElem?_eq_some_iff.mp hj) fun hlt e1=>?_;obtain rfl:=e1
   have ej:(List.range n.toNat)[i]=i:=List.getElem_range _
   rw[ej] at h
   rw[List.length_range] at hlt
   refine wpAny_pyNext_range_item it (by lia) fun h' it' hs=>h _ h' _ (.int _ _) (.rng ?_) hs
   have e1:((i+1:Nat):Int)=(i:Int)+1:=by lia
   have e2:n - ((i+1:Nat):Int)=n - i - 1:=by lia
   (refine af e2 ?_;refine af e1 ?_);exact it'
 ·rename_i a
  obtain rfl:=r.ref_inv
  split at e
  ·rename_i ys hZ
   obtain rfl:=aQ e
   refine o2x3 (S.obj _ _ hZ) fun vs n e1 r1 z=>?_
   cases it with
   |list it=>
    refine o1x2 (r1.get hx) fun u hu ru=>?_
    exact wpAny_pyNext_list_item it ⟨_,e1,rfl,n,rfl⟩ (by refine bt (Array.getElem?_toList) ?_;exact hu) fun h' it' hs=>h u h' _ ru (.list it') hs
  ·exact ns e
 ·exact ns e
set_option tactic.hygienic true in
theorem nJ{v:Value}{y:V}{xs:List V}{I:Addr}{i:Nat}{Q:Option Value→Shared→Prop}(hh:A.handled=none)(S:St w.params G h₀ Z s.heap)(r:bh G s.heap v y)(e:bq Z y=some xs)(it:fL s.heap I i v y)(hx:xs.length≤i)
  (h:∀ h',Heap.ExtBut I s.heap h'→Q none { s with heap:=h' }):wpAny (model prog w) A (pyNext (.ref I)) Q E s:=by
 unfold bq at e
 split at e
 ·refine o3x2 r.tup_inv fun a vs n e3 q9=>?_;obtain rfl:=e3;refine o0x3 q9 fun e1 r1 z=>?_;clear q9
  obtain rfl:=aQ e
  have l1:=r1.length
  cases it with
  |tup it=>exact wpAny_pyNext_tuple_end hh it ⟨_,e1,rfl,n,rfl⟩ (by refine bt (Array.getElem?_toList) ?_;exact List.getElem?_eq_none (by lia)) h
 ·rename_i n
  refine o4x2 r.rng_inv fun a t u w' e4 q9=>?_;obtain rfl:=e4;refine o0x2 q9 fun e1 hn=>?_;clear q9
  obtain rfl:=aQ e
  cases it with
  |rng it=>
   (rewrite[List.length_map] at hx;rw[List.length_range] at hx)
   exact wpAny_pyNext_range_end hh it (by lia) h
 ·rename_i a
  obtain rfl:=r.ref_inv
  split at e
  ·rename_i ys hZ
   obtain rfl:=aQ e
   refine o2x3 (S.obj _ _ hZ) fun vs n e1 r1 z=>?_
   have l1:=r1.length
   cases it with
   |list it=>exact wpAny_pyNext_list_end hh it ⟨_,e1,rfl,n,rfl⟩ (by refine bt (Array.getElem?_toList) ?_;exact List.getElem?_eq_none (by lia)) h
  ·exact ns e
 ·exact ns e
end
structure lr (P:Params) (G:GT) (h₀:Heap) (F:Addr→Prop) (Z:H) (s:Shared) (Z':H) (s':Shared):Prop where
 eq:∃ h' tk,s'={ s with heap:=h',toks:=tk }
 st:St P G h₀ Z' s'.heap
 keep:∀ b o,s.heap.get? b=some o→¬bv Z b→¬F b→s'.heap.get? b=some o
 own:∀ b,bv Z' b→bv Z b∨(s.heap.get? b=none∧¬F b)
section
variable {P:Params} {G:GT} {h₀:Heap} {F:Addr→Prop} {Z Z' Z'':H} {s s' s'':Shared}
theorem lr.refl(S:St P G h₀ Z s.heap):lr P G h₀ F Z s Z s:=⟨⟨_,_,rfl⟩,S,fun za za e za za=>e,fun za o=>.inl o⟩
theorem lr.of(x:Go P G h₀ Z s Z' s')(hF:∀ b,F b→∃ o,s.heap.get? b=some o):lr P G h₀ F Z s Z' s':=
 ⟨x.eq,x.st,fun b o e n za=>x.eff.keep b o e n,fun b q=>(x.eff.own b q).imp id fun e=>⟨e,fun f=>by obtain⟨o,ho⟩:=hF b f;rw[e] at ho;exact ns ho⟩⟩
theorem lr.trans(x:lr P G h₀ F Z s Z' s')(y:lr P G h₀ F Z' s' Z'' s''):lr P G h₀ F Z s Z'' s'':=by
 refine o2x1 x.eq fun h1 t1 e1=>?_
 refine o2x1 y.eq fun h2 t2 e2=>?_
 refine⟨⟨h2,t2,by(refine ak (e2) ?_;(refine af e1 ?_;with_reducible rfl))⟩,y.st,fun b o e n f=>?_,fun b q=>?_⟩
 ·refine y.keep b o (x.keep b o e n f) (fun q=>?_) f
  refine Or.elim (x.own b q) (fun q=>?_) (fun q=>?_)
  ·exact n q
  ·rw[e] at q;exact sn q.1
 ·rcases y.own b q with q | ⟨q,f⟩
  ·exact x.own b q
  ·induction e:s.heap.get? b using Option.casesOn with
   |none=>exact .inr ⟨rfl,f⟩
   |some o=>
    refine .inl ?_
    by_cases n:bv Z b
    ·exact n
    ·rw[x.keep b o e n f] at q;exact sn q
theorem lr.stays(S:St P G h₀ Z s.heap)(x:lr P G h₀ F Z s Z' s')(hF:∀ b o,F b→s.heap.get? b=some o→¬cw o):b8 s.heap s'.heap:=fun b o e c=>x.keep b o e (fun q=>S.plainCls q e c) fun f=>hF b o f e c
end
section
variable {prog:Program} {w:World} {A:Around} {E:Value→Shared→Prop} {s:Shared} {G:GT} {h₀:Heap} {Z:H}
theorem d0{h:Heap}{vals:List Value}{x:V}(r:bx G h vals [x]):∃ v,vals=[v]∧bh G h v x:=by
 cases r with | cons a r=>cases r;exact⟨_,rfl,a⟩
theorem hH{h:Heap}{vals:List Value}{x y:V}(r:bx G h vals [x,y]):∃ v u,vals=[v,u]∧bh G h v x∧bh G h u y:=by
 cases r with | cons a r=>cases r with | cons b r=>cases r;exact⟨_,_,rfl,a,b⟩
theorem nZ:∀ n:Int,0≤n→n<10→(Str.ofString (toString n)).length≤10:=by
 have:((List.range 10).all fun n=>decide ((Str.ofString (toString (n:Int))).length≤10))=true:=by decide +kernel
 intro n h0 h1
 refine aI (Int.eq_ofNat_of_zero_le h0) fun k e1=>?_;obtain rfl:=e1
 simpa using List.all_eq_true.mp this k (List.mem_range.mpr (by omega))
theorem CU{C:aO}{n:Nat}{f:Value}{vals:List Value}{vs:List V}{Q:aP}(S:St w.params G h₀ Z s.heap)(hf:km n=some f)(r:bx G s.heap vals vs)(h:fK C (.bi n) vs Q Z) :
  wpAny (model prog w) A (call f vals) (bU w.params G h₀ Z s Q) E s:=by
 refine kh (P:=fun n f=>xd n vs Q Z→wpAny (model prog w) A (call f vals) (bU w.params G h₀ Z s Q) E s) ?_ ?_ ?_ ?_ ?_ ?_ ?_ hf h<;>clear h hf<;>intro hb
 ·refine o1x2 (jS hb) fun x e1 h=>?_;obtain rfl:=e1
  induction x using V.casesOn with
  |tup l=>
   refine o1x2 (d0 r) fun v e1 rv=>?_;refine af e1 ?_
   refine o3x2 rv.tup_inv fun a us m e3 q9=>?_;refine af e3 ?_;refine o0x3 q9 fun e1 r1 z=>?_;clear q9
   have l1:=r1.length
   unfold bM at z
   have l2:us.size=l.length:=by refine bt l1 ?_;simp
   refine P.len_tuple e1 (by omega) ?_
   refine af l2 ?_
   exact bU.int S h _ _
  |ref a=>
   refine o1x2 (d0 r) fun v e1 rv=>?_;refine af e1 ?_
   refine af rv.ref_inv ?_
   refine o1x2 h fun xs hZ h=>?_
   refine o2x3 (S.obj _ _ hZ) fun us m e1 r1 z=>?_
   have l1:=r1.length
   unfold bM at z
   have l2:us.size=xs.length:=by refine bt l1 ?_;simp
   refine call_len_list ⟨_,e1,rfl,m,rfl⟩ (by omega) ?_
   refine af l2 ?_
   exact bU.int S h _ _
  |_=>exact False.elim h
 ·refine o1x2 (jS hb) fun x e1 q9=>?_;obtain rfl:=e1;refine o1x2 q9 fun n e1 h=>?_;clear q9;obtain rfl:=e1
  refine o1x2 (d0 r) fun v e1 rv=>?_;refine af e1 ?_
  refine aI rv.int_inv fun t e1=>?_;refine af e1 ?_
  exact call_range_1 ⟨_,Z,h.2,.rng (IsRange.new ..) h.1,Go.push S _ _⟩
 ·refine o1x2 (jS hb) fun x e1 h=>?_;obtain rfl:=e1
  induction x using V.casesOn with
  |tup l=>
   refine o1x2 (d0 r) fun v e1 rv=>?_;refine af e1 ?_
   refine o3x2 (id rv.tup_inv) fun a us m e3 q9=>?_;obtain rfl:=e3;refine o0x3 q9 fun e1 r1 z=>?_;clear q9
   exact call_tuple_tup ⟨_,e1,rfl,m,rfl⟩ (bU.here S h rv)
  |ref a=>
   refine o1x2 (d0 r) fun v e1 rv=>?_;refine af e1 ?_
   refine af rv.ref_inv ?_
   refine o1x2 h fun xs hZ h=>?_
   refine o2x3 (S.obj _ _ hZ) fun us m e1 r1 z=>?_
   have l1:=r1.length
   have l2:us.size=xs.length:=by refine bt l1 ?_;rfl
   refine call_tuple_list ⟨_,e1,rfl,m,rfl⟩ (fun h' k=>?_) (cr (by omega))
   have k':∀ b o,s.heap.get? b=some o→(h'.push { cls:=.type "tuple",data:=.seq us }).get? b=some o:=fun b o e=>Heap.get?_push_of_some _ (k b o e)
   exact⟨_,Z,h,.tup (Heap.get?_push_size _ rfl) (r1.stays fun b o e za=>k' b o e) z,Go.ext S (tk:=s.toks) k'⟩
  |_=>exact False.elim h
 ·refine o1x2 (jS hb) fun x e1 q9=>?_;obtain rfl:=e1;refine o1x2 q9 fun l e1 h=>?_;clear q9;obtain rfl:=e1
  refine o1x2 (d0 r) fun v e1 rv=>?_;refine af e1 ?_
  refine o3x2 rv.tup_inv fun a us m e3 q9=>?_;refine af e3 ?_;refine o0x3 q9 fun e1 r1 z=>?_;clear q9
  have l1:=r1.length
  have l2:us.size=l.length:=by refine bt l1 ?_;rfl
  refine call_list_seq (items:=us) (n:=m) (T := "tuple") a (.inr rfl) e1 rfl rfl (fun h' c' k hD=>?_) (cr (by omega))
  have B:=S.add (h':=h') (a:=s.heap.objs.size) (o:=.list l) (fun b t=>by refine af (show b=_ from t) ?_;exact dS _) k (fun za za e=>by cases e) ⟨us,c',hD,r1.stays fun b o e za=>k b o e,z⟩
  exact⟨_,_,h _ B.2.2,.ref _,⟨_,s.toks,rfl⟩,B.1,B.2.1⟩
 ·refine o1x2 (jS hb) fun x e1 q9=>?_;obtain rfl:=e1;refine o1x2 q9 fun n e1 h=>?_;clear q9;obtain rfl:=e1
  refine o1x2 (d0 r) fun v e1 rv=>?_;refine af e1 ?_
  refine aI rv.int_inv fun t e1=>?_;refine af e1 ?_
  refine P.str_of_int ?_ (bU.val S h.2 (.str _ _ _ ?_) _)
  ·refine aI (Int.eq_ofNat_of_zero_le h.1.1) fun k e1=>?_;refine af e1 ?_
   have hk:k<10:=by have:=h.1.2;omega
   show(k:Int).natAbs.log2<1920
   rw[Int.natAbs_natCast]
   exact Nat.lt_of_le_of_lt (Nat.log2_le_self k) (by omega)
  ·exact Nat.le_trans (nZ n h.1.1 h.1.2) (by show 10≤10+100 * 0;omega)
 ·refine o1x2 hb fun b e1 h=>?_;clear hb;obtain rfl:=e1
  refine o2x2 (hH r) fun u t e2 q9=>?_;refine af e2 ?_;refine o0x2 q9 fun ru rt=>?_;clear q9
  refine af ru.bool_inv ?_
  have:=rt.bi_inv
  refine bt (aQ this) ?_
  exact IsiPair.bool_bool (bU.here S h (.bool _))
 ·exact False.elim hb
theorem r4{p:Addr}{xs:List V}{v:Value}{x:V}{Q:aP}(S:St w.params G h₀ Z s.heap)(hZ:Z p=some (.list xs))(rv:bh G s.heap v x)(z:xs.length<bM)(h:Q .none (Z.set p (.list (xs++[x])))) :
  wpAny (model prog w) A (call (.builtin "list.append") [.ref p,v]) (bU w.params G h₀ Z s Q) E s:=by
 refine o2x3 (S.obj _ _ hZ) fun us m e1 r1 za=>?_
 have l1:=r1.length
 have l2:us.size=xs.length:=by refine bt l1 ?_;rfl
 refine call_meets slot_list_append ⟨_,e1,rfl⟩ entry_list_append (args_list_append _ _) (list_append p us m v (cr (by omega))) ⟨e1,?_⟩
 have h2:Heap.get? (s.heap.update p (Obj.mapSeq fun x=>x.push v)) p=some { cls:=.type "list",data:=.seq (us.push v) (if(us.push v).size == us.size then m else m+1) }:=Heap.get?_update_self _ e1 rfl
 have C:=S.change (h':=s.heap.update p (Obj.mapSeq fun x=>x.push v)) (a:=p) (d:=p) (o':=.list (xs++[x])) hZ rfl (fun b=>Iff.rfl) (fun za za q=>by cases q)
  (fun b y hb hy=>(Heap.SameBut.update ..).extBut b y hb hy)
  fun st=>⟨_,_,h2,by refine af Array.toList_push ?_;exact(r1.append (.cons rv .nil)).stays st,by simp;omega⟩
 exact⟨_,_,h,.none,⟨_,_,rfl⟩,C.1,C.2⟩
theorem bx.dropLast{h:Heap}{vs:List Value}{xs:List V}(r:bx G h vs xs):bx G h vs.dropLast xs.dropLast:=by
 (refine af List.dropLast_eq_take ?_;refine af List.dropLast_eq_take ?_;refine af r.length ?_);exact r.take _
theorem yD{p:Addr}{xs:List V}{x:V}{Q:aP}(S:St w.params G h₀ Z s.heap)(hZ:Z p=some (.list xs))(e:xs.getLast? = some x)(h:Q x (Z.set p (.list xs.dropLast))) :
  wpAny (model prog w) A (call (.builtin "list.pop") [.ref p]) (bU w.params G h₀ Z s Q) E s:=by
 refine o2x3 (S.obj _ _ hZ) fun us m e1 r1 z=>?_
 have l1:=r1.length
 have l2:us.size=xs.length:=by refine bt l1 ?_;rfl
 rw[List.getLast?_eq_getElem?] at e
 refine o1x2 (r1.get e) fun v hv rv=>?_
 have hv':us[us.size - 1]? = some v:=by(refine af l2 ?_;refine bt (Array.getElem?_toList) ?_);exact hv
 have hpos:0<us.size:=by
  have:=(Array.getElem?_eq_some_iff.mp hv').1
  omega
 refine call_meets F.slot_list_pop ⟨_,e1,rfl⟩ F.entry_list_pop (F.args_list_pop_1 _) (MeetsSeq.list_pop_last p us m v hv' (cr (by omega))) ⟨e1,?_⟩
 have h2:Heap.get? (s.heap.update p (Obj.mapSeq fun x=>x.eraseIdxIfInBounds (us.size - 1))) p=some { cls:=.type "list",data:=.seq (us.eraseIdxIfInBounds (us.size - 1)) (if(us.eraseIdxIfInBounds (us.size - 1)).size == us.size then m else m+1) }:=Heap.get?_update_self _ e1 rfl
 have C:=S.change (h':=s.heap.update p (Obj.mapSeq fun x=>x.eraseIdxIfInBounds (us.size - 1))) (a:=p) (d:=p) (o':=.list xs.dropLast) hZ rfl (fun b=>Iff.rfl) (fun za za q=>by cases q)
  (fun b y hb hy=>(Heap.SameBut.update ..).extBut b y hb hy)
  fun st=>⟨_,_,h2,by
   have:(us.eraseIdxIfInBounds (us.size - 1)).toList=us.toList.dropLast:=by
    delta Array.eraseIdxIfInBounds
    (refine af (dif_pos (by omega)) ?_;refine ak (Array.toList_eraseIdx) ?_)
    (refine af List.dropLast_eq_take ?_;rewrite[List.eraseIdx_eq_take_drop_succ];refine af (List.drop_of_length_le (by simp;omega)) ?_)
    simp
   refine af this ?_
   exact r1.dropLast.stays st,by refine af List.length_dropLast ?_;omega⟩
 exact⟨_,_,h,rv.stays (S.stays (h':=s.heap.update p _) fun b o eo no=>(Heap.SameBut.update ..).extBut b o (fun q=>no (q▸.inl (by refine af hZ ?_;simp))) eo),⟨_,_,rfl⟩,C.1,C.2⟩
theorem tV{p:Addr}{es:List (V×V)}{kv:Value}{k d:V}{dv:List Value}{Q:aP}(S:St w.params G h₀ Z s.heap)(hz:∃ o,h₀.get? sysModules=some o)(hZ:Z p=some (.dict es))(rk:bh G s.heap kv k)(hk:be es k=true)(hu:A.units+70<cLine)
  (hd:(dv=[]∧d=.none)∨∃ v,dv=[v]∧bh G s.heap v d) (h:Q ((aJ es k).getD d) Z) :
  wpAny (model prog w) A (call (.builtin "dict.get") (.ref p::kv::dv)) (bU w.params G h₀ Z s Q) E s:=by
 refine o3x4 (S.obj _ _ hZ) fun us m kk e1 D O z=>?_
 have hT:s.TypeIs (.ref p) "dict" :=⟨_,e1,rfl⟩
 have ns:=iQ S hz (a:=p) (by refine af hZ ?_;simp)
 have fin:∀ (dflt:Option Value),bh G s.heap (dflt.getD .none) d→wpAny (model prog w) A.in1 (do
   if let some v ← dictGet p kv then return ← ret v
   match ← Builtin.Dict.missed p kv with
   |some v=>ret v
   |none=>ret (dflt.getD .none)) (fun fin s'=>∃ v,fin=.done (.ret v)∧bU w.params G h₀ Z s Q v s') E s:=fun dflt rd=>by
  refine wpAny_bind (mv e1 D O rk hk (by show A.units+1+64<_;omega) (fun x v tk e rv=>?_) fun tk e=>?_)
  ·rw[e] at h
   exact wpAny_pure ⟨_,rfl,bU.val S h rv tk⟩
  ·rw[e] at h
   exact wpAny_bind (wpAny_missed_other ns (wpAny_pure ⟨_,rfl,bU.val S h rd tk⟩))
 rcases hd with⟨rfl,rfl⟩ | ⟨v,rfl,rv⟩
 ·refine wpAny_call_entry F.slot_dict_get hT F.entry_dict_get ?_ (F.args_dict_get_2 _ _)
  exact fin none .none
 ·refine wpAny_call_entry F.slot_dict_get hT F.entry_dict_get ?_ (F.args_dict_get_3 _ _ _)
  exact fin (some v) rv
theorem tP{t:Addr}{us:Array Value}{m:Nat}{is:List Int}{i:Int}{u:Tok}{j:Nat}{Q:Value→Shared→Prop}(e1:s.heap.get? t=some { cls:=.type "tuple",data:=.seq us m })(r:bx G s.heap us.toList (is.map V.int))(z:is.length≤bM)
  (hj:is.findIdx? (fun x=>x == i)=some j) (h:∀ t tk,Q (.int (j:Int) t) { s with toks:=tk }):wpAny (model prog w) A (call (.builtin "tuple.index") [.ref t,.int i u]) Q E s:=by
 obtain⟨hlt,hit,hno⟩:=List.findIdx?_eq_some_iff_getElem.mp hj
 have l1:=r.length
 (rewrite[List.length_map] at l1;rw[Array.length_toList] at l1)
 refine wpAny_call_entry F.slot_tuple_index ⟨_,e1,rfl⟩ F.entry_tuple_index ?_ (F.args_tuple_index_2 _ _)
 show wpAny _ _ (do
  let xs ← Builtin.Tuple.tupleItemsOf (.ref t)
  for i' in [0:min xs.size xs.size] do
   if let some y:=xs[i']? then
    if ← eqBool y (.int i u) then return ← retInt i'
  rule "tuple.index.not-found"
  raiseError "ValueError" "tuple.index(x): x not in tuple") _ _ s
 refine wpAny_bind (tupleItemsOf_ ⟨_,e1,rfl,m,rfl⟩ ?_)
 rw[Nat.min_self]
 refine wpAny_bind ?_
 rw[Std.Legacy.Range.forIn_eq_forIn_range']
 rw[Std.Legacy.Range.size,Nat.sub_zero,Nat.add_sub_cancel,Nat.div_one]
 refine wpAny_forIn_list _ (fun rest r s'=>∃ k,rest=List.range' k (us.size - k)∧k≤j∧r.1=none∧s'=s) _ ?_ ?_ _ _ ⟨0,by simp,Nat.zero_le _,rfl,rfl⟩
 ·intro x rest b za p0;refine o1x4 p0 fun k hr hk hb e4=>?_;clear p0;refine af e4 ?_
  have hlt':k<us.size:=by omega
  obtain⟨rfl,hrest⟩:x=k∧rest=List.range' (k+1) (us.size - (k+1)):=by
   have e:us.size - k=(us.size - (k+1))+1:=by omega
   (rewrite[e] at hr;rw[List.range'_succ] at hr)
   injection hr with h1 h2
   exact⟨h1,h2⟩
  have hx:(is.map V.int)[x]? = some (.int (is[x]'(by lia))):=by(refine ak (List.getElem?_map) ?_;refine af (List.getElem?_eq_getElem (by lia)) ?_);rfl
  refine o1x2 (r.get hx) fun v hv rv=>?_
  refine aI rv.int_inv fun t' e1=>?_;obtain rfl:=e1
  refine af (show us[x]? = some (.int (is[x]'(by lia)) t') from by rw[← Array.getElem?_toList];exact hv) ?_
  refine wpAny_bind (wpAny_eqBool_int ?_)
  rcases Nat.lt_or_ge x j with hxj | hxj
  ·have:=hno x hxj
   have hne:(is[x]'(by lia) == i)=false:=by simpa using this
   (refine af hne ?_;refine af (aE Bool.false_ne_true) ?_)
   exact wpAny_pure ⟨x+1,hrest,hxj,rfl,rfl⟩
  ·have:x=j:=Nat.le_antisymm hk hxj
   subst this
   (refine af hit ?_;refine af (aH rfl) ?_)
   refine wpAny_bind (wpAny_bind (wpAny_mkInt (wpAny_pure (wpAny_pure ?_))))
   exact wpAny_pure ⟨_,rfl,h _ _⟩
 ·intro b za p0;refine o1x4 p0 fun k hr hk hb e4=>?_;clear p0;refine af e4 ?_
  exfalso
  have:us.size - k=0:=by
   have:=congrArg List.length hr
   simpa using this.symm
  omega
end
theorem mo:∀ (l:List Nat) (a:Nat),rO l a≠0→rO l a=l.foldl (fun a c=>a * 128+(c+1)) a∧∀ c ∈ l,c<127
 |[],a,_=>⟨rfl,fun za h=>by cases h⟩
 |c::r,a,h=>by
  unfold rO at h ⊢
  by_cases hc:c<127
  ·rw[aH hc] at h ⊢
   refine o0x2 (mo r _ h) fun h1 h2=>?_
   exact⟨h1,fun d hd=>by rcases List.mem_cons.mp hd with rfl | hd;exact hc;exact h2 d hd⟩
  ·rw[aE hc] at h;exact absurd rfl h
theorem t0:∀ (n:Nat) (l m:List Nat),l.length≤n→(∀ c ∈ l,c<127)→(∀ c ∈ m,c<127)→l.foldl (fun a c=>a * 128+(c+1)) 1=m.foldl (fun a c=>a * 128+(c+1)) 1→l=m:=by
 have pos:∀ (l:List Nat) (a:Nat),1≤a→1≤l.foldl (fun a c=>a * 128+(c+1)) a:=by
  intro l
  induction l with
  |nil=>intro a h;exact h
  |cons c r ih=>intro a h;exact ih (a * 128+(c+1)) (by lia)
 intro n
 induction n with
 |zero=>
  intro l m hl _ hm e
  have:l=[]:=List.eq_nil_of_length_eq_zero (by lia)
  subst this
  rcases List.eq_nil_or_concat m with rfl | ⟨m',c,rfl⟩
  ·rfl
  ·(rewrite[List.concat_eq_append] at e;rw[List.foldl_append] at e)
   have:=pos m' 1 (Nat.le_refl _)
   simp at e
   lia
 |succ n ih=>
  intro l m hl hl' hm e
  rcases List.eq_nil_or_concat l with rfl | ⟨l',c,rfl⟩
  ·rcases List.eq_nil_or_concat m with rfl | ⟨m',d,rfl⟩
   ·rfl
   ·(rewrite[List.concat_eq_append] at e;rw[List.foldl_append] at e)
    have:=pos m' 1 (Nat.le_refl _)
    simp at e
    lia
  ·rw[List.concat_eq_append] at hl hl' e ⊢
   rcases List.eq_nil_or_concat m with rfl | ⟨m',d,rfl⟩
   ·rw[List.foldl_append] at e
    have:=pos l' 1 (Nat.le_refl _)
    simp at e
    lia
   ·rw[List.concat_eq_append] at hm e ⊢
    (rewrite[List.foldl_append] at e;rw[List.foldl_append] at e)
    have hc:=hl' c (by simp)
    have hd:=hm d (by simp)
    simp only[List.foldl_cons,List.foldl_nil] at e
    have e1:c=d:=by lia
    have e2:l'.foldl (fun a c=>a * 128+(c+1)) 1=m'.foldl (fun a c=>a * 128+(c+1)) 1:=by lia
    rw[List.length_append] at hl
    (refine af (ih l' m' (by simp at hl;lia) (fun c h=>hl' c (by simp[h])) (fun c h=>hm c (by simp[h])) e2) ?_;(refine af e1 ?_;with_reducible rfl))
theorem mn{x y:Str}(h:fZ x≠0)(e:fZ x=fZ y):x=y:=by
 refine cP fun PP kk=>?_
 have hx:=mo _ _ h
 have hy:=mo y.cps.toList 1 (by(refine af (show rO y.cps.toList 1=fZ y from rfl) ?_;refine bt e ?_);exact h)
 have:x.cps.toList=y.cps.toList:=t0 _ _ _ (Nat.le_refl _) hx.2 hy.2 (by(refine bt hx.1 ?_;refine bt hy.1 ?_);exact e)
 obtain⟨⟨x⟩⟩:=x
 obtain⟨⟨y⟩⟩:=y
 refine kk ?_
 simp at this
 (refine af this ?_;with_reducible rfl)
theorem eN{x:Str}(hx:fZ x≠0):∀ {names:List (Str×NameKind)} {i j:Nat} {k:NameKind},fD (names.map fun p=>(fZ p.1,p.2)) (fZ x) i=some (j,k)→names.lookup x=some k∧i≤j∧∃ p,names[j - i]? = some p∧p.1=x
 |[],i,j,k,h=>by simp[fD] at h
 |p::r,i,j,k,h=>by
  (rewrite[List.map_cons] at h;rw[fD] at h)
  by_cases q:fZ p.1=fZ x
  ·rw[aH q] at h
   have:x=p.1:=mn hx q.symm
   cases h
   refine⟨?_,Nat.le_refl _,p,by simp,this.symm⟩
   obtain⟨a,b⟩:=p
   (refine ak (List.lookup_cons) ?_;refine af this ?_);simp
  ·refine cP fun PP kk=>?_
   rw[aE q] at h
   obtain⟨h1,h2,p',h3,h4⟩:=eN hx h
   have ne:(x == p.1)=false:=by
    induction z:x == p.1 using Bool.casesOn with
    |false=>rfl
    |true=>exact absurd (by(refine af (beq_iff_eq.mp z) ?_;with_reducible rfl)) q
   refine kk ?_
   refine⟨?_,by lia,p',?_,h4⟩
   ·obtain⟨a,b⟩:=p
    (refine ak (List.lookup_cons) ?_;refine af ne ?_);exact h1
   ·refine af (show j - i=(j - (i+1))+1 by lia) ?_;simpa using h3
set_option tactic.hygienic true in
theorem fB{sc:Scope}{x:Str}{i:Nat}(h:hO (aY sc) x=.loc i):(∃ k,sc.names.lookup x=some k∧k≠.globalImplicit∧k≠.globalExplicit)∧∃ p,sc.names[i]? = some p∧p.1=x:=by
 unfold hO at h
 split at h
 ·cases h
 ·rename_i hx
  split at h
  ·unfold ij at h;split at h<;>cases h
  ·cases h
  ·refine cP fun PP kk=>?_
   rename_i j k n1 n2 e
   cases h
   obtain⟨h1,h2,p,h3,h4⟩:=eN hx e
   refine kk ?_
   exact⟨⟨_,h1,n1,n2⟩,p,by simpa using h3,h4⟩
  ·cases h
set_option tactic.hygienic true in
theorem vK{sc:Scope}{x:Str}{v:V}(h:hO (aY sc) x=.gl v):sc.names.lookup x=some .globalImplicit∧ij x=.gl v:=by
 unfold hO at h
 split at h
 ·cases h
 ·rename_i hx
  split at h
  ·rename_i j e
   exact⟨(eN hx e).1,h⟩
  ·cases h
  ·cases h
  ·cases h
set_option tactic.hygienic true in
theorem eW{sc:Scope}{r:Str→cQ}{x:Str}{z:cQ}(h:cR (aY sc) r x=z):z=.no∨(sc.names.lookup x=some .globalImplicit∧z=ij x)∨(∃ i,sc.names.lookup x=some .local∧z=.loc (100+i)∧∃ p,sc.names[i]? = some p∧p.1=x)∨(sc.names.lookup x=some .free∧z=r x):=by
 unfold cR at h
 split at h
 ·exact .inl h.symm
 ·rename_i hx
  split at h
  ·rename_i j e
   exact .inr (.inl ⟨(eN hx e).1,h.symm⟩)
  ·refine cP fun PP kk=>?_
   rename_i i e
   obtain⟨h1,h2,p,h3,h4⟩:=eN hx e
   refine kk ?_
   exact .inr (.inr (.inl ⟨i,h1,h.symm,p,by simpa using h3,h4⟩))
  ·rename_i j e
   exact .inr (.inr (.inr ⟨(eN hx e).1,h.symm⟩))
  ·exact .inl h.symm
noncomputable def Tr.all(p:Nat→Nat→Bool):Tr→Bool
 |.nil=>true
 |.node c n l r=>p c n && l.all p && r.all p
theorem j6{p:Nat→Nat→Bool}:∀ {t:Tr} {x:Nat},t.all p=true→t.find x≠269→p x (t.find x)=true
 |.nil,x,_,h=>absurd rfl h
 |.node c n l r,x,ha,h=>by
  simp only[Tr.all,Bool.and_eq_true] at ha
  unfold Tr.find at h ⊢
  by_cases h1:x=c
  ·refine af (aH h1) ?_;refine af h1 ?_;exact ha.1.1
  ·rw[aE h1] at h ⊢
   by_cases h2:x<c
   ·rw[aH h2] at h ⊢;exact j6 ha.1.2 h
   ·rw[aE h2] at h ⊢;exact j6 ha.2 h
theorem yI:Fx.all (fun c n=>fZ (cy n) == c && c != 0)=true:=by decide +kernel
theorem iP{x:Str}(h:ix x<NT):cy (ix x)=x:=by
 have:=j6 yI (x:=fZ x) (Nat.ne_of_lt h)
 (rewrite[Bool.and_eq_true] at this;rewrite[beq_iff_eq] at this;rw[bne_iff_ne] at this)
 exact(mn this.2 this.1.symm).symm
structure u8 (h:Heap) (a:Addr) (fd:FD):Prop where
 out:∃ o F,h.get? a=some o∧o.data=.func F∧F.scope=fd.scope∧F.body=.stmts fd.body∧F.closure=[]∧F.globals=mainGlobals∧F.builtins=builtinsNs∧h.CodeRec F.code F.qualname∧
  ∀ vals:List Value,vals.length=fd.params.length→bindArgs F ⟨vals,[]⟩=pure (fd.params.zip vals)
structure gN (prog:Program) (w:World) (K:Frag) (G:GT) (h₀:Heap):Prop where
 X:K.In h₀
 sys:∃ o,h₀.get? sysModules=some o
 gd:xv G h₀
 arg:lA G h₀
 lim:h₀.NoLimit
 glob:∀ x v,ij x=.gl v→∃ val mg,h₀.Ns mainGlobals mg∧bh G h₀ val v∧(mg x=some val∨(mg x=none∧∃ mb,h₀.Ns builtinsNs mb∧mb x=some val))
 cls:∀ c C,db c=true→G.fn c=some C→qS K c C
 make:∀ c C,db c=true→G.fn c=some C→makesIn K C=true∧keepIn K (.ref C)=true∧
  if gJ c=true then ∃ a,G.mt c 89=some a∧findIn K (.ref C) "__init__" = some (some (.ref a)) else findIn K (.ref C) "__init__" = some (some (.builtin "object.__init__"))
 meth:∀ c f a,G.mt c f=some a→typeIn K (.ref a)=some (.type "function")∧keepIn K (.ref a)=true
 meths:∀ c f C,fR.contains (c,f)=true→G.fn c=some C→f≠89→∃ a,G.mt c f=some a∧findIn K (.ref C) (cy f)=some (some (.ref a))∧(bo c).contains f=false∧f<NT
 fnk:∀ f a,db f=false→G.fn f=some a→keepIn K (.ref a)=true
 fnd:∀ f fd a,po none f=some fd→G.fn f=some a→u8 h₀ a fd
 mtd:∀ c f fd a,po (some c) f=some fd→G.mt c f=some a→u8 h₀ a fd
noncomputable def Fr(env:PySem.Env)(b:Addr):Prop:=b=env.locals∨∃ n,env.cells.lookup n=some b
structure Dk (G:GT) (env:PySem.Env) (r:Str→cQ) (m cm:Str→Option Value) (U:Env) (Z:H) (h:Heap):Prop where
 kind:env.scope.kind=.function
 glb:env.globals=mainGlobals∧env.builtins=builtinsNs
 ns:h.Ns env.locals m
 cell:∀ x c,env.cells.lookup x=some c→h.IsCell c (cm x)
 own:∀ b,Fr env b→∃ o,h.get? b=some o∧¬cw o∧¬bv Z b
 loc:∀ x i v,r x=.loc i→U i=some v→∃ val,bh G h val v∧((env.kindOf x=some .local∧m x=some val)∨((env.kindOf x=some .cell∨env.kindOf x=some .free)∧cm x=some val∧∃ c,env.cells.lookup x=some c))
 gl:∀ x v,r x=.gl v→env.kindOf x=some .globalImplicit∧ij x=.gl v
noncomputable def bF(G:GT)(env:PySem.Env)(r:Str→cQ)(U:Env)(Z:H)(h:Heap):Prop:=∃ m cm,Dk G env r m cm U Z h
section
variable {prog:Program} {w:World} {K:Frag} {G:GT} {h₀:Heap} {env:PySem.Env} {r:Str→cQ} {U:Env} {Z Z':H} {s s':Shared}
theorem bF.go(e:bF G env r U Z s.heap)(S:St w.params G h₀ Z s.heap)(g:Go w.params G h₀ Z s Z' s'):bF G env r U Z' s'.heap:=by
 refine cP fun PP kk=>?_
 obtain⟨m,cm,a1,a2,a3,a4,a5,a6,a7⟩:=e
 have k:∀ b,Fr env b→∀ o,s.heap.get? b=some o→s'.heap.get? b=some o:=fun b f o e=>by
  refine o1x3 (a5 b f) fun o' e' za no=>?_
  exact g.eff.keep b o e no
 refine kk ?_
 refine⟨m,cm,a1,a2,a3.at' (k _ (.inl rfl)),fun x c hc=>?_,fun b f=>?_,fun x i v h1 h2=>?_,a7⟩
 ·refine o1x2 (a4 x c hc) fun o e1 e2=>?_
  exact⟨o,k _ (.inr ⟨x,hc⟩) _ e1,e2⟩
 ·refine cP fun PP kk=>?_
  refine o1x3 (a5 b f) fun o e1 e2 e3=>?_
  refine kk ?_
  exact⟨o,k b f _ e1,e2,g.eff.notOwned e1 e3⟩
 ·refine o1x2 (a6 x i v h1 h2) fun val r1 r2=>?_
  exact⟨val,g.rep S r1,r2⟩
end
noncomputable def kH(P:Params)(G:GT)(h₀:Heap)(Z:H)(s:Shared)(Q:Bool→H→Prop):Bool→Shared→Prop:=fun b s'=>∃ Z',Q b Z'∧Go P G h₀ Z s Z' s'
noncomputable def Di(P:Params)(G:GT)(h₀:Heap)(Z:H)(s:Shared)(Q:List V→H→Prop):List Value→Shared→Prop:=fun vs s'=>∃ xs Z',Q xs Z'∧bx G s'.heap vs xs∧Go P G h₀ Z s Z' s'
section
variable {P:Params} {G:GT} {h₀:Heap} {Z Zq:H} {s sa:Shared}
theorem bU.back{Q:aP}(g:Go P G h₀ Z s Zq sa){v:Value}{s':Shared}(h:bU P G h₀ Zq sa Q v s'):bU P G h₀ Z s Q v s':=by
 refine cP fun PP kk=>?_
 refine o2x3 h fun x Z' q r g'=>?_;clear h
 refine kk ?_
 exact⟨x,Z',q,r,g.trans g'⟩
theorem kH.back{Q:Bool→H→Prop}(g:Go P G h₀ Z s Zq sa){v:Bool}{s':Shared}(h:kH P G h₀ Zq sa Q v s'):kH P G h₀ Z s Q v s':=by
 refine o1x2 h fun Z' q g'=>?_;clear h
 exact⟨Z',q,g.trans g'⟩
end
section
variable {prog:Program} {w:World} {A:Around} {K:Frag} {G:GT} {h₀:Heap}
noncomputable def dZ(prog:Program)(w:World)(G:GT)(h₀:Heap)(C:aO)(A:Around)(env:PySem.Env)(r:Str→cQ)(e:Expr)(c:E):Prop:=
 ∀ U Z s Q X,bF G env r U Z s.heap→St w.params G h₀ Z s.heap→df C c U Q Z→wpAny (model prog w) A (eval e env) (bU w.params G h₀ Z s Q) X s
noncomputable def i6(prog:Program)(w:World)(G:GT)(h₀:Heap)(C:aO)(A:Around)(env:PySem.Env)(r:Str→cQ)(e:Expr)(c:E):Prop:=
 ∀ U Z s Q X,bF G env r U Z s.heap→St w.params G h₀ Z s.heap→df C c U (xx Q) Z→wpAny (model prog w) A (isTrue e env (eval e env)) (kH w.params G h₀ Z s Q) X s
theorem dx{C:aO}{c:E}{U:Env}{Q:Bool→H→Prop}{Z:H}:oA C c U (df C c U) Q Z↔df C c U (xx Q) Z:=by
 induction c using E.casesOn<;>exact Iff.rfl
theorem BQ{Z:H}{s:Shared}{Q:Bool→H→Prop}{v:Value}{s':Shared}(h:bU w.params G h₀ Z s (xx Q) v s'):∃ b,v=.bool b∧kH w.params G h₀ Z s Q b s':=by
 refine cP fun PP kk=>?_
 refine o2x3 h fun x Z' q r g=>?_;clear h
 refine kk ?_
 induction x using V.casesOn with
 |bool b=>exact⟨b,r.bool_inv,Z',q,g⟩
 |_=>exact q.elim
theorem vY(D:gN prog w K G h₀){C:aO}{env:PySem.Env}{r:Str→cQ}{x:Str}{p:Pos}(hd:(x == ("__debug__" : Str))=false)(hc:(x == ("__classdict__" : Str))=false) :
  dZ prog w G h₀ C A env r (.Name x p) (match r x with | .loc i=>.x i | .gl v=>.k v | .no=>.bad):=by
 intro U Z s Q X ⟨m,cm,a⟩ S h
 induction hr:r x using cQ.casesOn with
 |loc i=>
  refine cP fun PP kk=>?_
  rw[hr] at h
  refine o1x2 h fun v hv q=>?_;clear h
  refine o1x2 (a.loc x i v hr hv) fun val rv h1=>?_
  refine kk ?_
  refine wpAny_Name ?_ hd
  rcases h1 with⟨k,e⟩ | ⟨k,e,c,hc'⟩
  ·exact wpAny_loadName_local a.kind k a.ns e (bU.here S q rv)
  ·have cl:=a.cell x c hc'
   rw[e] at cl
   rcases k with k | k
   ·exact wpAny_loadName_cell a.kind k hc' cl (bU.here S q rv)
   ·exact wpAny_loadName_free a.kind k hc' cl (bU.here S q rv) hc
 |gl v=>
  refine cP fun PP kk=>?_
  rw[hr] at h
  refine o0x2 (a.gl x v hr) fun k hg=>?_
  refine o2x3 (D.glob x v hg) fun val mg hn rv hm=>?_
  have hn':s.heap.Ns env.globals mg:=by refine af a.glb.1 ?_;exact hn.keeps S.base
  have rv':bh G s.heap val v:=rv.stays fun b o e za=>S.base b o e
  refine kk ?_
  refine Name_function_global a.kind k ?_ hd
  rcases hm with e | ⟨e,mb,hb,e'⟩
  ·exact loadGlobal_global hn' e (bU.here S h rv')
  ·exact loadGlobal_builtin hn' e (by refine af a.glb.2 ?_;exact hb.keeps S.base) e' (bU.here S h rv')
 |no=>rw[hr] at h;exact False.elim h
set_option tactic.hygienic true in
theorem uj{C:aO}{env:PySem.Env}{r:Str→cQ}{c:Const}{k:Nat}{p:Pos}:dZ prog w G h₀ C A env r (.Constant c k p) (pE c):=by
 intro U Z s Q X E S h
 rw[eval_Constant]
 unfold pE at h
 unfold constValue
 split at h
 ·exact wpAny_pure (bU.here S (show Q .none Z from h) .none)
 ·rename_i b;exact wpAny_pure (bU.here S (show Q (.bool b) Z from h) (.bool _))
 ·rename_i i;exact wpAny_mkInt (bU.int S (show Q (.int i) Z from h) _ _)
 ·rename_i x
  split at h
  ·rename_i hx
   refine wpAny_mkText (bU.val S h ?_ _)
   have:=iP hx
   refine bt this ?_
   refine af (ph _ hx) ?_
   exact .sym _ _ hx
  ·exact False.elim h
 ·exact False.elim h
end
section
variable {prog:Program} {w:World} {A:Around} {K:Frag} {G:GT} {h₀:Heap} {C:aO} {env:PySem.Env} {r:Str→cQ}
theorem ba{α:Type}{t:Sem Value}{Z:H}{s:Shared}{Q1:aP}{R:Value→Shared→Prop}{X:Value→Shared→Prop}(h:wpAny (model prog w) A t (bU w.params G h₀ Z s Q1) X s)
  (k:∀ x v Zq sa,Q1 x Zq→bh G sa.heap v x→Go w.params G h₀ Z s Zq sa→R v sa):wpAny (model prog w) A t R X s:=
 wpAny_mono h (fun v sa ⟨x,Zq,q,rv,g⟩=>k x v Zq sa q rv g) fun za za e=>e
theorem eI{t:Sem Bool}{Z:H}{s:Shared}{Q1:Bool→H→Prop}{R:Bool→Shared→Prop}{X:Value→Shared→Prop}(h:wpAny (model prog w) A t (kH w.params G h₀ Z s Q1) X s)
  (k:∀ b Zq sa,Q1 b Zq→Go w.params G h₀ Z s Zq sa→R b sa):wpAny (model prog w) A t R X s:=
 wpAny_mono h (fun v sa ⟨Zq,q,g⟩=>k v Zq sa q g) fun za za e=>e
theorem gM{t:Sem Value}{Z Zq:H}{s sa:Shared}{Q:aP}{X:Value→Shared→Prop}(g:Go w.params G h₀ Z s Zq sa)(h:wpAny (model prog w) A t (bU w.params G h₀ Zq sa Q) X sa) :
  wpAny (model prog w) A t (bU w.params G h₀ Z s Q) X sa:=wpAny_mono h (fun v s' o=>o.back g) fun za za e=>e
theorem iq{t:Sem Bool}{Z Zq:H}{s sa:Shared}{Q:Bool→H→Prop}{X:Value→Shared→Prop}(g:Go w.params G h₀ Z s Zq sa)(h:wpAny (model prog w) A t (kH w.params G h₀ Zq sa Q) X sa) :
  wpAny (model prog w) A t (kH w.params G h₀ Z s Q) X sa:=wpAny_mono h (fun v s' o=>o.back g) fun za za e=>e
theorem w8{a b:Expr}{ca cb:E}{op:Operator}{p:Pos}(ha:dZ prog w G h₀ C A env r a ca)(hb:dZ prog w G h₀ C A env r b cb):dZ prog w G h₀ C A env r (.BinOp a op b p) (.bin op ca cb):=by
 intro U Z s Q X e S h
 refine wpAny_BinOp (ba (α:=Unit) (ha U Z s _ X e S h) fun x va Zq sa h1 ra g1=>ba (α:=Unit) (hb U Zq sa _ X (e.go S g1) g1.st h1) fun y vb Zr sb h2 rb g2=>?_)
 exact gM (g1.trans g2) (AO g2.st (g2.rep g1.st ra) rb h2)
theorem vC{e:Expr}{c:E}(hs:dZ prog w G h₀ C A env r e c)(hw:∀ whole,isTrue e env whole=(do let v ← whole;standAt e.pos;holding [v] (truthy v))):i6 prog w G h₀ C A env r e c:=by
 intro U Z s Q X en S h
 rw[hw]
 refine wpAny_bind (ba (α:=Unit) (hs U Z s _ X en S h) fun x v Zq sa h1 rv g1=>?_)
 refine wpAny_bind (wpAny_standAt (wpAny_holding ?_))
 induction x using V.casesOn with
 |bool b=>
  refine af rv.bool_inv ?_
  exact wpAny_truthy_bool ⟨Zq,h1,g1⟩
 |_=>exact h1.elim
theorem vW{a:Expr}{ca:E}{p:Pos}(ha:dZ prog w G h₀ C A env r a ca):dZ prog w G h₀ C A env r (.UnaryOp .Not a p) (.not ca):=by
 intro U Z s Q X e S h
 replace h:=dx.mp h
 refine UnaryOp_ (ba (α:=Unit) (ha U Z s _ X e S h) fun x v Zq sa h1 rv g1=>?_)
 induction x using V.casesOn with
 |bool b=>
  refine af rv.bool_inv ?_
  exact not_of (wpAny_truthy_bool ⟨_,Zq,h1,.bool _,g1⟩)
 |_=>exact h1.elim
theorem tz{a:Expr}{ca:E}{p:Pos}(ha:i6 prog w G h₀ C A env r a ca):i6 prog w G h₀ C A env r (.UnaryOp .Not a p) (.not ca):=by
 intro U Z s Q X e S h
 replace h:=dx.mp h
 rw[arm_isTrue_UnaryOp]
 exact wpAny_bind (eI (ha U Z s _ X e S h) fun b Zq sa h1 g1=>wpAny_pure ⟨Zq,h1,g1⟩)
theorem vX{a:Expr}{ca:E}{p:Pos}(ha:dZ prog w G h₀ C A env r a ca):dZ prog w G h₀ C A env r (.UnaryOp .USub a p) (.neg ca):=by
 intro U Z s Q X e S h
 refine UnaryOp_ (ba (α:=Unit) (ha U Z s _ X e S h) fun x v Zq sa h1 rv g1=>?_)
 unfold BS at h1
 split at h1
 ·refine aI rv.int_inv fun t e1=>?_;refine af e1 ?_
  exact PyProof.Rows.neg_int (bU.back g1 (bU.int g1.st h1 _ _))
 ·exact h1.elim
theorem wy{t a b:Expr}{ct ca cb:E}{p:Pos}(ht:i6 prog w G h₀ C A env r t ct)(ha:dZ prog w G h₀ C A env r a ca)(hb:dZ prog w G h₀ C A env r b cb):dZ prog w G h₀ C A env r (.IfExp t a b p) (.ite ct ca cb):=by
 intro U Z s Q X e S h
 replace h:=dx.mp h
 rw[eval_IfExp]
 refine wpAny_bind (eI (ht U Z s _ X e S h) fun c Zq sa h1 g1=>?_)
 induction c using Bool.casesOn with
 |true=>exact gM g1 (ha U Zq sa _ X (e.go S g1) g1.st (h1.1 rfl))
 |false=>exact gM g1 (hb U Zq sa _ X (e.go S g1) g1.st (h1.2 rfl))
theorem tN{t a b:Expr}{ct ca cb:E}{p:Pos}(ht:i6 prog w G h₀ C A env r t ct)(ha:i6 prog w G h₀ C A env r a ca)(hb:i6 prog w G h₀ C A env r b cb):i6 prog w G h₀ C A env r (.IfExp t a b p) (.ite ct ca cb):=by
 intro U Z s Q X e S h
 replace h:=dx.mp h
 show wpAny _ _ (do if ← isTrue t env (eval t env) then isTrue a env (eval a env) else isTrue b env (eval b env)) _ _ _
 refine wpAny_bind (eI (ht U Z s _ X e S h) fun c Zq sa h1 g1=>?_)
 induction c using Bool.casesOn with
 |true=>exact iq g1 (ha U Zq sa _ X (e.go S g1) g1.st (h1.1 rfl))
 |false=>exact iq g1 (hb U Zq sa _ X (e.go S g1) g1.st (h1.2 rfl))
noncomputable def dG:Expr→Bool
 |.Set ..=>false
 |_=>true
theorem ic{op:CmpOp}{e:Expr}(h:dG e=true):behindInMarks op e=false:=by
 unfold dG at h
 unfold behindInMarks
 split at h
 ·exact ff h
 ·split<;>simp_all
theorem w1(D:gN prog w K G h₀)(hu:A.units+70<cLine){a b:Expr}{ca cb:E}{op:CmpOp}{p:Pos}(hm:dG b=true)(ha:dZ prog w G h₀ C A env r a ca)(hb:dZ prog w G h₀ C A env r b cb) :
  dZ prog w G h₀ C A env r (.Compare a [op] [b] p) (.cmp ca op cb):=by
 intro U Z s Q X e S h
 refine wpAny_Compare1 (ba (α:=Unit) (ha U Z s _ X e S h) fun x va Zq sa h1 ra g1=>ba (α:=Unit) (hb U Zq sa _ X (e.go S g1) g1.st h1) fun y vb Zr sb h2 rb g2=>?_) (ic hm)
 refine o1x2 h2 fun c hc q=>?_;clear h2
 exact i0 g2.st D.sys D.gd (g2.rep g1.st ra) rb hu hc fun tk=>bU.back (g1.trans g2) (bU.val g2.st q (.bool c) tk)
theorem ul(D:gN prog w K G h₀)(hu:A.units+70<cLine){a b:Expr}{ca cb:E}{op:CmpOp}{p:Pos}(hm:dG b=true)(ha:dZ prog w G h₀ C A env r a ca)(hb:dZ prog w G h₀ C A env r b cb) :
  i6 prog w G h₀ C A env r (.Compare a [op] [b] p) (.cmp ca op cb):=by
 intro U Z s Q X e S h
 refine wpAny_isTrue_Compare1 (ba (α:=Unit) (ha U Z s _ X e S h) fun x va Zq sa h1 ra g1=>ba (α:=Unit) (hb U Zq sa _ X (e.go S g1) g1.st h1) fun y vb Zr sb h2 rb g2=>?_) (ic hm)
 refine o1x2 h2 fun c hc q=>?_;clear h2
 exact i0 g2.st D.sys D.gd (g2.rep g1.st ra) rb hu hc fun tk=>wpAny_truthy_bool ⟨Zr,q,(g1.trans g2).trans (Go.tok g2.st tk)⟩
theorem dT{vs keep:List Value}{s:Shared}{Q:Unit→Shared→Prop}{X:Value→Shared→Prop}(h:Q () s):wpAny (model prog w) A (release vs keep) Q X s:=fun Γ p za=>by
 rw[Sem.wp_release];exact h
theorem uo(D:gN prog w K G h₀)(hu:A.units+70<cLine){a b c:Expr}{ca cb cc:E}{op op2:CmpOp}{p:Pos}(hm:dG c=true)(ha:dZ prog w G h₀ C A env r a ca)(hb:dZ prog w G h₀ C A env r b cb)(hc:dZ prog w G h₀ C A env r c cc) :
  dZ prog w G h₀ C A env r (.Compare a [op,op2] [b,c] p) (.cmp2 ca op cb op2 cc):=by
 intro U Z s Q X e S h
 show wpAny _ _ (do compareChain p (← eval a env) [op,op2] [eval b env,markedBehindIn op2 c (eval c env)]) _ _ _
 refine af (markedBehindIn_of_false (ic hm)) ?_
 refine wpAny_bind (ba (α:=Unit) (ha U Z s _ X e S h) fun x va Zq sa h1 ra g1=>?_)
 refine wpAny_bind (wpAny_holding (ba (α:=Unit) (hb U Zq sa _ X (e.go S g1) g1.st h1) fun y vb Zr sb h2 rb g2=>wpAny_bind (wpAny_standAt (wpAny_bind (wpAny_holding ?_)))))
 refine o1x3 h2 fun z hz h3 h4=>?_;clear h2
 refine i0 g2.st D.sys D.gd (g2.rep g1.st ra) rb hu hz fun tk=>wpAny_bind (dT (wpAny_bind (wpAny_holding (wpAny_truthy_bool ?_))))
 have g3:=(g1.trans g2).trans (Go.tok g2.st tk)
 induction z using Bool.casesOn with
 |false=>exact wpAny_pure (bU.back g3 (bU.here (s:={ sb with toks:=tk }) g3.st (h4 rfl) (.bool false)))
 |true=>
  refine af (aH rfl) ?_
  refine wpAny_bind (wpAny_holding (ba (α:=Unit) (hc U Zr { sb with toks:=tk } _ X (e.go S g3) g3.st (h3 rfl)) fun u vc Za se h5 rc g4=>wpAny_bind (wpAny_standAt ?_)))
  refine o1x2 h5 fun z2 hz2 q=>?_;clear h5
  refine wpAny_bind (wpAny_holding (i0 g4.st D.sys D.gd (g4.rep (s:={ sb with toks:=tk }) g3.st rb) rc hu hz2 fun tk2=>wpAny_bind (dT (wpAny_pure ?_))))
  exact bU.back (g3.trans g4) (bU.val g4.st q (.bool z2) tk2)
theorem rU(D:gN prog w K G h₀)(hu:A.units+70<cLine){a b c:Expr}{ca cb cc:E}{op op2:CmpOp}{p:Pos}(hm:dG c=true)(ha:dZ prog w G h₀ C A env r a ca)(hb:dZ prog w G h₀ C A env r b cb)(hc:dZ prog w G h₀ C A env r c cc) :
  i6 prog w G h₀ C A env r (.Compare a [op,op2] [b,c] p) (.cmp2 ca op cb op2 cc):=by
 intro U Z s Q X e S h
 show wpAny _ _ (do testChain p (← eval a env) [op,op2] [eval b env,markedBehindIn op2 c (eval c env)]) _ _ _
 refine af (markedBehindIn_of_false (ic hm)) ?_
 refine wpAny_bind (ba (α:=Unit) (ha U Z s _ X e S h) fun x va Zq sa h1 ra g1=>?_)
 refine wpAny_bind (wpAny_holding (ba (α:=Unit) (hb U Zq sa _ X (e.go S g1) g1.st h1) fun y vb Zr sb h2 rb g2=>wpAny_bind (wpAny_standAt (wpAny_bind (wpAny_holding ?_)))))
 refine o1x3 h2 fun z hz h3 h4=>?_;clear h2
 refine i0 g2.st D.sys D.gd (g2.rep g1.st ra) rb hu hz fun tk=>wpAny_bind (dT (wpAny_bind (wpAny_holding (wpAny_truthy_bool ?_))))
 have g3:=(g1.trans g2).trans (Go.tok g2.st tk)
 induction z using Bool.casesOn with
 |false=>exact wpAny_pure ⟨Zr,h4 rfl,g3⟩
 |true=>
  refine af (aH rfl) ?_
  refine wpAny_bind (wpAny_holding (ba (α:=Unit) (hc U Zr { sb with toks:=tk } _ X (e.go S g3) g3.st (h3 rfl)) fun u vc Za se h5 rc g4=>wpAny_bind (wpAny_standAt ?_)))
  refine o1x2 h5 fun z2 hz2 q=>?_;clear h5
  refine wpAny_bind (wpAny_bind (wpAny_holding (i0 g4.st D.sys D.gd (g4.rep (s:={ sb with toks:=tk }) g3.st rb) rc hu hz2 fun tk2=>wpAny_bind (dT (wpAny_pure (wpAny_holding (wpAny_truthy_bool ?_)))))))
  exact⟨Za,q,(g3.trans g4).trans (Go.tok g4.st tk2)⟩
noncomputable def eh(prog:Program)(w:World)(G:GT)(h₀:Heap)(C:aO)(A:Around)(env:PySem.Env)(r:Str→cQ):List Expr→List E→Prop
 |[],[]=>True
 |e::es,c::cs=>(dZ prog w G h₀ C A env r e c∧i6 prog w G h₀ C A env r e c)∧(∀ x p,e≠.Starred x p)∧eh prog w G h₀ C A env r es cs
 |_,_=>False
theorem iE{e:Expr}{es:List Expr}{env:PySem.Env}(h:∀ x p,e≠.Starred x p):starEach (e::es) env=(false,eval e env)::starEach es env:=by
 induction e using Expr.casesOn<;>first | rfl | exact absurd rfl (h _ _)
theorem fN{pos:Pos}:∀ {es:List Expr} {cs:List E} {U:Env} {Z:H} {s:Shared} {Q:List V→H→Prop} {X:Value→Shared→Prop},eh prog w G h₀ C A env r es cs→bF G env r U Z s.heap→St w.params G h₀ Z s.heap→ky C cs U Q Z→
  wpAny (model prog w) A (spliced (backTo pos (starEach es env))) (fun vs s'=>vs.length=es.length∧Di w.params G h₀ Z s Q vs s') X s
 |[],[],U,Z,s,Q,X,_,e,S,h=>by
  exact spliced_nil ⟨rfl,[],Z,h,.nil,Go.refl S⟩
 |e::es,c::cs,U,Z,s,Q,X,⟨he,hs,hr⟩,en,S,h=>by
  refine af (iE hs) ?_
  refine spliced_cons (ba (α:=Unit) (he.1 U Z s _ X en S h) fun x v Zq sa h1 rv g1=>?_)
  refine wpAny_mono (fN hr (en.go S g1) g1.st h1) (fun vs sb p0=>?_) fun za za e=>e
  obtain⟨hl,xs,Zr,q,rl,g2⟩:=p0
  exact⟨by(refine ak (List.length_cons) ?_;refine af List.length_cons ?_;(refine af hl ?_;with_reducible rfl)),x::xs,Zr,q,.cons (g2.rep g1.st rv) rl,g1.trans g2⟩
 |[],_::_,_,_,_,_,_,h,_,_,_=>h.elim
 |_::_,[],_,_,_,_,_,h,_,_,_=>h.elim
theorem vz{es:List Expr}{cs:List E}{k:Nat}{p:Pos}(hz:es.length≤1000)(hs:eh prog w G h₀ C A env r es cs):dZ prog w G h₀ C A env r (.Tuple es k p) (.tup cs):=by
 intro U Z s Q X e S h
 rw[arm_eval_Tuple]
 refine wpAny_bind (wpAny_standAt (wpAny_bind (wpAny_mono (fN hs e S h) (fun vs sa p0=>?_) fun za za e=>e)))
 obtain⟨hl,xs,Zq,q,rl,g⟩:=p0
 have l1:=rl.length
 have z:xs.length≤bM:=by unfold bM;lia
 exact wpAny_newObj_type (bU.back g (bU.tup (vs:=vs.toArray) g.st q (by simpa using rl) z _)) (by show vs.toArray.size≤sizeLine;exact cr (by simpa [l1] using z))
theorem wm{es:List Expr}{cs:List E}{p:Pos}(hz:es.length≤1000)(hs:eh prog w G h₀ C A env r es cs):dZ prog w G h₀ C A env r (.List es p) (.lst cs):=by
 intro U Z s Q X e S h
 rw[arm_eval_List]
 refine wpAny_bind (wpAny_standAt (wpAny_bind (wpAny_mono (fN hs e S h) (fun vs sa p0=>?_) fun za za e=>e)))
 obtain⟨hl,xs,Zq,q,rl,g⟩:=p0
 have l1:=rl.length
 have z:xs.length≤bM:=by unfold bM;lia
 exact wpAny_newObj_type (bU.back g (bU.list (vs:=vs.toArray) g.st q (by simpa using rl) z _)) (by show vs.toArray.size≤sizeLine;exact cr (by simpa [l1] using z))
theorem rV{pos:Pos}{op:BoolOp}{es:List Expr}:∀ {cs:List E} {U:Env} {Z:H} {s:Shared} {Q:Bool→H→Prop} {X:Value→Shared→Prop},eh prog w G h₀ C A env r es cs→bF G env r U Z s.heap→St w.params G h₀ Z s.heap→yg C op cs U Q Z→
  wpAny (model prog w) A (boolOp pos op (evalEach es env)) (bU w.params G h₀ Z s (fun v Z'=>∃ b,v=.bool b∧Q b Z')) X s:=by
 induction es with
 |nil=>intro cs U Z s Q X hs _ _ h;induction cs using List.casesOn with
  |nil=>exact False.elim h
  |cons _ _=>exact hs.elim
 |cons e es ih=>
  intro cs U Z s Q X hs en S h
  induction cs using List.casesOn with
  |nil=>exact hs.elim
  |cons c cs=>
   induction es using List.casesOn with
   |nil=>induction cs using List.casesOn with
    |cons _ _=>exact hs.2.2.elim
    |nil=>
     replace h:=dx.mp h
     refine ba (α:=Unit) (hs.1.1 U Z s _ X en S h) fun x v Zq sa h1 rv g1=>?_
     induction x using V.casesOn with
     |bool b=>exact⟨_,Zq,⟨b,rfl,h1⟩,rv,g1⟩
     |_=>exact h1.elim
   |cons e' es=>induction cs using List.casesOn with
    |nil=>exact hs.2.2.elim
    |cons c' cs=>
     replace h:=dx.mp h
     show wpAny _ _ (do
      let v ← eval e env
      standAt pos
      let t ← holding [v] (truthy v)
      match op,t with
      |.And,false | .Or,true=>pure v
      |_,_=>boolOp pos op (evalEach (e'::es) env)) _ _ _
     refine wpAny_bind (ba (α:=Unit) (hs.1.1 U Z s _ X en S h) fun x v Zq sa h1 rv g1=>?_)
     induction x using V.casesOn with
     |bool b=>
      refine af rv.bool_inv ?_
      refine wpAny_bind (wpAny_standAt (wpAny_bind (wpAny_holding (wpAny_truthy_bool ?_))))
      have more:=fun h2=>gM g1 (ih (Q:=Q) (X:=X) hs.2.2 (en.go S g1) g1.st h2)
      induction op using BoolOp.casesOn<;>induction b using Bool.casesOn
      ·exact wpAny_pure ⟨_,Zq,⟨_,rfl,h1.2 rfl⟩,.bool _,g1⟩
      ·exact more (h1.1 rfl)
      ·exact more (h1.2 rfl)
      ·exact wpAny_pure ⟨_,Zq,⟨_,rfl,h1.1 rfl⟩,.bool _,g1⟩
     |_=>exact h1.elim
theorem AN{op:BoolOp}{es:List Expr}{cs:List E}{p:Pos}(hs:eh prog w G h₀ C A env r es cs):dZ prog w G h₀ C A env r (.BoolOp op es p) (.bl op cs):=by
 intro U Z s Q X e S h
 rw[arm_eval_BoolOp]
 refine wpAny_mono (rV hs e S h) (fun v sa p0=>?_) fun za za e=>e
 refine o2x3 p0 fun x Zq q2 rv g=>?_;clear p0;obtain⟨b,hb,q⟩:=q2
 subst hb
 exact⟨_,Zq,q,rv,g⟩
theorem pJ{op:BoolOp}{es:List Expr}:∀ {cs:List E} {U:Env} {Z:H} {s:Shared} {Q:Bool→H→Prop} {X:Value→Shared→Prop},eh prog w G h₀ C A env r es cs→bF G env r U Z s.heap→St w.params G h₀ Z s.heap→yg C op cs U Q Z→
  wpAny (model prog w) A (allTrue op es env) (kH w.params G h₀ Z s Q) X s:=by
 induction es with
 |nil=>intro cs U Z s Q X hs _ _ h;induction cs using List.casesOn with
  |nil=>exact False.elim h
  |cons _ _=>exact hs.elim
 |cons e es ih=>
  intro cs U Z s Q X hs en S h
  induction cs using List.casesOn with
  |nil=>exact hs.elim
  |cons c cs=>
   induction es using List.casesOn with
   |nil=>induction cs using List.casesOn with
    |cons _ _=>exact hs.2.2.elim
    |nil=>
     replace h:=dx.mp h
     rw[arm_allTrue_cons]
     refine wpAny_bind (eI (hs.1.2 U Z s _ X en S h) fun b Zq sa h1 g1=>?_)
     induction op using BoolOp.casesOn<;>induction b using Bool.casesOn<;>exact wpAny_pure ⟨Zq,h1,g1⟩
   |cons e' es=>induction cs using List.casesOn with
    |nil=>exact hs.2.2.elim
    |cons c' cs=>
     replace h:=dx.mp h
     rw[arm_allTrue_cons]
     refine wpAny_bind (eI (hs.1.2 U Z s _ X en S h) fun b Zq sa h1 g1=>?_)
     have more:=fun h2=>iq g1 (ih (Q:=Q) (X:=X) hs.2.2 (en.go S g1) g1.st h2)
     induction op using BoolOp.casesOn<;>induction b using Bool.casesOn
     ·exact wpAny_pure ⟨Zq,h1.2 rfl,g1⟩
     ·exact more (h1.1 rfl)
     ·exact more (h1.2 rfl)
     ·exact wpAny_pure ⟨Zq,h1.1 rfl,g1⟩
theorem w6{op:BoolOp}{es:List Expr}{cs:List E}{p:Pos}(hs:eh prog w G h₀ C A env r es cs):i6 prog w G h₀ C A env r (.BoolOp op es p) (.bl op cs):=by
 intro U Z s Q X e S h
 rw[arm_isTrue_BoolOp]
 exact pJ hs e S h
noncomputable def e8:Expr→Bool
 |.Call (.Name ..) [] [] _=>false
 |_=>true
theorem qI{o:Expr}{a:Str}{whole:Sem Value}(h:e8 o=true):attributeBase o a env whole=whole:=by
 revert h
 induction o using Expr.casesOn with
 |Call f as ks p=>induction f using Expr.casesOn with
  |Name x p=>induction as using List.casesOn with
   |nil=>induction ks using List.casesOn with
    |nil=>exact ff
    |cons k ks=>exact fun _z=>rfl
   |cons k ks=>exact fun _z=>rfl
  |_=>exact fun _z=>rfl
 |_=>exact fun _z=>rfl
set_option tactic.hygienic true in
theorem xf(D:gN prog w K G h₀){o:Expr}{co:E}{x:Str}{p:Pos}(hn:e8 o=true)(ho:dZ prog w G h₀ C A env r o co):dZ prog w G h₀ C A env r (.Attribute o x p) (.att co (ix x)):=by
 intro U Z s Q X e S h
 (rewrite[arm_eval_Attribute];refine af (qI hn) ?_)
 refine wpAny_bind (ba (α:=Unit) (ho U Z s _ X e S h) fun y v Zq sa h1 rv g1=>wpAny_bind (wpAny_standAt (wpAny_bind (wpAny_holding ?_))))
 refine o1x2 h1 fun z hz q=>?_;clear h1
 have hx:cy (ix x)=x:=by
  refine iP ?_
  unfold cV at hz
  split at hz
  ·split at hz
   ·split at hz
    ·rename_i hc;exact(gu _ _ hc).1
    ·exact ns hz
   ·exact ns hz
  ·exact ns hz
 refine bt hx ?_
 refine qJ g1.st D.X D.cls rv hz fun u tk ru=>wpAny_bind (wpAny_letTemporaryGo (wpAny_pure ?_))
 exact bU.back g1 (bU.val g1.st q ru tk)
theorem fo{Z:H}{s:Shared}{v k:Value}{y z x:V}{Q:Bool→Shared→Prop}{X:Value→Shared→Prop}(S:St w.params G h₀ Z s.heap)(rv:bh G s.heap v y)(hz:(∃ l,y=.tup l)∨∃ a,y=.ref a∧((∃ xs,Z a=some (.list xs))∨∃ es,Z a=some (.dict es)))(h:Q false s) :
  wpAny (model prog w) A (getitemInPython v) Q X s:=by
 have key:∀ {T id:String} {a:Addr} {o:Obj},v=.ref a→s.heap.get? a=some o→o.cls=.type T→typeLookup (.type T) "__getitem__" = pure (some (.builtin id))→wpAny (model prog w) A (getitemInPython v) Q X s:=fun{T id a o} hv ho hc hl=>by
  refine af hv ?_
  refine af (getitemInPython_of_ne (by intro q;cases q)) ?_
  refine wpAny_bind (wpAny_specialOf (T:=T) ⟨o,ho,hc⟩ hl ?_)
  exact wpAny_pure h
 rcases hz with⟨l,rfl⟩ | ⟨a,rfl,hz⟩
 ·refine o3x2 rv.tup_inv fun a vs n e3 q9=>?_;obtain rfl:=e3;refine o0x2 q9 fun e1 za=>?_;clear q9
  exact key rfl e1 rfl slot_tuple_getitem.lookup
 ·obtain rfl:=rv.ref_inv
  rcases hz with⟨xs,hZ⟩ | ⟨es,hZ⟩
  ·refine o2x2 (S.obj _ _ hZ) fun vs n e1 za=>?_
   exact key rfl e1 rfl slot_list_getitem.lookup
  ·refine o3x2 (S.obj _ _ hZ) fun ds n kk e1 za=>?_
   exact key rfl e1 rfl slot_dict_getitem.lookup
theorem pi{Z:H}{a k x:V}(e:bE Z a k=some x):(∃ l,a=.tup l)∨∃ p,a=.ref p∧((∃ xs,Z p=some (.list xs))∨∃ es,Z p=some (.dict es)):=
 kT (fun l _z q _z _z _z=>.inl ⟨l,q⟩) (fun p q e=>.inr ⟨p,q,kU e (fun xs _z q _z _z _z=>.inl ⟨xs,q⟩) fun es q _z _z=>.inr ⟨es,q⟩⟩) e
noncomputable def di:Expr→Bool
 |.Slice ..=>false
 |_=>true
theorem yq{i:Expr}{v kv:Value}(hs:di i=true):subscripted i false v kv=operate [v,kv] (getItem v kv):=by
 induction i using Expr.casesOn<;>first | rfl | exact ff hs
theorem wD(hu:A.units+70<cLine){o i:Expr}{co ci:E}{p:Pos}(hs:di i=true)(ho:dZ prog w G h₀ C A env r o co)(hi:dZ prog w G h₀ C A env r i ci):dZ prog w G h₀ C A env r (.Subscript o i p) (.idx co ci):=by
 intro U Z s Q X e S h
 rw[eval_Subscript]
 refine wpAny_bind (ba (α:=Unit) (ho U Z s _ X e S h) fun y v Zq sa h1 rv g1=>wpAny_bind (wpAny_holding (ba (α:=Unit) (hi U Zq sa _ X (e.go S g1) g1.st h1) fun k kv Zr sb h2 rk g2=>wpAny_bind (wpAny_standAt (wpAny_bind ?_)))))
 refine o1x2 h2 fun z hz q=>?_;clear h2
 have rv':=g2.rep g1.st rv
 refine fo (z:=k) (x:=z) (k:=kv) g2.st rv' (pi hz) ?_
 refine af (yq hs) ?_
 refine wpAny_bind (wpAny_operating (wv g2.st rv' rk hu hz fun u tk ru=>wpAny_bind (wpAny_letTemporaryGo (wpAny_pure ?_))))
 exact bU.back (g1.trans g2) (bU.val g2.st q ru tk)
end
section
variable {prog:Program} {w:World} {A:Around} {K:Frag} {G:GT} {h₀:Heap} {C:aO} {env:PySem.Env} {r:Str→cQ}
theorem gc{s:Shared}{l u t:Value}{Q:Value→Shared→Prop}{X:Value→Shared→Prop}(h:Q (.ref s.heap.objs.size) { s with heap:=s.heap.push { cls:=.type "slice",data:=.fields #[l,u,t] } }):wpAny (model prog w) A (newFields "slice" [l,u,t]) Q X s:=by
 exact wpAny_newObj_type h (by show 3≤sizeLine+2;refine af sizeLine_eq ?_;lia)
theorem rQ{a l:V}{Q:aP}{Z:H}(h:uh a l Q Z):(∃ l,a=.tup l)∨∃ p,a=.ref p∧((∃ xs,Z p=some (.list xs))∨∃ es,Z p=some (.dict es)):=by
 unfold uh at h;split at h
 ·exact .inl ⟨_,rfl⟩
 ·exact h.elim
theorem rR{a l:V}{Q:aP}{Z:H}(h:ui a l Q Z):((∃ l,a=.tup l)∨∃ p,a=.ref p∧((∃ xs,Z p=some (.list xs))∨∃ es,Z p=some (.dict es)))∨∃ l,a=.arg l:=by
 unfold ui at h;split at h
 ·exact .inl (.inl ⟨_,rfl⟩)
 ·refine o1x2 h fun xs hZ za=>?_;clear h;exact .inl (.inr ⟨_,rfl,.inl ⟨xs,hZ⟩⟩)
 ·exact .inr ⟨_,rfl⟩
 ·exact h.elim
theorem l0(hA:lA G h₀){Z:H}{s:Shared}{v:Value}{l:List V}{Q:Bool→Shared→Prop}{X:Value→Shared→Prop}(S:St w.params G h₀ Z s.heap)(rv:bh G s.heap v (.arg l))(h:Q false s):wpAny (model prog w) A (getitemInPython v) Q X s:=by
 refine o0x2 rv.inv fun e0 q9=>?_;refine af e0 ?_;refine af q9 ?_
 refine o2x2 hA fun vs n e0 za=>?_;clear hA
 refine af (getitemInPython_of_ne (by intro q;cases q)) ?_
 exact wpAny_bind (wpAny_specialOf (T := "list") ⟨_,S.base _ _ e0,rfl⟩ slot_list_getitem.lookup (wpAny_pure h))
theorem q5{a:V}{Q:aP}{Z:H}(h:sT a Q Z):(∃ l,a=.tup l)∨∃ p,a=.ref p∧((∃ xs,Z p=some (.list xs))∨∃ es,Z p=some (.dict es)):=by
 unfold sT at h;split at h
 ·refine o1x2 h fun xs hZ za=>?_;clear h;exact .inr ⟨_,rfl,.inl ⟨xs,hZ⟩⟩
 ·exact h.elim
theorem sC{o a:Expr}{co ca:E}{sp p:Pos}(ho:dZ prog w G h₀ C A env r o co)(ha:dZ prog w G h₀ C A env r a ca):dZ prog w G h₀ C A env r (.Subscript o (.Slice (some a) none none sp) p) (.slcL co ca):=by
 intro U Z s Q X e S h
 rw[eval_Subscript]
 refine wpAny_bind (ba (α:=Unit) (ho U Z s _ X e S h) fun y v Zq sa h1 rv g1=>wpAny_bind (wpAny_holding ?_))
 show wpAny _ _ (do
  let l ← eval a env
  let u ← holding [l] (pure Value.none)
  let s ← holding [l,u] (pure Value.none)
  newFields "slice" [l,u,s]) _ _ _
 refine wpAny_bind (ba (α:=Unit) (ha U Zq sa _ X (e.go S g1) g1.st h1) fun k kv Zr sb h2 rk g2=>wpAny_bind (wpAny_holding (wpAny_pure (wpAny_bind (wpAny_holding (wpAny_pure (gc (wpAny_bind (wpAny_standAt (wpAny_bind ?_))))))))))
 have rv':=g2.rep g1.st rv
 have g3:Go w.params G h₀ Zr sb Zr { sb with heap:=sb.heap.push { cls:=.type "slice",data:=.fields #[kv,.none,.none] } }:=Go.push g2.st _ sb.toks
 refine fo (k:=kv) (z:=y) (x:=y) g3.st (g3.rep g2.st rv') (rQ h2) ?_
 show wpAny _ _ (operate [_,v] (getItem v (.ref _)) >>= _) _ _ _
 refine wpAny_bind (wpAny_operating (ba (α:=Unit) (wZ g3.st (g3.rep g2.st rv') (g3.rep g2.st rk) (Heap.IsSliceOf.new ..) h2) fun z u Zb s4 q ru g4=>wpAny_bind (wpAny_letTemporaryGo (wpAny_pure ?_))))
 exact bU.back (((g1.trans g2).trans g3).trans g4) (bU.here g4.st q ru)
theorem sD(hA:lA G h₀){o a:Expr}{co ca:E}{sp p:Pos}(ho:dZ prog w G h₀ C A env r o co)(ha:dZ prog w G h₀ C A env r a ca):dZ prog w G h₀ C A env r (.Subscript o (.Slice none (some a) none sp) p) (.slcH co ca):=by
 intro U Z s Q X e S h
 rw[eval_Subscript]
 refine wpAny_bind (ba (α:=Unit) (ho U Z s _ X e S h) fun y v Zq sa h1 rv g1=>wpAny_bind (wpAny_holding ?_))
 show wpAny _ _ (do
  let l ← pure Value.none
  let u ← holding [l] (eval a env)
  let s ← holding [l,u] (pure Value.none)
  newFields "slice" [l,u,s]) _ _ _
 refine wpAny_bind (wpAny_pure (wpAny_bind (wpAny_holding (ba (α:=Unit) (ha U Zq sa _ X (e.go S g1) g1.st h1) fun k kv Zr sb h2 rk g2=>wpAny_bind (wpAny_holding (wpAny_pure (gc (wpAny_bind (wpAny_standAt (wpAny_bind ?_))))))))))
 have rv':=g2.rep g1.st rv
 have g3:Go w.params G h₀ Zr sb Zr { sb with heap:=sb.heap.push { cls:=.type "slice",data:=.fields #[.none,kv,.none] } }:=Go.push g2.st _ sb.toks
 have kp:∀ {Q':Bool→Shared→Prop} {X':Value→Shared→Prop},Q' false { sb with heap:=sb.heap.push { cls:=.type "slice",data:=.fields #[.none,kv,.none] } }→wpAny (model prog w) A (getitemInPython v) Q' X' { sb with heap:=sb.heap.push { cls:=.type "slice",data:=.fields #[.none,kv,.none] } }:=
  fun{Q' X'} h=>(rR h2).elim (fun hk=>fo (k:=kv) (z:=y) (x:=y) g3.st (g3.rep g2.st rv') hk h) fun⟨l,hl⟩=>l0 hA g3.st (hl▸g3.rep g2.st rv') h
 refine kp ?_
 show wpAny _ _ (operate [_,v] (getItem v (.ref _)) >>= _) _ _ _
 refine wpAny_bind (wpAny_operating (ba (α:=Unit) (w0 hA g3.st (g3.rep g2.st rv') (g3.rep g2.st rk) (Heap.IsSliceOf.new ..) h2) fun z u Zb s4 q ru g4=>wpAny_bind (wpAny_letTemporaryGo (wpAny_pure ?_))))
 exact bU.back (((g1.trans g2).trans g3).trans g4) (bU.here g4.st q ru)
theorem vG{o:Expr}{co:E}{sp p up cp:Pos}{k:Nat}(ho:dZ prog w G h₀ C A env r o co):dZ prog w G h₀ C A env r (.Subscript o (.Slice none none (some (.UnaryOp .USub (.Constant (.int 1) k cp) up)) sp) p) (.rev co):=by
 intro U Z s Q X e S h
 rw[eval_Subscript]
 refine wpAny_bind (ba (α:=Unit) (ho U Z s _ X e S h) fun y v Zq sa h1 rv g1=>wpAny_bind (wpAny_holding ?_))
 show wpAny _ _ (do
  let l ← pure Value.none
  let u ← holding [l] (pure Value.none)
  let s ← holding [l,u] (eval (.UnaryOp .USub (.Constant (.int 1) k cp) up) env)
  newFields "slice" [l,u,s]) _ _ _
 refine wpAny_bind (wpAny_pure (wpAny_bind (wpAny_holding (wpAny_pure (wpAny_bind (wpAny_holding (UnaryOp_ (wpAny_Constant_int (PyProof.Rows.neg_int (gc (wpAny_bind (wpAny_standAt (wpAny_bind ?_)))))))))))))
 generalize (sa.toks+1:Nat)=t1
 have g3:Go w.params G h₀ Zq sa Zq { sa with heap:=sa.heap.push { cls:=.type "slice",data:=.fields #[.none,.none,.int (-1) t1] },toks:=t1+1 }:=Go.push g1.st _ _
 refine fo (k:=v) (z:=y) (x:=y) g3.st (g3.rep g1.st rv) (q5 h1) ?_
 show wpAny _ _ (operate [v,_] (getItem v (.ref _)) >>= _) _ _ _
 refine wpAny_bind (wpAny_operating (ba (α:=Unit) (vH g3.st (g3.rep g1.st rv) (Heap.IsSliceOf.new ..) h1) fun z u Zb s4 q ru g4=>wpAny_bind (wpAny_letTemporaryGo (wpAny_pure ?_))))
 exact bU.back ((g1.trans g3).trans g4) (bU.here g4.st q ru)
end
structure Bk (n:Nat) (A:Around):Prop where
 handled:A.handled=none
 depth:A.depth+3 * n<990
 units:A.units+20 * n+200<cLine
structure dw (n:Nat) (A:Around):Prop where
 handled:A.handled=none
 depth:A.depth+3 * n+2<990
 units:A.units+20 * n+210<cLine
theorem dw.fit{n:Nat}{A:Around}(f:dw n A):Bk n A:=⟨f.handled,by have:=f.depth;lia,by have:=f.units;lia⟩
theorem dw.hu{n:Nat}{A:Around}(f:dw n A):A.units+70<cLine:=by have:=f.units;lia
theorem Bk.deeper{n:Nat}{A:Around}(f:Bk (n+1) A)(env:PySem.Env):dw n (A.deeper env):=⟨f.handled,by have:=f.depth;show A.depth+1+_+_<_;lia,by have:=f.units;show A.units+3+_+_<_;lia⟩
theorem dw.under{n:Nat}{A:Around}(f:dw n A)(C:Addr)(rest:List Value)(kw:List (Str×Value)):Bk n (A.under (.builtin "type.__call__" ⟨.ref C::rest,kw⟩)):=
 ⟨f.handled,by have:=f.depth;show A.depth+1+_<_;lia,by have:=f.units;show A.units+(1+3 * 0)+_+_<_;lia⟩
noncomputable def AW(G:GT):Option Nat→Nat→Option Addr
 |none,f=>G.fn f
 |some c,f=>G.mt c f
noncomputable def jy(prog:Program)(w:World)(G:GT)(h₀:Heap)(C:aO)(n:Nat):Prop:=
 ∀ A,Bk n A→∀ c f a,(c=none→db f=false)→AW G c f=some a→∀ vals vs Q Z s R,bx G s.heap vals vs→St w.params G h₀ Z s.heap→C c f vs Q Z→
  (∀ v s',bU w.params G h₀ Z s Q v s'→R (.ok (.ret v)) s')→codeAny (model prog w) A (.call (.ref a) ⟨vals,[]⟩) R s
section
variable {prog:Program} {w:World} {A:Around} {K:Frag} {G:GT} {h₀:Heap} {C:aO} {n:Nat}
theorem zI(D:gN prog w K G h₀)(F:jy prog w G h₀ C n)(fit:dw n A){c:Nat}{CC:Addr}(hc:db c=true)(hC:G.fn c=some CC){vals:List Value}{vs:List V}{Q:aP}{Z:H}{s:Shared}{X:Value→Shared→Prop}
  (rl:bx G s.heap vals vs) (S:St w.params G h₀ Z s.heap) (h:fK C (.fn c) vs Q Z):wpAny (model prog w) A (call (.ref CC) vals) (bU w.params G h₀ Z s Q) X s:=by
 unfold fK at h
 dsimp only at h
 rw[aH hc] at h
 refine o0x3 (D.make c CC hc hC) fun hm hk hi=>?_
 have XX:K.In s.heap:=D.X.keeps S.base
 refine wpAny_call ?_
 obtain⟨hh,g,d,t,os⟩:=s
 have nz:hh.get? hh.objs.size=none:=dS hh
 have nz1:hh.get? (hh.objs.size+1)=none:=Heap.get?_none_of_le (Nat.le_succ _)
 have k:∀ b o,hh.get? b=some o→((hh.push emptyDict).push (instObj CC hh.objs.size)).get? b=some o:=fun b o e=>Heap.get?_push_of_some _ (Heap.get?_push_of_some _ e)
 have hx:((hh.push emptyDict).push (instObj CC hh.objs.size)).get? (hh.objs.size+1)=some (instObj CC hh.objs.size):=by heap_get
 have hd:((hh.push emptyDict).push (instObj CC hh.objs.size)).get? hh.objs.size=some emptyDict:=by heap_get
 have B:=St.add (h':=(hh.push emptyDict).push (instObj CC hh.objs.size)) (a:=hh.objs.size+1) (o:=.inst c []) S (fun b t=>by
  rcases t with rfl | t
  ·exact nz1
  ·have:b=hh.objs.size:=Nat.succ.inj t
   refine af this ?_;exact nz) k (fun za za za=>Nat.succ_pos _) ⟨CC,#[],0,Nat.succ_pos _,hC,hc,hx,hd,.nil,fun x hx=>by simp at hx,List.nodup_nil⟩
 by_cases hI:gJ c=true
 ·rw[aH hI] at h hi
  refine o1x2 hi fun fI hf hfi=>?_;clear hi
  have ht:=(D.meth c 89 fI hf).1
  refine make_core (makes_of XX hm) (looks_findIn XX hfi) (fun self=>bind_fn XX self ht) (.inl rfl) ?_
  have hC':=h (hh.objs.size+1) B.2.2
  have rl':bx G ((hh.push emptyDict).push (instObj CC hh.objs.size)) (.ref (hh.objs.size+1)::vals) (.ref (hh.objs.size+1)::vs):=.cons (.ref _) (rl.stays fun b o e za=>k b o e)
  refine F _ (fit.under CC vals []) (some c) 89 fI (by simp) hf _ _ _ _ ⟨(hh.push emptyDict).push (instObj CC hh.objs.size),g,d,t,os⟩ _ rl' B.1 hC' fun v s' o=>?_
  refine o2x3 o fun x Z' q2 rv g'=>?_;clear o;obtain⟨q0,q⟩:=q2
  have hxn:x=.none:=by induction x using V.casesOn<;>first | rfl | exact ff q0
  subst hxn
  obtain rfl:=rv.none_inv
  refine⟨rfl,?_⟩
  exact⟨_,Z',q,.ref _,(⟨⟨_,_,rfl⟩,B.1,B.2.1⟩:Go w.params G h₀ Z ⟨hh,g,d,t,os⟩ (Z.set (hh.objs.size+1) (.inst c [])) ⟨(hh.push emptyDict).push (instObj CC hh.objs.size),g,d,t,os⟩).trans g'⟩
 ·rw[aE hI] at h hi
  obtain⟨rfl,h⟩:=h
  cases rl
  have Y:=makes_of (M:=model prog w) XX hm
  refine make_core Y (looks_findIn XX hi) (fun self=>Looks.of_pure (oi_bind self)) (.inr ⟨rfl,rfl⟩) ?_
  have t1:Looks (model prog w) ((hh.push emptyDict).push (instObj CC hh.objs.size)) (typeOf (.ref (hh.objs.size+1))) (.ref CC):=(Looks.ld hx).andThen .now
  have t2:Looks (model prog w) ((hh.push emptyDict).push (instObj CC hh.objs.size)) (isInstance (.ref (hh.objs.size+1)) (.type "object")) true:=t1.andThen (Y.top.keeps k)
  refine codeAny_call_builtin oi_plain entry_oi (@check_slot (model prog w) _ _ _ "object.__init__" "object" "__init__" (.ref (hh.objs.size+1)) [] [] _ oi_kind oi_split t2 (oi_args (.ref (hh.objs.size+1))) ?_)
  rw[oi_run]
  exact wpAny_pure (And.intro rfl ⟨_,_,h _ B.2.2,.ref _,⟨_,_,rfl⟩,B.1,B.2.1⟩)
theorem qF(D:gN prog w K G h₀)(F:jy prog w G h₀ C n)(fit:dw n A){f:Value}{g:V}{vals:List Value}{vs:List V}{Q:aP}{Z:H}{s:Shared}{X:Value→Shared→Prop}
  (rf:bh G s.heap f g) (rl:bx G s.heap vals vs) (S:St w.params G h₀ Z s.heap) (h:fK C g vs Q Z):wpAny (model prog w) A (call f vals) (bU w.params G h₀ Z s Q) X s:=by
 have h':=h
 induction g using V.casesOn with
 |fn x=>
  unfold fK at h'
  dsimp only at h'
  refine o1x2 rf.fn_inv fun a e1 ha=>?_;refine af e1 ?_
  by_cases hc:db x=true
  ·exact zI D F fit hc ha rl S h
  ·rw[aE hc] at h'
   exact wpAny_call (F A fit.fit none x a (fun za=>by simpa using hc) ha vals vs Q Z s _ rl S h' fun v s' o=>o)
 |bi m=>exact CU S rf.bi_inv rl h
 |_=>exact False.elim h'
theorem tH(D:gN prog w K G h₀){f:Value}{g:V}{s:Shared}(rf:bh G s.heap f g)(hg:(∃ x,g=.fn x)∨∃ m,g=.bi m)(h:Heap)(X:K.In h) :
  ∃ k,(k=Keeper.frame∨k=Keeper.machine∨k=Keeper.boundFrame)∧Looks (model prog w) h (keeperOf f) k:=by
 rcases hg with⟨x,rfl⟩ | ⟨m,rfl⟩
 ·refine o1x2 rf.fn_inv fun a e1 ha=>?_;refine af e1 ?_
  refine keeps_K ?_ h X
  by_cases hc:db x=true
  ·exact(D.make x a hc ha).2.1
  ·exact D.fnk x a (by simpa using hc) ha
 ·have e:=rf.bi_inv
  refine⟨.machine,.inr (.inl rfl),?_⟩
  have:keeperOf f=pure .machine:=by
   exact kh (P:=fun _z f=>keeperOf f=pure .machine) rfl rfl rfl rfl rfl rfl rfl e
  exact Looks.of_pure this
theorem Bj{g:V}{vs:List V}{Q:aP}{Z:H}(h:fK C g vs Q Z):(∃ x,g=.fn x)∨∃ m,g=.bi m:=by
 induction g using V.casesOn with
 |fn x=>exact .inl ⟨_,rfl⟩
 |bi m=>exact .inr ⟨_,rfl⟩
 |_=>exact False.elim h
variable {env:PySem.Env} {r:Str→cQ}
theorem fm{pos:Pos}:∀ {es:List Expr} {cs:List E},eh prog w G h₀ C A env r es cs→(backTo pos (starEach es env)).any (·.1)=false
 |[],[],_=>rfl
 |e::es,c::cs,⟨_,hs,hr⟩=>by
  refine af (iE hs) ?_
  show(false || (backTo pos (starEach es env)).any (·.1))=false
  refine ak (fm hr) ?_;rfl
 |[],_::_,h=>h.elim
 |_::_,[],h=>h.elim
theorem qL{pos:Pos}{f:Value}{es:List Expr}{cs:List E}{U:Env}{Z:H}{s:Shared}{Q:List V→H→Prop}{X:Value→Shared→Prop}(hl:eh prog w G h₀ C A env r es cs)(en:bF G env r U Z s.heap)(S:St w.params G h₀ Z s.heap)(h:ky C cs U Q Z) :
  wpAny (model prog w) A (evalArgs f true (backTo pos (starEach es env)) []) (fun a s'=>a.kw=[]∧Di w.params G h₀ Z s Q a.pos s') X s:=by
 induction es using List.casesOn with
 |nil=>
  induction cs using List.casesOn with
  |nil=>
   exact evalArgs_nil3 ⟨rfl,[],Z,h,.nil,Go.refl S⟩
  |cons c cs=>exact hl.elim
 |cons e es=>
  have:=fN (pos:=pos) (X:=X) hl en S h
  induction cs using List.casesOn with
  |nil=>exact hl.elim
  |cons c cs=>
   rw[iE hl.2.1] at this ⊢
   exact evalArgs_plain (wpAny_mono this (fun vs s' z=>⟨rfl,z.2⟩) fun za za e=>e)
noncomputable def dF:Expr→Bool
 |.Attribute ..=>false
 |_=>true
theorem rN{f:Expr}{args:List Expr}{p:Pos}(h:dF f=true):eval (.Call f args [] p) env=(do callWith p (← eval f env) [] (backTo p (starEach args env)) []):=by
 induction f using Expr.casesOn<;>first | rfl | exact ff h
theorem ut(D:gN prog w K G h₀)(F:jy prog w G h₀ C n)(fit:dw n A){f:Expr}{args:List Expr}{cf:E}{cs:List E}{p:Pos}(hn:dF f=true)(hf:dZ prog w G h₀ C A env r f cf)(hl:eh prog w G h₀ C A env r args cs) :
  dZ prog w G h₀ C A env r (.Call f args [] p) (.call cf cs):=by
 intro U Z s Q X e S h
 refine af (rN hn) ?_
 refine wpAny_bind (ba (α:=Unit) (hf U Z s _ X e S h) fun g fv Zq sa h1 rf g1=>?_)
 obtain⟨hc,h1⟩:=h1
 have hg:(∃ x,g=.fn x)∨∃ m,g=.bi m:=by
  unfold oh at hc
  split at hc
  ·exact .inl ⟨_,rfl⟩
  ·exact .inr ⟨_,rfl⟩
  ·exact ff hc
 refine callWith_of (P:=fun h=>K.In h) (by refine af (fm hl) ?_;rfl) (tH D rf hg) ?_
 refine wpAny_mono (qL hl (e.go S g1) g1.st h1) (fun a sb p0=>?_) fun za za e=>e
 obtain⟨hk,vs,Zr,h2,rl,g2⟩:=p0
 refine⟨D.X.keeps g2.st.base,?_⟩
 refine af hk ?_
 exact gM (g1.trans g2) (qF D F fit (g2.rep g1.st rf) rl g2.st h2)
theorem nT:∀ {fs:List (Nat×V)} {m:Nat} {y:V},dK fs m=some y→m ∈ fs.map (·.1)
 |[],m,y,h=>by exact ns h
 |e::fs,m,y,h=>by
  unfold dK at h
  by_cases q:e.1=m
  ·(refine af List.map_cons ?_;refine af q ?_);exact .head _
  ·rw[aE q] at h;exact .tail _ (nT h)
noncomputable def MF(G:GT)(m:Nat)(f:Value):MK→Prop
 |.tup=>m=91∧f=.builtin "tuple.index"
 |.list=>(m=95∧f=.builtin "list.append")∨(m=110∧f=.builtin "list.pop")
 |.dict=>m=99∧f=.builtin "dict.get"
 |.inst c=>∃ a,f=.ref a∧G.mt c m=some a
set_option tactic.hygienic true in
theorem lW(D:gN prog w K G h₀){Z:H}{s:Shared}{v:Value}{y:V}{k:MK}{m:Nat}{pl:Sem Bool}{Q:Value×List Value→Shared→Prop}{X:Value→Shared→Prop}(S:St w.params G h₀ Z s.heap)(rv:bh G s.heap v y)(hk:fC Z y=some k)(hm:fq k m=true)
  (h:∀ f,MF G m f k→Q (f,[v]) s):wpAny (model prog w) A (getMethod v (cy m) pl) Q X s:=by
 unfold fC at hk
 split at hk
 ·obtain rfl:=aQ hk
  refine o3x2 rv.tup_inv fun a vs n e3 q9=>?_;obtain rfl:=e3;refine o0x2 q9 fun e1 za=>?_;clear q9
  have hm':m=91:=by simpa [fq] using hm
  subst hm'
  exact getMethod_builtin (T := "tuple") ⟨_,e1,rfl⟩ F.plainAttrs_tuple F.slot_tuple_index F.type_tuple_index (fun b q=>by cases q;exact⟨_,e1,rfl⟩) (h _ ⟨rfl,rfl⟩)
 ·rename_i a
  obtain rfl:=rv.ref_inv
  split at hk
  ·rename_i xs hZ
   obtain rfl:=aQ hk
   refine o2x2 (S.obj _ _ hZ) fun vs n e1 za=>?_
   have hm':m=95∨m=110:=by simpa [fq] using hm
   rcases hm' with rfl | rfl
   ·exact getMethod_builtin (T := "list") ⟨_,e1,rfl⟩ F.plainAttrs_list slot_list_append (by show builtinType _=_;refine af builtinType_eq_fast ?_;kernel_rfl) (fun b q=>by cases q;exact⟨_,e1,rfl⟩) (h _ (.inl ⟨rfl,rfl⟩))
   ·exact getMethod_builtin (T := "list") ⟨_,e1,rfl⟩ F.plainAttrs_list F.slot_list_pop F.type_list_pop (fun b q=>by cases q;exact⟨_,e1,rfl⟩) (h _ (.inr ⟨rfl,rfl⟩))
  ·rename_i es hZ
   obtain rfl:=aQ hk
   refine o3x2 (S.obj _ _ hZ) fun ds n kk e1 za=>?_
   have hm':m=99:=by simpa [fq] using hm
   subst hm'
   exact getMethod_builtin (T := "dict") ⟨_,e1,rfl⟩ F.plainAttrs_dict F.slot_dict_get F.type_dict_get (fun b q=>by cases q;exact⟨_,e1,rfl⟩) (h _ ⟨rfl,rfl⟩)
  ·rename_i c fs hZ
   obtain rfl:=aQ hk
   refine o3x9 (lZ S hZ) fun CC ds n z1 z2 z0 e1 e2 F z3 z4 I=>?_
   have hm2:fR.contains (c,m)=true∧m≠89:=by simpa [fq,-List.contains_eq_mem] using hm
   refine o0x2 hm2 fun hm' h89=>?_;clear hm2
   ·refine o1x4 (D.meths c m CC hm' z1 h89) fun a' hmt hfi hna hlt=>?_
    have k1:=D.cls c CC z2 z1
    have XX:K.In s.heap:=D.X.keeps S.base
    have hl:getL (cy m) ds=some none:=by
     refine(j5 F hlt).2.1 ?_
     induction q:dK fs m using Option.casesOn with
     |none=>rfl
     |some y=>
      exfalso
      have:=nT q
      rw[z3 m this] at hna;exact tf hna
    exact method_fn XX I (plainGet_of k1.get).1 (plainGet_of k1.get).2 hfi (D.meth c m a' hmt).1 (by show(lookIn (cy m) (dictOf ds n)).map _=_;(rewrite[lookIn_dict];refine af hl ?_);rfl) (h _ ⟨a',rfl,hmt⟩)
  ·exact ns hk
 ·exact ns hk
theorem wO{args:List Expr}{cs:List E}{p:Pos}(hl:eh prog w G h₀ C A env r args cs)(hfew:args.length<30):methodCallForm (args.length+([]:List Keyword).length) (backTo p (starEach args env)) (backToKw p (keywordEach [] env))=true:=by
 unfold methodCallForm
 have h1:=fm (pos:=p) hl
 have h2:(backTo p (starEach args env)).all (fun x=>!x.1)=true:=by
  rw[List.all_eq_true]
  intro t ht
  rw[List.any_eq_false] at h1
  simpa using h1 t ht
 refine af h2 ?_
 show(true && true && decide (args.length+0+0<30))=true
 simpa using hfew
theorem wt(D:gN prog w K G h₀){m:Nat}{f:Value}{k:MK}(hf:MF G m f k):∀ h,K.In h→∃ k,(k=Keeper.frame∨k=Keeper.machine∨k=Keeper.boundFrame)∧Looks (model prog w) h (keeperOf f) k:=by
 intro h XX
 have bi:∀ id,f=.builtin id→∃ k,(k=Keeper.frame∨k=Keeper.machine∨k=Keeper.boundFrame)∧Looks (model prog w) h (keeperOf f) k:=fun id q=>by
  refine af q ?_
  exact⟨.machine,.inr (.inl rfl),Looks.of_pure rfl⟩
 induction k using MK.casesOn with
 |tup=>exact bi _ hf.2
 |list=>refine Or.elim hf (fun hf=>?_) (fun hf=>?_)<;>exact bi _ hf.2
 |dict=>exact bi _ hf.2
 |inst c=>
  refine o1x2 hf fun a e1 hmt=>?_;clear hf;refine af e1 ?_
  exact keeps_K (D.meth c _ a hmt).2 h XX
theorem wb(D:gN prog w K G h₀)(F:jy prog w G h₀ C n)(fit:dw n A){m:Nat}{f v:Value}{k:MK}{y:V}{vs:List V}{vals:List Value}{Q:aP}{Zr:H}{sb:Shared}{X:Value→Shared→Prop}(rv':bh G sb.heap v y)(rl:bx G sb.heap vals vs)(S2:St w.params G h₀ Zr sb.heap)
  (hf:MF G m f k) (h2:xC C k y m vs Q Zr):wpAny (model prog w) A (call f (v::vals)) (bU w.params G h₀ Zr sb Q) X sb:=by
 induction k using MK.casesOn with
 |tup=>
  obtain⟨hi,rfl⟩:=hf
  obtain⟨_,h2⟩:=h2
  induction y using V.casesOn with
  |tup l=>induction vs using List.casesOn with
   |nil=>exact False.elim h2
   |cons z r=>induction r using List.casesOn with
    |cons _ _=>induction z using V.casesOn<;>exact False.elim h2
    |nil=>induction z using V.casesOn with
     |int i=>
      obtain⟨is,j,rfl,hj,q⟩:=h2
      obtain⟨u,rfl,ru⟩:=d0 rl
      obtain⟨t,rfl⟩:=ru.int_inv
      obtain⟨a,us,m,rfl,e1,r1,z⟩:=rv'.tup_inv
      exact tP e1 r1 (by simpa using z) hj fun t tk=>bU.int S2 q t tk
     |_=>exact False.elim h2
  |_=>exact False.elim h2
 |list=>induction y using V.casesOn with
  |ref a=>
   refine af rv'.ref_inv ?_
   obtain⟨xs,hZ,h2⟩:=h2
   induction vs using List.casesOn with
   |nil=>
    obtain⟨h110,x,hx,q⟩:=h2
    cases rl
    rcases hf with⟨hh,_⟩ | ⟨_,rfl⟩
    ·rw[h110] at hh;cases hh
    ·exact yD S2 hZ hx q
   |cons z r=>induction r using List.casesOn with
    |cons _ _=>exact False.elim h2
    |nil=>
     obtain⟨h95,z,q⟩:=h2
     obtain⟨uv,rfl,ru⟩:=d0 rl
     rcases hf with⟨_,rfl⟩ | ⟨hh,_⟩
     ·exact r4 S2 hZ ru z q
     ·rw[h95] at hh;cases hh
  |_=>exact False.elim h2
 |dict=>
  obtain⟨_,rfl⟩:=hf
  obtain⟨_,h2⟩:=h2
  induction y using V.casesOn with
  |ref a=>
   refine af rv'.ref_inv ?_
   obtain⟨es,hZ,h2⟩:=h2
   induction vs using List.casesOn with
   |nil=>exact False.elim h2
   |cons z r=>induction r using List.casesOn with
    |nil=>
     obtain⟨u,rfl,ru⟩:=d0 rl
     exact tV S2 D.sys hZ ru h2.1 fit.hu (.inl ⟨rfl,rfl⟩) h2.2
    |cons z2 r=>induction r using List.casesOn with
     |cons _ _=>exact False.elim h2
     |nil=>
      obtain⟨u,u2,rfl,ru,ru2⟩:=hH rl
      exact tV S2 D.sys hZ ru h2.1 fit.hu (.inr ⟨_,rfl,ru2⟩) h2.2
  |_=>exact False.elim h2
 |inst c=>
  obtain⟨a,rfl,hmt⟩:=hf
  exact wpAny_call (F A fit.fit (some c) _ a (by simp) hmt (v::vals) (y::vs) Q Zr sb _ (.cons rv' rl) S2 h2 fun v s' o=>o)
theorem v8(D:gN prog w K G h₀)(F:jy prog w G h₀ C n)(fit:dw n A){o:Expr}{x:Str}{args:List Expr}{co:E}{cs:List E}{ap p:Pos}(hn:e8 o=true)(hx:ix x<NT)(hfew:args.length<30)(hline:(ap.endLine == p.line)=true)
  (ho:dZ prog w G h₀ C A env r o co) (hl:eh prog w G h₀ C A env r args cs):dZ prog w G h₀ C A env r (.Call (.Attribute o x ap) args [] p) (.mth co (ix x) cs):=by
 intro U Z s Q X e S h
 (rewrite[arm_eval_Call];refine af (qI hn) ?_)
 refine wpAny_bind (ba (α:=Unit) (ho U Z s _ X e S h) fun y v Zq sa h1 rv g1=>wpAny_bind (wpAny_standAt ?_))
 refine o1x3 h1 fun k hk hm h1=>?_
 have hform:=wO (p:=p) hl hfew
 unfold methodCall
 refine af hform ?_
 have hnx:cy (ix x)=x:=iP hx
 refine wpAny_bind (wpAny_holding ?_)
 show wpAny _ _ (getMethod v x _) _ _ _
 refine bt hnx ?_
 refine lW D g1.st rv hk hm fun f hf=>?_
 refine wpAny_bind ?_
 unfold methodCallPos
 refine af hline ?_
 refine wpAny_pure ?_
 refine callWith_of (P:=fun h=>K.In h) (by refine af (fm hl) ?_;rfl) (wt D hf) ?_
 refine wpAny_mono (qL hl (e.go S g1) g1.st h1) (fun b sb p0=>?_) fun za za e=>e
 obtain⟨hkw,vs,Zr,h2,rl,g2⟩:=p0
 refine⟨D.X.keeps g2.st.base,?_⟩
 refine af hkw ?_
 have rv':=g2.rep g1.st rv
 refine gM (g1.trans g2) ?_
 have S2:=g2.st
 obtain⟨vals,kw⟩:=b
 dsimp only at rl
 show wpAny _ _ (call f (v::vals)) _ _ _
 exact wb D F fit rv' rl S2 hf h2
end
section
variable {P:Params} {G:GT} {h₀:Heap} {Z Zr:H} {s sb:Shared}
theorem Go.adopt{d:Addr}{o:O}{h':Heap}{tk:Nat}(g:Go P G h₀ Z s Zr sb)(S:St P G h₀ Z s.heap)(hd:s.heap.get? d=none)(n:¬bv Zr d)(hs:∀ b x,b≠d→sb.heap.get? b=some x→h'.get? b=some x)(nfz:∀ o,sb.heap.get? d=some o→¬cw o)
  (ht:∀ b,fz d o b→b=d) (hi:∀ c fs,o=.inst c fs→0<d) (ho:fi P G h' d o):Go P G h₀ Z s (Zr.set d o) { sb with heap:=h',toks:=tk }∧Zr d=none:=by
 have hz:h₀.get? d=none:=by
  induction q:h₀.get? d using Option.casesOn with
  |none=>rfl
  |some x=>rw[S.base d x q] at hd;exact sn hd
 have T:St P G h₀ Zr h':=g.st.touch n hz nfz hs
 have B:=T.adopt (a:=d) (o:=o) (fun b t=>by refine af (ht b t) ?_;exact n) (fun b t=>by refine af (ht b t) ?_;exact hz) hi ho
 refine o2x1 g.eq fun h1 t1 e1=>?_
 refine⟨⟨⟨h',tk,by(refine af e1 ?_;with_reducible rfl)⟩,B.1,⟨fun b x e no=>?_,fun b q=>?_⟩⟩,B.2.2⟩
 ·exact hs b x (fun q=>by subst q;rw[hd] at e;exact ns e) (g.eff.keep b x e no)
 ·refine Or.elim (B.2.1 b q) (fun q=>?_) (fun q=>?_)
  ·exact g.eff.own b q
  ·refine af (ht b q) ?_;exact .inr hd
end
section
variable {prog:Program} {w:World} {A:Around} {K:Frag} {G:GT} {h₀:Heap} {C:aO} {env:PySem.Env} {r:Str→cQ}
noncomputable def yC(env:PySem.Env)(p:Pos):List Expr→List Expr→List (Sem Value×Sem Value)
 |k::ks,v::vs=>(eval k env,do let x ← eval v env;standAt p;pure x)::yC env p ks vs
 |_,_=>[]
theorem kN{p:Pos}:∀ {ks vs:List Expr},(evalEachOpt (ks.map some) env).zip ((evalEach vs env).map fun v=>do let x ← v;standAt p;pure x)=(yC env p ks vs).map fun q=>(some q.1,q.2)
 |[],_=>rfl
 |k::ks,[]=>by rfl
 |k::ks,v::vs=>by
  show(some (eval k env),_)::((evalEachOpt (ks.map some) env).zip ((evalEach vs env).map _))=_
  refine af kN ?_;rfl
theorem jQ{p:Pos}:∀ {ks vs:List Expr},(yC env p ks vs).length≤ks.length
 |[],_=>Nat.le_refl _
 |k::ks,[]=>Nat.zero_le _
 |k::ks,v::vs=>by
  show(yC env p ks vs).length+1≤_
  have:=@jQ p ks vs
  refine af List.length_cons ?_;lia
noncomputable def yb(G:GT)(h:Heap)(kvs:List (Value×Value))(es:List (V×V)):Prop:=bx G h (kvs.map (·.1)) (es.map (·.1))∧bx G h (kvs.map (·.2)) (es.map (·.2))
theorem nr{p:Pos}{ks:List Expr}:∀ {vs:List Expr} {cks cvs:List E} {U:Env} {Z:H} {s:Shared} {Q:List (V×V)→H→Prop} {X:Value→Shared→Prop},eh prog w G h₀ C A env r ks cks→eh prog w G h₀ C A env r vs cvs→
  bF G env r U Z s.heap→St w.params G h₀ Z s.heap→Bf (sy C cks U) (sy C cvs U) Q Z→
  wpAny (model prog w) A (evalPairs (yC env p ks vs)) (fun kvs s'=>kvs.length≤ks.length∧∃ es Z',Q es Z'∧yb G s'.heap kvs es∧Go w.params G h₀ Z s Z' s') X s:=by
 induction ks with
 |nil=>
  intro vs cks cvs U Z s Q X hk hv e S h
  induction cks using List.casesOn with
  |cons _ _=>exact hk.elim
  |nil=>induction vs using List.casesOn with
   |nil=>induction cvs using List.casesOn with
    |nil=>exact evalPairs_nil ⟨Nat.le_refl _,[],Z,h,⟨.nil,.nil⟩,Go.refl S⟩
    |cons _ _=>exact hv.elim
   |cons _ _=>induction cvs using List.casesOn with
    |nil=>exact hv.elim
    |cons _ _=>exact False.elim h
 |cons k ks ih=>
  intro vs cks cvs U Z s Q X hk hv e S h
  induction cks using List.casesOn with
  |nil=>exact hk.elim
  |cons ck cks=>induction vs using List.casesOn with
   |nil=>induction cvs using List.casesOn with
    |nil=>exact False.elim h
    |cons _ _=>exact hv.elim
   |cons v vs=>induction cvs using List.casesOn with
    |nil=>exact hv.elim
    |cons cv cvs=>
     refine evalPairs_cons (ba (α:=Unit) (hk.1.1 U Z s _ X e S h) fun x kv Zq sa h1 rk g1=>?_)
     refine wpAny_bind (ba (α:=Unit) (hv.1.1 U Zq sa _ X (e.go S g1) g1.st h1) fun y vv Zr sb h2 rv g2=>wpAny_bind (wpAny_standAt (wpAny_pure ?_)))
     refine wpAny_mono (ih hk.2.2 hv.2.2 ((e.go S g1).go g1.st g2) g2.st h2) (fun kvs se p0=>?_) fun za za e=>e
     obtain⟨hl,es,Za,q,rr,g3⟩:=p0
     exact⟨Nat.succ_le_succ hl,(x,y)::es,Za,q,⟨.cons (g3.rep g2.st (g2.rep g1.st rk)) rr.1,.cons (g3.rep g2.st rv) rr.2⟩,(g1.trans g2).trans g3⟩
theorem tG{acc:List (V×V)}{k:V}{n:Nat}(hk:key k=true)(hn:mK k=n)(ha:∀ a r,acc=a::r→mK a.1=n):be acc k=true:=by
 unfold be
 (refine af hk ?_;rw[Bool.true_and])
 induction acc using List.casesOn with
 |nil=>rfl
 |cons a r=>dsimp only;(refine af (ha a r rfl) ?_;refine af hn ?_);simp
theorem rP{acc:List (V×V)}{k v:V}{n:Nat}(hn:mK k=n)(ha:∀ a r,acc=a::r→mK a.1=n):∀ a r,bJ acc k v=a::r→mK a.1=n:=by
 intro a r e
 induction acc using List.casesOn with
 |nil=>skip;cases e;exact hn
 |cons b c=>
  unfold bJ at e
  have hb:=ha b c rfl
  split at e<;>cases e<;>exact hb
theorem qV{d:Addr}{n:Nat}(kvs:List (Value×Value)):∀ (es acc:List (V×V)) (s:Shared) (ds:Array DictEntry) (m:Nat) (kk:KK) (Q:PUnit→Shared→Prop) (X:Value→Shared→Prop),yb G s.heap kvs es→
  s.heap.get? d=some { cls:=.type "dict",data:=.dict ds m }→cI w.params G s.heap kk ds.toList acc→g9 acc→(∀ e ∈ es,key e.1=true∧mK e.1=n)→(∀ a r,acc=a::r→mK a.1=n)→A.units+64<cLine→acc.length+es.length≤1000→
  (∀ h' tk ds' m' kk',Heap.SameBut d s.heap h'→h'.get? d=some { cls:=.type "dict",data:=.dict ds' m' }→cI w.params G h' kk' ds'.toList (dH acc es)→g9 (dH acc es)→(dH acc es).length≤1000→Q PUnit.unit { s with heap:=h',toks:=tk })→
  wpAny (model prog w) A (forIn kvs PUnit.unit fun(x:Value×Value) (_:PUnit)=>(do dictSet d x.1 x.2;pure (ForInStep.yield PUnit.unit):Sem (ForInStep PUnit))) Q X s:=by
 induction kvs with
 |nil=>
  intro es acc s ds m kk Q X rr ho D O _ _ _ hl hQ
  have:es=[]:=by
   have:=rr.1.length
   simpa using this.symm
  subst this
  refine af List.forIn_nil ?_
  exact wpAny_pure (hQ s.heap s.toks ds m kk (Heap.SameBut.refl ..) ho D O (by simpa [dH] using hl))
 |cons kv kvs ih=>
  obtain⟨kv,vv⟩:=kv
  intro es
  induction es using List.casesOn with
  |nil=>intro acc s ds m kk Q X rr;cases rr.1
  |cons e es=>
  intro acc s ds m kk Q X rr ho D O hk ha hu hl hQ
  obtain⟨r1,r2⟩:=rr
  cases r1 with
  |cons rk r1=>
   cases r2 with
   |cons rv r2=>
    have he:=hk e (.head _)
    rw[List.length_cons] at hl
    rw[List.forIn_cons]
    refine wpAny_bind (wpAny_bind (qB ho D O rk (tG he.1 he.2 ha) hu (by unfold bM;lia) rv fun h' tk ds' m' kk' hs e' D' z'=>wpAny_pure ?_))
    have st:b8 s.heap h':=fun b o eb c=>hs.extBut b o (fun q=>by
     subst q
     rw[ho] at eb
     obtain rfl:=aQ eb
     exact nf (by simp) (by simp) c) eb
    have zl:(bJ acc e.1 e.2).length≤acc.length+1:=by
     have:∀ l:List (V×V),(bJ l e.1 e.2).length≤l.length+1:=by
      intro l
      induction l with
      |nil=>simp[bJ]
      |cons a l ih=>unfold bJ;split<;>simp<;>lia
     exact this acc
    refine ih es (bJ acc e.1 e.2) { s with heap:=h',toks:=tk } ds' m' kk' Q X ⟨r1.stays st,r2.stays st⟩ e' (D'.stays st) (iM O) (fun e he=>hk e (.tail _ he)) (rP he.2 ha) hu (by lia) fun h'' tk' ds'' m'' kk'' hs' e'' D'' O'' z''=>?_
    exact hQ h'' tk' ds'' m'' kk'' (hs.trans hs') e'' D'' O'' z''
theorem wF{es:List (V×V)}(h:rG es=true):∃ n,∀ e ∈ es,key e.1=true∧mK e.1=n:=by
 unfold rG at h
 rw[List.all_eq_true] at h
 induction es using List.casesOn with
 |nil=>exact⟨0,fun e he=>by simp at he⟩
 |cons a r=>
  refine⟨mK a.1,fun e he=>?_⟩
  have:=h e he
  unfold be at this
  rw[Bool.and_eq_true] at this
  exact⟨this.1,by simpa using(beq_iff_eq.mp this.2).symm⟩
theorem wX{ks vs:List Expr}{cks cvs:List E}{p:Pos}(hu:A.units+64<cLine)(hz:ks.length≤15)(hk:eh prog w G h₀ C A env r ks cks)(hv:eh prog w G h₀ C A env r vs cvs):dZ prog w G h₀ C A env r (.Dict (ks.map some) vs p) (.dct cks cvs):=by
 intro U Z s Q X e S h
 have h:Bf (sy C cks U) (sy C cvs U) (fun es Zq=>rG es=true∧gf (.dict (dH [] es)) Q Zq) Z:=h
 (rewrite[arm_eval_Dict];refine af kN ?_)
 refine wpAny_bind (wpAny_standAt ?_)
 by_cases h0:yC env p ks vs=[]
 ·refine af h0 ?_
  have hp:=nr (p:=p) (X:=X) hk hv e S h
  rw[h0] at hp
  have hnil:wpAny (model prog w) A (dictDisplay []) (bU w.params G h₀ Z s Q) X s:=by
   have:dictDisplay []=newDict:=rfl
   refine af this ?_
   refine wpAny_newObj_type ?_ (by show 0≤sizeLine+1;lia)
   have hq:∃ es Z',(rG es=true∧gf (.dict (dH [] es)) Q Z')∧es=[]∧Z'=Z:=by
    induction ks using List.casesOn with
    |nil=>
     induction vs using List.casesOn with
     |nil=>
      induction cks using List.casesOn with
      |nil=>
       induction cvs using List.casesOn with
       |nil=>exact⟨[],Z,h,rfl,rfl⟩
       |cons _ _=>exact hv.elim
      |cons _ _=>exact hk.elim
     |cons _ _=>
      induction cks using List.casesOn with
      |nil=>
       induction cvs using List.casesOn with
       |nil=>exact hv.elim
       |cons _ _=>exact False.elim h
      |cons _ _=>exact hk.elim
    |cons _ _=>
     induction vs using List.casesOn with
     |nil=>
      induction cks using List.casesOn with
      |nil=>exact hk.elim
      |cons _ _=>
       induction cvs using List.casesOn with
       |nil=>exact False.elim h
       |cons _ _=>exact hv.elim
     |cons _ _=>cases h0
   refine o2x3_1v0l_2v1l hq fun q2=>?_;clear hq;obtain⟨_,q⟩:=q2
   have:=bU.dict (P:=w.params) (h₀:=h₀) (s:=s) (kk:=.i) (ds:=#[]) (n:=0) (l:=[]) (tk:=s.toks) S q (dS _) (fun b x eb=>Heap.get?_push_of_some { cls:=.type "dict",data:=.dict #[] } eb) (Heap.get?_push_size _ rfl) .nil trivial (Nat.zero_le _)
   exact this
  exact hnil
 ·have hlen:(yC env p ks vs).length≤15:=Nat.le_trans jQ hz
  refine af (dictDisplay_pairs _ h0 (by lia)) ?_
  refine wpAny_bind (wpAny_bind (wpAny_alloc (wpAny_bind (wpAny_holding ?_))))
  refine af (aH hlen) ?_
  have g1:Go w.params G h₀ Z s Z { s with heap:=s.heap.push { cls:=.type "dict",data:=.dict #[] } }:=Go.push S _ s.toks
  have hd0:=dS s.heap
  have hd1:(s.heap.push { cls:=.type "dict",data:=.dict #[] }).get? s.heap.objs.size=some { cls:=.type "dict",data:=.dict #[] }:=Heap.get?_push_size _ rfl
  have no1:¬bv Z s.heap.objs.size:=S.fresh hd0
  refine wpAny_bind (wpAny_mono (nr hk hv (e.go S g1) g1.st h) (fun kvs sb p0=>?_) fun za za e=>e)
  obtain⟨hl,es,Zr,⟨hh,q⟩,rr,g2⟩:=p0
  refine aI (wF hh) fun n hn=>?_
  have le:es.length≤15:=by
   have:=rr.1.length
   simp at this
   lia
  have hd2:=g2.eff.keep _ _ hd1 no1
  have no2:=g2.eff.notOwned hd1 no1
  refine wpAny_holding (wpAny_bind (qV (n:=n) kvs es [] sb #[] 0 .i _ X rr hd2 .nil trivial hn (fun a r q=>by cases q) hu (by simp;lia) fun h' tk ds' m' kk' hs e' D' O' z'=>?_))
  refine wpAny_pure (wpAny_pure (wpAny_pure ?_))
  obtain⟨g3,hnone⟩:=Go.adopt (tk:=tk) (o:=.dict (dH [] es)) (h':=h') (g1.trans g2) S hd0 no2 (fun b x hb hx=>hs.extBut b x hb hx) (fun o eo=>by rw[hd2] at eo;obtain rfl:=aQ eo;exact nf (by simp) (by simp)) (fun b t=>t) (fun za za q=>by cases q)
   ⟨ds',m',kk',e',D',O',by unfold bM;lia⟩
  exact⟨_,_,q _ hnone,.ref _,g3⟩
end
section
variable {P:Params} {G:GT} {h₀:Heap} {Z Zr:H} {s sb:Shared}
theorem Go.touch{d:Addr}{h':Heap}{tk:Nat}(g:Go P G h₀ Z s Zr sb)(S:St P G h₀ Z s.heap)(hd:s.heap.get? d=none)(n:¬bv Zr d)(hs:∀ b x,b≠d→sb.heap.get? b=some x→h'.get? b=some x)(nfz:∀ o,sb.heap.get? d=some o→¬cw o) :
  Go P G h₀ Z s Zr { sb with heap:=h',toks:=tk }:=by
 have hz:h₀.get? d=none:=by
  induction q:h₀.get? d using Option.casesOn with
  |none=>rfl
  |some x=>rw[S.base d x q] at hd;exact sn hd
 refine o2x1 g.eq fun h1 t1 e1=>?_
 exact⟨⟨h',tk,by(refine af e1 ?_;with_reducible rfl)⟩,g.st.touch n hz nfz hs,⟨fun b x e no=>hs b x (fun q=>by subst q;rw[hd] at e;exact ns e) (g.eff.keep b x e no),g.eff.own⟩⟩
end
noncomputable def dd(env:PySem.Env):List (Str×NameKind)→List (Str×Addr)→List (Str×Addr)
 |[],acc=>acc
 |(n,k)::rest,acc=>if k == .free then dd env rest ((n,(env.cells.lookup n).getD 0)::acc) else dd env rest acc
theorem w4(env:PySem.Env)(names:List (Str×NameKind)):∀ (acc:List (Str×Addr)),(∀ x ∈ names,x.2=.free→∃ c,env.cells.lookup x.1=some c)→(∀ x c,acc.lookup x=some c→env.cells.lookup x=some c)→
  (∀ x c,(dd env names acc).lookup x=some c→env.cells.lookup x=some c)∧(∀ x,(acc.lookup x).isSome=true∨(∃ y ∈ names,y.1=x∧y.2=.free)→((dd env names acc).lookup x).isSome=true):=by
 induction names with
 |nil=>exact fun acc za h=>⟨h,fun x q=>q.elim id fun⟨y,hy,_⟩=>nomatch hy⟩
 |cons nk rest ih=>
  obtain⟨n,k⟩:=nk
  intro acc hf h
  unfold dd
  by_cases hk:k=.free
  ·subst hk
   refine aI (hf _ (.head _) rfl) fun c hc=>?_
   refine af (aH (by decide)) ?_
   have hc':env.cells.lookup n=some c:=hc
   refine af hc' ?_
   have:=ih ((n,c)::acc) (fun x hx=>hf x (.tail _ hx)) (fun x c' q=>by
    rw[List.lookup_cons] at q
    induction z:x == n using Bool.casesOn with
    |true=>rw[z] at q;refine bt (aQ q) ?_;refine af (beq_iff_eq.mp z) ?_;exact hc'
    |false=>rw[z] at q;exact h x c' q)
   refine⟨this.1,fun x q=>this.2 x ?_⟩
   refine af List.lookup_cons ?_
   rcases q with q | ⟨y,hy,e,e2⟩
   ·induction z:x == n using Bool.casesOn with
    |true=>exact .inl rfl
    |false=>exact .inl q
   ·rcases List.mem_cons.mp hy with rfl | hy
    ·left;refine bt e ?_;simp
    ·exact .inr ⟨y,hy,e,e2⟩
  ·refine af (aE (by induction k using NameKind.casesOn<;>first | decide | exact absurd rfl hk)) ?_
   have:=ih acc (fun x hx=>hf x (.tail _ hx)) h
   refine⟨this.1,fun x q=>this.2 x ?_⟩
   rcases q with q | ⟨y,hy,e,e2⟩
   ·exact .inl q
   ·rcases List.mem_cons.mp hy with rfl | hy
    ·exact absurd e2 hk
    ·exact .inr ⟨y,hy,e,e2⟩
theorem pC(env:PySem.Env){sc:Scope}(hf:∀ x ∈ sc.names,x.2=.free→∃ c,env.cells.lookup x.1=some c):closureFor sc env=pure (dd env sc.names []):=by
 have key:∀ (names:List (Str×NameKind)) (acc:List (Str×Addr)),(∀ x ∈ names,x.2=.free→∃ c,env.cells.lookup x.1=some c)→
   (forIn names acc fun(x:Str×NameKind) (cs:List (Str×Addr))=>(match x with | (name,kind)=>(if(kind == NameKind.free)=true then do let a ← cellOf env name;pure (ForInStep.yield ((name,a)::cs)) else pure (ForInStep.yield cs):Sem (ForInStep (List (Str×Addr))))))=pure (dd env names acc):=by
  intro names
  induction names with
  |nil=>intro acc _;rfl
  |cons y rest ih=>
   intro acc hf
   obtain⟨n,k⟩:=y
   rw[List.forIn_cons]
   dsimp only
   unfold dd
   by_cases hk:(k == NameKind.free)=true
   ·refine aI (hf (n,k) (.head _) (by induction k using NameKind.casesOn<;>first | rfl | exact ff hk)) fun c hc=>?_
    have hc':env.cells.lookup n=some c:=hc
    (refine af (aH hk) ?_;refine af (aH hk) ?_)
    have e:cellOf env n=pure c:=by delta cellOf;(refine af hc' ?_;with_reducible rfl)
    (refine af e ?_;refine af hc' ?_)
    rw[pure_bind,Option.getD_some]
    exact ih _ fun x hx=>hf x (.tail _ hx)
   ·(refine af (aE hk) ?_;refine af (aE hk) ?_)
    rw[pure_bind]
    exact ih _ fun x hx=>hf x (.tail _ hx)
 delta closureFor
 have:=key sc.names [] hf
 simpa using this
theorem eY{env:PySem.Env}:∀ {names:List (Str×NameKind)} {x:Str} {k:NameKind},names.lookup x=some k→
  (names.map fun(n,k)=>if(k == NameKind.free && env.scope.kind == .function && env.kindOf n == some .cell) then(n,NameKind.cell) else(n,k)).lookup x=some k∨(k=.free∧(names.map fun(n,k)=>if(k == NameKind.free && env.scope.kind == .function && env.kindOf n == some .cell) then(n,NameKind.cell) else(n,k)).lookup x=some .cell)
 |[],_,_,h=>by simp at h
 |(n,k')::r,x,k,h=>by
  have ih:=@eY env r x k
  rw[List.lookup_cons] at h
  refine af List.map_cons ?_
  induction hx:x == n using Bool.casesOn with
  |true=>
   rw[hx] at h
   refine bt (aQ h) ?_
   dsimp only
   by_cases hc:(k' == NameKind.free && env.scope.kind == .function && env.kindOf n == some .cell)=true
   ·(refine af (aH hc) ?_;refine af List.lookup_cons ?_;refine af hx ?_)
    simp only[Bool.and_eq_true,beq_iff_eq] at hc
    exact .inr ⟨hc.1.1,rfl⟩
   ·(refine af (aE hc) ?_;refine af List.lookup_cons ?_;refine af hx ?_);exact .inl rfl
  |false=>
   rw[hx] at h
   have ih:=ih h
   dsimp only
   by_cases hc:(k' == NameKind.free && env.scope.kind == .function && env.kindOf n == some .cell)=true
   ·(refine af (aH hc) ?_;refine af List.lookup_cons ?_;refine af hx ?_);exact ih
   ·(refine af (aE hc) ?_;refine af List.lookup_cons ?_;refine af hx ?_);exact ih
section
variable {prog:Program} {w:World} {A:Around} {E:Value→Shared→Prop} {R:Result→Shared→Prop} {s:Shared}
theorem rS{elt target iter:Expr}{ifs:List Expr}{scope:Scope}{pos:Pos}{it acc:Value}{env:PySem.Env}(I:Nat→Shared→Prop)
  (turn:∀ n s,I n s→wpAny (model prog w) A (pyNext it) (fun r sa=>match r with
   |none=>R (.ok .next) sa
   |some v=>wpAny (model prog w) A (letOwnedTupleGo target it v) (fun za sa=>wpAny (model prog w) A (assign target env v) (fun za sb=>
     wpAny (model prog w) A (forIn ifs true fun c r=>if r=true then do let ok ← isTrue c env (eval c env);pure (ForInStep.yield ok) else pure (ForInStep.yield r)) (fun ok se=>
      if ok=true then wpAny (model prog w) A (eval elt env) (fun x s4=>
       wpAny (model prog w) A (call (.builtin "list.append") [acc,x]) (fun za s5=>∃ m,m<n∧I m s5) (notedBy (model prog w) A env fun e s'=>R (.error e) s') s4) (notedBy (model prog w) A env fun e s'=>R (.error e) s') se
      else ∃ m,m<n∧I m se) (notedBy (model prog w) A env fun e s'=>R (.error e) s') sb) (notedBy (model prog w) A env fun e s'=>R (.error e) s') sa) (notedBy (model prog w) A env fun e s'=>R (.error e) s') sa) (notedBy (model prog w) A env fun e s'=>R (.error e) s') s)
  (n:Nat) (h:I n s):codeAny (model prog w) A (.compLoop (.ListComp elt [⟨target,iter,ifs,0⟩] scope pos) 0 it acc env) R s:=by
 refine codeAny_loop rfl I (fun n s hI=>?_) n h
 show wpAny _ A ((compTurn (.ListComp elt [⟨target,iter,ifs,0⟩] scope pos) 0 it acc env).onRaise (fun x=>do noteFrame x env;theTreesLotGoes x)) _ _ s
 refine wpAny_noted ?_
 rw[compTurn_list]
 refine wpAny_bind (wpAny_standAt (wpAny_bind (wpAny_mono (turn n s hI) (fun r sa h₁=>?_) fun za za e=>e)))
 induction r using Option.casesOn with
 |none=>exact wpAny_pure h₁
 |some v=>
  refine wpAny_bind (wpAny_mono h₁ (fun za sb h₂=>wpAny_bind (wpAny_mono h₂ (fun za se h₃=>wpAny_bind (wpAny_mono h₃ (fun ok s4 h₄=>?_) fun za za e=>e)) fun za za e=>e)) fun za za e=>e)
  induction ok using Bool.casesOn with
  |false=>exact wpAny_pure ⟨rfl,h₄⟩
  |true=>exact wpAny_bind (wpAny_bind (wpAny_mono h₄ (fun x s5 h₅=>wpAny_bind (wpAny_mono h₅ (fun za s6 h₆=>wpAny_pure (wpAny_pure ⟨rfl,h₆⟩)) fun za za e=>e)) fun za za e=>e))
theorem rE{I:Addr}{i:Nat}{v:Value}{y:V}{Q:Value→Shared→Prop}(it:fL s.heap I i v y)(h:Q (.ref I) s):wpAny (model prog w) A (pyIter (.ref I)) Q E s:=by
 induction it using fL.casesOn with
 |list it=>exact wpAny_pyIter_listiter it h
 |tup it=>exact wpAny_pyIter_tupleiter it h
 |rng it=>exact wpAny_pyIter_rangeiter it h
end
section
variable {prog:Program} {w:World} {A:Around} {K:Frag} {G:GT} {h₀:Heap} {C:aO} {env:PySem.Env} {r:Str→cQ}
theorem mV:∀ {es:List Expr} {cs:List E} {U:Env} {Z:H} {s:Shared} {Q:Bool→H→Prop} {X:Value→Shared→Prop},eh prog w G h₀ C A env r es cs→bF G env r U Z s.heap→St w.params G h₀ Z s.heap→lB C cs U Q Z→
  wpAny (model prog w) A (forIn es true fun c r=>if r=true then do let ok ← isTrue c env (eval c env);pure (ForInStep.yield ok) else pure (ForInStep.yield r)) (kH w.params G h₀ Z s Q) X s
 |[],[],U,Z,s,Q,X,_,e,S,h=>by
  dsimp only [lB] at h
  exact wpAny_tests_nil ⟨Z,h,Go.refl S⟩
 |e::es,c::cs,U,Z,s,Q,X,⟨he,_,hr⟩,en,S,h=>by
  (rewrite[lB] at h;rw[dx] at h)
  (rewrite[List.forIn_cons];refine af (aH rfl) ?_)
  refine wpAny_bind (wpAny_bind (eI (he.2 U Z s _ X en S h) fun b Zq sa h1 g1=>wpAny_pure ?_))
  induction b using Bool.casesOn with
  |true=>exact iq g1 (mV hr (en.go S g1) g1.st (h1.1 rfl))
  |false=>
   have off:∀ (l:List Expr) (s:Shared) (Q:Bool→Shared→Prop),Q false s→wpAny (model prog w) A (forIn l false fun c r=>if r=true then do let ok ← isTrue c env (eval c env);pure (ForInStep.yield ok) else pure (ForInStep.yield r)) Q X s:=by
    intro l
    induction l with
    |nil=>intro s Q h;exact wpAny_pure h
    |cons a l ih=>
     intro s Q h
     (rewrite[List.forIn_cons];refine af (aE Bool.false_ne_true) ?_)
     exact wpAny_bind (wpAny_pure (ih s Q h))
   exact off es sa _ ⟨Zq,h1.2 rfl,g1⟩
 |[],_::_,_,_,_,_,_,h,_,_,_=>h.elim
 |_::_,[],_,_,_,_,_,h,_,_,_=>h.elim
end
theorem oc(env:PySem.Env):∀ (names:List (Str×NameKind)) (acc:List (Str×Addr)),(∀ x ∈ names,x.2=.free→∃ c,env.cells.lookup x.1=some c)→∀ n b,(n,b) ∈ dd env names acc→(n,b) ∈ acc∨env.cells.lookup n=some b
 |[],acc,_,n,b,h=>.inl h
 |(x,k)::rest,acc,hf,n,b,h=>by
  unfold dd at h
  by_cases hk:k=.free
  ·subst hk
   obtain⟨c,hc⟩:=hf _ (.head _) rfl
   have hc':env.cells.lookup x=some c:=hc
   (rewrite[aH (by decide)] at h;rw[hc'] at h)
   refine Or.elim (oc env rest _ (fun x hx=>hf x (.tail _ hx)) n b h) (fun q=>?_) (fun q=>?_)
   ·refine Or.elim (List.mem_cons.mp q) (fun q=>?_) (fun q=>?_)
    ·cases q;exact .inr hc'
    ·exact .inl q
   ·exact .inr q
  ·rw[aE (by induction k using NameKind.casesOn<;>first | decide | exact absurd rfl hk)] at h
   exact oc env rest acc (fun x hx=>hf x (.tail _ hx)) n b h
theorem yN{α:Type}{names:List (Str×α)}{x:Str}{k:α}(h:names.lookup x=some k):(x,k) ∈ names:=mem_of_lookup h
structure lu (env:PySem.Env) (sc:Scope) (r:Str→cQ):Prop where
 kind:sc.kind=.function
 nocell:∀ x ∈ sc.names,x.2≠.cell
 once:∀ x ∈ sc.names,x.2=.local→sc.names.lookup x.1=some .local
 free:∀ x ∈ sc.names,x.2=.free→env.kindOf x.1=some .cell∧∃ c,env.cells.lookup x.1=some c
 low:∀ x j,r x=.loc j→j<100
section
variable {G:GT} {env:PySem.Env} {sc:Scope} {r:Str→cQ} {U U':Env} {Z:H} {h:Heap} {Cc:Addr} {m':Str→Option Value}
theorem j9(B:lu env sc r)(e:bF G env r U Z h)(hn:h.Ns Cc m')(ho:¬bv Z Cc)
  (hl:∀ j v,j<100→U' j=some v→U j=some v) (hm:∀ y j v,sc.names.lookup y=some .local→cR (aY sc) r y=.loc j→U' j=some v→∃ val,m' y=some val∧bh G h val v) :
  bF G (compEnvC sc (dd env sc.names []) Cc env) (cR (aY sc) r) U' Z h:=by
 refine o2x1 e fun m cm a=>?_;clear e
 have hcl:=w4 env sc.names [] (fun x hx hf=>(B.free x hx hf).2) (fun x c q=>by simp at q)
 refine⟨m',cm,B.kind,a.glb,hn,fun x c hc=>a.cell x c (hcl.1 x c hc),fun b f=>?_,fun x i v h1 h2=>?_,fun x v hx=>?_⟩
 ·rcases f with f | ⟨n,f⟩
  ·refine cP fun PP kk=>?_
   have:b=Cc:=f
   subst this
   refine o3x3 hn fun o es ep e1 e2 za=>?_;clear hn
   refine kk ?_
   refine⟨o,e1,fun z=>?_,ho⟩
   rcases z with⟨_,vs,k,z⟩ | ⟨_,vs,z⟩<;>rw[e2] at z<;>cases z
  ·exact a.own b (.inr ⟨n,hcl.1 n b f⟩)
 ·rcases eW h1 with q | ⟨_,q⟩ | ⟨j,hk,q,_⟩ | ⟨hk,q⟩
  ·cases q
  ·unfold ij at q;split at q<;>cases q
  ·refine o1x2 (hm x i v hk h1 h2) fun val e1 e2=>?_
   refine⟨val,e2,.inl ⟨?_,e1⟩⟩
   exact lookup_relabel_local hk
  ·refine cP fun PP kk=>?_
   have hlow:=B.low x i q.symm
   obtain⟨hc,c,hlc⟩:=B.free _ (yN hk) rfl
   refine o1x2 (a.loc x i v q.symm (hl i v hlow h2)) fun val rv z=>?_
   refine kk ?_
   refine⟨val,rv,.inr ⟨?_,?_⟩⟩
   ·rcases eY (env:=env) hk with w | ⟨_,w⟩
    ·exact .inr w
    ·exact .inl w
   ·rcases z with⟨z,_⟩ | ⟨_,z,_⟩
    ·rw[hc] at z;cases z
    ·exact⟨z,Option.isSome_iff_exists.mp (hcl.2 x (.inr ⟨_,yN hk,rfl,rfl⟩))⟩
 ·rcases eW hx with q | ⟨hk,q⟩ | ⟨j,_,q,_⟩ | ⟨hk,q⟩
  ·cases q
  ·refine⟨?_,q.symm⟩
   rcases eY (env:=env) hk with w | ⟨w,_⟩
   ·exact w
   ·cases w
  ·cases q
  ·obtain⟨hc,c,hlc⟩:=B.free _ (yN hk) rfl
   refine o0x2 (a.gl x v q.symm) fun k za=>?_
   rw[hc] at k;cases k
end
noncomputable def yJ(f:Str→Bool):Expr→Bool
 |.Name x _=>f x
 |_=>false
theorem qo{f:Str→Bool}{e:Expr}(h:yJ f e=true):∃ x p,e=.Name x p∧f x=true:=by
 revert h
 induction e using Expr.casesOn with
 |Name x p=>exact fun h=>⟨x,p,rfl,h⟩
 |_=>exact ff
noncomputable def two(f:Expr→Bool):List Expr→Bool
 |[a,b]=>f a && f b
 |_=>false
theorem mT{f:Str→Bool}{l:List Expr}(h:two (yJ f) l=true):∃ x p y q,l=[.Name x p,.Name y q]∧f x=true∧f y=true:=by
 match l,h with
 |[a,b],h=>
  have h:=dj (a:=yJ f a) (b:=yJ f b) h
  refine o2x2 (qo h.1) fun x p e2 hx=>?_;refine af e2 ?_
  refine o2x2 (qo h.2) fun y q e2 hy=>?_;refine af e2 ?_
  exact⟨x,p,y,q,rfl,hx,hy⟩
 |[],h=>exact ff h
 |[_],h=>exact ff h
 |_::_::_::_,h=>exact ff h
noncomputable def nv(sc:Scope):Expr→Bool
 |.Tuple l _ _=>two (yJ fun x=>sc.names.lookup x == some .local && fZ x != 0) l
 |e=>yJ (fun x=>sc.names.lookup x == some .local && fZ x != 0) e
inductive xp (sc:Scope):Expr→Prop
 |name (x:Str) (p:Pos):sc.names.lookup x=some .local→xp sc (.Name x p)
 |two (x:Str) (p:Pos) (y:Str) (q:Pos) (k:Nat) (pp:Pos):sc.names.lookup x=some .local→sc.names.lookup y=some .local→xp sc (.Tuple [.Name x p,.Name y q] k pp)
theorem ti{sc:Scope}{t:Expr}(h:nv sc t=true):xp sc t:=by
 revert h
 induction t using Expr.casesOn with
 |Name x p=>exact fun h=>.name x p (eq_of_beq (dj (a:=sc.names.lookup x == some .local) h).1)
 |Tuple l k pp=>
  intro h
  refine o4x2 (mT (f:=fun x=>sc.names.lookup x == some .local && fZ x != 0) h) fun x p y q e4 q9=>?_;refine af e4 ?_;refine o0x2 q9 fun hx hy=>?_;clear q9
  exact .two _ _ _ _ _ _ (eq_of_beq (dj hx).1) (eq_of_beq (dj hy).1)
 |_=>exact ff
section
variable {prog:Program} {w:World} {A:Around} {K:Frag} {G:GT} {h₀:Heap} {C:aO} {env:PySem.Env} {r:Str→cQ} {sc:Scope}
theorem iH{sc:Scope}{r:Str→cQ}{x y:Str}{i:Nat}(hx:sc.names.lookup x=some .local)(hy:sc.names.lookup y=some .local)(ex:cR (aY sc) r x=.loc i)(ey:cR (aY sc) r y=.loc i):x=y:=by
 rcases eW ex with q | ⟨h,_⟩ | ⟨j,_,q,p,hp,hpx⟩ | ⟨h,_⟩
 ·cases q
 ·rw[hx] at h;cases h
 ·rcases eW ey with q' | ⟨h,_⟩ | ⟨j',_,q',p',hp',hpy⟩ | ⟨h,_⟩
  ·cases q'
  ·rw[hy] at h;cases h
  ·have:j=j':=by
    have e1:i=100+j:=cQ.loc.inj q
    have e2:i=100+j':=cQ.loc.inj q'
    lia
   subst this
   rw[hp] at hp';obtain rfl:=aQ hp'
   (refine bt hpx ?_;(refine bt hpy ?_;with_reducible rfl))
  ·rw[hy] at h;cases h
 ·rw[hx] at h;cases h
theorem e9{sc:Scope}{r:Str→cQ}{x:Str}{i:Nat}(hx:sc.names.lookup x=some .local)(ex:cR (aY sc) r x=.loc i):100≤i:=by
 rcases eW ex with q | ⟨h,_⟩ | ⟨j,_,q,_⟩ | ⟨h,_⟩
 ·cases q
 ·rw[hx] at h;cases h
 ·have:=cQ.loc.inj q;lia
 ·rw[hx] at h;cases h
theorem gC{U:Env}{j:Nat}{v:V}(h:U.outer j=some v):j<100∧U j=some v:=by
 unfold Env.outer at h
 split at h
 ·exact⟨by assumption,h⟩
 ·exact ns h
theorem uu{r:Str→cQ}{n:Str}{p:Pos}(h:∀ i,r n≠.loc i):jv r (.Name n p)=[]:=by
 show(match r n with | .loc i=>[i] | _=>[])=_
 induction e:r n using cQ.casesOn with
 |loc i=>exact absurd e (h i)
 |_=>rfl
theorem mB{r:Str→cQ}{n:Str}{p:Pos}{i:Nat}(h:r n=.loc i):jv r (.Name n p)=[i]:=by
 show(match r n with | .loc i=>[i] | _=>[])=_
 (refine af h ?_;with_reducible rfl)
theorem mA{r:Str→cQ}{n m:Str}{p q pp:Pos}{k i j:Nat}(h:r n=.loc i)(h':r m=.loc j):jv r (.Tuple [.Name n p,.Name m q] k pp)=[i,j]:=by
 show(match r n,r m with | .loc i,.loc j=>[i,j] | _,_=>[])=_
 (refine af h ?_;(refine af h' ?_;with_reducible rfl))
theorem kg{r:Str→cQ}{n m:Str}{p q pp:Pos}{k:Nat}(h:∀ i j,r n=.loc i→r m=.loc j→False):jv r (.Tuple [.Name n p,.Name m q] k pp)=[]:=by
 show(match r n,r m with | .loc i,.loc j=>[i,j] | _,_=>[])=_
 induction e:r n using cQ.casesOn with
 |loc i=>cases e':r m with
  |loc j=>exact(h i j e e').elim
  |_=>rfl
 |_=>rfl
theorem jr(o:cQ):(∃ i,o=.loc i)∨∀ i,o≠.loc i:=by
 induction o using cQ.casesOn with
 |loc i=>exact .inl ⟨i,rfl⟩
 |_=>exact .inr fun i h=>nomatch h
theorem qd(o u:cQ):(∃ i j,o=.loc i∧u=.loc j)∨∀ i j,o=.loc i→u=.loc j→False:=by
 rcases jr o with⟨i,h⟩ | h
 ·rcases jr u with⟨j,k⟩ | k
  ·exact .inl ⟨i,j,h,k⟩
  ·exact .inr fun za j za e=>k j e
 ·exact .inr fun i za e za=>h i e
theorem lh{i j:Nat}{x:V}{U U':Env}(h:cN [i,j] x U=some U'):∃ a b,x=.tup [a,b]∧U'=(U.set i a).set j b:=by
 revert h
 induction x using V.casesOn with
 |tup l=>induction l using List.casesOn with
  |nil=>exact ns
  |cons a l=>induction l using List.casesOn with
   |nil=>exact ns
   |cons b l=>induction l using List.casesOn with
    |nil=>exact fun h=>⟨a,b,rfl,(aQ h).symm⟩
    |cons=>exact ns
 |_=>exact ns
theorem lg{r:Str→cQ}{n:Str}{p:Pos}{x:V}{U U':Env}(h:cN (jv r (.Name n p)) x U=some U'):∃ i,r n=.loc i∧U'=U.set i x:=by
 rcases jr (r n) with⟨i,e⟩ | e
 ·rw[mB e] at h;refine bt (aQ h) ?_;exact⟨i,e,rfl⟩
 ·rw[uu e] at h;exact ns h
theorem oo{r:Str→cQ}{n n2:Str}{p p2 pp:Pos}{kk:Nat}{x:V}{U U':Env}(h:cN (jv r (.Tuple [.Name n p,.Name n2 p2] kk pp)) x U=some U'):∃ i j a b,r n=.loc i∧r n2=.loc j∧x=.tup [a,b]∧U'=(U.set i a).set j b:=by
 rcases qd (r n) (r n2) with⟨i,j,e,e'⟩ | e
 ·rw[mA e e'] at h
  refine o2x1 (lh h) fun a b q=>?_
  exact⟨i,j,a,b,e,e',q⟩
 ·rw[kg e] at h;exact ns h
theorem ow(hh:A.handled=none){t:Expr}{Cc:Addr}{m:Str→Option Value}{U U':Env}{Z:H}{s:Shared}{v:Value}{x:V}{X:Value→Shared→Prop}{Q:Unit→Shared→Prop}(B:lu env sc r)(ht:nv sc t=true)(e:bF G env r U Z s.heap)(S:St w.params G h₀ Z s.heap)
  (hn:s.heap.Ns Cc m) (ho:¬bv Z Cc) (hcf:∀ b,Fr env b→b≠Cc) (rv:bh G s.heap v x) (hb:cN (jv (cR (aY sc) r) t) x U.outer=some U')
  (h:∀ h' tk,(∀ b o,b≠Cc→s.heap.get? b=some o→h'.get? b=some o)→(∃ m',h'.Ns Cc m')→bF G (compEnvC sc (dd env sc.names []) Cc env) (cR (aY sc) r) U' Z h'→Q () { s with heap:=h',toks:=tk }) :
  wpAny (model prog w) A (assign t (compEnvC sc (dd env sc.names []) Cc env) v) Q X s:=by
 have hnk:((compEnvC sc (dd env sc.names []) Cc env).scope.kind == .class || ((compEnvC sc (dd env sc.names []) Cc env).scope.kind == .module && (compEnvC sc (dd env sc.names []) Cc env).locals != (compEnvC sc (dd env sc.names []) Cc env).globals))=false:=by
  have:(compEnvC sc (dd env sc.names []) Cc env).scope.kind=.function:=B.kind
  refine af this ?_;rfl
 have outer:∀ h',(∀ b o,b≠Cc→s.heap.get? b=some o→h'.get? b=some o)→bF G env r U Z h'∧b8 s.heap h':=fun h' k=>by
  have st:b8 s.heap h':=fun b o eb c=>k b o (fun q=>by
   subst q
   refine o3x3 hn fun o' es ep e1 e2 za=>?_;clear hn
   rw[e1] at eb;obtain rfl:=aQ eb
   rcases c with⟨_,vs,kk,z⟩ | ⟨_,vs,z⟩<;>rw[e2] at z<;>cases z) eb
  refine o2x1 e fun m cm a=>?_;clear e
  refine⟨⟨m,cm,a.kind,a.glb,a.ns.at' fun o eo=>k _ o (hcf _ (.inl rfl)) eo,fun x c hc=>?_,fun b f=>?_,fun x i v h1 h2=>?_,a.gl⟩,st⟩
  ·refine o1x2 (a.cell x c hc) fun o e1 e2=>?_
   exact⟨o,k _ _ (hcf _ (.inr ⟨x,hc⟩)) e1,e2⟩
  ·refine cP fun PP kk=>?_
   refine o1x3 (a.own b f) fun o e1 e2 e3=>?_
   refine kk ?_
   exact⟨o,k _ _ (hcf b f) e1,e2,e3⟩
  ·refine o1x2 (a.loc x i v h1 h2) fun val r1 r2=>?_
   exact⟨val,r1.stays st,r2⟩
 induction ti ht using xp.casesOn with
 |name n p hnl=>
  refine o1x2 (lg hb) fun i hi e2=>?_;obtain rfl:=e2
  refine wpAny_assign_Name (wpAny_storeName_local (lookup_relabel_local hnl) hn (fun h' hn' hs=>?_) hnk)
  have k:∀ b o,b≠Cc→s.heap.get? b=some o→h'.get? b=some o:=fun b o hb eo=>hs.extBut b o hb eo
  refine o0x2 (outer h' k) fun e' st=>?_
  refine h h' _ k ⟨_,hn'⟩ (j9 B e' hn' ho ?_ ?_)
  ·intro j u hj hu
   have:=e9 hnl hi
   unfold Env.set at hu
   rw[aE (by lia)] at hu
   exact(gC hu).2
  ·intro y j u hy ey hu
   unfold Env.set at hu
   by_cases q:j=i
   ·subst q
    have:n=y:=iH hnl hy hi ey
    refine af this ?_
    rw[aH rfl] at hu;refine bt (aQ hu) ?_
    exact⟨v,by simp,rv.stays st⟩
   ·rw[aE q] at hu
    have:=e9 hy ey
    have:=(gC hu).1
    lia
 |two n p n2 p2 kk pp hn1 hn2=>
  refine o4x4 (oo hb) fun i j a b hi hj e6 q9=>?_;obtain rfl:=e6;obtain rfl:=q9
  refine o3x2 rv.tup_inv fun ta us nn e3 q9=>?_;refine af e3 ?_;refine o0x3 q9 fun e1 r1 z=>?_;clear q9
  obtain⟨us⟩:=us
  have r1':bx G s.heap us [a,b]:=r1
  refine o2x2 (hH r1') fun va vb e2 q9=>?_;obtain rfl:=e2;refine o0x2 q9 fun ra rb=>?_;clear q9
  refine wpAny_assign_Tuple hh ⟨_,e1,rfl,nn,rfl⟩ rfl rfl fun h1 hx1=>?_
  show wpAny _ _ (do holding [vb] (assign (.Name n p) _ va);(do holding [] (assign (.Name n2 p2) _ vb);pure ())) _ _ _
  have k1:∀ b o,s.heap.get? b=some o→h1.get? b=some o:=fun b o eo=>hx1 b o (Nat.ne_of_lt (Heap.lt_size eo)) eo
  refine wpAny_bind (wpAny_holding (wpAny_assign_Name (wpAny_storeName_local (lookup_relabel_local hn1) (hn.keeps k1) (fun h2 hn2' hs2=>?_) hnk)))
  refine wpAny_bind (wpAny_holding (wpAny_assign_Name (wpAny_storeName_local (lookup_relabel_local hn2) hn2' (fun h3 hn3 hs3=>wpAny_pure ?_) hnk)))
  have k:∀ b o,b≠Cc→s.heap.get? b=some o→h3.get? b=some o:=fun b o hb eo=>hs3.extBut b o hb (hs2.extBut b o hb (k1 b o eo))
  refine o0x2 (outer h3 k) fun e' st=>?_
  refine h h3 _ k ⟨_,hn3⟩ (j9 B e' hn3 ho ?_ ?_)
  ·intro q u hq hu
   have h1:=e9 hn1 hi
   have h2:=e9 hn2 hj
   unfold Env.set at hu
   (rewrite[aE (by lia)] at hu;rw[aE (by lia)] at hu)
   exact(gC hu).2
  ·intro y q u hy ey hu
   unfold Env.set at hu
   by_cases c2:q=j
   ·subst c2
    have:n2=y:=iH hn2 hy hj ey
    refine af this ?_
    rw[aH rfl] at hu;refine bt (aQ hu) ?_
    exact⟨vb,by simp,rb.stays st⟩
   ·rw[aE c2] at hu
    by_cases c1:q=i
    ·subst c1
     have:n=y:=iH hn1 hy hi ey
     refine bt this ?_
     rw[aH rfl] at hu;obtain rfl:=aQ hu
     have:n≠n2:=fun z=>c2 (by
      subst z
      rw[hi] at hj;exact cQ.loc.inj hj)
     exact⟨va,by refine ak (aE this) ?_;simp,ra.stays st⟩
    ·rw[aE c1] at hu
     have:=e9 hy ey
     have:=(gC hu).1
     lia
end
structure CJ (P:Params) (G:GT) (h₀:Heap) (Z:H) (s:Shared) (I D Cc:Addr) (iv:Value) (y:V) (xs:List V) (k:Nat) (acc:List V) (Z':H) (s':Shared):Prop where
 go:Go P G h₀ Z s Z' s'
 it:fL s'.heap I k iv y
 rv:bh G s'.heap iv y
 live:bq Z' y=some xs
 list:∃ kG nn,s'.heap.get? D=some { cls:=.type "list",data:=.seq kG nn }∧bx G s'.heap kG.toList acc
 ns:∃ m,s'.heap.Ns Cc m
 nI:¬bv Z' I
 nD:¬bv Z' D
 nC:¬bv Z' Cc
 len:acc.length≤k
section
variable {P:Params} {G:GT} {h₀:Heap} {Z:H} {s:Shared} {I D Cc:Addr} {iv:Value} {y:V} {xs:List V} {k:Nat} {acc:List V} {Z' Z'':H} {s' s'':Shared}
theorem CJ.step(J:CJ P G h₀ Z s I D Cc iv y xs k acc Z' s')(g:Go P G h₀ Z' s' Z'' s'')(l:bq Z'' y=some xs):CJ P G h₀ Z s I D Cc iv y xs k acc Z'' s'':=by
 refine o1x2 J.it.obj fun oI hI za=>?_
 refine o2x2 J.list fun kG nn hD rl=>?_
 refine o4x2 J.ns fun m oC es ep hC hr=>?_
 exact⟨J.go.trans g,J.it.same fun o eo=>g.eff.keep _ _ eo J.nI,g.rep J.go.st J.rv,l,⟨kG,nn,g.eff.keep _ _ hD J.nD,rl.stays (g.stays J.go.st)⟩,⟨m,oC,es,ep,g.eff.keep _ _ hC J.nC,hr⟩,
  g.eff.notOwned hI J.nI,g.eff.notOwned hD J.nD,g.eff.notOwned hC J.nC,J.len⟩
theorem jc{h:Heap}{a:Addr}{m:Str→Option Value}(hn:h.Ns a m):∀ o,h.get? a=some o→¬cw o:=fun o eo z=>by
 refine o3x3 hn fun o' es ep e1 e2 za=>?_;clear hn
 rw[e1] at eo;obtain rfl:=aQ eo
 rcases z with⟨_,vs,kk,z⟩ | ⟨_,vs,z⟩<;>rw[e2] at z<;>cases z
end
section
variable {prog:Program} {w:World} {A:Around} {K:Frag} {G:GT} {h₀:Heap} {C:aO} {env:PySem.Env} {r:Str→cQ} {sc:Scope}
theorem rT{elt t iter:Expr}{ifs:List Expr}{ce:E}{cifs:List E}{pos:Pos}{U:Env}{Z:H}{s:Shared}{I D Cc:Addr}{iv:Value}{y:V}{xs:List V}{Kp:List V→H→Prop}{R:Result→Shared→Prop}
  (hh:A.handled=none) (B:lu env sc r) (ht:nv sc t=true) (S:St w.params G h₀ Z s.heap) (en:bF G env r U Z s.heap)
  (he:dZ prog w G h₀ C A (compEnvC sc (dd env sc.names []) Cc env) (cR (aY sc) r) elt ce) (hi:eh prog w G h₀ C A (compEnvC sc (dd env sc.names []) Cc env) (cR (aY sc) r) ifs cifs)
  (hI:s.heap.get? I=none) (hD:s.heap.get? D=none) (hC:s.heap.get? Cc=none) (hID:I≠D) (hIC:I≠Cc) (hDC:D≠Cc) (hz:xs.length≤bM)
  (fin:∀ out Z' s',CJ w.params G h₀ Z s I D Cc iv y xs xs.length out Z' s'→Kp out Z'→∀ h',Heap.ExtBut I s'.heap h'→R (.ok .next) { s' with heap:=h' })
  (k:Nat) (acc:List V) (Zq:H) (sa:Shared) (J:CJ w.params G h₀ Z s I D Cc iv y xs k acc Zq sa) (hk:k≤xs.length)
  (h:im (fun Z'=>bq Z' y=some xs) (fun x=>cN (jv (cR (aY sc) r) t) x U.outer) (fun U' K Z'=>lB C cifs U' K Z') (fun U' K Z'=>df C ce U' K Z') (xs.drop k) acc Kp Zq) :
  codeAny (model prog w) A (.compLoop (.ListComp elt [⟨t,iter,ifs,0⟩] sc pos) 0 (.ref I) (.ref D) (compEnvC sc (dd env sc.names []) Cc env)) R sa:=by
 have hfr:∀ b,Fr env b→b≠Cc:=fun b f q=>by
  refine o2x1 en fun m cm a=>?_;clear en
  refine o1x2 (a.own b f) fun o ho za=>?_
  (rewrite[q] at ho;rw[hC] at ho);exact ns ho
 refine rS (fun n s'=>∃ k acc Z',n=xs.length+1 - k∧k≤xs.length∧CJ w.params G h₀ Z s I D Cc iv y xs k acc Z' s'∧
  im (fun Z'=>bq Z' y=some xs) (fun x=>cN (jv (cR (aY sc) r) t) x U.outer) (fun U' K Z'=>lB C cifs U' K Z') (fun U' K Z'=>df C ce U' K Z') (xs.drop k) acc Kp Z') ?_ _ ⟨k,acc,Zq,rfl,hk,J,h⟩
 clear h J hk sa Zq acc k
 intro n s' p0;refine o3x2 p0 fun k acc Z' e3 q9=>?_;clear p0;refine af e3 ?_;refine o0x3 q9 fun hk J h=>?_;clear q9
 rcases Nat.lt_or_ge k xs.length with hlt | hge
 ·have hx:xs[k]? = some xs[k]:=List.getElem?_eq_getElem hlt
  (rewrite[List.drop_eq_getElem_cons hlt] at h;rw[im] at h)
  refine o1x2 h fun U' hb h=>?_
  refine kS J.go.st J.rv J.live J.it hx fun u h1 tk1 ru it1 hs1=>?_
  refine o1x3 J.it.obj fun oI hoI nfI za=>?_
  have g1:Go w.params G h₀ Z s Z' { s' with heap:=h1,toks:=tk1 }:=J.go.touch S hI J.nI (fun b x hb hx=>hs1.extBut b x hb hx) (fun o eo=>by rw[hoI] at eo;refine bt (aQ eo) ?_;exact nfI)
  have st1:b8 s'.heap h1:=fun b o eo c=>hs1.extBut b o (fun q=>by subst q;rw[hoI] at eo;obtain rfl:=aQ eo;exact nfI c) eo
  refine o2x2 J.list fun kG nn hDo rl=>?_
  refine aI J.ns fun mC hCn=>?_
  refine jd (s:={ s' with heap:=h1,toks:=tk1 }) it1 ?_
  have hCn1:h1.Ns Cc mC:=hCn.at' fun o eo=>hs1.extBut _ _ (Ne.symm hIC) eo
  have en1:bF G env r U Z' h1:=bF.go (s':={ s' with heap:=h1,toks:=tk1 }) en S g1
  refine ow (s:={ s' with heap:=h1,toks:=tk1 }) hh B ht en1 g1.st hCn1 J.nC hfr (ru.stays st1) hb fun h2 tk2 k2 hns2 en2=>?_
  have g2:Go w.params G h₀ Z s Z' { s' with heap:=h2,toks:=tk2 }:=g1.touch S hC J.nC (fun b x hb hx=>k2 b x hb hx) (jc hCn1)
  have st2:b8 h1 h2:=fun b o eo c=>k2 b o (fun q=>by subst q;exact jc hCn1 o eo c) eo
  have J2:CJ w.params G h₀ Z s I D Cc iv y xs (k+1) acc Z' { s' with heap:=h2,toks:=tk2 }:=
   ⟨g2,it1.same fun o eo=>k2 _ _ hIC eo,(J.rv.stays st1).stays st2,J.live,⟨kG,nn,k2 _ _ hDC (hs1.extBut _ _ (Ne.symm hID) hDo),(rl.stays st1).stays st2⟩,hns2,J.nI,J.nD,J.nC,by have:=J.len;lia⟩
  refine eI (mV hi en2 g2.st h) fun ok Za se h3 g3=>?_
  induction ok using Bool.casesOn with
  |false=>
   refine af (aE Bool.false_ne_true) ?_
   refine o0x2 (h3.2 rfl) fun hl h3=>?_
   exact⟨_,by lia,k+1,acc,Za,rfl,hlt,J2.step g3 hl,h3⟩
  |true=>
   refine af (aH rfl) ?_
   have h3:=h3.1 rfl
   refine ba (α:=Unit) (he U' Za se _ _ (en2.go g2.st g3) g3.st h3) fun x4 v4 Zb s4 h4 rv4 g4=>?_
   refine o0x2 h4 fun hl h4=>?_
   have J4:=J2.step (g3.trans g4) hl
   refine o2x2 J4.list fun arr4 nn4 hD4 rl4=>?_
   have l4:=rl4.length
   have hsz:arr4.size≤sizeLine:=by
    have:=J4.len
    unfold bM at hz
    refine af sizeLine_eq ?_
    simp at l4
    lia
   refine call_meets slot_list_append ⟨_,hD4,rfl⟩ entry_list_append (args_list_append _ _) (list_append D arr4 nn4 v4 hsz) ⟨hD4,?_⟩
   have hD5:Heap.get? (s4.heap.update D (Obj.mapSeq fun x=>x.push v4)) D=some { cls:=.type "list",data:=.seq (arr4.push v4) (if(arr4.push v4).size == arr4.size then nn4 else nn4+1) }:=Heap.get?_update_self _ hD4 rfl
   have k5:∀ b x,b≠D→s4.heap.get? b=some x→(s4.heap.update D (Obj.mapSeq fun x=>x.push v4)).get? b=some x:=fun b x hb hx=>(Heap.SameBut.update ..).extBut b x hb hx
   have nf5:∀ o,s4.heap.get? D=some o→¬cw o:=fun o eo=>by rw[hD4] at eo;refine bt (aQ eo) ?_;exact nf (by simp) (by simp)
   have st5:b8 s4.heap (s4.heap.update D (Obj.mapSeq fun x=>x.push v4)):=fun b o eo c=>k5 b o (fun q=>by subst q;exact nf5 o eo c) eo
   have g5:Go w.params G h₀ Z s Zb { s4 with heap:=s4.heap.update D (Obj.mapSeq fun x=>x.push v4),toks:=s4.toks }:=J4.go.touch S hD J4.nD k5 nf5
   refine aI J4.ns fun m4 hC4=>?_
   refine⟨_,by lia,k+1,acc++[x4],Zb,rfl,hlt,⟨g5,J4.it.same fun o eo=>k5 _ _ hID eo,J4.rv.stays st5,hl,⟨_,_,hD5,by refine af Array.toList_push ?_;exact(rl4.append (.cons rv4 .nil)).stays st5⟩,
    ⟨m4,hC4.at' fun o eo=>k5 _ _ (Ne.symm hDC) eo⟩,J4.nI,J4.nD,J4.nC,by refine af List.length_append ?_;have:=J.len;simp;lia⟩,h4⟩
 ·have:k=xs.length:=Nat.le_antisymm hk hge
  subst this
  (rewrite[List.drop_length] at h;rw[im] at h)
  exact nJ hh J.go.st J.rv J.live J.it (Nat.le_refl _) fun h' hs=>fin acc Z' s' J h h' hs
theorem kY{env:PySem.Env}{it:Expr}(h:dG it=true)(x:Value):foldedSetIterable it env x=pure x:=by
 revert h
 induction it using Expr.casesOn with
 |Set=>exact ff
 |_=>exact fun _z=>rfl
set_option tactic.hygienic true in
theorem lc{elt t iter:Expr}{ifs:List Expr}{ce cit:E}{cifs:List E}{pos p2:Pos}{use:Option (Value→Sem Unit)}{U:Env}{Z:H}{s:Shared}{Q:aP}{R:Value→Shared→Prop}{X:Value→Shared→Prop}
  (hh:A.handled=none) (B:lu env sc r) (ht:nv sc t=true) (S:St w.params G h₀ Z s.heap) (en:bF G env r U Z s.heap) (hset:dG iter=true)
  (hit:dZ prog w G h₀ C A env r iter cit) (he:∀ Cc,dZ prog w G h₀ C A (compEnvC sc (dd env sc.names []) Cc env) (cR (aY sc) r) elt ce) (hi:∀ Cc,eh prog w G h₀ C A (compEnvC sc (dd env sc.names []) Cc env) (cR (aY sc) r) ifs cifs)
  (h:df C (.comp ce (jv (cR (aY sc) r) t) cit cifs) U Q Z)
  (fin:∀ Zq sa D Cc Z' s' m,Go w.params G h₀ Z s Zq sa→Go w.params G h₀ Zq sa Z' s'→Q (.ref D) Z'→s'.heap.Ns Cc m→sa.heap.get? Cc=none→¬bv Z' Cc→compPost (model prog w) A X use R (.ref D) Cc (.ok .next) s') :
  wpAny (model prog w) A (comprehension (.ListComp elt [⟨t,iter,ifs,0⟩] sc pos) sc env p2 (newList []) false (eval iter env) use) R X s:=by
 have hfs:∀ x,foldedSetIterable iter env x=pure x:=kY hset
 refine wpAny_comprehension_free (g:=⟨t,iter,ifs,0⟩) (gs:=[]) rfl hfs (pC env fun x hx hf=>(B.free x hx hf).2) B.kind B.once ?_
 refine ba (α:=Unit) (hit U Z s _ X en S h) fun y iv Zq sa h1 rv g1=>?_
 obtain⟨xs,hxs,hro,h1⟩:=h1
 have S1:=g1.st
 refine nH S1 rv hxs fun oI hoI it0=>?_
 refine wpAny_newObj_type (wpAny_newFunctionEnv B.nocell (by intro y hy;simp at hy) (fun h₁ hns1 hsb1=>?_) B.kind)
 generalize hH1:sa.heap.push oI=H1 at hns1 hsb1 it0 ⊢
 have hH1':({ sa with heap:=H1 }:Shared).heap.push { cls:=.type "list",dict:=none,data:=.seq ([]:List Value).toArray }=H1.push { cls:=.type "list",dict:=none,data:=.seq #[] }:=rfl
 have k1:∀ b o,sa.heap.get? b=some o→H1.get? b=some o:=fun b o e=>hH1▸Heap.get?_push_of_some _ e
 have z1:H1.objs.size=sa.heap.objs.size+1:=by(refine bt hH1 ?_;rw[Heap.size_push])
 have z2:(H1.push { cls:=.type "list",dict:=none,data:=.seq #[] }).objs.size=sa.heap.objs.size+2:=by(rewrite[Heap.size_push];(refine af z1 ?_;with_reducible rfl))
 have e1:∀ n,sa.heap.get? (sa.heap.objs.size+n)=none:=fun n=>Heap.get?_none_of_le (Nat.le_add_right _ _)
 have hCa:(H1.push { cls:=.type "list",dict:=none,data:=.seq #[] }).objs.size=sa.heap.objs.size+2:=z2
 have hDa:H1.objs.size=sa.heap.objs.size+1:=z1
 have hz:xs.length≤bM:=by
  unfold bq at hxs
  split at hxs
  ·refine bt (aQ hxs) ?_;obtain⟨_,_,_,_,_,_,z⟩:=rv.tup_inv;exact z
  ·rename_i n
   refine bt (aQ hxs) ?_
   have hn:n≤1000:=hro
   (rewrite[List.length_map];refine af List.length_range ?_);unfold bM;lia
  ·split at hxs
   ·rename_i hZ
    refine bt (aQ hxs) ?_
    refine o2x3 (S1.obj _ _ hZ) fun za za za za z=>?_
    exact z
   ·exact ns hxs
  ·exact ns hxs
 have up:∀ b o,b<sa.heap.objs.size+2→(H1.push { cls:=.type "list",dict:=none,data:=.seq #[] }).get? b=some o→h₁.get? b=some o:=fun b o hb e=>hsb1.extBut b o (by refine af hCa ?_;exact Nat.ne_of_lt hb) (Heap.get?_push_of_some _ e)
 have k2:∀ b o,sa.heap.get? b=some o→h₁.get? b=some o:=fun b o e=>up b o (Nat.lt_of_lt_of_le (Heap.lt_size e) (Nat.le_add_right _ _)) (Heap.get?_push_of_some _ (k1 b o e))
 have g2:Go w.params G h₀ Zq sa Zq { sa with heap:=h₁,toks:=sa.toks+([]:List (Str×Value)).length }:=Go.ext S1 k2
 have nI:¬bv Zq sa.heap.objs.size:=S1.fresh (e1 0)
 have nD:¬bv Zq (sa.heap.objs.size+1):=S1.fresh (e1 1)
 have nC:¬bv Zq (sa.heap.objs.size+2):=S1.fresh (e1 2)
 have J0:CJ w.params G h₀ Zq sa sa.heap.objs.size (sa.heap.objs.size+1) (sa.heap.objs.size+2) iv y xs 0 [] Zq { sa with heap:=h₁,toks:=sa.toks+([]:List (Str×Value)).length }:=
  ⟨g2,it0.same fun o eo=>up _ _ (by lia) (Heap.get?_push_of_some _ eo),g2.rep S1 rv,hxs,⟨#[],0,up _ _ (by lia) (by refine bt hDa ?_;exact Heap.get?_push_size _ rfl),.nil⟩,⟨_,by refine bt hCa ?_;exact hns1⟩,nI,nD,nC,Nat.zero_le _⟩
 have d01:(sa.heap.objs.size:Nat)≠sa.heap.objs.size+1:=by lia
 have d02:(sa.heap.objs.size:Nat)≠sa.heap.objs.size+2:=by lia
 have d12:(sa.heap.objs.size+1:Nat)≠sa.heap.objs.size+2:=by lia
 have d13:(sa.heap.objs.size+2+1:Nat)≠sa.heap.objs.size+1:=by lia
 have loop:codeAny (model prog w) A (.compLoop (.ListComp elt [⟨t,iter,ifs,0⟩] sc pos) 0 (.ref sa.heap.objs.size) (.ref (sa.heap.objs.size+1)) (compEnvC sc (dd env sc.names []) (sa.heap.objs.size+2) env))
   (compPost (model prog w) A X use R (.ref (sa.heap.objs.size+1)) (sa.heap.objs.size+2)) { sa with heap:=h₁,toks:=sa.toks+([]:List (Str×Value)).length }:=by
  refine rT (iv:=iv) (y:=y) (xs:=xs) (Kp:=fun out Zr=>gf (.list out) Q Zr) hh B ht S1 (en.go S g1) (he _) (hi _) (e1 0) (e1 1) (e1 2) d01 d02 d12 hz (fun out Z' s' J q h' hs=>?_) 0 [] Zq _ J0 (Nat.zero_le _) h1
  refine o1x3 J.it.obj fun oI' hoI' nfI za=>?_
  have g3:Go w.params G h₀ Zq sa Z' { s' with heap:=h',toks:=s'.toks }:=J.go.touch S1 (e1 0) J.nI (fun b x hb hx=>hs b x hb hx) (fun o eo=>by rw[hoI'] at eo;refine bt (aQ eo) ?_;exact nfI)
  have st3:b8 s'.heap h':=fun b o eo c=>hs b o (fun q=>by subst q;rw[hoI'] at eo;obtain rfl:=aQ eo;exact nfI c) eo
  refine o2x2 J.list fun kG nn hDo rl=>?_
  refine aI J.ns fun m hCn=>?_
  have hDo':=hs _ _ (Ne.symm d01) hDo
  have hCn':h'.Ns (sa.heap.objs.size+2) m:=hCn.at' fun o eo=>hs _ _ (Ne.symm d02) eo
  have l1:=rl.length
  obtain⟨g4,hnone⟩:=g3.adopt (h':=h') (tk:=s'.toks) (d:=sa.heap.objs.size+1) (o:=.list out) S1 (e1 1) J.nD (fun b x za hx=>hx) (fun o eo=>by
   have eo:h'.get? _=some o:=eo
   rw[hDo'] at eo;refine bt (aQ eo) ?_;exact nf (by simp) (by simp)) (fun b t=>t) (fun za za q=>by cases q)
   ⟨kG,nn,hDo',rl.stays st3,by have:=J.len;lia⟩
  have nC':¬bv (Z'.set (sa.heap.objs.size+1) (.list out)) (sa.heap.objs.size+2):=by
   rintro(q | ⟨c,fs,q⟩)
   ·unfold H.set at q
    rw[aE (Ne.symm d12)] at q
    exact J.nC (.inl q)
   ·unfold H.set at q
    rw[aE d13] at q
    exact J.nC (.inr ⟨c,fs,q⟩)
  exact fin Zq sa _ _ _ _ m g1 g4 (q _ hnone) hCn' (e1 2) nC'
 have hst:=codeAny_compStart_list loop (rE J0.it loop)
 have ea:({ sa with heap:=H1 }:Shared).heap.objs.size=sa.heap.objs.size+1:=z1
 have eb:(H1.push { cls:=.type "list",dict:=none,data:=.seq #[] }).objs.size=sa.heap.objs.size+2:=z2
 show codeAny _ _ (.compStart _ 0 (.ref sa.heap.objs.size) (.ref H1.objs.size) (compEnvC sc (dd env sc.names []) (H1.push { cls:=.type "list",dict:=none,data:=.seq #[] }).objs.size env)) (compPost (model prog w) A X use R (.ref H1.objs.size) (H1.push { cls:=.type "list",dict:=none,data:=.seq #[] }).objs.size) _
 (refine af eb ?_;refine af z1 ?_)
 exact hst
theorem uk{elt t iter:Expr}{ifs:List Expr}{ce cit:E}{cifs:List E}{pos:Pos}
  (hh:A.handled=none) (B:lu env sc r) (ht:nv sc t=true) (hset:dG iter=true)
  (hit:dZ prog w G h₀ C A env r iter cit) (he:∀ Cc,dZ prog w G h₀ C A (compEnvC sc (dd env sc.names []) Cc env) (cR (aY sc) r) elt ce) (hi:∀ Cc,eh prog w G h₀ C A (compEnvC sc (dd env sc.names []) Cc env) (cR (aY sc) r) ifs cifs) :
  dZ prog w G h₀ C A env r (.ListComp elt [⟨t,iter,ifs,0⟩] sc pos) (.comp ce (jv (cR (aY sc) r) t) cit cifs):=by
 intro U Z s Q X e S h
 rw[eval_ListComp]
 refine lc (C:=C) hh B ht S e hset hit he hi h fun Zq sa D Cc Z' s' m g1 g2 q hn hc no=>?_
 refine⟨m,hn,fun h' hs=>?_⟩
 have g3:=g2.touch (h':=h') (tk:=s'.toks) g1.st hc no (fun b x hb hx=>hs.extBut b x hb hx) (jc hn)
 exact⟨_,_,q,.ref _,g1.trans g3⟩
end
noncomputable def ib:Expr→Bool
 |.Starred ..=>false
 |_=>true
noncomputable def nw(csc sc:Scope):Bool:=csc.kind == .function && csc.names.all fun x=>x.2 != .cell && (x.2 != .local || csc.names.lookup x.1 == some .local) && (x.2 != .free || sc.names.lookup x.1 == some .cell)
mutual
noncomputable def bN:Expr→Option Scope→Bool
 |.Constant _ _ _,_=>true
 |.Name x _,_=>!(x == ("__debug__" : Str)) && !(x == ("__classdict__" : Str))
 |.BinOp a _ b _,o=>bN a o && bN b o
 |.UnaryOp .Not a _,o=>bN a o
 |.UnaryOp .USub a _,o=>bN a o
 |.BoolOp _ l _,o=>fY l o
 |.IfExp t a b _,o=>bN t o && bN a o && bN b o
 |.Compare a [_] [b] _,o=>bN a o && bN b o && dG b
 |.Compare a [_,_] [b,c] _,o=>bN a o && bN b o && bN c o && dG c
 |.Tuple l _ _,o=>fY l o && decide (l.length≤1000)
 |.List l _,o=>fY l o && decide (l.length≤1000)
 |.Dict ks vs _,o=>tm ks o && fY vs o && decide (ks.length≤15)
 |.Attribute x _ _,o=>bN x o && e8 x
 |.Subscript x (.Slice (some a) none none _) _,o=>bN x o && bN a o
 |.Subscript x (.Slice none (some a) none _) _,o=>bN x o && bN a o
 |.Subscript x (.Slice none none (some (.UnaryOp .USub (.Constant (.int i) _ _) _)) _) _,o=>bN x o && (i == 1)
 |.Subscript x i _,o=>bN x o && bN i o && di i
 |.Call (.Attribute x n ap) as [] p,o=>bN x o && fY as o && e8 x && decide (ix n<NT) && decide (as.length<30) && ap.endLine == p.line
 |.Call f as [] _,o=>bN f o && fY as o && dF f
 |.ListComp e gs csc _,some sc=>bN e none && Dn gs csc sc
 |_,_=>false
noncomputable def fY:List Expr→Option Scope→Bool
 |[],_=>true
 |e::l,o=>bN e o && ib e && fY l o
noncomputable def tm:List (Option Expr)→Option Scope→Bool
 |[],_=>true
 |some e::l,o=>bN e o && ib e && tm l o
 |none::_,_=>false
noncomputable def Dn:List Comprehension→Scope→Scope→Bool
 |[⟨t,it,ifs,0⟩],csc,sc=>bN it (some sc) && fY ifs none && nv csc t && dG it && nw csc sc
 |_,_,_=>false
end
section
variable {prog:Program} {w:World} {A:Around} {K:Frag} {G:GT} {h₀:Heap} {C:aO} {n:Nat}
noncomputable def Ctx(o:Option Scope)(env:PySem.Env)(r:Str→cQ):Prop:=∀ sc,o=some sc→env.scope=sc∧r=hO (aY sc)∧(∀ x,env.kindOf x=some .cell→∃ c,env.cells.lookup x=some c)∧sc.names.length≤100
noncomputable def oz(prog:Program)(w:World)(G:GT)(h₀:Heap)(C:aO)(A:Around)(env:PySem.Env)(r:Str→cQ)(e:Expr)(c:E):Prop:=dZ prog w G h₀ C A env r e c∧i6 prog w G h₀ C A env r e c
theorem cD{env:PySem.Env}{r:Str→cQ}{e:Expr}{c:E}(h:dZ prog w G h₀ C A env r e c)(hw:∀ whole,isTrue e env whole=(do let v ← whole;standAt e.pos;holding [v] (truthy v)):=by intro _;rfl):oz prog w G h₀ C A env r e c:=⟨h,vC h hw⟩
theorem pY{e:Expr}(h:ib e=true):∀ x p,e≠.Starred x p:=fun x p q=>by subst q;exact ff h
theorem jt{o:Option Scope}{env:PySem.Env}{r:Str→cQ}:∀ {l:List Expr},fY l o=true→(∀ e ∈ l,bN e o=true→oz prog w G h₀ C A env r e (cE e r))→eh prog w G h₀ C A env r l (qH l r)
 |[],_,_=>trivial
 |e::l,h,f=>by
  have h:(bN e o && ib e && fY l o)=true:=h
  simp only[Bool.and_eq_true] at h
  exact⟨f e (.head _) h.1.1,pY h.1.2,jt h.2 fun e he=>f e (.tail _ he)⟩
theorem qh{o:Option Scope}{env:PySem.Env}{r:Str→cQ}:∀ {l:List (Option Expr)},tm l o=true→(∀ e,some e ∈ l→bN e o=true→oz prog w G h₀ C A env r e (cE e r))→∃ es,l=es.map some∧eh prog w G h₀ C A env r es (Dw l r)
 |[],_,_=>⟨[],rfl,trivial⟩
 |some e::l,h,f=>by
  have h:(bN e o && ib e && tm l o)=true:=h
  replace h:=pI h
  refine o1x2 (qh (l:=l) h.2 fun e he=>f e (.tail _ he)) fun es q s=>?_
  exact⟨e::es,by refine af q ?_;rfl,f e (.head _) h.1.1,pY h.1.2,s⟩
 |none::l,h,_=>by
  have h:false=true:=h
  exact ff h
theorem uI{csc sc:Scope}{env:PySem.Env}{r:Str→cQ}(h:nw csc sc=true)(c:Ctx (some sc) env r):lu env csc r:=by
 refine o0x4 (c sc rfl) fun c1 c2 c3 c4=>?_
 unfold nw at h
 (rewrite[Bool.and_eq_true] at h;rw[List.all_eq_true] at h)
 refine o0x2 h fun h1 h2=>?_;clear h
 have h2:∀ x ∈ csc.names,x.2≠.cell∧(x.2=.local→csc.names.lookup x.1=some .local)∧(x.2=.free→sc.names.lookup x.1=some .cell):=fun x hx=>by
  have:=h2 x hx
  simp only[Bool.and_eq_true,Bool.or_eq_true,bne_iff_ne,beq_iff_eq] at this
  exact⟨this.1.1,fun q=>this.1.2.resolve_left (fun z=>z q),fun q=>this.2.resolve_left (fun z=>z q)⟩
 refine⟨by simpa using h1,fun x hx=>(h2 x hx).1,fun x hx=>(h2 x hx).2.1,fun x hx q=>?_,fun x j hj=>?_⟩
 ·have:env.kindOf x.1=some .cell:=by
   unfold PySem.Env.kindOf;refine af c1 ?_;exact(h2 x hx).2.2 q
  exact⟨this,c3 _ this⟩
 ·rw[c2] at hj
  obtain⟨_,p,hp,_⟩:=fB hj
  have:=(List.getElem?_eq_some_iff.mp hp).1
  lia
theorem Fg{a b y:Nat}(h:y=1+a+b):a<y:=by lia
theorem vj{a b c y:Nat}(h:y=1+a+b+c):b<y:=by lia
theorem vm{a b c y:Nat}(h:y=1+a+b+c):a<y:=Fg (b:=b+c) (by(refine ak (h) ?_;rw[Nat.add_assoc]))
theorem yd{a b c d y:Nat}(h:y=1+a+b+c+d):a<y:=vm (b:=b) (c:=c+d) (by(refine ak (h) ?_;rw[Nat.add_assoc]))
theorem Ba{a b c d y:Nat}(h:y=1+a+b+c+d):b<y:=vj (c:=c+d) (by(rewrite[h];rw[Nat.add_assoc]))
theorem A9{a b c d y:Nat}(h:y=1+a+b+c+d):c<y:=vj (a:=a+b) (c:=d) (by(refine ak (h) ?_;(refine af (Nat.add_assoc 1 a b) ?_;with_reducible rfl)))
theorem DB{a y:Nat}(h:y=1+a):a<y:=by lia
theorem zz{a y m:Nat}(h:a<y)(k:y<m+1):a<m:=Nat.lt_of_lt_of_le h (Nat.le_of_lt_succ k)
theorem zl{l:List Expr}{e:Expr}{m:Nat}(h:e ∈ l)(k:sizeOf l<m):sizeOf e<m:=Nat.lt_trans (List.sizeOf_lt_of_mem h) k
theorem zo{l:List (Option Expr)}{e:Expr}{m:Nat}(h:some e ∈ l)(k:sizeOf l<m):sizeOf e<m:=Nat.lt_trans (DB (Option.some.sizeOf_spec e)) (Nat.lt_trans (List.sizeOf_lt_of_mem h) k)
theorem gH{m:Nat}(ih:∀ e:Expr,sizeOf e<m→∀ (o:Option Scope) (env:PySem.Env) (r:Str→cQ),Ctx o env r→bN e o=true→oz prog w G h₀ C A env r e (cE e r)){o:Option Scope}{env:PySem.Env}{r:Str→cQ}(c:Ctx o env r){l:List Expr}(hl:sizeOf l<m)(h:fY l o=true) :
  eh prog w G h₀ C A env r l (qH l r):=jt h fun e he h'=>ih e (zl he hl) o env r c h'
theorem pX{x i:Expr}{p:Pos}{o:Option Scope}{r:Str→cQ}(hs:di i=true):bN (.Subscript x i p) o=(bN x o && bN i o && di i)∧cE (.Subscript x i p) r=.idx (cE x r) (cE i r):=by
 induction i using Expr.casesOn<;>first | exact⟨rfl,rfl⟩ | exact ff hs
theorem oi{f:Expr}{as:List Expr}{p:Pos}{o:Option Scope}{r:Str→cQ}(hn:dF f=true):bN (.Call f as [] p) o=(bN f o && fY as o && dF f)∧cE (.Call f as [] p) r=.call (cE f r) (qH as r):=by
 revert hn
 induction f using Expr.casesOn with
 |Attribute=>exact ff
 |_=>exact fun _z=>⟨rfl,rfl⟩
theorem qi{gs:List Comprehension}{csc sc:Scope}(h:Dn gs csc sc=true):∃ t it ifs,gs=[⟨t,it,ifs,0⟩]:=by
 induction gs using List.casesOn with
 |nil=>exact ff h
 |cons g gs=>
  obtain⟨t,it,ifs,k⟩:=g
  rcases k with(_ | _) | _<;>induction gs using List.casesOn<;>first | exact⟨t,it,ifs,rfl⟩ | exact ff h
theorem q4{x st:Expr}{sp p:Pos}{o:Option Scope}(ok:bN (.Subscript x (.Slice none none (some st) sp) p) o=true):bN x o=true∧∃ k cp up,st=.UnaryOp .USub (.Constant (.int 1) k cp) up:=by
 have no:∀ {q:Bool},(q && false)=true→False:=fun{q} h=>by induction q using Bool.casesOn<;>exact ff h
 induction st using Expr.casesOn with
 |UnaryOp op a up=>
  induction op using UnaryOp.casesOn with
  |USub=>
   induction a using Expr.casesOn with
   |Constant c k cp=>
    induction c using Const.casesOn with
    |int i=>
     have ok:(bN x o && (i == 1))=true:=ok
     replace ok:=dj ok
     have h:i=1:=eq_of_beq ok.2
     refine af h ?_;exact⟨ok.1,k,cp,up,rfl⟩
    |_=>exact(no ok).elim
   |_=>exact(no ok).elim
  |_=>exact(no ok).elim
 |_=>exact(no ok).elim
theorem kK(D:gN prog w K G h₀)(F:jy prog w G h₀ C n)(fit:dw n A):∀ (m:Nat) (e:Expr),sizeOf e<m→∀ (o:Option Scope) (env:PySem.Env) (r:Str→cQ),Ctx o env r→bN e o=true→oz prog w G h₀ C A env r e (cE e r):=by
 intro m
 induction m with
 |zero=>intro e he;exact absurd he (Nat.not_lt_zero _)
 |succ m ih=>
  intro e he o env r c ok
  induction e using Expr.casesOn with
  |Constant k kk p=>exact cD uj
  |Name x p=>
   have ok:(!(x == ("__debug__" : Str)) && !(x == ("__classdict__" : Str)))=true:=ok
   simp only[Bool.and_eq_true,Bool.not_eq_true'] at ok
   exact cD (vY D ok.1 ok.2)
  |BinOp a op b p=>
   have ok:(bN a o && bN b o)=true:=ok
   replace ok:=dj ok
   exact cD (w8 (ih a (zz (yd (Expr.BinOp.sizeOf_spec ..)) he) o env r c ok.1).1 (ih b (zz (A9 (Expr.BinOp.sizeOf_spec ..)) he) o env r c ok.2).1)
  |UnaryOp op a p=>
   induction op using UnaryOp.casesOn with
   |Not=>
    have:=ih a (zz (vj (Expr.UnaryOp.sizeOf_spec ..)) he) o env r c ok
    exact⟨vW this.1,tz this.2⟩
   |USub=>exact cD (vX (ih a (zz (vj (Expr.UnaryOp.sizeOf_spec ..)) he) o env r c ok).1)
   |_=>exact ff ok
  |BoolOp op l p=>
   have:=gH ih c (l:=l) (zz (vj (Expr.BoolOp.sizeOf_spec ..)) he) ok
   exact⟨AN this,w6 this⟩
  |IfExp t a b p=>
   have ok:(bN t o && bN a o && bN b o)=true:=ok
   replace ok:=pI ok
   have h1:=ih t (zz (yd (Expr.IfExp.sizeOf_spec ..)) he) o env r c ok.1.1
   have h2:=ih a (zz (Ba (Expr.IfExp.sizeOf_spec ..)) he) o env r c ok.1.2
   have h3:=ih b (zz (A9 (Expr.IfExp.sizeOf_spec ..)) he) o env r c ok.2
   exact⟨wy h1.2 h2.1 h3.1,tN h1.2 h2.2 h3.2⟩
  |Compare a ops cs p=>
   match ops,cs,ok with
   |[op],[b],ok=>
    have ok:(bN a o && bN b o && dG b)=true:=ok
    replace ok:=pI ok
    have h1:=ih a (zz (yd (Expr.Compare.sizeOf_spec ..)) he) o env r c ok.1.1
    have h2:=ih b (zl (.head _) (zz (A9 (Expr.Compare.sizeOf_spec ..)) he)) o env r c ok.1.2
    exact⟨w1 D fit.hu ok.2 h1.1 h2.1,ul D fit.hu ok.2 h1.1 h2.1⟩
   |[op,op2],[b,cc],ok=>
    have ok:(bN a o && bN b o && bN cc o && dG cc)=true:=ok
    replace ok:=CX ok
    have h1:=ih a (zz (yd (Expr.Compare.sizeOf_spec ..)) he) o env r c ok.1.1.1
    have h2:=ih b (zl (.head _) (zz (A9 (Expr.Compare.sizeOf_spec ..)) he)) o env r c ok.1.1.2
    have h3:=ih cc (zl (.tail _ (.head _)) (zz (A9 (Expr.Compare.sizeOf_spec ..)) he)) o env r c ok.1.2
    exact⟨uo D fit.hu ok.2 h1.1 h2.1 h3.1,rU D fit.hu ok.2 h1.1 h2.1 h3.1⟩
   |[],_,ok=>exact ff ok
   |[_],[],ok=>exact ff ok
   |[_],_::_::_,ok=>exact ff ok
   |[_,_],[],ok=>exact ff ok
   |[_,_],[_],ok=>exact ff ok
   |[_,_],_::_::_::_,ok=>exact ff ok
   |_::_::_::_,_,ok=>exact ff ok
  |Tuple l k p=>
   have ok:(fY l o && decide (l.length≤1000))=true:=ok
   (rewrite[Bool.and_eq_true] at ok;rw[decide_eq_true_eq] at ok)
   exact cD (vz ok.2 (gH ih c (l:=l) (zz (vm (Expr.Tuple.sizeOf_spec ..)) he) ok.1))
  |List l p=>
   have ok:(fY l o && decide (l.length≤1000))=true:=ok
   (rewrite[Bool.and_eq_true] at ok;rw[decide_eq_true_eq] at ok)
   exact cD (wm ok.2 (gH ih c (l:=l) (zz (Fg (Expr.List.sizeOf_spec ..)) he) ok.1))
  |Dict ks vs p=>
   have ok:(tm ks o && fY vs o && decide (ks.length≤15))=true:=ok
   simp only[Bool.and_eq_true,decide_eq_true_eq] at ok
   refine o1x2 (qh (l:=ks) ok.1.1 fun e' he' h'=>ih e' (zo he' (zz (vm (Expr.Dict.sizeOf_spec ..)) he)) o env r c h') fun es q s=>?_
   have sv:=gH ih c (l:=vs) (zz (vj (Expr.Dict.sizeOf_spec ..)) he) ok.1.2
   have hl:es.length≤15:=by have:=ok.2;(rewrite[q] at this;rw[List.length_map] at this);exact this
   have:=wX (p:=p) (by have:=fit.hu;lia) hl s sv
   rw[← q] at this
   exact cD this
  |Attribute x a p=>
   have ok:(bN x o && e8 x)=true:=ok
   rw[Bool.and_eq_true] at ok
   exact cD (xf D ok.2 (ih x (zz (vm (Expr.Attribute.sizeOf_spec ..)) he) o env r c ok.1).1)
  |Subscript x i p=>
   by_cases hs:di i=true
   ·rw[(pX (r:=r) hs).1] at ok
    simp only[Bool.and_eq_true] at ok
    refine af ((pX (o:=o) hs).2) ?_
    exact cD (wD fit.hu hs (ih x (zz (vm (Expr.Subscript.sizeOf_spec ..)) he) o env r c ok.1.1).1 (ih i (zz (vj (Expr.Subscript.sizeOf_spec ..)) he) o env r c ok.1.2).1)
   ·induction i using Expr.casesOn with
    |Slice lo hi st sp=>
     match lo,hi,st,ok with
     |some a,none,none,ok=>
      have ok:(bN x o && bN a o)=true:=ok
      rw[Bool.and_eq_true] at ok
      exact cD (sC (ih x (zz (vm (Expr.Subscript.sizeOf_spec ..)) he) o env r c ok.1).1 (ih a (zz (Nat.lt_trans (DB (Option.some.sizeOf_spec a)) (Nat.lt_trans (yd (Expr.Slice.sizeOf_spec ..)) (vj (Expr.Subscript.sizeOf_spec ..)))) he) o env r c ok.2).1)
     |none,some a,none,ok=>
      have ok:(bN x o && bN a o)=true:=ok
      rw[Bool.and_eq_true] at ok
      exact cD (sD D.arg (ih x (zz (vm (Expr.Subscript.sizeOf_spec ..)) he) o env r c ok.1).1 (ih a (zz (Nat.lt_trans (DB (Option.some.sizeOf_spec a)) (Nat.lt_trans (Ba (Expr.Slice.sizeOf_spec ..)) (vj (Expr.Subscript.sizeOf_spec ..)))) he) o env r c ok.2).1)
     |none,none,some st,ok=>
      obtain⟨h1,k,cp,up,rfl⟩:=q4 ok
      exact cD (vG (ih x (zz (vm (Expr.Subscript.sizeOf_spec ..)) he) o env r c h1).1)
     |none,none,none,ok=>
      have ok:(bN x o && bN (.Slice (none) (none) (none) sp) o && false)=true:=ok
      rw[Bool.and_false] at ok;exact ff ok
     |some a,some b,st,ok=>
      have ok:(bN x o && bN (.Slice (some a) (some b) (st) sp) o && false)=true:=ok
      rw[Bool.and_false] at ok;exact ff ok
     |some a,none,some st,ok=>
      have ok:(bN x o && bN (.Slice (some a) (none) (some st) sp) o && false)=true:=ok
      rw[Bool.and_false] at ok;exact ff ok
     |none,some b,some st,ok=>
      have ok:(bN x o && bN (.Slice (none) (some b) (some st) sp) o && false)=true:=ok
      rw[Bool.and_false] at ok;exact ff ok
    |_=>exact absurd rfl hs
  |Call f as kws p=>
   induction kws using List.casesOn with
   |cons _ _=>induction f using Expr.casesOn<;>exact ff ok
   |nil=>
    by_cases hn:dF f=true
    ·rw[(oi (r:=r) hn).1] at ok
     simp only[Bool.and_eq_true] at ok
     refine af ((oi (o:=o) hn).2) ?_
     exact cD (ut D F fit hn (ih f (zz (yd (Expr.Call.sizeOf_spec ..)) he) o env r c ok.1.1).1 (gH ih c (l:=as) (zz (Ba (Expr.Call.sizeOf_spec ..)) he) ok.1.2))
    ·induction f using Expr.casesOn with
     |Attribute x nm ap=>
      have ok:(bN x o && fY as o && e8 x && decide (ix nm<NT) && decide (as.length<30) && ap.endLine == p.line)=true:=ok
      simp only[Bool.and_eq_true,decide_eq_true_eq] at ok
      exact cD (v8 D F fit ok.1.1.1.2 ok.1.1.2 ok.1.2 ok.2 (ih x (zz (Nat.lt_trans (vm (Expr.Attribute.sizeOf_spec ..)) (yd (Expr.Call.sizeOf_spec ..))) he) o env r c ok.1.1.1.1.1).1 (gH ih c (l:=as) (zz (Ba (Expr.Call.sizeOf_spec ..)) he) ok.1.1.1.1.2))
     |_=>exact absurd rfl hn
  |ListComp el gs csc p=>
   induction o using Option.casesOn with
   |none=>exact ff ok
   |some sc=>
    have ok:(bN el none && Dn gs csc sc)=true:=ok
    replace ok:=dj ok
    refine o0x2 ok fun ok1 ok2=>?_;clear ok
    refine o3x1 (qi ok2) fun t it ifs e3=>?_;obtain rfl:=e3
    ·have ok2:(bN it (some sc) && fY ifs none && nv csc t && dG it && nw csc sc)=true:=ok2
     replace ok2:=AQ ok2
     have B:=uI ok2.2 c
     have cn:∀ Cc,Ctx none (compEnvC csc (dd env csc.names []) Cc env) (cR (aY csc) r):=fun Cc sc q=>by exact ns q
     have h1:=ih it (by simp at he;lia) _ env r c ok2.1.1.1.1
     have h2:∀ Cc,oz prog w G h₀ C A (compEnvC csc (dd env csc.names []) Cc env) (cR (aY csc) r) el (cE el (cR (aY csc) r)):=fun Cc=>ih el (by simp at he;lia) none _ _ (cn Cc) ok1
     have h3:∀ Cc,eh prog w G h₀ C A (compEnvC csc (dd env csc.names []) Cc env) (cR (aY csc) r) ifs (qH ifs (cR (aY csc) r)):=fun Cc=>jt ok2.1.1.1.2 fun e' he' h'=>ih e' (by have:=List.sizeOf_lt_of_mem he';simp at he;lia) none _ _ (cn Cc) h'
     exact cD (uk fit.handled B ok2.1.1.2 ok2.1.2 h1.1 (fun Cc=>(h2 Cc).1) h3)
  |_=>exact ff ok
end
noncomputable def fQ:Expr→Bool
 |.ListComp ..=>false
 |.SetComp ..=>false
 |.DictComp ..=>false
 |_=>true
noncomputable def qj(o:Option Scope):Expr→Bool
 |.Name _ _=>true
 |.Tuple l _ _=>two (yJ fun za=>true) l
 |.Attribute x _ _=>bN x o
 |.Subscript x i _=>bN x o && bN i o && di i
 |_=>false
inductive uR (o:Option Scope):Expr→Prop
 |name (x:Str) (p:Pos):uR o (.Name x p)
 |two (x:Str) (p:Pos) (y:Str) (q:Pos) (k:Nat) (pp:Pos):uR o (.Tuple [.Name x p,.Name y q] k pp)
 |attr (x:Expr) (a:Str) (p:Pos):bN x o=true→uR o (.Attribute x a p)
 |sub (x i:Expr) (p:Pos):(bN x o && bN i o && di i)=true→uR o (.Subscript x i p)
theorem gD{o:Option Scope}{t:Expr}(h:qj o t=true):uR o t:=by
 revert h
 induction t using Expr.casesOn with
 |Name x p=>exact fun _z=>.name x p
 |Attribute x a p=>exact fun h=>.attr x a p h
 |Subscript x i p=>exact fun h=>.sub x i p h
 |Tuple l k pp=>
  intro h
  obtain⟨x,p,y,q,rfl,_⟩:=mT (f:=fun za=>true) h
  exact .two _ _ _ _ _ _
 |_=>exact ff
noncomputable def vO:Expr→Expr→Bool
 |.Tuple _ _ _,.Tuple vs _ _=>!(vs.all (constantsAlone 8))
 |.List ..,_=>false
 |_,_=>true
noncomputable def jT:Expr→Bool
 |.Subscript ..=>false
 |_=>true
mutual
noncomputable def BR:Stmt→Scope→Bool
 |.Expr e _,sc=>bN e (some sc) && fQ e
 |.Return (some e) _,sc=>bN e (some sc)
 |.Assign [t] e _,sc=>qj (some sc) t && bN e (some sc) && vO t e
 |.AugAssign (.Name x _) _ e _,sc=>bN (.Name x default) (some sc) && bN e (some sc)
 |.AugAssign (.Attribute x _ _) _ e _,sc=>bN x (some sc) && bN e (some sc)
 |.If t a b _,sc=>bN t (some sc) && iO a sc && iO b sc
 |.While t b [] _,sc=>bN t (some sc) && iO b sc
 |.For t it b [] _,sc=>qj none t && dF t && jT t && bN it (some sc) && dG it && iO b sc
 |.Raise _ _ _,_=>true
 |_,_=>false
noncomputable def iO:List Stmt→Scope→Bool
 |[],_=>true
 |s::l,sc=>BR s sc && iO l sc
end
noncomputable def jU:List Nat→Bool
 |[]=>true
 |a::l=>!l.contains a && jU l
noncomputable def vQ(d:FD):Bool:=d.scope.kind == .function && !d.scope.isCoroutine && !d.scope.isGenerator && decide (d.scope.names.length≤100) && jU (d.scope.names.map fun p=>fZ p.1) &&
 (d.scope.names.all fun p=>p.2 == .local || p.2 == .cell || p.2 == .globalImplicit) &&
 (d.params.all fun x=>fZ x != 0 && (d.scope.names.lookup x == some .local || d.scope.names.lookup x == some .cell)) && jU (d.params.map fZ) && iO d.body d.scope
noncomputable def CY:List FD:=((List.range 78).filterMap fun f=>po Option.none f)++(fR.filterMap fun p=>po (some p.1) p.2)
theorem AR:CY.all vQ=true:=by decide +kernel
structure fj (h₀:Heap) (env:PySem.Env) (r:Str→cQ) (sc:Scope):Prop where
 esc:env.scope=sc
 er:r=hO (aY sc)
 kind:sc.kind=.function
 known:∀ x i,r x=.loc i→env.kindOf x=some .local∨(env.kindOf x=some .cell∧∃ c,env.cells.lookup x=some c)
 inj:∀ x y i,r x=.loc i→r y=.loc i→x=y
 apart:env.cells.Pairwise fun x y=>x.2≠y.2
 sep:∀ n c,(n,c) ∈ env.cells→c≠env.locals
 fresh:∀ b,Fr env b→h₀.get? b=none
 cells:∀ x,env.kindOf x=some .cell→∃ c,env.cells.lookup x=some c
 len:sc.names.length≤100
section
variable {prog:Program} {w:World} {A:Around} {K:Frag} {G:GT} {h₀:Heap} {C:aO} {n:Nat} {env:PySem.Env} {r:Str→cQ} {sc:Scope}
theorem fj.ctx(T:fj h₀ env r sc):Ctx (some sc) env r:=fun sc' q=>by refine bt (aQ q) ?_;exact⟨T.esc,T.er,T.cells,T.len⟩
noncomputable abbrev f6(P:Params)(G:GT)(h₀:Heap)(env:PySem.Env)(Z:H)(s:Shared)(Z':H)(s':Shared):Prop:=lr P G h₀ (Fr env) Z s Z' s'
theorem f6.of{U:Env}{Z Z':H}{s s':Shared}(e:bF G env r U Z s.heap)(g:Go w.params G h₀ Z s Z' s'):f6 w.params G h₀ env Z s Z' s':=
 lr.of g fun b f=>by
  refine cP fun PP kk=>?_
  refine o2x1 e fun m cm a=>?_;clear e
  refine o1x2 (a.own b f) fun o ho za=>?_
  refine kk ?_
  exact⟨o,ho⟩
theorem lO{U:Env}{i j:Nat}{v u:V}(h:U.set i v j=some u):(j=i∧u=v)∨(j≠i∧U j=some u):=by
 unfold Env.set at h
 split at h
 ·exact .inl ⟨by assumption,(aQ h).symm⟩
 ·exact .inr ⟨by assumption,h⟩
theorem eS(T:fj h₀ env r sc){x:Str}{i:Nat}(hx:r x=.loc i){U:Env}{Z:H}{s:Shared}{v:Value}{y:V}{Q:Unit→Shared→Prop}{X:Value→Shared→Prop}(e:bF G env r U Z s.heap)(S:St w.params G h₀ Z s.heap)(rv:bh G s.heap v y)
  (h:∀ s',f6 w.params G h₀ env Z s Z s'→bF G env r (U.set i y) Z s'.heap→Q () s'):wpAny (model prog w) A (storeName env x v) Q X s:=by
 refine o2x1 e fun m cm a=>?_;clear e
 have change:∀ (d:Addr) (h':Heap),Fr env d→Heap.SameBut d s.heap h'→(∀ o,s.heap.get? d=some o→¬cw o)→b8 s.heap h'∧∀ tk,f6 w.params G h₀ env Z s Z { s with heap:=h',toks:=tk }:=fun d h' f hs hnf=>by
  refine o1x3 (a.own d f) fun o ho hf no=>?_
  have st:b8 s.heap h':=fun b o eb c=>hs.extBut b o (fun q=>by subst q;exact hnf o eb c) eb
  refine⟨st,fun tk=>⟨⟨h',tk,rfl⟩,S.touch no (T.fresh d f) hnf (fun b x hb hx=>hs.extBut b x hb hx),fun b x eb nb nf=>hs.extBut b x (fun q=>nf (q▸f)) eb,fun b q=>.inl q⟩⟩
 have hloc:∀ {k:NameKind},env.kindOf x=some k→True:=fun za=>trivial
 rcases T.known x i hx with hk | ⟨hk,c,hc⟩
 ·have hp:(env.scope.kind == .class || (env.scope.kind == .module && env.locals != env.globals))=false:=by refine af a.kind ?_;rfl
  refine wpAny_storeName_local hk a.ns (fun h' hn' hs=>?_) hp
  refine o0x2 (change env.locals h' (.inl rfl) hs (jc a.ns)) fun st g=>?_
  have hL:∃ o,h'.get? env.locals=some o∧¬cw o:=by
   have hn2:=hn'
   refine o3x3 hn2 fun o' es ep e1 e2 za=>?_;clear hn2
   exact⟨o',e1,jc hn' o' e1⟩
  refine h _ (g _) ⟨_,cm,a.kind,a.glb,hn',fun z c' hc'=>?_,fun b f=>?_,fun z j u hz hu=>?_,a.gl⟩
  ·exact(a.cell z c' hc').sameBut hs (T.sep z c' (mem_of_lookup hc'))
  ·refine cP fun PP kk=>?_
   refine o1x3 (a.own b f) fun o ho hf no=>?_
   refine kk ?_
   by_cases q:b=env.locals
   ·refine o1x2 hL fun o' e1 e2=>?_;clear hL
    exact⟨o',by refine af q ?_;exact e1,e2,no⟩
   ·exact⟨o,hs.extBut b o q ho,hf,no⟩
  ·rcases lO hu with⟨rfl,rfl⟩ | ⟨hne,hu⟩
   ·have:z=x:=T.inj z x _ hz hx
    refine af this ?_
    exact⟨v,rv.stays st,.inl ⟨hk,by simp⟩⟩
   ·refine o1x2 (a.loc z j u hz hu) fun val r1 r2=>?_
    refine⟨val,r1.stays st,r2.imp (fun q=>⟨q.1,?_⟩) id⟩
    have:z≠x:=fun q=>by subst q;rw[hx] at hz;cases hz;exact hne rfl
    refine ak (aE this) ?_;exact q.2
 ·refine wpAny_storeName_cell a.kind hk hc (a.cell x c hc) fun h' hc' hs=>?_
  have f:Fr env c:=.inr ⟨x,hc⟩
  have cnf:∀ {h:Heap} {v:Option Value},h.IsCell c v→∀ o,h.get? c=some o→¬cw o:=fun{h v} hcell o eo z=>by
   refine o1x2 hcell fun o' e1 e2=>?_;clear hcell
   rw[e1] at eo;obtain rfl:=aQ eo
   rcases z with⟨_,vs,kk,z⟩ | ⟨_,vs,z⟩<;>rw[e2] at z<;>cases z
  refine o0x2 (change c h' f hs (cnf (a.cell x c hc))) fun st g=>?_
  refine h _ (g s.toks) ⟨m,fun z=>if z=x then some v else cm z,a.kind,a.glb,a.ns.sameBut hs (Ne.symm (T.sep x c (mem_of_lookup hc))),fun z c' hz=>?_,fun b fb=>?_,fun z j u hz hu=>?_,a.gl⟩
  ·by_cases q:z=x
   ·subst q
    rw[hc] at hz;refine bt (aQ hz) ?_
    refine af (aH rfl) ?_;exact hc'
   ·refine af (aE q) ?_
    exact(a.cell z c' hz).sameBut hs fun e=>q (name_of_addr T.apart (mem_of_lookup hz) (e▸mem_of_lookup hc))
  ·refine cP fun PP kk=>?_
   refine o1x3 (a.own b fb) fun o ho hf no=>?_
   refine kk ?_
   by_cases q:b=c
   ·subst q
    refine o1x2 hc' fun o' e1 e2=>?_;clear hc'
    exact⟨o',e1,cnf ⟨o',e1,e2⟩ o' e1,no⟩
   ·exact⟨o,hs.extBut b o q ho,hf,no⟩
  ·rcases lO hu with⟨rfl,rfl⟩ | ⟨hne,hu⟩
   ·have:z=x:=T.inj z x _ hz hx
    refine af this ?_
    exact⟨v,rv.stays st,.inr ⟨.inl hk,by simp,c,hc⟩⟩
   ·refine o1x2 (a.loc z j u hz hu) fun val r1 r2=>?_
    refine⟨val,r1.stays st,r2.imp id fun q=>⟨q.1,?_,q.2.2⟩⟩
    have:z≠x:=fun q=>by subst q;rw[hx] at hz;cases hz;exact hne rfl
    show(if z=x then some v else cm z)=some val
    refine ak (aE this) ?_;exact q.2.1
noncomputable def r7(P:Params)(G:GT)(h₀:Heap)(env:PySem.Env)(r:Str→cQ)(Z:H)(s:Shared)(Q:bL):Flow→Shared→Prop:=fun f s'=>∃ fl U' Z',Q fl U' Z'∧(match fl with
 |.next=>f=.next
 |.ret x=>∃ v,f=.ret v∧bh G s'.heap v x)∧f6 P G h₀ env Z s Z' s'∧bF G env r U' Z' s'.heap
theorem r7.back{Z Zq:H}{s sa:Shared}{Q:bL}(g:f6 w.params G h₀ env Z s Zq sa){f:Flow}{s':Shared}(h:r7 w.params G h₀ env r Zq sa Q f s'):r7 w.params G h₀ env r Z s Q f s':=by
 refine cP fun PP kk=>?_
 refine o3x4 h fun fl U' Z' q hf g' e=>?_;clear h
 refine kk ?_
 exact⟨fl,U',Z',q,hf,g.trans g',e⟩
noncomputable def g8(prog:Program)(w:World)(G:GT)(h₀:Heap)(C:aO)(A:Around)(env:PySem.Env)(r:Str→cQ)(t:Stmt)(c:Mine.C):Prop:=
 ∀ U Z s Q X,bF G env r U Z s.heap→St w.params G h₀ Z s.heap→Fh C c U Q Z→wpAny (model prog w) A (exec t env) (r7 w.params G h₀ env r Z s Q) X s
theorem f6.stays(e:bF G env r U Z s.heap)(S:St w.params G h₀ Z s.heap)(g:f6 w.params G h₀ env Z s Z' s'):b8 s.heap s'.heap:=
 lr.stays S g fun b o f eo=>by
  refine o2x1 e fun m cm a=>?_;clear e
  refine o1x3 (a.own b f) fun o' ho hf za=>?_
  rw[ho] at eo;refine bt (aQ eo) ?_;exact hf
noncomputable def u0(P:Params)(G:GT)(h₀:Heap)(env:PySem.Env)(r:Str→cQ)(Z:H)(s:Shared)(Q:Env→H→Prop):Unit→Shared→Prop:=fun za s'=>∃ U' Z',Q U' Z'∧f6 P G h₀ env Z s Z' s'∧bF G env r U' Z' s'.heap
theorem CH{x:Str}{p:Pos}:jv r (.Name x p)=(match r x with | .loc i=>[i] | _=>[]):=rfl
theorem eT(D:gN prog w K G h₀)(F:jy prog w G h₀ C n)(fit:dw n A)(T:fj h₀ env r sc){a:Expr}(h:bN a (some sc)=true):oz prog w G h₀ C A env r a (cE a r):=kK D F fit _ a (Nat.lt_succ_self _) (some sc) env r T.ctx h
theorem pZ{x:Str}{p:Pos}{U:Env}{Z:H}{y:V}{Q:Env→H→Prop}(h:dP C (cT r (.Name x p)) y U Q Z):∃ i,r x=.loc i∧Q (U.set i y) Z:=by
 have h:dP C (match jv r (.Name x p) with | [i]=>.v i | _=>.bad) y U Q Z:=h
 rcases jr (r x) with⟨i,e⟩ | e
 ·rw[mB e] at h;exact⟨i,e,h⟩
 ·rw[uu e] at h;exact False.elim h
theorem sA{x x2:Str}{p p2 pp:Pos}{k:Nat}{U:Env}{Z:H}{y:V}{Q:Env→H→Prop}(h:dP C (cT r (.Tuple [.Name x p,.Name x2 p2] k pp)) y U Q Z):∃ i j a b,r x=.loc i∧r x2=.loc j∧y=.tup [a,b]∧Q ((U.set i a).set j b) Z:=by
 have h:dP C (match jv r (.Tuple [.Name x p,.Name x2 p2] k pp) with | [i,j]=>.v2 i j | _=>.bad) y U Q Z:=h
 rcases qd (r x) (r x2) with⟨i,j,e,e'⟩ | e
 ·rw[mA e e'] at h
  refine o1x2 h fun U' hb q=>?_;clear h
  refine o2x2 (lh hb) fun a b e2 q9=>?_;refine af e2 ?_;obtain rfl:=q9
  exact⟨i,j,a,b,e,e',rfl,q⟩
 ·rw[kg e] at h;exact False.elim h
theorem uM(T:fj h₀ env r sc){x:Str}{p:Pos}{U:Env}{Z:H}{s:Shared}{v:Value}{y:V}{Q:Env→H→Prop}{X:Value→Shared→Prop}(e:bF G env r U Z s.heap)(S:St w.params G h₀ Z s.heap)(rv:bh G s.heap v y)(h:dP C (cT r (.Name x p)) y U Q Z):wpAny (model prog w) A (assign (.Name x p) env v) (u0 w.params G h₀ env r Z s Q) X s:=by
 refine o1x2 (pZ h) fun i hx q=>?_
 exact wpAny_assign_Name (eS T hx e S rv fun s' g e'=>⟨_,Z,q,g,e'⟩)
theorem xg(fit:dw n A)(T:fj h₀ env r sc){x x2:Str}{p p2 pp:Pos}{k:Nat}{U:Env}{Z:H}{s:Shared}{v:Value}{y:V}{Q:Env→H→Prop}{X:Value→Shared→Prop}(e:bF G env r U Z s.heap)(S:St w.params G h₀ Z s.heap)(rv:bh G s.heap v y)(h:dP C (cT r (.Tuple [.Name x p,.Name x2 p2] k pp)) y U Q Z):wpAny (model prog w) A (assign (.Tuple [.Name x p,.Name x2 p2] k pp) env v) (u0 w.params G h₀ env r Z s Q) X s:=by
 refine o4x4 (sA h) fun i j a b hx hx2 e6 q=>?_;obtain rfl:=e6
 refine o3x2 rv.tup_inv fun ta us nn e3 q9=>?_;obtain rfl:=e3;refine o0x3 q9 fun o1 r1 z=>?_;clear q9
 obtain⟨us⟩:=us
 have r1':bx G s.heap us [a,b]:=r1
 refine o2x2 (hH r1') fun va vb e2 q9=>?_;obtain rfl:=e2;refine o0x2 q9 fun ra rb=>?_;clear q9
 refine wpAny_assign_Tuple fit.handled ⟨_,o1,rfl,nn,rfl⟩ rfl rfl fun h1 hx1=>?_
 show wpAny _ _ (do holding [vb] (assign (.Name x p) env va);(do holding [] (assign (.Name x2 p2) env vb);pure ())) _ _ _
 have k1:∀ b o,s.heap.get? b=some o→h1.get? b=some o:=fun b o eo=>hx1 b o (Nat.ne_of_lt (Heap.lt_size eo)) eo
 have g1:Go w.params G h₀ Z s Z { s with heap:=h1 }:=Go.ext S (tk:=s.toks) k1
 have ee1:=e.go S g1
 refine wpAny_bind (wpAny_holding (wpAny_assign_Name (eS T hx ee1 g1.st (g1.rep S ra) fun s2 g2 ee2=>?_)))
 refine wpAny_bind (wpAny_holding (wpAny_assign_Name (eS T hx2 ee2 g2.st ((g1.rep S rb).stays (f6.stays ee1 g1.st g2)) fun s3 g3 ee3=>wpAny_pure ?_)))
 exact⟨_,Z,q,((f6.of e g1).trans g2).trans g3,ee3⟩
set_option tactic.hygienic true in
theorem lQ{o:V}{x:Str}{u:V}{Z Z':H}(h:dg Z o (ix x) u=some Z'):cy (ix x)=x:=by
 refine iP ?_
 unfold dg at h
 split at h
 ·split at h
  ·split at h
   ·rename_i hc;exact(gu _ _ hc).1
   ·exact ns h
  ·exact ns h
 ·exact ns h
theorem uN(D:gN prog w K G h₀)(F:jy prog w G h₀ C n)(fit:dw n A)(T:fj h₀ env r sc){x:Expr}{a:Str}{p:Pos}(ok:bN x (some sc)=true){U:Env}{Z:H}{s:Shared}{v:Value}{y:V}{Q:Env→H→Prop}{X:Value→Shared→Prop}(e:bF G env r U Z s.heap)(S:St w.params G h₀ Z s.heap)(rv:bh G s.heap v y)(h:dP C (cT r (.Attribute x a p)) y U Q Z):wpAny (model prog w) A (assign (.Attribute x a p) env v) (u0 w.params G h₀ env r Z s Q) X s:=by
 have h:df C (cE x r) U (fun aa Zq=>∃ Z',dg Zq aa (ix a) y=some Z'∧Q U Z') Z:=h
 show wpAny _ _ (do
  let ov ← holding [v] (eval x env)
  standAt p.atName
  holding [v,ov] (setAttr ov a v)
  release [v,ov] []) _ _ _
 refine wpAny_bind (wpAny_holding (ba (α:=Unit) ((eT D F fit T ok).1 U Z s _ X e S h) fun z ov Zq sa h1 ro g1=>wpAny_bind (wpAny_standAt (wpAny_bind (wpAny_holding ?_)))))
 refine o1x2 h1 fun Z' hs q=>?_;clear h1
 refine bt (lQ hs) ?_
 refine jM g1.st D.X D.cls ro (g1.rep S rv) hs fun s2 g2=>dT ?_
 exact⟨U,Z',q,f6.of e (g1.trans g2),e.go S (g1.trans g2)⟩
theorem yr{x i:Expr}{p:Pos}{v:Value}(hns:di i=true):cT r (.Subscript x i p)=.idx (cE x r) (cE i r)∧assign (.Subscript x i p) env v=(do
   let ov ← holding [v] (eval x env)
   let iv ← holding [v,ov] (eval i env)
   standAt p
   holding [v,ov,iv] (setItem ov iv v)
   release [v,ov,iv] []):=by
 induction i using Expr.casesOn<;>first | exact⟨rfl,rfl⟩ | exact ff hns
theorem xh(D:gN prog w K G h₀)(F:jy prog w G h₀ C n)(fit:dw n A)(T:fj h₀ env r sc){x i:Expr}{p:Pos}(ok:(bN x (some sc) && bN i (some sc) && di i)=true){U:Env}{Z:H}{s:Shared}{v:Value}{y:V}{Q:Env→H→Prop}{X:Value→Shared→Prop}(e:bF G env r U Z s.heap)(S:St w.params G h₀ Z s.heap)(rv:bh G s.heap v y)(h:dP C (cT r (.Subscript x i p)) y U Q Z):wpAny (model prog w) A (assign (.Subscript x i p) env v) (u0 w.params G h₀ env r Z s Q) X s:=by
 replace ok:=pI ok
 have hs:=yr (r:=r) (env:=env) (x:=x) (p:=p) (v:=v) ok.2
 rw[hs.1] at h
 refine af hs.2 ?_
 refine wpAny_bind (wpAny_holding (ba (α:=Unit) ((eT D F fit T ok.1.1).1 U Z s _ X e S h) fun z ov Zq sa h1 ro g1=>wpAny_bind (wpAny_holding (ba (α:=Unit) ((eT D F fit T ok.1.2).1 U Zq sa _ X (e.go S g1) g1.st h1) fun k kv Zr sb h2 rk g2=>wpAny_bind (wpAny_standAt (wpAny_bind (wpAny_holding ?_)))))))
 refine o1x2 h2 fun Z' hs q=>?_;clear h2
 refine oM g2.st (g2.rep g1.st ro) rk (g2.rep g1.st (g1.rep S rv)) fit.hu hs fun s3 g3=>dT ?_
 have g:=(g1.trans g2).trans g3
 exact⟨U,Z',q,f6.of e g,e.go S g⟩
theorem lk(D:gN prog w K G h₀)(F:jy prog w G h₀ C n)(fit:dw n A)(T:fj h₀ env r sc){t:Expr}(ok:qj (some sc) t=true){U:Env}{Z:H}{s:Shared}{v:Value}{y:V}{Q:Env→H→Prop}{X:Value→Shared→Prop}(e:bF G env r U Z s.heap)(S:St w.params G h₀ Z s.heap)(rv:bh G s.heap v y)
  (h:dP C (cT r t) y U Q Z):wpAny (model prog w) A (assign t env v) (u0 w.params G h₀ env r Z s Q) X s:=by
 induction gD ok using uR.casesOn with
 |name x p=>exact uM T e S rv h
 |two x p x2 p2 k pp=>exact xg fit T e S rv h
 |attr x a p ok=>exact uN D F fit T ok e S rv h
 |sub x i p ok=>exact xh D F fit T ok e S rv h
end
theorem bF.move{G:GT}{env:PySem.Env}{r:Str→cQ}{U:Env}{Z:H}{h h':Heap}(e:bF G env r U Z h)(k:∀ b o,Fr env b→h.get? b=some o→h'.get? b=some o)(st:b8 h h'):bF G env r U Z h':=by
 refine o2x1 e fun m cm a=>?_;clear e
 refine⟨m,cm,a.kind,a.glb,a.ns.at' fun o eo=>k _ o (.inl rfl) eo,fun x c hc=>?_,fun b f=>?_,fun x i v h1 h2=>?_,a.gl⟩
 ·refine o1x2 (a.cell x c hc) fun o e1 e2=>?_
  exact⟨o,k _ _ (.inr ⟨x,hc⟩) e1,e2⟩
 ·refine o1x3 (a.own b f) fun o e1 e2 e3=>?_
  exact⟨o,k _ _ f e1,e2,e3⟩
 ·refine o1x2 (a.loc x i v h1 h2) fun val r1 r2=>?_
  exact⟨val,r1.stays st,r2⟩
theorem lr.touch{P:Params}{G:GT}{h₀:Heap}{F:Addr→Prop}{Z Z':H}{s s':Shared}{d:Addr}{h':Heap}{tk:Nat}(g:lr P G h₀ F Z s Z' s')(S:St P G h₀ Z s.heap)(hd:s.heap.get? d=none)(n:¬bv Z' d)(hs:∀ b x,b≠d→s'.heap.get? b=some x→h'.get? b=some x)(nfz:∀ o,s'.heap.get? d=some o→¬cw o) :
  lr P G h₀ F Z s Z' { s' with heap:=h',toks:=tk }:=by
 have hz:h₀.get? d=none:=by
  induction q:h₀.get? d using Option.casesOn with
  |none=>rfl
  |some x=>rw[S.base d x q] at hd;exact sn hd
 refine o2x1 g.eq fun h1 t1 e1=>?_
 exact⟨⟨h',tk,by(refine af e1 ?_;with_reducible rfl)⟩,g.st.touch n hz nfz hs,fun b x e no nf=>hs b x (fun q=>by subst q;rw[hd] at e;exact ns e) (g.keep b x e no nf),g.own⟩
section
variable {prog:Program} {w:World} {A:Around} {K:Frag} {G:GT} {h₀:Heap} {C:aO} {n:Nat} {env:PySem.Env} {r:Str→cQ} {sc:Scope}
theorem wn(T:fj h₀ env r sc){x:Str}{i:Nat}{v:V}{U:Env}{Z:H}{s:Shared}{Q:Value→Shared→Prop}{X:Value→Shared→Prop}(e:bF G env r U Z s.heap)(hx:r x=.loc i)(hv:U i=some v)(h:∀ val,bh G s.heap val v→Q val s) :
  wpAny (model prog w) A (loadName env x) Q X s:=by
 refine o2x1 e fun m cm a=>?_;clear e
 refine o1x2 (a.loc x i v hx hv) fun val rv h1=>?_
 rcases h1 with⟨k,e⟩ | ⟨k,e,c,hc'⟩
 ·exact wpAny_loadName_local a.kind k a.ns e (h val rv)
 ·have cl:=a.cell x c hc'
  rw[e] at cl
  rcases T.known x i hx with k' | ⟨k',_⟩
  ·refine Or.elim k (fun k=>?_) (fun k=>?_)<;>rw[k] at k' <;>cases k'
  ·exact wpAny_loadName_cell a.kind k' hc' cl (h val rv)
theorem uJ{op:Operator}{a b d:Int}{t u:Tok}{s:Shared}{Q:Value→Shared→Prop}{X:Value→Shared→Prop}(e:rX op a b=some d)(h:∀ t tk,Q (.int d t) { s with toks:=tk }):wpAny (model prog w) A (inplaceOp op (.int a t) (.int b u)) Q X s:=by
 unfold rX at e
 split at e
 ·obtain rfl:=aQ e;exact PyProof.Rows.iadd_int (h _ _)
 ·obtain rfl:=aQ e;exact PyProof.Rows.isub_int (h _ _)
 ·exact ns e
theorem lN(D:gN prog w K G h₀)(F:jy prog w G h₀ C n)(fit:dw n A)(T:fj h₀ env r sc){t e:Expr}{p:Pos}(okt:qj (some sc) t=true)(oke:bN e (some sc)=true)(hsole:swapsWithSole [t] e p.line env=pure false)(hsw:swappedStores [t] e env=pure none) :
  g8 prog w G h₀ C A env r (.Assign [t] e p) (.set (cT r t) (cE e r)):=by
 intro U Z s Q X en S h
 (rewrite[exec_Assign];refine af hsole ?_;refine af hsw ?_)
 refine wpAny_bind (wpAny_standAt (wpAny_bind (wpAny_pure ?_)))
 refine af (aE (by decide)) ?_
 have snd:=(kK D F fit _ e (Nat.le_refl _) (some sc) env r T.ctx oke).1
 refine wpAny_bind (ba (α:=Unit) (snd U Z s _ X en S h) fun x v Zq sa h1 rv g1=>wpAny_bind (wpAny_pure ?_))
 have hst:(assignEach [t] env).map (·.2)=[assign t env]:=by
  induction gD okt using uR.casesOn<;>rfl
 refine af hst ?_
 show wpAny _ _ (do assign t env v;pure Flow.next) _ _ _
 refine wpAny_bind (wpAny_mono (lk D F fit T okt (en.go S g1) g1.st rv h1) (fun _ sb ⟨U',Z',q,g2,e2⟩=>wpAny_pure ?_) fun za za e=>e)
 exact⟨.next,U',Z',q,rfl,(f6.of en g1).trans g2,e2⟩
set_option tactic.hygienic true in
theorem kB{t e:Expr}(h:vO t e=true)(ht:qj (some sc) t=true):swappedStores [t] e env=pure none∨
  ∃ x p x2 p2 k pp,t=.Tuple [.Name x p,.Name x2 p2] k pp∧x≠x2∧swappedStores [t] e env=pure (some [x,x2]):=by
 induction gD ht using uR.casesOn with
 |name x p=>exact .inl rfl
 |two x p x2 p2 k pp=>
  induction e using Expr.casesOn with
  |Tuple vs k2 p3=>
   have h:(!(vs.all (constantsAlone 8)))=true:=h
   unfold swappedStores
   dsimp only
   split
   ·exact .inl rfl
   split
   ·exact .inl rfl
   split
   ·exact .inl rfl
   split
   ·exact .inl rfl
   ·rename_i q1 q2 q3 hd
    refine af (aE (by simpa using h)) ?_
    right
    simp only[List.filterMap_cons,List.filterMap_nil] at q3 ⊢
    generalize (env.kindOf x == some NameKind.local && p.line == (Option.map (fun x=>x.pos.line) [Expr.Name x p,Expr.Name x2 p2].head?).getD 0)=c1 at q3 ⊢
    generalize (env.kindOf x2 == some NameKind.local && p2.line == (Option.map (fun x=>x.pos.line) [Expr.Name x p,Expr.Name x2 p2].head?).getD 0)=c2 at q3 ⊢
    induction c1 using Bool.casesOn<;>induction c2 using Bool.casesOn
    ·exfalso;apply q3;rfl
    ·exfalso;apply q3;rfl
    ·exfalso;apply q3;rfl
    ·refine⟨x,p,x2,p2,k,pp,rfl,fun z=>?_,rfl⟩
     subst z
     apply q3
     simp[List.eraseDups_cons]
  |_=>exact .inl rfl
 |attr x a p _=>exact .inl rfl
 |sub x i p _=>exact .inl rfl
end
section
variable {prog:Program} {w:World} {A:Around} {K:Frag} {G:GT} {h₀:Heap} {C:aO} {n:Nat} {env:PySem.Env} {r:Str→cQ} {sc:Scope}
theorem sE{U:Env}{i j:Nat}{a b:V}(h:i≠j):(U.set i a).set j b=(U.set j b).set i a:=by
 funext k
 unfold Env.set
 by_cases h1:k=i
 ·subst h1;simp[h]
 ·by_cases h2:k=j
  ·subst h2;simp[h1]
  ·simp[h1,h2]
theorem jJ(D:gN prog w K G h₀)(F:jy prog w G h₀ C n)(fit:dw n A)(T:fj h₀ env r sc){e:Expr}{x x2:Str}{p p2 pp q:Pos}{k:Nat}(hne:x≠x2)(oke:bN e (some sc)=true)(hsole:swapsWithSole [.Tuple [.Name x p,.Name x2 p2] k pp] e q.line env=pure false)
  (hsw:swappedStores [.Tuple [.Name x p,.Name x2 p2] k pp] e env=pure (some [x,x2])) :
  g8 prog w G h₀ C A env r (.Assign [.Tuple [.Name x p,.Name x2 p2] k pp] e q) (.set (cT r (.Tuple [.Name x p,.Name x2 p2] k pp)) (cE e r)):=by
 intro U Z s Q X en S h
 (rewrite[exec_Assign];refine af hsole ?_;refine af hsw ?_)
 refine wpAny_bind (wpAny_standAt (wpAny_bind (wpAny_pure ?_)))
 refine af (aE (by decide)) ?_
 have snd:=(eT D F fit T oke).1
 refine wpAny_bind (ba (α:=Unit) (snd U Z s _ X en S h) fun y v Zq sa h1 rv g1=>wpAny_bind (wpAny_pure ?_))
 refine o4x4 (sA h1) fun i j a b hx hx2 e6 qq=>?_;obtain rfl:=e6
 have hij:i≠j:=fun z=>by subst z;exact hne (T.inj x x2 i hx hx2)
 have en1:=en.go S g1
 have S1:=g1.st
 refine o3x2 rv.tup_inv fun ta us nn e3 q9=>?_;refine af e3 ?_;refine o0x3 q9 fun o1 r1 z=>?_;clear q9
 obtain⟨us⟩:=us
 have r1':bx G sa.heap us [a,b]:=r1
 refine o2x2 (hH r1') fun va vb e2 q9=>?_;obtain rfl:=e2;refine o0x2 q9 fun ra rb=>?_;clear q9
 show wpAny _ _ (do
  rule "assign.swapped-stores"
  let items ← unpackItems (.ref ta) 2 none
  assignInOrder ([x2,x].map fun n=>bindName env n) items.reverse
  pure Flow.next) _ _ _
 refine wpAny_bind (wpAny_rule (wpAny_bind (wpAny_unpackItems_tuple (items:=#[va,vb]) fit.handled ⟨_,o1,rfl,nn,rfl⟩ fun h1 hx1=>?_)))
 show wpAny _ _ (do (do holding [va] (bindName env x2 vb);(do holding [] (bindName env x va);pure ()));pure Flow.next) _ _ _
 have k1:∀ b o,sa.heap.get? b=some o→h1.get? b=some o:=fun b o eo=>hx1 b o (Nat.ne_of_lt (Heap.lt_size eo)) eo
 have g2:Go w.params G h₀ Zq sa Zq { sa with heap:=h1 }:=Go.ext S1 (tk:=sa.toks) k1
 have en2:=en1.go S1 g2
 refine wpAny_bind (wpAny_bind (wpAny_holding (wpAny_bindName (eS T hx2 en2 g2.st (g2.rep S1 rb) fun s2 g3 en3=>?_))))
 refine wpAny_bind (wpAny_holding (wpAny_bindName (eS T hx en3 g3.st ((g2.rep S1 ra).stays (f6.stays en2 g2.st g3)) fun s3 g4 en4=>wpAny_pure (wpAny_pure ?_))))
 rw[← sE hij] at en4
 exact⟨.next,_,_,qq,rfl,(((f6.of en g1).trans (f6.of en1 g2)).trans g3).trans g4,en4⟩
theorem nc(D:gN prog w K G h₀)(F:jy prog w G h₀ C n)(fit:dw n A)(T:fj h₀ env r sc){el:Expr}{gs:List Comprehension}{csc:Scope}{x:Str}{px p q:Pos}(oke:bN (.ListComp el gs csc p) (some sc)=true)(hsole:swapsWithSole [.Name x px] (.ListComp el gs csc p) q.line env=pure true) :
  g8 prog w G h₀ C A env r (.Assign [.Name x px] (.ListComp el gs csc p) q) (.set (cT r (.Name x px)) (cE (.ListComp el gs csc p) r)):=by
 intro U Z s Q X en S h
 (rewrite[exec_Assign];refine af hsole ?_)
 refine wpAny_bind (wpAny_standAt (wpAny_bind (wpAny_pure ?_)))
 refine af (aH rfl) ?_
 refine o0x2 (dj (a:=bN el none) (b:=Dn gs csc sc) oke) fun ok1 ok2=>?_
 refine o3x1 (qi ok2) fun t it ifs e3=>?_;obtain rfl:=e3
 ·replace ok2:=AQ (a:=bN it (some sc)) (b:=fY ifs none) (c:=nv csc t) (d:=dG it) (e:=nw csc sc) ok2
  have c:=T.ctx
  have B:=uI ok2.2 c
  have cn:∀ Cc,Ctx none (compEnvC csc (dd env csc.names []) Cc env) (cR (aY csc) r):=fun Cc sc q=>by exact ns q
  have h1:=kK D F fit _ it (Nat.le_refl _) (some sc) env r c ok2.1.1.1.1
  have h2:∀ Cc,oz prog w G h₀ C A (compEnvC csc (dd env csc.names []) Cc env) (cR (aY csc) r) el (cE el (cR (aY csc) r)):=fun Cc=>kK D F fit _ el (Nat.le_refl _) none _ _ (cn Cc) ok1
  have h3:∀ Cc,eh prog w G h₀ C A (compEnvC csc (dd env csc.names []) Cc env) (cR (aY csc) r) ifs (qH ifs (cR (aY csc) r)):=fun Cc=>jt ok2.1.1.1.2 fun e' he' h'=>kK D F fit _ e' (Nat.le_refl _) none _ _ (cn Cc) h'
  have hc:cE (.ListComp el [⟨t,it,ifs,0⟩] csc p) r=.comp (cE el (cR (aY csc) r)) (jv (cR (aY csc) r) t) (cE it r) (qH ifs (cR (aY csc) r)):=rfl
  rw[hc] at h
  show wpAny _ _ (do
   (do let _ ← comprehension (.ListComp el [⟨t,it,ifs,0⟩] csc p) csc env it.pos (newList []) false (eval it env) (some fun v=>assignAll v [assign (.Name x px) env]))
   pure Flow.next) _ _ _
  refine wpAny_bind (wpAny_bind (wpAny_mono (lc (R:=fun za s'=>wpAny (model prog w) A (pure Flow.next) (r7 w.params G h₀ env r Z s Q) X s') fit.handled B ok2.1.1.2 S en ok2.1.2 h1.1 (fun Cc=>(h2 Cc).1) h3 h ?_) (fun za s' z=>wpAny_pure z) fun za za e=>e))
  intro Zq sa D' Cc Z' s' m g1 g2 qq hn hcc no
  have en1:=en.go S g1
  have en2:=en1.go g1.st g2
  show wpAny _ _ (assign (.Name x px) env (.ref D')) _ _ _
  refine o1x2 (pZ qq) fun i hx qq=>?_
  refine wpAny_assign_Name (eS T hx en2 g2.st (.ref D') fun s2 g3 en3=>?_)
  have hcf:¬Fr env Cc:=fun f=>by
   refine o2x1 en1 fun m' cm' a=>?_;clear en1
   refine o1x2 (a.own Cc f) fun o ho za=>?_
   rw[hcc] at ho;exact ns ho
  have hn3:s2.heap.Ns Cc m:=hn.at' fun o eo=>g3.keep _ _ eo no hcf
  have no3:¬bv Z' Cc:=no
  refine⟨m,hn3,fun h' hs=>wpAny_pure ?_⟩
  have ge:f6 w.params G h₀ env Zq sa Z' s2:=(f6.of en1 g2).trans g3
  have gt:=ge.touch (h':=h') (tk:=s2.toks) g1.st hcc no3 (fun b x hb hx=>hs.extBut b x hb hx) (jc hn3)
  refine⟨.next,_,Z',qq,rfl,(f6.of en g1).trans gt,?_⟩
  refine en3.move (fun b o f eo=>hs.extBut b o (fun z=>hcf (z▸f)) eo) fun b o eo c=>hs.extBut b o (fun z=>by subst z;exact jc hn3 o eo c) eo
theorem qn{e:Expr}(h:fQ e=true){t:Option Expr}{l:Nat}:swapsWith e t l env=pure false:=by
 revert h
 induction e using Expr.casesOn with
 |ListComp=>exact ff
 |SetComp=>exact ff
 |DictComp=>exact ff
 |_=>exact fun _z=>rfl
theorem vE(D:gN prog w K G h₀)(F:jy prog w G h₀ C n)(fit:dw n A)(T:fj h₀ env r sc){t e:Expr}{p:Pos}(okt:qj (some sc) t=true)(oke:bN e (some sc)=true)(hsw:vO t e=true)(hcomp:fQ e=true∨∃ el gs csc q,e=.ListComp el gs csc q) :
  g8 prog w G h₀ C A env r (.Assign [t] e p) (.set (cT r t) (cE e r)):=by
 have plain:swapsWithSole [t] e p.line env=pure false→g8 prog w G h₀ C A env r (.Assign [t] e p) (.set (cT r t) (cE e r)):=fun hsole=>by
  rcases kB (env:=env) hsw okt with h | ⟨x,p1,x2,p2,k,pp,rfl,hne,h⟩
  ·exact lN D F fit T okt oke hsole h
  ·exact jJ D F fit T hne oke hsole h
 rcases hcomp with h | ⟨el,gs,csc,q,rfl⟩
 ·refine plain ?_
  exact qn h
 ·induction gD okt using uR.casesOn with
  |name x px=>
   have:∃ b,swapsWithSole [.Name x px] (.ListComp el gs csc q) p.line env=pure b:=⟨_,rfl⟩
   obtain⟨b,hb⟩:=this
   induction b using Bool.casesOn with
   |false=>exact plain hb
   |true=>exact nc D F fit T oke hb
  |two=>exact plain rfl
  |attr=>exact plain rfl
  |sub=>exact plain rfl
end
section
variable {prog:Program} {w:World} {A:Around} {R:Result→Shared→Prop} {s:Shared}
theorem tZ{target:Expr}{it:Value}{body orelse:List Stmt}{env:PySem.Env}(I:Nat→Shared→Prop)
  (turn:∀ n s,I n s→wpAny (model prog w) A (pyNext it) (fun r sa=>match r with
   |none=>wpAny (model prog w) A (execs orelse env) (fun f se=>R (.ok f) se) (notedBy (model prog w) A env fun e s'=>R (.error e) s') sa
   |some v=>wpAny (model prog w) A (letOwnedTupleGo target it v) (fun za sa=>wpAny (model prog w) A (assign target env v) (fun za sb=>wpAny (model prog w) A (execs body env) (fun f se=>match f with
     |.next | .cont=>∃ m,m<n∧I m se
     |.brk=>R (.ok .next) se
     |.ret v=>R (.ok (.ret v)) se) (notedBy (model prog w) A env fun e s'=>R (.error e) s') sb) (notedBy (model prog w) A env fun e s'=>R (.error e) s') sa) (notedBy (model prog w) A env fun e s'=>R (.error e) s') sa) (notedBy (model prog w) A env fun e s'=>R (.error e) s') s)
  (n:Nat) (h:I n s):codeAny (model prog w) A (.forLoop target it body orelse env) R s:=by
 refine codeAny_loop' rfl I (fun n s hI=>?_) n h
 show wpAny _ _ ((forTurn target it body orelse env).onRaise (fun x=>do noteFrame x env;theTreesLotGoes x)) _ _ s
 refine wpAny_noted ?_
 rw[forTurn]
 refine wpAny_bind (wpAny_standAt (wpAny_bind (wpAny_onRaise (wpAny_mono (turn n s hI) (fun r sa h₁=>?_) fun za za h'=>wpAny_standAt h'))))
 induction r using Option.casesOn with
 |none=>exact wpAny_pure (.inr ⟨rfl,codeAny_block h₁⟩)
 |some v=>
  refine wpAny_bind (wpAny_mono h₁ (fun za sb h₂=>wpAny_bind (wpAny_mono h₂ (fun za se h₃=>wpAny_bind (wpAny_mono h₃ (fun f s4 h₄=>?_) fun za za e=>e)) fun za za e=>e)) fun za za e=>e)
  induction f using Flow.casesOn with
  |next=>exact wpAny_pure (.inl ⟨rfl,h₄⟩)
  |cont=>exact wpAny_pure (.inl ⟨rfl,h₄⟩)
  |brk=>exact wpAny_pure h₄
  |ret v=>exact wpAny_pure h₄
end
section
variable {prog:Program} {w:World} {A:Around} {K:Frag} {G:GT} {h₀:Heap} {C:aO} {n:Nat} {env:PySem.Env} {r:Str→cQ} {sc:Scope}
theorem lr.notOwned{P:Params}{F:Addr→Prop}{Z Z':H}{s s':Shared}(g:lr P G h₀ F Z s Z' s'){b:Addr}{o:Obj}(e:s.heap.get? b=some o)(no:¬bv Z b):¬bv Z' b:=fun q=>by
 rcases g.own b q with q | ⟨q,_⟩
 ·exact no q
 ·rw[e] at q;exact sn q
noncomputable def lq(prog:Program)(w:World)(G:GT)(h₀:Heap)(C:aO)(A:Around)(env:PySem.Env)(r:Str→cQ)(l:List Stmt)(cs:List Mine.C):Prop:=
 ∀ U Z s Q X,bF G env r U Z s.heap→St w.params G h₀ Z s.heap→eR C cs U Q Z→wpAny (model prog w) A (execs l env) (r7 w.params G h₀ env r Z s Q) X s
theorem om{l:List Stmt}:iO l sc=true→(∀ t ∈ l,BR t sc=true→g8 prog w G h₀ C A env r t (cS t r))→lq prog w G h₀ C A env r l (mD l r):=by
 induction l with
 |nil=>intro _ _ U Z s Q X e S h;exact wpAny_execs_nil ⟨.next,U,Z,h,rfl,lr.refl S,e⟩
 |cons t l ih=>
  intro ok f U Z s Q X e S h
  replace ok:=dj (a:=BR t sc) (b:=iO l sc) ok
  refine wpAny_execs_cons (wpAny_mono (f t (.head _) ok.1 U Z s _ X e S h) (fun fl sa p0=>?_) fun za za e=>e)
  refine o3x4 p0 fun g Ua Zq q hf g1 e1=>?_;clear p0
  induction g using Fl.casesOn with
  |next=>
   obtain rfl:=hf
   exact wpAny_mono (ih ok.2 (fun t ht=>f t (.tail _ ht)) Ua Zq sa Q X e1 g1.st q) (fun za za o=>o.back g1) fun za za e=>e
  |ret x=>
   refine o1x2 hf fun v e1 rv=>?_;clear hf;obtain rfl:=e1
   exact⟨.ret x,Ua,Zq,q,⟨v,rfl,rv⟩,g1,e1⟩
theorem kC{t:Expr}{x:V}{U U':Env}{Z:H}(h:cN (jv r t) x U=some U')(ht:qj none t=true)(h1:dF t=true)(h2:jT t=true):dP C (cT r t) x U (fun U'' Z''=>U''=U'∧Z''=Z) Z:=by
 induction gD ht using uR.casesOn with
 |name n p=>
  refine o1x2 (lg h) fun i hi e2=>?_;refine af e2 ?_
  show dP C (match jv r (.Name n p) with | [i]=>.v i | _=>.bad) _ _ _ _
  refine af (mB hi) ?_;exact⟨rfl,rfl⟩
 |two n p n2 p2 k pp=>
  refine o4x4 (oo h) fun i j a b hi hj e6 q9=>?_;refine af e6 ?_;refine af q9 ?_
  show dP C (match jv r (.Tuple [.Name n p,.Name n2 p2] k pp) with | [i,j]=>.v2 i j | _=>.bad) _ _ _ _
  refine af (mA hi hj) ?_;exact⟨_,rfl,rfl,rfl⟩
 |attr=>exact ff h1
 |sub=>exact ff h2
theorem tj{t:Expr}(ht:qj none t=true)(h1:dF t=true)(h2:jT t=true){o:Option Scope}:qj o t=true:=by
 induction gD ht using uR.casesOn with
 |name | two=>rfl
 |attr=>exact ff h1
 |sub=>exact ff h2
theorem wP(D:gN prog w K G h₀)(F:jy prog w G h₀ C n)(fit:dw n A)(T:fj h₀ env r sc){t it:Expr}{b:List Stmt}{p:Pos}(ht:qj none t=true)(h1:dF t=true)(h2:jT t=true)(oki:bN it (some sc)=true)(hset:dG it=true)
  (hb:lq prog w G h₀ C A env r b (mD b r)):g8 prog w G h₀ C A env r (.For t it b [] p) (.for_ (jv r t) (cE it r) (mD b r)):=by
 intro U Z s Q X en S h
 have okt:qj (some sc) t=true:=tj ht h1 h2
 have hfs:∀ x,foldedSetIterable it env x=pure x:=kY hset
 refine wpAny_For (ba (α:=Unit) ((kK D F fit _ it (Nat.le_refl _) (some sc) env r T.ctx oki).1 U Z s _ X en S h) fun y iv Zq sa hh rv g1=>?_) hfs
 refine o1x2 hh fun xs hxs hl=>?_;clear hh
 have S1:=g1.st
 have en1:=en.go S g1
 refine nH S1 rv hxs fun oI hoI it0=>?_
 have hI:sa.heap.get? sa.heap.objs.size=none:=dS _
 have hIf:¬Fr env sa.heap.objs.size:=fun f=>by
  refine o2x1 en1 fun m' cm' a=>?_;clear en1
  refine o1x2 (a.own _ f) fun o ho za=>?_
  rw[hI] at ho;exact ns ho
 have g2:Go w.params G h₀ Zq sa Zq { sa with heap:=sa.heap.push oI }:=Go.push S1 oI sa.toks
 refine tZ (fun m s'=>∃ k U' Z',m=xs.length+1 - k∧k≤xs.length∧f6 w.params G h₀ env Zq sa Z' s'∧fL s'.heap sa.heap.objs.size k iv y∧bh G s'.heap iv y∧¬bv Z' sa.heap.objs.size∧bq Z' y=some xs∧bF G env r U' Z' s'.heap∧
  me (fun Z'=>bq Z' y=some xs) (fun x U'=>cN (jv r t) x U') (fun U' K' Z'=>eR C (mD b r) U' K' Z') (xs.drop k) U' Q Z') ?_ _
  ⟨0,U,Zq,rfl,Nat.zero_le _,f6.of en1 g2,it0,g2.rep S1 rv,S1.fresh hI,hxs,en1.go S1 g2,hl⟩
 intro m s' p0;refine o3x2 p0 fun k U' Z' e3 q9=>?_;clear p0;obtain rfl:=e3;refine o0x8 q9 fun hk g3 itk rvk nI live enk hl=>?_;clear q9
 refine cP fun PP kk=>?_
 refine o1x3 itk.obj fun oI' hoI' nfI za=>?_
 refine kk ?_
 refine Or.elim (Nat.lt_or_ge k xs.length) (fun hlt=>?_) (fun hge=>?_)
 ·have hx:xs[k]? = some xs[k]:=List.getElem?_eq_getElem hlt
  (rewrite[List.drop_eq_getElem_cons hlt] at hl;rw[me] at hl)
  refine o1x2 hl fun U1 hbind hl=>?_
  refine kS g3.st rvk live itk hx fun u h' tk ru it1 hs1=>?_
  have g4:f6 w.params G h₀ env Zq sa Z' { s' with heap:=h',toks:=tk }:=g3.touch S1 hI nI (fun b x hb hx=>hs1.extBut b x hb hx) (fun o eo=>by rw[hoI'] at eo;obtain rfl:=aQ eo;exact nfI)
  have st1:b8 s'.heap h':=fun b o eo c=>hs1.extBut b o (fun q=>by subst q;rw[hoI'] at eo;obtain rfl:=aQ eo;exact nfI c) eo
  have en4:bF G env r U' Z' h':=enk.move (fun b o f eo=>hs1.extBut b o (fun q=>hIf (q▸f)) eo) st1
  refine jd (s:={ s' with heap:=h',toks:=tk }) it1 ?_
  refine wpAny_mono (lk (s:={ s' with heap:=h',toks:=tk }) D F fit T okt en4 g4.st (ru.stays st1) (kC hbind ht h1 h2)) (fun _ s5 p0=>?_) fun za za e=>e
  refine o2x3 p0 fun ρ5 Z5 q2 g5 en5=>?_;clear p0;obtain⟨q1,q2⟩:=q2
  refine cP fun PP kk=>?_
  subst q1 q2
  refine o1x3 it1.obj fun oI5 hoI5 nfI5 za=>?_
  have keepI:∀ {Z'' s''},f6 w.params G h₀ env Z5 { s' with heap:=h',toks:=tk } Z'' s''→fL s''.heap sa.heap.objs.size (k+1) iv y∧¬bv Z'' sa.heap.objs.size:=fun g=>⟨it1.same fun o eo=>g.keep _ _ eo nI hIf,g.notOwned hoI5 nI⟩
  refine kk ?_
  refine wpAny_mono (hb _ _ _ _ _ en5 g5.st hl) (fun f s6 p0=>?_) fun za za e=>e
  refine o3x4 p0 fun fl U6 Z6 q hf g6 en6=>?_;clear p0
  have gg:=g5.trans g6
  induction fl using Fl.casesOn with
  |next=>
   skip
   subst hf
   refine o0x2 (keepI gg) fun it6 n6=>?_
   exact⟨_,by omega,k+1,U6,Z6,rfl,hlt,g4.trans gg,it6,(rvk.stays st1).stays (f6.stays en4 g4.st gg),n6,q.1,en6,q.2⟩
  |ret x=>
   refine o1x2 hf fun v e1 rv'=>?_;clear hf;obtain rfl:=e1
   exact⟨.ret x,U6,Z6,q,⟨v,rfl,rv'⟩,((f6.of en g1).trans g4).trans gg,en6⟩
 ·have:k=xs.length:=Nat.le_antisymm hk hge
  subst this
  (rewrite[List.drop_length] at hl;rw[me] at hl)
  refine nJ fit.handled g3.st rvk live itk (Nat.le_refl _) fun h' hs=>wpAny_execs_nil ?_
  have st1:b8 s'.heap h':=fun b o eo c=>hs b o (fun q=>by subst q;rw[hoI'] at eo;obtain rfl:=aQ eo;exact nfI c) eo
  have g4:f6 w.params G h₀ env Zq sa Z' { s' with heap:=h',toks:=s'.toks }:=g3.touch S1 hI nI (fun b x hb hx=>hs b x hb hx) (fun o eo=>by rw[hoI'] at eo;obtain rfl:=aQ eo;exact nfI)
  exact⟨.next,U',Z',hl,rfl,(f6.of en g1).trans g4,enk.move (fun b o f eo=>hs b o (fun q=>hIf (q▸f)) eo) st1⟩
theorem t9(D:gN prog w K G h₀)(F:jy prog w G h₀ C n)(fit:dw n A)(T:fj h₀ env r sc){e:Expr}{p:Pos}(oke:bN e (some sc)=true)(hc:fQ e=true):g8 prog w G h₀ C A env r (.Expr e p) (.ex (cE e r)):=by
 intro U Z s Q X en S h
 have hi:interactive env=false:=by
  refine o2x1 en fun m' cm' a=>?_;clear en
  delta interactive;refine af a.kind ?_;rfl
 refine wpAny_Expr_any (ba (α:=Unit) ((eT D F fit T oke).1 U Z s _ X en S h) fun x v Zq sa h1 rv g1=>?_) hi (qn hc)
 exact⟨.next,U,Zq,h1,rfl,f6.of en g1,en.go S g1⟩
theorem vJ(D:gN prog w K G h₀)(F:jy prog w G h₀ C n)(fit:dw n A)(T:fj h₀ env r sc){e:Expr}{p:Pos}(oke:bN e (some sc)=true):g8 prog w G h₀ C A env r (.Return (some e) p) (.ret (cE e r)):=fun U Z s Q X en S h=>
 wpAny_Return_some (ba (α:=Unit) ((eT D F fit T oke).1 U Z s _ X en S h) fun x v Zq sa h1 rv g1=>⟨.ret x,U,Zq,h1,⟨v,rfl,rv⟩,f6.of en g1,en.go S g1⟩)
theorem uK(D:gN prog w K G h₀)(F:jy prog w G h₀ C n)(fit:dw n A)(T:fj h₀ env r sc){x:Str}{px p:Pos}{op:Operator}{e:Expr}(oke:bN e (some sc)=true):g8 prog w G h₀ C A env r (.AugAssign (.Name x px) op e p) (match r x with | .loc i=>.augV i op (cE e r) | _=>.bad):=by
 intro U Z s Q X en S h
 induction hx:r x using cQ.casesOn with
 |loc i=>
  rw[hx] at h
  refine o1x2 h fun a ha h=>?_
  refine wpAny_AugAssign_Name (wn T en hx ha fun val rv=>?_)
  refine aI rv.int_inv fun t e1=>?_;refine af e1 ?_
  refine ba (α:=Unit) ((eT D F fit T oke).1 U Z s _ X en S h) fun y v Zq sa h1 ry g1=>?_
  refine o2x2 h1 fun c d e2 q9=>?_;clear h1;obtain rfl:=e2;refine o0x2 q9 fun hd q=>?_;clear q9
  refine aI ry.int_inv fun u e1=>?_;refine af e1 ?_
  refine uJ hd fun t' tk=>?_
  have g2:=g1.trans (Go.tok g1.st tk)
  exact eS (s:={ sa with toks:=tk }) T hx (en.go S g2) g1.st (.int d t') fun s2 g3 e3=>⟨.next,_,Zq,q,rfl,(f6.of en g2).trans g3,e3⟩
 |_=>rw[hx] at h;exact False.elim h
set_option tactic.hygienic true in
theorem rZ{o:V}{x:Str}{u:V}{Z:H}(h:cV Z o (ix x)=some u):cy (ix x)=x:=by
 refine iP ?_
 delta cV at h
 split at h
 ·split at h
  ·split at h
   ·rename_i hc;exact(gu _ _ hc).1
   ·exact ns h
  ·exact ns h
 ·exact ns h
theorem uL(D:gN prog w K G h₀)(F:jy prog w G h₀ C n)(fit:dw n A)(T:fj h₀ env r sc){o:Expr}{a:Str}{ap p:Pos}{op:Operator}{e:Expr}(oko:bN o (some sc)=true)(oke:bN e (some sc)=true):g8 prog w G h₀ C A env r (.AugAssign (.Attribute o a ap) op e p) (.augA (cE o r) (ix a) op (cE e r)):=by
 intro U Z s Q X en S h
 refine wpAny_AugAssign_AttributeAny (ba (α:=Unit) ((eT D F fit T oko).1 U Z s _ X en S h) fun y v Zq sa h1 ry g1=>?_)
 refine o1x2 h1 fun u hu h1=>?_
 have g1':=fun tk=>g1.trans (Go.tok g1.st tk)
 refine bt (rZ hu) ?_
 refine qJ g1.st D.X D.cls ry hu fun old tk rold=>?_
 refine aI rold.int_inv fun t e1=>?_;refine af e1 ?_
 refine ba (α:=Unit) ((eT D F fit T oke).1 U Zq { sa with toks:=tk } _ X (en.go S (g1' tk)) g1.st h1) fun z zv Zr sb h2 rz g2=>?_
 refine o2x2 h2 fun c d e2 q9=>?_;clear h2;obtain rfl:=e2;obtain⟨hd,Z',hs,q⟩:=q9
 refine aI rz.int_inv fun u' e1=>?_;refine af e1 ?_
 refine uJ hd fun t' tk'=>?_
 have g3:=((g1' tk).trans g2).trans (Go.tok g2.st tk')
 exact jM (s:={ sb with toks:=tk' }) g2.st D.X D.cls (g2.rep (s:={ sa with toks:=tk }) g1.st ry) (.int d t') hs fun s3 g4=>⟨.next,U,Z',q,rfl,f6.of en (g3.trans g4),en.go S (g3.trans g4)⟩
theorem zf(D:gN prog w K G h₀)(F:jy prog w G h₀ C n)(fit:dw n A)(T:fj h₀ env r sc){t:Expr}{a b:List Stmt}{p:Pos}(okt:bN t (some sc)=true)(ha:lq prog w G h₀ C A env r a (mD a r))(hb:lq prog w G h₀ C A env r b (mD b r)):g8 prog w G h₀ C A env r (.If t a b p) (.ite (cE t r) (mD a r) (mD b r)):=by
 intro U Z s Q X en S h
 replace h:=dx.mp h
 refine wpAny_If (eI ((eT D F fit T okt).2 U Z s _ X en S h) fun c Zq sa h1 g1=>?_)
 induction c using Bool.casesOn with
 |true=>exact wpAny_mono (ha U Zq sa Q X (en.go S g1) g1.st (h1.1 rfl)) (fun za za o=>o.back (f6.of en g1)) fun za za e=>e
 |false=>exact wpAny_mono (hb U Zq sa Q X (en.go S g1) g1.st (h1.2 rfl)) (fun za za o=>o.back (f6.of en g1)) fun za za e=>e
theorem yj(D:gN prog w K G h₀)(F:jy prog w G h₀ C n)(fit:dw n A)(T:fj h₀ env r sc){t:Expr}{b:List Stmt}{p:Pos}(okt:bN t (some sc)=true)(hb:lq prog w G h₀ C A env r b (mD b r)):g8 prog w G h₀ C A env r (.While t b [] p) (.wh (cE t r) (mD b r)):=by
 intro U Z s Q X en S h
 refine aI h fun k h=>?_
 refine wpAny_While (codeAny_whileLoop (fun k s'=>∃ U' Z',f6 w.params G h₀ env Z s Z' s'∧bF G env r U' Z' s'.heap∧
  iA (fun U' K' Z'=>oA C (cE t r) U' (df C (cE t r) U') K' Z') (fun U' K' Z'=>eR C (mD b r) U' K' Z') k U' Q Z') ?_ k ⟨U,Z,lr.refl S,en,h⟩)
 intro k s' p0;refine o2x3 p0 fun U' Z' g e' h=>?_;clear p0
 induction k using Nat.casesAuxOn with
 |zero=>exact False.elim h
 |succ k=>
  replace h:=dx.mp h
  refine eI ((eT D F fit T okt).2 U' Z' s' _ _ e' g.st h) fun c Zq sa h1 g1=>?_
  induction c using Bool.casesOn with
  |true=>
   refine af (aH rfl) ?_
   refine wpAny_mono (hb U' Zq sa _ _ (e'.go g.st g1) g1.st (h1.1 rfl)) (fun f sb p0=>?_) fun za za e=>e
   refine o3x4 p0 fun fl U2 Z2 q hf g2 e2=>?_;clear p0
   have gg:=(g.trans (f6.of e' g1)).trans g2
   induction fl using Fl.casesOn with
   |next=>refine af hf ?_;exact⟨k,Nat.lt_succ_self _,U2,Z2,gg,e2,q⟩
   |ret x=>
    refine o1x2 hf fun v e1 rv=>?_;clear hf;refine af e1 ?_
    exact⟨.ret x,U2,Z2,q,⟨v,rfl,rv⟩,gg,e2⟩
  |false=>
   refine af (aE Bool.false_ne_true) ?_
   exact wpAny_execs_nil ⟨.next,U',Zq,h1.2 rfl,rfl,g.trans (f6.of e' g1),e'.go g.st g1⟩
theorem vN{t e:Expr}(oke:bN e (some sc)=true)(hc:¬fQ e=true):∃ a b c d,e=.ListComp a b c d:=by
 induction e using Expr.casesOn<;>first | exact absurd rfl hc | exact⟨_,_,_,_,rfl⟩ | exact ff oke
theorem ip{m:Nat}(ih:∀ t:Stmt,sizeOf t<m→BR t sc=true→g8 prog w G h₀ C A env r t (cS t r)){l:List Stmt}(hl:sizeOf l<m)(h:iO l sc=true):lq prog w G h₀ C A env r l (mD l r):=
 om h fun t ht h'=>ih t (Nat.lt_trans (List.sizeOf_lt_of_mem ht) hl) h'
theorem yv(D:gN prog w K G h₀)(F:jy prog w G h₀ C n)(fit:dw n A)(T:fj h₀ env r sc):∀ (m:Nat) (t:Stmt),sizeOf t<m→BR t sc=true→g8 prog w G h₀ C A env r t (cS t r):=by
 intro m
 induction m with
 |zero=>intro t ht;exact absurd ht (Nat.not_lt_zero _)
 |succ m ih=>
  intro t hsz ok
  induction t using Stmt.casesOn with
  |Expr e p=>exact t9 D F fit T (dj (a:=bN e (some sc)) ok).1 (dj (b:=fQ e) ok).2
  |Return e p=>
   induction e using Option.casesOn with
   |none=>exact ff ok
   |some e=>exact vJ D F fit T ok
  |Assign ts e p=>
   induction ts using List.casesOn with
   |nil=>exact ff ok
   |cons t ts=>induction ts using List.casesOn with
    |cons _ _=>exact ff ok
    |nil=>
     replace ok:=pI (a:=qj (some sc) t) (b:=bN e (some sc)) (c:=vO t e) ok
     refine vE D F fit T ok.1.1 ok.1.2 ok.2 ?_
     by_cases hc:fQ e=true
     ·exact .inl hc
     ·exact .inr (vN (t:=t) ok.1.2 hc)
  |AugAssign t op e p=>
   induction t using Expr.casesOn with
   |Name x px=>exact uK D F fit T (dj (b:=bN e (some sc)) ok).2
   |Attribute o a ap=>exact uL D F fit T (dj (a:=bN o (some sc)) ok).1 (dj (b:=bN e (some sc)) ok).2
   |_=>exact ff ok
  |If t a b p=>
   replace ok:=pI (a:=bN t (some sc)) (b:=iO a sc) (c:=iO b sc) ok
   exact zf D F fit T ok.1.1 (ip ih (zz (Ba (Stmt.If.sizeOf_spec ..)) hsz) ok.1.2) (ip ih (zz (A9 (Stmt.If.sizeOf_spec ..)) hsz) ok.2)
  |While t b oe p=>
   induction oe using List.casesOn with
   |cons _ _=>exact ff ok
   |nil=>
    replace ok:=dj (a:=bN t (some sc)) (b:=iO b sc) ok
    exact yj D F fit T ok.1 (ip ih (zz (Ba (Stmt.While.sizeOf_spec ..)) hsz) ok.2)
  |For t it b oe p=>
   induction oe using List.casesOn with
   |cons _ _=>exact ff ok
   |nil=>
    replace ok:=E8 (a:=qj none t) (b:=dF t) (c:=jT t) (d:=bN it (some sc)) (e:=dG it) (f:=iO b sc) ok
    exact wP D F fit T ok.1.1.1.1.1 ok.1.1.1.1.2 ok.1.1.1.2 ok.1.1.2 ok.1.2 (ip ih (by simp at hsz;lia) ok.2)
  |Raise e c p=>exact fun U Z s Q X en S h=>False.elim h
  |_=>exact ff ok
end
theorem jX{x:Str}(hx:fZ x≠0):∀ {names:List (Str×NameKind)} {i:Nat} {k:NameKind},names.lookup x=some k→∃ j,fD (names.map fun p=>(fZ p.1,p.2)) (fZ x) i=some (j,k)
 |[],i,k,h=>by simp at h
 |(n,k')::r,i,k,h=>by
  rw[List.lookup_cons] at h
  (refine af List.map_cons ?_;rw[fD])
  induction z:x == n using Bool.casesOn with
  |true=>
   rw[z] at h;obtain rfl:=aQ h
   refine af (aH (by rw[beq_iff_eq.mp z])) ?_
   exact⟨i,rfl⟩
  |false=>
   rw[z] at h
   have:¬fZ n=fZ x:=fun q=>by
    have:=mn hx q.symm
    rw[this] at z;simp at z
   refine af (aE this) ?_
   exact jX hx h
theorem rh:∀ {l:List Nat},jU l=true→l.Nodup
 |[],_=>List.nodup_nil
 |a::l,h=>by
  unfold jU at h
  (rewrite[Bool.and_eq_true] at h;rw[Bool.not_eq_true'] at h)
  exact List.nodup_cons.mpr ⟨by simpa using h.1,rh h.2⟩
theorem cU:∀ (names:List (Str×NameKind)) (k:Nat) (acc:List (Str×Addr)) (x:Str),(acc.lookup x).isSome=true∨names.lookup x=some .cell→((cellsFrom k names acc).lookup x).isSome=true
 |[],k,acc,x,h=>by
  rcases h with h | h
  ·exact h
  ·simp at h
 |(n,kd)::r,k,acc,x,h=>by
  unfold cellsFrom
  have up:∀ c,(acc.lookup x).isSome=true→(((n,c)::acc).lookup x).isSome=true:=fun c q=>by
   refine af List.lookup_cons ?_
   induction x == n using Bool.casesOn with
   |true=>rfl
   |false=>exact q
  rcases h with h | h
  ·split
   ·exact cU r _ _ x (.inl (up k h))
   ·exact cU r _ _ x (.inl h)
  ·rw[List.lookup_cons] at h
   induction z:x == n using Bool.casesOn with
   |true=>
    rw[z] at h;refine af (aQ h) ?_
    refine af (aH (by decide)) ?_
    refine cU r _ _ x (.inl ?_)
    (refine af List.lookup_cons ?_;refine af z ?_);rfl
   |false=>
    rw[z] at h
    split
    ·exact cU r _ _ x (.inr h)
    ·exact cU r _ _ x (.inr h)
theorem vP{c:Option Nat}{f:Nat}{fd:FD}(h:po c f=some fd):vQ fd=true:=by
 refine List.all_eq_true.mp AR fd ?_
 induction c using Option.casesOn with
 |none=>
  have hf:f<78:=by
   delta po at h
   dsimp only at h
   split at h
   ·assumption
   ·exact ns h
  exact List.mem_append_left _ (List.mem_filterMap.mpr ⟨f,List.mem_range.mpr hf,h⟩)
 |some c=>
  have hf:fR.contains (c,f)=true:=by
   delta po at h
   dsimp only at h
   split at h
   ·assumption
   ·exact ns h
  exact List.mem_append_right _ (List.mem_filterMap.mpr ⟨(c,f),by simpa using hf,h⟩)
section
variable {prog:Program} {w:World} {A:Around} {K:Frag} {G:GT} {h₀:Heap} {n:Nat}
theorem rg{sc:Scope}{kind:Str→Option NameKind}{h:Heap}(hk:∀ x,kind x=sc.names.lookup x)(ps:List Str):∀ (vals:List Value) (vs:List V) (m cm:Str→Option Value) (U:Env),bx G h vals vs→ps.length=vs.length→
  (∀ p ∈ ps,fZ p≠0∧(sc.names.lookup p=some .local∨sc.names.lookup p=some .cell))→
  (∀ x i v,hO (aY sc) x=.loc i→U i=some v→∃ val,bh G h val v∧((kind x=some .local∧m x=some val)∨(kind x=some .cell∧cm x=some val)))→
  ∀ x i v,hO (aY sc) x=.loc i→(bV (ps.map fun x=>((fD (aY sc) (fZ x) 0).map (·.1)).getD 99) vs U) i=some v→
   ∃ val,bh G h val v∧((kind x=some .local∧(bindL kind (ps.zip vals) m) x=some val)∨(kind x=some .cell∧(bindC kind (ps.zip vals) cm) x=some val)):=by
 induction ps with
 |nil=>intro vals vs m cm U rl hl hp inv x i v hx hv;exact inv x i v hx hv
 |cons p ps ih=>
  intro vals vs m cm U rl hl hp inv x i v hx hv
  induction rl using bx.casesOn with
  |nil=>simp at hl
  |@cons val vals u vs rv rl=>
   refine o0x2 (hp p (.head _)) fun hp0 hpk=>?_
   have hpl:∃ j k,fD (aY sc) (fZ p) 0=some (j,k)∧sc.names.lookup p=some k∧(k=.local∨k=.cell):=by
    refine Or.elim hpk (fun h=>?_) (fun h=>?_);all_goals clear hpk
    ·refine aI (jX (i:=0) hp0 h) fun j hj=>?_;exact⟨j,_,hj,h,.inl rfl⟩
    ·refine aI (jX (i:=0) hp0 h) fun j hj=>?_;exact⟨j,_,hj,h,.inr rfl⟩
   refine cP fun PP kk=>?_
   refine o2x3 hpl fun j k hj hlk hkk=>?_;clear hpl
   have hr:hO (aY sc) p=.loc j:=by
    skip
    (refine ak (aE hp0) ?_;refine af hj ?_)
    refine zD hkk ?_ ?_;all_goals clear hkk<;>rfl
   have inj:∀ y i,hO (aY sc) y=.loc i→i=j→y=p:=fun y i hy hij=>by
    subst hij
    obtain⟨_,q,hq,hqy⟩:=fB hy
    obtain⟨_,q',hq',hqp⟩:=fB hr
    rw[hq] at hq';obtain rfl:=aQ hq'
    (refine bt hqy ?_;(refine bt hqp ?_;with_reducible rfl))
   refine kk ?_
   refine af List.zip_cons_cons ?_
   have hv':bV (ps.map fun x=>((fD (aY sc) (fZ x) 0).map (·.1)).getD 99) vs (U.set j u) i=some v:=by
    (rewrite[List.map_cons] at hv;rewrite[bV] at hv;rw[hj] at hv)
    exact hv
   have key:=ih vals vs (if kind p=some .local then fun y=>if y=p then some val else m y else m) (if kind p=some .local then cm else fun y=>if y=p then some val else cm y) (U.set j u) rl (by simpa using hl) (fun p hp'=>hp p (.tail _ hp'))
    (fun y i' v' hy hv'=>by
     rcases lO hv' with⟨hij,rfl⟩ | ⟨hne,hv'⟩
     ·have:=inj y i' hy hij
      subst this
      refine⟨val,rv,?_⟩
      (refine af (hk y) ?_;refine af hlk ?_)
      refine zD hkk ?_ ?_;all_goals clear hkk
      ·left;simp
      ·right;simp
     ·have hyp:y≠p:=fun q=>by subst q;rw[hr] at hy;cases hy;exact hne rfl
      refine o1x2 (inv y i' v' hy hv') fun val' r1 r2=>?_
      refine⟨val',r1,?_⟩
      rcases r2 with⟨r2,r3⟩ | ⟨r2,r3⟩
      ·left;refine⟨r2,?_⟩;split
       ·show(if y=p then _ else _)=_
        refine ak (aE hyp) ?_;exact r3
       ·exact r3
      ·right;refine⟨r2,?_⟩;split
       ·exact r3
       ·show(if y=p then _ else _)=_
        refine ak (aE hyp) ?_;exact r3)
   exact key x i v hx hv'
theorem zE(D:gN prog w K G h₀)(F:jy prog w G h₀ (a9 n) n)(fit:Bk (n+1) A){fd:FD}(ok:vQ fd=true){a:Addr}(at_:u8 h₀ a fd){vals:List Value}{vs:List V}{Q:aP}{Z:H}{s:Shared}{R:Result→Shared→Prop}(rl:bx G s.heap vals vs)(S:St w.params G h₀ Z s.heap)
  (h:Fi (a9 n) fd.fn vs Q Z) (hR:∀ v s',bU w.params G h₀ Z s Q v s'→R (.ok (.ret v)) s'):codeAny (model prog w) A (.call (.ref a) ⟨vals,[]⟩) R s:=by
 refine cP fun PP kk=>?_
 refine o2x9 at_.out fun o FD' ho hdata hsc hbody hclo hglb hblt hcd hbind=>?_
 delta vQ at ok
 simp only[Bool.and_eq_true,decide_eq_true_eq,Bool.not_eq_true',List.all_eq_true,Bool.or_eq_true,beq_iff_eq,bne_iff_ne] at ok
 refine o0x2 ok fun q0 o9=>?_;clear ok;obtain⟨⟨⟨⟨⟨⟨⟨o1,o2⟩,o3⟩,o4⟩,o5⟩,o6⟩,o7⟩,o8⟩:=q0
 refine o0x2 h fun hlen h=>?_
 have hpl:fd.fn.ps=fd.params.map fun x=>((fD (aY fd.scope) (fZ x) 0).map (·.1)).getD 99:=rfl
 have hbd:fd.fn.body=mD fd.body (hO (aY fd.scope)):=rfl
 (rewrite[hpl] at hlen;rw[List.length_map] at hlen)
 have l1:=rl.length
 have hk:∀ x,(callEnvC FD' s.heap.objs.size a).kindOf x=fd.scope.names.lookup x:=fun x=>by
  show FD'.scope.names.lookup x=_
  (refine af hsc ?_;with_reducible rfl)
 refine kk ?_
 refine codeAny_call_cells (fd:=FD') (by have:=fit.depth;show A.depth<1000;lia) (S.base _ _ ho) hdata (D.lim.keeps S.base) (hcd.keeps S.base) hbody (hbind vals (by lia)) hclo (fun x hx=>?_) (fun sa I=>?_) (by refine af hsc ?_;exact o2) (by refine af hsc ?_;exact o3) (by refine af hsc ?_;exact o1)
 ·have hx1:x.1 ∈ fd.params:=(List.of_mem_zip (a:=x.1) (b:=x.2) hx).1
  refine af hsc ?_
  rcases(o7 x.1 hx1).2 with q | q
  ·exact .inl q
  ·exact .inr ⟨q,cU _ _ _ _ (.inr q)⟩
 ·generalize hE:callEnvC FD' s.heap.objs.size a=env at I hk ⊢
  have eL:env.locals=s.heap.objs.size:=by refine bt hE ?_;rfl
  have esc:env.scope=fd.scope:=by refine bt hE ?_;exact hsc
  have ecl:env.cells=cellsFrom (s.heap.objs.size+1) fd.scope.names []:=by refine bt hE ?_;show cellsFrom _ FD'.scope.names []=_;(refine af hsc ?_;with_reducible rfl)
  have egl:env.globals=mainGlobals∧env.builtins=builtinsNs:=by refine bt hE ?_;exact⟨hglb,hblt⟩
  have hsz:s.heap.get? s.heap.objs.size=none:=dS _
  have new:∀ b,Fr env b→s.heap.get? b=none:=fun b f=>by
   rcases f with f | ⟨x,f⟩
   ·(refine af f ?_;refine af eL ?_);exact hsz
   ·have:=I.above x b (mem_of_lookup f)
    rw[eL] at this
    exact Heap.get?_none_of_le (Nat.le_of_lt this)
  have base:∀ b,s.heap.get? b=none→h₀.get? b=none:=fun b e=>by
   induction q:h₀.get? b using Option.casesOn with
   |none=>rfl
   |some x=>rw[S.base b x q] at e;exact sn e
  have ckn:∀ x,env.kindOf x=some .cell→∃ c,env.cells.lookup x=some c:=fun x hx=>by
   rw[hk x] at hx
   refine af ecl ?_
   exact Option.isSome_iff_exists.mp (cU _ _ _ _ (.inr hx))
  have T:fj h₀ env (hO (aY fd.scope)) fd.scope:=by
   refine⟨esc,rfl,o1,fun x i hx=>?_,fun x y i hx hy=>?_,I.apart,fun x c hc=>Nat.ne_of_gt (I.above x c hc),fun b f=>base b (new b f),ckn,o4⟩
   ·refine cP fun PP kk=>?_
    refine o0x2 (fB hx) fun q0 za=>?_;obtain⟨k,h1,h2,h3⟩:=q0
    have:=o6 (x,k) (mem_of_lookup h1)
    have hkx:env.kindOf x=some k:=by refine ak (hk x) ?_;exact h1
    refine kk ?_
    rcases this with(q | q) | q
    ·have q:k=.local:=q
     subst q;exact .inl hkx
    ·have q:k=.cell:=q
     subst q;exact .inr ⟨hkx,ckn x hkx⟩
    ·exact absurd q h2
   ·refine cP fun PP kk=>?_
    obtain⟨_,p,hp,hpx⟩:=fB hx
    obtain⟨_,p',hp',hpy⟩:=fB hy
    rw[hp] at hp';obtain rfl:=aQ hp'
    refine kk ?_
    (refine bt hpx ?_;(refine bt hpy ?_;with_reducible rfl))
  refine o2x1 I.toInCall.same fun h1 tk1 e1=>?_
  have g0:Go w.params G h₀ Z s Z sa:=by
   have k:=I.toInCall.keep
   rw[e1] at k ⊢
   exact Go.ext S k
  have mJ:=g0.stays S
  have rl1:=rl.stays mJ
  have en:bF G env (hO (aY fd.scope)) (bV fd.fn.ps vs Env.nil) Z sa.heap:=by
   refine⟨_,_,by refine af esc ?_;exact o1,egl,I.toInCall.ns,I.cell,fun b f=>?_,fun x i v hx hv=>?_,fun x v hx=>?_⟩
   ·have no:¬bv Z b:=S.fresh (new b f)
    rcases f with f | ⟨x,f⟩
    ·refine af f ?_
     refine cP fun PP kk=>?_
     have hn:=I.toInCall.ns
     refine o3x3 (id hn) fun o es ep q1 q2 za=>?_
     refine kk ?_
     exact⟨o,q1,jc hn o q1,f▸no⟩
    ·refine cP fun PP kk=>?_
     have hcells:∃ v,sa.heap.IsCell b v:=⟨_,I.cell x b f⟩
     refine o2x2 hcells fun v o q1 q2=>?_;clear hcells
     refine kk ?_
     exact⟨o,q1,(fun z=>by rcases z with⟨_,vs,kk,z⟩ | ⟨_,vs,z⟩<;>rw[q2] at z<;>cases z),no⟩
   ·rw[hpl] at hv
    refine o1x2 (rg (h:=sa.heap) hk fd.params vals vs (fun za=>none) (fun za=>none) Env.nil rl1 hlen (fun p hp=>o7 p hp) (fun x i v za q=>by exact ns q) x i v hx hv) fun val r1 r2=>?_
    refine⟨val,r1,r2.imp id fun q=>⟨.inl q.1,q.2,ckn x q.1⟩⟩
   ·refine o0x2 (vK hx) fun q1 q2=>?_
    exact⟨by refine ak (hk x) ?_;exact q1,q2⟩
  have hs:=om (sc:=fd.scope) o9 (fun t za ht=>yv D F (fit.deeper env) T _ t (Nat.le_refl _) ht) (bV fd.fn.ps vs Env.nil) Z sa (fy Q) (fun e s'=>wpAny (model prog w) (A.deeper env) («leaving» env e) (fun za s''=>R (.error e) s'') (fun e' s''=>R (.error e') s'') s') en g0.st (by refine bt hbd ?_;exact h)
  refine wpAny_mono hs (fun f s' p0=>?_) fun za za e=>e
  refine o3x4 p0 fun fl U' Z' q hf g za=>?_;clear p0
  have gg:Go w.params G h₀ Z s Z' s':=by
   refine o2x1 g.eq fun h2 t2 e2=>?_
   refine⟨⟨h2,t2,by(refine ak (e2) ?_;(refine af e1 ?_;with_reducible rfl))⟩,g.st,⟨fun b o eb no=>?_,fun b qb=>?_⟩⟩
   ·exact g.keep b o (g0.eff.keep b o eb no) no fun f=>by rw[new b f] at eb;exact ns eb
   ·rcases g.own b qb with z | ⟨z,_⟩
    ·exact .inl z
    ·refine .inr ?_
     induction qs:s.heap.get? b using Option.casesOn with
     |none=>rfl
     |some o=>rw[I.toInCall.keep b o qs] at z;exact sn z
  induction fl using Fl.casesOn with
  |next=>
   subst hf
   exact hR _ _ ⟨.none,Z',q,.none,gg⟩
  |ret x=>
   refine o1x2 hf fun v e1 rv=>?_;clear hf;obtain rfl:=e1
   exact hR _ _ ⟨x,Z',q,rv,gg⟩
theorem og(D:gN prog w K G h₀):∀ n,jy prog w G h₀ (a9 n) n
 |0=>fun A fit c f a za ha vals vs Q Z s R rl S h za=>h.elim
 |n+1=>fun A fit c f a hc ha vals vs Q Z s R rl S h hR=>by
  refine o1x2 h fun fd hfd h=>?_
  have at_:u8 h₀ a fd:=by
   induction c using Option.casesOn with
   |none=>exact D.fnd f fd a hfd ha
   |some c=>exact D.mtd c f fd a hfd ha
  exact zE D (og D n) fit (vP hfd) at_ rl S h hR
end
end Mine
namespace Mine
open PySem
structure Ev (C:aO) (U:Env) (Z:H) (e:E) (v:V):Prop where
 go:∀ Q:aP,Q v Z→df C e U Q Z
structure Es (C:aO) (U:Env) (Z:H) (l:List E) (vs:List V):Prop where
 go:∀ Q:List V→H→Prop,Q vs Z→ky C l U Q Z
structure Et (C:aO) (U:Env) (Z:H) (e:E) (b:Bool):Prop where
 go:∀ Q:Bool→H→Prop,Q b Z→oA C e U (df C e U) Q Z
structure Eb (C:aO) (U:Env) (Z:H) (op:BoolOp) (l:List E) (b:Bool):Prop where
 go:∀ Q:Bool→H→Prop,Q b Z→yg C op l U Q Z
structure Cv (C:aO) (c:Option Nat) (f:Nat) (vs:List V) (Z:H) (v:V):Prop where
 go:∀ Q:aP,Q v Z→C c f vs Q Z
structure SS (K:aO) (l:List C) (U:Env) (Q:bL) (Z:H):Prop where
 go:eR K l U Q Z
structure WE (K:aO) (e:E) (U:Env) (P:aP) (Z:H):Prop where
 go:df K e U P Z
section
variable {C:aO} {U:Env} {Z:H}
theorem aj{v:V}:Ev C U Z (.k v) v:=⟨fun za q=>q⟩
theorem ac{i:Nat}{v:V}(h:U i=some v):Ev C U Z (.x i) v:=⟨fun za q=>⟨v,h,q⟩⟩
theorem aB{op:Operator}{a b:E}{u v w:V}(ha:Ev C U Z a u)(hb:Ev C U Z b v)(h:∀ Q:aP,Q w Z→w9 op u v Q Z):Ev C U Z (.bin op a b) w:=⟨fun Q q=>ha.go _ (hb.go _ (h Q q))⟩
theorem fh{a:E}{i:Int}(h:Ev C U Z a (.int i)):Ev C U Z (.neg a) (.int (-i)):=⟨fun Q q=>h.go _ q⟩
theorem EV{a:E}{b:Bool}(h:Et C U Z a b):Ev C U Z (.not a) (.bool (!b)):=⟨fun Q q=>h.go (fun b Zq=>Q (.bool (!b)) Zq) q⟩
theorem nW{op:BoolOp}{l:List E}{b:Bool}(h:Eb C U Z op l b):Ev C U Z (.bl op l) (.bool b):=⟨fun Q q=>h.go (fun b Zq=>Q (.bool b) Zq) q⟩
theorem nU{t a b:E}{v:V}(h:Et C U Z t true)(k:Ev C U Z a v):Ev C U Z (.ite t a b) v:=⟨fun Q q=>h.go _ ⟨fun za=>k.go Q q,fun h=>nomatch h⟩⟩
theorem nV{t a b:E}{v:V}(h:Et C U Z t false)(k:Ev C U Z b v):Ev C U Z (.ite t a b) v:=⟨fun Q q=>h.go _ ⟨fun h=>(nomatch h),fun za=>k.go Q q⟩⟩
theorem j7{a b:E}{op:CmpOp}{u v:V}{c:Bool}(ha:Ev C U Z a u)(hb:Ev C U Z b v)(h:eg Z op u v c):Ev C U Z (.cmp a op b) (.bool c):=⟨fun Q q=>ha.go _ (hb.go _ ⟨c,h,q⟩)⟩
theorem aF{l:List E}{vs:List V}(h:Es C U Z l vs):Ev C U Z (.tup l) (.tup vs):=⟨fun Q q=>h.go (fun vs Zq=>Q (.tup vs) Zq) q⟩
theorem qK{a:Addr}{c n:Nat}{fs:List (Nat×V)}{v:V}(e:Z a=some (.inst c fs))(hc:(bo c).contains n=true)(hv:dK fs n=some v):cV Z (.ref a) n=some v:=by
 unfold cV;dsimp only;refine af e ?_;dsimp only;refine ak (aH hc) ?_;exact hv
theorem zA{o:E}{n:Nat}{a:Addr}{c:Nat}{fs:List (Nat×V)}{v:V}(h:Ev C U Z o (.ref a))(e:Z a=some (.inst c fs))(hc:(bo c).contains n=true)(hv:dK fs n=some v):Ev C U Z (.att o n) v:=
 ⟨fun Q q=>h.go _ ⟨v,qK e hc hv,q⟩⟩
theorem ah{o i:E}{u k v:V}(h:Ev C U Z o u)(hk:Ev C U Z i k)(e:bE Z u k=some v):Ev C U Z (.idx o i) v:=⟨fun Q q=>h.go _ (hk.go _ ⟨v,e,q⟩)⟩
theorem aR{i:Nat}{u k v:V}(h:U i=some u)(e:bE Z u k=some v):Ev C U Z (.idx (.x i) (.k k)) v:=ah (ac h) aj e
theorem bW{i n:Nat}{a:Addr}{c:Nat}{fs:List (Nat×V)}{v:V}(h:U i=some (.ref a))(e:Z a=some (.inst c fs))(hc:(bo c).contains n=true)(hv:dK fs n=some v):Ev C U Z (.att (.x i) n) v:=zA (ac h) e hc hv
theorem aK{a:Addr}{xs:List V}{i:Int}{v:V}(e:Z a=some (.list xs))(h0:0≤i)(h:xs[i.toNat]? = some v):bE Z (.ref a) (.int i)=some v:=by
 show kW (.int i) (Z a)=_;refine af e ?_;exact(aH h0).trans h
theorem aG{a:Addr}{es:List (V×V)}{k v:V}(e:Z a=some (.dict es))(hk:be es k=true)(h:aJ es k=some v):bE Z (.ref a) k=some v:=by
 show kW _ (Z a)=_;refine af e ?_;exact(aH hk).trans h
theorem bQ{l:List V}{i:Int}{v:V}(h0:0≤i)(h:l[i.toNat]? = some v):bE Z (.tup l) (.int i)=some v:=(aH h0).trans h
theorem mh{o i:E}{l:List V}{j:Int}(h:Ev C U Z o (.tup l))(hi:Ev C U Z i (.int j))(b:0≤j∧j<2 ^ 40):Ev C U Z (.slcL o i) (.tup (l.drop j.toNat)):=⟨fun Q q=>h.go _ (hi.go _ ⟨b,q⟩)⟩
theorem mi{o i:E}{l:List V}{j:Int}(h:Ev C U Z o (.tup l))(hi:Ev C U Z i (.int j))(b:0≤j∧j<2 ^ 40):Ev C U Z (.slcH o i) (.tup (l.take j.toNat)):=⟨fun Q q=>h.go _ (hi.go _ ⟨b,q⟩)⟩
theorem mz{f:Nat}{vs:List V}{P:aP}(hc:db f=false)(h:C none f vs P Z):fK C (.fn f) vs P Z:=by
 unfold fK;dsimp only;refine af (aE (by rw[hc];exact Bool.false_ne_true)) ?_;exact h
theorem az{f:Nat}{as:List E}{vs:List V}{v:V}(h:Es C U Z as vs)(hc:db f=false)(hf:Cv C none f vs Z v):Ev C U Z (.call (.k (.fn f)) as) v:=⟨fun Q q=>⟨rfl,h.go _ (mz hc (hf.go Q q))⟩⟩
theorem a8{n:Nat}{as:List E}{vs:List V}{v:V}(h:Es C U Z as vs)(hf:∀ Q:aP,Q v Z→xd n vs Q Z):Ev C U Z (.call (.k (.bi n)) as) v:=⟨fun Q q=>⟨rfl,h.go _ (hf Q q)⟩⟩
theorem bK{a:Addr}{xs:List V}(e:Z a=some (.list xs)):∀ Q:aP,Q (.int xs.length) Z→xd 0 [.ref a] Q Z:=fun Q q=>⟨xs,e,q⟩
theorem gG{a:Addr}{c:Nat}{fs:List (Nat×V)}(e:Z a=some (.inst c fs)):fC Z (.ref a)=some (.inst c):=by unfold fC;dsimp only;(refine af e ?_;with_reducible rfl)
theorem lV{a:Addr}{es:List (V×V)}(e:Z a=some (.dict es)):fC Z (.ref a)=some .dict:=by unfold fC;dsimp only;(refine af e ?_;with_reducible rfl)
theorem lU{a:Addr}{xs:List V}(e:Z a=some (.list xs)):fC Z (.ref a)=some .list:=by unfold fC;dsimp only;(refine af e ?_;with_reducible rfl)
theorem ua{o:E}{m c:Nat}{as:List E}{vs:List V}{v:V}{a:Addr}{fs:List (Nat×V)}(ho:Ev C U Z o (.ref a))(e:Z a=some (.inst c fs))(hm:fq (.inst c) m=true)(h:Es C U Z as vs)(hf:Cv C (some c) m (.ref a::vs) Z v) :
  Ev C U Z (.mth o m as) v:=⟨fun Q q=>ho.go _ ⟨_,gG e,hm,h.go _ (hf.go Q q)⟩⟩
theorem da{o k:E}{a:Addr}{es:List (V×V)}{x:V}(ho:Ev C U Z o (.ref a))(e:Z a=some (.dict es))(hk:Ev C U Z k x)(hi:be es x=true):Ev C U Z (.mth o 99 [k]) ((aJ es x).getD .none):=
 ⟨fun Q q=>ho.go _ ⟨_,lV e,rfl,hk.go _ ⟨rfl,es,e,hi,q⟩⟩⟩
theorem gK{o k d:E}{a:Addr}{es:List (V×V)}{x y:V}(ho:Ev C U Z o (.ref a))(e:Z a=some (.dict es))(hk:Ev C U Z k x)(hd:Ev C U Z d y)(hi:be es x=true):Ev C U Z (.mth o 99 [k,d]) ((aJ es x).getD y):=
 ⟨fun Q q=>ho.go _ ⟨_,lV e,rfl,hk.go _ (hd.go _ ⟨rfl,es,e,hi,q⟩)⟩⟩
theorem ae:Es C U Z [] []:=⟨fun za q=>q⟩
theorem ab{e:E}{r:List E}{v:V}{vs:List V}(h:Ev C U Z e v)(k:Es C U Z r vs):Es C U Z (e::r) (v::vs):=⟨fun Q q=>h.go _ (k.go (fun vs Zr=>Q (v::vs) Zr) q)⟩
theorem uc{a:E}(h:Et C U Z a false):Et C U Z (.not a) true:=⟨fun Q q=>h.go (fun b Zq=>Q (!b) Zq) q⟩
theorem nX{a:E}(h:Et C U Z a true):Et C U Z (.not a) false:=⟨fun Q q=>h.go (fun b Zq=>Q (!b) Zq) q⟩
theorem EW{a:E}{b:Bool}(h:Et C U Z a b):Et C U Z (.not a) (!b):=⟨fun Q q=>h.go (fun b Zq=>Q (!b) Zq) q⟩
theorem bd{op:BoolOp}{l:List E}{b:Bool}(h:Eb C U Z op l b):Et C U Z (.bl op l) b:=⟨h.go⟩
theorem aM{a b:E}{op:CmpOp}{u v:V}{c:Bool}(ha:Ev C U Z a u)(hb:Ev C U Z b v)(h:eg Z op u v c):Et C U Z (.cmp a op b) c:=⟨fun Q q=>ha.go _ (hb.go _ ⟨c,h,q⟩)⟩
theorem aq{a:E}{op:CmpOp}{u k:V}{c:Bool}(ha:Ev C U Z a u)(h:eg Z op u k c):Et C U Z (.cmp a op (.k k)) c:=aM ha aj h
theorem fp{a b d:E}{op op2:CmpOp}{u v w:V}{c r:Bool}(ha:Ev C U Z a u)(hb:Ev C U Z b v)(h:eg Z op u v c)(hd:Ev C U Z d w)(h2:eg Z op2 v w r):Et C U Z (.cmp2 a op b op2 d) (c && r):=
 ⟨fun Q q=>ha.go _ (hb.go _ ⟨c,h,fun hc=>hd.go _ ⟨r,h2,by subst hc;exact q⟩,fun hc=>by subst hc;exact q⟩)⟩
theorem gL{f:Nat}{as:List E}{vs:List V}{b:Bool}(h:Es C U Z as vs)(hc:db f=false)(hf:Cv C none f vs Z (.bool b)):Et C U Z (.call (.k (.fn f)) as) b:=⟨fun Q q=>(az h hc hf).go (xx Q) q⟩
theorem ue{n:Nat}{as:List E}{vs:List V}{b:Bool}(h:Es C U Z as vs)(hf:∀ Q:aP,Q (.bool b) Z→xd n vs Q Z):Et C U Z (.call (.k (.bi n)) as) b:=⟨fun Q q=>(a8 h hf).go (xx Q) q⟩
theorem CA{i:Nat}{b:Bool}(h:U i=some (.bool b)):Et C U Z (.x i) b:=⟨fun Q q=>⟨_,h,q⟩⟩
theorem ud{o i:E}{u k:V}{b:Bool}(h:Ev C U Z o u)(hk:Ev C U Z i k)(e:bE Z u k=some (.bool b)):Et C U Z (.idx o i) b:=⟨fun Q q=>h.go _ (hk.go _ ⟨_,e,q⟩)⟩
theorem bc{op:BoolOp}{e:E}{b:Bool}(h:Et C U Z e b):Eb C U Z op [e] b:=⟨h.go⟩
theorem b7{e f:E}{r:List E}{b:Bool}(h:Et C U Z e true)(k:Eb C U Z .And (f::r) b):Eb C U Z .And (e::f::r) b:=⟨fun Q q=>h.go _ ⟨fun za=>k.go Q q,fun h=>nomatch h⟩⟩
theorem d8{e f:E}{r:List E}(h:Et C U Z e false):Eb C U Z .And (e::f::r) false:=⟨fun Q q=>h.go _ ⟨fun h=>(nomatch h),fun za=>q⟩⟩
theorem aZ{e f:E}{r:List E}{b:Bool}(h:Et C U Z e false)(k:Eb C U Z .Or (f::r) b):Eb C U Z .Or (e::f::r) b:=⟨fun Q q=>h.go _ ⟨fun h=>(nomatch h),fun za=>k.go Q q⟩⟩
theorem du{e f:E}{r:List E}(h:Et C U Z e true):Eb C U Z .Or (e::f::r) true:=⟨fun Q q=>h.go _ ⟨fun za=>q,fun h=>nomatch h⟩⟩
theorem qm{b:Bool}(h:b=false):(!b)=true:=by refine af h ?_;rfl
theorem Fw{b:Bool}(h:b=true):(!b)=false:=by refine af h ?_;rfl
theorem CW{b c:Bool}(h:b=true)(k:c=true):(b && c)=true:=by(refine af h ?_;refine ak (k) ?_);rfl
theorem uO{b c:Bool}(h:b=false):(b && c)=false:=by refine af h ?_;rfl
theorem AP{b c:Bool}(h:c=false):(b && c)=false:=by(refine af h ?_;rw[Bool.and_false])
theorem ai{e:E}{b c:Bool}(h:Et C U Z e b)(k:b=c):Et C U Z e c:=k▸h
theorem fg{e:E}{b c:V}(h:Ev C U Z e b)(k:b=c):Ev C U Z e c:=k▸h
theorem ug{u v:V}{c:Bool}(h:(pv 30 u && pv 30 v)=true)(e:c=dJ u v):zC Z u v c:=by
 induction u using V.casesOn with
 |ref a=>exact ff h
 |bool a=>exact ff h
 |_=>exact⟨h,e⟩
theorem pB{u v:V}(h:(pv 30 u && pv 30 v)=true):eg Z .Eq u v (dJ u v):=ug h rfl
theorem pA{u v:V}(h:(pv 30 u && pv 30 v)=true):eg Z .NotEq u v (!dJ u v):=ug h (Bool.not_not _)
theorem w2{x y:Bool}:eg Z .Eq (.bool x) (.bool y) (x == y):=rfl
theorem ao{x y:Int}:eg Z .Eq (.int x) (.int y) (decide (x=y)):=⟨rfl,rfl⟩
theorem cB{x y:Int}:eg Z .NotEq (.int x) (.int y) (!decide (x=y)):=⟨rfl,(Bool.not_not _)⟩
theorem aW{x y:Int}:eg Z .Lt (.int x) (.int y) (decide (x<y)):=⟨x,y,rfl,rfl,rfl⟩
theorem bT{x y:Int}:eg Z .LtE (.int x) (.int y) (decide (x≤y)):=⟨x,y,rfl,rfl,rfl⟩
theorem cu{x y:Int}:eg Z .Gt (.int x) (.int y) (decide (y<x)):=⟨x,y,rfl,rfl,rfl⟩
theorem cK{x y:Int}:eg Z .GtE (.int x) (.int y) (decide (y≤x)):=⟨x,y,rfl,rfl,rfl⟩
theorem bC{v:V}{c:Bool}(h:ze v=some c):eg Z .Is v .none c:=⟨rfl,h⟩
theorem eO{v:V}{c:Bool}(h:ze v=some c):eg Z .IsNot v .none (!c):=⟨rfl,by(refine ak (h) ?_;rw[Bool.not_not])⟩
theorem ke{a:Addr}{es:List (V×V)}{k:V}(e:Z a=some (.dict es))(hk:be es k=true):eg Z .In k (.ref a) (aJ es k).isSome:=by
 have h:Bg Z k (.ref a)=(match Z a with | some (.dict es)=>if be es k=true then some (aJ es k).isSome else Option.none | _=>Option.none):=by induction k using V.casesOn<;>rfl
 exact h.trans (by refine af e ?_;exact aH hk)
theorem i2{a:Addr}{es:List (V×V)}{k:V}(e:Z a=some (.dict es))(hk:be es k=true):eg Z .NotIn k (.ref a) (!(aJ es k).isSome):=by
 show Bg Z k (.ref a)=_
 rw[Bool.not_not]
 exact ke e hk
theorem kb{i:Int}:eg Z .In (.int i) .gd (gU.contains i):=rfl
variable {Q:bL} {K:aO}
theorem ay{Q:bL}(q:Q .next U Z):SS K [] U Q Z:=⟨q⟩
theorem ax{e:E}{v:V}{r:List Mine.C}(h:Ev K U Z e v)(q:Q (.ret v) U Z):SS K (.ret e::r) U Q Z:=⟨h.go _ q⟩
theorem jF{e:E}{v:V}{r:List Mine.C}(h:Ev K U Z e v)(k:SS K r U Q Z):SS K (.ex e::r) U Q Z:=⟨h.go _ k.go⟩
theorem av{i:Nat}{e:E}{v:V}{r:List Mine.C}(h:Ev K U Z e v)(k:SS K r (U.set i v) Q Z):SS K (.set (.v i) e::r) U Q Z:=⟨h.go _ k.go⟩
theorem lJ{i j:Nat}{e:E}{u v:V}{r:List Mine.C}(h:Ev K U Z e (.tup [u,v]))(k:SS K r ((U.set i u).set j v) Q Z):SS K (.set (.v2 i j) e::r) U Q Z:=⟨h.go _ ⟨_,rfl,k.go⟩⟩
theorem jG{i:Nat}{op:Operator}{e:E}{a c d:Int}{r:List Mine.C}(hi:U i=some (.int a))(h:Ev K U Z e (.int c))(hd:rX op a c=some d)(k:SS K r (U.set i (.int d)) Q Z):SS K (.augV i op e::r) U Q Z:=
 ⟨⟨a,hi,h.go _ ⟨c,d,rfl,hd,k.go⟩⟩⟩
noncomputable def qU(K:aO)(r:List Mine.C)(Q:bL):bL:=fun f U Z=>match f with
 |.next=>SS K r U Q Z
 |.ret v=>Q (.ret v) U Z
theorem lI(K:aO)(r:List Mine.C)(Q:bL):qU K r Q=fun f U' Z'=>match f with | .next=>eR K r U' Q Z' | .ret v=>Q (.ret v) U' Z':=by
 funext f U Z;induction f using Fl.casesOn
 ·exact propext ⟨fun h=>h.go,fun h=>⟨h⟩⟩
 ·rfl
theorem xz{t:E}{a b r:List Mine.C}{c:Bool}(h:Et K U Z t c)(k:c=true→SS K a U (qU K r Q) Z)(k2:c=false→SS K b U (qU K r Q) Z):SS K (.ite t a b::r) U Q Z:=by
 rw[lI] at k k2
 exact⟨h.go _ ⟨fun h=>(k h).go,fun h=>(k2 h).go⟩⟩
theorem aA{t:E}{a b r:List Mine.C}(h:Et K U Z t true)(k:SS K a U (qU K r Q) Z):SS K (.ite t a b::r) U Q Z:=xz h (fun za=>k) fun h=>nomatch h
theorem dn{t:E}{a b r:List Mine.C}(h:Et K U Z t false)(k:SS K b U (qU K r Q) Z):SS K (.ite t a b::r) U Q Z:=xz h (fun h=>nomatch h) fun za=>k
theorem au{t:E}{a r:List Mine.C}(h:Et K U Z t false)(k:SS K r U Q Z):SS K (.ite t a []::r) U Q Z:=dn h (ay k)
theorem aX{i:Nat}{e:E}{r:List Mine.C}(h:WE K e U (fun v Z'=>SS K r (U.set i v) Q Z') Z):SS K (.set (.v i) e::r) U Q Z:=by
 have:(fun v Z'=>SS K r (U.set i v) Q Z')=fun v Z'=>eR K r (U.set i v) Q Z':=by funext v Z';exact propext ⟨fun h=>h.go,fun h=>⟨h⟩⟩
 rw[this] at h;exact⟨h.go⟩
theorem bP{e:E}{r:List Mine.C}(h:WE K e U (fun v Z'=>Q (.ret v) U Z') Z):SS K (.ret e::r) U Q Z:=⟨h.go⟩
theorem pW{e:E}{r:List Mine.C}(h:WE K e U (fun za Z'=>SS K r U Q Z') Z):SS K (.ex e::r) U Q Z:=by
 have:(fun(_:V) Z'=>SS K r U Q Z')=fun za Z'=>eR K r U Q Z':=by funext v Z';exact propext ⟨fun h=>h.go,fun h=>⟨h⟩⟩
 rw[this] at h;exact⟨h.go⟩
theorem bk{e:E}{v:V}{P:aP}(h:Ev K U Z e v)(k:P v Z):WE K e U P Z:=⟨h.go _ k⟩
theorem aD{f:Nat}{as:List E}{vs:List V}{P:aP}(h:Es K U Z as vs)(hc:db f=false)(k:K none f vs P Z):WE K (.call (.k (.fn f)) as) U P Z:=⟨⟨rfl,h.go _ (mz hc k)⟩⟩
theorem oH{o:E}{m c:Nat}{as:List E}{vs:List V}{a:Addr}{fs:List (Nat×V)}{P:aP}(ho:Ev K U Z o (.ref a))(e:Z a=some (.inst c fs))(hm:fq (.inst c) m=true)(h:Es K U Z as vs)(k:K (some c) m (.ref a::vs) P Z):WE K (.mth o m as) U P Z:=
 ⟨ho.go _ ⟨_,gG e,hm,h.go _ k⟩⟩
theorem bz{as:List E}{vs:List V}{P:aP}(h:Es K U Z as vs)(k:∀ a,Z a=none→P (.ref a) (Z.set a (.list vs))):WE K (.lst as) U P Z:=⟨h.go _ k⟩
theorem gy{P:aP}(k:∀ a,Z a=none→P (.ref a) (Z.set a (.dict []))):WE K (.dct [] []) U P Z:=⟨⟨rfl,k⟩⟩
theorem aC{a:Addr}{o:O}:(Z.set a o) a=some o:=aH rfl
theorem bw{a b:Addr}{o:O}{x:Option O}(h:b≠a)(e:Z b=x):(Z.set a o) b=x:=(aE h).trans e
theorem cj{a:Addr}{c n:Nat}{fs:List (Nat×V)}{v:V}(e:Z a=some (.inst c fs))(hc:(bo c).contains n=true):dg Z (.ref a) n v=some (Z.set a (.inst c (cZ fs n v))):=by
 unfold dg;dsimp only;refine af e ?_;dsimp only;(refine ak (aH hc) ?_;with_reducible rfl)
theorem bp{a:Addr}{es:List (V×V)}{k v:V}(e:Z a=some (.dict es))(hk:be es k=true)(hl:es.length<bM):eU Z (.ref a) k v=some (Z.set a (.dict (bJ es k v))):=by
 show sG Z a k v (Z a)=_;refine af e ?_;exact aH ⟨hk,hl⟩
theorem fP{a:Addr}{xs:List V}{i:Int}{v:V}(e:Z a=some (.list xs))(hi:0≤i∧i<xs.length):eU Z (.ref a) (.int i) v=some (Z.set a (.list (xs.set i.toNat v))):=by
 show sG Z a (.int i) v (Z a)=_;refine af e ?_;exact aH hi
theorem iG{o e:E}{n c:Nat}{a:Addr}{fs:List (Nat×V)}{v:V}{r:List Mine.C}(h:Ev K U Z e v)(ho:Ev K U Z o (.ref a))(ha:Z a=some (.inst c fs))(hc:(bo c).contains n=true)
  (k:SS K r U Q (Z.set a (.inst c (cZ fs n v)))):SS K (.set (.att o n) e::r) U Q Z:=⟨h.go _ (ho.go _ ⟨_,cj ha hc,k.go⟩)⟩
theorem dQ{o i e:E}{u k v:V}{Z':H}{r:List Mine.C}(h:Ev K U Z e v)(ho:Ev K U Z o u)(hi:Ev K U Z i k)(hs:eU Z u k v=some Z')(k:SS K r U Q Z'):SS K (.set (.idx o i) e::r) U Q Z:=⟨h.go _ (ho.go _ (hi.go _ ⟨_,hs,k.go⟩))⟩
theorem lK{o e:E}{n c:Nat}{op:Operator}{a:Addr}{fs:List (Nat×V)}{x y z:Int}{r:List Mine.C}(ho:Ev K U Z o (.ref a))(ha:Z a=some (.inst c fs))(hc:(bo c).contains n=true)(hv:dK fs n=some (.int x))(h:Ev K U Z e (.int y))(hd:rX op x y=some z)
  (k:SS K r U Q (Z.set a (.inst c (cZ fs n (.int z))))):SS K (.augA o n op e::r) U Q Z:=
 ⟨ho.go _ ⟨x,qK ha hc hv,h.go _ ⟨y,z,rfl,hd,_,cj ha hc,k.go⟩⟩⟩
theorem bI{o e:E}{a:Addr}{xs:List V}{v:V}{r:List Mine.C}(ho:Ev K U Z o (.ref a))(ha:Z a=some (.list xs))(h:Ev K U Z e v)(hl:xs.length<bM)(k:SS K r U Q (Z.set a (.list (xs++[v])))):SS K (.ex (.mth o 95 [e])::r) U Q Z:=
 ⟨ho.go _ ⟨_,lU ha,rfl,h.go _ ⟨xs,ha,rfl,hl,k.go⟩⟩⟩
theorem yu{o:E}{i:Nat}{a:Addr}{xs:List V}{v:V}{r:List Mine.C}(ho:Ev K U Z o (.ref a))(ha:Z a=some (.list xs))(hv:xs.getLast? = some v)(k:SS K r (U.set i v) Q (Z.set a (.list xs.dropLast))):SS K (.set (.v i) (.mth o 110 [])::r) U Q Z:=
 ⟨ho.go _ ⟨_,lU ha,rfl,xs,ha,rfl,v,hv,k.go⟩⟩
inductive FL (K:aO) (t:List Nat) (src:V) (whole:List V) (b:List Mine.C) (Q:bL):List V→Env→H→Prop
 |mk {xs:List V} {U:Env} {Z:H}:me (fun Z'=>bq Z' src=some whole) (fun x U'=>cN t x U') (fun U' K' Z'=>eR K b U' K' Z') xs U Q Z→FL K t src whole b Q xs U Z
theorem FL.go{t:List Nat}{src:V}{whole:List V}{b:List Mine.C}{xs:List V}:FL K t src whole b Q xs U Z→me (fun Z'=>bq Z' src=some whole) (fun x U'=>cN t x U') (fun U' K' Z'=>eR K b U' K' Z') xs U Q Z
 |.mk h=>h
theorem b9{t:List Nat}{src:V}{whole:List V}{b:List Mine.C}(q:Q .next U Z):FL K t src whole b Q [] U Z:=.mk q
theorem bR{t:List Nat}{src:V}{whole:List V}{b:List Mine.C}{x:V}{xs:List V}{U':Env}(hb:cN t x U=some U')
  (k:SS K b U' (fun f U'' Z'=>match f with | .next=>bq Z' src=some whole∧FL K t src whole b Q xs U'' Z' | .ret v=>Q (.ret v) U'' Z') Z):FL K t src whole b Q (x::xs) U Z:=by
 have:(fun(f:Fl) (U'':Env) (Z':H)=>match f with | .next=>bq Z' src=some whole∧FL K t src whole b Q xs U'' Z' | .ret v=>Q (.ret v) U'' Z') =
   fun f U'' Z'=>match f with | .next=>bq Z' src=some whole∧me (fun Z'=>bq Z' src=some whole) (fun x U'=>cN t x U') (fun U' K' Z'=>eR K b U' K' Z') xs U'' Q Z' | .ret v=>Q (.ret v) U'' Z':=by
  funext f U'' Z';induction f using Fl.casesOn
  ·exact propext ⟨fun h=>⟨h.1,h.2.go⟩,fun h=>⟨h.1,.mk h.2⟩⟩
  ·rfl
 rw[this] at k
 exact .mk ⟨U',hb,k.go⟩
theorem f8{t:List Nat}{it:E}{b r:List Mine.C}(h:WE K it U (fun v Zq=>∃ xs,bq Zq v=some xs∧FL K t v xs b (qU K r Q) xs U Zq) Z):SS K (.for_ t it b::r) U Q Z:=by
 have:(fun(v:V) (Zq:H)=>∃ xs,bq Zq v=some xs∧FL K t v xs b (qU K r Q) xs U Zq)=fun v Zq=>∃ xs,bq Zq v=some xs∧me (fun Z'=>bq Z' v=some xs) (fun x U'=>cN t x U') (fun U' K' Z'=>eR K b U' K' Z') xs U (qU K r Q) Zq:=by
  funext v Zq;exact propext ⟨fun⟨xs,a,b⟩=>⟨xs,a,b.go⟩,fun⟨xs,a,b⟩=>⟨xs,a,.mk b⟩⟩
 (rewrite[this] at h;rw[lI] at h)
 exact⟨h.go⟩
theorem ch{t:List Nat}{it:E}{b r:List Mine.C}{v:V}{xs:List V}(h:Ev K U Z it v)(hx:bq Z v=some xs)(k:FL K t v xs b (qU K r Q) xs U Z):SS K (.for_ t it b::r) U Q Z:=f8 (bk h ⟨xs,hx,k⟩)
theorem bf{a:Addr}{xs:List V}(e:Z a=some (.list xs)):bq Z (.ref a)=some xs:=by unfold bq;dsimp only;(refine af e ?_;with_reducible rfl)
inductive WL (K:aO) (t:E) (b:List Mine.C) (Q:bL) (n:Nat) (U:Env) (Z:H):Prop
 |mk:iA (fun U' K' Z'=>oA K t U' (df K t U') K' Z') (fun U' K' Z'=>eR K b U' K' Z') n U Q Z→WL K t b Q n U Z
theorem sj{t:E}{b:List Mine.C}{n:Nat}:WL K t b Q n U Z↔iA (fun U' K' Z'=>oA K t U' (df K t U') K' Z') (fun U' K' Z'=>eR K b U' K' Z') n U Q Z:=⟨fun⟨h⟩=>h,.mk⟩
theorem eA{t:E}{b:List Mine.C}{n:Nat}(h:Et K U Z t false)(q:Q .next U Z):WL K t b Q (n+1) U Z:=.mk (h.go _ ⟨fun h=>(nomatch h),fun za=>q⟩)
theorem cL{t:E}{b:List Mine.C}{n:Nat}(h:Et K U Z t true)(k:SS K b U (fun f U' Z'=>match f with | .next=>WL K t b Q n U' Z' | .ret v=>Q (.ret v) U' Z') Z):WL K t b Q (n+1) U Z:=by
 have:(fun(f:Fl) (U':Env) (Z':H)=>match f with | .next=>WL K t b Q n U' Z' | .ret v=>Q (.ret v) U' Z') =
   fun f U' Z'=>match f with | .next=>iA (fun U' K' Z'=>oA K t U' (df K t U') K' Z') (fun U' K' Z'=>eR K b U' K' Z') n U' Q Z' | .ret v=>Q (.ret v) U' Z':=by
  funext f U' Z';induction f using Fl.casesOn
  ·exact propext sj
  ·rfl
 rw[this] at k
 exact .mk (h.go _ ⟨fun za=>k.go,fun h=>nomatch h⟩)
theorem gQ{t:E}{b r:List Mine.C}{n:Nat}(k:WL K t b (qU K r Q) n U Z):SS K (.wh t b::r) U Q Z:=by
 rw[lI] at k
 exact⟨⟨n,sj.mp k⟩⟩
theorem br{n:Nat}{c:Option Nat}{f:Nat}{F:Fn}{vs:List V}{P:aP}(h:(po c f).map FD.fn=some F)(hl:F.ps.length=vs.length)(k:SS (a9 n) F.body (bV F.ps vs Env.nil) (fy P) Z):a9 (n+1) c f vs P Z:=by
 refine o1x2 (Option.map_eq_some_iff.mp h) fun fd e e2=>?_;obtain rfl:=e2
 exact⟨fd,e,hl,k.go⟩
theorem bj{n:Nat}{c:Option Nat}{f:Nat}{F:Fn}{vs:List V}{v:V}(h:(po c f).map FD.fn=some F)(hl:F.ps.length=vs.length)(k:∀ P:aP,P v Z→SS (a9 n) F.body (bV F.ps vs Env.nil) (fy P) Z):Cv (a9 (n+1)) c f vs Z v:=
 ⟨fun P q=>br h hl (k P q)⟩
end
noncomputable abbrev FF(c:Option Nat)(f:Nat):=(po c f).map FD.fn
noncomputable abbrev QQ(c:Option Nat)(f:Nat)(F:Fn)(_:FF c f=some F):=Fn
noncomputable def c0:Fn:=by exact(?f:QQ none 0 ?f (by conv=>lhs;reduce;simp only[Int.reduceOfNat,Int.reduceNegSucc]))
theorem xQ:FF none 0=some c0:=by kernel_rfl
noncomputable def c1:Fn:=by exact(?f:QQ none 1 ?f (by conv=>lhs;reduce;simp only[Int.reduceOfNat,Int.reduceNegSucc]))
theorem CR:FF none 1=some c1:=by kernel_rfl
noncomputable def c2:Fn:=by exact(?f:QQ none 2 ?f (by conv=>lhs;reduce;simp only[Int.reduceOfNat,Int.reduceNegSucc]))
theorem xP:FF none 2=some c2:=by kernel_rfl
noncomputable def c3:Fn:=by exact(?f:QQ none 3 ?f (by conv=>lhs;reduce;simp only[Int.reduceOfNat,Int.reduceNegSucc]))
theorem xO:FF none 3=some c3:=by kernel_rfl
noncomputable def c4:Fn:=by exact(?f:QQ none 4 ?f (by conv=>lhs;reduce;simp only[Int.reduceOfNat,Int.reduceNegSucc]))
theorem CQ:FF none 4=some c4:=by kernel_rfl
noncomputable def c5:Fn:=by exact(?f:QQ none 5 ?f (by conv=>lhs;reduce;simp only[Int.reduceOfNat,Int.reduceNegSucc]))
theorem CP:FF none 5=some c5:=by kernel_rfl
noncomputable def c6:Fn:=by exact(?f:QQ none 6 ?f (by conv=>lhs;reduce;simp only[Int.reduceOfNat,Int.reduceNegSucc]))
theorem CN:FF none 6=some c6:=by kernel_rfl
noncomputable def c7:Fn:=by exact(?f:QQ none 7 ?f (by conv=>lhs;reduce;simp only[Int.reduceOfNat,Int.reduceNegSucc]))
theorem CM:FF none 7=some c7:=by kernel_rfl
noncomputable def c8:Fn:=by exact(?f:QQ none 8 ?f (by conv=>lhs;reduce;simp only[Int.reduceOfNat,Int.reduceNegSucc]))
theorem CK:FF none 8=some c8:=by kernel_rfl
noncomputable def c9:Fn:=by exact(?f:QQ none 9 ?f (by conv=>lhs;reduce;simp only[Int.reduceOfNat,Int.reduceNegSucc]))
theorem CI:FF none 9=some c9:=by kernel_rfl
noncomputable def Ir:Fn:=by exact(?f:QQ none 10 ?f (by conv=>lhs;reduce;simp only[Int.reduceOfNat,Int.reduceNegSucc]))
theorem AL:FF none 10=some Ir:=by kernel_rfl
noncomputable def Iq:Fn:=by exact(?f:QQ none 11 ?f (by conv=>lhs;reduce;simp only[Int.reduceOfNat,Int.reduceNegSucc]))
theorem AK:FF none 11=some Iq:=by kernel_rfl
noncomputable def sg:Fn:=by exact(?f:QQ none 12 ?f (by conv=>lhs;reduce;simp only[Int.reduceOfNat,Int.reduceNegSucc]))
theorem AJ:FF none 12=some sg:=by kernel_rfl
noncomputable def Ip:Fn:=by exact(?f:QQ none 13 ?f (by conv=>lhs;reduce;simp only[Int.reduceOfNat,Int.reduceNegSucc]))
theorem uG:FF none 13=some Ip:=by kernel_rfl
noncomputable def Io:Fn:=by exact(?f:QQ none 14 ?f (by conv=>lhs;reduce;simp only[Int.reduceOfNat,Int.reduceNegSucc]))
theorem AI:FF none 14=some Io:=by kernel_rfl
noncomputable def Im:Fn:=by exact(?f:QQ none 15 ?f (by conv=>lhs;reduce;simp only[Int.reduceOfNat,Int.reduceNegSucc]))
theorem AH:FF none 15=some Im:=by kernel_rfl
noncomputable def E5:Fn:=by exact(?f:QQ none 16 ?f (by conv=>lhs;reduce;simp only[Int.reduceOfNat,Int.reduceNegSucc]))
theorem AG:FF none 16=some E5:=by kernel_rfl
noncomputable def Il:Fn:=by exact(?f:QQ none 17 ?f (by conv=>lhs;reduce;simp only[Int.reduceOfNat,Int.reduceNegSucc]))
theorem AF:FF none 17=some Il:=by kernel_rfl
noncomputable def Ik:Fn:=by exact(?f:QQ none 18 ?f (by conv=>lhs;reduce;simp only[Int.reduceOfNat,Int.reduceNegSucc]))
theorem AE:FF none 18=some Ik:=by kernel_rfl
noncomputable def Ij:Fn:=by exact(?f:QQ none 19 ?f (by conv=>lhs;reduce;simp only[Int.reduceOfNat,Int.reduceNegSucc]))
theorem AD:FF none 19=some Ij:=by kernel_rfl
noncomputable def Ii:Fn:=by exact(?f:QQ none 20 ?f (by conv=>lhs;reduce;simp only[Int.reduceOfNat,Int.reduceNegSucc]))
theorem AC:FF none 20=some Ii:=by kernel_rfl
noncomputable def Ih:Fn:=by exact(?f:QQ none 21 ?f (by conv=>lhs;reduce;simp only[Int.reduceOfNat,Int.reduceNegSucc]))
theorem AB:FF none 21=some Ih:=by kernel_rfl
noncomputable def Ig:Fn:=by exact(?f:QQ none 22 ?f (by conv=>lhs;reduce;simp only[Int.reduceOfNat,Int.reduceNegSucc]))
theorem AA:FF none 22=some Ig:=by kernel_rfl
noncomputable def Ie:Fn:=by exact(?f:QQ none 23 ?f (by conv=>lhs;reduce;simp only[Int.reduceOfNat,Int.reduceNegSucc]))
theorem Az:FF none 23=some Ie:=by kernel_rfl
noncomputable def Ic:Fn:=by exact(?f:QQ none 24 ?f (by conv=>lhs;reduce;simp only[Int.reduceOfNat,Int.reduceNegSucc]))
theorem Ay:FF none 24=some Ic:=by kernel_rfl
noncomputable def E4:Fn:=by exact(?f:QQ none 25 ?f (by conv=>lhs;reduce;simp only[Int.reduceOfNat,Int.reduceNegSucc]))
theorem Ax:FF none 25=some E4:=by kernel_rfl
noncomputable def Ib:Fn:=by exact(?f:QQ none 26 ?f (by conv=>lhs;reduce;simp only[Int.reduceOfNat,Int.reduceNegSucc]))
theorem Aw:FF none 26=some Ib:=by kernel_rfl
noncomputable def Ia:Fn:=by exact(?f:QQ none 27 ?f (by conv=>lhs;reduce;simp only[Int.reduceOfNat,Int.reduceNegSucc]))
theorem Av:FF none 27=some Ia:=by kernel_rfl
noncomputable def H9:Fn:=by exact(?f:QQ none 28 ?f (by conv=>lhs;reduce;simp only[Int.reduceOfNat,Int.reduceNegSucc]))
theorem Au:FF none 28=some H9:=by kernel_rfl
noncomputable def H8:Fn:=by exact(?f:QQ none 29 ?f (by conv=>lhs;reduce;simp only[Int.reduceOfNat,Int.reduceNegSucc]))
theorem Ar:FF none 29=some H8:=by kernel_rfl
noncomputable def H7:Fn:=by exact(?f:QQ none 30 ?f (by conv=>lhs;reduce;simp only[Int.reduceOfNat,Int.reduceNegSucc]))
theorem Aq:FF none 30=some H7:=by kernel_rfl
noncomputable def H6:Fn:=by exact(?f:QQ none 31 ?f (by conv=>lhs;reduce;simp only[Int.reduceOfNat,Int.reduceNegSucc]))
theorem Ap:FF none 31=some H6:=by kernel_rfl
noncomputable def H5:Fn:=by exact(?f:QQ none 32 ?f (by conv=>lhs;reduce;simp only[Int.reduceOfNat,Int.reduceNegSucc]))
theorem Ao:FF none 32=some H5:=by kernel_rfl
noncomputable def H4:Fn:=by exact(?f:QQ none 33 ?f (by conv=>lhs;reduce;simp only[Int.reduceOfNat,Int.reduceNegSucc]))
theorem An:FF none 33=some H4:=by kernel_rfl
noncomputable def H3:Fn:=by exact(?f:QQ none 34 ?f (by conv=>lhs;reduce;simp only[Int.reduceOfNat,Int.reduceNegSucc]))
theorem uF:FF none 34=some H3:=by kernel_rfl
noncomputable def H2:Fn:=by exact(?f:QQ none 35 ?f (by conv=>lhs;reduce;simp only[Int.reduceOfNat,Int.reduceNegSucc]))
theorem uE:FF none 35=some H2:=by kernel_rfl
noncomputable def H0:Fn:=by exact(?f:QQ none 36 ?f (by conv=>lhs;reduce;simp only[Int.reduceOfNat,Int.reduceNegSucc]))
theorem Am:FF none 36=some H0:=by kernel_rfl
noncomputable def HZ:Fn:=by exact(?f:QQ none 37 ?f (by conv=>lhs;reduce;simp only[Int.reduceOfNat,Int.reduceNegSucc]))
theorem uD:FF none 37=some HZ:=by kernel_rfl
noncomputable def HY:Fn:=by exact(?f:QQ none 38 ?f (by conv=>lhs;reduce;simp only[Int.reduceOfNat,Int.reduceNegSucc]))
theorem Al:FF none 38=some HY:=by kernel_rfl
noncomputable def HX:Fn:=by exact(?f:QQ none 39 ?f (by conv=>lhs;reduce;simp only[Int.reduceOfNat,Int.reduceNegSucc]))
theorem Ak:FF none 39=some HX:=by kernel_rfl
noncomputable def HW:Fn:=by exact(?f:QQ none 40 ?f (by conv=>lhs;reduce;simp only[Int.reduceOfNat,Int.reduceNegSucc]))
theorem uC:FF none 40=some HW:=by kernel_rfl
noncomputable def F1:Fn:=by exact(?f:QQ none 41 ?f (by conv=>lhs;reduce;simp only[Int.reduceOfNat,Int.reduceNegSucc]))
theorem Aj:FF none 41=some F1:=by kernel_rfl
noncomputable def HV:Fn:=by exact(?f:QQ none 42 ?f (by conv=>lhs;reduce;simp only[Int.reduceOfNat,Int.reduceNegSucc]))
theorem Ai:FF none 42=some HV:=by kernel_rfl
noncomputable def HU:Fn:=by exact(?f:QQ none 43 ?f (by conv=>lhs;reduce;simp only[Int.reduceOfNat,Int.reduceNegSucc]))
theorem uB:FF none 43=some HU:=by kernel_rfl
noncomputable def HT:Fn:=by exact(?f:QQ none 44 ?f (by conv=>lhs;reduce;simp only[Int.reduceOfNat,Int.reduceNegSucc]))
theorem Ah:FF none 44=some HT:=by kernel_rfl
noncomputable def HS:Fn:=by exact(?f:QQ none 45 ?f (by conv=>lhs;reduce;simp only[Int.reduceOfNat,Int.reduceNegSucc]))
theorem Ag:FF none 45=some HS:=by kernel_rfl
noncomputable def HR:Fn:=by exact(?f:QQ none 46 ?f (by conv=>lhs;reduce;simp only[Int.reduceOfNat,Int.reduceNegSucc]))
theorem Af:FF none 46=some HR:=by kernel_rfl
noncomputable def HQ:Fn:=by exact(?f:QQ none 47 ?f (by conv=>lhs;reduce;simp only[Int.reduceOfNat,Int.reduceNegSucc]))
theorem Ae:FF none 47=some HQ:=by kernel_rfl
noncomputable def HP:Fn:=by exact(?f:QQ none 48 ?f (by conv=>lhs;reduce;simp only[Int.reduceOfNat,Int.reduceNegSucc]))
theorem Ad:FF none 48=some HP:=by kernel_rfl
noncomputable def HO:Fn:=by exact(?f:QQ none 49 ?f (by conv=>lhs;reduce;simp only[Int.reduceOfNat,Int.reduceNegSucc]))
theorem uA:FF none 49=some HO:=by kernel_rfl
noncomputable def HN:Fn:=by exact(?f:QQ none 50 ?f (by conv=>lhs;reduce;simp only[Int.reduceOfNat,Int.reduceNegSucc]))
theorem pF:FF none 50=some HN:=by kernel_rfl
noncomputable def HM:Fn:=by exact(?f:QQ none 51 ?f (by conv=>lhs;reduce;simp only[Int.reduceOfNat,Int.reduceNegSucc]))
theorem Ac:FF none 51=some HM:=by kernel_rfl
noncomputable def HL:Fn:=by exact(?f:QQ none 52 ?f (by conv=>lhs;reduce;simp only[Int.reduceOfNat,Int.reduceNegSucc]))
theorem uz:FF none 52=some HL:=by kernel_rfl
noncomputable def HK:Fn:=by exact(?f:QQ none 53 ?f (by conv=>lhs;reduce;simp only[Int.reduceOfNat,Int.reduceNegSucc]))
theorem Ab:FF none 53=some HK:=by kernel_rfl
noncomputable def E3:Fn:=by exact(?f:QQ none 54 ?f (by conv=>lhs;reduce;simp only[Int.reduceOfNat,Int.reduceNegSucc]))
theorem Aa:FF none 54=some E3:=by kernel_rfl
noncomputable def HJ:Fn:=by exact(?f:QQ none 55 ?f (by conv=>lhs;reduce;simp only[Int.reduceOfNat,Int.reduceNegSucc]))
theorem z9:FF none 55=some HJ:=by kernel_rfl
noncomputable def HI:Fn:=by exact(?f:QQ none 56 ?f (by conv=>lhs;reduce;simp only[Int.reduceOfNat,Int.reduceNegSucc]))
theorem z8:FF none 56=some HI:=by kernel_rfl
noncomputable def HH:Fn:=by exact(?f:QQ none 57 ?f (by conv=>lhs;reduce;simp only[Int.reduceOfNat,Int.reduceNegSucc]))
theorem uy:FF none 57=some HH:=by kernel_rfl
noncomputable def F0:Fn:=by exact(?f:QQ none 58 ?f (by conv=>lhs;reduce;simp only[Int.reduceOfNat,Int.reduceNegSucc]))
theorem z7:FF none 58=some F0:=by kernel_rfl
noncomputable def HG:Fn:=by exact(?f:QQ none 59 ?f (by conv=>lhs;reduce;simp only[Int.reduceOfNat,Int.reduceNegSucc]))
theorem ux:FF none 59=some HG:=by kernel_rfl
noncomputable def FZ:Fn:=by exact(?f:QQ none 60 ?f (by conv=>lhs;reduce;simp only[Int.reduceOfNat,Int.reduceNegSucc]))
theorem z6:FF none 60=some FZ:=by kernel_rfl
noncomputable def HE:Fn:=by exact(?f:QQ none 61 ?f (by conv=>lhs;reduce;simp only[Int.reduceOfNat,Int.reduceNegSucc]))
theorem z5:FF none 61=some HE:=by kernel_rfl
noncomputable def HD:Fn:=by exact(?f:QQ none 62 ?f (by conv=>lhs;reduce;simp only[Int.reduceOfNat,Int.reduceNegSucc]))
theorem zZ:FF none 62=some HD:=by kernel_rfl
noncomputable def HC:Fn:=by exact(?f:QQ none 63 ?f (by conv=>lhs;reduce;simp only[Int.reduceOfNat,Int.reduceNegSucc]))
theorem zY:FF none 63=some HC:=by kernel_rfl
noncomputable def HA:Fn:=by exact(?f:QQ none 64 ?f (by conv=>lhs;reduce;simp only[Int.reduceOfNat,Int.reduceNegSucc]))
theorem zX:FF none 64=some HA:=by kernel_rfl
noncomputable def FY:Fn:=by exact(?f:QQ none 65 ?f (by conv=>lhs;reduce;simp only[Int.reduceOfNat,Int.reduceNegSucc]))
theorem zW:FF none 65=some FY:=by kernel_rfl
noncomputable def Hz:Fn:=by exact(?f:QQ none 66 ?f (by conv=>lhs;reduce;simp only[Int.reduceOfNat,Int.reduceNegSucc]))
theorem uw:FF none 66=some Hz:=by kernel_rfl
noncomputable def Hy:Fn:=by exact(?f:QQ none 67 ?f (by conv=>lhs;reduce;simp only[Int.reduceOfNat,Int.reduceNegSucc]))
theorem zV:FF none 67=some Hy:=by kernel_rfl
noncomputable def E2:Fn:=by exact(?f:QQ none 68 ?f (by conv=>lhs;reduce;simp only[Int.reduceOfNat,Int.reduceNegSucc]))
theorem zU:FF none 68=some E2:=by kernel_rfl
noncomputable def CO:Fn:=by exact(?f:QQ none 69 ?f (by conv=>lhs;reduce;simp only[Int.reduceOfNat,Int.reduceNegSucc]))
theorem zT:FF none 69=some CO:=by kernel_rfl
noncomputable def FX:Fn:=by exact(?f:QQ none 70 ?f (by conv=>lhs;reduce;simp only[Int.reduceOfNat,Int.reduceNegSucc]))
theorem zS:FF none 70=some FX:=by kernel_rfl
noncomputable def Hx:Fn:=by exact(?f:QQ none 71 ?f (by conv=>lhs;reduce;simp only[Int.reduceOfNat,Int.reduceNegSucc]))
theorem zR:FF none 71=some Hx:=by kernel_rfl
noncomputable def w5:Fn:=by exact(?f:QQ none 72 ?f (by conv=>lhs;reduce;simp only[Int.reduceOfNat,Int.reduceNegSucc]))
theorem zQ:FF none 72=some w5:=by kernel_rfl
noncomputable def Hw:Fn:=by exact(?f:QQ none 73 ?f (by conv=>lhs;reduce;simp only[Int.reduceOfNat,Int.reduceNegSucc]))
theorem zP:FF none 73=some Hw:=by kernel_rfl
noncomputable def Dy:Fn:=by exact(?f:QQ none 74 ?f (by conv=>lhs;reduce;simp only[Int.reduceOfNat,Int.reduceNegSucc]))
theorem zO:FF none 74=some Dy:=by kernel_rfl
noncomputable def Hv:Fn:=by exact(?f:QQ none 75 ?f (by conv=>lhs;reduce;simp only[Int.reduceOfNat,Int.reduceNegSucc]))
theorem zN:FF none 75=some Hv:=by kernel_rfl
noncomputable def FW:Fn:=by exact(?f:QQ none 76 ?f (by conv=>lhs;reduce;simp only[Int.reduceOfNat,Int.reduceNegSucc]))
theorem zM:FF none 76=some FW:=by kernel_rfl
noncomputable def Dx:Fn:=by exact(?f:QQ none 77 ?f (by conv=>lhs;reduce;simp only[Int.reduceOfNat,Int.reduceNegSucc]))
theorem zL:FF none 77=some Dx:=by kernel_rfl
noncomputable def yX:Fn:=by exact(?f:QQ (some 78) 96 ?f (by conv=>lhs;reduce;simp only[Int.reduceOfNat,Int.reduceNegSucc]))
theorem kQ:FF (some 78) 96=some yX:=by kernel_rfl
noncomputable def yW:Fn:=by exact(?f:QQ (some 78) 98 ?f (by conv=>lhs;reduce;simp only[Int.reduceOfNat,Int.reduceNegSucc]))
theorem kP:FF (some 78) 98=some yW:=by kernel_rfl
noncomputable def wk:Fn:=by exact(?f:QQ (some 84) 112 ?f (by conv=>lhs;reduce;simp only[Int.reduceOfNat,Int.reduceNegSucc]))
theorem pd:FF (some 84) 112=some wk:=by kernel_rfl
noncomputable def wj:Fn:=by exact(?f:QQ (some 85) 167 ?f (by conv=>lhs;reduce;simp only[Int.reduceOfNat,Int.reduceNegSucc]))
theorem jW:FF (some 85) 167=some wj:=by kernel_rfl
noncomputable def wg:Fn:=by exact(?f:QQ (some 85) 168 ?f (by conv=>lhs;reduce;simp only[Int.reduceOfNat,Int.reduceNegSucc]))
theorem pb:FF (some 85) 168=some wg:=by kernel_rfl
noncomputable def we:Fn:=by exact(?f:QQ (some 85) 172 ?f (by conv=>lhs;reduce;simp only[Int.reduceOfNat,Int.reduceNegSucc]))
theorem pa:FF (some 85) 172=some we:=by kernel_rfl
noncomputable def wd:Fn:=by exact(?f:QQ (some 85) 173 ?f (by conv=>lhs;reduce;simp only[Int.reduceOfNat,Int.reduceNegSucc]))
theorem oZ:FF (some 85) 173=some wd:=by kernel_rfl
noncomputable def wc:Fn:=by exact(?f:QQ (some 85) 176 ?f (by conv=>lhs;reduce;simp only[Int.reduceOfNat,Int.reduceNegSucc]))
theorem oY:FF (some 85) 176=some wc:=by kernel_rfl
noncomputable def yY:Fn:=by exact(?f:QQ (some 78) 89 ?f (by conv=>lhs;reduce;simp only[Int.reduceOfNat,Int.reduceNegSucc]))
theorem rC:FF (some 78) 89=some yY:=by kernel_rfl
noncomputable def yV:Fn:=by exact(?f:QQ (some 79) 89 ?f (by conv=>lhs;reduce;simp only[Int.reduceOfNat,Int.reduceNegSucc]))
theorem rB:FF (some 79) 89=some yV:=by kernel_rfl
noncomputable def yU:Fn:=by exact(?f:QQ (some 80) 89 ?f (by conv=>lhs;reduce;simp only[Int.reduceOfNat,Int.reduceNegSucc]))
theorem rA:FF (some 80) 89=some yU:=by kernel_rfl
noncomputable def yT:Fn:=by exact(?f:QQ (some 81) 89 ?f (by conv=>lhs;reduce;simp only[Int.reduceOfNat,Int.reduceNegSucc]))
theorem rq:FF (some 81) 89=some yT:=by kernel_rfl
noncomputable def yS:Fn:=by exact(?f:QQ (some 82) 89 ?f (by conv=>lhs;reduce;simp only[Int.reduceOfNat,Int.reduceNegSucc]))
theorem rp:FF (some 82) 89=some yS:=by kernel_rfl
noncomputable def yR:Fn:=by exact(?f:QQ (some 85) 89 ?f (by conv=>lhs;reduce;simp only[Int.reduceOfNat,Int.reduceNegSucc]))
theorem rn:FF (some 85) 89=some yR:=by kernel_rfl
noncomputable def yQ:Fn:=by exact(?f:QQ (some 86) 89 ?f (by conv=>lhs;reduce;simp only[Int.reduceOfNat,Int.reduceNegSucc]))
theorem rm:FF (some 86) 89=some yQ:=by kernel_rfl
noncomputable def oX:Fn:=by exact(?f:QQ (some 87) 89 ?f (by conv=>lhs;reduce;simp only[Int.reduceOfNat,Int.reduceNegSucc]))
theorem rj:FF (some 87) 89=some oX:=by kernel_rfl
noncomputable def yP:Fn:=by exact(?f:QQ (some 88) 89 ?f (by conv=>lhs;reduce;simp only[Int.reduceOfNat,Int.reduceNegSucc]))
theorem ri:FF (some 88) 89=some yP:=by kernel_rfl
end Mine
namespace Mine
open PySem
noncomputable def aN(p:List Int):List V:=p.map V.int
noncomputable def aV(s:List (List Int))(k:Int):Option (List Int):=if 18≤k then s[(k - 18).toNat]? else none
noncomputable def plain:List Int:=[12,7,16,9,4,2,3]
structure de (s:List (List Int)):Prop where
 len:4≤s.length∧s.length≤7
 row:∀ (k:Int) (r:List Int),aV s k=some r→(18≤k∧k<18+s.length)∧0<r.length∧r.length≤3∧∀ k' ∈ r,(k'=k+1∧k+1<18+s.length)∨k' ∈ plain
theorem jI{s:List (List Int)}{k:Int}(h:k<18):aV s k=none:=aE (Int.not_le.mpr h)
noncomputable def cq(s:List (List Int)):Int→List Int→Option Int
 |k,[]=>some k
 |k,i::p=>match aV s k with
  |some r=>if 0≤i then(match r[i.toNat]? with | some k'=>cq s k' p | none=>none) else none
  |none=>none
noncomputable def eD(k t z:Int):Prop:=if k=12 then t=4∧z ∈ ([0,16,20,24]:List Int) else t=1∨t=2
noncomputable def nd(k:Int)(vs:List V):V:=.tup [.int 5,.int k,.tup vs]
inductive Ty (s:List (List Int)):Int→V→Prop
 |leaf (k t z:Int):aV s k=none→eD k t z→Ty s k (.tup [.int t,.int z])
 |node (k:Int) (r:List Int) (vs:List V):aV s k=some r→vs.length=r.length→(∀ (i:Nat) (k':Int) (v:V),r[i]? = some k'→vs[i]? = some v→Ty s k' v)→Ty s k (nd k vs)
noncomputable def Ce:V→List V
 |.tup [_,_,.tup vs]=>vs
 |_=>[]
noncomputable def sub(v:V)(i:Int):Option V:=if 0≤i then(Ce v)[i.toNat]? else none
noncomputable def bG:V→List Int→Option V
 |v,[]=>some v
 |v,i::p=>match sub v i with | some u=>bG u p | none=>none
noncomputable def oT(v:V)(i:Int)(u:V):V:=match v with
 |.tup [_,k,.tup vs]=>.tup [.int 5,k,.tup (vs.set i.toNat u)]
 |_=>.none
noncomputable def cO:V→List Int→V→V
 |_,[],x=>x
 |v,i::p,x=>oT v i (cO ((sub v i).getD .none) p x)
variable {s:List (List Int)}
theorem cg{v u:V}{i:Int}{p:List Int}(h:sub v i=some u):bG v (i::p)=bG u p:=by
 show(match sub v i with | some u=>bG u p | none=>none)=_
 (refine af h ?_;with_reducible rfl)
theorem eM{v u x:V}{i:Int}{p:List Int}(h:sub v i=some u):cO v (i::p) x=oT v i (cO u p x):=by
 show oT v i (cO ((sub v i).getD .none) p x)=_
 refine af h ?_;rfl
structure yc (s:List (List Int)) (k:Int) (v:V) (i:Int) (k₁:Int) (u:V):Prop where
 sub:sub v i=some u
 ty:Ty s k₁ u
 put:∀ w,Ty s k₁ w→Ty s k (oT v i w)
 kat:∀ q,cq s k (i::q)=cq s k₁ q
 get:∀ w j,Mine.sub (oT v i w) j=if j=i then some w else Mine.sub v j
theorem Ty.under{k:Int}{v:V}(h:Ty s k v){i k₁:Int}{r:List Int}(e:aV s k=some r)(hi:0≤i)(e1:r[i.toNat]? = some k₁):∃ u,yc s k v i k₁ u:=by
 induction h using Ty.casesOn with
 |leaf k t z h=>rw[h] at e;exact ns e
 |node k r' vs h1 h2 h3=>
  obtain rfl:r'=r:=aQ (h1.symm.trans e)
  have l:i.toNat<vs.length:=h2▸(List.getElem?_eq_some_iff.mp e1).1
  have g:=List.getElem?_eq_getElem l
  refine⟨_,(aH hi).trans g,h3 _ _ _ e1 g,fun w hw=>.node _ _ _ e (List.length_set.trans h2) fun j ka x hj hx=>?_,fun q=>?_,fun w j=>?_⟩
  ·rw[List.getElem?_set] at hx
   split at hx
   ·next c=>
    subst c
    obtain rfl:=aQ hx
    rw[e1] at hj;refine bt (aQ hj) ?_;exact hw
   ·exact h3 _ _ _ hj hx
  ·show(match aV s k with | some r=>if 0≤i then(match r[i.toNat]? with | some k'=>cq s k' q | none=>none) else none | none=>none)=_
   refine af e ?_;skip;(refine ak (aH hi) ?_;(refine af e1 ?_;with_reducible rfl))
  ·show(if 0≤j then(vs.set i.toNat w)[j.toNat]? else none)=if j=i then some w else if 0≤j then vs[j.toNat]? else none
   by_cases c:j=i
   ·refine af c ?_;(refine af (aH rfl) ?_;refine ak (aH hi) ?_;refine ak (List.getElem?_set) ?_;refine ak (aH rfl) ?_;(refine ak (aH l) ?_;with_reducible rfl))
   ·(refine af (aE c) ?_;refine af (List.getElem?_set) ?_)
    by_cases d:0≤j
    ·(refine ak (aH d) ?_;refine af (aH d) ?_;(refine ak (aE (by lia)) ?_;with_reducible rfl))
    ·(refine ak (aE d) ?_;(refine af (aE d) ?_;with_reducible rfl))
set_option tactic.hygienic true in
theorem cH{k k' i:Int}{p:List Int}(e:cq s k (i::p)=some k'):∃ r k₁,aV s k=some r∧0≤i∧r[i.toNat]? = some k₁∧cq s k₁ p=some k':=by
 unfold cq at e
 split at e
 ·next r hr=>
  split at e
  ·next hi=>
   split at e
   ·next k₁ h1=>exact⟨r,k₁,hr,hi,h1,e⟩
   ·exact ns e
  ·exact ns e
 ·exact ns e
theorem Ty.step{k k' i:Int}{p:List Int}{v:V}(h:Ty s k v)(e:cq s k (i::p)=some k'):∃ k₁ u,yc s k v i k₁ u∧cq s k₁ p=some k':=
 let ⟨_,k₁,a,b,c,d⟩:=cH e
 let ⟨u,h⟩:=h.under a b c
 ⟨k₁,u,h,d⟩
theorem Ty.get{k':Int}(p:List Int):∀ {k:Int} {v:V},Ty s k v→cq s k p=some k'→∃ u,bG v p=some u∧Ty s k' u:=by
 induction p with
 |nil=>intro k v h e;refine bt (aQ e) ?_;exact⟨v,rfl,h⟩
 |cons i p ih=>
  intro k v h e
  refine o2x2 (h.step e) fun k₁ u b e=>?_
  refine af (cg b.sub) ?_;exact ih b.ty e
theorem Ty.put{k':Int}{x:V}(hx:Ty s k' x)(p:List Int):∀ {k:Int} {v:V},Ty s k v→cq s k p=some k'→Ty s k (cO v p x):=by
 induction p with
 |nil=>intro k v h e;refine af (aQ e) ?_;exact hx
 |cons i p ih=>
  intro k v h e
  refine o2x2 (h.step e) fun k₁ u b e=>?_
  refine af (eM b.sub) ?_;exact b.put _ (ih b.ty e)
theorem wK{k':Int}{x:V}{q:List Int}(p:List Int):∀ {k:Int} {v:V},Ty s k v→cq s k p=some k'→bG (cO v p x) (p++q)=bG x q:=by
 induction p with
 |nil=>intro k v h e;rfl
 |cons i p ih=>
  intro k v h e
  refine o2x2 (h.step e) fun k₁ u b e=>?_
  (refine af (eM b.sub) ?_;refine af List.cons_append ?_;refine ak (cg ((b.get _ _).trans (aH rfl))) ?_);exact ih b.ty e
theorem pk{k' k'':Int}{x:V}(p:List Int):∀ {k:Int} {v:V} {q:List Int},Ty s k v→cq s k p=some k'→cq s k q=some k''→aV s k''=none→(∀ w,q≠p++w)→bG (cO v p x) q=bG v q:=by
 induction p with
 |nil=>intro k v q h e e' hl hn;exact absurd rfl (hn q)
 |cons i p ih=>
  intro k v q h e e' hl hn
  refine o2x2 (h.step e) fun k₁ u b e1=>?_
  refine af (eM b.sub) ?_
  induction q using List.casesOn with
  |nil=>refine o2x2 (cH e) fun r za f1 za=>?_;obtain rfl:=aQ e';rw[hl] at f1;exact ns f1
  |cons j q=>
   refine o2x2 (h.step e') fun ka u' b' e2=>?_
   by_cases c:j=i
   ·subst c
    (refine ak (cg ((b.get _ _).trans (aH rfl))) ?_;refine af (cg b.sub) ?_)
    exact ih b.ty e1 (b.kat _▸e') hl fun w hw=>hn w (by refine af hw ?_;rfl)
   ·(refine ak (cg (((b.get _ _).trans (aE c)).trans b'.sub)) ?_;(refine af (cg b'.sub) ?_;with_reducible rfl))
end Mine
namespace Mine
open PySem
noncomputable abbrev Sp:=List (List Int×Int)
noncomputable def wr(f:Int→Sp):Int→List Int→Sp
 |_,[]=>[]
 |i,k::r=>(f k).map (fun p=>(i::p.1,p.2))++wr f (i+1) r
noncomputable def wi(s:List (List Int)):Nat→Int→Sp
 |0,k=>[([],k)]
 |n+1,k=>([],k)::(match aV s k with | some r=>wr (wi s n) 0 r | none=>[])
noncomputable def rk(s:List (List Int))(k:Int):Nat:=match aV s k with | some _=>(18+(s.length:Int) - k).toNat | none=>0
noncomputable def W(s:List (List Int))(k:Int):Sp:=wi s (rk s k) k
variable {s:List (List Int)}
theorem gb(h:de s){k k':Int}{r:List Int}(e:aV s k=some r)(hk:k' ∈ r):rk s k'<rk s k:=by
 refine o0x4 (h.row k r e) fun a za za b=>?_
 have ek:rk s k=(18+(s.length:Int) - k).toNat:=by unfold rk;(refine af e ?_;with_reducible rfl)
 refine af ek ?_
 rcases b k' hk with⟨rfl,c⟩ | c
 ·unfold rk;split<;>lia
 ·have:aV s k'=none:=jI (by simp[plain] at c;lia)
  unfold rk;refine af this ?_;dsimp only;lia
theorem ie(h:de s){P:Int→Prop}(leaf:∀ k,aV s k=none→P k)(node:∀ k r,aV s k=some r→(∀ k' ∈ r,P k')→P k)(k:Int):P k:=by
 have:∀ n k,rk s k<n→P k:=by
  intro n
  induction n with
  |zero=>intro k hk;cases hk
  |succ n ih=>
   intro k hk
   induction e:aV s k using Option.casesOn with
   |none=>exact leaf k e
   |some r=>exact node k r e fun k' hk'=>ih k' (by have:=gb h e hk';lia)
 exact this _ k (Nat.lt_succ_self _)
theorem mO{f g:Int→Sp}(r:List Int):∀ i,(∀ k ∈ r,f k=g k)→wr f i r=wr g i r:=by
 induction r with
 |nil=>intro _ _;rfl
 |cons k r ih=>intro i h;unfold wr;(refine af (h k (.head _)) ?_;(refine af (ih _ fun k hk=>h k (.tail _ hk)) ?_;with_reducible rfl))
theorem C0(h:de s):∀ n k,rk s k≤n→wi s n k=W s k:=by
 intro n k hn
 have:∀ m n k,rk s k<m→rk s k≤n→wi s n k=W s k:=by
  intro m
  induction m with
  |zero=>intro n k hk;cases hk
  |succ m ih=>
   intro n k hk hn
   induction e:aV s k using Option.casesOn with
   |none=>
    have:∀ n,wi s n k=[([],k)]:=fun n=>by induction n using Nat.casesAuxOn<;>(unfold wi;first | rfl | (refine af e ?_;with_reducible rfl))
    unfold W;(rewrite[this];rw[this])
   |some r=>
    have:∀ n,rk s k≤n→wi s n k=([],k)::wr (W s) 0 r:=fun n hn=>by
     refine aI ((⟨n - 1,by have:=(h.row k r e).1;unfold rk at hn;rw[e] at hn;dsimp only at hn;lia⟩:∃ j,n=j+1)) fun n e1=>?_;obtain rfl:=e1
     unfold wi;refine af e ?_
     exact congrArg _ (mO r 0 fun k' hk'=>ih n k' (by have:=gb h e hk';lia) (by have:=gb h e hk';lia))
    unfold W;(refine ak (this n hn) ?_;(refine af (this _ (Nat.le_refl _)) ?_;with_reducible rfl))
 exact this _ n k (Nat.lt_succ_self _) hn
theorem kn{k:Int}(e:aV s k=none):W s k=[([],k)]:=by
 delta W rk;refine af e ?_;rfl
theorem mE(h:de s){k:Int}{r:List Int}(e:aV s k=some r):W s k=([],k)::wr (W s) 0 r:=by
 refine bt (C0 h (rk s k+1) k (by lia)) ?_
 unfold wi;refine af e ?_
 exact congrArg _ (mO r 0 fun k' hk'=>C0 h _ k' (by have:=gb h e hk';lia))
theorem ye{f:Int→Sp}{x:List Int×Int}(r:List Int):∀ i:Int,x ∈ wr f i r↔∃ (j:Nat) (k:Int) (q:List Int),r[j]? = some k∧x.1=(i+j)::q∧(q,x.2) ∈ f k:=by
 induction r with
 |nil=>intro i;exact⟨fun h=>(nomatch h),fun⟨j,k,q,h,_⟩=>nomatch h⟩
 |cons k r ih=>
  intro i
  unfold wr
  (rewrite[List.mem_append];rewrite[ih];rw[List.mem_map])
  constructor
  ·rintro(⟨y,hy,rfl⟩ | ⟨j,k',q,a,b,c⟩)
   ·exact⟨0,k,y.1,rfl,by(refine af Int.natCast_zero ?_;rw[Int.add_zero]),hy⟩
   ·exact⟨j+1,k',q,a,by(refine ak (b) ?_;rewrite[Int.natCast_add];rewrite[Int.add_comm (j:Int)];rw[← Int.add_assoc]);rfl,c⟩
  ·intro p0;refine o3x3 p0 fun j k' q a b c=>?_;clear p0
   induction j using Nat.casesAuxOn with
   |zero=>refine af (aQ a) ?_;exact .inl ⟨(q,x.2),c,Prod.ext (by(refine af b ?_;refine af Int.natCast_zero ?_;rw[Int.add_zero])) rfl⟩
   |succ j=>exact .inr ⟨j,k',q,a,by(refine ak (b) ?_;rewrite[Int.natCast_add];rewrite[Int.add_comm (j:Int)];rw[← Int.add_assoc]);rfl,c⟩
theorem fX(h:de s){f:Int}(k:Int):∀ p,(p,f) ∈ W s k↔cq s k p=some f:=by
 refine ie h (P:=fun k=>∀ p,(p,f) ∈ W s k↔cq s k p=some f) (fun k e p=>?_) (fun k r e ih p=>?_) k
 ·(refine af (kn e) ?_;rw[List.mem_singleton])
  induction p using List.casesOn with
  |nil=>exact⟨fun h=>by cases h;rfl,fun h=>by refine af (aQ h) ?_;rfl⟩
  |cons i p=>exact⟨fun h=>(nomatch h),fun h=>by refine o2x2 (cH h) fun za za a za=>?_;rw[e] at a;exact ns a⟩
 ·(refine af (mE h e) ?_;rewrite[List.mem_cons];rw[ye])
  induction p using List.casesOn with
  |nil=>exact⟨fun h=>h.elim (fun h=>by cases h;rfl) fun⟨_,_,_,_,a,_⟩=>(nomatch a),fun h=>by refine af (aQ h) ?_;exact .inl rfl⟩
  |cons i p=>
   constructor
   ·rintro(h | ⟨j,k',q,a,b,c⟩)
    ·cases h
    ·cases b
     unfold cq;refine af e ?_;dsimp only
     (refine ak (aH (by lia)) ?_;refine af (show((0:Int)+j).toNat=j by lia) ?_;refine af a ?_)
     exact(ih k' (List.mem_of_getElem? a) _).mp c
   ·intro hk
    refine o2x4 (cH hk) fun r' k₁ a b c d=>?_
    cases e.symm.trans a
    exact .inr ⟨i.toNat,k₁,p,c,by(refine af (show(0:Int)+i.toNat=i by lia) ?_;with_reducible rfl),(ih k₁ (List.mem_of_getElem? c) p).mpr d⟩
end Mine
namespace Mine
open PySem
noncomputable def jk(k:Int)(u:Option V):Option Int:=if k=12 then(match u with | some (.tup [_,.int a])=>if 0<a then some a else none | _=>none) else none
noncomputable def dM(s:List (List Int))(k:Int)(v:V):List Int:=(W s k).filterMap fun x=>jk x.2 (bG v x.1)
noncomputable def RL(s:List (List Int)):List (Int×V)→List Int
 |[]=>[]
 |x::l=>dM s x.1 x.2++RL s l
noncomputable def SZ(s:List (List Int)):List (Int×V)→Nat
 |[]=>0
 |x::l=>(W s x.1).length+SZ s l
variable {s:List (List Int)}
theorem A8(a b:List (Int×V)):RL s (a++b)=RL s a++RL s b:=by
 induction a with
 |nil=>rfl
 |cons x a ih=>show _++RL s (a++b)=_;(refine af ih ?_;rw[← List.append_assoc]);rfl
theorem pL(a b:List (Int×V)):SZ s (a++b)=SZ s a+SZ s b:=by
 induction a with
 |nil=>exact(Nat.zero_add _).symm
 |cons x a ih=>show _+SZ s (a++b)=_;(refine af ih ?_;rw[← Nat.add_assoc]);rfl
theorem wL{k i:Int}{vs:List V}{p:List Int}:bG (nd k vs) (i::p)=if 0≤i then(vs[i.toNat]?).bind fun u=>bG u p else none:=by
 show(match(if 0≤i then vs[i.toNat]? else none) with | some u=>bG u p | none=>none)=_
 split<;>split<;>simp_all
theorem vn(r:List Int):∀ (pre vs:List V) (k:Int),vs.length=r.length→(wr (W s) pre.length r).filterMap (fun x=>jk x.2 (bG (nd k (pre++vs)) x.1))=RL s (r.zip vs):=by
 induction r with
 |nil=>intro pre vs k h;rfl
 |cons k' r ih=>
  intro pre vs k h
  induction vs using List.casesOn with
  |nil=>cases h
  |cons v vs=>
   skip
   (refine ak (List.filterMap_append) ?_;refine af List.filterMap_map ?_)
   have e1:(fun x:List Int×Int=>jk x.2 (bG (nd k (pre++v::vs)) ((pre.length:Int)::x.1)))=fun x=>jk x.2 (bG v x.1):=by
    funext x
    (refine af wL ?_;refine af (aH (Int.natCast_nonneg _)) ?_;rewrite[Int.toNat_natCast];refine af (List.getElem?_append_right (Nat.le_refl _)) ?_;rw[Nat.sub_self]);rfl
   have e2:=ih (pre++[v]) vs k (Nat.succ.inj h)
   (rewrite[List.append_assoc] at e2;rewrite[List.length_append] at e2;rw[Int.natCast_add] at e2)
   exact congr (congrArg _ (congrArg (List.filterMap · (W s k')) e1)) e2
theorem q6(h:de s){k:Int}{r:List Int}{vs:List V}(e:aV s k=some r)(hl:vs.length=r.length):dM s k (nd k vs)=RL s (r.zip vs):=by
 have hk:k≠12:=fun q=>by have:=(h.row k r e).1;omega
 delta dM
 (refine af (mE h e) ?_;refine ak (List.filterMap_cons) ?_;refine af (show jk k (bG (nd k vs) [])=none from aE hk) ?_)
 exact vn r [] vs k hl
theorem yf(r:List Int):∀ (i:Int) (vs:List V),vs.length=r.length→(wr (W s) i r).length=SZ s (r.zip vs):=by
 induction r with
 |nil=>intro _ _ _;rfl
 |cons k r ih=>
  intro i vs h
  induction vs using List.casesOn with
  |nil=>cases h
  |cons v vs=>
   skip
   (refine ak (List.length_append) ?_;rewrite[List.length_map];refine af (ih (i+1) vs (Nat.succ.inj h)) ?_);rfl
theorem qW(h:de s){k:Int}{r:List Int}{vs:List V}(e:aV s k=some r)(hl:vs.length=r.length):(W s k).length=1+SZ s (r.zip vs):=by
 (refine af (mE h e) ?_;refine ak (List.length_cons) ?_;refine af (yf r 0 vs hl) ?_;rw[Nat.add_comm])
noncomputable def dD(p:List Int):List Int:=(p.reverse.dropWhile (· == 0)).reverse
noncomputable def i8(m:Nat):List Int:=List.replicate m 0
theorem gA(p:List Int):∀ m,dD (p++i8 m)=dD p
 |0=>by(rewrite[i8];refine af List.replicate_zero ?_;rw[List.append_nil])
 |m+1=>by
  have:=gA p m
  delta dD i8 at *
  (refine af List.replicate_succ' ?_;rewrite[← List.append_assoc];refine af List.reverse_append ?_)
  exact this
theorem mX(p:List Int):∃ a,p=dD p++i8 a:=by
 delta dD
 generalize hq:p.reverse=q
 have:p=q.reverse:=by(refine bt hq ?_;rw[List.reverse_reverse])
 subst this
 clear hq
 induction q with
 |nil=>exact⟨0,rfl⟩
 |cons x q ih=>
  by_cases hx:x=0
  ·subst hx
   obtain⟨a,ha⟩:=ih
   refine⟨a+1,?_⟩
   (refine ak (List.reverse_cons) ?_;refine af (List.dropWhile_cons_of_pos rfl) ?_;rewrite[i8];refine af List.replicate_succ' ?_;rw[← List.append_assoc])
   exact congrArg (·++[0]) ha
  ·exact⟨0,by(refine af (List.dropWhile_cons_of_neg (by simpa using hx)) ?_;rewrite[i8];refine af List.replicate_zero ?_;rw[List.append_nil])⟩
theorem cX(q:List Int)(p:List Int):∀ {k k':Int},cq s k p=some k'→cq s k (p++q)=cq s k' q:=by
 induction p with
 |nil=>intro k k' e;refine af (aQ e) ?_;rfl
 |cons i p ih=>
  intro k k' e
  refine o2x4 (cH e) fun r k₁ a b c d=>?_
  (refine bt (ih d) ?_;refine af List.cons_append ?_)
  show(match aV s k with | some r=>if 0≤i then(match r[i.toNat]? with | some k'=>cq s k' (p++q) | none=>none) else none | none=>none)=_
  refine af a ?_;skip;(refine ak (aH b) ?_;(refine af c ?_;with_reducible rfl))
theorem tM{k:Int}(e:aV s k=none){q:List Int}{x:Int}(h:cq s k q=some x):q=[]:=by
 induction q using List.casesOn with
 |nil=>rfl
 |cons i q=>refine o2x2 (cH h) fun za za a za=>?_;rw[e] at a;exact ns a
theorem tD{K k k':Int}{p w:List Int}(h:cq s K p=some k)(hk:aV s k=none)(h':cq s K (p++w)=some k'):w=[]:=tM hk ((cX w p h).symm.trans h')
theorem rI{K k k':Int}{p q:List Int}{m n:Nat}(h:cq s K (p++i8 m)=some k)(hk:aV s k=none)(h':cq s K (q++i8 n)=some k')(hk':aV s k'=none):p++i8 m=q++i8 n↔dD p=dD q:=by
 constructor
 ·intro e;(refine bt (gA p m) ?_;refine af e ?_;rw[gA])
 ·intro e
  refine aI (mX p) fun a ha=>?_
  refine aI (mX q) fun b hb=>?_
  rw[← e] at hb
  generalize dD p=t at *
  subst ha hb
  have z:∀ i j,i8 i++i8 j=i8 (i+j):=fun i j=>List.replicate_append_replicate
  rw[List.append_assoc,z] at h h' ⊢
  (rewrite[List.append_assoc];rw[z])
  have key:∀ {x y:Nat} {c d:Int},cq s K (t++i8 x)=some c→aV s c=none→cq s K (t++i8 y)=some d→x≤y→x=y:=fun{x y c d} e1 e2 e3 le=>by
   have:t++i8 y=(t++i8 x)++i8 (y - x):=by(rewrite[List.append_assoc];rewrite[z];(refine af (Nat.add_sub_cancel' le) ?_;with_reducible rfl))
   rw[this] at e3
   have:=congrArg List.length (tD e1 e2 e3)
   (rewrite[i8] at this;rw[List.length_replicate] at this)
   exact Nat.le_antisymm le (Nat.sub_eq_zero_iff_le.mp this)
  refine Or.elim (Nat.le_total (a+m) (b+n)) (fun l=>?_) (fun l=>?_)
  ·(refine af (key h hk h' l) ?_;with_reducible rfl)
  ·(refine af (key h' hk' h l) ?_;with_reducible rfl)
theorem mx(h:de s){K:Int}{x:List Int×Int}(hx:x ∈ W s K)(hm:∀ y ∈ W s K,y.1.length≤x.1.length):aV s x.2=none:=by
 induction e:aV s x.2 using Option.casesOn with
 |none=>rfl
 |some r=>
  have l:=(h.row _ _ e).2.1
  have a:=(fX h K x.1).mp hx
  have b:cq s K (x.1++[0])=some r[0]:=by
   refine ak (cX [0] x.1 a) ?_;unfold cq;refine af e ?_;dsimp only
   (refine ak (aH (Int.le_refl 0)) ?_;refine af (show((0:Int).toNat)=0 from rfl) ?_;refine af (List.getElem?_eq_getElem l) ?_);rfl
  have:=hm _ ((fX h K _).mpr b)
  rw[List.length_append] at this
  exact absurd this (Nat.not_succ_le_self _)
end Mine
namespace Mine
open PySem
noncomputable def bB(Z Z':H):Prop:=∀ a o,Z a=some o→Z' a=some o
theorem bB.refl{Z:H}:bB Z Z:=fun za za h=>h
theorem bB.trans{a b c:H}(x:bB a b)(y:bB b c):bB a c:=fun p o h=>y p o (x p o h)
theorem bB.new{Z:H}{a:Addr}{o:O}(h:Z a=none):bB Z (Z.set a o):=fun b x e=>bw (fun q=>by rw[q,h] at e;exact ns e) e
theorem bB.set{Z Z':H}{a:Addr}{o:O}(x:bB Z Z')(h:Z a=none):bB Z (Z'.set a o):=fun b y e=>bw (fun q=>by rw[q,h] at e;exact ns e) (x b y e)
section
variable {n:Nat} {Q:aP} {Z:H} {s:List (List Int)}
theorem EI{a p:V}:Cv (a9 (n+1)) none 35 [.tup [.int 3,a,p]] Z p:=by
 refine bj uE rfl fun za q=>?_
 (apply aA;apply ai;apply aq;apply ah;exact ac rfl;exact aj;rfl;exact ao;rfl;apply ax;apply ah;exact ac rfl;exact aj;rfl)
 exact q
theorem EH{k:Int}{a b p:V}(hk:k≠3):Cv (a9 (n+1)) none 35 [.tup [.int k,a,b,p]] Z p:=by
 refine bj uE rfl fun za q=>?_
 (apply au;apply ai;apply aq;apply ah;exact ac rfl;exact aj;rfl;exact ao;refine bH ?_;assumption;apply ax;apply ah;exact ac rfl;exact aj;rfl)
 exact q
theorem EJ{k s:Int}{a b:V}{p:List V}(hk:k≠3)(hp:p.length+1≤bM):Cv (a9 (n+1)) none 34 [.tup [.int k,a,b,.tup p],.int s] Z (.tup [.int k,a,b,.tup (p++[.int s])]):=by
 refine bj uF rfl fun za q=>?_
 (apply au;apply ai;apply aq;apply ah;exact ac rfl;exact aj;rfl;exact ao;refine bH ?_;assumption;apply ax;apply aF;apply ab;apply ah;exact ac rfl;exact aj;rfl;apply ab;apply ah;exact ac rfl;exact aj;rfl;apply ab;apply ah;exact ac rfl;exact aj;rfl;apply ab;apply aB;apply ah;exact ac rfl;exact aj;rfl;apply aF;apply ab;exact ac rfl;exact ae;refine fun za q=>⟨?_,q⟩;assumption;exact ae)
 exact q
theorem EK{s:Int}{a:V}{p:List V}(hp:p.length+1≤bM):Cv (a9 (n+1)) none 34 [.tup [.int 3,a,.tup p],.int s] Z (.tup [.int 3,a,.tup (p++[.int s])]):=by
 refine bj uF rfl fun za q=>?_
 (apply aA;apply ai;apply aq;apply ah;exact ac rfl;exact aj;rfl;exact ao;rfl;apply ax;apply aF;apply ab;exact aj;apply ab;apply ah;exact ac rfl;exact aj;rfl;apply ab;apply aB;apply ah;exact ac rfl;exact aj;rfl;apply aF;apply ab;exact ac rfl;exact ae;refine fun za q=>⟨?_,q⟩;assumption;exact ae)
 exact q
theorem EF{a b:V}:Cv (a9 (n+1)) none 37 [.tup [.int 1,a,.int (-1),b]] Z (.int 0):=by
 refine bj uD rfl fun za q=>?_
 (apply aA;apply bd;apply b7;apply ai;apply aq;apply ah;exact ac rfl;exact aj;rfl;exact ao;rfl;apply bc;apply ai;apply aq;apply ah;exact ac rfl;exact aj;rfl;exact ao;rfl;apply ax;exact aj)
 exact q
theorem EG{k i:Int}{a b:V}(h:i≠-1):Cv (a9 (n+1)) none 37 [.tup [.int k,a,.int i,b]] Z (.int i):=by
 refine bj uD rfl fun za q=>?_
 by_cases hk:k=1
 ·(apply au;apply bd;apply b7;apply ai;apply aq;apply ah;exact ac rfl;exact aj;rfl;exact ao;refine bS ?_;assumption;apply bc;apply ai;apply aq;apply ah;exact ac rfl;exact aj;rfl;exact ao;refine bH ?_;assumption;apply ax;apply ah;exact ac rfl;exact aj;rfl)
  exact q
 ·(apply au;apply bd;apply d8;apply ai;apply aq;apply ah;exact ac rfl;exact aj;rfl;exact ao;refine bH ?_;assumption;apply ax;apply ah;exact ac rfl;exact aj;rfl)
  exact q
theorem tC{k t z:Int}(h:eD k t z):t≠5:=by unfold eD at h;split at h<;>lia
theorem Bi{k:Int}{v:V}(hv:Ty s k v)(p:List Int):Cv (a9 (n+1)) none 16 [v,.tup (aN p)] Z ((bG v p).getD .none):=by
 refine bj AG rfl fun P q=>?_
 refine ch (xs:=aN p) (ac rfl) rfl ?_
 refine(?_:∀ (p:List Int) (v:V) (k:Int) (U:Env),Ty s k v→U 0=some v→P ((bG v p).getD .none) Z→FL _ _ _ _ _ _ (aN p) U Z) p v k _ hv rfl q
 intro p
 induction p with
 |nil=>
  intro v k U hv hr q
  apply b9
  (apply ax;apply ac;assumption)
  exact q
 |cons i p ih=>
  intro v k U hv hr q
  refine bR rfl ?_
  induction hv using Ty.casesOn with
  |leaf k t z h1 h2=>
   have:=tC h2
   have q:P .none Z:=by
    have:sub (.tup [.int t,.int z]) i=none:=by unfold sub;split<;>rfl
    unfold bG at q;rw[this] at q;exact q
   (apply aA;apply bd;apply du;apply ai;apply aq;apply aR;assumption;rfl;exact cB;apply qm;refine bH ?_;assumption;apply ax;exact aj)
   exact q
  |node k r vs h1 h2 h3=>
   by_cases hi:0≤i
   ·by_cases hl:i<vs.length
    ·have l:i.toNat<vs.length:=by lia
     have e:=List.getElem?_eq_getElem l
     have e1:sub (nd k vs) i=some vs[i.toNat]:=(aH hi).trans e
     (apply au;apply bd;apply aZ;apply ai;apply aq;apply aR;assumption;rfl;exact cB;rfl;apply aZ;apply ai;apply aq;exact ac rfl;exact aW;refine bH ?_;lia;apply bc;apply ai;apply aM;exact ac rfl;apply a8;apply ab;apply aR;assumption;rfl;exact ae;exact fun za q=>q;exact cK;refine bH ?_;lia)
     (apply av;apply ah;apply aR;assumption;rfl;exact ac rfl;assumption;apply ay)
     exact⟨rfl,ih _ _ _ (h3 _ _ _ (List.getElem?_eq_getElem (h2▸l)) e) rfl (by rw[cg e1] at q;exact q)⟩
    ·have q:P .none Z:=by
      have:sub (nd k vs) i=none:=(aH hi).trans (List.getElem?_eq_none (by show vs.length≤_;lia))
      unfold bG at q;rw[this] at q;exact q
     (apply aA;apply bd;apply aZ;apply ai;apply aq;apply aR;assumption;rfl;exact cB;rfl;apply aZ;apply ai;apply aq;exact ac rfl;exact aW;refine bH ?_;lia;apply bc;apply ai;apply aM;exact ac rfl;apply a8;apply ab;apply aR;assumption;rfl;exact ae;exact fun za q=>q;exact cK;refine bS ?_;lia;apply ax;exact aj)
     exact q
   ·have q:P .none Z:=by
     have:sub (nd k vs) i=none:=aE hi
     unfold bG at q;rw[this] at q;exact q
    (apply aA;apply bd;apply aZ;apply ai;apply aq;apply aR;assumption;rfl;exact cB;rfl;apply du;apply ai;apply aq;exact ac rfl;exact aW;refine bS ?_;lia;apply ax;exact aj)
    exact q
end
section
variable {n:Nat} {Q:aP} {Z:H} {s:List (List Int)}
noncomputable def jj:V→List Int→List V
 |_,[]=>[]
 |v,i::p=>.tup [v,.int i]::jj ((sub v i).getD .none) p
theorem jC(p:List Int):∀ v,(jj v p).length=p.length:=by
 induction p with
 |nil=>intro _;rfl
 |cons i p ih=>intro v;exact congrArg (· + 1) (ih _)
theorem fG{v u:V}{j:Int}{p:List Int}(h:bG v (j::p)=some u):∃ w,sub v j=some w∧bG w p=some u:=by
 have h:(match sub v j with | some u=>bG u p | none=>none)=some u:=h
 induction e:sub v j using Option.casesOn with
 |none=>rw[e] at h;exact ns h
 |some w=>rw[e] at h;exact⟨w,rfl,h⟩
theorem mQ{q:List Int}(p:List Int):∀ {v u:V},bG v p=some u→jj v (p++q)=jj v p++jj u q:=by
 induction p with
 |nil=>intro v u h;refine af (aQ h) ?_;rfl
 |cons j p ih=>
  intro v u h
  refine o1x2 (fG h) fun w e h=>?_
  show _::jj ((sub v j).getD .none) (p++q)=_::jj ((sub v j).getD .none) p++_
  refine af e ?_;exact congrArg _ (ih h)
theorem ik{q:List Int}(p:List Int):∀ {v u:V},bG v p=some u→bG v (p++q)=bG u q:=by
 induction p with
 |nil=>intro v u h;refine af (aQ h) ?_;rfl
 |cons j p ih=>intro v u h;refine o1x2 (fG h) fun w e h=>?_;(refine af List.cons_append ?_;refine ak (cg e) ?_);exact ih h
theorem pn{q:List Int}{x:V}(p:List Int):∀ {v:V},bG v (p++q)=some x→∃ u,bG v p=some u∧bG u q=some x:=by
 induction p with
 |nil=>intro v h;exact⟨v,rfl,h⟩
 |cons j p ih=>intro v h;refine o1x2 (fG h) fun w e h=>?_;refine af (cg e) ?_;exact ih h
theorem rD{q:List Int}{x:Int}(p:List Int):∀ {k:Int},cq s k (p++q)=some x→∃ k',cq s k p=some k'∧cq s k' q=some x:=by
 induction p with
 |nil=>intro k h;exact⟨k,rfl,h⟩
 |cons j p ih=>
  intro k h
  refine o2x4 (cH h) fun r k₁ a b c d=>?_
  refine o1x2 (ih d) fun k' e f=>?_
  refine⟨k',?_,f⟩
  unfold cq;refine af a ?_;dsimp only;(refine ak (aH b) ?_;refine af c ?_);exact e
theorem Ty.small(hs:de s){k:Int}{a c:V}{vs:List V}(h:Ty s k (.tup [a,c,.tup vs])):vs.length≤3:=by
 cases h with
 |node k r vs h1 h2 h3=>have:=(hs.row _ _ h1).2.2.1;lia
theorem mW{v u:V}{i:Int}(h:sub v i=some u):∃ a b vs,v=.tup [a,b,.tup vs]∧0≤i∧vs[i.toNat]? = some u:=by
 unfold sub at h
 split at h
 ·next hi=>
  unfold Ce at h
  split at h
  ·exact⟨_,_,_,rfl,hi,h⟩
  ·exact ns h
 ·exact ns h
theorem s7{u x:V}{i:Int}(p:List Int):∀ {v:V},bG v p=some u→cO v (p++[i]) x=cO v p (oT u i x):=by
 induction p with
 |nil=>intro v h;refine af (aQ h) ?_;rfl
 |cons j p ih=>intro v h;refine o1x2 (fG h) fun w e h=>?_;(refine af List.cons_append ?_;refine ak (eM e) ?_;refine af (eM e) ?_;(refine af (ih h) ?_;with_reducible rfl))
theorem vF{vs:List V}{i:Nat}{y:V}(h:i<vs.length):vs.take i++[y]++vs.drop (i+1)=vs.set i y:=by
 (refine af List.set_eq_take_append_cons_drop ?_;refine af (aH h) ?_;rw[List.append_assoc]);rfl
theorem ER(hs:de s){k k':Int}{v x:V}{p:List Int}(hv:Ty s k v)(hk:cq s k p=some k')(hp:p.length≤100)(q:∀ Z',bB Z Z'→Q (cO v p x) Z'):a9 (n+1) none 17 [v,.tup (aN p),x] Q Z:=by
 have hk0:=hk
 refine br AF rfl ?_
 refine aX (bz ae fun b hb=>?_)
 (apply av;exact ac rfl)
 refine ch (xs:=aN p) (ac rfl) rfl ?_
 refine(?_:∀ (p1 p0:List Int) (U:Env) (Z':H) (u:V) (kw:Int),p=p0++p1→bG v p0=some u→Ty s kw u→cq s kw p1=some k'→U 2=some x→U 3=some (.ref b)→U 4=some u→bB Z Z'→Z' b=some (.list (jj v p0))→FL _ _ _ _ _ _ (aN p1) U Z') p [] _ _ v k rfl rfl hv hk rfl rfl rfl (bB.refl.set hb) aC
 intro p1
 induction p1 with
 |cons i p1 ih=>
  intro p0 U Z' u kw e hu ht hk h2 h3 h4 hx hl
  have hl1:(jj v p0).length<bM:=by rw[jC];subst e;rw[List.length_append] at hp;unfold bM;lia
  refine o2x2 (ht.step hk) fun k₁ w bl e1=>?_
  refine o2x4 (cH hk) fun r za hr hi za za=>?_
  refine bR rfl (bI (ac h3) hl (aF (ab (ac h4) (ab (ac rfl) ae))) hl1 ?_)
  have ew:jj v (p0++[i])=jj v p0++[.tup [u,.int i]]:=mQ p0 hu
  refine bt ew ?_
  induction ht using Ty.casesOn with
  |leaf k t z h1 h2=>rw[hr] at h1;exact sn h1
  |node k r vs g1 g2 g3=>
   have e2:vs[i.toNat]? = some w:=(aH hi).symm.trans bl.sub
   refine av (ah (ah (ac h4) aj rfl) (ac rfl) (bQ hi e2)) (ay ⟨rfl,ih (p0++[i]) _ _ w k₁ (by(refine ak (e) ?_;rw[List.append_assoc]);rfl) ((ik p0 hu).trans (cg bl.sub)) bl.ty e1 h2 h3 rfl (hx.set hb) aC⟩)
 |nil=>
  intro p0 U Z' u kw e hu ht hk h2 h3 h4 hx hl
  rw[List.append_nil] at e
  subst e
  apply b9
  refine av (aB (a8 (ab (ac h3) ae) (bK hl)) aj fun za q=>q) (gQ (n:=p.length+1) ?_)
  rw[jC]
  refine(?_:∀ (m:Nat) (y:V) (U:Env),m≤p.length→(∀ Z',bB Z Z'→Q (cO v (p.take m) y) Z')→U 2=some y→U 3=some (.ref b)→U 6=some (.int ((m:Int) - 1))→WL _ _ _ _ (m+1) U Z') p.length x _ (Nat.le_refl _) (by refine af List.take_length ?_;exact q) h2 h3 rfl
  intro m
  induction m with
  |zero=>
   intro y U hm q h2 h3 h6
   refine eA (ai (aM (ac h6) aj cK) rfl) (ax (ac h2) (q _ hx))
  |succ m ih=>
   intro y U hm q h2 h3 h6
   refine o1x2 ((⟨p[m],by(rewrite[← List.drop_eq_getElem_cons];rw[List.take_append_drop]),List.take_append_getElem hm⟩:∃ i,p.take m++i::p.drop (m+1)=p∧p.take m++[i]=p.take (m+1))) fun i e e'=>?_
   have hn:(p.take m).length=m:=by(refine ak (List.length_take) ?_;(refine ak (Nat.min_eq_left (Nat.le_of_succ_le hm)) ?_;with_reducible rfl))
   rw[← e'] at q
   generalize p.take m=p0 at *
   generalize p.drop (m+1)=p2 at *
   refine o1x2 (pn p0 (e.symm▸hu:bG v (p0++i::p2)=some u)) fun w hw hw'=>?_
   refine o1x2 (fG hw') fun z hz za=>?_
   have el:(jj v p)[m]? = some (.tup [w,.int i]):=by
    (refine bt e ?_;refine af (mQ _ hw) ?_;refine bt hn ?_;refine bt (jC p0 v) ?_;refine ak (List.getElem?_append_right (Nat.le_refl _)) ?_;rw[Nat.sub_self]);rfl
   refine o3x2 (mW hz) fun a c vs e3 q9=>?_;obtain rfl:=e3;refine o0x2 q9 fun hi hvs=>?_;clear q9
   have l:=(List.getElem?_eq_some_iff.mp hvs).1
   refine cL (ai (aM (ac h6) aj cK) (bS (by lia))) (lJ (ah (ac h3) (ac h6) (aK hl (by lia) (by refine af (show((((m+1:Nat):Int) - 1).toNat)=m by lia) ?_;exact el))) ?_)
   refine o1x2 (rD p0 (e.symm▸hk0:cq s k (p0++i::p2)=some k')) fun kw' hk1 za=>?_
   refine o1x2 (hv.get p0 hk1) fun w' hw1 tw=>?_
   cases hw.symm.trans hw1
   have sm:=tw.small hs
   have b1:(vs.take i.toNat).length+1≤bM:=by refine af List.length_take ?_;unfold bM;lia
   have b2:(vs.take i.toNat++[y]).length+(vs.drop (i+1).toNat).length≤bM:=by(refine af List.length_append ?_;refine af List.length_take ?_;refine af List.length_drop ?_);unfold bM;show _+1+_≤_;lia
   refine av (v:=oT (.tup [a,c,.tup vs]) i y) ?_ ?_
   ·refine fg (b:=.tup [.int 5,c,.tup (vs.take i.toNat++[y]++vs.drop (i+1).toNat)]) ?_ (by(refine af (show(i+1).toNat=i.toNat+1 by lia) ?_;refine af (vF l) ?_);rfl)
    (apply aF;apply ab;exact aj;apply ab;refine aR rfl ?_;rfl;apply ab;apply aB;apply aB;apply mi;refine aR rfl ?_;rfl;exact ac rfl;lia;apply aF;apply ab;apply ac;assumption;exact ae;refine fun za q=>⟨?_,q⟩;assumption;apply mh;refine aR rfl ?_;rfl;apply aB;exact ac rfl;exact aj;exact fun za q=>q;lia;refine fun za q=>⟨?_,q⟩;assumption;exact ae)
   ·refine jG (a:=(m+1:Nat) - 1) h6 aj rfl (ay (ih _ _ (Nat.le_of_succ_le hm) (fun Z' h=>by refine bt (s7 p0 hw) ?_;exact q Z' h) rfl h3 ?_))
    exact congrArg (fun z:Int=>some (V.int z)) (by lia)
end
theorem fH{P:Nat→Prop}(h0:P 0)(h1:P 1)(h2:P 2)(h3:P 3)(h4:P 4)(h5:P 5)(h6:P 6)(h7:P 7){r:Nat}(hr:r<8):P r:=by
 match r,hr with
 |0,_=>exact h0
 |1,_=>exact h1
 |2,_=>exact h2
 |3,_=>exact h3
 |4,_=>exact h4
 |5,_=>exact h5
 |6,_=>exact h6
 |7,_=>exact h7
structure Dt where
 nums:List Int
 at_:Nat
 sh:List (V×V)
 sp:List (V×V)
 es:List (V×V)
 cs:List (V×V)
 hc:List (V×V)
 rows:List (V×V)
 bits:Int
 g0:Int
 g1:Int
 g2:Int
 v:Nat→V
 flag:Bool
 st:Bool
 wf:Bool
 wa:Addr
 s:List (List Int)
noncomputable def oB(k h i:Int)(p:List Int):V:=.tup [.int k,.int h,.int i,.tup (aN p)]
noncomputable def u9(w:Int)(p:List Int):V:=.tup [.int 3,.int w,.tup (aN p)]
noncomputable def pl(p:List Int):Nat→V
 |0=>oB 1 7 0 p
 |1=>oB 2 7 0 p
 |2=>oB 4 17 1 p
 |3=>u9 19 p
 |4=>u9 22 p
 |5=>u9 23 p
 |6=>u9 26 p
 |_=>oB 1 9 (-1) p
noncomputable def bu:Nat→Int
 |0=>18 | 1=>19 | 2=>18 | 3=>19 | 4=>19 | 5=>19 | _=>18
noncomputable def dN(d:Dt)(k:Nat):V:=if k<16 then .tup [.int 1,.int k] else if k=16 then .tup [.int 3,.int 80,.tup []] else if k=17 then .tup [.int 2,.int 70,.tup []] else
 if k<18+d.s.length then .tup [.int 3,.int (64+(k - 18:Nat)),.tup []] else .tup [.int 4,.int 19]
noncomputable def objs(A:Nat→Addr)(d:Dt):List O:=[
 .dict [(.sym 202,.ref (A 1)),(.sym 118,.int d.at_)],
 .list (aN d.nums),
 .dict [(.sym 211,.int 16),(.sym 204,.ref (A 3)),(.sym 203,.ref (A 4)),(.sym 210,.tup (aN [18,19,18,19,19,19,18,18])),(.sym 205,.ref (A 5)),(.sym 121,.ref (A 6)),(.sym 209,.int d.bits),(.sym 176,.ref d.wa),
  (.sym 208,.tup [.bool false,.bool false,.bool false,.bool (decide (0<d.g0)),.bool (decide (0<d.g1)),.bool (decide (0<d.g1)),.bool (decide (0<d.g2)),.bool false]),(.sym 207,.ref (A 30)),(.sym 132,.int 17),(.sym 130,.tup [.ref (A 33),.ref (A 34)]),
  (.sym 206,.tup [pl [] 0,pl [] 1,pl [] 2,pl [] 3,pl [] 4,pl [] 5,pl [] 6,pl [] 7])],
 .dict d.sh,
 .dict d.sp,
 .dict d.es,
 .dict d.cs,
 .list [],
 .dict [(.int 7,.ref (A 33)),(.int 9,.ref (A 34))],
 .dict [(.int 17,.ref (A 10))],
 .list [.tup [.int 1,.int 57],d.v 2],
 .list [d.v 0,.tup [.int 1,.int 55]],
 .list [d.v 1,.tup [.int 1,.int 56]],
 .list [d.v 7],
 .list [],
 .list [],
 .dict [(.int 16,.ref (A 35)),(.int 20,.ref (A 36)),(.int 24,.ref (A 37))],
 .list [.ref (A 35),.ref (A 36),.ref (A 37)],
 .dict d.hc,
 .list [.tup [.int 4,.int 24],d.v 3],
 .list [d.v 4,d.v 5],
 .list [d.v 6],
 .dict d.rows,
 .dict [(.int 16,.int 5)],
 .list ((List.range (19+d.s.length)).map (dN d)),
 .list (List.replicate (19+d.s.length) (.int 0)),
 .list [.none,.ref (A 40)],
 .list (if d.flag then[.tup [.int 4,.int 0,.int (-1)]] else[]),
 .list []]
noncomputable def jm(A:Nat→Addr)(d:Dt):List (Addr×Nat×V):=[
 (A 30,129,.ref (A 32)),(A 30,150,.ref (A 39)),(A 30,149,.ref (A 38)),(A 30,90,.ref (A 22)),(A 30,154,.ref (A 23)),(A 30,130,.ref (A 28)),(A 30,155,.ref (A 8)),(A 30,131,.ref (A 9)),(A 30,159,.ref (A 27)),(A 30,163,.ref (A 31)),(A 30,165,.ref (A 43)),
 (A 31,129,.ref (A 32)),(A 31,130,.ref (A 8)),(A 31,131,.ref (A 9)),
 (A 32,117,.ref (A 17)),(A 32,118,.ref (A 16)),(A 32,121,.ref (A 18)),(A 32,122,.int d.bits),(A 32,119,.int 27),
 (A 33,133,.ref (A 11)),(A 33,134,.ref (A 12)),(A 33,136,.tup [.int 17,.int 1,.tup []]),(A 33,137,.ref (A 41)),(A 33,132,.int 7),
 (A 34,133,.ref (A 15)),(A 34,134,.ref (A 14)),(A 34,135,.ref (A 13)),(A 34,136,.tup [.int 18,.int 1,.tup []]),(A 34,137,.ref (A 42)),(A 34,132,.int 9),
 (A 35,111,.int 16),(A 35,112,.int 17),(A 35,113,.ref (A 19)),(A 35,114,.int d.g0),(A 35,115,.int 4),
 (A 36,111,.int 20),(A 36,112,.int (18+d.s.length)),(A 36,113,.ref (A 20)),(A 36,114,.int d.g1),(A 36,115,.int 4),
 (A 37,111,.int 24),(A 37,112,.int 18),(A 37,113,.ref (A 21)),(A 37,114,.int d.g2),(A 37,115,.int 3),
 (A 38,150,.ref (A 39)),(A 38,197,.ref (A 26)),
 (A 39,90,.ref (A 24)),(A 39,94,.ref (A 25)),
 (A 40,183,.int 1),(A 40,187,.int 0),(A 40,188,.tup [.int 19,.int 7]),
 (A 41,133,.tup [.int 18,.int 7]),(A 42,133,.tup []),
 (A 30,158,.int (if d.st then 3 else 0))]
noncomputable def eu(x:List Int×Int):V:=.tup [.tup (aN x.1),.int x.2]
structure Wd (A:Nat→Addr) (d:Dt) (Z:H):Prop where
 o:∀ (i:Nat) {o:O},(objs A d)[i]? = some o→Z (A i)=some o
 inj:∀ i j:Nat,i<29→j<29→A i=A j→i=j
 f:∀ (i:Nat) {a:Addr} {n:Nat} {v:V},(jm A d)[i]? = some (a,n,v)→cV Z (.ref a) n=some v
 m:fC Z (.ref (A 30))=some (.inst 85)
 kt:fC Z (.ref (A 39))=some (.inst 78)
 cl:fC Z (.ref (A 43))=some (.inst 84)
 wr:Z d.wa=some (.list (if d.wf then[.int 4] else[]))∧∀ i,i<29→d.wa≠A i
 sp:∀ (k:Int) (r:List Int),aV d.s k=some r→∃ a,aJ d.sp (.int k)=some (.ref a)∧Z a=some (.list ((W d.s k).map eu))∧∀ i,i<29→a≠A i
section
variable {A:Nat→Addr} {d:Dt} {Z Z':H} {C:aO} {U:Env}
theorem ot{a:Addr}{n:Nat}{v:V}(h:∀ o,Z a=some o→Z' a=some o)(e:cV Z (.ref a) n=some v):cV Z' (.ref a) n=some v:=by
 have e:(match Z a with | some (.inst c fs)=>if(bo c).contains n then dK fs n else Option.none | _=>Option.none)=some v:=e
 show(match Z' a with | some (.inst c fs)=>if(bo c).contains n then dK fs n else Option.none | _=>Option.none)=some v
 induction q:Z a using Option.casesOn with
 |none=>rw[q] at e;exact ns e
 |some o=>rw[q] at e;refine af (h o q) ?_;exact e
theorem gj{a:Addr}{k:MK}(h:∀ o,Z a=some o→Z' a=some o)(e:fC Z (.ref a)=some k):fC Z' (.ref a)=some k:=by
 have e:(match Z a with | some (.list _)=>some .list | some (.dict _)=>some .dict | some (.inst c _)=>some (.inst c) | _=>Option.none)=some k:=e
 show(match Z' a with | some (.list _)=>some .list | some (.dict _)=>some .dict | some (.inst c _)=>some (.inst c) | _=>Option.none)=some k
 induction q:Z a using Option.casesOn with
 |none=>rw[q] at e;exact ns e
 |some o=>rw[q] at e;refine af (h o q) ?_;exact e
theorem Wd.ext(h:Wd A d Z)(x:bB Z Z'):Wd A d Z':=⟨fun i o e=>x _ _ (h.o i e),h.inj,fun i a n v e=>ot (x a) (h.f i e),gj (x _) h.m,gj (x _) h.kt,gj (x _) h.cl,⟨x _ _ h.wr.1,h.wr.2⟩,fun k r e=>let ⟨a,b,c,f⟩:=h.sp k r e;⟨a,b,x _ _ c,f⟩⟩
noncomputable def Ch:O→Bool
 |.inst _ _=>false
 |_=>true
theorem hY{i:Nat}{o:O}(e:(objs A d)[i]? = some o):i<29∧Ch o=true:=
 ⟨(List.getElem?_eq_some_iff.mp e).1,List.all_eq_true.mp (show(objs A d).all Ch=true from rfl) o (List.mem_of_getElem? e)⟩
theorem rY{a:Addr}{n:Nat}{o:O}(e:Z a=some o)(h:Ch o=true):cV Z (.ref a) n=none:=by
 show(match Z a with | some (.inst c fs)=>if(bo c).contains n then dK fs n else Option.none | _=>Option.none)=none
 refine af e ?_;induction o using O.casesOn with
 |inst _ _=>exact ff h
 |_=>rfl
theorem v9{a:Addr}{c:Nat}{o:O}(e:Z a=some o)(h:Ch o=true):fC Z (.ref a)≠some (.inst c):=by
 show(match Z a with | some (.list _)=>some .list | some (.dict _)=>some .dict | some (.inst c _)=>some (.inst c) | _=>Option.none)≠some (MK.inst c)
 refine af e ?_;induction o using O.casesOn with
 |inst _ _=>exact ff h
 |_=>intro q;cases q
noncomputable def jo(e:Addr)(Z Z':H):Prop:=∀ y o,y≠e→Z y=some o→Z' y=some o
theorem bB.off{e:Addr}(x:bB Z Z'):jo e Z Z':=fun y o za h=>x y o h
theorem jo.trans{e:Addr}{Z'':H}(x:jo e Z Z')(x':jo e Z' Z''):jo e Z Z'':=fun y o h g=>x' y o h (x y o h g)
theorem jo.set{e:Addr}(x:jo e Z Z'){o:O}:jo e Z (Z'.set e o):=fun y o' h g=>bw h (x y o' h g)
theorem Wd.offW{d':Dt}{i:Nat}{o o':O}(h:Wd A d Z)(hi:(objs A d)[i]? = some o)(e:objs A d'=(objs A d).set i o')(ef:jm A d'=jm A d)(ew:(d'.s,d'.sp)=(d.s,d.sp))(x:jo (A i) Z Z')(hx:Z' (A i)=some o')
  (hw:Z' d'.wa=some (.list (if d'.wf then[.int 4] else[]))∧∀ i,i<29→d'.wa≠A i):Wd A d' Z':=by
 refine o0x2 (hY hi) fun l hD=>?_
 have hZ:=h.o i hi
 have ha:∀ {a n v},cV Z (.ref a) n=some v→a≠A i:=fun q c=>by(rewrite[c] at q;rw[rY hZ hD] at q);exact ns q
 have hm:∀ {a c},fC Z (.ref a)=some (.inst c)→a≠A i:=fun q c=>v9 hZ hD (c▸q)
 refine o0x2 (Prod.mk.inj ew) fun e3 e4=>?_
 refine⟨fun j o q=>?_,h.inj,fun j a n v q=>?_,?_,?_,?_,hw,?_⟩
 ·rw[e] at q
  by_cases c:i=j
  ·subst c
   rw[List.getElem?_set_self l] at q
   refine bt (aQ q) ?_;exact hx
  ·rw[List.getElem?_set_ne c] at q
   exact x _ _ (fun c'=>c (h.inj _ _ (hY q).1 l c').symm) (h.o j q)
 ·rw[ef] at q
  have:=h.f j q
  exact ot (fun o e=>x _ _ (ha this) e) this
 ·exact gj (fun o e=>x _ _ (hm h.m) e) h.m
 ·exact gj (fun o e=>x _ _ (hm h.kt) e) h.kt
 ·exact gj (fun o e=>x _ _ (hm h.cl) e) h.cl
 ·(refine af e3 ?_;refine af e4 ?_);exact fun k r e=>let ⟨a,b,c,f⟩:=h.sp k r e;⟨a,b,x _ _ (f i l) c,f⟩
theorem Wd.off{d':Dt}{i:Nat}{o o':O}(h:Wd A d Z)(hi:(objs A d)[i]? = some o)(e:objs A d'=(objs A d).set i o')(ef:jm A d'=jm A d)(ew:(d'.wa,d'.wf,d'.s,d'.sp)=(d.wa,d.wf,d.s,d.sp))(x:jo (A i) Z Z')(hx:Z' (A i)=some o'):Wd A d' Z':=by
 refine o0x2 (Prod.mk.inj ew) fun e1 e2=>?_
 refine o0x2 (Prod.mk.inj e2) fun e2 e3=>?_
 exact h.offW hi e ef e3 x hx (by(refine af e1 ?_;refine af e2 ?_);exact⟨x _ _ (h.wr.2 i (hY hi).1) h.wr.1,h.wr.2⟩)
theorem Wd.upd{d':Dt}{i:Nat}{o o':O}(h:Wd A d Z)(hi:(objs A d)[i]? = some o)(e:objs A d'=(objs A d).set i o')(ef:jm A d'=jm A d)(ew:(d'.wa,d'.wf,d'.s,d'.sp)=(d.wa,d.wf,d.s,d.sp)):Wd A d' (Z.set (A i) o'):=
 h.off hi e ef ew bB.refl.off.set aC
theorem rK(fs:List (Nat×V))(x:Nat)(v:V):dK (cZ fs x v) x=some v:=by
 induction fs with
 |nil=>exact aH rfl
 |cons e fs ih=>
  unfold cZ
  by_cases c:e.1=x
  ·refine af (aH c) ?_;exact aH c
  ·refine af (aE c) ?_;exact(aE c).trans ih
theorem wR{x n:Nat}{v:V}(h:n≠x)(fs:List (Nat×V)):dK (cZ fs x v) n=dK fs n:=by
 induction fs with
 |nil=>exact aE (Ne.symm h)
 |cons e fs ih=>
  unfold cZ
  by_cases c:e.1=x
  ·refine af (aH c) ?_
   exact(aE fun z=>h (z.symm.trans c)).trans (aE fun z=>h (z.symm.trans c)).symm
  ·refine af (aE c) ?_
   show(if e.1=n then _ else _)=(if e.1=n then _ else _)
   (refine af ih ?_;with_reducible rfl)
theorem iu{a:Addr}{n:Nat}:cV Z (.ref a) n=(match Z a with | some (.inst c fs)=>if(bo c).contains n then dK fs n else Option.none | _=>Option.none):=rfl
theorem oq{a b:Addr}{c n x:Nat}{fs:List (Nat×V)}{v:V}(e:Z a=some (.inst c fs))(h:n≠x):cV (Z.set a (.inst c (cZ fs x v))) (.ref b) n=cV Z (.ref b) n:=by
 (refine ak (iu) ?_;refine af iu ?_)
 by_cases q:b=a
 ·refine af q ?_;(refine af aC ?_;refine af e ?_);dsimp only;rw[wR h]
 ·(refine af (bw q rfl) ?_;with_reducible rfl)
theorem qv{a:Addr}{c:Nat}(h:fC Z (.ref a)=some (.inst c)):∃ fs,Z a=some (.inst c fs):=by
 have h:(match Z a with | some (.list _)=>some .list | some (.dict _)=>some .dict | some (.inst c _)=>some (.inst c) | _=>Option.none)=some (MK.inst c):=h
 induction q:Z a using Option.casesOn with
 |none=>rw[q] at h;exact ns h
 |some o=>induction o using O.casesOn with
  |inst c' fs=>rw[q] at h;cases h;exact⟨fs,rfl⟩
  |_=>rw[q] at h;cases h
theorem Wd.state{fs:List (Nat×V)}(h:Wd A d Z)(hm:Z (A 30)=some (.inst 85 fs)):Wd A { d with st:=true } (Z.set (A 30) (.inst 85 (cZ fs 158 (.int 3)))):=by
 have hn:∀ {a o},Z a=some o→Ch o=true→a≠A 30:=fun e i q=>by(rewrite[q] at e;rw[hm] at e);obtain rfl:=aQ e;exact ff i
 have hc:∀ {a c},c≠85→fC Z (.ref a)=some (.inst c)→a≠A 30:=fun i e q=>by
  refine aI (qv e) fun fs' e'=>?_
  (rewrite[q] at e';rw[hm] at e');cases e';exact i rfl
 refine⟨fun j o q=>bw (hn (h.o j q) (hY (d:=d) q).2) (h.o j q),h.inj,fun j a n v q=>?_,gG aC,gj (fun o e=>bw (hc (by decide) h.kt) e) h.kt,gj (fun o e=>bw (hc (by decide) h.cl) e) h.cl,⟨bw (hn h.wr.1 rfl) h.wr.1,h.wr.2⟩,fun k r e=>let ⟨a,b,c,f⟩:=h.sp k r e;⟨a,b,bw (hn c rfl) c,f⟩⟩
 have e:jm A { d with st:=true }=(jm A d).set 54 (A 30,158,.int 3):=rfl
 rw[e] at q
 by_cases c:54=j
 ·subst c
  cases q
  (refine ak (iu) ?_;refine af aC ?_)
  exact rK _ _ _
 ·rw[List.getElem?_set_ne c] at q
  have l:j<55:=(List.getElem?_eq_some_iff.mp q).1
  have:((jm A d).take 54).all (fun e=>e.2.1 != 158)=true:=rfl
  have m:(a,n,v) ∈ (jm A d).take 54:=List.mem_of_getElem? (by(rewrite[List.getElem?_take];refine ak (aH (Nat.lt_of_le_of_ne (Nat.le_of_lt_succ l) (Ne.symm c))) ?_);exact q)
  have n1:n≠158:=bne_iff_ne.mp (List.all_eq_true.mp this _ m)
  refine ak (oq hm n1) ?_;exact h.f j q
theorem pN{K:aO}{P:aP}{o:E}{m c:Nat}{as:List E}{vs:List V}{u:V}(ho:Ev K U Z o u)(e:fC Z u=some (.inst c))(hm:fq (.inst c) m=true)(h:Es K U Z as vs)(k:K (some c) m (u::vs) P Z):WE K (.mth o m as) U P Z:=
 ⟨ho.go _ ⟨_,e,hm,h.go _ k⟩⟩
theorem aw{o:E}{u v:V}{n:Nat}(h:Ev C U Z o u)(e:cV Z u n=some v):Ev C U Z (.att o n) v:=⟨fun Q q=>h.go _ ⟨v,e,q⟩⟩
theorem bg{i n:Nat}{u v:V}(h:U i=some u)(e:cV Z u n=some v):Ev C U Z (.att (.x i) n) v:=aw (ac h) e
theorem dq{o:E}{m c:Nat}{as:List E}{vs:List V}{u v:V}(ho:Ev C U Z o u)(e:fC Z u=some (.inst c))(hm:fq (.inst c) m=true)(h:Es C U Z as vs)(hf:Cv C (some c) m (u::vs) Z v):Ev C U Z (.mth o m as) v:=
 ⟨fun Q q=>ho.go _ ⟨_,e,hm,h.go _ (hf.go Q q)⟩⟩
end
section
variable {n:Nat} {Q:aP} {Z:H} {A:Nat→Addr} {d:Dt}
noncomputable def gn:Nat→Nat
 |3=>35 | 4=>36 | 5=>36 | _=>37
noncomputable def ig:Nat→Int
 |3=>1 | 5=>1 | _=>0
noncomputable def fe:Nat→Int
 |3=>19 | 4=>22 | 5=>23 | _=>26
noncomputable def dE(r:Nat):Prop:=r=3∨r=4∨r=5∨r=6
theorem wo(hW:Wd A d Z):∀ Q:aP,Q (.int 3) Z→xd 0 [.ref (A 17)] Q Z:=bK (hW.o 17 rfl)
theorem wW(hW:Wd A d Z){r:Nat}(hr:dE r):Cv (a9 (n+1)) none 21 [.ref (A 32),.int (fe r)] Z (.ref (A (gn r))):=by
 refine bj AB rfl fun za q=>?_
 rcases hr with rfl | rfl | rfl | rfl
 ·(apply av;apply da;refine bg rfl ?_;exact hW.f 15 rfl;exact hW.o 16 rfl;exact ac rfl;rfl;apply au;apply ai;apply aq;exact ac rfl;exact eO rfl;rfl;apply av;exact aj;apply av;apply a8;apply ab;apply aw;exact ac rfl;exact hW.f 14 rfl;exact ae;exact wo hW;refine gQ (n:=40) ?_;apply cL;apply ai;apply aM;exact ac rfl;exact ac rfl;exact aW;rfl;apply av;apply aB;apply aB;exact ac rfl;exact ac rfl;exact fun za q=>q;exact aj;refine fun za q=>⟨?_,q⟩;decide;apply dn;apply ai;apply aM;apply aw;apply ah;apply aw;exact ac rfl;exact hW.f 14 rfl;exact ac rfl;apply aK;exact hW.o 17 rfl;decide;rfl;exact hW.f 35 rfl;exact ac rfl;exact bT;rfl;apply av;exact ac rfl;apply ay;apply ay;apply cL;apply ai;apply aM;exact ac rfl;exact ac rfl;exact aW;rfl;apply av;apply aB;apply aB;exact ac rfl;exact ac rfl;exact fun za q=>q;exact aj;refine fun za q=>⟨?_,q⟩;decide;apply aA;apply ai;apply aM;apply aw;apply ah;apply aw;exact ac rfl;exact hW.f 14 rfl;exact ac rfl;apply aK;exact hW.o 17 rfl;decide;rfl;exact hW.f 30 rfl;exact ac rfl;exact bT;rfl;apply av;apply aB;exact ac rfl;exact aj;exact fun za q=>q;apply ay;apply ay;apply eA;apply ai;apply aM;exact ac rfl;exact ac rfl;exact aW;rfl;apply au;apply ai;apply aq;exact ac rfl;exact ao;rfl;apply av;apply ah;apply aw;exact ac rfl;exact hW.f 14 rfl;apply aB;exact ac rfl;exact aj;exact fun za q=>q;apply aK;exact hW.o 17 rfl;decide;rfl;apply aA;apply ai;apply aM;exact ac rfl;apply aB;apply aw;exact ac rfl;exact hW.f 30 rfl;apply aw;exact ac rfl;exact hW.f 34 rfl;exact fun za q=>q;exact aW;rfl;apply ax;exact ac rfl)
  exact q
 ·(apply av;apply da;refine bg rfl ?_;exact hW.f 15 rfl;exact hW.o 16 rfl;exact ac rfl;rfl;apply au;apply ai;apply aq;exact ac rfl;exact eO rfl;rfl;apply av;exact aj;apply av;apply a8;apply ab;apply aw;exact ac rfl;exact hW.f 14 rfl;exact ae;exact wo hW;refine gQ (n:=40) ?_;apply cL;apply ai;apply aM;exact ac rfl;exact ac rfl;exact aW;rfl;apply av;apply aB;apply aB;exact ac rfl;exact ac rfl;exact fun za q=>q;exact aj;refine fun za q=>⟨?_,q⟩;decide;apply aA;apply ai;apply aM;apply aw;apply ah;apply aw;exact ac rfl;exact hW.f 14 rfl;exact ac rfl;apply aK;exact hW.o 17 rfl;decide;rfl;exact hW.f 35 rfl;exact ac rfl;exact bT;rfl;apply av;apply aB;exact ac rfl;exact aj;exact fun za q=>q;apply ay;apply ay;apply cL;apply ai;apply aM;exact ac rfl;exact ac rfl;exact aW;rfl;apply av;apply aB;apply aB;exact ac rfl;exact ac rfl;exact fun za q=>q;exact aj;refine fun za q=>⟨?_,q⟩;decide;apply dn;apply ai;apply aM;apply aw;apply ah;apply aw;exact ac rfl;exact hW.f 14 rfl;exact ac rfl;apply aK;exact hW.o 17 rfl;decide;rfl;exact hW.f 40 rfl;exact ac rfl;exact bT;rfl;apply av;exact ac rfl;apply ay;apply ay;apply eA;apply ai;apply aM;exact ac rfl;exact ac rfl;exact aW;rfl;apply au;apply ai;apply aq;exact ac rfl;exact ao;rfl;apply av;apply ah;apply aw;exact ac rfl;exact hW.f 14 rfl;apply aB;exact ac rfl;exact aj;exact fun za q=>q;apply aK;exact hW.o 17 rfl;decide;rfl;apply aA;apply ai;apply aM;exact ac rfl;apply aB;apply aw;exact ac rfl;exact hW.f 35 rfl;apply aw;exact ac rfl;exact hW.f 39 rfl;exact fun za q=>q;exact aW;rfl;apply ax;exact ac rfl)
  exact q
 ·(apply av;apply da;refine bg rfl ?_;exact hW.f 15 rfl;exact hW.o 16 rfl;exact ac rfl;rfl;apply au;apply ai;apply aq;exact ac rfl;exact eO rfl;rfl;apply av;exact aj;apply av;apply a8;apply ab;apply aw;exact ac rfl;exact hW.f 14 rfl;exact ae;exact wo hW;refine gQ (n:=40) ?_;apply cL;apply ai;apply aM;exact ac rfl;exact ac rfl;exact aW;rfl;apply av;apply aB;apply aB;exact ac rfl;exact ac rfl;exact fun za q=>q;exact aj;refine fun za q=>⟨?_,q⟩;decide;apply aA;apply ai;apply aM;apply aw;apply ah;apply aw;exact ac rfl;exact hW.f 14 rfl;exact ac rfl;apply aK;exact hW.o 17 rfl;decide;rfl;exact hW.f 35 rfl;exact ac rfl;exact bT;rfl;apply av;apply aB;exact ac rfl;exact aj;exact fun za q=>q;apply ay;apply ay;apply cL;apply ai;apply aM;exact ac rfl;exact ac rfl;exact aW;rfl;apply av;apply aB;apply aB;exact ac rfl;exact ac rfl;exact fun za q=>q;exact aj;refine fun za q=>⟨?_,q⟩;decide;apply dn;apply ai;apply aM;apply aw;apply ah;apply aw;exact ac rfl;exact hW.f 14 rfl;exact ac rfl;apply aK;exact hW.o 17 rfl;decide;rfl;exact hW.f 40 rfl;exact ac rfl;exact bT;rfl;apply av;exact ac rfl;apply ay;apply ay;apply eA;apply ai;apply aM;exact ac rfl;exact ac rfl;exact aW;rfl;apply au;apply ai;apply aq;exact ac rfl;exact ao;rfl;apply av;apply ah;apply aw;exact ac rfl;exact hW.f 14 rfl;apply aB;exact ac rfl;exact aj;exact fun za q=>q;apply aK;exact hW.o 17 rfl;decide;rfl;apply aA;apply ai;apply aM;exact ac rfl;apply aB;apply aw;exact ac rfl;exact hW.f 35 rfl;apply aw;exact ac rfl;exact hW.f 39 rfl;exact fun za q=>q;exact aW;rfl;apply ax;exact ac rfl)
  exact q
 ·(apply av;apply da;refine bg rfl ?_;exact hW.f 15 rfl;exact hW.o 16 rfl;exact ac rfl;rfl;apply au;apply ai;apply aq;exact ac rfl;exact eO rfl;rfl;apply av;exact aj;apply av;apply a8;apply ab;apply aw;exact ac rfl;exact hW.f 14 rfl;exact ae;exact wo hW;refine gQ (n:=40) ?_;apply cL;apply ai;apply aM;exact ac rfl;exact ac rfl;exact aW;rfl;apply av;apply aB;apply aB;exact ac rfl;exact ac rfl;exact fun za q=>q;exact aj;refine fun za q=>⟨?_,q⟩;decide;apply aA;apply ai;apply aM;apply aw;apply ah;apply aw;exact ac rfl;exact hW.f 14 rfl;exact ac rfl;apply aK;exact hW.o 17 rfl;decide;rfl;exact hW.f 35 rfl;exact ac rfl;exact bT;rfl;apply av;apply aB;exact ac rfl;exact aj;exact fun za q=>q;apply ay;apply ay;apply cL;apply ai;apply aM;exact ac rfl;exact ac rfl;exact aW;rfl;apply av;apply aB;apply aB;exact ac rfl;exact ac rfl;exact fun za q=>q;exact aj;refine fun za q=>⟨?_,q⟩;decide;apply aA;apply ai;apply aM;apply aw;apply ah;apply aw;exact ac rfl;exact hW.f 14 rfl;exact ac rfl;apply aK;exact hW.o 17 rfl;decide;rfl;exact hW.f 40 rfl;exact ac rfl;exact bT;rfl;apply av;apply aB;exact ac rfl;exact aj;exact fun za q=>q;apply ay;apply ay;apply eA;apply ai;apply aM;exact ac rfl;exact ac rfl;exact aW;rfl;apply au;apply ai;apply aq;exact ac rfl;exact ao;rfl;apply av;apply ah;apply aw;exact ac rfl;exact hW.f 14 rfl;apply aB;exact ac rfl;exact aj;exact fun za q=>q;apply aK;exact hW.o 17 rfl;decide;rfl;apply aA;apply ai;apply aM;exact ac rfl;apply aB;apply aw;exact ac rfl;exact hW.f 40 rfl;apply aw;exact ac rfl;exact hW.f 44 rfl;exact fun za q=>q;exact aW;rfl;apply ax;exact ac rfl)
  exact q
theorem Bh(hW:Wd A d Z){r:Nat}(hr:dE r):Cv (a9 (n+1)) none 23 [.ref (A (gn r)),.int (fe r)] Z (.int (ig r)):=by
 refine bj Az rfl fun za q=>?_
 rcases hr with rfl | rfl | rfl | rfl
 ·(apply av;apply aB;apply aB;exact ac rfl;apply aw;exact ac rfl;exact hW.f 30 rfl;exact fun za q=>q;exact aj;exact fun za q=>q;apply aA;apply ai;apply fp;exact aj;exact ac rfl;exact bT;apply a8;apply ab;apply aw;exact ac rfl;exact hW.f 32 rfl;exact ae;apply bK;exact hW.o 19 rfl;exact aW;rfl;apply ax;exact ac rfl)
  exact q
 ·(apply av;apply aB;apply aB;exact ac rfl;apply aw;exact ac rfl;exact hW.f 35 rfl;exact fun za q=>q;exact aj;exact fun za q=>q;apply aA;apply ai;apply fp;exact aj;exact ac rfl;exact bT;apply a8;apply ab;apply aw;exact ac rfl;exact hW.f 37 rfl;exact ae;apply bK;exact hW.o 20 rfl;exact aW;rfl;apply ax;exact ac rfl)
  exact q
 ·(apply av;apply aB;apply aB;exact ac rfl;apply aw;exact ac rfl;exact hW.f 35 rfl;exact fun za q=>q;exact aj;exact fun za q=>q;apply aA;apply ai;apply fp;exact aj;exact ac rfl;exact bT;apply a8;apply ab;apply aw;exact ac rfl;exact hW.f 37 rfl;exact ae;apply bK;exact hW.o 20 rfl;exact aW;rfl;apply ax;exact ac rfl)
  exact q
 ·(apply av;apply aB;apply aB;exact ac rfl;apply aw;exact ac rfl;exact hW.f 40 rfl;exact fun za q=>q;exact aj;exact fun za q=>q;apply aA;apply ai;apply fp;exact aj;exact ac rfl;exact bT;apply a8;apply ab;apply aw;exact ac rfl;exact hW.f 42 rfl;exact ae;apply bK;exact hW.o 21 rfl;exact aW;rfl;apply ax;exact ac rfl)
  exact q
theorem Dv(hW:Wd A d Z){r:Nat}(hr:dE r):Cv (a9 (n+2)) none 24 [.ref (A 32),.int (fe r)] Z (d.v r):=by
 refine bj Ay rfl fun za q=>?_
 rcases hr with rfl | rfl | rfl | rfl
 ·(apply av;apply az;apply ab;exact ac rfl;apply ab;exact ac rfl;exact ae;rfl;apply wW hW (.inl rfl);apply au;apply ai;apply aq;exact ac rfl;exact bC rfl;rfl;apply av;apply az;apply ab;exact ac rfl;apply ab;exact ac rfl;exact ae;rfl;apply Bh hW (.inl rfl);apply au;apply ai;apply aq;exact ac rfl;exact aW;rfl;apply ax;apply ah;apply aw;exact ac rfl;exact hW.f 32 rfl;exact ac rfl;apply aK;exact hW.o 19 rfl;decide;rfl)
  exact q
 ·(apply av;apply az;apply ab;exact ac rfl;apply ab;exact ac rfl;exact ae;rfl;apply wW hW (.inr (.inl rfl));apply au;apply ai;apply aq;exact ac rfl;exact bC rfl;rfl;apply av;apply az;apply ab;exact ac rfl;apply ab;exact ac rfl;exact ae;rfl;apply Bh hW (.inr (.inl rfl));apply au;apply ai;apply aq;exact ac rfl;exact aW;rfl;apply ax;apply ah;apply aw;exact ac rfl;exact hW.f 37 rfl;exact ac rfl;apply aK;exact hW.o 20 rfl;decide;rfl)
  exact q
 ·(apply av;apply az;apply ab;exact ac rfl;apply ab;exact ac rfl;exact ae;rfl;apply wW hW (.inr (.inr (.inl rfl)));apply au;apply ai;apply aq;exact ac rfl;exact bC rfl;rfl;apply av;apply az;apply ab;exact ac rfl;apply ab;exact ac rfl;exact ae;rfl;apply Bh hW (.inr (.inr (.inl rfl)));apply au;apply ai;apply aq;exact ac rfl;exact aW;rfl;apply ax;apply ah;apply aw;exact ac rfl;exact hW.f 37 rfl;exact ac rfl;apply aK;exact hW.o 20 rfl;decide;rfl)
  exact q
 ·(apply av;apply az;apply ab;exact ac rfl;apply ab;exact ac rfl;exact ae;rfl;apply wW hW (.inr (.inr (.inr rfl)));apply au;apply ai;apply aq;exact ac rfl;exact bC rfl;rfl;apply av;apply az;apply ab;exact ac rfl;apply ab;exact ac rfl;exact ae;rfl;apply Bh hW (.inr (.inr (.inr rfl)));apply au;apply ai;apply aq;exact ac rfl;exact aW;rfl;apply ax;apply ah;apply aw;exact ac rfl;exact hW.f 42 rfl;exact ac rfl;apply aK;exact hW.o 21 rfl;decide;rfl)
  exact q
end
section
variable {n:Nat} {Q:aP} {Z:H} {A:Nat→Addr} {d:Dt}
theorem js{p:List Int}{r:Nat}:Cv (a9 (n+1)) none 35 [pl p r] Z (.tup (aN p)):=by
 have o:∀ k h i,k≠3→Cv (a9 (n+1)) none 35 [oB k h i p] Z (.tup (aN p)):=fun k h i hk=>EH hk
 match r with
 |0 | 1 | 2=>exact o _ _ _ (by decide)
 |3 | 4 | 5 | 6=>exact EI
 |_+7=>exact o _ _ _ (by decide)
noncomputable def lL:Nat→Nat
 |0=>11 | 1=>12 | 2=>10 | _=>13
noncomputable def lM:Nat→Int
 |2=>1 | _=>0
noncomputable def gF(r:Nat):Prop:=r=0∨r=1∨r=2∨r=7
theorem Cz(hW:Wd A d Z){r:Nat}(hr:gF r){p:List Int}:Cv (a9 (n+1)) none 36 [.ref (A 31),pl p r] Z (.ref (A (lL r))):=by
 refine bj Am rfl fun za q=>?_
 rcases hr with rfl | rfl | rfl | rfl
 ·(apply au;apply ai;apply aq;apply ah;exact ac rfl;exact aj;rfl;exact ao;rfl;apply av;apply da;refine bg rfl ?_;exact hW.f 12 rfl;exact hW.o 8 rfl;apply ah;exact ac rfl;exact aj;rfl;rfl;apply au;apply ai;apply aq;exact ac rfl;exact bC rfl;rfl;apply au;apply ai;apply aq;apply ah;exact ac rfl;exact aj;rfl;exact ao;rfl;apply au;apply ai;apply aq;apply ah;exact ac rfl;exact aj;rfl;exact ao;rfl;apply ax;apply aw;exact ac rfl;exact hW.f 19 rfl)
  exact q
 ·(apply au;apply ai;apply aq;apply ah;exact ac rfl;exact aj;rfl;exact ao;rfl;apply av;apply da;refine bg rfl ?_;exact hW.f 12 rfl;exact hW.o 8 rfl;apply ah;exact ac rfl;exact aj;rfl;rfl;apply au;apply ai;apply aq;exact ac rfl;exact bC rfl;rfl;apply aA;apply ai;apply aq;apply ah;exact ac rfl;exact aj;rfl;exact ao;rfl;apply ax;apply aw;exact ac rfl;exact hW.f 20 rfl)
  exact q
 ·(apply aA;apply ai;apply aq;apply ah;exact ac rfl;exact aj;rfl;exact ao;rfl;apply ax;apply da;refine bg rfl ?_;exact hW.f 13 rfl;exact hW.o 9 rfl;apply ah;exact ac rfl;exact aj;rfl;rfl)
  exact q
 ·(apply au;apply ai;apply aq;apply ah;exact ac rfl;exact aj;rfl;exact ao;rfl;apply av;apply da;refine bg rfl ?_;exact hW.f 12 rfl;exact hW.o 8 rfl;apply ah;exact ac rfl;exact aj;rfl;rfl;apply au;apply ai;apply aq;exact ac rfl;exact bC rfl;rfl;apply au;apply ai;apply aq;apply ah;exact ac rfl;exact aj;rfl;exact ao;rfl;apply aA;apply ai;apply aq;apply ah;exact ac rfl;exact aj;rfl;exact ao;rfl;apply ax;apply aw;exact ac rfl;exact hW.f 26 rfl)
  exact q
theorem rL{r:Nat}(hr:gF r){p:List Int}:Cv (a9 (n+1)) none 37 [pl p r] Z (.int (lM r)):=by
 refine xM hr ?_ ?_ ?_ ?_;all_goals clear hr
 ·exact EG (by decide)
 ·exact EG (by decide)
 ·exact EG (by decide)
 ·exact EF
theorem EE(hW:Wd A d Z){r:Nat}(hr:r<8){p:List Int}:Cv (a9 (n+3)) none 38 [.ref (A 31),pl p r] Z (d.v r):=by
 refine fH (P:=fun r=>Cv (a9 (n+3)) none 38 [.ref (A 31),pl p r] Z (d.v r)) ?_ ?_ ?_ ?_ ?_ ?_ ?_ ?_ hr<;>refine bj Al rfl fun za q=>?_
 ·(apply au;apply ai;apply aq;apply ah;exact ac rfl;exact aj;rfl;exact ao;rfl;apply av;apply az;apply ab;exact ac rfl;apply ab;exact ac rfl;exact ae;rfl;apply Cz hW (r:=0) (.inl rfl);apply au;apply ai;apply aq;exact ac rfl;exact bC rfl;rfl;apply av;apply az;apply ab;exact ac rfl;exact ae;rfl;apply rL (r:=0) (.inl rfl);apply au;apply bd;apply aZ;apply ai;apply aq;exact ac rfl;exact aW;rfl;apply bc;apply ai;apply aM;exact ac rfl;apply a8;apply ab;exact ac rfl;exact ae;apply bK;exact hW.o 11 rfl;exact cK;rfl;apply ax;apply ah;exact ac rfl;exact ac rfl;apply aK;exact hW.o 11 rfl;decide;rfl)
  exact q
 ·(apply au;apply ai;apply aq;apply ah;exact ac rfl;exact aj;rfl;exact ao;rfl;apply av;apply az;apply ab;exact ac rfl;apply ab;exact ac rfl;exact ae;rfl;apply Cz hW (r:=1) (.inr (.inl rfl));apply au;apply ai;apply aq;exact ac rfl;exact bC rfl;rfl;apply av;apply az;apply ab;exact ac rfl;exact ae;rfl;apply rL (r:=1) (.inr (.inl rfl));apply au;apply bd;apply aZ;apply ai;apply aq;exact ac rfl;exact aW;rfl;apply bc;apply ai;apply aM;exact ac rfl;apply a8;apply ab;exact ac rfl;exact ae;apply bK;exact hW.o 12 rfl;exact cK;rfl;apply ax;apply ah;exact ac rfl;exact ac rfl;apply aK;exact hW.o 12 rfl;decide;rfl)
  exact q
 ·(apply au;apply ai;apply aq;apply ah;exact ac rfl;exact aj;rfl;exact ao;rfl;apply av;apply az;apply ab;exact ac rfl;apply ab;exact ac rfl;exact ae;rfl;apply Cz hW (r:=2) (.inr (.inr (.inl rfl)));apply au;apply ai;apply aq;exact ac rfl;exact bC rfl;rfl;apply av;apply az;apply ab;exact ac rfl;exact ae;rfl;apply rL (r:=2) (.inr (.inr (.inl rfl)));apply au;apply bd;apply aZ;apply ai;apply aq;exact ac rfl;exact aW;rfl;apply bc;apply ai;apply aM;exact ac rfl;apply a8;apply ab;exact ac rfl;exact ae;apply bK;exact hW.o 10 rfl;exact cK;rfl;apply ax;apply ah;exact ac rfl;exact ac rfl;apply aK;exact hW.o 10 rfl;decide;rfl)
  exact q
 ·(apply aA;apply ai;apply aq;apply ah;exact ac rfl;exact aj;rfl;exact ao;rfl;apply ax;apply az;apply ab;apply aw;exact ac rfl;exact hW.f 11 rfl;apply ab;apply ah;exact ac rfl;exact aj;rfl;exact ae;rfl;apply Dv hW (r:=3) (.inl rfl))
  exact q
 ·(apply aA;apply ai;apply aq;apply ah;exact ac rfl;exact aj;rfl;exact ao;rfl;apply ax;apply az;apply ab;apply aw;exact ac rfl;exact hW.f 11 rfl;apply ab;apply ah;exact ac rfl;exact aj;rfl;exact ae;rfl;apply Dv hW (r:=4) (.inr (.inl rfl)))
  exact q
 ·(apply aA;apply ai;apply aq;apply ah;exact ac rfl;exact aj;rfl;exact ao;rfl;apply ax;apply az;apply ab;apply aw;exact ac rfl;exact hW.f 11 rfl;apply ab;apply ah;exact ac rfl;exact aj;rfl;exact ae;rfl;apply Dv hW (r:=5) (.inr (.inr (.inl rfl))))
  exact q
 ·(apply aA;apply ai;apply aq;apply ah;exact ac rfl;exact aj;rfl;exact ao;rfl;apply ax;apply az;apply ab;apply aw;exact ac rfl;exact hW.f 11 rfl;apply ab;apply ah;exact ac rfl;exact aj;rfl;exact ae;rfl;apply Dv hW (r:=6) (.inr (.inr (.inr rfl))))
  exact q
 ·(apply au;apply ai;apply aq;apply ah;exact ac rfl;exact aj;rfl;exact ao;rfl;apply av;apply az;apply ab;exact ac rfl;apply ab;exact ac rfl;exact ae;rfl;apply Cz hW (r:=7) (.inr (.inr (.inr rfl)));apply au;apply ai;apply aq;exact ac rfl;exact bC rfl;rfl;apply av;apply az;apply ab;exact ac rfl;exact ae;rfl;apply rL (r:=7) (.inr (.inr (.inr rfl)));apply au;apply bd;apply aZ;apply ai;apply aq;exact ac rfl;exact aW;rfl;apply bc;apply ai;apply aM;exact ac rfl;apply a8;apply ab;exact ac rfl;exact ae;apply bK;exact hW.o 13 rfl;exact cK;rfl;apply ax;apply ah;exact ac rfl;exact ac rfl;apply aK;exact hW.o 13 rfl;decide;rfl)
  exact q
theorem vy{s:List (List Int)}{k:Int}{v:V}(h:Ty s k v):ze v=some false:=by induction h using Ty.casesOn<;>rfl
theorem Du(hW:Wd A d Z){r:Nat}(hr:r<8){p:List Int}{k:Int}(hv:Ty d.s k (d.v r)):Cv (a9 (n+4)) none 39 [.ref (A 31),pl p r] Z ((bG (d.v r) p).getD .none):=by
 refine bj Ak rfl fun za q=>?_
 have e:=vy hv
 (apply av;apply az;apply ab;exact ac rfl;apply ab;exact ac rfl;exact ae;rfl;apply EE hW hr;apply au;apply ai;apply aq;exact ac rfl;exact bC e;rfl;apply ax;apply az;apply ab;exact ac rfl;apply ab;apply az;apply ab;exact ac rfl;exact ae;rfl;apply js;exact ae;rfl;apply Bi hv p)
 exact q
end
section
variable {n:Nat} {Q:aP} {Z:H} {A:Nat→Addr} {d:Dt}
theorem cY(p q:List Int):aN (p++q)=aN p++aN q:=List.map_append
theorem Hl{p:List Int}{r:Nat}{i:Int}(hp:p.length<1000):Cv (a9 (n+1)) none 34 [pl p r,.int i] Z (pl (p++[i]) r):=by
 have l:(aN p).length+1≤bM:=by delta aN bM;rw[List.length_map];lia
 have o:∀ k h j,k≠3→Cv (a9 (n+1)) none 34 [oB k h j p,.int i] Z (oB k h j (p++[i])):=fun k h j hk=>by
  delta oB;rw[cY];exact EJ hk l
 have h:∀ w,Cv (a9 (n+1)) none 34 [u9 w p,.int i] Z (u9 w (p++[i])):=fun w=>by
  delta u9;rw[cY];exact EK l
 match r with
 |0 | 1 | 2=>exact o _ _ _ (by decide)
 |3 | 4 | 5 | 6=>exact h _
 |_+7=>exact o _ _ _ (by decide)
theorem zx(hW:Wd A d Z){r:Nat}(hr:r<8){p:List Int}(hp:p.length≤1000):Cv (a9 (n+2)) none 61 [.ref (A 2),.int r,.tup (aN p)] Z (pl p r):=by
 refine bj z5 rfl fun P q=>?_
 have e:bE Z (.tup [pl [] 0,pl [] 1,pl [] 2,pl [] 3,pl [] 4,pl [] 5,pl [] 6,pl [] 7]) (.int r)=some (pl [] r):=by
  refine bQ (Int.natCast_nonneg _) ?_
  rw[Int.toNat_natCast]
  exact fH (P:=fun r=>[pl [] 0,pl [] 1,pl [] 2,pl [] 3,pl [] 4,pl [] 5,pl [] 6,pl [] 7][r]? = some (pl [] r)) rfl rfl rfl rfl rfl rfl rfl rfl hr
 refine av (ah (ah (ac rfl) aj (aG (hW.o 2 rfl) rfl rfl)) (ac rfl) e) ?_
 refine ch (xs:=aN p) (ac rfl) rfl ?_
 refine(?_:∀ (p1 p0:List Int) (U:Env),p=p0++p1→U 3=some (pl p0 r)→FL _ _ _ _ _ _ (aN p1) U Z) p [] _ rfl rfl
 intro p1
 induction p1 with
 |nil=>intro p0 U e h3;rw[List.append_nil] at e;subst e;exact b9 (ax (ac h3) q)
 |cons i p1 ih=>
  intro p0 U e h3
  refine bR rfl (av (az (ab (ac h3) (ab (ac rfl) ae)) rfl (Hl ?_)) (ay ⟨rfl,ih (p0++[i]) _ (by(refine ak (e) ?_;rw[List.append_assoc]);rfl) rfl⟩))
  (rewrite[e] at hp;rw[List.length_append] at hp)
  exact Nat.lt_of_lt_of_le (Nat.lt_add_of_pos_right (Nat.succ_pos _)) hp
end
end Mine
namespace Mine
open PySem
variable {s:List (List Int)}
theorem Bl{f:Int→Sp}{b:Nat}(r:List Int):∀ i,(∀ k ∈ r,(f k).length≤b)→(wr f i r).length≤r.length * b:=by
 induction r with
 |nil=>intro _ _;exact Nat.zero_le _
 |cons k r ih=>
  intro i h
  skip
  (refine af List.length_append ?_;rewrite[List.length_map];refine af List.length_cons ?_;rewrite[Nat.succ_mul];rw[Nat.add_comm])
  exact Nat.add_le_add (ih _ fun k hk=>h k (.tail _ hk)) (h k (.head _))
noncomputable def xS:Nat→Nat
 |0=>1
 |n+1=>1+3 * xS n
theorem yh(h:de s):∀ n k,(wi s n k).length≤xS n:=by
 intro n
 induction n with
 |zero=>intro k;exact Nat.le_refl _
 |succ n ih=>
  intro k
  skip
  (refine af List.length_cons ?_;rw[Nat.add_comm])
  refine Nat.add_le_add_left ?_ _
  induction e:aV s k using Option.casesOn with
  |none=>exact Nat.zero_le _
  |some r=>exact Nat.le_trans (Bl r 0 fun k za=>ih k) (Nat.mul_le_mul_right _ (h.row k r e).2.2.1)
theorem uH{m n:Nat}(h:m≤n):xS m≤xS n:=by
 induction h with
 |refl=>exact Nat.le_refl _
 |step _ ih=>exact Nat.le_trans ih (by show xS _≤1+3 * xS _;lia)
theorem eV(h:de s)(k:Int):rk s k≤7:=by
 delta rk
 induction e:aV s k using Option.casesOn with
 |none=>exact Nat.zero_le _
 |some r=>
  have a:=(h.row k r e).1
  have b:=h.len
  show(18+(s.length:Int) - k).toNat≤7
  lia
theorem ln(h:de s)(k:Int):(W s k).length≤3280:=Nat.le_trans (yh h _ k) (uH (eV h k))
theorem zc(h:de s){k':Int}(p:List Int):∀ {k:Int},cq s k p=some k'→p.length≤rk s k:=by
 induction p with
 |nil=>intro k _;exact Nat.zero_le _
 |cons i p ih=>
  intro k e
  refine o2x4 (cH e) fun r k₁ a b c d=>?_
  exact Nat.lt_of_le_of_lt (ih d) (gb h a (List.mem_of_getElem? c))
theorem cW(h:de s){k k':Int}{p:List Int}(e:cq s k p=some k'):p.length≤7:=Nat.le_trans (zc h p e) (eV h k)
theorem dY{k v:V}(hk:dJ k k=true)(es:List (V×V)):aJ (bJ es k v) k=some v:=by
 induction es with
 |nil=>exact aH hk
 |cons e es ih=>
  unfold bJ
  by_cases c:dJ e.1 k=true
  ·refine af (aH c) ?_;exact aH c
  ·refine af (aE c) ?_;exact(aE c).trans ih
theorem dI{k k' v:V}(hn:k≠k')(es:List (V×V)):aJ (bJ es k v) k'=aJ es k':=by
 have z:¬dJ k k'=true:=fun h=>hn (dX _ _ h)
 induction es with
 |nil=>exact aE z
 |cons e es ih=>
  unfold bJ
  by_cases c:dJ e.1 k=true
  ·have:=dX _ _ c
   refine af (aH c) ?_
   show(if dJ e.1 k'=true then _ else _)=(if dJ e.1 k'=true then _ else _)
   (refine af this ?_;refine ak (aE z) ?_;(refine af (aE z) ?_;with_reducible rfl))
  ·refine af (aE c) ?_
   show(if dJ e.1 k'=true then _ else _)=(if dJ e.1 k'=true then _ else _)
   (refine af ih ?_;with_reducible rfl)
theorem fJ{k v:V}(es:List (V×V)):(bJ es k v).length≤es.length+1:=by
 induction es with
 |nil=>exact Nat.le_refl _
 |cons e es ih=>
  unfold bJ
  by_cases c:dJ e.1 k=true
  ·refine af (aH c) ?_;exact Nat.le_succ _
  ·refine af (aE c) ?_;exact Nat.succ_le_succ ih
theorem nY{k v:V}(es:List (V×V))(h:aJ es k≠none):(bJ es k v).length=es.length:=by
 induction es with
 |nil=>exact absurd rfl h
 |cons e es ih=>
  unfold bJ
  by_cases c:dJ e.1 k=true
  ·refine af (aH c) ?_;rfl
  ·refine af (aE c) ?_;exact congrArg (· + 1) (ih fun q=>h ((aE c).trans q))
theorem dW{es:List (V×V)}{k k' v:V}(h:be es k'=true)(hk:mK k=mK k'):be (bJ es k v) k'=true:=by
 induction es using List.casesOn with
 |nil=>
  have:key k'=true:=(Bool.and_eq_true_iff.mp h).1
  exact Bool.and_eq_true_iff.mpr ⟨this,beq_iff_eq.mpr hk⟩
 |cons e es=>
  unfold bJ
  by_cases c:dJ e.1 k=true
  ·refine af (aH c) ?_;exact h
  ·refine af (aE c) ?_;exact h
theorem su(p:List Int):mS (aN p) (aN p)=true:=by
 induction p with
 |nil=>rfl
 |cons i p ih=>exact Bool.and_eq_true_iff.mpr ⟨bS rfl,ih⟩
noncomputable def ck(r:Nat)(p:List Int):V:=.tup [.int r,.tup (aN p)]
theorem oK(r:Nat)(p:List Int):dJ (ck r p) (ck r p)=true:=
 Bool.and_eq_true_iff.mpr ⟨bS rfl,Bool.and_eq_true_iff.mpr ⟨su p,rfl⟩⟩
theorem lY:∀ {p q:List Int},aN p=aN q→p=q:=by
 intro p
 induction p with
 |nil=>intro q h;induction q using List.casesOn with | nil=>rfl | cons _ _=>cases h
 |cons i p ih=>intro q h;induction q using List.casesOn with
  |nil=>cases h
  |cons j q=>refine o0x2 (List.cons.inj h) fun a b=>?_;(refine af (V.int.inj a) ?_;(refine af (ih b) ?_;with_reducible rfl))
theorem my{r r':Nat}{p q:List Int}(h:ck r p=ck r' q):r=r'∧p=q:=by
 refine o0x2 (List.cons.inj (V.tup.inj h)) fun a b=>?_
 exact⟨Int.ofNat.inj (V.int.inj a),lY (V.tup.inj (List.cons.inj b).1)⟩
theorem wG(n:Nat)(p:List Int):tT n (aN p)=true:=by
 induction p with
 |nil=>induction n using Nat.casesAuxOn<;>rfl
 |cons i p ih=>
  show(hk n (.int i) && tT n (aN p))=true
  refine ak (ih) ?_;induction n using Nat.casesAuxOn<;>rfl
theorem y9(r:Nat)(p:List Int):key (ck r p)=true:=by
 show(true && ((tT 2 (aN p)) && true))=true
 rw[wG];rfl
noncomputable def gP(s:List (List Int))(r:Nat)(p:List Int)(x:V):Sp→List (V×V)→List (V×V)
 |[],es=>es
 |y::l,es=>gP s r p x l (if aV s y.2=none then bJ es (ck r (p++y.1)) ((bG x y.1).getD .none) else es)
theorem lS{r:Nat}{p:List Int}{x k:V}(l:Sp):∀ es,(∀ y ∈ l,aV s y.2=none→ck r (p++y.1)≠k)→aJ (gP s r p x l es) k=aJ es k:=by
 induction l with
 |nil=>intro _ _;rfl
 |cons y l ih=>
  intro es h
  show aJ (gP s r p x l _) k=_
  refine ak (ih _ fun y hy=>h y (.tail _ hy)) ?_
  by_cases c:aV s y.2=none
  ·refine af (aH c) ?_;exact dI (h y (.head _) c) es
  ·(refine af (aE c) ?_;with_reducible rfl)
theorem q8{r:Nat}{p:List Int}{x u:V}{w:List Int}(hx:bG x w=some u)(l:Sp):∀ es,aJ es (ck r (p++w))=some u→aJ (gP s r p x l es) (ck r (p++w))=some u:=by
 induction l with
 |nil=>intro _ h;exact h
 |cons y l ih=>
  intro es h
  refine ih _ ?_
  by_cases c:aV s y.2=none
  ·refine af (aH c) ?_
   by_cases e:ck r (p++y.1)=ck r (p++w)
   ·(refine af e ?_;rewrite[dY (oK _ _)];refine af (List.append_cancel_left (my e).2) ?_;refine af hx ?_);rfl
   ·rw[dI e];exact h
  ·refine af (aE c) ?_;exact h
theorem qf{r:Nat}{p:List Int}{x u:V}{y:List Int×Int}(hl:aV s y.2=none)(hx:bG x y.1=some u)(l:Sp):∀ es,y ∈ l→aJ (gP s r p x l es) (ck r (p++y.1))=some u:=by
 induction l with
 |nil=>intro _ h;cases h
 |cons z l ih=>
  intro es h
  refine Or.elim (List.mem_cons.mp h) (fun e=>?_) (fun e=>?_)
  ·refine bt e ?_
   exact q8 hx l _ (by(refine af (aH hl) ?_;refine af hx ?_);exact dY (oK _ _) _)
  ·exact ih _ e
theorem s0{r:Nat}{p:List Int}{x:V}(l:Sp):∀ es,(gP s r p x l es).length≤es.length+l.length:=by
 induction l with
 |nil=>intro _;exact Nat.le_refl _
 |cons y l ih=>
  intro es
  refine Nat.le_trans (ih _) ?_
  (refine af List.length_cons ?_;rewrite[← Nat.add_assoc];rw[Nat.add_right_comm])
  refine Nat.add_le_add_right ?_ _
  by_cases c:aV s y.2=none
  ·refine af (aH c) ?_;exact fJ es
  ·refine af (aE c) ?_;exact Nat.le_succ _
theorem mq{k k' v:V}(hk:dJ k k=true){es:List (V×V)}(h:aJ es k'≠none):aJ (bJ es k v) k'≠none:=by
 by_cases e:k=k'
 ·refine bt e ?_;rw[dY hk];exact fun h=>nomatch h
 ·rw[dI e];exact h
theorem nj{r:Nat}{p:List Int}{x:V}(l:Sp):∀ es,(∀ y ∈ l,aV s y.2=none→aJ es (ck r (p++y.1))≠none)→(gP s r p x l es).length=es.length:=by
 induction l with
 |nil=>intro _ _;rfl
 |cons y l ih=>
  intro es h
  refine(ih _ fun z hz hl=>?_).trans ?_
  ·by_cases c:aV s y.2=none
   ·refine af (aH c) ?_;exact mq (oK _ _) (h z (.tail _ hz) hl)
   ·refine af (aE c) ?_;exact h z (.tail _ hz) hl
  ·by_cases c:aV s y.2=none
   ·refine af (aH c) ?_;exact nY es (h y (.head _) c)
   ·(refine af (aE c) ?_;with_reducible rfl)
theorem nl{r:Nat}{p:List Int}{x:V}{r':Int}{q:V}(l:Sp):∀ es,be es (.tup [.int r',q])=true→be (gP s r p x l es) (.tup [.int r',q])=true:=by
 induction l with
 |nil=>intro _ h;exact h
 |cons y l ih=>
  intro es h
  refine ih _ ?_
  by_cases c:aV s y.2=none
  ·refine af (aH c) ?_;exact dW h rfl
  ·refine af (aE c) ?_;exact h
theorem pD(h:de s){K k k'':Int}{r r':Nat}{p q:List Int}{v v' x:V}{es:List (V×V)}(hv:Ty s K v)(hx:Ty s k x)(hp:cq s K p=some k)
  (hq:r'=r→cq s K q=some k'') (hl:aV s k''=none) (hc:aJ es (ck r' q)=bG v' q) (e:r'=r→v'=v) :
  aJ (gP s r p x (W s k) es) (ck r' q)=bG (if r'=r then cO v p x else v') q:=by
 by_cases c:r'=r
 ·subst c
  refine af (aH rfl) ?_
  have hq:=hq rfl
  by_cases m:∃ w,q=p++w
  ·refine aI m fun w e1=>?_;clear m;obtain rfl:=e1
   have hw:=(cX w p hp).symm.trans hq
   refine o1x2 (hx.get w hw) fun u hu za=>?_
   (refine ak (qf (y:=(w,k'')) hl hu _ _ ((fX h k w).mpr hw)) ?_;refine af (wK p hv hp) ?_;(refine af hu ?_;with_reducible rfl))
  ·(refine ak (lS _ _ fun y za za z=>m ⟨y.1,(my z).2.symm⟩) ?_;refine ak (hc) ?_;refine af (e rfl) ?_;(refine af (pk p hv hp hq hl fun w z=>m ⟨w,z⟩) ?_;with_reducible rfl))
 ·(refine af (aE c) ?_;refine ak (lS _ _ fun y za za z=>c (my z).1.symm) ?_;(refine ak (hc) ?_;with_reducible rfl))
end Mine
namespace Mine
open PySem
structure Ok (d:Dt):Prop where
 sh:de d.s
 shD:∀ k:Int,aJ d.sh (.int k)=(aV d.s k).map fun r=>.tup (aN r)
 shK:∀ k:Int,be d.sh (.int k)=true
 rwD:∀ (k:Int) (r:List Int),aV d.s k=some r→∃ e,aJ d.rows (.int k)=some (.tup [.ref e,.tup (aN r),.tup []])
 rwH:∃ e,aJ d.rows (.int 17)=some (.tup [.ref e,.tup (aN [12,19]),.tup (aN [7,18])])
 rwN:∀ k:Int,k<17→aJ d.rows (.int k)=none
 rwK:∀ k:Int,be d.rows (.int k)=true
 spK:∀ k:Int,be d.sp (.int k)=true
 spN:∀ k:Int,aV d.s k=none→aJ d.sp (.int k)=none
 ty:∀ r,r<8→Ty d.s (bu r) (d.v r)
 esK:∀ (r:Nat) (p:List Int),be d.es (ck r p)=true
 esL:d.es.length≤30000
 csK:∀ i:Int,be d.cs (.int i)=true
 csI:∀ e ∈ d.cs,∃ i,e=(.int i,.int 1)
 cell:∀ r,r<8→∀ (p:List Int) (k:Int),cq d.s (bu r) p=some k→aV d.s k=none→aJ d.es (ck r p)=bG (d.v r) p
 bits:0≤d.bits∧d.bits<4
 cc:d.hc=d.cs
 ww:d.wf=d.flag
 ss:d.st=d.flag
section
variable {n:Nat} {Q:aP} {Z:H} {A:Nat→Addr} {d:Dt}
theorem yA{k:Nat}(hk:k<19+d.s.length):((List.range (19+d.s.length)).map (dN d))[k]? = some (dN d k):=by
 (refine ak (List.getElem?_map) ?_;refine af (List.getElem?_range hk) ?_);rfl
theorem Ei(hW:Wd A d Z):∀ Q:aP,Q (.int (19+d.s.length:Nat)) Z→xd 0 [.ref (A 24)] Q Z:=fun Q q=>bK (hW.o 24 rfl) Q (by(rewrite[List.length_map];refine af List.length_range ?_);exact q)
theorem BZ(hW:Wd A d Z){k:Nat}(hk:k<19+d.s.length):Cv (a9 (n+1)) (some 78) 96 [.ref (A 39),.int k] Z (dN d k):=by
 refine bj kQ rfl fun za q=>?_
 have h1:¬((k:Int)<0):=by lia
 have h2:¬(((19+d.s.length:Nat):Int)≤(k:Int)):=by lia
 have e:bE Z (.ref (A 24)) (.int k)=some (dN d k):=aK (hW.o 24 rfl) (Int.natCast_nonneg _) (by rw[Int.toNat_natCast];exact yA hk)
 (apply au;apply bd;apply aZ;apply ai;apply aq;exact ac rfl;exact aW;rfl;apply bc;apply ai;apply aM;exact ac rfl;apply a8;apply ab;apply aw;exact ac rfl;exact hW.f 47 rfl;exact ae;exact Ei hW;exact cK;refine bH ?_;assumption;apply ax;apply ah;apply aw;exact ac rfl;exact hW.f 47 rfl;exact ac rfl;assumption)
 exact q
noncomputable def sN:V→Int
 |.tup (.int t::_)=>t
 |_=>0
theorem kR(k:Nat):bE Z (dN d k) (.int 0)=some (.int (sN (dN d k))):=by
 unfold dN;split
 ·rfl
 ·split
  ·rfl
  ·split
   ·rfl
   ·split<;>rfl
theorem ET{k:Int}(h:1≤k)(h':k≤11){u:V}:Cv (a9 (n+1)) none 13 [u,.int k] Z (.bool true):=by
 refine bj uG rfl fun za q=>?_
 (apply aA;apply bd;apply b7;apply ai;apply aM;exact aj;exact ac rfl;exact bT;refine bS ?_;assumption;apply bc;apply ai;apply aq;exact ac rfl;exact bT;refine bS ?_;assumption;apply ax;exact aj)
 exact q
theorem rM(hW:Wd A d Z){k:Nat}(h:12≤k)(hk:k<19+d.s.length):Cv (a9 (n+2)) none 13 [.ref (A 39),.int k] Z (.bool (decide (sN (dN d k)=3))):=by
 refine bj uG rfl fun za q=>?_
 have h1:¬((k:Int)≤11):=by lia
 have e:=kR (d:=d) (Z:=Z) k
 (apply au;apply bd;apply b7;apply ai;apply aM;exact aj;exact ac rfl;exact bT;refine bS ?_;lia;apply bc;apply ai;apply aq;exact ac rfl;exact bT;refine bH ?_;assumption;apply ax;apply j7;apply ah;apply dq;exact ac rfl;exact hW.kt;rfl;apply ab;exact ac rfl;exact ae;apply BZ hW hk;exact aj;assumption;exact aj;exact ao)
 exact q
theorem EU(hW:Wd A d Z){k:Nat}(hk:k<19+d.s.length):Cv (a9 (n+2)) none 10 [.ref (A 39),.int k] Z (.int (sN (dN d k))):=by
 refine bj AL rfl fun za q=>?_
 have e:=kR (d:=d) (Z:=Z) k
 (apply ax;apply ah;apply dq;exact ac rfl;exact hW.kt;rfl;apply ab;exact ac rfl;exact ae;apply BZ hW hk;exact aj;assumption)
 exact q
theorem Cy{l:List V}{i:Int}{v:V}(hi:0≤i)(h:l[i.toNat]? = some v):Cv (a9 (n+1)) none 49 [.tup l,.int i] Z v:=by
 refine bj uA rfl fun za q=>?_
 have hl:i<l.length:=by have:=(List.getElem?_eq_some_iff.mp h).1;lia
 have e:bE Z (.tup l) (.int i)=some v:=bQ hi h
 (apply aA;apply ai;apply fp;exact aj;exact ac rfl;exact bT;apply a8;apply ab;exact ac rfl;exact ae;exact fun za q=>q;exact aW;apply CW;refine bS ?_;assumption;refine bS ?_;assumption;apply ax;apply ah;exact ac rfl;exact ac rfl;assumption)
 exact q
theorem Cx{l:List V}{i:Int}(h:i<0∨(l.length:Int)≤i):Cv (a9 (n+1)) none 49 [.tup l,.int i] Z (.int (-1)):=by
 refine bj uA rfl fun za q=>?_
 rcases h with h | h
 ·(apply au;apply ai;apply fp;exact aj;exact ac rfl;exact bT;apply a8;apply ab;exact ac rfl;exact ae;exact fun za q=>q;exact aW;apply uO;refine bH ?_;lia;apply ax;apply fh;exact aj)
  exact q
 ·by_cases h0:0≤i
  ·(apply au;apply ai;apply fp;exact aj;exact ac rfl;exact bT;apply a8;apply ab;exact ac rfl;exact ae;exact fun za q=>q;exact aW;apply AP;refine bH ?_;lia;apply ax;apply fh;exact aj)
   exact q
  ·(apply au;apply ai;apply fp;exact aj;exact ac rfl;exact bT;apply a8;apply ab;exact ac rfl;exact ae;exact fun za q=>q;exact aW;apply uO;refine bH ?_;assumption;apply ax;apply fh;exact aj)
   exact q
theorem FO(hW:Wd A d Z)(hd:Ok d){k:Int}{l:List V}(h:aJ d.rows (.int k)=some (.tup l)):Cv (a9 (n+1)) none 43 [.ref (A 30),.int k] Z (.tup l):=by
 refine bj uB rfl fun za q=>?_
 have e:=hd.rwK k
 refine av (fg (da (bg rfl (hW.f 3 rfl)) (hW.o 22 rfl) (ac rfl) e) (by(refine af h ?_;with_reducible rfl))) ?_
 (apply au;apply ai;apply aq;exact ac rfl;exact bC rfl;rfl;apply ax;exact ac rfl)
 exact q
theorem yZ(hW:Wd A d Z)(hd:Ok d){k:Int}{a b c:V}(h:aJ d.rows (.int k)=some (.tup [a,b,c])):Cv (a9 (n+2)) (some 85) 167 [.ref (A 30),.int k] Z b:=by
 refine bj jW rfl fun za q=>?_
 (apply ax;apply ah;apply az;apply ab;exact ac rfl;apply ab;exact ac rfl;exact ae;rfl;apply FO hW hd h;exact aj;rfl)
 exact q
theorem Ef(hW:Wd A d Z)(hd:Ok d){k:Int}{a b c:V}(h:aJ d.rows (.int k)=some (.tup [a,b,c])):Cv (a9 (n+2)) (some 85) 168 [.ref (A 30),.int k] Z c:=by
 refine bj pb rfl fun za q=>?_
 (apply ax;apply ah;apply az;apply ab;exact ac rfl;apply ab;exact ac rfl;exact ae;rfl;apply FO hW hd h;exact aj;rfl)
 exact q
theorem Ee(hW:Wd A d Z){k:Int}:Cv (a9 (n+1)) (some 85) 172 [.ref (A 30),.int k] Z (.int (if k=16 then 5 else k)):=by
 refine bj pa rfl fun za q=>?_
 refine ax (gK (bg rfl (hW.f 4 rfl)) (hW.o 23 rfl) (ac rfl) (ac rfl) rfl) ?_
 have:(aJ [(V.int 16,V.int 5)] (.int k)).getD (.int k)=.int (if k=16 then 5 else k):=by
  unfold aJ
  by_cases c:k=16
  ·refine af c ?_;rfl
  ·(refine af (aE c) ?_;refine af (aE (by show ¬decide (16=k)=true;simpa using Ne.symm c)) ?_);rfl
 refine af this ?_;exact q
end
section
variable {n:Nat} {Q:aP} {Z:H} {A:Nat→Addr} {d:Dt}
theorem GP:sN (dN d 17)=2:=rfl
theorem y8(h:4≤d.s.length){k:Nat}(h1:18≤k)(h2:k<18+d.s.length):sN (dN d k)=3:=by
 delta dN;(refine af (aE (by lia)) ?_;refine af (aE (by lia)) ?_;refine af (aE (by lia)) ?_;refine af (aH h2) ?_);rfl
theorem Em:dN d (18+d.s.length)=.tup [.int 4,.int 19]:=by
 skip;(refine ak (aE (by lia)) ?_;refine ak (aE (by lia)) ?_;refine ak (aE (by lia)) ?_;(refine ak (aE (by lia)) ?_;with_reducible rfl))
theorem FS(hW:Wd A d Z):Cv (a9 (n+2)) none 11 [.ref (A 39),.int (18+d.s.length:Nat)] Z (.int 19):=by
 refine bj AK rfl fun za q=>?_
 have e:=BZ (n:=n) hW (k:=18+d.s.length) (by lia)
 rw[Em] at e
 (apply av;apply dq;exact ac rfl;exact hW.kt;rfl;apply ab;exact ac rfl;exact ae;assumption;apply aA;apply bd;apply du;apply ai;apply aq;apply ah;exact ac rfl;exact aj;rfl;exact ao;rfl;apply ax;apply ah;exact ac rfl;exact aj;rfl)
 exact q
theorem EC(hW:Wd A d Z)(hd:Ok d):Cv (a9 (n+3)) none 50 [.ref (A 30),.int 19] Z (.int 19):=by
 refine bj pF rfl fun za q=>?_
 refine aI hd.rwH fun e he=>?_
 (apply av;apply az;apply ab;apply aw;exact ac rfl;exact hW.f 0 rfl;apply ab;exact ac rfl;exact ae;rfl;apply wW hW (r:=3) (.inl rfl);apply au;apply ai;apply aq;exact ac rfl;exact bC rfl;rfl;apply au;apply ai;apply aq;apply az;apply ab;apply aw;exact ac rfl;exact hW.f 1 rfl;apply ab;apply aw;exact ac rfl;exact hW.f 31 rfl;exact ae;rfl;apply EU hW (k:=17) (by lia);exact ao;rfl;apply au;apply ai;apply gL;apply ab;apply aw;exact ac rfl;exact hW.f 1 rfl;apply ab;apply aw;exact ac rfl;exact hW.f 31 rfl;exact ae;rfl;apply rM hW (k:=17) (by lia) (by lia);rfl;apply ax;apply az;apply ab;apply dq;exact ac rfl;exact hW.m;rfl;apply ab;apply aw;exact ac rfl;exact hW.f 31 rfl;exact ae;apply yZ hW hd he;apply ab;apply az;apply ab;exact ac rfl;apply ab;exact ac rfl;exact ae;rfl;apply Bh hW (r:=3) (.inl rfl);exact ae;rfl;apply Cy (i:=1) (by decide) rfl)
 exact q
theorem Cw(hW:Wd A d Z){r:Nat}(hr:r=4∨r=5):Cv (a9 (n+3)) none 50 [.ref (A 30),.int (fe r)] Z (.int 19):=by
 refine bj pF rfl fun za q=>?_
 have e:=EU (n:=n) hW (k:=18+d.s.length) (by lia)
 rw[Em] at e
 refine zD hr ?_ ?_;all_goals clear hr
 ·(apply av;apply az;apply ab;apply aw;exact ac rfl;exact hW.f 0 rfl;apply ab;exact ac rfl;exact ae;rfl;apply wW hW (r:=4) (.inr (.inl rfl));apply au;apply ai;apply aq;exact ac rfl;exact bC rfl;rfl;apply aA;apply ai;apply aq;apply az;apply ab;apply aw;exact ac rfl;exact hW.f 1 rfl;apply ab;apply aw;exact ac rfl;exact hW.f 36 rfl;exact ae;rfl;assumption;exact ao;rfl;apply ax;apply az;apply ab;apply aw;exact ac rfl;exact hW.f 1 rfl;apply ab;apply aw;exact ac rfl;exact hW.f 36 rfl;exact ae;rfl;apply FS hW)
  exact q
 ·(apply av;apply az;apply ab;apply aw;exact ac rfl;exact hW.f 0 rfl;apply ab;exact ac rfl;exact ae;rfl;apply wW hW (r:=5) (.inr (.inr (.inl rfl)));apply au;apply ai;apply aq;exact ac rfl;exact bC rfl;rfl;apply aA;apply ai;apply aq;apply az;apply ab;apply aw;exact ac rfl;exact hW.f 1 rfl;apply ab;apply aw;exact ac rfl;exact hW.f 36 rfl;exact ae;rfl;assumption;exact ao;rfl;apply ax;apply az;apply ab;apply aw;exact ac rfl;exact hW.f 1 rfl;apply ab;apply aw;exact ac rfl;exact hW.f 36 rfl;exact ae;rfl;apply FS hW)
  exact q
theorem EB(hW:Wd A d Z)(hd:Ok d):Cv (a9 (n+3)) none 50 [.ref (A 30),.int 26] Z (.int 18):=by
 refine bj pF rfl fun za q=>?_
 have l:=hd.sh.len.1
 have t:=y8 (d:=d) l (k:=18) (by lia) (by lia)
 have e:=EU (n:=n) hW (k:=18) (by lia)
 have e2:=rM (n:=n) hW (k:=18) (by lia) (by lia)
 rw[t] at e e2
 (apply av;apply az;apply ab;apply aw;exact ac rfl;exact hW.f 0 rfl;apply ab;exact ac rfl;exact ae;rfl;apply wW hW (r:=6) (.inr (.inr (.inr rfl)));apply au;apply ai;apply aq;exact ac rfl;exact bC rfl;rfl;apply au;apply ai;apply aq;apply az;apply ab;apply aw;exact ac rfl;exact hW.f 1 rfl;apply ab;apply aw;exact ac rfl;exact hW.f 41 rfl;exact ae;rfl;assumption;exact ao;rfl;apply aA;apply ai;apply gL;apply ab;apply aw;exact ac rfl;exact hW.f 1 rfl;apply ab;apply aw;exact ac rfl;exact hW.f 41 rfl;exact ae;rfl;assumption;rfl;apply ax;apply aw;exact ac rfl;exact hW.f 41 rfl)
 exact q
end
section
variable {n:Nat} {Q:aP} {Z:H} {A:Nat→Addr} {d:Dt} {K:aO} {U:Env} {P:aP}
theorem vp{a b:E}{u:V}(h:Ev K U Z a u)(k:WE K b U (fun v Z'=>P (.tup [u,v]) Z') Z):WE K (.tup [a,b]) U P Z:=⟨h.go _ k.go⟩
theorem sq{o:E}{k:V}(h:WE K o U (fun u Zq=>∃ v,bE Zq u k=some v∧P v Zq) Z):WE K (.idx o (.k k)) U P Z:=⟨h.go⟩
theorem vt{o:E}{i:Nat}{k:V}(hi:U i=some k)(h:WE K o U (fun u Zq=>∃ v,bE Zq u k=some v∧P v Zq) Z):WE K (.idx o (.x i)) U P Z:=by
 have:(fun u Zq=>∃ v,bE Zq u k=some v∧P v Zq)=fun u Zq=>∃ k,U i=some k∧∃ v,bE Zq u k=some v∧P v Zq:=by
  funext u Zq
  exact propext ⟨fun h=>⟨k,hi,h⟩,fun⟨k',e,h⟩=>by rw[hi] at e;refine af (aQ e) ?_;exact h⟩
 rw[this] at h
 exact⟨h.go⟩
theorem ES(hW:Wd A d Z){k:Nat}(hk:k<19+d.s.length){a b:V}:Cv (a9 (n+2)) none 14 [.ref (A 39),.int k,a,b] Z (.int k):=by
 refine bj AI rfl fun za q=>?_
 have e:bE Z (.ref (A 25)) (.int k)=some (.int 0):=aK (hW.o 25 rfl) (Int.natCast_nonneg _) (by(rewrite[Int.toNat_natCast];refine ak (List.getElem?_replicate) ?_;(refine ak (aH hk) ?_;with_reducible rfl)))
 (apply jF;apply dq;exact ac rfl;exact hW.kt;rfl;apply ab;exact ac rfl;exact ae;apply BZ hW hk;apply aA;apply ai;apply aq;apply ah;apply aw;exact ac rfl;exact hW.f 48 rfl;exact ac rfl;assumption;exact ao;rfl;apply ax;exact ac rfl)
 exact q
theorem Hu(hW:Wd A d Z)(hd:Ok d){a b:V}(q:∀ Z',bB Z Z'→Q (.tup [.int 19,.int 7]) Z'):a9 (n+3) none 15 [.ref (A 39),.tup [.int 19,.int 7],a,b] Q Z:=by
 refine br AH rfl (aX (bz ae fun x hx=>?_))
 have l:=hd.sh.len.1
 have h1:=hW.ext (bB.refl.set (o:=.list []) hx)
 have h2:=hW.ext ((bB.refl.set (o:=.list []) hx).set (o:=.list [.int 19]) hx)
 refine ch (ac rfl) rfl (bR rfl (bI (ac rfl) aC (az (ab (ac rfl) (ab (ac rfl) (ab (ac rfl) (ab (ac rfl) ae)))) rfl (ES h1 (k:=19) (by lia))) (by decide) (ay ⟨rfl,?_⟩)))
 refine bR rfl (bI (ac rfl) aC (az (ab (ac rfl) (ab (ac rfl) (ab (ac rfl) (ab (ac rfl) ae)))) rfl (ES h2 (k:=7) (by lia))) (by decide) (ay ⟨rfl,b9 ?_⟩))
 exact ax (a8 (ab (ac rfl) ae) fun Q q=>⟨_,aC,q⟩) (q _ (((bB.refl.set hx).set hx).set hx))
theorem ji(hW:Wd A d Z):Cv (a9 (n+2)) none 12 [.ref (A 39),.int 17] Z (.tup []):=by
 refine bj AJ rfl fun za q=>?_
 have e:=BZ (n:=n) hW (k:=17) (by lia)
 (apply av;apply dq;exact ac rfl;exact hW.kt;rfl;apply ab;exact ac rfl;exact ae;assumption;apply aA;apply bd;apply du;apply ai;apply aq;apply ah;exact ac rfl;exact aj;rfl;exact ao;rfl;apply ax;apply ah;exact ac rfl;exact aj;rfl)
 exact q
theorem He(hW:Wd A d Z)(hd:Ok d)(q:∀ Z',bB Z Z'→Q (.tup [.int 0,.tup [.int 19,.int 7]]) Z'):a9 (n+4) none 46 [.ref (A 38),.tup [.int 17,.int 1,.tup []]] Q Z:=by
 refine br Af rfl ?_
 (apply au;apply ai;apply aq;apply ah;exact ac rfl;exact aj;rfl;exact ao;rfl;apply av;apply ah;apply aw;exact ac rfl;exact hW.f 46 rfl;apply ah;exact ac rfl;exact aj;rfl;apply aK;exact hW.o 26 rfl;decide;rfl;apply au;apply ai;apply aq;exact ac rfl;exact bC rfl;rfl;apply av;apply az;apply ab;apply aw;exact ac rfl;exact hW.f 45 rfl;apply ab;apply ah;exact ac rfl;exact aj;rfl;exact ae;rfl;apply ji hW)
 refine bP (vp (u:=.int 0) ?_ (aD (vs:=[.ref (A 39),.tup [.int 19,.int 7],.tup [],.tup []]) ?_ rfl (Hu hW hd fun Z' x=>q Z' x)))
 ·(apply az;apply ab;apply aw;exact ac rfl;exact hW.f 45 rfl;apply ab;apply aw;exact ac rfl;exact hW.f 50 rfl;apply ab;exact ac rfl;apply ab;apply ah;exact ac rfl;exact aj;rfl;exact ae;rfl;apply ES hW (k:=0) (by lia))
 ·(apply ab;refine bg rfl ?_;exact hW.f 45 rfl;apply ab;refine bg rfl ?_;exact hW.f 51 rfl;apply ab;exact ac rfl;apply ab;refine aR rfl ?_;rfl;exact ae)
theorem Hd(hW:Wd A d Z):Cv (a9 (n+1)) none 47 [.ref (A 40)] Z (.bool true):=by
 refine bj Ae rfl fun za q=>?_
 (apply ax;apply j7;apply aB;apply aw;exact ac rfl;exact hW.f 49 rfl;exact aj;refine fun za q=>⟨?_,q⟩;decide;exact aj;exact cB)
 exact q
theorem Hc(hW:Wd A d Z)(hd:Ok d)(q:∀ Z',bB Z Z'→Q (.int 19) Z'):a9 (n+5) none 48 [.ref (A 30),.ref (A 33),.int 0] Q Z:=by
 refine br Ad rfl ?_
 (apply av;apply ah;apply aw;apply aw;exact ac rfl;exact hW.f 2 rfl;exact hW.f 46 rfl;apply ah;apply aw;exact ac rfl;exact hW.f 21 rfl;exact aj;rfl;apply aK;exact hW.o 26 rfl;decide;rfl;apply au;apply nX;apply ai;apply gL;apply ab;exact ac rfl;exact ae;rfl;apply Hd hW;rfl)
 refine bP (vt rfl (sq (aD (vs:=[.ref (A 38),.tup [.int 17,.int 1,.tup []]]) ?_ rfl (He hW hd fun Z' x=>⟨_,rfl,_,rfl,q Z' x⟩))))
 (apply ab;refine bg rfl ?_;exact hW.f 2 rfl;apply ab;refine bg rfl ?_;exact hW.f 21 rfl;exact ae)
end
section
variable {n:Nat} {Q:aP} {Z:H} {A:Nat→Addr} {d:Dt} {K:aO} {U:Env} {P:aP}
theorem Ed(hW:Wd A d Z){u k:V}:Cv (a9 (n+2)) (some 85) 173 [.ref (A 30),u,k] Z k:=by
 refine bj oZ rfl fun za q=>?_
 have e:Cv (a9 (n+1)) (some 84) 112 [.ref (A 43),.ref (A 30),u,k] Z k:=bj pd rfl fun za q=>ax (ac rfl) q
 (apply ax;apply dq;apply aw;exact ac rfl;exact hW.f 10 rfl;exact hW.cl;rfl;apply ab;exact ac rfl;apply ab;exact ac rfl;apply ab;exact ac rfl;exact ae;assumption)
 exact q
theorem Ej(hW:Wd A d Z):∀ Q:aP,Q (.int 2) Z→xd 0 [.ref (A 12)] Q Z:=bK (hW.o 12 rfl)
theorem FN(hW:Wd A d Z)(hd:Ok d){r:Nat}(hr:r<8){p:List Int}(q:∀ Z',bB Z Z'→Q (.int (bu r)) Z'):a9 (n+6) none 51 [.ref (A 30),pl p r] Q Z:=by
 revert q
 refine fH (P:=fun r=>(∀ Z',bB Z Z'→Q (.int (bu r)) Z')→a9 (n+6) none 51 [.ref (A 30),pl p r] Q Z) ?_ ?_ ?_ ?_ ?_ ?_ ?_ ?_ hr<;>refine fun q=>br Ac rfl ?_
 ·(apply au;apply ai;apply aq;apply ah;exact ac rfl;exact aj;rfl;exact ao;rfl;apply au;apply ai;apply aq;apply ah;exact ac rfl;exact aj;rfl;exact ao;rfl;apply av;apply da;refine bg rfl ?_;exact hW.f 6 rfl;exact hW.o 8 rfl;apply ah;exact ac rfl;exact aj;rfl;rfl;apply au;apply bd;apply aZ;apply ai;apply aq;exact ac rfl;exact bC rfl;rfl;apply bc;apply ai;apply aq;apply aw;exact ac rfl;exact hW.f 22 rfl;exact bC rfl;rfl;apply au;apply ai;apply aq;apply ah;exact ac rfl;exact aj;rfl;exact ao;rfl;apply au;apply ai;apply aq;apply ah;exact ac rfl;exact aj;rfl;exact ao;rfl;apply av;apply az;apply ab;apply aw;apply aw;exact ac rfl;exact hW.f 22 rfl;exact hW.f 52 rfl;apply ab;apply ah;exact ac rfl;exact aj;rfl;exact ae;rfl;apply Cy (i:=0) (by decide) rfl;apply au;apply ai;apply aq;exact ac rfl;exact aW;rfl;apply ax;apply dq;exact ac rfl;exact hW.m;rfl;apply ab;exact ac rfl;apply ab;exact ac rfl;exact ae;apply Ed hW)
  exact q _ bB.refl
 ·(apply au;apply ai;apply aq;apply ah;exact ac rfl;exact aj;rfl;exact ao;rfl;apply au;apply ai;apply aq;apply ah;exact ac rfl;exact aj;rfl;exact ao;rfl;apply av;apply da;refine bg rfl ?_;exact hW.f 6 rfl;exact hW.o 8 rfl;apply ah;exact ac rfl;exact aj;rfl;rfl;apply au;apply bd;apply aZ;apply ai;apply aq;exact ac rfl;exact bC rfl;rfl;apply bc;apply ai;apply aq;apply aw;exact ac rfl;exact hW.f 22 rfl;exact bC rfl;rfl;apply aA;apply ai;apply aq;apply ah;exact ac rfl;exact aj;rfl;exact ao;rfl;apply au;apply bd;apply aZ;apply ai;apply aq;apply ah;exact ac rfl;exact aj;rfl;exact aW;rfl;apply bc;apply ai;apply aM;apply ah;exact ac rfl;exact aj;rfl;apply a8;apply ab;apply aw;exact ac rfl;exact hW.f 20 rfl;exact ae;exact Ej hW;exact cK;rfl)
  refine bP (aD (vs:=[.ref (A 30),.ref (A 33),.int 0]) ?_ rfl (Hc hW hd q))
  (apply ab;exact ac rfl;apply ab;exact ac rfl;apply ab;refine aR rfl ?_;rfl;exact ae)
 ·refine aI hd.rwH fun e he=>?_
  (apply au;apply ai;apply aq;apply ah;exact ac rfl;exact aj;rfl;exact ao;rfl;apply aA;apply ai;apply aq;apply ah;exact ac rfl;exact aj;rfl;exact ao;rfl;apply ax;apply az;apply ab;apply dq;exact ac rfl;exact hW.m;rfl;apply ab;apply ah;exact ac rfl;exact aj;rfl;exact ae;apply Ef hW hd he;apply ab;apply ah;exact ac rfl;exact aj;rfl;exact ae;rfl;apply Cy (i:=1) (by decide) rfl)
  exact q _ bB.refl
 ·(apply aA;apply ai;apply aq;apply ah;exact ac rfl;exact aj;rfl;exact ao;rfl;apply ax;apply az;apply ab;exact ac rfl;apply ab;apply ah;exact ac rfl;exact aj;rfl;exact ae;rfl;apply EC hW hd)
  exact q _ bB.refl
 ·(apply aA;apply ai;apply aq;apply ah;exact ac rfl;exact aj;rfl;exact ao;rfl;apply ax;apply az;apply ab;exact ac rfl;apply ab;apply ah;exact ac rfl;exact aj;rfl;exact ae;rfl;apply Cw hW (.inl rfl))
  exact q _ bB.refl
 ·(apply aA;apply ai;apply aq;apply ah;exact ac rfl;exact aj;rfl;exact ao;rfl;apply ax;apply az;apply ab;exact ac rfl;apply ab;apply ah;exact ac rfl;exact aj;rfl;exact ae;rfl;apply Cw hW (.inr rfl))
  exact q _ bB.refl
 ·(apply aA;apply ai;apply aq;apply ah;exact ac rfl;exact aj;rfl;exact ao;rfl;apply ax;apply az;apply ab;exact ac rfl;apply ab;apply ah;exact ac rfl;exact aj;rfl;exact ae;rfl;apply EB hW hd)
  exact q _ bB.refl
 ·(apply au;apply ai;apply aq;apply ah;exact ac rfl;exact aj;rfl;exact ao;rfl;apply au;apply ai;apply aq;apply ah;exact ac rfl;exact aj;rfl;exact ao;rfl;apply av;apply da;refine bg rfl ?_;exact hW.f 6 rfl;exact hW.o 8 rfl;apply ah;exact ac rfl;exact aj;rfl;rfl;apply au;apply bd;apply aZ;apply ai;apply aq;exact ac rfl;exact bC rfl;rfl;apply bc;apply ai;apply aq;apply aw;exact ac rfl;exact hW.f 28 rfl;exact bC rfl;rfl;apply au;apply ai;apply aq;apply ah;exact ac rfl;exact aj;rfl;exact ao;rfl;apply aA;apply ai;apply aq;apply ah;exact ac rfl;exact aj;rfl;exact ao;rfl;apply ax;apply ah;apply aw;exact ac rfl;exact hW.f 27 rfl;exact aj;rfl)
  exact q _ bB.refl
theorem jE(h:Ok d){k:Int}{r:List Int}(e:aV d.s k=some r):∃ m:Nat,k=m∧18≤m∧m<18+d.s.length:=by
 refine o0x2 (h.sh.row k r e) fun q0 za=>?_;obtain⟨a,b⟩:=q0
 exact⟨k.toNat,by lia,by lia,by lia⟩
theorem qr{p:List Int}{r:Nat}(hr:r<8):∃ l,pl p r=.tup l∧bE Z (.tup l) (.int (l.length - 1))=some (.tup (aN p)):=by
 exact fH (P:=fun r=>∃ l,pl p r=.tup l∧bE Z (.tup l) (.int (l.length - 1))=some (.tup (aN p))) ⟨_,rfl,rfl⟩ ⟨_,rfl,rfl⟩ ⟨_,rfl,rfl⟩ ⟨_,rfl,rfl⟩ ⟨_,rfl,rfl⟩ ⟨_,rfl,rfl⟩ ⟨_,rfl,rfl⟩ ⟨_,rfl,rfl⟩ hr
theorem Ha(hW:Wd A d Z)(hd:Ok d){r:Nat}(hr:r<8){p:List Int}{k:Int}(hk:cq d.s (bu r) p=some k)(k0:0≤k)(q:∀ Z',bB Z Z'→Q (.int (if k=16 then 5 else k)) Z'):a9 (n+7) none 52 [.ref (A 30),pl p r] Q Z:=by
 refine br uz rfl ?_
 refine o1x2 (qr (p:=p) (Z:=Z) hr) fun l el hl=>?_
 refine aX (aD (vs:=[.ref (A 30),pl p r]) (by(apply ab;exact ac rfl;apply ab;exact ac rfl;exact ae)) rfl (FN hW hd hr fun Z' x=>?_))
 replace hW:=hW.ext x
 refine av (v:=.tup (aN p)) (ah (u:=.tup l) (ac (congrArg some el)) (aB (a8 (vs:=[.tup l]) (ab (ac (congrArg some el)) ae) fun Q q=>q) aj fun Q q=>q) hl) ?_
 refine ch (xs:=aN p) (ac rfl) rfl ?_
 refine(?_:∀ (p1:List Int) (kw:Int) (U:Env),cq d.s kw p1=some k→U 0=some (.ref (A 30))→U 2=some (.int kw)→FL _ _ _ _ _ _ (aN p1) U Z') p _ _ hk rfl rfl
 intro p1
 induction p1 with
 |nil=>
  intro kw U e h0 h2
  obtain rfl:=aQ e
  apply b9
  (apply au;apply ai;apply aq;apply ac;assumption;exact aW;refine bH ?_;lia;apply ax;apply dq;apply ac;assumption;exact hW.m;rfl;apply ab;apply ac;assumption;exact ae;apply Ee hW)
  exact q _ x
 |cons i p1 ih=>
  intro kw U e h0 h2
  refine o2x4 (cH e) fun row k₁ e1 hi e2 e3=>?_
  refine o1x2 (jE hd e1) fun m e1 q9=>?_;obtain rfl:=e1;refine o0x2 q9 fun m1 m2=>?_;clear q9
  have t:=y8 (d:=d) hd.sh.len.1 m1 m2
  have e4:=rM (n:=n+4) hW (k:=m) (by lia) (by lia)
  rw[t] at e4
  refine aI (hd.rwD _ _ e1) fun ad hrow=>?_
  refine bR rfl (aA ?_ ?_)
  ·refine bd (b7 (ai (aq (ac h2) cK) (bS (Int.natCast_nonneg _))) (bc (gL (ab (aw (ac h0) (hW.f 1 rfl)) (ab (ac h2) ae)) rfl e4)))
  ·refine av (az (ab (dq (ac h0) hW.m rfl (ab (ac h2) ae) (yZ hW hd hrow)) (ab (ac rfl) ae)) rfl (Cy (v:=.int k₁) hi ?_)) (ay (ay ⟨rfl,ih _ _ e3 h0 rfl⟩))
   skip;(refine ak (List.getElem?_map) ?_;refine af e2 ?_);rfl
end
section
variable {n:Nat} {Q:aP} {Z:H} {s:List (List Int)} {U:Env}
theorem gX{K:aO}{t:E}{b:List C}{P:bL}{n:Nat}{U:Env}{Z:H}(h:WL K t b P n U Z):(fun(f:Fl) U' Z'=>match f with | .next=>WL K t b P n U' Z' | .ret v=>P (.ret v) U' Z') .next U Z:=h
theorem re{K:aO}{P:bL}{ta:Addr}{k:Int}{vs L:List V}(hL:L.length+vs.length≤90000):∀ (m:Nat) (U:Env) (Z:H),m≤vs.length→U 2=some (.ref ta)→U 3=some (nd k vs)→U 4=some (.int ((m:Int) - 1))→Z ta=some (.list (L++(vs.drop m).reverse))→
  (∀ U' Z',(∀ i,i<4→U' i=U i)→(∀ a,a≠ta→Z' a=Z a)→Z' ta=some (.list (L++vs.reverse))→P .next U' Z')→
  WL K (.cmp (.x 4) .GtE (.k (.int 0))) [.ex (.mth (.x 2) 95 [.idx (.idx (.x 3) (.k (.int 2))) (.x 4)]),.augV 4 .Sub (.k (.int 1))] P (m+1) U Z:=by
 intro m
 induction m with
 |zero=>intro U Z _ h2 h3 h4 hZ q;exact eA (ai (aq (ac h4) cK) rfl) (q _ _ (fun za za=>rfl) (fun za za=>rfl) hZ)
 |succ m ih=>
  intro U Z hm h2 h3 h4 hZ q
  have e:=List.getElem?_eq_getElem hm
  have ei:((((m+1:Nat):Int) - 1))=(m:Int):=by lia
  rw[ei] at h4
  refine cL (ai (aq (ac h4) cK) (bS (Int.natCast_nonneg _))) (bI (ac h2) hZ (ah (v:=vs[m]) (aR h3 rfl) (ac h4) (bQ (Int.natCast_nonneg _) (by rw[Int.toNat_natCast];exact e))) ?_ (jG h4 aj rfl (ay (gX (ih _ _ (Nat.le_of_succ_le hm) h2 h3 rfl ?_ fun U' Z' h h' h''=>q U' Z' (fun i hi=>(h i hi).trans (aE (by lia))) (fun a ha=>(h' a ha).trans (aE ha)) h'')))))
  ·(refine af List.length_append ?_;refine af List.length_reverse ?_;refine af List.length_drop ?_);delta bM;lia
  ·(rewrite[List.append_assoc];refine bt List.reverse_cons ?_;refine bt (List.drop_eq_getElem_cons hm) ?_);exact aC
noncomputable def xT(s:List (List Int))(st:List (Int×V)):Prop:=∀ x ∈ st,Ty s x.1 x.2
theorem iJ{k t z:Int}(e:aV s k=none):dM s k (.tup [.int t,.int z])=if k=12 then(if 0<z then[z] else[]) else[]:=by
 delta dM jk
 refine af (kn e) ?_
 by_cases c:k=12
 ·refine af c ?_;by_cases h:0<z
  ·(refine af (aH rfl) ?_;refine af (aH h) ?_);simp[bG,h]
  ·(refine af (aH rfl) ?_;refine af (aE h) ?_);simp[bG,h]
 ·refine af (aE c) ?_;simp[c]
theorem uQ{k:Int}:1≤(W s k).length:=by
 unfold W wi;split<;>exact Nat.succ_le_succ (Nat.zero_le _)
theorem AX(st:List (Int×V)):st.length≤SZ s st:=by
 induction st with
 |nil=>exact Nat.le_refl _
 |cons x st ih=>(refine af List.length_cons ?_;rw[Nat.add_comm]);exact Nat.add_le_add uQ ih
theorem vg{a:List Int}:∀ {b:List V},b.length=a.length→(a.zip b).map (·.2)=b:=by
 induction a with
 |nil=>intro b h;induction b using List.casesOn with | nil=>rfl | cons _ _=>cases h
 |cons x a ih=>intro b h;induction b using List.casesOn with
  |nil=>cases h
  |cons y b=>exact congrArg (y::·) (ih (Nat.succ.inj h))
theorem Bd(k:Int)(v:V):(dM s k v).length≤(W s k).length:=List.length_filterMap_le _ _
theorem FR(hs:de s){k:Int}{v:V}(hv:Ty s k v)(hz:(W s k).length≤10000)(q:∀ a Z',bB Z Z'→Z a=none→Z' a=some (.list ((dM s k v).map V.int))→Q (.ref a) Z'):a9 (n+1) none 18 [v] Q Z:=by
 refine br AE rfl ?_
 induction hv using Ty.casesOn with
 |leaf k t z h1 h2=>
  rw[iJ h1] at q
  unfold eD at h2
  by_cases c:k=12
  ·rw[aH c] at q h2
   obtain⟨rfl,hz⟩:=h2
   by_cases z0:z=0
   ·subst z0
    (apply aA;apply ai;apply aq;apply ah;exact ac rfl;exact aj;rfl;exact ao;rfl;apply aA;apply ai;apply aq;apply ah;exact ac rfl;exact aj;rfl;exact ao;rfl)
    exact bP (bz ae fun a ha=>q a _ (bB.refl.set ha) ha aC)
   ·have zp:0<z:=by simp at hz;lia
    rw[aH zp] at q
    (apply aA;apply ai;apply aq;apply ah;exact ac rfl;exact aj;rfl;exact ao;rfl;apply au;apply ai;apply aq;apply ah;exact ac rfl;exact aj;rfl;exact ao;refine bH ?_;assumption)
    exact bP (bz (ab (aR rfl rfl) ae) fun a ha=>q a _ (bB.refl.set ha) ha aC)
  ·rw[aE c] at q h2
   have t4:t≠4:=by lia
   have t5:t≠5:=by lia
   (apply au;apply ai;apply aq;apply ah;exact ac rfl;exact aj;rfl;exact ao;refine bH ?_;assumption;apply aA;apply ai;apply aq;apply ah;exact ac rfl;exact aj;rfl;exact cB;apply qm;refine bH ?_;assumption)
   exact bP (bz ae fun a ha=>q a _ (bB.refl.set ha) ha aC)
 |node k r vs h1 h2 h3=>
  have hv:Ty s k (nd k vs):=.node k r vs h1 h2 h3
  (apply au;apply ai;apply aq;apply ah;exact ac rfl;exact aj;rfl;exact ao;rfl;apply au;apply ai;apply aq;apply ah;exact ac rfl;exact aj;rfl;exact cB;rfl)
  refine aX (bz ae fun fa hfa=>?_)
  refine aX (bz (vs:=[nd k vs]) (ab (ac rfl) ae) fun ta hta=>?_)
  have hne:fa≠ta:=fun e=>by subst e;rw[aC] at hta;exact sn hta
  have hta':Z ta=none:=by refine bt hta ?_;exact(aE (Ne.symm hne)).symm
  refine gQ (n:=(W s k).length+1) ?_
  refine(?_:∀ (N:Nat) (st:List (Int×V)) (acc:List Int) (U:Env) (Z':H),SZ s st<N→SZ s st≤10000→acc.length+SZ s st≤10000→xT s st→U 1=some (.ref fa)→U 2=some (.ref ta)→bB Z Z'→Z' ta=some (.list ((st.map (·.2)).reverse))→Z' fa=some (.list (acc.map V.int))→
   (∀ Z',bB Z Z'→Z' fa=some (.list ((acc++RL s st).map V.int))→Q (.ref fa) Z')→WL _ _ _ _ N U Z') ((W s k).length+1) [(k,nd k vs)] [] _ _ (Nat.lt_succ_self _) hz (by(refine af List.length_nil ?_;rw[Nat.zero_add]);exact hz) (fun x hx=>by refine af (List.mem_singleton.mp hx) ?_;exact hv) rfl rfl ((bB.refl.set hfa).set hta') aC (bw hne aC) (fun Z' x e=>q fa Z' x hfa (by refine ak (e) ?_;simp[RL]))
  intro N
  induction N with
  |zero=>intro st acc U Z' h;cases h
  |succ N ih=>
   intro st acc U Z' hN hb ha ht h1 h2 hx e1 e2 q
   induction st using List.casesOn with
   |nil=>
    refine eA (ai (aq (a8 (ab (ac h2) ae) (bK e1)) cu) rfl) (ax (ac h1) (q _ hx (by refine ak (e2) ?_;simp[RL])))
   |cons x st=>
    obtain⟨kx,vx⟩:=x
    have e1:Z' ta=some (.list ((st.map (·.2)).reverse++[vx])):=by(refine ak (e1) ?_;refine af List.map_cons ?_;(refine af List.reverse_cons ?_;with_reducible rfl))
    refine cL (ai (aq (a8 (ab (ac h2) ae) (bK e1)) cu) (bS (by refine af List.length_append ?_;show(0:Int)<((_+1:Nat):Int);lia))) (yu (ac h2) e1 (List.getLast?_concat) ?_)
    refine af List.dropLast_concat ?_
    have hsz:SZ s ((kx,vx)::st)=(W s kx).length+SZ s st:=rfl
    have htx:Ty s kx vx:=ht _ (.head _)
    have hts:xT s st:=fun y hy=>ht y (.tail _ hy)
    have hl:=AX (s:=s) st
    rw[hsz] at hN hb ha
    have x':bB Z (Z'.set ta (.list (st.map (·.2)).reverse)):=hx.set hta'
    cases htx with
    |leaf _ t z g1 g2=>
     have hw:(W s kx).length=1:=by refine af (kn g1) ?_;rfl
     rw[hw] at hN hb ha
     unfold eD at g2
     have er:RL s ((kx,.tup [.int t,.int z])::st)=(if kx=12 then(if 0<z then[z] else[]) else[])++RL s st:=by rw[← iJ g1];rfl
     rw[er] at q
     have t5:t≠5:=by split at g2<;>lia
     refine dn (ai (aq (aR rfl rfl) ao) (bH t5)) ?_
     by_cases c:kx=12∧0<z
     ·obtain⟨rfl,zp⟩:=c
      rw[aH rfl] at g2
      obtain⟨rfl,_⟩:=g2
      (rewrite[aH rfl] at q;rewrite[aH zp] at q;rw[← List.append_assoc] at q)
      refine aA (bd (b7 (ai (aq (aR rfl rfl) ao) rfl) (bc (ai (aq (aR rfl rfl) cB) (qm (bH (by lia))))))) ?_
      refine bI (ac h1) (bw hne e2) (aR (v:=.int z) rfl rfl) (by rw[List.length_map];unfold bM;lia) (ay (ay (ay (gX (ih st (acc++[z]) _ _ (by lia) (by lia) (by refine af List.length_append ?_;show _+1+_≤_;lia) hts h1 h2 (x'.set hfa) (bw (Ne.symm hne) aC) (by refine af List.map_append ?_;exact aC) q)))))
     ·have e0:(if kx=12 then(if 0<z then[z] else[]) else[])=[]:=by
       by_cases c1:kx=12
       ·(refine ak (aH c1) ?_;(refine ak (aE fun h=>c ⟨c1,h⟩) ?_;with_reducible rfl))
       ·(refine ak (aE c1) ?_;with_reducible rfl)
      (rewrite[e0] at q;rw[List.nil_append] at q)
      refine au ?_ (ay (ay (gX (ih st acc _ _ (by lia) (by lia) (by lia) hts h1 h2 x' aC (bw hne e2) q))))
      refine bd ?_
      by_cases c4:t=4
      ·refine af c4 ?_
       have z0:z=0:=by
        split at g2
        ·next c1=>simp at g2;have:=mt (fun h=>(⟨c1,h⟩:kx=12∧0<z)) c;lia
        ·lia
       refine af z0 ?_
       exact b7 (ai (aq (aR rfl rfl) ao) rfl) (bc (ai (aq (aR rfl rfl) cB) rfl))
      ·exact d8 (ai (aq (aR rfl rfl) ao) (bH c4))
    |node _ row ws g1 g2 g3=>
     have hw:=qW hs g1 g2
     rw[hw] at hN hb ha
     have er:RL s ((kx,nd kx ws)::st)=RL s (row.zip ws++st):=by rw[A8];exact congrArg (·++RL s st) (q6 hs g1 g2)
     rw[er] at q
     have hws:ws.length≤3:=by have:=(hs.row _ _ g1).2.2.1;lia
     refine aA (ai (aq (aR rfl rfl) ao) rfl) (av (aB (a8 (vs:=[.tup ws]) (ab (aR rfl rfl) ae) fun Q q=>q) aj fun Q q=>q) (gQ (re (k:=kx) (vs:=ws) (L:=(st.map (·.2)).reverse) (by(refine af List.length_reverse ?_;rw[List.length_map]);lia) ws.length _ _ (Nat.le_refl _) h2 rfl rfl (by(refine af List.drop_length ?_;refine af List.reverse_nil ?_;rw[List.append_nil]);exact aC) fun U' Z2 hU hZ hta2=>?_)))
     refine ay (ay (gX (ih (row.zip ws++st) acc U' Z2 ?_ ?_ ?_ ?_ ((hU 1 (by decide)).trans h1) ((hU 2 (by decide)).trans h2) ?_ ?_ ?_ q)))
     ·rw[pL];lia
     ·rw[pL];lia
     ·rw[pL];lia
     ·intro y hy
      rcases List.mem_append.mp hy with h | h
      ·obtain⟨i,hi,e⟩:=List.getElem_of_mem h
       rw[List.getElem_zip] at e
       refine bt e ?_
       rw[List.length_zip] at hi
       exact g3 i _ _ (List.getElem?_eq_getElem (by lia)) (List.getElem?_eq_getElem (by lia))
      ·exact hts y h
     ·exact fun a o e=>(hZ a (fun c=>by subst c;rw[hta'] at e;exact ns e)).trans (x' a o e)
     ·(refine ak (hta2) ?_;refine af List.map_append ?_;refine af (vg g2) ?_;(refine af List.reverse_append ?_;with_reducible rfl))
     ·refine ak (hZ fa hne) ?_;exact bw hne e2
end
section
variable {n:Nat} {Q:aP} {Z:H} {A:Nat→Addr} {d:Dt} {s:List (List Int)}
theorem q7{k:Int}{v:V}:∀ a ∈ dM s k v,0<a:=by
 intro a ha
 refine o1x2 (List.mem_filterMap.mp ha) fun x za e=>?_
 unfold jk at e
 split at e
 ·split at e
  ·split at e
   ·refine bt (aQ e) ?_;assumption
   ·exact ns e
  ·exact ns e
 ·exact ns e
theorem Hs(hs:de s){k:Int}{v:V}(hv:Ty s k v)(hz:(W s k).length≤10000)(q:∀ Z',bB Z Z'→Q (.bool (decide (dM s k v≠[]))) Z'):a9 (n+2) none 25 [v] Q Z:=by
 refine br Ax rfl ?_
 have go:(∃ u,bE Z v (.int 0)=some (.int u)∧u≠4)→SS (a9 (n+1)) E4.body (bV E4.ps [v] Env.nil) (fy Q) Z:=fun⟨u,hu,u4⟩=>by
  refine au (ai (aq (aR rfl hu) ao) (bH u4)) ?_
  refine f8 (aD (ab (ac rfl) ae) rfl (FR hs hv hz fun a Z' x ha e=>⟨_,bf e,?_⟩))
  induction hr:dM s k v using List.casesOn with
  |nil=>rw[hr] at q;exact b9 (ax aj (q _ x))
  |cons b l=>
   have hb:0<b:=q7 (s:=s) (k:=k) (v:=v) b (by rw[hr];exact .head _)
   rw[hr] at q
   exact bR rfl (aA (ai (aq (ac rfl) cB) (qm (bH (by lia)))) (ax aj (q _ x)))
 induction hv using Ty.casesOn with
 |leaf k t z h1 h2=>
  by_cases t4:t=4
  ·subst t4
   unfold eD at h2
   have hk:k=12:=by
    by_cases c:k=12
    ·exact c
    ·rw[aE c] at h2;lia
   rw[aH hk] at h2
   have e:decide (dM s k (.tup [.int 4,.int z])≠[]) = !decide (z=0):=by
    rw[iJ h1,aH hk]
    have:=h2.2
    simp at this
    by_cases c:z=0
    ·subst c;rfl
    ·rw[aH (by lia),bH c];rfl
   rw[e] at q
   (apply aA;apply ai;apply aq;apply ah;exact ac rfl;exact aj;rfl;exact ao;rfl;apply ax;apply j7;apply ah;exact ac rfl;exact aj;rfl;exact aj;exact cB)
   exact q _ bB.refl
  ·exact go ⟨t,rfl,t4⟩
 |node k r vs h1 h2 h3=>exact go ⟨5,rfl,by decide⟩
end
section
variable {K:aO} {U:Env} {Z:H} {P:aP} {Q:bL}
theorem fT{e:E}:WE K e U P Z=df K e U P Z:=propext ⟨fun h=>h.go,fun h=>⟨h⟩⟩
theorem mY{l:List C}:SS K l U Q Z=eR K l U Q Z:=propext ⟨fun h=>h.go,fun h=>⟨h⟩⟩
structure r5 (K:aO) (l:List E) (U:Env) (P:List V→H→Prop) (Z:H):Prop where
 go:ky K l U P Z
theorem yl{l:List E}{P:List V→H→Prop}:r5 K l U P Z=ky K l U P Z:=propext ⟨fun h=>h.go,fun h=>⟨h⟩⟩
theorem cM{P:List V→H→Prop}(h:P [] Z):r5 K [] U P Z:=⟨h⟩
theorem aU{e:E}{l:List E}{v:V}{P:List V→H→Prop}(h:Ev K U Z e v)(k:r5 K l U (fun vs Z'=>P (v::vs) Z') Z):r5 K (e::l) U P Z:=⟨h.go _ k.go⟩
theorem eC{e:E}{l:List E}{P:List V→H→Prop}(h:WE K e U (fun v Z'=>r5 K l U (fun vs Z''=>P (v::vs) Z'') Z') Z):r5 K (e::l) U P Z:=by simp only[yl,fT] at *;exact h
theorem yk{l:List E}{vs:List V}{P:List V→H→Prop}(h:Es K U Z l vs)(k:P vs Z):r5 K l U P Z:=⟨h.go _ k⟩
theorem bO{e:E}{P:List V→H→Prop}(h:WE K e U (fun v Z'=>P [v] Z') Z):r5 K [e] U P Z:=⟨h.go⟩
theorem lC{l:List E}(h:r5 K l U (fun vs Z'=>P (.tup vs) Z') Z):WE K (.tup l) U P Z:=⟨h.go⟩
theorem pO{l:List E}(h:r5 K l U (fun vs Z'=>∀ a,Z' a=none→P (.ref a) (Z'.set a (.list vs))) Z):WE K (.lst l) U P Z:=⟨h.go⟩
theorem cF{f:Nat}{as:List E}(hc:db f=false)(h:r5 K as U (fun vs Z'=>K none f vs P Z') Z):WE K (.call (.k (.fn f)) as) U P Z:=by
 have e:(fun vs Z'=>fK K (.fn f) vs P Z')=fun vs Z'=>K none f vs P Z':=by
  funext vs Z';skip;skip;(refine ak (aE (by rw[hc];exact Bool.false_ne_true)) ?_;with_reducible rfl)
 exact⟨⟨rfl,by refine af e ?_;exact h.go⟩⟩
theorem fM{f:Nat}{as:List E}(hc:db f=true)(hi:gJ f=true)(h:r5 K as U (fun vs Z'=>∀ a,Z' a=none→K (some f) 89 (.ref a::vs) (fun r Z''=>pj r=true∧P (.ref a) Z'') (Z'.set a (.inst f []))) Z):WE K (.call (.k (.fn f)) as) U P Z:=by
 have e:(fun vs Z'=>fK K (.fn f) vs P Z')=fun vs Z'=>∀ a,Z' a=none→K (some f) 89 (.ref a::vs) (fun r Z''=>pj r=true∧P (.ref a) Z'') (Z'.set a (.inst f [])):=by
  funext vs Z';skip;skip;(refine ak (aH hc) ?_;(refine ak (aH hi) ?_;with_reducible rfl))
 exact⟨⟨rfl,by refine af e ?_;exact h.go⟩⟩
theorem pR{f:Nat}(hc:db f=true)(hi:gJ f=false)(h:∀ a,Z a=none→P (.ref a) (Z.set a (.inst f []))):WE K (.call (.k (.fn f)) []) U P Z:=by
 refine⟨⟨rfl,?_⟩⟩
 show fK K (.fn f) [] P Z
 delta fK;dsimp only;(refine af (aH hc) ?_;refine af (aE (by rw[hi];exact Bool.false_ne_true)) ?_);exact⟨rfl,h⟩
theorem jB{n:Nat}{as:List E}(h:r5 K as U (fun vs Z'=>xd n vs P Z') Z):WE K (.call (.k (.bi n)) as) U P Z:=⟨⟨rfl,h.go⟩⟩
theorem iB{op:Operator}{a b:E}(h:WE K a U (fun u Zq=>WE K b U (fun v Zr=>w9 op u v P Zr) Zq) Z):WE K (.bin op a b) U P Z:=by simp only[fT] at *;exact h
theorem oJ{op:CmpOp}{a b:E}(h:WE K a U (fun u Zq=>WE K b U (fun v Zr=>∃ c,eg Zr op u v c∧P (.bool c) Zr) Zq) Z):WE K (.cmp a op b) U P Z:=by simp only[fT] at *;exact h
theorem gx{o i:E}(h:WE K o U (fun u Zq=>WE K i U (fun k Zr=>∃ v,bE Zr u k=some v∧P v Zr) Zq) Z):WE K (.idx o i) U P Z:=by simp only[fT] at *;exact h
theorem pQ{o k d:E}{b:Addr}{es:List (V×V)}{x:V}(ho:Ev K U Z o (.ref b))(hd:Z b=some (.dict es))(hk:Ev K U Z k x)(h:WE K d U (fun y Za=>99=99∧∃ es,Za b=some (.dict es)∧be es x=true∧P ((aJ es x).getD y) Za) Z):WE K (.mth o 99 [k,d]) U P Z:=
 ⟨ho.go _ ⟨_,lV hd,rfl,hk.go _ h.go⟩⟩
structure WT (K:aO) (e:E) (U:Env) (Q:Bool→H→Prop) (Z:H):Prop where
 go:oA K e U (df K e U) Q Z
theorem si{e:E}{Q:Bool→H→Prop}:WT K e U Q Z=oA K e U (df K e U) Q Z:=propext ⟨fun h=>h.go,fun h=>⟨h⟩⟩
theorem kI{e:E}{b:Bool}{Q:Bool→H→Prop}(h:Et K U Z e b)(q:Q b Z):WT K e U Q Z:=⟨h.go _ q⟩
theorem iz{e:E}{Q:Bool→H→Prop}(h:WT K e U (fun b Z'=>Q (!b) Z') Z):WT K (.not e) U Q Z:=⟨h.go⟩
theorem eH{f:Nat}{as:List E}{Q:Bool→H→Prop}(h:WE K (.call (.k (.fn f)) as) U (xx Q) Z):WT K (.call (.k (.fn f)) as) U Q Z:=⟨h.go⟩
theorem eP{a b:E}{op:CmpOp}{Q:Bool→H→Prop}(h:WE K a U (fun u Zq=>WE K b U (fun v Zr=>∃ c,eg Zr op u v c∧Q c Zr) Zq) Z):WT K (.cmp a op b) U Q Z:=⟨(oJ (P:=xx Q) h).go⟩
theorem f7{op:BoolOp}{e:E}{Q:Bool→H→Prop}(h:WT K e U Q Z):WT K (.bl op [e]) U Q Z:=⟨h.go⟩
theorem jz{e f:E}{r:List E}{Q:Bool→H→Prop}(h:WT K e U (fun b Zq=>(b=true→WT K (.bl .And (f::r)) U Q Zq)∧(b=false→Q false Zq)) Z):WT K (.bl .And (e::f::r)) U Q Z:=by simp only[si] at *;exact h
theorem mN{e f:E}{r:List E}{Q:Bool→H→Prop}(h:WT K e U (fun b Zq=>(b=true→Q true Zq)∧(b=false→WT K (.bl .Or (f::r)) U Q Zq)) Z):WT K (.bl .Or (e::f::r)) U Q Z:=by simp only[si] at *;exact h
theorem xw{op:BoolOp}{l:List E}(h:WT K (.bl op l) U (fun b Z'=>P (.bool b) Z') Z):WE K (.bl op l) U P Z:=⟨h.go⟩
theorem dL{t:E}{a b r:List C}(h:WT K t U (fun c Zq=>(c=true→SS K a U (qU K r Q) Zq)∧(c=false→SS K b U (qU K r Q) Zq)) Z):SS K (.ite t a b::r) U Q Z:=by
 simp only[si,mY,lI] at *;exact h
structure CL (K:aO) (e:E) (t:List Nat) (ifs:List E) (U:Env) (src:V) (whole:List V) (P:aP) (xs acc:List V) (Z:H):Prop where
 go:im (fun Z'=>bq Z' src=some whole) (fun x=>cN t x U.outer) (fun U' K' Z'=>lB K ifs U' K' Z') (fun U' K' Z'=>df K e U' K' Z') xs acc (fun out Zr=>gf (.list out) P Zr) Z
section
variable {e:E} {t:List Nat} {src:V} {whole:List V}
theorem lF{it:E}{ifs:List E}{xs:List V}(h:Ev K U Z it src)(hx:bq Z src=some xs)(hr:sQ src)(k:CL K e t ifs U src xs P xs [] Z):WE K (.comp e t it ifs) U P Z:=⟨h.go _ ⟨xs,hx,hr,k.go⟩⟩
theorem kf{ifs:List E}{acc:List V}(h:∀ a,Z a=none→P (.ref a) (Z.set a (.list acc))):CL K e t ifs U src whole P [] acc Z:=⟨h⟩
theorem uq{ifs:List E}{xs acc:List V}:CL K e t ifs U src whole P xs acc Z=im (fun Z'=>bq Z' src=some whole) (fun x=>cN t x U.outer) (fun U' K' Z'=>lB K ifs U' K' Z') (fun U' K' Z'=>df K e U' K' Z') xs acc (fun out Zr=>gf (.list out) P Zr) Z:=propext ⟨fun h=>h.go,fun h=>⟨h⟩⟩
theorem io{x:V}{xs acc:List V}{U':Env}(hb:cN t x U.outer=some U')(k:WE K e U' (fun v Z'=>bq Z' src=some whole∧CL K e t [] U src whole P xs (acc++[v]) Z') Z):CL K e t [] U src whole P (x::xs) acc Z:=by
 simp only[fT,uq] at *
 exact⟨U',hb,fun za=>k,fun h=>nomatch h⟩
theorem CF{f:E}{x:V}{xs acc:List V}{U':Env}{b:Bool}(hb:cN t x U.outer=some U')(ht:Et K U' Z f b)(hl:bq Z src=some whole)(k:b=true→WE K e U' (fun v Z'=>bq Z' src=some whole∧CL K e t [f] U src whole P xs (acc++[v]) Z') Z)
  (k':b=false→CL K e t [f] U src whole P xs acc Z):CL K e t [f] U src whole P (x::xs) acc Z:=by
 simp only[fT,uq] at *
 exact⟨U',hb,ht.go (fun b Zq=>(b=true→_)∧(b=false→_)) ⟨fun h=>⟨fun za=>k h,fun h=>nomatch h⟩,fun h=>⟨fun h=>(nomatch h),fun za=>⟨hl,k' h⟩⟩⟩⟩
theorem d7{it:E}{n:Nat}(I:List V→H→Prop)(h:Ev K U Z it (.rng n))(hn:n≤1000)(b:I [] Z)(st:∀ (acc:List V) Z',acc.length<n→I acc Z'→∀ U',cN t (.int (acc.length:Nat)) U.outer=some U'→∀ R:aP,(∀ v Z'',I (acc++[v]) Z''→R v Z'')→WE K e U' R Z')
  (hb:∀ v,cN t v U.outer≠none) (q:∀ (acc:List V) Z',acc.length=n→I acc Z'→∀ a,Z' a=none→P (.ref a) (Z'.set a (.list acc))):WE K (.comp e t it []) U P Z:=by
 refine lF h rfl (by show(n:Int)≤1000;lia) ?_
 have go:∀ (m:Nat) (acc:List V) Z',m+acc.length=n→I acc Z'→CL K e t [] U (.rng n) ((List.range (Int.toNat (n:Int))).map fun(i:Nat)=>V.int (i:Int)) P (((List.range n).drop acc.length).map fun(i:Nat)=>V.int (i:Int)) acc Z':=by
  intro m
  induction m with
  |zero=>
   intro acc Z' hl hI
   rw[Nat.zero_add] at hl
   refine af (List.drop_of_length_le (by rw[List.length_range];lia)) ?_
   exact kf (q acc Z' hl hI)
  |succ m ih=>
   intro acc Z' hl hI
   have hlt:acc.length<n:=by lia
   (refine af (List.drop_eq_getElem_cons (by rw[List.length_range];exact hlt)) ?_;refine af List.map_cons ?_;rw[List.getElem_range])
   cases hb':cN t (.int (acc.length:Nat)) U.outer with
   |none=>exact absurd hb' (hb _)
   |some U'=>
    refine io hb' ?_
    refine st acc Z' hlt hI U' hb' _ fun v Z'' hI'=>⟨rfl,?_⟩
    have:=ih (acc++[v]) Z'' (by refine af List.length_append ?_;show m+(_+1)=n;lia) hI'
    rw[List.length_append] at this
    exact this
 exact go n [] Z rfl b
end
end
structure Ms (s:List (List Int)) (sh sp:List (V×V)):Prop where
 ok:de s
 shD:∀ k:Int,aJ sh (.int k)=(aV s k).map fun r=>.tup (aN r)
 shK:∀ k:Int,be sh (.int k)=true
 spK:∀ k:Int,be sp (.int k)=true
 spN:∀ k:Int,aV s k=none→aJ sp (.int k)=none
structure Mw (s:List (List Int)) (a b c e:Addr) (sh sp es:List (V×V)) (Z:H):Prop where
 i4:bE Z (.ref a) (.sym 204)=some (.ref b)
 i3:bE Z (.ref a) (.sym 203)=some (.ref c)
 i5:bE Z (.ref a) (.sym 205)=some (.ref e)
 hb:Z b=some (.dict sh)
 hc:Z c=some (.dict sp)
 he:Z e=some (.dict es)
 sp:∀ (k:Int) (r:List Int),aV s k=some r→∃ x,aJ sp (.int k)=some (.ref x)∧Z x=some (.list ((W s k).map eu))
theorem wx{Z:H}{a:Addr}{k:V}:bE Z (.ref a) k=kW k (Z a):=rfl
theorem fE{Z Z':H}{a:Addr}{k v:V}(h:∀ o,Z a=some o→Z' a=some o)(e:bE Z (.ref a) k=some v):bE Z' (.ref a) k=some v:=by
 rw[wx] at *
 induction q:Z a using Option.casesOn with
 |none=>rw[q] at e;exact ns e
 |some o=>rw[q] at e;refine af (h o q) ?_;exact e
section
variable {n:Nat} {Q:aP} {Z Z':H} {s:List (List Int)} {a b c e:Addr} {sh sp es:List (V×V)}
theorem Mw.ext(M:Mw s a b c e sh sp es Z)(x:bB Z Z'):Mw s a b c e sh sp es Z':=
 ⟨fE (x a) M.i4,fE (x a) M.i3,fE (x a) M.i5,x _ _ M.hb,x _ _ M.hc,x _ _ M.he,fun k r h=>let ⟨y,e1,e2⟩:=M.sp k r h;⟨y,e1,x _ _ e2⟩⟩
theorem zy(M:Mw s a b c e sh sp es Z)(T:Ms s sh sp){k:Int}(q:∀ x Z',bB Z Z'→Z' x=some (.list ((W s k).map eu))→Q (.ref x) Z'):a9 (n+1) none 56 [.ref a,.int k] Q Z:=by
 refine br z8 rfl ?_
 refine bP (pQ (ah (ac rfl) aj M.i3) M.hc (ac rfl) (bz (vs:=[.tup [.tup [],.int k]]) (ab (aF (ab (aF ae) (ab (ac rfl) ae))) ae) fun y hy=>⟨rfl,sp,bw (fun z=>by(rewrite[← z] at hy;rw[M.hc] at hy);exact sn hy) M.hc,T.spK k,?_⟩))
 induction g:aV s k using Option.casesOn with
 |none=>refine af (T.spN k g) ?_;exact q y _ (bB.refl.set hy) (by refine af (kn g) ?_;exact aC)
 |some r=>
  refine o1x2 (M.sp k r g) fun x e1 e2=>?_
  refine af e1 ?_;exact q x _ (bB.refl.set hy) ((bB.refl.set hy) _ _ e2)
theorem jq(T:Ms s sh sp){k:Int}(g:aV s k=none):(aJ sh (.int k)).isSome=false:=by(rewrite[T.shD];refine af g ?_);rfl
theorem fO(T:Ms s sh sp){k:Int}{r:List Int}(g:aV s k=some r):aJ sh (.int k)=some (.tup (aN r)):=by(rewrite[T.shD];refine af g ?_);rfl
theorem cA{p:List Int}{i:Nat}{k:Int}(h:p[i]? = some k):(aN p)[i]? = some (.int k):=by skip;(refine ak (List.getElem?_map) ?_;refine af h ?_);rfl
theorem bA{p:List Int}:(aN p).length=p.length:=List.length_map _
theorem Ez(T:Ms s sh sp)(k:Int):∀ (m:Nat) (z:Int) (Z:H) (Q:aP),rk s k≤m→Mw s a b c e sh sp es Z→(∀ v Z',Ty s k v→bB Z Z'→Q v Z')→a9 (m+1) none 57 [.ref a,.int k,.int z] Q Z:=by
 refine ie T.ok (P:=fun k=>∀ (m:Nat) (z:Int) (Z:H) (Q:aP),rk s k≤m→Mw s a b c e sh sp es Z→(∀ v Z',Ty s k v→bB Z Z'→Q v Z')→a9 (m+1) none 57 [.ref a,.int k,.int z] Q Z) (fun k g m z Z Q za M q=>?_) (fun k r g ih m z Z Q hm M q=>?_) k
 ·have k1:=ke (Z:=Z) M.hb (T.shK k)
  rw[jq T g] at k1
  refine br uy rfl (au (aM (ac rfl) (ah (ac rfl) aj M.i4) k1) ?_)
  by_cases sg:k=12
  ·subst sg
   have b1:0≤z % 4:=Int.emod_nonneg _ (by decide)
   have b2:z % 4<4:=Int.emod_lt_of_pos _ (by decide)
   refine aI ((⟨(z % 4).toNat,by lia⟩:∃ j:Nat,z % 4=j)) fun j hj=>?_
   have j4:j<4:=by lia
   refine o1x2 ((⟨_,List.getElem?_eq_getElem (l:=([0,16,20,24]:List Int)) j4,List.getElem_mem _⟩:∃ u:Int,([0,16,20,24]:List Int)[j]? = some u∧u ∈ ([0,16,20,24]:List Int))) fun u hu hm=>?_
   refine aA (ai (aq (ac rfl) ao) rfl) (ax (aF (ab aj (ab (ah (k:=.int (z % 4)) aj (aB (ac rfl) aj fun Q q=>⟨by decide,q⟩) (bQ b1 (by refine af hj ?_;exact cA hu))) ae))) (q _ _ (.leaf _ _ _ g ?_) bB.refl))
   delta eD;refine af (aH rfl) ?_;exact⟨rfl,hm⟩
  ·refine au (ai (aq (ac rfl) ao) (bH sg)) ?_
   by_cases c9:k=9
   ·refine ax (aF (ab (nU (ai (aq (ac rfl) ao) (bS c9)) aj) (ab (aB (w:=.int (z % 120)) (ac rfl) aj fun Q q=>⟨by decide,q⟩) ae))) (q _ _ (.leaf _ _ _ g ?_) bB.refl)
    delta eD;refine af (aE sg) ?_;exact .inr rfl
   ·refine ax (aF (ab (nV (ai (aq (ac rfl) ao) (bH c9)) aj) (ab (aB (w:=.int (z % 120)) (ac rfl) aj fun Q q=>⟨by decide,q⟩) ae))) (q _ _ (.leaf _ _ _ g ?_) bB.refl)
    delta eD;refine af (aE sg) ?_;exact .inl rfl
 ·have k1:=ke (Z:=Z) M.hb (T.shK k)
  rw[fO T g] at k1
  have r3:=(T.ok.row _ _ g).2.2.1
  have i4:bE Z (.ref b) (.int k)=some (.tup (aN r)):=aG M.hb (T.shK k) (fO T g)
  refine br uy rfl (aA (aM (ac rfl) (ah (ac rfl) aj M.i4) k1) (av (ah (ah (ac rfl) aj M.i4) (ac rfl) i4) ?_))
  refine bP (lC (aU aj (aU (ac rfl) (bO (jB (bO (d7 (n:=r.length) (fun acc Z'=>bB Z Z'∧∀ (i:Nat) k' v,r[i]? = some k'→acc[i]? = some v→Ty s k' v) (a8 (vs:=[.int r.length]) (ab (a8 (vs:=[.tup (aN r)]) (ab (ac rfl) ae) fun Q q=>by rw[← bA] at q;exact q) ae) fun Q q=>⟨_,rfl,⟨by lia,by lia⟩,q⟩) (by lia) ⟨bB.refl,fun i k' v za h=>nomatch h⟩ ?_ (fun v h=>nomatch h) ?_)))))))
  ·intro acc Z' hl hI U' hb R hR
   refine bt (aQ hb) ?_
   have gk:=List.getElem?_eq_getElem hl
   refine aD (vs:=[.ref a,.int r[acc.length],.int (z+3 * (acc.length:Nat)+1)]) (ab (ac rfl) (ab (ah (ac rfl) (ac rfl) (bQ (Int.natCast_nonneg _) (by rw[Int.toNat_natCast];exact cA gk))) (ab (aB (aB (ac rfl) (aB (w:=.int (3 * (acc.length:Nat))) aj (ac rfl) fun Q q=>⟨⟨by decide,by show((acc.length:Nat):Int).natAbs<2 ^ 40;lia⟩,q⟩) fun Q q=>q) aj fun Q q=>q) ae))) rfl ?_
   refine aI ((⟨m - 1,by have:=gb T.ok g (List.mem_of_getElem? gk);lia⟩:∃ j,m=j+1)) fun m e1=>?_;refine af e1 ?_
   refine ih _ (List.mem_of_getElem? gk) m _ Z' _ (by have:=gb T.ok g (List.mem_of_getElem? gk);lia) (M.ext hI.1) fun v Z'' hv x=>hR v Z'' ⟨hI.1.trans x,fun i k' v' e1 e2=>?_⟩
   by_cases ci:i<acc.length
   ·rw[List.getElem?_append_left ci] at e2;exact hI.2 i k' v' e1 e2
   ·have:i=acc.length:=by have:=(List.getElem?_eq_some_iff.mp e2).1;rw[List.length_append] at this;have:i<acc.length+1:=this;lia
    subst this
    rw[List.getElem?_concat_length] at e2
    refine bt (aQ e2) ?_;cases gk.symm.trans e1;exact hv
  ·intro acc Z' hl hI x hx
   exact⟨acc,aC,q _ _ (.node k r acc g hl hI.2) (hI.1.set (by induction h:Z x using Option.casesOn with | none=>rfl | some o=>rw[hI.1 _ _ h] at hx;exact sn hx))⟩
end
section
variable {n:Nat} {Q:aP} {Z Z':H} {s:List (List Int)} {a b c e:Addr} {sh sp es:List (V×V)}
theorem qt{k k' i:Int}{p:List Int}{v:V}(h:Ty s k v)(hk:cq s k (i::p)=some k'):∃ u k₁ x y vs,v=.tup [x,y,.tup vs]∧0≤i∧vs[i.toNat]? = some u∧sub v i=some u∧Ty s k₁ u∧cq s k₁ p=some k':=by
 refine o2x2 (h.step hk) fun k₁ u bl e=>?_
 refine o3x3 (mW bl.sub) fun x y vs e1 e2 e3=>?_
 exact⟨u,k₁,x,y,vs,e1,e2,e3,bl.sub,bl.ty,e⟩
theorem EY{K:aO}{P:bL}(p:List Int):∀ {k k':Int} {v u:V} {U:Env} {whole:List V},Ty s k v→cq s k p=some k'→bG v p=some u→U 7=some v→(∀ U',(∀ i,i≠7→i≠8→U' i=U i)→U' 7=some u→P .next U' Z)→
  FL K [8] (.tup whole) whole [.set (.v 7) (.idx (.idx (.x 7) (.k (.int 2))) (.x 8))] P (aN p) U Z:=by
 induction p with
 |nil=>intro k k' v u U whole hv hk hu h7 q;obtain rfl:=aQ hu;exact b9 (q U (fun za za za=>rfl) h7)
 |cons i p ih=>
  intro k k' v u U whole hv hk hu h7 q
  refine o5x2 (qt hv hk) fun w k₁ x y vs e5 q9=>?_;obtain rfl:=e5;refine o0x5 q9 fun hi e3 e4 ht hk=>?_;clear q9
  rw[cg e4] at hu
  exact bR rfl (av (ah (ah (ac h7) aj rfl) (ac rfl) (bQ hi e3)) (ay ⟨rfl,ih ht hk hu rfl fun U' h h'=>q U' (fun j h7 h8=>(h j h7 h8).trans ((aE h7).trans (aE h8))) h'⟩))
theorem Mw.put(M:Mw s a b c e sh sp es Z)(hn:e≠a∧e≠b∧e≠c){es':List (V×V)}(x:jo e Z Z')(h:Z' e=some (.dict es')):Mw s a b c e sh sp es' Z':=
 ⟨fE (fun o g=>x a o hn.1.symm g) M.i4,fE (fun o g=>x a o hn.1.symm g) M.i3,fE (fun o g=>x a o hn.1.symm g) M.i5,x _ _ hn.2.1.symm M.hb,x _ _ hn.2.2.symm M.hc,h,
  fun k r g=>let ⟨y,e1,e2⟩:=M.sp k r g;⟨y,e1,x _ _ (fun z=>by(rewrite[z] at e2;rw[M.he] at e2);cases e2) e2⟩⟩
theorem FK(M:Mw s a b c e sh sp es Z)(T:Ms s sh sp)(hn:e≠a∧e≠b∧e≠c)(hk:∀ (r:Nat) q,be es (ck r q)=true)(hl:es.length≤60000){r:Nat}{p:List Int}{k:Int}{x:V}(hx:Ty s k x)(hp:p.length≤100)
  (q:∀ Z',jo e Z Z'→Z' e=some (.dict (gP s r p x (W s k) es))→Q .none Z'):a9 (n+2) none 58 [.ref a,.int r,.tup (aN p),.int k,x] Q Z:=by
 refine br z7 rfl (f8 (aD (vs:=[.ref a,.int k]) (ab (ac rfl) (ab (ac rfl) ae)) rfl (zy M T fun y Zq xc hy=>⟨_,bf hy,?_⟩)))
 have M1:=M.ext xc
 have hye:y≠e:=fun z=>by(rewrite[z] at hy;rw[M1.he] at hy);cases hy
 have wl:=ln T.ok k
 refine(?_:∀ (l:Sp) (es':List (V×V)) (U:Env) (Z':H),(∀ z ∈ l,z ∈ W s k)→es'.length+l.length≤70000→(∀ (r:Nat) q,be es' (ck r q)=true)→jo e Z Z'→Z' e=some (.dict es')→Z' y=some (.list ((W s k).map eu))→(∀ Z',jo e Z Z'→Z' e=some (.dict (gP s r p x l es'))→Q .none Z')→
  (∀ i,i<5→U i=(bV F0.ps [.ref a,.int r,.tup (aN p),.int k,x] Env.nil) i)→FL _ _ _ _ _ _ (l.map eu) U Z') (W s k) es _ Zq (fun za h=>h) (by lia) hk xc.off M1.he hy q fun za za=>rfl
 intro l
 induction l with
 |nil=>intro es' U Z' _ _ _ hx he hy q hU;exact b9 (ay (q Z' hx he))
 |cons w l ih=>
  intro es' U Z' hm hl hk hx' he hy q hU
  obtain⟨w,k'⟩:=w
  have M':=M.put hn hx' he
  have hw:=(fX T.ok k w).mp (hm _ (.head _))
  have k1:=i2 (Z:=Z') M'.hb (T.shK k')
  have h0:U 0=some (.ref a):=hU 0 (by decide)
  have h1:U 1=some (.int r):=hU 1 (by decide)
  have h2:U 2=some (.tup (aN p)):=hU 2 (by decide)
  have h4:U 4=some x:=hU 4 (by decide)
  rw[List.length_cons] at hl
  refine bR rfl ?_
  induction g:aV s k' using Option.casesOn with
  |some row=>
   rw[fO T g] at k1
   refine au (aM (ac rfl) (ah (ac h0) aj M'.i4) k1) (ay ⟨bf hy,ih es' _ Z' (fun z h=>hm z (.tail _ h)) (by lia) hk hx' he hy (fun Z'' o h=>q Z'' o ?_) fun i hi=>?_⟩)
   ·show _=some (O.dict (gP s r p x l _));refine af (aE (by rw[g];exact fun h=>nomatch h)) ?_;exact h
   ·exact(aE (by lia)).trans ((aE (by lia)).trans (hU i hi))
  |none=>
   rw[jq T g] at k1
   refine o1x2 (hx.get w hw) fun u hu za=>?_
   refine aA (aM (ac rfl) (ah (ac h0) aj M'.i4) k1) (av (ac h4) ?_)
   refine ch (xs:=aN w) (ac rfl) rfl (EY w hx hw hu rfl fun U' hU' h7=>?_)
   have gt:∀ i,i<7→U' i=(U.set 5 (.tup (aN w))).set 6 (.int k') i:=fun i hi=>(hU' i (by lia) (by lia)).trans (aE (by lia))
   refine dQ (u:=.ref e) (k:=ck r (p++w)) (ac h7) (ah (ac ((gt 0 (by decide)).trans h0)) aj M'.i5) (aF (ab (ac ((gt 1 (by decide)).trans h1)) (ab (aB (ac ((gt 2 (by decide)).trans h2)) (ac (gt 5 (by decide))) fun Q q=>⟨?_,by rw[cY] at q;exact q⟩) ae))) (bp he (hk r _) (by delta bM;lia)) (ay (ay ⟨?_,?_⟩))
   ·(refine af bA ?_;refine af bA ?_);have:=cW T.ok hw;delta bM;lia
   ·exact bf (bw hye hy)
   ·refine ih _ _ _ (fun z h=>hm z (.tail _ h)) ?_ (fun r q=>dW (hk r q) rfl) hx'.set aC (bw hye hy) (fun Z'' o h=>q Z'' o ?_) fun i hi=>?_
    ·have:=fJ (k:=ck r (p++w)) (v:=u) es';lia
    ·show _=some (O.dict (gP s r p x l _));(refine af (aH g) ?_;refine af hu ?_);exact h
    ·exact(gt i (by lia)).trans ((aE (by lia)).trans ((aE (by lia)).trans (hU i hi)))
theorem Ds(T:Ms s sh sp)(k:Int):∀ (m r:Nat) (p:List Int) (u:V) (Z:H) (Q:aP),rk s k≤m→p.length+rk s k≤100→Mw s a b c e sh sp es Z→(∀ (r:Nat) q,be es (ck r q)=true)→Ty s k u→(∀ w k',cq s k w=some k'→aV s k'=none→aJ es (ck r (p++w))=bG u w)→(∀ Z',bB Z Z'→Q u Z')→a9 (m+1) none 59 [.ref a,.int r,.tup (aN p),.int k] Q Z:=by
 refine ie T.ok (P:=fun k=>∀ (m r:Nat) (p:List Int) (u:V) (Z:H) (Q:aP),rk s k≤m→p.length+rk s k≤100→Mw s a b c e sh sp es Z→(∀ (r:Nat) q,be es (ck r q)=true)→Ty s k u→(∀ w k',cq s k w=some k'→aV s k'=none→aJ es (ck r (p++w))=bG u w)→(∀ Z',bB Z Z'→Q u Z')→a9 (m+1) none 59 [.ref a,.int r,.tup (aN p),.int k] Q Z) (fun k g m r p u Z Q hm hp M hk hu hc q=>?_) (fun k row g ih m r p u Z Q hm hp M hk hu hc q=>?_) k
 ·have k1:=i2 (Z:=Z) M.hb (T.shK k)
  rw[jq T g] at k1
  have e1:=hc [] k rfl g
  rw[List.append_nil] at e1
  exact br ux rfl (aA (aM (ac rfl) (ah (ac rfl) aj M.i4) k1) (ax (ah (ah (ac rfl) aj M.i5) (aF (ab (ac rfl) (ab (ac rfl) ae))) (aG M.he (hk r p) e1)) (q _ bB.refl)))
 ·have k1:=i2 (Z:=Z) M.hb (T.shK k)
  rw[fO T g] at k1
  have i4:bE Z (.ref b) (.int k)=some (.tup (aN row)):=aG M.hb (T.shK k) (fO T g)
  have r3:=(T.ok.row _ _ g).2.2.1
  cases hu with
  |leaf _ t z g' _=>rw[g] at g';exact sn g'
  |node _ row' vs g' h2 h3=>
   cases g.symm.trans g'
   refine br ux rfl (au (aM (ac rfl) (ah (ac rfl) aj M.i4) k1) (av (ah (ah (ac rfl) aj M.i4) (ac rfl) i4) ?_))
   refine bP (lC (aU aj (aU (ac rfl) (bO (jB (bO (d7 (n:=row.length) (fun acc Z'=>bB Z Z'∧acc=vs.take acc.length) (a8 (vs:=[.int row.length]) (ab (a8 (vs:=[.tup (aN row)]) (ab (ac rfl) ae) fun Q q=>by rw[← bA] at q;exact q) ae) fun Q q=>⟨_,rfl,⟨by lia,by lia⟩,q⟩) (by lia) ⟨bB.refl,rfl⟩ ?_ (fun v h=>nomatch h) ?_)))))))
   ·intro acc Z' hl hI U' hb R hR
    refine bt (aQ hb) ?_
    have gk:=List.getElem?_eq_getElem hl
    have gv:=List.getElem?_eq_getElem (h2▸hl:acc.length<vs.length)
    have hr:=gb T.ok g (List.mem_of_getElem? gk)
    refine aD (vs:=[.ref a,.int r,.tup (aN (p++[(acc.length:Int)])),.int row[acc.length]]) (ab (ac rfl) (ab (ac rfl) (ab (aB (ac rfl) (aF (ab (ac rfl) ae)) fun Q q=>⟨?_,by rw[cY] at q;exact q⟩) (ab (ah (ac rfl) (ac rfl) (bQ (Int.natCast_nonneg _) (by rw[Int.toNat_natCast];exact cA gk))) ae)))) rfl ?_
    ·refine af bA ?_;show _+1≤100000;lia
    ·refine aI ((⟨m - 1,by lia⟩:∃ j,m=j+1)) fun m e1=>?_;refine af e1 ?_
     refine ih _ (List.mem_of_getElem? gk) m r _ vs[acc.length] Z' _ (by lia) (by refine af List.length_append ?_;show _+1+_≤100;lia) (M.ext hI.1) hk (h3 _ _ _ gk gv) (fun w k' h h'=>?_) fun Z'' x=>hR _ Z'' ⟨hI.1.trans x,?_⟩
     ·rw[List.append_assoc]
      refine(hc ((acc.length:Int)::w) k' ?_ h').trans ?_
      ·show(match aV s k with | some r=>if 0≤(acc.length:Int) then(match r[(acc.length:Int).toNat]? with | some k'=>cq s k' w | none=>none) else none | none=>none)=some k'
       refine af g ?_;skip;(refine ak (aH (Int.natCast_nonneg _)) ?_;rewrite[Int.toNat_natCast];refine af gk ?_);exact h
      ·exact cg ((aH (Int.natCast_nonneg _)).trans (by rw[Int.toNat_natCast];exact gv))
     ·refine af List.length_append ?_
      show _=vs.take (acc.length+1)
      (refine af List.take_succ ?_;refine af gv ?_;refine bt hI.2 ?_);rfl
   ·intro acc Z' hl hI x hx
    have:acc=vs:=by(refine ak (hI.2) ?_;refine af hl ?_;refine bt h2 ?_;(refine ak (List.take_length) ?_;with_reducible rfl))
    refine af this ?_
    exact⟨_,aC,q _ (hI.1.set (by induction h:Z x using Option.casesOn with | none=>rfl | some o=>rw[hI.1 _ _ h] at hx;exact sn hx))⟩
theorem FJ(M:Mw s a b c e sh sp es Z)(T:Ms s sh sp)(hk:∀ (r:Nat) q,be es (ck r q)=true){r:Nat}{p:List Int}{k:Int}{u:V}(hu:Ty s k u)(hp:p.length≤100)(hc:∀ w k',cq s k w=some k'→aV s k'=none→aJ es (ck r (p++w))=bG u w)
  (q:∀ x Z',bB Z Z'→Z x=none→Z' x=some (.list (aN (dM s k u)))→Q (.ref x) Z'):a9 (n+2) none 60 [.ref a,.int r,.tup (aN p),.int k] Q Z:=by
 refine br z6 rfl (aX (bz ae fun z hz=>?_))
 have M0:=M.ext (bB.refl.set (o:=.list []) hz)
 refine f8 (aD (vs:=[.ref a,.int k]) (ab (ac rfl) (ab (ac rfl) ae)) rfl (zy M0 T fun y Zq xc hy=>⟨_,bf hy,?_⟩))
 by_cases hyz:y=z
 ·have:=xc z _ aC;(rewrite[← hyz] at this;rw[hy] at this)
  have wp:=uQ (s:=s) (k:=k)
  have:=congrArg List.length (O.list.inj (aQ this))
  rw[List.length_map] at this
  rw[this] at wp;cases wp
 have wl:=ln T.ok k
 refine(?_:∀ (l:Sp) (acc:List Int) (U:Env) (Z':H),(∀ z ∈ l,z ∈ W s k)→acc.length+l.length≤5000→bB Z Z'→Z' z=some (.list (aN acc))→Z' y=some (.list ((W s k).map eu))→(∀ Z',bB Z Z'→Z' z=some (.list (aN (acc++l.filterMap fun x=>jk x.2 (bG u x.1))))→Q (.ref z) Z')→
  (∀ i,i<4→U i=(bV FZ.ps [.ref a,.int r,.tup (aN p),.int k] Env.nil) i)→U 4=some (.ref z)→FL _ _ _ _ _ _ (l.map eu) U Z') (W s k) [] _ Zq (fun za h=>h) (by show 0+_≤_;lia) ((bB.refl.set hz).trans xc) (xc _ _ aC) hy (fun Z' x h=>q z Z' x hz h) (fun i hi=>aE (by lia)) rfl
 intro l
 induction l with
 |nil=>intro acc U Z' _ _ hx he hy q hU h4;exact b9 (ax (ac h4) (q Z' hx (by(refine af List.filterMap_nil ?_;rw[List.append_nil]);exact he)))
 |cons w l ih=>
  intro acc U Z' hm hl hx' he hy q hU h4
  obtain⟨w,k'⟩:=w
  have M':=M.ext hx'
  have hw:=(fX T.ok k w).mp (hm _ (.head _))
  have h0:U 0=some (.ref a):=hU 0 (by decide)
  have h1:U 1=some (.int r):=hU 1 (by decide)
  have h2:U 2=some (.tup (aN p)):=hU 2 (by decide)
  rw[List.length_cons] at hl
  refine bR rfl ?_
  have same:(∀ v,jk k' (bG u w)≠some v)→∀ U',(∀ i,i<5→U' i=U i)→FL (a9 (n+1)) [5,6] (.ref y) ((W s k).map eu) _ _ (l.map eu) U' Z':=fun hn U' hU'=>ih acc U' Z' (fun z h=>hm z (.tail _ h)) (by lia) hx' he hy (fun Z'' o h=>q Z'' o (by
    refine af List.filterMap_cons ?_
    cases g:jk k' (bG u w) with
    |none=>exact h
    |some v=>exact absurd g (hn v))) (fun i hi=>(hU' i (by lia)).trans (hU i hi)) ((hU' 4 (by decide)).trans h4)
  by_cases sg:k'=12
  ·subst sg
   have g:aV s 12=none:=jI (by decide)
   refine o1x2 (hu.get w hw) fun v hv tv=>?_
   cases tv with
   |node _ _ _ g' _ _=>rw[g] at g';exact ns g'
   |leaf _ t z' _ lo=>
    have hcell:=hc w 12 hw g
    rw[hv] at hcell
    have hr:jk 12 (bG u w)=if 0<z' then some z' else none:=by refine af hv ?_;exact aH rfl
    refine aA (ai (aq (ac rfl) ao) rfl) (av (v:=.int z') (ah (u:=.tup [.int t,.int z']) (ah (ah (ac h0) aj M'.i5) (aF (vs:=[.int r,.tup (aN (p++w))]) (ab (ac h1) (ab (aB (ac h2) (ac rfl) fun Q q=>⟨?_,by rw[cY] at q;exact q⟩) ae))) (aG M'.he (hk r _) hcell)) aj rfl) ?_)
    ·(refine af bA ?_;refine af bA ?_);have:=cW T.ok hw;show p.length+w.length≤bM;delta bM;lia
    ·by_cases zp:0<z'
     ·refine aA (ai (aq (ac rfl) cu) (bS zp)) (bI (ac h4) he (ac rfl) (by refine af bA ?_;delta bM;lia) (ay (ay (ay ⟨bf (bw hyz hy),ih (acc++[z']) _ _ (fun z h=>hm z (.tail _ h)) (by refine af List.length_append ?_;show _+1+_≤_;lia) (hx'.set hz) (by rw[cY];exact aC) (bw hyz hy) (fun Z'' o h=>q Z'' o ?_) (fun i hi=>?_) h4⟩))))
      ·(refine af List.filterMap_cons ?_;refine af hr ?_;refine af (aH zp) ?_);rw[List.append_assoc] at h;exact h
      ·exact(aE (by lia)).trans ((aE (by lia)).trans ((aE (by lia)).trans (hU i hi)))
     ·refine au (ai (aq (ac rfl) cu) (bH zp)) (ay (ay ⟨bf hy,same (fun v h=>?_) _ fun i hi=>?_⟩))
      ·(rewrite[hr] at h;rw[aE zp] at h);exact ns h
      ·exact(aE (by lia)).trans ((aE (by lia)).trans (aE (by lia)))
  ·refine au (ai (aq (ac rfl) ao) (bH sg)) (ay ⟨bf hy,same (fun v h=>?_) _ fun i hi=>?_⟩)
   ·unfold jk at h;rw[aE sg] at h;exact ns h
   ·exact(aE (by lia)).trans (aE (by lia))
end
section
variable {K:aO} {U:Env} {Z:H} {Q:bL} {P:aP} {r:List C}
theorem jD{o i e:E}(h:WE K e U (fun v Zq=>WE K o U (fun a Zr=>WE K i U (fun k Za=>∃ Z',eU Za a k v=some Z'∧SS K r U Q Z') Zr) Zq) Z):SS K (.set (.idx o i) e::r) U Q Z:=by
 simp only[fT,mY] at *;exact h
theorem Dl{e:E}{u:V}(h:Ev K U Z e u)(q:P u Z):WE K e U P Z:=bk h q
end
noncomputable def upd(f:Nat→V)(r:Nat)(x:V):Nat→V:=fun j=>if j=r then x else f j
noncomputable def ox(d:Dt):Nat→Bool
 |3=>decide (0<d.g0) | 4=>decide (0<d.g1) | 5=>decide (0<d.g1) | 6=>decide (0<d.g2) | _=>false
noncomputable def xG(d:Dt):Nat→Int
 |3=>d.g0 | 4=>d.g1 | 5=>d.g1 | _=>d.g2
noncomputable def ur(d:Dt)(r:Nat):V:=.int (fe r / 2 ^ d.bits.toNat)
noncomputable def mL(d:Dt)(r:Nat)(x:V)(l:List (V×V)):List (V×V):=if ox d r=true∧dM d.s (bu r) x≠[] then bJ l (ur d r) (.int 1) else l
noncomputable def Dt.dr(d:Dt):Dt:={ d with at_:=d.at_+1 }
noncomputable def Dt.wr(d:Dt)(r:Nat)(x:V):Dt:={ d with v:=upd d.v r x,hc:=mL d r x d.hc }
noncomputable def p9:Nat→Nat
 |3=>19 | 4=>20 | 5=>20 | _=>21
noncomputable def sl(d:Dt):Nat→List V
 |3=>[.tup [.int 4,.int 24],d.v 3] | 4=>[d.v 4,d.v 5] | 5=>[d.v 4,d.v 5] | _=>[d.v 6]
section
variable {n:Nat} {Q:aP} {Z:H} {A:Nat→Addr} {d:Dt}
theorem FM{a0 a1:Addr}{at_:Nat}{nums:List Int}{cnt:Int}(h0:Z a0=some (.dict [(.sym 202,.ref a1),(.sym 118,.int at_)]))(h1:Z a1=some (.list (aN nums)))(hc:0<cnt)
  (q:∀ i:Nat,(i:Int)<cnt→Q (.int i) (Z.set a0 (.dict [(.sym 202,.ref a1),(.sym 118,.int (at_+1:Nat))]))):a9 (n+1) none 53 [.ref a0,.int cnt] Q Z:=by
 have hne:a1≠a0:=fun e=>by(rewrite[e] at h1;rw[h0] at h1);cases h1
 refine br Ab rfl (av (ah (ac rfl) aj (aG h0 rfl rfl)) (dQ (v:=.int (at_+1:Nat)) (aB (ac rfl) aj fun Q q=>q) (ac rfl) aj (bp h0 rfl (show 2<bM by decide)) ?_))
 have e1:bE (Z.set a0 (.dict [(.sym 202,.ref a1),(.sym 118,.int (at_+1:Nat))])) (.ref a0) (.sym 202)=some (.ref a1):=aG aC rfl rfl
 by_cases hl:at_<nums.length
 ·have b1:0≤nums[at_] % cnt:=Int.emod_nonneg _ (by lia)
  have b2:nums[at_] % cnt<cnt:=Int.emod_lt_of_pos _ hc
  refine aA (ai (aM (ac rfl) (a8 (vs:=[.ref a1]) (ab (ah (ac rfl) aj e1) ae) (bK (bw hne h1))) aW) (bS (by refine af bA ?_;lia))) (ax (v:=.int (nums[at_] % cnt)) (aB (u:=.int nums[at_]) (v:=.int cnt) (ah (ah (ac rfl) aj e1) (ac rfl) (aK (bw hne h1) (Int.natCast_nonneg _) (by rw[Int.toNat_natCast];exact cA (List.getElem?_eq_getElem hl)))) (ac rfl) fun Q q=>⟨hc,q⟩) ?_)
  have:=q (nums[at_] % cnt).toNat (by lia)
  rw[Int.toNat_of_nonneg b1] at this
  exact this
 ·exact au (ai (aM (ac rfl) (a8 (vs:=[.ref a1]) (ab (ah (ac rfl) aj e1) ae) (bK (bw hne h1))) aW) (bH (by refine af bA ?_;lia))) (ax aj (q 0 hc))
theorem iV(hW:Wd A d Z){cnt:Int}(hc:0<cnt)(q:∀ i:Nat,(i:Int)<cnt→∀ Z',Wd A d.dr Z'→jo (A 0) Z Z'→Q (.int i) Z'):a9 (n+1) none 53 [.ref (A 0),.int cnt] Q Z:=
 FM (hW.o 0 rfl) (hW.o 1 rfl) hc fun i hi=>q i hi _ (hW.upd (d':=d.dr) (i:=0) rfl rfl rfl rfl) (bB.refl.off.set)
theorem Ok.dr(hd:Ok d):Ok d.dr:={ hd with }
theorem Hr(hW:Wd A d Z)(this:0≤d.bits∧d.bits<4){w:Int}(h:0≤w):Cv (a9 (n+1)) none 26 [.ref (A 32),.int w] Z (.int (w / 2 ^ d.bits.toNat)):=by
 refine bj Aw rfl fun za q=>?_
 exact ax (aB (ac rfl) (bg rfl (hW.f 17 rfl)) fun Q q=>⟨⟨h,this.1,by lia⟩,q⟩) q
theorem Ht(hW:Wd A d Z){r:Nat}(hr:dE r):Cv (a9 (n+1)) none 22 [.ref (A (gn r)),.int (ig r)] Z (.int (fe r)):=by
 refine bj AA rfl fun za q=>?_
 rcases hr with rfl | rfl | rfl | rfl
 ·(apply ax;apply aB;apply aB;apply aw;exact ac rfl;exact hW.f 30 rfl;exact aj;exact fun za q=>q;exact ac rfl;exact fun za q=>q)
  exact q
 ·(apply ax;apply aB;apply aB;apply aw;exact ac rfl;exact hW.f 35 rfl;exact aj;exact fun za q=>q;exact ac rfl;exact fun za q=>q)
  exact q
 ·(apply ax;apply aB;apply aB;apply aw;exact ac rfl;exact hW.f 35 rfl;exact aj;exact fun za q=>q;exact ac rfl;exact fun za q=>q)
  exact q
 ·(apply ax;apply aB;apply aB;apply aw;exact ac rfl;exact hW.f 40 rfl;exact aj;exact fun za q=>q;exact ac rfl;exact fun za q=>q)
  exact q
theorem jH(hW:Wd A d Z){r:Nat}(hr:dE r):cV Z (.ref (A (gn r))) 113=some (.ref (A (p9 r)))∧cV Z (.ref (A (gn r))) 114=some (.int (xG d r)):=by
 refine xM hr ?_ ?_ ?_ ?_;all_goals clear hr
 ·exact⟨hW.f 32 rfl,hW.f 33 rfl⟩
 ·exact⟨hW.f 37 rfl,hW.f 38 rfl⟩
 ·exact⟨hW.f 37 rfl,hW.f 38 rfl⟩
 ·exact⟨hW.f 42 rfl,hW.f 43 rfl⟩
theorem nR{r:Nat}(hr:dE r)(x:V):(objs A d)[p9 r]? = some (.list (sl d r))∧objs A { d with v:=upd d.v r x }=(objs A d).set (p9 r) (.list ((sl d r).set (ig r).toNat x))∧0≤ig r∧ig r<(sl d r).length∧0≤fe r∧ox d r=decide (0<xG d r)∧(sl d r)[(ig r).toNat]? = some (d.v r):=by
 refine xM hr ?_ ?_ ?_ ?_;all_goals clear hr
 ·exact⟨rfl,rfl,by decide,(by decide:(1:Int)<2),by decide,rfl,rfl⟩
 ·exact⟨rfl,rfl,by decide,(by decide:(0:Int)<2),by decide,rfl,rfl⟩
 ·exact⟨rfl,rfl,by decide,(by decide:(1:Int)<2),by decide,rfl,rfl⟩
 ·exact⟨rfl,rfl,by decide,(by decide:(0:Int)<1),by decide,rfl,rfl⟩
theorem Hq(hW:Wd A d Z)(hd:Ok d){r:Nat}(hr:dE r){x:V}(hx:Ty d.s (bu r) x)(hl:d.hc.length≤1000)(q:∀ Z',Wd A (d.wr r x) Z'→Q .none Z'):a9 (n+3) none 27 [.ref (A 32),.ref (A (gn r)),.int (ig r),x] Q Z:=by
 refine o0x2 (jH hW hr) fun s1 s2=>?_
 refine o0x7 (nR (A:=A) (d:=d) hr x) fun u1 u2 u3 u4 u5 u6 za=>?_
 refine br Av rfl (dQ (ac rfl) (bg rfl s1) (ac rfl) (fP (hW.o _ u1) ⟨u3,u4⟩) ?_)
 have W1:=hW.upd (d':={ d with v:=upd d.v r x }) u1 u2 rfl rfl
 have s2':cV _ _ _=some (V.int (xG d r)):=(jH W1 hr).2
 by_cases g:0<xG d r
 ·refine dL (jz (kI (ai (aq (bg rfl s2') cu) (bS g)) ⟨fun za=>f7 (eH (aD (vs:=[x]) (ab (ac rfl) ae) rfl (Hs hd.sh hx (Nat.le_trans (ln hd.sh _) (by decide)) fun Z2 x2=>?_))),fun h=>nomatch h⟩))
  have W2:=W1.ext x2
  by_cases hr0:dM d.s (bu r) x≠[]
  ·have e:d.wr r x={ d with v:=upd d.v r x,hc:=bJ d.hc (ur d r) (.int 1) }:=by
    delta Dt.wr mL;(refine af (aH ⟨u6.trans (bS g),hr0⟩) ?_;with_reducible rfl)
   rw[e] at q
   refine af (bS hr0) ?_
   refine⟨fun za=>?_,fun h=>nomatch h⟩
   refine dQ (v:=.int 1) aj (bg rfl (W2.f 16 rfl)) (az (vs:=[.ref (A 32),.int (fe r)]) (ab (ac rfl) (ab (az (vs:=[.ref (A (gn r)),.int (ig r)]) (ab (ac rfl) (ab (ac rfl) ae)) rfl (Ht W2 hr)) ae)) rfl (Hr W2 hd.bits u5)) (bp (W2.o 18 rfl) (by refine af hd.cc ?_;exact hd.csK _) (by skip;exact Nat.lt_of_le_of_lt hl (by decide))) (ay (ay (q _ ?_)))
   exact W2.upd (d':={ d with v:=upd d.v r x,hc:=bJ d.hc (ur d r) (.int 1) }) (i:=18) rfl rfl rfl rfl
  ·have e:d.wr r x={ d with v:=upd d.v r x }:=by
    delta Dt.wr mL;(refine af (aE fun h=>hr0 h.2) ?_;with_reducible rfl)
   rw[e] at q
   refine af (bH hr0) ?_
   exact⟨fun h=>(nomatch h),fun za=>ay (ay (q _ W2))⟩
 ·have e:d.wr r x={ d with v:=upd d.v r x }:=by
   delta Dt.wr mL;(refine af (aE fun h=>g (of_decide_eq_true (u6.symm.trans h.1))) ?_;with_reducible rfl)
  rw[e] at q
  exact au (bd (d8 (ai (aq (bg rfl s2') cu) (bH g)))) (ay (q _ W1))
end
noncomputable def so(d:Dt):Nat→List V
 |0=>[d.v 0,.tup [.int 1,.int 55]] | 1=>[d.v 1,.tup [.int 1,.int 56]] | 2=>[.tup [.int 1,.int 57],d.v 2] | _=>[d.v 7]
section
variable {n:Nat} {Q:aP} {Z:H} {A:Nat→Addr} {d:Dt}
theorem vR{r:Nat}(hr:gF r)(x:V):(objs A d)[lL r]? = some (.list (so d r))∧objs A { d with v:=upd d.v r x }=(objs A d).set (lL r) (.list ((so d r).set (lM r).toNat x))∧0≤lM r∧lM r<(so d r).length∧ox d r=false:=by
 refine xM hr ?_ ?_ ?_ ?_;all_goals clear hr
 ·exact⟨rfl,rfl,by decide,(by decide:(0:Int)<2),rfl⟩
 ·exact⟨rfl,rfl,by decide,(by decide:(0:Int)<2),rfl⟩
 ·exact⟨rfl,rfl,by decide,(by decide:(1:Int)<2),rfl⟩
 ·exact⟨rfl,rfl,by decide,(by decide:(0:Int)<1),rfl⟩
theorem qg{r:Nat}(hr:dE r)(p:List Int):pl p r=u9 (fe r) p∧r<8:=by
 refine xM hr ?_ ?_ ?_ ?_;all_goals clear hr<;>exact⟨rfl,by decide⟩
theorem yE{r:Nat}(hr:gF r)(p:List Int):(∃ k h i,k≠3∧pl p r=oB k h i p)∧r<8:=by
 refine xM hr ?_ ?_ ?_ ?_;all_goals clear hr<;>exact⟨⟨_,_,_,by decide,rfl⟩,by decide⟩
theorem td{r:Nat}(hr:r<8):dE r∨gF r:=by delta dE gF;lia
theorem jZ{s:List (List Int)}{k:Int}{v:V}(h:Ty s k v):ze v=some false:=by induction h using Ty.casesOn<;>rfl
theorem Ho(hW:Wd A d Z)(hd:Ok d){r:Nat}(hr:dE r){p:List Int}{k:Int}{x:V}(hk:cq d.s (bu r) p=some k)(hx:Ty d.s k x)(hl:d.hc.length≤1000)
  (q:∀ Z',Wd A (d.wr r (cO (d.v r) p x)) Z'→Q (.bool true) Z'):a9 (n+4) none 28 [.ref (A 32),.int (fe r),.tup (aN p),x] Q Z:=by
 refine o0x2 (jH hW hr) fun s1 za=>?_
 refine o0x7 (nR (A:=A) (d:=d) hr x) fun u1 za u3 u4 za za u7=>?_
 have hr8:=(qg hr []).2
 have hv:=hd.ty r hr8
 refine o1x2 (hv.get p hk) fun w hw tw=>?_
 have iw:=jZ tw
 have e16:=Bi (n:=n+2) (Z:=Z) hv p
 rw[hw] at e16
 have i1:bE Z (.ref (A (p9 r))) (.int (ig r))=some (d.v r):=aK (hW.o _ u1) u3 u7
 have p7:=cW hd.sh hk
 refine br Au rfl ?_
 refine av (az (vs:=[.ref (A 32),.int (fe r)]) (by(apply ab;exact ac rfl;apply ab;exact ac rfl;exact ae)) rfl (wW hW hr)) (au (ai (aq (ac rfl) (bC rfl)) rfl) (av (az (vs:=[.ref (A (gn r)),.int (fe r)]) (by(apply ab;exact ac rfl;apply ab;exact ac rfl;exact ae)) rfl (Bh hW hr)) (au (ai (aq (ac rfl) aW) (bH (Int.not_lt.mpr u3))) ?_)))
 refine au (ai (aq (az (vs:=[d.v r,.tup (aN p)]) (ab (ah (bg rfl s1) (ac rfl) i1) (ab (ac rfl) ae)) rfl e16) (bC iw)) rfl) ?_
 refine pW (cF rfl (aU (ac rfl) (aU (ac rfl) (aU (ac rfl) (bO (aD (vs:=[d.v r,.tup (aN p),x]) (ab (ah (bg rfl s1) (ac rfl) i1) (ab (ac rfl) (ab (ac rfl) ae))) rfl (ER hd.sh hv hk (by lia) fun Z' x'=>?_)))))))
 exact Hq (hW.ext x') hd hr (hx.put p hv hk) hl fun Z'' W'=>ax aj (q _ W')
theorem Hi(hW:Wd A d Z)(hd:Ok d){r:Nat}(hr:r<8){p:List Int}{k:Int}{x:V}(hk:cq d.s (bu r) p=some k)(hx:Ty d.s k x)(hl:d.hc.length≤1000)
  (q:∀ Z',Wd A (d.wr r (cO (d.v r) p x)) Z'→Q (.bool true) Z'):a9 (n+5) none 40 [.ref (A 31),pl p r,x] Q Z:=by
 have hv:=hd.ty r hr
 refine o1x2 (hv.get p hk) fun w hw tw=>?_
 have iw:=jZ tw
 have ir:=jZ hv
 have p7:=cW hd.sh hk
 have e16:=Bi (n:=n+3) (Z:=Z) hv p
 rw[hw] at e16
 refine br uC rfl (av (az (vs:=[.ref (A 31),pl p r]) (ab (ac rfl) (ab (ac rfl) ae)) rfl (EE hW hr)) ?_)
 refine au (bd (aZ (ai (aq (ac rfl) (bC ir)) rfl) (bc (ai (aq (az (vs:=[d.v r,.tup (aN p)]) (ab (ac rfl) (ab (az (vs:=[pl p r]) (ab (ac rfl) ae) rfl js) ae)) rfl e16) (bC iw)) rfl)))) ?_
 refine Or.elim (td hr) (fun h=>?_) (fun h=>?_)
 ·have e:=(qg h p).1
  refine af e ?_
  exact aA (ai (aq (aR rfl rfl) ao) rfl) (bP (aD (vs:=[.ref (A 32),.int (fe r),.tup (aN p),x]) (ab (bg rfl (hW.f 11 rfl)) (ab (aR rfl rfl) (ab (aR rfl rfl) (ab (ac rfl) ae)))) rfl (Ho hW hd h hk hx hl q)))
 ·have e37:=rL (n:=n+3) (Z:=Z) h (p:=p)
  have e36:=Cz (n:=n+3) hW h (p:=p)
  refine o3x2 ((yE h p).1) fun kk hh ii k3 e=>?_
  rw[e] at e36 e37 ⊢
  refine o0x5 (vR (A:=A) (d:=d) h (cO (d.v r) p x)) fun u1 u2 u3 u4 u5=>?_
  have ew:d.wr r (cO (d.v r) p x)={ d with v:=upd d.v r (cO (d.v r) p x) }:=by
   delta Dt.wr mL;(refine af (aE fun h=>Bool.false_ne_true (u5.symm.trans h.1)) ?_;with_reducible rfl)
  rw[ew] at q
  refine au (ai (aq (aR rfl rfl) ao) (bH k3)) (av (az (vs:=[.ref (A 31),oB kk hh ii p]) (ab (ac rfl) (ab (ac rfl) ae)) rfl e36) ?_)
  refine jD (aD (vs:=[d.v r,.tup (aN p),x]) (ab (ac rfl) (ab (aR rfl rfl) (ab (ac rfl) ae))) rfl (ER hd.sh hv hk (by lia) fun Z' x'=>?_))
  have W':=hW.ext x'
  exact bk (ac rfl) (bk (az (vs:=[oB kk hh ii p]) (ab (ac rfl) ae) rfl (e▸rL h)) ⟨_,fP (W'.o _ u1) ⟨u3,u4⟩,ax aj (q _ (W'.upd u1 u2 rfl rfl))⟩)
theorem ED(hW:Wd A d Z)(hd:Ok d){r:Nat}(hr:r<8){p:List Int}{x:V}(hk:bG (d.v r) p=none):Cv (a9 (n+4)) none 40 [.ref (A 31),pl p r,x] Z (.bool false):=by
 have hv:=hd.ty r hr
 have ir:=jZ hv
 have e16:=Bi (n:=n+2) (Z:=Z) hv p
 rw[hk] at e16
 refine bj uC rfl fun P q=>(av (az (vs:=[.ref (A 31),pl p r]) (ab (ac rfl) (ab (ac rfl) ae)) rfl (EE hW hr)) ?_)
 exact aA (bd (aZ (ai (aq (ac rfl) (bC ir)) rfl) (bc (ai (aq (az (vs:=[d.v r,.tup (aN p)]) (ab (ac rfl) (ab (az (vs:=[pl p r]) (ab (ac rfl) ae) rfl js) ae)) rfl e16) (bC rfl)) rfl)))) (ax aj q)
end
noncomputable def Dt.lw(d:Dt)(r:Nat)(p:List Int)(k:Int)(x:V):Dt:={ d with
 v:=upd d.v r (cO (d.v r) p x),hc:=mL d r (cO (d.v r) p x) d.hc,es:=gP d.s r p x (W d.s k) d.es,cs:=mL d r (cO (d.v r) p x) d.cs }
noncomputable def Nx(d d':Dt):Prop:=d'.s=d.s∧d'.nums=d.nums∧d'.cs.length≤d.cs.length+1
section
variable {n:Nat} {Q:aP} {Z:H} {A:Nat→Addr} {d:Dt}
theorem Wd.mw(h:Wd A d Z):Mw d.s (A 2) (A 3) (A 4) (A 5) d.sh d.sp d.es Z:=
 ⟨aG (h.o 2 rfl) rfl rfl,aG (h.o 2 rfl) rfl rfl,aG (h.o 2 rfl) rfl rfl,h.o 3 rfl,h.o 4 rfl,h.o 5 rfl,fun k r e=>let ⟨a,b,c,_⟩:=h.sp k r e;⟨a,b,c⟩⟩
theorem Ok.ms(hd:Ok d):Ms d.s d.sh d.sp:=⟨hd.sh,hd.shD,hd.shK,hd.spK,hd.spN⟩
theorem Wd.off5(h:Wd A d Z):A 5≠A 2∧A 5≠A 3∧A 5≠A 4:=
 ⟨fun e=>absurd (h.inj 5 2 (by decide) (by decide) e) (by decide),fun e=>absurd (h.inj 5 3 (by decide) (by decide) e) (by decide),fun e=>absurd (h.inj 5 4 (by decide) (by decide) e) (by decide)⟩
theorem xl{r:Nat}(hr:r<8):bE Z (.tup [.bool false,.bool false,.bool false,.bool (decide (0<d.g0)),.bool (decide (0<d.g1)),.bool (decide (0<d.g1)),.bool (decide (0<d.g2)),.bool false]) (.int r)=some (.bool (ox d r)):=by
 refine bQ (Int.natCast_nonneg _) ?_
 rw[Int.toNat_natCast]
 exact fH (P:=fun r=>[V.bool false,.bool false,.bool false,.bool (decide (0<d.g0)),.bool (decide (0<d.g1)),.bool (decide (0<d.g1)),.bool (decide (0<d.g2)),.bool false][r]? = some (.bool (ox d r))) rfl rfl rfl rfl rfl rfl rfl rfl hr
theorem d4{r:Nat}(hr:r<8):bE Z (.tup (aN [18,19,18,19,19,19,18,18])) (.int r)=some (.int (bu r)):=by
 refine bQ (Int.natCast_nonneg _) ?_
 rw[Int.toNat_natCast]
 exact fH (P:=fun r=>(aN [18,19,18,19,19,19,18,18])[r]? = some (.int (bu r))) rfl rfl rfl rfl rfl rfl rfl rfl hr
theorem xk{r:Nat}(h:ox d r=true):dE r:=by
 delta dE
 unfold ox at h
 split at h<;>first | decide | exact Bool.noConfusion h
theorem vo{r:Nat}(hr:dE r):bE Z (.tup (aN [0,0,0,19,22,23,26,0])) (.int r)=some (.int (fe r)):=by
 refine xM hr ?_ ?_ ?_ ?_;all_goals clear hr<;>rfl
theorem Ok.lw(hd:Ok d){r:Nat}(hr:r<8){p:List Int}{k:Int}{x:V}(hk:cq d.s (bu r) p=some k)(hx:Ty d.s k x):Ok (d.lw r p k x):=by
 have hv:=hd.ty r hr
 have csd:∀ l:List (V×V),(∀ i:Int,be l (.int i)=true)→∀ i:Int,be (mL d r (cO (d.v r) p x) l) (.int i)=true:=fun l h i=>by
  delta mL;split
  ·exact dW (h i) rfl
  ·exact h i
 refine{ hd with ty:=fun j hj=>?_,esK:=fun r' q=>nl _ _ (hd.esK r' q),esL:=?_,csK:=csd _ hd.csK,csI:=?_,cell:=fun r' hr' q k' h g=>?_,cc:=congrArg (mL d r (cO (d.v r) p x)) hd.cc }
 ·show Ty d.s (bu j) (if j=r then _ else _)
  by_cases c:j=r
  ·refine af c ?_;refine af (aH rfl) ?_;exact hx.put p hv hk
  ·refine af (aE c) ?_;exact hd.ty j hj
 ·show(gP _ _ _ _ _ _).length≤_
  rw[nj _ _ fun y hy hl=>?_]
  ·exact hd.esL
  ·have hw:=(fX hd.sh k y.1).mp hy
   refine o1x2 (hv.get (p++y.1) ((cX _ _ hk).trans hw)) fun u hu za=>?_
   (refine af (hd.cell r hr _ _ ((cX _ _ hk).trans hw) hl) ?_;refine af hu ?_);exact fun h=>nomatch h
 ·have key:∀ (l:List (V×V)) (i:Int),(∀ e ∈ l,∃ i,e=(.int i,.int 1))→∀ e ∈ bJ l (.int i) (.int 1),∃ i,e=(V.int i,V.int 1):=by
   intro l i
   induction l with
   |nil=>intro _ e he;refine af (List.mem_singleton.mp he) ?_;exact⟨i,rfl⟩
   |cons y l ih=>
    intro h e he
    unfold bJ at he
    refine aI (h y (.head _)) fun j hj=>?_
    by_cases c:dJ y.1 (.int i)=true
    ·rw[aH c] at he
     rcases List.mem_cons.mp he with e1 | e1
     ·(refine af e1 ?_;refine af hj ?_);exact⟨j,rfl⟩
     ·exact h e (.tail _ e1)
    ·rw[aE c] at he
     rcases List.mem_cons.mp he with e1 | e1
     ·(refine af e1 ?_;refine af hj ?_);exact⟨j,rfl⟩
     ·exact ih (fun e he=>h e (.tail _ he)) e e1
  show ∀ e ∈ mL d r _ d.cs,_
  delta mL;split
  ·exact key _ _ hd.csI
  ·exact hd.csI
 ·exact pD hd.sh (r:=r) (p:=p) (v:=d.v r) hv hx hk (fun e=>e▸h) g (hd.cell r' hr' q k' h g) (fun e=>e▸rfl)
theorem Ey(hW:Wd A d Z)(hd:Ok d){r:Nat}(hr:r<8){p:List Int}{k:Int}{x:V}(hk:cq d.s (bu r) p=some k)(hx:Ty d.s k x)(hl:d.cs.length≤1000)
  (q:∀ d' Z',Wd A d' Z'→Ok d'→Nx d d'→d'.at_=d.at_→Q (.bool true) Z'):a9 (n+6) none 62 [.ref (A 2),.int r,.tup (aN p),.int k,x] Q Z:=by
 have p7:=cW hd.sh hk
 have hd':=hd.lw hr hk hx
 have fin:∀ Z',Wd A (d.lw r p k x) Z'→Q (.bool true) Z':=fun Z' h=>q _ Z' h hd' ⟨rfl,rfl,by
  show(mL d r _ d.cs).length≤_
  delta mL;split
  ·exact fJ _
  ·exact Nat.le_succ _⟩ rfl
 refine br zZ rfl (aX (aD (vs:=[.ref (A 31),pl p r,x]) ?_ rfl (Hi hW hd hr hk hx (hd.cc▸hl) fun Z1 W1=>?_)))
 ·exact ab (aw (ah (ac rfl) aj (aG (hW.o 2 rfl) rfl rfl)) (hW.f 9 rfl)) (ab (az (vs:=[.ref (A 2),.int r,.tup (aN p)]) (ab (ac rfl) (ab (ac rfl) (ab (ac rfl) ae))) rfl (zx hW hr (by lia))) (ab (ac rfl) ae))
 refine pW (aD (vs:=[.ref (A 2),.int r,.tup (aN p),.int k,x]) (ab (ac rfl) (ab (ac rfl) (ab (ac rfl) (ab (ac rfl) (ab (ac rfl) ae))))) rfl (FK W1.mw hd.ms W1.off5 hd.esK (Nat.le_trans hd.esL (by decide)) hx (by lia) fun Z2 x2 h2=>?_))
 have W2:Wd A { d with v:=upd d.v r (cO (d.v r) p x),hc:=mL d r (cO (d.v r) p x) d.hc,es:=gP d.s r p x (W d.s k) d.es } Z2:=W1.off (i:=5) rfl rfl rfl rfl x2 h2
 have ret:∀ Z' U',U' 5=some (.bool true)→Wd A (d.lw r p k x) Z'→SS (a9 (n+5)) [.ret (.bl .And [.call (.k (.bi 5)) [.x 5,.k (.bi 6)],.x 5])] U' (fy Q) Z':=fun Z' U' h5 h=>ax (nW (b7 (ue (vs:=[.bool true,.bi 6]) (ab (ac h5) (ab aj ae)) fun Q q=>⟨_,rfl,q⟩) (bc (CA h5)))) (fin Z' h)
 have ag:=xl (d:=d) (Z:=Z2) hr
 induction ha:ox d r using Bool.casesOn with
 |false=>
  rw[ha] at ag
  have e:∀ l,mL d r (cO (d.v r) p x) l=l:=fun l=>by skip;(refine ak (aE fun h=>by rw[ha] at h;exact ff h.1) ?_;with_reducible rfl)
  refine au (bd (d8 (ud (ah (ac rfl) aj (aG (W2.o 2 rfl) rfl rfl)) (ac rfl) ag))) (ret _ _ rfl ?_)
  delta Dt.lw;refine af (e d.cs) ?_;exact W2
 |true=>
  rw[ha] at ag
  have hon:=xk ha
  refine dL (jz (kI (ud (ah (ac rfl) aj (aG (W2.o 2 rfl) rfl rfl)) (ac rfl) ag) ⟨fun za=>f7 (eP (jB (bO (aD (vs:=[.ref (A 2),.int r,.tup (aN []),.int (bu r)]) ?_ rfl (FJ W2.mw hd.ms hd'.esK (hd'.ty r hr) (Nat.zero_le _) (fun w k' h g=>hd'.cell r hr w k' h g) fun y Z3 x3 hy e3=>⟨_,e3,bk aj ⟨_,cu,?_⟩⟩))))),fun h=>nomatch h⟩))
  ·exact ab (ac rfl) (ab (ac rfl) (ab (aF ae) (ab (ah (ah (ac rfl) aj (aG (W2.o 2 rfl) rfl rfl)) (ac rfl) (d4 hr)) ae)))
  ·have W3:=W2.ext x3
   have ev:(d.lw r p k x).v r=cO (d.v r) p x:=aH rfl
   (refine af ev ?_;refine af bA ?_)
   have bb:=hd.bits
   refine⟨fun h=>?_,fun h=>?_⟩
   ·have hne:dM d.s (bu r) (cO (d.v r) p x)≠[]:=fun z=>by
     have:(0:Int)<((dM d.s (bu r) (cO (d.v r) p x)).length:Nat):=of_decide_eq_true h
     rw[z] at this;cases this
    have e:mL d r (cO (d.v r) p x) d.cs=bJ d.cs (ur d r) (.int 1):=by skip;(refine ak (aH ⟨ha,hne⟩) ?_;with_reducible rfl)
    have hw0:0≤fe r:=by refine xM hon ?_ ?_ ?_ ?_;all_goals clear hon<;>decide
    have b2:(0:Int)<2 ^ d.bits.toNat∧(2:Int) ^ d.bits.toNat<2 ^ 30:=by
     refine o0x2 bb fun b0 b4=>?_;clear bb
     have:d.bits=0∨d.bits=1∨d.bits=2∨d.bits=3:=by lia
     refine D9 this (fun h=>?_) (fun h=>?_) (fun h=>?_) (fun h=>?_);all_goals clear this<;>refine af h ?_<;>decide
    refine dQ (v:=.int 1) aj (ah (ac rfl) aj (aG (W3.o 2 rfl) rfl rfl)) (aB (w:=ur d r) (ah aj (ac rfl) (vo hon)) (aB (w:=.int (2 ^ d.bits.toNat)) aj (ah (ac rfl) aj (aG (W3.o 2 rfl) rfl rfl)) fun Q q=>⟨⟨rfl,bb.1,by show d.bits<32;lia⟩,q⟩) fun Q q=>⟨b2,q⟩) (bp (W3.o 6 rfl) (hd.csK _) (by skip;exact Nat.lt_of_le_of_lt hl (by decide))) (ay (ret _ _ rfl ?_))
    delta Dt.lw;refine af e ?_
    exact W3.upd (i:=6) rfl rfl rfl rfl
   ·have he:dM d.s (bu r) (cO (d.v r) p x)=[]:=by
     have:¬(0:Int)<((dM d.s (bu r) (cO (d.v r) p x)).length:Nat):=of_decide_eq_false h
     exact List.eq_nil_of_length_eq_zero (by lia)
    have e:mL d r (cO (d.v r) p x) d.cs=d.cs:=by skip;(refine ak (aE fun h=>h.2 he) ?_;with_reducible rfl)
    refine ay (ret _ _ rfl ?_)
    delta Dt.lw;refine af e ?_;exact W3
end
section
variable {n:Nat} {Q:aP} {Z:H} {A:Nat→Addr} {d:Dt} {s:List (List Int)}
theorem jO{n:Nat}{l:List V}(h:∀ x ∈ l,pv n x=true):yB n l=true:=by
 induction l with
 |nil=>induction n using Nat.casesAuxOn<;>rfl
 |cons x l ih=>
  have:(pv n x && yB n l)=true:=by(refine af (h x (.head _)) ?_;refine ak (ih fun y hy=>h y (.tail _ hy)) ?_);rfl
  induction n using Nat.casesAuxOn<;>exact this
theorem gY(b:Nat)(i:Int):Mine.pv b (.int i)=true:=by induction b using Nat.casesAuxOn<;>rfl
theorem Ty.pv(hs:de s){k:Int}{v:V}(h:Ty s k v):pv 30 v=true:=by
 have go:∀ m k v b,rk s k≤m→2 * m+1≤b→Ty s k v→Mine.pv b v=true:=by
  intro m
  induction m with
  |zero=>
   intro k v b hm hb h
   induction h using Ty.casesOn with
   |leaf _ t z=>
    obtain⟨b,rfl⟩:∃ c,b=c+1:=⟨b - 1,by lia⟩
    exact jO fun x hx=>by
     refine Or.elim (List.mem_cons.mp hx) (fun e=>?_) (fun e=>?_)
     ·refine af e ?_;exact gY _ _
     ·refine af (List.mem_singleton.mp e) ?_;exact gY _ _
   |node k r vs g _ _=>have:=gb hs g (List.getElem_mem (hs.row _ _ g).2.1);lia
  |succ m ih=>
   intro k v b hm hb h
   obtain⟨b,rfl⟩:∃ c,b=c+2:=⟨b - 2,by lia⟩
   induction h using Ty.casesOn with
   |leaf _ t z=>
    exact jO fun x hx=>by
     refine Or.elim (List.mem_cons.mp hx) (fun e=>?_) (fun e=>?_)
     ·refine af e ?_;exact gY _ _
     ·refine af (List.mem_singleton.mp e) ?_;exact gY _ _
   |node k r vs g h2 h3=>
    have:yB b vs=true:=jO fun x hx=>by
     obtain⟨i,hi,e⟩:=List.getElem_of_mem hx
     have gr:=List.getElem?_eq_getElem (h2▸hi:i<r.length)
     exact ih _ _ _ (by have:=gb hs g (List.mem_of_getElem? gr);lia) (by lia) (h3 i _ _ gr (e▸List.getElem?_eq_getElem hi))
    exact jO fun x hx=>by
     refine Or.elim (List.mem_cons.mp hx) (fun e=>?_) (fun e=>?_)
     ·refine af e ?_;exact gY _ _
     ·refine Or.elim (List.mem_cons.mp e) (fun e=>?_) (fun e=>?_)
      ·refine af e ?_;exact gY _ _
      ·refine af (List.mem_singleton.mp e) ?_;exact this
 exact go 7 k v 30 (eV hs k) (by decide) h
theorem qC{m:Nat}{l:List Int}{a:Addr}(h:Z a=some (.list (aN l))):kE Z (m+1) (.ref a)=some (.list (l.map PyData.int)):=by
 have:(aN l).mapM (kE Z m)=some (l.map PyData.int):=by
  clear h
  induction l with
  |nil=>rfl
  |cons i l ih=>
   have e:kE Z m (.int i)=some (.int i):=by induction m using Nat.casesAuxOn<;>rfl
   show List.mapM (kE Z m) (V.int i::aN l)=_
   (refine ak (List.mapM_cons) ?_;refine af e ?_;refine af ih ?_);rfl
 unfold kE;refine af h ?_;dsimp only;refine af this ?_;rfl
theorem zd(hs:de s){k':Int}(p:List Int):∀ {k:Int},0≤k→cq s k p=some k'→0≤k':=by
 induction p with
 |nil=>intro k h e;refine bt (aQ e) ?_;exact h
 |cons i p ih=>
  intro k h e
  refine o2x4 (cH e) fun r k₁ a b c d=>?_
  refine ih ?_ d
  rcases(hs.row k r a).2.2.2 k₁ (List.mem_of_getElem? c) with⟨e,_⟩ | e
  ·lia
  ·unfold plain at e;simp at e;lia
theorem sR(r:Nat):0≤bu r:=by unfold bu;split<;>decide
theorem FI(hW:Wd A d Z)(hd:Ok d){r:Nat}(hr:r<8){p:List Int}{k:Int}(hk:cq d.s (bu r) p=some k)(q:∀ Z',bB Z Z'→Q (.bool true) Z'):a9 (n+9) none 63 [.ref (A 2),.int r,.tup (aN p),.int k] Q Z:=by
 have p7:=cW hd.sh hk
 have hv:=hd.ty r hr
 refine o1x2 (hv.get p hk) fun u hu tu=>?_
 have cell:∀ w k',cq d.s k w=some k'→aV d.s k'=none→aJ d.es (ck r (p++w))=bG u w:=fun w k' h g=>by
  (refine ak (hd.cell r hr _ _ ((cX w p hk).trans h) g) ?_;(refine ak (ik p hu) ?_;with_reducible rfl))
 have pu:=tu.pv hd.sh
 have e39:Cv (a9 (n+8)) none 39 [.ref (A 31),pl p r] Z u:=by
  have:=Du (n:=n+4) (p:=p) hW hr hv
  rw[hu] at this;exact this
 refine br zY rfl (av (az (vs:=[.ref (A 2),.int r,.tup (aN p)]) (ab (ac rfl) (ab (ac rfl) (ab (ac rfl) ae))) rfl (zx hW hr (by lia))) (av (az (vs:=[.ref (A 31),pl p r]) (ab (aw (ah (ac rfl) aj (aG (hW.o 2 rfl) rfl rfl)) (hW.f 9 rfl)) (ab (ac rfl) ae)) rfl e39) ?_))
 refine dL (mN (kI (ai (aq (ac rfl) (bC (jZ tu))) rfl) ⟨fun h=>(nomatch h),fun za=>f7 (eP (bk (ac rfl) (aD (vs:=[.ref (A 2),.int r,.tup (aN p),.int k]) (ab (ac rfl) (ab (ac rfl) (ab (ac rfl) (ab (ac rfl) ae)))) rfl (Ds hd.ms k (n+7) r p u Z _ (Nat.le_trans (eV hd.sh k) (by lia)) (by have:=eV hd.sh k;lia) hW.mw hd.esK tu cell fun Z1 x1=>⟨_,pA (by refine af pu ?_;rfl),?_⟩))))⟩))
 refine af (dz 30 u pu) ?_
 refine⟨fun h=>(nomatch h),fun za=>ay ?_⟩
 have W1:=hW.ext x1
 refine dL (eP (aD (vs:=[u]) (ab (ac rfl) ae) rfl (FR hd.sh tu (Nat.le_trans (ln hd.sh k) (by decide)) fun y Z2 x2 hy e2=>?_)))
 have W2:=W1.ext x2
 refine aD (vs:=[.ref (A 2),.int r,.tup (aN p),.int k]) (ab (ac rfl) (ab (ac rfl) (ab (ac rfl) (ab (ac rfl) ae)))) rfl (FJ W2.mw hd.ms hd.esK tu (by lia) cell fun z Z3 x3 hz e3=>⟨false,⟨rfl,.inl ⟨_,qC (x3 _ _ e2),qC e3⟩⟩,fun h=>(nomatch h),fun za=>ay ?_⟩)
 have W3:=W2.ext x3
 refine bP (oJ (aD (vs:=[.ref (A 30),pl p r]) (ab (ah (ac rfl) aj (aG (W3.o 2 rfl) rfl rfl)) (ab (ac rfl) ae)) rfl (Ha W3 hd hr hk (zd hd.sh p (sR r) hk) fun Z4 x4=>?_)))
 have W4:=W3.ext x4
 have fin:=q Z4 (((x1.trans x2).trans x3).trans x4)
 by_cases c:k=16
 ·refine bk (nU (ai (aM (ac rfl) (ah (ac rfl) aj (aG (W4.o 2 rfl) rfl rfl)) ao) (bS c)) aj) ⟨true,⟨rfl,?_⟩,fin⟩
  refine af (aH c) ?_;rfl
 ·refine bk (nV (ai (aM (ac rfl) (ah (ac rfl) aj (aG (W4.o 2 rfl) rfl rfl)) ao) (bH c)) (ac rfl)) ⟨true,⟨rfl,?_⟩,fin⟩
  refine af (aE c) ?_;exact(bS rfl).symm
end
section
variable {K:aO} {U:Env} {Z:H} {Q:bL} {P:aP} {b:List C}
theorem g7{t N:Nat}(I:Nat→Env→H→Prop)(st:∀ i<N,∀ U Z,I i U Z→∀ R:bL,(∀ U' Z',I (i+1) U' Z'→R .next U' Z')→(∀ v U' Z',Q (.ret v) U' Z'→R (.ret v) U' Z')→SS K b (U.set t (.int i)) R Z)
  (h0:I 0 U Z) (hE:∀ U Z,I N U Z→Q .next U Z):FL K [t] (.rng N) ((List.range (Int.toNat (N:Int))).map fun(i:Nat)=>V.int (i:Int)) b Q ((List.range (Int.toNat (N:Int))).map fun(i:Nat)=>V.int (i:Int)) U Z:=by
 have go:∀ (m i:Nat) U Z,m+i=N→I i U Z→FL K [t] (.rng N) ((List.range (Int.toNat (N:Int))).map fun(i:Nat)=>V.int (i:Int)) b Q (((List.range N).drop i).map fun(i:Nat)=>V.int (i:Int)) U Z:=by
  intro m
  induction m with
  |zero=>
   intro i U Z hl hI
   rw[Nat.zero_add] at hl
   subst hl
   refine af (List.drop_of_length_le (by rw[List.length_range];exact Nat.le_refl _)) ?_
   exact b9 (hE U Z hI)
  |succ m ih=>
   intro i U Z hl hI
   have hlt:i<N:=by lia
   (refine af (List.drop_eq_getElem_cons (by rw[List.length_range];exact hlt)) ?_;refine af List.map_cons ?_;rw[List.getElem_range])
   exact bR rfl (st i hlt U Z hI _ (fun U' Z' h=>⟨rfl,ih (i+1) U' Z' (by lia) h⟩) fun v U' Z' h=>h)
 exact go N 0 U Z rfl h0
end
noncomputable def Dt.tell(d:Dt):Dt:={ d with flag:=true,st:=true }
section
variable {n:Nat} {Q:aP} {Z:H} {A:Nat→Addr} {d:Dt} {s:List (List Int)}
theorem Ty.get_none(p:List Int):∀ {k:Int} {v:V},Ty s k v→cq s k p=none→bG v p=none:=by
 induction p with
 |nil=>intro k v _ e;exact sn e
 |cons i p ih=>
  intro k v h e
  induction h using Ty.casesOn with
  |leaf k t z g _=>
   have:sub (.tup [.int t,.int z]) i=none:=by delta sub;split<;>rfl
   unfold bG;(refine af this ?_;with_reducible rfl)
  |node k r vs g h2 h3=>
   show(match sub (nd k vs) i with | some u=>bG u p | none=>none)=none
   have e:(match aV s k with | some r=>if 0≤i then(match r[i.toNat]? with | some k'=>cq s k' p | none=>none) else none | none=>none)=none:=e
   rw[g] at e
   dsimp only at e
   unfold sub
   by_cases hi:0≤i
   ·rw[aH hi] at e ⊢
    show(match vs[i.toNat]? with | some u=>bG u p | none=>none)=none
    induction gr:r[i.toNat]? using Option.casesOn with
    |none=>(refine af (List.getElem?_eq_none (by rw[h2];exact List.getElem?_eq_none_iff.mp gr)) ?_;with_reducible rfl)
    |some k'=>
     rw[gr] at e
     have hl:i.toNat<vs.length:=h2▸(List.getElem?_eq_some_iff.mp gr).1
     have gv:=List.getElem?_eq_getElem hl
     refine af gv ?_
     exact ih (h3 _ _ _ gr gv) e
   ·(refine af (aE hi) ?_;with_reducible rfl)
theorem Hg(hW:Wd A d Z)(hs:d.st=d.flag)(q:∀ Z',Wd A d.tell Z'→Q (.int (-2)) Z'):a9 (n+1) none 44 [.ref (A 30),.int 4] Q Z:=by
 refine br Ah rfl ?_
 have e:=hW.f 54 rfl
 induction hf:d.st using Bool.casesOn with
 |true=>
  have:d.tell=d:=by skip;rw[hf] at hs;induction d using Dt.casesOn;obtain rfl:=hf;obtain rfl:=hs;rfl
  rw[this] at q
  rw[hf] at e
  exact au (ai (aq (bg rfl e) ao) rfl) (ax aj (q _ hW))
 |false=>
  rw[hf] at e hs
  have o27:=hW.o 27 rfl
  rw[← hs] at o27
  refine aA (ai (aq (bg rfl e) ao) rfl) (av aj (av (fh aj) (au (ai (aq (a8 (vs:=[.ref (A 28)]) (ab (bg rfl (hW.f 5 rfl)) ae) (bK (hW.o 28 rfl))) cu) rfl) ?_)))
  refine bI (bg rfl (hW.f 8 rfl)) o27 (v:=.tup [.int 4,.int 0,.int (-1)]) (aF (ab (ac rfl) (ab (ac rfl) (ab (ac rfl) ae)))) (by decide) ?_
  have W1:Wd A { d with flag:=true } _:=hW.upd (d':={ d with flag:=true }) (i:=27) rfl rfl rfl rfl
  refine aI (qv W1.m) fun fs hm=>?_
  exact iG aj (ac rfl) hm rfl (ay (ax aj (q _ (W1.state hm))))
theorem B0(hW:Wd A d Z)(hd:Ok d){k:Int}(h:aJ d.rows (.int k)=none)(q:∀ Z',bB Z Z'→Q (.tup []) Z'):a9 (n+2) (some 85) 167 [.ref (A 30),.int k] Q Z:=by
 refine br jW rfl (bP (sq (aD (vs:=[.ref (A 30),.int k]) (ab (ac rfl) (ab (ac rfl) ae)) rfl ?_)))
 refine br uB rfl (av (fg (da (bg rfl (hW.f 3 rfl)) (hW.o 22 rfl) (ac rfl) (hd.rwK k)) (by(refine af h ?_;with_reducible rfl))) ?_)
 refine aA (ai (aq (ac rfl) (bC rfl)) rfl) (bP (lC (eC (gy fun a ha=>aU (aF ae) (aU (aF ae) (cM ⟨_,rfl,q _ (bB.refl.set ha)⟩))))))
noncomputable def Dq(s:List (List Int))(k:Int):Prop:=aV s k≠none∨k ∈ plain
theorem tI(h:de s){k k':Int}{r:List Int}(e:aV s k=some r)(hk:k' ∈ r):Dq s k':=by
 rcases(h.row k r e).2.2.2 k' hk with⟨a,b⟩ | a
 ·left;delta aV;(refine af (aH (by have:=(h.row k r e).1;lia)) ?_;refine af (List.getElem?_eq_getElem (by have:=(h.row k r e).1;lia)) ?_);exact fun h=>nomatch h
 ·exact .inr a
theorem tJ(h:de s)(r:Nat):Dq s (bu r):=by
 have l:=h.len.1
 have:bu r=18∨bu r=19:=by delta bu;split<;>decide
 left;delta aV
 refine Or.elim this (fun e=>?_) (fun e=>?_);all_goals clear this<;>refine af e ?_<;>(refine af (aH (by decide)) ?_;refine af (List.getElem?_eq_getElem (by show _<s.length;lia)) ?_)<;>exact fun h=>nomatch h
theorem wu(h:de s){k:Int}(e:Dq s k):∃ m:Nat,k=m∧2≤m∧m<18+s.length:=by
 refine Or.elim e (fun e=>?_) (fun e=>?_)
 ·induction g:aV s k using Option.casesOn with
  |none=>exact absurd g e
  |some r=>have:=(h.row k r g).1;exact⟨k.toNat,by lia,by lia,by lia⟩
 ·have:(2≤k∧k<18):=by unfold plain at e;simp at e;lia
  exact⟨k.toNat,by lia,by lia,by lia⟩
theorem EA(hW:Wd A d Z)(hd:Ok d){r:Nat}(hr:r<8){p:List Int}(hk:cq d.s (bu r) p=none)(q:∀ Z',Wd A d.tell Z'→Q (.int (-1)) Z'):a9 (n+7) none 52 [.ref (A 30),pl p r] Q Z:=by
 refine br uz rfl ?_
 refine o1x2 (qr (p:=p) (Z:=Z) hr) fun l el hl=>?_
 refine aX (aD (vs:=[.ref (A 30),pl p r]) (ab (ac rfl) (ab (ac rfl) ae)) rfl (FN hW hd hr fun Z' x=>?_))
 replace hW:=hW.ext x
 clear x
 refine av (v:=.tup (aN p)) (ah (u:=.tup l) (ac (congrArg some el)) (aB (a8 (vs:=[.tup l]) (ab (ac (congrArg some el)) ae) fun Q q=>q) aj fun Q q=>q) hl) ?_
 refine ch (xs:=aN p) (ac rfl) rfl ?_
 refine(?_:∀ (p1:List Int) (kw:Int) (U:Env) Z',Wd A d Z'→(kw = -1∨Dq d.s kw∧cq d.s kw p1=none)→U 0=some (.ref (A 30))→U 2=some (.int kw)→FL _ _ _ _ _ _ (aN p1) U Z') p _ _ Z' hW (.inr ⟨tJ hd.sh r,hk⟩) rfl rfl
 intro p1
 induction p1 with
 |nil=>
  intro kw U Z' hW e h0 h2
  have e:kw = -1:=e.elim id fun h=>nomatch h.2
  subst e
  refine b9 (aA (ai (aq (ac h2) aW) rfl) (pW (pN (vs:=[.int 4]) (ac h0) hW.m rfl (ab aj ae) ?_)))
  exact br oY rfl (bP (aD (vs:=[.ref (A 30),.int 4]) (ab (ac rfl) (ab (ac rfl) ae)) rfl (Hg hW hd.ss fun Z'' W=>ax (fh aj) (q _ W))))
 |cons i p1 ih=>
  intro kw U Z' hW e h0 h2
  have dead:∀ U' Z'',Wd A d Z''→U' 0=some (.ref (A 30))→U' 2=some (.int (-1))→FL _ _ _ _ _ _ (aN p1) U' Z'':=fun U' Z'' W h0 h2=>ih (-1) U' Z'' W (.inl rfl) h0 h2
  have m1:∀ U:Env,(Ev (a9 (n+6)) U Z' (.neg (.k (.int 1))) (.int (-1))):=fun U=>fh aj
  refine bR rfl ?_
  rcases e with rfl | ⟨hok,e⟩
  ·exact dn (bd (d8 (ai (aq (ac h2) cK) rfl))) (av (m1 _) (ay (ay ⟨rfl,dead _ _ hW h0 rfl⟩)))
  ·refine o1x2 (wu hd.sh hok) fun m e1 q9=>?_;obtain rfl:=e1;refine o0x2 q9 fun m2 mb=>?_;clear q9
   have pos:∀ U':Env,U' 2=some (.int m)→Et (a9 (n+6)) U' Z' (.cmp (.x 2) .GtE (.k (.int 0))) true:=fun U' h=>ai (aq (ac h) cK) (bS (Int.natCast_nonneg _))
   have test:∀ (U':Env) (c:Bool),U' 0=some (.ref (A 30))→U' 2=some (.int m)→Cv (a9 (n+6)) none 13 [.ref (A 39),.int m] Z' (.bool c)→Eb (a9 (n+6)) U' Z' .And [.cmp (.x 2) .GtE (.k (.int 0)),.call (.k (.fn 13)) [.att (.x 0) 150,.x 2]] c:=fun U' c h0 h2 hc=>
    b7 (pos U' h2) (bc (gL (ab (aw (ac h0) (hW.f 1 rfl)) (ab (ac h2) ae)) rfl hc))
   induction g:aV d.s m using Option.casesOn with
   |some row=>
    refine o1x3 (jE hd g) fun m' hm' a1 a2=>?_
    cases Int.ofNat.inj hm'
    have e13:=rM (n:=n+4) hW (k:=m) (by lia) (by lia)
    rw[y8 (d:=d) hd.sh.len.1 a1 a2] at e13
    refine aI (hd.rwD _ _ g) fun ad hrow=>?_
    refine aA (bd (test _ true h0 h2 e13)) ?_
    have e:(if 0≤i then(match row[i.toNat]? with | some k'=>cq d.s k' p1 | none=>none) else none)=none:=by
     have e:(match aV d.s m with | some r=>if 0≤i then(match r[i.toNat]? with | some k'=>cq d.s k' p1 | none=>none) else none | none=>none)=none:=e
     rw[g] at e;exact e
    have call:∀ U':Env,U' 0=some (.ref (A 30))→U' 2=some (.int m)→U' 4=some (.int i)→Es (a9 (n+6)) U' Z' [.mth (.x 0) 167 [.x 2],.x 4] [.tup (aN row),.int i]:=fun U' h0 h2 h4=>
     ab (dq (ac h0) hW.m rfl (ab (ac h2) ae) (yZ hW hd hrow)) (ab (ac h4) ae)
    by_cases hi:0≤i∧i.toNat<row.length
    ·have gr:=List.getElem?_eq_getElem hi.2
     (rewrite[aH hi.1] at e;rw[gr] at e)
     exact av (az (call _ h0 h2 rfl) rfl (Cy (v:=.int row[i.toNat]) hi.1 (cA gr))) (ay (ay ⟨rfl,ih _ _ _ hW (.inr ⟨tI hd.sh g (List.mem_of_getElem? gr),e⟩) h0 rfl⟩))
    ·exact av (az (call _ h0 h2 rfl) rfl (Cx (by refine af bA ?_;lia))) (ay (ay ⟨rfl,dead _ _ hW h0 rfl⟩))
   |none=>
    have hp:(m:Int) ∈ plain:=hok.elim (fun h=>absurd g h) id
    by_cases sg:m=12
    ·subst sg
     have e13:=rM (n:=n+4) hW (k:=12) (by decide) (by lia)
     exact dn (bd (test _ false h0 h2 e13)) (av (m1 _) (ay (ay ⟨rfl,dead _ _ hW h0 rfl⟩)))
    ·have e13:Cv (a9 (n+6)) none 13 [.ref (A 39),.int m] Z' (.bool true):=by
      by_cases E5:m=16
      ·refine af E5 ?_;exact rM (n:=n+4) hW (k:=16) (by decide) (by lia)
      ·exact ET (by lia) (by delta plain at hp;simp at hp;lia)
     refine aA (bd (test _ true h0 h2 e13)) (aX (cF rfl (eC (pN (vs:=[.int m]) (ac h0) hW.m rfl (ab (ac h2) ae) (B0 hW hd (hd.rwN m (by delta plain at hp;simp at hp;lia)) fun Z'' x=>aU (ac rfl) (cM ((Cx (l:=[]) (by have:=Int.lt_or_le i 0;exact this)).go _ (ay (ay ⟨rfl,dead _ _ (hW.ext x) h0 rfl⟩)))))))))
end
theorem dt{C:aO}{U:Env}{Z:H}{e:E}{p:List Int}(h:Ev C U Z e (.tup (aN p))):Ev C U Z (.call (.k (.bi 0)) [e]) (.int p.length):=
 a8 (ab h ae) fun Q q=>by rw[← bA] at q;exact q
theorem d5{C:aO}{U:Env}{Z:H}{e:E}{a:Addr}{l:List V}(h:Ev C U Z e (.ref a))(g:Z a=some (.list l)):Ev C U Z (.call (.k (.bi 0)) [e]) (.int l.length):=
 a8 (ab h ae) (bK g)
noncomputable def i7(d d':Dt):Prop:=d'.s=d.s∧d'.nums=d.nums∧d'.cs=d.cs
theorem i7.trans{a b c:Dt}(x:i7 a b)(y:i7 b c):i7 a c:=⟨y.1.trans x.1,y.2.1.trans x.2.1,y.2.2.trans x.2.2⟩
theorem i7.nx{d d':Dt}(h:i7 d d'):Nx d d':=⟨h.1,h.2.1,by refine af h.2.2 ?_;exact Nat.le_succ _⟩
section
variable {n:Nat} {Q:aP} {Z:H} {A:Nat→Addr} {d:Dt}
theorem G6(hW:Wd A d Z)(hd:Ok d){r:Nat}(hr:r<8){p:List Int}(hk:cq d.s (bu r) p=none)(q:∀ d' Z',Wd A d' Z'→Ok d'→i7 d d'→Q (.bool true) Z'):a9 (n+8) none 64 [.ref (A 2),pl p r] Q Z:=by
 have hg:=(hd.ty r hr).get_none p hk
 have e39:Cv (a9 (n+7)) none 39 [.ref (A 31),pl p r] Z .none:=by
  have:=Du (n:=n+3) (p:=p) hW hr (hd.ty r hr)
  rw[hg] at this;exact this
 refine br zX rfl (dL (mN (kI (ai (aq (az (vs:=[.ref (A 31),pl p r]) (ab (aw (ah (ac rfl) aj (aG (hW.o 2 rfl) rfl rfl)) (hW.f 9 rfl)) (ab (ac rfl) ae)) rfl e39) (eO rfl)) rfl) ⟨fun h=>(nomatch h),fun za=>f7 (eP (aD (vs:=[.ref (A 30),pl p r]) (ab (ah (ac rfl) aj (aG (hW.o 2 rfl) rfl rfl)) (ab (ac rfl) ae)) rfl (EA hW hd hr hk fun Z1 W1=>bk (fh aj) ⟨_,cB,fun h=>(nomatch h),fun za=>ay ?_⟩)))⟩)))
 refine jD (bz (vs:=[.int 4]) (ab aj ae) fun y hy=>?_)
 have x2:bB Z1 (Z1.set y (.list [.int 4])):=bB.refl.set hy
 have W2:=W1.ext x2
 refine bk (ac rfl) (bk aj ⟨_,bp (W2.o 2 rfl) rfl (show 13<bM by decide),?_⟩)
 have ny:∀ i,i<29→y≠A i:=fun i hi e=>by
  have:=W1.o i (List.getElem?_eq_getElem (l:=objs A d.tell) hi)
  (rewrite[← e] at this;rw[hy] at this);exact ns this
 have W3:Wd A { d.tell with wa:=y,wf:=true } _:=W2.offW (d':={ d.tell with wa:=y,wf:=true }) (i:=2) rfl rfl rfl rfl bB.refl.off.set aC ⟨bw (ny 2 (by decide)) aC,ny⟩
 have hd3:Ok { d.tell with wa:=y,wf:=true }:={ hd with ww:=rfl,ss:=rfl }
 have e40:=ED (n:=n+3) (x:=.tup [.int 1,.int 5]) W3 hd3 hr hg
 refine av (az (vs:=[.ref (A 31),pl p r,.tup [.int 1,.int 5]]) (ab (aw (ah (ac rfl) aj (aG (W3.o 2 rfl) rfl rfl)) (W3.f 9 rfl)) (ab (ac rfl) (ab (aF (ab aj (ab aj ae))) ae))) rfl e40) ?_
 exact ax (nW (b7 (ue (vs:=[.bool false,.bi 6]) (ab (ac rfl) (ab aj ae)) fun Q q=>⟨_,rfl,q⟩) (bc (uc (CA rfl))))) (q _ _ W3 hd3 ⟨rfl,rfl,rfl⟩)
theorem nG{s:List (List Int)}{k i:Int}{p q:List Int}{K:Int}(h:cq s K p=some k)(hi:i<0∨(∀ r,aV s k=some r→(r.length:Int)≤i)):cq s K (p++i::q)=none:=by
 refine ak (cX _ _ h) ?_
 show(match aV s k with | some r=>if 0≤i then(match r[i.toNat]? with | some k'=>cq s k' q | none=>none) else none | none=>none)=none
 induction g:aV s k using Option.casesOn with
 |none=>rfl
 |some r=>
  dsimp only
  by_cases h0:0≤i
  ·refine ak (aH h0) ?_
   refine Or.elim hi (fun hi=>?_) (fun hi=>?_)
   ·omega
   ·(refine af (List.getElem?_eq_none (by have:=hi r g;omega)) ?_;with_reducible rfl)
  ·(refine ak (aE h0) ?_;with_reducible rfl)
theorem FH(hW:Wd A d Z)(hd:Ok d){r:Nat}(hr:r<8){p:List Int}{k z:Int}(hk:cq d.s (bu r) p=some k)(q:∀ d' Z',Wd A d' Z'→Ok d'→i7 d d'→Q (.bool true) Z'):a9 (n+9) none 65 [.ref (A 2),.int r,.tup (aN p),.int z] Q Z:=by
 have p7:=cW hd.sh hk
 refine br zW rfl (av (ah (ah (ac rfl) aj (aG (hW.o 2 rfl) rfl rfl)) (ac rfl) (d4 hr)) ?_)
 refine ch (v:=.rng ((p.length+1:Nat):Int)) (a8 (vs:=[.int ((p.length+1:Nat):Int)]) (ab (aB (u:=.int p.length) (dt (ac rfl)) aj fun Q q=>q) ae) fun Q q=>⟨_,rfl,⟨by omega,by omega⟩,q⟩) rfl ?_
 refine g7 (N:=p.length+1) (fun i U Z'=>∃ d',Wd A d' Z'∧Ok d'∧i7 d d'∧U 0=some (.ref (A 2))∧U 1=some (.int r)∧U 2=some (.tup (aN p))∧U 3=some (.int z)∧∃ k',U 4=some (.int k')∧(i≤p.length→cq d.s (bu r) (p.take i)=some k')) ?_ ⟨d,hW,hd,⟨rfl,rfl,rfl⟩,rfl,rfl,rfl,rfl,_,rfl,fun za=>rfl⟩ fun U Z' ⟨d',W',o',k',_⟩=>ax aj (q d' Z' W' o' k')
 rintro i hi U Z' ⟨d',W',o',kp,h0,h1,h2,h3,k',h4,hk'⟩ R hR hv
 have hk':=hk' (by omega)
 have e1:(U.set 5 (.int i)) 0=some (.ref (A 2)):=h0
 have main:∀ (U':Env) (y:Int),U' 0=some (.ref (A 2))→U' 1=some (.int r)→U' 2=some (.tup (aN p))→U' 3=some (.int z)→U' 4=some (.int k')→U' 5=some (.int i)→U' 6=some (.int y)→(y<0∨(∀ r,aV d.s k'=some r→(r.length:Int)≤y))→
   SS (a9 (n+8)) (match FY.body with | [_,.for_ _ _ (_::_::b),_]=>b | _=>[]) U' R Z':=by
  intro U' y h0 h1 h2 h3 h4 h5 h6 hy
  have el:(p.take i++[y]++p.drop (i+1))=p.take i++y::p.drop (i+1):=by rw[List.append_assoc];rfl
  have bad:=nG (q:=p.drop (i+1)) hk' hy
  (rewrite[← el] at bad;rw[← kp.1] at bad)
  refine dL (iz (eH (aD (vs:=[.ref (A 2),pl (p.take i++[y]++p.drop (i+1)) r]) (ab (ac h0) (ab (az (vs:=[.ref (A 2),.int r,.tup (aN (p.take i++[y]++p.drop (i+1)))]) (ab (ac h0) (ab (ac h1) (ab (aB (aB (mi (ac h2) (ac h5) ⟨by omega,by omega⟩) (aF (ab (ac h6) ae)) fun Q q=>⟨?_,q⟩) (mh (ac h2) (aB (w:=.int ((i+1:Nat):Int)) (ac h5) aj fun Q q=>q) ⟨by omega,by omega⟩) fun Q q=>⟨?_,?_⟩) ae))) rfl (zx W' hr ?_)) ae)) rfl (G6 W' o' hr bad fun d'' Z'' W'' o'' k''=>?_))))
  ·(refine af List.length_take ?_;refine af bA ?_);show _+1≤bM;delta bM;omega
  ·(refine af List.length_append ?_;refine af List.length_take ?_;refine af List.length_drop ?_;refine af bA ?_);show _+1+_≤bM;delta bM;omega
  ·unfold aN at q ⊢
   (rewrite[List.map_append] at q;rewrite[List.map_append] at q;rewrite[List.map_take] at q;rw[List.map_drop] at q)
   (rewrite[Int.toNat_natCast];rw[Int.toNat_natCast]);exact q
  ·(refine af List.length_append ?_;refine af List.length_append ?_;refine af List.length_take ?_;refine af List.length_drop ?_);show _+1+_≤1000;omega
  ·refine⟨fun h=>(nomatch h),fun za=>ay ?_⟩
   have keep:=kp.trans k''
   by_cases hl:i<p.length
   ·have gp:=List.getElem?_eq_getElem hl
    have sp:p.take i++p[i]::p.drop (i+1)=p:=by(rewrite[← List.drop_eq_getElem_cons];rw[List.take_append_drop])
    have sp':p.take i++[p[i]]=p.take (i+1):=List.take_append_getElem hl
    (rewrite[← sp] at hk;rw[cX _ _ hk'] at hk)
    refine o2x4 (cH hk) fun row k₁ g a b c=>?_
    have gd:aJ d''.sh (.int k')=some (.tup (aN row)):=by(rewrite[o''.shD];refine af keep.1 ?_;refine af g ?_);rfl
    refine aA (ai (aM (ac h5) (dt (ac h2)) aW) (bS (by omega))) ?_
    refine av (v:=.int k₁) (ah (ah (ah (ac h0) aj W''.mw.i4) (ac h4) (aG W''.mw.hb (o''.shK _) gd)) (ah (v:=.int p[i]) (ac h2) (ac h5) (bQ (Int.natCast_nonneg _) (by rw[Int.toNat_natCast];exact cA gp))) (bQ a (cA b))) (ay (ay (hR _ _ ⟨d'',W'',o'',keep,h0,h1,h2,h3,k₁,rfl,fun za=>?_⟩)))
    (refine bt sp' ?_;refine ak (cX _ _ hk') ?_)
    show(match aV d.s k' with | some r=>if 0≤p[i] then(match r[p[i].toNat]? with | some k'=>cq d.s k' [] | none=>none) else none | none=>none)=_
    refine af g ?_;skip;(refine ak (aH a) ?_;refine af b ?_);rfl
   ·refine au (ai (aM (ac h5) (dt (ac h2)) aW) (bH (by omega))) (ay (hR _ _ ⟨d'',W'',o'',keep,h0,h1,h2,h3,k',h4,fun h=>by omega⟩))
 refine av (fh aj) ?_
 have tst:Ev (a9 (n+8)) ((U.set 5 (.int i)).set 6 (.int (-1))) Z' (.bin .Mod (.bin .Add (.x 3) (.x 5)) (.k (.int 2))) (.int ((z+i) % 2)):=aB (aB (u:=.int z) (v:=.int i) (w:=.int (z+i)) (ac h3) (ac rfl) fun Q q=>q) aj fun Q q=>⟨by decide,q⟩
 by_cases hz:(z+i) % 2=1
 ·refine aA (ai (aq tst ao) (bS hz)) ?_
  induction g:aV d.s k' using Option.casesOn with
  |none=>
   have gd:(aJ d'.sh (.int k')).getD (.tup [])=.tup (aN []):=by(rewrite[o'.shD];refine af kp.1 ?_;refine af g ?_);rfl
   refine av (v:=.int 0) (dt (p:=[]) (fg (gK (ah (ac h0) aj W'.mw.i4) W'.mw.hb (ac h4) (aF ae) (o'.shK _)) gd)) (ay (main _ 0 h0 h1 h2 h3 h4 rfl rfl (.inr fun r h=>by rw[g] at h;exact ns h)))
  |some row=>
   have gd:(aJ d'.sh (.int k')).getD (.tup [])=.tup (aN row):=by(rewrite[o'.shD];refine af kp.1 ?_;refine af g ?_);rfl
   refine av (v:=.int row.length) (dt (fg (gK (ah (ac h0) aj W'.mw.i4) W'.mw.hb (ac h4) (aF ae) (o'.shK _)) gd)) (ay (main _ _ h0 h1 h2 h3 h4 rfl rfl (.inr fun r h=>by rw[g] at h;refine af (aQ h) ?_;exact Int.le_refl _)))
 ·exact au (ai (aq tst ao) (bH hz)) (main _ (-1) h0 h1 h2 h3 h4 rfl rfl (.inl (by decide)))
end
theorem hK{K:aO}{U:Env}{Z:H}{Q:bL}{i j:Nat}{e:E}{r:List C}(h:WE K e U (fun v Z'=>∃ U',cN [i,j] v U=some U'∧SS K r U' Q Z') Z):SS K (.set (.v2 i j) e::r) U Q Z:=by
 simp only[fT,mY] at *;exact h
theorem bB.fresh{Z Z':H}{a:Addr}(x:bB Z Z')(h:Z' a=none):Z a=none:=by
 induction g:Z a using Option.casesOn with
 |none=>rfl
 |some o=>rw[x _ _ g] at h;exact sn h
section
variable {n:Nat} {Q:aP} {Z:H} {A:Nat→Addr} {d:Dt} {s:List (List Int)}
theorem G5(hs:de s){k:Int}{x:V}(p:List Int):∀ (m:Nat) {K:Int} {v:V} {Z:H} {Q:aP},p.length≤m→Ty s K v→cq s K p=some k→(∀ Z',bB Z Z'→Q (cO v p x) Z')→a9 (m+1) none 66 [v,.tup (aN p),x] Q Z:=by
 induction p with
 |nil=>
  intro m K v Z Q hm hv hk q
  exact br uw rfl (aA (ai (aq (dt (p:=[]) (ac rfl)) ao) rfl) (ax (ac rfl) (q Z bB.refl)))
 |cons i p ih=>
  intro m K v Z Q hm hv hk q
  refine aI ((⟨m - 1,by rw[List.length_cons] at hm;lia⟩:∃ j,m=j+1)) fun m e1=>?_;obtain rfl:=e1
  refine o5x2 (qt hv hk) fun u k₁ a b vs e5 q9=>?_;obtain rfl:=e5;refine o0x5 q9 fun hi e3 e4 ht hk1=>?_;clear q9
  have hl:=(List.getElem?_eq_some_iff.mp e3).1
  refine br uw rfl (au (ai (aq (dt (p:=i::p) (ac rfl)) ao) (bH (by refine af List.length_cons ?_;lia))) ?_)
  refine aX (jB (aU (aR rfl rfl) (cM ⟨vs,rfl,fun y hy=>?_⟩)))
  have x1:bB Z (Z.set y (.list vs)):=bB.refl.set hy
  refine jD (aD (vs:=[u,.tup (aN p),x]) (ab (ah (ac rfl) (aR (v:=.int i) rfl rfl) (aK aC hi e3)) (ab (mh (l:=aN (i::p)) (ac rfl) aj ⟨by decide,by decide⟩) (ab (ac rfl) ae))) rfl (ih m (Nat.le_of_succ_le_succ hm) ht hk1 fun Z2 x2=>?_))
  refine bk (ac rfl) (bk (aR (v:=.int i) rfl rfl) ⟨_,fP (x2 _ _ aC) ⟨hi,by lia⟩,?_⟩)
  refine ax (v:=.tup [.int 5,b,.tup (vs.set i.toNat (cO u p x))]) (aF (ab aj (ab (aR rfl rfl) (ab (a8 (vs:=[.ref y]) (ab (ac rfl) ae) fun Q q=>⟨_,aC,q⟩) ae)))) ?_
  have e:cO (.tup [a,b,.tup vs]) (i::p) x=.tup [.int 5,b,.tup (vs.set i.toNat (cO u p x))]:=eM e4
  refine bt e ?_
  exact q _ ((x1.trans x2).set hy)
theorem dU{k:Int}{y:Addr}(h:Z y=some (.list ((W s k).map eu))){i:Nat}(hi:(i:Int)<((W s k).map eu).length)(hs:de s):∃ w k',cq s k w=some k'∧bE Z (.ref y) (.int i)=some (eu (w,k')):=by
 have hl:i<(W s k).length:=by rw[List.length_map] at hi;lia
 have g:=List.getElem?_eq_getElem hl
 exact⟨(W s k)[i].1,(W s k)[i].2,(fX hs k _).mp (List.getElem_mem hl),aK h (Int.natCast_nonneg _) (by(rewrite[Int.toNat_natCast];refine ak (List.getElem?_map) ?_;refine af g ?_);rfl)⟩
theorem pK{k:Int}:(0:Int)<((W s k).map eu).length:=by rw[List.length_map];have:=uQ (s:=s) (k:=k);lia
theorem nq{k:Int}{y:Addr}(h:Z y=some (.list ((W s k).map eu))){i:Nat}(hi:(i:Int)<((W s k).map eu).length)(hs:de s):∃ w k',cq s k w=some k'∧bE Z (.ref y) (.int (((W s k).map eu).length - 1 - i))=some (eu (w,k')):=by
 have:=dU h (i:=((W s k).map eu).length - 1 - i) (by lia) hs
 rw[show(((((W s k).map eu).length - 1 - i:Nat)):Int)=((W s k).map eu).length - 1 - i by lia] at this
 exact this
theorem G4(hW:Wd A d Z)(hd:Ok d){r:Nat}(hr:r<8){p:List Int}{k:Int}(hk:cq d.s (bu r) p=some k)(q:∀ d' Z',Wd A d' Z'→Ok d'→i7 d d'→Q (.bool true) Z'):a9 (n+9) none 67 [.ref (A 2),.ref (A 0),.int r,.tup (aN p),.int k] Q Z:=by
 have p7:=cW hd.sh hk
 have hv:=hd.ty r hr
 refine o1x2 (hv.get p hk) fun u hu tu=>?_
 have cell:∀ w k',cq d.s k w=some k'→aV d.s k'=none→aJ d.es (ck r (p++w))=bG u w:=fun w k' h g=>by
  (refine ak (hd.cell r hr _ _ ((cX w p hk).trans h) g) ?_;(refine ak (ik p hu) ?_;with_reducible rfl))
 have e39:Cv (a9 (n+8)) none 39 [.ref (A 31),pl p r] Z u:=by
  have:=Du (n:=n+4) (p:=p) hW hr hv
  rw[hu] at this;exact this
 refine br zV rfl (av (az (vs:=[.ref (A 31),pl p r]) (ab (aw (ah (ac rfl) aj (aG (hW.o 2 rfl) rfl rfl)) (hW.f 9 rfl)) (ab (az (vs:=[.ref (A 2),.int r,.tup (aN p)]) (ab (ac rfl) (ab (ac rfl) (ab (ac rfl) ae))) rfl (zx hW hr (by lia))) ae)) rfl e39) ?_)
 refine aX (aD (vs:=[.ref (A 2),.int k]) (ab (ac rfl) (ab (ac rfl) ae)) rfl (zy hW.mw hd.ms fun y Z1 x1 hy=>?_))
 have W1:=hW.ext x1
 refine hK (gx (bk (ac rfl) (iB (bk (aB (u:=.int ((W d.s k).map eu).length) (d5 (ac rfl) hy) aj fun Q q=>q) (aD (vs:=[.ref (A 0),.int ((W d.s k).map eu).length]) (ab (ac rfl) (ab (d5 (ac rfl) hy) ae)) rfl (iV W1 pK fun i hi Z2 W2 o2=>?_))))))
 have hy2:Z2 y=some (.list ((W d.s k).map eu)):=o2 _ _ (fun e=>by(rewrite[e] at hy;rw[W1.o 0 rfl] at hy);cases hy) hy
 refine o2x2 (nq hy2 hi hd.sh) fun w k' hw iw=>?_
 refine⟨_,iw,_,rfl,?_⟩
 refine o1x2 (tu.get w hw) fun t ht tt=>?_
 have w7:=cW hd.sh hw
 have e16:Cv (a9 (n+8)) none 16 [u,.tup (aN w)] Z2 t:=by
  have:=Bi (n:=n+7) (Z:=Z2) tu w
  rw[ht] at this;exact this
 have pt:=tt.pv hd.sh
 refine dL (eP (bk (az (vs:=[u,.tup (aN w)]) (ab (ac rfl) (ab (ac rfl) ae)) rfl e16) (aD (vs:=[.ref (A 2),.int r,.tup (aN (p++w)),.int k']) (ab (ac rfl) (ab (ac rfl) (ab (aB (ac rfl) (ac rfl) fun Q q=>⟨?_,by rw[cY] at q;exact q⟩) (ab (ac rfl) ae)))) rfl (Ds hd.ms k' (n+7) r (p++w) t Z2 _ (Nat.le_trans (eV hd.sh k') (by lia)) (by have:=eV hd.sh k';refine af List.length_append ?_;lia) W2.mw hd.esK tt (fun w' k'' h g=>?_) fun Z3 x3=>⟨_,pA (by refine af pt ?_;rfl),?_⟩))))
 ·(refine af bA ?_;refine af bA ?_);show p.length+w.length≤bM;unfold bM;lia
 ·rw[List.append_assoc]
  exact(cell _ _ ((cX w' w hw).trans h) g).trans (ik w ht)
 refine af (dz 30 t pt) ?_
 refine⟨fun h=>(nomatch h),fun za=>ay ?_⟩
 have W3:=W2.ext x3
 have e16n:∀ y:Int,(y<0∨∀ r,aV d.s k'=some r→(r.length:Int)≤y)→Cv (a9 (n+8)) none 16 [u,.tup (aN (w++[y]))] Z3 .none:=fun y hy=>by
  have:=Bi (n:=n+7) (Z:=Z3) tu (w++[y])
  rw[tu.get_none _ (nG hw hy)] at this;exact this
 have gd:(aJ d.dr.sh (.int k')).getD (.tup [])=.tup (aN ((aV d.s k').getD [])):=by
  show(aJ d.sh (.int k')).getD (.tup [])=_
  rw[hd.shD];induction aV d.s k' using Option.casesOn<;>rfl
 refine au (ai (aq (az (vs:=[u,.tup (aN (w++[(((aV d.s k').getD []).length:Int)]))]) (ab (ac rfl) (ab (aB (ac rfl) (aF (ab (dt (fg (gK (ah (ac rfl) aj W3.mw.i4) W3.mw.hb (ac rfl) (aF ae) (hd.shK _)) gd)) ae)) fun Q q=>⟨?_,by rw[cY] at q;exact q⟩) ae)) rfl (e16n _ (.inr fun r h=>by refine af h ?_;exact Int.le_refl _))) (eO rfl)) rfl) ?_
 ·refine af bA ?_;show w.length+1≤bM;unfold bM;lia
 refine aX (cF rfl (aU (ac rfl) (aU (ac rfl) (bO (aD (vs:=[.ref (A 0),.int 997]) (ab (ac rfl) (ab aj ae)) rfl (iV W3 (by decide) fun z hz Z4 W4 o4=>?_))))))
 refine Ez hd.ms k' (n+7) z Z4 _ (Nat.le_trans (eV hd.sh k') (by lia)) W4.mw fun x Z5 tx x5=>?_
 have W5:=W4.ext x5
 have pp:=(tx.put w tu hw).pv hd.sh
 refine dL (eP (aD (vs:=[u,.tup (aN w),x]) (ab (ac rfl) (ab (ac rfl) (ab (ac rfl) ae))) rfl (ER hd.sh tu hw (by lia) fun Z6 x6=>aD (vs:=[u,.tup (aN w),x]) (ab (ac rfl) (ab (ac rfl) (ab (ac rfl) ae))) rfl (G5 hd.sh w (n+7) (by lia) tu hw fun Z7 x7=>⟨_,pA (by refine af pp ?_;rfl),?_⟩))))
 refine af (dz 30 _ pp) ?_
 refine⟨fun h=>(nomatch h),fun za=>ay ?_⟩
 have W7:=W5.ext (x6.trans x7)
 have pu:=tu.pv hd.sh
 refine bP (oJ (bk (ac rfl) (aD (vs:=[.ref (A 2),.int r,.tup (aN p),.int k]) (ab (ac rfl) (ab (ac rfl) (ab (ac rfl) (ab (ac rfl) ae)))) rfl (Ds hd.ms k (n+7) r p u Z7 _ (Nat.le_trans (eV hd.sh k) (by lia)) (by have:=eV hd.sh k;lia) W7.mw hd.esK tu cell fun Z8 x8=>⟨_,pB (by refine af pu ?_;rfl),?_⟩))))
 refine af (dz 30 u pu) ?_
 exact q _ Z8 (W7.ext x8) hd.dr.dr ⟨rfl,rfl,rfl⟩
end
theorem oL{q:List Int}{x:Int}(h:x≠0):dD (q++[x])=q++[x]:=by
 delta dD
 refine af List.reverse_append ?_
 show((x::q.reverse).dropWhile (· == 0)).reverse=_
 (refine af (List.dropWhile_cons_of_neg (by simpa using h)) ?_;refine ak (List.reverse_cons) ?_;rw[List.reverse_reverse])
noncomputable def tg:Nat→Int×Int×Int
 |0=>(1,7,0) | 1=>(2,7,0) | 2=>(4,17,1) | 3=>(3,19,0) | 4=>(3,22,0) | 5=>(3,23,0) | 6=>(3,26,0) | _=>(1,9,-1)
noncomputable def xA:V→Int×Int×Int
 |.tup [.int k,.int h,.int i,_]=>(k,h,i)
 |.tup [.int k,.int w,_]=>(k,w,0)
 |_=>(0,0,0)
noncomputable def s8:V→V
 |.tup [_,_,_,p]=>p
 |.tup [_,_,p]=>p
 |_=>.none
theorem yF{p q:List Int}{r r':Nat}(hr:r<8)(hr':r'<8)(h:pl p r=pl q r'):r=r'∧p=q:=by
 have t:∀ {p:List Int} {r:Nat},r<8→xA (pl p r)=tg r∧s8 (pl p r)=.tup (aN p):=fun{p r} hr=>fH (P:=fun r=>xA (pl p r)=tg r∧s8 (pl p r)=.tup (aN p)) ⟨rfl,rfl⟩ ⟨rfl,rfl⟩ ⟨rfl,rfl⟩ ⟨rfl,rfl⟩ ⟨rfl,rfl⟩ ⟨rfl,rfl⟩ ⟨rfl,rfl⟩ ⟨rfl,rfl⟩ hr
 refine o0x2 (t (p:=p) hr) fun a1 a2=>?_
 refine o0x2 (t (p:=q) hr') fun b1 b2=>?_
 rw[h] at a1 a2
 have inj:∀ a b:Fin 8,tg a=tg b→a=b:=by decide
 exact⟨congrArg Fin.val (inj ⟨r,hr⟩ ⟨r',hr'⟩ (a1.symm.trans b1)),lY (V.tup.inj (a2.symm.trans b2))⟩
theorem jP(b:Nat)(p:List Int):pv (b+1) (.tup (aN p))=true:=jO fun x hx=>by
 refine o1x2 (List.mem_map.mp hx) fun i za e2=>?_;refine bt e2 ?_
 exact gY _ _
theorem oS{p:List Int}{r:Nat}(hr:r<8):pv 30 (pl p r)=true:=by
 have o:∀ k h i,pv 30 (oB k h i p)=true:=fun k h i=>by
  show(true && (true && (true && (pv 29 (.tup (aN p)) && true))))=true
  rw[jP];rfl
 have w:∀ w,pv 30 (u9 w p)=true:=fun w=>by
  show(true && (true && (pv 29 (.tup (aN p)) && true)))=true
  rw[jP];rfl
 exact fH (P:=fun r=>pv 30 (pl p r)=true) (o _ _ _) (o _ _ _) (o _ _ _) (w _) (w _) (w _) (w _) (o _ _ _) hr
section
variable {n:Nat} {Q:aP} {Z:H} {A:Nat→Addr} {d:Dt} {s:List (List Int)} {a b c e:Addr} {sh sp es:List (V×V)}
theorem FP{p:List Int}{r:Nat}(hr:r<8)(hp:p.length≤1000):Cv (a9 (n+2)) none 41 [pl p r] Z (pl (dD p) r):=by
 refine bj Aj rfl fun P q=>(av (az (vs:=[pl p r]) (ab (ac rfl) ae) rfl js) (av (dt (ac rfl)) (gQ (n:=p.length+1) ?_)))
 refine(?_:∀ (m:Nat) (U:Env),m≤p.length→dD p=dD (p.take m)→U 0=some (pl p r)→U 1=some (.tup (aN p))→U 2=some (.int m)→WL _ _ _ _ (m+1) U Z) p.length _ (Nat.le_refl _) (by(refine af List.take_length ?_;with_reducible rfl)) rfl rfl rfl
 have fin:∀ (m:Nat) (U:Env),m≤p.length→dD p=p.take m→U 0=some (pl p r)→U 1=some (.tup (aN p))→U 2=some (.int m)→SS (a9 (n+1)) (match F1.body with | _::_::_::l=>l | _=>[]) U (fy P) Z:=by
  intro m U hm e h0 h1 h2
  have ev:Ev (a9 (n+1)) U Z (.slcH (.x 1) (.x 2)) (.tup (aN (dD p))):=fg (mi (ac h1) (ac h2) ⟨by omega,by omega⟩) (by refine af e ?_;delta aN;refine af List.map_take ?_;rfl)
  refine Or.elim (td hr) (fun h=>?_) (fun h=>?_)
  ·rw[(qg h p).1] at h0
   rw[(qg h _).1] at q
   exact aA (ai (aq (aR h0 rfl) ao) rfl) (ax (aF (ab aj (ab (aR h0 rfl) (ab ev ae)))) q)
  ·rcases h with rfl | rfl | rfl | rfl
   ·exact au (ai (aq (aR h0 rfl) ao) rfl) (ax (aF (ab (aR h0 rfl) (ab (aR h0 rfl) (ab (aR h0 rfl) (ab ev ae))))) q)
   ·exact au (ai (aq (aR h0 rfl) ao) rfl) (ax (aF (ab (aR h0 rfl) (ab (aR h0 rfl) (ab (aR h0 rfl) (ab ev ae))))) q)
   ·exact au (ai (aq (aR h0 rfl) ao) rfl) (ax (aF (ab (aR h0 rfl) (ab (aR h0 rfl) (ab (aR h0 rfl) (ab ev ae))))) q)
   ·exact au (ai (aq (aR h0 rfl) ao) rfl) (ax (aF (ab (aR h0 rfl) (ab (aR h0 rfl) (ab (aR h0 rfl) (ab ev ae))))) q)
 intro m
 induction m with
 |zero=>intro U _ e h0 h1 h2;exact eA (bd (d8 (ai (aq (ac h2) cu) rfl))) (fin 0 U (Nat.zero_le _) e h0 h1 h2)
 |succ m ih=>
  intro U hm e h0 h1 h2
  have gp:=List.getElem?_eq_getElem hm
  have ee:=List.take_append_getElem hm
  have t1:Et (a9 (n+1)) U Z (.cmp (.x 2) .Gt (.k (.int 0))) true:=ai (aq (ac h2) cu) (bS (by omega))
  have em:((m+1:Nat):Int) - 1=(m:Int):=by omega
  have ev:Ev (a9 (n+1)) U Z (.idx (.x 1) (.bin .Sub (.x 2) (.k (.int 1)))) (.int p[m]):=ah (v:=.int p[m]) (ac h1) (aB (u:=.int ((m+1:Nat):Int)) (w:=.int m) (ac h2) aj fun Q q=>by rw[← em] at q;exact q) (bQ (Int.natCast_nonneg _) (by rw[Int.toNat_natCast];exact cA gp))
  by_cases h:p[m]=0
  ·refine cL (bd (b7 t1 (bc (ai (aq ev ao) (bS h))))) (jG (d:=m) h2 aj (by refine bt em ?_;rfl) (ay (gX (ih _ (Nat.le_of_succ_le hm) ?_ h0 h1 rfl))))
   (refine ak (e) ?_;refine bt ee ?_;refine af h ?_);exact gA _ 1
  ·refine eA (bd (b7 t1 (bc (ai (aq ev ao) (bH h))))) (fin _ U hm ?_ h0 h1 h2)
   (refine ak (e) ?_;refine bt ee ?_;(refine ak (oL h) ?_;with_reducible rfl))
theorem pS{u v:V}(h:dJ u u=true):dJ u v=true↔u=v:=⟨dX _ _,fun e=>e▸h⟩
theorem Hh{p p':List Int}{r r':Nat}(hr:r<8)(hr':r'<8)(hp:p.length≤1000)(hp':p'.length≤1000):Cv (a9 (n+3)) none 42 [pl p r,pl p' r'] Z (.bool (decide (r=r'∧dD p=dD p'))):=by
 refine bj Ai rfl fun P q=>ax (fg (j7 (az (vs:=[pl p r]) (ab (ac rfl) ae) rfl (FP hr hp)) (az (vs:=[pl p' r']) (ab (ac rfl) ae) rfl (FP hr' hp')) (pB (by(refine af (oS hr) ?_;refine ak (oS hr') ?_);rfl))) ?_) q
 refine congrArg V.bool (Bool.eq_iff_iff.mpr ?_)
 (rewrite[pS (dz 30 _ (oS hr))];rw[decide_eq_true_iff])
 exact⟨yF hr hr',fun⟨e1,e2⟩=>by(refine af e1 ?_;(refine af e2 ?_;with_reducible rfl))⟩
theorem FG(T:Ms s sh sp)(k:Int):∃ m k',cq s k (i8 m)=some k'∧aV s k'=none∧∀ (M:Mw s a b c e sh sp es Z) (p:List Int),p.length≤100→Cv (a9 (n+1)) none 69 [.ref a,.tup (aN p),.int k] Z (.tup (aN (p++i8 m))):=by
 have go:∃ m k',cq s k (i8 m)=some k'∧aV s k'=none∧∀ (M:Mw s a b c e sh sp es Z) (P:bL) (p:List Int) (U:Env),p.length+rk s k≤200→U 0=some (.ref a)→U 1=some (.tup (aN p))→U 2=some (.int k)→(∀ U',U' 1=some (.tup (aN (p++i8 m)))→P .next U' Z)→
   WL (a9 n) (match CO.body with | .wh t _::_=>t | _=>.bad) (match CO.body with | .wh _ b::_=>b | _=>[]) P (m+1) U Z:=by
  refine ie T.ok (P:=fun k=>∃ m k',cq s k (i8 m)=some k'∧aV s k'=none∧∀ (M:Mw s a b c e sh sp es Z) (P:bL) (p:List Int) (U:Env),p.length+rk s k≤200→U 0=some (.ref a)→U 1=some (.tup (aN p))→U 2=some (.int k)→(∀ U',U' 1=some (.tup (aN (p++i8 m)))→P .next U' Z)→
   WL (a9 n) (match CO.body with | .wh t _::_=>t | _=>.bad) (match CO.body with | .wh _ b::_=>b | _=>[]) P (m+1) U Z) (fun k g=>⟨0,k,rfl,g,fun M P p U za h0 h1 h2 q=>?_⟩) (fun k r g ih=>?_) k
  ·have k1:=ke (Z:=Z) M.hb (T.shK k)
   rw[jq T g] at k1
   exact eA (aM (ac h2) (ah (ac h0) aj M.i4) k1) (q U (by show _=some (V.tup (aN (p++[])));rw[List.append_nil];exact h1))
  ·have l:=(T.ok.row _ _ g).2.1
   have g0:=List.getElem?_eq_getElem l
   refine o2x3 (ih _ (List.getElem_mem l)) fun m k' e1 e2 e3=>?_
   have hr:=gb T.ok g (List.getElem_mem l)
   refine⟨m+1,k',?_,e2,fun M P p U hp h0 h1 h2 q=>?_⟩
   ·show(match aV s k with | some r=>if 0≤(0:Int) then(match r[(0:Int).toNat]? with | some k'=>cq s k' (i8 m) | none=>none) else none | none=>none)=_
    refine af g ?_;skip;(refine ak (aH (Int.le_refl 0)) ?_;refine af (show((0:Int).toNat)=0 from rfl) ?_;refine af g0 ?_);exact e1
   ·have k1:=ke (Z:=Z) M.hb (T.shK k)
    rw[fO T g] at k1
    have i4:bE Z (.ref b) (.int k)=some (.tup (aN r)):=aG M.hb (T.shK k) (fO T g)
    refine cL (aM (ac h2) (ah (ac h0) aj M.i4) k1) (av (aB (ac h1) (aF (ab aj ae)) fun Q q=>⟨?_,by rw[cY p [0]] at q;exact q⟩) (av (v:=.int r[0]) (ah (ah (ah (ac h0) aj M.i4) (ac h2) i4) aj (bQ (Int.le_refl 0) (cA g0))) (ay (gX (e3 M P (p++[0]) _ ?_ h0 rfl rfl fun U' h=>q U' ?_)))))
    ·refine af bA ?_;show p.length+1≤bM;delta bM;omega
    ·refine af List.length_append ?_;show _+1+_≤200;omega
    ·(refine ak (h) ?_;rw[List.append_assoc]);rfl
 refine o2x3 go fun m k' e1 e2 e3=>?_;clear go
 exact⟨m,k',e1,e2,fun M p hp=>bj zT rfl fun P q=>gQ (e3 M _ p _ (by have:=eV T.ok k;omega) rfl rfl rfl fun U' h=>ax (ac h) q)⟩
end
theorem sr{K:aO}{U:Env}{Z:H}{P:aP}{e:E}{t:List Nat}{it:E}{ifs:List E}(h:WE K it U (fun v Zq=>∃ xs,bq Zq v=some xs∧sQ v∧CL K e t ifs U v xs P xs [] Zq) Z):WE K (.comp e t it ifs) U P Z:=by
 simp only[fT,uq] at *;exact h
section
variable {n:Nat} {Q:aP} {Z:H} {A:Nat→Addr} {d:Dt}
theorem Wd.ne0(hW:Wd A d Z){y:Addr}{l:List V}(h:Z y=some (.list l)):y≠A 0:=fun e=>by(rewrite[e] at h;rw[hW.o 0 rfl] at h);cases h
noncomputable def pT(w:List Int):V:=.tup (aN w)
theorem t7{K:aO}{U:Env}{P:aP}{src:V}{whole:List V}{k:Int}(h4:U 4=some (.int k))(hl:bq Z src=some whole)(l:Sp):∀ acc:List (List Int),(∀ a,Z a=none→P (.ref a) (Z.set a (.list ((acc++(l.filter fun x=>x.2 == k).map (·.1)).map pT))))→
  CL K (.x 101) [101,102] [.cmp (.x 102) .Eq (.x 4)] U src whole P (l.map eu) (acc.map pT) Z:=by
 induction l with
 |nil=>intro acc q;exact kf (by(rewrite[List.filter_nil] at q;rewrite[List.map_nil] at q;rw[List.append_nil] at q);exact q)
 |cons x l ih=>
  intro acc q
  obtain⟨w,kx⟩:=x
  refine CF (b:=decide (kx=k)) rfl (aM (ac rfl) (ac h4) ao) hl (fun c=>?_) fun c=>?_
  ·refine bk (v:=pT w) (ac rfl) ⟨hl,?_⟩
   have:=ih (acc++[w]) (by
    (rewrite[List.filter_cons_of_pos (by exact beq_iff_eq.mpr (of_decide_eq_true c))] at q;rw[List.map_cons] at q)
    rw[List.append_assoc];exact q)
   rw[List.map_append] at this;exact this
  ·exact ih acc (by
    rw[List.filter_cons_of_neg (by exact fun h=>of_decide_eq_false c (beq_iff_eq.mp h))] at q;exact q)
theorem G3(hW:Wd A d Z)(hd:Ok d){r:Nat}(hr:r<8){p:List Int}{k:Int}(hk:cq d.s (bu r) p=some k)(hc:d.cs.length≤1000)(q:∀ d' Z',Wd A d' Z'→Ok d'→Nx d d'→Q (.bool true) Z'):a9 (n+9) none 68 [.ref (A 2),.ref (A 0),.int r,.tup (aN p),.int k] Q Z:=by
 have p7:=cW hd.sh hk
 have hv:=hd.ty r hr
 refine o1x2 (hv.get p hk) fun u hu tu=>?_
 have e39:Cv (a9 (n+8)) none 39 [.ref (A 31),pl p r] Z u:=by
  have:=Du (n:=n+4) (p:=p) hW hr hv
  rw[hu] at this;exact this
 refine br zU rfl (av (az (vs:=[.ref (A 31),pl p r]) (ab (aw (ah (ac rfl) aj (aG (hW.o 2 rfl) rfl rfl)) (hW.f 9 rfl)) (ab (az (vs:=[.ref (A 2),.int r,.tup (aN p)]) (ab (ac rfl) (ab (ac rfl) (ab (ac rfl) ae))) rfl (zx hW hr (by omega))) ae)) rfl e39) ?_)
 refine aX (aD (vs:=[.ref (A 0),.int 8]) (ab (ac rfl) (ab aj ae)) rfl (iV hW (by decide) fun g hg Z1 W1 o1=>?_))
 have fin:∀ (g:Nat) (fit:List (List Int)) (y:Addr) (U:Env) (Z2:H),g<8→fit≠[]→(∀ w ∈ fit,cq d.s (bu g) w=some k)→Wd A d.dr Z2→Z2 y=some (.list (fit.map pT))→U 0=some (.ref (A 2))→U 1=some (.ref (A 0))→U 4=some (.int k)→U 5=some u→U 6=some (.int g)→U 7=some (.ref y)→
   SS (a9 (n+8)) (match E2.body with | _::_::_::_::l=>l | _=>[]) U (fy Q) Z2:=by
  intro g fit y U Z2 hg hf hw W2 hy h0 h1 h4 h5 h6 h7
  have lp:=List.length_pos_iff.mpr hf
  refine bP (cF rfl (aU (ac h0) (aU (ac h6) (eC (gx (bk (ac h7) (aD (vs:=[.ref (A 0),.int (fit.map pT).length]) (ab (ac h1) (ab (d5 (ac h7) hy) ae)) rfl (iV W2 (by rw[List.length_map];omega) fun i hi Z3 W3 o3=>?_))))))))
  rw[List.length_map] at hi
  have gi:=List.getElem?_eq_getElem (l:=fit) (i:=i) (by omega)
  refine⟨pT fit[i],aK (o3 _ _ (W2.ne0 hy) hy) (Int.natCast_nonneg _) (by(rewrite[Int.toNat_natCast];refine ak (List.getElem?_map) ?_;refine af gi ?_);rfl),aU (ac h4) (aU (ac h5) (cM ?_))⟩
  exact Ey (n:=n+2) W3 hd.dr.dr hg (hw _ (List.getElem_mem _)) tu hc fun d' Z' W' o' x' za=>q d' Z' W' o' x'
 refine aX (sr (aD (vs:=[.ref (A 2),.int (bu g)]) (ab (ac rfl) (ab (ah (ah (ac rfl) aj (aG (W1.o 2 rfl) rfl rfl)) (ac rfl) (d4 (by omega))) ae)) rfl (zy W1.mw hd.ms fun y Z2 x2 hy=>⟨_,bf hy,trivial,t7 rfl (bf hy) _ [] fun z hz=>?_⟩)))
 have W2:=(W1.ext x2).ext (bB.refl.set (o:=.list (([]++((W d.dr.s (bu g)).filter fun(x:List Int×Int)=>x.2 == k).map fun(x:List Int×Int)=>x.1).map pT)) hz)
 rw[List.nil_append] at W2 ⊢
 generalize hfit:((W d.dr.s (bu g)).filter fun(x:List Int×Int)=>x.2 == k).map (·.1)=fit at W2 ⊢
 have lz:=d5 (C:=a9 (n+8)) (U:=(((bV E2.ps [.ref (A 2),.ref (A 0),.int r,.tup (aN p),.int k] Env.nil).set 5 u).set 6 (.int g)).set 7 (.ref z)) (e:=.x 7) (ac rfl) (aC (Z:=Z2) (a:=z) (o:=.list (fit.map pT)))
 by_cases c:fit=[]
 ·subst c
  refine aA (ai (aq lz ao) rfl) (av (ac rfl) (aX (bz (vs:=[pT p]) (ab (ac rfl) ae) fun y' hy'=>ay ?_)))
  exact fin r [p] y' _ _ hr (fun h=>nomatch h) (fun w hw=>by refine af (List.mem_singleton.mp hw) ?_;exact hk) (W2.ext (bB.refl.set hy')) aC rfl rfl rfl rfl rfl rfl
 ·refine au (ai (aq lz ao) (bH (by rw[List.length_map];have:=List.length_pos_iff.mpr c;omega))) ?_
  refine fin g fit z _ _ (by omega) c (fun w hw=>?_) W2 aC rfl rfl rfl rfl rfl rfl
  rw[← hfit] at hw
  refine o1x2 (List.mem_map.mp hw) fun x hx e2=>?_;refine bt e2 ?_
  refine o0x2 (List.mem_filter.mp hx) fun hx ek=>?_
  refine bt (beq_iff_eq.mp ek) ?_;exact(fX hd.sh _ _).mp hx
theorem G1(hW:Wd A d Z)(hd:Ok d){r:Nat}(hr:r<8){p:List Int}{k:Int}(hk:cq d.s (bu r) p=some k)(q:∀ d' Z',Wd A d' Z'→Ok d'→i7 d d'→Q (.bool true) Z'):a9 (n+9) none 70 [.ref (A 2),.ref (A 0),.int r,.tup (aN p),.int k] Q Z:=by
 have p7:=cW hd.sh hk
 have rest:∀ (g:Nat) (d':Dt) (U:Env) (Z1:H),g<8→Wd A d' Z1→Ok d'→i7 d d'→U 0=some (.ref (A 2))→U 1=some (.ref (A 0))→U 2=some (.int r)→U 3=some (.tup (aN p))→U 4=some (.int k)→U 5=some (.int g)→
   SS (a9 (n+8)) (match FX.body with | _::_::l=>l | _=>[]) U (fy Q) Z1:=by
  intro g d' U Z1 hg W1 o1 kp h0 h1 h2 h3 h4 h5
  rw[← kp.1] at hk
  refine aX (aD (vs:=[.ref (A 2),.int (bu g)]) (ab (ac h0) (ab (ah (ah (ac h0) aj (aG (W1.o 2 rfl) rfl rfl)) (ac h5) (d4 hg)) ae)) rfl (zy W1.mw o1.ms fun y Z2 x2 hy=>?_))
  have W2:=W1.ext x2
  refine hK (gx (bk (ac rfl) (aD (vs:=[.ref (A 0),.int ((W d'.s (bu g)).map eu).length]) (ab (ac h1) (ab (d5 (ac rfl) hy) ae)) rfl (iV W2 pK fun i hi Z3 W3 o3=>?_))))
  refine o2x2 (dU (o3 _ _ (W2.ne0 hy) hy) hi o1.sh) fun w k' hw iw=>?_
  have w7:=cW o1.sh hw
  refine⟨_,iw,_,rfl,?_⟩
  refine av (az (ab (az (vs:=[.ref (A 2),.int r,.tup (aN p)]) (ab (ac h0) (ab (ac h2) (ab (ac h3) ae))) rfl (zx (n:=n+6) W3 hr (by omega))) (ab (az (vs:=[.ref (A 2),.int g,.tup (aN w)]) (ab (ac h0) (ab (ac h5) (ab (ac rfl) ae))) rfl (zx (n:=n+6) W3 hg (by omega))) ae)) rfl (Hh (n:=n+5) hr hg (by omega) (by omega))) ?_
  refine o2x3 (FG (n:=n+7) (Z:=Z3) (a:=A 2) (b:=A 3) (c:=A 4) (e:=A 5) (es:=d'.dr.es) o1.dr.ms k) fun m kl a1 a2 a3=>?_
  refine o2x3 (FG (n:=n+7) (Z:=Z3) (a:=A 2) (b:=A 3) (c:=A 4) (e:=A 5) (es:=d'.dr.es) o1.dr.ms k') fun m' kl' b1 b2 b3=>?_
  have e10:∀ U':Env,U' 0=some (.ref (A 2))→U' 2=some (.int r)→U' 3=some (.tup (aN p))→U' 4=some (.int k)→U' 5=some (.int g)→U' 7=some (.tup (aN w))→U' 8=some (.int k')→
    Eb (a9 (n+8)) U' Z3 .And [.cmp (.x 2) .Eq (.x 5),.cmp (.call (.k (.fn 69)) [.x 0,.x 3,.x 4]) .Eq (.call (.k (.fn 69)) [.x 0,.x 7,.x 8])] (decide (r=g∧dD p=dD w)):=by
   intro U' h0 h2 h3 h4 h5 h7 h8
   by_cases c:r=g
   ·subst c
    refine b7 (ai (aM (ac h2) (ac h5) ao) (bS rfl)) (bc (ai (aM (az (vs:=[.ref (A 2),.tup (aN p),.int k]) (ab (ac h0) (ab (ac h3) (ab (ac h4) ae))) rfl (a3 W3.mw p (by omega))) (az (vs:=[.ref (A 2),.tup (aN w),.int k']) (ab (ac h0) (ab (ac h7) (ab (ac h8) ae))) rfl (b3 W3.mw w (by omega))) (pB (by(rewrite[jP 29];rw[jP 29]);rfl))) ?_))
    refine Bool.eq_iff_iff.mpr ?_
    (rewrite[pS (dz 30 _ (jP 29 _))];rw[decide_eq_true_iff])
    have f:=rI ((cX _ _ hk).trans a1) a2 ((cX _ _ hw).trans b1) b2
    exact⟨fun h=>⟨rfl,f.mp (lY (V.tup.inj h))⟩,fun h=>by(refine af (f.mpr h.2) ?_;with_reducible rfl)⟩
   ·refine af (bH (fun h=>c h.1)) ?_
    exact d8 (ai (aM (ac h2) (ac h5) ao) (bH (by lia)))
  refine av (nW (e10 _ h0 h2 h3 h4 h5 rfl rfl)) (ax (nW (b7 (ue (vs:=[.bool _,.bi 6]) (ab (ac rfl) (ab aj ae)) fun Q q=>⟨_,rfl,q⟩) (bc (ai (aM (ac rfl) (ac rfl) w2) (beq_self_eq_true _))))) (q _ _ W3 o1.dr kp))
 refine br zS rfl (av (ac rfl) (dL (eP (aD (vs:=[.ref (A 0),.int 3]) (ab (ac rfl) (ab aj ae)) rfl (iV hW (by decide) fun j hj Z1 W1 o1=>bk aj ⟨_,ao,fun za=>?_,fun za=>ay (rest r _ _ _ hr W1 hd.dr ⟨rfl,rfl,rfl⟩ rfl rfl rfl rfl rfl rfl)⟩)))))
 exact aX (aD (vs:=[.ref (A 0),.int 8]) (ab (ac rfl) (ab aj ae)) rfl (iV W1 (by decide) fun g hg Z2 W2 o2=>ay (rest g _ _ _ (by omega) W2 hd.dr.dr ⟨rfl,rfl,rfl⟩ rfl rfl rfl rfl rfl rfl)))
end
theorem Nx.trans1{a b c:Dt}(x:i7 a b)(y:Nx b c):Nx a c:=⟨y.1.trans x.1,y.2.1.trans x.2.1,x.2.2▸y.2.2⟩
theorem Iv{g:Nat}(h:(g:Int)<5)(h0:¬(g:Int)=0)(h1:¬(g:Int)=1)(h2:¬(g:Int)=2)(h3:¬(g:Int)=3):g=4:=by lia
theorem Fz{g:Nat}(h:(g:Int)<8):g<8:=Int.ofNat_lt.mp h
section
variable {n:Nat} {Q:aP} {Z:H} {A:Nat→Addr} {d:Dt} {s:List (List Int)}
theorem G0(hW:Wd A d Z)(hd:Ok d)(hc:d.cs.length≤1000)(q:∀ d' Z',Wd A d' Z'→Ok d'→Nx d d'→Q (.bool true) Z'):a9 (n+10) none 71 [.ref (A 2),.ref (A 0)] Q Z:=by
 refine br zR rfl (aX (aD (vs:=[.ref (A 0),.int 8]) (ab (ac rfl) (ab aj ae)) rfl (iV hW (by decide) fun r hr Z1 W1 o1=>?_)))
 replace hr:=Fz hr
 refine aX (aD (vs:=[.ref (A 2),.int (bu r)]) (ab (ac rfl) (ab (ah (ah (ac rfl) aj (aG (W1.o 2 rfl) rfl rfl)) (ac rfl) (d4 hr)) ae)) rfl (zy W1.mw hd.ms fun y Z2 x2 hy=>?_))
 have W2:=W1.ext x2
 refine hK (gx (bk (ac rfl) (iB (bk (aB (d5 (ac rfl) hy) aj fun Q q=>q) (aD (vs:=[.ref (A 0),.int ((W d.s (bu r)).map eu).length]) (ab (ac rfl) (ab (d5 (ac rfl) hy) ae)) rfl (iV W2 pK fun i hi Z3 W3 o3=>?_))))))
 refine o2x2 (nq (o3 _ _ (W2.ne0 hy) hy) hi hd.sh) fun p k hk iw=>?_
 refine⟨_,iw,_,rfl,?_⟩
 refine dL (iz (eH (aD (vs:=[.ref (A 2),.int r,.tup (aN p),.int k]) (ab (ac rfl) (ab (ac rfl) (ab (ac rfl) (ab (ac rfl) ae)))) rfl (FI (n:=n) W3 hd.dr.dr hr hk fun Z4 x4=>⟨fun h=>(nomatch h),fun za=>ay ?_⟩))))
 refine aX (aD (vs:=[.ref (A 0),.int 5]) (ab (ac rfl) (ab aj ae)) rfl (iV (W3.ext x4) (by decide) fun g hg Z5 W5 o5=>?_))
 have tst:∀ (j:Int) (U:Env),U 6=some (.int g)→Et (a9 (n+9)) U Z5 (.cmp (.x 6) .Eq (.k (.int j))) (decide ((g:Int)=j)):=fun j U h=>aq (ac h) ao
 have nx:∀ d' Z',Wd A d' Z'→Ok d'→Nx d d'→Q (.bool true) Z':=q
 by_cases g0:(g:Int)=0
 ·exact aA (ai (tst 0 _ rfl) (bS g0)) (bP (aD (vs:=[.ref (A 2),.ref (A 0),.int r,.tup (aN p),.int k]) (ab (ac rfl) (ab (ac rfl) (ab (ac rfl) (ab (ac rfl) (ab (ac rfl) ae))))) rfl (G3 (n:=n) W5 hd.dr.dr.dr hr hk hc nx)))
 refine au (ai (tst 0 _ rfl) (bH g0)) ?_
 by_cases g1:(g:Int)=1
 ·refine aA (ai (tst 1 _ rfl) (bS g1)) (bP (cF rfl (aU (ac rfl) (aU (ac rfl) (aU (ac rfl) (aU (ac rfl) (bO (cF rfl (aU (ac rfl) (aU (ac rfl) (bO (aD (vs:=[.ref (A 0),.int 997]) (ab (ac rfl) (ab aj ae)) rfl (iV W5 (by decide) fun z hz Z6 W6 o6=>Ez hd.ms k (n+8) z Z6 _ (Nat.le_trans (eV hd.sh k) (Nat.le_add_left 7 (n+1))) W6.mw fun x Z7 tx x7=>?_)))))))))))))
  exact Ey (n:=n+3) (W6.ext x7) hd.dr.dr.dr.dr hr hk tx hc fun d' Z' w o x za=>nx d' Z' w o x
 refine au (ai (tst 1 _ rfl) (bH g1)) ?_
 by_cases g2:(g:Int)=2
 ·exact aA (ai (tst 2 _ rfl) (bS g2)) (bP (cF rfl (aU (ac rfl) (aU (ac rfl) (aU (ac rfl) (bO (aD (vs:=[.ref (A 0),.int 2]) (ab (ac rfl) (ab aj ae)) rfl (iV W5 (by decide) fun z hz Z6 W6 o6=>FH (n:=n) W6 hd.dr.dr.dr.dr hr hk fun d' Z' w o x=>nx d' Z' w o x.nx))))))))
 refine au (ai (tst 2 _ rfl) (bH g2)) ?_
 by_cases g3:(g:Int)=3
 ·exact aA (ai (tst 3 _ rfl) (bS g3)) (bP (aD (vs:=[.ref (A 2),.ref (A 0),.int r,.tup (aN p),.int k]) (ab (ac rfl) (ab (ac rfl) (ab (ac rfl) (ab (ac rfl) (ab (ac rfl) ae))))) rfl (G4 (n:=n) W5 hd.dr.dr.dr hr hk fun d' Z' w o x=>nx d' Z' w o x.nx)))
 exact au (ai (tst 3 _ rfl) (bH g3)) (bP (aD (vs:=[.ref (A 2),.ref (A 0),.int r,.tup (aN p),.int k]) (ab (ac rfl) (ab (ac rfl) (ab (ac rfl) (ab (ac rfl) (ab (ac rfl) ae))))) rfl (G1 (n:=n) W5 hd.dr.dr.dr hr hk fun d' Z' w o x=>nx d' Z' w o x.nx)))
theorem FE(hW:Wd A d Z)(hd:Ok d){k:Int}(q:∀ w k' Z',bB Z Z'→cq d.s k w=some k'→aV d.s k'=none→Q (eu (w,k')) Z'):a9 (n+2) none 73 [.ref (A 2),.int k] Q Z:=by
 refine br zP rfl (av (v:=eu ([],k)) (aF (ab (aF ae) (ab (ac rfl) ae))) (f8 (aD (vs:=[.ref (A 2),.int k]) (ab (ac rfl) (ab (ac rfl) ae)) rfl (zy hW.mw hd.ms fun y Z1 x1 hy=>⟨_,bf hy,?_⟩))))
 have top:(([],k):List Int×Int) ∈ W d.s k:=(fX hd.sh k []).mpr rfl
 refine(?_:∀ (l pre:Sp) (b:List Int×Int) (U:Env),W d.s k=pre++l→b ∈ W d.s k→(∀ z ∈ pre,z.1.length≤b.1.length)→U 2=some (eu b)→FL _ _ _ _ _ _ (l.map eu) U Z1) (W d.s k) [] ([],k) _ rfl top (fun za h=>nomatch h) rfl
 intro l
 induction l with
 |nil=>
  intro pre b U e hb hm h2
  rw[List.append_nil] at e
  rw[← e] at hm
  exact b9 (ax (ac h2) (q b.1 b.2 _ x1 ((fX hd.sh k b.1).mp hb) (mx hd.sh hb hm)))
 |cons z l ih=>
  intro pre b U e hb hm h2
  have e':W d.s k=(pre++[z])++l:=by rw[List.append_assoc];exact e
  have hz:z ∈ W d.s k:=by refine af e ?_;exact List.mem_append_right _ (.head _)
  have tst:Et (a9 (n+1)) (U.set 3 (eu z)) Z1 (.cmp (.call (.k (.bi 0)) [.idx (.x 3) (.k (.int 0))]) .Gt (.call (.k (.bi 0)) [.idx (.x 2) (.k (.int 0))])) (decide ((b.1.length:Int)<z.1.length)):=aM (dt (aR rfl rfl)) (dt (aR h2 rfl)) cu
  refine bR rfl ?_
  by_cases c:b.1.length<z.1.length
  ·refine aA (ai tst (bS (Int.ofNat_lt.mpr c))) (av (ac rfl) (ay (ay ⟨bf hy,ih _ z _ e' hz (fun w hw=>?_) rfl⟩)))
   rcases List.mem_append.mp hw with h | h
   ·exact Nat.le_trans (hm w h) (Nat.le_of_lt c)
   ·refine af (List.mem_singleton.mp h) ?_;exact Nat.le_refl _
  ·refine au (ai tst (bH fun h=>c (Int.ofNat_lt.mp h))) (ay ⟨bf hy,ih _ b _ e' hb (fun w hw=>?_) h2⟩)
   rcases List.mem_append.mp hw with h | h
   ·exact hm w h
   ·refine af (List.mem_singleton.mp h) ?_;exact Nat.le_of_not_lt c
theorem ub{C:aO}{U:Env}{e:E}{is:List Int}{i:Int}{j:Nat}(h:Ev C U Z e (.int i))(g:is.findIdx? (fun x=>x == i)=some j):Ev C U Z (.mth (.k (.tup (aN is))) 91 [e]) (.int j):=⟨fun Q q=>⟨_,rfl,rfl,h.go _ ⟨rfl,is,j,rfl,g,q⟩⟩⟩
theorem GY{k:Int}{v:V}(hv:Ty s k v)(hk:aV s k=none)(q:∀ x,Ty s k x→Q x Z):a9 (n+1) none 74 [v] Q Z:=by
 cases hv with
 |node _ _ _ g _ _=>rw[hk] at g;exact ns g
 |leaf _ t z g lo=>
  refine br zO rfl ?_
  have tst:Et (a9 n) (bV Dy.ps [.tup [.int t,.int z]] Env.nil) Z (.cmp (.idx (.x 0) (.k (.int 0))) .Eq (.k (.int 4))) (decide (t=4)):=aq (aR rfl rfl) ao
  have lo':=lo
  unfold eD at lo
  by_cases c:k=12
  ·rw[aH c] at lo
   obtain⟨rfl,hz⟩:=lo
   have fin:∀ (j:Nat) (u:Int),([0,16,20,24]:List Int).findIdx? (fun x=>x == z)=some j→bE Z (.tup (aN [0,16,20,24])) (.int (((j:Int)+1) % 4))=some (.int u)→u ∈ ([0,16,20,24]:List Int)→SS (a9 n) Dy.body (bV Dy.ps [.tup [.int 4,.int z]] Env.nil) (fy Q) Z:=fun j u hj hu hm=>by
    refine aA (ai tst rfl) (ax (aF (ab aj (ab (ah (k:=.int (((j:Int)+1) % 4)) aj (aB (aB (w:=.int ((j:Int)+1)) (ub (aR rfl rfl) hj) aj fun Q q=>q) aj fun Q q=>⟨by decide,q⟩) hu) ae))) (q _ (.leaf _ _ _ g ?_)))
    unfold eD;refine af (aH c) ?_;exact⟨rfl,hm⟩
   have hz:z=0∨z=16∨z=20∨z=24:=by simpa using hz
   rcases hz with rfl | rfl | rfl | rfl
   ·exact fin 0 16 rfl rfl (by decide)
   ·exact fin 1 20 rfl rfl (by decide)
   ·exact fin 2 24 rfl rfl (by decide)
   ·exact fin 3 0 rfl rfl (by decide)
  ·rw[aE c] at lo
   have t4:t≠4:=by lia
   refine au (ai tst (bH t4)) (ax (aF (ab (aR rfl rfl) (ab (aB (w:=.int ((z+1) % 120)) (aB (w:=.int (z+1)) (aR rfl rfl) aj fun Q q=>q) aj fun Q q=>⟨by decide,q⟩) ae))) (q _ (.leaf _ _ _ g ?_)))
   unfold eD;refine af (aE c) ?_;exact lo
theorem GX(hW:Wd A d Z)(hd:Ok d)(hc:d.cs.length≤900)(q:∀ d' Z',Wd A d' Z'→Ok d'→d'.s=d.s→d'.nums=d.nums→Q (.bool true) Z'):a9 (n+10) none 75 [.ref (A 2)] Q Z:=by
 refine br zN rfl (ch (v:=.rng ((8:Nat):Int)) (a8 (vs:=[.int 8]) (ab aj ae) fun Q q=>⟨_,rfl,⟨by decide,by decide⟩,q⟩) rfl ?_)
 refine g7 (N:=8) (fun i U Z'=>∃ d',Wd A d' Z'∧Ok d'∧d'.s=d.s∧d'.nums=d.nums∧d'.cs.length≤900+i∧U 0=some (.ref (A 2))) ?_ ⟨d,hW,hd,rfl,rfl,hc,rfl⟩ fun U Z' ⟨d',W',o',e1,e2,_⟩=>ax aj (q d' Z' W' o' e1 e2)
 intro r hr U Z1 p0;refine o1x6 p0 fun d' W1 o1 e1 e2 hc' h0=>?_;clear p0;intro R hR hv
 refine hK (aD (vs:=[.ref (A 2),.int (bu r)]) (ab (ac h0) (ab (ah (ah (ac h0) aj (aG (W1.o 2 rfl) rfl rfl)) (ac rfl) (d4 hr)) ae)) rfl (FE (n:=n+7) W1 o1 fun p k Z2 x2 hk hl=>⟨_,rfl,?_⟩))
 have W2:=W1.ext x2
 refine o1x2 ((o1.ty r hr).get p hk) fun u hu tu=>?_
 have hcell:=o1.cell r hr p k hk hl
 rw[hu] at hcell
 have h0':∀ (v w:V) ,(((U.set 1 (.int r)).set 2 v).set 3 w) 0=some (.ref (A 2)):=fun v w=>h0
 have xS:d'.cs.length≤1000:=Nat.le_trans hc' (Nat.le_trans (Nat.add_le_add_left (Nat.le_of_lt hr) _) (by decide))
 refine dL (iz (eH (cF rfl (aU (ac (h0' _ _)) (aU (ac rfl) (aU (ac rfl) (aU (ac rfl) (bO (aD (vs:=[u]) (ab (ah (ah (ac (h0' _ _)) aj W2.mw.i5) (aF (vs:=[.int r,.tup (aN p)]) (ab (ac rfl) (ab (ac rfl) ae))) (aG W2.mw.he (o1.esK r p) hcell)) ae) rfl (GY tu hl fun x tx=>Ey (n:=n+3) W2 o1 hr hk tx xS fun d2 Z3 W3 o3 nx za=>⟨fun h=>(nomatch h),fun za=>ay ?_⟩))))))))))
 rw[← nx.1] at hk
 refine dL (iz (eH (aD (vs:=[.ref (A 2),.int r,.tup (aN p),.int k]) (ab (ac (h0' _ _)) (ab (ac rfl) (ab (ac rfl) (ab (ac rfl) ae)))) rfl (FI (n:=n) W3 o3 hr hk fun Z4 x4=>⟨fun h=>(nomatch h),fun za=>ay (ay (hR _ _ ⟨d2,W3.ext x4,o3,nx.1.trans e1,nx.2.1.trans e2,?_,h0' _ _⟩))⟩))))
 exact Nat.le_trans nx.2.2 (Nat.succ_le_succ hc')
end
section
variable {K:aO} {U:Env} {Z:H} {P:aP}
structure Dj (K:aO) (ks es:List E) (U:Env) (P:List (V×V)→H→Prop) (Z:H):Prop where
 go:Bf (sy K ks U) (sy K es U) P Z
theorem Cd{ks es:List E}{P:List (V×V)→H→Prop}:Dj K ks es U P Z=Bf (sy K ks U) (sy K es U) P Z:=propext ⟨fun h=>h.go,fun h=>⟨h⟩⟩
theorem lX{P:List (V×V)→H→Prop}(h:P [] Z):Dj K [] [] U P Z:=⟨h⟩
theorem dp{k e:E}{ks es:List E}{u:V}{P:List (V×V)→H→Prop}(hk:Ev K U Z k u)(h:WE K e U (fun v Z'=>Dj K ks es U (fun r Z''=>P ((u,v)::r) Z'') Z') Z):Dj K (k::ks) (e::es) U P Z:=by
 simp only[fT,Cd] at *;exact hk.go _ h
theorem lD{ks es:List E}(h:Dj K ks es U (fun r Z'=>rG r=true∧∀ a,Z' a=none→P (.ref a) (Z'.set a (.dict (dH [] r)))) Z):WE K (.dct ks es) U P Z:=⟨h.go⟩
theorem zG{m:Nat}{x:V}(h:pv 30 x=true):kE Z m x=some (gO x):=by
 induction x using V.casesOn with
 |ref a=>exact ff h
 |_=>induction m using Nat.casesAuxOn<;>exact aH h
theorem wY{m:Nat}{xs:List V}(h:∀ x ∈ xs,pv 30 x=true):xs.mapM (kE Z m)=some (fV xs):=by
 induction xs with
 |nil=>rfl
 |cons x xs ih=>(refine ak (List.mapM_cons) ?_;refine af (zG (h x (.head _))) ?_;refine af (ih fun y hy=>h y (.tail _ hy)) ?_);rfl
theorem d9{m:Nat}{a:Addr}{xs:List V}(ha:Z a=some (.list xs))(h:∀ x ∈ xs,pv 30 x=true):kE Z (m+1) (.ref a)=some (.list (fV xs)):=by
 unfold kE;refine af ha ?_;dsimp only;refine af (wY h) ?_;rfl
theorem iI{a b:Addr}{xs:List V}(ha:Z a=some (.list xs))(hb:Z b=some (.list xs))(h:∀ x ∈ xs,pv 30 x=true):nh Z (.ref a) (.ref b):=⟨_,d9 ha h,d9 hb h⟩
theorem xN{m:Nat}{a:Addr}{x y z:V}{p q r:PyData}(ha:Z a=some (.list [x,y,z]))(hx:kE Z m x=some p)(hy:kE Z m y=some q)(hz:kE Z m z=some r):kE Z (m+1) (.ref a)=some (.list [p,q,r]):=by
 unfold kE;refine af ha ?_;dsimp only;(refine af List.mapM_cons ?_;refine af List.mapM_cons ?_;refine af List.mapM_cons ?_;refine af hx ?_;refine af hy ?_;refine af hz ?_);rfl
theorem xj{x:V}(h:pv 30 x=true):∀ y ∈ [x],pv 30 y=true:=fun y hy=>by refine af (List.mem_singleton.mp hy) ?_;exact h
theorem uP{x z:V}(h:pv 30 x=true)(k:pv 30 z=true):∀ y ∈ [x,z],pv 30 y=true:=fun y hy=>(List.mem_cons.mp hy).elim (fun e=>e▸h) (xj k y)
theorem hG{o:E}{l:List E}{xs:List V}{a:Addr}{Q:Bool→H→Prop}(ho:Ev K U Z o (.ref a))(ha:Z a=some (.list xs))(hl:Es K U Z l xs)(h:∀ x ∈ xs,pv 30 x=true)(q:∀ Z',bB Z Z'→Q false Z'):WT K (.cmp o .NotEq (.lst l)) U Q Z:=
 eP (bk ho (bz hl fun b hb=>⟨false,⟨rfl,.inl (iI (bB.new hb _ _ ha) aC h)⟩,q _ (bB.new hb)⟩))
theorem ng{l:List (V×V)}(h:∀ e ∈ l,∃ i,e=(.int i,.int 1)):ga Z l l:=by
 induction l with
 |nil=>trivial
 |cons e l ih=>
  refine aI (h _ (.head _)) fun i e1=>?_;refine af e1 ?_
  exact⟨rfl,⟨i,rfl⟩,⟨_,rfl,rfl⟩,ih fun e he=>h e (.tail _ he)⟩
end
noncomputable def dy(d:Dt):List V:=[d.v 0,d.v 1,d.v 2,d.v 3,d.v 4,d.v 5,d.v 6,d.v 7]
theorem gz(d:Dt){r:Nat}(hr:r<8):(dy d)[r]? = some (d.v r):=fH (P:=fun r=>(dy d)[r]? = some (d.v r)) rfl rfl rfl rfl rfl rfl rfl rfl hr
structure Vw (A:Nat→Addr) (d:Dt) (y:Addr) (Z:H):Prop where
 w:Wd A d Z
 y:Z y=some (.list (dy d))
theorem Vw.ext{A:Nat→Addr}{d:Dt}{y:Addr}{Z Z':H}(h:Vw A d y Z)(x:bB Z Z'):Vw A d y Z':=⟨h.w.ext x,x _ _ h.y⟩
section
variable {n:Nat} {Q:aP} {Z:H} {A:Nat→Addr} {d:Dt}
theorem Vw.ev{K:aO}{U:Env}{y:Addr}(h:Vw A d y Z)(h1:U 1=some (.ref y))(r:Nat)(hr:r<8):Ev K U Z (.idx (.x 1) (.k (.int r))) (d.v r):=aR h1 (aK h.y (Int.natCast_nonneg _) (by rw[Int.toNat_natCast];exact gz d hr))
theorem GW(hW:Wd A d Z)(hd:Ok d)(q:∀ Z',bB Z Z'→Q (.bool true) Z'):a9 (n+9) none 76 [.ref (A 2)] Q Z:=by
 have pv':∀ r,r<8→Mine.pv 30 (d.v r)=true:=fun r hr=>(hd.ty r hr).pv hd.sh
 have pc:∀ t z:Int,Mine.pv 30 (.tup [.int t,.int z])=true:=fun za za=>rfl
 refine br zM rfl (aX (d7 (n:=8) (fun acc Z'=>bB Z Z'∧acc=(dy d).take acc.length) (a8 (vs:=[.int 8]) (ab aj ae) fun Q q=>⟨_,rfl,⟨by decide,by decide⟩,q⟩) (by decide) ⟨bB.refl,rfl⟩ ?_ (fun v h=>nomatch h) ?_))
 ·intro acc Z' hl hI U' hb R hR
  refine bt (aQ hb) ?_
  have W1:=hW.ext hI.1
  refine aD (vs:=[.ref (A 2),.int acc.length,.tup (aN []),.int (bu acc.length)]) (ab (ac rfl) (ab (ac rfl) (ab (aF ae) (ab (ah (ah (ac rfl) aj (aG (W1.o 2 rfl) rfl rfl)) (ac rfl) (d4 hl)) ae)))) rfl (Ds hd.ms _ (n+7) acc.length [] (d.v acc.length) Z' _ (Nat.le_trans (eV hd.sh _) (Nat.le_add_left 7 n)) (Nat.le_trans (Nat.le_of_eq (Nat.zero_add _)) (Nat.le_trans (eV hd.sh _) (by decide))) W1.mw hd.esK (hd.ty _ hl) (fun w k' h g=>hd.cell _ hl w k' h g) fun Z'' x=>hR _ Z'' ⟨hI.1.trans x,?_⟩)
  refine af List.length_append ?_
  show _=(dy d).take (acc.length+1)
  (refine af List.take_succ ?_;refine af (gz d hl) ?_;refine bt hI.2 ?_);rfl
 ·intro acc Z0 hl hI y hy
  have ea:acc=dy d:=by(refine ak (hI.2) ?_;refine af hl ?_);rfl
  refine af ea ?_
  have xa:bB Z (Z0.set y (.list (dy d))):=hI.1.trans (bB.new hy)
  have I0:Vw A d y _:=⟨hW.ext xa,aC⟩
  generalize Z0.set y (.list (dy d))=Z1 at xa I0 ⊢
  clear hI hl hy
  refine av (ah (ac rfl) aj (aG (I0.w.o 2 rfl) rfl rfl)) (lJ (u:=.ref (A 33)) (v:=.ref (A 34)) (ah (ac rfl) aj (aG (I0.w.o 2 rfl) rfl rfl)) ?_)
  refine dL (mN (hG (bg rfl (I0.w.f 19 rfl)) (I0.w.o 11 rfl) (ab (I0.ev rfl 0 (by decide)) (ab (aF (ab aj (ab aj ae))) ae)) (uP (pv' 0 (by decide)) (pc _ _)) fun Z2 x2=>⟨fun h=>(nomatch h),fun za=>f7 ?_⟩))
  have I2:=I0.ext x2
  refine hG (bg rfl (I2.w.f 20 rfl)) (I2.w.o 12 rfl) (ab (I2.ev rfl 1 (by decide)) (ab (aF (ab aj (ab aj ae))) ae)) (uP (pv' 1 (by decide)) (pc _ _)) fun Z3 x3=>⟨fun h=>(nomatch h),fun za=>ay ?_⟩
  have I3:=I2.ext x3
  replace xa:=(xa.trans x2).trans x3
  clear I0 I2 x2 x3
  refine dL (mN (hG (bg rfl (I3.w.f 26 rfl)) (I3.w.o 13 rfl) (ab (I3.ev rfl 7 (by decide)) ae) (xj (pv' 7 (by decide))) fun Z4 x4=>⟨fun h=>(nomatch h),fun za=>mN ?_⟩))
  have I4:=I3.ext x4
  refine hG (bg rfl (I4.w.f 25 rfl)) (I4.w.o 14 rfl) ae (fun za h=>nomatch h) fun Z5 x5=>⟨fun h=>(nomatch h),fun za=>f7 ?_⟩
  have I5:=I4.ext x5
  refine hG (bg rfl (I5.w.f 24 rfl)) (I5.w.o 15 rfl) ae (fun za h=>nomatch h) fun Z6 x6=>⟨fun h=>(nomatch h),fun za=>ay ?_⟩
  have I6:=I5.ext x6
  replace xa:=((xa.trans x4).trans x5).trans x6
  clear I3 I4 I5 x4 x5 x6
  refine dL (eP (bk (bg rfl (I6.w.f 7 rfl)) (lD (dp (ah (ac rfl) aj (aG (I6.w.o 2 rfl) rfl rfl)) (bz (vs:=[.tup [.int 1,.int 57],d.v 2]) (ab (aF (ab aj (ab aj ae))) (ab (I6.ev rfl 2 (by decide)) ae)) fun b hb=>lX ⟨rfl,fun c hc=>?_⟩)))))
  have x7:=bB.new (o:=.list [.tup [.int 1,.int 57],d.v 2]) hb
  have x8:=bB.new (o:=.dict [(.int 17,.ref b)]) hc
  have I8:=(I6.ext x7).ext x8
  refine⟨false,⟨rfl,.inr ⟨_,_,I8.w.o 9 rfl,aC,rfl,⟨17,rfl⟩,iI (I8.w.o 10 rfl) (x8 _ _ aC) (uP (pc _ _) (pv' 2 (by decide))),trivial⟩⟩,fun h=>(nomatch h),fun za=>ay ?_⟩
  replace xa:=(xa.trans x7).trans x8
  change bB Z ((Z6.set b (.list [.tup [.int 1,.int 57],d.v 2])).set c (.dict (dH [] [(.int 17,.ref b)]))) at xa
  change Vw A d y ((Z6.set b (.list [.tup [.int 1,.int 57],d.v 2])).set c (.dict (dH [] [(.int 17,.ref b)]))) at I8
  generalize (Z6.set b (.list [.tup [.int 1,.int 57],d.v 2])).set c (.dict (dH [] [(.int 17,.ref b)]))=Z8 at xa I8 ⊢
  clear I6 x7 x8 hb hc
  have th:=bf (I8.w.o 17 rfl)
  refine dL (eP (lF (aw (bg rfl (I8.w.f 0 rfl)) (I8.w.f 14 rfl)) th trivial (io rfl (bk (bg rfl (I8.w.f 32 rfl)) ⟨th,io rfl (bk (bg rfl (I8.w.f 37 rfl)) ⟨th,io rfl (bk (bg rfl (I8.w.f 42 rfl)) ⟨th,kf fun b hb=>?_⟩)⟩)⟩))))
  have x9:=bB.new (o:=.list ([]++[.ref (A 19)]++[.ref (A 20)]++[.ref (A 21)])) hb
  have I9:=I8.ext x9
  refine pO (eC (bz (vs:=[.tup [.int 4,.int 24],d.v 3]) (ab (aF (ab aj (ab aj ae))) (ab (I9.ev rfl 3 (by decide)) ae)) fun c1 hc1=>?_))
  have y1:=bB.new (o:=.list [.tup [.int 4,.int 24],d.v 3]) hc1
  have I10:=I9.ext y1
  refine eC (bz (vs:=[d.v 4,d.v 5]) (ab (I10.ev rfl 4 (by decide)) (ab (I10.ev rfl 5 (by decide)) ae)) fun c2 hc2=>?_)
  have y2:=bB.new (o:=.list [d.v 4,d.v 5]) hc2
  have I11:=I10.ext y2
  refine eC (bz (vs:=[d.v 6]) (ab (I11.ev rfl 6 (by decide)) ae) fun c3 hc3=>cM fun c4 hc4=>?_)
  have y3:=bB.new (o:=.list [d.v 6]) hc3
  have y4:=bB.new (o:=.list [.ref c1,.ref c2,.ref c3]) hc4
  have I12:=(I11.ext y3).ext y4
  have l3:=uP (pc 4 24) (pv' 3 (by decide))
  have l4:=uP (pv' 4 (by decide)) (pv' 5 (by decide))
  have l6:=xj (pv' 6 (by decide))
  have e1:=(((y1.trans y2).trans y3).trans y4) _ _ aC
  refine⟨false,⟨rfl,.inl ⟨_,xN e1 (d9 (I12.w.o 19 rfl) l3) (d9 (I12.w.o 20 rfl) l4) (d9 (I12.w.o 21 rfl) l6),xN aC (d9 (((y2.trans y3).trans y4) _ _ aC) l3) (d9 ((y3.trans y4) _ _ aC) l4) (d9 (y4 _ _ aC) l6)⟩⟩,fun h=>(nomatch h),fun za=>ay ?_⟩
  replace xa:=((((xa.trans x9).trans y1).trans y2).trans y3).trans y4
  generalize H.set _ c4 _=Z12 at xa I12 ⊢
  clear I8 I9 I10 I11 x9 y1 y2 y3 y4 hb hc1 hc2 hc3 hc4 e1 l3 l4 l6 th
  have W:=I12.w
  refine bP (xw (jz (kI (aM (c:=true) (aw (bg rfl (W.f 0 rfl)) (W.f 16 rfl)) (ah (ac rfl) aj (aG (W.o 2 rfl) rfl rfl)) ⟨rfl,.inr ⟨d.hc,d.cs,W.o 18 rfl,W.o 6 rfl,by refine af hd.cc ?_;exact ng hd.csI⟩⟩) ⟨fun za=>jz (kI (aq (aw (bg rfl (W.f 0 rfl)) (W.f 18 rfl)) ao) ⟨fun za=>f7 (eP ?_),fun h=>nomatch h⟩),fun h=>nomatch h⟩)))
  have told:∀ {R:aP},(∀ b,Z12 b=none→R (.ref b) (Z12.set b (.list (if d.flag then[.int 4] else[]))))→WE (a9 (n+8)) (.comp (.idx (.x 101) (.k (.int 0))) [101] (.att (.x 2) 159) []) ((((bV FW.ps [.ref (A 2)] Env.nil).set 1 (.ref y)).set 2 (.ref (A 30))).set 3 (.ref (A 33)) |>.set 4 (.ref (A 34))) R Z12:=fun{R} k=>by
   have tl:=bf (W.o 27 rfl)
   refine lF (bg rfl (W.f 8 rfl)) tl trivial ?_
   induction hf:d.flag using Bool.casesOn with
   |true=>
    rw[hf] at tl k
    exact io rfl (bk (aR rfl rfl) ⟨tl,kf k⟩)
   |false=>rw[hf] at k;exact kf k
  refine told fun b hb=>bk (v:=.ref d.wa) (ah (ac rfl) aj (aG ((W.ext (bB.new hb)).o 2 rfl) rfl rfl)) ⟨true,⟨rfl,.inl (iI aC (hd.ww▸(W.ext (bB.new hb)).wr.1) ?_)⟩,q _ (xa.trans (bB.new hb))⟩
  split
  ·exact xj rfl
  ·exact fun za h=>nomatch h
end
structure Hp (B:Nat→Addr) (hs:List O) (F Z:H):Prop where
 o:∀ (i:Nat) {o:O},hs[i]? = some o→Z (B i)=some o
 inj:∀ i j,i<hs.length→j<hs.length→B i=B j→i=j
 fr:bB F Z
 off:∀ i,i<hs.length→F (B i)=none
noncomputable def aL(B:Nat→Addr)(n:Nat)(bs:List Addr):Nat→Addr:=fun i=>if i<n then B i else bs.getD (i - n) 0
inductive It where
 |x (i:Nat)
 |k (v:V)
 |lst (l:List V)
 |dct
 |ev (e:E) (v:V)
noncomputable def It.e:It→E
 |.x i=>.x i
 |.k v=>.k v
 |.lst l=>.lst (l.map E.k)
 |.dct=>.dct [] []
 |.ev e _=>e
noncomputable def It.o:It→Option O
 |.lst l=>some (.list l)
 |.dct=>some (.dict [])
 |_=>none
noncomputable def It.v(U:Env):It→V
 |.x i=>(U i).getD .none
 |.k v=>v
 |.ev _ v=>v
 |_=>.none
noncomputable def ft(U:Env)(bs:List Addr):Nat→List (Nat×V)→List (Nat×It)→List (Nat×V)
 |_,fs,[]=>fs
 |k,fs,x::r=>match x.2.o with
  |none=>ft U bs k (cZ fs x.1 (x.2.v U)) r
  |some _=>ft U bs (k+1) (cZ fs x.1 (.ref (bs.getD k 0))) r
theorem rH{U:Env}{b:Addr}{bs:List Addr}(its:List (Nat×It)):∀ k fs,ft U (b::bs) (k+1) fs its=ft U bs k fs its:=by
 induction its with
 |nil=>intro _ _;rfl
 |cons x r ih=>
  intro k fs
  show(match x.2.o with | none=>ft U (b::bs) (k+1) (cZ fs x.1 (x.2.v U)) r | some _=>ft U (b::bs) (k+2) (cZ fs x.1 (.ref (bs.getD k 0))) r)=match x.2.o with | none=>ft U bs k (cZ fs x.1 (x.2.v U)) r | some _=>ft U bs (k+1) (cZ fs x.1 (.ref (bs.getD k 0))) r
  split
  ·exact ih _ _
  ·exact ih _ _
noncomputable def Cf(c:Nat)(U:Env)(x:Nat×It):Bool:=(bo c).contains x.1 && (match x.2 with | .x i=>(U i).isSome | _=>true)
noncomputable def xK:List (Nat×It)→List (E×V)
 |[]=>[]
 |x::r=>match x.2 with | .ev e v=>(e,v)::xK r | _=>xK r
noncomputable def vU(its:List (Nat×It)):List O:=its.filterMap fun x=>x.2.o
noncomputable def wC(its:List (Nat×It)):List C:=its.map fun x=>.set (.att (.x 0) x.1) x.2.e
section
variable {B B':Nat→Addr} {hs:List O} {F Z Z':H} {n:Nat}
theorem Hp.ext(R:Hp B hs F Z)(x:bB Z Z'):Hp B hs F Z':=⟨fun i o e=>x _ _ (R.o i e),R.inj,R.fr.trans x,R.off⟩
theorem Hp.put(R:Hp B hs F Z){i:Nat}{o':O}(hi:i<hs.length)(x:jo (B i) Z Z')(h:Z' (B i)=some o'):Hp B (hs.set i o') F Z':=by
 have l:(hs.set i o').length=hs.length:=List.length_set
 refine⟨fun j o e=>?_,fun j k hj hk=>R.inj j k (l▸hj) (l▸hk),fun a o e=>x a o (fun q=>by(rewrite[q] at e;rw[R.off i hi] at e);exact ns e) (R.fr a o e),fun j hj=>R.off j (l▸hj)⟩
 have hj:=(List.getElem?_eq_some_iff.mp e).1
 by_cases c:i=j
 ·subst c;rw[List.getElem?_set_self hi] at e;refine bt (aQ e) ?_;exact h
 ·rw[List.getElem?_set_ne c] at e
  exact x _ _ (fun q=>c (R.inj _ _ (l▸hj) hi q).symm) (R.o j e)
theorem Hp.set(R:Hp B hs F Z){i:Nat}(hi:i<hs.length)(o':O):Hp B (hs.set i o') F (Z.set (B i) o'):=R.put hi bB.refl.off.set aC
theorem Hp.congr(R:Hp B hs F Z)(h:∀ i,i<hs.length→B' i=B i):Hp B' hs F Z:=
 ⟨fun i o e=>by refine af (h i (List.getElem?_eq_some_iff.mp e).1) ?_;exact R.o i e,fun i j hi hj e=>R.inj i j hi hj (by(refine bt (h i hi) ?_;refine bt (h j hj) ?_);exact e),R.fr,fun i hi=>by refine af (h i hi) ?_;exact R.off i hi⟩
theorem cC{bs:List Addr}{i:Nat}(h:i<n):aL B n bs i=B i:=aH h
theorem eF{b:Addr}{bs:List Addr}:aL B n (b::bs) n=b:=(aE (Nat.lt_irrefl n)).trans (by rw[Nat.sub_self];rfl)
theorem qE{b:Addr}{bs:List Addr}(i:Nat):aL B n (b::bs) i=aL (aL B n [b]) (n+1) bs i:=by
 refine Fu (Nat.lt_trichotomy i n) (fun h=>?_) (fun h=>?_) (fun h=>?_)
 ·(refine ak (cC h) ?_;refine af (cC (Nat.lt_succ_of_lt h)) ?_;(refine af (cC h) ?_;with_reducible rfl))
 ·subst h;(refine ak (eF) ?_;refine af (cC (Nat.lt_succ_self _)) ?_;(refine af eF ?_;with_reducible rfl))
 ·refine aI (Nat.exists_eq_add_of_lt h) fun j e1=>?_;obtain rfl:=e1
  refine(aE (by lia)).trans (ak ?_ (aE (by lia)).symm)
  (refine af (show n+j+1 - n=j+1 by lia) ?_;refine af (show n+j+1 - (n+1)=j by lia) ?_);rfl
theorem Hp.new(R:Hp B hs F Z)(hn:hs.length=n){b:Addr}(hb:Z b=none)(o:O):Hp (aL B n [b]) (hs++[o]) F (Z.set b o):=by
 have ne:∀ i,i<n→B i≠b:=fun i hi q=>by
  have:=R.o i (List.getElem?_eq_getElem (hn▸hi:i<hs.length));(rewrite[q] at this;rw[hb] at this);exact ns this
 have key:∀ i,i<(hs++[o]).length→i<n∧aL B n [b] i=B i∨i=n∧aL B n [b] i=b:=fun i hi=>by
  (rewrite[List.length_append] at hi;rw[hn] at hi)
  refine Or.elim (Nat.lt_or_eq_of_le (Nat.le_of_lt_succ hi)) (fun h=>?_) (fun h=>?_)
  ·exact .inl ⟨h,cC h⟩
  ·exact .inr ⟨h,h▸eF⟩
 refine⟨fun i o' e=>?_,fun i j hi hj e=>?_,R.fr.set (R.fr.fresh hb),fun i hi=>?_⟩
 ·rcases key i (List.getElem?_eq_some_iff.mp e).1 with⟨h,q⟩ | ⟨h,q⟩
  ·refine af q ?_;rw[List.getElem?_append_left (hn▸h)] at e;exact bw (ne i h) (R.o i e)
  ·subst h;(rewrite[← hn] at e;rw[List.getElem?_concat_length] at e);refine af (aQ e) ?_;refine af q ?_;exact aC
 ·rcases key i hi with⟨h,q⟩ | ⟨h,q⟩<;>rcases key j hj with⟨h',q'⟩ | ⟨h',q'⟩<;>(rewrite[q] at e;rw[q'] at e)
  ·exact R.inj i j (hn▸h) (hn▸h') e
  ·exact absurd e (ne i h)
  ·exact absurd e.symm (ne j h')
  ·(refine ak (h) ?_;(refine af h' ?_;with_reducible rfl))
 ·rcases key i hi with⟨h,q⟩ | ⟨h,q⟩
  ·refine af q ?_;exact R.off i (hn▸h)
  ·refine af q ?_;exact R.fr.fresh hb
theorem xL{K:aO}{U:Env}(l:List V):Es K U Z (l.map E.k) l:=by
 induction l with
 |nil=>exact ae
 |cons v l ih=>exact ab aj ih
theorem f9{K:aO}{U:Env}{Q:bL}{o e:E}{m:Nat}{r:List C}(h:WE K e U (fun v Zq=>WE K o U (fun a Zr=>∃ Z',dg Zr a m v=some Z'∧SS K r U Q Z') Zq) Z):SS K (.set (.att o m) e::r) U Q Z:=by
 simp only[fT,mY] at *;exact h
theorem j2{K:aO}{U:Env}{Q:bL}{r:List C}{j c:Nat}(its:List (Nat×It)):∀ {B:Nat→Addr} {hs:List O} {Z:H} {fs:List (Nat×V)} {n:Nat},Hp B hs F Z→hs.length=n→hs[j]? = some (.inst c fs)→U 0=some (.ref (B j))→its.all (Cf c U)=true→(∀ p ∈ xK its,∀ Z',jo (B j) Z Z'→Ev K U Z' p.1 p.2)→
  (∀ bs Z',jo (B j) Z Z'→Hp (aL B n bs) (hs.set j (.inst c (ft U bs 0 fs its))++vU its) F Z'→SS K r U Q Z')→SS K (wC its++r) U Q Z:=by
 induction its with
 |nil=>
  intro B hs Z fs n R hn hj h0 _ _ k
  obtain⟨lj,ej⟩:=List.getElem?_eq_some_iff.mp hj
  refine k [] Z bB.refl.off ?_
  have:hs.set j (.inst c (ft U [] 0 fs []))++vU []=hs:=by
   show hs.set j (.inst c fs)++[]=hs
   (rewrite[List.append_nil];refine bt ej ?_;rw[List.set_getElem_self])
  refine af this ?_
  exact R.congr fun i hi=>cC (hn▸hi)
 |cons x its ih=>
  intro B hs Z fs n R hn hj h0 ok hev k
  obtain⟨m,it⟩:=x
  have ok:=Bool.and_eq_true_iff.mp ok
  have ok1:=Bool.and_eq_true_iff.mp ok.1
  have lj:=(List.getElem?_eq_some_iff.mp hj).1
  have pure:∀ v,Ev K U Z it.e v→it.o=none→it.v U=v→(∀ p ∈ xK its,p ∈ xK ((m,it)::its))→SS K (wC ((m,it)::its)++r) U Q Z:=fun v he ho hv hm=>by
   refine iG he (ac h0) (R.o j hj) ok1.1 ?_
   have x1:jo (B j) Z _:=bB.refl.off.set (o:=.inst c (cZ fs m v))
   refine ih (R.set lj _) (List.length_set.trans hn) (List.getElem?_set_self lj) h0 ok.2 (fun p hp Z' x=>hev p (hm p hp) Z' (x1.trans x)) fun bs Z' x R'=>k bs Z' (x1.trans x) ?_
   rw[List.set_set] at R'
   have e1:ft U bs 0 fs ((m,it)::its)=ft U bs 0 (cZ fs m v) its:=by
    show(match it.o with | none=>ft U bs 0 (cZ fs m (it.v U)) its | some _=>ft U bs 1 (cZ fs m (.ref (bs.getD 0 0))) its)=_
    (refine af ho ?_;(refine af hv ?_;with_reducible rfl))
   have e2:vU ((m,it)::its)=vU its:=List.filterMap_cons_none ho
   (refine af e1 ?_;refine af e2 ?_);exact R'
  have cont:∀ o,it.o=some o→(∀ P:aP,(∀ a,Z a=none→P (.ref a) (Z.set a o))→WE K it.e U P Z)→(∀ p ∈ xK its,p ∈ xK ((m,it)::its))→SS K (wC ((m,it)::its)++r) U Q Z:=fun o ho he hm=>by
   refine f9 (he _ fun b hb=>?_)
   have R1:=R.new hn hb o
   have jn:j<n:=hn▸lj
   have ej:aL B n [b] j=B j:=cC jn
   have hj1:(hs++[o])[j]? = some (.inst c fs):=(List.getElem?_append_left lj).trans hj
   have l1:(hs++[o]).length=n+1:=by(refine ak (List.length_append) ?_;refine af hn ?_);rfl
   have x0:jo (B j) Z (Z.set b o):=(bB.new hb).off
   have x1:jo (B j) Z ((Z.set b o).set (B j) (.inst c (cZ fs m (.ref b)))):=x0.set
   refine bk (ac h0) ⟨_,cj (ej▸R1.o j hj1) ok1.1,?_⟩
   have R2:=R1.set (i:=j) (l1▸Nat.lt_succ_of_lt jn) (.inst c (cZ fs m (.ref b)))
   rw[ej] at R2
   refine ih (B:=aL B n [b]) (n:=n+1) R2 (List.length_set.trans l1) (List.getElem?_set_self (l1▸Nat.lt_succ_of_lt jn)) (h0.trans (by(refine af ej ?_;with_reducible rfl))) ok.2 (fun p hp Z' x=>hev p (hm p hp) Z' (x1.trans (ej▸x))) fun bs Z' x R'=>k (b::bs) Z' (x1.trans (ej▸x)) ?_
   (rewrite[List.set_set] at R';rewrite[List.set_append_left _ _ lj] at R';rw[List.append_assoc] at R')
   have e1:ft U (b::bs) 0 fs ((m,it)::its)=ft U bs 0 (cZ fs m (.ref b)) its:=by
    show(match it.o with | none=>ft U (b::bs) 0 (cZ fs m (it.v U)) its | some _=>ft U (b::bs) 1 (cZ fs m (.ref b)) its)=_
    refine af ho ?_;exact rH its 0 _
   have e2:vU ((m,it)::its)=o::vU its:=List.filterMap_cons_some ho
   (refine af e1 ?_;refine af e2 ?_)
   exact R'.congr fun i za=>qE i
  induction it using It.casesOn with
  |x i=>
   induction hi:U i using Option.casesOn with
   |none=>have:=ok1.2;dsimp only at this;rw[hi] at this;exact ff this
   |some v=>exact pure v (ac hi) rfl (by show(U i).getD .none=v;refine af hi ?_;rfl) fun p h=>h
  |k v=>exact pure v aj rfl rfl fun p h=>h
  |ev e v=>exact pure v (hev (e,v) (.head _) Z bB.refl.off) rfl rfl fun p h=>.tail _ h
  |lst l=>exact cont _ rfl (fun P q=>bz (xL l) q) fun p h=>h
  |dct=>exact cont _ rfl (fun P q=>gy q) fun p h=>h
theorem gh{c m:Nat}{Fn:Mine.Fn}(hF:(po (some c) 89).map FD.fn=some Fn)(its:List (Nat×It))(r:List C){a:Addr}{vs:List V}{P:aP}(hb:Fn.body=wC its++r)(hl:Fn.ps.length=vs.length+1)(R:Hp B hs F Z)(hn:hs.length=n)(ha:Z a=none)
  (h0:bV Fn.ps (.ref a::vs) Env.nil 0=some (.ref a)) (ok:its.all (Cf c (bV Fn.ps (.ref a::vs) Env.nil))=true) (hev:∀ p ∈ xK its,∀ Z',jo a (Z.set a (.inst c [])) Z'→Ev (a9 m) (bV Fn.ps (.ref a::vs) Env.nil) Z' p.1 p.2)
  (k:∀ bs Z',Hp (aL B n (a::bs)) (hs++.inst c (ft (bV Fn.ps (.ref a::vs) Env.nil) bs 0 [] its)::vU its) F Z'→SS (a9 m) r (bV Fn.ps (.ref a::vs) Env.nil) (fy P) Z'):a9 (m+1) (some c) 89 (.ref a::vs) P (Z.set a (.inst c [])):=by
 have R1:=R.new hn ha (.inst c [])
 have l1:(hs++[O.inst c []]).length=n+1:=by(refine ak (List.length_append) ?_;refine af hn ?_);rfl
 refine br hF hl ?_
 refine af hb ?_
 have e:aL B n [a] n=a:=eF
 refine j2 its R1 l1 (j:=n) (by refine bt hn ?_;exact List.getElem?_concat_length) (h0.trans (by(refine af e ?_;with_reducible rfl))) ok (e.symm▸hev) fun bs Z' za R'=>k bs Z' ?_
 (rewrite[← hn] at R';rewrite[List.set_append_right _ _ (Nat.le_refl _)] at R';rewrite[Nat.sub_self] at R';rewrite[List.append_assoc] at R';rw[hn] at R')
 exact R'.congr fun i za=>qE i
end
noncomputable def zh(B:Nat→Addr)(o0 o1 o2:O)(rs:List V)(ix:List (V×V))(dl wl ol:List V)(tl:List O):List O:=
 o0::o1::o2::.inst 78 [(90,.ref (B 4)),(91,.ref (B 5)),(92,.ref (B 6)),(93,.ref (B 7)),(94,.ref (B 8))]::.list rs::.dict ix::.list dl::.list wl::.list ol::tl
noncomputable def rw_(k:Nat):V:=if k<16 then .tup [.int 1,.int k] else if k=16 then .tup [.int 3,.int 80,.tup []] else if k=17 then .tup [.int 2,.int 70,.tup []] else .tup [.int 3,.int (64+(k - 18:Nat)),.tup []]
noncomputable def fA(N:Nat):List V:=(List.range N).map rw_
noncomputable def gZ(N:Nat):List (V×V):=(List.range N).map fun i=>(rw_ i,.int i)
noncomputable def iL(N:Nat):List V:=List.replicate N (.int 1)
noncomputable def nA(N:Nat):List V:=List.replicate N (.int 0)
noncomputable def ku(B:Nat→Addr)(o0 o1 o2:O)(N:Nat)(tl:List O):List O:=zh B o0 o1 o2 (fA N) (gZ N) (iL N) (iL N) (nA N) tl
theorem BL{N i:Nat}(hN:N<26)(hi:i<N):dJ (rw_ i) (rw_ N)=false:=by
 have:=List.all_eq_true.mp (List.all_eq_true.mp (show(List.range 26).all (fun N=>(List.range N).all fun i=>!dJ (rw_ i) (rw_ N))=true by kernel_rfl) N (List.mem_range.mpr hN)) i (List.mem_range.mpr hi)
 exact(Bool.not_eq_true' _).mp this
theorem sM{N:Nat}(hN:N<26):key (rw_ N)=true:=List.all_eq_true.mp (show(List.range 26).all (fun N=>key (rw_ N))=true by kernel_rfl) N (List.mem_range.mpr hN)
theorem zb(N:Nat):mK (rw_ N)=3:=by
 unfold rw_;split
 ·rfl
 ·split
  ·rfl
  ·split<;>rfl
theorem nP{l:List Nat}{k:V}(h:∀ i ∈ l,dJ (rw_ i) k=false):aJ (l.map fun i=>(rw_ i,V.int i)) k=none:=by
 induction l with
 |nil=>rfl
 |cons i l ih=>exact(aE (by refine af (h i (.head _)) ?_;exact Bool.false_ne_true)).trans (ih fun j hj=>h j (.tail _ hj))
theorem il{k v:V}(es:List (V×V))(h:aJ es k=none):bJ es k v=es++[(k,v)]:=by
 induction es with
 |nil=>rfl
 |cons e es ih=>
  by_cases c:dJ e.1 k=true
  ·have:aJ (e::es) k=some e.2:=aH c
   rw[this] at h;exact sn h
  ·exact(aE c).trans (congrArg _ (ih ((aE c).symm.trans h)))
theorem nQ{N:Nat}(hN:N<26):aJ (gZ N) (rw_ N)=none:=nP fun i hi=>BL hN (List.mem_range.mp hi)
theorem l9{N:Nat}{k:V}(hk:key k=true)(h3:mK k=3):be (gZ N) k=true:=by
 induction N using Nat.casesAuxOn with
 |zero=>exact Bool.and_eq_true_iff.mpr ⟨hk,rfl⟩
 |succ N=>
  unfold gZ
  refine af List.range_succ_eq_map ?_
  exact Bool.and_eq_true_iff.mpr ⟨hk,by refine af h3 ?_;rfl⟩
theorem qY{N:Nat}:fA N++[rw_ N]=fA (N+1):=by unfold fA;(refine af List.range_succ ?_;refine af List.map_append ?_);rfl
theorem tQ{N:Nat}(hN:N<26):bJ (gZ N) (rw_ N) (.int N)=gZ (N+1):=by
 refine ak (il _ (nQ hN)) ?_;unfold gZ;(refine af List.range_succ ?_;refine af List.map_append ?_);rfl
section
variable {n:Nat} {Q:aP} {B:Nat→Addr} {F Z:H} {o0 o1 o2:O} {rs:List V} {ix:List (V×V)} {dl wl ol:List V} {tl:List O}
theorem iU{i:Nat}(h:i<9):i<(zh B o0 o1 o2 rs ix dl wl ol tl).length:=Nat.lt_of_lt_of_le h (Nat.le_add_left 9 tl.length)
theorem qM{K:aO}{U:Env}{Q:bL}{r:List C}{er en ed ew eo:E}{row num d w o:V}(R:Hp B (zh B o0 o1 o2 rs ix dl wl ol tl) F Z)(h0:U 0=some (.ref (B 3)))
  (her:∀ Z,Ev K U Z er row) (hen:∀ Z,Ev K U Z en num) (hed:∀ Z,Ev K U Z ed d) (hew:∀ Z,Ev K U Z ew w) (heo:∀ Z,Ev K U Z eo o) (hk:be ix row=true) (l1:rs.length<bM) (l2:ix.length<bM) (l3:dl.length<bM) (l4:wl.length<bM) (l5:ol.length<bM)
  (k:∀ Z',Hp B (zh B o0 o1 o2 (rs++[row]) (bJ ix row num) (dl++[d]) (wl++[w]) (ol++[o]) tl) F Z'→SS K r U Q Z') :
  SS K (.ex (.mth (.att (.x 0) 90) 95 [er])::.set (.idx (.att (.x 0) 91) er) en::.ex (.mth (.att (.x 0) 92) 95 [ed])::.ex (.mth (.att (.x 0) 93) 95 [ew])::.ex (.mth (.att (.x 0) 94) 95 [eo])::r) U Q Z:=by
 refine bI (bW h0 (R.o 3 rfl) rfl rfl) (R.o 4 rfl) (her _) l1 ?_
 replace R:=R.set (i:=4) (iU (by decide)) (.list (rs++[row]))
 generalize Z.set _ _=Z at R ⊢
 refine dQ (hen _) (bW h0 (R.o 3 rfl) rfl rfl) (her _) (bp (R.o 5 rfl) hk l2) ?_
 replace R:=R.set (i:=5) (iU (by decide)) (.dict (bJ ix row num))
 generalize Z.set _ _=Z at R ⊢
 refine bI (bW h0 (R.o 3 rfl) rfl rfl) (R.o 6 rfl) (hed _) l3 ?_
 replace R:=R.set (i:=6) (iU (by decide)) (.list (dl++[d]))
 generalize Z.set _ _=Z at R ⊢
 refine bI (bW h0 (R.o 3 rfl) rfl rfl) (R.o 7 rfl) (hew _) l4 ?_
 replace R:=R.set (i:=7) (iU (by decide)) (.list (wl++[w]))
 generalize Z.set _ _=Z at R ⊢
 refine bI (bW h0 (R.o 3 rfl) rfl rfl) (R.o 8 rfl) (heo _) l5 ?_
 exact k _ (R.set (i:=8) (iU (by decide)) (.list (ol++[o])))
theorem oy{K:aO}{U:Env}{Q:bL}{r:List C}{er en ed ew eo:E}{N:Nat}(R:Hp B (ku B o0 o1 o2 N tl) F Z)(hN:N<26)(h0:U 0=some (.ref (B 3)))
  (her:∀ Z,Ev K U Z er (rw_ N)) (hen:∀ Z,Ev K U Z en (.int N)) (hed:∀ Z,Ev K U Z ed (.int 1)) (hew:∀ Z,Ev K U Z ew (.int 1)) (heo:∀ Z,Ev K U Z eo (.int 0)) (k:∀ Z',Hp B (ku B o0 o1 o2 (N+1) tl) F Z'→SS K r U Q Z') :
  SS K (.ex (.mth (.att (.x 0) 90) 95 [er])::.set (.idx (.att (.x 0) 91) er) en::.ex (.mth (.att (.x 0) 92) 95 [ed])::.ex (.mth (.att (.x 0) 93) 95 [ew])::.ex (.mth (.att (.x 0) 94) 95 [eo])::r) U Q Z:=by
 have lt:∀ m,m≤N→m<bM:=fun m h=>Nat.lt_of_le_of_lt h (Nat.lt_trans hN (by decide))
 have ll:∀ v:V,(List.replicate N v).length<bM:=fun v=>lt _ (by refine af List.length_replicate ?_;exact Nat.le_refl _)
 refine qM R h0 her hen hed hew heo (l9 (sM hN) (zb N)) (lt _ (by unfold fA;(rewrite[List.length_map];refine af List.length_range ?_);exact Nat.le_refl _)) (lt _ (by unfold gZ;(rewrite[List.length_map];refine af List.length_range ?_);exact Nat.le_refl _)) (ll _) (ll _) (ll _) fun Z' R'=>k Z' ?_
 have e:∀ v:V,List.replicate N v++[v]=List.replicate (N+1) v:=fun v=>List.replicate_succ'.symm
 (rewrite[qY] at R';rewrite[tQ hN] at R';rewrite[show iL N++[.int 1]=iL (N+1) from e _] at R';rw[show nA N++[.int 0]=nA (N+1) from e _] at R')
 exact R'
theorem GN{o0 o1 o2:O}{a:Addr}(R:Hp B [o0,o1,o2] F Z)(ha:Z a=none)(q:∀ bs Z',Hp (aL B 3 (a::bs)) (ku (aL B 3 (a::bs)) o0 o1 o2 16 []) F Z'→Q .none Z'):a9 (n+1) (some 78) 89 [.ref a] Q (Z.set a (.inst 78 [])):=by
 refine gh rC [(90,.lst []),(91,.dct),(92,.lst []),(93,.lst []),(94,.lst [])] _ rfl rfl R rfl ha rfl rfl (fun p h=>nomatch h) fun bs Z' R'=>?_
 replace q:=q bs
 change Hp _ (ku (aL B 3 (a::bs)) o0 o1 o2 0 []) F Z' at R'
 have ea:some (V.ref a)=some (V.ref (aL B 3 (a::bs) 3)):=by(refine af eF ?_;with_reducible rfl)
 generalize aL B 3 (a::bs)=B' at R' q ea
 refine ch (v:=.rng ((16:Nat):Int)) (a8 (vs:=[.int 16]) (ab aj ae) fun Q q=>⟨_,rfl,⟨by decide,by decide⟩,q⟩) rfl ?_
 refine g7 (N:=16) (fun i U Z'=>Hp B' (ku B' o0 o1 o2 i []) F Z'∧U 0=some (.ref a)) ?_ ⟨R',rfl⟩ fun U Z' h=>ay (q Z' h.1)
 rintro i hi U Z1 ⟨R1,h0⟩ P hP _
 refine av (v:=rw_ i) (fg (aF (ab aj (ab (ac rfl) ae))) (aH hi).symm) (oy (er:=.x 2) (en:=.x 1) R1 (Nat.lt_trans hi (by decide)) (h0.trans ea) (fun za=>ac rfl) (fun za=>ac rfl) (fun za=>aj) (fun za=>aj) (fun za=>aj) fun Z' R2=>ay (hP _ _ ⟨R2,h0⟩))
theorem FT{t tid:Int}(ht:t=2∨t=3):Cv (a9 (n+1)) none 0 [.tup [.int t,.int tid,.tup []]] Z (.tup []):=by
 refine bj xQ rfl fun za q=>?_
 refine zD ht ?_ ?_;all_goals clear ht
 ·(apply av;apply ah;exact ac rfl;exact aj;rfl;apply aA;apply bd;apply du;apply ai;apply aq;exact ac rfl;exact ao;rfl;apply ax;apply ah;exact ac rfl;exact aj;rfl)
  exact q
 ·(apply av;apply ah;exact ac rfl;exact aj;rfl;apply aA;apply bd;apply aZ;apply ai;apply aq;exact ac rfl;exact ao;rfl;apply bc;apply ai;apply aq;exact ac rfl;exact ao;rfl;apply ax;apply ah;exact ac rfl;exact aj;rfl)
  exact q
theorem FU{k:Int}:Cv (a9 (n+1)) none 0 [.tup [.int 4,.int k]] Z (.tup [.int k]):=by
 refine bj xQ rfl fun za q=>?_
 (apply av;apply ah;exact ac rfl;exact aj;rfl;apply au;apply bd;apply aZ;apply ai;apply aq;exact ac rfl;exact ao;rfl;apply bc;apply ai;apply aq;exact ac rfl;exact ao;rfl;apply aA;apply bd;apply du;apply ai;apply aq;exact ac rfl;exact ao;rfl;apply ax;apply aF;apply ab;apply ah;exact ac rfl;exact aj;rfl;exact ae)
 exact q
theorem FQ{t:Int}(ht:t=2∨t=3∨t=4):Cv (a9 (n+1)) none 1 [.int t] Z (.int 1):=by
 refine bj CR rfl fun za q=>?_
 refine FV ht ?_ ?_ ?_;all_goals clear ht
 ·(apply aA;apply bd;apply du;apply ai;apply aq;exact ac rfl;exact ao;rfl;apply ax;exact aj)
  exact q
 ·(apply aA;apply bd;apply aZ;apply ai;apply aq;exact ac rfl;exact ao;rfl;apply du;apply ai;apply aq;exact ac rfl;exact ao;rfl;apply ax;exact aj)
  exact q
 ·(apply aA;apply bd;apply aZ;apply ai;apply aq;exact ac rfl;exact ao;rfl;apply aZ;apply ai;apply aq;exact ac rfl;exact ao;rfl;apply bc;apply ai;apply aq;exact ac rfl;exact ao;rfl;apply ax;exact aj)
  exact q
theorem Hm{t:Int}(ht:t=2∨t=3):Cv (a9 (n+1)) none 2 [.int t] Z (.int 3):=by
 refine bj xP rfl fun za q=>?_
 refine zD ht ?_ ?_;all_goals clear ht
 ·(apply aA;apply bd;apply du;apply ai;apply aq;exact ac rfl;exact ao;rfl;apply ax;exact aj)
  exact q
 ·(apply aA;apply bd;apply aZ;apply ai;apply aq;exact ac rfl;exact ao;rfl;apply bc;apply ai;apply aq;exact ac rfl;exact ao;rfl;apply ax;exact aj)
  exact q
theorem Hn:Cv (a9 (n+1)) none 2 [.int 4] Z (.int 2):=by
 refine bj xP rfl fun za q=>?_
 (apply au;apply bd;apply aZ;apply ai;apply aq;exact ac rfl;exact ao;rfl;apply bc;apply ai;apply aq;exact ac rfl;exact ao;rfl;apply au;apply ai;apply aq;exact ac rfl;exact ao;rfl;apply ax;exact aj)
 exact q
theorem G7{u:V}:Cv (a9 (n+1)) none 5 [u,.tup []] Z .none:=bj CP rfl fun za q=>ch (ac rfl) rfl (b9 (ay q))
theorem Hb{t tid:Int}{u:V}(h:0<tid)(hg:gU.contains tid=false):Cv (a9 (n+2)) none 4 [u,.tup [.int t,.int tid,.tup []]] Z .none:=by
 refine bj CQ rfl fun za q=>au (bd (aZ (ai (aq (aR rfl rfl) bT) (bH (Int.not_le.mpr h))) (bc (ai (aq (aR rfl rfl) kb) hg)))) (jF (az (vs:=[u,.tup []]) (ab (ac rfl) (ab (aR rfl rfl) ae)) rfl G7) (ay q))
theorem Hj{t tid:Int}{u:V}(ht:t=2∨t=3)(h:0<tid)(hg:gU.contains tid=false):Cv (a9 (n+3)) none 3 [u,.tup [.int t,.int tid,.tup []]] Z .none:=by
 refine bj xO rfl fun za q=>?_
 have e0:=FT (n:=n+1) (tid:=tid) (Z:=Z) ht
 have e2:=Hm (n:=n+1) (Z:=Z) ht
 have e4:=Hb (n:=n) (t:=t) (Z:=Z) (u:=u) h hg
 rcases ht with rfl | rfl
 ·(apply au;apply bd;apply aZ;apply ai;apply aq;apply a8;apply ab;exact ac rfl;exact ae;exact fun za q=>q;exact ao;rfl;apply aZ;apply ai;apply aq;apply ah;exact ac rfl;exact aj;rfl;exact bT;rfl;apply bc;apply ai;apply aq;apply ah;exact ac rfl;exact aj;rfl;exact cu;rfl;apply av;apply ah;exact ac rfl;exact aj;rfl;apply au;apply ai;apply aM;apply a8;apply ab;exact ac rfl;exact ae;exact fun za q=>q;apply az;apply ab;exact ac rfl;exact ae;rfl;assumption;exact cB;rfl)
  refine ch (az (vs:=[.tup [.int 2,.int tid,.tup []]]) (ab (ac rfl) ae) rfl e0) rfl (b9 ?_)
  (apply aA;apply bd;apply du;apply ai;apply aq;exact ac rfl;exact ao;rfl;apply jF;apply az;apply ab;exact ac rfl;apply ab;exact ac rfl;exact ae;rfl;assumption;apply ay;apply ay)
  exact q
 ·(apply au;apply bd;apply aZ;apply ai;apply aq;apply a8;apply ab;exact ac rfl;exact ae;exact fun za q=>q;exact ao;rfl;apply aZ;apply ai;apply aq;apply ah;exact ac rfl;exact aj;rfl;exact bT;rfl;apply bc;apply ai;apply aq;apply ah;exact ac rfl;exact aj;rfl;exact cu;rfl;apply av;apply ah;exact ac rfl;exact aj;rfl;apply au;apply ai;apply aM;apply a8;apply ab;exact ac rfl;exact ae;exact fun za q=>q;apply az;apply ab;exact ac rfl;exact ae;rfl;assumption;exact cB;rfl)
  refine ch (az (vs:=[.tup [.int 3,.int tid,.tup []]]) (ab (ac rfl) ae) rfl e0) rfl (b9 ?_)
  (apply aA;apply bd;apply aZ;apply ai;apply aq;exact ac rfl;exact ao;rfl;apply bc;apply ai;apply aq;exact ac rfl;exact ao;rfl;apply jF;apply az;apply ab;exact ac rfl;apply ab;exact ac rfl;exact ae;rfl;assumption;apply ay;apply ay)
  exact q
end
section
variable {n:Nat} {Q:aP} {B:Nat→Addr} {F Z:H} {o0 o1 o2:O} {rs:List V} {ix:List (V×V)} {dl wl ol:List V} {tl:List O}
theorem qZ{N k:Nat}(h:k<N):(fA N)[k]? = some (rw_ k):=by skip;(refine ak (List.getElem?_map) ?_;refine af (List.getElem?_range h) ?_);rfl
theorem gB{N:Nat}:(fA N).length=N:=by delta fA;(rewrite[List.length_map];(refine ak (List.length_range) ?_;with_reducible rfl))
theorem nt{N k:Nat}(h:k<N):(iL N)[k]? = some (.int 1):=by skip;(refine ak (List.getElem?_replicate) ?_;(refine ak (aH h) ?_;with_reducible rfl))
theorem tA{N k:Nat}(h:k<N):(nA N)[k]? = some (.int 0):=by skip;(refine ak (List.getElem?_replicate) ?_;(refine ak (aH h) ?_;with_reducible rfl))
theorem qA{K:aO}{U:Env}{i:Nat}{e:E}{c m:Nat}{a b:Addr}{fs:List (Nat×V)}{xs:List V}{k:Nat}{v:V}(h0:U i=some (.ref a))(ho:Z a=some (.inst c fs))(hc:(bo c).contains m=true)(hf:dK fs m=some (.ref b))(hb:Z b=some (.list xs))(he:Ev K U Z e (.int k))(hv:xs[k]? = some v) :
  Ev K U Z (.idx (.att (.x i) m) e) v:=ah (bW h0 ho hc hf) he (aK hb (Int.natCast_nonneg _) (by rw[Int.toNat_natCast];exact hv))
theorem BX(R:Hp B (ku B o0 o1 o2 N tl) F Z){k:Nat}(h:k<N):Cv (a9 (n+1)) (some 78) 96 [.ref (B 3),.int k] Z (rw_ k):=by
 refine bj kQ rfl fun za q=>au (bd (aZ (ai (aq (ac rfl) aW) (bH (Int.not_lt.mpr (Int.natCast_nonneg k)))) (bc (ai (aM (ac rfl) (a8 (vs:=[.ref (B 4)]) (ab (bW rfl (R.o 3 rfl) rfl rfl) ae) (bK (R.o 4 rfl))) cK) (bH ?_))))) (ax (qA rfl (R.o 3 rfl) rfl rfl (R.o 4 rfl) (ac rfl) (qZ h)) q)
 refine af gB ?_;exact Int.not_le.mpr (Int.ofNat_lt.mpr h)
theorem BW{N:Nat}(R:Hp B (ku B o0 o1 o2 N tl) F Z)(hN:N<26){t tid:Int}(e:rw_ N=.tup [.int t,.int tid,.tup []])(ht:t=2∨t=3)(h:0<tid)(hg:gU.contains tid=false)(q:∀ Z',Hp B (ku B o0 o1 o2 (N+1) tl) F Z'→Q (.int N) Z') :
  a9 (n+4) (some 78) 98 [.ref (B 3),.tup [.int t,.int tid,.tup []]] Q Z:=by
 have hk:be (gZ N) (.tup [.int t,.int tid,.tup []])=true:=l9 (e▸sM hN) rfl
 have hf:aJ (gZ N) (.tup [.int t,.int tid,.tup []])=none:=e▸nQ hN
 have t67:decide (t=6)=false∧decide (t=7)=false:=by refine zD ht ?_ ?_;all_goals clear ht<;>exact⟨rfl,rfl⟩
 refine br kP rfl (av (v:=.int (-1)) (fg (gK (bW rfl (R.o 3 rfl) rfl rfl) (R.o 5 rfl) (ac rfl) (fh aj) hk) (by refine af hf ?_;rfl)) (au (ai (aq (ac rfl) cK) rfl) (jF (az (vs:=[.ref (B 3),.tup [.int t,.int tid,.tup []]]) (ab (ac rfl) (ab (ac rfl) ae)) rfl (Hj ht h hg)) (av aj (av aj (av aj ?_))))))
 refine au (bd (aZ (ai (aq (aR rfl rfl) ao) t67.1) (bc (ai (aq (aR rfl rfl) ao) t67.2)))) (av (az (vs:=[.int t]) (ab (aR rfl rfl) ae) rfl (FQ (ht.elim .inl fun h=>.inr (.inl h)))) (ch (az (vs:=[.tup [.int t,.int tid,.tup []]]) (ab (ac rfl) ae) rfl (FT ht)) rfl (b9 ?_)))
 refine au (ai (aq (ac rfl) cu) rfl) (au (ai (aq (ac rfl) cu) rfl) (av (v:=.int N) (fg (a8 (vs:=[.ref (B 4)]) (ab (bW rfl (R.o 3 rfl) rfl rfl) ae) (bK (R.o 4 rfl))) (by(refine af gB ?_;with_reducible rfl))) ?_))
 exact oy (er:=.x 1) (en:=.x 8) (ed:=.x 3) (ew:=.x 4) (eo:=.x 5) R hN rfl (fun za=>fg (ac rfl) e.symm) (fun za=>ac rfl) (fun za=>ac rfl) (fun za=>ac rfl) (fun za=>ac rfl) fun Z' R'=>ax (ac rfl) (q Z' R')
theorem FC{N:Nat}(R:Hp B (ku B o0 o1 o2 N tl) F Z)(hN:N<26){tid:Int}(e:rw_ N=.tup [.int 3,.int tid,.tup []])(h:0<tid)(hg:gU.contains tid=false)(q:∀ Z',Hp B (ku B o0 o1 o2 (N+1) tl) F Z'→Q (.int N) Z') :
  a9 (n+5) none 8 [.ref (B 3),.int tid,.tup []] Q Z:=
 br CK rfl (au (ai (aq (ac rfl) kb) hg) (bP (oH (ac rfl) (R.o 3 rfl) rfl (ab (aF (ab aj (ab (ac rfl) (ab (ac rfl) ae)))) ae) (BW R hN e (.inr rfl) h hg q))))
theorem GV(R:Hp B (ku B o0 o1 o2 17 tl) F Z)(q:∀ Z',Hp B (ku B o0 o1 o2 18 tl) F Z'→Q (.int 17) Z') :
  a9 (n+5) none 7 [.ref (B 3),.int 70,.tup []] Q Z:=
 br CM rfl (au (ai (aq (ac rfl) kb) rfl) (bP (oH (ac rfl) (R.o 3 rfl) rfl (ab (aF (ab aj (ab (ac rfl) (ab (ac rfl) ae)))) ae) (BW R (by decide) rfl (.inl rfl) (by decide) rfl q))))
noncomputable def kG:V:=.tup [.int 4,.int 19]
theorem G2(R:Hp B (ku B o0 o1 o2 N tl) F Z)(h:19<N):Cv (a9 (n+2)) none 6 [.ref (B 3),.int 19] Z (.bool true):=
 bj CN rfl fun za q=>au (bd (aZ (ai (aq (ac rfl) ao) rfl) (bc (ai (aq (ac rfl) ao) rfl)))) (av (v:=.int 3) (ah (ua (ac rfl) (R.o 3 rfl) rfl (ab (ac rfl) ae) (BX R (k:=19) h)) aj rfl) (ax (nW (du (ai (aq (ac rfl) bT) rfl))) q))
theorem Hk(R:Hp B (ku B o0 o1 o2 N tl) F Z)(h:19<N):Cv (a9 (n+3)) none 3 [.ref (B 3),kG] Z .none:=by
 have e0:=FU (n:=n+1) (k:=19) (Z:=Z)
 have e2:=Hn (n:=n+1) (Z:=Z)
 have e6:=G2 (n:=n) R h
 refine bj xO rfl fun za q=>?_
 (apply au;apply bd;apply aZ;apply ai;apply aq;apply a8;apply ab;exact ac rfl;exact ae;exact fun za q=>q;exact ao;rfl;apply aZ;apply ai;apply aq;apply ah;exact ac rfl;exact aj;rfl;exact bT;rfl;apply bc;apply ai;apply aq;apply ah;exact ac rfl;exact aj;rfl;exact cu;rfl;apply av;apply ah;exact ac rfl;exact aj;rfl;apply au;apply ai;apply aM;apply a8;apply ab;exact ac rfl;exact ae;exact fun za q=>q;apply az;apply ab;exact ac rfl;exact ae;rfl;assumption;exact cB;rfl)
 refine ch (az (vs:=[kG]) (ab (ac rfl) ae) rfl e0) rfl (bR rfl (jF (ua (ac rfl) (R.o 3 rfl) rfl (ab (ac rfl) ae) (BX R (k:=19) h)) (ay ⟨rfl,b9 ?_⟩)))
 (apply dn;apply bd;apply aZ;apply ai;apply aq;exact ac rfl;exact ao;rfl;apply bc;apply ai;apply aq;exact ac rfl;exact ao;rfl;apply dn;apply bd;apply aZ;apply ai;apply aq;exact ac rfl;exact ao;rfl;apply bc;apply ai;apply aq;exact ac rfl;exact ao;rfl;apply dn;apply ai;apply aq;exact ac rfl;exact ao;rfl;apply dn;apply ai;apply aq;exact ac rfl;exact ao;rfl;apply au;apply nX;apply ai;apply gL;apply ab;exact ac rfl;apply ab;apply ah;exact ac rfl;exact aj;rfl;exact ae;rfl;assumption;rfl;apply ay;apply ay;apply ay;apply ay;apply ay)
 exact q
noncomputable def zg(N:Nat):List (V×V):=gZ N++[(kG,.int N)]
noncomputable def Eo(B:Nat→Addr)(o0 o1 o2:O)(N:Nat)(tl:List O):List O:=zh B o0 o1 o2 (fA N++[kG]) (zg N) (iL N++[.int 2]) (iL N++[.int 2]) (nA N++[.int 0]) tl
theorem GU{N:Nat}(R:Hp B (ku B o0 o1 o2 N tl) F Z)(h:19<N)(hN:N<26)(q:∀ Z',Hp B (Eo B o0 o1 o2 N tl) F Z'→Q (.int N) Z'):a9 (n+5) none 9 [.ref (B 3),.int 19] Q Z:=by
 have hk:be (gZ N) kG=true:=l9 rfl rfl
 have hf:aJ (gZ N) kG=none:=nP fun i hi=>by
  have:=List.all_eq_true.mp (show(List.range 26).all (fun i=>!dJ (rw_ i) kG)=true by kernel_rfl) i (List.mem_range.mpr (Nat.lt_trans (List.mem_range.mp hi) hN))
  exact(Bool.not_eq_true' _).mp this
 refine br CI rfl (bP (oH (vs:=[kG]) (ac rfl) (R.o 3 rfl) rfl (ab (aF (ab aj (ab (ac rfl) ae))) ae) ?_))
 refine br kP rfl (av (v:=.int (-1)) (fg (gK (bW rfl (R.o 3 rfl) rfl rfl) (R.o 5 rfl) (ac rfl) (fh aj) hk) (by refine af hf ?_;rfl)) (au (ai (aq (ac rfl) cK) rfl) (jF (az (vs:=[.ref (B 3),kG]) (ab (ac rfl) (ab (ac rfl) ae)) rfl (Hk R h)) (av aj (av aj (av aj ?_))))))
 refine au (bd (aZ (ai (aq (aR rfl rfl) ao) rfl) (bc (ai (aq (aR rfl rfl) ao) rfl)))) (av (az (vs:=[.int 4]) (ab (aR rfl rfl) ae) rfl (FQ (.inr (.inr rfl)))) (ch (az (vs:=[kG]) (ab (ac rfl) ae) rfl FU) rfl (bR rfl ?_)))
 have d19:∀ U:Env,U 0=some (.ref (B 3))→U 7=some (.int 19)→Ev (a9 (n+3)) U Z (.idx (.att (.x 0) 92) (.x 7)) (.int 1):=fun U h0 h7=>qA (k:=19) h0 (R.o 3 rfl) rfl rfl (R.o 6 rfl) (ac h7) (nt h)
 refine aA (ai (aM (aB (w:=.int 2) (d19 _ rfl rfl) (ac rfl) fun Q q=>q) (ac rfl) cu) rfl) (av (v:=.int 2) (aB (d19 _ rfl rfl) (ac rfl) fun Q q=>q) (ay (jG (d:=2) rfl (qA (k:=19) (v:=.int 1) rfl (R.o 3 rfl) rfl rfl (R.o 7 rfl) (ac rfl) (nt h)) rfl (au (ai (aq (qA (k:=19) (v:=.int 0) rfl (R.o 3 rfl) rfl rfl (R.o 8 rfl) (ac rfl) (tA h)) ao) rfl) (ay ⟨rfl,b9 ?_⟩)))))
 refine au (ai (aq (ac rfl) cu) rfl) (au (ai (aq (ac rfl) cu) rfl) (av (v:=.int N) (fg (a8 (vs:=[.ref (B 4)]) (ab (bW rfl (R.o 3 rfl) rfl rfl) ae) (bK (R.o 4 rfl))) (by(refine af gB ?_;with_reducible rfl))) ?_))
 have lt:∀ m,m≤N→m<bM:=fun m h=>Nat.lt_of_le_of_lt h (Nat.lt_trans hN (by decide))
 have ll:∀ v:V,(List.replicate N v).length<bM:=fun v=>lt _ (by refine af List.length_replicate ?_;exact Nat.le_refl _)
 refine qM (er:=.x 1) (en:=.x 8) (ed:=.x 3) (ew:=.x 4) (eo:=.x 5) R rfl (fun za=>ac rfl) (fun za=>ac rfl) (fun za=>ac rfl) (fun za=>ac rfl) (fun za=>ac rfl) hk (by refine af gB ?_;exact lt _ (Nat.le_refl _)) (lt _ (by delta gZ;(rewrite[List.length_map];refine af List.length_range ?_);exact Nat.le_refl _)) (ll _) (ll _) (ll _) fun Z' R'=>ax (ac rfl) (q Z' ?_)
 rw[il _ hf] at R';exact R'
noncomputable def sB(B:Nat→Addr):O:=.inst 88 [(150,.ref (B 3)),(195,.ref (B 9)),(196,.ref (B 10)),(197,.ref (B 11)),(198,.ref (B 12)),(199,.ref (B 13)),(200,.int 0)]
noncomputable def DI(m:List V):List O:=[.list [.none],.list [.none],.list m,.dict [],.list []]
theorem Ea{K:Nat}{U:Env}{P:aP}(R:Hp B [o0,o1] F Z)(q:∀ B' Z',B' 0=B 0→B' 1=B 1→Hp B' (ku B' o0 o1 (sB B') 16 (DI [.none])) F Z'→P (.ref (B' 2)) Z'):WE (a9 (n+2)) (.call (.k (.fn 88)) []) U P Z:=by
 refine fM rfl rfl (cM fun a ha=>?_)
 have R1:=R.new rfl ha (.inst 88 [])
 refine br ri rfl (f9 (fM rfl rfl (cM fun b hb=>GN R1 hb fun bs Z1 R2=>⟨rfl,bk (ac rfl) ?_⟩)))
 have e0:aL (aL B 2 [a]) 3 (b::bs) 0=B 0:=rfl
 have e1:aL (aL B 2 [a]) 3 (b::bs) 1=B 1:=rfl
 have e2:aL (aL B 2 [a]) 3 (b::bs) 2=a:=rfl
 have e3:aL (aL B 2 [a]) 3 (b::bs) 3=b:=rfl
 generalize aL (aL B 2 [a]) 3 (b::bs)=B1 at R2 e0 e1 e2 e3
 (refine bt e2 ?_;refine bt e3 ?_)
 refine⟨_,cj (R2.o 2 rfl) rfl,?_⟩
 replace R2:=R2.set (i:=2) (iU (by decide)) (.inst 88 [(150,.ref (B1 3))])
 refine j2 (j:=2) (c:=88) (n:=9) [(195,.lst [.none]),(196,.lst [.none]),(197,.lst [.none]),(198,.dct),(199,.lst []),(200,.k (.int 0))] R2 rfl rfl rfl rfl (fun p h=>nomatch h) fun bs' Z2 za R3=>ay ⟨rfl,q (aL B1 9 bs') Z2 e0 e1 R3⟩
end
noncomputable def mJ(B:Nat→Addr)(at_:Nat):O:=.dict [(.sym 202,.ref (B 1)),(.sym 118,.int at_)]
noncomputable def S1(B:Nat→Addr)(nums:List Int)(at_ N:Nat)(tl:List O):List O:=ku B (mJ B at_) (.list (aN nums)) (sB B) N (DI [.none]++tl)
noncomputable def fU(m:Nat):List Int:=(List.range m).map fun(i:Nat)=>(18:Int)+i
noncomputable def yz:Nat→List (List Int)→List (V×V)
 |_,[]=>[]
 |k,r::rs=>(.int (k:Nat),.tup (aN r))::yz (k+1) rs
theorem mU{m:Nat}:fU (m+1)=fU m++[18+(m:Int)]:=by delta fU;(refine af List.range_succ ?_;refine ak (List.map_append) ?_);rfl
theorem hJ{m i:Nat}(h:i<m):(fU m)[i]? = some (18+(i:Int)):=by skip;(refine ak (List.getElem?_map) ?_;refine af (List.getElem?_range h) ?_);rfl
theorem vD{r:List Int}(rs:List (List Int)):∀ k,yz k (rs++[r])=yz k rs++[(.int (k+rs.length:Nat),.tup (aN r))]:=by
 induction rs with
 |nil=>intro k;rfl
 |cons a rs ih=>intro k;exact congrArg _ ((ih (k+1)).trans (by rw[Nat.add_right_comm];rfl))
theorem vu{a b:Int}:dJ (.int a) (.int b)=decide (a=b):=rfl
theorem iZ{a b:Int}{v:V}{es:List (V×V)}:aJ ((.int a,v)::es) (.int b)=if a=b then some v else aJ es (.int b):=by
 by_cases c:a=b
 ·refine af (aH c) ?_;exact aH (bS c)
 ·refine af (aE c) ?_;exact aE (by(refine af vu ?_;refine af (bH c) ?_);exact Bool.false_ne_true)
theorem mZ{k:Int}(rs:List (List Int)):∀ k0:Nat,aJ (yz k0 rs) (.int k)=(if(k0:Int)≤k then rs[(k - k0).toNat]? else none).map fun r=>.tup (aN r):=by
 induction rs with
 |nil=>intro k0;show none=_;split<;>rfl
 |cons r rs ih=>
  intro k0
  skip
  (refine ak (iZ) ?_;rw[ih])
  by_cases c:(k0:Int)=k
  ·refine af c ?_;(refine ak (aH rfl) ?_;refine af (aH (Int.le_refl _)) ?_;rw[Int.sub_self]);rfl
  ·refine ak (aE c) ?_
   by_cases d:(k0:Int)≤k
   ·refine aI ((⟨(k - k0 - 1).toNat,by lia⟩:∃ j:Nat,k=k0+1+j)) fun j e1=>?_;obtain rfl:=e1
    (refine af (aH (by lia)) ?_;refine af (aH d) ?_;refine af (show((k0:Int)+1+j - (k0+1:Nat)).toNat=j by lia) ?_;refine af (show((k0:Int)+1+j - k0).toNat=j+1 by lia) ?_);rfl
   ·(refine af (aE (by lia)) ?_;(refine af (aE d) ?_;with_reducible rfl))
noncomputable def qc(j:Nat)(r:List Int):Prop:=0<r.length∧r.length≤3∧∀ k ∈ r,k=19+(j:Int)∨k ∈ plain
noncomputable def CS(r:List Int):Prop:=0<r.length∧r.length≤3∧∀ k ∈ r,k ∈ plain
noncomputable def shD(deep:Nat)(bot:List Int)(rs:List (List Int)):List (V×V):=(.int (17+deep:Nat),.tup (aN bot))::yz 18 rs
theorem yx{deep:Nat}{bot:List Int}{rs:List (List Int)}(k:Int):be (shD deep bot rs) (.int k)=true:=rfl
theorem yy{deep:Nat}{bot:List Int}{rs:List (List Int)}(hd:deep=rs.length+1)(k:Int):aJ (shD deep bot rs) (.int k)=(aV (rs++[bot]) k).map fun r=>.tup (aN r):=by
 delta shD aV
 (refine ak (iZ) ?_;rw[mZ])
 by_cases c:((17+deep:Nat):Int)=k
 ·(refine ak (aH c) ?_;refine af (aH (by lia)) ?_;refine af (show(k - 18).toNat=rs.length by lia) ?_;refine af (List.getElem?_concat_length) ?_);rfl
 ·refine ak (aE c) ?_
  show(if(18:Int)≤k then rs[(k - 18).toNat]? else none).map _=_
  by_cases d:18≤k
  ·(refine af (aH d) ?_;refine af (aH d) ?_)
   by_cases l:(k - 18).toNat<rs.length
   ·(refine af (List.getElem?_append_left l) ?_;with_reducible rfl)
   ·(refine af (List.getElem?_eq_none (by lia)) ?_;(refine af (List.getElem?_eq_none (by rw[List.length_append];show rs.length+1≤_;lia)) ?_;with_reducible rfl))
  ·(refine af (aE d) ?_;(refine af (aE d) ?_;with_reducible rfl))
theorem BK{bot:List Int}{rs:List (List Int)}(h1:3≤rs.length)(h2:rs.length≤6)(hb:CS bot)(hr:∀ j r,rs[j]? = some r→qc j r):de (rs++[bot]):=by
 have l:(rs++[bot]).length=rs.length+1:=by refine ak (List.length_append) ?_;rfl
 refine⟨by lia,fun k r e=>?_⟩
 unfold aV at e
 by_cases c:18≤k
 ·rw[aH c] at e
  refine aI ((⟨(k - 18).toNat,by lia⟩:∃ j:Nat,k=18+j)) fun j e1=>?_;obtain rfl:=e1
  rw[show((18:Int)+j - 18).toNat=j by lia] at e
  have lj:=(List.getElem?_eq_some_iff.mp e).1
  refine⟨by lia,?_⟩
  by_cases d:j<rs.length
  ·rw[List.getElem?_append_left d] at e
   refine o0x3 (hr j r e) fun a b f=>?_
   exact⟨a,b,fun k' h=>(f k' h).imp (fun e=>by lia) id⟩
  ·(rewrite[show j=rs.length by lia] at e;rw[List.getElem?_concat_length] at e)
   refine bt (aQ e) ?_
   exact⟨hb.1,hb.2.1,fun k' h=>.inr (hb.2.2 k' h)⟩
 ·rw[aE c] at e;exact ns e
section
variable {n:Nat} {Q:aP} {B:Nat→Addr} {F Z:H} {hs tl:List O} {nums:List Int} {at_ N:Nat}
theorem Hp.drop{o:O}{b:Addr}(R:Hp (aL B n [b]) (hs++[o]) F Z)(hn:hs.length=n):Hp B hs F Z:=by
 have lt:∀ {i},i<hs.length→i<(hs++[o]).length:=fun h=>by refine af List.length_append ?_;exact Nat.lt_succ_of_lt h
 have e:∀ {i},i<hs.length→aL B n [b] i=B i:=fun h=>cC (hn▸h)
 refine⟨fun i o' q=>?_,fun i j hi hj q=>R.inj i j (lt hi) (lt hj) (by(refine ak (e hi) ?_;refine af (e hj) ?_;(refine ak (q) ?_;with_reducible rfl))),R.fr,fun i hi=>e hi▸R.off i (lt hi)⟩
 have l:=(List.getElem?_eq_some_iff.mp q).1
 exact e l▸R.o i ((List.getElem?_append_left l).trans q)
theorem pq{cnt:Int}(R:Hp B (mJ B at_::.list (aN nums)::tl) F Z)(hc:0<cnt)(q:∀ i:Nat,(i:Int)<cnt→∀ Z',Hp B (mJ B (at_+1)::.list (aN nums)::tl) F Z'→Q (.int i) Z'):a9 (n+1) none 53 [.ref (B 0),.int cnt] Q Z:=
 FM (R.o 0 rfl) (R.o 1 rfl) hc fun i hi=>q i hi _ (R.set (i:=0) (Nat.succ_pos _) (mJ B (at_+1)))
theorem iC{K:aO}{U:Env}{Q:bL}{o e:E}{a:Addr}{xs:List V}{r:List C}(ho:Ev K U Z o (.ref a))(ha:Z a=some (.list xs))(h:WE K e U (fun v Z'=>∃ ys,Z' a=some (.list ys)∧ys.length<bM∧SS K r U Q (Z'.set a (.list (ys++[v])))) Z):SS K (.ex (.mth o 95 [e])::r) U Q Z:=by
 simp only[fT,mY] at *
 refine ho.go _ ⟨_,lU ha,rfl,?_⟩
 have:(fun(v:V) (Z':H)=>∃ ys,Z' a=some (.list ys)∧ys.length<bM∧eR K r U Q (Z'.set a (.list (ys++[v]))))=fun v Z'=>∃ ys,Z' a=some (.list ys)∧(95=95∧ys.length<bM∧eR K r U Q (Z'.set a (.list (ys++[v])))):=by
  funext v Z';exact propext ⟨fun⟨ys,h1,h2,h3⟩=>⟨ys,h1,rfl,h2,h3⟩,fun⟨ys,h1,_,h2,h3⟩=>⟨ys,h1,h2,h3⟩⟩
 rw[this] at h;exact h
theorem jA{U:Env}{P:aP}(R:Hp B (mJ B at_::.list (aN nums)::tl) F Z)(h0:U 0=some (.ref (B 0)))(h4:U 4=some (.tup (aN plain)))(q:∀ k Z',k ∈ plain→Hp B (mJ B (at_+1)::.list (aN nums)::tl) F Z'→P (.int k) Z'):WE (a9 (n+1)) (.idx (.x 4) (.call (.k (.fn 53)) [.x 0,.k (.int 7)])) U P Z:=
 gx (bk (ac h4) (aD (vs:=[.ref (B 0),.int 7]) (ab (ac h0) (ab aj ae)) rfl (pq R (by decide) fun i hi Z' R'=>by
  have l:i<plain.length:=Int.ofNat_lt.mp hi
  exact⟨.int plain[i],bQ (Int.natCast_nonneg _) (by rw[Int.toNat_natCast];exact cA (List.getElem?_eq_getElem l)),q _ Z' (List.getElem_mem l) R'⟩)))
theorem BM(m:Nat):rw_ (18+m)=.tup [.int 3,.int (64+m),.tup []]:=by
 skip;(refine ak (aE (by lia)) ?_;refine ak (aE (by lia)) ?_;refine ak (aE (by lia)) ?_;rw[Nat.add_sub_cancel_left])
theorem sk{U:Env}{P:aP}{deep:Nat}(R:Hp B (S1 B nums at_ 18 []) F Z)(h1:U 1=some (.ref (B 3)))(h3:U 3=some (.int deep))(hd:deep≤7)(q:∀ a Z',Hp (aL B 14 [a]) (S1 (aL B 14 [a]) nums at_ (18+deep) [.list (aN (fU deep))]) F Z'→P (.ref a) Z') :
  WE (a9 (n+5)) (.comp (.call (.k (.fn 8)) [.x 1,.bin .Add (.k (.int 64)) (.x 101),.tup []]) [101] (.call (.k (.bi 1)) [.x 3]) []) U P Z:=by
 refine d7 (n:=deep) (fun acc Z'=>Hp B (S1 B nums at_ (18+acc.length) []) F Z'∧acc=aN (fU acc.length)) (a8 (vs:=[.int deep]) (ab (ac h3) ae) fun Q q=>⟨_,rfl,⟨Int.natCast_nonneg _,Int.lt_of_le_of_lt (Int.ofNat_le.mpr hd) (by decide)⟩,q⟩) (Nat.le_trans hd (by decide)) ⟨R,rfl⟩ ?_ (fun v h=>nomatch h) fun acc Z' hl hI a ha=>?_
 ·intro acc Z' hl ⟨R',ea⟩ U' hb R hR
  refine bt (aQ hb) ?_
  refine aD (vs:=[.ref (B 3),.int (64+acc.length),.tup []]) (ab (ac h1) (ab (aB aj (ac rfl) fun Q q=>q) (ab (aF ae) ae))) rfl (FC R' (by lia) (BM _) (by lia) ?_ fun Z'' R''=>hR _ _ ⟨?_,?_⟩)
  ·exact fH (P:=fun m=>gU.contains (64+(m:Int))=false) rfl rfl rfl rfl rfl rfl rfl rfl (Nat.lt_of_lt_of_le hl (Nat.le_trans hd (by decide)))
  ·refine af List.length_append ?_;exact R''
  ·refine af List.length_append ?_
   show acc++_=aN (fU (acc.length+1))
   (refine af mU ?_;rewrite[cY];refine bt ea ?_;rw[Int.natCast_add]);rfl
 ·have:=hI.1.new rfl ha (.list acc)
  rw[hI.2,hl] at this ⊢
  (rewrite[bA] at this;rw[show(fU deep).length=deep by delta fU;rw[List.length_map,List.length_range]] at this)
  exact q a _ this
end
section
variable {n:Nat} {Q:aP} {B:Nat→Addr} {F Z:H} {nums:List Int} {at_ N:Nat}
theorem yw{deep j:Nat}{bot r:List Int}{rows:List (List Int)}(hj:rows.length=j)(hjd:j+1<deep):bJ (shD deep bot rows) (.int (18+(j:Int))) (.tup (aN r))=shD deep bot (rows++[r]):=by
 rw[il]
 ·delta shD;(rewrite[vD];refine af hj ?_);rfl
 ·skip
  (refine ak (iZ) ?_;refine ak (aE (by omega)) ?_;rewrite[mZ];refine af (aH (by omega)) ?_;refine af (List.getElem?_eq_none (by omega)) ?_);rfl
theorem sP{deep j:Nat}{bot:List Int}{rows:List (List Int)}{tw:Int}{U:Env}{P:bL}(R0:Hp B (S1 B nums at_ N [.list (aN (fU deep)),.dict (shD deep bot rows)]) F Z)(hj:rows.length=j)(hjd:j+1<deep)(hd:deep≤7)
  (h0:U 0=some (.ref (B 0))) (h4:U 4=some (.tup (aN plain))) (h5:U 5=some (.int j)) (h6:U 6=some (.ref (B 14))) (h9:U 9=some (.ref (B 15))) (h10:U 10=some (.int tw))
  (q:∀ at' r U' Z',qc j r→(∀ i,i<11→U' i=U i)→Hp B (S1 B nums at' N [.list (aN (fU deep)),.dict (shD deep bot (rows++[r]))]) F Z'→P .next U' Z') :
  SS (a9 (n+1)) (match E3.body with | _::_::_::_::_::_::_::.for_ _ _ b::_=>b | _=>[]) U P Z:=by
 have fin:∀ (b:Addr) (l:List Int) (U1:Env) (Z1:H) (at1:Nat),qc j l→Hp (aL B 16 [b]) (S1 (aL B 16 [b]) nums at1 N [.list (aN (fU deep)),.dict (shD deep bot rows),.list (aN l)]) F Z1→(∀ i,i<11→U1 i=U i)→U1 11=some (.ref b)→
   SS (a9 (n+1)) [.set (.idx (.x 9) (.idx (.x 6) (.x 5))) (.call (.k (.bi 2)) [.x 11])] U1 P Z1:=by
  intro b l U1 Z1 at1 ok R1 hU h11
  refine dQ (v:=.tup (aN l)) (a8 (vs:=[.ref b]) (ab (ac h11) ae) fun Q q=>⟨_,R1.o 16 rfl,q⟩) (ac ((hU 9 (by decide)).trans h9)) (ah (v:=.int (18+(j:Int))) (ac ((hU 6 (by decide)).trans h6)) (ac ((hU 5 (by decide)).trans h5)) (aK (R1.o 14 rfl) (Int.natCast_nonneg _) (by rw[Int.toNat_natCast];exact cA (hJ (by omega))))) (bp (R1.o 15 rfl) rfl ?_) (ay (q at1 l _ _ ok hU ?_))
  ·have:∀ (rs:List (List Int)) k,(yz k rs).length=rs.length:=fun rs=>by
    induction rs with
    |nil=>intro k;rfl
    |cons r rs ih=>intro k;exact congrArg (· + 1) (ih _)
   show(yz 18 rows).length+1<bM
   rw[this];delta bM;omega
  ·have R2:=R1.set (i:=15) (Nat.lt_of_lt_of_le (by decide) (Nat.le_refl 17)) (.dict (shD deep bot (rows++[l])))
   rw[← yw hj hjd] at R2 ⊢
   exact Hp.drop (hs:=S1 B nums at1 N [.list (aN (fU deep)),.dict (bJ (shD deep bot rows) (.int (18+(j:Int))) (.tup (aN l)))]) (n:=16) R2 rfl
 have mid:∀ (b:Addr) (l:List Int) (U1:Env) (Z1:H) (at1:Nat),(0<l.length∧l.length≤2∧∀ k ∈ l,k=19+(j:Int))→Hp (aL B 16 [b]) (S1 (aL B 16 [b]) nums at1 N [.list (aN (fU deep)),.dict (shD deep bot rows),.list (aN l)]) F Z1→(∀ i,i<11→U1 i=U i)→U1 11=some (.ref b)→
   SS (a9 (n+1)) (match E3.body with | _::_::_::_::_::_::_::.for_ _ _ (_::_::b)::_=>b | _=>[]) U1 P Z1:=by
  intro b l U1 Z1 at1 ok R1 hU h11
  have h0':U1 0=some (.ref (aL B 16 [b] 0)):=(hU 0 (by decide)).trans h0
  refine aX (aD (vs:=[.ref (aL B 16 [b] 0),.int 3]) (ab (ac h0') (ab aj ae)) rfl (pq R1 (by decide) fun m hm Z2 R2=>?_))
  have pr:∀ i v,i<11→(U1.set 12 v) i=U i:=fun i v hi=>(aE (Nat.ne_of_lt (Nat.lt_succ_of_lt hi))).trans (hU i hi)
  by_cases c1:(m:Int)=1
  ·refine aA (ai (aq (ac rfl) ao) (bS c1)) (aX (iB (pO (bO (jA R2 h0' ((pr 4 _ (by decide)).trans h4) fun k Z3 hk R3 c hc=>bk (ac (v:=.ref b) h11) ⟨[.int k],aN l,aC,bw ?_ (R3.o 16 rfl),?_,fun d hd=>ay (fin d (k::l) _ _ (at1+1+1) ⟨Nat.succ_pos _,Nat.succ_le_succ ok.2.1,fun k' hk'=>?_⟩ ?_ (fun i hi=>?_) rfl)⟩)))))
   ·exact fun e=>by have:=R3.o 16 (o:=.list (aN l)) rfl;(rewrite[show aL B 16 [b] 16=b from rfl] at this;rewrite[e] at this;rw[hc] at this);exact ns this
   ·refine af bA ?_;show 1+l.length≤bM;delta bM;omega
   ·exact(List.mem_cons.mp hk').elim (fun e=>.inr (e▸hk)) fun h=>.inl (ok.2.2 k' h)
   ·exact(Hp.drop (hs:=S1 B nums (at1+1+1) N [.list (aN (fU deep)),.dict (shD deep bot rows)]) (n:=16) (R3.ext (bB.new hc)) rfl).new rfl hd _
   ·exact(aE (Nat.ne_of_lt hi)).trans (pr i _ hi)
  refine dn (ai (aq (ac rfl) ao) (bH c1)) ?_
  by_cases c2:(m:Int)=2
  ·refine aA (ai (aq (ac rfl) ao) (bS c2)) (iC (ac (v:=.ref b) h11) (R2.o 16 rfl) (jA R2 h0' ((pr 4 _ (by decide)).trans h4) fun k Z3 hk R3=>⟨_,R3.o 16 rfl,?_,ay (ay (fin b (l++[k]) _ _ (at1+1+1) ⟨?_,?_,fun k' hk'=>?_⟩ ?_ (fun i hi=>pr i _ hi) h11))⟩))
   ·refine af bA ?_;delta bM;omega
   ·refine af List.length_append ?_;exact Nat.succ_pos _
   ·refine af List.length_append ?_;exact Nat.succ_le_succ ok.2.1
   ·exact(List.mem_append.mp hk').elim (fun h=>.inl (ok.2.2 k' h)) fun h=>.inr (List.mem_singleton.mp h▸hk)
   ·rw[cY];exact R3.set (i:=16) (Nat.lt_succ_self 16) (.list (aN l++[.int k]))
  ·exact au (ai (aq (ac rfl) ao) (bH c2)) (ay (fin b l _ _ (at1+1) ⟨ok.1,Nat.le_succ_of_le ok.2.1,fun k' h=>.inl (ok.2.2 k' h)⟩ R2 (fun i hi=>pr i _ hi) h11))
 have ea:(18:Int)+((j+1:Nat):Int)=19+j:=by omega
 have nx:∀ (U':Env) Z',U' 6=some (.ref (B 14))→U' 5=some (.int j)→Z' (B 14)=some (.list (aN (fU deep)))→Ev (a9 (n+1)) U' Z' (.idx (.x 6) (.bin .Add (.x 5) (.k (.int 1)))) (.int (19+(j:Int))):=fun U' Z' h6 h5 h=>
  ah (k:=.int ((j+1:Nat):Int)) (ac h6) (aB (ac h5) aj fun Q q=>q) (aK h (Int.natCast_nonneg _) (by(rewrite[Int.toNat_natCast];refine bt ea ?_);exact cA (hJ hjd)))
 refine aX (bz (vs:=[.int (19+(j:Int))]) (ab (nx U Z h6 h5 (R0.o 14 rfl)) ae) fun b hb=>?_)
 have R1:=R0.new rfl hb (.list (aN [19+(j:Int)]))
 have pr:∀ i v,i<11→(U.set 11 v) i=U i:=fun i v hi=>aE (Nat.ne_of_lt hi)
 change Hp (aL B 16 [b]) (S1 (aL B 16 [b]) nums at_ N [.list (aN (fU deep)),.dict (shD deep bot rows),.list (aN [19+(j:Int)])]) F _ at R1
 by_cases c:(j:Int)=tw
 ·refine aA (ai (aM (ac ((pr 5 _ (by decide)).trans h5)) (ac ((pr 10 _ (by decide)).trans h10)) ao) (bS c)) (bI (ac rfl) (R1.o 16 rfl) (nx _ _ h6 h5 (R1.o 14 rfl)) (by decide:1<bM) (ay (mid b [19+(j:Int),19+(j:Int)] _ _ at_ ⟨Nat.succ_pos _,Nat.le_refl 2,fun k hk=>?_⟩ ?_ (fun i hi=>pr i _ hi) rfl)))
  ·exact(List.mem_cons.mp hk).elim id fun h=>List.mem_singleton.mp h
  ·exact R1.set (i:=16) (Nat.lt_succ_self 16) (.list (aN [19+(j:Int),19+(j:Int)]))
 ·exact au (ai (aM (ac ((pr 5 _ (by decide)).trans h5)) (ac ((pr 10 _ (by decide)).trans h10)) ao) (bH c)) (mid b [19+(j:Int)] _ _ at_ ⟨Nat.succ_pos _,(by decide:1≤2),fun k hk=>List.mem_singleton.mp hk⟩ R1 (fun i hi=>pr i _ hi) rfl)
theorem qu{g m:Nat}:(m:Int)+g=((m+g:Nat):Int):=(Int.natCast_add m g).symm
theorem G9(R:Hp B (S1 B nums at_ 18 []) F Z)(q:∀ B' Z' (s:List (List Int)) at' sh,(∀ i,i<14→B' i=B i)→de s→(∀ k:Int,aJ sh (.int k)=(aV s k).map fun r=>.tup (aN r))→(∀ k:Int,be sh (.int k)=true)→Hp B' (S1 B' nums at' (18+s.length) [.list (aN (fU s.length)),.dict sh]) F Z'→Q (.tup [.ref (B' 14),.ref (B' 15)]) Z') :
  a9 (n+6) none 54 [.ref (B 0),.ref (B 3),.int 16] Q Z:=by
 refine br Aa rfl (aX (iB (bk aj (aD (vs:=[.ref (B 0),.int 4]) (ab (ac rfl) (ab aj ae)) rfl (pq R (by decide) fun g hg Z1 R1=>?_)))))
 refine o1x3 ((⟨4+g,qu (m:=4),by omega,by omega⟩:∃ deep:Nat,(4:Int)+g=deep∧4≤deep∧deep≤7)) fun deep ed d1 d2=>?_
 change SS _ _ (Env.set _ 3 (.int (4+(g:Int)))) _ _
 refine af ed ?_
 refine av (v:=.tup (aN plain)) (aF (ab aj (ab aj (ab (ac rfl) (ab aj (ab aj (ab aj (ab aj ae)))))))) (aX (sk R1 rfl rfl d2 fun a Z2 R2=>?_))
 have e1:∀ i,i<14→aL B 14 [a] i=B i:=fun i hi=>cC hi
 have ea:(some (V.ref a))=some (.ref (aL B 14 [a] 14)):=rfl
 have E0:=e1 0 (by decide)
 generalize aL B 14 [a]=B1 at R2 e1 ea E0
 refine aX (bz ae fun b hb=>f8 (jB (bO (iB (bk aj (aD (vs:=[.ref (aL B1 15 [b] 0),.int 3]) (ab (ac (E0▸rfl:some (V.ref (B 0))=some (V.ref (B1 0)))) (ab aj ae)) rfl (pq (R2.new rfl hb (.list (aN []))) (by decide) fun g2 hg2 Z3 R3=>?_)))))))
 refine⟨_,rfl,⟨by omega,by omega⟩,_,rfl,?_⟩
 change FL _ _ (.rng (1+(g2:Int))) ((List.range (Int.toNat (1+(g2:Int)))).map _) _ _ ((List.range (Int.toNat (1+(g2:Int)))).map _) _ _
 refine af (show(1:Int)+g2=((1+g2:Nat):Int) from qu (m:=1)) ?_
 refine g7 (N:=1+g2) (fun i U Z=>∃ at' l,l.length=i∧(∀ k ∈ l,k ∈ plain)∧Hp (aL B1 15 [b]) (S1 (aL B1 15 [b]) nums at' (18+deep) [.list (aN (fU deep)),.list (aN l)]) F Z∧U 0=some (.ref (B1 0))∧U 3=some (.int deep)∧U 4=some (.tup (aN plain))∧U 6=some (.ref (B1 14))∧U 7=some (.ref b)) ?_ ⟨_,[],rfl,fun za h=>(nomatch h),R3,E0▸rfl,rfl,rfl,ea,rfl⟩ ?_
 ·intro i hi U Z4 p0;refine o2x8 p0 fun at' l hl hp R4 h0 h3 h4 h6 h7=>?_;clear p0;intro P hP za
  refine iC (ac (v:=.ref b) h7) (R4.o 15 rfl) (jA R4 h0 h4 fun k Z5 hk R5=>⟨_,R5.o 15 rfl,?_,ay (hP _ _ ⟨at'+1,l++[k],?_,fun k' hk'=>?_,?_,h0,h3,h4,h6,h7⟩)⟩)
  ·(refine af bA ?_;refine af hl ?_);delta bM;omega
  ·(refine ak (List.length_append) ?_;refine af hl ?_);rfl
  ·exact(List.mem_append.mp hk').elim (fun h=>hp k' h) fun h=>List.mem_singleton.mp h▸hk
  ·rw[cY];exact R5.set (i:=15) (Nat.lt_succ_self 15) (.list (aN l++[.int k]))
 ·intro U Z4 p0;refine o2x8 p0 fun at' bot hl hp R4 h0 h3 h4 h6 h7=>?_;clear p0
  refine aI ((⟨deep - 1,by omega⟩:∃ m,deep=m+1)) fun m e1=>?_;obtain rfl:=e1
  have em:((m+1:Nat):Int) - 1=(m:Int):=by omega
  have dm:∀ U':Env,U' 3=some (.int ((m+1:Nat):Int))→∀ Z',Ev (a9 (n+5)) U' Z' (.bin .Sub (.x 3) (.k (.int 1))) (.int m):=fun U' h Z'=>em▸aB (ac h) aj fun Q q=>q
  refine aX (lD (dp (u:=.int (18+(m:Int))) (ah (k:=.int m) (ac h6) (dm _ h3 _) (aK (R4.o 14 rfl) (Int.natCast_nonneg _) (by rw[Int.toNat_natCast];exact cA (hJ (Nat.lt_succ_self _))))) (bk (a8 (vs:=[.ref b]) (ab (ac h7) ae) fun Q q=>⟨_,R4.o 15 rfl,q⟩) (lX ⟨rfl,fun c hc=>?_⟩))))
  have R5:=(Hp.drop (hs:=S1 B1 nums at' (18+(m+1)) [.list (aN (fU (m+1)))]) (n:=15) R4 rfl).new rfl hc (.dict (shD (m+1) bot []))
  have kc:dH [] [(V.int (18+(m:Int)),V.tup (aN bot))]=shD (m+1) bot []:=by
   show[(V.int (18+(m:Int)),V.tup (aN bot))]=[(V.int ((17+(m+1):Nat):Int),V.tup (aN bot))]
   (refine af (show((17+(m+1):Nat):Int)=18+m by omega) ?_;with_reducible rfl)
  refine af kc ?_
  change Hp (aL B1 15 [c]) (S1 (aL B1 15 [c]) nums at' (18+(m+1)) [.list (aN (fU (m+1))),.dict (shD (m+1) bot [])]) F _ at R5
  have e2:∀ i,i<15→aL B1 15 [c] i=B1 i:=fun i hi=>cC hi
  have ec:(some (V.ref c))=some (.ref (aL B1 15 [c] 15)):=rfl
  generalize Z4.set c _=Z5 at R5 ⊢
  generalize aL B1 15 [c]=B2 at R5 e2 ec
  have h0':U 0=some (.ref (B2 0)):=h0.trans (by(refine af (e2 0 (by decide)) ?_;with_reducible rfl))
  have h6':U 6=some (.ref (B2 14)):=h6.trans (by(refine af (e2 14 (by decide)) ?_;with_reducible rfl))
  refine aX (iB (bk (aB (ac h3) aj fun Q q=>q) (aD (vs:=[.ref (B2 0),.int 2]) (ab (ac h0') (ab aj ae)) rfl (pq R5 (by decide) fun g3 hg3 Z6 R6=>?_))))
  refine ch (v:=.rng (m:Int)) (a8 (vs:=[.int m]) (ab (dm ((U.set 9 (.ref c)).set 10 (.int (((m+1:Nat):Int) - 2 - g3))) h3 _) ae) fun Q q=>⟨_,rfl,⟨by omega,by omega⟩,q⟩) rfl ?_
  refine g7 (N:=m) (fun i U Z=>∃ at' rows,rows.length=i∧(∀ j r,rows[j]? = some r→qc j r)∧Hp B2 (S1 B2 nums at' (18+(m+1)) [.list (aN (fU (m+1))),.dict (shD (m+1) bot rows)]) F Z∧U 0=some (.ref (B2 0))∧U 4=some (.tup (aN plain))∧U 6=some (.ref (B2 14))∧U 9=some (.ref (B2 15))∧U 10=some (.int (((m+1:Nat):Int) - 2 - g3))) ?_ ⟨_,[],rfl,fun za za h=>(nomatch h),R6,h0',h4,h6',ec,rfl⟩ ?_
  ·intro i hi U Z7 p0;refine o2x8 p0 fun at'' rows hr hok R7 k0 k4 k6 k9 k10=>?_;clear p0;intro P hP za
   refine sP R7 hr (Nat.succ_lt_succ hi) d2 k0 k4 rfl k6 k9 k10 fun jw r U' Z' ok hU R'=>hP _ _ ⟨jw,rows++[r],?_,fun j r' h=>?_,R',(hU 0 (by decide)).trans k0,(hU 4 (by decide)).trans k4,(hU 6 (by decide)).trans k6,(hU 9 (by decide)).trans k9,(hU 10 (by decide)).trans k10⟩
   ·(refine ak (List.length_append) ?_;refine af hr ?_);rfl
   ·by_cases c:j<rows.length
    ·rw[List.getElem?_append_left c] at h;exact hok j r' h
    ·have:j=rows.length:=by have:=(List.getElem?_eq_some_iff.mp h).1;rw[List.length_append] at this;exact Nat.le_antisymm (Nat.le_of_lt_succ this) (Nat.le_of_not_lt c)
     subst this
     rw[List.getElem?_concat_length] at h;refine bt (aQ h) ?_;refine af hr ?_;exact ok
  ·intro U Z7 p0;refine o2x8 p0 fun at'' rows hr hok R7 k0 k4 k6 k9 k10=>?_;clear p0
   have ls:(rows++[bot]).length=m+1:=by(refine ak (List.length_append) ?_;refine af hr ?_);rfl
   refine ax (aF (ab (ac k6) (ab (ac k9) ae))) (q B2 Z7 (rows++[bot]) at'' _ (fun i hi=>(e2 i (Nat.lt_succ_of_lt hi)).trans (e1 i hi)) (BK (by omega) (by omega) ⟨by omega,by omega,hp⟩ hok) (yy (by(refine af hr ?_;with_reducible rfl))) yx ?_)
   refine af ls ?_;exact R7
end
theorem ym{K:aO}{U:Env}{Z:H}{P:aP}{o:E}{p:Addr}{xs:List V}(ho:Ev K U Z o (.ref p))(hp:Z p=some (.list xs))(k:∀ a,Z a=none→P (.ref a) (Z.set a (.list xs.reverse))):WE K (.rev o) U P Z:=⟨ho.go _ ⟨xs,hp,k⟩⟩
theorem DD{f:Int→Sp}{b:List Int}(a:List Int):∀ i,wr f i (a++b)=wr f i a++wr f (i+a.length) b:=by
 induction a with
 |nil=>intro i;show wr f i b=wr f (i+0) b;rw[Int.add_zero]
 |cons k a ih=>
  intro i
  show _++wr f (i+1) (a++b)=(_++wr f (i+1) a)++_
  (rewrite[ih];rewrite[List.append_assoc];rewrite[Int.add_right_comm];refine af List.length_cons ?_;rewrite[Int.natCast_add];rw[← Int.add_assoc]);rfl
structure F3 (s:List (List Int)) (Z:H) (a:Addr) (j:Nat) (sp:List (V×V)) (Z1:H):Prop where
 d:Z1 a=some (.dict sp)
 key:∀ k:Int,be sp (.int k)=true
 no:∀ k:Int,(k<18+(j:Int)∨aV s k=none)→aJ sp (.int k)=none
 at_:∀ (k:Int) (r:List Int),aV s k=some r→18+(j:Int)≤k→∃ x,aJ sp (.int k)=some (.ref x)∧Z1 x=some (.list ((W s k).map eu))∧Z x=none
 ext:bB Z Z1
 len:sp.length≤100
section
variable {n:Nat} {Q:aP} {Z:H} {s:List (List Int)}
theorem nN{K:aO}{P:bL}{k:Int}{i:Nat}{y b:Addr}{whole:List V}{tl:Sp}(ok:de s)(hyb:y≠b)(l:Sp):∀ (pre:Sp) (U:Env) (Z1:H),(∀ z ∈ l,z.1.length≤7)→W s k=pre++(l.map (fun p=>((i:Int)::p.1,p.2))++tl)→Z1 y=some (.list whole)→Z1 b=some (.list (pre.map eu))→U 4=some (.ref b)→U 5=some (.int i)→
  (∀ U' Z' pre',(∀ j,j<7→U' j=U j)→W s k=pre'++tl→jo b Z1 Z'→Z' b=some (.list (pre'.map eu))→P .next U' Z')→
  FL K [7,8] (.ref y) whole [.ex (.mth (.x 4) 95 [.tup [.bin .Add (.tup [.x 5]) (.x 7),.x 8]])] P (l.map eu) U Z1:=by
 induction l with
 |nil=>intro pre U Z1 _ e _ hb _ _ q;exact b9 (q U Z1 pre (fun za za=>rfl) e bB.refl.off hb)
 |cons z l ih=>
  intro pre U Z1 hz e hy hb h4 h5 q
  obtain⟨w,kz⟩:=z
  have wl:=ln ok k
  have lp:pre.length≤3280:=Nat.le_trans (by(refine af e ?_;refine af List.length_append ?_);exact Nat.le_add_right _ _) wl
  refine bR (U':=(U.set 7 (.tup (aN w))).set 8 (.int kz)) rfl (bI (ac h4) hb (aF (ab (aB (aF (ab (ac h5) ae)) (ac rfl) fun Q q=>⟨?_,q⟩) (ab (ac rfl) ae))) ?_ (ay ⟨bf (bw hyb hy),ih (pre++[((i:Int)::w,kz)]) _ _ (fun z h=>hz z (.tail _ h)) ?_ (bw hyb hy) ?_ h4 h5 fun U' Z' pre' hU e' x' hb'=>q U' Z' pre' (fun j hj=>(hU j hj).trans ((aE (Nat.ne_of_lt (Nat.lt_succ_of_lt hj))).trans (aE (Nat.ne_of_lt hj)))) e' (bB.refl.off.set.trans x') hb'⟩))
  ·refine af bA ?_;have:=hz _ (.head _);show 1+w.length≤100000;exact Nat.le_trans (Nat.add_le_add_left this 1) (by decide)
  ·rw[List.length_map];exact Nat.lt_of_le_of_lt lp (by decide)
  ·(refine ak (e) ?_;rw[List.append_assoc]);rfl
  ·refine af List.map_append ?_;exact aC
theorem qa{j:Nat}(h:j<s.length):aV s (18+(j:Int))=some s[j]:=by
 skip;(refine ak (aH (by lia)) ?_;refine af (show(18+(j:Int) - 18).toNat=j by lia) ?_);exact List.getElem?_eq_getElem h
theorem G8{T S:Addr}{sh:List (V×V)}(hT:Z T=some (.list (aN (fU s.length))))(hS:Z S=some (.dict sh))(ok:de s)(shD:∀ k:Int,aJ sh (.int k)=(aV s k).map fun r=>.tup (aN r))(shK:∀ k:Int,be sh (.int k)=true)
  (q:∀ a sp Z',Z a=none→F3 s Z a 0 sp Z'→Q (.ref a) Z'):a9 (n+1) none 55 [.ref T,.ref S] Q Z:=by
 refine br z9 rfl (aX (gy fun a ha=>f8 (ym (ac rfl) (bB.new ha _ _ hT) fun c hc=>⟨_,bf aC,?_⟩)))
 have hca:c≠a:=fun e=>by(rewrite[e] at hc;rw[aC] at hc);exact sn hc
 have x0:bB Z ((Z.set a (.dict [])).set c (.list (aN (fU s.length)).reverse)):=(bB.new ha).trans (bB.new hc)
 refine(?_:∀ (j:Nat) (sp:List (V×V)) (U:Env) (Z1:H),j≤s.length→F3 s Z a j sp Z1→sp.length+j≤100→Z1 c=some (.list (aN (fU s.length)).reverse)→U 1=some (.ref S)→U 2=some (.ref a)→FL _ _ _ _ _ _ (aN (fU j)).reverse U Z1) s.length [] _ _ (Nat.le_refl _) ⟨bw hca.symm aC,fun za=>rfl,fun za za=>rfl,fun k r e h=>absurd (ok.row k r e).1 (by lia),x0,by decide⟩ (by have:=ok.len;show 0+_≤_;lia) aC rfl rfl
 intro j
 induction j with
 |zero=>intro sp U Z1 _ I _ _ h1 h2;exact b9 (ax (ac h2) (q a sp Z1 ha I))
 |succ j ih=>
  intro sp U Z1 hj I hl hc' h1 h2
  have g:=qa hj
  generalize hr:s[j]=row at g
  have W1:=mE ok g
  have r3:=(ok.row _ _ g).2
  (refine af mU ?_;rewrite[cY];refine af List.reverse_append ?_)
  refine bR rfl (aX (bz (vs:=[eu ([],18+(j:Int))]) (ab (aF (ab (aF ae) (ab (ac rfl) ae))) ae) fun b hb=>?_))
  have xb:∀ {Z':H},jo b Z1 Z'→bB Z1 Z':=fun o y v h=>o y v (fun e=>by(rewrite[e] at h;rw[hb] at h);exact ns h) h
  have rowAt:∀ (U':Env) Z',U' 1=some (.ref S)→U' 3=some (.int (18+(j:Int)))→bB Z1 Z'→Ev (a9 n) U' Z' (.idx (.x 1) (.x 3)) (.tup (aN row)):=fun U' Z' h1 h3 x=>ah (ac h1) (ac h3) (aG (x _ _ (I.ext _ _ hS)) (shK _) (by(rewrite[shD];refine af g ?_);rfl))
  refine ch (v:=.rng (row.length:Int)) (a8 (vs:=[.int row.length]) (ab (dt (rowAt _ _ h1 rfl (bB.new hb))) ae) fun Q q=>⟨_,rfl,⟨by lia,by lia⟩,q⟩) rfl ?_
  refine g7 (N:=row.length) (fun i U' Z'=>jo b Z1 Z'∧U' 1=some (.ref S)∧U' 2=some (.ref a)∧U' 3=some (.int (18+(j:Int)))∧U' 4=some (.ref b)∧∃ pre,W s (18+(j:Int))=pre++wr (W s) i (row.drop i)∧Z' b=some (.list (pre.map eu))) ?_ ⟨(bB.new hb).off,h1,h2,rfl,rfl,[([],18+(j:Int))],W1,aC⟩ ?_
  ·rintro i hi U' Z' ⟨o,k1,k2,k3,k4,pre,e,hpre⟩ P hP _
   have gi:=List.getElem?_eq_getElem hi
   refine av (v:=.int row[i]) (ah (k:=.int i) (rowAt _ _ k1 k3 (xb o)) (ac rfl) (bQ (Int.natCast_nonneg _) (by rw[Int.toNat_natCast];exact cA gi))) ?_
   rw[List.drop_eq_getElem_cons hi] at e
   have hw7:∀ z ∈ W s row[i],z.1.length≤7:=fun z hz=>cW ok ((fX ok _ z.1).mp hz)
   have pr:∀ m (v w:V),m<5→((U'.set 5 v).set 6 w) m=U' m:=fun m v w h=>(aE (by lia)).trans (aE (by lia))
   refine f8 (pQ (ac ((pr 2 _ _ (by decide)).trans k2)) (xb o _ _ I.d) (ac rfl) (bz (vs:=[eu ([],row[i])]) (ab (aF (ab (aF ae) (ab (ac rfl) ae))) ae) fun y hy=>⟨rfl,sp,bB.new hy _ _ (xb o _ _ I.d),I.key _,?_⟩))
   have fin:∀ z,((aJ sp (.int row[i])).getD (.ref y))=.ref z→z≠b→(Z'.set y (.list [eu ([],row[i])])) z=some (.list ((W s row[i]).map eu))→∃ xs,bq (Z'.set y (.list [eu ([],row[i])])) ((aJ sp (.int row[i])).getD (.ref y))=some xs∧FL (a9 n) [7,8] ((aJ sp (.int row[i])).getD (.ref y)) xs [.ex (.mth (.x 4) 95 [.tup [.bin .Add (.tup [.x 5]) (.x 7),.x 8]])] (qU (a9 n) [] P) xs ((U'.set 5 (.int i)).set 6 (.int row[i])) (Z'.set y (.list [eu ([],row[i])])):=fun z ez hzb hz=>by
    refine af ez ?_
    refine⟨_,bf hz,nN (tl:=wr (W s) (i+1:Int) (row.drop (i+1))) ok hzb (W s row[i]) pre _ _ hw7 e hz (bB.new hy _ _ hpre) k4 rfl fun U2 Z2 pre' hU e' x2 hb'=>ay (hP U2 Z2 ⟨o.trans ((bB.new hy).off.trans x2),(hU 1 (by decide)).trans k1,(hU 2 (by decide)).trans k2,(hU 3 (by decide)).trans k3,(hU 4 (by decide)).trans k4,pre',?_,hb'⟩)⟩
    (refine ak (e') ?_;rw[Int.natCast_add]);rfl
   induction gk:aV s row[i] using Option.casesOn with
   |none=>
    refine fin y (by refine af (I.no _ (.inr gk)) ?_;rfl) (fun e=>by(rewrite[e] at hy;rw[hpre] at hy);exact sn hy) ?_
    refine af (kn gk) ?_;exact aC
   |some r'=>
    have hk:18+((j+1:Nat):Int)≤row[i]:=by
     rcases r3.2.2 row[i] (List.getElem_mem hi) with⟨h,_⟩ | h
     ·lia
     ·have:row[i]<18:=by delta plain at h;simp at h;lia
      rw[jI this] at gk;exact ns gk
    refine o1x3 (I.at_ _ _ gk hk) fun x e1 e2 za=>?_
    exact fin x (by refine af e1 ?_;rfl) (fun e=>by(rewrite[e] at e2;rw[hb] at e2);exact ns e2) (bB.new hy _ _ (xb o _ _ e2))
  ·rintro U' Z' ⟨o,k1,k2,k3,k4,pre,e,hpre⟩
   rw[List.drop_length] at e
   have e:W s (18+(j:Int))=pre:=by refine ak (e) ?_;exact List.append_nil _
   subst e
   have x1:=xb o
   have I1:=I.ext.trans x1
   refine dQ (ac k4) (ac k2) (ac k3) (bp (x1 _ _ I.d) (I.key _) (Nat.lt_of_le_of_lt I.len (by decide))) (ay ⟨bf (bw hca (x1 _ _ hc')),ih _ _ _ (Nat.le_of_succ_le hj) ⟨aC,fun k=>dW (I.key k) rfl,fun k hk=>?_,fun k r e hk=>?_,I1.set ha,?_⟩ ?_ (bw hca (x1 _ _ hc')) k1 k2⟩)
   ·rw[dI fun h=>?_]
    ·exact I.no k (hk.imp (fun h=>by lia) id)
    ·have h:=V.int.inj h
     subst h
     refine Or.elim hk (fun h=>?_) (fun h=>?_);all_goals clear hk
     ·exact absurd h (Int.lt_irrefl _)
     ·rw[g] at h;exact sn h
   ·have na:∀ {z l},Z' z=some (O.list l)→z≠a:=fun h e=>by(rewrite[e] at h;rw[x1 _ _ I.d] at h);cases h
    by_cases c:k=18+(j:Int)
    ·subst c;exact⟨b,dY (k:=.int (18+(j:Int))) (bS rfl) _,bw (na hpre) hpre,by induction h:Z b using Option.casesOn with | none=>rfl | some o=>rw[I.ext _ _ h] at hb;exact sn hb⟩
    ·refine o1x3 (I.at_ k r e (by lia)) fun x e1 e2 e3=>?_
     exact⟨x,(dI (fun h=>c (V.int.inj h).symm) _).trans e1,bw (na (x1 _ _ e2)) (x1 _ _ e2),e3⟩
   ·exact Nat.le_trans (fJ _) (by lia)
   ·exact Nat.le_trans (Nat.add_le_add_right (fJ _) _) (by lia)
end
noncomputable def Gm:List Nat:=[0,1,20,15,16,17,18,13,38,39,73,60,52,72,64,66,27,26,28,74,76,78,33,36,4,8,11,42,37,0,31,46,25,53,65,75,77,79,2,3,22,51,63,48]
noncomputable def FB:List (Nat×Nat):=[(31,129),(31,150),(31,149),(31,90),(31,154),(31,130),(31,155),(31,131),(31,159),(31,163),(31,165),(46,129),(46,130),(46,131),(25,117),(25,118),(25,121),(25,122),(25,119),(53,133),(53,134),(53,136),(53,137),(53,132),(65,133),(65,134),(65,135),(65,136),(65,137),(65,132),(75,111),(75,112),(75,113),(75,114),(75,115),(77,111),(77,112),(77,113),(77,114),(77,115),(79,111),(79,112),(79,113),(79,114),(79,115),(2,150),(2,197),(3,90),(3,94),(22,183),(22,187),(22,188),(51,133),(63,133),(31,158)]
noncomputable def ve(i:Nat):Nat:=Gm.getD i 0
section
variable (B:Nat→Addr) (d:Dt)
noncomputable def ni(a:V):V:=.tup [a,.int 1,.tup []]
noncomputable def wB:List (V×V):=[(.sym 211,.int 16),(.sym 204,.ref (B 15)),(.sym 203,.ref (B 16)),(.sym 210,.tup (aN [18,19,18,19,19,19,18,18])),(.sym 205,.ref (B 17)),(.sym 121,.ref (B 18)),(.sym 209,.int d.bits),(.sym 176,.ref (B 19))]
noncomputable def Gk:List O:=DI [.none]++[.list (aN (fU d.s.length)),.dict d.sh,.dict d.sp,.dict d.es,.dict [],.list [],.dict (wB B d)]
noncomputable def S2:List O:=ku B (mJ B d.at_) (.list (aN d.nums)) (sB B) (18+d.s.length) (Gk B d)
noncomputable def S3:List O:=S2 B d++[.list (dy d)]
noncomputable def BV(u:V):O:=.inst 86 [(179,.int 1),(180,.int 70),(181,.sym 212),(182,.int 6),(183,.int 1),(184,.int 0),(185,.ref (B 23)),(186,.ref (B 24)),(187,.int 0),(188,.tup [.int 19,.int 7]),(189,u),(190,.tup [.int 0,.int 0]),(137,.none),(191,.int 0)]
noncomputable def cz(top made fresh:Int):O:=.inst 80 [(117,.ref (B 26)),(118,.ref (B 27)),(119,.int top),(120,.int 400),(121,.ref (B 28)),(122,.int d.bits),(123,.int fresh),(124,.int 101),(125,.ref (B 29)),(126,.ref (B 30)),(127,.int 0),(128,.int made)]
noncomputable def sx:O:=.inst 85 [(149,.ref (B 2)),(150,.ref (B 3)),(129,.ref (B 25)),(151,.ref (B 32)),(90,.ref (B 33)),(152,.ref (B 34)),(153,.ref (B 35)),(154,.ref (B 36)),(130,.ref (B 37)),(155,.ref (B 38)),(131,.ref (B 39)),(156,.ref (B 40)),(157,.ref (B 41)),(158,.int 0),(159,.ref (B 42)),(160,.ref (B 43)),(161,.ref (B 44)),(162,.ref (B 45)),(163,.ref (B 46)),(164,.ref (B 47)),(165,.ref (B 48))]
noncomputable def xR(l:V)(i:Nat):O:=.inst 87 [(133,l),(192,.int 1),(193,.ref (B i)),(194,.ref (B (i+1)))]
noncomputable def mc(num:Int)(mref:V)(body args loc keep i:Nat)(sort:Int):O:=.inst 82 [(97,.int num),(136,mref),(137,.ref (B body)),(138,.int 0),(134,.ref (B args)),(133,.ref (B loc)),(139,.ref (B (i+1))),(140,.ref (B (i+2))),(141,.ref (B (i+3))),(142,.ref (B (i+4))),(135,.ref (B keep)),(102,.int sort),(132,.int num),(143,.int 0),(144,.int (-1))]
noncomputable def dC(AW kind:Int)(slots:Nat)(xG size serial:Int):O:=.inst 79 [(111,.int AW),(112,.int kind),(113,.ref (B slots)),(114,.int xG),(115,.int size),(116,.int serial)]
noncomputable def Bp(md:O)(rows unders bn st:List (V×V))(hp:O)(th:List V)(hat:List (V×V)):List O:=[md,.list [],.list [],hp,.list th,.dict hat,.dict [],.list [],.list [],sx B,.dict [],.dict rows,.dict [],.dict [],.dict unders,.list [],.dict bn,.dict st,.dict [],.dict [],.list [],.list [],.list [],.list [],.inst 81 [(129,.ref (B 25)),(130,.ref (B 38)),(131,.ref (B 39))],.inst 83 [],.inst 84 []]
noncomputable def e6:List O:=List.replicate 6 (.list [])
noncomputable def DH:List O:=[.list [],.list [],xR B (.tup [.int 18,.int 7]) 49,.list [d.v 1,.tup [.int 1,.int 56]],mc B 7 (ni (.int 17)) 51 52 60 59 54 0]++e6++[.list [d.v 0,.tup [.int 1,.int 55]],.list [],.list [],xR B (.tup []) 61,.list [],mc B 9 (ni (.int 18)) 63 64 66 72 66 3]++e6++[.list [d.v 7],.list [.tup [.int 1,.int 57],d.v 2]]
noncomputable def Fj(g0 g1 g2:Int):List O:=[.list [.tup [.int 4,.int 24],d.v 3],dC B 16 17 74 g0 4 1,.list [d.v 4,d.v 5],dC B 20 (18+d.s.length:Nat) 76 g1 4 2,.list [d.v 6],dC B 24 18 78 g2 3 3]
noncomputable def E6:List (V×V):=[(.int 7,.ref (B 53)),(.int 9,.ref (B 65))]
noncomputable def DK:List (V×V):=[(.int 17,.ref (B 73))]
noncomputable def F2:List (V×V):=[(.int 16,.ref (B 75)),(.int 20,.ref (B 77)),(.int 24,.ref (B 79))]
noncomputable def wE:List (V×V):=wB B d++[(.sym 208,.tup [.bool false,.bool false,.bool false,.bool (decide (0<d.g0)),.bool (decide (0<d.g1)),.bool (decide (0<d.g1)),.bool (decide (0<d.g2)),.bool false]),(.sym 207,.ref (B 31)),(.sym 132,.int 17),(.sym 130,.tup [.ref (B 53),.ref (B 65)]),
 (.sym 206,.tup [pl [] 0,pl [] 1,pl [] 2,pl [] 3,pl [] 4,pl [] 5,pl [] 6,pl [] 7])]
noncomputable def S7(u:V)(w:List (V×V))(g0 g1 g2:Int):List O:=Eo B (mJ B d.at_) (.list (aN d.nums)) (sB B) (18+d.s.length) ([.list [.none],.list [.none],.list [.none,.ref (B 22)],.dict [],.list [],.list (aN (fU d.s.length)),.dict d.sh,.dict d.sp,.dict d.es,.dict [],.list [],.dict w,.list (dy d)]++
 Bp B (BV B u) d.rows [(.int 16,.int 5)] (E6 B) (DK B) (cz B d 27 3 11) [.ref (B 75),.ref (B 77),.ref (B 79)] (F2 B)++DH B d++Fj B d g0 g1 g2)
end
noncomputable def Dt.ini(d:Dt)(wa:Addr):Dt:={ d with cs:=[],hc:=[],flag:=false,st:=false,wf:=false,wa:=wa }
noncomputable def t8(o:O)(n:Nat):Option V:=match o with
 |.inst c fs=>if(bo c).contains n then dK fs n else none
 |_=>none
section
variable {B:Nat→Addr} {F Z:H} {d:Dt} {u:V}
theorem getD_some{l:List O}{i:Nat}{x:O}(h:i<l.length):l[i]? = some (l.getD i x):=by
 (refine af (List.getD_eq_getElem?_getD) ?_;refine af (List.getElem?_eq_getElem h) ?_);rfl
theorem xe{hs:List O}(R:Hp B hs F Z){j n:Nat}{v:V}{x:O}(hj:j<hs.length)(h:t8 (hs.getD j x) n=some v):cV Z (.ref (B j)) n=some v:=by
 (refine ak (iu) ?_;refine af (R.o j (getD_some hj (x:=x))) ?_)
 generalize hs.getD j x=o at h
 induction o using O.casesOn with
 |inst c fs=>exact h
 |_=>exact ns h
theorem sO:fA (18+d.s.length)++[kG]=(List.range (19+d.s.length)).map (dN d):=by
 (refine af (show 19+d.s.length=18+d.s.length+1 by lia) ?_;refine af List.range_succ ?_;refine af List.map_append ?_)
 have e:fA (18+d.s.length)=(List.range (18+d.s.length)).map (dN d):=List.map_congr_left fun k hk=>by
  have:=List.mem_range.mp hk
  delta rw_ dN;(refine af (aH this) ?_;with_reducible rfl)
 (refine af e ?_;refine af List.map_singleton ?_;refine af Em ?_);rfl
theorem tB:nA (18+d.s.length)++[.int 0]=List.replicate (19+d.s.length) (.int 0):=by
 refine af (show 19+d.s.length=18+d.s.length+1 by lia) ?_;exact List.replicate_succ'.symm
noncomputable def S8(B:Nat→Addr)(d:Dt)(u:V):List O:=zh B (mJ B d.at_) (.list (aN d.nums)) (sB B) ((List.range (19+d.s.length)).map (dN d)) (zg (18+d.s.length)) (iL (18+d.s.length)++[.int 2]) (iL (18+d.s.length)++[.int 2]) (List.replicate (19+d.s.length) (.int 0)) ([.list [.none],.list [.none],.list [.none,.ref (B 22)],.dict [],.list [],.list (aN (fU d.s.length)),.dict d.sh,.dict d.sp,.dict d.es,.dict [],.list [],.dict (wE B d),.list (dy d)]++
 Bp B (BV B u) d.rows [(.int 16,.int 5)] (E6 B) (DK B) (cz B d 27 3 11) [.ref (B 75),.ref (B 77),.ref (B 79)] (F2 B)++DH B d++Fj B d d.g0 d.g1 d.g2)
theorem C1:S7 B d u (wE B d) d.g0 d.g1 d.g2=S8 B d u:=by delta S7 S8 Eo;(refine af sO ?_;(refine af tB ?_;with_reducible rfl))
theorem vM:∀ i,i<29→∀ j,j<29→ve i=ve j→i=j:=by decide +kernel
theorem iK:∀ i,i<29→ve i<80∧ve i≠19:=by decide +kernel
theorem tq:objs (fun i=>B (ve i)) (d.ini (B 19))=(List.range 29).map fun i=>(S8 B d u).getD (ve i) (.list []):=by kernel_rfl
theorem t6:jm (fun i=>B (ve i)) (d.ini (B 19))=FB.map fun p=>(B p.1,p.2,(t8 ((S8 B d u).getD p.1 (.list [])) p.2).getD .none):=by kernel_rfl
theorem wQ:FB.all (fun p=>decide (p.1<80) && (t8 ((S8 B d u).getD p.1 (.list [])) p.2).isSome)=true:=by kernel_rfl
theorem yn(R:Hp B (S7 B d u (wE B d) d.g0 d.g1 d.g2) F Z)(hsp:∀ (k:Int) (r:List Int),aV d.s k=some r→∃ a,aJ d.sp (.int k)=some (.ref a)∧F a=some (.list ((W d.s k).map eu))):Wd (fun i=>B (ve i)) (d.ini (B 19)) Z:=by
 rw[C1] at R
 have len:(S8 B d u).length=80:=by kernel_rfl
 have nF:∀ {a o},F a=some o→∀ i,i<29→a≠B (ve i):=fun h i hi e=>by(rewrite[e] at h;rw[R.off _ (len▸(iK i hi).1)] at h);exact ns h
 refine⟨fun i o e=>?_,fun i j hi hj e=>vM i hi j hj (R.inj _ _ (len▸(iK i hi).1) (len▸(iK j hj).1) e),fun i a n v e=>?_,gG (R.o 31 rfl),gG (R.o 3 rfl),gG (R.o 48 rfl),⟨R.o 19 rfl,fun i hi e=>(iK i hi).2 (R.inj _ _ (by refine af len ?_;decide) (len▸(iK i hi).1) e).symm⟩,fun k r e=>?_⟩
 ·rw[tq (u:=u)] at e
  refine aI (List.getElem?_eq_some_iff.mp e) fun li ei=>?_
  (rewrite[List.length_map] at li;rw[List.length_range] at li)
  (rewrite[List.getElem_map] at ei;rw[List.getElem_range] at ei)
  refine bt ei ?_;exact R.o _ (getD_some (len▸(iK i li).1))
 ·(rewrite[t6 (u:=u)] at e;rw[List.getElem?_map] at e)
  refine o1x2 (Option.map_eq_some_iff.mp e) fun p hp ep=>?_
  have ok:=Bool.and_eq_true_iff.mp (List.all_eq_true.mp (wQ (B:=B) (d:=d) (u:=u)) p (List.mem_of_getElem? hp))
  refine aI (Option.isSome_iff_exists.mp ok.2) fun v' hv=>?_
  rw[hv] at ep
  cases ep
  exact xe R (len▸of_decide_eq_true ok.1) hv
 ·refine o1x2 (hsp k r e) fun a e1 e2=>?_
  exact⟨a,e1,R.fr _ _ e2,nF e2⟩
end
section
variable {n:Nat} {Q:aP} {B:Nat→Addr} {F Z:H} {d:Dt} {u:V}
theorem EO{a:Addr}{c:Nat}{fs:List (Nat×V)}{h i:Int}(ha:Z a=some (.inst c fs))(hc:(bo c).contains 132=true)(hh:dK fs 132=some (.int h)):Cv (a9 (n+1)) none 29 [.ref a,.int i] Z (oB 1 h i []):=
 bj Ar rfl fun za q=>ax (aF (ab aj (ab (bW rfl ha hc hh) (ab (ac rfl) (ab (aF ae) ae))))) q
theorem EN{a:Addr}{c:Nat}{fs:List (Nat×V)}{h i:Int}(ha:Z a=some (.inst c fs))(hc:(bo c).contains 132=true)(hh:dK fs 132=some (.int h)):Cv (a9 (n+1)) none 30 [.ref a,.int i] Z (oB 2 h i []):=
 bj Aq rfl fun za q=>ax (aF (ab aj (ab (bW rfl ha hc hh) (ab (ac rfl) (ab (aF ae) ae))))) q
theorem EM{a:Addr}{c:Nat}{fs:List (Nat×V)}{h:Int}(ha:Z a=some (.inst c fs))(hc:(bo c).contains 132=true)(hh:dK fs 132=some (.int h)):Cv (a9 (n+1)) none 31 [.ref a] Z (oB 1 h (-1) []):=
 bj Ap rfl fun za q=>ax (aF (ab aj (ab (bW rfl ha hc hh) (ab aj (ab (aF ae) ae))))) q
theorem wV{a:Addr}{c:Nat}{fs:List (Nat×V)}{h i:Int}(ha:Z a=some (.inst c fs))(hc:(bo c).contains 111=true)(hh:dK fs 111=some (.int h)):Cv (a9 (n+1)) none 32 [.ref a,.int i] Z (u9 (h+2+i) []):=
 bj Ao rfl fun za q=>ax (aF (ab aj (ab (aB (aB (bW rfl ha hc hh) aj fun Q q=>q) (ac rfl) fun Q q=>q) (ab (aF ae) ae)))) q
theorem EL{o i:Int}:Cv (a9 (n+1)) none 33 [.int o,.int i] Z (oB 4 o i []):=
 bj An rfl fun za q=>ax (aF (ab aj (ab (ac rfl) (ab (ac rfl) (ab (aF ae) ae))))) q
noncomputable def g3(a b c:Int):V:=.tup [.int a,.int b,.int c]
noncomputable def tX:List V:=[g3 2 2 2,g3 0 0 0,g3 1 0 0,g3 1 1 0,g3 1 1 1,g3 2 0 0,g3 2 1 0,g3 2 2 1]
theorem wM{i:Nat}(h:i<8):∃ a b c:Int,tX[i]? = some (g3 a b c):=fH (P:=fun i=>∃ a b c:Int,tX[i]? = some (g3 a b c)) ⟨_,_,_,rfl⟩ ⟨_,_,_,rfl⟩ ⟨_,_,_,rfl⟩ ⟨_,_,_,rfl⟩ ⟨_,_,_,rfl⟩ ⟨_,_,_,rfl⟩ ⟨_,_,_,rfl⟩ ⟨_,_,_,rfl⟩ h
theorem mF{w:List (V×V)}{g0 g1 g2:Int}:(S7 B d u w g0 g1 g2).length=80:=by kernel_rfl
theorem Fa{w:List (V×V)}{g0 g1 g2:Int}:(S7 B d u w g0 g1 g2)[20]? = some (.dict w):=by kernel_rfl
theorem C3{w:List (V×V)}{g0 g1 g2:Int}:(S7 B d u w g0 g1 g2)[53]? = some (mc B 7 (ni (.int 17)) 51 52 60 59 54 0)∧(S7 B d u w g0 g1 g2)[65]? = some (mc B 9 (ni (.int 18)) 63 64 66 72 66 3):=⟨by kernel_rfl,by kernel_rfl⟩
theorem r6{w:List (V×V)}{g0 g1 g2:Int}:(S7 B d u w g0 g1 g2)[75]? = some (dC B 16 17 74 g0 4 1)∧(S7 B d u w g0 g1 g2)[77]? = some (dC B 20 (18+d.s.length:Nat) 76 g1 4 2)∧(S7 B d u w g0 g1 g2)[79]? = some (dC B 24 18 78 g2 3 3):=⟨by kernel_rfl,by kernel_rfl,by kernel_rfl⟩
theorem AY{w w':List (V×V)}{g0 g1 g2:Int}:(S7 B d u w g0 g1 g2).set 20 (.dict w')=S7 B d u w' g0 g1 g2:=by kernel_rfl
theorem AZ{w:List (V×V)}{g0 g1 g2:Int}{x:Int}:(S7 B d u w g0 g1 g2).set 75 (dC B 16 17 74 x 4 1)=S7 B d u w x g1 g2∧(S7 B d u w g0 g1 g2).set 77 (dC B 20 (18+d.s.length:Nat) 76 x 4 2)=S7 B d u w g0 x g2∧(S7 B d u w g0 g1 g2).set 79 (dC B 24 18 78 x 3 3)=S7 B d u w g0 g1 x:=⟨by kernel_rfl,by kernel_rfl,by kernel_rfl⟩
theorem C4{w:List (V×V)}{g0 g1 g2:Int}:∃ tl,(S7 B d u w g0 g1 g2)=mJ B d.at_::.list (aN d.nums)::tl∧S7 B d.dr u w g0 g1 g2=mJ B (d.at_+1)::.list (aN d.nums)::tl:=⟨(S7 B d u w g0 g1 g2).drop 2,by kernel_rfl,by kernel_rfl⟩
theorem xq{w:List (V×V)}{g0 g1 g2 a b c:Int}:S7 B { d with g0:=a,g1:=b,g2:=c } u w g0 g1 g2=S7 B d u w g0 g1 g2:=by kernel_rfl
theorem mR{U:Env}{P:bL}{K:aO}{e:E}{m:Nat}{v:V}{w:List (V×V)}{g0 g1 g2:Int}{r:List C}(R:Hp B (S7 B d u w g0 g1 g2) F Z)(h10:U 10=some (.ref (B 20)))(he:Ev K U Z e v)(hk:be w (.sym m)=true)(hf:aJ w (.sym m)=none)(hl:w.length<bM)
  (k:∀ Z',Hp B (S7 B d u (w++[(.sym m,v)]) g0 g1 g2) F Z'→SS K r U P Z'):SS K (.set (.idx (.x 10) (.k (.sym m))) e::r) U P Z:=by
 refine dQ he (ac h10) aj (bp (R.o 20 Fa) hk hl) (k _ ?_)
 have R1:=R.set (i:=20) (by refine af mF ?_;decide) (.dict (bJ w (.sym m) v))
 rw[AY] at R1
 rw[il w hf] at R1 ⊢
 exact R1
theorem qX{U:Env}(R:Hp B (S7 B d u (wB B d) d.g0 d.g1 d.g2) F Z)(hd:Ok d)(hsp:∀ (k:Int) (r:List Int),aV d.s k=some r→∃ a,aJ d.sp (.int k)=some (.ref a)∧F a=some (.list ((W d.s k).map eu)))(h21:U 21=some (g3 d.g0 d.g1 d.g2))
  (h4:U 4=some (.int 17)) (h10:U 10=some (.ref (B 20))) (h14:U 14=some (.ref (B 31))) (h16:U 16=some (.ref (B 53))) (h17:U 17=some (.ref (B 65))) (h18:U 18=some (.ref (B 75))) (h19:U 19=some (.ref (B 77))) (h20:U 20=some (.ref (B 79)))
  (q:∀ A d' Z',A 0=B 0∧A 1=B 1→Wd A d' Z'→Ok d'→d'.nums=d.nums→d'.cs=[]→Q (.ref (A 2)) Z'):SS (a9 (n+1)) (w5.body.drop 30) U (fy Q) Z:=by
 have c2:∀ (i:Int) (v:Int) (Z:H),bE Z (g3 d.g0 d.g1 d.g2) (.int i)=some (.int v)→Ev (a9 (n+1)) U Z (.cmp (.idx (.x 21) (.k (.int i))) .Gt (.k (.int 0))) (.bool (decide (0<v))):=fun i v Z h=>j7 (aR h21 h) aj cu
 refine mR R h10 (aF (ab aj (ab aj (ab aj (ab (c2 0 d.g0 Z rfl) (ab (c2 1 d.g1 Z rfl) (ab (c2 1 d.g1 Z rfl) (ab (c2 2 d.g2 Z rfl) (ab aj ae))))))))) rfl rfl (show 8<bM by decide) fun Z1 R1=>?_
 refine mR R1 h10 (ac h14) rfl rfl (show 9<bM by decide) fun Z2 R2=>?_
 refine mR R2 h10 (ac h4) rfl rfl (show 10<bM by decide) fun Z3 R3=>?_
 refine mR R3 h10 (aF (ab (ac h16) (ab (ac h17) ae))) rfl rfl (show 11<bM by decide) fun Z4 R4=>?_
 have o53:=R4.o 53 C3.1
 have o65:=R4.o 65 C3.2
 have o75:=R4.o 75 r6.1
 have o77:=R4.o 77 r6.2.1
 have o79:=R4.o 79 r6.2.2
 have call:∀ (f i:Nat) (j:Int) (v w:V),db f=false→U i=some v→Cv (a9 (n+1)) none f [v,.int j] Z4 w→Ev (a9 (n+1)) U Z4 (.call (.k (.fn f)) [.x i,.k (.int j)]) w:=fun f i j v w hf h hc=>az (ab (ac h) (ab aj ae)) hf hc
 refine mR R4 h10 (v:=.tup [pl [] 0,pl [] 1,pl [] 2,pl [] 3,pl [] 4,pl [] 5,pl [] 6,pl [] 7]) (aF (ab (call 29 16 0 _ _ rfl h16 (EO o53 rfl rfl)) (ab (call 30 16 0 _ _ rfl h16 (EN o53 rfl rfl)) (ab (call 33 4 1 _ _ rfl h4 EL) (ab (call 32 18 1 _ _ rfl h18 (wV o75 rfl rfl)) (ab (call 32 19 0 _ _ rfl h19 (wV o77 rfl rfl)) (ab (call 32 19 1 _ _ rfl h19 (wV o77 rfl rfl)) (ab (call 32 20 0 _ _ rfl h20 (wV o79 rfl rfl)) (ab (az (vs:=[.ref (B 65)]) (ab (ac h17) ae) rfl (EM o65 rfl rfl)) ae))))))))) rfl rfl (show 12<bM by decide) fun Z5 R5=>?_
 have hd':Ok (d.ini (B 19)):={ hd with csK:=fun i=>rfl,csI:=fun e h=>(nomatch h),cc:=rfl,ww:=rfl,ss:=rfl }
 (rewrite[List.append_assoc] at R5;rewrite[List.append_assoc] at R5;rewrite[List.append_assoc] at R5;rw[List.append_assoc] at R5)
 exact ax (ac h10) (q (fun i=>B (ve i)) _ _ ⟨rfl,rfl⟩ (yn R5 hsp) hd' rfl rfl)
theorem sL{U:Env}(R:Hp B (S7 B d u (wB B d) 0 0 0) F Z)(hd:Ok d)(hsp:∀ (k:Int) (r:List Int),aV d.s k=some r→∃ a,aJ d.sp (.int k)=some (.ref a)∧F a=some (.list ((W d.s k).map eu)))(h0:U 0=some (.ref (B 0)))
  (h4:U 4=some (.int 17)) (h10:U 10=some (.ref (B 20))) (h14:U 14=some (.ref (B 31))) (h16:U 16=some (.ref (B 53))) (h17:U 17=some (.ref (B 65))) (h18:U 18=some (.ref (B 75))) (h19:U 19=some (.ref (B 77))) (h20:U 20=some (.ref (B 79)))
  (q:∀ A d' Z',A 0=B 0∧A 1=B 1→Wd A d' Z'→Ok d'→d'.nums=d.nums→d'.cs=[]→Q (.ref (A 2)) Z'):SS (a9 (n+1)) (w5.body.drop 26) U (fy Q) Z:=by
 refine o1x2 (C4 (B:=B) (d:=d) (u:=u) (w:=wB B d) (g0:=0) (g1:=0) (g2:=0)) fun tl e1 e2=>?_
 refine aX (gx (bk aj (aD (vs:=[.ref (B 0),.int 8]) (ab (ac h0) (ab aj ae)) rfl (pq (e1▸R) (by decide) fun i hi Z1 R1=>?_))))
 rw[← e2] at R1
 refine o3x1 (wM (Fz hi)) fun a b c hg=>?_
 refine⟨g3 a b c,bQ (l:=tX) (Int.natCast_nonneg _) (by rw[Int.toNat_natCast];exact hg),?_⟩
 have pr:∀ i,i≠21→(U.set 21 (g3 a b c)) i=U i:=fun i h=>aE h
 refine iG (v:=.int a) (aR rfl rfl) (ac ((pr 18 (by decide)).trans h18)) (R1.o 75 r6.1) rfl ?_
 replace R1:=R1.set (i:=75) (by refine af mF ?_;decide) (dC B 16 17 74 a 4 1)
 rw[AZ.1] at R1
 generalize hZ:Z1.set (B 75) _=Z2 at R1
 change SS _ _ _ _ (Z1.set (B 75) (dC B 16 17 74 a 4 1))
 refine af hZ ?_;clear hZ
 refine iG (v:=.int b) (aR rfl rfl) (ac ((pr 19 (by decide)).trans h19)) (R1.o 77 r6.2.1) rfl ?_
 replace R1:=R1.set (i:=77) (by refine af mF ?_;decide) (dC B 20 (18+d.s.length:Nat) 76 b 4 2)
 have e3:=(AZ (B:=B) (d:=d.dr) (u:=u) (w:=wB B d) (g0:=a) (g1:=0) (g2:=0) (x:=b)).2.1
 rw[show d.dr.s=d.s from rfl] at e3
 rw[e3] at R1
 generalize hZ:Z2.set (B 77) _=Z3 at R1
 change SS _ _ _ _ (Z2.set (B 77) (dC B 20 (18+d.s.length:Nat) 76 b 4 2))
 refine af hZ ?_;clear hZ
 refine iG (v:=.int c) (aR rfl rfl) (ac ((pr 20 (by decide)).trans h20)) (R1.o 79 r6.2.2) rfl ?_
 replace R1:=R1.set (i:=79) (by refine af mF ?_;decide) (dC B 24 18 78 c 3 3)
 rw[AZ.2.2] at R1
 have hd':Ok { d.dr with g0:=a,g1:=b,g2:=c }:={ hd with }
 rw[← xq (a:=a) (b:=b) (c:=c)] at R1
 exact qX (d:={ d.dr with g0:=a,g1:=b,g2:=c }) R1 hd' hsp rfl ((pr 4 (by decide)).trans h4) ((pr 10 (by decide)).trans h10) ((pr 14 (by decide)).trans h14) ((pr 16 (by decide)).trans h16) ((pr 17 (by decide)).trans h17) ((pr 18 (by decide)).trans h18) ((pr 19 (by decide)).trans h19) ((pr 20 (by decide)).trans h20) q
end
noncomputable def yM(B:Nat→Addr)(d:Dt):List O:=[.list [.none],.list [.none],.list [.none,.ref (B 22)],.dict [],.list [],.list (aN (fU d.s.length)),.dict d.sh,.dict d.sp,.dict d.es,.dict [],.list [],.dict (wB B d),.list (dy d)]
noncomputable def S6(B:Nat→Addr)(d:Dt)(u:V)(rs:List V)(ix:List (V×V))(dl wl ol:List V)(hp:O)(th:List V)(hat:List (V×V))(t:List O):List O:=
 zh B (mJ B d.at_) (.list (aN d.nums)) (sB B) rs ix dl wl ol (yM B d++Bp B (BV B u) d.rows [(.int 16,.int 5)] (E6 B) (DK B) hp th hat++DH B d++t)
noncomputable def bX(top kind:Int)(b:Addr)(xG size serial:Int):O:=.inst 79 [(111,.int top),(112,.int kind),(113,.ref b),(114,.int xG),(115,.int size),(116,.int serial)]
section
variable {n:Nat} {Q:aP} {B:Nat→Addr} {F Z:H} {d:Dt} {u:V} {rs:List V} {ix:List (V×V)} {dl wl ol:List V} {hp hp':O} {th th':List V} {hat hat':List (V×V)} {t:List O} {j l:Nat}
theorem xU:(S6 B d u rs ix dl wl ol hp th hat t)[j+74]? = t[j]?:=by kernel_rfl
theorem mH:(S6 B d u rs ix dl wl ol hp th hat t).length=t.length+74:=by kernel_rfl
theorem uT{o:O}:S6 B d u rs ix dl wl ol hp th hat t++[o]=S6 B d u rs ix dl wl ol hp th hat (t++[o]):=by kernel_rfl
theorem qP:(S6 B d u rs ix dl wl ol hp th hat t)[25]? = some hp∧(S6 B d u rs ix dl wl ol hp th hat t)[26]? = some (.list th)∧(S6 B d u rs ix dl wl ol hp th hat t)[27]? = some (.dict hat):=⟨by kernel_rfl,by kernel_rfl,by kernel_rfl⟩
theorem mG:(S6 B d u rs ix dl wl ol hp th hat t).set 25 hp'=S6 B d u rs ix dl wl ol hp' th hat t:=by kernel_rfl
theorem xt:(S6 B d u rs ix dl wl ol hp th hat t).set 26 (.list th')=S6 B d u rs ix dl wl ol hp th' hat t:=by kernel_rfl
theorem xr:(S6 B d u rs ix dl wl ol hp th hat t).set 27 (.dict hat')=S6 B d u rs ix dl wl ol hp th hat' t:=by kernel_rfl
theorem A0{o:O}:(S6 B d u rs ix dl wl ol hp th hat t).set (j+74) o=S6 B d u rs ix dl wl ol hp th hat (t.set j o):=by kernel_rfl
theorem EP{k size:Int}(h:1≤k∧size=2+k):Cv (a9 (n+1)) none 19 [.int k] Z (.int size):=by
 obtain⟨h,rfl⟩:=h
 exact bj AD rfl fun za q=>au (ai (aq (aB (w:=.int (2+k)) aj (ac rfl) fun Q q=>q) aW) (bH (by lia))) (ax (aB aj (ac rfl) fun Q q=>q) q)
theorem tU{top made fresh kind size:Int}{xs:List V}(hl:t.length=l)(R:Hp B (S6 B d u rs ix dl wl ol (cz B d top made fresh) th hat (t++[.list xs])) F Z)(hz:1≤(xs.length:Int)∧size=2+xs.length)(ht:th.length<bM)(hk:be hat (.int top)=true)(hh:hat.length<bM)
  (q:∀ a Z',Hp (aL B (l+75) [a]) (S6 B d u rs ix dl wl ol (cz B d (top+size) (made+1) (fresh+size)) (th++[.ref a]) (bJ hat (.int top) (.ref a)) (t++[.list xs,bX top kind (B (l+74)) 0 size (made+1)])) F Z'→Q (.ref a) Z') :
  a9 (n+3) none 20 [.ref (B 25),.int kind,.ref (B (l+74))] Q Z:=by
 have len:(S6 B d u rs ix dl wl ol (cz B d top made fresh) th hat (t++[.list xs])).length=l+75:=by(refine ak (mH) ?_;refine af List.length_append ?_;refine af hl ?_);rfl
 have hb:(S6 B d u rs ix dl wl ol (cz B d top made fresh) th hat (t++[.list xs]))[l+74]? = some (.list xs):=by(refine ak (xU) ?_;refine bt hl ?_;(refine ak (List.getElem?_concat_length) ?_;with_reducible rfl))
 refine br AC rfl (aX (fM rfl rfl (aU (v:=.int top) (bW rfl (R.o 25 qP.1) rfl rfl) (aU (ac rfl) (aU (ac rfl) (cM fun a ha=>?_))))))
 have nb:B (l+74)≠a:=fun e=>by have:=R.o _ hb;(rewrite[e] at this;rw[ha] at this);exact ns this
 refine gh rB [(111,.x 1),(112,.x 2),(113,.x 3),(114,.k (.int 0)),(115,.ev (.call (.k (.fn 19)) [.call (.k (.bi 0)) [.x 3]]) (.int size)),(116,.k (.int 0))] [] rfl rfl R len ha rfl rfl (fun p hp Z' x=>?_) fun bs Z1 R1=>ay ⟨rfl,?_⟩
 ·refine af (List.mem_singleton.mp hp) ?_
  exact az (vs:=[.int xs.length]) (ab (a8 (vs:=[.ref (B (l+74))]) (ab (ac rfl) ae) (bK (x _ _ nb (bw nb (R.o _ hb))))) ae) rfl (EP hz)
 ·replace R1:Hp (aL B (l+75) (a::bs)) (S6 B d u rs ix dl wl ol (cz B d top made fresh) th hat (t++[.list xs])++[bX top kind (B (l+74)) 0 size 0]) F Z1:=R1
  have R1:Hp (aL B (l+75) [a]) _ F Z1:=R1.congr (B':=aL B (l+75) [a]) fun i hi=>by
   (rewrite[List.length_append] at hi;rw[len] at hi)
   rcases Nat.lt_or_eq_of_le (Nat.le_of_lt_succ hi) with h | h
   ·(refine ak (cC h) ?_;(refine af (cC h) ?_;with_reducible rfl))
   ·(refine af h ?_;refine ak (eF) ?_;(refine af eF ?_;with_reducible rfl))
  (rewrite[uT] at R1;rw[List.append_assoc] at R1)
  have e:∀ i,i<28→aL B (l+75) [a] i=B i:=fun i hi=>cC (Nat.lt_of_lt_of_le hi (Nat.le_trans (by decide) (Nat.le_add_left 75 l)))
  have e5:=e 25 (by decide)
  have e6:=e 26 (by decide)
  have e7:=e 27 (by decide)
  have ea:aL B (l+75) [a] (l+75)=a:=eF
  replace q:=q a
  generalize aL B (l+75) [a]=B' at R1 e5 e6 e7 ea q
  have lt:∀ {hp th hat T} {i:Nat},i<74→i<(S6 B d u rs ix dl wl ol hp th hat T).length:=fun{hp th hat T i} h=>by refine af mH ?_;exact Nat.lt_of_lt_of_le h (Nat.le_add_left 74 _)
  have o25:∀ {Z:H} {hp th hat T},Hp B' (S6 B d u rs ix dl wl ol hp th hat T) F Z→Z (B 25)=some hp:=fun R=>e5▸R.o 25 qP.1
  have hT:(t++[.list xs,bX top kind (B (l+74)) 0 size 0])[l+1]? = some (bX top kind (B (l+74)) 0 size 0):=by
   (refine ak (List.getElem?_append_right (by lia)) ?_;refine af hl ?_;refine af (show l+1 - l=1 by lia) ?_);rfl
  have oa:∀ {Z:H} {hp th hat T} {x:O},T[l+1]? = some x→Hp B' (S6 B d u rs ix dl wl ol hp th hat T) F Z→Z a=some x:=fun{Z hp th hat T x} h R=>ea▸R.o (l+75) (xU.trans h)
  refine lK (ac rfl) (o25 R1) rfl rfl aj rfl ?_
  replace R1:=R1.set (i:=25) (lt (by decide)) (cz B d top (made+1) fresh)
  (rewrite[e5] at R1;rw[mG] at R1)
  change SS _ _ _ _ (Z1.set (B 25) (cz B d top (made+1) fresh))
  generalize Z1.set (B 25) (cz B d top (made+1) fresh)=Z2 at R1 ⊢
  refine iG (v:=.int (made+1)) (bW rfl (o25 R1) rfl rfl) (ac rfl) (oa hT R1) rfl ?_
  replace R1:=R1.set (i:=l+75) (by(refine af mH ?_;refine af List.length_append ?_;refine af hl ?_);exact Nat.lt_succ_self _) (bX top kind (B (l+74)) 0 size (made+1))
  (rewrite[ea] at R1;rewrite[show l+75=(l+1)+74 from rfl] at R1;rw[A0] at R1)
  have hs:(t++[O.list xs,bX top kind (B (l+74)) 0 size 0]).set (l+1) (bX top kind (B (l+74)) 0 size (made+1))=t++[O.list xs,bX top kind (B (l+74)) 0 size (made+1)]:=by
   (refine ak (List.set_append_right _ _ (by lia)) ?_;refine af hl ?_;refine af (show l+1 - l=1 by lia) ?_);rfl
  (rewrite[show[O.list xs]++[bX top kind (B (l+74)) 0 size 0]=[O.list xs,bX top kind (B (l+74)) 0 size 0] from rfl] at R1;rw[hs] at R1)
  change SS _ _ _ _ (Z2.set a (bX top kind (B (l+74)) 0 size (made+1)))
  generalize Z2.set a (bX top kind (B (l+74)) 0 size (made+1))=Z3 at R1 ⊢
  have hT2:(t++[.list xs,bX top kind (B (l+74)) 0 size (made+1)])[l+1]? = some (bX top kind (B (l+74)) 0 size (made+1)):=by
   (refine ak (List.getElem?_append_right (by lia)) ?_;refine af hl ?_;refine af (show l+1 - l=1 by lia) ?_);rfl
  refine bI (bW rfl (o25 R1) rfl rfl) (e6▸R1.o 26 qP.2.1) (ac rfl) ht ?_
  replace R1:=R1.set (i:=26) (lt (by decide)) (.list (th++[.ref a]))
  (rewrite[e6] at R1;rw[xt] at R1)
  generalize Z3.set (B 26) (.list (th++[.ref a]))=Z4 at R1 ⊢
  refine dQ (ac rfl) (bW rfl (o25 R1) rfl rfl) (bW (v:=.int top) rfl (oa hT2 R1) rfl rfl) (bp (e7▸R1.o 27 qP.2.2) hk hh) ?_
  replace R1:=R1.set (i:=27) (lt (by decide)) (.dict (bJ hat (.int top) (.ref a)))
  (rewrite[e7] at R1;rw[xr] at R1)
  generalize Z4.set (B 27) (.dict (bJ hat (.int top) (.ref a)))=Z5 at R1 ⊢
  refine lK (x:=top) (ac rfl) (o25 R1) rfl rfl (bW (v:=.int size) rfl (oa hT2 R1) rfl rfl) rfl ?_
  replace R1:=R1.set (i:=25) (lt (by decide)) (cz B d (top+size) (made+1) fresh)
  (rewrite[e5] at R1;rw[mG] at R1)
  change SS _ _ _ _ (Z5.set (B 25) (cz B d (top+size) (made+1) fresh))
  generalize Z5.set (B 25) (cz B d (top+size) (made+1) fresh)=Z6 at R1 ⊢
  refine lK (x:=fresh) (ac rfl) (o25 R1) rfl rfl (bW (v:=.int size) rfl (oa hT2 R1) rfl rfl) rfl ?_
  replace R1:=R1.set (i:=25) (lt (by decide)) (cz B d (top+size) (made+1) (fresh+size))
  (rewrite[e5] at R1;rw[mG] at R1)
  exact ax (ac rfl) (q _ R1)
end
section
variable {n:Nat} {Q:aP} {B:Nat→Addr} {F Z:H} {d:Dt} {u:V} {rs:List V} {ix:List (V×V)} {dl wl ol:List V} {hp:O} {th:List V} {hat:List (V×V)} {t:List O} {l:Nat} {bs:List Addr}
theorem uS:S6 (aL B (l+74) bs) d u rs ix dl wl ol hp th hat t=S6 B d u rs ix dl wl ol hp th hat t:=by kernel_rfl
theorem tS{a b c:Int}:cz (aL B (l+74) bs) d a b c=cz B d a b c:=by kernel_rfl
theorem qO:(S6 B d u rs ix dl wl ol hp th hat t)[21]? = some (.list (dy d)):=by kernel_rfl
noncomputable def Fb(B:Nat→Addr)(d:Dt)(u:V)(hp:O)(th:List V)(hat:List (V×V))(t:List O):List O:=S6 B d u (fA (18+d.s.length)) (gZ (18+d.s.length)) (iL (18+d.s.length)) (iL (18+d.s.length)) (nA (18+d.s.length)) hp th hat t
noncomputable def Fc(B:Nat→Addr)(d:Dt)(u:V)(hp:O)(th:List V)(hat:List (V×V))(t:List O):List O:=S6 B d u (fA (18+d.s.length)++[kG]) (zg (18+d.s.length)) (iL (18+d.s.length)++[.int 2]) (iL (18+d.s.length)++[.int 2]) (nA (18+d.s.length)++[.int 0]) hp th hat t
theorem j3{top made fresh kind size:Int}{xs:List V}{b:Addr}(hl:t.length=l)(R:Hp B (S6 B d u rs ix dl wl ol (cz B d top made fresh) th hat t) F Z)(hb:Z b=none)(hz:1≤(xs.length:Int)∧size=2+xs.length)(ht:th.length<bM)(hk:be hat (.int top)=true)(hh:hat.length<bM)
  (q:∀ a Z',Hp (aL (aL B (l+74) [b]) (l+75) [a]) (S6 B d u rs ix dl wl ol (cz B d (top+size) (made+1) (fresh+size)) (th++[.ref a]) (bJ hat (.int top) (.ref a)) (t++[.list xs,bX top kind b 0 size (made+1)])) F Z'→Q (.ref a) Z') :
  a9 (n+3) none 20 [.ref (B 25),.int kind,.ref b] Q (Z.set b (.list xs)):=by
 have R1:=R.new (mH.trans (by rw[hl,Nat.add_comm])) hb (.list xs)
 rw[Nat.add_comm 74 l] at R1
 rw[uT] at R1
 rw[← uS (l:=l) (bs:=[b]),← tS (l:=l) (bs:=[b])] at R1
 have e:∀ i,i<74→aL B (l+74) [b] i=B i:=fun i hi=>cC (Nat.lt_of_lt_of_le hi (Nat.le_add_left 74 l))
 have:=tU (n:=n) (Q:=Q) (kind:=kind) hl R1 hz ht hk hh fun a Z' R'=>q a Z' (by rw[uS,tS,show aL B (l+74) [b] (l+74)=b from eF] at R';exact R')
 rw[e 25 (by decide),show aL B (l+74) [b] (l+74)=b from eF] at this
 exact this
theorem C2{B':Nat→Addr}{b1 a1 b2 a2 b3 a3:Addr}(e:B'=aL (aL (aL (aL (aL (aL B 74 [b1]) 75 [a1]) 76 [b2]) 77 [a2]) 78 [b3]) 79 [a3]):Fc B d u (cz B d 27 3 11) [.ref a1,.ref a2,.ref a3] [(.int 16,.ref a1),(.int 20,.ref a2),(.int 24,.ref a3)] [.list [.tup [.int 4,.int 24],d.v 3],bX 16 17 b1 0 4 1,.list [d.v 4,d.v 5],bX 20 (18+d.s.length:Nat) b2 0 4 2,.list [d.v 6],bX 24 18 b3 0 3 3]=S7 B' d u (wB B' d) 0 0 0:=by subst e;kernel_rfl
theorem sK{U:Env}(R:Hp B (Fb B d u (cz B d 16 0 0) [] [] []) F Z)(hd:Ok d)(hsp:∀ (k:Int) (r:List Int),aV d.s k=some r→∃ a,aJ d.sp (.int k)=some (.ref a)∧F a=some (.list ((W d.s k).map eu)))(h0:U 0=some (.ref (B 0)))(h2:U 2=some (.ref (B 3)))
  (h4:U 4=some (.int 17)) (h7:U 7=some (.int 18)) (h8:U 8=some (.int 19)) (h10:U 10=some (.ref (B 20))) (h12:U 12=some (.ref (B 21))) (h13:U 13=some (.ref (B 25))) (h14:U 14=some (.ref (B 31))) (h16:U 16=some (.ref (B 53))) (h17:U 17=some (.ref (B 65)))
  (q:∀ A d' Z',A 0=B 0∧A 1=B 1→Wd A d' Z'→Ok d'→d'.nums=d.nums→d'.cs=[]→Q (.ref (A 2)) Z'):SS (a9 (n+5)) (w5.body.drop 23) U (fy Q) Z:=by
 have vw:∀ {U:Env} {Z':H} (i:Nat),i<8→U 12=some (.ref (B 21))→Z' (B 21)=some (.list (dy d))→Ev (a9 (n+5)) U Z' (.idx (.x 12) (.k (.int i))) (d.v i):=fun i hi h hv=>aR h (aK hv (Int.natCast_nonneg _) (by rw[Int.toNat_natCast];exact gz d hi))
 have l7:=hd.sh.len
 refine aX (cF rfl (aU (ac h13) (aU (ac h4) (bO (bz (vs:=[.tup [.int 4,.int 24],d.v 3]) (ab (aF (ab aj (ab aj ae))) (ab (vw 3 (by decide) h12 (R.o 21 qO)) ae)) fun b1 hb1=>j3 (l:=0) (size:=4) rfl R hb1 ⟨(by decide:(1:Int)≤2),rfl⟩ (by decide) rfl (by decide) fun a1 Z1 R1=>?_)))))
 refine aX (cF rfl (aU (ac h13) (eC (aD (vs:=[.ref (aL (aL B (0+74) [b1]) (0+75) [a1] 3),.int 19]) (ab (ac h2) (ab (ac h8) ae)) rfl (GU (N:=18+d.s.length) (show Hp (aL (aL B (0+74) [b1]) (0+75) [a1]) (Fb (aL (aL B (0+74) [b1]) (0+75) [a1]) d u (cz B d (16+4) (0+1) (0+4)) [.ref a1] [(.int 16,.ref a1)] [.list [.tup [.int 4,.int 24],d.v 3],bX 16 17 b1 0 4 (0+1)]) F Z1 from R1) (by lia) (by lia) fun Z2 R2=>?_)))))
 replace R2:Hp (aL (aL B (0+74) [b1]) (0+75) [a1]) (Fc (aL (aL B (0+74) [b1]) (0+75) [a1]) d u (cz B d (16+4) (0+1) (0+4)) [.ref a1] [(.int 16,.ref a1)] [.list [.tup [.int 4,.int 24],d.v 3],bX 16 17 b1 0 4 (0+1)]) F Z2:=R2
 refine bO (bz (vs:=[d.v 4,d.v 5]) (ab (vw 4 (by decide) h12 (R2.o 21 qO)) (ab (vw 5 (by decide) h12 (R2.o 21 qO)) ae)) fun b2 hb2=>j3 (B:=aL (aL B (0+74) [b1]) (0+75) [a1]) (l:=2) (size:=4) rfl R2 hb2 ⟨(by decide:(1:Int)≤2),rfl⟩ (by decide:1<bM) rfl (by decide:1<bM) fun a2 Z3 R3=>?_)
 refine aX (cF rfl (aU (ac h13) (aU (ac h7) (bO (bz (vs:=[d.v 6]) (ab (vw 6 (by decide) h12 (R3.o 21 qO)) ae) fun b3 hb3=>j3 (B:=aL (aL (aL (aL B (0+74) [b1]) (0+75) [a1]) (2+74) [b2]) (2+75) [a2]) (l:=4) (size:=3) rfl R3 hb3 ⟨(by decide:(1:Int)≤1),rfl⟩ (by decide:2<bM) rfl (by decide:2<bM) fun a3 Z4 R4=>?_)))))
 replace R4:Hp (aL (aL (aL (aL (aL (aL B 74 [b1]) 75 [a1]) 76 [b2]) 77 [a2]) 78 [b3]) 79 [a3]) (Fc B d u (cz B d 27 3 11) [.ref a1,.ref a2,.ref a3] [(.int 16,.ref a1),(.int 20,.ref a2),(.int 24,.ref a3)] [.list [.tup [.int 4,.int 24],d.v 3],bX 16 17 b1 0 4 1,.list [d.v 4,d.v 5],bX 20 (18+d.s.length:Nat) b2 0 4 2,.list [d.v 6],bX 24 18 b3 0 3 3]) F Z4:=R4
 rw[C2 rfl] at R4
 exact sL (n:=n+4) R4 hd hsp h0 h4 h10 h14 h16 h17 rfl rfl rfl q
end
noncomputable def S5(B:Nat→Addr)(d:Dt)(u:V)(bn st:List (V×V))(t:List O):List O:=
 ku B (mJ B d.at_) (.list (aN d.nums)) (sB B) (18+d.s.length) (yM B d++Bp B (BV B u) d.rows [(.int 16,.int 5)] bn st (cz B d 16 0 0) [] []++t)
section
variable {n:Nat} {Q:aP} {B:Nat→Addr} {F Z:H} {d:Dt} {u:V} {bn st bn' st':List (V×V)} {t:List O} {j:Nat}
theorem gw:(S5 B d u bn st t).length=t.length+49:=by kernel_rfl
theorem pM{o:O}:S5 B d u bn st t++[o]=S5 B d u bn st (t++[o]):=by kernel_rfl
theorem qR{l:List O}:S5 B d u bn st t++l=S5 B d u bn st (t++l):=by kernel_rfl
theorem qQ:(S5 B d u bn st t)[21]? = some (.list (dy d)):=by kernel_rfl
theorem xW:(S5 B d u bn st t)[j+49]? = t[j]?:=by kernel_rfl
theorem uW{o:O}:(S5 B d u bn st t).set (j+49) o=S5 B d u bn st (t.set j o):=by kernel_rfl
theorem xV:(S5 B d u bn st t)[38]? = some (.dict bn):=by kernel_rfl
theorem C6:(S5 B d u bn st t)[39]? = some (.dict st):=by kernel_rfl
theorem uU:(S5 B d u bn st t)[31]? = some (sx B):=by kernel_rfl
theorem uV:(S5 B d u bn st t).set 38 (.dict bn')=S5 B d u bn' st t:=by kernel_rfl
theorem A1:(S5 B d u bn st t).set 39 (.dict st')=S5 B d u bn st' t:=by kernel_rfl
noncomputable def oj:List (Nat×It):=[(133,.x 1),(192,.x 2),(193,.x 3),(194,.x 4)]
noncomputable def zn:List (Nat×It):=[(97,.x 1),(136,.x 2),(137,.x 3),(138,.k (.int 0)),(134,.x 4),(133,.lst []),(139,.lst []),(140,.lst []),(141,.lst []),(142,.lst []),(135,.lst []),(102,.x 5),(132,.x 1),(143,.k (.int 0)),(144,.ev (.neg (.k (.int 1))) (.int (-1)))]
noncomputable def Cq(num:Int)(mref:V)(body args loc keep:Addr)(bs:List Addr)(sort:Int):O:=.inst 82 [(97,.int num),(136,mref),(137,.ref body),(138,.int 0),(134,.ref args),(133,.ref loc),(139,.ref (bs.getD 1 0)),(140,.ref (bs.getD 2 0)),(141,.ref (bs.getD 3 0)),(142,.ref (bs.getD 4 0)),(135,.ref keep),(102,.int sort),(132,.int num),(143,.int 0),(144,.int (-1))]
noncomputable def E7(l:V)(b1 b2:Addr):O:=.inst 87 [(133,l),(192,.int 1),(193,.ref b1),(194,.ref b2)]
theorem mP{U:Env}{P:aP}{m:Nat}{num sort:Int}{mref loc:V}{em el:E}{la:List E}{xs:List V}(R:Hp B (S5 B d u bn st t) F Z)(hl:t.length+49=m)(hm:∀ Z',Ev (a9 (n+1)) U Z' em mref)(hloc:∀ Z',Ev (a9 (n+1)) U Z' el loc)(ha:∀ Z',Z' (B 21)=some (.list (dy d))→Es (a9 (n+1)) U Z' la xs)
  (q:∀ b1 b2 a1 (bs1:List Addr) b3 a2 (bs2:List Addr) Z',Hp (aL (aL (aL (aL (aL B m [b1]) (m+1) [b2]) (m+2) (a1::bs1)) (m+3) [b3]) (m+4) (a2::bs2)) (S5 B d u bn st (t++([.list [],.list [],E7 loc b1 b2,.list xs,Cq num mref a1 b3 (bs2.getD 0 0) (bs2.getD 5 0) bs2 sort]++e6))) F Z'→P (.ref a2) Z') :
  WE (a9 (n+1)) (.call (.k (.fn 82)) [.k (.int num),em,.call (.k (.fn 87)) [el,.k (.int 1),.lst [],.lst []],.lst la,.k (.int sort)]) U P Z:=by
 have len0:(S5 B d u bn st t).length=m:=gw.trans hl
 refine fM rfl rfl (aU aj (aU (hm _) (eC (fM rfl rfl (aU (hloc _) (aU aj (eC (bz ae fun b1 hb1=>eC (bz ae fun b2 hb2=>cM fun a1 ha1=>?_)))))))))
 have R1:=R.new len0 hb1 (.list [])
 have len1:(S5 B d u bn st t++[O.list []]).length=m+1:=by(refine ak (List.length_append) ?_;refine af len0 ?_);rfl
 have R2:=R1.new len1 hb2 (.list [])
 have len2:(S5 B d u bn st t++[O.list []]++[O.list []]).length=m+2:=by(refine ak (List.length_append) ?_;refine af len1 ?_);rfl
 refine gh rj oj [] rfl rfl R2 len2 ha1 rfl rfl (fun p h=>nomatch h) fun bs1 Z1 R3=>ay ⟨rfl,eC (bz (ha Z1 ?_) fun b3 hb3=>aU aj (cM fun a2 ha2=>?_))⟩
 ·have lm:21<m:=hl▸Nat.lt_of_lt_of_le (by decide) (Nat.le_add_left 49 t.length)
  have:=R3.o 21 (o:=.list (dy d)) ?_
  ·(rewrite[cC (Nat.lt_succ_of_lt (Nat.lt_succ_of_lt lm))] at this;rewrite[cC (Nat.lt_succ_of_lt lm)] at this;rw[cC lm] at this);exact this
  ·(rewrite[List.append_assoc];rewrite[List.append_assoc];refine af qR ?_);exact qQ
 have len3:((S5 B d u bn st t++[O.list []]++[O.list []])++(O.inst 87 (ft (bV oX.ps [.ref a1,loc,.int 1,.ref b1,.ref b2] Env.nil) bs1 0 [] oj)::vU oj)).length=m+3:=by(refine ak (List.length_append) ?_;refine af len2 ?_);rfl
 have R4:=R3.new len3 hb3 (.list xs)
 have len4:(((S5 B d u bn st t++[O.list []]++[O.list []])++(O.inst 87 (ft (bV oX.ps [.ref a1,loc,.int 1,.ref b1,.ref b2] Env.nil) bs1 0 [] oj)::vU oj))++[O.list xs]).length=m+4:=by(refine ak (List.length_append) ?_;refine af len3 ?_);rfl
 refine gh rp zn [] rfl rfl R4 len4 ha2 rfl rfl (fun p hp Z' x=>?_) fun bs2 Z2 R5=>ay ⟨rfl,q b1 b2 a1 bs1 b3 a2 bs2 Z2 ?_⟩
 ·refine af (List.mem_singleton.mp hp) ?_;exact fh aj
 ·(rewrite[List.append_assoc] at R5;rewrite[List.append_assoc] at R5;rewrite[List.append_assoc] at R5;rewrite[List.append_assoc] at R5;rw[qR] at R5)
  exact R5
noncomputable def tF(d:Dt)(b1 b2 a1 b3 c0:Addr)(bs2:List Addr)(b4 b5 a3 b6 c1:Addr)(bs4:List Addr):List O:=
 [.list [],.list [],E7 (.tup [.int 18,.int 7]) b1 b2,.list [d.v 1,.tup [.int 1,.int 56]],Cq 7 (ni (.int 17)) a1 b3 c0 (bs2.getD 5 0) bs2 0]++e6++[.list [d.v 0,.tup [.int 1,.int 55]],.list [],.list [],E7 (.tup []) b4 b5,.list [],Cq 9 (ni (.int 18)) a3 b6 (bs4.getD 0 0) c1 bs4 3]++e6++[.list [d.v 7]]
theorem C5{B':Nat→Addr}{b1 b2 a1 b3 f1 c0 b4 b5 a3 b6 f2 c1 c2:Addr}{bs1 bs2 bs3 bs4:List Addr}(e:B'=aL (aL (aL (aL (aL (aL (aL (aL (aL (aL (aL (aL (aL B 49 [b1]) 50 [b2]) 51 (a1::bs1)) 52 [b3]) 53 (f1::bs2)) 60 [c0]) 61 [b4]) 62 [b5]) 63 (a3::bs3)) 64 [b6]) 65 (f2::bs4)) 72 [c1]) 73 [c2]) :
  S5 B d u [(.int 7,.ref f1),(.int 9,.ref f2)] [(.int 17,.ref c2)] (tF d b1 b2 a1 b3 c0 bs2 b4 b5 a3 b6 c1 bs4++[O.list [.tup [.int 1,.int 57],d.v 2]])=Fb B' d u (cz B' d 16 0 0) [] [] []:=by refine af e ?_;kernel_rfl
theorem Iu:(S5 B d u bn st t).length=t.length+49:=gw
theorem y0{i:Nat}(h:i<49):i<(S5 B d u bn st t).length:=by refine af gw ?_;exact Nat.lt_of_lt_of_le h (Nat.le_add_left 49 _)
theorem oO{U:Env}(R:Hp B (S5 B d u [] [] []) F Z)(hd:Ok d)(hsp:∀ (k:Int) (r:List Int),aV d.s k=some r→∃ a,aJ d.sp (.int k)=some (.ref a)∧F a=some (.list ((W d.s k).map eu)))(h0:U 0=some (.ref (B 0)))(h2:U 2=some (.ref (B 3)))
  (h4:U 4=some (.int 17)) (h7:U 7=some (.int 18)) (h8:U 8=some (.int 19)) (h10:U 10=some (.ref (B 20))) (h12:U 12=some (.ref (B 21))) (h13:U 13=some (.ref (B 25))) (h14:U 14=some (.ref (B 31)))
  (q:∀ A d' Z',A 0=B 0∧A 1=B 1→Wd A d' Z'→Ok d'→d'.nums=d.nums→d'.cs=[]→Q (.ref (A 2)) Z'):SS (a9 (n+5)) (w5.body.drop 16) U (fy Q) Z:=by
 have vw:∀ {U:Env} {Z':H} (i:Nat),i<8→U 12=some (.ref (B 21))→Z' (B 21)=some (.list (dy d))→Ev (a9 (n+5)) U Z' (.idx (.x 12) (.k (.int i))) (d.v i):=fun i hi h hv=>aR h (aK hv (Int.natCast_nonneg _) (by rw[Int.toNat_natCast];exact gz d hi))
 refine aX (mP (n:=n+4) (m:=49) (xs:=[d.v 1,.tup [.int 1,.int 56]]) R rfl (fun Z'=>aF (ab (ac h4) (ab aj (ab (aF ae) ae)))) (fun Z'=>aF (ab (ac h7) (ab aj ae))) (fun Z' hv=>ab (vw 1 (by decide) h12 hv) (ab (aF (ab aj (ab aj ae))) ae)) fun b1 b2 a1 bs1 b3 f1 bs2 Z1 R1=>?_)
 refine f9 (bz (vs:=[d.v 0,.tup [.int 1,.int 55]]) (ab (vw 0 (by decide) h12 (R1.o 21 qQ)) (ab (aF (ab aj (ab aj ae))) ae)) fun c0 hc0=>bk (v:=.ref f1) (ac rfl) ?_)
 have R2:=R1.new (n:=60) gw hc0 (.list [d.v 0,.tup [.int 1,.int 55]])
 rw[pM] at R2
 refine⟨_,cj (R2.o 53 xW) rfl,?_⟩
 replace R2:=R2.set (i:=53) (by refine af gw ?_;exact Nat.lt_of_lt_of_le (by decide:53<61) (Nat.le_refl _)) (Cq 7 (ni (.int 17)) a1 b3 c0 (bs2.getD 5 0) bs2 0)
 (rewrite[show(53:Nat)=4+49 from rfl] at R2;rw[uW] at R2)
 refine aX (mP (n:=n+4) (m:=61) (xs:=[]) R2 rfl (fun Z'=>aF (ab (ac h7) (ab aj (ab (aF ae) ae)))) (fun Z'=>aF ae) (fun Z' hv=>ae) fun b4 b5 a3 bs3 b6 f2 bs4 Z3 R3=>?_)
 refine f9 (bz (vs:=[d.v 7]) (ab (vw 7 (by decide) h12 (R3.o 21 qQ)) ae) fun c1 hc1=>bk (v:=.ref f2) (ac rfl) ?_)
 have R4:=R3.new (n:=72) gw hc1 (.list [d.v 7])
 rw[pM] at R4
 refine⟨_,cj (R4.o 65 (xW (j:=16))) rfl,?_⟩
 replace R4:=R4.set (i:=65) (by refine af gw ?_;exact Nat.lt_of_lt_of_le (by decide:65<73) (Nat.le_refl _)) (Cq 9 (ni (.int 18)) a3 b6 (bs4.getD 0 0) c1 bs4 3)
 (rewrite[show(65:Nat)=16+49 from rfl] at R4;rw[uW] at R4)
 refine dQ (v:=.ref f1) (ac rfl) (bW h14 (R4.o 31 uU) rfl rfl) aj (bp (R4.o 38 xV) rfl (by decide)) ?_
 replace R4:=R4.set (i:=38) (y0 (by decide)) (.dict [(.int 7,.ref f1)])
 rw[uV] at R4
 refine dQ (v:=.ref f2) (ac rfl) (bW h14 (R4.o 31 uU) rfl rfl) aj (bp (R4.o 38 xV) rfl (show 1<bM by decide)) ?_
 replace R4:=R4.set (i:=38) (y0 (by decide)) (.dict [(.int 7,.ref f1),(.int 9,.ref f2)])
 rw[uV] at R4
 refine jD (bz (vs:=[.tup [.int 1,.int 57],d.v 2]) (ab (aF (ab aj (ab aj ae))) (ab (vw 2 (by decide) h12 (R4.o 21 qQ)) ae)) fun c2 hc2=>?_)
 have R5:=R4.new (n:=73) gw hc2 (.list [.tup [.int 1,.int 57],d.v 2])
 rw[pM] at R5
 refine bk (bW h14 (R5.o 31 uU) rfl rfl) (bk (ac h4) ⟨_,bp (R5.o 39 C6) rfl (by decide),?_⟩)
 replace R5:=R5.set (i:=39) (y0 (by decide)) (.dict [(.int 17,.ref c2)])
 rw[A1] at R5
 have R6:=C5 (B:=B) (d:=d) (u:=u) (b1:=b1) (b2:=b2) (a1:=a1) (bs1:=bs1) (b3:=b3) (f1:=f1) (bs2:=bs2) (c0:=c0) (b4:=b4) (b5:=b5) (a3:=a3) (bs3:=bs3) (b6:=b6) (f2:=f2) (bs4:=bs4) (c1:=c1) (c2:=c2) rfl▸(show Hp _ (S5 B d u [(.int 7,.ref f1),(.int 9,.ref f2)] [(.int 17,.ref c2)] (tF d b1 b2 a1 b3 c0 bs2 b4 b5 a3 b6 c1 bs4++[O.list [.tup [.int 1,.int 57],d.v 2]])) F _ from R5)
 exact sK (n:=n) R6 hd hsp h0 h2 h4 h7 h8 h10 h12 h13 h14 rfl rfl q
end
noncomputable def S4(B:Nat→Addr)(d:Dt)(u:V)(rows un:List (V×V)):List O:=
 ku B (mJ B d.at_) (.list (aN d.nums)) (sB B) (18+d.s.length) (yM B d++Bp B (BV B u) rows un [] [] (cz B d 16 0 0) [] [])
structure A6 (s:List (List Int)) (rows:List (V×V)):Prop where
 d:∀ (k:Int) (r:List Int),aV s k=some r→∃ e,aJ rows (.int k)=some (.tup [.ref e,.tup (aN r),.tup []])
 h:∃ e,aJ rows (.int 17)=some (.tup [.ref e,.tup (aN [12,19]),.tup (aN [7,18])])
 n:∀ k:Int,k<17→aJ rows (.int k)=none
 k:∀ k:Int,be rows (.int k)=true
structure A7 (s:List (List Int)) (j:Nat) (rows:List (V×V)):Prop where
 d:∀ (k:Int) (r:List Int),aV s k=some r→k<18+(j:Int)→∃ e,aJ rows (.int k)=some (.tup [.ref e,.tup (aN r),.tup []])
 n:∀ k:Int,k<18→aJ rows (.int k)=none
 k:∀ k:Int,be rows (.int k)=true
 l:rows.length≤j
section
variable {n:Nat} {Q:aP} {B:Nat→Addr} {F Z:H} {d:Dt} {u:V} {rows rows' un un':List (V×V)} {s:List (List Int)}
theorem uX:(S4 B d u rows un).length=49:=by kernel_rfl
theorem xu:(S4 B d u rows un)[33]? = some (.dict rows):=by kernel_rfl
theorem C7:(S4 B d u rows un)[36]? = some (.dict un):=by kernel_rfl
theorem xY:(S4 B d u rows un)[31]? = some (sx B):=by kernel_rfl
theorem xX:(S4 B d u rows un)[14]? = some (.list (aN (fU d.s.length))):=by kernel_rfl
theorem Da:(S4 B d u rows un)[15]? = some (.dict d.sh):=by kernel_rfl
theorem C9:(S4 B d u rows un).set 33 (.dict rows')=S4 B d u rows' un:=by kernel_rfl
theorem C8:(S4 B d u rows un).set 36 (.dict un')=S4 B d u rows un':=by kernel_rfl
theorem Dc:S4 B d u rows [(.int 16,.int 5)]=S5 B { d with rows:=rows } u [] [] []:=by kernel_rfl
theorem sS(k:Int):dJ (.int k) (.int k)=true:=bS rfl
theorem A7.step{j:Nat}{r:List Int}{e:Addr}(h:A7 s j rows)(g:aV s (18+(j:Int))=some r):A7 s (j+1) (bJ rows (.int (18+(j:Int))) (.tup [.ref e,.tup (aN r),.tup []])):=by
 refine⟨fun k r' e1 hk=>?_,fun k hk=>?_,fun k=>dW (h.k k) rfl,Nat.le_trans (fJ _) (Nat.succ_le_succ h.l)⟩
 ·by_cases c:k=18+(j:Int)
  ·subst c;rw[g] at e1;refine af (aQ e1) ?_;exact⟨e,dY (sS _) _⟩
  ·rw[dI fun h=>c (V.int.inj h).symm];exact h.d k r' e1 (by lia)
 ·rw[dI fun h=>by have:=V.int.inj h;lia];exact h.n k hk
theorem A7.fin{e:Addr}(ok:de s)(h:A7 s s.length rows):A6 s (bJ rows (.int 17) (.tup [.ref e,.tup (aN [12,19]),.tup (aN [7,18])])):=by
 refine⟨fun k r g=>?_,⟨e,dY (sS _) _⟩,fun k hk=>?_,fun k=>dW (h.k k) rfl⟩
 ·have:=(ok.row k r g).1
  rw[dI fun h=>by have:=V.int.inj h;lia];exact h.d k r g this.2
 ·rw[dI fun h=>by have:=V.int.inj h;lia];exact h.n k (by lia)
theorem sI{U:Env}(R:Hp B (S4 B d u [] []) F Z)(T:Ms d.s d.sh d.sp)(hd:∀ rows,A6 d.s rows→Ok { d with rows:=rows })(hsp:∀ (k:Int) (r:List Int),aV d.s k=some r→∃ a,aJ d.sp (.int k)=some (.ref a)∧F a=some (.list ((W d.s k).map eu)))(h0:U 0=some (.ref (B 0)))(h2:U 2=some (.ref (B 3)))
  (h3:U 3=some (.int 16)) (h4:U 4=some (.int 17)) (h5:U 5=some (.ref (B 14))) (h6:U 6=some (.ref (B 15))) (h7:U 7=some (.int 18)) (h8:U 8=some (.int 19)) (h10:U 10=some (.ref (B 20))) (h12:U 12=some (.ref (B 21))) (h13:U 13=some (.ref (B 25))) (h14:U 14=some (.ref (B 31)))
  (q:∀ A d' Z',A 0=B 0∧A 1=B 1→Wd A d' Z'→Ok d'→d'.nums=d.nums→d'.cs=[]→Q (.ref (A 2)) Z'):SS (a9 (n+5)) (w5.body.drop 13) U (fy Q) Z:=by
 have l7:=T.ok.len
 refine ch (ac h5) (bf (R.o 14 xX)) ?_
 have step:∀ {v:V} {Z':H} {U':Env} {rows:List (V×V)} {k:Int} {P:bL} {r:List C} {ek ea eb:E},Hp B (S4 B d u rows []) F Z'→U' 14=some (.ref (B 31))→rows.length≤10→(∀ k:Int,be rows (.int k)=true)→(∀ Z',Hp B (S4 B d u rows []) F Z'→Ev (a9 (n+5)) U' Z' ek (.int k))→∀ {va vb:V},(∀ Z',Hp B (S4 B d u rows []) F Z'→Ev (a9 (n+5)) U' Z' ea va)→(∀ Z',Hp B (S4 B d u rows []) F Z'→Ev (a9 (n+5)) U' Z' eb vb)→
   (∀ e Z'',Hp B (S4 B d u (bJ rows (.int k) (.tup [.ref e,va,vb])) []) F Z''→SS (a9 (n+5)) r U' P Z'')→SS (a9 (n+5)) (.set (.idx (.att (.x 14) 90) ek) (.tup [.dct [] [],ea,eb])::r) U' P Z':=by
  intro v Z' U' rows k P r ek ea eb R1 h14 hl hk he va vb ha hb q
  refine jD (lC (eC (gy fun e he'=>?_)))
  have R2:=R1.ext (bB.new (o:=.dict []) he')
  refine aU (ha _ R2) (aU (hb _ R2) (cM (bk (bW h14 (R2.o 31 xY) rfl rfl) (bk (he _ R2) ⟨_,bp (R2.o 33 xu) (hk k) (Nat.lt_of_le_of_lt hl (by decide)),q e _ ?_⟩))))
  have R3:=R2.set (i:=33) (by refine af uX ?_;decide) (.dict (bJ rows (.int k) (.tup [.ref e,va,vb])))
  rw[C9] at R3;exact R3
 have fin:∀ (U':Env) (Z':H) (rows:List (V×V)),(∀ i,i≠15→U' i=U i)→Hp B (S4 B d u rows []) F Z'→A7 d.s d.s.length rows→SS (a9 (n+5)) (w5.body.drop 14) U' (fy Q) Z':=by
  intro U' Z' rows hU R1 I
  have e:∀ i v,i≠15→U i=some v→U' i=some v:=fun i v hi h=>(hU i hi).trans h
  refine step (k:=17) (va:=.tup (aN [12,19])) (vb:=.tup (aN [7,18])) (v:=.none) R1 (e 14 _ (by decide) h14) (Nat.le_trans I.l (Nat.le_trans l7.2 (by decide))) I.k (fun za za=>ac (e 4 _ (by decide) h4)) (fun za za=>aF (ab aj (ab (ac (e 8 _ (by decide) h8)) ae))) (fun za za=>aF (ab aj (ab (ac (e 7 _ (by decide) h7)) ae))) fun a Z2 R2=>?_
  refine dQ (v:=.int 5) aj (bW (e 14 _ (by decide) h14) (R2.o 31 xY) rfl rfl) (ac (e 3 _ (by decide) h3)) (bp (R2.o 36 C7) rfl (by decide)) ?_
  have R3:=R2.set (i:=36) (by refine af uX ?_;decide) (.dict [(.int 16,.int 5)])
  (rewrite[C8] at R3;rw[Dc] at R3)
  exact oO (n:=n) R3 (hd _ (I.fin T.ok)) hsp (e 0 _ (by decide) h0) (e 2 _ (by decide) h2) (e 4 _ (by decide) h4) (e 7 _ (by decide) h7) (e 8 _ (by decide) h8) (e 10 _ (by decide) h10) (e 12 _ (by decide) h12) (e 13 _ (by decide) h13) (e 14 _ (by decide) h14) q
 have tl:(fU d.s.length).length=d.s.length:=by unfold fU;(rewrite[List.length_map];(refine ak (List.length_range) ?_;with_reducible rfl))
 refine(?_:∀ (m j:Nat) (rows:List (V×V)) (U':Env) (Z':H),m+j=d.s.length→(∀ i,i≠15→U' i=U i)→Hp B (S4 B d u rows []) F Z'→A7 d.s j rows→FL _ _ _ _ _ _ (aN ((fU d.s.length).drop j)) U' Z') d.s.length 0 [] U Z rfl (fun za za=>rfl) R ⟨fun k r g h=>?_,fun za za=>rfl,fun za=>rfl,Nat.le_refl _⟩
 ·intro m
  induction m with
  |zero=>
   intro j rows U' Z' hm hU R1 I
   refine af (List.drop_of_length_le (by rw[tl];lia)) ?_
   rw[Nat.zero_add] at hm
   subst hm
   exact b9 (fin U' Z' rows hU R1 I)
  |succ m ih=>
   intro j rows U' Z' hm hU R1 I
   have hj:j<d.s.length:=by lia
   have g:=qa hj
   have te:(fU d.s.length)[j]'(by refine af tl ?_;exact hj)=18+(j:Int):=aQ ((List.getElem?_eq_getElem _).symm.trans (hJ hj))
   (refine af (List.drop_eq_getElem_cons (by rw[tl];exact hj)) ?_;refine af te ?_)
   have e:∀ i v,i≠15→U i=some v→(U'.set 15 (.int (18+(j:Int)))) i=some v:=fun i v hi h=>(aE hi).trans ((hU i hi).trans h)
   refine bR rfl (step (k:=18+(j:Int)) (va:=.tup (aN d.s[j])) (vb:=.tup []) (v:=.none) R1 (e 14 _ (by decide) h14) (Nat.le_trans I.l (by lia)) I.k (fun za za=>ac rfl) (fun Z2 R2=>ah (ac (e 6 _ (by decide) h6)) (ac rfl) (aG (R2.o 15 Da) (T.shK _) (by(rewrite[T.shD];refine af g ?_);rfl))) (fun za za=>aF ae) fun a Z2 R2=>ay ⟨bf (R2.o 14 xX),ih (j+1) _ _ Z2 (by lia) (fun i hi=>(aE hi).trans (hU i hi)) R2 (I.step g)⟩)
 ·exact absurd (T.ok.row k r g).1.1 (by lia)
end
noncomputable def jx(B:Nat→Addr)(d:Dt)(ml:List V)(t:List O):List O:=
 ku B (mJ B d.at_) (.list (aN d.nums)) (sB B) (18+d.s.length) ([.list [.none],.list [.none],.list ml,.dict [],.list [],.list (aN (fU d.s.length)),.dict d.sh,.dict d.sp,.dict d.es,.dict [],.list [],.dict (wB B d),.list (dy d)]++t)
section
variable {n:Nat} {Q:aP} {B:Nat→Addr} {F Z:H} {d:Dt} {u:V} {ml ml':List V} {t:List O} {j:Nat}
theorem eG:(jx B d ml t).length=t.length+22:=by kernel_rfl
theorem uY{o:O}:jx B d ml t++[o]=jx B d ml (t++[o]):=by kernel_rfl
theorem iy{l:List O}:jx B d ml t++l=jx B d ml (t++l):=by kernel_rfl
theorem kq:(jx B d ml t)[j+22]? = t[j]?:=by kernel_rfl
theorem ko{o:O}:(jx B d ml t).set (j+22) o=jx B d ml (t.set j o):=by kernel_rfl
theorem xZ:(jx B d ml t)[2]? = some (sB B):=by kernel_rfl
theorem ya:(jx B d ml t)[11]? = some (.list ml):=by kernel_rfl
theorem A2:(jx B d ml t).set 11 (.list ml')=jx B d ml' t:=by kernel_rfl
theorem Fd:(jx B d ml t)[20]? = some (.dict (wB B d)):=by kernel_rfl
theorem Eh{i:Nat}(h:i<22):i<(jx B d ml t).length:=by refine af eG ?_;exact Nat.lt_of_lt_of_le h (Nat.le_add_left 22 _)
theorem Hf(q:∀ u Z',bB Z Z'→Q u Z'):a9 (n+1) none 45 [.int 2] Q Z:=by
 refine br Ag rfl (aX (bz ae fun a ha=>ch (v:=.rng 2) (a8 (vs:=[.int 2]) (ab (ac rfl) ae) fun Q q=>⟨_,rfl,by decide,q⟩) rfl ?_))
 have e:∀ {U:Env} {Z':H} {i:Int},U 2=some (.int i)→0≤i∧i<10→Ev (a9 n) U Z' (.bin .Add (.k (.sym 201)) (.call (.k (.bi 4)) [.x 2])) (.str ⟨Str.empty.cps.push 0⟩):=fun h hi=>aB (v:=.str Str.empty) aj (a8 (ab (ac h) ae) fun Q q=>⟨_,rfl,hi,q⟩) fun Q q=>⟨by decide,q⟩
 refine bR rfl (bI (ac rfl) aC (e rfl (by decide)) (by decide:0<bM) (ay ⟨rfl,bR rfl (bI (ac rfl) aC (e rfl (by decide)) (by decide:1<bM) (ay ⟨rfl,b9 ?_⟩))⟩))
 exact ax (a8 (vs:=[.ref a]) (ab (ac rfl) ae) fun Q q=>⟨_,aC,q⟩) (q _ _ (((bB.new ha).set ha).set ha))
noncomputable def GM:List (Nat×It):=[(179,.x 1),(180,.x 2),(181,.x 3),(182,.x 4),(183,.x 5),(184,.k (.int 0)),(185,.lst []),(186,.lst []),(187,.x 6),(188,.ev (.call (.k (.bi 2)) [.x 7]) (.tup [.int 19,.int 7]))]
noncomputable def GL:List (Nat×It):=[(190,.ev (.bin .Mult (.tup [.k (.int 0)]) (.call (.k (.bi 0)) [.x 7])) (.tup [.int 0,.int 0])),(137,.k .none),(191,.k (.int 0))]
noncomputable def Fy(u:V)(b1 b2:Addr):O:=.inst 86 [(179,.int 1),(180,.int 70),(181,.sym 212),(182,.int 6),(183,.int 1),(184,.int 0),(185,.ref b1),(186,.ref b2),(187,.int 0),(188,.tup [.int 19,.int 7]),(189,u),(190,.tup [.int 0,.int 0]),(137,.none),(191,.int 0)]
theorem Bm{U:Env}{P:aP}(R:Hp B (jx B d ml []) F Z)(h8:U 8=some (.int 19))(q:∀ u a (bs bs':List Addr) Z',Hp (aL (aL B 22 (a::bs)) 25 bs') (jx B d ml [Fy u (bs.getD 0 0) (bs.getD 1 0),.list [],.list []]) F Z'→P (.ref a) Z') :
  WE (a9 (n+2)) (.call (.k (.fn 86)) [.k (.int 1),.k (.int 70),.k (.sym 212),.k (.int 6),.k (.int 1),.k (.int 0),.tup [.x 8,.k (.int 7)]]) U P Z:=by
 refine fM rfl rfl (yk (vs:=[.int 1,.int 70,.sym 212,.int 6,.int 1,.int 0,.tup [.int 19,.int 7]]) (ab aj (ab aj (ab aj (ab aj (ab aj (ab aj (ab (aF (ab (ac h8) (ab aj ae))) ae))))))) fun a ha=>?_)
 refine gh rm GM _ rfl rfl R (n:=22) eG ha rfl rfl (fun p hp Z' x=>?_) fun bs Z1 R1=>?_
 ·refine af (List.mem_singleton.mp hp) ?_;exact a8 (vs:=[.tup [.int 19,.int 7]]) (ab (ac rfl) ae) fun Q q=>q
 ·rw[iy] at R1
  refine f9 (aD (vs:=[.int 2]) (ab (a8 (vs:=[.tup [.int 19,.int 7]]) (ab (ac rfl) ae) fun Q q=>q) ae) rfl (Hf fun u Z2 x2=>bk (v:=.ref a) (ac rfl) ?_))
  have R2:=R1.ext x2
  refine⟨_,cj (R2.o 22 (kq (j:=0))) rfl,?_⟩
  replace R2:=R2.set (i:=22) (by refine af eG ?_;exact Nat.lt_of_lt_of_le (by decide:22<25) (Nat.le_refl _)) (.inst 86 [(179,.int 1),(180,.int 70),(181,.sym 212),(182,.int 6),(183,.int 1),(184,.int 0),(185,.ref (bs.getD 0 0)),(186,.ref (bs.getD 1 0)),(187,.int 0),(188,.tup [.int 19,.int 7]),(189,u)])
  (rewrite[show(22:Nat)=0+22 from rfl] at R2;rw[ko] at R2)
  refine j2 (r:=[]) (j:=22) (c:=86) (n:=25) GL R2 eG (kq (j:=0)) rfl rfl (fun p hp Z' x=>?_) fun bs' Z3 za R3=>ay ⟨rfl,q u a bs bs' Z3 ?_⟩
  ·refine af (List.mem_singleton.mp hp) ?_;exact aB (aF (ab aj ae)) (a8 (vs:=[.tup [.int 19,.int 7]]) (ab (ac rfl) ae) fun Q q=>q) fun Q q=>⟨rfl,q⟩
  ·(rewrite[show(22:Nat)=0+22 from rfl] at R3;rewrite[ko] at R3;rw[iy] at R3)
   exact R3
noncomputable def Cj:List (Nat×It):=[(117,.lst []),(118,.dct),(119,.k (.int 16)),(120,.x 1),(121,.dct),(122,.x 2),(123,.k (.int 0)),(124,.ev (.bin .Add (.bin .FloorDiv (.x 1) (.k (.int 4))) (.k (.int 1))) (.int 101)),(125,.lst []),(126,.lst []),(127,.k (.int 0)),(128,.k (.int 0))]
noncomputable def Bn(v:V):List (Nat×It):=[(149,.x 1),(150,.ev (.att (.x 1) 150) v),(129,.x 2),(151,.dct),(90,.dct),(152,.dct),(153,.dct),(154,.dct),(130,.lst []),(155,.dct),(131,.dct),(156,.dct),(157,.dct),(158,.k (.int 0)),(159,.lst []),(160,.lst []),(161,.lst []),(162,.lst [])]
noncomputable def Gl:List (Nat×It):=[(129,.x 1),(130,.x 2),(131,.x 3)]
noncomputable def GR(bits:Int)(b:List Addr):O:=.inst 80 [(117,.ref (b.getD 0 0)),(118,.ref (b.getD 1 0)),(119,.int 16),(120,.int 400),(121,.ref (b.getD 2 0)),(122,.int bits),(123,.int 0),(124,.int 101),(125,.ref (b.getD 3 0)),(126,.ref (b.getD 4 0)),(127,.int 0),(128,.int 0)]
noncomputable def Dm(bits:Int)(u:V)(b1 b2:Addr)(bs:List Addr):List O:=[Fy u b1 b2,.list [],.list [],GR bits bs,.list [],.dict [],.dict [],.list [],.list []]
noncomputable def Bb(B2 B3 h:Addr)(b:List Addr)(r:List (Nat×V)):O:=.inst 85 ([(149,.ref B2),(150,.ref B3),(129,.ref h),(151,.ref (b.getD 0 0)),(90,.ref (b.getD 1 0)),(152,.ref (b.getD 2 0)),(153,.ref (b.getD 3 0)),(154,.ref (b.getD 4 0)),(130,.ref (b.getD 5 0)),(155,.ref (b.getD 6 0)),(131,.ref (b.getD 7 0)),(156,.ref (b.getD 8 0)),(157,.ref (b.getD 9 0)),(158,.int 0),(159,.ref (b.getD 10 0)),(160,.ref (b.getD 11 0)),(161,.ref (b.getD 12 0)),(162,.ref (b.getD 13 0))]++r)
noncomputable def DG(tr:O):List O:=[tr,.dict [],.dict [],.dict [],.dict [],.dict [],.list [],.dict [],.dict [],.dict [],.dict [],.list [],.list [],.list [],.list []]
theorem Db{B':Nat→Addr}{a h m p c e:Addr}{bs bs' bs2 bs3 bs4:List Addr}(eB:B'=aL (aL (aL (aL (aL (aL (aL B 22 (a::bs)) 25 bs') 25 (h::bs2)) 31 (m::bs3)) 46 (p::bs4)) 47 [c]) 48 [e]) :
  jx B d [.none,.ref a] (Dm d.bits u (bs.getD 0 0) (bs.getD 1 0) bs2++DG (Bb (B 2) (B 3) h bs3 [(163,.ref p),(164,.ref c),(165,.ref e)])++[.inst 81 [(129,.ref h),(130,.ref (bs3.getD 6 0)),(131,.ref (bs3.getD 7 0))],.inst 83 [],.inst 84 []])=S4 B' d u [] []:=by refine af eB ?_;kernel_rfl
theorem sJ{U:Env}(R:Hp B (jx B d [.none] []) F Z)(T:Ms d.s d.sh d.sp)(hd:∀ rows,A6 d.s rows→Ok { d with rows:=rows })(hsp:∀ (k:Int) (r:List Int),aV d.s k=some r→∃ a,aJ d.sp (.int k)=some (.ref a)∧F a=some (.list ((W d.s k).map eu)))(h0:U 0=some (.ref (B 0)))(h1:U 1=some (.ref (B 2)))(h2:U 2=some (.ref (B 3)))
  (h3:U 3=some (.int 16)) (h4:U 4=some (.int 17)) (h5:U 5=some (.ref (B 14))) (h6:U 6=some (.ref (B 15))) (h7:U 7=some (.int 18)) (h8:U 8=some (.int 19)) (h10:U 10=some (.ref (B 20))) (h12:U 12=some (.ref (B 21)))
  (q:∀ A d' Z',A 0=B 0∧A 1=B 1→Wd A d' Z'→Ok d'→d'.nums=d.nums→d'.cs=[]→Q (.ref (A 2)) Z'):SS (a9 (n+5)) (w5.body.drop 10) U (fy Q) Z:=by
 refine iC (bW h1 (R.o 2 xZ) rfl rfl) (R.o 11 ya) (Bm R h8 fun u a bs bs' Z1 R1=>⟨_,R1.o 11 ya,by decide,?_⟩)
 replace R1:=R1.set (i:=11) (Eh (by decide)) (.list [.none,.ref a])
 rw[A2] at R1
 refine aX (fM rfl rfl (aU aj (aU (ah (ac h10) aj (aG (R1.o 20 Fd) rfl rfl)) (cM fun h hh=>gh rA Cj [] rfl rfl R1 (n:=25) eG hh rfl rfl (fun p hp Z' x=>?_) fun bs2 Z2 R2=>ay ⟨rfl,?_⟩))))
 ·refine af (List.mem_singleton.mp hp) ?_;exact aB (aB (w:=.int 100) (ac rfl) aj fun Q q=>⟨⟨by decide,by decide⟩,q⟩) aj fun Q q=>q
 rw[iy] at R2
 replace R2:Hp _ (jx B d [.none,.ref a] (Dm d.bits u (bs.getD 0 0) (bs.getD 1 0) bs2)) F Z2:=R2
 refine aX (fM rfl rfl (aU (ac h1) (aU (v:=.ref h) (ac rfl) (cM fun m hm=>gh rn (Bn (.ref (B 3))) _ rfl rfl R2 (n:=31) eG hm rfl rfl (fun p hp Z' x=>?_) fun bs3 Z3 R3=>?_))))
 ·refine af (List.mem_singleton.mp hp) ?_
  have o2:=R2.o 2 xZ
  have nm:B 2≠m:=fun e=>by have:=o2;(rewrite[show aL (aL (aL B 22 (a::bs)) 25 bs') 25 (h::bs2) 2=B 2 from rfl] at this;rewrite[e] at this;rw[hm] at this);exact ns this
  exact bW rfl (x _ _ nm (bw nm o2)) rfl rfl
 rw[iy] at R3
 replace R3:Hp _ (jx B d [.none,.ref a] (Dm d.bits u (bs.getD 0 0) (bs.getD 1 0) bs2++DG (Bb (B 2) (B 3) h bs3 []))) F Z3:=R3
 refine f9 (fM rfl rfl (aU (v:=.ref h) (ac rfl) (aU (v:=.ref (bs3.getD 6 0)) (bW (a:=m) rfl (R3.o 31 (kq (j:=9))) rfl rfl) (aU (v:=.ref (bs3.getD 7 0)) (bW (a:=m) rfl (R3.o 31 (kq (j:=9))) rfl rfl) (cM fun p hp=>gh rq Gl [] rfl rfl R3 (n:=46) eG hp rfl rfl (fun p hp=>nomatch hp) fun bs4 Z4 R4=>ay ⟨rfl,bk (v:=.ref m) (ac rfl) ?_⟩)))))
 rw[iy] at R4
 refine⟨_,cj (R4.o 31 (kq (j:=9))) rfl,?_⟩
 replace R4:=R4.set (i:=31) (by refine af eG ?_;exact Nat.lt_of_lt_of_le (by decide:31<47) (Nat.le_refl _)) (Bb (B 2) (B 3) h bs3 [(163,.ref p)])
 (rewrite[show(31:Nat)=9+22 from rfl] at R4;rw[ko] at R4)
 refine f9 (pR rfl rfl fun c hc=>bk (v:=.ref m) (ac rfl) ?_)
 have R5:=R4.new (n:=47) eG hc (.inst 83 [])
 rw[uY] at R5
 refine⟨_,cj (R5.o 31 (kq (j:=9))) rfl,?_⟩
 replace R5:=R5.set (i:=31) (by refine af eG ?_;exact Nat.lt_of_lt_of_le (by decide:31<48) (Nat.le_refl _)) (Bb (B 2) (B 3) h bs3 [(163,.ref p),(164,.ref c)])
 (rewrite[show(31:Nat)=9+22 from rfl] at R5;rw[ko] at R5)
 refine f9 (pR rfl rfl fun e he=>bk (v:=.ref m) (ac rfl) ?_)
 have R6:=R5.new (n:=48) eG he (.inst 84 [])
 rw[uY] at R6
 refine⟨_,cj (R6.o 31 (kq (j:=9))) rfl,ay ⟨rfl,?_⟩⟩
 replace R6:=R6.set (i:=31) (by refine af eG ?_;exact Nat.lt_of_lt_of_le (by decide:31<49) (Nat.le_refl _)) (Bb (B 2) (B 3) h bs3 [(163,.ref p),(164,.ref c),(165,.ref e)])
 (rewrite[show(31:Nat)=9+22 from rfl] at R6;rw[ko] at R6)
 have R7:=Db (B:=B) (d:=d) (u:=u) (a:=a) (bs:=bs) (bs':=bs') (h:=h) (bs2:=bs2) (m:=m) (bs3:=bs3) (p:=p) (bs4:=bs4) (c:=c) (e:=e) rfl▸(show Hp _ (jx B d [.none,.ref a] (Dm d.bits u (bs.getD 0 0) (bs.getD 1 0) bs2++DG (Bb (B 2) (B 3) h bs3 [(163,.ref p),(164,.ref c),(165,.ref e)])++[O.inst 81 [(129,.ref h),(130,.ref (bs3.getD 6 0)),(131,.ref (bs3.getD 7 0))],O.inst 83 [],O.inst 84 []])) F _ from R6)
 exact sI (n:=n) R7 T hd hsp h0 h2 h3 h4 h5 h6 h7 h8 h10 h12 rfl rfl q
end
noncomputable def mM(B:Nat→Addr)(d:Dt)(es:List (V×V))(t:List O):List O:=
 ku B (mJ B d.at_) (.list (aN d.nums)) (sB B) (18+d.s.length) ([.list [.none],.list [.none],.list [.none],.dict [],.list [],.list (aN (fU d.s.length)),.dict d.sh,.dict d.sp,.dict es,.dict [],.list [],.dict (wB B d)]++t)
noncomputable def dB(nums:List Int)(at_:Nat)(sh sp:List (V×V))(bits:Int)(s:List (List Int)):Dt:=⟨nums,at_,sh,sp,[],[],[],[],bits,0,0,0,fun za=>.none,false,false,false,0,s⟩
section
variable {n:Nat} {Q:aP} {B:Nat→Addr} {F Z:H} {d:Dt} {es es':List (V×V)} {t:List O}
theorem uZ:(mM B d es t).length=t.length+21:=by kernel_rfl
theorem A5{o:O}:mM B d es t++[o]=mM B d es (t++[o]):=by kernel_rfl
theorem A3:(mM B d es t)[20]? = some (.dict (wB B d)):=by kernel_rfl
theorem De:(mM B d es t)[15]? = some (.dict d.sh):=by kernel_rfl
theorem Dd:(mM B d es t)[16]? = some (.dict d.sp):=by kernel_rfl
theorem Df:(mM B d es t)[17]? = some (.dict es):=by kernel_rfl
theorem Dh{o:O}:(mM B d es [o])[21]? = some o:=by kernel_rfl
theorem A4:(mM B d es t).set 17 (.dict es')=mM B d es' t:=by kernel_rfl
theorem Dg{v:Nat→V}:mM B d es [.list [v 0,v 1,v 2,v 3,v 4,v 5,v 6,v 7]]=jx B { d with v:=v,es:=es } [.none] []:=by kernel_rfl
theorem Fe{b:Addr}:jx (aL B 21 [b]) d [.none] []=jx B d [.none] []:=by kernel_rfl
theorem xF(R:Hp B (mM B d es t) F Z)(hsp:∀ (k:Int) (r:List Int),aV d.s k=some r→∃ a,aJ d.sp (.int k)=some (.ref a)∧F a=some (.list ((W d.s k).map eu))):Mw d.s (B 20) (B 15) (B 16) (B 17) d.sh d.sp es Z:=
 ⟨aG (R.o 20 A3) rfl rfl,aG (R.o 20 A3) rfl rfl,aG (R.o 20 A3) rfl rfl,R.o 15 De,R.o 16 Dd,R.o 17 Df,fun k r e=>let ⟨a,e1,e2⟩:=hsp k r e;⟨a,e1,R.fr _ _ e2⟩⟩
theorem pz{l:List V}(h:l.length=8):l=[l.getD 0 .none,l.getD 1 .none,l.getD 2 .none,l.getD 3 .none,l.getD 4 .none,l.getD 5 .none,l.getD 6 .none,l.getD 7 .none]:=by
 match l,h with
 |[_,_,_,_,_,_,_,_],_=>rfl
theorem sH{U:Env}{nums:List Int}{at_:Nat}{sh sp:List (V×V)}{bits:Int}{s:List (List Int)}(R:Hp B (mM B (dB nums at_ sh sp bits s) [] []) F Z)(T:Ms s sh sp)(hb:0≤bits∧bits<4)(hsp:∀ (k:Int) (r:List Int),aV s k=some r→∃ a,aJ sp (.int k)=some (.ref a)∧F a=some (.list ((W s k).map eu)))
  (h0:U 0=some (.ref (B 0))) (h1:U 1=some (.ref (B 2))) (h2:U 2=some (.ref (B 3))) (h3:U 3=some (.int 16)) (h4:U 4=some (.int 17)) (h5:U 5=some (.ref (B 14))) (h6:U 6=some (.ref (B 15))) (h7:U 7=some (.int 18)) (h8:U 8=some (.int 19)) (h9:U 9=some (.tup (aN [18,19,18,19,19,19,18,18]))) (h10:U 10=some (.ref (B 20)))
  (q:∀ A d' Z',A 0=B 0∧A 1=B 1→Wd A d' Z'→Ok d'→d'.nums=nums→d'.cs=[]→Q (.ref (A 2)) Z'):SS (a9 (n+9)) (w5.body.drop 8) U (fy Q) Z:=by
 refine aX (d7 (n:=8) (fun acc Z'=>bB Z Z'∧∀ (i:Nat) v,acc[i]? = some v→Ty s (bu i) v) (a8 (vs:=[.int 8]) (ab aj ae) fun Q q=>⟨_,rfl,⟨by decide,by decide⟩,q⟩) (by decide) ⟨bB.refl,fun za za h=>nomatch h⟩ ?_ (fun v h=>nomatch h) ?_)
 ·intro acc Z' hl hI U' hb' X hX
  refine bt (aQ hb') ?_
  refine aD (vs:=[.ref (B 20),.int (bu acc.length),.int (17 * (acc.length:Nat)+1)]) (ab (ac h10) (ab (ah (ac h9) (ac rfl) (d4 hl)) (ab (aB (aB (w:=.int (17 * (acc.length:Nat))) aj (ac rfl) fun Q q=>⟨⟨by decide,by show((acc.length:Nat):Int).natAbs<2 ^ 40;rw[Int.natAbs_natCast];exact Nat.lt_trans hl (by decide)⟩,q⟩) aj fun Q q=>q) ae))) rfl (Ez T _ (n+8) _ Z' _ (Nat.le_trans (eV T.ok _) (Nat.le_add_left 7 (n+1))) (xF (R.ext hI.1) hsp) fun v Z'' tv x=>hX v Z'' ⟨hI.1.trans x,fun i v' e=>?_⟩)
  by_cases c:i<acc.length
  ·rw[List.getElem?_append_left c] at e;exact hI.2 i v' e
  ·have:i=acc.length:=by have:=(List.getElem?_eq_some_iff.mp e).1;rw[List.length_append] at this;exact Nat.le_antisymm (Nat.le_of_lt_succ this) (Nat.le_of_not_lt c)
   subst this
   rw[List.getElem?_concat_length] at e;refine bt (aQ e) ?_;exact tv
 ·intro acc Z1 hl hI y hy
  have R1:=(R.ext hI.1).new (n:=21) uZ hy (.list acc)
  have ea:=pz hl
  have ty:∀ r,r<8→Ty s (bu r) (acc.getD r .none):=fun r hr=>hI.2 r _ (by refine af (List.getD_eq_getElem?_getD) ?_;refine af (List.getElem?_eq_getElem (hl▸hr:r<acc.length)) ?_;rfl)
  generalize hv:(fun r=>acc.getD r V.none)=v
  have hv':∀ r,acc.getD r .none=v r:=fun r=>congrFun hv r
  simp only[hv'] at ea ty
  rw[ea] at R1 ⊢
  clear hv hv' ea hl
  rw[A5] at R1
  generalize hB:aL B 21 [y]=B1 at R1
  have eB:∀ i,i<21→B1 i=B i:=fun i hi=>by refine bt hB ?_;exact cC hi
  have rb:∀ {i j:Nat} {v:V},i<21→U j=some (.ref (B i))→U j=some (.ref (B1 i)):=fun hi h=>h.trans (by(refine af (eB _ hi) ?_;with_reducible rfl))
  have ey:y=B1 21:=by refine bt hB ?_;exact eF.symm
  replace R1:Hp B1 (mM B (dB nums at_ sh sp bits s) [] [.list [v 0,v 1,v 2,v 3,v 4,v 5,v 6,v 7]]) F _:=R1
  have cat:∀ es t,mM B (dB nums at_ sh sp bits s) es t=mM B1 (dB nums at_ sh sp bits s) es t:=fun es t=>by refine af hB ?_;kernel_rfl
  rw[cat] at R1
  subst ey
  replace h10:=rb (i:=20) (v:=.none) (by decide) h10
  refine ch (v:=.rng ((8:Nat):Int)) (a8 (vs:=[.int 8]) (ab aj ae) fun Q q=>⟨_,rfl,⟨by decide,by decide⟩,q⟩) rfl ?_
  refine g7 (N:=8) (fun i U' Z'=>(∀ j,j≠11→U' j=(U.set 12 (.ref (B1 21))) j)∧∃ es,Hp B1 (mM B1 (dB nums at_ sh sp bits s) es [.list [v 0,v 1,v 2,v 3,v 4,v 5,v 6,v 7]]) F Z'∧(∀ (r:Nat) p,be es (ck r p)=true)∧es.length≤i * 3280∧∀ r,r<i→∀ (p:List Int) (k:Int),cq s (bu r) p=some k→aV s k=none→aJ es (ck r p)=bG (v r) p) ?_ ⟨fun za za=>rfl,[],R1,fun r p=>y9 r p |> fun h=>by show(key _ && true)=true;refine af h ?_;rfl,Nat.le_refl _,fun r h=>absurd h (Nat.not_lt_zero r)⟩ ?_
  ·rintro i hi U' Z' ⟨hU,es,R2,hk,hl,hc⟩ P hP _
   have k10:U' 10=some (.ref (B1 20)):=(hU 10 (by decide)).trans h10
   have k9:U' 9=some (.tup (aN [18,19,18,19,19,19,18,18])):=(hU 9 (by decide)).trans h9
   have k12:U' 12=some (.ref (B1 21)):=(hU 12 (by decide)).trans rfl
   have vi:[v 0,v 1,v 2,v 3,v 4,v 5,v 6,v 7][i]? = some (v i):=fH (P:=fun i=>[v 0,v 1,v 2,v 3,v 4,v 5,v 6,v 7][i]? = some (v i)) rfl rfl rfl rfl rfl rfl rfl rfl hi
   have len:(mM B1 (dB nums at_ sh sp bits s) es [.list [v 0,v 1,v 2,v 3,v 4,v 5,v 6,v 7]]).length=22:=uZ
   have ne:∀ j,j<22→j≠17→B1 17≠B1 j:=fun j hj h e=>h (R2.inj 17 j (by refine af len ?_;decide) (by refine af len ?_;exact hj) e).symm
   have l6:i * 3280≤7 * 3280:=Nat.mul_le_mul_right _ (Nat.le_of_lt_succ hi)
   refine pW (aD (vs:=[.ref (B1 20),.int i,.tup (aN []),.int (bu i),v i]) (ab (ac k10) (ab (ac rfl) (ab (aF ae) (ab (ah (ac k9) (ac rfl) (d4 hi)) (ab (ah (ac k12) (ac rfl) (aK (R2.o 21 Dh) (Int.natCast_nonneg _) (by rw[Int.toNat_natCast];exact vi))) ae))))) rfl (FK (n:=n+7) (xF R2 hsp) T ⟨ne 20 (by decide) (by decide),ne 15 (by decide) (by decide),ne 16 (by decide) (by decide)⟩ hk (Nat.le_trans hl (Nat.le_trans l6 (by decide))) (ty i hi) (Nat.zero_le _) fun Z'' o he=>ay (hP _ _ ⟨fun j hj=>(aE hj).trans (hU j hj),_,A4▸R2.put (i:=17) (by refine af len ?_;decide) o he,fun r p=>nl _ _ (hk r p),Nat.le_trans (s0 _ _) (by rw[Nat.succ_mul];exact Nat.add_le_add hl (ln T.ok _)),fun r hr p k hp hlf=>?_⟩)))
   refine Or.elim (Nat.lt_or_eq_of_le (Nat.le_of_lt_succ hr)) (fun h=>?_) (fun h=>?_)
   ·refine ak (lS _ _ fun z za za e=>Nat.ne_of_gt h (my e).1) ?_;exact hc r h p k hp hlf
   ·subst h
    refine o1x2 ((ty r hi).get p hp) fun u hu za=>?_
    refine af hu ?_;exact qf (p:=[]) (y:=(p,k)) hlf hu _ _ ((fX T.ok _ p).mpr hp)
  ·rintro U' Z' ⟨hU,es,R2,hk,hl,hc⟩
   rw[Dg] at R2
   have e:∀ j v,j≠11→j≠12→U j=some v→U' j=some v:=fun j v h h' e=>(hU j h).trans ((aE h').trans e)
   exact sJ (n:=n+4) R2 T (fun rows h=>⟨T.ok,T.shD,T.shK,h.d,h.h,h.n,h.k,T.spK,T.spN,ty,hk,Nat.le_trans hl (by decide),fun za=>rfl,fun za h=>(nomatch h),hc,hb,rfl,rfl,rfl⟩) hsp (e 0 _ (by decide) (by decide) (rb (v:=.none) (by decide) h0)) (e 1 _ (by decide) (by decide) (rb (v:=.none) (by decide) h1)) (e 2 _ (by decide) (by decide) (rb (v:=.none) (by decide) h2)) (e 3 _ (by decide) (by decide) h3) (e 4 _ (by decide) (by decide) h4) (e 5 _ (by decide) (by decide) (rb (v:=.none) (by decide) h5)) (e 6 _ (by decide) (by decide) (rb (v:=.none) (by decide) h6)) (e 7 _ (by decide) (by decide) h7) (e 8 _ (by decide) (by decide) h8) (e 10 _ (by decide) (by decide) h10) ((hU 12 (by decide)).trans rfl) fun A d' Z' h=>q A d' Z' ⟨h.1.trans (eB 0 (by decide)),h.2.trans (eB 1 (by decide))⟩
end
section
variable {n:Nat} {Q:aP} {B:Nat→Addr} {F Z Z':H} {hs:List O}
open Classical in
theorem Hp.shift(R:Hp B hs F Z):∃ F',Hp B hs F' Z∧∀ a o,Z a=some o→(∀ i,i<hs.length→a≠B i)→F' a=some o:=by
 refine⟨fun a=>if ∃ i,i<hs.length∧a=B i then none else Z a,⟨R.o,R.inj,fun a o h=>?_,fun i hi=>aH ⟨i,hi,rfl⟩⟩,fun a o h hn=>(aE fun⟨i,hi,e⟩=>hn i hi e).trans h⟩
 by_cases c:∃ i,i<hs.length∧a=B i
 ·rw[aH c] at h;exact ns h
 ·rw[aE c] at h;exact h
theorem Hp.add(R:Hp B hs F Z)(hn:hs.length=n){a:Addr}{o:O}(ha:Z a=none)(x:bB Z Z')(h:Z' a=some o):Hp (aL B n [a]) (hs++[o]) F Z':=
 (R.new hn ha o).ext fun y o' e=>by
  by_cases c:y=a
  ·subst c;rw[aC] at e;refine bt (aQ e) ?_;exact h
  ·exact x y o' ((bw c rfl).symm.trans e)
theorem tR{a0 a1:Addr}{at_:Nat}{nums:List Int}(h0:Z a0=some (.dict [(.sym 202,.ref a1),(.sym 118,.int at_)]))(h1:Z a1=some (.list (aN nums))):Hp (fun i=>if i=0 then a0 else a1) [.dict [(.sym 202,.ref a1),(.sym 118,.int at_)],.list (aN nums)] (fun za=>none) Z:=by
 have ne:a0≠a1:=fun e=>by rw[e,h1] at h0;cases h0
 refine⟨fun i o e=>?_,fun i j hi hj e=>?_,fun za za h=>(nomatch h),fun za za=>rfl⟩
 ·match i,e with
  |0,e=>refine bt (aQ e) ?_;exact h0
  |1,e=>refine bt (aQ e) ?_;exact h1
 ·match i,j,hi,hj,e with
  |0,0,_,_,_=>rfl
  |1,1,_,_,_=>rfl
  |0,1,_,_,e=>exact absurd e ne
  |1,0,_,_,e=>exact absurd e.symm ne
theorem GZ{a0 a1:Addr}{at_:Nat}{nums:List Int}(h0:Z a0=some (.dict [(.sym 202,.ref a1),(.sym 118,.int at_)]))(h1:Z a1=some (.list (aN nums)))(q:∀ A d' Z',A 0=a0∧A 1=a1→Wd A d' Z'→Ok d'→d'.nums=nums→d'.cs=[]→Q (.ref (A 2)) Z'):a9 (n+10) none 72 [.ref a0] Q Z:=by
 refine br zQ rfl (aX (Ea (n:=n+7) (K:=0) (tR h0 h1) fun B Z1 e0 e1 R1=>?_))
 replace e0:B 0=a0:=e0
 replace e1:B 1=a1:=e1
 subst e0 e1
 refine av (bW rfl (R1.o 2 rfl) rfl rfl) (aX (aD (vs:=[.ref (B 3),.int 80,.tup []]) (ab (ac rfl) (ab aj (ab (aF ae) ae))) rfl (FC (n:=n+4) R1 (by decide) rfl (by decide) rfl fun Z2 R2=>?_)))
 refine aX (aD (vs:=[.ref (B 3),.int 70,.tup []]) (ab (ac rfl) (ab aj (ab (aF ae) ae))) rfl (GV (n:=n+4) R2 fun Z3 R3=>?_))
 refine hK (aD (vs:=[.ref (B 0),.ref (B 3),.int 16]) (ab (ac rfl) (ab (ac rfl) (ab (ac rfl) ae))) rfl (G9 (n:=n+3) (show Hp B (S1 B nums at_ 18 []) _ Z3 from R3) fun B' Z4 s at' sh hB ok shD shK R4=>⟨_,rfl,?_⟩))
 have r0:(V.ref (B 0))=.ref (B' 0):=congrArg V.ref (hB 0 (by decide)).symm
 have r2:(V.ref (B 2))=.ref (B' 2):=congrArg V.ref (hB 2 (by decide)).symm
 have r3:(V.ref (B 3))=.ref (B' 3):=congrArg V.ref (hB 3 (by decide)).symm
 have l4:=ok.len
 have tw:∀ {U:Env} {K:aO} (i:Nat),i<s.length→U 5=some (.ref (B' 14))→Ev K U Z4 (.idx (.x 5) (.k (.int i))) (.int (18+(i:Int))):=fun i hi h=>aR h (aK (R4.o 14 rfl) (Int.natCast_nonneg _) (by rw[Int.toNat_natCast];exact cA (hJ hi)))
 refine lJ (u:=.int 18) (v:=.int 19) (aF (ab (tw 0 (by lia) rfl) (ab (tw 1 (by lia) rfl) ae))) (av (v:=.tup (aN [18,19,18,19,19,19,18,18])) (aF (ab (ac rfl) (ab (ac rfl) (ab (ac rfl) (ab (ac rfl) (ab (ac rfl) (ab (ac rfl) (ab (ac rfl) (ab (ac rfl) ae))))))))) ?_)
 refine aX (lD (dp (u:=.sym 211) aj (bk (v:=.int 16) (ac rfl) (dp (u:=.sym 204) aj (bk (v:=.ref (B' 15)) (ac rfl) (dp (u:=.sym 203) aj (aD (vs:=[.ref (B' 14),.ref (B' 15)]) (ab (ac rfl) (ab (ac rfl) ae)) rfl (G8 (R4.o 14 rfl) (R4.o 15 rfl) ok shD shK fun a sp Z5 ha I=>?_))))))))
 refine o1x2 ((R4.add (n:=16) rfl ha I.ext I.d).shift) fun F R5 hF=>?_
 have hsp:∀ (k:Int) (r:List Int),aV s k=some r→∃ x,aJ sp (.int k)=some (.ref x)∧F x=some (.list ((W s k).map eu)):=fun k r g=>by
  refine o1x3 (I.at_ k r g (ok.row k r g).1.1) fun x e1 e2 e3=>?_
  refine⟨x,e1,hF x _ e2 fun i hi e=>?_⟩
  refine Or.elim (Nat.lt_or_eq_of_le (Nat.le_of_lt_succ (show i<17 from hi))) (fun h=>?_) (fun h=>?_)
  ·rw[e,cC h,R4.o i (List.getElem?_eq_getElem (show i<(S1 B' nums at' (18+s.length) [.list (aN (fU s.length)),.dict sh]).length from h))] at e3;exact sn e3
  ·subst h;rw[e,eF,I.d] at e2;cases e2
 refine dp (u:=.sym 210) aj (bk (v:=.tup (aN [18,19,18,19,19,19,18,18])) (ac rfl) (dp (u:=.sym 205) aj (gy fun b hb=>dp (u:=.sym 121) aj (gy fun c hc=>?_))))
 have R6:=(R5.new (n:=17) rfl hb (.dict [])).new (n:=18) rfl hc (.dict [])
 refine dp (u:=.sym 209) aj (aD (vs:=[.ref (aL (aL (aL B' 16 [a]) 17 [b]) 18 [c] 0),.int 4]) (ab (ac (congrArg some r0)) (ab aj ae)) rfl (pq R6 (by decide) fun bits hbits Z6 R7=>dp (u:=.sym 176) aj (bz ae fun e he=>lX ⟨rfl,fun w hw=>?_⟩)))
 have R8:=(R7.new (n:=19) rfl he (.list [])).new (n:=20) rfl hw (.dict [(.sym 211,.int 16),(.sym 204,.ref (B' 15)),(.sym 203,.ref a),(.sym 210,.tup (aN [18,19,18,19,19,19,18,18])),(.sym 205,.ref b),(.sym 121,.ref c),(.sym 209,.int bits),(.sym 176,.ref e)])
 refine sH (n:=n) (B:=aL (aL (aL (aL (aL B' 16 [a]) 17 [b]) 18 [c]) 19 [e]) 20 [w]) (nums:=nums) (at_:=at'+1) (sh:=sh) (sp:=sp) (bits:=bits) (s:=s) R8 ⟨ok,shD,shK,I.key,fun k h=>I.no k (.inr h)⟩ ⟨Int.natCast_nonneg _,hbits⟩ hsp (congrArg some r0) (congrArg some r2) (congrArg some r3) rfl rfl rfl rfl rfl rfl rfl rfl fun A d' Z' h=>q A d' Z' ⟨h.1.trans (V.ref.inj r0.symm),h.2.trans (hB 1 (by decide))⟩
end
theorem vr{K:aO}{U:Env}{Z:H}{P:aP}{o e:E}{xs:List V}{j:Int}(ho:Ev K U Z o (.arg xs))(he:Ev K U Z e (.int j))(hj:0≤j∧j<2 ^ 40)(k:∀ a,Z a=none→P (.ref a) (Z.set a (.list (xs.take j.toNat)))):WE K (.slcH o e) U P Z:=
 ⟨ho.go _ (he.go _ ⟨hj,k⟩)⟩
section
variable {n:Nat} {Q:aP} {Z:H}
theorem qp{a1:Addr}{nums:List Int}{U:Env}(h1:U 1=some (.ref a1))(ha:Z a1=some (.list (aN nums)))(q:∀ Z',Q (.bool true) Z'):SS (a9 (n+10)) (Dx.body.drop 2) U (fy Q) Z:=by
 refine aX (lD (dp (u:=.sym 202) aj (bk (v:=.ref a1) (ac h1) (dp (u:=.sym 118) aj (bk aj (lX ⟨rfl,fun a0 h0=>?_⟩))))))
 have ha':(Z.set a0 (.dict [(.sym 202,.ref a1),(.sym 118,.int (0:Nat))])) a1=some (.list (aN nums)):=bB.new h0 _ _ ha
 refine aX (aD (vs:=[.ref a0]) (ab (ac rfl) ae) rfl (GZ (n:=n) (nums:=nums) aC ha' fun A d Z1 hA W1 o1 en ec=>av aj (gQ (n:=11) ?_)))
 refine o0x2 hA fun e0 q9=>?_;clear hA;refine bt e0 ?_;obtain rfl:=q9
 have fin:∀ (U':Env) d' Z',Wd A d' Z'→Ok d'→d'.nums=nums→d'.cs.length≤900→U' 1=some (.ref (A 1))→U' 2=some (.ref (A 0))→U' 3=some (.ref (A 2))→SS (a9 (n+10)) (Dx.body.drop 6) U' (fy Q) Z':=by
  intro U' d' Z' W2 o2 en hc k1 k2 k3
  refine dL (iz (eH (aD (vs:=[.ref (A 2)]) (ab (ac k3) ae) rfl (GX (n:=n) W2 o2 hc fun d3 Z3 W3 o3 e3 n3=>⟨fun h=>(nomatch h),fun za=>ay ?_⟩))))
  have e3':d3.nums=nums:=n3.trans en
  have o1':=W3.o 1 rfl
  have l8:((nums.length % 8:Nat):Int)=(nums.length:Int) % 8:=rfl
  have r8:nums.length % 8<8:=Nat.mod_lt _ (by decide)
  refine av (v:=.int (nums.length % 8:Nat)) (aB (u:=.int nums.length) (fg (d5 (ac k1) o1') (by(refine af bA ?_;(refine af e3' ?_;with_reducible rfl)))) aj fun Q q=>⟨by decide,q⟩) ?_
  refine aX (aD (vs:=[.ref (A 2),.int (bu (nums.length % 8))]) (ab (ac k3) (ab (ah (ah (ac k3) aj (aG (W3.o 2 rfl) rfl rfl)) (ac rfl) (d4 r8)) ae)) rfl (FE (n:=n+8) W3 o3 fun p k Z4 x4 hk hl=>?_))
  have W4:=W3.ext x4
  refine bP (xw (jz (eH (cF rfl (aU (ac k3) (aU (ac rfl) (aU (v:=.tup (aN p)) (aR rfl rfl) (bO (aD (vs:=[.ref (A 0),.int 2]) (ab (ac k2) (ab aj ae)) rfl (iV W4 (by decide) fun z hz Z5 W5 za=>FH (n:=n+1) W5 o3.dr r8 hk fun d6 Z6 W6 o6 za=>⟨fun za=>f7 (eH (aD (vs:=[.ref (A 2)]) (ab (ac k3) ae) rfl (GW (n:=n+1) W6 o6 fun Z7 za=>q Z7))),fun h=>nomatch h⟩))))))))))
 refine(?_:∀ (m t:Nat) (U':Env) d' Z',m+t=10→Wd A d' Z'→Ok d'→d'.nums=nums→d'.cs.length≤t→U' 1=some (.ref (A 1))→U' 2=some (.ref (A 0))→U' 3=some (.ref (A 2))→U' 4=some (.int t)→WL _ _ _ _ (m+1) U' Z') 10 0 _ d Z1 rfl W1 o1 en (by refine af ec ?_;exact Nat.le_refl _) h1 rfl rfl rfl
 intro m
 induction m with
 |zero=>
  intro t U' d' Z' hm W2 o2 en hc k1 k2 k3 k4
  rw[Nat.zero_add] at hm
  subst hm
  exact eA (bd (aZ (ai (aq (ac k4) aW) rfl) (bc (bd (d8 (ai (aq (ac k4) aW) rfl)))))) (fin U' d' Z' W2 o2 en (Nat.le_trans hc (by decide)) k1 k2 k3)
 |succ m ih=>
  intro t U' d' Z' hm W2 o2 en hc k1 k2 k3 k4
  have ht:t<10:=by lia
  have test:∃ b,Et (a9 (n+10)) U' Z' (.bl .Or [.cmp (.x 4) .Lt (.k (.int 3)),.bl .And [.cmp (.x 4) .Lt (.k (.int 10)),.cmp (.idx (.x 2) (.k (.sym 118))) .Lt (.call (.k (.bi 0)) [.x 1])]]) b:=by
   by_cases c:(t:Int)<3
   ·exact⟨true,bd (du (ai (aq (ac k4) aW) (bS c)))⟩
   ·exact⟨_,bd (aZ (ai (aq (ac k4) aW) (bH c)) (bc (bd (b7 (ai (aq (ac k4) aW) (bS (Int.ofNat_lt.mpr ht))) (bc (aM (aR k2 (aG (W2.o 0 rfl) rfl rfl)) (d5 (ac k1) (W2.o 1 rfl)) aW))))))⟩
  refine aI test fun b hb=>?_;clear test
  induction b using Bool.casesOn with
  |false=>exact eA hb (fin U' d' Z' W2 o2 en (Nat.le_trans hc (by lia)) k1 k2 k3)
  |true=>
   refine cL hb (jG (d:=(t:Int)+1) k4 aj rfl (dL (iz (eH (aD (vs:=[.ref (A 2),.ref (A 0)]) (ab (ac k3) (ab (ac k2) ae)) rfl (G0 (n:=n) W2 o2 (Nat.le_trans hc (by lia)) fun d3 Z3 W3 o3 nx=>⟨fun h=>(nomatch h),fun za=>ay (ay (gX (ih (t+1) _ d3 Z3 (by lia) W3 o3 (nx.2.1.trans en) (Nat.le_trans nx.2.2 (Nat.succ_le_succ hc)) k1 k2 k3 rfl)))⟩))))))
theorem y6{script:List Int}(q:∀ Z',Q (.bool true) Z'):a9 (n+11) none 77 [.arg (aN script)] Q Z:=by
 refine br zL rfl (aX (vr (ac rfl) aj ⟨by decide,by decide⟩ fun a ha=>?_))
 have et:(aN script).take (60:Int).toNat=aN (script.take 60):=List.map_take.symm
 refine af et ?_
 have ll:=d5 (C:=a9 (n+10)) (U:=(bV Dx.ps [.arg (aN script)] Env.nil).set 1 (.ref a)) (e:=.x 1) (ac rfl) (aC (Z:=Z) (a:=a) (o:=.list (aN (script.take 60))))
 by_cases c:(((aN (script.take 60)).length:Nat):Int)=0
 ·refine aA (ai (aq ll ao) (bS c)) (aX (bz (vs:=aN [0,1,0,1,1,2,1,0,1,0,3,6,2,0,1,0,1,1,5,0,3,1]) (xL (aN [0,1,0,1,1,2,1,0,1,0,3,6,2,0,1,0,1,1,5,0,3,1])) fun b hb=>ay (qp rfl aC q)))
 ·exact au (ai (aq ll ao) (bH c)) (qp rfl aC q)
end
end Mine
namespace Mine
open PySem PySem.W PySem.Calls PyProof.Rows
noncomputable def oE:List Nat:=[97,104,111,118,125,132,139,146,153,167,181,188,202,209,223,258,265,272,279,286,335,342,349,356,363,370,377,384,391,419,426,433,440,447,454,461,468,475,482,489,496,503,510,728,735,812,819,826,833,840,847,854,861,879,884,891,898,903,910,915,922,929,936,943,950,957,964,971,976,983,990,997,1002,1009,1016,1023,1028,1035,86,303,324,408,528,563,591,717,759,780,801]
noncomputable def oD:List ((Nat×Nat)×Nat):=[((78,96),76),((78,98),83),((84,112),581),((85,167),630),((85,168),637),((85,172),665),((85,173),672),((85,176),693),((78,89),69),((79,89),300),((80,89),321),((81,89),405),((82,89),525),((85,89),609),((86,89),756),((87,89),777),((88,89),798)]
noncomputable def Fv:List Nat:=[85,302,323,407,527,562,590,716,758,779,800]
noncomputable def yt:List Stmt:=(DA.take 78).map MineH.at1++[MineH.at2 40 1,MineH.at2 40 2,MineH.at2 115 0,MineH.at2 116 3,MineH.at2 116 4,MineH.at2 116 8,MineH.at2 116 9,MineH.at2 116 12,MineH.at2 40 0,MineH.at2 80 0,MineH.at2 81 0,MineH.at2 93 0,MineH.at2 113 0,MineH.at2 116 0,MineH.at2 122 0,MineH.at2 123 0,MineH.at2 124 0]
noncomputable def qN:List Nat:=oE.take 78++oD.map (·.2)
noncomputable def Dp:List (Option Nat×Nat):=(List.range 78).map (fun n=>(none,n))++oD.map fun p=>(some p.1.1,p.1.2)
noncomputable def GG(p:Addr)(l:List V):GT:=⟨fun n=>oE[n]?,55,fun c f=>oD.lookup (c,f),p,l⟩
noncomputable def kL:List Nat:=oE++oD.map (·.2)++Fv
noncomputable def fk(P:Params)(a:Addr):Obj:=((MineH.T P).get a).getD default
noncomputable def GB(o:Obj):Array DictEntry:=match o.data with
 |.dict es _=>es
 |_=>#[]
noncomputable def oN(o:Obj):Nat:=match o.data with
 |.dict _ n=>n
 |.seq _ n=>n
 |_=>0
noncomputable def xB(o:Obj):List Value:=match o.data with
 |.seq vs _=>vs.toList
 |.fields vs=>vs.toList
 |_=>[]
noncomputable def oF(o:Obj):FuncData:=match o.data with
 |.func F=>F
 |_=>default
noncomputable def vI(v:Value):Int:=match v with
 |.int i _=>i
 |_=>0
noncomputable def vS(v:Value):Str:=match v with
 |.str s _=>s
 |_=>default
noncomputable def vT(v:Value):Tok:=match v with
 |.int _ t=>t
 |.str _ t=>t
 |_=>0
noncomputable def fS(P:Params)(a:Addr):Array DictEntry:=GB (fk P a)
noncomputable def kZ(P:Params)(a:Addr):FuncData:=oF (fk P a)
noncomputable def KF(P:Params):Frag:=kL.map fun a=>(a,fk P a)
noncomputable def Bc:List Nat:=[862,863,872,864,865,866,867,868,869,870,871]
noncomputable def sf:List Nat:=oE++oD.map (·.2)++Fv++qN.map (· - 1)++[0,1,2,3,55]++Bc
theorem B5(P:Params):sf.map (fun a=>((MineH.T P).get a).map fun o=>(o,alive o))=sf.map fun a=>some (fk P a,some (fk P a)):=by kernel_rfl
theorem B4:sf.all (fun a=>Nat.blt a 1036)=true:=by kernel_rfl
theorem zs(P:Params):qN.map (fun a=>(fk P a).data)=qN.map fun a=>.func (kZ P a):=by kernel_rfl
theorem wU(P:Params):qN.map (fun a=>((kZ P a).scope,(kZ P a).body,(kZ P a).closure,(kZ P a).globals,(kZ P a).builtins))=yt.map fun s=>(MineH.dScope s,FuncBody.stmts (MineH.dBody s),[],mainGlobals,builtinsNs):=by kernel_rfl
theorem zw(P:Params):qN.map (fun a=>(kZ P a).params)=yt.map MineH.dArgs:=by kernel_rfl
theorem zt(P:Params):qN.map (fun a=>((kZ P a).code,(fk P (a - 1)).data,(xB (fk P (a - 1)))[1]?))=qN.map fun a=>(.ref (a - 1),.fields ⟨xB (fk P (a - 1))⟩,some (.str (kZ P a).qualname (vT ((xB (fk P (a - 1))).getD 1 .none)))):=by kernel_rfl
theorem zr:Dp.map (fun k=>po k.1 k.2)=yt.map wT:=by kernel_rfl
theorem Cu(P:Params):qN.all (fun a=>Nat.ble (kZ P a).params.args.length 8)=true:=by kernel_rfl
theorem zu(P:Params):(fun v0 v1 v2 v3 v4 v5 v6 v7=>qN.map fun a=>bindArgs (kZ P a) ⟨[v0,v1,v2,v3,v4,v5,v6,v7].take (kZ P a).params.args.length,[]⟩)=fun v0 v1 v2 v3 v4 v5 v6 v7=>qN.map fun a=>pure (((kZ P a).params.args.map (·.arg)).zip ([v0,v1,v2,v3,v4,v5,v6,v7].take (kZ P a).params.args.length)):=by kernel_rfl
noncomputable def kF:List (Nat×Nat):=[78,79,80,81,82,83,84,85,86,87,88].zip (oE.drop 78)
theorem qG(P:Params):kF.map (fun c=>(plainGet (KF P) c.2 "",hasDictIn (KF P) c.2,plainOver (KF P) c.2,makesIn (KF P) c.2,keepIn (KF P) (.ref c.2)))=kF.map fun za=>(true,true,true,true,true):=by kernel_rfl
theorem CG(P:Params):kF.map (fun c=>findIn (KF P) (.ref c.2) "__setattr__")=kF.map fun za=>some (some (.builtin "object.__setattr__")):=by kernel_rfl
theorem zJ(P:Params):kF.map (fun c=>findIn (KF P) (.ref c.2) "__init__")=kF.map fun c=>some (some (match oD.lookup (c.1,89) with | some a=>.ref a | none=>.builtin "object.__init__")):=by kernel_rfl
theorem Ec(P:Params):oD.map (fun p=>(typeIn (KF P) (.ref p.2),keepIn (KF P) (.ref p.2)))=oD.map fun za=>(some (.type "function"),true):=by kernel_rfl
theorem yO(P:Params):oD.map (fun p=>findIn (KF P) (.ref (oE.getD p.1.1 0)) (cy p.1.2))=oD.map fun p=>some (some (.ref p.2)):=by kernel_rfl
theorem zq(P:Params):oE.map (fun a=>keepIn (KF P) (.ref a))=oE.map fun za=>true:=by kernel_rfl
theorem zK(P:Params):kF.map (fun c=>(bo c.1).map fun x=>(takerIn (KF P) c.2 (cy x),findIn (KF P) (.ref c.2) (cy x)))=kF.map fun c=>(bo c.1).map fun za=>(some none,some none):=by kernel_rfl
noncomputable def gV(n:Nat):V:=(gl.getD n none).getD .none
noncomputable def wI(v:V):Int:=match v with
 |.int i=>i
 |_=>0
noncomputable def GC(P:Params)(a:Addr)(n:Nat):Value:=(nsFind (fS P a) (cy n)).getD .none
noncomputable def lG(a b:Nat):List Nat:=(List.range b).map (· + a)
theorem jV{a b n:Nat}(h:a≤n)(h':n<a+b):n ∈ lG a b:=List.mem_map.mpr ⟨n - a,List.mem_range.mpr (Nat.sub_lt_left_of_lt_add h h'),Nat.sub_add_cancel h⟩
theorem Er(P:Params):(List.range 89).map (fun n=>(nsFind (fS P 3) (cy n),gl.getD n none))=(List.range 89).map fun n=>(some (.ref (oE.getD n 0)),some (.fn n)):=by kernel_rfl
theorem Ep:(lG 89 124).map (fun n=>gl.getD n none)=(lG 89 124).map fun za=>none:=by kernel_rfl
theorem Cn(P:Params):(lG 213 45).map (fun n=>(nsFind (fS P 3) (cy n),gl.getD n none))=(lG 213 45).map fun n=>(some (.int (wI (gV n)) (vT (GC P 3 n))),some (.int (wI (gV n)))):=by kernel_rfl
theorem Co(P:Params):nsFind (fS P 3) (cy 258)=some (.ref 55)∧gl.getD 258 none=some .gd:=⟨by kernel_rfl,by kernel_rfl⟩
theorem Cm(P:Params):[259,260,261].map (fun n=>nsFind (fS P 3) (cy n))=[some (.ref 862),some (.ref 863),some (.ref 872)]:=by kernel_rfl
theorem Eu(P:Params):(lG 262 7).map (fun n=>(nsFind (fS P 3) (cy n),nsFind (fS P 0) (cy n),gl.getD n none))=(lG 262 7).map fun n=>(none,km (n - 262),some (.bi (n - 262))):=by kernel_rfl
theorem Cp:(lG 262 7).all (fun n=>(km (n - 262)).isSome)=true:=by kernel_rfl
noncomputable def yp:List (Nat×List Int):=[(862,[0,16,20,24]),(863,[0,0,0,19,22,23,26,0]),(864,[2,2,2]),(865,[0,0,0]),(866,[1,0,0]),(867,[1,1,0]),(868,[1,1,1]),(869,[2,0,0]),(870,[2,1,0]),(871,[2,2,1])]
theorem xy(P:Params):Bc.map (fk P)=Bc.map fun a=>{ cls:=.type "tuple",data:=.seq ⟨xB (fk P a)⟩ (oN (fk P a)) }:=by kernel_rfl
theorem Bt(P:Params):yp.map (fun p=>xB (fk P p.1))=yp.map fun p=>(p.2.zip (xB (fk P p.1))).map fun q=>.int q.1 (vT q.2):=by kernel_rfl
theorem Bs(P:Params):yp.map (fun p=>(xB (fk P p.1)).length)=yp.map fun p=>p.2.length:=by kernel_rfl
theorem Br(P:Params):xB (fk P 872)=(lG 864 8).map .ref:=by kernel_rfl
theorem CD(P:Params):[0,2,3,55].map (fun a=>(fk P a).data)=[0,2,3,55].map fun a=>.dict (fS P a) (oN (fk P a)):=by kernel_rfl
theorem zH(P:Params):[0,2,3].map (fun a=>(fS P a).toList.map (·.key))=[0,2,3].map fun a=>(fS P a).toList.map fun e=>.str (vS e.key) (vT e.key):=by kernel_rfl
theorem CB(P:Params):nsFind (fS P 2) "sys.recursionlimit" = none:=by kernel_rfl
theorem zm(P:Params):(fk P 55).cls=.type "dict" :=by kernel_rfl
theorem wN(P:Params):(fS P 55).toList.map (fun e=>(e.key,e.hash))=((fS P 55).toList.zip gU).map fun p=>(.int p.2 (vT p.1.key),hashInt p.2):=by kernel_rfl
theorem zk(P:Params):(fS P 55).toList.length=gU.length:=by kernel_rfl
section
variable {P:Params} {h:Heap} {p:Addr} {al:List V}
theorem oW{α β γ:Type}{f:α→γ}{g:β→γ}{l:List α}{m:List β}(e:l.map f=m.map g){i:Nat}{a:α}(h:l[i]? = some a):∃ b,m[i]? = some b∧f a=g b:=by
 have:=congrArg (·[i]?) e
 (rewrite[List.getElem?_map] at this;rewrite[List.getElem?_map] at this;rw[h] at this)
 refine o1x2 (Option.map_eq_some_iff.mp this.symm) fun b hb e=>?_
 exact⟨b,hb,e.symm⟩
theorem bD{α γ:Type}{f g:α→γ}{l:List α}(e:l.map f=l.map g){a:α}(h:a ∈ l):f a=g a:=List.map_inj_left.mp e a h
noncomputable def mI(P:Params)(h:Heap):Prop:=∀ b o,(MineH.HF P).get? b=some o→h.get? b=some o
theorem jg(Y:mI P h){a:Addr}(m:a ∈ sf):h.get? a=some (fk P a):=by
 refine o1x2 (Option.map_eq_some_iff.mp (bD (B5 P) m)) fun o g e=>?_
 refine o0x2 (Prod.mk.inj e) fun e0 e2=>?_;refine af e0 ?_
 exact Y a _ ((abs_get (Nat.blt_eq.mp (List.all_eq_true.mp B4 a m)) g).trans e2)
theorem Eg{l r:List Nat}{a:Nat}(e:sf=l++r)(m:a ∈ r):a ∈ sf:=e▸List.mem_append_right _ m
theorem ql(Y:mI P h){a:Addr}(m:a ∈ [0,2,3]):h.Ns a (nsFind (fS P a)):=by
 have m':a ∈ [0,2,3,55]:=List.mem_append_left [55] m
 refine⟨_,_,_,jg Y (List.mem_append_left _ (List.mem_append_right _ ?_)),bD (CD P) m',fun x hx=>⟨_,_,bD (bD (zH P) m) (Array.mem_toList_iff.mpr hx)⟩,fun name=>rfl⟩
 have:∀ a ∈ [0,2,3],a ∈ [0,1,2,3,55]:=by decide
 exact this a m
theorem sU{h:Heap}:∀ (is:List Int) (vs:List Value),vs.length=is.length→vs=(is.zip vs).map (fun q=>.int q.1 (vT q.2))→bx (GG p al) h vs (is.map V.int):=by
 intro is
 induction is with
 |nil=>intro vs l _;induction vs using List.casesOn with
  |nil=>exact .nil
  |cons _ _=>cases l
 |cons i is ih=>intro vs l e;induction vs using List.casesOn with
  |nil=>cases l
  |cons v vs=>
   refine o0x2 (List.cons.inj e) fun e1 e2=>?_
   exact .cons (e1▸.int i _) (ih vs (Nat.succ.inj l) e2)
theorem cJ(Y:mI P h){a:Nat}{is:List Int}(m:(a,is) ∈ yp):bh (GG p al) h (.ref a) (dA is):=by
 have ma:a ∈ Bc:=by
  have:∀ x ∈ yp,x.1 ∈ Bc:=by decide
  exact this _ m
 have l:=bD (Bs P) m
 have o:=jg Y (List.mem_append_right _ ma:a ∈ sf)
 rw[bD (xy P) ma] at o
 refine .tup o (sU is _ l (bD (Bt P) m)) ?_
 rw[List.length_map]
 have:∀ x ∈ yp,x.2.length≤100000:=by decide
 exact this _ m
theorem sV(Y:mI P h):bh (GG p al) h (.ref 872) (.tup [dA [2,2,2],dA [0,0,0],dA [1,0,0],dA [1,1,0],dA [1,1,1],dA [2,0,0],dA [2,1,0],dA [2,2,1]]):=by
 have o:=jg Y (List.mem_append_right _ (by decide):872 ∈ sf)
 (rewrite[bD (xy P) (by decide:872 ∈ Bc)] at o;rw[Br] at o)
 exact .tup o (.cons (cJ Y (by decide)) (.cons (cJ Y (by decide)) (.cons (cJ Y (by decide)) (.cons (cJ Y (by decide)) (.cons (cJ Y (by decide)) (.cons (cJ Y (by decide)) (.cons (cJ Y (by decide)) (.cons (cJ Y (by decide)) .nil)))))))) (by decide)
theorem rJ{i:Int}{ks:List Int}:∀ {l:List DictEntry},l.length=ks.length→l.map (fun e=>(e.key,e.hash))=(l.zip ks).map (fun p=>(.int p.2 (vT p.1.key),hashInt p.2))→(∀ e ∈ l,∃ i t,e.key=.int i t∧e.hash=hashInt i)∧(l.findIdx? fun e=>Value.isInt i e.key).isSome=ks.contains i:=by
 induction ks with
 |nil=>intro l hl e;induction l using List.casesOn with
  |nil=>exact⟨fun za h=>(nomatch h),rfl⟩
  |cons _ _=>cases hl
 |cons k ks ih=>
  intro l hl e
  induction l using List.casesOn with
  |nil=>cases hl
  |cons d l=>
   refine o0x2 (List.cons.inj e) fun e1 e2=>?_
   refine o0x2 (Prod.mk.inj e1) fun hk hh=>?_
   refine o0x2 (ih (Nat.succ.inj hl) e2) fun a b=>?_
   refine⟨fun e he=>(List.mem_cons.mp he).elim (fun q=>q▸⟨k,_,hk,hh⟩) (a e),?_⟩
   (refine ak (List.findIdx?_isSome) ?_;refine ak (List.any_cons) ?_;refine bt (List.findIdx?_isSome) ?_;refine af b ?_;refine af List.contains_cons ?_)
   have:Value.isInt i d.key=(i == k):=by
    refine af hk ?_;show(k == i)=(i == k)
    exact Bool.beq_comm
   (refine af this ?_;with_reducible rfl)
theorem Cl(Y:mI P h):xv (GG p al) h:=by
 have k:=fun i=>rJ (i:=i) (zk P) (wN P)
 refine⟨_,_,_,jg Y (List.mem_append_left _ (List.mem_append_right _ (by decide)):55 ∈ sf),zm P,bD (CD P) (by decide:55 ∈ [0,2,3,55]),fun x hx=>(k 0).1 x (Array.mem_toList_iff.mpr hx),fun i=>?_,(by decide:(55:Nat)≠1)⟩
 have k:=(k i).2
 show((fS P 55).findIdx? _).isSome=_
 generalize fS P 55=es at k ⊢
 obtain⟨l⟩:=es
 rw[List.findIdx?_toArray];exact k
theorem wJ(Y:mI P h)(x:Str)(v:V)(e:ij x=.gl v):∃ val mg,h.Ns mainGlobals mg∧bh (GG p al) h val v∧(mg x=some val∨(mg x=none∧∃ mb,h.Ns builtinsNs mb∧mb x=some val)):=by
 have N3:=ql Y (a:=3) (by decide)
 have g:gl.getD (ix x) none=some v:=by
  have e:(match gl.getD (ix x) none with | some v=>cQ.gl v | none=>.no)=.gl v:=e
  cases c:gl.getD (ix x) none with
  |none=>rw[c] at e;cases e
  |some _=>rw[c] at e;cases e;rfl
 have lt:ix x<269:=by
  refine Nat.lt_of_not_le fun hle=>?_
  (rewrite[List.getD_eq_getElem?_getD] at g;rw[List.getElem?_eq_none hle] at g);exact ns g
 have nx:cy (ix x)=x:=iP lt
 generalize ix x=n at g lt nx
 refine bt nx ?_
 have found:∀ {val},nsFind (fS P 3) (cy n)=some val→bh (GG p al) h val v→∃ val mg,h.Ns mainGlobals mg∧bh (GG p al) h val v∧(mg (cy n)=some val∨(mg (cy n)=none∧∃ mb,h.Ns builtinsNs mb∧mb (cy n)=some val)):=fun{val} a r=>⟨val,_,N3,r,.inl a⟩
 by_cases c1:n<89
 ·refine o0x2 (Prod.mk.inj (bD (Er P) (List.mem_range.mpr c1))) fun e1 e2=>?_
  cases g.symm.trans e2
  refine found e1 (.fn ?_)
  show oE[n]? = _
  (refine af (List.getD_eq_getElem?_getD) ?_;refine af (List.getElem?_eq_getElem (show n<oE.length from c1)) ?_);rfl
 by_cases c2:n<213
 ·cases g.symm.trans (bD Ep (jV (Nat.le_of_not_lt c1) c2))
 by_cases c3:n<258
 ·refine o0x2 (Prod.mk.inj (bD (Cn P) (jV (Nat.le_of_not_lt c2) c3))) fun e1 e2=>?_
  cases g.symm.trans e2
  exact found e1 (.int _ _)
 by_cases c4:n<262
 ·have:n=258∨n=259∨n=260∨n=261:=by omega
  have t:=Cm P
  refine o0x2 (List.cons.inj t) fun t1 t=>?_
  refine o0x2 (List.cons.inj t) fun t2 t=>?_
  rcases this with rfl | rfl | rfl | rfl
  ·cases g.symm.trans (Co P).2
   exact found (Co P).1 (bh.gd (G:=GG p al))
  ·obtain rfl:=aQ g;exact found t1 (cJ Y (by decide))
  ·obtain rfl:=aQ g;exact found t2 (cJ Y (by decide))
  ·obtain rfl:=aQ g;exact found (List.cons.inj t).1 (sV Y)
 ·have m:=jV (Nat.le_of_not_lt c4) (show n<262+7 from lt)
  refine o0x2 (Prod.mk.inj (bD (Eu P) m)) fun e1 e2=>?_
  refine o0x2 (Prod.mk.inj e2) fun e2 e3=>?_
  cases g.symm.trans e3
  refine aI (Option.isSome_iff_exists.mp (List.all_eq_true.mp Cp n m)) fun val hv=>?_
  exact⟨val,_,N3,.bi hv,.inr ⟨e1,_,ql Y (a:=0) (by decide),e2.trans hv⟩⟩
end
section
variable {P:Params} {h:Heap} {p:Addr} {al:List V}
theorem Ct{s:Stmt}{fd:FD}(h:wT s=some fd):MineH.dScope s=fd.scope∧MineH.dBody s=fd.body∧(MineH.dArgs s).args.map (·.arg)=fd.params:=by
 revert h
 induction s using Stmt.casesOn with
 |FunctionDef=>exact fun h=>aQ h▸⟨rfl,rfl,rfl⟩
 |_=>exact ns
noncomputable def BP(vals:List Value):List Value:=[vals.getD 0 .none,vals.getD 1 .none,vals.getD 2 .none,vals.getD 3 .none,vals.getD 4 .none,vals.getD 5 .none,vals.getD 6 .none,vals.getD 7 .none]
theorem tc{vals:List Value}(h:vals.length≤8):(BP vals).take vals.length=vals:=List.ext_getElem? fun i=>by
 refine ak (List.getElem?_take) ?_
 by_cases c:i<vals.length
 ·(refine ak (aH c) ?_;refine ak (show(BP vals)[i]? = some (vals.getD i .none) from fH (P:=fun i=>(BP vals)[i]? = some (vals.getD i .none)) rfl rfl rfl rfl rfl rfl rfl rfl (Nat.lt_of_lt_of_le c h)) ?_;refine af (List.getD_eq_getElem?_getD) ?_;refine af (List.getElem?_eq_getElem c) ?_);rfl
 ·(refine ak (aE c) ?_;(refine af (List.getElem?_eq_none (Nat.le_of_not_lt c)) ?_;with_reducible rfl))
theorem CZ{a:Nat}(m:a ∈ qN):a ∈ sf∧a - 1 ∈ sf:=by
 refine⟨?_,List.mem_append_left _ (List.mem_append_left _ (List.mem_append_right _ (List.mem_map_of_mem m)))⟩
 refine List.mem_append_left _ (List.mem_append_left _ (List.mem_append_left _ (List.mem_append_left _ ?_)))
 exact(List.mem_append.mp m).elim (fun m=>List.mem_append_left _ (List.mem_of_mem_take m)) (List.mem_append_right _)
theorem xH(Y:mI P h){i:Nat}{k:Option Nat×Nat}{a:Addr}{fd:FD}(hk:Dp[i]? = some k)(ha:qN[i]? = some a)(hfd:po k.1 k.2=some fd):u8 h a fd:=by
 refine o1x2 (oW zr hk) fun s hs e5=>?_
 refine o1x2 (oW (wU P) ha) fun s' hs' e1=>?_
 cases hs.symm.trans hs'
 refine o1x2 (oW (zw P) ha) fun s' hs' e2=>?_
 cases hs.symm.trans hs'
 have am:=List.mem_of_getElem? ha
 have lv:=CZ am
 have st:=Ct (e5.symm.trans hfd)
 refine o0x2 (Prod.mk.inj e1) fun f1 f2=>?_
 refine o0x2 (Prod.mk.inj f2) fun f2 f3=>?_
 refine o0x2 (Prod.mk.inj f3) fun f3 f4=>?_
 refine o0x2 (Prod.mk.inj f4) fun f4 f5=>?_
 refine o0x2 (Prod.mk.inj (bD (zt P) am)) fun c1 c2=>?_
 refine o0x2 (Prod.mk.inj c2) fun c2 c3=>?_
 refine⟨_,kZ P a,jg Y lv.1,bD (zs P) am,f1.trans st.1,f2.trans (congrArg _ st.2.1),f3,f4,f5,⟨a - 1,_,_,_,c1,jg Y lv.2,c2,List.getElem?_toArray.trans c3⟩,fun vals hl=>?_⟩
 ·have hn:(kZ P a).params.args.length=vals.length:=by(refine af hl ?_;refine bt st.2.2 ?_;refine af e2 ?_;rw[List.length_map])
  have l8:vals.length≤8:=hn▸Nat.le_of_ble_eq_true (List.all_eq_true.mp (Cu P) a am)
  have:=congrFun (congrFun (congrFun (congrFun (congrFun (congrFun (congrFun (congrFun (zu P) (vals.getD 0 .none)) (vals.getD 1 .none)) (vals.getD 2 .none)) (vals.getD 3 .none)) (vals.getD 4 .none)) (vals.getD 5 .none)) (vals.getD 6 .none)) (vals.getD 7 .none)
  have this:bindArgs (kZ P a) ⟨(BP vals).take (kZ P a).params.args.length,[]⟩=pure (((kZ P a).params.args.map (·.arg)).zip ((BP vals).take (kZ P a).params.args.length)):=bD this am
  (rewrite[hn] at this;rewrite[tc l8] at this;rewrite[e2] at this;rw[st.2.2] at this)
  exact this
theorem En(Y:mI P h):(KF P).In h:=by
 intro a o e
 have:∀ l:List Nat,(∀ x ∈ l,x ∈ kL)→(l.map fun a=>(a,fk P a)).lookup a=some o→h.get? a=some o:=by
  intro l
  induction l with
  |nil=>intro _ e;exact ns e
  |cons b l ih=>
   intro hm e
   (rewrite[List.map_cons] at e;rw[List.lookup_cons] at e)
   induction q:a == b using Bool.casesOn with
   |true=>
    rw[q] at e
    refine bt (aQ e) ?_
    cases beq_iff_eq.mp q
    exact jg Y (List.mem_append_left _ (List.mem_append_left _ (List.mem_append_left _ (hm a (.head _)))))
   |false=>rw[q] at e;exact ih (fun x hx=>hm x (.tail _ hx)) e
 exact this kL (fun za h=>h) e
theorem Cr{n:Nat}{a:Addr}(h:(GG p al).fn n=some a):a ∈ oE:=List.mem_of_getElem? h
theorem oV{c f a:Nat}(e:(GG p al).mt c f=some a):((c,f),a) ∈ oD:=by
 have:∀ l:List ((Nat×Nat)×Nat),l.lookup (c,f)=some a→((c,f),a) ∈ l:=by
  intro l
  induction l with
  |nil=>intro e;exact ns e
  |cons x l ih=>
   intro e
   rw[List.lookup_cons] at e
   cases q:(c,f) == x.1 with
   |true=>rw[q] at e;refine bt (aQ e) ?_;refine af (beq_iff_eq.mp q) ?_;exact .head _
   |false=>rw[q] at e;exact .tail _ (ih e)
 exact this oD e
theorem qD{c C:Nat}(hc:db c=true)(e:(GG p al).fn c=some C):(c,C) ∈ kF:=by
 have hc:=dj hc
 have l:=of_decide_eq_true hc.1
 have u:=of_decide_eq_true hc.2
 have t:∀ i,i<11→kF[i]? = some (i+78,oE.getD (i+78) 0):=by decide
 have:=List.mem_of_getElem? (t (c - 78) (Nat.sub_lt_left_of_lt_add l u))
 (rewrite[Nat.sub_add_cancel l] at this;rewrite[List.getD_eq_getElem?_getD] at this;rw[show oE[c]? = some C from e] at this)
 exact this
end
section
variable {P:Params} {w:World} {h:Heap} {p:Addr} {al:List V}
theorem w3{c C:Nat}(hc:db c=true)(e:(GG p al).fn c=some C):qS (KF P) c C:=by
 have m:=qD hc e
 refine o0x2 (Prod.mk.inj (bD (qG P) m)) fun f1 f2=>?_
 refine o0x2 (Prod.mk.inj f2) fun f2 f3=>?_
 refine o0x2 (Prod.mk.inj f3) fun f3 f4=>?_
 refine⟨f1,f2,bD (CG P) m,f3,fun x hx=>?_⟩
 refine o0x2 (Prod.mk.inj (bD (bD (zK P) m) (List.contains_iff_mem.mp hx))) fun a1 a2=>?_
 exact⟨a1,none,a2,rfl⟩
theorem BU:fR.all (fun k=>(oD.lookup k).isSome && !(bo k.1).contains k.2 && decide (k.2<NT))=true:=by kernel_rfl
theorem wA:∀ c,c<89→78≤c→gJ c=(oD.lookup (c,89)).isSome:=by decide +kernel
theorem zj(Y:mI w.params h)(hA:lA (GG p al) h):gN MineH.pg w (KF w.params) (GG p al) h where
 X:=En Y
 sys:=⟨_,jg Y (List.mem_append_left _ (List.mem_append_right _ (by decide)):1 ∈ sf)⟩
 gd:=Cl Y
 arg:=hA
 lim:=⟨_,ql Y (by decide:2 ∈ [0,2,3]),CB w.params⟩
 glob:=wJ Y
 cls:=fun c C hc e=>w3 hc e
 make:=fun c C hc e=>by
  have m:=qD hc e
  refine o0x2 (Prod.mk.inj (bD (qG w.params) m)) fun za f2=>?_
  refine o0x2 (Prod.mk.inj f2) fun za f3=>?_
  refine o0x2 (Prod.mk.inj f3) fun za f4=>?_
  refine o0x2 (Prod.mk.inj f4) fun f4 f5=>?_
  have i:=bD (zJ w.params) m
  have hc':=dj hc
  have hi:=wA c (of_decide_eq_true hc'.2) (of_decide_eq_true hc'.1)
  refine⟨f4,f5,?_⟩
  cases g:oD.lookup (c,89) with
  |none=>rw[g] at hi i;refine af hi ?_;exact i
  |some a=>rw[g] at hi i;refine af hi ?_;exact⟨a,g,i⟩
 meth:=fun c f a e=>Prod.mk.inj (bD (Ec w.params) (oV e))
 meths:=fun c f C hm e za=>by
  have k:=dj (List.all_eq_true.mp BU _ (List.contains_iff_mem.mp hm))
  have k1:=dj k.1
  refine aI (Option.isSome_iff_exists.mp k1.1) fun a ha=>?_
  have i:=bD (yO w.params) (oV (p:=p) (al:=al) ha)
  have e':oE.getD c 0=C:=by
   refine ak (List.getD_eq_getElem?_getD) ?_;exact congrArg (Option.getD · 0) e
  rw[e'] at i
  exact⟨a,ha,i,(Bool.not_eq_true' _).mp k1.2,of_decide_eq_true k.2⟩
 fnk:=fun f a za e=>bD (zq w.params) (Cr e)
 fnd:=fun f fd a hf e=>by
  have lt:f<78:=by
   delta po at hf
   dsimp only at hf
   split at hf
   ·assumption
   ·exact ns hf
  have hk:Dp[f]? = some (none,f):=by
   skip
   (refine ak (List.getElem?_append_left (by rw[List.length_map,List.length_range];exact lt)) ?_;refine ak (List.getElem?_map) ?_;refine af (List.getElem?_range lt) ?_);rfl
  have ha:qN[f]? = some a:=by
   skip
   (refine ak (List.getElem?_append_left (by rw[List.length_take];exact Nat.lt_of_lt_of_le lt (by decide))) ?_;refine ak (List.getElem?_take) ?_;refine ak (aH lt) ?_);exact e
  exact xH Y hk ha hf
 mtd:=fun c f fd a hf e=>by
  obtain⟨i,li,ei⟩:=List.getElem_of_mem (oV (p:=p) (al:=al) e)
  have gi:oD[i]? = some ((c,f),a):=ei▸List.getElem?_eq_getElem li
  have hk:Dp[78+i]? = some (some c,f):=by
   skip
   (refine ak (List.getElem?_append_right (by rw[List.length_map,List.length_range];exact Nat.le_add_right _ _)) ?_;rewrite[List.length_map];refine af List.length_range ?_;rewrite[Nat.add_sub_cancel_left];refine ak (List.getElem?_map) ?_;refine af gi ?_);rfl
  have ha:qN[78+i]? = some a:=by
   skip
   have l:(oE.take 78).length=78:=by decide
   (refine ak (List.getElem?_append_right (l▸Nat.le_add_right _ _)) ?_;refine af l ?_;rewrite[Nat.add_sub_cancel_left];refine ak (List.getElem?_map) ?_;refine af gi ?_);rfl
  exact xH Y hk ha hf
end
theorem vV{h:Heap}{a:Addr}{m m':Str→Option Value}(x:h.Ns a m)(y:h.Ns a m')(n:Str):m n=m' n:=by
 refine o3x4 x fun o es ep h1 h2 za h3=>?_;clear x
 refine o3x4 y fun o' es' ep' h1' h2' za h3'=>?_;clear y
 cases h1.symm.trans h1'
 cases h2.symm.trans h2'
 (rewrite[← h3];rw[← h3'])
theorem y7(P:Params):nsFind (fS P 3) MineH.dLaw.name=some (.ref 1035):=by kernel_rfl
theorem sY{p p':Addr}{al al':List V}{h:Heap}:∀ {vs:List Value} {l:List Int},bx (GG p al) h vs (aN l)→bx (GG p' al') h vs (aN l):=by
 intro vs
 induction vs with
 |nil=>intro l r;induction l using List.casesOn with
  |nil=>exact .nil
  |cons _ _=>cases r
 |cons v vs ih=>intro l r;induction l using List.casesOn with
  |nil=>cases r
  |cons i l=>cases r with
   |cons a r=>refine aI a.int_inv fun t e1=>?_;refine af e1 ?_;exact .cons (.int i t) (ih r)
theorem wz{P:Params}{G:GT}{h:Heap}:∀ {ds:List WData} {vs:List Value},WellAll P h vs ds→(∀ d ∈ ds,∃ i,d=.int i)→∃ l:List Int,bx G h vs (aN l)∧l.length=ds.length:=by
 intro ds
 induction ds with
 |nil=>intro vs w _;cases w;exact⟨[],.nil,rfl⟩
 |cons d ds ih=>
  intro vs w hd
  cases w with
  |cons r rs=>
   refine o1x2 (ih rs fun d h=>hd d (.tail _ h)) fun l hl e=>?_
   refine aI (hd _ (.head _)) fun i e1=>?_;obtain rfl:=e1
   cases r with
   |int i t=>exact⟨i::l,.cons (.int i t) hl,congrArg (· + 1) e⟩
theorem rF{R:WRecords}{ds:List WData}:WShape.hasItems R ds .int=true→∀ d ∈ ds,∃ i,d=WData.int i:=by
 induction ds with
 |nil=>intro _ d hd;cases hd
 |cons x ds ih=>
  intro hi d hd
  have hi:=dj (a:=WShape.has R x .int) (b:=WShape.hasItems R ds .int) hi
  rcases List.mem_cons.mp hd with e | e
  ·refine af e ?_;exact hasW_int hi.1
  ·exact ih hi.2 d e
theorem xi{args:List WData}(h:MineH.rw_.row.toRowW.claim.pre args=true):∃ ds,args=[.list ds]∧(∀ d ∈ ds,∃ i,d=WData.int i)∧ds.length≤63:=by
 have h:=pre_splitW h
 refine o2x2 (hasAllW_cons h.1) fun d r e2 q9=>?_;obtain rfl:=e2;refine o0x2 q9 fun h1 h2=>?_;clear q9
 cases hasAllW_nil h2
 refine o1x2 (hasW_list h1) fun ds e1 hi=>?_;obtain rfl:=e1
 refine⟨ds,rfl,fun d hd=>?_,?_⟩
 ·exact rF hi d hd
 ·refine Nat.le_of_not_lt fun hlt=>?_
  have h3:(match(match(match(some (WData.bool (decide ((63:Int)<(ds.length:Int)))):Option WData) with | some (.bool b)=>some (WData.bool (!b)) | _=>none) with | some (.bool false)=>some (WData.bool false) | some (.bool true)=>some (WData.bool true) | _=>none) with | some (.bool true)=>true | _=>false)=true:=h.2
  have e63:decide ((63:Int)<(ds.length:Int))=true:=bS (Int.ofNat_lt.mpr hlt)
  rw[e63] at h3
  exact ff h3
theorem walk_:WalkO MineH.vq MineH.names (fun za za=>True) MineH.YP MineH.rw_.row.toRowW MineH.dLaw [] fun f vs=>PySem.call f vs:=by
 intro w s₀ sa mg mb Gr Y a o pm cd doc dV kV ha ho hc hD hmg hg args vals as hpre hlay hr hw hsys
 refine o1x2 (xi hpre) fun ds e1 q9=>?_;obtain rfl:=e1;refine o0x2 q9 fun hi hl=>?_;clear q9
 cases hw with
 |cons hv hn=>
  cases hn
  cases hv with
  |@list p vs _ hp hall=>
   refine o1x2 (wz (G:=GG 0 []) hall hi) fun l rl el=>?_
   have rl':bx (GG p (aN l)) sa.heap vs (aN l):=sY rl
   have hA:lA (GG p (aN l)) sa.heap:=⟨vs.toArray,0,hp,rl',by(refine af (show(GG p (aN l)).argl=aN l from rfl) ?_;refine af bA ?_;refine af el ?_);exact Nat.le_trans hl (by decide)⟩
   have D:=zj (w:=w) (h:=sa.heap) Y hA
   have e:=(vV (ql (P:=w.params) Y (a:=3) (by decide)) Gr.T.g MineH.dLaw.name).symm.trans (y7 w.params)
   rw[hmg] at e
   cases e
   have S:St w.params (GG p (aN l)) sa.heap (fun za=>none) sa.heap:=⟨fun za za h=>(nomatch h),fun za za za h=>(nomatch h),fun b ob=>(by rcases ob with h | ⟨_,_,h⟩<;>first | exact absurd rfl h | exact ns h),fun b o e=>e⟩
   refine wpAny_mono (qF (n:=11) (Q:=fun v za=>v=.bool true) (X:=fun za za=>False) D (og D 11) (A:=callerA) ⟨rfl,by decide,by decide⟩ (f:=.ref 1035) (g:=.fn 77) (.fn rfl) (.cons (bh.arg (G:=GG p (aN l))) .nil) S (mz rfl (y6 (n:=0) fun za=>rfl))) (fun v s' p0=>?_) fun za za h=>h.elim
   refine o2x3 p0 fun x Z' ex rx g=>?_;clear p0
   subst ex
   obtain rfl:=rx.bool_inv
   refine o2x1 g.eq fun h' tk e'=>?_
   refine⟨.inl ⟨.bool true,.bool true,[],rfl,fun za=>rfl,.bool true,by kernel_rfl,fun za=>⟨List.nodup_nil,fun za h=>nomatch h⟩⟩,.of_keep fun b o e=>g.eff.keep b o e fun q=>?_,by(refine af e' ?_;with_reducible rfl),by refine af e' ?_;exact .of_eq hg⟩
   rcases q with h | ⟨_,_,h⟩<;>first | exact absurd rfl h | exact ns h
end Mine
theorem PySem.Challenge.cw_xm0296_01_holds : PySem.Challenge.rw_xm0296_01.Holds :=
 MineH.head_ Mine.walk_
