import PyProof.Rows.All
import Wide.All
import OpenK.KLine
import Open.Tops
import Lean
import PySem.Challenge.RW_xm0296_01
set_option Elab.async false
set_option maxRecDepth 100000
set_option linter.all false
set_option maxHeartbeats 2000000
set_option tactic.hygienic false
namespace Mine
universe u
@[elab_as_elim] theorem af{α:Sort u}{p:α→Prop}{a b:α}(h:a=b)(k:p b):p a:=by subst h;exact k
@[elab_as_elim] theorem br{α:Sort u}{p:α→Prop}{a b:α}(h:a=b)(k:p a):p b:=by subst h;exact k
@[elab_as_elim] theorem zn{α:Sort u}{p:α→Prop}{r a b:α}(h:r=a∨r=b)(x:p a)(y:p b):p r:=h.elim (fun e=>af e x) fun e=>af e y
@[elab_as_elim] theorem FC{α:Sort u}{p:α→Prop}{r a b c:α}(h:r=a∨r=b∨r=c)(x:p a)(y:p b)(z:p c):p r:=h.elim (fun e=>af e x) fun h=>zn h y z
@[elab_as_elim] theorem xC{α:Sort u}{p:α→Prop}{r a b c d:α}(h:r=a∨r=b∨r=c∨r=d)(x:p a)(y:p b)(z:p c)(w:p d):p r:=h.elim (fun e=>af e x) fun h=>FC h y z w
theorem aP{α:Type u}{a b:α}(h:some a=some b):a=b:=Option.some.inj h
theorem aH{α:Sort u}{p:α→Prop}{b:Prop}(h:∃ x,p x)(k:∀ x,p x→b):b:=h.elim k
theorem ak{α:Sort u}{a b c:α}(h:a=b)(k:b=c):a=c:=h.trans k
theorem aG{c:Prop}{h:Decidable c}(k:c){α:Sort u}{t e:α}:ite c t e=t:=if_pos k
theorem aD{c:Prop}{h:Decidable c}(k:¬c){α:Sort u}{t e:α}:ite c t e=e:=if_neg k
theorem bR{p:Prop}[inst:Decidable p](h:p):decide p=true:=decide_eq_true h
theorem bG{p:Prop}[inst:Decidable p](h:¬p):decide p=false:=decide_eq_false h
theorem Fb{a b c d:Prop}(h:a∨b∨c)(x:a→d)(y:b→d)(z:c→d):d:=h.elim x fun h=>h.elim y z
theorem DQ{a b c e d:Prop}(h:a∨b∨c∨e)(x:a→d)(y:b→d)(z:c→d)(w:e→d):d:=h.elim x fun h=>Fb h y z w
theorem o0x2{p0:Prop}{p1:Prop}{c:Prop}(h:p0∧p1)(k:p0→p1→c):c:=k h.1 h.2
theorem o0x3{p0:Prop}{p1:Prop}{p2:Prop}{c:Prop}(h:p0∧p1∧p2)(k:p0→p1→p2→c):c:=k h.1 h.2.1 h.2.2
theorem o0x4{p0:Prop}{p1:Prop}{p2:Prop}{p3:Prop}{c:Prop}(h:p0∧p1∧p2∧p3)(k:p0→p1→p2→p3→c):c:=k h.1 h.2.1 h.2.2.1 h.2.2.2
theorem o0x5{p0:Prop}{p1:Prop}{p2:Prop}{p3:Prop}{p4:Prop}{c:Prop}(h:p0∧p1∧p2∧p3∧p4)(k:p0→p1→p2→p3→p4→c):c:=k h.1 h.2.1 h.2.2.1 h.2.2.2.1 h.2.2.2.2
theorem o0x7{p0:Prop}{p1:Prop}{p2:Prop}{p3:Prop}{p4:Prop}{p5:Prop}{p6:Prop}{c:Prop}(h:p0∧p1∧p2∧p3∧p4∧p5∧p6)(k:p0→p1→p2→p3→p4→p5→p6→c):c:=k h.1 h.2.1 h.2.2.1 h.2.2.2.1 h.2.2.2.2.1 h.2.2.2.2.2.1 h.2.2.2.2.2.2
theorem o0x8{p0:Prop}{p1:Prop}{p2:Prop}{p3:Prop}{p4:Prop}{p5:Prop}{p6:Prop}{p7:Prop}{c:Prop}(h:p0∧p1∧p2∧p3∧p4∧p5∧p6∧p7)(k:p0→p1→p2→p3→p4→p5→p6→p7→c):c:=k h.1 h.2.1 h.2.2.1 h.2.2.2.1 h.2.2.2.2.1 h.2.2.2.2.2.1 h.2.2.2.2.2.2.1 h.2.2.2.2.2.2.2
theorem o1x2{α:Type}{p0:α→Prop}{p1:α→Prop}{c:Prop}(h:∃ x0:α,p0 x0∧p1 x0)(k:∀ x0:α,p0 x0→p1 x0→c):c:=Exists.elim h fun x0 h=>k x0 h.1 h.2
theorem o1x3{α:Type}{p0:α→Prop}{p1:α→Prop}{p2:α→Prop}{c:Prop}(h:∃ x0:α,p0 x0∧p1 x0∧p2 x0)(k:∀ x0:α,p0 x0→p1 x0→p2 x0→c):c:=Exists.elim h fun x0 h=>k x0 h.1 h.2.1 h.2.2
theorem o1x4{α:Type}{p0:α→Prop}{p1:α→Prop}{p2:α→Prop}{p3:α→Prop}{c:Prop}(h:∃ x0:α,p0 x0∧p1 x0∧p2 x0∧p3 x0)(k:∀ x0:α,p0 x0→p1 x0→p2 x0→p3 x0→c):c:=Exists.elim h fun x0 h=>k x0 h.1 h.2.1 h.2.2.1 h.2.2.2
theorem o1x5{α:Type}{p0:α→Prop}{p1:α→Prop}{p2:α→Prop}{p3:α→Prop}{p4:α→Prop}{c:Prop}(h:∃ x0:α,p0 x0∧p1 x0∧p2 x0∧p3 x0∧p4 x0)(k:∀ x0:α,p0 x0→p1 x0→p2 x0→p3 x0→p4 x0→c):c:=Exists.elim h fun x0 h=>k x0 h.1 h.2.1 h.2.2.1 h.2.2.2.1 h.2.2.2.2
theorem o1x6{α:Type}{p0:α→Prop}{p1:α→Prop}{p2:α→Prop}{p3:α→Prop}{p4:α→Prop}{p5:α→Prop}{c:Prop}(h:∃ x0:α,p0 x0∧p1 x0∧p2 x0∧p3 x0∧p4 x0∧p5 x0)(k:∀ x0:α,p0 x0→p1 x0→p2 x0→p3 x0→p4 x0→p5 x0→c):c:=Exists.elim h fun x0 h=>k x0 h.1 h.2.1 h.2.2.1 h.2.2.2.1 h.2.2.2.2.1 h.2.2.2.2.2
theorem o2x1{α β:Type}{p0:α→β→Prop}{c:Prop}(h:∃ x0:α,∃ x1:β,p0 x0 x1)(k:∀ x0:α,∀ x1:β,p0 x0 x1→c):c:=Exists.elim h fun x0 h=>Exists.elim h fun x1 h=>k x0 x1 h
theorem o2x2{α β:Type}{p0:α→β→Prop}{p1:α→β→Prop}{c:Prop}(h:∃ x0:α,∃ x1:β,p0 x0 x1∧p1 x0 x1)(k:∀ x0:α,∀ x1:β,p0 x0 x1→p1 x0 x1→c):c:=Exists.elim h fun x0 h=>Exists.elim h fun x1 h=>k x0 x1 h.1 h.2
theorem o2x3{α β:Type}{p0:α→β→Prop}{p1:α→β→Prop}{p2:α→β→Prop}{c:Prop}(h:∃ x0:α,∃ x1:β,p0 x0 x1∧p1 x0 x1∧p2 x0 x1)(k:∀ x0:α,∀ x1:β,p0 x0 x1→p1 x0 x1→p2 x0 x1→c):c:=Exists.elim h fun x0 h=>Exists.elim h fun x1 h=>k x0 x1 h.1 h.2.1 h.2.2
theorem o2x3_1v0l_2v1l{α β:Type}{f0:α}{f1:β}{p0:α→β→Prop}{c:Prop}(h:∃ x0:α,∃ x1:β,p0 x0 x1∧x0=f0∧x1=f1)(k:p0 f0 f1→c):c:=by
 obtain⟨x0,x1,h0,rfl,rfl⟩:=h;exact k h0
theorem o2x4{α β:Type}{p0:α→β→Prop}{p1:α→β→Prop}{p2:α→β→Prop}{p3:α→β→Prop}{c:Prop}(h:∃ x0:α,∃ x1:β,p0 x0 x1∧p1 x0 x1∧p2 x0 x1∧p3 x0 x1)(k:∀ x0:α,∀ x1:β,p0 x0 x1→p1 x0 x1→p2 x0 x1→p3 x0 x1→c):c:=Exists.elim h fun x0 h=>Exists.elim h fun x1 h=>k x0 x1 h.1 h.2.1 h.2.2.1 h.2.2.2
theorem o2x5{α β:Type}{p0:α→β→Prop}{p1:α→β→Prop}{p2:α→β→Prop}{p3:α→β→Prop}{p4:α→β→Prop}{c:Prop}(h:∃ x0:α,∃ x1:β,p0 x0 x1∧p1 x0 x1∧p2 x0 x1∧p3 x0 x1∧p4 x0 x1)(k:∀ x0:α,∀ x1:β,p0 x0 x1→p1 x0 x1→p2 x0 x1→p3 x0 x1→p4 x0 x1→c):c:=Exists.elim h fun x0 h=>Exists.elim h fun x1 h=>k x0 x1 h.1 h.2.1 h.2.2.1 h.2.2.2.1 h.2.2.2.2
theorem o2x8{α β:Type}{p0:α→β→Prop}{p1:α→β→Prop}{p2:α→β→Prop}{p3:α→β→Prop}{p4:α→β→Prop}{p5:α→β→Prop}{p6:α→β→Prop}{p7:α→β→Prop}{c:Prop}(h:∃ x0:α,∃ x1:β,p0 x0 x1∧p1 x0 x1∧p2 x0 x1∧p3 x0 x1∧p4 x0 x1∧p5 x0 x1∧p6 x0 x1∧p7 x0 x1)(k:∀ x0:α,∀ x1:β,p0 x0 x1→p1 x0 x1→p2 x0 x1→p3 x0 x1→p4 x0 x1→p5 x0 x1→p6 x0 x1→p7 x0 x1→c):c:=Exists.elim h fun x0 h=>Exists.elim h fun x1 h=>k x0 x1 h.1 h.2.1 h.2.2.1 h.2.2.2.1 h.2.2.2.2.1 h.2.2.2.2.2.1 h.2.2.2.2.2.2.1 h.2.2.2.2.2.2.2
theorem o2x9{α β:Type}{p0:α→β→Prop}{p1:α→β→Prop}{p2:α→β→Prop}{p3:α→β→Prop}{p4:α→β→Prop}{p5:α→β→Prop}{p6:α→β→Prop}{p7:α→β→Prop}{p8:α→β→Prop}{c:Prop}(h:∃ x0:α,∃ x1:β,p0 x0 x1∧p1 x0 x1∧p2 x0 x1∧p3 x0 x1∧p4 x0 x1∧p5 x0 x1∧p6 x0 x1∧p7 x0 x1∧p8 x0 x1)(k:∀ x0:α,∀ x1:β,p0 x0 x1→p1 x0 x1→p2 x0 x1→p3 x0 x1→p4 x0 x1→p5 x0 x1→p6 x0 x1→p7 x0 x1→p8 x0 x1→c):c:=Exists.elim h fun x0 h=>Exists.elim h fun x1 h=>k x0 x1 h.1 h.2.1 h.2.2.1 h.2.2.2.1 h.2.2.2.2.1 h.2.2.2.2.2.1 h.2.2.2.2.2.2.1 h.2.2.2.2.2.2.2.1 h.2.2.2.2.2.2.2.2
theorem o3x1{α β γ:Type}{p0:α→β→γ→Prop}{c:Prop}(h:∃ x0:α,∃ x1:β,∃ x2:γ,p0 x0 x1 x2)(k:∀ x0:α,∀ x1:β,∀ x2:γ,p0 x0 x1 x2→c):c:=Exists.elim h fun x0 h=>Exists.elim h fun x1 h=>Exists.elim h fun x2 h=>k x0 x1 x2 h
theorem o3x2{α β γ:Type}{p0:α→β→γ→Prop}{p1:α→β→γ→Prop}{c:Prop}(h:∃ x0:α,∃ x1:β,∃ x2:γ,p0 x0 x1 x2∧p1 x0 x1 x2)(k:∀ x0:α,∀ x1:β,∀ x2:γ,p0 x0 x1 x2→p1 x0 x1 x2→c):c:=Exists.elim h fun x0 h=>Exists.elim h fun x1 h=>Exists.elim h fun x2 h=>k x0 x1 x2 h.1 h.2
theorem o3x3{α β γ:Type}{p0:α→β→γ→Prop}{p1:α→β→γ→Prop}{p2:α→β→γ→Prop}{c:Prop}(h:∃ x0:α,∃ x1:β,∃ x2:γ,p0 x0 x1 x2∧p1 x0 x1 x2∧p2 x0 x1 x2)(k:∀ x0:α,∀ x1:β,∀ x2:γ,p0 x0 x1 x2→p1 x0 x1 x2→p2 x0 x1 x2→c):c:=Exists.elim h fun x0 h=>Exists.elim h fun x1 h=>Exists.elim h fun x2 h=>k x0 x1 x2 h.1 h.2.1 h.2.2
theorem o3x4{α β γ:Type}{p0:α→β→γ→Prop}{p1:α→β→γ→Prop}{p2:α→β→γ→Prop}{p3:α→β→γ→Prop}{c:Prop}(h:∃ x0:α,∃ x1:β,∃ x2:γ,p0 x0 x1 x2∧p1 x0 x1 x2∧p2 x0 x1 x2∧p3 x0 x1 x2)(k:∀ x0:α,∀ x1:β,∀ x2:γ,p0 x0 x1 x2→p1 x0 x1 x2→p2 x0 x1 x2→p3 x0 x1 x2→c):c:=Exists.elim h fun x0 h=>Exists.elim h fun x1 h=>Exists.elim h fun x2 h=>k x0 x1 x2 h.1 h.2.1 h.2.2.1 h.2.2.2
theorem o3x5{α β γ:Type}{p0:α→β→γ→Prop}{p1:α→β→γ→Prop}{p2:α→β→γ→Prop}{p3:α→β→γ→Prop}{p4:α→β→γ→Prop}{c:Prop}(h:∃ x0:α,∃ x1:β,∃ x2:γ,p0 x0 x1 x2∧p1 x0 x1 x2∧p2 x0 x1 x2∧p3 x0 x1 x2∧p4 x0 x1 x2)(k:∀ x0:α,∀ x1:β,∀ x2:γ,p0 x0 x1 x2→p1 x0 x1 x2→p2 x0 x1 x2→p3 x0 x1 x2→p4 x0 x1 x2→c):c:=Exists.elim h fun x0 h=>Exists.elim h fun x1 h=>Exists.elim h fun x2 h=>k x0 x1 x2 h.1 h.2.1 h.2.2.1 h.2.2.2.1 h.2.2.2.2
theorem o3x6{α β γ:Type}{p0:α→β→γ→Prop}{p1:α→β→γ→Prop}{p2:α→β→γ→Prop}{p3:α→β→γ→Prop}{p4:α→β→γ→Prop}{p5:α→β→γ→Prop}{c:Prop}(h:∃ x0:α,∃ x1:β,∃ x2:γ,p0 x0 x1 x2∧p1 x0 x1 x2∧p2 x0 x1 x2∧p3 x0 x1 x2∧p4 x0 x1 x2∧p5 x0 x1 x2)(k:∀ x0:α,∀ x1:β,∀ x2:γ,p0 x0 x1 x2→p1 x0 x1 x2→p2 x0 x1 x2→p3 x0 x1 x2→p4 x0 x1 x2→p5 x0 x1 x2→c):c:=Exists.elim h fun x0 h=>Exists.elim h fun x1 h=>Exists.elim h fun x2 h=>k x0 x1 x2 h.1 h.2.1 h.2.2.1 h.2.2.2.1 h.2.2.2.2.1 h.2.2.2.2.2
theorem o3x7{α β γ:Type}{p0:α→β→γ→Prop}{p1:α→β→γ→Prop}{p2:α→β→γ→Prop}{p3:α→β→γ→Prop}{p4:α→β→γ→Prop}{p5:α→β→γ→Prop}{p6:α→β→γ→Prop}{c:Prop}(h:∃ x0:α,∃ x1:β,∃ x2:γ,p0 x0 x1 x2∧p1 x0 x1 x2∧p2 x0 x1 x2∧p3 x0 x1 x2∧p4 x0 x1 x2∧p5 x0 x1 x2∧p6 x0 x1 x2)(k:∀ x0:α,∀ x1:β,∀ x2:γ,p0 x0 x1 x2→p1 x0 x1 x2→p2 x0 x1 x2→p3 x0 x1 x2→p4 x0 x1 x2→p5 x0 x1 x2→p6 x0 x1 x2→c):c:=Exists.elim h fun x0 h=>Exists.elim h fun x1 h=>Exists.elim h fun x2 h=>k x0 x1 x2 h.1 h.2.1 h.2.2.1 h.2.2.2.1 h.2.2.2.2.1 h.2.2.2.2.2.1 h.2.2.2.2.2.2
theorem o3x8{α β γ:Type}{p0:α→β→γ→Prop}{p1:α→β→γ→Prop}{p2:α→β→γ→Prop}{p3:α→β→γ→Prop}{p4:α→β→γ→Prop}{p5:α→β→γ→Prop}{p6:α→β→γ→Prop}{p7:α→β→γ→Prop}{c:Prop}(h:∃ x0:α,∃ x1:β,∃ x2:γ,p0 x0 x1 x2∧p1 x0 x1 x2∧p2 x0 x1 x2∧p3 x0 x1 x2∧p4 x0 x1 x2∧p5 x0 x1 x2∧p6 x0 x1 x2∧p7 x0 x1 x2)(k:∀ x0:α,∀ x1:β,∀ x2:γ,p0 x0 x1 x2→p1 x0 x1 x2→p2 x0 x1 x2→p3 x0 x1 x2→p4 x0 x1 x2→p5 x0 x1 x2→p6 x0 x1 x2→p7 x0 x1 x2→c):c:=Exists.elim h fun x0 h=>Exists.elim h fun x1 h=>Exists.elim h fun x2 h=>k x0 x1 x2 h.1 h.2.1 h.2.2.1 h.2.2.2.1 h.2.2.2.2.1 h.2.2.2.2.2.1 h.2.2.2.2.2.2.1 h.2.2.2.2.2.2.2
theorem o3x9{α β γ:Type}{p0:α→β→γ→Prop}{p1:α→β→γ→Prop}{p2:α→β→γ→Prop}{p3:α→β→γ→Prop}{p4:α→β→γ→Prop}{p5:α→β→γ→Prop}{p6:α→β→γ→Prop}{p7:α→β→γ→Prop}{p8:α→β→γ→Prop}{c:Prop}(h:∃ x0:α,∃ x1:β,∃ x2:γ,p0 x0 x1 x2∧p1 x0 x1 x2∧p2 x0 x1 x2∧p3 x0 x1 x2∧p4 x0 x1 x2∧p5 x0 x1 x2∧p6 x0 x1 x2∧p7 x0 x1 x2∧p8 x0 x1 x2)(k:∀ x0:α,∀ x1:β,∀ x2:γ,p0 x0 x1 x2→p1 x0 x1 x2→p2 x0 x1 x2→p3 x0 x1 x2→p4 x0 x1 x2→p5 x0 x1 x2→p6 x0 x1 x2→p7 x0 x1 x2→p8 x0 x1 x2→c):c:=Exists.elim h fun x0 h=>Exists.elim h fun x1 h=>Exists.elim h fun x2 h=>k x0 x1 x2 h.1 h.2.1 h.2.2.1 h.2.2.2.1 h.2.2.2.2.1 h.2.2.2.2.2.1 h.2.2.2.2.2.2.1 h.2.2.2.2.2.2.2.1 h.2.2.2.2.2.2.2.2
theorem o4x2{α β γ δ:Type}{p0:α→β→γ→δ→Prop}{p1:α→β→γ→δ→Prop}{c:Prop}(h:∃ x0:α,∃ x1:β,∃ x2:γ,∃ x3:δ,p0 x0 x1 x2 x3∧p1 x0 x1 x2 x3)(k:∀ x0:α,∀ x1:β,∀ x2:γ,∀ x3:δ,p0 x0 x1 x2 x3→p1 x0 x1 x2 x3→c):c:=Exists.elim h fun x0 h=>Exists.elim h fun x1 h=>Exists.elim h fun x2 h=>Exists.elim h fun x3 h=>k x0 x1 x2 x3 h.1 h.2
theorem o4x4{α β γ δ:Type}{p0:α→β→γ→δ→Prop}{p1:α→β→γ→δ→Prop}{p2:α→β→γ→δ→Prop}{p3:α→β→γ→δ→Prop}{c:Prop}(h:∃ x0:α,∃ x1:β,∃ x2:γ,∃ x3:δ,p0 x0 x1 x2 x3∧p1 x0 x1 x2 x3∧p2 x0 x1 x2 x3∧p3 x0 x1 x2 x3)(k:∀ x0:α,∀ x1:β,∀ x2:γ,∀ x3:δ,p0 x0 x1 x2 x3→p1 x0 x1 x2 x3→p2 x0 x1 x2 x3→p3 x0 x1 x2 x3→c):c:=Exists.elim h fun x0 h=>Exists.elim h fun x1 h=>Exists.elim h fun x2 h=>Exists.elim h fun x3 h=>k x0 x1 x2 x3 h.1 h.2.1 h.2.2.1 h.2.2.2
theorem o5x2{α β γ δ ε:Type}{p0:α→β→γ→δ→ε→Prop}{p1:α→β→γ→δ→ε→Prop}{c:Prop}(h:∃ x0:α,∃ x1:β,∃ x2:γ,∃ x3:δ,∃ x4:ε,p0 x0 x1 x2 x3 x4∧p1 x0 x1 x2 x3 x4)(k:∀ x0:α,∀ x1:β,∀ x2:γ,∀ x3:δ,∀ x4:ε,p0 x0 x1 x2 x3 x4→p1 x0 x1 x2 x3 x4→c):c:=Exists.elim h fun x0 h=>Exists.elim h fun x1 h=>Exists.elim h fun x2 h=>Exists.elim h fun x3 h=>Exists.elim h fun x4 h=>k x0 x1 x2 x3 x4 h.1 h.2
end Mine
namespace MineH
open PySem PySem.W PySem.Calls PyProof.Rows
noncomputable def top:List Stmt:=PySem.Challenge.pw_xm0296_01.main.body
noncomputable def yv:List Stmt→Nat→Stmt
 |[],_=>.Pass default
 |s::l,n=>match n with
  |0=>s
  |n+1=>yv l n
noncomputable def at1(n:Nat):Stmt:=yv top n
noncomputable def Gs:Stmt→List Stmt
 |.ClassDef _ _ _ b _ _ _ _ _ _ _=>b
 |_=>[]
noncomputable def at2(n m:Nat):Stmt:=yv (Gs (at1 n)) m
noncomputable def dArgs:Stmt→Arguments
 |.FunctionDef _ a _ _ _ _ _ _ _ _=>a
 |_=>default
noncomputable def dBody:Stmt→List Stmt
 |.FunctionDef _ _ b _ _ _ _ _ _ _=>b
 |_=>[]
noncomputable def dScope:Stmt→Scope
 |.FunctionDef _ _ _ _ _ _ sc _ _ _=>sc
 |_=>default
noncomputable def sv(s:String)(t:Nat):Value:=.str (Str.ofString s) t
noncomputable def kv(P:Params)(s:String)(t:Nat)(v:Value):DictEntry:=⟨PyData.keyHash P (Str.ofString s),.str (Str.ofString s) t,v⟩
noncomputable def tp(l:List Value):Obj:=⟨.type "tuple",none,.seq ⟨l⟩ 0,#[]⟩
noncomputable def fl(l:List Value):Obj:=⟨.none,none,.fields ⟨l⟩,#[]⟩
noncomputable def xz(n q:String)(d:Stmt)(g:Addr)(m c:Value):Data:=.func ⟨Str.ofString n,Str.ofString q,dArgs d,.stmts (dBody d),dScope d,g,[],.none,.none,.none,m,none,c,.none,0⟩
noncomputable section
noncomputable abbrev M:=Params→Obj
noncomputable def tn:M:=fun _=>tp []
noncomputable def fn:M:=fun _=>fl []
noncomputable def F1(l:List String):Nat→List Value:=List.rec (motive:=fun _=>Nat→List Value) (fun _=>[]) (fun s _ ih n=>sv s n::ih (n+1)) l
noncomputable def tw(n:Nat)(l:List String):M:=fun _=>tp (F1 l n)
noncomputable def F2(l:List (Nat×Nat)):List Value:=List.rec (motive:=fun _=>List Value) [] (fun p _ ih=>.int (Int.ofNat p.1) 0::.int 0 0::.ref p.2::ih) l
noncomputable def rX(l:List (Nat×Nat)):List Value:=List.rec (motive:=fun _=>List Value) [] (fun p _ ih=>.int (Int.ofNat p.1) 0::.int 4 0::.ref p.2::ih) l
noncomputable def fw(a b:String)(d:Stmt)(m:Value)(k:Nat):M:=fun _=>⟨.type "function",none,xz a b d 3 m (.ref (k-1)),⟨[]⟩⟩
noncomputable def fu(a:String)(d:Stmt)(m:Value)(k:Nat):M:=fw a a d m k
noncomputable def fx(a b:String)(d:Stmt):M:=fun _=>⟨.none,none,xz a b d 0 .none .none,⟨[]⟩⟩
noncomputable def fv(a:String)(d:Stmt):M:=fx a a d
noncomputable def cf(x:Nat)(y:Bool)(a b:Value)(r1 r2:Nat)(c:Value)(n q:String)(t l ar u:Nat):M:=fun _=>⟨.type "code",none,.fields ⟨[sv n t,sv q (t+1),sv "/claim/cut.py" (t+2),.int (Int.ofNat l) 0,.int (Int.ofNat ar) 0,.int 0 0,.int 0 0,.int (Int.ofNat x) 0,.ref r1,.bool y,.int 181 0,.ref r2,.none,a,b,c,.int (Int.ofNat u) 0,.int (Int.ofNat l) 0,sv "/claim/cut.py" (u+1)]⟩,⟨[]⟩⟩
noncomputable def ca(n q:String)(t l ar u k:Nat):M:=cf 3 true (.ref (k-3)) (.ref (k-2)) (k-5) (k-4) (.ref (k-1)) n q t l ar u
noncomputable def cb(n q:String)(t l ar u k:Nat):M:=cf 0 false .none .none (k-2) (k-1) .none n q t l ar u
noncomputable def cc(n q:String)(t l ar u k:Nat):M:=cf 3 true .none .none (k-3) (k-2) (.ref (k-1)) n q t l ar u
noncomputable def bm(l:List Value):M:=fun _=>⟨.type "builtin_function_or_method",none,.fields ⟨l⟩,⟨[]⟩⟩
noncomputable def dc(n:Nat)(l:List DictEntry):Obj:=⟨.type "dict",none,.dict ⟨l⟩ n,⟨[]⟩⟩
noncomputable def kr(P:Params)(s:String)(t a:Nat):DictEntry:=kv P s t (.ref a)
noncomputable def ki(P:Params)(s:String)(t a:Nat):DictEntry:=kv P s t (.int (Int.ofNat a) (t-1))
noncomputable def m0:Value:=sv "__main__" 164
noncomputable def m1:Value:=sv "framerune.faults" 194
noncomputable def m2:Value:=sv "framerune.kinds" 247
noncomputable def m3:Value:=sv "framerune.values" 641
noncomputable def m4:Value:=sv "framerune.heap" 689
noncomputable def m5:Value:=sv "framerune.places" 869
noncomputable def m6:Value:=sv "framerune.mbase" 1024
noncomputable def m7:Value:=sv "framerune.store" 1378
noncomputable def m8:Value:=sv "framerune.mplain" 1525
noncomputable def m9:Value:=sv "framerune.mfield" 1537
noncomputable def jj:Value:=sv "law_xm0296_01" 1577
noncomputable def o2:M:=fun P=>⟨.none,none,(.dict ⟨[kv P "type.__subclasses__.Exception.0" 227 (.int 38 0),kv P "type.__subclasses__.Exception.n" 228 (.int 1 0)]⟩ 2),⟨[]⟩⟩
noncomputable def e3(P:Params):List DictEntry:=[kv P "__doc__" 166 .none,kv P "__package__" 167 .none,kv P "__loader__" 168 (.builtin "__main__.__loader__#opaque"),kv P "__spec__" 169 .none,kr P "__annotations__" 170 6,kr P "__builtins__" 171 4,kv P "__file__" 173 (sv "/claim/cut.py" 172),kv P "__cached__" 174 .none,kr P "_wall" 193 21,ki P "W_EMPTY" 197 2,ki P "W_PLACE" 199 4,kr P "RuneError" 230 38,kr P "BadKind" 246 51,ki P "VOID" 250 0,ki P "BOOL" 252 1,ki P "CHAR" 254 2,ki P "I1" 256 3,ki P "U1" 258 4,ki P "I2" 260 5,ki P "U2" 262 6,ki P "I4" 264 7,ki P "U4" 266 8,ki P "I8" 268 9,ki P "U8" 270 10,ki P "NINT" 272 11,ki P "OBJECT" 274 12,ki P "STRING" 276 13,ki P "NULLK" 278 14,ki P "PRIM_END" 280 16,ki P "R_PRIM" 282 1,ki P "R_CLASS" 284 2,ki P "R_VALUE" 286 3,ki P "R_ARRAY" 288 4,ki P "R_BYREF" 290 5,ki P "R_VAR" 292 6,ki P "R_MVAR" 294 7,ki P "R_BOXED" 296 8,ki P "R_ROREF" 298 9,ki P "R_FTN" 300 10,ki P "R_RAW" 302 11,ki P "DEEPEST_KIND" 304 24,ki P "HEAVIEST_KIND" 306 4096,kr P "PRIM_TID" 335 54,kr P "TID_PRIM" 364 55,ki P "ARRAY_TID" 366 5,ki P "NULLABLE_TID" 368 8,kr P "KindTable" 425 86,kr P "inner_kinds" 433 97,kr P "row_level" 440 104,kr P "row_length" 447 111,kr P "check_kind_row" 457 118,kr P "check_named" 465 125,kr P "check_args" 474 132,kr P "may_stand" 483 139,kr P "class_kind" 492 146,kr P "value_kind" 501 153,kr P "prim_kind" 509 160,kr P "array_kind" 517 167,kr P "byref_kind" 525 174,kr P "kind_sort" 533 181,kr P "elem_of" 542 188,kr P "tid_of" 551 195,kr P "args_of" 560 202,kr P "is_value" 568 209,kr P "is_var" 577 216,kr P "close" 587 223,kr P "close_in" 601 230,kr P "with_inner" 611 237,kr P "box_of" 619 244,kr P "pick_arg" 628 251,kr P "close_all" 640 258,ki P "V_REF" 644 4,ki P "V_STRUCT" 646 5,ki P "PL_LOCAL" 648 1,ki P "PL_ARG" 650 2,ki P "PL_HEAP" 652 3,ki P "PL_STATIC" 654 4,kr P "get_path" 663 265,kr P "put_path" 677 272,kr P "refs_in" 688 279,ki P "FIRST_ADDRESS" 692 16,ki P "HEAD_WORDS" 694 2,ki P "LEAST_SIZE" 696 3,kr P "words_for" 703 286,kr P "Thing" 739 303,kr P "Heap" 780 324,kr P "heap_alloc" 790 335,kr P "find_thing" 803 342,kr P "slot_word" 811 349,kr P "slot_at" 820 356,kr P "read_slot" 830 363,kr P "holds_reference" 838 370,kr P "card_number" 846 377,kr P "store_slot" 856 384,kr P "write_slot" 868 391,kv P "KEEP_PLACE" 873 (.int (-1) 872),kr P "PlaceHost" 906 408,kr P "local_place" 914 419,kr P "arg_place" 922 426,kr P "keep_place" 929 433,kr P "heap_place" 937 440,kr P "static_place" 945 447,kr P "field_place" 953 454,kr P "path_of" 960 461,kr P "slots_of" 969 468,kr P "index_of" 976 475,kr P "read_whole" 986 482,kr P "read_place" 995 489,kr P "write_place" 1006 496,kr P "start_of" 1015 503,kr P "same_place" 1023 510,kv P "JP_STAY" 1028 (.int (-2) 1027),ki P "ST_RUN" 1030 0,ki P "ST_WRONG" 1032 3,kr P "LOST" 1035 511,kr P "Frame" 1082 528,kr P "Starter" 1131 563,kr P "KindCloser" 1171 591,kr P "Tray" 1349 717,kr P "told_row" 1358 728,kr P "tell_wrong" 1369 735,kr P "pop_value" 1377 742,ki P "MF_STATIC" 1381 1,kr P "MethodDef" 1429 759,kr P "Body" 1464 780,kr P "Store" 1498 801,kr P "plain_names" 1507 812,kr P "method_sig" 1517 819,kr P "is_static" 1524 826,kr P "arg_kind" 1536 833,kr P "item_kind" 1546 840,kr P "heap_kind" 1555 847,kr P "whole_kind" 1565 854,kr P "place_kind" 1576 861,kr P "_law_ADDRESSES" 1583 862,kr P "_law_WORDS" 1592 863,kr P "_law_GENS" 1617 872,kr P "_law_draw" 1626 879,kr P "_law_shapes" 1632 884,kr P "_law_spots" 1647 891,kr P "_law_within" 1655 898,kr P "_law_made" 1661 903,kr P "_law_put" 1676 910,kr P "_law_show" 1682 915,kr P "_law_refs" 1696 922,kr P "_law_place" 1707 929,kr P "_law_write" 1719 936,kr P "_law_read" 1731 943,kr P "_law_nowhere" 1740 950,kr P "_law_astray" 1753 957,kr P "_law_turned" 1763 964,kr P "_law_apart" 1779 971,kr P "_law_copy" 1785 976,kr P "_law_first" 1794 983,kr P "_law_compare" 1811 990,kr P "_law_deed" 1824 997,kr P "_law_world" 1830 1002,kr P "_law_deepest" 1840 1009,kr P "_law_other" 1847 1016,kr P "_law_bottoms" 1857 1023,kr P "_law_settled" 1863 1028,kr P "law" 1876 1035]
noncomputable def o3:M:=fun P=>⟨.type "dict",none,.dict ⟨kv P "__name__" 165 (sv "law_xm0296_01" 1577)::e3 P⟩ 163,⟨[]⟩⟩
def o11:=tn
def jg:=F2 [(1,20),(7,27),(12,47),(48,61),(97,96),(106,103),(110,110),(116,117),(138,124),(142,131),(146,138),(151,145),(155,152),(159,159),(163,166),(165,173),(167,180),(169,187),(174,194),(183,201),(188,208),(192,215),(195,222),(200,229),(215,236),(224,243),(232,250),(236,257),(248,264),(254,271),(266,278),(289,285),(293,292),(302,313),(317,334),(326,341),(344,348),(346,355),(351,362),(359,369),(366,376),(368,383),(372,390),(385,397),(391,418),(393,425),(395,432),(397,439),(399,446),(401,453),(405,460),(409,467),(420,474),(424,481),(434,488),(439,495),(448,502),(456,509),(463,517),(481,538),(491,573),(498,601),(567,727),(572,734),(583,741),(590,748),(607,769),(614,790),(624,811),(629,818),(637,825),(640,832),(650,839),(654,846),(663,853),(681,860),(697,878),(703,883),(723,890),(733,897),(735,902),(742,909),(749,914),(754,921),(762,928),(767,935),(773,942),(781,949),(787,956),(798,963),(804,970),(816,975),(824,982),(829,989),(838,996),(854,1001),(893,1008),(899,1015),(903,1022),(911,1027),(924,1034)]
def o12:M:=fun _=>fl jg
def o13:=cb "<module>" "<module>" 182 1 0 185 13
noncomputable def o14:M:=fun P=>⟨(.type "frame"),none,.plain,⟨[(some (.ref 13)),(some (.ref 3)),(some (.ref 3)),none,(some (sv "__main__" 164)),none,(some (.ref 0))]⟩⟩
def o15:=tn
def o16:=fn
def o17:=tw 190 ["k"]
def o18:=tn
def o19:=fv "_wall" (at1 0)
def o20:=ca "_wall" "_wall" 187 1 1 191 20
def o21:=fu "_wall" (at1 0) m0 21
noncomputable def o22:M:=fun _=>tp [(.type "Exception")]
def o23:=bm [(.builtin "type.__prepare__"),(.type "type")]
def o24:M:=fun P=>dc 5 [kv P "__module__" 207 (sv "framerune.faults" 194),kv P "__qualname__" 209 (sv "RuneError" 208),ki P "__firstlineno__" 211 7,kr P "__init__" 220 35,kr P "__static_attributes__" 223 36]
def o25:=tn
def o26:M:=fun _=>fl (rX [(9,34)])
def o27:=cb "RuneError" "RuneError" 202 7 0 205 27
noncomputable def o28:M:=fun P=>⟨(.type "frame"),none,.plain,⟨[(some (.ref 27)),(some (.ref 3)),(some (.ref 24)),none,(some (sv "framerune.faults" 194)),none,(some (.ref 0))]⟩⟩
def o29:=tn
def o30:=fn
def o31:=tw 215 ["self","code","at"]
def o32:=tn
def o33:=fx "__init__" "RuneError.__init__" (at2 4 0)
def o34:=ca "__init__" "RuneError.__init__" 212 9 3 218 34
def o35:=fw "__init__" "RuneError.__init__" (at2 4 0) m1 35
def o36:=tw 221 ["at","code"]
def o37:M:=fun P=>dc 3 [kv P "__module__" 207 (sv "framerune.faults" 194),ki P "__firstlineno__" 211 7,kr P "__init__" 220 35,kr P "__static_attributes__" 223 36,kr P "__weakref__" 225 39,kv P "__doc__" 226 .none]
noncomputable def o38:M:=fun P=>⟨(.type "type"),none,(.cls ⟨.ofString "RuneError",[(.type "Exception")],[(.ref 38),(.type "Exception"),(.type "BaseException"),(.type "object")],37,.ofString "RuneError",true,[],[(.ref 51)],false,none,false⟩),⟨[(some (.ref 22)),none,(some (sv "RuneError" 200)),(some (sv "RuneError" 208)),(some (.builtin "Exception.__new__")),(some (.bool true))]⟩⟩
noncomputable def o39:M:=fun P=>⟨(.type "getset_descriptor"),none,(.fields ⟨[(sv "__weakref__" 224),(.ref 38),(.builtin "ExceptionGroup.__weakref__"),.none]⟩),⟨[]⟩⟩
noncomputable def o40:M:=fun P=>⟨(.type "super"),none,(.fields ⟨[(.ref 38),(.ref 38),(.ref 38)]⟩),⟨[]⟩⟩
def o41:=bm [(.builtin "object.__init_subclass__"),(.ref 38)]
noncomputable def o42:M:=fun _=>tp [(.ref 38)]
def o43:=bm [(.builtin "type.__prepare__"),(.type "type")]
def o44:M:=fun P=>dc 4 [kv P "__module__" 238 (sv "framerune.faults" 194),kv P "__qualname__" 240 (sv "BadKind" 239),ki P "__firstlineno__" 242 12,kr P "__static_attributes__" 243 49]
def o45:=tn
def o46:=fn
def o47:=cb "BadKind" "BadKind" 233 12 0 236 47
noncomputable def o48:M:=fun P=>⟨(.type "frame"),none,.plain,⟨[(some (.ref 47)),(some (.ref 3)),(some (.ref 44)),none,(some (sv "framerune.faults" 194)),none,(some (.ref 0))]⟩⟩
def o49:=tn
def o50:M:=fun P=>dc 2 [kv P "__module__" 238 (sv "framerune.faults" 194),ki P "__firstlineno__" 242 12,kr P "__static_attributes__" 243 49,kv P "__doc__" 244 .none]
noncomputable def o51:M:=fun P=>⟨(.type "type"),none,(.cls ⟨.ofString "BadKind",[(.ref 38)],[(.ref 51),(.ref 38),(.type "Exception"),(.type "BaseException"),(.type "object")],50,.ofString "BadKind",true,[],[],false,none,false⟩),⟨[(some (.ref 42)),none,(some (sv "BadKind" 231)),(some (sv "BadKind" 239)),(some (.builtin "Exception.__new__")),(some (.bool true))]⟩⟩
noncomputable def o52:M:=fun P=>⟨(.type "super"),none,(.fields ⟨[(.ref 51),(.ref 51),(.ref 51)]⟩),⟨[]⟩⟩
def o53:=bm [(.builtin "object.__init_subclass__"),(.ref 51)]
def o54:M:=fun P=>dc 14 [⟨0,(.int 0 249),(.int 20 307)⟩,⟨1,(.int 1 251),(.int 9 308)⟩,⟨2,(.int 2 253),(.int 10 309)⟩,⟨3,(.int 3 255),(.int 11 310)⟩,⟨4,(.int 4 257),(.int 12 311)⟩,⟨5,(.int 5 259),(.int 13 312)⟩,⟨6,(.int 6 261),(.int 14 313)⟩,⟨7,(.int 7 263),(.int 15 314)⟩,⟨8,(.int 8 265),(.int 16 315)⟩,⟨9,(.int 9 267),(.int 17 316)⟩,⟨10,(.int 10 269),(.int 18 317)⟩,⟨11,(.int 11 271),(.int 19 318)⟩,⟨12,(.int 12 273),(.int 1 319)⟩,⟨13,(.int 13 275),(.int 4 320)⟩]
def o55:M:=fun P=>dc 14 [⟨20,(.int 20 336),(.int 0 249)⟩,⟨9,(.int 9 337),(.int 1 251)⟩,⟨10,(.int 10 338),(.int 2 253)⟩,⟨11,(.int 11 339),(.int 3 255)⟩,⟨12,(.int 12 340),(.int 4 257)⟩,⟨13,(.int 13 341),(.int 5 259)⟩,⟨14,(.int 14 342),(.int 6 261)⟩,⟨15,(.int 15 343),(.int 7 263)⟩,⟨16,(.int 16 344),(.int 8 265)⟩,⟨17,(.int 17 345),(.int 9 267)⟩,⟨18,(.int 18 346),(.int 10 269)⟩,⟨19,(.int 19 347),(.int 11 271)⟩,⟨1,(.int 1 348),(.int 12 273)⟩,⟨4,(.int 4 349),(.int 13 275)⟩]
def o56:=tn
def o57:=bm [(.builtin "type.__prepare__"),(.type "type")]
def o58:M:=fun P=>dc 7 [kv P "__module__" 376 (sv "framerune.kinds" 247),kv P "__qualname__" 378 (sv "KindTable" 377),ki P "__firstlineno__" 380 48,kr P "__init__" 389 69,kr P "row" 397 76,kr P "put" 412 83,kr P "__static_attributes__" 418 84]
def o59:=tn
def o60:M:=fun _=>fl (rX [(50,68),(64,75),(69,82)])
def o61:=cb "KindTable" "KindTable" 371 48 0 374 61
noncomputable def o62:M:=fun P=>⟨(.type "frame"),none,.plain,⟨[(some (.ref 61)),(some (.ref 3)),(some (.ref 58)),none,(some (sv "framerune.kinds" 247)),none,(some (.ref 0))]⟩⟩
def o63:=tn
def o64:=fn
def o65:=tw 384 ["self","number","row"]
def o66:=tn
def o67:=fx "__init__" "KindTable.__init__" (at2 40 0)
def o68:=ca "__init__" "KindTable.__init__" 381 50 1 387 68
def o69:=fw "__init__" "KindTable.__init__" (at2 40 0) m2 69
def o70:=tn
def o71:=fn
def o72:=tw 393 ["self","k"]
def o73:=tn
def o74:=fx "row" "KindTable.row" (at2 40 1)
def o75:=ca "row" "KindTable.row" 390 64 2 395 75
def o76:=fw "row" "KindTable.row" (at2 40 1) m2 76
def o77:=tn
def o78:=fn
def o79:=tw 401 ["self","row","found","depth","weight","opened","level","inner","k"]
def o80:=tn
def o81:=fx "put" "KindTable.put" (at2 40 2)
def o82:=ca "put" "KindTable.put" 398 69 2 410 82
def o83:=fw "put" "KindTable.put" (at2 40 2) m2 83
def o84:=tw 413 ["depths","index","opens","rows","weights"]
def o85:M:=fun P=>dc 4 [kv P "__module__" 376 (sv "framerune.kinds" 247),ki P "__firstlineno__" 380 48,kr P "__init__" 389 69,kr P "row" 397 76,kr P "put" 412 83,kr P "__static_attributes__" 418 84,kr P "__dict__" 420 87,kr P "__weakref__" 422 88,kv P "__doc__" 423 .none]
noncomputable def o86:M:=fun P=>⟨(.type "type"),none,(.cls ⟨.ofString "KindTable",[(.type "object")],[(.ref 86),(.type "object")],85,.ofString "KindTable",true,[],[],false,none,false⟩),⟨[none,none,(some (sv "KindTable" 369)),(some (sv "KindTable" 377)),(some (.builtin "object.__new__")),(some (.bool true))]⟩⟩
noncomputable def o87:M:=fun P=>⟨(.type "getset_descriptor"),none,(.fields ⟨[(sv "__dict__" 419),(.ref 86),(.builtin "function.__dict__"),(.builtin "function.__dict__#set")]⟩),⟨[]⟩⟩
noncomputable def o88:M:=fun P=>⟨(.type "getset_descriptor"),none,(.fields ⟨[(sv "__weakref__" 421),(.ref 86),(.builtin "ExceptionGroup.__weakref__"),.none]⟩),⟨[]⟩⟩
noncomputable def o89:M:=fun P=>⟨(.type "super"),none,(.fields ⟨[(.ref 86),(.ref 86),(.ref 86)]⟩),⟨[]⟩⟩
def o90:=bm [(.builtin "object.__init_subclass__"),(.ref 86)]
def o91:=tn
def o92:=fn
def o93:=tw 429 ["row","sort"]
def o94:=tn
def o95:=fv "inner_kinds" (at1 41)
def o96:=ca "inner_kinds" "inner_kinds" 426 97 1 431 96
def o97:=fu "inner_kinds" (at1 41) m2 97
def o98:=tn
def o99:=fn
def o100:=tw 437 ["sort"]
def o101:=tn
def o102:=fv "row_level" (at1 42)
def o103:=ca "row_level" "row_level" 434 106 1 438 103
def o104:=fu "row_level" (at1 42) m2 104
def o105:=tn
def o106:=fn
def o107:=tw 444 ["sort"]
def o108:=tn
def o109:=fv "row_length" (at1 43)
def o110:=ca "row_length" "row_length" 441 110 1 445 110
def o111:=fu "row_length" (at1 43) m2 111
def o112:=tn
def o113:=fn
def o114:=tw 451 ["kt","row","sort","inner"]
def o115:=tn
def o116:=fv "check_kind_row" (at1 44)
def o117:=ca "check_kind_row" "check_kind_row" 448 116 2 455 117
def o118:=fu "check_kind_row" (at1 44) m2 118
def o119:=tn
def o120:=fn
def o121:=tw 461 ["kt","row"]
def o122:=tn
def o123:=fv "check_named" (at1 45)
def o124:=ca "check_named" "check_named" 458 138 2 463 124
def o125:=fu "check_named" (at1 45) m2 125
def o126:=tn
def o127:=fn
def o128:=tw 469 ["kt","args","arg"]
def o129:=tn
def o130:=fv "check_args" (at1 46)
def o131:=ca "check_args" "check_args" 466 142 2 472 131
def o132:=fu "check_args" (at1 46) m2 132
def o133:=tn
def o134:=fn
def o135:=tw 478 ["kt","k","sort"]
def o136:=tn
def o137:=fv "may_stand" (at1 47)
def o138:=ca "may_stand" "may_stand" 475 146 2 481 138
def o139:=fu "may_stand" (at1 47) m2 139
def o140:=tn
def o141:=fn
def o142:=tw 487 ["kt","tid","args"]
def o143:=tn
def o144:=fv "class_kind" (at1 48)
def o145:=ca "class_kind" "class_kind" 484 151 3 490 145
def o146:=fu "class_kind" (at1 48) m2 146
def o147:=tn
def o148:=fn
def o149:=tw 496 ["kt","tid","args"]
def o150:=tn
def o151:=fv "value_kind" (at1 49)
def o152:=ca "value_kind" "value_kind" 493 155 3 499 152
def o153:=fu "value_kind" (at1 49) m2 153
def o154:=tn
def o155:=fn
def o156:=tw 505 ["tid","args"]
def o157:=tn
def o158:=fv "prim_kind" (at1 50)
def o159:=ca "prim_kind" "prim_kind" 502 159 2 507 159
def o160:=fu "prim_kind" (at1 50) m2 160
def o161:=tn
def o162:=fn
def o163:=tw 513 ["kt","elem"]
def o164:=tn
def o165:=fv "array_kind" (at1 51)
def o166:=ca "array_kind" "array_kind" 510 163 2 515 166
def o167:=fu "array_kind" (at1 51) m2 167
def o168:=tn
def o169:=fn
def o170:=tw 521 ["kt","inner"]
def o171:=tn
def o172:=fv "byref_kind" (at1 52)
def o173:=ca "byref_kind" "byref_kind" 518 165 2 523 173
def o174:=fu "byref_kind" (at1 52) m2 174
def o175:=tn
def o176:=fn
def o177:=tw 529 ["kt","k"]
def o178:=tn
def o179:=fv "kind_sort" (at1 53)
def o180:=ca "kind_sort" "kind_sort" 526 167 2 531 180
def o181:=fu "kind_sort" (at1 53) m2 181
def o182:=tn
def o183:=fn
def o184:=tw 537 ["kt","k","row"]
def o185:=tn
def o186:=fv "elem_of" (at1 54)
def o187:=ca "elem_of" "elem_of" 534 169 2 540 187
def o188:=fu "elem_of" (at1 54) m2 188
def o189:=tn
def o190:=fn
def o191:=tw 546 ["kt","k","row"]
def o192:=tn
def o193:=fv "tid_of" (at1 55)
def o194:=ca "tid_of" "tid_of" 543 174 2 549 194
def o195:=fu "tid_of" (at1 55) m2 195
def o196:=tn
def o197:=fn
def o198:=tw 555 ["kt","k","row"]
def o199:=tn
def o200:=fv "args_of" (at1 56)
def o201:=ca "args_of" "args_of" 552 183 2 558 201
def o202:=fu "args_of" (at1 56) m2 202
def o203:=tn
def o204:=fn
def o205:=tw 564 ["kt","k"]
def o206:=tn
def o207:=fv "is_value" (at1 57)
def o208:=ca "is_value" "is_value" 561 188 2 566 208
def o209:=fu "is_value" (at1 57) m2 209
def o210:=tn
def o211:=fn
def o212:=tw 572 ["kt","k","sort"]
def o213:=tn
def o214:=fv "is_var" (at1 58)
def o215:=ca "is_var" "is_var" 569 192 2 575 215
def o216:=fu "is_var" (at1 58) m2 216
def o217:=tn
def o218:=fn
def o219:=tw 581 ["kt","k","targs","margs"]
def o220:=tn
def o221:=fv "close" (at1 59)
def o222:=ca "close" "close" 578 195 4 585 222
def o223:=fu "close" (at1 59) m2 223
def o224:=tn
def o225:=fn
def o226:=tw 591 ["kt","k","targs","margs","seen","row","inner","part"]
def o227:=tn
def o228:=fv "close_in" (at1 60)
def o229:=ca "close_in" "close_in" 588 200 5 599 229
def o230:=fu "close_in" (at1 60) m2 230
def o231:=tn
def o232:=fn
def o233:=tw 605 ["kt","row","inner","sort"]
def o234:=tn
def o235:=fv "with_inner" (at1 61)
def o236:=ca "with_inner" "with_inner" 602 215 3 609 236
def o237:=fu "with_inner" (at1 61) m2 237
def o238:=tn
def o239:=fn
def o240:=tw 615 ["kt","k"]
def o241:=tn
def o242:=fv "box_of" (at1 62)
def o243:=ca "box_of" "box_of" 612 224 2 617 243
def o244:=fu "box_of" (at1 62) m2 244
def o245:=tn
def o246:=fn
def o247:=tw 623 ["args","place","k"]
def o248:=tn
def o249:=fv "pick_arg" (at1 63)
def o250:=ca "pick_arg" "pick_arg" 620 232 3 626 250
def o251:=fu "pick_arg" (at1 63) m2 251
def o252:=tn
def o253:=fn
def o254:=tw 632 ["kt","ks","targs","margs","out","k"]
def o255:=tn
def o256:=fv "close_all" (at1 64)
def o257:=ca "close_all" "close_all" 629 236 4 638 257
def o258:=fu "close_all" (at1 64) m2 258
def o259:=tn
def o260:=fn
def o261:=tw 658 ["value","path","slot"]
def o262:=tn
def o263:=fv "get_path" (at1 72)
def o264:=ca "get_path" "get_path" 655 248 2 661 264
def o265:=fu "get_path" (at1 72) m3 265
def o266:=tn
def o267:=fn
def o268:=tw 667 ["value","path","new","way","at_slot","slot","place","outer"]
def o269:=tn
def o270:=fv "put_path" (at1 73)
def o271:=ca "put_path" "put_path" 664 254 3 675 271
def o272:=fu "put_path" (at1 73) m3 272
def o273:=tn
def o274:=fn
def o275:=tw 681 ["value","found","todo","top","place"]
def o276:=tn
def o277:=fv "refs_in" (at1 74)
def o278:=ca "refs_in" "refs_in" 678 266 1 686 278
def o279:=fu "refs_in" (at1 74) m3 279
def o280:=tn
def o281:=fn
def o282:=tw 700 ["count"]
def o283:=tn
def o284:=fv "words_for" (at1 79)
def o285:=ca "words_for" "words_for" 697 289 1 701 285
def o286:=fu "words_for" (at1 79) m4 286
def o287:=tn
def o288:=bm [(.builtin "type.__prepare__"),(.type "type")]
def o289:M:=fun P=>dc 5 [kv P "__module__" 711 (sv "framerune.heap" 689),kv P "__qualname__" 713 (sv "Thing" 712),ki P "__firstlineno__" 715 293,kr P "__init__" 725 300,kr P "__static_attributes__" 732 301]
def o290:=tn
def o291:M:=fun _=>fl (rX [(295,299)])
def o292:=cb "Thing" "Thing" 706 293 0 709 292
noncomputable def o293:M:=fun P=>⟨(.type "frame"),none,.plain,⟨[(some (.ref 292)),(some (.ref 3)),(some (.ref 289)),none,(some (sv "framerune.heap" 689)),none,(some (.ref 0))]⟩⟩
def o294:=tn
def o295:=fn
def o296:=tw 719 ["self","addr","kind","slots"]
def o297:=tn
def o298:=fx "__init__" "Thing.__init__" (at2 80 0)
def o299:=ca "__init__" "Thing.__init__" 716 295 4 723 299
def o300:=fw "__init__" "Thing.__init__" (at2 80 0) m4 300
def o301:=tw 726 ["addr","gen","kind","serial","size","slots"]
def o302:M:=fun P=>dc 4 [kv P "__module__" 711 (sv "framerune.heap" 689),ki P "__firstlineno__" 715 293,kr P "__init__" 725 300,kr P "__static_attributes__" 732 301,kr P "__dict__" 734 304,kr P "__weakref__" 736 305,kv P "__doc__" 737 .none]
noncomputable def o303:M:=fun P=>⟨(.type "type"),none,(.cls ⟨.ofString "Thing",[(.type "object")],[(.ref 303),(.type "object")],302,.ofString "Thing",true,[],[],false,none,false⟩),⟨[none,none,(some (sv "Thing" 704)),(some (sv "Thing" 712)),(some (.builtin "object.__new__")),(some (.bool true))]⟩⟩
noncomputable def o304:M:=fun P=>⟨(.type "getset_descriptor"),none,(.fields ⟨[(sv "__dict__" 733),(.ref 303),(.builtin "function.__dict__"),(.builtin "function.__dict__#set")]⟩),⟨[]⟩⟩
noncomputable def o305:M:=fun P=>⟨(.type "getset_descriptor"),none,(.fields ⟨[(sv "__weakref__" 735),(.ref 303),(.builtin "ExceptionGroup.__weakref__"),.none]⟩),⟨[]⟩⟩
noncomputable def o306:M:=fun P=>⟨(.type "super"),none,(.fields ⟨[(.ref 303),(.ref 303),(.ref 303)]⟩),⟨[]⟩⟩
def o307:=bm [(.builtin "object.__init_subclass__"),(.ref 303)]
def o308:=tn
def o309:=bm [(.builtin "type.__prepare__"),(.type "type")]
def o310:M:=fun P=>dc 5 [kv P "__module__" 747 (sv "framerune.heap" 689),kv P "__qualname__" 749 (sv "Heap" 748),ki P "__firstlineno__" 751 302,kr P "__init__" 760 321,kr P "__static_attributes__" 773 322]
def o311:=tn
def o312:M:=fun _=>fl (rX [(304,320)])
def o313:=cb "Heap" "Heap" 742 302 0 745 313
noncomputable def o314:M:=fun P=>⟨(.type "frame"),none,.plain,⟨[(some (.ref 313)),(some (.ref 3)),(some (.ref 310)),none,(some (sv "framerune.heap" 689)),none,(some (.ref 0))]⟩⟩
def o315:=tn
def o316:=fn
def o317:=tw 755 ["self","limit","card_bits"]
def o318:=tn
def o319:=fx "__init__" "Heap.__init__" (at2 81 0)
def o320:=ca "__init__" "Heap.__init__" 752 304 3 758 320
def o321:=fw "__init__" "Heap.__init__" (at2 81 0) m4 321
def o322:=tw 761 ["at","card_bits","cards","finals","fresh","limit","made","moved","ready","things","top","young_limit"]
def o323:M:=fun P=>dc 4 [kv P "__module__" 747 (sv "framerune.heap" 689),ki P "__firstlineno__" 751 302,kr P "__init__" 760 321,kr P "__static_attributes__" 773 322,kr P "__dict__" 775 325,kr P "__weakref__" 777 326,kv P "__doc__" 778 .none]
noncomputable def o324:M:=fun P=>⟨(.type "type"),none,(.cls ⟨.ofString "Heap",[(.type "object")],[(.ref 324),(.type "object")],323,.ofString "Heap",true,[],[],false,none,false⟩),⟨[none,none,(some (sv "Heap" 740)),(some (sv "Heap" 748)),(some (.builtin "object.__new__")),(some (.bool true))]⟩⟩
noncomputable def o325:M:=fun P=>⟨(.type "getset_descriptor"),none,(.fields ⟨[(sv "__dict__" 774),(.ref 324),(.builtin "function.__dict__"),(.builtin "function.__dict__#set")]⟩),⟨[]⟩⟩
noncomputable def o326:M:=fun P=>⟨(.type "getset_descriptor"),none,(.fields ⟨[(sv "__weakref__" 776),(.ref 324),(.builtin "ExceptionGroup.__weakref__"),.none]⟩),⟨[]⟩⟩
noncomputable def o327:M:=fun P=>⟨(.type "super"),none,(.fields ⟨[(.ref 324),(.ref 324),(.ref 324)]⟩),⟨[]⟩⟩
def o328:=bm [(.builtin "object.__init_subclass__"),(.ref 324)]
def o329:=tn
def o330:=fn
def o331:=tw 784 ["heap","kind","slots","thing"]
def o332:=tn
def o333:=fv "heap_alloc" (at1 82)
def o334:=ca "heap_alloc" "heap_alloc" 781 317 3 788 334
def o335:=fu "heap_alloc" (at1 82) m4 335
def o336:=tn
def o337:=fn
def o338:=tw 794 ["heap","word","exact","low","high","middle","thing"]
def o339:=tn
def o340:=fv "find_thing" (at1 83)
def o341:=ca "find_thing" "find_thing" 791 326 2 801 341
def o342:=fu "find_thing" (at1 83) m4 342
def o343:=tn
def o344:=fn
def o345:=tw 807 ["thing","slot"]
def o346:=tn
def o347:=fv "slot_word" (at1 84)
def o348:=ca "slot_word" "slot_word" 804 344 2 809 348
def o349:=fu "slot_word" (at1 84) m4 349
def o350:=tn
def o351:=fn
def o352:=tw 815 ["thing","word","slot"]
def o353:=tn
def o354:=fv "slot_at" (at1 85)
def o355:=ca "slot_at" "slot_at" 812 346 2 818 355
def o356:=fu "slot_at" (at1 85) m4 356
def o357:=tn
def o358:=fn
def o359:=tw 824 ["heap","word","thing","slot"]
def o360:=tn
def o361:=fv "read_slot" (at1 86)
def o362:=ca "read_slot" "read_slot" 821 351 2 828 362
def o363:=fu "read_slot" (at1 86) m4 363
def o364:=tn
def o365:=fn
def o366:=tw 834 ["value","addr"]
def o367:=tn
def o368:=fv "holds_reference" (at1 87)
def o369:=ca "holds_reference" "holds_reference" 831 359 1 836 369
def o370:=fu "holds_reference" (at1 87) m4 370
def o371:=tn
def o372:=fn
def o373:=tw 842 ["heap","word"]
def o374:=tn
def o375:=fv "card_number" (at1 88)
def o376:=ca "card_number" "card_number" 839 366 2 844 376
def o377:=fu "card_number" (at1 88) m4 377
def o378:=tn
def o379:=fn
def o380:=tw 850 ["heap","thing","slot","value"]
def o381:=tn
def o382:=fv "store_slot" (at1 89)
def o383:=ca "store_slot" "store_slot" 847 368 4 854 383
def o384:=fu "store_slot" (at1 89) m4 384
def o385:=tn
def o386:=fn
def o387:=tw 860 ["heap","word","path","value","thing","slot"]
def o388:=tn
def o389:=fv "write_slot" (at1 90)
def o390:=ca "write_slot" "write_slot" 857 372 4 866 390
def o391:=fu "write_slot" (at1 90) m4 391
def o392:=tn
def o393:=bm [(.builtin "type.__prepare__"),(.type "type")]
def o394:M:=fun P=>dc 5 [kv P "__module__" 881 (sv "framerune.places" 869),kv P "__qualname__" 883 (sv "PlaceHost" 882),ki P "__firstlineno__" 885 385,kr P "__init__" 895 405,kr P "__static_attributes__" 899 406]
def o395:=tn
def o396:M:=fun _=>fl (rX [(387,404)])
def o397:=cb "PlaceHost" "PlaceHost" 876 385 0 879 397
noncomputable def o398:M:=fun P=>⟨(.type "frame"),none,.plain,⟨[(some (.ref 397)),(some (.ref 3)),(some (.ref 394)),none,(some (sv "framerune.places" 869)),none,(some (.ref 0))]⟩⟩
def o399:=tn
def o400:=fn
def o401:=tw 889 ["self","heap","frames","statics"]
def o402:=tn
def o403:=fx "__init__" "PlaceHost.__init__" (at2 93 0)
def o404:=ca "__init__" "PlaceHost.__init__" 886 387 4 893 404
def o405:=fw "__init__" "PlaceHost.__init__" (at2 93 0) m5 405
def o406:=tw 896 ["frames","heap","statics"]
def o407:M:=fun P=>dc 4 [kv P "__module__" 881 (sv "framerune.places" 869),ki P "__firstlineno__" 885 385,kr P "__init__" 895 405,kr P "__static_attributes__" 899 406,kr P "__dict__" 901 409,kr P "__weakref__" 903 410,kv P "__doc__" 904 .none]
noncomputable def o408:M:=fun P=>⟨(.type "type"),none,(.cls ⟨.ofString "PlaceHost",[(.type "object")],[(.ref 408),(.type "object")],407,.ofString "PlaceHost",true,[],[],false,none,false⟩),⟨[none,none,(some (sv "PlaceHost" 874)),(some (sv "PlaceHost" 882)),(some (.builtin "object.__new__")),(some (.bool true))]⟩⟩
noncomputable def o409:M:=fun P=>⟨(.type "getset_descriptor"),none,(.fields ⟨[(sv "__dict__" 900),(.ref 408),(.builtin "function.__dict__"),(.builtin "function.__dict__#set")]⟩),⟨[]⟩⟩
noncomputable def o410:M:=fun P=>⟨(.type "getset_descriptor"),none,(.fields ⟨[(sv "__weakref__" 902),(.ref 408),(.builtin "ExceptionGroup.__weakref__"),.none]⟩),⟨[]⟩⟩
noncomputable def o411:M:=fun P=>⟨(.type "super"),none,(.fields ⟨[(.ref 408),(.ref 408),(.ref 408)]⟩),⟨[]⟩⟩
def o412:=bm [(.builtin "object.__init_subclass__"),(.ref 408)]
def o413:=tn
def o414:=fn
def o415:=tw 910 ["f","i"]
def o416:=tn
def o417:=fv "local_place" (at1 94)
def o418:=ca "local_place" "local_place" 907 391 2 912 418
def o419:=fu "local_place" (at1 94) m5 419
def o420:=tn
def o421:=fn
def o422:=tw 918 ["f","i"]
def o423:=tn
def o424:=fv "arg_place" (at1 95)
def o425:=ca "arg_place" "arg_place" 915 393 2 920 425
def o426:=fu "arg_place" (at1 95) m5 426
def o427:=tn
def o428:=fn
def o429:=tw 926 ["f"]
def o430:=tn
def o431:=fv "keep_place" (at1 96)
def o432:=ca "keep_place" "keep_place" 923 395 1 927 432
def o433:=fu "keep_place" (at1 96) m5 433
def o434:=tn
def o435:=fn
def o436:=tw 933 ["thing","slot"]
def o437:=tn
def o438:=fv "heap_place" (at1 97)
def o439:=ca "heap_place" "heap_place" 930 397 2 935 439
def o440:=fu "heap_place" (at1 97) m5 440
def o441:=tn
def o442:=fn
def o443:=tw 941 ["owner","slot"]
def o444:=tn
def o445:=fv "static_place" (at1 98)
def o446:=ca "static_place" "static_place" 938 399 2 943 446
def o447:=fu "static_place" (at1 98) m5 447
def o448:=tn
def o449:=fn
def o450:=tw 949 ["place","slot"]
def o451:=tn
def o452:=fv "field_place" (at1 99)
def o453:=ca "field_place" "field_place" 946 401 2 951 453
def o454:=fu "field_place" (at1 99) m5 454
def o455:=tn
def o456:=fn
def o457:=tw 957 ["place"]
def o458:=tn
def o459:=fv "path_of" (at1 100)
def o460:=ca "path_of" "path_of" 954 405 1 958 460
def o461:=fu "path_of" (at1 100) m5 461
def o462:=tn
def o463:=fn
def o464:=tw 964 ["ph","place","f"]
def o465:=tn
def o466:=fv "slots_of" (at1 101)
def o467:=ca "slots_of" "slots_of" 961 409 2 967 467
def o468:=fu "slots_of" (at1 101) m5 468
def o469:=tn
def o470:=fn
def o471:=tw 973 ["place"]
def o472:=tn
def o473:=fv "index_of" (at1 102)
def o474:=ca "index_of" "index_of" 970 420 1 974 474
def o475:=fu "index_of" (at1 102) m5 475
def o476:=tn
def o477:=fn
def o478:=tw 980 ["ph","place","slots","i"]
def o479:=tn
def o480:=fv "read_whole" (at1 103)
def o481:=ca "read_whole" "read_whole" 977 424 2 984 481
def o482:=fu "read_whole" (at1 103) m5 482
def o483:=tn
def o484:=fn
def o485:=tw 990 ["ph","place","slot_value"]
def o486:=tn
def o487:=fv "read_place" (at1 104)
def o488:=ca "read_place" "read_place" 987 434 2 993 488
def o489:=fu "read_place" (at1 104) m5 489
def o490:=tn
def o491:=fn
def o492:=tw 999 ["ph","place","value","slot_value","slots"]
def o493:=tn
def o494:=fv "write_place" (at1 105)
def o495:=ca "write_place" "write_place" 996 439 3 1004 495
def o496:=fu "write_place" (at1 105) m5 496
def o497:=tn
def o498:=fn
def o499:=tw 1010 ["place","path","n"]
def o500:=tn
def o501:=fv "start_of" (at1 106)
def o502:=ca "start_of" "start_of" 1007 448 1 1013 502
def o503:=fu "start_of" (at1 106) m5 503
def o504:=tn
def o505:=fn
def o506:=tw 1019 ["a","b"]
def o507:=tn
def o508:=fv "same_place" (at1 107)
def o509:=ca "same_place" "same_place" 1016 456 2 1021 509
def o510:=fu "same_place" (at1 107) m5 510
noncomputable def o511:M:=fun _=>tp [(.int 0 1033),(.int 0 1034)]
def o512:=tn
def o513:=bm [(.builtin "type.__prepare__"),(.type "type")]
def o514:M:=fun P=>dc 5 [kv P "__module__" 1043 (sv "framerune.mbase" 1024),kv P "__qualname__" 1045 (sv "Frame" 1044),ki P "__firstlineno__" 1047 463,kr P "__init__" 1059 525,kr P "__static_attributes__" 1075 526]
def o515:=tn
def o516:M:=fun _=>fl (rX [(465,524)])
def o517:=cb "Frame" "Frame" 1038 463 0 1041 517
noncomputable def o518:M:=fun P=>⟨(.type "frame"),none,.plain,⟨[(some (.ref 517)),(some (.ref 3)),(some (.ref 514)),none,(some (sv "framerune.mbase" 1024)),none,(some (.ref 0))]⟩⟩
def o519:=tn
def o520:=fn
def o521:=tw 1051 ["self","number","mref","body","args","sort"]
def o522:=tn
def o523:=fx "__init__" "Frame.__init__" (at2 113 0)
def o524:=ca "__init__" "Frame.__init__" 1048 465 6 1057 524
def o525:=fw "__init__" "Frame.__init__" (at2 113 0) m6 525
def o526:=tw 1060 ["args","body","caught","caughtv","conts","extra","home","ip","keep","locals_","mref","number","prefix","sort","stack"]
def o527:M:=fun P=>dc 4 [kv P "__module__" 1043 (sv "framerune.mbase" 1024),ki P "__firstlineno__" 1047 463,kr P "__init__" 1059 525,kr P "__static_attributes__" 1075 526,kr P "__dict__" 1077 529,kr P "__weakref__" 1079 530,kv P "__doc__" 1080 .none]
noncomputable def o528:M:=fun P=>⟨(.type "type"),none,(.cls ⟨.ofString "Frame",[(.type "object")],[(.ref 528),(.type "object")],527,.ofString "Frame",true,[],[],false,none,false⟩),⟨[none,none,(some (sv "Frame" 1036)),(some (sv "Frame" 1044)),(some (.builtin "object.__new__")),(some (.bool true))]⟩⟩
noncomputable def o529:M:=fun P=>⟨(.type "getset_descriptor"),none,(.fields ⟨[(sv "__dict__" 1076),(.ref 528),(.builtin "function.__dict__"),(.builtin "function.__dict__#set")]⟩),⟨[]⟩⟩
noncomputable def o530:M:=fun P=>⟨(.type "getset_descriptor"),none,(.fields ⟨[(sv "__weakref__" 1078),(.ref 528),(.builtin "ExceptionGroup.__weakref__"),.none]⟩),⟨[]⟩⟩
noncomputable def o531:M:=fun P=>⟨(.type "super"),none,(.fields ⟨[(.ref 528),(.ref 528),(.ref 528)]⟩),⟨[]⟩⟩
def o532:=bm [(.builtin "object.__init_subclass__"),(.ref 528)]
def o533:=tn
def o534:=bm [(.builtin "type.__prepare__"),(.type "type")]
def o535:M:=fun P=>dc 7 [kv P "__module__" 1090 (sv "framerune.mbase" 1024),kv P "__qualname__" 1092 (sv "Starter" 1091),ki P "__firstlineno__" 1094 481,kr P "need" 1104 546,kr P "done" 1113 553,kr P "failed" 1123 560,kr P "__static_attributes__" 1124 561]
def o536:=tn
def o537:M:=fun _=>fl (rX [(483,545),(486,552),(489,559)])
def o538:=cb "Starter" "Starter" 1085 481 0 1088 538
noncomputable def o539:M:=fun P=>⟨(.type "frame"),none,.plain,⟨[(some (.ref 538)),(some (.ref 3)),(some (.ref 535)),none,(some (sv "framerune.mbase" 1024)),none,(some (.ref 0))]⟩⟩
def o540:=tn
def o541:=fn
def o542:=tw 1098 ["self","m","kind","why"]
def o543:=tn
def o544:=fx "need" "Starter.need" (at2 114 0)
def o545:=ca "need" "Starter.need" 1095 483 4 1102 545
def o546:=fw "need" "Starter.need" (at2 114 0) m6 546
def o547:=tn
def o548:=fn
def o549:=tw 1108 ["self","m","kind"]
def o550:=tn
def o551:=fx "done" "Starter.done" (at2 114 1)
def o552:=ca "done" "Starter.done" 1105 486 3 1111 552
def o553:=fw "done" "Starter.done" (at2 114 1) m6 553
def o554:=tn
def o555:=fn
def o556:=tw 1117 ["self","m","kind","addr"]
def o557:=tn
def o558:=fx "failed" "Starter.failed" (at2 114 2)
def o559:=ca "failed" "Starter.failed" 1114 489 4 1121 559
def o560:=fw "failed" "Starter.failed" (at2 114 2) m6 560
def o561:=tn
def o562:M:=fun P=>dc 4 [kv P "__module__" 1090 (sv "framerune.mbase" 1024),ki P "__firstlineno__" 1094 481,kr P "need" 1104 546,kr P "done" 1113 553,kr P "failed" 1123 560,kr P "__static_attributes__" 1124 561,kr P "__dict__" 1126 564,kr P "__weakref__" 1128 565,kv P "__doc__" 1129 .none]
noncomputable def o563:M:=fun P=>⟨(.type "type"),none,(.cls ⟨.ofString "Starter",[(.type "object")],[(.ref 563),(.type "object")],562,.ofString "Starter",true,[],[],false,none,false⟩),⟨[none,none,(some (sv "Starter" 1083)),(some (sv "Starter" 1091)),(some (.builtin "object.__new__")),(some (.bool true))]⟩⟩
noncomputable def o564:M:=fun P=>⟨(.type "getset_descriptor"),none,(.fields ⟨[(sv "__dict__" 1125),(.ref 563),(.builtin "function.__dict__"),(.builtin "function.__dict__#set")]⟩),⟨[]⟩⟩
noncomputable def o565:M:=fun P=>⟨(.type "getset_descriptor"),none,(.fields ⟨[(sv "__weakref__" 1127),(.ref 563),(.builtin "ExceptionGroup.__weakref__"),.none]⟩),⟨[]⟩⟩
noncomputable def o566:M:=fun P=>⟨(.type "super"),none,(.fields ⟨[(.ref 563),(.ref 563),(.ref 563)]⟩),⟨[]⟩⟩
def o567:=bm [(.builtin "object.__init_subclass__"),(.ref 563)]
def o568:=tn
def o569:=bm [(.builtin "type.__prepare__"),(.type "type")]
def o570:M:=fun P=>dc 6 [kv P "__module__" 1139 (sv "framerune.mbase" 1024),kv P "__qualname__" 1141 (sv "KindCloser" 1140),ki P "__firstlineno__" 1143 491,kr P "kind" 1153 581,kr P "ref" 1163 588,kr P "__static_attributes__" 1164 589]
def o571:=tn
def o572:M:=fun _=>fl (rX [(493,580),(496,587)])
def o573:=cb "KindCloser" "KindCloser" 1134 491 0 1137 573
noncomputable def o574:M:=fun P=>⟨(.type "frame"),none,.plain,⟨[(some (.ref 573)),(some (.ref 3)),(some (.ref 570)),none,(some (sv "framerune.mbase" 1024)),none,(some (.ref 0))]⟩⟩
def o575:=tn
def o576:=fn
def o577:=tw 1147 ["self","m","f","k"]
def o578:=tn
def o579:=fx "kind" "KindCloser.kind" (at2 115 0)
def o580:=ca "kind" "KindCloser.kind" 1144 493 4 1151 580
def o581:=fw "kind" "KindCloser.kind" (at2 115 0) m6 581
def o582:=tn
def o583:=fn
def o584:=tw 1157 ["self","m","f","fref"]
def o585:=tn
def o586:=fx "ref" "KindCloser.ref" (at2 115 1)
def o587:=ca "ref" "KindCloser.ref" 1154 496 4 1161 587
def o588:=fw "ref" "KindCloser.ref" (at2 115 1) m6 588
def o589:=tn
def o590:M:=fun P=>dc 4 [kv P "__module__" 1139 (sv "framerune.mbase" 1024),ki P "__firstlineno__" 1143 491,kr P "kind" 1153 581,kr P "ref" 1163 588,kr P "__static_attributes__" 1164 589,kr P "__dict__" 1166 592,kr P "__weakref__" 1168 593,kv P "__doc__" 1169 .none]
noncomputable def o591:M:=fun P=>⟨(.type "type"),none,(.cls ⟨.ofString "KindCloser",[(.type "object")],[(.ref 591),(.type "object")],590,.ofString "KindCloser",true,[],[],false,none,false⟩),⟨[none,none,(some (sv "KindCloser" 1132)),(some (sv "KindCloser" 1140)),(some (.builtin "object.__new__")),(some (.bool true))]⟩⟩
noncomputable def o592:M:=fun P=>⟨(.type "getset_descriptor"),none,(.fields ⟨[(sv "__dict__" 1165),(.ref 591),(.builtin "function.__dict__"),(.builtin "function.__dict__#set")]⟩),⟨[]⟩⟩
noncomputable def o593:M:=fun P=>⟨(.type "getset_descriptor"),none,(.fields ⟨[(sv "__weakref__" 1167),(.ref 591),(.builtin "ExceptionGroup.__weakref__"),.none]⟩),⟨[]⟩⟩
noncomputable def o594:M:=fun P=>⟨(.type "super"),none,(.fields ⟨[(.ref 591),(.ref 591),(.ref 591)]⟩),⟨[]⟩⟩
def o595:=bm [(.builtin "object.__init_subclass__"),(.ref 591)]
def o596:=tn
def o597:=bm [(.builtin "type.__prepare__"),(.type "type")]
def o598:M:=fun P=>dc 20 [kv P "__module__" 1179 (sv "framerune.mbase" 1024),kv P "__qualname__" 1181 (sv "Tray" 1180),ki P "__firstlineno__" 1183 498,kr P "__init__" 1192 609,kr P "is_a" 1201 616,kr P "slots_of" 1209 623,kr P "kinds_of" 1217 630,kr P "skinds_of" 1225 637,kr P "slot_place" 1233 644,kr P "target" 1242 651,kr P "default" 1250 658,kr P "plain" 1258 665,kr P "closed" 1267 672,kr P "closed_ref" 1276 679,kr P "alloc" 1285 686,kr P "wrong" 1293 693,kr P "pop" 1301 700,kr P "throw_new" 1310 707,kr P "push_call" 1320 714,kr P "__static_attributes__" 1342 715]
def o599:=tn
def o600:M:=fun _=>fl (rX [(500,608),(523,615),(526,622),(529,629),(532,636),(535,643),(538,650),(541,657),(544,664),(547,671),(550,678),(553,685),(556,692),(559,699),(562,706),(565,713)])
def o601:=cb "Tray" "Tray" 1174 498 0 1177 601
noncomputable def o602:M:=fun P=>⟨(.type "frame"),none,.plain,⟨[(some (.ref 601)),(some (.ref 3)),(some (.ref 598)),none,(some (sv "framerune.mbase" 1024)),none,(some (.ref 0))]⟩⟩
def o603:=tn
def o604:=fn
def o605:=tw 1187 ["self","store","heap"]
def o606:=tn
def o607:=fx "__init__" "Tray.__init__" (at2 116 0)
def o608:=ca "__init__" "Tray.__init__" 1184 500 3 1190 608
def o609:=fw "__init__" "Tray.__init__" (at2 116 0) m6 609
def o610:=tn
def o611:=fn
def o612:=tw 1196 ["self","exact","k"]
def o613:=tn
def o614:=fx "is_a" "Tray.is_a" (at2 116 1)
def o615:=ca "is_a" "Tray.is_a" 1193 523 3 1199 615
def o616:=fw "is_a" "Tray.is_a" (at2 116 1) m6 616
def o617:=tn
def o618:=fn
def o619:=tw 1205 ["self","k"]
def o620:=tn
def o621:=fx "slots_of" "Tray.slots_of" (at2 116 2)
def o622:=ca "slots_of" "Tray.slots_of" 1202 526 2 1207 622
def o623:=fw "slots_of" "Tray.slots_of" (at2 116 2) m6 623
def o624:=tn
def o625:=fn
def o626:=tw 1213 ["self","k"]
def o627:=tn
def o628:=fx "kinds_of" "Tray.kinds_of" (at2 116 3)
def o629:=ca "kinds_of" "Tray.kinds_of" 1210 529 2 1215 629
def o630:=fw "kinds_of" "Tray.kinds_of" (at2 116 3) m6 630
def o631:=tn
def o632:=fn
def o633:=tw 1221 ["self","k"]
def o634:=tn
def o635:=fx "skinds_of" "Tray.skinds_of" (at2 116 4)
def o636:=ca "skinds_of" "Tray.skinds_of" 1218 532 2 1223 636
def o637:=fw "skinds_of" "Tray.skinds_of" (at2 116 4) m6 637
def o638:=tn
def o639:=fn
def o640:=tw 1229 ["self","fref"]
def o641:=tn
def o642:=fx "slot_place" "Tray.slot_place" (at2 116 5)
def o643:=ca "slot_place" "Tray.slot_place" 1226 535 2 1231 643
def o644:=fw "slot_place" "Tray.slot_place" (at2 116 5) m6 644
def o645:=tn
def o646:=fn
def o647:=tw 1237 ["self","exact","mref"]
def o648:=tn
def o649:=fx "target" "Tray.target" (at2 116 6)
def o650:=ca "target" "Tray.target" 1234 538 3 1240 650
def o651:=fw "target" "Tray.target" (at2 116 6) m6 651
def o652:=tn
def o653:=fn
def o654:=tw 1246 ["self","k"]
def o655:=tn
def o656:=fx "default" "Tray.default" (at2 116 7)
def o657:=ca "default" "Tray.default" 1243 541 2 1248 657
def o658:=fw "default" "Tray.default" (at2 116 7) m6 658
def o659:=tn
def o660:=fn
def o661:=tw 1254 ["self","k"]
def o662:=tn
def o663:=fx "plain" "Tray.plain" (at2 116 8)
def o664:=ca "plain" "Tray.plain" 1251 544 2 1256 664
def o665:=fw "plain" "Tray.plain" (at2 116 8) m6 665
def o666:=tn
def o667:=fn
def o668:=tw 1262 ["self","f","k"]
def o669:=tn
def o670:=fx "closed" "Tray.closed" (at2 116 9)
def o671:=ca "closed" "Tray.closed" 1259 547 3 1265 671
def o672:=fw "closed" "Tray.closed" (at2 116 9) m6 672
def o673:=tn
def o674:=fn
def o675:=tw 1271 ["self","f","fref"]
def o676:=tn
def o677:=fx "closed_ref" "Tray.closed_ref" (at2 116 10)
def o678:=ca "closed_ref" "Tray.closed_ref" 1268 550 3 1274 678
def o679:=fw "closed_ref" "Tray.closed_ref" (at2 116 10) m6 679
def o680:=tn
def o681:=fn
def o682:=tw 1280 ["self","kind","count"]
def o683:=tn
def o684:=fx "alloc" "Tray.alloc" (at2 116 11)
def o685:=ca "alloc" "Tray.alloc" 1277 553 3 1283 685
def o686:=fw "alloc" "Tray.alloc" (at2 116 11) m6 686
def o687:=tn
def o688:=fn
def o689:=tw 1289 ["self","code"]
def o690:=tn
def o691:=fx "wrong" "Tray.wrong" (at2 116 12)
def o692:=ca "wrong" "Tray.wrong" 1286 556 2 1291 692
def o693:=fw "wrong" "Tray.wrong" (at2 116 12) m6 693
def o694:=tn
def o695:=fn
def o696:=tw 1297 ["self","f"]
def o697:=tn
def o698:=fx "pop" "Tray.pop" (at2 116 13)
def o699:=ca "pop" "Tray.pop" 1294 559 2 1299 699
def o700:=fw "pop" "Tray.pop" (at2 116 13) m6 700
def o701:=tn
def o702:=fn
def o703:=tw 1305 ["self","tid","text"]
def o704:=tn
def o705:=fx "throw_new" "Tray.throw_new" (at2 116 14)
def o706:=ca "throw_new" "Tray.throw_new" 1302 562 3 1308 706
def o707:=fw "throw_new" "Tray.throw_new" (at2 116 14) m6 707
def o708:=tn
def o709:=fn
def o710:=tw 1314 ["self","mref","args","sort"]
def o711:=tn
def o712:=fx "push_call" "Tray.push_call" (at2 116 15)
def o713:=ca "push_call" "Tray.push_call" 1311 565 4 1318 713
def o714:=fw "push_call" "Tray.push_call" (at2 116 15) m6 714
def o715:=tw 1321 ["by_number","calls","closer","defaults","frames","heap","held","inits","kin","kt","ops","places","rows","starter","state","statics","store","targets","thrown","told","unders"]
def o716:M:=fun P=>dc 4 [kv P "__module__" 1179 (sv "framerune.mbase" 1024),ki P "__firstlineno__" 1183 498,kr P "__init__" 1192 609,kr P "is_a" 1201 616,kr P "slots_of" 1209 623,kr P "kinds_of" 1217 630,kr P "skinds_of" 1225 637,kr P "slot_place" 1233 644,kr P "target" 1242 651,kr P "default" 1250 658,kr P "plain" 1258 665,kr P "closed" 1267 672,kr P "closed_ref" 1276 679,kr P "alloc" 1285 686,kr P "wrong" 1293 693,kr P "pop" 1301 700,kr P "throw_new" 1310 707,kr P "push_call" 1320 714,kr P "__static_attributes__" 1342 715,kr P "__dict__" 1344 718,kr P "__weakref__" 1346 719,kv P "__doc__" 1347 .none]
noncomputable def o717:M:=fun P=>⟨(.type "type"),none,(.cls ⟨.ofString "Tray",[(.type "object")],[(.ref 717),(.type "object")],716,.ofString "Tray",true,[],[],false,none,false⟩),⟨[none,none,(some (sv "Tray" 1172)),(some (sv "Tray" 1180)),(some (.builtin "object.__new__")),(some (.bool true))]⟩⟩
noncomputable def o718:M:=fun P=>⟨(.type "getset_descriptor"),none,(.fields ⟨[(sv "__dict__" 1343),(.ref 717),(.builtin "function.__dict__"),(.builtin "function.__dict__#set")]⟩),⟨[]⟩⟩
noncomputable def o719:M:=fun P=>⟨(.type "getset_descriptor"),none,(.fields ⟨[(sv "__weakref__" 1345),(.ref 717),(.builtin "ExceptionGroup.__weakref__"),.none]⟩),⟨[]⟩⟩
noncomputable def o720:M:=fun P=>⟨(.type "super"),none,(.fields ⟨[(.ref 717),(.ref 717),(.ref 717)]⟩),⟨[]⟩⟩
def o721:=bm [(.builtin "object.__init_subclass__"),(.ref 717)]
def o722:=tn
def o723:=fn
def o724:=tw 1353 ["m","k","row"]
def o725:=tn
def o726:=fv "told_row" (at1 117)
def o727:=ca "told_row" "told_row" 1350 567 2 1356 727
def o728:=fu "told_row" (at1 117) m6 728
def o729:=tn
def o730:=fn
def o731:=tw 1362 ["m","code","mid","ip","f"]
def o732:=tn
def o733:=fv "tell_wrong" (at1 118)
def o734:=ca "tell_wrong" "tell_wrong" 1359 572 2 1367 734
def o735:=fu "tell_wrong" (at1 118) m6 735
def o736:=tn
def o737:=fn
def o738:=tw 1373 ["m","f"]
def o739:=tn
def o740:=fv "pop_value" (at1 119)
def o741:=ca "pop_value" "pop_value" 1370 583 2 1375 741
def o742:=fu "pop_value" (at1 119) m6 742
def o743:=tn
def o744:=bm [(.builtin "type.__prepare__"),(.type "type")]
def o745:M:=fun P=>dc 5 [kv P "__module__" 1389 (sv "framerune.store" 1378),kv P "__qualname__" 1391 (sv "MethodDef" 1390),ki P "__firstlineno__" 1393 590,kr P "__init__" 1407 756,kr P "__static_attributes__" 1422 757]
def o746:=tn
def o747:M:=fun _=>fl (rX [(592,755)])
def o748:=cb "MethodDef" "MethodDef" 1384 590 0 1387 748
noncomputable def o749:M:=fun P=>⟨(.type "frame"),none,.plain,⟨[(some (.ref 748)),(some (.ref 3)),(some (.ref 745)),none,(some (sv "framerune.store" 1378)),none,(some (.ref 0))]⟩⟩
def o750:=tn
def o751:=fn
def o752:=tw 1397 ["self","mid","owner","name","access","flags","ret","params"]
def o753:=tn
def o754:=fx "__init__" "MethodDef.__init__" (at2 122 0)
def o755:=ca "__init__" "MethodDef.__init__" 1394 592 8 1405 755
def o756:=fw "__init__" "MethodDef.__init__" (at2 122 0) m7 756
def o757:=tw 1408 ["access","body","flags","gbounds","gnames","mid","name","native","ngen","owner","params","pflags","pnames","ret"]
def o758:M:=fun P=>dc 4 [kv P "__module__" 1389 (sv "framerune.store" 1378),ki P "__firstlineno__" 1393 590,kr P "__init__" 1407 756,kr P "__static_attributes__" 1422 757,kr P "__dict__" 1424 760,kr P "__weakref__" 1426 761,kv P "__doc__" 1427 .none]
noncomputable def o759:M:=fun P=>⟨(.type "type"),none,(.cls ⟨.ofString "MethodDef",[(.type "object")],[(.ref 759),(.type "object")],758,.ofString "MethodDef",true,[],[],false,none,false⟩),⟨[none,none,(some (sv "MethodDef" 1382)),(some (sv "MethodDef" 1390)),(some (.builtin "object.__new__")),(some (.bool true))]⟩⟩
noncomputable def o760:M:=fun P=>⟨(.type "getset_descriptor"),none,(.fields ⟨[(sv "__dict__" 1423),(.ref 759),(.builtin "function.__dict__"),(.builtin "function.__dict__#set")]⟩),⟨[]⟩⟩
noncomputable def o761:M:=fun P=>⟨(.type "getset_descriptor"),none,(.fields ⟨[(sv "__weakref__" 1425),(.ref 759),(.builtin "ExceptionGroup.__weakref__"),.none]⟩),⟨[]⟩⟩
noncomputable def o762:M:=fun P=>⟨(.type "super"),none,(.fields ⟨[(.ref 759),(.ref 759),(.ref 759)]⟩),⟨[]⟩⟩
def o763:=bm [(.builtin "object.__init_subclass__"),(.ref 759)]
def o764:=tn
def o765:=bm [(.builtin "type.__prepare__"),(.type "type")]
def o766:M:=fun P=>dc 5 [kv P "__module__" 1437 (sv "framerune.store" 1378),kv P "__qualname__" 1439 (sv "Body" 1438),ki P "__firstlineno__" 1441 607,kr P "__init__" 1452 777,kr P "__static_attributes__" 1457 778]
def o767:=tn
def o768:M:=fun _=>fl (rX [(609,776)])
def o769:=cb "Body" "Body" 1432 607 0 1435 769
noncomputable def o770:M:=fun P=>⟨(.type "frame"),none,.plain,⟨[(some (.ref 769)),(some (.ref 3)),(some (.ref 766)),none,(some (sv "framerune.store" 1378)),none,(some (.ref 0))]⟩⟩
def o771:=tn
def o772:=fn
def o773:=tw 1445 ["self","locals_","maxstack","code","clauses"]
def o774:=tn
def o775:=fx "__init__" "Body.__init__" (at2 123 0)
def o776:=ca "__init__" "Body.__init__" 1442 609 5 1450 776
def o777:=fw "__init__" "Body.__init__" (at2 123 0) m7 777
def o778:=tw 1453 ["clauses","code","locals_","maxstack"]
def o779:M:=fun P=>dc 4 [kv P "__module__" 1437 (sv "framerune.store" 1378),ki P "__firstlineno__" 1441 607,kr P "__init__" 1452 777,kr P "__static_attributes__" 1457 778,kr P "__dict__" 1459 781,kr P "__weakref__" 1461 782,kv P "__doc__" 1462 .none]
noncomputable def o780:M:=fun P=>⟨(.type "type"),none,(.cls ⟨.ofString "Body",[(.type "object")],[(.ref 780),(.type "object")],779,.ofString "Body",true,[],[],false,none,false⟩),⟨[none,none,(some (sv "Body" 1430)),(some (sv "Body" 1438)),(some (.builtin "object.__new__")),(some (.bool true))]⟩⟩
noncomputable def o781:M:=fun P=>⟨(.type "getset_descriptor"),none,(.fields ⟨[(sv "__dict__" 1458),(.ref 780),(.builtin "function.__dict__"),(.builtin "function.__dict__#set")]⟩),⟨[]⟩⟩
noncomputable def o782:M:=fun P=>⟨(.type "getset_descriptor"),none,(.fields ⟨[(sv "__weakref__" 1460),(.ref 780),(.builtin "ExceptionGroup.__weakref__"),.none]⟩),⟨[]⟩⟩
noncomputable def o783:M:=fun P=>⟨(.type "super"),none,(.fields ⟨[(.ref 780),(.ref 780),(.ref 780)]⟩),⟨[]⟩⟩
def o784:=bm [(.builtin "object.__init_subclass__"),(.ref 780)]
def o785:=tn
def o786:=bm [(.builtin "type.__prepare__"),(.type "type")]
def o787:M:=fun P=>dc 5 [kv P "__module__" 1472 (sv "framerune.store" 1378),kv P "__qualname__" 1474 (sv "Store" 1473),ki P "__firstlineno__" 1476 614,kr P "__init__" 1483 798,kr P "__static_attributes__" 1491 799]
def o788:=tn
def o789:M:=fun _=>fl (rX [(616,797)])
def o790:=cb "Store" "Store" 1467 614 0 1470 790
noncomputable def o791:M:=fun P=>⟨(.type "frame"),none,.plain,⟨[(some (.ref 790)),(some (.ref 3)),(some (.ref 787)),none,(some (sv "framerune.store" 1378)),none,(some (.ref 0))]⟩⟩
def o792:=tn
def o793:=fn
def o794:=tw 1480 ["self"]
def o795:=tn
def o796:=fx "__init__" "Store.__init__" (at2 124 0)
def o797:=ca "__init__" "Store.__init__" 1477 616 1 1481 797
def o798:=fw "__init__" "Store.__init__" (at2 124 0) m7 798
def o799:=tw 1484 ["asms","entry","fields_","kt","methods","names","types"]
def o800:M:=fun P=>dc 4 [kv P "__module__" 1472 (sv "framerune.store" 1378),ki P "__firstlineno__" 1476 614,kr P "__init__" 1483 798,kr P "__static_attributes__" 1491 799,kr P "__dict__" 1493 802,kr P "__weakref__" 1495 803,kv P "__doc__" 1496 .none]
noncomputable def o801:M:=fun P=>⟨(.type "type"),none,(.cls ⟨.ofString "Store",[(.type "object")],[(.ref 801),(.type "object")],800,.ofString "Store",true,[],[],false,none,false⟩),⟨[none,none,(some (sv "Store" 1465)),(some (sv "Store" 1473)),(some (.builtin "object.__new__")),(some (.bool true))]⟩⟩
noncomputable def o802:M:=fun P=>⟨(.type "getset_descriptor"),none,(.fields ⟨[(sv "__dict__" 1492),(.ref 801),(.builtin "function.__dict__"),(.builtin "function.__dict__#set")]⟩),⟨[]⟩⟩
noncomputable def o803:M:=fun P=>⟨(.type "getset_descriptor"),none,(.fields ⟨[(sv "__weakref__" 1494),(.ref 801),(.builtin "ExceptionGroup.__weakref__"),.none]⟩),⟨[]⟩⟩
noncomputable def o804:M:=fun P=>⟨(.type "super"),none,(.fields ⟨[(.ref 801),(.ref 801),(.ref 801)]⟩),⟨[]⟩⟩
def o805:=bm [(.builtin "object.__init_subclass__"),(.ref 801)]
def o806:=tn
def o807:=fn
def o808:=tw 1502 ["count","out","place"]
def o809:=tn
def o810:=fv "plain_names" (at1 125)
def o811:=ca "plain_names" "plain_names" 1499 624 1 1505 811
def o812:=fu "plain_names" (at1 125) m7 812
def o813:=tn
def o814:=fn
def o815:=tw 1511 ["store","mref","m","targs"]
def o816:=tn
def o817:=fv "method_sig" (at1 126)
def o818:=ca "method_sig" "method_sig" 1508 629 2 1515 818
def o819:=fu "method_sig" (at1 126) m7 819
def o820:=tn
def o821:=fn
def o822:=tw 1521 ["m"]
def o823:=tn
def o824:=fv "is_static" (at1 127)
def o825:=ca "is_static" "is_static" 1518 637 1 1522 825
def o826:=fu "is_static" (at1 127) m7 826
def o827:=tn
def o828:=fn
def o829:=tw 1530 ["m","f","i","md"]
def o830:=tn
def o831:=fv "arg_kind" (at1 129)
def o832:=ca "arg_kind" "arg_kind" 1527 640 3 1534 832
def o833:=fu "arg_kind" (at1 129) m8 833
def o834:=tn
def o835:=fn
def o836:=tw 1542 ["ks","i"]
def o837:=tn
def o838:=fv "item_kind" (at1 131)
def o839:=ca "item_kind" "item_kind" 1539 650 2 1544 839
def o840:=fu "item_kind" (at1 131) m9 840
def o841:=tn
def o842:=fn
def o843:=tw 1550 ["m","word","thing"]
def o844:=tn
def o845:=fv "heap_kind" (at1 132)
def o846:=ca "heap_kind" "heap_kind" 1547 654 2 1553 846
def o847:=fu "heap_kind" (at1 132) m9 847
def o848:=tn
def o849:=fn
def o850:=tw 1559 ["m","place","f","k"]
def o851:=tn
def o852:=fv "whole_kind" (at1 133)
def o853:=ca "whole_kind" "whole_kind" 1556 663 2 1563 853
def o854:=fu "whole_kind" (at1 133) m9 854
def o855:=tn
def o856:=fn
def o857:=tw 1569 ["m","place","k","path","slot"]
def o858:=tn
def o859:=fv "place_kind" (at1 134)
def o860:=ca "place_kind" "place_kind" 1566 681 2 1574 860
def o861:=fu "place_kind" (at1 134) m9 861
noncomputable def o862:M:=fun _=>tp [(.int 0 1579),(.int 16 1580),(.int 20 1581),(.int 24 1582)]
noncomputable def o863:M:=fun _=>tp [(.int 0 1584),(.int 0 1585),(.int 0 1586),(.int 19 1587),(.int 22 1588),(.int 23 1589),(.int 26 1590),(.int 0 1591)]
noncomputable def o864:M:=fun _=>tp [(.int 2 1593),(.int 2 1594),(.int 2 1595)]
noncomputable def o865:M:=fun _=>tp [(.int 0 1596),(.int 0 1597),(.int 0 1598)]
noncomputable def o866:M:=fun _=>tp [(.int 1 1599),(.int 0 1600),(.int 0 1601)]
noncomputable def o867:M:=fun _=>tp [(.int 1 1602),(.int 1 1603),(.int 0 1604)]
noncomputable def o868:M:=fun _=>tp [(.int 1 1605),(.int 1 1606),(.int 1 1607)]
noncomputable def o869:M:=fun _=>tp [(.int 2 1608),(.int 0 1609),(.int 0 1610)]
noncomputable def o870:M:=fun _=>tp [(.int 2 1611),(.int 1 1612),(.int 0 1613)]
noncomputable def o871:M:=fun _=>tp [(.int 2 1614),(.int 2 1615),(.int 1 1616)]
noncomputable def o872:M:=fun _=>tp [(.ref 864),(.ref 865),(.ref 866),(.ref 867),(.ref 868),(.ref 869),(.ref 870),(.ref 871)]
def o873:=tn
def o874:=fn
def o875:=tw 1621 ["st","count","at"]
def o876:=tn
def o877:=fv "_law_draw" (at1 139)
def o878:=ca "_law_draw" "_law_draw" 1618 697 2 1624 878
def o879:=fu "_law_draw" (at1 139) jj 879
def o880:=tn
def o881:=fn
def o882:=fv "_law_shapes" (at1 140)
def o883:=cc "_law_shapes" "_law_shapes" 1627 703 3 1630 883
def o884:=fu "_law_shapes" (at1 140) jj 884
def o885:=tn
def o886:=fn
def o887:=tw 1636 ["tower","shapes","spots","kind","found","i","k","path","far"]
def o888:=tn
def o889:=fv "_law_spots" (at1 141)
def o890:=ca "_law_spots" "_law_spots" 1633 723 2 1645 890
def o891:=fu "_law_spots" (at1 141) jj 891
def o892:=tn
def o893:=fn
def o894:=tw 1651 ["w","kind"]
def o895:=tn
def o896:=fv "_law_within" (at1 142)
def o897:=ca "_law_within" "_law_within" 1648 733 2 1653 897
def o898:=fu "_law_within" (at1 142) jj 898
def o899:=tn
def o900:=fn
def o901:=fv "_law_made" (at1 143)
def o902:=cc "_law_made" "_law_made" 1656 735 3 1659 902
def o903:=fu "_law_made" (at1 143) jj 903
def o904:=tn
def o905:=fn
def o906:=tw 1665 ["w","root","path","kind","value","way","k","piece","slot"]
def o907:=tn
def o908:=fv "_law_put" (at1 144)
def o909:=ca "_law_put" "_law_put" 1662 742 5 1674 909
def o910:=fu "_law_put" (at1 144) jj 910
def o911:=tn
def o912:=fn
def o913:=fv "_law_show" (at1 145)
def o914:=cc "_law_show" "_law_show" 1677 749 4 1680 914
def o915:=fu "_law_show" (at1 145) jj 915
def o916:=tn
def o917:=fn
def o918:=tw 1686 ["w","root","path","kind","out","way","k","addr"]
def o919:=tn
def o920:=fv "_law_refs" (at1 146)
def o921:=ca "_law_refs" "_law_refs" 1683 754 4 1694 921
def o922:=fu "_law_refs" (at1 146) jj 922
def o923:=tn
def o924:=fn
def o925:=tw 1700 ["w","root","path","place","slot"]
def o926:=tn
def o927:=fv "_law_place" (at1 147)
def o928:=ca "_law_place" "_law_place" 1697 762 3 1705 928
def o929:=fu "_law_place" (at1 147) jj 929
def o930:=tn
def o931:=fn
def o932:=tw 1711 ["w","root","path","kind","value","got"]
def o933:=tn
def o934:=fv "_law_write" (at1 148)
def o935:=ca "_law_write" "_law_write" 1708 767 5 1717 935
def o936:=fu "_law_write" (at1 148) jj 936
def o937:=tn
def o938:=fn
def o939:=tw 1723 ["w","root","path","kind","place","value"]
def o940:=tn
def o941:=fv "_law_read" (at1 149)
def o942:=ca "_law_read" "_law_read" 1720 773 4 1729 942
def o943:=fu "_law_read" (at1 149) jj 943
def o944:=tn
def o945:=fn
def o946:=tw 1735 ["w","place","got"]
def o947:=tn
def o948:=fv "_law_nowhere" (at1 150)
def o949:=ca "_law_nowhere" "_law_nowhere" 1732 781 2 1738 949
def o950:=fu "_law_nowhere" (at1 150) jj 950
def o951:=tn
def o952:=fn
def o953:=tw 1744 ["w","root","path","z","kind","i","slot"]
def o954:=tn
def o955:=fv "_law_astray" (at1 151)
def o956:=ca "_law_astray" "_law_astray" 1741 787 4 1751 956
def o957:=fu "_law_astray" (at1 151) jj 957
def o958:=tn
def o959:=fn
def o960:=tw 1757 ["value","way","new","row"]
def o961:=tn
def o962:=fv "_law_turned" (at1 152)
def o963:=ca "_law_turned" "_law_turned" 1754 798 3 1761 963
def o964:=fu "_law_turned" (at1 152) jj 964
def o965:=tn
def o966:=fn
def o967:=tw 1767 ["w","st","root","path","kind","value","lies","way","k","new"]
def o968:=tn
def o969:=fv "_law_apart" (at1 153)
def o970:=ca "_law_apart" "_law_apart" 1764 804 5 1777 970
def o971:=fu "_law_apart" (at1 153) jj 971
def o972:=tn
def o973:=fn
def o974:=fv "_law_copy" (at1 154)
def o975:=cc "_law_copy" "_law_copy" 1780 816 5 1783 975
def o976:=fu "_law_copy" (at1 154) jj 976
def o977:=tn
def o978:=fn
def o979:=tw 1789 ["w","path","kind"]
def o980:=tn
def o981:=fv "_law_first" (at1 155)
def o982:=ca "_law_first" "_law_first" 1786 824 3 1792 982
def o983:=fu "_law_first" (at1 155) jj 983
def o984:=tn
def o985:=fn
def o986:=tw 1798 ["w","st","root","path","kind","goal","lies","way","k","got","want"]
def o987:=tn
def o988:=fv "_law_compare" (at1 156)
def o989:=ca "_law_compare" "_law_compare" 1795 829 5 1809 989
def o990:=fu "_law_compare" (at1 156) jj 990
def o991:=tn
def o992:=fn
def o993:=tw 1815 ["w","st","root","lies","path","kind","sort"]
def o994:=tn
def o995:=fv "_law_deed" (at1 157)
def o996:=ca "_law_deed" "_law_deed" 1812 838 2 1822 996
def o997:=fu "_law_deed" (at1 157) jj 997
def o998:=tn
def o999:=fn
def o1000:=fv "_law_world" (at1 158)
def o1001:=cc "_law_world" "_law_world" 1825 854 1 1828 1001
def o1002:=fu "_law_world" (at1 158) jj 1002
def o1003:=tn
def o1004:=fn
def o1005:=tw 1834 ["w","kind","best","spot"]
def o1006:=tn
def o1007:=fv "_law_deepest" (at1 159)
def o1008:=ca "_law_deepest" "_law_deepest" 1831 893 2 1838 1008
def o1009:=fu "_law_deepest" (at1 159) jj 1009
def o1010:=tn
def o1011:=fn
def o1012:=tw 1844 ["value"]
def o1013:=tn
def o1014:=fv "_law_other" (at1 160)
def o1015:=ca "_law_other" "_law_other" 1841 899 1 1845 1015
def o1016:=fu "_law_other" (at1 160) jj 1016
def o1017:=tn
def o1018:=fn
def o1019:=tw 1851 ["w","root","path","kind"]
def o1020:=tn
def o1021:=fv "_law_bottoms" (at1 161)
def o1022:=ca "_law_bottoms" "_law_bottoms" 1848 903 1 1855 1022
def o1023:=fu "_law_bottoms" (at1 161) jj 1023
def o1024:=tn
def o1025:=fn
def o1026:=fv "_law_settled" (at1 162)
def o1027:=cc "_law_settled" "_law_settled" 1858 911 1 1861 1027
def o1028:=fu "_law_settled" (at1 162) jj 1028
def o1029:=tn
def o1030:=fn
def o1031:=tw 1867 ["script","numbers","st","w","turns","root","deepest"]
def o1032:=tn
def o1033:=fv "law" (at1 163)
def o1034:=ca "law" "law" 1864 924 1 1874 1034
def o1035:=fu "law" (at1 163) jj 1035
end
noncomputable def tk{α:Type}(l:List α):Nat→List α:=List.rec (motive:=fun _=>Nat→List α) (fun _=>[]) (fun a _ ih n=>Nat.rec (motive:=fun _=>List α) [] (fun m _=>a::ih m) n) l
noncomputable def dr{α:Type}(l:List α):Nat→List α:=List.rec (motive:=fun _=>Nat→List α) (fun _=>[]) (fun a l ih n=>Nat.rec (motive:=fun _=>List α) (a::l) (fun m _=>ih m) n) l
noncomputable def DQ(i:Nat):Bool:=Bool.rec (Bool.rec (Bool.rec (Nat.beq i 38) true (Nat.beq i 12)) true (Nat.beq i 3)) true (Nat.beq i 2)
noncomputable def js(n:Nat)(ov:Nat→Obj)(t:BT):Nat→Nat→BT:=BT.rec (motive:=fun _=>Nat→Nat→BT) (fun _ _=>.nil)
 (fun v _ _ l r a b=>Bool.rec (motive:=fun _=>BT) .nil (.node (Bool.rec (motive:=fun _=>Obj) v (ov b) (DQ b)) (l (2 * a) (a+b)) (r (2 * a) (2 * a+b))) (Nat.blt b n)) t
noncomputable def dS(a b c d:Obj)(i:Nat):Obj:=Bool.rec (motive:=fun _=>Obj) (Bool.rec (motive:=fun _=>Obj) (Bool.rec (motive:=fun _=>Obj) d c (Nat.beq i 12)) b (Nat.beq i 3)) a (Nat.beq i 2)
noncomputable def v3(P:Params)(v:Value)(m:Nat):Obj:=⟨.type "dict",none,.dict ⟨kv P "__name__" 165 v::tk (e3 P) (m - 1)⟩ m,⟨[]⟩⟩
noncomputable def lf(P:Params)(o:M):BT:=.node (o P) .nil .nil
noncomputable def nd(P:Params)(o:M)(l r:BT):BT:=.node (o P) l r
noncomputable def T(P:Params):BT:=(nd P boot_o_0 (nd P boot_o_1 (nd P o3 (nd P boot_o_7 (nd P o15 (nd P o31 (nd P o63 (nd P o127 (nd P o255 (nd P o511 (lf P o1023) .nil) (lf P o767)) (nd P o383 (lf P o639) (lf P o895))) (nd P o191 (nd P o319 (lf P o575) (lf P o831)) (nd P o447 (lf P o703) (lf P o959)))) (nd P o95 (nd P o159 (nd P o287 (lf P o543) (lf P o799)) (nd P o415 (lf P o671) (lf P o927))) (nd P o223 (nd P o351 (lf P o607) (lf P o863)) (nd P o479 (lf P o735) (lf P o991))))) (nd P o47 (nd P o79 (nd P o143 (nd P o271 (lf P o527) (lf P o783)) (nd P o399 (lf P o655) (lf P o911))) (nd P o207 (nd P o335 (lf P o591) (lf P o847)) (nd P o463 (lf P o719) (lf P o975)))) (nd P o111 (nd P o175 (nd P o303 (lf P o559) (lf P o815)) (nd P o431 (lf P o687) (lf P o943))) (nd P o239 (nd P o367 (lf P o623) (lf P o879)) (nd P o495 (lf P o751) (lf P o1007)))))) (nd P o23 (nd P o39 (nd P o71 (nd P o135 (nd P o263 (nd P o519 (lf P o1031) .nil) (lf P o775)) (nd P o391 (lf P o647) (lf P o903))) (nd P o199 (nd P o327 (lf P o583) (lf P o839)) (nd P o455 (lf P o711) (lf P o967)))) (nd P o103 (nd P o167 (nd P o295 (lf P o551) (lf P o807)) (nd P o423 (lf P o679) (lf P o935))) (nd P o231 (nd P o359 (lf P o615) (lf P o871)) (nd P o487 (lf P o743) (lf P o999))))) (nd P o55 (nd P o87 (nd P o151 (nd P o279 (lf P o535) (lf P o791)) (nd P o407 (lf P o663) (lf P o919))) (nd P o215 (nd P o343 (lf P o599) (lf P o855)) (nd P o471 (lf P o727) (lf P o983)))) (nd P o119 (nd P o183 (nd P o311 (lf P o567) (lf P o823)) (nd P o439 (lf P o695) (lf P o951))) (nd P o247 (nd P o375 (lf P o631) (lf P o887)) (nd P o503 (lf P o759) (lf P o1015))))))) (nd P o11 (nd P o19 (nd P o35 (nd P o67 (nd P o131 (nd P o259 (nd P o515 (lf P o1027) .nil) (lf P o771)) (nd P o387 (lf P o643) (lf P o899))) (nd P o195 (nd P o323 (lf P o579) (lf P o835)) (nd P o451 (lf P o707) (lf P o963)))) (nd P o99 (nd P o163 (nd P o291 (lf P o547) (lf P o803)) (nd P o419 (lf P o675) (lf P o931))) (nd P o227 (nd P o355 (lf P o611) (lf P o867)) (nd P o483 (lf P o739) (lf P o995))))) (nd P o51 (nd P o83 (nd P o147 (nd P o275 (lf P o531) (lf P o787)) (nd P o403 (lf P o659) (lf P o915))) (nd P o211 (nd P o339 (lf P o595) (lf P o851)) (nd P o467 (lf P o723) (lf P o979)))) (nd P o115 (nd P o179 (nd P o307 (lf P o563) (lf P o819)) (nd P o435 (lf P o691) (lf P o947))) (nd P o243 (nd P o371 (lf P o627) (lf P o883)) (nd P o499 (lf P o755) (lf P o1011)))))) (nd P o27 (nd P o43 (nd P o75 (nd P o139 (nd P o267 (nd P o523 (lf P o1035) .nil) (lf P o779)) (nd P o395 (lf P o651) (lf P o907))) (nd P o203 (nd P o331 (lf P o587) (lf P o843)) (nd P o459 (lf P o715) (lf P o971)))) (nd P o107 (nd P o171 (nd P o299 (lf P o555) (lf P o811)) (nd P o427 (lf P o683) (lf P o939))) (nd P o235 (nd P o363 (lf P o619) (lf P o875)) (nd P o491 (lf P o747) (lf P o1003))))) (nd P o59 (nd P o91 (nd P o155 (nd P o283 (lf P o539) (lf P o795)) (nd P o411 (lf P o667) (lf P o923))) (nd P o219 (nd P o347 (lf P o603) (lf P o859)) (nd P o475 (lf P o731) (lf P o987)))) (nd P o123 (nd P o187 (nd P o315 (lf P o571) (lf P o827)) (nd P o443 (lf P o699) (lf P o955))) (nd P o251 (nd P o379 (lf P o635) (lf P o891)) (nd P o507 (lf P o763) (lf P o1019)))))))) (nd P boot_o_5 (nd P boot_o_9 (nd P o17 (nd P o33 (nd P o65 (nd P o129 (nd P o257 (nd P o513 (lf P o1025) .nil) (lf P o769)) (nd P o385 (lf P o641) (lf P o897))) (nd P o193 (nd P o321 (lf P o577) (lf P o833)) (nd P o449 (lf P o705) (lf P o961)))) (nd P o97 (nd P o161 (nd P o289 (lf P o545) (lf P o801)) (nd P o417 (lf P o673) (lf P o929))) (nd P o225 (nd P o353 (lf P o609) (lf P o865)) (nd P o481 (lf P o737) (lf P o993))))) (nd P o49 (nd P o81 (nd P o145 (nd P o273 (lf P o529) (lf P o785)) (nd P o401 (lf P o657) (lf P o913))) (nd P o209 (nd P o337 (lf P o593) (lf P o849)) (nd P o465 (lf P o721) (lf P o977)))) (nd P o113 (nd P o177 (nd P o305 (lf P o561) (lf P o817)) (nd P o433 (lf P o689) (lf P o945))) (nd P o241 (nd P o369 (lf P o625) (lf P o881)) (nd P o497 (lf P o753) (lf P o1009)))))) (nd P o25 (nd P o41 (nd P o73 (nd P o137 (nd P o265 (nd P o521 (lf P o1033) .nil) (lf P o777)) (nd P o393 (lf P o649) (lf P o905))) (nd P o201 (nd P o329 (lf P o585) (lf P o841)) (nd P o457 (lf P o713) (lf P o969)))) (nd P o105 (nd P o169 (nd P o297 (lf P o553) (lf P o809)) (nd P o425 (lf P o681) (lf P o937))) (nd P o233 (nd P o361 (lf P o617) (lf P o873)) (nd P o489 (lf P o745) (lf P o1001))))) (nd P o57 (nd P o89 (nd P o153 (nd P o281 (lf P o537) (lf P o793)) (nd P o409 (lf P o665) (lf P o921))) (nd P o217 (nd P o345 (lf P o601) (lf P o857)) (nd P o473 (lf P o729) (lf P o985)))) (nd P o121 (nd P o185 (nd P o313 (lf P o569) (lf P o825)) (nd P o441 (lf P o697) (lf P o953))) (nd P o249 (nd P o377 (lf P o633) (lf P o889)) (nd P o505 (lf P o761) (lf P o1017))))))) (nd P o13 (nd P o21 (nd P o37 (nd P o69 (nd P o133 (nd P o261 (nd P o517 (lf P o1029) .nil) (lf P o773)) (nd P o389 (lf P o645) (lf P o901))) (nd P o197 (nd P o325 (lf P o581) (lf P o837)) (nd P o453 (lf P o709) (lf P o965)))) (nd P o101 (nd P o165 (nd P o293 (lf P o549) (lf P o805)) (nd P o421 (lf P o677) (lf P o933))) (nd P o229 (nd P o357 (lf P o613) (lf P o869)) (nd P o485 (lf P o741) (lf P o997))))) (nd P o53 (nd P o85 (nd P o149 (nd P o277 (lf P o533) (lf P o789)) (nd P o405 (lf P o661) (lf P o917))) (nd P o213 (nd P o341 (lf P o597) (lf P o853)) (nd P o469 (lf P o725) (lf P o981)))) (nd P o117 (nd P o181 (nd P o309 (lf P o565) (lf P o821)) (nd P o437 (lf P o693) (lf P o949))) (nd P o245 (nd P o373 (lf P o629) (lf P o885)) (nd P o501 (lf P o757) (lf P o1013)))))) (nd P o29 (nd P o45 (nd P o77 (nd P o141 (nd P o269 (lf P o525) (lf P o781)) (nd P o397 (lf P o653) (lf P o909))) (nd P o205 (nd P o333 (lf P o589) (lf P o845)) (nd P o461 (lf P o717) (lf P o973)))) (nd P o109 (nd P o173 (nd P o301 (lf P o557) (lf P o813)) (nd P o429 (lf P o685) (lf P o941))) (nd P o237 (nd P o365 (lf P o621) (lf P o877)) (nd P o493 (lf P o749) (lf P o1005))))) (nd P o61 (nd P o93 (nd P o157 (nd P o285 (lf P o541) (lf P o797)) (nd P o413 (lf P o669) (lf P o925))) (nd P o221 (nd P o349 (lf P o605) (lf P o861)) (nd P o477 (lf P o733) (lf P o989)))) (nd P o125 (nd P o189 (nd P o317 (lf P o573) (lf P o829)) (nd P o445 (lf P o701) (lf P o957))) (nd P o253 (nd P o381 (lf P o637) (lf P o893)) (nd P o509 (lf P o765) (lf P o1021))))))))) (nd P o2 (nd P boot_o_4 (nd P boot_o_8 (nd P o16 (nd P o32 (nd P o64 (nd P o128 (nd P o256 (nd P o512 (lf P o1024) .nil) (lf P o768)) (nd P o384 (lf P o640) (lf P o896))) (nd P o192 (nd P o320 (lf P o576) (lf P o832)) (nd P o448 (lf P o704) (lf P o960)))) (nd P o96 (nd P o160 (nd P o288 (lf P o544) (lf P o800)) (nd P o416 (lf P o672) (lf P o928))) (nd P o224 (nd P o352 (lf P o608) (lf P o864)) (nd P o480 (lf P o736) (lf P o992))))) (nd P o48 (nd P o80 (nd P o144 (nd P o272 (lf P o528) (lf P o784)) (nd P o400 (lf P o656) (lf P o912))) (nd P o208 (nd P o336 (lf P o592) (lf P o848)) (nd P o464 (lf P o720) (lf P o976)))) (nd P o112 (nd P o176 (nd P o304 (lf P o560) (lf P o816)) (nd P o432 (lf P o688) (lf P o944))) (nd P o240 (nd P o368 (lf P o624) (lf P o880)) (nd P o496 (lf P o752) (lf P o1008)))))) (nd P o24 (nd P o40 (nd P o72 (nd P o136 (nd P o264 (nd P o520 (lf P o1032) .nil) (lf P o776)) (nd P o392 (lf P o648) (lf P o904))) (nd P o200 (nd P o328 (lf P o584) (lf P o840)) (nd P o456 (lf P o712) (lf P o968)))) (nd P o104 (nd P o168 (nd P o296 (lf P o552) (lf P o808)) (nd P o424 (lf P o680) (lf P o936))) (nd P o232 (nd P o360 (lf P o616) (lf P o872)) (nd P o488 (lf P o744) (lf P o1000))))) (nd P o56 (nd P o88 (nd P o152 (nd P o280 (lf P o536) (lf P o792)) (nd P o408 (lf P o664) (lf P o920))) (nd P o216 (nd P o344 (lf P o600) (lf P o856)) (nd P o472 (lf P o728) (lf P o984)))) (nd P o120 (nd P o184 (nd P o312 (lf P o568) (lf P o824)) (nd P o440 (lf P o696) (lf P o952))) (nd P o248 (nd P o376 (lf P o632) (lf P o888)) (nd P o504 (lf P o760) (lf P o1016))))))) (nd P o12 (nd P o20 (nd P o36 (nd P o68 (nd P o132 (nd P o260 (nd P o516 (lf P o1028) .nil) (lf P o772)) (nd P o388 (lf P o644) (lf P o900))) (nd P o196 (nd P o324 (lf P o580) (lf P o836)) (nd P o452 (lf P o708) (lf P o964)))) (nd P o100 (nd P o164 (nd P o292 (lf P o548) (lf P o804)) (nd P o420 (lf P o676) (lf P o932))) (nd P o228 (nd P o356 (lf P o612) (lf P o868)) (nd P o484 (lf P o740) (lf P o996))))) (nd P o52 (nd P o84 (nd P o148 (nd P o276 (lf P o532) (lf P o788)) (nd P o404 (lf P o660) (lf P o916))) (nd P o212 (nd P o340 (lf P o596) (lf P o852)) (nd P o468 (lf P o724) (lf P o980)))) (nd P o116 (nd P o180 (nd P o308 (lf P o564) (lf P o820)) (nd P o436 (lf P o692) (lf P o948))) (nd P o244 (nd P o372 (lf P o628) (lf P o884)) (nd P o500 (lf P o756) (lf P o1012)))))) (nd P o28 (nd P o44 (nd P o76 (nd P o140 (nd P o268 (lf P o524) (lf P o780)) (nd P o396 (lf P o652) (lf P o908))) (nd P o204 (nd P o332 (lf P o588) (lf P o844)) (nd P o460 (lf P o716) (lf P o972)))) (nd P o108 (nd P o172 (nd P o300 (lf P o556) (lf P o812)) (nd P o428 (lf P o684) (lf P o940))) (nd P o236 (nd P o364 (lf P o620) (lf P o876)) (nd P o492 (lf P o748) (lf P o1004))))) (nd P o60 (nd P o92 (nd P o156 (nd P o284 (lf P o540) (lf P o796)) (nd P o412 (lf P o668) (lf P o924))) (nd P o220 (nd P o348 (lf P o604) (lf P o860)) (nd P o476 (lf P o732) (lf P o988)))) (nd P o124 (nd P o188 (nd P o316 (lf P o572) (lf P o828)) (nd P o444 (lf P o700) (lf P o956))) (nd P o252 (nd P o380 (lf P o636) (lf P o892)) (nd P o508 (lf P o764) (lf P o1020)))))))) (nd P boot_o_6 (nd P boot_o_10 (nd P o18 (nd P o34 (nd P o66 (nd P o130 (nd P o258 (nd P o514 (lf P o1026) .nil) (lf P o770)) (nd P o386 (lf P o642) (lf P o898))) (nd P o194 (nd P o322 (lf P o578) (lf P o834)) (nd P o450 (lf P o706) (lf P o962)))) (nd P o98 (nd P o162 (nd P o290 (lf P o546) (lf P o802)) (nd P o418 (lf P o674) (lf P o930))) (nd P o226 (nd P o354 (lf P o610) (lf P o866)) (nd P o482 (lf P o738) (lf P o994))))) (nd P o50 (nd P o82 (nd P o146 (nd P o274 (lf P o530) (lf P o786)) (nd P o402 (lf P o658) (lf P o914))) (nd P o210 (nd P o338 (lf P o594) (lf P o850)) (nd P o466 (lf P o722) (lf P o978)))) (nd P o114 (nd P o178 (nd P o306 (lf P o562) (lf P o818)) (nd P o434 (lf P o690) (lf P o946))) (nd P o242 (nd P o370 (lf P o626) (lf P o882)) (nd P o498 (lf P o754) (lf P o1010)))))) (nd P o26 (nd P o42 (nd P o74 (nd P o138 (nd P o266 (nd P o522 (lf P o1034) .nil) (lf P o778)) (nd P o394 (lf P o650) (lf P o906))) (nd P o202 (nd P o330 (lf P o586) (lf P o842)) (nd P o458 (lf P o714) (lf P o970)))) (nd P o106 (nd P o170 (nd P o298 (lf P o554) (lf P o810)) (nd P o426 (lf P o682) (lf P o938))) (nd P o234 (nd P o362 (lf P o618) (lf P o874)) (nd P o490 (lf P o746) (lf P o1002))))) (nd P o58 (nd P o90 (nd P o154 (nd P o282 (lf P o538) (lf P o794)) (nd P o410 (lf P o666) (lf P o922))) (nd P o218 (nd P o346 (lf P o602) (lf P o858)) (nd P o474 (lf P o730) (lf P o986)))) (nd P o122 (nd P o186 (nd P o314 (lf P o570) (lf P o826)) (nd P o442 (lf P o698) (lf P o954))) (nd P o250 (nd P o378 (lf P o634) (lf P o890)) (nd P o506 (lf P o762) (lf P o1018))))))) (nd P o14 (nd P o22 (nd P o38 (nd P o70 (nd P o134 (nd P o262 (nd P o518 (lf P o1030) .nil) (lf P o774)) (nd P o390 (lf P o646) (lf P o902))) (nd P o198 (nd P o326 (lf P o582) (lf P o838)) (nd P o454 (lf P o710) (lf P o966)))) (nd P o102 (nd P o166 (nd P o294 (lf P o550) (lf P o806)) (nd P o422 (lf P o678) (lf P o934))) (nd P o230 (nd P o358 (lf P o614) (lf P o870)) (nd P o486 (lf P o742) (lf P o998))))) (nd P o54 (nd P o86 (nd P o150 (nd P o278 (lf P o534) (lf P o790)) (nd P o406 (lf P o662) (lf P o918))) (nd P o214 (nd P o342 (lf P o598) (lf P o854)) (nd P o470 (lf P o726) (lf P o982)))) (nd P o118 (nd P o182 (nd P o310 (lf P o566) (lf P o822)) (nd P o438 (lf P o694) (lf P o950))) (nd P o246 (nd P o374 (lf P o630) (lf P o886)) (nd P o502 (lf P o758) (lf P o1014)))))) (nd P o30 (nd P o46 (nd P o78 (nd P o142 (nd P o270 (lf P o526) (lf P o782)) (nd P o398 (lf P o654) (lf P o910))) (nd P o206 (nd P o334 (lf P o590) (lf P o846)) (nd P o462 (lf P o718) (lf P o974)))) (nd P o110 (nd P o174 (nd P o302 (lf P o558) (lf P o814)) (nd P o430 (lf P o686) (lf P o942))) (nd P o238 (nd P o366 (lf P o622) (lf P o878)) (nd P o494 (lf P o750) (lf P o1006))))) (nd P o62 (nd P o94 (nd P o158 (nd P o286 (lf P o542) (lf P o798)) (nd P o414 (lf P o670) (lf P o926))) (nd P o222 (nd P o350 (lf P o606) (lf P o862)) (nd P o478 (lf P o734) (lf P o990)))) (nd P o126 (nd P o190 (nd P o318 (lf P o574) (lf P o830)) (nd P o446 (lf P o702) (lf P o958))) (nd P o254 (nd P o382 (lf P o638) (lf P o894)) (nd P o510 (lf P o766) (lf P o1022))))))))))
noncomputable def x1(P:Params):Obj:=⟨.none,none,(.dict ⟨[]⟩ 0),⟨[]⟩⟩
noncomputable def S0(w:World)(os:OsState):SharedT:=⟨js 15 (dS (x1 w.params) (v3 w.params (sv "__main__" 164) 9) (fl (tk jg 0)) (o38 w.params)) (T w.params) 1 0,15,{},⟨[]⟩,{},187,os⟩
noncomputable def x2(P:Params):Obj:=⟨.none,none,(.dict ⟨[kv P "type.__subclasses__.Exception.0" 227 (.int 38 0),kv P "type.__subclasses__.Exception.n" 228 (.int 1 0)]⟩ 2),⟨[]⟩⟩
noncomputable def x3(P:Params):Obj:=⟨(.type "type"),none,(.cls ⟨.ofString "RuneError",[(.type "Exception")],[(.ref 38),(.type "Exception"),(.type "BaseException"),(.type "object")],37,.ofString "RuneError",true,[],[],false,none,false⟩),⟨[(some (.ref 22)),none,(some (sv "RuneError" 200)),(some (sv "RuneError" 208)),(some (.builtin "Exception.__new__")),(some (.bool true))]⟩⟩
noncomputable def S1(w:World)(os:OsState):SharedT:=⟨js 42 (dS (x2 w.params) (v3 w.params (sv "framerune.faults" 194) 13) (fl (tk jg 6)) (x3 w.params)) (T w.params) 1 0,42,{},⟨[]⟩,{},231,os⟩
noncomputable def x4(P:Params):Obj:=⟨(.type "type"),none,(.cls ⟨.ofString "RuneError",[(.type "Exception")],[(.ref 38),(.type "Exception"),(.type "BaseException"),(.type "object")],37,.ofString "RuneError",true,[],[(.ref 51)],false,none,false⟩),⟨[(some (.ref 22)),none,(some (sv "RuneError" 200)),(some (sv "RuneError" 208)),(some (.builtin "Exception.__new__")),(some (.bool true))]⟩⟩
noncomputable def S2(w:World)(os:OsState):SharedT:=⟨js 54 (dS (x2 w.params) (v3 w.params (sv "framerune.kinds" 247) 33) (fl (tk jg 9)) (x4 w.params)) (T w.params) 1 0,54,{},⟨[]⟩,{},287,os⟩
noncomputable def S3(w:World)(os:OsState):SharedT:=⟨js 55 (dS (x2 w.params) (v3 w.params (sv "framerune.kinds" 247) 44) (fl (tk jg 9)) (x4 w.params)) (T w.params) 1 0,55,{},⟨[]⟩,{},336,os⟩
noncomputable def S4(w:World)(os:OsState):SharedT:=⟨js 56 (dS (x2 w.params) (v3 w.params (sv "framerune.kinds" 247) 47) (fl (tk jg 9)) (x4 w.params)) (T w.params) 1 0,56,{},⟨[]⟩,{},369,os⟩
noncomputable def S5(w:World)(os:OsState):SharedT:=⟨js 112 (dS (x2 w.params) (v3 w.params (sv "framerune.kinds" 247) 51) (fl (tk jg 21)) (x4 w.params)) (T w.params) 1 0,112,{},⟨[]⟩,{},448,os⟩
noncomputable def S6(w:World)(os:OsState):SharedT:=⟨js 203 (dS (x2 w.params) (v3 w.params (sv "framerune.kinds" 247) 64) (fl (tk jg 60)) (x4 w.params)) (T w.params) 1 0,203,{},⟨[]⟩,{},561,os⟩
noncomputable def S7(w:World)(os:OsState):SharedT:=⟨js 273 (dS (x2 w.params) (v3 w.params (sv "framerune.values" 641) 80) (fl (tk jg 90)) (x4 w.params)) (T w.params) 1 0,273,{},⟨[]⟩,{},678,os⟩
noncomputable def S8(w:World)(os:OsState):SharedT:=⟨js 308 (dS (x2 w.params) (v3 w.params (sv "framerune.heap" 689) 86) (fl (tk jg 99)) (x4 w.params)) (T w.params) 1 0,308,{},⟨[]⟩,{},740,os⟩
noncomputable def S9(w:World)(os:OsState):SharedT:=⟨js 364 (dS (x2 w.params) (v3 w.params (sv "framerune.heap" 689) 92) (fl (tk jg 117)) (x4 w.params)) (T w.params) 1 0,364,{},⟨[]⟩,{},831,os⟩
noncomputable def F0(w:World)(os:OsState):SharedT:=⟨js 413 (dS (x2 w.params) (v3 w.params (sv "framerune.places" 869) 98) (fl (tk jg 132)) (x4 w.params)) (T w.params) 1 0,413,{},⟨[]⟩,{},907,os⟩
noncomputable def FZ(w:World)(os:OsState):SharedT:=⟨js 504 (dS (x2 w.params) (v3 w.params (sv "framerune.places" 869) 111) (fl (tk jg 171)) (x4 w.params)) (T w.params) 1 0,504,{},⟨[]⟩,{},1016,os⟩
noncomputable def FY(w:World)(os:OsState):SharedT:=⟨js 533 (dS (x2 w.params) (v3 w.params (sv "framerune.mbase" 1024) 117) (fl (tk jg 177)) (x4 w.params)) (T w.params) 1 0,533,{},⟨[]⟩,{},1083,os⟩
noncomputable def FX(w:World)(os:OsState):SharedT:=⟨js 568 (dS (x2 w.params) (v3 w.params (sv "framerune.mbase" 1024) 118) (fl (tk jg 180)) (x4 w.params)) (T w.params) 1 0,568,{},⟨[]⟩,{},1132,os⟩
noncomputable def FW(w:World)(os:OsState):SharedT:=⟨js 596 (dS (x2 w.params) (v3 w.params (sv "framerune.mbase" 1024) 119) (fl (tk jg 183)) (x4 w.params)) (T w.params) 1 0,596,{},⟨[]⟩,{},1172,os⟩
noncomputable def FV(w:World)(os:OsState):SharedT:=⟨js 722 (dS (x2 w.params) (v3 w.params (sv "framerune.mbase" 1024) 120) (fl (tk jg 186)) (x4 w.params)) (T w.params) 1 0,722,{},⟨[]⟩,{},1350,os⟩
noncomputable def FU(w:World)(os:OsState):SharedT:=⟨js 764 (dS (x2 w.params) (v3 w.params (sv "framerune.store" 1378) 125) (fl (tk jg 198)) (x4 w.params)) (T w.params) 1 0,764,{},⟨[]⟩,{},1430,os⟩
noncomputable def FT(w:World)(os:OsState):SharedT:=⟨js 785 (dS (x2 w.params) (v3 w.params (sv "framerune.store" 1378) 126) (fl (tk jg 201)) (x4 w.params)) (T w.params) 1 0,785,{},⟨[]⟩,{},1465,os⟩
noncomputable def FS(w:World)(os:OsState):SharedT:=⟨js 841 (dS (x2 w.params) (v3 w.params (sv "framerune.mfield" 1537) 132) (fl (tk jg 219)) (x4 w.params)) (T w.params) 1 0,841,{},⟨[]⟩,{},1547,os⟩
noncomputable def FR(w:World)(os:OsState):SharedT:=⟨js 916 (dS (x2 w.params) (v3 w.params (sv "law_xm0296_01" 1577) 145) (fl (tk jg 249)) (x4 w.params)) (T w.params) 1 0,916,{},⟨[]⟩,{},1683,os⟩
noncomputable def FQ(w:World)(os:OsState):SharedT:=⟨js 991 (dS (x2 w.params) (v3 w.params (sv "law_xm0296_01" 1577) 156) (fl (tk jg 282)) (x4 w.params)) (T w.params) 1 0,991,{},⟨[]⟩,{},1812,os⟩
noncomputable def FP(w:World)(os:OsState):SharedT:=⟨js 1017 (dS (x2 w.params) (v3 w.params (sv "law_xm0296_01" 1577) 160) (fl (tk jg 294)) (x4 w.params)) (T w.params) 1 0,1017,{},⟨[]⟩,{},1848,os⟩
noncomputable def FO(w:World)(os:OsState):SharedT:=⟨js 1036 (dS (x2 w.params) (v3 w.params (sv "law_xm0296_01" 1577) 163) (fl (tk jg 303)) (x4 w.params)) (T w.params) 1 0,1036,{},⟨[]⟩,{},1877,os⟩
noncomputable def en:Env:={ scope:=PySem.Challenge.pw_xm0296_01.main.scope,locals:=mainNs,globals:=mainNs,cells:=[],code:=.ref 13,frame:=some 14 }
noncomputable def cd(b:List Stmt):Code:=.body b en
noncomputable abbrev p0:Pos:=⟨0,0,0,0⟩
noncomputable def Dv:List Stmt:=tk (dr top 0) 5
noncomputable def Fa:List Stmt:=tk (dr top 5) 21
noncomputable def Bk:List Stmt:=tk (dr top 26) 11
noncomputable def Bh:List Stmt:=tk (dr top 37) 3
noncomputable def E9:List Stmt:=tk (dr top 40) 4
noncomputable def E8:List Stmt:=tk (dr top 44) 13
noncomputable def E7:List Stmt:=tk (dr top 57) 17
noncomputable def E6:List Stmt:=tk (dr top 74) 7
noncomputable def E5:List Stmt:=tk (dr top 81) 6
noncomputable def E4:List Stmt:=tk (dr top 87) 7
noncomputable def Bu:List Stmt:=tk (dr top 94) 13
noncomputable def Bt:List Stmt:=tk (dr top 107) 7
noncomputable def Bs:List Stmt:=tk (dr top 114) 1
noncomputable def Br:List Stmt:=tk (dr top 115) 1
noncomputable def Bq:List Stmt:=tk (dr top 116) 1
noncomputable def Bp:List Stmt:=tk (dr top 117) 6
noncomputable def Bo:List Stmt:=tk (dr top 123) 1
noncomputable def Bn:List Stmt:=tk (dr top 124) 8
noncomputable def Bm:List Stmt:=tk (dr top 132) 14
noncomputable def Bl:List Stmt:=tk (dr top 146) 11
noncomputable def Bj:List Stmt:=tk (dr top 157) 4
noncomputable def Bi:List Stmt:=tk (dr top 161) 3
theorem Gg:∀ (w:World),(fun(p:Program) (b:List Stmt) (os:OsState)=>Fast.tw10110043849684766642 Fast.tw14364793385576792824 p w 11 (some (.ref 6)) 1 287 (S0 w os) ⟨(Fast.tw12563942051412417395 Dv en).wrap doneF deadEnd id id,cd b,⟨0,0,0,0⟩,[topFrame p0]⟩)=fun p b os=>some (.next,S1 w os,cd b,⟨7,0,11,20⟩):=by
 intro w;kernel_rfl
theorem Gf:∀ (w:World),(fun(p:Program) (b:List Stmt) (os:OsState)=>Fast.tw10110043849684766642 Fast.tw14364793385576792824 p w 11 (some (.ref 6)) 1 394 (S1 w os) ⟨(Fast.tw12563942051412417395 Fa en).wrap doneF deadEnd id id,cd b,⟨7,0,11,20⟩,[topFrame p0]⟩)=fun p b os=>some (.next,S2 w os,cd b,⟨33,0,33,7⟩):=by
 intro w;kernel_rfl
theorem DC:∀ (w:World),(fun(p:Program) (b:List Stmt) (os:OsState)=>Fast.tw10110043849684766642 Fast.tw14364793385576792824 p (w.withFollow "special-get-raises" false) 11 (some (.ref 6)) 1 297 (S2 (w.withFollow "special-get-raises" false) os) ⟨(Fast.tw12563942051412417395 Bk en).wrap doneF deadEnd id id,cd b,⟨33,0,33,7⟩,[topFrame p0]⟩)=fun p b os=>some (.next,S3 (w.withFollow "special-get-raises" false) os,cd b,⟨44,0,44,8⟩):=by
 intro w;kernel_rfl
theorem DA:∀ (w:World),(fun(p:Program) (b:List Stmt) (os:OsState)=>Fast.tw10110043849684766642 Fast.tw14364793385576792824 p (w.withFollow "special-get-raises" true) 11 (some (.ref 6)) 1 297 (S2 (w.withFollow "special-get-raises" true) os) ⟨(Fast.tw12563942051412417395 Bk en).wrap doneF deadEnd id id,cd b,⟨33,0,33,7⟩,[topFrame p0]⟩)=fun p b os=>some (.next,S3 (w.withFollow "special-get-raises" true) os,cd b,⟨44,0,44,8⟩):=by
 intro w;kernel_rfl
theorem DB:∀ (w:World),(fun(p:Program) (b:List Stmt) (os:OsState)=>Fast.tw10110043849684766642 Fast.tw14364793385576792824 p (w.withFollow "special-get-raises" false) 11 (some (.ref 6)) 1 225 (S3 (w.withFollow "special-get-raises" false) os) ⟨(Fast.tw12563942051412417395 Bh en).wrap doneF deadEnd id id,cd b,⟨44,0,44,8⟩,[topFrame p0]⟩)=fun p b os=>some (.next,S4 (w.withFollow "special-get-raises" false) os,cd b,⟨47,0,47,12⟩):=by
 intro w;kernel_rfl
theorem Dz:∀ (w:World),(fun(p:Program) (b:List Stmt) (os:OsState)=>Fast.tw10110043849684766642 Fast.tw14364793385576792824 p (w.withFollow "special-get-raises" true) 11 (some (.ref 6)) 1 225 (S3 (w.withFollow "special-get-raises" true) os) ⟨(Fast.tw12563942051412417395 Bh en).wrap doneF deadEnd id id,cd b,⟨44,0,44,8⟩,[topFrame p0]⟩)=fun p b os=>some (.next,S4 (w.withFollow "special-get-raises" true) os,cd b,⟨47,0,47,12⟩):=by
 intro w;kernel_rfl
theorem Gb:∀ (w:World),(fun(p:Program) (b:List Stmt) (os:OsState)=>Fast.tw10110043849684766642 Fast.tw14364793385576792824 p w 11 (some (.ref 6)) 1 387 (S4 w os) ⟨(Fast.tw12563942051412417395 E9 en).wrap doneF deadEnd id id,cd b,⟨47,0,47,12⟩,[topFrame p0]⟩)=fun p b os=>some (.next,S5 w os,cd b,⟨110,0,115,12⟩):=by
 intro w;kernel_rfl
theorem Ga:∀ (w:World),(fun(p:Program) (b:List Stmt) (os:OsState)=>Fast.tw10110043849684766642 Fast.tw14364793385576792824 p w 11 (some (.ref 6)) 1 400 (S5 w os) ⟨(Fast.tw12563942051412417395 E8 en).wrap doneF deadEnd id id,cd b,⟨110,0,115,12⟩,[topFrame p0]⟩)=fun p b os=>some (.next,S6 w os,cd b,⟨183,0,187,13⟩):=by
 intro w;kernel_rfl
theorem F9:∀ (w:World),(fun(p:Program) (b:List Stmt) (os:OsState)=>Fast.tw10110043849684766642 Fast.tw14364793385576792824 p w 11 (some (.ref 6)) 1 387 (S6 w os) ⟨(Fast.tw12563942051412417395 E7 en).wrap doneF deadEnd id id,cd b,⟨183,0,187,13⟩,[topFrame p0]⟩)=fun p b os=>some (.next,S7 w os,cd b,⟨254,0,265,14⟩):=by
 intro w;kernel_rfl
theorem F8:∀ (w:World),(fun(p:Program) (b:List Stmt) (os:OsState)=>Fast.tw10110043849684766642 Fast.tw14364793385576792824 p w 11 (some (.ref 6)) 1 328 (S7 w os) ⟨(Fast.tw12563942051412417395 E6 en).wrap doneF deadEnd id id,cd b,⟨254,0,265,14⟩,[topFrame p0]⟩)=fun p b os=>some (.next,S8 w os,cd b,⟨293,0,301,23⟩):=by
 intro w;kernel_rfl
theorem F7:∀ (w:World),(fun(p:Program) (b:List Stmt) (os:OsState)=>Fast.tw10110043849684766642 Fast.tw14364793385576792824 p w 11 (some (.ref 6)) 1 395 (S8 w os) ⟨(Fast.tw12563942051412417395 E5 en).wrap doneF deadEnd id id,cd b,⟨293,0,301,23⟩,[topFrame p0]⟩)=fun p b os=>some (.next,S9 w os,cd b,⟨351,0,358,28⟩):=by
 intro w;kernel_rfl
theorem F6:∀ (w:World),(fun(p:Program) (b:List Stmt) (os:OsState)=>Fast.tw10110043849684766642 Fast.tw14364793385576792824 p w 11 (some (.ref 6)) 1 376 (S9 w os) ⟨(Fast.tw12563942051412417395 E4 en).wrap doneF deadEnd id id,cd b,⟨351,0,358,28⟩,[topFrame p0]⟩)=fun p b os=>some (.next,F0 w os,cd b,⟨385,0,390,30⟩):=by
 intro w;kernel_rfl
theorem DP:∀ (w:World),(fun(p:Program) (b:List Stmt) (os:OsState)=>Fast.tw10110043849684766642 Fast.tw14364793385576792824 p w 11 (some (.ref 6)) 1 396 (F0 w os) ⟨(Fast.tw12563942051412417395 Bu en).wrap doneF deadEnd id id,cd b,⟨385,0,390,30⟩,[topFrame p0]⟩)=fun p b os=>some (.next,FZ w os,cd b,⟨448,0,455,51⟩):=by
 intro w;kernel_rfl
theorem DN:∀ (w:World),(fun(p:Program) (b:List Stmt) (os:OsState)=>Fast.tw10110043849684766642 Fast.tw14364793385576792824 p w 11 (some (.ref 6)) 1 324 (FZ w os) ⟨(Fast.tw12563942051412417395 Bt en).wrap doneF deadEnd id id,cd b,⟨448,0,455,51⟩,[topFrame p0]⟩)=fun p b os=>some (.next,FY w os,cd b,⟨463,0,480,24⟩):=by
 intro w;kernel_rfl
theorem DM:∀ (w:World),(fun(p:Program) (b:List Stmt) (os:OsState)=>Fast.tw10110043849684766642 Fast.tw14364793385576792824 p w 11 (some (.ref 6)) 1 291 (FY w os) ⟨(Fast.tw12563942051412417395 Bs en).wrap doneF deadEnd id id,cd b,⟨463,0,480,24⟩,[topFrame p0]⟩)=fun p b os=>some (.next,FX w os,cd b,⟨481,0,490,16⟩):=by
 intro w;kernel_rfl
theorem DL:∀ (w:World),(fun(p:Program) (b:List Stmt) (os:OsState)=>Fast.tw10110043849684766642 Fast.tw14364793385576792824 p w 11 (some (.ref 6)) 1 258 (FX w os) ⟨(Fast.tw12563942051412417395 Br en).wrap doneF deadEnd id id,cd b,⟨481,0,490,16⟩,[topFrame p0]⟩)=fun p b os=>some (.next,FW w os,cd b,⟨491,0,497,19⟩):=by
 intro w;kernel_rfl
theorem DK:∀ (w:World),(fun(p:Program) (b:List Stmt) (os:OsState)=>Fast.tw10110043849684766642 Fast.tw14364793385576792824 p w 11 (some (.ref 6)) 1 732 (FW w os) ⟨(Fast.tw12563942051412417395 Bq en).wrap doneF deadEnd id id,cd b,⟨491,0,497,19⟩,[topFrame p0]⟩)=fun p b os=>some (.next,FV w os,cd b,⟨498,0,566,17⟩):=by
 intro w;kernel_rfl
theorem DJ:∀ (w:World),(fun(p:Program) (b:List Stmt) (os:OsState)=>Fast.tw10110043849684766642 Fast.tw14364793385576792824 p w 11 (some (.ref 6)) 1 354 (FV w os) ⟨(Fast.tw12563942051412417395 Bp en).wrap doneF deadEnd id id,cd b,⟨498,0,566,17⟩,[topFrame p0]⟩)=fun p b os=>some (.next,FU w os,cd b,⟨590,0,606,23⟩):=by
 intro w;kernel_rfl
theorem DI:∀ (w:World),(fun(p:Program) (b:List Stmt) (os:OsState)=>Fast.tw10110043849684766642 Fast.tw14364793385576792824 p w 11 (some (.ref 6)) 1 229 (FU w os) ⟨(Fast.tw12563942051412417395 Bo en).wrap doneF deadEnd id id,cd b,⟨590,0,606,23⟩,[topFrame p0]⟩)=fun p b os=>some (.next,FT w os,cd b,⟨607,0,613,30⟩):=by
 intro w;kernel_rfl
theorem DH:∀ (w:World),(fun(p:Program) (b:List Stmt) (os:OsState)=>Fast.tw10110043849684766642 Fast.tw14364793385576792824 p w 11 (some (.ref 6)) 1 400 (FT w os) ⟨(Fast.tw12563942051412417395 Bn en).wrap doneF deadEnd id id,cd b,⟨607,0,613,30⟩,[topFrame p0]⟩)=fun p b os=>some (.next,FS w os,cd b,⟨650,0,653,13⟩):=by
 intro w;kernel_rfl
theorem DG:∀ (w:World),(fun(p:Program) (b:List Stmt) (os:OsState)=>Fast.tw10110043849684766642 Fast.tw14364793385576792824 p w 11 (some (.ref 6)) 1 401 (FS w os) ⟨(Fast.tw12563942051412417395 Bm en).wrap doneF deadEnd id id,cd b,⟨650,0,653,13⟩,[topFrame p0]⟩)=fun p b os=>some (.next,FR w os,cd b,⟨749,0,753,95⟩):=by
 intro w;kernel_rfl
theorem DF:∀ (w:World),(fun(p:Program) (b:List Stmt) (os:OsState)=>Fast.tw10110043849684766642 Fast.tw14364793385576792824 p w 11 (some (.ref 6)) 1 370 (FR w os) ⟨(Fast.tw12563942051412417395 Bl en).wrap doneF deadEnd id id,cd b,⟨749,0,753,95⟩,[topFrame p0]⟩)=fun p b os=>some (.next,FQ w os,cd b,⟨829,0,837,48⟩):=by
 intro w;kernel_rfl
theorem DE:∀ (w:World),(fun(p:Program) (b:List Stmt) (os:OsState)=>Fast.tw10110043849684766642 Fast.tw14364793385576792824 p w 11 (some (.ref 6)) 1 123 (FQ w os) ⟨(Fast.tw12563942051412417395 Bj en).wrap doneF deadEnd id id,cd b,⟨829,0,837,48⟩,[topFrame p0]⟩)=fun p b os=>some (.next,FP w os,cd b,⟨899,0,902,43⟩):=by
 intro w;kernel_rfl
theorem DD:∀ (w:World),(fun(p:Program) (b:List Stmt) (os:OsState)=>Fast.tw10110043849684766642 Fast.tw14364793385576792824 p w 11 (some (.ref 6)) 1 94 (FP w os) ⟨(Fast.tw12563942051412417395 Bi en).wrap doneF deadEnd id id,cd b,⟨899,0,902,43⟩,[topFrame p0]⟩)=fun p b os=>some (.next,FO w os,cd b,⟨924,0,939,81⟩):=by
 intro w;kernel_rfl
noncomputable abbrev pg:Program:=PySem.Challenge.pw_xm0296_01
noncomputable abbrev rw_:=PySem.Challenge.rw_xm0296_01
noncomputable def vq:Program:={ pg with main:={ pg.main with body:=[at1 163] } }
noncomputable def names:List Str:=List.rec (motive:=fun _=>List Str) [] (fun p _ ih=>p.1::ih) pg.main.scope.names
noncomputable def HF(P:Params):Heap:=absHeap (T P) 1036 {}
theorem Bv:∀ w:World,((boot_heap w.params).isNs mainGlobals && (⟨[]⟩:Array GenState).size == 0,(boot_heap w.params).objs.size,Fast.tw8920871248978507458 (boot_heap w.params) mainGlobals (Str.ofString "__annotations__"))=(true,11,some (.ref 6)):=by
 intro w;kernel_rfl
theorem CE:opening pg=plainProg pg.main.scope.names:=by kernel_rfl
theorem Cf:∀ s:Shared,fenceModules? pg s=some s:=by intro s;kernel_rfl
noncomputable def HB(P:Params):Heap:=⟨⟨dr [] 0⟩,{}⟩
theorem Dy:∀ w:World,(fun os=>Fast.tw15667345088766844465 Fast.tw14364793385576792824 pg w 11 (some (.ref 6)) 12 ⟨boot_heap w.params,⟨[]⟩,boot_drawn,boot_toks,os⟩ (topStub pg)) =
  fun os=>some (⟨absHeap (js 15 (dS (x1 w.params) (v3 w.params (sv "__main__" 164) 9) (fl []) (o38 w.params)) (T w.params) 1 0) 15 {},⟨[]⟩,{},187,os⟩,⟨Fast.tw11892475500146522536 Fast.tw14364793385576792824 (cd (behindTheImports pg)),cd (behindTheImports pg),p0,[topFrame p0]⟩):=by
 intro w;kernel_rfl
theorem AA:∀ w:World,(fun os=>Fast.tw14374325043358763698 Fast.tw14364793385576792824 pg w 11 (some (.ref 6)) 1 1 (S0 w os).abs ⟨(Fast.tw1066825118222455980 (behindTheImports pg) en).wrap (fun _=>doneF .next) deadEnd id id,cd (behindTheImports pg),p0,[topFrame p0]⟩)=fun os=>some (.next,(S0 w os).abs,cd (behindTheImports pg),p0):=by
 intro w;kernel_rfl
theorem Ea:∀ w:World,(fun os=>Fast.tw14082659384304107361 Fast.tw14364793385576792824 pg w 11 (some (.ref 6)) 2 (FO w os).abs ⟨doneF .next,cd (behindTheImports pg),⟨924,0,939,81⟩,[topFrame p0]⟩)=fun os=>some ⟨HF w.params,⟨[]⟩,{},1877,os⟩:=by
 intro w;kernel_rfl
theorem BS:∀ w:World,(fun os=>staticsOk (Fast.tw5923862056798008813 pg.main.body) (boot_heap w.params) (HF w.params))=fun(os:OsState)=>true:=by
 intro w;kernel_rfl
theorem BR:∀ w:World,(fun os=>namesBound pg (HF w.params))=fun(os:OsState)=>true:=by
 intro w;kernel_rfl
theorem BQ:∀ w:World,(fun os=>gensDone ⟨HF w.params,⟨[]⟩,{},1877,os⟩)=fun(os:OsState)=>true:=by
 intro w;kernel_rfl
theorem BP:∀ w:World,(fun os=>laidKept (boot_heap w.params) (HF w.params))=fun(os:OsState)=>true:=by
 intro w;kernel_rfl
theorem BO:∀ w:World,(fun os=>Fast.tw4187177175401517315 vq names (Fast.tw5923862056798008813 pg.main.body) (fun _=>true) true ⟨HF w.params,⟨[]⟩,{},1877,os⟩)=fun(os:OsState)=>openGood vq names:=by
 intro w;kernel_rfl
theorem up{p:Program}{w:World}{N:Nat}{s s':SharedT}{l b:List Stmt}{pos pos':Pos}(h:Fast.tw10110043849684766642 Fast.tw14364793385576792824 p w 11 (some (.ref 6)) 1 N s ⟨(Fast.tw12563942051412417395 l en).wrap doneF deadEnd id id,cd b,pos,[topFrame p0]⟩=some (.next,s',cd b,pos')) :
  segRun treeTable p w 11 (some (.ref 6)) 1 N s.abs (piecesOf l en (cd b) pos [topFrame p0])=some (.next,s'.abs,cd b,pos'):=by
 refine segRun_of ?_
 rw[Fast.te10110043849684766642,Fast.te14364793385576792824,piecesOf,Fast.te12563942051412417395]
 exact h
theorem ER:behindTheImports pg=Dv++(Fa++(Bk++(Bh++(E9++(E8++(E7++(E6++(E5++(E4++(Bu++(Bt++(Bs++(Br++(Bq++(Bp++(Bo++(Bn++(Bm++(Bl++(Bj++(Bi++[]))))))))))))))))))))):=by kernel_rfl
theorem ju{α:Type}{f g:Program→List Stmt→OsState→α}(h:f=g)(p:Program)(b:List Stmt)(os:OsState):f p b os=g p b os:=by rw[h]
theorem Gd(w:World):(fun(p:Program) (b:List Stmt) (os:OsState)=>Fast.tw10110043849684766642 Fast.tw14364793385576792824 p w 11 (some (.ref 6)) 1 297 (S2 w os) ⟨(Fast.tw12563942051412417395 Bk en).wrap doneF deadEnd id id,cd b,⟨33,0,33,7⟩,[topFrame p0]⟩)=fun p b os=>some (.next,S3 w os,cd b,⟨44,0,44,8⟩):=byRow2 "special-get-raises" (P:=fun w=>(fun(p:Program) (b:List Stmt) (os:OsState)=>Fast.tw10110043849684766642 Fast.tw14364793385576792824 p w 11 (some (.ref 6)) 1 297 (S2 w os) ⟨(Fast.tw12563942051412417395 Bk en).wrap doneF deadEnd id id,cd b,⟨33,0,33,7⟩,[topFrame p0]⟩)=fun p b os=>some (.next,S3 w os,cd b,⟨44,0,44,8⟩)) DC DA w
theorem Gc(w:World):(fun(p:Program) (b:List Stmt) (os:OsState)=>Fast.tw10110043849684766642 Fast.tw14364793385576792824 p w 11 (some (.ref 6)) 1 225 (S3 w os) ⟨(Fast.tw12563942051412417395 Bh en).wrap doneF deadEnd id id,cd b,⟨44,0,44,8⟩,[topFrame p0]⟩)=fun p b os=>some (.next,S4 w os,cd b,⟨47,0,47,12⟩):=byRow2 "special-get-raises" (P:=fun w=>(fun(p:Program) (b:List Stmt) (os:OsState)=>Fast.tw10110043849684766642 Fast.tw14364793385576792824 p w 11 (some (.ref 6)) 1 225 (S3 w os) ⟨(Fast.tw12563942051412417395 Bh en).wrap doneF deadEnd id id,cd b,⟨44,0,44,8⟩,[topFrame p0]⟩)=fun p b os=>some (.next,S4 w os,cd b,⟨47,0,47,12⟩)) DB Dz w
theorem Dx(w:World)(os:OsState):topRun treeTable pg w 11 (some (.ref 6)) (12+(1+(287+(394+(297+(225+(387+(400+(387+(328+(395+(376+(396+(324+(291+(258+(732+(354+(229+(400+(401+(370+(123+(94+2)))))))))))))))))))))))) ⟨boot_heap w.params,⟨[]⟩,boot_drawn,boot_toks,os⟩ (topStub pg)=some ⟨HF w.params,⟨[]⟩,{},1877,os⟩:=by
 refine go_top (by rw[Fast.te15667345088766844465,Fast.te14364793385576792824];exact congrFun (Dy w) os) ?_
 rw[← Fast.te11892475500146522536,← Fast.te14364793385576792824]
 refine piece_block (by rw[Fast.te14374325043358763698,Fast.te14364793385576792824,blockOf,Fast.te1066825118222455980];exact congrFun (AA w) os) ?_
 rw[show restOf (behindTheImports pg) en=restOf (Dv++_) en from congrArg (restOf · en) ER]
 refine piece_app (up (ju (Gg w) pg _ os)) ?_
 refine piece_app (up (ju (Gf w) pg _ os)) ?_
 refine piece_app (up (ju (Gd w) pg _ os)) ?_
 refine piece_app (up (ju (Gc w) pg _ os)) ?_
 refine piece_app (up (ju (Gb w) pg _ os)) ?_
 refine piece_app (up (ju (Ga w) pg _ os)) ?_
 refine piece_app (up (ju (F9 w) pg _ os)) ?_
 refine piece_app (up (ju (F8 w) pg _ os)) ?_
 refine piece_app (up (ju (F7 w) pg _ os)) ?_
 refine piece_app (up (ju (F6 w) pg _ os)) ?_
 refine piece_app (up (ju (DP w) pg _ os)) ?_
 refine piece_app (up (ju (DN w) pg _ os)) ?_
 refine piece_app (up (ju (DM w) pg _ os)) ?_
 refine piece_app (up (ju (DL w) pg _ os)) ?_
 refine piece_app (up (ju (DK w) pg _ os)) ?_
 refine piece_app (up (ju (DJ w) pg _ os)) ?_
 refine piece_app (up (ju (DI w) pg _ os)) ?_
 refine piece_app (up (ju (DH w) pg _ os)) ?_
 refine piece_app (up (ju (DG w) pg _ os)) ?_
 refine piece_app (up (ju (DF w) pg _ os)) ?_
 refine piece_app (up (ju (DE w) pg _ os)) ?_
 refine piece_app (up (ju (DD w) pg _ os)) ?_
 refine piece_nil ?_
 rw[Fast.te14082659384304107361,Fast.te14364793385576792824]
 exact congrFun (Ea w) os
theorem yP:∀ w:World,(fun os=>((staticsOk (importedModules pg.main.body) (boot_heap w.params) (HF w.params) && namesBound pg (HF w.params) && gensDone ⟨HF w.params,⟨[]⟩,{},1877,os⟩ && laidKept (boot_heap w.params) (HF w.params)),
    openSeen vq names (importedModules pg.main.body) (fun _=>true) true ⟨HF w.params,⟨[]⟩,{},1877,os⟩,HF w.params))=fun(os:OsState)=>(true,openGood vq names,HF w.params):=by
 intro w;funext os
 rw[Fast.te5923862056798008813,Fast.te4187177175401517315,congrFun (BS w) os,congrFun (BR w) os,congrFun (BQ w) os,congrFun (BP w) os,congrFun (BO w) os]
 rfl
theorem BU:LeftO pg vq names (fun _=>true) (fun s=>s.heap) (fun w=>HF w.params) 20000:=
 LeftO.of_pieces (H₀:=boot_heap) (H₁:=HF) (gs₁:=⟨[]⟩) (d₁:={}) (k₁:=1877) (boot_open CE (by decide) Cf) (fun w=>by rw[Fast.te8920871248978507458];exact Bv w) Dx (by decide) yP
noncomputable def D3:Stmt→DefRec
 |.FunctionDef n a b _ _ _ sc _ _ p=>⟨n,a,b,sc,p⟩
 |_=>⟨default,default,default,default,default⟩
noncomputable def dLaw:DefRec:=D3 (at1 163)
theorem Dw:rw_.wellSaid=true:=by
 rw[Fast.te9446332074065402090];kernel_rfl
theorem zr:defOf vq rw_.row.name=some (dLaw,[]):=by kernel_rfl
theorem vn:rw_.row.prog.theDef rw_.row.name=some (dLaw.params,dLaw.body,dLaw.scope):=by kernel_rfl
theorem Gp:kwWritten? dLaw.params.kwonlyargs dLaw.params.kw_defaults=some []:=by kernel_rfl
theorem Gh:(chainsOk vq && opensWell rw_.row.prog && (frees rw_.row.toRowW && rw_.row.within.isEmpty))=true:=by kernel_rfl
theorem CG:rw_.row.prog.bare:=⟨rfl,rfl,rfl,rfl,rfl,by kernel_rfl⟩
theorem BB:rw_.row.toRowW.promised:=⟨[.list []],by kernel_rfl,by kernel_rfl⟩
noncomputable abbrev YP(w:World)(h:Heap):Prop:=∀ b o,(HF w.params).get? b=some o→h.get? b=some o
theorem head_(c:WalkO vq names (fun _ _=>True) YP rw_.row.toRowW dLaw [] fun f vs=>PySem.call f vs):rw_.Holds:=
 holds_law Dw fun s=>holds_open (Xt:=fun _=>true) (XP:=fun _ _=>True) (Yf:=fun s=>s.heap) (Ya:=fun w=>HF w.params) (YP:=YP) (N:=20000) BU (fun w s e b o h=>by rw[e];exact h) (fun w h h' y k b o e=>k b o (y b o e)) (fun _ _=>trivial) (fun _ _ _ _ _=>trivial)
  zr vn Gp (fun _ _=>recFacts_nil rfl) rfl s Gh CG BB c
end MineH
namespace Mine
open PySem
inductive V where
 |none
 |bool (b:Bool)
 |int (i:Int)
 |sym (n:Nat)
 |str (s:Str)
 |tup (l:List V)
 |ref (a:Addr)
 |rng (n:Int)
 |bi (n:Nat)
 |fn (n:Nat)
 |gd
 |arg (l:List V)
deriving Inhabited
inductive O where
 |list (xs:List V)
 |dict (es:List (V×V))
 |inst (c:Nat) (fs:List (Nat×V))
deriving Inhabited
noncomputable def nm:List String:=[
 "inner_kinds","row_level","row_length","check_kind_row","check_named","check_args","may_stand","class_kind","value_kind","array_kind","kind_sort","elem_of",
 "args_of","is_value","close","close_all","get_path","put_path","refs_in","words_for","heap_alloc","find_thing","slot_word","slot_at","read_slot",
 "holds_reference","card_number","store_slot","write_slot","local_place","arg_place","keep_place","heap_place","static_place","field_place","path_of",
 "slots_of","index_of","read_whole","read_place","write_place","start_of","same_place","told_row","tell_wrong","plain_names","method_sig","is_static",
 "arg_kind","item_kind","heap_kind","whole_kind","place_kind","_law_draw","_law_shapes","_law_spots","_law_within","_law_made","_law_put","_law_show",
 "_law_refs","_law_place","_law_write","_law_read","_law_nowhere","_law_astray","_law_turned","_law_apart","_law_copy","_law_first","_law_compare",
 "_law_deed","_law_world","_law_deepest","_law_other","_law_bottoms","_law_settled","law","KindTable","Thing","Heap","PlaceHost","Frame","Starter",
 "KindCloser","Tray","MethodDef","Body","Store","__init__","rows","index","depths","weights","opens","append","row","number","put","get","depth",
 "large","sort","length","place","method","boxed","inner","named","argument","pop","addr","kind","slots","gen","size","serial","things","at","top",
 "limit","cards","card_bits","fresh","young_limit","finals","ready","moved","made","heap","frames","statics","home","locals_","args","keep","mref",
 "body","ip","stack","conts","caught","caughtv","extra","prefix","need","done","failed","ref","store","kt","kin","targets","defaults","unders",
 "by_number","inits","ops","state","told","thrown","calls","held","places","starter","closer","is_a","kinds_of","skinds_of","slot_place","target",
 "default","plain","closed","closed_ref","alloc","wrong","throw_new","push_call","mid","owner","name","access","flags","ngen","gnames","gbounds","ret",
 "params","pnames","pflags","native","maxstack","code","clauses","types","fields_","methods","names","asms","entry","p","numbers","spots","shapes",
 "cells","roots","m","aged","bits","kinds","odd","M","W_EMPTY","W_PLACE","VOID","BOOL","CHAR","I1","U1","I2","U2","I4","U4","I8","U8","NINT",
 "OBJECT","STRING","NULLK","PRIM_END","R_PRIM","R_CLASS","R_VALUE","R_ARRAY","R_BYREF","R_VAR","R_MVAR","R_BOXED","R_ROREF","R_FTN","R_RAW",
 "DEEPEST_KIND","HEAVIEST_KIND","V_REF","V_STRUCT","PL_LOCAL","PL_ARG","PL_HEAP","PL_STATIC","FIRST_ADDRESS","HEAD_WORDS","LEAST_SIZE","KEEP_PLACE",
 "JP_STAY","ST_RUN","ST_WRONG","MF_STATIC","TID_PRIM","_law_ADDRESSES","_law_WORDS","_law_GENS","len","range","tuple","list","str","isinstance","bool"]
noncomputable def dy(l:List Int):V:=.tup (l.map V.int)
noncomputable def gl:List (Option V):=[
 some (.fn 0),some (.fn 1),some (.fn 2),some (.fn 3),some (.fn 4),some (.fn 5),some (.fn 6),some (.fn 7),some (.fn 8),some (.fn 9),some (.fn 10),
 some (.fn 11),some (.fn 12),some (.fn 13),some (.fn 14),some (.fn 15),some (.fn 16),some (.fn 17),some (.fn 18),some (.fn 19),some (.fn 20),some (.fn 21),
 some (.fn 22),some (.fn 23),some (.fn 24),some (.fn 25),some (.fn 26),some (.fn 27),some (.fn 28),some (.fn 29),some (.fn 30),some (.fn 31),some (.fn 32),
 some (.fn 33),some (.fn 34),some (.fn 35),some (.fn 36),some (.fn 37),some (.fn 38),some (.fn 39),some (.fn 40),some (.fn 41),some (.fn 42),some (.fn 43),
 some (.fn 44),some (.fn 45),some (.fn 46),some (.fn 47),some (.fn 48),some (.fn 49),some (.fn 50),some (.fn 51),some (.fn 52),some (.fn 53),some (.fn 54),
 some (.fn 55),some (.fn 56),some (.fn 57),some (.fn 58),some (.fn 59),some (.fn 60),some (.fn 61),some (.fn 62),some (.fn 63),some (.fn 64),some (.fn 65),
 some (.fn 66),some (.fn 67),some (.fn 68),some (.fn 69),some (.fn 70),some (.fn 71),some (.fn 72),some (.fn 73),some (.fn 74),some (.fn 75),some (.fn 76),
 some (.fn 77),some (.fn 78),some (.fn 79),some (.fn 80),some (.fn 81),some (.fn 82),some (.fn 83),some (.fn 84),some (.fn 85),some (.fn 86),some (.fn 87),
 some (.fn 88),Option.none,Option.none,Option.none,Option.none,Option.none,Option.none,Option.none,Option.none,Option.none,Option.none,Option.none,
 Option.none,Option.none,Option.none,Option.none,Option.none,Option.none,Option.none,Option.none,Option.none,Option.none,Option.none,Option.none,
 Option.none,Option.none,Option.none,Option.none,Option.none,Option.none,Option.none,Option.none,Option.none,Option.none,Option.none,Option.none,
 Option.none,Option.none,Option.none,Option.none,Option.none,Option.none,Option.none,Option.none,Option.none,Option.none,Option.none,Option.none,
 Option.none,Option.none,Option.none,Option.none,Option.none,Option.none,Option.none,Option.none,Option.none,Option.none,Option.none,Option.none,
 Option.none,Option.none,Option.none,Option.none,Option.none,Option.none,Option.none,Option.none,Option.none,Option.none,Option.none,Option.none,
 Option.none,Option.none,Option.none,Option.none,Option.none,Option.none,Option.none,Option.none,Option.none,Option.none,Option.none,Option.none,
 Option.none,Option.none,Option.none,Option.none,Option.none,Option.none,Option.none,Option.none,Option.none,Option.none,Option.none,Option.none,
 Option.none,Option.none,Option.none,Option.none,Option.none,Option.none,Option.none,Option.none,Option.none,Option.none,Option.none,Option.none,
 Option.none,Option.none,Option.none,Option.none,Option.none,Option.none,Option.none,Option.none,Option.none,Option.none,Option.none,Option.none,
 Option.none,Option.none,Option.none,Option.none,Option.none,some (.int 2),some (.int 4),some (.int 0),some (.int 1),some (.int 2),some (.int 3),
 some (.int 4),some (.int 5),some (.int 6),some (.int 7),some (.int 8),some (.int 9),some (.int 10),some (.int 11),some (.int 12),some (.int 13),
 some (.int 14),some (.int 16),some (.int 1),some (.int 2),some (.int 3),some (.int 4),some (.int 5),some (.int 6),some (.int 7),some (.int 8),some (.int 9),
 some (.int 10),some (.int 11),some (.int 24),some (.int 4096),some (.int 4),some (.int 5),some (.int 1),some (.int 2),some (.int 3),some (.int 4),
 some (.int 16),some (.int 2),some (.int 3),some (.int (-1)),some (.int (-2)),some (.int 0),some (.int 3),some (.int 1),some (.gd),
 some (dy [0,16,20,24]),some (dy [0,0,0,19,22,23,26,0]),
 some (.tup [dy [2,2,2],dy [0,0,0],dy [1,0,0],dy [1,1,0],dy [1,1,1],dy [2,0,0],dy [2,1,0],dy [2,2,1]]),some (.bi 0),
 some (.bi 1),some (.bi 2),some (.bi 3),some (.bi 4),some (.bi 5),some (.bi 6)]
noncomputable def Dk:List Nat:=[
 41,42,43,44,45,46,47,48,49,51,53,54,56,57,59,64,72,73,74,79,82,83,84,85,86,87,88,89,90,94,95,96,97,98,99,100,101,102,103,104,
 105,106,107,117,118,125,126,127,129,131,132,133,134,139,140,141,142,143,144,145,146,147,148,149,150,151,152,153,154,155,156,157,158,
 159,160,161,162,163,40,80,81,93,113,114,115,116,122,123,124,999,999,999,999,999,999,999,999,999,999,999,999,999,999,999,999,999,999,
 999,999,999,999,999,999,999,999,999,999,999,999,999,999,999,999,999,999,999,999,999,999,999,999,999,999,999,999,999,999,999,999,999,
 999,999,999,999,999,999,999,999,999,999,999,999,999,999,999,999,999,999,999,999,999,999,999,999,999,999,999,999,999,999,999,999,999,
 999,999,999,999,999,999,999,999,999,999,999,999,999,999,999,999,999,999,999,999,999,999,999,999,999,999,999,999,999,999,999,999,999,
 999,999,999,999,999,999,999,999,999,999,999,999,999,999,999,999,999,999,999,999,999,999,999,999,999,999,999,999,999,999,999,999,999,
 999,999,999,999,999,999,999,999,999,999,999,999,999,999,999,999,999,999,999,999,999,999,999,999,999,999,999,999,999,999]
inductive Tr where
 |nil
 |node (c n:Nat) (l r:Tr)
noncomputable def Tr.find:Tr→Nat→Nat
 |.nil,_=>269
 |.node c n l r,x=>if x=c then n else if x<c then l.find x else r.find x
noncomputable def rH:List Nat→Nat→Nat
 |[],a=>a
 |c::r,a=>if c<127 then rH r (a * 128+(c+1)) else 0
noncomputable def fX(x:Str):Nat:=rH x.cps.toList 1
noncomputable def Fe:Tr:=(.node 8446564645999 160 (.node 57398704104 79 (.node 435333077 226 (.node 3880303 151 (.node 27443 221 (.node 25907 220 (.node 241 201 (.node 238 207
 (.node 206 212 .nil .nil) .nil) (.node 25906 218 .nil .nil)) (.node 25913 224 (.node 25909 222 .nil .nil) (.node 27442 219 .nil .nil))) (.node 30065 138
 (.node 27449 225 (.node 27445 223 .nil .nil) (.node 29045 118 .nil .nil)) (.node 3814255 114 (.node 30325 150 .nil .nil) (.node 3814261 99 .nil .nil))))
 (.node 3994485 187 (.node 3946740 157 (.node 3913061 179 (.node 3896175 262 (.node 3895672 77 .nil .nil) .nil) (.node 3945189 211 .nil .nil)) (.node 3963765
 98 (.node 3962993 110 .nil .nil) (.node 3994471 148 .nil .nil))) (.node 410265677 216 (.node 4012787 266 (.node 3995768 96 .nil .nil) (.node 4028529 119
 .nil .nil)) (.node 412246355 217 (.node 410792698 87 .nil .nil) (.node 423211377 80 .nil .nil))))) (.node 496678885 112 (.node 477902957 268 (.node 475853940
 134 (.node 475624179 111 (.node 452207941 215 (.node 448590202 85 .nil .nil) .nil) (.node 475673445 208 .nil .nil)) (.node 477805300 209 (.node 475871092
 199 .nil .nil) (.node 477901562 137 .nil .nil))) (.node 490321637 162 (.node 482097126 146 (.node 479998694 193 .nil .nil) (.node 490320241 129 .nil .nil))
 (.node 492646498 166 (.node 490485606 132 .nil .nil) (.node 496612209 135 .nil .nil)))) (.node 513554933 102 (.node 502903653 145 (.node 501019495 136
 (.node 500740838 128 (.node 498776693 265 .nil .nil) .nil) (.node 502839142 181 .nil .nil)) (.node 511458420 90 (.node 502936431 184 .nil .nil) (.node
 513457638 115 .nil .nil))) (.node 56842382031 240 (.node 53661448038 82 (.node 515651301 159 .nil .nil) (.node 55747765964 229 .nil .nil)) (.node 56842641747
 236 (.node 56842576216 241 .nil .nil) (.node 57155533286 88 .nil .nil)))))) (.node 65745467878 149 (.node 63574897396 210 (.node 61687495401 100 (.node
 61410702068 121 (.node 61171725157 106 (.node 60896802916 175 (.node 57916318535 244 .nil .nil) .nil) (.node 61410604788 161 .nil .nil)) (.node 61433723494
 14 (.node 61418993396 205 .nil .nil) (.node 61439998708 140 .nil .nil))) (.node 62251448937 123 (.node 61995842018 143 (.node 61974870522 200 .nil .nil)
 (.node 62238798964 183 .nil .nil)) (.node 63048432372 156 (.node 63048348537 91 .nil .nil) (.node 63048512371 107 .nil .nil)))) (.node 64923153775 172
 (.node 64363410292 198 (.node 64124482405 127 (.node 63843317109 120 (.node 63826621542 101 .nil .nil) .nil) (.node 64363410277 108 .nil .nil)) (.node
 64677999475 180 (.node 64663173108 94 .nil .nil) (.node 64923152998 104 .nil .nil))) (.node 65728690932 113 (.node 65445343994 126 (.node 65437168742 263
 .nil .nil) (.node 65466546932 206 .nil .nil)) (.node 65745236588 139 (.node 65737079540 203 .nil .nil) (.node 65745238758 158 .nil .nil))))) (.node 7965788124916
 125 (.node 7307284245327 255 (.node 7202057267656 247 (.node 66815014888 176 (.node 66024403828 195 (.node 66016016102 264 .nil .nil) .nil) (.node 7164969198165
 227 .nil .nil)) (.node 7275845838158 231 (.node 7275839611219 237 .nil .nil) (.node 7307256833992 228 .nil .nil))) (.node 7863516607333 173 (.node 7795872741349
 95 (.node 7792355818100 182 .nil .nil) (.node 7860576204021 141 .nil .nil)) (.node 7895999411444 92 (.node 7863516607347 165 .nil .nil) (.node 7963630334821
 147 .nil .nil)))) (.node 8308576007284 190 (.node 8205245249637 105 (.node 8001462973300 185 (.node 7968176976756 130 .nil .nil) (.node 8170872912617 103
 .nil .nil)) (.node 8243885175667 97 (.node 8238531263462 191 .nil .nil) (.node 8307246413684 188 .nil .nil))) (.node 8411399500141 116 (.node 8310700618612
 189 (.node 8310163583860 163 .nil .nil) (.node 8311782634873 144 .nil .nil)) (.node 8444685464437 170 (.node 8412169270132 204 .nil .nil) (.node 8446545753204
 117 .nil .nil))))))) (.node 16927794555738830821 49 (.node 121459361661166165 245 (.node 1015323521726567 11 (.node 931309842295622 233 (.node 931304503141189
 238 (.node 921863344726353 248 (.node 895612527927642 254 (.node 8482505472500 154 .nil .nil) .nil) (.node 931304240898394 234 .nil .nil)) (.node 931304764910164
 232 (.node 931304524014407 235 .nil .nil) (.node 931308798010183 239 .nil .nil))) (.node 997938043566183 12 (.node 953295536679642 213 (.node 936432499520371
 83 .nil .nil) (.node 953298487124550 214 .nil .nil)) (.node 1006526372066164 194 (.node 1006153754114807 142 .nil .nil) (.node 1010685200676597 171 .nil
 .nil)))) (.node 1077169987875699 164 (.node 1055217302485492 202 (.node 1046212364696160 133 (.node 1023778718741236 186 (.node 1019618487007840 196 .nil
 .nil) .nil) (.node 1050271391953652 197 .nil .nil)) (.node 1072257889219951 18 (.node 1063328092272743 35 .nil .nil) (.node 1076898871914869 23 .nil .nil)))
 (.node 117998509219717453 246 (.node 1080919739448052 152 (.node 1077169991889524 131 .nil .nil) (.node 1094248902064884 93 .nil .nil)) (.node 119722546411349960
 256 (.node 118024141886564293 230 .nil .nil) (.node 120236192283551054 258 .nil .nil))))) (.node 14901803476554183527 86 (.node 133326223225403495 167
 (.node 129367705686604532 153 (.node 127736064232830949 48 (.node 126583576305892213 58 (.node 126526674184269920 89 .nil .nil) .nil) (.node 127736070142539765
 109 .nil .nil)) (.node 132221970232653927 37 (.node 131057036035668713 16 .nil .nil) (.node 132243793181899622 13 .nil .nil))) (.node 137877758447990887
 41 (.node 136193954360638185 17 (.node 134417286386201196 192 .nil .nil) (.node 137843055647012967 36 .nil .nil)) (.node 14759913555320436454 78 (.node
 138419092324153464 43 .nil .nil) (.node 14884258940145984836 257 .nil .nil)))) (.node 16202697767158133748 60 (.node 16202697767128773477 71 (.node 16202697767067428820
 261 (.node 15121833170917145205 81 (.node 15103809421980296516 249 .nil .nil) .nil) (.node 16202697767126841594 68 .nil .nil)) (.node 16202697767147582182
 57 (.node 16202697767128985976 53 .nil .nil) (.node 16202697767158133093 63 .nil .nil))) (.node 16484809807744383732 122 (.node 16350216223150617190 30
 (.node 16202697767160281208 59 .nil .nil) (.node 16426179799230772083 155 .nil .nil)) (.node 16847275223292753893 50 (.node 16490989580092749549 15 .nil
 .nil) (.node 16927205429281125732 47 .nil .nil)))))) (.node 2248684896176681268966 38 (.node 2073945314195467301747 74 (.node 17933842993213208691 19 (.node
 17573576839591228269 1 (.node 17432822064793302765 178 (.node 17205416368056874981 6 (.node 17065756567524882933 10 .nil .nil) .nil) (.node 17567850751371999349
 24 .nil .nil)) (.node 17643911117499283941 22 (.node 17643321574441891943 168 .nil .nil) (.node 17713729940456469368 177 .nil .nil))) (.node 1895872826217241685446
 252 (.node 1886651693159976837702 253 (.node 1858979272474926310100 251 .nil .nil) (.node 1889268934499880481651 84 .nil .nil)) (.node 2073945314191700703733
 67 (.node 2073945314188946891476 260 .nil .nil) (.node 2073945314193028479605 69 .nil .nil)))) (.node 2138299980459164743656 21 (.node 2092833878114628712421
 9 (.node 2073945314197604464357 72 (.node 2073945314196532771572 55 (.node 2073945314195718845030 61 .nil .nil) .nil) (.node 2073945314197610609382 62
 .nil .nil)) (.node 2110838785433581303781 7 (.node 2110552736213600367732 5 .nil .nil) (.node 2110846666253210022759 174 .nil .nil))) (.node 2184123596493198766694
 31 (.node 2156451228582820754022 32 (.node 2156451228578794403940 20 .nil .nil) (.node 2166687902427986522726 267 .nil .nil)) (.node 2230742551062912874469
 52 (.node 2202578750178345170280 46 .nil .nil) (.node 2248684896174810378854 39 .nil .nil))))) (.node 280840493189369609892454 29 (.node 265465000216538535227770
 65 (.node 2267137867884271515624 44 (.node 2258420623038022726246 169 (.node 2257626797633001009766 42 (.node 2249417835467660475113 2 .nil .nil) .nil)
 (.node 2258997075195843016821 27 .nil .nil)) (.node 2295025845826511091685 51 (.node 2285296421363949156325 8 .nil .nil) (.node 2295743079251558758517
 28 .nil .nil))) (.node 270087123890499506205555 26 (.node 265465000217191902868325 66 (.node 265465000217154017850228 54 .nil .nil) (.node 265465000217291764954479
 56 .nil .nil)) (.node 273701753505297204818534 34 (.node 270150750235344301175653 4 .nil .nil) (.node 277290289866901682909940 0 .nil .nil)))) (.node 33979520027773970459245030
 64 (.node 29853091233947038279444421 242 (.node 293855114144198715552358 40 (.node 285535049953335775572852 45 .nil .nil) (.node 296189488591746721625461
 124 .nil .nil)) (.node 33979520027725589279980006 70 (.node 33979520027721193121134452 75 .nil .nil) (.node 33979520027729641581689461 73 .nil .nil)))
 (.node 3898562263654650824606525381 243 (.node 37011279099184069968704102 33 (.node 33979520027795616314389349 76 .nil .nil) (.node 3860501143531416602411117140
 250 .nil .nil)) (.node 566547186157551118267717580920 3 (.node 556720456131781708359625155412 259 .nil .nil) (.node 74120069799254584586236333912678 25
 .nil .nil))))))))
noncomputable def ix(x:Str):Nat:=Fe.find (fX x)
noncomputable def NT:Nat:=269
inductive E where
 |bad
 |k (v:V)
 |x (i:Nat)
 |bin (op:Operator) (a b:E)
 |neg (a:E)
 |not (a:E)
 |bl (op:BoolOp) (l:List E)
 |ite (t a b:E)
 |cmp (a:E) (op:CmpOp) (b:E)
 |cmp2 (a:E) (op:CmpOp) (b:E) (op2:CmpOp) (c:E)
 |tup (l:List E)
 |lst (l:List E)
 |dct (ks vs:List E)
 |att (o:E) (n:Nat)
 |idx (o i:E)
 |slc (o lo hi:E)
 |slcL (o lo:E)
 |slcH (o hi:E)
 |rev (o:E)
 |mth (o:E) (m:Nat) (as:List E)
 |call (f:E) (as:List E)
 |comp (e:E) (t:List Nat) (it:E) (ifs:List E)
deriving Inhabited
inductive Tg where
 |bad
 |v (i:Nat)
 |v2 (i j:Nat)
 |att (o:E) (n:Nat)
 |idx (o i:E)
inductive C where
 |bad
 |ex (e:E)
 |ret (e:E)
 |set (t:Tg) (e:E)
 |augV (i:Nat) (op:Operator) (e:E)
 |augA (o:E) (n:Nat) (op:Operator) (e:E)
 |ite (t:E) (a b:List C)
 |wh (t:E) (b:List C)
 |for_ (t:List Nat) (it:E) (b:List C)
deriving Inhabited
inductive cO where
 |loc (i:Nat)
 |gl (v:V)
 |no
noncomputable def ie(x:Str):cO:=match gl.getD (ix x) Option.none with | some v=>.gl v | Option.none=>.no
noncomputable def aX(sc:Scope):List (Nat×NameKind):=sc.names.map fun p=>(fX p.1,p.2)
noncomputable def fB:List (Nat×NameKind)→Nat→Nat→Option (Nat×NameKind)
 |[],_,_=>Option.none
 |p::r,c,i=>if p.1=c then some (i,p.2) else fB r c (i+1)
noncomputable def hK(ns:List (Nat×NameKind))(x:Str):cO:=if fX x=0 then .no else match fB ns (fX x) 0 with
 |some (_,.globalImplicit)=>ie x
 |some (_,.globalExplicit)=>.no
 |some (i,_)=>.loc i
 |Option.none=>.no
noncomputable def cP(ns:List (Nat×NameKind))(r:Str→cO)(x:Str):cO:=if fX x=0 then .no else match fB ns (fX x) 0 with
 |some (_,.globalImplicit)=>ie x
 |some (i,.local)=>.loc (100+i)
 |some (_,.free)=>r x
 |_=>.no
noncomputable def po:Const→E
 |.none=>.k .none
 |.bool b=>.k (.bool b)
 |.int i=>.k (.int i)
 |.str s=>if ix s<NT then .k (.sym (ix s)) else .bad
 |_=>.bad
noncomputable def jt(r:Str→cO):Expr→List Nat
 |.Name x _=>(match r x with | .loc i=>[i] | _=>[])
 |.Tuple [.Name x _,.Name y _] _ _=>(match r x,r y with | .loc i,.loc j=>[i,j] | _,_=>[])
 |_=>[]
mutual
noncomputable def cE:Expr→(Str→cO)→E
 |.Constant c _ _,_=>po c
 |.Name x _,r=>(match r x with | .loc i=>.x i | .gl v=>.k v | .no=>.bad)
 |.BinOp a op b _,r=>.bin op (cE a r) (cE b r)
 |.UnaryOp .Not a _,r=>.not (cE a r)
 |.UnaryOp .USub a _,r=>.neg (cE a r)
 |.BoolOp op l _,r=>.bl op (qA l r)
 |.IfExp t a b _,r=>.ite (cE t r) (cE a r) (cE b r)
 |.Compare a [op] [b] _,r=>.cmp (cE a r) op (cE b r)
 |.Compare a [op,op2] [b,c] _,r=>.cmp2 (cE a r) op (cE b r) op2 (cE c r)
 |.Tuple l _ _,r=>.tup (qA l r)
 |.List l _,r=>.lst (qA l r)
 |.Dict ks vs _,r=>.dct (Dg ks r) (qA vs r)
 |.Attribute o x _,r=>.att (cE o r) (ix x)
 |.Subscript o (.Slice (some a) (some b) Option.none _) _,r=>.slc (cE o r) (cE a r) (cE b r)
 |.Subscript o (.Slice (some a) Option.none Option.none _) _,r=>.slcL (cE o r) (cE a r)
 |.Subscript o (.Slice Option.none (some b) Option.none _) _,r=>.slcH (cE o r) (cE b r)
 |.Subscript o (.Slice Option.none Option.none (some (.UnaryOp .USub (.Constant (.int 1) _ _) _)) _) _,r=>.rev (cE o r)
 |.Subscript _ (.Slice _ _ _ _) _,_=>.bad
 |.Subscript o i _,r=>.idx (cE o r) (cE i r)
 |.Call (.Attribute o x _) as [] _,r=>.mth (cE o r) (ix x) (qA as r)
 |.Call f as [] _,r=>.call (cE f r) (qA as r)
 |.ListComp e gs csc _,r=>cG gs csc r (cE e (cP (aX csc) r))
 |_,_=>.bad
noncomputable def qA:List Expr→(Str→cO)→List E
 |[],_=>[]
 |e::l,r=>cE e r::qA l r
noncomputable def Dg:List (Option Expr)→(Str→cO)→List E
 |[],_=>[]
 |some e::l,r=>cE e r::Dg l r
 |Option.none::l,r=>.bad::Dg l r
noncomputable def cG:List Comprehension→Scope→(Str→cO)→E→E
 |[⟨t,it,ifs,_⟩],csc,r,e=>.comp e (jt (cP (aX csc) r) t) (cE it r) (qA ifs (cP (aX csc) r))
 |_,_,_,_=>.bad
end
noncomputable def cT(r:Str→cO):Expr→Tg
 |.Name x p=>(match jt r (.Name x p) with | [i]=>.v i | _=>.bad)
 |.Tuple l k p=>(match jt r (.Tuple l k p) with | [i,j]=>.v2 i j | _=>.bad)
 |.Attribute o x _=>.att (cE o r) (ix x)
 |.Subscript _ (.Slice _ _ _ _) _=>.bad
 |.Subscript o i _=>.idx (cE o r) (cE i r)
 |_=>.bad
mutual
noncomputable def cS:Stmt→(Str→cO)→C
 |.Expr e _,r=>.ex (cE e r)
 |.Return (some e) _,r=>.ret (cE e r)
 |.Assign [t] e _,r=>.set (cT r t) (cE e r)
 |.AugAssign (.Name x _) op e _,r=>(match r x with | .loc i=>.augV i op (cE e r) | _=>.bad)
 |.AugAssign (.Attribute o x _) op e _,r=>.augA (cE o r) (ix x) op (cE e r)
 |.If t a b _,r=>.ite (cE t r) (mA a r) (mA b r)
 |.While t b [] _,r=>.wh (cE t r) (mA b r)
 |.For t it b [] _,r=>.for_ (jt r t) (cE it r) (mA b r)
 |_,_=>.bad
noncomputable def mA:List Stmt→(Str→cO)→List C
 |[],_=>[]
 |s::l,r=>cS s r::mA l r
end
noncomputable abbrev pw:=PySem.Challenge.pw_xm0296_01
structure FD where
 params:List Str
 body:List Stmt
 scope:Scope
deriving Inhabited
noncomputable def wJ:Stmt→Option FD
 |.FunctionDef _ args body _ _ _ sc _ _ _=>some ⟨args.args.map (·.arg),body,sc⟩
 |_=>Option.none
noncomputable def yz(c:Nat):Stmt→Bool
 |.FunctionDef n ..=>fX n == c
 |.ClassDef n ..=>fX n == c
 |_=>false
noncomputable def EI:Stmt→List Stmt
 |.ClassDef _ _ _ body _ _ _ _ _ _ _=>body
 |_=>[]
noncomputable def Ds:Stmt→List Str
 |.ClassDef _ _ _ _ _ _ _ _ _ st _=>st
 |_=>[]
noncomputable def Gv(f:Nat):Option FD:=(pw.main.body[Dk.getD f 999]?).bind wJ
noncomputable def xy(c:Nat):List Stmt→Option Stmt
 |[]=>Option.none
 |s::r=>if yz c s then some s else xy c r
noncomputable def Gk(c f:Nat):Option FD:=(pw.main.body[Dk.getD c 999]?).bind fun s=>(xy (fX (Str.ofString (nm.getD f ""))) (EI s)).bind wJ
noncomputable def Dj(c:Nat):List Nat:=((pw.main.body[Dk.getD c 999]?).map fun s=>(Ds s).map ix).getD []
structure Fn where
 ps:List Nat
 body:List C
noncomputable def Cp(d:FD):List (Nat×NameKind)→Fn:=fun ns=>⟨d.params.map fun x=>((fB ns (fX x) 0).map (·.1)).getD 99,mA d.body (hK ns)⟩
noncomputable def FD.fn(d:FD):Fn:=Cp d (aX d.scope)
noncomputable abbrev H:=Addr→Option O
noncomputable def H.set(Z:H)(a:Addr)(o:O):H:=fun b=>if b=a then some o else Z b
noncomputable def Env:=Nat→Option V
noncomputable def Env.set(U:Env)(i:Nat)(v:V):Env:=fun j=>if j=i then some v else U j
noncomputable def Env.outer(U:Env):Env:=fun j=>if j<100 then U j else Option.none
noncomputable def Env.nil:Env:=fun za=>Option.none
noncomputable def bL:Nat:=100000
mutual
noncomputable def dH:V→V→Bool
 |.none,.none=>true
 |.int a,.int b=>decide (a=b)
 |.sym a,.sym b=>decide (a=b)
 |.tup l,.tup m=>mQ l m
 |_,_=>false
noncomputable def mQ:List V→List V→Bool
 |[],[]=>true
 |a::l,b::m=>dH a b && mQ l m
 |_,_=>false
end
mutual
noncomputable def pv:Nat→V→Bool
 |_,.none=>true
 |_,.int _=>true
 |_,.sym n=>decide (n<NT)
 |n+1,.tup l=>yo n l
 |_,_=>false
noncomputable def yo:Nat→List V→Bool
 |_,[]=>true
 |n,a::l=>pv n a && yo n l
end
mutual
noncomputable def hk:Nat→V→Bool
 |_,.int _=>true
 |_,.sym n=>decide (n<NT)
 |n+1,.tup l=>tL n l
 |_,_=>false
noncomputable def tL:Nat→List V→Bool
 |_,[]=>true
 |n,a::l=>hk n a && tL n l
end
noncomputable def key(v:V):Bool:=hk 4 v
noncomputable def mI:V→Nat
 |.int _=>1
 |.sym _=>2
 |.tup _=>3
 |_=>0
noncomputable def bd(es:List (V×V))(k:V):Bool:=key k && (match es with | []=>true | e::_=>mI e.1 == mI k)
noncomputable def rq(es:List (V×V)):Bool:=es.all fun e=>bd es e.1
noncomputable def aI:List (V×V)→V→Option V
 |[],_=>Option.none
 |e::es,k=>if dH e.1 k then some e.2 else aI es k
noncomputable def bI:List (V×V)→V→V→List (V×V)
 |[],k,v=>[(k,v)]
 |e::es,k,v=>if dH e.1 k then(e.1,v)::es else e::bI es k v
noncomputable def dI:List (Nat×V)→Nat→Option V
 |[],_=>Option.none
 |e::fs,x=>if e.1=x then some e.2 else dI fs x
noncomputable def cX:List (Nat×V)→Nat→V→List (Nat×V)
 |[],x,v=>[(x,v)]
 |e::fs,x,v=>if e.1=x then(e.1,v)::fs else e::cX fs x v
noncomputable def cw(n:Nat):Str:=Str.ofString (nm.getD n "")
mutual
noncomputable def gM:V→PyData
 |.int i=>.int i
 |.sym n=>.str (cw n)
 |.tup l=>.tuple (fT l)
 |_=>.none
noncomputable def fT:List V→List PyData
 |[]=>[]
 |a::l=>gM a::fT l
end
noncomputable def kC(Z:H):Nat→V→Option PyData
 |n+1,.ref a=>match Z a with
  |some (.list xs)=>(xs.mapM (kC Z n)).map PyData.list
  |_=>Option.none
 |_,x=>if pv 30 x then some (gM x) else Option.none
noncomputable def nc(Z:H)(x y:V):Prop:=∃ d,kC Z 6 x=some d∧kC Z 6 y=some d
noncomputable def f8(Z:H):List (V×V)→List (V×V)→Prop
 |[],[]=>True
 |e::es,f::fs=>e.1=f.1∧(∃ i,e.1=.int i)∧nc Z e.2 f.2∧f8 Z es fs
 |_,_=>False
noncomputable def zm(Z:H)(x y:V)(b:Bool):Prop:=match x,y with
 |.ref p,.ref q=>b=true∧(nc Z (.ref p) (.ref q)∨∃ es fs,Z p=some (.dict es)∧Z q=some (.dict fs)∧f8 Z es fs)
 |.bool p,.bool q=>b=(p == q)
 |x,y=>(pv 30 x && pv 30 y)=true∧b=dH x y
noncomputable def ue:CmpOp→Int→Int→Option Bool
 |.Lt,a,b=>some (decide (a<b))
 |.LtE,a,b=>some (decide (a≤b))
 |.Gt,a,b=>some (decide (b<a))
 |.GtE,a,b=>some (decide (b≤a))
 |_,_,_=>Option.none
noncomputable def pa:V→Bool
 |.none=>true
 |_=>false
noncomputable def gR:List Int:=[20,9,10,11,12,13,14,15,16,17,18,19,1,4]
noncomputable def A5(Z:H):V→V→Option Bool
 |k,.ref b=>match Z b with
  |some (.dict es)=>if bd es k then some (aI es k).isSome else Option.none
  |_=>Option.none
 |.int i,.gd=>some (gR.contains i)
 |_,_=>Option.none
noncomputable def yX:V→Option Bool
 |.none=>some true
 |.bi _=>Option.none
 |_=>some false
noncomputable def d8(Z:H)(op:CmpOp)(a b:V)(c:Bool):Prop:=match op with
 |.Is=>b=.none∧yX a=some c
 |.IsNot=>b=.none∧yX a=some (!c)
 |.Eq=>zm Z a b c
 |.NotEq=>zm Z a b (!c)
 |.In=>A5 Z a b=some c
 |.NotIn=>A5 Z a b=some (!c)
 |op=>∃ x y,a=.int x∧b=.int y∧ue op x y=some c
noncomputable abbrev aO:=V→H→Prop
noncomputable def gb(o:O)(Q:aO)(Z:H):Prop:=∀ a,Z a=Option.none→Q (.ref a) (Z.set a o)
noncomputable def jY(a b:V)(k:Int→Int→Prop):Prop:=match a with
 |.int x=>(match b with | .int y=>k x y | _=>False)
 |_=>False
theorem fD{a b:V}{k:Int→Int→Prop}(h:jY a b k):∃ x y,a=.int x∧b=.int y∧k x y:=by
 induction a using V.casesOn with
 |int x=>induction b using V.casesOn with
  |int y=>exact⟨x,y,rfl,rfl,h⟩
  |_=>exact False.elim h
 |_=>exact False.elim h
noncomputable def wY(op:Operator)(a b:V)(Q:aO)(Z:H):Prop:=match op with
 |.Add=>(match a with
  |.int x=>(match b with | .int y=>Q (.int (x+y)) Z | _=>False)
  |.sym _=>(match b with | .str y=>y.cps.size≤5∧Q (.str ⟨y.cps.push 0⟩) Z | _=>False)
  |.tup x=>(match b with | .tup y=>(x.length+y.length≤bL)∧Q (.tup (x++y)) Z | _=>False)
  |.ref x=>(match b with | .ref y=>∃ xs ys,Z x=some (.list xs)∧Z y=some (.list ys)∧(xs.length+ys.length≤bL)∧gb (.list (xs++ys)) Q Z | _=>False)
  |_=>False)
 |.Sub=>jY a b fun x y=>Q (.int (x - y)) Z
 |.Mult=>(match a with
  |.int x=>(match b with | .int y=>(x.natAbs<2 ^ 40∧y.natAbs<2 ^ 40)∧Q (.int (x * y)) Z | _=>False)
  |.tup l=>(match l with | [x]=>(match b with | .int y=>y=2∧Q (.tup [x,x]) Z | _=>False) | _=>False)
  |_=>False)
 |.FloorDiv=>jY a b fun x y=>(0<y∧y<2 ^ 30)∧Q (.int (x / y)) Z
 |.Mod=>jY a b fun x y=>0<y∧Q (.int (x % y)) Z
 |.Pow=>jY a b fun x y=>(x=2∧0≤y∧y<32)∧Q (.int (2 ^ y.toNat)) Z
 |.RShift=>jY a b fun x y=>(0≤x∧0≤y∧y<32)∧Q (.int (x / 2 ^ y.toNat)) Z
 |.BitAnd=>jY a b fun x y=>(x=1∧y=1)∧Q (.int 1) Z
 |_=>False
noncomputable def kT(k:V):Option O→Option V
 |some (.list xs)=>(match k with | .int i=>if 0≤i then xs[i.toNat]? else Option.none | _=>Option.none)
 |some (.dict es)=>if bd es k then aI es k else Option.none
 |_=>Option.none
noncomputable def bD(Z:H):V→V→Option V
 |.tup l,.int i=>if 0≤i then l[i.toNat]? else Option.none
 |.ref a,k=>kT k (Z a)
 |_,_=>Option.none
noncomputable def sz(Z:H)(a:Addr)(k v:V):Option O→Option H
 |some (.list xs)=>(match k with | .int i=>if 0≤i∧i<xs.length then some (Z.set a (.list (xs.set i.toNat v))) else Option.none | _=>Option.none)
 |some (.dict es)=>if bd es k∧es.length<bL then some (Z.set a (.dict (bI es k v))) else Option.none
 |_=>Option.none
noncomputable def eS(Z:H):V→V→V→Option H
 |.ref a,k,v=>sz Z a k v (Z a)
 |_,_,_=>Option.none
noncomputable abbrev aN:=Option Nat→Nat→List V→aO→H→Prop
noncomputable def bp(Z:H):V→Option (List V)
 |.tup l=>some l
 |.rng n=>some ((List.range n.toNat).map fun(i:Nat)=>V.int (i:Int))
 |.ref a=>match Z a with
  |some (.list xs)=>some xs
  |_=>Option.none
 |_=>Option.none
noncomputable def sJ:V→Prop
 |.rng n=>n≤1000
 |_=>True
noncomputable def cL:List Nat→V→Env→Option Env
 |[i],v,U=>some (U.set i v)
 |[i,j],.tup [v,u],U=>some ((U.set i v).set j u)
 |_,_,_=>Option.none
noncomputable def cZ(c:Nat):Bool:=decide (78≤c) && decide (c<89)
noncomputable def gH(c:Nat):Bool:=!(c == 83 || c == 84)
noncomputable def n4:V→Bool
 |.fn _=>true
 |.bi _=>true
 |_=>false
noncomputable def A3(vs:List V)(k:V→Prop):Prop:=match vs with
 |[]=>False
 |v::l=>(match l with
  |[]=>k v
  |_::_=>False)
theorem jQ{vs:List V}{k:V→Prop}(h:A3 vs k):∃ v,vs=[v]∧k v:=by
 induction vs using List.casesOn with
 |nil=>exact False.elim h
 |cons v l=>induction l using List.casesOn with
  |nil=>exact⟨v,rfl,h⟩
  |cons _ _=>exact False.elim h
noncomputable def wZ(n:Nat)(vs:List V)(Q:aO)(Z:H):Prop:=match n with
 |0=>A3 vs fun v=>(match v with
  |.tup l=>Q (.int l.length) Z
  |.ref a=>∃ xs,Z a=some (.list xs)∧Q (.int xs.length) Z
  |_=>False)
 |1=>A3 vs fun v=>∃ n,v=.int n∧(0≤n∧n<2 ^ 40)∧Q (.rng n) Z
 |2=>A3 vs fun v=>(match v with
  |.tup l=>Q (.tup l) Z
  |.ref a=>∃ xs,Z a=some (.list xs)∧Q (.tup xs) Z
  |_=>False)
 |3=>A3 vs fun v=>∃ l,v=.tup l∧gb (.list l) Q Z
 |4=>A3 vs fun v=>∃ n,v=.int n∧(0≤n∧n<10)∧Q (.str Str.empty) Z
 |5=>∃ b,vs=[.bool b,.bi 6]∧Q (.bool true) Z
 |_=>False
noncomputable def fH(C:aN)(f:V)(vs:List V)(Q:aO)(Z:H):Prop:=match f with
 |.fn x=>if cZ x then
   (if gH x then ∀ a,Z a=Option.none→C (some x) 89 (.ref a::vs) (fun r Z'=>pa r=true∧Q (.ref a) Z') (Z.set a (.inst x []))
    else vs=[]∧gb (.inst x []) Q Z)
  else C Option.none x vs Q Z
 |.bi n=>wZ n vs Q Z
 |_=>False
inductive MK where
 |tup
 |list
 |dict
 |inst (c:Nat)
noncomputable def fA(Z:H):V→Option MK
 |.tup _=>some .tup
 |.ref a=>(match Z a with
  |some (.list _)=>some .list
  |some (.dict _)=>some .dict
  |some (.inst c _)=>some (.inst c)
  |_=>Option.none)
 |_=>Option.none
noncomputable def xr(C:aN)(k:MK)(o:V)(name:Nat)(vs:List V)(Q:aO)(Z:H):Prop:=match k with
 |.tup=>name=91∧(match o,vs with
   |.tup l,[.int i]=>∃ (is:List Int) (j:Nat),l=is.map V.int∧is.findIdx? (fun x=>x == i)=some j∧Q (.int j) Z
   |_,_=>False)
 |.list=>(match o with
  |.ref a=>∃ xs,Z a=some (.list xs)∧(match vs with
    |[v]=>name=95∧xs.length<bL∧Q .none (Z.set a (.list (xs++[v])))
    |[]=>name=110∧∃ v,xs.getLast? = some v∧Q v (Z.set a (.list xs.dropLast))
    |_=>False)
  |_=>False)
 |.dict=>name=99∧(match o with
  |.ref a=>∃ es,Z a=some (.dict es)∧(match vs with
    |[k]=>bd es k=true∧Q ((aI es k).getD .none) Z
    |[k,d]=>bd es k=true∧Q ((aI es k).getD d) Z
    |_=>False)
  |_=>False)
 |.inst c=>C (some c) name (o::vs) Q Z
noncomputable def dF:List (V×V)→List (V×V)→List (V×V)
 |acc,[]=>acc
 |acc,e::r=>dF (bI acc e.1 e.2) r
noncomputable def oh:List (Nat×List Nat):=[(78,[90,91,92,93,94]),(79,[111,112,113,114,115,116]),(80,[117,118,119,120,121,122,123,124,125,126,127,128]),(81,[129,130,131]),(82,[97,136,137,138,134,133,139,140,141,142,135,102,132,143,144]),(85,[149,150,129,151,90,152,153,154,130,155,131,156,157,158,159,160,161,162,163,164,165]),(86,[179,180,181,182,183,184,185,186,187,188,189,190,137,191]),(87,[133,192,193,194]),(88,[150,195,196,197,198,199,200])]
noncomputable def bk(c:Nat):List Nat:=(oh.lookup c).getD []
noncomputable def fP:List (Nat×Nat):=[(78,96),(78,98),(84,112),(85,167),(85,168),(85,172),(85,173),(85,176),(78,89),(79,89),(80,89),(81,89),(82,89),(85,89),(86,89),(87,89),(88,89)]
noncomputable def fo:MK→Nat→Bool
 |.tup,m=>m == 91
 |.list,m=>m == 95 || m == 110
 |.dict,m=>m == 99
 |.inst c,m=>fP.contains (c,m) && m != 89
noncomputable def cR(Z:H)(o:V)(x:Nat):Option V:=match o with
 |.ref a=>(match Z a with
  |some (.inst c fs)=>if(bk c).contains x then dI fs x else Option.none
  |_=>Option.none)
 |_=>Option.none
noncomputable def de(Z:H)(o:V)(x:Nat)(v:V):Option H:=match o with
 |.ref a=>(match Z a with
  |some (.inst c fs)=>if(bk c).contains x then some (Z.set a (.inst c (cX fs x v))) else Option.none
  |_=>Option.none)
 |_=>Option.none
inductive Fl where
 |next
 |ret (v:V)
noncomputable abbrev bK:=Fl→Env→H→Prop
noncomputable def ik(live:H→Prop)(bind:V→Option Env)(tests:Env→(Bool→H→Prop)→H→Prop)(elt:Env→aO→H→Prop):List V→List V→(List V→H→Prop)→H→Prop
 |[],acc,K,Z=>K acc Z
 |x::xs,acc,K,Z=>∃ U',bind x=some U'∧tests U' (fun b Zq=>(b=true→elt U' (fun v Zr=>live Zr∧ik live bind tests elt xs (acc++[v]) K Zr) Zq)∧
   (b=false→live Zq∧ik live bind tests elt xs acc K Zq)) Z
noncomputable def l9(live:H→Prop)(bind:V→Env→Option Env)(body:Env→bK→H→Prop):List V→Env→bK→H→Prop
 |[],U,Q,Z=>Q .next U Z
 |x::xs,U,Q,Z=>∃ U',bind x U=some U'∧body U' (fun f U'' Z'=>match f with
   |.next=>live Z'∧l9 live bind body xs U'' Q Z'
   |.ret v=>Q (.ret v) U'' Z') Z
noncomputable def iy(test:Env→(Bool→H→Prop)→H→Prop)(body:Env→bK→H→Prop):Nat→Env→bK→H→Prop
 |0,_,_,_=>False
 |n+1,U,Q,Z=>test U (fun b Zq=>(b=true→body U (fun f U' Zr=>match f with
   |.next=>iy test body n U' Q Zr
   |.ret v=>Q (.ret v) U' Zr) Zq)∧(b=false→Q .next U Zq)) Z
noncomputable def A4:List (aO→H→Prop)→List (aO→H→Prop)→(List (V×V)→H→Prop)→H→Prop
 |[],[],Q,Z=>Q [] Z
 |k::ks,e::es,Q,Z=>k (fun k' Zq=>e (fun v Zr=>A4 ks es (fun r Za=>Q ((k',v)::r) Za) Zr) Zq) Z
 |_,_,_,_=>False
noncomputable def EH(_ _ _:V)(_:aO)(_:H):Prop:=False
noncomputable def t9(a l:V)(Q:aO)(Z:H):Prop:=match a,l with
 |.tup s,.int i=>(0≤i∧i<2 ^ 40)∧Q (.tup (s.drop i.toNat)) Z
 |_,_=>False
noncomputable def ua(a h:V)(Q:aO)(Z:H):Prop:=match a,h with
 |.tup s,.int j=>(0≤j∧j<2 ^ 40)∧Q (.tup (s.take j.toNat)) Z
 |.ref p,.int j=>∃ xs,Z p=some (.list xs)∧(0≤j∧j<2 ^ 40)∧gb (.list (xs.take j.toNat)) Q Z
 |.arg xs,.int j=>(0≤j∧j<2 ^ 40)∧gb (.list (xs.take j.toNat)) Q Z
 |_,_=>False
noncomputable def sM(a:V)(Q:aO)(Z:H):Prop:=match a with
 |.ref p=>∃ xs,Z p=some (.list xs)∧gb (.list xs.reverse) Q Z
 |_=>False
noncomputable def BF(a:V)(Q:aO)(Z:H):Prop:=match a with
 |.int i=>Q (.int (-i)) Z
 |_=>False
noncomputable def xm(Q:Bool→H→Prop):aO:=fun v Z=>match v with
 |.bool b=>Q b Z
 |_=>False
mutual
noncomputable def dd(C:aN):E→Env→aO→H→Prop
 |.bad,_,_,_=>False
 |.k v,_,Q,Z=>Q v Z
 |.x i,U,Q,Z=>∃ v,U i=some v∧Q v Z
 |.bin op a b,U,Q,Z=>dd C a U (fun u Zq=>dd C b U (fun v Zr=>wY op u v Q Zr) Zq) Z
 |.neg a,U,Q,Z=>dd C a U (fun u Zq=>BF u Q Zq) Z
 |.not a,U,Q,Z=>oq C a U (dd C a U) (fun b Zq=>Q (.bool (!b)) Zq) Z
 |.bl op l,U,Q,Z=>xW C op l U (fun b Zq=>Q (.bool b) Zq) Z
 |.ite t a b,U,Q,Z=>oq C t U (dd C t U) (fun c Zq=>(c=true→dd C a U Q Zq)∧(c=false→dd C b U Q Zq)) Z
 |.cmp a op b,U,Q,Z=>dd C a U (fun u Zq=>dd C b U (fun v Zr=>∃ c,d8 Zr op u v c∧Q (.bool c) Zr) Zq) Z
 |.cmp2 a op b op2 c,U,Q,Z=>dd C a U (fun u Zq=>dd C b U (fun v Zr=>∃ r,d8 Zr op u v r∧(r=true→dd C c U (fun w Za=>∃ r2,d8 Za op2 v w r2∧Q (.bool r2) Za) Zr)∧(r=false→Q (.bool false) Zr)) Zq) Z
 |.tup l,U,Q,Z=>kq C l U (fun vs Zq=>Q (.tup vs) Zq) Z
 |.lst l,U,Q,Z=>kq C l U (fun vs Zq=>gb (.list vs) Q Zq) Z
 |.dct ks vs,U,Q,Z=>A4 (sj C ks U) (sj C vs U) (fun es Zq=>rq es=true∧gb (.dict (dF [] es)) Q Zq) Z
 |.att o n,U,Q,Z=>dd C o U (fun a Zq=>∃ v,cR Zq a n=some v∧Q v Zq) Z
 |.idx o i,U,Q,Z=>dd C o U (fun a Zq=>dd C i U (fun k Zr=>∃ v,bD Zr a k=some v∧Q v Zr) Zq) Z
 |.slc o lo hi,U,Q,Z=>dd C o U (fun a Zq=>dd C lo U (fun l Zr=>dd C hi U (fun h Za=>EH a l h Q Za) Zr) Zq) Z
 |.slcL o lo,U,Q,Z=>dd C o U (fun a Zq=>dd C lo U (fun l Zr=>t9 a l Q Zr) Zq) Z
 |.slcH o hi,U,Q,Z=>dd C o U (fun a Zq=>dd C hi U (fun h Zr=>ua a h Q Zr) Zq) Z
 |.rev o,U,Q,Z=>dd C o U (fun a Zq=>sM a Q Zq) Z
 |.mth o m as,U,Q,Z=>dd C o U (fun a Zq=>∃ k,fA Zq a=some k∧fo k m=true∧kq C as U (fun vs Zr=>xr C k a m vs Q Zr) Zq) Z
 |.call f as,U,Q,Z=>dd C f U (fun g Zq=>n4 g=true∧kq C as U (fun vs Zr=>fH C g vs Q Zr) Zq) Z
 |.comp e t it ifs,U,Q,Z=>dd C it U (fun v Zq=>∃ xs,bp Zq v=some xs∧sJ v∧
   ik (fun Z'=>bp Z' v=some xs) (fun x=>cL t x U.outer) (fun U' K Z'=>lu C ifs U' K Z') (fun U' K Z'=>dd C e U' K Z') xs [] (fun out Zr=>gb (.list out) Q Zr) Zq) Z
noncomputable def kq(C:aN):List E→Env→(List V→H→Prop)→H→Prop
 |[],_,Q,Z=>Q [] Z
 |e::es,U,Q,Z=>dd C e U (fun v Zq=>kq C es U (fun vs Zr=>Q (v::vs) Zr) Zq) Z
noncomputable def sj(C:aN):List E→Env→List (aO→H→Prop)
 |[],_=>[]
 |e::r,U=>dd C e U::sj C r U
noncomputable def oq(C:aN):E→Env→(aO→H→Prop)→(Bool→H→Prop)→H→Prop
 |.not a,U,_,Q,Z=>oq C a U (dd C a U) (fun b Zq=>Q (!b) Zq) Z
 |.bl op l,U,_,Q,Z=>xW C op l U Q Z
 |_,_,whole,Q,Z=>whole (xm Q) Z
noncomputable def xW(C:aN):BoolOp→List E→Env→(Bool→H→Prop)→H→Prop
 |_,[],_,_,_=>False
 |_,[e],U,Q,Z=>oq C e U (dd C e U) Q Z
 |op,e::es,U,Q,Z=>oq C e U (dd C e U) (fun b Zq=>(match op with
    |.And=>(b=true→xW C op es U Q Zq)∧(b=false→Q false Zq)
    |.Or=>(b=true→Q true Zq)∧(b=false→xW C op es U Q Zq))) Z
noncomputable def lu(C:aN):List E→Env→(Bool→H→Prop)→H→Prop
 |[],_,Q,Z=>Q true Z
 |e::es,U,Q,Z=>oq C e U (dd C e U) (fun b Zq=>(b=true→lu C es U Q Zq)∧(b=false→Q false Zq)) Z
end
noncomputable def dM(C:aN):Tg→V→Env→(Env→H→Prop)→H→Prop
 |.bad,_,_,_,_=>False
 |.v i,v,U,Q,Z=>Q (U.set i v) Z
 |.v2 i j,v,U,Q,Z=>∃ U',cL [i,j] v U=some U'∧Q U' Z
 |.att o n,v,U,Q,Z=>dd C o U (fun a Zq=>∃ Z',de Zq a n v=some Z'∧Q U Z') Z
 |.idx o i,v,U,Q,Z=>dd C o U (fun a Zq=>dd C i U (fun k Zr=>∃ Z',eS Zr a k v=some Z'∧Q U Z') Zq) Z
noncomputable def rP:Operator→Int→Int→Option Int
 |.Add,a,b=>some (a+b)
 |.Sub,a,b=>some (a - b)
 |_,_,_=>Option.none
mutual
noncomputable def E1(K:aN):C→Env→bK→H→Prop
 |.bad,_,_,_=>False
 |.ex e,U,Q,Z=>dd K e U (fun za Zq=>Q .next U Zq) Z
 |.ret e,U,Q,Z=>dd K e U (fun v Zq=>Q (.ret v) U Zq) Z
 |.set t e,U,Q,Z=>dd K e U (fun v Zq=>dM K t v U (fun U' Zr=>Q .next U' Zr) Zq) Z
 |.augV i op e,U,Q,Z=>∃ a,U i=some (.int a)∧dd K e U (fun b Zq=>∃ c d,b=.int c∧rP op a c=some d∧Q .next (U.set i (.int d)) Zq) Z
 |.augA o n op e,U,Q,Z=>dd K o U (fun a Zq=>∃ u,cR Zq a n=some (.int u)∧dd K e U (fun b Zr=>∃ c d,b=.int c∧rP op u c=some d∧∃ Z',de Zr a n (.int d)=some Z'∧Q .next U Z') Zq) Z
 |.ite t a b,U,Q,Z=>oq K t U (dd K t U) (fun c Zq=>(c=true→eO K a U Q Zq)∧(c=false→eO K b U Q Zq)) Z
 |.wh t b,U,Q,Z=>∃ n,iy (fun U' K' Z'=>oq K t U' (dd K t U') K' Z') (fun U' K' Z'=>eO K b U' K' Z') n U Q Z
 |.for_ t it b,U,Q,Z=>dd K it U (fun v Zq=>∃ xs,bp Zq v=some xs∧l9 (fun Z'=>bp Z' v=some xs) (fun x U'=>cL t x U') (fun U' K' Z'=>eO K b U' K' Z') xs U Q Zq) Z
noncomputable def eO(K:aN):List C→Env→bK→H→Prop
 |[],U,Q,Z=>Q .next U Z
 |s::r,U,Q,Z=>E1 K s U (fun f U' Z'=>(match f with
   |.next=>eO K r U' Q Z'
   |.ret v=>Q (.ret v) U' Z')) Z
end
noncomputable def bU:List Nat→List V→Env→Env
 |x::xs,v::vs,U=>bU xs vs (U.set x v)
 |_,_,U=>U
noncomputable def fq(Q:aO):bK:=fun fl za Z=>match fl with
 |.ret v=>Q v Z
 |.next=>Q .none Z
noncomputable def E2(K:aN)(f:Fn)(vs:List V)(Q:aO)(Z:H):Prop:=f.ps.length=vs.length∧eO K f.body (bU f.ps vs Env.nil) (fq Q) Z
noncomputable def pe(c:Option Nat)(f:Nat):Option FD:=match c with
 |Option.none=>if f<78 then Gv f else Option.none
 |some c=>if fP.contains (c,f) then Gk c f else Option.none
noncomputable def a8:Nat→aN
 |0=>fun za za za za za=>False
 |n+1=>fun c f vs Q Z=>∃ fd,pe c f=some fd∧E2 (a8 n) fd.fn vs Q Z
theorem ff{Q:Prop}(h:false=true):Q:=nomatch h
theorem tf{Q:Prop}(h:true=false):Q:=nomatch h
theorem ns{α:Type _}{a:α}{Q:Prop}(h:Option.none=some a):Q:=nomatch h
theorem sn{α:Type _}{a:α}{Q:Prop}(h:some a=Option.none):Q:=nomatch h
end Mine
namespace Mine
open PySem PySem.W PySem.Calls PyProof.Rows
theorem dg{a b:Bool}(h:(a && b)=true):a=true∧b=true:=Bool.and_eq_true_iff.mp h
theorem pB{a b c:Bool}(h:(a && b && c)=true):(a=true∧b=true)∧c=true:=⟨dg (dg h).1,(dg h).2⟩
theorem CI{a b c d:Bool}(h:(a && b && c && d)=true):((a=true∧b=true)∧c=true)∧d=true:=⟨pB (dg h).1,(dg h).2⟩
theorem AE{a b c d e:Bool}(h:(a && b && c && d && e)=true):(((a=true∧b=true)∧c=true)∧d=true)∧e=true:=⟨CI (dg h).1,(dg h).2⟩
theorem EP{a b c d e f:Bool}(h:(a && b && c && d && e && f)=true):((((a=true∧b=true)∧c=true)∧d=true)∧e=true)∧f=true:=⟨AE (dg h).1,(dg h).2⟩
theorem cN{G:Prop}(h:∀ P:Prop,(G→P)→P):G:=h G id
structure GT where
 fn:Nat→Option Addr
 gd:Addr
 mt:Nat→Nat→Option Addr
 arg:Addr
 argl:List V
noncomputable def kg:Nat→Option Value
 |0=>some (.builtin "len")
 |1=>some (.type "range")
 |2=>some (.type "tuple")
 |3=>some (.type "list")
 |4=>some (.type "str")
 |5=>some (.builtin "isinstance")
 |6=>some (.type "bool")
 |_=>Option.none
theorem kf{P:Nat→Value→Prop}{n:Nat}{f:Value}(h0:P 0 (.builtin "len"))(h1:P 1 (.type "range"))(h2:P 2 (.type "tuple"))(h3:P 3 (.type "list"))
  (h4:P 4 (.type "str")) (h5:P 5 (.builtin "isinstance")) (h6:P 6 (.type "bool")):kg n=some f→P n f:=by
 have go:∀ {a:Value} {n},P n a→some a=some f→P n f:=fun p e=>aP e▸p
 induction n using Nat.casesAuxOn with
 |zero=>exact go h0
 |succ n=>induction n using Nat.casesAuxOn with
  |zero=>exact go h1
  |succ n=>induction n using Nat.casesAuxOn with
   |zero=>exact go h2
   |succ n=>induction n using Nat.casesAuxOn with
    |zero=>exact go h3
    |succ n=>induction n using Nat.casesAuxOn with
     |zero=>exact go h4
     |succ n=>induction n using Nat.casesAuxOn with
      |zero=>exact go h5
      |succ n=>induction n using Nat.casesAuxOn with
       |zero=>exact go h6
       |succ n=>exact ns
mutual
inductive bg (G:GT) (h:Heap):Value→V→Prop
 |none:bg G h .none .none
 |bool (b:Bool):bg G h (.bool b) (.bool b)
 |int (i:Int) (t:Tok):bg G h (.int i t) (.int i)
 |sym (n:Nat) (t:Tok):n<NT→bg G h (.str (cw n) t) (.sym n)
 |str (x y:Str) (t:Tok):x.length≤10+100 * y.length→bg G h (.str x t) (.str y)
 |tup {a:Addr} {vs:Array Value} {n:Nat} {l:List V}:h.get? a=some { cls:=.type "tuple",data:=.seq vs n }→bw G h vs.toList l→l.length≤bL→bg G h (.ref a) (.tup l)
 |ref (a:Addr):bg G h (.ref a) (.ref a)
 |rng {a:Addr} {n:Int} {t u v:Tok}:IsRange h a 0 n 1 t u v→(0≤n∧n<2 ^ 40)→bg G h (.ref a) (.rng n)
 |bi {n:Nat} {v:Value}:kg n=some v→bg G h v (.bi n)
 |fn {n:Nat} {a:Addr}:G.fn n=some a→bg G h (.ref a) (.fn n)
 |gd:bg G h (.ref G.gd) .gd
 |arg:bg G h (.ref G.arg) (.arg G.argl)
inductive bw (G:GT) (h:Heap):List Value→List V→Prop
 |nil:bw G h [] []
 |cons {v:Value} {vs:List Value} {x:V} {xs:List V}:bg G h v x→bw G h vs xs→bw G h (v::vs) (x::xs)
end
section
variable {G:GT} {h:Heap} {v:Value}
noncomputable def EY(G:GT)(h:Heap)(v:Value):V→Prop
 |.none=>v=.none
 |.bool b=>v=.bool b
 |.int i=>∃ t,v=.int i t
 |.sym n=>∃ t,v=.str (cw n) t∧n<NT
 |.str y=>∃ x t,v=.str x t∧x.length≤10+100 * y.length
 |.tup l=>∃ a vs n,v=.ref a∧h.get? a=some { cls:=.type "tuple",data:=.seq vs n }∧bw G h vs.toList l∧l.length≤bL
 |.ref a=>v=.ref a
 |.rng n=>∃ a t u w,v=.ref a∧IsRange h a 0 n 1 t u w∧(0≤n∧n<2 ^ 40)
 |.bi n=>kg n=some v
 |.fn n=>∃ a,v=.ref a∧G.fn n=some a
 |.gd=>v=.ref G.gd
 |.arg l=>v=.ref G.arg∧l=G.argl
theorem bg.inv{x:V}(r:bg G h v x):EY G h v x:=by
 induction r using bg.casesOn with
 |none | bool | ref | gd=>rfl
 |int _ t=>exact⟨t,rfl⟩
 |sym _ t e=>exact⟨t,rfl,e⟩
 |str x _ t e=>exact⟨x,t,rfl,e⟩
 |tup e r z=>exact⟨_,_,_,rfl,e,r,z⟩
 |rng e z=>exact⟨_,_,_,_,rfl,e,z⟩
 |bi e=>exact e
 |fn e=>exact⟨_,rfl,e⟩
 |arg=>exact⟨rfl,rfl⟩
theorem bg.tup_inv{l:List V}(r:bg G h v (.tup l)):∃ a vs n,v=.ref a∧h.get? a=some { cls:=.type "tuple",data:=.seq vs n }∧bw G h vs.toList l∧l.length≤bL:=r.inv
theorem bg.int_inv{i:Int}(r:bg G h v (.int i)):∃ t,v=.int i t:=r.inv
theorem bg.sym_inv{i:Nat}(r:bg G h v (.sym i)):∃ t,v=.str (cw i) t∧i<NT:=r.inv
theorem bg.str_inv{y:Str}(r:bg G h v (.str y)):∃ x t,v=.str x t∧x.length≤10+100 * y.length:=r.inv
theorem bg.none_inv(r:bg G h v .none):v=.none:=r.inv
theorem bg.bool_inv{b:Bool}(r:bg G h v (.bool b)):v=.bool b:=r.inv
theorem bg.ref_inv{a:Addr}(r:bg G h v (.ref a)):v=.ref a:=r.inv
theorem bg.rng_inv{n:Int}(r:bg G h v (.rng n)):∃ a t u w,v=.ref a∧IsRange h a 0 n 1 t u w∧(0≤n∧n<2 ^ 40):=r.inv
theorem bg.bi_inv{n:Nat}(r:bg G h v (.bi n)):kg n=some v:=r.inv
theorem bg.fn_inv{n:Nat}(r:bg G h v (.fn n)):∃ a,v=.ref a∧G.fn n=some a:=r.inv
theorem bg.gd_inv(r:bg G h v .gd):v=.ref G.gd:=r.inv
end
noncomputable def cu(o:Obj):Prop:=(o.cls=.type "tuple" ∧∃ vs n,o.data=.seq vs n)∨(o.cls=.type "range" ∧∃ vs,o.data=.fields vs)
theorem cu.tup{vs:Array Value}{n:Nat}:cu { cls:=.type "tuple",data:=.seq vs n }:=.inl ⟨rfl,_,_,rfl⟩
theorem cu.rng{vs:Array Value}:cu { cls:=.type "range",data:=.fields vs }:=.inr ⟨rfl,_,rfl⟩
noncomputable def b7(h h':Heap):Prop:=∀ b o,h.get? b=some o→cu o→h'.get? b=some o
theorem b7.refl(h:Heap):b7 h h:=fun za za e za=>e
theorem b7.trans{h h' h'':Heap}(x:b7 h h')(y:b7 h' h''):b7 h h'':=fun b o e c=>y b o (x b o e c) c
theorem bg.stays{G:GT}{h h':Heap}(k:b7 h h'){v:Value}{x:V}(r:bg G h v x):bg G h' v x:=
 bg.rec (motive_1:=fun v x za=>bg G h' v x) (motive_2:=fun vs xs za=>bw G h' vs xs) .none .bool .int .sym .str (fun e za z q=>.tup (k _ _ e .tup) q z) .ref (fun e z=>.rng (k _ _ e .rng) z) .bi .fn .gd .arg .nil (fun za za a b=>.cons a b) r
theorem bw.stays{G:GT}{h h':Heap}(k:b7 h h'){vs:List Value}{xs:List V}(r:bw G h vs xs):bw G h' vs xs:=by
 induction vs generalizing xs with
 |nil=>cases r;exact .nil
 |cons v vs ih=>cases r with | cons a r=>exact .cons (a.stays k) (ih r)
section
variable {G:GT} {h:Heap}
theorem bw.length{vs:List Value}{xs:List V}(r:bw G h vs xs):vs.length=xs.length:=by
 induction vs generalizing xs with
 |nil=>cases r;rfl
 |cons v vs ih=>cases r with | cons _ r=>(refine ak (List.length_cons) ?_;refine af List.length_cons ?_;(refine af (ih r) ?_;with_reducible rfl))
theorem bw.append{vs us:List Value}{xs ys:List V}(r:bw G h vs xs)(r':bw G h us ys):bw G h (vs++us) (xs++ys):=by
 induction vs generalizing xs with
 |nil=>cases r;exact r'
 |cons v vs ih=>cases r with | cons a r=>exact .cons a (ih r)
theorem bw.get{vs:List Value}{xs:List V}(r:bw G h vs xs){i:Nat}{x:V}(e:xs[i]? = some x):∃ v,vs[i]? = some v∧bg G h v x:=by
 induction vs generalizing xs i with
 |nil=>cases r;simp at e
 |cons v vs ih=>
  cases r with
  |cons a r=>
   induction i using Nat.casesAuxOn with
   |zero=>simp at e;refine br e ?_;exact⟨v,rfl,a⟩
   |succ i=>simp at e;refine o1x2 (ih r e) fun u h1 h2=>?_;exact⟨u,by simpa using h1,h2⟩
theorem bw.take{vs:List Value}{xs:List V}(r:bw G h vs xs)(n:Nat):bw G h (vs.take n) (xs.take n):=by
 induction vs generalizing xs n with
 |nil=>cases r;simp;exact .nil
 |cons v vs ih=>
  cases r with
  |cons a r=>induction n using Nat.casesAuxOn with
   |zero=>exact .nil
   |succ n=>exact .cons a (ih r n)
theorem bw.drop{vs:List Value}{xs:List V}(r:bw G h vs xs)(n:Nat):bw G h (vs.drop n) (xs.drop n):=by
 induction vs generalizing xs n with
 |nil=>cases r;simp;exact .nil
 |cons v vs ih=>
  cases r with
  |cons a r=>induction n using Nat.casesAuxOn with
   |zero=>exact .cons a r
   |succ n=>exact ih r n
theorem bw.set{vs:List Value}{xs:List V}(r:bw G h vs xs)(i:Nat){v:Value}{x:V}(q:bg G h v x):bw G h (vs.set i v) (xs.set i x):=by
 induction vs generalizing xs i with
 |nil=>cases r;exact .nil
 |cons u vs ih=>
  cases r with
  |cons a r=>induction i using Nat.casesAuxOn with
   |zero=>exact .cons q r
   |succ n=>exact .cons a (ih r n)
theorem bw.reverse{vs:List Value}{xs:List V}(r:bw G h vs xs):bw G h vs.reverse xs.reverse:=by
 induction vs generalizing xs with
 |nil=>cases r;exact .nil
 |cons v vs ih=>cases r with | cons a r=>(refine af List.reverse_cons ?_;refine af List.reverse_cons ?_);exact(ih r).append (.cons a .nil)
theorem bw.replicate{v:Value}{x:V}(r:bg G h v x):∀ n,bw G h (List.replicate n v) (List.replicate n x)
 |0=>.nil
 |n+1=>.cons r (bw.replicate r n)
end
noncomputable def kH(l:List Int):Int:=reduceHash (Builtin.Tuple.tupleHashOf l)
mutual
noncomputable def gQ(P:Params):V→Int
 |.int i=>hashInt i
 |.sym n=>PyData.keyHash P (cw n)
 |.tup l=>kH (e8 P l)
 |_=>0
noncomputable def e8(P:Params):List V→List Int
 |[]=>[]
 |a::l=>gQ P a::e8 P l
end
inductive KK where
 |i | s | t
noncomputable def fU:V→Option KK
 |.int _=>some .i
 |.sym n=>if n<NT then some .s else none
 |.tup l=>if tL 3 l then some .t else none
 |_=>none
inductive cF (P:Params) (G:GT) (h:Heap) (kk:KK):List DictEntry→List (V×V)→Prop
 |nil:cF P G h kk [] []
 |cons {d:DictEntry} {ds:List DictEntry} {e:V×V} {es:List (V×V)}:bg G h d.key e.1→fU e.1=some kk→d.hash=gQ P e.1→bg G h d.val e.2→cF P G h kk ds es→cF P G h kk (d::ds) (e::es)
noncomputable def g7:List (V×V)→Prop
 |[]=>True
 |e::es=>(∀ e' ∈ es,dH e'.1 e.1=false)∧g7 es
inductive jm (P:Params) (G:GT) (h:Heap):List DictEntry→List (Nat×V)→Prop
 |nil:jm P G h [] []
 |cons {d:DictEntry} {ds:List DictEntry} {e:Nat×V} {es:List (Nat×V)} {t:Tok}:e.1<NT→d.key=.str (cw e.1) t→d.hash=PyData.keyHash P (cw e.1)→bg G h d.val e.2→jm P G h ds es→jm P G h (d::ds) (e::es)
noncomputable def fg(P:Params)(G:GT)(h:Heap)(a:Addr):O→Prop
 |.list xs=>∃ vs n,h.get? a=some { cls:=.type "list",data:=.seq vs n }∧bw G h vs.toList xs∧xs.length≤bL
 |.dict es=>∃ ds n kk,h.get? a=some { cls:=.type "dict",data:=.dict ds n }∧cF P G h kk ds.toList es∧g7 es∧es.length≤bL
 |.inst c fs=>∃ C ds n,0<a∧G.fn c=some C∧cZ c=true∧h.get? a=some { cls:=.ref C,dict:=some (a - 1),data:=.plain }∧h.get? (a - 1)=some { cls:=.type "dict",data:=.dict ds n }∧jm P G h ds.toList fs∧(∀ x ∈ fs.map (·.1),(bk c).contains x=true)∧(fs.map (·.1)).Nodup
theorem cF.stays{P:Params}{G:GT}{h h':Heap}{kk:KK}(k:b7 h h'){ds:List DictEntry}{es:List (V×V)}(r:cF P G h kk ds es):cF P G h' kk ds es:=by
 induction r with
 |nil=>exact .nil
 |cons a b c d _ ih=>exact .cons (a.stays k) b c (d.stays k) ih
theorem jm.stays{P:Params}{G:GT}{h h':Heap}(k:b7 h h'){ds:List DictEntry}{es:List (Nat×V)}(r:jm P G h ds es):jm P G h' ds es:=by
 induction r with
 |nil=>exact .nil
 |cons a b c d _ ih=>exact .cons a b c (d.stays k) ih
noncomputable def bu(Z:H)(b:Addr):Prop:=Z b≠none∨∃ c fs,Z (b+1)=some (.inst c fs)
noncomputable def ft(a:Addr):O→Addr→Prop
 |.inst _ _,b=>b=a∨b+1=a
 |_,b=>b=a
theorem i7{Z:H}{a b:Addr}{o:O}(e:Z a=some o)(t:ft a o b):bu Z b:=by
 induction o using O.casesOn with
 |inst c fs=>
  rcases t with rfl | t
  ·exact .inl (by refine af e ?_;simp)
  ·exact .inr ⟨c,fs,by(refine af t ?_;(refine ak (e) ?_;with_reducible rfl))⟩
 |_=>refine af t ?_;exact .inl (by refine af e ?_;simp)
theorem i8{a b:Addr}{o:O}(t:ft a o b):b=a∨(b+1=a∧∃ c fs,o=.inst c fs):=by
 induction o using O.casesOn with
 |inst c fs=>exact t.imp id fun q=>⟨q,c,fs,rfl⟩
 |list xs=>exact .inl t
 |dict es=>exact .inl t
structure St (P:Params) (G:GT) (h₀:Heap) (Z:H) (h:Heap):Prop where
 obj:∀ a o,Z a=some o→fg P G h a o
 inst:∀ a c fs,Z a=some (.inst c fs)→Z (a - 1)=none
 new:∀ b,bu Z b→h₀.get? b=none
 base:∀ b o,h₀.get? b=some o→h.get? b=some o
structure ox (Z:H) (h:Heap) (Z':H) (h':Heap):Prop where
 keep:∀ b o,h.get? b=some o→¬bu Z b→h'.get? b=some o
 own:∀ b,bu Z' b→bu Z b∨h.get? b=none
theorem ox.refl(Z:H)(h:Heap):ox Z h Z h:=⟨fun za za e za=>e,fun za o=>.inl o⟩
theorem ox.notOwned{Z Z':H}{h h':Heap}(e:ox Z h Z' h'){b:Addr}{o:Obj}(hb:h.get? b=some o)(n:¬bu Z b):¬bu Z' b:=fun q=>by
 refine Or.elim (e.own b q) (fun q=>?_) (fun q=>?_)
 ·exact n q
 ·rw[hb] at q;exact sn q
theorem ox.trans{Z Z' Z'':H}{h h' h'':Heap}(x:ox Z h Z' h')(y:ox Z' h' Z'' h''):ox Z h Z'' h'' where
 keep:=fun b o e n=>y.keep b o (x.keep b o e n) (x.notOwned e n)
 own:=fun b q=>by
  refine Or.elim (y.own b q) (fun q=>?_) (fun q=>?_)
  ·exact x.own b q
  ·induction e:h.get? b using Option.casesOn with
   |none=>exact .inr rfl
   |some o=>
    refine .inl ?_
    by_cases n:bu Z b
    ·exact n
    ·rw[x.keep b o e n] at q;exact sn q
section
variable {P:Params} {G:GT} {h₀ h h':Heap} {Z Z':H}
theorem St.low(S:St P G h₀ Z h){b:Addr}(q:bu Z b):∃ o,h.get? b=some o:=by
 rcases q with q | ⟨c,fs,q⟩
 ·induction hq:Z b using Option.casesOn with
  |none=>exact absurd hq q
  |some ob=>
   have:=S.obj b ob hq
   induction ob using O.casesOn with
   |list xs=>refine o2x2 this fun vs n e' za=>?_;clear this;exact⟨_,e'⟩
   |dict es=>refine o3x2 this fun vs n kk e' za=>?_;clear this;exact⟨_,e'⟩
   |inst c fs=>refine o3x5 this fun C ds n za za za e' za=>?_;clear this;exact⟨_,e'⟩
 ·refine o3x6 (S.obj _ _ q) fun C ds n za za za za e' za=>?_
  rw[Nat.add_sub_cancel] at e';exact⟨_,e'⟩
theorem St.fresh(S:St P G h₀ Z h){b:Addr}(e:h.get? b=none):¬bu Z b:=fun q=>by
 refine aH (S.low q) fun o e'=>?_
 rw[e] at e';exact ns e'
theorem St.fresh'(S:St P G h₀ Z h){b:Addr}(n:¬bu Z b):Z b=none:=by
 induction q:Z b using Option.casesOn with
 |none=>rfl
 |some o=>exact absurd (.inl (by refine af q ?_;simp)) n
theorem St.plainCls(S:St P G h₀ Z h){b:Addr}{o:Obj}(q:bu Z b)(e:h.get? b=some o):¬cu o:=by
 have key:(o.cls≠.type "tuple" ∧o.cls≠.type "range")→¬cu o:=fun x y=>y.elim (fun z=>x.1 z.1) fun z=>x.2 z.1
 rcases q with q | ⟨c,fs,q⟩
 ·induction hq:Z b using Option.casesOn with
  |none=>exact absurd hq q
  |some ob=>
   have:=S.obj b ob hq
   induction ob using O.casesOn with
   |list xs=>refine o2x2 this fun vs n e' za=>?_;clear this;rw[e] at e';obtain rfl:=aP e';exact key ⟨by simp,by simp⟩
   |dict es=>refine o3x2 this fun vs n kk e' za=>?_;clear this;rw[e] at e';obtain rfl:=aP e';exact key ⟨by simp,by simp⟩
   |inst c fs=>refine o3x5 this fun C ds n za za za e' za=>?_;clear this;rw[e] at e';obtain rfl:=aP e';exact key ⟨by simp,by simp⟩
 ·refine o3x6 (S.obj _ _ q) fun C ds n za za za za e' za=>?_
  (rewrite[Nat.add_sub_cancel] at e';rw[e] at e');obtain rfl:=aP e';exact key ⟨by simp,by simp⟩
theorem St.stays(S:St P G h₀ Z h)(k:∀ b o,h.get? b=some o→¬bu Z b→h'.get? b=some o):b7 h h':=fun b o e c=>k b o e fun q=>S.plainCls q e c
theorem ox.stays(S:St P G h₀ Z h)(x:ox Z h Z' h'):b7 h h':=S.stays x.keep
theorem fg.move(st:b7 h h'){a:Addr}{o:O}(k:∀ b,ft a o b→∀ x,h.get? b=some x→h'.get? b=some x)(R:fg P G h a o):fg P G h' a o:=by
 induction o using O.casesOn with
 |list xs=>refine o2x3 R fun vs n e' r z=>?_;clear R;exact⟨vs,n,k _ rfl _ e',r.stays st,z⟩
 |dict es=>refine o3x3 R fun vs n kk e' r z=>?_;clear R;exact⟨vs,n,kk,k _ rfl _ e',r.stays st,z⟩
 |inst c fs=>
  refine o3x7 R fun C ds n z0 z1 z2 e1 e2 r z=>?_;clear R
  exact⟨C,ds,n,z0,z1,z2,k _ (.inl rfl) _ e1,k _ (.inr (Nat.sub_add_cancel z0)) _ e2,r.stays st,z⟩
set_option tactic.hygienic true in
theorem St.change{a d:Addr}{o o':O}(S:St P G h₀ Z h)(ea:Z a=some o)(hd:ft a o d)(hk:∀ b,ft a o' b↔ft a o b)
  (hc:∀ c fs,o'=.inst c fs→∃ c' fs',o=.inst c' fs') (hs:∀ b x,b≠d→h.get? b=some x→h'.get? b=some x)
  (ho:b7 h h'→fg P G h' a o'):St P G h₀ (Z.set a o') h'∧ox Z h (Z.set a o') h':=by
 have od:bu Z d:=i7 ea hd
 have keep:∀ b x,h.get? b=some x→¬bu Z b→h'.get? b=some x:=fun b x e n=>hs b x (fun q=>n (q▸od)) e
 have st:=S.stays keep
 have inst':∀ b c fs,(Z.set a o') b=some (.inst c fs)→∃ c' fs',Z b=some (.inst c' fs'):=fun b c fs e=>by
  delta H.set at e
  split at e
  ·rename_i q;refine af q ?_
   refine o2x1 (hc c fs (aP e)) fun c' fs' q=>?_
   exact⟨c',fs',by(refine ak (ea) ?_;(refine af q ?_;with_reducible rfl))⟩
  ·exact⟨c,fs,e⟩
 have own':∀ b,bu (Z.set a o') b→bu Z b:=fun b q=>by
  rcases q with q | ⟨c,fs,q⟩
  ·by_cases hb:b=a
   ·refine af hb ?_;exact .inl (by refine af ea ?_;simp)
   ·exact .inl (by delta H.set at q;rwa [aD hb] at q)
  ·exact .inr (inst' _ _ _ q)
 refine⟨⟨fun b x e=>?_,fun b c fs e=>?_,fun b q=>S.new b (own' b q),fun b x e=>?_⟩,⟨keep,fun b q=>.inl (own' b q)⟩⟩
 ·by_cases hb:b=a
  ·subst hb
   delta H.set at e
   rw[aG rfl] at e
   refine br (aP e) ?_
   exact ho st
  ·unfold H.set at e
   rw[aD hb] at e
   refine(S.obj b x e).move st fun b' t y ey=>hs b' y ?_ ey
   rintro rfl
   have e1:=i8 t
   have e2:=i8 hd
   rcases e1 with rfl | ⟨e1,c,fs,rfl⟩
   ·rcases e2 with e2 | ⟨e2,c,fs,rfl⟩
    ·exact hb e2
    ·have:=S.inst a c fs ea
     (rewrite[← e2] at this;rewrite[Nat.add_sub_cancel] at this;rw[e] at this)
     exact sn this
   ·rcases e2 with rfl | ⟨e2,_⟩
    ·have:=S.inst b c fs e
     (rewrite[← e1] at this;rewrite[Nat.add_sub_cancel] at this;rw[ea] at this)
     exact sn this
    ·exact hb (by(refine br e1 ?_;(refine br e2 ?_;with_reducible rfl)))
 ·refine o2x1 (inst' b c fs e) fun c' fs' q=>?_
  have:=S.inst b c' fs' q
  skip
  by_cases hb:b - 1=a
  ·(rewrite[hb] at this;rw[ea] at this);exact sn this
  ·refine ak (aD hb) ?_;exact this
 ·exact keep b x (S.base b x e) fun q=>by rw[S.new b q] at e;exact ns e
theorem St.touch{d:Addr}(S:St P G h₀ Z h)(hd:¬bu Z d)(hn:h₀.get? d=none)(hc:∀ o,h.get? d=some o→¬cu o)(hs:∀ b x,b≠d→h.get? b=some x→h'.get? b=some x):St P G h₀ Z h':=by
 have st:b7 h h':=fun b x e c=>hs b x (fun q=>by
  subst q
  exact hc x e c) e
 refine⟨fun b x e=>(S.obj b x e).move st fun b' t y ey=>hs b' y (fun q=>hd (q▸i7 e t)) ey,S.inst,S.new,fun b x e=>hs b x (fun q=>by subst q;rw[hn] at e;exact ns e) (S.base b x e)⟩
set_option tactic.hygienic true in
theorem St.adopt{a:Addr}{o:O}(S:St P G h₀ Z h)(hn:∀ b,ft a o b→¬bu Z b)(hz:∀ b,ft a o b→h₀.get? b=none)(hi:∀ c fs,o=.inst c fs→0<a)(ho:fg P G h a o) :
  St P G h₀ (Z.set a o) h∧(∀ b,bu (Z.set a o) b→bu Z b∨ft a o b)∧Z a=none:=by
 have ta:ft a o a:=by induction o using O.casesOn<;>first | exact rfl | exact .inl rfl
 have na:=S.fresh' (hn a ta)
 have own':∀ b,bu (Z.set a o) b→bu Z b∨ft a o b:=fun b q=>by
  rcases q with q | ⟨c,fs,q⟩
  ·by_cases hb:b=a
   ·refine af hb ?_;exact .inr ta
   ·exact .inl (.inl (by delta H.set at q;rwa [aD hb] at q))
  ·delta H.set at q
   split at q
   ·rename_i e
    refine af (aP q) ?_
    exact .inr (.inr e)
   ·exact .inl (.inr ⟨c,fs,q⟩)
 refine⟨⟨fun b x e=>?_,fun b c fs e=>?_,fun b q=>?_,S.base⟩,own',na⟩
 ·by_cases hb:b=a
  ·subst hb
   delta H.set at e
   rw[aG rfl] at e
   refine br (aP e) ?_
   exact ho
  ·unfold H.set at e
   rw[aD hb] at e
   exact S.obj b x e
 ·by_cases hb:b=a
  ·subst hb
   delta H.set at e ⊢
   rw[aG rfl] at e
   obtain rfl:=aP e
   have h0:=hi c fs rfl
   refine ak (aD (Nat.ne_of_lt (Nat.sub_lt h0 Nat.one_pos))) ?_
   exact S.fresh' (hn _ (.inr (Nat.sub_add_cancel h0)))
  ·have e':Z b=some (.inst c fs):=by unfold H.set at e;rwa [aD hb] at e
   skip
   by_cases q:b - 1=a
   ·exfalso
    by_cases hb0:b=0
    ·subst hb0
     have:a=0:=q.symm
     exact hb this.symm
    ·exact hn a ta (.inr ⟨c,fs,by(refine br q ?_;refine af (Nat.sub_add_cancel (Nat.pos_of_ne_zero hb0)) ?_);exact e'⟩)
   ·refine ak (aD q) ?_;exact S.inst b c fs e'
 ·refine Or.elim (own' b q) (fun q=>?_) (fun q=>?_)
  ·exact S.new b q
  ·exact hz b q
theorem St.add{a:Addr}{o:O}(S:St P G h₀ Z h)(hn:∀ b,ft a o b→h.get? b=none)(hs:∀ b x,h.get? b=some x→h'.get? b=some x)
  (hi:∀ c fs,o=.inst c fs→0<a) (ho:fg P G h' a o):St P G h₀ (Z.set a o) h'∧ox Z h (Z.set a o) h'∧Z a=none:=by
 have S':St P G h₀ Z h':=⟨fun b x e=>(S.obj b x e).move (fun c y e za=>hs c y e) fun b' za y ey=>hs b' y ey,S.inst,S.new,fun b x e=>hs b x (S.base b x e)⟩
 have B:=S'.adopt (a:=a) (o:=o) (fun b t=>S.fresh (hn b t)) (fun b t=>by
  induction q:h₀.get? b using Option.casesOn with
  |none=>rfl
  |some x=>have:=hn b t;rw[S.base b x q] at this;exact sn this) hi ho
 exact⟨B.1,⟨fun b x e za=>hs b x e,fun b q=>(B.2.1 b q).imp id (hn b)⟩,B.2.2⟩
end
theorem oY:∀ n,n<NT→ix (cw n)=n:=by
 have:((List.range NT).all fun n=>ix (cw n) == n)=true:=by decide +kernel
 intro n hn
 exact beq_iff_eq.mp (List.all_eq_true.mp this n (List.mem_range.mpr hn))
theorem hV{m n:Nat}(hm:m<NT)(hn:n<NT)(e:cw m=cw n):m=n:=by
 (refine br (oY m hm) ?_;refine br (oY n hn) ?_;(refine af e ?_;with_reducible rfl))
theorem yu:∀ n,n<NT→PyData.strOk (cw n)=true:=by
 have:((List.range NT).all fun n=>PyData.strOk (cw n))=true:=by decide +kernel
 intro n hn
 exact List.all_eq_true.mp this n (List.mem_range.mpr hn)
inductive Pl (b:Bool):Nat→V→Prop
 |none (n:Nat):b=true→Pl b n .none
 |int (n:Nat) (i:Int):Pl b n (.int i)
 |sym (n k:Nat):k<NT→Pl b n (.sym k)
 |tup (n:Nat) (l:List V):(∀ x ∈ l,Pl b n x)→Pl b (n+1) (.tup l)
theorem pX{n:Nat}{l:List V}:yo n l=true↔∀ x ∈ l,pv n x=true:=by
 induction l with
 |nil=>exact⟨fun za x h=>(nomatch h),fun za=>rfl⟩
 |cons a l ih=>
  constructor
  ·intro h x hx
   have h:=dg (a:=pv n a) (b:=yo n l) h
   rcases List.mem_cons.mp hx with rfl | hx
   ·exact h.1
   ·exact ih.mp h.2 x hx
  ·exact fun h=>Bool.and_eq_true_iff.mpr ⟨h a (.head _),ih.mpr fun x hx=>h x (.tail _ hx)⟩
theorem qp{n:Nat}{l:List V}:tL n l=true↔∀ x ∈ l,hk n x=true:=by
 induction l with
 |nil=>exact⟨fun za x h=>(nomatch h),fun za=>rfl⟩
 |cons a l ih=>
  constructor
  ·intro h x hx
   have h:=dg (a:=hk n a) (b:=tL n l) h
   rcases List.mem_cons.mp hx with rfl | hx
   ·exact h.1
   ·exact ih.mp h.2 x hx
  ·exact fun h=>Bool.and_eq_true_iff.mpr ⟨h a (.head _),ih.mpr fun x hx=>h x (.tail _ hx)⟩
theorem nj{n:Nat}:∀ {x:V},pv n x=true→Pl true n x:=by
 induction n with
 |zero=>intro x h;induction x using V.casesOn<;>first | exact .none _ rfl | exact .int _ _ | exact .sym _ _ (of_decide_eq_true h) | exact ff h
 |succ n ih=>intro x h;induction x using V.casesOn<;>first | exact .none _ rfl | exact .int _ _ | exact .sym _ _ (of_decide_eq_true h) | exact .tup _ _ fun x hx=>ih (pX.mp h x hx) | exact ff h
theorem kM{n:Nat}:∀ {x:V},hk n x=true→Pl false n x:=by
 induction n with
 |zero=>intro x h;induction x using V.casesOn<;>first | exact .int _ _ | exact .sym _ _ (of_decide_eq_true h) | exact ff h
 |succ n ih=>intro x h;induction x using V.casesOn<;>first | exact .int _ _ | exact .sym _ _ (of_decide_eq_true h) | exact .tup _ _ fun x hx=>ih (qp.mp h x hx) | exact ff h
theorem BA{b:Bool}{n:Nat}{x:V}(h:Pl b n x):pv n x=true:=by
 induction h with
 |none n _=>induction n using Nat.casesAuxOn<;>rfl
 |int n i=>induction n using Nat.casesAuxOn<;>rfl
 |sym n k h=>induction n using Nat.casesAuxOn<;>exact bR h
 |tup n l _ ih=>exact pX.mpr ih
theorem B4{n:Nat}{x:V}(h:Pl false n x):hk n x=true:=by
 induction h with
 |none n h=>exact ff h
 |int n i=>induction n using Nat.casesAuxOn<;>rfl
 |sym n k h=>induction n using Nat.casesAuxOn<;>exact bR h
 |tup n l _ ih=>exact qp.mpr ih
theorem hM(n:Nat)(x:V)(h:hk n x=true):pv n x=true:=BA (kM h)
theorem Pl.mono{b:Bool}{n:Nat}{x:V}(h:Pl b n x):∀ {m:Nat},n≤m→Pl b m x:=by
 induction h with
 |none n e=>exact fun za=>.none _ e
 |int n i=>exact fun za=>.int _ _
 |sym n k h=>exact fun za=>.sym _ _ h
 |tup n l _ ih=>
  intro m hm
  induction m using Nat.casesAuxOn with
  |zero=>cases hm
  |succ m=>exact .tup _ _ fun x hx=>ih x hx (Nat.le_of_succ_le_succ hm)
theorem wv(n m:Nat)(x:V)(h:n≤m)(k:hk n x=true):hk m x=true:=B4 ((kM k).mono h)
theorem lF:∀ l,(fT l).length=l.length
 |[]=>rfl
 |_::l=>congrArg (· + 1) (lF l)
section
variable {G:GT} {h:Heap}
theorem oG{vs:List Value}{xs:List V}(r:bw G h vs xs):(∀ x ∈ xs,∀ v,bg G h v x→∃ as,Reads h v (gM x) as)→∃ as,ReadsAll h vs (fT xs) as:=by
 induction vs generalizing xs with
 |nil=>cases r;exact fun za=>⟨_,.nil⟩
 |cons v vs ih=>
  cases r with
  |cons a r=>
   intro f
   refine aH (f _ (.head _) v a) fun as q=>?_
   refine aH (ih r fun x hx=>f x (.tail _ hx)) fun bs q'=>?_
   exact⟨_,.cons q q'⟩
theorem eW(n:Nat){v:Value}{x:V}(r:bg G h v x)(hp:pv n x=true):∃ as,Reads h v (gM x) as:=by
 replace hp:=nj hp
 induction hp generalizing v with
 |none n _=>refine af r.none_inv ?_;exact⟨_,.none⟩
 |int n i=>refine aH r.int_inv fun t e1=>?_;refine af e1 ?_;exact⟨_,.int i t⟩
 |sym n k _=>obtain⟨t,rfl,_⟩:=r.sym_inv;exact⟨_,.str _ t⟩
 |tup n l _ ih=>
  refine o3x2 r.tup_inv fun a vs m e3 q9=>?_;refine af e3 ?_;refine o0x3 q9 fun e rl za=>?_;clear q9
  refine aH (oG rl fun x hx v rv=>ih x hx rv) fun as q=>?_
  exact⟨as,.tuple e rfl rfl q⟩
end
theorem tm{n:Nat}{l:List V}:(∀ x ∈ l,(gM x).canLay0=true∧(gM x).depth≤n)→PyData.canLayAll0 (fT l)=true∧PyData.depthAll (fT l)≤n:=by
 induction l with
 |nil=>exact fun za=>⟨rfl,Nat.zero_le _⟩
 |cons a l ih=>
  intro f
  have h1:=f a (.head _)
  have h2:=ih fun x hx=>f x (.tail _ hx)
  exact⟨Bool.and_eq_true_iff.mpr ⟨h1.1,h2.1⟩,Nat.max_le.mpr ⟨h1.2,h2.2⟩⟩
theorem gh(n:Nat)(x:V)(hp:pv n x=true):(gM x).canLay0=true∧(gM x).depth≤n:=by
 replace hp:=nj hp
 induction hp with
 |none n _=>exact⟨rfl,Nat.zero_le _⟩
 |int n i=>exact⟨rfl,Nat.zero_le _⟩
 |sym n k h=>exact⟨yu k h,Nat.zero_le _⟩
 |tup n l _ ih=>
  have:=tm ih
  exact⟨this.1,Nat.succ_le_succ this.2⟩
theorem t7{m:Nat}{xs:List V}:∀ {ys:List V},(∀ x ∈ xs,∀ y,Pl true m y→PyData.eqv (gM x) (gM y)=dH x y)→(∀ y ∈ ys,Pl true m y)→PyData.eqvAll (fT xs) (fT ys)=mQ xs ys:=by
 induction xs with
 |nil=>intro ys _ _;induction ys using List.casesOn<;>rfl
 |cons a xs ih=>
  intro ys f g
  induction ys using List.casesOn with
  |nil=>rfl
  |cons b ys=>
   show(PyData.eqv (gM a) (gM b) && PyData.eqvAll (fT xs) (fT ys))=(dH a b && mQ xs ys)
   (refine af (f a (.head _) b (g b (.head _))) ?_;(refine af (ih (fun x hx=>f x (.tail _ hx)) fun y hy=>g y (.tail _ hy)) ?_;with_reducible rfl))
theorem mh(n m:Nat)(x y:V)(hx:pv n x=true)(hy:pv m y=true):PyData.eqv (gM x) (gM y)=dH x y:=by
 replace hx:=nj hx
 replace hy:=nj hy
 induction hx generalizing m y with
 |none n _=>induction hy using Pl.casesOn<;>rfl
 |int n i=>induction hy using Pl.casesOn with
  |_=>rfl
 |sym n k hk=>induction hy using Pl.casesOn with
  |sym _ j hj=>
   show decide (cw k=cw j)=decide (k=j)
   by_cases e:k=j
   ·refine af e ?_;(refine ak (bR rfl) ?_;(refine af (bR rfl) ?_;with_reducible rfl))
   ·(refine af (bG e) ?_;(refine ak (bG fun q=>e (hV hk hj q)) ?_;with_reducible rfl))
  |_=>rfl
 |tup n l _ ih=>induction hy using Pl.casesOn with
  |tup m k h=>exact t7 (fun x hx y hy=>ih x hx m y hy) h
  |_=>rfl
theorem qM{l:List V}:(∀ x ∈ l,dH x x=true)→mQ l l=true:=by
 induction l with
 |nil=>exact fun za=>rfl
 |cons a l ih=>exact fun f=>Bool.and_eq_true_iff.mpr ⟨f a (.head _),ih fun x hx=>f x (.tail _ hx)⟩
theorem dx(n:Nat)(x:V)(hp:pv n x=true):dH x x=true:=by
 replace hp:=nj hp
 induction hp with
 |none n _=>rfl
 |int n i=>exact bR rfl
 |sym n k _=>exact bR rfl
 |tup n l _ ih=>exact qM ih
mutual
theorem dU:∀ (x y:V),dH x y=true→x=y
 |.none,y,e=>by induction y using V.casesOn<;>first | rfl | exact ff e
 |.int a,y,e=>by induction y using V.casesOn<;>first | exact congrArg V.int (of_decide_eq_true e) | exact ff e
 |.sym a,y,e=>by induction y using V.casesOn<;>first | exact congrArg V.sym (of_decide_eq_true e) | exact ff e
 |.tup l,y,e=>by induction y using V.casesOn<;>first | exact congrArg V.tup (j6 l _ e) | exact ff e
 |.bool _,_,e | .str _,_,e | .ref _,_,e | .rng _,_,e | .bi _,_,e | .fn _,_,e | .gd,_,e=>by exact ff e
theorem j6:∀ (x y:List V),mQ x y=true→x=y
 |[],y,e=>by induction y using List.casesOn<;>first | rfl | exact ff e
 |a::l,y,e=>by
  induction y using List.casesOn with
  |nil=>exact ff e
  |cons b m=>
   have e:=dg (a:=dH a b) (b:=mQ l m) e
   (refine af (dU a b e.1) ?_;(refine af (j6 l m e.2) ?_;with_reducible rfl))
end
end Mine
namespace Mine
open PySem PySem.W PySem.Calls PyProof.Rows
mutual
noncomputable def iU:V→Nat
 |.tup l=>eH l+1
 |_=>1
noncomputable def eH:List V→Nat
 |[]=>0
 |a::l=>iU a+eH l
end
section
variable {prog:Program} {w:World} {A:Around} {E:Value→Shared→Prop} {s:Shared} {G:GT}
theorem BZ{h:Heap}{a:Addr}{vs:Array Value}{n:Nat}(e:h.get? a=some { cls:=.type "tuple",data:=.seq vs n }):h.IsTuple a vs:=⟨_,e,rfl,n,rfl⟩
theorem pL{a:Addr}{vs:Array Value}{n:Nat}(e:s.heap.get? a=some { cls:=.type "tuple",data:=.seq vs n }):s.TypeIs (.ref a) "tuple" :=⟨_,e,rfl⟩
theorem qr:∀ (n:Nat) (A:Around) (E:Value→Shared→Prop) (s:Shared) (v:Value) (x:V) (Q:Int→Shared→Prop),bg G s.heap v x→hk n x=true→A.units+n<cLine→
  Q (gQ w.params x) { s with toks:=s.toks+iU x }→wpAny (model prog w) A (pyHash v) Q E s:=by
 intro n A E s v x Q r hp
 replace hp:=kM hp
 induction hp generalizing A E s v Q with
 |none _ e=>exact ff e
 |int n i=>intro _ h;refine aH r.int_inv fun t e1=>?_;refine af e1 ?_;exact wpAny_pyHash_int h
 |sym n k _=>intro _ h;obtain⟨t,rfl,_⟩:=r.sym_inv;exact wpAny_pyHash_str h
 |tup n l _ ih=>
   intro hu h
   refine o3x2 r.tup_inv fun a vs m e3 q9=>?_;refine af e3 ?_;refine o0x3 q9 fun e r z=>?_;clear q9
   have hT:=pL e
   first | unfold pyHashByItsType | skip
   refine wpAny_bind (wpAny_cRoomFor_or (.inr (Nat.lt_of_le_of_lt (Nat.le_add_right _ _) hu)) ?_)
   refine wpAny_bind (wpAny_specialOf hT F.slot_tuple_hash.lookup ?_)
   show wpAny _ _ (if(some (Value.builtin "tuple.__hash__") == some Value.none)=true then _ else _) Q E s
   refine af (aD (by rw[beq_builtin_none];exact Bool.false_ne_true)) ?_
   refine wpAny_bind (wpAny_specialOf hT F.slot_tuple_hash.lookup ?_)
   show wpAny _ _ (callSpecialIfBoundUnlessNone? (.ref a) "__hash__" _ >>= _) Q E s
   refine wpAny_bind (wpAny_callSpecialIfBoundUnlessNone?_slot hT F.slot_tuple_hash (wpAny_call_entry F.slot_tuple_hash hT F.entry_tuple_hash ?_ (F.args_tuple_hash_1 _)))
   show wpAny _ _ (Builtin.Tuple.tupleItemsOf (.ref a) >>= _) _ _ s
   refine wpAny_bind (wpAny_tupleItemsOf e rfl ?_)
   refine wpAny_bind ?_
   refine br Array.forIn_toList ?_
   refine wpAny_forIn_list _
    (fun rest (b:Array Int) s'=>∃ done left,l=done++left∧bw G s.heap rest left∧(∀ x ∈ left,x ∈ l)∧b.toList=e8 w.params done∧s'={ s with toks:=s.toks+eH done })
    _ ?_ ?_ _ _ ⟨[],l,rfl,r,fun za h=>h,rfl,rfl⟩
   ·intro x rest b s' p0;refine o2x5 p0 fun done left hl hr hh hb e6=>?_;clear p0;refine af e6 ?_
    cases hr with
    |@cons _ _ k ks' h1 hl'=>
     have hh2:∀ (d:List V) (c:V),e8 w.params (d++[c])=e8 w.params d++[gQ w.params c]:=fun d c=>by
      induction d with
      |nil=>rfl
      |cons y d ih=>(refine af List.cons_append ?_;rewrite[e8];rewrite[e8];refine af ih ?_);rfl
     have hd2:∀ (d:List V) (c:V),eH (d++[c])=eH d+iU c:=fun d c=>by
      induction d with
      |nil=>simp[eH]
      |cons y d ih=>(refine af List.cons_append ?_;rewrite[eH];rewrite[eH];refine af ih ?_;rw[Nat.add_assoc])
     refine wpAny_bind (ih k (hh k (.head _)) A.in1 _ { s with toks:=s.toks+eH done } x _ h1 (by simp only[Around.in1_units];lia) ?_)
     first
      |exact wpAny_pure ⟨done++[k],ks',by refine ak (hl) ?_;simp,hl',fun x hx=>hh x (.tail _ hx),by simp[hb,hh2],by rw[hd2];simp[Nat.add_assoc]⟩
      |exact wpAny_bind (wpAny_pure (wpAny_pure ⟨done++[k],ks',by rw[hl];simp,hl',fun x hx=>hh x (.tail _ hx),by simp[hb,hh2],by rw[hd2];simp[Nat.add_assoc]⟩))
   ·intro b s' p0;refine o2x5 p0 fun done left hl hr hh hb e6=>?_;clear p0;refine af e6 ?_
    cases hr
    rw[List.append_nil] at hl
    subst hl
    show wpAny _ _ (retInt (Builtin.Tuple.tupleHashOf b.toList)) _ _ _
    refine af hb ?_
    refine wpAny_ret_mkInt ?_
    show wpAny _ _ (if(decide (-(2:Int) ^ 63≤Builtin.Tuple.tupleHashOf (e8 w.params l)) && decide (Builtin.Tuple.tupleHashOf (e8 w.params l)<2 ^ 63))=true then _ else _) Q E _
    rw[gQ] at h
    unfold kH reduceHash at h
    by_cases hr:(decide (-(2:Int) ^ 63≤Builtin.Tuple.tupleHashOf (e8 w.params l)) && decide (Builtin.Tuple.tupleHashOf (e8 w.params l)<2 ^ 63))=true
    ·refine af (aG hr) ?_
     rw[aG hr] at h
     exact wpAny_pure (by simpa [iU,Nat.add_assoc] using h)
    ·refine af (aD hr) ?_
     rw[aD hr] at h
     exact wpAny_bind (wpAny_rule (wpAny_pure (by simpa [iU,Nat.add_assoc] using h)))
theorem sS:∀ (n:Nat) (A:Around) (E:Value→Shared→Prop) (s:Shared) (v:Value) (x:V) (Q:Bool→Shared→Prop),bg G s.heap v x→hk n x=true→
  Q true s→wpAny (model prog w) A (eqIsQuiet n v) Q E s:=by
 intro n A E s v x Q r hp
 replace hp:=kM hp
 induction hp generalizing A E s v Q with
 |none _ e=>exact ff e
 |int n i=>intro h;refine aH r.int_inv fun t e1=>?_;refine af e1 ?_;refine af (eqIsQuiet_byValue _ rfl) ?_;exact wpAny_pure h
 |sym n k _=>intro h;obtain⟨t,rfl,_⟩:=r.sym_inv;refine af (eqIsQuiet_byValue _ rfl) ?_;exact wpAny_pure h
 |tup n l _ ih=>
   intro h
   refine o3x2 r.tup_inv fun a vs m e3 q9=>?_;refine af e3 ?_;refine o0x3 q9 fun e r z=>?_;clear q9
   have hT:=pL e
   unfold eqIsQuiet
   refine wpAny_bind (wpAny_specialOf hT F.slot_tuple_eq.lookup ?_)
   show wpAny _ _ (isInstance (.ref a) (.type "tuple") >>= _) _ _ s
   refine wpAny_bind (wpAny_isInstance hT isSubtype_tuple_tuple ?_)
   simp only[Bool.not_true,Bool.false_eq_true,if_false]
   refine wpAny_bind (wpAny_seqItems e rfl ?_)
   refine wpAny_bind ?_
   show wpAny _ _ (forIn vs _ _) _ _ s
   refine br Array.forIn_toList ?_
   refine wpAny_forIn_list _ (fun rest r s'=>r.1=none∧s'=s∧∃ left,bw G s.heap rest left∧∀ x ∈ left,x ∈ l) _ ?_ ?_ _ _ ⟨rfl,rfl,l,r,fun za h=>h⟩
   ·intro v rest r s' p0;refine o0x3 p0 fun hr e1 q9=>?_;clear p0;refine af e1 ?_;refine o1x2 q9 fun left hl hh=>?_;clear q9
    cases hl with
    |cons a r=>
     refine wpAny_bind (ih _ (hh _ (.head _)) A _ _ v _ a ?_)
     simp only[Bool.not_true,Bool.false_eq_true,if_false]
     exact wpAny_pure ⟨rfl,rfl,_,r,fun x hx=>hh x (.tail _ hx)⟩
   ·rintro⟨r1,r2⟩ s' ⟨hr,rfl,_⟩
    simp only at hr
    refine af hr ?_
    exact wpAny_pure h
end
theorem sQ{G:GT}{h:Heap}{m:Nat}{vs:List Value}:∀ {xs ys:List V},bw G h vs xs→bw G h vs ys→(∀ x ∈ xs,∀ m y v,bg G h v x→bg G h v y→Pl false m y→x=y)→(∀ y ∈ ys,Pl false m y)→xs=ys:=by
 induction vs with
 |nil=>intro xs ys r q _ _;cases r;cases q;rfl
 |cons v vs ih=>
  intro xs ys r q f g
  cases r with
  |cons a1 r1=>cases q with
   |cons a2 r2=>(refine af (f _ (.head _) m _ v a1 a2 (g _ (.head _))) ?_;(refine af (ih r1 r2 (fun x hx=>f x (.tail _ hx)) fun y hy=>g y (.tail _ hy)) ?_;with_reducible rfl))
theorem vB{G:GT}{h:Heap}(n:Nat)(x y:V)(v:Value)(r:bg G h v x)(q:bg G h v y)(hx:hk n x=true)(hy:hk n y=true):x=y:=by
 replace hx:=kM hx
 replace hy:=kM hy
 have:∀ m,Pl false m y→x=y:=by
  clear hy
  induction hx generalizing y v with
  |none _ e=>exact ff e
  |int n i=>
   refine aH r.int_inv fun t e1=>?_;obtain rfl:=e1
   intro m hy
   induction hy using Pl.casesOn with
   |none _ e=>exact ff e
   |int _ j=>refine aH q.int_inv fun za e=>?_;cases e;rfl
   |sym _ j _=>refine o1x2 q.sym_inv fun za e za=>?_;cases e
   |tup _ l _=>refine o3x2 q.tup_inv fun za za za e za=>?_;cases e
  |sym n k hk=>
   obtain⟨t,rfl,_⟩:=r.sym_inv
   intro m hy
   induction hy using Pl.casesOn with
   |none _ e=>exact ff e
   |int _ j=>refine aH q.int_inv fun za e=>?_;cases e
   |sym _ j hj=>refine o1x2 q.sym_inv fun za e za=>?_;injection e with e1 _;(refine af (hV hk hj e1) ?_;with_reducible rfl)
   |tup _ l _=>refine o3x2 q.tup_inv fun za za za e za=>?_;cases e
  |tup n l _ ih=>
   refine o3x2 r.tup_inv fun a vs m' e3 q9=>?_;obtain rfl:=e3;refine o0x3 q9 fun e r z=>?_;clear q9
   intro m hy
   induction hy using Pl.casesOn with
   |none _ e=>exact ff e
   |int _ j=>refine aH q.int_inv fun za e=>?_;cases e
   |sym _ j hj=>refine o1x2 q.sym_inv fun za e za=>?_;cases e
   |tup m k g=>
    refine o3x4 q.tup_inv fun za za za e1 e2 r' za=>?_
    cases e1
    rw[e] at e2
    cases e2
    exact congrArg V.tup (sQ r r' (fun x hx m y v r q=>ih x hx y v r q m) g)
 exact this n hy
noncomputable def TK:={ l:List V // tL 3 l=true }
open Classical in
noncomputable instance:DecidableEq TK:=fun a b=>propDecidable _
theorem sP{G:GT}{h h':Heap}{d:Addr}{o:Obj}{es ep}(ho:h.get? d=some o)(hd:o.data=.dict es ep)(hs:Heap.SameBut d h h')(n:Nat)(x:V)(v:Value)(r:bg G h v x)(_:hk n x=true):bg G h' v x:=
 r.stays fun b ob e f=>(hs.2 b (fun q=>by
  subst q
  cases ho.symm.trans e
  rcases f with⟨_,_,_,q⟩ | ⟨_,_,q⟩<;>(rw[hd] at q;cases q))).trans e
noncomputable def sg(prog:Program)(w:World)(G:GT):HeapKind prog w TK where
 is:=fun h k a=>bg G h (.ref a) (.tup k.1)
 hash:=fun k=>gQ w.params (.tup k.1)
 draws:=fun k=>iU (.tup k.1)
 room:=fun A=>A.units+64<cLine
 inj:=fun{h a x y} hx hy=>Subtype.ext (by
  have:=vB 4 _ _ _ hx hy (by simpa [hk] using x.2) (by simpa [hk] using y.2)
  exact V.tup.inj this)
 keeps:=fun{h h' k a d o es ep} x ho hd hs=>sP ho hd hs 4 _ _ x (by simpa [hk] using k.2)
 pyHash:=fun{A E s k a Q} hu r h=>qr 4 A E s _ _ Q r (by simpa [hk] using k.2) (by lia) h
 eqBool:=fun{A E s x y a b Q} hu hx hy h=>by
  have px:=hM 4 (.tup x.1) (by simpa [hk] using x.2)
  have py:=hM 4 (.tup y.1) (by simpa [hk] using y.2)
  refine aH (eW 4 hx px) fun as rx=>?_
  refine aH (eW 4 hy py) fun bs ry=>?_
  have lx:=gh 4 _ px
  have ly:=gh 4 _ py
  refine PySem.SeqAt.eqBoolOverData prog w A E s _ _ _ _ _ _ Q rx ry lx.1 ly.1 (by lia) ?_
  refine af (mh 4 4 _ _ px py) ?_
  have:dH (.tup x.1) (.tup y.1)=decide (x=y):=by
   by_cases e:x=y
   ·refine br e ?_;refine af (bR rfl) ?_;exact dx 4 _ px
   ·refine af (bG e) ?_
    cases q:dH (.tup x.1) (.tup y.1) with
    |false=>rfl
    |true=>exact absurd (Subtype.ext (V.tup.inj (dU _ _ q))) e
  refine af this ?_;exact h
 quiet:=fun{A E s k a Q} r h=>sS 8 A E s _ _ Q r (wv 4 8 _ (by lia) (by simpa [hk] using k.2)) h
end Mine
namespace Mine
open PySem PySem.W PySem.Calls PyProof.Rows
theorem bX{c:Prop}[Decidable c]{α:Type _}{a b:α}(h:(if c then some a else none)=some b):c∧a=b:=by
 by_cases q:c
 ·rw[aG q] at h;exact⟨q,aP h⟩
 ·rw[aD q] at h;exact ns h
theorem gG{c:Prop}[Decidable c]{α:Type _}{o:Option α}{b:α}(h:(if c then o else none)=some b):c∧o=some b:=by
 by_cases q:c
 ·rw[aG q] at h;exact⟨q,h⟩
 ·rw[aD q] at h;exact ns h
noncomputable def uW:KK→Nat
 |.i=>1
 |.s=>2
 |.t=>3
noncomputable def Fh:Nat→KK
 |1=>.i
 |2=>.s
 |_=>.t
theorem xt(a:KK):Fh (uW a)=a:=by induction a using KK.casesOn<;>rfl
theorem wc{a b:KK}(h:uW a=uW b):a=b:=(xt a).symm.trans ((congrArg Fh h).trans (xt b))
theorem kx{a b:KK}{Q:Prop}(h:a=b)(n:uW a≠uW b:=by decide):Q:=absurd (congrArg uW h) n
theorem tC{k:V}{kk:KK}:fU k=some kk→mI k=uW kk:=by
 induction k using V.casesOn with
 |int i=>exact fun h=>congrArg uW (aP h)
 |sym n=>exact fun h=>congrArg uW (bX h).2
 |tup l=>exact fun h=>congrArg uW (bX h).2
 |_=>exact ns
theorem jc{k:V}:key k=true→∃ kk,fU k=some kk:=by
 induction k using V.casesOn with
 |int i=>exact fun h=>⟨_,rfl⟩
 |sym n=>exact fun h=>⟨.s,aG (of_decide_eq_true h)⟩
 |tup l=>exact fun h=>⟨.t,aG h⟩
 |_=>exact ff
theorem jd{k:V}{kk:KK}:fU k=some kk→key k=true:=by
 induction k using V.casesOn with
 |int i=>exact fun h=>rfl
 |sym n=>exact fun h=>bR (bX h).1
 |tup l=>exact fun h=>(bX h).1
 |_=>exact ns
theorem tD{k k':V}{kk:KK}(h:fU k=some kk)(h':key k'=true)(e:mI k=mI k'):fU k'=some kk:=by
 refine aH (jc h') fun kk' q=>?_
 refine af (wc ((tC h).symm.trans (e.trans (tC q)))) ?_;exact q
theorem jW{P:Params}{G:GT}{h:Heap}{kk:KK}{ds:List DictEntry}{es:List (V×V)}{k:V}(D:cF P G h kk ds es)(e:bd es k=true):∃ kk',cF P G h kk' ds es∧fU k=some kk':=by
 unfold bd at e
 rw[Bool.and_eq_true] at e
 induction D using cF.casesOn with
 |nil=>
  refine aH (jc e.1) fun kk' q=>?_
  exact⟨kk',.nil,q⟩
 |cons a b c d r=>exact⟨kk,.cons a b c d r,tD b e.1 (by simpa using e.2)⟩
section
variable {P:Params} {G:GT} {h:Heap} {kk:KK}
theorem cF.length{ds:List DictEntry}{es:List (V×V)}(D:cF P G h kk ds es):ds.length=es.length:=by
 induction D with
 |nil=>rfl
 |cons _ _ _ _ _ ih=>(refine ak (List.length_cons) ?_;refine af List.length_cons ?_;(refine af ih ?_;with_reducible rfl))
theorem cF.get{ds:List DictEntry}{es:List (V×V)}(D:cF P G h kk ds es){i:Nat}{e:V×V}(q:es[i]? = some e) :
  ∃ d,ds[i]? = some d∧bg G h d.key e.1∧fU e.1=some kk∧d.hash=gQ P e.1∧bg G h d.val e.2:=by
 induction D generalizing i with
 |nil=>simp at q
 |cons a b c d _ ih=>
  induction i using Nat.casesAuxOn with
  |zero=>simp at q;refine br q ?_;exact⟨_,rfl,a,b,c,d⟩
  |succ i=>simpa using ih (by simpa using q)
theorem cF.append{ds ds':List DictEntry}{es es':List (V×V)}(D:cF P G h kk ds es)(D':cF P G h kk ds' es'):cF P G h kk (ds++ds') (es++es'):=by
 induction D with
 |nil=>exact D'
 |cons a b c d _ ih=>exact .cons a b c d ih
end
noncomputable def eC(es:List (V×V))(k:V):Option Nat:=es.findIdx? fun e=>dH e.1 k
theorem kY:∀ (es:List (V×V)) (k:V),aI es k=(eC es k).bind fun i=>(es[i]?).map (·.2)
 |[],k=>rfl
 |e::es,k=>by
  unfold aI eC
  refine af (List.findIdx?_cons) ?_
  induction q:dH e.1 k using Bool.casesOn with
  |true=>simp
  |false=>
   have:=kY es k
   unfold eC at this
   simp only[Bool.false_eq_true,if_false]
   refine ak (this) ?_
   cases es.findIdx? (fun e=>dH e.1 k)<;>simp
theorem iV:∀ (es:List (V×V)) (k v:V) (i:Nat),eC es k=some i→bI es k v=es.modify i fun e=>(e.1,v)
 |[],k,v,i,h=>by simp[eC] at h
 |e::es,k,v,i,h=>by
  delta eC at h
  rw[List.findIdx?_cons] at h
  unfold bI
  induction q:dH e.1 k using Bool.casesOn with
  |true=>rw[q] at h;simp at h;subst h;rfl
  |false=>
   rw[q] at h
   simp only[Bool.false_eq_true,if_false,Option.map_eq_some_iff] at h ⊢
   refine o1x2 h fun j hj e2=>?_;clear h;obtain rfl:=e2
   refine af (iV es k v j hj) ?_;rfl
theorem iW:∀ (es:List (V×V)) (k v:V),eC es k=none→bI es k v=es++[(k,v)]
 |[],k,v,h=>rfl
 |e::es,k,v,h=>by
  delta eC at h
  rw[List.findIdx?_cons] at h
  unfold bI
  induction q:dH e.1 k using Bool.casesOn with
  |true=>rw[q] at h;simp at h
  |false=>
   rw[q] at h
   simp only[Bool.false_eq_true,if_false,Option.map_eq_none_iff] at h ⊢
   refine af (iW es k v h) ?_;rfl
theorem nY{es:List (V×V)}{k:V}{i:Nat}(h:eC es k=some i):∃ e,es[i]? = some e∧dH e.1 k=true:=by
 unfold eC at h
 obtain⟨hi,q,_⟩:=List.findIdx?_eq_some_iff_getElem.mp h
 exact⟨es[i],by simp[hi],q⟩
set_option tactic.hygienic true in
theorem iK:∀ {es:List (V×V)} {k v:V},g7 es→g7 (bI es k v)
 |[],k,v,_=>⟨fun za h=>by simp at h,trivial⟩
 |e::es,k,v,h=>by
  unfold bI
  split
  ·exact⟨h.1,h.2⟩
  ·rename_i q
   refine⟨fun e' he'=>?_,iK h.2⟩
   have mem:∀ (es:List (V×V)),e' ∈ bI es k v→(∃ e'' ∈ es,e'.1=e''.1)∨e'.1=k:=by
    intro es
    induction es with
    |nil=>intro hm;simp[bI] at hm;exact .inr (by(refine af hm ?_;with_reducible rfl))
    |cons x es ih=>
     intro hm
     unfold bI at hm
     split at hm
     ·rcases List.mem_cons.mp hm with rfl | hm
      ·exact .inl ⟨x,.head _,rfl⟩
      ·exact .inl ⟨e',.tail _ hm,rfl⟩
     ·rcases List.mem_cons.mp hm with rfl | hm
      ·exact .inl ⟨_,.head _,rfl⟩
      ·rcases ih hm with⟨e'',h1,h2⟩ | h1
       ·exact .inl ⟨e'',.tail _ h1,h2⟩
       ·exact .inr h1
   rcases mem es he' with⟨e'',h1,h2⟩ | h1
   ·refine af h2 ?_;exact h.1 _ h1
   ·refine af h1 ?_
    induction z:dH k e.1 using Bool.casesOn with
    |false=>rfl
    |true=>
     have:=dU _ _ z
     rw[this] at q z
     exact absurd z q
theorem pM{prog:Program}{w:World}{G:GT}{h:Heap}:∀ {ds:List DictEntry} {es:List (V×V)},cF w.params G h .t ds es→g7 es→
  ∃ xs:List (TK×Addr×Value),ds=xs.map (entryOfKey (sg prog w G))∧(∀ x ∈ xs,(sg prog w G).is h x.1 x.2.1)∧(xs.map (·.1)).Nodup∧es.map (·.1)=xs.map fun x=>V.tup x.1.1
 |_,_,.nil,_=>⟨[],rfl,fun za h=>by simp at h,List.nodup_nil,rfl⟩
 |d::ds',e::es',.cons a b c q r,o=>by
  refine o1x4 (pM (prog:=prog) r o.2) fun xs h1 h2 h3 h4=>?_
  obtain⟨k,v⟩:=e
  dsimp only at a b c q
  induction k using V.casesOn with
  |tup l=>
   have hl:tL 3 l=true:=by
    unfold fU at b;dsimp only at b
    split at b
    ·assumption
    ·exact ns b
   refine o3x2 a.tup_inv fun a' vs n ek za=>?_
   refine⟨(⟨l,hl⟩,a',d.val)::xs,?_,?_,?_,?_⟩
   ·(rewrite[List.map_cons];rw[← h1])
    congr 1
    obtain⟨dh,dk,dv⟩:=d
    dsimp only at ek c a
    (refine af ek ?_;refine af c ?_)
    rfl
   ·intro x hx
    rcases List.mem_cons.mp hx with rfl | hx
    ·show bg G h (.ref a') (.tup l)
     rw[← ek];exact a
    ·exact h2 x hx
   ·(rewrite[List.map_cons];rw[List.nodup_cons])
    refine⟨fun hm=>?_,h3⟩
    refine o1x2 (List.mem_map.mp hm) fun x hx ex=>?_
    have:V.tup l ∈ es'.map (·.1):=by
     rw[h4]
     exact List.mem_map.mpr ⟨x,hx,by rw[ex]⟩
    refine o1x2 (List.mem_map.mp this) fun e' he' ee=>?_
    have z:=o.1 e' he'
    dsimp only at z
    (rewrite[ee] at z;rw[dx 4 _ (hM 4 _ (by simpa [hk] using hl))] at z)
    exact tf z
   ·(rewrite[List.map_cons];rewrite[List.map_cons];rw[h4])
  |int i=>cases b
  |sym n=>exact kx (bX b).2
  |_=>exact ns b
theorem gm{α:Type}(ds:Array α)(p:α→Bool):ds.findIdx? p=ds.toList.findIdx? p:=by obtain⟨l⟩:=ds;simp
theorem B6(P:Params)(i:Int):gQ P (.int i)=hashInt i:=rfl
section
variable {prog:Program} {w:World} {A:Around} {E:Value→Shared→Prop} {s:Shared} {G:GT}
theorem oX{h:Heap}{ds:Array DictEntry}{es:List (V×V)}(D:cF w.params G h .i ds.toList es):KeysOf (intKind prog w) ds:=by
 intro e he
 have he':=Array.mem_toList_iff.mpr he
 generalize ds.toList=l at D he'
 induction D with
 |nil=>simp at he'
 |@cons d ds' x es' a b c q r ih=>
  rcases List.mem_cons.mp he' with rfl | he'
  ·obtain⟨k,v⟩:=x
   dsimp only at a b c
   induction k using V.casesOn with
   |int i=>obtain⟨t,et⟩:=a.int_inv;exact⟨i,by refine af et ?_;simp[intKind,Value.isInt],c⟩
   |sym n=>exact kx (bX b).2
   |tup n=>exact kx (bX b).2
   |_=>exact ns b
  ·exact ih he'
theorem oW{h:Heap}{ds:Array DictEntry}{es:List (V×V)}(D:cF w.params G h .s ds.toList es):KeysOf (PySem.strKind prog w) ds:=by
 intro e he
 have he':=Array.mem_toList_iff.mpr he
 generalize ds.toList=l at D he'
 induction D with
 |nil=>simp at he'
 |@cons d ds' x es' a b c q r ih=>
  rcases List.mem_cons.mp he' with rfl | he'
  ·obtain⟨k,v⟩:=x
   dsimp only at a b c
   induction k using V.casesOn with
   |sym i=>refine o1x2 a.sym_inv fun t et za=>?_;exact⟨cw i,by refine af et ?_;simp[PySem.strKind,Value.isStrOf],c⟩
   |int n=>cases b
   |tup n=>exact kx (bX b).2
   |_=>exact ns b
  ·exact ih he'
theorem qo{h:Heap}{i:Int}:∀ {ds:List DictEntry} {es:List (V×V)},cF w.params G h .i ds es→(ds.findIdx? fun e=>Value.isInt i e.key)=eC es (.int i)
 |_,_,.nil=>rfl
 |d::_,(k,v)::_,.cons a b c q r=>by
  have ih:=qo (i:=i) r
  unfold eC at ih ⊢
  (refine ak (List.findIdx?_cons) ?_;refine af (List.findIdx?_cons) ?_;refine af ih ?_)
  dsimp only at a b c
  induction k using V.casesOn with
  |int j=>
   refine aH a.int_inv fun t et=>?_
   refine af et ?_
   have:Value.isInt i (.int j t)=dH (.int j) (.int i):=rfl
   (refine af this ?_;with_reducible rfl)
  |sym n=>exact kx (bX b).2
  |tup n=>exact kx (bX b).2
  |_=>exact ns b
theorem qn{h:Heap}{i:Nat}(hi:i<NT):∀ {ds:List DictEntry} {es:List (V×V)},cF w.params G h .s ds es→(ds.findIdx? fun e=>Value.isStrOf (cw i) e.key)=eC es (.sym i)
 |_,_,.nil=>rfl
 |d::_,(k,v)::_,.cons a b c q r=>by
  have ih:=qn hi r
  unfold eC at ih ⊢
  (refine ak (List.findIdx?_cons) ?_;refine af (List.findIdx?_cons) ?_;refine af ih ?_)
  dsimp only at a b c
  induction k using V.casesOn with
  |sym j=>
   refine o1x2 a.sym_inv fun t et hj=>?_
   refine af et ?_
   have:Value.isStrOf (cw i) (.str (cw j) t)=dH (.sym j) (.sym i):=by
    by_cases e:j=i
    ·refine af e ?_;simp[Value.isStrOf,dH]
    ·have:¬cw j=cw i:=fun z=>e (hV hj hi z)
     simp[Value.isStrOf,dH,e,this]
   (refine af this ?_;with_reducible rfl)
  |int n=>cases b
  |tup n=>exact kx (bX b).2
  |_=>exact ns b
set_option tactic.hygienic true in
theorem mc{d:Addr}{ds:Array DictEntry}{n:Nat}{es:List (V×V)}{kk:KK}{kv:Value}{k:V}{Q:Option Nat→Shared→Prop}(ho:s.heap.get? d=some { cls:=.type "dict",data:=.dict ds n })
  (D:cF w.params G s.heap kk ds.toList es) (O:g7 es) (rk:bg G s.heap kv k) (hk:fU k=some kk) (hu:A.units+64<cLine) (h:Q (eC es k) s):wpAny (model prog w) A (dictFind d kv (gQ w.params k)) Q E s:=by
 induction k using V.casesOn with
 |int i=>
  obtain rfl:=aP hk
  refine aH rk.int_inv fun t e1=>?_;obtain rfl:=e1
  refine wpAny_dictFind_of (knd:=intKind prog w) (k:=i) (by simp[intKind,Value.isInt]) ho rfl (oX D) ?_
  (rewrite[gm];refine af (show(ds.toList.findIdx? fun e=>(intKind prog w).is i e.key)=_ from qo D) ?_);exact h
 |sym i=>
  refine o1x2 rk.sym_inv fun t e1 hi=>?_;refine af e1 ?_
  have:kk=.s:=by unfold fU at hk;dsimp only at hk;rw[aG hi] at hk;refine af (aP hk) ?_;rfl
  subst this
  refine wpAny_dictFind_of (knd:=PySem.strKind prog w) (k:=cw i) (by simp[PySem.strKind,Value.isStrOf]) ho rfl (oW D) ?_
  (rewrite[gm];refine af (show(ds.toList.findIdx? fun e=>(PySem.strKind prog w).is (cw i) e.key)=_ from qn hi D) ?_);exact h
 |tup l=>
  have hl:tL 3 l=true∧kk=.t:=by
   unfold fU at hk;dsimp only at hk
   split at hk
   ·rename_i z;refine af (aP hk) ?_;exact⟨z,rfl⟩
   ·exact ns hk
  obtain⟨hl,rfl⟩:=hl
  obtain⟨a,vs,m,rfl,_⟩:=rk.tup_inv
  obtain⟨xs,h1,h2,h3,h4⟩:=pM (prog:=prog) D O
  have key:∀ j:Nat,(es[j]?).map (·.1)=(xs[j]?).map fun x=>V.tup x.1.1:=fun j=>by
   (refine br (List.getElem?_map) ?_;refine af h4 ?_;(refine ak (List.getElem?_map) ?_;with_reducible rfl))
  have iff:∀ j:Nat,(∃ p,xs[j]? = some ((⟨l,hl⟩:TK),p))↔∃ e,es[j]? = some e∧dH e.1 (.tup l)=true:=fun j=>by
   have kj:=key j
   constructor
   ·intro p0;refine aH p0 fun p hp=>?_;clear p0
    rw[hp] at kj
    induction q:es[j]? using Option.casesOn with
    |none=>rw[q] at kj;exact ns kj
    |some e=>
     rw[q] at kj
     have:e.1=.tup l:=aP kj
     exact⟨e,rfl,by refine af this ?_;exact dx 4 _ (hM 4 _ (by simpa [Mine.hk] using hl))⟩
   ·intro p0;refine o1x2 p0 fun e he hv=>?_;clear p0
    rw[he] at kj
    induction q:xs[j]? using Option.casesOn with
    |none=>rw[q] at kj;exact sn kj
    |some x=>
     rw[q] at kj
     obtain⟨x1,p⟩:=x
     refine⟨p,?_⟩
     have e1:=dU _ _ hv
     have:V.tup x1.1=.tup l:=by refine br e1 ?_;exact(aP kj).symm
     have:x1=⟨l,hl⟩:=Subtype.ext (V.tup.inj this)
     refine af this ?_
     rfl
  refine wpAny_dictFind_heap (knd:=sg prog w G) (k:=⟨l,hl⟩) hu rk ho rfl h1 h2 h3 (fun hno=>?_) fun j p hj=>?_
  ·have:eC es (.tup l)=none:=by
    unfold eC
    rw[List.findIdx?_eq_none_iff]
    intro e he
    cases q:dH e.1 (.tup l) with
    |false=>rfl
    |true=>
     refine aH (List.mem_iff_getElem?.mp he) fun j hj=>?_
     refine aH ((iff j).mpr ⟨e,hj,q⟩) fun p hp=>?_
     exact absurd hp (hno j p)
   rw[this] at h;exact h
  ·have:eC es (.tup l)=some j:=by
    cases q:eC es (.tup l) with
    |none=>
     refine o1x2 ((iff j).mp ⟨p,hj⟩) fun e he hv=>?_
     unfold eC at q
     rw[List.findIdx?_eq_none_iff] at q
     rw[q e (List.mem_of_getElem? he)] at hv;exact ff hv
    |some i=>
     refine o1x2 (nY q) fun e he hv=>?_
     refine aH ((iff i).mpr ⟨e,he,hv⟩) fun p' hp'=>?_
     (refine af (idxH_unique h3 hp' hj) ?_;with_reducible rfl)
   rw[this] at h;exact h
 |_=>exact ns hk
theorem nQ{kv:Value}{k:V}{Q:Int→Shared→Prop}(rk:bg G s.heap kv k)(hk:key k=true)(hu:A.units+64<cLine)(h:∀ tk,Q (gQ w.params k) { s with toks:=tk }):wpAny (model prog w) A (pyHash kv) Q E s:=
 qr 4 A E s kv k Q rk hk (by lia) (h _)
theorem mr{d:Addr}{ds:Array DictEntry}{n:Nat}{es:List (V×V)}{kk:KK}{kv:Value}{k:V}{Q:Option Value→Shared→Prop}(ho:s.heap.get? d=some { cls:=.type "dict",data:=.dict ds n })
  (D:cF w.params G s.heap kk ds.toList es) (O:g7 es) (rk:bg G s.heap kv k) (hk:bd es k=true) (hu:A.units+64<cLine)
  (h1:∀ x v tk,aI es k=some x→bg G s.heap v x→Q (some v) { s with toks:=tk }) (h2:∀ tk,aI es k=none→Q none { s with toks:=tk }) :
  wpAny (model prog w) A (dictGet d kv) Q E s:=by
 refine o1x2 (jW D hk) fun kk D hkk=>?_
 unfold dictGet
 try with_reducible refine wpAny_holding ?_
 refine wpAny_bind (nQ rk (jd hkk) hu fun tk=>wpAny_bind (mc (s:={ s with toks:=tk }) ho D O rk hkk hu ?_))
 have e:=kY es k
 induction q:eC es k using Option.casesOn with
 |none=>rw[q] at e;exact wpAny_pure (h2 tk e)
 |some i=>
  rw[q] at e
  refine o1x2 (nY q) fun x hx za=>?_
  refine o1x5 (D.get hx) fun y hy za za za ry=>?_
  (rewrite[Option.bind_some] at e;rw[hx] at e)
  refine wpAny_bind (wpAny_dictEntries (s:={ s with toks:=tk }) ho rfl ?_)
  refine af (show ds[i]? = some y from by rw[← Array.getElem?_toList];exact hy) ?_
  exact wpAny_pure (h1 _ _ tk e ry)
theorem qu{d:Addr}{ds:Array DictEntry}{n:Nat}{es:List (V×V)}{kk:KK}{kv v:Value}{k x:V}{Q:Unit→Shared→Prop}(ho:s.heap.get? d=some { cls:=.type "dict",data:=.dict ds n })
  (D:cF w.params G s.heap kk ds.toList es) (O:g7 es) (rk:bg G s.heap kv k) (hk:bd es k=true) (hu:A.units+64<cLine) (hz:es.length<bL) (rv:bg G s.heap v x)
  (h:∀ h' tk ds' n' kk',Heap.SameBut d s.heap h'→h'.get? d=some { cls:=.type "dict",data:=.dict ds' n' }→cF w.params G s.heap kk' ds'.toList (bI es k x)→(bI es k x).length≤bL→Q () { s with heap:=h',toks:=tk }) :
  wpAny (model prog w) A (dictSet d kv v) Q E s:=by
 refine o1x2 (jW D hk) fun kk D hkk=>?_
 unfold dictSet
 try with_reducible refine wpAny_holding ?_
 refine wpAny_bind (nQ rk (jd hkk) hu fun tk=>?_)
 unfold dictSetHashed
 try with_reducible refine wpAny_holding ?_
 refine wpAny_bind (mc (s:={ s with toks:=tk }) ho D O rk hkk hu ?_)
 have hl:ds.size=es.length:=by refine br D.length ?_;simp
 induction q:eC es k using Option.casesOn with
 |none=>
  refine wpAny_bind (wpAny_rule (wpAny_updateDictKeys (hz:=by refine af hl ?_;unfold bL at hz;refine af sizeLine_eq ?_;lia) (s:={ s with toks:=tk }) ho rfl ?_))
  refine h _ tk _ _ kk (Heap.SameBut.update ..) (Heap.get?_update_self _ ho rfl) ?_ ?_
  ·(refine af (iW _ _ _ q) ?_;refine af Array.toList_push ?_)
   exact D.append (.cons rk hkk rfl rv .nil)
  ·refine af (iW _ _ _ q) ?_;simp;lia
 |some i=>
  refine wpAny_bind (wpAny_rule (wpAny_bind (wpAny_updateDict (s:={ s with toks:=tk }) ho rfl (wpAny_point ?_))))
  refine h _ tk _ _ kk (Heap.SameBut.update ..) (Heap.get?_update_self _ ho rfl) ?_ ?_
  ·(refine af (iV _ _ _ _ q) ?_;refine af Array.toList_modify ?_)
   have:∀ {ds:List DictEntry} {es:List (V×V)},cF w.params G s.heap kk ds es→∀ i,cF w.params G s.heap kk (ds.modify i fun e=>{ e with val:=v }) (es.modify i fun e=>(e.1,x)):=by
    intro ds es D
    induction D with
    |nil=>intro i;induction i using Nat.casesAuxOn<;>exact .nil
    |cons a b c d r ih=>
     intro i
     induction i using Nat.casesAuxOn with
     |zero=>simp only[List.modify_zero_cons];exact .cons a b c rv r
     |succ i=>simp only[List.modify_succ_cons];exact .cons a b c d (ih i)
   exact this D i
  ·refine af (iV _ _ _ _ q) ?_;simp;lia
end
end Mine
namespace Mine
open PySem PySem.W PySem.Calls PyProof.Rows
section
variable {P:Params} {G:GT} {h₀ h h':Heap} {Z:H}
theorem fg.ext(k:∀ b o,h.get? b=some o→h'.get? b=some o){a:Addr}{o:O}(R:fg P G h a o):fg P G h' a o:=R.move (fun b x e za=>k b x e) fun b za x e=>k b x e
theorem St.ext(S:St P G h₀ Z h)(k:∀ b o,h.get? b=some o→h'.get? b=some o):St P G h₀ Z h'∧ox Z h Z h':=
 ⟨⟨fun a o e=>(S.obj a o e).ext k,S.inst,S.new,fun b o e=>k b o (S.base b o e)⟩,⟨fun b o e za=>k b o e,fun za o=>.inl o⟩⟩
theorem dP(h:Heap):h.get? h.objs.size=none:=Heap.get?_none_of_le (Nat.le_refl _)
end
structure Go (P:Params) (G:GT) (h₀:Heap) (Z:H) (s:Shared) (Z':H) (s':Shared):Prop where
 eq:∃ h' tk,s'={ s with heap:=h',toks:=tk }
 st:St P G h₀ Z' s'.heap
 eff:ox Z s.heap Z' s'.heap
section
variable {P:Params} {G:GT} {h₀:Heap} {Z Z' Z'':H} {s s' s'':Shared}
theorem Go.refl(S:St P G h₀ Z s.heap):Go P G h₀ Z s Z s:=⟨⟨_,_,rfl⟩,S,ox.refl ..⟩
theorem Go.trans(x:Go P G h₀ Z s Z' s')(y:Go P G h₀ Z' s' Z'' s''):Go P G h₀ Z s Z'' s'':=by
 refine o2x1 x.eq fun h1 t1 e1=>?_
 refine o2x1 y.eq fun h2 t2 e2=>?_
 exact⟨⟨h2,t2,by(refine ak (e2) ?_;(refine af e1 ?_;with_reducible rfl))⟩,y.st,x.eff.trans y.eff⟩
theorem Go.tok(S:St P G h₀ Z s.heap)(tk:Nat):Go P G h₀ Z s Z { s with toks:=tk }:=⟨⟨_,_,rfl⟩,S,ox.refl ..⟩
theorem Go.ext(S:St P G h₀ Z s.heap){h':Heap}{tk:Nat}(k:∀ b o,s.heap.get? b=some o→h'.get? b=some o):Go P G h₀ Z s Z { s with heap:=h',toks:=tk }:=
 ⟨⟨_,_,rfl⟩,(S.ext k).1,(S.ext k).2⟩
theorem Go.push(S:St P G h₀ Z s.heap)(o:Obj)(tk:Nat):Go P G h₀ Z s Z { s with heap:=s.heap.push o,toks:=tk }:=
 Go.ext S (fun b x e=>Heap.get?_push_of_some _ e)
theorem Go.stays(x:Go P G h₀ Z s Z' s')(S:St P G h₀ Z s.heap):b7 s.heap s'.heap:=x.eff.stays S
theorem Go.rep(x:Go P G h₀ Z s Z' s')(S:St P G h₀ Z s.heap){v:Value}{y:V}(r:bg G s.heap v y):bg G s'.heap v y:=r.stays (x.stays S)
end
noncomputable def bT(P:Params)(G:GT)(h₀:Heap)(Z:H)(s:Shared)(Q:aO):Value→Shared→Prop:=fun v s'=>∃ x Z',Q x Z'∧bg G s'.heap v x∧Go P G h₀ Z s Z' s'
section
variable {P:Params} {G:GT} {h₀:Heap} {Z:H} {s:Shared} {Q:aO}
theorem bT.val(S:St P G h₀ Z s.heap){v:Value}{x:V}(q:Q x Z)(r:bg G s.heap v x)(tk:Nat):bT P G h₀ Z s Q v { s with toks:=tk }:=⟨x,Z,q,r,Go.tok S tk⟩
theorem bT.int(S:St P G h₀ Z s.heap){i:Int}(q:Q (.int i) Z)(t:Tok)(tk:Nat):bT P G h₀ Z s Q (.int i t) { s with toks:=tk }:=⟨_,Z,q,.int i t,Go.tok S tk⟩
theorem bT.here(S:St P G h₀ Z s.heap){v:Value}{x:V}(q:Q x Z)(r:bg G s.heap v x):bT P G h₀ Z s Q v s:=⟨x,Z,q,r,Go.refl S⟩
theorem bT.tup(S:St P G h₀ Z s.heap){vs:Array Value}{l:List V}(q:Q (.tup l) Z)(r:bw G s.heap vs.toList l)(z:l.length≤bL)(tk:Nat) :
  bT P G h₀ Z s Q (.ref s.heap.objs.size) { s with heap:=s.heap.push { cls:=.type "tuple",data:=.seq vs },toks:=tk }:=
 ⟨_,Z,q,.tup (Heap.get?_push_size _ rfl) (r.stays fun b x e za=>Heap.get?_push_of_some _ e) z,Go.push S _ tk⟩
theorem bT.list(S:St P G h₀ Z s.heap){vs:Array Value}{l:List V}(q:gb (.list l) Q Z)(r:bw G s.heap vs.toList l)(z:l.length≤bL)(tk:Nat) :
  bT P G h₀ Z s Q (.ref s.heap.objs.size) { s with heap:=s.heap.push { cls:=.type "list",data:=.seq vs },toks:=tk }:=by
 have A:=S.add (h':=s.heap.push { cls:=.type "list",data:=.seq vs }) (a:=s.heap.objs.size) (o:=.list l) (fun b t=>by refine af (show b=_ from t) ?_;exact dP _) (fun b x e=>Heap.get?_push_of_some _ e)
  (fun za za e=>by cases e) ⟨vs,0,Heap.get?_push_size _ rfl,r.stays fun b x e za=>Heap.get?_push_of_some _ e,z⟩
 exact⟨_,_,q _ A.2.2,.ref _,⟨_,_,rfl⟩,A.1,A.2.1⟩
theorem bT.dict(S:St P G h₀ Z s.heap){l:List (V×V)}(q:gb (.dict l) Q Z){h':Heap}{ds:Array DictEntry}{n:Nat}{kk:KK}{a:Addr}(ha:s.heap.get? a=none)(k:∀ b o,s.heap.get? b=some o→h'.get? b=some o)
  (e:h'.get? a=some { cls:=.type "dict",data:=.dict ds n }) (D:cF P G h' kk ds.toList l) (o:g7 l) (zl:l.length≤bL) (tk:Nat) :
  bT P G h₀ Z s Q (.ref a) { s with heap:=h',toks:=tk }:=by
 have A:=S.add (h':=h') (a:=a) (o:=.dict l) (fun b t=>by refine af (show b=_ from t) ?_;exact ha) k (fun za za e=>by cases e) ⟨ds,n,kk,e,D,o,zl⟩
 exact⟨_,_,q _ A.2.2,.ref _,⟨_,_,rfl⟩,A.1,A.2.1⟩
end
theorem oL:∀ n,n<NT→(cw n).length≤90:=by
 have:((List.range NT).all fun n=>decide ((cw n).length≤90))=true:=by decide +kernel
 intro n hn
 simpa using List.all_eq_true.mp this n (List.mem_range.mpr hn)
theorem cq{n:Nat}(h:n≤bL):n≤sizeLine:=by delta bL at h;refine af sizeLine_eq ?_;lia
theorem iQ:fillsNumberSlot (.type "tuple") "mul" = pure false:=
 PySem.fillsNumberSlot_seq (id := "tuple.__mul__") (r:=some (.builtin "tuple.__rmul__")) F.slot_tuple_mul.lookup (by decide +kernel) F.slot_tuple_rmul.lookup (by decide +kernel)
theorem lP:seqRepeat? (.type "tuple")=pure (some (.builtin "tuple.__mul__")):=by
 skip
 (refine ak (PySem.seqSlot_of (T := "tuple") (name := "__mul__") (id := "tuple.__mul__") F.slot_tuple_mul.lookup (by decide +kernel)) ?_;refine af (PySem.seqSlot_of (T := "tuple") (name := "__rmul__") (id := "tuple.__rmul__") F.slot_tuple_rmul.lookup (by decide +kernel)) ?_)
 rfl
open MeetsSeq in
theorem jZ(a:Int)(t:Tok)(l:Addr)(items:Array Value)(n:Nat) :
  Meets (Builtin.«int.__rmul__» ⟨[.int a t,.ref l],[]⟩) (fun za R s=>s.heap.get? l=some { cls:=.type "tuple",dict:=none,data:=.seq items n,slots:=#[] }∧R (.ok (.ret Value.notImplemented)) s):=
 .of_wp fun prog w A R s h=>by obtain⟨hp,g,d,tk,os⟩:=s;refine o0x2 h fun hl h=>?_;wp_walk;exact⟨_,rfl,h⟩
open MeetsSeq in
theorem ku(l:Addr)(v:Value)(n:Nat)(u:Tok) :
  Meets (Builtin.«tuple.__mul__» ⟨[.ref l,.int 2 u],[]⟩) (fun za R s=>s.heap.get? l=some { cls:=.type "tuple",dict:=none,data:=.seq #[v] n,slots:=#[] }∧R (.ok (.ret (.ref s.heap.objs.size))) { s with heap:=s.heap.push { cls:=.type "tuple",data:=.seq #[v,v] } }):=
 .of_wp fun prog w A R s h=>by
  refine o0x2 h fun hl h=>?_
  show wpAny _ _ (do
   let n ← asIndex (.int 2 u)
   if n < -(2 ^ 63) || n≥2 ^ 63 then
    rule "tuple.repeat.overflow";raiseError "OverflowError" s!"cannot fit '{← typeNameOf (.int 2 u)}' into an index-sized integer"
   let xs ← Builtin.Tuple.tupleItemsOf (.ref l)
   if xs.isEmpty || n == 1 then
    if ← Builtin.Tuple.tupleIsExact (.ref l) then rule "tuple.repeat.same-object";return ← ret (.ref l)
   if n≤0 || xs.isEmpty then return ← ret (← Builtin.Tuple.tupleExact #[])
   if xs.size * n > (2 ^ 63 - 1) / 8 then rule "tuple.repeat.no-memory";raiseNew (← newExc (.type "MemoryError") [])
   if Builtin.Tuple.tupleTooMany (xs.size * n) then unsupported "tuple.__mul__:memory"
   ret (← Builtin.Tuple.tupleExact ((List.replicate n.toNat xs).foldl (·++·) #[]))) _ _ s
  refine wpAny_bind (wpAny_of_eq (a:=2) rfl ?_)
  refine af (aD (by decide)) ?_
  refine wpAny_bind (tupleItemsOf_ ⟨_,hl,rfl,n,rfl⟩ ?_)
  (refine af (aD (by simp)) ?_;refine af (aD (by simp)) ?_;refine af (aD (by show ¬((1:Int) * 2 > (2 ^ 63 - 1) / 8);lia)) ?_;refine af (aD (by show ¬(decide ((1:Int) * 2 > (sizeLine:Int))=true);rw[sizeLine_eq];trivial)) ?_)
  refine wpAny_bind (m:=Builtin.Tuple.tupleExact _) (wpAny_newObj_type (wpAny_pure ⟨_,rfl,h⟩) (by show _≤sizeLine;refine af sizeLine_eq ?_;show 2≤_;lia))
section
variable {prog:Program} {w:World} {A:Around} {E:Value→Shared→Prop} {s:Shared}
theorem kB{l:Addr}{v:Value}{n:Nat}{u:Tok}{Q:Value→Shared→Prop}(hl:s.heap.get? l=some { cls:=.type "tuple",data:=.seq #[v] n })
  (h:Q (.ref s.heap.objs.size) { s with heap:=s.heap.push { cls:=.type "tuple",data:=.seq #[v,v] } }):wpAny (model prog w) A (binaryOp .Mult (.ref l) (.int 2 u)) Q E s:=
 wpAny_binaryOp_repeat_ref (T := "tuple") (U := "int") (by decide) ⟨_,hl,rfl⟩ (fun s'=>typeIs_int s' 2 u) iQ F.fills_int_mul F.slot_int_rmul lP F.slot_int_index.lookup
  (call_meets F.slot_int_rmul (typeIs_int s 2 u) F.entry_int_rmul (F.args_int_rmul_2 _ _) (jZ 2 u l #[v] n)
   ⟨hl,rfl,⟨_,hl,rfl⟩,call_meets F.slot_tuple_mul ⟨_,hl,rfl⟩ F.entry_tuple_mul (F.args_tuple_mul_2 _ _) (ku l v n u) ⟨hl,h⟩⟩)
end
theorem nw{x:Int}(h:x.natAbs<2 ^ 40):Builtin.Int.intBits x≤64:=intBits_le_64 (by lia) (by lia)
section
variable {prog:Program} {w:World} {A:Around} {E:Value→Shared→Prop} {s:Shared} {G:GT} {h₀:Heap} {Z:H} {Q:aO}
theorem xd{va vb:Value}{x:Nat}{y:Str}(S:St w.params G h₀ Z s.heap)(ra:bg G s.heap va (.sym x))(rb:bg G s.heap vb (.str y))(hy:y.cps.size≤5)(h:Q (.str ⟨y.cps.push 0⟩) Z):wpAny (model prog w) A (binaryOp .Add va vb) (bT w.params G h₀ Z s Q) E s:=by
 refine o1x2 ra.sym_inv fun t e1 hn=>?_;refine af e1 ?_;refine o2x2 rb.str_inv fun x u e2 hl=>?_;refine af e2 ?_
 have hs:=oL _ hn
 unfold Str.length at hl hs
 refine add_str (fun t' tk=>bT.val S h (.str _ _ _ ?_) _) ?_
 ·rw[strLen_append]
  show _≤10+100 * (Array.push _ _).size
  rw[Array.size_push]
  unfold Str.length
  lia
 ·refine af sizeLine_eq ?_;delta Str.length;lia
theorem w9{va vb:Value}{x y:List V}(S:St w.params G h₀ Z s.heap)(ra:bg G s.heap va (.tup x))(rb:bg G s.heap vb (.tup y))(z:x.length+y.length≤bL)(h:Q (.tup (x++y)) Z):wpAny (model prog w) A (binaryOp .Add va vb) (bT w.params G h₀ Z s Q) E s:=by
 refine o3x2 ra.tup_inv fun p vs n e3 q9=>?_;obtain rfl:=e3;refine o0x3 q9 fun e1 r1 za=>?_;clear q9;refine o3x2 rb.tup_inv fun q us m e3 q9=>?_;obtain rfl:=e3;refine o0x3 q9 fun e2 r2 za=>?_;clear q9
 have l1:=r1.length
 have l2:=r2.length
 by_cases c1:vs.isEmpty=true
 ·refine concat_meets ⟨_,e1,rfl⟩ ⟨_,e2,rfl⟩ noFill_tuple_add seq_tuple_add F.slot_tuple_add F.entry_tuple_add (F.args_tuple_add_2 _ _) (AutoSeq1.tuple___add___tuple_tuple_0 p vs n q us m c1) ⟨e1,e2,?_⟩
  have:vs = #[]:=by simpa using c1
  subst this
  cases r1
  exact bT.here S h rb
 ·by_cases c2:us.isEmpty=true
  ·refine concat_meets ⟨_,e1,rfl⟩ ⟨_,e2,rfl⟩ noFill_tuple_add seq_tuple_add F.slot_tuple_add F.entry_tuple_add (F.args_tuple_add_2 _ _) (AutoSeq1.tuple___add___tuple_tuple_1 p vs n q us m c1 c2) ⟨e1,e2,?_⟩
   have:us = #[]:=by simpa using c2
   subst this
   cases r2
   rw[List.append_nil] at h
   exact bT.here S h ra
  ·refine concat_meets ⟨_,e1,rfl⟩ ⟨_,e2,rfl⟩ noFill_tuple_add seq_tuple_add F.slot_tuple_add F.entry_tuple_add (F.args_tuple_add_2 _ _) (AutoSeq1.tuple___add___tuple_tuple_2 p vs n q us m c1 c2 (cq (by simp at l1 l2;lia))) ⟨e1,e2,?_⟩
   exact bT.tup S h (by refine af Array.toList_append ?_;exact r1.append r2) (by refine af List.length_append ?_;exact z) _
theorem xe{a b:Addr}{xs ys:List V}(S:St w.params G h₀ Z s.heap)(h1:Z a=some (.list xs))(h2:Z b=some (.list ys))(z:xs.length+ys.length≤bL)(h:gb (.list (xs++ys)) Q Z):wpAny (model prog w) A (binaryOp .Add (.ref a) (.ref b)) (bT w.params G h₀ Z s Q) E s:=by
 refine o2x3 (S.obj _ _ h1) fun vs n e1 r1 za=>?_
 refine o2x3 (S.obj _ _ h2) fun us m e2 r2 za=>?_
 have l1:=r1.length
 have l2:=r2.length
 exact P.add_list e1 e2 (bT.list S h (by refine af Array.toList_append ?_;exact r1.append r2) (by refine af List.length_append ?_;exact z) _) (cq (by simp at l1 l2;lia))
theorem vO{va vb:Value}{x:V}(S:St w.params G h₀ Z s.heap)(ra:bg G s.heap va (.tup [x]))(rb:bg G s.heap vb (.int 2))(h:Q (.tup [x,x]) Z):wpAny (model prog w) A (binaryOp .Mult va vb) (bT w.params G h₀ Z s Q) E s:=by
 refine o3x2 ra.tup_inv fun p vs n e3 q9=>?_;refine af e3 ?_;refine o0x3 q9 fun e1 r1 za=>?_;clear q9;refine aH rb.int_inv fun u e1=>?_;refine af e1 ?_
 obtain⟨l⟩:=vs
 cases r1 with
 |cons r r'=>
  cases r'
  exact kB e1 (bT.tup S h (.cons r (.cons r .nil)) (by show 2≤100000;lia) _)
theorem AC{op:Operator}{va vb:Value}{a b:V}(S:St w.params G h₀ Z s.heap)(ra:bg G s.heap va a)(rb:bg G s.heap vb b)(h:wY op a b Q Z) :
  wpAny (model prog w) A (binaryOp op va vb) (bT w.params G h₀ Z s Q) E s:=by
 induction op using Operator.casesOn with
 |Add=>
  induction a using V.casesOn with
  |int x=>
   induction b using V.casesOn with
   |int y=>
    refine aH ra.int_inv fun t e1=>?_;refine af e1 ?_;refine aH rb.int_inv fun u e1=>?_;refine af e1 ?_
    exact add_int (bT.int S h _ _)
   |_=>exact False.elim h
  |sym x=>
   induction b using V.casesOn with
   |str y=>
    exact xd S ra rb h.1 h.2
   |_=>exact False.elim h
  |tup x=>
   induction b using V.casesOn with
   |tup y=>
    exact w9 S ra rb h.1 h.2
   |_=>exact False.elim h
  |ref x=>
   induction b using V.casesOn with
   |ref y=>
    refine o2x4 h fun xs ys h1 h2 z h=>?_
    refine af ra.ref_inv ?_;refine af rb.ref_inv ?_
    exact xe S h1 h2 z h
   |_=>exact False.elim h
  |_=>exact False.elim h
 |Sub=>
  refine o2x2 (fD h) fun x y e2 q9=>?_;obtain rfl:=e2;refine o0x2 q9 fun e0 h=>?_;clear q9;obtain rfl:=e0
  refine aH ra.int_inv fun t e1=>?_;refine af e1 ?_;refine aH rb.int_inv fun u e1=>?_;refine af e1 ?_
  exact sub_int (bT.int S h _ _)
 |Mult=>
  induction a using V.casesOn with
  |int x=>
   induction b using V.casesOn with
   |int y=>
    refine aH ra.int_inv fun t e1=>?_;refine af e1 ?_;refine aH rb.int_inv fun u e1=>?_;refine af e1 ?_
    exact mul_int (bT.int S h.2 _ _) (IntMulOk.of_left (nw h.1.1))
   |_=>exact False.elim h
  |tup l=>
   induction l using List.casesOn with
   |nil=>exact False.elim h
   |cons x l=>
    induction l using List.casesOn with
    |cons _ _=>exact False.elim h
    |nil=>
     induction b using V.casesOn with
     |int y=>
      obtain⟨rfl,h⟩:=h
      exact vO S ra rb h
     |_=>exact False.elim h
  |_=>exact False.elim h
 |FloorDiv=>
  refine o2x2 (fD h) fun x y e2 q9=>?_;obtain rfl:=e2;refine o0x2 q9 fun e0 h=>?_;clear q9;obtain rfl:=e0
  refine aH ra.int_inv fun t e1=>?_;refine af e1 ?_;refine aH rb.int_inv fun u e1=>?_;refine af e1 ?_
  refine o0x2 h fun q0 h=>?_;obtain⟨h1,h2⟩:=q0
  refine floordiv_int (by lia) (bT.int S ?_ _ _) (.inl (PyProof.noPylong_small (by lia)))
  refine af (Int.fdiv_eq_ediv_of_nonneg _ (by lia)) ?_;exact h
 |Mod=>
  refine o2x2 (fD h) fun x y e2 q9=>?_;obtain rfl:=e2;refine o0x2 q9 fun e0 h=>?_;clear q9;obtain rfl:=e0
  refine aH ra.int_inv fun t e1=>?_;refine af e1 ?_;refine aH rb.int_inv fun u e1=>?_;refine af e1 ?_
  refine mod_int' (by lia) (bT.int S ?_ _ _)
  refine af (Int.fmod_eq_emod_of_nonneg _ (by lia)) ?_;exact h.2
 |Pow=>
  refine o2x2 (fD h) fun x y e2 q9=>?_;obtain rfl:=e2;refine o0x2 q9 fun e0 h=>?_;clear q9;obtain rfl:=e0
  refine aH ra.int_inv fun t e1=>?_;refine af e1 ?_;refine aH rb.int_inv fun u e1=>?_;refine af e1 ?_
  refine o0x2 h fun q0 hq=>?_;clear h;obtain⟨rfl,h1,h2⟩:=q0
  refine pow_int h1 ?_ (bT.int S hq _ _)
  refine af (show Builtin.Int.intBits 2=2 from by decide) ?_;lia
 |RShift=>
  refine o2x2 (fD h) fun x y e2 q9=>?_;obtain rfl:=e2;refine o0x2 q9 fun e0 h=>?_;clear q9;obtain rfl:=e0
  refine aH ra.int_inv fun t e1=>?_;refine af e1 ?_;refine aH rb.int_inv fun u e1=>?_;refine af e1 ?_
  refine o0x2 h fun q0 h=>?_;obtain⟨h0,h1,h2⟩:=q0
  refine rshift_int h1 (bT.int S ?_ _ _)
  refine af (Int.fdiv_eq_ediv_of_nonneg _ (by exact Int.le_of_lt (Int.pow_pos (by decide)))) ?_;exact h
 |BitAnd=>
  refine o2x2 (fD h) fun x y e2 q9=>?_;obtain rfl:=e2;refine o0x2 q9 fun e0 h=>?_;clear q9;obtain rfl:=e0
  refine aH ra.int_inv fun t e1=>?_;refine af e1 ?_;refine aH rb.int_inv fun u e1=>?_;refine af e1 ?_
  refine o0x2 h fun q0 hq=>?_;clear h;obtain⟨rfl,rfl⟩:=q0
  exact and_int (bT.int S hq _ _)
 |_=>exact False.elim h
end
end Mine
namespace Mine
open PySem PySem.W PySem.Calls PyProof.Rows
noncomputable def xk(G:GT)(h:Heap):Prop:=∃ o ds n,h.get? G.gd=some o∧o.cls=.type "dict" ∧o.data=.dict ds n∧(∀ e ∈ ds,∃ i t,e.key=.int i t∧e.hash=hashInt i)∧(∀ i,(ds.findIdx? fun e=>Value.isInt i e.key).isSome=gR.contains i)∧G.gd≠sysModules
section
variable {prog:Program} {w:World} {A:Around} {E:Value→Shared→Prop} {s:Shared} {G:GT} {h₀:Heap} {Z:H}
theorem iO(S:St w.params G h₀ Z s.heap)(hz:∃ o,h₀.get? sysModules=some o){a:Addr}(e:Z a≠none):(a == sysModules)=false:=by
 have:=S.new a (.inl e)
 rw[beq_eq_false_iff_ne]
 intro q
 refine aH hz fun o ho=>?_;clear hz
 (rewrite[q] at this;rw[ho] at this)
 exact sn this
theorem kS{o:Option O}{k x:V}{P:Prop}(e:kT k o=some x)(h2:∀ xs i,o=some (.list xs)→k=.int i→0≤i→xs[i.toNat]? = some x→P)
  (h3:∀ es,o=some (.dict es)→bd es k=true→aI es k=some x→P):P:=by
 induction o using Option.casesOn with
 |none=>exact ns e
 |some o=>induction o using O.casesOn with
  |list xs=>
   revert e
   induction k using V.casesOn with
   |int i=>exact fun e=>h2 xs i rfl rfl (gG e).1 (gG e).2
   |_=>exact ns
  |dict es=>exact h3 es rfl (gG e).1 (gG e).2
  |inst=>exact ns e
theorem kR{a k x:V}{P:Prop}(h1:∀ l i,a=.tup l→k=.int i→0≤i→l[i.toNat]? = some x→P)(h2:∀ p,a=.ref p→kT k (Z p)=some x→P):bD Z a k=some x→P:=by
 induction a using V.casesOn with
 |tup l=>induction k using V.casesOn with
  |int i=>exact fun e=>h1 l i rfl rfl (gG e).1 (gG e).2
  |_=>exact ns
 |ref p=>exact h2 p rfl
 |_=>exact ns
theorem sy{o:Option O}{p:Addr}{k x:V}{Z':H}{P:Prop}(e:sz Z p k x o=some Z')(h2:∀ xs i,o=some (.list xs)→k=.int i→0≤i∧i<xs.length→Z.set p (.list (xs.set i.toNat x))=Z'→P)
  (h3:∀ es,o=some (.dict es)→bd es k=true∧es.length<bL→Z.set p (.dict (bI es k x))=Z'→P):P:=by
 induction o using Option.casesOn with
 |none=>exact ns e
 |some o=>induction o using O.casesOn with
  |list xs=>
   revert e
   induction k using V.casesOn with
   |int i=>exact fun e=>h2 xs i rfl rfl (bX e).1 (bX e).2
   |_=>exact ns
  |dict es=>exact h3 es rfl (bX e).1 (bX e).2
  |inst=>exact ns e
theorem lN{a k x:V}{Z':H}{P:Prop}(h2:∀ p,a=.ref p→sz Z p k x (Z p)=some Z'→P):eS Z a k x=some Z'→P:=by
 induction a using V.casesOn with
 |ref p=>exact h2 p rfl
 |_=>exact ns
theorem qd{vs:List Value}{xs:List V}{k:Nat}{x:V}{h:Heap}(r1:bw G h vs xs)(z:xs.length≤bL)(e:xs[k]? = some x):∃ v,vs[k]? = some v∧bg G h v x∧k<vs.length∧vs.length≤bL:=by
 refine o1x2 (r1.get e) fun v hv rv=>?_
 exact⟨v,hv,rv,(List.getElem?_eq_some_iff.mp hv).1,by refine af r1.length ?_;exact z⟩
theorem nH{va vk:Value}{l:List V}{i:Int}{x:V}{Q:Value→Shared→Prop}(ra:bg G s.heap va (.tup l))(rk:bg G s.heap vk (.int i))(h0:0≤i)(e:l[i.toNat]? = some x)
  (h:∀ v tk,bg G s.heap v x→Q v { s with toks:=tk }):wpAny (model prog w) A (getItem va vk) Q E s:=by
 refine o3x2 ra.tup_inv fun p vs n e3 q9=>?_;refine af e3 ?_;refine o0x3 q9 fun e1 r1 z=>?_;clear q9
 refine aH rk.int_inv fun u e1=>?_;obtain rfl:=e1
 refine o1x4 (qd r1 z e) fun v hv rv hlt hz=>?_
 refine aH (Int.eq_ofNat_of_zero_le h0) fun j e1=>?_;obtain rfl:=e1
 rw[Array.length_toList] at hlt hz
 rw[Array.getElem?_toList] at hv
 refine P.getItem_tuple (i:=(j:Int)) e1 (by unfold bL at hz;lia) (by unfold bL at hz;lia) (k:=j) (y:=v) ?_ hv (h v _ rv)
 have hi:¬(j:Int)<0:=Int.not_lt.mpr h0
 simp[seqIndex?,hi]
 exact hlt
theorem nJ{p:Addr}{vk:Value}{xs:List V}{i:Int}{x:V}{Q:Value→Shared→Prop}(S:St w.params G h₀ Z s.heap)(hZ:Z p=some (.list xs))(rk:bg G s.heap vk (.int i))(h0:0≤i)(e:xs[i.toNat]? = some x)
  (h:∀ v tk,bg G s.heap v x→Q v { s with toks:=tk }):wpAny (model prog w) A (getItem (.ref p) vk) Q E s:=by
 refine o2x3 (S.obj _ _ hZ) fun vs n e1 r1 z=>?_
 refine aH rk.int_inv fun u e1=>?_;obtain rfl:=e1
 refine o1x4 (qd r1 z e) fun v hv rv hlt hz=>?_
 rw[Array.length_toList] at hlt hz
 rw[Array.getElem?_toList] at hv
 exact wpAny_getItem_list ⟨_,e1,rfl,n,rfl⟩ h0 (by unfold bL at hz;lia) hv (h v _ rv)
theorem nK{p:Addr}{vk:Value}{es:List (V×V)}{k x:V}{Q:Value→Shared→Prop}(S:St w.params G h₀ Z s.heap)(hZ:Z p=some (.dict es))(rk:bg G s.heap vk k)(hu:A.units+70<cLine)(hk:bd es k=true)(e:aI es k=some x)
  (h:∀ v tk,bg G s.heap v x→Q v { s with toks:=tk }):wpAny (model prog w) A (getItem (.ref p) vk) Q E s:=by
 refine o3x4 (S.obj _ _ hZ) fun ds n kk e1 D O z=>?_
 have hT:s.TypeIs (.ref p) "dict" :=⟨_,e1,rfl⟩
 unfold getItem
 try with_reducible refine wpAny_holding ?_
 refine wpAny_bind (wpAny_sequenceKey hT (by decide) ?_)
 refine wpAny_bind (wpAny_callSpecial?_slot (name:=Str.ofString "__getitem__") hT slot_dict_getitem
  (wpAny_call_entry slot_dict_getitem hT entry_dict_getitem ?_ (args_dict_getitem _ _)))
 show wpAny _ _ (dictGet p vk >>= _) _ _ s
 refine wpAny_bind (mr e1 D O rk hk (by show A.units+1+64<_;lia) (fun x' v tk e' rv=>?_) fun tk e'=>?_)
 ·obtain rfl:=aP (e.symm.trans e')
  exact wpAny_pure ⟨v,rfl,wpAny_pure (h v tk rv)⟩
 ·exact sn (e.symm.trans e')
theorem wg{va vk:Value}{a k x:V}{Q:Value→Shared→Prop}(S:St w.params G h₀ Z s.heap)(ra:bg G s.heap va a)(rk:bg G s.heap vk k)(hu:A.units+70<cLine)(e:bD Z a k=some x)
  (h:∀ v tk,bg G s.heap v x→Q v { s with toks:=tk }):wpAny (model prog w) A (getItem va vk) Q E s:=by
 refine kR (fun l i q1 q2 h0 e=>?_) (fun p q e=>?_) e
 ·exact nH (q1▸ra) (q2▸rk) h0 e h
 ·obtain rfl:=(show bg G s.heap va (.ref p) from q▸ra).ref_inv
  exact kS e (fun xs i hZ q h0 e=>nJ S hZ (q▸rk) h0 e h) fun es hZ hk e=>nK S hZ rk hu hk e h
theorem jI{p:Addr}{vk vv:Value}{xs:List V}{i:Int}{x:V}{Q:Unit→Shared→Prop}(S:St w.params G h₀ Z s.heap)(hZ:Z p=some (.list xs))(rk:bg G s.heap vk (.int i))(rv:bg G s.heap vv x)(h0:0≤i∧i<xs.length)
  (h:∀ s',Go w.params G h₀ Z s (Z.set p (.list (xs.set i.toNat x))) s'→Q () s'):wpAny (model prog w) A (setItem (.ref p) vk vv) Q E s:=by
 refine o2x3 (S.obj _ _ hZ) fun vs n e1 r1 z=>?_
 refine aH rk.int_inv fun u e1=>?_;obtain rfl:=e1
 have hz:vs.size≤bL:=by(refine br Array.length_toList ?_;refine af r1.length ?_);exact z
 have hl:Heap.IsList s.heap p vs:=⟨_,e1,rfl,n,rfl⟩
 unfold setItem
 try with_reducible refine wpAny_holding ?_
 first | refine wpAny_bind (wpAny_pure ?_) | skip
 refine wpAny_bind (wpAny_sequenceKey hl.typeIs (by decide) ?_)
 refine wpAny_bind (wpAny_callSpecial?_slot (name:=Str.ofString "__setitem__") hl.typeIs slot_list_setitem
  (wpAny_call_entry slot_list_setitem hl.typeIs entry_list_setitem ?_ (args_list_setitem _ _ _)))
 show wpAny _ _ (Builtin.List.listSubscript? (.int i u) >>= _) _ _ s
 have hv:vs.size=xs.length:=by(refine br Array.length_toList ?_;(refine ak (r1.length) ?_;with_reducible rfl))
 refine wpAny_bind (wpAny_listSubscript_int (fitsIndex_of h0.1 (by unfold bL at hz;lia)) ?_)
 refine o0x2 h0 fun h0 h1=>?_
 refine aH (Int.eq_ofNat_of_zero_le h0) fun j e1=>?_;obtain rfl:=e1
 have hj:j<vs.size:=hv▸Int.ofNat_lt.mp h1
 show wpAny _ _ ((seqItemAt p j >>= fun r=>pure (r.map (j,·))) >>= _) _ _ s
 refine wpAny_bind (wpAny_bind (wpAny_seqItemAt e1 rfl (wpAny_pure ?_)))
 refine af (Array.getElem?_eq_getElem hj) ?_
 show wpAny _ _ (setSeqItemAt p j vv >>= _) _ _ s
 refine wpAny_bind (wpAny_setSeqItemAt e1 rfl ?_)
 have g:Go w.params G h₀ Z s (Z.set p (.list (xs.set j x))) { s with heap:=s.heap.update p (Obj.mapSeq (·.setIfInBounds j vv)) }:=by
  have h2:Heap.get? (s.heap.update p (Obj.mapSeq (·.setIfInBounds j vv))) p=some { cls:=.type "list",data:=.seq (vs.setIfInBounds j vv) (if(vs.setIfInBounds j vv).size == vs.size then n else n+1) }:=Heap.get?_update_self _ e1 rfl
  have C:=S.change (h':=s.heap.update p (Obj.mapSeq (·.setIfInBounds j vv))) (a:=p) (d:=p) (o':=.list (xs.set j x)) hZ rfl (fun b=>Iff.rfl) (fun za za q=>nomatch q)
   (fun b y hb hy=>(Heap.SameBut.update ..).extBut b y hb hy)
   fun st=>⟨_,_,h2,by refine af Array.toList_setIfInBounds ?_;exact(r1.set j rv).stays st,by refine af List.length_set ?_;exact z⟩
  exact⟨⟨_,_,rfl⟩,C.1,C.2⟩
 first
  |exact wpAny_bind (wpAny_pure (wpAny_pure ⟨.none,rfl,wpAny_pure (h _ g)⟩))
  |exact wpAny_pure ⟨.none,rfl,wpAny_pure (h _ g)⟩
theorem jJ{p:Addr}{vk vv:Value}{es:List (V×V)}{k x:V}{Q:Unit→Shared→Prop}(S:St w.params G h₀ Z s.heap)(hZ:Z p=some (.dict es))(rk:bg G s.heap vk k)(rv:bg G s.heap vv x)(hu:A.units+70<cLine)(hk:bd es k=true∧es.length<bL)
  (h:∀ s',Go w.params G h₀ Z s (Z.set p (.dict (bI es k x))) s'→Q () s'):wpAny (model prog w) A (setItem (.ref p) vk vv) Q E s:=by
 refine o3x4 (S.obj _ _ hZ) fun ds n kk e1 D O z=>?_
 have hT:s.TypeIs (.ref p) "dict" :=⟨_,e1,rfl⟩
 unfold setItem
 try with_reducible refine wpAny_holding ?_
 refine wpAny_bind (wpAny_sequenceKey hT (by decide) ?_)
 refine wpAny_bind (wpAny_callSpecial?_slot (name:=Str.ofString "__setitem__") hT slot_dict_setitem
  (wpAny_call_entry slot_dict_setitem hT entry_dict_setitem ?_ (args_dict_setitem _ _ _)))
 show wpAny _ _ (Builtin.Dict.notOrdered "__setitem__" ⟨[.ref p,vk,vv],[]⟩ >>= _) _ _ s
 refine wpAny_bind (wpAny_notOrdered_dict hT ?_)
 show wpAny _ _ (dictSet p vk vv >>= _) _ _ s
 refine wpAny_bind (qu e1 D O rk hk.1 (by show A.units+1+64<_;lia) hk.2 rv fun h' tk ds' n' kk' hs e' D' z'=>wpAny_pure ⟨.none,rfl,wpAny_pure (h _ ?_)⟩)
 have C:=S.change (h':=h') (a:=p) (d:=p) (o':=.dict (bI es k x)) hZ rfl (fun b=>Iff.rfl) (fun za za q=>nomatch q) (fun b y hb hy=>hs.extBut b y hb hy)
  fun st=>⟨ds',n',kk',e',D'.stays st,iK O,z'⟩
 exact⟨⟨_,_,rfl⟩,C.1,C.2⟩
theorem oD{va vk vv:Value}{a k x:V}{Z':H}{Q:Unit→Shared→Prop}(S:St w.params G h₀ Z s.heap)(ra:bg G s.heap va a)(rk:bg G s.heap vk k)(rv:bg G s.heap vv x)(hu:A.units+70<cLine)(e:eS Z a k x=some Z')
  (h:∀ s',Go w.params G h₀ Z s Z' s'→Q () s'):wpAny (model prog w) A (setItem va vk vv) Q E s:=by
 refine lN (fun p q e=>?_) e
 refine af ((show bg G s.heap va (.ref p) from q▸ra).ref_inv) ?_
 exact sy e (fun xs i hZ q h0 e=>jI S hZ (q▸rk) rv h0 fun s' g=>h s' (e▸g)) fun es hZ hk e=>jJ S hZ rk rv hu hk fun s' g=>h s' (e▸g)
end
section
variable {prog:Program} {w:World} {A:Around} {E:Value→Shared→Prop} {s:Shared} {G:GT} {h₀:Heap} {Z:H}
theorem gS{d:Addr}{o:Obj}{kv:Value}{b:Bool}{Q:Bool→Shared→Prop}(hd:(d == sysModules)=false)(ho:s.heap.get? d=some o)(hc:o.cls=.type "dict")
  (hg:∀ E':Value→Shared→Prop,wpAny (model prog w) A.in1 (dictGet d kv) (fun r s'=>∃ tk,s'={ s with toks:=tk }∧r.isSome=b) E' s) (h:∀ tk,Q b { s with toks:=tk }) :
  wpAny (model prog w) A (contains (.ref d) kv) Q E s:=by
 have hT:s.TypeIs (.ref d) "dict" :=⟨_,ho,hc⟩
 unfold contains
 try with_reducible refine wpAny_holding ?_
 refine wpAny_bind (wpAny_specialOf hT slot_dict_contains.lookup ?_)
 show wpAny _ _ (if(some (Value.builtin "dict.__contains__") == some Value.none)=true then _ else _) _ E s
 refine af (aD (by rw[beq_builtin_none];exact Bool.false_ne_true)) ?_
 refine wpAny_bind (wpAny_callSpecialUnlessNone?_slot (name:=Str.ofString "__contains__") hT slot_dict_contains
  (wpAny_call_entry slot_dict_contains hT entry_dict_contains ?_ (args_dict_contains _ _)))
 show wpAny _ _ (dictGet d kv >>= _) _ _ s
 refine wpAny_bind (wpAny_mono (hg _) (fun r s' hr=>?_) fun za za e=>e)
 obtain⟨tk,rfl,hr⟩:=hr
 induction r using Option.casesOn with
 |some v=>
  induction b using Bool.casesOn with
  |false=>exact tf hr
  |true=>exact wpAny_pure ⟨_,rfl,wpAny_truthy_bool (h _)⟩
 |none=>
  induction b using Bool.casesOn with
  |true=>exact ff hr
  |false=>
   show wpAny _ _ (Builtin.Dict.pendingKey? d kv >>= _) _ _ _
   exact wpAny_bind (wpAny_pendingKey_other hd (wpAny_pure ⟨_,rfl,wpAny_truthy_bool (h _)⟩))
set_option tactic.hygienic true in
theorem xu{vk vd:Value}{k d:V}{b:Bool}{Q:Bool→Shared→Prop}(S:St w.params G h₀ Z s.heap)(hz:∃ o,h₀.get? sysModules=some o)(hg:xk G h₀)(rk:bg G s.heap vk k)(rd:bg G s.heap vd d)(hu:A.units+70<cLine)(e:A5 Z k d=some b)
  (h:∀ tk,Q b { s with toks:=tk }):wpAny (model prog w) A (contains vd vk) Q E s:=by
 unfold A5 at e
 split at e
 ·rename_i p
  refine af rd.ref_inv ?_
  split at e
  ·rename_i es hZ
   refine o3x4 (S.obj _ _ hZ) fun ds n kk e1 D O z=>?_
   split at e
   ·rename_i hk
    have e:=aP e
    refine gS (iO S hz (by refine af hZ ?_;simp)) e1 rfl (fun E'=>?_) h
    exact mr e1 D O rk hk (by show A.units+1+64<_;lia) (fun x v tk q za=>⟨tk,rfl,by(refine br e ?_;refine af q ?_);rfl⟩) fun tk q=>⟨tk,rfl,by(refine br e ?_;refine af q ?_);rfl⟩
   ·exact ns e
  ·exact ns e
 ·rename_i i
  refine af rd.gd_inv ?_
  refine aH rk.int_inv fun t e1=>?_;refine af e1 ?_
  have e:=aP e
  refine o3x6 hg fun o ds n ho hc hd hk hf hs=>?_;clear hg
  have ho':=S.base _ _ ho
  refine gS (by rw[beq_eq_false_iff_ne];exact hs) ho' hc (fun E'=>?_) h
  try with_reducible refine wpAny_holding ?_
  refine wpAny_bind (wpAny_pyHash_int (wpAny_bind (wpAny_dictFind_of (key:=.int i t) (knd:=intKind prog w) (k:=i) (by simp[intKind,Value.isInt]) (s:={ s with toks:=s.toks+1 }) ho' hd (fun x hx=>?_) ?_)))
  ·refine o2x2 (hk x hx) fun j u h1 h2=>?_
   exact⟨j,by refine af h1 ?_;simp[intKind,Value.isInt],h2⟩
  ·have hf:=hf i
   refine af (show(fun e:DictEntry=>(intKind prog w).is i e.key)=fun e=>Value.isInt i e.key from rfl) ?_
   induction q:ds.findIdx? fun e=>Value.isInt i e.key using Option.casesOn with
   |none=>
    rw[q] at hf
    exact wpAny_pure ⟨_,rfl,by(refine br e ?_;refine br hf ?_);rfl⟩
   |some j=>
    rw[q] at hf
    refine wpAny_bind (wpAny_dictEntries (s:={ s with toks:=s.toks+1 }) ho' hd (wpAny_pure ⟨_,rfl,?_⟩))
    refine aH (Array.findIdx?_eq_some_iff_getElem.mp q) fun hj za=>?_
    (refine br e ?_;refine br hf ?_;refine af (Array.getElem?_eq_getElem hj) ?_);rfl
 ·exact ns e
theorem oH(n:Nat){vs:List Value}:∀ {xs:List V} {ds:List PyData},(∀ v x d,bg G s.heap v x→kC Z n x=some d→(∃ as,Reads s.heap v d as)∧d.canLay0=true∧d.depth≤n+30)→bw G s.heap vs xs→xs.mapM (kC Z n)=some ds→(∃ as,ReadsAll s.heap vs ds as)∧PyData.canLayAll0 ds=true∧PyData.depthAll ds≤n+30:=by
 induction vs with
 |nil=>intro xs ds f r e;cases r;refine br (aP e) ?_;exact⟨⟨_,.nil⟩,rfl,Nat.zero_le _⟩
 |cons v vs ih=>
  intro xs ds f r e
  cases r with
  |cons r rs=>
   rw[List.mapM_cons] at e
   refine o1x2 (Option.bind_eq_some_iff.mp e) fun d e1 e=>?_
   refine o1x2 (Option.bind_eq_some_iff.mp e) fun ds' e2 e=>?_
   refine br (aP e) ?_
   refine o0x3 (f v _ d r e1) fun q0 h2 h3=>?_;obtain⟨as,h1⟩:=q0
   refine o0x3 (ih f rs e2) fun q0 g2 g3=>?_;obtain⟨bs,g1⟩:=q0
   exact⟨⟨_,.cons h1 g1⟩,Bool.and_eq_true_iff.mpr ⟨h2,g2⟩,Nat.max_le.mpr ⟨h3,g3⟩⟩
theorem i9{v:Value}{x:V}{d:PyData}{m:Nat}(r:bg G s.heap v x)(e:(if pv 30 x=true then some (gM x) else none)=some d):(∃ as,Reads s.heap v d as)∧d.canLay0=true∧d.depth≤m+30:=by
 split at e
 ·next hp=>refine br (aP e) ?_;exact⟨eW 30 r hp,(gh 30 x hp).1,Nat.le_trans (gh 30 x hp).2 (Nat.le_add_left _ _)⟩
 ·exact ns e
theorem eI(S:St w.params G h₀ Z s.heap)(n:Nat):∀ (v:Value) (x:V) (d:PyData),bg G s.heap v x→kC Z n x=some d→(∃ as,Reads s.heap v d as)∧d.canLay0=true∧d.depth≤n+30:=by
 induction n with
 |zero=>intro v x d r e;exact i9 r (by induction x using V.casesOn<;>exact e)
 |succ n ih=>
  intro v x d r e
  induction x using V.casesOn with
  |ref a=>
   refine af r.ref_inv ?_
   have e:(match Z a with | some (.list xs)=>(xs.mapM (kC Z n)).map PyData.list | _=>Option.none)=some d:=e
   split at e
   ·next xs hZ=>
    refine o2x3 (S.obj _ _ hZ) fun vs k e1 r1 z=>?_
    refine o1x2 (Option.map_eq_some_iff.mp e) fun ds e2 e2=>?_;obtain rfl:=e2
    refine o0x3 (oH n ih r1 e2) fun q0 h2 h3=>?_;obtain⟨as,h1⟩:=q0
    exact⟨⟨_,.list e1 rfl rfl h1⟩,h2,by rw[PyData.depth];lia⟩
   ·exact ns e
  |_=>exact i9 r e
end
theorem gP{Z:H}:∀ {es fs:List (V×V)},f8 Z es fs→es.length=fs.length
 |[],[],_=>rfl
 |_::es,_::fs,h=>by(refine ak (List.length_cons) ?_;refine af List.length_cons ?_;(refine af (gP h.2.2.2) ?_;with_reducible rfl))
 |[],_::_,h=>h.elim
 |_::_,[],h=>h.elim
theorem jL{Z:H}:∀ {es fs:List (V×V)},f8 Z es fs→∀ {i:Nat} {e:V×V},es[i]? = some e→∃ f j,fs[i]? = some f∧e.1=f.1∧e.1=.int j∧nc Z e.2 f.2
 |[],_,_,i,e,q=>by simp at q
 |e::es,f::fs,h,i,e',q=>by
  induction i using Nat.casesAuxOn with
  |zero=>
   simp at q;subst q
   obtain⟨j,hj⟩:=h.2.1
   exact⟨f,j,rfl,h.1,hj,h.2.2.1⟩
  |succ i=>simpa using jL h.2.2.2 (by simpa using q)
 |_::_,[],h,_,_,_=>h.elim
theorem nr:∀ {fs:List (V×V)},g7 fs→∀ {i:Nat} {f:V×V} {j:Int},fs[i]? = some f→f.1=.int j→eC fs (.int j)=some i
 |[],_,i,f,j,q,_=>by simp at q
 |g::fs,O,i,f,j,q,e=>by
  induction i using Nat.casesAuxOn with
  |zero=>
   simp at q;subst q
   unfold eC
   (refine ak (List.findIdx?_cons) ?_;refine af e ?_;rw[dH])
   simp
  |succ i=>
   simp at q
   have ih:=nr O.2 q e
   have ne:=O.1 f (List.mem_of_getElem? q)
   unfold eC at ih ⊢
   refine ak (List.findIdx?_cons) ?_
   have:dH g.1 (.int j)=false:=by
    rw[e] at ne
    induction hg:g.1 using V.casesOn with
    |int k=>
     rw[hg] at ne
     simp[dH] at ne ⊢
     exact fun z=>ne z.symm
    |_=>dsimp only [dH]
   (refine af this ?_;refine af ih ?_);rfl
section
variable {prog:Program} {w:World} {A:Around} {E:Value→Shared→Prop} {s:Shared} {G:GT} {h₀:Heap} {Z:H}
theorem mi(S:St w.params G h₀ Z s.heap){u v:Value}{x y:V}{Q:Bool→Shared→Prop}(ru:bg G s.heap u x)(rv:bg G s.heap v y)(e:nc Z x y)(hu:A.units+64<cLine)(h:Q true s) :
  wpAny (model prog w) A (eqBool u v) Q E s:=by
 refine o1x2 e fun d e1 e2=>?_;clear e
 refine o0x3 (eI S _ _ _ _ ru e1) fun q0 l1 z1=>?_;obtain⟨as,r1⟩:=q0
 refine o0x3 (eI S _ _ _ _ rv e2) fun q0 l2 z2=>?_;obtain⟨bs,r2⟩:=q0
 refine SeqAt.eqBoolOverData _ _ _ _ _ _ _ _ _ _ _ _ r1 r2 l1 l2 (by lia) ?_
 refine af (SeqAt.eqv_refl d l1) ?_;exact h
theorem hJ{id:String}{a b:Addr}{ds ds':Array DictEntry}{n m:Nat}{es fs:List (V×V)}{kk kk':KK}{Q:Bool→Shared→Prop}(S:St w.params G h₀ Z s.heap)(ha:(a == sysModules)=false)(hb:(b == sysModules)=false)
  (e1:s.heap.get? a=some { cls:=.type "dict",data:=.dict ds n }) (e2:s.heap.get? b=some { cls:=.type "dict",data:=.dict ds' m }) (D1:cF w.params G s.heap kk ds.toList es) (D2:cF w.params G s.heap kk' ds'.toList fs)
  (O:g7 fs) (same:f8 Z es fs) (hu:A.units+64<cLine) (h:Q true s):wpAny (model prog w) A (Builtin.Dict.samePairs id a b) Q E s:=by
 have l1:ds.size=es.length:=by refine br D1.length ?_;rfl
 have l2:ds'.size=fs.length:=by refine br D2.length ?_;rfl
 have l3:=gP same
 delta Builtin.Dict.samePairs Builtin.Dict.showsAll
 (refine af ha ?_;refine af hb ?_;refine af (aD Bool.false_ne_true) ?_)
 refine wpAny_bind (wpAny_pure (wpAny_bind (wpAny_pure (wpAny_bind (wpAny_dictEntries e1 rfl (wpAny_bind (wpAny_dictEntries e2 rfl ?_)))))))
 have hne:(ds.size != ds'.size)=false:=by(refine af l1 ?_;refine af l2 ?_;refine af l3 ?_);simp
 (refine af hne ?_;refine af (aD Bool.false_ne_true) ?_)
 refine wpAny_bind (wpAny_dictEpoch e1 rfl (wpAny_bind ?_))
 rw[Std.Legacy.Range.forIn_eq_forIn_range']
 rw[Std.Legacy.Range.size,Nat.sub_zero,Nat.add_sub_cancel,Nat.div_one]
 refine wpAny_forIn_list _ (fun rest r s'=>∃ i,rest=List.range' i (ds.size - i)∧i≤ds.size∧r.1=none∧s'=s) _ ?_ ?_ _ _ ⟨0,by simp,Nat.zero_le _,rfl,rfl⟩
 ·intro x rest r za p0;refine o1x4 p0 fun i hr hi hr1 e4=>?_;clear p0;refine af e4 ?_
  have hlt:i<ds.size:=by
   refine Or.elim (Nat.lt_or_ge i ds.size) (fun h=>?_) (fun h=>?_)
   ·exact h
   ·rw[Nat.sub_eq_zero_of_le h] at hr;simp at hr
  obtain⟨rfl,hrest⟩:x=i∧rest=List.range' (i+1) (ds.size - (i+1)):=by
   have e:ds.size - i=(ds.size - (i+1))+1:=by lia
   (rewrite[e] at hr;rw[List.range'_succ] at hr)
   injection hr with h1 h2
   exact⟨h1,h2⟩
  refine aH ((⟨es[x]'(by lia),List.getElem?_eq_getElem _⟩:∃ e,es[x]? = some e)) fun e he=>?_
  refine o1x5 (D1.get he) fun d hd rk hk hh rv=>?_
  refine o2x4 (jL same he) fun f j hf k1 k2 sd=>?_
  refine o1x5 (D2.get hf) fun d' hd' rk' hk' hh' rv'=>?_
  have ix:=nr O hf (k1▸k2)
  refine wpAny_bind (wpAny_dictEntries e1 rfl ?_)
  refine af (show ds[x]? = some d from by rw[← Array.getElem?_toList];exact hd) ?_
  refine wpAny_bind (wpAny_holding (wpAny_bind ?_))
  refine af hh ?_
  have kkk:kk=kk':=by rw[k1] at hk;rw[hk] at hk';exact aP hk'
  subst kkk
  refine mc e2 D2 O rk hk hu ?_
  (refine af k2 ?_;refine af ix ?_)
  refine wpAny_bind (wpAny_dictEntries e2 rfl ?_)
  refine af (show ds'[x]? = some d' from by rw[← Array.getElem?_toList];exact hd') ?_
  refine wpAny_holding (mi S rv rv' sd hu ?_)
  refine af (aD (by trivial)) ?_
  refine wpAny_bind (wpAny_dictEpoch e1 rfl ?_)
  refine af (aD (by simp)) ?_
  exact wpAny_pure ⟨x+1,hrest,hlt,rfl,rfl⟩
 ·intro r za p0;refine o1x4 p0 fun i hr hi hr1 e4=>?_;clear p0;refine af e4 ?_
  obtain⟨r1,r2⟩:=r
  dsimp only at hr1
  refine af hr1 ?_
  exact wpAny_pure h
theorem mq{a b:Addr}{ds ds':Array DictEntry}{n m:Nat}{es fs:List (V×V)}{kk kk':KK}{Q:Value→Shared→Prop}(S:St w.params G h₀ Z s.heap)(ha:(a == sysModules)=false)(hb:(b == sysModules)=false)
  (e1:s.heap.get? a=some { cls:=.type "dict",data:=.dict ds n }) (e2:s.heap.get? b=some { cls:=.type "dict",data:=.dict ds' m }) (D1:cF w.params G s.heap kk ds.toList es) (D2:cF w.params G s.heap kk' ds'.toList fs)
  (O:g7 fs) (same:f8 Z es fs) (hu:A.units+65<cLine) (h:Q (.bool true) s):wpAny (model prog w) A (call (.builtin "dict.__eq__") [.ref a,.ref b]) Q E s:=by
 have hT:s.TypeIs (.ref a) "dict" :=⟨_,e1,rfl⟩
 have hT':s.TypeIs (.ref b) "dict" :=⟨_,e2,rfl⟩
 refine wpAny_call_entry F.slot_dict_eq hT F.entry_dict_eq ?_ (F.args_dict_eq_2 _ _)
 show wpAny _ _ (do
  let (self,other) ← Builtin.Dict.dictSlotArgs "__eq__" ⟨[.ref a,.ref b],[]⟩
  if !(← isInstance other (.type "dict")) then rule s!"dict.{"__eq__"}.not-a-dict";return ← ret .notImplemented
  ret (.bool ((← Builtin.Dict.samePairs s!"dict.{"__eq__"}" (← Builtin.Dict.addrOf self) (← Builtin.Dict.addrOf other)) == true))) _ _ s
 refine wpAny_bind (wpAny_bind (wpAny_notOrdered_dict hT (wpAny_bind (wpAny_pure (wpAny_pure ?_)))))
 refine wpAny_bind (wpAny_isInstance hT' isSubtype_dict_dict ?_)
 refine af (aD (by trivial)) ?_
 refine wpAny_bind (wpAny_pure (wpAny_bind (wpAny_pure (wpAny_bind (hJ S ha hb e1 e2 D1 D2 O same (by show A.units+1+64<_;lia) ?_)))))
 exact wpAny_pure ⟨_,rfl,h⟩
theorem mo{a b:Addr}{ds ds':Array DictEntry}{n m:Nat}{es fs:List (V×V)}{kk kk':KK}{Q:Value→Shared→Prop}(S:St w.params G h₀ Z s.heap)(ha:(a == sysModules)=false)(hb:(b == sysModules)=false)
  (e1:s.heap.get? a=some { cls:=.type "dict",data:=.dict ds n }) (e2:s.heap.get? b=some { cls:=.type "dict",data:=.dict ds' m }) (D1:cF w.params G s.heap kk ds.toList es) (D2:cF w.params G s.heap kk' ds'.toList fs)
  (O:g7 fs) (same:f8 Z es fs) (hu:A.units+65<cLine) (h:Q (.bool false) s):wpAny (model prog w) A (call (.builtin "dict.__ne__") [.ref a,.ref b]) Q E s:=by
 have hT:s.TypeIs (.ref a) "dict" :=⟨_,e1,rfl⟩
 have hT':s.TypeIs (.ref b) "dict" :=⟨_,e2,rfl⟩
 refine wpAny_call_entry F.slot_dict_ne hT F.entry_dict_ne ?_ (F.args_dict_ne_2 _ _)
 show wpAny _ _ (do
  let (self,other) ← Builtin.Dict.dictSlotArgs "__ne__" ⟨[.ref a,.ref b],[]⟩
  if !(← isInstance other (.type "dict")) then rule s!"dict.{"__ne__"}.not-a-dict";return ← ret .notImplemented
  ret (.bool ((← Builtin.Dict.samePairs s!"dict.{"__ne__"}" (← Builtin.Dict.addrOf self) (← Builtin.Dict.addrOf other)) == false))) _ _ s
 refine wpAny_bind (wpAny_bind (wpAny_notOrdered_dict hT (wpAny_bind (wpAny_pure (wpAny_pure ?_)))))
 refine wpAny_bind (wpAny_isInstance hT' isSubtype_dict_dict ?_)
 refine af (aD (by trivial)) ?_
 refine wpAny_bind (wpAny_pure (wpAny_bind (wpAny_pure (wpAny_bind (hJ S ha hb e1 e2 D1 D2 O same (by show A.units+1+64<_;lia) ?_)))))
 exact wpAny_pure ⟨_,rfl,h⟩
set_option tactic.hygienic true in
theorem zk{va vb:Value}{a b:V}{c:Bool}{Q:Value→Shared→Prop}(S:St w.params G h₀ Z s.heap)(hz:∃ o,h₀.get? sysModules=some o)(ra:bg G s.heap va a)(rb:bg G s.heap vb b)(hu:A.units+70<cLine)(e:zm Z a b c)(h:Q (.bool c) s) :
  wpAny (model prog w) A (compareOp .Eq va vb) Q E s:=by
 delta zm at e
 split at e
 ·rename_i p q
  refine af ra.ref_inv ?_;refine af rb.ref_inv ?_
  obtain⟨rfl,e | ⟨es,fs,h1,h2,sd⟩⟩:=e
  ·refine o1x2 e fun d d1 d2=>?_;clear e
   refine o0x3 (eI S _ _ _ _ (.ref p) d1) fun q0 l1 z1=>?_;obtain⟨as,r1⟩:=q0
   refine o0x3 (eI S _ _ _ _ (.ref q) d2) fun q0 l2 z2=>?_;obtain⟨bs,r2⟩:=q0
   have sh:SeqAt.shaped d=true:=by
    delta SeqAt.shaped
    (rewrite[l1];rewrite[Bool.true_and];rw[decide_eq_true_eq]);lia
   refine eq_dataH r1 r2 sh sh (by lia) ?_
   rw[SeqAt.eqv_refl d l1];exact h
  ·refine o3x4 (S.obj _ _ h1) fun ds n kk e1 D1 O1 z1=>?_
   refine o3x4 (S.obj _ _ h2) fun ds' m kk' e2 D2 O2 z2=>?_
   show wpAny _ _ (richCompare .Eq (.ref p) (.ref q)) _ _ _
   exact wpAny_richCompare_same_room (T := "dict") ⟨_,e1,rfl⟩ ⟨_,e2,rfl⟩ F.slot_dict_eq
    (mq S (iO S hz (by rw[h1];simp)) (iO S hz (by rw[h2];simp)) e1 e2 D1 D2 O2 sd (by lia) ⟨(fun x=>nomatch x),h⟩) (by lia)
 ·refine af ra.bool_inv ?_;refine af rb.bool_inv ?_
  subst e;exact PyProof.Rows.eq_bool h
 ·refine o0x2 e fun hp e1=>?_;clear e;obtain rfl:=e1
  rw[Bool.and_eq_true] at hp
  refine aH (eW 30 ra hp.1) fun as r1=>?_
  refine aH (eW 30 rb hp.2) fun bs r2=>?_
  have l1:=gh 30 _ hp.1
  have l2:=gh 30 _ hp.2
  refine eq_dataH r1 r2 ?_ ?_ (by lia) ?_
  ·delta SeqAt.shaped;(rewrite[l1.1];rewrite[Bool.true_and];rw[decide_eq_true_eq]);lia
  ·delta SeqAt.shaped;(rewrite[l2.1];rewrite[Bool.true_and];rw[decide_eq_true_eq]);lia
  ·rw[mh 30 30 _ _ hp.1 hp.2];exact h
set_option tactic.hygienic true in
theorem yy{va vb:Value}{a b:V}{c:Bool}{Q:Value→Shared→Prop}(S:St w.params G h₀ Z s.heap)(hz:∃ o,h₀.get? sysModules=some o)(ra:bg G s.heap va a)(rb:bg G s.heap vb b)(hu:A.units+70<cLine)(e:zm Z a b c)(h:Q (.bool (!c)) s) :
  wpAny (model prog w) A (compareOp .NotEq va vb) Q E s:=by
 delta zm at e
 split at e
 ·rename_i p q
  refine af ra.ref_inv ?_;refine af rb.ref_inv ?_
  obtain⟨rfl,e | ⟨es,fs,h1,h2,sd⟩⟩:=e
  ·refine o1x2 e fun d d1 d2=>?_;clear e
   refine o0x3 (eI S _ _ _ _ (.ref p) d1) fun q0 l1 z1=>?_;obtain⟨as,r1⟩:=q0
   refine o0x3 (eI S _ _ _ _ (.ref q) d2) fun q0 l2 z2=>?_;obtain⟨bs,r2⟩:=q0
   have sh:SeqAt.shaped d=true:=by
    delta SeqAt.shaped
    (refine af l1 ?_;rewrite[Bool.true_and];refine af decide_eq_true_eq ?_);lia
   refine ne_dataH r1 r2 sh sh (by lia) ?_
   refine af (SeqAt.eqv_refl d l1) ?_;exact h
  ·refine o3x4 (S.obj _ _ h1) fun ds n kk e1 D1 O1 z1=>?_
   refine o3x4 (S.obj _ _ h2) fun ds' m kk' e2 D2 O2 z2=>?_
   show wpAny _ _ (richCompare .NotEq (.ref p) (.ref q)) _ _ _
   exact wpAny_richCompare_same_room (T := "dict") ⟨_,e1,rfl⟩ ⟨_,e2,rfl⟩ F.slot_dict_ne
    (mo S (iO S hz (by refine af h1 ?_;simp)) (iO S hz (by refine af h2 ?_;simp)) e1 e2 D1 D2 O2 sd (by lia) ⟨(fun x=>nomatch x),h⟩) (by lia)
 ·refine af ra.bool_inv ?_;refine af rb.bool_inv ?_
  subst e;exact PyProof.Rows.ne_bool h
 ·refine o0x2 e fun hp e1=>?_;clear e;obtain rfl:=e1
  rw[Bool.and_eq_true] at hp
  refine aH (eW 30 ra hp.1) fun as r1=>?_
  refine aH (eW 30 rb hp.2) fun bs r2=>?_
  have l1:=gh 30 _ hp.1
  have l2:=gh 30 _ hp.2
  refine ne_dataH r1 r2 ?_ ?_ (by lia) ?_
  ·delta SeqAt.shaped;(refine af l1.1 ?_;rewrite[Bool.true_and];refine af decide_eq_true_eq ?_);lia
  ·delta SeqAt.shaped;(refine af l2.1 ?_;rewrite[Bool.true_and];refine af decide_eq_true_eq ?_);lia
  ·refine af (mh 30 30 _ _ hp.1 hp.2) ?_;exact h
theorem iY{op:CmpOp}{va vb:Value}{a b:V}{c:Bool}{Q:Value→Shared→Prop}(S:St w.params G h₀ Z s.heap)(hz:∃ o,h₀.get? sysModules=some o)(hg:xk G h₀)(ra:bg G s.heap va a)(rb:bg G s.heap vb b)(hu:A.units+70<cLine)(e:d8 Z op a b c)
  (h:∀ tk,Q (.bool c) { s with toks:=tk }):wpAny (model prog w) A (compareOp op va vb) Q E s:=by
 have isn:∀ {r:Bool} {Q:Bool→Shared→Prop},yX a=some r→Q r s→wpAny (model prog w) A (isSame va .none) Q E s:=fun{r Q} er hq=>by
  refine wpAny_isSame_plain (by induction ra using bg.casesOn<;>first | rfl | exact ns er) ?_
  have:(va == Value.none)=r:=by
   induction ra using bg.casesOn<;>(first | exact ns er | cases er)<;>rfl
  refine af this ?_;exact hq
 delta d8 at e
 split at e
 ·obtain⟨rfl,e⟩:=e
  refine af rb.none_inv ?_
  show wpAny _ _ (do return Value.bool (← isSame va Value.none)) _ _ _
  exact wpAny_bind (isn e (wpAny_pure (h s.toks)))
 ·obtain⟨rfl,e⟩:=e
  refine af rb.none_inv ?_
  show wpAny _ _ (do return Value.bool (!(← isSame va Value.none))) _ _ _
  exact wpAny_bind (isn e (wpAny_pure (by rw[Bool.not_not];exact h s.toks)))
 ·exact zk S hz ra rb hu e (h _)
 ·refine yy S hz ra rb hu e ?_
  rw[Bool.not_not];exact h _
 ·show wpAny _ _ (do return Value.bool (← contains vb va)) _ _ _
  exact wpAny_bind (xu S hz hg ra rb hu e fun tk=>wpAny_pure (h _))
 ·show wpAny _ _ (do return Value.bool (!(← contains vb va))) _ _ _
  refine wpAny_bind (xu S hz hg ra rb hu e fun tk=>wpAny_pure ?_)
  rw[Bool.not_not];exact h _
 ·obtain⟨x,y,rfl,rfl,e⟩:=e
  obtain⟨t,rfl⟩:=ra.int_inv;obtain⟨u,rfl⟩:=rb.int_inv
  delta ue at e
  split at e
  ·obtain rfl:=aP e;exact PyProof.Rows.lt_int (h _)
  ·obtain rfl:=aP e;exact PyProof.Rows.le_int (h _)
  ·obtain rfl:=aP e;exact PyProof.Rows.gt_int (h _)
  ·obtain rfl:=aP e;exact PyProof.Rows.ge_int (h _)
  ·exact ns e
end
theorem AG(a n:Nat):Builtin.Slice.sliceAdjust (some (a:Int)) none 1 (n:Int)=(((min a n:Nat):Int),(n:Int)):=by
 unfold Builtin.Slice.sliceAdjust
 have h1:¬((1:Int)<0):=by lia
 have h2:¬((a:Int)<0):=by lia
 simp only[h1,h2,if_false]
 congr 1
 lia
theorem AH(a n:Nat):Builtin.Slice.sliceAdjust none (some (a:Int)) 1 (n:Int)=((0:Int),((min a n:Nat):Int)):=by
 unfold Builtin.Slice.sliceAdjust
 have h1:¬((1:Int)<0):=by lia
 have h2:¬((a:Int)<0):=by lia
 simp only[h1,h2,if_false]
 congr 1
 lia
theorem jP(a n:Nat):Builtin.Slice.slicePlaces (a:Int) (n:Int) 1=n - a:=by
 unfold Builtin.Slice.slicePlaces
 have h1:(1:Int) > 0:=by lia
 simp only[h1,if_true,Int.ediv_one]
 split<;>lia
theorem sW(vs:Array Value):(slicePick vs none none (some (-1))).toList=vs.toList.reverse:=by
 have e:sliceBounds none none (some (-1)) vs.size=((vs.size:Int) - 1,-1,-1):=by
  simp only[sliceBounds,Option.getD_some]
  rfl
 have c:sliceRange ((vs.size:Int) - 1) (-1) (-1)=(List.range vs.size).map fun k=>vs.size - 1 - k:=by
  have h1:¬((-1:Int) > 0):=by lia
  have hc:((if(-1:Int) > 0 then(if(vs.size:Int) - 1 < -1 then(-1 - ((vs.size:Int) - 1) + -1 - 1) / -1 else 0) else(if(vs.size:Int) - 1 > -1 then((vs.size:Int) - 1 - -1 - -1 - 1) / (- -1) else 0)):Int).toNat=vs.size:=by
   refine af (aD h1) ?_
   split
   ·have:((vs.size:Int) - 1 - -1 - -1 - 1) / (- -1)=vs.size:=by
     (refine af (show(- -1:Int)=1 from rfl) ?_;rw[Int.ediv_one]);lia
    refine af this ?_;rfl
   ·lia
  show(List.range _).map _=_
  refine af hc ?_
  apply List.map_congr_left
  intro k hk
  have:=List.mem_range.mp hk
  lia
 unfold slicePick
 refine af e ?_
 refine af c ?_
 have r:(List.range vs.size).map (fun k=>vs.size - 1 - k)=(List.range vs.size).reverse:=by
  apply List.ext_getElem
  ·simp
  ·intro i h1 h2
   simp only[List.length_map,List.length_range] at h1
   (rewrite[List.getElem_map];rewrite[List.getElem_range];rewrite[List.getElem_reverse];rewrite[List.getElem_range];(refine af List.length_range ?_;with_reducible rfl))
 have f:=pick_run vs 0 vs.size
 rw[List.filterMap_map] at f
 have e2:((fun x=>vs[x]?)∘fun x=>0+x)=fun i=>vs[i]?:=by funext i;simp
 rw[e2] at f
 (refine af r ?_;refine ak (List.filterMap_reverse) ?_;refine af f ?_;refine af List.drop_zero ?_;rw[List.take_of_length_le (by simp)])
section
variable {prog:Program} {w:World} {A:Around} {E:Value→Shared→Prop} {s:Shared} {G:GT} {h₀:Heap} {Z:H}
theorem pz{sl:Addr}{a n:Nat}{u:Tok}{Q:Int×Int×Nat→Shared→Prop}(hs:s.heap.IsSliceOf sl (.int a u) .none .none)(h:Q (((min a n:Nat):Int),1,n - a) s) :
  wpAny (model prog w) A (Builtin.Slice.sliceApplied (.ref sl) (pure (n:Int))) Q E s:=by
 refine cN fun PP kk=>?_
 refine o1x3 (id hs) fun os hos hcs hds=>?_
 refine kk ?_
 refine wpAny_bind (wpAny_bind (wpAny_field hos hds (x:=.int a u) rfl (wpAny_bind (wpAny_field hos hds (x:=.none) rfl (wpAny_bind (wpAny_field hos hds (x:=.none) rfl (wpAny_pure ?_)))))))
 refine wpAny_bind (slicePart_none ?_)
 show wpAny _ _ (if((1:Int) == 0)=true then _ else _) _ _ s
 refine af (aD (by decide)) ?_
 refine wpAny_bind (slicePart_int (wpAny_bind (slicePart_none (wpAny_bind (wpAny_pure ?_)))))
 show wpAny _ _ (match Builtin.Slice.sliceAdjust (some (a:Int)) none 1 (n:Int) with | (lo,hi)=>pure (lo,(1:Int),Builtin.Slice.slicePlaces lo hi 1)) _ _ s
 refine af (AG a n) ?_
 show wpAny _ _ (pure (((min a n:Nat):Int),(1:Int),Builtin.Slice.slicePlaces ((min a n:Nat):Int) (n:Int) 1)) _ _ s
 rw[jP]
 refine af (show n - min a n=n - a by lia) ?_
 exact wpAny_pure h
theorem pA{sl:Addr}{a n:Nat}{u:Tok}{Q:Int×Int×Nat→Shared→Prop}(hs:s.heap.IsSliceOf sl .none (.int a u) .none)(h:Q (0,1,min a n) s) :
  wpAny (model prog w) A (Builtin.Slice.sliceApplied (.ref sl) (pure (n:Int))) Q E s:=by
 refine cN fun PP kk=>?_
 refine o1x3 (id hs) fun os hos hcs hds=>?_
 refine kk ?_
 refine wpAny_bind (wpAny_bind (wpAny_field hos hds (x:=.none) rfl (wpAny_bind (wpAny_field hos hds (x:=.int a u) rfl (wpAny_bind (wpAny_field hos hds (x:=.none) rfl (wpAny_pure ?_)))))))
 refine wpAny_bind (slicePart_none ?_)
 show wpAny _ _ (if((1:Int) == 0)=true then _ else _) _ _ s
 refine af (aD (by decide)) ?_
 refine wpAny_bind (slicePart_none (wpAny_bind (slicePart_int (wpAny_bind (wpAny_pure ?_)))))
 show wpAny _ _ (match Builtin.Slice.sliceAdjust none (some (a:Int)) 1 (n:Int) with | (lo,hi)=>pure (lo,(1:Int),Builtin.Slice.slicePlaces lo hi 1)) _ _ s
 refine af (AH a n) ?_
 show wpAny _ _ (pure ((0:Int),(1:Int),Builtin.Slice.slicePlaces ((0:Nat):Int) ((min a n:Nat):Int) 1)) _ _ s
 rw[jP]
 exact wpAny_pure h
theorem sX(xs:Array Value)(a k:Nat)(_h:a+k≤xs.size):((List.range k).filterMap fun(i:Nat)=>xs[((a:Int)+(i:Int) * 1).toNat]?).toArray=((xs.toList.drop a).take k).toArray:=by
 have e:(fun(i:Nat)=>xs[((a:Int)+(i:Int) * 1).toNat]?)=fun i=>xs[a+i]?:=by
  funext i
  have:((a:Int)+(i:Int) * 1).toNat=a+i:=by lia
  (refine af this ?_;with_reducible rfl)
 refine af e ?_
 have:=pick_run xs a k
 rw[List.filterMap_map] at this
 have e2:((fun x=>xs[x]?)∘fun x=>a+x)=fun i=>xs[a+i]?:=rfl
 rw[e2] at this
 (refine af this ?_;with_reducible rfl)
theorem kJ{t sl:Addr}{items:Array Value}{lo k:Nat}{Q:Value→Shared→Prop}(ht:IsTup s.heap t items)(hsl:s.TypeIs (.ref sl) "slice")
  (ha:∀ {Q:Int×Int×Nat→Shared→Prop} {A:Around} {E:Value→Shared→Prop},Q ((lo:Int),1,k) s→wpAny (model prog w) A (Builtin.Slice.sliceApplied (.ref sl) (pure (items.size:Int))) Q E s) (hb:lo+k≤items.size)
  (h1:lo=0→k=items.size→Q (.ref t) s)
  (h2:Q (.ref s.heap.objs.size) { s with heap:=s.heap.push { cls:=.type "tuple",data:=.seq ((items.toList.drop lo).take k).toArray } })
  (hsz:items.size≤sizeLine):wpAny (model prog w) A (getItem (.ref t) (.ref sl)) Q E s:=by
 have hdrop:sizeOk (.seq ((items.toList.drop lo).take k).toArray):=by
  show((items.toList.drop lo).take k).toArray.size≤sizeLine
  (refine af List.size_toArray ?_;refine af List.length_take ?_;refine af List.length_drop ?_;refine af Array.length_toList ?_)
  lia
 delta getItem
 try with_reducible refine wpAny_holding ?_
 first | refine wpAny_bind (wpAny_pure ?_) | skip
 refine wpAny_bind (wpAny_sequenceKey ht.typeIs (by decide) ?_)
 refine wpAny_bind (wpAny_callSpecial?_slot (name:=Str.ofString "__getitem__") ht.typeIs slot_tuple_getitem
  (wpAny_call_entry slot_tuple_getitem ht.typeIs entry_tuple_getitem ?_ (args_tuple_getitem _ _)))
 show wpAny _ _ (Builtin.Tuple.tupleItemsOf (.ref t) >>= _) _ _ s
 refine wpAny_bind (tupleItemsOf_ ht ?_)
 refine wpAny_bind (wpAny_typeOf hsl ?_)
 refine af (aG (by decide)) ?_
 refine wpAny_bind (ha ?_)
 show wpAny _ _ (if((lo:Int) == 0 && (1:Int) == 1 && k == items.size)=true then _ else _) _ _ s
 have fin:wpAny (model prog w) A.in1 (Builtin.Tuple.tupleExact ((List.range k).filterMap fun(i:Nat)=>items[((lo:Int)+(i:Int) * 1).toNat]?).toArray >>= fun v=>ret v) (fun fin s'=>∃ v,fin=Fin.done (Flow.ret v)∧wpAny (model prog w) A (pure v) Q E s') E s:=by
  refine af (sX items lo k hb) ?_
  exact wpAny_bind (m:=Builtin.Tuple.tupleExact _) (wpAny_newObj_type (wpAny_pure ⟨_,rfl,wpAny_pure h2⟩) hdrop)
 by_cases hw:((lo:Int) == 0 && (1:Int) == 1 && k == items.size)=true
 ·refine af (aG hw) ?_
  have hw':lo=0∧k=items.size:=by simpa using hw
  refine wpAny_bind (wpAny_bind (wpAny_typeOf ht.typeIs (wpAny_pure ?_)))
  refine af (aG (by decide)) ?_
  first
   |exact wpAny_bind (wpAny_rule (wpAny_pure ⟨_,rfl,wpAny_pure (h1 hw'.1 hw'.2)⟩))
 ·refine af (aD hw) ?_
  first
   |exact fin
set_option tactic.hygienic true in
theorem wP{va vl:Value}{a l:V}{sl:Addr}{Q:aO}(S:St w.params G h₀ Z s.heap)(ra:bg G s.heap va a)(rl:bg G s.heap vl l)(hs:s.heap.IsSliceOf sl vl .none .none)(h:t9 a l Q Z) :
  wpAny (model prog w) A (getItem va (.ref sl)) (bT w.params G h₀ Z s Q) E s:=by
 delta t9 at h
 split at h
 ·refine cN fun PP kk=>?_
  rename_i xs i
  refine o0x2 h fun q0 h=>?_;obtain⟨h0,_⟩:=q0
  refine o3x2 ra.tup_inv fun p vs n e3 q9=>?_;obtain rfl:=e3;refine o0x3 q9 fun e1 r1 z=>?_;clear q9;refine aH rl.int_inv fun u e1=>?_;obtain rfl:=e1
  refine aH (Int.eq_ofNat_of_zero_le h0) fun j e1=>?_;obtain rfl:=e1
  have l1:vs.size=xs.length:=by refine br r1.length ?_;rfl
  refine o1x3 (id hs) fun os hos hcs hds=>?_
  have ej:((j:Int)).toNat=j:=rfl
  rw[ej] at h
  refine kk ?_
  refine kJ (lo:=min j vs.size) (k:=vs.size - j) ⟨_,e1,rfl,n,rfl⟩ ⟨os,hos,hcs⟩ (fun hq=>pz hs hq) (by lia) (fun h1 h2=>?_) ?_ (cq (by lia))
  ·refine bT.here S h ?_
   have:xs.drop j=xs:=by
    rcases Nat.eq_zero_or_pos j with rfl | hj
    ·rfl
    ·have:vs.size=0:=by lia
     have:xs=[]:=List.eq_nil_of_length_eq_zero (by lia)
     refine af this ?_;simp
   refine af this ?_;exact ra
  ·refine bT.tup S h ?_ (by refine af List.length_drop ?_;lia) _
   have:(vs.toList.drop (min j vs.size)).take (vs.size - j)=vs.toList.drop j:=by
    refine Or.elim (Nat.le_total j vs.size) (fun hj=>?_) (fun hj=>?_)
    ·(refine af (Nat.min_eq_left hj) ?_;(refine ak (List.take_of_length_le (by simp)) ?_;with_reducible rfl))
    ·(refine af (Nat.min_eq_right hj) ?_;refine af (List.drop_of_length_le (by simp)) ?_;refine af (List.drop_of_length_le (by simp;lia)) ?_);simp
   refine af (show((vs.toList.drop (min j vs.size)).take (vs.size - j)).toArray.toList=_ from this) ?_
   exact r1.drop j
 ·exact h.elim
noncomputable def lr(G:GT)(h:Heap):Prop:=∃ vs n,h.get? G.arg=some { cls:=.type "list",data:=.seq vs n }∧bw G h vs.toList G.argl∧G.argl.length≤bL
set_option tactic.hygienic true in
theorem wQ(hA:lr G h₀){va vh:Value}{a hi:V}{sl:Addr}{Q:aO}(S:St w.params G h₀ Z s.heap)(ra:bg G s.heap va a)(rl:bg G s.heap vh hi)(hs:s.heap.IsSliceOf sl .none vh .none)(h:ua a hi Q Z) :
  wpAny (model prog w) A (getItem va (.ref sl)) (bT w.params G h₀ Z s Q) E s:=by
 delta ua at h
 split at h
 ·refine cN fun PP kk=>?_
  rename_i xs i
  obtain⟨⟨h0,_⟩,h⟩:=h
  obtain⟨p,vs,n,rfl,e1,r1,z⟩:=ra.tup_inv;obtain⟨u,rfl⟩:=rl.int_inv
  obtain⟨j,rfl⟩:=Int.eq_ofNat_of_zero_le h0
  have l1:vs.size=xs.length:=by refine br r1.length ?_;rfl
  obtain⟨os,hos,hcs,hds⟩:=id hs
  have ej:((j:Int)).toNat=j:=rfl
  rw[ej] at h
  refine kk ?_
  refine kJ (lo:=0) (k:=min j vs.size) ⟨_,e1,rfl,n,rfl⟩ ⟨os,hos,hcs⟩ (fun hq=>pA hs hq) (by lia) (fun h1 h2=>?_) ?_ (cq (by lia))
  ·refine bT.here S h ?_
   refine af (List.take_of_length_le (by lia)) ?_;exact ra
  ·refine bT.tup S h ?_ (by refine af List.length_take ?_;lia) _
   have:(vs.toList.drop 0).take (min j vs.size)=vs.toList.take j:=by
    refine af List.drop_zero ?_
    refine Or.elim (Nat.le_total j vs.size) (fun hj=>?_) (fun hj=>?_)
    ·(refine af (Nat.min_eq_left hj) ?_;with_reducible rfl)
    ·(refine af (Nat.min_eq_right hj) ?_;refine ak (List.take_of_length_le (by simp)) ?_;(refine af (List.take_of_length_le (by simp;lia)) ?_;with_reducible rfl))
   refine af (show((vs.toList.drop 0).take (min j vs.size)).toArray.toList=_ from this) ?_
   exact r1.take j
 ·refine cN fun PP kk=>?_
  rename_i p i
  obtain⟨xs,hZ,⟨h0,hl⟩,h⟩:=h
  refine kk ?_
  obtain rfl:=ra.ref_inv;obtain⟨u,rfl⟩:=rl.int_inv
  refine cN fun PP kk=>?_
  obtain⟨vs,n,e1,r1,z⟩:=S.obj _ _ hZ
  obtain⟨j,rfl⟩:=Int.eq_ofNat_of_zero_le h0
  have l1:vs.size=xs.length:=by refine br r1.length ?_;rfl
  have ej:((j:Int)).toNat=j:=rfl
  rw[ej] at h
  refine kk ?_
  refine wpAny_getItem_list_slice ⟨_,e1,rfl,n,rfl⟩ hs .none (.int _ u) .none (by trivial) ?_ (cq (by lia))
  refine bT.list S h ?_ (by refine af List.length_take ?_;lia) _
  have:(slicePick vs none (some (j:Int)) none).toList=vs.toList.take j:=by
   (refine af (slicePick_upto' vs j) ?_;with_reducible rfl)
  refine af this ?_;exact r1.take j
 ·refine cN fun PP kk=>?_
  rename_i xs i
  obtain⟨⟨h0,_⟩,h⟩:=h
  obtain⟨rfl,rfl⟩:=ra.inv;obtain⟨u,rfl⟩:=rl.int_inv
  obtain⟨vs,n,e0,r0,z⟩:=hA
  have e1:=S.base _ _ e0
  have r1:=r0.stays (h':=s.heap) fun b o e za=>S.base b o e
  obtain⟨j,rfl⟩:=Int.eq_ofNat_of_zero_le h0
  have l1:vs.size=G.argl.length:=by refine br r1.length ?_;rfl
  have ej:((j:Int)).toNat=j:=rfl
  rw[ej] at h
  refine kk ?_
  refine wpAny_getItem_list_slice ⟨_,e1,rfl,n,rfl⟩ hs .none (.int _ u) .none (by trivial) ?_ (cq (by lia))
  refine bT.list S h ?_ (by refine af List.length_take ?_;lia) _
  have:(slicePick vs none (some (j:Int)) none).toList=vs.toList.take j:=by
   (refine af (slicePick_upto' vs j) ?_;with_reducible rfl)
  refine af this ?_;exact r1.take j
 ·exact h.elim
set_option tactic.hygienic true in
theorem vy{va:Value}{a:V}{sl:Addr}{u:Tok}{Q:aO}(S:St w.params G h₀ Z s.heap)(ra:bg G s.heap va a)(hs:s.heap.IsSliceOf sl .none .none (.int (-1) u))(h:sM a Q Z) :
  wpAny (model prog w) A (getItem va (.ref sl)) (bT w.params G h₀ Z s Q) E s:=by
 delta sM at h
 split at h
 ·rename_i p
  refine o1x2 h fun xs hZ h=>?_
  refine af ra.ref_inv ?_
  refine cN fun PP kk=>?_
  refine o2x3 (S.obj _ _ hZ) fun vs n e1 r1 z=>?_
  have l1:vs.size=xs.length:=by refine br r1.length ?_;rfl
  refine kk ?_
  refine wpAny_getItem_list_slice ⟨_,e1,rfl,n,rfl⟩ hs .none .none (.int _ u) (by trivial) ?_ (cq (by lia))
  refine bT.list S h ?_ (by refine af List.length_reverse ?_;lia) _
  have:(slicePick vs none none (some (-1))).toList=vs.toList.reverse:=sW vs
  refine af this ?_;exact r1.reverse
 ·exact h.elim
end
section
variable {P:Params} {G:GT} {h:Heap}
theorem j2{ds:List DictEntry}{fs:List (Nat×V)}(F:jm P G h ds fs){x:Nat}(hx:x<NT):(∀ y,dI fs x=some y→∃ v,getL (cw x) ds=some (some v)∧bg G h v y)∧(dI fs x=none→getL (cw x) ds=some none)∧ds.any (·.refKey)=false:=by
 induction F with
 |nil=>exact⟨(fun y e=>by exact ns e),fun za=>rfl,rfl⟩
 |@cons d ds e es t hlt hk hh r F ih=>
  have hr:d.refKey=false:=by unfold DictEntry.refKey;(refine af hk ?_;with_reducible rfl)
  have any:(d::ds).any (·.refKey)=false:=by(refine ak (List.any_cons) ?_;refine af hr ?_;refine ak (ih.2.2) ?_);rfl
  by_cases q:e.1=x
  ·refine br q ?_
   have hs:d.key.isStr (cw e.1)=true:=by refine af hk ?_;simp[Value.isStr]
   refine⟨fun y ey=>?_,fun ey=>?_,any⟩
   ·unfold dI at ey;rw[aG rfl] at ey;refine br (aP ey) ?_
    exact⟨d.val,by unfold getL;(refine af (List.find?_cons) ?_;(refine af hs ?_;with_reducible rfl)),r⟩
   ·unfold dI at ey;rw[aG rfl] at ey;exact sn ey
  ·have hs:d.key.isStr (cw x)=false:=by
    refine af hk ?_
    have:¬cw e.1=cw x:=fun z=>q (hV hlt hx z)
    simp[Value.isStr,this]
   refine⟨fun y ey=>?_,fun ey=>?_,any⟩
   ·unfold dI at ey;rw[aD q] at ey
    refine o1x2 (ih.1 y ey) fun v h1 h2=>?_
    refine⟨v,?_,h2⟩
    unfold getL at h1 ⊢
    (refine af (List.find?_cons) ?_;refine af hs ?_;refine af any ?_)
    rw[ih.2.2] at h1
    exact h1
   ·unfold dI at ey;rw[aD q] at ey
    have h1:=ih.2.1 ey
    unfold getL at h1 ⊢
    (refine af (List.find?_cons) ?_;refine af hs ?_;refine af any ?_)
    rw[ih.2.2] at h1
    exact h1
theorem tR{ds:List DictEntry}{fs:List (Nat×V)}(F:jm P G h ds fs){x:Nat}(hx:x<NT){v:Value}{y:V}(r:bg G h v y)(t:Tok):jm P G h (putL (cw x) (PyData.keyHash P (cw x)) (.str (cw x) t) v ds) (cX fs x y):=by
 induction F with
 |nil=>exact .cons hx rfl rfl r .nil
 |@cons d ds e es t' hlt hk hh r' F ih=>
  unfold putL cX
  by_cases q:e.1=x
  ·refine br q ?_
   have hs:d.key.isStr (cw e.1)=true:=by refine af hk ?_;simp[Value.isStr]
   (refine af (aG hs) ?_;refine af (aG rfl) ?_)
   exact .cons hlt hk hh r F
  ·have hs:d.key.isStr (cw x)=false:=by
    refine af hk ?_
    have:¬cw e.1=cw x:=fun z=>q (hV hlt hx z)
    simp[Value.isStr,this]
   (refine af (aD (by rw[hs];exact Bool.false_ne_true)) ?_;refine af (aD q) ?_)
   exact .cons hlt hk hh r' ih
theorem jf{ds:List DictEntry}{fs:List (Nat×V)}(F:jm P G h ds fs):ds.length=fs.length:=by
 induction F with
 |nil=>rfl
 |cons _ _ _ _ _ ih=>(refine ak (List.length_cons) ?_;refine af List.length_cons ?_;(refine af ih ?_;with_reducible rfl))
end
theorem kU:∀ (fs:List (Nat×V)) (x:Nat) (y:V),(cX fs x y).map (·.1)=if x ∈ fs.map (·.1) then fs.map (·.1) else fs.map (·.1)++[x]
 |[],x,y=>by simp[cX]
 |e::fs,x,y=>by
  unfold cX
  by_cases q:e.1=x
  ·refine af (aG q) ?_;simp[q]
  ·(refine af (aD q) ?_;refine ak (List.map_cons) ?_;refine af (kU fs x y) ?_;refine af List.map_cons ?_)
   by_cases z:x ∈ fs.map (·.1)
   ·(refine af (aG z) ?_;(refine af (aG (.tail _ z)) ?_;with_reducible rfl))
   ·(refine af (aD z) ?_;refine af (aD (by intro h;rcases List.mem_cons.mp h with h | h;exact q h.symm;exact z h)) ?_);rfl
theorem iP:∀ (l:List Nat),l.Nodup→∀ (m:List Nat),(∀ x ∈ l,x ∈ m)→l.length≤m.length
 |[],_,m,_=>Nat.zero_le _
 |a::l,hn,m,hs=>by
  have hn:=List.nodup_cons.mp hn
  have:=iP l hn.2 (m.erase a) (fun x hx=>by
   have:x≠a:=fun z=>hn.1 (z▸hx)
   exact(List.mem_erase_of_ne this).mpr (hs x (.tail _ hx)))
  rw[List.length_erase_of_mem (hs a (.head _))] at this
  have:0<m.length:=List.length_pos_of_mem (hs a (.head _))
  refine af List.length_cons ?_;lia
theorem tP{P:List Nat→Prop}(h0:P [])(c:Nat):∀ {l:List (Nat×List Nat)},(∀ p ∈ l,P p.2)→P ((l.lookup c).getD []):=by
 intro l
 induction l with
 |nil=>exact fun _z=>h0
 |cons p l ih=>
  intro h
  refine af List.lookup_cons ?_
  induction c == p.1 using Bool.casesOn with
  |true=>exact h p (.head _)
  |false=>exact ih fun q hq=>h q (.tail _ hq)
noncomputable def sk(l:List Nat):Bool:=l.all (fun x=>decide (x<NT)) && decide (l.length≤30)
theorem gn(c x:Nat)(h:(bk c).contains x=true):x<NT∧(bk c).length≤30:=by
 have k:sk (bk c)=true:=tP (P:=fun l=>sk l=true) rfl c (List.all_eq_true.mp (show(oh.all fun p=>sk p.2)=true by kernel_rfl))
 have k:=(Bool.and_eq_true_iff.mp k)
 exact⟨of_decide_eq_true (List.all_eq_true.mp k.1 x (List.contains_iff_mem.mp h)),of_decide_eq_true k.2⟩
structure qL (K:Frag) (c:Nat) (C:Addr):Prop where
 get:plainGet K C "" = true
 dict:hasDictIn K C=true
 set:findIn K (.ref C) "__setattr__" = some (some (.builtin "object.__setattr__"))
 over:plainOver K C=true
 attrs:∀ x,(bk c).contains x=true→takerIn K C (cw x)=some none∧∃ attr,findIn K (.ref C) (cw x)=some attr∧noGet K attr=true
section
variable {prog:Program} {w:World} {A:Around} {E:Value→Shared→Prop} {s:Shared} {G:GT} {h₀:Heap} {Z:H} {K:Frag}
theorem lX(S:St w.params G h₀ Z s.heap){a:Addr}{c:Nat}{fs:List (Nat×V)}(e:Z a=some (.inst c fs)):∃ C ds n,G.fn c=some C∧cZ c=true∧0<a∧s.heap.get? a=some { cls:=.ref C,dict:=some (a - 1),data:=.plain }∧s.heap.get? (a - 1)=some (dictOf ds n)∧
  jm w.params G s.heap ds fs∧(∀ x ∈ fs.map (·.1),(bk c).contains x=true)∧(fs.map (·.1)).Nodup∧InstAt s.heap a { cls:=.ref C,dict:=some (a - 1),data:=.plain } C (some (dictOf ds n)):=by
 refine cN fun PP kk=>?_
 refine o3x8 (S.obj _ _ e) fun C ds n z0 z1 z2 e1 e2 F z3 z4=>?_
 have e2':s.heap.get? (a - 1)=some (dictOf ds.toList n):=by(refine ak (e2) ?_;with_reducible rfl)
 refine kk ?_
 exact⟨C,ds.toList,n,z1,z2,z0,e1,e2',F,z3,z4,⟨e1,rfl,rfl,e2'⟩⟩
theorem y5{h:Heap}{v:Value}{x:V}(r:bg G h v x):handedIn v=true:=by
 induction r using bg.casesOn with
 |bi e=>refine kf (P:=fun _z v=>handedIn v=true) ?_ ?_ ?_ ?_ ?_ ?_ ?_ e<;>decide +kernel
 |_=>rfl
set_option tactic.hygienic true in
theorem qC{va:Value}{o y:V}{x:Nat}{expr:Bool}{Q:Value→Shared→Prop}(S:St w.params G h₀ Z s.heap)(X:K.In h₀)(hc:∀ c C,cZ c=true→G.fn c=some C→qL K c C)(ra:bg G s.heap va o)(e:cR Z o x=some y)
  (h:∀ v tk,bg G s.heap v y→Q v { s with toks:=tk }):wpAny (model prog w) A (getAttr va (cw x) expr) Q E s:=by
 unfold cR at e
 split at e
 ·rename_i a
  refine af ra.ref_inv ?_
  split at e
  ·rename_i c fs hZ
   split at e
   ·refine cN fun PP kk=>?_
    rename_i hx
    refine o3x9 (lX S hZ) fun C ds n z1 z2 z0 e1 e2 F z3 z4 I=>?_
    obtain⟨k1,k2,k3,k4,k5⟩:=hc c C z2 z1
    obtain⟨k6,attr,k7,k8⟩:=k5 x hx
    refine o1x2 ((j2 F (gn c x hx).1).1 y e) fun v h1 r=>?_
    have X':K.In s.heap:=X.keeps S.base
    refine kk ?_
    exact get_value X' I (plainGet_of k1).1 (findObj_own k2 k7 k8 h1) (y5 r) (h v _ r)
   ·exact ns e
  ·exact ns e
 ·exact ns e
set_option tactic.hygienic true in
theorem jK{va vv:Value}{o y:V}{x:Nat}{Z':H}{Q:Unit→Shared→Prop}(S:St w.params G h₀ Z s.heap)(X:K.In h₀)(hc:∀ c C,cZ c=true→G.fn c=some C→qL K c C)(ra:bg G s.heap va o)(rv:bg G s.heap vv y)(e:de Z o x y=some Z')
  (h:∀ s',Go w.params G h₀ Z s Z' s'→Q () s'):wpAny (model prog w) A (setAttr va (cw x) vv) Q E s:=by
 unfold de at e
 split at e
 ·rename_i a
  refine af ra.ref_inv ?_
  split at e
  ·rename_i c fs hZ
   split at e
   ·refine cN fun PP kk=>?_
    rename_i hx
    obtain rfl:=aP e
    refine o3x9 (lX S hZ) fun C ds n z1 z2 z0 e1 e2 F z3 z4 I=>?_
    obtain⟨k1,k2,k3,k4,k5⟩:=hc c C z2 z1
    obtain⟨k6,attr,k7,k8⟩:=k5 x hx
    refine o0x2 (gn c x hx) fun hxl hal=>?_
    have X':K.In s.heap:=X.keeps S.base
    have I':InstAt ({ s with toks:=s.toks+1 }:Shared).heap a { cls:=.ref C,dict:=some (a - 1),data:=.plain } C (some (dictOf ds n)):=I
    refine kk ?_
    refine set_plain X' I k3 (osa_open (s:={ s with toks:=s.toks+1 }) X' I' k4 k6 fun b=>?_)
    refine o1x2 (any_some k2) fun cd hcd hd'=>?_
    have hlen:ds.length≤30:=by
     (refine af (jf F) ?_;refine br (List.length_map (f:=(·.1))) ?_)
     exact Nat.le_trans (iP _ z4 (bk c) fun x hx=>by simpa using z3 x hx) hal
    refine wpAny_bind (wpAny_pure (wpAny_bind (wpAny_bind (wpAny_loadPart (s:={ s with toks:=s.toks+1 }) e1 (wpAny_bind ((looks_clsIn X' hcd).here (s:={ s with toks:=s.toks+1 }) ?_))))))
    refine af hd' ?_
    refine wpAny_pure (a:=some (a - 1)) (wpAny_bind (wpAny_pure (wpAny_bind ?_)))
    refine wpAny_bind (wpAny_bind (wpAny_askSetting (wpAny_pure (wpAny_bind (wpAny_mkText (wpAny_bind (wpAny_loadPart (s:={ s with toks:=s.toks+1+1 }) e2 ?_)))))))
    dsimp only
    have hany:=(j2 F hxl).2.2
    (rewrite[aRefKeyMayBeTheName_at];refine br Array.any_toList ?_;refine br Array.any_toList ?_;refine af hany ?_;rewrite[Bool.and_false];refine af (aD Bool.false_ne_true) ?_)
    have hput:=putName_dict (cw x) (PyData.keyHash w.params (cw x)) (.str (cw x) (s.toks+1)) vv ds n
    have D':(s.heap.update (a - 1) (Obj.putName (cw x) (PyData.keyHash w.params (cw x)) (.str (cw x) (s.toks+1)) vv)).get? (a - 1) =
      some (dictOf (putL (cw x) (PyData.keyHash w.params (cw x)) (.str (cw x) (s.toks+1)) vv ds) (putN (cw x) ds n)):=by
     (refine ak (Heap.get?_update_self _ e2 (by rw[hput];rfl)) ?_;(refine af hput ?_;with_reducible rfl))
    have F':=tR F hxl rv (s.toks+1)
    have hl2:=jf F'
    have hk2:=kU fs x y
    have hne:a≠a - 1:=Nat.ne_of_gt (Nat.sub_lt z0 Nat.one_pos)
    have hsub:∀ x' ∈ (cX fs x y).map (·.1),(bk c).contains x'=true:=by
     refine af hk2 ?_
     intro x' hx'
     split at hx'
     ·exact z3 x' hx'
     ·refine Or.elim (List.mem_append.mp hx') (fun h=>?_) (fun h=>?_)
      ·exact z3 x' h
      ·refine af (List.mem_singleton.mp h) ?_;exact hx
    have hnd:((cX fs x y).map (·.1)).Nodup:=by
     refine af hk2 ?_
     split
     ·exact z4
     ·rename_i hni
      exact List.nodup_append.mpr ⟨z4,by simp,fun p hp q hq=>by refine af (List.mem_singleton.mp hq) ?_;exact fun z=>hni (z▸hp)⟩
    refine wpAny_updatePart (s:={ s with toks:=s.toks+1+1 }) e2 ?_
    refine wpAny_bind (wpAny_lookBehind D' (by
     refine pastItsLine_dict ?_
     (refine af List.size_toArray ?_;refine af hl2 ?_;refine br (List.length_map (f:=(·.1))) ?_;refine af sizeLine_eq ?_)
     have:=iP _ hnd (bk c) fun x hx=>by simpa using hsub x hx
     lia) (wpAny_pure ?_))
    have C:=S.change (h':=s.heap.update (a - 1) (Obj.putName (cw x) (PyData.keyHash w.params (cw x)) (.str (cw x) (s.toks+1)) vv)) (a:=a) (d:=a - 1) (o':=.inst c (cX fs x y)) hZ (.inr (Nat.sub_add_cancel z0))
     (fun b=>Iff.rfl) (fun za za q=>⟨c,fs,rfl⟩) (fun b y hb hy=>(Heap.SameBut.update ..).extBut b y hb hy)
     fun st=>⟨C,_,_,z0,z1,z2,(Heap.SameBut.update ..).extBut _ _ hne e1,D',by simpa using F'.stays st,hsub,hnd⟩
    exact h _ ⟨⟨_,_,rfl⟩,C.1,C.2⟩
   ·exact ns e
  ·exact ns e
 ·exact ns e
end
inductive fJ (h:Heap) (I:Addr) (i:Nat):Value→V→Prop
 |list {a:Addr}:h.IsListIter I a i→fJ h I i (.ref a) (.ref a)
 |tup {a:Addr} {l:List V}:h.IsTupleIter I a i→fJ h I i (.ref a) (.tup l)
 |rng {a:Addr} {n:Int}:IsRangeIter h I i (n - i) 1→fJ h I i (.ref a) (.rng n)
theorem nf{o:Obj}(x:o.cls≠.type "tuple")(y:o.cls≠.type "range"):¬cu o:=fun z=>z.elim (fun z=>x z.1) fun z=>y z.1
theorem fJ.obj{h:Heap}{I:Addr}{i:Nat}{v:Value}{y:V}(x:fJ h I i v y):∃ o,h.get? I=some o∧¬cu o∧∃ n vs,o.cls=.type n∧o.data=.fields vs∧
  ["enumerate","zip","dict_itemiterator","dict_reverseitemiterator","odict_iterator","itertools.zip_longest","itertools.pairwise"].contains n=false:=by
 induction x using fJ.casesOn with
 |list it=>refine o1x3 it fun o a b c=>?_;clear it;exact⟨o,a,nf (by refine af b ?_;decide) (by refine af b ?_;decide),_,_,b,c,by decide⟩
 |tup it=>refine o1x3 it fun o a b c=>?_;clear it;exact⟨o,a,nf (by refine af b ?_;decide) (by refine af b ?_;decide),_,_,b,c,by decide⟩
 |rng it=>exact⟨_,it,nf (by simp) (by simp),_,_,rfl,rfl,by decide⟩
theorem fJ.same{h h':Heap}{I:Addr}{i:Nat}{v:Value}{y:V}(x:fJ h I i v y)(k:∀ o,h.get? I=some o→h'.get? I=some o):fJ h' I i v y:=by
 induction x using fJ.casesOn with
 |list it=>refine o1x3 it fun o a b c=>?_;clear it;exact .list ⟨o,k _ a,b,c⟩
 |tup it=>refine o1x3 it fun o a b c=>?_;clear it;exact .tup ⟨o,k _ a,b,c⟩
 |rng it=>exact .rng (k _ it)
section
variable {prog:Program} {w:World} {A:Around} {E:Value→Shared→Prop} {s:Shared} {G:GT} {h₀:Heap} {Z:H}
theorem jb{target:Expr}{I:Addr}{i:Nat}{v u:Value}{y:V}{Q:Unit→Shared→Prop}(x:fJ s.heap I i v y)(h:Q () s):wpAny (model prog w) A (letOwnedTupleGo target (.ref I) u) Q E s:=by
 obtain⟨o,ho,_,n,vs,hc,hd,hn⟩:=x.obj
 have body:wpAny (model prog w) A (match(Value.ref I,u) with
   |(.ref r,.ref a)=>do
    let o ← load r
    match o.cls,o.data with
    |.type n,.fields vs=>
     if["enumerate","zip","dict_itemiterator","dict_reverseitemiterator","odict_iterator","itertools.zip_longest","itertools.pairwise"].contains n && vs[0]? == some (rawInt a) then do
      rule "for.unpacks-the-owned-tuple"
      updateField r 0 .none
     else pure ()
    |_,_=>pure ()
   |_=>pure ()) Q E s:=by
  induction u using Value.casesOn with
  |ref a=>
   refine wpAny_bind (wpAny_load ho ?_)
   (refine af hc ?_;refine af hd ?_)
   dsimp only
   (refine af hn ?_;rewrite[Bool.false_and];refine af (aD Bool.false_ne_true) ?_)
   exact wpAny_pure h
  |_=>exact wpAny_pure h
 induction target using Expr.casesOn<;>first | exact wpAny_pure h | exact body
set_option tactic.hygienic true in
theorem nB{v:Value}{y:V}{xs:List V}{Q:Value→Shared→Prop}(S:St w.params G h₀ Z s.heap)(r:bg G s.heap v y)(e:bp Z y=some xs)
  (h:∀ o,o.isFreed=false→fJ (s.heap.push o) s.heap.objs.size 0 v y→Q (.ref s.heap.objs.size) { s with heap:=s.heap.push o }):wpAny (model prog w) A (pyIter v) Q E s:=by
 unfold bp at e
 split at e
 ·refine o3x2 r.tup_inv fun a vs n e3 q9=>?_;obtain rfl:=e3;refine o0x3 q9 fun e1 r1 z=>?_;clear q9
  exact wpAny_pyIter_tuple ⟨_,e1,rfl,n,rfl⟩ (h _ rfl (.tup ⟨_,Heap.get?_push_size _ rfl,rfl,rfl⟩))
 ·rename_i n
  refine o4x2 r.rng_inv fun a t u w' e4 q9=>?_;obtain rfl:=e4;refine o0x2 q9 fun e1 hn=>?_;clear q9
  refine wpAny_pyIter_range e1 (small_one (by lia) (by lia) (by lia) (by lia)) (h _ rfl (.rng ?_))
  rw[rangeSize_one]
  have:(if(0:Int)<n then n - 0 else 0)=n - ((0:Nat):Int):=by split<;>lia
  refine af this ?_
  exact Heap.get?_push_size _ rfl
 ·rename_i a
  obtain rfl:=r.ref_inv
  split at e
  ·rename_i ys hZ
   refine o2x3 (S.obj _ _ hZ) fun vs n e1 r1 z=>?_
   exact wpAny_pyIter_list ⟨_,e1,rfl,n,rfl⟩ (h _ rfl (.list ⟨_,Heap.get?_push_size _ rfl,rfl,rfl⟩))
  ·exact ns e
 ·exact ns e
set_option tactic.hygienic true in
theorem kQ{v:Value}{y x:V}{xs:List V}{I:Addr}{i:Nat}{Q:Option Value→Shared→Prop}(S:St w.params G h₀ Z s.heap)(r:bg G s.heap v y)(e:bp Z y=some xs)(it:fJ s.heap I i v y)(hx:xs[i]? = some x)
  (h:∀ u h' tk,bg G s.heap u x→fJ h' I (i+1) v y→Heap.SameBut I s.heap h'→Q (some u) { s with heap:=h',toks:=tk }):wpAny (model prog w) A (pyNext (.ref I)) Q E s:=by
 unfold bp at e
 split at e
 ·refine o3x2 r.tup_inv fun a vs n e3 q9=>?_;obtain rfl:=e3;refine o0x3 q9 fun e1 r1 z=>?_;clear q9
  obtain rfl:=aP e
  cases it with
  |tup it=>
   refine o1x2 (r1.get hx) fun u hu ru=>?_
   exact wpAny_pyNext_tuple_item it ⟨_,e1,rfl,n,rfl⟩ (by refine br (Array.getElem?_toList) ?_;exact hu) fun h' it' hs=>h u h' _ ru (.tup it') hs
 ·rename_i n
  refine o4x2 r.rng_inv fun a t u w' e4 q9=>?_;obtain rfl:=e4;refine o0x2 q9 fun e1 hn=>?_;clear q9
  obtain rfl:=aP e
  cases it with
  |rng it=>
   rw[List.getElem?_map] at hx
   refine o1x2 (Option.map_eq_some_iff.mp hx) fun j hj e2=>?_;obtain rfl:=e2
   refine aH (List.getElem?_eq_some_iff.mp hj) fun hlt e1=>?_;obtain rfl:=e1
   have ej:(List.range n.toNat)[i]=i:=List.getElem_range _
   rw[ej] at h
   rw[List.length_range] at hlt
   refine wpAny_pyNext_range_item it (by lia) fun h' it' hs=>h _ h' _ (.int _ _) (.rng ?_) hs
   have e1:((i+1:Nat):Int)=(i:Int)+1:=by lia
   have e2:n - ((i+1:Nat):Int)=n - i - 1:=by lia
   (refine af e2 ?_;refine af e1 ?_);exact it'
 ·rename_i a
  obtain rfl:=r.ref_inv
  split at e
  ·rename_i ys hZ
   obtain rfl:=aP e
   refine o2x3 (S.obj _ _ hZ) fun vs n e1 r1 z=>?_
   cases it with
   |list it=>
    refine o1x2 (r1.get hx) fun u hu ru=>?_
    exact wpAny_pyNext_list_item it ⟨_,e1,rfl,n,rfl⟩ (by refine br (Array.getElem?_toList) ?_;exact hu) fun h' it' hs=>h u h' _ ru (.list it') hs
  ·exact ns e
 ·exact ns e
set_option tactic.hygienic true in
theorem nG{v:Value}{y:V}{xs:List V}{I:Addr}{i:Nat}{Q:Option Value→Shared→Prop}(hh:A.handled=none)(S:St w.params G h₀ Z s.heap)(r:bg G s.heap v y)(e:bp Z y=some xs)(it:fJ s.heap I i v y)(hx:xs.length≤i)
  (h:∀ h',Heap.ExtBut I s.heap h'→Q none { s with heap:=h' }):wpAny (model prog w) A (pyNext (.ref I)) Q E s:=by
 unfold bp at e
 split at e
 ·refine o3x2 r.tup_inv fun a vs n e3 q9=>?_;obtain rfl:=e3;refine o0x3 q9 fun e1 r1 z=>?_;clear q9
  obtain rfl:=aP e
  have l1:=r1.length
  cases it with
  |tup it=>exact wpAny_pyNext_tuple_end hh it ⟨_,e1,rfl,n,rfl⟩ (by refine br (Array.getElem?_toList) ?_;exact List.getElem?_eq_none (by lia)) h
 ·rename_i n
  refine o4x2 r.rng_inv fun a t u w' e4 q9=>?_;obtain rfl:=e4;refine o0x2 q9 fun e1 hn=>?_;clear q9
  obtain rfl:=aP e
  cases it with
  |rng it=>
   (rewrite[List.length_map] at hx;rw[List.length_range] at hx)
   exact wpAny_pyNext_range_end hh it (by lia) h
 ·rename_i a
  obtain rfl:=r.ref_inv
  split at e
  ·rename_i ys hZ
   obtain rfl:=aP e
   refine o2x3 (S.obj _ _ hZ) fun vs n e1 r1 z=>?_
   have l1:=r1.length
   cases it with
   |list it=>exact wpAny_pyNext_list_end hh it ⟨_,e1,rfl,n,rfl⟩ (by refine br (Array.getElem?_toList) ?_;exact List.getElem?_eq_none (by lia)) h
  ·exact ns e
 ·exact ns e
end
structure ln (P:Params) (G:GT) (h₀:Heap) (F:Addr→Prop) (Z:H) (s:Shared) (Z':H) (s':Shared):Prop where
 eq:∃ h' tk,s'={ s with heap:=h',toks:=tk }
 st:St P G h₀ Z' s'.heap
 keep:∀ b o,s.heap.get? b=some o→¬bu Z b→¬F b→s'.heap.get? b=some o
 own:∀ b,bu Z' b→bu Z b∨(s.heap.get? b=none∧¬F b)
section
variable {P:Params} {G:GT} {h₀:Heap} {F:Addr→Prop} {Z Z' Z'':H} {s s' s'':Shared}
theorem ln.refl(S:St P G h₀ Z s.heap):ln P G h₀ F Z s Z s:=⟨⟨_,_,rfl⟩,S,fun za za e za za=>e,fun za o=>.inl o⟩
theorem ln.of(x:Go P G h₀ Z s Z' s')(hF:∀ b,F b→∃ o,s.heap.get? b=some o):ln P G h₀ F Z s Z' s':=
 ⟨x.eq,x.st,fun b o e n za=>x.eff.keep b o e n,fun b q=>(x.eff.own b q).imp id fun e=>⟨e,fun f=>by obtain⟨o,ho⟩:=hF b f;rw[e] at ho;exact ns ho⟩⟩
theorem ln.trans(x:ln P G h₀ F Z s Z' s')(y:ln P G h₀ F Z' s' Z'' s''):ln P G h₀ F Z s Z'' s'':=by
 refine o2x1 x.eq fun h1 t1 e1=>?_
 refine o2x1 y.eq fun h2 t2 e2=>?_
 refine⟨⟨h2,t2,by(refine ak (e2) ?_;(refine af e1 ?_;with_reducible rfl))⟩,y.st,fun b o e n f=>?_,fun b q=>?_⟩
 ·refine y.keep b o (x.keep b o e n f) (fun q=>?_) f
  refine Or.elim (x.own b q) (fun q=>?_) (fun q=>?_)
  ·exact n q
  ·rw[e] at q;exact sn q.1
 ·rcases y.own b q with q | ⟨q,f⟩
  ·exact x.own b q
  ·induction e:s.heap.get? b using Option.casesOn with
   |none=>exact .inr ⟨rfl,f⟩
   |some o=>
    refine .inl ?_
    by_cases n:bu Z b
    ·exact n
    ·rw[x.keep b o e n f] at q;exact sn q
theorem ln.stays(S:St P G h₀ Z s.heap)(x:ln P G h₀ F Z s Z' s')(hF:∀ b o,F b→s.heap.get? b=some o→¬cu o):b7 s.heap s'.heap:=fun b o e c=>x.keep b o e (fun q=>S.plainCls q e c) fun f=>hF b o f e c
end
section
variable {prog:Program} {w:World} {A:Around} {E:Value→Shared→Prop} {s:Shared} {G:GT} {h₀:Heap} {Z:H}
theorem dY{h:Heap}{vals:List Value}{x:V}(r:bw G h vals [x]):∃ v,vals=[v]∧bg G h v x:=by
 cases r with | cons a r=>cases r;exact⟨_,rfl,a⟩
theorem g9{h:Heap}{vals:List Value}{x y:V}(r:bw G h vals [x,y]):∃ v u,vals=[v,u]∧bg G h v x∧bg G h u y:=by
 cases r with | cons a r=>cases r with | cons b r=>cases r;exact⟨_,_,rfl,a,b⟩
theorem nX:∀ n:Int,0≤n→n<10→(Str.ofString (toString n)).length≤10:=by
 have:((List.range 10).all fun n=>decide ((Str.ofString (toString (n:Int))).length≤10))=true:=by decide +kernel
 intro n h0 h1
 refine aH (Int.eq_ofNat_of_zero_le h0) fun k e1=>?_;obtain rfl:=e1
 simpa using List.all_eq_true.mp this k (List.mem_range.mpr (by omega))
theorem CF{C:aN}{n:Nat}{f:Value}{vals:List Value}{vs:List V}{Q:aO}(S:St w.params G h₀ Z s.heap)(hf:kg n=some f)(r:bw G s.heap vals vs)(h:fH C (.bi n) vs Q Z) :
  wpAny (model prog w) A (call f vals) (bT w.params G h₀ Z s Q) E s:=by
 refine kf (P:=fun n f=>wZ n vs Q Z→wpAny (model prog w) A (call f vals) (bT w.params G h₀ Z s Q) E s) ?_ ?_ ?_ ?_ ?_ ?_ ?_ hf h<;>clear h hf<;>intro hb
 ·refine o1x2 (jQ hb) fun x e1 h=>?_;obtain rfl:=e1
  induction x using V.casesOn with
  |tup l=>
   refine o1x2 (dY r) fun v e1 rv=>?_;refine af e1 ?_
   refine o3x2 rv.tup_inv fun a us m e3 q9=>?_;refine af e3 ?_;refine o0x3 q9 fun e1 r1 z=>?_;clear q9
   have l1:=r1.length
   unfold bL at z
   have l2:us.size=l.length:=by refine br l1 ?_;simp
   refine P.len_tuple e1 (by omega) ?_
   refine af l2 ?_
   exact bT.int S h _ _
  |ref a=>
   refine o1x2 (dY r) fun v e1 rv=>?_;refine af e1 ?_
   refine af rv.ref_inv ?_
   refine o1x2 h fun xs hZ h=>?_
   refine o2x3 (S.obj _ _ hZ) fun us m e1 r1 z=>?_
   have l1:=r1.length
   unfold bL at z
   have l2:us.size=xs.length:=by refine br l1 ?_;simp
   refine call_len_list ⟨_,e1,rfl,m,rfl⟩ (by omega) ?_
   refine af l2 ?_
   exact bT.int S h _ _
  |_=>exact False.elim h
 ·refine o1x2 (jQ hb) fun x e1 q9=>?_;obtain rfl:=e1;refine o1x2 q9 fun n e1 h=>?_;clear q9;obtain rfl:=e1
  refine o1x2 (dY r) fun v e1 rv=>?_;refine af e1 ?_
  refine aH rv.int_inv fun t e1=>?_;refine af e1 ?_
  exact call_range_1 ⟨_,Z,h.2,.rng (IsRange.new ..) h.1,Go.push S _ _⟩
 ·refine o1x2 (jQ hb) fun x e1 h=>?_;obtain rfl:=e1
  induction x using V.casesOn with
  |tup l=>
   refine o1x2 (dY r) fun v e1 rv=>?_;refine af e1 ?_
   refine o3x2 (id rv.tup_inv) fun a us m e3 q9=>?_;obtain rfl:=e3;refine o0x3 q9 fun e1 r1 z=>?_;clear q9
   exact call_tuple_tup ⟨_,e1,rfl,m,rfl⟩ (bT.here S h rv)
  |ref a=>
   refine o1x2 (dY r) fun v e1 rv=>?_;refine af e1 ?_
   refine af rv.ref_inv ?_
   refine o1x2 h fun xs hZ h=>?_
   refine o2x3 (S.obj _ _ hZ) fun us m e1 r1 z=>?_
   have l1:=r1.length
   have l2:us.size=xs.length:=by refine br l1 ?_;rfl
   refine call_tuple_list ⟨_,e1,rfl,m,rfl⟩ (fun h' k=>?_) (cq (by omega))
   have k':∀ b o,s.heap.get? b=some o→(h'.push { cls:=.type "tuple",data:=.seq us }).get? b=some o:=fun b o e=>Heap.get?_push_of_some _ (k b o e)
   exact⟨_,Z,h,.tup (Heap.get?_push_size _ rfl) (r1.stays fun b o e za=>k' b o e) z,Go.ext S (tk:=s.toks) k'⟩
  |_=>exact False.elim h
 ·refine o1x2 (jQ hb) fun x e1 q9=>?_;obtain rfl:=e1;refine o1x2 q9 fun l e1 h=>?_;clear q9;obtain rfl:=e1
  refine o1x2 (dY r) fun v e1 rv=>?_;refine af e1 ?_
  refine o3x2 rv.tup_inv fun a us m e3 q9=>?_;refine af e3 ?_;refine o0x3 q9 fun e1 r1 z=>?_;clear q9
  have l1:=r1.length
  have l2:us.size=l.length:=by refine br l1 ?_;rfl
  refine call_list_seq (items:=us) (n:=m) (T := "tuple") a (.inr rfl) e1 rfl rfl (fun h' c' k hD=>?_) (cq (by omega))
  have B:=S.add (h':=h') (a:=s.heap.objs.size) (o:=.list l) (fun b t=>by refine af (show b=_ from t) ?_;exact dP _) k (fun za za e=>by cases e) ⟨us,c',hD,r1.stays fun b o e za=>k b o e,z⟩
  exact⟨_,_,h _ B.2.2,.ref _,⟨_,s.toks,rfl⟩,B.1,B.2.1⟩
 ·refine o1x2 (jQ hb) fun x e1 q9=>?_;obtain rfl:=e1;refine o1x2 q9 fun n e1 h=>?_;clear q9;obtain rfl:=e1
  refine o1x2 (dY r) fun v e1 rv=>?_;refine af e1 ?_
  refine aH rv.int_inv fun t e1=>?_;refine af e1 ?_
  refine P.str_of_int ?_ (bT.val S h.2 (.str _ _ _ ?_) _)
  ·refine aH (Int.eq_ofNat_of_zero_le h.1.1) fun k e1=>?_;refine af e1 ?_
   have hk:k<10:=by have:=h.1.2;omega
   show(k:Int).natAbs.log2<1920
   rw[Int.natAbs_natCast]
   exact Nat.lt_of_le_of_lt (Nat.log2_le_self k) (by omega)
  ·exact Nat.le_trans (nX n h.1.1 h.1.2) (by show 10≤10+100 * 0;omega)
 ·refine o1x2 hb fun b e1 h=>?_;clear hb;obtain rfl:=e1
  refine o2x2 (g9 r) fun u t e2 q9=>?_;refine af e2 ?_;refine o0x2 q9 fun ru rt=>?_;clear q9
  refine af ru.bool_inv ?_
  have:=rt.bi_inv
  refine br (aP this) ?_
  exact IsiPair.bool_bool (bT.here S h (.bool _))
 ·exact False.elim hb
theorem rS{p:Addr}{xs:List V}{v:Value}{x:V}{Q:aO}(S:St w.params G h₀ Z s.heap)(hZ:Z p=some (.list xs))(rv:bg G s.heap v x)(z:xs.length<bL)(h:Q .none (Z.set p (.list (xs++[x])))) :
  wpAny (model prog w) A (call (.builtin "list.append") [.ref p,v]) (bT w.params G h₀ Z s Q) E s:=by
 refine o2x3 (S.obj _ _ hZ) fun us m e1 r1 za=>?_
 have l1:=r1.length
 have l2:us.size=xs.length:=by refine br l1 ?_;rfl
 refine call_meets slot_list_append ⟨_,e1,rfl⟩ entry_list_append (args_list_append _ _) (list_append p us m v (cq (by omega))) ⟨e1,?_⟩
 have h2:Heap.get? (s.heap.update p (Obj.mapSeq fun x=>x.push v)) p=some { cls:=.type "list",data:=.seq (us.push v) (if(us.push v).size == us.size then m else m+1) }:=Heap.get?_update_self _ e1 rfl
 have C:=S.change (h':=s.heap.update p (Obj.mapSeq fun x=>x.push v)) (a:=p) (d:=p) (o':=.list (xs++[x])) hZ rfl (fun b=>Iff.rfl) (fun za za q=>by cases q)
  (fun b y hb hy=>(Heap.SameBut.update ..).extBut b y hb hy)
  fun st=>⟨_,_,h2,by refine af Array.toList_push ?_;exact(r1.append (.cons rv .nil)).stays st,by simp;omega⟩
 exact⟨_,_,h,.none,⟨_,_,rfl⟩,C.1,C.2⟩
theorem bw.dropLast{h:Heap}{vs:List Value}{xs:List V}(r:bw G h vs xs):bw G h vs.dropLast xs.dropLast:=by
 (refine af List.dropLast_eq_take ?_;refine af List.dropLast_eq_take ?_;refine af r.length ?_);exact r.take _
theorem yq{p:Addr}{xs:List V}{x:V}{Q:aO}(S:St w.params G h₀ Z s.heap)(hZ:Z p=some (.list xs))(e:xs.getLast? = some x)(h:Q x (Z.set p (.list xs.dropLast))) :
  wpAny (model prog w) A (call (.builtin "list.pop") [.ref p]) (bT w.params G h₀ Z s Q) E s:=by
 refine o2x3 (S.obj _ _ hZ) fun us m e1 r1 z=>?_
 have l1:=r1.length
 have l2:us.size=xs.length:=by refine br l1 ?_;rfl
 rw[List.getLast?_eq_getElem?] at e
 refine o1x2 (r1.get e) fun v hv rv=>?_
 have hv':us[us.size - 1]? = some v:=by(refine af l2 ?_;refine br (Array.getElem?_toList) ?_);exact hv
 have hpos:0<us.size:=by
  have:=(Array.getElem?_eq_some_iff.mp hv').1
  omega
 refine call_meets F.slot_list_pop ⟨_,e1,rfl⟩ F.entry_list_pop (F.args_list_pop_1 _) (MeetsSeq.list_pop_last p us m v hv' (cq (by omega))) ⟨e1,?_⟩
 have h2:Heap.get? (s.heap.update p (Obj.mapSeq fun x=>x.eraseIdxIfInBounds (us.size - 1))) p=some { cls:=.type "list",data:=.seq (us.eraseIdxIfInBounds (us.size - 1)) (if(us.eraseIdxIfInBounds (us.size - 1)).size == us.size then m else m+1) }:=Heap.get?_update_self _ e1 rfl
 have C:=S.change (h':=s.heap.update p (Obj.mapSeq fun x=>x.eraseIdxIfInBounds (us.size - 1))) (a:=p) (d:=p) (o':=.list xs.dropLast) hZ rfl (fun b=>Iff.rfl) (fun za za q=>by cases q)
  (fun b y hb hy=>(Heap.SameBut.update ..).extBut b y hb hy)
  fun st=>⟨_,_,h2,by
   have:(us.eraseIdxIfInBounds (us.size - 1)).toList=us.toList.dropLast:=by
    delta Array.eraseIdxIfInBounds
    (refine af (dif_pos (by omega)) ?_;refine ak (Array.toList_eraseIdx) ?_)
    (refine af List.dropLast_eq_take ?_;rewrite[List.eraseIdx_eq_take_drop_succ];refine af (List.drop_of_length_le (by simp;omega)) ?_)
    simp
   refine af this ?_
   exact r1.dropLast.stays st,by refine af List.length_dropLast ?_;omega⟩
 exact⟨_,_,h,rv.stays (S.stays (h':=s.heap.update p _) fun b o eo no=>(Heap.SameBut.update ..).extBut b o (fun q=>no (q▸.inl (by refine af hZ ?_;simp))) eo),⟨_,_,rfl⟩,C.1,C.2⟩
theorem tN{p:Addr}{es:List (V×V)}{kv:Value}{k d:V}{dv:List Value}{Q:aO}(S:St w.params G h₀ Z s.heap)(hz:∃ o,h₀.get? sysModules=some o)(hZ:Z p=some (.dict es))(rk:bg G s.heap kv k)(hk:bd es k=true)(hu:A.units+70<cLine)
  (hd:(dv=[]∧d=.none)∨∃ v,dv=[v]∧bg G s.heap v d) (h:Q ((aI es k).getD d) Z) :
  wpAny (model prog w) A (call (.builtin "dict.get") (.ref p::kv::dv)) (bT w.params G h₀ Z s Q) E s:=by
 refine o3x4 (S.obj _ _ hZ) fun us m kk e1 D O z=>?_
 have hT:s.TypeIs (.ref p) "dict" :=⟨_,e1,rfl⟩
 have ns:=iO S hz (a:=p) (by refine af hZ ?_;simp)
 have fin:∀ (dflt:Option Value),bg G s.heap (dflt.getD .none) d→wpAny (model prog w) A.in1 (do
   if let some v ← dictGet p kv then return ← ret v
   match ← Builtin.Dict.missed p kv with
   |some v=>ret v
   |none=>ret (dflt.getD .none)) (fun fin s'=>∃ v,fin=.done (.ret v)∧bT w.params G h₀ Z s Q v s') E s:=fun dflt rd=>by
  refine wpAny_bind (mr e1 D O rk hk (by show A.units+1+64<_;omega) (fun x v tk e rv=>?_) fun tk e=>?_)
  ·rw[e] at h
   exact wpAny_pure ⟨_,rfl,bT.val S h rv tk⟩
  ·rw[e] at h
   exact wpAny_bind (wpAny_missed_other ns (wpAny_pure ⟨_,rfl,bT.val S h rd tk⟩))
 rcases hd with⟨rfl,rfl⟩ | ⟨v,rfl,rv⟩
 ·refine wpAny_call_entry F.slot_dict_get hT F.entry_dict_get ?_ (F.args_dict_get_2 _ _)
  exact fin none .none
 ·refine wpAny_call_entry F.slot_dict_get hT F.entry_dict_get ?_ (F.args_dict_get_3 _ _ _)
  exact fin (some v) rv
theorem tH{t:Addr}{us:Array Value}{m:Nat}{is:List Int}{i:Int}{u:Tok}{j:Nat}{Q:Value→Shared→Prop}(e1:s.heap.get? t=some { cls:=.type "tuple",data:=.seq us m })(r:bw G s.heap us.toList (is.map V.int))(z:is.length≤bL)
  (hj:is.findIdx? (fun x=>x == i)=some j) (h:∀ t tk,Q (.int (j:Int) t) { s with toks:=tk }):wpAny (model prog w) A (call (.builtin "tuple.index") [.ref t,.int i u]) Q E s:=by
 obtain⟨hlt,hit,hno⟩:=List.findIdx?_eq_some_iff_getElem.mp hj
 have l1:=r.length
 (rewrite[List.length_map] at l1;rw[Array.length_toList] at l1)
 refine wpAny_call_entry F.slot_tuple_index ⟨_,e1,rfl⟩ F.entry_tuple_index ?_ (F.args_tuple_index_2 _ _)
 show wpAny _ _ (do
  let xs ← Builtin.Tuple.tupleItemsOf (.ref t)
  for i' in [0:min xs.size xs.size] do
   if let some y:=xs[i']? then
    if ← eqBool y (.int i u) then return ← retInt i'
  rule "tuple.index.not-found"
  raiseError "ValueError" "tuple.index(x): x not in tuple") _ _ s
 refine wpAny_bind (tupleItemsOf_ ⟨_,e1,rfl,m,rfl⟩ ?_)
 rw[Nat.min_self]
 refine wpAny_bind ?_
 rw[Std.Legacy.Range.forIn_eq_forIn_range']
 rw[Std.Legacy.Range.size,Nat.sub_zero,Nat.add_sub_cancel,Nat.div_one]
 refine wpAny_forIn_list _ (fun rest r s'=>∃ k,rest=List.range' k (us.size - k)∧k≤j∧r.1=none∧s'=s) _ ?_ ?_ _ _ ⟨0,by simp,Nat.zero_le _,rfl,rfl⟩
 ·intro x rest b za p0;refine o1x4 p0 fun k hr hk hb e4=>?_;clear p0;refine af e4 ?_
  have hlt':k<us.size:=by omega
  obtain⟨rfl,hrest⟩:x=k∧rest=List.range' (k+1) (us.size - (k+1)):=by
   have e:us.size - k=(us.size - (k+1))+1:=by omega
   (rewrite[e] at hr;rw[List.range'_succ] at hr)
   injection hr with h1 h2
   exact⟨h1,h2⟩
  have hx:(is.map V.int)[x]? = some (.int (is[x]'(by lia))):=by(refine ak (List.getElem?_map) ?_;refine af (List.getElem?_eq_getElem (by lia)) ?_);rfl
  refine o1x2 (r.get hx) fun v hv rv=>?_
  refine aH rv.int_inv fun t' e1=>?_;obtain rfl:=e1
  refine af (show us[x]? = some (.int (is[x]'(by lia)) t') from by rw[← Array.getElem?_toList];exact hv) ?_
  refine wpAny_bind (wpAny_eqBool_int ?_)
  rcases Nat.lt_or_ge x j with hxj | hxj
  ·have:=hno x hxj
   have hne:(is[x]'(by lia) == i)=false:=by simpa using this
   (refine af hne ?_;refine af (aD Bool.false_ne_true) ?_)
   exact wpAny_pure ⟨x+1,hrest,hxj,rfl,rfl⟩
  ·have:x=j:=Nat.le_antisymm hk hxj
   subst this
   (refine af hit ?_;refine af (aG rfl) ?_)
   refine wpAny_bind (wpAny_bind (wpAny_mkInt (wpAny_pure (wpAny_pure ?_))))
   exact wpAny_pure ⟨_,rfl,h _ _⟩
 ·intro b za p0;refine o1x4 p0 fun k hr hk hb e4=>?_;clear p0;refine af e4 ?_
  exfalso
  have:us.size - k=0:=by
   have:=congrArg List.length hr
   simpa using this.symm
  omega
end
theorem mm:∀ (l:List Nat) (a:Nat),rH l a≠0→rH l a=l.foldl (fun a c=>a * 128+(c+1)) a∧∀ c ∈ l,c<127
 |[],a,_=>⟨rfl,fun za h=>by cases h⟩
 |c::r,a,h=>by
  unfold rH at h ⊢
  by_cases hc:c<127
  ·rw[aG hc] at h ⊢
   refine o0x2 (mm r _ h) fun h1 h2=>?_
   exact⟨h1,fun d hd=>by rcases List.mem_cons.mp hd with rfl | hd;exact hc;exact h2 d hd⟩
  ·rw[aD hc] at h;exact absurd rfl h
theorem tT:∀ (n:Nat) (l m:List Nat),l.length≤n→(∀ c ∈ l,c<127)→(∀ c ∈ m,c<127)→l.foldl (fun a c=>a * 128+(c+1)) 1=m.foldl (fun a c=>a * 128+(c+1)) 1→l=m:=by
 have pos:∀ (l:List Nat) (a:Nat),1≤a→1≤l.foldl (fun a c=>a * 128+(c+1)) a:=by
  intro l
  induction l with
  |nil=>intro a h;exact h
  |cons c r ih=>intro a h;exact ih (a * 128+(c+1)) (by lia)
 intro n
 induction n with
 |zero=>
  intro l m hl _ hm e
  have:l=[]:=List.eq_nil_of_length_eq_zero (by lia)
  subst this
  rcases List.eq_nil_or_concat m with rfl | ⟨m',c,rfl⟩
  ·rfl
  ·(rewrite[List.concat_eq_append] at e;rw[List.foldl_append] at e)
   have:=pos m' 1 (Nat.le_refl _)
   simp at e
   lia
 |succ n ih=>
  intro l m hl hl' hm e
  rcases List.eq_nil_or_concat l with rfl | ⟨l',c,rfl⟩
  ·rcases List.eq_nil_or_concat m with rfl | ⟨m',d,rfl⟩
   ·rfl
   ·(rewrite[List.concat_eq_append] at e;rw[List.foldl_append] at e)
    have:=pos m' 1 (Nat.le_refl _)
    simp at e
    lia
  ·rw[List.concat_eq_append] at hl hl' e ⊢
   rcases List.eq_nil_or_concat m with rfl | ⟨m',d,rfl⟩
   ·rw[List.foldl_append] at e
    have:=pos l' 1 (Nat.le_refl _)
    simp at e
    lia
   ·rw[List.concat_eq_append] at hm e ⊢
    (rewrite[List.foldl_append] at e;rw[List.foldl_append] at e)
    have hc:=hl' c (by simp)
    have hd:=hm d (by simp)
    simp only[List.foldl_cons,List.foldl_nil] at e
    have e1:c=d:=by lia
    have e2:l'.foldl (fun a c=>a * 128+(c+1)) 1=m'.foldl (fun a c=>a * 128+(c+1)) 1:=by lia
    rw[List.length_append] at hl
    (refine af (ih l' m' (by simp at hl;lia) (fun c h=>hl' c (by simp[h])) (fun c h=>hm c (by simp[h])) e2) ?_;(refine af e1 ?_;with_reducible rfl))
theorem mj{x y:Str}(h:fX x≠0)(e:fX x=fX y):x=y:=by
 refine cN fun PP kk=>?_
 have hx:=mm _ _ h
 have hy:=mm y.cps.toList 1 (by(refine af (show rH y.cps.toList 1=fX y from rfl) ?_;refine br e ?_);exact h)
 have:x.cps.toList=y.cps.toList:=tT _ _ _ (Nat.le_refl _) hx.2 hy.2 (by(refine br hx.1 ?_;refine br hy.1 ?_);exact e)
 obtain⟨⟨x⟩⟩:=x
 obtain⟨⟨y⟩⟩:=y
 refine kk ?_
 simp at this
 (refine af this ?_;with_reducible rfl)
theorem eK{x:Str}(hx:fX x≠0):∀ {names:List (Str×NameKind)} {i j:Nat} {k:NameKind},fB (names.map fun p=>(fX p.1,p.2)) (fX x) i=some (j,k)→names.lookup x=some k∧i≤j∧∃ p,names[j - i]? = some p∧p.1=x
 |[],i,j,k,h=>by simp[fB] at h
 |p::r,i,j,k,h=>by
  (rewrite[List.map_cons] at h;rw[fB] at h)
  by_cases q:fX p.1=fX x
  ·rw[aG q] at h
   have:x=p.1:=mj hx q.symm
   cases h
   refine⟨?_,Nat.le_refl _,p,by simp,this.symm⟩
   obtain⟨a,b⟩:=p
   (refine ak (List.lookup_cons) ?_;refine af this ?_);simp
  ·refine cN fun PP kk=>?_
   rw[aD q] at h
   obtain⟨h1,h2,p',h3,h4⟩:=eK hx h
   have ne:(x == p.1)=false:=by
    induction z:x == p.1 using Bool.casesOn with
    |false=>rfl
    |true=>exact absurd (by(refine af (beq_iff_eq.mp z) ?_;with_reducible rfl)) q
   refine kk ?_
   refine⟨?_,by lia,p',?_,h4⟩
   ·obtain⟨a,b⟩:=p
    (refine ak (List.lookup_cons) ?_;refine af ne ?_);exact h1
   ·refine af (show j - i=(j - (i+1))+1 by lia) ?_;simpa using h3
set_option tactic.hygienic true in
theorem fz{sc:Scope}{x:Str}{i:Nat}(h:hK (aX sc) x=.loc i):(∃ k,sc.names.lookup x=some k∧k≠.globalImplicit∧k≠.globalExplicit)∧∃ p,sc.names[i]? = some p∧p.1=x:=by
 unfold hK at h
 split at h
 ·cases h
 ·rename_i hx
  split at h
  ·unfold ie at h;split at h<;>cases h
  ·cases h
  ·refine cN fun PP kk=>?_
   rename_i j k n1 n2 e
   cases h
   obtain⟨h1,h2,p,h3,h4⟩:=eK hx e
   refine kk ?_
   exact⟨⟨_,h1,n1,n2⟩,p,by simpa using h3,h4⟩
  ·cases h
set_option tactic.hygienic true in
theorem vA{sc:Scope}{x:Str}{v:V}(h:hK (aX sc) x=.gl v):sc.names.lookup x=some .globalImplicit∧ie x=.gl v:=by
 unfold hK at h
 split at h
 ·cases h
 ·rename_i hx
  split at h
  ·rename_i j e
   exact⟨(eK hx e).1,h⟩
  ·cases h
  ·cases h
  ·cases h
set_option tactic.hygienic true in
theorem eU{sc:Scope}{r:Str→cO}{x:Str}{z:cO}(h:cP (aX sc) r x=z):z=.no∨(sc.names.lookup x=some .globalImplicit∧z=ie x)∨(∃ i,sc.names.lookup x=some .local∧z=.loc (100+i)∧∃ p,sc.names[i]? = some p∧p.1=x)∨(sc.names.lookup x=some .free∧z=r x):=by
 unfold cP at h
 split at h
 ·exact .inl h.symm
 ·rename_i hx
  split at h
  ·rename_i j e
   exact .inr (.inl ⟨(eK hx e).1,h.symm⟩)
  ·refine cN fun PP kk=>?_
   rename_i i e
   obtain⟨h1,h2,p,h3,h4⟩:=eK hx e
   refine kk ?_
   exact .inr (.inr (.inl ⟨i,h1,h.symm,p,by simpa using h3,h4⟩))
  ·rename_i j e
   exact .inr (.inr (.inr ⟨(eK hx e).1,h.symm⟩))
  ·exact .inl h.symm
noncomputable def Tr.all(p:Nat→Nat→Bool):Tr→Bool
 |.nil=>true
 |.node c n l r=>p c n && l.all p && r.all p
theorem j3{p:Nat→Nat→Bool}:∀ {t:Tr} {x:Nat},t.all p=true→t.find x≠269→p x (t.find x)=true
 |.nil,x,_,h=>absurd rfl h
 |.node c n l r,x,ha,h=>by
  simp only[Tr.all,Bool.and_eq_true] at ha
  unfold Tr.find at h ⊢
  by_cases h1:x=c
  ·refine af (aG h1) ?_;refine af h1 ?_;exact ha.1.1
  ·rw[aD h1] at h ⊢
   by_cases h2:x<c
   ·rw[aG h2] at h ⊢;exact j3 ha.1.2 h
   ·rw[aD h2] at h ⊢;exact j3 ha.2 h
theorem yw:Fe.all (fun c n=>fX (cw n) == c && c != 0)=true:=by decide +kernel
theorem iM{x:Str}(h:ix x<NT):cw (ix x)=x:=by
 have:=j3 yw (x:=fX x) (Nat.ne_of_lt h)
 (rewrite[Bool.and_eq_true] at this;rewrite[beq_iff_eq] at this;rw[bne_iff_ne] at this)
 exact(mj this.2 this.1.symm).symm
structure uT (h:Heap) (a:Addr) (fd:FD):Prop where
 out:∃ o F,h.get? a=some o∧o.data=.func F∧F.scope=fd.scope∧F.body=.stmts fd.body∧F.closure=[]∧F.globals=mainGlobals∧F.builtins=builtinsNs∧h.CodeRec F.code F.qualname∧
  ∀ vals:List Value,vals.length=fd.params.length→bindArgs F ⟨vals,[]⟩=pure (fd.params.zip vals)
structure gL (prog:Program) (w:World) (K:Frag) (G:GT) (h₀:Heap):Prop where
 X:K.In h₀
 sys:∃ o,h₀.get? sysModules=some o
 gd:xk G h₀
 arg:lr G h₀
 lim:h₀.NoLimit
 glob:∀ x v,ie x=.gl v→∃ val mg,h₀.Ns mainGlobals mg∧bg G h₀ val v∧(mg x=some val∨(mg x=none∧∃ mb,h₀.Ns builtinsNs mb∧mb x=some val))
 cls:∀ c C,cZ c=true→G.fn c=some C→qL K c C
 make:∀ c C,cZ c=true→G.fn c=some C→makesIn K C=true∧keepIn K (.ref C)=true∧
  if gH c=true then ∃ a,G.mt c 89=some a∧findIn K (.ref C) "__init__" = some (some (.ref a)) else findIn K (.ref C) "__init__" = some (some (.builtin "object.__init__"))
 meth:∀ c f a,G.mt c f=some a→typeIn K (.ref a)=some (.type "function")∧keepIn K (.ref a)=true
 meths:∀ c f C,fP.contains (c,f)=true→G.fn c=some C→f≠89→∃ a,G.mt c f=some a∧findIn K (.ref C) (cw f)=some (some (.ref a))∧(bk c).contains f=false∧f<NT
 fnk:∀ f a,cZ f=false→G.fn f=some a→keepIn K (.ref a)=true
 fnd:∀ f fd a,pe none f=some fd→G.fn f=some a→uT h₀ a fd
 mtd:∀ c f fd a,pe (some c) f=some fd→G.mt c f=some a→uT h₀ a fd
noncomputable def Fr(env:PySem.Env)(b:Addr):Prop:=b=env.locals∨∃ n,env.cells.lookup n=some b
structure C7 (G:GT) (env:PySem.Env) (r:Str→cO) (m cm:Str→Option Value) (U:Env) (Z:H) (h:Heap):Prop where
 kind:env.scope.kind=.function
 glb:env.globals=mainGlobals∧env.builtins=builtinsNs
 ns:h.Ns env.locals m
 cell:∀ x c,env.cells.lookup x=some c→h.IsCell c (cm x)
 own:∀ b,Fr env b→∃ o,h.get? b=some o∧¬cu o∧¬bu Z b
 loc:∀ x i v,r x=.loc i→U i=some v→∃ val,bg G h val v∧((env.kindOf x=some .local∧m x=some val)∨((env.kindOf x=some .cell∨env.kindOf x=some .free)∧cm x=some val∧∃ c,env.cells.lookup x=some c))
 gl:∀ x v,r x=.gl v→env.kindOf x=some .globalImplicit∧ie x=.gl v
noncomputable def bE(G:GT)(env:PySem.Env)(r:Str→cO)(U:Env)(Z:H)(h:Heap):Prop:=∃ m cm,C7 G env r m cm U Z h
section
variable {prog:Program} {w:World} {K:Frag} {G:GT} {h₀:Heap} {env:PySem.Env} {r:Str→cO} {U:Env} {Z Z':H} {s s':Shared}
theorem bE.go(e:bE G env r U Z s.heap)(S:St w.params G h₀ Z s.heap)(g:Go w.params G h₀ Z s Z' s'):bE G env r U Z' s'.heap:=by
 refine cN fun PP kk=>?_
 obtain⟨m,cm,a1,a2,a3,a4,a5,a6,a7⟩:=e
 have k:∀ b,Fr env b→∀ o,s.heap.get? b=some o→s'.heap.get? b=some o:=fun b f o e=>by
  refine o1x3 (a5 b f) fun o' e' za no=>?_
  exact g.eff.keep b o e no
 refine kk ?_
 refine⟨m,cm,a1,a2,a3.at' (k _ (.inl rfl)),fun x c hc=>?_,fun b f=>?_,fun x i v h1 h2=>?_,a7⟩
 ·refine o1x2 (a4 x c hc) fun o e1 e2=>?_
  exact⟨o,k _ (.inr ⟨x,hc⟩) _ e1,e2⟩
 ·refine cN fun PP kk=>?_
  refine o1x3 (a5 b f) fun o e1 e2 e3=>?_
  refine kk ?_
  exact⟨o,k b f _ e1,e2,g.eff.notOwned e1 e3⟩
 ·refine o1x2 (a6 x i v h1 h2) fun val r1 r2=>?_
  exact⟨val,g.rep S r1,r2⟩
end
noncomputable def kF(P:Params)(G:GT)(h₀:Heap)(Z:H)(s:Shared)(Q:Bool→H→Prop):Bool→Shared→Prop:=fun b s'=>∃ Z',Q b Z'∧Go P G h₀ Z s Z' s'
noncomputable def C5(P:Params)(G:GT)(h₀:Heap)(Z:H)(s:Shared)(Q:List V→H→Prop):List Value→Shared→Prop:=fun vs s'=>∃ xs Z',Q xs Z'∧bw G s'.heap vs xs∧Go P G h₀ Z s Z' s'
section
variable {P:Params} {G:GT} {h₀:Heap} {Z Zq:H} {s sa:Shared}
theorem bT.back{Q:aO}(g:Go P G h₀ Z s Zq sa){v:Value}{s':Shared}(h:bT P G h₀ Zq sa Q v s'):bT P G h₀ Z s Q v s':=by
 refine cN fun PP kk=>?_
 refine o2x3 h fun x Z' q r g'=>?_;clear h
 refine kk ?_
 exact⟨x,Z',q,r,g.trans g'⟩
theorem kF.back{Q:Bool→H→Prop}(g:Go P G h₀ Z s Zq sa){v:Bool}{s':Shared}(h:kF P G h₀ Zq sa Q v s'):kF P G h₀ Z s Q v s':=by
 refine o1x2 h fun Z' q g'=>?_;clear h
 exact⟨Z',q,g.trans g'⟩
end
section
variable {prog:Program} {w:World} {A:Around} {K:Frag} {G:GT} {h₀:Heap}
noncomputable def dX(prog:Program)(w:World)(G:GT)(h₀:Heap)(C:aN)(A:Around)(env:PySem.Env)(r:Str→cO)(e:Expr)(c:E):Prop:=
 ∀ U Z s Q X,bE G env r U Z s.heap→St w.params G h₀ Z s.heap→dd C c U Q Z→wpAny (model prog w) A (eval e env) (bT w.params G h₀ Z s Q) X s
noncomputable def i0(prog:Program)(w:World)(G:GT)(h₀:Heap)(C:aN)(A:Around)(env:PySem.Env)(r:Str→cO)(e:Expr)(c:E):Prop:=
 ∀ U Z s Q X,bE G env r U Z s.heap→St w.params G h₀ Z s.heap→dd C c U (xm Q) Z→wpAny (model prog w) A (isTrue e env (eval e env)) (kF w.params G h₀ Z s Q) X s
theorem du{C:aN}{c:E}{U:Env}{Q:Bool→H→Prop}{Z:H}:oq C c U (dd C c U) Q Z↔dd C c U (xm Q) Z:=by
 induction c using E.casesOn<;>exact Iff.rfl
theorem BD{Z:H}{s:Shared}{Q:Bool→H→Prop}{v:Value}{s':Shared}(h:bT w.params G h₀ Z s (xm Q) v s'):∃ b,v=.bool b∧kF w.params G h₀ Z s Q b s':=by
 refine cN fun PP kk=>?_
 refine o2x3 h fun x Z' q r g=>?_;clear h
 refine kk ?_
 induction x using V.casesOn with
 |bool b=>exact⟨b,r.bool_inv,Z',q,g⟩
 |_=>exact q.elim
theorem vN(D:gL prog w K G h₀){C:aN}{env:PySem.Env}{r:Str→cO}{x:Str}{p:Pos}(hd:(x == ("__debug__" : Str))=false)(hc:(x == ("__classdict__" : Str))=false) :
  dX prog w G h₀ C A env r (.Name x p) (match r x with | .loc i=>.x i | .gl v=>.k v | .no=>.bad):=by
 intro U Z s Q X ⟨m,cm,a⟩ S h
 induction hr:r x using cO.casesOn with
 |loc i=>
  refine cN fun PP kk=>?_
  rw[hr] at h
  refine o1x2 h fun v hv q=>?_;clear h
  refine o1x2 (a.loc x i v hr hv) fun val rv h1=>?_
  refine kk ?_
  refine wpAny_Name ?_ hd
  rcases h1 with⟨k,e⟩ | ⟨k,e,c,hc'⟩
  ·exact wpAny_loadName_local a.kind k a.ns e (bT.here S q rv)
  ·have cl:=a.cell x c hc'
   rw[e] at cl
   rcases k with k | k
   ·exact wpAny_loadName_cell a.kind k hc' cl (bT.here S q rv)
   ·exact wpAny_loadName_free a.kind k hc' cl (bT.here S q rv) hc
 |gl v=>
  refine cN fun PP kk=>?_
  rw[hr] at h
  refine o0x2 (a.gl x v hr) fun k hg=>?_
  refine o2x3 (D.glob x v hg) fun val mg hn rv hm=>?_
  have hn':s.heap.Ns env.globals mg:=by refine af a.glb.1 ?_;exact hn.keeps S.base
  have rv':bg G s.heap val v:=rv.stays fun b o e za=>S.base b o e
  refine kk ?_
  refine Name_function_global a.kind k ?_ hd
  rcases hm with e | ⟨e,mb,hb,e'⟩
  ·exact loadGlobal_global hn' e (bT.here S h rv')
  ·exact loadGlobal_builtin hn' e (by refine af a.glb.2 ?_;exact hb.keeps S.base) e' (bT.here S h rv')
 |no=>rw[hr] at h;exact False.elim h
set_option tactic.hygienic true in
theorem ub{C:aN}{env:PySem.Env}{r:Str→cO}{c:Const}{k:Nat}{p:Pos}:dX prog w G h₀ C A env r (.Constant c k p) (po c):=by
 intro U Z s Q X E S h
 rw[eval_Constant]
 unfold po at h
 unfold constValue
 split at h
 ·exact wpAny_pure (bT.here S (show Q .none Z from h) .none)
 ·rename_i b;exact wpAny_pure (bT.here S (show Q (.bool b) Z from h) (.bool _))
 ·rename_i i;exact wpAny_mkInt (bT.int S (show Q (.int i) Z from h) _ _)
 ·rename_i x
  split at h
  ·rename_i hx
   refine wpAny_mkText (bT.val S h ?_ _)
   have:=iM hx
   refine br this ?_
   refine af (oY _ hx) ?_
   exact .sym _ _ hx
  ·exact False.elim h
 ·exact False.elim h
end
section
variable {prog:Program} {w:World} {A:Around} {K:Frag} {G:GT} {h₀:Heap} {C:aN} {env:PySem.Env} {r:Str→cO}
theorem a9{α:Type}{t:Sem Value}{Z:H}{s:Shared}{Q1:aO}{R:Value→Shared→Prop}{X:Value→Shared→Prop}(h:wpAny (model prog w) A t (bT w.params G h₀ Z s Q1) X s)
  (k:∀ x v Zq sa,Q1 x Zq→bg G sa.heap v x→Go w.params G h₀ Z s Zq sa→R v sa):wpAny (model prog w) A t R X s:=
 wpAny_mono h (fun v sa ⟨x,Zq,q,rv,g⟩=>k x v Zq sa q rv g) fun za za e=>e
theorem eG{t:Sem Bool}{Z:H}{s:Shared}{Q1:Bool→H→Prop}{R:Bool→Shared→Prop}{X:Value→Shared→Prop}(h:wpAny (model prog w) A t (kF w.params G h₀ Z s Q1) X s)
  (k:∀ b Zq sa,Q1 b Zq→Go w.params G h₀ Z s Zq sa→R b sa):wpAny (model prog w) A t R X s:=
 wpAny_mono h (fun v sa ⟨Zq,q,g⟩=>k v Zq sa q g) fun za za e=>e
theorem gK{t:Sem Value}{Z Zq:H}{s sa:Shared}{Q:aO}{X:Value→Shared→Prop}(g:Go w.params G h₀ Z s Zq sa)(h:wpAny (model prog w) A t (bT w.params G h₀ Zq sa Q) X sa) :
  wpAny (model prog w) A t (bT w.params G h₀ Z s Q) X sa:=wpAny_mono h (fun v s' o=>o.back g) fun za za e=>e
theorem io{t:Sem Bool}{Z Zq:H}{s sa:Shared}{Q:Bool→H→Prop}{X:Value→Shared→Prop}(g:Go w.params G h₀ Z s Zq sa)(h:wpAny (model prog w) A t (kF w.params G h₀ Zq sa Q) X sa) :
  wpAny (model prog w) A t (kF w.params G h₀ Z s Q) X sa:=wpAny_mono h (fun v s' o=>o.back g) fun za za e=>e
theorem wX{a b:Expr}{ca cb:E}{op:Operator}{p:Pos}(ha:dX prog w G h₀ C A env r a ca)(hb:dX prog w G h₀ C A env r b cb):dX prog w G h₀ C A env r (.BinOp a op b p) (.bin op ca cb):=by
 intro U Z s Q X e S h
 refine wpAny_BinOp (a9 (α:=Unit) (ha U Z s _ X e S h) fun x va Zq sa h1 ra g1=>a9 (α:=Unit) (hb U Zq sa _ X (e.go S g1) g1.st h1) fun y vb Zr sb h2 rb g2=>?_)
 exact gK (g1.trans g2) (AC g2.st (g2.rep g1.st ra) rb h2)
theorem vo{e:Expr}{c:E}(hs:dX prog w G h₀ C A env r e c)(hw:∀ whole,isTrue e env whole=(do let v ← whole;standAt e.pos;holding [v] (truthy v))):i0 prog w G h₀ C A env r e c:=by
 intro U Z s Q X en S h
 rw[hw]
 refine wpAny_bind (a9 (α:=Unit) (hs U Z s _ X en S h) fun x v Zq sa h1 rv g1=>?_)
 refine wpAny_bind (wpAny_standAt (wpAny_holding ?_))
 induction x using V.casesOn with
 |bool b=>
  refine af rv.bool_inv ?_
  exact wpAny_truthy_bool ⟨Zq,h1,g1⟩
 |_=>exact h1.elim
theorem vL{a:Expr}{ca:E}{p:Pos}(ha:dX prog w G h₀ C A env r a ca):dX prog w G h₀ C A env r (.UnaryOp .Not a p) (.not ca):=by
 intro U Z s Q X e S h
 replace h:=du.mp h
 refine UnaryOp_ (a9 (α:=Unit) (ha U Z s _ X e S h) fun x v Zq sa h1 rv g1=>?_)
 induction x using V.casesOn with
 |bool b=>
  refine af rv.bool_inv ?_
  exact not_of (wpAny_truthy_bool ⟨_,Zq,h1,.bool _,g1⟩)
 |_=>exact h1.elim
theorem tb{a:Expr}{ca:E}{p:Pos}(ha:i0 prog w G h₀ C A env r a ca):i0 prog w G h₀ C A env r (.UnaryOp .Not a p) (.not ca):=by
 intro U Z s Q X e S h
 replace h:=du.mp h
 rw[arm_isTrue_UnaryOp]
 exact wpAny_bind (eG (ha U Z s _ X e S h) fun b Zq sa h1 g1=>wpAny_pure ⟨Zq,h1,g1⟩)
theorem vM{a:Expr}{ca:E}{p:Pos}(ha:dX prog w G h₀ C A env r a ca):dX prog w G h₀ C A env r (.UnaryOp .USub a p) (.neg ca):=by
 intro U Z s Q X e S h
 refine UnaryOp_ (a9 (α:=Unit) (ha U Z s _ X e S h) fun x v Zq sa h1 rv g1=>?_)
 unfold BF at h1
 split at h1
 ·refine aH rv.int_inv fun t e1=>?_;refine af e1 ?_
  exact PyProof.Rows.neg_int (bT.back g1 (bT.int g1.st h1 _ _))
 ·exact h1.elim
theorem wk{t a b:Expr}{ct ca cb:E}{p:Pos}(ht:i0 prog w G h₀ C A env r t ct)(ha:dX prog w G h₀ C A env r a ca)(hb:dX prog w G h₀ C A env r b cb):dX prog w G h₀ C A env r (.IfExp t a b p) (.ite ct ca cb):=by
 intro U Z s Q X e S h
 replace h:=du.mp h
 rw[eval_IfExp]
 refine wpAny_bind (eG (ht U Z s _ X e S h) fun c Zq sa h1 g1=>?_)
 induction c using Bool.casesOn with
 |true=>exact gK g1 (ha U Zq sa _ X (e.go S g1) g1.st (h1.1 rfl))
 |false=>exact gK g1 (hb U Zq sa _ X (e.go S g1) g1.st (h1.2 rfl))
theorem tG{t a b:Expr}{ct ca cb:E}{p:Pos}(ht:i0 prog w G h₀ C A env r t ct)(ha:i0 prog w G h₀ C A env r a ca)(hb:i0 prog w G h₀ C A env r b cb):i0 prog w G h₀ C A env r (.IfExp t a b p) (.ite ct ca cb):=by
 intro U Z s Q X e S h
 replace h:=du.mp h
 show wpAny _ _ (do if ← isTrue t env (eval t env) then isTrue a env (eval a env) else isTrue b env (eval b env)) _ _ _
 refine wpAny_bind (eG (ht U Z s _ X e S h) fun c Zq sa h1 g1=>?_)
 induction c using Bool.casesOn with
 |true=>exact io g1 (ha U Zq sa _ X (e.go S g1) g1.st (h1.1 rfl))
 |false=>exact io g1 (hb U Zq sa _ X (e.go S g1) g1.st (h1.2 rfl))
noncomputable def dE:Expr→Bool
 |.Set ..=>false
 |_=>true
theorem ia{op:CmpOp}{e:Expr}(h:dE e=true):behindInMarks op e=false:=by
 unfold dE at h
 unfold behindInMarks
 split at h
 ·exact ff h
 ·split<;>simp_all
theorem wR(D:gL prog w K G h₀)(hu:A.units+70<cLine){a b:Expr}{ca cb:E}{op:CmpOp}{p:Pos}(hm:dE b=true)(ha:dX prog w G h₀ C A env r a ca)(hb:dX prog w G h₀ C A env r b cb) :
  dX prog w G h₀ C A env r (.Compare a [op] [b] p) (.cmp ca op cb):=by
 intro U Z s Q X e S h
 refine wpAny_Compare1 (a9 (α:=Unit) (ha U Z s _ X e S h) fun x va Zq sa h1 ra g1=>a9 (α:=Unit) (hb U Zq sa _ X (e.go S g1) g1.st h1) fun y vb Zr sb h2 rb g2=>?_) (ia hm)
 refine o1x2 h2 fun c hc q=>?_;clear h2
 exact iY g2.st D.sys D.gd (g2.rep g1.st ra) rb hu hc fun tk=>bT.back (g1.trans g2) (bT.val g2.st q (.bool c) tk)
theorem ud(D:gL prog w K G h₀)(hu:A.units+70<cLine){a b:Expr}{ca cb:E}{op:CmpOp}{p:Pos}(hm:dE b=true)(ha:dX prog w G h₀ C A env r a ca)(hb:dX prog w G h₀ C A env r b cb) :
  i0 prog w G h₀ C A env r (.Compare a [op] [b] p) (.cmp ca op cb):=by
 intro U Z s Q X e S h
 refine wpAny_isTrue_Compare1 (a9 (α:=Unit) (ha U Z s _ X e S h) fun x va Zq sa h1 ra g1=>a9 (α:=Unit) (hb U Zq sa _ X (e.go S g1) g1.st h1) fun y vb Zr sb h2 rb g2=>?_) (ia hm)
 refine o1x2 h2 fun c hc q=>?_;clear h2
 exact iY g2.st D.sys D.gd (g2.rep g1.st ra) rb hu hc fun tk=>wpAny_truthy_bool ⟨Zr,q,(g1.trans g2).trans (Go.tok g2.st tk)⟩
theorem dQ{vs keep:List Value}{s:Shared}{Q:Unit→Shared→Prop}{X:Value→Shared→Prop}(h:Q () s):wpAny (model prog w) A (release vs keep) Q X s:=fun Γ p za=>by
 rw[Sem.wp_release];exact h
theorem uf(D:gL prog w K G h₀)(hu:A.units+70<cLine){a b c:Expr}{ca cb cc:E}{op op2:CmpOp}{p:Pos}(hm:dE c=true)(ha:dX prog w G h₀ C A env r a ca)(hb:dX prog w G h₀ C A env r b cb)(hc:dX prog w G h₀ C A env r c cc) :
  dX prog w G h₀ C A env r (.Compare a [op,op2] [b,c] p) (.cmp2 ca op cb op2 cc):=by
 intro U Z s Q X e S h
 show wpAny _ _ (do compareChain p (← eval a env) [op,op2] [eval b env,markedBehindIn op2 c (eval c env)]) _ _ _
 refine af (markedBehindIn_of_false (ia hm)) ?_
 refine wpAny_bind (a9 (α:=Unit) (ha U Z s _ X e S h) fun x va Zq sa h1 ra g1=>?_)
 refine wpAny_bind (wpAny_holding (a9 (α:=Unit) (hb U Zq sa _ X (e.go S g1) g1.st h1) fun y vb Zr sb h2 rb g2=>wpAny_bind (wpAny_standAt (wpAny_bind (wpAny_holding ?_)))))
 refine o1x3 h2 fun z hz h3 h4=>?_;clear h2
 refine iY g2.st D.sys D.gd (g2.rep g1.st ra) rb hu hz fun tk=>wpAny_bind (dQ (wpAny_bind (wpAny_holding (wpAny_truthy_bool ?_))))
 have g3:=(g1.trans g2).trans (Go.tok g2.st tk)
 induction z using Bool.casesOn with
 |false=>exact wpAny_pure (bT.back g3 (bT.here (s:={ sb with toks:=tk }) g3.st (h4 rfl) (.bool false)))
 |true=>
  refine af (aG rfl) ?_
  refine wpAny_bind (wpAny_holding (a9 (α:=Unit) (hc U Zr { sb with toks:=tk } _ X (e.go S g3) g3.st (h3 rfl)) fun u vc Za se h5 rc g4=>wpAny_bind (wpAny_standAt ?_)))
  refine o1x2 h5 fun z2 hz2 q=>?_;clear h5
  refine wpAny_bind (wpAny_holding (iY g4.st D.sys D.gd (g4.rep (s:={ sb with toks:=tk }) g3.st rb) rc hu hz2 fun tk2=>wpAny_bind (dQ (wpAny_pure ?_))))
  exact bT.back (g3.trans g4) (bT.val g4.st q (.bool z2) tk2)
theorem rN(D:gL prog w K G h₀)(hu:A.units+70<cLine){a b c:Expr}{ca cb cc:E}{op op2:CmpOp}{p:Pos}(hm:dE c=true)(ha:dX prog w G h₀ C A env r a ca)(hb:dX prog w G h₀ C A env r b cb)(hc:dX prog w G h₀ C A env r c cc) :
  i0 prog w G h₀ C A env r (.Compare a [op,op2] [b,c] p) (.cmp2 ca op cb op2 cc):=by
 intro U Z s Q X e S h
 show wpAny _ _ (do testChain p (← eval a env) [op,op2] [eval b env,markedBehindIn op2 c (eval c env)]) _ _ _
 refine af (markedBehindIn_of_false (ia hm)) ?_
 refine wpAny_bind (a9 (α:=Unit) (ha U Z s _ X e S h) fun x va Zq sa h1 ra g1=>?_)
 refine wpAny_bind (wpAny_holding (a9 (α:=Unit) (hb U Zq sa _ X (e.go S g1) g1.st h1) fun y vb Zr sb h2 rb g2=>wpAny_bind (wpAny_standAt (wpAny_bind (wpAny_holding ?_)))))
 refine o1x3 h2 fun z hz h3 h4=>?_;clear h2
 refine iY g2.st D.sys D.gd (g2.rep g1.st ra) rb hu hz fun tk=>wpAny_bind (dQ (wpAny_bind (wpAny_holding (wpAny_truthy_bool ?_))))
 have g3:=(g1.trans g2).trans (Go.tok g2.st tk)
 induction z using Bool.casesOn with
 |false=>exact wpAny_pure ⟨Zr,h4 rfl,g3⟩
 |true=>
  refine af (aG rfl) ?_
  refine wpAny_bind (wpAny_holding (a9 (α:=Unit) (hc U Zr { sb with toks:=tk } _ X (e.go S g3) g3.st (h3 rfl)) fun u vc Za se h5 rc g4=>wpAny_bind (wpAny_standAt ?_)))
  refine o1x2 h5 fun z2 hz2 q=>?_;clear h5
  refine wpAny_bind (wpAny_bind (wpAny_holding (iY g4.st D.sys D.gd (g4.rep (s:={ sb with toks:=tk }) g3.st rb) rc hu hz2 fun tk2=>wpAny_bind (dQ (wpAny_pure (wpAny_holding (wpAny_truthy_bool ?_)))))))
  exact⟨Za,q,(g3.trans g4).trans (Go.tok g4.st tk2)⟩
noncomputable def d9(prog:Program)(w:World)(G:GT)(h₀:Heap)(C:aN)(A:Around)(env:PySem.Env)(r:Str→cO):List Expr→List E→Prop
 |[],[]=>True
 |e::es,c::cs=>(dX prog w G h₀ C A env r e c∧i0 prog w G h₀ C A env r e c)∧(∀ x p,e≠.Starred x p)∧d9 prog w G h₀ C A env r es cs
 |_,_=>False
theorem iB{e:Expr}{es:List Expr}{env:PySem.Env}(h:∀ x p,e≠.Starred x p):starEach (e::es) env=(false,eval e env)::starEach es env:=by
 induction e using Expr.casesOn<;>first | rfl | exact absurd rfl (h _ _)
theorem fL{pos:Pos}:∀ {es:List Expr} {cs:List E} {U:Env} {Z:H} {s:Shared} {Q:List V→H→Prop} {X:Value→Shared→Prop},d9 prog w G h₀ C A env r es cs→bE G env r U Z s.heap→St w.params G h₀ Z s.heap→kq C cs U Q Z→
  wpAny (model prog w) A (spliced (backTo pos (starEach es env))) (fun vs s'=>vs.length=es.length∧C5 w.params G h₀ Z s Q vs s') X s
 |[],[],U,Z,s,Q,X,_,e,S,h=>by
  exact spliced_nil ⟨rfl,[],Z,h,.nil,Go.refl S⟩
 |e::es,c::cs,U,Z,s,Q,X,⟨he,hs,hr⟩,en,S,h=>by
  refine af (iB hs) ?_
  refine spliced_cons (a9 (α:=Unit) (he.1 U Z s _ X en S h) fun x v Zq sa h1 rv g1=>?_)
  refine wpAny_mono (fL hr (en.go S g1) g1.st h1) (fun vs sb p0=>?_) fun za za e=>e
  obtain⟨hl,xs,Zr,q,rl,g2⟩:=p0
  exact⟨by(refine ak (List.length_cons) ?_;refine af List.length_cons ?_;(refine af hl ?_;with_reducible rfl)),x::xs,Zr,q,.cons (g2.rep g1.st rv) rl,g1.trans g2⟩
 |[],_::_,_,_,_,_,_,h,_,_,_=>h.elim
 |_::_,[],_,_,_,_,_,h,_,_,_=>h.elim
theorem vm{es:List Expr}{cs:List E}{k:Nat}{p:Pos}(hz:es.length≤1000)(hs:d9 prog w G h₀ C A env r es cs):dX prog w G h₀ C A env r (.Tuple es k p) (.tup cs):=by
 intro U Z s Q X e S h
 rw[arm_eval_Tuple]
 refine wpAny_bind (wpAny_standAt (wpAny_bind (wpAny_mono (fL hs e S h) (fun vs sa p0=>?_) fun za za e=>e)))
 obtain⟨hl,xs,Zq,q,rl,g⟩:=p0
 have l1:=rl.length
 have z:xs.length≤bL:=by unfold bL;lia
 exact wpAny_newObj_type (bT.back g (bT.tup (vs:=vs.toArray) g.st q (by simpa using rl) z _)) (by show vs.toArray.size≤sizeLine;exact cq (by simpa [l1] using z))
theorem v8{es:List Expr}{cs:List E}{p:Pos}(hz:es.length≤1000)(hs:d9 prog w G h₀ C A env r es cs):dX prog w G h₀ C A env r (.List es p) (.lst cs):=by
 intro U Z s Q X e S h
 rw[arm_eval_List]
 refine wpAny_bind (wpAny_standAt (wpAny_bind (wpAny_mono (fL hs e S h) (fun vs sa p0=>?_) fun za za e=>e)))
 obtain⟨hl,xs,Zq,q,rl,g⟩:=p0
 have l1:=rl.length
 have z:xs.length≤bL:=by unfold bL;lia
 exact wpAny_newObj_type (bT.back g (bT.list (vs:=vs.toArray) g.st q (by simpa using rl) z _)) (by show vs.toArray.size≤sizeLine;exact cq (by simpa [l1] using z))
theorem rO{pos:Pos}{op:BoolOp}{es:List Expr}:∀ {cs:List E} {U:Env} {Z:H} {s:Shared} {Q:Bool→H→Prop} {X:Value→Shared→Prop},d9 prog w G h₀ C A env r es cs→bE G env r U Z s.heap→St w.params G h₀ Z s.heap→xW C op cs U Q Z→
  wpAny (model prog w) A (boolOp pos op (evalEach es env)) (bT w.params G h₀ Z s (fun v Z'=>∃ b,v=.bool b∧Q b Z')) X s:=by
 induction es with
 |nil=>intro cs U Z s Q X hs _ _ h;induction cs using List.casesOn with
  |nil=>exact False.elim h
  |cons _ _=>exact hs.elim
 |cons e es ih=>
  intro cs U Z s Q X hs en S h
  induction cs using List.casesOn with
  |nil=>exact hs.elim
  |cons c cs=>
   induction es using List.casesOn with
   |nil=>induction cs using List.casesOn with
    |cons _ _=>exact hs.2.2.elim
    |nil=>
     replace h:=du.mp h
     refine a9 (α:=Unit) (hs.1.1 U Z s _ X en S h) fun x v Zq sa h1 rv g1=>?_
     induction x using V.casesOn with
     |bool b=>exact⟨_,Zq,⟨b,rfl,h1⟩,rv,g1⟩
     |_=>exact h1.elim
   |cons e' es=>induction cs using List.casesOn with
    |nil=>exact hs.2.2.elim
    |cons c' cs=>
     replace h:=du.mp h
     show wpAny _ _ (do
      let v ← eval e env
      standAt pos
      let t ← holding [v] (truthy v)
      match op,t with
      |.And,false | .Or,true=>pure v
      |_,_=>boolOp pos op (evalEach (e'::es) env)) _ _ _
     refine wpAny_bind (a9 (α:=Unit) (hs.1.1 U Z s _ X en S h) fun x v Zq sa h1 rv g1=>?_)
     induction x using V.casesOn with
     |bool b=>
      refine af rv.bool_inv ?_
      refine wpAny_bind (wpAny_standAt (wpAny_bind (wpAny_holding (wpAny_truthy_bool ?_))))
      have more:=fun h2=>gK g1 (ih (Q:=Q) (X:=X) hs.2.2 (en.go S g1) g1.st h2)
      induction op using BoolOp.casesOn<;>induction b using Bool.casesOn
      ·exact wpAny_pure ⟨_,Zq,⟨_,rfl,h1.2 rfl⟩,.bool _,g1⟩
      ·exact more (h1.1 rfl)
      ·exact more (h1.2 rfl)
      ·exact wpAny_pure ⟨_,Zq,⟨_,rfl,h1.1 rfl⟩,.bool _,g1⟩
     |_=>exact h1.elim
theorem AB{op:BoolOp}{es:List Expr}{cs:List E}{p:Pos}(hs:d9 prog w G h₀ C A env r es cs):dX prog w G h₀ C A env r (.BoolOp op es p) (.bl op cs):=by
 intro U Z s Q X e S h
 rw[arm_eval_BoolOp]
 refine wpAny_mono (rO hs e S h) (fun v sa p0=>?_) fun za za e=>e
 refine o2x3 p0 fun x Zq q2 rv g=>?_;clear p0;obtain⟨b,hb,q⟩:=q2
 subst hb
 exact⟨_,Zq,q,rv,g⟩
theorem pC{op:BoolOp}{es:List Expr}:∀ {cs:List E} {U:Env} {Z:H} {s:Shared} {Q:Bool→H→Prop} {X:Value→Shared→Prop},d9 prog w G h₀ C A env r es cs→bE G env r U Z s.heap→St w.params G h₀ Z s.heap→xW C op cs U Q Z→
  wpAny (model prog w) A (allTrue op es env) (kF w.params G h₀ Z s Q) X s:=by
 induction es with
 |nil=>intro cs U Z s Q X hs _ _ h;induction cs using List.casesOn with
  |nil=>exact False.elim h
  |cons _ _=>exact hs.elim
 |cons e es ih=>
  intro cs U Z s Q X hs en S h
  induction cs using List.casesOn with
  |nil=>exact hs.elim
  |cons c cs=>
   induction es using List.casesOn with
   |nil=>induction cs using List.casesOn with
    |cons _ _=>exact hs.2.2.elim
    |nil=>
     replace h:=du.mp h
     rw[arm_allTrue_cons]
     refine wpAny_bind (eG (hs.1.2 U Z s _ X en S h) fun b Zq sa h1 g1=>?_)
     induction op using BoolOp.casesOn<;>induction b using Bool.casesOn<;>exact wpAny_pure ⟨Zq,h1,g1⟩
   |cons e' es=>induction cs using List.casesOn with
    |nil=>exact hs.2.2.elim
    |cons c' cs=>
     replace h:=du.mp h
     rw[arm_allTrue_cons]
     refine wpAny_bind (eG (hs.1.2 U Z s _ X en S h) fun b Zq sa h1 g1=>?_)
     have more:=fun h2=>io g1 (ih (Q:=Q) (X:=X) hs.2.2 (en.go S g1) g1.st h2)
     induction op using BoolOp.casesOn<;>induction b using Bool.casesOn
     ·exact wpAny_pure ⟨Zq,h1.2 rfl,g1⟩
     ·exact more (h1.1 rfl)
     ·exact more (h1.2 rfl)
     ·exact wpAny_pure ⟨Zq,h1.1 rfl,g1⟩
theorem wW{op:BoolOp}{es:List Expr}{cs:List E}{p:Pos}(hs:d9 prog w G h₀ C A env r es cs):i0 prog w G h₀ C A env r (.BoolOp op es p) (.bl op cs):=by
 intro U Z s Q X e S h
 rw[arm_isTrue_BoolOp]
 exact pC hs e S h
noncomputable def eY:Expr→Bool
 |.Call (.Name ..) [] [] _=>false
 |_=>true
theorem qB{o:Expr}{a:Str}{whole:Sem Value}(h:eY o=true):attributeBase o a env whole=whole:=by
 revert h
 induction o using Expr.casesOn with
 |Call f as ks p=>induction f using Expr.casesOn with
  |Name x p=>induction as using List.casesOn with
   |nil=>induction ks using List.casesOn with
    |nil=>exact ff
    |cons k ks=>exact fun _z=>rfl
   |cons k ks=>exact fun _z=>rfl
  |_=>exact fun _z=>rfl
 |_=>exact fun _z=>rfl
set_option tactic.hygienic true in
theorem w1(D:gL prog w K G h₀){o:Expr}{co:E}{x:Str}{p:Pos}(hn:eY o=true)(ho:dX prog w G h₀ C A env r o co):dX prog w G h₀ C A env r (.Attribute o x p) (.att co (ix x)):=by
 intro U Z s Q X e S h
 (rewrite[arm_eval_Attribute];refine af (qB hn) ?_)
 refine wpAny_bind (a9 (α:=Unit) (ho U Z s _ X e S h) fun y v Zq sa h1 rv g1=>wpAny_bind (wpAny_standAt (wpAny_bind (wpAny_holding ?_))))
 refine o1x2 h1 fun z hz q=>?_;clear h1
 have hx:cw (ix x)=x:=by
  refine iM ?_
  unfold cR at hz
  split at hz
  ·split at hz
   ·split at hz
    ·rename_i hc;exact(gn _ _ hc).1
    ·exact ns hz
   ·exact ns hz
  ·exact ns hz
 refine br hx ?_
 refine qC g1.st D.X D.cls rv hz fun u tk ru=>wpAny_bind (wpAny_letTemporaryGo (wpAny_pure ?_))
 exact bT.back g1 (bT.val g1.st q ru tk)
theorem fk{Z:H}{s:Shared}{v k:Value}{y z x:V}{Q:Bool→Shared→Prop}{X:Value→Shared→Prop}(S:St w.params G h₀ Z s.heap)(rv:bg G s.heap v y)(hz:(∃ l,y=.tup l)∨∃ a,y=.ref a∧((∃ xs,Z a=some (.list xs))∨∃ es,Z a=some (.dict es)))(h:Q false s) :
  wpAny (model prog w) A (getitemInPython v) Q X s:=by
 have key:∀ {T id:String} {a:Addr} {o:Obj},v=.ref a→s.heap.get? a=some o→o.cls=.type T→typeLookup (.type T) "__getitem__" = pure (some (.builtin id))→wpAny (model prog w) A (getitemInPython v) Q X s:=fun{T id a o} hv ho hc hl=>by
  refine af hv ?_
  refine af (getitemInPython_of_ne (by intro q;cases q)) ?_
  refine wpAny_bind (wpAny_specialOf (T:=T) ⟨o,ho,hc⟩ hl ?_)
  exact wpAny_pure h
 rcases hz with⟨l,rfl⟩ | ⟨a,rfl,hz⟩
 ·refine o3x2 rv.tup_inv fun a vs n e3 q9=>?_;obtain rfl:=e3;refine o0x2 q9 fun e1 za=>?_;clear q9
  exact key rfl e1 rfl slot_tuple_getitem.lookup
 ·obtain rfl:=rv.ref_inv
  rcases hz with⟨xs,hZ⟩ | ⟨es,hZ⟩
  ·refine o2x2 (S.obj _ _ hZ) fun vs n e1 za=>?_
   exact key rfl e1 rfl slot_list_getitem.lookup
  ·refine o3x2 (S.obj _ _ hZ) fun ds n kk e1 za=>?_
   exact key rfl e1 rfl slot_dict_getitem.lookup
theorem oZ{Z:H}{a k x:V}(e:bD Z a k=some x):(∃ l,a=.tup l)∨∃ p,a=.ref p∧((∃ xs,Z p=some (.list xs))∨∃ es,Z p=some (.dict es)):=
 kR (fun l _z q _z _z _z=>.inl ⟨l,q⟩) (fun p q e=>.inr ⟨p,q,kS e (fun xs _z q _z _z _z=>.inl ⟨xs,q⟩) fun es q _z _z=>.inr ⟨es,q⟩⟩) e
noncomputable def df:Expr→Bool
 |.Slice ..=>false
 |_=>true
theorem ye{i:Expr}{v kv:Value}(hs:df i=true):subscripted i false v kv=operate [v,kv] (getItem v kv):=by
 induction i using Expr.casesOn<;>first | rfl | exact ff hs
theorem wq(hu:A.units+70<cLine){o i:Expr}{co ci:E}{p:Pos}(hs:df i=true)(ho:dX prog w G h₀ C A env r o co)(hi:dX prog w G h₀ C A env r i ci):dX prog w G h₀ C A env r (.Subscript o i p) (.idx co ci):=by
 intro U Z s Q X e S h
 rw[eval_Subscript]
 refine wpAny_bind (a9 (α:=Unit) (ho U Z s _ X e S h) fun y v Zq sa h1 rv g1=>wpAny_bind (wpAny_holding (a9 (α:=Unit) (hi U Zq sa _ X (e.go S g1) g1.st h1) fun k kv Zr sb h2 rk g2=>wpAny_bind (wpAny_standAt (wpAny_bind ?_)))))
 refine o1x2 h2 fun z hz q=>?_;clear h2
 have rv':=g2.rep g1.st rv
 refine fk (z:=k) (x:=z) (k:=kv) g2.st rv' (oZ hz) ?_
 refine af (ye hs) ?_
 refine wpAny_bind (wpAny_operating (wg g2.st rv' rk hu hz fun u tk ru=>wpAny_bind (wpAny_letTemporaryGo (wpAny_pure ?_))))
 exact bT.back (g1.trans g2) (bT.val g2.st q ru tk)
end
section
variable {prog:Program} {w:World} {A:Around} {K:Frag} {G:GT} {h₀:Heap} {C:aN} {env:PySem.Env} {r:Str→cO}
theorem ga{s:Shared}{l u t:Value}{Q:Value→Shared→Prop}{X:Value→Shared→Prop}(h:Q (.ref s.heap.objs.size) { s with heap:=s.heap.push { cls:=.type "slice",data:=.fields #[l,u,t] } }):wpAny (model prog w) A (newFields "slice" [l,u,t]) Q X s:=by
 exact wpAny_newObj_type h (by show 3≤sizeLine+2;refine af sizeLine_eq ?_;lia)
theorem rJ{a l:V}{Q:aO}{Z:H}(h:t9 a l Q Z):(∃ l,a=.tup l)∨∃ p,a=.ref p∧((∃ xs,Z p=some (.list xs))∨∃ es,Z p=some (.dict es)):=by
 unfold t9 at h;split at h
 ·exact .inl ⟨_,rfl⟩
 ·exact h.elim
theorem rK{a l:V}{Q:aO}{Z:H}(h:ua a l Q Z):((∃ l,a=.tup l)∨∃ p,a=.ref p∧((∃ xs,Z p=some (.list xs))∨∃ es,Z p=some (.dict es)))∨∃ l,a=.arg l:=by
 unfold ua at h;split at h
 ·exact .inl (.inl ⟨_,rfl⟩)
 ·refine o1x2 h fun xs hZ za=>?_;clear h;exact .inl (.inr ⟨_,rfl,.inl ⟨xs,hZ⟩⟩)
 ·exact .inr ⟨_,rfl⟩
 ·exact h.elim
theorem lY(hA:lr G h₀){Z:H}{s:Shared}{v:Value}{l:List V}{Q:Bool→Shared→Prop}{X:Value→Shared→Prop}(S:St w.params G h₀ Z s.heap)(rv:bg G s.heap v (.arg l))(h:Q false s):wpAny (model prog w) A (getitemInPython v) Q X s:=by
 refine o0x2 rv.inv fun e0 q9=>?_;refine af e0 ?_;refine af q9 ?_
 refine o2x2 hA fun vs n e0 za=>?_;clear hA
 refine af (getitemInPython_of_ne (by intro q;cases q)) ?_
 exact wpAny_bind (wpAny_specialOf (T := "list") ⟨_,S.base _ _ e0,rfl⟩ slot_list_getitem.lookup (wpAny_pure h))
theorem qU{a:V}{Q:aO}{Z:H}(h:sM a Q Z):(∃ l,a=.tup l)∨∃ p,a=.ref p∧((∃ xs,Z p=some (.list xs))∨∃ es,Z p=some (.dict es)):=by
 unfold sM at h;split at h
 ·refine o1x2 h fun xs hZ za=>?_;clear h;exact .inr ⟨_,rfl,.inl ⟨xs,hZ⟩⟩
 ·exact h.elim
theorem su{o a:Expr}{co ca:E}{sp p:Pos}(ho:dX prog w G h₀ C A env r o co)(ha:dX prog w G h₀ C A env r a ca):dX prog w G h₀ C A env r (.Subscript o (.Slice (some a) none none sp) p) (.slcL co ca):=by
 intro U Z s Q X e S h
 rw[eval_Subscript]
 refine wpAny_bind (a9 (α:=Unit) (ho U Z s _ X e S h) fun y v Zq sa h1 rv g1=>wpAny_bind (wpAny_holding ?_))
 show wpAny _ _ (do
  let l ← eval a env
  let u ← holding [l] (pure Value.none)
  let s ← holding [l,u] (pure Value.none)
  newFields "slice" [l,u,s]) _ _ _
 refine wpAny_bind (a9 (α:=Unit) (ha U Zq sa _ X (e.go S g1) g1.st h1) fun k kv Zr sb h2 rk g2=>wpAny_bind (wpAny_holding (wpAny_pure (wpAny_bind (wpAny_holding (wpAny_pure (ga (wpAny_bind (wpAny_standAt (wpAny_bind ?_))))))))))
 have rv':=g2.rep g1.st rv
 have g3:Go w.params G h₀ Zr sb Zr { sb with heap:=sb.heap.push { cls:=.type "slice",data:=.fields #[kv,.none,.none] } }:=Go.push g2.st _ sb.toks
 refine fk (k:=kv) (z:=y) (x:=y) g3.st (g3.rep g2.st rv') (rJ h2) ?_
 show wpAny _ _ (operate [_,v] (getItem v (.ref _)) >>= _) _ _ _
 refine wpAny_bind (wpAny_operating (a9 (α:=Unit) (wP g3.st (g3.rep g2.st rv') (g3.rep g2.st rk) (Heap.IsSliceOf.new ..) h2) fun z u Zb s4 q ru g4=>wpAny_bind (wpAny_letTemporaryGo (wpAny_pure ?_))))
 exact bT.back (((g1.trans g2).trans g3).trans g4) (bT.here g4.st q ru)
theorem sw(hA:lr G h₀){o a:Expr}{co ca:E}{sp p:Pos}(ho:dX prog w G h₀ C A env r o co)(ha:dX prog w G h₀ C A env r a ca):dX prog w G h₀ C A env r (.Subscript o (.Slice none (some a) none sp) p) (.slcH co ca):=by
 intro U Z s Q X e S h
 rw[eval_Subscript]
 refine wpAny_bind (a9 (α:=Unit) (ho U Z s _ X e S h) fun y v Zq sa h1 rv g1=>wpAny_bind (wpAny_holding ?_))
 show wpAny _ _ (do
  let l ← pure Value.none
  let u ← holding [l] (eval a env)
  let s ← holding [l,u] (pure Value.none)
  newFields "slice" [l,u,s]) _ _ _
 refine wpAny_bind (wpAny_pure (wpAny_bind (wpAny_holding (a9 (α:=Unit) (ha U Zq sa _ X (e.go S g1) g1.st h1) fun k kv Zr sb h2 rk g2=>wpAny_bind (wpAny_holding (wpAny_pure (ga (wpAny_bind (wpAny_standAt (wpAny_bind ?_))))))))))
 have rv':=g2.rep g1.st rv
 have g3:Go w.params G h₀ Zr sb Zr { sb with heap:=sb.heap.push { cls:=.type "slice",data:=.fields #[.none,kv,.none] } }:=Go.push g2.st _ sb.toks
 have kp:∀ {Q':Bool→Shared→Prop} {X':Value→Shared→Prop},Q' false { sb with heap:=sb.heap.push { cls:=.type "slice",data:=.fields #[.none,kv,.none] } }→wpAny (model prog w) A (getitemInPython v) Q' X' { sb with heap:=sb.heap.push { cls:=.type "slice",data:=.fields #[.none,kv,.none] } }:=
  fun{Q' X'} h=>(rK h2).elim (fun hk=>fk (k:=kv) (z:=y) (x:=y) g3.st (g3.rep g2.st rv') hk h) fun⟨l,hl⟩=>lY hA g3.st (hl▸g3.rep g2.st rv') h
 refine kp ?_
 show wpAny _ _ (operate [_,v] (getItem v (.ref _)) >>= _) _ _ _
 refine wpAny_bind (wpAny_operating (a9 (α:=Unit) (wQ hA g3.st (g3.rep g2.st rv') (g3.rep g2.st rk) (Heap.IsSliceOf.new ..) h2) fun z u Zb s4 q ru g4=>wpAny_bind (wpAny_letTemporaryGo (wpAny_pure ?_))))
 exact bT.back (((g1.trans g2).trans g3).trans g4) (bT.here g4.st q ru)
theorem vu{o:Expr}{co:E}{sp p up cp:Pos}{k:Nat}(ho:dX prog w G h₀ C A env r o co):dX prog w G h₀ C A env r (.Subscript o (.Slice none none (some (.UnaryOp .USub (.Constant (.int 1) k cp) up)) sp) p) (.rev co):=by
 intro U Z s Q X e S h
 rw[eval_Subscript]
 refine wpAny_bind (a9 (α:=Unit) (ho U Z s _ X e S h) fun y v Zq sa h1 rv g1=>wpAny_bind (wpAny_holding ?_))
 show wpAny _ _ (do
  let l ← pure Value.none
  let u ← holding [l] (pure Value.none)
  let s ← holding [l,u] (eval (.UnaryOp .USub (.Constant (.int 1) k cp) up) env)
  newFields "slice" [l,u,s]) _ _ _
 refine wpAny_bind (wpAny_pure (wpAny_bind (wpAny_holding (wpAny_pure (wpAny_bind (wpAny_holding (UnaryOp_ (wpAny_Constant_int (PyProof.Rows.neg_int (ga (wpAny_bind (wpAny_standAt (wpAny_bind ?_)))))))))))))
 generalize (sa.toks+1:Nat)=t1
 have g3:Go w.params G h₀ Zq sa Zq { sa with heap:=sa.heap.push { cls:=.type "slice",data:=.fields #[.none,.none,.int (-1) t1] },toks:=t1+1 }:=Go.push g1.st _ _
 refine fk (k:=v) (z:=y) (x:=y) g3.st (g3.rep g1.st rv) (qU h1) ?_
 show wpAny _ _ (operate [v,_] (getItem v (.ref _)) >>= _) _ _ _
 refine wpAny_bind (wpAny_operating (a9 (α:=Unit) (vy g3.st (g3.rep g1.st rv) (Heap.IsSliceOf.new ..) h1) fun z u Zb s4 q ru g4=>wpAny_bind (wpAny_letTemporaryGo (wpAny_pure ?_))))
 exact bT.back ((g1.trans g3).trans g4) (bT.here g4.st q ru)
end
structure A9 (n:Nat) (A:Around):Prop where
 handled:A.handled=none
 depth:A.depth+3 * n<990
 units:A.units+20 * n+200<cLine
structure dt (n:Nat) (A:Around):Prop where
 handled:A.handled=none
 depth:A.depth+3 * n+2<990
 units:A.units+20 * n+210<cLine
theorem dt.fit{n:Nat}{A:Around}(f:dt n A):A9 n A:=⟨f.handled,by have:=f.depth;lia,by have:=f.units;lia⟩
theorem dt.hu{n:Nat}{A:Around}(f:dt n A):A.units+70<cLine:=by have:=f.units;lia
theorem A9.deeper{n:Nat}{A:Around}(f:A9 (n+1) A)(env:PySem.Env):dt n (A.deeper env):=⟨f.handled,by have:=f.depth;show A.depth+1+_+_<_;lia,by have:=f.units;show A.units+3+_+_<_;lia⟩
theorem dt.under{n:Nat}{A:Around}(f:dt n A)(C:Addr)(rest:List Value)(kw:List (Str×Value)):A9 n (A.under (.builtin "type.__call__" ⟨.ref C::rest,kw⟩)):=
 ⟨f.handled,by have:=f.depth;show A.depth+1+_<_;lia,by have:=f.units;show A.units+(1+3 * 0)+_+_<_;lia⟩
noncomputable def AI(G:GT):Option Nat→Nat→Option Addr
 |none,f=>G.fn f
 |some c,f=>G.mt c f
noncomputable def jw(prog:Program)(w:World)(G:GT)(h₀:Heap)(C:aN)(n:Nat):Prop:=
 ∀ A,A9 n A→∀ c f a,(c=none→cZ f=false)→AI G c f=some a→∀ vals vs Q Z s R,bw G s.heap vals vs→St w.params G h₀ Z s.heap→C c f vs Q Z→
  (∀ v s',bT w.params G h₀ Z s Q v s'→R (.ok (.ret v)) s')→codeAny (model prog w) A (.call (.ref a) ⟨vals,[]⟩) R s
section
variable {prog:Program} {w:World} {A:Around} {K:Frag} {G:GT} {h₀:Heap} {C:aN} {n:Nat}
theorem zu(D:gL prog w K G h₀)(F:jw prog w G h₀ C n)(fit:dt n A){c:Nat}{CC:Addr}(hc:cZ c=true)(hC:G.fn c=some CC){vals:List Value}{vs:List V}{Q:aO}{Z:H}{s:Shared}{X:Value→Shared→Prop}
  (rl:bw G s.heap vals vs) (S:St w.params G h₀ Z s.heap) (h:fH C (.fn c) vs Q Z):wpAny (model prog w) A (call (.ref CC) vals) (bT w.params G h₀ Z s Q) X s:=by
 unfold fH at h
 dsimp only at h
 rw[aG hc] at h
 refine o0x3 (D.make c CC hc hC) fun hm hk hi=>?_
 have XX:K.In s.heap:=D.X.keeps S.base
 refine wpAny_call ?_
 obtain⟨hh,g,d,t,os⟩:=s
 have nz:hh.get? hh.objs.size=none:=dP hh
 have nz1:hh.get? (hh.objs.size+1)=none:=Heap.get?_none_of_le (Nat.le_succ _)
 have k:∀ b o,hh.get? b=some o→((hh.push emptyDict).push (instObj CC hh.objs.size)).get? b=some o:=fun b o e=>Heap.get?_push_of_some _ (Heap.get?_push_of_some _ e)
 have hx:((hh.push emptyDict).push (instObj CC hh.objs.size)).get? (hh.objs.size+1)=some (instObj CC hh.objs.size):=by heap_get
 have hd:((hh.push emptyDict).push (instObj CC hh.objs.size)).get? hh.objs.size=some emptyDict:=by heap_get
 have B:=St.add (h':=(hh.push emptyDict).push (instObj CC hh.objs.size)) (a:=hh.objs.size+1) (o:=.inst c []) S (fun b t=>by
  rcases t with rfl | t
  ·exact nz1
  ·have:b=hh.objs.size:=Nat.succ.inj t
   refine af this ?_;exact nz) k (fun za za za=>Nat.succ_pos _) ⟨CC,#[],0,Nat.succ_pos _,hC,hc,hx,hd,.nil,fun x hx=>by simp at hx,List.nodup_nil⟩
 by_cases hI:gH c=true
 ·rw[aG hI] at h hi
  refine o1x2 hi fun fI hf hfi=>?_;clear hi
  have ht:=(D.meth c 89 fI hf).1
  refine make_core (makes_of XX hm) (looks_findIn XX hfi) (fun self=>bind_fn XX self ht) (.inl rfl) ?_
  have hC':=h (hh.objs.size+1) B.2.2
  have rl':bw G ((hh.push emptyDict).push (instObj CC hh.objs.size)) (.ref (hh.objs.size+1)::vals) (.ref (hh.objs.size+1)::vs):=.cons (.ref _) (rl.stays fun b o e za=>k b o e)
  refine F _ (fit.under CC vals []) (some c) 89 fI (by simp) hf _ _ _ _ ⟨(hh.push emptyDict).push (instObj CC hh.objs.size),g,d,t,os⟩ _ rl' B.1 hC' fun v s' o=>?_
  refine o2x3 o fun x Z' q2 rv g'=>?_;clear o;obtain⟨q0,q⟩:=q2
  have hxn:x=.none:=by induction x using V.casesOn<;>first | rfl | exact ff q0
  subst hxn
  obtain rfl:=rv.none_inv
  refine⟨rfl,?_⟩
  exact⟨_,Z',q,.ref _,(⟨⟨_,_,rfl⟩,B.1,B.2.1⟩:Go w.params G h₀ Z ⟨hh,g,d,t,os⟩ (Z.set (hh.objs.size+1) (.inst c [])) ⟨(hh.push emptyDict).push (instObj CC hh.objs.size),g,d,t,os⟩).trans g'⟩
 ·rw[aD hI] at h hi
  obtain⟨rfl,h⟩:=h
  cases rl
  have Y:=makes_of (M:=model prog w) XX hm
  refine make_core Y (looks_findIn XX hi) (fun self=>Looks.of_pure (oi_bind self)) (.inr ⟨rfl,rfl⟩) ?_
  have t1:Looks (model prog w) ((hh.push emptyDict).push (instObj CC hh.objs.size)) (typeOf (.ref (hh.objs.size+1))) (.ref CC):=(Looks.ld hx).andThen .now
  have t2:Looks (model prog w) ((hh.push emptyDict).push (instObj CC hh.objs.size)) (isInstance (.ref (hh.objs.size+1)) (.type "object")) true:=t1.andThen (Y.top.keeps k)
  refine codeAny_call_builtin oi_plain entry_oi (@check_slot (model prog w) _ _ _ "object.__init__" "object" "__init__" (.ref (hh.objs.size+1)) [] [] _ oi_kind oi_split t2 (oi_args (.ref (hh.objs.size+1))) ?_)
  rw[oi_run]
  exact wpAny_pure (And.intro rfl ⟨_,_,h _ B.2.2,.ref _,⟨_,_,rfl⟩,B.1,B.2.1⟩)
theorem qy(D:gL prog w K G h₀)(F:jw prog w G h₀ C n)(fit:dt n A){f:Value}{g:V}{vals:List Value}{vs:List V}{Q:aO}{Z:H}{s:Shared}{X:Value→Shared→Prop}
  (rf:bg G s.heap f g) (rl:bw G s.heap vals vs) (S:St w.params G h₀ Z s.heap) (h:fH C g vs Q Z):wpAny (model prog w) A (call f vals) (bT w.params G h₀ Z s Q) X s:=by
 have h':=h
 induction g using V.casesOn with
 |fn x=>
  unfold fH at h'
  dsimp only at h'
  refine o1x2 rf.fn_inv fun a e1 ha=>?_;refine af e1 ?_
  by_cases hc:cZ x=true
  ·exact zu D F fit hc ha rl S h
  ·rw[aD hc] at h'
   exact wpAny_call (F A fit.fit none x a (fun za=>by simpa using hc) ha vals vs Q Z s _ rl S h' fun v s' o=>o)
 |bi m=>exact CF S rf.bi_inv rl h
 |_=>exact False.elim h'
theorem tz(D:gL prog w K G h₀){f:Value}{g:V}{s:Shared}(rf:bg G s.heap f g)(hg:(∃ x,g=.fn x)∨∃ m,g=.bi m)(h:Heap)(X:K.In h) :
  ∃ k,(k=Keeper.frame∨k=Keeper.machine∨k=Keeper.boundFrame)∧Looks (model prog w) h (keeperOf f) k:=by
 rcases hg with⟨x,rfl⟩ | ⟨m,rfl⟩
 ·refine o1x2 rf.fn_inv fun a e1 ha=>?_;refine af e1 ?_
  refine keeps_K ?_ h X
  by_cases hc:cZ x=true
  ·exact(D.make x a hc ha).2.1
  ·exact D.fnk x a (by simpa using hc) ha
 ·have e:=rf.bi_inv
  refine⟨.machine,.inr (.inl rfl),?_⟩
  have:keeperOf f=pure .machine:=by
   exact kf (P:=fun _z f=>keeperOf f=pure .machine) rfl rfl rfl rfl rfl rfl rfl e
  exact Looks.of_pure this
theorem A8{g:V}{vs:List V}{Q:aO}{Z:H}(h:fH C g vs Q Z):(∃ x,g=.fn x)∨∃ m,g=.bi m:=by
 induction g using V.casesOn with
 |fn x=>exact .inl ⟨_,rfl⟩
 |bi m=>exact .inr ⟨_,rfl⟩
 |_=>exact False.elim h
variable {env:PySem.Env} {r:Str→cO}
theorem fj{pos:Pos}:∀ {es:List Expr} {cs:List E},d9 prog w G h₀ C A env r es cs→(backTo pos (starEach es env)).any (·.1)=false
 |[],[],_=>rfl
 |e::es,c::cs,⟨_,hs,hr⟩=>by
  refine af (iB hs) ?_
  show(false || (backTo pos (starEach es env)).any (·.1))=false
  refine ak (fj hr) ?_;rfl
 |[],_::_,h=>h.elim
 |_::_,[],h=>h.elim
theorem qE{pos:Pos}{f:Value}{es:List Expr}{cs:List E}{U:Env}{Z:H}{s:Shared}{Q:List V→H→Prop}{X:Value→Shared→Prop}(hl:d9 prog w G h₀ C A env r es cs)(en:bE G env r U Z s.heap)(S:St w.params G h₀ Z s.heap)(h:kq C cs U Q Z) :
  wpAny (model prog w) A (evalArgs f true (backTo pos (starEach es env)) []) (fun a s'=>a.kw=[]∧C5 w.params G h₀ Z s Q a.pos s') X s:=by
 induction es using List.casesOn with
 |nil=>
  induction cs using List.casesOn with
  |nil=>
   exact evalArgs_nil3 ⟨rfl,[],Z,h,.nil,Go.refl S⟩
  |cons c cs=>exact hl.elim
 |cons e es=>
  have:=fL (pos:=pos) (X:=X) hl en S h
  induction cs using List.casesOn with
  |nil=>exact hl.elim
  |cons c cs=>
   rw[iB hl.2.1] at this ⊢
   exact evalArgs_plain (wpAny_mono this (fun vs s' z=>⟨rfl,z.2⟩) fun za za e=>e)
noncomputable def dD:Expr→Bool
 |.Attribute ..=>false
 |_=>true
theorem rG{f:Expr}{args:List Expr}{p:Pos}(h:dD f=true):eval (.Call f args [] p) env=(do callWith p (← eval f env) [] (backTo p (starEach args env)) []):=by
 induction f using Expr.casesOn<;>first | rfl | exact ff h
theorem ui(D:gL prog w K G h₀)(F:jw prog w G h₀ C n)(fit:dt n A){f:Expr}{args:List Expr}{cf:E}{cs:List E}{p:Pos}(hn:dD f=true)(hf:dX prog w G h₀ C A env r f cf)(hl:d9 prog w G h₀ C A env r args cs) :
  dX prog w G h₀ C A env r (.Call f args [] p) (.call cf cs):=by
 intro U Z s Q X e S h
 refine af (rG hn) ?_
 refine wpAny_bind (a9 (α:=Unit) (hf U Z s _ X e S h) fun g fv Zq sa h1 rf g1=>?_)
 obtain⟨hc,h1⟩:=h1
 have hg:(∃ x,g=.fn x)∨∃ m,g=.bi m:=by
  unfold n4 at hc
  split at hc
  ·exact .inl ⟨_,rfl⟩
  ·exact .inr ⟨_,rfl⟩
  ·exact ff hc
 refine callWith_of (P:=fun h=>K.In h) (by refine af (fj hl) ?_;rfl) (tz D rf hg) ?_
 refine wpAny_mono (qE hl (e.go S g1) g1.st h1) (fun a sb p0=>?_) fun za za e=>e
 obtain⟨hk,vs,Zr,h2,rl,g2⟩:=p0
 refine⟨D.X.keeps g2.st.base,?_⟩
 refine af hk ?_
 exact gK (g1.trans g2) (qy D F fit (g2.rep g1.st rf) rl g2.st h2)
theorem nR:∀ {fs:List (Nat×V)} {m:Nat} {y:V},dI fs m=some y→m ∈ fs.map (·.1)
 |[],m,y,h=>by exact ns h
 |e::fs,m,y,h=>by
  unfold dI at h
  by_cases q:e.1=m
  ·(refine af List.map_cons ?_;refine af q ?_);exact .head _
  ·rw[aD q] at h;exact .tail _ (nR h)
noncomputable def MF(G:GT)(m:Nat)(f:Value):MK→Prop
 |.tup=>m=91∧f=.builtin "tuple.index"
 |.list=>(m=95∧f=.builtin "list.append")∨(m=110∧f=.builtin "list.pop")
 |.dict=>m=99∧f=.builtin "dict.get"
 |.inst c=>∃ a,f=.ref a∧G.mt c m=some a
set_option tactic.hygienic true in
theorem lU(D:gL prog w K G h₀){Z:H}{s:Shared}{v:Value}{y:V}{k:MK}{m:Nat}{pl:Sem Bool}{Q:Value×List Value→Shared→Prop}{X:Value→Shared→Prop}(S:St w.params G h₀ Z s.heap)(rv:bg G s.heap v y)(hk:fA Z y=some k)(hm:fo k m=true)
  (h:∀ f,MF G m f k→Q (f,[v]) s):wpAny (model prog w) A (getMethod v (cw m) pl) Q X s:=by
 unfold fA at hk
 split at hk
 ·obtain rfl:=aP hk
  refine o3x2 rv.tup_inv fun a vs n e3 q9=>?_;obtain rfl:=e3;refine o0x2 q9 fun e1 za=>?_;clear q9
  have hm':m=91:=by simpa [fo] using hm
  subst hm'
  exact getMethod_builtin (T := "tuple") ⟨_,e1,rfl⟩ F.plainAttrs_tuple F.slot_tuple_index F.type_tuple_index (fun b q=>by cases q;exact⟨_,e1,rfl⟩) (h _ ⟨rfl,rfl⟩)
 ·rename_i a
  obtain rfl:=rv.ref_inv
  split at hk
  ·rename_i xs hZ
   obtain rfl:=aP hk
   refine o2x2 (S.obj _ _ hZ) fun vs n e1 za=>?_
   have hm':m=95∨m=110:=by simpa [fo] using hm
   rcases hm' with rfl | rfl
   ·exact getMethod_builtin (T := "list") ⟨_,e1,rfl⟩ F.plainAttrs_list slot_list_append (by show builtinType _=_;refine af builtinType_eq_fast ?_;kernel_rfl) (fun b q=>by cases q;exact⟨_,e1,rfl⟩) (h _ (.inl ⟨rfl,rfl⟩))
   ·exact getMethod_builtin (T := "list") ⟨_,e1,rfl⟩ F.plainAttrs_list F.slot_list_pop F.type_list_pop (fun b q=>by cases q;exact⟨_,e1,rfl⟩) (h _ (.inr ⟨rfl,rfl⟩))
  ·rename_i es hZ
   obtain rfl:=aP hk
   refine o3x2 (S.obj _ _ hZ) fun ds n kk e1 za=>?_
   have hm':m=99:=by simpa [fo] using hm
   subst hm'
   exact getMethod_builtin (T := "dict") ⟨_,e1,rfl⟩ F.plainAttrs_dict F.slot_dict_get F.type_dict_get (fun b q=>by cases q;exact⟨_,e1,rfl⟩) (h _ ⟨rfl,rfl⟩)
  ·rename_i c fs hZ
   obtain rfl:=aP hk
   refine o3x9 (lX S hZ) fun CC ds n z1 z2 z0 e1 e2 F z3 z4 I=>?_
   have hm2:fP.contains (c,m)=true∧m≠89:=by simpa [fo,-List.contains_eq_mem] using hm
   refine o0x2 hm2 fun hm' h89=>?_;clear hm2
   ·refine o1x4 (D.meths c m CC hm' z1 h89) fun a' hmt hfi hna hlt=>?_
    have k1:=D.cls c CC z2 z1
    have XX:K.In s.heap:=D.X.keeps S.base
    have hl:getL (cw m) ds=some none:=by
     refine(j2 F hlt).2.1 ?_
     induction q:dI fs m using Option.casesOn with
     |none=>rfl
     |some y=>
      exfalso
      have:=nR q
      rw[z3 m this] at hna;exact tf hna
    exact method_fn XX I (plainGet_of k1.get).1 (plainGet_of k1.get).2 hfi (D.meth c m a' hmt).1 (by show(lookIn (cw m) (dictOf ds n)).map _=_;(rewrite[lookIn_dict];refine af hl ?_);rfl) (h _ ⟨a',rfl,hmt⟩)
  ·exact ns hk
 ·exact ns hk
theorem wD{args:List Expr}{cs:List E}{p:Pos}(hl:d9 prog w G h₀ C A env r args cs)(hfew:args.length<30):methodCallForm (args.length+([]:List Keyword).length) (backTo p (starEach args env)) (backToKw p (keywordEach [] env))=true:=by
 unfold methodCallForm
 have h1:=fj (pos:=p) hl
 have h2:(backTo p (starEach args env)).all (fun x=>!x.1)=true:=by
  rw[List.all_eq_true]
  intro t ht
  rw[List.any_eq_false] at h1
  simpa using h1 t ht
 refine af h2 ?_
 show(true && true && decide (args.length+0+0<30))=true
 simpa using hfew
theorem wd(D:gL prog w K G h₀){m:Nat}{f:Value}{k:MK}(hf:MF G m f k):∀ h,K.In h→∃ k,(k=Keeper.frame∨k=Keeper.machine∨k=Keeper.boundFrame)∧Looks (model prog w) h (keeperOf f) k:=by
 intro h XX
 have bi:∀ id,f=.builtin id→∃ k,(k=Keeper.frame∨k=Keeper.machine∨k=Keeper.boundFrame)∧Looks (model prog w) h (keeperOf f) k:=fun id q=>by
  refine af q ?_
  exact⟨.machine,.inr (.inl rfl),Looks.of_pure rfl⟩
 induction k using MK.casesOn with
 |tup=>exact bi _ hf.2
 |list=>refine Or.elim hf (fun hf=>?_) (fun hf=>?_)<;>exact bi _ hf.2
 |dict=>exact bi _ hf.2
 |inst c=>
  refine o1x2 hf fun a e1 hmt=>?_;clear hf;refine af e1 ?_
  exact keeps_K (D.meth c _ a hmt).2 h XX
theorem vR(D:gL prog w K G h₀)(F:jw prog w G h₀ C n)(fit:dt n A){m:Nat}{f v:Value}{k:MK}{y:V}{vs:List V}{vals:List Value}{Q:aO}{Zr:H}{sb:Shared}{X:Value→Shared→Prop}(rv':bg G sb.heap v y)(rl:bw G sb.heap vals vs)(S2:St w.params G h₀ Zr sb.heap)
  (hf:MF G m f k) (h2:xr C k y m vs Q Zr):wpAny (model prog w) A (call f (v::vals)) (bT w.params G h₀ Zr sb Q) X sb:=by
 induction k using MK.casesOn with
 |tup=>
  obtain⟨hi,rfl⟩:=hf
  obtain⟨_,h2⟩:=h2
  induction y using V.casesOn with
  |tup l=>induction vs using List.casesOn with
   |nil=>exact False.elim h2
   |cons z r=>induction r using List.casesOn with
    |cons _ _=>induction z using V.casesOn<;>exact False.elim h2
    |nil=>induction z using V.casesOn with
     |int i=>
      obtain⟨is,j,rfl,hj,q⟩:=h2
      obtain⟨u,rfl,ru⟩:=dY rl
      obtain⟨t,rfl⟩:=ru.int_inv
      obtain⟨a,us,m,rfl,e1,r1,z⟩:=rv'.tup_inv
      exact tH e1 r1 (by simpa using z) hj fun t tk=>bT.int S2 q t tk
     |_=>exact False.elim h2
  |_=>exact False.elim h2
 |list=>induction y using V.casesOn with
  |ref a=>
   refine af rv'.ref_inv ?_
   obtain⟨xs,hZ,h2⟩:=h2
   induction vs using List.casesOn with
   |nil=>
    obtain⟨h110,x,hx,q⟩:=h2
    cases rl
    rcases hf with⟨hh,_⟩ | ⟨_,rfl⟩
    ·rw[h110] at hh;cases hh
    ·exact yq S2 hZ hx q
   |cons z r=>induction r using List.casesOn with
    |cons _ _=>exact False.elim h2
    |nil=>
     obtain⟨h95,z,q⟩:=h2
     obtain⟨uv,rfl,ru⟩:=dY rl
     rcases hf with⟨_,rfl⟩ | ⟨hh,_⟩
     ·exact rS S2 hZ ru z q
     ·rw[h95] at hh;cases hh
  |_=>exact False.elim h2
 |dict=>
  obtain⟨_,rfl⟩:=hf
  obtain⟨_,h2⟩:=h2
  induction y using V.casesOn with
  |ref a=>
   refine af rv'.ref_inv ?_
   obtain⟨es,hZ,h2⟩:=h2
   induction vs using List.casesOn with
   |nil=>exact False.elim h2
   |cons z r=>induction r using List.casesOn with
    |nil=>
     obtain⟨u,rfl,ru⟩:=dY rl
     exact tN S2 D.sys hZ ru h2.1 fit.hu (.inl ⟨rfl,rfl⟩) h2.2
    |cons z2 r=>induction r using List.casesOn with
     |cons _ _=>exact False.elim h2
     |nil=>
      obtain⟨u,u2,rfl,ru,ru2⟩:=g9 rl
      exact tN S2 D.sys hZ ru h2.1 fit.hu (.inr ⟨_,rfl,ru2⟩) h2.2
  |_=>exact False.elim h2
 |inst c=>
  obtain⟨a,rfl,hmt⟩:=hf
  exact wpAny_call (F A fit.fit (some c) _ a (by simp) hmt (v::vals) (y::vs) Q Zr sb _ (.cons rv' rl) S2 h2 fun v s' o=>o)
theorem vP(D:gL prog w K G h₀)(F:jw prog w G h₀ C n)(fit:dt n A){o:Expr}{x:Str}{args:List Expr}{co:E}{cs:List E}{ap p:Pos}(hn:eY o=true)(hx:ix x<NT)(hfew:args.length<30)(hline:(ap.endLine == p.line)=true)
  (ho:dX prog w G h₀ C A env r o co) (hl:d9 prog w G h₀ C A env r args cs):dX prog w G h₀ C A env r (.Call (.Attribute o x ap) args [] p) (.mth co (ix x) cs):=by
 intro U Z s Q X e S h
 (rewrite[arm_eval_Call];refine af (qB hn) ?_)
 refine wpAny_bind (a9 (α:=Unit) (ho U Z s _ X e S h) fun y v Zq sa h1 rv g1=>wpAny_bind (wpAny_standAt ?_))
 refine o1x3 h1 fun k hk hm h1=>?_
 have hform:=wD (p:=p) hl hfew
 unfold methodCall
 refine af hform ?_
 have hnx:cw (ix x)=x:=iM hx
 refine wpAny_bind (wpAny_holding ?_)
 show wpAny _ _ (getMethod v x _) _ _ _
 refine br hnx ?_
 refine lU D g1.st rv hk hm fun f hf=>?_
 refine wpAny_bind ?_
 unfold methodCallPos
 refine af hline ?_
 refine wpAny_pure ?_
 refine callWith_of (P:=fun h=>K.In h) (by refine af (fj hl) ?_;rfl) (wd D hf) ?_
 refine wpAny_mono (qE hl (e.go S g1) g1.st h1) (fun b sb p0=>?_) fun za za e=>e
 obtain⟨hkw,vs,Zr,h2,rl,g2⟩:=p0
 refine⟨D.X.keeps g2.st.base,?_⟩
 refine af hkw ?_
 have rv':=g2.rep g1.st rv
 refine gK (g1.trans g2) ?_
 have S2:=g2.st
 obtain⟨vals,kw⟩:=b
 dsimp only at rl
 show wpAny _ _ (call f (v::vals)) _ _ _
 exact vR D F fit rv' rl S2 hf h2
end
section
variable {P:Params} {G:GT} {h₀:Heap} {Z Zr:H} {s sb:Shared}
theorem Go.adopt{d:Addr}{o:O}{h':Heap}{tk:Nat}(g:Go P G h₀ Z s Zr sb)(S:St P G h₀ Z s.heap)(hd:s.heap.get? d=none)(n:¬bu Zr d)(hs:∀ b x,b≠d→sb.heap.get? b=some x→h'.get? b=some x)(nfz:∀ o,sb.heap.get? d=some o→¬cu o)
  (ht:∀ b,ft d o b→b=d) (hi:∀ c fs,o=.inst c fs→0<d) (ho:fg P G h' d o):Go P G h₀ Z s (Zr.set d o) { sb with heap:=h',toks:=tk }∧Zr d=none:=by
 have hz:h₀.get? d=none:=by
  induction q:h₀.get? d using Option.casesOn with
  |none=>rfl
  |some x=>rw[S.base d x q] at hd;exact sn hd
 have T:St P G h₀ Zr h':=g.st.touch n hz nfz hs
 have B:=T.adopt (a:=d) (o:=o) (fun b t=>by refine af (ht b t) ?_;exact n) (fun b t=>by refine af (ht b t) ?_;exact hz) hi ho
 refine o2x1 g.eq fun h1 t1 e1=>?_
 refine⟨⟨⟨h',tk,by(refine af e1 ?_;with_reducible rfl)⟩,B.1,⟨fun b x e no=>?_,fun b q=>?_⟩⟩,B.2.2⟩
 ·exact hs b x (fun q=>by subst q;rw[hd] at e;exact ns e) (g.eff.keep b x e no)
 ·refine Or.elim (B.2.1 b q) (fun q=>?_) (fun q=>?_)
  ·exact g.eff.own b q
  ·refine af (ht b q) ?_;exact .inr hd
end
section
variable {prog:Program} {w:World} {A:Around} {K:Frag} {G:GT} {h₀:Heap} {C:aN} {env:PySem.Env} {r:Str→cO}
noncomputable def yp(env:PySem.Env)(p:Pos):List Expr→List Expr→List (Sem Value×Sem Value)
 |k::ks,v::vs=>(eval k env,do let x ← eval v env;standAt p;pure x)::yp env p ks vs
 |_,_=>[]
theorem kK{p:Pos}:∀ {ks vs:List Expr},(evalEachOpt (ks.map some) env).zip ((evalEach vs env).map fun v=>do let x ← v;standAt p;pure x)=(yp env p ks vs).map fun q=>(some q.1,q.2)
 |[],_=>rfl
 |k::ks,[]=>by rfl
 |k::ks,v::vs=>by
  show(some (eval k env),_)::((evalEachOpt (ks.map some) env).zip ((evalEach vs env).map _))=_
  refine af kK ?_;rfl
theorem jO{p:Pos}:∀ {ks vs:List Expr},(yp env p ks vs).length≤ks.length
 |[],_=>Nat.le_refl _
 |k::ks,[]=>Nat.zero_le _
 |k::ks,v::vs=>by
  show(yp env p ks vs).length+1≤_
  have:=@jO p ks vs
  refine af List.length_cons ?_;lia
noncomputable def xR(G:GT)(h:Heap)(kvs:List (Value×Value))(es:List (V×V)):Prop:=bw G h (kvs.map (·.1)) (es.map (·.1))∧bw G h (kvs.map (·.2)) (es.map (·.2))
theorem np{p:Pos}{ks:List Expr}:∀ {vs:List Expr} {cks cvs:List E} {U:Env} {Z:H} {s:Shared} {Q:List (V×V)→H→Prop} {X:Value→Shared→Prop},d9 prog w G h₀ C A env r ks cks→d9 prog w G h₀ C A env r vs cvs→
  bE G env r U Z s.heap→St w.params G h₀ Z s.heap→A4 (sj C cks U) (sj C cvs U) Q Z→
  wpAny (model prog w) A (evalPairs (yp env p ks vs)) (fun kvs s'=>kvs.length≤ks.length∧∃ es Z',Q es Z'∧xR G s'.heap kvs es∧Go w.params G h₀ Z s Z' s') X s:=by
 induction ks with
 |nil=>
  intro vs cks cvs U Z s Q X hk hv e S h
  induction cks using List.casesOn with
  |cons _ _=>exact hk.elim
  |nil=>induction vs using List.casesOn with
   |nil=>induction cvs using List.casesOn with
    |nil=>exact evalPairs_nil ⟨Nat.le_refl _,[],Z,h,⟨.nil,.nil⟩,Go.refl S⟩
    |cons _ _=>exact hv.elim
   |cons _ _=>induction cvs using List.casesOn with
    |nil=>exact hv.elim
    |cons _ _=>exact False.elim h
 |cons k ks ih=>
  intro vs cks cvs U Z s Q X hk hv e S h
  induction cks using List.casesOn with
  |nil=>exact hk.elim
  |cons ck cks=>induction vs using List.casesOn with
   |nil=>induction cvs using List.casesOn with
    |nil=>exact False.elim h
    |cons _ _=>exact hv.elim
   |cons v vs=>induction cvs using List.casesOn with
    |nil=>exact hv.elim
    |cons cv cvs=>
     refine evalPairs_cons (a9 (α:=Unit) (hk.1.1 U Z s _ X e S h) fun x kv Zq sa h1 rk g1=>?_)
     refine wpAny_bind (a9 (α:=Unit) (hv.1.1 U Zq sa _ X (e.go S g1) g1.st h1) fun y vv Zr sb h2 rv g2=>wpAny_bind (wpAny_standAt (wpAny_pure ?_)))
     refine wpAny_mono (ih hk.2.2 hv.2.2 ((e.go S g1).go g1.st g2) g2.st h2) (fun kvs se p0=>?_) fun za za e=>e
     obtain⟨hl,es,Za,q,rr,g3⟩:=p0
     exact⟨Nat.succ_le_succ hl,(x,y)::es,Za,q,⟨.cons (g3.rep g2.st (g2.rep g1.st rk)) rr.1,.cons (g3.rep g2.st rv) rr.2⟩,(g1.trans g2).trans g3⟩
theorem tq{acc:List (V×V)}{k:V}{n:Nat}(hk:key k=true)(hn:mI k=n)(ha:∀ a r,acc=a::r→mI a.1=n):bd acc k=true:=by
 unfold bd
 (refine af hk ?_;rw[Bool.true_and])
 induction acc using List.casesOn with
 |nil=>rfl
 |cons a r=>dsimp only;(refine af (ha a r rfl) ?_;refine af hn ?_);simp
theorem rI{acc:List (V×V)}{k v:V}{n:Nat}(hn:mI k=n)(ha:∀ a r,acc=a::r→mI a.1=n):∀ a r,bI acc k v=a::r→mI a.1=n:=by
 intro a r e
 induction acc using List.casesOn with
 |nil=>skip;cases e;exact hn
 |cons b c=>
  unfold bI at e
  have hb:=ha b c rfl
  split at e<;>cases e<;>exact hb
theorem qO{d:Addr}{n:Nat}(kvs:List (Value×Value)):∀ (es acc:List (V×V)) (s:Shared) (ds:Array DictEntry) (m:Nat) (kk:KK) (Q:PUnit→Shared→Prop) (X:Value→Shared→Prop),xR G s.heap kvs es→
  s.heap.get? d=some { cls:=.type "dict",data:=.dict ds m }→cF w.params G s.heap kk ds.toList acc→g7 acc→(∀ e ∈ es,key e.1=true∧mI e.1=n)→(∀ a r,acc=a::r→mI a.1=n)→A.units+64<cLine→acc.length+es.length≤1000→
  (∀ h' tk ds' m' kk',Heap.SameBut d s.heap h'→h'.get? d=some { cls:=.type "dict",data:=.dict ds' m' }→cF w.params G h' kk' ds'.toList (dF acc es)→g7 (dF acc es)→(dF acc es).length≤1000→Q PUnit.unit { s with heap:=h',toks:=tk })→
  wpAny (model prog w) A (forIn kvs PUnit.unit fun(x:Value×Value) (_:PUnit)=>(do dictSet d x.1 x.2;pure (ForInStep.yield PUnit.unit):Sem (ForInStep PUnit))) Q X s:=by
 induction kvs with
 |nil=>
  intro es acc s ds m kk Q X rr ho D O _ _ _ hl hQ
  have:es=[]:=by
   have:=rr.1.length
   simpa using this.symm
  subst this
  refine af List.forIn_nil ?_
  exact wpAny_pure (hQ s.heap s.toks ds m kk (Heap.SameBut.refl ..) ho D O (by simpa [dF] using hl))
 |cons kv kvs ih=>
  obtain⟨kv,vv⟩:=kv
  intro es
  induction es using List.casesOn with
  |nil=>intro acc s ds m kk Q X rr;cases rr.1
  |cons e es=>
  intro acc s ds m kk Q X rr ho D O hk ha hu hl hQ
  obtain⟨r1,r2⟩:=rr
  cases r1 with
  |cons rk r1=>
   cases r2 with
   |cons rv r2=>
    have he:=hk e (.head _)
    rw[List.length_cons] at hl
    rw[List.forIn_cons]
    refine wpAny_bind (wpAny_bind (qu ho D O rk (tq he.1 he.2 ha) hu (by unfold bL;lia) rv fun h' tk ds' m' kk' hs e' D' z'=>wpAny_pure ?_))
    have st:b7 s.heap h':=fun b o eb c=>hs.extBut b o (fun q=>by
     subst q
     rw[ho] at eb
     obtain rfl:=aP eb
     exact nf (by simp) (by simp) c) eb
    have zl:(bI acc e.1 e.2).length≤acc.length+1:=by
     have:∀ l:List (V×V),(bI l e.1 e.2).length≤l.length+1:=by
      intro l
      induction l with
      |nil=>simp[bI]
      |cons a l ih=>unfold bI;split<;>simp<;>lia
     exact this acc
    refine ih es (bI acc e.1 e.2) { s with heap:=h',toks:=tk } ds' m' kk' Q X ⟨r1.stays st,r2.stays st⟩ e' (D'.stays st) (iK O) (fun e he=>hk e (.tail _ he)) (rI he.2 ha) hu (by lia) fun h'' tk' ds'' m'' kk'' hs' e'' D'' O'' z''=>?_
    exact hQ h'' tk' ds'' m'' kk'' (hs.trans hs') e'' D'' O'' z''
theorem wt{es:List (V×V)}(h:rq es=true):∃ n,∀ e ∈ es,key e.1=true∧mI e.1=n:=by
 unfold rq at h
 rw[List.all_eq_true] at h
 induction es using List.casesOn with
 |nil=>exact⟨0,fun e he=>by simp at he⟩
 |cons a r=>
  refine⟨mI a.1,fun e he=>?_⟩
  have:=h e he
  unfold bd at this
  rw[Bool.and_eq_true] at this
  exact⟨this.1,by simpa using(beq_iff_eq.mp this.2).symm⟩
theorem wN{ks vs:List Expr}{cks cvs:List E}{p:Pos}(hu:A.units+64<cLine)(hz:ks.length≤15)(hk:d9 prog w G h₀ C A env r ks cks)(hv:d9 prog w G h₀ C A env r vs cvs):dX prog w G h₀ C A env r (.Dict (ks.map some) vs p) (.dct cks cvs):=by
 intro U Z s Q X e S h
 have h:A4 (sj C cks U) (sj C cvs U) (fun es Zq=>rq es=true∧gb (.dict (dF [] es)) Q Zq) Z:=h
 (rewrite[arm_eval_Dict];refine af kK ?_)
 refine wpAny_bind (wpAny_standAt ?_)
 by_cases h0:yp env p ks vs=[]
 ·refine af h0 ?_
  have hp:=np (p:=p) (X:=X) hk hv e S h
  rw[h0] at hp
  have hnil:wpAny (model prog w) A (dictDisplay []) (bT w.params G h₀ Z s Q) X s:=by
   have:dictDisplay []=newDict:=rfl
   refine af this ?_
   refine wpAny_newObj_type ?_ (by show 0≤sizeLine+1;lia)
   have hq:∃ es Z',(rq es=true∧gb (.dict (dF [] es)) Q Z')∧es=[]∧Z'=Z:=by
    induction ks using List.casesOn with
    |nil=>
     induction vs using List.casesOn with
     |nil=>
      induction cks using List.casesOn with
      |nil=>
       induction cvs using List.casesOn with
       |nil=>exact⟨[],Z,h,rfl,rfl⟩
       |cons _ _=>exact hv.elim
      |cons _ _=>exact hk.elim
     |cons _ _=>
      induction cks using List.casesOn with
      |nil=>
       induction cvs using List.casesOn with
       |nil=>exact hv.elim
       |cons _ _=>exact False.elim h
      |cons _ _=>exact hk.elim
    |cons _ _=>
     induction vs using List.casesOn with
     |nil=>
      induction cks using List.casesOn with
      |nil=>exact hk.elim
      |cons _ _=>
       induction cvs using List.casesOn with
       |nil=>exact False.elim h
       |cons _ _=>exact hv.elim
     |cons _ _=>cases h0
   refine o2x3_1v0l_2v1l hq fun q2=>?_;clear hq;obtain⟨_,q⟩:=q2
   have:=bT.dict (P:=w.params) (h₀:=h₀) (s:=s) (kk:=.i) (ds:=#[]) (n:=0) (l:=[]) (tk:=s.toks) S q (dP _) (fun b x eb=>Heap.get?_push_of_some { cls:=.type "dict",data:=.dict #[] } eb) (Heap.get?_push_size _ rfl) .nil trivial (Nat.zero_le _)
   exact this
  exact hnil
 ·have hlen:(yp env p ks vs).length≤15:=Nat.le_trans jO hz
  refine af (dictDisplay_pairs _ h0 (by lia)) ?_
  refine wpAny_bind (wpAny_bind (wpAny_alloc (wpAny_bind (wpAny_holding ?_))))
  refine af (aG hlen) ?_
  have g1:Go w.params G h₀ Z s Z { s with heap:=s.heap.push { cls:=.type "dict",data:=.dict #[] } }:=Go.push S _ s.toks
  have hd0:=dP s.heap
  have hd1:(s.heap.push { cls:=.type "dict",data:=.dict #[] }).get? s.heap.objs.size=some { cls:=.type "dict",data:=.dict #[] }:=Heap.get?_push_size _ rfl
  have no1:¬bu Z s.heap.objs.size:=S.fresh hd0
  refine wpAny_bind (wpAny_mono (np hk hv (e.go S g1) g1.st h) (fun kvs sb p0=>?_) fun za za e=>e)
  obtain⟨hl,es,Zr,⟨hh,q⟩,rr,g2⟩:=p0
  refine aH (wt hh) fun n hn=>?_
  have le:es.length≤15:=by
   have:=rr.1.length
   simp at this
   lia
  have hd2:=g2.eff.keep _ _ hd1 no1
  have no2:=g2.eff.notOwned hd1 no1
  refine wpAny_holding (wpAny_bind (qO (n:=n) kvs es [] sb #[] 0 .i _ X rr hd2 .nil trivial hn (fun a r q=>by cases q) hu (by simp;lia) fun h' tk ds' m' kk' hs e' D' O' z'=>?_))
  refine wpAny_pure (wpAny_pure (wpAny_pure ?_))
  obtain⟨g3,hnone⟩:=Go.adopt (tk:=tk) (o:=.dict (dF [] es)) (h':=h') (g1.trans g2) S hd0 no2 (fun b x hb hx=>hs.extBut b x hb hx) (fun o eo=>by rw[hd2] at eo;obtain rfl:=aP eo;exact nf (by simp) (by simp)) (fun b t=>t) (fun za za q=>by cases q)
   ⟨ds',m',kk',e',D',O',by unfold bL;lia⟩
  exact⟨_,_,q _ hnone,.ref _,g3⟩
end
section
variable {P:Params} {G:GT} {h₀:Heap} {Z Zr:H} {s sb:Shared}
theorem Go.touch{d:Addr}{h':Heap}{tk:Nat}(g:Go P G h₀ Z s Zr sb)(S:St P G h₀ Z s.heap)(hd:s.heap.get? d=none)(n:¬bu Zr d)(hs:∀ b x,b≠d→sb.heap.get? b=some x→h'.get? b=some x)(nfz:∀ o,sb.heap.get? d=some o→¬cu o) :
  Go P G h₀ Z s Zr { sb with heap:=h',toks:=tk }:=by
 have hz:h₀.get? d=none:=by
  induction q:h₀.get? d using Option.casesOn with
  |none=>rfl
  |some x=>rw[S.base d x q] at hd;exact sn hd
 refine o2x1 g.eq fun h1 t1 e1=>?_
 exact⟨⟨h',tk,by(refine af e1 ?_;with_reducible rfl)⟩,g.st.touch n hz nfz hs,⟨fun b x e no=>hs b x (fun q=>by subst q;rw[hd] at e;exact ns e) (g.eff.keep b x e no),g.eff.own⟩⟩
end
noncomputable def da(env:PySem.Env):List (Str×NameKind)→List (Str×Addr)→List (Str×Addr)
 |[],acc=>acc
 |(n,k)::rest,acc=>if k == .free then da env rest ((n,(env.cells.lookup n).getD 0)::acc) else da env rest acc
theorem wU(env:PySem.Env)(names:List (Str×NameKind)):∀ (acc:List (Str×Addr)),(∀ x ∈ names,x.2=.free→∃ c,env.cells.lookup x.1=some c)→(∀ x c,acc.lookup x=some c→env.cells.lookup x=some c)→
  (∀ x c,(da env names acc).lookup x=some c→env.cells.lookup x=some c)∧(∀ x,(acc.lookup x).isSome=true∨(∃ y ∈ names,y.1=x∧y.2=.free)→((da env names acc).lookup x).isSome=true):=by
 induction names with
 |nil=>exact fun acc za h=>⟨h,fun x q=>q.elim id fun⟨y,hy,_⟩=>nomatch hy⟩
 |cons nk rest ih=>
  obtain⟨n,k⟩:=nk
  intro acc hf h
  unfold da
  by_cases hk:k=.free
  ·subst hk
   refine aH (hf _ (.head _) rfl) fun c hc=>?_
   refine af (aG (by decide)) ?_
   have hc':env.cells.lookup n=some c:=hc
   refine af hc' ?_
   have:=ih ((n,c)::acc) (fun x hx=>hf x (.tail _ hx)) (fun x c' q=>by
    rw[List.lookup_cons] at q
    induction z:x == n using Bool.casesOn with
    |true=>rw[z] at q;refine br (aP q) ?_;refine af (beq_iff_eq.mp z) ?_;exact hc'
    |false=>rw[z] at q;exact h x c' q)
   refine⟨this.1,fun x q=>this.2 x ?_⟩
   refine af List.lookup_cons ?_
   rcases q with q | ⟨y,hy,e,e2⟩
   ·induction z:x == n using Bool.casesOn with
    |true=>exact .inl rfl
    |false=>exact .inl q
   ·rcases List.mem_cons.mp hy with rfl | hy
    ·left;refine br e ?_;simp
    ·exact .inr ⟨y,hy,e,e2⟩
  ·refine af (aD (by induction k using NameKind.casesOn<;>first | decide | exact absurd rfl hk)) ?_
   have:=ih acc (fun x hx=>hf x (.tail _ hx)) h
   refine⟨this.1,fun x q=>this.2 x ?_⟩
   rcases q with q | ⟨y,hy,e,e2⟩
   ·exact .inl q
   ·rcases List.mem_cons.mp hy with rfl | hy
    ·exact absurd e2 hk
    ·exact .inr ⟨y,hy,e,e2⟩
theorem pk(env:PySem.Env){sc:Scope}(hf:∀ x ∈ sc.names,x.2=.free→∃ c,env.cells.lookup x.1=some c):closureFor sc env=pure (da env sc.names []):=by
 have key:∀ (names:List (Str×NameKind)) (acc:List (Str×Addr)),(∀ x ∈ names,x.2=.free→∃ c,env.cells.lookup x.1=some c)→
   (forIn names acc fun(x:Str×NameKind) (cs:List (Str×Addr))=>(match x with | (name,kind)=>(if(kind == NameKind.free)=true then do let a ← cellOf env name;pure (ForInStep.yield ((name,a)::cs)) else pure (ForInStep.yield cs):Sem (ForInStep (List (Str×Addr))))))=pure (da env names acc):=by
  intro names
  induction names with
  |nil=>intro acc _;rfl
  |cons y rest ih=>
   intro acc hf
   obtain⟨n,k⟩:=y
   rw[List.forIn_cons]
   dsimp only
   unfold da
   by_cases hk:(k == NameKind.free)=true
   ·refine aH (hf (n,k) (.head _) (by induction k using NameKind.casesOn<;>first | rfl | exact ff hk)) fun c hc=>?_
    have hc':env.cells.lookup n=some c:=hc
    (refine af (aG hk) ?_;refine af (aG hk) ?_)
    have e:cellOf env n=pure c:=by delta cellOf;(refine af hc' ?_;with_reducible rfl)
    (refine af e ?_;refine af hc' ?_)
    rw[pure_bind,Option.getD_some]
    exact ih _ fun x hx=>hf x (.tail _ hx)
   ·(refine af (aD hk) ?_;refine af (aD hk) ?_)
    rw[pure_bind]
    exact ih _ fun x hx=>hf x (.tail _ hx)
 delta closureFor
 have:=key sc.names [] hf
 simpa using this
theorem eV{env:PySem.Env}:∀ {names:List (Str×NameKind)} {x:Str} {k:NameKind},names.lookup x=some k→
  (names.map fun(n,k)=>if(k == NameKind.free && env.scope.kind == .function && env.kindOf n == some .cell) then(n,NameKind.cell) else(n,k)).lookup x=some k∨(k=.free∧(names.map fun(n,k)=>if(k == NameKind.free && env.scope.kind == .function && env.kindOf n == some .cell) then(n,NameKind.cell) else(n,k)).lookup x=some .cell)
 |[],_,_,h=>by simp at h
 |(n,k')::r,x,k,h=>by
  have ih:=@eV env r x k
  rw[List.lookup_cons] at h
  refine af List.map_cons ?_
  induction hx:x == n using Bool.casesOn with
  |true=>
   rw[hx] at h
   refine br (aP h) ?_
   dsimp only
   by_cases hc:(k' == NameKind.free && env.scope.kind == .function && env.kindOf n == some .cell)=true
   ·(refine af (aG hc) ?_;refine af List.lookup_cons ?_;refine af hx ?_)
    simp only[Bool.and_eq_true,beq_iff_eq] at hc
    exact .inr ⟨hc.1.1,rfl⟩
   ·(refine af (aD hc) ?_;refine af List.lookup_cons ?_;refine af hx ?_);exact .inl rfl
  |false=>
   rw[hx] at h
   have ih:=ih h
   dsimp only
   by_cases hc:(k' == NameKind.free && env.scope.kind == .function && env.kindOf n == some .cell)=true
   ·(refine af (aG hc) ?_;refine af List.lookup_cons ?_;refine af hx ?_);exact ih
   ·(refine af (aD hc) ?_;refine af List.lookup_cons ?_;refine af hx ?_);exact ih
section
variable {prog:Program} {w:World} {A:Around} {E:Value→Shared→Prop} {R:Result→Shared→Prop} {s:Shared}
theorem rL{elt target iter:Expr}{ifs:List Expr}{scope:Scope}{pos:Pos}{it acc:Value}{env:PySem.Env}(I:Nat→Shared→Prop)
  (turn:∀ n s,I n s→wpAny (model prog w) A (pyNext it) (fun r sa=>match r with
   |none=>R (.ok .next) sa
   |some v=>wpAny (model prog w) A (letOwnedTupleGo target it v) (fun za sa=>wpAny (model prog w) A (assign target env v) (fun za sb=>
     wpAny (model prog w) A (forIn ifs true fun c r=>if r=true then do let ok ← isTrue c env (eval c env);pure (ForInStep.yield ok) else pure (ForInStep.yield r)) (fun ok se=>
      if ok=true then wpAny (model prog w) A (eval elt env) (fun x s4=>
       wpAny (model prog w) A (call (.builtin "list.append") [acc,x]) (fun za s5=>∃ m,m<n∧I m s5) (notedBy (model prog w) A env fun e s'=>R (.error e) s') s4) (notedBy (model prog w) A env fun e s'=>R (.error e) s') se
      else ∃ m,m<n∧I m se) (notedBy (model prog w) A env fun e s'=>R (.error e) s') sb) (notedBy (model prog w) A env fun e s'=>R (.error e) s') sa) (notedBy (model prog w) A env fun e s'=>R (.error e) s') sa) (notedBy (model prog w) A env fun e s'=>R (.error e) s') s)
  (n:Nat) (h:I n s):codeAny (model prog w) A (.compLoop (.ListComp elt [⟨target,iter,ifs,0⟩] scope pos) 0 it acc env) R s:=by
 refine codeAny_loop rfl I (fun n s hI=>?_) n h
 show wpAny _ A ((compTurn (.ListComp elt [⟨target,iter,ifs,0⟩] scope pos) 0 it acc env).onRaise (fun x=>do noteFrame x env;theTreesLotGoes x)) _ _ s
 refine wpAny_noted ?_
 rw[compTurn_list]
 refine wpAny_bind (wpAny_standAt (wpAny_bind (wpAny_mono (turn n s hI) (fun r sa h₁=>?_) fun za za e=>e)))
 induction r using Option.casesOn with
 |none=>exact wpAny_pure h₁
 |some v=>
  refine wpAny_bind (wpAny_mono h₁ (fun za sb h₂=>wpAny_bind (wpAny_mono h₂ (fun za se h₃=>wpAny_bind (wpAny_mono h₃ (fun ok s4 h₄=>?_) fun za za e=>e)) fun za za e=>e)) fun za za e=>e)
  induction ok using Bool.casesOn with
  |false=>exact wpAny_pure ⟨rfl,h₄⟩
  |true=>exact wpAny_bind (wpAny_bind (wpAny_mono h₄ (fun x s5 h₅=>wpAny_bind (wpAny_mono h₅ (fun za s6 h₆=>wpAny_pure (wpAny_pure ⟨rfl,h₆⟩)) fun za za e=>e)) fun za za e=>e))
theorem rn{I:Addr}{i:Nat}{v:Value}{y:V}{Q:Value→Shared→Prop}(it:fJ s.heap I i v y)(h:Q (.ref I) s):wpAny (model prog w) A (pyIter (.ref I)) Q E s:=by
 induction it using fJ.casesOn with
 |list it=>exact wpAny_pyIter_listiter it h
 |tup it=>exact wpAny_pyIter_tupleiter it h
 |rng it=>exact wpAny_pyIter_rangeiter it h
end
section
variable {prog:Program} {w:World} {A:Around} {K:Frag} {G:GT} {h₀:Heap} {C:aN} {env:PySem.Env} {r:Str→cO}
theorem mT:∀ {es:List Expr} {cs:List E} {U:Env} {Z:H} {s:Shared} {Q:Bool→H→Prop} {X:Value→Shared→Prop},d9 prog w G h₀ C A env r es cs→bE G env r U Z s.heap→St w.params G h₀ Z s.heap→lu C cs U Q Z→
  wpAny (model prog w) A (forIn es true fun c r=>if r=true then do let ok ← isTrue c env (eval c env);pure (ForInStep.yield ok) else pure (ForInStep.yield r)) (kF w.params G h₀ Z s Q) X s
 |[],[],U,Z,s,Q,X,_,e,S,h=>by
  dsimp only [lu] at h
  exact wpAny_tests_nil ⟨Z,h,Go.refl S⟩
 |e::es,c::cs,U,Z,s,Q,X,⟨he,_,hr⟩,en,S,h=>by
  (rewrite[lu] at h;rw[du] at h)
  (rewrite[List.forIn_cons];refine af (aG rfl) ?_)
  refine wpAny_bind (wpAny_bind (eG (he.2 U Z s _ X en S h) fun b Zq sa h1 g1=>wpAny_pure ?_))
  induction b using Bool.casesOn with
  |true=>exact io g1 (mT hr (en.go S g1) g1.st (h1.1 rfl))
  |false=>
   have off:∀ (l:List Expr) (s:Shared) (Q:Bool→Shared→Prop),Q false s→wpAny (model prog w) A (forIn l false fun c r=>if r=true then do let ok ← isTrue c env (eval c env);pure (ForInStep.yield ok) else pure (ForInStep.yield r)) Q X s:=by
    intro l
    induction l with
    |nil=>intro s Q h;exact wpAny_pure h
    |cons a l ih=>
     intro s Q h
     (rewrite[List.forIn_cons];refine af (aD Bool.false_ne_true) ?_)
     exact wpAny_bind (wpAny_pure (ih s Q h))
   exact off es sa _ ⟨Zq,h1.2 rfl,g1⟩
 |[],_::_,_,_,_,_,_,h,_,_,_=>h.elim
 |_::_,[],_,_,_,_,_,h,_,_,_=>h.elim
end
theorem nZ(env:PySem.Env):∀ (names:List (Str×NameKind)) (acc:List (Str×Addr)),(∀ x ∈ names,x.2=.free→∃ c,env.cells.lookup x.1=some c)→∀ n b,(n,b) ∈ da env names acc→(n,b) ∈ acc∨env.cells.lookup n=some b
 |[],acc,_,n,b,h=>.inl h
 |(x,k)::rest,acc,hf,n,b,h=>by
  unfold da at h
  by_cases hk:k=.free
  ·subst hk
   obtain⟨c,hc⟩:=hf _ (.head _) rfl
   have hc':env.cells.lookup x=some c:=hc
   (rewrite[aG (by decide)] at h;rw[hc'] at h)
   refine Or.elim (nZ env rest _ (fun x hx=>hf x (.tail _ hx)) n b h) (fun q=>?_) (fun q=>?_)
   ·refine Or.elim (List.mem_cons.mp q) (fun q=>?_) (fun q=>?_)
    ·cases q;exact .inr hc'
    ·exact .inl q
   ·exact .inr q
  ·rw[aD (by induction k using NameKind.casesOn<;>first | decide | exact absurd rfl hk)] at h
   exact nZ env rest acc (fun x hx=>hf x (.tail _ hx)) n b h
theorem yB{α:Type}{names:List (Str×α)}{x:Str}{k:α}(h:names.lookup x=some k):(x,k) ∈ names:=mem_of_lookup h
structure lq (env:PySem.Env) (sc:Scope) (r:Str→cO):Prop where
 kind:sc.kind=.function
 nocell:∀ x ∈ sc.names,x.2≠.cell
 once:∀ x ∈ sc.names,x.2=.local→sc.names.lookup x.1=some .local
 free:∀ x ∈ sc.names,x.2=.free→env.kindOf x.1=some .cell∧∃ c,env.cells.lookup x.1=some c
 low:∀ x j,r x=.loc j→j<100
section
variable {G:GT} {env:PySem.Env} {sc:Scope} {r:Str→cO} {U U':Env} {Z:H} {h:Heap} {Cc:Addr} {m':Str→Option Value}
theorem j7(B:lq env sc r)(e:bE G env r U Z h)(hn:h.Ns Cc m')(ho:¬bu Z Cc)
  (hl:∀ j v,j<100→U' j=some v→U j=some v) (hm:∀ y j v,sc.names.lookup y=some .local→cP (aX sc) r y=.loc j→U' j=some v→∃ val,m' y=some val∧bg G h val v) :
  bE G (compEnvC sc (da env sc.names []) Cc env) (cP (aX sc) r) U' Z h:=by
 refine o2x1 e fun m cm a=>?_;clear e
 have hcl:=wU env sc.names [] (fun x hx hf=>(B.free x hx hf).2) (fun x c q=>by simp at q)
 refine⟨m',cm,B.kind,a.glb,hn,fun x c hc=>a.cell x c (hcl.1 x c hc),fun b f=>?_,fun x i v h1 h2=>?_,fun x v hx=>?_⟩
 ·rcases f with f | ⟨n,f⟩
  ·refine cN fun PP kk=>?_
   have:b=Cc:=f
   subst this
   refine o3x3 hn fun o es ep e1 e2 za=>?_;clear hn
   refine kk ?_
   refine⟨o,e1,fun z=>?_,ho⟩
   rcases z with⟨_,vs,k,z⟩ | ⟨_,vs,z⟩<;>rw[e2] at z<;>cases z
  ·exact a.own b (.inr ⟨n,hcl.1 n b f⟩)
 ·rcases eU h1 with q | ⟨_,q⟩ | ⟨j,hk,q,_⟩ | ⟨hk,q⟩
  ·cases q
  ·unfold ie at q;split at q<;>cases q
  ·refine o1x2 (hm x i v hk h1 h2) fun val e1 e2=>?_
   refine⟨val,e2,.inl ⟨?_,e1⟩⟩
   exact lookup_relabel_local hk
  ·refine cN fun PP kk=>?_
   have hlow:=B.low x i q.symm
   obtain⟨hc,c,hlc⟩:=B.free _ (yB hk) rfl
   refine o1x2 (a.loc x i v q.symm (hl i v hlow h2)) fun val rv z=>?_
   refine kk ?_
   refine⟨val,rv,.inr ⟨?_,?_⟩⟩
   ·rcases eV (env:=env) hk with w | ⟨_,w⟩
    ·exact .inr w
    ·exact .inl w
   ·rcases z with⟨z,_⟩ | ⟨_,z,_⟩
    ·rw[hc] at z;cases z
    ·exact⟨z,Option.isSome_iff_exists.mp (hcl.2 x (.inr ⟨_,yB hk,rfl,rfl⟩))⟩
 ·rcases eU hx with q | ⟨hk,q⟩ | ⟨j,_,q,_⟩ | ⟨hk,q⟩
  ·cases q
  ·refine⟨?_,q.symm⟩
   rcases eV (env:=env) hk with w | ⟨w,_⟩
   ·exact w
   ·cases w
  ·cases q
  ·obtain⟨hc,c,hlc⟩:=B.free _ (yB hk) rfl
   refine o0x2 (a.gl x v q.symm) fun k za=>?_
   rw[hc] at k;cases k
end
noncomputable def yx(f:Str→Bool):Expr→Bool
 |.Name x _=>f x
 |_=>false
theorem qh{f:Str→Bool}{e:Expr}(h:yx f e=true):∃ x p,e=.Name x p∧f x=true:=by
 revert h
 induction e using Expr.casesOn with
 |Name x p=>exact fun h=>⟨x,p,rfl,h⟩
 |_=>exact ff
noncomputable def two(f:Expr→Bool):List Expr→Bool
 |[a,b]=>f a && f b
 |_=>false
theorem mR{f:Str→Bool}{l:List Expr}(h:two (yx f) l=true):∃ x p y q,l=[.Name x p,.Name y q]∧f x=true∧f y=true:=by
 match l,h with
 |[a,b],h=>
  have h:=dg (a:=yx f a) (b:=yx f b) h
  refine o2x2 (qh h.1) fun x p e2 hx=>?_;refine af e2 ?_
  refine o2x2 (qh h.2) fun y q e2 hy=>?_;refine af e2 ?_
  exact⟨x,p,y,q,rfl,hx,hy⟩
 |[],h=>exact ff h
 |[_],h=>exact ff h
 |_::_::_::_,h=>exact ff h
noncomputable def nt(sc:Scope):Expr→Bool
 |.Tuple l _ _=>two (yx fun x=>sc.names.lookup x == some .local && fX x != 0) l
 |e=>yx (fun x=>sc.names.lookup x == some .local && fX x != 0) e
inductive xf (sc:Scope):Expr→Prop
 |name (x:Str) (p:Pos):sc.names.lookup x=some .local→xf sc (.Name x p)
 |two (x:Str) (p:Pos) (y:Str) (q:Pos) (k:Nat) (pp:Pos):sc.names.lookup x=some .local→sc.names.lookup y=some .local→xf sc (.Tuple [.Name x p,.Name y q] k pp)
theorem s0{sc:Scope}{t:Expr}(h:nt sc t=true):xf sc t:=by
 revert h
 induction t using Expr.casesOn with
 |Name x p=>exact fun h=>.name x p (eq_of_beq (dg (a:=sc.names.lookup x == some .local) h).1)
 |Tuple l k pp=>
  intro h
  refine o4x2 (mR (f:=fun x=>sc.names.lookup x == some .local && fX x != 0) h) fun x p y q e4 q9=>?_;refine af e4 ?_;refine o0x2 q9 fun hx hy=>?_;clear q9
  exact .two _ _ _ _ _ _ (eq_of_beq (dg hx).1) (eq_of_beq (dg hy).1)
 |_=>exact ff
section
variable {prog:Program} {w:World} {A:Around} {K:Frag} {G:GT} {h₀:Heap} {C:aN} {env:PySem.Env} {r:Str→cO} {sc:Scope}
theorem iE{sc:Scope}{r:Str→cO}{x y:Str}{i:Nat}(hx:sc.names.lookup x=some .local)(hy:sc.names.lookup y=some .local)(ex:cP (aX sc) r x=.loc i)(ey:cP (aX sc) r y=.loc i):x=y:=by
 rcases eU ex with q | ⟨h,_⟩ | ⟨j,_,q,p,hp,hpx⟩ | ⟨h,_⟩
 ·cases q
 ·rw[hx] at h;cases h
 ·rcases eU ey with q' | ⟨h,_⟩ | ⟨j',_,q',p',hp',hpy⟩ | ⟨h,_⟩
  ·cases q'
  ·rw[hy] at h;cases h
  ·have:j=j':=by
    have e1:i=100+j:=cO.loc.inj q
    have e2:i=100+j':=cO.loc.inj q'
    lia
   subst this
   rw[hp] at hp';obtain rfl:=aP hp'
   (refine br hpx ?_;(refine br hpy ?_;with_reducible rfl))
  ·rw[hy] at h;cases h
 ·rw[hx] at h;cases h
theorem eZ{sc:Scope}{r:Str→cO}{x:Str}{i:Nat}(hx:sc.names.lookup x=some .local)(ex:cP (aX sc) r x=.loc i):100≤i:=by
 rcases eU ex with q | ⟨h,_⟩ | ⟨j,_,q,_⟩ | ⟨h,_⟩
 ·cases q
 ·rw[hx] at h;cases h
 ·have:=cO.loc.inj q;lia
 ·rw[hx] at h;cases h
theorem gA{U:Env}{j:Nat}{v:V}(h:U.outer j=some v):j<100∧U j=some v:=by
 unfold Env.outer at h
 split at h
 ·exact⟨by assumption,h⟩
 ·exact ns h
theorem uj{r:Str→cO}{n:Str}{p:Pos}(h:∀ i,r n≠.loc i):jt r (.Name n p)=[]:=by
 show(match r n with | .loc i=>[i] | _=>[])=_
 induction e:r n using cO.casesOn with
 |loc i=>exact absurd e (h i)
 |_=>rfl
theorem mz{r:Str→cO}{n:Str}{p:Pos}{i:Nat}(h:r n=.loc i):jt r (.Name n p)=[i]:=by
 show(match r n with | .loc i=>[i] | _=>[])=_
 (refine af h ?_;with_reducible rfl)
theorem my{r:Str→cO}{n m:Str}{p q pp:Pos}{k i j:Nat}(h:r n=.loc i)(h':r m=.loc j):jt r (.Tuple [.Name n p,.Name m q] k pp)=[i,j]:=by
 show(match r n,r m with | .loc i,.loc j=>[i,j] | _,_=>[])=_
 (refine af h ?_;(refine af h' ?_;with_reducible rfl))
theorem ke{r:Str→cO}{n m:Str}{p q pp:Pos}{k:Nat}(h:∀ i j,r n=.loc i→r m=.loc j→False):jt r (.Tuple [.Name n p,.Name m q] k pp)=[]:=by
 show(match r n,r m with | .loc i,.loc j=>[i,j] | _,_=>[])=_
 induction e:r n using cO.casesOn with
 |loc i=>cases e':r m with
  |loc j=>exact(h i j e e').elim
  |_=>rfl
 |_=>rfl
theorem jp(o:cO):(∃ i,o=.loc i)∨∀ i,o≠.loc i:=by
 induction o using cO.casesOn with
 |loc i=>exact .inl ⟨i,rfl⟩
 |_=>exact .inr fun i h=>nomatch h
theorem pW(o u:cO):(∃ i j,o=.loc i∧u=.loc j)∨∀ i j,o=.loc i→u=.loc j→False:=by
 rcases jp o with⟨i,h⟩ | h
 ·rcases jp u with⟨j,k⟩ | k
  ·exact .inl ⟨i,j,h,k⟩
  ·exact .inr fun za j za e=>k j e
 ·exact .inr fun i za e za=>h i e
theorem lc{i j:Nat}{x:V}{U U':Env}(h:cL [i,j] x U=some U'):∃ a b,x=.tup [a,b]∧U'=(U.set i a).set j b:=by
 revert h
 induction x using V.casesOn with
 |tup l=>induction l using List.casesOn with
  |nil=>exact ns
  |cons a l=>induction l using List.casesOn with
   |nil=>exact ns
   |cons b l=>induction l using List.casesOn with
    |nil=>exact fun h=>⟨a,b,rfl,(aP h).symm⟩
    |cons=>exact ns
 |_=>exact ns
theorem lb{r:Str→cO}{n:Str}{p:Pos}{x:V}{U U':Env}(h:cL (jt r (.Name n p)) x U=some U'):∃ i,r n=.loc i∧U'=U.set i x:=by
 rcases jp (r n) with⟨i,e⟩ | e
 ·rw[mz e] at h;refine br (aP h) ?_;exact⟨i,e,rfl⟩
 ·rw[uj e] at h;exact ns h
theorem n9{r:Str→cO}{n n2:Str}{p p2 pp:Pos}{kk:Nat}{x:V}{U U':Env}(h:cL (jt r (.Tuple [.Name n p,.Name n2 p2] kk pp)) x U=some U'):∃ i j a b,r n=.loc i∧r n2=.loc j∧x=.tup [a,b]∧U'=(U.set i a).set j b:=by
 rcases pW (r n) (r n2) with⟨i,j,e,e'⟩ | e
 ·rw[my e e'] at h
  refine o2x1 (lc h) fun a b q=>?_
  exact⟨i,j,a,b,e,e',q⟩
 ·rw[ke e] at h;exact ns h
theorem oi(hh:A.handled=none){t:Expr}{Cc:Addr}{m:Str→Option Value}{U U':Env}{Z:H}{s:Shared}{v:Value}{x:V}{X:Value→Shared→Prop}{Q:Unit→Shared→Prop}(B:lq env sc r)(ht:nt sc t=true)(e:bE G env r U Z s.heap)(S:St w.params G h₀ Z s.heap)
  (hn:s.heap.Ns Cc m) (ho:¬bu Z Cc) (hcf:∀ b,Fr env b→b≠Cc) (rv:bg G s.heap v x) (hb:cL (jt (cP (aX sc) r) t) x U.outer=some U')
  (h:∀ h' tk,(∀ b o,b≠Cc→s.heap.get? b=some o→h'.get? b=some o)→(∃ m',h'.Ns Cc m')→bE G (compEnvC sc (da env sc.names []) Cc env) (cP (aX sc) r) U' Z h'→Q () { s with heap:=h',toks:=tk }) :
  wpAny (model prog w) A (assign t (compEnvC sc (da env sc.names []) Cc env) v) Q X s:=by
 have hnk:((compEnvC sc (da env sc.names []) Cc env).scope.kind == .class || ((compEnvC sc (da env sc.names []) Cc env).scope.kind == .module && (compEnvC sc (da env sc.names []) Cc env).locals != (compEnvC sc (da env sc.names []) Cc env).globals))=false:=by
  have:(compEnvC sc (da env sc.names []) Cc env).scope.kind=.function:=B.kind
  refine af this ?_;rfl
 have outer:∀ h',(∀ b o,b≠Cc→s.heap.get? b=some o→h'.get? b=some o)→bE G env r U Z h'∧b7 s.heap h':=fun h' k=>by
  have st:b7 s.heap h':=fun b o eb c=>k b o (fun q=>by
   subst q
   refine o3x3 hn fun o' es ep e1 e2 za=>?_;clear hn
   rw[e1] at eb;obtain rfl:=aP eb
   rcases c with⟨_,vs,kk,z⟩ | ⟨_,vs,z⟩<;>rw[e2] at z<;>cases z) eb
  refine o2x1 e fun m cm a=>?_;clear e
  refine⟨⟨m,cm,a.kind,a.glb,a.ns.at' fun o eo=>k _ o (hcf _ (.inl rfl)) eo,fun x c hc=>?_,fun b f=>?_,fun x i v h1 h2=>?_,a.gl⟩,st⟩
  ·refine o1x2 (a.cell x c hc) fun o e1 e2=>?_
   exact⟨o,k _ _ (hcf _ (.inr ⟨x,hc⟩)) e1,e2⟩
  ·refine cN fun PP kk=>?_
   refine o1x3 (a.own b f) fun o e1 e2 e3=>?_
   refine kk ?_
   exact⟨o,k _ _ (hcf b f) e1,e2,e3⟩
  ·refine o1x2 (a.loc x i v h1 h2) fun val r1 r2=>?_
   exact⟨val,r1.stays st,r2⟩
 induction s0 ht using xf.casesOn with
 |name n p hnl=>
  refine o1x2 (lb hb) fun i hi e2=>?_;obtain rfl:=e2
  refine wpAny_assign_Name (wpAny_storeName_local (lookup_relabel_local hnl) hn (fun h' hn' hs=>?_) hnk)
  have k:∀ b o,b≠Cc→s.heap.get? b=some o→h'.get? b=some o:=fun b o hb eo=>hs.extBut b o hb eo
  refine o0x2 (outer h' k) fun e' st=>?_
  refine h h' _ k ⟨_,hn'⟩ (j7 B e' hn' ho ?_ ?_)
  ·intro j u hj hu
   have:=eZ hnl hi
   unfold Env.set at hu
   rw[aD (by lia)] at hu
   exact(gA hu).2
  ·intro y j u hy ey hu
   unfold Env.set at hu
   by_cases q:j=i
   ·subst q
    have:n=y:=iE hnl hy hi ey
    refine af this ?_
    rw[aG rfl] at hu;refine br (aP hu) ?_
    exact⟨v,by simp,rv.stays st⟩
   ·rw[aD q] at hu
    have:=eZ hy ey
    have:=(gA hu).1
    lia
 |two n p n2 p2 kk pp hn1 hn2=>
  refine o4x4 (n9 hb) fun i j a b hi hj e6 q9=>?_;obtain rfl:=e6;obtain rfl:=q9
  refine o3x2 rv.tup_inv fun ta us nn e3 q9=>?_;refine af e3 ?_;refine o0x3 q9 fun e1 r1 z=>?_;clear q9
  obtain⟨us⟩:=us
  have r1':bw G s.heap us [a,b]:=r1
  refine o2x2 (g9 r1') fun va vb e2 q9=>?_;obtain rfl:=e2;refine o0x2 q9 fun ra rb=>?_;clear q9
  refine wpAny_assign_Tuple hh ⟨_,e1,rfl,nn,rfl⟩ rfl rfl fun h1 hx1=>?_
  show wpAny _ _ (do holding [vb] (assign (.Name n p) _ va);(do holding [] (assign (.Name n2 p2) _ vb);pure ())) _ _ _
  have k1:∀ b o,s.heap.get? b=some o→h1.get? b=some o:=fun b o eo=>hx1 b o (Nat.ne_of_lt (Heap.lt_size eo)) eo
  refine wpAny_bind (wpAny_holding (wpAny_assign_Name (wpAny_storeName_local (lookup_relabel_local hn1) (hn.keeps k1) (fun h2 hn2' hs2=>?_) hnk)))
  refine wpAny_bind (wpAny_holding (wpAny_assign_Name (wpAny_storeName_local (lookup_relabel_local hn2) hn2' (fun h3 hn3 hs3=>wpAny_pure ?_) hnk)))
  have k:∀ b o,b≠Cc→s.heap.get? b=some o→h3.get? b=some o:=fun b o hb eo=>hs3.extBut b o hb (hs2.extBut b o hb (k1 b o eo))
  refine o0x2 (outer h3 k) fun e' st=>?_
  refine h h3 _ k ⟨_,hn3⟩ (j7 B e' hn3 ho ?_ ?_)
  ·intro q u hq hu
   have h1:=eZ hn1 hi
   have h2:=eZ hn2 hj
   unfold Env.set at hu
   (rewrite[aD (by lia)] at hu;rw[aD (by lia)] at hu)
   exact(gA hu).2
  ·intro y q u hy ey hu
   unfold Env.set at hu
   by_cases c2:q=j
   ·subst c2
    have:n2=y:=iE hn2 hy hj ey
    refine af this ?_
    rw[aG rfl] at hu;refine br (aP hu) ?_
    exact⟨vb,by simp,rb.stays st⟩
   ·rw[aD c2] at hu
    by_cases c1:q=i
    ·subst c1
     have:n=y:=iE hn1 hy hi ey
     refine br this ?_
     rw[aG rfl] at hu;obtain rfl:=aP hu
     have:n≠n2:=fun z=>c2 (by
      subst z
      rw[hi] at hj;exact cO.loc.inj hj)
     exact⟨va,by refine ak (aD this) ?_;simp,ra.stays st⟩
    ·rw[aD c1] at hu
     have:=eZ hy ey
     have:=(gA hu).1
     lia
end
structure CJ (P:Params) (G:GT) (h₀:Heap) (Z:H) (s:Shared) (I D Cc:Addr) (iv:Value) (y:V) (xs:List V) (k:Nat) (acc:List V) (Z':H) (s':Shared):Prop where
 go:Go P G h₀ Z s Z' s'
 it:fJ s'.heap I k iv y
 rv:bg G s'.heap iv y
 live:bp Z' y=some xs
 list:∃ kE nn,s'.heap.get? D=some { cls:=.type "list",data:=.seq kE nn }∧bw G s'.heap kE.toList acc
 ns:∃ m,s'.heap.Ns Cc m
 nI:¬bu Z' I
 nD:¬bu Z' D
 nC:¬bu Z' Cc
 len:acc.length≤k
section
variable {P:Params} {G:GT} {h₀:Heap} {Z:H} {s:Shared} {I D Cc:Addr} {iv:Value} {y:V} {xs:List V} {k:Nat} {acc:List V} {Z' Z'':H} {s' s'':Shared}
theorem CJ.step(J:CJ P G h₀ Z s I D Cc iv y xs k acc Z' s')(g:Go P G h₀ Z' s' Z'' s'')(l:bp Z'' y=some xs):CJ P G h₀ Z s I D Cc iv y xs k acc Z'' s'':=by
 refine o1x2 J.it.obj fun oI hI za=>?_
 refine o2x2 J.list fun kE nn hD rl=>?_
 refine o4x2 J.ns fun m oC es ep hC hr=>?_
 exact⟨J.go.trans g,J.it.same fun o eo=>g.eff.keep _ _ eo J.nI,g.rep J.go.st J.rv,l,⟨kE,nn,g.eff.keep _ _ hD J.nD,rl.stays (g.stays J.go.st)⟩,⟨m,oC,es,ep,g.eff.keep _ _ hC J.nC,hr⟩,
  g.eff.notOwned hI J.nI,g.eff.notOwned hD J.nD,g.eff.notOwned hC J.nC,J.len⟩
theorem ja{h:Heap}{a:Addr}{m:Str→Option Value}(hn:h.Ns a m):∀ o,h.get? a=some o→¬cu o:=fun o eo z=>by
 refine o3x3 hn fun o' es ep e1 e2 za=>?_;clear hn
 rw[e1] at eo;obtain rfl:=aP eo
 rcases z with⟨_,vs,kk,z⟩ | ⟨_,vs,z⟩<;>rw[e2] at z<;>cases z
end
section
variable {prog:Program} {w:World} {A:Around} {K:Frag} {G:GT} {h₀:Heap} {C:aN} {env:PySem.Env} {r:Str→cO} {sc:Scope}
theorem rM{elt t iter:Expr}{ifs:List Expr}{ce:E}{cifs:List E}{pos:Pos}{U:Env}{Z:H}{s:Shared}{I D Cc:Addr}{iv:Value}{y:V}{xs:List V}{Kp:List V→H→Prop}{R:Result→Shared→Prop}
  (hh:A.handled=none) (B:lq env sc r) (ht:nt sc t=true) (S:St w.params G h₀ Z s.heap) (en:bE G env r U Z s.heap)
  (he:dX prog w G h₀ C A (compEnvC sc (da env sc.names []) Cc env) (cP (aX sc) r) elt ce) (hi:d9 prog w G h₀ C A (compEnvC sc (da env sc.names []) Cc env) (cP (aX sc) r) ifs cifs)
  (hI:s.heap.get? I=none) (hD:s.heap.get? D=none) (hC:s.heap.get? Cc=none) (hID:I≠D) (hIC:I≠Cc) (hDC:D≠Cc) (hz:xs.length≤bL)
  (fin:∀ out Z' s',CJ w.params G h₀ Z s I D Cc iv y xs xs.length out Z' s'→Kp out Z'→∀ h',Heap.ExtBut I s'.heap h'→R (.ok .next) { s' with heap:=h' })
  (k:Nat) (acc:List V) (Zq:H) (sa:Shared) (J:CJ w.params G h₀ Z s I D Cc iv y xs k acc Zq sa) (hk:k≤xs.length)
  (h:ik (fun Z'=>bp Z' y=some xs) (fun x=>cL (jt (cP (aX sc) r) t) x U.outer) (fun U' K Z'=>lu C cifs U' K Z') (fun U' K Z'=>dd C ce U' K Z') (xs.drop k) acc Kp Zq) :
  codeAny (model prog w) A (.compLoop (.ListComp elt [⟨t,iter,ifs,0⟩] sc pos) 0 (.ref I) (.ref D) (compEnvC sc (da env sc.names []) Cc env)) R sa:=by
 have hfr:∀ b,Fr env b→b≠Cc:=fun b f q=>by
  refine o2x1 en fun m cm a=>?_;clear en
  refine o1x2 (a.own b f) fun o ho za=>?_
  (rewrite[q] at ho;rw[hC] at ho);exact ns ho
 refine rL (fun n s'=>∃ k acc Z',n=xs.length+1 - k∧k≤xs.length∧CJ w.params G h₀ Z s I D Cc iv y xs k acc Z' s'∧
  ik (fun Z'=>bp Z' y=some xs) (fun x=>cL (jt (cP (aX sc) r) t) x U.outer) (fun U' K Z'=>lu C cifs U' K Z') (fun U' K Z'=>dd C ce U' K Z') (xs.drop k) acc Kp Z') ?_ _ ⟨k,acc,Zq,rfl,hk,J,h⟩
 clear h J hk sa Zq acc k
 intro n s' p0;refine o3x2 p0 fun k acc Z' e3 q9=>?_;clear p0;refine af e3 ?_;refine o0x3 q9 fun hk J h=>?_;clear q9
 rcases Nat.lt_or_ge k xs.length with hlt | hge
 ·have hx:xs[k]? = some xs[k]:=List.getElem?_eq_getElem hlt
  (rewrite[List.drop_eq_getElem_cons hlt] at h;rw[ik] at h)
  refine o1x2 h fun U' hb h=>?_
  refine kQ J.go.st J.rv J.live J.it hx fun u h1 tk1 ru it1 hs1=>?_
  refine o1x3 J.it.obj fun oI hoI nfI za=>?_
  have g1:Go w.params G h₀ Z s Z' { s' with heap:=h1,toks:=tk1 }:=J.go.touch S hI J.nI (fun b x hb hx=>hs1.extBut b x hb hx) (fun o eo=>by rw[hoI] at eo;refine br (aP eo) ?_;exact nfI)
  have st1:b7 s'.heap h1:=fun b o eo c=>hs1.extBut b o (fun q=>by subst q;rw[hoI] at eo;obtain rfl:=aP eo;exact nfI c) eo
  refine o2x2 J.list fun kE nn hDo rl=>?_
  refine aH J.ns fun mC hCn=>?_
  refine jb (s:={ s' with heap:=h1,toks:=tk1 }) it1 ?_
  have hCn1:h1.Ns Cc mC:=hCn.at' fun o eo=>hs1.extBut _ _ (Ne.symm hIC) eo
  have en1:bE G env r U Z' h1:=bE.go (s':={ s' with heap:=h1,toks:=tk1 }) en S g1
  refine oi (s:={ s' with heap:=h1,toks:=tk1 }) hh B ht en1 g1.st hCn1 J.nC hfr (ru.stays st1) hb fun h2 tk2 k2 hns2 en2=>?_
  have g2:Go w.params G h₀ Z s Z' { s' with heap:=h2,toks:=tk2 }:=g1.touch S hC J.nC (fun b x hb hx=>k2 b x hb hx) (ja hCn1)
  have st2:b7 h1 h2:=fun b o eo c=>k2 b o (fun q=>by subst q;exact ja hCn1 o eo c) eo
  have J2:CJ w.params G h₀ Z s I D Cc iv y xs (k+1) acc Z' { s' with heap:=h2,toks:=tk2 }:=
   ⟨g2,it1.same fun o eo=>k2 _ _ hIC eo,(J.rv.stays st1).stays st2,J.live,⟨kE,nn,k2 _ _ hDC (hs1.extBut _ _ (Ne.symm hID) hDo),(rl.stays st1).stays st2⟩,hns2,J.nI,J.nD,J.nC,by have:=J.len;lia⟩
  refine eG (mT hi en2 g2.st h) fun ok Za se h3 g3=>?_
  induction ok using Bool.casesOn with
  |false=>
   refine af (aD Bool.false_ne_true) ?_
   refine o0x2 (h3.2 rfl) fun hl h3=>?_
   exact⟨_,by lia,k+1,acc,Za,rfl,hlt,J2.step g3 hl,h3⟩
  |true=>
   refine af (aG rfl) ?_
   have h3:=h3.1 rfl
   refine a9 (α:=Unit) (he U' Za se _ _ (en2.go g2.st g3) g3.st h3) fun x4 v4 Zb s4 h4 rv4 g4=>?_
   refine o0x2 h4 fun hl h4=>?_
   have J4:=J2.step (g3.trans g4) hl
   refine o2x2 J4.list fun arr4 nn4 hD4 rl4=>?_
   have l4:=rl4.length
   have hsz:arr4.size≤sizeLine:=by
    have:=J4.len
    unfold bL at hz
    refine af sizeLine_eq ?_
    simp at l4
    lia
   refine call_meets slot_list_append ⟨_,hD4,rfl⟩ entry_list_append (args_list_append _ _) (list_append D arr4 nn4 v4 hsz) ⟨hD4,?_⟩
   have hD5:Heap.get? (s4.heap.update D (Obj.mapSeq fun x=>x.push v4)) D=some { cls:=.type "list",data:=.seq (arr4.push v4) (if(arr4.push v4).size == arr4.size then nn4 else nn4+1) }:=Heap.get?_update_self _ hD4 rfl
   have k5:∀ b x,b≠D→s4.heap.get? b=some x→(s4.heap.update D (Obj.mapSeq fun x=>x.push v4)).get? b=some x:=fun b x hb hx=>(Heap.SameBut.update ..).extBut b x hb hx
   have nf5:∀ o,s4.heap.get? D=some o→¬cu o:=fun o eo=>by rw[hD4] at eo;refine br (aP eo) ?_;exact nf (by simp) (by simp)
   have st5:b7 s4.heap (s4.heap.update D (Obj.mapSeq fun x=>x.push v4)):=fun b o eo c=>k5 b o (fun q=>by subst q;exact nf5 o eo c) eo
   have g5:Go w.params G h₀ Z s Zb { s4 with heap:=s4.heap.update D (Obj.mapSeq fun x=>x.push v4),toks:=s4.toks }:=J4.go.touch S hD J4.nD k5 nf5
   refine aH J4.ns fun m4 hC4=>?_
   refine⟨_,by lia,k+1,acc++[x4],Zb,rfl,hlt,⟨g5,J4.it.same fun o eo=>k5 _ _ hID eo,J4.rv.stays st5,hl,⟨_,_,hD5,by refine af Array.toList_push ?_;exact(rl4.append (.cons rv4 .nil)).stays st5⟩,
    ⟨m4,hC4.at' fun o eo=>k5 _ _ (Ne.symm hDC) eo⟩,J4.nI,J4.nD,J4.nC,by refine af List.length_append ?_;have:=J.len;simp;lia⟩,h4⟩
 ·have:k=xs.length:=Nat.le_antisymm hk hge
  subst this
  (rewrite[List.drop_length] at h;rw[ik] at h)
  exact nG hh J.go.st J.rv J.live J.it (Nat.le_refl _) fun h' hs=>fin acc Z' s' J h h' hs
theorem kW{env:PySem.Env}{it:Expr}(h:dE it=true)(x:Value):foldedSetIterable it env x=pure x:=by
 revert h
 induction it using Expr.casesOn with
 |Set=>exact ff
 |_=>exact fun _z=>rfl
set_option tactic.hygienic true in
theorem kZ{elt t iter:Expr}{ifs:List Expr}{ce cit:E}{cifs:List E}{pos p2:Pos}{use:Option (Value→Sem Unit)}{U:Env}{Z:H}{s:Shared}{Q:aO}{R:Value→Shared→Prop}{X:Value→Shared→Prop}
  (hh:A.handled=none) (B:lq env sc r) (ht:nt sc t=true) (S:St w.params G h₀ Z s.heap) (en:bE G env r U Z s.heap) (hset:dE iter=true)
  (hit:dX prog w G h₀ C A env r iter cit) (he:∀ Cc,dX prog w G h₀ C A (compEnvC sc (da env sc.names []) Cc env) (cP (aX sc) r) elt ce) (hi:∀ Cc,d9 prog w G h₀ C A (compEnvC sc (da env sc.names []) Cc env) (cP (aX sc) r) ifs cifs)
  (h:dd C (.comp ce (jt (cP (aX sc) r) t) cit cifs) U Q Z)
  (fin:∀ Zq sa D Cc Z' s' m,Go w.params G h₀ Z s Zq sa→Go w.params G h₀ Zq sa Z' s'→Q (.ref D) Z'→s'.heap.Ns Cc m→sa.heap.get? Cc=none→¬bu Z' Cc→compPost (model prog w) A X use R (.ref D) Cc (.ok .next) s') :
  wpAny (model prog w) A (comprehension (.ListComp elt [⟨t,iter,ifs,0⟩] sc pos) sc env p2 (newList []) false (eval iter env) use) R X s:=by
 have hfs:∀ x,foldedSetIterable iter env x=pure x:=kW hset
 refine wpAny_comprehension_free (g:=⟨t,iter,ifs,0⟩) (gs:=[]) rfl hfs (pk env fun x hx hf=>(B.free x hx hf).2) B.kind B.once ?_
 refine a9 (α:=Unit) (hit U Z s _ X en S h) fun y iv Zq sa h1 rv g1=>?_
 obtain⟨xs,hxs,hro,h1⟩:=h1
 have S1:=g1.st
 refine nB S1 rv hxs fun oI hoI it0=>?_
 refine wpAny_newObj_type (wpAny_newFunctionEnv B.nocell (by intro y hy;simp at hy) (fun h₁ hns1 hsb1=>?_) B.kind)
 generalize hH1:sa.heap.push oI=H1 at hns1 hsb1 it0 ⊢
 have hH1':({ sa with heap:=H1 }:Shared).heap.push { cls:=.type "list",dict:=none,data:=.seq ([]:List Value).toArray }=H1.push { cls:=.type "list",dict:=none,data:=.seq #[] }:=rfl
 have k1:∀ b o,sa.heap.get? b=some o→H1.get? b=some o:=fun b o e=>hH1▸Heap.get?_push_of_some _ e
 have z1:H1.objs.size=sa.heap.objs.size+1:=by(refine br hH1 ?_;rw[Heap.size_push])
 have z2:(H1.push { cls:=.type "list",dict:=none,data:=.seq #[] }).objs.size=sa.heap.objs.size+2:=by(rewrite[Heap.size_push];(refine af z1 ?_;with_reducible rfl))
 have e1:∀ n,sa.heap.get? (sa.heap.objs.size+n)=none:=fun n=>Heap.get?_none_of_le (Nat.le_add_right _ _)
 have hCa:(H1.push { cls:=.type "list",dict:=none,data:=.seq #[] }).objs.size=sa.heap.objs.size+2:=z2
 have hDa:H1.objs.size=sa.heap.objs.size+1:=z1
 have hz:xs.length≤bL:=by
  unfold bp at hxs
  split at hxs
  ·refine br (aP hxs) ?_;obtain⟨_,_,_,_,_,_,z⟩:=rv.tup_inv;exact z
  ·rename_i n
   refine br (aP hxs) ?_
   have hn:n≤1000:=hro
   (rewrite[List.length_map];refine af List.length_range ?_);unfold bL;lia
  ·split at hxs
   ·rename_i hZ
    refine br (aP hxs) ?_
    refine o2x3 (S1.obj _ _ hZ) fun za za za za z=>?_
    exact z
   ·exact ns hxs
  ·exact ns hxs
 have up:∀ b o,b<sa.heap.objs.size+2→(H1.push { cls:=.type "list",dict:=none,data:=.seq #[] }).get? b=some o→h₁.get? b=some o:=fun b o hb e=>hsb1.extBut b o (by refine af hCa ?_;exact Nat.ne_of_lt hb) (Heap.get?_push_of_some _ e)
 have k2:∀ b o,sa.heap.get? b=some o→h₁.get? b=some o:=fun b o e=>up b o (Nat.lt_of_lt_of_le (Heap.lt_size e) (Nat.le_add_right _ _)) (Heap.get?_push_of_some _ (k1 b o e))
 have g2:Go w.params G h₀ Zq sa Zq { sa with heap:=h₁,toks:=sa.toks+([]:List (Str×Value)).length }:=Go.ext S1 k2
 have nI:¬bu Zq sa.heap.objs.size:=S1.fresh (e1 0)
 have nD:¬bu Zq (sa.heap.objs.size+1):=S1.fresh (e1 1)
 have nC:¬bu Zq (sa.heap.objs.size+2):=S1.fresh (e1 2)
 have J0:CJ w.params G h₀ Zq sa sa.heap.objs.size (sa.heap.objs.size+1) (sa.heap.objs.size+2) iv y xs 0 [] Zq { sa with heap:=h₁,toks:=sa.toks+([]:List (Str×Value)).length }:=
  ⟨g2,it0.same fun o eo=>up _ _ (by lia) (Heap.get?_push_of_some _ eo),g2.rep S1 rv,hxs,⟨#[],0,up _ _ (by lia) (by refine br hDa ?_;exact Heap.get?_push_size _ rfl),.nil⟩,⟨_,by refine br hCa ?_;exact hns1⟩,nI,nD,nC,Nat.zero_le _⟩
 have d01:(sa.heap.objs.size:Nat)≠sa.heap.objs.size+1:=by lia
 have d02:(sa.heap.objs.size:Nat)≠sa.heap.objs.size+2:=by lia
 have d12:(sa.heap.objs.size+1:Nat)≠sa.heap.objs.size+2:=by lia
 have d13:(sa.heap.objs.size+2+1:Nat)≠sa.heap.objs.size+1:=by lia
 have loop:codeAny (model prog w) A (.compLoop (.ListComp elt [⟨t,iter,ifs,0⟩] sc pos) 0 (.ref sa.heap.objs.size) (.ref (sa.heap.objs.size+1)) (compEnvC sc (da env sc.names []) (sa.heap.objs.size+2) env))
   (compPost (model prog w) A X use R (.ref (sa.heap.objs.size+1)) (sa.heap.objs.size+2)) { sa with heap:=h₁,toks:=sa.toks+([]:List (Str×Value)).length }:=by
  refine rM (iv:=iv) (y:=y) (xs:=xs) (Kp:=fun out Zr=>gb (.list out) Q Zr) hh B ht S1 (en.go S g1) (he _) (hi _) (e1 0) (e1 1) (e1 2) d01 d02 d12 hz (fun out Z' s' J q h' hs=>?_) 0 [] Zq _ J0 (Nat.zero_le _) h1
  refine o1x3 J.it.obj fun oI' hoI' nfI za=>?_
  have g3:Go w.params G h₀ Zq sa Z' { s' with heap:=h',toks:=s'.toks }:=J.go.touch S1 (e1 0) J.nI (fun b x hb hx=>hs b x hb hx) (fun o eo=>by rw[hoI'] at eo;refine br (aP eo) ?_;exact nfI)
  have st3:b7 s'.heap h':=fun b o eo c=>hs b o (fun q=>by subst q;rw[hoI'] at eo;obtain rfl:=aP eo;exact nfI c) eo
  refine o2x2 J.list fun kE nn hDo rl=>?_
  refine aH J.ns fun m hCn=>?_
  have hDo':=hs _ _ (Ne.symm d01) hDo
  have hCn':h'.Ns (sa.heap.objs.size+2) m:=hCn.at' fun o eo=>hs _ _ (Ne.symm d02) eo
  have l1:=rl.length
  obtain⟨g4,hnone⟩:=g3.adopt (h':=h') (tk:=s'.toks) (d:=sa.heap.objs.size+1) (o:=.list out) S1 (e1 1) J.nD (fun b x za hx=>hx) (fun o eo=>by
   have eo:h'.get? _=some o:=eo
   rw[hDo'] at eo;refine br (aP eo) ?_;exact nf (by simp) (by simp)) (fun b t=>t) (fun za za q=>by cases q)
   ⟨kE,nn,hDo',rl.stays st3,by have:=J.len;lia⟩
  have nC':¬bu (Z'.set (sa.heap.objs.size+1) (.list out)) (sa.heap.objs.size+2):=by
   rintro(q | ⟨c,fs,q⟩)
   ·unfold H.set at q
    rw[aD (Ne.symm d12)] at q
    exact J.nC (.inl q)
   ·unfold H.set at q
    rw[aD d13] at q
    exact J.nC (.inr ⟨c,fs,q⟩)
  exact fin Zq sa _ _ _ _ m g1 g4 (q _ hnone) hCn' (e1 2) nC'
 have hst:=codeAny_compStart_list loop (rn J0.it loop)
 have ea:({ sa with heap:=H1 }:Shared).heap.objs.size=sa.heap.objs.size+1:=z1
 have eb:(H1.push { cls:=.type "list",dict:=none,data:=.seq #[] }).objs.size=sa.heap.objs.size+2:=z2
 show codeAny _ _ (.compStart _ 0 (.ref sa.heap.objs.size) (.ref H1.objs.size) (compEnvC sc (da env sc.names []) (H1.push { cls:=.type "list",dict:=none,data:=.seq #[] }).objs.size env)) (compPost (model prog w) A X use R (.ref H1.objs.size) (H1.push { cls:=.type "list",dict:=none,data:=.seq #[] }).objs.size) _
 (refine af eb ?_;refine af z1 ?_)
 exact hst
theorem uc{elt t iter:Expr}{ifs:List Expr}{ce cit:E}{cifs:List E}{pos:Pos}
  (hh:A.handled=none) (B:lq env sc r) (ht:nt sc t=true) (hset:dE iter=true)
  (hit:dX prog w G h₀ C A env r iter cit) (he:∀ Cc,dX prog w G h₀ C A (compEnvC sc (da env sc.names []) Cc env) (cP (aX sc) r) elt ce) (hi:∀ Cc,d9 prog w G h₀ C A (compEnvC sc (da env sc.names []) Cc env) (cP (aX sc) r) ifs cifs) :
  dX prog w G h₀ C A env r (.ListComp elt [⟨t,iter,ifs,0⟩] sc pos) (.comp ce (jt (cP (aX sc) r) t) cit cifs):=by
 intro U Z s Q X e S h
 rw[eval_ListComp]
 refine kZ (C:=C) hh B ht S e hset hit he hi h fun Zq sa D Cc Z' s' m g1 g2 q hn hc no=>?_
 refine⟨m,hn,fun h' hs=>?_⟩
 have g3:=g2.touch (h':=h') (tk:=s'.toks) g1.st hc no (fun b x hb hx=>hs.extBut b x hb hx) (ja hn)
 exact⟨_,_,q,.ref _,g1.trans g3⟩
end
noncomputable def hY:Expr→Bool
 |.Starred ..=>false
 |_=>true
noncomputable def nu(csc sc:Scope):Bool:=csc.kind == .function && csc.names.all fun x=>x.2 != .cell && (x.2 != .local || csc.names.lookup x.1 == some .local) && (x.2 != .free || sc.names.lookup x.1 == some .cell)
mutual
noncomputable def bM:Expr→Option Scope→Bool
 |.Constant _ _ _,_=>true
 |.Name x _,_=>!(x == ("__debug__" : Str)) && !(x == ("__classdict__" : Str))
 |.BinOp a _ b _,o=>bM a o && bM b o
 |.UnaryOp .Not a _,o=>bM a o
 |.UnaryOp .USub a _,o=>bM a o
 |.BoolOp _ l _,o=>fW l o
 |.IfExp t a b _,o=>bM t o && bM a o && bM b o
 |.Compare a [_] [b] _,o=>bM a o && bM b o && dE b
 |.Compare a [_,_] [b,c] _,o=>bM a o && bM b o && bM c o && dE c
 |.Tuple l _ _,o=>fW l o && decide (l.length≤1000)
 |.List l _,o=>fW l o && decide (l.length≤1000)
 |.Dict ks vs _,o=>s8 ks o && fW vs o && decide (ks.length≤15)
 |.Attribute x _ _,o=>bM x o && eY x
 |.Subscript x (.Slice (some a) none none _) _,o=>bM x o && bM a o
 |.Subscript x (.Slice none (some a) none _) _,o=>bM x o && bM a o
 |.Subscript x (.Slice none none (some (.UnaryOp .USub (.Constant (.int i) _ _) _)) _) _,o=>bM x o && (i == 1)
 |.Subscript x i _,o=>bM x o && bM i o && df i
 |.Call (.Attribute x n ap) as [] p,o=>bM x o && fW as o && eY x && decide (ix n<NT) && decide (as.length<30) && ap.endLine == p.line
 |.Call f as [] _,o=>bM f o && fW as o && dD f
 |.ListComp e gs csc _,some sc=>bM e none && Da gs csc sc
 |_,_=>false
noncomputable def fW:List Expr→Option Scope→Bool
 |[],_=>true
 |e::l,o=>bM e o && hY e && fW l o
noncomputable def s8:List (Option Expr)→Option Scope→Bool
 |[],_=>true
 |some e::l,o=>bM e o && hY e && s8 l o
 |none::_,_=>false
noncomputable def Da:List Comprehension→Scope→Scope→Bool
 |[⟨t,it,ifs,0⟩],csc,sc=>bM it (some sc) && fW ifs none && nt csc t && dE it && nu csc sc
 |_,_,_=>false
end
section
variable {prog:Program} {w:World} {A:Around} {K:Frag} {G:GT} {h₀:Heap} {C:aN} {n:Nat}
noncomputable def AX(o:Option Scope)(env:PySem.Env)(r:Str→cO):Prop:=∀ sc,o=some sc→env.scope=sc∧r=hK (aX sc)∧(∀ x,env.kindOf x=some .cell→∃ c,env.cells.lookup x=some c)∧sc.names.length≤100
noncomputable def oo(prog:Program)(w:World)(G:GT)(h₀:Heap)(C:aN)(A:Around)(env:PySem.Env)(r:Str→cO)(e:Expr)(c:E):Prop:=dX prog w G h₀ C A env r e c∧i0 prog w G h₀ C A env r e c
theorem cB{env:PySem.Env}{r:Str→cO}{e:Expr}{c:E}(h:dX prog w G h₀ C A env r e c)(hw:∀ whole,isTrue e env whole=(do let v ← whole;standAt e.pos;holding [v] (truthy v)):=by intro _;rfl):oo prog w G h₀ C A env r e c:=⟨h,vo h hw⟩
theorem pQ{e:Expr}(h:hY e=true):∀ x p,e≠.Starred x p:=fun x p q=>by subst q;exact ff h
theorem jr{o:Option Scope}{env:PySem.Env}{r:Str→cO}:∀ {l:List Expr},fW l o=true→(∀ e ∈ l,bM e o=true→oo prog w G h₀ C A env r e (cE e r))→d9 prog w G h₀ C A env r l (qA l r)
 |[],_,_=>trivial
 |e::l,h,f=>by
  have h:(bM e o && hY e && fW l o)=true:=h
  simp only[Bool.and_eq_true] at h
  exact⟨f e (.head _) h.1.1,pQ h.1.2,jr h.2 fun e he=>f e (.tail _ he)⟩
theorem p9{o:Option Scope}{env:PySem.Env}{r:Str→cO}:∀ {l:List (Option Expr)},s8 l o=true→(∀ e,some e ∈ l→bM e o=true→oo prog w G h₀ C A env r e (cE e r))→∃ es,l=es.map some∧d9 prog w G h₀ C A env r es (Dg l r)
 |[],_,_=>⟨[],rfl,trivial⟩
 |some e::l,h,f=>by
  have h:(bM e o && hY e && s8 l o)=true:=h
  replace h:=pB h
  refine o1x2 (p9 (l:=l) h.2 fun e he=>f e (.tail _ he)) fun es q s=>?_
  exact⟨e::es,by refine af q ?_;rfl,f e (.head _) h.1.1,pQ h.1.2,s⟩
 |none::l,h,_=>by
  have h:false=true:=h
  exact ff h
theorem uA{csc sc:Scope}{env:PySem.Env}{r:Str→cO}(h:nu csc sc=true)(c:AX (some sc) env r):lq env csc r:=by
 refine o0x4 (c sc rfl) fun c1 c2 c3 c4=>?_
 unfold nu at h
 (rewrite[Bool.and_eq_true] at h;rw[List.all_eq_true] at h)
 refine o0x2 h fun h1 h2=>?_;clear h
 have h2:∀ x ∈ csc.names,x.2≠.cell∧(x.2=.local→csc.names.lookup x.1=some .local)∧(x.2=.free→sc.names.lookup x.1=some .cell):=fun x hx=>by
  have:=h2 x hx
  simp only[Bool.and_eq_true,Bool.or_eq_true,bne_iff_ne,beq_iff_eq] at this
  exact⟨this.1.1,fun q=>this.1.2.resolve_left (fun z=>z q),fun q=>this.2.resolve_left (fun z=>z q)⟩
 refine⟨by simpa using h1,fun x hx=>(h2 x hx).1,fun x hx=>(h2 x hx).2.1,fun x hx q=>?_,fun x j hj=>?_⟩
 ·have:env.kindOf x.1=some .cell:=by
   unfold PySem.Env.kindOf;refine af c1 ?_;exact(h2 x hx).2.2 q
  exact⟨this,c3 _ this⟩
 ·rw[c2] at hj
  obtain⟨_,p,hp,_⟩:=fz hj
  have:=(List.getElem?_eq_some_iff.mp hp).1
  lia
theorem EZ{a b y:Nat}(h:y=1+a+b):a<y:=by lia
theorem uY{a b c y:Nat}(h:y=1+a+b+c):b<y:=by lia
theorem uZ{a b c y:Nat}(h:y=1+a+b+c):a<y:=EZ (b:=b+c) (by(refine ak (h) ?_;rw[Nat.add_assoc]))
theorem xT{a b c d y:Nat}(h:y=1+a+b+c+d):a<y:=uZ (b:=b) (c:=c+d) (by(refine ak (h) ?_;rw[Nat.add_assoc]))
theorem AZ{a b c d y:Nat}(h:y=1+a+b+c+d):b<y:=uY (c:=c+d) (by(rewrite[h];rw[Nat.add_assoc]))
theorem AY{a b c d y:Nat}(h:y=1+a+b+c+d):c<y:=uY (a:=a+b) (c:=d) (by(refine ak (h) ?_;(refine af (Nat.add_assoc 1 a b) ?_;with_reducible rfl)))
theorem Dl{a y:Nat}(h:y=1+a):a<y:=by lia
theorem zz{a y m:Nat}(h:a<y)(k:y<m+1):a<m:=Nat.lt_of_lt_of_le h (Nat.le_of_lt_succ k)
theorem zl{l:List Expr}{e:Expr}{m:Nat}(h:e ∈ l)(k:sizeOf l<m):sizeOf e<m:=Nat.lt_trans (List.sizeOf_lt_of_mem h) k
theorem zo{l:List (Option Expr)}{e:Expr}{m:Nat}(h:some e ∈ l)(k:sizeOf l<m):sizeOf e<m:=Nat.lt_trans (Dl (Option.some.sizeOf_spec e)) (Nat.lt_trans (List.sizeOf_lt_of_mem h) k)
theorem gF{m:Nat}(ih:∀ e:Expr,sizeOf e<m→∀ (o:Option Scope) (env:PySem.Env) (r:Str→cO),AX o env r→bM e o=true→oo prog w G h₀ C A env r e (cE e r)){o:Option Scope}{env:PySem.Env}{r:Str→cO}(c:AX o env r){l:List Expr}(hl:sizeOf l<m)(h:fW l o=true) :
  d9 prog w G h₀ C A env r l (qA l r):=jr h fun e he h'=>ih e (zl he hl) o env r c h'
theorem pO{x i:Expr}{p:Pos}{o:Option Scope}{r:Str→cO}(hs:df i=true):bM (.Subscript x i p) o=(bM x o && bM i o && df i)∧cE (.Subscript x i p) r=.idx (cE x r) (cE i r):=by
 induction i using Expr.casesOn<;>first | exact⟨rfl,rfl⟩ | exact ff hs
theorem n5{f:Expr}{as:List Expr}{p:Pos}{o:Option Scope}{r:Str→cO}(hn:dD f=true):bM (.Call f as [] p) o=(bM f o && fW as o && dD f)∧cE (.Call f as [] p) r=.call (cE f r) (qA as r):=by
 revert hn
 induction f using Expr.casesOn with
 |Attribute=>exact ff
 |_=>exact fun _z=>⟨rfl,rfl⟩
theorem qa{gs:List Comprehension}{csc sc:Scope}(h:Da gs csc sc=true):∃ t it ifs,gs=[⟨t,it,ifs,0⟩]:=by
 induction gs using List.casesOn with
 |nil=>exact ff h
 |cons g gs=>
  obtain⟨t,it,ifs,k⟩:=g
  rcases k with(_ | _) | _<;>induction gs using List.casesOn<;>first | exact⟨t,it,ifs,rfl⟩ | exact ff h
theorem qT{x st:Expr}{sp p:Pos}{o:Option Scope}(ok:bM (.Subscript x (.Slice none none (some st) sp) p) o=true):bM x o=true∧∃ k cp up,st=.UnaryOp .USub (.Constant (.int 1) k cp) up:=by
 have no:∀ {q:Bool},(q && false)=true→False:=fun{q} h=>by induction q using Bool.casesOn<;>exact ff h
 induction st using Expr.casesOn with
 |UnaryOp op a up=>
  induction op using UnaryOp.casesOn with
  |USub=>
   induction a using Expr.casesOn with
   |Constant c k cp=>
    induction c using Const.casesOn with
    |int i=>
     have ok:(bM x o && (i == 1))=true:=ok
     replace ok:=dg ok
     have h:i=1:=eq_of_beq ok.2
     refine af h ?_;exact⟨ok.1,k,cp,up,rfl⟩
    |_=>exact(no ok).elim
   |_=>exact(no ok).elim
  |_=>exact(no ok).elim
 |_=>exact(no ok).elim
theorem kI(D:gL prog w K G h₀)(F:jw prog w G h₀ C n)(fit:dt n A):∀ (m:Nat) (e:Expr),sizeOf e<m→∀ (o:Option Scope) (env:PySem.Env) (r:Str→cO),AX o env r→bM e o=true→oo prog w G h₀ C A env r e (cE e r):=by
 intro m
 induction m with
 |zero=>intro e he;exact absurd he (Nat.not_lt_zero _)
 |succ m ih=>
  intro e he o env r c ok
  induction e using Expr.casesOn with
  |Constant k kk p=>exact cB ub
  |Name x p=>
   have ok:(!(x == ("__debug__" : Str)) && !(x == ("__classdict__" : Str)))=true:=ok
   simp only[Bool.and_eq_true,Bool.not_eq_true'] at ok
   exact cB (vN D ok.1 ok.2)
  |BinOp a op b p=>
   have ok:(bM a o && bM b o)=true:=ok
   replace ok:=dg ok
   exact cB (wX (ih a (zz (xT (Expr.BinOp.sizeOf_spec ..)) he) o env r c ok.1).1 (ih b (zz (AY (Expr.BinOp.sizeOf_spec ..)) he) o env r c ok.2).1)
  |UnaryOp op a p=>
   induction op using UnaryOp.casesOn with
   |Not=>
    have:=ih a (zz (uY (Expr.UnaryOp.sizeOf_spec ..)) he) o env r c ok
    exact⟨vL this.1,tb this.2⟩
   |USub=>exact cB (vM (ih a (zz (uY (Expr.UnaryOp.sizeOf_spec ..)) he) o env r c ok).1)
   |_=>exact ff ok
  |BoolOp op l p=>
   have:=gF ih c (l:=l) (zz (uY (Expr.BoolOp.sizeOf_spec ..)) he) ok
   exact⟨AB this,wW this⟩
  |IfExp t a b p=>
   have ok:(bM t o && bM a o && bM b o)=true:=ok
   replace ok:=pB ok
   have h1:=ih t (zz (xT (Expr.IfExp.sizeOf_spec ..)) he) o env r c ok.1.1
   have h2:=ih a (zz (AZ (Expr.IfExp.sizeOf_spec ..)) he) o env r c ok.1.2
   have h3:=ih b (zz (AY (Expr.IfExp.sizeOf_spec ..)) he) o env r c ok.2
   exact⟨wk h1.2 h2.1 h3.1,tG h1.2 h2.2 h3.2⟩
  |Compare a ops cs p=>
   match ops,cs,ok with
   |[op],[b],ok=>
    have ok:(bM a o && bM b o && dE b)=true:=ok
    replace ok:=pB ok
    have h1:=ih a (zz (xT (Expr.Compare.sizeOf_spec ..)) he) o env r c ok.1.1
    have h2:=ih b (zl (.head _) (zz (AY (Expr.Compare.sizeOf_spec ..)) he)) o env r c ok.1.2
    exact⟨wR D fit.hu ok.2 h1.1 h2.1,ud D fit.hu ok.2 h1.1 h2.1⟩
   |[op,op2],[b,cc],ok=>
    have ok:(bM a o && bM b o && bM cc o && dE cc)=true:=ok
    replace ok:=CI ok
    have h1:=ih a (zz (xT (Expr.Compare.sizeOf_spec ..)) he) o env r c ok.1.1.1
    have h2:=ih b (zl (.head _) (zz (AY (Expr.Compare.sizeOf_spec ..)) he)) o env r c ok.1.1.2
    have h3:=ih cc (zl (.tail _ (.head _)) (zz (AY (Expr.Compare.sizeOf_spec ..)) he)) o env r c ok.1.2
    exact⟨uf D fit.hu ok.2 h1.1 h2.1 h3.1,rN D fit.hu ok.2 h1.1 h2.1 h3.1⟩
   |[],_,ok=>exact ff ok
   |[_],[],ok=>exact ff ok
   |[_],_::_::_,ok=>exact ff ok
   |[_,_],[],ok=>exact ff ok
   |[_,_],[_],ok=>exact ff ok
   |[_,_],_::_::_::_,ok=>exact ff ok
   |_::_::_::_,_,ok=>exact ff ok
  |Tuple l k p=>
   have ok:(fW l o && decide (l.length≤1000))=true:=ok
   (rewrite[Bool.and_eq_true] at ok;rw[decide_eq_true_eq] at ok)
   exact cB (vm ok.2 (gF ih c (l:=l) (zz (uZ (Expr.Tuple.sizeOf_spec ..)) he) ok.1))
  |List l p=>
   have ok:(fW l o && decide (l.length≤1000))=true:=ok
   (rewrite[Bool.and_eq_true] at ok;rw[decide_eq_true_eq] at ok)
   exact cB (v8 ok.2 (gF ih c (l:=l) (zz (EZ (Expr.List.sizeOf_spec ..)) he) ok.1))
  |Dict ks vs p=>
   have ok:(s8 ks o && fW vs o && decide (ks.length≤15))=true:=ok
   simp only[Bool.and_eq_true,decide_eq_true_eq] at ok
   refine o1x2 (p9 (l:=ks) ok.1.1 fun e' he' h'=>ih e' (zo he' (zz (uZ (Expr.Dict.sizeOf_spec ..)) he)) o env r c h') fun es q s=>?_
   have sv:=gF ih c (l:=vs) (zz (uY (Expr.Dict.sizeOf_spec ..)) he) ok.1.2
   have hl:es.length≤15:=by have:=ok.2;(rewrite[q] at this;rw[List.length_map] at this);exact this
   have:=wN (p:=p) (by have:=fit.hu;lia) hl s sv
   rw[← q] at this
   exact cB this
  |Attribute x a p=>
   have ok:(bM x o && eY x)=true:=ok
   rw[Bool.and_eq_true] at ok
   exact cB (w1 D ok.2 (ih x (zz (uZ (Expr.Attribute.sizeOf_spec ..)) he) o env r c ok.1).1)
  |Subscript x i p=>
   by_cases hs:df i=true
   ·rw[(pO (r:=r) hs).1] at ok
    simp only[Bool.and_eq_true] at ok
    refine af ((pO (o:=o) hs).2) ?_
    exact cB (wq fit.hu hs (ih x (zz (uZ (Expr.Subscript.sizeOf_spec ..)) he) o env r c ok.1.1).1 (ih i (zz (uY (Expr.Subscript.sizeOf_spec ..)) he) o env r c ok.1.2).1)
   ·induction i using Expr.casesOn with
    |Slice lo hi st sp=>
     match lo,hi,st,ok with
     |some a,none,none,ok=>
      have ok:(bM x o && bM a o)=true:=ok
      rw[Bool.and_eq_true] at ok
      exact cB (su (ih x (zz (uZ (Expr.Subscript.sizeOf_spec ..)) he) o env r c ok.1).1 (ih a (zz (Nat.lt_trans (Dl (Option.some.sizeOf_spec a)) (Nat.lt_trans (xT (Expr.Slice.sizeOf_spec ..)) (uY (Expr.Subscript.sizeOf_spec ..)))) he) o env r c ok.2).1)
     |none,some a,none,ok=>
      have ok:(bM x o && bM a o)=true:=ok
      rw[Bool.and_eq_true] at ok
      exact cB (sw D.arg (ih x (zz (uZ (Expr.Subscript.sizeOf_spec ..)) he) o env r c ok.1).1 (ih a (zz (Nat.lt_trans (Dl (Option.some.sizeOf_spec a)) (Nat.lt_trans (AZ (Expr.Slice.sizeOf_spec ..)) (uY (Expr.Subscript.sizeOf_spec ..)))) he) o env r c ok.2).1)
     |none,none,some st,ok=>
      obtain⟨h1,k,cp,up,rfl⟩:=qT ok
      exact cB (vu (ih x (zz (uZ (Expr.Subscript.sizeOf_spec ..)) he) o env r c h1).1)
     |none,none,none,ok=>
      have ok:(bM x o && bM (.Slice (none) (none) (none) sp) o && false)=true:=ok
      rw[Bool.and_false] at ok;exact ff ok
     |some a,some b,st,ok=>
      have ok:(bM x o && bM (.Slice (some a) (some b) (st) sp) o && false)=true:=ok
      rw[Bool.and_false] at ok;exact ff ok
     |some a,none,some st,ok=>
      have ok:(bM x o && bM (.Slice (some a) (none) (some st) sp) o && false)=true:=ok
      rw[Bool.and_false] at ok;exact ff ok
     |none,some b,some st,ok=>
      have ok:(bM x o && bM (.Slice (none) (some b) (some st) sp) o && false)=true:=ok
      rw[Bool.and_false] at ok;exact ff ok
    |_=>exact absurd rfl hs
  |Call f as kws p=>
   induction kws using List.casesOn with
   |cons _ _=>induction f using Expr.casesOn<;>exact ff ok
   |nil=>
    by_cases hn:dD f=true
    ·rw[(n5 (r:=r) hn).1] at ok
     simp only[Bool.and_eq_true] at ok
     refine af ((n5 (o:=o) hn).2) ?_
     exact cB (ui D F fit hn (ih f (zz (xT (Expr.Call.sizeOf_spec ..)) he) o env r c ok.1.1).1 (gF ih c (l:=as) (zz (AZ (Expr.Call.sizeOf_spec ..)) he) ok.1.2))
    ·induction f using Expr.casesOn with
     |Attribute x nm ap=>
      have ok:(bM x o && fW as o && eY x && decide (ix nm<NT) && decide (as.length<30) && ap.endLine == p.line)=true:=ok
      simp only[Bool.and_eq_true,decide_eq_true_eq] at ok
      exact cB (vP D F fit ok.1.1.1.2 ok.1.1.2 ok.1.2 ok.2 (ih x (zz (Nat.lt_trans (uZ (Expr.Attribute.sizeOf_spec ..)) (xT (Expr.Call.sizeOf_spec ..))) he) o env r c ok.1.1.1.1.1).1 (gF ih c (l:=as) (zz (AZ (Expr.Call.sizeOf_spec ..)) he) ok.1.1.1.1.2))
     |_=>exact absurd rfl hn
  |ListComp el gs csc p=>
   induction o using Option.casesOn with
   |none=>exact ff ok
   |some sc=>
    have ok:(bM el none && Da gs csc sc)=true:=ok
    replace ok:=dg ok
    refine o0x2 ok fun ok1 ok2=>?_;clear ok
    refine o3x1 (qa ok2) fun t it ifs e3=>?_;obtain rfl:=e3
    ·have ok2:(bM it (some sc) && fW ifs none && nt csc t && dE it && nu csc sc)=true:=ok2
     replace ok2:=AE ok2
     have B:=uA ok2.2 c
     have cn:∀ Cc,AX none (compEnvC csc (da env csc.names []) Cc env) (cP (aX csc) r):=fun Cc sc q=>by exact ns q
     have h1:=ih it (by simp at he;lia) _ env r c ok2.1.1.1.1
     have h2:∀ Cc,oo prog w G h₀ C A (compEnvC csc (da env csc.names []) Cc env) (cP (aX csc) r) el (cE el (cP (aX csc) r)):=fun Cc=>ih el (by simp at he;lia) none _ _ (cn Cc) ok1
     have h3:∀ Cc,d9 prog w G h₀ C A (compEnvC csc (da env csc.names []) Cc env) (cP (aX csc) r) ifs (qA ifs (cP (aX csc) r)):=fun Cc=>jr ok2.1.1.1.2 fun e' he' h'=>ih e' (by have:=List.sizeOf_lt_of_mem he';simp at he;lia) none _ _ (cn Cc) h'
     exact cB (uc fit.handled B ok2.1.1.2 ok2.1.2 h1.1 (fun Cc=>(h2 Cc).1) h3)
  |_=>exact ff ok
end
noncomputable def fO:Expr→Bool
 |.ListComp ..=>false
 |.SetComp ..=>false
 |.DictComp ..=>false
 |_=>true
noncomputable def qc(o:Option Scope):Expr→Bool
 |.Name _ _=>true
 |.Tuple l _ _=>two (yx fun za=>true) l
 |.Attribute x _ _=>bM x o
 |.Subscript x i _=>bM x o && bM i o && df i
 |_=>false
inductive uJ (o:Option Scope):Expr→Prop
 |name (x:Str) (p:Pos):uJ o (.Name x p)
 |two (x:Str) (p:Pos) (y:Str) (q:Pos) (k:Nat) (pp:Pos):uJ o (.Tuple [.Name x p,.Name y q] k pp)
 |attr (x:Expr) (a:Str) (p:Pos):bM x o=true→uJ o (.Attribute x a p)
 |sub (x i:Expr) (p:Pos):(bM x o && bM i o && df i)=true→uJ o (.Subscript x i p)
theorem gB{o:Option Scope}{t:Expr}(h:qc o t=true):uJ o t:=by
 revert h
 induction t using Expr.casesOn with
 |Name x p=>exact fun _z=>.name x p
 |Attribute x a p=>exact fun h=>.attr x a p h
 |Subscript x i p=>exact fun h=>.sub x i p h
 |Tuple l k pp=>
  intro h
  obtain⟨x,p,y,q,rfl,_⟩:=mR (f:=fun za=>true) h
  exact .two _ _ _ _ _ _
 |_=>exact ff
noncomputable def vE:Expr→Expr→Bool
 |.Tuple _ _ _,.Tuple vs _ _=>!(vs.all (constantsAlone 8))
 |.List ..,_=>false
 |_,_=>true
noncomputable def jR:Expr→Bool
 |.Subscript ..=>false
 |_=>true
mutual
noncomputable def BE:Stmt→Scope→Bool
 |.Expr e _,sc=>bM e (some sc) && fO e
 |.Return (some e) _,sc=>bM e (some sc)
 |.Assign [t] e _,sc=>qc (some sc) t && bM e (some sc) && vE t e
 |.AugAssign (.Name x _) _ e _,sc=>bM (.Name x default) (some sc) && bM e (some sc)
 |.AugAssign (.Attribute x _ _) _ e _,sc=>bM x (some sc) && bM e (some sc)
 |.If t a b _,sc=>bM t (some sc) && iL a sc && iL b sc
 |.While t b [] _,sc=>bM t (some sc) && iL b sc
 |.For t it b [] _,sc=>qc none t && dD t && jR t && bM it (some sc) && dE it && iL b sc
 |.Raise _ _ _,_=>true
 |_,_=>false
noncomputable def iL:List Stmt→Scope→Bool
 |[],_=>true
 |s::l,sc=>BE s sc && iL l sc
end
noncomputable def jS:List Nat→Bool
 |[]=>true
 |a::l=>!l.contains a && jS l
noncomputable def vG(d:FD):Bool:=d.scope.kind == .function && !d.scope.isCoroutine && !d.scope.isGenerator && decide (d.scope.names.length≤100) && jS (d.scope.names.map fun p=>fX p.1) &&
 (d.scope.names.all fun p=>p.2 == .local || p.2 == .cell || p.2 == .globalImplicit) &&
 (d.params.all fun x=>fX x != 0 && (d.scope.names.lookup x == some .local || d.scope.names.lookup x == some .cell)) && jS (d.params.map fX) && iL d.body d.scope
noncomputable def CK:List FD:=((List.range 78).filterMap fun f=>pe Option.none f)++(fP.filterMap fun p=>pe (some p.1) p.2)
theorem AF:CK.all vG=true:=by decide +kernel
structure fh (h₀:Heap) (env:PySem.Env) (r:Str→cO) (sc:Scope):Prop where
 esc:env.scope=sc
 er:r=hK (aX sc)
 kind:sc.kind=.function
 known:∀ x i,r x=.loc i→env.kindOf x=some .local∨(env.kindOf x=some .cell∧∃ c,env.cells.lookup x=some c)
 inj:∀ x y i,r x=.loc i→r y=.loc i→x=y
 apart:env.cells.Pairwise fun x y=>x.2≠y.2
 sep:∀ n c,(n,c) ∈ env.cells→c≠env.locals
 fresh:∀ b,Fr env b→h₀.get? b=none
 cells:∀ x,env.kindOf x=some .cell→∃ c,env.cells.lookup x=some c
 len:sc.names.length≤100
section
variable {prog:Program} {w:World} {A:Around} {K:Frag} {G:GT} {h₀:Heap} {C:aN} {n:Nat} {env:PySem.Env} {r:Str→cO} {sc:Scope}
theorem fh.ctx(T:fh h₀ env r sc):AX (some sc) env r:=fun sc' q=>by refine br (aP q) ?_;exact⟨T.esc,T.er,T.cells,T.len⟩
noncomputable abbrev fY(P:Params)(G:GT)(h₀:Heap)(env:PySem.Env)(Z:H)(s:Shared)(Z':H)(s':Shared):Prop:=ln P G h₀ (Fr env) Z s Z' s'
theorem fY.of{U:Env}{Z Z':H}{s s':Shared}(e:bE G env r U Z s.heap)(g:Go w.params G h₀ Z s Z' s'):fY w.params G h₀ env Z s Z' s':=
 ln.of g fun b f=>by
  refine cN fun PP kk=>?_
  refine o2x1 e fun m cm a=>?_;clear e
  refine o1x2 (a.own b f) fun o ho za=>?_
  refine kk ?_
  exact⟨o,ho⟩
theorem lM{U:Env}{i j:Nat}{v u:V}(h:U.set i v j=some u):(j=i∧u=v)∨(j≠i∧U j=some u):=by
 unfold Env.set at h
 split at h
 ·exact .inl ⟨by assumption,(aP h).symm⟩
 ·exact .inr ⟨by assumption,h⟩
theorem eP(T:fh h₀ env r sc){x:Str}{i:Nat}(hx:r x=.loc i){U:Env}{Z:H}{s:Shared}{v:Value}{y:V}{Q:Unit→Shared→Prop}{X:Value→Shared→Prop}(e:bE G env r U Z s.heap)(S:St w.params G h₀ Z s.heap)(rv:bg G s.heap v y)
  (h:∀ s',fY w.params G h₀ env Z s Z s'→bE G env r (U.set i y) Z s'.heap→Q () s'):wpAny (model prog w) A (storeName env x v) Q X s:=by
 refine o2x1 e fun m cm a=>?_;clear e
 have change:∀ (d:Addr) (h':Heap),Fr env d→Heap.SameBut d s.heap h'→(∀ o,s.heap.get? d=some o→¬cu o)→b7 s.heap h'∧∀ tk,fY w.params G h₀ env Z s Z { s with heap:=h',toks:=tk }:=fun d h' f hs hnf=>by
  refine o1x3 (a.own d f) fun o ho hf no=>?_
  have st:b7 s.heap h':=fun b o eb c=>hs.extBut b o (fun q=>by subst q;exact hnf o eb c) eb
  refine⟨st,fun tk=>⟨⟨h',tk,rfl⟩,S.touch no (T.fresh d f) hnf (fun b x hb hx=>hs.extBut b x hb hx),fun b x eb nb nf=>hs.extBut b x (fun q=>nf (q▸f)) eb,fun b q=>.inl q⟩⟩
 have hloc:∀ {k:NameKind},env.kindOf x=some k→True:=fun za=>trivial
 rcases T.known x i hx with hk | ⟨hk,c,hc⟩
 ·have hp:(env.scope.kind == .class || (env.scope.kind == .module && env.locals != env.globals))=false:=by refine af a.kind ?_;rfl
  refine wpAny_storeName_local hk a.ns (fun h' hn' hs=>?_) hp
  refine o0x2 (change env.locals h' (.inl rfl) hs (ja a.ns)) fun st g=>?_
  have hL:∃ o,h'.get? env.locals=some o∧¬cu o:=by
   have hn2:=hn'
   refine o3x3 hn2 fun o' es ep e1 e2 za=>?_;clear hn2
   exact⟨o',e1,ja hn' o' e1⟩
  refine h _ (g _) ⟨_,cm,a.kind,a.glb,hn',fun z c' hc'=>?_,fun b f=>?_,fun z j u hz hu=>?_,a.gl⟩
  ·exact(a.cell z c' hc').sameBut hs (T.sep z c' (mem_of_lookup hc'))
  ·refine cN fun PP kk=>?_
   refine o1x3 (a.own b f) fun o ho hf no=>?_
   refine kk ?_
   by_cases q:b=env.locals
   ·refine o1x2 hL fun o' e1 e2=>?_;clear hL
    exact⟨o',by refine af q ?_;exact e1,e2,no⟩
   ·exact⟨o,hs.extBut b o q ho,hf,no⟩
  ·rcases lM hu with⟨rfl,rfl⟩ | ⟨hne,hu⟩
   ·have:z=x:=T.inj z x _ hz hx
    refine af this ?_
    exact⟨v,rv.stays st,.inl ⟨hk,by simp⟩⟩
   ·refine o1x2 (a.loc z j u hz hu) fun val r1 r2=>?_
    refine⟨val,r1.stays st,r2.imp (fun q=>⟨q.1,?_⟩) id⟩
    have:z≠x:=fun q=>by subst q;rw[hx] at hz;cases hz;exact hne rfl
    refine ak (aD this) ?_;exact q.2
 ·refine wpAny_storeName_cell a.kind hk hc (a.cell x c hc) fun h' hc' hs=>?_
  have f:Fr env c:=.inr ⟨x,hc⟩
  have cnf:∀ {h:Heap} {v:Option Value},h.IsCell c v→∀ o,h.get? c=some o→¬cu o:=fun{h v} hcell o eo z=>by
   refine o1x2 hcell fun o' e1 e2=>?_;clear hcell
   rw[e1] at eo;obtain rfl:=aP eo
   rcases z with⟨_,vs,kk,z⟩ | ⟨_,vs,z⟩<;>rw[e2] at z<;>cases z
  refine o0x2 (change c h' f hs (cnf (a.cell x c hc))) fun st g=>?_
  refine h _ (g s.toks) ⟨m,fun z=>if z=x then some v else cm z,a.kind,a.glb,a.ns.sameBut hs (Ne.symm (T.sep x c (mem_of_lookup hc))),fun z c' hz=>?_,fun b fb=>?_,fun z j u hz hu=>?_,a.gl⟩
  ·by_cases q:z=x
   ·subst q
    rw[hc] at hz;refine br (aP hz) ?_
    refine af (aG rfl) ?_;exact hc'
   ·refine af (aD q) ?_
    exact(a.cell z c' hz).sameBut hs fun e=>q (name_of_addr T.apart (mem_of_lookup hz) (e▸mem_of_lookup hc))
  ·refine cN fun PP kk=>?_
   refine o1x3 (a.own b fb) fun o ho hf no=>?_
   refine kk ?_
   by_cases q:b=c
   ·subst q
    refine o1x2 hc' fun o' e1 e2=>?_;clear hc'
    exact⟨o',e1,cnf ⟨o',e1,e2⟩ o' e1,no⟩
   ·exact⟨o,hs.extBut b o q ho,hf,no⟩
  ·rcases lM hu with⟨rfl,rfl⟩ | ⟨hne,hu⟩
   ·have:z=x:=T.inj z x _ hz hx
    refine af this ?_
    exact⟨v,rv.stays st,.inr ⟨.inl hk,by simp,c,hc⟩⟩
   ·refine o1x2 (a.loc z j u hz hu) fun val r1 r2=>?_
    refine⟨val,r1.stays st,r2.imp id fun q=>⟨q.1,?_,q.2.2⟩⟩
    have:z≠x:=fun q=>by subst q;rw[hx] at hz;cases hz;exact hne rfl
    show(if z=x then some v else cm z)=some val
    refine ak (aD this) ?_;exact q.2.1
noncomputable def rV(P:Params)(G:GT)(h₀:Heap)(env:PySem.Env)(r:Str→cO)(Z:H)(s:Shared)(Q:bK):Flow→Shared→Prop:=fun f s'=>∃ fl U' Z',Q fl U' Z'∧(match fl with
 |.next=>f=.next
 |.ret x=>∃ v,f=.ret v∧bg G s'.heap v x)∧fY P G h₀ env Z s Z' s'∧bE G env r U' Z' s'.heap
theorem rV.back{Z Zq:H}{s sa:Shared}{Q:bK}(g:fY w.params G h₀ env Z s Zq sa){f:Flow}{s':Shared}(h:rV w.params G h₀ env r Zq sa Q f s'):rV w.params G h₀ env r Z s Q f s':=by
 refine cN fun PP kk=>?_
 refine o3x4 h fun fl U' Z' q hf g' e=>?_;clear h
 refine kk ?_
 exact⟨fl,U',Z',q,hf,g.trans g',e⟩
noncomputable def gZ(prog:Program)(w:World)(G:GT)(h₀:Heap)(C:aN)(A:Around)(env:PySem.Env)(r:Str→cO)(t:Stmt)(c:Mine.C):Prop:=
 ∀ U Z s Q X,bE G env r U Z s.heap→St w.params G h₀ Z s.heap→E1 C c U Q Z→wpAny (model prog w) A (exec t env) (rV w.params G h₀ env r Z s Q) X s
theorem fY.stays(e:bE G env r U Z s.heap)(S:St w.params G h₀ Z s.heap)(g:fY w.params G h₀ env Z s Z' s'):b7 s.heap s'.heap:=
 ln.stays S g fun b o f eo=>by
  refine o2x1 e fun m cm a=>?_;clear e
  refine o1x3 (a.own b f) fun o' ho hf za=>?_
  rw[ho] at eo;refine br (aP eo) ?_;exact hf
noncomputable def uS(P:Params)(G:GT)(h₀:Heap)(env:PySem.Env)(r:Str→cO)(Z:H)(s:Shared)(Q:Env→H→Prop):Unit→Shared→Prop:=fun za s'=>∃ U' Z',Q U' Z'∧fY P G h₀ env Z s Z' s'∧bE G env r U' Z' s'.heap
theorem Cs{x:Str}{p:Pos}:jt r (.Name x p)=(match r x with | .loc i=>[i] | _=>[]):=rfl
theorem eR(D:gL prog w K G h₀)(F:jw prog w G h₀ C n)(fit:dt n A)(T:fh h₀ env r sc){a:Expr}(h:bM a (some sc)=true):oo prog w G h₀ C A env r a (cE a r):=kI D F fit _ a (Nat.lt_succ_self _) (some sc) env r T.ctx h
theorem pR{x:Str}{p:Pos}{U:Env}{Z:H}{y:V}{Q:Env→H→Prop}(h:dM C (cT r (.Name x p)) y U Q Z):∃ i,r x=.loc i∧Q (U.set i y) Z:=by
 have h:dM C (match jt r (.Name x p) with | [i]=>.v i | _=>.bad) y U Q Z:=h
 rcases jp (r x) with⟨i,e⟩ | e
 ·rw[mz e] at h;exact⟨i,e,h⟩
 ·rw[uj e] at h;exact False.elim h
theorem sq{x x2:Str}{p p2 pp:Pos}{k:Nat}{U:Env}{Z:H}{y:V}{Q:Env→H→Prop}(h:dM C (cT r (.Tuple [.Name x p,.Name x2 p2] k pp)) y U Q Z):∃ i j a b,r x=.loc i∧r x2=.loc j∧y=.tup [a,b]∧Q ((U.set i a).set j b) Z:=by
 have h:dM C (match jt r (.Tuple [.Name x p,.Name x2 p2] k pp) with | [i,j]=>.v2 i j | _=>.bad) y U Q Z:=h
 rcases pW (r x) (r x2) with⟨i,j,e,e'⟩ | e
 ·rw[my e e'] at h
  refine o1x2 h fun U' hb q=>?_;clear h
  refine o2x2 (lc hb) fun a b e2 q9=>?_;refine af e2 ?_;obtain rfl:=q9
  exact⟨i,j,a,b,e,e',rfl,q⟩
 ·rw[ke e] at h;exact False.elim h
theorem uE(T:fh h₀ env r sc){x:Str}{p:Pos}{U:Env}{Z:H}{s:Shared}{v:Value}{y:V}{Q:Env→H→Prop}{X:Value→Shared→Prop}(e:bE G env r U Z s.heap)(S:St w.params G h₀ Z s.heap)(rv:bg G s.heap v y)(h:dM C (cT r (.Name x p)) y U Q Z):wpAny (model prog w) A (assign (.Name x p) env v) (uS w.params G h₀ env r Z s Q) X s:=by
 refine o1x2 (pR h) fun i hx q=>?_
 exact wpAny_assign_Name (eP T hx e S rv fun s' g e'=>⟨_,Z,q,g,e'⟩)
theorem w2(fit:dt n A)(T:fh h₀ env r sc){x x2:Str}{p p2 pp:Pos}{k:Nat}{U:Env}{Z:H}{s:Shared}{v:Value}{y:V}{Q:Env→H→Prop}{X:Value→Shared→Prop}(e:bE G env r U Z s.heap)(S:St w.params G h₀ Z s.heap)(rv:bg G s.heap v y)(h:dM C (cT r (.Tuple [.Name x p,.Name x2 p2] k pp)) y U Q Z):wpAny (model prog w) A (assign (.Tuple [.Name x p,.Name x2 p2] k pp) env v) (uS w.params G h₀ env r Z s Q) X s:=by
 refine o4x4 (sq h) fun i j a b hx hx2 e6 q=>?_;obtain rfl:=e6
 refine o3x2 rv.tup_inv fun ta us nn e3 q9=>?_;obtain rfl:=e3;refine o0x3 q9 fun o1 r1 z=>?_;clear q9
 obtain⟨us⟩:=us
 have r1':bw G s.heap us [a,b]:=r1
 refine o2x2 (g9 r1') fun va vb e2 q9=>?_;obtain rfl:=e2;refine o0x2 q9 fun ra rb=>?_;clear q9
 refine wpAny_assign_Tuple fit.handled ⟨_,o1,rfl,nn,rfl⟩ rfl rfl fun h1 hx1=>?_
 show wpAny _ _ (do holding [vb] (assign (.Name x p) env va);(do holding [] (assign (.Name x2 p2) env vb);pure ())) _ _ _
 have k1:∀ b o,s.heap.get? b=some o→h1.get? b=some o:=fun b o eo=>hx1 b o (Nat.ne_of_lt (Heap.lt_size eo)) eo
 have g1:Go w.params G h₀ Z s Z { s with heap:=h1 }:=Go.ext S (tk:=s.toks) k1
 have ee1:=e.go S g1
 refine wpAny_bind (wpAny_holding (wpAny_assign_Name (eP T hx ee1 g1.st (g1.rep S ra) fun s2 g2 ee2=>?_)))
 refine wpAny_bind (wpAny_holding (wpAny_assign_Name (eP T hx2 ee2 g2.st ((g1.rep S rb).stays (fY.stays ee1 g1.st g2)) fun s3 g3 ee3=>wpAny_pure ?_)))
 exact⟨_,Z,q,((fY.of e g1).trans g2).trans g3,ee3⟩
set_option tactic.hygienic true in
theorem lO{o:V}{x:Str}{u:V}{Z Z':H}(h:de Z o (ix x) u=some Z'):cw (ix x)=x:=by
 refine iM ?_
 unfold de at h
 split at h
 ·split at h
  ·split at h
   ·rename_i hc;exact(gn _ _ hc).1
   ·exact ns h
  ·exact ns h
 ·exact ns h
theorem uF(D:gL prog w K G h₀)(F:jw prog w G h₀ C n)(fit:dt n A)(T:fh h₀ env r sc){x:Expr}{a:Str}{p:Pos}(ok:bM x (some sc)=true){U:Env}{Z:H}{s:Shared}{v:Value}{y:V}{Q:Env→H→Prop}{X:Value→Shared→Prop}(e:bE G env r U Z s.heap)(S:St w.params G h₀ Z s.heap)(rv:bg G s.heap v y)(h:dM C (cT r (.Attribute x a p)) y U Q Z):wpAny (model prog w) A (assign (.Attribute x a p) env v) (uS w.params G h₀ env r Z s Q) X s:=by
 have h:dd C (cE x r) U (fun aa Zq=>∃ Z',de Zq aa (ix a) y=some Z'∧Q U Z') Z:=h
 show wpAny _ _ (do
  let ov ← holding [v] (eval x env)
  standAt p.atName
  holding [v,ov] (setAttr ov a v)
  release [v,ov] []) _ _ _
 refine wpAny_bind (wpAny_holding (a9 (α:=Unit) ((eR D F fit T ok).1 U Z s _ X e S h) fun z ov Zq sa h1 ro g1=>wpAny_bind (wpAny_standAt (wpAny_bind (wpAny_holding ?_)))))
 refine o1x2 h1 fun Z' hs q=>?_;clear h1
 refine br (lO hs) ?_
 refine jK g1.st D.X D.cls ro (g1.rep S rv) hs fun s2 g2=>dQ ?_
 exact⟨U,Z',q,fY.of e (g1.trans g2),e.go S (g1.trans g2)⟩
theorem yf{x i:Expr}{p:Pos}{v:Value}(hns:df i=true):cT r (.Subscript x i p)=.idx (cE x r) (cE i r)∧assign (.Subscript x i p) env v=(do
   let ov ← holding [v] (eval x env)
   let iv ← holding [v,ov] (eval i env)
   standAt p
   holding [v,ov,iv] (setItem ov iv v)
   release [v,ov,iv] []):=by
 induction i using Expr.casesOn<;>first | exact⟨rfl,rfl⟩ | exact ff hns
theorem w3(D:gL prog w K G h₀)(F:jw prog w G h₀ C n)(fit:dt n A)(T:fh h₀ env r sc){x i:Expr}{p:Pos}(ok:(bM x (some sc) && bM i (some sc) && df i)=true){U:Env}{Z:H}{s:Shared}{v:Value}{y:V}{Q:Env→H→Prop}{X:Value→Shared→Prop}(e:bE G env r U Z s.heap)(S:St w.params G h₀ Z s.heap)(rv:bg G s.heap v y)(h:dM C (cT r (.Subscript x i p)) y U Q Z):wpAny (model prog w) A (assign (.Subscript x i p) env v) (uS w.params G h₀ env r Z s Q) X s:=by
 replace ok:=pB ok
 have hs:=yf (r:=r) (env:=env) (x:=x) (p:=p) (v:=v) ok.2
 rw[hs.1] at h
 refine af hs.2 ?_
 refine wpAny_bind (wpAny_holding (a9 (α:=Unit) ((eR D F fit T ok.1.1).1 U Z s _ X e S h) fun z ov Zq sa h1 ro g1=>wpAny_bind (wpAny_holding (a9 (α:=Unit) ((eR D F fit T ok.1.2).1 U Zq sa _ X (e.go S g1) g1.st h1) fun k kv Zr sb h2 rk g2=>wpAny_bind (wpAny_standAt (wpAny_bind (wpAny_holding ?_)))))))
 refine o1x2 h2 fun Z' hs q=>?_;clear h2
 refine oD g2.st (g2.rep g1.st ro) rk (g2.rep g1.st (g1.rep S rv)) fit.hu hs fun s3 g3=>dQ ?_
 have g:=(g1.trans g2).trans g3
 exact⟨U,Z',q,fY.of e g,e.go S g⟩
theorem lg(D:gL prog w K G h₀)(F:jw prog w G h₀ C n)(fit:dt n A)(T:fh h₀ env r sc){t:Expr}(ok:qc (some sc) t=true){U:Env}{Z:H}{s:Shared}{v:Value}{y:V}{Q:Env→H→Prop}{X:Value→Shared→Prop}(e:bE G env r U Z s.heap)(S:St w.params G h₀ Z s.heap)(rv:bg G s.heap v y)
  (h:dM C (cT r t) y U Q Z):wpAny (model prog w) A (assign t env v) (uS w.params G h₀ env r Z s Q) X s:=by
 induction gB ok using uJ.casesOn with
 |name x p=>exact uE T e S rv h
 |two x p x2 p2 k pp=>exact w2 fit T e S rv h
 |attr x a p ok=>exact uF D F fit T ok e S rv h
 |sub x i p ok=>exact w3 D F fit T ok e S rv h
end
theorem bE.move{G:GT}{env:PySem.Env}{r:Str→cO}{U:Env}{Z:H}{h h':Heap}(e:bE G env r U Z h)(k:∀ b o,Fr env b→h.get? b=some o→h'.get? b=some o)(st:b7 h h'):bE G env r U Z h':=by
 refine o2x1 e fun m cm a=>?_;clear e
 refine⟨m,cm,a.kind,a.glb,a.ns.at' fun o eo=>k _ o (.inl rfl) eo,fun x c hc=>?_,fun b f=>?_,fun x i v h1 h2=>?_,a.gl⟩
 ·refine o1x2 (a.cell x c hc) fun o e1 e2=>?_
  exact⟨o,k _ _ (.inr ⟨x,hc⟩) e1,e2⟩
 ·refine o1x3 (a.own b f) fun o e1 e2 e3=>?_
  exact⟨o,k _ _ f e1,e2,e3⟩
 ·refine o1x2 (a.loc x i v h1 h2) fun val r1 r2=>?_
  exact⟨val,r1.stays st,r2⟩
theorem ln.touch{P:Params}{G:GT}{h₀:Heap}{F:Addr→Prop}{Z Z':H}{s s':Shared}{d:Addr}{h':Heap}{tk:Nat}(g:ln P G h₀ F Z s Z' s')(S:St P G h₀ Z s.heap)(hd:s.heap.get? d=none)(n:¬bu Z' d)(hs:∀ b x,b≠d→s'.heap.get? b=some x→h'.get? b=some x)(nfz:∀ o,s'.heap.get? d=some o→¬cu o) :
  ln P G h₀ F Z s Z' { s' with heap:=h',toks:=tk }:=by
 have hz:h₀.get? d=none:=by
  induction q:h₀.get? d using Option.casesOn with
  |none=>rfl
  |some x=>rw[S.base d x q] at hd;exact sn hd
 refine o2x1 g.eq fun h1 t1 e1=>?_
 exact⟨⟨h',tk,by(refine af e1 ?_;with_reducible rfl)⟩,g.st.touch n hz nfz hs,fun b x e no nf=>hs b x (fun q=>by subst q;rw[hd] at e;exact ns e) (g.keep b x e no nf),g.own⟩
section
variable {prog:Program} {w:World} {A:Around} {K:Frag} {G:GT} {h₀:Heap} {C:aN} {n:Nat} {env:PySem.Env} {r:Str→cO} {sc:Scope}
theorem v9(T:fh h₀ env r sc){x:Str}{i:Nat}{v:V}{U:Env}{Z:H}{s:Shared}{Q:Value→Shared→Prop}{X:Value→Shared→Prop}(e:bE G env r U Z s.heap)(hx:r x=.loc i)(hv:U i=some v)(h:∀ val,bg G s.heap val v→Q val s) :
  wpAny (model prog w) A (loadName env x) Q X s:=by
 refine o2x1 e fun m cm a=>?_;clear e
 refine o1x2 (a.loc x i v hx hv) fun val rv h1=>?_
 rcases h1 with⟨k,e⟩ | ⟨k,e,c,hc'⟩
 ·exact wpAny_loadName_local a.kind k a.ns e (h val rv)
 ·have cl:=a.cell x c hc'
  rw[e] at cl
  rcases T.known x i hx with k' | ⟨k',_⟩
  ·refine Or.elim k (fun k=>?_) (fun k=>?_)<;>rw[k] at k' <;>cases k'
  ·exact wpAny_loadName_cell a.kind k' hc' cl (h val rv)
theorem uB{op:Operator}{a b d:Int}{t u:Tok}{s:Shared}{Q:Value→Shared→Prop}{X:Value→Shared→Prop}(e:rP op a b=some d)(h:∀ t tk,Q (.int d t) { s with toks:=tk }):wpAny (model prog w) A (inplaceOp op (.int a t) (.int b u)) Q X s:=by
 unfold rP at e
 split at e
 ·obtain rfl:=aP e;exact PyProof.Rows.iadd_int (h _ _)
 ·obtain rfl:=aP e;exact PyProof.Rows.isub_int (h _ _)
 ·exact ns e
theorem lL(D:gL prog w K G h₀)(F:jw prog w G h₀ C n)(fit:dt n A)(T:fh h₀ env r sc){t e:Expr}{p:Pos}(okt:qc (some sc) t=true)(oke:bM e (some sc)=true)(hsole:swapsWithSole [t] e p.line env=pure false)(hsw:swappedStores [t] e env=pure none) :
  gZ prog w G h₀ C A env r (.Assign [t] e p) (.set (cT r t) (cE e r)):=by
 intro U Z s Q X en S h
 (rewrite[exec_Assign];refine af hsole ?_;refine af hsw ?_)
 refine wpAny_bind (wpAny_standAt (wpAny_bind (wpAny_pure ?_)))
 refine af (aD (by decide)) ?_
 have snd:=(kI D F fit _ e (Nat.le_refl _) (some sc) env r T.ctx oke).1
 refine wpAny_bind (a9 (α:=Unit) (snd U Z s _ X en S h) fun x v Zq sa h1 rv g1=>wpAny_bind (wpAny_pure ?_))
 have hst:(assignEach [t] env).map (·.2)=[assign t env]:=by
  induction gB okt using uJ.casesOn<;>rfl
 refine af hst ?_
 show wpAny _ _ (do assign t env v;pure Flow.next) _ _ _
 refine wpAny_bind (wpAny_mono (lg D F fit T okt (en.go S g1) g1.st rv h1) (fun _ sb ⟨U',Z',q,g2,e2⟩=>wpAny_pure ?_) fun za za e=>e)
 exact⟨.next,U',Z',q,rfl,(fY.of en g1).trans g2,e2⟩
set_option tactic.hygienic true in
theorem ky{t e:Expr}(h:vE t e=true)(ht:qc (some sc) t=true):swappedStores [t] e env=pure none∨
  ∃ x p x2 p2 k pp,t=.Tuple [.Name x p,.Name x2 p2] k pp∧x≠x2∧swappedStores [t] e env=pure (some [x,x2]):=by
 induction gB ht using uJ.casesOn with
 |name x p=>exact .inl rfl
 |two x p x2 p2 k pp=>
  induction e using Expr.casesOn with
  |Tuple vs k2 p3=>
   have h:(!(vs.all (constantsAlone 8)))=true:=h
   unfold swappedStores
   dsimp only
   split
   ·exact .inl rfl
   split
   ·exact .inl rfl
   split
   ·exact .inl rfl
   split
   ·exact .inl rfl
   ·rename_i q1 q2 q3 hd
    refine af (aD (by simpa using h)) ?_
    right
    simp only[List.filterMap_cons,List.filterMap_nil] at q3 ⊢
    generalize (env.kindOf x == some NameKind.local && p.line == (Option.map (fun x=>x.pos.line) [Expr.Name x p,Expr.Name x2 p2].head?).getD 0)=c1 at q3 ⊢
    generalize (env.kindOf x2 == some NameKind.local && p2.line == (Option.map (fun x=>x.pos.line) [Expr.Name x p,Expr.Name x2 p2].head?).getD 0)=c2 at q3 ⊢
    induction c1 using Bool.casesOn<;>induction c2 using Bool.casesOn
    ·exfalso;apply q3;rfl
    ·exfalso;apply q3;rfl
    ·exfalso;apply q3;rfl
    ·refine⟨x,p,x2,p2,k,pp,rfl,fun z=>?_,rfl⟩
     subst z
     apply q3
     simp[List.eraseDups_cons]
  |_=>exact .inl rfl
 |attr x a p _=>exact .inl rfl
 |sub x i p _=>exact .inl rfl
end
section
variable {prog:Program} {w:World} {A:Around} {K:Frag} {G:GT} {h₀:Heap} {C:aN} {n:Nat} {env:PySem.Env} {r:Str→cO} {sc:Scope}
theorem sx{U:Env}{i j:Nat}{a b:V}(h:i≠j):(U.set i a).set j b=(U.set j b).set i a:=by
 funext k
 unfold Env.set
 by_cases h1:k=i
 ·subst h1;simp[h]
 ·by_cases h2:k=j
  ·subst h2;simp[h1]
  ·simp[h1,h2]
theorem jH(D:gL prog w K G h₀)(F:jw prog w G h₀ C n)(fit:dt n A)(T:fh h₀ env r sc){e:Expr}{x x2:Str}{p p2 pp q:Pos}{k:Nat}(hne:x≠x2)(oke:bM e (some sc)=true)(hsole:swapsWithSole [.Tuple [.Name x p,.Name x2 p2] k pp] e q.line env=pure false)
  (hsw:swappedStores [.Tuple [.Name x p,.Name x2 p2] k pp] e env=pure (some [x,x2])) :
  gZ prog w G h₀ C A env r (.Assign [.Tuple [.Name x p,.Name x2 p2] k pp] e q) (.set (cT r (.Tuple [.Name x p,.Name x2 p2] k pp)) (cE e r)):=by
 intro U Z s Q X en S h
 (rewrite[exec_Assign];refine af hsole ?_;refine af hsw ?_)
 refine wpAny_bind (wpAny_standAt (wpAny_bind (wpAny_pure ?_)))
 refine af (aD (by decide)) ?_
 have snd:=(eR D F fit T oke).1
 refine wpAny_bind (a9 (α:=Unit) (snd U Z s _ X en S h) fun y v Zq sa h1 rv g1=>wpAny_bind (wpAny_pure ?_))
 refine o4x4 (sq h1) fun i j a b hx hx2 e6 qq=>?_;obtain rfl:=e6
 have hij:i≠j:=fun z=>by subst z;exact hne (T.inj x x2 i hx hx2)
 have en1:=en.go S g1
 have S1:=g1.st
 refine o3x2 rv.tup_inv fun ta us nn e3 q9=>?_;refine af e3 ?_;refine o0x3 q9 fun o1 r1 z=>?_;clear q9
 obtain⟨us⟩:=us
 have r1':bw G sa.heap us [a,b]:=r1
 refine o2x2 (g9 r1') fun va vb e2 q9=>?_;obtain rfl:=e2;refine o0x2 q9 fun ra rb=>?_;clear q9
 show wpAny _ _ (do
  rule "assign.swapped-stores"
  let items ← unpackItems (.ref ta) 2 none
  assignInOrder ([x2,x].map fun n=>bindName env n) items.reverse
  pure Flow.next) _ _ _
 refine wpAny_bind (wpAny_rule (wpAny_bind (wpAny_unpackItems_tuple (items:=#[va,vb]) fit.handled ⟨_,o1,rfl,nn,rfl⟩ fun h1 hx1=>?_)))
 show wpAny _ _ (do (do holding [va] (bindName env x2 vb);(do holding [] (bindName env x va);pure ()));pure Flow.next) _ _ _
 have k1:∀ b o,sa.heap.get? b=some o→h1.get? b=some o:=fun b o eo=>hx1 b o (Nat.ne_of_lt (Heap.lt_size eo)) eo
 have g2:Go w.params G h₀ Zq sa Zq { sa with heap:=h1 }:=Go.ext S1 (tk:=sa.toks) k1
 have en2:=en1.go S1 g2
 refine wpAny_bind (wpAny_bind (wpAny_holding (wpAny_bindName (eP T hx2 en2 g2.st (g2.rep S1 rb) fun s2 g3 en3=>?_))))
 refine wpAny_bind (wpAny_holding (wpAny_bindName (eP T hx en3 g3.st ((g2.rep S1 ra).stays (fY.stays en2 g2.st g3)) fun s3 g4 en4=>wpAny_pure (wpAny_pure ?_))))
 rw[← sx hij] at en4
 exact⟨.next,_,_,qq,rfl,(((fY.of en g1).trans (fY.of en1 g2)).trans g3).trans g4,en4⟩
theorem mY(D:gL prog w K G h₀)(F:jw prog w G h₀ C n)(fit:dt n A)(T:fh h₀ env r sc){el:Expr}{gs:List Comprehension}{csc:Scope}{x:Str}{px p q:Pos}(oke:bM (.ListComp el gs csc p) (some sc)=true)(hsole:swapsWithSole [.Name x px] (.ListComp el gs csc p) q.line env=pure true) :
  gZ prog w G h₀ C A env r (.Assign [.Name x px] (.ListComp el gs csc p) q) (.set (cT r (.Name x px)) (cE (.ListComp el gs csc p) r)):=by
 intro U Z s Q X en S h
 (rewrite[exec_Assign];refine af hsole ?_)
 refine wpAny_bind (wpAny_standAt (wpAny_bind (wpAny_pure ?_)))
 refine af (aG rfl) ?_
 refine o0x2 (dg (a:=bM el none) (b:=Da gs csc sc) oke) fun ok1 ok2=>?_
 refine o3x1 (qa ok2) fun t it ifs e3=>?_;obtain rfl:=e3
 ·replace ok2:=AE (a:=bM it (some sc)) (b:=fW ifs none) (c:=nt csc t) (d:=dE it) (e:=nu csc sc) ok2
  have c:=T.ctx
  have B:=uA ok2.2 c
  have cn:∀ Cc,AX none (compEnvC csc (da env csc.names []) Cc env) (cP (aX csc) r):=fun Cc sc q=>by exact ns q
  have h1:=kI D F fit _ it (Nat.le_refl _) (some sc) env r c ok2.1.1.1.1
  have h2:∀ Cc,oo prog w G h₀ C A (compEnvC csc (da env csc.names []) Cc env) (cP (aX csc) r) el (cE el (cP (aX csc) r)):=fun Cc=>kI D F fit _ el (Nat.le_refl _) none _ _ (cn Cc) ok1
  have h3:∀ Cc,d9 prog w G h₀ C A (compEnvC csc (da env csc.names []) Cc env) (cP (aX csc) r) ifs (qA ifs (cP (aX csc) r)):=fun Cc=>jr ok2.1.1.1.2 fun e' he' h'=>kI D F fit _ e' (Nat.le_refl _) none _ _ (cn Cc) h'
  have hc:cE (.ListComp el [⟨t,it,ifs,0⟩] csc p) r=.comp (cE el (cP (aX csc) r)) (jt (cP (aX csc) r) t) (cE it r) (qA ifs (cP (aX csc) r)):=rfl
  rw[hc] at h
  show wpAny _ _ (do
   (do let _ ← comprehension (.ListComp el [⟨t,it,ifs,0⟩] csc p) csc env it.pos (newList []) false (eval it env) (some fun v=>assignAll v [assign (.Name x px) env]))
   pure Flow.next) _ _ _
  refine wpAny_bind (wpAny_bind (wpAny_mono (kZ (R:=fun za s'=>wpAny (model prog w) A (pure Flow.next) (rV w.params G h₀ env r Z s Q) X s') fit.handled B ok2.1.1.2 S en ok2.1.2 h1.1 (fun Cc=>(h2 Cc).1) h3 h ?_) (fun za s' z=>wpAny_pure z) fun za za e=>e))
  intro Zq sa D' Cc Z' s' m g1 g2 qq hn hcc no
  have en1:=en.go S g1
  have en2:=en1.go g1.st g2
  show wpAny _ _ (assign (.Name x px) env (.ref D')) _ _ _
  refine o1x2 (pR qq) fun i hx qq=>?_
  refine wpAny_assign_Name (eP T hx en2 g2.st (.ref D') fun s2 g3 en3=>?_)
  have hcf:¬Fr env Cc:=fun f=>by
   refine o2x1 en1 fun m' cm' a=>?_;clear en1
   refine o1x2 (a.own Cc f) fun o ho za=>?_
   rw[hcc] at ho;exact ns ho
  have hn3:s2.heap.Ns Cc m:=hn.at' fun o eo=>g3.keep _ _ eo no hcf
  have no3:¬bu Z' Cc:=no
  refine⟨m,hn3,fun h' hs=>wpAny_pure ?_⟩
  have ge:fY w.params G h₀ env Zq sa Z' s2:=(fY.of en1 g2).trans g3
  have gt:=ge.touch (h':=h') (tk:=s2.toks) g1.st hcc no3 (fun b x hb hx=>hs.extBut b x hb hx) (ja hn3)
  refine⟨.next,_,Z',qq,rfl,(fY.of en g1).trans gt,?_⟩
  refine en3.move (fun b o f eo=>hs.extBut b o (fun z=>hcf (z▸f)) eo) fun b o eo c=>hs.extBut b o (fun z=>by subst z;exact ja hn3 o eo c) eo
theorem qg{e:Expr}(h:fO e=true){t:Option Expr}{l:Nat}:swapsWith e t l env=pure false:=by
 revert h
 induction e using Expr.casesOn with
 |ListComp=>exact ff
 |SetComp=>exact ff
 |DictComp=>exact ff
 |_=>exact fun _z=>rfl
theorem vr(D:gL prog w K G h₀)(F:jw prog w G h₀ C n)(fit:dt n A)(T:fh h₀ env r sc){t e:Expr}{p:Pos}(okt:qc (some sc) t=true)(oke:bM e (some sc)=true)(hsw:vE t e=true)(hcomp:fO e=true∨∃ el gs csc q,e=.ListComp el gs csc q) :
  gZ prog w G h₀ C A env r (.Assign [t] e p) (.set (cT r t) (cE e r)):=by
 have plain:swapsWithSole [t] e p.line env=pure false→gZ prog w G h₀ C A env r (.Assign [t] e p) (.set (cT r t) (cE e r)):=fun hsole=>by
  rcases ky (env:=env) hsw okt with h | ⟨x,p1,x2,p2,k,pp,rfl,hne,h⟩
  ·exact lL D F fit T okt oke hsole h
  ·exact jH D F fit T hne oke hsole h
 rcases hcomp with h | ⟨el,gs,csc,q,rfl⟩
 ·refine plain ?_
  exact qg h
 ·induction gB okt using uJ.casesOn with
  |name x px=>
   have:∃ b,swapsWithSole [.Name x px] (.ListComp el gs csc q) p.line env=pure b:=⟨_,rfl⟩
   obtain⟨b,hb⟩:=this
   induction b using Bool.casesOn with
   |false=>exact plain hb
   |true=>exact mY D F fit T oke hb
  |two=>exact plain rfl
  |attr=>exact plain rfl
  |sub=>exact plain rfl
end
section
variable {prog:Program} {w:World} {A:Around} {R:Result→Shared→Prop} {s:Shared}
theorem tS{target:Expr}{it:Value}{body orelse:List Stmt}{env:PySem.Env}(I:Nat→Shared→Prop)
  (turn:∀ n s,I n s→wpAny (model prog w) A (pyNext it) (fun r sa=>match r with
   |none=>wpAny (model prog w) A (execs orelse env) (fun f se=>R (.ok f) se) (notedBy (model prog w) A env fun e s'=>R (.error e) s') sa
   |some v=>wpAny (model prog w) A (letOwnedTupleGo target it v) (fun za sa=>wpAny (model prog w) A (assign target env v) (fun za sb=>wpAny (model prog w) A (execs body env) (fun f se=>match f with
     |.next | .cont=>∃ m,m<n∧I m se
     |.brk=>R (.ok .next) se
     |.ret v=>R (.ok (.ret v)) se) (notedBy (model prog w) A env fun e s'=>R (.error e) s') sb) (notedBy (model prog w) A env fun e s'=>R (.error e) s') sa) (notedBy (model prog w) A env fun e s'=>R (.error e) s') sa) (notedBy (model prog w) A env fun e s'=>R (.error e) s') s)
  (n:Nat) (h:I n s):codeAny (model prog w) A (.forLoop target it body orelse env) R s:=by
 refine codeAny_loop' rfl I (fun n s hI=>?_) n h
 show wpAny _ _ ((forTurn target it body orelse env).onRaise (fun x=>do noteFrame x env;theTreesLotGoes x)) _ _ s
 refine wpAny_noted ?_
 rw[forTurn]
 refine wpAny_bind (wpAny_standAt (wpAny_bind (wpAny_onRaise (wpAny_mono (turn n s hI) (fun r sa h₁=>?_) fun za za h'=>wpAny_standAt h'))))
 induction r using Option.casesOn with
 |none=>exact wpAny_pure (.inr ⟨rfl,codeAny_block h₁⟩)
 |some v=>
  refine wpAny_bind (wpAny_mono h₁ (fun za sb h₂=>wpAny_bind (wpAny_mono h₂ (fun za se h₃=>wpAny_bind (wpAny_mono h₃ (fun f s4 h₄=>?_) fun za za e=>e)) fun za za e=>e)) fun za za e=>e)
  induction f using Flow.casesOn with
  |next=>exact wpAny_pure (.inl ⟨rfl,h₄⟩)
  |cont=>exact wpAny_pure (.inl ⟨rfl,h₄⟩)
  |brk=>exact wpAny_pure h₄
  |ret v=>exact wpAny_pure h₄
end
section
variable {prog:Program} {w:World} {A:Around} {K:Frag} {G:GT} {h₀:Heap} {C:aN} {n:Nat} {env:PySem.Env} {r:Str→cO} {sc:Scope}
theorem ln.notOwned{P:Params}{F:Addr→Prop}{Z Z':H}{s s':Shared}(g:ln P G h₀ F Z s Z' s'){b:Addr}{o:Obj}(e:s.heap.get? b=some o)(no:¬bu Z b):¬bu Z' b:=fun q=>by
 rcases g.own b q with q | ⟨q,_⟩
 ·exact no q
 ·rw[e] at q;exact sn q
noncomputable def lk(prog:Program)(w:World)(G:GT)(h₀:Heap)(C:aN)(A:Around)(env:PySem.Env)(r:Str→cO)(l:List Stmt)(cs:List Mine.C):Prop:=
 ∀ U Z s Q X,bE G env r U Z s.heap→St w.params G h₀ Z s.heap→eO C cs U Q Z→wpAny (model prog w) A (execs l env) (rV w.params G h₀ env r Z s Q) X s
theorem n8{l:List Stmt}:iL l sc=true→(∀ t ∈ l,BE t sc=true→gZ prog w G h₀ C A env r t (cS t r))→lk prog w G h₀ C A env r l (mA l r):=by
 induction l with
 |nil=>intro _ _ U Z s Q X e S h;exact wpAny_execs_nil ⟨.next,U,Z,h,rfl,ln.refl S,e⟩
 |cons t l ih=>
  intro ok f U Z s Q X e S h
  replace ok:=dg (a:=BE t sc) (b:=iL l sc) ok
  refine wpAny_execs_cons (wpAny_mono (f t (.head _) ok.1 U Z s _ X e S h) (fun fl sa p0=>?_) fun za za e=>e)
  refine o3x4 p0 fun g Ua Zq q hf g1 e1=>?_;clear p0
  induction g using Fl.casesOn with
  |next=>
   obtain rfl:=hf
   exact wpAny_mono (ih ok.2 (fun t ht=>f t (.tail _ ht)) Ua Zq sa Q X e1 g1.st q) (fun za za o=>o.back g1) fun za za e=>e
  |ret x=>
   refine o1x2 hf fun v e1 rv=>?_;clear hf;obtain rfl:=e1
   exact⟨.ret x,Ua,Zq,q,⟨v,rfl,rv⟩,g1,e1⟩
theorem kA{t:Expr}{x:V}{U U':Env}{Z:H}(h:cL (jt r t) x U=some U')(ht:qc none t=true)(h1:dD t=true)(h2:jR t=true):dM C (cT r t) x U (fun U'' Z''=>U''=U'∧Z''=Z) Z:=by
 induction gB ht using uJ.casesOn with
 |name n p=>
  refine o1x2 (lb h) fun i hi e2=>?_;refine af e2 ?_
  show dM C (match jt r (.Name n p) with | [i]=>.v i | _=>.bad) _ _ _ _
  refine af (mz hi) ?_;exact⟨rfl,rfl⟩
 |two n p n2 p2 k pp=>
  refine o4x4 (n9 h) fun i j a b hi hj e6 q9=>?_;refine af e6 ?_;refine af q9 ?_
  show dM C (match jt r (.Tuple [.Name n p,.Name n2 p2] k pp) with | [i,j]=>.v2 i j | _=>.bad) _ _ _ _
  refine af (my hi hj) ?_;exact⟨_,rfl,rfl,rfl⟩
 |attr=>exact ff h1
 |sub=>exact ff h2
theorem s7{t:Expr}(ht:qc none t=true)(h1:dD t=true)(h2:jR t=true){o:Option Scope}:qc o t=true:=by
 induction gB ht using uJ.casesOn with
 |name | two=>rfl
 |attr=>exact ff h1
 |sub=>exact ff h2
theorem wF(D:gL prog w K G h₀)(F:jw prog w G h₀ C n)(fit:dt n A)(T:fh h₀ env r sc){t it:Expr}{b:List Stmt}{p:Pos}(ht:qc none t=true)(h1:dD t=true)(h2:jR t=true)(oki:bM it (some sc)=true)(hset:dE it=true)
  (hb:lk prog w G h₀ C A env r b (mA b r)):gZ prog w G h₀ C A env r (.For t it b [] p) (.for_ (jt r t) (cE it r) (mA b r)):=by
 intro U Z s Q X en S h
 have okt:qc (some sc) t=true:=s7 ht h1 h2
 have hfs:∀ x,foldedSetIterable it env x=pure x:=kW hset
 refine wpAny_For (a9 (α:=Unit) ((kI D F fit _ it (Nat.le_refl _) (some sc) env r T.ctx oki).1 U Z s _ X en S h) fun y iv Zq sa hh rv g1=>?_) hfs
 refine o1x2 hh fun xs hxs hl=>?_;clear hh
 have S1:=g1.st
 have en1:=en.go S g1
 refine nB S1 rv hxs fun oI hoI it0=>?_
 have hI:sa.heap.get? sa.heap.objs.size=none:=dP _
 have hIf:¬Fr env sa.heap.objs.size:=fun f=>by
  refine o2x1 en1 fun m' cm' a=>?_;clear en1
  refine o1x2 (a.own _ f) fun o ho za=>?_
  rw[hI] at ho;exact ns ho
 have g2:Go w.params G h₀ Zq sa Zq { sa with heap:=sa.heap.push oI }:=Go.push S1 oI sa.toks
 refine tS (fun m s'=>∃ k U' Z',m=xs.length+1 - k∧k≤xs.length∧fY w.params G h₀ env Zq sa Z' s'∧fJ s'.heap sa.heap.objs.size k iv y∧bg G s'.heap iv y∧¬bu Z' sa.heap.objs.size∧bp Z' y=some xs∧bE G env r U' Z' s'.heap∧
  l9 (fun Z'=>bp Z' y=some xs) (fun x U'=>cL (jt r t) x U') (fun U' K' Z'=>eO C (mA b r) U' K' Z') (xs.drop k) U' Q Z') ?_ _
  ⟨0,U,Zq,rfl,Nat.zero_le _,fY.of en1 g2,it0,g2.rep S1 rv,S1.fresh hI,hxs,en1.go S1 g2,hl⟩
 intro m s' p0;refine o3x2 p0 fun k U' Z' e3 q9=>?_;clear p0;obtain rfl:=e3;refine o0x8 q9 fun hk g3 itk rvk nI live enk hl=>?_;clear q9
 refine cN fun PP kk=>?_
 refine o1x3 itk.obj fun oI' hoI' nfI za=>?_
 refine kk ?_
 refine Or.elim (Nat.lt_or_ge k xs.length) (fun hlt=>?_) (fun hge=>?_)
 ·have hx:xs[k]? = some xs[k]:=List.getElem?_eq_getElem hlt
  (rewrite[List.drop_eq_getElem_cons hlt] at hl;rw[l9] at hl)
  refine o1x2 hl fun U1 hbind hl=>?_
  refine kQ g3.st rvk live itk hx fun u h' tk ru it1 hs1=>?_
  have g4:fY w.params G h₀ env Zq sa Z' { s' with heap:=h',toks:=tk }:=g3.touch S1 hI nI (fun b x hb hx=>hs1.extBut b x hb hx) (fun o eo=>by rw[hoI'] at eo;obtain rfl:=aP eo;exact nfI)
  have st1:b7 s'.heap h':=fun b o eo c=>hs1.extBut b o (fun q=>by subst q;rw[hoI'] at eo;obtain rfl:=aP eo;exact nfI c) eo
  have en4:bE G env r U' Z' h':=enk.move (fun b o f eo=>hs1.extBut b o (fun q=>hIf (q▸f)) eo) st1
  refine jb (s:={ s' with heap:=h',toks:=tk }) it1 ?_
  refine wpAny_mono (lg (s:={ s' with heap:=h',toks:=tk }) D F fit T okt en4 g4.st (ru.stays st1) (kA hbind ht h1 h2)) (fun _ s5 p0=>?_) fun za za e=>e
  refine o2x3 p0 fun ρ5 Z5 q2 g5 en5=>?_;clear p0;obtain⟨q1,q2⟩:=q2
  refine cN fun PP kk=>?_
  subst q1 q2
  refine o1x3 it1.obj fun oI5 hoI5 nfI5 za=>?_
  have keepI:∀ {Z'' s''},fY w.params G h₀ env Z5 { s' with heap:=h',toks:=tk } Z'' s''→fJ s''.heap sa.heap.objs.size (k+1) iv y∧¬bu Z'' sa.heap.objs.size:=fun g=>⟨it1.same fun o eo=>g.keep _ _ eo nI hIf,g.notOwned hoI5 nI⟩
  refine kk ?_
  refine wpAny_mono (hb _ _ _ _ _ en5 g5.st hl) (fun f s6 p0=>?_) fun za za e=>e
  refine o3x4 p0 fun fl U6 Z6 q hf g6 en6=>?_;clear p0
  have gg:=g5.trans g6
  induction fl using Fl.casesOn with
  |next=>
   skip
   subst hf
   refine o0x2 (keepI gg) fun it6 n6=>?_
   exact⟨_,by omega,k+1,U6,Z6,rfl,hlt,g4.trans gg,it6,(rvk.stays st1).stays (fY.stays en4 g4.st gg),n6,q.1,en6,q.2⟩
  |ret x=>
   refine o1x2 hf fun v e1 rv'=>?_;clear hf;obtain rfl:=e1
   exact⟨.ret x,U6,Z6,q,⟨v,rfl,rv'⟩,((fY.of en g1).trans g4).trans gg,en6⟩
 ·have:k=xs.length:=Nat.le_antisymm hk hge
  subst this
  (rewrite[List.drop_length] at hl;rw[l9] at hl)
  refine nG fit.handled g3.st rvk live itk (Nat.le_refl _) fun h' hs=>wpAny_execs_nil ?_
  have st1:b7 s'.heap h':=fun b o eo c=>hs b o (fun q=>by subst q;rw[hoI'] at eo;obtain rfl:=aP eo;exact nfI c) eo
  have g4:fY w.params G h₀ env Zq sa Z' { s' with heap:=h',toks:=s'.toks }:=g3.touch S1 hI nI (fun b x hb hx=>hs b x hb hx) (fun o eo=>by rw[hoI'] at eo;obtain rfl:=aP eo;exact nfI)
  exact⟨.next,U',Z',hl,rfl,(fY.of en g1).trans g4,enk.move (fun b o f eo=>hs b o (fun q=>hIf (q▸f)) eo) st1⟩
theorem tX(D:gL prog w K G h₀)(F:jw prog w G h₀ C n)(fit:dt n A)(T:fh h₀ env r sc){e:Expr}{p:Pos}(oke:bM e (some sc)=true)(hc:fO e=true):gZ prog w G h₀ C A env r (.Expr e p) (.ex (cE e r)):=by
 intro U Z s Q X en S h
 have hi:interactive env=false:=by
  refine o2x1 en fun m' cm' a=>?_;clear en
  delta interactive;refine af a.kind ?_;rfl
 refine wpAny_Expr_any (a9 (α:=Unit) ((eR D F fit T oke).1 U Z s _ X en S h) fun x v Zq sa h1 rv g1=>?_) hi (qg hc)
 exact⟨.next,U,Zq,h1,rfl,fY.of en g1,en.go S g1⟩
theorem vz(D:gL prog w K G h₀)(F:jw prog w G h₀ C n)(fit:dt n A)(T:fh h₀ env r sc){e:Expr}{p:Pos}(oke:bM e (some sc)=true):gZ prog w G h₀ C A env r (.Return (some e) p) (.ret (cE e r)):=fun U Z s Q X en S h=>
 wpAny_Return_some (a9 (α:=Unit) ((eR D F fit T oke).1 U Z s _ X en S h) fun x v Zq sa h1 rv g1=>⟨.ret x,U,Zq,h1,⟨v,rfl,rv⟩,fY.of en g1,en.go S g1⟩)
theorem uC(D:gL prog w K G h₀)(F:jw prog w G h₀ C n)(fit:dt n A)(T:fh h₀ env r sc){x:Str}{px p:Pos}{op:Operator}{e:Expr}(oke:bM e (some sc)=true):gZ prog w G h₀ C A env r (.AugAssign (.Name x px) op e p) (match r x with | .loc i=>.augV i op (cE e r) | _=>.bad):=by
 intro U Z s Q X en S h
 induction hx:r x using cO.casesOn with
 |loc i=>
  rw[hx] at h
  refine o1x2 h fun a ha h=>?_
  refine wpAny_AugAssign_Name (v9 T en hx ha fun val rv=>?_)
  refine aH rv.int_inv fun t e1=>?_;refine af e1 ?_
  refine a9 (α:=Unit) ((eR D F fit T oke).1 U Z s _ X en S h) fun y v Zq sa h1 ry g1=>?_
  refine o2x2 h1 fun c d e2 q9=>?_;clear h1;obtain rfl:=e2;refine o0x2 q9 fun hd q=>?_;clear q9
  refine aH ry.int_inv fun u e1=>?_;refine af e1 ?_
  refine uB hd fun t' tk=>?_
  have g2:=g1.trans (Go.tok g1.st tk)
  exact eP (s:={ sa with toks:=tk }) T hx (en.go S g2) g1.st (.int d t') fun s2 g3 e3=>⟨.next,_,Zq,q,rfl,(fY.of en g2).trans g3,e3⟩
 |_=>rw[hx] at h;exact False.elim h
set_option tactic.hygienic true in
theorem rR{o:V}{x:Str}{u:V}{Z:H}(h:cR Z o (ix x)=some u):cw (ix x)=x:=by
 refine iM ?_
 delta cR at h
 split at h
 ·split at h
  ·split at h
   ·rename_i hc;exact(gn _ _ hc).1
   ·exact ns h
  ·exact ns h
 ·exact ns h
theorem uD(D:gL prog w K G h₀)(F:jw prog w G h₀ C n)(fit:dt n A)(T:fh h₀ env r sc){o:Expr}{a:Str}{ap p:Pos}{op:Operator}{e:Expr}(oko:bM o (some sc)=true)(oke:bM e (some sc)=true):gZ prog w G h₀ C A env r (.AugAssign (.Attribute o a ap) op e p) (.augA (cE o r) (ix a) op (cE e r)):=by
 intro U Z s Q X en S h
 refine wpAny_AugAssign_AttributeAny (a9 (α:=Unit) ((eR D F fit T oko).1 U Z s _ X en S h) fun y v Zq sa h1 ry g1=>?_)
 refine o1x2 h1 fun u hu h1=>?_
 have g1':=fun tk=>g1.trans (Go.tok g1.st tk)
 refine br (rR hu) ?_
 refine qC g1.st D.X D.cls ry hu fun old tk rold=>?_
 refine aH rold.int_inv fun t e1=>?_;refine af e1 ?_
 refine a9 (α:=Unit) ((eR D F fit T oke).1 U Zq { sa with toks:=tk } _ X (en.go S (g1' tk)) g1.st h1) fun z zv Zr sb h2 rz g2=>?_
 refine o2x2 h2 fun c d e2 q9=>?_;clear h2;obtain rfl:=e2;obtain⟨hd,Z',hs,q⟩:=q9
 refine aH rz.int_inv fun u' e1=>?_;refine af e1 ?_
 refine uB hd fun t' tk'=>?_
 have g3:=((g1' tk).trans g2).trans (Go.tok g2.st tk')
 exact jK (s:={ sb with toks:=tk' }) g2.st D.X D.cls (g2.rep (s:={ sa with toks:=tk }) g1.st ry) (.int d t') hs fun s3 g4=>⟨.next,U,Z',q,rfl,fY.of en (g3.trans g4),en.go S (g3.trans g4)⟩
theorem yY(D:gL prog w K G h₀)(F:jw prog w G h₀ C n)(fit:dt n A)(T:fh h₀ env r sc){t:Expr}{a b:List Stmt}{p:Pos}(okt:bM t (some sc)=true)(ha:lk prog w G h₀ C A env r a (mA a r))(hb:lk prog w G h₀ C A env r b (mA b r)):gZ prog w G h₀ C A env r (.If t a b p) (.ite (cE t r) (mA a r) (mA b r)):=by
 intro U Z s Q X en S h
 replace h:=du.mp h
 refine wpAny_If (eG ((eR D F fit T okt).2 U Z s _ X en S h) fun c Zq sa h1 g1=>?_)
 induction c using Bool.casesOn with
 |true=>exact wpAny_mono (ha U Zq sa Q X (en.go S g1) g1.st (h1.1 rfl)) (fun za za o=>o.back (fY.of en g1)) fun za za e=>e
 |false=>exact wpAny_mono (hb U Zq sa Q X (en.go S g1) g1.st (h1.2 rfl)) (fun za za o=>o.back (fY.of en g1)) fun za za e=>e
theorem xY(D:gL prog w K G h₀)(F:jw prog w G h₀ C n)(fit:dt n A)(T:fh h₀ env r sc){t:Expr}{b:List Stmt}{p:Pos}(okt:bM t (some sc)=true)(hb:lk prog w G h₀ C A env r b (mA b r)):gZ prog w G h₀ C A env r (.While t b [] p) (.wh (cE t r) (mA b r)):=by
 intro U Z s Q X en S h
 refine aH h fun k h=>?_
 refine wpAny_While (codeAny_whileLoop (fun k s'=>∃ U' Z',fY w.params G h₀ env Z s Z' s'∧bE G env r U' Z' s'.heap∧
  iy (fun U' K' Z'=>oq C (cE t r) U' (dd C (cE t r) U') K' Z') (fun U' K' Z'=>eO C (mA b r) U' K' Z') k U' Q Z') ?_ k ⟨U,Z,ln.refl S,en,h⟩)
 intro k s' p0;refine o2x3 p0 fun U' Z' g e' h=>?_;clear p0
 induction k using Nat.casesAuxOn with
 |zero=>exact False.elim h
 |succ k=>
  replace h:=du.mp h
  refine eG ((eR D F fit T okt).2 U' Z' s' _ _ e' g.st h) fun c Zq sa h1 g1=>?_
  induction c using Bool.casesOn with
  |true=>
   refine af (aG rfl) ?_
   refine wpAny_mono (hb U' Zq sa _ _ (e'.go g.st g1) g1.st (h1.1 rfl)) (fun f sb p0=>?_) fun za za e=>e
   refine o3x4 p0 fun fl U2 Z2 q hf g2 e2=>?_;clear p0
   have gg:=(g.trans (fY.of e' g1)).trans g2
   induction fl using Fl.casesOn with
   |next=>refine af hf ?_;exact⟨k,Nat.lt_succ_self _,U2,Z2,gg,e2,q⟩
   |ret x=>
    refine o1x2 hf fun v e1 rv=>?_;clear hf;refine af e1 ?_
    exact⟨.ret x,U2,Z2,q,⟨v,rfl,rv⟩,gg,e2⟩
  |false=>
   refine af (aD Bool.false_ne_true) ?_
   exact wpAny_execs_nil ⟨.next,U',Zq,h1.2 rfl,rfl,g.trans (fY.of e' g1),e'.go g.st g1⟩
theorem vD{t e:Expr}(oke:bM e (some sc)=true)(hc:¬fO e=true):∃ a b c d,e=.ListComp a b c d:=by
 induction e using Expr.casesOn<;>first | exact absurd rfl hc | exact⟨_,_,_,_,rfl⟩ | exact ff oke
theorem im{m:Nat}(ih:∀ t:Stmt,sizeOf t<m→BE t sc=true→gZ prog w G h₀ C A env r t (cS t r)){l:List Stmt}(hl:sizeOf l<m)(h:iL l sc=true):lk prog w G h₀ C A env r l (mA l r):=
 n8 h fun t ht h'=>ih t (Nat.lt_trans (List.sizeOf_lt_of_mem ht) hl) h'
theorem yi(D:gL prog w K G h₀)(F:jw prog w G h₀ C n)(fit:dt n A)(T:fh h₀ env r sc):∀ (m:Nat) (t:Stmt),sizeOf t<m→BE t sc=true→gZ prog w G h₀ C A env r t (cS t r):=by
 intro m
 induction m with
 |zero=>intro t ht;exact absurd ht (Nat.not_lt_zero _)
 |succ m ih=>
  intro t hsz ok
  induction t using Stmt.casesOn with
  |Expr e p=>exact tX D F fit T (dg (a:=bM e (some sc)) ok).1 (dg (b:=fO e) ok).2
  |Return e p=>
   induction e using Option.casesOn with
   |none=>exact ff ok
   |some e=>exact vz D F fit T ok
  |Assign ts e p=>
   induction ts using List.casesOn with
   |nil=>exact ff ok
   |cons t ts=>induction ts using List.casesOn with
    |cons _ _=>exact ff ok
    |nil=>
     replace ok:=pB (a:=qc (some sc) t) (b:=bM e (some sc)) (c:=vE t e) ok
     refine vr D F fit T ok.1.1 ok.1.2 ok.2 ?_
     by_cases hc:fO e=true
     ·exact .inl hc
     ·exact .inr (vD (t:=t) ok.1.2 hc)
  |AugAssign t op e p=>
   induction t using Expr.casesOn with
   |Name x px=>exact uC D F fit T (dg (b:=bM e (some sc)) ok).2
   |Attribute o a ap=>exact uD D F fit T (dg (a:=bM o (some sc)) ok).1 (dg (b:=bM e (some sc)) ok).2
   |_=>exact ff ok
  |If t a b p=>
   replace ok:=pB (a:=bM t (some sc)) (b:=iL a sc) (c:=iL b sc) ok
   exact yY D F fit T ok.1.1 (im ih (zz (AZ (Stmt.If.sizeOf_spec ..)) hsz) ok.1.2) (im ih (zz (AY (Stmt.If.sizeOf_spec ..)) hsz) ok.2)
  |While t b oe p=>
   induction oe using List.casesOn with
   |cons _ _=>exact ff ok
   |nil=>
    replace ok:=dg (a:=bM t (some sc)) (b:=iL b sc) ok
    exact xY D F fit T ok.1 (im ih (zz (AZ (Stmt.While.sizeOf_spec ..)) hsz) ok.2)
  |For t it b oe p=>
   induction oe using List.casesOn with
   |cons _ _=>exact ff ok
   |nil=>
    replace ok:=EP (a:=qc none t) (b:=dD t) (c:=jR t) (d:=bM it (some sc)) (e:=dE it) (f:=iL b sc) ok
    exact wF D F fit T ok.1.1.1.1.1 ok.1.1.1.1.2 ok.1.1.1.2 ok.1.1.2 ok.1.2 (im ih (by simp at hsz;lia) ok.2)
  |Raise e c p=>exact fun U Z s Q X en S h=>False.elim h
  |_=>exact ff ok
end
theorem jV{x:Str}(hx:fX x≠0):∀ {names:List (Str×NameKind)} {i:Nat} {k:NameKind},names.lookup x=some k→∃ j,fB (names.map fun p=>(fX p.1,p.2)) (fX x) i=some (j,k)
 |[],i,k,h=>by simp at h
 |(n,k')::r,i,k,h=>by
  rw[List.lookup_cons] at h
  (refine af List.map_cons ?_;rw[fB])
  induction z:x == n using Bool.casesOn with
  |true=>
   rw[z] at h;obtain rfl:=aP h
   refine af (aG (by rw[beq_iff_eq.mp z])) ?_
   exact⟨i,rfl⟩
  |false=>
   rw[z] at h
   have:¬fX n=fX x:=fun q=>by
    have:=mj hx q.symm
    rw[this] at z;simp at z
   refine af (aD this) ?_
   exact jV hx h
theorem q4:∀ {l:List Nat},jS l=true→l.Nodup
 |[],_=>List.nodup_nil
 |a::l,h=>by
  unfold jS at h
  (rewrite[Bool.and_eq_true] at h;rw[Bool.not_eq_true'] at h)
  exact List.nodup_cons.mpr ⟨by simpa using h.1,q4 h.2⟩
theorem cQ:∀ (names:List (Str×NameKind)) (k:Nat) (acc:List (Str×Addr)) (x:Str),(acc.lookup x).isSome=true∨names.lookup x=some .cell→((cellsFrom k names acc).lookup x).isSome=true
 |[],k,acc,x,h=>by
  rcases h with h | h
  ·exact h
  ·simp at h
 |(n,kd)::r,k,acc,x,h=>by
  unfold cellsFrom
  have up:∀ c,(acc.lookup x).isSome=true→(((n,c)::acc).lookup x).isSome=true:=fun c q=>by
   refine af List.lookup_cons ?_
   induction x == n using Bool.casesOn with
   |true=>rfl
   |false=>exact q
  rcases h with h | h
  ·split
   ·exact cQ r _ _ x (.inl (up k h))
   ·exact cQ r _ _ x (.inl h)
  ·rw[List.lookup_cons] at h
   induction z:x == n using Bool.casesOn with
   |true=>
    rw[z] at h;refine af (aP h) ?_
    refine af (aG (by decide)) ?_
    refine cQ r _ _ x (.inl ?_)
    (refine af List.lookup_cons ?_;refine af z ?_);rfl
   |false=>
    rw[z] at h
    split
    ·exact cQ r _ _ x (.inr h)
    ·exact cQ r _ _ x (.inr h)
theorem vF{c:Option Nat}{f:Nat}{fd:FD}(h:pe c f=some fd):vG fd=true:=by
 refine List.all_eq_true.mp AF fd ?_
 induction c using Option.casesOn with
 |none=>
  have hf:f<78:=by
   delta pe at h
   dsimp only at h
   split at h
   ·assumption
   ·exact ns h
  exact List.mem_append_left _ (List.mem_filterMap.mpr ⟨f,List.mem_range.mpr hf,h⟩)
 |some c=>
  have hf:fP.contains (c,f)=true:=by
   delta pe at h
   dsimp only at h
   split at h
   ·assumption
   ·exact ns h
  exact List.mem_append_right _ (List.mem_filterMap.mpr ⟨(c,f),by simpa using hf,h⟩)
section
variable {prog:Program} {w:World} {A:Around} {K:Frag} {G:GT} {h₀:Heap} {n:Nat}
theorem qZ{sc:Scope}{kind:Str→Option NameKind}{h:Heap}(hk:∀ x,kind x=sc.names.lookup x)(ps:List Str):∀ (vals:List Value) (vs:List V) (m cm:Str→Option Value) (U:Env),bw G h vals vs→ps.length=vs.length→
  (∀ p ∈ ps,fX p≠0∧(sc.names.lookup p=some .local∨sc.names.lookup p=some .cell))→
  (∀ x i v,hK (aX sc) x=.loc i→U i=some v→∃ val,bg G h val v∧((kind x=some .local∧m x=some val)∨(kind x=some .cell∧cm x=some val)))→
  ∀ x i v,hK (aX sc) x=.loc i→(bU (ps.map fun x=>((fB (aX sc) (fX x) 0).map (·.1)).getD 99) vs U) i=some v→
   ∃ val,bg G h val v∧((kind x=some .local∧(bindL kind (ps.zip vals) m) x=some val)∨(kind x=some .cell∧(bindC kind (ps.zip vals) cm) x=some val)):=by
 induction ps with
 |nil=>intro vals vs m cm U rl hl hp inv x i v hx hv;exact inv x i v hx hv
 |cons p ps ih=>
  intro vals vs m cm U rl hl hp inv x i v hx hv
  induction rl using bw.casesOn with
  |nil=>simp at hl
  |@cons val vals u vs rv rl=>
   refine o0x2 (hp p (.head _)) fun hp0 hpk=>?_
   have hpl:∃ j k,fB (aX sc) (fX p) 0=some (j,k)∧sc.names.lookup p=some k∧(k=.local∨k=.cell):=by
    refine Or.elim hpk (fun h=>?_) (fun h=>?_);all_goals clear hpk
    ·refine aH (jV (i:=0) hp0 h) fun j hj=>?_;exact⟨j,_,hj,h,.inl rfl⟩
    ·refine aH (jV (i:=0) hp0 h) fun j hj=>?_;exact⟨j,_,hj,h,.inr rfl⟩
   refine cN fun PP kk=>?_
   refine o2x3 hpl fun j k hj hlk hkk=>?_;clear hpl
   have hr:hK (aX sc) p=.loc j:=by
    skip
    (refine ak (aD hp0) ?_;refine af hj ?_)
    refine zn hkk ?_ ?_;all_goals clear hkk<;>rfl
   have inj:∀ y i,hK (aX sc) y=.loc i→i=j→y=p:=fun y i hy hij=>by
    subst hij
    obtain⟨_,q,hq,hqy⟩:=fz hy
    obtain⟨_,q',hq',hqp⟩:=fz hr
    rw[hq] at hq';obtain rfl:=aP hq'
    (refine br hqy ?_;(refine br hqp ?_;with_reducible rfl))
   refine kk ?_
   refine af List.zip_cons_cons ?_
   have hv':bU (ps.map fun x=>((fB (aX sc) (fX x) 0).map (·.1)).getD 99) vs (U.set j u) i=some v:=by
    (rewrite[List.map_cons] at hv;rewrite[bU] at hv;rw[hj] at hv)
    exact hv
   have key:=ih vals vs (if kind p=some .local then fun y=>if y=p then some val else m y else m) (if kind p=some .local then cm else fun y=>if y=p then some val else cm y) (U.set j u) rl (by simpa using hl) (fun p hp'=>hp p (.tail _ hp'))
    (fun y i' v' hy hv'=>by
     rcases lM hv' with⟨hij,rfl⟩ | ⟨hne,hv'⟩
     ·have:=inj y i' hy hij
      subst this
      refine⟨val,rv,?_⟩
      (refine af (hk y) ?_;refine af hlk ?_)
      refine zn hkk ?_ ?_;all_goals clear hkk
      ·left;simp
      ·right;simp
     ·have hyp:y≠p:=fun q=>by subst q;rw[hr] at hy;cases hy;exact hne rfl
      refine o1x2 (inv y i' v' hy hv') fun val' r1 r2=>?_
      refine⟨val',r1,?_⟩
      rcases r2 with⟨r2,r3⟩ | ⟨r2,r3⟩
      ·left;refine⟨r2,?_⟩;split
       ·show(if y=p then _ else _)=_
        refine ak (aD hyp) ?_;exact r3
       ·exact r3
      ·right;refine⟨r2,?_⟩;split
       ·exact r3
       ·show(if y=p then _ else _)=_
        refine ak (aD hyp) ?_;exact r3)
   exact key x i v hx hv'
theorem zq(D:gL prog w K G h₀)(F:jw prog w G h₀ (a8 n) n)(fit:A9 (n+1) A){fd:FD}(ok:vG fd=true){a:Addr}(at_:uT h₀ a fd){vals:List Value}{vs:List V}{Q:aO}{Z:H}{s:Shared}{R:Result→Shared→Prop}(rl:bw G s.heap vals vs)(S:St w.params G h₀ Z s.heap)
  (h:E2 (a8 n) fd.fn vs Q Z) (hR:∀ v s',bT w.params G h₀ Z s Q v s'→R (.ok (.ret v)) s'):codeAny (model prog w) A (.call (.ref a) ⟨vals,[]⟩) R s:=by
 refine cN fun PP kk=>?_
 refine o2x9 at_.out fun o FD' ho hdata hsc hbody hclo hglb hblt hcd hbind=>?_
 delta vG at ok
 simp only[Bool.and_eq_true,decide_eq_true_eq,Bool.not_eq_true',List.all_eq_true,Bool.or_eq_true,beq_iff_eq,bne_iff_ne] at ok
 refine o0x2 ok fun q0 o9=>?_;clear ok;obtain⟨⟨⟨⟨⟨⟨⟨o1,o2⟩,o3⟩,o4⟩,o5⟩,o6⟩,o7⟩,o8⟩:=q0
 refine o0x2 h fun hlen h=>?_
 have hpl:fd.fn.ps=fd.params.map fun x=>((fB (aX fd.scope) (fX x) 0).map (·.1)).getD 99:=rfl
 have hbd:fd.fn.body=mA fd.body (hK (aX fd.scope)):=rfl
 (rewrite[hpl] at hlen;rw[List.length_map] at hlen)
 have l1:=rl.length
 have hk:∀ x,(callEnvC FD' s.heap.objs.size a).kindOf x=fd.scope.names.lookup x:=fun x=>by
  show FD'.scope.names.lookup x=_
  (refine af hsc ?_;with_reducible rfl)
 refine kk ?_
 refine codeAny_call_cells (fd:=FD') (by have:=fit.depth;show A.depth<1000;lia) (S.base _ _ ho) hdata (D.lim.keeps S.base) (hcd.keeps S.base) hbody (hbind vals (by lia)) hclo (fun x hx=>?_) (fun sa I=>?_) (by refine af hsc ?_;exact o2) (by refine af hsc ?_;exact o3) (by refine af hsc ?_;exact o1)
 ·have hx1:x.1 ∈ fd.params:=(List.of_mem_zip (a:=x.1) (b:=x.2) hx).1
  refine af hsc ?_
  rcases(o7 x.1 hx1).2 with q | q
  ·exact .inl q
  ·exact .inr ⟨q,cQ _ _ _ _ (.inr q)⟩
 ·generalize hE:callEnvC FD' s.heap.objs.size a=env at I hk ⊢
  have eL:env.locals=s.heap.objs.size:=by refine br hE ?_;rfl
  have esc:env.scope=fd.scope:=by refine br hE ?_;exact hsc
  have ecl:env.cells=cellsFrom (s.heap.objs.size+1) fd.scope.names []:=by refine br hE ?_;show cellsFrom _ FD'.scope.names []=_;(refine af hsc ?_;with_reducible rfl)
  have egl:env.globals=mainGlobals∧env.builtins=builtinsNs:=by refine br hE ?_;exact⟨hglb,hblt⟩
  have hsz:s.heap.get? s.heap.objs.size=none:=dP _
  have new:∀ b,Fr env b→s.heap.get? b=none:=fun b f=>by
   rcases f with f | ⟨x,f⟩
   ·(refine af f ?_;refine af eL ?_);exact hsz
   ·have:=I.above x b (mem_of_lookup f)
    rw[eL] at this
    exact Heap.get?_none_of_le (Nat.le_of_lt this)
  have base:∀ b,s.heap.get? b=none→h₀.get? b=none:=fun b e=>by
   induction q:h₀.get? b using Option.casesOn with
   |none=>rfl
   |some x=>rw[S.base b x q] at e;exact sn e
  have ckn:∀ x,env.kindOf x=some .cell→∃ c,env.cells.lookup x=some c:=fun x hx=>by
   rw[hk x] at hx
   refine af ecl ?_
   exact Option.isSome_iff_exists.mp (cQ _ _ _ _ (.inr hx))
  have T:fh h₀ env (hK (aX fd.scope)) fd.scope:=by
   refine⟨esc,rfl,o1,fun x i hx=>?_,fun x y i hx hy=>?_,I.apart,fun x c hc=>Nat.ne_of_gt (I.above x c hc),fun b f=>base b (new b f),ckn,o4⟩
   ·refine cN fun PP kk=>?_
    refine o0x2 (fz hx) fun q0 za=>?_;obtain⟨k,h1,h2,h3⟩:=q0
    have:=o6 (x,k) (mem_of_lookup h1)
    have hkx:env.kindOf x=some k:=by refine ak (hk x) ?_;exact h1
    refine kk ?_
    rcases this with(q | q) | q
    ·have q:k=.local:=q
     subst q;exact .inl hkx
    ·have q:k=.cell:=q
     subst q;exact .inr ⟨hkx,ckn x hkx⟩
    ·exact absurd q h2
   ·refine cN fun PP kk=>?_
    obtain⟨_,p,hp,hpx⟩:=fz hx
    obtain⟨_,p',hp',hpy⟩:=fz hy
    rw[hp] at hp';obtain rfl:=aP hp'
    refine kk ?_
    (refine br hpx ?_;(refine br hpy ?_;with_reducible rfl))
  refine o2x1 I.toInCall.same fun h1 tk1 e1=>?_
  have g0:Go w.params G h₀ Z s Z sa:=by
   have k:=I.toInCall.keep
   rw[e1] at k ⊢
   exact Go.ext S k
  have mH:=g0.stays S
  have rl1:=rl.stays mH
  have en:bE G env (hK (aX fd.scope)) (bU fd.fn.ps vs Env.nil) Z sa.heap:=by
   refine⟨_,_,by refine af esc ?_;exact o1,egl,I.toInCall.ns,I.cell,fun b f=>?_,fun x i v hx hv=>?_,fun x v hx=>?_⟩
   ·have no:¬bu Z b:=S.fresh (new b f)
    rcases f with f | ⟨x,f⟩
    ·refine af f ?_
     refine cN fun PP kk=>?_
     have hn:=I.toInCall.ns
     refine o3x3 (id hn) fun o es ep q1 q2 za=>?_
     refine kk ?_
     exact⟨o,q1,ja hn o q1,f▸no⟩
    ·refine cN fun PP kk=>?_
     have hcells:∃ v,sa.heap.IsCell b v:=⟨_,I.cell x b f⟩
     refine o2x2 hcells fun v o q1 q2=>?_;clear hcells
     refine kk ?_
     exact⟨o,q1,(fun z=>by rcases z with⟨_,vs,kk,z⟩ | ⟨_,vs,z⟩<;>rw[q2] at z<;>cases z),no⟩
   ·rw[hpl] at hv
    refine o1x2 (qZ (h:=sa.heap) hk fd.params vals vs (fun za=>none) (fun za=>none) Env.nil rl1 hlen (fun p hp=>o7 p hp) (fun x i v za q=>by exact ns q) x i v hx hv) fun val r1 r2=>?_
    refine⟨val,r1,r2.imp id fun q=>⟨.inl q.1,q.2,ckn x q.1⟩⟩
   ·refine o0x2 (vA hx) fun q1 q2=>?_
    exact⟨by refine ak (hk x) ?_;exact q1,q2⟩
  have hs:=n8 (sc:=fd.scope) o9 (fun t za ht=>yi D F (fit.deeper env) T _ t (Nat.le_refl _) ht) (bU fd.fn.ps vs Env.nil) Z sa (fq Q) (fun e s'=>wpAny (model prog w) (A.deeper env) («leaving» env e) (fun za s''=>R (.error e) s'') (fun e' s''=>R (.error e') s'') s') en g0.st (by refine br hbd ?_;exact h)
  refine wpAny_mono hs (fun f s' p0=>?_) fun za za e=>e
  refine o3x4 p0 fun fl U' Z' q hf g za=>?_;clear p0
  have gg:Go w.params G h₀ Z s Z' s':=by
   refine o2x1 g.eq fun h2 t2 e2=>?_
   refine⟨⟨h2,t2,by(refine ak (e2) ?_;(refine af e1 ?_;with_reducible rfl))⟩,g.st,⟨fun b o eb no=>?_,fun b qb=>?_⟩⟩
   ·exact g.keep b o (g0.eff.keep b o eb no) no fun f=>by rw[new b f] at eb;exact ns eb
   ·rcases g.own b qb with z | ⟨z,_⟩
    ·exact .inl z
    ·refine .inr ?_
     induction qs:s.heap.get? b using Option.casesOn with
     |none=>rfl
     |some o=>rw[I.toInCall.keep b o qs] at z;exact sn z
  induction fl using Fl.casesOn with
  |next=>
   subst hf
   exact hR _ _ ⟨.none,Z',q,.none,gg⟩
  |ret x=>
   refine o1x2 hf fun v e1 rv=>?_;clear hf;obtain rfl:=e1
   exact hR _ _ ⟨x,Z',q,rv,gg⟩
theorem n0(D:gL prog w K G h₀):∀ n,jw prog w G h₀ (a8 n) n
 |0=>fun A fit c f a za ha vals vs Q Z s R rl S h za=>h.elim
 |n+1=>fun A fit c f a hc ha vals vs Q Z s R rl S h hR=>by
  refine o1x2 h fun fd hfd h=>?_
  have at_:uT h₀ a fd:=by
   induction c using Option.casesOn with
   |none=>exact D.fnd f fd a hfd ha
   |some c=>exact D.mtd c f fd a hfd ha
  exact zq D (n0 D n) fit (vF hfd) at_ rl S h hR
end
end Mine
namespace Mine
open PySem
structure Ev (C:aN) (U:Env) (Z:H) (e:E) (v:V):Prop where
 go:∀ Q:aO,Q v Z→dd C e U Q Z
structure Es (C:aN) (U:Env) (Z:H) (l:List E) (vs:List V):Prop where
 go:∀ Q:List V→H→Prop,Q vs Z→kq C l U Q Z
structure Et (C:aN) (U:Env) (Z:H) (e:E) (b:Bool):Prop where
 go:∀ Q:Bool→H→Prop,Q b Z→oq C e U (dd C e U) Q Z
structure Eb (C:aN) (U:Env) (Z:H) (op:BoolOp) (l:List E) (b:Bool):Prop where
 go:∀ Q:Bool→H→Prop,Q b Z→xW C op l U Q Z
structure Cv (C:aN) (c:Option Nat) (f:Nat) (vs:List V) (Z:H) (v:V):Prop where
 go:∀ Q:aO,Q v Z→C c f vs Q Z
structure SS (K:aN) (l:List C) (U:Env) (Q:bK) (Z:H):Prop where
 go:eO K l U Q Z
structure WE (K:aN) (e:E) (U:Env) (P:aO) (Z:H):Prop where
 go:dd K e U P Z
section
variable {C:aN} {U:Env} {Z:H}
theorem aj{v:V}:Ev C U Z (.k v) v:=⟨fun za q=>q⟩
theorem ac{i:Nat}{v:V}(h:U i=some v):Ev C U Z (.x i) v:=⟨fun za q=>⟨v,h,q⟩⟩
theorem aA{op:Operator}{a b:E}{u v w:V}(ha:Ev C U Z a u)(hb:Ev C U Z b v)(h:∀ Q:aO,Q w Z→wY op u v Q Z):Ev C U Z (.bin op a b) w:=⟨fun Q q=>ha.go _ (hb.go _ (h Q q))⟩
theorem fe{a:E}{i:Int}(h:Ev C U Z a (.int i)):Ev C U Z (.neg a) (.int (-i)):=⟨fun Q q=>h.go _ q⟩
theorem EE{a:E}{b:Bool}(h:Et C U Z a b):Ev C U Z (.not a) (.bool (!b)):=⟨fun Q q=>h.go (fun b Zq=>Q (.bool (!b)) Zq) q⟩
theorem nU{op:BoolOp}{l:List E}{b:Bool}(h:Eb C U Z op l b):Ev C U Z (.bl op l) (.bool b):=⟨fun Q q=>h.go (fun b Zq=>Q (.bool b) Zq) q⟩
theorem nS{t a b:E}{v:V}(h:Et C U Z t true)(k:Ev C U Z a v):Ev C U Z (.ite t a b) v:=⟨fun Q q=>h.go _ ⟨fun za=>k.go Q q,fun h=>nomatch h⟩⟩
theorem nT{t a b:E}{v:V}(h:Et C U Z t false)(k:Ev C U Z b v):Ev C U Z (.ite t a b) v:=⟨fun Q q=>h.go _ ⟨fun h=>(nomatch h),fun za=>k.go Q q⟩⟩
theorem j5{a b:E}{op:CmpOp}{u v:V}{c:Bool}(ha:Ev C U Z a u)(hb:Ev C U Z b v)(h:d8 Z op u v c):Ev C U Z (.cmp a op b) (.bool c):=⟨fun Q q=>ha.go _ (hb.go _ ⟨c,h,q⟩)⟩
theorem aE{l:List E}{vs:List V}(h:Es C U Z l vs):Ev C U Z (.tup l) (.tup vs):=⟨fun Q q=>h.go (fun vs Zq=>Q (.tup vs) Zq) q⟩
theorem qD{a:Addr}{c n:Nat}{fs:List (Nat×V)}{v:V}(e:Z a=some (.inst c fs))(hc:(bk c).contains n=true)(hv:dI fs n=some v):cR Z (.ref a) n=some v:=by
 unfold cR;dsimp only;refine af e ?_;dsimp only;refine ak (aG hc) ?_;exact hv
theorem zj{o:E}{n:Nat}{a:Addr}{c:Nat}{fs:List (Nat×V)}{v:V}(h:Ev C U Z o (.ref a))(e:Z a=some (.inst c fs))(hc:(bk c).contains n=true)(hv:dI fs n=some v):Ev C U Z (.att o n) v:=
 ⟨fun Q q=>h.go _ ⟨v,qD e hc hv,q⟩⟩
theorem ah{o i:E}{u k v:V}(h:Ev C U Z o u)(hk:Ev C U Z i k)(e:bD Z u k=some v):Ev C U Z (.idx o i) v:=⟨fun Q q=>h.go _ (hk.go _ ⟨v,e,q⟩)⟩
theorem aQ{i:Nat}{u k v:V}(h:U i=some u)(e:bD Z u k=some v):Ev C U Z (.idx (.x i) (.k k)) v:=ah (ac h) aj e
theorem bV{i n:Nat}{a:Addr}{c:Nat}{fs:List (Nat×V)}{v:V}(h:U i=some (.ref a))(e:Z a=some (.inst c fs))(hc:(bk c).contains n=true)(hv:dI fs n=some v):Ev C U Z (.att (.x i) n) v:=zj (ac h) e hc hv
theorem aJ{a:Addr}{xs:List V}{i:Int}{v:V}(e:Z a=some (.list xs))(h0:0≤i)(h:xs[i.toNat]? = some v):bD Z (.ref a) (.int i)=some v:=by
 show kT (.int i) (Z a)=_;refine af e ?_;exact(aG h0).trans h
theorem aF{a:Addr}{es:List (V×V)}{k v:V}(e:Z a=some (.dict es))(hk:bd es k=true)(h:aI es k=some v):bD Z (.ref a) k=some v:=by
 show kT _ (Z a)=_;refine af e ?_;exact(aG hk).trans h
theorem bP{l:List V}{i:Int}{v:V}(h0:0≤i)(h:l[i.toNat]? = some v):bD Z (.tup l) (.int i)=some v:=(aG h0).trans h
theorem me{o i:E}{l:List V}{j:Int}(h:Ev C U Z o (.tup l))(hi:Ev C U Z i (.int j))(b:0≤j∧j<2 ^ 40):Ev C U Z (.slcL o i) (.tup (l.drop j.toNat)):=⟨fun Q q=>h.go _ (hi.go _ ⟨b,q⟩)⟩
theorem mf{o i:E}{l:List V}{j:Int}(h:Ev C U Z o (.tup l))(hi:Ev C U Z i (.int j))(b:0≤j∧j<2 ^ 40):Ev C U Z (.slcH o i) (.tup (l.take j.toNat)):=⟨fun Q q=>h.go _ (hi.go _ ⟨b,q⟩)⟩
theorem mx{f:Nat}{vs:List V}{P:aO}(hc:cZ f=false)(h:C none f vs P Z):fH C (.fn f) vs P Z:=by
 unfold fH;dsimp only;refine af (aD (by rw[hc];exact Bool.false_ne_true)) ?_;exact h
theorem ay{f:Nat}{as:List E}{vs:List V}{v:V}(h:Es C U Z as vs)(hc:cZ f=false)(hf:Cv C none f vs Z v):Ev C U Z (.call (.k (.fn f)) as) v:=⟨fun Q q=>⟨rfl,h.go _ (mx hc (hf.go Q q))⟩⟩
theorem aZ{n:Nat}{as:List E}{vs:List V}{v:V}(h:Es C U Z as vs)(hf:∀ Q:aO,Q v Z→wZ n vs Q Z):Ev C U Z (.call (.k (.bi n)) as) v:=⟨fun Q q=>⟨rfl,h.go _ (hf Q q)⟩⟩
theorem bJ{a:Addr}{xs:List V}(e:Z a=some (.list xs)):∀ Q:aO,Q (.int xs.length) Z→wZ 0 [.ref a] Q Z:=fun Q q=>⟨xs,e,q⟩
theorem gD{a:Addr}{c:Nat}{fs:List (Nat×V)}(e:Z a=some (.inst c fs)):fA Z (.ref a)=some (.inst c):=by unfold fA;dsimp only;(refine af e ?_;with_reducible rfl)
theorem lS{a:Addr}{es:List (V×V)}(e:Z a=some (.dict es)):fA Z (.ref a)=some .dict:=by unfold fA;dsimp only;(refine af e ?_;with_reducible rfl)
theorem lR{a:Addr}{xs:List V}(e:Z a=some (.list xs)):fA Z (.ref a)=some .list:=by unfold fA;dsimp only;(refine af e ?_;with_reducible rfl)
theorem tY{o:E}{m c:Nat}{as:List E}{vs:List V}{v:V}{a:Addr}{fs:List (Nat×V)}(ho:Ev C U Z o (.ref a))(e:Z a=some (.inst c fs))(hm:fo (.inst c) m=true)(h:Es C U Z as vs)(hf:Cv C (some c) m (.ref a::vs) Z v) :
  Ev C U Z (.mth o m as) v:=⟨fun Q q=>ho.go _ ⟨_,gD e,hm,h.go _ (hf.go Q q)⟩⟩
theorem cY{o k:E}{a:Addr}{es:List (V×V)}{x:V}(ho:Ev C U Z o (.ref a))(e:Z a=some (.dict es))(hk:Ev C U Z k x)(hi:bd es x=true):Ev C U Z (.mth o 99 [k]) ((aI es x).getD .none):=
 ⟨fun Q q=>ho.go _ ⟨_,lS e,rfl,hk.go _ ⟨rfl,es,e,hi,q⟩⟩⟩
theorem gI{o k d:E}{a:Addr}{es:List (V×V)}{x y:V}(ho:Ev C U Z o (.ref a))(e:Z a=some (.dict es))(hk:Ev C U Z k x)(hd:Ev C U Z d y)(hi:bd es x=true):Ev C U Z (.mth o 99 [k,d]) ((aI es x).getD y):=
 ⟨fun Q q=>ho.go _ ⟨_,lS e,rfl,hk.go _ (hd.go _ ⟨rfl,es,e,hi,q⟩)⟩⟩
theorem ae:Es C U Z [] []:=⟨fun za q=>q⟩
theorem ab{e:E}{r:List E}{v:V}{vs:List V}(h:Ev C U Z e v)(k:Es C U Z r vs):Es C U Z (e::r) (v::vs):=⟨fun Q q=>h.go _ (k.go (fun vs Zr=>Q (v::vs) Zr) q)⟩
theorem t0{a:E}(h:Et C U Z a false):Et C U Z (.not a) true:=⟨fun Q q=>h.go (fun b Zq=>Q (!b) Zq) q⟩
theorem nV{a:E}(h:Et C U Z a true):Et C U Z (.not a) false:=⟨fun Q q=>h.go (fun b Zq=>Q (!b) Zq) q⟩
theorem EF{a:E}{b:Bool}(h:Et C U Z a b):Et C U Z (.not a) (!b):=⟨fun Q q=>h.go (fun b Zq=>Q (!b) Zq) q⟩
theorem bc{op:BoolOp}{l:List E}{b:Bool}(h:Eb C U Z op l b):Et C U Z (.bl op l) b:=⟨h.go⟩
theorem aL{a b:E}{op:CmpOp}{u v:V}{c:Bool}(ha:Ev C U Z a u)(hb:Ev C U Z b v)(h:d8 Z op u v c):Et C U Z (.cmp a op b) c:=⟨fun Q q=>ha.go _ (hb.go _ ⟨c,h,q⟩)⟩
theorem ao{a:E}{op:CmpOp}{u k:V}{c:Bool}(ha:Ev C U Z a u)(h:d8 Z op u k c):Et C U Z (.cmp a op (.k k)) c:=aL ha aj h
theorem fm{a b d:E}{op op2:CmpOp}{u v w:V}{c r:Bool}(ha:Ev C U Z a u)(hb:Ev C U Z b v)(h:d8 Z op u v c)(hd:Ev C U Z d w)(h2:d8 Z op2 v w r):Et C U Z (.cmp2 a op b op2 d) (c && r):=
 ⟨fun Q q=>ha.go _ (hb.go _ ⟨c,h,fun hc=>hd.go _ ⟨r,h2,by subst hc;exact q⟩,fun hc=>by subst hc;exact q⟩)⟩
theorem gJ{f:Nat}{as:List E}{vs:List V}{b:Bool}(h:Es C U Z as vs)(hc:cZ f=false)(hf:Cv C none f vs Z (.bool b)):Et C U Z (.call (.k (.fn f)) as) b:=⟨fun Q q=>(ay h hc hf).go (xm Q) q⟩
theorem t6{n:Nat}{as:List E}{vs:List V}{b:Bool}(h:Es C U Z as vs)(hf:∀ Q:aO,Q (.bool b) Z→wZ n vs Q Z):Et C U Z (.call (.k (.bi n)) as) b:=⟨fun Q q=>(aZ h hf).go (xm Q) q⟩
theorem Cm{i:Nat}{b:Bool}(h:U i=some (.bool b)):Et C U Z (.x i) b:=⟨fun Q q=>⟨_,h,q⟩⟩
theorem t3{o i:E}{u k:V}{b:Bool}(h:Ev C U Z o u)(hk:Ev C U Z i k)(e:bD Z u k=some (.bool b)):Et C U Z (.idx o i) b:=⟨fun Q q=>h.go _ (hk.go _ ⟨_,e,q⟩)⟩
theorem ba{op:BoolOp}{e:E}{b:Bool}(h:Et C U Z e b):Eb C U Z op [e] b:=⟨h.go⟩
theorem bZ{e f:E}{r:List E}{b:Bool}(h:Et C U Z e true)(k:Eb C U Z .And (f::r) b):Eb C U Z .And (e::f::r) b:=⟨fun Q q=>h.go _ ⟨fun za=>k.go Q q,fun h=>nomatch h⟩⟩
theorem d5{e f:E}{r:List E}(h:Et C U Z e false):Eb C U Z .And (e::f::r) false:=⟨fun Q q=>h.go _ ⟨fun h=>(nomatch h),fun za=>q⟩⟩
theorem aY{e f:E}{r:List E}{b:Bool}(h:Et C U Z e false)(k:Eb C U Z .Or (f::r) b):Eb C U Z .Or (e::f::r) b:=⟨fun Q q=>h.go _ ⟨fun h=>(nomatch h),fun za=>k.go Q q⟩⟩
theorem dq{e f:E}{r:List E}(h:Et C U Z e true):Eb C U Z .Or (e::f::r) true:=⟨fun Q q=>h.go _ ⟨fun za=>q,fun h=>nomatch h⟩⟩
theorem qf{b:Bool}(h:b=false):(!b)=true:=by refine af h ?_;rfl
theorem Fd{b:Bool}(h:b=true):(!b)=false:=by refine af h ?_;rfl
theorem CH{b c:Bool}(h:b=true)(k:c=true):(b && c)=true:=by(refine af h ?_;refine ak (k) ?_);rfl
theorem uG{b c:Bool}(h:b=false):(b && c)=false:=by refine af h ?_;rfl
theorem AD{b c:Bool}(h:c=false):(b && c)=false:=by(refine af h ?_;rw[Bool.and_false])
theorem ai{e:E}{b c:Bool}(h:Et C U Z e b)(k:b=c):Et C U Z e c:=k▸h
theorem fc{e:E}{b c:V}(h:Ev C U Z e b)(k:b=c):Ev C U Z e c:=k▸h
theorem t8{u v:V}{c:Bool}(h:(pv 30 u && pv 30 v)=true)(e:c=dH u v):zm Z u v c:=by
 induction u using V.casesOn with
 |ref a=>exact ff h
 |bool a=>exact ff h
 |_=>exact⟨h,e⟩
theorem pj{u v:V}(h:(pv 30 u && pv 30 v)=true):d8 Z .Eq u v (dH u v):=t8 h rfl
theorem pi{u v:V}(h:(pv 30 u && pv 30 v)=true):d8 Z .NotEq u v (!dH u v):=t8 h (Bool.not_not _)
theorem wS{x y:Bool}:d8 Z .Eq (.bool x) (.bool y) (x == y):=rfl
theorem an{x y:Int}:d8 Z .Eq (.int x) (.int y) (decide (x=y)):=⟨rfl,rfl⟩
theorem cz{x y:Int}:d8 Z .NotEq (.int x) (.int y) (!decide (x=y)):=⟨rfl,(Bool.not_not _)⟩
theorem aV{x y:Int}:d8 Z .Lt (.int x) (.int y) (decide (x<y)):=⟨x,y,rfl,rfl,rfl⟩
theorem bS{x y:Int}:d8 Z .LtE (.int x) (.int y) (decide (x≤y)):=⟨x,y,rfl,rfl,rfl⟩
theorem cr{x y:Int}:d8 Z .Gt (.int x) (.int y) (decide (y<x)):=⟨x,y,rfl,rfl,rfl⟩
theorem cI{x y:Int}:d8 Z .GtE (.int x) (.int y) (decide (y≤x)):=⟨x,y,rfl,rfl,rfl⟩
theorem bB{v:V}{c:Bool}(h:yX v=some c):d8 Z .Is v .none c:=⟨rfl,h⟩
theorem eM{v:V}{c:Bool}(h:yX v=some c):d8 Z .IsNot v .none (!c):=⟨rfl,by(refine ak (h) ?_;rw[Bool.not_not])⟩
theorem j9{a:Addr}{es:List (V×V)}{k:V}(e:Z a=some (.dict es))(hk:bd es k=true):d8 Z .In k (.ref a) (aI es k).isSome:=by
 have h:A5 Z k (.ref a)=(match Z a with | some (.dict es)=>if bd es k=true then some (aI es k).isSome else Option.none | _=>Option.none):=by induction k using V.casesOn<;>rfl
 exact h.trans (by refine af e ?_;exact aG hk)
theorem iZ{a:Addr}{es:List (V×V)}{k:V}(e:Z a=some (.dict es))(hk:bd es k=true):d8 Z .NotIn k (.ref a) (!(aI es k).isSome):=by
 show A5 Z k (.ref a)=_
 rw[Bool.not_not]
 exact j9 e hk
theorem j8{i:Int}:d8 Z .In (.int i) .gd (gR.contains i):=rfl
variable {Q:bK} {K:aN}
theorem ax{Q:bK}(q:Q .next U Z):SS K [] U Q Z:=⟨q⟩
theorem aw{e:E}{v:V}{r:List Mine.C}(h:Ev K U Z e v)(q:Q (.ret v) U Z):SS K (.ret e::r) U Q Z:=⟨h.go _ q⟩
theorem jD{e:E}{v:V}{r:List Mine.C}(h:Ev K U Z e v)(k:SS K r U Q Z):SS K (.ex e::r) U Q Z:=⟨h.go _ k.go⟩
theorem au{i:Nat}{e:E}{v:V}{r:List Mine.C}(h:Ev K U Z e v)(k:SS K r (U.set i v) Q Z):SS K (.set (.v i) e::r) U Q Z:=⟨h.go _ k.go⟩
theorem lH{i j:Nat}{e:E}{u v:V}{r:List Mine.C}(h:Ev K U Z e (.tup [u,v]))(k:SS K r ((U.set i u).set j v) Q Z):SS K (.set (.v2 i j) e::r) U Q Z:=⟨h.go _ ⟨_,rfl,k.go⟩⟩
theorem jE{i:Nat}{op:Operator}{e:E}{a c d:Int}{r:List Mine.C}(hi:U i=some (.int a))(h:Ev K U Z e (.int c))(hd:rP op a c=some d)(k:SS K r (U.set i (.int d)) Q Z):SS K (.augV i op e::r) U Q Z:=
 ⟨⟨a,hi,h.go _ ⟨c,d,rfl,hd,k.go⟩⟩⟩
noncomputable def qN(K:aN)(r:List Mine.C)(Q:bK):bK:=fun f U Z=>match f with
 |.next=>SS K r U Q Z
 |.ret v=>Q (.ret v) U Z
theorem lG(K:aN)(r:List Mine.C)(Q:bK):qN K r Q=fun f U' Z'=>match f with | .next=>eO K r U' Q Z' | .ret v=>Q (.ret v) U' Z':=by
 funext f U Z;induction f using Fl.casesOn
 ·exact propext ⟨fun h=>h.go,fun h=>⟨h⟩⟩
 ·rfl
theorem xo{t:E}{a b r:List Mine.C}{c:Bool}(h:Et K U Z t c)(k:c=true→SS K a U (qN K r Q) Z)(k2:c=false→SS K b U (qN K r Q) Z):SS K (.ite t a b::r) U Q Z:=by
 rw[lG] at k k2
 exact⟨h.go _ ⟨fun h=>(k h).go,fun h=>(k2 h).go⟩⟩
theorem az{t:E}{a b r:List Mine.C}(h:Et K U Z t true)(k:SS K a U (qN K r Q) Z):SS K (.ite t a b::r) U Q Z:=xo h (fun za=>k) fun h=>nomatch h
theorem di{t:E}{a b r:List Mine.C}(h:Et K U Z t false)(k:SS K b U (qN K r Q) Z):SS K (.ite t a b::r) U Q Z:=xo h (fun h=>nomatch h) fun za=>k
theorem aq{t:E}{a r:List Mine.C}(h:Et K U Z t false)(k:SS K r U Q Z):SS K (.ite t a []::r) U Q Z:=di h (ax k)
theorem aW{i:Nat}{e:E}{r:List Mine.C}(h:WE K e U (fun v Z'=>SS K r (U.set i v) Q Z') Z):SS K (.set (.v i) e::r) U Q Z:=by
 have:(fun v Z'=>SS K r (U.set i v) Q Z')=fun v Z'=>eO K r (U.set i v) Q Z':=by funext v Z';exact propext ⟨fun h=>h.go,fun h=>⟨h⟩⟩
 rw[this] at h;exact⟨h.go⟩
theorem bO{e:E}{r:List Mine.C}(h:WE K e U (fun v Z'=>Q (.ret v) U Z') Z):SS K (.ret e::r) U Q Z:=⟨h.go⟩
theorem pN{e:E}{r:List Mine.C}(h:WE K e U (fun za Z'=>SS K r U Q Z') Z):SS K (.ex e::r) U Q Z:=by
 have:(fun(_:V) Z'=>SS K r U Q Z')=fun za Z'=>eO K r U Q Z':=by funext v Z';exact propext ⟨fun h=>h.go,fun h=>⟨h⟩⟩
 rw[this] at h;exact⟨h.go⟩
theorem bj{e:E}{v:V}{P:aO}(h:Ev K U Z e v)(k:P v Z):WE K e U P Z:=⟨h.go _ k⟩
theorem aC{f:Nat}{as:List E}{vs:List V}{P:aO}(h:Es K U Z as vs)(hc:cZ f=false)(k:K none f vs P Z):WE K (.call (.k (.fn f)) as) U P Z:=⟨⟨rfl,h.go _ (mx hc k)⟩⟩
theorem oy{o:E}{m c:Nat}{as:List E}{vs:List V}{a:Addr}{fs:List (Nat×V)}{P:aO}(ho:Ev K U Z o (.ref a))(e:Z a=some (.inst c fs))(hm:fo (.inst c) m=true)(h:Es K U Z as vs)(k:K (some c) m (.ref a::vs) P Z):WE K (.mth o m as) U P Z:=
 ⟨ho.go _ ⟨_,gD e,hm,h.go _ k⟩⟩
theorem bx{as:List E}{vs:List V}{P:aO}(h:Es K U Z as vs)(k:∀ a,Z a=none→P (.ref a) (Z.set a (.list vs))):WE K (.lst as) U P Z:=⟨h.go _ k⟩
theorem gw{P:aO}(k:∀ a,Z a=none→P (.ref a) (Z.set a (.dict []))):WE K (.dct [] []) U P Z:=⟨⟨rfl,k⟩⟩
theorem aB{a:Addr}{o:O}:(Z.set a o) a=some o:=aG rfl
theorem bv{a b:Addr}{o:O}{x:Option O}(h:b≠a)(e:Z b=x):(Z.set a o) b=x:=(aD h).trans e
theorem ch{a:Addr}{c n:Nat}{fs:List (Nat×V)}{v:V}(e:Z a=some (.inst c fs))(hc:(bk c).contains n=true):de Z (.ref a) n v=some (Z.set a (.inst c (cX fs n v))):=by
 unfold de;dsimp only;refine af e ?_;dsimp only;(refine ak (aG hc) ?_;with_reducible rfl)
theorem bo{a:Addr}{es:List (V×V)}{k v:V}(e:Z a=some (.dict es))(hk:bd es k=true)(hl:es.length<bL):eS Z (.ref a) k v=some (Z.set a (.dict (bI es k v))):=by
 show sz Z a k v (Z a)=_;refine af e ?_;exact aG ⟨hk,hl⟩
theorem fN{a:Addr}{xs:List V}{i:Int}{v:V}(e:Z a=some (.list xs))(hi:0≤i∧i<xs.length):eS Z (.ref a) (.int i) v=some (Z.set a (.list (xs.set i.toNat v))):=by
 show sz Z a (.int i) v (Z a)=_;refine af e ?_;exact aG hi
theorem iC{o e:E}{n c:Nat}{a:Addr}{fs:List (Nat×V)}{v:V}{r:List Mine.C}(h:Ev K U Z e v)(ho:Ev K U Z o (.ref a))(ha:Z a=some (.inst c fs))(hc:(bk c).contains n=true)
  (k:SS K r U Q (Z.set a (.inst c (cX fs n v)))):SS K (.set (.att o n) e::r) U Q Z:=⟨h.go _ (ho.go _ ⟨_,ch ha hc,k.go⟩)⟩
theorem dN{o i e:E}{u k v:V}{Z':H}{r:List Mine.C}(h:Ev K U Z e v)(ho:Ev K U Z o u)(hi:Ev K U Z i k)(hs:eS Z u k v=some Z')(k:SS K r U Q Z'):SS K (.set (.idx o i) e::r) U Q Z:=⟨h.go _ (ho.go _ (hi.go _ ⟨_,hs,k.go⟩))⟩
theorem lI{o e:E}{n c:Nat}{op:Operator}{a:Addr}{fs:List (Nat×V)}{x y z:Int}{r:List Mine.C}(ho:Ev K U Z o (.ref a))(ha:Z a=some (.inst c fs))(hc:(bk c).contains n=true)(hv:dI fs n=some (.int x))(h:Ev K U Z e (.int y))(hd:rP op x y=some z)
  (k:SS K r U Q (Z.set a (.inst c (cX fs n (.int z))))):SS K (.augA o n op e::r) U Q Z:=
 ⟨ho.go _ ⟨x,qD ha hc hv,h.go _ ⟨y,z,rfl,hd,_,ch ha hc,k.go⟩⟩⟩
theorem bH{o e:E}{a:Addr}{xs:List V}{v:V}{r:List Mine.C}(ho:Ev K U Z o (.ref a))(ha:Z a=some (.list xs))(h:Ev K U Z e v)(hl:xs.length<bL)(k:SS K r U Q (Z.set a (.list (xs++[v])))):SS K (.ex (.mth o 95 [e])::r) U Q Z:=
 ⟨ho.go _ ⟨_,lR ha,rfl,h.go _ ⟨xs,ha,rfl,hl,k.go⟩⟩⟩
theorem yh{o:E}{i:Nat}{a:Addr}{xs:List V}{v:V}{r:List Mine.C}(ho:Ev K U Z o (.ref a))(ha:Z a=some (.list xs))(hv:xs.getLast? = some v)(k:SS K r (U.set i v) Q (Z.set a (.list xs.dropLast))):SS K (.set (.v i) (.mth o 110 [])::r) U Q Z:=
 ⟨ho.go _ ⟨_,lR ha,rfl,xs,ha,rfl,v,hv,k.go⟩⟩
inductive FL (K:aN) (t:List Nat) (src:V) (whole:List V) (b:List Mine.C) (Q:bK):List V→Env→H→Prop
 |mk {xs:List V} {U:Env} {Z:H}:l9 (fun Z'=>bp Z' src=some whole) (fun x U'=>cL t x U') (fun U' K' Z'=>eO K b U' K' Z') xs U Q Z→FL K t src whole b Q xs U Z
theorem FL.go{t:List Nat}{src:V}{whole:List V}{b:List Mine.C}{xs:List V}:FL K t src whole b Q xs U Z→l9 (fun Z'=>bp Z' src=some whole) (fun x U'=>cL t x U') (fun U' K' Z'=>eO K b U' K' Z') xs U Q Z
 |.mk h=>h
theorem b8{t:List Nat}{src:V}{whole:List V}{b:List Mine.C}(q:Q .next U Z):FL K t src whole b Q [] U Z:=.mk q
theorem bQ{t:List Nat}{src:V}{whole:List V}{b:List Mine.C}{x:V}{xs:List V}{U':Env}(hb:cL t x U=some U')
  (k:SS K b U' (fun f U'' Z'=>match f with | .next=>bp Z' src=some whole∧FL K t src whole b Q xs U'' Z' | .ret v=>Q (.ret v) U'' Z') Z):FL K t src whole b Q (x::xs) U Z:=by
 have:(fun(f:Fl) (U'':Env) (Z':H)=>match f with | .next=>bp Z' src=some whole∧FL K t src whole b Q xs U'' Z' | .ret v=>Q (.ret v) U'' Z') =
   fun f U'' Z'=>match f with | .next=>bp Z' src=some whole∧l9 (fun Z'=>bp Z' src=some whole) (fun x U'=>cL t x U') (fun U' K' Z'=>eO K b U' K' Z') xs U'' Q Z' | .ret v=>Q (.ret v) U'' Z':=by
  funext f U'' Z';induction f using Fl.casesOn
  ·exact propext ⟨fun h=>⟨h.1,h.2.go⟩,fun h=>⟨h.1,.mk h.2⟩⟩
  ·rfl
 rw[this] at k
 exact .mk ⟨U',hb,k.go⟩
theorem f6{t:List Nat}{it:E}{b r:List Mine.C}(h:WE K it U (fun v Zq=>∃ xs,bp Zq v=some xs∧FL K t v xs b (qN K r Q) xs U Zq) Z):SS K (.for_ t it b::r) U Q Z:=by
 have:(fun(v:V) (Zq:H)=>∃ xs,bp Zq v=some xs∧FL K t v xs b (qN K r Q) xs U Zq)=fun v Zq=>∃ xs,bp Zq v=some xs∧l9 (fun Z'=>bp Z' v=some xs) (fun x U'=>cL t x U') (fun U' K' Z'=>eO K b U' K' Z') xs U (qN K r Q) Zq:=by
  funext v Zq;exact propext ⟨fun⟨xs,a,b⟩=>⟨xs,a,b.go⟩,fun⟨xs,a,b⟩=>⟨xs,a,.mk b⟩⟩
 (rewrite[this] at h;rw[lG] at h)
 exact⟨h.go⟩
theorem cg{t:List Nat}{it:E}{b r:List Mine.C}{v:V}{xs:List V}(h:Ev K U Z it v)(hx:bp Z v=some xs)(k:FL K t v xs b (qN K r Q) xs U Z):SS K (.for_ t it b::r) U Q Z:=f6 (bj h ⟨xs,hx,k⟩)
theorem be{a:Addr}{xs:List V}(e:Z a=some (.list xs)):bp Z (.ref a)=some xs:=by unfold bp;dsimp only;(refine af e ?_;with_reducible rfl)
inductive WL (K:aN) (t:E) (b:List Mine.C) (Q:bK) (n:Nat) (U:Env) (Z:H):Prop
 |mk:iy (fun U' K' Z'=>oq K t U' (dd K t U') K' Z') (fun U' K' Z'=>eO K b U' K' Z') n U Q Z→WL K t b Q n U Z
theorem r5{t:E}{b:List Mine.C}{n:Nat}:WL K t b Q n U Z↔iy (fun U' K' Z'=>oq K t U' (dd K t U') K' Z') (fun U' K' Z'=>eO K b U' K' Z') n U Q Z:=⟨fun⟨h⟩=>h,.mk⟩
theorem eh{t:E}{b:List Mine.C}{n:Nat}(h:Et K U Z t false)(q:Q .next U Z):WL K t b Q (n+1) U Z:=.mk (h.go _ ⟨fun h=>(nomatch h),fun za=>q⟩)
theorem cJ{t:E}{b:List Mine.C}{n:Nat}(h:Et K U Z t true)(k:SS K b U (fun f U' Z'=>match f with | .next=>WL K t b Q n U' Z' | .ret v=>Q (.ret v) U' Z') Z):WL K t b Q (n+1) U Z:=by
 have:(fun(f:Fl) (U':Env) (Z':H)=>match f with | .next=>WL K t b Q n U' Z' | .ret v=>Q (.ret v) U' Z') =
   fun f U' Z'=>match f with | .next=>iy (fun U' K' Z'=>oq K t U' (dd K t U') K' Z') (fun U' K' Z'=>eO K b U' K' Z') n U' Q Z' | .ret v=>Q (.ret v) U' Z':=by
  funext f U' Z';induction f using Fl.casesOn
  ·exact propext r5
  ·rfl
 rw[this] at k
 exact .mk (h.go _ ⟨fun za=>k.go,fun h=>nomatch h⟩)
theorem gO{t:E}{b r:List Mine.C}{n:Nat}(k:WL K t b (qN K r Q) n U Z):SS K (.wh t b::r) U Q Z:=by
 rw[lG] at k
 exact⟨⟨n,r5.mp k⟩⟩
theorem bq{n:Nat}{c:Option Nat}{f:Nat}{F:Fn}{vs:List V}{P:aO}(h:(pe c f).map FD.fn=some F)(hl:F.ps.length=vs.length)(k:SS (a8 n) F.body (bU F.ps vs Env.nil) (fq P) Z):a8 (n+1) c f vs P Z:=by
 refine o1x2 (Option.map_eq_some_iff.mp h) fun fd e e2=>?_;obtain rfl:=e2
 exact⟨fd,e,hl,k.go⟩
theorem bh{n:Nat}{c:Option Nat}{f:Nat}{F:Fn}{vs:List V}{v:V}(h:(pe c f).map FD.fn=some F)(hl:F.ps.length=vs.length)(k:∀ P:aO,P v Z→SS (a8 n) F.body (bU F.ps vs Env.nil) (fq P) Z):Cv (a8 (n+1)) c f vs Z v:=
 ⟨fun P q=>bq h hl (k P q)⟩
end
noncomputable abbrev FF(c:Option Nat)(f:Nat):=(pe c f).map FD.fn
noncomputable abbrev QQ(c:Option Nat)(f:Nat)(F:Fn)(_:FF c f=some F):=Fn
noncomputable def c0:Fn:=by exact(?f:QQ none 0 ?f (by conv=>lhs;reduce;simp only[Int.reduceOfNat,Int.reduceNegSucc]))
theorem xG:FF none 0=some c0:=by kernel_rfl
noncomputable def c1:Fn:=by exact(?f:QQ none 1 ?f (by conv=>lhs;reduce;simp only[Int.reduceOfNat,Int.reduceNegSucc]))
theorem CB:FF none 1=some c1:=by kernel_rfl
noncomputable def c2:Fn:=by exact(?f:QQ none 2 ?f (by conv=>lhs;reduce;simp only[Int.reduceOfNat,Int.reduceNegSucc]))
theorem xF:FF none 2=some c2:=by kernel_rfl
noncomputable def c3:Fn:=by exact(?f:QQ none 3 ?f (by conv=>lhs;reduce;simp only[Int.reduceOfNat,Int.reduceNegSucc]))
theorem xE:FF none 3=some c3:=by kernel_rfl
noncomputable def c4:Fn:=by exact(?f:QQ none 4 ?f (by conv=>lhs;reduce;simp only[Int.reduceOfNat,Int.reduceNegSucc]))
theorem CA:FF none 4=some c4:=by kernel_rfl
noncomputable def c5:Fn:=by exact(?f:QQ none 5 ?f (by conv=>lhs;reduce;simp only[Int.reduceOfNat,Int.reduceNegSucc]))
theorem Cz:FF none 5=some c5:=by kernel_rfl
noncomputable def c6:Fn:=by exact(?f:QQ none 6 ?f (by conv=>lhs;reduce;simp only[Int.reduceOfNat,Int.reduceNegSucc]))
theorem Cx:FF none 6=some c6:=by kernel_rfl
noncomputable def c7:Fn:=by exact(?f:QQ none 7 ?f (by conv=>lhs;reduce;simp only[Int.reduceOfNat,Int.reduceNegSucc]))
theorem Cw:FF none 7=some c7:=by kernel_rfl
noncomputable def c8:Fn:=by exact(?f:QQ none 8 ?f (by conv=>lhs;reduce;simp only[Int.reduceOfNat,Int.reduceNegSucc]))
theorem Cu:FF none 8=some c8:=by kernel_rfl
noncomputable def c9:Fn:=by exact(?f:QQ none 9 ?f (by conv=>lhs;reduce;simp only[Int.reduceOfNat,Int.reduceNegSucc]))
theorem Ct:FF none 9=some c9:=by kernel_rfl
noncomputable def H3:Fn:=by exact(?f:QQ none 10 ?f (by conv=>lhs;reduce;simp only[Int.reduceOfNat,Int.reduceNegSucc]))
theorem Az:FF none 10=some H3:=by kernel_rfl
noncomputable def H2:Fn:=by exact(?f:QQ none 11 ?f (by conv=>lhs;reduce;simp only[Int.reduceOfNat,Int.reduceNegSucc]))
theorem Ay:FF none 11=some H2:=by kernel_rfl
noncomputable def rZ:Fn:=by exact(?f:QQ none 12 ?f (by conv=>lhs;reduce;simp only[Int.reduceOfNat,Int.reduceNegSucc]))
theorem Ax:FF none 12=some rZ:=by kernel_rfl
noncomputable def H0:Fn:=by exact(?f:QQ none 13 ?f (by conv=>lhs;reduce;simp only[Int.reduceOfNat,Int.reduceNegSucc]))
theorem uy:FF none 13=some H0:=by kernel_rfl
noncomputable def HZ:Fn:=by exact(?f:QQ none 14 ?f (by conv=>lhs;reduce;simp only[Int.reduceOfNat,Int.reduceNegSucc]))
theorem Aw:FF none 14=some HZ:=by kernel_rfl
noncomputable def HY:Fn:=by exact(?f:QQ none 15 ?f (by conv=>lhs;reduce;simp only[Int.reduceOfNat,Int.reduceNegSucc]))
theorem Av:FF none 15=some HY:=by kernel_rfl
noncomputable def EM:Fn:=by exact(?f:QQ none 16 ?f (by conv=>lhs;reduce;simp only[Int.reduceOfNat,Int.reduceNegSucc]))
theorem Au:FF none 16=some EM:=by kernel_rfl
noncomputable def HX:Fn:=by exact(?f:QQ none 17 ?f (by conv=>lhs;reduce;simp only[Int.reduceOfNat,Int.reduceNegSucc]))
theorem Ar:FF none 17=some HX:=by kernel_rfl
noncomputable def HW:Fn:=by exact(?f:QQ none 18 ?f (by conv=>lhs;reduce;simp only[Int.reduceOfNat,Int.reduceNegSucc]))
theorem Aq:FF none 18=some HW:=by kernel_rfl
noncomputable def HV:Fn:=by exact(?f:QQ none 19 ?f (by conv=>lhs;reduce;simp only[Int.reduceOfNat,Int.reduceNegSucc]))
theorem Ap:FF none 19=some HV:=by kernel_rfl
noncomputable def HU:Fn:=by exact(?f:QQ none 20 ?f (by conv=>lhs;reduce;simp only[Int.reduceOfNat,Int.reduceNegSucc]))
theorem Ao:FF none 20=some HU:=by kernel_rfl
noncomputable def HT:Fn:=by exact(?f:QQ none 21 ?f (by conv=>lhs;reduce;simp only[Int.reduceOfNat,Int.reduceNegSucc]))
theorem An:FF none 21=some HT:=by kernel_rfl
noncomputable def HS:Fn:=by exact(?f:QQ none 22 ?f (by conv=>lhs;reduce;simp only[Int.reduceOfNat,Int.reduceNegSucc]))
theorem Am:FF none 22=some HS:=by kernel_rfl
noncomputable def HR:Fn:=by exact(?f:QQ none 23 ?f (by conv=>lhs;reduce;simp only[Int.reduceOfNat,Int.reduceNegSucc]))
theorem Al:FF none 23=some HR:=by kernel_rfl
noncomputable def HQ:Fn:=by exact(?f:QQ none 24 ?f (by conv=>lhs;reduce;simp only[Int.reduceOfNat,Int.reduceNegSucc]))
theorem Ak:FF none 24=some HQ:=by kernel_rfl
noncomputable def EL:Fn:=by exact(?f:QQ none 25 ?f (by conv=>lhs;reduce;simp only[Int.reduceOfNat,Int.reduceNegSucc]))
theorem Aj:FF none 25=some EL:=by kernel_rfl
noncomputable def HP:Fn:=by exact(?f:QQ none 26 ?f (by conv=>lhs;reduce;simp only[Int.reduceOfNat,Int.reduceNegSucc]))
theorem Ai:FF none 26=some HP:=by kernel_rfl
noncomputable def HO:Fn:=by exact(?f:QQ none 27 ?f (by conv=>lhs;reduce;simp only[Int.reduceOfNat,Int.reduceNegSucc]))
theorem Ah:FF none 27=some HO:=by kernel_rfl
noncomputable def HN:Fn:=by exact(?f:QQ none 28 ?f (by conv=>lhs;reduce;simp only[Int.reduceOfNat,Int.reduceNegSucc]))
theorem Ag:FF none 28=some HN:=by kernel_rfl
noncomputable def HM:Fn:=by exact(?f:QQ none 29 ?f (by conv=>lhs;reduce;simp only[Int.reduceOfNat,Int.reduceNegSucc]))
theorem Af:FF none 29=some HM:=by kernel_rfl
noncomputable def HL:Fn:=by exact(?f:QQ none 30 ?f (by conv=>lhs;reduce;simp only[Int.reduceOfNat,Int.reduceNegSucc]))
theorem Ae:FF none 30=some HL:=by kernel_rfl
noncomputable def HK:Fn:=by exact(?f:QQ none 31 ?f (by conv=>lhs;reduce;simp only[Int.reduceOfNat,Int.reduceNegSucc]))
theorem Ad:FF none 31=some HK:=by kernel_rfl
noncomputable def HJ:Fn:=by exact(?f:QQ none 32 ?f (by conv=>lhs;reduce;simp only[Int.reduceOfNat,Int.reduceNegSucc]))
theorem Ac:FF none 32=some HJ:=by kernel_rfl
noncomputable def HI:Fn:=by exact(?f:QQ none 33 ?f (by conv=>lhs;reduce;simp only[Int.reduceOfNat,Int.reduceNegSucc]))
theorem Ab:FF none 33=some HI:=by kernel_rfl
noncomputable def HH:Fn:=by exact(?f:QQ none 34 ?f (by conv=>lhs;reduce;simp only[Int.reduceOfNat,Int.reduceNegSucc]))
theorem ux:FF none 34=some HH:=by kernel_rfl
noncomputable def HG:Fn:=by exact(?f:QQ none 35 ?f (by conv=>lhs;reduce;simp only[Int.reduceOfNat,Int.reduceNegSucc]))
theorem uw:FF none 35=some HG:=by kernel_rfl
noncomputable def HE:Fn:=by exact(?f:QQ none 36 ?f (by conv=>lhs;reduce;simp only[Int.reduceOfNat,Int.reduceNegSucc]))
theorem Aa:FF none 36=some HE:=by kernel_rfl
noncomputable def HD:Fn:=by exact(?f:QQ none 37 ?f (by conv=>lhs;reduce;simp only[Int.reduceOfNat,Int.reduceNegSucc]))
theorem uu:FF none 37=some HD:=by kernel_rfl
noncomputable def HC:Fn:=by exact(?f:QQ none 38 ?f (by conv=>lhs;reduce;simp only[Int.reduceOfNat,Int.reduceNegSucc]))
theorem z9:FF none 38=some HC:=by kernel_rfl
noncomputable def HA:Fn:=by exact(?f:QQ none 39 ?f (by conv=>lhs;reduce;simp only[Int.reduceOfNat,Int.reduceNegSucc]))
theorem z8:FF none 39=some HA:=by kernel_rfl
noncomputable def Hz:Fn:=by exact(?f:QQ none 40 ?f (by conv=>lhs;reduce;simp only[Int.reduceOfNat,Int.reduceNegSucc]))
theorem ut:FF none 40=some Hz:=by kernel_rfl
noncomputable def FK:Fn:=by exact(?f:QQ none 41 ?f (by conv=>lhs;reduce;simp only[Int.reduceOfNat,Int.reduceNegSucc]))
theorem z7:FF none 41=some FK:=by kernel_rfl
noncomputable def Hy:Fn:=by exact(?f:QQ none 42 ?f (by conv=>lhs;reduce;simp only[Int.reduceOfNat,Int.reduceNegSucc]))
theorem z6:FF none 42=some Hy:=by kernel_rfl
noncomputable def Hx:Fn:=by exact(?f:QQ none 43 ?f (by conv=>lhs;reduce;simp only[Int.reduceOfNat,Int.reduceNegSucc]))
theorem ur:FF none 43=some Hx:=by kernel_rfl
noncomputable def Hw:Fn:=by exact(?f:QQ none 44 ?f (by conv=>lhs;reduce;simp only[Int.reduceOfNat,Int.reduceNegSucc]))
theorem z5:FF none 44=some Hw:=by kernel_rfl
noncomputable def Hv:Fn:=by exact(?f:QQ none 45 ?f (by conv=>lhs;reduce;simp only[Int.reduceOfNat,Int.reduceNegSucc]))
theorem zZ:FF none 45=some Hv:=by kernel_rfl
noncomputable def Hu:Fn:=by exact(?f:QQ none 46 ?f (by conv=>lhs;reduce;simp only[Int.reduceOfNat,Int.reduceNegSucc]))
theorem zY:FF none 46=some Hu:=by kernel_rfl
noncomputable def Ht:Fn:=by exact(?f:QQ none 47 ?f (by conv=>lhs;reduce;simp only[Int.reduceOfNat,Int.reduceNegSucc]))
theorem zX:FF none 47=some Ht:=by kernel_rfl
noncomputable def Hs:Fn:=by exact(?f:QQ none 48 ?f (by conv=>lhs;reduce;simp only[Int.reduceOfNat,Int.reduceNegSucc]))
theorem zW:FF none 48=some Hs:=by kernel_rfl
noncomputable def Hr:Fn:=by exact(?f:QQ none 49 ?f (by conv=>lhs;reduce;simp only[Int.reduceOfNat,Int.reduceNegSucc]))
theorem uq:FF none 49=some Hr:=by kernel_rfl
noncomputable def Hq:Fn:=by exact(?f:QQ none 50 ?f (by conv=>lhs;reduce;simp only[Int.reduceOfNat,Int.reduceNegSucc]))
theorem pq:FF none 50=some Hq:=by kernel_rfl
noncomputable def Ho:Fn:=by exact(?f:QQ none 51 ?f (by conv=>lhs;reduce;simp only[Int.reduceOfNat,Int.reduceNegSucc]))
theorem zV:FF none 51=some Ho:=by kernel_rfl
noncomputable def Hn:Fn:=by exact(?f:QQ none 52 ?f (by conv=>lhs;reduce;simp only[Int.reduceOfNat,Int.reduceNegSucc]))
theorem uo:FF none 52=some Hn:=by kernel_rfl
noncomputable def Hm:Fn:=by exact(?f:QQ none 53 ?f (by conv=>lhs;reduce;simp only[Int.reduceOfNat,Int.reduceNegSucc]))
theorem zU:FF none 53=some Hm:=by kernel_rfl
noncomputable def EK:Fn:=by exact(?f:QQ none 54 ?f (by conv=>lhs;reduce;simp only[Int.reduceOfNat,Int.reduceNegSucc]))
theorem zT:FF none 54=some EK:=by kernel_rfl
noncomputable def Hl:Fn:=by exact(?f:QQ none 55 ?f (by conv=>lhs;reduce;simp only[Int.reduceOfNat,Int.reduceNegSucc]))
theorem zS:FF none 55=some Hl:=by kernel_rfl
noncomputable def Hk:Fn:=by exact(?f:QQ none 56 ?f (by conv=>lhs;reduce;simp only[Int.reduceOfNat,Int.reduceNegSucc]))
theorem zR:FF none 56=some Hk:=by kernel_rfl
noncomputable def Hj:Fn:=by exact(?f:QQ none 57 ?f (by conv=>lhs;reduce;simp only[Int.reduceOfNat,Int.reduceNegSucc]))
theorem um:FF none 57=some Hj:=by kernel_rfl
noncomputable def FJ:Fn:=by exact(?f:QQ none 58 ?f (by conv=>lhs;reduce;simp only[Int.reduceOfNat,Int.reduceNegSucc]))
theorem zQ:FF none 58=some FJ:=by kernel_rfl
noncomputable def Hi:Fn:=by exact(?f:QQ none 59 ?f (by conv=>lhs;reduce;simp only[Int.reduceOfNat,Int.reduceNegSucc]))
theorem ul:FF none 59=some Hi:=by kernel_rfl
noncomputable def FI:Fn:=by exact(?f:QQ none 60 ?f (by conv=>lhs;reduce;simp only[Int.reduceOfNat,Int.reduceNegSucc]))
theorem zP:FF none 60=some FI:=by kernel_rfl
noncomputable def Hh:Fn:=by exact(?f:QQ none 61 ?f (by conv=>lhs;reduce;simp only[Int.reduceOfNat,Int.reduceNegSucc]))
theorem zO:FF none 61=some Hh:=by kernel_rfl
noncomputable def Hg:Fn:=by exact(?f:QQ none 62 ?f (by conv=>lhs;reduce;simp only[Int.reduceOfNat,Int.reduceNegSucc]))
theorem zN:FF none 62=some Hg:=by kernel_rfl
noncomputable def Hf:Fn:=by exact(?f:QQ none 63 ?f (by conv=>lhs;reduce;simp only[Int.reduceOfNat,Int.reduceNegSucc]))
theorem zM:FF none 63=some Hf:=by kernel_rfl
noncomputable def He:Fn:=by exact(?f:QQ none 64 ?f (by conv=>lhs;reduce;simp only[Int.reduceOfNat,Int.reduceNegSucc]))
theorem zL:FF none 64=some He:=by kernel_rfl
noncomputable def FH:Fn:=by exact(?f:QQ none 65 ?f (by conv=>lhs;reduce;simp only[Int.reduceOfNat,Int.reduceNegSucc]))
theorem zK:FF none 65=some FH:=by kernel_rfl
noncomputable def Hd:Fn:=by exact(?f:QQ none 66 ?f (by conv=>lhs;reduce;simp only[Int.reduceOfNat,Int.reduceNegSucc]))
theorem uk:FF none 66=some Hd:=by kernel_rfl
noncomputable def Hc:Fn:=by exact(?f:QQ none 67 ?f (by conv=>lhs;reduce;simp only[Int.reduceOfNat,Int.reduceNegSucc]))
theorem zJ:FF none 67=some Hc:=by kernel_rfl
noncomputable def EJ:Fn:=by exact(?f:QQ none 68 ?f (by conv=>lhs;reduce;simp only[Int.reduceOfNat,Int.reduceNegSucc]))
theorem zI:FF none 68=some EJ:=by kernel_rfl
noncomputable def Cy:Fn:=by exact(?f:QQ none 69 ?f (by conv=>lhs;reduce;simp only[Int.reduceOfNat,Int.reduceNegSucc]))
theorem zH:FF none 69=some Cy:=by kernel_rfl
noncomputable def FG:Fn:=by exact(?f:QQ none 70 ?f (by conv=>lhs;reduce;simp only[Int.reduceOfNat,Int.reduceNegSucc]))
theorem zG:FF none 70=some FG:=by kernel_rfl
noncomputable def Hb:Fn:=by exact(?f:QQ none 71 ?f (by conv=>lhs;reduce;simp only[Int.reduceOfNat,Int.reduceNegSucc]))
theorem zF:FF none 71=some Hb:=by kernel_rfl
noncomputable def wV:Fn:=by exact(?f:QQ none 72 ?f (by conv=>lhs;reduce;simp only[Int.reduceOfNat,Int.reduceNegSucc]))
theorem zE:FF none 72=some wV:=by kernel_rfl
noncomputable def Ha:Fn:=by exact(?f:QQ none 73 ?f (by conv=>lhs;reduce;simp only[Int.reduceOfNat,Int.reduceNegSucc]))
theorem zD:FF none 73=some Ha:=by kernel_rfl
noncomputable def Di:Fn:=by exact(?f:QQ none 74 ?f (by conv=>lhs;reduce;simp only[Int.reduceOfNat,Int.reduceNegSucc]))
theorem zC:FF none 74=some Di:=by kernel_rfl
noncomputable def G9:Fn:=by exact(?f:QQ none 75 ?f (by conv=>lhs;reduce;simp only[Int.reduceOfNat,Int.reduceNegSucc]))
theorem zB:FF none 75=some G9:=by kernel_rfl
noncomputable def FE:Fn:=by exact(?f:QQ none 76 ?f (by conv=>lhs;reduce;simp only[Int.reduceOfNat,Int.reduceNegSucc]))
theorem zA:FF none 76=some FE:=by kernel_rfl
noncomputable def Dh:Fn:=by exact(?f:QQ none 77 ?f (by conv=>lhs;reduce;simp only[Int.reduceOfNat,Int.reduceNegSucc]))
theorem zy:FF none 77=some Dh:=by kernel_rfl
noncomputable def yL:Fn:=by exact(?f:QQ (some 78) 96 ?f (by conv=>lhs;reduce;simp only[Int.reduceOfNat,Int.reduceNegSucc]))
theorem kO:FF (some 78) 96=some yL:=by kernel_rfl
noncomputable def yK:Fn:=by exact(?f:QQ (some 78) 98 ?f (by conv=>lhs;reduce;simp only[Int.reduceOfNat,Int.reduceNegSucc]))
theorem kN:FF (some 78) 98=some yK:=by kernel_rfl
noncomputable def vZ:Fn:=by exact(?f:QQ (some 84) 112 ?f (by conv=>lhs;reduce;simp only[Int.reduceOfNat,Int.reduceNegSucc]))
theorem oV:FF (some 84) 112=some vZ:=by kernel_rfl
noncomputable def vY:Fn:=by exact(?f:QQ (some 85) 167 ?f (by conv=>lhs;reduce;simp only[Int.reduceOfNat,Int.reduceNegSucc]))
theorem jU:FF (some 85) 167=some vY:=by kernel_rfl
noncomputable def vX:Fn:=by exact(?f:QQ (some 85) 168 ?f (by conv=>lhs;reduce;simp only[Int.reduceOfNat,Int.reduceNegSucc]))
theorem oU:FF (some 85) 168=some vX:=by kernel_rfl
noncomputable def vW:Fn:=by exact(?f:QQ (some 85) 172 ?f (by conv=>lhs;reduce;simp only[Int.reduceOfNat,Int.reduceNegSucc]))
theorem oT:FF (some 85) 172=some vW:=by kernel_rfl
noncomputable def vV:Fn:=by exact(?f:QQ (some 85) 173 ?f (by conv=>lhs;reduce;simp only[Int.reduceOfNat,Int.reduceNegSucc]))
theorem oS:FF (some 85) 173=some vV:=by kernel_rfl
noncomputable def vU:Fn:=by exact(?f:QQ (some 85) 176 ?f (by conv=>lhs;reduce;simp only[Int.reduceOfNat,Int.reduceNegSucc]))
theorem oQ:FF (some 85) 176=some vU:=by kernel_rfl
noncomputable def yM:Fn:=by exact(?f:QQ (some 78) 89 ?f (by conv=>lhs;reduce;simp only[Int.reduceOfNat,Int.reduceNegSucc]))
theorem rj:FF (some 78) 89=some yM:=by kernel_rfl
noncomputable def yJ:Fn:=by exact(?f:QQ (some 79) 89 ?f (by conv=>lhs;reduce;simp only[Int.reduceOfNat,Int.reduceNegSucc]))
theorem ri:FF (some 79) 89=some yJ:=by kernel_rfl
noncomputable def yI:Fn:=by exact(?f:QQ (some 80) 89 ?f (by conv=>lhs;reduce;simp only[Int.reduceOfNat,Int.reduceNegSucc]))
theorem rh:FF (some 80) 89=some yI:=by kernel_rfl
noncomputable def yH:Fn:=by exact(?f:QQ (some 81) 89 ?f (by conv=>lhs;reduce;simp only[Int.reduceOfNat,Int.reduceNegSucc]))
theorem rg:FF (some 81) 89=some yH:=by kernel_rfl
noncomputable def yG:Fn:=by exact(?f:QQ (some 82) 89 ?f (by conv=>lhs;reduce;simp only[Int.reduceOfNat,Int.reduceNegSucc]))
theorem re:FF (some 82) 89=some yG:=by kernel_rfl
noncomputable def yF:Fn:=by exact(?f:QQ (some 85) 89 ?f (by conv=>lhs;reduce;simp only[Int.reduceOfNat,Int.reduceNegSucc]))
theorem q8:FF (some 85) 89=some yF:=by kernel_rfl
noncomputable def yE:Fn:=by exact(?f:QQ (some 86) 89 ?f (by conv=>lhs;reduce;simp only[Int.reduceOfNat,Int.reduceNegSucc]))
theorem q7:FF (some 86) 89=some yE:=by kernel_rfl
noncomputable def oP:Fn:=by exact(?f:QQ (some 87) 89 ?f (by conv=>lhs;reduce;simp only[Int.reduceOfNat,Int.reduceNegSucc]))
theorem q6:FF (some 87) 89=some oP:=by kernel_rfl
noncomputable def yD:Fn:=by exact(?f:QQ (some 88) 89 ?f (by conv=>lhs;reduce;simp only[Int.reduceOfNat,Int.reduceNegSucc]))
theorem q5:FF (some 88) 89=some yD:=by kernel_rfl
end Mine
namespace Mine
open PySem
noncomputable def aM(p:List Int):List V:=p.map V.int
noncomputable def aU(s:List (List Int))(k:Int):Option (List Int):=if 18≤k then s[(k - 18).toNat]? else none
noncomputable def plain:List Int:=[12,7,16,9,4,2,3]
structure db (s:List (List Int)):Prop where
 len:4≤s.length∧s.length≤7
 row:∀ (k:Int) (r:List Int),aU s k=some r→(18≤k∧k<18+s.length)∧0<r.length∧r.length≤3∧∀ k' ∈ r,(k'=k+1∧k+1<18+s.length)∨k' ∈ plain
theorem jG{s:List (List Int)}{k:Int}(h:k<18):aU s k=none:=aD (Int.not_le.mpr h)
noncomputable def cj(s:List (List Int)):Int→List Int→Option Int
 |k,[]=>some k
 |k,i::p=>match aU s k with
  |some r=>if 0≤i then(match r[i.toNat]? with | some k'=>cj s k' p | none=>none) else none
  |none=>none
noncomputable def eA(k t z:Int):Prop:=if k=12 then t=4∧z ∈ ([0,16,20,24]:List Int) else t=1∨t=2
noncomputable def nd(k:Int)(vs:List V):V:=.tup [.int 5,.int k,.tup vs]
inductive Ty (s:List (List Int)):Int→V→Prop
 |leaf (k t z:Int):aU s k=none→eA k t z→Ty s k (.tup [.int t,.int z])
 |node (k:Int) (r:List Int) (vs:List V):aU s k=some r→vs.length=r.length→(∀ (i:Nat) (k':Int) (v:V),r[i]? = some k'→vs[i]? = some v→Ty s k' v)→Ty s k (nd k vs)
noncomputable def BW:V→List V
 |.tup [_,_,.tup vs]=>vs
 |_=>[]
noncomputable def sub(v:V)(i:Int):Option V:=if 0≤i then(BW v)[i.toNat]? else none
noncomputable def bF:V→List Int→Option V
 |v,[]=>some v
 |v,i::p=>match sub v i with | some u=>bF u p | none=>none
noncomputable def oK(v:V)(i:Int)(u:V):V:=match v with
 |.tup [_,k,.tup vs]=>.tup [.int 5,k,.tup (vs.set i.toNat u)]
 |_=>.none
noncomputable def cM:V→List Int→V→V
 |_,[],x=>x
 |v,i::p,x=>oK v i (cM ((sub v i).getD .none) p x)
variable {s:List (List Int)}
theorem b9{v u:V}{i:Int}{p:List Int}(h:sub v i=some u):bF v (i::p)=bF u p:=by
 show(match sub v i with | some u=>bF u p | none=>none)=_
 (refine af h ?_;with_reducible rfl)
theorem eJ{v u x:V}{i:Int}{p:List Int}(h:sub v i=some u):cM v (i::p) x=oK v i (cM u p x):=by
 show oK v i (cM ((sub v i).getD .none) p x)=_
 refine af h ?_;rfl
structure xS (s:List (List Int)) (k:Int) (v:V) (i:Int) (k₁:Int) (u:V):Prop where
 sub:sub v i=some u
 ty:Ty s k₁ u
 put:∀ w,Ty s k₁ w→Ty s k (oK v i w)
 kat:∀ q,cj s k (i::q)=cj s k₁ q
 get:∀ w j,Mine.sub (oK v i w) j=if j=i then some w else Mine.sub v j
theorem Ty.under{k:Int}{v:V}(h:Ty s k v){i k₁:Int}{r:List Int}(e:aU s k=some r)(hi:0≤i)(e1:r[i.toNat]? = some k₁):∃ u,xS s k v i k₁ u:=by
 induction h using Ty.casesOn with
 |leaf k t z h=>rw[h] at e;exact ns e
 |node k r' vs h1 h2 h3=>
  obtain rfl:r'=r:=aP (h1.symm.trans e)
  have l:i.toNat<vs.length:=h2▸(List.getElem?_eq_some_iff.mp e1).1
  have g:=List.getElem?_eq_getElem l
  refine⟨_,(aG hi).trans g,h3 _ _ _ e1 g,fun w hw=>.node _ _ _ e (List.length_set.trans h2) fun j ka x hj hx=>?_,fun q=>?_,fun w j=>?_⟩
  ·rw[List.getElem?_set] at hx
   split at hx
   ·next c=>
    subst c
    obtain rfl:=aP hx
    rw[e1] at hj;refine br (aP hj) ?_;exact hw
   ·exact h3 _ _ _ hj hx
  ·show(match aU s k with | some r=>if 0≤i then(match r[i.toNat]? with | some k'=>cj s k' q | none=>none) else none | none=>none)=_
   refine af e ?_;skip;(refine ak (aG hi) ?_;(refine af e1 ?_;with_reducible rfl))
  ·show(if 0≤j then(vs.set i.toNat w)[j.toNat]? else none)=if j=i then some w else if 0≤j then vs[j.toNat]? else none
   by_cases c:j=i
   ·refine af c ?_;(refine af (aG rfl) ?_;refine ak (aG hi) ?_;refine ak (List.getElem?_set) ?_;refine ak (aG rfl) ?_;(refine ak (aG l) ?_;with_reducible rfl))
   ·(refine af (aD c) ?_;refine af (List.getElem?_set) ?_)
    by_cases d:0≤j
    ·(refine ak (aG d) ?_;refine af (aG d) ?_;(refine ak (aD (by lia)) ?_;with_reducible rfl))
    ·(refine ak (aD d) ?_;(refine af (aD d) ?_;with_reducible rfl))
set_option tactic.hygienic true in
theorem cD{k k' i:Int}{p:List Int}(e:cj s k (i::p)=some k'):∃ r k₁,aU s k=some r∧0≤i∧r[i.toNat]? = some k₁∧cj s k₁ p=some k':=by
 unfold cj at e
 split at e
 ·next r hr=>
  split at e
  ·next hi=>
   split at e
   ·next k₁ h1=>exact⟨r,k₁,hr,hi,h1,e⟩
   ·exact ns e
  ·exact ns e
 ·exact ns e
theorem Ty.step{k k' i:Int}{p:List Int}{v:V}(h:Ty s k v)(e:cj s k (i::p)=some k'):∃ k₁ u,xS s k v i k₁ u∧cj s k₁ p=some k':=
 let ⟨_,k₁,a,b,c,d⟩:=cD e
 let ⟨u,h⟩:=h.under a b c
 ⟨k₁,u,h,d⟩
theorem Ty.get{k':Int}(p:List Int):∀ {k:Int} {v:V},Ty s k v→cj s k p=some k'→∃ u,bF v p=some u∧Ty s k' u:=by
 induction p with
 |nil=>intro k v h e;refine br (aP e) ?_;exact⟨v,rfl,h⟩
 |cons i p ih=>
  intro k v h e
  refine o2x2 (h.step e) fun k₁ u b e=>?_
  refine af (b9 b.sub) ?_;exact ih b.ty e
theorem Ty.put{k':Int}{x:V}(hx:Ty s k' x)(p:List Int):∀ {k:Int} {v:V},Ty s k v→cj s k p=some k'→Ty s k (cM v p x):=by
 induction p with
 |nil=>intro k v h e;refine af (aP e) ?_;exact hx
 |cons i p ih=>
  intro k v h e
  refine o2x2 (h.step e) fun k₁ u b e=>?_
  refine af (eJ b.sub) ?_;exact b.put _ (ih b.ty e)
theorem wy{k':Int}{x:V}{q:List Int}(p:List Int):∀ {k:Int} {v:V},Ty s k v→cj s k p=some k'→bF (cM v p x) (p++q)=bF x q:=by
 induction p with
 |nil=>intro k v h e;rfl
 |cons i p ih=>
  intro k v h e
  refine o2x2 (h.step e) fun k₁ u b e=>?_
  (refine af (eJ b.sub) ?_;refine af List.cons_append ?_;refine ak (b9 ((b.get _ _).trans (aG rfl))) ?_);exact ih b.ty e
theorem pb{k' k'':Int}{x:V}(p:List Int):∀ {k:Int} {v:V} {q:List Int},Ty s k v→cj s k p=some k'→cj s k q=some k''→aU s k''=none→(∀ w,q≠p++w)→bF (cM v p x) q=bF v q:=by
 induction p with
 |nil=>intro k v q h e e' hl hn;exact absurd rfl (hn q)
 |cons i p ih=>
  intro k v q h e e' hl hn
  refine o2x2 (h.step e) fun k₁ u b e1=>?_
  refine af (eJ b.sub) ?_
  induction q using List.casesOn with
  |nil=>refine o2x2 (cD e) fun r za f1 za=>?_;obtain rfl:=aP e';rw[hl] at f1;exact ns f1
  |cons j q=>
   refine o2x2 (h.step e') fun ka u' b' e2=>?_
   by_cases c:j=i
   ·subst c
    (refine ak (b9 ((b.get _ _).trans (aG rfl))) ?_;refine af (b9 b.sub) ?_)
    exact ih b.ty e1 (b.kat _▸e') hl fun w hw=>hn w (by refine af hw ?_;rfl)
   ·(refine ak (b9 (((b.get _ _).trans (aD c)).trans b'.sub)) ?_;(refine af (b9 b'.sub) ?_;with_reducible rfl))
end Mine
namespace Mine
open PySem
noncomputable abbrev Sp:=List (List Int×Int)
noncomputable def wr(f:Int→Sp):Int→List Int→Sp
 |_,[]=>[]
 |i,k::r=>(f k).map (fun p=>(i::p.1,p.2))++wr f (i+1) r
noncomputable def wi(s:List (List Int)):Nat→Int→Sp
 |0,k=>[([],k)]
 |n+1,k=>([],k)::(match aU s k with | some r=>wr (wi s n) 0 r | none=>[])
noncomputable def rk(s:List (List Int))(k:Int):Nat:=match aU s k with | some _=>(18+(s.length:Int) - k).toNat | none=>0
noncomputable def W(s:List (List Int))(k:Int):Sp:=wi s (rk s k) k
variable {s:List (List Int)}
theorem f9(h:db s){k k':Int}{r:List Int}(e:aU s k=some r)(hk:k' ∈ r):rk s k'<rk s k:=by
 refine o0x4 (h.row k r e) fun a za za b=>?_
 have ek:rk s k=(18+(s.length:Int) - k).toNat:=by unfold rk;(refine af e ?_;with_reducible rfl)
 refine af ek ?_
 rcases b k' hk with⟨rfl,c⟩ | c
 ·unfold rk;split<;>lia
 ·have:aU s k'=none:=jG (by simp[plain] at c;lia)
  unfold rk;refine af this ?_;dsimp only;lia
theorem ib(h:db s){P:Int→Prop}(leaf:∀ k,aU s k=none→P k)(node:∀ k r,aU s k=some r→(∀ k' ∈ r,P k')→P k)(k:Int):P k:=by
 have:∀ n k,rk s k<n→P k:=by
  intro n
  induction n with
  |zero=>intro k hk;cases hk
  |succ n ih=>
   intro k hk
   induction e:aU s k using Option.casesOn with
   |none=>exact leaf k e
   |some r=>exact node k r e fun k' hk'=>ih k' (by have:=f9 h e hk';lia)
 exact this _ k (Nat.lt_succ_self _)
theorem mM{f g:Int→Sp}(r:List Int):∀ i,(∀ k ∈ r,f k=g k)→wr f i r=wr g i r:=by
 induction r with
 |nil=>intro _ _;rfl
 |cons k r ih=>intro i h;unfold wr;(refine af (h k (.head _)) ?_;(refine af (ih _ fun k hk=>h k (.tail _ hk)) ?_;with_reducible rfl))
theorem CN(h:db s):∀ n k,rk s k≤n→wi s n k=W s k:=by
 intro n k hn
 have:∀ m n k,rk s k<m→rk s k≤n→wi s n k=W s k:=by
  intro m
  induction m with
  |zero=>intro n k hk;cases hk
  |succ m ih=>
   intro n k hk hn
   induction e:aU s k using Option.casesOn with
   |none=>
    have:∀ n,wi s n k=[([],k)]:=fun n=>by induction n using Nat.casesAuxOn<;>(unfold wi;first | rfl | (refine af e ?_;with_reducible rfl))
    unfold W;(rewrite[this];rw[this])
   |some r=>
    have:∀ n,rk s k≤n→wi s n k=([],k)::wr (W s) 0 r:=fun n hn=>by
     refine aH ((⟨n - 1,by have:=(h.row k r e).1;unfold rk at hn;rw[e] at hn;dsimp only at hn;lia⟩:∃ j,n=j+1)) fun n e1=>?_;obtain rfl:=e1
     unfold wi;refine af e ?_
     exact congrArg _ (mM r 0 fun k' hk'=>ih n k' (by have:=f9 h e hk';lia) (by have:=f9 h e hk';lia))
    unfold W;(refine ak (this n hn) ?_;(refine af (this _ (Nat.le_refl _)) ?_;with_reducible rfl))
 exact this _ n k (Nat.lt_succ_self _) hn
theorem kh{k:Int}(e:aU s k=none):W s k=[([],k)]:=by
 delta W rk;refine af e ?_;rfl
theorem mB(h:db s){k:Int}{r:List Int}(e:aU s k=some r):W s k=([],k)::wr (W s) 0 r:=by
 refine br (CN h (rk s k+1) k (by lia)) ?_
 unfold wi;refine af e ?_
 exact congrArg _ (mM r 0 fun k' hk'=>CN h _ k' (by have:=f9 h e hk';lia))
theorem xU{f:Int→Sp}{x:List Int×Int}(r:List Int):∀ i:Int,x ∈ wr f i r↔∃ (j:Nat) (k:Int) (q:List Int),r[j]? = some k∧x.1=(i+j)::q∧(q,x.2) ∈ f k:=by
 induction r with
 |nil=>intro i;exact⟨fun h=>(nomatch h),fun⟨j,k,q,h,_⟩=>nomatch h⟩
 |cons k r ih=>
  intro i
  unfold wr
  (rewrite[List.mem_append];rewrite[ih];rw[List.mem_map])
  constructor
  ·rintro(⟨y,hy,rfl⟩ | ⟨j,k',q,a,b,c⟩)
   ·exact⟨0,k,y.1,rfl,by(refine af Int.natCast_zero ?_;rw[Int.add_zero]),hy⟩
   ·exact⟨j+1,k',q,a,by(refine ak (b) ?_;rewrite[Int.natCast_add];rewrite[Int.add_comm (j:Int)];rw[← Int.add_assoc]);rfl,c⟩
  ·intro p0;refine o3x3 p0 fun j k' q a b c=>?_;clear p0
   induction j using Nat.casesAuxOn with
   |zero=>refine af (aP a) ?_;exact .inl ⟨(q,x.2),c,Prod.ext (by(refine af b ?_;refine af Int.natCast_zero ?_;rw[Int.add_zero])) rfl⟩
   |succ j=>exact .inr ⟨j,k',q,a,by(refine ak (b) ?_;rewrite[Int.natCast_add];rewrite[Int.add_comm (j:Int)];rw[← Int.add_assoc]);rfl,c⟩
theorem fV(h:db s){f:Int}(k:Int):∀ p,(p,f) ∈ W s k↔cj s k p=some f:=by
 refine ib h (P:=fun k=>∀ p,(p,f) ∈ W s k↔cj s k p=some f) (fun k e p=>?_) (fun k r e ih p=>?_) k
 ·(refine af (kh e) ?_;rw[List.mem_singleton])
  induction p using List.casesOn with
  |nil=>exact⟨fun h=>by cases h;rfl,fun h=>by refine af (aP h) ?_;rfl⟩
  |cons i p=>exact⟨fun h=>(nomatch h),fun h=>by refine o2x2 (cD h) fun za za a za=>?_;rw[e] at a;exact ns a⟩
 ·(refine af (mB h e) ?_;rewrite[List.mem_cons];rw[xU])
  induction p using List.casesOn with
  |nil=>exact⟨fun h=>h.elim (fun h=>by cases h;rfl) fun⟨_,_,_,_,a,_⟩=>(nomatch a),fun h=>by refine af (aP h) ?_;exact .inl rfl⟩
  |cons i p=>
   constructor
   ·rintro(h | ⟨j,k',q,a,b,c⟩)
    ·cases h
    ·cases b
     unfold cj;refine af e ?_;dsimp only
     (refine ak (aG (by lia)) ?_;refine af (show((0:Int)+j).toNat=j by lia) ?_;refine af a ?_)
     exact(ih k' (List.mem_of_getElem? a) _).mp c
   ·intro hk
    refine o2x4 (cD hk) fun r' k₁ a b c d=>?_
    cases e.symm.trans a
    exact .inr ⟨i.toNat,k₁,p,c,by(refine af (show(0:Int)+i.toNat=i by lia) ?_;with_reducible rfl),(ih k₁ (List.mem_of_getElem? c) p).mpr d⟩
end Mine
namespace Mine
open PySem
noncomputable def ji(k:Int)(u:Option V):Option Int:=if k=12 then(match u with | some (.tup [_,.int a])=>if 0<a then some a else none | _=>none) else none
noncomputable def dK(s:List (List Int))(k:Int)(v:V):List Int:=(W s k).filterMap fun x=>ji x.2 (bF v x.1)
noncomputable def RL(s:List (List Int)):List (Int×V)→List Int
 |[]=>[]
 |x::l=>dK s x.1 x.2++RL s l
noncomputable def SZ(s:List (List Int)):List (Int×V)→Nat
 |[]=>0
 |x::l=>(W s x.1).length+SZ s l
variable {s:List (List Int)}
theorem AW(a b:List (Int×V)):RL s (a++b)=RL s a++RL s b:=by
 induction a with
 |nil=>rfl
 |cons x a ih=>show _++RL s (a++b)=_;(refine af ih ?_;rw[← List.append_assoc]);rfl
theorem pE(a b:List (Int×V)):SZ s (a++b)=SZ s a+SZ s b:=by
 induction a with
 |nil=>exact(Nat.zero_add _).symm
 |cons x a ih=>show _+SZ s (a++b)=_;(refine af ih ?_;rw[← Nat.add_assoc]);rfl
theorem wz{k i:Int}{vs:List V}{p:List Int}:bF (nd k vs) (i::p)=if 0≤i then(vs[i.toNat]?).bind fun u=>bF u p else none:=by
 show(match(if 0≤i then vs[i.toNat]? else none) with | some u=>bF u p | none=>none)=_
 split<;>split<;>simp_all
theorem u0(r:List Int):∀ (pre vs:List V) (k:Int),vs.length=r.length→(wr (W s) pre.length r).filterMap (fun x=>ji x.2 (bF (nd k (pre++vs)) x.1))=RL s (r.zip vs):=by
 induction r with
 |nil=>intro pre vs k h;rfl
 |cons k' r ih=>
  intro pre vs k h
  induction vs using List.casesOn with
  |nil=>cases h
  |cons v vs=>
   skip
   (refine ak (List.filterMap_append) ?_;refine af List.filterMap_map ?_)
   have e1:(fun x:List Int×Int=>ji x.2 (bF (nd k (pre++v::vs)) ((pre.length:Int)::x.1)))=fun x=>ji x.2 (bF v x.1):=by
    funext x
    (refine af wz ?_;refine af (aG (Int.natCast_nonneg _)) ?_;rewrite[Int.toNat_natCast];refine af (List.getElem?_append_right (Nat.le_refl _)) ?_;rw[Nat.sub_self]);rfl
   have e2:=ih (pre++[v]) vs k (Nat.succ.inj h)
   (rewrite[List.append_assoc] at e2;rewrite[List.length_append] at e2;rw[Int.natCast_add] at e2)
   exact congr (congrArg _ (congrArg (List.filterMap · (W s k')) e1)) e2
theorem qV(h:db s){k:Int}{r:List Int}{vs:List V}(e:aU s k=some r)(hl:vs.length=r.length):dK s k (nd k vs)=RL s (r.zip vs):=by
 have hk:k≠12:=fun q=>by have:=(h.row k r e).1;omega
 delta dK
 (refine af (mB h e) ?_;refine ak (List.filterMap_cons) ?_;refine af (show ji k (bF (nd k vs) [])=none from aD hk) ?_)
 exact u0 r [] vs k hl
theorem xV(r:List Int):∀ (i:Int) (vs:List V),vs.length=r.length→(wr (W s) i r).length=SZ s (r.zip vs):=by
 induction r with
 |nil=>intro _ _ _;rfl
 |cons k r ih=>
  intro i vs h
  induction vs using List.casesOn with
  |nil=>cases h
  |cons v vs=>
   skip
   (refine ak (List.length_append) ?_;rewrite[List.length_map];refine af (ih (i+1) vs (Nat.succ.inj h)) ?_);rfl
theorem qP(h:db s){k:Int}{r:List Int}{vs:List V}(e:aU s k=some r)(hl:vs.length=r.length):(W s k).length=1+SZ s (r.zip vs):=by
 (refine af (mB h e) ?_;refine ak (List.length_cons) ?_;refine af (xV r 0 vs hl) ?_;rw[Nat.add_comm])
noncomputable def dA(p:List Int):List Int:=(p.reverse.dropWhile (· == 0)).reverse
noncomputable def i6(m:Nat):List Int:=List.replicate m 0
theorem gy(p:List Int):∀ m,dA (p++i6 m)=dA p
 |0=>by(rewrite[i6];refine af List.replicate_zero ?_;rw[List.append_nil])
 |m+1=>by
  have:=gy p m
  delta dA i6 at *
  (refine af List.replicate_succ' ?_;rewrite[← List.append_assoc];refine af List.reverse_append ?_)
  exact this
theorem mV(p:List Int):∃ a,p=dA p++i6 a:=by
 delta dA
 generalize hq:p.reverse=q
 have:p=q.reverse:=by(refine br hq ?_;rw[List.reverse_reverse])
 subst this
 clear hq
 induction q with
 |nil=>exact⟨0,rfl⟩
 |cons x q ih=>
  by_cases hx:x=0
  ·subst hx
   obtain⟨a,ha⟩:=ih
   refine⟨a+1,?_⟩
   (refine ak (List.reverse_cons) ?_;refine af (List.dropWhile_cons_of_pos rfl) ?_;rewrite[i6];refine af List.replicate_succ' ?_;rw[← List.append_assoc])
   exact congrArg (·++[0]) ha
  ·exact⟨0,by(refine af (List.dropWhile_cons_of_neg (by simpa using hx)) ?_;rewrite[i6];refine af List.replicate_zero ?_;rw[List.append_nil])⟩
theorem cV(q:List Int)(p:List Int):∀ {k k':Int},cj s k p=some k'→cj s k (p++q)=cj s k' q:=by
 induction p with
 |nil=>intro k k' e;refine af (aP e) ?_;rfl
 |cons i p ih=>
  intro k k' e
  refine o2x4 (cD e) fun r k₁ a b c d=>?_
  (refine br (ih d) ?_;refine af List.cons_append ?_)
  show(match aU s k with | some r=>if 0≤i then(match r[i.toNat]? with | some k'=>cj s k' (p++q) | none=>none) else none | none=>none)=_
  refine af a ?_;skip;(refine ak (aG b) ?_;(refine af c ?_;with_reducible rfl))
theorem tE{k:Int}(e:aU s k=none){q:List Int}{x:Int}(h:cj s k q=some x):q=[]:=by
 induction q using List.casesOn with
 |nil=>rfl
 |cons i q=>refine o2x2 (cD h) fun za za a za=>?_;rw[e] at a;exact ns a
theorem tj{K k k':Int}{p w:List Int}(h:cj s K p=some k)(hk:aU s k=none)(h':cj s K (p++w)=some k'):w=[]:=tE hk ((cV w p h).symm.trans h')
theorem rB{K k k':Int}{p q:List Int}{m n:Nat}(h:cj s K (p++i6 m)=some k)(hk:aU s k=none)(h':cj s K (q++i6 n)=some k')(hk':aU s k'=none):p++i6 m=q++i6 n↔dA p=dA q:=by
 constructor
 ·intro e;(refine br (gy p m) ?_;refine af e ?_;rw[gy])
 ·intro e
  refine aH (mV p) fun a ha=>?_
  refine aH (mV q) fun b hb=>?_
  rw[← e] at hb
  generalize dA p=t at *
  subst ha hb
  have z:∀ i j,i6 i++i6 j=i6 (i+j):=fun i j=>List.replicate_append_replicate
  rw[List.append_assoc,z] at h h' ⊢
  (rewrite[List.append_assoc];rw[z])
  have key:∀ {x y:Nat} {c d:Int},cj s K (t++i6 x)=some c→aU s c=none→cj s K (t++i6 y)=some d→x≤y→x=y:=fun{x y c d} e1 e2 e3 le=>by
   have:t++i6 y=(t++i6 x)++i6 (y - x):=by(rewrite[List.append_assoc];rewrite[z];(refine af (Nat.add_sub_cancel' le) ?_;with_reducible rfl))
   rw[this] at e3
   have:=congrArg List.length (tj e1 e2 e3)
   (rewrite[i6] at this;rw[List.length_replicate] at this)
   exact Nat.le_antisymm le (Nat.sub_eq_zero_iff_le.mp this)
  refine Or.elim (Nat.le_total (a+m) (b+n)) (fun l=>?_) (fun l=>?_)
  ·(refine af (key h hk h' l) ?_;with_reducible rfl)
  ·(refine af (key h' hk' h l) ?_;with_reducible rfl)
theorem mu(h:db s){K:Int}{x:List Int×Int}(hx:x ∈ W s K)(hm:∀ y ∈ W s K,y.1.length≤x.1.length):aU s x.2=none:=by
 induction e:aU s x.2 using Option.casesOn with
 |none=>rfl
 |some r=>
  have l:=(h.row _ _ e).2.1
  have a:=(fV h K x.1).mp hx
  have b:cj s K (x.1++[0])=some r[0]:=by
   refine ak (cV [0] x.1 a) ?_;unfold cj;refine af e ?_;dsimp only
   (refine ak (aG (Int.le_refl 0)) ?_;refine af (show((0:Int).toNat)=0 from rfl) ?_;refine af (List.getElem?_eq_getElem l) ?_);rfl
  have:=hm _ ((fV h K _).mpr b)
  rw[List.length_append] at this
  exact absurd this (Nat.not_succ_le_self _)
end Mine
namespace Mine
open PySem
noncomputable def bA(Z Z':H):Prop:=∀ a o,Z a=some o→Z' a=some o
theorem bA.refl{Z:H}:bA Z Z:=fun za za h=>h
theorem bA.trans{a b c:H}(x:bA a b)(y:bA b c):bA a c:=fun p o h=>y p o (x p o h)
theorem bA.new{Z:H}{a:Addr}{o:O}(h:Z a=none):bA Z (Z.set a o):=fun b x e=>bv (fun q=>by rw[q,h] at e;exact ns e) e
theorem bA.set{Z Z':H}{a:Addr}{o:O}(x:bA Z Z')(h:Z a=none):bA Z (Z'.set a o):=fun b y e=>bv (fun q=>by rw[q,h] at e;exact ns e) (x b y e)
section
variable {n:Nat} {Q:aO} {Z:H} {s:List (List Int)}
theorem En{a p:V}:Cv (a8 (n+1)) none 35 [.tup [.int 3,a,p]] Z p:=by
 refine bh uw rfl fun za q=>?_
 (apply az;apply ai;apply ao;apply ah;exact ac rfl;exact aj;rfl;exact an;rfl;apply aw;apply ah;exact ac rfl;exact aj;rfl)
 exact q
theorem Em{k:Int}{a b p:V}(hk:k≠3):Cv (a8 (n+1)) none 35 [.tup [.int k,a,b,p]] Z p:=by
 refine bh uw rfl fun za q=>?_
 (apply aq;apply ai;apply ao;apply ah;exact ac rfl;exact aj;rfl;exact an;refine bG ?_;assumption;apply aw;apply ah;exact ac rfl;exact aj;rfl)
 exact q
theorem Eo{k s:Int}{a b:V}{p:List V}(hk:k≠3)(hp:p.length+1≤bL):Cv (a8 (n+1)) none 34 [.tup [.int k,a,b,.tup p],.int s] Z (.tup [.int k,a,b,.tup (p++[.int s])]):=by
 refine bh ux rfl fun za q=>?_
 (apply aq;apply ai;apply ao;apply ah;exact ac rfl;exact aj;rfl;exact an;refine bG ?_;assumption;apply aw;apply aE;apply ab;apply ah;exact ac rfl;exact aj;rfl;apply ab;apply ah;exact ac rfl;exact aj;rfl;apply ab;apply ah;exact ac rfl;exact aj;rfl;apply ab;apply aA;apply ah;exact ac rfl;exact aj;rfl;apply aE;apply ab;exact ac rfl;exact ae;refine fun za q=>⟨?_,q⟩;assumption;exact ae)
 exact q
theorem Ep{s:Int}{a:V}{p:List V}(hp:p.length+1≤bL):Cv (a8 (n+1)) none 34 [.tup [.int 3,a,.tup p],.int s] Z (.tup [.int 3,a,.tup (p++[.int s])]):=by
 refine bh ux rfl fun za q=>?_
 (apply az;apply ai;apply ao;apply ah;exact ac rfl;exact aj;rfl;exact an;rfl;apply aw;apply aE;apply ab;exact aj;apply ab;apply ah;exact ac rfl;exact aj;rfl;apply ab;apply aA;apply ah;exact ac rfl;exact aj;rfl;apply aE;apply ab;exact ac rfl;exact ae;refine fun za q=>⟨?_,q⟩;assumption;exact ae)
 exact q
theorem Ej{a b:V}:Cv (a8 (n+1)) none 37 [.tup [.int 1,a,.int (-1),b]] Z (.int 0):=by
 refine bh uu rfl fun za q=>?_
 (apply az;apply bc;apply bZ;apply ai;apply ao;apply ah;exact ac rfl;exact aj;rfl;exact an;rfl;apply ba;apply ai;apply ao;apply ah;exact ac rfl;exact aj;rfl;exact an;rfl;apply aw;exact aj)
 exact q
theorem Ek{k i:Int}{a b:V}(h:i≠-1):Cv (a8 (n+1)) none 37 [.tup [.int k,a,.int i,b]] Z (.int i):=by
 refine bh uu rfl fun za q=>?_
 by_cases hk:k=1
 ·(apply aq;apply bc;apply bZ;apply ai;apply ao;apply ah;exact ac rfl;exact aj;rfl;exact an;refine bR ?_;assumption;apply ba;apply ai;apply ao;apply ah;exact ac rfl;exact aj;rfl;exact an;refine bG ?_;assumption;apply aw;apply ah;exact ac rfl;exact aj;rfl)
  exact q
 ·(apply aq;apply bc;apply d5;apply ai;apply ao;apply ah;exact ac rfl;exact aj;rfl;exact an;refine bG ?_;assumption;apply aw;apply ah;exact ac rfl;exact aj;rfl)
  exact q
theorem ti{k t z:Int}(h:eA k t z):t≠5:=by unfold eA at h;split at h<;>lia
theorem A7{k:Int}{v:V}(hv:Ty s k v)(p:List Int):Cv (a8 (n+1)) none 16 [v,.tup (aM p)] Z ((bF v p).getD .none):=by
 refine bh Au rfl fun P q=>?_
 refine cg (xs:=aM p) (ac rfl) rfl ?_
 refine(?_:∀ (p:List Int) (v:V) (k:Int) (U:Env),Ty s k v→U 0=some v→P ((bF v p).getD .none) Z→FL _ _ _ _ _ _ (aM p) U Z) p v k _ hv rfl q
 intro p
 induction p with
 |nil=>
  intro v k U hv hr q
  apply b8
  (apply aw;apply ac;assumption)
  exact q
 |cons i p ih=>
  intro v k U hv hr q
  refine bQ rfl ?_
  induction hv using Ty.casesOn with
  |leaf k t z h1 h2=>
   have:=ti h2
   have q:P .none Z:=by
    have:sub (.tup [.int t,.int z]) i=none:=by unfold sub;split<;>rfl
    unfold bF at q;rw[this] at q;exact q
   (apply az;apply bc;apply dq;apply ai;apply ao;apply aQ;assumption;rfl;exact cz;apply qf;refine bG ?_;assumption;apply aw;exact aj)
   exact q
  |node k r vs h1 h2 h3=>
   by_cases hi:0≤i
   ·by_cases hl:i<vs.length
    ·have l:i.toNat<vs.length:=by lia
     have e:=List.getElem?_eq_getElem l
     have e1:sub (nd k vs) i=some vs[i.toNat]:=(aG hi).trans e
     (apply aq;apply bc;apply aY;apply ai;apply ao;apply aQ;assumption;rfl;exact cz;rfl;apply aY;apply ai;apply ao;exact ac rfl;exact aV;refine bG ?_;lia;apply ba;apply ai;apply aL;exact ac rfl;apply aZ;apply ab;apply aQ;assumption;rfl;exact ae;exact fun za q=>q;exact cI;refine bG ?_;lia)
     (apply au;apply ah;apply aQ;assumption;rfl;exact ac rfl;assumption;apply ax)
     exact⟨rfl,ih _ _ _ (h3 _ _ _ (List.getElem?_eq_getElem (h2▸l)) e) rfl (by rw[b9 e1] at q;exact q)⟩
    ·have q:P .none Z:=by
      have:sub (nd k vs) i=none:=(aG hi).trans (List.getElem?_eq_none (by show vs.length≤_;lia))
      unfold bF at q;rw[this] at q;exact q
     (apply az;apply bc;apply aY;apply ai;apply ao;apply aQ;assumption;rfl;exact cz;rfl;apply aY;apply ai;apply ao;exact ac rfl;exact aV;refine bG ?_;lia;apply ba;apply ai;apply aL;exact ac rfl;apply aZ;apply ab;apply aQ;assumption;rfl;exact ae;exact fun za q=>q;exact cI;refine bR ?_;lia;apply aw;exact aj)
     exact q
   ·have q:P .none Z:=by
     have:sub (nd k vs) i=none:=aD hi
     unfold bF at q;rw[this] at q;exact q
    (apply az;apply bc;apply aY;apply ai;apply ao;apply aQ;assumption;rfl;exact cz;rfl;apply dq;apply ai;apply ao;exact ac rfl;exact aV;refine bR ?_;lia;apply aw;exact aj)
    exact q
end
section
variable {n:Nat} {Q:aO} {Z:H} {s:List (List Int)}
noncomputable def jh:V→List Int→List V
 |_,[]=>[]
 |v,i::p=>.tup [v,.int i]::jh ((sub v i).getD .none) p
theorem jA(p:List Int):∀ v,(jh v p).length=p.length:=by
 induction p with
 |nil=>intro _;rfl
 |cons i p ih=>intro v;exact congrArg (· + 1) (ih _)
theorem fE{v u:V}{j:Int}{p:List Int}(h:bF v (j::p)=some u):∃ w,sub v j=some w∧bF w p=some u:=by
 have h:(match sub v j with | some u=>bF u p | none=>none)=some u:=h
 induction e:sub v j using Option.casesOn with
 |none=>rw[e] at h;exact ns h
 |some w=>rw[e] at h;exact⟨w,rfl,h⟩
theorem mO{q:List Int}(p:List Int):∀ {v u:V},bF v p=some u→jh v (p++q)=jh v p++jh u q:=by
 induction p with
 |nil=>intro v u h;refine af (aP h) ?_;rfl
 |cons j p ih=>
  intro v u h
  refine o1x2 (fE h) fun w e h=>?_
  show _::jh ((sub v j).getD .none) (p++q)=_::jh ((sub v j).getD .none) p++_
  refine af e ?_;exact congrArg _ (ih h)
theorem ig{q:List Int}(p:List Int):∀ {v u:V},bF v p=some u→bF v (p++q)=bF u q:=by
 induction p with
 |nil=>intro v u h;refine af (aP h) ?_;rfl
 |cons j p ih=>intro v u h;refine o1x2 (fE h) fun w e h=>?_;(refine af List.cons_append ?_;refine ak (b9 e) ?_);exact ih h
theorem pd{q:List Int}{x:V}(p:List Int):∀ {v:V},bF v (p++q)=some x→∃ u,bF v p=some u∧bF u q=some x:=by
 induction p with
 |nil=>intro v h;exact⟨v,rfl,h⟩
 |cons j p ih=>intro v h;refine o1x2 (fE h) fun w e h=>?_;refine af (b9 e) ?_;exact ih h
theorem rm{q:List Int}{x:Int}(p:List Int):∀ {k:Int},cj s k (p++q)=some x→∃ k',cj s k p=some k'∧cj s k' q=some x:=by
 induction p with
 |nil=>intro k h;exact⟨k,rfl,h⟩
 |cons j p ih=>
  intro k h
  refine o2x4 (cD h) fun r k₁ a b c d=>?_
  refine o1x2 (ih d) fun k' e f=>?_
  refine⟨k',?_,f⟩
  unfold cj;refine af a ?_;dsimp only;(refine ak (aG b) ?_;refine af c ?_);exact e
theorem Ty.small(hs:db s){k:Int}{a c:V}{vs:List V}(h:Ty s k (.tup [a,c,.tup vs])):vs.length≤3:=by
 cases h with
 |node k r vs h1 h2 h3=>have:=(hs.row _ _ h1).2.2.1;lia
theorem mU{v u:V}{i:Int}(h:sub v i=some u):∃ a b vs,v=.tup [a,b,.tup vs]∧0≤i∧vs[i.toNat]? = some u:=by
 unfold sub at h
 split at h
 ·next hi=>
  unfold BW at h
  split at h
  ·exact⟨_,_,_,rfl,hi,h⟩
  ·exact ns h
 ·exact ns h
theorem sU{u x:V}{i:Int}(p:List Int):∀ {v:V},bF v p=some u→cM v (p++[i]) x=cM v p (oK u i x):=by
 induction p with
 |nil=>intro v h;refine af (aP h) ?_;rfl
 |cons j p ih=>intro v h;refine o1x2 (fE h) fun w e h=>?_;(refine af List.cons_append ?_;refine ak (eJ e) ?_;refine af (eJ e) ?_;(refine af (ih h) ?_;with_reducible rfl))
theorem vt{vs:List V}{i:Nat}{y:V}(h:i<vs.length):vs.take i++[y]++vs.drop (i+1)=vs.set i y:=by
 (refine af List.set_eq_take_append_cons_drop ?_;refine af (aG h) ?_;rw[List.append_assoc]);rfl
theorem EA(hs:db s){k k':Int}{v x:V}{p:List Int}(hv:Ty s k v)(hk:cj s k p=some k')(hp:p.length≤100)(q:∀ Z',bA Z Z'→Q (cM v p x) Z'):a8 (n+1) none 17 [v,.tup (aM p),x] Q Z:=by
 have hk0:=hk
 refine bq Ar rfl ?_
 refine aW (bx ae fun b hb=>?_)
 (apply au;exact ac rfl)
 refine cg (xs:=aM p) (ac rfl) rfl ?_
 refine(?_:∀ (p1 p0:List Int) (U:Env) (Z':H) (u:V) (kw:Int),p=p0++p1→bF v p0=some u→Ty s kw u→cj s kw p1=some k'→U 2=some x→U 3=some (.ref b)→U 4=some u→bA Z Z'→Z' b=some (.list (jh v p0))→FL _ _ _ _ _ _ (aM p1) U Z') p [] _ _ v k rfl rfl hv hk rfl rfl rfl (bA.refl.set hb) aB
 intro p1
 induction p1 with
 |cons i p1 ih=>
  intro p0 U Z' u kw e hu ht hk h2 h3 h4 hx hl
  have hl1:(jh v p0).length<bL:=by rw[jA];subst e;rw[List.length_append] at hp;unfold bL;lia
  refine o2x2 (ht.step hk) fun k₁ w bl e1=>?_
  refine o2x4 (cD hk) fun r za hr hi za za=>?_
  refine bQ rfl (bH (ac h3) hl (aE (ab (ac h4) (ab (ac rfl) ae))) hl1 ?_)
  have ew:jh v (p0++[i])=jh v p0++[.tup [u,.int i]]:=mO p0 hu
  refine br ew ?_
  induction ht using Ty.casesOn with
  |leaf k t z h1 h2=>rw[hr] at h1;exact sn h1
  |node k r vs g1 g2 g3=>
   have e2:vs[i.toNat]? = some w:=(aG hi).symm.trans bl.sub
   refine au (ah (ah (ac h4) aj rfl) (ac rfl) (bP hi e2)) (ax ⟨rfl,ih (p0++[i]) _ _ w k₁ (by(refine ak (e) ?_;rw[List.append_assoc]);rfl) ((ig p0 hu).trans (b9 bl.sub)) bl.ty e1 h2 h3 rfl (hx.set hb) aB⟩)
 |nil=>
  intro p0 U Z' u kw e hu ht hk h2 h3 h4 hx hl
  rw[List.append_nil] at e
  subst e
  apply b8
  refine au (aA (aZ (ab (ac h3) ae) (bJ hl)) aj fun za q=>q) (gO (n:=p.length+1) ?_)
  rw[jA]
  refine(?_:∀ (m:Nat) (y:V) (U:Env),m≤p.length→(∀ Z',bA Z Z'→Q (cM v (p.take m) y) Z')→U 2=some y→U 3=some (.ref b)→U 6=some (.int ((m:Int) - 1))→WL _ _ _ _ (m+1) U Z') p.length x _ (Nat.le_refl _) (by refine af List.take_length ?_;exact q) h2 h3 rfl
  intro m
  induction m with
  |zero=>
   intro y U hm q h2 h3 h6
   refine eh (ai (aL (ac h6) aj cI) rfl) (aw (ac h2) (q _ hx))
  |succ m ih=>
   intro y U hm q h2 h3 h6
   refine o1x2 ((⟨p[m],by(rewrite[← List.drop_eq_getElem_cons];rw[List.take_append_drop]),List.take_append_getElem hm⟩:∃ i,p.take m++i::p.drop (m+1)=p∧p.take m++[i]=p.take (m+1))) fun i e e'=>?_
   have hn:(p.take m).length=m:=by(refine ak (List.length_take) ?_;(refine ak (Nat.min_eq_left (Nat.le_of_succ_le hm)) ?_;with_reducible rfl))
   rw[← e'] at q
   generalize p.take m=p0 at *
   generalize p.drop (m+1)=p2 at *
   refine o1x2 (pd p0 (e.symm▸hu:bF v (p0++i::p2)=some u)) fun w hw hw'=>?_
   refine o1x2 (fE hw') fun z hz za=>?_
   have el:(jh v p)[m]? = some (.tup [w,.int i]):=by
    (refine br e ?_;refine af (mO _ hw) ?_;refine br hn ?_;refine br (jA p0 v) ?_;refine ak (List.getElem?_append_right (Nat.le_refl _)) ?_;rw[Nat.sub_self]);rfl
   refine o3x2 (mU hz) fun a c vs e3 q9=>?_;obtain rfl:=e3;refine o0x2 q9 fun hi hvs=>?_;clear q9
   have l:=(List.getElem?_eq_some_iff.mp hvs).1
   refine cJ (ai (aL (ac h6) aj cI) (bR (by lia))) (lH (ah (ac h3) (ac h6) (aJ hl (by lia) (by refine af (show((((m+1:Nat):Int) - 1).toNat)=m by lia) ?_;exact el))) ?_)
   refine o1x2 (rm p0 (e.symm▸hk0:cj s k (p0++i::p2)=some k')) fun kw' hk1 za=>?_
   refine o1x2 (hv.get p0 hk1) fun w' hw1 tw=>?_
   cases hw.symm.trans hw1
   have sm:=tw.small hs
   have b1:(vs.take i.toNat).length+1≤bL:=by refine af List.length_take ?_;unfold bL;lia
   have b2:(vs.take i.toNat++[y]).length+(vs.drop (i+1).toNat).length≤bL:=by(refine af List.length_append ?_;refine af List.length_take ?_;refine af List.length_drop ?_);unfold bL;show _+1+_≤_;lia
   refine au (v:=oK (.tup [a,c,.tup vs]) i y) ?_ ?_
   ·refine fc (b:=.tup [.int 5,c,.tup (vs.take i.toNat++[y]++vs.drop (i+1).toNat)]) ?_ (by(refine af (show(i+1).toNat=i.toNat+1 by lia) ?_;refine af (vt l) ?_);rfl)
    (apply aE;apply ab;exact aj;apply ab;refine aQ rfl ?_;rfl;apply ab;apply aA;apply aA;apply mf;refine aQ rfl ?_;rfl;exact ac rfl;lia;apply aE;apply ab;apply ac;assumption;exact ae;refine fun za q=>⟨?_,q⟩;assumption;apply me;refine aQ rfl ?_;rfl;apply aA;exact ac rfl;exact aj;exact fun za q=>q;lia;refine fun za q=>⟨?_,q⟩;assumption;exact ae)
   ·refine jE (a:=(m+1:Nat) - 1) h6 aj rfl (ax (ih _ _ (Nat.le_of_succ_le hm) (fun Z' h=>by refine br (sU p0 hw) ?_;exact q Z' h) rfl h3 ?_))
    exact congrArg (fun z:Int=>some (V.int z)) (by lia)
end
theorem fF{P:Nat→Prop}(h0:P 0)(h1:P 1)(h2:P 2)(h3:P 3)(h4:P 4)(h5:P 5)(h6:P 6)(h7:P 7){r:Nat}(hr:r<8):P r:=by
 match r,hr with
 |0,_=>exact h0
 |1,_=>exact h1
 |2,_=>exact h2
 |3,_=>exact h3
 |4,_=>exact h4
 |5,_=>exact h5
 |6,_=>exact h6
 |7,_=>exact h7
structure Dt where
 nums:List Int
 at_:Nat
 sh:List (V×V)
 sp:List (V×V)
 es:List (V×V)
 cs:List (V×V)
 hc:List (V×V)
 rows:List (V×V)
 bits:Int
 g0:Int
 g1:Int
 g2:Int
 v:Nat→V
 flag:Bool
 st:Bool
 wf:Bool
 wa:Addr
 s:List (List Int)
noncomputable def ot(k h i:Int)(p:List Int):V:=.tup [.int k,.int h,.int i,.tup (aM p)]
noncomputable def uU(w:Int)(p:List Int):V:=.tup [.int 3,.int w,.tup (aM p)]
noncomputable def pl(p:List Int):Nat→V
 |0=>ot 1 7 0 p
 |1=>ot 2 7 0 p
 |2=>ot 4 17 1 p
 |3=>uU 19 p
 |4=>uU 22 p
 |5=>uU 23 p
 |6=>uU 26 p
 |_=>ot 1 9 (-1) p
noncomputable def bt:Nat→Int
 |0=>18 | 1=>19 | 2=>18 | 3=>19 | 4=>19 | 5=>19 | _=>18
noncomputable def dL(d:Dt)(k:Nat):V:=if k<16 then .tup [.int 1,.int k] else if k=16 then .tup [.int 3,.int 80,.tup []] else if k=17 then .tup [.int 2,.int 70,.tup []] else
 if k<18+d.s.length then .tup [.int 3,.int (64+(k - 18:Nat)),.tup []] else .tup [.int 4,.int 19]
noncomputable def objs(A:Nat→Addr)(d:Dt):List O:=[
 .dict [(.sym 202,.ref (A 1)),(.sym 118,.int d.at_)],
 .list (aM d.nums),
 .dict [(.sym 211,.int 16),(.sym 204,.ref (A 3)),(.sym 203,.ref (A 4)),(.sym 210,.tup (aM [18,19,18,19,19,19,18,18])),(.sym 205,.ref (A 5)),(.sym 121,.ref (A 6)),(.sym 209,.int d.bits),(.sym 176,.ref d.wa),
  (.sym 208,.tup [.bool false,.bool false,.bool false,.bool (decide (0<d.g0)),.bool (decide (0<d.g1)),.bool (decide (0<d.g1)),.bool (decide (0<d.g2)),.bool false]),(.sym 207,.ref (A 30)),(.sym 132,.int 17),(.sym 130,.tup [.ref (A 33),.ref (A 34)]),
  (.sym 206,.tup [pl [] 0,pl [] 1,pl [] 2,pl [] 3,pl [] 4,pl [] 5,pl [] 6,pl [] 7])],
 .dict d.sh,
 .dict d.sp,
 .dict d.es,
 .dict d.cs,
 .list [],
 .dict [(.int 7,.ref (A 33)),(.int 9,.ref (A 34))],
 .dict [(.int 17,.ref (A 10))],
 .list [.tup [.int 1,.int 57],d.v 2],
 .list [d.v 0,.tup [.int 1,.int 55]],
 .list [d.v 1,.tup [.int 1,.int 56]],
 .list [d.v 7],
 .list [],
 .list [],
 .dict [(.int 16,.ref (A 35)),(.int 20,.ref (A 36)),(.int 24,.ref (A 37))],
 .list [.ref (A 35),.ref (A 36),.ref (A 37)],
 .dict d.hc,
 .list [.tup [.int 4,.int 24],d.v 3],
 .list [d.v 4,d.v 5],
 .list [d.v 6],
 .dict d.rows,
 .dict [(.int 16,.int 5)],
 .list ((List.range (19+d.s.length)).map (dL d)),
 .list (List.replicate (19+d.s.length) (.int 0)),
 .list [.none,.ref (A 40)],
 .list (if d.flag then[.tup [.int 4,.int 0,.int (-1)]] else[]),
 .list []]
noncomputable def jk(A:Nat→Addr)(d:Dt):List (Addr×Nat×V):=[
 (A 30,129,.ref (A 32)),(A 30,150,.ref (A 39)),(A 30,149,.ref (A 38)),(A 30,90,.ref (A 22)),(A 30,154,.ref (A 23)),(A 30,130,.ref (A 28)),(A 30,155,.ref (A 8)),(A 30,131,.ref (A 9)),(A 30,159,.ref (A 27)),(A 30,163,.ref (A 31)),(A 30,165,.ref (A 43)),
 (A 31,129,.ref (A 32)),(A 31,130,.ref (A 8)),(A 31,131,.ref (A 9)),
 (A 32,117,.ref (A 17)),(A 32,118,.ref (A 16)),(A 32,121,.ref (A 18)),(A 32,122,.int d.bits),(A 32,119,.int 27),
 (A 33,133,.ref (A 11)),(A 33,134,.ref (A 12)),(A 33,136,.tup [.int 17,.int 1,.tup []]),(A 33,137,.ref (A 41)),(A 33,132,.int 7),
 (A 34,133,.ref (A 15)),(A 34,134,.ref (A 14)),(A 34,135,.ref (A 13)),(A 34,136,.tup [.int 18,.int 1,.tup []]),(A 34,137,.ref (A 42)),(A 34,132,.int 9),
 (A 35,111,.int 16),(A 35,112,.int 17),(A 35,113,.ref (A 19)),(A 35,114,.int d.g0),(A 35,115,.int 4),
 (A 36,111,.int 20),(A 36,112,.int (18+d.s.length)),(A 36,113,.ref (A 20)),(A 36,114,.int d.g1),(A 36,115,.int 4),
 (A 37,111,.int 24),(A 37,112,.int 18),(A 37,113,.ref (A 21)),(A 37,114,.int d.g2),(A 37,115,.int 3),
 (A 38,150,.ref (A 39)),(A 38,197,.ref (A 26)),
 (A 39,90,.ref (A 24)),(A 39,94,.ref (A 25)),
 (A 40,183,.int 1),(A 40,187,.int 0),(A 40,188,.tup [.int 19,.int 7]),
 (A 41,133,.tup [.int 18,.int 7]),(A 42,133,.tup []),
 (A 30,158,.int (if d.st then 3 else 0))]
noncomputable def eg(x:List Int×Int):V:=.tup [.tup (aM x.1),.int x.2]
structure Wd (A:Nat→Addr) (d:Dt) (Z:H):Prop where
 o:∀ (i:Nat) {o:O},(objs A d)[i]? = some o→Z (A i)=some o
 inj:∀ i j:Nat,i<29→j<29→A i=A j→i=j
 f:∀ (i:Nat) {a:Addr} {n:Nat} {v:V},(jk A d)[i]? = some (a,n,v)→cR Z (.ref a) n=some v
 m:fA Z (.ref (A 30))=some (.inst 85)
 kt:fA Z (.ref (A 39))=some (.inst 78)
 cl:fA Z (.ref (A 43))=some (.inst 84)
 wr:Z d.wa=some (.list (if d.wf then[.int 4] else[]))∧∀ i,i<29→d.wa≠A i
 sp:∀ (k:Int) (r:List Int),aU d.s k=some r→∃ a,aI d.sp (.int k)=some (.ref a)∧Z a=some (.list ((W d.s k).map eg))∧∀ i,i<29→a≠A i
section
variable {A:Nat→Addr} {d:Dt} {Z Z':H} {C:aN} {U:Env}
theorem og{a:Addr}{n:Nat}{v:V}(h:∀ o,Z a=some o→Z' a=some o)(e:cR Z (.ref a) n=some v):cR Z' (.ref a) n=some v:=by
 have e:(match Z a with | some (.inst c fs)=>if(bk c).contains n then dI fs n else Option.none | _=>Option.none)=some v:=e
 show(match Z' a with | some (.inst c fs)=>if(bk c).contains n then dI fs n else Option.none | _=>Option.none)=some v
 induction q:Z a using Option.casesOn with
 |none=>rw[q] at e;exact ns e
 |some o=>rw[q] at e;refine af (h o q) ?_;exact e
theorem gf{a:Addr}{k:MK}(h:∀ o,Z a=some o→Z' a=some o)(e:fA Z (.ref a)=some k):fA Z' (.ref a)=some k:=by
 have e:(match Z a with | some (.list _)=>some .list | some (.dict _)=>some .dict | some (.inst c _)=>some (.inst c) | _=>Option.none)=some k:=e
 show(match Z' a with | some (.list _)=>some .list | some (.dict _)=>some .dict | some (.inst c _)=>some (.inst c) | _=>Option.none)=some k
 induction q:Z a using Option.casesOn with
 |none=>rw[q] at e;exact ns e
 |some o=>rw[q] at e;refine af (h o q) ?_;exact e
theorem Wd.ext(h:Wd A d Z)(x:bA Z Z'):Wd A d Z':=⟨fun i o e=>x _ _ (h.o i e),h.inj,fun i a n v e=>og (x a) (h.f i e),gf (x _) h.m,gf (x _) h.kt,gf (x _) h.cl,⟨x _ _ h.wr.1,h.wr.2⟩,fun k r e=>let ⟨a,b,c,f⟩:=h.sp k r e;⟨a,b,x _ _ c,f⟩⟩
noncomputable def B0:O→Bool
 |.inst _ _=>false
 |_=>true
theorem hO{i:Nat}{o:O}(e:(objs A d)[i]? = some o):i<29∧B0 o=true:=
 ⟨(List.getElem?_eq_some_iff.mp e).1,List.all_eq_true.mp (show(objs A d).all B0=true from rfl) o (List.mem_of_getElem? e)⟩
theorem rQ{a:Addr}{n:Nat}{o:O}(e:Z a=some o)(h:B0 o=true):cR Z (.ref a) n=none:=by
 show(match Z a with | some (.inst c fs)=>if(bk c).contains n then dI fs n else Option.none | _=>Option.none)=none
 refine af e ?_;induction o using O.casesOn with
 |inst _ _=>exact ff h
 |_=>rfl
theorem vQ{a:Addr}{c:Nat}{o:O}(e:Z a=some o)(h:B0 o=true):fA Z (.ref a)≠some (.inst c):=by
 show(match Z a with | some (.list _)=>some .list | some (.dict _)=>some .dict | some (.inst c _)=>some (.inst c) | _=>Option.none)≠some (MK.inst c)
 refine af e ?_;induction o using O.casesOn with
 |inst _ _=>exact ff h
 |_=>intro q;cases q
noncomputable def jl(e:Addr)(Z Z':H):Prop:=∀ y o,y≠e→Z y=some o→Z' y=some o
theorem bA.off{e:Addr}(x:bA Z Z'):jl e Z Z':=fun y o za h=>x y o h
theorem jl.trans{e:Addr}{Z'':H}(x:jl e Z Z')(x':jl e Z' Z''):jl e Z Z'':=fun y o h g=>x' y o h (x y o h g)
theorem jl.set{e:Addr}(x:jl e Z Z'){o:O}:jl e Z (Z'.set e o):=fun y o' h g=>bv h (x y o' h g)
theorem Wd.offW{d':Dt}{i:Nat}{o o':O}(h:Wd A d Z)(hi:(objs A d)[i]? = some o)(e:objs A d'=(objs A d).set i o')(ef:jk A d'=jk A d)(ew:(d'.s,d'.sp)=(d.s,d.sp))(x:jl (A i) Z Z')(hx:Z' (A i)=some o')
  (hw:Z' d'.wa=some (.list (if d'.wf then[.int 4] else[]))∧∀ i,i<29→d'.wa≠A i):Wd A d' Z':=by
 refine o0x2 (hO hi) fun l hD=>?_
 have hZ:=h.o i hi
 have ha:∀ {a n v},cR Z (.ref a) n=some v→a≠A i:=fun q c=>by(rewrite[c] at q;rw[rQ hZ hD] at q);exact ns q
 have hm:∀ {a c},fA Z (.ref a)=some (.inst c)→a≠A i:=fun q c=>vQ hZ hD (c▸q)
 refine o0x2 (Prod.mk.inj ew) fun e3 e4=>?_
 refine⟨fun j o q=>?_,h.inj,fun j a n v q=>?_,?_,?_,?_,hw,?_⟩
 ·rw[e] at q
  by_cases c:i=j
  ·subst c
   rw[List.getElem?_set_self l] at q
   refine br (aP q) ?_;exact hx
  ·rw[List.getElem?_set_ne c] at q
   exact x _ _ (fun c'=>c (h.inj _ _ (hO q).1 l c').symm) (h.o j q)
 ·rw[ef] at q
  have:=h.f j q
  exact og (fun o e=>x _ _ (ha this) e) this
 ·exact gf (fun o e=>x _ _ (hm h.m) e) h.m
 ·exact gf (fun o e=>x _ _ (hm h.kt) e) h.kt
 ·exact gf (fun o e=>x _ _ (hm h.cl) e) h.cl
 ·(refine af e3 ?_;refine af e4 ?_);exact fun k r e=>let ⟨a,b,c,f⟩:=h.sp k r e;⟨a,b,x _ _ (f i l) c,f⟩
theorem Wd.off{d':Dt}{i:Nat}{o o':O}(h:Wd A d Z)(hi:(objs A d)[i]? = some o)(e:objs A d'=(objs A d).set i o')(ef:jk A d'=jk A d)(ew:(d'.wa,d'.wf,d'.s,d'.sp)=(d.wa,d.wf,d.s,d.sp))(x:jl (A i) Z Z')(hx:Z' (A i)=some o'):Wd A d' Z':=by
 refine o0x2 (Prod.mk.inj ew) fun e1 e2=>?_
 refine o0x2 (Prod.mk.inj e2) fun e2 e3=>?_
 exact h.offW hi e ef e3 x hx (by(refine af e1 ?_;refine af e2 ?_);exact⟨x _ _ (h.wr.2 i (hO hi).1) h.wr.1,h.wr.2⟩)
theorem Wd.upd{d':Dt}{i:Nat}{o o':O}(h:Wd A d Z)(hi:(objs A d)[i]? = some o)(e:objs A d'=(objs A d).set i o')(ef:jk A d'=jk A d)(ew:(d'.wa,d'.wf,d'.s,d'.sp)=(d.wa,d.wf,d.s,d.sp)):Wd A d' (Z.set (A i) o'):=
 h.off hi e ef ew bA.refl.off.set aB
theorem rD(fs:List (Nat×V))(x:Nat)(v:V):dI (cX fs x v) x=some v:=by
 induction fs with
 |nil=>exact aG rfl
 |cons e fs ih=>
  unfold cX
  by_cases c:e.1=x
  ·refine af (aG c) ?_;exact aG c
  ·refine af (aD c) ?_;exact(aD c).trans ih
theorem wH{x n:Nat}{v:V}(h:n≠x)(fs:List (Nat×V)):dI (cX fs x v) n=dI fs n:=by
 induction fs with
 |nil=>exact aD (Ne.symm h)
 |cons e fs ih=>
  unfold cX
  by_cases c:e.1=x
  ·refine af (aG c) ?_
   exact(aD fun z=>h (z.symm.trans c)).trans (aD fun z=>h (z.symm.trans c)).symm
  ·refine af (aD c) ?_
   show(if e.1=n then _ else _)=(if e.1=n then _ else _)
   (refine af ih ?_;with_reducible rfl)
theorem ip{a:Addr}{n:Nat}:cR Z (.ref a) n=(match Z a with | some (.inst c fs)=>if(bk c).contains n then dI fs n else Option.none | _=>Option.none):=rfl
theorem oc{a b:Addr}{c n x:Nat}{fs:List (Nat×V)}{v:V}(e:Z a=some (.inst c fs))(h:n≠x):cR (Z.set a (.inst c (cX fs x v))) (.ref b) n=cR Z (.ref b) n:=by
 (refine ak (ip) ?_;refine af ip ?_)
 by_cases q:b=a
 ·refine af q ?_;(refine af aB ?_;refine af e ?_);dsimp only;rw[wH h]
 ·(refine af (bv q rfl) ?_;with_reducible rfl)
theorem qm{a:Addr}{c:Nat}(h:fA Z (.ref a)=some (.inst c)):∃ fs,Z a=some (.inst c fs):=by
 have h:(match Z a with | some (.list _)=>some .list | some (.dict _)=>some .dict | some (.inst c _)=>some (.inst c) | _=>Option.none)=some (MK.inst c):=h
 induction q:Z a using Option.casesOn with
 |none=>rw[q] at h;exact ns h
 |some o=>induction o using O.casesOn with
  |inst c' fs=>rw[q] at h;cases h;exact⟨fs,rfl⟩
  |_=>rw[q] at h;cases h
theorem Wd.state{fs:List (Nat×V)}(h:Wd A d Z)(hm:Z (A 30)=some (.inst 85 fs)):Wd A { d with st:=true } (Z.set (A 30) (.inst 85 (cX fs 158 (.int 3)))):=by
 have hn:∀ {a o},Z a=some o→B0 o=true→a≠A 30:=fun e i q=>by(rewrite[q] at e;rw[hm] at e);obtain rfl:=aP e;exact ff i
 have hc:∀ {a c},c≠85→fA Z (.ref a)=some (.inst c)→a≠A 30:=fun i e q=>by
  refine aH (qm e) fun fs' e'=>?_
  (rewrite[q] at e';rw[hm] at e');cases e';exact i rfl
 refine⟨fun j o q=>bv (hn (h.o j q) (hO (d:=d) q).2) (h.o j q),h.inj,fun j a n v q=>?_,gD aB,gf (fun o e=>bv (hc (by decide) h.kt) e) h.kt,gf (fun o e=>bv (hc (by decide) h.cl) e) h.cl,⟨bv (hn h.wr.1 rfl) h.wr.1,h.wr.2⟩,fun k r e=>let ⟨a,b,c,f⟩:=h.sp k r e;⟨a,b,bv (hn c rfl) c,f⟩⟩
 have e:jk A { d with st:=true }=(jk A d).set 54 (A 30,158,.int 3):=rfl
 rw[e] at q
 by_cases c:54=j
 ·subst c
  cases q
  (refine ak (ip) ?_;refine af aB ?_)
  exact rD _ _ _
 ·rw[List.getElem?_set_ne c] at q
  have l:j<55:=(List.getElem?_eq_some_iff.mp q).1
  have:((jk A d).take 54).all (fun e=>e.2.1 != 158)=true:=rfl
  have m:(a,n,v) ∈ (jk A d).take 54:=List.mem_of_getElem? (by(rewrite[List.getElem?_take];refine ak (aG (Nat.lt_of_le_of_ne (Nat.le_of_lt_succ l) (Ne.symm c))) ?_);exact q)
  have n1:n≠158:=bne_iff_ne.mp (List.all_eq_true.mp this _ m)
  refine ak (oc hm n1) ?_;exact h.f j q
theorem pG{K:aN}{P:aO}{o:E}{m c:Nat}{as:List E}{vs:List V}{u:V}(ho:Ev K U Z o u)(e:fA Z u=some (.inst c))(hm:fo (.inst c) m=true)(h:Es K U Z as vs)(k:K (some c) m (u::vs) P Z):WE K (.mth o m as) U P Z:=
 ⟨ho.go _ ⟨_,e,hm,h.go _ k⟩⟩
theorem av{o:E}{u v:V}{n:Nat}(h:Ev C U Z o u)(e:cR Z u n=some v):Ev C U Z (.att o n) v:=⟨fun Q q=>h.go _ ⟨v,e,q⟩⟩
theorem bf{i n:Nat}{u v:V}(h:U i=some u)(e:cR Z u n=some v):Ev C U Z (.att (.x i) n) v:=av (ac h) e
theorem dn{o:E}{m c:Nat}{as:List E}{vs:List V}{u v:V}(ho:Ev C U Z o u)(e:fA Z u=some (.inst c))(hm:fo (.inst c) m=true)(h:Es C U Z as vs)(hf:Cv C (some c) m (u::vs) Z v):Ev C U Z (.mth o m as) v:=
 ⟨fun Q q=>ho.go _ ⟨_,e,hm,h.go _ (hf.go Q q)⟩⟩
end
section
variable {n:Nat} {Q:aO} {Z:H} {A:Nat→Addr} {d:Dt}
noncomputable def gj:Nat→Nat
 |3=>35 | 4=>36 | 5=>36 | _=>37
noncomputable def ic:Nat→Int
 |3=>1 | 5=>1 | _=>0
noncomputable def e9:Nat→Int
 |3=>19 | 4=>22 | 5=>23 | _=>26
noncomputable def dC(r:Nat):Prop:=r=3∨r=4∨r=5∨r=6
theorem wb(hW:Wd A d Z):∀ Q:aO,Q (.int 3) Z→wZ 0 [.ref (A 17)] Q Z:=bJ (hW.o 17 rfl)
theorem wM(hW:Wd A d Z){r:Nat}(hr:dC r):Cv (a8 (n+1)) none 21 [.ref (A 32),.int (e9 r)] Z (.ref (A (gj r))):=by
 refine bh An rfl fun za q=>?_
 rcases hr with rfl | rfl | rfl | rfl
 ·(apply au;apply cY;refine bf rfl ?_;exact hW.f 15 rfl;exact hW.o 16 rfl;exact ac rfl;rfl;apply aq;apply ai;apply ao;exact ac rfl;exact eM rfl;rfl;apply au;exact aj;apply au;apply aZ;apply ab;apply av;exact ac rfl;exact hW.f 14 rfl;exact ae;exact wb hW;refine gO (n:=40) ?_;apply cJ;apply ai;apply aL;exact ac rfl;exact ac rfl;exact aV;rfl;apply au;apply aA;apply aA;exact ac rfl;exact ac rfl;exact fun za q=>q;exact aj;refine fun za q=>⟨?_,q⟩;decide;apply di;apply ai;apply aL;apply av;apply ah;apply av;exact ac rfl;exact hW.f 14 rfl;exact ac rfl;apply aJ;exact hW.o 17 rfl;decide;rfl;exact hW.f 35 rfl;exact ac rfl;exact bS;rfl;apply au;exact ac rfl;apply ax;apply ax;apply cJ;apply ai;apply aL;exact ac rfl;exact ac rfl;exact aV;rfl;apply au;apply aA;apply aA;exact ac rfl;exact ac rfl;exact fun za q=>q;exact aj;refine fun za q=>⟨?_,q⟩;decide;apply az;apply ai;apply aL;apply av;apply ah;apply av;exact ac rfl;exact hW.f 14 rfl;exact ac rfl;apply aJ;exact hW.o 17 rfl;decide;rfl;exact hW.f 30 rfl;exact ac rfl;exact bS;rfl;apply au;apply aA;exact ac rfl;exact aj;exact fun za q=>q;apply ax;apply ax;apply eh;apply ai;apply aL;exact ac rfl;exact ac rfl;exact aV;rfl;apply aq;apply ai;apply ao;exact ac rfl;exact an;rfl;apply au;apply ah;apply av;exact ac rfl;exact hW.f 14 rfl;apply aA;exact ac rfl;exact aj;exact fun za q=>q;apply aJ;exact hW.o 17 rfl;decide;rfl;apply az;apply ai;apply aL;exact ac rfl;apply aA;apply av;exact ac rfl;exact hW.f 30 rfl;apply av;exact ac rfl;exact hW.f 34 rfl;exact fun za q=>q;exact aV;rfl;apply aw;exact ac rfl)
  exact q
 ·(apply au;apply cY;refine bf rfl ?_;exact hW.f 15 rfl;exact hW.o 16 rfl;exact ac rfl;rfl;apply aq;apply ai;apply ao;exact ac rfl;exact eM rfl;rfl;apply au;exact aj;apply au;apply aZ;apply ab;apply av;exact ac rfl;exact hW.f 14 rfl;exact ae;exact wb hW;refine gO (n:=40) ?_;apply cJ;apply ai;apply aL;exact ac rfl;exact ac rfl;exact aV;rfl;apply au;apply aA;apply aA;exact ac rfl;exact ac rfl;exact fun za q=>q;exact aj;refine fun za q=>⟨?_,q⟩;decide;apply az;apply ai;apply aL;apply av;apply ah;apply av;exact ac rfl;exact hW.f 14 rfl;exact ac rfl;apply aJ;exact hW.o 17 rfl;decide;rfl;exact hW.f 35 rfl;exact ac rfl;exact bS;rfl;apply au;apply aA;exact ac rfl;exact aj;exact fun za q=>q;apply ax;apply ax;apply cJ;apply ai;apply aL;exact ac rfl;exact ac rfl;exact aV;rfl;apply au;apply aA;apply aA;exact ac rfl;exact ac rfl;exact fun za q=>q;exact aj;refine fun za q=>⟨?_,q⟩;decide;apply di;apply ai;apply aL;apply av;apply ah;apply av;exact ac rfl;exact hW.f 14 rfl;exact ac rfl;apply aJ;exact hW.o 17 rfl;decide;rfl;exact hW.f 40 rfl;exact ac rfl;exact bS;rfl;apply au;exact ac rfl;apply ax;apply ax;apply eh;apply ai;apply aL;exact ac rfl;exact ac rfl;exact aV;rfl;apply aq;apply ai;apply ao;exact ac rfl;exact an;rfl;apply au;apply ah;apply av;exact ac rfl;exact hW.f 14 rfl;apply aA;exact ac rfl;exact aj;exact fun za q=>q;apply aJ;exact hW.o 17 rfl;decide;rfl;apply az;apply ai;apply aL;exact ac rfl;apply aA;apply av;exact ac rfl;exact hW.f 35 rfl;apply av;exact ac rfl;exact hW.f 39 rfl;exact fun za q=>q;exact aV;rfl;apply aw;exact ac rfl)
  exact q
 ·(apply au;apply cY;refine bf rfl ?_;exact hW.f 15 rfl;exact hW.o 16 rfl;exact ac rfl;rfl;apply aq;apply ai;apply ao;exact ac rfl;exact eM rfl;rfl;apply au;exact aj;apply au;apply aZ;apply ab;apply av;exact ac rfl;exact hW.f 14 rfl;exact ae;exact wb hW;refine gO (n:=40) ?_;apply cJ;apply ai;apply aL;exact ac rfl;exact ac rfl;exact aV;rfl;apply au;apply aA;apply aA;exact ac rfl;exact ac rfl;exact fun za q=>q;exact aj;refine fun za q=>⟨?_,q⟩;decide;apply az;apply ai;apply aL;apply av;apply ah;apply av;exact ac rfl;exact hW.f 14 rfl;exact ac rfl;apply aJ;exact hW.o 17 rfl;decide;rfl;exact hW.f 35 rfl;exact ac rfl;exact bS;rfl;apply au;apply aA;exact ac rfl;exact aj;exact fun za q=>q;apply ax;apply ax;apply cJ;apply ai;apply aL;exact ac rfl;exact ac rfl;exact aV;rfl;apply au;apply aA;apply aA;exact ac rfl;exact ac rfl;exact fun za q=>q;exact aj;refine fun za q=>⟨?_,q⟩;decide;apply di;apply ai;apply aL;apply av;apply ah;apply av;exact ac rfl;exact hW.f 14 rfl;exact ac rfl;apply aJ;exact hW.o 17 rfl;decide;rfl;exact hW.f 40 rfl;exact ac rfl;exact bS;rfl;apply au;exact ac rfl;apply ax;apply ax;apply eh;apply ai;apply aL;exact ac rfl;exact ac rfl;exact aV;rfl;apply aq;apply ai;apply ao;exact ac rfl;exact an;rfl;apply au;apply ah;apply av;exact ac rfl;exact hW.f 14 rfl;apply aA;exact ac rfl;exact aj;exact fun za q=>q;apply aJ;exact hW.o 17 rfl;decide;rfl;apply az;apply ai;apply aL;exact ac rfl;apply aA;apply av;exact ac rfl;exact hW.f 35 rfl;apply av;exact ac rfl;exact hW.f 39 rfl;exact fun za q=>q;exact aV;rfl;apply aw;exact ac rfl)
  exact q
 ·(apply au;apply cY;refine bf rfl ?_;exact hW.f 15 rfl;exact hW.o 16 rfl;exact ac rfl;rfl;apply aq;apply ai;apply ao;exact ac rfl;exact eM rfl;rfl;apply au;exact aj;apply au;apply aZ;apply ab;apply av;exact ac rfl;exact hW.f 14 rfl;exact ae;exact wb hW;refine gO (n:=40) ?_;apply cJ;apply ai;apply aL;exact ac rfl;exact ac rfl;exact aV;rfl;apply au;apply aA;apply aA;exact ac rfl;exact ac rfl;exact fun za q=>q;exact aj;refine fun za q=>⟨?_,q⟩;decide;apply az;apply ai;apply aL;apply av;apply ah;apply av;exact ac rfl;exact hW.f 14 rfl;exact ac rfl;apply aJ;exact hW.o 17 rfl;decide;rfl;exact hW.f 35 rfl;exact ac rfl;exact bS;rfl;apply au;apply aA;exact ac rfl;exact aj;exact fun za q=>q;apply ax;apply ax;apply cJ;apply ai;apply aL;exact ac rfl;exact ac rfl;exact aV;rfl;apply au;apply aA;apply aA;exact ac rfl;exact ac rfl;exact fun za q=>q;exact aj;refine fun za q=>⟨?_,q⟩;decide;apply az;apply ai;apply aL;apply av;apply ah;apply av;exact ac rfl;exact hW.f 14 rfl;exact ac rfl;apply aJ;exact hW.o 17 rfl;decide;rfl;exact hW.f 40 rfl;exact ac rfl;exact bS;rfl;apply au;apply aA;exact ac rfl;exact aj;exact fun za q=>q;apply ax;apply ax;apply eh;apply ai;apply aL;exact ac rfl;exact ac rfl;exact aV;rfl;apply aq;apply ai;apply ao;exact ac rfl;exact an;rfl;apply au;apply ah;apply av;exact ac rfl;exact hW.f 14 rfl;apply aA;exact ac rfl;exact aj;exact fun za q=>q;apply aJ;exact hW.o 17 rfl;decide;rfl;apply az;apply ai;apply aL;exact ac rfl;apply aA;apply av;exact ac rfl;exact hW.f 40 rfl;apply av;exact ac rfl;exact hW.f 44 rfl;exact fun za q=>q;exact aV;rfl;apply aw;exact ac rfl)
  exact q
theorem A6(hW:Wd A d Z){r:Nat}(hr:dC r):Cv (a8 (n+1)) none 23 [.ref (A (gj r)),.int (e9 r)] Z (.int (ic r)):=by
 refine bh Al rfl fun za q=>?_
 rcases hr with rfl | rfl | rfl | rfl
 ·(apply au;apply aA;apply aA;exact ac rfl;apply av;exact ac rfl;exact hW.f 30 rfl;exact fun za q=>q;exact aj;exact fun za q=>q;apply az;apply ai;apply fm;exact aj;exact ac rfl;exact bS;apply aZ;apply ab;apply av;exact ac rfl;exact hW.f 32 rfl;exact ae;apply bJ;exact hW.o 19 rfl;exact aV;rfl;apply aw;exact ac rfl)
  exact q
 ·(apply au;apply aA;apply aA;exact ac rfl;apply av;exact ac rfl;exact hW.f 35 rfl;exact fun za q=>q;exact aj;exact fun za q=>q;apply az;apply ai;apply fm;exact aj;exact ac rfl;exact bS;apply aZ;apply ab;apply av;exact ac rfl;exact hW.f 37 rfl;exact ae;apply bJ;exact hW.o 20 rfl;exact aV;rfl;apply aw;exact ac rfl)
  exact q
 ·(apply au;apply aA;apply aA;exact ac rfl;apply av;exact ac rfl;exact hW.f 35 rfl;exact fun za q=>q;exact aj;exact fun za q=>q;apply az;apply ai;apply fm;exact aj;exact ac rfl;exact bS;apply aZ;apply ab;apply av;exact ac rfl;exact hW.f 37 rfl;exact ae;apply bJ;exact hW.o 20 rfl;exact aV;rfl;apply aw;exact ac rfl)
  exact q
 ·(apply au;apply aA;apply aA;exact ac rfl;apply av;exact ac rfl;exact hW.f 40 rfl;exact fun za q=>q;exact aj;exact fun za q=>q;apply az;apply ai;apply fm;exact aj;exact ac rfl;exact bS;apply aZ;apply ab;apply av;exact ac rfl;exact hW.f 42 rfl;exact ae;apply bJ;exact hW.o 21 rfl;exact aV;rfl;apply aw;exact ac rfl)
  exact q
theorem Df(hW:Wd A d Z){r:Nat}(hr:dC r):Cv (a8 (n+2)) none 24 [.ref (A 32),.int (e9 r)] Z (d.v r):=by
 refine bh Ak rfl fun za q=>?_
 rcases hr with rfl | rfl | rfl | rfl
 ·(apply au;apply ay;apply ab;exact ac rfl;apply ab;exact ac rfl;exact ae;rfl;apply wM hW (.inl rfl);apply aq;apply ai;apply ao;exact ac rfl;exact bB rfl;rfl;apply au;apply ay;apply ab;exact ac rfl;apply ab;exact ac rfl;exact ae;rfl;apply A6 hW (.inl rfl);apply aq;apply ai;apply ao;exact ac rfl;exact aV;rfl;apply aw;apply ah;apply av;exact ac rfl;exact hW.f 32 rfl;exact ac rfl;apply aJ;exact hW.o 19 rfl;decide;rfl)
  exact q
 ·(apply au;apply ay;apply ab;exact ac rfl;apply ab;exact ac rfl;exact ae;rfl;apply wM hW (.inr (.inl rfl));apply aq;apply ai;apply ao;exact ac rfl;exact bB rfl;rfl;apply au;apply ay;apply ab;exact ac rfl;apply ab;exact ac rfl;exact ae;rfl;apply A6 hW (.inr (.inl rfl));apply aq;apply ai;apply ao;exact ac rfl;exact aV;rfl;apply aw;apply ah;apply av;exact ac rfl;exact hW.f 37 rfl;exact ac rfl;apply aJ;exact hW.o 20 rfl;decide;rfl)
  exact q
 ·(apply au;apply ay;apply ab;exact ac rfl;apply ab;exact ac rfl;exact ae;rfl;apply wM hW (.inr (.inr (.inl rfl)));apply aq;apply ai;apply ao;exact ac rfl;exact bB rfl;rfl;apply au;apply ay;apply ab;exact ac rfl;apply ab;exact ac rfl;exact ae;rfl;apply A6 hW (.inr (.inr (.inl rfl)));apply aq;apply ai;apply ao;exact ac rfl;exact aV;rfl;apply aw;apply ah;apply av;exact ac rfl;exact hW.f 37 rfl;exact ac rfl;apply aJ;exact hW.o 20 rfl;decide;rfl)
  exact q
 ·(apply au;apply ay;apply ab;exact ac rfl;apply ab;exact ac rfl;exact ae;rfl;apply wM hW (.inr (.inr (.inr rfl)));apply aq;apply ai;apply ao;exact ac rfl;exact bB rfl;rfl;apply au;apply ay;apply ab;exact ac rfl;apply ab;exact ac rfl;exact ae;rfl;apply A6 hW (.inr (.inr (.inr rfl)));apply aq;apply ai;apply ao;exact ac rfl;exact aV;rfl;apply aw;apply ah;apply av;exact ac rfl;exact hW.f 42 rfl;exact ac rfl;apply aJ;exact hW.o 21 rfl;decide;rfl)
  exact q
end
section
variable {n:Nat} {Q:aO} {Z:H} {A:Nat→Addr} {d:Dt}
theorem jq{p:List Int}{r:Nat}:Cv (a8 (n+1)) none 35 [pl p r] Z (.tup (aM p)):=by
 have o:∀ k h i,k≠3→Cv (a8 (n+1)) none 35 [ot k h i p] Z (.tup (aM p)):=fun k h i hk=>Em hk
 match r with
 |0 | 1 | 2=>exact o _ _ _ (by decide)
 |3 | 4 | 5 | 6=>exact En
 |_+7=>exact o _ _ _ (by decide)
noncomputable def lJ:Nat→Nat
 |0=>11 | 1=>12 | 2=>10 | _=>13
noncomputable def lK:Nat→Int
 |2=>1 | _=>0
noncomputable def gC(r:Nat):Prop:=r=0∨r=1∨r=2∨r=7
theorem Cl(hW:Wd A d Z){r:Nat}(hr:gC r){p:List Int}:Cv (a8 (n+1)) none 36 [.ref (A 31),pl p r] Z (.ref (A (lJ r))):=by
 refine bh Aa rfl fun za q=>?_
 rcases hr with rfl | rfl | rfl | rfl
 ·(apply aq;apply ai;apply ao;apply ah;exact ac rfl;exact aj;rfl;exact an;rfl;apply au;apply cY;refine bf rfl ?_;exact hW.f 12 rfl;exact hW.o 8 rfl;apply ah;exact ac rfl;exact aj;rfl;rfl;apply aq;apply ai;apply ao;exact ac rfl;exact bB rfl;rfl;apply aq;apply ai;apply ao;apply ah;exact ac rfl;exact aj;rfl;exact an;rfl;apply aq;apply ai;apply ao;apply ah;exact ac rfl;exact aj;rfl;exact an;rfl;apply aw;apply av;exact ac rfl;exact hW.f 19 rfl)
  exact q
 ·(apply aq;apply ai;apply ao;apply ah;exact ac rfl;exact aj;rfl;exact an;rfl;apply au;apply cY;refine bf rfl ?_;exact hW.f 12 rfl;exact hW.o 8 rfl;apply ah;exact ac rfl;exact aj;rfl;rfl;apply aq;apply ai;apply ao;exact ac rfl;exact bB rfl;rfl;apply az;apply ai;apply ao;apply ah;exact ac rfl;exact aj;rfl;exact an;rfl;apply aw;apply av;exact ac rfl;exact hW.f 20 rfl)
  exact q
 ·(apply az;apply ai;apply ao;apply ah;exact ac rfl;exact aj;rfl;exact an;rfl;apply aw;apply cY;refine bf rfl ?_;exact hW.f 13 rfl;exact hW.o 9 rfl;apply ah;exact ac rfl;exact aj;rfl;rfl)
  exact q
 ·(apply aq;apply ai;apply ao;apply ah;exact ac rfl;exact aj;rfl;exact an;rfl;apply au;apply cY;refine bf rfl ?_;exact hW.f 12 rfl;exact hW.o 8 rfl;apply ah;exact ac rfl;exact aj;rfl;rfl;apply aq;apply ai;apply ao;exact ac rfl;exact bB rfl;rfl;apply aq;apply ai;apply ao;apply ah;exact ac rfl;exact aj;rfl;exact an;rfl;apply az;apply ai;apply ao;apply ah;exact ac rfl;exact aj;rfl;exact an;rfl;apply aw;apply av;exact ac rfl;exact hW.f 26 rfl)
  exact q
theorem rE{r:Nat}(hr:gC r){p:List Int}:Cv (a8 (n+1)) none 37 [pl p r] Z (.int (lK r)):=by
 refine xC hr ?_ ?_ ?_ ?_;all_goals clear hr
 ·exact Ek (by decide)
 ·exact Ek (by decide)
 ·exact Ek (by decide)
 ·exact Ej
theorem Ei(hW:Wd A d Z){r:Nat}(hr:r<8){p:List Int}:Cv (a8 (n+3)) none 38 [.ref (A 31),pl p r] Z (d.v r):=by
 refine fF (P:=fun r=>Cv (a8 (n+3)) none 38 [.ref (A 31),pl p r] Z (d.v r)) ?_ ?_ ?_ ?_ ?_ ?_ ?_ ?_ hr<;>refine bh z9 rfl fun za q=>?_
 ·(apply aq;apply ai;apply ao;apply ah;exact ac rfl;exact aj;rfl;exact an;rfl;apply au;apply ay;apply ab;exact ac rfl;apply ab;exact ac rfl;exact ae;rfl;apply Cl hW (r:=0) (.inl rfl);apply aq;apply ai;apply ao;exact ac rfl;exact bB rfl;rfl;apply au;apply ay;apply ab;exact ac rfl;exact ae;rfl;apply rE (r:=0) (.inl rfl);apply aq;apply bc;apply aY;apply ai;apply ao;exact ac rfl;exact aV;rfl;apply ba;apply ai;apply aL;exact ac rfl;apply aZ;apply ab;exact ac rfl;exact ae;apply bJ;exact hW.o 11 rfl;exact cI;rfl;apply aw;apply ah;exact ac rfl;exact ac rfl;apply aJ;exact hW.o 11 rfl;decide;rfl)
  exact q
 ·(apply aq;apply ai;apply ao;apply ah;exact ac rfl;exact aj;rfl;exact an;rfl;apply au;apply ay;apply ab;exact ac rfl;apply ab;exact ac rfl;exact ae;rfl;apply Cl hW (r:=1) (.inr (.inl rfl));apply aq;apply ai;apply ao;exact ac rfl;exact bB rfl;rfl;apply au;apply ay;apply ab;exact ac rfl;exact ae;rfl;apply rE (r:=1) (.inr (.inl rfl));apply aq;apply bc;apply aY;apply ai;apply ao;exact ac rfl;exact aV;rfl;apply ba;apply ai;apply aL;exact ac rfl;apply aZ;apply ab;exact ac rfl;exact ae;apply bJ;exact hW.o 12 rfl;exact cI;rfl;apply aw;apply ah;exact ac rfl;exact ac rfl;apply aJ;exact hW.o 12 rfl;decide;rfl)
  exact q
 ·(apply aq;apply ai;apply ao;apply ah;exact ac rfl;exact aj;rfl;exact an;rfl;apply au;apply ay;apply ab;exact ac rfl;apply ab;exact ac rfl;exact ae;rfl;apply Cl hW (r:=2) (.inr (.inr (.inl rfl)));apply aq;apply ai;apply ao;exact ac rfl;exact bB rfl;rfl;apply au;apply ay;apply ab;exact ac rfl;exact ae;rfl;apply rE (r:=2) (.inr (.inr (.inl rfl)));apply aq;apply bc;apply aY;apply ai;apply ao;exact ac rfl;exact aV;rfl;apply ba;apply ai;apply aL;exact ac rfl;apply aZ;apply ab;exact ac rfl;exact ae;apply bJ;exact hW.o 10 rfl;exact cI;rfl;apply aw;apply ah;exact ac rfl;exact ac rfl;apply aJ;exact hW.o 10 rfl;decide;rfl)
  exact q
 ·(apply az;apply ai;apply ao;apply ah;exact ac rfl;exact aj;rfl;exact an;rfl;apply aw;apply ay;apply ab;apply av;exact ac rfl;exact hW.f 11 rfl;apply ab;apply ah;exact ac rfl;exact aj;rfl;exact ae;rfl;apply Df hW (r:=3) (.inl rfl))
  exact q
 ·(apply az;apply ai;apply ao;apply ah;exact ac rfl;exact aj;rfl;exact an;rfl;apply aw;apply ay;apply ab;apply av;exact ac rfl;exact hW.f 11 rfl;apply ab;apply ah;exact ac rfl;exact aj;rfl;exact ae;rfl;apply Df hW (r:=4) (.inr (.inl rfl)))
  exact q
 ·(apply az;apply ai;apply ao;apply ah;exact ac rfl;exact aj;rfl;exact an;rfl;apply aw;apply ay;apply ab;apply av;exact ac rfl;exact hW.f 11 rfl;apply ab;apply ah;exact ac rfl;exact aj;rfl;exact ae;rfl;apply Df hW (r:=5) (.inr (.inr (.inl rfl))))
  exact q
 ·(apply az;apply ai;apply ao;apply ah;exact ac rfl;exact aj;rfl;exact an;rfl;apply aw;apply ay;apply ab;apply av;exact ac rfl;exact hW.f 11 rfl;apply ab;apply ah;exact ac rfl;exact aj;rfl;exact ae;rfl;apply Df hW (r:=6) (.inr (.inr (.inr rfl))))
  exact q
 ·(apply aq;apply ai;apply ao;apply ah;exact ac rfl;exact aj;rfl;exact an;rfl;apply au;apply ay;apply ab;exact ac rfl;apply ab;exact ac rfl;exact ae;rfl;apply Cl hW (r:=7) (.inr (.inr (.inr rfl)));apply aq;apply ai;apply ao;exact ac rfl;exact bB rfl;rfl;apply au;apply ay;apply ab;exact ac rfl;exact ae;rfl;apply rE (r:=7) (.inr (.inr (.inr rfl)));apply aq;apply bc;apply aY;apply ai;apply ao;exact ac rfl;exact aV;rfl;apply ba;apply ai;apply aL;exact ac rfl;apply aZ;apply ab;exact ac rfl;exact ae;apply bJ;exact hW.o 13 rfl;exact cI;rfl;apply aw;apply ah;exact ac rfl;exact ac rfl;apply aJ;exact hW.o 13 rfl;decide;rfl)
  exact q
theorem vj{s:List (List Int)}{k:Int}{v:V}(h:Ty s k v):yX v=some false:=by induction h using Ty.casesOn<;>rfl
theorem De(hW:Wd A d Z){r:Nat}(hr:r<8){p:List Int}{k:Int}(hv:Ty d.s k (d.v r)):Cv (a8 (n+4)) none 39 [.ref (A 31),pl p r] Z ((bF (d.v r) p).getD .none):=by
 refine bh z8 rfl fun za q=>?_
 have e:=vj hv
 (apply au;apply ay;apply ab;exact ac rfl;apply ab;exact ac rfl;exact ae;rfl;apply Ei hW hr;apply aq;apply ai;apply ao;exact ac rfl;exact bB e;rfl;apply aw;apply ay;apply ab;exact ac rfl;apply ab;apply ay;apply ab;exact ac rfl;exact ae;rfl;apply jq;exact ae;rfl;apply A7 hv p)
 exact q
end
section
variable {n:Nat} {Q:aO} {Z:H} {A:Nat→Addr} {d:Dt}
theorem cW(p q:List Int):aM (p++q)=aM p++aM q:=List.map_append
theorem G0{p:List Int}{r:Nat}{i:Int}(hp:p.length<1000):Cv (a8 (n+1)) none 34 [pl p r,.int i] Z (pl (p++[i]) r):=by
 have l:(aM p).length+1≤bL:=by delta aM bL;rw[List.length_map];lia
 have o:∀ k h j,k≠3→Cv (a8 (n+1)) none 34 [ot k h j p,.int i] Z (ot k h j (p++[i])):=fun k h j hk=>by
  delta ot;rw[cW];exact Eo hk l
 have h:∀ w,Cv (a8 (n+1)) none 34 [uU w p,.int i] Z (uU w (p++[i])):=fun w=>by
  delta uU;rw[cW];exact Ep l
 match r with
 |0 | 1 | 2=>exact o _ _ _ (by decide)
 |3 | 4 | 5 | 6=>exact h _
 |_+7=>exact o _ _ _ (by decide)
theorem zh(hW:Wd A d Z){r:Nat}(hr:r<8){p:List Int}(hp:p.length≤1000):Cv (a8 (n+2)) none 61 [.ref (A 2),.int r,.tup (aM p)] Z (pl p r):=by
 refine bh zO rfl fun P q=>?_
 have e:bD Z (.tup [pl [] 0,pl [] 1,pl [] 2,pl [] 3,pl [] 4,pl [] 5,pl [] 6,pl [] 7]) (.int r)=some (pl [] r):=by
  refine bP (Int.natCast_nonneg _) ?_
  rw[Int.toNat_natCast]
  exact fF (P:=fun r=>[pl [] 0,pl [] 1,pl [] 2,pl [] 3,pl [] 4,pl [] 5,pl [] 6,pl [] 7][r]? = some (pl [] r)) rfl rfl rfl rfl rfl rfl rfl rfl hr
 refine au (ah (ah (ac rfl) aj (aF (hW.o 2 rfl) rfl rfl)) (ac rfl) e) ?_
 refine cg (xs:=aM p) (ac rfl) rfl ?_
 refine(?_:∀ (p1 p0:List Int) (U:Env),p=p0++p1→U 3=some (pl p0 r)→FL _ _ _ _ _ _ (aM p1) U Z) p [] _ rfl rfl
 intro p1
 induction p1 with
 |nil=>intro p0 U e h3;rw[List.append_nil] at e;subst e;exact b8 (aw (ac h3) q)
 |cons i p1 ih=>
  intro p0 U e h3
  refine bQ rfl (au (ay (ab (ac h3) (ab (ac rfl) ae)) rfl (G0 ?_)) (ax ⟨rfl,ih (p0++[i]) _ (by(refine ak (e) ?_;rw[List.append_assoc]);rfl) rfl⟩))
  (rewrite[e] at hp;rw[List.length_append] at hp)
  exact Nat.lt_of_lt_of_le (Nat.lt_add_of_pos_right (Nat.succ_pos _)) hp
end
end Mine
namespace Mine
open PySem
variable {s:List (List Int)}
theorem Ba{f:Int→Sp}{b:Nat}(r:List Int):∀ i,(∀ k ∈ r,(f k).length≤b)→(wr f i r).length≤r.length * b:=by
 induction r with
 |nil=>intro _ _;exact Nat.zero_le _
 |cons k r ih=>
  intro i h
  skip
  (refine af List.length_append ?_;rewrite[List.length_map];refine af List.length_cons ?_;rewrite[Nat.succ_mul];rw[Nat.add_comm])
  exact Nat.add_le_add (ih _ fun k hk=>h k (.tail _ hk)) (h k (.head _))
noncomputable def xI:Nat→Nat
 |0=>1
 |n+1=>1+3 * xI n
theorem xX(h:db s):∀ n k,(wi s n k).length≤xI n:=by
 intro n
 induction n with
 |zero=>intro k;exact Nat.le_refl _
 |succ n ih=>
  intro k
  skip
  (refine af List.length_cons ?_;rw[Nat.add_comm])
  refine Nat.add_le_add_left ?_ _
  induction e:aU s k using Option.casesOn with
  |none=>exact Nat.zero_le _
  |some r=>exact Nat.le_trans (Ba r 0 fun k za=>ih k) (Nat.mul_le_mul_right _ (h.row k r e).2.2.1)
theorem uz{m n:Nat}(h:m≤n):xI m≤xI n:=by
 induction h with
 |refl=>exact Nat.le_refl _
 |step _ ih=>exact Nat.le_trans ih (by show xI _≤1+3 * xI _;lia)
theorem eT(h:db s)(k:Int):rk s k≤7:=by
 delta rk
 induction e:aU s k using Option.casesOn with
 |none=>exact Nat.zero_le _
 |some r=>
  have a:=(h.row k r e).1
  have b:=h.len
  show(18+(s.length:Int) - k).toNat≤7
  lia
theorem lh(h:db s)(k:Int):(W s k).length≤3280:=Nat.le_trans (xX h _ k) (uz (eT h k))
theorem yV(h:db s){k':Int}(p:List Int):∀ {k:Int},cj s k p=some k'→p.length≤rk s k:=by
 induction p with
 |nil=>intro k _;exact Nat.zero_le _
 |cons i p ih=>
  intro k e
  refine o2x4 (cD e) fun r k₁ a b c d=>?_
  exact Nat.lt_of_le_of_lt (ih d) (f9 h a (List.mem_of_getElem? c))
theorem cU(h:db s){k k':Int}{p:List Int}(e:cj s k p=some k'):p.length≤7:=Nat.le_trans (yV h p e) (eT h k)
theorem dW{k v:V}(hk:dH k k=true)(es:List (V×V)):aI (bI es k v) k=some v:=by
 induction es with
 |nil=>exact aG hk
 |cons e es ih=>
  unfold bI
  by_cases c:dH e.1 k=true
  ·refine af (aG c) ?_;exact aG c
  ·refine af (aD c) ?_;exact(aD c).trans ih
theorem dG{k k' v:V}(hn:k≠k')(es:List (V×V)):aI (bI es k v) k'=aI es k':=by
 have z:¬dH k k'=true:=fun h=>hn (dU _ _ h)
 induction es with
 |nil=>exact aD z
 |cons e es ih=>
  unfold bI
  by_cases c:dH e.1 k=true
  ·have:=dU _ _ c
   refine af (aG c) ?_
   show(if dH e.1 k'=true then _ else _)=(if dH e.1 k'=true then _ else _)
   (refine af this ?_;refine ak (aD z) ?_;(refine af (aD z) ?_;with_reducible rfl))
  ·refine af (aD c) ?_
   show(if dH e.1 k'=true then _ else _)=(if dH e.1 k'=true then _ else _)
   (refine af ih ?_;with_reducible rfl)
theorem fG{k v:V}(es:List (V×V)):(bI es k v).length≤es.length+1:=by
 induction es with
 |nil=>exact Nat.le_refl _
 |cons e es ih=>
  unfold bI
  by_cases c:dH e.1 k=true
  ·refine af (aG c) ?_;exact Nat.le_succ _
  ·refine af (aD c) ?_;exact Nat.succ_le_succ ih
theorem nW{k v:V}(es:List (V×V))(h:aI es k≠none):(bI es k v).length=es.length:=by
 induction es with
 |nil=>exact absurd rfl h
 |cons e es ih=>
  unfold bI
  by_cases c:dH e.1 k=true
  ·refine af (aG c) ?_;rfl
  ·refine af (aD c) ?_;exact congrArg (· + 1) (ih fun q=>h ((aD c).trans q))
theorem dT{es:List (V×V)}{k k' v:V}(h:bd es k'=true)(hk:mI k=mI k'):bd (bI es k v) k'=true:=by
 induction es using List.casesOn with
 |nil=>
  have:key k'=true:=(Bool.and_eq_true_iff.mp h).1
  exact Bool.and_eq_true_iff.mpr ⟨this,beq_iff_eq.mpr hk⟩
 |cons e es=>
  unfold bI
  by_cases c:dH e.1 k=true
  ·refine af (aG c) ?_;exact h
  ·refine af (aD c) ?_;exact h
theorem sf(p:List Int):mQ (aM p) (aM p)=true:=by
 induction p with
 |nil=>rfl
 |cons i p ih=>exact Bool.and_eq_true_iff.mpr ⟨bR rfl,ih⟩
noncomputable def ck(r:Nat)(p:List Int):V:=.tup [.int r,.tup (aM p)]
theorem oA(r:Nat)(p:List Int):dH (ck r p) (ck r p)=true:=
 Bool.and_eq_true_iff.mpr ⟨bR rfl,Bool.and_eq_true_iff.mpr ⟨sf p,rfl⟩⟩
theorem lW:∀ {p q:List Int},aM p=aM q→p=q:=by
 intro p
 induction p with
 |nil=>intro q h;induction q using List.casesOn with | nil=>rfl | cons _ _=>cases h
 |cons i p ih=>intro q h;induction q using List.casesOn with
  |nil=>cases h
  |cons j q=>refine o0x2 (List.cons.inj h) fun a b=>?_;(refine af (V.int.inj a) ?_;(refine af (ih b) ?_;with_reducible rfl))
theorem mv{r r':Nat}{p q:List Int}(h:ck r p=ck r' q):r=r'∧p=q:=by
 refine o0x2 (List.cons.inj (V.tup.inj h)) fun a b=>?_
 exact⟨Int.ofNat.inj (V.int.inj a),lW (V.tup.inj (List.cons.inj b).1)⟩
theorem wu(n:Nat)(p:List Int):tL n (aM p)=true:=by
 induction p with
 |nil=>induction n using Nat.casesAuxOn<;>rfl
 |cons i p ih=>
  show(hk n (.int i) && tL n (aM p))=true
  refine ak (ih) ?_;induction n using Nat.casesAuxOn<;>rfl
theorem yT(r:Nat)(p:List Int):key (ck r p)=true:=by
 show(true && ((tL 2 (aM p)) && true))=true
 rw[wu];rfl
noncomputable def gN(s:List (List Int))(r:Nat)(p:List Int)(x:V):Sp→List (V×V)→List (V×V)
 |[],es=>es
 |y::l,es=>gN s r p x l (if aU s y.2=none then bI es (ck r (p++y.1)) ((bF x y.1).getD .none) else es)
theorem lQ{r:Nat}{p:List Int}{x k:V}(l:Sp):∀ es,(∀ y ∈ l,aU s y.2=none→ck r (p++y.1)≠k)→aI (gN s r p x l es) k=aI es k:=by
 induction l with
 |nil=>intro _ _;rfl
 |cons y l ih=>
  intro es h
  show aI (gN s r p x l _) k=_
  refine ak (ih _ fun y hy=>h y (.tail _ hy)) ?_
  by_cases c:aU s y.2=none
  ·refine af (aG c) ?_;exact dG (h y (.head _) c) es
  ·(refine af (aD c) ?_;with_reducible rfl)
theorem qX{r:Nat}{p:List Int}{x u:V}{w:List Int}(hx:bF x w=some u)(l:Sp):∀ es,aI es (ck r (p++w))=some u→aI (gN s r p x l es) (ck r (p++w))=some u:=by
 induction l with
 |nil=>intro _ h;exact h
 |cons y l ih=>
  intro es h
  refine ih _ ?_
  by_cases c:aU s y.2=none
  ·refine af (aG c) ?_
   by_cases e:ck r (p++y.1)=ck r (p++w)
   ·(refine af e ?_;rewrite[dW (oA _ _)];refine af (List.append_cancel_left (mv e).2) ?_;refine af hx ?_);rfl
   ·rw[dG e];exact h
  ·refine af (aD c) ?_;exact h
theorem pY{r:Nat}{p:List Int}{x u:V}{y:List Int×Int}(hl:aU s y.2=none)(hx:bF x y.1=some u)(l:Sp):∀ es,y ∈ l→aI (gN s r p x l es) (ck r (p++y.1))=some u:=by
 induction l with
 |nil=>intro _ h;cases h
 |cons z l ih=>
  intro es h
  refine Or.elim (List.mem_cons.mp h) (fun e=>?_) (fun e=>?_)
  ·refine br e ?_
   exact qX hx l _ (by(refine af (aG hl) ?_;refine af hx ?_);exact dW (oA _ _) _)
  ·exact ih _ e
theorem sT{r:Nat}{p:List Int}{x:V}(l:Sp):∀ es,(gN s r p x l es).length≤es.length+l.length:=by
 induction l with
 |nil=>intro _;exact Nat.le_refl _
 |cons y l ih=>
  intro es
  refine Nat.le_trans (ih _) ?_
  (refine af List.length_cons ?_;rewrite[← Nat.add_assoc];rw[Nat.add_right_comm])
  refine Nat.add_le_add_right ?_ _
  by_cases c:aU s y.2=none
  ·refine af (aG c) ?_;exact fG es
  ·refine af (aD c) ?_;exact Nat.le_succ _
theorem mn{k k' v:V}(hk:dH k k=true){es:List (V×V)}(h:aI es k'≠none):aI (bI es k v) k'≠none:=by
 by_cases e:k=k'
 ·refine br e ?_;rw[dW hk];exact fun h=>nomatch h
 ·rw[dG e];exact h
theorem nh{r:Nat}{p:List Int}{x:V}(l:Sp):∀ es,(∀ y ∈ l,aU s y.2=none→aI es (ck r (p++y.1))≠none)→(gN s r p x l es).length=es.length:=by
 induction l with
 |nil=>intro _ _;rfl
 |cons y l ih=>
  intro es h
  refine(ih _ fun z hz hl=>?_).trans ?_
  ·by_cases c:aU s y.2=none
   ·refine af (aG c) ?_;exact mn (oA _ _) (h z (.tail _ hz) hl)
   ·refine af (aD c) ?_;exact h z (.tail _ hz) hl
  ·by_cases c:aU s y.2=none
   ·refine af (aG c) ?_;exact nW es (h y (.head _) c)
   ·(refine af (aD c) ?_;with_reducible rfl)
theorem ni{r:Nat}{p:List Int}{x:V}{r':Int}{q:V}(l:Sp):∀ es,bd es (.tup [.int r',q])=true→bd (gN s r p x l es) (.tup [.int r',q])=true:=by
 induction l with
 |nil=>intro _ h;exact h
 |cons y l ih=>
  intro es h
  refine ih _ ?_
  by_cases c:aU s y.2=none
  ·refine af (aG c) ?_;exact dT h rfl
  ·refine af (aD c) ?_;exact h
theorem pn(h:db s){K k k'':Int}{r r':Nat}{p q:List Int}{v v' x:V}{es:List (V×V)}(hv:Ty s K v)(hx:Ty s k x)(hp:cj s K p=some k)
  (hq:r'=r→cj s K q=some k'') (hl:aU s k''=none) (hc:aI es (ck r' q)=bF v' q) (e:r'=r→v'=v) :
  aI (gN s r p x (W s k) es) (ck r' q)=bF (if r'=r then cM v p x else v') q:=by
 by_cases c:r'=r
 ·subst c
  refine af (aG rfl) ?_
  have hq:=hq rfl
  by_cases m:∃ w,q=p++w
  ·refine aH m fun w e1=>?_;clear m;obtain rfl:=e1
   have hw:=(cV w p hp).symm.trans hq
   refine o1x2 (hx.get w hw) fun u hu za=>?_
   (refine ak (pY (y:=(w,k'')) hl hu _ _ ((fV h k w).mpr hw)) ?_;refine af (wy p hv hp) ?_;(refine af hu ?_;with_reducible rfl))
  ·(refine ak (lQ _ _ fun y za za z=>m ⟨y.1,(mv z).2.symm⟩) ?_;refine ak (hc) ?_;refine af (e rfl) ?_;(refine af (pb p hv hp hq hl fun w z=>m ⟨w,z⟩) ?_;with_reducible rfl))
 ·(refine af (aD c) ?_;refine ak (lQ _ _ fun y za za z=>c (mv z).1.symm) ?_;(refine ak (hc) ?_;with_reducible rfl))
end Mine
namespace Mine
open PySem
structure Ok (d:Dt):Prop where
 sh:db d.s
 shD:∀ k:Int,aI d.sh (.int k)=(aU d.s k).map fun r=>.tup (aM r)
 shK:∀ k:Int,bd d.sh (.int k)=true
 rwD:∀ (k:Int) (r:List Int),aU d.s k=some r→∃ e,aI d.rows (.int k)=some (.tup [.ref e,.tup (aM r),.tup []])
 rwH:∃ e,aI d.rows (.int 17)=some (.tup [.ref e,.tup (aM [12,19]),.tup (aM [7,18])])
 rwN:∀ k:Int,k<17→aI d.rows (.int k)=none
 rwK:∀ k:Int,bd d.rows (.int k)=true
 spK:∀ k:Int,bd d.sp (.int k)=true
 spN:∀ k:Int,aU d.s k=none→aI d.sp (.int k)=none
 ty:∀ r,r<8→Ty d.s (bt r) (d.v r)
 esK:∀ (r:Nat) (p:List Int),bd d.es (ck r p)=true
 esL:d.es.length≤30000
 csK:∀ i:Int,bd d.cs (.int i)=true
 csI:∀ e ∈ d.cs,∃ i,e=(.int i,.int 1)
 cell:∀ r,r<8→∀ (p:List Int) (k:Int),cj d.s (bt r) p=some k→aU d.s k=none→aI d.es (ck r p)=bF (d.v r) p
 bits:0≤d.bits∧d.bits<4
 cc:d.hc=d.cs
 ww:d.wf=d.flag
 ss:d.st=d.flag
section
variable {n:Nat} {Q:aO} {Z:H} {A:Nat→Addr} {d:Dt}
theorem yn{k:Nat}(hk:k<19+d.s.length):((List.range (19+d.s.length)).map (dL d))[k]? = some (dL d k):=by
 (refine ak (List.getElem?_map) ?_;refine af (List.getElem?_range hk) ?_);rfl
theorem DZ(hW:Wd A d Z):∀ Q:aO,Q (.int (19+d.s.length:Nat)) Z→wZ 0 [.ref (A 24)] Q Z:=fun Q q=>bJ (hW.o 24 rfl) Q (by(rewrite[List.length_map];refine af List.length_range ?_);exact q)
theorem BK(hW:Wd A d Z){k:Nat}(hk:k<19+d.s.length):Cv (a8 (n+1)) (some 78) 96 [.ref (A 39),.int k] Z (dL d k):=by
 refine bh kO rfl fun za q=>?_
 have h1:¬((k:Int)<0):=by lia
 have h2:¬(((19+d.s.length:Nat):Int)≤(k:Int)):=by lia
 have e:bD Z (.ref (A 24)) (.int k)=some (dL d k):=aJ (hW.o 24 rfl) (Int.natCast_nonneg _) (by rw[Int.toNat_natCast];exact yn hk)
 (apply aq;apply bc;apply aY;apply ai;apply ao;exact ac rfl;exact aV;rfl;apply ba;apply ai;apply aL;exact ac rfl;apply aZ;apply ab;apply av;exact ac rfl;exact hW.f 47 rfl;exact ae;exact DZ hW;exact cI;refine bG ?_;assumption;apply aw;apply ah;apply av;exact ac rfl;exact hW.f 47 rfl;exact ac rfl;assumption)
 exact q
noncomputable def sG:V→Int
 |.tup (.int t::_)=>t
 |_=>0
theorem kP(k:Nat):bD Z (dL d k) (.int 0)=some (.int (sG (dL d k))):=by
 unfold dL;split
 ·rfl
 ·split
  ·rfl
  ·split
   ·rfl
   ·split<;>rfl
theorem EC{k:Int}(h:1≤k)(h':k≤11){u:V}:Cv (a8 (n+1)) none 13 [u,.int k] Z (.bool true):=by
 refine bh uy rfl fun za q=>?_
 (apply az;apply bc;apply bZ;apply ai;apply aL;exact aj;exact ac rfl;exact bS;refine bR ?_;assumption;apply ba;apply ai;apply ao;exact ac rfl;exact bS;refine bR ?_;assumption;apply aw;exact aj)
 exact q
theorem rF(hW:Wd A d Z){k:Nat}(h:12≤k)(hk:k<19+d.s.length):Cv (a8 (n+2)) none 13 [.ref (A 39),.int k] Z (.bool (decide (sG (dL d k)=3))):=by
 refine bh uy rfl fun za q=>?_
 have h1:¬((k:Int)≤11):=by lia
 have e:=kP (d:=d) (Z:=Z) k
 (apply aq;apply bc;apply bZ;apply ai;apply aL;exact aj;exact ac rfl;exact bS;refine bR ?_;lia;apply ba;apply ai;apply ao;exact ac rfl;exact bS;refine bG ?_;assumption;apply aw;apply j5;apply ah;apply dn;exact ac rfl;exact hW.kt;rfl;apply ab;exact ac rfl;exact ae;apply BK hW hk;exact aj;assumption;exact aj;exact an)
 exact q
theorem ED(hW:Wd A d Z){k:Nat}(hk:k<19+d.s.length):Cv (a8 (n+2)) none 10 [.ref (A 39),.int k] Z (.int (sG (dL d k))):=by
 refine bh Az rfl fun za q=>?_
 have e:=kP (d:=d) (Z:=Z) k
 (apply aw;apply ah;apply dn;exact ac rfl;exact hW.kt;rfl;apply ab;exact ac rfl;exact ae;apply BK hW hk;exact aj;assumption)
 exact q
theorem Ck{l:List V}{i:Int}{v:V}(hi:0≤i)(h:l[i.toNat]? = some v):Cv (a8 (n+1)) none 49 [.tup l,.int i] Z v:=by
 refine bh uq rfl fun za q=>?_
 have hl:i<l.length:=by have:=(List.getElem?_eq_some_iff.mp h).1;lia
 have e:bD Z (.tup l) (.int i)=some v:=bP hi h
 (apply az;apply ai;apply fm;exact aj;exact ac rfl;exact bS;apply aZ;apply ab;exact ac rfl;exact ae;exact fun za q=>q;exact aV;apply CH;refine bR ?_;assumption;refine bR ?_;assumption;apply aw;apply ah;exact ac rfl;exact ac rfl;assumption)
 exact q
theorem Cj{l:List V}{i:Int}(h:i<0∨(l.length:Int)≤i):Cv (a8 (n+1)) none 49 [.tup l,.int i] Z (.int (-1)):=by
 refine bh uq rfl fun za q=>?_
 rcases h with h | h
 ·(apply aq;apply ai;apply fm;exact aj;exact ac rfl;exact bS;apply aZ;apply ab;exact ac rfl;exact ae;exact fun za q=>q;exact aV;apply uG;refine bG ?_;lia;apply aw;apply fe;exact aj)
  exact q
 ·by_cases h0:0≤i
  ·(apply aq;apply ai;apply fm;exact aj;exact ac rfl;exact bS;apply aZ;apply ab;exact ac rfl;exact ae;exact fun za q=>q;exact aV;apply AD;refine bG ?_;lia;apply aw;apply fe;exact aj)
   exact q
  ·(apply aq;apply ai;apply fm;exact aj;exact ac rfl;exact bS;apply aZ;apply ab;exact ac rfl;exact ae;exact fun za q=>q;exact aV;apply uG;refine bG ?_;assumption;apply aw;apply fe;exact aj)
   exact q
theorem Fv(hW:Wd A d Z)(hd:Ok d){k:Int}{l:List V}(h:aI d.rows (.int k)=some (.tup l)):Cv (a8 (n+1)) none 43 [.ref (A 30),.int k] Z (.tup l):=by
 refine bh ur rfl fun za q=>?_
 have e:=hd.rwK k
 refine au (fc (cY (bf rfl (hW.f 3 rfl)) (hW.o 22 rfl) (ac rfl) e) (by(refine af h ?_;with_reducible rfl))) ?_
 (apply aq;apply ai;apply ao;exact ac rfl;exact bB rfl;rfl;apply aw;exact ac rfl)
 exact q
theorem yN(hW:Wd A d Z)(hd:Ok d){k:Int}{a b c:V}(h:aI d.rows (.int k)=some (.tup [a,b,c])):Cv (a8 (n+2)) (some 85) 167 [.ref (A 30),.int k] Z b:=by
 refine bh jU rfl fun za q=>?_
 (apply aw;apply ah;apply ay;apply ab;exact ac rfl;apply ab;exact ac rfl;exact ae;rfl;apply Fv hW hd h;exact aj;rfl)
 exact q
theorem DW(hW:Wd A d Z)(hd:Ok d){k:Int}{a b c:V}(h:aI d.rows (.int k)=some (.tup [a,b,c])):Cv (a8 (n+2)) (some 85) 168 [.ref (A 30),.int k] Z c:=by
 refine bh oU rfl fun za q=>?_
 (apply aw;apply ah;apply ay;apply ab;exact ac rfl;apply ab;exact ac rfl;exact ae;rfl;apply Fv hW hd h;exact aj;rfl)
 exact q
theorem DV(hW:Wd A d Z){k:Int}:Cv (a8 (n+1)) (some 85) 172 [.ref (A 30),.int k] Z (.int (if k=16 then 5 else k)):=by
 refine bh oT rfl fun za q=>?_
 refine aw (gI (bf rfl (hW.f 4 rfl)) (hW.o 23 rfl) (ac rfl) (ac rfl) rfl) ?_
 have:(aI [(V.int 16,V.int 5)] (.int k)).getD (.int k)=.int (if k=16 then 5 else k):=by
  unfold aI
  by_cases c:k=16
  ·refine af c ?_;rfl
  ·(refine af (aD c) ?_;refine af (aD (by show ¬decide (16=k)=true;simpa using Ne.symm c)) ?_);rfl
 refine af this ?_;exact q
end
section
variable {n:Nat} {Q:aO} {Z:H} {A:Nat→Addr} {d:Dt}
theorem Gq:sG (dL d 17)=2:=rfl
theorem yS(h:4≤d.s.length){k:Nat}(h1:18≤k)(h2:k<18+d.s.length):sG (dL d k)=3:=by
 delta dL;(refine af (aD (by lia)) ?_;refine af (aD (by lia)) ?_;refine af (aD (by lia)) ?_;refine af (aG h2) ?_);rfl
theorem D4:dL d (18+d.s.length)=.tup [.int 4,.int 19]:=by
 skip;(refine ak (aD (by lia)) ?_;refine ak (aD (by lia)) ?_;refine ak (aD (by lia)) ?_;(refine ak (aD (by lia)) ?_;with_reducible rfl))
theorem Fz(hW:Wd A d Z):Cv (a8 (n+2)) none 11 [.ref (A 39),.int (18+d.s.length:Nat)] Z (.int 19):=by
 refine bh Ay rfl fun za q=>?_
 have e:=BK (n:=n) hW (k:=18+d.s.length) (by lia)
 rw[D4] at e
 (apply au;apply dn;exact ac rfl;exact hW.kt;rfl;apply ab;exact ac rfl;exact ae;assumption;apply az;apply bc;apply dq;apply ai;apply ao;apply ah;exact ac rfl;exact aj;rfl;exact an;rfl;apply aw;apply ah;exact ac rfl;exact aj;rfl)
 exact q
theorem Eg(hW:Wd A d Z)(hd:Ok d):Cv (a8 (n+3)) none 50 [.ref (A 30),.int 19] Z (.int 19):=by
 refine bh pq rfl fun za q=>?_
 refine aH hd.rwH fun e he=>?_
 (apply au;apply ay;apply ab;apply av;exact ac rfl;exact hW.f 0 rfl;apply ab;exact ac rfl;exact ae;rfl;apply wM hW (r:=3) (.inl rfl);apply aq;apply ai;apply ao;exact ac rfl;exact bB rfl;rfl;apply aq;apply ai;apply ao;apply ay;apply ab;apply av;exact ac rfl;exact hW.f 1 rfl;apply ab;apply av;exact ac rfl;exact hW.f 31 rfl;exact ae;rfl;apply ED hW (k:=17) (by lia);exact an;rfl;apply aq;apply ai;apply gJ;apply ab;apply av;exact ac rfl;exact hW.f 1 rfl;apply ab;apply av;exact ac rfl;exact hW.f 31 rfl;exact ae;rfl;apply rF hW (k:=17) (by lia) (by lia);rfl;apply aw;apply ay;apply ab;apply dn;exact ac rfl;exact hW.m;rfl;apply ab;apply av;exact ac rfl;exact hW.f 31 rfl;exact ae;apply yN hW hd he;apply ab;apply ay;apply ab;exact ac rfl;apply ab;exact ac rfl;exact ae;rfl;apply A6 hW (r:=3) (.inl rfl);exact ae;rfl;apply Ck (i:=1) (by decide) rfl)
 exact q
theorem Ci(hW:Wd A d Z){r:Nat}(hr:r=4∨r=5):Cv (a8 (n+3)) none 50 [.ref (A 30),.int (e9 r)] Z (.int 19):=by
 refine bh pq rfl fun za q=>?_
 have e:=ED (n:=n) hW (k:=18+d.s.length) (by lia)
 rw[D4] at e
 refine zn hr ?_ ?_;all_goals clear hr
 ·(apply au;apply ay;apply ab;apply av;exact ac rfl;exact hW.f 0 rfl;apply ab;exact ac rfl;exact ae;rfl;apply wM hW (r:=4) (.inr (.inl rfl));apply aq;apply ai;apply ao;exact ac rfl;exact bB rfl;rfl;apply az;apply ai;apply ao;apply ay;apply ab;apply av;exact ac rfl;exact hW.f 1 rfl;apply ab;apply av;exact ac rfl;exact hW.f 36 rfl;exact ae;rfl;assumption;exact an;rfl;apply aw;apply ay;apply ab;apply av;exact ac rfl;exact hW.f 1 rfl;apply ab;apply av;exact ac rfl;exact hW.f 36 rfl;exact ae;rfl;apply Fz hW)
  exact q
 ·(apply au;apply ay;apply ab;apply av;exact ac rfl;exact hW.f 0 rfl;apply ab;exact ac rfl;exact ae;rfl;apply wM hW (r:=5) (.inr (.inr (.inl rfl)));apply aq;apply ai;apply ao;exact ac rfl;exact bB rfl;rfl;apply az;apply ai;apply ao;apply ay;apply ab;apply av;exact ac rfl;exact hW.f 1 rfl;apply ab;apply av;exact ac rfl;exact hW.f 36 rfl;exact ae;rfl;assumption;exact an;rfl;apply aw;apply ay;apply ab;apply av;exact ac rfl;exact hW.f 1 rfl;apply ab;apply av;exact ac rfl;exact hW.f 36 rfl;exact ae;rfl;apply Fz hW)
  exact q
theorem Ef(hW:Wd A d Z)(hd:Ok d):Cv (a8 (n+3)) none 50 [.ref (A 30),.int 26] Z (.int 18):=by
 refine bh pq rfl fun za q=>?_
 have l:=hd.sh.len.1
 have t:=yS (d:=d) l (k:=18) (by lia) (by lia)
 have e:=ED (n:=n) hW (k:=18) (by lia)
 have e2:=rF (n:=n) hW (k:=18) (by lia) (by lia)
 rw[t] at e e2
 (apply au;apply ay;apply ab;apply av;exact ac rfl;exact hW.f 0 rfl;apply ab;exact ac rfl;exact ae;rfl;apply wM hW (r:=6) (.inr (.inr (.inr rfl)));apply aq;apply ai;apply ao;exact ac rfl;exact bB rfl;rfl;apply aq;apply ai;apply ao;apply ay;apply ab;apply av;exact ac rfl;exact hW.f 1 rfl;apply ab;apply av;exact ac rfl;exact hW.f 41 rfl;exact ae;rfl;assumption;exact an;rfl;apply az;apply ai;apply gJ;apply ab;apply av;exact ac rfl;exact hW.f 1 rfl;apply ab;apply av;exact ac rfl;exact hW.f 41 rfl;exact ae;rfl;assumption;rfl;apply aw;apply av;exact ac rfl;exact hW.f 41 rfl)
 exact q
end
section
variable {n:Nat} {Q:aO} {Z:H} {A:Nat→Addr} {d:Dt} {K:aN} {U:Env} {P:aO}
theorem u9{a b:E}{u:V}(h:Ev K U Z a u)(k:WE K b U (fun v Z'=>P (.tup [u,v]) Z') Z):WE K (.tup [a,b]) U P Z:=⟨h.go _ k.go⟩
theorem r7{o:E}{k:V}(h:WE K o U (fun u Zq=>∃ v,bD Zq u k=some v∧P v Zq) Z):WE K (.idx o (.k k)) U P Z:=⟨h.go⟩
theorem vf{o:E}{i:Nat}{k:V}(hi:U i=some k)(h:WE K o U (fun u Zq=>∃ v,bD Zq u k=some v∧P v Zq) Z):WE K (.idx o (.x i)) U P Z:=by
 have:(fun u Zq=>∃ v,bD Zq u k=some v∧P v Zq)=fun u Zq=>∃ k,U i=some k∧∃ v,bD Zq u k=some v∧P v Zq:=by
  funext u Zq
  exact propext ⟨fun h=>⟨k,hi,h⟩,fun⟨k',e,h⟩=>by rw[hi] at e;refine af (aP e) ?_;exact h⟩
 rw[this] at h
 exact⟨h.go⟩
theorem EB(hW:Wd A d Z){k:Nat}(hk:k<19+d.s.length){a b:V}:Cv (a8 (n+2)) none 14 [.ref (A 39),.int k,a,b] Z (.int k):=by
 refine bh Aw rfl fun za q=>?_
 have e:bD Z (.ref (A 25)) (.int k)=some (.int 0):=aJ (hW.o 25 rfl) (Int.natCast_nonneg _) (by(rewrite[Int.toNat_natCast];refine ak (List.getElem?_replicate) ?_;(refine ak (aG hk) ?_;with_reducible rfl)))
 (apply jD;apply dn;exact ac rfl;exact hW.kt;rfl;apply ab;exact ac rfl;exact ae;apply BK hW hk;apply az;apply ai;apply ao;apply ah;apply av;exact ac rfl;exact hW.f 48 rfl;exact ac rfl;assumption;exact an;rfl;apply aw;exact ac rfl)
 exact q
theorem G8(hW:Wd A d Z)(hd:Ok d){a b:V}(q:∀ Z',bA Z Z'→Q (.tup [.int 19,.int 7]) Z'):a8 (n+3) none 15 [.ref (A 39),.tup [.int 19,.int 7],a,b] Q Z:=by
 refine bq Av rfl (aW (bx ae fun x hx=>?_))
 have l:=hd.sh.len.1
 have h1:=hW.ext (bA.refl.set (o:=.list []) hx)
 have h2:=hW.ext ((bA.refl.set (o:=.list []) hx).set (o:=.list [.int 19]) hx)
 refine cg (ac rfl) rfl (bQ rfl (bH (ac rfl) aB (ay (ab (ac rfl) (ab (ac rfl) (ab (ac rfl) (ab (ac rfl) ae)))) rfl (EB h1 (k:=19) (by lia))) (by decide) (ax ⟨rfl,?_⟩)))
 refine bQ rfl (bH (ac rfl) aB (ay (ab (ac rfl) (ab (ac rfl) (ab (ac rfl) (ab (ac rfl) ae)))) rfl (EB h2 (k:=7) (by lia))) (by decide) (ax ⟨rfl,b8 ?_⟩))
 exact aw (aZ (ab (ac rfl) ae) fun Q q=>⟨_,aB,q⟩) (q _ (((bA.refl.set hx).set hx).set hx))
theorem jg(hW:Wd A d Z):Cv (a8 (n+2)) none 12 [.ref (A 39),.int 17] Z (.tup []):=by
 refine bh Ax rfl fun za q=>?_
 have e:=BK (n:=n) hW (k:=17) (by lia)
 (apply au;apply dn;exact ac rfl;exact hW.kt;rfl;apply ab;exact ac rfl;exact ae;assumption;apply az;apply bc;apply dq;apply ai;apply ao;apply ah;exact ac rfl;exact aj;rfl;exact an;rfl;apply aw;apply ah;exact ac rfl;exact aj;rfl)
 exact q
theorem GS(hW:Wd A d Z)(hd:Ok d)(q:∀ Z',bA Z Z'→Q (.tup [.int 0,.tup [.int 19,.int 7]]) Z'):a8 (n+4) none 46 [.ref (A 38),.tup [.int 17,.int 1,.tup []]] Q Z:=by
 refine bq zY rfl ?_
 (apply aq;apply ai;apply ao;apply ah;exact ac rfl;exact aj;rfl;exact an;rfl;apply au;apply ah;apply av;exact ac rfl;exact hW.f 46 rfl;apply ah;exact ac rfl;exact aj;rfl;apply aJ;exact hW.o 26 rfl;decide;rfl;apply aq;apply ai;apply ao;exact ac rfl;exact bB rfl;rfl;apply au;apply ay;apply ab;apply av;exact ac rfl;exact hW.f 45 rfl;apply ab;apply ah;exact ac rfl;exact aj;rfl;exact ae;rfl;apply jg hW)
 refine bO (u9 (u:=.int 0) ?_ (aC (vs:=[.ref (A 39),.tup [.int 19,.int 7],.tup [],.tup []]) ?_ rfl (G8 hW hd fun Z' x=>q Z' x)))
 ·(apply ay;apply ab;apply av;exact ac rfl;exact hW.f 45 rfl;apply ab;apply av;exact ac rfl;exact hW.f 50 rfl;apply ab;exact ac rfl;apply ab;apply ah;exact ac rfl;exact aj;rfl;exact ae;rfl;apply EB hW (k:=0) (by lia))
 ·(apply ab;refine bf rfl ?_;exact hW.f 45 rfl;apply ab;refine bf rfl ?_;exact hW.f 51 rfl;apply ab;exact ac rfl;apply ab;refine aQ rfl ?_;rfl;exact ae)
theorem GR(hW:Wd A d Z):Cv (a8 (n+1)) none 47 [.ref (A 40)] Z (.bool true):=by
 refine bh zX rfl fun za q=>?_
 (apply aw;apply j5;apply aA;apply av;exact ac rfl;exact hW.f 49 rfl;exact aj;refine fun za q=>⟨?_,q⟩;decide;exact aj;exact cz)
 exact q
theorem GQ(hW:Wd A d Z)(hd:Ok d)(q:∀ Z',bA Z Z'→Q (.int 19) Z'):a8 (n+5) none 48 [.ref (A 30),.ref (A 33),.int 0] Q Z:=by
 refine bq zW rfl ?_
 (apply au;apply ah;apply av;apply av;exact ac rfl;exact hW.f 2 rfl;exact hW.f 46 rfl;apply ah;apply av;exact ac rfl;exact hW.f 21 rfl;exact aj;rfl;apply aJ;exact hW.o 26 rfl;decide;rfl;apply aq;apply nV;apply ai;apply gJ;apply ab;exact ac rfl;exact ae;rfl;apply GR hW;rfl)
 refine bO (vf rfl (r7 (aC (vs:=[.ref (A 38),.tup [.int 17,.int 1,.tup []]]) ?_ rfl (GS hW hd fun Z' x=>⟨_,rfl,_,rfl,q Z' x⟩))))
 (apply ab;refine bf rfl ?_;exact hW.f 2 rfl;apply ab;refine bf rfl ?_;exact hW.f 21 rfl;exact ae)
end
section
variable {n:Nat} {Q:aO} {Z:H} {A:Nat→Addr} {d:Dt} {K:aN} {U:Env} {P:aO}
theorem DU(hW:Wd A d Z){u k:V}:Cv (a8 (n+2)) (some 85) 173 [.ref (A 30),u,k] Z k:=by
 refine bh oS rfl fun za q=>?_
 have e:Cv (a8 (n+1)) (some 84) 112 [.ref (A 43),.ref (A 30),u,k] Z k:=bh oV rfl fun za q=>aw (ac rfl) q
 (apply aw;apply dn;apply av;exact ac rfl;exact hW.f 10 rfl;exact hW.cl;rfl;apply ab;exact ac rfl;apply ab;exact ac rfl;apply ab;exact ac rfl;exact ae;assumption)
 exact q
theorem D0(hW:Wd A d Z):∀ Q:aO,Q (.int 2) Z→wZ 0 [.ref (A 12)] Q Z:=bJ (hW.o 12 rfl)
theorem Fu(hW:Wd A d Z)(hd:Ok d){r:Nat}(hr:r<8){p:List Int}(q:∀ Z',bA Z Z'→Q (.int (bt r)) Z'):a8 (n+6) none 51 [.ref (A 30),pl p r] Q Z:=by
 revert q
 refine fF (P:=fun r=>(∀ Z',bA Z Z'→Q (.int (bt r)) Z')→a8 (n+6) none 51 [.ref (A 30),pl p r] Q Z) ?_ ?_ ?_ ?_ ?_ ?_ ?_ ?_ hr<;>refine fun q=>bq zV rfl ?_
 ·(apply aq;apply ai;apply ao;apply ah;exact ac rfl;exact aj;rfl;exact an;rfl;apply aq;apply ai;apply ao;apply ah;exact ac rfl;exact aj;rfl;exact an;rfl;apply au;apply cY;refine bf rfl ?_;exact hW.f 6 rfl;exact hW.o 8 rfl;apply ah;exact ac rfl;exact aj;rfl;rfl;apply aq;apply bc;apply aY;apply ai;apply ao;exact ac rfl;exact bB rfl;rfl;apply ba;apply ai;apply ao;apply av;exact ac rfl;exact hW.f 22 rfl;exact bB rfl;rfl;apply aq;apply ai;apply ao;apply ah;exact ac rfl;exact aj;rfl;exact an;rfl;apply aq;apply ai;apply ao;apply ah;exact ac rfl;exact aj;rfl;exact an;rfl;apply au;apply ay;apply ab;apply av;apply av;exact ac rfl;exact hW.f 22 rfl;exact hW.f 52 rfl;apply ab;apply ah;exact ac rfl;exact aj;rfl;exact ae;rfl;apply Ck (i:=0) (by decide) rfl;apply aq;apply ai;apply ao;exact ac rfl;exact aV;rfl;apply aw;apply dn;exact ac rfl;exact hW.m;rfl;apply ab;exact ac rfl;apply ab;exact ac rfl;exact ae;apply DU hW)
  exact q _ bA.refl
 ·(apply aq;apply ai;apply ao;apply ah;exact ac rfl;exact aj;rfl;exact an;rfl;apply aq;apply ai;apply ao;apply ah;exact ac rfl;exact aj;rfl;exact an;rfl;apply au;apply cY;refine bf rfl ?_;exact hW.f 6 rfl;exact hW.o 8 rfl;apply ah;exact ac rfl;exact aj;rfl;rfl;apply aq;apply bc;apply aY;apply ai;apply ao;exact ac rfl;exact bB rfl;rfl;apply ba;apply ai;apply ao;apply av;exact ac rfl;exact hW.f 22 rfl;exact bB rfl;rfl;apply az;apply ai;apply ao;apply ah;exact ac rfl;exact aj;rfl;exact an;rfl;apply aq;apply bc;apply aY;apply ai;apply ao;apply ah;exact ac rfl;exact aj;rfl;exact aV;rfl;apply ba;apply ai;apply aL;apply ah;exact ac rfl;exact aj;rfl;apply aZ;apply ab;apply av;exact ac rfl;exact hW.f 20 rfl;exact ae;exact D0 hW;exact cI;rfl)
  refine bO (aC (vs:=[.ref (A 30),.ref (A 33),.int 0]) ?_ rfl (GQ hW hd q))
  (apply ab;exact ac rfl;apply ab;exact ac rfl;apply ab;refine aQ rfl ?_;rfl;exact ae)
 ·refine aH hd.rwH fun e he=>?_
  (apply aq;apply ai;apply ao;apply ah;exact ac rfl;exact aj;rfl;exact an;rfl;apply az;apply ai;apply ao;apply ah;exact ac rfl;exact aj;rfl;exact an;rfl;apply aw;apply ay;apply ab;apply dn;exact ac rfl;exact hW.m;rfl;apply ab;apply ah;exact ac rfl;exact aj;rfl;exact ae;apply DW hW hd he;apply ab;apply ah;exact ac rfl;exact aj;rfl;exact ae;rfl;apply Ck (i:=1) (by decide) rfl)
  exact q _ bA.refl
 ·(apply az;apply ai;apply ao;apply ah;exact ac rfl;exact aj;rfl;exact an;rfl;apply aw;apply ay;apply ab;exact ac rfl;apply ab;apply ah;exact ac rfl;exact aj;rfl;exact ae;rfl;apply Eg hW hd)
  exact q _ bA.refl
 ·(apply az;apply ai;apply ao;apply ah;exact ac rfl;exact aj;rfl;exact an;rfl;apply aw;apply ay;apply ab;exact ac rfl;apply ab;apply ah;exact ac rfl;exact aj;rfl;exact ae;rfl;apply Ci hW (.inl rfl))
  exact q _ bA.refl
 ·(apply az;apply ai;apply ao;apply ah;exact ac rfl;exact aj;rfl;exact an;rfl;apply aw;apply ay;apply ab;exact ac rfl;apply ab;apply ah;exact ac rfl;exact aj;rfl;exact ae;rfl;apply Ci hW (.inr rfl))
  exact q _ bA.refl
 ·(apply az;apply ai;apply ao;apply ah;exact ac rfl;exact aj;rfl;exact an;rfl;apply aw;apply ay;apply ab;exact ac rfl;apply ab;apply ah;exact ac rfl;exact aj;rfl;exact ae;rfl;apply Ef hW hd)
  exact q _ bA.refl
 ·(apply aq;apply ai;apply ao;apply ah;exact ac rfl;exact aj;rfl;exact an;rfl;apply aq;apply ai;apply ao;apply ah;exact ac rfl;exact aj;rfl;exact an;rfl;apply au;apply cY;refine bf rfl ?_;exact hW.f 6 rfl;exact hW.o 8 rfl;apply ah;exact ac rfl;exact aj;rfl;rfl;apply aq;apply bc;apply aY;apply ai;apply ao;exact ac rfl;exact bB rfl;rfl;apply ba;apply ai;apply ao;apply av;exact ac rfl;exact hW.f 28 rfl;exact bB rfl;rfl;apply aq;apply ai;apply ao;apply ah;exact ac rfl;exact aj;rfl;exact an;rfl;apply az;apply ai;apply ao;apply ah;exact ac rfl;exact aj;rfl;exact an;rfl;apply aw;apply ah;apply av;exact ac rfl;exact hW.f 27 rfl;exact aj;rfl)
  exact q _ bA.refl
theorem jC(h:Ok d){k:Int}{r:List Int}(e:aU d.s k=some r):∃ m:Nat,k=m∧18≤m∧m<18+d.s.length:=by
 refine o0x2 (h.sh.row k r e) fun q0 za=>?_;obtain⟨a,b⟩:=q0
 exact⟨k.toNat,by lia,by lia,by lia⟩
theorem qj{p:List Int}{r:Nat}(hr:r<8):∃ l,pl p r=.tup l∧bD Z (.tup l) (.int (l.length - 1))=some (.tup (aM p)):=by
 exact fF (P:=fun r=>∃ l,pl p r=.tup l∧bD Z (.tup l) (.int (l.length - 1))=some (.tup (aM p))) ⟨_,rfl,rfl⟩ ⟨_,rfl,rfl⟩ ⟨_,rfl,rfl⟩ ⟨_,rfl,rfl⟩ ⟨_,rfl,rfl⟩ ⟨_,rfl,rfl⟩ ⟨_,rfl,rfl⟩ ⟨_,rfl,rfl⟩ hr
theorem GO(hW:Wd A d Z)(hd:Ok d){r:Nat}(hr:r<8){p:List Int}{k:Int}(hk:cj d.s (bt r) p=some k)(k0:0≤k)(q:∀ Z',bA Z Z'→Q (.int (if k=16 then 5 else k)) Z'):a8 (n+7) none 52 [.ref (A 30),pl p r] Q Z:=by
 refine bq uo rfl ?_
 refine o1x2 (qj (p:=p) (Z:=Z) hr) fun l el hl=>?_
 refine aW (aC (vs:=[.ref (A 30),pl p r]) (by(apply ab;exact ac rfl;apply ab;exact ac rfl;exact ae)) rfl (Fu hW hd hr fun Z' x=>?_))
 replace hW:=hW.ext x
 refine au (v:=.tup (aM p)) (ah (u:=.tup l) (ac (congrArg some el)) (aA (aZ (vs:=[.tup l]) (ab (ac (congrArg some el)) ae) fun Q q=>q) aj fun Q q=>q) hl) ?_
 refine cg (xs:=aM p) (ac rfl) rfl ?_
 refine(?_:∀ (p1:List Int) (kw:Int) (U:Env),cj d.s kw p1=some k→U 0=some (.ref (A 30))→U 2=some (.int kw)→FL _ _ _ _ _ _ (aM p1) U Z') p _ _ hk rfl rfl
 intro p1
 induction p1 with
 |nil=>
  intro kw U e h0 h2
  obtain rfl:=aP e
  apply b8
  (apply aq;apply ai;apply ao;apply ac;assumption;exact aV;refine bG ?_;lia;apply aw;apply dn;apply ac;assumption;exact hW.m;rfl;apply ab;apply ac;assumption;exact ae;apply DV hW)
  exact q _ x
 |cons i p1 ih=>
  intro kw U e h0 h2
  refine o2x4 (cD e) fun row k₁ e1 hi e2 e3=>?_
  refine o1x2 (jC hd e1) fun m e1 q9=>?_;obtain rfl:=e1;refine o0x2 q9 fun m1 m2=>?_;clear q9
  have t:=yS (d:=d) hd.sh.len.1 m1 m2
  have e4:=rF (n:=n+4) hW (k:=m) (by lia) (by lia)
  rw[t] at e4
  refine aH (hd.rwD _ _ e1) fun ad hrow=>?_
  refine bQ rfl (az ?_ ?_)
  ·refine bc (bZ (ai (ao (ac h2) cI) (bR (Int.natCast_nonneg _))) (ba (gJ (ab (av (ac h0) (hW.f 1 rfl)) (ab (ac h2) ae)) rfl e4)))
  ·refine au (ay (ab (dn (ac h0) hW.m rfl (ab (ac h2) ae) (yN hW hd hrow)) (ab (ac rfl) ae)) rfl (Ck (v:=.int k₁) hi ?_)) (ax (ax ⟨rfl,ih _ _ e3 h0 rfl⟩))
   skip;(refine ak (List.getElem?_map) ?_;refine af e2 ?_);rfl
end
section
variable {n:Nat} {Q:aO} {Z:H} {s:List (List Int)} {U:Env}
theorem gU{K:aN}{t:E}{b:List C}{P:bK}{n:Nat}{U:Env}{Z:H}(h:WL K t b P n U Z):(fun(f:Fl) U' Z'=>match f with | .next=>WL K t b P n U' Z' | .ret v=>P (.ret v) U' Z') .next U Z:=h
theorem qY{K:aN}{P:bK}{ta:Addr}{k:Int}{vs L:List V}(hL:L.length+vs.length≤90000):∀ (m:Nat) (U:Env) (Z:H),m≤vs.length→U 2=some (.ref ta)→U 3=some (nd k vs)→U 4=some (.int ((m:Int) - 1))→Z ta=some (.list (L++(vs.drop m).reverse))→
  (∀ U' Z',(∀ i,i<4→U' i=U i)→(∀ a,a≠ta→Z' a=Z a)→Z' ta=some (.list (L++vs.reverse))→P .next U' Z')→
  WL K (.cmp (.x 4) .GtE (.k (.int 0))) [.ex (.mth (.x 2) 95 [.idx (.idx (.x 3) (.k (.int 2))) (.x 4)]),.augV 4 .Sub (.k (.int 1))] P (m+1) U Z:=by
 intro m
 induction m with
 |zero=>intro U Z _ h2 h3 h4 hZ q;exact eh (ai (ao (ac h4) cI) rfl) (q _ _ (fun za za=>rfl) (fun za za=>rfl) hZ)
 |succ m ih=>
  intro U Z hm h2 h3 h4 hZ q
  have e:=List.getElem?_eq_getElem hm
  have ei:((((m+1:Nat):Int) - 1))=(m:Int):=by lia
  rw[ei] at h4
  refine cJ (ai (ao (ac h4) cI) (bR (Int.natCast_nonneg _))) (bH (ac h2) hZ (ah (v:=vs[m]) (aQ h3 rfl) (ac h4) (bP (Int.natCast_nonneg _) (by rw[Int.toNat_natCast];exact e))) ?_ (jE h4 aj rfl (ax (gU (ih _ _ (Nat.le_of_succ_le hm) h2 h3 rfl ?_ fun U' Z' h h' h''=>q U' Z' (fun i hi=>(h i hi).trans (aD (by lia))) (fun a ha=>(h' a ha).trans (aD ha)) h'')))))
  ·(refine af List.length_append ?_;refine af List.length_reverse ?_;refine af List.length_drop ?_);delta bL;lia
  ·(rewrite[List.append_assoc];refine br List.reverse_cons ?_;refine br (List.drop_eq_getElem_cons hm) ?_);exact aB
noncomputable def xJ(s:List (List Int))(st:List (Int×V)):Prop:=∀ x ∈ st,Ty s x.1 x.2
theorem iH{k t z:Int}(e:aU s k=none):dK s k (.tup [.int t,.int z])=if k=12 then(if 0<z then[z] else[]) else[]:=by
 delta dK ji
 refine af (kh e) ?_
 by_cases c:k=12
 ·refine af c ?_;by_cases h:0<z
  ·(refine af (aG rfl) ?_;refine af (aG h) ?_);simp[bF,h]
  ·(refine af (aG rfl) ?_;refine af (aD h) ?_);simp[bF,h]
 ·refine af (aD c) ?_;simp[c]
theorem uI{k:Int}:1≤(W s k).length:=by
 unfold W wi;split<;>exact Nat.succ_le_succ (Nat.zero_le _)
theorem AJ(st:List (Int×V)):st.length≤SZ s st:=by
 induction st with
 |nil=>exact Nat.le_refl _
 |cons x st ih=>(refine af List.length_cons ?_;rw[Nat.add_comm]);exact Nat.add_le_add uI ih
theorem uX{a:List Int}:∀ {b:List V},b.length=a.length→(a.zip b).map (·.2)=b:=by
 induction a with
 |nil=>intro b h;induction b using List.casesOn with | nil=>rfl | cons _ _=>cases h
 |cons x a ih=>intro b h;induction b using List.casesOn with
  |nil=>cases h
  |cons y b=>exact congrArg (y::·) (ih (Nat.succ.inj h))
theorem A2(k:Int)(v:V):(dK s k v).length≤(W s k).length:=List.length_filterMap_le _ _
theorem Fy(hs:db s){k:Int}{v:V}(hv:Ty s k v)(hz:(W s k).length≤10000)(q:∀ a Z',bA Z Z'→Z a=none→Z' a=some (.list ((dK s k v).map V.int))→Q (.ref a) Z'):a8 (n+1) none 18 [v] Q Z:=by
 refine bq Aq rfl ?_
 induction hv using Ty.casesOn with
 |leaf k t z h1 h2=>
  rw[iH h1] at q
  unfold eA at h2
  by_cases c:k=12
  ·rw[aG c] at q h2
   obtain⟨rfl,hz⟩:=h2
   by_cases z0:z=0
   ·subst z0
    (apply az;apply ai;apply ao;apply ah;exact ac rfl;exact aj;rfl;exact an;rfl;apply az;apply ai;apply ao;apply ah;exact ac rfl;exact aj;rfl;exact an;rfl)
    exact bO (bx ae fun a ha=>q a _ (bA.refl.set ha) ha aB)
   ·have zp:0<z:=by simp at hz;lia
    rw[aG zp] at q
    (apply az;apply ai;apply ao;apply ah;exact ac rfl;exact aj;rfl;exact an;rfl;apply aq;apply ai;apply ao;apply ah;exact ac rfl;exact aj;rfl;exact an;refine bG ?_;assumption)
    exact bO (bx (ab (aQ rfl rfl) ae) fun a ha=>q a _ (bA.refl.set ha) ha aB)
  ·rw[aD c] at q h2
   have t4:t≠4:=by lia
   have t5:t≠5:=by lia
   (apply aq;apply ai;apply ao;apply ah;exact ac rfl;exact aj;rfl;exact an;refine bG ?_;assumption;apply az;apply ai;apply ao;apply ah;exact ac rfl;exact aj;rfl;exact cz;apply qf;refine bG ?_;assumption)
   exact bO (bx ae fun a ha=>q a _ (bA.refl.set ha) ha aB)
 |node k r vs h1 h2 h3=>
  have hv:Ty s k (nd k vs):=.node k r vs h1 h2 h3
  (apply aq;apply ai;apply ao;apply ah;exact ac rfl;exact aj;rfl;exact an;rfl;apply aq;apply ai;apply ao;apply ah;exact ac rfl;exact aj;rfl;exact cz;rfl)
  refine aW (bx ae fun fa hfa=>?_)
  refine aW (bx (vs:=[nd k vs]) (ab (ac rfl) ae) fun ta hta=>?_)
  have hne:fa≠ta:=fun e=>by subst e;rw[aB] at hta;exact sn hta
  have hta':Z ta=none:=by refine br hta ?_;exact(aD (Ne.symm hne)).symm
  refine gO (n:=(W s k).length+1) ?_
  refine(?_:∀ (N:Nat) (st:List (Int×V)) (acc:List Int) (U:Env) (Z':H),SZ s st<N→SZ s st≤10000→acc.length+SZ s st≤10000→xJ s st→U 1=some (.ref fa)→U 2=some (.ref ta)→bA Z Z'→Z' ta=some (.list ((st.map (·.2)).reverse))→Z' fa=some (.list (acc.map V.int))→
   (∀ Z',bA Z Z'→Z' fa=some (.list ((acc++RL s st).map V.int))→Q (.ref fa) Z')→WL _ _ _ _ N U Z') ((W s k).length+1) [(k,nd k vs)] [] _ _ (Nat.lt_succ_self _) hz (by(refine af List.length_nil ?_;rw[Nat.zero_add]);exact hz) (fun x hx=>by refine af (List.mem_singleton.mp hx) ?_;exact hv) rfl rfl ((bA.refl.set hfa).set hta') aB (bv hne aB) (fun Z' x e=>q fa Z' x hfa (by refine ak (e) ?_;simp[RL]))
  intro N
  induction N with
  |zero=>intro st acc U Z' h;cases h
  |succ N ih=>
   intro st acc U Z' hN hb ha ht h1 h2 hx e1 e2 q
   induction st using List.casesOn with
   |nil=>
    refine eh (ai (ao (aZ (ab (ac h2) ae) (bJ e1)) cr) rfl) (aw (ac h1) (q _ hx (by refine ak (e2) ?_;simp[RL])))
   |cons x st=>
    obtain⟨kx,vx⟩:=x
    have e1:Z' ta=some (.list ((st.map (·.2)).reverse++[vx])):=by(refine ak (e1) ?_;refine af List.map_cons ?_;(refine af List.reverse_cons ?_;with_reducible rfl))
    refine cJ (ai (ao (aZ (ab (ac h2) ae) (bJ e1)) cr) (bR (by refine af List.length_append ?_;show(0:Int)<((_+1:Nat):Int);lia))) (yh (ac h2) e1 (List.getLast?_concat) ?_)
    refine af List.dropLast_concat ?_
    have hsz:SZ s ((kx,vx)::st)=(W s kx).length+SZ s st:=rfl
    have htx:Ty s kx vx:=ht _ (.head _)
    have hts:xJ s st:=fun y hy=>ht y (.tail _ hy)
    have hl:=AJ (s:=s) st
    rw[hsz] at hN hb ha
    have x':bA Z (Z'.set ta (.list (st.map (·.2)).reverse)):=hx.set hta'
    cases htx with
    |leaf _ t z g1 g2=>
     have hw:(W s kx).length=1:=by refine af (kh g1) ?_;rfl
     rw[hw] at hN hb ha
     unfold eA at g2
     have er:RL s ((kx,.tup [.int t,.int z])::st)=(if kx=12 then(if 0<z then[z] else[]) else[])++RL s st:=by rw[← iH g1];rfl
     rw[er] at q
     have t5:t≠5:=by split at g2<;>lia
     refine di (ai (ao (aQ rfl rfl) an) (bG t5)) ?_
     by_cases c:kx=12∧0<z
     ·obtain⟨rfl,zp⟩:=c
      rw[aG rfl] at g2
      obtain⟨rfl,_⟩:=g2
      (rewrite[aG rfl] at q;rewrite[aG zp] at q;rw[← List.append_assoc] at q)
      refine az (bc (bZ (ai (ao (aQ rfl rfl) an) rfl) (ba (ai (ao (aQ rfl rfl) cz) (qf (bG (by lia))))))) ?_
      refine bH (ac h1) (bv hne e2) (aQ (v:=.int z) rfl rfl) (by rw[List.length_map];unfold bL;lia) (ax (ax (ax (gU (ih st (acc++[z]) _ _ (by lia) (by lia) (by refine af List.length_append ?_;show _+1+_≤_;lia) hts h1 h2 (x'.set hfa) (bv (Ne.symm hne) aB) (by refine af List.map_append ?_;exact aB) q)))))
     ·have e0:(if kx=12 then(if 0<z then[z] else[]) else[])=[]:=by
       by_cases c1:kx=12
       ·(refine ak (aG c1) ?_;(refine ak (aD fun h=>c ⟨c1,h⟩) ?_;with_reducible rfl))
       ·(refine ak (aD c1) ?_;with_reducible rfl)
      (rewrite[e0] at q;rw[List.nil_append] at q)
      refine aq ?_ (ax (ax (gU (ih st acc _ _ (by lia) (by lia) (by lia) hts h1 h2 x' aB (bv hne e2) q))))
      refine bc ?_
      by_cases c4:t=4
      ·refine af c4 ?_
       have z0:z=0:=by
        split at g2
        ·next c1=>simp at g2;have:=mt (fun h=>(⟨c1,h⟩:kx=12∧0<z)) c;lia
        ·lia
       refine af z0 ?_
       exact bZ (ai (ao (aQ rfl rfl) an) rfl) (ba (ai (ao (aQ rfl rfl) cz) rfl))
      ·exact d5 (ai (ao (aQ rfl rfl) an) (bG c4))
    |node _ row ws g1 g2 g3=>
     have hw:=qP hs g1 g2
     rw[hw] at hN hb ha
     have er:RL s ((kx,nd kx ws)::st)=RL s (row.zip ws++st):=by rw[AW];exact congrArg (·++RL s st) (qV hs g1 g2)
     rw[er] at q
     have hws:ws.length≤3:=by have:=(hs.row _ _ g1).2.2.1;lia
     refine az (ai (ao (aQ rfl rfl) an) rfl) (au (aA (aZ (vs:=[.tup ws]) (ab (aQ rfl rfl) ae) fun Q q=>q) aj fun Q q=>q) (gO (qY (k:=kx) (vs:=ws) (L:=(st.map (·.2)).reverse) (by(refine af List.length_reverse ?_;rw[List.length_map]);lia) ws.length _ _ (Nat.le_refl _) h2 rfl rfl (by(refine af List.drop_length ?_;refine af List.reverse_nil ?_;rw[List.append_nil]);exact aB) fun U' Z2 hU hZ hta2=>?_)))
     refine ax (ax (gU (ih (row.zip ws++st) acc U' Z2 ?_ ?_ ?_ ?_ ((hU 1 (by decide)).trans h1) ((hU 2 (by decide)).trans h2) ?_ ?_ ?_ q)))
     ·rw[pE];lia
     ·rw[pE];lia
     ·rw[pE];lia
     ·intro y hy
      rcases List.mem_append.mp hy with h | h
      ·obtain⟨i,hi,e⟩:=List.getElem_of_mem h
       rw[List.getElem_zip] at e
       refine br e ?_
       rw[List.length_zip] at hi
       exact g3 i _ _ (List.getElem?_eq_getElem (by lia)) (List.getElem?_eq_getElem (by lia))
      ·exact hts y h
     ·exact fun a o e=>(hZ a (fun c=>by subst c;rw[hta'] at e;exact ns e)).trans (x' a o e)
     ·(refine ak (hta2) ?_;refine af List.map_append ?_;refine af (uX g2) ?_;(refine af List.reverse_append ?_;with_reducible rfl))
     ·refine ak (hZ fa hne) ?_;exact bv hne e2
end
section
variable {n:Nat} {Q:aO} {Z:H} {A:Nat→Addr} {d:Dt} {s:List (List Int)}
theorem qW{k:Int}{v:V}:∀ a ∈ dK s k v,0<a:=by
 intro a ha
 refine o1x2 (List.mem_filterMap.mp ha) fun x za e=>?_
 unfold ji at e
 split at e
 ·split at e
  ·split at e
   ·refine br (aP e) ?_;assumption
   ·exact ns e
  ·exact ns e
 ·exact ns e
theorem G6(hs:db s){k:Int}{v:V}(hv:Ty s k v)(hz:(W s k).length≤10000)(q:∀ Z',bA Z Z'→Q (.bool (decide (dK s k v≠[]))) Z'):a8 (n+2) none 25 [v] Q Z:=by
 refine bq Aj rfl ?_
 have go:(∃ u,bD Z v (.int 0)=some (.int u)∧u≠4)→SS (a8 (n+1)) EL.body (bU EL.ps [v] Env.nil) (fq Q) Z:=fun⟨u,hu,u4⟩=>by
  refine aq (ai (ao (aQ rfl hu) an) (bG u4)) ?_
  refine f6 (aC (ab (ac rfl) ae) rfl (Fy hs hv hz fun a Z' x ha e=>⟨_,be e,?_⟩))
  induction hr:dK s k v using List.casesOn with
  |nil=>rw[hr] at q;exact b8 (aw aj (q _ x))
  |cons b l=>
   have hb:0<b:=qW (s:=s) (k:=k) (v:=v) b (by rw[hr];exact .head _)
   rw[hr] at q
   exact bQ rfl (az (ai (ao (ac rfl) cz) (qf (bG (by lia)))) (aw aj (q _ x)))
 induction hv using Ty.casesOn with
 |leaf k t z h1 h2=>
  by_cases t4:t=4
  ·subst t4
   unfold eA at h2
   have hk:k=12:=by
    by_cases c:k=12
    ·exact c
    ·rw[aD c] at h2;lia
   rw[aG hk] at h2
   have e:decide (dK s k (.tup [.int 4,.int z])≠[]) = !decide (z=0):=by
    rw[iH h1,aG hk]
    have:=h2.2
    simp at this
    by_cases c:z=0
    ·subst c;rfl
    ·rw[aG (by lia),bG c];rfl
   rw[e] at q
   (apply az;apply ai;apply ao;apply ah;exact ac rfl;exact aj;rfl;exact an;rfl;apply aw;apply j5;apply ah;exact ac rfl;exact aj;rfl;exact aj;exact cz)
   exact q _ bA.refl
  ·exact go ⟨t,rfl,t4⟩
 |node k r vs h1 h2 h3=>exact go ⟨5,rfl,by decide⟩
end
section
variable {K:aN} {U:Env} {Z:H} {P:aO} {Q:bK}
theorem fR{e:E}:WE K e U P Z=dd K e U P Z:=propext ⟨fun h=>h.go,fun h=>⟨h⟩⟩
theorem mW{l:List C}:SS K l U Q Z=eO K l U Q Z:=propext ⟨fun h=>h.go,fun h=>⟨h⟩⟩
structure rT (K:aN) (l:List E) (U:Env) (P:List V→H→Prop) (Z:H):Prop where
 go:kq K l U P Z
theorem ya{l:List E}{P:List V→H→Prop}:rT K l U P Z=kq K l U P Z:=propext ⟨fun h=>h.go,fun h=>⟨h⟩⟩
theorem cK{P:List V→H→Prop}(h:P [] Z):rT K [] U P Z:=⟨h⟩
theorem aR{e:E}{l:List E}{v:V}{P:List V→H→Prop}(h:Ev K U Z e v)(k:rT K l U (fun vs Z'=>P (v::vs) Z') Z):rT K (e::l) U P Z:=⟨h.go _ k.go⟩
theorem eu{e:E}{l:List E}{P:List V→H→Prop}(h:WE K e U (fun v Z'=>rT K l U (fun vs Z''=>P (v::vs) Z'') Z') Z):rT K (e::l) U P Z:=by simp only[ya,fR] at *;exact h
theorem xZ{l:List E}{vs:List V}{P:List V→H→Prop}(h:Es K U Z l vs)(k:P vs Z):rT K l U P Z:=⟨h.go _ k⟩
theorem bN{e:E}{P:List V→H→Prop}(h:WE K e U (fun v Z'=>P [v] Z') Z):rT K [e] U P Z:=⟨h.go⟩
theorem lA{l:List E}(h:rT K l U (fun vs Z'=>P (.tup vs) Z') Z):WE K (.tup l) U P Z:=⟨h.go⟩
theorem pH{l:List E}(h:rT K l U (fun vs Z'=>∀ a,Z' a=none→P (.ref a) (Z'.set a (.list vs))) Z):WE K (.lst l) U P Z:=⟨h.go⟩
theorem cC{f:Nat}{as:List E}(hc:cZ f=false)(h:rT K as U (fun vs Z'=>K none f vs P Z') Z):WE K (.call (.k (.fn f)) as) U P Z:=by
 have e:(fun vs Z'=>fH K (.fn f) vs P Z')=fun vs Z'=>K none f vs P Z':=by
  funext vs Z';skip;skip;(refine ak (aD (by rw[hc];exact Bool.false_ne_true)) ?_;with_reducible rfl)
 exact⟨⟨rfl,by refine af e ?_;exact h.go⟩⟩
theorem fK{f:Nat}{as:List E}(hc:cZ f=true)(hi:gH f=true)(h:rT K as U (fun vs Z'=>∀ a,Z' a=none→K (some f) 89 (.ref a::vs) (fun r Z''=>pa r=true∧P (.ref a) Z'') (Z'.set a (.inst f []))) Z):WE K (.call (.k (.fn f)) as) U P Z:=by
 have e:(fun vs Z'=>fH K (.fn f) vs P Z')=fun vs Z'=>∀ a,Z' a=none→K (some f) 89 (.ref a::vs) (fun r Z''=>pa r=true∧P (.ref a) Z'') (Z'.set a (.inst f [])):=by
  funext vs Z';skip;skip;(refine ak (aG hc) ?_;(refine ak (aG hi) ?_;with_reducible rfl))
 exact⟨⟨rfl,by refine af e ?_;exact h.go⟩⟩
theorem pJ{f:Nat}(hc:cZ f=true)(hi:gH f=false)(h:∀ a,Z a=none→P (.ref a) (Z.set a (.inst f []))):WE K (.call (.k (.fn f)) []) U P Z:=by
 refine⟨⟨rfl,?_⟩⟩
 show fH K (.fn f) [] P Z
 delta fH;dsimp only;(refine af (aG hc) ?_;refine af (aD (by rw[hi];exact Bool.false_ne_true)) ?_);exact⟨rfl,h⟩
theorem jz{n:Nat}{as:List E}(h:rT K as U (fun vs Z'=>wZ n vs P Z') Z):WE K (.call (.k (.bi n)) as) U P Z:=⟨⟨rfl,h.go⟩⟩
theorem iz{op:Operator}{a b:E}(h:WE K a U (fun u Zq=>WE K b U (fun v Zr=>wY op u v P Zr) Zq) Z):WE K (.bin op a b) U P Z:=by simp only[fR] at *;exact h
theorem oz{op:CmpOp}{a b:E}(h:WE K a U (fun u Zq=>WE K b U (fun v Zr=>∃ c,d8 Zr op u v c∧P (.bool c) Zr) Zq) Z):WE K (.cmp a op b) U P Z:=by simp only[fR] at *;exact h
theorem gu{o i:E}(h:WE K o U (fun u Zq=>WE K i U (fun k Zr=>∃ v,bD Zr u k=some v∧P v Zr) Zq) Z):WE K (.idx o i) U P Z:=by simp only[fR] at *;exact h
theorem pI{o k d:E}{b:Addr}{es:List (V×V)}{x:V}(ho:Ev K U Z o (.ref b))(hd:Z b=some (.dict es))(hk:Ev K U Z k x)(h:WE K d U (fun y Za=>99=99∧∃ es,Za b=some (.dict es)∧bd es x=true∧P ((aI es x).getD y) Za) Z):WE K (.mth o 99 [k,d]) U P Z:=
 ⟨ho.go _ ⟨_,lS hd,rfl,hk.go _ h.go⟩⟩
structure WT (K:aN) (e:E) (U:Env) (Q:Bool→H→Prop) (Z:H):Prop where
 go:oq K e U (dd K e U) Q Z
theorem r4{e:E}{Q:Bool→H→Prop}:WT K e U Q Z=oq K e U (dd K e U) Q Z:=propext ⟨fun h=>h.go,fun h=>⟨h⟩⟩
theorem kG{e:E}{b:Bool}{Q:Bool→H→Prop}(h:Et K U Z e b)(q:Q b Z):WT K e U Q Z:=⟨h.go _ q⟩
theorem iu{e:E}{Q:Bool→H→Prop}(h:WT K e U (fun b Z'=>Q (!b) Z') Z):WT K (.not e) U Q Z:=⟨h.go⟩
theorem eF{f:Nat}{as:List E}{Q:Bool→H→Prop}(h:WE K (.call (.k (.fn f)) as) U (xm Q) Z):WT K (.call (.k (.fn f)) as) U Q Z:=⟨h.go⟩
theorem eN{a b:E}{op:CmpOp}{Q:Bool→H→Prop}(h:WE K a U (fun u Zq=>WE K b U (fun v Zr=>∃ c,d8 Zr op u v c∧Q c Zr) Zq) Z):WT K (.cmp a op b) U Q Z:=⟨(oz (P:=xm Q) h).go⟩
theorem fZ{op:BoolOp}{e:E}{Q:Bool→H→Prop}(h:WT K e U Q Z):WT K (.bl op [e]) U Q Z:=⟨h.go⟩
theorem jx{e f:E}{r:List E}{Q:Bool→H→Prop}(h:WT K e U (fun b Zq=>(b=true→WT K (.bl .And (f::r)) U Q Zq)∧(b=false→Q false Zq)) Z):WT K (.bl .And (e::f::r)) U Q Z:=by simp only[r4] at *;exact h
theorem mL{e f:E}{r:List E}{Q:Bool→H→Prop}(h:WT K e U (fun b Zq=>(b=true→Q true Zq)∧(b=false→WT K (.bl .Or (f::r)) U Q Zq)) Z):WT K (.bl .Or (e::f::r)) U Q Z:=by simp only[r4] at *;exact h
theorem xl{op:BoolOp}{l:List E}(h:WT K (.bl op l) U (fun b Z'=>P (.bool b) Z') Z):WE K (.bl op l) U P Z:=⟨h.go⟩
theorem dJ{t:E}{a b r:List C}(h:WT K t U (fun c Zq=>(c=true→SS K a U (qN K r Q) Zq)∧(c=false→SS K b U (qN K r Q) Zq)) Z):SS K (.ite t a b::r) U Q Z:=by
 simp only[r4,mW,lG] at *;exact h
structure CL (K:aN) (e:E) (t:List Nat) (ifs:List E) (U:Env) (src:V) (whole:List V) (P:aO) (xs acc:List V) (Z:H):Prop where
 go:ik (fun Z'=>bp Z' src=some whole) (fun x=>cL t x U.outer) (fun U' K' Z'=>lu K ifs U' K' Z') (fun U' K' Z'=>dd K e U' K' Z') xs acc (fun out Zr=>gb (.list out) P Zr) Z
section
variable {e:E} {t:List Nat} {src:V} {whole:List V}
theorem lC{it:E}{ifs:List E}{xs:List V}(h:Ev K U Z it src)(hx:bp Z src=some xs)(hr:sJ src)(k:CL K e t ifs U src xs P xs [] Z):WE K (.comp e t it ifs) U P Z:=⟨h.go _ ⟨xs,hx,hr,k.go⟩⟩
theorem kb{ifs:List E}{acc:List V}(h:∀ a,Z a=none→P (.ref a) (Z.set a (.list acc))):CL K e t ifs U src whole P [] acc Z:=⟨h⟩
theorem ug{ifs:List E}{xs acc:List V}:CL K e t ifs U src whole P xs acc Z=ik (fun Z'=>bp Z' src=some whole) (fun x=>cL t x U.outer) (fun U' K' Z'=>lu K ifs U' K' Z') (fun U' K' Z'=>dd K e U' K' Z') xs acc (fun out Zr=>gb (.list out) P Zr) Z:=propext ⟨fun h=>h.go,fun h=>⟨h⟩⟩
theorem il{x:V}{xs acc:List V}{U':Env}(hb:cL t x U.outer=some U')(k:WE K e U' (fun v Z'=>bp Z' src=some whole∧CL K e t [] U src whole P xs (acc++[v]) Z') Z):CL K e t [] U src whole P (x::xs) acc Z:=by
 simp only[fR,ug] at *
 exact⟨U',hb,fun za=>k,fun h=>nomatch h⟩
theorem Cq{f:E}{x:V}{xs acc:List V}{U':Env}{b:Bool}(hb:cL t x U.outer=some U')(ht:Et K U' Z f b)(hl:bp Z src=some whole)(k:b=true→WE K e U' (fun v Z'=>bp Z' src=some whole∧CL K e t [f] U src whole P xs (acc++[v]) Z') Z)
  (k':b=false→CL K e t [f] U src whole P xs acc Z):CL K e t [f] U src whole P (x::xs) acc Z:=by
 simp only[fR,ug] at *
 exact⟨U',hb,ht.go (fun b Zq=>(b=true→_)∧(b=false→_)) ⟨fun h=>⟨fun za=>k h,fun h=>nomatch h⟩,fun h=>⟨fun h=>(nomatch h),fun za=>⟨hl,k' h⟩⟩⟩⟩
theorem d4{it:E}{n:Nat}(I:List V→H→Prop)(h:Ev K U Z it (.rng n))(hn:n≤1000)(b:I [] Z)(st:∀ (acc:List V) Z',acc.length<n→I acc Z'→∀ U',cL t (.int (acc.length:Nat)) U.outer=some U'→∀ R:aO,(∀ v Z'',I (acc++[v]) Z''→R v Z'')→WE K e U' R Z')
  (hb:∀ v,cL t v U.outer≠none) (q:∀ (acc:List V) Z',acc.length=n→I acc Z'→∀ a,Z' a=none→P (.ref a) (Z'.set a (.list acc))):WE K (.comp e t it []) U P Z:=by
 refine lC h rfl (by show(n:Int)≤1000;lia) ?_
 have go:∀ (m:Nat) (acc:List V) Z',m+acc.length=n→I acc Z'→CL K e t [] U (.rng n) ((List.range (Int.toNat (n:Int))).map fun(i:Nat)=>V.int (i:Int)) P (((List.range n).drop acc.length).map fun(i:Nat)=>V.int (i:Int)) acc Z':=by
  intro m
  induction m with
  |zero=>
   intro acc Z' hl hI
   rw[Nat.zero_add] at hl
   refine af (List.drop_of_length_le (by rw[List.length_range];lia)) ?_
   exact kb (q acc Z' hl hI)
  |succ m ih=>
   intro acc Z' hl hI
   have hlt:acc.length<n:=by lia
   (refine af (List.drop_eq_getElem_cons (by rw[List.length_range];exact hlt)) ?_;refine af List.map_cons ?_;rw[List.getElem_range])
   cases hb':cL t (.int (acc.length:Nat)) U.outer with
   |none=>exact absurd hb' (hb _)
   |some U'=>
    refine il hb' ?_
    refine st acc Z' hlt hI U' hb' _ fun v Z'' hI'=>⟨rfl,?_⟩
    have:=ih (acc++[v]) Z'' (by refine af List.length_append ?_;show m+(_+1)=n;lia) hI'
    rw[List.length_append] at this
    exact this
 exact go n [] Z rfl b
end
end
structure Ms (s:List (List Int)) (sh sp:List (V×V)):Prop where
 ok:db s
 shD:∀ k:Int,aI sh (.int k)=(aU s k).map fun r=>.tup (aM r)
 shK:∀ k:Int,bd sh (.int k)=true
 spK:∀ k:Int,bd sp (.int k)=true
 spN:∀ k:Int,aU s k=none→aI sp (.int k)=none
structure Mw (s:List (List Int)) (a b c e:Addr) (sh sp es:List (V×V)) (Z:H):Prop where
 i4:bD Z (.ref a) (.sym 204)=some (.ref b)
 i3:bD Z (.ref a) (.sym 203)=some (.ref c)
 i5:bD Z (.ref a) (.sym 205)=some (.ref e)
 hb:Z b=some (.dict sh)
 hc:Z c=some (.dict sp)
 he:Z e=some (.dict es)
 sp:∀ (k:Int) (r:List Int),aU s k=some r→∃ x,aI sp (.int k)=some (.ref x)∧Z x=some (.list ((W s k).map eg))
theorem wj{Z:H}{a:Addr}{k:V}:bD Z (.ref a) k=kT k (Z a):=rfl
theorem fC{Z Z':H}{a:Addr}{k v:V}(h:∀ o,Z a=some o→Z' a=some o)(e:bD Z (.ref a) k=some v):bD Z' (.ref a) k=some v:=by
 rw[wj] at *
 induction q:Z a using Option.casesOn with
 |none=>rw[q] at e;exact ns e
 |some o=>rw[q] at e;refine af (h o q) ?_;exact e
section
variable {n:Nat} {Q:aO} {Z Z':H} {s:List (List Int)} {a b c e:Addr} {sh sp es:List (V×V)}
theorem Mw.ext(M:Mw s a b c e sh sp es Z)(x:bA Z Z'):Mw s a b c e sh sp es Z':=
 ⟨fC (x a) M.i4,fC (x a) M.i3,fC (x a) M.i5,x _ _ M.hb,x _ _ M.hc,x _ _ M.he,fun k r h=>let ⟨y,e1,e2⟩:=M.sp k r h;⟨y,e1,x _ _ e2⟩⟩
theorem zi(M:Mw s a b c e sh sp es Z)(T:Ms s sh sp){k:Int}(q:∀ x Z',bA Z Z'→Z' x=some (.list ((W s k).map eg))→Q (.ref x) Z'):a8 (n+1) none 56 [.ref a,.int k] Q Z:=by
 refine bq zR rfl ?_
 refine bO (pI (ah (ac rfl) aj M.i3) M.hc (ac rfl) (bx (vs:=[.tup [.tup [],.int k]]) (ab (aE (ab (aE ae) (ab (ac rfl) ae))) ae) fun y hy=>⟨rfl,sp,bv (fun z=>by(rewrite[← z] at hy;rw[M.hc] at hy);exact sn hy) M.hc,T.spK k,?_⟩))
 induction g:aU s k using Option.casesOn with
 |none=>refine af (T.spN k g) ?_;exact q y _ (bA.refl.set hy) (by refine af (kh g) ?_;exact aB)
 |some r=>
  refine o1x2 (M.sp k r g) fun x e1 e2=>?_
  refine af e1 ?_;exact q x _ (bA.refl.set hy) ((bA.refl.set hy) _ _ e2)
theorem jo(T:Ms s sh sp){k:Int}(g:aU s k=none):(aI sh (.int k)).isSome=false:=by(rewrite[T.shD];refine af g ?_);rfl
theorem fM(T:Ms s sh sp){k:Int}{r:List Int}(g:aU s k=some r):aI sh (.int k)=some (.tup (aM r)):=by(rewrite[T.shD];refine af g ?_);rfl
theorem cy{p:List Int}{i:Nat}{k:Int}(h:p[i]? = some k):(aM p)[i]? = some (.int k):=by skip;(refine ak (List.getElem?_map) ?_;refine af h ?_);rfl
theorem bz{p:List Int}:(aM p).length=p.length:=List.length_map _
theorem Ed(T:Ms s sh sp)(k:Int):∀ (m:Nat) (z:Int) (Z:H) (Q:aO),rk s k≤m→Mw s a b c e sh sp es Z→(∀ v Z',Ty s k v→bA Z Z'→Q v Z')→a8 (m+1) none 57 [.ref a,.int k,.int z] Q Z:=by
 refine ib T.ok (P:=fun k=>∀ (m:Nat) (z:Int) (Z:H) (Q:aO),rk s k≤m→Mw s a b c e sh sp es Z→(∀ v Z',Ty s k v→bA Z Z'→Q v Z')→a8 (m+1) none 57 [.ref a,.int k,.int z] Q Z) (fun k g m z Z Q za M q=>?_) (fun k r g ih m z Z Q hm M q=>?_) k
 ·have k1:=j9 (Z:=Z) M.hb (T.shK k)
  rw[jo T g] at k1
  refine bq um rfl (aq (aL (ac rfl) (ah (ac rfl) aj M.i4) k1) ?_)
  by_cases rZ:k=12
  ·subst rZ
   have b1:0≤z % 4:=Int.emod_nonneg _ (by decide)
   have b2:z % 4<4:=Int.emod_lt_of_pos _ (by decide)
   refine aH ((⟨(z % 4).toNat,by lia⟩:∃ j:Nat,z % 4=j)) fun j hj=>?_
   have j4:j<4:=by lia
   refine o1x2 ((⟨_,List.getElem?_eq_getElem (l:=([0,16,20,24]:List Int)) j4,List.getElem_mem _⟩:∃ u:Int,([0,16,20,24]:List Int)[j]? = some u∧u ∈ ([0,16,20,24]:List Int))) fun u hu hm=>?_
   refine az (ai (ao (ac rfl) an) rfl) (aw (aE (ab aj (ab (ah (k:=.int (z % 4)) aj (aA (ac rfl) aj fun Q q=>⟨by decide,q⟩) (bP b1 (by refine af hj ?_;exact cy hu))) ae))) (q _ _ (.leaf _ _ _ g ?_) bA.refl))
   delta eA;refine af (aG rfl) ?_;exact⟨rfl,hm⟩
  ·refine aq (ai (ao (ac rfl) an) (bG rZ)) ?_
   by_cases c9:k=9
   ·refine aw (aE (ab (nS (ai (ao (ac rfl) an) (bR c9)) aj) (ab (aA (w:=.int (z % 120)) (ac rfl) aj fun Q q=>⟨by decide,q⟩) ae))) (q _ _ (.leaf _ _ _ g ?_) bA.refl)
    delta eA;refine af (aD rZ) ?_;exact .inr rfl
   ·refine aw (aE (ab (nT (ai (ao (ac rfl) an) (bG c9)) aj) (ab (aA (w:=.int (z % 120)) (ac rfl) aj fun Q q=>⟨by decide,q⟩) ae))) (q _ _ (.leaf _ _ _ g ?_) bA.refl)
    delta eA;refine af (aD rZ) ?_;exact .inl rfl
 ·have k1:=j9 (Z:=Z) M.hb (T.shK k)
  rw[fM T g] at k1
  have r3:=(T.ok.row _ _ g).2.2.1
  have i4:bD Z (.ref b) (.int k)=some (.tup (aM r)):=aF M.hb (T.shK k) (fM T g)
  refine bq um rfl (az (aL (ac rfl) (ah (ac rfl) aj M.i4) k1) (au (ah (ah (ac rfl) aj M.i4) (ac rfl) i4) ?_))
  refine bO (lA (aR aj (aR (ac rfl) (bN (jz (bN (d4 (n:=r.length) (fun acc Z'=>bA Z Z'∧∀ (i:Nat) k' v,r[i]? = some k'→acc[i]? = some v→Ty s k' v) (aZ (vs:=[.int r.length]) (ab (aZ (vs:=[.tup (aM r)]) (ab (ac rfl) ae) fun Q q=>by rw[← bz] at q;exact q) ae) fun Q q=>⟨_,rfl,⟨by lia,by lia⟩,q⟩) (by lia) ⟨bA.refl,fun i k' v za h=>nomatch h⟩ ?_ (fun v h=>nomatch h) ?_)))))))
  ·intro acc Z' hl hI U' hb R hR
   refine br (aP hb) ?_
   have gk:=List.getElem?_eq_getElem hl
   refine aC (vs:=[.ref a,.int r[acc.length],.int (z+3 * (acc.length:Nat)+1)]) (ab (ac rfl) (ab (ah (ac rfl) (ac rfl) (bP (Int.natCast_nonneg _) (by rw[Int.toNat_natCast];exact cy gk))) (ab (aA (aA (ac rfl) (aA (w:=.int (3 * (acc.length:Nat))) aj (ac rfl) fun Q q=>⟨⟨by decide,by show((acc.length:Nat):Int).natAbs<2 ^ 40;lia⟩,q⟩) fun Q q=>q) aj fun Q q=>q) ae))) rfl ?_
   refine aH ((⟨m - 1,by have:=f9 T.ok g (List.mem_of_getElem? gk);lia⟩:∃ j,m=j+1)) fun m e1=>?_;refine af e1 ?_
   refine ih _ (List.mem_of_getElem? gk) m _ Z' _ (by have:=f9 T.ok g (List.mem_of_getElem? gk);lia) (M.ext hI.1) fun v Z'' hv x=>hR v Z'' ⟨hI.1.trans x,fun i k' v' e1 e2=>?_⟩
   by_cases ci:i<acc.length
   ·rw[List.getElem?_append_left ci] at e2;exact hI.2 i k' v' e1 e2
   ·have:i=acc.length:=by have:=(List.getElem?_eq_some_iff.mp e2).1;rw[List.length_append] at this;have:i<acc.length+1:=this;lia
    subst this
    rw[List.getElem?_concat_length] at e2
    refine br (aP e2) ?_;cases gk.symm.trans e1;exact hv
  ·intro acc Z' hl hI x hx
   exact⟨acc,aB,q _ _ (.node k r acc g hl hI.2) (hI.1.set (by induction h:Z x using Option.casesOn with | none=>rfl | some o=>rw[hI.1 _ _ h] at hx;exact sn hx))⟩
end
section
variable {n:Nat} {Q:aO} {Z Z':H} {s:List (List Int)} {a b c e:Addr} {sh sp es:List (V×V)}
theorem qk{k k' i:Int}{p:List Int}{v:V}(h:Ty s k v)(hk:cj s k (i::p)=some k'):∃ u k₁ x y vs,v=.tup [x,y,.tup vs]∧0≤i∧vs[i.toNat]? = some u∧sub v i=some u∧Ty s k₁ u∧cj s k₁ p=some k':=by
 refine o2x2 (h.step hk) fun k₁ u bl e=>?_
 refine o3x3 (mU bl.sub) fun x y vs e1 e2 e3=>?_
 exact⟨u,k₁,x,y,vs,e1,e2,e3,bl.sub,bl.ty,e⟩
theorem EG{K:aN}{P:bK}(p:List Int):∀ {k k':Int} {v u:V} {U:Env} {whole:List V},Ty s k v→cj s k p=some k'→bF v p=some u→U 7=some v→(∀ U',(∀ i,i≠7→i≠8→U' i=U i)→U' 7=some u→P .next U' Z)→
  FL K [8] (.tup whole) whole [.set (.v 7) (.idx (.idx (.x 7) (.k (.int 2))) (.x 8))] P (aM p) U Z:=by
 induction p with
 |nil=>intro k k' v u U whole hv hk hu h7 q;obtain rfl:=aP hu;exact b8 (q U (fun za za za=>rfl) h7)
 |cons i p ih=>
  intro k k' v u U whole hv hk hu h7 q
  refine o5x2 (qk hv hk) fun w k₁ x y vs e5 q9=>?_;obtain rfl:=e5;refine o0x5 q9 fun hi e3 e4 ht hk=>?_;clear q9
  rw[b9 e4] at hu
  exact bQ rfl (au (ah (ah (ac h7) aj rfl) (ac rfl) (bP hi e3)) (ax ⟨rfl,ih ht hk hu rfl fun U' h h'=>q U' (fun j h7 h8=>(h j h7 h8).trans ((aD h7).trans (aD h8))) h'⟩))
theorem Mw.put(M:Mw s a b c e sh sp es Z)(hn:e≠a∧e≠b∧e≠c){es':List (V×V)}(x:jl e Z Z')(h:Z' e=some (.dict es')):Mw s a b c e sh sp es' Z':=
 ⟨fC (fun o g=>x a o hn.1.symm g) M.i4,fC (fun o g=>x a o hn.1.symm g) M.i3,fC (fun o g=>x a o hn.1.symm g) M.i5,x _ _ hn.2.1.symm M.hb,x _ _ hn.2.2.symm M.hc,h,
  fun k r g=>let ⟨y,e1,e2⟩:=M.sp k r g;⟨y,e1,x _ _ (fun z=>by(rewrite[z] at e2;rw[M.he] at e2);cases e2) e2⟩⟩
theorem Fs(M:Mw s a b c e sh sp es Z)(T:Ms s sh sp)(hn:e≠a∧e≠b∧e≠c)(hk:∀ (r:Nat) q,bd es (ck r q)=true)(hl:es.length≤60000){r:Nat}{p:List Int}{k:Int}{x:V}(hx:Ty s k x)(hp:p.length≤100)
  (q:∀ Z',jl e Z Z'→Z' e=some (.dict (gN s r p x (W s k) es))→Q .none Z'):a8 (n+2) none 58 [.ref a,.int r,.tup (aM p),.int k,x] Q Z:=by
 refine bq zQ rfl (f6 (aC (vs:=[.ref a,.int k]) (ab (ac rfl) (ab (ac rfl) ae)) rfl (zi M T fun y Zq xc hy=>⟨_,be hy,?_⟩)))
 have M1:=M.ext xc
 have hye:y≠e:=fun z=>by(rewrite[z] at hy;rw[M1.he] at hy);cases hy
 have wl:=lh T.ok k
 refine(?_:∀ (l:Sp) (es':List (V×V)) (U:Env) (Z':H),(∀ z ∈ l,z ∈ W s k)→es'.length+l.length≤70000→(∀ (r:Nat) q,bd es' (ck r q)=true)→jl e Z Z'→Z' e=some (.dict es')→Z' y=some (.list ((W s k).map eg))→(∀ Z',jl e Z Z'→Z' e=some (.dict (gN s r p x l es'))→Q .none Z')→
  (∀ i,i<5→U i=(bU FJ.ps [.ref a,.int r,.tup (aM p),.int k,x] Env.nil) i)→FL _ _ _ _ _ _ (l.map eg) U Z') (W s k) es _ Zq (fun za h=>h) (by lia) hk xc.off M1.he hy q fun za za=>rfl
 intro l
 induction l with
 |nil=>intro es' U Z' _ _ _ hx he hy q hU;exact b8 (ax (q Z' hx he))
 |cons w l ih=>
  intro es' U Z' hm hl hk hx' he hy q hU
  obtain⟨w,k'⟩:=w
  have M':=M.put hn hx' he
  have hw:=(fV T.ok k w).mp (hm _ (.head _))
  have k1:=iZ (Z:=Z') M'.hb (T.shK k')
  have h0:U 0=some (.ref a):=hU 0 (by decide)
  have h1:U 1=some (.int r):=hU 1 (by decide)
  have h2:U 2=some (.tup (aM p)):=hU 2 (by decide)
  have h4:U 4=some x:=hU 4 (by decide)
  rw[List.length_cons] at hl
  refine bQ rfl ?_
  induction g:aU s k' using Option.casesOn with
  |some row=>
   rw[fM T g] at k1
   refine aq (aL (ac rfl) (ah (ac h0) aj M'.i4) k1) (ax ⟨be hy,ih es' _ Z' (fun z h=>hm z (.tail _ h)) (by lia) hk hx' he hy (fun Z'' o h=>q Z'' o ?_) fun i hi=>?_⟩)
   ·show _=some (O.dict (gN s r p x l _));refine af (aD (by rw[g];exact fun h=>nomatch h)) ?_;exact h
   ·exact(aD (by lia)).trans ((aD (by lia)).trans (hU i hi))
  |none=>
   rw[jo T g] at k1
   refine o1x2 (hx.get w hw) fun u hu za=>?_
   refine az (aL (ac rfl) (ah (ac h0) aj M'.i4) k1) (au (ac h4) ?_)
   refine cg (xs:=aM w) (ac rfl) rfl (EG w hx hw hu rfl fun U' hU' h7=>?_)
   have gt:∀ i,i<7→U' i=(U.set 5 (.tup (aM w))).set 6 (.int k') i:=fun i hi=>(hU' i (by lia) (by lia)).trans (aD (by lia))
   refine dN (u:=.ref e) (k:=ck r (p++w)) (ac h7) (ah (ac ((gt 0 (by decide)).trans h0)) aj M'.i5) (aE (ab (ac ((gt 1 (by decide)).trans h1)) (ab (aA (ac ((gt 2 (by decide)).trans h2)) (ac (gt 5 (by decide))) fun Q q=>⟨?_,by rw[cW] at q;exact q⟩) ae))) (bo he (hk r _) (by delta bL;lia)) (ax (ax ⟨?_,?_⟩))
   ·(refine af bz ?_;refine af bz ?_);have:=cU T.ok hw;delta bL;lia
   ·exact be (bv hye hy)
   ·refine ih _ _ _ (fun z h=>hm z (.tail _ h)) ?_ (fun r q=>dT (hk r q) rfl) hx'.set aB (bv hye hy) (fun Z'' o h=>q Z'' o ?_) fun i hi=>?_
    ·have:=fG (k:=ck r (p++w)) (v:=u) es';lia
    ·show _=some (O.dict (gN s r p x l _));(refine af (aG g) ?_;refine af hu ?_);exact h
    ·exact(gt i (by lia)).trans ((aD (by lia)).trans ((aD (by lia)).trans (hU i hi)))
theorem Dd(T:Ms s sh sp)(k:Int):∀ (m r:Nat) (p:List Int) (u:V) (Z:H) (Q:aO),rk s k≤m→p.length+rk s k≤100→Mw s a b c e sh sp es Z→(∀ (r:Nat) q,bd es (ck r q)=true)→Ty s k u→(∀ w k',cj s k w=some k'→aU s k'=none→aI es (ck r (p++w))=bF u w)→(∀ Z',bA Z Z'→Q u Z')→a8 (m+1) none 59 [.ref a,.int r,.tup (aM p),.int k] Q Z:=by
 refine ib T.ok (P:=fun k=>∀ (m r:Nat) (p:List Int) (u:V) (Z:H) (Q:aO),rk s k≤m→p.length+rk s k≤100→Mw s a b c e sh sp es Z→(∀ (r:Nat) q,bd es (ck r q)=true)→Ty s k u→(∀ w k',cj s k w=some k'→aU s k'=none→aI es (ck r (p++w))=bF u w)→(∀ Z',bA Z Z'→Q u Z')→a8 (m+1) none 59 [.ref a,.int r,.tup (aM p),.int k] Q Z) (fun k g m r p u Z Q hm hp M hk hu hc q=>?_) (fun k row g ih m r p u Z Q hm hp M hk hu hc q=>?_) k
 ·have k1:=iZ (Z:=Z) M.hb (T.shK k)
  rw[jo T g] at k1
  have e1:=hc [] k rfl g
  rw[List.append_nil] at e1
  exact bq ul rfl (az (aL (ac rfl) (ah (ac rfl) aj M.i4) k1) (aw (ah (ah (ac rfl) aj M.i5) (aE (ab (ac rfl) (ab (ac rfl) ae))) (aF M.he (hk r p) e1)) (q _ bA.refl)))
 ·have k1:=iZ (Z:=Z) M.hb (T.shK k)
  rw[fM T g] at k1
  have i4:bD Z (.ref b) (.int k)=some (.tup (aM row)):=aF M.hb (T.shK k) (fM T g)
  have r3:=(T.ok.row _ _ g).2.2.1
  cases hu with
  |leaf _ t z g' _=>rw[g] at g';exact sn g'
  |node _ row' vs g' h2 h3=>
   cases g.symm.trans g'
   refine bq ul rfl (aq (aL (ac rfl) (ah (ac rfl) aj M.i4) k1) (au (ah (ah (ac rfl) aj M.i4) (ac rfl) i4) ?_))
   refine bO (lA (aR aj (aR (ac rfl) (bN (jz (bN (d4 (n:=row.length) (fun acc Z'=>bA Z Z'∧acc=vs.take acc.length) (aZ (vs:=[.int row.length]) (ab (aZ (vs:=[.tup (aM row)]) (ab (ac rfl) ae) fun Q q=>by rw[← bz] at q;exact q) ae) fun Q q=>⟨_,rfl,⟨by lia,by lia⟩,q⟩) (by lia) ⟨bA.refl,rfl⟩ ?_ (fun v h=>nomatch h) ?_)))))))
   ·intro acc Z' hl hI U' hb R hR
    refine br (aP hb) ?_
    have gk:=List.getElem?_eq_getElem hl
    have gv:=List.getElem?_eq_getElem (h2▸hl:acc.length<vs.length)
    have hr:=f9 T.ok g (List.mem_of_getElem? gk)
    refine aC (vs:=[.ref a,.int r,.tup (aM (p++[(acc.length:Int)])),.int row[acc.length]]) (ab (ac rfl) (ab (ac rfl) (ab (aA (ac rfl) (aE (ab (ac rfl) ae)) fun Q q=>⟨?_,by rw[cW] at q;exact q⟩) (ab (ah (ac rfl) (ac rfl) (bP (Int.natCast_nonneg _) (by rw[Int.toNat_natCast];exact cy gk))) ae)))) rfl ?_
    ·refine af bz ?_;show _+1≤100000;lia
    ·refine aH ((⟨m - 1,by lia⟩:∃ j,m=j+1)) fun m e1=>?_;refine af e1 ?_
     refine ih _ (List.mem_of_getElem? gk) m r _ vs[acc.length] Z' _ (by lia) (by refine af List.length_append ?_;show _+1+_≤100;lia) (M.ext hI.1) hk (h3 _ _ _ gk gv) (fun w k' h h'=>?_) fun Z'' x=>hR _ Z'' ⟨hI.1.trans x,?_⟩
     ·rw[List.append_assoc]
      refine(hc ((acc.length:Int)::w) k' ?_ h').trans ?_
      ·show(match aU s k with | some r=>if 0≤(acc.length:Int) then(match r[(acc.length:Int).toNat]? with | some k'=>cj s k' w | none=>none) else none | none=>none)=some k'
       refine af g ?_;skip;(refine ak (aG (Int.natCast_nonneg _)) ?_;rewrite[Int.toNat_natCast];refine af gk ?_);exact h
      ·exact b9 ((aG (Int.natCast_nonneg _)).trans (by rw[Int.toNat_natCast];exact gv))
     ·refine af List.length_append ?_
      show _=vs.take (acc.length+1)
      (refine af List.take_succ ?_;refine af gv ?_;refine br hI.2 ?_);rfl
   ·intro acc Z' hl hI x hx
    have:acc=vs:=by(refine ak (hI.2) ?_;refine af hl ?_;refine br h2 ?_;(refine ak (List.take_length) ?_;with_reducible rfl))
    refine af this ?_
    exact⟨_,aB,q _ (hI.1.set (by induction h:Z x using Option.casesOn with | none=>rfl | some o=>rw[hI.1 _ _ h] at hx;exact sn hx))⟩
theorem Fq(M:Mw s a b c e sh sp es Z)(T:Ms s sh sp)(hk:∀ (r:Nat) q,bd es (ck r q)=true){r:Nat}{p:List Int}{k:Int}{u:V}(hu:Ty s k u)(hp:p.length≤100)(hc:∀ w k',cj s k w=some k'→aU s k'=none→aI es (ck r (p++w))=bF u w)
  (q:∀ x Z',bA Z Z'→Z x=none→Z' x=some (.list (aM (dK s k u)))→Q (.ref x) Z'):a8 (n+2) none 60 [.ref a,.int r,.tup (aM p),.int k] Q Z:=by
 refine bq zP rfl (aW (bx ae fun z hz=>?_))
 have M0:=M.ext (bA.refl.set (o:=.list []) hz)
 refine f6 (aC (vs:=[.ref a,.int k]) (ab (ac rfl) (ab (ac rfl) ae)) rfl (zi M0 T fun y Zq xc hy=>⟨_,be hy,?_⟩))
 by_cases hyz:y=z
 ·have:=xc z _ aB;(rewrite[← hyz] at this;rw[hy] at this)
  have wp:=uI (s:=s) (k:=k)
  have:=congrArg List.length (O.list.inj (aP this))
  rw[List.length_map] at this
  rw[this] at wp;cases wp
 have wl:=lh T.ok k
 refine(?_:∀ (l:Sp) (acc:List Int) (U:Env) (Z':H),(∀ z ∈ l,z ∈ W s k)→acc.length+l.length≤5000→bA Z Z'→Z' z=some (.list (aM acc))→Z' y=some (.list ((W s k).map eg))→(∀ Z',bA Z Z'→Z' z=some (.list (aM (acc++l.filterMap fun x=>ji x.2 (bF u x.1))))→Q (.ref z) Z')→
  (∀ i,i<4→U i=(bU FI.ps [.ref a,.int r,.tup (aM p),.int k] Env.nil) i)→U 4=some (.ref z)→FL _ _ _ _ _ _ (l.map eg) U Z') (W s k) [] _ Zq (fun za h=>h) (by show 0+_≤_;lia) ((bA.refl.set hz).trans xc) (xc _ _ aB) hy (fun Z' x h=>q z Z' x hz h) (fun i hi=>aD (by lia)) rfl
 intro l
 induction l with
 |nil=>intro acc U Z' _ _ hx he hy q hU h4;exact b8 (aw (ac h4) (q Z' hx (by(refine af List.filterMap_nil ?_;rw[List.append_nil]);exact he)))
 |cons w l ih=>
  intro acc U Z' hm hl hx' he hy q hU h4
  obtain⟨w,k'⟩:=w
  have M':=M.ext hx'
  have hw:=(fV T.ok k w).mp (hm _ (.head _))
  have h0:U 0=some (.ref a):=hU 0 (by decide)
  have h1:U 1=some (.int r):=hU 1 (by decide)
  have h2:U 2=some (.tup (aM p)):=hU 2 (by decide)
  rw[List.length_cons] at hl
  refine bQ rfl ?_
  have same:(∀ v,ji k' (bF u w)≠some v)→∀ U',(∀ i,i<5→U' i=U i)→FL (a8 (n+1)) [5,6] (.ref y) ((W s k).map eg) _ _ (l.map eg) U' Z':=fun hn U' hU'=>ih acc U' Z' (fun z h=>hm z (.tail _ h)) (by lia) hx' he hy (fun Z'' o h=>q Z'' o (by
    refine af List.filterMap_cons ?_
    cases g:ji k' (bF u w) with
    |none=>exact h
    |some v=>exact absurd g (hn v))) (fun i hi=>(hU' i (by lia)).trans (hU i hi)) ((hU' 4 (by decide)).trans h4)
  by_cases rZ:k'=12
  ·subst rZ
   have g:aU s 12=none:=jG (by decide)
   refine o1x2 (hu.get w hw) fun v hv tv=>?_
   cases tv with
   |node _ _ _ g' _ _=>rw[g] at g';exact ns g'
   |leaf _ t z' _ lo=>
    have hcell:=hc w 12 hw g
    rw[hv] at hcell
    have hr:ji 12 (bF u w)=if 0<z' then some z' else none:=by refine af hv ?_;exact aG rfl
    refine az (ai (ao (ac rfl) an) rfl) (au (v:=.int z') (ah (u:=.tup [.int t,.int z']) (ah (ah (ac h0) aj M'.i5) (aE (vs:=[.int r,.tup (aM (p++w))]) (ab (ac h1) (ab (aA (ac h2) (ac rfl) fun Q q=>⟨?_,by rw[cW] at q;exact q⟩) ae))) (aF M'.he (hk r _) hcell)) aj rfl) ?_)
    ·(refine af bz ?_;refine af bz ?_);have:=cU T.ok hw;show p.length+w.length≤bL;delta bL;lia
    ·by_cases zp:0<z'
     ·refine az (ai (ao (ac rfl) cr) (bR zp)) (bH (ac h4) he (ac rfl) (by refine af bz ?_;delta bL;lia) (ax (ax (ax ⟨be (bv hyz hy),ih (acc++[z']) _ _ (fun z h=>hm z (.tail _ h)) (by refine af List.length_append ?_;show _+1+_≤_;lia) (hx'.set hz) (by rw[cW];exact aB) (bv hyz hy) (fun Z'' o h=>q Z'' o ?_) (fun i hi=>?_) h4⟩))))
      ·(refine af List.filterMap_cons ?_;refine af hr ?_;refine af (aG zp) ?_);rw[List.append_assoc] at h;exact h
      ·exact(aD (by lia)).trans ((aD (by lia)).trans ((aD (by lia)).trans (hU i hi)))
     ·refine aq (ai (ao (ac rfl) cr) (bG zp)) (ax (ax ⟨be hy,same (fun v h=>?_) _ fun i hi=>?_⟩))
      ·(rewrite[hr] at h;rw[aD zp] at h);exact ns h
      ·exact(aD (by lia)).trans ((aD (by lia)).trans (aD (by lia)))
  ·refine aq (ai (ao (ac rfl) an) (bG rZ)) (ax ⟨be hy,same (fun v h=>?_) _ fun i hi=>?_⟩)
   ·unfold ji at h;rw[aD rZ] at h;exact ns h
   ·exact(aD (by lia)).trans (aD (by lia))
end
section
variable {K:aN} {U:Env} {Z:H} {Q:bK} {P:aO} {r:List C}
theorem jB{o i e:E}(h:WE K e U (fun v Zq=>WE K o U (fun a Zr=>WE K i U (fun k Za=>∃ Z',eS Za a k v=some Z'∧SS K r U Q Z') Zr) Zq) Z):SS K (.set (.idx o i) e::r) U Q Z:=by
 simp only[fR,mW] at *;exact h
theorem C8{e:E}{u:V}(h:Ev K U Z e u)(q:P u Z):WE K e U P Z:=bj h q
end
noncomputable def upd(f:Nat→V)(r:Nat)(x:V):Nat→V:=fun j=>if j=r then x else f j
noncomputable def oj(d:Dt):Nat→Bool
 |3=>decide (0<d.g0) | 4=>decide (0<d.g1) | 5=>decide (0<d.g1) | 6=>decide (0<d.g2) | _=>false
noncomputable def xw(d:Dt):Nat→Int
 |3=>d.g0 | 4=>d.g1 | 5=>d.g1 | _=>d.g2
noncomputable def uh(d:Dt)(r:Nat):V:=.int (e9 r / 2 ^ d.bits.toNat)
noncomputable def mJ(d:Dt)(r:Nat)(x:V)(l:List (V×V)):List (V×V):=if oj d r=true∧dK d.s (bt r) x≠[] then bI l (uh d r) (.int 1) else l
noncomputable def Dt.dr(d:Dt):Dt:={ d with at_:=d.at_+1 }
noncomputable def Dt.wr(d:Dt)(r:Nat)(x:V):Dt:={ d with v:=upd d.v r x,hc:=mJ d r x d.hc }
noncomputable def pS:Nat→Nat
 |3=>19 | 4=>20 | 5=>20 | _=>21
noncomputable def sl(d:Dt):Nat→List V
 |3=>[.tup [.int 4,.int 24],d.v 3] | 4=>[d.v 4,d.v 5] | 5=>[d.v 4,d.v 5] | _=>[d.v 6]
section
variable {n:Nat} {Q:aO} {Z:H} {A:Nat→Addr} {d:Dt}
theorem Ft{a0 a1:Addr}{at_:Nat}{nums:List Int}{cnt:Int}(h0:Z a0=some (.dict [(.sym 202,.ref a1),(.sym 118,.int at_)]))(h1:Z a1=some (.list (aM nums)))(hc:0<cnt)
  (q:∀ i:Nat,(i:Int)<cnt→Q (.int i) (Z.set a0 (.dict [(.sym 202,.ref a1),(.sym 118,.int (at_+1:Nat))]))):a8 (n+1) none 53 [.ref a0,.int cnt] Q Z:=by
 have hne:a1≠a0:=fun e=>by(rewrite[e] at h1;rw[h0] at h1);cases h1
 refine bq zU rfl (au (ah (ac rfl) aj (aF h0 rfl rfl)) (dN (v:=.int (at_+1:Nat)) (aA (ac rfl) aj fun Q q=>q) (ac rfl) aj (bo h0 rfl (show 2<bL by decide)) ?_))
 have e1:bD (Z.set a0 (.dict [(.sym 202,.ref a1),(.sym 118,.int (at_+1:Nat))])) (.ref a0) (.sym 202)=some (.ref a1):=aF aB rfl rfl
 by_cases hl:at_<nums.length
 ·have b1:0≤nums[at_] % cnt:=Int.emod_nonneg _ (by lia)
  have b2:nums[at_] % cnt<cnt:=Int.emod_lt_of_pos _ hc
  refine az (ai (aL (ac rfl) (aZ (vs:=[.ref a1]) (ab (ah (ac rfl) aj e1) ae) (bJ (bv hne h1))) aV) (bR (by refine af bz ?_;lia))) (aw (v:=.int (nums[at_] % cnt)) (aA (u:=.int nums[at_]) (v:=.int cnt) (ah (ah (ac rfl) aj e1) (ac rfl) (aJ (bv hne h1) (Int.natCast_nonneg _) (by rw[Int.toNat_natCast];exact cy (List.getElem?_eq_getElem hl)))) (ac rfl) fun Q q=>⟨hc,q⟩) ?_)
  have:=q (nums[at_] % cnt).toNat (by lia)
  rw[Int.toNat_of_nonneg b1] at this
  exact this
 ·exact aq (ai (aL (ac rfl) (aZ (vs:=[.ref a1]) (ab (ah (ac rfl) aj e1) ae) (bJ (bv hne h1))) aV) (bG (by refine af bz ?_;lia))) (aw aj (q 0 hc))
theorem iT(hW:Wd A d Z){cnt:Int}(hc:0<cnt)(q:∀ i:Nat,(i:Int)<cnt→∀ Z',Wd A d.dr Z'→jl (A 0) Z Z'→Q (.int i) Z'):a8 (n+1) none 53 [.ref (A 0),.int cnt] Q Z:=
 Ft (hW.o 0 rfl) (hW.o 1 rfl) hc fun i hi=>q i hi _ (hW.upd (d':=d.dr) (i:=0) rfl rfl rfl rfl) (bA.refl.off.set)
theorem Ok.dr(hd:Ok d):Ok d.dr:={ hd with }
theorem G5(hW:Wd A d Z)(this:0≤d.bits∧d.bits<4){w:Int}(h:0≤w):Cv (a8 (n+1)) none 26 [.ref (A 32),.int w] Z (.int (w / 2 ^ d.bits.toNat)):=by
 refine bh Ai rfl fun za q=>?_
 exact aw (aA (ac rfl) (bf rfl (hW.f 17 rfl)) fun Q q=>⟨⟨h,this.1,by lia⟩,q⟩) q
theorem G7(hW:Wd A d Z){r:Nat}(hr:dC r):Cv (a8 (n+1)) none 22 [.ref (A (gj r)),.int (ic r)] Z (.int (e9 r)):=by
 refine bh Am rfl fun za q=>?_
 rcases hr with rfl | rfl | rfl | rfl
 ·(apply aw;apply aA;apply aA;apply av;exact ac rfl;exact hW.f 30 rfl;exact aj;exact fun za q=>q;exact ac rfl;exact fun za q=>q)
  exact q
 ·(apply aw;apply aA;apply aA;apply av;exact ac rfl;exact hW.f 35 rfl;exact aj;exact fun za q=>q;exact ac rfl;exact fun za q=>q)
  exact q
 ·(apply aw;apply aA;apply aA;apply av;exact ac rfl;exact hW.f 35 rfl;exact aj;exact fun za q=>q;exact ac rfl;exact fun za q=>q)
  exact q
 ·(apply aw;apply aA;apply aA;apply av;exact ac rfl;exact hW.f 40 rfl;exact aj;exact fun za q=>q;exact ac rfl;exact fun za q=>q)
  exact q
theorem jF(hW:Wd A d Z){r:Nat}(hr:dC r):cR Z (.ref (A (gj r))) 113=some (.ref (A (pS r)))∧cR Z (.ref (A (gj r))) 114=some (.int (xw d r)):=by
 refine xC hr ?_ ?_ ?_ ?_;all_goals clear hr
 ·exact⟨hW.f 32 rfl,hW.f 33 rfl⟩
 ·exact⟨hW.f 37 rfl,hW.f 38 rfl⟩
 ·exact⟨hW.f 37 rfl,hW.f 38 rfl⟩
 ·exact⟨hW.f 42 rfl,hW.f 43 rfl⟩
theorem nP{r:Nat}(hr:dC r)(x:V):(objs A d)[pS r]? = some (.list (sl d r))∧objs A { d with v:=upd d.v r x }=(objs A d).set (pS r) (.list ((sl d r).set (ic r).toNat x))∧0≤ic r∧ic r<(sl d r).length∧0≤e9 r∧oj d r=decide (0<xw d r)∧(sl d r)[(ic r).toNat]? = some (d.v r):=by
 refine xC hr ?_ ?_ ?_ ?_;all_goals clear hr
 ·exact⟨rfl,rfl,by decide,(by decide:(1:Int)<2),by decide,rfl,rfl⟩
 ·exact⟨rfl,rfl,by decide,(by decide:(0:Int)<2),by decide,rfl,rfl⟩
 ·exact⟨rfl,rfl,by decide,(by decide:(1:Int)<2),by decide,rfl,rfl⟩
 ·exact⟨rfl,rfl,by decide,(by decide:(0:Int)<1),by decide,rfl,rfl⟩
theorem G4(hW:Wd A d Z)(hd:Ok d){r:Nat}(hr:dC r){x:V}(hx:Ty d.s (bt r) x)(hl:d.hc.length≤1000)(q:∀ Z',Wd A (d.wr r x) Z'→Q .none Z'):a8 (n+3) none 27 [.ref (A 32),.ref (A (gj r)),.int (ic r),x] Q Z:=by
 refine o0x2 (jF hW hr) fun s1 s2=>?_
 refine o0x7 (nP (A:=A) (d:=d) hr x) fun u1 u2 u3 u4 u5 u6 za=>?_
 refine bq Ah rfl (dN (ac rfl) (bf rfl s1) (ac rfl) (fN (hW.o _ u1) ⟨u3,u4⟩) ?_)
 have W1:=hW.upd (d':={ d with v:=upd d.v r x }) u1 u2 rfl rfl
 have s2':cR _ _ _=some (V.int (xw d r)):=(jF W1 hr).2
 by_cases g:0<xw d r
 ·refine dJ (jx (kG (ai (ao (bf rfl s2') cr) (bR g)) ⟨fun za=>fZ (eF (aC (vs:=[x]) (ab (ac rfl) ae) rfl (G6 hd.sh hx (Nat.le_trans (lh hd.sh _) (by decide)) fun Z2 x2=>?_))),fun h=>nomatch h⟩))
  have W2:=W1.ext x2
  by_cases hr0:dK d.s (bt r) x≠[]
  ·have e:d.wr r x={ d with v:=upd d.v r x,hc:=bI d.hc (uh d r) (.int 1) }:=by
    delta Dt.wr mJ;(refine af (aG ⟨u6.trans (bR g),hr0⟩) ?_;with_reducible rfl)
   rw[e] at q
   refine af (bR hr0) ?_
   refine⟨fun za=>?_,fun h=>nomatch h⟩
   refine dN (v:=.int 1) aj (bf rfl (W2.f 16 rfl)) (ay (vs:=[.ref (A 32),.int (e9 r)]) (ab (ac rfl) (ab (ay (vs:=[.ref (A (gj r)),.int (ic r)]) (ab (ac rfl) (ab (ac rfl) ae)) rfl (G7 W2 hr)) ae)) rfl (G5 W2 hd.bits u5)) (bo (W2.o 18 rfl) (by refine af hd.cc ?_;exact hd.csK _) (by skip;exact Nat.lt_of_le_of_lt hl (by decide))) (ax (ax (q _ ?_)))
   exact W2.upd (d':={ d with v:=upd d.v r x,hc:=bI d.hc (uh d r) (.int 1) }) (i:=18) rfl rfl rfl rfl
  ·have e:d.wr r x={ d with v:=upd d.v r x }:=by
    delta Dt.wr mJ;(refine af (aD fun h=>hr0 h.2) ?_;with_reducible rfl)
   rw[e] at q
   refine af (bG hr0) ?_
   exact⟨fun h=>(nomatch h),fun za=>ax (ax (q _ W2))⟩
 ·have e:d.wr r x={ d with v:=upd d.v r x }:=by
   delta Dt.wr mJ;(refine af (aD fun h=>g (of_decide_eq_true (u6.symm.trans h.1))) ?_;with_reducible rfl)
  rw[e] at q
  exact aq (bc (d5 (ai (ao (bf rfl s2') cr) (bG g)))) (ax (q _ W1))
end
noncomputable def so(d:Dt):Nat→List V
 |0=>[d.v 0,.tup [.int 1,.int 55]] | 1=>[d.v 1,.tup [.int 1,.int 56]] | 2=>[.tup [.int 1,.int 57],d.v 2] | _=>[d.v 7]
section
variable {n:Nat} {Q:aO} {Z:H} {A:Nat→Addr} {d:Dt}
theorem vH{r:Nat}(hr:gC r)(x:V):(objs A d)[lJ r]? = some (.list (so d r))∧objs A { d with v:=upd d.v r x }=(objs A d).set (lJ r) (.list ((so d r).set (lK r).toNat x))∧0≤lK r∧lK r<(so d r).length∧oj d r=false:=by
 refine xC hr ?_ ?_ ?_ ?_;all_goals clear hr
 ·exact⟨rfl,rfl,by decide,(by decide:(0:Int)<2),rfl⟩
 ·exact⟨rfl,rfl,by decide,(by decide:(0:Int)<2),rfl⟩
 ·exact⟨rfl,rfl,by decide,(by decide:(1:Int)<2),rfl⟩
 ·exact⟨rfl,rfl,by decide,(by decide:(0:Int)<1),rfl⟩
theorem pZ{r:Nat}(hr:dC r)(p:List Int):pl p r=uU (e9 r) p∧r<8:=by
 refine xC hr ?_ ?_ ?_ ?_;all_goals clear hr<;>exact⟨rfl,by decide⟩
theorem yr{r:Nat}(hr:gC r)(p:List Int):(∃ k h i,k≠3∧pl p r=ot k h i p)∧r<8:=by
 refine xC hr ?_ ?_ ?_ ?_;all_goals clear hr<;>exact⟨⟨_,_,_,by decide,rfl⟩,by decide⟩
theorem sZ{r:Nat}(hr:r<8):dC r∨gC r:=by delta dC gC;lia
theorem jX{s:List (List Int)}{k:Int}{v:V}(h:Ty s k v):yX v=some false:=by induction h using Ty.casesOn<;>rfl
theorem G3(hW:Wd A d Z)(hd:Ok d){r:Nat}(hr:dC r){p:List Int}{k:Int}{x:V}(hk:cj d.s (bt r) p=some k)(hx:Ty d.s k x)(hl:d.hc.length≤1000)
  (q:∀ Z',Wd A (d.wr r (cM (d.v r) p x)) Z'→Q (.bool true) Z'):a8 (n+4) none 28 [.ref (A 32),.int (e9 r),.tup (aM p),x] Q Z:=by
 refine o0x2 (jF hW hr) fun s1 za=>?_
 refine o0x7 (nP (A:=A) (d:=d) hr x) fun u1 za u3 u4 za za u7=>?_
 have hr8:=(pZ hr []).2
 have hv:=hd.ty r hr8
 refine o1x2 (hv.get p hk) fun w hw tw=>?_
 have iw:=jX tw
 have e16:=A7 (n:=n+2) (Z:=Z) hv p
 rw[hw] at e16
 have i1:bD Z (.ref (A (pS r))) (.int (ic r))=some (d.v r):=aJ (hW.o _ u1) u3 u7
 have p7:=cU hd.sh hk
 refine bq Ag rfl ?_
 refine au (ay (vs:=[.ref (A 32),.int (e9 r)]) (by(apply ab;exact ac rfl;apply ab;exact ac rfl;exact ae)) rfl (wM hW hr)) (aq (ai (ao (ac rfl) (bB rfl)) rfl) (au (ay (vs:=[.ref (A (gj r)),.int (e9 r)]) (by(apply ab;exact ac rfl;apply ab;exact ac rfl;exact ae)) rfl (A6 hW hr)) (aq (ai (ao (ac rfl) aV) (bG (Int.not_lt.mpr u3))) ?_)))
 refine aq (ai (ao (ay (vs:=[d.v r,.tup (aM p)]) (ab (ah (bf rfl s1) (ac rfl) i1) (ab (ac rfl) ae)) rfl e16) (bB iw)) rfl) ?_
 refine pN (cC rfl (aR (ac rfl) (aR (ac rfl) (aR (ac rfl) (bN (aC (vs:=[d.v r,.tup (aM p),x]) (ab (ah (bf rfl s1) (ac rfl) i1) (ab (ac rfl) (ab (ac rfl) ae))) rfl (EA hd.sh hv hk (by lia) fun Z' x'=>?_)))))))
 exact G4 (hW.ext x') hd hr (hx.put p hv hk) hl fun Z'' W'=>aw aj (q _ W')
theorem GX(hW:Wd A d Z)(hd:Ok d){r:Nat}(hr:r<8){p:List Int}{k:Int}{x:V}(hk:cj d.s (bt r) p=some k)(hx:Ty d.s k x)(hl:d.hc.length≤1000)
  (q:∀ Z',Wd A (d.wr r (cM (d.v r) p x)) Z'→Q (.bool true) Z'):a8 (n+5) none 40 [.ref (A 31),pl p r,x] Q Z:=by
 have hv:=hd.ty r hr
 refine o1x2 (hv.get p hk) fun w hw tw=>?_
 have iw:=jX tw
 have ir:=jX hv
 have p7:=cU hd.sh hk
 have e16:=A7 (n:=n+3) (Z:=Z) hv p
 rw[hw] at e16
 refine bq ut rfl (au (ay (vs:=[.ref (A 31),pl p r]) (ab (ac rfl) (ab (ac rfl) ae)) rfl (Ei hW hr)) ?_)
 refine aq (bc (aY (ai (ao (ac rfl) (bB ir)) rfl) (ba (ai (ao (ay (vs:=[d.v r,.tup (aM p)]) (ab (ac rfl) (ab (ay (vs:=[pl p r]) (ab (ac rfl) ae) rfl jq) ae)) rfl e16) (bB iw)) rfl)))) ?_
 refine Or.elim (sZ hr) (fun h=>?_) (fun h=>?_)
 ·have e:=(pZ h p).1
  refine af e ?_
  exact az (ai (ao (aQ rfl rfl) an) rfl) (bO (aC (vs:=[.ref (A 32),.int (e9 r),.tup (aM p),x]) (ab (bf rfl (hW.f 11 rfl)) (ab (aQ rfl rfl) (ab (aQ rfl rfl) (ab (ac rfl) ae)))) rfl (G3 hW hd h hk hx hl q)))
 ·have e37:=rE (n:=n+3) (Z:=Z) h (p:=p)
  have e36:=Cl (n:=n+3) hW h (p:=p)
  refine o3x2 ((yr h p).1) fun kk hh ii k3 e=>?_
  rw[e] at e36 e37 ⊢
  refine o0x5 (vH (A:=A) (d:=d) h (cM (d.v r) p x)) fun u1 u2 u3 u4 u5=>?_
  have ew:d.wr r (cM (d.v r) p x)={ d with v:=upd d.v r (cM (d.v r) p x) }:=by
   delta Dt.wr mJ;(refine af (aD fun h=>Bool.false_ne_true (u5.symm.trans h.1)) ?_;with_reducible rfl)
  rw[ew] at q
  refine aq (ai (ao (aQ rfl rfl) an) (bG k3)) (au (ay (vs:=[.ref (A 31),ot kk hh ii p]) (ab (ac rfl) (ab (ac rfl) ae)) rfl e36) ?_)
  refine jB (aC (vs:=[d.v r,.tup (aM p),x]) (ab (ac rfl) (ab (aQ rfl rfl) (ab (ac rfl) ae))) rfl (EA hd.sh hv hk (by lia) fun Z' x'=>?_))
  have W':=hW.ext x'
  exact bj (ac rfl) (bj (ay (vs:=[ot kk hh ii p]) (ab (ac rfl) ae) rfl (e▸rE h)) ⟨_,fN (W'.o _ u1) ⟨u3,u4⟩,aw aj (q _ (W'.upd u1 u2 rfl rfl))⟩)
theorem Eh(hW:Wd A d Z)(hd:Ok d){r:Nat}(hr:r<8){p:List Int}{x:V}(hk:bF (d.v r) p=none):Cv (a8 (n+4)) none 40 [.ref (A 31),pl p r,x] Z (.bool false):=by
 have hv:=hd.ty r hr
 have ir:=jX hv
 have e16:=A7 (n:=n+2) (Z:=Z) hv p
 rw[hk] at e16
 refine bh ut rfl fun P q=>(au (ay (vs:=[.ref (A 31),pl p r]) (ab (ac rfl) (ab (ac rfl) ae)) rfl (Ei hW hr)) ?_)
 exact az (bc (aY (ai (ao (ac rfl) (bB ir)) rfl) (ba (ai (ao (ay (vs:=[d.v r,.tup (aM p)]) (ab (ac rfl) (ab (ay (vs:=[pl p r]) (ab (ac rfl) ae) rfl jq) ae)) rfl e16) (bB rfl)) rfl)))) (aw aj q)
end
noncomputable def Dt.lw(d:Dt)(r:Nat)(p:List Int)(k:Int)(x:V):Dt:={ d with
 v:=upd d.v r (cM (d.v r) p x),hc:=mJ d r (cM (d.v r) p x) d.hc,es:=gN d.s r p x (W d.s k) d.es,cs:=mJ d r (cM (d.v r) p x) d.cs }
noncomputable def Nx(d d':Dt):Prop:=d'.s=d.s∧d'.nums=d.nums∧d'.cs.length≤d.cs.length+1
section
variable {n:Nat} {Q:aO} {Z:H} {A:Nat→Addr} {d:Dt}
theorem Wd.mw(h:Wd A d Z):Mw d.s (A 2) (A 3) (A 4) (A 5) d.sh d.sp d.es Z:=
 ⟨aF (h.o 2 rfl) rfl rfl,aF (h.o 2 rfl) rfl rfl,aF (h.o 2 rfl) rfl rfl,h.o 3 rfl,h.o 4 rfl,h.o 5 rfl,fun k r e=>let ⟨a,b,c,_⟩:=h.sp k r e;⟨a,b,c⟩⟩
theorem Ok.ms(hd:Ok d):Ms d.s d.sh d.sp:=⟨hd.sh,hd.shD,hd.shK,hd.spK,hd.spN⟩
theorem Wd.off5(h:Wd A d Z):A 5≠A 2∧A 5≠A 3∧A 5≠A 4:=
 ⟨fun e=>absurd (h.inj 5 2 (by decide) (by decide) e) (by decide),fun e=>absurd (h.inj 5 3 (by decide) (by decide) e) (by decide),fun e=>absurd (h.inj 5 4 (by decide) (by decide) e) (by decide)⟩
theorem w8{r:Nat}(hr:r<8):bD Z (.tup [.bool false,.bool false,.bool false,.bool (decide (0<d.g0)),.bool (decide (0<d.g1)),.bool (decide (0<d.g1)),.bool (decide (0<d.g2)),.bool false]) (.int r)=some (.bool (oj d r)):=by
 refine bP (Int.natCast_nonneg _) ?_
 rw[Int.toNat_natCast]
 exact fF (P:=fun r=>[V.bool false,.bool false,.bool false,.bool (decide (0<d.g0)),.bool (decide (0<d.g1)),.bool (decide (0<d.g1)),.bool (decide (0<d.g2)),.bool false][r]? = some (.bool (oj d r))) rfl rfl rfl rfl rfl rfl rfl rfl hr
theorem dZ{r:Nat}(hr:r<8):bD Z (.tup (aM [18,19,18,19,19,19,18,18])) (.int r)=some (.int (bt r)):=by
 refine bP (Int.natCast_nonneg _) ?_
 rw[Int.toNat_natCast]
 exact fF (P:=fun r=>(aM [18,19,18,19,19,19,18,18])[r]? = some (.int (bt r))) rfl rfl rfl rfl rfl rfl rfl rfl hr
theorem w6{r:Nat}(h:oj d r=true):dC r:=by
 delta dC
 unfold oj at h
 split at h<;>first | decide | exact Bool.noConfusion h
theorem u8{r:Nat}(hr:dC r):bD Z (.tup (aM [0,0,0,19,22,23,26,0])) (.int r)=some (.int (e9 r)):=by
 refine xC hr ?_ ?_ ?_ ?_;all_goals clear hr<;>rfl
theorem Ok.lw(hd:Ok d){r:Nat}(hr:r<8){p:List Int}{k:Int}{x:V}(hk:cj d.s (bt r) p=some k)(hx:Ty d.s k x):Ok (d.lw r p k x):=by
 have hv:=hd.ty r hr
 have csd:∀ l:List (V×V),(∀ i:Int,bd l (.int i)=true)→∀ i:Int,bd (mJ d r (cM (d.v r) p x) l) (.int i)=true:=fun l h i=>by
  delta mJ;split
  ·exact dT (h i) rfl
  ·exact h i
 refine{ hd with ty:=fun j hj=>?_,esK:=fun r' q=>ni _ _ (hd.esK r' q),esL:=?_,csK:=csd _ hd.csK,csI:=?_,cell:=fun r' hr' q k' h g=>?_,cc:=congrArg (mJ d r (cM (d.v r) p x)) hd.cc }
 ·show Ty d.s (bt j) (if j=r then _ else _)
  by_cases c:j=r
  ·refine af c ?_;refine af (aG rfl) ?_;exact hx.put p hv hk
  ·refine af (aD c) ?_;exact hd.ty j hj
 ·show(gN _ _ _ _ _ _).length≤_
  rw[nh _ _ fun y hy hl=>?_]
  ·exact hd.esL
  ·have hw:=(fV hd.sh k y.1).mp hy
   refine o1x2 (hv.get (p++y.1) ((cV _ _ hk).trans hw)) fun u hu za=>?_
   (refine af (hd.cell r hr _ _ ((cV _ _ hk).trans hw) hl) ?_;refine af hu ?_);exact fun h=>nomatch h
 ·have key:∀ (l:List (V×V)) (i:Int),(∀ e ∈ l,∃ i,e=(.int i,.int 1))→∀ e ∈ bI l (.int i) (.int 1),∃ i,e=(V.int i,V.int 1):=by
   intro l i
   induction l with
   |nil=>intro _ e he;refine af (List.mem_singleton.mp he) ?_;exact⟨i,rfl⟩
   |cons y l ih=>
    intro h e he
    unfold bI at he
    refine aH (h y (.head _)) fun j hj=>?_
    by_cases c:dH y.1 (.int i)=true
    ·rw[aG c] at he
     rcases List.mem_cons.mp he with e1 | e1
     ·(refine af e1 ?_;refine af hj ?_);exact⟨j,rfl⟩
     ·exact h e (.tail _ e1)
    ·rw[aD c] at he
     rcases List.mem_cons.mp he with e1 | e1
     ·(refine af e1 ?_;refine af hj ?_);exact⟨j,rfl⟩
     ·exact ih (fun e he=>h e (.tail _ he)) e e1
  show ∀ e ∈ mJ d r _ d.cs,_
  delta mJ;split
  ·exact key _ _ hd.csI
  ·exact hd.csI
 ·exact pn hd.sh (r:=r) (p:=p) (v:=d.v r) hv hx hk (fun e=>e▸h) g (hd.cell r' hr' q k' h g) (fun e=>e▸rfl)
theorem Ec(hW:Wd A d Z)(hd:Ok d){r:Nat}(hr:r<8){p:List Int}{k:Int}{x:V}(hk:cj d.s (bt r) p=some k)(hx:Ty d.s k x)(hl:d.cs.length≤1000)
  (q:∀ d' Z',Wd A d' Z'→Ok d'→Nx d d'→d'.at_=d.at_→Q (.bool true) Z'):a8 (n+6) none 62 [.ref (A 2),.int r,.tup (aM p),.int k,x] Q Z:=by
 have p7:=cU hd.sh hk
 have hd':=hd.lw hr hk hx
 have fin:∀ Z',Wd A (d.lw r p k x) Z'→Q (.bool true) Z':=fun Z' h=>q _ Z' h hd' ⟨rfl,rfl,by
  show(mJ d r _ d.cs).length≤_
  delta mJ;split
  ·exact fG _
  ·exact Nat.le_succ _⟩ rfl
 refine bq zN rfl (aW (aC (vs:=[.ref (A 31),pl p r,x]) ?_ rfl (GX hW hd hr hk hx (hd.cc▸hl) fun Z1 W1=>?_)))
 ·exact ab (av (ah (ac rfl) aj (aF (hW.o 2 rfl) rfl rfl)) (hW.f 9 rfl)) (ab (ay (vs:=[.ref (A 2),.int r,.tup (aM p)]) (ab (ac rfl) (ab (ac rfl) (ab (ac rfl) ae))) rfl (zh hW hr (by lia))) (ab (ac rfl) ae))
 refine pN (aC (vs:=[.ref (A 2),.int r,.tup (aM p),.int k,x]) (ab (ac rfl) (ab (ac rfl) (ab (ac rfl) (ab (ac rfl) (ab (ac rfl) ae))))) rfl (Fs W1.mw hd.ms W1.off5 hd.esK (Nat.le_trans hd.esL (by decide)) hx (by lia) fun Z2 x2 h2=>?_))
 have W2:Wd A { d with v:=upd d.v r (cM (d.v r) p x),hc:=mJ d r (cM (d.v r) p x) d.hc,es:=gN d.s r p x (W d.s k) d.es } Z2:=W1.off (i:=5) rfl rfl rfl rfl x2 h2
 have ret:∀ Z' U',U' 5=some (.bool true)→Wd A (d.lw r p k x) Z'→SS (a8 (n+5)) [.ret (.bl .And [.call (.k (.bi 5)) [.x 5,.k (.bi 6)],.x 5])] U' (fq Q) Z':=fun Z' U' h5 h=>aw (nU (bZ (t6 (vs:=[.bool true,.bi 6]) (ab (ac h5) (ab aj ae)) fun Q q=>⟨_,rfl,q⟩) (ba (Cm h5)))) (fin Z' h)
 have ag:=w8 (d:=d) (Z:=Z2) hr
 induction ha:oj d r using Bool.casesOn with
 |false=>
  rw[ha] at ag
  have e:∀ l,mJ d r (cM (d.v r) p x) l=l:=fun l=>by skip;(refine ak (aD fun h=>by rw[ha] at h;exact ff h.1) ?_;with_reducible rfl)
  refine aq (bc (d5 (t3 (ah (ac rfl) aj (aF (W2.o 2 rfl) rfl rfl)) (ac rfl) ag))) (ret _ _ rfl ?_)
  delta Dt.lw;refine af (e d.cs) ?_;exact W2
 |true=>
  rw[ha] at ag
  have hon:=w6 ha
  refine dJ (jx (kG (t3 (ah (ac rfl) aj (aF (W2.o 2 rfl) rfl rfl)) (ac rfl) ag) ⟨fun za=>fZ (eN (jz (bN (aC (vs:=[.ref (A 2),.int r,.tup (aM []),.int (bt r)]) ?_ rfl (Fq W2.mw hd.ms hd'.esK (hd'.ty r hr) (Nat.zero_le _) (fun w k' h g=>hd'.cell r hr w k' h g) fun y Z3 x3 hy e3=>⟨_,e3,bj aj ⟨_,cr,?_⟩⟩))))),fun h=>nomatch h⟩))
  ·exact ab (ac rfl) (ab (ac rfl) (ab (aE ae) (ab (ah (ah (ac rfl) aj (aF (W2.o 2 rfl) rfl rfl)) (ac rfl) (dZ hr)) ae)))
  ·have W3:=W2.ext x3
   have ev:(d.lw r p k x).v r=cM (d.v r) p x:=aG rfl
   (refine af ev ?_;refine af bz ?_)
   have bb:=hd.bits
   refine⟨fun h=>?_,fun h=>?_⟩
   ·have hne:dK d.s (bt r) (cM (d.v r) p x)≠[]:=fun z=>by
     have:(0:Int)<((dK d.s (bt r) (cM (d.v r) p x)).length:Nat):=of_decide_eq_true h
     rw[z] at this;cases this
    have e:mJ d r (cM (d.v r) p x) d.cs=bI d.cs (uh d r) (.int 1):=by skip;(refine ak (aG ⟨ha,hne⟩) ?_;with_reducible rfl)
    have hw0:0≤e9 r:=by refine xC hon ?_ ?_ ?_ ?_;all_goals clear hon<;>decide
    have b2:(0:Int)<2 ^ d.bits.toNat∧(2:Int) ^ d.bits.toNat<2 ^ 30:=by
     refine o0x2 bb fun b0 b4=>?_;clear bb
     have:d.bits=0∨d.bits=1∨d.bits=2∨d.bits=3:=by lia
     refine DQ this (fun h=>?_) (fun h=>?_) (fun h=>?_) (fun h=>?_);all_goals clear this<;>refine af h ?_<;>decide
    refine dN (v:=.int 1) aj (ah (ac rfl) aj (aF (W3.o 2 rfl) rfl rfl)) (aA (w:=uh d r) (ah aj (ac rfl) (u8 hon)) (aA (w:=.int (2 ^ d.bits.toNat)) aj (ah (ac rfl) aj (aF (W3.o 2 rfl) rfl rfl)) fun Q q=>⟨⟨rfl,bb.1,by show d.bits<32;lia⟩,q⟩) fun Q q=>⟨b2,q⟩) (bo (W3.o 6 rfl) (hd.csK _) (by skip;exact Nat.lt_of_le_of_lt hl (by decide))) (ax (ret _ _ rfl ?_))
    delta Dt.lw;refine af e ?_
    exact W3.upd (i:=6) rfl rfl rfl rfl
   ·have he:dK d.s (bt r) (cM (d.v r) p x)=[]:=by
     have:¬(0:Int)<((dK d.s (bt r) (cM (d.v r) p x)).length:Nat):=of_decide_eq_false h
     exact List.eq_nil_of_length_eq_zero (by lia)
    have e:mJ d r (cM (d.v r) p x) d.cs=d.cs:=by skip;(refine ak (aD fun h=>h.2 he) ?_;with_reducible rfl)
    refine ax (ret _ _ rfl ?_)
    delta Dt.lw;refine af e ?_;exact W3
end
section
variable {n:Nat} {Q:aO} {Z:H} {A:Nat→Addr} {d:Dt} {s:List (List Int)}
theorem jM{n:Nat}{l:List V}(h:∀ x ∈ l,pv n x=true):yo n l=true:=by
 induction l with
 |nil=>induction n using Nat.casesAuxOn<;>rfl
 |cons x l ih=>
  have:(pv n x && yo n l)=true:=by(refine af (h x (.head _)) ?_;refine ak (ih fun y hy=>h y (.tail _ hy)) ?_);rfl
  induction n using Nat.casesAuxOn<;>exact this
theorem gW(b:Nat)(i:Int):Mine.pv b (.int i)=true:=by induction b using Nat.casesAuxOn<;>rfl
theorem Ty.pv(hs:db s){k:Int}{v:V}(h:Ty s k v):pv 30 v=true:=by
 have go:∀ m k v b,rk s k≤m→2 * m+1≤b→Ty s k v→Mine.pv b v=true:=by
  intro m
  induction m with
  |zero=>
   intro k v b hm hb h
   induction h using Ty.casesOn with
   |leaf _ t z=>
    obtain⟨b,rfl⟩:∃ c,b=c+1:=⟨b - 1,by lia⟩
    exact jM fun x hx=>by
     refine Or.elim (List.mem_cons.mp hx) (fun e=>?_) (fun e=>?_)
     ·refine af e ?_;exact gW _ _
     ·refine af (List.mem_singleton.mp e) ?_;exact gW _ _
   |node k r vs g _ _=>have:=f9 hs g (List.getElem_mem (hs.row _ _ g).2.1);lia
  |succ m ih=>
   intro k v b hm hb h
   obtain⟨b,rfl⟩:∃ c,b=c+2:=⟨b - 2,by lia⟩
   induction h using Ty.casesOn with
   |leaf _ t z=>
    exact jM fun x hx=>by
     refine Or.elim (List.mem_cons.mp hx) (fun e=>?_) (fun e=>?_)
     ·refine af e ?_;exact gW _ _
     ·refine af (List.mem_singleton.mp e) ?_;exact gW _ _
   |node k r vs g h2 h3=>
    have:yo b vs=true:=jM fun x hx=>by
     obtain⟨i,hi,e⟩:=List.getElem_of_mem hx
     have gr:=List.getElem?_eq_getElem (h2▸hi:i<r.length)
     exact ih _ _ _ (by have:=f9 hs g (List.mem_of_getElem? gr);lia) (by lia) (h3 i _ _ gr (e▸List.getElem?_eq_getElem hi))
    exact jM fun x hx=>by
     refine Or.elim (List.mem_cons.mp hx) (fun e=>?_) (fun e=>?_)
     ·refine af e ?_;exact gW _ _
     ·refine Or.elim (List.mem_cons.mp e) (fun e=>?_) (fun e=>?_)
      ·refine af e ?_;exact gW _ _
      ·refine af (List.mem_singleton.mp e) ?_;exact this
 exact go 7 k v 30 (eT hs k) (by decide) h
theorem qv{m:Nat}{l:List Int}{a:Addr}(h:Z a=some (.list (aM l))):kC Z (m+1) (.ref a)=some (.list (l.map PyData.int)):=by
 have:(aM l).mapM (kC Z m)=some (l.map PyData.int):=by
  clear h
  induction l with
  |nil=>rfl
  |cons i l ih=>
   have e:kC Z m (.int i)=some (.int i):=by induction m using Nat.casesAuxOn<;>rfl
   show List.mapM (kC Z m) (V.int i::aM l)=_
   (refine ak (List.mapM_cons) ?_;refine af e ?_;refine af ih ?_);rfl
 unfold kC;refine af h ?_;dsimp only;refine af this ?_;rfl
theorem yW(hs:db s){k':Int}(p:List Int):∀ {k:Int},0≤k→cj s k p=some k'→0≤k':=by
 induction p with
 |nil=>intro k h e;refine br (aP e) ?_;exact h
 |cons i p ih=>
  intro k h e
  refine o2x4 (cD e) fun r k₁ a b c d=>?_
  refine ih ?_ d
  rcases(hs.row k r a).2.2.2 k₁ (List.mem_of_getElem? c) with⟨e,_⟩ | e
  ·lia
  ·unfold plain at e;simp at e;lia
theorem sK(r:Nat):0≤bt r:=by unfold bt;split<;>decide
theorem Fp(hW:Wd A d Z)(hd:Ok d){r:Nat}(hr:r<8){p:List Int}{k:Int}(hk:cj d.s (bt r) p=some k)(q:∀ Z',bA Z Z'→Q (.bool true) Z'):a8 (n+9) none 63 [.ref (A 2),.int r,.tup (aM p),.int k] Q Z:=by
 have p7:=cU hd.sh hk
 have hv:=hd.ty r hr
 refine o1x2 (hv.get p hk) fun u hu tu=>?_
 have cell:∀ w k',cj d.s k w=some k'→aU d.s k'=none→aI d.es (ck r (p++w))=bF u w:=fun w k' h g=>by
  (refine ak (hd.cell r hr _ _ ((cV w p hk).trans h) g) ?_;(refine ak (ig p hu) ?_;with_reducible rfl))
 have pu:=tu.pv hd.sh
 have e39:Cv (a8 (n+8)) none 39 [.ref (A 31),pl p r] Z u:=by
  have:=De (n:=n+4) (p:=p) hW hr hv
  rw[hu] at this;exact this
 refine bq zM rfl (au (ay (vs:=[.ref (A 2),.int r,.tup (aM p)]) (ab (ac rfl) (ab (ac rfl) (ab (ac rfl) ae))) rfl (zh hW hr (by lia))) (au (ay (vs:=[.ref (A 31),pl p r]) (ab (av (ah (ac rfl) aj (aF (hW.o 2 rfl) rfl rfl)) (hW.f 9 rfl)) (ab (ac rfl) ae)) rfl e39) ?_))
 refine dJ (mL (kG (ai (ao (ac rfl) (bB (jX tu))) rfl) ⟨fun h=>(nomatch h),fun za=>fZ (eN (bj (ac rfl) (aC (vs:=[.ref (A 2),.int r,.tup (aM p),.int k]) (ab (ac rfl) (ab (ac rfl) (ab (ac rfl) (ab (ac rfl) ae)))) rfl (Dd hd.ms k (n+7) r p u Z _ (Nat.le_trans (eT hd.sh k) (by lia)) (by have:=eT hd.sh k;lia) hW.mw hd.esK tu cell fun Z1 x1=>⟨_,pi (by refine af pu ?_;rfl),?_⟩))))⟩))
 refine af (dx 30 u pu) ?_
 refine⟨fun h=>(nomatch h),fun za=>ax ?_⟩
 have W1:=hW.ext x1
 refine dJ (eN (aC (vs:=[u]) (ab (ac rfl) ae) rfl (Fy hd.sh tu (Nat.le_trans (lh hd.sh k) (by decide)) fun y Z2 x2 hy e2=>?_)))
 have W2:=W1.ext x2
 refine aC (vs:=[.ref (A 2),.int r,.tup (aM p),.int k]) (ab (ac rfl) (ab (ac rfl) (ab (ac rfl) (ab (ac rfl) ae)))) rfl (Fq W2.mw hd.ms hd.esK tu (by lia) cell fun z Z3 x3 hz e3=>⟨false,⟨rfl,.inl ⟨_,qv (x3 _ _ e2),qv e3⟩⟩,fun h=>(nomatch h),fun za=>ax ?_⟩)
 have W3:=W2.ext x3
 refine bO (oz (aC (vs:=[.ref (A 30),pl p r]) (ab (ah (ac rfl) aj (aF (W3.o 2 rfl) rfl rfl)) (ab (ac rfl) ae)) rfl (GO W3 hd hr hk (yW hd.sh p (sK r) hk) fun Z4 x4=>?_)))
 have W4:=W3.ext x4
 have fin:=q Z4 (((x1.trans x2).trans x3).trans x4)
 by_cases c:k=16
 ·refine bj (nS (ai (aL (ac rfl) (ah (ac rfl) aj (aF (W4.o 2 rfl) rfl rfl)) an) (bR c)) aj) ⟨true,⟨rfl,?_⟩,fin⟩
  refine af (aG c) ?_;rfl
 ·refine bj (nT (ai (aL (ac rfl) (ah (ac rfl) aj (aF (W4.o 2 rfl) rfl rfl)) an) (bG c)) (ac rfl)) ⟨true,⟨rfl,?_⟩,fin⟩
  refine af (aD c) ?_;exact(bR rfl).symm
end
section
variable {K:aN} {U:Env} {Z:H} {Q:bK} {P:aO} {b:List C}
theorem gY{t N:Nat}(I:Nat→Env→H→Prop)(st:∀ i<N,∀ U Z,I i U Z→∀ R:bK,(∀ U' Z',I (i+1) U' Z'→R .next U' Z')→(∀ v U' Z',Q (.ret v) U' Z'→R (.ret v) U' Z')→SS K b (U.set t (.int i)) R Z)
  (h0:I 0 U Z) (hE:∀ U Z,I N U Z→Q .next U Z):FL K [t] (.rng N) ((List.range (Int.toNat (N:Int))).map fun(i:Nat)=>V.int (i:Int)) b Q ((List.range (Int.toNat (N:Int))).map fun(i:Nat)=>V.int (i:Int)) U Z:=by
 have go:∀ (m i:Nat) U Z,m+i=N→I i U Z→FL K [t] (.rng N) ((List.range (Int.toNat (N:Int))).map fun(i:Nat)=>V.int (i:Int)) b Q (((List.range N).drop i).map fun(i:Nat)=>V.int (i:Int)) U Z:=by
  intro m
  induction m with
  |zero=>
   intro i U Z hl hI
   rw[Nat.zero_add] at hl
   subst hl
   refine af (List.drop_of_length_le (by rw[List.length_range];exact Nat.le_refl _)) ?_
   exact b8 (hE U Z hI)
  |succ m ih=>
   intro i U Z hl hI
   have hlt:i<N:=by lia
   (refine af (List.drop_eq_getElem_cons (by rw[List.length_range];exact hlt)) ?_;refine af List.map_cons ?_;rw[List.getElem_range])
   exact bQ rfl (st i hlt U Z hI _ (fun U' Z' h=>⟨rfl,ih (i+1) U' Z' (by lia) h⟩) fun v U' Z' h=>h)
 exact go N 0 U Z rfl h0
end
noncomputable def Dt.tell(d:Dt):Dt:={ d with flag:=true,st:=true }
section
variable {n:Nat} {Q:aO} {Z:H} {A:Nat→Addr} {d:Dt} {s:List (List Int)}
theorem Ty.get_none(p:List Int):∀ {k:Int} {v:V},Ty s k v→cj s k p=none→bF v p=none:=by
 induction p with
 |nil=>intro k v _ e;exact sn e
 |cons i p ih=>
  intro k v h e
  induction h using Ty.casesOn with
  |leaf k t z g _=>
   have:sub (.tup [.int t,.int z]) i=none:=by delta sub;split<;>rfl
   unfold bF;(refine af this ?_;with_reducible rfl)
  |node k r vs g h2 h3=>
   show(match sub (nd k vs) i with | some u=>bF u p | none=>none)=none
   have e:(match aU s k with | some r=>if 0≤i then(match r[i.toNat]? with | some k'=>cj s k' p | none=>none) else none | none=>none)=none:=e
   rw[g] at e
   dsimp only at e
   unfold sub
   by_cases hi:0≤i
   ·rw[aG hi] at e ⊢
    show(match vs[i.toNat]? with | some u=>bF u p | none=>none)=none
    induction gr:r[i.toNat]? using Option.casesOn with
    |none=>(refine af (List.getElem?_eq_none (by rw[h2];exact List.getElem?_eq_none_iff.mp gr)) ?_;with_reducible rfl)
    |some k'=>
     rw[gr] at e
     have hl:i.toNat<vs.length:=h2▸(List.getElem?_eq_some_iff.mp gr).1
     have gv:=List.getElem?_eq_getElem hl
     refine af gv ?_
     exact ih (h3 _ _ _ gr gv) e
   ·(refine af (aD hi) ?_;with_reducible rfl)
theorem GV(hW:Wd A d Z)(hs:d.st=d.flag)(q:∀ Z',Wd A d.tell Z'→Q (.int (-2)) Z'):a8 (n+1) none 44 [.ref (A 30),.int 4] Q Z:=by
 refine bq z5 rfl ?_
 have e:=hW.f 54 rfl
 induction hf:d.st using Bool.casesOn with
 |true=>
  have:d.tell=d:=by skip;rw[hf] at hs;induction d using Dt.casesOn;obtain rfl:=hf;obtain rfl:=hs;rfl
  rw[this] at q
  rw[hf] at e
  exact aq (ai (ao (bf rfl e) an) rfl) (aw aj (q _ hW))
 |false=>
  rw[hf] at e hs
  have o27:=hW.o 27 rfl
  rw[← hs] at o27
  refine az (ai (ao (bf rfl e) an) rfl) (au aj (au (fe aj) (aq (ai (ao (aZ (vs:=[.ref (A 28)]) (ab (bf rfl (hW.f 5 rfl)) ae) (bJ (hW.o 28 rfl))) cr) rfl) ?_)))
  refine bH (bf rfl (hW.f 8 rfl)) o27 (v:=.tup [.int 4,.int 0,.int (-1)]) (aE (ab (ac rfl) (ab (ac rfl) (ab (ac rfl) ae)))) (by decide) ?_
  have W1:Wd A { d with flag:=true } _:=hW.upd (d':={ d with flag:=true }) (i:=27) rfl rfl rfl rfl
  refine aH (qm W1.m) fun fs hm=>?_
  exact iC aj (ac rfl) hm rfl (ax (aw aj (q _ (W1.state hm))))
theorem BL(hW:Wd A d Z)(hd:Ok d){k:Int}(h:aI d.rows (.int k)=none)(q:∀ Z',bA Z Z'→Q (.tup []) Z'):a8 (n+2) (some 85) 167 [.ref (A 30),.int k] Q Z:=by
 refine bq jU rfl (bO (r7 (aC (vs:=[.ref (A 30),.int k]) (ab (ac rfl) (ab (ac rfl) ae)) rfl ?_)))
 refine bq ur rfl (au (fc (cY (bf rfl (hW.f 3 rfl)) (hW.o 22 rfl) (ac rfl) (hd.rwK k)) (by(refine af h ?_;with_reducible rfl))) ?_)
 refine az (ai (ao (ac rfl) (bB rfl)) rfl) (bO (lA (eu (gw fun a ha=>aR (aE ae) (aR (aE ae) (cK ⟨_,rfl,q _ (bA.refl.set ha)⟩))))))
noncomputable def Dc(s:List (List Int))(k:Int):Prop:=aU s k≠none∨k ∈ plain
theorem tA(h:db s){k k':Int}{r:List Int}(e:aU s k=some r)(hk:k' ∈ r):Dc s k':=by
 rcases(h.row k r e).2.2.2 k' hk with⟨a,b⟩ | a
 ·left;delta aU;(refine af (aG (by have:=(h.row k r e).1;lia)) ?_;refine af (List.getElem?_eq_getElem (by have:=(h.row k r e).1;lia)) ?_);exact fun h=>nomatch h
 ·exact .inr a
theorem tB(h:db s)(r:Nat):Dc s (bt r):=by
 have l:=h.len.1
 have:bt r=18∨bt r=19:=by delta bt;split<;>decide
 left;delta aU
 refine Or.elim this (fun e=>?_) (fun e=>?_);all_goals clear this<;>refine af e ?_<;>(refine af (aG (by decide)) ?_;refine af (List.getElem?_eq_getElem (by show _<s.length;lia)) ?_)<;>exact fun h=>nomatch h
theorem we(h:db s){k:Int}(e:Dc s k):∃ m:Nat,k=m∧2≤m∧m<18+s.length:=by
 refine Or.elim e (fun e=>?_) (fun e=>?_)
 ·induction g:aU s k using Option.casesOn with
  |none=>exact absurd g e
  |some r=>have:=(h.row k r g).1;exact⟨k.toNat,by lia,by lia,by lia⟩
 ·have:(2≤k∧k<18):=by unfold plain at e;simp at e;lia
  exact⟨k.toNat,by lia,by lia,by lia⟩
theorem Ee(hW:Wd A d Z)(hd:Ok d){r:Nat}(hr:r<8){p:List Int}(hk:cj d.s (bt r) p=none)(q:∀ Z',Wd A d.tell Z'→Q (.int (-1)) Z'):a8 (n+7) none 52 [.ref (A 30),pl p r] Q Z:=by
 refine bq uo rfl ?_
 refine o1x2 (qj (p:=p) (Z:=Z) hr) fun l el hl=>?_
 refine aW (aC (vs:=[.ref (A 30),pl p r]) (ab (ac rfl) (ab (ac rfl) ae)) rfl (Fu hW hd hr fun Z' x=>?_))
 replace hW:=hW.ext x
 clear x
 refine au (v:=.tup (aM p)) (ah (u:=.tup l) (ac (congrArg some el)) (aA (aZ (vs:=[.tup l]) (ab (ac (congrArg some el)) ae) fun Q q=>q) aj fun Q q=>q) hl) ?_
 refine cg (xs:=aM p) (ac rfl) rfl ?_
 refine(?_:∀ (p1:List Int) (kw:Int) (U:Env) Z',Wd A d Z'→(kw = -1∨Dc d.s kw∧cj d.s kw p1=none)→U 0=some (.ref (A 30))→U 2=some (.int kw)→FL _ _ _ _ _ _ (aM p1) U Z') p _ _ Z' hW (.inr ⟨tB hd.sh r,hk⟩) rfl rfl
 intro p1
 induction p1 with
 |nil=>
  intro kw U Z' hW e h0 h2
  have e:kw = -1:=e.elim id fun h=>nomatch h.2
  subst e
  refine b8 (az (ai (ao (ac h2) aV) rfl) (pN (pG (vs:=[.int 4]) (ac h0) hW.m rfl (ab aj ae) ?_)))
  exact bq oQ rfl (bO (aC (vs:=[.ref (A 30),.int 4]) (ab (ac rfl) (ab (ac rfl) ae)) rfl (GV hW hd.ss fun Z'' W=>aw (fe aj) (q _ W))))
 |cons i p1 ih=>
  intro kw U Z' hW e h0 h2
  have dead:∀ U' Z'',Wd A d Z''→U' 0=some (.ref (A 30))→U' 2=some (.int (-1))→FL _ _ _ _ _ _ (aM p1) U' Z'':=fun U' Z'' W h0 h2=>ih (-1) U' Z'' W (.inl rfl) h0 h2
  have m1:∀ U:Env,(Ev (a8 (n+6)) U Z' (.neg (.k (.int 1))) (.int (-1))):=fun U=>fe aj
  refine bQ rfl ?_
  rcases e with rfl | ⟨hok,e⟩
  ·exact di (bc (d5 (ai (ao (ac h2) cI) rfl))) (au (m1 _) (ax (ax ⟨rfl,dead _ _ hW h0 rfl⟩)))
  ·refine o1x2 (we hd.sh hok) fun m e1 q9=>?_;obtain rfl:=e1;refine o0x2 q9 fun m2 mb=>?_;clear q9
   have pos:∀ U':Env,U' 2=some (.int m)→Et (a8 (n+6)) U' Z' (.cmp (.x 2) .GtE (.k (.int 0))) true:=fun U' h=>ai (ao (ac h) cI) (bR (Int.natCast_nonneg _))
   have test:∀ (U':Env) (c:Bool),U' 0=some (.ref (A 30))→U' 2=some (.int m)→Cv (a8 (n+6)) none 13 [.ref (A 39),.int m] Z' (.bool c)→Eb (a8 (n+6)) U' Z' .And [.cmp (.x 2) .GtE (.k (.int 0)),.call (.k (.fn 13)) [.att (.x 0) 150,.x 2]] c:=fun U' c h0 h2 hc=>
    bZ (pos U' h2) (ba (gJ (ab (av (ac h0) (hW.f 1 rfl)) (ab (ac h2) ae)) rfl hc))
   induction g:aU d.s m using Option.casesOn with
   |some row=>
    refine o1x3 (jC hd g) fun m' hm' a1 a2=>?_
    cases Int.ofNat.inj hm'
    have e13:=rF (n:=n+4) hW (k:=m) (by lia) (by lia)
    rw[yS (d:=d) hd.sh.len.1 a1 a2] at e13
    refine aH (hd.rwD _ _ g) fun ad hrow=>?_
    refine az (bc (test _ true h0 h2 e13)) ?_
    have e:(if 0≤i then(match row[i.toNat]? with | some k'=>cj d.s k' p1 | none=>none) else none)=none:=by
     have e:(match aU d.s m with | some r=>if 0≤i then(match r[i.toNat]? with | some k'=>cj d.s k' p1 | none=>none) else none | none=>none)=none:=e
     rw[g] at e;exact e
    have call:∀ U':Env,U' 0=some (.ref (A 30))→U' 2=some (.int m)→U' 4=some (.int i)→Es (a8 (n+6)) U' Z' [.mth (.x 0) 167 [.x 2],.x 4] [.tup (aM row),.int i]:=fun U' h0 h2 h4=>
     ab (dn (ac h0) hW.m rfl (ab (ac h2) ae) (yN hW hd hrow)) (ab (ac h4) ae)
    by_cases hi:0≤i∧i.toNat<row.length
    ·have gr:=List.getElem?_eq_getElem hi.2
     (rewrite[aG hi.1] at e;rw[gr] at e)
     exact au (ay (call _ h0 h2 rfl) rfl (Ck (v:=.int row[i.toNat]) hi.1 (cy gr))) (ax (ax ⟨rfl,ih _ _ _ hW (.inr ⟨tA hd.sh g (List.mem_of_getElem? gr),e⟩) h0 rfl⟩))
    ·exact au (ay (call _ h0 h2 rfl) rfl (Cj (by refine af bz ?_;lia))) (ax (ax ⟨rfl,dead _ _ hW h0 rfl⟩))
   |none=>
    have hp:(m:Int) ∈ plain:=hok.elim (fun h=>absurd g h) id
    by_cases rZ:m=12
    ·subst rZ
     have e13:=rF (n:=n+4) hW (k:=12) (by decide) (by lia)
     exact di (bc (test _ false h0 h2 e13)) (au (m1 _) (ax (ax ⟨rfl,dead _ _ hW h0 rfl⟩)))
    ·have e13:Cv (a8 (n+6)) none 13 [.ref (A 39),.int m] Z' (.bool true):=by
      by_cases EM:m=16
      ·refine af EM ?_;exact rF (n:=n+4) hW (k:=16) (by decide) (by lia)
      ·exact EC (by lia) (by delta plain at hp;simp at hp;lia)
     refine az (bc (test _ true h0 h2 e13)) (aW (cC rfl (eu (pG (vs:=[.int m]) (ac h0) hW.m rfl (ab (ac h2) ae) (BL hW hd (hd.rwN m (by delta plain at hp;simp at hp;lia)) fun Z'' x=>aR (ac rfl) (cK ((Cj (l:=[]) (by have:=Int.lt_or_le i 0;exact this)).go _ (ax (ax ⟨rfl,dead _ _ (hW.ext x) h0 rfl⟩)))))))))
end
theorem dp{C:aN}{U:Env}{Z:H}{e:E}{p:List Int}(h:Ev C U Z e (.tup (aM p))):Ev C U Z (.call (.k (.bi 0)) [e]) (.int p.length):=
 aZ (ab h ae) fun Q q=>by rw[← bz] at q;exact q
theorem d0{C:aN}{U:Env}{Z:H}{e:E}{a:Addr}{l:List V}(h:Ev C U Z e (.ref a))(g:Z a=some (.list l)):Ev C U Z (.call (.k (.bi 0)) [e]) (.int l.length):=
 aZ (ab h ae) (bJ g)
noncomputable def i2(d d':Dt):Prop:=d'.s=d.s∧d'.nums=d.nums∧d'.cs=d.cs
theorem i2.trans{a b c:Dt}(x:i2 a b)(y:i2 b c):i2 a c:=⟨y.1.trans x.1,y.2.1.trans x.2.1,y.2.2.trans x.2.2⟩
theorem i2.nx{d d':Dt}(h:i2 d d'):Nx d d':=⟨h.1,h.2.1,by refine af h.2.2 ?_;exact Nat.le_succ _⟩
section
variable {n:Nat} {Q:aO} {Z:H} {A:Nat→Addr} {d:Dt}
theorem GK(hW:Wd A d Z)(hd:Ok d){r:Nat}(hr:r<8){p:List Int}(hk:cj d.s (bt r) p=none)(q:∀ d' Z',Wd A d' Z'→Ok d'→i2 d d'→Q (.bool true) Z'):a8 (n+8) none 64 [.ref (A 2),pl p r] Q Z:=by
 have hg:=(hd.ty r hr).get_none p hk
 have e39:Cv (a8 (n+7)) none 39 [.ref (A 31),pl p r] Z .none:=by
  have:=De (n:=n+3) (p:=p) hW hr (hd.ty r hr)
  rw[hg] at this;exact this
 refine bq zL rfl (dJ (mL (kG (ai (ao (ay (vs:=[.ref (A 31),pl p r]) (ab (av (ah (ac rfl) aj (aF (hW.o 2 rfl) rfl rfl)) (hW.f 9 rfl)) (ab (ac rfl) ae)) rfl e39) (eM rfl)) rfl) ⟨fun h=>(nomatch h),fun za=>fZ (eN (aC (vs:=[.ref (A 30),pl p r]) (ab (ah (ac rfl) aj (aF (hW.o 2 rfl) rfl rfl)) (ab (ac rfl) ae)) rfl (Ee hW hd hr hk fun Z1 W1=>bj (fe aj) ⟨_,cz,fun h=>(nomatch h),fun za=>ax ?_⟩)))⟩)))
 refine jB (bx (vs:=[.int 4]) (ab aj ae) fun y hy=>?_)
 have x2:bA Z1 (Z1.set y (.list [.int 4])):=bA.refl.set hy
 have W2:=W1.ext x2
 refine bj (ac rfl) (bj aj ⟨_,bo (W2.o 2 rfl) rfl (show 13<bL by decide),?_⟩)
 have ny:∀ i,i<29→y≠A i:=fun i hi e=>by
  have:=W1.o i (List.getElem?_eq_getElem (l:=objs A d.tell) hi)
  (rewrite[← e] at this;rw[hy] at this);exact ns this
 have W3:Wd A { d.tell with wa:=y,wf:=true } _:=W2.offW (d':={ d.tell with wa:=y,wf:=true }) (i:=2) rfl rfl rfl rfl bA.refl.off.set aB ⟨bv (ny 2 (by decide)) aB,ny⟩
 have hd3:Ok { d.tell with wa:=y,wf:=true }:={ hd with ww:=rfl,ss:=rfl }
 have e40:=Eh (n:=n+3) (x:=.tup [.int 1,.int 5]) W3 hd3 hr hg
 refine au (ay (vs:=[.ref (A 31),pl p r,.tup [.int 1,.int 5]]) (ab (av (ah (ac rfl) aj (aF (W3.o 2 rfl) rfl rfl)) (W3.f 9 rfl)) (ab (ac rfl) (ab (aE (ab aj (ab aj ae))) ae))) rfl e40) ?_
 exact aw (nU (bZ (t6 (vs:=[.bool false,.bi 6]) (ab (ac rfl) (ab aj ae)) fun Q q=>⟨_,rfl,q⟩) (ba (t0 (Cm rfl))))) (q _ _ W3 hd3 ⟨rfl,rfl,rfl⟩)
theorem nA{s:List (List Int)}{k i:Int}{p q:List Int}{K:Int}(h:cj s K p=some k)(hi:i<0∨(∀ r,aU s k=some r→(r.length:Int)≤i)):cj s K (p++i::q)=none:=by
 refine ak (cV _ _ h) ?_
 show(match aU s k with | some r=>if 0≤i then(match r[i.toNat]? with | some k'=>cj s k' q | none=>none) else none | none=>none)=none
 induction g:aU s k using Option.casesOn with
 |none=>rfl
 |some r=>
  dsimp only
  by_cases h0:0≤i
  ·refine ak (aG h0) ?_
   refine Or.elim hi (fun hi=>?_) (fun hi=>?_)
   ·omega
   ·(refine af (List.getElem?_eq_none (by have:=hi r g;omega)) ?_;with_reducible rfl)
  ·(refine ak (aD h0) ?_;with_reducible rfl)
theorem Fo(hW:Wd A d Z)(hd:Ok d){r:Nat}(hr:r<8){p:List Int}{k z:Int}(hk:cj d.s (bt r) p=some k)(q:∀ d' Z',Wd A d' Z'→Ok d'→i2 d d'→Q (.bool true) Z'):a8 (n+9) none 65 [.ref (A 2),.int r,.tup (aM p),.int z] Q Z:=by
 have p7:=cU hd.sh hk
 refine bq zK rfl (au (ah (ah (ac rfl) aj (aF (hW.o 2 rfl) rfl rfl)) (ac rfl) (dZ hr)) ?_)
 refine cg (v:=.rng ((p.length+1:Nat):Int)) (aZ (vs:=[.int ((p.length+1:Nat):Int)]) (ab (aA (u:=.int p.length) (dp (ac rfl)) aj fun Q q=>q) ae) fun Q q=>⟨_,rfl,⟨by omega,by omega⟩,q⟩) rfl ?_
 refine gY (N:=p.length+1) (fun i U Z'=>∃ d',Wd A d' Z'∧Ok d'∧i2 d d'∧U 0=some (.ref (A 2))∧U 1=some (.int r)∧U 2=some (.tup (aM p))∧U 3=some (.int z)∧∃ k',U 4=some (.int k')∧(i≤p.length→cj d.s (bt r) (p.take i)=some k')) ?_ ⟨d,hW,hd,⟨rfl,rfl,rfl⟩,rfl,rfl,rfl,rfl,_,rfl,fun za=>rfl⟩ fun U Z' ⟨d',W',o',k',_⟩=>aw aj (q d' Z' W' o' k')
 rintro i hi U Z' ⟨d',W',o',kp,h0,h1,h2,h3,k',h4,hk'⟩ R hR hv
 have hk':=hk' (by omega)
 have e1:(U.set 5 (.int i)) 0=some (.ref (A 2)):=h0
 have main:∀ (U':Env) (y:Int),U' 0=some (.ref (A 2))→U' 1=some (.int r)→U' 2=some (.tup (aM p))→U' 3=some (.int z)→U' 4=some (.int k')→U' 5=some (.int i)→U' 6=some (.int y)→(y<0∨(∀ r,aU d.s k'=some r→(r.length:Int)≤y))→
   SS (a8 (n+8)) (match FH.body with | [_,.for_ _ _ (_::_::b),_]=>b | _=>[]) U' R Z':=by
  intro U' y h0 h1 h2 h3 h4 h5 h6 hy
  have el:(p.take i++[y]++p.drop (i+1))=p.take i++y::p.drop (i+1):=by rw[List.append_assoc];rfl
  have bad:=nA (q:=p.drop (i+1)) hk' hy
  (rewrite[← el] at bad;rw[← kp.1] at bad)
  refine dJ (iu (eF (aC (vs:=[.ref (A 2),pl (p.take i++[y]++p.drop (i+1)) r]) (ab (ac h0) (ab (ay (vs:=[.ref (A 2),.int r,.tup (aM (p.take i++[y]++p.drop (i+1)))]) (ab (ac h0) (ab (ac h1) (ab (aA (aA (mf (ac h2) (ac h5) ⟨by omega,by omega⟩) (aE (ab (ac h6) ae)) fun Q q=>⟨?_,q⟩) (me (ac h2) (aA (w:=.int ((i+1:Nat):Int)) (ac h5) aj fun Q q=>q) ⟨by omega,by omega⟩) fun Q q=>⟨?_,?_⟩) ae))) rfl (zh W' hr ?_)) ae)) rfl (GK W' o' hr bad fun d'' Z'' W'' o'' k''=>?_))))
  ·(refine af List.length_take ?_;refine af bz ?_);show _+1≤bL;delta bL;omega
  ·(refine af List.length_append ?_;refine af List.length_take ?_;refine af List.length_drop ?_;refine af bz ?_);show _+1+_≤bL;delta bL;omega
  ·unfold aM at q ⊢
   (rewrite[List.map_append] at q;rewrite[List.map_append] at q;rewrite[List.map_take] at q;rw[List.map_drop] at q)
   (rewrite[Int.toNat_natCast];rw[Int.toNat_natCast]);exact q
  ·(refine af List.length_append ?_;refine af List.length_append ?_;refine af List.length_take ?_;refine af List.length_drop ?_);show _+1+_≤1000;omega
  ·refine⟨fun h=>(nomatch h),fun za=>ax ?_⟩
   have keep:=kp.trans k''
   by_cases hl:i<p.length
   ·have gp:=List.getElem?_eq_getElem hl
    have sp:p.take i++p[i]::p.drop (i+1)=p:=by(rewrite[← List.drop_eq_getElem_cons];rw[List.take_append_drop])
    have sp':p.take i++[p[i]]=p.take (i+1):=List.take_append_getElem hl
    (rewrite[← sp] at hk;rw[cV _ _ hk'] at hk)
    refine o2x4 (cD hk) fun row k₁ g a b c=>?_
    have gd:aI d''.sh (.int k')=some (.tup (aM row)):=by(rewrite[o''.shD];refine af keep.1 ?_;refine af g ?_);rfl
    refine az (ai (aL (ac h5) (dp (ac h2)) aV) (bR (by omega))) ?_
    refine au (v:=.int k₁) (ah (ah (ah (ac h0) aj W''.mw.i4) (ac h4) (aF W''.mw.hb (o''.shK _) gd)) (ah (v:=.int p[i]) (ac h2) (ac h5) (bP (Int.natCast_nonneg _) (by rw[Int.toNat_natCast];exact cy gp))) (bP a (cy b))) (ax (ax (hR _ _ ⟨d'',W'',o'',keep,h0,h1,h2,h3,k₁,rfl,fun za=>?_⟩)))
    (refine br sp' ?_;refine ak (cV _ _ hk') ?_)
    show(match aU d.s k' with | some r=>if 0≤p[i] then(match r[p[i].toNat]? with | some k'=>cj d.s k' [] | none=>none) else none | none=>none)=_
    refine af g ?_;skip;(refine ak (aG a) ?_;refine af b ?_);rfl
   ·refine aq (ai (aL (ac h5) (dp (ac h2)) aV) (bG (by omega))) (ax (hR _ _ ⟨d'',W'',o'',keep,h0,h1,h2,h3,k',h4,fun h=>by omega⟩))
 refine au (fe aj) ?_
 have tst:Ev (a8 (n+8)) ((U.set 5 (.int i)).set 6 (.int (-1))) Z' (.bin .Mod (.bin .Add (.x 3) (.x 5)) (.k (.int 2))) (.int ((z+i) % 2)):=aA (aA (u:=.int z) (v:=.int i) (w:=.int (z+i)) (ac h3) (ac rfl) fun Q q=>q) aj fun Q q=>⟨by decide,q⟩
 by_cases hz:(z+i) % 2=1
 ·refine az (ai (ao tst an) (bR hz)) ?_
  induction g:aU d.s k' using Option.casesOn with
  |none=>
   have gd:(aI d'.sh (.int k')).getD (.tup [])=.tup (aM []):=by(rewrite[o'.shD];refine af kp.1 ?_;refine af g ?_);rfl
   refine au (v:=.int 0) (dp (p:=[]) (fc (gI (ah (ac h0) aj W'.mw.i4) W'.mw.hb (ac h4) (aE ae) (o'.shK _)) gd)) (ax (main _ 0 h0 h1 h2 h3 h4 rfl rfl (.inr fun r h=>by rw[g] at h;exact ns h)))
  |some row=>
   have gd:(aI d'.sh (.int k')).getD (.tup [])=.tup (aM row):=by(rewrite[o'.shD];refine af kp.1 ?_;refine af g ?_);rfl
   refine au (v:=.int row.length) (dp (fc (gI (ah (ac h0) aj W'.mw.i4) W'.mw.hb (ac h4) (aE ae) (o'.shK _)) gd)) (ax (main _ _ h0 h1 h2 h3 h4 rfl rfl (.inr fun r h=>by rw[g] at h;refine af (aP h) ?_;exact Int.le_refl _)))
 ·exact aq (ai (ao tst an) (bG hz)) (main _ (-1) h0 h1 h2 h3 h4 rfl rfl (.inl (by decide)))
end
theorem hH{K:aN}{U:Env}{Z:H}{Q:bK}{i j:Nat}{e:E}{r:List C}(h:WE K e U (fun v Z'=>∃ U',cL [i,j] v U=some U'∧SS K r U' Q Z') Z):SS K (.set (.v2 i j) e::r) U Q Z:=by
 simp only[fR,mW] at *;exact h
theorem bA.fresh{Z Z':H}{a:Addr}(x:bA Z Z')(h:Z' a=none):Z a=none:=by
 induction g:Z a using Option.casesOn with
 |none=>rfl
 |some o=>rw[x _ _ g] at h;exact sn h
section
variable {n:Nat} {Q:aO} {Z:H} {A:Nat→Addr} {d:Dt} {s:List (List Int)}
theorem GJ(hs:db s){k:Int}{x:V}(p:List Int):∀ (m:Nat) {K:Int} {v:V} {Z:H} {Q:aO},p.length≤m→Ty s K v→cj s K p=some k→(∀ Z',bA Z Z'→Q (cM v p x) Z')→a8 (m+1) none 66 [v,.tup (aM p),x] Q Z:=by
 induction p with
 |nil=>
  intro m K v Z Q hm hv hk q
  exact bq uk rfl (az (ai (ao (dp (p:=[]) (ac rfl)) an) rfl) (aw (ac rfl) (q Z bA.refl)))
 |cons i p ih=>
  intro m K v Z Q hm hv hk q
  refine aH ((⟨m - 1,by rw[List.length_cons] at hm;lia⟩:∃ j,m=j+1)) fun m e1=>?_;obtain rfl:=e1
  refine o5x2 (qk hv hk) fun u k₁ a b vs e5 q9=>?_;obtain rfl:=e5;refine o0x5 q9 fun hi e3 e4 ht hk1=>?_;clear q9
  have hl:=(List.getElem?_eq_some_iff.mp e3).1
  refine bq uk rfl (aq (ai (ao (dp (p:=i::p) (ac rfl)) an) (bG (by refine af List.length_cons ?_;lia))) ?_)
  refine aW (jz (aR (aQ rfl rfl) (cK ⟨vs,rfl,fun y hy=>?_⟩)))
  have x1:bA Z (Z.set y (.list vs)):=bA.refl.set hy
  refine jB (aC (vs:=[u,.tup (aM p),x]) (ab (ah (ac rfl) (aQ (v:=.int i) rfl rfl) (aJ aB hi e3)) (ab (me (l:=aM (i::p)) (ac rfl) aj ⟨by decide,by decide⟩) (ab (ac rfl) ae))) rfl (ih m (Nat.le_of_succ_le_succ hm) ht hk1 fun Z2 x2=>?_))
  refine bj (ac rfl) (bj (aQ (v:=.int i) rfl rfl) ⟨_,fN (x2 _ _ aB) ⟨hi,by lia⟩,?_⟩)
  refine aw (v:=.tup [.int 5,b,.tup (vs.set i.toNat (cM u p x))]) (aE (ab aj (ab (aQ rfl rfl) (ab (aZ (vs:=[.ref y]) (ab (ac rfl) ae) fun Q q=>⟨_,aB,q⟩) ae)))) ?_
  have e:cM (.tup [a,b,.tup vs]) (i::p) x=.tup [.int 5,b,.tup (vs.set i.toNat (cM u p x))]:=eJ e4
  refine br e ?_
  exact q _ ((x1.trans x2).set hy)
theorem dS{k:Int}{y:Addr}(h:Z y=some (.list ((W s k).map eg))){i:Nat}(hi:(i:Int)<((W s k).map eg).length)(hs:db s):∃ w k',cj s k w=some k'∧bD Z (.ref y) (.int i)=some (eg (w,k')):=by
 have hl:i<(W s k).length:=by rw[List.length_map] at hi;lia
 have g:=List.getElem?_eq_getElem hl
 exact⟨(W s k)[i].1,(W s k)[i].2,(fV hs k _).mp (List.getElem_mem hl),aJ h (Int.natCast_nonneg _) (by(rewrite[Int.toNat_natCast];refine ak (List.getElem?_map) ?_;refine af g ?_);rfl)⟩
theorem pD{k:Int}:(0:Int)<((W s k).map eg).length:=by rw[List.length_map];have:=uI (s:=s) (k:=k);lia
theorem nl{k:Int}{y:Addr}(h:Z y=some (.list ((W s k).map eg))){i:Nat}(hi:(i:Int)<((W s k).map eg).length)(hs:db s):∃ w k',cj s k w=some k'∧bD Z (.ref y) (.int (((W s k).map eg).length - 1 - i))=some (eg (w,k')):=by
 have:=dS h (i:=((W s k).map eg).length - 1 - i) (by lia) hs
 rw[show(((((W s k).map eg).length - 1 - i:Nat)):Int)=((W s k).map eg).length - 1 - i by lia] at this
 exact this
theorem GI(hW:Wd A d Z)(hd:Ok d){r:Nat}(hr:r<8){p:List Int}{k:Int}(hk:cj d.s (bt r) p=some k)(q:∀ d' Z',Wd A d' Z'→Ok d'→i2 d d'→Q (.bool true) Z'):a8 (n+9) none 67 [.ref (A 2),.ref (A 0),.int r,.tup (aM p),.int k] Q Z:=by
 have p7:=cU hd.sh hk
 have hv:=hd.ty r hr
 refine o1x2 (hv.get p hk) fun u hu tu=>?_
 have cell:∀ w k',cj d.s k w=some k'→aU d.s k'=none→aI d.es (ck r (p++w))=bF u w:=fun w k' h g=>by
  (refine ak (hd.cell r hr _ _ ((cV w p hk).trans h) g) ?_;(refine ak (ig p hu) ?_;with_reducible rfl))
 have e39:Cv (a8 (n+8)) none 39 [.ref (A 31),pl p r] Z u:=by
  have:=De (n:=n+4) (p:=p) hW hr hv
  rw[hu] at this;exact this
 refine bq zJ rfl (au (ay (vs:=[.ref (A 31),pl p r]) (ab (av (ah (ac rfl) aj (aF (hW.o 2 rfl) rfl rfl)) (hW.f 9 rfl)) (ab (ay (vs:=[.ref (A 2),.int r,.tup (aM p)]) (ab (ac rfl) (ab (ac rfl) (ab (ac rfl) ae))) rfl (zh hW hr (by lia))) ae)) rfl e39) ?_)
 refine aW (aC (vs:=[.ref (A 2),.int k]) (ab (ac rfl) (ab (ac rfl) ae)) rfl (zi hW.mw hd.ms fun y Z1 x1 hy=>?_))
 have W1:=hW.ext x1
 refine hH (gu (bj (ac rfl) (iz (bj (aA (u:=.int ((W d.s k).map eg).length) (d0 (ac rfl) hy) aj fun Q q=>q) (aC (vs:=[.ref (A 0),.int ((W d.s k).map eg).length]) (ab (ac rfl) (ab (d0 (ac rfl) hy) ae)) rfl (iT W1 pD fun i hi Z2 W2 o2=>?_))))))
 have hy2:Z2 y=some (.list ((W d.s k).map eg)):=o2 _ _ (fun e=>by(rewrite[e] at hy;rw[W1.o 0 rfl] at hy);cases hy) hy
 refine o2x2 (nl hy2 hi hd.sh) fun w k' hw iw=>?_
 refine⟨_,iw,_,rfl,?_⟩
 refine o1x2 (tu.get w hw) fun t ht tt=>?_
 have w7:=cU hd.sh hw
 have e16:Cv (a8 (n+8)) none 16 [u,.tup (aM w)] Z2 t:=by
  have:=A7 (n:=n+7) (Z:=Z2) tu w
  rw[ht] at this;exact this
 have pt:=tt.pv hd.sh
 refine dJ (eN (bj (ay (vs:=[u,.tup (aM w)]) (ab (ac rfl) (ab (ac rfl) ae)) rfl e16) (aC (vs:=[.ref (A 2),.int r,.tup (aM (p++w)),.int k']) (ab (ac rfl) (ab (ac rfl) (ab (aA (ac rfl) (ac rfl) fun Q q=>⟨?_,by rw[cW] at q;exact q⟩) (ab (ac rfl) ae)))) rfl (Dd hd.ms k' (n+7) r (p++w) t Z2 _ (Nat.le_trans (eT hd.sh k') (by lia)) (by have:=eT hd.sh k';refine af List.length_append ?_;lia) W2.mw hd.esK tt (fun w' k'' h g=>?_) fun Z3 x3=>⟨_,pi (by refine af pt ?_;rfl),?_⟩))))
 ·(refine af bz ?_;refine af bz ?_);show p.length+w.length≤bL;unfold bL;lia
 ·rw[List.append_assoc]
  exact(cell _ _ ((cV w' w hw).trans h) g).trans (ig w ht)
 refine af (dx 30 t pt) ?_
 refine⟨fun h=>(nomatch h),fun za=>ax ?_⟩
 have W3:=W2.ext x3
 have e16n:∀ y:Int,(y<0∨∀ r,aU d.s k'=some r→(r.length:Int)≤y)→Cv (a8 (n+8)) none 16 [u,.tup (aM (w++[y]))] Z3 .none:=fun y hy=>by
  have:=A7 (n:=n+7) (Z:=Z3) tu (w++[y])
  rw[tu.get_none _ (nA hw hy)] at this;exact this
 have gd:(aI d.dr.sh (.int k')).getD (.tup [])=.tup (aM ((aU d.s k').getD [])):=by
  show(aI d.sh (.int k')).getD (.tup [])=_
  rw[hd.shD];induction aU d.s k' using Option.casesOn<;>rfl
 refine aq (ai (ao (ay (vs:=[u,.tup (aM (w++[(((aU d.s k').getD []).length:Int)]))]) (ab (ac rfl) (ab (aA (ac rfl) (aE (ab (dp (fc (gI (ah (ac rfl) aj W3.mw.i4) W3.mw.hb (ac rfl) (aE ae) (hd.shK _)) gd)) ae)) fun Q q=>⟨?_,by rw[cW] at q;exact q⟩) ae)) rfl (e16n _ (.inr fun r h=>by refine af h ?_;exact Int.le_refl _))) (eM rfl)) rfl) ?_
 ·refine af bz ?_;show w.length+1≤bL;unfold bL;lia
 refine aW (cC rfl (aR (ac rfl) (aR (ac rfl) (bN (aC (vs:=[.ref (A 0),.int 997]) (ab (ac rfl) (ab aj ae)) rfl (iT W3 (by decide) fun z hz Z4 W4 o4=>?_))))))
 refine Ed hd.ms k' (n+7) z Z4 _ (Nat.le_trans (eT hd.sh k') (by lia)) W4.mw fun x Z5 tx x5=>?_
 have W5:=W4.ext x5
 have pp:=(tx.put w tu hw).pv hd.sh
 refine dJ (eN (aC (vs:=[u,.tup (aM w),x]) (ab (ac rfl) (ab (ac rfl) (ab (ac rfl) ae))) rfl (EA hd.sh tu hw (by lia) fun Z6 x6=>aC (vs:=[u,.tup (aM w),x]) (ab (ac rfl) (ab (ac rfl) (ab (ac rfl) ae))) rfl (GJ hd.sh w (n+7) (by lia) tu hw fun Z7 x7=>⟨_,pi (by refine af pp ?_;rfl),?_⟩))))
 refine af (dx 30 _ pp) ?_
 refine⟨fun h=>(nomatch h),fun za=>ax ?_⟩
 have W7:=W5.ext (x6.trans x7)
 have pu:=tu.pv hd.sh
 refine bO (oz (bj (ac rfl) (aC (vs:=[.ref (A 2),.int r,.tup (aM p),.int k]) (ab (ac rfl) (ab (ac rfl) (ab (ac rfl) (ab (ac rfl) ae)))) rfl (Dd hd.ms k (n+7) r p u Z7 _ (Nat.le_trans (eT hd.sh k) (by lia)) (by have:=eT hd.sh k;lia) W7.mw hd.esK tu cell fun Z8 x8=>⟨_,pj (by refine af pu ?_;rfl),?_⟩))))
 refine af (dx 30 u pu) ?_
 exact q _ Z8 (W7.ext x8) hd.dr.dr ⟨rfl,rfl,rfl⟩
end
theorem oB{q:List Int}{x:Int}(h:x≠0):dA (q++[x])=q++[x]:=by
 delta dA
 refine af List.reverse_append ?_
 show((x::q.reverse).dropWhile (· == 0)).reverse=_
 (refine af (List.dropWhile_cons_of_neg (by simpa using h)) ?_;refine ak (List.reverse_cons) ?_;rw[List.reverse_reverse])
noncomputable def tg:Nat→Int×Int×Int
 |0=>(1,7,0) | 1=>(2,7,0) | 2=>(4,17,1) | 3=>(3,19,0) | 4=>(3,22,0) | 5=>(3,23,0) | 6=>(3,26,0) | _=>(1,9,-1)
noncomputable def xp:V→Int×Int×Int
 |.tup [.int k,.int h,.int i,_]=>(k,h,i)
 |.tup [.int k,.int w,_]=>(k,w,0)
 |_=>(0,0,0)
noncomputable def sV:V→V
 |.tup [_,_,_,p]=>p
 |.tup [_,_,p]=>p
 |_=>.none
theorem yt{p q:List Int}{r r':Nat}(hr:r<8)(hr':r'<8)(h:pl p r=pl q r'):r=r'∧p=q:=by
 have t:∀ {p:List Int} {r:Nat},r<8→xp (pl p r)=tg r∧sV (pl p r)=.tup (aM p):=fun{p r} hr=>fF (P:=fun r=>xp (pl p r)=tg r∧sV (pl p r)=.tup (aM p)) ⟨rfl,rfl⟩ ⟨rfl,rfl⟩ ⟨rfl,rfl⟩ ⟨rfl,rfl⟩ ⟨rfl,rfl⟩ ⟨rfl,rfl⟩ ⟨rfl,rfl⟩ ⟨rfl,rfl⟩ hr
 refine o0x2 (t (p:=p) hr) fun a1 a2=>?_
 refine o0x2 (t (p:=q) hr') fun b1 b2=>?_
 rw[h] at a1 a2
 have inj:∀ a b:Fin 8,tg a=tg b→a=b:=by decide
 exact⟨congrArg Fin.val (inj ⟨r,hr⟩ ⟨r',hr'⟩ (a1.symm.trans b1)),lW (V.tup.inj (a2.symm.trans b2))⟩
theorem jN(b:Nat)(p:List Int):pv (b+1) (.tup (aM p))=true:=jM fun x hx=>by
 refine o1x2 (List.mem_map.mp hx) fun i za e2=>?_;refine br e2 ?_
 exact gW _ _
theorem oJ{p:List Int}{r:Nat}(hr:r<8):pv 30 (pl p r)=true:=by
 have o:∀ k h i,pv 30 (ot k h i p)=true:=fun k h i=>by
  show(true && (true && (true && (pv 29 (.tup (aM p)) && true))))=true
  rw[jN];rfl
 have w:∀ w,pv 30 (uU w p)=true:=fun w=>by
  show(true && (true && (pv 29 (.tup (aM p)) && true)))=true
  rw[jN];rfl
 exact fF (P:=fun r=>pv 30 (pl p r)=true) (o _ _ _) (o _ _ _) (o _ _ _) (w _) (w _) (w _) (w _) (o _ _ _) hr
section
variable {n:Nat} {Q:aO} {Z:H} {A:Nat→Addr} {d:Dt} {s:List (List Int)} {a b c e:Addr} {sh sp es:List (V×V)}
theorem Fw{p:List Int}{r:Nat}(hr:r<8)(hp:p.length≤1000):Cv (a8 (n+2)) none 41 [pl p r] Z (pl (dA p) r):=by
 refine bh z7 rfl fun P q=>(au (ay (vs:=[pl p r]) (ab (ac rfl) ae) rfl jq) (au (dp (ac rfl)) (gO (n:=p.length+1) ?_)))
 refine(?_:∀ (m:Nat) (U:Env),m≤p.length→dA p=dA (p.take m)→U 0=some (pl p r)→U 1=some (.tup (aM p))→U 2=some (.int m)→WL _ _ _ _ (m+1) U Z) p.length _ (Nat.le_refl _) (by(refine af List.take_length ?_;with_reducible rfl)) rfl rfl rfl
 have fin:∀ (m:Nat) (U:Env),m≤p.length→dA p=p.take m→U 0=some (pl p r)→U 1=some (.tup (aM p))→U 2=some (.int m)→SS (a8 (n+1)) (match FK.body with | _::_::_::l=>l | _=>[]) U (fq P) Z:=by
  intro m U hm e h0 h1 h2
  have ev:Ev (a8 (n+1)) U Z (.slcH (.x 1) (.x 2)) (.tup (aM (dA p))):=fc (mf (ac h1) (ac h2) ⟨by omega,by omega⟩) (by refine af e ?_;delta aM;refine af List.map_take ?_;rfl)
  refine Or.elim (sZ hr) (fun h=>?_) (fun h=>?_)
  ·rw[(pZ h p).1] at h0
   rw[(pZ h _).1] at q
   exact az (ai (ao (aQ h0 rfl) an) rfl) (aw (aE (ab aj (ab (aQ h0 rfl) (ab ev ae)))) q)
  ·rcases h with rfl | rfl | rfl | rfl
   ·exact aq (ai (ao (aQ h0 rfl) an) rfl) (aw (aE (ab (aQ h0 rfl) (ab (aQ h0 rfl) (ab (aQ h0 rfl) (ab ev ae))))) q)
   ·exact aq (ai (ao (aQ h0 rfl) an) rfl) (aw (aE (ab (aQ h0 rfl) (ab (aQ h0 rfl) (ab (aQ h0 rfl) (ab ev ae))))) q)
   ·exact aq (ai (ao (aQ h0 rfl) an) rfl) (aw (aE (ab (aQ h0 rfl) (ab (aQ h0 rfl) (ab (aQ h0 rfl) (ab ev ae))))) q)
   ·exact aq (ai (ao (aQ h0 rfl) an) rfl) (aw (aE (ab (aQ h0 rfl) (ab (aQ h0 rfl) (ab (aQ h0 rfl) (ab ev ae))))) q)
 intro m
 induction m with
 |zero=>intro U _ e h0 h1 h2;exact eh (bc (d5 (ai (ao (ac h2) cr) rfl))) (fin 0 U (Nat.zero_le _) e h0 h1 h2)
 |succ m ih=>
  intro U hm e h0 h1 h2
  have gp:=List.getElem?_eq_getElem hm
  have ee:=List.take_append_getElem hm
  have t1:Et (a8 (n+1)) U Z (.cmp (.x 2) .Gt (.k (.int 0))) true:=ai (ao (ac h2) cr) (bR (by omega))
  have em:((m+1:Nat):Int) - 1=(m:Int):=by omega
  have ev:Ev (a8 (n+1)) U Z (.idx (.x 1) (.bin .Sub (.x 2) (.k (.int 1)))) (.int p[m]):=ah (v:=.int p[m]) (ac h1) (aA (u:=.int ((m+1:Nat):Int)) (w:=.int m) (ac h2) aj fun Q q=>by rw[← em] at q;exact q) (bP (Int.natCast_nonneg _) (by rw[Int.toNat_natCast];exact cy gp))
  by_cases h:p[m]=0
  ·refine cJ (bc (bZ t1 (ba (ai (ao ev an) (bR h))))) (jE (d:=m) h2 aj (by refine br em ?_;rfl) (ax (gU (ih _ (Nat.le_of_succ_le hm) ?_ h0 h1 rfl))))
   (refine ak (e) ?_;refine br ee ?_;refine af h ?_);exact gy _ 1
  ·refine eh (bc (bZ t1 (ba (ai (ao ev an) (bG h))))) (fin _ U hm ?_ h0 h1 h2)
   (refine ak (e) ?_;refine br ee ?_;(refine ak (oB h) ?_;with_reducible rfl))
theorem pK{u v:V}(h:dH u u=true):dH u v=true↔u=v:=⟨dU _ _,fun e=>e▸h⟩
theorem GW{p p':List Int}{r r':Nat}(hr:r<8)(hr':r'<8)(hp:p.length≤1000)(hp':p'.length≤1000):Cv (a8 (n+3)) none 42 [pl p r,pl p' r'] Z (.bool (decide (r=r'∧dA p=dA p'))):=by
 refine bh z6 rfl fun P q=>aw (fc (j5 (ay (vs:=[pl p r]) (ab (ac rfl) ae) rfl (Fw hr hp)) (ay (vs:=[pl p' r']) (ab (ac rfl) ae) rfl (Fw hr' hp')) (pj (by(refine af (oJ hr) ?_;refine ak (oJ hr') ?_);rfl))) ?_) q
 refine congrArg V.bool (Bool.eq_iff_iff.mpr ?_)
 (rewrite[pK (dx 30 _ (oJ hr))];rw[decide_eq_true_iff])
 exact⟨yt hr hr',fun⟨e1,e2⟩=>by(refine af e1 ?_;(refine af e2 ?_;with_reducible rfl))⟩
theorem Fm(T:Ms s sh sp)(k:Int):∃ m k',cj s k (i6 m)=some k'∧aU s k'=none∧∀ (M:Mw s a b c e sh sp es Z) (p:List Int),p.length≤100→Cv (a8 (n+1)) none 69 [.ref a,.tup (aM p),.int k] Z (.tup (aM (p++i6 m))):=by
 have go:∃ m k',cj s k (i6 m)=some k'∧aU s k'=none∧∀ (M:Mw s a b c e sh sp es Z) (P:bK) (p:List Int) (U:Env),p.length+rk s k≤200→U 0=some (.ref a)→U 1=some (.tup (aM p))→U 2=some (.int k)→(∀ U',U' 1=some (.tup (aM (p++i6 m)))→P .next U' Z)→
   WL (a8 n) (match Cy.body with | .wh t _::_=>t | _=>.bad) (match Cy.body with | .wh _ b::_=>b | _=>[]) P (m+1) U Z:=by
  refine ib T.ok (P:=fun k=>∃ m k',cj s k (i6 m)=some k'∧aU s k'=none∧∀ (M:Mw s a b c e sh sp es Z) (P:bK) (p:List Int) (U:Env),p.length+rk s k≤200→U 0=some (.ref a)→U 1=some (.tup (aM p))→U 2=some (.int k)→(∀ U',U' 1=some (.tup (aM (p++i6 m)))→P .next U' Z)→
   WL (a8 n) (match Cy.body with | .wh t _::_=>t | _=>.bad) (match Cy.body with | .wh _ b::_=>b | _=>[]) P (m+1) U Z) (fun k g=>⟨0,k,rfl,g,fun M P p U za h0 h1 h2 q=>?_⟩) (fun k r g ih=>?_) k
  ·have k1:=j9 (Z:=Z) M.hb (T.shK k)
   rw[jo T g] at k1
   exact eh (aL (ac h2) (ah (ac h0) aj M.i4) k1) (q U (by show _=some (V.tup (aM (p++[])));rw[List.append_nil];exact h1))
  ·have l:=(T.ok.row _ _ g).2.1
   have g0:=List.getElem?_eq_getElem l
   refine o2x3 (ih _ (List.getElem_mem l)) fun m k' e1 e2 e3=>?_
   have hr:=f9 T.ok g (List.getElem_mem l)
   refine⟨m+1,k',?_,e2,fun M P p U hp h0 h1 h2 q=>?_⟩
   ·show(match aU s k with | some r=>if 0≤(0:Int) then(match r[(0:Int).toNat]? with | some k'=>cj s k' (i6 m) | none=>none) else none | none=>none)=_
    refine af g ?_;skip;(refine ak (aG (Int.le_refl 0)) ?_;refine af (show((0:Int).toNat)=0 from rfl) ?_;refine af g0 ?_);exact e1
   ·have k1:=j9 (Z:=Z) M.hb (T.shK k)
    rw[fM T g] at k1
    have i4:bD Z (.ref b) (.int k)=some (.tup (aM r)):=aF M.hb (T.shK k) (fM T g)
    refine cJ (aL (ac h2) (ah (ac h0) aj M.i4) k1) (au (aA (ac h1) (aE (ab aj ae)) fun Q q=>⟨?_,by rw[cW p [0]] at q;exact q⟩) (au (v:=.int r[0]) (ah (ah (ah (ac h0) aj M.i4) (ac h2) i4) aj (bP (Int.le_refl 0) (cy g0))) (ax (gU (e3 M P (p++[0]) _ ?_ h0 rfl rfl fun U' h=>q U' ?_)))))
    ·refine af bz ?_;show p.length+1≤bL;delta bL;omega
    ·refine af List.length_append ?_;show _+1+_≤200;omega
    ·(refine ak (h) ?_;rw[List.append_assoc]);rfl
 refine o2x3 go fun m k' e1 e2 e3=>?_;clear go
 exact⟨m,k',e1,e2,fun M p hp=>bh zH rfl fun P q=>gO (e3 M _ p _ (by have:=eT T.ok k;omega) rfl rfl rfl fun U' h=>aw (ac h) q)⟩
end
theorem r9{K:aN}{U:Env}{Z:H}{P:aO}{e:E}{t:List Nat}{it:E}{ifs:List E}(h:WE K it U (fun v Zq=>∃ xs,bp Zq v=some xs∧sJ v∧CL K e t ifs U v xs P xs [] Zq) Z):WE K (.comp e t it ifs) U P Z:=by
 simp only[fR,ug] at *;exact h
section
variable {n:Nat} {Q:aO} {Z:H} {A:Nat→Addr} {d:Dt}
theorem Wd.ne0(hW:Wd A d Z){y:Addr}{l:List V}(h:Z y=some (.list l)):y≠A 0:=fun e=>by(rewrite[e] at h;rw[hW.o 0 rfl] at h);cases h
noncomputable def pT(w:List Int):V:=.tup (aM w)
theorem tV{K:aN}{U:Env}{P:aO}{src:V}{whole:List V}{k:Int}(h4:U 4=some (.int k))(hl:bp Z src=some whole)(l:Sp):∀ acc:List (List Int),(∀ a,Z a=none→P (.ref a) (Z.set a (.list ((acc++(l.filter fun x=>x.2 == k).map (·.1)).map pT))))→
  CL K (.x 101) [101,102] [.cmp (.x 102) .Eq (.x 4)] U src whole P (l.map eg) (acc.map pT) Z:=by
 induction l with
 |nil=>intro acc q;exact kb (by(rewrite[List.filter_nil] at q;rewrite[List.map_nil] at q;rw[List.append_nil] at q);exact q)
 |cons x l ih=>
  intro acc q
  obtain⟨w,kx⟩:=x
  refine Cq (b:=decide (kx=k)) rfl (aL (ac rfl) (ac h4) an) hl (fun c=>?_) fun c=>?_
  ·refine bj (v:=pT w) (ac rfl) ⟨hl,?_⟩
   have:=ih (acc++[w]) (by
    (rewrite[List.filter_cons_of_pos (by exact beq_iff_eq.mpr (of_decide_eq_true c))] at q;rw[List.map_cons] at q)
    rw[List.append_assoc];exact q)
   rw[List.map_append] at this;exact this
  ·exact ih acc (by
    rw[List.filter_cons_of_neg (by exact fun h=>of_decide_eq_false c (beq_iff_eq.mp h))] at q;exact q)
theorem GH(hW:Wd A d Z)(hd:Ok d){r:Nat}(hr:r<8){p:List Int}{k:Int}(hk:cj d.s (bt r) p=some k)(hc:d.cs.length≤1000)(q:∀ d' Z',Wd A d' Z'→Ok d'→Nx d d'→Q (.bool true) Z'):a8 (n+9) none 68 [.ref (A 2),.ref (A 0),.int r,.tup (aM p),.int k] Q Z:=by
 have p7:=cU hd.sh hk
 have hv:=hd.ty r hr
 refine o1x2 (hv.get p hk) fun u hu tu=>?_
 have e39:Cv (a8 (n+8)) none 39 [.ref (A 31),pl p r] Z u:=by
  have:=De (n:=n+4) (p:=p) hW hr hv
  rw[hu] at this;exact this
 refine bq zI rfl (au (ay (vs:=[.ref (A 31),pl p r]) (ab (av (ah (ac rfl) aj (aF (hW.o 2 rfl) rfl rfl)) (hW.f 9 rfl)) (ab (ay (vs:=[.ref (A 2),.int r,.tup (aM p)]) (ab (ac rfl) (ab (ac rfl) (ab (ac rfl) ae))) rfl (zh hW hr (by omega))) ae)) rfl e39) ?_)
 refine aW (aC (vs:=[.ref (A 0),.int 8]) (ab (ac rfl) (ab aj ae)) rfl (iT hW (by decide) fun g hg Z1 W1 o1=>?_))
 have fin:∀ (g:Nat) (fit:List (List Int)) (y:Addr) (U:Env) (Z2:H),g<8→fit≠[]→(∀ w ∈ fit,cj d.s (bt g) w=some k)→Wd A d.dr Z2→Z2 y=some (.list (fit.map pT))→U 0=some (.ref (A 2))→U 1=some (.ref (A 0))→U 4=some (.int k)→U 5=some u→U 6=some (.int g)→U 7=some (.ref y)→
   SS (a8 (n+8)) (match EJ.body with | _::_::_::_::l=>l | _=>[]) U (fq Q) Z2:=by
  intro g fit y U Z2 hg hf hw W2 hy h0 h1 h4 h5 h6 h7
  have lp:=List.length_pos_iff.mpr hf
  refine bO (cC rfl (aR (ac h0) (aR (ac h6) (eu (gu (bj (ac h7) (aC (vs:=[.ref (A 0),.int (fit.map pT).length]) (ab (ac h1) (ab (d0 (ac h7) hy) ae)) rfl (iT W2 (by rw[List.length_map];omega) fun i hi Z3 W3 o3=>?_))))))))
  rw[List.length_map] at hi
  have gi:=List.getElem?_eq_getElem (l:=fit) (i:=i) (by omega)
  refine⟨pT fit[i],aJ (o3 _ _ (W2.ne0 hy) hy) (Int.natCast_nonneg _) (by(rewrite[Int.toNat_natCast];refine ak (List.getElem?_map) ?_;refine af gi ?_);rfl),aR (ac h4) (aR (ac h5) (cK ?_))⟩
  exact Ec (n:=n+2) W3 hd.dr.dr hg (hw _ (List.getElem_mem _)) tu hc fun d' Z' W' o' x' za=>q d' Z' W' o' x'
 refine aW (r9 (aC (vs:=[.ref (A 2),.int (bt g)]) (ab (ac rfl) (ab (ah (ah (ac rfl) aj (aF (W1.o 2 rfl) rfl rfl)) (ac rfl) (dZ (by omega))) ae)) rfl (zi W1.mw hd.ms fun y Z2 x2 hy=>⟨_,be hy,trivial,tV rfl (be hy) _ [] fun z hz=>?_⟩)))
 have W2:=(W1.ext x2).ext (bA.refl.set (o:=.list (([]++((W d.dr.s (bt g)).filter fun(x:List Int×Int)=>x.2 == k).map fun(x:List Int×Int)=>x.1).map pT)) hz)
 rw[List.nil_append] at W2 ⊢
 generalize hfit:((W d.dr.s (bt g)).filter fun(x:List Int×Int)=>x.2 == k).map (·.1)=fit at W2 ⊢
 have lz:=d0 (C:=a8 (n+8)) (U:=(((bU EJ.ps [.ref (A 2),.ref (A 0),.int r,.tup (aM p),.int k] Env.nil).set 5 u).set 6 (.int g)).set 7 (.ref z)) (e:=.x 7) (ac rfl) (aB (Z:=Z2) (a:=z) (o:=.list (fit.map pT)))
 by_cases c:fit=[]
 ·subst c
  refine az (ai (ao lz an) rfl) (au (ac rfl) (aW (bx (vs:=[pT p]) (ab (ac rfl) ae) fun y' hy'=>ax ?_)))
  exact fin r [p] y' _ _ hr (fun h=>nomatch h) (fun w hw=>by refine af (List.mem_singleton.mp hw) ?_;exact hk) (W2.ext (bA.refl.set hy')) aB rfl rfl rfl rfl rfl rfl
 ·refine aq (ai (ao lz an) (bG (by rw[List.length_map];have:=List.length_pos_iff.mpr c;omega))) ?_
  refine fin g fit z _ _ (by omega) c (fun w hw=>?_) W2 aB rfl rfl rfl rfl rfl rfl
  rw[← hfit] at hw
  refine o1x2 (List.mem_map.mp hw) fun x hx e2=>?_;refine br e2 ?_
  refine o0x2 (List.mem_filter.mp hx) fun hx ek=>?_
  refine br (beq_iff_eq.mp ek) ?_;exact(fV hd.sh _ _).mp hx
theorem GD(hW:Wd A d Z)(hd:Ok d){r:Nat}(hr:r<8){p:List Int}{k:Int}(hk:cj d.s (bt r) p=some k)(q:∀ d' Z',Wd A d' Z'→Ok d'→i2 d d'→Q (.bool true) Z'):a8 (n+9) none 70 [.ref (A 2),.ref (A 0),.int r,.tup (aM p),.int k] Q Z:=by
 have p7:=cU hd.sh hk
 have rest:∀ (g:Nat) (d':Dt) (U:Env) (Z1:H),g<8→Wd A d' Z1→Ok d'→i2 d d'→U 0=some (.ref (A 2))→U 1=some (.ref (A 0))→U 2=some (.int r)→U 3=some (.tup (aM p))→U 4=some (.int k)→U 5=some (.int g)→
   SS (a8 (n+8)) (match FG.body with | _::_::l=>l | _=>[]) U (fq Q) Z1:=by
  intro g d' U Z1 hg W1 o1 kp h0 h1 h2 h3 h4 h5
  rw[← kp.1] at hk
  refine aW (aC (vs:=[.ref (A 2),.int (bt g)]) (ab (ac h0) (ab (ah (ah (ac h0) aj (aF (W1.o 2 rfl) rfl rfl)) (ac h5) (dZ hg)) ae)) rfl (zi W1.mw o1.ms fun y Z2 x2 hy=>?_))
  have W2:=W1.ext x2
  refine hH (gu (bj (ac rfl) (aC (vs:=[.ref (A 0),.int ((W d'.s (bt g)).map eg).length]) (ab (ac h1) (ab (d0 (ac rfl) hy) ae)) rfl (iT W2 pD fun i hi Z3 W3 o3=>?_))))
  refine o2x2 (dS (o3 _ _ (W2.ne0 hy) hy) hi o1.sh) fun w k' hw iw=>?_
  have w7:=cU o1.sh hw
  refine⟨_,iw,_,rfl,?_⟩
  refine au (ay (ab (ay (vs:=[.ref (A 2),.int r,.tup (aM p)]) (ab (ac h0) (ab (ac h2) (ab (ac h3) ae))) rfl (zh (n:=n+6) W3 hr (by omega))) (ab (ay (vs:=[.ref (A 2),.int g,.tup (aM w)]) (ab (ac h0) (ab (ac h5) (ab (ac rfl) ae))) rfl (zh (n:=n+6) W3 hg (by omega))) ae)) rfl (GW (n:=n+5) hr hg (by omega) (by omega))) ?_
  refine o2x3 (Fm (n:=n+7) (Z:=Z3) (a:=A 2) (b:=A 3) (c:=A 4) (e:=A 5) (es:=d'.dr.es) o1.dr.ms k) fun m kl a1 a2 a3=>?_
  refine o2x3 (Fm (n:=n+7) (Z:=Z3) (a:=A 2) (b:=A 3) (c:=A 4) (e:=A 5) (es:=d'.dr.es) o1.dr.ms k') fun m' kl' b1 b2 b3=>?_
  have e10:∀ U':Env,U' 0=some (.ref (A 2))→U' 2=some (.int r)→U' 3=some (.tup (aM p))→U' 4=some (.int k)→U' 5=some (.int g)→U' 7=some (.tup (aM w))→U' 8=some (.int k')→
    Eb (a8 (n+8)) U' Z3 .And [.cmp (.x 2) .Eq (.x 5),.cmp (.call (.k (.fn 69)) [.x 0,.x 3,.x 4]) .Eq (.call (.k (.fn 69)) [.x 0,.x 7,.x 8])] (decide (r=g∧dA p=dA w)):=by
   intro U' h0 h2 h3 h4 h5 h7 h8
   by_cases c:r=g
   ·subst c
    refine bZ (ai (aL (ac h2) (ac h5) an) (bR rfl)) (ba (ai (aL (ay (vs:=[.ref (A 2),.tup (aM p),.int k]) (ab (ac h0) (ab (ac h3) (ab (ac h4) ae))) rfl (a3 W3.mw p (by omega))) (ay (vs:=[.ref (A 2),.tup (aM w),.int k']) (ab (ac h0) (ab (ac h7) (ab (ac h8) ae))) rfl (b3 W3.mw w (by omega))) (pj (by(rewrite[jN 29];rw[jN 29]);rfl))) ?_))
    refine Bool.eq_iff_iff.mpr ?_
    (rewrite[pK (dx 30 _ (jN 29 _))];rw[decide_eq_true_iff])
    have f:=rB ((cV _ _ hk).trans a1) a2 ((cV _ _ hw).trans b1) b2
    exact⟨fun h=>⟨rfl,f.mp (lW (V.tup.inj h))⟩,fun h=>by(refine af (f.mpr h.2) ?_;with_reducible rfl)⟩
   ·refine af (bG (fun h=>c h.1)) ?_
    exact d5 (ai (aL (ac h2) (ac h5) an) (bG (by lia)))
  refine au (nU (e10 _ h0 h2 h3 h4 h5 rfl rfl)) (aw (nU (bZ (t6 (vs:=[.bool _,.bi 6]) (ab (ac rfl) (ab aj ae)) fun Q q=>⟨_,rfl,q⟩) (ba (ai (aL (ac rfl) (ac rfl) wS) (beq_self_eq_true _))))) (q _ _ W3 o1.dr kp))
 refine bq zG rfl (au (ac rfl) (dJ (eN (aC (vs:=[.ref (A 0),.int 3]) (ab (ac rfl) (ab aj ae)) rfl (iT hW (by decide) fun j hj Z1 W1 o1=>bj aj ⟨_,an,fun za=>?_,fun za=>ax (rest r _ _ _ hr W1 hd.dr ⟨rfl,rfl,rfl⟩ rfl rfl rfl rfl rfl rfl)⟩)))))
 exact aW (aC (vs:=[.ref (A 0),.int 8]) (ab (ac rfl) (ab aj ae)) rfl (iT W1 (by decide) fun g hg Z2 W2 o2=>ax (rest g _ _ _ (by omega) W2 hd.dr.dr ⟨rfl,rfl,rfl⟩ rfl rfl rfl rfl rfl rfl)))
end
theorem Nx.trans1{a b c:Dt}(x:i2 a b)(y:Nx b c):Nx a c:=⟨y.1.trans x.1,y.2.1.trans x.2.1,x.2.2▸y.2.2⟩
theorem H5{g:Nat}(h:(g:Int)<5)(h0:¬(g:Int)=0)(h1:¬(g:Int)=1)(h2:¬(g:Int)=2)(h3:¬(g:Int)=3):g=4:=by lia
theorem Fg{g:Nat}(h:(g:Int)<8):g<8:=Int.ofNat_lt.mp h
section
variable {n:Nat} {Q:aO} {Z:H} {A:Nat→Addr} {d:Dt} {s:List (List Int)}
theorem GC(hW:Wd A d Z)(hd:Ok d)(hc:d.cs.length≤1000)(q:∀ d' Z',Wd A d' Z'→Ok d'→Nx d d'→Q (.bool true) Z'):a8 (n+10) none 71 [.ref (A 2),.ref (A 0)] Q Z:=by
 refine bq zF rfl (aW (aC (vs:=[.ref (A 0),.int 8]) (ab (ac rfl) (ab aj ae)) rfl (iT hW (by decide) fun r hr Z1 W1 o1=>?_)))
 replace hr:=Fg hr
 refine aW (aC (vs:=[.ref (A 2),.int (bt r)]) (ab (ac rfl) (ab (ah (ah (ac rfl) aj (aF (W1.o 2 rfl) rfl rfl)) (ac rfl) (dZ hr)) ae)) rfl (zi W1.mw hd.ms fun y Z2 x2 hy=>?_))
 have W2:=W1.ext x2
 refine hH (gu (bj (ac rfl) (iz (bj (aA (d0 (ac rfl) hy) aj fun Q q=>q) (aC (vs:=[.ref (A 0),.int ((W d.s (bt r)).map eg).length]) (ab (ac rfl) (ab (d0 (ac rfl) hy) ae)) rfl (iT W2 pD fun i hi Z3 W3 o3=>?_))))))
 refine o2x2 (nl (o3 _ _ (W2.ne0 hy) hy) hi hd.sh) fun p k hk iw=>?_
 refine⟨_,iw,_,rfl,?_⟩
 refine dJ (iu (eF (aC (vs:=[.ref (A 2),.int r,.tup (aM p),.int k]) (ab (ac rfl) (ab (ac rfl) (ab (ac rfl) (ab (ac rfl) ae)))) rfl (Fp (n:=n) W3 hd.dr.dr hr hk fun Z4 x4=>⟨fun h=>(nomatch h),fun za=>ax ?_⟩))))
 refine aW (aC (vs:=[.ref (A 0),.int 5]) (ab (ac rfl) (ab aj ae)) rfl (iT (W3.ext x4) (by decide) fun g hg Z5 W5 o5=>?_))
 have tst:∀ (j:Int) (U:Env),U 6=some (.int g)→Et (a8 (n+9)) U Z5 (.cmp (.x 6) .Eq (.k (.int j))) (decide ((g:Int)=j)):=fun j U h=>ao (ac h) an
 have nx:∀ d' Z',Wd A d' Z'→Ok d'→Nx d d'→Q (.bool true) Z':=q
 by_cases g0:(g:Int)=0
 ·exact az (ai (tst 0 _ rfl) (bR g0)) (bO (aC (vs:=[.ref (A 2),.ref (A 0),.int r,.tup (aM p),.int k]) (ab (ac rfl) (ab (ac rfl) (ab (ac rfl) (ab (ac rfl) (ab (ac rfl) ae))))) rfl (GH (n:=n) W5 hd.dr.dr.dr hr hk hc nx)))
 refine aq (ai (tst 0 _ rfl) (bG g0)) ?_
 by_cases g1:(g:Int)=1
 ·refine az (ai (tst 1 _ rfl) (bR g1)) (bO (cC rfl (aR (ac rfl) (aR (ac rfl) (aR (ac rfl) (aR (ac rfl) (bN (cC rfl (aR (ac rfl) (aR (ac rfl) (bN (aC (vs:=[.ref (A 0),.int 997]) (ab (ac rfl) (ab aj ae)) rfl (iT W5 (by decide) fun z hz Z6 W6 o6=>Ed hd.ms k (n+8) z Z6 _ (Nat.le_trans (eT hd.sh k) (Nat.le_add_left 7 (n+1))) W6.mw fun x Z7 tx x7=>?_)))))))))))))
  exact Ec (n:=n+3) (W6.ext x7) hd.dr.dr.dr.dr hr hk tx hc fun d' Z' w o x za=>nx d' Z' w o x
 refine aq (ai (tst 1 _ rfl) (bG g1)) ?_
 by_cases g2:(g:Int)=2
 ·exact az (ai (tst 2 _ rfl) (bR g2)) (bO (cC rfl (aR (ac rfl) (aR (ac rfl) (aR (ac rfl) (bN (aC (vs:=[.ref (A 0),.int 2]) (ab (ac rfl) (ab aj ae)) rfl (iT W5 (by decide) fun z hz Z6 W6 o6=>Fo (n:=n) W6 hd.dr.dr.dr.dr hr hk fun d' Z' w o x=>nx d' Z' w o x.nx))))))))
 refine aq (ai (tst 2 _ rfl) (bG g2)) ?_
 by_cases g3:(g:Int)=3
 ·exact az (ai (tst 3 _ rfl) (bR g3)) (bO (aC (vs:=[.ref (A 2),.ref (A 0),.int r,.tup (aM p),.int k]) (ab (ac rfl) (ab (ac rfl) (ab (ac rfl) (ab (ac rfl) (ab (ac rfl) ae))))) rfl (GI (n:=n) W5 hd.dr.dr.dr hr hk fun d' Z' w o x=>nx d' Z' w o x.nx)))
 exact aq (ai (tst 3 _ rfl) (bG g3)) (bO (aC (vs:=[.ref (A 2),.ref (A 0),.int r,.tup (aM p),.int k]) (ab (ac rfl) (ab (ac rfl) (ab (ac rfl) (ab (ac rfl) (ab (ac rfl) ae))))) rfl (GD (n:=n) W5 hd.dr.dr.dr hr hk fun d' Z' w o x=>nx d' Z' w o x.nx)))
theorem Fk(hW:Wd A d Z)(hd:Ok d){k:Int}(q:∀ w k' Z',bA Z Z'→cj d.s k w=some k'→aU d.s k'=none→Q (eg (w,k')) Z'):a8 (n+2) none 73 [.ref (A 2),.int k] Q Z:=by
 refine bq zD rfl (au (v:=eg ([],k)) (aE (ab (aE ae) (ab (ac rfl) ae))) (f6 (aC (vs:=[.ref (A 2),.int k]) (ab (ac rfl) (ab (ac rfl) ae)) rfl (zi hW.mw hd.ms fun y Z1 x1 hy=>⟨_,be hy,?_⟩))))
 have top:(([],k):List Int×Int) ∈ W d.s k:=(fV hd.sh k []).mpr rfl
 refine(?_:∀ (l pre:Sp) (b:List Int×Int) (U:Env),W d.s k=pre++l→b ∈ W d.s k→(∀ z ∈ pre,z.1.length≤b.1.length)→U 2=some (eg b)→FL _ _ _ _ _ _ (l.map eg) U Z1) (W d.s k) [] ([],k) _ rfl top (fun za h=>nomatch h) rfl
 intro l
 induction l with
 |nil=>
  intro pre b U e hb hm h2
  rw[List.append_nil] at e
  rw[← e] at hm
  exact b8 (aw (ac h2) (q b.1 b.2 _ x1 ((fV hd.sh k b.1).mp hb) (mu hd.sh hb hm)))
 |cons z l ih=>
  intro pre b U e hb hm h2
  have e':W d.s k=(pre++[z])++l:=by rw[List.append_assoc];exact e
  have hz:z ∈ W d.s k:=by refine af e ?_;exact List.mem_append_right _ (.head _)
  have tst:Et (a8 (n+1)) (U.set 3 (eg z)) Z1 (.cmp (.call (.k (.bi 0)) [.idx (.x 3) (.k (.int 0))]) .Gt (.call (.k (.bi 0)) [.idx (.x 2) (.k (.int 0))])) (decide ((b.1.length:Int)<z.1.length)):=aL (dp (aQ rfl rfl)) (dp (aQ h2 rfl)) cr
  refine bQ rfl ?_
  by_cases c:b.1.length<z.1.length
  ·refine az (ai tst (bR (Int.ofNat_lt.mpr c))) (au (ac rfl) (ax (ax ⟨be hy,ih _ z _ e' hz (fun w hw=>?_) rfl⟩)))
   rcases List.mem_append.mp hw with h | h
   ·exact Nat.le_trans (hm w h) (Nat.le_of_lt c)
   ·refine af (List.mem_singleton.mp h) ?_;exact Nat.le_refl _
  ·refine aq (ai tst (bG fun h=>c (Int.ofNat_lt.mp h))) (ax ⟨be hy,ih _ b _ e' hb (fun w hw=>?_) h2⟩)
   rcases List.mem_append.mp hw with h | h
   ·exact hm w h
   ·refine af (List.mem_singleton.mp h) ?_;exact Nat.le_of_not_lt c
theorem tZ{C:aN}{U:Env}{e:E}{is:List Int}{i:Int}{j:Nat}(h:Ev C U Z e (.int i))(g:is.findIdx? (fun x=>x == i)=some j):Ev C U Z (.mth (.k (.tup (aM is))) 91 [e]) (.int j):=⟨fun Q q=>⟨_,rfl,rfl,h.go _ ⟨rfl,is,j,rfl,g,q⟩⟩⟩
theorem GA{k:Int}{v:V}(hv:Ty s k v)(hk:aU s k=none)(q:∀ x,Ty s k x→Q x Z):a8 (n+1) none 74 [v] Q Z:=by
 cases hv with
 |node _ _ _ g _ _=>rw[hk] at g;exact ns g
 |leaf _ t z g lo=>
  refine bq zC rfl ?_
  have tst:Et (a8 n) (bU Di.ps [.tup [.int t,.int z]] Env.nil) Z (.cmp (.idx (.x 0) (.k (.int 0))) .Eq (.k (.int 4))) (decide (t=4)):=ao (aQ rfl rfl) an
  have lo':=lo
  unfold eA at lo
  by_cases c:k=12
  ·rw[aG c] at lo
   obtain⟨rfl,hz⟩:=lo
   have fin:∀ (j:Nat) (u:Int),([0,16,20,24]:List Int).findIdx? (fun x=>x == z)=some j→bD Z (.tup (aM [0,16,20,24])) (.int (((j:Int)+1) % 4))=some (.int u)→u ∈ ([0,16,20,24]:List Int)→SS (a8 n) Di.body (bU Di.ps [.tup [.int 4,.int z]] Env.nil) (fq Q) Z:=fun j u hj hu hm=>by
    refine az (ai tst rfl) (aw (aE (ab aj (ab (ah (k:=.int (((j:Int)+1) % 4)) aj (aA (aA (w:=.int ((j:Int)+1)) (tZ (aQ rfl rfl) hj) aj fun Q q=>q) aj fun Q q=>⟨by decide,q⟩) hu) ae))) (q _ (.leaf _ _ _ g ?_)))
    unfold eA;refine af (aG c) ?_;exact⟨rfl,hm⟩
   have hz:z=0∨z=16∨z=20∨z=24:=by simpa using hz
   rcases hz with rfl | rfl | rfl | rfl
   ·exact fin 0 16 rfl rfl (by decide)
   ·exact fin 1 20 rfl rfl (by decide)
   ·exact fin 2 24 rfl rfl (by decide)
   ·exact fin 3 0 rfl rfl (by decide)
  ·rw[aD c] at lo
   have t4:t≠4:=by lia
   refine aq (ai tst (bG t4)) (aw (aE (ab (aQ rfl rfl) (ab (aA (w:=.int ((z+1) % 120)) (aA (w:=.int (z+1)) (aQ rfl rfl) aj fun Q q=>q) aj fun Q q=>⟨by decide,q⟩) ae))) (q _ (.leaf _ _ _ g ?_)))
   unfold eA;refine af (aD c) ?_;exact lo
theorem Gz(hW:Wd A d Z)(hd:Ok d)(hc:d.cs.length≤900)(q:∀ d' Z',Wd A d' Z'→Ok d'→d'.s=d.s→d'.nums=d.nums→Q (.bool true) Z'):a8 (n+10) none 75 [.ref (A 2)] Q Z:=by
 refine bq zB rfl (cg (v:=.rng ((8:Nat):Int)) (aZ (vs:=[.int 8]) (ab aj ae) fun Q q=>⟨_,rfl,⟨by decide,by decide⟩,q⟩) rfl ?_)
 refine gY (N:=8) (fun i U Z'=>∃ d',Wd A d' Z'∧Ok d'∧d'.s=d.s∧d'.nums=d.nums∧d'.cs.length≤900+i∧U 0=some (.ref (A 2))) ?_ ⟨d,hW,hd,rfl,rfl,hc,rfl⟩ fun U Z' ⟨d',W',o',e1,e2,_⟩=>aw aj (q d' Z' W' o' e1 e2)
 intro r hr U Z1 p0;refine o1x6 p0 fun d' W1 o1 e1 e2 hc' h0=>?_;clear p0;intro R hR hv
 refine hH (aC (vs:=[.ref (A 2),.int (bt r)]) (ab (ac h0) (ab (ah (ah (ac h0) aj (aF (W1.o 2 rfl) rfl rfl)) (ac rfl) (dZ hr)) ae)) rfl (Fk (n:=n+7) W1 o1 fun p k Z2 x2 hk hl=>⟨_,rfl,?_⟩))
 have W2:=W1.ext x2
 refine o1x2 ((o1.ty r hr).get p hk) fun u hu tu=>?_
 have hcell:=o1.cell r hr p k hk hl
 rw[hu] at hcell
 have h0':∀ (v w:V) ,(((U.set 1 (.int r)).set 2 v).set 3 w) 0=some (.ref (A 2)):=fun v w=>h0
 have xI:d'.cs.length≤1000:=Nat.le_trans hc' (Nat.le_trans (Nat.add_le_add_left (Nat.le_of_lt hr) _) (by decide))
 refine dJ (iu (eF (cC rfl (aR (ac (h0' _ _)) (aR (ac rfl) (aR (ac rfl) (aR (ac rfl) (bN (aC (vs:=[u]) (ab (ah (ah (ac (h0' _ _)) aj W2.mw.i5) (aE (vs:=[.int r,.tup (aM p)]) (ab (ac rfl) (ab (ac rfl) ae))) (aF W2.mw.he (o1.esK r p) hcell)) ae) rfl (GA tu hl fun x tx=>Ec (n:=n+3) W2 o1 hr hk tx xI fun d2 Z3 W3 o3 nx za=>⟨fun h=>(nomatch h),fun za=>ax ?_⟩))))))))))
 rw[← nx.1] at hk
 refine dJ (iu (eF (aC (vs:=[.ref (A 2),.int r,.tup (aM p),.int k]) (ab (ac (h0' _ _)) (ab (ac rfl) (ab (ac rfl) (ab (ac rfl) ae)))) rfl (Fp (n:=n) W3 o3 hr hk fun Z4 x4=>⟨fun h=>(nomatch h),fun za=>ax (ax (hR _ _ ⟨d2,W3.ext x4,o3,nx.1.trans e1,nx.2.1.trans e2,?_,h0' _ _⟩))⟩))))
 exact Nat.le_trans nx.2.2 (Nat.succ_le_succ hc')
end
section
variable {K:aN} {U:Env} {Z:H} {P:aO}
structure C6 (K:aN) (ks es:List E) (U:Env) (P:List (V×V)→H→Prop) (Z:H):Prop where
 go:A4 (sj K ks U) (sj K es U) P Z
theorem BV{ks es:List E}{P:List (V×V)→H→Prop}:C6 K ks es U P Z=A4 (sj K ks U) (sj K es U) P Z:=propext ⟨fun h=>h.go,fun h=>⟨h⟩⟩
theorem lV{P:List (V×V)→H→Prop}(h:P [] Z):C6 K [] [] U P Z:=⟨h⟩
theorem dj{k e:E}{ks es:List E}{u:V}{P:List (V×V)→H→Prop}(hk:Ev K U Z k u)(h:WE K e U (fun v Z'=>C6 K ks es U (fun r Z''=>P ((u,v)::r) Z'') Z') Z):C6 K (k::ks) (e::es) U P Z:=by
 simp only[fR,BV] at *;exact hk.go _ h
theorem lB{ks es:List E}(h:C6 K ks es U (fun r Z'=>rq r=true∧∀ a,Z' a=none→P (.ref a) (Z'.set a (.dict (dF [] r)))) Z):WE K (.dct ks es) U P Z:=⟨h.go⟩
theorem zs{m:Nat}{x:V}(h:pv 30 x=true):kC Z m x=some (gM x):=by
 induction x using V.casesOn with
 |ref a=>exact ff h
 |_=>induction m using Nat.casesAuxOn<;>exact aG h
theorem wO{m:Nat}{xs:List V}(h:∀ x ∈ xs,pv 30 x=true):xs.mapM (kC Z m)=some (fT xs):=by
 induction xs with
 |nil=>rfl
 |cons x xs ih=>(refine ak (List.mapM_cons) ?_;refine af (zs (h x (.head _))) ?_;refine af (ih fun y hy=>h y (.tail _ hy)) ?_);rfl
theorem d7{m:Nat}{a:Addr}{xs:List V}(ha:Z a=some (.list xs))(h:∀ x ∈ xs,pv 30 x=true):kC Z (m+1) (.ref a)=some (.list (fT xs)):=by
 unfold kC;refine af ha ?_;dsimp only;refine af (wO h) ?_;rfl
theorem iG{a b:Addr}{xs:List V}(ha:Z a=some (.list xs))(hb:Z b=some (.list xs))(h:∀ x ∈ xs,pv 30 x=true):nc Z (.ref a) (.ref b):=⟨_,d7 ha h,d7 hb h⟩
theorem xD{m:Nat}{a:Addr}{x y z:V}{p q r:PyData}(ha:Z a=some (.list [x,y,z]))(hx:kC Z m x=some p)(hy:kC Z m y=some q)(hz:kC Z m z=some r):kC Z (m+1) (.ref a)=some (.list [p,q,r]):=by
 unfold kC;refine af ha ?_;dsimp only;(refine af List.mapM_cons ?_;refine af List.mapM_cons ?_;refine af List.mapM_cons ?_;refine af hx ?_;refine af hy ?_;refine af hz ?_);rfl
theorem w5{x:V}(h:pv 30 x=true):∀ y ∈ [x],pv 30 y=true:=fun y hy=>by refine af (List.mem_singleton.mp hy) ?_;exact h
theorem uH{x z:V}(h:pv 30 x=true)(k:pv 30 z=true):∀ y ∈ [x,z],pv 30 y=true:=fun y hy=>(List.mem_cons.mp hy).elim (fun e=>e▸h) (w5 k y)
theorem g8{o:E}{l:List E}{xs:List V}{a:Addr}{Q:Bool→H→Prop}(ho:Ev K U Z o (.ref a))(ha:Z a=some (.list xs))(hl:Es K U Z l xs)(h:∀ x ∈ xs,pv 30 x=true)(q:∀ Z',bA Z Z'→Q false Z'):WT K (.cmp o .NotEq (.lst l)) U Q Z:=
 eN (bj ho (bx hl fun b hb=>⟨false,⟨rfl,.inl (iG (bA.new hb _ _ ha) aB h)⟩,q _ (bA.new hb)⟩))
theorem mZ{l:List (V×V)}(h:∀ e ∈ l,∃ i,e=(.int i,.int 1)):f8 Z l l:=by
 induction l with
 |nil=>trivial
 |cons e l ih=>
  refine aH (h _ (.head _)) fun i e1=>?_;refine af e1 ?_
  exact⟨rfl,⟨i,rfl⟩,⟨_,rfl,rfl⟩,ih fun e he=>h e (.tail _ he)⟩
end
noncomputable def dw(d:Dt):List V:=[d.v 0,d.v 1,d.v 2,d.v 3,d.v 4,d.v 5,d.v 6,d.v 7]
theorem gx(d:Dt){r:Nat}(hr:r<8):(dw d)[r]? = some (d.v r):=fF (P:=fun r=>(dw d)[r]? = some (d.v r)) rfl rfl rfl rfl rfl rfl rfl rfl hr
structure Vw (A:Nat→Addr) (d:Dt) (y:Addr) (Z:H):Prop where
 w:Wd A d Z
 y:Z y=some (.list (dw d))
theorem Vw.ext{A:Nat→Addr}{d:Dt}{y:Addr}{Z Z':H}(h:Vw A d y Z)(x:bA Z Z'):Vw A d y Z':=⟨h.w.ext x,x _ _ h.y⟩
section
variable {n:Nat} {Q:aO} {Z:H} {A:Nat→Addr} {d:Dt}
theorem Vw.ev{K:aN}{U:Env}{y:Addr}(h:Vw A d y Z)(h1:U 1=some (.ref y))(r:Nat)(hr:r<8):Ev K U Z (.idx (.x 1) (.k (.int r))) (d.v r):=aQ h1 (aJ h.y (Int.natCast_nonneg _) (by rw[Int.toNat_natCast];exact gx d hr))
theorem Gy(hW:Wd A d Z)(hd:Ok d)(q:∀ Z',bA Z Z'→Q (.bool true) Z'):a8 (n+9) none 76 [.ref (A 2)] Q Z:=by
 have pv':∀ r,r<8→Mine.pv 30 (d.v r)=true:=fun r hr=>(hd.ty r hr).pv hd.sh
 have pc:∀ t z:Int,Mine.pv 30 (.tup [.int t,.int z])=true:=fun za za=>rfl
 refine bq zA rfl (aW (d4 (n:=8) (fun acc Z'=>bA Z Z'∧acc=(dw d).take acc.length) (aZ (vs:=[.int 8]) (ab aj ae) fun Q q=>⟨_,rfl,⟨by decide,by decide⟩,q⟩) (by decide) ⟨bA.refl,rfl⟩ ?_ (fun v h=>nomatch h) ?_))
 ·intro acc Z' hl hI U' hb R hR
  refine br (aP hb) ?_
  have W1:=hW.ext hI.1
  refine aC (vs:=[.ref (A 2),.int acc.length,.tup (aM []),.int (bt acc.length)]) (ab (ac rfl) (ab (ac rfl) (ab (aE ae) (ab (ah (ah (ac rfl) aj (aF (W1.o 2 rfl) rfl rfl)) (ac rfl) (dZ hl)) ae)))) rfl (Dd hd.ms _ (n+7) acc.length [] (d.v acc.length) Z' _ (Nat.le_trans (eT hd.sh _) (Nat.le_add_left 7 n)) (Nat.le_trans (Nat.le_of_eq (Nat.zero_add _)) (Nat.le_trans (eT hd.sh _) (by decide))) W1.mw hd.esK (hd.ty _ hl) (fun w k' h g=>hd.cell _ hl w k' h g) fun Z'' x=>hR _ Z'' ⟨hI.1.trans x,?_⟩)
  refine af List.length_append ?_
  show _=(dw d).take (acc.length+1)
  (refine af List.take_succ ?_;refine af (gx d hl) ?_;refine br hI.2 ?_);rfl
 ·intro acc Z0 hl hI y hy
  have ea:acc=dw d:=by(refine ak (hI.2) ?_;refine af hl ?_);rfl
  refine af ea ?_
  have xa:bA Z (Z0.set y (.list (dw d))):=hI.1.trans (bA.new hy)
  have I0:Vw A d y _:=⟨hW.ext xa,aB⟩
  generalize Z0.set y (.list (dw d))=Z1 at xa I0 ⊢
  clear hI hl hy
  refine au (ah (ac rfl) aj (aF (I0.w.o 2 rfl) rfl rfl)) (lH (u:=.ref (A 33)) (v:=.ref (A 34)) (ah (ac rfl) aj (aF (I0.w.o 2 rfl) rfl rfl)) ?_)
  refine dJ (mL (g8 (bf rfl (I0.w.f 19 rfl)) (I0.w.o 11 rfl) (ab (I0.ev rfl 0 (by decide)) (ab (aE (ab aj (ab aj ae))) ae)) (uH (pv' 0 (by decide)) (pc _ _)) fun Z2 x2=>⟨fun h=>(nomatch h),fun za=>fZ ?_⟩))
  have I2:=I0.ext x2
  refine g8 (bf rfl (I2.w.f 20 rfl)) (I2.w.o 12 rfl) (ab (I2.ev rfl 1 (by decide)) (ab (aE (ab aj (ab aj ae))) ae)) (uH (pv' 1 (by decide)) (pc _ _)) fun Z3 x3=>⟨fun h=>(nomatch h),fun za=>ax ?_⟩
  have I3:=I2.ext x3
  replace xa:=(xa.trans x2).trans x3
  clear I0 I2 x2 x3
  refine dJ (mL (g8 (bf rfl (I3.w.f 26 rfl)) (I3.w.o 13 rfl) (ab (I3.ev rfl 7 (by decide)) ae) (w5 (pv' 7 (by decide))) fun Z4 x4=>⟨fun h=>(nomatch h),fun za=>mL ?_⟩))
  have I4:=I3.ext x4
  refine g8 (bf rfl (I4.w.f 25 rfl)) (I4.w.o 14 rfl) ae (fun za h=>nomatch h) fun Z5 x5=>⟨fun h=>(nomatch h),fun za=>fZ ?_⟩
  have I5:=I4.ext x5
  refine g8 (bf rfl (I5.w.f 24 rfl)) (I5.w.o 15 rfl) ae (fun za h=>nomatch h) fun Z6 x6=>⟨fun h=>(nomatch h),fun za=>ax ?_⟩
  have I6:=I5.ext x6
  replace xa:=((xa.trans x4).trans x5).trans x6
  clear I3 I4 I5 x4 x5 x6
  refine dJ (eN (bj (bf rfl (I6.w.f 7 rfl)) (lB (dj (ah (ac rfl) aj (aF (I6.w.o 2 rfl) rfl rfl)) (bx (vs:=[.tup [.int 1,.int 57],d.v 2]) (ab (aE (ab aj (ab aj ae))) (ab (I6.ev rfl 2 (by decide)) ae)) fun b hb=>lV ⟨rfl,fun c hc=>?_⟩)))))
  have x7:=bA.new (o:=.list [.tup [.int 1,.int 57],d.v 2]) hb
  have x8:=bA.new (o:=.dict [(.int 17,.ref b)]) hc
  have I8:=(I6.ext x7).ext x8
  refine⟨false,⟨rfl,.inr ⟨_,_,I8.w.o 9 rfl,aB,rfl,⟨17,rfl⟩,iG (I8.w.o 10 rfl) (x8 _ _ aB) (uH (pc _ _) (pv' 2 (by decide))),trivial⟩⟩,fun h=>(nomatch h),fun za=>ax ?_⟩
  replace xa:=(xa.trans x7).trans x8
  change bA Z ((Z6.set b (.list [.tup [.int 1,.int 57],d.v 2])).set c (.dict (dF [] [(.int 17,.ref b)]))) at xa
  change Vw A d y ((Z6.set b (.list [.tup [.int 1,.int 57],d.v 2])).set c (.dict (dF [] [(.int 17,.ref b)]))) at I8
  generalize (Z6.set b (.list [.tup [.int 1,.int 57],d.v 2])).set c (.dict (dF [] [(.int 17,.ref b)]))=Z8 at xa I8 ⊢
  clear I6 x7 x8 hb hc
  have th:=be (I8.w.o 17 rfl)
  refine dJ (eN (lC (av (bf rfl (I8.w.f 0 rfl)) (I8.w.f 14 rfl)) th trivial (il rfl (bj (bf rfl (I8.w.f 32 rfl)) ⟨th,il rfl (bj (bf rfl (I8.w.f 37 rfl)) ⟨th,il rfl (bj (bf rfl (I8.w.f 42 rfl)) ⟨th,kb fun b hb=>?_⟩)⟩)⟩))))
  have x9:=bA.new (o:=.list ([]++[.ref (A 19)]++[.ref (A 20)]++[.ref (A 21)])) hb
  have I9:=I8.ext x9
  refine pH (eu (bx (vs:=[.tup [.int 4,.int 24],d.v 3]) (ab (aE (ab aj (ab aj ae))) (ab (I9.ev rfl 3 (by decide)) ae)) fun c1 hc1=>?_))
  have y1:=bA.new (o:=.list [.tup [.int 4,.int 24],d.v 3]) hc1
  have I10:=I9.ext y1
  refine eu (bx (vs:=[d.v 4,d.v 5]) (ab (I10.ev rfl 4 (by decide)) (ab (I10.ev rfl 5 (by decide)) ae)) fun c2 hc2=>?_)
  have y2:=bA.new (o:=.list [d.v 4,d.v 5]) hc2
  have I11:=I10.ext y2
  refine eu (bx (vs:=[d.v 6]) (ab (I11.ev rfl 6 (by decide)) ae) fun c3 hc3=>cK fun c4 hc4=>?_)
  have y3:=bA.new (o:=.list [d.v 6]) hc3
  have y4:=bA.new (o:=.list [.ref c1,.ref c2,.ref c3]) hc4
  have I12:=(I11.ext y3).ext y4
  have l3:=uH (pc 4 24) (pv' 3 (by decide))
  have l4:=uH (pv' 4 (by decide)) (pv' 5 (by decide))
  have l6:=w5 (pv' 6 (by decide))
  have e1:=(((y1.trans y2).trans y3).trans y4) _ _ aB
  refine⟨false,⟨rfl,.inl ⟨_,xD e1 (d7 (I12.w.o 19 rfl) l3) (d7 (I12.w.o 20 rfl) l4) (d7 (I12.w.o 21 rfl) l6),xD aB (d7 (((y2.trans y3).trans y4) _ _ aB) l3) (d7 ((y3.trans y4) _ _ aB) l4) (d7 (y4 _ _ aB) l6)⟩⟩,fun h=>(nomatch h),fun za=>ax ?_⟩
  replace xa:=((((xa.trans x9).trans y1).trans y2).trans y3).trans y4
  generalize H.set _ c4 _=Z12 at xa I12 ⊢
  clear I8 I9 I10 I11 x9 y1 y2 y3 y4 hb hc1 hc2 hc3 hc4 e1 l3 l4 l6 th
  have W:=I12.w
  refine bO (xl (jx (kG (aL (c:=true) (av (bf rfl (W.f 0 rfl)) (W.f 16 rfl)) (ah (ac rfl) aj (aF (W.o 2 rfl) rfl rfl)) ⟨rfl,.inr ⟨d.hc,d.cs,W.o 18 rfl,W.o 6 rfl,by refine af hd.cc ?_;exact mZ hd.csI⟩⟩) ⟨fun za=>jx (kG (ao (av (bf rfl (W.f 0 rfl)) (W.f 18 rfl)) an) ⟨fun za=>fZ (eN ?_),fun h=>nomatch h⟩),fun h=>nomatch h⟩)))
  have told:∀ {R:aO},(∀ b,Z12 b=none→R (.ref b) (Z12.set b (.list (if d.flag then[.int 4] else[]))))→WE (a8 (n+8)) (.comp (.idx (.x 101) (.k (.int 0))) [101] (.att (.x 2) 159) []) ((((bU FE.ps [.ref (A 2)] Env.nil).set 1 (.ref y)).set 2 (.ref (A 30))).set 3 (.ref (A 33)) |>.set 4 (.ref (A 34))) R Z12:=fun{R} k=>by
   have tl:=be (W.o 27 rfl)
   refine lC (bf rfl (W.f 8 rfl)) tl trivial ?_
   induction hf:d.flag using Bool.casesOn with
   |true=>
    rw[hf] at tl k
    exact il rfl (bj (aQ rfl rfl) ⟨tl,kb k⟩)
   |false=>rw[hf] at k;exact kb k
  refine told fun b hb=>bj (v:=.ref d.wa) (ah (ac rfl) aj (aF ((W.ext (bA.new hb)).o 2 rfl) rfl rfl)) ⟨true,⟨rfl,.inl (iG aB (hd.ww▸(W.ext (bA.new hb)).wr.1) ?_)⟩,q _ (xa.trans (bA.new hb))⟩
  split
  ·exact w5 rfl
  ·exact fun za h=>nomatch h
end
structure Hp (B:Nat→Addr) (hs:List O) (F Z:H):Prop where
 o:∀ (i:Nat) {o:O},hs[i]? = some o→Z (B i)=some o
 inj:∀ i j,i<hs.length→j<hs.length→B i=B j→i=j
 fr:bA F Z
 off:∀ i,i<hs.length→F (B i)=none
noncomputable def aK(B:Nat→Addr)(n:Nat)(bs:List Addr):Nat→Addr:=fun i=>if i<n then B i else bs.getD (i - n) 0
inductive It where
 |x (i:Nat)
 |k (v:V)
 |lst (l:List V)
 |dct
 |ev (e:E) (v:V)
noncomputable def It.e:It→E
 |.x i=>.x i
 |.k v=>.k v
 |.lst l=>.lst (l.map E.k)
 |.dct=>.dct [] []
 |.ev e _=>e
noncomputable def It.o:It→Option O
 |.lst l=>some (.list l)
 |.dct=>some (.dict [])
 |_=>none
noncomputable def It.v(U:Env):It→V
 |.x i=>(U i).getD .none
 |.k v=>v
 |.ev _ v=>v
 |_=>.none
noncomputable def fp(U:Env)(bs:List Addr):Nat→List (Nat×V)→List (Nat×It)→List (Nat×V)
 |_,fs,[]=>fs
 |k,fs,x::r=>match x.2.o with
  |none=>fp U bs k (cX fs x.1 (x.2.v U)) r
  |some _=>fp U bs (k+1) (cX fs x.1 (.ref (bs.getD k 0))) r
theorem rA{U:Env}{b:Addr}{bs:List Addr}(its:List (Nat×It)):∀ k fs,fp U (b::bs) (k+1) fs its=fp U bs k fs its:=by
 induction its with
 |nil=>intro _ _;rfl
 |cons x r ih=>
  intro k fs
  show(match x.2.o with | none=>fp U (b::bs) (k+1) (cX fs x.1 (x.2.v U)) r | some _=>fp U (b::bs) (k+2) (cX fs x.1 (.ref (bs.getD k 0))) r)=match x.2.o with | none=>fp U bs k (cX fs x.1 (x.2.v U)) r | some _=>fp U bs (k+1) (cX fs x.1 (.ref (bs.getD k 0))) r
  split
  ·exact ih _ _
  ·exact ih _ _
noncomputable def BX(c:Nat)(U:Env)(x:Nat×It):Bool:=(bk c).contains x.1 && (match x.2 with | .x i=>(U i).isSome | _=>true)
noncomputable def xA:List (Nat×It)→List (E×V)
 |[]=>[]
 |x::r=>match x.2 with | .ev e v=>(e,v)::xA r | _=>xA r
noncomputable def vJ(its:List (Nat×It)):List O:=its.filterMap fun x=>x.2.o
noncomputable def wo(its:List (Nat×It)):List C:=its.map fun x=>.set (.att (.x 0) x.1) x.2.e
section
variable {B B':Nat→Addr} {hs:List O} {F Z Z':H} {n:Nat}
theorem Hp.ext(R:Hp B hs F Z)(x:bA Z Z'):Hp B hs F Z':=⟨fun i o e=>x _ _ (R.o i e),R.inj,R.fr.trans x,R.off⟩
theorem Hp.put(R:Hp B hs F Z){i:Nat}{o':O}(hi:i<hs.length)(x:jl (B i) Z Z')(h:Z' (B i)=some o'):Hp B (hs.set i o') F Z':=by
 have l:(hs.set i o').length=hs.length:=List.length_set
 refine⟨fun j o e=>?_,fun j k hj hk=>R.inj j k (l▸hj) (l▸hk),fun a o e=>x a o (fun q=>by(rewrite[q] at e;rw[R.off i hi] at e);exact ns e) (R.fr a o e),fun j hj=>R.off j (l▸hj)⟩
 have hj:=(List.getElem?_eq_some_iff.mp e).1
 by_cases c:i=j
 ·subst c;rw[List.getElem?_set_self hi] at e;refine br (aP e) ?_;exact h
 ·rw[List.getElem?_set_ne c] at e
  exact x _ _ (fun q=>c (R.inj _ _ (l▸hj) hi q).symm) (R.o j e)
theorem Hp.set(R:Hp B hs F Z){i:Nat}(hi:i<hs.length)(o':O):Hp B (hs.set i o') F (Z.set (B i) o'):=R.put hi bA.refl.off.set aB
theorem Hp.congr(R:Hp B hs F Z)(h:∀ i,i<hs.length→B' i=B i):Hp B' hs F Z:=
 ⟨fun i o e=>by refine af (h i (List.getElem?_eq_some_iff.mp e).1) ?_;exact R.o i e,fun i j hi hj e=>R.inj i j hi hj (by(refine br (h i hi) ?_;refine br (h j hj) ?_);exact e),R.fr,fun i hi=>by refine af (h i hi) ?_;exact R.off i hi⟩
theorem cA{bs:List Addr}{i:Nat}(h:i<n):aK B n bs i=B i:=aG h
theorem eD{b:Addr}{bs:List Addr}:aK B n (b::bs) n=b:=(aD (Nat.lt_irrefl n)).trans (by rw[Nat.sub_self];rfl)
theorem qx{b:Addr}{bs:List Addr}(i:Nat):aK B n (b::bs) i=aK (aK B n [b]) (n+1) bs i:=by
 refine Fb (Nat.lt_trichotomy i n) (fun h=>?_) (fun h=>?_) (fun h=>?_)
 ·(refine ak (cA h) ?_;refine af (cA (Nat.lt_succ_of_lt h)) ?_;(refine af (cA h) ?_;with_reducible rfl))
 ·subst h;(refine ak (eD) ?_;refine af (cA (Nat.lt_succ_self _)) ?_;(refine af eD ?_;with_reducible rfl))
 ·refine aH (Nat.exists_eq_add_of_lt h) fun j e1=>?_;obtain rfl:=e1
  refine(aD (by lia)).trans (ak ?_ (aD (by lia)).symm)
  (refine af (show n+j+1 - n=j+1 by lia) ?_;refine af (show n+j+1 - (n+1)=j by lia) ?_);rfl
theorem Hp.new(R:Hp B hs F Z)(hn:hs.length=n){b:Addr}(hb:Z b=none)(o:O):Hp (aK B n [b]) (hs++[o]) F (Z.set b o):=by
 have ne:∀ i,i<n→B i≠b:=fun i hi q=>by
  have:=R.o i (List.getElem?_eq_getElem (hn▸hi:i<hs.length));(rewrite[q] at this;rw[hb] at this);exact ns this
 have key:∀ i,i<(hs++[o]).length→i<n∧aK B n [b] i=B i∨i=n∧aK B n [b] i=b:=fun i hi=>by
  (rewrite[List.length_append] at hi;rw[hn] at hi)
  refine Or.elim (Nat.lt_or_eq_of_le (Nat.le_of_lt_succ hi)) (fun h=>?_) (fun h=>?_)
  ·exact .inl ⟨h,cA h⟩
  ·exact .inr ⟨h,h▸eD⟩
 refine⟨fun i o' e=>?_,fun i j hi hj e=>?_,R.fr.set (R.fr.fresh hb),fun i hi=>?_⟩
 ·rcases key i (List.getElem?_eq_some_iff.mp e).1 with⟨h,q⟩ | ⟨h,q⟩
  ·refine af q ?_;rw[List.getElem?_append_left (hn▸h)] at e;exact bv (ne i h) (R.o i e)
  ·subst h;(rewrite[← hn] at e;rw[List.getElem?_concat_length] at e);refine af (aP e) ?_;refine af q ?_;exact aB
 ·rcases key i hi with⟨h,q⟩ | ⟨h,q⟩<;>rcases key j hj with⟨h',q'⟩ | ⟨h',q'⟩<;>(rewrite[q] at e;rw[q'] at e)
  ·exact R.inj i j (hn▸h) (hn▸h') e
  ·exact absurd e (ne i h)
  ·exact absurd e.symm (ne j h')
  ·(refine ak (h) ?_;(refine af h' ?_;with_reducible rfl))
 ·rcases key i hi with⟨h,q⟩ | ⟨h,q⟩
  ·refine af q ?_;exact R.off i (hn▸h)
  ·refine af q ?_;exact R.fr.fresh hb
theorem xB{K:aN}{U:Env}(l:List V):Es K U Z (l.map E.k) l:=by
 induction l with
 |nil=>exact ae
 |cons v l ih=>exact ab aj ih
theorem f7{K:aN}{U:Env}{Q:bK}{o e:E}{m:Nat}{r:List C}(h:WE K e U (fun v Zq=>WE K o U (fun a Zr=>∃ Z',de Zr a m v=some Z'∧SS K r U Q Z') Zq) Z):SS K (.set (.att o m) e::r) U Q Z:=by
 simp only[fR,mW] at *;exact h
theorem j0{K:aN}{U:Env}{Q:bK}{r:List C}{j c:Nat}(its:List (Nat×It)):∀ {B:Nat→Addr} {hs:List O} {Z:H} {fs:List (Nat×V)} {n:Nat},Hp B hs F Z→hs.length=n→hs[j]? = some (.inst c fs)→U 0=some (.ref (B j))→its.all (BX c U)=true→(∀ p ∈ xA its,∀ Z',jl (B j) Z Z'→Ev K U Z' p.1 p.2)→
  (∀ bs Z',jl (B j) Z Z'→Hp (aK B n bs) (hs.set j (.inst c (fp U bs 0 fs its))++vJ its) F Z'→SS K r U Q Z')→SS K (wo its++r) U Q Z:=by
 induction its with
 |nil=>
  intro B hs Z fs n R hn hj h0 _ _ k
  obtain⟨lj,ej⟩:=List.getElem?_eq_some_iff.mp hj
  refine k [] Z bA.refl.off ?_
  have:hs.set j (.inst c (fp U [] 0 fs []))++vJ []=hs:=by
   show hs.set j (.inst c fs)++[]=hs
   (rewrite[List.append_nil];refine br ej ?_;rw[List.set_getElem_self])
  refine af this ?_
  exact R.congr fun i hi=>cA (hn▸hi)
 |cons x its ih=>
  intro B hs Z fs n R hn hj h0 ok hev k
  obtain⟨m,it⟩:=x
  have ok:=Bool.and_eq_true_iff.mp ok
  have ok1:=Bool.and_eq_true_iff.mp ok.1
  have lj:=(List.getElem?_eq_some_iff.mp hj).1
  have pure:∀ v,Ev K U Z it.e v→it.o=none→it.v U=v→(∀ p ∈ xA its,p ∈ xA ((m,it)::its))→SS K (wo ((m,it)::its)++r) U Q Z:=fun v he ho hv hm=>by
   refine iC he (ac h0) (R.o j hj) ok1.1 ?_
   have x1:jl (B j) Z _:=bA.refl.off.set (o:=.inst c (cX fs m v))
   refine ih (R.set lj _) (List.length_set.trans hn) (List.getElem?_set_self lj) h0 ok.2 (fun p hp Z' x=>hev p (hm p hp) Z' (x1.trans x)) fun bs Z' x R'=>k bs Z' (x1.trans x) ?_
   rw[List.set_set] at R'
   have e1:fp U bs 0 fs ((m,it)::its)=fp U bs 0 (cX fs m v) its:=by
    show(match it.o with | none=>fp U bs 0 (cX fs m (it.v U)) its | some _=>fp U bs 1 (cX fs m (.ref (bs.getD 0 0))) its)=_
    (refine af ho ?_;(refine af hv ?_;with_reducible rfl))
   have e2:vJ ((m,it)::its)=vJ its:=List.filterMap_cons_none ho
   (refine af e1 ?_;refine af e2 ?_);exact R'
  have cont:∀ o,it.o=some o→(∀ P:aO,(∀ a,Z a=none→P (.ref a) (Z.set a o))→WE K it.e U P Z)→(∀ p ∈ xA its,p ∈ xA ((m,it)::its))→SS K (wo ((m,it)::its)++r) U Q Z:=fun o ho he hm=>by
   refine f7 (he _ fun b hb=>?_)
   have R1:=R.new hn hb o
   have jn:j<n:=hn▸lj
   have ej:aK B n [b] j=B j:=cA jn
   have hj1:(hs++[o])[j]? = some (.inst c fs):=(List.getElem?_append_left lj).trans hj
   have l1:(hs++[o]).length=n+1:=by(refine ak (List.length_append) ?_;refine af hn ?_);rfl
   have x0:jl (B j) Z (Z.set b o):=(bA.new hb).off
   have x1:jl (B j) Z ((Z.set b o).set (B j) (.inst c (cX fs m (.ref b)))):=x0.set
   refine bj (ac h0) ⟨_,ch (ej▸R1.o j hj1) ok1.1,?_⟩
   have R2:=R1.set (i:=j) (l1▸Nat.lt_succ_of_lt jn) (.inst c (cX fs m (.ref b)))
   rw[ej] at R2
   refine ih (B:=aK B n [b]) (n:=n+1) R2 (List.length_set.trans l1) (List.getElem?_set_self (l1▸Nat.lt_succ_of_lt jn)) (h0.trans (by(refine af ej ?_;with_reducible rfl))) ok.2 (fun p hp Z' x=>hev p (hm p hp) Z' (x1.trans (ej▸x))) fun bs Z' x R'=>k (b::bs) Z' (x1.trans (ej▸x)) ?_
   (rewrite[List.set_set] at R';rewrite[List.set_append_left _ _ lj] at R';rw[List.append_assoc] at R')
   have e1:fp U (b::bs) 0 fs ((m,it)::its)=fp U bs 0 (cX fs m (.ref b)) its:=by
    show(match it.o with | none=>fp U (b::bs) 0 (cX fs m (it.v U)) its | some _=>fp U (b::bs) 1 (cX fs m (.ref b)) its)=_
    refine af ho ?_;exact rA its 0 _
   have e2:vJ ((m,it)::its)=o::vJ its:=List.filterMap_cons_some ho
   (refine af e1 ?_;refine af e2 ?_)
   exact R'.congr fun i za=>qx i
  induction it using It.casesOn with
  |x i=>
   induction hi:U i using Option.casesOn with
   |none=>have:=ok1.2;dsimp only at this;rw[hi] at this;exact ff this
   |some v=>exact pure v (ac hi) rfl (by show(U i).getD .none=v;refine af hi ?_;rfl) fun p h=>h
  |k v=>exact pure v aj rfl rfl fun p h=>h
  |ev e v=>exact pure v (hev (e,v) (.head _) Z bA.refl.off) rfl rfl fun p h=>.tail _ h
  |lst l=>exact cont _ rfl (fun P q=>bx (xB l) q) fun p h=>h
  |dct=>exact cont _ rfl (fun P q=>gw q) fun p h=>h
theorem gc{c m:Nat}{Fn:Mine.Fn}(hF:(pe (some c) 89).map FD.fn=some Fn)(its:List (Nat×It))(r:List C){a:Addr}{vs:List V}{P:aO}(hb:Fn.body=wo its++r)(hl:Fn.ps.length=vs.length+1)(R:Hp B hs F Z)(hn:hs.length=n)(ha:Z a=none)
  (h0:bU Fn.ps (.ref a::vs) Env.nil 0=some (.ref a)) (ok:its.all (BX c (bU Fn.ps (.ref a::vs) Env.nil))=true) (hev:∀ p ∈ xA its,∀ Z',jl a (Z.set a (.inst c [])) Z'→Ev (a8 m) (bU Fn.ps (.ref a::vs) Env.nil) Z' p.1 p.2)
  (k:∀ bs Z',Hp (aK B n (a::bs)) (hs++.inst c (fp (bU Fn.ps (.ref a::vs) Env.nil) bs 0 [] its)::vJ its) F Z'→SS (a8 m) r (bU Fn.ps (.ref a::vs) Env.nil) (fq P) Z'):a8 (m+1) (some c) 89 (.ref a::vs) P (Z.set a (.inst c [])):=by
 have R1:=R.new hn ha (.inst c [])
 have l1:(hs++[O.inst c []]).length=n+1:=by(refine ak (List.length_append) ?_;refine af hn ?_);rfl
 refine bq hF hl ?_
 refine af hb ?_
 have e:aK B n [a] n=a:=eD
 refine j0 its R1 l1 (j:=n) (by refine br hn ?_;exact List.getElem?_concat_length) (h0.trans (by(refine af e ?_;with_reducible rfl))) ok (e.symm▸hev) fun bs Z' za R'=>k bs Z' ?_
 (rewrite[← hn] at R';rewrite[List.set_append_right _ _ (Nat.le_refl _)] at R';rewrite[Nat.sub_self] at R';rewrite[List.append_assoc] at R';rw[hn] at R')
 exact R'.congr fun i za=>qx i
end
noncomputable def y0(B:Nat→Addr)(o0 o1 o2:O)(rs:List V)(ix:List (V×V))(dl wl ol:List V)(tl:List O):List O:=
 o0::o1::o2::.inst 78 [(90,.ref (B 4)),(91,.ref (B 5)),(92,.ref (B 6)),(93,.ref (B 7)),(94,.ref (B 8))]::.list rs::.dict ix::.list dl::.list wl::.list ol::tl
noncomputable def rw_(k:Nat):V:=if k<16 then .tup [.int 1,.int k] else if k=16 then .tup [.int 3,.int 80,.tup []] else if k=17 then .tup [.int 2,.int 70,.tup []] else .tup [.int 3,.int (64+(k - 18:Nat)),.tup []]
noncomputable def fy(N:Nat):List V:=(List.range N).map rw_
noncomputable def gX(N:Nat):List (V×V):=(List.range N).map fun i=>(rw_ i,.int i)
noncomputable def iJ(N:Nat):List V:=List.replicate N (.int 1)
noncomputable def nv(N:Nat):List V:=List.replicate N (.int 0)
noncomputable def ko(B:Nat→Addr)(o0 o1 o2:O)(N:Nat)(tl:List O):List O:=y0 B o0 o1 o2 (fy N) (gX N) (iJ N) (iJ N) (nv N) tl
theorem Bx{N i:Nat}(hN:N<26)(hi:i<N):dH (rw_ i) (rw_ N)=false:=by
 have:=List.all_eq_true.mp (List.all_eq_true.mp (show(List.range 26).all (fun N=>(List.range N).all fun i=>!dH (rw_ i) (rw_ N))=true by kernel_rfl) N (List.mem_range.mpr hN)) i (List.mem_range.mpr hi)
 exact(Bool.not_eq_true' _).mp this
theorem sF{N:Nat}(hN:N<26):key (rw_ N)=true:=List.all_eq_true.mp (show(List.range 26).all (fun N=>key (rw_ N))=true by kernel_rfl) N (List.mem_range.mpr hN)
theorem yU(N:Nat):mI (rw_ N)=3:=by
 unfold rw_;split
 ·rfl
 ·split
  ·rfl
  ·split<;>rfl
theorem nM{l:List Nat}{k:V}(h:∀ i ∈ l,dH (rw_ i) k=false):aI (l.map fun i=>(rw_ i,V.int i)) k=none:=by
 induction l with
 |nil=>rfl
 |cons i l ih=>exact(aD (by refine af (h i (.head _)) ?_;exact Bool.false_ne_true)).trans (ih fun j hj=>h j (.tail _ hj))
theorem ij{k v:V}(es:List (V×V))(h:aI es k=none):bI es k v=es++[(k,v)]:=by
 induction es with
 |nil=>rfl
 |cons e es ih=>
  by_cases c:dH e.1 k=true
  ·have:aI (e::es) k=some e.2:=aG c
   rw[this] at h;exact sn h
  ·exact(aD c).trans (congrArg _ (ih ((aD c).symm.trans h)))
theorem nN{N:Nat}(hN:N<26):aI (gX N) (rw_ N)=none:=nM fun i hi=>Bx hN (List.mem_range.mp hi)
theorem lZ{N:Nat}{k:V}(hk:key k=true)(h3:mI k=3):bd (gX N) k=true:=by
 induction N using Nat.casesAuxOn with
 |zero=>exact Bool.and_eq_true_iff.mpr ⟨hk,rfl⟩
 |succ N=>
  unfold gX
  refine af List.range_succ_eq_map ?_
  exact Bool.and_eq_true_iff.mpr ⟨hk,by refine af h3 ?_;rfl⟩
theorem qR{N:Nat}:fy N++[rw_ N]=fy (N+1):=by unfold fy;(refine af List.range_succ ?_;refine af List.map_append ?_);rfl
theorem tI{N:Nat}(hN:N<26):bI (gX N) (rw_ N) (.int N)=gX (N+1):=by
 refine ak (ij _ (nN hN)) ?_;unfold gX;(refine af List.range_succ ?_;refine af List.map_append ?_);rfl
section
variable {n:Nat} {Q:aO} {B:Nat→Addr} {F Z:H} {o0 o1 o2:O} {rs:List V} {ix:List (V×V)} {dl wl ol:List V} {tl:List O}
theorem iR{i:Nat}(h:i<9):i<(y0 B o0 o1 o2 rs ix dl wl ol tl).length:=Nat.lt_of_lt_of_le h (Nat.le_add_left 9 tl.length)
theorem qF{K:aN}{U:Env}{Q:bK}{r:List C}{er en ed ew eo:E}{row num d w o:V}(R:Hp B (y0 B o0 o1 o2 rs ix dl wl ol tl) F Z)(h0:U 0=some (.ref (B 3)))
  (her:∀ Z,Ev K U Z er row) (hen:∀ Z,Ev K U Z en num) (hed:∀ Z,Ev K U Z ed d) (hew:∀ Z,Ev K U Z ew w) (heo:∀ Z,Ev K U Z eo o) (hk:bd ix row=true) (l1:rs.length<bL) (l2:ix.length<bL) (l3:dl.length<bL) (l4:wl.length<bL) (l5:ol.length<bL)
  (k:∀ Z',Hp B (y0 B o0 o1 o2 (rs++[row]) (bI ix row num) (dl++[d]) (wl++[w]) (ol++[o]) tl) F Z'→SS K r U Q Z') :
  SS K (.ex (.mth (.att (.x 0) 90) 95 [er])::.set (.idx (.att (.x 0) 91) er) en::.ex (.mth (.att (.x 0) 92) 95 [ed])::.ex (.mth (.att (.x 0) 93) 95 [ew])::.ex (.mth (.att (.x 0) 94) 95 [eo])::r) U Q Z:=by
 refine bH (bV h0 (R.o 3 rfl) rfl rfl) (R.o 4 rfl) (her _) l1 ?_
 replace R:=R.set (i:=4) (iR (by decide)) (.list (rs++[row]))
 generalize Z.set _ _=Z at R ⊢
 refine dN (hen _) (bV h0 (R.o 3 rfl) rfl rfl) (her _) (bo (R.o 5 rfl) hk l2) ?_
 replace R:=R.set (i:=5) (iR (by decide)) (.dict (bI ix row num))
 generalize Z.set _ _=Z at R ⊢
 refine bH (bV h0 (R.o 3 rfl) rfl rfl) (R.o 6 rfl) (hed _) l3 ?_
 replace R:=R.set (i:=6) (iR (by decide)) (.list (dl++[d]))
 generalize Z.set _ _=Z at R ⊢
 refine bH (bV h0 (R.o 3 rfl) rfl rfl) (R.o 7 rfl) (hew _) l4 ?_
 replace R:=R.set (i:=7) (iR (by decide)) (.list (wl++[w]))
 generalize Z.set _ _=Z at R ⊢
 refine bH (bV h0 (R.o 3 rfl) rfl rfl) (R.o 8 rfl) (heo _) l5 ?_
 exact k _ (R.set (i:=8) (iR (by decide)) (.list (ol++[o])))
theorem om{K:aN}{U:Env}{Q:bK}{r:List C}{er en ed ew eo:E}{N:Nat}(R:Hp B (ko B o0 o1 o2 N tl) F Z)(hN:N<26)(h0:U 0=some (.ref (B 3)))
  (her:∀ Z,Ev K U Z er (rw_ N)) (hen:∀ Z,Ev K U Z en (.int N)) (hed:∀ Z,Ev K U Z ed (.int 1)) (hew:∀ Z,Ev K U Z ew (.int 1)) (heo:∀ Z,Ev K U Z eo (.int 0)) (k:∀ Z',Hp B (ko B o0 o1 o2 (N+1) tl) F Z'→SS K r U Q Z') :
  SS K (.ex (.mth (.att (.x 0) 90) 95 [er])::.set (.idx (.att (.x 0) 91) er) en::.ex (.mth (.att (.x 0) 92) 95 [ed])::.ex (.mth (.att (.x 0) 93) 95 [ew])::.ex (.mth (.att (.x 0) 94) 95 [eo])::r) U Q Z:=by
 have lt:∀ m,m≤N→m<bL:=fun m h=>Nat.lt_of_le_of_lt h (Nat.lt_trans hN (by decide))
 have ll:∀ v:V,(List.replicate N v).length<bL:=fun v=>lt _ (by refine af List.length_replicate ?_;exact Nat.le_refl _)
 refine qF R h0 her hen hed hew heo (lZ (sF hN) (yU N)) (lt _ (by unfold fy;(rewrite[List.length_map];refine af List.length_range ?_);exact Nat.le_refl _)) (lt _ (by unfold gX;(rewrite[List.length_map];refine af List.length_range ?_);exact Nat.le_refl _)) (ll _) (ll _) (ll _) fun Z' R'=>k Z' ?_
 have e:∀ v:V,List.replicate N v++[v]=List.replicate (N+1) v:=fun v=>List.replicate_succ'.symm
 (rewrite[qR] at R';rewrite[tI hN] at R';rewrite[show iJ N++[.int 1]=iJ (N+1) from e _] at R';rw[show nv N++[.int 0]=nv (N+1) from e _] at R')
 exact R'
theorem Gn{o0 o1 o2:O}{a:Addr}(R:Hp B [o0,o1,o2] F Z)(ha:Z a=none)(q:∀ bs Z',Hp (aK B 3 (a::bs)) (ko (aK B 3 (a::bs)) o0 o1 o2 16 []) F Z'→Q .none Z'):a8 (n+1) (some 78) 89 [.ref a] Q (Z.set a (.inst 78 [])):=by
 refine gc rj [(90,.lst []),(91,.dct),(92,.lst []),(93,.lst []),(94,.lst [])] _ rfl rfl R rfl ha rfl rfl (fun p h=>nomatch h) fun bs Z' R'=>?_
 replace q:=q bs
 change Hp _ (ko (aK B 3 (a::bs)) o0 o1 o2 0 []) F Z' at R'
 have ea:some (V.ref a)=some (V.ref (aK B 3 (a::bs) 3)):=by(refine af eD ?_;with_reducible rfl)
 generalize aK B 3 (a::bs)=B' at R' q ea
 refine cg (v:=.rng ((16:Nat):Int)) (aZ (vs:=[.int 16]) (ab aj ae) fun Q q=>⟨_,rfl,⟨by decide,by decide⟩,q⟩) rfl ?_
 refine gY (N:=16) (fun i U Z'=>Hp B' (ko B' o0 o1 o2 i []) F Z'∧U 0=some (.ref a)) ?_ ⟨R',rfl⟩ fun U Z' h=>ax (q Z' h.1)
 rintro i hi U Z1 ⟨R1,h0⟩ P hP _
 refine au (v:=rw_ i) (fc (aE (ab aj (ab (ac rfl) ae))) (aG hi).symm) (om (er:=.x 2) (en:=.x 1) R1 (Nat.lt_trans hi (by decide)) (h0.trans ea) (fun za=>ac rfl) (fun za=>ac rfl) (fun za=>aj) (fun za=>aj) (fun za=>aj) fun Z' R2=>ax (hP _ _ ⟨R2,h0⟩))
theorem FA{t tid:Int}(ht:t=2∨t=3):Cv (a8 (n+1)) none 0 [.tup [.int t,.int tid,.tup []]] Z (.tup []):=by
 refine bh xG rfl fun za q=>?_
 refine zn ht ?_ ?_;all_goals clear ht
 ·(apply au;apply ah;exact ac rfl;exact aj;rfl;apply az;apply bc;apply dq;apply ai;apply ao;exact ac rfl;exact an;rfl;apply aw;apply ah;exact ac rfl;exact aj;rfl)
  exact q
 ·(apply au;apply ah;exact ac rfl;exact aj;rfl;apply az;apply bc;apply aY;apply ai;apply ao;exact ac rfl;exact an;rfl;apply ba;apply ai;apply ao;exact ac rfl;exact an;rfl;apply aw;apply ah;exact ac rfl;exact aj;rfl)
  exact q
theorem FB{k:Int}:Cv (a8 (n+1)) none 0 [.tup [.int 4,.int k]] Z (.tup [.int k]):=by
 refine bh xG rfl fun za q=>?_
 (apply au;apply ah;exact ac rfl;exact aj;rfl;apply aq;apply bc;apply aY;apply ai;apply ao;exact ac rfl;exact an;rfl;apply ba;apply ai;apply ao;exact ac rfl;exact an;rfl;apply az;apply bc;apply dq;apply ai;apply ao;exact ac rfl;exact an;rfl;apply aw;apply aE;apply ab;apply ah;exact ac rfl;exact aj;rfl;exact ae)
 exact q
theorem Fx{t:Int}(ht:t=2∨t=3∨t=4):Cv (a8 (n+1)) none 1 [.int t] Z (.int 1):=by
 refine bh CB rfl fun za q=>?_
 refine FC ht ?_ ?_ ?_;all_goals clear ht
 ·(apply az;apply bc;apply dq;apply ai;apply ao;exact ac rfl;exact an;rfl;apply aw;exact aj)
  exact q
 ·(apply az;apply bc;apply aY;apply ai;apply ao;exact ac rfl;exact an;rfl;apply dq;apply ai;apply ao;exact ac rfl;exact an;rfl;apply aw;exact aj)
  exact q
 ·(apply az;apply bc;apply aY;apply ai;apply ao;exact ac rfl;exact an;rfl;apply aY;apply ai;apply ao;exact ac rfl;exact an;rfl;apply ba;apply ai;apply ao;exact ac rfl;exact an;rfl;apply aw;exact aj)
  exact q
theorem G1{t:Int}(ht:t=2∨t=3):Cv (a8 (n+1)) none 2 [.int t] Z (.int 3):=by
 refine bh xF rfl fun za q=>?_
 refine zn ht ?_ ?_;all_goals clear ht
 ·(apply az;apply bc;apply dq;apply ai;apply ao;exact ac rfl;exact an;rfl;apply aw;exact aj)
  exact q
 ·(apply az;apply bc;apply aY;apply ai;apply ao;exact ac rfl;exact an;rfl;apply ba;apply ai;apply ao;exact ac rfl;exact an;rfl;apply aw;exact aj)
  exact q
theorem G2:Cv (a8 (n+1)) none 2 [.int 4] Z (.int 2):=by
 refine bh xF rfl fun za q=>?_
 (apply aq;apply bc;apply aY;apply ai;apply ao;exact ac rfl;exact an;rfl;apply ba;apply ai;apply ao;exact ac rfl;exact an;rfl;apply aq;apply ai;apply ao;exact ac rfl;exact an;rfl;apply aw;exact aj)
 exact q
theorem GL{u:V}:Cv (a8 (n+1)) none 5 [u,.tup []] Z .none:=bh Cz rfl fun za q=>cg (ac rfl) rfl (b8 (ax q))
theorem GP{t tid:Int}{u:V}(h:0<tid)(hg:gR.contains tid=false):Cv (a8 (n+2)) none 4 [u,.tup [.int t,.int tid,.tup []]] Z .none:=by
 refine bh CA rfl fun za q=>aq (bc (aY (ai (ao (aQ rfl rfl) bS) (bG (Int.not_le.mpr h))) (ba (ai (ao (aQ rfl rfl) j8) hg)))) (jD (ay (vs:=[u,.tup []]) (ab (ac rfl) (ab (aQ rfl rfl) ae)) rfl GL) (ax q))
theorem GY{t tid:Int}{u:V}(ht:t=2∨t=3)(h:0<tid)(hg:gR.contains tid=false):Cv (a8 (n+3)) none 3 [u,.tup [.int t,.int tid,.tup []]] Z .none:=by
 refine bh xE rfl fun za q=>?_
 have e0:=FA (n:=n+1) (tid:=tid) (Z:=Z) ht
 have e2:=G1 (n:=n+1) (Z:=Z) ht
 have e4:=GP (n:=n) (t:=t) (Z:=Z) (u:=u) h hg
 rcases ht with rfl | rfl
 ·(apply aq;apply bc;apply aY;apply ai;apply ao;apply aZ;apply ab;exact ac rfl;exact ae;exact fun za q=>q;exact an;rfl;apply aY;apply ai;apply ao;apply ah;exact ac rfl;exact aj;rfl;exact bS;rfl;apply ba;apply ai;apply ao;apply ah;exact ac rfl;exact aj;rfl;exact cr;rfl;apply au;apply ah;exact ac rfl;exact aj;rfl;apply aq;apply ai;apply aL;apply aZ;apply ab;exact ac rfl;exact ae;exact fun za q=>q;apply ay;apply ab;exact ac rfl;exact ae;rfl;assumption;exact cz;rfl)
  refine cg (ay (vs:=[.tup [.int 2,.int tid,.tup []]]) (ab (ac rfl) ae) rfl e0) rfl (b8 ?_)
  (apply az;apply bc;apply dq;apply ai;apply ao;exact ac rfl;exact an;rfl;apply jD;apply ay;apply ab;exact ac rfl;apply ab;exact ac rfl;exact ae;rfl;assumption;apply ax;apply ax)
  exact q
 ·(apply aq;apply bc;apply aY;apply ai;apply ao;apply aZ;apply ab;exact ac rfl;exact ae;exact fun za q=>q;exact an;rfl;apply aY;apply ai;apply ao;apply ah;exact ac rfl;exact aj;rfl;exact bS;rfl;apply ba;apply ai;apply ao;apply ah;exact ac rfl;exact aj;rfl;exact cr;rfl;apply au;apply ah;exact ac rfl;exact aj;rfl;apply aq;apply ai;apply aL;apply aZ;apply ab;exact ac rfl;exact ae;exact fun za q=>q;apply ay;apply ab;exact ac rfl;exact ae;rfl;assumption;exact cz;rfl)
  refine cg (ay (vs:=[.tup [.int 3,.int tid,.tup []]]) (ab (ac rfl) ae) rfl e0) rfl (b8 ?_)
  (apply az;apply bc;apply aY;apply ai;apply ao;exact ac rfl;exact an;rfl;apply ba;apply ai;apply ao;exact ac rfl;exact an;rfl;apply jD;apply ay;apply ab;exact ac rfl;apply ab;exact ac rfl;exact ae;rfl;assumption;apply ax;apply ax)
  exact q
end
section
variable {n:Nat} {Q:aO} {B:Nat→Addr} {F Z:H} {o0 o1 o2:O} {rs:List V} {ix:List (V×V)} {dl wl ol:List V} {tl:List O}
theorem qS{N k:Nat}(h:k<N):(fy N)[k]? = some (rw_ k):=by skip;(refine ak (List.getElem?_map) ?_;refine af (List.getElem?_range h) ?_);rfl
theorem gz{N:Nat}:(fy N).length=N:=by delta fy;(rewrite[List.length_map];(refine ak (List.length_range) ?_;with_reducible rfl))
theorem nq{N k:Nat}(h:k<N):(iJ N)[k]? = some (.int 1):=by skip;(refine ak (List.getElem?_replicate) ?_;(refine ak (aG h) ?_;with_reducible rfl))
theorem tc{N k:Nat}(h:k<N):(nv N)[k]? = some (.int 0):=by skip;(refine ak (List.getElem?_replicate) ?_;(refine ak (aG h) ?_;with_reducible rfl))
theorem qt{K:aN}{U:Env}{i:Nat}{e:E}{c m:Nat}{a b:Addr}{fs:List (Nat×V)}{xs:List V}{k:Nat}{v:V}(h0:U i=some (.ref a))(ho:Z a=some (.inst c fs))(hc:(bk c).contains m=true)(hf:dI fs m=some (.ref b))(hb:Z b=some (.list xs))(he:Ev K U Z e (.int k))(hv:xs[k]? = some v) :
  Ev K U Z (.idx (.att (.x i) m) e) v:=ah (bV h0 ho hc hf) he (aJ hb (Int.natCast_nonneg _) (by rw[Int.toNat_natCast];exact hv))
theorem BJ(R:Hp B (ko B o0 o1 o2 N tl) F Z){k:Nat}(h:k<N):Cv (a8 (n+1)) (some 78) 96 [.ref (B 3),.int k] Z (rw_ k):=by
 refine bh kO rfl fun za q=>aq (bc (aY (ai (ao (ac rfl) aV) (bG (Int.not_lt.mpr (Int.natCast_nonneg k)))) (ba (ai (aL (ac rfl) (aZ (vs:=[.ref (B 4)]) (ab (bV rfl (R.o 3 rfl) rfl rfl) ae) (bJ (R.o 4 rfl))) cI) (bG ?_))))) (aw (qt rfl (R.o 3 rfl) rfl rfl (R.o 4 rfl) (ac rfl) (qS h)) q)
 refine af gz ?_;exact Int.not_le.mpr (Int.ofNat_lt.mpr h)
theorem BI{N:Nat}(R:Hp B (ko B o0 o1 o2 N tl) F Z)(hN:N<26){t tid:Int}(e:rw_ N=.tup [.int t,.int tid,.tup []])(ht:t=2∨t=3)(h:0<tid)(hg:gR.contains tid=false)(q:∀ Z',Hp B (ko B o0 o1 o2 (N+1) tl) F Z'→Q (.int N) Z') :
  a8 (n+4) (some 78) 98 [.ref (B 3),.tup [.int t,.int tid,.tup []]] Q Z:=by
 have hk:bd (gX N) (.tup [.int t,.int tid,.tup []])=true:=lZ (e▸sF hN) rfl
 have hf:aI (gX N) (.tup [.int t,.int tid,.tup []])=none:=e▸nN hN
 have t67:decide (t=6)=false∧decide (t=7)=false:=by refine zn ht ?_ ?_;all_goals clear ht<;>exact⟨rfl,rfl⟩
 refine bq kN rfl (au (v:=.int (-1)) (fc (gI (bV rfl (R.o 3 rfl) rfl rfl) (R.o 5 rfl) (ac rfl) (fe aj) hk) (by refine af hf ?_;rfl)) (aq (ai (ao (ac rfl) cI) rfl) (jD (ay (vs:=[.ref (B 3),.tup [.int t,.int tid,.tup []]]) (ab (ac rfl) (ab (ac rfl) ae)) rfl (GY ht h hg)) (au aj (au aj (au aj ?_))))))
 refine aq (bc (aY (ai (ao (aQ rfl rfl) an) t67.1) (ba (ai (ao (aQ rfl rfl) an) t67.2)))) (au (ay (vs:=[.int t]) (ab (aQ rfl rfl) ae) rfl (Fx (ht.elim .inl fun h=>.inr (.inl h)))) (cg (ay (vs:=[.tup [.int t,.int tid,.tup []]]) (ab (ac rfl) ae) rfl (FA ht)) rfl (b8 ?_)))
 refine aq (ai (ao (ac rfl) cr) rfl) (aq (ai (ao (ac rfl) cr) rfl) (au (v:=.int N) (fc (aZ (vs:=[.ref (B 4)]) (ab (bV rfl (R.o 3 rfl) rfl rfl) ae) (bJ (R.o 4 rfl))) (by(refine af gz ?_;with_reducible rfl))) ?_))
 exact om (er:=.x 1) (en:=.x 8) (ed:=.x 3) (ew:=.x 4) (eo:=.x 5) R hN rfl (fun za=>fc (ac rfl) e.symm) (fun za=>ac rfl) (fun za=>ac rfl) (fun za=>ac rfl) (fun za=>ac rfl) fun Z' R'=>aw (ac rfl) (q Z' R')
theorem Fj{N:Nat}(R:Hp B (ko B o0 o1 o2 N tl) F Z)(hN:N<26){tid:Int}(e:rw_ N=.tup [.int 3,.int tid,.tup []])(h:0<tid)(hg:gR.contains tid=false)(q:∀ Z',Hp B (ko B o0 o1 o2 (N+1) tl) F Z'→Q (.int N) Z') :
  a8 (n+5) none 8 [.ref (B 3),.int tid,.tup []] Q Z:=
 bq Cu rfl (aq (ai (ao (ac rfl) j8) hg) (bO (oy (ac rfl) (R.o 3 rfl) rfl (ab (aE (ab aj (ab (ac rfl) (ab (ac rfl) ae)))) ae) (BI R hN e (.inr rfl) h hg q))))
theorem Gx(R:Hp B (ko B o0 o1 o2 17 tl) F Z)(q:∀ Z',Hp B (ko B o0 o1 o2 18 tl) F Z'→Q (.int 17) Z') :
  a8 (n+5) none 7 [.ref (B 3),.int 70,.tup []] Q Z:=
 bq Cw rfl (aq (ai (ao (ac rfl) j8) rfl) (bO (oy (ac rfl) (R.o 3 rfl) rfl (ab (aE (ab aj (ab (ac rfl) (ab (ac rfl) ae)))) ae) (BI R (by decide) rfl (.inl rfl) (by decide) rfl q))))
noncomputable def kE:V:=.tup [.int 4,.int 19]
theorem GF(R:Hp B (ko B o0 o1 o2 N tl) F Z)(h:19<N):Cv (a8 (n+2)) none 6 [.ref (B 3),.int 19] Z (.bool true):=
 bh Cx rfl fun za q=>aq (bc (aY (ai (ao (ac rfl) an) rfl) (ba (ai (ao (ac rfl) an) rfl)))) (au (v:=.int 3) (ah (tY (ac rfl) (R.o 3 rfl) rfl (ab (ac rfl) ae) (BJ R (k:=19) h)) aj rfl) (aw (nU (dq (ai (ao (ac rfl) bS) rfl))) q))
theorem GZ(R:Hp B (ko B o0 o1 o2 N tl) F Z)(h:19<N):Cv (a8 (n+3)) none 3 [.ref (B 3),kE] Z .none:=by
 have e0:=FB (n:=n+1) (k:=19) (Z:=Z)
 have e2:=G2 (n:=n+1) (Z:=Z)
 have e6:=GF (n:=n) R h
 refine bh xE rfl fun za q=>?_
 (apply aq;apply bc;apply aY;apply ai;apply ao;apply aZ;apply ab;exact ac rfl;exact ae;exact fun za q=>q;exact an;rfl;apply aY;apply ai;apply ao;apply ah;exact ac rfl;exact aj;rfl;exact bS;rfl;apply ba;apply ai;apply ao;apply ah;exact ac rfl;exact aj;rfl;exact cr;rfl;apply au;apply ah;exact ac rfl;exact aj;rfl;apply aq;apply ai;apply aL;apply aZ;apply ab;exact ac rfl;exact ae;exact fun za q=>q;apply ay;apply ab;exact ac rfl;exact ae;rfl;assumption;exact cz;rfl)
 refine cg (ay (vs:=[kE]) (ab (ac rfl) ae) rfl e0) rfl (bQ rfl (jD (tY (ac rfl) (R.o 3 rfl) rfl (ab (ac rfl) ae) (BJ R (k:=19) h)) (ax ⟨rfl,b8 ?_⟩)))
 (apply di;apply bc;apply aY;apply ai;apply ao;exact ac rfl;exact an;rfl;apply ba;apply ai;apply ao;exact ac rfl;exact an;rfl;apply di;apply bc;apply aY;apply ai;apply ao;exact ac rfl;exact an;rfl;apply ba;apply ai;apply ao;exact ac rfl;exact an;rfl;apply di;apply ai;apply ao;exact ac rfl;exact an;rfl;apply di;apply ai;apply ao;exact ac rfl;exact an;rfl;apply aq;apply nV;apply ai;apply gJ;apply ab;exact ac rfl;apply ab;apply ah;exact ac rfl;exact aj;rfl;exact ae;rfl;assumption;rfl;apply ax;apply ax;apply ax;apply ax;apply ax)
 exact q
noncomputable def yZ(N:Nat):List (V×V):=gX N++[(kE,.int N)]
noncomputable def D6(B:Nat→Addr)(o0 o1 o2:O)(N:Nat)(tl:List O):List O:=y0 B o0 o1 o2 (fy N++[kE]) (yZ N) (iJ N++[.int 2]) (iJ N++[.int 2]) (nv N++[.int 0]) tl
theorem Gw{N:Nat}(R:Hp B (ko B o0 o1 o2 N tl) F Z)(h:19<N)(hN:N<26)(q:∀ Z',Hp B (D6 B o0 o1 o2 N tl) F Z'→Q (.int N) Z'):a8 (n+5) none 9 [.ref (B 3),.int 19] Q Z:=by
 have hk:bd (gX N) kE=true:=lZ rfl rfl
 have hf:aI (gX N) kE=none:=nM fun i hi=>by
  have:=List.all_eq_true.mp (show(List.range 26).all (fun i=>!dH (rw_ i) kE)=true by kernel_rfl) i (List.mem_range.mpr (Nat.lt_trans (List.mem_range.mp hi) hN))
  exact(Bool.not_eq_true' _).mp this
 refine bq Ct rfl (bO (oy (vs:=[kE]) (ac rfl) (R.o 3 rfl) rfl (ab (aE (ab aj (ab (ac rfl) ae))) ae) ?_))
 refine bq kN rfl (au (v:=.int (-1)) (fc (gI (bV rfl (R.o 3 rfl) rfl rfl) (R.o 5 rfl) (ac rfl) (fe aj) hk) (by refine af hf ?_;rfl)) (aq (ai (ao (ac rfl) cI) rfl) (jD (ay (vs:=[.ref (B 3),kE]) (ab (ac rfl) (ab (ac rfl) ae)) rfl (GZ R h)) (au aj (au aj (au aj ?_))))))
 refine aq (bc (aY (ai (ao (aQ rfl rfl) an) rfl) (ba (ai (ao (aQ rfl rfl) an) rfl)))) (au (ay (vs:=[.int 4]) (ab (aQ rfl rfl) ae) rfl (Fx (.inr (.inr rfl)))) (cg (ay (vs:=[kE]) (ab (ac rfl) ae) rfl FB) rfl (bQ rfl ?_)))
 have d19:∀ U:Env,U 0=some (.ref (B 3))→U 7=some (.int 19)→Ev (a8 (n+3)) U Z (.idx (.att (.x 0) 92) (.x 7)) (.int 1):=fun U h0 h7=>qt (k:=19) h0 (R.o 3 rfl) rfl rfl (R.o 6 rfl) (ac h7) (nq h)
 refine az (ai (aL (aA (w:=.int 2) (d19 _ rfl rfl) (ac rfl) fun Q q=>q) (ac rfl) cr) rfl) (au (v:=.int 2) (aA (d19 _ rfl rfl) (ac rfl) fun Q q=>q) (ax (jE (d:=2) rfl (qt (k:=19) (v:=.int 1) rfl (R.o 3 rfl) rfl rfl (R.o 7 rfl) (ac rfl) (nq h)) rfl (aq (ai (ao (qt (k:=19) (v:=.int 0) rfl (R.o 3 rfl) rfl rfl (R.o 8 rfl) (ac rfl) (tc h)) an) rfl) (ax ⟨rfl,b8 ?_⟩)))))
 refine aq (ai (ao (ac rfl) cr) rfl) (aq (ai (ao (ac rfl) cr) rfl) (au (v:=.int N) (fc (aZ (vs:=[.ref (B 4)]) (ab (bV rfl (R.o 3 rfl) rfl rfl) ae) (bJ (R.o 4 rfl))) (by(refine af gz ?_;with_reducible rfl))) ?_))
 have lt:∀ m,m≤N→m<bL:=fun m h=>Nat.lt_of_le_of_lt h (Nat.lt_trans hN (by decide))
 have ll:∀ v:V,(List.replicate N v).length<bL:=fun v=>lt _ (by refine af List.length_replicate ?_;exact Nat.le_refl _)
 refine qF (er:=.x 1) (en:=.x 8) (ed:=.x 3) (ew:=.x 4) (eo:=.x 5) R rfl (fun za=>ac rfl) (fun za=>ac rfl) (fun za=>ac rfl) (fun za=>ac rfl) (fun za=>ac rfl) hk (by refine af gz ?_;exact lt _ (Nat.le_refl _)) (lt _ (by delta gX;(rewrite[List.length_map];refine af List.length_range ?_);exact Nat.le_refl _)) (ll _) (ll _) (ll _) fun Z' R'=>aw (ac rfl) (q Z' ?_)
 rw[ij _ hf] at R';exact R'
noncomputable def sr(B:Nat→Addr):O:=.inst 88 [(150,.ref (B 3)),(195,.ref (B 9)),(196,.ref (B 10)),(197,.ref (B 11)),(198,.ref (B 12)),(199,.ref (B 13)),(200,.int 0)]
noncomputable def Dq(m:List V):List O:=[.list [.none],.list [.none],.list m,.dict [],.list []]
theorem DS{K:Nat}{U:Env}{P:aO}(R:Hp B [o0,o1] F Z)(q:∀ B' Z',B' 0=B 0→B' 1=B 1→Hp B' (ko B' o0 o1 (sr B') 16 (Dq [.none])) F Z'→P (.ref (B' 2)) Z'):WE (a8 (n+2)) (.call (.k (.fn 88)) []) U P Z:=by
 refine fK rfl rfl (cK fun a ha=>?_)
 have R1:=R.new rfl ha (.inst 88 [])
 refine bq q5 rfl (f7 (fK rfl rfl (cK fun b hb=>Gn R1 hb fun bs Z1 R2=>⟨rfl,bj (ac rfl) ?_⟩)))
 have e0:aK (aK B 2 [a]) 3 (b::bs) 0=B 0:=rfl
 have e1:aK (aK B 2 [a]) 3 (b::bs) 1=B 1:=rfl
 have e2:aK (aK B 2 [a]) 3 (b::bs) 2=a:=rfl
 have e3:aK (aK B 2 [a]) 3 (b::bs) 3=b:=rfl
 generalize aK (aK B 2 [a]) 3 (b::bs)=B1 at R2 e0 e1 e2 e3
 (refine br e2 ?_;refine br e3 ?_)
 refine⟨_,ch (R2.o 2 rfl) rfl,?_⟩
 replace R2:=R2.set (i:=2) (iR (by decide)) (.inst 88 [(150,.ref (B1 3))])
 refine j0 (j:=2) (c:=88) (n:=9) [(195,.lst [.none]),(196,.lst [.none]),(197,.lst [.none]),(198,.dct),(199,.lst []),(200,.k (.int 0))] R2 rfl rfl rfl rfl (fun p h=>nomatch h) fun bs' Z2 za R3=>ax ⟨rfl,q (aK B1 9 bs') Z2 e0 e1 R3⟩
end
noncomputable def mH(B:Nat→Addr)(at_:Nat):O:=.dict [(.sym 202,.ref (B 1)),(.sym 118,.int at_)]
noncomputable def S1(B:Nat→Addr)(nums:List Int)(at_ N:Nat)(tl:List O):List O:=ko B (mH B at_) (.list (aM nums)) (sr B) N (Dq [.none]++tl)
noncomputable def fS(m:Nat):List Int:=(List.range m).map fun(i:Nat)=>(18:Int)+i
noncomputable def ym:Nat→List (List Int)→List (V×V)
 |_,[]=>[]
 |k,r::rs=>(.int (k:Nat),.tup (aM r))::ym (k+1) rs
theorem mS{m:Nat}:fS (m+1)=fS m++[18+(m:Int)]:=by delta fS;(refine af List.range_succ ?_;refine ak (List.map_append) ?_);rfl
theorem hG{m i:Nat}(h:i<m):(fS m)[i]? = some (18+(i:Int)):=by skip;(refine ak (List.getElem?_map) ?_;refine af (List.getElem?_range h) ?_);rfl
theorem vp{r:List Int}(rs:List (List Int)):∀ k,ym k (rs++[r])=ym k rs++[(.int (k+rs.length:Nat),.tup (aM r))]:=by
 induction rs with
 |nil=>intro k;rfl
 |cons a rs ih=>intro k;exact congrArg _ ((ih (k+1)).trans (by rw[Nat.add_right_comm];rfl))
theorem vg{a b:Int}:dH (.int a) (.int b)=decide (a=b):=rfl
theorem iX{a b:Int}{v:V}{es:List (V×V)}:aI ((.int a,v)::es) (.int b)=if a=b then some v else aI es (.int b):=by
 by_cases c:a=b
 ·refine af (aG c) ?_;exact aG (bR c)
 ·refine af (aD c) ?_;exact aD (by(refine af vg ?_;refine af (bG c) ?_);exact Bool.false_ne_true)
theorem mX{k:Int}(rs:List (List Int)):∀ k0:Nat,aI (ym k0 rs) (.int k)=(if(k0:Int)≤k then rs[(k - k0).toNat]? else none).map fun r=>.tup (aM r):=by
 induction rs with
 |nil=>intro k0;show none=_;split<;>rfl
 |cons r rs ih=>
  intro k0
  skip
  (refine ak (iX) ?_;rw[ih])
  by_cases c:(k0:Int)=k
  ·refine af c ?_;(refine ak (aG rfl) ?_;refine af (aG (Int.le_refl _)) ?_;rw[Int.sub_self]);rfl
  ·refine ak (aD c) ?_
   by_cases d:(k0:Int)≤k
   ·refine aH ((⟨(k - k0 - 1).toNat,by lia⟩:∃ j:Nat,k=k0+1+j)) fun j e1=>?_;obtain rfl:=e1
    (refine af (aG (by lia)) ?_;refine af (aG d) ?_;refine af (show((k0:Int)+1+j - (k0+1:Nat)).toNat=j by lia) ?_;refine af (show((k0:Int)+1+j - k0).toNat=j+1 by lia) ?_);rfl
   ·(refine af (aD (by lia)) ?_;(refine af (aD d) ?_;with_reducible rfl))
noncomputable def pV(j:Nat)(r:List Int):Prop:=0<r.length∧r.length≤3∧∀ k ∈ r,k=19+(j:Int)∨k ∈ plain
noncomputable def CD(r:List Int):Prop:=0<r.length∧r.length≤3∧∀ k ∈ r,k ∈ plain
noncomputable def shD(deep:Nat)(bot:List Int)(rs:List (List Int)):List (V×V):=(.int (17+deep:Nat),.tup (aM bot))::ym 18 rs
theorem yk{deep:Nat}{bot:List Int}{rs:List (List Int)}(k:Int):bd (shD deep bot rs) (.int k)=true:=rfl
theorem yl{deep:Nat}{bot:List Int}{rs:List (List Int)}(hd:deep=rs.length+1)(k:Int):aI (shD deep bot rs) (.int k)=(aU (rs++[bot]) k).map fun r=>.tup (aM r):=by
 delta shD aU
 (refine ak (iX) ?_;rw[mX])
 by_cases c:((17+deep:Nat):Int)=k
 ·(refine ak (aG c) ?_;refine af (aG (by lia)) ?_;refine af (show(k - 18).toNat=rs.length by lia) ?_;refine af (List.getElem?_concat_length) ?_);rfl
 ·refine ak (aD c) ?_
  show(if(18:Int)≤k then rs[(k - 18).toNat]? else none).map _=_
  by_cases d:18≤k
  ·(refine af (aG d) ?_;refine af (aG d) ?_)
   by_cases l:(k - 18).toNat<rs.length
   ·(refine af (List.getElem?_append_left l) ?_;with_reducible rfl)
   ·(refine af (List.getElem?_eq_none (by lia)) ?_;(refine af (List.getElem?_eq_none (by rw[List.length_append];show rs.length+1≤_;lia)) ?_;with_reducible rfl))
  ·(refine af (aD d) ?_;(refine af (aD d) ?_;with_reducible rfl))
theorem Bw{bot:List Int}{rs:List (List Int)}(h1:3≤rs.length)(h2:rs.length≤6)(hb:CD bot)(hr:∀ j r,rs[j]? = some r→pV j r):db (rs++[bot]):=by
 have l:(rs++[bot]).length=rs.length+1:=by refine ak (List.length_append) ?_;rfl
 refine⟨by lia,fun k r e=>?_⟩
 unfold aU at e
 by_cases c:18≤k
 ·rw[aG c] at e
  refine aH ((⟨(k - 18).toNat,by lia⟩:∃ j:Nat,k=18+j)) fun j e1=>?_;obtain rfl:=e1
  rw[show((18:Int)+j - 18).toNat=j by lia] at e
  have lj:=(List.getElem?_eq_some_iff.mp e).1
  refine⟨by lia,?_⟩
  by_cases d:j<rs.length
  ·rw[List.getElem?_append_left d] at e
   refine o0x3 (hr j r e) fun a b f=>?_
   exact⟨a,b,fun k' h=>(f k' h).imp (fun e=>by lia) id⟩
  ·(rewrite[show j=rs.length by lia] at e;rw[List.getElem?_concat_length] at e)
   refine br (aP e) ?_
   exact⟨hb.1,hb.2.1,fun k' h=>.inr (hb.2.2 k' h)⟩
 ·rw[aD c] at e;exact ns e
section
variable {n:Nat} {Q:aO} {B:Nat→Addr} {F Z:H} {hs tl:List O} {nums:List Int} {at_ N:Nat}
theorem Hp.drop{o:O}{b:Addr}(R:Hp (aK B n [b]) (hs++[o]) F Z)(hn:hs.length=n):Hp B hs F Z:=by
 have lt:∀ {i},i<hs.length→i<(hs++[o]).length:=fun h=>by refine af List.length_append ?_;exact Nat.lt_succ_of_lt h
 have e:∀ {i},i<hs.length→aK B n [b] i=B i:=fun h=>cA (hn▸h)
 refine⟨fun i o' q=>?_,fun i j hi hj q=>R.inj i j (lt hi) (lt hj) (by(refine ak (e hi) ?_;refine af (e hj) ?_;(refine ak (q) ?_;with_reducible rfl))),R.fr,fun i hi=>e hi▸R.off i (lt hi)⟩
 have l:=(List.getElem?_eq_some_iff.mp q).1
 exact e l▸R.o i ((List.getElem?_append_left l).trans q)
theorem pf{cnt:Int}(R:Hp B (mH B at_::.list (aM nums)::tl) F Z)(hc:0<cnt)(q:∀ i:Nat,(i:Int)<cnt→∀ Z',Hp B (mH B (at_+1)::.list (aM nums)::tl) F Z'→Q (.int i) Z'):a8 (n+1) none 53 [.ref (B 0),.int cnt] Q Z:=
 Ft (R.o 0 rfl) (R.o 1 rfl) hc fun i hi=>q i hi _ (R.set (i:=0) (Nat.succ_pos _) (mH B (at_+1)))
theorem iA{K:aN}{U:Env}{Q:bK}{o e:E}{a:Addr}{xs:List V}{r:List C}(ho:Ev K U Z o (.ref a))(ha:Z a=some (.list xs))(h:WE K e U (fun v Z'=>∃ ys,Z' a=some (.list ys)∧ys.length<bL∧SS K r U Q (Z'.set a (.list (ys++[v])))) Z):SS K (.ex (.mth o 95 [e])::r) U Q Z:=by
 simp only[fR,mW] at *
 refine ho.go _ ⟨_,lR ha,rfl,?_⟩
 have:(fun(v:V) (Z':H)=>∃ ys,Z' a=some (.list ys)∧ys.length<bL∧eO K r U Q (Z'.set a (.list (ys++[v]))))=fun v Z'=>∃ ys,Z' a=some (.list ys)∧(95=95∧ys.length<bL∧eO K r U Q (Z'.set a (.list (ys++[v])))):=by
  funext v Z';exact propext ⟨fun⟨ys,h1,h2,h3⟩=>⟨ys,h1,rfl,h2,h3⟩,fun⟨ys,h1,_,h2,h3⟩=>⟨ys,h1,h2,h3⟩⟩
 rw[this] at h;exact h
theorem jy{U:Env}{P:aO}(R:Hp B (mH B at_::.list (aM nums)::tl) F Z)(h0:U 0=some (.ref (B 0)))(h4:U 4=some (.tup (aM plain)))(q:∀ k Z',k ∈ plain→Hp B (mH B (at_+1)::.list (aM nums)::tl) F Z'→P (.int k) Z'):WE (a8 (n+1)) (.idx (.x 4) (.call (.k (.fn 53)) [.x 0,.k (.int 7)])) U P Z:=
 gu (bj (ac h4) (aC (vs:=[.ref (B 0),.int 7]) (ab (ac h0) (ab aj ae)) rfl (pf R (by decide) fun i hi Z' R'=>by
  have l:i<plain.length:=Int.ofNat_lt.mp hi
  exact⟨.int plain[i],bP (Int.natCast_nonneg _) (by rw[Int.toNat_natCast];exact cy (List.getElem?_eq_getElem l)),q _ Z' (List.getElem_mem l) R'⟩)))
theorem Bz(m:Nat):rw_ (18+m)=.tup [.int 3,.int (64+m),.tup []]:=by
 skip;(refine ak (aD (by lia)) ?_;refine ak (aD (by lia)) ?_;refine ak (aD (by lia)) ?_;rw[Nat.add_sub_cancel_left])
theorem r6{U:Env}{P:aO}{deep:Nat}(R:Hp B (S1 B nums at_ 18 []) F Z)(h1:U 1=some (.ref (B 3)))(h3:U 3=some (.int deep))(hd:deep≤7)(q:∀ a Z',Hp (aK B 14 [a]) (S1 (aK B 14 [a]) nums at_ (18+deep) [.list (aM (fS deep))]) F Z'→P (.ref a) Z') :
  WE (a8 (n+5)) (.comp (.call (.k (.fn 8)) [.x 1,.bin .Add (.k (.int 64)) (.x 101),.tup []]) [101] (.call (.k (.bi 1)) [.x 3]) []) U P Z:=by
 refine d4 (n:=deep) (fun acc Z'=>Hp B (S1 B nums at_ (18+acc.length) []) F Z'∧acc=aM (fS acc.length)) (aZ (vs:=[.int deep]) (ab (ac h3) ae) fun Q q=>⟨_,rfl,⟨Int.natCast_nonneg _,Int.lt_of_le_of_lt (Int.ofNat_le.mpr hd) (by decide)⟩,q⟩) (Nat.le_trans hd (by decide)) ⟨R,rfl⟩ ?_ (fun v h=>nomatch h) fun acc Z' hl hI a ha=>?_
 ·intro acc Z' hl ⟨R',ea⟩ U' hb R hR
  refine br (aP hb) ?_
  refine aC (vs:=[.ref (B 3),.int (64+acc.length),.tup []]) (ab (ac h1) (ab (aA aj (ac rfl) fun Q q=>q) (ab (aE ae) ae))) rfl (Fj R' (by lia) (Bz _) (by lia) ?_ fun Z'' R''=>hR _ _ ⟨?_,?_⟩)
  ·exact fF (P:=fun m=>gR.contains (64+(m:Int))=false) rfl rfl rfl rfl rfl rfl rfl rfl (Nat.lt_of_lt_of_le hl (Nat.le_trans hd (by decide)))
  ·refine af List.length_append ?_;exact R''
  ·refine af List.length_append ?_
   show acc++_=aM (fS (acc.length+1))
   (refine af mS ?_;rewrite[cW];refine br ea ?_;rw[Int.natCast_add]);rfl
 ·have:=hI.1.new rfl ha (.list acc)
  rw[hI.2,hl] at this ⊢
  (rewrite[bz] at this;rw[show(fS deep).length=deep by delta fS;rw[List.length_map,List.length_range]] at this)
  exact q a _ this
end
section
variable {n:Nat} {Q:aO} {B:Nat→Addr} {F Z:H} {nums:List Int} {at_ N:Nat}
theorem yj{deep j:Nat}{bot r:List Int}{rows:List (List Int)}(hj:rows.length=j)(hjd:j+1<deep):bI (shD deep bot rows) (.int (18+(j:Int))) (.tup (aM r))=shD deep bot (rows++[r]):=by
 rw[ij]
 ·delta shD;(rewrite[vp];refine af hj ?_);rfl
 ·skip
  (refine ak (iX) ?_;refine ak (aD (by omega)) ?_;rewrite[mX];refine af (aG (by omega)) ?_;refine af (List.getElem?_eq_none (by omega)) ?_);rfl
theorem sI{deep j:Nat}{bot:List Int}{rows:List (List Int)}{tw:Int}{U:Env}{P:bK}(R0:Hp B (S1 B nums at_ N [.list (aM (fS deep)),.dict (shD deep bot rows)]) F Z)(hj:rows.length=j)(hjd:j+1<deep)(hd:deep≤7)
  (h0:U 0=some (.ref (B 0))) (h4:U 4=some (.tup (aM plain))) (h5:U 5=some (.int j)) (h6:U 6=some (.ref (B 14))) (h9:U 9=some (.ref (B 15))) (h10:U 10=some (.int tw))
  (q:∀ at' r U' Z',pV j r→(∀ i,i<11→U' i=U i)→Hp B (S1 B nums at' N [.list (aM (fS deep)),.dict (shD deep bot (rows++[r]))]) F Z'→P .next U' Z') :
  SS (a8 (n+1)) (match EK.body with | _::_::_::_::_::_::_::.for_ _ _ b::_=>b | _=>[]) U P Z:=by
 have fin:∀ (b:Addr) (l:List Int) (U1:Env) (Z1:H) (at1:Nat),pV j l→Hp (aK B 16 [b]) (S1 (aK B 16 [b]) nums at1 N [.list (aM (fS deep)),.dict (shD deep bot rows),.list (aM l)]) F Z1→(∀ i,i<11→U1 i=U i)→U1 11=some (.ref b)→
   SS (a8 (n+1)) [.set (.idx (.x 9) (.idx (.x 6) (.x 5))) (.call (.k (.bi 2)) [.x 11])] U1 P Z1:=by
  intro b l U1 Z1 at1 ok R1 hU h11
  refine dN (v:=.tup (aM l)) (aZ (vs:=[.ref b]) (ab (ac h11) ae) fun Q q=>⟨_,R1.o 16 rfl,q⟩) (ac ((hU 9 (by decide)).trans h9)) (ah (v:=.int (18+(j:Int))) (ac ((hU 6 (by decide)).trans h6)) (ac ((hU 5 (by decide)).trans h5)) (aJ (R1.o 14 rfl) (Int.natCast_nonneg _) (by rw[Int.toNat_natCast];exact cy (hG (by omega))))) (bo (R1.o 15 rfl) rfl ?_) (ax (q at1 l _ _ ok hU ?_))
  ·have:∀ (rs:List (List Int)) k,(ym k rs).length=rs.length:=fun rs=>by
    induction rs with
    |nil=>intro k;rfl
    |cons r rs ih=>intro k;exact congrArg (· + 1) (ih _)
   show(ym 18 rows).length+1<bL
   rw[this];delta bL;omega
  ·have R2:=R1.set (i:=15) (Nat.lt_of_lt_of_le (by decide) (Nat.le_refl 17)) (.dict (shD deep bot (rows++[l])))
   rw[← yj hj hjd] at R2 ⊢
   exact Hp.drop (hs:=S1 B nums at1 N [.list (aM (fS deep)),.dict (bI (shD deep bot rows) (.int (18+(j:Int))) (.tup (aM l)))]) (n:=16) R2 rfl
 have mid:∀ (b:Addr) (l:List Int) (U1:Env) (Z1:H) (at1:Nat),(0<l.length∧l.length≤2∧∀ k ∈ l,k=19+(j:Int))→Hp (aK B 16 [b]) (S1 (aK B 16 [b]) nums at1 N [.list (aM (fS deep)),.dict (shD deep bot rows),.list (aM l)]) F Z1→(∀ i,i<11→U1 i=U i)→U1 11=some (.ref b)→
   SS (a8 (n+1)) (match EK.body with | _::_::_::_::_::_::_::.for_ _ _ (_::_::b)::_=>b | _=>[]) U1 P Z1:=by
  intro b l U1 Z1 at1 ok R1 hU h11
  have h0':U1 0=some (.ref (aK B 16 [b] 0)):=(hU 0 (by decide)).trans h0
  refine aW (aC (vs:=[.ref (aK B 16 [b] 0),.int 3]) (ab (ac h0') (ab aj ae)) rfl (pf R1 (by decide) fun m hm Z2 R2=>?_))
  have pr:∀ i v,i<11→(U1.set 12 v) i=U i:=fun i v hi=>(aD (Nat.ne_of_lt (Nat.lt_succ_of_lt hi))).trans (hU i hi)
  by_cases c1:(m:Int)=1
  ·refine az (ai (ao (ac rfl) an) (bR c1)) (aW (iz (pH (bN (jy R2 h0' ((pr 4 _ (by decide)).trans h4) fun k Z3 hk R3 c hc=>bj (ac (v:=.ref b) h11) ⟨[.int k],aM l,aB,bv ?_ (R3.o 16 rfl),?_,fun d hd=>ax (fin d (k::l) _ _ (at1+1+1) ⟨Nat.succ_pos _,Nat.succ_le_succ ok.2.1,fun k' hk'=>?_⟩ ?_ (fun i hi=>?_) rfl)⟩)))))
   ·exact fun e=>by have:=R3.o 16 (o:=.list (aM l)) rfl;(rewrite[show aK B 16 [b] 16=b from rfl] at this;rewrite[e] at this;rw[hc] at this);exact ns this
   ·refine af bz ?_;show 1+l.length≤bL;delta bL;omega
   ·exact(List.mem_cons.mp hk').elim (fun e=>.inr (e▸hk)) fun h=>.inl (ok.2.2 k' h)
   ·exact(Hp.drop (hs:=S1 B nums (at1+1+1) N [.list (aM (fS deep)),.dict (shD deep bot rows)]) (n:=16) (R3.ext (bA.new hc)) rfl).new rfl hd _
   ·exact(aD (Nat.ne_of_lt hi)).trans (pr i _ hi)
  refine di (ai (ao (ac rfl) an) (bG c1)) ?_
  by_cases c2:(m:Int)=2
  ·refine az (ai (ao (ac rfl) an) (bR c2)) (iA (ac (v:=.ref b) h11) (R2.o 16 rfl) (jy R2 h0' ((pr 4 _ (by decide)).trans h4) fun k Z3 hk R3=>⟨_,R3.o 16 rfl,?_,ax (ax (fin b (l++[k]) _ _ (at1+1+1) ⟨?_,?_,fun k' hk'=>?_⟩ ?_ (fun i hi=>pr i _ hi) h11))⟩))
   ·refine af bz ?_;delta bL;omega
   ·refine af List.length_append ?_;exact Nat.succ_pos _
   ·refine af List.length_append ?_;exact Nat.succ_le_succ ok.2.1
   ·exact(List.mem_append.mp hk').elim (fun h=>.inl (ok.2.2 k' h)) fun h=>.inr (List.mem_singleton.mp h▸hk)
   ·rw[cW];exact R3.set (i:=16) (Nat.lt_succ_self 16) (.list (aM l++[.int k]))
  ·exact aq (ai (ao (ac rfl) an) (bG c2)) (ax (fin b l _ _ (at1+1) ⟨ok.1,Nat.le_succ_of_le ok.2.1,fun k' h=>.inl (ok.2.2 k' h)⟩ R2 (fun i hi=>pr i _ hi) h11))
 have ea:(18:Int)+((j+1:Nat):Int)=19+j:=by omega
 have nx:∀ (U':Env) Z',U' 6=some (.ref (B 14))→U' 5=some (.int j)→Z' (B 14)=some (.list (aM (fS deep)))→Ev (a8 (n+1)) U' Z' (.idx (.x 6) (.bin .Add (.x 5) (.k (.int 1)))) (.int (19+(j:Int))):=fun U' Z' h6 h5 h=>
  ah (k:=.int ((j+1:Nat):Int)) (ac h6) (aA (ac h5) aj fun Q q=>q) (aJ h (Int.natCast_nonneg _) (by(rewrite[Int.toNat_natCast];refine br ea ?_);exact cy (hG hjd)))
 refine aW (bx (vs:=[.int (19+(j:Int))]) (ab (nx U Z h6 h5 (R0.o 14 rfl)) ae) fun b hb=>?_)
 have R1:=R0.new rfl hb (.list (aM [19+(j:Int)]))
 have pr:∀ i v,i<11→(U.set 11 v) i=U i:=fun i v hi=>aD (Nat.ne_of_lt hi)
 change Hp (aK B 16 [b]) (S1 (aK B 16 [b]) nums at_ N [.list (aM (fS deep)),.dict (shD deep bot rows),.list (aM [19+(j:Int)])]) F _ at R1
 by_cases c:(j:Int)=tw
 ·refine az (ai (aL (ac ((pr 5 _ (by decide)).trans h5)) (ac ((pr 10 _ (by decide)).trans h10)) an) (bR c)) (bH (ac rfl) (R1.o 16 rfl) (nx _ _ h6 h5 (R1.o 14 rfl)) (by decide:1<bL) (ax (mid b [19+(j:Int),19+(j:Int)] _ _ at_ ⟨Nat.succ_pos _,Nat.le_refl 2,fun k hk=>?_⟩ ?_ (fun i hi=>pr i _ hi) rfl)))
  ·exact(List.mem_cons.mp hk).elim id fun h=>List.mem_singleton.mp h
  ·exact R1.set (i:=16) (Nat.lt_succ_self 16) (.list (aM [19+(j:Int),19+(j:Int)]))
 ·exact aq (ai (aL (ac ((pr 5 _ (by decide)).trans h5)) (ac ((pr 10 _ (by decide)).trans h10)) an) (bG c)) (mid b [19+(j:Int)] _ _ at_ ⟨Nat.succ_pos _,(by decide:1≤2),fun k hk=>List.mem_singleton.mp hk⟩ R1 (fun i hi=>pr i _ hi) rfl)
theorem ql{g m:Nat}:(m:Int)+g=((m+g:Nat):Int):=(Int.natCast_add m g).symm
theorem GN(R:Hp B (S1 B nums at_ 18 []) F Z)(q:∀ B' Z' (s:List (List Int)) at' sh,(∀ i,i<14→B' i=B i)→db s→(∀ k:Int,aI sh (.int k)=(aU s k).map fun r=>.tup (aM r))→(∀ k:Int,bd sh (.int k)=true)→Hp B' (S1 B' nums at' (18+s.length) [.list (aM (fS s.length)),.dict sh]) F Z'→Q (.tup [.ref (B' 14),.ref (B' 15)]) Z') :
  a8 (n+6) none 54 [.ref (B 0),.ref (B 3),.int 16] Q Z:=by
 refine bq zT rfl (aW (iz (bj aj (aC (vs:=[.ref (B 0),.int 4]) (ab (ac rfl) (ab aj ae)) rfl (pf R (by decide) fun g hg Z1 R1=>?_)))))
 refine o1x3 ((⟨4+g,ql (m:=4),by omega,by omega⟩:∃ deep:Nat,(4:Int)+g=deep∧4≤deep∧deep≤7)) fun deep ed d1 d2=>?_
 change SS _ _ (Env.set _ 3 (.int (4+(g:Int)))) _ _
 refine af ed ?_
 refine au (v:=.tup (aM plain)) (aE (ab aj (ab aj (ab (ac rfl) (ab aj (ab aj (ab aj (ab aj ae)))))))) (aW (r6 R1 rfl rfl d2 fun a Z2 R2=>?_))
 have e1:∀ i,i<14→aK B 14 [a] i=B i:=fun i hi=>cA hi
 have ea:(some (V.ref a))=some (.ref (aK B 14 [a] 14)):=rfl
 have E0:=e1 0 (by decide)
 generalize aK B 14 [a]=B1 at R2 e1 ea E0
 refine aW (bx ae fun b hb=>f6 (jz (bN (iz (bj aj (aC (vs:=[.ref (aK B1 15 [b] 0),.int 3]) (ab (ac (E0▸rfl:some (V.ref (B 0))=some (V.ref (B1 0)))) (ab aj ae)) rfl (pf (R2.new rfl hb (.list (aM []))) (by decide) fun g2 hg2 Z3 R3=>?_)))))))
 refine⟨_,rfl,⟨by omega,by omega⟩,_,rfl,?_⟩
 change FL _ _ (.rng (1+(g2:Int))) ((List.range (Int.toNat (1+(g2:Int)))).map _) _ _ ((List.range (Int.toNat (1+(g2:Int)))).map _) _ _
 refine af (show(1:Int)+g2=((1+g2:Nat):Int) from ql (m:=1)) ?_
 refine gY (N:=1+g2) (fun i U Z=>∃ at' l,l.length=i∧(∀ k ∈ l,k ∈ plain)∧Hp (aK B1 15 [b]) (S1 (aK B1 15 [b]) nums at' (18+deep) [.list (aM (fS deep)),.list (aM l)]) F Z∧U 0=some (.ref (B1 0))∧U 3=some (.int deep)∧U 4=some (.tup (aM plain))∧U 6=some (.ref (B1 14))∧U 7=some (.ref b)) ?_ ⟨_,[],rfl,fun za h=>(nomatch h),R3,E0▸rfl,rfl,rfl,ea,rfl⟩ ?_
 ·intro i hi U Z4 p0;refine o2x8 p0 fun at' l hl hp R4 h0 h3 h4 h6 h7=>?_;clear p0;intro P hP za
  refine iA (ac (v:=.ref b) h7) (R4.o 15 rfl) (jy R4 h0 h4 fun k Z5 hk R5=>⟨_,R5.o 15 rfl,?_,ax (hP _ _ ⟨at'+1,l++[k],?_,fun k' hk'=>?_,?_,h0,h3,h4,h6,h7⟩)⟩)
  ·(refine af bz ?_;refine af hl ?_);delta bL;omega
  ·(refine ak (List.length_append) ?_;refine af hl ?_);rfl
  ·exact(List.mem_append.mp hk').elim (fun h=>hp k' h) fun h=>List.mem_singleton.mp h▸hk
  ·rw[cW];exact R5.set (i:=15) (Nat.lt_succ_self 15) (.list (aM l++[.int k]))
 ·intro U Z4 p0;refine o2x8 p0 fun at' bot hl hp R4 h0 h3 h4 h6 h7=>?_;clear p0
  refine aH ((⟨deep - 1,by omega⟩:∃ m,deep=m+1)) fun m e1=>?_;obtain rfl:=e1
  have em:((m+1:Nat):Int) - 1=(m:Int):=by omega
  have dm:∀ U':Env,U' 3=some (.int ((m+1:Nat):Int))→∀ Z',Ev (a8 (n+5)) U' Z' (.bin .Sub (.x 3) (.k (.int 1))) (.int m):=fun U' h Z'=>em▸aA (ac h) aj fun Q q=>q
  refine aW (lB (dj (u:=.int (18+(m:Int))) (ah (k:=.int m) (ac h6) (dm _ h3 _) (aJ (R4.o 14 rfl) (Int.natCast_nonneg _) (by rw[Int.toNat_natCast];exact cy (hG (Nat.lt_succ_self _))))) (bj (aZ (vs:=[.ref b]) (ab (ac h7) ae) fun Q q=>⟨_,R4.o 15 rfl,q⟩) (lV ⟨rfl,fun c hc=>?_⟩))))
  have R5:=(Hp.drop (hs:=S1 B1 nums at' (18+(m+1)) [.list (aM (fS (m+1)))]) (n:=15) R4 rfl).new rfl hc (.dict (shD (m+1) bot []))
  have kc:dF [] [(V.int (18+(m:Int)),V.tup (aM bot))]=shD (m+1) bot []:=by
   show[(V.int (18+(m:Int)),V.tup (aM bot))]=[(V.int ((17+(m+1):Nat):Int),V.tup (aM bot))]
   (refine af (show((17+(m+1):Nat):Int)=18+m by omega) ?_;with_reducible rfl)
  refine af kc ?_
  change Hp (aK B1 15 [c]) (S1 (aK B1 15 [c]) nums at' (18+(m+1)) [.list (aM (fS (m+1))),.dict (shD (m+1) bot [])]) F _ at R5
  have e2:∀ i,i<15→aK B1 15 [c] i=B1 i:=fun i hi=>cA hi
  have ec:(some (V.ref c))=some (.ref (aK B1 15 [c] 15)):=rfl
  generalize Z4.set c _=Z5 at R5 ⊢
  generalize aK B1 15 [c]=B2 at R5 e2 ec
  have h0':U 0=some (.ref (B2 0)):=h0.trans (by(refine af (e2 0 (by decide)) ?_;with_reducible rfl))
  have h6':U 6=some (.ref (B2 14)):=h6.trans (by(refine af (e2 14 (by decide)) ?_;with_reducible rfl))
  refine aW (iz (bj (aA (ac h3) aj fun Q q=>q) (aC (vs:=[.ref (B2 0),.int 2]) (ab (ac h0') (ab aj ae)) rfl (pf R5 (by decide) fun g3 hg3 Z6 R6=>?_))))
  refine cg (v:=.rng (m:Int)) (aZ (vs:=[.int m]) (ab (dm ((U.set 9 (.ref c)).set 10 (.int (((m+1:Nat):Int) - 2 - g3))) h3 _) ae) fun Q q=>⟨_,rfl,⟨by omega,by omega⟩,q⟩) rfl ?_
  refine gY (N:=m) (fun i U Z=>∃ at' rows,rows.length=i∧(∀ j r,rows[j]? = some r→pV j r)∧Hp B2 (S1 B2 nums at' (18+(m+1)) [.list (aM (fS (m+1))),.dict (shD (m+1) bot rows)]) F Z∧U 0=some (.ref (B2 0))∧U 4=some (.tup (aM plain))∧U 6=some (.ref (B2 14))∧U 9=some (.ref (B2 15))∧U 10=some (.int (((m+1:Nat):Int) - 2 - g3))) ?_ ⟨_,[],rfl,fun za za h=>(nomatch h),R6,h0',h4,h6',ec,rfl⟩ ?_
  ·intro i hi U Z7 p0;refine o2x8 p0 fun at'' rows hr hok R7 k0 k4 k6 k9 k10=>?_;clear p0;intro P hP za
   refine sI R7 hr (Nat.succ_lt_succ hi) d2 k0 k4 rfl k6 k9 k10 fun ju r U' Z' ok hU R'=>hP _ _ ⟨ju,rows++[r],?_,fun j r' h=>?_,R',(hU 0 (by decide)).trans k0,(hU 4 (by decide)).trans k4,(hU 6 (by decide)).trans k6,(hU 9 (by decide)).trans k9,(hU 10 (by decide)).trans k10⟩
   ·(refine ak (List.length_append) ?_;refine af hr ?_);rfl
   ·by_cases c:j<rows.length
    ·rw[List.getElem?_append_left c] at h;exact hok j r' h
    ·have:j=rows.length:=by have:=(List.getElem?_eq_some_iff.mp h).1;rw[List.length_append] at this;exact Nat.le_antisymm (Nat.le_of_lt_succ this) (Nat.le_of_not_lt c)
     subst this
     rw[List.getElem?_concat_length] at h;refine br (aP h) ?_;refine af hr ?_;exact ok
  ·intro U Z7 p0;refine o2x8 p0 fun at'' rows hr hok R7 k0 k4 k6 k9 k10=>?_;clear p0
   have ls:(rows++[bot]).length=m+1:=by(refine ak (List.length_append) ?_;refine af hr ?_);rfl
   refine aw (aE (ab (ac k6) (ab (ac k9) ae))) (q B2 Z7 (rows++[bot]) at'' _ (fun i hi=>(e2 i (Nat.lt_succ_of_lt hi)).trans (e1 i hi)) (Bw (by omega) (by omega) ⟨by omega,by omega,hp⟩ hok) (yl (by(refine af hr ?_;with_reducible rfl))) yk ?_)
   refine af ls ?_;exact R7
end
theorem yb{K:aN}{U:Env}{Z:H}{P:aO}{o:E}{p:Addr}{xs:List V}(ho:Ev K U Z o (.ref p))(hp:Z p=some (.list xs))(k:∀ a,Z a=none→P (.ref a) (Z.set a (.list xs.reverse))):WE K (.rev o) U P Z:=⟨ho.go _ ⟨xs,hp,k⟩⟩
theorem Dm{f:Int→Sp}{b:List Int}(a:List Int):∀ i,wr f i (a++b)=wr f i a++wr f (i+a.length) b:=by
 induction a with
 |nil=>intro i;show wr f i b=wr f (i+0) b;rw[Int.add_zero]
 |cons k a ih=>
  intro i
  show _++wr f (i+1) (a++b)=(_++wr f (i+1) a)++_
  (rewrite[ih];rewrite[List.append_assoc];rewrite[Int.add_right_comm];refine af List.length_cons ?_;rewrite[Int.natCast_add];rw[← Int.add_assoc]);rfl
structure FN (s:List (List Int)) (Z:H) (a:Addr) (j:Nat) (sp:List (V×V)) (Z1:H):Prop where
 d:Z1 a=some (.dict sp)
 key:∀ k:Int,bd sp (.int k)=true
 no:∀ k:Int,(k<18+(j:Int)∨aU s k=none)→aI sp (.int k)=none
 at_:∀ (k:Int) (r:List Int),aU s k=some r→18+(j:Int)≤k→∃ x,aI sp (.int k)=some (.ref x)∧Z1 x=some (.list ((W s k).map eg))∧Z x=none
 ext:bA Z Z1
 len:sp.length≤100
section
variable {n:Nat} {Q:aO} {Z:H} {s:List (List Int)}
theorem nL{K:aN}{P:bK}{k:Int}{i:Nat}{y b:Addr}{whole:List V}{tl:Sp}(ok:db s)(hyb:y≠b)(l:Sp):∀ (pre:Sp) (U:Env) (Z1:H),(∀ z ∈ l,z.1.length≤7)→W s k=pre++(l.map (fun p=>((i:Int)::p.1,p.2))++tl)→Z1 y=some (.list whole)→Z1 b=some (.list (pre.map eg))→U 4=some (.ref b)→U 5=some (.int i)→
  (∀ U' Z' pre',(∀ j,j<7→U' j=U j)→W s k=pre'++tl→jl b Z1 Z'→Z' b=some (.list (pre'.map eg))→P .next U' Z')→
  FL K [7,8] (.ref y) whole [.ex (.mth (.x 4) 95 [.tup [.bin .Add (.tup [.x 5]) (.x 7),.x 8]])] P (l.map eg) U Z1:=by
 induction l with
 |nil=>intro pre U Z1 _ e _ hb _ _ q;exact b8 (q U Z1 pre (fun za za=>rfl) e bA.refl.off hb)
 |cons z l ih=>
  intro pre U Z1 hz e hy hb h4 h5 q
  obtain⟨w,kz⟩:=z
  have wl:=lh ok k
  have lp:pre.length≤3280:=Nat.le_trans (by(refine af e ?_;refine af List.length_append ?_);exact Nat.le_add_right _ _) wl
  refine bQ (U':=(U.set 7 (.tup (aM w))).set 8 (.int kz)) rfl (bH (ac h4) hb (aE (ab (aA (aE (ab (ac h5) ae)) (ac rfl) fun Q q=>⟨?_,q⟩) (ab (ac rfl) ae))) ?_ (ax ⟨be (bv hyb hy),ih (pre++[((i:Int)::w,kz)]) _ _ (fun z h=>hz z (.tail _ h)) ?_ (bv hyb hy) ?_ h4 h5 fun U' Z' pre' hU e' x' hb'=>q U' Z' pre' (fun j hj=>(hU j hj).trans ((aD (Nat.ne_of_lt (Nat.lt_succ_of_lt hj))).trans (aD (Nat.ne_of_lt hj)))) e' (bA.refl.off.set.trans x') hb'⟩))
  ·refine af bz ?_;have:=hz _ (.head _);show 1+w.length≤100000;exact Nat.le_trans (Nat.add_le_add_left this 1) (by decide)
  ·rw[List.length_map];exact Nat.lt_of_le_of_lt lp (by decide)
  ·(refine ak (e) ?_;rw[List.append_assoc]);rfl
  ·refine af List.map_append ?_;exact aB
theorem pU{j:Nat}(h:j<s.length):aU s (18+(j:Int))=some s[j]:=by
 skip;(refine ak (aG (by lia)) ?_;refine af (show(18+(j:Int) - 18).toNat=j by lia) ?_);exact List.getElem?_eq_getElem h
theorem GM{T S:Addr}{sh:List (V×V)}(hT:Z T=some (.list (aM (fS s.length))))(hS:Z S=some (.dict sh))(ok:db s)(shD:∀ k:Int,aI sh (.int k)=(aU s k).map fun r=>.tup (aM r))(shK:∀ k:Int,bd sh (.int k)=true)
  (q:∀ a sp Z',Z a=none→FN s Z a 0 sp Z'→Q (.ref a) Z'):a8 (n+1) none 55 [.ref T,.ref S] Q Z:=by
 refine bq zS rfl (aW (gw fun a ha=>f6 (yb (ac rfl) (bA.new ha _ _ hT) fun c hc=>⟨_,be aB,?_⟩)))
 have hca:c≠a:=fun e=>by(rewrite[e] at hc;rw[aB] at hc);exact sn hc
 have x0:bA Z ((Z.set a (.dict [])).set c (.list (aM (fS s.length)).reverse)):=(bA.new ha).trans (bA.new hc)
 refine(?_:∀ (j:Nat) (sp:List (V×V)) (U:Env) (Z1:H),j≤s.length→FN s Z a j sp Z1→sp.length+j≤100→Z1 c=some (.list (aM (fS s.length)).reverse)→U 1=some (.ref S)→U 2=some (.ref a)→FL _ _ _ _ _ _ (aM (fS j)).reverse U Z1) s.length [] _ _ (Nat.le_refl _) ⟨bv hca.symm aB,fun za=>rfl,fun za za=>rfl,fun k r e h=>absurd (ok.row k r e).1 (by lia),x0,by decide⟩ (by have:=ok.len;show 0+_≤_;lia) aB rfl rfl
 intro j
 induction j with
 |zero=>intro sp U Z1 _ I _ _ h1 h2;exact b8 (aw (ac h2) (q a sp Z1 ha I))
 |succ j ih=>
  intro sp U Z1 hj I hl hc' h1 h2
  have g:=pU hj
  generalize hr:s[j]=row at g
  have W1:=mB ok g
  have r3:=(ok.row _ _ g).2
  (refine af mS ?_;rewrite[cW];refine af List.reverse_append ?_)
  refine bQ rfl (aW (bx (vs:=[eg ([],18+(j:Int))]) (ab (aE (ab (aE ae) (ab (ac rfl) ae))) ae) fun b hb=>?_))
  have xb:∀ {Z':H},jl b Z1 Z'→bA Z1 Z':=fun o y v h=>o y v (fun e=>by(rewrite[e] at h;rw[hb] at h);exact ns h) h
  have rowAt:∀ (U':Env) Z',U' 1=some (.ref S)→U' 3=some (.int (18+(j:Int)))→bA Z1 Z'→Ev (a8 n) U' Z' (.idx (.x 1) (.x 3)) (.tup (aM row)):=fun U' Z' h1 h3 x=>ah (ac h1) (ac h3) (aF (x _ _ (I.ext _ _ hS)) (shK _) (by(rewrite[shD];refine af g ?_);rfl))
  refine cg (v:=.rng (row.length:Int)) (aZ (vs:=[.int row.length]) (ab (dp (rowAt _ _ h1 rfl (bA.new hb))) ae) fun Q q=>⟨_,rfl,⟨by lia,by lia⟩,q⟩) rfl ?_
  refine gY (N:=row.length) (fun i U' Z'=>jl b Z1 Z'∧U' 1=some (.ref S)∧U' 2=some (.ref a)∧U' 3=some (.int (18+(j:Int)))∧U' 4=some (.ref b)∧∃ pre,W s (18+(j:Int))=pre++wr (W s) i (row.drop i)∧Z' b=some (.list (pre.map eg))) ?_ ⟨(bA.new hb).off,h1,h2,rfl,rfl,[([],18+(j:Int))],W1,aB⟩ ?_
  ·rintro i hi U' Z' ⟨o,k1,k2,k3,k4,pre,e,hpre⟩ P hP _
   have gi:=List.getElem?_eq_getElem hi
   refine au (v:=.int row[i]) (ah (k:=.int i) (rowAt _ _ k1 k3 (xb o)) (ac rfl) (bP (Int.natCast_nonneg _) (by rw[Int.toNat_natCast];exact cy gi))) ?_
   rw[List.drop_eq_getElem_cons hi] at e
   have hw7:∀ z ∈ W s row[i],z.1.length≤7:=fun z hz=>cU ok ((fV ok _ z.1).mp hz)
   have pr:∀ m (v w:V),m<5→((U'.set 5 v).set 6 w) m=U' m:=fun m v w h=>(aD (by lia)).trans (aD (by lia))
   refine f6 (pI (ac ((pr 2 _ _ (by decide)).trans k2)) (xb o _ _ I.d) (ac rfl) (bx (vs:=[eg ([],row[i])]) (ab (aE (ab (aE ae) (ab (ac rfl) ae))) ae) fun y hy=>⟨rfl,sp,bA.new hy _ _ (xb o _ _ I.d),I.key _,?_⟩))
   have fin:∀ z,((aI sp (.int row[i])).getD (.ref y))=.ref z→z≠b→(Z'.set y (.list [eg ([],row[i])])) z=some (.list ((W s row[i]).map eg))→∃ xs,bp (Z'.set y (.list [eg ([],row[i])])) ((aI sp (.int row[i])).getD (.ref y))=some xs∧FL (a8 n) [7,8] ((aI sp (.int row[i])).getD (.ref y)) xs [.ex (.mth (.x 4) 95 [.tup [.bin .Add (.tup [.x 5]) (.x 7),.x 8]])] (qN (a8 n) [] P) xs ((U'.set 5 (.int i)).set 6 (.int row[i])) (Z'.set y (.list [eg ([],row[i])])):=fun z ez hzb hz=>by
    refine af ez ?_
    refine⟨_,be hz,nL (tl:=wr (W s) (i+1:Int) (row.drop (i+1))) ok hzb (W s row[i]) pre _ _ hw7 e hz (bA.new hy _ _ hpre) k4 rfl fun U2 Z2 pre' hU e' x2 hb'=>ax (hP U2 Z2 ⟨o.trans ((bA.new hy).off.trans x2),(hU 1 (by decide)).trans k1,(hU 2 (by decide)).trans k2,(hU 3 (by decide)).trans k3,(hU 4 (by decide)).trans k4,pre',?_,hb'⟩)⟩
    (refine ak (e') ?_;rw[Int.natCast_add]);rfl
   induction gk:aU s row[i] using Option.casesOn with
   |none=>
    refine fin y (by refine af (I.no _ (.inr gk)) ?_;rfl) (fun e=>by(rewrite[e] at hy;rw[hpre] at hy);exact sn hy) ?_
    refine af (kh gk) ?_;exact aB
   |some r'=>
    have hk:18+((j+1:Nat):Int)≤row[i]:=by
     rcases r3.2.2 row[i] (List.getElem_mem hi) with⟨h,_⟩ | h
     ·lia
     ·have:row[i]<18:=by delta plain at h;simp at h;lia
      rw[jG this] at gk;exact ns gk
    refine o1x3 (I.at_ _ _ gk hk) fun x e1 e2 za=>?_
    exact fin x (by refine af e1 ?_;rfl) (fun e=>by(rewrite[e] at e2;rw[hb] at e2);exact ns e2) (bA.new hy _ _ (xb o _ _ e2))
  ·rintro U' Z' ⟨o,k1,k2,k3,k4,pre,e,hpre⟩
   rw[List.drop_length] at e
   have e:W s (18+(j:Int))=pre:=by refine ak (e) ?_;exact List.append_nil _
   subst e
   have x1:=xb o
   have I1:=I.ext.trans x1
   refine dN (ac k4) (ac k2) (ac k3) (bo (x1 _ _ I.d) (I.key _) (Nat.lt_of_le_of_lt I.len (by decide))) (ax ⟨be (bv hca (x1 _ _ hc')),ih _ _ _ (Nat.le_of_succ_le hj) ⟨aB,fun k=>dT (I.key k) rfl,fun k hk=>?_,fun k r e hk=>?_,I1.set ha,?_⟩ ?_ (bv hca (x1 _ _ hc')) k1 k2⟩)
   ·rw[dG fun h=>?_]
    ·exact I.no k (hk.imp (fun h=>by lia) id)
    ·have h:=V.int.inj h
     subst h
     refine Or.elim hk (fun h=>?_) (fun h=>?_);all_goals clear hk
     ·exact absurd h (Int.lt_irrefl _)
     ·rw[g] at h;exact sn h
   ·have na:∀ {z l},Z' z=some (O.list l)→z≠a:=fun h e=>by(rewrite[e] at h;rw[x1 _ _ I.d] at h);cases h
    by_cases c:k=18+(j:Int)
    ·subst c;exact⟨b,dW (k:=.int (18+(j:Int))) (bR rfl) _,bv (na hpre) hpre,by induction h:Z b using Option.casesOn with | none=>rfl | some o=>rw[I.ext _ _ h] at hb;exact sn hb⟩
    ·refine o1x3 (I.at_ k r e (by lia)) fun x e1 e2 e3=>?_
     exact⟨x,(dG (fun h=>c (V.int.inj h).symm) _).trans e1,bv (na (x1 _ _ e2)) (x1 _ _ e2),e3⟩
   ·exact Nat.le_trans (fG _) (by lia)
   ·exact Nat.le_trans (Nat.add_le_add_right (fG _) _) (by lia)
end
noncomputable def F5:List Nat:=[0,1,20,15,16,17,18,13,38,39,73,60,52,72,64,66,27,26,28,74,76,78,33,36,4,8,11,42,37,0,31,46,25,53,65,75,77,79,2,3,22,51,63,48]
noncomputable def Fi:List (Nat×Nat):=[(31,129),(31,150),(31,149),(31,90),(31,154),(31,130),(31,155),(31,131),(31,159),(31,163),(31,165),(46,129),(46,130),(46,131),(25,117),(25,118),(25,121),(25,122),(25,119),(53,133),(53,134),(53,136),(53,137),(53,132),(65,133),(65,134),(65,135),(65,136),(65,137),(65,132),(75,111),(75,112),(75,113),(75,114),(75,115),(77,111),(77,112),(77,113),(77,114),(77,115),(79,111),(79,112),(79,113),(79,114),(79,115),(2,150),(2,197),(3,90),(3,94),(22,183),(22,187),(22,188),(51,133),(63,133),(31,158)]
noncomputable def uV(i:Nat):Nat:=F5.getD i 0
section
variable (B:Nat→Addr) (d:Dt)
noncomputable def ng(a:V):V:=.tup [a,.int 1,.tup []]
noncomputable def wB:List (V×V):=[(.sym 211,.int 16),(.sym 204,.ref (B 15)),(.sym 203,.ref (B 16)),(.sym 210,.tup (aM [18,19,18,19,19,19,18,18])),(.sym 205,.ref (B 17)),(.sym 121,.ref (B 18)),(.sym 209,.int d.bits),(.sym 176,.ref (B 19))]
noncomputable def F3:List O:=Dq [.none]++[.list (aM (fS d.s.length)),.dict d.sh,.dict d.sp,.dict d.es,.dict [],.list [],.dict (wB B d)]
noncomputable def S2:List O:=ko B (mH B d.at_) (.list (aM d.nums)) (sr B) (18+d.s.length) (F3 B d)
noncomputable def S3:List O:=S2 B d++[.list (dw d)]
noncomputable def BH(u:V):O:=.inst 86 [(179,.int 1),(180,.int 70),(181,.sym 212),(182,.int 6),(183,.int 1),(184,.int 0),(185,.ref (B 23)),(186,.ref (B 24)),(187,.int 0),(188,.tup [.int 19,.int 7]),(189,u),(190,.tup [.int 0,.int 0]),(137,.none),(191,.int 0)]
noncomputable def cx(top made fresh:Int):O:=.inst 80 [(117,.ref (B 26)),(118,.ref (B 27)),(119,.int top),(120,.int 400),(121,.ref (B 28)),(122,.int d.bits),(123,.int fresh),(124,.int 101),(125,.ref (B 29)),(126,.ref (B 30)),(127,.int 0),(128,.int made)]
noncomputable def si:O:=.inst 85 [(149,.ref (B 2)),(150,.ref (B 3)),(129,.ref (B 25)),(151,.ref (B 32)),(90,.ref (B 33)),(152,.ref (B 34)),(153,.ref (B 35)),(154,.ref (B 36)),(130,.ref (B 37)),(155,.ref (B 38)),(131,.ref (B 39)),(156,.ref (B 40)),(157,.ref (B 41)),(158,.int 0),(159,.ref (B 42)),(160,.ref (B 43)),(161,.ref (B 44)),(162,.ref (B 45)),(163,.ref (B 46)),(164,.ref (B 47)),(165,.ref (B 48))]
noncomputable def xH(l:V)(i:Nat):O:=.inst 87 [(133,l),(192,.int 1),(193,.ref (B i)),(194,.ref (B (i+1)))]
noncomputable def l0(num:Int)(mref:V)(body args loc keep i:Nat)(sort:Int):O:=.inst 82 [(97,.int num),(136,mref),(137,.ref (B body)),(138,.int 0),(134,.ref (B args)),(133,.ref (B loc)),(139,.ref (B (i+1))),(140,.ref (B (i+2))),(141,.ref (B (i+3))),(142,.ref (B (i+4))),(135,.ref (B keep)),(102,.int sort),(132,.int num),(143,.int 0),(144,.int (-1))]
noncomputable def dz(AI kind:Int)(slots:Nat)(xw size serial:Int):O:=.inst 79 [(111,.int AI),(112,.int kind),(113,.ref (B slots)),(114,.int xw),(115,.int size),(116,.int serial)]
noncomputable def Bd(md:O)(rows unders bn st:List (V×V))(hp:O)(th:List V)(hat:List (V×V)):List O:=[md,.list [],.list [],hp,.list th,.dict hat,.dict [],.list [],.list [],si B,.dict [],.dict rows,.dict [],.dict [],.dict unders,.list [],.dict bn,.dict st,.dict [],.dict [],.list [],.list [],.list [],.list [],.inst 81 [(129,.ref (B 25)),(130,.ref (B 38)),(131,.ref (B 39))],.inst 83 [],.inst 84 []]
noncomputable def e6:List O:=List.replicate 6 (.list [])
noncomputable def Dp:List O:=[.list [],.list [],xH B (.tup [.int 18,.int 7]) 49,.list [d.v 1,.tup [.int 1,.int 56]],l0 B 7 (ng (.int 17)) 51 52 60 59 54 0]++e6++[.list [d.v 0,.tup [.int 1,.int 55]],.list [],.list [],xH B (.tup []) 61,.list [],l0 B 9 (ng (.int 18)) 63 64 66 72 66 3]++e6++[.list [d.v 7],.list [.tup [.int 1,.int 57],d.v 2]]
noncomputable def E3(g0 g1 g2:Int):List O:=[.list [.tup [.int 4,.int 24],d.v 3],dz B 16 17 74 g0 4 1,.list [d.v 4,d.v 5],dz B 20 (18+d.s.length:Nat) 76 g1 4 2,.list [d.v 6],dz B 24 18 78 g2 3 3]
noncomputable def EN:List (V×V):=[(.int 7,.ref (B 53)),(.int 9,.ref (B 65))]
noncomputable def Du:List (V×V):=[(.int 17,.ref (B 73))]
noncomputable def FM:List (V×V):=[(.int 16,.ref (B 75)),(.int 20,.ref (B 77)),(.int 24,.ref (B 79))]
noncomputable def wE:List (V×V):=wB B d++[(.sym 208,.tup [.bool false,.bool false,.bool false,.bool (decide (0<d.g0)),.bool (decide (0<d.g1)),.bool (decide (0<d.g1)),.bool (decide (0<d.g2)),.bool false]),(.sym 207,.ref (B 31)),(.sym 132,.int 17),(.sym 130,.tup [.ref (B 53),.ref (B 65)]),
 (.sym 206,.tup [pl [] 0,pl [] 1,pl [] 2,pl [] 3,pl [] 4,pl [] 5,pl [] 6,pl [] 7])]
noncomputable def S7(u:V)(w:List (V×V))(g0 g1 g2:Int):List O:=D6 B (mH B d.at_) (.list (aM d.nums)) (sr B) (18+d.s.length) ([.list [.none],.list [.none],.list [.none,.ref (B 22)],.dict [],.list [],.list (aM (fS d.s.length)),.dict d.sh,.dict d.sp,.dict d.es,.dict [],.list [],.dict w,.list (dw d)]++
 Bd B (BH B u) d.rows [(.int 16,.int 5)] (EN B) (Du B) (cx B d 27 3 11) [.ref (B 75),.ref (B 77),.ref (B 79)] (FM B)++Dp B d++E3 B d g0 g1 g2)
end
noncomputable def Dt.ini(d:Dt)(wa:Addr):Dt:={ d with cs:=[],hc:=[],flag:=false,st:=false,wf:=false,wa:=wa }
noncomputable def tW(o:O)(n:Nat):Option V:=match o with
 |.inst c fs=>if(bk c).contains n then dI fs n else none
 |_=>none
section
variable {B:Nat→Addr} {F Z:H} {d:Dt} {u:V}
theorem getD_some{l:List O}{i:Nat}{x:O}(h:i<l.length):l[i]? = some (l.getD i x):=by
 (refine af (List.getD_eq_getElem?_getD) ?_;refine af (List.getElem?_eq_getElem h) ?_);rfl
theorem w0{hs:List O}(R:Hp B hs F Z){j n:Nat}{v:V}{x:O}(hj:j<hs.length)(h:tW (hs.getD j x) n=some v):cR Z (.ref (B j)) n=some v:=by
 (refine ak (ip) ?_;refine af (R.o j (getD_some hj (x:=x))) ?_)
 generalize hs.getD j x=o at h
 induction o using O.casesOn with
 |inst c fs=>exact h
 |_=>exact ns h
theorem sH:fy (18+d.s.length)++[kE]=(List.range (19+d.s.length)).map (dL d):=by
 (refine af (show 19+d.s.length=18+d.s.length+1 by lia) ?_;refine af List.range_succ ?_;refine af List.map_append ?_)
 have e:fy (18+d.s.length)=(List.range (18+d.s.length)).map (dL d):=List.map_congr_left fun k hk=>by
  have:=List.mem_range.mp hk
  delta rw_ dL;(refine af (aG this) ?_;with_reducible rfl)
 (refine af e ?_;refine af List.map_singleton ?_;refine af D4 ?_);rfl
theorem td:nv (18+d.s.length)++[.int 0]=List.replicate (19+d.s.length) (.int 0):=by
 refine af (show 19+d.s.length=18+d.s.length+1 by lia) ?_;exact List.replicate_succ'.symm
noncomputable def S8(B:Nat→Addr)(d:Dt)(u:V):List O:=y0 B (mH B d.at_) (.list (aM d.nums)) (sr B) ((List.range (19+d.s.length)).map (dL d)) (yZ (18+d.s.length)) (iJ (18+d.s.length)++[.int 2]) (iJ (18+d.s.length)++[.int 2]) (List.replicate (19+d.s.length) (.int 0)) ([.list [.none],.list [.none],.list [.none,.ref (B 22)],.dict [],.list [],.list (aM (fS d.s.length)),.dict d.sh,.dict d.sp,.dict d.es,.dict [],.list [],.dict (wE B d),.list (dw d)]++
 Bd B (BH B u) d.rows [(.int 16,.int 5)] (EN B) (Du B) (cx B d 27 3 11) [.ref (B 75),.ref (B 77),.ref (B 79)] (FM B)++Dp B d++E3 B d d.g0 d.g1 d.g2)
theorem CO:S7 B d u (wE B d) d.g0 d.g1 d.g2=S8 B d u:=by delta S7 S8 D6;(refine af sH ?_;(refine af td ?_;with_reducible rfl))
theorem vC:∀ i,i<29→∀ j,j<29→uV i=uV j→i=j:=by decide +kernel
theorem iI:∀ i,i<29→uV i<80∧uV i≠19:=by decide +kernel
theorem s9:objs (fun i=>B (uV i)) (d.ini (B 19))=(List.range 29).map fun i=>(S8 B d u).getD (uV i) (.list []):=by kernel_rfl
theorem tU:jk (fun i=>B (uV i)) (d.ini (B 19))=Fi.map fun p=>(B p.1,p.2,(tW ((S8 B d u).getD p.1 (.list [])) p.2).getD .none):=by kernel_rfl
theorem wG:Fi.all (fun p=>decide (p.1<80) && (tW ((S8 B d u).getD p.1 (.list [])) p.2).isSome)=true:=by kernel_rfl
theorem yc(R:Hp B (S7 B d u (wE B d) d.g0 d.g1 d.g2) F Z)(hsp:∀ (k:Int) (r:List Int),aU d.s k=some r→∃ a,aI d.sp (.int k)=some (.ref a)∧F a=some (.list ((W d.s k).map eg))):Wd (fun i=>B (uV i)) (d.ini (B 19)) Z:=by
 rw[CO] at R
 have len:(S8 B d u).length=80:=by kernel_rfl
 have nF:∀ {a o},F a=some o→∀ i,i<29→a≠B (uV i):=fun h i hi e=>by(rewrite[e] at h;rw[R.off _ (len▸(iI i hi).1)] at h);exact ns h
 refine⟨fun i o e=>?_,fun i j hi hj e=>vC i hi j hj (R.inj _ _ (len▸(iI i hi).1) (len▸(iI j hj).1) e),fun i a n v e=>?_,gD (R.o 31 rfl),gD (R.o 3 rfl),gD (R.o 48 rfl),⟨R.o 19 rfl,fun i hi e=>(iI i hi).2 (R.inj _ _ (by refine af len ?_;decide) (len▸(iI i hi).1) e).symm⟩,fun k r e=>?_⟩
 ·rw[s9 (u:=u)] at e
  refine aH (List.getElem?_eq_some_iff.mp e) fun li ei=>?_
  (rewrite[List.length_map] at li;rw[List.length_range] at li)
  (rewrite[List.getElem_map] at ei;rw[List.getElem_range] at ei)
  refine br ei ?_;exact R.o _ (getD_some (len▸(iI i li).1))
 ·(rewrite[tU (u:=u)] at e;rw[List.getElem?_map] at e)
  refine o1x2 (Option.map_eq_some_iff.mp e) fun p hp ep=>?_
  have ok:=Bool.and_eq_true_iff.mp (List.all_eq_true.mp (wG (B:=B) (d:=d) (u:=u)) p (List.mem_of_getElem? hp))
  refine aH (Option.isSome_iff_exists.mp ok.2) fun v' hv=>?_
  rw[hv] at ep
  cases ep
  exact w0 R (len▸of_decide_eq_true ok.1) hv
 ·refine o1x2 (hsp k r e) fun a e1 e2=>?_
  exact⟨a,e1,R.fr _ _ e2,nF e2⟩
end
section
variable {n:Nat} {Q:aO} {B:Nat→Addr} {F Z:H} {d:Dt} {u:V}
theorem Ey{a:Addr}{c:Nat}{fs:List (Nat×V)}{h i:Int}(ha:Z a=some (.inst c fs))(hc:(bk c).contains 132=true)(hh:dI fs 132=some (.int h)):Cv (a8 (n+1)) none 29 [.ref a,.int i] Z (ot 1 h i []):=
 bh Af rfl fun za q=>aw (aE (ab aj (ab (bV rfl ha hc hh) (ab (ac rfl) (ab (aE ae) ae))))) q
theorem Ew{a:Addr}{c:Nat}{fs:List (Nat×V)}{h i:Int}(ha:Z a=some (.inst c fs))(hc:(bk c).contains 132=true)(hh:dI fs 132=some (.int h)):Cv (a8 (n+1)) none 30 [.ref a,.int i] Z (ot 2 h i []):=
 bh Ae rfl fun za q=>aw (aE (ab aj (ab (bV rfl ha hc hh) (ab (ac rfl) (ab (aE ae) ae))))) q
theorem Eu{a:Addr}{c:Nat}{fs:List (Nat×V)}{h:Int}(ha:Z a=some (.inst c fs))(hc:(bk c).contains 132=true)(hh:dI fs 132=some (.int h)):Cv (a8 (n+1)) none 31 [.ref a] Z (ot 1 h (-1) []):=
 bh Ad rfl fun za q=>aw (aE (ab aj (ab (bV rfl ha hc hh) (ab aj (ab (aE ae) ae))))) q
theorem wL{a:Addr}{c:Nat}{fs:List (Nat×V)}{h i:Int}(ha:Z a=some (.inst c fs))(hc:(bk c).contains 111=true)(hh:dI fs 111=some (.int h)):Cv (a8 (n+1)) none 32 [.ref a,.int i] Z (uU (h+2+i) []):=
 bh Ac rfl fun za q=>aw (aE (ab aj (ab (aA (aA (bV rfl ha hc hh) aj fun Q q=>q) (ac rfl) fun Q q=>q) (ab (aE ae) ae)))) q
theorem Er{o i:Int}:Cv (a8 (n+1)) none 33 [.int o,.int i] Z (ot 4 o i []):=
 bh Ab rfl fun za q=>aw (aE (ab aj (ab (ac rfl) (ab (ac rfl) (ab (aE ae) ae))))) q
noncomputable def g3(a b c:Int):V:=.tup [.int a,.int b,.int c]
noncomputable def tQ:List V:=[g3 2 2 2,g3 0 0 0,g3 1 0 0,g3 1 1 0,g3 1 1 1,g3 2 0 0,g3 2 1 0,g3 2 2 1]
theorem wA{i:Nat}(h:i<8):∃ a b c:Int,tQ[i]? = some (g3 a b c):=fF (P:=fun i=>∃ a b c:Int,tQ[i]? = some (g3 a b c)) ⟨_,_,_,rfl⟩ ⟨_,_,_,rfl⟩ ⟨_,_,_,rfl⟩ ⟨_,_,_,rfl⟩ ⟨_,_,_,rfl⟩ ⟨_,_,_,rfl⟩ ⟨_,_,_,rfl⟩ ⟨_,_,_,rfl⟩ h
theorem mD{w:List (V×V)}{g0 g1 g2:Int}:(S7 B d u w g0 g1 g2).length=80:=by kernel_rfl
theorem ES{w:List (V×V)}{g0 g1 g2:Int}:(S7 B d u w g0 g1 g2)[20]? = some (.dict w):=by kernel_rfl
theorem CQ{w:List (V×V)}{g0 g1 g2:Int}:(S7 B d u w g0 g1 g2)[53]? = some (l0 B 7 (ng (.int 17)) 51 52 60 59 54 0)∧(S7 B d u w g0 g1 g2)[65]? = some (l0 B 9 (ng (.int 18)) 63 64 66 72 66 3):=⟨by kernel_rfl,by kernel_rfl⟩
theorem rU{w:List (V×V)}{g0 g1 g2:Int}:(S7 B d u w g0 g1 g2)[75]? = some (dz B 16 17 74 g0 4 1)∧(S7 B d u w g0 g1 g2)[77]? = some (dz B 20 (18+d.s.length:Nat) 76 g1 4 2)∧(S7 B d u w g0 g1 g2)[79]? = some (dz B 24 18 78 g2 3 3):=⟨by kernel_rfl,by kernel_rfl,by kernel_rfl⟩
theorem AK{w w':List (V×V)}{g0 g1 g2:Int}:(S7 B d u w g0 g1 g2).set 20 (.dict w')=S7 B d u w' g0 g1 g2:=by kernel_rfl
theorem AL{w:List (V×V)}{g0 g1 g2:Int}{x:Int}:(S7 B d u w g0 g1 g2).set 75 (dz B 16 17 74 x 4 1)=S7 B d u w x g1 g2∧(S7 B d u w g0 g1 g2).set 77 (dz B 20 (18+d.s.length:Nat) 76 x 4 2)=S7 B d u w g0 x g2∧(S7 B d u w g0 g1 g2).set 79 (dz B 24 18 78 x 3 3)=S7 B d u w g0 g1 x:=⟨by kernel_rfl,by kernel_rfl,by kernel_rfl⟩
theorem CR{w:List (V×V)}{g0 g1 g2:Int}:∃ tl,(S7 B d u w g0 g1 g2)=mH B d.at_::.list (aM d.nums)::tl∧S7 B d.dr u w g0 g1 g2=mH B (d.at_+1)::.list (aM d.nums)::tl:=⟨(S7 B d u w g0 g1 g2).drop 2,by kernel_rfl,by kernel_rfl⟩
theorem xg{w:List (V×V)}{g0 g1 g2 a b c:Int}:S7 B { d with g0:=a,g1:=b,g2:=c } u w g0 g1 g2=S7 B d u w g0 g1 g2:=by kernel_rfl
theorem mP{U:Env}{P:bK}{K:aN}{e:E}{m:Nat}{v:V}{w:List (V×V)}{g0 g1 g2:Int}{r:List C}(R:Hp B (S7 B d u w g0 g1 g2) F Z)(h10:U 10=some (.ref (B 20)))(he:Ev K U Z e v)(hk:bd w (.sym m)=true)(hf:aI w (.sym m)=none)(hl:w.length<bL)
  (k:∀ Z',Hp B (S7 B d u (w++[(.sym m,v)]) g0 g1 g2) F Z'→SS K r U P Z'):SS K (.set (.idx (.x 10) (.k (.sym m))) e::r) U P Z:=by
 refine dN he (ac h10) aj (bo (R.o 20 ES) hk hl) (k _ ?_)
 have R1:=R.set (i:=20) (by refine af mD ?_;decide) (.dict (bI w (.sym m) v))
 rw[AK] at R1
 rw[ij w hf] at R1 ⊢
 exact R1
theorem qQ{U:Env}(R:Hp B (S7 B d u (wB B d) d.g0 d.g1 d.g2) F Z)(hd:Ok d)(hsp:∀ (k:Int) (r:List Int),aU d.s k=some r→∃ a,aI d.sp (.int k)=some (.ref a)∧F a=some (.list ((W d.s k).map eg)))(h21:U 21=some (g3 d.g0 d.g1 d.g2))
  (h4:U 4=some (.int 17)) (h10:U 10=some (.ref (B 20))) (h14:U 14=some (.ref (B 31))) (h16:U 16=some (.ref (B 53))) (h17:U 17=some (.ref (B 65))) (h18:U 18=some (.ref (B 75))) (h19:U 19=some (.ref (B 77))) (h20:U 20=some (.ref (B 79)))
  (q:∀ A d' Z',A 0=B 0∧A 1=B 1→Wd A d' Z'→Ok d'→d'.nums=d.nums→d'.cs=[]→Q (.ref (A 2)) Z'):SS (a8 (n+1)) (wV.body.drop 30) U (fq Q) Z:=by
 have c2:∀ (i:Int) (v:Int) (Z:H),bD Z (g3 d.g0 d.g1 d.g2) (.int i)=some (.int v)→Ev (a8 (n+1)) U Z (.cmp (.idx (.x 21) (.k (.int i))) .Gt (.k (.int 0))) (.bool (decide (0<v))):=fun i v Z h=>j5 (aQ h21 h) aj cr
 refine mP R h10 (aE (ab aj (ab aj (ab aj (ab (c2 0 d.g0 Z rfl) (ab (c2 1 d.g1 Z rfl) (ab (c2 1 d.g1 Z rfl) (ab (c2 2 d.g2 Z rfl) (ab aj ae))))))))) rfl rfl (show 8<bL by decide) fun Z1 R1=>?_
 refine mP R1 h10 (ac h14) rfl rfl (show 9<bL by decide) fun Z2 R2=>?_
 refine mP R2 h10 (ac h4) rfl rfl (show 10<bL by decide) fun Z3 R3=>?_
 refine mP R3 h10 (aE (ab (ac h16) (ab (ac h17) ae))) rfl rfl (show 11<bL by decide) fun Z4 R4=>?_
 have o53:=R4.o 53 CQ.1
 have o65:=R4.o 65 CQ.2
 have o75:=R4.o 75 rU.1
 have o77:=R4.o 77 rU.2.1
 have o79:=R4.o 79 rU.2.2
 have call:∀ (f i:Nat) (j:Int) (v w:V),cZ f=false→U i=some v→Cv (a8 (n+1)) none f [v,.int j] Z4 w→Ev (a8 (n+1)) U Z4 (.call (.k (.fn f)) [.x i,.k (.int j)]) w:=fun f i j v w hf h hc=>ay (ab (ac h) (ab aj ae)) hf hc
 refine mP R4 h10 (v:=.tup [pl [] 0,pl [] 1,pl [] 2,pl [] 3,pl [] 4,pl [] 5,pl [] 6,pl [] 7]) (aE (ab (call 29 16 0 _ _ rfl h16 (Ey o53 rfl rfl)) (ab (call 30 16 0 _ _ rfl h16 (Ew o53 rfl rfl)) (ab (call 33 4 1 _ _ rfl h4 Er) (ab (call 32 18 1 _ _ rfl h18 (wL o75 rfl rfl)) (ab (call 32 19 0 _ _ rfl h19 (wL o77 rfl rfl)) (ab (call 32 19 1 _ _ rfl h19 (wL o77 rfl rfl)) (ab (call 32 20 0 _ _ rfl h20 (wL o79 rfl rfl)) (ab (ay (vs:=[.ref (B 65)]) (ab (ac h17) ae) rfl (Eu o65 rfl rfl)) ae))))))))) rfl rfl (show 12<bL by decide) fun Z5 R5=>?_
 have hd':Ok (d.ini (B 19)):={ hd with csK:=fun i=>rfl,csI:=fun e h=>(nomatch h),cc:=rfl,ww:=rfl,ss:=rfl }
 (rewrite[List.append_assoc] at R5;rewrite[List.append_assoc] at R5;rewrite[List.append_assoc] at R5;rw[List.append_assoc] at R5)
 exact aw (ac h10) (q (fun i=>B (uV i)) _ _ ⟨rfl,rfl⟩ (yc R5 hsp) hd' rfl rfl)
theorem sE{U:Env}(R:Hp B (S7 B d u (wB B d) 0 0 0) F Z)(hd:Ok d)(hsp:∀ (k:Int) (r:List Int),aU d.s k=some r→∃ a,aI d.sp (.int k)=some (.ref a)∧F a=some (.list ((W d.s k).map eg)))(h0:U 0=some (.ref (B 0)))
  (h4:U 4=some (.int 17)) (h10:U 10=some (.ref (B 20))) (h14:U 14=some (.ref (B 31))) (h16:U 16=some (.ref (B 53))) (h17:U 17=some (.ref (B 65))) (h18:U 18=some (.ref (B 75))) (h19:U 19=some (.ref (B 77))) (h20:U 20=some (.ref (B 79)))
  (q:∀ A d' Z',A 0=B 0∧A 1=B 1→Wd A d' Z'→Ok d'→d'.nums=d.nums→d'.cs=[]→Q (.ref (A 2)) Z'):SS (a8 (n+1)) (wV.body.drop 26) U (fq Q) Z:=by
 refine o1x2 (CR (B:=B) (d:=d) (u:=u) (w:=wB B d) (g0:=0) (g1:=0) (g2:=0)) fun tl e1 e2=>?_
 refine aW (gu (bj aj (aC (vs:=[.ref (B 0),.int 8]) (ab (ac h0) (ab aj ae)) rfl (pf (e1▸R) (by decide) fun i hi Z1 R1=>?_))))
 rw[← e2] at R1
 refine o3x1 (wA (Fg hi)) fun a b c hg=>?_
 refine⟨g3 a b c,bP (l:=tQ) (Int.natCast_nonneg _) (by rw[Int.toNat_natCast];exact hg),?_⟩
 have pr:∀ i,i≠21→(U.set 21 (g3 a b c)) i=U i:=fun i h=>aD h
 refine iC (v:=.int a) (aQ rfl rfl) (ac ((pr 18 (by decide)).trans h18)) (R1.o 75 rU.1) rfl ?_
 replace R1:=R1.set (i:=75) (by refine af mD ?_;decide) (dz B 16 17 74 a 4 1)
 rw[AL.1] at R1
 generalize hZ:Z1.set (B 75) _=Z2 at R1
 change SS _ _ _ _ (Z1.set (B 75) (dz B 16 17 74 a 4 1))
 refine af hZ ?_;clear hZ
 refine iC (v:=.int b) (aQ rfl rfl) (ac ((pr 19 (by decide)).trans h19)) (R1.o 77 rU.2.1) rfl ?_
 replace R1:=R1.set (i:=77) (by refine af mD ?_;decide) (dz B 20 (18+d.s.length:Nat) 76 b 4 2)
 have e3:=(AL (B:=B) (d:=d.dr) (u:=u) (w:=wB B d) (g0:=a) (g1:=0) (g2:=0) (x:=b)).2.1
 rw[show d.dr.s=d.s from rfl] at e3
 rw[e3] at R1
 generalize hZ:Z2.set (B 77) _=Z3 at R1
 change SS _ _ _ _ (Z2.set (B 77) (dz B 20 (18+d.s.length:Nat) 76 b 4 2))
 refine af hZ ?_;clear hZ
 refine iC (v:=.int c) (aQ rfl rfl) (ac ((pr 20 (by decide)).trans h20)) (R1.o 79 rU.2.2) rfl ?_
 replace R1:=R1.set (i:=79) (by refine af mD ?_;decide) (dz B 24 18 78 c 3 3)
 rw[AL.2.2] at R1
 have hd':Ok { d.dr with g0:=a,g1:=b,g2:=c }:={ hd with }
 rw[← xg (a:=a) (b:=b) (c:=c)] at R1
 exact qQ (d:={ d.dr with g0:=a,g1:=b,g2:=c }) R1 hd' hsp rfl ((pr 4 (by decide)).trans h4) ((pr 10 (by decide)).trans h10) ((pr 14 (by decide)).trans h14) ((pr 16 (by decide)).trans h16) ((pr 17 (by decide)).trans h17) ((pr 18 (by decide)).trans h18) ((pr 19 (by decide)).trans h19) ((pr 20 (by decide)).trans h20) q
end
noncomputable def yA(B:Nat→Addr)(d:Dt):List O:=[.list [.none],.list [.none],.list [.none,.ref (B 22)],.dict [],.list [],.list (aM (fS d.s.length)),.dict d.sh,.dict d.sp,.dict d.es,.dict [],.list [],.dict (wB B d),.list (dw d)]
noncomputable def S6(B:Nat→Addr)(d:Dt)(u:V)(rs:List V)(ix:List (V×V))(dl wl ol:List V)(hp:O)(th:List V)(hat:List (V×V))(t:List O):List O:=
 y0 B (mH B d.at_) (.list (aM d.nums)) (sr B) rs ix dl wl ol (yA B d++Bd B (BH B u) d.rows [(.int 16,.int 5)] (EN B) (Du B) hp th hat++Dp B d++t)
noncomputable def bW(top kind:Int)(b:Addr)(xw size serial:Int):O:=.inst 79 [(111,.int top),(112,.int kind),(113,.ref b),(114,.int xw),(115,.int size),(116,.int serial)]
section
variable {n:Nat} {Q:aO} {B:Nat→Addr} {F Z:H} {d:Dt} {u:V} {rs:List V} {ix:List (V×V)} {dl wl ol:List V} {hp hp':O} {th th':List V} {hat hat':List (V×V)} {t:List O} {j l:Nat}
theorem xK:(S6 B d u rs ix dl wl ol hp th hat t)[j+74]? = t[j]?:=by kernel_rfl
theorem mF:(S6 B d u rs ix dl wl ol hp th hat t).length=t.length+74:=by kernel_rfl
theorem uL{o:O}:S6 B d u rs ix dl wl ol hp th hat t++[o]=S6 B d u rs ix dl wl ol hp th hat (t++[o]):=by kernel_rfl
theorem qI:(S6 B d u rs ix dl wl ol hp th hat t)[25]? = some hp∧(S6 B d u rs ix dl wl ol hp th hat t)[26]? = some (.list th)∧(S6 B d u rs ix dl wl ol hp th hat t)[27]? = some (.dict hat):=⟨by kernel_rfl,by kernel_rfl,by kernel_rfl⟩
theorem mE:(S6 B d u rs ix dl wl ol hp th hat t).set 25 hp'=S6 B d u rs ix dl wl ol hp' th hat t:=by kernel_rfl
theorem xi:(S6 B d u rs ix dl wl ol hp th hat t).set 26 (.list th')=S6 B d u rs ix dl wl ol hp th' hat t:=by kernel_rfl
theorem xh:(S6 B d u rs ix dl wl ol hp th hat t).set 27 (.dict hat')=S6 B d u rs ix dl wl ol hp th hat' t:=by kernel_rfl
theorem AM{o:O}:(S6 B d u rs ix dl wl ol hp th hat t).set (j+74) o=S6 B d u rs ix dl wl ol hp th hat (t.set j o):=by kernel_rfl
theorem Ez{k size:Int}(h:1≤k∧size=2+k):Cv (a8 (n+1)) none 19 [.int k] Z (.int size):=by
 obtain⟨h,rfl⟩:=h
 exact bh Ap rfl fun za q=>aq (ai (ao (aA (w:=.int (2+k)) aj (ac rfl) fun Q q=>q) aV) (bG (by lia))) (aw (aA aj (ac rfl) fun Q q=>q) q)
theorem tM{top made fresh kind size:Int}{xs:List V}(hl:t.length=l)(R:Hp B (S6 B d u rs ix dl wl ol (cx B d top made fresh) th hat (t++[.list xs])) F Z)(hz:1≤(xs.length:Int)∧size=2+xs.length)(ht:th.length<bL)(hk:bd hat (.int top)=true)(hh:hat.length<bL)
  (q:∀ a Z',Hp (aK B (l+75) [a]) (S6 B d u rs ix dl wl ol (cx B d (top+size) (made+1) (fresh+size)) (th++[.ref a]) (bI hat (.int top) (.ref a)) (t++[.list xs,bW top kind (B (l+74)) 0 size (made+1)])) F Z'→Q (.ref a) Z') :
  a8 (n+3) none 20 [.ref (B 25),.int kind,.ref (B (l+74))] Q Z:=by
 have len:(S6 B d u rs ix dl wl ol (cx B d top made fresh) th hat (t++[.list xs])).length=l+75:=by(refine ak (mF) ?_;refine af List.length_append ?_;refine af hl ?_);rfl
 have hb:(S6 B d u rs ix dl wl ol (cx B d top made fresh) th hat (t++[.list xs]))[l+74]? = some (.list xs):=by(refine ak (xK) ?_;refine br hl ?_;(refine ak (List.getElem?_concat_length) ?_;with_reducible rfl))
 refine bq Ao rfl (aW (fK rfl rfl (aR (v:=.int top) (bV rfl (R.o 25 qI.1) rfl rfl) (aR (ac rfl) (aR (ac rfl) (cK fun a ha=>?_))))))
 have nb:B (l+74)≠a:=fun e=>by have:=R.o _ hb;(rewrite[e] at this;rw[ha] at this);exact ns this
 refine gc ri [(111,.x 1),(112,.x 2),(113,.x 3),(114,.k (.int 0)),(115,.ev (.call (.k (.fn 19)) [.call (.k (.bi 0)) [.x 3]]) (.int size)),(116,.k (.int 0))] [] rfl rfl R len ha rfl rfl (fun p hp Z' x=>?_) fun bs Z1 R1=>ax ⟨rfl,?_⟩
 ·refine af (List.mem_singleton.mp hp) ?_
  exact ay (vs:=[.int xs.length]) (ab (aZ (vs:=[.ref (B (l+74))]) (ab (ac rfl) ae) (bJ (x _ _ nb (bv nb (R.o _ hb))))) ae) rfl (Ez hz)
 ·replace R1:Hp (aK B (l+75) (a::bs)) (S6 B d u rs ix dl wl ol (cx B d top made fresh) th hat (t++[.list xs])++[bW top kind (B (l+74)) 0 size 0]) F Z1:=R1
  have R1:Hp (aK B (l+75) [a]) _ F Z1:=R1.congr (B':=aK B (l+75) [a]) fun i hi=>by
   (rewrite[List.length_append] at hi;rw[len] at hi)
   rcases Nat.lt_or_eq_of_le (Nat.le_of_lt_succ hi) with h | h
   ·(refine ak (cA h) ?_;(refine af (cA h) ?_;with_reducible rfl))
   ·(refine af h ?_;refine ak (eD) ?_;(refine af eD ?_;with_reducible rfl))
  (rewrite[uL] at R1;rw[List.append_assoc] at R1)
  have e:∀ i,i<28→aK B (l+75) [a] i=B i:=fun i hi=>cA (Nat.lt_of_lt_of_le hi (Nat.le_trans (by decide) (Nat.le_add_left 75 l)))
  have e5:=e 25 (by decide)
  have e6:=e 26 (by decide)
  have e7:=e 27 (by decide)
  have ea:aK B (l+75) [a] (l+75)=a:=eD
  replace q:=q a
  generalize aK B (l+75) [a]=B' at R1 e5 e6 e7 ea q
  have lt:∀ {hp th hat T} {i:Nat},i<74→i<(S6 B d u rs ix dl wl ol hp th hat T).length:=fun{hp th hat T i} h=>by refine af mF ?_;exact Nat.lt_of_lt_of_le h (Nat.le_add_left 74 _)
  have o25:∀ {Z:H} {hp th hat T},Hp B' (S6 B d u rs ix dl wl ol hp th hat T) F Z→Z (B 25)=some hp:=fun R=>e5▸R.o 25 qI.1
  have hT:(t++[.list xs,bW top kind (B (l+74)) 0 size 0])[l+1]? = some (bW top kind (B (l+74)) 0 size 0):=by
   (refine ak (List.getElem?_append_right (by lia)) ?_;refine af hl ?_;refine af (show l+1 - l=1 by lia) ?_);rfl
  have oa:∀ {Z:H} {hp th hat T} {x:O},T[l+1]? = some x→Hp B' (S6 B d u rs ix dl wl ol hp th hat T) F Z→Z a=some x:=fun{Z hp th hat T x} h R=>ea▸R.o (l+75) (xK.trans h)
  refine lI (ac rfl) (o25 R1) rfl rfl aj rfl ?_
  replace R1:=R1.set (i:=25) (lt (by decide)) (cx B d top (made+1) fresh)
  (rewrite[e5] at R1;rw[mE] at R1)
  change SS _ _ _ _ (Z1.set (B 25) (cx B d top (made+1) fresh))
  generalize Z1.set (B 25) (cx B d top (made+1) fresh)=Z2 at R1 ⊢
  refine iC (v:=.int (made+1)) (bV rfl (o25 R1) rfl rfl) (ac rfl) (oa hT R1) rfl ?_
  replace R1:=R1.set (i:=l+75) (by(refine af mF ?_;refine af List.length_append ?_;refine af hl ?_);exact Nat.lt_succ_self _) (bW top kind (B (l+74)) 0 size (made+1))
  (rewrite[ea] at R1;rewrite[show l+75=(l+1)+74 from rfl] at R1;rw[AM] at R1)
  have hs:(t++[O.list xs,bW top kind (B (l+74)) 0 size 0]).set (l+1) (bW top kind (B (l+74)) 0 size (made+1))=t++[O.list xs,bW top kind (B (l+74)) 0 size (made+1)]:=by
   (refine ak (List.set_append_right _ _ (by lia)) ?_;refine af hl ?_;refine af (show l+1 - l=1 by lia) ?_);rfl
  (rewrite[show[O.list xs]++[bW top kind (B (l+74)) 0 size 0]=[O.list xs,bW top kind (B (l+74)) 0 size 0] from rfl] at R1;rw[hs] at R1)
  change SS _ _ _ _ (Z2.set a (bW top kind (B (l+74)) 0 size (made+1)))
  generalize Z2.set a (bW top kind (B (l+74)) 0 size (made+1))=Z3 at R1 ⊢
  have hT2:(t++[.list xs,bW top kind (B (l+74)) 0 size (made+1)])[l+1]? = some (bW top kind (B (l+74)) 0 size (made+1)):=by
   (refine ak (List.getElem?_append_right (by lia)) ?_;refine af hl ?_;refine af (show l+1 - l=1 by lia) ?_);rfl
  refine bH (bV rfl (o25 R1) rfl rfl) (e6▸R1.o 26 qI.2.1) (ac rfl) ht ?_
  replace R1:=R1.set (i:=26) (lt (by decide)) (.list (th++[.ref a]))
  (rewrite[e6] at R1;rw[xi] at R1)
  generalize Z3.set (B 26) (.list (th++[.ref a]))=Z4 at R1 ⊢
  refine dN (ac rfl) (bV rfl (o25 R1) rfl rfl) (bV (v:=.int top) rfl (oa hT2 R1) rfl rfl) (bo (e7▸R1.o 27 qI.2.2) hk hh) ?_
  replace R1:=R1.set (i:=27) (lt (by decide)) (.dict (bI hat (.int top) (.ref a)))
  (rewrite[e7] at R1;rw[xh] at R1)
  generalize Z4.set (B 27) (.dict (bI hat (.int top) (.ref a)))=Z5 at R1 ⊢
  refine lI (x:=top) (ac rfl) (o25 R1) rfl rfl (bV (v:=.int size) rfl (oa hT2 R1) rfl rfl) rfl ?_
  replace R1:=R1.set (i:=25) (lt (by decide)) (cx B d (top+size) (made+1) fresh)
  (rewrite[e5] at R1;rw[mE] at R1)
  change SS _ _ _ _ (Z5.set (B 25) (cx B d (top+size) (made+1) fresh))
  generalize Z5.set (B 25) (cx B d (top+size) (made+1) fresh)=Z6 at R1 ⊢
  refine lI (x:=fresh) (ac rfl) (o25 R1) rfl rfl (bV (v:=.int size) rfl (oa hT2 R1) rfl rfl) rfl ?_
  replace R1:=R1.set (i:=25) (lt (by decide)) (cx B d (top+size) (made+1) (fresh+size))
  (rewrite[e5] at R1;rw[mE] at R1)
  exact aw (ac rfl) (q _ R1)
end
section
variable {n:Nat} {Q:aO} {B:Nat→Addr} {F Z:H} {d:Dt} {u:V} {rs:List V} {ix:List (V×V)} {dl wl ol:List V} {hp:O} {th:List V} {hat:List (V×V)} {t:List O} {l:Nat} {bs:List Addr}
theorem uK:S6 (aK B (l+74) bs) d u rs ix dl wl ol hp th hat t=S6 B d u rs ix dl wl ol hp th hat t:=by kernel_rfl
theorem tK{a b c:Int}:cx (aK B (l+74) bs) d a b c=cx B d a b c:=by kernel_rfl
theorem qH:(S6 B d u rs ix dl wl ol hp th hat t)[21]? = some (.list (dw d)):=by kernel_rfl
noncomputable def ET(B:Nat→Addr)(d:Dt)(u:V)(hp:O)(th:List V)(hat:List (V×V))(t:List O):List O:=S6 B d u (fy (18+d.s.length)) (gX (18+d.s.length)) (iJ (18+d.s.length)) (iJ (18+d.s.length)) (nv (18+d.s.length)) hp th hat t
noncomputable def EU(B:Nat→Addr)(d:Dt)(u:V)(hp:O)(th:List V)(hat:List (V×V))(t:List O):List O:=S6 B d u (fy (18+d.s.length)++[kE]) (yZ (18+d.s.length)) (iJ (18+d.s.length)++[.int 2]) (iJ (18+d.s.length)++[.int 2]) (nv (18+d.s.length)++[.int 0]) hp th hat t
theorem j1{top made fresh kind size:Int}{xs:List V}{b:Addr}(hl:t.length=l)(R:Hp B (S6 B d u rs ix dl wl ol (cx B d top made fresh) th hat t) F Z)(hb:Z b=none)(hz:1≤(xs.length:Int)∧size=2+xs.length)(ht:th.length<bL)(hk:bd hat (.int top)=true)(hh:hat.length<bL)
  (q:∀ a Z',Hp (aK (aK B (l+74) [b]) (l+75) [a]) (S6 B d u rs ix dl wl ol (cx B d (top+size) (made+1) (fresh+size)) (th++[.ref a]) (bI hat (.int top) (.ref a)) (t++[.list xs,bW top kind b 0 size (made+1)])) F Z'→Q (.ref a) Z') :
  a8 (n+3) none 20 [.ref (B 25),.int kind,.ref b] Q (Z.set b (.list xs)):=by
 have R1:=R.new (mF.trans (by rw[hl,Nat.add_comm])) hb (.list xs)
 rw[Nat.add_comm 74 l] at R1
 rw[uL] at R1
 rw[← uK (l:=l) (bs:=[b]),← tK (l:=l) (bs:=[b])] at R1
 have e:∀ i,i<74→aK B (l+74) [b] i=B i:=fun i hi=>cA (Nat.lt_of_lt_of_le hi (Nat.le_add_left 74 l))
 have:=tM (n:=n) (Q:=Q) (kind:=kind) hl R1 hz ht hk hh fun a Z' R'=>q a Z' (by rw[uK,tK,show aK B (l+74) [b] (l+74)=b from eD] at R';exact R')
 rw[e 25 (by decide),show aK B (l+74) [b] (l+74)=b from eD] at this
 exact this
theorem CP{B':Nat→Addr}{b1 a1 b2 a2 b3 a3:Addr}(e:B'=aK (aK (aK (aK (aK (aK B 74 [b1]) 75 [a1]) 76 [b2]) 77 [a2]) 78 [b3]) 79 [a3]):EU B d u (cx B d 27 3 11) [.ref a1,.ref a2,.ref a3] [(.int 16,.ref a1),(.int 20,.ref a2),(.int 24,.ref a3)] [.list [.tup [.int 4,.int 24],d.v 3],bW 16 17 b1 0 4 1,.list [d.v 4,d.v 5],bW 20 (18+d.s.length:Nat) b2 0 4 2,.list [d.v 6],bW 24 18 b3 0 3 3]=S7 B' d u (wB B' d) 0 0 0:=by subst e;kernel_rfl
theorem sD{U:Env}(R:Hp B (ET B d u (cx B d 16 0 0) [] [] []) F Z)(hd:Ok d)(hsp:∀ (k:Int) (r:List Int),aU d.s k=some r→∃ a,aI d.sp (.int k)=some (.ref a)∧F a=some (.list ((W d.s k).map eg)))(h0:U 0=some (.ref (B 0)))(h2:U 2=some (.ref (B 3)))
  (h4:U 4=some (.int 17)) (h7:U 7=some (.int 18)) (h8:U 8=some (.int 19)) (h10:U 10=some (.ref (B 20))) (h12:U 12=some (.ref (B 21))) (h13:U 13=some (.ref (B 25))) (h14:U 14=some (.ref (B 31))) (h16:U 16=some (.ref (B 53))) (h17:U 17=some (.ref (B 65)))
  (q:∀ A d' Z',A 0=B 0∧A 1=B 1→Wd A d' Z'→Ok d'→d'.nums=d.nums→d'.cs=[]→Q (.ref (A 2)) Z'):SS (a8 (n+5)) (wV.body.drop 23) U (fq Q) Z:=by
 have vw:∀ {U:Env} {Z':H} (i:Nat),i<8→U 12=some (.ref (B 21))→Z' (B 21)=some (.list (dw d))→Ev (a8 (n+5)) U Z' (.idx (.x 12) (.k (.int i))) (d.v i):=fun i hi h hv=>aQ h (aJ hv (Int.natCast_nonneg _) (by rw[Int.toNat_natCast];exact gx d hi))
 have l7:=hd.sh.len
 refine aW (cC rfl (aR (ac h13) (aR (ac h4) (bN (bx (vs:=[.tup [.int 4,.int 24],d.v 3]) (ab (aE (ab aj (ab aj ae))) (ab (vw 3 (by decide) h12 (R.o 21 qH)) ae)) fun b1 hb1=>j1 (l:=0) (size:=4) rfl R hb1 ⟨(by decide:(1:Int)≤2),rfl⟩ (by decide) rfl (by decide) fun a1 Z1 R1=>?_)))))
 refine aW (cC rfl (aR (ac h13) (eu (aC (vs:=[.ref (aK (aK B (0+74) [b1]) (0+75) [a1] 3),.int 19]) (ab (ac h2) (ab (ac h8) ae)) rfl (Gw (N:=18+d.s.length) (show Hp (aK (aK B (0+74) [b1]) (0+75) [a1]) (ET (aK (aK B (0+74) [b1]) (0+75) [a1]) d u (cx B d (16+4) (0+1) (0+4)) [.ref a1] [(.int 16,.ref a1)] [.list [.tup [.int 4,.int 24],d.v 3],bW 16 17 b1 0 4 (0+1)]) F Z1 from R1) (by lia) (by lia) fun Z2 R2=>?_)))))
 replace R2:Hp (aK (aK B (0+74) [b1]) (0+75) [a1]) (EU (aK (aK B (0+74) [b1]) (0+75) [a1]) d u (cx B d (16+4) (0+1) (0+4)) [.ref a1] [(.int 16,.ref a1)] [.list [.tup [.int 4,.int 24],d.v 3],bW 16 17 b1 0 4 (0+1)]) F Z2:=R2
 refine bN (bx (vs:=[d.v 4,d.v 5]) (ab (vw 4 (by decide) h12 (R2.o 21 qH)) (ab (vw 5 (by decide) h12 (R2.o 21 qH)) ae)) fun b2 hb2=>j1 (B:=aK (aK B (0+74) [b1]) (0+75) [a1]) (l:=2) (size:=4) rfl R2 hb2 ⟨(by decide:(1:Int)≤2),rfl⟩ (by decide:1<bL) rfl (by decide:1<bL) fun a2 Z3 R3=>?_)
 refine aW (cC rfl (aR (ac h13) (aR (ac h7) (bN (bx (vs:=[d.v 6]) (ab (vw 6 (by decide) h12 (R3.o 21 qH)) ae) fun b3 hb3=>j1 (B:=aK (aK (aK (aK B (0+74) [b1]) (0+75) [a1]) (2+74) [b2]) (2+75) [a2]) (l:=4) (size:=3) rfl R3 hb3 ⟨(by decide:(1:Int)≤1),rfl⟩ (by decide:2<bL) rfl (by decide:2<bL) fun a3 Z4 R4=>?_)))))
 replace R4:Hp (aK (aK (aK (aK (aK (aK B 74 [b1]) 75 [a1]) 76 [b2]) 77 [a2]) 78 [b3]) 79 [a3]) (EU B d u (cx B d 27 3 11) [.ref a1,.ref a2,.ref a3] [(.int 16,.ref a1),(.int 20,.ref a2),(.int 24,.ref a3)] [.list [.tup [.int 4,.int 24],d.v 3],bW 16 17 b1 0 4 1,.list [d.v 4,d.v 5],bW 20 (18+d.s.length:Nat) b2 0 4 2,.list [d.v 6],bW 24 18 b3 0 3 3]) F Z4:=R4
 rw[CP rfl] at R4
 exact sE (n:=n+4) R4 hd hsp h0 h4 h10 h14 h16 h17 rfl rfl rfl q
end
noncomputable def S5(B:Nat→Addr)(d:Dt)(u:V)(bn st:List (V×V))(t:List O):List O:=
 ko B (mH B d.at_) (.list (aM d.nums)) (sr B) (18+d.s.length) (yA B d++Bd B (BH B u) d.rows [(.int 16,.int 5)] bn st (cx B d 16 0 0) [] []++t)
section
variable {n:Nat} {Q:aO} {B:Nat→Addr} {F Z:H} {d:Dt} {u:V} {bn st bn' st':List (V×V)} {t:List O} {j:Nat}
theorem gq:(S5 B d u bn st t).length=t.length+49:=by kernel_rfl
theorem pF{o:O}:S5 B d u bn st t++[o]=S5 B d u bn st (t++[o]):=by kernel_rfl
theorem qK{l:List O}:S5 B d u bn st t++l=S5 B d u bn st (t++l):=by kernel_rfl
theorem qJ:(S5 B d u bn st t)[21]? = some (.list (dw d)):=by kernel_rfl
theorem xM:(S5 B d u bn st t)[j+49]? = t[j]?:=by kernel_rfl
theorem uO{o:O}:(S5 B d u bn st t).set (j+49) o=S5 B d u bn st (t.set j o):=by kernel_rfl
theorem xL:(S5 B d u bn st t)[38]? = some (.dict bn):=by kernel_rfl
theorem CT:(S5 B d u bn st t)[39]? = some (.dict st):=by kernel_rfl
theorem uM:(S5 B d u bn st t)[31]? = some (si B):=by kernel_rfl
theorem uN:(S5 B d u bn st t).set 38 (.dict bn')=S5 B d u bn' st t:=by kernel_rfl
theorem AN:(S5 B d u bn st t).set 39 (.dict st')=S5 B d u bn st' t:=by kernel_rfl
noncomputable def n7:List (Nat×It):=[(133,.x 1),(192,.x 2),(193,.x 3),(194,.x 4)]
noncomputable def y9:List (Nat×It):=[(97,.x 1),(136,.x 2),(137,.x 3),(138,.k (.int 0)),(134,.x 4),(133,.lst []),(139,.lst []),(140,.lst []),(141,.lst []),(142,.lst []),(135,.lst []),(102,.x 5),(132,.x 1),(143,.k (.int 0)),(144,.ev (.neg (.k (.int 1))) (.int (-1)))]
noncomputable def Cd(num:Int)(mref:V)(body args loc keep:Addr)(bs:List Addr)(sort:Int):O:=.inst 82 [(97,.int num),(136,mref),(137,.ref body),(138,.int 0),(134,.ref args),(133,.ref loc),(139,.ref (bs.getD 1 0)),(140,.ref (bs.getD 2 0)),(141,.ref (bs.getD 3 0)),(142,.ref (bs.getD 4 0)),(135,.ref keep),(102,.int sort),(132,.int num),(143,.int 0),(144,.int (-1))]
noncomputable def EO(l:V)(b1 b2:Addr):O:=.inst 87 [(133,l),(192,.int 1),(193,.ref b1),(194,.ref b2)]
theorem mN{U:Env}{P:aO}{m:Nat}{num sort:Int}{mref loc:V}{em el:E}{la:List E}{xs:List V}(R:Hp B (S5 B d u bn st t) F Z)(hl:t.length+49=m)(hm:∀ Z',Ev (a8 (n+1)) U Z' em mref)(hloc:∀ Z',Ev (a8 (n+1)) U Z' el loc)(ha:∀ Z',Z' (B 21)=some (.list (dw d))→Es (a8 (n+1)) U Z' la xs)
  (q:∀ b1 b2 a1 (bs1:List Addr) b3 a2 (bs2:List Addr) Z',Hp (aK (aK (aK (aK (aK B m [b1]) (m+1) [b2]) (m+2) (a1::bs1)) (m+3) [b3]) (m+4) (a2::bs2)) (S5 B d u bn st (t++([.list [],.list [],EO loc b1 b2,.list xs,Cd num mref a1 b3 (bs2.getD 0 0) (bs2.getD 5 0) bs2 sort]++e6))) F Z'→P (.ref a2) Z') :
  WE (a8 (n+1)) (.call (.k (.fn 82)) [.k (.int num),em,.call (.k (.fn 87)) [el,.k (.int 1),.lst [],.lst []],.lst la,.k (.int sort)]) U P Z:=by
 have len0:(S5 B d u bn st t).length=m:=gq.trans hl
 refine fK rfl rfl (aR aj (aR (hm _) (eu (fK rfl rfl (aR (hloc _) (aR aj (eu (bx ae fun b1 hb1=>eu (bx ae fun b2 hb2=>cK fun a1 ha1=>?_)))))))))
 have R1:=R.new len0 hb1 (.list [])
 have len1:(S5 B d u bn st t++[O.list []]).length=m+1:=by(refine ak (List.length_append) ?_;refine af len0 ?_);rfl
 have R2:=R1.new len1 hb2 (.list [])
 have len2:(S5 B d u bn st t++[O.list []]++[O.list []]).length=m+2:=by(refine ak (List.length_append) ?_;refine af len1 ?_);rfl
 refine gc q6 n7 [] rfl rfl R2 len2 ha1 rfl rfl (fun p h=>nomatch h) fun bs1 Z1 R3=>ax ⟨rfl,eu (bx (ha Z1 ?_) fun b3 hb3=>aR aj (cK fun a2 ha2=>?_))⟩
 ·have lm:21<m:=hl▸Nat.lt_of_lt_of_le (by decide) (Nat.le_add_left 49 t.length)
  have:=R3.o 21 (o:=.list (dw d)) ?_
  ·(rewrite[cA (Nat.lt_succ_of_lt (Nat.lt_succ_of_lt lm))] at this;rewrite[cA (Nat.lt_succ_of_lt lm)] at this;rw[cA lm] at this);exact this
  ·(rewrite[List.append_assoc];rewrite[List.append_assoc];refine af qK ?_);exact qJ
 have len3:((S5 B d u bn st t++[O.list []]++[O.list []])++(O.inst 87 (fp (bU oP.ps [.ref a1,loc,.int 1,.ref b1,.ref b2] Env.nil) bs1 0 [] n7)::vJ n7)).length=m+3:=by(refine ak (List.length_append) ?_;refine af len2 ?_);rfl
 have R4:=R3.new len3 hb3 (.list xs)
 have len4:(((S5 B d u bn st t++[O.list []]++[O.list []])++(O.inst 87 (fp (bU oP.ps [.ref a1,loc,.int 1,.ref b1,.ref b2] Env.nil) bs1 0 [] n7)::vJ n7))++[O.list xs]).length=m+4:=by(refine ak (List.length_append) ?_;refine af len3 ?_);rfl
 refine gc re y9 [] rfl rfl R4 len4 ha2 rfl rfl (fun p hp Z' x=>?_) fun bs2 Z2 R5=>ax ⟨rfl,q b1 b2 a1 bs1 b3 a2 bs2 Z2 ?_⟩
 ·refine af (List.mem_singleton.mp hp) ?_;exact fe aj
 ·(rewrite[List.append_assoc] at R5;rewrite[List.append_assoc] at R5;rewrite[List.append_assoc] at R5;rewrite[List.append_assoc] at R5;rw[qK] at R5)
  exact R5
noncomputable def tF(d:Dt)(b1 b2 a1 b3 c0:Addr)(bs2:List Addr)(b4 b5 a3 b6 c1:Addr)(bs4:List Addr):List O:=
 [.list [],.list [],EO (.tup [.int 18,.int 7]) b1 b2,.list [d.v 1,.tup [.int 1,.int 56]],Cd 7 (ng (.int 17)) a1 b3 c0 (bs2.getD 5 0) bs2 0]++e6++[.list [d.v 0,.tup [.int 1,.int 55]],.list [],.list [],EO (.tup []) b4 b5,.list [],Cd 9 (ng (.int 18)) a3 b6 (bs4.getD 0 0) c1 bs4 3]++e6++[.list [d.v 7]]
theorem CS{B':Nat→Addr}{b1 b2 a1 b3 f1 c0 b4 b5 a3 b6 f2 c1 c2:Addr}{bs1 bs2 bs3 bs4:List Addr}(e:B'=aK (aK (aK (aK (aK (aK (aK (aK (aK (aK (aK (aK (aK B 49 [b1]) 50 [b2]) 51 (a1::bs1)) 52 [b3]) 53 (f1::bs2)) 60 [c0]) 61 [b4]) 62 [b5]) 63 (a3::bs3)) 64 [b6]) 65 (f2::bs4)) 72 [c1]) 73 [c2]) :
  S5 B d u [(.int 7,.ref f1),(.int 9,.ref f2)] [(.int 17,.ref c2)] (tF d b1 b2 a1 b3 c0 bs2 b4 b5 a3 b6 c1 bs4++[O.list [.tup [.int 1,.int 57],d.v 2]])=ET B' d u (cx B' d 16 0 0) [] [] []:=by refine af e ?_;kernel_rfl
theorem H4:(S5 B d u bn st t).length=t.length+49:=gq
theorem yO{i:Nat}(h:i<49):i<(S5 B d u bn st t).length:=by refine af gq ?_;exact Nat.lt_of_lt_of_le h (Nat.le_add_left 49 _)
theorem oE{U:Env}(R:Hp B (S5 B d u [] [] []) F Z)(hd:Ok d)(hsp:∀ (k:Int) (r:List Int),aU d.s k=some r→∃ a,aI d.sp (.int k)=some (.ref a)∧F a=some (.list ((W d.s k).map eg)))(h0:U 0=some (.ref (B 0)))(h2:U 2=some (.ref (B 3)))
  (h4:U 4=some (.int 17)) (h7:U 7=some (.int 18)) (h8:U 8=some (.int 19)) (h10:U 10=some (.ref (B 20))) (h12:U 12=some (.ref (B 21))) (h13:U 13=some (.ref (B 25))) (h14:U 14=some (.ref (B 31)))
  (q:∀ A d' Z',A 0=B 0∧A 1=B 1→Wd A d' Z'→Ok d'→d'.nums=d.nums→d'.cs=[]→Q (.ref (A 2)) Z'):SS (a8 (n+5)) (wV.body.drop 16) U (fq Q) Z:=by
 have vw:∀ {U:Env} {Z':H} (i:Nat),i<8→U 12=some (.ref (B 21))→Z' (B 21)=some (.list (dw d))→Ev (a8 (n+5)) U Z' (.idx (.x 12) (.k (.int i))) (d.v i):=fun i hi h hv=>aQ h (aJ hv (Int.natCast_nonneg _) (by rw[Int.toNat_natCast];exact gx d hi))
 refine aW (mN (n:=n+4) (m:=49) (xs:=[d.v 1,.tup [.int 1,.int 56]]) R rfl (fun Z'=>aE (ab (ac h4) (ab aj (ab (aE ae) ae)))) (fun Z'=>aE (ab (ac h7) (ab aj ae))) (fun Z' hv=>ab (vw 1 (by decide) h12 hv) (ab (aE (ab aj (ab aj ae))) ae)) fun b1 b2 a1 bs1 b3 f1 bs2 Z1 R1=>?_)
 refine f7 (bx (vs:=[d.v 0,.tup [.int 1,.int 55]]) (ab (vw 0 (by decide) h12 (R1.o 21 qJ)) (ab (aE (ab aj (ab aj ae))) ae)) fun c0 hc0=>bj (v:=.ref f1) (ac rfl) ?_)
 have R2:=R1.new (n:=60) gq hc0 (.list [d.v 0,.tup [.int 1,.int 55]])
 rw[pF] at R2
 refine⟨_,ch (R2.o 53 xM) rfl,?_⟩
 replace R2:=R2.set (i:=53) (by refine af gq ?_;exact Nat.lt_of_lt_of_le (by decide:53<61) (Nat.le_refl _)) (Cd 7 (ng (.int 17)) a1 b3 c0 (bs2.getD 5 0) bs2 0)
 (rewrite[show(53:Nat)=4+49 from rfl] at R2;rw[uO] at R2)
 refine aW (mN (n:=n+4) (m:=61) (xs:=[]) R2 rfl (fun Z'=>aE (ab (ac h7) (ab aj (ab (aE ae) ae)))) (fun Z'=>aE ae) (fun Z' hv=>ae) fun b4 b5 a3 bs3 b6 f2 bs4 Z3 R3=>?_)
 refine f7 (bx (vs:=[d.v 7]) (ab (vw 7 (by decide) h12 (R3.o 21 qJ)) ae) fun c1 hc1=>bj (v:=.ref f2) (ac rfl) ?_)
 have R4:=R3.new (n:=72) gq hc1 (.list [d.v 7])
 rw[pF] at R4
 refine⟨_,ch (R4.o 65 (xM (j:=16))) rfl,?_⟩
 replace R4:=R4.set (i:=65) (by refine af gq ?_;exact Nat.lt_of_lt_of_le (by decide:65<73) (Nat.le_refl _)) (Cd 9 (ng (.int 18)) a3 b6 (bs4.getD 0 0) c1 bs4 3)
 (rewrite[show(65:Nat)=16+49 from rfl] at R4;rw[uO] at R4)
 refine dN (v:=.ref f1) (ac rfl) (bV h14 (R4.o 31 uM) rfl rfl) aj (bo (R4.o 38 xL) rfl (by decide)) ?_
 replace R4:=R4.set (i:=38) (yO (by decide)) (.dict [(.int 7,.ref f1)])
 rw[uN] at R4
 refine dN (v:=.ref f2) (ac rfl) (bV h14 (R4.o 31 uM) rfl rfl) aj (bo (R4.o 38 xL) rfl (show 1<bL by decide)) ?_
 replace R4:=R4.set (i:=38) (yO (by decide)) (.dict [(.int 7,.ref f1),(.int 9,.ref f2)])
 rw[uN] at R4
 refine jB (bx (vs:=[.tup [.int 1,.int 57],d.v 2]) (ab (aE (ab aj (ab aj ae))) (ab (vw 2 (by decide) h12 (R4.o 21 qJ)) ae)) fun c2 hc2=>?_)
 have R5:=R4.new (n:=73) gq hc2 (.list [.tup [.int 1,.int 57],d.v 2])
 rw[pF] at R5
 refine bj (bV h14 (R5.o 31 uM) rfl rfl) (bj (ac h4) ⟨_,bo (R5.o 39 CT) rfl (by decide),?_⟩)
 replace R5:=R5.set (i:=39) (yO (by decide)) (.dict [(.int 17,.ref c2)])
 rw[AN] at R5
 have R6:=CS (B:=B) (d:=d) (u:=u) (b1:=b1) (b2:=b2) (a1:=a1) (bs1:=bs1) (b3:=b3) (f1:=f1) (bs2:=bs2) (c0:=c0) (b4:=b4) (b5:=b5) (a3:=a3) (bs3:=bs3) (b6:=b6) (f2:=f2) (bs4:=bs4) (c1:=c1) (c2:=c2) rfl▸(show Hp _ (S5 B d u [(.int 7,.ref f1),(.int 9,.ref f2)] [(.int 17,.ref c2)] (tF d b1 b2 a1 b3 c0 bs2 b4 b5 a3 b6 c1 bs4++[O.list [.tup [.int 1,.int 57],d.v 2]])) F _ from R5)
 exact sD (n:=n) R6 hd hsp h0 h2 h4 h7 h8 h10 h12 h13 h14 rfl rfl q
end
noncomputable def S4(B:Nat→Addr)(d:Dt)(u:V)(rows un:List (V×V)):List O:=
 ko B (mH B d.at_) (.list (aM d.nums)) (sr B) (18+d.s.length) (yA B d++Bd B (BH B u) rows un [] [] (cx B d 16 0 0) [] [])
structure AU (s:List (List Int)) (rows:List (V×V)):Prop where
 d:∀ (k:Int) (r:List Int),aU s k=some r→∃ e,aI rows (.int k)=some (.tup [.ref e,.tup (aM r),.tup []])
 h:∃ e,aI rows (.int 17)=some (.tup [.ref e,.tup (aM [12,19]),.tup (aM [7,18])])
 n:∀ k:Int,k<17→aI rows (.int k)=none
 k:∀ k:Int,bd rows (.int k)=true
structure AV (s:List (List Int)) (j:Nat) (rows:List (V×V)):Prop where
 d:∀ (k:Int) (r:List Int),aU s k=some r→k<18+(j:Int)→∃ e,aI rows (.int k)=some (.tup [.ref e,.tup (aM r),.tup []])
 n:∀ k:Int,k<18→aI rows (.int k)=none
 k:∀ k:Int,bd rows (.int k)=true
 l:rows.length≤j
section
variable {n:Nat} {Q:aO} {B:Nat→Addr} {F Z:H} {d:Dt} {u:V} {rows rows' un un':List (V×V)} {s:List (List Int)}
theorem uP:(S4 B d u rows un).length=49:=by kernel_rfl
theorem xj:(S4 B d u rows un)[33]? = some (.dict rows):=by kernel_rfl
theorem CU:(S4 B d u rows un)[36]? = some (.dict un):=by kernel_rfl
theorem xO:(S4 B d u rows un)[31]? = some (si B):=by kernel_rfl
theorem xN:(S4 B d u rows un)[14]? = some (.list (aM (fS d.s.length))):=by kernel_rfl
theorem CX:(S4 B d u rows un)[15]? = some (.dict d.sh):=by kernel_rfl
theorem CW:(S4 B d u rows un).set 33 (.dict rows')=S4 B d u rows' un:=by kernel_rfl
theorem CV:(S4 B d u rows un).set 36 (.dict un')=S4 B d u rows un':=by kernel_rfl
theorem CZ:S4 B d u rows [(.int 16,.int 5)]=S5 B { d with rows:=rows } u [] [] []:=by kernel_rfl
theorem sL(k:Int):dH (.int k) (.int k)=true:=bR rfl
theorem AV.step{j:Nat}{r:List Int}{e:Addr}(h:AV s j rows)(g:aU s (18+(j:Int))=some r):AV s (j+1) (bI rows (.int (18+(j:Int))) (.tup [.ref e,.tup (aM r),.tup []])):=by
 refine⟨fun k r' e1 hk=>?_,fun k hk=>?_,fun k=>dT (h.k k) rfl,Nat.le_trans (fG _) (Nat.succ_le_succ h.l)⟩
 ·by_cases c:k=18+(j:Int)
  ·subst c;rw[g] at e1;refine af (aP e1) ?_;exact⟨e,dW (sL _) _⟩
  ·rw[dG fun h=>c (V.int.inj h).symm];exact h.d k r' e1 (by lia)
 ·rw[dG fun h=>by have:=V.int.inj h;lia];exact h.n k hk
theorem AV.fin{e:Addr}(ok:db s)(h:AV s s.length rows):AU s (bI rows (.int 17) (.tup [.ref e,.tup (aM [12,19]),.tup (aM [7,18])])):=by
 refine⟨fun k r g=>?_,⟨e,dW (sL _) _⟩,fun k hk=>?_,fun k=>dT (h.k k) rfl⟩
 ·have:=(ok.row k r g).1
  rw[dG fun h=>by have:=V.int.inj h;lia];exact h.d k r g this.2
 ·rw[dG fun h=>by have:=V.int.inj h;lia];exact h.n k (by lia)
theorem sB{U:Env}(R:Hp B (S4 B d u [] []) F Z)(T:Ms d.s d.sh d.sp)(hd:∀ rows,AU d.s rows→Ok { d with rows:=rows })(hsp:∀ (k:Int) (r:List Int),aU d.s k=some r→∃ a,aI d.sp (.int k)=some (.ref a)∧F a=some (.list ((W d.s k).map eg)))(h0:U 0=some (.ref (B 0)))(h2:U 2=some (.ref (B 3)))
  (h3:U 3=some (.int 16)) (h4:U 4=some (.int 17)) (h5:U 5=some (.ref (B 14))) (h6:U 6=some (.ref (B 15))) (h7:U 7=some (.int 18)) (h8:U 8=some (.int 19)) (h10:U 10=some (.ref (B 20))) (h12:U 12=some (.ref (B 21))) (h13:U 13=some (.ref (B 25))) (h14:U 14=some (.ref (B 31)))
  (q:∀ A d' Z',A 0=B 0∧A 1=B 1→Wd A d' Z'→Ok d'→d'.nums=d.nums→d'.cs=[]→Q (.ref (A 2)) Z'):SS (a8 (n+5)) (wV.body.drop 13) U (fq Q) Z:=by
 have l7:=T.ok.len
 refine cg (ac h5) (be (R.o 14 xN)) ?_
 have step:∀ {v:V} {Z':H} {U':Env} {rows:List (V×V)} {k:Int} {P:bK} {r:List C} {ek ea eb:E},Hp B (S4 B d u rows []) F Z'→U' 14=some (.ref (B 31))→rows.length≤10→(∀ k:Int,bd rows (.int k)=true)→(∀ Z',Hp B (S4 B d u rows []) F Z'→Ev (a8 (n+5)) U' Z' ek (.int k))→∀ {va vb:V},(∀ Z',Hp B (S4 B d u rows []) F Z'→Ev (a8 (n+5)) U' Z' ea va)→(∀ Z',Hp B (S4 B d u rows []) F Z'→Ev (a8 (n+5)) U' Z' eb vb)→
   (∀ e Z'',Hp B (S4 B d u (bI rows (.int k) (.tup [.ref e,va,vb])) []) F Z''→SS (a8 (n+5)) r U' P Z'')→SS (a8 (n+5)) (.set (.idx (.att (.x 14) 90) ek) (.tup [.dct [] [],ea,eb])::r) U' P Z':=by
  intro v Z' U' rows k P r ek ea eb R1 h14 hl hk he va vb ha hb q
  refine jB (lA (eu (gw fun e he'=>?_)))
  have R2:=R1.ext (bA.new (o:=.dict []) he')
  refine aR (ha _ R2) (aR (hb _ R2) (cK (bj (bV h14 (R2.o 31 xO) rfl rfl) (bj (he _ R2) ⟨_,bo (R2.o 33 xj) (hk k) (Nat.lt_of_le_of_lt hl (by decide)),q e _ ?_⟩))))
  have R3:=R2.set (i:=33) (by refine af uP ?_;decide) (.dict (bI rows (.int k) (.tup [.ref e,va,vb])))
  rw[CW] at R3;exact R3
 have fin:∀ (U':Env) (Z':H) (rows:List (V×V)),(∀ i,i≠15→U' i=U i)→Hp B (S4 B d u rows []) F Z'→AV d.s d.s.length rows→SS (a8 (n+5)) (wV.body.drop 14) U' (fq Q) Z':=by
  intro U' Z' rows hU R1 I
  have e:∀ i v,i≠15→U i=some v→U' i=some v:=fun i v hi h=>(hU i hi).trans h
  refine step (k:=17) (va:=.tup (aM [12,19])) (vb:=.tup (aM [7,18])) (v:=.none) R1 (e 14 _ (by decide) h14) (Nat.le_trans I.l (Nat.le_trans l7.2 (by decide))) I.k (fun za za=>ac (e 4 _ (by decide) h4)) (fun za za=>aE (ab aj (ab (ac (e 8 _ (by decide) h8)) ae))) (fun za za=>aE (ab aj (ab (ac (e 7 _ (by decide) h7)) ae))) fun a Z2 R2=>?_
  refine dN (v:=.int 5) aj (bV (e 14 _ (by decide) h14) (R2.o 31 xO) rfl rfl) (ac (e 3 _ (by decide) h3)) (bo (R2.o 36 CU) rfl (by decide)) ?_
  have R3:=R2.set (i:=36) (by refine af uP ?_;decide) (.dict [(.int 16,.int 5)])
  (rewrite[CV] at R3;rw[CZ] at R3)
  exact oE (n:=n) R3 (hd _ (I.fin T.ok)) hsp (e 0 _ (by decide) h0) (e 2 _ (by decide) h2) (e 4 _ (by decide) h4) (e 7 _ (by decide) h7) (e 8 _ (by decide) h8) (e 10 _ (by decide) h10) (e 12 _ (by decide) h12) (e 13 _ (by decide) h13) (e 14 _ (by decide) h14) q
 have tl:(fS d.s.length).length=d.s.length:=by unfold fS;(rewrite[List.length_map];(refine ak (List.length_range) ?_;with_reducible rfl))
 refine(?_:∀ (m j:Nat) (rows:List (V×V)) (U':Env) (Z':H),m+j=d.s.length→(∀ i,i≠15→U' i=U i)→Hp B (S4 B d u rows []) F Z'→AV d.s j rows→FL _ _ _ _ _ _ (aM ((fS d.s.length).drop j)) U' Z') d.s.length 0 [] U Z rfl (fun za za=>rfl) R ⟨fun k r g h=>?_,fun za za=>rfl,fun za=>rfl,Nat.le_refl _⟩
 ·intro m
  induction m with
  |zero=>
   intro j rows U' Z' hm hU R1 I
   refine af (List.drop_of_length_le (by rw[tl];lia)) ?_
   rw[Nat.zero_add] at hm
   subst hm
   exact b8 (fin U' Z' rows hU R1 I)
  |succ m ih=>
   intro j rows U' Z' hm hU R1 I
   have hj:j<d.s.length:=by lia
   have g:=pU hj
   have te:(fS d.s.length)[j]'(by refine af tl ?_;exact hj)=18+(j:Int):=aP ((List.getElem?_eq_getElem _).symm.trans (hG hj))
   (refine af (List.drop_eq_getElem_cons (by rw[tl];exact hj)) ?_;refine af te ?_)
   have e:∀ i v,i≠15→U i=some v→(U'.set 15 (.int (18+(j:Int)))) i=some v:=fun i v hi h=>(aD hi).trans ((hU i hi).trans h)
   refine bQ rfl (step (k:=18+(j:Int)) (va:=.tup (aM d.s[j])) (vb:=.tup []) (v:=.none) R1 (e 14 _ (by decide) h14) (Nat.le_trans I.l (by lia)) I.k (fun za za=>ac rfl) (fun Z2 R2=>ah (ac (e 6 _ (by decide) h6)) (ac rfl) (aF (R2.o 15 CX) (T.shK _) (by(rewrite[T.shD];refine af g ?_);rfl))) (fun za za=>aE ae) fun a Z2 R2=>ax ⟨be (R2.o 14 xN),ih (j+1) _ _ Z2 (by lia) (fun i hi=>(aD hi).trans (hU i hi)) R2 (I.step g)⟩)
 ·exact absurd (T.ok.row k r g).1.1 (by lia)
end
noncomputable def jv(B:Nat→Addr)(d:Dt)(ml:List V)(t:List O):List O:=
 ko B (mH B d.at_) (.list (aM d.nums)) (sr B) (18+d.s.length) ([.list [.none],.list [.none],.list ml,.dict [],.list [],.list (aM (fS d.s.length)),.dict d.sh,.dict d.sp,.dict d.es,.dict [],.list [],.dict (wB B d),.list (dw d)]++t)
section
variable {n:Nat} {Q:aO} {B:Nat→Addr} {F Z:H} {d:Dt} {u:V} {ml ml':List V} {t:List O} {j:Nat}
theorem eE:(jv B d ml t).length=t.length+22:=by kernel_rfl
theorem uQ{o:O}:jv B d ml t++[o]=jv B d ml (t++[o]):=by kernel_rfl
theorem iq{l:List O}:jv B d ml t++l=jv B d ml (t++l):=by kernel_rfl
theorem kn:(jv B d ml t)[j+22]? = t[j]?:=by kernel_rfl
theorem km{o:O}:(jv B d ml t).set (j+22) o=jv B d ml (t.set j o):=by kernel_rfl
theorem xP:(jv B d ml t)[2]? = some (sr B):=by kernel_rfl
theorem xQ:(jv B d ml t)[11]? = some (.list ml):=by kernel_rfl
theorem AO:(jv B d ml t).set 11 (.list ml')=jv B d ml' t:=by kernel_rfl
theorem EV:(jv B d ml t)[20]? = some (.dict (wB B d)):=by kernel_rfl
theorem DY{i:Nat}(h:i<22):i<(jv B d ml t).length:=by refine af eE ?_;exact Nat.lt_of_lt_of_le h (Nat.le_add_left 22 _)
theorem GU(q:∀ u Z',bA Z Z'→Q u Z'):a8 (n+1) none 45 [.int 2] Q Z:=by
 refine bq zZ rfl (aW (bx ae fun a ha=>cg (v:=.rng 2) (aZ (vs:=[.int 2]) (ab (ac rfl) ae) fun Q q=>⟨_,rfl,by decide,q⟩) rfl ?_))
 have e:∀ {U:Env} {Z':H} {i:Int},U 2=some (.int i)→0≤i∧i<10→Ev (a8 n) U Z' (.bin .Add (.k (.sym 201)) (.call (.k (.bi 4)) [.x 2])) (.str ⟨Str.empty.cps.push 0⟩):=fun h hi=>aA (v:=.str Str.empty) aj (aZ (ab (ac h) ae) fun Q q=>⟨_,rfl,hi,q⟩) fun Q q=>⟨by decide,q⟩
 refine bQ rfl (bH (ac rfl) aB (e rfl (by decide)) (by decide:0<bL) (ax ⟨rfl,bQ rfl (bH (ac rfl) aB (e rfl (by decide)) (by decide:1<bL) (ax ⟨rfl,b8 ?_⟩))⟩))
 exact aw (aZ (vs:=[.ref a]) (ab (ac rfl) ae) fun Q q=>⟨_,aB,q⟩) (q _ _ (((bA.new ha).set ha).set ha))
noncomputable def Gm:List (Nat×It):=[(179,.x 1),(180,.x 2),(181,.x 3),(182,.x 4),(183,.x 5),(184,.k (.int 0)),(185,.lst []),(186,.lst []),(187,.x 6),(188,.ev (.call (.k (.bi 2)) [.x 7]) (.tup [.int 19,.int 7]))]
noncomputable def Gl:List (Nat×It):=[(190,.ev (.bin .Mult (.tup [.k (.int 0)]) (.call (.k (.bi 0)) [.x 7])) (.tup [.int 0,.int 0])),(137,.k .none),(191,.k (.int 0))]
noncomputable def Ff(u:V)(b1 b2:Addr):O:=.inst 86 [(179,.int 1),(180,.int 70),(181,.sym 212),(182,.int 6),(183,.int 1),(184,.int 0),(185,.ref b1),(186,.ref b2),(187,.int 0),(188,.tup [.int 19,.int 7]),(189,u),(190,.tup [.int 0,.int 0]),(137,.none),(191,.int 0)]
theorem Bb{U:Env}{P:aO}(R:Hp B (jv B d ml []) F Z)(h8:U 8=some (.int 19))(q:∀ u a (bs bs':List Addr) Z',Hp (aK (aK B 22 (a::bs)) 25 bs') (jv B d ml [Ff u (bs.getD 0 0) (bs.getD 1 0),.list [],.list []]) F Z'→P (.ref a) Z') :
  WE (a8 (n+2)) (.call (.k (.fn 86)) [.k (.int 1),.k (.int 70),.k (.sym 212),.k (.int 6),.k (.int 1),.k (.int 0),.tup [.x 8,.k (.int 7)]]) U P Z:=by
 refine fK rfl rfl (xZ (vs:=[.int 1,.int 70,.sym 212,.int 6,.int 1,.int 0,.tup [.int 19,.int 7]]) (ab aj (ab aj (ab aj (ab aj (ab aj (ab aj (ab (aE (ab (ac h8) (ab aj ae))) ae))))))) fun a ha=>?_)
 refine gc q7 Gm _ rfl rfl R (n:=22) eE ha rfl rfl (fun p hp Z' x=>?_) fun bs Z1 R1=>?_
 ·refine af (List.mem_singleton.mp hp) ?_;exact aZ (vs:=[.tup [.int 19,.int 7]]) (ab (ac rfl) ae) fun Q q=>q
 ·rw[iq] at R1
  refine f7 (aC (vs:=[.int 2]) (ab (aZ (vs:=[.tup [.int 19,.int 7]]) (ab (ac rfl) ae) fun Q q=>q) ae) rfl (GU fun u Z2 x2=>bj (v:=.ref a) (ac rfl) ?_))
  have R2:=R1.ext x2
  refine⟨_,ch (R2.o 22 (kn (j:=0))) rfl,?_⟩
  replace R2:=R2.set (i:=22) (by refine af eE ?_;exact Nat.lt_of_lt_of_le (by decide:22<25) (Nat.le_refl _)) (.inst 86 [(179,.int 1),(180,.int 70),(181,.sym 212),(182,.int 6),(183,.int 1),(184,.int 0),(185,.ref (bs.getD 0 0)),(186,.ref (bs.getD 1 0)),(187,.int 0),(188,.tup [.int 19,.int 7]),(189,u)])
  (rewrite[show(22:Nat)=0+22 from rfl] at R2;rw[km] at R2)
  refine j0 (r:=[]) (j:=22) (c:=86) (n:=25) Gl R2 eE (kn (j:=0)) rfl rfl (fun p hp Z' x=>?_) fun bs' Z3 za R3=>ax ⟨rfl,q u a bs bs' Z3 ?_⟩
  ·refine af (List.mem_singleton.mp hp) ?_;exact aA (aE (ab aj ae)) (aZ (vs:=[.tup [.int 19,.int 7]]) (ab (ac rfl) ae) fun Q q=>q) fun Q q=>⟨rfl,q⟩
  ·(rewrite[show(22:Nat)=0+22 from rfl] at R3;rewrite[km] at R3;rw[iq] at R3)
   exact R3
noncomputable def B5:List (Nat×It):=[(117,.lst []),(118,.dct),(119,.k (.int 16)),(120,.x 1),(121,.dct),(122,.x 2),(123,.k (.int 0)),(124,.ev (.bin .Add (.bin .FloorDiv (.x 1) (.k (.int 4))) (.k (.int 1))) (.int 101)),(125,.lst []),(126,.lst []),(127,.k (.int 0)),(128,.k (.int 0))]
noncomputable def Bc(v:V):List (Nat×It):=[(149,.x 1),(150,.ev (.att (.x 1) 150) v),(129,.x 2),(151,.dct),(90,.dct),(152,.dct),(153,.dct),(154,.dct),(130,.lst []),(155,.dct),(131,.dct),(156,.dct),(157,.dct),(158,.k (.int 0)),(159,.lst []),(160,.lst []),(161,.lst []),(162,.lst [])]
noncomputable def F4:List (Nat×It):=[(129,.x 1),(130,.x 2),(131,.x 3)]
noncomputable def Gu(bits:Int)(b:List Addr):O:=.inst 80 [(117,.ref (b.getD 0 0)),(118,.ref (b.getD 1 0)),(119,.int 16),(120,.int 400),(121,.ref (b.getD 2 0)),(122,.int bits),(123,.int 0),(124,.int 101),(125,.ref (b.getD 3 0)),(126,.ref (b.getD 4 0)),(127,.int 0),(128,.int 0)]
noncomputable def C9(bits:Int)(u:V)(b1 b2:Addr)(bs:List Addr):List O:=[Ff u b1 b2,.list [],.list [],Gu bits bs,.list [],.dict [],.dict [],.list [],.list []]
noncomputable def A0(B2 B3 h:Addr)(b:List Addr)(r:List (Nat×V)):O:=.inst 85 ([(149,.ref B2),(150,.ref B3),(129,.ref h),(151,.ref (b.getD 0 0)),(90,.ref (b.getD 1 0)),(152,.ref (b.getD 2 0)),(153,.ref (b.getD 3 0)),(154,.ref (b.getD 4 0)),(130,.ref (b.getD 5 0)),(155,.ref (b.getD 6 0)),(131,.ref (b.getD 7 0)),(156,.ref (b.getD 8 0)),(157,.ref (b.getD 9 0)),(158,.int 0),(159,.ref (b.getD 10 0)),(160,.ref (b.getD 11 0)),(161,.ref (b.getD 12 0)),(162,.ref (b.getD 13 0))]++r)
noncomputable def Dn(tr:O):List O:=[tr,.dict [],.dict [],.dict [],.dict [],.dict [],.list [],.dict [],.dict [],.dict [],.dict [],.list [],.list [],.list [],.list []]
theorem CY{B':Nat→Addr}{a h m p c e:Addr}{bs bs' bs2 bs3 bs4:List Addr}(eB:B'=aK (aK (aK (aK (aK (aK (aK B 22 (a::bs)) 25 bs') 25 (h::bs2)) 31 (m::bs3)) 46 (p::bs4)) 47 [c]) 48 [e]) :
  jv B d [.none,.ref a] (C9 d.bits u (bs.getD 0 0) (bs.getD 1 0) bs2++Dn (A0 (B 2) (B 3) h bs3 [(163,.ref p),(164,.ref c),(165,.ref e)])++[.inst 81 [(129,.ref h),(130,.ref (bs3.getD 6 0)),(131,.ref (bs3.getD 7 0))],.inst 83 [],.inst 84 []])=S4 B' d u [] []:=by refine af eB ?_;kernel_rfl
theorem sC{U:Env}(R:Hp B (jv B d [.none] []) F Z)(T:Ms d.s d.sh d.sp)(hd:∀ rows,AU d.s rows→Ok { d with rows:=rows })(hsp:∀ (k:Int) (r:List Int),aU d.s k=some r→∃ a,aI d.sp (.int k)=some (.ref a)∧F a=some (.list ((W d.s k).map eg)))(h0:U 0=some (.ref (B 0)))(h1:U 1=some (.ref (B 2)))(h2:U 2=some (.ref (B 3)))
  (h3:U 3=some (.int 16)) (h4:U 4=some (.int 17)) (h5:U 5=some (.ref (B 14))) (h6:U 6=some (.ref (B 15))) (h7:U 7=some (.int 18)) (h8:U 8=some (.int 19)) (h10:U 10=some (.ref (B 20))) (h12:U 12=some (.ref (B 21)))
  (q:∀ A d' Z',A 0=B 0∧A 1=B 1→Wd A d' Z'→Ok d'→d'.nums=d.nums→d'.cs=[]→Q (.ref (A 2)) Z'):SS (a8 (n+5)) (wV.body.drop 10) U (fq Q) Z:=by
 refine iA (bV h1 (R.o 2 xP) rfl rfl) (R.o 11 xQ) (Bb R h8 fun u a bs bs' Z1 R1=>⟨_,R1.o 11 xQ,by decide,?_⟩)
 replace R1:=R1.set (i:=11) (DY (by decide)) (.list [.none,.ref a])
 rw[AO] at R1
 refine aW (fK rfl rfl (aR aj (aR (ah (ac h10) aj (aF (R1.o 20 EV) rfl rfl)) (cK fun h hh=>gc rh B5 [] rfl rfl R1 (n:=25) eE hh rfl rfl (fun p hp Z' x=>?_) fun bs2 Z2 R2=>ax ⟨rfl,?_⟩))))
 ·refine af (List.mem_singleton.mp hp) ?_;exact aA (aA (w:=.int 100) (ac rfl) aj fun Q q=>⟨⟨by decide,by decide⟩,q⟩) aj fun Q q=>q
 rw[iq] at R2
 replace R2:Hp _ (jv B d [.none,.ref a] (C9 d.bits u (bs.getD 0 0) (bs.getD 1 0) bs2)) F Z2:=R2
 refine aW (fK rfl rfl (aR (ac h1) (aR (v:=.ref h) (ac rfl) (cK fun m hm=>gc q8 (Bc (.ref (B 3))) _ rfl rfl R2 (n:=31) eE hm rfl rfl (fun p hp Z' x=>?_) fun bs3 Z3 R3=>?_))))
 ·refine af (List.mem_singleton.mp hp) ?_
  have o2:=R2.o 2 xP
  have nm:B 2≠m:=fun e=>by have:=o2;(rewrite[show aK (aK (aK B 22 (a::bs)) 25 bs') 25 (h::bs2) 2=B 2 from rfl] at this;rewrite[e] at this;rw[hm] at this);exact ns this
  exact bV rfl (x _ _ nm (bv nm o2)) rfl rfl
 rw[iq] at R3
 replace R3:Hp _ (jv B d [.none,.ref a] (C9 d.bits u (bs.getD 0 0) (bs.getD 1 0) bs2++Dn (A0 (B 2) (B 3) h bs3 []))) F Z3:=R3
 refine f7 (fK rfl rfl (aR (v:=.ref h) (ac rfl) (aR (v:=.ref (bs3.getD 6 0)) (bV (a:=m) rfl (R3.o 31 (kn (j:=9))) rfl rfl) (aR (v:=.ref (bs3.getD 7 0)) (bV (a:=m) rfl (R3.o 31 (kn (j:=9))) rfl rfl) (cK fun p hp=>gc rg F4 [] rfl rfl R3 (n:=46) eE hp rfl rfl (fun p hp=>nomatch hp) fun bs4 Z4 R4=>ax ⟨rfl,bj (v:=.ref m) (ac rfl) ?_⟩)))))
 rw[iq] at R4
 refine⟨_,ch (R4.o 31 (kn (j:=9))) rfl,?_⟩
 replace R4:=R4.set (i:=31) (by refine af eE ?_;exact Nat.lt_of_lt_of_le (by decide:31<47) (Nat.le_refl _)) (A0 (B 2) (B 3) h bs3 [(163,.ref p)])
 (rewrite[show(31:Nat)=9+22 from rfl] at R4;rw[km] at R4)
 refine f7 (pJ rfl rfl fun c hc=>bj (v:=.ref m) (ac rfl) ?_)
 have R5:=R4.new (n:=47) eE hc (.inst 83 [])
 rw[uQ] at R5
 refine⟨_,ch (R5.o 31 (kn (j:=9))) rfl,?_⟩
 replace R5:=R5.set (i:=31) (by refine af eE ?_;exact Nat.lt_of_lt_of_le (by decide:31<48) (Nat.le_refl _)) (A0 (B 2) (B 3) h bs3 [(163,.ref p),(164,.ref c)])
 (rewrite[show(31:Nat)=9+22 from rfl] at R5;rw[km] at R5)
 refine f7 (pJ rfl rfl fun e he=>bj (v:=.ref m) (ac rfl) ?_)
 have R6:=R5.new (n:=48) eE he (.inst 84 [])
 rw[uQ] at R6
 refine⟨_,ch (R6.o 31 (kn (j:=9))) rfl,ax ⟨rfl,?_⟩⟩
 replace R6:=R6.set (i:=31) (by refine af eE ?_;exact Nat.lt_of_lt_of_le (by decide:31<49) (Nat.le_refl _)) (A0 (B 2) (B 3) h bs3 [(163,.ref p),(164,.ref c),(165,.ref e)])
 (rewrite[show(31:Nat)=9+22 from rfl] at R6;rw[km] at R6)
 have R7:=CY (B:=B) (d:=d) (u:=u) (a:=a) (bs:=bs) (bs':=bs') (h:=h) (bs2:=bs2) (m:=m) (bs3:=bs3) (p:=p) (bs4:=bs4) (c:=c) (e:=e) rfl▸(show Hp _ (jv B d [.none,.ref a] (C9 d.bits u (bs.getD 0 0) (bs.getD 1 0) bs2++Dn (A0 (B 2) (B 3) h bs3 [(163,.ref p),(164,.ref c),(165,.ref e)])++[O.inst 81 [(129,.ref h),(130,.ref (bs3.getD 6 0)),(131,.ref (bs3.getD 7 0))],O.inst 83 [],O.inst 84 []])) F _ from R6)
 exact sB (n:=n) R7 T hd hsp h0 h2 h3 h4 h5 h6 h7 h8 h10 h12 rfl rfl q
end
noncomputable def mK(B:Nat→Addr)(d:Dt)(es:List (V×V))(t:List O):List O:=
 ko B (mH B d.at_) (.list (aM d.nums)) (sr B) (18+d.s.length) ([.list [.none],.list [.none],.list [.none],.dict [],.list [],.list (aM (fS d.s.length)),.dict d.sh,.dict d.sp,.dict es,.dict [],.list [],.dict (wB B d)]++t)
noncomputable def dB(nums:List Int)(at_:Nat)(sh sp:List (V×V))(bits:Int)(s:List (List Int)):Dt:=⟨nums,at_,sh,sp,[],[],[],[],bits,0,0,0,fun za=>.none,false,false,false,0,s⟩
section
variable {n:Nat} {Q:aO} {B:Nat→Addr} {F Z:H} {d:Dt} {es es':List (V×V)} {t:List O}
theorem uR:(mK B d es t).length=t.length+21:=by kernel_rfl
theorem AR{o:O}:mK B d es t++[o]=mK B d es (t++[o]):=by kernel_rfl
theorem AP:(mK B d es t)[20]? = some (.dict (wB B d)):=by kernel_rfl
theorem C1:(mK B d es t)[15]? = some (.dict d.sh):=by kernel_rfl
theorem C0:(mK B d es t)[16]? = some (.dict d.sp):=by kernel_rfl
theorem C2:(mK B d es t)[17]? = some (.dict es):=by kernel_rfl
theorem C4{o:O}:(mK B d es [o])[21]? = some o:=by kernel_rfl
theorem AQ:(mK B d es t).set 17 (.dict es')=mK B d es' t:=by kernel_rfl
theorem C3{v:Nat→V}:mK B d es [.list [v 0,v 1,v 2,v 3,v 4,v 5,v 6,v 7]]=jv B { d with v:=v,es:=es } [.none] []:=by kernel_rfl
theorem EW{b:Addr}:jv (aK B 21 [b]) d [.none] []=jv B d [.none] []:=by kernel_rfl
theorem xv(R:Hp B (mK B d es t) F Z)(hsp:∀ (k:Int) (r:List Int),aU d.s k=some r→∃ a,aI d.sp (.int k)=some (.ref a)∧F a=some (.list ((W d.s k).map eg))):Mw d.s (B 20) (B 15) (B 16) (B 17) d.sh d.sp es Z:=
 ⟨aF (R.o 20 AP) rfl rfl,aF (R.o 20 AP) rfl rfl,aF (R.o 20 AP) rfl rfl,R.o 15 C1,R.o 16 C0,R.o 17 C2,fun k r e=>let ⟨a,e1,e2⟩:=hsp k r e;⟨a,e1,R.fr _ _ e2⟩⟩
theorem ph{l:List V}(h:l.length=8):l=[l.getD 0 .none,l.getD 1 .none,l.getD 2 .none,l.getD 3 .none,l.getD 4 .none,l.getD 5 .none,l.getD 6 .none,l.getD 7 .none]:=by
 match l,h with
 |[_,_,_,_,_,_,_,_],_=>rfl
theorem sA{U:Env}{nums:List Int}{at_:Nat}{sh sp:List (V×V)}{bits:Int}{s:List (List Int)}(R:Hp B (mK B (dB nums at_ sh sp bits s) [] []) F Z)(T:Ms s sh sp)(hb:0≤bits∧bits<4)(hsp:∀ (k:Int) (r:List Int),aU s k=some r→∃ a,aI sp (.int k)=some (.ref a)∧F a=some (.list ((W s k).map eg)))
  (h0:U 0=some (.ref (B 0))) (h1:U 1=some (.ref (B 2))) (h2:U 2=some (.ref (B 3))) (h3:U 3=some (.int 16)) (h4:U 4=some (.int 17)) (h5:U 5=some (.ref (B 14))) (h6:U 6=some (.ref (B 15))) (h7:U 7=some (.int 18)) (h8:U 8=some (.int 19)) (h9:U 9=some (.tup (aM [18,19,18,19,19,19,18,18]))) (h10:U 10=some (.ref (B 20)))
  (q:∀ A d' Z',A 0=B 0∧A 1=B 1→Wd A d' Z'→Ok d'→d'.nums=nums→d'.cs=[]→Q (.ref (A 2)) Z'):SS (a8 (n+9)) (wV.body.drop 8) U (fq Q) Z:=by
 refine aW (d4 (n:=8) (fun acc Z'=>bA Z Z'∧∀ (i:Nat) v,acc[i]? = some v→Ty s (bt i) v) (aZ (vs:=[.int 8]) (ab aj ae) fun Q q=>⟨_,rfl,⟨by decide,by decide⟩,q⟩) (by decide) ⟨bA.refl,fun za za h=>nomatch h⟩ ?_ (fun v h=>nomatch h) ?_)
 ·intro acc Z' hl hI U' hb' X hX
  refine br (aP hb') ?_
  refine aC (vs:=[.ref (B 20),.int (bt acc.length),.int (17 * (acc.length:Nat)+1)]) (ab (ac h10) (ab (ah (ac h9) (ac rfl) (dZ hl)) (ab (aA (aA (w:=.int (17 * (acc.length:Nat))) aj (ac rfl) fun Q q=>⟨⟨by decide,by show((acc.length:Nat):Int).natAbs<2 ^ 40;rw[Int.natAbs_natCast];exact Nat.lt_trans hl (by decide)⟩,q⟩) aj fun Q q=>q) ae))) rfl (Ed T _ (n+8) _ Z' _ (Nat.le_trans (eT T.ok _) (Nat.le_add_left 7 (n+1))) (xv (R.ext hI.1) hsp) fun v Z'' tv x=>hX v Z'' ⟨hI.1.trans x,fun i v' e=>?_⟩)
  by_cases c:i<acc.length
  ·rw[List.getElem?_append_left c] at e;exact hI.2 i v' e
  ·have:i=acc.length:=by have:=(List.getElem?_eq_some_iff.mp e).1;rw[List.length_append] at this;exact Nat.le_antisymm (Nat.le_of_lt_succ this) (Nat.le_of_not_lt c)
   subst this
   rw[List.getElem?_concat_length] at e;refine br (aP e) ?_;exact tv
 ·intro acc Z1 hl hI y hy
  have R1:=(R.ext hI.1).new (n:=21) uR hy (.list acc)
  have ea:=ph hl
  have ty:∀ r,r<8→Ty s (bt r) (acc.getD r .none):=fun r hr=>hI.2 r _ (by refine af (List.getD_eq_getElem?_getD) ?_;refine af (List.getElem?_eq_getElem (hl▸hr:r<acc.length)) ?_;rfl)
  generalize hv:(fun r=>acc.getD r V.none)=v
  have hv':∀ r,acc.getD r .none=v r:=fun r=>congrFun hv r
  simp only[hv'] at ea ty
  rw[ea] at R1 ⊢
  clear hv hv' ea hl
  rw[AR] at R1
  generalize hB:aK B 21 [y]=B1 at R1
  have eB:∀ i,i<21→B1 i=B i:=fun i hi=>by refine br hB ?_;exact cA hi
  have rb:∀ {i j:Nat} {v:V},i<21→U j=some (.ref (B i))→U j=some (.ref (B1 i)):=fun hi h=>h.trans (by(refine af (eB _ hi) ?_;with_reducible rfl))
  have ey:y=B1 21:=by refine br hB ?_;exact eD.symm
  replace R1:Hp B1 (mK B (dB nums at_ sh sp bits s) [] [.list [v 0,v 1,v 2,v 3,v 4,v 5,v 6,v 7]]) F _:=R1
  have cat:∀ es t,mK B (dB nums at_ sh sp bits s) es t=mK B1 (dB nums at_ sh sp bits s) es t:=fun es t=>by refine af hB ?_;kernel_rfl
  rw[cat] at R1
  subst ey
  replace h10:=rb (i:=20) (v:=.none) (by decide) h10
  refine cg (v:=.rng ((8:Nat):Int)) (aZ (vs:=[.int 8]) (ab aj ae) fun Q q=>⟨_,rfl,⟨by decide,by decide⟩,q⟩) rfl ?_
  refine gY (N:=8) (fun i U' Z'=>(∀ j,j≠11→U' j=(U.set 12 (.ref (B1 21))) j)∧∃ es,Hp B1 (mK B1 (dB nums at_ sh sp bits s) es [.list [v 0,v 1,v 2,v 3,v 4,v 5,v 6,v 7]]) F Z'∧(∀ (r:Nat) p,bd es (ck r p)=true)∧es.length≤i * 3280∧∀ r,r<i→∀ (p:List Int) (k:Int),cj s (bt r) p=some k→aU s k=none→aI es (ck r p)=bF (v r) p) ?_ ⟨fun za za=>rfl,[],R1,fun r p=>yT r p |> fun h=>by show(key _ && true)=true;refine af h ?_;rfl,Nat.le_refl _,fun r h=>absurd h (Nat.not_lt_zero r)⟩ ?_
  ·rintro i hi U' Z' ⟨hU,es,R2,hk,hl,hc⟩ P hP _
   have k10:U' 10=some (.ref (B1 20)):=(hU 10 (by decide)).trans h10
   have k9:U' 9=some (.tup (aM [18,19,18,19,19,19,18,18])):=(hU 9 (by decide)).trans h9
   have k12:U' 12=some (.ref (B1 21)):=(hU 12 (by decide)).trans rfl
   have vi:[v 0,v 1,v 2,v 3,v 4,v 5,v 6,v 7][i]? = some (v i):=fF (P:=fun i=>[v 0,v 1,v 2,v 3,v 4,v 5,v 6,v 7][i]? = some (v i)) rfl rfl rfl rfl rfl rfl rfl rfl hi
   have len:(mK B1 (dB nums at_ sh sp bits s) es [.list [v 0,v 1,v 2,v 3,v 4,v 5,v 6,v 7]]).length=22:=uR
   have ne:∀ j,j<22→j≠17→B1 17≠B1 j:=fun j hj h e=>h (R2.inj 17 j (by refine af len ?_;decide) (by refine af len ?_;exact hj) e).symm
   have l6:i * 3280≤7 * 3280:=Nat.mul_le_mul_right _ (Nat.le_of_lt_succ hi)
   refine pN (aC (vs:=[.ref (B1 20),.int i,.tup (aM []),.int (bt i),v i]) (ab (ac k10) (ab (ac rfl) (ab (aE ae) (ab (ah (ac k9) (ac rfl) (dZ hi)) (ab (ah (ac k12) (ac rfl) (aJ (R2.o 21 C4) (Int.natCast_nonneg _) (by rw[Int.toNat_natCast];exact vi))) ae))))) rfl (Fs (n:=n+7) (xv R2 hsp) T ⟨ne 20 (by decide) (by decide),ne 15 (by decide) (by decide),ne 16 (by decide) (by decide)⟩ hk (Nat.le_trans hl (Nat.le_trans l6 (by decide))) (ty i hi) (Nat.zero_le _) fun Z'' o he=>ax (hP _ _ ⟨fun j hj=>(aD hj).trans (hU j hj),_,AQ▸R2.put (i:=17) (by refine af len ?_;decide) o he,fun r p=>ni _ _ (hk r p),Nat.le_trans (sT _ _) (by rw[Nat.succ_mul];exact Nat.add_le_add hl (lh T.ok _)),fun r hr p k hp hlf=>?_⟩)))
   refine Or.elim (Nat.lt_or_eq_of_le (Nat.le_of_lt_succ hr)) (fun h=>?_) (fun h=>?_)
   ·refine ak (lQ _ _ fun z za za e=>Nat.ne_of_gt h (mv e).1) ?_;exact hc r h p k hp hlf
   ·subst h
    refine o1x2 ((ty r hi).get p hp) fun u hu za=>?_
    refine af hu ?_;exact pY (p:=[]) (y:=(p,k)) hlf hu _ _ ((fV T.ok _ p).mpr hp)
  ·rintro U' Z' ⟨hU,es,R2,hk,hl,hc⟩
   rw[C3] at R2
   have e:∀ j v,j≠11→j≠12→U j=some v→U' j=some v:=fun j v h h' e=>(hU j h).trans ((aD h').trans e)
   exact sC (n:=n+4) R2 T (fun rows h=>⟨T.ok,T.shD,T.shK,h.d,h.h,h.n,h.k,T.spK,T.spN,ty,hk,Nat.le_trans hl (by decide),fun za=>rfl,fun za h=>(nomatch h),hc,hb,rfl,rfl,rfl⟩) hsp (e 0 _ (by decide) (by decide) (rb (v:=.none) (by decide) h0)) (e 1 _ (by decide) (by decide) (rb (v:=.none) (by decide) h1)) (e 2 _ (by decide) (by decide) (rb (v:=.none) (by decide) h2)) (e 3 _ (by decide) (by decide) h3) (e 4 _ (by decide) (by decide) h4) (e 5 _ (by decide) (by decide) (rb (v:=.none) (by decide) h5)) (e 6 _ (by decide) (by decide) (rb (v:=.none) (by decide) h6)) (e 7 _ (by decide) (by decide) h7) (e 8 _ (by decide) (by decide) h8) (e 10 _ (by decide) (by decide) h10) ((hU 12 (by decide)).trans rfl) fun A d' Z' h=>q A d' Z' ⟨h.1.trans (eB 0 (by decide)),h.2.trans (eB 1 (by decide))⟩
end
section
variable {n:Nat} {Q:aO} {B:Nat→Addr} {F Z Z':H} {hs:List O}
open Classical in
theorem Hp.shift(R:Hp B hs F Z):∃ F',Hp B hs F' Z∧∀ a o,Z a=some o→(∀ i,i<hs.length→a≠B i)→F' a=some o:=by
 refine⟨fun a=>if ∃ i,i<hs.length∧a=B i then none else Z a,⟨R.o,R.inj,fun a o h=>?_,fun i hi=>aG ⟨i,hi,rfl⟩⟩,fun a o h hn=>(aD fun⟨i,hi,e⟩=>hn i hi e).trans h⟩
 by_cases c:∃ i,i<hs.length∧a=B i
 ·rw[aG c] at h;exact ns h
 ·rw[aD c] at h;exact h
theorem Hp.add(R:Hp B hs F Z)(hn:hs.length=n){a:Addr}{o:O}(ha:Z a=none)(x:bA Z Z')(h:Z' a=some o):Hp (aK B n [a]) (hs++[o]) F Z':=
 (R.new hn ha o).ext fun y o' e=>by
  by_cases c:y=a
  ·subst c;rw[aB] at e;refine br (aP e) ?_;exact h
  ·exact x y o' ((bv c rfl).symm.trans e)
theorem tJ{a0 a1:Addr}{at_:Nat}{nums:List Int}(h0:Z a0=some (.dict [(.sym 202,.ref a1),(.sym 118,.int at_)]))(h1:Z a1=some (.list (aM nums))):Hp (fun i=>if i=0 then a0 else a1) [.dict [(.sym 202,.ref a1),(.sym 118,.int at_)],.list (aM nums)] (fun za=>none) Z:=by
 have ne:a0≠a1:=fun e=>by rw[e,h1] at h0;cases h0
 refine⟨fun i o e=>?_,fun i j hi hj e=>?_,fun za za h=>(nomatch h),fun za za=>rfl⟩
 ·match i,e with
  |0,e=>refine br (aP e) ?_;exact h0
  |1,e=>refine br (aP e) ?_;exact h1
 ·match i,j,hi,hj,e with
  |0,0,_,_,_=>rfl
  |1,1,_,_,_=>rfl
  |0,1,_,_,e=>exact absurd e ne
  |1,0,_,_,e=>exact absurd e.symm ne
theorem GB{a0 a1:Addr}{at_:Nat}{nums:List Int}(h0:Z a0=some (.dict [(.sym 202,.ref a1),(.sym 118,.int at_)]))(h1:Z a1=some (.list (aM nums)))(q:∀ A d' Z',A 0=a0∧A 1=a1→Wd A d' Z'→Ok d'→d'.nums=nums→d'.cs=[]→Q (.ref (A 2)) Z'):a8 (n+10) none 72 [.ref a0] Q Z:=by
 refine bq zE rfl (aW (DS (n:=n+7) (K:=0) (tJ h0 h1) fun B Z1 e0 e1 R1=>?_))
 replace e0:B 0=a0:=e0
 replace e1:B 1=a1:=e1
 subst e0 e1
 refine au (bV rfl (R1.o 2 rfl) rfl rfl) (aW (aC (vs:=[.ref (B 3),.int 80,.tup []]) (ab (ac rfl) (ab aj (ab (aE ae) ae))) rfl (Fj (n:=n+4) R1 (by decide) rfl (by decide) rfl fun Z2 R2=>?_)))
 refine aW (aC (vs:=[.ref (B 3),.int 70,.tup []]) (ab (ac rfl) (ab aj (ab (aE ae) ae))) rfl (Gx (n:=n+4) R2 fun Z3 R3=>?_))
 refine hH (aC (vs:=[.ref (B 0),.ref (B 3),.int 16]) (ab (ac rfl) (ab (ac rfl) (ab (ac rfl) ae))) rfl (GN (n:=n+3) (show Hp B (S1 B nums at_ 18 []) _ Z3 from R3) fun B' Z4 s at' sh hB ok shD shK R4=>⟨_,rfl,?_⟩))
 have r0:(V.ref (B 0))=.ref (B' 0):=congrArg V.ref (hB 0 (by decide)).symm
 have r2:(V.ref (B 2))=.ref (B' 2):=congrArg V.ref (hB 2 (by decide)).symm
 have r3:(V.ref (B 3))=.ref (B' 3):=congrArg V.ref (hB 3 (by decide)).symm
 have l4:=ok.len
 have tw:∀ {U:Env} {K:aN} (i:Nat),i<s.length→U 5=some (.ref (B' 14))→Ev K U Z4 (.idx (.x 5) (.k (.int i))) (.int (18+(i:Int))):=fun i hi h=>aQ h (aJ (R4.o 14 rfl) (Int.natCast_nonneg _) (by rw[Int.toNat_natCast];exact cy (hG hi)))
 refine lH (u:=.int 18) (v:=.int 19) (aE (ab (tw 0 (by lia) rfl) (ab (tw 1 (by lia) rfl) ae))) (au (v:=.tup (aM [18,19,18,19,19,19,18,18])) (aE (ab (ac rfl) (ab (ac rfl) (ab (ac rfl) (ab (ac rfl) (ab (ac rfl) (ab (ac rfl) (ab (ac rfl) (ab (ac rfl) ae))))))))) ?_)
 refine aW (lB (dj (u:=.sym 211) aj (bj (v:=.int 16) (ac rfl) (dj (u:=.sym 204) aj (bj (v:=.ref (B' 15)) (ac rfl) (dj (u:=.sym 203) aj (aC (vs:=[.ref (B' 14),.ref (B' 15)]) (ab (ac rfl) (ab (ac rfl) ae)) rfl (GM (R4.o 14 rfl) (R4.o 15 rfl) ok shD shK fun a sp Z5 ha I=>?_))))))))
 refine o1x2 ((R4.add (n:=16) rfl ha I.ext I.d).shift) fun F R5 hF=>?_
 have hsp:∀ (k:Int) (r:List Int),aU s k=some r→∃ x,aI sp (.int k)=some (.ref x)∧F x=some (.list ((W s k).map eg)):=fun k r g=>by
  refine o1x3 (I.at_ k r g (ok.row k r g).1.1) fun x e1 e2 e3=>?_
  refine⟨x,e1,hF x _ e2 fun i hi e=>?_⟩
  refine Or.elim (Nat.lt_or_eq_of_le (Nat.le_of_lt_succ (show i<17 from hi))) (fun h=>?_) (fun h=>?_)
  ·rw[e,cA h,R4.o i (List.getElem?_eq_getElem (show i<(S1 B' nums at' (18+s.length) [.list (aM (fS s.length)),.dict sh]).length from h))] at e3;exact sn e3
  ·subst h;rw[e,eD,I.d] at e2;cases e2
 refine dj (u:=.sym 210) aj (bj (v:=.tup (aM [18,19,18,19,19,19,18,18])) (ac rfl) (dj (u:=.sym 205) aj (gw fun b hb=>dj (u:=.sym 121) aj (gw fun c hc=>?_))))
 have R6:=(R5.new (n:=17) rfl hb (.dict [])).new (n:=18) rfl hc (.dict [])
 refine dj (u:=.sym 209) aj (aC (vs:=[.ref (aK (aK (aK B' 16 [a]) 17 [b]) 18 [c] 0),.int 4]) (ab (ac (congrArg some r0)) (ab aj ae)) rfl (pf R6 (by decide) fun bits hbits Z6 R7=>dj (u:=.sym 176) aj (bx ae fun e he=>lV ⟨rfl,fun w hw=>?_⟩)))
 have R8:=(R7.new (n:=19) rfl he (.list [])).new (n:=20) rfl hw (.dict [(.sym 211,.int 16),(.sym 204,.ref (B' 15)),(.sym 203,.ref a),(.sym 210,.tup (aM [18,19,18,19,19,19,18,18])),(.sym 205,.ref b),(.sym 121,.ref c),(.sym 209,.int bits),(.sym 176,.ref e)])
 refine sA (n:=n) (B:=aK (aK (aK (aK (aK B' 16 [a]) 17 [b]) 18 [c]) 19 [e]) 20 [w]) (nums:=nums) (at_:=at'+1) (sh:=sh) (sp:=sp) (bits:=bits) (s:=s) R8 ⟨ok,shD,shK,I.key,fun k h=>I.no k (.inr h)⟩ ⟨Int.natCast_nonneg _,hbits⟩ hsp (congrArg some r0) (congrArg some r2) (congrArg some r3) rfl rfl rfl rfl rfl rfl rfl rfl fun A d' Z' h=>q A d' Z' ⟨h.1.trans (V.ref.inj r0.symm),h.2.trans (hB 1 (by decide))⟩
end
theorem ve{K:aN}{U:Env}{Z:H}{P:aO}{o e:E}{xs:List V}{j:Int}(ho:Ev K U Z o (.arg xs))(he:Ev K U Z e (.int j))(hj:0≤j∧j<2 ^ 40)(k:∀ a,Z a=none→P (.ref a) (Z.set a (.list (xs.take j.toNat)))):WE K (.slcH o e) U P Z:=
 ⟨ho.go _ (he.go _ ⟨hj,k⟩)⟩
section
variable {n:Nat} {Q:aO} {Z:H}
theorem qi{a1:Addr}{nums:List Int}{U:Env}(h1:U 1=some (.ref a1))(ha:Z a1=some (.list (aM nums)))(q:∀ Z',Q (.bool true) Z'):SS (a8 (n+10)) (Dh.body.drop 2) U (fq Q) Z:=by
 refine aW (lB (dj (u:=.sym 202) aj (bj (v:=.ref a1) (ac h1) (dj (u:=.sym 118) aj (bj aj (lV ⟨rfl,fun a0 h0=>?_⟩))))))
 have ha':(Z.set a0 (.dict [(.sym 202,.ref a1),(.sym 118,.int (0:Nat))])) a1=some (.list (aM nums)):=bA.new h0 _ _ ha
 refine aW (aC (vs:=[.ref a0]) (ab (ac rfl) ae) rfl (GB (n:=n) (nums:=nums) aB ha' fun A d Z1 hA W1 o1 en ec=>au aj (gO (n:=11) ?_)))
 refine o0x2 hA fun e0 q9=>?_;clear hA;refine br e0 ?_;obtain rfl:=q9
 have fin:∀ (U':Env) d' Z',Wd A d' Z'→Ok d'→d'.nums=nums→d'.cs.length≤900→U' 1=some (.ref (A 1))→U' 2=some (.ref (A 0))→U' 3=some (.ref (A 2))→SS (a8 (n+10)) (Dh.body.drop 6) U' (fq Q) Z':=by
  intro U' d' Z' W2 o2 en hc k1 k2 k3
  refine dJ (iu (eF (aC (vs:=[.ref (A 2)]) (ab (ac k3) ae) rfl (Gz (n:=n) W2 o2 hc fun d3 Z3 W3 o3 e3 n3=>⟨fun h=>(nomatch h),fun za=>ax ?_⟩))))
  have e3':d3.nums=nums:=n3.trans en
  have o1':=W3.o 1 rfl
  have l8:((nums.length % 8:Nat):Int)=(nums.length:Int) % 8:=rfl
  have r8:nums.length % 8<8:=Nat.mod_lt _ (by decide)
  refine au (v:=.int (nums.length % 8:Nat)) (aA (u:=.int nums.length) (fc (d0 (ac k1) o1') (by(refine af bz ?_;(refine af e3' ?_;with_reducible rfl)))) aj fun Q q=>⟨by decide,q⟩) ?_
  refine aW (aC (vs:=[.ref (A 2),.int (bt (nums.length % 8))]) (ab (ac k3) (ab (ah (ah (ac k3) aj (aF (W3.o 2 rfl) rfl rfl)) (ac rfl) (dZ r8)) ae)) rfl (Fk (n:=n+8) W3 o3 fun p k Z4 x4 hk hl=>?_))
  have W4:=W3.ext x4
  refine bO (xl (jx (eF (cC rfl (aR (ac k3) (aR (ac rfl) (aR (v:=.tup (aM p)) (aQ rfl rfl) (bN (aC (vs:=[.ref (A 0),.int 2]) (ab (ac k2) (ab aj ae)) rfl (iT W4 (by decide) fun z hz Z5 W5 za=>Fo (n:=n+1) W5 o3.dr r8 hk fun d6 Z6 W6 o6 za=>⟨fun za=>fZ (eF (aC (vs:=[.ref (A 2)]) (ab (ac k3) ae) rfl (Gy (n:=n+1) W6 o6 fun Z7 za=>q Z7))),fun h=>nomatch h⟩))))))))))
 refine(?_:∀ (m t:Nat) (U':Env) d' Z',m+t=10→Wd A d' Z'→Ok d'→d'.nums=nums→d'.cs.length≤t→U' 1=some (.ref (A 1))→U' 2=some (.ref (A 0))→U' 3=some (.ref (A 2))→U' 4=some (.int t)→WL _ _ _ _ (m+1) U' Z') 10 0 _ d Z1 rfl W1 o1 en (by refine af ec ?_;exact Nat.le_refl _) h1 rfl rfl rfl
 intro m
 induction m with
 |zero=>
  intro t U' d' Z' hm W2 o2 en hc k1 k2 k3 k4
  rw[Nat.zero_add] at hm
  subst hm
  exact eh (bc (aY (ai (ao (ac k4) aV) rfl) (ba (bc (d5 (ai (ao (ac k4) aV) rfl)))))) (fin U' d' Z' W2 o2 en (Nat.le_trans hc (by decide)) k1 k2 k3)
 |succ m ih=>
  intro t U' d' Z' hm W2 o2 en hc k1 k2 k3 k4
  have ht:t<10:=by lia
  have test:∃ b,Et (a8 (n+10)) U' Z' (.bl .Or [.cmp (.x 4) .Lt (.k (.int 3)),.bl .And [.cmp (.x 4) .Lt (.k (.int 10)),.cmp (.idx (.x 2) (.k (.sym 118))) .Lt (.call (.k (.bi 0)) [.x 1])]]) b:=by
   by_cases c:(t:Int)<3
   ·exact⟨true,bc (dq (ai (ao (ac k4) aV) (bR c)))⟩
   ·exact⟨_,bc (aY (ai (ao (ac k4) aV) (bG c)) (ba (bc (bZ (ai (ao (ac k4) aV) (bR (Int.ofNat_lt.mpr ht))) (ba (aL (aQ k2 (aF (W2.o 0 rfl) rfl rfl)) (d0 (ac k1) (W2.o 1 rfl)) aV))))))⟩
  refine aH test fun b hb=>?_;clear test
  induction b using Bool.casesOn with
  |false=>exact eh hb (fin U' d' Z' W2 o2 en (Nat.le_trans hc (by lia)) k1 k2 k3)
  |true=>
   refine cJ hb (jE (d:=(t:Int)+1) k4 aj rfl (dJ (iu (eF (aC (vs:=[.ref (A 2),.ref (A 0)]) (ab (ac k3) (ab (ac k2) ae)) rfl (GC (n:=n) W2 o2 (Nat.le_trans hc (by lia)) fun d3 Z3 W3 o3 nx=>⟨fun h=>(nomatch h),fun za=>ax (ax (gU (ih (t+1) _ d3 Z3 (by lia) W3 o3 (nx.2.1.trans en) (Nat.le_trans nx.2.2 (Nat.succ_le_succ hc)) k1 k2 k3 rfl)))⟩))))))
theorem yQ{script:List Int}(q:∀ Z',Q (.bool true) Z'):a8 (n+11) none 77 [.arg (aM script)] Q Z:=by
 refine bq zy rfl (aW (ve (ac rfl) aj ⟨by decide,by decide⟩ fun a ha=>?_))
 have et:(aM script).take (60:Int).toNat=aM (script.take 60):=List.map_take.symm
 refine af et ?_
 have ll:=d0 (C:=a8 (n+10)) (U:=(bU Dh.ps [.arg (aM script)] Env.nil).set 1 (.ref a)) (e:=.x 1) (ac rfl) (aB (Z:=Z) (a:=a) (o:=.list (aM (script.take 60))))
 by_cases c:(((aM (script.take 60)).length:Nat):Int)=0
 ·refine az (ai (ao ll an) (bR c)) (aW (bx (vs:=aM [0,1,0,1,1,2,1,0,1,0,3,6,2,0,1,0,1,1,5,0,3,1]) (xB (aM [0,1,0,1,1,2,1,0,1,0,3,6,2,0,1,0,1,1,5,0,3,1])) fun b hb=>ax (qi rfl aB q)))
 ·exact aq (ai (ao ll an) (bG c)) (qi rfl aB q)
end
end Mine
namespace Mine
open PySem PySem.W PySem.Calls PyProof.Rows
noncomputable def ow:List Nat:=[97,104,111,118,125,132,139,146,153,167,181,188,202,209,223,258,265,272,279,286,335,342,349,356,363,370,377,384,391,419,426,433,440,447,454,461,468,475,482,489,496,503,510,728,735,812,819,826,833,840,847,854,861,879,884,891,898,903,910,915,922,929,936,943,950,957,964,971,976,983,990,997,1002,1009,1016,1023,1028,1035,86,303,324,408,528,563,591,717,759,780,801]
noncomputable def ou:List ((Nat×Nat)×Nat):=[((78,96),76),((78,98),83),((84,112),581),((85,167),630),((85,168),637),((85,172),665),((85,173),672),((85,176),693),((78,89),69),((79,89),300),((80,89),321),((81,89),405),((82,89),525),((85,89),609),((86,89),756),((87,89),777),((88,89),798)]
noncomputable def Fc:List Nat:=[85,302,323,407,527,562,590,716,758,779,800]
noncomputable def yg:List Stmt:=(Dk.take 78).map MineH.at1++[MineH.at2 40 1,MineH.at2 40 2,MineH.at2 115 0,MineH.at2 116 3,MineH.at2 116 4,MineH.at2 116 8,MineH.at2 116 9,MineH.at2 116 12,MineH.at2 40 0,MineH.at2 80 0,MineH.at2 81 0,MineH.at2 93 0,MineH.at2 113 0,MineH.at2 116 0,MineH.at2 122 0,MineH.at2 123 0,MineH.at2 124 0]
noncomputable def qG:List Nat:=ow.take 78++ou.map (·.2)
noncomputable def Db:List (Option Nat×Nat):=(List.range 78).map (fun n=>(none,n))++ou.map fun p=>(some p.1.1,p.1.2)
noncomputable def GG(p:Addr)(l:List V):GT:=⟨fun n=>ow[n]?,55,fun c f=>ou.lookup (c,f),p,l⟩
noncomputable def kL:List Nat:=ow++ou.map (·.2)++Fc
noncomputable def fi(P:Params)(a:Addr):Obj:=((MineH.T P).get a).getD default
noncomputable def Gi(o:Obj):Array DictEntry:=match o.data with
 |.dict es _=>es
 |_=>#[]
noncomputable def oN(o:Obj):Nat:=match o.data with
 |.dict _ n=>n
 |.seq _ n=>n
 |_=>0
noncomputable def xq(o:Obj):List Value:=match o.data with
 |.seq vs _=>vs.toList
 |.fields vs=>vs.toList
 |_=>[]
noncomputable def oF(o:Obj):FuncData:=match o.data with
 |.func F=>F
 |_=>default
noncomputable def vI(v:Value):Int:=match v with
 |.int i _=>i
 |_=>0
noncomputable def vS(v:Value):Str:=match v with
 |.str s _=>s
 |_=>default
noncomputable def vT(v:Value):Tok:=match v with
 |.int _ t=>t
 |.str _ t=>t
 |_=>0
noncomputable def fQ(P:Params)(a:Addr):Array DictEntry:=Gi (fi P a)
noncomputable def kX(P:Params)(a:Addr):FuncData:=oF (fi P a)
noncomputable def KF(P:Params):Frag:=kL.map fun a=>(a,fi P a)
noncomputable def A1:List Nat:=[862,863,872,864,865,866,867,868,869,870,871]
noncomputable def rY:List Nat:=ow++ou.map (·.2)++Fc++qG.map (· - 1)++[0,1,2,3,55]++A1
theorem BN(P:Params):rY.map (fun a=>((MineH.T P).get a).map fun o=>(o,alive o))=rY.map fun a=>some (fi P a,some (fi P a)):=by kernel_rfl
theorem BM:rY.all (fun a=>Nat.blt a 1036)=true:=by kernel_rfl
theorem zd(P:Params):qG.map (fun a=>(fi P a).data)=qG.map fun a=>.func (kX P a):=by kernel_rfl
theorem wK(P:Params):qG.map (fun a=>((kX P a).scope,(kX P a).body,(kX P a).closure,(kX P a).globals,(kX P a).builtins))=yg.map fun s=>(MineH.dScope s,FuncBody.stmts (MineH.dBody s),[],mainGlobals,builtinsNs):=by kernel_rfl
theorem zg(P:Params):qG.map (fun a=>(kX P a).params)=yg.map MineH.dArgs:=by kernel_rfl
theorem ze(P:Params):qG.map (fun a=>((kX P a).code,(fi P (a - 1)).data,(xq (fi P (a - 1)))[1]?))=qG.map fun a=>(.ref (a - 1),.fields ⟨xq (fi P (a - 1))⟩,some (.str (kX P a).qualname (vT ((xq (fi P (a - 1))).getD 1 .none)))):=by kernel_rfl
theorem zc:Db.map (fun k=>pe k.1 k.2)=yg.map wJ:=by kernel_rfl
theorem Ch(P:Params):qG.all (fun a=>Nat.ble (kX P a).params.args.length 8)=true:=by kernel_rfl
theorem zf(P:Params):(fun v0 v1 v2 v3 v4 v5 v6 v7=>qG.map fun a=>bindArgs (kX P a) ⟨[v0,v1,v2,v3,v4,v5,v6,v7].take (kX P a).params.args.length,[]⟩)=fun v0 v1 v2 v3 v4 v5 v6 v7=>qG.map fun a=>pure (((kX P a).params.args.map (·.arg)).zip ([v0,v1,v2,v3,v4,v5,v6,v7].take (kX P a).params.args.length)):=by kernel_rfl
noncomputable def kD:List (Nat×Nat):=[78,79,80,81,82,83,84,85,86,87,88].zip (ow.drop 78)
theorem qz(P:Params):kD.map (fun c=>(plainGet (KF P) c.2 "",hasDictIn (KF P) c.2,plainOver (KF P) c.2,makesIn (KF P) c.2,keepIn (KF P) (.ref c.2)))=kD.map fun za=>(true,true,true,true,true):=by kernel_rfl
theorem Cr(P:Params):kD.map (fun c=>findIn (KF P) (.ref c.2) "__setattr__")=kD.map fun za=>some (some (.builtin "object.__setattr__")):=by kernel_rfl
theorem zw(P:Params):kD.map (fun c=>findIn (KF P) (.ref c.2) "__init__")=kD.map fun c=>some (some (match ou.lookup (c.1,89) with | some a=>.ref a | none=>.builtin "object.__init__")):=by kernel_rfl
theorem DT(P:Params):ou.map (fun p=>(typeIn (KF P) (.ref p.2),keepIn (KF P) (.ref p.2)))=ou.map fun za=>(some (.type "function"),true):=by kernel_rfl
theorem yC(P:Params):ou.map (fun p=>findIn (KF P) (.ref (ow.getD p.1.1 0)) (cw p.1.2))=ou.map fun p=>some (some (.ref p.2)):=by kernel_rfl
theorem zb(P:Params):ow.map (fun a=>keepIn (KF P) (.ref a))=ow.map fun za=>true:=by kernel_rfl
theorem zx(P:Params):kD.map (fun c=>(bk c.1).map fun x=>(takerIn (KF P) c.2 (cw x),findIn (KF P) (.ref c.2) (cw x)))=kD.map fun c=>(bk c.1).map fun za=>(some none,some none):=by kernel_rfl
noncomputable def gV(n:Nat):V:=(gl.getD n none).getD .none
noncomputable def wI(v:V):Int:=match v with
 |.int i=>i
 |_=>0
noncomputable def Gj(P:Params)(a:Addr)(n:Nat):Value:=(nsFind (fQ P a) (cw n)).getD .none
noncomputable def lD(a b:Nat):List Nat:=(List.range b).map (· + a)
theorem jT{a b n:Nat}(h:a≤n)(h':n<a+b):n ∈ lD a b:=List.mem_map.mpr ⟨n - a,List.mem_range.mpr (Nat.sub_lt_left_of_lt_add h h'),Nat.sub_add_cancel h⟩
theorem D8(P:Params):(List.range 89).map (fun n=>(nsFind (fQ P 3) (cw n),gl.getD n none))=(List.range 89).map fun n=>(some (.ref (ow.getD n 0)),some (.fn n)):=by kernel_rfl
theorem D7:(lD 89 124).map (fun n=>gl.getD n none)=(lD 89 124).map fun za=>none:=by kernel_rfl
theorem B9(P:Params):(lD 213 45).map (fun n=>(nsFind (fQ P 3) (cw n),gl.getD n none))=(lD 213 45).map fun n=>(some (.int (wI (gV n)) (vT (Gj P 3 n))),some (.int (wI (gV n)))):=by kernel_rfl
theorem Ca(P:Params):nsFind (fQ P 3) (cw 258)=some (.ref 55)∧gl.getD 258 none=some .gd:=⟨by kernel_rfl,by kernel_rfl⟩
theorem B8(P:Params):[259,260,261].map (fun n=>nsFind (fQ P 3) (cw n))=[some (.ref 862),some (.ref 863),some (.ref 872)]:=by kernel_rfl
theorem D9(P:Params):(lD 262 7).map (fun n=>(nsFind (fQ P 3) (cw n),nsFind (fQ P 0) (cw n),gl.getD n none))=(lD 262 7).map fun n=>(none,kg (n - 262),some (.bi (n - 262))):=by kernel_rfl
theorem Cb:(lD 262 7).all (fun n=>(kg (n - 262)).isSome)=true:=by kernel_rfl
noncomputable def yd:List (Nat×List Int):=[(862,[0,16,20,24]),(863,[0,0,0,19,22,23,26,0]),(864,[2,2,2]),(865,[0,0,0]),(866,[1,0,0]),(867,[1,1,0]),(868,[1,1,1]),(869,[2,0,0]),(870,[2,1,0]),(871,[2,2,1])]
theorem xn(P:Params):A1.map (fi P)=A1.map fun a=>{ cls:=.type "tuple",data:=.seq ⟨xq (fi P a)⟩ (oN (fi P a)) }:=by kernel_rfl
theorem Bg(P:Params):yd.map (fun p=>xq (fi P p.1))=yd.map fun p=>(p.2.zip (xq (fi P p.1))).map fun q=>.int q.1 (vT q.2):=by kernel_rfl
theorem Bf(P:Params):yd.map (fun p=>(xq (fi P p.1)).length)=yd.map fun p=>p.2.length:=by kernel_rfl
theorem Be(P:Params):xq (fi P 872)=(lD 864 8).map .ref:=by kernel_rfl
theorem Co(P:Params):[0,2,3,55].map (fun a=>(fi P a).data)=[0,2,3,55].map fun a=>.dict (fQ P a) (oN (fi P a)):=by kernel_rfl
theorem zt(P:Params):[0,2,3].map (fun a=>(fQ P a).toList.map (·.key))=[0,2,3].map fun a=>(fQ P a).toList.map fun e=>.str (vS e.key) (vT e.key):=by kernel_rfl
theorem Cn(P:Params):nsFind (fQ P 2) "sys.recursionlimit" = none:=by kernel_rfl
theorem y8(P:Params):(fi P 55).cls=.type "dict" :=by kernel_rfl
theorem wC(P:Params):(fQ P 55).toList.map (fun e=>(e.key,e.hash))=((fQ P 55).toList.zip gR).map fun p=>(.int p.2 (vT p.1.key),hashInt p.2):=by kernel_rfl
theorem y7(P:Params):(fQ P 55).toList.length=gR.length:=by kernel_rfl
section
variable {P:Params} {h:Heap} {p:Addr} {al:List V}
theorem oO{α β γ:Type}{f:α→γ}{g:β→γ}{l:List α}{m:List β}(e:l.map f=m.map g){i:Nat}{a:α}(h:l[i]? = some a):∃ b,m[i]? = some b∧f a=g b:=by
 have:=congrArg (·[i]?) e
 (rewrite[List.getElem?_map] at this;rewrite[List.getElem?_map] at this;rw[h] at this)
 refine o1x2 (Option.map_eq_some_iff.mp this.symm) fun b hb e=>?_
 exact⟨b,hb,e.symm⟩
theorem bC{α γ:Type}{f g:α→γ}{l:List α}(e:l.map f=l.map g){a:α}(h:a ∈ l):f a=g a:=List.map_inj_left.mp e a h
noncomputable def mG(P:Params)(h:Heap):Prop:=∀ b o,(MineH.HF P).get? b=some o→h.get? b=some o
theorem je(Y:mG P h){a:Addr}(m:a ∈ rY):h.get? a=some (fi P a):=by
 refine o1x2 (Option.map_eq_some_iff.mp (bC (BN P) m)) fun o g e=>?_
 refine o0x2 (Prod.mk.inj e) fun e0 e2=>?_;refine af e0 ?_
 exact Y a _ ((abs_get (Nat.blt_eq.mp (List.all_eq_true.mp BM a m)) g).trans e2)
theorem DX{l r:List Nat}{a:Nat}(e:rY=l++r)(m:a ∈ r):a ∈ rY:=e▸List.mem_append_right _ m
theorem qe(Y:mG P h){a:Addr}(m:a ∈ [0,2,3]):h.Ns a (nsFind (fQ P a)):=by
 have m':a ∈ [0,2,3,55]:=List.mem_append_left [55] m
 refine⟨_,_,_,je Y (List.mem_append_left _ (List.mem_append_right _ ?_)),bC (Co P) m',fun x hx=>⟨_,_,bC (bC (zt P) m) (Array.mem_toList_iff.mpr hx)⟩,fun name=>rfl⟩
 have:∀ a ∈ [0,2,3],a ∈ [0,1,2,3,55]:=by decide
 exact this a m
theorem sN{h:Heap}:∀ (is:List Int) (vs:List Value),vs.length=is.length→vs=(is.zip vs).map (fun q=>.int q.1 (vT q.2))→bw (GG p al) h vs (is.map V.int):=by
 intro is
 induction is with
 |nil=>intro vs l _;induction vs using List.casesOn with
  |nil=>exact .nil
  |cons _ _=>cases l
 |cons i is ih=>intro vs l e;induction vs using List.casesOn with
  |nil=>cases l
  |cons v vs=>
   refine o0x2 (List.cons.inj e) fun e1 e2=>?_
   exact .cons (e1▸.int i _) (ih vs (Nat.succ.inj l) e2)
theorem cH(Y:mG P h){a:Nat}{is:List Int}(m:(a,is) ∈ yd):bg (GG p al) h (.ref a) (dy is):=by
 have ma:a ∈ A1:=by
  have:∀ x ∈ yd,x.1 ∈ A1:=by decide
  exact this _ m
 have l:=bC (Bf P) m
 have o:=je Y (List.mem_append_right _ ma:a ∈ rY)
 rw[bC (xn P) ma] at o
 refine .tup o (sN is _ l (bC (Bg P) m)) ?_
 rw[List.length_map]
 have:∀ x ∈ yd,x.2.length≤100000:=by decide
 exact this _ m
theorem sO(Y:mG P h):bg (GG p al) h (.ref 872) (.tup [dy [2,2,2],dy [0,0,0],dy [1,0,0],dy [1,1,0],dy [1,1,1],dy [2,0,0],dy [2,1,0],dy [2,2,1]]):=by
 have o:=je Y (List.mem_append_right _ (by decide):872 ∈ rY)
 (rewrite[bC (xn P) (by decide:872 ∈ A1)] at o;rw[Be] at o)
 exact .tup o (.cons (cH Y (by decide)) (.cons (cH Y (by decide)) (.cons (cH Y (by decide)) (.cons (cH Y (by decide)) (.cons (cH Y (by decide)) (.cons (cH Y (by decide)) (.cons (cH Y (by decide)) (.cons (cH Y (by decide)) .nil)))))))) (by decide)
theorem rC{i:Int}{ks:List Int}:∀ {l:List DictEntry},l.length=ks.length→l.map (fun e=>(e.key,e.hash))=(l.zip ks).map (fun p=>(.int p.2 (vT p.1.key),hashInt p.2))→(∀ e ∈ l,∃ i t,e.key=.int i t∧e.hash=hashInt i)∧(l.findIdx? fun e=>Value.isInt i e.key).isSome=ks.contains i:=by
 induction ks with
 |nil=>intro l hl e;induction l using List.casesOn with
  |nil=>exact⟨fun za h=>(nomatch h),rfl⟩
  |cons _ _=>cases hl
 |cons k ks ih=>
  intro l hl e
  induction l using List.casesOn with
  |nil=>cases hl
  |cons d l=>
   refine o0x2 (List.cons.inj e) fun e1 e2=>?_
   refine o0x2 (Prod.mk.inj e1) fun hk hh=>?_
   refine o0x2 (ih (Nat.succ.inj hl) e2) fun a b=>?_
   refine⟨fun e he=>(List.mem_cons.mp he).elim (fun q=>q▸⟨k,_,hk,hh⟩) (a e),?_⟩
   (refine ak (List.findIdx?_isSome) ?_;refine ak (List.any_cons) ?_;refine br (List.findIdx?_isSome) ?_;refine af b ?_;refine af List.contains_cons ?_)
   have:Value.isInt i d.key=(i == k):=by
    refine af hk ?_;show(k == i)=(i == k)
    exact Bool.beq_comm
   (refine af this ?_;with_reducible rfl)
theorem B7(Y:mG P h):xk (GG p al) h:=by
 have k:=fun i=>rC (i:=i) (y7 P) (wC P)
 refine⟨_,_,_,je Y (List.mem_append_left _ (List.mem_append_right _ (by decide)):55 ∈ rY),y8 P,bC (Co P) (by decide:55 ∈ [0,2,3,55]),fun x hx=>(k 0).1 x (Array.mem_toList_iff.mpr hx),fun i=>?_,(by decide:(55:Nat)≠1)⟩
 have k:=(k i).2
 show((fQ P 55).findIdx? _).isSome=_
 generalize fQ P 55=es at k ⊢
 obtain⟨l⟩:=es
 rw[List.findIdx?_toArray];exact k
theorem wx(Y:mG P h)(x:Str)(v:V)(e:ie x=.gl v):∃ val mg,h.Ns mainGlobals mg∧bg (GG p al) h val v∧(mg x=some val∨(mg x=none∧∃ mb,h.Ns builtinsNs mb∧mb x=some val)):=by
 have N3:=qe Y (a:=3) (by decide)
 have g:gl.getD (ix x) none=some v:=by
  have e:(match gl.getD (ix x) none with | some v=>cO.gl v | none=>.no)=.gl v:=e
  cases c:gl.getD (ix x) none with
  |none=>rw[c] at e;cases e
  |some _=>rw[c] at e;cases e;rfl
 have lt:ix x<269:=by
  refine Nat.lt_of_not_le fun hle=>?_
  (rewrite[List.getD_eq_getElem?_getD] at g;rw[List.getElem?_eq_none hle] at g);exact ns g
 have nx:cw (ix x)=x:=iM lt
 generalize ix x=n at g lt nx
 refine br nx ?_
 have found:∀ {val},nsFind (fQ P 3) (cw n)=some val→bg (GG p al) h val v→∃ val mg,h.Ns mainGlobals mg∧bg (GG p al) h val v∧(mg (cw n)=some val∨(mg (cw n)=none∧∃ mb,h.Ns builtinsNs mb∧mb (cw n)=some val)):=fun{val} a r=>⟨val,_,N3,r,.inl a⟩
 by_cases c1:n<89
 ·refine o0x2 (Prod.mk.inj (bC (D8 P) (List.mem_range.mpr c1))) fun e1 e2=>?_
  cases g.symm.trans e2
  refine found e1 (.fn ?_)
  show ow[n]? = _
  (refine af (List.getD_eq_getElem?_getD) ?_;refine af (List.getElem?_eq_getElem (show n<ow.length from c1)) ?_);rfl
 by_cases c2:n<213
 ·cases g.symm.trans (bC D7 (jT (Nat.le_of_not_lt c1) c2))
 by_cases c3:n<258
 ·refine o0x2 (Prod.mk.inj (bC (B9 P) (jT (Nat.le_of_not_lt c2) c3))) fun e1 e2=>?_
  cases g.symm.trans e2
  exact found e1 (.int _ _)
 by_cases c4:n<262
 ·have:n=258∨n=259∨n=260∨n=261:=by omega
  have t:=B8 P
  refine o0x2 (List.cons.inj t) fun t1 t=>?_
  refine o0x2 (List.cons.inj t) fun t2 t=>?_
  rcases this with rfl | rfl | rfl | rfl
  ·cases g.symm.trans (Ca P).2
   exact found (Ca P).1 (bg.gd (G:=GG p al))
  ·obtain rfl:=aP g;exact found t1 (cH Y (by decide))
  ·obtain rfl:=aP g;exact found t2 (cH Y (by decide))
  ·obtain rfl:=aP g;exact found (List.cons.inj t).1 (sO Y)
 ·have m:=jT (Nat.le_of_not_lt c4) (show n<262+7 from lt)
  refine o0x2 (Prod.mk.inj (bC (D9 P) m)) fun e1 e2=>?_
  refine o0x2 (Prod.mk.inj e2) fun e2 e3=>?_
  cases g.symm.trans e3
  refine aH (Option.isSome_iff_exists.mp (List.all_eq_true.mp Cb n m)) fun val hv=>?_
  exact⟨val,_,N3,.bi hv,.inr ⟨e1,_,qe Y (a:=0) (by decide),e2.trans hv⟩⟩
end
section
variable {P:Params} {h:Heap} {p:Addr} {al:List V}
theorem Cg{s:Stmt}{fd:FD}(h:wJ s=some fd):MineH.dScope s=fd.scope∧MineH.dBody s=fd.body∧(MineH.dArgs s).args.map (·.arg)=fd.params:=by
 revert h
 induction s using Stmt.casesOn with
 |FunctionDef=>exact fun h=>aP h▸⟨rfl,rfl,rfl⟩
 |_=>exact ns
noncomputable def BC(vals:List Value):List Value:=[vals.getD 0 .none,vals.getD 1 .none,vals.getD 2 .none,vals.getD 3 .none,vals.getD 4 .none,vals.getD 5 .none,vals.getD 6 .none,vals.getD 7 .none]
theorem sY{vals:List Value}(h:vals.length≤8):(BC vals).take vals.length=vals:=List.ext_getElem? fun i=>by
 refine ak (List.getElem?_take) ?_
 by_cases c:i<vals.length
 ·(refine ak (aG c) ?_;refine ak (show(BC vals)[i]? = some (vals.getD i .none) from fF (P:=fun i=>(BC vals)[i]? = some (vals.getD i .none)) rfl rfl rfl rfl rfl rfl rfl rfl (Nat.lt_of_lt_of_le c h)) ?_;refine af (List.getD_eq_getElem?_getD) ?_;refine af (List.getElem?_eq_getElem c) ?_);rfl
 ·(refine ak (aD c) ?_;(refine af (List.getElem?_eq_none (Nat.le_of_not_lt c)) ?_;with_reducible rfl))
theorem CM{a:Nat}(m:a ∈ qG):a ∈ rY∧a - 1 ∈ rY:=by
 refine⟨?_,List.mem_append_left _ (List.mem_append_left _ (List.mem_append_right _ (List.mem_map_of_mem m)))⟩
 refine List.mem_append_left _ (List.mem_append_left _ (List.mem_append_left _ (List.mem_append_left _ ?_)))
 exact(List.mem_append.mp m).elim (fun m=>List.mem_append_left _ (List.mem_of_mem_take m)) (List.mem_append_right _)
theorem xx(Y:mG P h){i:Nat}{k:Option Nat×Nat}{a:Addr}{fd:FD}(hk:Db[i]? = some k)(ha:qG[i]? = some a)(hfd:pe k.1 k.2=some fd):uT h a fd:=by
 refine o1x2 (oO zc hk) fun s hs e5=>?_
 refine o1x2 (oO (wK P) ha) fun s' hs' e1=>?_
 cases hs.symm.trans hs'
 refine o1x2 (oO (zg P) ha) fun s' hs' e2=>?_
 cases hs.symm.trans hs'
 have am:=List.mem_of_getElem? ha
 have lv:=CM am
 have st:=Cg (e5.symm.trans hfd)
 refine o0x2 (Prod.mk.inj e1) fun f1 f2=>?_
 refine o0x2 (Prod.mk.inj f2) fun f2 f3=>?_
 refine o0x2 (Prod.mk.inj f3) fun f3 f4=>?_
 refine o0x2 (Prod.mk.inj f4) fun f4 f5=>?_
 refine o0x2 (Prod.mk.inj (bC (ze P) am)) fun c1 c2=>?_
 refine o0x2 (Prod.mk.inj c2) fun c2 c3=>?_
 refine⟨_,kX P a,je Y lv.1,bC (zd P) am,f1.trans st.1,f2.trans (congrArg _ st.2.1),f3,f4,f5,⟨a - 1,_,_,_,c1,je Y lv.2,c2,List.getElem?_toArray.trans c3⟩,fun vals hl=>?_⟩
 ·have hn:(kX P a).params.args.length=vals.length:=by(refine af hl ?_;refine br st.2.2 ?_;refine af e2 ?_;rw[List.length_map])
  have l8:vals.length≤8:=hn▸Nat.le_of_ble_eq_true (List.all_eq_true.mp (Ch P) a am)
  have:=congrFun (congrFun (congrFun (congrFun (congrFun (congrFun (congrFun (congrFun (zf P) (vals.getD 0 .none)) (vals.getD 1 .none)) (vals.getD 2 .none)) (vals.getD 3 .none)) (vals.getD 4 .none)) (vals.getD 5 .none)) (vals.getD 6 .none)) (vals.getD 7 .none)
  have this:bindArgs (kX P a) ⟨(BC vals).take (kX P a).params.args.length,[]⟩=pure (((kX P a).params.args.map (·.arg)).zip ((BC vals).take (kX P a).params.args.length)):=bC this am
  (rewrite[hn] at this;rewrite[sY l8] at this;rewrite[e2] at this;rw[st.2.2] at this)
  exact this
theorem D5(Y:mG P h):(KF P).In h:=by
 intro a o e
 have:∀ l:List Nat,(∀ x ∈ l,x ∈ kL)→(l.map fun a=>(a,fi P a)).lookup a=some o→h.get? a=some o:=by
  intro l
  induction l with
  |nil=>intro _ e;exact ns e
  |cons b l ih=>
   intro hm e
   (rewrite[List.map_cons] at e;rw[List.lookup_cons] at e)
   induction q:a == b using Bool.casesOn with
   |true=>
    rw[q] at e
    refine br (aP e) ?_
    cases beq_iff_eq.mp q
    exact je Y (List.mem_append_left _ (List.mem_append_left _ (List.mem_append_left _ (hm a (.head _)))))
   |false=>rw[q] at e;exact ih (fun x hx=>hm x (.tail _ hx)) e
 exact this kL (fun za h=>h) e
theorem Ce{n:Nat}{a:Addr}(h:(GG p al).fn n=some a):a ∈ ow:=List.mem_of_getElem? h
theorem oM{c f a:Nat}(e:(GG p al).mt c f=some a):((c,f),a) ∈ ou:=by
 have:∀ l:List ((Nat×Nat)×Nat),l.lookup (c,f)=some a→((c,f),a) ∈ l:=by
  intro l
  induction l with
  |nil=>intro e;exact ns e
  |cons x l ih=>
   intro e
   rw[List.lookup_cons] at e
   cases q:(c,f) == x.1 with
   |true=>rw[q] at e;refine br (aP e) ?_;refine af (beq_iff_eq.mp q) ?_;exact .head _
   |false=>rw[q] at e;exact .tail _ (ih e)
 exact this ou e
theorem qw{c C:Nat}(hc:cZ c=true)(e:(GG p al).fn c=some C):(c,C) ∈ kD:=by
 have hc:=dg hc
 have l:=of_decide_eq_true hc.1
 have u:=of_decide_eq_true hc.2
 have t:∀ i,i<11→kD[i]? = some (i+78,ow.getD (i+78) 0):=by decide
 have:=List.mem_of_getElem? (t (c - 78) (Nat.sub_lt_left_of_lt_add l u))
 (rewrite[Nat.sub_add_cancel l] at this;rewrite[List.getD_eq_getElem?_getD] at this;rw[show ow[c]? = some C from e] at this)
 exact this
end
section
variable {P:Params} {w:World} {h:Heap} {p:Addr} {al:List V}
theorem wT{c C:Nat}(hc:cZ c=true)(e:(GG p al).fn c=some C):qL (KF P) c C:=by
 have m:=qw hc e
 refine o0x2 (Prod.mk.inj (bC (qz P) m)) fun f1 f2=>?_
 refine o0x2 (Prod.mk.inj f2) fun f2 f3=>?_
 refine o0x2 (Prod.mk.inj f3) fun f3 f4=>?_
 refine⟨f1,f2,bC (Cr P) m,f3,fun x hx=>?_⟩
 refine o0x2 (Prod.mk.inj (bC (bC (zx P) m) (List.contains_iff_mem.mp hx))) fun a1 a2=>?_
 exact⟨a1,none,a2,rfl⟩
theorem BG:fP.all (fun k=>(ou.lookup k).isSome && !(bk k.1).contains k.2 && decide (k.2<NT))=true:=by kernel_rfl
theorem wn:∀ c,c<89→78≤c→gH c=(ou.lookup (c,89)).isSome:=by decide +kernel
theorem y6(Y:mG w.params h)(hA:lr (GG p al) h):gL MineH.pg w (KF w.params) (GG p al) h where
 X:=D5 Y
 sys:=⟨_,je Y (List.mem_append_left _ (List.mem_append_right _ (by decide)):1 ∈ rY)⟩
 gd:=B7 Y
 arg:=hA
 lim:=⟨_,qe Y (by decide:2 ∈ [0,2,3]),Cn w.params⟩
 glob:=wx Y
 cls:=fun c C hc e=>wT hc e
 make:=fun c C hc e=>by
  have m:=qw hc e
  refine o0x2 (Prod.mk.inj (bC (qz w.params) m)) fun za f2=>?_
  refine o0x2 (Prod.mk.inj f2) fun za f3=>?_
  refine o0x2 (Prod.mk.inj f3) fun za f4=>?_
  refine o0x2 (Prod.mk.inj f4) fun f4 f5=>?_
  have i:=bC (zw w.params) m
  have hc':=dg hc
  have hi:=wn c (of_decide_eq_true hc'.2) (of_decide_eq_true hc'.1)
  refine⟨f4,f5,?_⟩
  cases g:ou.lookup (c,89) with
  |none=>rw[g] at hi i;refine af hi ?_;exact i
  |some a=>rw[g] at hi i;refine af hi ?_;exact⟨a,g,i⟩
 meth:=fun c f a e=>Prod.mk.inj (bC (DT w.params) (oM e))
 meths:=fun c f C hm e za=>by
  have k:=dg (List.all_eq_true.mp BG _ (List.contains_iff_mem.mp hm))
  have k1:=dg k.1
  refine aH (Option.isSome_iff_exists.mp k1.1) fun a ha=>?_
  have i:=bC (yC w.params) (oM (p:=p) (al:=al) ha)
  have e':ow.getD c 0=C:=by
   refine ak (List.getD_eq_getElem?_getD) ?_;exact congrArg (Option.getD · 0) e
  rw[e'] at i
  exact⟨a,ha,i,(Bool.not_eq_true' _).mp k1.2,of_decide_eq_true k.2⟩
 fnk:=fun f a za e=>bC (zb w.params) (Ce e)
 fnd:=fun f fd a hf e=>by
  have lt:f<78:=by
   delta pe at hf
   dsimp only at hf
   split at hf
   ·assumption
   ·exact ns hf
  have hk:Db[f]? = some (none,f):=by
   skip
   (refine ak (List.getElem?_append_left (by rw[List.length_map,List.length_range];exact lt)) ?_;refine ak (List.getElem?_map) ?_;refine af (List.getElem?_range lt) ?_);rfl
  have ha:qG[f]? = some a:=by
   skip
   (refine ak (List.getElem?_append_left (by rw[List.length_take];exact Nat.lt_of_lt_of_le lt (by decide))) ?_;refine ak (List.getElem?_take) ?_;refine ak (aG lt) ?_);exact e
  exact xx Y hk ha hf
 mtd:=fun c f fd a hf e=>by
  obtain⟨i,li,ei⟩:=List.getElem_of_mem (oM (p:=p) (al:=al) e)
  have gi:ou[i]? = some ((c,f),a):=ei▸List.getElem?_eq_getElem li
  have hk:Db[78+i]? = some (some c,f):=by
   skip
   (refine ak (List.getElem?_append_right (by rw[List.length_map,List.length_range];exact Nat.le_add_right _ _)) ?_;rewrite[List.length_map];refine af List.length_range ?_;rewrite[Nat.add_sub_cancel_left];refine ak (List.getElem?_map) ?_;refine af gi ?_);rfl
  have ha:qG[78+i]? = some a:=by
   skip
   have l:(ow.take 78).length=78:=by decide
   (refine ak (List.getElem?_append_right (l▸Nat.le_add_right _ _)) ?_;refine af l ?_;rewrite[Nat.add_sub_cancel_left];refine ak (List.getElem?_map) ?_;refine af gi ?_);rfl
  exact xx Y hk ha hf
end
theorem vK{h:Heap}{a:Addr}{m m':Str→Option Value}(x:h.Ns a m)(y:h.Ns a m')(n:Str):m n=m' n:=by
 refine o3x4 x fun o es ep h1 h2 za h3=>?_;clear x
 refine o3x4 y fun o' es' ep' h1' h2' za h3'=>?_;clear y
 cases h1.symm.trans h1'
 cases h2.symm.trans h2'
 (rewrite[← h3];rw[← h3'])
theorem yR(P:Params):nsFind (fQ P 3) MineH.dLaw.name=some (.ref 1035):=by kernel_rfl
theorem sR{p p':Addr}{al al':List V}{h:Heap}:∀ {vs:List Value} {l:List Int},bw (GG p al) h vs (aM l)→bw (GG p' al') h vs (aM l):=by
 intro vs
 induction vs with
 |nil=>intro l r;induction l using List.casesOn with
  |nil=>exact .nil
  |cons _ _=>cases r
 |cons v vs ih=>intro l r;induction l using List.casesOn with
  |nil=>cases r
  |cons i l=>cases r with
   |cons a r=>refine aH a.int_inv fun t e1=>?_;refine af e1 ?_;exact .cons (.int i t) (ih r)
theorem wm{P:Params}{G:GT}{h:Heap}:∀ {ds:List WData} {vs:List Value},WellAll P h vs ds→(∀ d ∈ ds,∃ i,d=.int i)→∃ l:List Int,bw G h vs (aM l)∧l.length=ds.length:=by
 intro ds
 induction ds with
 |nil=>intro vs w _;cases w;exact⟨[],.nil,rfl⟩
 |cons d ds ih=>
  intro vs w hd
  cases w with
  |cons r rs=>
   refine o1x2 (ih rs fun d h=>hd d (.tail _ h)) fun l hl e=>?_
   refine aH (hd _ (.head _)) fun i e1=>?_;obtain rfl:=e1
   cases r with
   |int i t=>exact⟨i::l,.cons (.int i t) hl,congrArg (· + 1) e⟩
theorem rp{R:WRecords}{ds:List WData}:WShape.hasItems R ds .int=true→∀ d ∈ ds,∃ i,d=WData.int i:=by
 induction ds with
 |nil=>intro _ d hd;cases hd
 |cons x ds ih=>
  intro hi d hd
  have hi:=dg (a:=WShape.has R x .int) (b:=WShape.hasItems R ds .int) hi
  rcases List.mem_cons.mp hd with e | e
  ·refine af e ?_;exact hasW_int hi.1
  ·exact ih hi.2 d e
theorem w4{args:List WData}(h:MineH.rw_.row.toRowW.claim.pre args=true):∃ ds,args=[.list ds]∧(∀ d ∈ ds,∃ i,d=WData.int i)∧ds.length≤63:=by
 have h:=pre_splitW h
 refine o2x2 (hasAllW_cons h.1) fun d r e2 q9=>?_;obtain rfl:=e2;refine o0x2 q9 fun h1 h2=>?_;clear q9
 cases hasAllW_nil h2
 refine o1x2 (hasW_list h1) fun ds e1 hi=>?_;obtain rfl:=e1
 refine⟨ds,rfl,fun d hd=>?_,?_⟩
 ·exact rp hi d hd
 ·refine Nat.le_of_not_lt fun hlt=>?_
  have h3:(match(match(match(some (WData.bool (decide ((63:Int)<(ds.length:Int)))):Option WData) with | some (.bool b)=>some (WData.bool (!b)) | _=>none) with | some (.bool false)=>some (WData.bool false) | some (.bool true)=>some (WData.bool true) | _=>none) with | some (.bool true)=>true | _=>false)=true:=h.2
  have e63:decide ((63:Int)<(ds.length:Int))=true:=bR (Int.ofNat_lt.mpr hlt)
  rw[e63] at h3
  exact ff h3
theorem walk_:WalkO MineH.vq MineH.names (fun za za=>True) MineH.YP MineH.rw_.row.toRowW MineH.dLaw [] fun f vs=>PySem.call f vs:=by
 intro w s₀ sa mg mb Gr Y a o pm cd doc dV kV ha ho hc hD hmg hg args vals as hpre hlay hr hw hsys
 refine o1x2 (w4 hpre) fun ds e1 q9=>?_;obtain rfl:=e1;refine o0x2 q9 fun hi hl=>?_;clear q9
 cases hw with
 |cons hv hn=>
  cases hn
  cases hv with
  |@list p vs _ hp hall=>
   refine o1x2 (wm (G:=GG 0 []) hall hi) fun l rl el=>?_
   have rl':bw (GG p (aM l)) sa.heap vs (aM l):=sR rl
   have hA:lr (GG p (aM l)) sa.heap:=⟨vs.toArray,0,hp,rl',by(refine af (show(GG p (aM l)).argl=aM l from rfl) ?_;refine af bz ?_;refine af el ?_);exact Nat.le_trans hl (by decide)⟩
   have D:=y6 (w:=w) (h:=sa.heap) Y hA
   have e:=(vK (qe (P:=w.params) Y (a:=3) (by decide)) Gr.T.g MineH.dLaw.name).symm.trans (yR w.params)
   rw[hmg] at e
   cases e
   have S:St w.params (GG p (aM l)) sa.heap (fun za=>none) sa.heap:=⟨fun za za h=>(nomatch h),fun za za za h=>(nomatch h),fun b ob=>(by rcases ob with h | ⟨_,_,h⟩<;>first | exact absurd rfl h | exact ns h),fun b o e=>e⟩
   refine wpAny_mono (qy (n:=11) (Q:=fun v za=>v=.bool true) (X:=fun za za=>False) D (n0 D 11) (A:=callerA) ⟨rfl,by decide,by decide⟩ (f:=.ref 1035) (g:=.fn 77) (.fn rfl) (.cons (bg.arg (G:=GG p (aM l))) .nil) S (mx rfl (yQ (n:=0) fun za=>rfl))) (fun v s' p0=>?_) fun za za h=>h.elim
   refine o2x3 p0 fun x Z' ex rx g=>?_;clear p0
   subst ex
   obtain rfl:=rx.bool_inv
   refine o2x1 g.eq fun h' tk e'=>?_
   refine⟨.inl ⟨.bool true,.bool true,[],rfl,fun za=>rfl,.bool true,by kernel_rfl,fun za=>⟨List.nodup_nil,fun za h=>nomatch h⟩⟩,.of_keep fun b o e=>g.eff.keep b o e fun q=>?_,by(refine af e' ?_;with_reducible rfl),by refine af e' ?_;exact .of_eq hg⟩
   rcases q with h | ⟨_,_,h⟩<;>first | exact absurd rfl h | exact ns h
end Mine
theorem PySem.Challenge.cw_xm0296_01_holds : PySem.Challenge.rw_xm0296_01.Holds :=
 MineH.head_ Mine.walk_
