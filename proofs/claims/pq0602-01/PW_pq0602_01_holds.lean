import PyProof.Rows.All
import Wide.All
import OpenK.AllK
import Wide.FinOn
import KE.KSortTup
import Lean
import PySem.Challenge.RW_pq0602_01
set_option maxRecDepth 100000
set_option autoImplicit false
set_option linter.all false
set_option genSizeOfSpec false
set_option tactic.hygienic false
set_option maxHeartbeats 4000000
set_option synthInstance.maxSize 100000
set_option synthInstance.maxHeartbeats 0
set_option Elab.async false
namespace Lz
open PySem PySem.W PyProof.Rows PySem.Spec
open PySem.Str (ofString)
section
theorem xA{A:Prop}{B:Prop}{q:Prop}(h:A∧B)(k:A→B→q):q:=by
 obtain⟨x0,x1⟩:=h
 exact k x0 x1
theorem xE{α:Sort _}{A:α→Prop}{q:Prop}(h:∃a,A a)(k:∀a,A a→q):q:=by
 obtain⟨x0,x1⟩:=h
 exact k x0 x1
theorem dF{A:Prop}{B:Prop}{C:Prop}{q:Prop}(h:A∧B∧C)(k:A→B→C→q):q:=by
 obtain⟨x0,x1,x2⟩:=h
 exact k x0 x1 x2
theorem aF{α:Sort _}{A:α→Prop}{B:α→Prop}{q:Prop}(h:∃a,A a∧B a)(k:∀a,A a→B a→q):q:=by
 obtain⟨x0,x1,x2⟩:=h
 exact k x0 x1 x2
theorem jm{α β:Sort _}{A:α→β→Prop}{q:Prop}(h:∃a,∃b,A a b)(k:∀a,∀b,A a b→q):q:=by
 obtain⟨x0,x1,x2⟩:=h
 exact k x0 x1 x2
theorem ck{α:Sort _}{A:Prop}{B:α→Prop}{C:α→Prop}{q:Prop}(h:A∧∃a,B a∧C a)(k:A→∀a,B a→C a→q):q:=by
 obtain⟨x0,x1,x2,x3⟩:=h
 exact k x0 x1 x2 x3
theorem cz{α:Sort _}{A:α→Prop}{B:α→Prop}{C:α→Prop}{q:Prop}(h:∃a,A a∧B a∧C a)(k:∀a,A a→B a→C a→q):q:=by
 obtain⟨x0,x1,x2,x3⟩:=h
 exact k x0 x1 x2 x3
theorem eB{α β:Sort _}{A:α→β→Prop}{B:α→β→Prop}{q:Prop}(h:∃a,∃b,A a b∧B a b)(k:∀a,∀b,A a b→B a b→q):q:=by
 obtain⟨x0,x1,x2,x3⟩:=h
 exact k x0 x1 x2 x3
theorem mS{α:Sort _}{A:Prop}{B:α→Prop}{C:α→Prop}{D:α→Prop}{q:Prop}(h:A∧∃a,B a∧C a∧D a)(k:A→∀a,B a→C a→D a→q):q:=by
 obtain⟨x0,x1,x2,x3,x4⟩:=h
 exact k x0 x1 x2 x3 x4
theorem mR{α:Sort _}{A:α→Prop}{B:α→Prop}{C:α→Prop}{D:α→Prop}{q:Prop}(h:∃a,A a∧B a∧C a∧D a)(k:∀a,A a→B a→C a→D a→q):q:=by
 obtain⟨x0,x1,x2,x3,x4⟩:=h
 exact k x0 x1 x2 x3 x4
theorem fS{α β:Sort _}{A:α→Prop}{B:α→β→Prop}{C:α→β→Prop}{q:Prop}(h:∃a,A a∧∃b,B a b∧C a b)(k:∀a,A a→∀b,B a b→C a b→q):q:=by
 obtain⟨x0,x1,x2,x3,x4⟩:=h
 exact k x0 x1 x2 x3 x4
theorem bB{α β:Sort _}{A:α→β→Prop}{B:α→β→Prop}{C:α→β→Prop}{q:Prop}(h:∃a,∃b,A a b∧B a b∧C a b)(k:∀a,∀b,A a b→B a b→C a b→q):q:=by
 obtain⟨x0,x1,x2,x3,x4⟩:=h
 exact k x0 x1 x2 x3 x4
theorem gf{α β γ:Sort _}{A:α→β→γ→Prop}{B:α→β→γ→Prop}{q:Prop}(h:∃a,∃b,∃c,A a b c∧B a b c)(k:∀a,∀b,∀c,A a b c→B a b c→q):q:=by
 obtain⟨x0,x1,x2,x3,x4⟩:=h
 exact k x0 x1 x2 x3 x4
theorem dZ{α β:Sort _}{A:Prop}{B:α→β→Prop}{C:α→β→Prop}{D:α→β→Prop}{q:Prop}(h:A∧∃a,∃b,B a b∧C a b∧D a b)(k:A→∀a,∀b,B a b→C a b→D a b→q):q:=by
 obtain⟨x0,x1,x2,x3,x4,x5⟩:=h
 exact k x0 x1 x2 x3 x4 x5
theorem oo{α β γ:Sort _}{A:Prop}{B:α→β→γ→Prop}{C:α→β→γ→Prop}{q:Prop}(h:A∧∃a,∃b,∃c,B a b c∧C a b c)(k:A→∀a,∀b,∀c,B a b c→C a b c→q):q:=by
 obtain⟨x0,x1,x2,x3,x4,x5⟩:=h
 exact k x0 x1 x2 x3 x4 x5
theorem cy{α β:Sort _}{A:α→β→Prop}{B:α→β→Prop}{C:α→β→Prop}{D:α→β→Prop}{q:Prop}(h:∃a,∃b,A a b∧B a b∧C a b∧D a b)(k:∀a,∀b,A a b→B a b→C a b→D a b→q):q:=by
 obtain⟨x0,x1,x2,x3,x4,x5⟩:=h
 exact k x0 x1 x2 x3 x4 x5
theorem fE{α β γ:Sort _}{A:α→β→γ→Prop}{B:α→β→γ→Prop}{C:α→β→γ→Prop}{q:Prop}(h:∃a,∃b,∃c,A a b c∧B a b c∧C a b c)(k:∀a,∀b,∀c,A a b c→B a b c→C a b c→q):q:=by
 obtain⟨x0,x1,x2,x3,x4,x5⟩:=h
 exact k x0 x1 x2 x3 x4 x5
theorem iu{A:Prop}{B:Prop}{C:Prop}{D:Prop}{E:Prop}{F:Prop}{G:Prop}{q:Prop}(h:A∧B∧C∧D∧E∧F∧G)(k:A→B→C→D→E→F→G→q):q:=by
 obtain⟨x0,x1,x2,x3,x4,x5,x6⟩:=h
 exact k x0 x1 x2 x3 x4 x5 x6
theorem eO{α β:Sort _}{A:α→β→Prop}{B:α→β→Prop}{C:α→β→Prop}{D:α→β→Prop}{E:α→β→Prop}{q:Prop}(h:∃a,∃b,A a b∧B a b∧C a b∧D a b∧E a b)(k:∀a,∀b,A a b→B a b→C a b→D a b→E a b→q):q:=by
 obtain⟨x0,x1,x2,x3,x4,x5,x6⟩:=h
 exact k x0 x1 x2 x3 x4 x5 x6
theorem cp{α β γ:Sort _}{A:α→β→γ→Prop}{B:α→β→γ→Prop}{C:α→β→γ→Prop}{D:α→β→γ→Prop}{q:Prop}(h:∃a,∃b,∃c,A a b c∧B a b c∧C a b c∧D a b c)(k:∀a,∀b,∀c,A a b c→B a b c→C a b c→D a b c→q):q:=by
 obtain⟨x0,x1,x2,x3,x4,x5,x6⟩:=h
 exact k x0 x1 x2 x3 x4 x5 x6
theorem fu{α β γ δ:Sort _}{A:α→β→γ→δ→Prop}{B:α→β→γ→δ→Prop}{C:α→β→γ→δ→Prop}{q:Prop}(h:∃a,∃b,∃c,∃d,A a b c d∧B a b c d∧C a b c d)(k:∀a,∀b,∀c,∀d,A a b c d→B a b c d→C a b c d→q):q:=by
 obtain⟨x0,x1,x2,x3,x4,x5,x6⟩:=h
 exact k x0 x1 x2 x3 x4 x5 x6
theorem vB{α β:Sort _}{A:Prop}{B:Prop}{C:α→β→Prop}{D:α→β→Prop}{E:α→β→Prop}{F:α→β→Prop}{q:Prop}(h:A∧B∧∃a,∃b,C a b∧D a b∧E a b∧F a b)(k:A→B→∀a,∀b,C a b→D a b→E a b→F a b→q):q:=by
 obtain⟨x0,x1,x2,x3,x4,x5,x6,x7⟩:=h
 exact k x0 x1 x2 x3 x4 x5 x6 x7
theorem fC{α β γ:Sort _}{A:α→β→γ→Prop}{B:α→β→γ→Prop}{C:α→β→γ→Prop}{D:α→β→γ→Prop}{E:α→β→γ→Prop}{F:α→β→γ→Prop}{q:Prop}(h:∃a,∃b,∃c,A a b c∧B a b c∧C a b c∧D a b c∧E a b c∧F a b c)(k:∀a,∀b,∀c,A a b c→B a b c→C a b c→D a b c→E a b c→F a b c→q):q:=by
 obtain⟨x0,x1,x2,x3,x4,x5,x6,x7,x8⟩:=h
 exact k x0 x1 x2 x3 x4 x5 x6 x7 x8
theorem be{α β γ δ:Sort _}{A:α→β→γ→δ→Prop}{B:α→β→γ→δ→Prop}{C:α→β→γ→δ→Prop}{D:α→β→γ→δ→Prop}{E:α→β→γ→δ→Prop}{q:Prop}(h:∃a,∃b,∃c,∃d,A a b c d∧B a b c d∧C a b c d∧D a b c d∧E a b c d)(k:∀a,∀b,∀c,∀d,A a b c d→B a b c d→C a b c d→D a b c d→E a b c d→q):q:=by
 obtain⟨x0,x1,x2,x3,x4,x5,x6,x7,x8⟩:=h
 exact k x0 x1 x2 x3 x4 x5 x6 x7 x8
theorem fD{α β γ δ:Sort _}{A:α→β→γ→δ→Prop}{B:α→β→γ→δ→Prop}{C:α→β→γ→δ→Prop}{D:α→β→γ→δ→Prop}{E:α→β→γ→δ→Prop}{F:α→β→γ→δ→Prop}{q:Prop}(h:∃a,∃b,∃c,∃d,A a b c d∧B a b c d∧C a b c d∧D a b c d∧E a b c d∧F a b c d)(k:∀a,∀b,∀c,∀d,A a b c d→B a b c d→C a b c d→D a b c d→E a b c d→F a b c d→q):q:=by
 obtain⟨x0,x1,x2,x3,x4,x5,x6,x7,x8,x9⟩:=h
 exact k x0 x1 x2 x3 x4 x5 x6 x7 x8 x9
theorem fU{α β γ:Sort _}{A:Prop}{B:Prop}{C:Prop}{D:α→β→γ→Prop}{E:α→β→γ→Prop}{F:α→β→γ→Prop}{G:α→β→γ→Prop}{H:α→β→γ→Prop}{q:Prop}(h:A∧B∧C∧∃a,∃b,∃c,D a b c∧E a b c∧F a b c∧G a b c∧H a b c)(k:A→B→C→∀a,∀b,∀c,D a b c→E a b c→F a b c→G a b c→H a b c→q):q:=by
 obtain⟨x0,x1,x2,x3,x4,x5,x6,x7,x8,x9,x10⟩:=h
 exact k x0 x1 x2 x3 x4 x5 x6 x7 x8 x9 x10
theorem iE{α:Sort _}{A:α→Prop}(a)(x0:A a):∃a,A a:=⟨a,x0⟩
theorem dx{A:Prop}{B:Prop}{C:Prop}(x0:A)(x1:B)(x2:C):A∧B∧C:=⟨x0,x1,x2⟩
theorem vy{α:Sort _}{A:Prop}{B:α→Prop}(x0:A)(a)(x1:B a):A∧∃a,B a:=⟨x0,a,x1⟩
theorem aP{α:Sort _}{A:α→Prop}{B:α→Prop}(a)(x0:A a)(x1:B a):∃a,A a∧B a:=⟨a,x0,x1⟩
theorem mD{α β:Sort _}{A:α→β→Prop}(a)(b)(x0:A a b):∃a,∃b,A a b:=⟨a,b,x0⟩
theorem fw{A:Prop}{B:Prop}{C:Prop}{D:Prop}(x0:A)(x1:B)(x2:C)(x3:D):A∧B∧C∧D:=⟨x0,x1,x2,x3⟩
theorem gp{α:Sort _}{A:Prop}{B:α→Prop}{C:α→Prop}(x0:A)(a)(x1:B a)(x2:C a):A∧∃a,B a∧C a:=⟨x0,a,x1,x2⟩
theorem bP{α:Sort _}{A:α→Prop}{B:α→Prop}{C:α→Prop}(a)(x0:A a)(x1:B a)(x2:C a):∃a,A a∧B a∧C a:=⟨a,x0,x1,x2⟩
theorem fP{α β:Sort _}{A:α→β→Prop}{B:α→β→Prop}(a)(b)(x0:A a b)(x1:B a b):∃a,∃b,A a b∧B a b:=⟨a,b,x0,x1⟩
theorem nJ{α:Sort _}{A:Prop}{B:Prop}{C:α→Prop}{D:α→Prop}(x0:A)(x1:B)(a)(x2:C a)(x3:D a):A∧B∧∃a,C a∧D a:=⟨x0,x1,a,x2,x3⟩
theorem cf{α:Sort _}{A:Prop}{B:α→Prop}{C:α→Prop}{D:α→Prop}(x0:A)(a)(x1:B a)(x2:C a)(x3:D a):A∧∃a,B a∧C a∧D a:=⟨x0,a,x1,x2,x3⟩
theorem lV{α:Sort _}{A:α→Prop}{B:α→Prop}{C:α→Prop}{D:α→Prop}(a)(x0:A a)(x1:B a)(x2:C a)(x3:D a):∃a,A a∧B a∧C a∧D a:=⟨a,x0,x1,x2,x3⟩
theorem fq{α β:Sort _}{A:α→Prop}{B:α→Prop}{C:α→β→Prop}(a)(x0:A a)(x1:B a)(b)(x2:C a b):∃a,A a∧B a∧∃b,C a b:=⟨a,x0,x1,b,x2⟩
theorem gn{α β:Sort _}{A:α→Prop}{B:α→β→Prop}{C:α→β→Prop}(a)(x0:A a)(b)(x1:B a b)(x2:C a b):∃a,A a∧∃b,B a b∧C a b:=⟨a,x0,b,x1,x2⟩
theorem bH{α β:Sort _}{A:α→β→Prop}{B:α→β→Prop}{C:α→β→Prop}(a)(b)(x0:A a b)(x1:B a b)(x2:C a b):∃a,∃b,A a b∧B a b∧C a b:=⟨a,b,x0,x1,x2⟩
theorem jE{α β γ:Sort _}{A:α→β→γ→Prop}{B:α→β→γ→Prop}(a)(b)(c)(x0:A a b c)(x1:B a b c):∃a,∃b,∃c,A a b c∧B a b c:=⟨a,b,c,x0,x1⟩
theorem gJ{α β:Sort _}{A:Prop}{B:α→β→Prop}{C:α→β→Prop}{D:α→β→Prop}(x0:A)(a)(b)(x1:B a b)(x2:C a b)(x3:D a b):A∧∃a,∃b,B a b∧C a b∧D a b:=⟨x0,a,b,x1,x2,x3⟩
theorem so{α β γ:Sort _}{A:Prop}{B:α→β→γ→Prop}{C:α→β→γ→Prop}(x0:A)(a)(b)(c)(x1:B a b c)(x2:C a b c):A∧∃a,∃b,∃c,B a b c∧C a b c:=⟨x0,a,b,c,x1,x2⟩
theorem cQ{α β:Sort _}{A:α→β→Prop}{B:α→β→Prop}{C:α→β→Prop}{D:α→β→Prop}(a)(b)(x0:A a b)(x1:B a b)(x2:C a b)(x3:D a b):∃a,∃b,A a b∧B a b∧C a b∧D a b:=⟨a,b,x0,x1,x2,x3⟩
theorem ii{α β γ:Sort _}{A:α→β→γ→Prop}{B:α→β→γ→Prop}{C:α→β→γ→Prop}(a)(b)(c)(x0:A a b c)(x1:B a b c)(x2:C a b c):∃a,∃b,∃c,A a b c∧B a b c∧C a b c:=⟨a,b,c,x0,x1,x2⟩
theorem pA{α β:Sort _}{A:Prop}{B:α→β→Prop}{C:α→β→Prop}{D:α→β→Prop}{E:α→β→Prop}(x0:A)(a)(b)(x1:B a b)(x2:C a b)(x3:D a b)(x4:E a b):A∧∃a,∃b,B a b∧C a b∧D a b∧E a b:=⟨x0,a,b,x1,x2,x3,x4⟩
theorem dC{α β:Sort _}{A:α→β→Prop}{B:α→β→Prop}{C:α→β→Prop}{D:α→β→Prop}{E:α→β→Prop}(a)(b)(x0:A a b)(x1:B a b)(x2:C a b)(x3:D a b)(x4:E a b):∃a,∃b,A a b∧B a b∧C a b∧D a b∧E a b:=⟨a,b,x0,x1,x2,x3,x4⟩
theorem cP{α β γ:Sort _}{A:α→β→γ→Prop}{B:α→β→γ→Prop}{C:α→β→γ→Prop}{D:α→β→γ→Prop}(a)(b)(c)(x0:A a b c)(x1:B a b c)(x2:C a b c)(x3:D a b c):∃a,∃b,∃c,A a b c∧B a b c∧C a b c∧D a b c:=⟨a,b,c,x0,x1,x2,x3⟩
theorem dU{α β γ δ:Sort _}{A:α→β→γ→δ→Prop}{B:α→β→γ→δ→Prop}{C:α→β→γ→δ→Prop}(a)(b)(c)(d)(x0:A a b c d)(x1:B a b c d)(x2:C a b c d):∃a,∃b,∃c,∃d,A a b c d∧B a b c d∧C a b c d:=⟨a,b,c,d,x0,x1,x2⟩
theorem cV{α β γ:Sort _}{A:α→β→γ→Prop}{B:α→β→γ→Prop}{C:α→β→γ→Prop}{D:α→β→γ→Prop}{E:α→β→γ→Prop}(a)(b)(c)(x0:A a b c)(x1:B a b c)(x2:C a b c)(x3:D a b c)(x4:E a b c):∃a,∃b,∃c,A a b c∧B a b c∧C a b c∧D a b c∧E a b c:=⟨a,b,c,x0,x1,x2,x3,x4⟩
theorem dB{α β γ:Sort _}{A:α→β→γ→Prop}{B:α→β→γ→Prop}{C:α→β→γ→Prop}{D:α→β→γ→Prop}{E:α→β→γ→Prop}{F:α→β→γ→Prop}(a)(b)(c)(x0:A a b c)(x1:B a b c)(x2:C a b c)(x3:D a b c)(x4:E a b c)(x5:F a b c):∃a,∃b,∃c,A a b c∧B a b c∧C a b c∧D a b c∧E a b c∧F a b c:=⟨a,b,c,x0,x1,x2,x3,x4,x5⟩
theorem gm{α β γ δ:Sort _}{A:α→β→γ→δ→Prop}{B:α→β→γ→δ→Prop}{C:α→β→γ→δ→Prop}{D:α→β→γ→δ→Prop}{E:α→β→γ→δ→Prop}(a)(b)(c)(d)(x0:A a b c d)(x1:B a b c d)(x2:C a b c d)(x3:D a b c d)(x4:E a b c d):∃a,∃b,∃c,∃d,A a b c d∧B a b c d∧C a b c d∧D a b c d∧E a b c d:=⟨a,b,c,d,x0,x1,x2,x3,x4⟩
theorem dp{α β γ δ:Sort _}{A:α→β→γ→δ→Prop}{B:α→β→γ→δ→Prop}{C:α→β→γ→δ→Prop}{D:α→β→γ→δ→Prop}{E:α→β→γ→δ→Prop}{F:α→β→γ→δ→Prop}(a)(b)(c)(d)(x0:A a b c d)(x1:B a b c d)(x2:C a b c d)(x3:D a b c d)(x4:E a b c d)(x5:F a b c d):∃a,∃b,∃c,∃d,A a b c d∧B a b c d∧C a b c d∧D a b c d∧E a b c d∧F a b c d:=⟨a,b,c,d,x0,x1,x2,x3,x4,x5⟩
theorem b8{α β γ δ:Sort _}{A:Prop}{B:α→Prop}{C:α→β→γ→δ→Prop}{D:α→β→γ→δ→Prop}{E:α→β→γ→δ→Prop}{F:α→β→γ→δ→Prop}{G:α→β→γ→δ→Prop}(x0:A)(a)(x1:B a)(b)(c)(d)(x2:C a b c d)(x3:D a b c d)(x4:E a b c d)(x5:F a b c d)(x6:G a b c d):A∧∃a,B a∧∃b,∃c,∃d,C a b c d∧D a b c d∧E a b c d∧F a b c d∧G a b c d:=⟨x0,a,x1,b,c,d,x2,x3,x4,x5,x6⟩
theorem nS{α:Type _}{a:α}{q:Prop}(h: @Eq (Option α) none (some a)):q:=by cases h
theorem sN{α:Type _}{a:α}{q:Prop}(h: @Eq (Option α) (some a) none):q:=by cases h
theorem tF{q:Prop}(h:true=false):q:=by cases h
theorem fT{q:Prop}(h:false=true):q:=by cases h
theorem nM{α:Type _}{a:α}{q:Prop}(h:a∈([]:List α)):q:=by cases h
theorem sI{α:Type _}{a b:α}(h:some a=some b):a=b:=Option.some.inj h
@[elab_as_elim] theorem rE{α:Sort _}{a b:α}{m:α→Prop}(e:a=b)(h:m b):m a:=by subst e;exact h
@[elab_as_elim] theorem rF{α:Sort _}{a b:α}{m:α→Prop}(e:b=a)(h:m b):m a:=by subst e;exact h
theorem oC{α:Type _}{q:Prop}{o:Option α}(k:o=none→q)(k2:∀x,o=some x→q):q:=o.rec (motive:=fun x=>o=x→q) k (fun x=>k2 x) rfl
theorem oS{α:Type _}{q:Prop}{o:Option α}(k2:∀x,o=some x→q)(k:o=none→q):q:=oC k k2
theorem bT{q:Prop}{b:Bool}(k:b=true→q)(k2:b=false→q):q:=b.rec (motive:=fun x=>b=x→q) k2 k rfl
theorem bF{q:Prop}{b:Bool}(k2:b=false→q)(k:b=true→q):q:=bT k k2
@[elab_as_elim] theorem oD{α:Type _}{m:Option α→Prop}{o:Option α}(k:o=none→m none)(k2:∀x,o=some x→m (some x)):m o:=o.rec (motive:=fun x=>o=x→m x) k (fun x=>k2 x) rfl
@[elab_as_elim] theorem oE{α:Type _}{m:Option α→Prop}{o:Option α}(k2:∀x,o=some x→m (some x))(k:o=none→m none):m o:= @oD _ m o k k2
@[elab_as_elim] theorem bD{m:Bool→Prop}{b:Bool}(k:b=true→m true)(k2:b=false→m false):m b:=b.rec (motive:=fun x=>b=x→m x) k2 k rfl
@[elab_as_elim] theorem bE{m:Bool→Prop}{b:Bool}(k2:b=false→m false)(k:b=true→m true):m b:= @bD m b k k2
theorem bc{p:Prop}(h:¬p→False):p:=Classical.byContradiction h
@[irreducible] noncomputable def eE{A:Type}(i:Nonempty A)(p:A→Prop):A:= @Classical.epsilon A i fun x=>¬p x
theorem gM{A:Type}(i:Nonempty A){p:A→Prop}(h:p (eE i p))(a:A):p a:=by delta eE at h;exact bc fun q=> @Classical.epsilon_spec_aux A i (fun x=>¬p x) ⟨a,q⟩ h
def u6{A B C D E F:Type}(p:A→B→C→D→E→F→Prop)(x:((A×B)×C)×((D×E)×F)):Prop:=p x.1.1.1 x.1.1.2 x.1.2 x.2.1.1 x.2.1.2 x.2.2
noncomputable def e6{A B C D E F:Type}(i:Nonempty (((A×B)×C)×((D×E)×F)))(p:A→B→C→D→E→F→Prop):((A×B)×C)×((D×E)×F):=eE i (u6 p)
theorem z6{A B C D E F:Type}{p:A→B→C→D→E→F→Prop}[i:Nonempty (((A×B)×C)×((D×E)×F))](h:p (e6 i p).1.1.1 (e6 i p).1.1.2 (e6 i p).1.2 (e6 i p).2.1.1 (e6 i p).2.1.2 (e6 i p).2.2)(a)(b)(c)(d)(e)(f):p a b c d e f:= @gM _ i (u6 p) h (((a,b),c),((d,e),f))
def u7{A B C D E F G:Type}(p:A→B→C→D→E→F→G→Prop)(x:((A×B)×(C×D))×((E×F)×G)):Prop:=p x.1.1.1 x.1.1.2 x.1.2.1 x.1.2.2 x.2.1.1 x.2.1.2 x.2.2
noncomputable def e7{A B C D E F G:Type}(i:Nonempty (((A×B)×(C×D))×((E×F)×G)))(p:A→B→C→D→E→F→G→Prop):((A×B)×(C×D))×((E×F)×G):=eE i (u7 p)
theorem z7{A B C D E F G:Type}{p:A→B→C→D→E→F→G→Prop}[i:Nonempty (((A×B)×(C×D))×((E×F)×G))](h:p (e7 i p).1.1.1 (e7 i p).1.1.2 (e7 i p).1.2.1 (e7 i p).1.2.2 (e7 i p).2.1.1 (e7 i p).2.1.2 (e7 i p).2.2)(a)(b)(c)(d)(e)(f)(g):p a b c d e f g:= @gM _ i (u7 p) h (((a,b),(c,d)),((e,f),g))
def CE{A B C D E F G H I J:Type}(p:A→B→C→D→E→F→G→H→I→J→Prop)(x:(((A×B)×C)×(D×E))×(((F×G)×H)×(I×J))):Prop:=p x.1.1.1.1 x.1.1.1.2 x.1.1.2 x.1.2.1 x.1.2.2 x.2.1.1.1 x.2.1.1.2 x.2.1.2 x.2.2.1 x.2.2.2
noncomputable def b9{A B C D E F G H I J:Type}(i:Nonempty ((((A×B)×C)×(D×E))×(((F×G)×H)×(I×J))))(p:A→B→C→D→E→F→G→H→I→J→Prop):(((A×B)×C)×(D×E))×(((F×G)×H)×(I×J)):=eE i (CE p)
theorem zq{A B C D E F G H I J:Type}{p:A→B→C→D→E→F→G→H→I→J→Prop}[i:Nonempty ((((A×B)×C)×(D×E))×(((F×G)×H)×(I×J)))](h:p (b9 i p).1.1.1.1 (b9 i p).1.1.1.2 (b9 i p).1.1.2 (b9 i p).1.2.1 (b9 i p).1.2.2 (b9 i p).2.1.1.1 (b9 i p).2.1.1.2 (b9 i p).2.1.2 (b9 i p).2.2.1 (b9 i p).2.2.2)(a)(b)(c)(d)(e)(f)(g)(j)(k)(l):p a b c d e f g j k l:= @gM _ i (CE p) h ((((a,b),c),(d,e)),(((f,g),j),(k,l)))
def CD{A B C D E F G H I J K L M N:Type}(p:A→B→C→D→E→F→G→H→I→J→K→L→M→N→Prop)(x:(((A×B)×(C×D))×((E×F)×G))×(((H×I)×(J×K))×((L×M)×N))):Prop:=p x.1.1.1.1 x.1.1.1.2 x.1.1.2.1 x.1.1.2.2 x.1.2.1.1 x.1.2.1.2 x.1.2.2 x.2.1.1.1 x.2.1.1.2 x.2.1.2.1 x.2.1.2.2 x.2.2.1.1 x.2.2.1.2 x.2.2.2
noncomputable def br{A B C D E F G H I J K L M N:Type}(i:Nonempty ((((A×B)×(C×D))×((E×F)×G))×(((H×I)×(J×K))×((L×M)×N))))(p:A→B→C→D→E→F→G→H→I→J→K→L→M→N→Prop):(((A×B)×(C×D))×((E×F)×G))×(((H×I)×(J×K))×((L×M)×N)):=eE i (CD p)
theorem xF{A B C D E F G H I J K L M N:Type}{p:A→B→C→D→E→F→G→H→I→J→K→L→M→N→Prop}[i:Nonempty ((((A×B)×(C×D))×((E×F)×G))×(((H×I)×(J×K))×((L×M)×N)))](h:p (br i p).1.1.1.1 (br i p).1.1.1.2 (br i p).1.1.2.1 (br i p).1.1.2.2 (br i p).1.2.1.1 (br i p).1.2.1.2 (br i p).1.2.2 (br i p).2.1.1.1 (br i p).2.1.1.2 (br i p).2.1.2.1 (br i p).2.1.2.2 (br i p).2.2.1.1 (br i p).2.2.1.2 (br i p).2.2.2)(a)(b)(c)(d)(e)(f)(g)(j)(k)(l)(m)(n)(o)(q):p a b c d e f g j k l m n o q:= @gM _ i (CD p) h ((((a,b),(c,d)),((e,f),g)),(((j,k),(l,m)),((n,o),q)))
def CC{A B C D E F G H I J K L M N O P Q R S:Type}(p:A→B→C→D→E→F→G→H→I→J→K→L→M→N→O→P→Q→R→S→Prop)(x:((((A×B)×C)×(D×E))×(((F×G)×H)×(I×J)))×((((K×L)×M)×(N×O))×((P×Q)×(R×S)))):Prop:=p x.1.1.1.1.1 x.1.1.1.1.2 x.1.1.1.2 x.1.1.2.1 x.1.1.2.2 x.1.2.1.1.1 x.1.2.1.1.2 x.1.2.1.2 x.1.2.2.1 x.1.2.2.2 x.2.1.1.1.1 x.2.1.1.1.2 x.2.1.1.2 x.2.1.2.1 x.2.1.2.2 x.2.2.1.1 x.2.2.1.2 x.2.2.2.1 x.2.2.2.2
noncomputable def aZ{A B C D E F G H I J K L M N O P Q R S:Type}(i:Nonempty (((((A×B)×C)×(D×E))×(((F×G)×H)×(I×J)))×((((K×L)×M)×(N×O))×((P×Q)×(R×S)))))(p:A→B→C→D→E→F→G→H→I→J→K→L→M→N→O→P→Q→R→S→Prop):((((A×B)×C)×(D×E))×(((F×G)×H)×(I×J)))×((((K×L)×M)×(N×O))×((P×Q)×(R×S))):=eE i (CC p)
theorem zp{A B C D E F G H I J K L M N O P Q R S:Type}{p:A→B→C→D→E→F→G→H→I→J→K→L→M→N→O→P→Q→R→S→Prop}[i:Nonempty (((((A×B)×C)×(D×E))×(((F×G)×H)×(I×J)))×((((K×L)×M)×(N×O))×((P×Q)×(R×S))))](h:p (aZ i p).1.1.1.1.1 (aZ i p).1.1.1.1.2 (aZ i p).1.1.1.2 (aZ i p).1.1.2.1 (aZ i p).1.1.2.2 (aZ i p).1.2.1.1.1 (aZ i p).1.2.1.1.2 (aZ i p).1.2.1.2 (aZ i p).1.2.2.1 (aZ i p).1.2.2.2 (aZ i p).2.1.1.1.1 (aZ i p).2.1.1.1.2 (aZ i p).2.1.1.2 (aZ i p).2.1.2.1 (aZ i p).2.1.2.2 (aZ i p).2.2.1.1 (aZ i p).2.2.1.2 (aZ i p).2.2.2.1 (aZ i p).2.2.2.2)(a)(b)(c)(d)(e)(f)(g)(j)(k)(l)(m)(n)(o)(q)(r)(s)(t)(u)(v):p a b c d e f g j k l m n o q r s t u v:= @gM _ i (CC p) h (((((a,b),c),(d,e)),(((f,g),j),(k,l))),((((m,n),o),(q,r)),((s,t),(u,v))))
def CB{A B C D E F G H I J K L M N O P Q R S T U V W X Y:Type}(p:A→B→C→D→E→F→G→H→I→J→K→L→M→N→O→P→Q→R→S→T→U→V→W→X→Y→Prop)(x:((((A×B)×(C×D))×((E×F)×G))×(((H×I)×J)×((K×L)×M)))×((((N×O)×P)×((Q×R)×S))×(((T×U)×V)×((W×X)×Y)))):Prop:=p x.1.1.1.1.1 x.1.1.1.1.2 x.1.1.1.2.1 x.1.1.1.2.2 x.1.1.2.1.1 x.1.1.2.1.2 x.1.1.2.2 x.1.2.1.1.1 x.1.2.1.1.2 x.1.2.1.2 x.1.2.2.1.1 x.1.2.2.1.2 x.1.2.2.2 x.2.1.1.1.1 x.2.1.1.1.2 x.2.1.1.2 x.2.1.2.1.1 x.2.1.2.1.2 x.2.1.2.2 x.2.2.1.1.1 x.2.2.1.1.2 x.2.2.1.2 x.2.2.2.1.1 x.2.2.2.1.2 x.2.2.2.2
noncomputable def bY{A B C D E F G H I J K L M N O P Q R S T U V W X Y:Type}(i:Nonempty (((((A×B)×(C×D))×((E×F)×G))×(((H×I)×J)×((K×L)×M)))×((((N×O)×P)×((Q×R)×S))×(((T×U)×V)×((W×X)×Y)))))(p:A→B→C→D→E→F→G→H→I→J→K→L→M→N→O→P→Q→R→S→T→U→V→W→X→Y→Prop):((((A×B)×(C×D))×((E×F)×G))×(((H×I)×J)×((K×L)×M)))×((((N×O)×P)×((Q×R)×S))×(((T×U)×V)×((W×X)×Y))):=eE i (CB p)
theorem B6{A B C D E F G H I J K L M N O P Q R S T U V W X Y:Type}{p:A→B→C→D→E→F→G→H→I→J→K→L→M→N→O→P→Q→R→S→T→U→V→W→X→Y→Prop}[i:Nonempty (((((A×B)×(C×D))×((E×F)×G))×(((H×I)×J)×((K×L)×M)))×((((N×O)×P)×((Q×R)×S))×(((T×U)×V)×((W×X)×Y))))](h:p (bY i p).1.1.1.1.1 (bY i p).1.1.1.1.2 (bY i p).1.1.1.2.1 (bY i p).1.1.1.2.2 (bY i p).1.1.2.1.1 (bY i p).1.1.2.1.2 (bY i p).1.1.2.2 (bY i p).1.2.1.1.1 (bY i p).1.2.1.1.2 (bY i p).1.2.1.2 (bY i p).1.2.2.1.1 (bY i p).1.2.2.1.2 (bY i p).1.2.2.2 (bY i p).2.1.1.1.1 (bY i p).2.1.1.1.2 (bY i p).2.1.1.2 (bY i p).2.1.2.1.1 (bY i p).2.1.2.1.2 (bY i p).2.1.2.2 (bY i p).2.2.1.1.1 (bY i p).2.2.1.1.2 (bY i p).2.2.1.2 (bY i p).2.2.2.1.1 (bY i p).2.2.2.1.2 (bY i p).2.2.2.2)(a)(b)(c)(d)(e)(f)(g)(j)(k)(l)(m)(n)(o)(q)(r)(s)(t)(u)(v)(w)(y)(z)(a')(b')(c'):p a b c d e f g j k l m n o q r s t u v w y z a' b' c':= @gM _ i (CB p) h (((((a,b),(c,d)),((e,f),g)),(((j,k),l),((m,n),o))),((((q,r),s),((t,u),v)),(((w,y),z),((a',b'),c'))))
def CA{A B C D E F G H I J K L M N O P Q R S T U V W X Y Z A' B' C' D' E' F' G':Type}(p:A→B→C→D→E→F→G→H→I→J→K→L→M→N→O→P→Q→R→S→T→U→V→W→X→Y→Z→A'→B'→C'→D'→E'→F'→G'→Prop)(x:(((((A×B)×C)×(D×E))×((F×G)×(H×I)))×(((J×K)×(L×M))×((N×O)×(P×Q))))×((((R×S)×(T×U))×((V×W)×(X×Y)))×(((Z×A')×(B'×C'))×((D'×E')×(F'×G'))))):Prop:=p x.1.1.1.1.1.1 x.1.1.1.1.1.2 x.1.1.1.1.2 x.1.1.1.2.1 x.1.1.1.2.2 x.1.1.2.1.1 x.1.1.2.1.2 x.1.1.2.2.1 x.1.1.2.2.2 x.1.2.1.1.1 x.1.2.1.1.2 x.1.2.1.2.1 x.1.2.1.2.2 x.1.2.2.1.1 x.1.2.2.1.2 x.1.2.2.2.1 x.1.2.2.2.2 x.2.1.1.1.1 x.2.1.1.1.2 x.2.1.1.2.1 x.2.1.1.2.2 x.2.1.2.1.1 x.2.1.2.1.2 x.2.1.2.2.1 x.2.1.2.2.2 x.2.2.1.1.1 x.2.2.1.1.2 x.2.2.1.2.1 x.2.2.1.2.2 x.2.2.2.1.1 x.2.2.2.1.2 x.2.2.2.2.1 x.2.2.2.2.2
noncomputable def aT{A B C D E F G H I J K L M N O P Q R S T U V W X Y Z A' B' C' D' E' F' G':Type}(i:Nonempty ((((((A×B)×C)×(D×E))×((F×G)×(H×I)))×(((J×K)×(L×M))×((N×O)×(P×Q))))×((((R×S)×(T×U))×((V×W)×(X×Y)))×(((Z×A')×(B'×C'))×((D'×E')×(F'×G'))))))(p:A→B→C→D→E→F→G→H→I→J→K→L→M→N→O→P→Q→R→S→T→U→V→W→X→Y→Z→A'→B'→C'→D'→E'→F'→G'→Prop):(((((A×B)×C)×(D×E))×((F×G)×(H×I)))×(((J×K)×(L×M))×((N×O)×(P×Q))))×((((R×S)×(T×U))×((V×W)×(X×Y)))×(((Z×A')×(B'×C'))×((D'×E')×(F'×G')))):=eE i (CA p)
theorem A7{A B C D E F G H I J K L M N O P Q R S T U V W X Y Z A' B' C' D' E' F' G':Type}{p:A→B→C→D→E→F→G→H→I→J→K→L→M→N→O→P→Q→R→S→T→U→V→W→X→Y→Z→A'→B'→C'→D'→E'→F'→G'→Prop}[i:Nonempty ((((((A×B)×C)×(D×E))×((F×G)×(H×I)))×(((J×K)×(L×M))×((N×O)×(P×Q))))×((((R×S)×(T×U))×((V×W)×(X×Y)))×(((Z×A')×(B'×C'))×((D'×E')×(F'×G')))))](h:p (aT i p).1.1.1.1.1.1 (aT i p).1.1.1.1.1.2 (aT i p).1.1.1.1.2 (aT i p).1.1.1.2.1 (aT i p).1.1.1.2.2 (aT i p).1.1.2.1.1 (aT i p).1.1.2.1.2 (aT i p).1.1.2.2.1 (aT i p).1.1.2.2.2 (aT i p).1.2.1.1.1 (aT i p).1.2.1.1.2 (aT i p).1.2.1.2.1 (aT i p).1.2.1.2.2 (aT i p).1.2.2.1.1 (aT i p).1.2.2.1.2 (aT i p).1.2.2.2.1 (aT i p).1.2.2.2.2 (aT i p).2.1.1.1.1 (aT i p).2.1.1.1.2 (aT i p).2.1.1.2.1 (aT i p).2.1.1.2.2 (aT i p).2.1.2.1.1 (aT i p).2.1.2.1.2 (aT i p).2.1.2.2.1 (aT i p).2.1.2.2.2 (aT i p).2.2.1.1.1 (aT i p).2.2.1.1.2 (aT i p).2.2.1.2.1 (aT i p).2.2.1.2.2 (aT i p).2.2.2.1.1 (aT i p).2.2.2.1.2 (aT i p).2.2.2.2.1 (aT i p).2.2.2.2.2)(a)(b)(c)(d)(e)(f)(g)(j)(k)(l)(m)(n)(o)(q)(r)(s)(t)(u)(v)(w)(y)(z)(a')(b')(c')(d')(e')(f')(g')(j')(k')(l')(m'):p a b c d e f g j k l m n o q r s t u v w y z a' b' c' d' e' f' g' j' k' l' m':= @gM _ i (CA p) h ((((((a,b),c),(d,e)),((f,g),(j,k))),(((l,m),(n,o)),((q,r),(s,t)))),((((u,v),(w,y)),((z,a'),(b',c'))),(((d',e'),(f',g')),((j',k'),(l',m')))))
section
variable{M:Model}{A:Around}{E:Value→Shared→Prop}{s:Shared}{α:Type}{Q:α→Shared→Prop}
theorem wT{c:Prop}[Decidable c]{a b:Sem α}(hc:c)(h:wpAny M A a Q E s):wpAny M A (if c then a else b) Q E s:=by rw[if_pos hc];exact h
theorem wF{c:Prop}[Decidable c]{a b:Sem α}(hc:¬c)(h:wpAny M A b Q E s):wpAny M A (if c then a else b) Q E s:=by rw[if_neg hc];exact h
theorem CJ{m:Sem α}(k:∀Q' E',(∀a s,Q a s→Q' a s)→(∀v s,E v s→E' v s)→wpAny M A m Q' E' s):wpAny M A m Q E s:=k Q E (fun zz zz h=>h) fun zz zz h=>h
end
end
noncomputable def dM(i:Nat):Stmt:=PySem.Challenge.pw_pq0602_01.main.body.getD i (.Pass default)
noncomputable def gC(i j:Nat):Stmt:=match dM i with
 | .ClassDef _ _ _ body .. =>body.getD j (.Pass default)
 |s=>s
noncomputable def pH:Stmt→Arguments
 | .FunctionDef _ a .. =>a
 |_=>default
noncomputable def tO:Stmt→List Stmt
 | .FunctionDef _ _ b .. =>b
 |_=>[]
noncomputable def mi:Stmt→Scope
 | .FunctionDef _ _ _ _ _ _ s .. =>s
 |_=>default
noncomputable def de(P:Params)(x:String)(t:Nat)(v:Value):DictEntry:={hash:=PyData.keyHash P (ofString x),key:= .str (ofString x) t,val:=v}
noncomputable def sv(x:String)(t:Nat):Value:= .str (ofString x) t
noncomputable def fO(st:Stmt)(nm qual:Str)(dV pm cdv:Value):Obj:={cls:= .type "function",data:= .func (fnX nm qual (pH st) (tO st) (mi st) [] dV .none .none pm none cdv .none)}
noncomputable def kW(P:Params):Frag:=[
 (2,{cls:= .none,data:= .dict #[de P "type.__subclasses__.Exception.0" 216 (.int 32 0),de P "type.__subclasses__.Exception.n" 217 (.int 1 0)] 2}),
 (3,{cls:= .type "dict",data:= .dict #[de P "__name__" 165 (sv "law_pq0602_01" 688),de P "__doc__" 166 .none,de P "__package__" 167 .none,de P "__loader__" 168 (.builtin "__main__.__loader__#opaque"),de P "__spec__" 169 .none,de P "__annotations__" 170 (.ref 6),de P "__builtins__" 171 (.ref 4),de P "__file__" 173 (sv "/claim/cut.py" 172),de P "__cached__" 174 .none,de P "LazyError" 219 (.ref 32),de P "ScopeError" 235 (.ref 45),de P "KINDS" 242 (.ref 48),de P "Names" 300 (.ref 86),de P "Scope" 361 (.ref 128),de P "is_capital" 368 (.ref 139),de P "short_of" 377 (.ref 146),de P "module_of" 384 (.ref 153),de P "Interface" 457 (.ref 196),de P "named_things" 469 (.ref 207),de P "told_parts" 475 (.ref 212),de P "imported_things" 481 (.ref 217),de P "exported_parts" 487 (.ref 222),de P "is_said" 498 (.ref 229),de P "hand_out" 512 (.ref 236),de P "made_interface" 529 (.ref 243),de P "rows_of" 537 (.ref 248),de P "Node" 573 (.ref 272),de P "Export" 612 (.ref 301),de P "Import" 654 (.ref 328),de P "Fixity" 687 (.ref 347),de P "_law_seed" 698 (.ref 358),de P "_law_pick" 707 (.ref 365),de P "_law_things" 713 (.ref 372),de P "_law_heads" 726 (.ref 373),de P "_law_said" 742 (.ref 386),de P "_law_tables" 748 (.ref 391),de P "_law_list" 763 (.ref 398),de P "_law_subs" 769 (.ref 403),de P "_law_out" 775 (.ref 408),de P "_law_in" 781 (.ref 413),de P "_law_nodes" 787 (.ref 418),de P "_law_heard" 794 (.ref 425),de P "_law_names_right" 803 (.ref 432),de P "law" 809 (.ref 437)] 44}),
 (22,{cls:= .type "tuple",data:= .seq #[.none]}),
 (28,{cls:= .type "code",data:= .fields #[sv "__init__" 201,sv "LazyError.__init__" 202,sv "/claim/cut.py" 203,.int 4 0,.int 3 0,.int 0 0,.int 0 0,.int 3 0,.ref 23,.bool true,.int 181 0,.ref 24,.none,.ref 25,.ref 26,.ref 27,.int 207 0,.int 4 0,sv "/claim/cut.py" 208]}),
 (29,fO (gC 1 0) (ofString "__init__") (ofString "LazyError.__init__") (.ref 22) (sv "lazycore.errors" 187) (.ref 28)),
 (31,{cls:= .type "dict",data:= .dict #[de P "__module__" 196 (sv "lazycore.errors" 187),de P "__firstlineno__" 200 (.int 2 199),de P "__init__" 209 (.ref 29),de P "__static_attributes__" 212 (.ref 30),de P "__weakref__" 214 (.ref 33),de P "__doc__" 215 .none] 3}),
 (32,{cls:= .type "type",data:= .cls {name:=ofString "LazyError",bases:=[.type "Exception"],mro:=[.ref 32,.type "Exception",.type "BaseException",.type "object"],ns:=31,qualname:=ofString "LazyError",subclasses:=[.ref 45]},slots:= #[some (.ref 15),none,some (sv "LazyError" 189),some (sv "LazyError" 197),some (.builtin "Exception.__new__"),some (.bool true)]}),
 (44,{cls:= .type "dict",data:= .dict #[de P "__module__" 227 (sv "lazycore.errors" 187),de P "__firstlineno__" 231 (.int 8 230),de P "__static_attributes__" 232 (.ref 43),de P "__doc__" 233 .none] 2}),
 (45,{cls:= .type "type",data:= .cls {name:=ofString "ScopeError",bases:=[.ref 32],mro:=[.ref 45,.ref 32,.type "Exception",.type "BaseException",.type "object"],ns:=44,qualname:=ofString "ScopeError"},slots:= #[some (.ref 36),none,some (sv "ScopeError" 220),some (sv "ScopeError" 228),some (.builtin "Exception.__new__"),some (.bool true)]}),
 (48,{cls:= .type "tuple",data:= .seq #[sv "value" 238,sv "constructor" 239,sv "type" 240,sv "class" 241]}),
 (61,{cls:= .type "code",data:= .fields #[sv "__init__" 255,sv "Names.__init__" 256,sv "/claim/cut.py" 257,.int 14 0,.int 2 0,.int 0 0,.int 0 0,.int 3 0,.ref 56,.bool true,.int 181 0,.ref 57,.none,.ref 58,.ref 59,.ref 60,.int 260 0,.int 14 0,sv "/claim/cut.py" 261]}),
 (62,fO (gC 5 0) (ofString "__init__") (ofString "Names.__init__") .none (sv "lazycore.scope" 236) (.ref 61)),
 (68,{cls:= .type "code",data:= .fields #[sv "add" 263,sv "Names.add" 264,sv "/claim/cut.py" 265,.int 18 0,.int 3 0,.int 0 0,.int 0 0,.int 3 0,.ref 63,.bool true,.int 181 0,.ref 64,.none,.ref 65,.ref 66,.ref 67,.int 270 0,.int 18 0,sv "/claim/cut.py" 271]}),
 (69,fO (gC 5 1) (ofString "add") (ofString "Names.add") .none (sv "lazycore.scope" 236) (.ref 68)),
 (75,{cls:= .type "code",data:= .fields #[sv "has" 273,sv "Names.has" 274,sv "/claim/cut.py" 275,.int 23 0,.int 2 0,.int 0 0,.int 0 0,.int 3 0,.ref 70,.bool true,.int 181 0,.ref 71,.none,.ref 72,.ref 73,.ref 74,.int 278 0,.int 23 0,sv "/claim/cut.py" 279]}),
 (76,fO (gC 5 2) (ofString "has") (ofString "Names.has") .none (sv "lazycore.scope" 236) (.ref 75)),
 (82,{cls:= .type "code",data:= .fields #[sv "look" 281,sv "Names.look" 282,sv "/claim/cut.py" 283,.int 26 0,.int 3 0,.int 0 0,.int 0 0,.int 3 0,.ref 77,.bool true,.int 181 0,.ref 78,.none,.ref 79,.ref 80,.ref 81,.int 288 0,.int 26 0,sv "/claim/cut.py" 289]}),
 (83,fO (gC 5 3) (ofString "look") (ofString "Names.look") .none (sv "lazycore.scope" 236) (.ref 82)),
 (85,{cls:= .type "dict",data:= .dict #[de P "__module__" 250 (sv "lazycore.scope" 236),de P "__firstlineno__" 254 (.int 12 253),de P "__init__" 262 (.ref 62),de P "add" 272 (.ref 69),de P "has" 280 (.ref 76),de P "look" 290 (.ref 83),de P "__static_attributes__" 293 (.ref 84),de P "__dict__" 295 (.ref 87),de P "__weakref__" 297 (.ref 88),de P "__doc__" 298 .none] 4}),
 (86,{cls:= .type "type",data:= .cls {name:=ofString "Names",bases:=[.type "object"],mro:=[.ref 86,.type "object"],ns:=85,qualname:=ofString "Names"},slots:= #[none,none,some (sv "Names" 243),some (sv "Names" 251),some (.builtin "object.__new__"),some (.bool true)]}),
 (103,{cls:= .type "code",data:= .fields #[sv "__init__" 313,sv "Scope.__init__" 314,sv "/claim/cut.py" 315,.int 35 0,.int 1 0,.int 0 0,.int 0 0,.int 3 0,.ref 98,.bool true,.int 181 0,.ref 99,.none,.ref 100,.ref 101,.ref 102,.int 318 0,.int 35 0,sv "/claim/cut.py" 319]}),
 (104,fO (gC 6 0) (ofString "__init__") (ofString "Scope.__init__") .none (sv "lazycore.scope" 236) (.ref 103)),
 (110,{cls:= .type "code",data:= .fields #[sv "add" 321,sv "Scope.add" 322,sv "/claim/cut.py" 323,.int 41 0,.int 6 0,.int 0 0,.int 0 0,.int 3 0,.ref 105,.bool true,.int 181 0,.ref 106,.none,.ref 107,.ref 108,.ref 109,.int 330 0,.int 41 0,sv "/claim/cut.py" 331]}),
 (111,fO (gC 6 1) (ofString "add") (ofString "Scope.add") .none (sv "lazycore.scope" 236) (.ref 110)),
 (117,{cls:= .type "code",data:= .fields #[sv "look" 333,sv "Scope.look" 334,sv "/claim/cut.py" 335,.int 47 0,.int 4 0,.int 0 0,.int 0 0,.int 3 0,.ref 112,.bool true,.int 181 0,.ref 113,.none,.ref 114,.ref 115,.ref 116,.int 340 0,.int 47 0,sv "/claim/cut.py" 341]}),
 (118,fO (gC 6 2) (ofString "look") (ofString "Scope.look") .none (sv "lazycore.scope" 236) (.ref 117)),
 (124,{cls:= .type "code",data:= .fields #[sv "has" 343,sv "Scope.has" 344,sv "/claim/cut.py" 345,.int 50 0,.int 3 0,.int 0 0,.int 0 0,.int 3 0,.ref 119,.bool true,.int 181 0,.ref 120,.none,.ref 121,.ref 122,.ref 123,.int 349 0,.int 50 0,sv "/claim/cut.py" 350]}),
 (125,fO (gC 6 3) (ofString "has") (ofString "Scope.has") .none (sv "lazycore.scope" 236) (.ref 124)),
 (127,{cls:= .type "dict",data:= .dict #[de P "__module__" 308 (sv "lazycore.scope" 236),de P "__firstlineno__" 312 (.int 33 311),de P "__init__" 320 (.ref 104),de P "add" 332 (.ref 111),de P "look" 342 (.ref 118),de P "has" 351 (.ref 125),de P "__static_attributes__" 354 (.ref 126),de P "__dict__" 356 (.ref 129),de P "__weakref__" 358 (.ref 130),de P "__doc__" 359 .none] 4}),
 (128,{cls:= .type "type",data:= .cls {name:=ofString "Scope",bases:=[.type "object"],mro:=[.ref 128,.type "object"],ns:=127,qualname:=ofString "Scope"},slots:= #[none,none,some (sv "Scope" 301),some (sv "Scope" 309),some (.builtin "object.__new__"),some (.bool true)]}),
 (138,{cls:= .type "code",data:= .fields #[sv "is_capital" 362,sv "is_capital" 363,sv "/claim/cut.py" 364,.int 52 0,.int 1 0,.int 0 0,.int 0 0,.int 3 0,.ref 133,.bool true,.int 181 0,.ref 134,.none,.ref 135,.ref 136,.ref 137,.int 366 0,.int 52 0,sv "/claim/cut.py" 367]}),
 (139,fO (dM 7) (ofString "is_capital") (ofString "is_capital") .none (sv "lazycore.scope" 236) (.ref 138)),
 (145,{cls:= .type "code",data:= .fields #[sv "short_of" 369,sv "short_of" 370,sv "/claim/cut.py" 371,.int 54 0,.int 1 0,.int 0 0,.int 0 0,.int 3 0,.ref 140,.bool true,.int 181 0,.ref 141,.none,.ref 142,.ref 143,.ref 144,.int 375 0,.int 54 0,sv "/claim/cut.py" 376]}),
 (146,fO (dM 8) (ofString "short_of") (ofString "short_of") .none (sv "lazycore.scope" 236) (.ref 145)),
 (152,{cls:= .type "code",data:= .fields #[sv "module_of" 378,sv "module_of" 379,sv "/claim/cut.py" 380,.int 62 0,.int 1 0,.int 0 0,.int 0 0,.int 3 0,.ref 147,.bool true,.int 181 0,.ref 148,.none,.ref 149,.ref 150,.ref 151,.int 382 0,.int 62 0,sv "/claim/cut.py" 383]}),
 (153,fO (dM 9) (ofString "module_of") (ofString "module_of") .none (sv "lazycore.scope" 236) (.ref 152)),
 (166,{cls:= .type "code",data:= .fields #[sv "__init__" 399,sv "Interface.__init__" 400,sv "/claim/cut.py" 401,.int 67 0,.int 2 0,.int 0 0,.int 0 0,.int 3 0,.ref 161,.bool true,.int 181 0,.ref 162,.none,.ref 163,.ref 164,.ref 165,.int 404 0,.int 67 0,sv "/claim/cut.py" 405]}),
 (167,fO (gC 11 0) (ofString "__init__") (ofString "Interface.__init__") .none (sv "lazycore.exports" 385) (.ref 166)),
 (173,{cls:= .type "code",data:= .fields #[sv "table" 407,sv "Interface.table" 408,sv "/claim/cut.py" 409,.int 76 0,.int 2 0,.int 0 0,.int 0 0,.int 3 0,.ref 168,.bool true,.int 181 0,.ref 169,.none,.ref 170,.ref 171,.ref 172,.int 412 0,.int 76 0,sv "/claim/cut.py" 413]}),
 (174,fO (gC 11 1) (ofString "table") (ofString "Interface.table") .none (sv "lazycore.exports" 385) (.ref 173)),
 (180,{cls:= .type "code",data:= .fields #[sv "add" 415,sv "Interface.add" 416,sv "/claim/cut.py" 417,.int 83 0,.int 5 0,.int 0 0,.int 0 0,.int 3 0,.ref 175,.bool true,.int 181 0,.ref 176,.none,.ref 177,.ref 178,.ref 179,.int 424 0,.int 83 0,sv "/claim/cut.py" 425]}),
 (181,fO (gC 11 2) (ofString "add") (ofString "Interface.add") .none (sv "lazycore.exports" 385) (.ref 180)),
 (185,{cls:= .type "code",data:= .fields #[sv "all_things" 427,sv "Interface.all_things" 428,sv "/claim/cut.py" 429,.int 89 0,.int 1 0,.int 0 0,.int 0 0,.int 3 0,.ref 182,.bool true,.int 181 0,.ref 183,.none,.none,.none,.ref 184,.int 430 0,.int 89 0,sv "/claim/cut.py" 431]}),
 (186,fO (gC 11 3) (ofString "all_things") (ofString "Interface.all_things") .none (sv "lazycore.exports" 385) (.ref 185)),
 (192,{cls:= .type "code",data:= .fields #[sv "has" 433,sv "Interface.has" 434,sv "/claim/cut.py" 435,.int 96 0,.int 4 0,.int 0 0,.int 0 0,.int 3 0,.ref 187,.bool true,.int 181 0,.ref 188,.none,.ref 189,.ref 190,.ref 191,.int 440 0,.int 96 0,sv "/claim/cut.py" 441]}),
 (193,fO (gC 11 4) (ofString "has") (ofString "Interface.has") .none (sv "lazycore.exports" 385) (.ref 192)),
 (195,{cls:= .type "dict",data:= .dict #[de P "__module__" 394 (sv "lazycore.exports" 385),de P "__firstlineno__" 398 (.int 65 397),de P "__init__" 406 (.ref 167),de P "table" 414 (.ref 174),de P "add" 426 (.ref 181),de P "all_things" 432 (.ref 186),de P "has" 442 (.ref 193),de P "__static_attributes__" 450 (.ref 194),de P "__dict__" 452 (.ref 197),de P "__weakref__" 454 (.ref 198),de P "__doc__" 455 .none] 4}),
 (196,{cls:= .type "type",data:= .cls {name:=ofString "Interface",bases:=[.type "object"],mro:=[.ref 196,.type "object"],ns:=195,qualname:=ofString "Interface"},slots:= #[none,none,some (sv "Interface" 387),some (sv "Interface" 395),some (.builtin "object.__new__"),some (.bool true)]}),
 (206,{cls:= .type "code",data:= .fields #[sv "named_things" 458,sv "named_things" 459,sv "/claim/cut.py" 460,.int 98 0,.int 3 0,.int 0 0,.int 0 0,.int 3 0,.ref 201,.bool true,.int 181 0,.ref 202,.none,.ref 203,.ref 204,.ref 205,.int 467 0,.int 98 0,sv "/claim/cut.py" 468]}),
 (207,fO (dM 12) (ofString "named_things") (ofString "named_things") .none (sv "lazycore.exports" 385) (.ref 206)),
 (211,{cls:= .type "code",data:= .fields #[sv "told_parts" 470,sv "told_parts" 471,sv "/claim/cut.py" 472,.int 115 0,.int 3 0,.int 0 0,.int 0 0,.int 3 0,.ref 208,.bool true,.int 181 0,.ref 209,.none,.none,.none,.ref 210,.int 473 0,.int 115 0,sv "/claim/cut.py" 474]}),
 (212,fO (dM 13) (ofString "told_parts") (ofString "told_parts") .none (sv "lazycore.exports" 385) (.ref 211)),
 (216,{cls:= .type "code",data:= .fields #[sv "imported_things" 476,sv "imported_things" 477,sv "/claim/cut.py" 478,.int 128 0,.int 2 0,.int 0 0,.int 0 0,.int 3 0,.ref 213,.bool true,.int 181 0,.ref 214,.none,.none,.none,.ref 215,.int 479 0,.int 128 0,sv "/claim/cut.py" 480]}),
 (217,fO (dM 14) (ofString "imported_things") (ofString "imported_things") .none (sv "lazycore.exports" 385) (.ref 216)),
 (221,{cls:= .type "code",data:= .fields #[sv "exported_parts" 482,sv "exported_parts" 483,sv "/claim/cut.py" 484,.int 137 0,.int 4 0,.int 0 0,.int 0 0,.int 3 0,.ref 218,.bool true,.int 181 0,.ref 219,.none,.none,.none,.ref 220,.int 485 0,.int 137 0,sv "/claim/cut.py" 486]}),
 (222,fO (dM 15) (ofString "exported_parts") (ofString "exported_parts") .none (sv "lazycore.exports" 385) (.ref 221)),
 (228,{cls:= .type "code",data:= .fields #[sv "is_said" 488,sv "is_said" 489,sv "/claim/cut.py" 490,.int 153 0,.int 3 0,.int 0 0,.int 0 0,.int 3 0,.ref 223,.bool true,.int 181 0,.ref 224,.none,.ref 225,.ref 226,.ref 227,.int 496 0,.int 153 0,sv "/claim/cut.py" 497]}),
 (229,fO (dM 16) (ofString "is_said") (ofString "is_said") .none (sv "lazycore.exports" 385) (.ref 228)),
 (235,{cls:= .type "code",data:= .fields #[sv "hand_out" 499,sv "hand_out" 500,sv "/claim/cut.py" 501,.int 159 0,.int 4 0,.int 0 0,.int 0 0,.int 3 0,.ref 230,.bool true,.int 181 0,.ref 231,.none,.ref 232,.ref 233,.ref 234,.int 510 0,.int 159 0,sv "/claim/cut.py" 511]}),
 (236,fO (dM 17) (ofString "hand_out") (ofString "hand_out") .none (sv "lazycore.exports" 385) (.ref 235)),
 (242,{cls:= .type "code",data:= .fields #[sv "made_interface" 513,sv "made_interface" 514,sv "/claim/cut.py" 515,.int 174 0,.int 6 0,.int 0 0,.int 0 0,.int 3 0,.ref 237,.bool true,.int 181 0,.ref 238,.none,.ref 239,.ref 240,.ref 241,.int 527 0,.int 174 0,sv "/claim/cut.py" 528]}),
 (243,fO (dM 18) (ofString "made_interface") (ofString "made_interface") .none (sv "lazycore.exports" 385) (.ref 242)),
 (261,{cls:= .type "code",data:= .fields #[sv "__init__" 550,sv "Node.__init__" 551,sv "/claim/cut.py" 552,.int 193 0,.int 2 0,.int 0 0,.int 0 0,.int 3 0,.ref 256,.bool true,.int 181 0,.ref 257,.none,.ref 258,.ref 259,.ref 260,.int 555 0,.int 193 0,sv "/claim/cut.py" 556]}),
 (262,fO (gC 21 0) (ofString "__init__") (ofString "Node.__init__") .none (sv "lazycore.nodes" 530) (.ref 261)),
 (271,{cls:= .type "dict",data:= .dict #[de P "__module__" 545 (sv "lazycore.nodes" 530),de P "__firstlineno__" 549 (.int 191 548),de P "__init__" 557 (.ref 262),de P "row" 564 (.ref 269),de P "__static_attributes__" 566 (.ref 270),de P "__dict__" 568 (.ref 273),de P "__weakref__" 570 (.ref 274),de P "__doc__" 571 .none] 4}),
 (272,{cls:= .type "type",data:= .cls {name:=ofString "Node",bases:=[.type "object"],mro:=[.ref 272,.type "object"],ns:=271,qualname:=ofString "Node",subclasses:=[.ref 301,.ref 328]},slots:= #[none,none,some (sv "Node" 538),some (sv "Node" 546),some (.builtin "object.__new__"),some (.bool true)]}),
 (284,{cls:= .type "tuple",data:= .seq #[.none]}),
 (290,{cls:= .type "code",data:= .fields #[sv "__init__" 588,sv "Export.__init__" 589,sv "/claim/cut.py" 590,.int 201 0,.int 5 0,.int 0 0,.int 0 0,.int 3 0,.ref 285,.bool true,.int 181 0,.ref 286,.none,.ref 287,.ref 288,.ref 289,.int 596 0,.int 201 0,sv "/claim/cut.py" 597]}),
 (291,fO (gC 23 0) (ofString "__init__") (ofString "Export.__init__") (.ref 284) (sv "lazycore.module_nodes" 574) (.ref 290)),
 (300,{cls:= .type "dict",data:= .dict #[de P "__module__" 583 (sv "lazycore.module_nodes" 574),de P "__firstlineno__" 587 (.int 199 586),de P "__init__" 598 (.ref 291),de P "row" 605 (.ref 298),de P "__static_attributes__" 609 (.ref 299),de P "__doc__" 610 .none] 2}),
 (301,{cls:= .type "type",data:= .cls {name:=ofString "Export",bases:=[.ref 272],mro:=[.ref 301,.ref 272,.type "object"],ns:=300,qualname:=ofString "Export"},slots:= #[some (.ref 277),none,some (sv "Export" 576),some (sv "Export" 584),some (.builtin "object.__new__"),some (.bool true)]}),
 (311,{cls:= .type "tuple",data:= .seq #[.none]}),
 (317,{cls:= .type "code",data:= .fields #[sv "__init__" 625,sv "Import.__init__" 626,sv "/claim/cut.py" 627,.int 211 0,.int 7 0,.int 0 0,.int 0 0,.int 3 0,.ref 312,.bool true,.int 181 0,.ref 313,.none,.ref 314,.ref 315,.ref 316,.int 635 0,.int 211 0,sv "/claim/cut.py" 636]}),
 (318,fO (gC 24 0) (ofString "__init__") (ofString "Import.__init__") (.ref 311) (sv "lazycore.module_nodes" 574) (.ref 317)),
 (327,{cls:= .type "dict",data:= .dict #[de P "__module__" 620 (sv "lazycore.module_nodes" 574),de P "__firstlineno__" 624 (.int 209 623),de P "__init__" 637 (.ref 318),de P "row" 645 (.ref 325),de P "__static_attributes__" 651 (.ref 326),de P "__doc__" 652 .none] 2}),
 (328,{cls:= .type "type",data:= .cls {name:=ofString "Import",bases:=[.ref 272],mro:=[.ref 328,.ref 272,.type "object"],ns:=327,qualname:=ofString "Import"},slots:= #[some (.ref 304),none,some (sv "Import" 613),some (sv "Import" 621),some (.builtin "object.__new__"),some (.bool true)]}),
 (343,{cls:= .type "code",data:= .fields #[sv "__init__" 669,sv "Fixity.__init__" 670,sv "/claim/cut.py" 671,.int 225 0,.int 3 0,.int 0 0,.int 0 0,.int 3 0,.ref 338,.bool true,.int 181 0,.ref 339,.none,.ref 340,.ref 341,.ref 342,.int 675 0,.int 225 0,sv "/claim/cut.py" 676]}),
 (344,fO (gC 26 0) (ofString "__init__") (ofString "Fixity.__init__") .none (sv "lazycore.operators" 655) (.ref 343)),
 (346,{cls:= .type "dict",data:= .dict #[de P "__module__" 664 (sv "lazycore.operators" 655),de P "__firstlineno__" 668 (.int 223 667),de P "__init__" 677 (.ref 344),de P "__static_attributes__" 680 (.ref 345),de P "__dict__" 682 (.ref 348),de P "__weakref__" 684 (.ref 349),de P "__doc__" 685 .none] 4}),
 (347,{cls:= .type "type",data:= .cls {name:=ofString "Fixity",bases:=[.type "object"],mro:=[.ref 347,.type "object"],ns:=346,qualname:=ofString "Fixity"},slots:= #[none,none,some (sv "Fixity" 657),some (sv "Fixity" 665),some (.builtin "object.__new__"),some (.bool true)]}),
 (357,{cls:= .type "code",data:= .fields #[sv "_law_seed" 690,sv "_law_seed" 691,sv "/claim/cut.py" 692,.int 229 0,.int 1 0,.int 0 0,.int 0 0,.int 3 0,.ref 352,.bool true,.int 181 0,.ref 353,.none,.ref 354,.ref 355,.ref 356,.int 696 0,.int 229 0,sv "/claim/cut.py" 697]}),
 (358,fO (dM 28) (ofString "_law_seed") (ofString "_law_seed") .none (sv "law_pq0602_01" 688) (.ref 357)),
 (364,{cls:= .type "code",data:= .fields #[sv "_law_pick" 699,sv "_law_pick" 700,sv "/claim/cut.py" 701,.int 233 0,.int 2 0,.int 0 0,.int 0 0,.int 3 0,.ref 359,.bool true,.int 181 0,.ref 360,.none,.ref 361,.ref 362,.ref 363,.int 705 0,.int 233 0,sv "/claim/cut.py" 706]}),
 (365,fO (dM 29) (ofString "_law_pick") (ofString "_law_pick") .none (sv "law_pq0602_01" 688) (.ref 364)),
 (371,{cls:= .type "code",data:= .fields #[sv "_law_things" 708,sv "_law_things" 709,sv "/claim/cut.py" 710,.int 240 0,.int 0 0,.int 0 0,.int 0 0,.int 3 0,.ref 366,.bool true,.int 181 0,.ref 367,.none,.ref 368,.ref 369,.ref 370,.int 711 0,.int 240 0,sv "/claim/cut.py" 712]}),
 (372,fO (dM 30) (ofString "_law_things") (ofString "_law_things") .none (sv "law_pq0602_01" 688) (.ref 371)),
 (373,{cls:= .type "dict",data:= .dict #[de P "T" 714 (.ref 376),de P "K" 719 (.ref 379)] 2}),
 (374,{cls:= .type "tuple",data:= .seq #[sv "constructor" 715,sv "C" 716]}),
 (375,{cls:= .type "tuple",data:= .seq #[sv "constructor" 717,sv ":|" 718]}),
 (376,{cls:= .type "list",data:= .seq #[.ref 374,.ref 375]}),
 (377,{cls:= .type "tuple",data:= .seq #[sv "value" 720,sv "m" 721]}),
 (378,{cls:= .type "tuple",data:= .seq #[sv "value" 722,sv "<>" 723]}),
 (379,{cls:= .type "list",data:= .seq #[.ref 377,.ref 378]}),
 (385,{cls:= .type "code",data:= .fields #[sv "_law_said" 727,sv "_law_said" 728,sv "/claim/cut.py" 729,.int 243 0,.int 1 0,.int 0 0,.int 0 0,.int 3 0,.ref 380,.bool true,.int 181 0,.ref 381,.none,.ref 382,.ref 383,.ref 384,.int 740 0,.int 243 0,sv "/claim/cut.py" 741]}),
 (386,fO (dM 32) (ofString "_law_said") (ofString "_law_said") .none (sv "law_pq0602_01" 688) (.ref 385)),
 (390,{cls:= .type "code",data:= .fields #[sv "_law_tables" 743,sv "_law_tables" 744,sv "/claim/cut.py" 745,.int 256 0,.int 1 0,.int 0 0,.int 0 0,.int 3 0,.ref 387,.bool true,.int 181 0,.ref 388,.none,.none,.none,.ref 389,.int 746 0,.int 256 0,sv "/claim/cut.py" 747]}),
 (391,fO (dM 33) (ofString "_law_tables") (ofString "_law_tables") .none (sv "law_pq0602_01" 688) (.ref 390)),
 (397,{cls:= .type "code",data:= .fields #[sv "_law_list" 749,sv "_law_list" 750,sv "/claim/cut.py" 751,.int 265 0,.int 4 0,.int 0 0,.int 0 0,.int 3 0,.ref 392,.bool true,.int 181 0,.ref 393,.none,.ref 394,.ref 395,.ref 396,.int 761 0,.int 265 0,sv "/claim/cut.py" 762]}),
 (398,fO (dM 34) (ofString "_law_list") (ofString "_law_list") .none (sv "law_pq0602_01" 688) (.ref 397)),
 (402,{cls:= .type "code",data:= .fields #[sv "_law_subs" 764,sv "_law_subs" 765,sv "/claim/cut.py" 766,.int 278 0,.int 2 0,.int 0 0,.int 0 0,.int 3 0,.ref 399,.bool true,.int 181 0,.ref 400,.none,.none,.none,.ref 401,.int 767 0,.int 278 0,sv "/claim/cut.py" 768]}),
 (403,fO (dM 35) (ofString "_law_subs") (ofString "_law_subs") .none (sv "law_pq0602_01" 688) (.ref 402)),
 (407,{cls:= .type "code",data:= .fields #[sv "_law_out" 770,sv "_law_out" 771,sv "/claim/cut.py" 772,.int 288 0,.int 4 0,.int 0 0,.int 0 0,.int 3 0,.ref 404,.bool true,.int 181 0,.ref 405,.none,.none,.none,.ref 406,.int 773 0,.int 288 0,sv "/claim/cut.py" 774]}),
 (408,fO (dM 36) (ofString "_law_out") (ofString "_law_out") .none (sv "law_pq0602_01" 688) (.ref 407)),
 (412,{cls:= .type "code",data:= .fields #[sv "_law_in" 776,sv "_law_in" 777,sv "/claim/cut.py" 778,.int 310 0,.int 4 0,.int 0 0,.int 0 0,.int 3 0,.ref 409,.bool true,.int 181 0,.ref 410,.none,.none,.none,.ref 411,.int 779 0,.int 310 0,sv "/claim/cut.py" 780]}),
 (413,fO (dM 37) (ofString "_law_in") (ofString "_law_in") .none (sv "law_pq0602_01" 688) (.ref 412)),
 (417,{cls:= .type "code",data:= .fields #[sv "_law_nodes" 782,sv "_law_nodes" 783,sv "/claim/cut.py" 784,.int 330 0,.int 1 0,.int 0 0,.int 0 0,.int 3 0,.ref 414,.bool true,.int 181 0,.ref 415,.none,.none,.none,.ref 416,.int 785 0,.int 330 0,sv "/claim/cut.py" 786]}),
 (418,fO (dM 38) (ofString "_law_nodes") (ofString "_law_nodes") .none (sv "law_pq0602_01" 688) (.ref 417)),
 (424,{cls:= .type "code",data:= .fields #[sv "_law_heard" 788,sv "_law_heard" 789,sv "/claim/cut.py" 790,.int 332 0,.int 1 0,.int 0 0,.int 0 0,.int 3 0,.ref 419,.bool true,.int 181 0,.ref 420,.none,.ref 421,.ref 422,.ref 423,.int 792 0,.int 332 0,sv "/claim/cut.py" 793]}),
 (425,fO (dM 39) (ofString "_law_heard") (ofString "_law_heard") .none (sv "law_pq0602_01" 688) (.ref 424)),
 (431,{cls:= .type "code",data:= .fields #[sv "_law_names_right" 795,sv "_law_names_right" 796,sv "/claim/cut.py" 797,.int 337 0,.int 0 0,.int 0 0,.int 0 0,.int 3 0,.ref 426,.bool true,.int 181 0,.ref 427,.none,.ref 428,.ref 429,.ref 430,.int 801 0,.int 337 0,sv "/claim/cut.py" 802]}),
 (432,fO (dM 40) (ofString "_law_names_right") (ofString "_law_names_right") .none (sv "law_pq0602_01" 688) (.ref 431)),
 (436,{cls:= .type "code",data:= .fields #[sv "law" 804,sv "law" 805,sv "/claim/cut.py" 806,.int 343 0,.int 1 0,.int 0 0,.int 0 0,.int 3 0,.ref 433,.bool true,.int 181 0,.ref 434,.none,.none,.none,.ref 435,.int 807 0,.int 343 0,sv "/claim/cut.py" 808]}),
 (437,fO (dM 41) (ofString "law") (ofString "law") .none (sv "law_pq0602_01" 688) (.ref 436))]
noncomputable def AP:List Addr:=[2,3,22,28,29,31,32,44,45,48,61,62,68,69,75,76,82,83,85,86,103,104,110,111,117,118,124,125,127,128,138,139,145,146,152,153,166,167,173,174,180,181,185,186,192,193,195,196,206,207,211,212,216,217,221,222,228,229,235,236,242,243,261,262,271,272,284,290,291,300,301,311,317,318,327,328,343,344,346,347,357,358,364,365,371,372,373,374,375,376,377,378,379,385,386,390,391,397,398,402,403,407,408,412,413,417,418,424,425,431,432,436,437]
noncomputable section
noncomputable abbrev pw:Program:=PySem.Challenge.pw_pq0602_01
noncomputable abbrev Ak:OpenLaw:=PySem.Challenge.rw_pq0602_01
theorem d7:OpenLaw.wellSaid Ak=true:=by
 have h:PySem.W.Fast.tw9446332074065402090 Ak=true:=by decide+kernel
 exact(congrFun PySem.W.Fast.te9446332074065402090 Ak).trans h
noncomputable abbrev q0:Program:=view pw [1,2,4,5,6,7,8,9,11,12,13,14,15,16,17,18,20,21,23,24,26,28,29,30,31,32,33,34,35,36,37,38,39,40,41]
noncomputable abbrev fe:List Str:=[ofString "LazyError",ofString "Export",ofString "Import",ofString "_law_heads"]
noncomputable def sh(P:Params):Frag:=(434,tabObj #[])::kW P
noncomputable def H0:Hook:=kHook sh (434::AP) (fun zz=>by kernel_rfl)
noncomputable def mG:Pos:={line:=0,col:=0,endLine:=0,endCol:=0}
noncomputable def vl:Env:={scope:=pw.main.scope,locals:=mainNs,globals:=mainNs,cells:=[],code:= .ref 13,frame:=some 14}
noncomputable abbrev sG:Code:= .body (behindTheImports pw) vl
noncomputable abbrev B0:List Frame:=[topFrame mG]
noncomputable def jW:Obj:={cls:= .type "tuple",data:= .seq #[]}
noncomputable def uX:Obj:={cls:= .none,data:= .fields #[]}
noncomputable def CG:Obj:={cls:= .type "code",data:= .fields #[.str (ofString "<module>") 182,.str (ofString "<module>") 183,.str (ofString "/claim/cut.py") 184,.int 1 0,.int 0 0,.int 0 0,.int 0 0,.int 0 0,.ref 11,.bool false,
 .int 181 0,.ref 12,.none,.none,.none,.none,.int 185 0,.int 1 0,.str (ofString "/claim/cut.py") 186]}
noncomputable def zN:Obj:={cls:= .type "frame",slots:= #[some (.ref 13),some (.ref 3),some (.ref 3),none,some (.str (ofString "__main__") 164),none,some (.ref 0)]}
noncomputable def Bd(P:Params):BT:=
 .node (boot_o_0 P) (.node (boot_o_1 P) (.node (boot_o_3 P) (.node (boot_o_7 P) .nil .nil) (.node jW .nil .nil)) (.node (boot_o_5 P) (.node (boot_o_9 P) .nil .nil) (.node CG .nil .nil)))
  (.node (boot_o_2 P) (.node (boot_o_4 P) (.node (boot_o_8 P) .nil .nil) (.node uX .nil .nil)) (.node (boot_o_6 P) (.node (boot_o_10 P) .nil .nil) (.node zN .nil .nil)))
noncomputable def BP(P:Params):Heap:={objs:=⟨[boot_o_0 P,boot_o_1 P,boot_o_2 P,boot_o_3 P,boot_o_4 P,boot_o_5 P,boot_o_6 P,boot_o_7 P,boot_o_8 P,boot_o_9 P,boot_o_10 P,jW,uX,CG,zN]⟩}
noncomputable abbrev pV:Option Value:=some (.ref 6)
noncomputable abbrev sT(w:World)(os:OsState):SharedT:=⟨Bd w.params,15,{}, #[],{},187,os⟩
noncomputable abbrev sH(w:World)(os:OsState):Shared:=⟨BP w.params, #[],{},187,os⟩
theorem Cg(w:World)(os:OsState):topGo treeTable pw w 11 pV 12 ⟨boot_heap w.params, #[],boot_drawn,boot_toks,os⟩ (topStub pw)=some (sH w os,⟨denote treeTable sG,sG,mG,B0⟩):=by
 have h:PySem.W.Fast.tw15667345088766844465 PySem.W.Fast.tw14364793385576792824 pw w 11 pV 12 ⟨boot_heap w.params, #[],boot_drawn,boot_toks,os⟩ (topStub pw)=some (sH w os,⟨PySem.W.Fast.tw11892475500146522536 PySem.W.Fast.tw14364793385576792824 sG,sG,mG,B0⟩):=by kernel_rfl
 rw[PySem.W.Fast.te15667345088766844465,PySem.W.Fast.te14364793385576792824,PySem.W.Fast.te11892475500146522536]
 exact h
theorem AZ(w:World)(os:OsState):segRun treeTable pw w 11 pV 1 1 (sH w os) (blockOf (behindTheImports pw) vl sG mG B0)=some (.next,(sT w os).abs,sG,mG):=by
 have h:PySem.W.Fast.tw14374325043358763698 PySem.W.Fast.tw14364793385576792824 pw w 11 pV 1 1 (sH w os) (blockOf (behindTheImports pw) vl sG mG B0)=some (.next,(sT w os).abs,sG,mG):=by kernel_rfl
 rw[PySem.W.Fast.te14374325043358763698,PySem.W.Fast.te14364793385576792824]
 exact h
theorem Co(w:World)(s:Shared)(pos:Pos):topRun treeTable pw w 11 pV 2 s ⟨doneF .next,sG,pos,B0⟩=some s:=by
 kernel_rfl
noncomputable abbrev qB:List Str:=importedModules pw.main.body
noncomputable abbrev A3(s:Shared):Bool:=xlAt q0 [] s&&recOk (OpenLaw.row Ak).toRowW.records s
noncomputable abbrev rO:Pos:={line:=343,col:=0,endLine:=373,endCol:=61}
abbrev B5:Type:=Option (Flow×SharedT×Code×Pos)
noncomputable def ls{β α:Type}(st:Shared→Bool)(S:Shared→β)(O:Shared→α):B5→Option (Code×Pos×Bool×β×α)
 |some (.next,s',c',p')=>some (c',p',st s'.abs,S s'.abs,O s'.abs)
 |_=>none
theorem qf{β α:Type}{st:Shared→Bool}{S:Shared→β}{O:Shared→α}{seg:B5}{c:Code}{p:Pos}{b:Bool}{x':β}{y:α}(h:ls st S O seg=some (c,p,b,x',y)):
 ∃s',seg=some (.next,s',c,p)∧st s'.abs=b∧S s'.abs=x'∧O s'.abs=y:=by
 cases seg with
 |none=>exact absurd h.symm (Option.some_ne_none _)
 |some x=>
  obtain⟨f,s',c',p'⟩:=x
  cases f with
  |next=>
   have h:(c',p',st s'.abs,S s'.abs,O s'.abs)=(c,p,b,x',y):=Option.some.inj h
   have h1:c'=c:=congrArg (fun z=>z.1) h
   have h2:p'=p:=congrArg (fun z=>z.2.1) h
   subst h1 h2
   exact⟨s',rfl,congrArg (fun z=>z.2.2.1) h,congrArg (fun z=>z.2.2.2.1) h,congrArg (fun z=>z.2.2.2.2) h⟩
  |_=>exact absurd h.symm (Option.some_ne_none _)
theorem Ab{tb:String→Option Builtin}{p:Program}{w:World}{n0 N1 N2 N3 N4:Nat}{ann:Option Value}{c:Code}{q pos rO:Pos}{env:Env}{s s1:Shared}{b:List Stmt}{S:SharedT}{seg:B5}{β α:Type}{g:β}{y:α}{F:Shared→β}{O:Shared→α}
 (G7:segRunT tb p w n0 ann 1 N3 S (piecesOf b env c pos [topFrame q])=seg) (hb:behindTheImports p=b)
 (pre:topGo tb p w n0 ann N1 s (topStub p)=some (s1,⟨denote tb (.body b env),c,pos,[topFrame q]⟩))
 (block:segRun tb p w n0 ann 1 N2 s1 (blockOf b env c pos [topFrame q])=some (.next,S.abs,c,pos))
 (fin:∀s,topRun tb p w n0 ann N4 s ⟨doneF .next,c,rO,[topFrame q]⟩=some s)
 (z:(s.heap.isNs mainGlobals&&s.gens.size==0,s.heap.objs.size,s.heap.nsMap mainGlobals "__annotations__")=(true,n0,ann))
 (h:ls (fun s'=>staticsOk (importedModules p.main.body) s.heap s'.heap&&namesBound p s'.heap&&gensDone s'&&laidKept s.heap s'.heap) F O seg=some (c,rO,true,g,y)):
 (topFrom tb p w (N1+(N2+(N3+N4))) s).map (fun s=>(F s,O s))=some (g,y):=by
 obtain⟨s',rfl,e3,e4,e5⟩:=qf h
 have z1:=congrArg (fun x=>x.1) z
 have z2:=congrArg (fun x=>x.2.1) z
 have z3:=congrArg (fun x=>x.2.2) z
 dsimp only at z1 z2 z3
 have r:topRun tb p w n0 ann (N1+(N2+(N3+N4))) s (topStub p)=some s'.abs:=by
  have k1:=piece_app (env:=env) (q:=q) (l:=b) (rest:=[]) (segRun_of G7) (piece_nil (fin s'.abs))
  rw[List.append_nil]at k1
  exact go_top pre (piece_block block k1)
 unfold topFrom
 rw[z1]
 show Option.map _ (Option.bind (topRun tb p w s.heap.objs.size (s.heap.nsMap mainGlobals "__annotations__") _ s _) _)=_
 rw[z2,z3,r]
 show Option.map _ (match staticsOk (importedModules p.main.body) s.heap s'.abs.heap&&namesBound p s'.abs.heap&&gensDone s'.abs&&laidKept s.heap s'.abs.heap with|true=>some s'.abs|false=>none)=_
 rw[e3]
 show some (F s'.abs,O s'.abs)=_
 rw[e4,e5]
noncomputable abbrev Ca(w:World)(s':Shared):Bool:=staticsOk qB (boot_heap w.params) s'.heap&&namesBound pw s'.heap&&gensDone s'&&laidKept (boot_heap w.params) s'.heap
theorem Cc(w:World)(os:OsState):ls (Ca (w.withFollow "special-get-raises" false)) (PySem.W.Fast.tw4187177175401517315 q0 fe qB A3 true) H0.obs
 (PySem.W.Fast.tw10110043849684766642 PySem.W.Fast.tw14364793385576792824 pw (w.withFollow "special-get-raises" false) 11 pV 1 4000 (sT (w.withFollow "special-get-raises" false) os) (piecesOf (behindTheImports pw) vl sG mG B0))=
 some (sG,rO,true,openGood q0 fe,H0.val (w.withFollow "special-get-raises" false)):=by kernel_rfl
theorem Cb(w:World)(os:OsState):ls (Ca (w.withFollow "special-get-raises" true)) (PySem.W.Fast.tw4187177175401517315 q0 fe qB A3 true) H0.obs
 (PySem.W.Fast.tw10110043849684766642 PySem.W.Fast.tw14364793385576792824 pw (w.withFollow "special-get-raises" true) 11 pV 1 4000 (sT (w.withFollow "special-get-raises" true) os) (piecesOf (behindTheImports pw) vl sG mG B0))=
 some (sG,rO,true,openGood q0 fe,H0.val (w.withFollow "special-get-raises" true)):=by kernel_rfl
noncomputable abbrev N0:Nat:=12+(1+(4000+2))
theorem Bh(P:Params):((boot_heap P).isNs mainGlobals&&(#[]:Array GenState).size==0,(boot_heap P).objs.size,(boot_heap P).nsMap mainGlobals "__annotations__")=(true,11,pV):=by kernel_rfl
theorem Be{w:World}{os:OsState}(h:ls (Ca w) (openSeen q0 fe qB A3 true) H0.obs (segRunT treeTable pw w 11 pV 1 4000 (sT w os) (piecesOf (behindTheImports pw) vl sG mG B0))=some (sG,rO,true,openGood q0 fe,H0.val w)):
 (topFrom treeTable pw w N0 ⟨boot_heap w.params, #[],boot_drawn,boot_toks,os⟩).map (fun s=>(openSeen q0 fe qB A3 true s,H0.obs s))=some (openGood q0 fe,H0.val w):=
 Ab (s:=⟨boot_heap w.params, #[],boot_drawn,boot_toks,os⟩) rfl rfl (Cg w os) (AZ w os) (fun s=>Co w s rO) (Bh w.params) h
theorem BG:LeftO pw q0 fe A3 H0.obs H0.val N0:=LeftO.of_split "special-get-raises" fun w=>by
 have bo:=boot_open (p:=pw) (N:=N0) (by kernel_rfl) (by rfl) (fun s=>by kernel_rfl) w
 obtain⟨⟨h,gs,d,k,os⟩,e,e'⟩:=Option.map_eq_some_iff.mp bo
 have e':(h,gs,d,k)=(boot_heap w.params, #[],boot_drawn,boot_toks):=e'
 have e1:h=boot_heap w.params:=congrArg (fun z=>z.1) e'
 have e2:gs= #[]:=congrArg (fun z=>z.2.1) e'
 have e3:d=boot_drawn:=congrArg (fun z=>z.2.2.1) e'
 have e4:k=boot_toks:=congrArg (fun z=>z.2.2.2) e'
 subst e1 e2 e3 e4
 rw[e]
 have f:=Cc w os
 have t:=Cb w os
 rw[←PySem.W.Fast.te10110043849684766642,←PySem.W.Fast.te14364793385576792824,←PySem.W.Fast.te4187177175401517315]at f t
 exact congrArg some (Prod.ext (Be (w:=w.withFollow "special-get-raises" false) f) (Be (w:=w.withFollow "special-get-raises" true) t))
noncomputable def BU:DefRec:={name:=ofString "law",params:=pH (dM 41),body:=tO (dM 41),scope:=mi (dM 41),pos:={line:=343,col:=0,endLine:=373,endCol:=61}}
theorem CI(h:WalkO q0 fe (XL q0 []) H0.says (OpenLaw.row Ak).toRowW BU [] fun f vs=>PySem.call f vs):Ak.Holds:=by
 refine holds_law d7 fun d7=>?_
 refine holds_open (q:=q0) (loose:=fe) (Xt:=A3) (XP:=XL q0 []) (Yf:=H0.obs) (Ya:=H0.val) (YP:=H0.says) (N:=N0) BG (Hook.of H0) (Hook.keeps H0) (fun s e=>xl_of s (Bool.and_eq_true_iff.mp e).1) XL.keeps ?_ ?_ ?_ (fun s e=>recFacts_of (Bool.and_eq_true_iff.mp e).2) ?_ d7 ?_ ⟨rfl,rfl,rfl,rfl,rfl,?_⟩ ?_ h
 ·kernel_rfl
 ·kernel_rfl
 ·kernel_rfl
 ·rfl
 ·decide+kernel
 ·decide+kernel
 ·exact⟨[.list [.int 3]],by decide+kernel,by decide+kernel⟩
end
instance:Nonempty World:=⟨⟨fun zz zz=>0,⟨fun zz=>0,fun zz=>0,id,fun zz=>0,fun zz zz=>0,fun zz=>false,fun zz=>0,.refcount,.text,fun zz=>0,fun zz=>none,fun zz=>false,fun zz zz zz=>false,fun zz zz zz=>false,false,fun zz=>false,fun zz=>none,fun zz=>none,fun zz zz zz=>0,fun zz zz=>none,fun zz=>none,fun zz=>(0,false,"UTC"),fun zz=>none,id,fun zz=>false⟩⟩⟩
instance:Nonempty Shared:=⟨{}⟩
instance:Nonempty Around:=⟨{}⟩
instance:Nonempty Drawn:=⟨{}⟩
instance:Nonempty Model:=⟨⟨fun zz=> .pure (.done .next),default,Classical.ofNonempty⟩⟩
set_option genInjectivity false in
structure Cx where
 prog:Program
 w:World
 K:Frag
 hb:Heap
 mg:Str→Option Value
 mb:Str→Option Value
structure zj(c:Cx):Prop where
 X:c.K.In c.hb
 g:c.hb.Ns mainGlobals c.mg
 b:c.hb.Ns builtinsNs c.mb
 nolimit:c.hb.NoLimit
 builtins:∀x:Str,x≠"__name__"→c.mb x=bootBuiltins x
 sys:∃a o,sysModules≤a∧c.hb.get? a=some o
abbrev Wh:=World×Shared×(Str→Option Value)×(Str→Option Value)
structure Fa(x:Wh):Prop where
 X:(sh x.1.params).In x.2.1.heap
 g:x.2.1.heap.Ns mainGlobals x.2.2.1
 b:x.2.1.heap.Ns builtinsNs x.2.2.2
 nl:x.2.1.heap.NoLimit
 bu:∀y:Str,y≠"__name__"→x.2.2.2 y=bootBuiltins y
 bm:∃bm ob,BMod x.2.1.heap mainGlobals x.2.2.1 bm ob
def xw(x:Wh):Prop:=∀(la n:Nat) (vs:Array Value) (is:List Int) (R:Result→Shared→Prop),is.length≤63→x.2.1.heap.get? la=some {cls:= .type "list",data:= .seq vs n}→IntsAre vs.toList is→
 (∀h' t' ps,(∀b o,b≠434→x.2.1.heap.get? b=some o→h'.get? b=some o)→h'.get? 434=some (tabObj ps)→R (.ok (.ret (.bool true))) {x.2.1 with heap:=h',toks:=t'})→
 codeAny (model pw x.1) callerA (.call (.ref 437) ⟨[.ref la],[]⟩) R x.2.1
@[irreducible] noncomputable def st:Wh:=Classical.epsilon fun x=>Fa x∧¬xw x
theorem Af(h:Fa st→xw st)(x:Wh)(hx:Fa x):xw x:=bc fun q=>by
 have e:= @Classical.epsilon_spec_aux _ ⟨x⟩ (fun x=>Fa x∧¬xw x) ⟨x,hx,q⟩
 delta st at h
 exact e.2 (h e.1)
@[irreducible] noncomputable def cx:Cx:=⟨pw,st.1,kW st.1.params,hideAll st.2.1.heap [434],st.2.2.1,st.2.2.2⟩
section
noncomputable abbrev Cx.M(cx:Cx):Model:=model cx.prog cx.w
inductive D where
 |none
 |bool (b:Bool)
 |int (i:Int)
 |str (x:Str)
 |tup (ds:List D)
 |lst (ds:List D)
 |dS (kvs:List (Str×D))
 |dT (kvs:List (List Str×D))
 |ins (C:Addr) (fs:List (Str×D))
 |ref (a:Addr)
 |rng (n:Int)
 deriving Inhabited
abbrev am:=Addr→Option Obj
def am.le(Z Z':am):Prop:=∀a o,Z a=some o→Z' a=some o
theorem am.le_refl(Z:am):Z.le Z:=fun zz zz h=>h
theorem am.le_trans{Z Z' Gm:am}(h:Z.le Z')(h':Z'.le Gm):Z.le Gm:=fun a o e=>h' a o (h a o e)
def bv(x:Str):Prop:=x.length≤1048576∧PyData.strOk x=true
noncomputable abbrev Cx.sk(cx:Cx):KeyKind cx.prog cx.w Str:=PySem.strKind cx.prog cx.w
noncomputable abbrev Cx.tk(cx:Cx):HeapKind cx.prog cx.w (List Str):=tupleKind cx.sk
inductive dQ:List Value→List Str→Prop
 |nil:dQ [] []
 |cons {vs ks} (x:Str) (t:Tok):bv x→dQ vs ks→dQ (.str x t::vs) (x::ks)
noncomputable abbrev qj(n:Int)(t u v:Tok):Obj:={cls:= .type "range",data:= .fields #[.int 0 t,.int n u,.int 1 v]}
def eM(Z:am)(ks:List Str)(a:Addr):Prop:=
 ∃o items n,Z a=some o∧o.cls= .type "tuple"∧o.data= .seq items n∧dQ items.toList ks
def iV(o:Obj)(xs:List (Str×Value)):Prop:=∃es ep,o.data= .dict es ep∧StrKeys es∧es.size=xs.length∧∀name,nsFind es name=valueAt xs name
mutual
inductive aw(Z:am):Value→D→Prop
 |none:aw Z .none .none
 |bool (b):aw Z (.bool b) (.bool b)
 |int (i t):aw Z (.int i t) (.int i)
 |str (x t):bv x→aw Z (.str x t) (.str x)
 |tup {a o vs n ds}:Z a=some o→o.cls= .type "tuple"→o.data= .seq vs n→aB Z vs.toList ds→aw Z (.ref a) (.tup ds)
 |lst {a o vs n ds}:Z a=some o→(o.cls= .type "list"∧o.dict=none)→o.data= .seq vs n→aB Z vs.toList ds→aw Z (.ref a) (.lst ds)
 |dS {a o xs kvs}:Z a=some o→o.IsDictOf cx.sk xs→bK Z xs kvs→a≠sysModules→(∀kv∈kvs,bv kv.1)→aw Z (.ref a) (.dS kvs)
 |dT {a o es ep xs kvs}:Z a=some o→o.ExactDict→o.data= .dict es ep→es.toList=xs.map (entryOfKey cx.tk)→(∀x∈xs,eM Z x.1 x.2.1)→(xs.map (·.1)).Nodup→
  cJ Z xs kvs→a≠sysModules→aw Z (.ref a) (.dT kvs)
 |ins {a C da o xs fs}:Z a=some (instObj C da)→Z da=some o→iV o xs→bK Z xs fs→aw Z (.ref a) (.ins C fs)
 |ref (a):aw Z (.ref a) (.ref a)
 |rng {a n t u v}:Z a=some (qj n t u v)→aw Z (.ref a) (.rng n)
inductive aB(Z:am):List Value→List D→Prop
 |nil:aB Z [] []
 |cons {v d vs ds}:aw Z v d→aB Z vs ds→aB Z (v::vs) (d::ds)
inductive bK(Z:am):List (Str×Value)→List (Str×D)→Prop
 |nil:bK Z [] []
 |cons {k v d xs ds}:aw Z v d→bK Z xs ds→bK Z ((k,v)::xs) ((k,d)::ds)
inductive cJ(Z:am):List (List Str×Addr×Value)→List (List Str×D)→Prop
 |nil:cJ Z [] []
 |cons {k a v d xs ds}:aw Z v d→cJ Z xs ds→cJ Z ((k,a,v)::xs) ((k,d)::ds)
end
theorem eM.mono{Z Z':am}(hz:Z.le Z'){ks:List Str}{a:Addr}(h:eM Z ks a):eM Z' ks a:=
 let⟨o,items,n,e,r⟩:=h;⟨o,items,n,hz _ _ e,r⟩
theorem aw.mono{Z Z':am}(hz:Z.le Z'){x:Value}{d:D}(h:aw Z x d):aw Z' x d:=
 aw.rec (motive_1:=fun v d zz=>aw Z' v d) (motive_2:=fun v d zz=>aB Z' v d) (motive_3:=fun v d zz=>bK Z' v d) (motive_4:=fun v d zz=>cJ Z' v d) aw.none (fun b=> .bool b) (fun i t=> .int i t) (fun x t h=> .str x t h) (fun h1 h2 h3 zz ih=> .tup (hz _ _ h1) h2 h3 ih) (fun h1 h2 h3 zz ih=> .lst (hz _ _ h1) h2 h3 ih) (fun h1 h2 zz h4 h5 ih=> .dS (hz _ _ h1) h2 ih h4 h5)
  (fun h1 h2 h3 h4 h5 h6 zz h8 ih=> .dT (hz _ _ h1) h2 h3 h4 (fun x hx=>(h5 x hx).mono hz) h6 ih h8) (fun h1 h2 h3 zz ih=> .ins (hz _ _ h1) (hz _ _ h2) h3 ih) (fun a=> .ref a) (fun h=> .rng (hz _ _ h)) aB.nil (fun zz zz a b=> .cons a b) bK.nil (fun zz zz a b=> .cons a b) cJ.nil (fun zz zz a b=> .cons a b) h
theorem aB.mono{Z Z':am}(hz:Z.le Z'){x:List Value}{d:List D}(h:aB Z x d):aB Z' x d:=
 aB.rec (motive_1:=fun v d zz=>aw Z' v d) (motive_2:=fun v d zz=>aB Z' v d) (motive_3:=fun v d zz=>bK Z' v d) (motive_4:=fun v d zz=>cJ Z' v d) aw.none (fun b=> .bool b) (fun i t=> .int i t) (fun x t h=> .str x t h) (fun h1 h2 h3 zz ih=> .tup (hz _ _ h1) h2 h3 ih) (fun h1 h2 h3 zz ih=> .lst (hz _ _ h1) h2 h3 ih) (fun h1 h2 zz h4 h5 ih=> .dS (hz _ _ h1) h2 ih h4 h5)
  (fun h1 h2 h3 h4 h5 h6 zz h8 ih=> .dT (hz _ _ h1) h2 h3 h4 (fun x hx=>(h5 x hx).mono hz) h6 ih h8) (fun h1 h2 h3 zz ih=> .ins (hz _ _ h1) (hz _ _ h2) h3 ih) (fun a=> .ref a) (fun h=> .rng (hz _ _ h)) aB.nil (fun zz zz a b=> .cons a b) bK.nil (fun zz zz a b=> .cons a b) cJ.nil (fun zz zz a b=> .cons a b) h
theorem bK.mono{Z Z':am}(hz:Z.le Z'){x:List (Str×Value)}{d:List (Str×D)}(h:bK Z x d):bK Z' x d:=
 bK.rec (motive_1:=fun v d zz=>aw Z' v d) (motive_2:=fun v d zz=>aB Z' v d) (motive_3:=fun v d zz=>bK Z' v d) (motive_4:=fun v d zz=>cJ Z' v d) aw.none (fun b=> .bool b) (fun i t=> .int i t) (fun x t h=> .str x t h) (fun h1 h2 h3 zz ih=> .tup (hz _ _ h1) h2 h3 ih) (fun h1 h2 h3 zz ih=> .lst (hz _ _ h1) h2 h3 ih) (fun h1 h2 zz h4 h5 ih=> .dS (hz _ _ h1) h2 ih h4 h5)
  (fun h1 h2 h3 h4 h5 h6 zz h8 ih=> .dT (hz _ _ h1) h2 h3 h4 (fun x hx=>(h5 x hx).mono hz) h6 ih h8) (fun h1 h2 h3 zz ih=> .ins (hz _ _ h1) (hz _ _ h2) h3 ih) (fun a=> .ref a) (fun h=> .rng (hz _ _ h)) aB.nil (fun zz zz a b=> .cons a b) bK.nil (fun zz zz a b=> .cons a b) cJ.nil (fun zz zz a b=> .cons a b) h
theorem cJ.mono{Z Z':am}(hz:Z.le Z'){x:List (List Str×Addr×Value)}{d:List (List Str×D)}(h:cJ Z x d):cJ Z' x d:=
 cJ.rec (motive_1:=fun v d zz=>aw Z' v d) (motive_2:=fun v d zz=>aB Z' v d) (motive_3:=fun v d zz=>bK Z' v d) (motive_4:=fun v d zz=>cJ Z' v d) aw.none (fun b=> .bool b) (fun i t=> .int i t) (fun x t h=> .str x t h) (fun h1 h2 h3 zz ih=> .tup (hz _ _ h1) h2 h3 ih) (fun h1 h2 h3 zz ih=> .lst (hz _ _ h1) h2 h3 ih) (fun h1 h2 zz h4 h5 ih=> .dS (hz _ _ h1) h2 ih h4 h5)
  (fun h1 h2 h3 h4 h5 h6 zz h8 ih=> .dT (hz _ _ h1) h2 h3 h4 (fun x hx=>(h5 x hx).mono hz) h6 ih h8) (fun h1 h2 h3 zz ih=> .ins (hz _ _ h1) (hz _ _ h2) h3 ih) (fun a=> .ref a) (fun h=> .rng (hz _ _ h)) aB.nil (fun zz zz a b=> .cons a b) bK.nil (fun zz zz a b=> .cons a b) cJ.nil (fun zz zz a b=> .cons a b) h
section
variable{Z:am}
theorem aw.noneE{motive:∀v,aw Z v .none→Prop}(none:motive .none .none){v:Value}(r:aw Z v .none):motive v r:=by cases r;exact none
theorem aw.E2{b:Bool}{motive:∀v,aw Z v (.bool b)→Prop}(bool:motive (.bool b) (.bool b)){v:Value}(r:aw Z v (.bool b)):motive v r:=by cases r;exact bool
theorem aw.CW{i:Int}{motive:∀v,aw Z v (.int i)→Prop}(int:∀t,motive (.int i t) (.int i t)){v:Value}(r:aw Z v (.int i)):motive v r:=by cases r with|int _ t=>exact int t
theorem aw.CV{x:Str}{motive:∀v,aw Z v (.str x)→Prop}(str:∀t (h:bv x),motive (.str x t) (.str x t h)){v:Value}(r:aw Z v (.str x)):motive v r:=by cases r with|str _ t h=>exact str t h
theorem aw.Fv{ds:List D}{motive:∀v,aw Z v (.tup ds)→Prop}(tup:∀{a o vs n} (h1:Z a=some o) (h2:o.cls= .type "tuple") (h3:o.data= .seq vs n) (h4:aB Z vs.toList ds),motive (.ref a) (.tup h1 h2 h3 h4)){v:Value}(r:aw Z v (.tup ds)):motive v r:=by cases r with|tup h1 h2 h3 h4=>exact tup h1 h2 h3 h4
theorem aw.Dw{ds:List D}{motive:∀v,aw Z v (.lst ds)→Prop}(lst:∀{a o vs n} (h1:Z a=some o) (h2:o.cls= .type "list"∧o.dict=Option.none) (h3:o.data= .seq vs n) (h4:aB Z vs.toList ds),motive (.ref a) (.lst h1 h2 h3 h4)){v:Value}(r:aw Z v (.lst ds)):motive v r:=by cases r with|lst h1 h2 h3 h4=>exact lst h1 h2 h3 h4
theorem aw.C5{a:Addr}{motive:∀v,aw Z v (.ref a)→Prop}(ref:motive (.ref a) (.ref a)){v:Value}(r:aw Z v (.ref a)):motive v r:=by cases r;exact ref
theorem aw.ET{C:Addr}{fs:List (Str×D)}{motive:∀v,aw Z v (.ins C fs)→Prop}(ins:∀{a da o xs} (h1:Z a=some (instObj C da)) (h2:Z da=some o) (h3:iV o xs) (h4:bK Z xs fs),motive (.ref a) (.ins h1 h2 h3 h4)){v:Value}(r:aw Z v (.ins C fs)):motive v r:=by cases r with|ins h1 h2 h3 h4=>exact ins h1 h2 h3 h4
theorem aw.Ft{kvs:List (Str×D)}{motive:∀v,aw Z v (.dS kvs)→Prop}(dS:∀{a o xs} (h1:Z a=some o) (h2:o.IsDictOf cx.sk xs) (h3:bK Z xs kvs) (h4:a≠sysModules) (h5:∀kv∈kvs,bv kv.1),motive (.ref a) (.dS h1 h2 h3 h4 h5)){v:Value}(r:aw Z v (.dS kvs)):motive v r:=by cases r with|dS h1 h2 h3 h4 h5=>exact dS h1 h2 h3 h4 h5
theorem aw.FM{kvs:List (List Str×D)}{motive:∀v,aw Z v (.dT kvs)→Prop}(dT:∀{a o es ep xs} (h1:Z a=some o) (h2:o.ExactDict) (h3:o.data= .dict es ep) (h4:es.toList=xs.map (entryOfKey cx.tk)) (h5:∀x∈xs,eM Z x.1 x.2.1) (h6:(xs.map (·.1)).Nodup) (h7:cJ Z xs kvs) (h8:a≠sysModules),motive (.ref a) (.dT h1 h2 h3 h4 h5 h6 h7 h8)){v:Value}(r:aw Z v (.dT kvs)):motive v r:=by cases r with|dT h1 h2 h3 h4 h5 h6 h7 h8=>exact dT h1 h2 h3 h4 h5 h6 h7 h8
theorem aB.Da{motive:∀vs,aB Z vs []→Prop}(nil:motive [] .nil){vs:List Value}(r:aB Z vs []):motive vs r:=by cases r;exact nil
theorem aB.CS{d:D}{ds:List D}{motive:∀vs,aB Z vs (d::ds)→Prop}(cons:∀{v vs} (h:aw Z v d) (r:aB Z vs ds),motive (v::vs) (.cons h r)){vs:List Value}(r:aB Z vs (d::ds)):motive vs r:=by cases r with|cons h r=>exact cons h r
theorem aB.length{ds:List D}:∀{vs:List Value},aB Z vs ds→vs.length=ds.length:=by
 induction ds with
 |nil=>intro vs r;cases r using aB.Da;rfl
 |cons d ds ih=>intro vs r;cases r using aB.CS with
  |cons h r=>exact congrArg (·+1) (ih r)
theorem aB.append{vs ws:List Value}{ds es:List D}(r:aB Z vs ds)(k:aB Z ws es):aB Z (vs++ws) (ds++es):=by
 induction ds generalizing vs with
 |nil=>cases r using aB.Da;exact k
 |cons d ds ih=>cases r using aB.CS with
  |cons h r=>exact aB.cons h (ih r)
theorem aB.one{v:Value}{d:D}(h:aw Z v d):aB Z [v] [d]:= .cons h .nil
theorem aB.get{d:D}{ds:List D}:∀{vs:List Value} {k:Nat},aB Z vs ds→ds[k]?=some d→∃v,vs[k]?=some v∧aw Z v d:=by
 induction ds with
 |nil=>intro vs k r e;exact nS e
 |cons d ds ih=>intro vs k r e;cases r using aB.CS with
  |cons h r=>cases k with
   |zero=>(replace e:=sI e;subst e);exact(aP _ rfl h)
   |succ k=>have:=ih r e;exact this
theorem aB.Fh{v:Value}{ds:List D}:∀{vs:List Value} {k:Nat},aB Z vs ds→vs[k]?=some v→∃d,ds[k]?=some d∧aw Z v d:=by
 induction ds with
 |nil=>intro vs k r e;cases r using aB.Da;exact nS e
 |cons d ds ih=>intro vs k r e;cases r using aB.CS with
  |cons h r=>cases k with
   |zero=>(replace e:=sI e;subst e);exact(aP _ rfl h)
   |succ k=>have:=ih r e;exact this
end
inductive AO where
 |lst (ds:List D)
 |dS (kvs:List (Str×D))
 |dT (kvs:List (List Str×D))
 |ins (C da:Addr)
 |ns (fs:List (Str×D))
 |exc (C:Addr) (dict:Option Addr)
 |raw (o:Obj)
instance:Nonempty AO:=⟨.lst []⟩
abbrev af:=Addr→Option AO
noncomputable def af.put(σ:af)(a:Addr)(o:AO):af:=fun b=>if b=a then some o else σ b
inductive OM(Z:am)(a:Addr):Obj→AO→Prop
 |lst {vs n ds}:aB Z vs.toList ds→OM Z a {cls:= .type "list",data:= .seq vs n} (.lst ds)
 |dS {o xs kvs}:o.IsDictOf cx.sk xs→bK Z xs kvs→a≠sysModules→(∀kv∈kvs,bv kv.1)→OM Z a o (.dS kvs)
 |dT {o es ep xs kvs}:o.ExactDict→o.data= .dict es ep→es.toList=xs.map (entryOfKey cx.tk)→(∀x∈xs,eM Z x.1 x.2.1)→(xs.map (·.1)).Nodup→
  cJ Z xs kvs→a≠sysModules→OM Z a o (.dT kvs)
 |ins {C da}:OM Z a (instObj C da) (.ins C da)
 |ns {o xs fs}:iV o xs→bK Z xs fs→OM Z a o (.ns fs)
 |exc {C dict t}:OM Z a {cls:= .ref C,dict:=dict,data:= .fields #[.ref t,.none,.none,.none,.bool false,.none]} (.exc C dict)
 |raw {o}:OM Z a o (.raw o)
section
variable{Z:am}{a:Addr}
theorem OM.Dw{ds:List D}{motive:∀o,OM Z a o (.lst ds)→Prop}(lst:∀{vs n} (h:aB Z vs.toList ds),motive {cls:= .type "list",data:= .seq vs n} (.lst h)){o:Obj}(r:OM Z a o (.lst ds)):motive o r:=by cases r with|lst h=>exact lst h
theorem OM.Ft{kvs:List (Str×D)}{motive:∀o,OM Z a o (.dS kvs)→Prop}(dS:∀{o xs} (h1:o.IsDictOf cx.sk xs) (h2:bK Z xs kvs) (h3:a≠sysModules) (h4:∀kv∈kvs,bv kv.1),motive o (.dS h1 h2 h3 h4)){o:Obj}(r:OM Z a o (.dS kvs)):motive o r:=by cases r with|dS h1 h2 h3 h4=>exact dS h1 h2 h3 h4
theorem OM.FM{kvs:List (List Str×D)}{motive:∀o,OM Z a o (.dT kvs)→Prop}(dT:∀{o es ep xs} (h1:o.ExactDict) (h2:o.data= .dict es ep) (h3:es.toList=xs.map (entryOfKey cx.tk)) (h4:∀x∈xs,eM Z x.1 x.2.1) (h5:(xs.map (·.1)).Nodup) (h6:cJ Z xs kvs) (h7:a≠sysModules),motive o (.dT h1 h2 h3 h4 h5 h6 h7)){o:Obj}(r:OM Z a o (.dT kvs)):motive o r:=by cases r with|dT h1 h2 h3 h4 h5 h6 h7=>exact dT h1 h2 h3 h4 h5 h6 h7
theorem OM.ET{C da:Addr}{motive:∀o,OM Z a o (.ins C da)→Prop}(ins:motive (instObj C da) .ins){o:Obj}(r:OM Z a o (.ins C da)):motive o r:=by cases r with|ins=>exact ins
theorem OM.nsE{fs:List (Str×D)}{motive:∀o,OM Z a o (.ns fs)→Prop}(ns:∀{o xs} (h1:iV o xs) (h2:bK Z xs fs),motive o (.ns h1 h2)){o:Obj}(r:OM Z a o (.ns fs)):motive o r:=by cases r with|ns h1 h2=>exact ns h1 h2
end
theorem OM.mono{Z Z':am}(hz:Z.le Z'){a:Addr}{o:Obj}{ao:AO}(h:OM Z a o ao):OM Z' a o ao:=
 OM.rec (motive:=fun o ao zz=>OM Z' a o ao) (fun h=> .lst (h.mono hz)) (fun h1 h2 h3 h4=> .dS h1 (h2.mono hz) h3 h4) (fun h1 h2 h3 h4 h5 h6 h7=> .dT h1 h2 h3 (fun x hx=>(h4 x hx).mono hz) h5 (h6.mono hz) h7) .ins (fun h1 h2=> .ns h1 (h2.mono hz)) .exc .raw h
structure dR(h:Heap)(σ:af)(Z:am):Prop where
 ok:zj cx
 base:∀b o,cx.hb.get? b=some o→Z b=some o
 zone:∀a o,Z a=some o→h.get? a=some o
 own:∀a ao,σ a=some ao→Z a=none∧∃o,h.get? a=some o∧OM Z a o ao
structure eg(foot:Addr→Prop)(fr:Addr→Prop)(h:Heap)(σ:af)(Z:am)(h':Heap)(σ':af)(Z':am):Prop where
 DM:Z.le Z'
 keep:∀b o,¬foot b→σ b=none→h.get? b=some o→∃o',h'.get? b=some o'∧(o'=o∨(fr b∧∃sl,o'={o with slots:=sl}))
 C8:∀a,Z' a≠none→Z a≠none∨σ a≠none∨h.get? a=none
 C1:∀a,σ' a≠none→σ a≠none∨h.get? a=none
 live:∀b,h.get? b≠none→h'.get? b≠none
end
variable{b hdct ab hid:Bool}{m d e tp tf:D}{p pos p2 apos px py pos' Dy p1 p3 lp:Pos}{A A':Around}{E Q N S0 E':Value→Shared→Prop}{s s1 s' s0 s2:Shared}{seg:B5}{tb:String→Option Builtin}{ann k2 k0 k1 k3 k5:Option Value}{env ce:Env}{S fr Fs fr':Addr→Prop}{os:OsState}{Z Z' Gm Z0 Z1:am}{ks sl names slc sn ss vals heads lots:List Str}{a C da f cls fa I a' c' Cl pa sa ta lo:Addr}{x nm qual z x' md:Str}{v a0 dV kV doc pm cdv ct oc it acc ctv:Value}{i k n j ep B nn:Nat}{ds ys:List D}{fs kvs F fx ps:List (Str×D)}{motive:∀vs,aB Z vs []→Prop}{vs first bs bm bmB sub:List Value}{es elts as args ts ifs Df fs1:List Expr}{o target e1 e2 elt iter t0 i0 t1 i1:Expr}{ao DZ:AO}{h0 h':Heap}{σ σ' Ez CP σ1 σ2:af}{xs:List (List Str×Addr×Value)}{u uj:Tok}{op:CmpOp}{prog:Program}{oe:Obj}{Φ EG:D→af→Prop}{l' cl:List (Str×Addr)}{sc:Scope}{kindOf:Str→Option NameKind}{ξ0:List (Option D)}{R RR:Result→Shared→Prop}{params:Arguments}{body:List Stmt}{an od dd dict:Option Addr}{osl:Array (Option Value)}{St:Nat→Heap→Prop}{fp:List Addr}{T:Fin 4→List (Str×Str)}{P3:D→D→D→Prop}{kw:List Keyword}{id newId initId:String}{gs:List Comprehension}{Nx G:Shared→Prop}{P0:Addr→Obj→Prop}{Ψ:List Lz.D→af→Prop}{EA:Array Value}{FL:List Lz.D}{use:Option (Value→Sem Unit)}{g:Array GenState}{col:Option Bool}{cmp:Nat→Nat→(Bool→Shared→Prop)→Shared→Prop}{ow:List (Nat×Nat)}{DN Er:List (Str×Str)}{mg mb:Str→Option Value}
section
def jj(env:Env)(b:Addr):Prop:=b=env.locals∨∃n,env.kindOf n=some .cell∧env.cells.lookup n=some b
def eA(env:Env)(n:Str)(c:Addr):Prop:=(env.kindOf n=some .cell∨env.kindOf n=some .free)∧env.cells.lookup n=some c
def jg(env:Env)(b:Addr):Prop:=b=env.locals∨∃n,eA env n b
theorem jj.mine{b:Addr}(h:jj env b):jg env b:=h.elim .inl fun w0=>aF w0 fun n a c=> .inr ⟨n,.inl a,c⟩
structure FS(env:Env)(sl:List Str):Prop where
 fn:env.scope.kind= .function
 Fo:env.globals=mainGlobals
 HU:env.builtins=builtinsNs
 nodup:sl.Nodup
 kinds:∀n∈sl,env.kindOf n=some .local∨∃c,eA env n c
 inj:∀n n' c,eA env n c→eA env n' c→n=n'
 plain:∀n∈sl,(n==("__debug__" :Str))=false∧(n==("__classdict__" :Str))=false
structure rl(env:Env)(sl:List Str)(h:Heap)(σ:af)(Z:am)(ξ:List (Option D)):Prop where
 len:ξ.length=sl.length
 loc:∃m,h.Ns env.locals m∧∀(i:Nat) (n:Str) (d:D),sl[i]?=some n→env.kindOf n=some .local→ξ[i]?=some (some d)→∃v,m n=some v∧aw Z v d
 cell:∀n c,eA env n c→∃cv,h.IsCell c cv
 DP:∀(i:Nat) (n:Str) (c:Addr) (d:D),sl[i]?=some n→eA env n c→ξ[i]?=some (some d)→∃v,h.IsCell c (some v)∧aw Z v d
 off:∀b,jg env b→σ b=none∧Z b=none
structure jl(A:Around)(n:Nat):Prop where
 handled:A.handled=none
 depth:A.depth+n<1000
 units:A.units+100*n+100<9900
def cm(A:Around)(b:Addr):Prop:=∃l,A.frames=some l∧∃env∈l,env.frame=some b
structure jf(A:Around)(h:Heap)(σ:af)(Z:am):Prop where
 fr:∃l,A.frames=some l∧∀env∈l,env.scope.kind≠ .module∧∃L o,env.frame=some L∧h.get? L=some o∧∀vs,o.data≠ .fields vs
 off:∀b,cm A b→σ b=none∧Z b=none
def fQ(s s':Shared):Prop:=∃h t,s'={s with heap:=h,toks:=t}
theorem fQ.refl(s:Shared):fQ s s:=(mD _ _ rfl)
theorem fQ.trans{s'':Shared}(a:fQ s s')(b:fQ s' s''):fQ s s'':=by
 refine jm a fun h t q2=>?_;clear a;subst q2;refine jm b fun h' t' q2=>?_;clear b;subst q2;exact(mD h' t' rfl)
theorem fQ.next(a:fQ s s')(h:Heap)(t:Nat):fQ s {s' with heap:=h,toks:=t}:=a.trans (mD h t rfl)
structure GS(A:Around)(env:Env)(sl:List Str)(s0:Shared)(CP:af)(Z0:am)(s:Shared)(σ:af)(Z:am)(ξ:List (Option D)):Prop where
 grow:eg (jj env) (cm A) s0.heap CP Z0 s.heap σ Z
 inv:dR s.heap σ Z
 CT:rl env sl s.heap σ Z ξ
 stk:jf A s.heap σ Z
 same:fQ s0 s
def iW(C:Addr)(h0 h:Heap)(σ:af)(Z:am)(e:Addr):Prop:=
 h0.get? e=none∧σ e=none∧Z e=none∧∃oe vs a0,h.get? e=some oe∧oe.cls= .ref C∧oe.data= .fields vs∧vs[0]?=some a0∧
  (vs[1]?=some .none∨∃T oT ts,vs[1]?=some (.ref T)∧T≠e∧h.get? T=some oT∧oT.data= .fields ts∧ts[3]?=some .none∧h0.get? T=none∧σ T=none∧Z T=none)
theorem iW.low{h0' h:Heap}{e:Addr}(hl:∀b,h0'.get? b=none→h0.get? b=none)(x:iW C h0' h σ Z e):iW C h0 h σ Z e:=
 fU x fun x1 x2 x3 oe vs a0 x4 x5 x6 x7 x8=>⟨hl _ x1,x2,x3,cV oe vs a0 x4 x5 x6 x7 (x8.imp id fun w=>fC w fun T oT ts t1 t2 t3 t4 t5 w=>dB T oT ts t1 t2 t3 t4 t5 ⟨hl _ w.1,w.2⟩)⟩
structure GX(A:Around)(foot:Addr→Prop)(C:Addr)(s0:Shared)(CP:af)(Z0:am)(s:Shared)(σ:af)(Z:am)(e:Addr):Prop where
 grow:eg foot (cm A) s0.heap CP Z0 s.heap σ Z
 inv:dR s.heap σ Z
 stk:jf A s.heap σ Z
 same:fQ s0 s
 exc:iW C s0.heap s.heap σ Z e
def xx(A:Around)(env:Env)(C:Addr)(s0:Shared)(CP:af)(Z0:am)(X:af→Prop)(E:Value→Shared→Prop):Prop:=
 PassesOwn cx.M A env E∧∀e s σ Z,GX A (jj env) C s0 CP Z0 s σ Z e→X σ→E (.ref e) s
section
variable{ξ:List (Option D)}
theorem GS.toks(G:GS A env sl s0 CP Z0 s σ Z ξ)(t:Nat):GS A env sl s0 CP Z0 {s with toks:=t} σ Z ξ:=
 ⟨G.grow,G.inv,G.CT,G.stk,G.same.next _ _⟩
theorem rl.keeps{h:Heap}(F:rl env sl h σ Z ξ)(hk:∀b o,jg env b→h.get? b=some o→∃o',h'.get? b=some o'∧o'.data=o.data)(hz:Z.le Z')
 (ho:∀b,jg env b→σ' b=none∧Z' b=none):rl env sl h' σ' Z' ξ:=by
 have Fu:∀n c cv,eA env n c→h.IsCell c cv→h'.IsCell c cv:=fun n c cv hn w0=>aF w0 fun o e hd=>by
  refine aF (hk c o (.inr (iE n hn)) e) fun o' e' d'=>?_
  exact(aP o' e' (d'.trans hd))
 refine⟨F.len,?_,fun n c hn=>?_,fun i n c d h1 h2 h3=>?_,ho⟩
 ·refine aF (F.loc) fun m w1 hm=>?_;obtain⟨o,es,ep,e,hd,hk1,hk2⟩:=w1
  refine aF (hk _ _ (.inl rfl) e) fun o' e' d'=>?_
  exact⟨m,⟨o',es,ep,e',d'.trans hd,hk1,hk2⟩,fun i n d h1 h2 h3=>let⟨v,a,b⟩:=hm i n d h1 h2 h3;⟨v,a,b.mono hz⟩⟩
 ·refine xE (F.cell n c hn) fun cv hc=>?_
  exact(iE cv (Fu n c cv hn hc))
 ·refine aF (F.DP i n c d h1 h2 h3) fun v hc hr=>?_
  exact(aP v (Fu n c _ h2 hc) (hr.mono hz))
theorem jf.keeps{h:Heap}(S:jf A h σ Z)(hk:∀b o,cm A b→h.get? b=some o→∃o',h'.get? b=some o'∧o'.data=o.data)
 (ho:∀b,cm A b→σ' b=none∧Z' b=none):jf A h' σ' Z':=by
 refine aF (S.fr) fun l hl hf=>?_
 refine⟨(aP l hl (fun env' he=>?_)),ho⟩
 refine dZ (hf env' he) fun hm L o h1 h2 h3=>?_
 refine aF (hk L o (gn l hl env' he h1) h2) fun o' e' d'=>?_
 exact(gJ hm L o' h1 e' (fun vs q=>h3 vs (d'▸q)))
theorem eg.refl(foot fr:Addr→Prop)(h:Heap)(σ:af)(Z:am):eg foot fr h σ Z h σ Z:=
 ⟨am.le_refl Z,fun zz o zz zz e=>(aP o e (.inl rfl)),fun zz h=> .inl h,fun zz h=> .inl h,fun zz h=>h⟩
theorem eg.trans{foot:Addr→Prop}{h h'':Heap}(a:eg foot fr h σ Z h' σ' Z')(b:eg foot fr h' σ' Z' h'' Ez Gm):eg foot fr h σ Z h'' Ez Gm:=by
 have dead:∀x,h'.get? x=none→h.get? x=none:=fun x e=>by
  cases q:h.get? x with
  |none=>rfl
  |some o=>exact absurd e (a.live x (by refine rE q ?_;simp))
 refine⟨am.le_trans a.DM b.DM,fun x o hf hs e=>?_,fun x hx=>?_,fun x hx=>?_,fun x hx=>b.live x (a.live x hx)⟩
 ·refine aF (a.keep x o hf hs e) fun o1 e1 q1=>?_
  have hs':σ' x=none:=by
   cases q:σ' x with
   |none=>rfl
   |some _=>rcases a.C1 x (by refine rE q ?_;simp)with h1|h1
            ·exact absurd hs h1
            ·rw[e]at h1;exact sN h1
  refine aF (b.keep x o1 hf hs' e1) fun o2 e2 q2=>?_
  refine(aP o2 e2 ?_)
  rcases q1 with rfl|⟨f1,Fw,rfl⟩
  ·exact q2
  ·rcases q2 with rfl|⟨f2,sl2,rfl⟩
   ·exact .inr (vy f1 Fw rfl)
   ·exact .inr (vy f1 sl2 rfl)
 ·rcases b.C8 x hx with h1|h1|h1
  ·exact a.C8 x h1
  ·rcases a.C1 x h1 with h2|h2
   ·exact .inr (.inl h2)
   ·exact .inr (.inr h2)
  ·exact .inr (.inr (dead x h1))
 ·rcases b.C1 x hx with h1|h1
  ·exact a.C1 x h1
  ·exact .inr (dead x h1)
theorem GS.fresh{t:Nat}(G:GS A env sl s0 CP Z0 s σ Z ξ)(hk:∀b o,s.heap.get? b=some o→h'.get? b=some o)
 (hz:Z.le Z') (hz1:∀a o,Z' a=some o→h'.get? a=some o) (hz2:∀a,Z' a≠none→Z a≠none∨s.heap.get? a=none):
 GS A env sl s0 CP Z0 {s with heap:=h',toks:=t} σ Z' ξ:=by
 have nz:∀b o,s.heap.get? b=some o→Z b=none→Z' b=none:=fun b o e hb=>by
  cases q:Z' b with
  |none=>rfl
  |some _=>rcases hz2 b (by refine rE q ?_;simp)with h1|h1
           ·exact absurd hb h1
           ·rw[e]at h1;exact sN h1
 have DB:∀b,jg env b→∃o,s.heap.get? b=some o:=fun b hb=>by
  rcases hb with rfl|⟨n,hn⟩
  ·refine aF (G.CT.loc) fun m w1 zz=>?_;obtain⟨o,_,_,e,_⟩:=w1;exact(iE o e)
  ·exact eB (G.CT.cell n b hn) fun cv o e zz=>(iE o e)
 have En:∀b,cm A b→∃o,s.heap.get? b=some o:=fun b w0=>fS w0 fun l hl env' he hf=>by
  refine aF (G.stk.fr) fun l' hl' hh=>?_
  rw[hl]at hl';(replace hl':=sI hl';subst hl')
  refine dZ (hh env' he) fun zz L o h1 h2 zz=>?_
  rw[hf]at h1;(replace h1:=sI h1;subst h1);exact(iE o h2)
 refine⟨G.grow.trans ⟨hz,fun b o zz zz e=>(aP o (hk b o e) (.inl rfl)),fun a ha=>(hz2 a ha).elim .inl fun h=> .inr (.inr h),fun a ha=> .inl ha,fun b hb=>?_⟩,
  ⟨G.inv.ok,fun b o e=>hz b o (G.inv.base b o e),hz1,fun a ao e=>?_⟩,G.CT.keeps (fun b o zz e=>(aP o (hk b o e) rfl)) hz fun b hb=>?_,G.stk.keeps (fun b o zz e=>(aP o (hk b o e) rfl)) fun b hb=>?_,G.same.next _ _⟩
 ·refine oC (o:=s.heap.get? b) (fun q=>?_) fun o q=>?_
  ·exact absurd q hb
  ·show h'.get? b≠none;refine rE (hk b o q) ?_;simp
 ·refine ck (G.inv.own a ao e) fun h1 o h2 h3=>?_
  exact(gp (nz a o h2 h1) o (hk a o h2) (h3.mono hz))
 ·refine xE (DB b hb) fun o e=>?_
  exact⟨(G.CT.off b hb).1,nz b o e (G.CT.off b hb).2⟩
 ·refine xE (En b hb) fun o e=>?_
  exact⟨(G.stk.off b hb).1,nz b o e (G.stk.off b hb).2⟩
theorem GS.keeps{t:Nat}(G:GS A env sl s0 CP Z0 s σ Z ξ)(hk:∀b o,s.heap.get? b=some o→h'.get? b=some o):
 GS A env sl s0 CP Z0 {s with heap:=h',toks:=t} σ Z ξ:=
 G.fresh hk (am.le_refl Z) (fun a o e=>hk a o (G.inv.zone a o e)) fun zz h=> .inl h
noncomputable def am.put(Z:am)(a:Addr)(o:Obj):am:=fun b=>if b=a then some o else Z b
theorem am.CN(Z:am)(a:Addr)(o:Obj):Z.put a o a=some o:=by simp[am.put]
theorem am.CO(Z:am){b:Addr}(o:Obj)(h:b≠a):Z.put a o b=Z b:=by simp[am.put,h]
theorem GS.freeze{t:Nat}{o:Obj}(G:GS A env sl s0 CP Z0 s σ Z ξ)(hk:∀b o,s.heap.get? b=some o→h'.get? b=some o)
 (ha:s.heap.get? a=none) (ho:h'.get? a=some o):Z.le (Z.put a o)∧GS A env sl s0 CP Z0 {s with heap:=h',toks:=t} σ (Z.put a o) ξ:=by
 have hz:Z.le (Z.put a o):=fun b o' e=>by
  have:b≠a:=fun q=>by subst q;rw[G.inv.zone _ _ e]at ha;exact sN ha
  exact rE (am.CO Z o this) e
 refine⟨hz,G.fresh hk hz (fun b o' e=>?_) fun b hb=>?_⟩
 ·by_cases q:b=a
  ·subst q;rw[am.CN]at e;(replace e:=sI e;subst e);exact ho
  ·rw[am.CO Z o q]at e;exact hk _ _ (G.inv.zone _ _ e)
 ·by_cases q:b=a
  ·subst q;exact .inr ha
  ·rw[am.CO Z o q]at hb;exact .inl hb
theorem GS.own{t:Nat}{o:Obj}(G:GS A env sl s0 CP Z0 s σ Z ξ)(hk:∀b o,s.heap.get? b=some o→h'.get? b=some o)
 (ha:s.heap.get? a=none) (ho:h'.get? a=some o) (hm:OM Z a o ao):GS A env sl s0 CP Z0 {s with heap:=h',toks:=t} (σ.put a ao) Z ξ:=by
 have G':=G.keeps (t:=t) hk
 have na:∀b o,s.heap.get? b=some o→b≠a:=fun b o e q=>by subst q;rw[ha]at e;exact nS e
 have DB:∀b,jg env b→b≠a:=fun b hb=>by
  rcases hb with rfl|⟨n,hn⟩
  ·refine aF (G.CT.loc) fun m w1 zz=>?_;obtain⟨o,_,_,e,_⟩:=w1;exact na _ _ e
  ·exact eB (G.CT.cell n b hn) fun cv o e zz=>na _ _ e
 have En:∀b,cm A b→b≠a:=fun b w0=>fS w0 fun l hl env' he hf=>by
  refine aF (G.stk.fr) fun l' hl' hh=>?_
  rw[hl]at hl';(replace hl':=sI hl';subst hl')
  refine dZ (hh env' he) fun zz L o h1 h2 zz=>?_
  rw[hf]at h1;(replace h1:=sI h1;subst h1);exact na _ _ h2
 have az:Z a=none:=by
  cases q:Z a with
  |none=>rfl
  |some o'=>rw[G.inv.zone _ _ q]at ha;exact sN ha
 refine⟨G.grow.trans ⟨am.le_refl Z,fun b o zz zz e=>(aP o (hk b o e) (.inl rfl)),fun zz h=> .inl h,fun b hb=>?_,fun b hb=>?_⟩,⟨G'.inv.ok,G'.inv.base,G'.inv.zone,fun b DZ e=>?_⟩,
  G'.CT.keeps (fun b o zz e=>(aP o e rfl)) (am.le_refl Z) fun b hb=>?_,G'.stk.keeps (fun b o zz e=>(aP o e rfl)) fun b hb=>?_,G'.same⟩
 ·by_cases q:b=a
  ·subst q;exact .inr ha
  ·simp only[af.put,if_neg q]at hb;exact .inl hb
 ·refine oC (o:=s.heap.get? b) (fun q=>?_) fun o q=>?_
  ·exact absurd q hb
  ·show h'.get? b≠none;refine rE (hk b o q) ?_;simp
 ·by_cases q:b=a
  ·subst q;simp only[af.put,if_true]at e;(replace e:=sI e;subst e);exact(gp az o ho hm)
  ·simp only[af.put,if_neg q]at e;exact G'.inv.own b DZ e
 ·exact⟨by simp only[af.put,if_neg (DB b hb)];exact(G.CT.off b hb).1,(G.CT.off b hb).2⟩
 ·exact⟨by simp only[af.put,if_neg (En b hb)];exact(G.stk.off b hb).1,(G.stk.off b hb).2⟩
theorem GS.ext{t:Nat}{o:Obj}(G:GS A env sl s0 CP Z0 s σ Z ξ)(hs:∀b o,b≠a→s.heap.get? b=some o→h'.get? b=some o)(ha:σ a=some ao)(ho:h'.get? a=some o)(hm:OM Z a o DZ):
 GS A env sl s0 CP Z0 {s with heap:=h',toks:=t} (σ.put a DZ) Z ξ:=by
 refine ck (G.inv.own a ao ha) fun za oa hoa zz=>?_
 have HC:∀b,jg env b→b≠a:=fun b hb q=>by subst q;rw[(G.CT.off b hb).1]at ha;exact nS ha
 have HR:∀b,cm A b→b≠a:=fun b hb q=>by subst q;rw[(G.stk.off b hb).1]at ha;exact nS ha
 refine⟨G.grow.trans ⟨am.le_refl Z,fun b o zz hσ e=>(aP o ?_ (.inl rfl)),fun zz h=> .inl h,fun b hb=>?_,fun b hb=>?_⟩,⟨G.inv.ok,G.inv.base,fun b o e=>?_,fun b DZ e=>?_⟩,
  G.CT.keeps (fun b o hb e=>(aP o (hs b o (HC b hb) e) rfl)) (am.le_refl Z) fun b hb=>?_,G.stk.keeps (fun b o hb e=>(aP o (hs b o (HR b hb) e) rfl)) fun b hb=>?_,G.same.next _ _⟩
 ·have:b≠a:=fun q=>by subst q;rw[hσ]at ha;exact nS ha
  exact hs b o this e
 ·by_cases q:b=a
  ·subst q;exact .inl (by refine rE ha ?_;simp)
  ·simp only[af.put,if_neg q]at hb;exact .inl hb
 ·by_cases q:b=a
  ·subst q;refine(?_:h'.get? b≠none);refine rE ho ?_;simp
  ·refine oC (o:=s.heap.get? b) (fun q2=>?_) fun o q2=>?_
   ·exact absurd q2 hb
   ·show h'.get? b≠none;refine rE (hs b o q q2) ?_;simp
 ·have:b≠a:=fun q=>by subst q;rw[e]at za;exact sN za
  exact hs b o this (G.inv.zone b o e)
 ·by_cases q:b=a
  ·subst q;simp only[af.put,if_true]at e;(replace e:=sI e;subst e);exact(gp za o ho hm)
  ·simp only[af.put,if_neg q]at e
   refine ck (G.inv.own b DZ e) fun h1 o' h2 h3=>?_
   exact(gp h1 o' (hs b o' q h2) h3)
 ·exact⟨by simp only[af.put,if_neg (HC b hb)];exact(G.CT.off b hb).1,(G.CT.off b hb).2⟩
 ·exact⟨by simp only[af.put,if_neg (HR b hb)];exact(G.stk.off b hb).1,(G.stk.off b hb).2⟩
theorem GS.upd{t:Nat}{o:Obj}(G:GS A env sl s0 CP Z0 s σ Z ξ)(hs:Heap.SameBut a s.heap h')(ha:σ a=some ao)(ho:h'.get? a=some o)(hm:OM Z a o DZ):
 GS A env sl s0 CP Z0 {s with heap:=h',toks:=t} (σ.put a DZ) Z ξ:=G.ext (fun b o hb e=>(hs.2 b hb).trans e) ha ho hm
end
end
section
section
variable{ξ:List (Option D)}
abbrev co(A:Around)(env:Env)(sl:List Str)(s0:Shared)(CP:af)(Z0:am)(ξ:List (Option D))(Z:am)(σ':af)(d:D)(Q:Value→Shared→Prop):Prop:=
 ∀v s' Z',GS A env sl s0 CP Z0 s' σ' Z' ξ→Z.le Z'→aw Z' v d→Q v s'
theorem xm(G:GS A env sl s0 CP Z0 s σ Z ξ)(h:co A env sl s0 CP Z0 ξ Z σ .none Q):wpAny cx.M A (eval (.Constant .none k pos) env) Q E s:=
 wpAny_pure (h _ _ _ G (am.le_refl _) .none)
theorem AY(G:GS A env sl s0 CP Z0 s σ Z ξ)(b:Bool)(h:co A env sl s0 CP Z0 ξ Z σ (.bool b) Q):wpAny cx.M A (eval (.Constant (.bool b) k pos) env) Q E s:=
 wpAny_pure (h _ _ _ G (am.le_refl _) (.bool b))
theorem BX(G:GS A env sl s0 CP Z0 s σ Z ξ)(i:Int)(h:co A env sl s0 CP Z0 ξ Z σ (.int i) Q):wpAny cx.M A (eval (.Constant (.int i) k pos) env) Q E s:=
 wpAny_mkInt (h _ _ _ (G.toks _) (am.le_refl _) (.int i _))
theorem BW(G:GS A env sl s0 CP Z0 s σ Z ξ)(x:Str)(hx:bv x)(h:co A env sl s0 CP Z0 ξ Z σ (.str x) Q):wpAny cx.M A (eval (.Constant (.str x) k pos) env) Q E s:=
 wpAny_mkText (h _ _ _ (G.toks _) (am.le_refl _) (.str x _ hx))
theorem aS(h:Heap):h.get? h.objs.size=none:=Heap.get?_none_of_le (Nat.le_refl _)
theorem GS.push(G:GS A env sl s0 CP Z0 s σ Z ξ)(o:Obj)(t:Nat)(hf:o.isFreed=false:=by rfl):
 Z.le (Z.put s.heap.objs.size o)∧GS A env sl s0 CP Z0 {s with heap:=s.heap.push o,toks:=t} σ (Z.put s.heap.objs.size o) ξ:=
 G.freeze (fun zz zz e=>Heap.get?_push_of_some _ e) (aS _) (Heap.get?_push_size _ hf)
theorem GS.Dc(G:GS A env sl s0 CP Z0 s σ Z ξ)(o:Obj)(t:Nat)(hm:OM Z s.heap.objs.size o ao)(hf:o.isFreed=false:=by rfl):
 GS A env sl s0 CP Z0 {s with heap:=s.heap.push o,toks:=t} (σ.put s.heap.objs.size ao) Z ξ:=
 G.own (fun zz zz e=>Heap.get?_push_of_some _ e) (aS _) (Heap.get?_push_size _ hf) hm
theorem GS.Dh(G:GS A env sl s0 CP Z0 s σ Z ξ)(o:Obj)(t:Nat):GS A env sl s0 CP Z0 {s with heap:=s.heap.push o,toks:=t} σ Z ξ:=
 G.keeps fun zz zz e=>Heap.get?_push_of_some _ e
theorem oF(hr:aB Z vs ds)(hn:ds.length≤1048576):vs.toArray.size≤sizeLine:=by
 have:=hr.length
 have e:vs.toArray.size=vs.length:=List.size_toArray
 refine rE e ?_;refine(?_:_≤2^24);lia
theorem rL(G:GS A env sl s0 CP Z0 s σ Z ξ)(hr:aB Z vs ds)(hn:ds.length≤1048576)
 (h:co A env sl s0 CP Z0 ξ Z σ (.tup ds) Q):wpAny cx.M A (newTuple vs) Q E s:=by
 refine xA (G.push {cls:= .type "tuple",data:= .seq vs.toArray} s.toks) fun hz G'=>?_
 exact wpAny_newObj_type (h _ _ _ G' hz (.tup (am.CN _ _ _) rfl rfl (by simpa using hr.mono hz))) (oF hr hn)
theorem uF(G:GS A env sl s0 CP Z0 s σ Z ξ)(hr:aB Z vs ds)(hn:ds.length≤1048576)
 (h:co A env sl s0 CP Z0 ξ Z σ (.lst ds) Q):wpAny cx.M A (newList vs) Q E s:=by
 refine xA (G.push {cls:= .type "list",data:= .seq vs.toArray} s.toks) fun hz G'=>?_
 exact wpAny_newObj_type (h _ _ _ G' hz (.lst (am.CN _ _ _) ⟨rfl,rfl⟩ rfl (by simpa using hr.mono hz))) (oF hr hn)
theorem rM(G:GS A env sl s0 CP Z0 s σ Z ξ)(hr:aB Z vs ds)(hn:ds.length≤1048576)
 (h:∀a,σ a=none→co A env sl s0 CP Z0 ξ Z (σ.put a (.lst ds)) (.ref a) Q):wpAny cx.M A (newList vs) Q E s:=by
 have G':=G.Dc (listOf vs.toArray 0) s.toks (.lst (by simpa using hr))
 refine wpAny_newObj_type (h _ ?_ _ _ _ G' (am.le_refl _) (.ref _)) (oF hr hn)
 refine oD (o:=σ s.heap.objs.size) (fun q=>?_) fun ao q=>?_
 ·rfl
 ·refine ck (G.inv.own _ _ q) fun zz o e zz=>?_;rw[aS]at e;exact nS e
theorem jQ(S:FS env sl)(G:GS A env sl s0 CP Z0 s σ Z ξ)(hi:sl[i]?=some x)(hl:ξ[i]?=some (some d))
 (h:∀v,aw Z v d→Q v s):wpAny cx.M A (eval (.Name x pos) env) Q E s:=by
 have hm:x∈sl:=List.mem_of_getElem? hi
 refine wpAny_Name ?_ (S.plain x hm).1
 rcases S.kinds x hm with hk|⟨c,hc⟩
 ·refine aF (G.CT.loc) fun m hn hv=>?_
  refine aF (hv i x d hi hk hl) fun v e r=>?_
  exact wpAny_loadName_local S.fn hk hn e (h v r)
 ·refine aF (G.CT.DP i x c d hi hc hl) fun v e r=>?_
  rcases hc with⟨hk|hk,hc⟩
  ·exact wpAny_loadName_cell S.fn hk hc e (h v r)
  ·exact wpAny_loadName_free S.fn hk hc e (h v r) (S.plain x hm).2
theorem jF{α:Type}(l:List α)(i:Nat)(a:α)(h:i<l.length):(l.set i a)[i]?=some a:=by simp[h]
theorem tg(S:FS env sl)(G:GS A env sl s0 CP Z0 s σ Z ξ)(hi:sl[i]?=some x)(hk:env.kindOf x≠some .free)(hr:aw Z v d)
 {Q:Unit→Shared→Prop} (h:∀s',GS A env sl s0 CP Z0 s' σ Z (ξ.set i (some d))→Q () s'):wpAny cx.M A (bindName env x v) Q E s:=by
 revert S G hi hk hr h;revert i x;revert A env sl s0 s CP σ Z0 Z ξ E v d Q;apply xF
 generalize (br _ _).1.1.1.1=d,(br _ _).1.1.1.2=A,(br _ _).1.1.2.1=E,(br _ _).1.1.2.2=s,(br _ _).1.2.1.1=s0,(br _ _).1.2.1.2=env,(br _ _).1.2.2=Z,(br _ _).2.1.1.1=Z0,(br _ _).2.1.1.2=sl,(br _ _).2.1.2.1=v,(br _ _).2.1.2.2=σ,(br _ _).2.2.1.1=CP,(br _ _).2.2.1.2=ξ,(br _ _).2.2.2=Q;intro x i S G hi hk hr h
 have hm:x∈sl:=List.mem_of_getElem? hi
 have hlt:i<sl.length:=(List.getElem?_eq_some_iff.mp hi).1
 have hix:∀j n,sl[j]?=some n→j≠i→n≠x:=fun j n hj hji hnx=>by
  subst hnx
  exact hji ((List.getElem?_inj (List.getElem?_eq_some_iff.mp hj).1 S.nodup).mp (hj.trans hi.symm))
 have Hz:∀b,jj env b→True:=fun zz zz=>trivial
 have done:∀(a:Addr) (h':Heap) (t:Nat),jj env a→Heap.SameBut a s.heap h'→(h'.get? a≠none)→rl env sl h' σ Z (ξ.set i (some d))→(∀o,s.heap.get? a=some o→∀vs,o.data≠ .fields vs)→
  (∀o',h'.get? a=some o'→∀vs,o'.data≠ .fields vs)→GS A env sl s0 CP Z0 {s with heap:=h',toks:=t} σ Z (ξ.set i (some d)):=by
  intro a h' t ha hs hal F' nf H9
  have off:=G.CT.off a ha.mine
  refine⟨G.grow.trans ⟨am.le_refl Z,fun b o hf zz e=>(aP o ((hs.2 b fun q=>hf (q▸ha)).trans e) (.inl rfl)),fun zz h=> .inl h,fun zz h=> .inl h,fun b hb=>?_⟩,
   ⟨G.inv.ok,G.inv.base,fun b o e=>(hs.2 b fun q=>by subst q;rw[off.2]at e;exact nS e).trans (G.inv.zone b o e),fun b ao e=>?_⟩,F',?_,G.same.next _ _⟩
  ·by_cases q:b=a
   ·subst q;exact hal
   ·refine(?_:h'.get? b≠none);exact rE (hs.2 b q) hb
  ·refine ck (G.inv.own b ao e) fun h1 o h2 h3=>?_
   exact(gp h1 o ((hs.2 b fun q=>by subst q;rw[off.1]at e;exact nS e).trans h2) h3)
  ·refine aF (G.stk.fr) fun l hl hf=>?_
   refine⟨(aP l hl (fun env' he=>?_)),G.stk.off⟩
   refine dZ (hf env' he) fun k1 L o k2 k3 k4=>?_
   by_cases q:L=a
   ·subst q
    cases q2:h'.get? L with
    |none=>exact absurd q2 hal
    |some o'=>exact(gJ k1 L o' k2 q2 (H9 o' q2))
   ·exact(gJ k1 L o k2 ((hs.2 L q).trans k3) k4)
 have Ex:∀{hh:Heap} {a:Addr} {m:Str→Option Value},hh.Ns a m→∀o,hh.get? a=some o→∀vs,o.data≠ .fields vs:=fun w0 o e vs q=>fE w0 fun o1 es ep e1 d1 zz=>by
  rw[e]at e1;(replace e1:=sI e1;subst e1);rw[d1]at q;cases q
 have Ey:∀{hh:Heap} {a:Addr} {cv:Option Value},hh.IsCell a cv→∀o,hh.get? a=some o→∀vs,o.data≠ .fields vs:=fun w0 o e vs q=>aF w0 fun o1 e1 d1=>by
  rw[e]at e1;(replace e1:=sI e1;subst e1);rw[d1]at q;cases q
 refine wpAny_bindName ?_
 rcases S.kinds x hm with hkl|⟨c,hc⟩
 ·refine aF (G.CT.loc) fun m hn hv=>?_
  refine wpAny_storeName_local hkl hn (fun h' hn' hs=>h _ (done env.locals h' _ (.inl rfl) hs ?_ ?_ (Ex hn) (Ex hn'))) (by exact rE S.fn rfl)
  ·refine gf hn' fun o zz zz e zz=>?_;clear hn';refine rE e ?_;simp
  ·have ne:∀n c,eA env n c→c≠env.locals:=fun n c hc q=>by
    refine eB (G.CT.cell n c hc) fun cv o e hd=>?_
    refine fE hn fun o2 es ep e2 hd2 zz=>?_;clear hn
    rw[q,e2]at e;(replace e:=sI e;subst e);rw[hd2]at hd;cases hd
   refine⟨by refine rE List.length_set ?_;exact G.CT.len,(aP _ hn' (fun j n d' h1 h2 h3=>?_)),fun n c hc=>?_,fun j n c d' h1 h2 h3=>?_,G.CT.off⟩
   ·by_cases q:j=i
    ·subst q
     rw[hi]at h1;(replace h1:=sI h1;subst h1)
     rw[jF _ _ _ (by exact rE G.CT.len hlt)]at h3;cases h3
     exact(aP v (if_pos rfl) hr)
    ·rw[List.getElem?_set_ne (Ne.symm q)]at h3
     refine aF (hv j n d' h1 h2 h3) fun v' a b=>?_
     exact(aP v' (by refine rE (if_neg (hix j n h1 q)) ?_;exact a) b)
   ·refine xE (G.CT.cell n c hc) fun cv hcv=>?_
    exact(iE cv (hcv.sameBut hs (ne n c hc)))
   ·have q:j≠i:=fun q=>by
     subst q;rw[hi]at h1;(replace h1:=sI h1;subst h1)
     rcases h2 with⟨h2|h2,_⟩<;>(rw[hkl]at h2;cases h2)
    rw[List.getElem?_set_ne (Ne.symm q)]at h3
    refine aF (G.CT.DP j n c d' h1 h2 h3) fun v' a b=>?_
    exact(aP v' (a.sameBut hs (ne n c h2)) b)
 ·have hkc:env.kindOf x=some .cell:=hc.1.resolve_right hk
  refine xE (G.CT.cell x c hc) fun cv hcv=>?_
  refine wpAny_storeName_cell S.fn hkc hc.2 hcv fun h' hv' hs=>h _ (done c h' s.toks (.inr (aP x hkc hc.2)) hs ?_ ?_ (Ey hcv) (Ey hv'))
  ·refine aF hv' fun o e zz=>?_;clear hv';refine rE e ?_;simp
  ·refine aF (G.CT.loc) fun m hn hv=>?_
   have Ia:env.locals≠c:=fun q=>by
    refine aF hcv fun o e hd=>?_;clear hcv
    refine fE hn fun o2 es ep e2 hd2 zz=>?_;clear hn
    rw[q,e]at e2;(replace e2:=sI e2;subst e2);rw[hd]at hd2;cases hd2
   refine⟨by refine rE List.length_set ?_;exact G.CT.len,(aP m (hn.sameBut hs Ia) (fun j n d' h1 h2 h3=>?_)),fun n c' hc'=>?_,fun j n c' d' h1 h2 h3=>?_,G.CT.off⟩
   ·have q:j≠i:=fun q=>by
     subst q;rw[hi]at h1;(replace h1:=sI h1;subst h1);rw[hkc]at h2;cases h2
    rw[List.getElem?_set_ne (Ne.symm q)]at h3
    exact hv j n d' h1 h2 h3
   ·by_cases q:c'=c
    ·subst q;exact(iE _ hv')
    ·refine xE (G.CT.cell n c' hc') fun IP Hd=>?_
     exact(iE IP (Hd.sameBut hs q))
   ·by_cases q:j=i
    ·subst q
     rw[hi]at h1;(replace h1:=sI h1;subst h1)
     rw[jF _ _ _ (by exact rE G.CT.len hlt)]at h3;cases h3
     have:c'=c:=by have:=h2.2;rw[hc.2]at this;(replace this:=sI this;subst this);rfl
     subst this
     exact(aP v hv' hr)
    ·rw[List.getElem?_set_ne (Ne.symm q)]at h3
     have q2:c'≠c:=fun q2=>by subst q2;exact hix j n h1 q (S.inj n x c' h2 hc)
     refine aF (G.CT.DP j n c' d' h1 h2 h3) fun v' a b=>?_
     exact(aP v' (a.sameBut hs q2) b)
end
end
section
mutual
noncomputable def rq:D→PyData
 | .none=> .none
 | .bool b=> .bool b
 | .int i=> .int i
 | .str x=> .str x
 | .tup ds=> .tuple (gg ds)
 | .lst ds=> .list (gg ds)
 | .dS _=> .none
 | .dT _=> .none
 | .ins _ _=> .none
 | .ref _=> .none
 | .rng _=> .none
noncomputable def gg:List D→List PyData
 |[]=>[]
 |d::ds=>rq d::gg ds
end
noncomputable def pl:Nat→D→Bool
 |_,.none=>true
 |_,.int _=>true
 |_,.str _=>true
 |n+1,.tup ds=>ds.all (pl n)
 |n+1,.lst ds=>ds.all (pl n)
 |_,_=>false
noncomputable def jI(d e:D):Bool:=PyData.eqv (rq d) (rq e)
theorem gj{P:D→Prop}(h:pl n d=true)(none:d= .none→P .none)(int:∀i,d= .int i→P (.int i))(str:∀x,d= .str x→P (.str x))(tup:∀m ds,n=m+1→(∀d∈ds,pl m d=true)→P (.tup ds))(lst:∀m ds,n=m+1→(∀d∈ds,pl m d=true)→P (.lst ds)):P d:=by
 cases d with
 |none=>exact none rfl
 |int i=>exact int i rfl
 |str x=>exact str x rfl
 |tup ds=>cases n with
  |zero=>exact fT h
  |succ n=>exact tup n ds rfl (List.all_eq_true.mp h)
 |lst ds=>cases n with
  |zero=>exact fT h
  |succ n=>exact lst n ds rfl (List.all_eq_true.mp h)
 |_=>cases n<;>exact fT h
theorem yU(i j:Int):jI (.int i) (.int j)=true↔D.int i= .int j:=by simp[jI,rq,PyData.eqv]
theorem yT(x y:Str):jI (.str x) (.str y)=true↔D.str x= .str y:=by simp[jI,rq,PyData.eqv]
theorem tW:∀(n:Nat) (d e:D) (k:Nat),pl n d=true→pl k e=true→(jI d e=true↔d=e):=by
 have all:∀(n:Nat),(∀d e k,pl n d=true→pl k e=true→(jI d e=true↔d=e))→∀(k:Nat) (ds es:List D),(∀d∈ds,pl n d=true)→(∀d∈es,pl k d=true)→
  (PyData.eqvAll (gg ds) (gg es)=true↔ds=es):=by
  intro n ih k ds
  induction ds with
  |nil=>intro es _ _;cases es<;>simp[gg,PyData.eqvAll]
  |cons d ds hi=>
   intro es h1 h2
   cases es with
   |nil=>simp[gg,PyData.eqvAll]
   |cons e es=>
    have q1:=ih d e k (h1 d (.head _)) (h2 e (.head _))
    have q2:=hi es (fun x hx=>h1 x (.tail _ hx)) fun x hx=>h2 x (.tail _ hx)
    unfold jI at q1
    simp only[gg,PyData.eqvAll,Bool.and_eq_true,q1,q2,List.cons.injEq]
 have no:∀{d e:D},jI d e=false→d≠e→(jI d e=true↔d=e):=fun a b=>⟨fun q=>(by rw[a]at q;exact fT q),fun q=>absurd q b⟩
 have step:∀n,(∀m,n=m+1→∀d e k,pl m d=true→pl k e=true→(jI d e=true↔d=e))→∀d e k,pl n d=true→pl k e=true→(jI d e=true↔d=e):=by
  intro n ih d e k h1 h2
  refine gj (P:=fun d=>jI d e=true↔d=e) h1 (fun zz=>?_) (fun i zz=>?_) (fun x zz=>?_) (fun m ds hm ha=>?_) fun m ds hm ha=>?_
  ·exact gj (P:=fun e=>jI (.none) e=true↔(.none:D)=e) h2 (fun zz=>⟨fun zz=>rfl,fun zz=>rfl⟩) (fun zz zz=>no rfl fun q=>by cases q) (fun zz zz=>no rfl fun q=>by cases q) (fun zz zz zz zz=>no rfl fun q=>by cases q) fun zz zz zz zz=>no rfl fun q=>by cases q
  ·exact gj (P:=fun e=>jI (.int i) e=true↔(.int i:D)=e) h2 (fun zz=>no rfl fun q=>by cases q) (fun j zz=>yU i j) (fun zz zz=>no rfl fun q=>by cases q) (fun zz zz zz zz=>no rfl fun q=>by cases q) fun zz zz zz zz=>no rfl fun q=>by cases q
  ·exact gj (P:=fun e=>jI (.str x) e=true↔(.str x:D)=e) h2 (fun zz=>no rfl fun q=>by cases q) (fun zz zz=>no rfl fun q=>by cases q) (fun y zz=>yT x y) (fun zz zz zz zz=>no rfl fun q=>by cases q) fun zz zz zz zz=>no rfl fun q=>by cases q
  ·exact gj (P:=fun e=>jI (.tup ds) e=true↔(.tup ds:D)=e) h2 (fun zz=>no rfl fun q=>by cases q) (fun zz zz=>no rfl fun q=>by cases q) (fun zz zz=>no rfl fun q=>by cases q) (fun m' es zz hb=>(all m (ih m hm) m' ds es ha hb).trans ⟨congrArg D.tup,D.tup.inj⟩) fun zz zz zz zz=>no rfl fun q=>by cases q
  ·exact gj (P:=fun e=>jI (.lst ds) e=true↔(.lst ds:D)=e) h2 (fun zz=>no rfl fun q=>by cases q) (fun zz zz=>no rfl fun q=>by cases q) (fun zz zz=>no rfl fun q=>by cases q) (fun zz zz zz zz=>no rfl fun q=>by cases q) fun m' es zz hb=>(all m (ih m hm) m' ds es ha hb).trans ⟨congrArg D.lst,D.lst.inj⟩
 intro n
 induction n with
 |zero=>exact step 0 fun m hm=>by cases hm
 |succ n ih=>exact step (n+1) fun m hm=>by cases hm;exact ih
section
variable{h:Heap}
def CK(h:Heap)(v:Value)(d:D):Prop:=∀n,pl n d=true→(∃as,Reads h v (rq d) as)∧(rq d).canLay0=true∧(rq d).depth≤n
def Cy(h:Heap)(vs:List Value)(ds:List D):Prop:=∀n,(∀d∈ds,pl n d=true)→(∃as,ReadsAll h vs (gg ds) as)∧PyData.canLayAll0 (gg ds)=true∧PyData.depthAll (gg ds)≤n
theorem nq{P:Prop}(h:∀n,pl n d=false)(hk:pl n d=true):P:=by rw[h n]at hk;exact fT hk
theorem Ax(hk:pl n (.tup ds)=true):∃m,n=m+1∧∀d∈ds,pl m d=true:=by
 cases n with
 |zero=>exact fT hk
 |succ m=>exact(aP m rfl (List.all_eq_true.mp hk))
theorem Az(hk:pl n (.lst ds)=true):∃m,n=m+1∧∀d∈ds,pl m d=true:=by
 cases n with
 |zero=>exact fT hk
 |succ m=>exact(aP m rfl (List.all_eq_true.mp hk))
theorem cW(hz:∀a o,Z a=some o→h.get? a=some o)(n:Nat)(r:aw Z v d)(hk:pl n d=true):(∃as,Reads h v (rq d) as)∧(rq d).canLay0=true∧(rq d).depth≤n:=by
 refine(?_:CK h v d) n hk
 refine aw.rec (motive_1:=fun v d zz=>CK h v d) (motive_2:=fun vs ds zz=>Cy h vs ds) (motive_3:=fun zz zz zz=>True) (motive_4:=fun zz zz zz=>True)
  ?none (fun b n hk=>nq (fun n=>by cases n<;>rfl) hk) ?int ?str ?tup ?lst (fun zz zz zz zz zz zz n hk=>nq (fun n=>by cases n<;>rfl) hk) (fun zz zz zz zz zz zz zz zz zz n hk=>nq (fun n=>by cases n<;>rfl) hk)
  (fun zz zz zz zz zz n hk=>nq (fun n=>by cases n<;>rfl) hk) (fun zz n hk=>nq (fun n=>by cases n<;>rfl) hk) (fun zz n hk=>nq (fun n=>by cases n<;>rfl) hk) ?nil ?cons trivial (fun zz zz zz zz=>trivial) trivial (fun zz zz zz zz=>trivial) r
 case none=>exact fun n zz=>(dx (iE _ Reads.none) rfl (Nat.zero_le _))
 case int=>exact fun i t n zz=>(dx (iE _ (Reads.int i t)) rfl (Nat.zero_le _))
 case str=>exact fun x t hx n zz=>(dx (iE _ (Reads.str x t)) hx.2 (Nat.zero_le _))
 case tup=>
  intro a o vs m ds h1 h2 h3 _ ih n hk
  refine aF (Ax hk) fun k q1 hk'=>?_;subst q1
  refine dF (ih k hk') fun w0 l1 l2=>?_;obtain⟨as,q⟩:=w0
  exact(dx (iE as (reads_tuple_at (hz _ _ h1) h2 h3 q)) l1 (Nat.succ_le_succ l2))
 case lst=>
  intro a o vs m ds h1 h2 h3 _ ih n hk
  refine aF (Az hk) fun k q1 hk'=>?_;subst q1
  refine dF (ih k hk') fun w0 l1 l2=>?_;obtain⟨as,q⟩:=w0
  exact(dx (iE _ (reads_list_at (hz _ _ h1) h2.1 h3 q)) l1 (Nat.succ_le_succ l2))
 case nil=>exact fun n zz=>(dx (iE _ ReadsAll.nil) rfl (Nat.zero_le _))
 case cons=>
  intro v d vs ds _ _ ih1 ih2 n hk
  refine dF (ih1 n (hk _ (.head _))) fun w0 l1 l2=>?_;obtain⟨as,q⟩:=w0
  refine dF (ih2 n fun d hm=>hk d (.tail _ hm)) fun w0 m1 m2=>?_;obtain⟨bs,p⟩:=w0
  exact(dx (iE _ (ReadsAll.cons q p)) (by refine(?_:(_&&_)=true);exact rE l1 (rE m1 rfl)) (Nat.max_le.mpr ⟨l2,m2⟩))
theorem i4(hz:∀a o,Z a=some o→h.get? a=some o):∀{vs:List Value} (n:Nat),aB Z vs ds→(∀d∈ds,pl n d=true)→(∃as,ReadsAll h vs (gg ds) as)∧PyData.canLayAll0 (gg ds)=true∧PyData.depthAll (gg ds)≤n:=by
 induction ds with
 |nil=>intro vs n r _;cases r using aB.Da;exact(dx (iE _ ReadsAll.nil) rfl (Nat.zero_le _))
 |cons d ds ih=>
  intro vs n r hk
  cases r using aB.CS with
  |cons h r=>
   refine dF (cW hz n h (hk _ (.head _))) fun w0 l1 l2=>?_;obtain⟨as,q⟩:=w0
   refine dF (ih n r fun d hm=>hk d (.tail _ hm)) fun w0 m1 m2=>?_;obtain⟨bs,p⟩:=w0
   exact(dx (iE _ (ReadsAll.cons q p)) (by refine(?_:(_&&_)=true);exact rE l1 (rE m1 rfl)) (Nat.max_le.mpr ⟨l2,m2⟩))
end
section
variable{ξ:List (Option D)}
theorem jl.room(R:jl A n)(k:Nat)(h:k≤100):A.units+k<cLine:=by
 have:=R.units;have e:=cLine_is;lia
theorem Cf{a b:Value}(R:jl A n)(G:GS A env sl s0 CP Z0 s σ Z ξ)(ha:aw Z a d)(hb:aw Z b e)(pa:pl 8 d=true)(pb:pl 8 e=true)
 (h:Q (.bool (jI d e)) s):wpAny cx.M A (compareOp .Eq a b) Q E s:=by
 refine dF (cW G.inv.zone 8 ha pa) fun w0 l1 l2=>?_;obtain⟨as,ra⟩:=w0
 refine dF (cW G.inv.zone 8 hb pb) fun w0 m1 m2=>?_;obtain⟨bs,rb⟩:=w0
 refine eq_dataH ra rb ?_ ?_ (R.room 64 (by lia)) h
 ·delta SeqAt.shaped;exact rE l1 (rE (Bool.true_and _) (decide_eq_true (Nat.le_trans l2 (by decide))))
 ·delta SeqAt.shaped;exact rE m1 (rE (Bool.true_and _) (decide_eq_true (Nat.le_trans m2 (by decide))))
theorem Cd{a b:Value}(R:jl A n)(G:GS A env sl s0 CP Z0 s σ Z ξ)(ha:aw Z a d)(hb:aw Z b e)(pa:pl 8 d=true)(pb:pl 8 e=true)
 (h:Q (.bool (!jI d e)) s):wpAny cx.M A (compareOp .NotEq a b) Q E s:=by
 refine dF (cW G.inv.zone 8 ha pa) fun w0 l1 l2=>?_;obtain⟨as,ra⟩:=w0
 refine dF (cW G.inv.zone 8 hb pb) fun w0 m1 m2=>?_;obtain⟨bs,rb⟩:=w0
 refine ne_dataH ra rb ?_ ?_ (R.room 64 (by lia)) h
 ·delta SeqAt.shaped;exact rE l1 (rE (Bool.true_and _) (decide_eq_true (Nat.le_trans l2 (by decide))))
 ·delta SeqAt.shaped;exact rE m1 (rE (Bool.true_and _) (decide_eq_true (Nat.le_trans m2 (by decide))))
noncomputable def bg(σ:af):D→Option (List D)
 | .lst ds=>some ds
 | .ref a=>match σ a with|some (.lst ds)=>some ds|_=>none
 |_=>none
noncomputable def iU:D→Option (List D)
 | .tup ds=>some ds
 |_=>none
noncomputable def cw(σ:af):D→Option (List (Str×D))
 | .dS ds=>some ds
 | .ref a=>match σ a with|some (.dS ds)=>some ds|_=>none
 |_=>none
noncomputable def gv(σ:af):D→Option (List (List Str×D))
 | .dT ds=>some ds
 | .ref a=>match σ a with|some (.dT ds)=>some ds|_=>none
 |_=>none
noncomputable def du(σ:af):D→Option (Addr×List (Str×D))
 | .ins C fs=>some (C,fs)
 | .ref a=>match σ a with
   |some (.ins C da)=>(match σ da with|some (.ns fs)=>some (C,fs)|_=>none)
   |_=>none
 |_=>none
theorem jL{x:List D}(h:iU d=some x):d= .tup x:=by cases d<;>first|exact nS h|(cases sI h;rfl)
section
variable{P:D→Prop}
theorem vu{x:List D}(h:bg σ d=some x)(k1:P (.lst x))(k2:∀a,σ a=some (.lst x)→P (.ref a)):P d:=by
 cases d with
 |lst y=>exact sI h▸k1
 |ref a=>
  refine k2 a ?_
  have h:(match σ a with|some (.lst ds)=>some ds|_=>none)=some x:=h
  refine oD (o:=σ a) (fun e=>?_) fun o e=>?_
  ·rw[e]at h;exact nS h
  ·rw[e]at h;cases o<;>first|exact nS h|exact congrArg _ (congrArg AO.lst (sI h))
 |_=>exact nS h
theorem zc{x:List (Str×D)}(h:cw σ d=some x)(k1:P (.dS x))(k2:∀a,σ a=some (.dS x)→P (.ref a)):P d:=by
 cases d with
 |dS y=>exact sI h▸k1
 |ref a=>
  refine k2 a ?_
  have h:(match σ a with|some (.dS ds)=>some ds|_=>none)=some x:=h
  refine oD (o:=σ a) (fun e=>?_) fun o e=>?_
  ·rw[e]at h;exact nS h
  ·rw[e]at h;cases o<;>first|exact nS h|exact congrArg _ (congrArg AO.dS (sI h))
 |_=>exact nS h
theorem zb{x:List (List Str×D)}(h:gv σ d=some x)(k1:P (.dT x))(k2:∀a,σ a=some (.dT x)→P (.ref a)):P d:=by
 cases d with
 |dT y=>exact sI h▸k1
 |ref a=>
  refine k2 a ?_
  have h:(match σ a with|some (.dT ds)=>some ds|_=>none)=some x:=h
  refine oD (o:=σ a) (fun e=>?_) fun o e=>?_
  ·rw[e]at h;exact nS h
  ·rw[e]at h;cases o<;>first|exact nS h|exact congrArg _ (congrArg AO.dT (sI h))
 |_=>exact nS h
theorem xt(h:du σ d=some (C,fs))(k1:P (.ins C fs))(k2:∀a da,σ a=some (.ins C da)→σ da=some (.ns fs)→P (.ref a)):P d:=by
 cases d with
 |ins C' fs'=>
  have e:=sI h
  cases e;exact k1
 |ref a=>
  have h:(match σ a with|some (.ins C da)=>(match σ da with|some (.ns fs)=>some (C,fs)|_=>none)|_=>none)=some (C,fs):=h
  refine oC (o:=σ a) (fun e=>?_) fun o e=>?_
  ·rw[e]at h;exact nS h
  ·skip
   rw[e]at h
   cases o with
   |ins C' da=>
    have h:(match σ da with|some (.ns fs)=>some (C',fs)|_=>none)=some (C,fs):=h
    refine oC (o:=σ da) (fun e2=>?_) fun o2 e2=>?_
    ·rw[e2]at h;exact nS h
    ·rw[e2]at h;cases o2<;>first|exact nS h|(cases sI h;exact k2 _ _ e e2)
   |_=>exact nS h
 |_=>exact nS h
end
theorem dQ.items(h:dQ vs ks):ItemsAre cx.sk ks vs:=by
 induction h with
 |nil=>exact .nil
 |cons x t _ _ ih=>exact .cons (strKind_is _ _ x t) ih
theorem eM.is{h:Heap}(hz:∀a o,Z a=some o→h.get? a=some o)(k:eM Z ks a):cx.tk.is h ks a:=
 let⟨o,items,n,e,c,d,r⟩:=k;⟨o,items,n,hz _ _ e,c,d,dQ.items r⟩
theorem dY(I:dR s.heap σ Z)(hr:aw Z v d)(hd:bg σ d=some ds):
 ∃a o vs n,v= .ref a∧s.heap.get? a=some o∧o.cls= .type "list"∧o.data= .seq vs n∧aB Z vs.toList ds:=by
 refine vu (P:=fun d=>aw Z v d→_) hd (fun hr=>?_) (fun a q hr=>?_) hr
 ·cases hr using aw.Dw with
  |lst h1 h2 h3 h4=>exact(gm _ _ _ _ rfl (I.zone _ _ h1) h2.1 h3 h4)
 ·cases hr using aw.C5
  refine ck (I.own _ _ q) fun zz o ho hm=>?_
  cases hm using OM.Dw with
  |lst hr=>exact(gm a _ _ _ rfl ho rfl rfl hr)
theorem io(I:dR s.heap σ Z)(hr:aw Z v d)(hd:iU d=some ds):
 ∃a o vs n,v= .ref a∧s.heap.get? a=some o∧o.cls= .type "tuple"∧o.data= .seq vs n∧aB Z vs.toList ds:=by
 have e:=jL hd
 subst e
 cases hr using aw.Fv with
 |tup h1 h2 h3 h4=>exact(gm _ _ _ _ rfl (I.zone _ _ h1) h2 h3 h4)
theorem ub(I:dR s.heap σ Z)(hr:aw Z v d)(hd:cw σ d=some kvs):
 ∃a o xs,v= .ref a∧s.heap.get? a=some o∧o.IsDictOf cx.sk xs∧bK Z xs kvs∧(a==sysModules)=false∧∀kv∈kvs,bv kv.1:=by
 refine zc (P:=fun d=>aw Z v d→_) hd (fun hr=>?_) (fun a q hr=>?_) hr
 ·cases hr using aw.Ft with
  |dS h1 h2 h3 h4 h5=>exact(dB _ _ _ rfl (I.zone _ _ h1) h2 h3 (beq_eq_false_iff_ne.mpr h4) h5)
 ·cases hr using aw.C5
  refine ck (I.own _ _ q) fun zz o ho hm=>?_
  cases hm using OM.Ft with
  |dS h1 h2 h3 h4=>exact(dB a _ _ rfl ho h1 h2 (beq_eq_false_iff_ne.mpr h3) h4)
theorem mz{kvs:List (List Str×D)}(I:dR s.heap σ Z)(hr:aw Z v d)(hd:gv σ d=some kvs):
 ∃a xs,v= .ref a∧s.heap.DictOfH cx.tk a xs∧cJ Z xs kvs∧(∀x∈xs,eM Z x.1 x.2.1)∧(a==sysModules)=false:=by
 have key:∀{ks:List Str} {b:Addr},eM Z ks b→cx.tk.is s.heap ks b:=fun k=>k.is I.zone
 refine zb (P:=fun d=>aw Z v d→_) hd (fun hr=>?_) (fun a q hr=>?_) hr
 ·cases hr using aw.FM with
  |dT h1 h2 h3 h4 h5 h6 h7 h8=>exact(dC _ _ rfl (dB _ _ _ (I.zone _ _ h1) h2 h3 h4 (fun x hx=>key (h5 x hx)) h6) h7 h5 (beq_eq_false_iff_ne.mpr h8))
 ·cases hr using aw.C5
  refine ck (I.own _ _ q) fun zz o ho hm=>?_
  cases hm using OM.FM with
  |dT h2 h3 h4 h5 h6 h7 h8=>exact(dC a _ rfl (dB _ _ _ ho h2 h3 h4 (fun x hx=>key (h5 x hx)) h6) h7 h5 (beq_eq_false_iff_ne.mpr h8))
theorem xp(I:dR s.heap σ Z)(hr:aw Z v d)(hd:du σ d=some (C,fs)):
 ∃a da o xs,v= .ref a∧s.heap.get? a=some (instObj C da)∧s.heap.get? da=some o∧iV o xs∧bK Z xs fs:=by
 refine xt (P:=fun d=>aw Z v d→_) hd (fun hr=>?_) (fun a da q q2 hr=>?_) hr
 ·cases hr using aw.ET with
  |ins h1 h2 h3 h4=>exact(gm _ _ _ _ rfl (I.zone _ _ h1) (I.zone _ _ h2) h3 h4)
 ·cases hr using aw.C5
  refine ck (I.own _ _ q) fun zz o ho hm=>?_
  refine ck (I.own _ _ q2) fun zz o2 ho2 hm2=>?_
  cases hm using OM.ET
  cases hm2 using OM.nsE with
  |ns h1 h2=>exact(gm a _ _ _ rfl ho ho2 h1 h2)
end
end
section
noncomputable def look{K:Type}[DecidableEq K](kvs:List (K×D))(k:K):Option D:=(kvs.find? fun kv=>decide (kv.1=k)).map (·.2)
noncomputable def put{K:Type}[DecidableEq K](kvs:List (K×D))(k:K)(d:D):List (K×D):=
 if kvs.any (fun kv=>decide (kv.1=k))then kvs.map (fun kv=>if kv.1=k then(kv.1,d)else kv)else kvs++[(k,d)]
noncomputable def eQ:List D→Option (List Str)
 |[]=>some []
 | .str x::ds=>(eQ ds).map (x::·)
 |_=>none
noncomputable def ip(d:D):Option (List Str):=(iU d).bind eQ
section
theorem mL:∀{vs:List Value} {ks:List Str},aB Z vs ds→eQ ds=some ks→dQ vs ks:=by
 induction ds with
 |nil=>intro vs ks r e;cases r using aB.Da;(replace e:=sI e;subst e);exact .nil
 |cons d ds ih=>
  intro vs ks r e
  cases r using aB.CS with
  |cons h r=>
   cases d with
   |str x=>
    cases h using aw.CV with
    |str t hx=>
     refine oC (o:=eQ ds) (fun q=>?_) fun k q=>?_
     ·have e:(eQ ds).map (x::·)=some ks:=e;rw[q]at e;exact nS e
     ·have e:(eQ ds).map (x::·)=some ks:=e;rw[q]at e;(replace e:=sI e;subst e);exact .cons x t hx (ih r q)
   |_=>exact nS e
theorem j9(hr:aw Z v d)(e:ip d=some ks):∃a,v= .ref a∧eM Z ks a:=by
 refine aF (Option.bind_eq_some_iff.mp e) fun ds e1 e2=>?_
 have e1:=jL e1
 subst e1
 cases hr using aw.Fv with
 |tup h1 h2 h3 h4=>exact(aP _ rfl (cP _ _ _ h1 h2 h3 (mL h4 e2)))
set_option tactic.hygienic true in
theorem bK.look{xs:List (Str×Value)}(k:Str)(r:bK Z xs kvs):(∃v d,valueAt xs k=some v∧look kvs k=some d∧aw Z v d)∨(valueAt xs k=none∧look kvs k=none):=by
 induction xs generalizing kvs with
 |nil=>cases r;exact .inr ⟨rfl,rfl⟩
 |cons x xs ih=>
  cases r with
  |cons h r=>
   rename_i k' v d ds
   by_cases q:k'=k
   ·subst q;exact .inl (bH v d (by simp[valueAt]) (by simp[Lz.look]) h)
   ·have:=ih r
    simpa[valueAt,Lz.look,List.find?_cons,q]using this
theorem bK.any{xs:List (Str×Value)}(k:Str)(r:bK Z xs kvs):(xs.any fun kv=>decide (kv.1=k))=kvs.any fun kv=>decide (kv.1=k):=by
 induction xs generalizing kvs with
 |nil=>cases r;rfl
 |cons x xs ih=>cases r with|cons h r=>simp[ih r]
theorem bK.append{xs:List (Str×Value)}{k:Str}(r:bK Z xs kvs)(h:aw Z v d):bK Z (xs++[(k,v)]) (kvs++[(k,d)]):=by
 induction xs generalizing kvs with
 |nil=>cases r;exact .cons h .nil
 |cons x xs ih=>cases r with|cons h' r=>exact .cons h' (ih r)
set_option tactic.hygienic true in
theorem bK.setAt{xs:List (Str×Value)}{k:Str}(r:bK Z xs kvs)(h:aw Z v d):
 bK Z (xs.map fun kv=>if kv.1=k then(kv.1,v)else kv) (kvs.map fun kv=>if kv.1=k then(kv.1,d)else kv):=by
 induction xs generalizing kvs with
 |nil=>cases r;exact .nil
 |cons x xs ih=>
  cases r with
  |cons h' r=>
   rename_i k' v' d' ds
   by_cases q:k'=k
   ·simp only[List.map_cons,q,if_true];exact .cons h (ih r)
   ·simp only[List.map_cons,q,if_false];exact .cons h' (ih r)
theorem bK.put{xs:List (Str×Value)}(k:Str)(r:bK Z xs kvs)(h:aw Z v d):bK Z (stored xs k v) (put kvs k d):=by
 delta stored Lz.put
 refine rE (r.any k) ?_
 split
 ·exact r.setAt h
 ·exact r.append h
theorem bK.length{xs:List (Str×Value)}(r:bK Z xs kvs):xs.length=kvs.length:=by
 induction xs generalizing kvs with
 |nil=>cases r;rfl
 |cons x xs ih=>cases r with|cons h r=>simp[ih r]
set_option tactic.hygienic true in
theorem cJ.look{kvs:List (List Str×D)}(k:List Str)(r:cJ Z xs kvs):
 (∃p d,atKey xs k=some p∧look kvs k=some d∧aw Z p.2 d)∨(atKey xs k=none∧look kvs k=none):=by
 induction xs generalizing kvs with
 |nil=>cases r;exact .inr ⟨rfl,rfl⟩
 |cons x xs ih=>
  cases r with
  |cons h r=>
   rename_i k' a v d ds
   by_cases q:k'=k
   ·subst q;exact .inl (bH (a,v) d (by simp[atKey]) (by simp[Lz.look]) h)
   ·have:=ih r
    simpa[atKey,Lz.look,List.find?_cons,q]using this
theorem cJ.append{kvs:List (List Str×D)}{k:List Str}(r:cJ Z xs kvs)(h:aw Z v d):cJ Z (xs++[(k,a,v)]) (kvs++[(k,d)]):=by
 induction xs generalizing kvs with
 |nil=>cases r;exact .cons h .nil
 |cons x xs ih=>cases r with|cons h' r=>exact .cons h' (ih r)
set_option tactic.hygienic true in
theorem cJ.setAt{kvs:List (List Str×D)}{k:List Str}(r:cJ Z xs kvs)(h:aw Z v d):
 cJ Z (xs.map (putAt k v)) (kvs.map fun kv=>if kv.1=k then(kv.1,d)else kv):=by
 induction xs generalizing kvs with
 |nil=>cases r;exact .nil
 |cons x xs ih=>
  cases r with
  |cons h' r=>
   rename_i k' a v' d' ds
   by_cases q:k'=k
   ·simp only[List.map_cons,putAt,q,if_true];exact .cons h (ih r)
   ·simp only[List.map_cons,putAt,q,if_false];exact .cons h' (ih r)
set_option tactic.hygienic true in
theorem cJ.any{kvs:List (List Str×D)}(k:List Str)(r:cJ Z xs kvs):(atKey xs k).isSome=kvs.any fun kv=>decide (kv.1=k):=by
 induction xs generalizing kvs with
 |nil=>cases r;rfl
 |cons x xs ih=>
  cases r with
  |cons h r=>
   rename_i k' a v d ds
   by_cases q:k'=k
   ·subst q;simp[atKey]
   ·have:=ih r
    simpa[atKey,List.find?_cons,q]using this
theorem cJ.put{kvs:List (List Str×D)}(k:List Str)(a:Addr)(r:cJ Z xs kvs)(h:aw Z v d):cJ Z (storedH xs k a v) (put kvs k d):=by
 delta storedH Lz.put
 refine rE (r.any k) ?_
 split
 ·exact r.setAt h
 ·exact r.append h
theorem cJ.length{kvs:List (List Str×D)}(r:cJ Z xs kvs):xs.length=kvs.length:=by
 induction xs generalizing kvs with
 |nil=>cases r;rfl
 |cons x xs ih=>cases r with|cons h r=>simp[ih r]
theorem cJ.keys{kvs:List (List Str×D)}(r:cJ Z xs kvs):xs.map (·.1)=kvs.map (·.1):=by
 induction xs generalizing kvs with
 |nil=>cases r;rfl
 |cons x xs ih=>cases r with|cons h r=>simp[ih r]
end
section
variable{ξ:List (Option D)}
theorem v5{x c:Value}(R:jl A n)(G:GS A env sl s0 CP Z0 s σ Z ξ)(hx:aw Z x d)(hc:aw Z c e)(he:bg σ e=some ds)(pd:pl 8 d=true)(ps:∀y∈ds,pl 8 y=true)
 (h:Q (.bool (ds.any fun y=>jI y d)) s):wpAny cx.M A (compareOp .In x c) Q E s:=by
 refine be (dY G.inv hc he) fun a o vs k q4 h1 h2 h3 h4=>?_;subst q4
 refine dF (i4 G.inv.zone 8 h4 ps) fun w0 l1 l2=>?_;obtain⟨as,ra⟩:=w0
 refine dF (cW G.inv.zone 8 hx pd) fun w0 m1 m2=>?_;obtain⟨bs,rb⟩:=w0
 refine SeqAt.in_list_reads (reads_list_at h1 h2 h3 ra) rb l1 m1 ?_ ?_
 ·have:=R.room 20 (by lia);lia
 ·have e:∀es:List D,((gg es).any fun y=>PyData.eqv y (rq d))=es.any fun y=>jI y d:=fun es=>by
   induction es with
   |nil=>rfl
   |cons y es ih=>simp only[gg,List.any_cons,ih];rfl
  exact rE (e _) h
theorem qm{x c:Value}(R:jl A n)(G:GS A env sl s0 CP Z0 s σ Z ξ)(hx:aw Z x d)(hc:aw Z c e)(he:bg σ e=some ds)(pd:pl 8 d=true)(ps:∀y∈ds,pl 8 y=true)
 (h:Q (.bool (!ds.any fun y=>jI y d)) s):wpAny cx.M A (compareOp .NotIn x c) Q E s:=by
 refine be (dY G.inv hc he) fun a o vs k q4 h1 h2 h3 h4=>?_;subst q4
 refine dF (i4 G.inv.zone 8 h4 ps) fun w0 l1 l2=>?_;obtain⟨as,ra⟩:=w0
 refine dF (cW G.inv.zone 8 hx pd) fun w0 m1 m2=>?_;obtain⟨bs,rb⟩:=w0
 refine SeqAt.notIn_list_reads (reads_list_at h1 h2 h3 ra) rb l1 m1 ?_ ?_
 ·have:=R.room 20 (by lia);lia
 ·have e:∀es:List D,((gg es).any fun y=>PyData.eqv y (rq d))=es.any fun y=>jI y d:=fun es=>by
   induction es with
   |nil=>rfl
   |cons y es ih=>simp only[gg,List.any_cons,ih];rfl
  exact rE (e _) h
theorem yh{x c:Value}(R:jl A n)(G:GS A env sl s0 CP Z0 s σ Z ξ)(hx:aw Z x d)(hc:aw Z c e)(he:iU e=some ds)(pd:pl 8 d=true)(ps:∀y∈ds,pl 8 y=true)
 (h:Q (.bool (ds.any fun y=>jI y d)) s):wpAny cx.M A (compareOp .In x c) Q E s:=by
 refine be (io G.inv hc he) fun a o vs k q4 h1 h2 h3 h4=>?_;subst q4
 refine dF (i4 G.inv.zone 8 h4 ps) fun w0 l1 l2=>?_;obtain⟨as,ra⟩:=w0
 refine dF (cW G.inv.zone 8 hx pd) fun w0 m1 m2=>?_;obtain⟨bs,rb⟩:=w0
 refine SeqAt.in_tuple_reads (reads_tuple_at h1 h2 h3 ra) rb l1 m1 ?_ ?_
 ·have:=R.room 20 (by lia);lia
 ·have e:∀es:List D,((gg es).any fun y=>PyData.eqv y (rq d))=es.any fun y=>jI y d:=fun es=>by
   induction es with
   |nil=>rfl
   |cons y es ih=>simp only[gg,List.any_cons,ih];rfl
  exact rE (e _) h
theorem fK(G:GS A env sl s0 CP Z0 s σ Z ξ)(hc:aw Z v e)(he:cw σ e=some kvs):
 ∃a xs,v= .ref a∧s.heap.DictOf cx.sk a xs∧bK Z xs kvs∧(a==sysModules)=false:=by
 refine fC (ub G.inv hc he) fun a o xs q3 h1 h2 h3 h4 zz=>?_;subst q3
 exact(cQ a xs rfl (Heap.dictOf_iff.mpr (aP o h1 h2)) h3 h4)
theorem Ar{t:Tok}{c:Value}(G:GS A env sl s0 CP Z0 s σ Z ξ)(hc:aw Z c e)(he:cw σ e=some kvs)
 (h:∀tk,Q (.bool (look kvs x).isSome) {s with toks:=tk}):wpAny cx.M A (compareOp .In (.str x t) c) Q E s:=by
 refine cy (fK G hc he) fun a xs q2 h1 h2 h3=>?_;subst q2
 refine wpAny_in_of (strKind_is _ _ x t) h3 h1.mapOf ?_
 rcases h2.look x with⟨v,d,e1,e2,_⟩|⟨e1,e2⟩<;>(have:=h (s.toks+1);rw[e2]at this;exact rE e1 this)
theorem uE{t:Tok}{c:Value}(G:GS A env sl s0 CP Z0 s σ Z ξ)(hc:aw Z c e)(he:cw σ e=some kvs)
 (h:∀tk,Q (.bool (!(look kvs x).isSome)) {s with toks:=tk}):wpAny cx.M A (compareOp .NotIn (.str x t) c) Q E s:=by
 refine cy (fK G hc he) fun a xs q2 h1 h2 h3=>?_;subst q2
 refine wpAny_notIn_of (strKind_is _ _ x t) h3 h1.mapOf ?_
 rcases h2.look x with⟨v,d,e1,e2,_⟩|⟨e1,e2⟩<;>(have:=h (s.toks+1);rw[e2]at this;exact rE e1 this)
theorem Aq{k c:Value}{kvs:List (List Str×D)}(R:jl A n)(G:GS A env sl s0 CP Z0 s σ Z ξ)(hk:aw Z k d)(hd:ip d=some ks)(hc:aw Z c e)(he:gv σ e=some kvs)
 (h:∀tk,Q (.bool (look kvs ks).isSome) {s with toks:=tk}):wpAny cx.M A (compareOp .In k c) Q E s:=by
 refine eO (mz G.inv hc he) fun a xs q2 h1 h2 zz h3=>?_;subst q2
 refine aF (j9 hk hd) fun b q1 hb=>?_;subst q1
 refine wpAny_in_heap (tupleKind_room_in1 (R.room 1 (by lia))) (hb.is G.inv.zone) h3 h1 ?_
 rcases h2.look ks with⟨v,d,e1,e2,_⟩|⟨e1,e2⟩<;>(have:=h (s.toks+cx.tk.draws ks);rw[e2]at this;exact rE e1 this)
theorem uD{k c:Value}{kvs:List (List Str×D)}(R:jl A n)(G:GS A env sl s0 CP Z0 s σ Z ξ)(hk:aw Z k d)(hd:ip d=some ks)(hc:aw Z c e)(he:gv σ e=some kvs)
 (h:∀tk,Q (.bool (!(look kvs ks).isSome)) {s with toks:=tk}):wpAny cx.M A (compareOp .NotIn k c) Q E s:=by
 refine eO (mz G.inv hc he) fun a xs q2 h1 h2 zz h3=>?_;subst q2
 refine aF (j9 hk hd) fun b q1 hb=>?_;subst q1
 refine wpAny_notIn_heap (tupleKind_room_in1 (R.room 1 (by lia))) (hb.is G.inv.zone) h3 h1 ?_
 rcases h2.look ks with⟨v,d,e1,e2,_⟩|⟨e1,e2⟩<;>(have:=h (s.toks+cx.tk.draws ks);rw[e2]at this;exact rE e1 this)
theorem yj{t:Tok}{c:Value}(G:GS A env sl s0 CP Z0 s σ Z ξ)(hc:aw Z c e)(he:cw σ e=some kvs)(hd:look kvs x=some d)
 (h:∀v tk,aw Z v d→Q v {s with toks:=tk}):wpAny cx.M A (getItem c (.str x t)) Q E s:=by
 refine cy (fK G hc he) fun a xs q2 h1 h2 h3=>?_;subst q2
 rcases h2.look x with⟨v,d',e1,e2,r⟩|⟨e1,e2⟩
 ·rw[hd]at e2;(replace e2:=sI e2;subst e2)
  exact wpAny_getItem_of (strKind_is _ _ x t) h1.mapOf e1 (h v _ r)
 ·rw[hd]at e2;exact sN e2
theorem yi{k c:Value}{d':D}{kvs:List (List Str×D)}(R:jl A n)(G:GS A env sl s0 CP Z0 s σ Z ξ)(hk:aw Z k d)(hd:ip d=some ks)(hc:aw Z c e)(he:gv σ e=some kvs)
 (hl:look kvs ks=some d') (h:∀v tk,aw Z v d'→Q v {s with toks:=tk}):wpAny cx.M A (getItem c k) Q E s:=by
 refine eO (mz G.inv hc he) fun a xs q2 h1 h2 zz h3=>?_;subst q2
 refine aF (j9 hk hd) fun b q1 hb=>?_;subst q1
 rcases h2.look ks with⟨p,d',e1,e2,r⟩|⟨e1,e2⟩
 ·rw[hl]at e2;(replace e2:=sI e2;subst e2)
  exact wpAny_getItem_heap (tupleKind_room_in1 (R.room 1 (by lia))) (hb.is G.inv.zone) h1 e1 (h _ _ r)
 ·rw[hl]at e2;exact sN e2
theorem v9{t:Tok}{c f:Value}{df:D}(G:GS A env sl s0 CP Z0 s σ Z ξ)(hc:aw Z c e)(he:cw σ e=some kvs)(hf:aw Z f df)
 (h:∀v tk,aw Z v ((look kvs x).getD df)→Q v {s with toks:=tk}):wpAny cx.M A (call (.builtin "dict.get") [c,.str x t,f]) Q E s:=by
 refine cy (fK G hc he) fun a xs q2 h1 h2 h3=>?_;subst q2
 refine call_meetsIn PySem.F.slot_dict_get h1.mapOf.typeIs PySem.F.entry_dict_get (PySem.F.args_dict_get_3 _ _ _) (meets_dict_get_default cx.sk a (strKind_is _ _ x t) h3 f) (aP _ h1.mapOf ?_)
 refine(?_:Q _ _)
 rcases h2.look x with⟨v,d',e1,e2,r⟩|⟨e1,e2⟩
 ·exact rE e1 (h _ _ (by exact rE e2 r))
 ·exact rE e1 (h _ _ (by exact rE e2 hf))
theorem wf{t:Tok}{c:Value}(G:GS A env sl s0 CP Z0 s σ Z ξ)(hc:aw Z c e)(he:cw σ e=some kvs)
 (h:∀v tk,aw Z v ((look kvs x).getD .none)→Q v {s with toks:=tk}):wpAny cx.M A (call (.builtin "dict.get") [c,.str x t]) Q E s:=by
 refine cy (fK G hc he) fun a xs q2 h1 h2 h3=>?_;subst q2
 refine call_meetsIn PySem.F.slot_dict_get h1.mapOf.typeIs PySem.F.entry_dict_get (PySem.F.args_dict_get_2 _ _) (meets_dict_get cx.sk a (strKind_is _ _ x t) h3) (aP _ h1.mapOf ?_)
 refine(?_:Q _ _)
 rcases h2.look x with⟨v,d',e1,e2,r⟩|⟨e1,e2⟩
 ·exact rE e1 (h _ _ (by exact rE e2 r))
 ·exact rE e1 (h _ _ (by exact rE e2 .none))
theorem v8{k c f:Value}{df:D}{kvs:List (List Str×D)}(R:jl A n)(G:GS A env sl s0 CP Z0 s σ Z ξ)(hk:aw Z k d)(hd:ip d=some ks)(hc:aw Z c e)(he:gv σ e=some kvs)
 (hf:aw Z f df) (h:∀v tk,aw Z v ((look kvs ks).getD df)→Q v {s with toks:=tk}):wpAny cx.M A (call (.builtin "dict.get") [c,k,f]) Q E s:=by
 refine eO (mz G.inv hc he) fun a xs q2 h1 h2 zz h3=>?_;subst q2
 refine aF (j9 hk hd) fun b q1 hb=>?_;subst q1
 refine call_meetsIn PySem.F.slot_dict_get h1.typeIs PySem.F.entry_dict_get (PySem.F.args_dict_get_3 _ _ _) (meetsH_dict_get_default cx.tk a b h3 f) (gJ (tupleKind_room_in1 (R.room 1 (by lia))) ks xs (hb.is G.inv.zone) h1 ?_)
 refine(?_:Q _ _)
 rcases h2.look ks with⟨p,d',e1,e2,r⟩|⟨e1,e2⟩
 ·exact rE e1 (h _ _ (by exact rE e2 r))
 ·exact rE e1 (h _ _ (by exact rE e2 hf))
theorem jq{K:Type}[DecidableEq K]{P:K→Prop}{kvs:List (K×D)}{k:K}(h:∀kv∈kvs,P kv.1)(hk:P k):∀kv∈put kvs k d,P kv.1:=by
 delta put
 split
 ·intro kv hm
  refine aF (List.mem_map.mp hm) fun kv' hm' q2=>?_;subst q2
  split
  ·exact h kv' hm'
  ·exact h kv' hm'
 ·intro kv hm
  rcases List.mem_append.mp hm with hm|hm
  ·exact h kv hm
  ·exact rE (List.mem_singleton.mp hm) hk
theorem ya{t:Tok}(hx:bv x)(G:GS A env sl s0 CP Z0 s σ Z ξ)(ha:σ a=some (.dS kvs))(hv:aw Z v d)(hn:kvs.length≤1048576)
 {Q:Unit→Shared→Prop} (h:∀s',GS A env sl s0 CP Z0 s' (σ.put a (.dS (put kvs x d))) Z ξ→Q () s'):wpAny cx.M A (setItem (.ref a) (.str x t) v) Q E s:=by
 refine ck (G.inv.own a _ ha) fun za o ho hm=>?_
 cases hm using OM.Ft with
 |dS h1 h2 h3 h4=>
  refine wpAny_setItem_pairs (strKind_is _ _ x t) (Heap.dictOf_iff.mpr (aP o ho h1)) (fun h' hm' hs=>?_) ?_
  ·refine aF (Heap.dictOf_iff.mp hm') fun o' ho' hd'=>?_
   exact h _ (G.upd hs ha ho' (.dS hd' (h2.put x hv) h3 (jq h4 hx)))
  ·refine rE h2.length ?_;refine(?_:_≤2^24);lia
set_option tactic.hygienic true in
theorem xZ{k:Value}{dk:D}{kvs:List (List Str×D)}(R:jl A n)(G:GS A env sl s0 CP Z0 s σ Z ξ)(hk:aw Z k dk)(hd:ip dk=some ks)(ha:σ a=some (.dT kvs))(hv:aw Z v d)
 (hn:kvs.length≤1048576) {Q:Unit→Shared→Prop} (h:∀s',GS A env sl s0 CP Z0 s' (σ.put a (.dT (put kvs ks d))) Z ξ→Q () s'):wpAny cx.M A (setItem (.ref a) k v) Q E s:=by
 refine ck (G.inv.own a _ ha) fun za o ho hm=>?_
 refine aF (j9 hk hd) fun b q1 hb=>?_;subst q1
 cases hm using OM.FM with
 |dT h2 h3 h4 h5 h6 h7 h8=>
  rename_i es ep xs
  have hD:s.heap.DictOfH cx.tk a xs:=(dB o es ep ho h2 h3 h4 (fun x hx=>(h5 x hx).is G.inv.zone) h6)
  refine wpAny_setItem_heap (knd:=cx.tk) (tupleKind_room_in1 (R.room 1 (by lia))) (hb.is G.inv.zone) hD (fun h' hm' hs=>?_) ?_
  ·refine fC hm' fun o' es' ep' ho' hc' hd' he' zz hn'=>?_;clear hm'
   refine h _ (G.upd hs ha ho' (.dT hc' hd' he' (fun x hx=>?_) hn' (h7.put ks b hv) h8))
   rcases mem_storedH hx with⟨y,hy,e1,e2⟩|⟨e1,e2⟩
   ·exact rE e1 (rE e2 (h5 y hy))
   ·exact rE e1 (rE e2 hb)
  ·refine rE h7.length ?_;refine(?_:_≤2^24);lia
theorem oH{t:Tok}(hx:bv x)(G:GS A env sl s0 CP Z0 s σ Z ξ)(ha:σ a=some (.dS kvs))(hv:aw Z v d)(hn:kvs.length≤1048576)
 (h1':∀d',look kvs x=some d'→∀v' tk,aw Z v' d'→Q v' {s with toks:=tk})
 (h2':look kvs x=none→∀s',GS A env sl s0 CP Z0 s' (σ.put a (.dS (put kvs x d))) Z ξ→Q v s'):wpAny cx.M A (call (.builtin "dict.setdefault") [.ref a,.str x t,v]) Q E s:=by
 refine ck (G.inv.own a _ ha) fun za o ho hm=>?_
 cases hm using OM.Ft with
 |dS h1 h2 h3 h4=>
  have hD:=Heap.dictOf_iff.mpr (aP o ho h1)
  refine call_meetsIn PySem.F.slot_dict_setdefault hD.mapOf.typeIs PySem.F.entry_dict_setdefault (PySem.F.args_dict_setdefault_3 _ _ _)
   (kt_meets_setdefault cx.sk a (strKind_is _ _ x t) (beq_eq_false_iff_ne.mpr h3) v) (lV _ hD (by refine rE h2.length ?_;refine(?_:_≤2^24);lia) (fun v' e=>?_) (fun e h' hm' hs=>?_))
  ·rcases h2.look x with⟨v2,d',e1,e2,r⟩|⟨e1,e2⟩
   ·rw[e]at e1;(replace e1:=sI e1;subst e1);exact h1' d' e2 _ _ r
   ·rw[e]at e1;exact sN e1
  ·rcases h2.look x with⟨v2,d',e1,e2,r⟩|⟨e1,e2⟩
   ·rw[e]at e1;exact nS e1
   ·refine aF (Heap.dictOf_iff.mp hm') fun o' ho' hd'=>?_
    exact h2' e2 _ (G.upd hs ha ho' (.dS hd' (h2.put x hv) h3 (jq h4 hx)))
end
end
section
section
variable{ξ:List (Option D)}
noncomputable def eF:D→Bool
 | .none=>true
 |_=>false
theorem qh(h:aw Z v d):(v==Value.none)=eF d:=by
 cases h<;>rfl
theorem v4(h:aw Z v d)(q:Q (.bool (eF d)) s):wpAny cx.M A (compareOp .Is v .none) Q E s:=
 is_none_gen (by exact rE (qh h) q)
theorem qn(h:aw Z v d)(q:Q (.bool (!eF d)) s):wpAny cx.M A (compareOp .IsNot v .none) Q E s:=
 isnot_none_gen (by exact rE (qh h) q)
noncomputable def xC(σ:af):D→Option Bool
 | .bool b=>some b
 |d=>match bg σ d with
  |some ds=>if ds.length≤1048576 then some (!ds.isEmpty)else none
  |none=>none
theorem ql(G:GS A env sl s0 CP Z0 s σ Z ξ)(h:aw Z v d)(e:xC σ d=some b){Q:Bool→Shared→Prop}(q:∀tk,Q b {s with toks:=tk}):wpAny cx.M A (truthy v) Q E s:=by
 by_cases hb:∃c,d= .bool c
 ·refine xE hb fun c q1=>?_;clear hb;subst q1
  cases h using aw.E2;(replace e:=sI e;subst e)
  exact wpAny_truthy_bool (q s.toks)
 ·have:∃ds,bg σ d=some ds∧ds.length≤1048576∧b= !ds.isEmpty:=by
   delta xC at e
   split at e
   ·exact absurd ⟨_,rfl⟩ hb
   ·split at e
    ·split at e
     ·(replace e:=sI e;subst e);exact(bP _ (by assumption) (by assumption) rfl)
     ·exact nS e
    ·exact nS e
  refine cz this fun ds e1 e2 q3=>?_;subst q3
  refine be (dY G.inv h e1) fun a o vs k q4 h1 h2 h3 h4=>?_;subst q4
  have hl:vs.size=ds.length:=by have:=h4.length;simpa using this
  refine wpAny_truthy_list (fq o h1 h2 k h3) (by lia) ?_
  have:vs.isEmpty=ds.isEmpty:=by
   cases ds with
   |nil=>have:vs.size=0:=hl;simp[Array.isEmpty,this]
   |cons=>have:vs.size≠0:=by refine rE hl ?_;simp
          simp[Array.isEmpty,this]
  exact rE this (q _)
theorem Bp{a b:Int}{t:Tok}(q:Q (.bool (decide (b<a))) s):wpAny cx.M A (compareOp .Gt (.int a t) (.int b u)) Q E s:=PyProof.Rows.gt_int q
theorem Bq{a b:Int}{t:Tok}(q:Q (.bool (decide (b≤a))) s):wpAny cx.M A (compareOp .GtE (.int a t) (.int b u)) Q E s:=PyProof.Rows.ge_int q
theorem Bn{a b:Int}{t:Tok}(q:Q (.bool (decide (a<b))) s):wpAny cx.M A (compareOp .Lt (.int a t) (.int b u)) Q E s:=PyProof.Rows.lt_int q
inductive iX:Operator→D→D→D→Prop
 |Gl (a b:Int):iX .Add (.int a) (.int b) (.int (a+b))
 |FU (a b:Int):iX .Sub (.int a) (.int b) (.int (a-b))
 |F0 (a b:Int):b.natAbs<2^63→iX .Mult (.int a) (.int b) (.int (a*b))
 |Gh (a b:Int):b≠0→b.natAbs<1073741824→iX .FloorDiv (.int a) (.int b) (.int (a.fdiv b))
 |F3 (a b:Int):b≠0→iX .Mod (.int a) (.int b) (.int (a.fmod b))
 |FX:iX .Pow (.int 10) (.int 18) (.int (10^18))
 |Gk (x y:Str):x.length+y.length≤1048576→iX .Add (.str x) (.str y) (.str (x++y))
 |Hq (xs ys:List D):xs.length+ys.length≤1048576→iX .Add (.lst xs) (.lst ys) (.lst (xs++ys))
theorem ij{y:Str}(hx:bv x)(hy:bv y)(h:x.length+y.length≤1048576):bv (x++y):=by
 refine⟨?_,?_⟩
 ·exact rE (Str.length_append _ _) h
 ·have h1:=hx.2
  have h2:=hy.2
  simp only[PyData.strOk]at h1 h2⊢
  exact rE (Str.cps_append _ _) (rE Array.all_append (rE h1 (rE h2 rfl)))
set_option tactic.hygienic true in
theorem Br{op:Operator}{w:Value}{f:D}(G:GS A env sl s0 CP Z0 s σ Z ξ)(hv:aw Z v d)(hw:aw Z w e)(hb:iX op d e f)
 (q:co A env sl s0 CP Z0 ξ Z σ f Q):wpAny cx.M A (binaryOp op v w) Q E s:=by
 cases hb with
 |Gl a b=>cases hv using aw.CW;cases hw using aw.CW;exact PyProof.Rows.add_int (q _ _ _ (G.toks _) (am.le_refl _) (.int _ _))
 |FU a b=>cases hv using aw.CW;cases hw using aw.CW;exact PyProof.Rows.sub_int (q _ _ _ (G.toks _) (am.le_refl _) (.int _ _))
 |F0 a b hb=>cases hv using aw.CW;cases hw using aw.CW;exact PyProof.Rows.mul_int (q _ _ _ (G.toks _) (am.le_refl _) (.int _ _)) (IntMulOk.of_right (intBits_le_64 (by lia) (by lia)))
 |Gh a b hb h2=>cases hv using aw.CW;cases hw using aw.CW;exact PyProof.Rows.floordiv_int hb (q _ _ _ (G.toks _) (am.le_refl _) (.int _ _)) (.inl (PyProof.noPylong_small h2))
 |F3 a b hb=>cases hv using aw.CW;cases hw using aw.CW;exact PyProof.Rows.mod_int' hb (q _ _ _ (G.toks _) (am.le_refl _) (.int _ _))
 |FX=>cases hv using aw.CW;cases hw using aw.CW;exact PyProof.Rows.pow_int (by decide) (by decide+kernel) (q _ _ _ (G.toks _) (am.le_refl _) (.int _ _))
 |Gk x y h=>
  cases hv using aw.CV with
  |str _ hx=>
   cases hw using aw.CV with
   |str _ hy=>exact PyProof.Rows.add_str (fun t' tk=>q _ _ _ (G.toks _) (am.le_refl _) (.str _ _ (ij hx hy h))) (by refine(?_:_≤2^24);lia)
 |Hq xs ys h=>
  cases hv using aw.Dw with
  |lst h1 h2 h3 h4=>
   replace h2:=h2.1
   cases hw using aw.Dw with
   |lst k1 k2 k3 k4=>
    replace k2:=k2.1
    rename_i a o vs m b o' ws m'
    obtain⟨cls,dd,data,sl⟩:=o
    obtain⟨cls2,dd2,data2,sl2⟩:=o'
    simp only at h2 h3 k2 k3
    subst h2 h3 k2 k3
    have l1:=h4.length
    have l2:=k4.length
    simp only[Array.length_toList]at l1 l2
    have hsz:vs.size+ws.size≤1048576:=by lia
    refine xA (G.push {cls:= .type "list",data:= .seq (vs++ws)} s.toks) fun hz G'=>?_
    refine concat_meets (A:=A) (E:=E) (aP _ (G.inv.zone _ _ h1) rfl) (aP _ (G.inv.zone _ _ k1) rfl) noFill_list_add seq_list_add PySem.F.slot_list_add PySem.F.entry_list_add (PySem.F.args_list_add_2 _ _)
     (list_addW a b vs ws m m' dd dd2 sl sl2 (by refine(?_:_≤2^24);lia)) (dx (G.inv.zone _ _ h1) (G.inv.zone _ _ k1) ?_)
    exact q _ _ _ G' hz (.lst (am.CN _ _ _) ⟨rfl,rfl⟩ rfl (by simpa using(h4.append k4).mono hz))
theorem vY{y:Str}{t:Tok}(q:Q (.bool (!(y.cps.toList<x.cps.toList))) s):wpAny cx.M A (compareOp .LtE (.str x t) (.str y u)) Q E s:=PySem.P.le_str q
theorem Bl{a:Int}{t:Tok}(G:GS A env sl s0 CP Z0 s σ Z ξ)(q:co A env sl s0 CP Z0 ξ Z σ (.int (-a)) Q):wpAny cx.M A (unaryOp .USub (.int a t)) Q E s:=
 PyProof.Rows.neg_int (q _ _ _ (G.toks _) (am.le_refl _) (.int _ _))
theorem Ao{t:Tok}(G:GS A env sl s0 CP Z0 s σ Z ξ)(hx:bv x)(q:co A env sl s0 CP Z0 ξ Z σ (.int x.length) Q):wpAny cx.M A (call (.builtin "len") [.str x t]) Q E s:=
 PyProof.Rows.len_str (by have:=hx.1;lia) (q _ _ _ (G.toks _) (am.le_refl _) (.int _ _))
theorem Ap(G:GS A env sl s0 CP Z0 s σ Z ξ)(hv:aw Z v d)(hd:bg σ d=some ds)(hn:ds.length≤1048576)
 (q:co A env sl s0 CP Z0 ξ Z σ (.int ds.length) Q):wpAny cx.M A (call (.builtin "len") [v]) Q E s:=by
 refine be (dY G.inv hv hd) fun a o vs k q4 h1 h2 h3 h4=>?_;subst q4
 have hl:vs.size=ds.length:=by have:=h4.length;simpa using this
 refine Calls.call_len_list (fq o h1 h2 k h3) (by lia) ?_
 refine rE hl ?_
 exact q _ _ _ (G.toks _) (am.le_refl _) (.int _ _)
theorem yg{k:Int}{t:Tok}(G:GS A env sl s0 CP Z0 s σ Z ξ)(hv:aw Z v d)(hd:bg σ d=some ds)(h0:0≤k)(hk:k<2^63)(he:ds[k.toNat]?=some e)
 (q:∀u,aw Z u e→Q u s):wpAny cx.M A (getItem v (.int k t)) Q E s:=by
 refine be (dY G.inv hv hd) fun a o vs m q4 h1 h2 h3 h4=>?_;subst q4
 refine aF (h4.get he) fun u e1 r=>?_
 exact wpAny_getItem_list (fq o h1 h2 m h3) h0 hk (by simpa using e1) (q u r)
theorem ye{k:Int}{t:Tok}(G:GS A env sl s0 CP Z0 s σ Z ξ)(hv:aw Z v d)(hd:iU d=some ds)(hlo: -(2^63)≤k)(hk:k<2^63)(hj:seqIndex? k ds.length=some j)(he:ds[j]?=some e)
 (q:∀u,aw Z u e→Q u s):wpAny cx.M A (getItem v (.int k t)) Q E s:=by
 refine be (io G.inv hv hd) fun a o vs m q4 h1 h2 h3 h4=>?_;subst q4
 refine aF (h4.get he) fun u e1 r=>?_
 have hl:vs.size=ds.length:=by have:=h4.length;simpa using this
 exact PyProof.Rows.getItem_tuple (fq o h1 h2 m h3) hlo hk (by exact rE hl hj) (by simpa using e1) (q u r)
theorem aB.set(hr:aB Z vs ds)(h:aw Z v d):∀(k:Nat),aB Z (vs.set k v) (ds.set k d):=by
 intro k
 induction vs generalizing ds k with
 |nil=>cases hr;exact .nil
 |cons u vs ih=>
  cases hr with
  |cons hu r=>
   cases k with
   |zero=>exact .cons h r
   |succ k=>exact .cons hu (ih r k)
theorem mF{w:World}{l:Addr}{items:Array Value}{k:Int}{t:Tok}{Q:Unit→Shared→Prop}(ho:s.heap.get? l=some {cls:= .type "list",data:= .seq items n})
 (h0:0≤k) (hfit:k<2^63) (hn:k<items.size)
 (hQ:∀h' n',h'.get? l=some {cls:= .type "list",data:= .seq (items.setIfInBounds k.toNat v) n'}→Heap.SameBut l s.heap h'→Q () {s with heap:=h'}):
 wpAny (model prog w) A (setItem (.ref l) (.int k t) v) Q E s:=by
 revert ho h0 hfit hn hQ;revert n Q;revert A s E prog w l items k t v;apply zq
 generalize (b9 _ _).1.1.1.1=A,(b9 _ _).1.1.1.2=E,(b9 _ _).1.1.2=s,(b9 _ _).1.2.1=v,(b9 _ _).1.2.2=prog,(b9 _ _).2.1.1.1=w,(b9 _ _).2.1.1.2=l,(b9 _ _).2.1.2=items,(b9 _ _).2.2.1=k,(b9 _ _).2.2.2=t;intro n Q ho h0 hfit hn hQ
 have hl:s.heap.IsList l items:=(fq _ ho rfl n rfl)
 have hd:({cls:= .type "list",data:= .seq items n}:Obj).data= .seq items n:=rfl
 delta setItem
 try with_reducible refine wpAny_holding ?_
 first|refine wpAny_bind (wpAny_pure ?_)|skip
 refine wpAny_bind (wpAny_sequenceKey hl.typeIs (by decide) ?_)
 refine wpAny_bind (wpAny_callSpecial?_slot (name:=ofString "__setitem__") hl.typeIs slot_list_setitem
  (wpAny_call_entry slot_list_setitem hl.typeIs entry_list_setitem ?_ (args_list_setitem _ _ _)))
 refine(?_:wpAny _ _ (Builtin.List.listSubscript? (.int k t)>>=_) _ _ s)
 refine wpAny_bind (wpAny_listSubscript_int (fitsIndex_of h0 hfit) ?_)
 clear hfit
 refine xE (Int.eq_ofNat_of_zero_le h0) fun j q1=>?_;subst q1
 have hj:j<items.size:=by lia
 have hx':items[j]?=some items[j]:=Array.getElem?_eq_getElem hj
 refine(?_:wpAny _ _ ((seqItemAt l j>>=fun r=>pure (r.map (j,·)))>>=_) _ _ s)
 refine wpAny_bind (wpAny_bind (wpAny_seqItemAt ho hd (wpAny_pure ?_)))
 refine rE hx' ?_
 refine(?_:wpAny _ _ (setSeqItemAt l j v>>=_) _ _ s)
 have hm:∃n',Obj.mapSeq (·.setIfInBounds j v) {cls:= .type "list",data:= .seq items n}={cls:= .type "list",data:= .seq (items.setIfInBounds j v) n'}:=by
  exact(iE _ rfl)
 revert hm;refine fun h0=>xE h0 fun n' hm=>?_;clear h0
 have hfin:(s.heap.update l (Obj.mapSeq (·.setIfInBounds j v))).get? l=some {cls:= .type "list",data:= .seq (items.setIfInBounds j v) n'}:=by
  exact rE (Heap.get?_update_self _ ho (by exact rE hm rfl)) (rE hm rfl)
 refine wpAny_bind (wpAny_setSeqItemAt ho hd ?_)
 first
  |exact wpAny_bind (wpAny_pure (wpAny_pure (aP .none rfl (wpAny_pure (hQ _ _ hfin (Heap.SameBut.update ..))))))
  |exact wpAny_pure ⟨.none,rfl,wpAny_pure (hQ _ _ hfin (Heap.SameBut.update ..))⟩
set_option tactic.hygienic true in
theorem An{k:Int}{t:Tok}(G:GS A env sl s0 CP Z0 s σ Z ξ)(ha:σ a=some (.lst ds))(hv:aw Z v d)(h0:0≤k)(hk:k<2^63)(hn:k<ds.length)
 {Q:Unit→Shared→Prop} (q:∀s',GS A env sl s0 CP Z0 s' (σ.put a (.lst (ds.set k.toNat d))) Z ξ→Q () s'):wpAny cx.M A (setItem (.ref a) (.int k t) v) Q E s:=by
 refine ck (G.inv.own a _ ha) fun za o ho hm=>?_
 cases hm using OM.Dw with
 |lst hr=>
  rename_i vs m
  have hl:=hr.length
  refine mF (items:=vs) ho h0 hk (by simpa using(by lia:k<(vs.toList.length:Int))) fun h' n' ho' hs=>?_
  exact q _ (G.upd hs ha ho' (.lst (by exact rE Array.toList_setIfInBounds (hr.set hv _))))
end
end
section
section
variable{ξ:List (Option D)}
set_option tactic.hygienic true in
theorem wg(G:GS A env sl s0 CP Z0 s σ Z ξ)(ha:σ a=some (.lst ds))(hv:aw Z v d)(hn:ds.length≤1048576)
 (q:∀s',GS A env sl s0 CP Z0 s' (σ.put a (.lst (ds++[d]))) Z ξ→Q .none s'):wpAny cx.M A (call (.builtin "list.append") [.ref a,v]) Q E s:=by
 refine ck (G.inv.own a _ ha) fun za o ho hm=>?_
 cases hm using OM.Dw with
 |lst hr=>
  rename_i vs m
  have hl:=hr.length
  simp only[Array.length_toList]at hl
  refine wpAny_list_append_plain (items:=vs) (iE m ho) (fun h' hl' hs=>?_) (by refine(?_:_≤2^24);lia)
  refine xE hl' fun n' ho'=>?_;clear hl'
  exact q _ (G.upd hs ha ho' (.lst (by exact rE Array.toList_push (hr.append (.one hv)))))
theorem pg(l b:Addr)(items:Array Value)(n:Nat)(items2:Array Value)(n2:Nat)(dd dd2:Option Addr)(sl sl2:Array (Option Value))(hc0:¬(!items.isEmpty&&Builtin.List.listTooLong (items.size+items2.size))=true)(hc1:items.size≤sizeLine)
 (hs2:items.size+items2.size≤sizeLine+1):
 Meets (Builtin.«list.extend» ⟨[.ref l,.ref b],[]⟩) (fun zz R s=>s.heap.get? l=some {cls:= .type "list",dict:=dd,data:= .seq items n,slots:=sl}∧s.heap.get? b=some {cls:= .type "list",dict:=dd2,data:= .seq items2 n2,slots:=sl2}∧R (.ok (.ret Value.none)) {s with heap:=s.heap.update l (Obj.mapSeq fun x=>x++items2),toks:=s.toks}):=
 .of_wp fun prog w A R s h=>by
  obtain⟨hp,g,d,tk,os⟩:=s;revert h;refine fun h0=>dF h0 fun hl hb h=>?_;clear h0;have f1:=AutoSeq1.idx_int;have f2:=AutoSeq1.sub_tuple_tuple;have f3:=AutoSeq1.sub_list_list;have f4:=AutoSeq1.sub_tuple_list;have f5:=AutoSeq1.sub_list_tuple;
  have hz':(items++items2).size≤sizeLine+1:=by exact rE Array.size_append hs2
  wp_walk using(wpAny_updateSeq hl rfl (hz:=hc1) (_hz':=hz')),AutoSeq1.wpAny_loadPart' hl,AutoSeq1.wpAny_loadPart' hb;exact(aP _ rfl h)
set_option tactic.hygienic true in
theorem v7{es:List D}(G:GS A env sl s0 CP Z0 s σ Z ξ)(ha:σ a=some (.lst ds))(hv:aw Z v d)(hd:bg σ d=some es)(hn:ds.length+es.length≤1048576)
 (q:∀s',GS A env sl s0 CP Z0 s' (σ.put a (.lst (ds++es))) Z ξ→Q .none s'):wpAny cx.M A (call (.builtin "list.extend") [.ref a,v]) Q E s:=by
 refine ck (G.inv.own a _ ha) fun za o ho hm=>?_
 refine be (dY G.inv hv hd) fun b o2 ws m2 q4 h1 h2 h3 h4=>?_;subst q4
 cases hm using OM.Dw with
 |lst hr=>
  rename_i vs m
  have hl:=hr.length
  have hl2:=h4.length
  simp only[Array.length_toList]at hl hl2
  obtain⟨cls2,dd2,data2,sl2⟩:=o2
  simp only at h2 h3
  subst h2 h3
  refine call_meets PySem.F.slot_list_extend (aP _ ho rfl) PySem.F.entry_list_extend (PySem.F.args_list_extend_2 _ _)
   (pg a b vs m ws m2 none dd2 #[] sl2 ?_ (by refine(?_:_≤2^24);lia) (by refine(?_:_≤2^24+1);lia)) (dx ho h1 ?_)
  ·have e:Builtin.List.listTooLong (vs.size+ws.size)=false:=by
    delta Builtin.List.listTooLong;exact decide_eq_false (by refine(?_:¬(_>2^24));lia)
   refine rE e (rE (Bool.and_false _) ?_);decide
  ·refine(?_:Q _ _)
   have hm:∃n',Obj.mapSeq (fun x=>x++ws) {cls:= .type "list",data:= .seq vs m}={cls:= .type "list",data:= .seq (vs++ws) n'}:=(iE _ rfl)
   revert hm;refine fun h0=>xE h0 fun n' hm=>?_;clear h0
   exact q _ (G.upd (Heap.SameBut.update ..) ha (by exact rE (Heap.get?_update_self _ ho (by exact rE hm rfl)) (rE hm rfl)) (.lst (by exact rE Array.toList_append (hr.append h4))))
theorem rN(G:GS A env sl s0 CP Z0 s σ Z ξ)(hv:aw Z v d)(hd:bg σ d=some ds)(hn:ds.length≤1048576)
 (q:co A env sl s0 CP Z0 ξ Z σ (.lst ds) Q):wpAny cx.M A (call (.type "list") [v]) Q E s:=by
 refine be (dY G.inv hv hd) fun a o vs m q4 h1 h2 h3 h4=>?_;subst q4
 have hl:=h4.length
 simp only[Array.length_toList]at hl
 refine call_list_seq (hsz:=by refine(?_:_≤2^24);lia) a (.inl rfl) h1 h2 h3 fun h' c' hk hD=>?_
 refine xA (G.freeze (t:=s.toks) hk (aS _) hD) fun hz G'=>?_
 exact q _ _ _ G' hz (.lst (am.CN _ _ _) ⟨rfl,rfl⟩ rfl (h4.mono hz))
noncomputable def BM(σ:af):D→Bool
 | .lst _=>true
 | .ref a=>match σ a with|some (.lst _)=>true|_=>false
 |_=>false
theorem uG(G:GS A env sl s0 CP Z0 s σ Z ξ)(hv:aw Z v d)(hd:(∃ds,d= .lst ds)∨d= .none∨∃x,d= .str x)
 (q:∀tk,Q (.bool (BM σ d)) {s with toks:=tk}):wpAny cx.M A (call (.builtin "isinstance") [v,.type "list"]) Q E s:=by
 rcases hd with⟨ds,rfl⟩|rfl|⟨x,rfl⟩
 ·refine be (dY G.inv hv (ds:=ds) rfl) fun a o vs m q4 h1 h2 h3 h4=>?_;subst q4
  exact IsiPair.list_list h1 h2 (q s.toks)
 ·cases hv using aw.noneE;exact IsiPair.NoneType_list (q _)
 ·cases hv using aw.CV;exact IsiPair.str_list (q _)
theorem Bo{i:Int}{t:Tok}(q:Q (.int i t) s):wpAny cx.M A (call (.type "int") [.int i t]) Q E s:=call_int_int q
theorem yb{i:Int}{t:Tok}(G:GS A env sl s0 CP Z0 s σ Z ξ)(q:co A env sl s0 CP Z0 ξ Z σ (.rng i) Q):wpAny cx.M A (call (.type "range") [.int i t]) Q E s:=by
 refine xA (G.push (qj i s.toks t (s.toks+1)) (s.toks+1+1)) fun hz G'=>?_
 exact call_range_1 (q _ _ _ G' hz (.rng (am.CN _ _ _)))
theorem Bm{a b:Int}{t:Tok}(R:jl A n)(G:GS A env sl s0 CP Z0 s σ Z ξ)(q:co A env sl s0 CP Z0 ξ Z σ (.int (if b>a then b else a)) Q):wpAny cx.M A (call (.builtin "max") [.int a t,.int b u]) Q E s:=by
 refine max_two_ints R.handled fun h' tk hk=>?_
 have G':=G.keeps (t:=tk) hk
 split
 ·exact q _ _ _ G' (am.le_refl _) (by rename_i h;exact rE (if_pos h) (.int _ _))
 ·exact q _ _ _ G' (am.le_refl _) (by rename_i h;exact rE (if_neg h) (.int _ _))
theorem As{y:Str}{t:Tok}(G:GS A env sl s0 CP Z0 s σ Z ξ)(q:co A env sl s0 CP Z0 ξ Z σ (.int (Txt.find x y)) Q):wpAny cx.M A (call (.builtin "str.find") [.str x t,.str y u]) Q E s:=
 SC.find (q _ _ _ (G.toks _) (am.le_refl _) (.int _ _))
theorem l9(hx:bv x)(l u:Option Int):bv (Txt.slice x l u):=by
 refine⟨Nat.le_trans (Txt.slice_le x l u) hx.1,?_⟩
 have h:=hx.2
 delta Txt.slice
 split
 ·exact h
 ·simp only[PyData.strOk,Array.all_eq_true]at h⊢
  intro i hi
  have hm:(List.filterMap (fun x_1=>x.cps[x_1]?) (Builtin.Str.strSliceIndices l u 1 x.length)).toArray[i]∈List.filterMap (fun x_1=>x.cps[x_1]?) (Builtin.Str.strSliceIndices l u 1 x.length):=by
   exact rF (propext List.mem_toArray) (Array.getElem_mem hi)
  refine aF (List.mem_filterMap.mp hm) fun j zz hj=>?_
  refine xE (Array.getElem?_eq_some_iff.mp hj) fun hlt e=>?_
  exact rF e (h j hlt)
noncomputable abbrev g9(l u:Value):Obj:={cls:= .type "slice",data:= .fields #[l,u,.none]}
theorem tD:KeptByPush (fun s'=>GS A env sl s0 CP Z0 s' σ Z ξ):=fun zz o k G=>G.Dh o k
theorem uB{t:Tok}{j:Int}(G:GS A env sl s0 CP Z0 s σ Z ξ)(hx:bv x)(q:co A env sl s0 CP Z0 ξ Z σ (.str (Txt.slice x none (some j))) Q):
 ItemOn cx.M A E (.str x t) (.ref s.heap.objs.size) Q {s with heap:=s.heap.push (g9 .none (.int j uj))}:=
 SBG.sliceItem_ns tD G (fun s' t' G'=>q _ _ _ G' (am.le_refl _) (.str _ _ (l9 hx _ _))) (by have:=hx.1;refine(?_:_≤2^24);lia)
theorem uA{t:Tok}{j:Int}(G:GS A env sl s0 CP Z0 s σ Z ξ)(hx:bv x)(q:co A env sl s0 CP Z0 ξ Z σ (.str (Txt.slice x (some j) none)) Q):
 ItemOn cx.M A E (.str x t) (.ref s.heap.objs.size) Q {s with heap:=s.heap.push (g9 (.int j uj) .none)}:=
 SBG.sliceItem_sn tD G (fun s' t' G'=>q _ _ _ G' (am.le_refl _) (.str _ _ (l9 hx _ _))) (by have:=hx.1;refine(?_:_≤2^24);lia)
theorem yf{t:Tok}{i:Int}(G:GS A env sl s0 CP Z0 s σ Z ξ)(hx:bv x)(hr:fitsSsize i=true)(hin:(Txt.charAt x i).isSome=true)(q:co A env sl s0 CP Z0 ξ Z σ (.str (Txt.item x i)) Q):
 ItemOn cx.M A E (.str x t) (.int i u) Q s:=by
 refine SB.item hr hin (q _ _ _ (G.toks _) (am.le_refl _) (.str _ _ ⟨by refine(?_:1≤_);lia,?_⟩))
 refine xE (Option.isSome_iff_exists.mp hin) fun c hc=>?_
 simp only[Txt.item,hc,Option.getD_some,PyData.strOk]
 have h:=hx.2
 simp only[PyData.strOk,Array.all_eq_true]at h
 unfold Txt.charAt at hc
 refine aF (Option.bind_eq_some_iff.mp hc) fun k zz hk=>?_
 refine xE (Array.getElem?_eq_some_iff.mp hk) fun hlt e=>?_
 have:=h k hlt
 rw[e]at this
 simpa using this
end
end
section
open PySem PySem.W PyProof.Rows PySem.Spec PySem.Builtin PySem.Builtin.ObjectAttr
noncomputable def kt(K:Frag)(C:Addr)(name:Str):Bool:=
 plainGet K C name&&hasDictIn K C&&(match findIn K (.ref C) name with|some attr=>noGet K attr|none=>false)
noncomputable def jX(K:Frag)(C:Addr)(name:Str)(f:Addr):Bool:=
 findIn K (.ref C) "__getattribute__" ==some (some (.builtin "object.__getattribute__"))&&findIn K (.ref C) "__getattr__" ==some none&&
 findIn K (.ref C) name==some (some (.ref f))&&typeIn K (.ref f)==some (.type "function")
noncomputable def kA(K:Frag)(C:Addr)(name:Str):Bool:=
 findIn K (.ref C) "__setattr__" ==some (some (.builtin "object.__setattr__"))&&plainOver K C&&takerIn K C name==some none&&hasDictIn K C
theorem iV.look{o:Obj}{xs:List (Str×Value)}(h:iV o xs)(name:Str):lookIn name o=some (valueAt xs name):=by
 refine cy h fun es ep hd hk zz hf=>?_;clear h
 delta lookIn
 refine rE hd ?_
 dsimp only
 have e:(es.toList.find? fun x=>x.key.isStr name).map (·.val)=valueAt xs name:=by
  refine rF (hf name) ?_;delta nsFind findBy;exact rF (Array.find?_toList) rfl
 cases q:es.toList.find? fun x=>x.key.isStr name with
 |some x=>rw[q]at e;simp only[Option.map_some]at e;exact rF e rfl
 |none=>
  rw[q]at e
  simp only[Option.map_none]at e
  refine rF e ?_
  have:es.toList.any (·.refKey)=false:=by
   refine rE (propext List.any_eq_false) ?_
   intro x hx
   refine jm (hk x (Array.mem_toList_iff.mp hx)) fun n t hkey=>?_
   simp[DictEntry.refKey,hkey]
  dsimp only
  exact rE this rfl
section
variable{ξ:List (Option D)}
theorem GS.X(G:GS A env sl s0 CP Z0 s σ Z ξ):cx.K.In s.heap:=fun a o e=>G.inv.zone _ _ (G.inv.base _ _ (G.inv.ok.X a o e))
theorem pu{h:Heap}{o:Obj}(h1:h.get? a=some (instObj C da))(h2:h.get? da=some o):InstAt h a (instObj C da) C (some o):=⟨h1,rfl,rfl,h2⟩
theorem rJ(h:aw Z v d):handedIn v=true:=by cases h<;>rfl
theorem uH{name:Str}{expr:Bool}(G:GS A env sl s0 CP Z0 s σ Z ξ)(hv:aw Z v d)(hd:du σ d=some (C,fs))(hl:look fs name=some e)(ok:kt cx.K C name=true)
 (q:∀u tk,aw Z u e→Q u {s with toks:=tk}):wpAny cx.M A (getAttr v name expr) Q E s:=by
 refine be (xp G.inv hv hd) fun a da o xs q4 h1 h2 h3 h4=>?_;subst q4
 simp only[kt,Bool.and_eq_true]at ok
 refine xA ok fun w0 o3=>?_;clear ok;obtain⟨o1,o2⟩:=w0
 refine oC (o:=findIn cx.K (.ref C) name) (fun ha=>?_) fun attr ha=>?_
 ·rw[ha]at o3;exact fT o3
 ·skip
  rw[ha]at o3
  rcases h4.look name with⟨u,d',e1,e2,r⟩|⟨e1,e2⟩
  ·rw[hl]at e2;(replace e2:=sI e2;subst e2)
   have e3:lookIn name o=some (some u):=by exact rE (h3.look _) (rE e1 rfl)
   exact get_value G.X (pu h1 h2) (plainGet_of o1).1 (findObj_own o2 ha o3 e3) (rJ r) (q u _ r)
  ·rw[hl]at e2;exact sN e2
theorem qo{name:Str}{pl:Sem Bool}{Q:Value×List Value→Shared→Prop}(G:GS A env sl s0 CP Z0 s σ Z ξ)(hv:aw Z v d)(hd:du σ d=some (C,fs))(hl:look fs name=none)
 (ok:jX cx.K C name f=true) (q:Q (.ref f,[v]) s):wpAny cx.M A (getMethod v name pl) Q E s:=by
 refine be (xp G.inv hv hd) fun a da o xs q4 h1 h2 h3 h4=>?_;subst q4
 simp only[jX,Bool.and_eq_true,beq_iff_eq]at ok
 refine xA ok fun w0 o4=>?_;clear ok;obtain⟨⟨o1,o2⟩,o3⟩:=w0
 refine method_fn G.X (pu h1 h2) o1 o2 o3 o4 ?_ q
 rcases h4.look name with⟨u,d',e1,e2,r⟩|⟨e1,e2⟩
 ·rw[hl]at e2;exact nS e2
 ·refine(?_:(lookIn name o).map (·.isSome)=some false)
  exact rE (h3.look _) (rE e1 rfl)
theorem gX{K:Type}[DecidableEq K](xs:List (K×Value))(k x:K)(v:Value):valueAt (stored xs k v) x=if x=k then some v else valueAt xs x:=by
 delta stored
 split
 ·rename_i h
  induction xs with
  |nil=>simp at h
  |cons y xs ih=>
   simp only[List.map_cons,valueAt,List.find?_cons]
   by_cases hy:y.1=k
   ·simp only[hy,if_true]
    by_cases hx:x=k
    ·subst hx;simp
    ·have hx':¬k=x:=fun e=>hx e.symm
     simp only[hx,if_false,decide_eq_false hx']
     by_cases hr:xs.any (fun kv=>decide (kv.1=k))=true
     ·have:=ih hr
      simp only[valueAt,hx,if_false]at this
      exact this
     ·have:xs.map (fun kv=>if kv.1=k then(kv.1,v)else kv)=xs:=map_store_of_not_mem xs k v fun hm=>by
       refine aF (List.mem_map.mp hm) fun z hz q2=>?_;subst q2
       exact hr (List.any_eq_true.mpr (aP z hz (by simp)))
      exact rE this rfl
   ·simp only[hy,if_false]
    by_cases hyx:y.1=x
    ·have hx:¬x=k:=fun e=>hy (hyx.trans e)
     simp[hyx,hx]
    ·simp only[decide_eq_false hyx]
     have hr:xs.any (fun kv=>decide (kv.1=k))=true:=by
      simp only[List.any_cons,Bool.or_eq_true,decide_eq_true_eq]at h
      rcases h with h|h
      ·exact absurd h hy
      ·exact h
     have:=ih hr
     simpa[valueAt]using this
 ·rename_i h
  induction xs with
  |nil=>
   by_cases hx:x=k
   ·subst hx;simp[valueAt]
   ·have hx':¬k=x:=fun e=>hx e.symm
    simp[valueAt,hx,hx']
  |cons y xs ih=>
   simp only[List.any_cons,Bool.or_eq_true,decide_eq_true_eq,not_or]at h
   simp only[List.cons_append,valueAt,List.find?_cons]
   by_cases hyx:y.1=x
   ·have hx:¬x=k:=fun e=>h.1 (hyx.trans e)
    simp[hyx,hx]
   ·simp only[decide_eq_false hyx]
    have:=ih h.2
    simpa[valueAt]using this
theorem iV.put{o:Obj}{xs:List (Str×Value)}(h:iV o xs)(name:Str)(H:Int)(t:Tok)(v:Value):iV (Obj.putName name H (.str name t) v o) (stored xs name v):=by
 refine cy h fun es ep hd hk hz hf=>?_;clear h
 obtain⟨c,d,dt,sl⟩:=o
 simp only at hd
 subst hd
 have hany:(xs.any fun kv=>decide (kv.1=name))=(valueAt xs name).isSome:=by
  delta valueAt
  induction xs with
  |nil=>rfl
  |cons x xs ih=>
   simp only[List.any_cons,List.find?_cons]
   by_cases q:x.1=name
   ·simp[q]
   ·simp only[decide_eq_false q,Bool.false_or]
    clear ih hf hz
    induction xs with
    |nil=>rfl
    |cons y ys ih2=>
     simp only[List.any_cons,List.find?_cons]
     by_cases q2:y.1=name
     ·simp[q2]
     ·simp only[decide_eq_false q2,Bool.false_or];exact ih2
 have hsz:(stored xs name v).length=if(valueAt xs name).isSome then xs.length else xs.length+1:=by
  delta stored
  refine rE hany ?_
  split<;>simp
 refine rE Obj.putName_eq ?_
 delta Obj.putNameByArray
 have hfi:(nsFind es name).isSome=(es.findIdx? (·.key.isStr name)).isSome:=by
  delta nsFind findBy
  refine rE Option.isSome_map (rE (Array.findIdx?_isSome) (rF (Array.find?_toList) (rF Array.any_toList ?_)))
  induction es.toList with
  |nil=>rfl
  |cons e r ih=>simp only[List.find?_cons,List.any_cons];cases e.key.isStr name<;>simp[ih]
 refine oS (o:=es.findIdx? (·.key.isStr name)) (fun i hi=>?_) fun hi=>?_
 ·skip
  rw[hf name,hi]at hfi
  refine(cQ (es.modify i fun e=>{e with val:=v}) ep (by dsimp only;exact rE hi rfl) ?_ ?_ (fun x=>?_))
  ·intro e he
   obtain⟨j,hj,rfl⟩:=Array.mem_iff_getElem.mp he
   rw[Array.size_modify]at hj
   refine rE (Array.getElem_modify _) ?_
   split<;>exact hk es[j] (Array.getElem_mem hj)
  ·refine rE Array.size_modify (rE hsz (rE hfi ?_));simp[hz]
  ·refine rE (gX _ _ _ _) (rF (hf x) ?_)
   exact findBy_modify (fun n v=>v.isStr n) (fun v a b=>Value.isStr_inj v a b) es name x v i hi
 ·skip
  rw[hf name,hi]at hfi
  refine(cQ (es.push ⟨H,.str name t,v⟩) (ep+1) (by dsimp only;exact rE hi rfl) ?_ ?_ (fun x=>?_))
  ·intro e he
   rcases Array.mem_push.mp he with he|rfl
   ·exact hk e he
   ·exact(mD name t rfl)
  ·refine rE (Array.size_push _) (rE hsz (rE hfi ?_));simp[hz]
  ·refine rE (gX _ _ _ _) (rF (hf x) ?_)
   exact findBy_push (fun n v=>v.isStr n) es name x H (.str name t) v (fun y=>by
    refine(?_:(name==y)=decide (y=name))
    by_cases q:y=name
    ·subst q;simp
    ·exact rE (decide_eq_false q) (beq_eq_false_iff_ne.mpr fun e=>q e.symm)) hi
set_option tactic.hygienic true in
theorem uC{name:Str}(G:GS A env sl s0 CP Z0 s σ Z ξ)(ha:σ a=some (.ins C da))(hda:σ da=some (.ns fs))(hv:aw Z v d)(hz:fs.length≤1000)(ok:kA cx.K C name=true)
 {Q:Unit→Shared→Prop} (q:∀s',GS A env sl s0 CP Z0 s' (σ.put da (.ns (put fs name d))) Z ξ→Q () s'):wpAny cx.M A (setAttr (.ref a) name v) Q E s:=by
 revert G ha hda hv hz ok q;revert A env sl s0 s CP σ Z0 Z ξ E a C da v d fs name Q;apply zp
 generalize (aZ _ _).1.1.1.1.1=d,(aZ _ _).1.1.1.1.2=A,(aZ _ _).1.1.1.2=E,(aZ _ _).1.1.2.1=s,(aZ _ _).1.1.2.2=s0,(aZ _ _).1.2.1.1.1=env,(aZ _ _).1.2.1.1.2=Z,(aZ _ _).1.2.1.2=Z0,(aZ _ _).1.2.2.1=sl,(aZ _ _).1.2.2.2=a,(aZ _ _).2.1.1.1.1=C,(aZ _ _).2.1.1.1.2=da,(aZ _ _).2.1.1.2=v,(aZ _ _).2.1.2.1=fs,(aZ _ _).2.1.2.2=σ,(aZ _ _).2.2.1.1=CP,(aZ _ _).2.2.1.2=ξ,(aZ _ _).2.2.2.1=name,(aZ _ _).2.2.2.2=Q;intro G ha hda hv hz ok q
 refine ck (G.inv.own a _ ha) fun za o1 ho1 hm1=>?_
 refine ck (G.inv.own da _ hda) fun zd o2 ho2 hm2=>?_
 cases hm1 using OM.ET with
 |ins=>
  cases hm2 with
  |ns hn hr=>
   rename_i xs
   simp only[kA,Bool.and_eq_true,beq_iff_eq]at ok
   refine xA ok fun w0 k4=>?_;clear ok;obtain⟨⟨k1,k2⟩,k3⟩:=w0
   have I:=pu ho1 ho2
   refine set_plain G.X I k1 ?_
   have G1:=G.toks (s.toks+1)
   refine osa_open (s:={s with toks:=s.toks+1}) G1.X I k2 k3 fun b=>?_
   refine aF (any_some k4) fun cd hc hd'=>?_
   refine wpAny_bind (wpAny_pure (wpAny_bind (wpAny_bind (wpAny_loadPart ho1 (wpAny_bind ((looks_clsIn G1.X hc).here ?_))))))
   refine rE hd' ?_
   refine wpAny_pure (a:=some da) (wpAny_bind (wpAny_pure (wpAny_bind ?_)))
   delta nsSet
   refine wpAny_bind (wpAny_bind (wpAny_askSetting (wpAny_pure (wpAny_bind (wpAny_mkText (wpAny_bind (wpAny_loadPart ho2 ?_)))))))
   have hn':=hn
   refine cy hn fun es ep hdat hk hsz hf=>?_;clear hn
   refine rE hdat ?_
   dsimp only
   have nr:es.any (·.refKey)=false:=by
    refine rF Array.any_toList (rE (propext List.any_eq_false) ?_)
    intro x hx
    refine jm (hk x (Array.mem_toList_iff.mp hx)) fun n t hkey=>?_
    simp[DictEntry.refKey,hkey]
   refine rE (aRefKeyMayBeTheName_at _ _) (rE nr (rE (Bool.and_false _) ?_))
   refine wpAny_updatePart ho2 ?_
   have hp:=hn'.put name (PyData.keyHash cx.w.params name) (s.toks+1) v
   have hp':=hp
   refine cy hp fun es' ep' hdat' hk' hsz' hf'=>?_;clear hp
   have hlen:xs.length≤1000:=by exact rE hr.length hz
   have hle:(stored xs name v).length≤xs.length+1:=stored_length_le _ _ _
   have ho':(s.heap.update da (Obj.putName name (PyData.keyHash cx.w.params name) (.str name (s.toks+1)) v)).get? da=some (Obj.putName name (PyData.keyHash cx.w.params name) (.str name (s.toks+1)) v o2):=
    Heap.get?_update_self _ ho2 (Obj.isFreed_of_dict hdat')
   refine wpAny_bind (wpAny_lookBehind ho' (by exact rE hdat' (pastItsLine_dict (by refine rE hsz' (rE sizeLine_eq ?_);lia))) ?_)
   exact wpAny_pure (q _ (G1.upd (Heap.SameBut.update ..) hda ho' (.ns hp' (hr.put name hv))))
end
end
section
theorem gL{h base:Heap}:∀{l:List Env},(∀env∈l,env.scope.kind≠ .module∧∃L o,env.frame=some L∧h.get? L=some o∧∀vs,o.data≠ .fields vs)→(∀env∈l,∀L,env.frame=some L→base.get? L=none)→Heap.FunFrames h base l
 |[],_,_=>trivial
 |env::l,h1,h2=>by
  refine dZ (h1 env (.head _)) fun k L o a b c=>?_
  exact(dx k (cQ L o a (h2 env (.head _) L a) b c) (gL (fun e he=>h1 e (.tail _ he)) fun e he=>h2 e (.tail _ he)))
section
variable{outer:List Env}{L:Addr}{e:Addr}
theorem r8{M:Model}{vs:Array Value}{base:Heap}{Q:Unit→Shared→Prop}(hfr:A.frames=some (env::outer))(hl:s.heap.FunFrames base (env::outer))(hf:env.frame=some L)
 (he:s.heap.get? e=some oe) (hkb:base.StaysIn s.heap) (hen:base.get? e=none) (hd:oe.data= .fields vs) (h1:vs[1]?=some .none) (h0:vs[0]?=some a0)
 (h:∀h',Heap.LeftW base (env::outer) e oe.cls a0 s.heap h'→Q () {s with heap:=h'}):wpAny M A (noteFrame (.ref e) env) (fun zz s'=>wpAny M A (setFlight (.ref e) none) Q E s') E s:=by
 delta noteFrame
 simp only[hf]
 refine wpAny_bind (wpAny_field he hd h1 ?_)
 refine wF (by decide) ?_
 exact wpAny_newEntryW hfr hl hf he hkb hen hd (Array.getElem?_eq_some_iff.mp h1).1 h0 h
theorem uY{M:Model}{cls:Value}{base:Heap}{Q:Unit→Shared→Prop}(hfr:A.frames=some (env::outer))(hl:s.heap.FunFrames base (env::outer))(hf:env.frame=some L)(ht:s.heap.TracedW base e cls a0)
 (hkb:base.StaysIn s.heap) (hen:base.get? e=none)
 (h:∀h',Heap.LeftW base (env::outer) e cls a0 s.heap h'→Q () {s with heap:=h'}):wpAny M A (noteFrame (.ref e) env) (fun zz s'=>wpAny M A (setFlight (.ref e) none) Q E s') E s:=by
 refine jm ht fun oe vs CU=>fC CU fun T oT ts he w6 hd h1 hn D4=>dF D4 fun hTe hT Hr=>xA Hr fun hdT h3=>?_;clear CU D4 Hr;clear ht;obtain⟨hc,h0⟩:=w6
 subst hc
 delta noteFrame
 simp only[hf]
 refine wpAny_bind (wpAny_field he hd h1 ?_)
 refine wT (show(Value.ref T !=Value.none)=true from by simp) ?_
 refine wpAny_bind (wpAny_field hT hdT h3 ?_)
 refine wF (show¬((Value.none==rawInt L)=true)from by simp[rawInt]) ?_
 refine wpAny_bind (wpAny_setField hT hdT (Array.getElem?_eq_some_iff.mp h3).1 ?_)
 have ot:∀b,b≠T→(s.heap.update T (Obj.mapFields (·.setIfInBounds 3 Value.none))).get? b=s.heap.get? b:=fun b hb=>Heap.get?_update_other _ _ (Ne.symm hb)
 have nr:∀b o,s.heap.get? b=some o→(∀vs,o.data≠ .fields vs)→b≠T:=fun b o hb hf q=>by rw[q,hT]at hb;(replace hb:=sI hb;subst hb);exact hf ts hdT
 exact wpAny_newEntryW hfr (hl.of_keeps fun b o hb hf=>(aP o ((ot b (nr b o hb hf)).trans hb) rfl)) hf ((ot e (Ne.symm hTe)).trans he) (fun b o hb=>(ot b fun q=>by rw[q,hn]at hb;exact nS hb).trans (hkb b o hb)) hen hd
  (Array.getElem?_eq_some_iff.mp h1).1 h0 fun h' ⟨x1,x2,x3,x4⟩=>h h' ⟨x1,x2,x3,fun b o hb hf=>x4 b o ((ot b (nr b o hb hf)).trans hb) hf⟩
theorem qF{M:Model}(hfr:A.frames=some (env::outer))(hf:env.frame=some L)(S:jf A s.heap σ Z)(I:dR s.heap σ Z)(X:iW C h0 s.heap σ Z e)(hl:∀b,h0.get? b≠none→s.heap.get? b≠none){Q:Unit→Shared→Prop}
 (q:∀h',(∀b o,s.heap.get? b=some o→h0.get? b≠none∨σ b≠none∨Z b≠none→∃o',h'.get? b=some o'∧(o'=o∨(cm A b∧∃sl,o'={o with slots:=sl})))→
  (∀b,h0.get? b≠none→h'.get? b≠none)→iW C h0 h' σ Z e→Q () {s with heap:=h'}):wpAny M A (noteFrame (.ref e) env) (fun zz s'=>wpAny M A (setFlight (.ref e) none) Q E s') E s:=by
 revert hfr hf S I X hl q;revert M Q E;revert C A env outer L s σ Z h0 e;apply zq
 generalize (b9 _ _).1.1.1.1=A,(b9 _ _).1.1.1.2=s,(b9 _ _).1.1.2=env,(b9 _ _).1.2.1=Z,(b9 _ _).1.2.2=C,(b9 _ _).2.1.1.1=h0,(b9 _ _).2.1.1.2=σ,(b9 _ _).2.1.2=outer,(b9 _ _).2.2.1=L,(b9 _ _).2.2.2=e;intro E M Q hfr hf S I X hl q
 refine fU X fun x1 x2 x3 oe vs a0 x4 x5 x6 x7 x8=>?_;clear X
 refine aF (S.fr) fun l hl' hh=>?_
 rw[hfr]at hl';(replace hl':=sI hl';subst hl')
 have HP:∀b,b∈(env::outer).filterMap (·.frame)→cm A b:=fun b hb=>by
  refine aF (List.mem_filterMap.mp hb) fun env' he hf'=>?_
  exact(gn _ hfr env' he hf')
 have IN:¬cm A e:=fun w0=>fS w0 fun l h1 env' he hf'=>by
  rw[hfr]at h1;(replace h1:=sI h1;subst h1)
  refine dZ (hh env' he) fun zz L' o' k1 k2 k3=>?_
  rw[hf']at k1;(replace k1:=sI k1;subst k1)
  rw[x4]at k2;(replace k2:=sI k2;subst k2)
  exact k3 vs x6
 have main:∀(hid:List Addr),e∈hid→(∀b∈(env::outer).filterMap (·.frame),b∈hid)→(∀b∈hid,b=e∨cm A b∨(h0.get? b=none∧σ b=none∧Z b=none∧∃o ts,s.heap.get? b=some o∧o.data= .fields ts))→
  ∀h',Heap.LeftW (hideAll s.heap hid) (env::outer) e oe.cls a0 s.heap h'→Q () {s with heap:=h'}:=by
  intro hid h1 h2 h3 h' w
  refine dF w fun w1 w2 w=>xA w fun w w4=>?_
  refine jm w fun oe' vs' w=>gf w fun T oT ts y1 w=>dF w fun y2 y4 w=>dF w fun y5 y6 w=>dF w fun y7 y8 w=>xA w fun y9 y10=>xA y2 fun y2 y3=>?_
  refine q h' (fun b o hb hor=>?_) (fun b hb=>?_) ⟨x1,x2,x3,oe',vs',a0,y1,y2.trans x5,y4,y3,.inr ⟨T,oT,ts,y5,y7,y8,y9,y10,?_⟩⟩
  ·by_cases hm:b∈hid
   ·rcases h3 b hm with rfl|hf'|⟨z1,z2,z3,_⟩
    ·rcases hor with h|h|h
     ·exact absurd x1 h
     ·exact absurd x2 h
     ·exact absurd x3 h
    ·refine fS hf' fun l k1 env' he hfe=>?_;clear hf'
     have hf':cm A b:=(gn l k1 env' he hfe)
     rw[hfr]at k1;(replace k1:=sI k1;subst k1)
     refine dZ (hh env' he) fun zz L' o' j1 j2 j3=>?_
     rw[hfe]at j1;(replace j1:=sI j1;subst j1)
     rw[hb]at j2;(replace j2:=sI j2;subst j2)
     refine xE (w4 b o hb j3) fun sl hsl=>?_
     exact(aP _ hsl (.inr (vy hf' sl rfl)))
    ·rcases hor with h|h|h
     ·exact absurd z1 h
     ·exact absurd z2 h
     ·exact absurd z3 h
   ·exact(aP o (w1 b o (hideAll_get hid hb hm)) (.inl rfl))
  ·refine oC (o:=s.heap.get? b) (fun hq=>?_) fun o hq=>?_
   ·exact absurd hq (hl b hb)
   ·skip
    by_cases hm:b∈hid
    ·rcases h3 b hm with rfl|hf'|⟨z1,_⟩
     ·exact absurd x1 hb
     ·refine fS hf' fun l k1 env' he hfe=>?_;clear hf'
      rw[hfr]at k1;(replace k1:=sI k1;subst k1)
      refine dZ (hh env' he) fun zz L' o' j1 j2 j3=>?_
      rw[hfe]at j1;(replace j1:=sI j1;subst j1)
      refine xE (w4 b o' j2 j3) fun sl hsl=>?_
      refine rE hsl ?_;simp
     ·exact absurd z1 hb
    ·refine rE (w1 b o (hideAll_get hid hq hm)) ?_;simp
  ·by_cases hm:T∈hid
   ·rcases h3 T hm with rfl|hf'|⟨z1,z2,z3,_⟩
    ·exact absurd rfl y7
    ·refine fS hf' fun l k1 env' he hfe=>?_;clear hf'
     rw[hfr]at k1;(replace k1:=sI k1;subst k1)
     refine dZ (hh env' he) fun zz L' o' j1 j2 j3=>?_
     rw[hfe]at j1;(replace j1:=sI j1;subst j1)
     refine xE (w4 T o' j2 j3) fun sl hsl=>?_
     rw[hsl]at y8;(replace y8:=sI y8;subst y8)
     exact absurd y9 (j3 ts)
    ·exact(dx z1 z2 z3)
   ·have hn:s.heap.get? T=none:=by
     refine oD (o:=s.heap.get? T) (fun hq=>?_) fun o hq=>?_
     ·rfl
     ·have:=hideAll_get hid hq hm;rw[this]at y6;exact sN y6
    refine(dx ?_ ?_ ?_)
    ·refine oD (o:=h0.get? T) (fun hq=>?_) fun o hq=>?_
     ·rfl
     ·exact absurd hn (hl T (by refine rE hq ?_;simp))
    ·refine oD (o:=σ T) (fun hq=>?_) fun ao hq=>?_
     ·rfl
     ·refine ck (I.own T ao hq) fun zz o k zz=>?_;rw[hn]at k;exact nS k
    ·refine oD (o:=Z T) (fun hq=>?_) fun o hq=>?_
     ·rfl
     ·rw[I.zone T o hq]at hn;exact sN hn
 rcases x8 with x8|⟨T,oT,ts,t1,t2,t3,t4,t5,t6,t7,t8⟩
 ·let hid:=e::(env::outer).filterMap (·.frame)
  have he:(hideAll s.heap hid).get? e=none:=hideAll_none hid (.head _)
  have ff:Heap.FunFrames s.heap (hideAll s.heap hid) (env::outer):=gL hh fun env' he L hf'=>hideAll_none hid (.tail _ (List.mem_filterMap.mpr (aP env' he hf')))
  refine r8 hfr ff hf x4 (fun b o e=>of_hideAll hid e) he x6 x8 x7 fun h' hw=>?_
  exact main hid (.head _) (fun b hb=> .tail _ hb) (fun b hb=>by
   rcases List.mem_cons.mp hb with rfl|hb
   ·exact .inl rfl
   ·exact .inr (.inl (HP b hb))) h' hw
 ·let hid:=e::T::(env::outer).filterMap (·.frame)
  have he:(hideAll s.heap hid).get? e=none:=hideAll_none hid (.head _)
  have hT:(hideAll s.heap hid).get? T=none:=hideAll_none hid (.tail _ (.head _))
  have ff:Heap.FunFrames s.heap (hideAll s.heap hid) (env::outer):=gL hh fun env' he L hf'=>hideAll_none hid (.tail _ (.tail _ (List.mem_filterMap.mpr (aP env' he hf'))))
  refine uY hfr ff hf (mD oe vs (dB T oT ts x4 ⟨rfl,x7⟩ x6 t1 hT (fw t2 t3 t4 t5))) (fun b o e=>of_hideAll hid e) he fun h' hw=>?_
  exact main hid (.head _) (fun b hb=> .tail _ (.tail _ hb)) (fun b hb=>by
   rcases List.mem_cons.mp hb with rfl|hb
   ·exact .inl rfl
   ·rcases List.mem_cons.mp hb with rfl|hb
    ·exact .inr (.inr (fw t6 t7 t8 (fP oT ts t3 t4)))
    ·exact .inr (.inl (HP b hb))) h' hw
theorem va{M:Model}(hfr:A.frames=some (env::outer))(hf:env.frame=some L)(S:jf A s.heap σ Z)(I:dR s.heap σ Z)(X:iW C h0 s.heap σ Z e)(hl:∀b,h0.get? b≠none→s.heap.get? b≠none){Q:Unit→Shared→Prop}
 (q:∀h',(∀b o,s.heap.get? b=some o→h0.get? b≠none∨σ b≠none∨Z b≠none→∃o',h'.get? b=some o'∧(o'=o∨(cm A b∧∃sl,o'={o with slots:=sl})))→
  (∀b,h0.get? b≠none→h'.get? b≠none)→iW C h0 h' σ Z e→Q () {s with heap:=h'}):wpAny M A (leaving env (.ref e)) Q E s:=wpAny_bind (qF hfr hf S I X hl q)
end
end
inductive Fl where
 |next|brk|cont
 |ret (d:D)
inductive mQ(Z:am):Flow→Fl→Prop
 |next:mQ Z .next .next
 |brk:mQ Z .brk .brk
 |cont:mQ Z .cont .cont
 |ret {v d:_}:aw Z v d→mQ Z (.ret v) (.ret d)
noncomputable def Fl.val:Fl→D
 | .ret d=>d
 |_=> .none
def aL(C:Addr)(n:Nat)(f:Value)(ds:List D)(σ:af)(Φ:D→af→Prop)(X:af→Prop):Prop:=
 ∀(A:Around) (s:Shared) (Z:am) (vs:List Value) (R:Result→Shared→Prop),jl A n→dR s.heap σ Z→jf A s.heap σ Z→aB Z vs ds→
  (∀v s' σ' Z' d,eg (fun zz=>False) (cm A) s.heap σ Z s'.heap σ' Z'→dR s'.heap σ' Z'→jf A s'.heap σ' Z'→fQ s s'→aw Z' v d→Φ d σ'→R (.ok (.ret v)) s')→
  (∀e s' σ' Z',GX A (fun zz=>False) C s σ Z s' σ' Z' e→X σ'→R (.error (.ref e)) s')→
  codeAny cx.M A (.call f ⟨vs,[]⟩) R s
theorem aL.mono{f:Value}{X X':af→Prop}(h:aL C n f ds σ Φ X)(hΦ:∀d σ',Φ d σ'→EG d σ')(hX:∀σ',X σ'→X' σ'):aL C n f ds σ EG X':=
 fun A s Z vs R a b c d h1 h2=>h A s Z vs R a b c d (fun v s' σ' Z' d k1 k2 k3 k4 k5 k6=>h1 v s' σ' Z' d k1 k2 k3 k4 k5 (hΦ _ _ k6)) fun e s' σ' Z' k1 k2=>h2 e s' σ' Z' k1 (hX _ k2)
theorem aL.lift{m:Nat}{f:Value}{X:af→Prop}(h:aL C n f ds σ Φ X)(hm:n≤m):aL C m f ds σ Φ X:=
 fun A s Z vs R a b c d h1 h2=>h A s Z vs R ⟨a.handled,by have:=a.depth;lia,by have:=a.units;lia⟩ b c d h1 h2
def xB(C:Addr)(n:Nat)(sc:Scope)(sl:List Str)(body:List Stmt)(ξ:List (Option D))(σ:af)(Φ:Fl→List (Option D)→af→Prop)(X:af→Prop):Prop:=
 ∀(A:Around) (env:Env) (s0:Shared) (CP:af) (Z0:am) (s:Shared) (Z:am) (E:Value→Shared→Prop),env.scope=sc→FS env sl→jl A n→GS A env sl s0 CP Z0 s σ Z ξ→xx A env C s0 CP Z0 X E→
  wpAny cx.M A (execs body env) (fun f s'=>∃fl ξ' σ' Z',GS A env sl s0 CP Z0 s' σ' Z' ξ'∧Z.le Z'∧mQ Z' f fl∧Φ fl ξ' σ') E s
noncomputable def gD(sc:Scope)(sl:List Str):Bool:=
 sc.kind== .function&&decide sl.Nodup&&(sl.all fun n=>sc.names.lookup n==some .local||(sc.names.lookup n==some .cell&&((cellsFrom 0 sc.names []).lookup n).isSome))&&(sc.names.all fun x=>x.2 != .free)&&
 decide ((cellsFrom 0 sc.names []).map (·.1)).Nodup&&(sl.all fun n=> !(n==("__debug__" :Str))&& !(n==("__classdict__" :Str)))&& !sc.isCoroutine&& !sc.isGenerator
theorem fM{l:List (Str×Addr)}(h:l.map (·.1)=l'.map (·.1))(x:Str):(l.lookup x).isSome=(l'.lookup x).isSome:=by
 induction l generalizing l' with
 |nil=>cases l' with|nil=>rfl|cons _ _=>cases h
 |cons a l ih=>
  cases l' with
  |nil=>cases h
  |cons b l'=>
   simp only[List.map_cons,List.cons.injEq]at h
   obtain⟨a1,a2⟩:=a
   obtain⟨b1,b2⟩:=b
   simp only at h
   revert h;refine fun h0=>xA h0 fun q0 h=>?_;clear h0;subst q0
   simp only[List.lookup_cons]
   cases x==a1<;>simp[ih h]
theorem fJ{l:List (Str×Addr)}{c:Addr}(h:l.lookup x=some c):(x,c)∈l:=by
 induction l with
 |nil=>exact nS h
 |cons a l ih=>
  obtain⟨a1,a2⟩:=a
  rw[List.lookup_cons]at h
  by_cases q:x==a1
  ·rw[q]at h;(replace h:=sI h;subst h);exact rE (beq_iff_eq.mp q) (.head _)
  ·simp only[Bool.not_eq_true]at q;rw[q]at h;exact .tail _ (ih h)
theorem sf{l:List (Str×NameKind)}{k:NameKind}(h:l.lookup x=some k):(x,k)∈l:=by
 induction l with
 |nil=>exact nS h
 |cons a l ih=>
  obtain⟨a1,a2⟩:=a
  rw[List.lookup_cons]at h
  by_cases q:x==a1
  ·rw[q]at h;(replace h:=sI h;subst h);refine rE (beq_iff_eq.mp q) ?_;exact .head _
  ·simp only[Bool.not_eq_true]at q;rw[q]at h;exact .tail _ (ih h)
theorem rI(h:gD sc sl=true)(he:env.scope=sc)(hc:env.cells=cellsFrom (env.locals+1) sc.names [])(hg:env.globals=mainGlobals)(hb:env.builtins=builtinsNs)
 (ha:env.cells.Pairwise fun x y=>x.2≠y.2):FS env sl:=by
 simp only[gD,Bool.and_eq_true,beq_iff_eq,decide_eq_true_eq,List.all_eq_true,Bool.or_eq_true,Bool.not_eq_true',bne_iff_ne,ne_eq]at h
 refine xA h fun w0 h8=>?_;clear h;obtain⟨⟨⟨⟨⟨⟨h1,h2⟩,h3⟩,h4⟩,h5⟩,h6⟩,h7⟩:=w0
 have EM:∀n,env.kindOf n≠some .free:=fun n q=>by
  delta Env.kindOf at q;rw[he]at q
  exact h4 _ (sf q) rfl
 refine⟨by refine rE he ?_;exact h1,hg,hb,h2,fun n hn=>?_,fun n n' c k k'=>?_,fun n hn=>h6 n hn⟩
 ·rcases h3 n hn with q|⟨q,r⟩
  ·exact .inl (by delta Env.kindOf;exact rE he q)
  ·refine .inr ?_
   have:=fM (cellsFrom_names sc.names 0 (env.locals+1) [] [] rfl) n
   rw[r,←hc]at this
   refine xE (Option.isSome_iff_exists.mp this.symm) fun c hc'=>?_
   exact(aP c (.inl (by delta Env.kindOf;exact rE he q)) hc')
 ·have m1:=fJ k.2
  have m2:=fJ k'.2
  by_cases q:n=n'
  ·exact q
  ·exfalso
   have hp:=ha
   have:∀{l:List (Str×Addr)},l.Pairwise (fun x y=>x.2≠y.2)→(n,c)∈l→(n',c)∈l→False:=by
    intro l hl
    induction l with
    |nil=>intro a;exact nM a
    |cons a l ih=>
     rw[List.pairwise_cons]at hl
     intro i1 i2
     rcases List.mem_cons.mp i1 with e1|e1
     ·rcases List.mem_cons.mp i2 with e2|e2
      ·rw[←e1]at e2;cases e2;exact q rfl
      ·have:=hl.1 _ e2;rw[←e1]at this;exact this rfl
     ·rcases List.mem_cons.mp i2 with e2|e2
      ·have:=hl.1 _ e1;rw[←e2]at this;exact this rfl
      ·exact ih hl.2 e1 e2
   exact this hp m1 m2
theorem n8:∀{b:List (Str×Value)} {m:Str→Option Value},(∀p∈b,p.1≠x)→bindL kindOf b m x=m x
 |[],_,_=>rfl
 |(n,v)::r,m,h=>by
  rw[bindL,n8 fun p hp=>h p (.tail _ hp)]
  split
  ·exact if_neg fun q=>h (n,v) (.head _) q.symm
  ·rfl
theorem q9{u:Value}(hk:kindOf x=some .local):∀{b:List (Str×Value)} {m:Str→Option Value},(b.map (·.1)).Nodup→(x,u)∈b→bindL kindOf b m x=some u
 |(n,v)::r,m,hn,h=>by
  rw[List.map_cons,List.nodup_cons]at hn
  rcases List.mem_cons.mp h with e|h
  ·cases e
   rw[bindL,n8 fun p hp q=>hn.1 (List.mem_map.mpr (aP p hp q)),if_pos hk,if_pos rfl]
  ·rw[bindL];exact q9 hk hn.2 h
theorem n9:∀{b:List (Str×Value)} {m:Str→Option Value},(∀p∈b,p.1≠x)→bindC kindOf b m x=m x
 |[],_,_=>rfl
 |(n,v)::r,m,h=>by
  rw[bindC,n9 fun p hp=>h p (.tail _ hp)]
  split
  ·rfl
  ·exact if_neg fun q=>h (n,v) (.head _) q.symm
theorem rc{u:Value}(hk:kindOf x≠some .local):∀{b:List (Str×Value)} {m:Str→Option Value},(b.map (·.1)).Nodup→(x,u)∈b→bindC kindOf b m x=some u
 |(n,v)::r,m,hn,h=>by
  rw[List.map_cons,List.nodup_cons]at hn
  rcases List.mem_cons.mp h with e|h
  ·cases e
   rw[bindC,n9 fun p hp q=>hn.1 (List.mem_map.mpr (aP p hp q)),if_neg hk,if_pos rfl]
  ·rw[bindC];exact rc hk hn.2 h
noncomputable def fZ(ds:List D)(k:Nat):List (Option D):=ds.map some++List.replicate (k-ds.length) none
section
theorem rj{e:Addr}{foot:Addr→Prop}(hd:∀b,cm (A.deeper env) b→cm A b∨s.heap.get? b=none)
 (Fn:∀b,foot b→s.heap.get? b=none) (hk:∀b o,s.heap.get? b=some o→s1.heap.get? b=some o) (hsame:fQ s s1) (hfrA:∀b,cm A b→cm (A.deeper env) b)
 (hS:jf A s.heap σ Z)
 (G:GX (A.deeper env) foot C s1 σ Z s2 σ' Z' e)
 (k1:∀b o,s2.heap.get? b=some o→s.heap.get? b≠none∨σ' b≠none∨Z' b≠none→∃o',h'.get? b=some o'∧(o'=o∨(cm (A.deeper env) b∧∃sl,o'={o with slots:=sl})))
 (k2:∀b,s.heap.get? b≠none→h'.get? b≠none) (k3:iW C s.heap h' σ' Z' e):
 GX A (fun zz=>False) C s σ Z {s2 with heap:=h'} σ' Z' e:=by
 have offA:∀b,cm (A.deeper env) b→σ' b=none∧Z' b=none:=G.stk.off
 refine⟨⟨G.grow.DM,fun b o zz hs e0=>?_,fun b hb=>?_,fun b hb=>?_,k2⟩,⟨G.inv.ok,G.inv.base,fun b o e0=>?_,fun b ao e0=>?_⟩,?_,hsame.trans (G.same.trans (mD _ _ rfl)),k3⟩
 ·have hnf:¬foot b:=fun q=>by rw[Fn b q]at e0;exact nS e0
  refine aF (G.grow.keep b o hnf hs (hk b o e0)) fun o1 e1 q1=>?_
  refine aF (k1 b o1 e1 (.inl (by refine rE e0 ?_;simp))) fun o2 e2 q2=>?_
  refine(aP o2 e2 ?_)
  have fr:∀b,cm (A.deeper env) b→s.heap.get? b=some o→cm A b:=fun b hb hbo=>(hd b hb).elim id fun q=>by rw[q]at hbo;exact nS hbo
  rcases q1 with rfl|⟨f1,Fw,rfl⟩
  ·rcases q2 with rfl|⟨f2,sl2,rfl⟩
   ·exact .inl rfl
   ·exact .inr (vy (fr b f2 e0) sl2 rfl)
  ·rcases q2 with rfl|⟨f2,sl2,rfl⟩
   ·exact .inr (vy (fr b f1 e0) Fw rfl)
   ·exact .inr (vy (fr b f1 e0) sl2 rfl)
 ·rcases G.grow.C8 b hb with h|h|h
  ·exact .inl h
  ·exact .inr (.inl h)
  ·refine .inr (.inr ?_)
   refine oD (o:=s.heap.get? b) (fun q=>?_) fun o q=>?_
   ·rfl
   ·rw[hk b o q]at h;exact sN h
 ·rcases G.grow.C1 b hb with h|h
  ·exact .inl h
  ·refine .inr ?_
   refine oD (o:=s.heap.get? b) (fun q=>?_) fun o q=>?_
   ·rfl
   ·rw[hk b o q]at h;exact sN h
 ·refine aF (k1 b o (G.inv.zone b o e0) (.inr (.inr (by refine rE e0 ?_;simp)))) fun o' e' q=>?_
  rcases q with rfl|⟨f,_⟩
  ·exact e'
  ·have:=(offA b f).2;rw[this]at e0;exact nS e0
 ·refine ck (G.inv.own b ao e0) fun h1 o h2 h3=>?_
  refine aF (k1 b o h2 (.inr (.inl (by refine rE e0 ?_;simp)))) fun o' e' q=>?_
  rcases q with rfl|⟨f,_⟩
  ·exact(gp h1 o' e' h3)
  ·have:=(offA b f).1;rw[this]at e0;exact nS e0
 ·refine aF (hS.fr) fun l hl hh=>?_
  refine⟨(aP l hl (fun env' he=>?_)),fun b hb=>offA b (hfrA b hb)⟩
  refine dZ (hh env' he) fun m1 L o m2 m3 m4=>?_
  have hfr:cm A L:=(gn l hl env' he m2)
  have hs:σ L=none:=(hS.off L hfr).1
  have hnf:¬foot L:=fun q=>by rw[Fn L q]at m3;exact nS m3
  refine aF (G.grow.keep L o hnf hs (hk L o m3)) fun o1 e1 q1=>?_
  refine aF (k1 L o1 e1 (.inl (by refine rE m3 ?_;simp))) fun o2 e2 q2=>?_
  refine(gJ m1 L o2 m2 e2 (fun vs q=>m4 vs ?_))
  rcases q1 with rfl|⟨_,_,rfl⟩<;>rcases q2 with rfl|⟨_,_,rfl⟩<;>exact q
theorem pr{h:Heap}(I:dR h σ Z){b:Addr}(hb:h.get? b=none):σ b=none∧Z b=none:=by
 refine⟨?_,?_⟩
 ·refine oD (o:=σ b) (fun q=>?_) fun ao q=>?_
  ·rfl
  ·refine ck (I.own b ao q) fun zz o k zz=>?_;rw[hb]at k;exact nS k
 ·refine oD (o:=Z b) (fun q=>?_) fun o q=>?_
  ·rfl
  ·rw[I.zone b o q]at hb;exact sN hb
theorem l5{α:Type}{m:Sem α}{val:α→Value}{X:af→Prop}
 (hA:jl A (n+1)) (I:dR s.heap σ Z) (S:jf A s.heap σ Z) (hk:∀b o,s.heap.get? b=some o→s1.heap.get? b=some o) (hsame:fQ s s1) (GA:FS env sl) (e4:env.frame=some env.locals)
 (hloc:s.heap.get? env.locals=none) (Fq:∀b,jj env b→s.heap.get? b=none) (hns:∃o es ep,s1.heap.get? env.locals=some o∧o.data= .dict es ep) (F1:rl env sl s1.heap σ Z ξ0)
 (hm:∀E,jl (A.deeper env) n→GS (A.deeper env) env sl s1 σ Z s1 σ Z ξ0→xx (A.deeper env) env C s1 σ Z X E→wpAny cx.M (A.deeper env) m (fun a s'=>∃d ξ' σ' Z',GS (A.deeper env) env sl s1 σ Z s' σ' Z' ξ'∧aw Z' (val a) d∧Φ d σ') E s1)
 (hR:∀v s' σ' Z' d,eg (fun zz=>False) (cm A) s.heap σ Z s'.heap σ' Z'→dR s'.heap σ' Z'→jf A s'.heap σ' Z'→fQ s s'→aw Z' v d→Φ d σ'→R (.ok (.ret v)) s')
 (hX:∀e s' σ' Z',GX A (fun zz=>False) C s σ Z s' σ' Z' e→X σ'→R (.error (.ref e)) s'):
 wpAny cx.M (A.deeper env) m (fun a s'=>R (.ok (.ret (val a))) s') (fun e s'=>wpAny cx.M (A.deeper env) (leaving env e) (fun zz s''=>R (.error e) s'') (fun e' s''=>R (.error e') s'') s') s1:=by
 have off:=fun b (hb:s.heap.get? b=none)=>pr I hb
 have low:∀a,s1.heap.get? a=none→s.heap.get? a=none:=fun a ha=>by
  refine oD (o:=s.heap.get? a) (fun q=>?_) fun o q=>?_
  ·rfl
  ·rw[hk a o q]at ha;exact sN ha
 have I1:dR s1.heap σ Z:=⟨I.ok,I.base,fun a o e=>hk a o (I.zone a o e),fun a ao e=>let⟨k1,o,k2,k3⟩:=I.own a ao e;⟨k1,o,hk a o k2,k3⟩⟩
 refine aF (S.fr) fun fl hfl hff=>?_
 have EY:(A.deeper env).frames=some (env::fl):=by delta Around.deeper;simp[hfl]
 have hd:∀b,cm (A.deeper env) b→cm A b∨s.heap.get? b=none:=fun b w0=>fS w0 fun l hl env' he hf=>by
  rw[EY]at hl;(replace hl:=sI hl;subst hl)
  rcases List.mem_cons.mp he with rfl|he
  ·rw[e4]at hf;(replace hf:=sI hf;subst hf);exact .inr hloc
  ·exact .inl (gn fl hfl env' he hf)
 have hu:∀b,cm A b→cm (A.deeper env) b:=fun b w0=>fS w0 fun l hl env' he hf=>by
  rw[hfl]at hl;(replace hl:=sI hl;subst hl)
  exact(gn _ EY env' (.tail _ he) hf)
 have S1:jf (A.deeper env) s1.heap σ Z:=by
  refine⟨(aP _ EY (fun env' he=>?_)),fun b hb=>(hd b hb).elim (S.off b) (off b)⟩
  rcases List.mem_cons.mp he with rfl|he
  ·refine gf hns fun o es' ep k1 k2=>?_;clear hns
   exact(gJ (by refine rE GA.fn ?_;decide) env'.locals o e4 k1 (fun vs q=>by rw[k2]at q;cases q))
  ·refine dZ (hff env' he) fun k1 L o k2 k3 k4=>?_
   exact(gJ k1 L o k2 (hk _ _ k3) k4)
 have A1:jl (A.deeper env) n:=⟨hA.handled,by refine(?_:A.depth+1+n<1000);have:=hA.depth;lia,by refine(?_:A.units+3+100*n+100<9900);have:=hA.units;lia⟩
 have G1:GS (A.deeper env) env sl s1 σ Z s1 σ Z ξ0:=⟨eg.refl _ _ _ _ _,I1,F1,S1,fQ.refl _⟩
 refine wpAny_mono (hm (fun e s'=>wpAny cx.M (A.deeper env) (leaving env e) (fun zz s''=>R (.error e) s'') (fun e' s''=>R (.error e') s'') s') A1 G1
  ⟨PassesOwn.leaving,fun e s2 σ' Z' gx hx=>?_⟩) (fun f s2 h=>?_) fun zz zz h=>h
 ·refine va (C:=C) (h0:=s.heap) EY e4 gx.stk gx.inv ?_ (fun b hb=>gx.grow.live b fun q=>hb (low b q)) fun h' k1 k2 k3=>hX e _ σ' Z' (rj hd Fq hk hsame hu S gx k1 k2 k3) hx
  refine fU (gx.exc) fun x1 x2 x3 oe vs' a0 x4 x5 x6 x7 x8=>?_
  refine(fw (low _ x1) x2 x3 (cV oe vs' a0 x4 x5 x6 x7 ?_))
  rcases x8 with x8|⟨T,oT,ts,t1,t2,t3,t4,t5,t6,t7⟩
  ·exact .inl x8
  ·exact .inr (dB T oT ts t1 t2 t3 t4 t5 ⟨(low _ t6),t7⟩)
 ·refine fu h fun d ξ' σ' Z' G2 hr hφ=>?_;clear h
  refine hR _ s2 σ' Z' d ⟨G2.grow.DM,fun b o zz hs e0=>?_,fun b hb=>(G2.grow.C8 b hb).imp_right fun h=>h.imp_right (low b),fun b hb=>(G2.grow.C1 b hb).imp_right (low b),fun b hb=>G2.grow.live b fun q=>hb (low b q)⟩
   G2.inv ⟨(aP fl hfl (fun env' he=>?_)),fun b hb=>G2.stk.off b (hu b hb)⟩ (hsame.trans G2.same) hr hφ
  ·refine aF (G2.grow.keep b o (fun q=>by rw[Fq b q]at e0;exact nS e0) hs (hk b o e0)) fun o1 k1 k2=>?_
   exact(aP o1 k1 (k2.imp id fun w0=>xA w0 fun h1 h2=>⟨(hd b h1).resolve_right fun q=>(by rw[q]at e0;exact nS e0),h2⟩))
  ·refine aF (G2.stk.fr) fun l2 hl2 IA=>?_
   rw[EY]at hl2;(replace hl2:=sI hl2;subst hl2)
   exact IA env' (.tail _ he)
theorem jc{es:List D}{ws:List Value}{X:af→Prop}
 (hK:cx.K.lookup fa=some ⟨oc,od,.func (fnX nm qual params body sc [] dV kV doc pm an cdv ct),osl⟩) (hcd:codeIn cx.K cdv qual=true) (hsc:gD sc sl=true)
 (hnames:names=sl.take names.length) (hlen:names.length=ds.length+es.length) (hes:aB Z ws es)
 (hbind:∀(s:Shared) (vs:List Value),cx.K.In s.heap→vs.length=ds.length→BindsTo s (fnX nm qual params body sc [] dV kV doc pm an cdv ct) ⟨vs,[]⟩ (names.zip (vs++ws)))
 (hA:jl A (n+1)) (I:dR s.heap σ Z) (S:jf A s.heap σ Z) (hvs:aB Z vs ds)
 (hbody:∀env s1 E,env.scope=sc→env.frame=some env.locals→(env.code=cdv∧env.qual=qual++".<locals>.")→(∀b o,s.heap.get? b=some o→s1.heap.get? b=some o)→FS env sl→(∀b,jg env b→s.heap.get? b=none)→jl (A.deeper env) n→GS (A.deeper env) env sl s1 σ Z s1 σ Z (fZ (ds++es) sl.length)→xx (A.deeper env) env C s1 σ Z X E→
  wpAny cx.M (A.deeper env) (execs body env) (fun f s'=>∃fl ξ' σ' Z',GS (A.deeper env) env sl s1 σ Z s' σ' Z' ξ'∧mQ Z' f fl∧Φ fl.val σ') E s1)
 (hR:∀v s' σ' Z' d,eg (fun zz=>False) (cm A) s.heap σ Z s'.heap σ' Z'→dR s'.heap σ' Z'→jf A s'.heap σ' Z'→fQ s s'→aw Z' v d→Φ d σ'→R (.ok (.ret v)) s')
 (hX:∀e s' σ' Z',GX A (fun zz=>False) C s σ Z s' σ' Z' e→X σ'→R (.error (.ref e)) s'):codeAny cx.M A (.call (.ref fa) ⟨vs,[]⟩) R s:=by
 have X0:cx.K.In s.heap:=fun a o e=>I.zone _ _ (I.base _ _ (I.ok.X a o e))
 have ED:=hsc
 simp only[gD,Bool.and_eq_true,beq_iff_eq,decide_eq_true_eq,List.all_eq_true,Bool.or_eq_true,Bool.not_eq_true',bne_iff_ne,ne_eq]at ED
 refine xA ED fun w0 h8=>?_;clear ED;obtain⟨⟨⟨⟨⟨⟨h1,h2⟩,h3⟩,h4⟩,h5⟩,h6⟩,h7⟩:=w0
 have hvl:=hvs.length
 have hwl:=hes.length
 have GW:(names.zip (vs++ws)).map (·.1)=names:=by
  rw[List.map_fst_zip];refine rE List.length_append ?_;lia
 have hnn:names.Nodup:=by exact rE hnames (h2.sublist (List.take_sublist _ _))
 have hin:∀x∈names,x∈sl:=fun x hx=>by rw[hnames]at hx;exact List.mem_of_mem_take hx
 refine codeAny_call_function (by refine(?_:_<1000);have:=hA.depth;lia) (X0 _ _ hK) rfl h7 h8 rfl (codeRec_of X0 hcd) (hbind s vs X0 hvl _ _ _ _ ?_)
 refine wpAny_newFunctionEnv_cells h1 (fun x hx=>?_) fun env henv s1 hc=>?_
 ·have hx':x.1∈sl:=hin _ (by exact rF GW (List.mem_map_of_mem hx))
  rcases h3 _ hx' with q|⟨q,r⟩
  ·exact .inl q
  ·refine .inr ⟨q,?_⟩
   exact rF (fM (cellsFrom_names sc.names 0 (s.heap.objs.size+1) [] [] rfl) _) r
 have e1:env.scope=sc:=by exact rE henv rfl
 have e2:env.locals=s.heap.objs.size:=by exact rE henv rfl
 have e3:env.cells=cellsFrom (env.locals+1) sc.names []:=by exact rE e2 (rE henv rfl)
 have e4:env.frame=some env.locals:=by exact rE henv rfl
 have GA:FS env sl:=rI hsc e1 e3 (by exact rE henv rfl) (by exact rE henv rfl) hc.apart
 have hk:∀b o,s.heap.get? b=some o→s1.heap.get? b=some o:=hc.toInCall.keep
 have fresh:∀a,s.heap.objs.size≤a→s.heap.get? a=none:=fun a ha=>Heap.get?_none_of_le ha
 have EM:∀n,env.kindOf n≠some .free:=fun n q=>by
  delta Env.kindOf at q;rw[e1]at q
  exact h4 _ (sf q) rfl
 have mine:∀b,jg env b→s.heap.get? b=none:=fun b hb=>by
  rcases hb with rfl|⟨m,hm⟩
  ·exact fresh _ (Nat.le_of_eq e2.symm)
  ·have:=hc.above m b (fJ hm.2)
   exact fresh _ (by rw[e2]at this;exact Nat.le_of_lt this)
 have off:=fun b (hb:s.heap.get? b=none)=>pr I hb
 refine jm (hc.toInCall.same) fun hh1 tk1 hs1=>?_
 have F1:rl env sl s1.heap σ Z (fZ (ds++es) sl.length):=by
  have hlen':names.length≤sl.length:=by refine rE hnames (rE List.length_take ?_);lia
  have at_:∀(i:Nat) (n:Str) (d:D),sl[i]?=some n→(fZ (ds++es) sl.length)[i]?=some (some d)→∃v,(n,v)∈names.zip (vs++ws)∧aw Z v d:=by
   intro i n d a b
   delta fZ at b
   have hi:i<(ds++es).length:=by
    by_cases hi:i<(ds++es).length
    ·exact hi
    ·rw[List.getElem?_append_right (by simpa using hi)]at b
     refine xE (List.getElem?_eq_some_iff.mp b) fun zz hb=>?_
     rw[List.getElem_replicate]at hb;exact nS hb
   rw[List.getElem?_append_left (by simpa using hi),List.getElem?_map]at b
   refine aF (Option.map_eq_some_iff.mp b) fun d' hd' e=>?_
   (replace e:=sI e;subst e)
   refine aF ((hvs.append hes).get hd') fun v hv hr=>?_
   refine(aP v ?_ hr)
   have hn:names[i]?=some n:=by
    refine rE hnames (rE (List.getElem?_take) (rE (if_pos (by rw[List.length_append]at hi;lia)) ?_));exact a
   exact List.mem_of_getElem? (i:=i) (by refine rE (propext (List.getElem?_zip_eq_some)) ?_;exact⟨hn,hv⟩)
  refine⟨?_,(aP _ hc.toInCall.ns (fun i n d a k b=>?_)),fun n c hcn=>(iE _ (hc.cell n c hcn.2)),fun i n c d a hcn b=>?_,fun b hb=>off b (mine b hb)⟩
  ·delta fZ;simp only[List.length_append,List.length_map,List.length_replicate];lia
  ·refine aF (at_ i n d a b) fun v hm hr=>?_
   exact(aP v (q9 k (by exact rE GW hnn) hm) hr)
  ·refine aF (at_ i n d a b) fun v hm hr=>?_
   have hkc:env.kindOf n=some .cell:=hcn.1.resolve_right (EM n)
   have:=hc.cell n c hcn.2
   rw[rc (by refine rE hkc ?_;decide) (by exact rE GW hnn) hm]at this
   exact(aP v this hr)
 refine⟨(I.ok.nolimit.keeps fun b o e=>hk b o (I.zone b o (I.base b o e))),codeAny_func ?_⟩
 refine fE (hc.toInCall.ns) fun o es' ep k1 k2 zz=>?_
 refine l5 (α:=Flow) (val:=fun f=>match f with| .ret v=>v|_=> .none) hA I S hk (mD hh1 tk1 hs1) GA e4 (mine _ (.inl rfl)) (fun b hb=>mine b hb.mine) (jE o es' ep k1 k2) F1 (fun E a1 g1 e1'=>?_) hR hX
 refine wpAny_mono (hbody env s1 E e1 e4 ⟨by refine rE henv ?_;rfl,by exact rE henv rfl⟩ hk GA mine a1 g1 e1') (fun f s' w0=>fu w0 fun fl ξ' σ' Z' g hf hφ=>⟨fl.val,ξ',σ',Z',g,?_,hφ⟩) fun zz zz h=>h
 cases hf with
 |ret h=>exact h
 |_=>exact .none
theorem tL{es:List D}{ws:List Value}{X:af→Prop}
 (hK:cx.K.lookup fa=some ⟨oc,od,.func (fnX nm qual params body sc [] dV kV doc pm an cdv ct),osl⟩) (hcd:codeIn cx.K cdv qual=true) (hsc:gD sc sl=true)
 (hnames:names=sl.take names.length) (hlen:names.length=ds.length+es.length) (hes:∀Z,aB Z ws es)
 (hbind:∀(s:Shared) (vs:List Value),cx.K.In s.heap→vs.length=ds.length→BindsTo s (fnX nm qual params body sc [] dV kV doc pm an cdv ct) ⟨vs,[]⟩ (names.zip (vs++ws)))
 (hbody:xB C n sc sl body (fZ (ds++es) sl.length) σ (fun fl zz σ'=>Φ fl.val σ') X):aL C (n+1) (.ref fa) ds σ Φ X:=by
 intro A s Z vs R hA I S hvs hR hX
 exact jc hK hcd hsc hnames hlen (hes Z) hbind hA I S hvs (fun env s1 E e1 zz zz hk F zz a1 g1 hE=>wpAny_mono (hbody (A.deeper env) env s1 σ Z s1 Z E e1 F a1 g1 hE) (fun f s' w=>fu w fun fl ξ' σ' Z' g zz w=>dU fl ξ' σ' Z' g w.1 w.2) fun zz zz h=>h) hR hX
end
variable{fl:Fl}
noncomputable def pc(K:Frag)(C f:Addr):Bool:=
 makesIn K C&&findIn K (.ref C) "__init__" ==some (some (.ref f))&&typeIn K (.ref f)==some (.type "function")
theorem jf.same{h:Heap}(S:jf A h σ Z)(e:A'.frames=A.frames):jf A' h σ Z:=
 ⟨by refine rE e ?_;exact S.fr,fun b hb=>S.off b (by delta cm at hb⊢;rw[e]at hb;exact hb)⟩
theorem oj(e:A'.frames=A.frames):cm A'=cm A:=by funext b;delta cm;exact rE e rfl
theorem GX.Fj{foot:Addr→Prop}{e:Addr}(e':A'.frames=A.frames)(G:GX A' foot C s0 CP Z0 s σ Z e):GX A foot C s0 CP Z0 s σ Z e:=by
 have q:=oj e'
 refine⟨?_,G.inv,G.stk.same e'.symm,G.same,G.exc⟩
 exact rF q G.grow
theorem jD{h:Heap}(I:dR h σ Z)(o:Obj):dR (h.push o) σ Z:=
 ⟨I.ok,I.base,fun a o' e=>Heap.get?_push_of_some _ (I.zone a o' e),fun a ao e=>let⟨k1,o',k2,k3⟩:=I.own a ao e;⟨k1,o',Heap.get?_push_of_some _ k2,k3⟩⟩
theorem cY{h:Heap}(I:dR h σ Z)(e:h.get? a=none):σ a=none∧Z a=none:=by
 refine⟨?_,?_⟩
 ·refine oD (o:=σ a) (fun q=>?_) fun ao q=>?_
  ·rfl
  ·refine ck (I.own a ao q) fun zz o k zz=>?_;rw[e]at k;exact nS k
 ·refine oD (o:=Z a) (fun q=>?_) fun o q=>?_
  ·rfl
  ·rw[I.zone a o q]at e;exact sN e
theorem kX{h:Heap}(I:dR h σ Z){o:Obj}(hz:Z a=none)(ho:h.get? a=some o)(hm:OM Z a o ao):dR h (σ.put a ao) Z:=
 ⟨I.ok,I.base,I.zone,fun b DZ e=>by
  by_cases q:b=a
  ·subst q;simp only[af.put,if_true]at e;(replace e:=sI e;subst e);exact(gp hz o ho hm)
  ·simp only[af.put,if_neg q]at e;exact I.own b DZ e⟩
theorem gq{X:af→Prop}(ok:pc cx.K cls f=true)
 (h:∀a da,a≠da→σ a=none→σ da=none→aL C n (.ref f) (.ref a::ds) ((σ.put da (.ns [])).put a (.ins cls da)) (fun d σ'=>d= .none∧Φ (.ref a) σ') X):aL C (n+1) (.ref cls) ds σ Φ X:=by
 intro A s Z vs R hA I S hvs hR hX
 have X0:cx.K.In s.heap:=fun a o e=>I.zone _ _ (I.base _ _ (I.ok.X a o e))
 simp only[pc,Bool.and_eq_true,beq_iff_eq]at ok
 refine xA ok fun w0 o3=>?_;clear ok;obtain⟨o1,o2⟩:=w0
 obtain⟨hp,g,d,t,os⟩:=s
 dsimp only at I S X0
 refine make_core (init:= .ref f) (makes_of X0 o1) (looks_findIn X0 o2) (fun self=>bind_fn X0 self o3) (.inl (by simp[bne_iff_ne])) ?_
 have e0:(A.under (.builtin "type.__call__" ⟨.ref cls::vs,[]⟩)).frames=A.frames:=by
  have e1:(Code.builtin "type.__call__" ⟨.ref cls::vs,[]⟩).envs=[]:=rfl
  refine(?_:pushEnvs (Code.builtin "type.__call__" ⟨.ref cls::vs,[]⟩).envs A.frames=A.frames)
  exact rE e1 rfl
 have ha0:hp.get? hp.objs.size=none:=Heap.get?_none_of_le (Nat.le_refl _)
 have ha1:hp.get? (hp.objs.size+1)=none:=Heap.get?_none_of_le (Nat.le_succ _)
 have f0:=cY I ha0
 have f1:=cY I ha1
 have sz:(hp.push emptyDict).objs.size=hp.objs.size+1:=Heap.size_push ..
 have ne:hp.objs.size+1≠hp.objs.size:=Nat.succ_ne_self _
 have g0:((hp.push emptyDict).push (instObj cls hp.objs.size)).get? hp.objs.size=some emptyDict:=Heap.get?_push_of_some _ (Heap.get?_push_size _ rfl)
 have g1:((hp.push emptyDict).push (instObj cls hp.objs.size)).get? (hp.objs.size+1)=some (instObj cls hp.objs.size):=by exact rF sz (Heap.get?_push_size _ rfl)
 have I2:dR ((hp.push emptyDict).push (instObj cls hp.objs.size)) ((σ.put hp.objs.size (.ns [])).put (hp.objs.size+1) (.ins cls hp.objs.size)) Z:=
  kX (kX (jD (jD I _) _) f0.2 g0 (.ns (xs:=[]) (cQ (#[]) 0 rfl (fun zz h=>by simp at h) rfl (fun zz=>rfl)) .nil)) f1.2 g1 .ins
 have keep:∀b o,hp.get? b=some o→((hp.push emptyDict).push (instObj cls hp.objs.size)).get? b=some o:=fun b o e=>Heap.get?_push_of_some _ (Heap.get?_push_of_some _ e)
 have puts:∀b,b≠hp.objs.size→b≠hp.objs.size+1→((σ.put hp.objs.size (.ns [])).put (hp.objs.size+1) (.ins cls hp.objs.size)) b=σ b:=fun b h1 h2=>by simp[af.put,h1,h2]
 have live:∀b o,hp.get? b=some o→b≠hp.objs.size∧b≠hp.objs.size+1:=fun b o e=>⟨fun q=>(by rw[q,ha0]at e;exact nS e),fun q=>(by rw[q,ha1]at e;exact nS e)⟩
 have S2:jf (A.under (.builtin "type.__call__" ⟨.ref cls::vs,[]⟩)) ((hp.push emptyDict).push (instObj cls hp.objs.size)) ((σ.put hp.objs.size (.ns [])).put (hp.objs.size+1) (.ins cls hp.objs.size)) Z:=by
  refine jf.same ?_ e0
  refine S.keeps (fun b o zz e=>(aP o (keep b o e) rfl)) fun b hb=>?_
  refine fS hb fun l hl env' he hf=>?_;clear hb
  refine aF (S.fr) fun l' hl' hh=>?_
  rw[hl]at hl';(replace hl':=sI hl';subst hl')
  refine dZ (hh env' he) fun zz L o k1 k2 zz=>?_
  rw[hf]at k1;(replace k1:=sI k1;subst k1)
  have:=live b o k2
  exact⟨by refine rE (puts b this.1 this.2) ?_;exact(S.off b (gn l hl env' he hf)).1,(S.off b (gn l hl env' he hf)).2⟩
 have A2:jl (A.under (.builtin "type.__call__" ⟨.ref cls::vs,[]⟩)) n:=by
  refine⟨hA.handled,?_,?_⟩
  ·have:(A.under (.builtin "type.__call__" ⟨.ref cls::vs,[]⟩)).depth=A.depth+1:=rfl
   refine rE this ?_;have:=hA.depth;lia
  ·have:(A.under (.builtin "type.__call__" ⟨.ref cls::vs,[]⟩)).units=A.units+1:=rfl
   refine rE this ?_;have:=hA.units;lia
 have DH:∀{fr:Addr→Prop} {h':Heap} {σ':af} {Z':am},eg (fun zz=>False) fr ((hp.push emptyDict).push (instObj cls hp.objs.size)) ((σ.put hp.objs.size (.ns [])).put (hp.objs.size+1) (.ins cls hp.objs.size)) Z h' σ' Z'→
  eg (fun zz=>False) fr hp σ Z h' σ' Z':=fun{fr h' σ' Z'} G=>by
  have low:∀b,((hp.push emptyDict).push (instObj cls hp.objs.size)).get? b=none→hp.get? b=none:=fun b e=>by
   refine oD (o:=hp.get? b) (fun q=>?_) fun o q=>?_
   ·rfl
   ·rw[keep b o q]at e;exact sN e
  have sig:∀b,((σ.put hp.objs.size (.ns [])).put (hp.objs.size+1) (.ins cls hp.objs.size)) b≠none→σ b≠none∨hp.get? b=none:=fun b hb=>by
   by_cases q1:b=hp.objs.size
   ·subst q1;exact .inr ha0
   ·by_cases q2:b=hp.objs.size+1
    ·subst q2;exact .inr ha1
    ·rw[puts b q1 q2]at hb;exact .inl hb
  refine⟨G.DM,fun b o zz hs e=>?_,fun b hb=>?_,fun b hb=>?_,fun b hb=>G.live b ?_⟩
  ·have:=live b o e
   exact G.keep b o (fun h=>h) (by exact rE (puts b this.1 this.2) hs) (keep b o e)
  ·rcases G.C8 b hb with h|h|h
   ·exact .inl h
   ·rcases sig b h with h|h
    ·exact .inr (.inl h)
    ·exact .inr (.inr h)
   ·exact .inr (.inr (low b h))
  ·rcases G.C1 b hb with h|h
   ·exact sig b h
   ·exact .inr (low b h)
  ·refine oC (o:=hp.get? b) (fun q=>?_) fun o q=>?_
   ·exact absurd q hb
   ·refine rE (keep b o q) ?_;simp
 refine h (hp.objs.size+1) hp.objs.size ne f1.1 f0.1 _ ⟨_,g,d,t,os⟩ Z (.ref (hp.objs.size+1)::vs) _ A2 I2 S2 (.cons (.ref _) hvs) (fun v s' σ' Z' d' k1 k2 k3 k4 k5 k6=>?_) fun e s' σ' Z' k1 k2=>?_
 ·revert k6;refine fun h0=>xA h0 fun q0 k6=>?_;clear h0;subst q0
  cases k5 using aw.noneE
  refine⟨rfl,hR _ s' σ' Z' _ (DH k1) k2 (k3.same e0.symm) ?_ (.ref _) k6⟩
  refine jm k4 fun h2 t2 q2=>?_;clear k4;subst q2;exact(mD h2 t2 rfl)
 ·refine hX e s' σ' Z' ?_ k2
  have k1':=k1.Fj e0
  refine⟨DH k1'.grow,k1'.inv,k1'.stk,?_,?_⟩
  ·refine jm (k1'.same) fun h2 t2 q2=>?_;subst q2;exact(mD h2 t2 rfl)
  ·refine k1'.exc.low fun b e=>?_
   refine oD (o:=hp.get? b) (fun q=>?_) fun o q=>?_
   ·rfl
   ·rw[keep b o q]at e;exact sN e
section
def dh(h:Heap)(d:Addr)(es:Array DictEntry)(ep:Nat):Prop:=∃o,h.get? d=some o∧o.ExactDict∧o.data= .dict es ep
section
variable{w:World}{d it:Addr}{es:Array DictEntry}
theorem lu(hd:(d==sysModules)=false)(hm:dh s.heap d es ep)
 (hQ:Q (.ref s.heap.objs.size) {s with heap:=s.heap.push {cls:= .type "dict_keyiterator",data:= .fields #[.ref d,.int 0 0,.int es.size 0,.int ep 0]}}):wpAny (model prog w) A (pyIter (.ref d)) Q E s:=by
 refine cz (id hm) fun o ho hc hdat=>?_
 have hT:s.TypeIs (.ref d) "dict" :=(aP o ho hc.1)
 refine wpAny_pyIter_slot hT F.slot_dict_iter (wpAny_call_entry F.slot_dict_iter hT F.entry_dict_iter ?_ (F.args_dict_iter_1 _))
 delta Builtin.«dict.__iter__» Builtin.Dict.dictSlotNone
 refine wpAny_bind (wpAny_bind (wpAny_notOrdered_dict hT ?_))
 refine(?_:wpAny _ _ (pure (Value.ref d)) _ _ s)
 refine wpAny_pure ?_
 refine(?_:wpAny _ _ (Builtin.Dict.showsAll d>>=_) _ _ s)
 delta Builtin.Dict.showsAll
 refine rE (if_neg (by refine rE hd ?_;exact Bool.false_ne_true)) ?_
 refine wpAny_bind (wpAny_pure (wpAny_bind (wpAny_dictEntries ho hdat (wpAny_bind (wpAny_dictEpoch ho hdat ?_)))))
 refine wpAny_bind (wpAny_newObj_type (wpAny_pure (aP _ rfl (bH ("dict_keyiterator") _ (aP _ (Heap.get?_push_size _ rfl) rfl) F.slot_dict_keyiterator_next.lookup ?_))))
 simpa[rawInt]using hQ
theorem vW{x:DictEntry}{Q:Option Value→Shared→Prop}(hit:s.heap.IsKeyIter it d i es.size ep)(hm:dh s.heap d es ep)(hx:es[i]?=some x)
 (hQ:∀h',h'.IsKeyIter it d (i+1) es.size ep→Heap.SameBut it s.heap h'→Q (some x.key) {s with heap:=h'}):wpAny (model prog w) A (pyNext (.ref it)) Q E s:=by
 revert hit hm hx hQ;revert ep i;revert prog w A E s d it es x Q;apply zq
 generalize (b9 _ _).1.1.1.1=A,(b9 _ _).1.1.1.2=E,(b9 _ _).1.1.2=s,(b9 _ _).1.2.1=prog,(b9 _ _).1.2.2=w,(b9 _ _).2.1.1.1=d,(b9 _ _).2.1.1.2=it,(b9 _ _).2.1.2=es,(b9 _ _).2.2.1=x,(b9 _ _).2.2.2=Q;intro i ep hit hm hx hQ
 refine cz (id hit) fun o ho hc hd=>?_
 refine cz (id hm) fun od hod hcd hdd=>?_
 refine xE (Array.getElem?_eq_some_iff.mp hx) fun hlt GY=>?_
 delta pyNext
 refine wpAny_bind (wpAny_attempt (wpAny_callSpecial?_slot (name:=ofString "__next__") hit.typeIs F.slot_dict_keyiterator_next
  (wpAny_call_entry F.slot_dict_keyiterator_next hit.typeIs F.entry_dict_keyiterator_next ?_ (F.args_dict_keyiterator_next_1 _))))
 refine CJ fun Q' E' hQ' hE'=>?_
 refine wpAny_bind (wpAny_pure (wpAny_bind (wpAny_bind ?_)))
 first|refine wpAny_bind (wpAny_typeNameOfWhole_keyiter hit.typeIs (wpAny_pure ?_))|refine wpAny_bind (wpAny_typeNameOf_keyiter hit.typeIs (wpAny_pure ?_))
 refine wpAny_bind (wpAny_fieldsOf ho hd ?_)
 have hown:Builtin.Dict_items.ownsTuple "dict_keyiterator" =false:=by decide
 simp only[hown,Bool.false_eq_true,if_false]
 refine(?_:wpAny _ _ (if(Value.ref d==Value.none)=true then _ else _) _ _ s)
 refine wF (show¬((Value.ref d==Value.none)=true)from Bool.false_ne_true) ?_
 refine wpAny_bind (wpAny_pure (wpAny_bind (wpAny_dictEntries hod hdd ?_)))
 refine wF (by simp) ?_
 refine wpAny_bind (wpAny_pure (wpAny_bind (wpAny_dictEpoch hod hdd ?_)))
 refine wF (by simp) ?_
 refine wpAny_pure ?_
 simp only[show¬((i:Int)<0)from by lia,if_false,Int.toNat_natCast,Array.getElem?_eq_getElem hlt]
 refine wpAny_bind ?_
 first|refine wpAny_bind (wpAny_typeNameOfWhole_keyiter hit.typeIs (wpAny_pure ?_))|refine wpAny_bind (wpAny_typeNameOf_keyiter hit.typeIs (wpAny_pure ?_))
 refine wpAny_bind (wpAny_isOneOf_keyiter hit.typeIs ?_)
 refine(?_:wpAny _ _ (setField (.ref it) 1 (rawInt ((i:Int)+1))>>=_) _ _ s)
 refine wpAny_bind (wpAny_setField ho hd (by simp) ?_)
 have hit':(s.heap.update it (Obj.mapFields (·.setIfInBounds 1 (rawInt ((i:Int)+1))))).IsKeyIter it d (i+1) es.size ep:=
  (bP _ (Heap.get?_update_self _ ho (Obj.isFreed_of_fields (Obj.data_mapFields hd _))) ((Obj.cls_mapFields ..).trans hc) (by refine rE (Obj.data_mapFields hd _) ?_;simp[rawInt]))
 refine wpAny_bind (wpAny_holding ?_)
 refine wpAny_bind (wpAny_isOneOf_keyiter (s:={s with heap:=s.heap.update it (Obj.mapFields (·.setIfInBounds 1 (rawInt ((i:Int)+1))))}) hit'.typeIs ?_)
 refine(?_:wpAny _ _ (pure es[i].key) _ _ _)
 refine rE GY ?_
 exact wpAny_pure (wpAny_pure (hQ' _ _ (aP _ rfl (wpAny_pure (hQ _ hit' (Heap.SameBut.update ..))))))
theorem xY{Q:Option Value→Shared→Prop}(hh:A.handled=none)(hit:s.heap.IsKeyIter it d es.size es.size ep)(hm:dh s.heap d es ep)
 (hQ:∀h',Heap.ExtBut it s.heap h'→Q none {s with heap:=h'}):wpAny (model prog w) A (pyNext (.ref it)) Q E s:=by
 revert hh hit hm hQ;revert prog w A E s d it es ep Q;apply zq
 generalize (b9 _ _).1.1.1.1=A,(b9 _ _).1.1.1.2=E,(b9 _ _).1.1.2=s,(b9 _ _).1.2.1=ep,(b9 _ _).1.2.2=prog,(b9 _ _).2.1.1.1=w,(b9 _ _).2.1.1.2=d,(b9 _ _).2.1.2=it,(b9 _ _).2.2.1=es,(b9 _ _).2.2.2=Q;intro hh hit hm hQ
 refine cz (id hit) fun o ho hc hd=>?_
 refine cz (id hm) fun od hod hcd hdd=>?_
 delta pyNext
 refine wpAny_bind (wpAny_attempt (wpAny_callSpecial?_slot (name:=ofString "__next__") hit.typeIs F.slot_dict_keyiterator_next
  (wpAny_call_entry F.slot_dict_keyiterator_next hit.typeIs F.entry_dict_keyiterator_next ?_ (F.args_dict_keyiterator_next_1 _))))
 refine CJ fun Q' E' hQ' hE'=>?_
 refine wpAny_bind (wpAny_pure (wpAny_bind (wpAny_bind ?_)))
 first|refine wpAny_bind (wpAny_typeNameOfWhole_keyiter hit.typeIs (wpAny_pure ?_))|refine wpAny_bind (wpAny_typeNameOf_keyiter hit.typeIs (wpAny_pure ?_))
 refine wpAny_bind (wpAny_fieldsOf ho hd ?_)
 have hown:Builtin.Dict_items.ownsTuple "dict_keyiterator" =false:=by decide
 simp only[hown,Bool.false_eq_true,if_false]
 refine(?_:wpAny _ _ (if(Value.ref d==Value.none)=true then _ else _) _ _ s)
 refine wF (show¬((Value.ref d==Value.none)=true)from Bool.false_ne_true) ?_
 refine wpAny_bind (wpAny_pure (wpAny_bind (wpAny_dictEntries hod hdd ?_)))
 refine wF (by simp) ?_
 refine wpAny_bind (wpAny_pure (wpAny_bind (wpAny_dictEpoch hod hdd ?_)))
 refine wF (by simp) ?_
 refine wpAny_pure ?_
 simp only[show¬((es.size:Int)<0)from by lia,if_false,Int.toNat_natCast,Array.getElem?_eq_none (Nat.le_refl _)]
 refine wpAny_bind ?_
 first|refine wpAny_bind (wpAny_typeNameOfWhole_keyiter hit.typeIs (wpAny_pure ?_))|refine wpAny_bind (wpAny_typeNameOf_keyiter hit.typeIs (wpAny_pure ?_))
 refine(?_:wpAny _ _ (setField (.ref it) 0 .none>>=_) _ _ s)
 refine wpAny_bind (wpAny_setField ho hd (by simp) ?_)
 refine(?_:wpAny _ _ (newExc (.type "StopIteration") []>>=_) _ _ _)
 refine wpAny_bind ?_
 simp only[newExc,newTuple]
 refine wpAny_bind (wpAny_newObj_type ?_ (by size_fits))
 refine wpAny_bind (m:=firstArgMember _ _) (wpAny_of_eq (a:=Value.none) (by first|rfl|(simp only[firstArgMember];rfl)) ?_)
 refine wpAny_newObj_type ?_ (by size_fits)
 refine wpAny_raiseNew_none hh ?_
 refine hE' _ _ ?_
 refine wpAny_bind (wpAny_isInstance (T:="StopIteration") (b:=true) (aP _ (Heap.get?_push_size _ rfl) rfl) isSubtype_stop ?_)
 exact wpAny_pure (hQ _ (((Heap.SameBut.update ..).extBut.push _).push _))
theorem dh.at{h:Heap}(x:dh h d es ep)(e:∀o,h.get? d=some o→h'.get? d=some o):dh h' d es ep:=let⟨o,ho,r⟩:=x;⟨o,e _ ho,r⟩
theorem Walks.raw(hh:A.handled=none)(I d:Addr)(hne:d≠I)(es:Array DictEntry)(ep:Nat):
 Walks prog w A I [I,d] [I] es.size (fun i v=>(es[i]?.map (·.key))=some v) (fun i h=>h.IsKeyIter I d i es.size ep∧dh h d es ep)where
 sub:=fun b hb=>by simp at hb;simp[hb]
 frame:=fun zz zz zz st hk=>⟨st.1.at fun o e=>hk I (by simp) o e,st.2.at fun o e=>hk d (by simp) o e⟩
 item:=fun i s Q E hi st hQ=>by
  have hx:es[i]?=some es[i]:=Array.getElem?_eq_getElem hi
  refine vW st.1 st.2 hx fun h' hit' hs'=>?_
  exact hQ _ h' s.toks (by refine rE hx ?_;rfl) ⟨hit',st.2.at fun o e=>(hs'.2 d hne).trans e⟩ fun b o hb e=>hs'.extBut b o (fun h=>hb (by simp[h])) e
 done:=fun s Q E st hQ=>xY hh st.1 st.2 fun h' he'=>hQ h' s.toks fun b o hb e=>he' b o (fun h=>hb (by simp[h])) e
 self:=fun zz zz zz zz st hQ=>wpAny_pyIter_keyiter st.1 hQ
end
noncomputable def eL(σ:af):D→Option (List D)
 | .tup ds=>some ds
 | .dS kvs=>some (kvs.map fun kv=> .str kv.1)
 | .dT kvs=>some (kvs.map fun kv=> .tup (kv.1.map .str))
 | .rng n=>if 0≤n then some ((List.range n.toNat).map fun(i:Nat)=>D.int (i:Int))else none
 |d=>bg σ d
noncomputable def gi(T:String):Bool:= !["enumerate","zip","dict_itemiterator","dict_reverseitemiterator","odict_iterator","itertools.zip_longest","itertools.pairwise"].contains T
structure jh(A:Around)(Z:am)(I:Addr)(items:List D)(P:Nat→Value→Prop)(St:Nat→Heap→Prop)(fp:List Addr):Prop where
 walks:Walks cx.prog cx.w A I fp [I] items.length P St
 rep:∀i v,i<items.length→P i v→∃d,items[i]?=some d∧aw Z v d
 fp:∀b∈fp,b=I∨∃o,Z b=some o
 obj:∀i h,St i h→∃o T,h.get? I=some o∧o.cls= .type T∧gi T=true
section
variable{ξ:List (Option D)}
theorem dQ.reps(h:dQ vs ks):aB Z vs (ks.map .str):=by
 induction h with
 |nil=>exact .nil
 |cons x t hx _ ih=>exact .cons (.str x t hx) ih
set_option tactic.hygienic true in
theorem oJ{d:D}{items:List D}(R:jl A n)(G:GS A env sl s0 CP Z0 s σ Z ξ)(hv:aw Z v d)(hn:∀a,d≠ .ref a)(hd:eL σ d=some items)(hz:items.length≤1048576)
 (q:∀I P St fp s',GS A env sl s0 CP Z0 s' σ Z ξ→s.heap.get? I=none→jh A Z I items P St fp→St 0 s'.heap→Q (.ref I) s'):wpAny cx.M A (pyIter v) Q E s:=by
 revert R G hv hn hd hz q;revert sl n;revert A env s0 s CP σ Z0 Z ξ E v d items Q;apply xF
 generalize (br _ _).1.1.1.1=A,(br _ _).1.1.1.2=E,(br _ _).1.1.2.1=Q,(br _ _).1.1.2.2=s,(br _ _).1.2.1.1=s0,(br _ _).1.2.1.2=env,(br _ _).1.2.2=Z,(br _ _).2.1.1.1=Z0,(br _ _).2.1.1.2=v,(br _ _).2.1.2.1=σ,(br _ _).2.1.2.2=CP,(br _ _).2.2.1.1=ξ,(br _ _).2.2.1.2=d,(br _ _).2.2.2=items;intro sl n R G hv hn hd hz q
 have low:∀{a:Addr} {o:Obj},Z a=some o→a≠s.heap.objs.size:=fun e q=>Nat.lt_irrefl _ (q▸Heap.lt_size (G.inv.zone _ _ e))
 cases hv with
 |lst h1 h2 h3 h4=>
  replace h2:=h2.1
  rename_i a o vs m ds
  cases hd
  have hl:vs.size=items.length:=by have:=h4.length;simpa using this
  refine wpAny_pyIter_list (fq o (G.inv.zone _ _ h1) h2 m h3) ?_
  refine q s.heap.objs.size (fun i v=>vs[i]?=some v) (fun i h=>h.IsListIter s.heap.objs.size a i∧h.IsList a vs) [s.heap.objs.size,a] _ (G.Dh _ s.toks) (aS _) ⟨hl▸Walks.list R.handled s.heap.objs.size a (low h1) vs,fun i v hlt hi=>?_,fun b hb=>?_,fun i h st=>?_⟩ ⟨(bP _ (Heap.get?_push_size _ rfl) rfl rfl),(fq o (Heap.get?_push_of_some _ (G.inv.zone _ _ h1)) h2 m h3)⟩
  ·exact h4.Fh (by simpa using hi)
  ·rcases List.mem_cons.mp hb with rfl|hb
   ·exact .inl rfl
   ·exact rE (List.mem_singleton.mp hb) (.inr (iE _ h1))
  ·refine xA st fun w0 zz=>?_;clear st;obtain⟨o',e,c,_⟩:=w0;exact(bH o' _ e c (by decide))
 |tup h1 h2 h3 h4=>
  rename_i a o vs m ds
  cases hd
  have hl:vs.size=items.length:=by have:=h4.length;simpa using this
  refine wpAny_pyIter_tuple (fq o (G.inv.zone _ _ h1) h2 m h3) ?_
  refine q s.heap.objs.size (fun i v=>vs[i]?=some v) (fun i h=>h.IsTupleIter s.heap.objs.size a i∧h.IsTuple a vs) [s.heap.objs.size,a] _ (G.Dh _ s.toks) (aS _) ⟨hl▸Walks.tuple R.handled s.heap.objs.size a (low h1) vs,fun i v hlt hi=>?_,fun b hb=>?_,fun i h st=>?_⟩ ⟨(bP _ (Heap.get?_push_size _ rfl) rfl rfl),(fq o (Heap.get?_push_of_some _ (G.inv.zone _ _ h1)) h2 m h3)⟩
  ·exact h4.Fh (by simpa using hi)
  ·rcases List.mem_cons.mp hb with rfl|hb
   ·exact .inl rfl
   ·refine rE (List.mem_singleton.mp hb) ?_;exact .inr (iE _ h1)
  ·refine xA st fun w0 zz=>?_;clear st;obtain⟨o',e,c,_⟩:=w0;exact(bH o' _ e c (by decide))
 |dS h1 h2 h3 h4 h5=>
  rename_i a o xs kvs
  (replace hd:=sI hd;subst hd)
  refine eO h2 fun es ep k1 k2 k3 k4 k5=>?_;clear h2
  have hl:es.size=kvs.length:=by have e1:=k4.length;have e2:=h3.length;simp at e1;lia
  have EU:dh s.heap a es ep:=(bP o (G.inv.zone _ _ h1) k1 k2)
  refine lu (beq_eq_false_iff_ne.mpr h4) EU ?_
  refine q s.heap.objs.size (fun i v=>(es[i]?.map (·.key))=some v) (fun i h=>h.IsKeyIter s.heap.objs.size a i es.size ep∧dh h a es ep) [s.heap.objs.size,a] _ (G.Dh _ s.toks) (aS _)
   ⟨by refine rE (List.length_map _) (rF hl ?_);exact Walks.raw R.handled s.heap.objs.size a (low h1) es ep,fun i v hlt hi=>?_,fun b hb=>?_,fun i h st=>?_⟩ ⟨(bP _ (Heap.get?_push_size _ rfl) rfl rfl),EU.at fun o e=>Heap.get?_push_of_some _ e⟩
  ·refine aF (Option.map_eq_some_iff.mp hi) fun e he q2=>?_;subst q2
   have key:∀{es:List DictEntry} {xs:List (Str×Value)} {kvs:List (Str×D)} {i:Nat} {e:DictEntry},Pairs cx.sk es xs→bK Z xs kvs→(∀kv∈kvs,bv kv.1)→es[i]?=some e→∃d,(kvs.map fun kv=>D.str kv.1)[i]?=some d∧aw Z e.key d:=by
    intro es
    induction es with
    |nil=>intro xs kvs i e _ _ _ h;simp at h
    |cons x es ih=>
     intro xs kvs i e hp hr hf h
     cases hp with
     |cons p1 p2 p3=>
      cases hr with
      |cons r1 r2=>
       rename_i k v d ds
       cases i with
       |zero=>
        simp at h;subst h
        refine xE (Value.isStrOf_shape p1) fun t ht=>?_
        refine(aP (.str k) (by simp) ?_)
        refine rE ht ?_;exact .str _ _ (hf _ (.head _))
       |succ i=>simpa using ih p3 r2 (fun kv hm=>hf kv (.tail _ hm)) (by simpa using h)
   exact key k4 h3 h5 (by simpa using he)
  ·rcases List.mem_cons.mp hb with rfl|hb
   ·exact .inl rfl
   ·refine rE (List.mem_singleton.mp hb) ?_;exact .inr (iE _ h1)
  ·refine xA st fun w0 zz=>?_;clear st;obtain⟨o',e,c,_⟩:=w0;exact(bH o' _ e c (by decide))
 |dT h1 h2 h3 h4 h5 h6 h7 h8=>
  rename_i a o es ep xs kvs
  (replace hd:=sI hd;subst hd)
  have hl:es.size=kvs.length:=by have e1:=h7.length;have e2:=congrArg List.length h4;simp at e2;lia
  have EU:dh s.heap a es ep:=(bP o (G.inv.zone _ _ h1) h2 h3)
  refine lu (beq_eq_false_iff_ne.mpr h8) EU ?_
  refine q s.heap.objs.size (fun i v=>(es[i]?.map (·.key))=some v) (fun i h=>h.IsKeyIter s.heap.objs.size a i es.size ep∧dh h a es ep) [s.heap.objs.size,a] _ (G.Dh _ s.toks) (aS _)
   ⟨by refine rE (List.length_map _) (rF hl ?_);exact Walks.raw R.handled s.heap.objs.size a (low h1) es ep,fun i v hlt hi=>?_,fun b hb=>?_,fun i h st=>?_⟩ ⟨(bP _ (Heap.get?_push_size _ rfl) rfl rfl),EU.at fun o e=>Heap.get?_push_of_some _ e⟩
  ·refine aF (Option.map_eq_some_iff.mp hi) fun e he q2=>?_;subst q2
   have he':(xs.map (entryOfKey cx.tk))[i]?=some e:=by refine rF h4 ?_;simpa using he
   rw[List.getElem?_map]at he'
   refine aF (Option.map_eq_some_iff.mp he') fun x hx q2=>?_;subst q2
   have hkeys:=h7.keys
   have e1:(xs.map (·.1))[i]?=some x.1:=by refine rE (List.getElem?_map) (rE hx ?_);rfl
   rw[hkeys,List.getElem?_map]at e1
   refine aF (Option.map_eq_some_iff.mp e1) fun kv hkv e2=>?_
   refine(aP (.tup (kv.1.map .str)) (by refine rE (List.getElem?_map) (rE hkv ?_);rfl) ?_)
   refine cp (h5 x (List.mem_of_getElem? hx)) fun o' items m g1 g2 g3 g4=>?_
   refine rE e2 ?_
   exact .tup g1 g2 g3 g4.reps
  ·rcases List.mem_cons.mp hb with rfl|hb
   ·exact .inl rfl
   ·refine rE (List.mem_singleton.mp hb) ?_;exact .inr (iE _ h1)
  ·refine xA st fun w0 zz=>?_;clear st;obtain⟨o',e,c,_⟩:=w0;exact(bH o' _ e c (by decide))
 |rng h1=>
  rename_i a k t u v
  have hd:(if 0≤k then some ((List.range k.toNat).map fun(i:Nat)=>D.int (i:Int))else none)=some items:=hd
  split at hd
  ·rename_i hk
   (replace hd:=sI hd;subst hd)
   simp only[List.length_map,List.length_range]at hz
   have hsize:Builtin.Range.rangeSize 0 k 1=(k.toNat:Int):=by
    delta Builtin.Range.rangeSize
    refine rE (if_pos (by decide)) ?_
    split<;>lia
   have hsm:Builtin.Range.small 0 k 1=true:=by
    delta Builtin.Range.small
    refine rE hsize ?_
    simp only[Builtin.Range.rangeFitsLong,Bool.and_eq_true,Bool.or_eq_true,decide_eq_true_eq,beq_iff_eq]
    refine rE (if_pos (by decide)) ?_
    simp only[Bool.and_eq_true,decide_eq_true_eq]
    lia
   refine wpAny_pyIter_range (G.inv.zone _ _ h1) hsm ?_
   refine q s.heap.objs.size (fun i v=>∃t,v= .int (0+i*1) t) (fun i h=>IsRangeIter h s.heap.objs.size (0+(i:Nat)*1) ((k.toNat:Int)-(i:Nat)) 1) [s.heap.objs.size] _ (G.Dh _ s.toks) (aS _)
    ⟨by refine rE (List.length_map _) (rE List.length_range ?_);exact Walks.range R.handled s.heap.objs.size 0 1 k.toNat,fun i v hlt hi=>?_,fun b hb=>?_,fun i h st=>?_⟩ ?_
   ·refine xE hi fun t q1=>?_;clear hi;subst q1
    simp only[List.length_map,List.length_range]at hlt
    refine(aP (.int (i:Int)) (by refine rE (List.getElem?_map) (rE (List.getElem?_range hlt) ?_);rfl) ?_)
    have:(0+(i:Int)*1)=(i:Int):=by lia
    refine rE this ?_;exact .int _ _
   ·exact .inl (List.mem_singleton.mp hb)
   ·exact(bH _ _ st rfl (by decide))
   ·refine(?_:Heap.get? _ _=_)
    refine rE (Heap.get?_push_size _ rfl) (rE hsize ?_)
    simp
  ·exact nS hd
 |ref a=>exact absurd rfl (hn a)
 |_=>exact nS hd
end
end
section
structure ax(A:Around)(env:Env)(s0:Shared)(σ:af)(Z:am)(I:Addr):Prop where
 new:s0.heap.get? I=none
 own:σ I=none
 zone:Z I=none
 mine:¬jg env I
 fr:¬cm A I
section
variable{ξ ξ':List (Option D)}{X:af→Prop}
theorem GS.here(G:GS A env sl s0 CP Z0 s σ Z ξ):GS A env sl s σ Z s σ Z ξ:=⟨eg.refl _ _ _ _ _,G.inv,G.CT,G.stk,fQ.refl _⟩
theorem GS.comp(G:GS A env sl s0 CP Z0 s σ Z ξ)(G':GS A env sl s σ Z s' σ' Z' ξ'):GS A env sl s0 CP Z0 s' σ' Z' ξ':=
 ⟨G.grow.trans G'.grow,G'.inv,G'.CT,G'.stk,G.same.trans G'.same⟩
theorem eg.low{foot:Addr→Prop}{h:Heap}(g:eg foot fr h σ Z h' σ' Z'):∀b,h'.get? b=none→h.get? b=none:=fun b e=>by
 cases q:h.get? b with
 |none=>rfl
 |some o=>exact absurd e (g.live b (by refine rE q ?_;simp))
theorem xx.here(G:GS A env sl s0 CP Z0 s σ Z ξ)(hE:xx A env C s0 CP Z0 X E):xx A env C s σ Z X E:=
 ⟨hE.1,fun e s2 σ2 Z2 gx hx=>hE.2 e s2 σ2 Z2 ⟨G.grow.trans gx.grow,gx.inv,gx.stk,G.same.trans gx.same,gx.exc.low G.grow.low⟩ hx⟩
theorem GS.Dl(G:GS A env sl s0 CP Z0 s σ Z ξ){b:Addr}(hb:jg env b):∃o,s.heap.get? b=some o:=by
 rcases hb with rfl|⟨n,hn⟩
 ·refine aF (G.CT.loc) fun m w1 zz=>?_;obtain⟨o,_,_,e,_⟩:=w1;exact(iE o e)
 ·exact eB (G.CT.cell n b hn) fun cv o e zz=>(iE o e)
theorem GS.Fc(G:GS A env sl s0 CP Z0 s σ Z ξ){b:Addr}(hb:cm A b):∃o,s.heap.get? b=some o:=by
 refine fS hb fun l hl env' he hf=>?_;clear hb
 refine aF (G.stk.fr) fun l' hl' hh=>?_
 rw[hl]at hl';(replace hl':=sI hl';subst hl')
 refine dZ (hh env' he) fun zz L o h1 h2 zz=>?_
 rw[hf]at h1;(replace h1:=sI h1;subst h1);exact(iE o h2)
theorem ax.fresh(G:GS A env sl s0 CP Z0 s σ Z ξ)(h:s.heap.get? I=none):ax A env s0 σ Z I:=
 ⟨G.grow.low I h,(cY G.inv h).1,(cY G.inv h).2,(fun q=>by refine xE (G.Dl q) fun o e=>?_;rw[h]at e;exact nS e),(fun q=>by refine xE (G.Fc q) fun o e=>?_;rw[h]at e;exact nS e)⟩
theorem GS.side{t:Nat}(G:GS A env sl s0 CP Z0 s σ Z ξ)(S:ax A env s0 σ Z I)(hk:∀b o,b≠I→s.heap.get? b=some o→h'.get? b=some o):
 GS A env sl s0 CP Z0 {s with heap:=h',toks:=t} σ Z ξ:=by
 have ne:∀b,s0.heap.get? b≠none→b≠I:=fun b hb q=>hb (q▸S.new)
 refine⟨⟨G.grow.DM,fun b o hf hs e=>?_,G.grow.C8,G.grow.C1,fun b hb=>?_⟩,⟨G.inv.ok,G.inv.base,fun b o e=>hk b o (fun q=>by rw[q,S.zone]at e;exact nS e) (G.inv.zone b o e),fun b ao e=>?_⟩,
  G.CT.keeps (fun b o hb e=>(aP o (hk b o (fun q=>S.mine (q▸hb)) e) rfl)) (am.le_refl Z) G.CT.off,G.stk.keeps (fun b o hb e=>(aP o (hk b o (fun q=>S.fr (q▸hb)) e) rfl)) G.stk.off,G.same.next _ _⟩
 ·refine aF (G.grow.keep b o hf hs e) fun o' e' q=>?_
  exact(aP o' (hk b o' (ne b (by refine rE e ?_;simp)) e') q)
 ·cases q:s.heap.get? b with
  |none=>exact absurd q (G.grow.live b hb)
  |some o=>show h'.get? b≠none;refine rE (hk b o (ne b hb) q) ?_;simp
 ·refine ck (G.inv.own b ao e) fun h1 o h2 h3=>?_
  exact(gp h1 o (hk b o (fun q=>by rw[q,S.own]at e;exact nS e) h2) h3)
theorem ax.through{o:Obj}(S:ax A env s0 σ Z I)(hI:s.heap.get? I=some o)(G:GS A env sl s σ Z s' σ' Z' ξ'):ax A env s0 σ' Z' I∧s'.heap.get? I=some o:=by
 refine⟨⟨S.new,?_,?_,S.mine,S.fr⟩,?_⟩
 ·cases q:σ' I with
  |none=>rfl
  |some ao=>rcases G.grow.C1 I (by refine rE q ?_;simp)with h|h
            ·exact absurd S.own h
            ·rw[hI]at h;exact sN h
 ·cases q:Z' I with
  |none=>rfl
  |some ao=>rcases G.grow.C8 I (by refine rE q ?_;simp)with h|h|h
            ·exact absurd S.zone h
            ·exact absurd S.own h
            ·rw[hI]at h;exact sN h
 ·refine aF (G.grow.keep I o (fun h=>S.mine h.mine) S.own hI) fun o' e q=>?_
  rcases q with rfl|⟨h,_⟩
  ·exact e
  ·exact absurd h S.fr
theorem jh.mono{items:List D}{P:Nat→Value→Prop}(hz:Z.le Z')(x:jh A Z I items P St fp):jh A Z' I items P St fp:=
 ⟨x.walks,fun i v h hp=>let⟨d,a,b⟩:=x.rep i v h hp;⟨d,a,b.mono hz⟩,fun b hb=>(x.fp b hb).imp id fun w0=>xE w0 fun o e=>⟨o,hz b o e⟩,x.obj⟩
theorem hM{M:Model}{o:Obj}{T:String}{Q:Unit→Shared→Prop}(ho:s.heap.get? I=some o)(hc:o.cls= .type T)(hq:gi T=true)(q:Q () s):
 wpAny M A (letOwnedTupleGo target (.ref I) v) Q E s:=by
 have fin:wpAny M A (do
  let(.ref r,.ref a):=(Value.ref I,v)|return
  let o←load r
  match o.cls,o.data with
  | .type n,.fields vs=>
    if["enumerate","zip","dict_itemiterator","dict_reverseitemiterator","odict_iterator","itertools.zip_longest","itertools.pairwise"].contains n&&vs[0]?==some (rawInt a)then
     rule "for.unpacks-the-owned-tuple"
     updateField r 0 .none
  |_,_=>pure ()) Q E s:=by
  cases v with
  |ref a=>
   refine wpAny_bind (wpAny_load ho ?_)
   refine rE hc ?_
   cases o.data with
   |fields vs=>
    simp only[gi,Bool.not_eq_true']at hq
    dsimp only
    refine rE hq (rE (Bool.false_and _) ?_)
    exact wpAny_pure q
   |_=>exact wpAny_pure q
  |_=>exact wpAny_pure q
 delta letOwnedTupleGo
 cases target<;>first|exact wpAny_pure q|exact fin
def iM(turn:D→List (Option D)→af→(Fl→List (Option D)→af→Prop)→Prop):List D→List (Option D)→af→(Fl→List (Option D)→af→Prop)→Prop
 |[],ξ,σ,Φ=>Φ .next ξ σ
 |d::ds,ξ,σ,Φ=>turn d ξ σ fun fl ξ' σ'=>match fl with
  | .next=>iM turn ds ξ' σ' Φ
  | .cont=>iM turn ds ξ' σ' Φ
  | .brk=>Φ .next ξ' σ'
  | .ret r=>Φ (.ret r) ξ' σ'
def xv(C:Addr)(A:Around)(env:Env)(sl:List Str)(target:Expr)(body:List Stmt)(X:af→Prop)(turn:D→List (Option D)→af→(Fl→List (Option D)→af→Prop)→Prop):Prop:=
 ∀d ξ σ Ψ,turn d ξ σ Ψ→∀(s:Shared) (Z:am) (v:Value) (E:Value→Shared→Prop),aw Z v d→GS A env sl s σ Z s σ Z ξ→xx A env C s σ Z X E→
  wpAny cx.M A (assign target env v) (fun zz s2=>wpAny cx.M A (execs body env) (fun f s3=>∃fl ξ' σ' Z',GS A env sl s σ Z s3 σ' Z' ξ'∧Z.le Z'∧mQ Z' f fl∧Ψ fl ξ' σ') E s2) E s
theorem w7{turn:D→List (Option D)→af→(Fl→List (Option D)→af→Prop)→Prop}(hT:xv C A env sl target body X turn){items:List D}{P:Nat→Value→Prop}
 {Φ:Fl→List (Option D)→af→Prop}
 (G:GS A env sl s0 CP Z0 s σ Z ξ) (S:ax A env s0 σ Z I) (hit:jh A Z I items P St fp) (hst:St 0 s.heap) (hE:xx A env C s0 CP Z0 X E) (hR:∀e s',E e s'→notedBy cx.M A env (fun e s'=>R (.error e) s') e s')
 (hw:iM turn items ξ σ Φ)
 (q:∀f s' fl ξ' σ' Z',GS A env sl s0 CP Z0 s' σ' Z' ξ'→Z.le Z'→mQ Z' f fl→Φ fl ξ' σ'→R (.ok f) s'):
 codeAny cx.M A (.forLoop target (.ref I) body [] env) R s:=by
 revert hT G S hit hst hE hR hw q;revert sl fp Φ R;revert C A env s0 s CP σ Z0 Z ξ E X target body turn I items P St;apply zp
 generalize (aZ _ _).1.1.1.1.1=A,(aZ _ _).1.1.1.1.2=E,(aZ _ _).1.1.1.2=s,(aZ _ _).1.1.2.1=s0,(aZ _ _).1.1.2.2=env,(aZ _ _).1.2.1.1.1=Z,(aZ _ _).1.2.1.1.2=Z0,(aZ _ _).1.2.1.2=C,(aZ _ _).1.2.2.1=I,(aZ _ _).1.2.2.2=target,(aZ _ _).2.1.1.1.1=σ,(aZ _ _).2.1.1.1.2=CP,(aZ _ _).2.1.1.2=body,(aZ _ _).2.1.2.1=St,(aZ _ _).2.1.2.2=ξ,(aZ _ _).2.2.1.1=X,(aZ _ _).2.2.1.2=turn,(aZ _ _).2.2.2.1=items,(aZ _ _).2.2.2.2=P;intro sl R fp Φ hT G S hit hst hE hR hw q
 refine codeAny_forLoop_any (fun k s'=>∃i σ' Z' ξ',GS A env sl s0 CP Z0 s' σ' Z' ξ'∧Z.le Z'∧ax A env s0 σ' Z' I∧jh A Z' I items P St fp∧St i s'.heap∧i≤items.length∧iM turn (items.drop i) ξ' σ' Φ∧k=items.length+1-i) ?_ (items.length+1)
  (dp 0 σ Z ξ G (am.le_refl Z) S hit hst (dx (Nat.zero_le _) (by simpa using hw) rfl))
 rintro k s1 ⟨i,σ1,Z1,ξ1,G1,hz1,S1,hit1,Eb,hi,hw1,rfl⟩
 by_cases hlt:i<items.length
 ·refine hit1.walks.item i s1 _ _ hlt Eb fun v h2 tk2 hP hst2 hk2=>?_
  refine aF (hit1.rep i v hlt hP) fun d hd hr=>?_
  have G2:=G1.side (t:=tk2) S1 fun b o hb e=>hk2 b o (by simpa using hb) e
  refine bB (hit1.obj (i+1) h2 hst2) fun o T ho hc hq=>?_
  refine hM (s:={s1 with heap:=h2,toks:=tk2}) ho hc hq ?_
  have hdrop:items.drop i=d::items.drop (i+1):=by
   refine xE (List.getElem?_eq_some_iff.mp hd) fun zz e=>?_
   exact rE (List.drop_eq_getElem_cons hlt) (rE e rfl)
  rw[hdrop]at hw1
  have hbody:=hT d ξ1 σ1 _ hw1 _ Z1 v E hr G2.here (hE.here G2)
  refine wpAny_mono hbody (fun zz s3 h3=>wpAny_mono h3 (fun f s4 h4=>?_) hR) hR
  refine fu h4 fun fl ξ' σ' Z' G4 Fd CU=>xA CU fun hf hΨ=>?_;clear CU;clear h4
  have G5:=G2.comp G4
  refine xA (S1.through (s:={s1 with heap:=h2,toks:=tk2}) ho G4) fun S4 EH=>?_
  have frm:∀b∈fp,∀o,h2.get? b=some o→s4.heap.get? b=some o:=fun b hb o' e=>by
   rcases hit1.fp b hb with rfl|⟨o2,e2⟩
   ·rw[ho]at e;(replace e:=sI e;subst e);exact EH
   ·have:=G2.inv.zone b o2 e2
    rw[this]at e;(replace e:=sI e;subst e)
    exact G4.inv.zone b _ (Fd b _ e2)
  have next:iM turn (items.drop (i+1)) ξ' σ' Φ→∃m,m<items.length+1-i∧∃i σ' Z' ξ',GS A env sl s0 CP Z0 s4 σ' Z' ξ'∧Z.le Z'∧ax A env s0 σ' Z' I∧jh A Z' I items P St fp∧St i s4.heap∧i≤items.length∧iM turn (items.drop i) ξ' σ' Φ∧m=items.length+1-i:=fun hnx=>
   (aP (items.length+1-(i+1)) (by lia) (dp (i+1) σ' Z' ξ' G5 (am.le_trans hz1 Fd) S4 (hit1.mono Fd) (hit1.walks.frame (i+1) h2 s4.heap hst2 frm) (dx hlt hnx rfl)))
  cases hf with
  |next=>exact next hΨ
  |cont=>exact next hΨ
  |brk=>exact q _ _ _ _ _ _ G5 (am.le_trans hz1 Fd) .next hΨ
  |ret r=>exact q _ _ _ _ _ _ G5 (am.le_trans hz1 Fd) (.ret r) hΨ
 ·have hin:i=items.length:=by lia
  subst hin
  refine hit1.walks.done s1 _ _ Eb fun h2 tk2 hk2=>wpAny_execs_nil ?_
  rw[List.drop_length]at hw1
  exact q _ _ _ _ _ _ (G1.side S1 fun b o hb e=>hk2 b o (by simpa using hb) e) hz1 .next hw1
end
end
section
set_option genInjectivity false in
structure Ct where
 C:Addr
 n:Nat
 X:af→Prop
 ow:List (Nat×Nat)
instance:Nonempty Ct:=⟨⟨0,0,fun zz=>False,[]⟩⟩
noncomputable abbrev Ct.owns(c:Ct)(p:Pos):Bool:=c.ow.contains (p.line,p.col)
noncomputable abbrev Ct.cut(c:Ct):Ct:={c with X:=fun zz=>False}
abbrev Lo:=List (Option D)
abbrev NK:=List (Str×NameKind)
abbrev WE:=Ct→Lo→af→(D→af→Prop)→Prop
abbrev WL:=Ct→Lo→af→(List D→af→Prop)→Prop
abbrev WC:=Ct→Lo→af→(Bool→af→Prop)→Prop
abbrev WO:=Ct→List D→af→(D→af→Prop)→Prop
abbrev WS:=Ct→Lo→af→(Fl→Lo→af→Prop)→Prop
noncomputable def i8:Str×NameKind:=(ofString "strong",.cell)
noncomputable def ph:Str:=ofString "law" ++".<locals>."
structure ge(env:Env)(ns:NK)(sl:List Str):Prop where
 fs:FS env sl
 Fk:∀x k,(x,k)∈ns→k≠NameKind.free→env.kindOf x=some k
 code:i8∈ns→env.code= .ref 436∧env.qual=ph
theorem ge.Fo{ns:NK}(S:ge env ns sl)(x:Str)(h:(x,NameKind.globalImplicit)∈ns):env.kindOf x=some .globalImplicit:=S.Fk x _ h (by decide)
set_option genInjectivity false in
structure Fr where
 A:Around
 env:Env
 s0:Shared
 CP:af
 Z0:am
 E:Value→Shared→Prop
instance:Nonempty Fr:=⟨⟨{},default,{},fun zz=>none,fun zz=>none,fun zz zz=>False⟩⟩
structure At(c:Ct)(F:Fr)(sl:List Str)(s:Shared)(σ:af)(Z:am)(ξ:Lo):Prop where
 DA:jl F.A c.n
 gs:GS F.A F.env sl F.s0 F.CP F.Z0 s σ Z ξ
 err:xx F.A F.env c.C F.s0 F.CP F.Z0 c.X F.E
def KE{α β:Type}(c:Ct)(F:Fr)(sl:List Str)(ξ:Lo)(Z:am)(R:am→α→β→Prop)(Φ:β→af→Prop)(Q:α→Shared→Prop):Prop:=
 ∀v s' d σ' Z',At c F sl s' σ' Z' ξ→Z.le Z'→R Z' v d→Φ d σ'→Q v s'
def J{α β:Type}(c:Ct)(ns:NK)(sl:List Str)(R:am→α→β→Prop)(m:Env→Sem α)(w:Lo→af→(β→af→Prop)→Prop):Prop:=
 ∀ξ σ Φ,w ξ σ Φ→∀F s Z Q,ge F.env ns sl→At c F sl s σ Z ξ→KE c F sl ξ Z R Φ Q→wpAny cx.M F.A (m F.env) Q F.E s
def OP(c:Ct)(m:List Value→Sem Value)(w:WO):Prop:=
 ∀ds σ Φ,w c ds σ Φ→∀F sl s Z ξ vs Q,FS F.env sl→At c F sl s σ Z ξ→aB Z vs ds→KE c F sl ξ Z (aw) Φ Q→wpAny cx.M F.A (m vs) Q F.E s
noncomputable def kI:Expr→Bool
 | .Starred .. =>false
 | .Set .. =>false
 | .Slice .. =>false
 |_=>true
noncomputable def wZ:Expr→Bool
 | .Call (.Name ..) .. =>false
 |_=>true
noncomputable def zC:Expr→Bool
 | .ListComp .. =>false
 | .SetComp .. =>false
 | .DictComp .. =>false
 |_=>true
class EX(c:Ct)(ns:NK)(sl:List Str)(e:Expr)(w:outParam WE):Prop where
 form:kI e=true
 ok:J c ns sl (aw) (fun env=>eval e env) (w c)
class CX(c:Ct)(ns:NK)(sl:List Str)(e:Expr)(w:outParam WC):Prop where
 ok:J c ns sl (fun zz a b=>a=b) (fun env=>isTrue e env (eval e env)) (w c)
class LX(c:Ct)(ns:NK)(sl:List Str)(es:List Expr)(w:outParam WL):Prop where
 plain:∀env pos,(backTo pos (starEach es env)).any (·.1)=false
 ok:∀pos,J c ns sl (aB) (fun env=>spliced (backTo pos (starEach es env))) (w c)
section
variable{c:Ct}{ns:NK}{ξ:Lo}
theorem At.to{F:Fr}{ξ':Lo}(a:At c F sl s σ Z ξ)(g:GS F.A F.env sl F.s0 F.CP F.Z0 s' σ' Z' ξ'):At c F sl s' σ' Z' ξ':=⟨a.DA,g,a.err⟩
section
variable{α β:Type}{F:Fr}{R:am→α→β→Prop}{Φ:β→af→Prop}{Q:α→Shared→Prop}
theorem KE.of(k:KE c F sl ξ Z R Φ Q){v:α}{b:β}(a:At c F sl s σ Z ξ)(hr:R Z v b)(h:Φ b σ):Q v s:=k _ _ _ _ _ a (am.le_refl _) hr h
theorem KE.le(k:KE c F sl ξ Z R Φ Q)(hz:Z.le Z1):KE c F sl ξ Z1 R Φ Q:=fun v s' d σ' Z' a z=>k v s' d σ' Z' a (am.le_trans hz z)
end
theorem gZ{e:Expr}(h:kI e=true)(rest:List Expr)(env:Env):starEach (e::rest) env=(false,eval e env)::starEach rest env:=by
 cases e<;>first|rfl|exact fT h
theorem iD{e:Expr}(h:kI e=true)(env:Env)(x:Value):foldedSetIterable e env x=pure x:=by
 cases e<;>first|rfl|exact fT h
theorem jz{e:Expr}(h:kI e=true)(op:CmpOp):behindInMarks op e=false:=by
 cases e<;>first|rfl|exact fT h
theorem ua{e:Expr}(h:wZ e=true)(attr:Str)(env:Env)(whole:Sem Value):attributeBase e attr env whole=whole:=by
 cases e with
 |Call f args kw pos=>cases f<;>first|rfl|exact fT h
 |_=>rfl
theorem pZ{e:Expr}(h:zC e=true)(t:Option Expr)(line:Nat)(env:Env):swapsWith e t line env=pure false:=by
 cases e<;>first|rfl|exact fT h
theorem KE.y{F:Fr}{Φ:D→af→Prop}{Q:Value→Shared→Prop}(k:KE c F sl ξ Z (aw) Φ Q)(a:At c F sl s σ Z ξ)(h:Φ d σ'):co F.A F.env sl F.s0 F.CP F.Z0 ξ Z σ' d Q:=
 fun v s' Z' g hz hr=>k v s' d σ' Z' (a.to g) hz hr h
theorem EX.of{e:Expr}{w:WE}(hf:kI e=true)(h:∀ξ σ Φ,w c ξ σ Φ→∀F s Z Q,ge F.env ns sl→At c F sl s σ Z ξ→KE c F sl ξ Z (aw) Φ Q→wpAny cx.M F.A (eval e F.env) Q F.E s):EX c ns sl e w:=⟨hf,h⟩
def c0(d:D):WE:=fun zz zz σ Φ=>Φ d σ
def xI(x:Str):WE:=fun zz zz σ Φ=>(decide (x.length≤1048576)&&PyData.strOk x)=true∧Φ (.str x) σ
instance:EX c ns sl (.Constant .none k pos) (c0 .none):=⟨rfl,fun ξ σ Φ h F s Z Q S a κ=>xm a.gs (κ.y a h)⟩
instance:EX c ns sl (.Constant (.bool b) k pos) (c0 (.bool b)):=⟨rfl,fun ξ σ Φ h F s Z Q S a κ=>AY a.gs b (κ.y a h)⟩
instance{i:Int}:EX c ns sl (.Constant (.int i) k pos) (c0 (.int i)):=⟨rfl,fun ξ σ Φ h F s Z Q S a κ=>BX a.gs i (κ.y a h)⟩
instance:EX c ns sl (.Constant (.str x) k pos) (xI x):=⟨rfl,fun ξ σ Φ h F s Z Q S a κ=>BW a.gs x (by
 revert h;refine fun h0=>xA h0 fun h zz=>?_;clear h0;simp only[Bool.and_eq_true,decide_eq_true_eq]at h;exact h) (κ.y a h.2)⟩
class eN(sl:List Str)(x:Str)(i:outParam Nat):Prop where
 h:sl[i]?=some x
instance(priority:=high):eN (x::sl) x 0:=⟨rfl⟩
instance{y:Str}[k:eN sl x i]:eN (y::sl) x (i+1):=⟨by refine rE (List.getElem?_cons_succ) ?_;exact k.h⟩
class bL(ns:NK)(x:Str)(k:NameKind):Prop where
 h:(x,k)∈ns
instance(priority:=high){ns:NK}{k:NameKind}:bL ((x,k)::ns) x k:=⟨.head _⟩
instance{ns:NK}{k:NameKind}{y:Str×NameKind}[j:bL ns x k]:bL (y::ns) x k:=⟨.tail _ j.h⟩
def bW(i:Nat):WE:=fun zz ξ σ Φ=>∃d,ξ[i]?=some (some d)∧Φ d σ
instance[k:eN sl x i]:EX c ns sl (.Name x pos) (bW i):=⟨rfl,fun ξ σ Φ h F s Z Q S a κ=>by
 revert h;refine fun h0=>aF h0 fun d hl h=>?_;clear h0
 exact jQ S.fs a.gs k.h hl fun v hr=>κ.of a hr h⟩
def zg(x:Str)(d:D):Prop:=(x==("__debug__" :Str))=false∧∃v,cx.mg x=some v∧aw (fun a=>cx.hb.get? a) v d
def zu(x:Str):WE:=fun c zz σ Φ=>∃d,zg x d∧Φ d σ
theorem y0{h:Heap}(I:dR h σ Z):am.le (fun a=>cx.hb.get? a) Z:=fun a o e=>I.base a o e
theorem AL(G:GS A env sl s0 CP Z0 s σ Z ξ):s.heap.Ns mainGlobals cx.mg:=G.inv.ok.g.keeps fun b o e=>G.inv.zone b o (G.inv.base b o e)
theorem Ci(G:GS A env sl s0 CP Z0 s σ Z ξ):s.heap.Ns builtinsNs cx.mb:=G.inv.ok.b.keeps fun b o e=>G.inv.zone b o (G.inv.base b o e)
theorem jR{Q:Value→Shared→Prop}(S:ge env ns sl)(G:GS A env sl s0 CP Z0 s σ Z ξ)(hx:(x,NameKind.globalImplicit)∈ns)(hd:(x==("__debug__" :Str))=false)
 (hv:cx.mg x=some v) (q:Q v s):wpAny cx.M A (eval (.Name x pos) env) Q E s:=
 Calls.Name_function_global S.fs.fn (S.Fo x hx) (Calls.loadGlobal_global (by exact rE S.fs.Fo (AL G)) hv q) hd
theorem gh{Q:Value→Shared→Prop}(S:ge env ns sl)(G:GS A env sl s0 CP Z0 s σ Z ξ)(hx:(x,NameKind.globalImplicit)∈ns)(hd:(x==("__debug__" :Str))=false)
 (hn:x≠"__name__") (hm:cx.mg x=none) (hv:bootBuiltins x=some v) (q:Q v s):wpAny cx.M A (eval (.Name x pos) env) Q E s:=
 Calls.Name_function_global S.fs.fn (S.Fo x hx) (Calls.loadGlobal_builtin (by exact rE S.fs.Fo (AL G)) hm (by exact rE S.fs.HU (Ci G)) ((G.inv.ok.builtins x hn).trans hv) q) hd
instance(priority:=low)[k:bL ns x .globalImplicit]:EX c ns sl (.Name x pos) (zu x):=⟨rfl,fun ξ σ Φ h F s Z Q S a κ=>by
 revert h;refine fun h0=>aF h0 fun d w1 h=>?_;clear h0;obtain⟨hd,v,hv,hr⟩:=w1
 exact jR S a.gs k.h hd hv (κ.of a (hr.mono (y0 a.gs.inv)) h)⟩
def eS:WL:=fun zz zz σ Φ=>Φ [] σ
def bM(w:WE)(ws:WL):WL:=fun c ξ σ Φ=>w c ξ σ fun d σ1=>ws c ξ σ1 fun ds σ2=>Φ (d::ds) σ2
instance:LX c ns sl [] eS:=⟨fun zz zz=>rfl,fun pos ξ σ Φ h F s Z Q S a κ=>wpAny_items_nil (κ.of a .nil h)⟩
theorem ja{M:Model}{e:Expr}{rest:List Expr}{Q:List Value→Shared→Prop}(he:kI e=true)
 (h:wpAny M A (eval e env) (fun v s₁=>wpAny M A (spliced (backTo pos (starEach rest env))) (fun vs s₂=>Q (v::vs) s₂) E s₁) E s):
 wpAny M A (spliced (backTo pos (starEach (e::rest) env))) Q E s:=wpAny_items_cons h (gZ he rest env)
instance{e:Expr}{w:WE}{ws:WL}[h1:EX c ns sl e w][h2:LX c ns sl es ws]:LX c ns sl (e::es) (bM w ws):=
 ⟨fun env pos=>by refine rE (gZ h1.form _ _) ?_;refine(?_:(false||(backTo pos (starEach es env)).any (·.1))=false);refine rE (h2.plain _ _) ?_;rfl,
  fun pos ξ σ Φ h F s Z Q S a κ=>ja h1.form ((h1.ok _ _ _ h _ _ _ _ S a fun v s1 d σ1 Z1 a1 z1 r1 q1=>
   (h2.ok pos _ _ _ q1 _ _ _ _ S a1 fun vs s2 ds σ2 Z2 a2 z2 r2 q2=>κ _ _ _ σ2 Z2 a2 (am.le_trans z1 z2) (.cons (r1.mono z2) r2) q2)))⟩
def rn(ws:WL)(o:WO):WE:=fun c ξ σ Φ=>ws c ξ σ fun ds σ1=>o c ds σ1 Φ
def w2(w1 w2:WE)(o:WO):WE:=fun c ξ σ Φ=>w1 c ξ σ fun d σ1=>w2 c ξ σ1 fun e σ2=>o c [d,e] σ2 Φ
def w1(w1:WE)(o:WO):WE:=fun c ξ σ Φ=>w1 c ξ σ fun d σ1=>o c [d] σ1 Φ
section
variable{F:Fr}{Q:Value→Shared→Prop}{Φ:D→af→Prop}
theorem J.two{e f:Expr}{wa wb:WE}{o:WO}{m:List Value→Sem Value}(h1:EX c ns sl e wa)(h2:EX c ns sl f wb)(h3:OP c m o)(h:w2 wa wb o c ξ σ Φ)(S:ge F.env ns sl)(a:At c F sl s σ Z ξ)(κ:KE c F sl ξ Z (aw) Φ Q):
 wpAny cx.M F.A (eval e F.env) (fun v s1=>wpAny cx.M F.A (eval f F.env) (fun u s2=>wpAny cx.M F.A (m [v,u]) Q F.E s2) F.E s1) F.E s:=
 h1.ok _ _ _ h _ _ _ _ S a fun v s1 d σ1 Z1 a1 z1 r1 q1=>h2.ok _ _ _ q1 _ _ _ _ S a1 fun u s2 e σ2 Z2 a2 z2 r2 q2=>h3 _ _ _ q2 _ _ _ _ _ _ _ S.fs a2 (.cons (r1.mono z2) (.cons r2 .nil)) (κ.le (am.le_trans z1 z2))
theorem J.one{e:Expr}{wa:WE}{o:WO}{m:List Value→Sem Value}(h1:EX c ns sl e wa)(h3:OP c m o)(h:w1 wa o c ξ σ Φ)(S:ge F.env ns sl)(a:At c F sl s σ Z ξ)(κ:KE c F sl ξ Z (aw) Φ Q):
 wpAny cx.M F.A (eval e F.env) (fun v s1=>wpAny cx.M F.A (m [v]) Q F.E s1) F.E s:=
 h1.ok _ _ _ h _ _ _ _ S a fun v s1 d σ1 Z1 a1 z1 r1 q1=>h3 _ _ _ q1 _ _ _ _ _ _ _ S.fs a1 (.cons r1 .nil) (κ.le z1)
theorem J.list{ws:WL}{o:WO}{m:List Value→Sem Value}(h1:LX c ns sl es ws)(h3:OP c m o)(h:rn ws o c ξ σ Φ)(S:ge F.env ns sl)(a:At c F sl s σ Z ξ)(κ:KE c F sl ξ Z (aw) Φ Q):
 wpAny cx.M F.A (spliced (backTo pos (starEach es F.env))) (fun vs s1=>wpAny cx.M F.A (m vs) Q F.E s1) F.E s:=
 h1.ok pos _ _ _ h _ _ _ _ S a fun vs s1 ds σ1 Z1 a1 z1 r1 q1=>h3 _ _ _ q1 _ _ _ _ _ _ _ S.fs a1 r1 (κ.le z1)
end
def jw:WO:=fun zz ds σ Φ=>ds.length≤1000∧Φ (.tup ds) σ
theorem AB:OP c newTuple jw:=fun ds σ Φ h F sl s Z ξ vs Q S a r κ=>rL a.gs r (by have:=h.1;lia) (κ.y a h.2)
def tC(own:Bool):List D→af→(D→af→Prop)→Prop:=fun ds σ Φ=>ds.length≤1048576∧if own then∀a,σ a=none→Φ (.ref a) (σ.put a (.lst ds))else Φ (.lst ds) σ
def r6(p:Pos):WO:=fun c=>tC (c.owns p)
theorem AD(own:Bool):OP c newList fun zz=>tC own:=fun ds σ Φ h F sl s Z ξ vs Q S a r κ=>by
 revert h;refine fun h0=>xA h0 fun hn h=>?_;clear h0
 cases own
 ·exact uF a.gs r hn (κ.y a h)
 ·exact rM a.gs r hn fun b hb=>κ.y a (h b hb)
instance{ws:WL}[h:LX c ns sl elts ws]:EX c ns sl (.Tuple elts k pos) (rn ws jw):=EX.of rfl fun ξ σ Φ q F s Z Q S a κ=>by
 refine rE (arm_eval_Tuple _ _ _ _) ?_
 exact wpAny_bind (wpAny_standAt (wpAny_bind (J.list h AB q S a κ)))
instance{ws:WL}[h:LX c ns sl elts ws]:EX c ns sl (.List elts pos) (rn ws (r6 pos)):=EX.of rfl fun ξ σ Φ q F s Z Q S a κ=>by
 refine rE (arm_eval_List _ _ _) ?_
 exact wpAny_bind (wpAny_standAt (wpAny_bind (J.list h (AD _) q S a κ)))
inductive DK where|str|tup
def CF(k:DK):WE:=fun zz zz σ Φ=>∀a,σ a=none→Φ (.ref a) (σ.put a (match k with| .str=> .dS []| .tup=> .dT []))
end
end
variable{c cc:Ct}{w wa wb wl wd we wit Db v1 v2:WE}{ws:WL}{ξ ξ' ξ1 ξ2:Lo}{turn:D→Lo→af→(Fl→Lo→af→Prop)→Prop}{ns nms:NK}{wi DR:WC}
section
def on{α:Type}(o:Option α)(P:α→Prop):Prop:=match o with
 |some a=>P a
 |none=>False
theorem lE{α:Type}{o:Option α}{P:α→Prop}:on o P↔∃a,o=some a∧P a:=by
 cases o with
 |none=>simp[on]
 |some a=>simp[on]
noncomputable def fW:D→Option Str
 | .str x=>some x
 |_=>none
noncomputable def fY:D→Option Int
 | .int i=>some i
 |_=>none
theorem dL(h:fW d=some x):d= .str x:=by cases d<;>first|(exact nS h;done)|((replace h:=sI h;subst h);rfl)
theorem cG{x:Int}(h:fY d=some x):d= .int x:=by cases d<;>first|(exact nS h;done)|((replace h:=sI h;subst h);rfl)
def AJ(ds:List D)(P:D→Prop):Prop:=match ds with
 |[d]=>P d
 |_=>False
def yz(ds:List D)(P:D→D→Prop):Prop:=match ds with
 |[d,e]=>P d e
 |_=>False
def B3(ds:List D)(P:D→D→D→Prop):Prop:=match ds with
 |[d,e,f]=>P d e f
 |_=>False
theorem jV{P:D→Prop}(h:AJ ds P):∃d,ds=[d]∧P d:=by
 cases ds with
 |nil=>exact h.elim
 |cons d ds=>cases ds with
  |nil=>exact(aP d rfl h)
  |cons e ds=>exact h.elim
theorem jU{P:D→D→Prop}(h:yz ds P):∃d e,ds=[d,e]∧P d e:=by
 cases ds with
 |nil=>exact h.elim
 |cons d ds=>cases ds with
  |nil=>exact h.elim
  |cons e ds=>cases ds with
   |nil=>exact(fP d e rfl h)
   |cons f ds=>exact h.elim
theorem rZ{P:D→D→D→Prop}(h:B3 ds P):∃d e f,ds=[d,e,f]∧P d e f:=by
 cases ds with
 |nil=>exact h.elim
 |cons d ds=>cases ds with
  |nil=>exact h.elim
  |cons e ds=>cases ds with
   |nil=>exact h.elim
   |cons f ds=>cases ds with
    |nil=>exact(jE d e f rfl h)
    |cons g ds=>exact h.elim
def Bv(ds:List D)(P:D→D→Prop)(P3:D→D→D→Prop):Prop:=match ds with
 |[d,e]=>P d e
 |[d,e,f]=>P3 d e f
 |_=>False
theorem yy{P:D→D→Prop}(h:Bv ds P P3):yz ds P∨B3 ds P3:=by
 cases ds with
 |nil=>exact h.elim
 |cons d ds=>cases ds with
  |nil=>exact h.elim
  |cons e ds=>cases ds with
   |nil=>exact .inl h
   |cons f ds=>cases ds with
    |nil=>exact .inr h
    |cons g ds=>exact h.elim
theorem fk{α:Type}{o:Option α}{P:α→Prop}(h:on o P):∃a,o=some a∧P a:=lE.mp h
section
variable{f:D}
theorem aB.is1(r:aB Z vs [d]):∃v,vs=[v]∧aw Z v d:=by
 cases r using aB.CS with
 |cons h r=>cases r using aB.Da;exact(aP _ rfl h)
theorem aB.is2(r:aB Z vs [d,e]):∃v u,vs=[v,u]∧aw Z v d∧aw Z u e:=by
 cases r using aB.CS with
 |cons h r=>refine aF (r.is1) fun u q1 k=>?_;subst q1;exact(bH _ u rfl h k)
theorem aB.GV(r:aB Z vs [d,e,f]):∃v u w,vs=[v,u,w]∧aw Z v d∧aw Z u e∧aw Z w f:=by
 cases r using aB.CS with
 |cons h r=>refine bB (r.is2) fun u w q2 k l=>?_;subst q2;exact(cP _ u w rfl h k l)
end
noncomputable def rt(d e:D):Bool:= @decide (d=e) (Classical.propDecidable _)
theorem cT:rt d e=true↔d=e:=by delta rt;simp
theorem pN(h:pl n d=true)(h':pl k e=true):jI d e=rt d e:=by
 have:=tW n d e k h h'
 by_cases q:d=e
 ·exact rE (this.mpr q) (rE (cT.mpr q) rfl)
 ·have h1:jI d e=false:=by cases w:jI d e with|false=>rfl|true=>exact absurd (this.mp w) q
  have h2:rt d e=false:=by cases w:rt d e with|false=>rfl|true=>exact absurd (cT.mp w) q
  exact rE h1 (rE h2 rfl)
noncomputable def gb(d:D)(ds:List D):Bool:=ds.any fun y=>rt y d
theorem lL:gb d ds=true↔d∈ds:=by
 delta gb;refine rE (propext List.any_eq_true) ?_
 constructor
 ·rintro⟨y,hy,e⟩;rw[cT.mp e]at hy;exact hy
 ·intro h;exact(aP d h (cT.mpr rfl))
theorem pU(h:pl 8 d=true)(h':∀y∈ds,pl 8 y=true):(ds.any fun y=>jI y d)=gb d ds:=by
 delta gb
 induction ds with
 |nil=>rfl
 |cons y ds ih=>simp only[List.any_cons,pN (h' y (.head _)) h,ih fun x hx=>h' x (.tail _ hx)]
section
theorem Av{w:Value}{xs:List D}{own:Bool}(G:GS A env sl s0 CP Z0 s σ Z ξ)(hv:aw Z v d)(hw:aw Z w e)(hd:bg σ d=some xs)(he:bg σ e=some ys)
 (q:tC own (xs++ys) σ Φ) (hQ:∀d σ',Φ d σ'→co A env sl s0 CP Z0 ξ Z σ' d Q):wpAny cx.M A (binaryOp .Add v w) Q E s:=by
 revert q;refine fun h0=>xA h0 fun hn q=>?_;clear h0
 refine be (dY G.inv hv hd) fun a o vs m q4 h1 h2 h3 h4=>?_;subst q4
 obtain⟨b,o',ws,m',rfl,k1,k2,k3,k4⟩:=dY G.inv hw he
 obtain⟨cls,dd,data,sl⟩:=o
 obtain⟨cls2,dd2,data2,sl2⟩:=o'
 simp only at h2 h3 k2 k3
 subst h2 h3 k2 k3
 have l1:=h4.length
 have l2:=k4.length
 simp only[Array.length_toList]at l1 l2
 rw[List.length_append]at hn
 have hsz:vs.size+ws.size≤1048576:=by lia
 refine concat_meets (A:=A) (E:=E) (aP _ h1 rfl) (aP _ k1 rfl) noFill_list_add seq_list_add PySem.F.slot_list_add PySem.F.entry_list_add (PySem.F.args_list_add_2 _ _)
  (list_addW a b vs ws m m' dd dd2 sl sl2 (by refine(?_:_≤2^24);lia)) (dx h1 k1 ?_)
 have hr:aB Z (vs++ws).toList (xs++ys):=by simpa using h4.append k4
 cases own
 ·obtain⟨hz,G'⟩:=G.push {cls:= .type "list",data:= .seq (vs++ws)} s.toks
  exact hQ _ _ q _ _ _ G' hz (.lst (am.CN _ _ _) ⟨rfl,rfl⟩ rfl (hr.mono hz))
 ·have fr:=cY G.inv (aS s.heap)
  have G':=G.Dc (listOf (vs++ws) 0) s.toks (.lst hr)
  exact hQ _ _ (q s.heap.objs.size fr.1) _ _ _ G' (am.le_refl _) (.ref _)
def yB(own:Bool)(op:Operator):List D→af→(D→af→Prop)→Prop:=fun ds σ Φ=>∃d e,ds=[d,e]∧((∃r,iX op d e r∧Φ r σ)∨(op= .Add∧∃xs ys,bg σ d=some xs∧bg σ e=some ys∧tC own (xs++ys) σ Φ))
noncomputable def Cv(op:Operator)(vs:List Value):Sem Value:=match vs with
 |[v,u]=>binaryOp op v u
 |_=>pure .none
def eT(p:Pos)(op:Operator):WO:=fun c=>yB (c.owns p) op
theorem AI(own:Bool)(op:Operator):OP c (Cv op) fun zz=>yB own op:=fun ds σ Φ h F sl s Z ξ vs Q S a r κ=>by
 obtain⟨d,e,rfl,h⟩:=(h:yB own op ds σ Φ)
 obtain⟨v,u,rfl,r1,r2⟩:=r.is2
 refine(?_:wpAny cx.M F.A (binaryOp op v u) _ F.E s)
 rcases h with⟨r,h1,h2⟩|⟨rfl,xs,ys,h1,h2,h3⟩
 ·exact Br a.gs r1 r2 h1 (κ.y a h2)
 ·exact Av a.gs r1 r2 h1 h2 h3 fun d σ' q=>κ.y a q
instance{l r:Expr}{op:Operator}[h1:EX c ns sl l wa][h2:EX c ns sl r wb]:EX c ns sl (.BinOp l op r pos) (w2 wa wb (eT pos op)):=
 EX.of rfl fun ξ σ Φ q F s Z Q S a κ=>wpAny_BinOp (J.two h1 h2 (AI (c.owns pos) op) q S a κ)
def Bx:WO:=fun zz ds σ Φ=>AJ ds fun d=>on (fY d) fun a=>Φ (.int (-a)) σ
instance{x:Expr}[h1:EX c ns sl x w]:EX c ns sl (.UnaryOp .USub x pos) (w1 w Bx):=
 EX.of rfl fun ξ σ Φ q F s Z Q S a κ=>wpAny_UnaryOp (J.one h1 (m:=fun vs=>match vs with|[v]=>unaryOp .USub v|_=>pure .none) (fun ds σ Φ h F sl s Z ξ vs Q S a r κ=>by
  refine aF (jV h) fun d q1 h=>?_;subst q1
  refine aF (fk h) fun i hi h=>?_
  cases cG hi
  refine aF (r.is1) fun v q1 r1=>?_;subst q1
  cases r1 using aw.CW;exact Bl a.gs (κ.y a h)) q S a κ)
noncomputable def kY(σ:af)(d e:D):Option Bool:=
 match cw σ e with
 |some kvs=>match d with| .str x=>some (look kvs x).isSome|_=>none
 |none=>match gv σ e with
  |some kvs=>(ip d).map fun ks=>(look kvs ks).isSome
  |none=>match bg σ e with
   |some ds=>if(pl 8 d&&ds.all (pl 8))=true then some (gb d ds)else none
   |none=>match iU e with
    |some ds=>if(pl 8 d&&ds.all (pl 8))=true then some (gb d ds)else none
    |none=>none
noncomputable def iP(x y:Str):Bool:= !(y.cps.toList<x.cps.toList)
noncomputable def dq(σ:af)(op:CmpOp)(d e:D):Option Bool:=
 match op with
 | .Eq=>if(pl 8 d&&pl 8 e)=true then some (rt d e)else none
 | .NotEq=>if(pl 8 d&&pl 8 e)=true then some (!rt d e)else none
 | .Is=>if eF e=true then some (eF d)else none
 | .IsNot=>if eF e=true then some (!eF d)else none
 | .In=>kY σ d e
 | .NotIn=>(kY σ d e).map (!·)
 | .Gt=>(fY d).bind fun a=>(fY e).map fun b=>decide (b<a)
 | .GtE=>(fY d).bind fun a=>(fY e).map fun b=>decide (b≤a)
 | .Lt=>(fY d).bind fun a=>(fY e).map fun b=>decide (a<b)
 | .LtE=>(fW d).bind fun x=>(fW e).map fun y=>iP x y
theorem yK{p:Prop}[Decidable p]{α:Type}{b c:α}{q:Prop}(h:(if p then some b else none)=some c)(k:p→b=c→q):q:=by
 by_cases e:p
 ·rw[if_pos e]at h;exact k e (sI h)
 ·rw[if_neg e]at h;exact nS h
theorem B4{α β γ:Type}{o:Option α}{o':Option β}{f:α→β→γ}{c:γ}{q:Prop}(h:(o.bind fun a=>o'.map fun b=>f a b)=some c)(k:∀a b,o=some a→o'=some b→f a b=c→q):q:=
 aF (Option.bind_eq_some_iff.mp h) fun a e h=>aF (Option.map_eq_some_iff.mp h) fun b e' h=>k a b e e' h
theorem nG(h:eF d=true):d= .none:=by
 cases d with
 |none=>rfl
 |_=>exact fT h
set_option tactic.hygienic true in
theorem Ce{x u:Value}(R:jl A n)(G:GS A env sl s0 CP Z0 s σ Z ξ)(hx:aw Z x d)(hc:aw Z u e)(he:kY σ d e=some b)(h:∀tk,Q (.bool b) {s with toks:=tk}):
 wpAny cx.M A (compareOp .In x u) Q E s:=by
 delta kY at he
 split at he
 ·rename_i kvs hk
  split at he
  ·(replace he:=sI he;subst he);cases hx using aw.CV;exact Ar G hc hk h
  ·exact nS he
 ·split at he
  ·rename_i kvs hk
   refine aF (Option.map_eq_some_iff.mp he) fun ks h1 q2=>?_;subst q2
   exact Aq R G hx h1 hc hk h
  ·split at he
   ·rename_i ds hk
    split at he
    ·rename_i q
     simp only[Bool.and_eq_true,List.all_eq_true]at q
     (replace he:=sI he;subst he)
     exact v5 R G hx hc hk q.1 q.2 (by exact rE (pU q.1 q.2) (h s.toks))
    ·exact nS he
   ·split at he
    ·rename_i ds hk
     split at he
     ·rename_i q
      simp only[Bool.and_eq_true,List.all_eq_true]at q
      (replace he:=sI he;subst he)
      exact yh R G hx hc hk q.1 q.2 (by exact rE (pU q.1 q.2) (h s.toks))
     ·exact nS he
    ·exact nS he
set_option tactic.hygienic true in
theorem yc{x u:Value}(R:jl A n)(G:GS A env sl s0 CP Z0 s σ Z ξ)(hx:aw Z x d)(hc:aw Z u e)(he:kY σ d e=some b)(hT:∀ds,e≠ .tup ds)(h:∀tk,Q (.bool (!b)) {s with toks:=tk}):
 wpAny cx.M A (compareOp .NotIn x u) Q E s:=by
 delta kY at he
 split at he
 ·rename_i kvs hk
  split at he
  ·(replace he:=sI he;subst he);cases hx using aw.CV;exact uE G hc hk h
  ·exact nS he
 ·split at he
  ·rename_i kvs hk
   refine aF (Option.map_eq_some_iff.mp he) fun ks h1 q2=>?_;subst q2
   exact uD R G hx h1 hc hk h
  ·split at he
   ·rename_i ds hk
    split at he
    ·rename_i q
     simp only[Bool.and_eq_true,List.all_eq_true]at q
     (replace he:=sI he;subst he)
     exact qm R G hx hc hk q.1 q.2 (by exact rE (pU q.1 q.2) (h s.toks))
    ·exact nS he
   ·split at he
    ·rename_i ds hk
     cases e<;>first|((replace hk:=sI hk;subst hk);exact absurd rfl (hT _))|exact nS hk
    ·exact nS he
noncomputable def po:D→Bool
 | .tup _=>true
 |_=>false
def yA(op:CmpOp):WO:=fun zz ds σ Φ=>yz ds fun d e=>(op= .NotIn→po e=false)∧on (dq σ op d e) fun b=>Φ (.bool b) σ
noncomputable def Cu(op:CmpOp)(vs:List Value):Sem Value:=match vs with
 |[v,u]=>compareOp op v u
 |_=>pure .none
theorem wD(op:CmpOp):OP c (Cu op) (yA op):=fun ds σ Φ h F sl s Z ξ vs Q S a r κ=>by
 refine eB (jU h) fun d e q2 h=>?_;subst q2
 refine bB (r.is2) fun v u q2 r1 r2=>?_;subst q2
 have G:=a.gs
 have R:=a.DA
 revert h;refine fun h0=>xA h0 fun hT h=>?_;clear h0
 refine aF (lE.mp h) fun b hb h=>?_
 have fin:Q (.bool b) s:=κ.of a (.bool b) h
 have fin':∀tk,Q (.bool b) {s with toks:=tk}:=fun tk=>κ.of (a.to (G.toks tk)) (.bool b) h
 refine(?_:wpAny cx.M F.A (compareOp op _ _) _ F.E s)
 cases op with
 |Eq=>exact yK hb fun q e=>by have q:=Bool.and_eq_true_iff.mp q;subst e;exact Cf R G r1 r2 q.1 q.2 (rE (pN q.1 q.2) fin)
 |NotEq=>exact yK hb fun q e=>by have q:=Bool.and_eq_true_iff.mp q;subst e;exact Cd R G r1 r2 q.1 q.2 (rE (pN q.1 q.2) fin)
 |Is=>exact yK hb fun q e'=>by subst e';have q:=nG q;subst q;cases r2 using aw.noneE;exact v4 r1 fin
 |IsNot=>exact yK hb fun q e'=>by subst e';have q:=nG q;subst q;cases r2 using aw.noneE;exact qn r1 fin
 |In=>exact Ce R G r1 r2 hb fin'
 |NotIn=>
  refine aF (Option.map_eq_some_iff.mp hb) fun b' h1 q2=>?_;subst q2
  exact yc R G r1 r2 h1 (fun ds q=>by subst q;have:=hT rfl;exact tF this) fin'
 |Gt=>exact B4 hb fun i j q1 q2 q=>by have q1:=cG q1;have q2:=cG q2;subst q1 q2 q;cases r1 using aw.CW;cases r2 using aw.CW;exact Bp fin
 |GtE=>exact B4 hb fun i j q1 q2 q=>by have q1:=cG q1;have q2:=cG q2;subst q1 q2 q;cases r1 using aw.CW;cases r2 using aw.CW;exact Bq fin
 |Lt=>exact B4 hb fun i j q1 q2 q=>by have q1:=cG q1;have q2:=cG q2;subst q1 q2 q;cases r1 using aw.CW;cases r2 using aw.CW;exact Bn fin
 |LtE=>exact B4 hb fun i j q1 q2 q=>by have q1:=dL q1;have q2:=dL q2;subst q1 q2 q;cases r1 using aw.CV;cases r2 using aw.CV;exact vY fin
instance{l r:Expr}[h1:EX c ns sl l wa][h2:EX c ns sl r wb]:EX c ns sl (.Compare l [op] [r] pos) (w2 wa wb (yA op)):=
 EX.of rfl fun ξ σ Φ q F s Z Q S a κ=>wpAny_Compare1 (J.two h1 h2 (wD op) q S a κ) (jz h2.form op)
def vD(w:WE):WC:=fun c ξ σ Φ=>w c ξ σ fun d σ'=>on (xC σ' d) fun b=>Φ b σ'
theorem ul{F:Fr}{Φ:Bool→af→Prop}{Q:Bool→Shared→Prop}(a:At c F sl s σ Z ξ)(r:aw Z v d)(e:xC σ d=some b)(h:Φ b σ)(κ:KE c F sl ξ Z (fun zz a b=>a=b) Φ Q):wpAny cx.M F.A (truthy v) Q F.E s:=
 ql a.gs r e fun tk=>κ.of (a.to (a.gs.toks tk)) rfl h
theorem CX.value{e:Expr}(h1:EX c ns sl e w)(he:∀env whole,isTrue e env whole=(do let v←whole;standAt e.pos;holding [v] (truthy v))):CX c ns sl e (vD w):=
 ⟨fun ξ σ Φ q F s Z Q S a κ=>wpAny_isTrue_value ((h1.ok _ _ _ q _ _ _ _ S a fun v s1 d σ1 Z1 a1 z1 r1 q1=>by
  refine aF (lE.mp q1) fun b hb q1=>?_
  exact ul a1 r1 hb q1 (κ.le z1))) (he F.env _)⟩
instance[h:EX c ns sl (.Name x pos) w]:CX c ns sl (.Name x pos) (vD w):=CX.value h fun zz zz=>rfl
instance{f:Expr}[h:EX c ns sl (.Call f as kw pos) w]:CX c ns sl (.Call f as kw pos) (vD w):=CX.value h fun zz zz=>rfl
instance[h:EX c ns sl (.Attribute o x pos) w]:CX c ns sl (.Attribute o x pos) (vD w):=CX.value h fun zz zz=>rfl
def ld(wa wb:WE)(op:CmpOp):WC:=fun c ξ σ Φ=>wa c ξ σ fun d σ1=>wb c ξ σ1 fun e σ2=>(op= .NotIn→po e=false)∧on (dq σ2 op d e) fun b=>Φ b σ2
instance{l r:Expr}[h1:EX c ns sl l wa][h2:EX c ns sl r wb]:CX c ns sl (.Compare l [op] [r] pos) (ld wa wb op):=
 ⟨fun ξ σ Φ q F s Z Q S a κ=>wpAny_isTrue_Compare1 ((h1.ok _ _ _ q _ _ _ _ S a fun v s1 d σ1 Z1 a1 z1 r1 q1=>
  (h2.ok _ _ _ q1 _ _ _ _ S a1 fun u s2 e σ2 Z2 a2 z2 r2 w0=>xA w0 fun hT q2=>by
   refine aF (lE.mp q2) fun b hb q2=>?_
   exact wD op [d,e] σ2 (fun d σ'=>d= .bool b∧Φ b σ') ⟨hT,by exact rE hb ⟨rfl,q2⟩⟩ _ _ _ _ _ _ _ S.fs a2 (.cons (r1.mono z2) (.cons r2 .nil))
    fun w s3 d3 σ3 Z3 a3 z3 r3 w0=>xA w0 fun hd q3=>by
     subst hd;cases r3 using aw.E2
     exact wpAny_truthy_bool (κ _ _ _ _ _ a3 (am.le_trans z1 (am.le_trans z2 z3)) rfl q3)))) (jz h2.form op)⟩
def A9(w:WC):WC:=fun c ξ σ Φ=>w c ξ σ fun b σ'=>Φ (!b) σ'
instance{x:Expr}{w:WC}[h:CX c ns sl x w]:CX c ns sl (.UnaryOp .Not x pos) (A9 w):=
 ⟨fun ξ σ Φ q F s Z Q S a κ=>isTrue_not ((h.ok _ _ _ q _ _ _ _ S a fun b s1 b' σ1 Z1 a1 z1 r1 q1=>κ _ _ _ σ1 Z1 a1 z1 (by rw[r1]) q1))⟩
class AX(c:Ct)(ns:NK)(sl:List Str)(op:BoolOp)(es:List Expr)(w:outParam WC):Prop where
 ok:J c ns sl (fun zz a b=>a=b) (fun env=>allTrue op es env) (w c)
def zA:WC:=fun zz zz σ Φ=>Φ true σ
def A8:WC:=fun zz zz σ Φ=>Φ false σ
def xJ(a b:WC):WC:=fun c ξ σ Φ=>a c ξ σ fun t σ1=>if t=true then b c ξ σ1 Φ else Φ false σ1
def B2(a b:WC):WC:=fun c ξ σ Φ=>a c ξ σ fun t σ1=>if t=true then Φ true σ1 else b c ξ σ1 Φ
instance:AX c ns sl .And [] zA:=⟨fun ξ σ Φ q F s Z Q S a κ=>wpAny_allTrue_And_nil (κ.of a rfl q)⟩
instance:AX c ns sl .Or [] A8:=⟨fun ξ σ Φ q F s Z Q S a κ=>wpAny_allTrue_Or_nil (κ.of a rfl q)⟩
instance{e:Expr}{w:WC}{ws:WC}[h1:CX c ns sl e w][h2:AX c ns sl .And es ws]:AX c ns sl .And (e::es) (xJ w ws):=
 ⟨fun ξ σ Φ q F s Z Q S a κ=>wpAny_allTrue_And_cons ((h1.ok _ _ _ q _ _ _ _ S a fun t s1 t' σ1 Z1 a1 z1 r1 q1=>by
  subst r1
  cases t
  ·exact κ _ _ _ σ1 Z1 a1 z1 rfl q1
  ·exact(h2.ok _ _ _ q1 _ _ _ _ S a1 (κ.le z1))))⟩
instance{e:Expr}{w:WC}{ws:WC}[h1:CX c ns sl e w][h2:AX c ns sl .Or es ws]:AX c ns sl .Or (e::es) (B2 w ws):=
 ⟨fun ξ σ Φ q F s Z Q S a κ=>wpAny_allTrue_Or_cons ((h1.ok _ _ _ q _ _ _ _ S a fun t s1 t' σ1 Z1 a1 z1 r1 q1=>by
  subst r1
  cases t
  ·exact(h2.ok _ _ _ q1 _ _ _ _ S a1 (κ.le z1))
  ·exact κ _ _ _ σ1 Z1 a1 z1 rfl q1))⟩
instance{op:BoolOp}{w:WC}[h:AX c ns sl op es w]:CX c ns sl (.BoolOp op es pos) w:=
 ⟨fun ξ σ Φ q F s Z Q S a κ=>wpAny_isTrue_BoolOp (h.ok _ _ _ q _ _ _ _ S a κ)⟩
def z8(a b:WE):WE:=fun c ξ σ Φ=>a c ξ σ fun d σ1=>on (xC σ1 d) fun t=>if t=true then b c ξ σ1 Φ else Φ d σ1
instance{op:BoolOp}{e:Expr}[h:EX c ns sl e w]:EX c ns sl (.BoolOp op [e] pos) w:=
 EX.of rfl fun ξ σ Φ q F s Z Q S a κ=>BoolOp_one (h.ok _ _ _ q _ _ _ _ S a κ)
instance{e f:Expr}{w':WE}[h1:EX c ns sl e w][h2:EX c ns sl (.BoolOp .And (f::es) pos) w']:EX c ns sl (.BoolOp .And (e::f::es) pos) (z8 w w'):=
 EX.of rfl fun ξ σ Φ q F s Z Q S a κ=>BoolOp_and ((h1.ok _ _ _ q _ _ _ _ S a fun v s1 d σ1 Z1 a1 z1 r1 q1=>by
  refine aF (lE.mp q1) fun b hb q1=>?_
  refine ql a1.gs r1 hb fun tk=>?_
  cases b
  ·exact κ _ _ _ σ1 Z1 (a1.to (a1.gs.toks tk)) z1 r1 q1
  ·exact(h2.ok _ _ _ q1 _ _ _ _ S (a.to (a1.gs.toks tk)) (κ.le z1))))
def oq(t:WC)(a b:WE):WE:=fun c ξ σ Φ=>t c ξ σ fun x σ1=>if x=true then a c ξ σ1 Φ else b c ξ σ1 Φ
instance{t e f:Expr}{w:WC}[h:CX c ns sl t w][h1:EX c ns sl e wa][h2:EX c ns sl f wb]:EX c ns sl (.IfExp t e f pos) (oq w wa wb):=
 EX.of rfl fun ξ σ Φ q F s Z Q S a κ=>IfExp_ ((h.ok _ _ _ q _ _ _ _ S a fun x s1 x' σ1 Z1 a1 z1 r1 q1=>by
  subst r1
  cases x
  ·exact(h2.ok _ _ _ q1 _ _ _ _ S a1 (κ.le z1))
  ·exact(h1.ok _ _ _ q1 _ _ _ _ S a1 (κ.le z1))))
end
end
section
theorem eg.foot{foot:Addr→Prop}{h:Heap}(hf:∀b,foot b→Fs b)(hr:∀b,fr b→fr' b)(g:eg foot fr h σ Z h' σ' Z'):eg Fs fr' h σ Z h' σ' Z':=
 ⟨g.DM,fun b o a c e=>let⟨o',x,y⟩:=g.keep b o (fun q=>a (hf b q)) c e;⟨o',x,y.imp id fun w0=>xA w0 fun p q=>⟨hr b p,q⟩⟩,g.C8,g.C1,g.live⟩
theorem GS.called(G:GS A env sl s0 CP Z0 s σ Z ξ)(g:eg (fun zz=>False) (cm A) s.heap σ Z s'.heap σ' Z')(I:dR s'.heap σ' Z')(S:jf A s'.heap σ' Z')(m:fQ s s'):GS A env sl s0 CP Z0 s' σ' Z' ξ:=by
 refine⟨G.grow.trans (g.foot (fun zz h=>h.elim) fun zz h=>h),I,G.CT.keeps (fun b o hb e=>?_) g.DM fun b hb=>?_,S,G.same.trans m⟩
 ·refine aF (g.keep b o (fun h=>h) (G.CT.off b hb).1 e) fun o' e' q=>?_
  rcases q with rfl|⟨_,_,rfl⟩
  ·exact(aP o' e' rfl)
  ·exact(aP _ e' rfl)
 ·refine xE (G.Dl hb) fun o e=>?_
  refine⟨?_,?_⟩
  ·cases q:σ' b with
   |none=>rfl
   |some ao=>rcases g.C1 b (by refine rE q ?_;simp)with h|h
             ·exact absurd (G.CT.off b hb).1 h
             ·rw[e]at h;exact sN h
  ·cases q:Z' b with
   |none=>rfl
   |some ao=>rcases g.C8 b (by refine rE q ?_;simp)with h|h|h
             ·exact absurd (G.CT.off b hb).2 h
             ·exact absurd (G.CT.off b hb).1 h
             ·rw[e]at h;exact sN h
theorem xx.called{e:Addr}{X:af→Prop}(G:GS A env sl s0 CP Z0 s σ Z ξ)(hE:xx A env C s0 CP Z0 X E)(gx:GX A (fun zz=>False) C s σ Z s' σ' Z' e)(hx:X σ'):E (.ref e) s':=
 hE.2 e s' σ' Z' ⟨G.grow.trans (gx.grow.foot (fun zz h=>h.elim) fun zz h=>h),gx.inv,gx.stk,G.same.trans gx.same,gx.exc.low G.grow.low⟩ hx
theorem mx{F:Fr}{f:Value}(h:aL c.C c.n f ds σ Φ c.X)(a:At c F sl s σ Z ξ)(r:aB Z vs ds)(κ:KE c F sl ξ Z (aw) Φ Q):
 wpAny cx.M F.A (call f vs) Q F.E s:=
 wpAny_call (h F.A s Z vs _ a.DA a.gs.inv a.gs.stk r (fun v s' σ' Z' d g i st sm rp q=>κ _ _ d σ' Z' (a.to (a.gs.called g i st sm)) g.DM rp q) fun e s' σ' Z' gx hx=>a.err.called a.gs gx hx)
theorem eJ{M:Model}
 (h:wpAny M A (eval (.Name x p) env) (fun f s1=>wpAny M A (callWith pos f [] (backTo pos (starEach args env)) []) Q E s1) E s):wpAny M A (eval (.Call (.Name x p) args [] pos) env) Q E s:=by
 refine(?_:wpAny M A (eval (.Name x p) env>>=fun f=>callWith pos f [] (backTo pos (starEach args env)) []) Q E s)
 exact wpAny_bind h
theorem eu{M:Model}{f:Value}{Q:Args→Shared→Prop}:∀{t:List (Bool×Sem Value)},t.any (·.1)=false→wpAny M A (spliced t) (fun vs s'=>Q ⟨vs,[]⟩ s') E s→wpAny M A (evalArgs f true t []) Q E s
 |[],_,h=>by
  delta evalArgs
  refine(?_:wpAny M A (spliced []>>=_) Q E s)
  refine wpAny_bind (wpAny_mono h (fun vs s' h'=>?_) fun zz zz x=>x)
  refine wpAny_bind (wpAny_pure (wpAny_holding ?_))
  exact wpAny_bind (wpAny_pure (wpAny_bind (wpAny_pure (wpAny_pure h'))))
 |(false,x)::rest,_,h=>Calls.evalArgs_plain h
theorem iI{f:Value}(h1:LX c ns sl args ws)(hk:keepIn cx.K f=true)
 (h:wpAny cx.M A (spliced (backTo pos (starEach args env))) (fun vs s1=>cx.K.In s1.heap∧wpAny cx.M A (call f (first++vs)) Q E s1) E s):
 wpAny cx.M A (callWith pos f first (backTo pos (starEach args env)) []) Q E s:=
 callWith_of (P:=cx.K.In) (by exact rE (h1.plain _ _) rfl) (keeps_K hk) (eu (h1.plain env pos) h)
theorem kr(h1:LX c ns sl args ws)
 (h:wpAny cx.M A (spliced (backTo pos (starEach args env))) (fun vs s1=>wpAny cx.M A (call (.builtin id) (first++vs)) Q E s1) E s):
 wpAny cx.M A (callWith pos (.builtin id) first (backTo pos (starEach args env)) []) Q E s:=
 Calls.callWith_builtin (h1.plain env pos) (eu (h1.plain env pos) h)
theorem vt{T:String}(h1:LX c ns sl args ws)
 (h:wpAny cx.M A (spliced (backTo pos (starEach args env))) (fun vs s1=>wpAny cx.M A (call (.type T) (first++vs)) Q E s1) E s):
 wpAny cx.M A (callWith pos (.type T) first (backTo pos (starEach args env)) []) Q E s:=
 PyProof.Rows.callWith_type (h1.plain env pos) (eu (h1.plain env pos) h)
def lg(x:Str)(ws:WL):WE:=fun c ξ σ Φ=>(x==("__debug__" :Str))=false∧∃f,cx.mg x=some f∧keepIn cx.K f=true∧ws c ξ σ fun ds σ1=>aL c.C c.n f ds σ1 Φ c.X
instance(priority:=low)[k:bL ns x .globalImplicit][h1:LX c ns sl args ws]:EX c ns sl (.Call (.Name x p) args [] pos) (lg x ws):=
 EX.of rfl fun ξ σ Φ q F s Z Q S a κ=>by
  revert q;refine fun h0=>mS h0 fun hd f hf hk q=>?_;clear h0
  refine eJ (jR S a.gs k.h hd hf (iI h1 hk ((h1.ok pos _ _ _ q _ _ _ _ S a fun vs s1 ds σ1 Z1 a1 z1 r1 q1=>⟨a1.gs.X,?_⟩))))
  exact mx q1 a1 r1 (κ.le z1)
def rA(x:Str)(ws:WL)(o:WO):WE:=fun c ξ σ Φ=>cx.mg x=none∧rn ws o c ξ σ Φ
theorem EX.builtin{o:WO}(k:bL ns x .globalImplicit)(h1:LX c ns sl args ws)(hb:bootBuiltins x=some (.builtin id))(hd:(x==("__debug__" :Str))=false)(hn:x≠"__name__")
 (ho:OP c (fun vs=>call (.builtin id) vs) o):EX c ns sl (.Call (.Name x p) args [] pos) (rA x ws o):=
 EX.of rfl fun ξ σ Φ q F s Z Q S a κ=>eJ (gh S a.gs k.h hd hn q.1 hb (kr h1 (J.list h1 ho q.2 S a κ)))
theorem EX.type{T:String}{o:WO}(k:bL ns x .globalImplicit)(h1:LX c ns sl args ws)(hb:bootBuiltins x=some (.type T))(hd:(x==("__debug__" :Str))=false)(hn:x≠"__name__")
 (ho:OP c (fun vs=>call (.type T) vs) o):EX c ns sl (.Call (.Name x p) args [] pos) (rA x ws o):=
 EX.of rfl fun ξ σ Φ q F s Z Q S a κ=>eJ (gh S a.gs k.h hd hn q.1 hb (vt h1 (J.list h1 ho q.2 S a κ)))
def uW:WO:=fun zz ds σ Φ=>AJ ds fun d=>match fW d with
 |some x=>Φ (.int x.length) σ
 |none=>on (bg σ d) fun xs=>xs.length≤1048576∧Φ (.int xs.length) σ
theorem AE:OP c (fun vs=>call (.builtin "len") vs) uW:=fun ds σ Φ h F sl s Z ξ vs Q S a r κ=>by
 refine aF (jV h) fun d q1 h'=>?_;subst q1
 clear h
 refine aF (r.is1) fun v q1 r1=>?_;subst q1
 refine oS (o:=fW d) (fun x q=>?_) fun q=>?_
 ·skip
  rw[q]at h'
  cases dL q
  cases r1 using aw.CV with
  |str _ hx=>exact Ao a.gs hx (κ.y a h')
 ·skip
  rw[q]at h'
  refine cz (fk h') fun xs hx hn h=>?_
  exact Ap a.gs r1 hx hn (κ.y a h)
def AK:WO:=fun zz ds σ Φ=>AJ ds fun d=>on (fY d) fun i=>Φ (.int i) σ
theorem AG:OP c (fun vs=>call (.type "int") vs) AK:=fun ds σ Φ h F sl s Z ξ vs Q S a r κ=>by
 refine aF (jV h) fun d q1 h=>?_;subst q1
 refine aF (fk h) fun i hi h=>?_
 cases cG hi
 refine aF (r.is1) fun v q1 r1=>?_;subst q1
 cases r1 using aw.CW;exact Bo (κ.of a (.int _ _) h)
def wE:WO:=fun zz ds σ Φ=>AJ ds fun d=>on (fY d) fun i=>Φ (.rng i) σ
theorem wA:OP c (fun vs=>call (.type "range") vs) wE:=fun ds σ Φ h F sl s Z ξ vs Q S a r κ=>by
 refine aF (jV h) fun d q1 h=>?_;subst q1
 refine aF (fk h) fun i hi h=>?_
 cases cG hi
 refine aF (r.is1) fun v q1 r1=>?_;subst q1
 cases r1 using aw.CW;exact yb a.gs (κ.y a h)
def By:WO:=fun zz ds σ Φ=>yz ds fun d e=>on (fY d) fun a=>on (fY e) fun b=>Φ (.int (if b>a then b else a)) σ
theorem AC:OP c (fun vs=>call (.builtin "max") vs) By:=fun ds σ Φ h F sl s Z ξ vs Q S a r κ=>by
 refine eB (jU h) fun d e q2 h=>?_;subst q2
 refine aF (fk h) fun i hi h=>?_
 refine aF (fk h) fun j hj h=>?_
 cases cG hi;cases cG hj
 refine bB (r.is2) fun v u q2 r1 r2=>?_;subst q2
 cases r1 using aw.CW;cases r2 using aw.CW;exact Bm a.DA a.gs (κ.y a h)
def wG:WO:=fun zz ds σ Φ=>AJ ds fun d=>on (bg σ d) fun xs=>xs.length≤1048576∧Φ (.lst xs) σ
theorem wB:OP c (fun vs=>call (.type "list") vs) wG:=fun ds σ Φ h F sl s Z ξ vs Q S a r κ=>by
 refine aF (jV h) fun d q1 h=>?_;subst q1
 refine cz (fk h) fun xs hx hn h=>?_
 refine aF (r.is1) fun v q1 r1=>?_;subst q1
 exact rN a.gs r1 hx hn (κ.y a h)
instance[k:bL ns (ofString "len") .globalImplicit][h1:LX c ns sl args ws]:EX c ns sl (.Call (.Name (ofString "len") p) args [] pos) (rA "len" ws uW):=
 EX.builtin (id:="len") k h1 rfl (by decide) (by decide) AE
instance[k:bL ns (ofString "max") .globalImplicit][h1:LX c ns sl args ws]:EX c ns sl (.Call (.Name (ofString "max") p) args [] pos) (rA "max" ws By):=
 EX.builtin (id:="max") k h1 rfl (by decide) (by decide) AC
instance[k:bL ns (ofString "int") .globalImplicit][h1:LX c ns sl args ws]:EX c ns sl (.Call (.Name (ofString "int") p) args [] pos) (rA "int" ws AK):=
 EX.type (T:="int") k h1 rfl (by decide) (by decide) AG
instance[k:bL ns (ofString "range") .globalImplicit][h1:LX c ns sl args ws]:EX c ns sl (.Call (.Name (ofString "range") p) args [] pos) (rA "range" ws wE):=
 EX.type (T:="range") k h1 rfl (by decide) (by decide) wA
instance[k:bL ns (ofString "list") .globalImplicit][h1:LX c ns sl args ws]:EX c ns sl (.Call (.Name (ofString "list") p) args [] pos) (rA "list" ws wG):=
 EX.type (T:="list") k h1 rfl (by decide) (by decide) wB
def B7(w:WE):WE:=fun c ξ σ Φ=>cx.mg "isinstance" =none∧cx.mg "list" =none∧w c ξ σ fun d σ1=>match d with
 | .lst _=>Φ (.bool true) σ1
 | .none=>Φ (.bool false) σ1
 | .str _=>Φ (.bool false) σ1
 |_=>False
instance{e:Expr}[k:bL ns (ofString "isinstance") .globalImplicit][k2:bL ns (ofString "list") .globalImplicit][h1:EX c ns sl e w]:
 EX c ns sl (.Call (.Name (ofString "isinstance") p) [e,.Name (ofString "list") p2] [] pos) (B7 w):=
 EX.of rfl fun ξ σ Φ q F s Z Q S a κ=>by
  revert q;refine fun h0=>dF h0 fun m1 m2 q=>?_;clear h0
  have hpl:(backTo pos (starEach [e,.Name (ofString "list") p2] F.env)).any (·.1)=false:=by exact rE (gZ h1.form _ _) rfl
  refine eJ (gh (v:= .builtin "isinstance") S a.gs k.h (by decide) (by decide) m1 rfl (Calls.callWith_builtin hpl (eu hpl (ja h1.form
   ((h1.ok _ _ _ q _ _ _ _ S a fun v s1 d σ1 Z1 a1 z1 r1 q1=>?_))))))
  refine wpAny_items_cons (gh (v:= .type "list") S a1.gs k2.h (by decide) (by decide) m2 rfl (wpAny_items_nil ?_))
  refine(?_:wpAny cx.M F.A (call (.builtin "isinstance") [v,.type "list"]) _ F.E s1)
  refine uG a1.gs r1 ?_ fun tk=>?_
  ·revert q1;cases d<;>intro q1<;>first|exact q1.elim|exact .inl (iE _ rfl)|exact .inr (.inl rfl)|exact .inr (.inr (iE _ rfl))
  ·revert q1;cases d<;>intro q1<;>first|exact q1.elim|exact κ _ _ _ σ1 Z1 (a1.to (a1.gs.toks tk)) z1 (.bool _) q1
end
section
class fR(e:Expr):Prop where
 ok:wZ e=true
instance:fR (.Name x p):=⟨rfl⟩
instance:fR (.Attribute o x p):=⟨rfl⟩
instance{i:Expr}:fR (.Subscript o i p):=⟨rfl⟩
instance{q:Pos}:fR (.Call (.Attribute o x q) as kw p):=⟨rfl⟩
instance{ks:List (Option Expr)}{vs:List Expr}:fR (.Dict ks vs p):=⟨rfl⟩
instance{k:Const}:fR (.Constant k j p):=⟨rfl⟩
def zy(w:WE)(x:Str):WE:=fun c ξ σ Φ=>w c ξ σ fun d σ1=>∃C fs e,du σ1 d=some (C,fs)∧look fs x=some e∧kt cx.K C x=true∧Φ e σ1
instance[b:fR o][h:EX c ns sl o w]:EX c ns sl (.Attribute o x pos) (zy w x):=
 EX.of rfl fun ξ σ Φ q F s Z Q S a κ=>by
  refine Attribute_any_ ((h.ok _ _ _ q _ _ _ _ S a fun v s1 d σ1 Z1 a1 z1 r1 w0=>cp w0 fun C fs e k1 k2 k3 q1=>?_)) ?_
  ·exact uH a1.gs r1 k1 k2 k3 fun u tk ru=>κ _ _ e σ1 Z1 (a1.to (a1.gs.toks tk)) z1 ru q1
  ·exact rE (arm_eval_Attribute _ _ _ _) (rE (ua b.ok _ _ _) rfl)
class vA(es:List Expr)(k:outParam Nat):Prop where
 ok:es.length=k
instance:vA [] 0:=⟨rfl⟩
instance{e:Expr}[h:vA es k]:vA (e::es) (k+1):=⟨by exact rE List.length_cons (rE h.ok rfl)⟩
theorem em{name:Str}(hb:wZ o=true)(h1:LX c ns sl args ws)(hk:args.length=k)(hfew:k<30)(hline:(apos.endLine==pos.line)=true)
 (h:wpAny cx.M A (eval o env) (fun ov s₁=>∀pl,wpAny cx.M A (getMethod ov name pl) (fun fx s₂=>wpAny cx.M A (callWith pos fx.1 fx.2 (backTo pos (starEach args env)) []) Q E s₂) E s₁) E s):
 wpAny cx.M A (eval (.Call (.Attribute o name apos) args [] pos) env) Q E s:=by
 have hp:=h1.plain env pos
 have hform:methodCallForm (args.length+([]:List Keyword).length) (backTo pos (starEach args env)) (backToKw pos (keywordEach [] env))=true:=by
  delta methodCallForm
  have e1:(backTo pos (starEach args env)).all (fun x=> !x.1)=true:=by
   refine rE (propext List.all_eq_true) ?_
   intro x hx
   rw[List.any_eq_false]at hp
   simpa using hp x hx
  refine rE e1 ?_
  have e2:(backToKw pos (keywordEach [] env))=[]:=rfl
  refine rE e2 ?_
  simp only[List.all_nil,List.isEmpty_nil,if_true,List.length_nil,Nat.add_zero,Bool.true_and,decide_eq_true_eq]
  lia
 have hpos:methodCallPos true o env apos pos=pure pos:=by delta methodCallPos;simp[hline]
 refine rE (arm_eval_Call _ _ _ _ _ _ _) (rE (ua hb _ _ _) ?_)
 refine wpAny_bind (wpAny_mono h (fun ov s₁ h₁=>wpAny_bind (wpAny_standAt ?_)) fun zz zz e=>e)
 delta methodCall
 refine rE hform ?_
 delta calleeOf
 refine rE (if_pos rfl) ?_
 refine wpAny_bind (wpAny_holding (wpAny_mono (h₁ _) (fun fx s₂ h₂=>?_) fun zz zz e=>e))
 exact wpAny_bind (wpAny_of_eq hpos h₂)
def zr(apos pos:Pos)(k:Nat)(w:WE)(x:Str)(ws:WL):WE:=fun c ξ σ Φ=>(k<30∧(apos.endLine==pos.line)=true)∧w c ξ σ fun d σ1=>∃C fs f,du σ1 d=some (C,fs)∧look fs x=none∧jX cx.K C x f=true∧keepIn cx.K (.ref f)=true∧
 ws c ξ σ1 fun ds σ2=>aL c.C c.n (.ref f) (d::ds) σ2 Φ c.X
instance(priority:=low)[b:fR o][f:vA args k][h:EX c ns sl o w][h1:LX c ns sl args ws]:EX c ns sl (.Call (.Attribute o x apos) args [] pos) (zr apos pos k w x ws):=
 EX.of rfl fun ξ σ Φ q F s Z Q S a κ=>by
  revert q;refine fun h0=>xA h0 fun w0 q=>?_;clear h0;obtain⟨k1,k2⟩:=w0
  refine em b.ok h1 f.ok k1 k2 ((h.ok _ _ _ q _ _ _ _ S a fun v s1 d σ1 Z1 a1 z1 r1 w pl=>cp w fun C fs fa e1 e2 e3 w=>xA w fun e4 q1=>?_))
  refine qo a1.gs r1 e1 e2 e3 (iI h1 e4 ((h1.ok pos _ _ _ q1 _ _ _ _ S a1 fun vs s2 ds σ2 Z2 a2 z2 r2 q2=>⟨a2.gs.X,?_⟩)))
  exact mx q2 a2 (.cons (r1.mono z2) r2) (κ.le (am.le_trans z1 z2))
noncomputable def kO(σ:af):D→Option (Addr×List D)
 | .ref a=>match σ a with|some (.lst ds)=>some (a,ds)|_=>none
 |_=>none
noncomputable def uQ(σ:af):D→Option (Addr×List (Str×D))
 | .ref a=>match σ a with|some (.dS ds)=>some (a,ds)|_=>none
 |_=>none
noncomputable def wz(σ:af):D→Option (Addr×List (List Str×D))
 | .ref a=>match σ a with|some (.dT ds)=>some (a,ds)|_=>none
 |_=>none
theorem kS{p:Addr×List D}(h:kO σ d=some p):d= .ref p.1∧σ p.1=some (.lst p.2):=by
 cases d<;>first|(exact nS h;done)|skip
 simp only[kO]at h
 split at h
 ·(replace h:=sI h;subst h);exact⟨rfl,by assumption⟩
 ·exact nS h
theorem tm{p:Addr×List (Str×D)}(h:uQ σ d=some p):d= .ref p.1∧σ p.1=some (.dS p.2):=by
 cases d<;>first|(exact nS h;done)|skip
 simp only[uQ]at h
 split at h
 ·(replace h:=sI h;subst h);exact⟨rfl,by assumption⟩
 ·exact nS h
theorem yr{p:Addr×List (List Str×D)}(h:wz σ d=some p):d= .ref p.1∧σ p.1=some (.dT p.2):=by
 cases d<;>first|(exact nS h;done)|skip
 simp only[wz]at h
 split at h
 ·(replace h:=sI h;subst h);exact⟨rfl,by assumption⟩
 ·exact nS h
inductive RT where|lst|dict|str
def vi(σ:af):RT→D→Prop
 | .lst,d=>(kO σ d).isSome=true
 | .dict,d=>(cw σ d).isSome=true∨(gv σ d).isSome=true
 | .str,d=>∃x,d= .str x
noncomputable def RT.name:RT→String
 | .lst=>"list"
 | .dict=>"dict"
 | .str=>"str"
theorem yN{T:RT}(h:vi σ T d)(G:GS A env sl s0 CP Z0 s σ Z ξ)(r:aw Z v d):s.TypeIs v T.name∧∀a,v= .ref a→∃o,s.heap.get? a=some o∧o.dict=none:=by
 cases T with
 |lst=>
  refine xE (Option.isSome_iff_exists.mp h) fun p hp=>?_
  refine xA (kS hp) fun q0 h2=>?_;subst q0
  cases r using aw.C5
  refine ck (G.inv.own _ _ h2) fun zz o ho hm=>?_
  cases hm using OM.Dw
  exact⟨(aP _ ho rfl),fun a e=>by cases e;exact(aP _ ho rfl)⟩
 |dict=>
  rcases h with h|h
  ·refine xE (Option.isSome_iff_exists.mp h) fun kvs hk=>?_
   refine cp (ub G.inv r hk) fun a o xs q3 h1 w5 zz=>?_;subst q3;obtain⟨es,ep,⟨h2,h3,_⟩,_⟩:=w5
   exact⟨(aP _ h1 h2),fun b e=>by cases e;exact(aP _ h1 h3)⟩
  ·refine xE (Option.isSome_iff_exists.mp h) fun kvs hk=>?_
   refine bB (mz G.inv r hk) fun a xs q2 w3 zz=>?_;subst q2;obtain⟨o,es,ep,h1,⟨h2,h3,_⟩,_⟩:=w3
   exact⟨(aP _ h1 h2),fun b e=>by cases e;exact(aP _ h1 h3)⟩
 |str=>
  refine xE h fun x q1=>?_;clear h;subst q1
  cases r using aw.CV
  exact⟨typeIs_str _ _ _,fun b e=>by cases e⟩
def zw(T:RT)(apos pos:Pos)(k:Nat)(w:WE)(ws:WL)(o:WO):WE:=fun c ξ σ Φ=>(k<30∧(apos.endLine==pos.line)=true)∧w c ξ σ fun d σ1=>vi σ1 T d∧ws c ξ σ1 fun ds σ2=>o c (d::ds) σ2 Φ
theorem EX.DQ{T:RT}{op:WO}(b:fR o)(f:vA args k)(h:EX c ns sl o w)(h1:LX c ns sl args ws)
 (pa:PlainAttrs T.name) (slot:Slot T.name x id) (hty:typeOf (.builtin id)=pure (.type "method_descriptor")) (ho:OP c (fun vs=>call (.builtin id) vs) op):
 EX c ns sl (.Call (.Attribute o x apos) args [] pos) (zw T apos pos k w ws op):=
 EX.of rfl fun ξ σ Φ q F s Z Q S a κ=>by
  revert q;refine fun h0=>xA h0 fun w0 q=>?_;clear h0;obtain⟨k1,k2⟩:=w0
  refine em b.ok h1 f.ok k1 k2 ((h.ok _ _ _ q _ _ _ _ S a fun v s1 d σ1 Z1 a1 z1 r1 w0 pl=>xA w0 fun hT q1=>?_))
  refine xA (yN hT a1.gs r1) fun t1 t2=>?_
  refine getMethod_builtin t1 pa slot hty t2 (kr h1 ((h1.ok pos _ _ _ q1 _ _ _ _ S a1 fun vs s2 ds σ2 Z2 a2 z2 r2 q2=>?_)))
  exact(ho _ _ _ q2 _ _ _ _ _ _ _ S.fs a2 (.cons (r1.mono z2) r2) (κ.le (am.le_trans z1 z2)))
def kT:WO:=fun zz ds σ Φ=>yz ds fun l x=>∃a xs,kO σ l=some (a,xs)∧xs.length≤1048576∧Φ .none (σ.put a (.lst (xs++[x])))
theorem uV:OP c (fun vs=>call (.builtin "list.append") vs) kT:=fun ds σ Φ h F sl s Z ξ vs Q S a r κ=>by
 refine eB (jU h) fun l x q2 CU=>bB CU fun b xs h1 h2 h3=>?_;clear CU;subst q2
 refine xA (kS h1) fun q0 hh=>?_;subst q0
 refine bB (r.is2) fun v u q2 r1 r2=>?_;subst q2
 cases r1 using aw.C5
 exact wg a.gs hh r2 h2 fun s' g=>κ.of (a.to g) .none h3
def oW:WO:=fun zz ds σ Φ=>yz ds fun l x=>∃a xs ys,kO σ l=some (a,xs)∧bg σ x=some ys∧xs.length+ys.length≤1048576∧Φ .none (σ.put a (.lst (xs++ys)))
theorem uU:OP c (fun vs=>call (.builtin "list.extend") vs) oW:=fun ds σ Φ h F sl s Z ξ vs Q S a r κ=>by
 refine eB (jU h) fun l x q2 CU=>cp CU fun b xs ys h1 hy h2 h3=>?_;clear CU;subst q2
 refine xA (kS h1) fun q0 hh=>?_;subst q0
 refine bB (r.is2) fun v u q2 r1 r2=>?_;subst q2
 cases r1 using aw.C5
 exact v7 a.gs hh r2 hy h2 fun s' g=>κ.of (a.to g) .none h3
def Bz:WO:=fun zz ds σ Φ=>Bv ds (fun t k=>on (fW k) fun x=>∃kvs,cw σ t=some kvs∧Φ ((look kvs x).getD .none) σ) fun t k f=>match fW k with
 |some x=>∃kvs,cw σ t=some kvs∧Φ ((look kvs x).getD f) σ
 |none=>∃kvs ks,gv σ t=some kvs∧ip k=some ks∧Φ ((look kvs ks).getD f) σ
theorem AH:OP c (fun vs=>call (.builtin "dict.get") vs) Bz:=fun ds σ Φ h F sl s Z ξ vs Q S a r κ=>by
 rcases yy h with h|h
 ·refine eB (jU h) fun t k q2 h=>?_;subst q2
  refine fS (fk h) fun x hx kvs h1 h2=>?_
  cases dL hx
  refine bB (r.is2) fun v u q2 r1 r2=>?_;subst q2
  cases r2 using aw.CV;exact wf a.gs r1 h1 fun v tk rv=>κ.of (a.to (a.gs.toks tk)) rv h2
 ·refine gf (rZ h) fun t k f q3 h'=>?_;subst q3
  clear h
  refine cp (r.GV) fun v u w q3 r1 r2 r3=>?_;subst q3
  refine oS (o:=fW k) (fun x q=>?_) fun q=>?_
  ·skip
   rw[q]at h'
   refine aF h' fun kvs h1 h2=>?_;clear h'
   cases dL q
   cases r2 using aw.CV;exact v9 a.gs r1 h1 r3 fun v tk rv=>κ.of (a.to (a.gs.toks tk)) rv h2
  ·skip
   rw[q]at h'
   refine bB h' fun kvs ks h1 hk h2=>?_;clear h'
   exact v8 a.DA a.gs r2 hk r1 h1 r3 fun v tk rv=>κ.of (a.to (a.gs.toks tk)) rv h2
def tB:WO:=fun zz ds σ Φ=>B3 ds fun t k f=>on (fW k) fun x=>∃a kvs,uQ σ t=some (a,kvs)∧kvs.length≤1048576∧(∀d,look kvs x=some d→Φ d σ)∧(look kvs x=none→Φ f (σ.put a (.dS (put kvs x f))))
theorem uT:OP c (fun vs=>call (.builtin "dict.setdefault") vs) tB:=fun ds σ Φ h F sl s Z ξ vs Q S a r κ=>by
 refine gf (rZ h) fun t k f q3 h=>?_;subst q3
 refine aF (fk h) fun x hx CU=>cy CU fun b kvs h1 h2 h3 h4=>?_;clear CU
 cases dL hx
 refine xA (tm h1) fun q0 hh=>?_;subst q0
 refine cp (r.GV) fun v u w q3 r1 r2 r3=>?_;subst q3
 cases r1 using aw.C5
 cases r2 using aw.CV with
 |str _ hx=>exact oH hx a.gs hh r3 h2 (fun d hd v tk rv=>κ _ _ _ σ Z (a.to (a.gs.toks tk)) (am.le_refl _) rv (h3 d hd)) fun hn s' g=>κ.of (a.to g) r3 (h4 hn)
def zM:WO:=fun zz ds σ Φ=>yz ds fun d e=>on (fW d) fun x=>on (fW e) fun y=>Φ (.int (Txt.find x y)) σ
theorem yw:OP c (fun vs=>call (.builtin "str.find") vs) zM:=fun ds σ Φ h F sl s Z ξ vs Q S a r κ=>by
 refine eB (jU h) fun d e q2 h=>?_;subst q2
 refine aF (fk h) fun x hx h=>?_
 refine aF (fk h) fun y hy h=>?_
 cases dL hx;cases dL hy
 refine bB (r.is2) fun v u q2 r1 r2=>?_;subst q2
 cases r1 using aw.CV;cases r2 using aw.CV;exact As a.gs (κ.y a h)
instance[b:fR o][f:vA args k][h:EX c ns sl o w][h1:LX c ns sl args ws]:EX c ns sl (.Call (.Attribute o (ofString "append") apos) args [] pos) (zw .lst apos pos k w ws kT):=
 EX.DQ b f h h1 PySem.F.plainAttrs_list PySem.F.slot_list_append PySem.F.type_list_append uV
instance[b:fR o][f:vA args k][h:EX c ns sl o w][h1:LX c ns sl args ws]:EX c ns sl (.Call (.Attribute o (ofString "extend") apos) args [] pos) (zw .lst apos pos k w ws oW):=
 EX.DQ b f h h1 PySem.F.plainAttrs_list PySem.F.slot_list_extend PySem.F.type_list_extend uU
instance[b:fR o][f:vA args k][h:EX c ns sl o w][h1:LX c ns sl args ws]:EX c ns sl (.Call (.Attribute o (ofString "get") apos) args [] pos) (zw .dict apos pos k w ws Bz):=
 EX.DQ b f h h1 PySem.F.plainAttrs_dict PySem.F.slot_dict_get PySem.F.type_dict_get AH
instance[b:fR o][f:vA args k][h:EX c ns sl o w][h1:LX c ns sl args ws]:EX c ns sl (.Call (.Attribute o (ofString "setdefault") apos) args [] pos) (zw .dict apos pos k w ws tB):=
 EX.DQ b f h h1 PySem.F.plainAttrs_dict PySem.F.slot_dict_setdefault PySem.F.type_dict_setdefault uT
instance[b:fR o][f:vA args k][h:EX c ns sl o w][h1:LX c ns sl args ws]:EX c ns sl (.Call (.Attribute o (ofString "find") apos) args [] pos) (zw .str apos pos k w ws zM):=
 EX.DQ b f h h1 PySem.F.plainAttrs_str PySem.F.slot_str_find PySem.F.type_str_find yw
def fm:WO:=fun zz ds σ Φ=>match ds with
 |[d,.int k]=>(-(2^63)≤k∧k<2^63)∧((∃xs e,0≤k∧bg σ d=some xs∧xs[k.toNat]?=some e∧Φ e σ)∨(∃xs j e,iU d=some xs∧seqIndex? k xs.length=some j∧xs[j]?=some e∧Φ e σ)∨
  ∃x,d= .str x∧(Txt.charAt x k).isSome=true∧Φ (.str (Txt.item x k)) σ)
 |[d,.str x]=>∃kvs e,cw σ d=some kvs∧look kvs x=some e∧Φ e σ
 |[d,.tup k]=>∃kvs ks e,gv σ d=some kvs∧ip (.tup k)=some ks∧look kvs ks=some e∧Φ e σ
 |_=>False
theorem vf{F:Fr}{value slice:Expr}{i:Value}(hs:kI slice=true)(a:At c F sl s σ Z ξ)(r1:aw Z v d)(r2:aw Z i e)(h:fm c [d,e] σ Φ)(κ:KE c F sl ξ Z (aw) Φ Q):
 wpAny cx.M F.A (subscriptTail value slice v i) Q F.E s:=by
 have hsub:subscripted slice false v i=operate [v,i] (getItem v i):=by cases slice<;>first|rfl|exact fT hs
 have G:=a.gs
 cases e with
 |int k=>
  cases r2 using aw.CW
  revert h;refine fun h0=>xA h0 fun w0 h=>?_;clear h0;obtain⟨b1,b2⟩:=w0
  rcases h with⟨xs,e,b0,h1,h2,h3⟩|⟨xs,j,e,h1,h2,h3,h4⟩|⟨x,rfl,h1,h2⟩
  ·refine be (dY G.inv r1 h1) fun a' o vs' m q4 k1 k2 k3 k4=>?_;subst q4
   exact tail_any (aP _ k1 k2) slot_list_getitem.lookup (yg G r1 h1 b0 b2 h2 fun u ru=>κ.of a ru h3) hsub
  ·refine be (io G.inv r1 h1) fun a' o vs' m q4 k1 k2 k3 k4=>?_;subst q4
   exact tail_any (aP _ k1 k2) slot_tuple_getitem.lookup (ye G r1 h1 b1 b2 h2 h3 fun u ru=>κ.of a ru h4) hsub
  ·cases r1 using aw.CV with
   |str _ hx=>
    obtain⟨T,id,q1,q2,q3⟩:=yf (Q:=Q) (E:=F.E) (A:=F.A) G hx (by delta fitsSsize;simp only[Bool.not_eq_true',Bool.or_eq_false_iff,decide_eq_false_iff_not];lia) h1 (κ.y a h2)
    exact tail_any q2 q1 q3 hsub
 |str x=>
  cases r2 using aw.CV
  refine bB h fun kvs e h1 h2 h3=>?_;clear h
  refine cp (ub G.inv r1 h1) fun a' o xs q3 k1 w5 zz=>?_;subst q3;obtain⟨es,ep,⟨k2,_⟩,_⟩:=w5
  exact tail_any (aP _ k1 k2) PySem.F.slot_dict_getitem.lookup (yj G r1 h1 h2 fun u tk ru=>κ.of (a.to (G.toks tk)) ru h3) hsub
 |tup k=>
  refine cp h fun kvs ks e h1 hk h2 h3=>?_;clear h
  refine bB (mz G.inv r1 h1) fun a' xs q2 w3 zz=>?_;subst q2;obtain⟨o,es,ep,k1,⟨k2,_⟩,_⟩:=w3
  exact tail_any (aP _ k1 k2) PySem.F.slot_dict_getitem.lookup (yi a.DA G r2 hk r1 h1 h2 fun u tk ru=>κ.of (a.to (G.toks tk)) ru h3) hsub
 |_=>exact h.elim
instance{i:Expr}{wi:WE}[h:EX c ns sl o w][h1:EX c ns sl i wi]:EX c ns sl (.Subscript o i pos) (w2 w wi fm):=
 EX.of rfl fun ξ σ Φ q F s Z Q S a κ=>Subscript_ ((h.ok _ _ _ q _ _ _ _ S a fun v s1 d σ1 Z1 a1 z1 r1 q1=>(h1.ok _ _ _ q1 _ _ _ _ S a1 fun i s2 e σ2 Z2 a2 z2 r2 q2=>
  vf h1.form a2 (r1.mono z2) r2 q2 (κ.le (am.le_trans z1 z2)))))
end
section
section
variable{w:World}
theorem kN{sl:Addr}{Q:Int×Int×Nat→Shared→Prop}(hs:s.heap.IsSliceOf sl .none (.int 2 u) .none)(h:Q ((0:Int),1,2) s):
 wpAny (model prog w) A (Builtin.Slice.sliceApplied (.ref sl) (pure ((3:Nat):Int))) Q E s:=by
 refine cz (id hs) fun os hos hcs hds=>?_
 delta Builtin.Slice.sliceApplied Builtin.Slice.sliceFields
 refine wpAny_bind (wpAny_bind (wpAny_field hos hds (x:= .none) rfl (wpAny_bind (wpAny_field hos hds (x:= .int 2 u) rfl (wpAny_bind (wpAny_field hos hds (x:= .none) rfl (wpAny_pure ?_)))))))
 refine wpAny_bind (slicePart_none ?_)
 refine(?_:wpAny _ _ (if((1:Int)==0)=true then _ else _) _ _ s)
 refine wF (by decide) ?_
 refine wpAny_bind (slicePart_none (wpAny_bind (slicePart_int (wpAny_bind (wpAny_pure ?_)))))
 refine(?_:wpAny _ _ (match Builtin.Slice.sliceAdjust none (some (2:Int)) 1 (3:Int)with|(lo,hi)=>pure (lo,(1:Int),Builtin.Slice.slicePlaces lo hi 1)) _ _ s)
 have e:Builtin.Slice.sliceAdjust none (some (2:Int)) 1 (3:Int)=(0,2):=by decide
 refine rE e ?_
 refine(?_:wpAny _ _ (pure ((0:Int),(1:Int),Builtin.Slice.slicePlaces (0:Int) (2:Int) 1)) _ _ s)
 have e2:Builtin.Slice.slicePlaces (0:Int) (2:Int) 1=2:=by decide
 refine rE e2 ?_
 exact wpAny_pure h
theorem kf{t sl:Addr}{a b c:Value}(ht:IsTup s.heap t #[a,b,c])(hs:s.heap.IsSliceOf sl .none (.int 2 u) .none)
 (h:Q (.ref s.heap.objs.size) {s with heap:=s.heap.push {cls:= .type "tuple",data:= .seq #[a,b]}}):wpAny (model prog w) A (getItem (.ref t) (.ref sl)) Q E s:=by
 refine cz (id hs) fun os hos hcs hds=>?_
 have hTs:s.TypeIs (.ref sl) "slice" :=(aP os hos hcs)
 delta getItem
 try with_reducible refine wpAny_holding ?_
 first|refine wpAny_bind (wpAny_pure ?_)|skip
 refine wpAny_bind (wpAny_sequenceKey ht.typeIs (by decide) ?_)
 refine wpAny_bind (wpAny_callSpecial?_slot (name:=ofString "__getitem__") ht.typeIs slot_tuple_getitem
  (wpAny_call_entry slot_tuple_getitem ht.typeIs entry_tuple_getitem ?_ (args_tuple_getitem _ _)))
 refine(?_:wpAny _ _ (Builtin.Tuple.tupleItemsOf (.ref t)>>=_) _ _ s)
 refine wpAny_bind (tupleItemsOf_ ht ?_)
 refine wpAny_bind (wpAny_typeOf hTs ?_)
 refine wT (by decide) ?_
 refine wpAny_bind (kN hs ?_)
 refine(?_:wpAny _ _ (if((0:Int)==0&&(1:Int)==1&&(2:Nat)==3)=true then _ else _) _ _ s)
 refine wF (by decide) ?_
 have e:((List.range 2).filterMap fun(k:Nat)=> #[a,b,c][((0:Int)+(k:Int)*1).toNat]?).toArray= #[a,b]:=by rfl
 refine rE e ?_
 have hdrop:sizeOk (.seq #[a,b]):=by refine(?_:2≤2^24);decide
 first
  |exact wpAny_bind (m:=Builtin.Tuple.tupleExact _) (wpAny_newObj_type (wpAny_pure (aP _ rfl (wpAny_pure h))) hdrop)
  |exact wpAny_bind (m:=Builtin.Tuple.tupleExact _) (wpAny_newObj_type (wpAny_bind (wpAny_pure (wpAny_pure ⟨_,rfl,wpAny_pure h⟩))) hdrop)
  |exact wpAny_bind (wpAny_bind (m:=Builtin.Tuple.tupleExact _) (wpAny_newObj_type (wpAny_pure (wpAny_pure ⟨_,rfl,wpAny_pure h⟩)) hdrop))
  |exact wpAny_bind (wpAny_bind (m:=Builtin.Tuple.tupleExact _) (wpAny_newObj_type (wpAny_pure ⟨_,rfl,wpAny_pure h⟩) hdrop))
end
section
def zJ:WO:=fun zz ds σ Φ=>yz ds fun d e=>on (fY e) fun j=>match fW d with
 |some x=>Φ (.str (Txt.slice x none (some j))) σ
 |none=>on (iU d) fun ts=>B3 ts fun a b zz=>j=2∧Φ (.tup [a,b]) σ
def BA:WO:=fun zz ds σ Φ=>yz ds fun d e=>on (fW d) fun x=>on (fY e) fun j=>Φ (.str (Txt.slice x (some j) none)) σ
instance{u:Expr}{w wu:WE}[h:EX c ns sl o w][h1:EX c ns sl u wu]:EX c ns sl (.Subscript o (.Slice none (some u) none p) pos) (w2 w wu zJ):=
 EX.of rfl fun ξ σ Φ q F s Z Q S a κ=>Subscript_ (h.ok _ _ _ q _ _ _ _ S a fun v s1 d σ1 Z1 a1 z1 r1 q1=>by
  refine wpAny_Slice (wpAny_pure (h1.ok _ _ _ q1 _ _ _ _ S a1 fun i s2 e σ2 Z2 a2 z2 r2 q2=>wpAny_pure ?_))
  have r1':=r1.mono z2
  refine aF (fk q2) fun j hj q3=>?_
  clear q2
  cases cG hj
  refine oS (o:=fW d) (fun x q=>?_) fun q=>?_
  ·skip
   rw[q]at q3
   cases dL q
   cases r2 using aw.CW
   cases r1' using aw.CV with
   |str _ hx=>
    obtain⟨T,id,k1,k2,k3⟩:=uB (Q:=Q) (E:=F.E) (A:=F.A) a2.gs hx ((κ.le (am.le_trans z1 z2)).y a2 q3)
    exact tail_any k2 k1 k3 rfl
  ·skip
   rw[q]at q3
   refine aF (fk q3) fun ts ht q4=>?_
   obtain⟨a',b',c',rfl,rfl,q2⟩:=rZ q4
   clear q3 q4
   cases jL ht
   obtain⟨u,rfl⟩:∃u,i= .int 2 u:=by cases r2 using aw.CW;exact(iE _ rfl)
   refine be (io a2.gs.inv r1' rfl) fun ta to w2 m q4 k1 k2 k3 k4=>?_;obtain⟨vs⟩:=w2;subst q4
   refine cp (k4.GV) fun v1 v2 v3 q3 x1 x2 x3=>?_;subst q3
   have hT:IsTup s2.heap ta _:=(fq _ k1 k2 m k3)
   have hT':IsTup (s2.heap.push (g9 .none (.int 2 u))) ta _:=hT.keeps fun zz zz e=>Heap.get?_push_of_some _ e
   have G3:=a2.gs.Dh (g9 .none (.int 2 u)) s2.toks
   obtain⟨z3,G4⟩:=G3.push {cls:= .type "tuple",data:= .seq #[_,_]} s2.toks
   refine tail_any (s:={s2 with heap:=s2.heap.push (g9 .none (.int 2 u))}) hT'.typeIs slot_tuple_getitem.lookup (kf hT' (Heap.IsSliceOf.new ..) ?_) rfl
   exact κ _ _ _ σ2 _ (a.to G4) (am.le_trans z1 (am.le_trans z2 z3)) (.tup (am.CN _ _ _) rfl rfl (.cons (x1.mono z3) (.cons (x2.mono z3) .nil))) q2)
instance{l:Expr}{w:WE}[h:EX c ns sl o w][h1:EX c ns sl l wl]:EX c ns sl (.Subscript o (.Slice (some l) none none p) pos) (w2 w wl BA):=
 EX.of rfl fun ξ σ Φ q F s Z Q S a κ=>Subscript_ (h.ok _ _ _ q _ _ _ _ S a fun v s1 d σ1 Z1 a1 z1 r1 q1=>by
  refine wpAny_Slice (h1.ok _ _ _ q1 _ _ _ _ S a1 fun i s2 e σ2 Z2 a2 z2 r2 q2=>wpAny_pure (wpAny_pure ?_))
  have r1':=r1.mono z2
  refine aF (fk q2) fun x hx q2=>?_
  refine aF (fk q2) fun j hj q2=>?_
  cases dL hx;cases cG hj
  cases r2 using aw.CW
  cases r1' using aw.CV with
  |str _ hx=>
   obtain⟨T,id,k1,k2,k3⟩:=uA (Q:=Q) (E:=F.E) (A:=F.A) a2.gs hx ((κ.le (am.le_trans z1 z2)).y a2 q2)
   exact tail_any k2 k1 k3 rfl)
def zZ(wa wb wd:WE):WE:=fun c ξ σ Φ=>wa c ξ σ fun d σ1=>wb c ξ σ1 fun e σ2=>match d,e with
 | .str x,.str y=>if iP x y=true then wd c ξ σ2 fun f σ3=>(match f with| .str z=>Φ (.bool (iP y z)) σ3|_=>False)else Φ (.bool false) σ2
 |_,_=>False
instance{l m r:Expr}[h1:EX c ns sl l wa][h2:EX c ns sl m wb][h3:EX c ns sl r wd]:EX c ns sl (.Compare l [.LtE,.LtE] [m,r] pos) (zZ wa wb wd):=
 EX.of rfl fun ξ σ Φ q F s Z Q S a κ=>by
  have hm:markedEach [CmpOp.LtE,.LtE] [m,r] (evalEach [m,r] F.env)=[eval m F.env,eval r F.env]:=by
   refine(?_:[eval m F.env,markedBehindIn .LtE r (eval r F.env)]=_)
   exact rE (markedBehindIn_of_false (jz h3.form _)) rfl
  refine(?_:wpAny cx.M F.A (eval l F.env>>=fun lv=>compareChain pos lv [.LtE,.LtE] (markedEach [CmpOp.LtE,.LtE] [m,r] (evalEach [m,r] F.env))) _ F.E s)
  refine rE hm ?_
  refine wpAny_bind ((h1.ok _ _ _ q _ _ _ _ S a fun v s1 d σ1 Z1 a1 z1 r1 q1=>?_))
  refine(?_:wpAny cx.M F.A (do
   let rv←holding [v] (eval m F.env)
   standAt pos
   let c←holding [v,rv] (compareOp .LtE v rv)
   release [v,rv] [c]
   if←holding [c,rv] (truthy c)then compareChain pos rv [.LtE] [eval r F.env]else pure c) _ F.E s1)
  refine wpAny_bind (wpAny_holding ((h2.ok _ _ _ q1 _ _ _ _ S a1 fun rv s2 e σ2 Z2 a2 z2 r2 q2=>?_)))
  have r1':=r1.mono z2
  obtain⟨x,rfl⟩:∃x,d= .str x:=by cases d<;>first|exact(iE _ rfl)|exact False.elim q2
  obtain⟨y,rfl⟩:∃x,e= .str x:=by cases e<;>first|exact(iE _ rfl)|exact False.elim q2
  cases r1' using aw.CV with
  |str t1 hx=>
   cases r2 using aw.CV with
   |str t2 hy=>
    refine wpAny_bind (wpAny_standAt (wpAny_bind (wpAny_holding (vY ?_))))
    refine wpAny_bind (wpAny_release ?_)
    refine wpAny_bind (wpAny_holding (wpAny_truthy_bool ?_))
    have q2:if iP x y=true then wd c ξ σ2 (fun f σ3=>(match f with| .str z=>Φ (.bool (iP y z)) σ3|_=>False))else Φ (.bool false) σ2:=q2
    by_cases hb:iP x y=true
    ·rw[if_pos hb]at q2
     have hb':(!decide (y.cps.toList<x.cps.toList))=true:=hb
     refine wT hb' ?_
     refine(?_:wpAny cx.M F.A (do
      let rv'←holding [.str y t2] (eval r F.env)
      standAt pos
      operate [.str y t2,rv'] (compareOp .LtE (.str y t2) rv')) _ F.E s2)
     refine wpAny_bind (wpAny_holding ((h3.ok _ _ _ q2 _ _ _ _ S a2 fun w s3 f σ3 Z3 a3 z3 r3 q3=>?_)))
     cases f<;>first|exact False.elim q3|skip
     cases r3 using aw.CV
     exact wpAny_bind (wpAny_standAt (wpAny_operateT (vY (κ _ _ _ σ3 Z3 a3 (am.le_trans z1 (am.le_trans z2 z3)) (.bool _) q3))))
    ·rw[if_neg hb]at q2
     have hb':¬(!decide (y.cps.toList<x.cps.toList))=true:=hb
     refine wF hb' ?_
     have hb2:(!decide (y.cps.toList<x.cps.toList))=false:=by simpa using hb'
     exact wpAny_pure (κ _ _ _ σ2 Z2 a2 (am.le_trans z1 z2) (by exact rE hb2 (.bool _)) q2)
end
end
section
abbrev WT:=Ct→D→Lo→af→(Lo→af→Prop)→Prop
abbrev xD:=Ct→List D→Lo→af→(Lo→af→Prop)→Prop
def KT(c:Ct)(F:Fr)(sl:List Str)(Z:am)(Φ:Lo→af→Prop)(Q:Unit→Shared→Prop):Prop:=
 ∀s' ξ' σ' Z',At c F sl s' σ' Z' ξ'→Z.le Z'→Φ ξ' σ'→Q () s'
def KS(c:Ct)(F:Fr)(sl:List Str)(Z:am)(Φ:Fl→Lo→af→Prop)(Q:Flow→Shared→Prop):Prop:=
 ∀f s' fl ξ' σ' Z',At c F sl s' σ' Z' ξ'→Z.le Z'→mQ Z' f fl→Φ fl ξ' σ'→Q f s'
class TX(c:Ct)(ns:NK)(sl:List Str)(t:Expr)(w:outParam WT):Prop where
 form:∀rest env,assignEach (t::rest) env=(false,assign t env)::assignEach rest env
 ok:∀d ξ σ Φ,w c d ξ σ Φ→∀F s Z v Q,ge F.env ns sl→At c F sl s σ Z ξ→aw Z v d→KT c F sl Z Φ Q→wpAny cx.M F.A (assign t F.env v) Q F.E s
class B1(c:Ct)(ns:NK)(sl:List Str)(ts:List Expr)(k:outParam Nat)(w:outParam xD):Prop where
 len:∀env,(assignEach ts env).length=k
 star:∀env,(assignEach ts env).all (fun x=> !x.1)=true
 ok:∀ds ξ σ Φ,w c ds ξ σ Φ→∀F s Z vs Q,ge F.env ns sl→At c F sl s σ Z ξ→aB Z vs ds→KT c F sl Z Φ Q→wpAny cx.M F.A (assignInOrder ((assignEach ts F.env).map (·.2)) vs) Q F.E s
class rx(c:Ct)(ns:NK)(sl:List Str)(st:Stmt)(w:outParam WS):Prop where
 ok:∀ξ σ Φ,w c ξ σ Φ→∀F s Z Q,ge F.env ns sl→At c F sl s σ Z ξ→KS c F sl Z Φ Q→wpAny cx.M F.A (exec st F.env) Q F.E s
class SX(c:Ct)(ns:NK)(sl:List Str)(st:List Stmt)(w:outParam WS):Prop where
 ok:∀ξ σ Φ,w c ξ σ Φ→∀F s Z Q,ge F.env ns sl→At c F sl s σ Z ξ→KS c F sl Z Φ Q→wpAny cx.M F.A (execs st F.env) Q F.E s
section
section
variable{F:Fr}
theorem KT.le{Φ:Lo→af→Prop}{Q:Unit→Shared→Prop}(k:KT c F sl Z Φ Q)(hz:Z.le Z1):KT c F sl Z1 Φ Q:=fun s' ξ' σ' Z' a z=>k s' ξ' σ' Z' a (am.le_trans hz z)
theorem KS.le{Φ:Fl→Lo→af→Prop}{Q:Flow→Shared→Prop}(k:KS c F sl Z Φ Q)(hz:Z.le Z1):KS c F sl Z1 Φ Q:=fun f s' fl ξ' σ' Z' a z=>k f s' fl ξ' σ' Z' a (am.le_trans hz z)
theorem KT.of{Φ:Lo→af→Prop}{Q:Unit→Shared→Prop}(k:KT c F sl Z Φ Q)(a:At c F sl s σ Z ξ)(h:Φ ξ σ):Q () s:=k _ _ _ _ a (am.le_refl _) h
theorem KS.of{Φ:Fl→Lo→af→Prop}{Q:Flow→Shared→Prop}(k:KS c F sl Z Φ Q){f:Flow}(a:At c F sl s σ Z ξ)(r:mQ Z f fl)(h:Φ fl ξ σ):Q f s:=k _ _ _ _ _ _ a (am.le_refl _) r h
end
class di(ns:NK)(x:Str):Prop where
 h:∃k,(x,k)∈ns∧(k= .local∨k= .cell)
instance(priority:=high):di ((x,.local)::ns) x:=⟨_,.head _,.inl rfl⟩
instance(priority:=high):di ((x,.cell)::ns) x:=⟨_,.head _,.inr rfl⟩
instance{y:Str×NameKind}[j:di ns x]:di (y::ns) x:=⟨let⟨k,a,b⟩:=j.h;⟨k,.tail _ a,b⟩⟩
theorem di.Es(o:di ns x)(S:ge env ns sl):env.kindOf x≠some .free:=by
 refine aF (o.h) fun k a b=>?_
 refine rE (S.Fk x k a (by rcases b with rfl|rfl<;>decide)) ?_
 rcases b with rfl|rfl<;>decide
def c8(i:Nat):WT:=fun zz d ξ σ Φ=>Φ (ξ.set i (some d)) σ
instance[k:eN sl x i][o:di ns x]:TX c ns sl (.Name x pos) (c8 i):=
 ⟨fun zz zz=>rfl,fun d ξ σ Φ q F s Z v Q S a r κ=>by
  refine(?_:wpAny cx.M F.A (do standAt pos;bindName F.env x v) _ F.E s)
  exact wpAny_bind (wpAny_standAt (tg S.fs a.gs k.h (o.Es S) r fun s' g=>κ.of (a.to g) q))⟩
def rD:xD:=fun zz ds ξ σ Φ=>ds=[]∧Φ ξ σ
def fV(w:WT)(ws:xD):xD:=fun c ds ξ σ Φ=>match ds with
 |d::ds=>w c d ξ σ fun ξ1 σ1=>ws c ds ξ1 σ1 Φ
 |[]=>False
instance:B1 c ns sl [] 0 rD:=⟨fun zz=>rfl,fun zz=>rfl,fun ds ξ σ Φ q F s Z vs Q S a r κ=>by
 revert q;refine fun h0=>xA h0 fun q0 q=>?_;clear h0;subst q0;cases r using aB.Da;exact wpAny_assignInOrder_none (κ.of a q)⟩
instance{t:Expr}{w:WT}{ws:xD}[h:TX c ns sl t w][h1:B1 c ns sl ts k ws]:B1 c ns sl (t::ts) (k+1) (fV w ws):=
 ⟨fun env=>by exact rE (h.form _ _) (rE List.length_cons (rE (h1.len _) rfl)),fun env=>by refine rE (h.form _ _) ?_;exact h1.star env,fun ds ξ σ Φ q F s Z vs Q S a r κ=>by
  cases r with
  |nil=>exact q.elim
  |cons r1 r=>
   refine rE (h.form _ _) ?_
   exact wpAny_assignInOrder_more (h.ok _ _ _ _ q _ _ _ _ _ S a r1 fun s1 ξ1 σ1 Z1 a1 z1 q1=>h1.ok _ _ _ _ q1 _ _ _ _ _ S a1 (r.mono z1) (κ.le z1))⟩
def rC(k:Nat)(ws:xD):WT:=fun c d ξ σ Φ=>match d with
 | .tup ds=>ds.length=k∧ws c ds ξ σ Φ
 |_=>False
instance{ws:xD}[h:B1 c ns sl ts k ws]:TX c ns sl (.Tuple ts j pos) (rC k ws):=
 ⟨fun zz zz=>rfl,fun d ξ σ Φ q F s Z v Q S a r κ=>by
  obtain⟨ds,rfl⟩:∃ds,d= .tup ds:=by cases d<;>first|exact(iE _ rfl)|exact False.elim q
  revert q;refine fun h0=>xA h0 fun hl q=>?_;clear h0
  refine be (io a.gs.inv r rfl) fun ta o vs m q4 k1 k2 k3 k4=>?_;subst q4
  have hl2:=k4.length
  simp only[Array.length_toList]at hl2
  have hstar:(assignEach ts F.env).findIdx? (·.1)=none:=by
   refine rE (propext (List.findIdx?_eq_none_iff)) ?_
   have:=h.star F.env
   rw[List.all_eq_true]at this
   intro x hx
   simpa using this x hx
  refine wpAny_assign_Tuple a.DA.handled (items:=vs) (fq o k1 k2 m k3) (by refine rE (h.len _) ?_;lia) hstar fun h' he=>?_
  have g':GS F.A F.env sl F.s0 F.CP F.Z0 {s with heap:=h'} σ Z ξ:=a.gs.keeps (t:=s.toks) fun b o e=>he b o (Nat.ne_of_lt (Heap.lt_size e)) e
  exact h.ok _ _ _ _ q _ _ _ _ _ S (a.to g') k4 κ⟩
def Bw:D→D→D→af→(af→Prop)→Prop:=fun o i v σ Φ=>match i with
 | .int k=>∃a xs,kO σ o=some (a,xs)∧(0≤k∧k<2^63∧k<xs.length)∧Φ (σ.put a (.lst (xs.set k.toNat v)))
 | .str x=>∃a kvs,uQ σ o=some (a,kvs)∧kvs.length≤1048576∧Φ (σ.put a (.dS (put kvs x v)))
 | .tup ks=>∃a kvs k,wz σ o=some (a,kvs)∧ip (.tup ks)=some k∧kvs.length≤1048576∧Φ (σ.put a (.dT (put kvs k v)))
 |_=>False
def xP(w wi:WE):WT:=fun c d ξ σ Φ=>w c ξ σ fun o σ1=>wi c ξ σ1 fun i σ2=>Bw o i d σ2 fun σ3=>Φ ξ σ3
instance{i:Expr}{wi:WE}[h:EX c ns sl o w][h1:EX c ns sl i wi]:TX c ns sl (.Subscript o i pos) (xP w wi):=
 ⟨fun zz zz=>rfl,fun d ξ σ Φ q F s Z v Q S a r κ=>by
  have hf:=h1.form
  refine rE (assign_Subscript _ _ _ _) ?_
  refine wpAny_bind (wpAny_holding (h.ok _ _ _ q _ _ _ _ S a fun ov s1 od σ1 Z1 a1 z1 r1 q1=>?_))
  refine wpAny_bind (wpAny_holding (h1.ok _ _ _ q1 _ _ _ _ S a1 fun iv s2 id σ2 Z2 a2 z2 r2 q2=>?_))
  have z:=am.le_trans z1 z2
  have rv:=r.mono z
  have ro:=r1.mono z2
  have fin:∀s3 σ3,GS F.A F.env sl F.s0 F.CP F.Z0 s3 σ3 Z2 ξ→Φ ξ σ3→Q () s3:=fun s3 σ3 g q=>κ _ _ _ _ (a.to g) z q
  refine wpAny_bind (wpAny_standAt (wpAny_bind (wpAny_holding ?_)))
  dsimp only at q2
  delta Bw at q2
  cases id<;>first|exact False.elim q2|skip
  ·rename_i k
   refine bB q2 fun b xs e1 e2 q3=>?_;clear q2
   refine xA (kS e1) fun e hh=>?_
   subst e;cases ro using aw.C5;cases r2 using aw.CW
   exact An a2.gs hh rv e2.1 e2.2.1 e2.2.2 fun s3 g3=>wpAny_release (fin _ _ g3 q3)
  ·rename_i x
   refine bB q2 fun b kvs e1 e2 q3=>?_;clear q2
   refine xA (tm e1) fun e hh=>?_
   subst e;cases ro using aw.C5
   cases r2 using aw.CV with
   |str _ hx=>exact ya hx a2.gs hh rv e2 fun s3 g3=>wpAny_release (fin _ _ g3 q3)
  ·rename_i ks
   refine cp q2 fun b kvs k e1 ek e2 q3=>?_;clear q2
   refine xA (yr e1) fun e hh=>?_
   subst e;cases ro using aw.C5
   exact xZ a.DA a2.gs r2 ek hh rv e2 fun s3 g3=>wpAny_release (fin _ _ g3 q3)⟩
noncomputable def uR(σ:af):D→Option (Addr×Addr×List (Str×D))
 | .ref a=>match σ a with
   |some (.ins C da)=>match σ da with
    |some (.ns fs)=>some (C,da,fs)
    |_=>none
   |_=>none
 |_=>none
set_option tactic.hygienic true in
theorem yt{q:Prop}(h:uR σ d=some (C,da,fs))(k:∀a,d= .ref a→σ a=some (.ins C da)→σ da=some (.ns fs)→q):q:=by
 cases d<;>first|(exact nS h;done)|skip
 rename_i a
 delta uR at h
 dsimp only at h
 split at h
 ·rename_i e;split at h
  ·rename_i e2;cases h;exact k _ rfl e e2
  ·exact nS h
 ·exact nS h
def sU(w:WE)(x:Str):WT:=fun c d ξ σ Φ=>w c ξ σ fun o σ1=>∃C da fs,uR σ1 o=some (C,da,fs)∧fs.length≤1000∧kA cx.K C x=true∧Φ ξ (σ1.put da (.ns (put fs x d)))
instance[h:EX c ns sl o w]:TX c ns sl (.Attribute o x pos) (sU w x):=
 ⟨fun zz zz=>rfl,fun d ξ σ Φ q F s Z v Q S a r κ=>by
  refine rE (arm_assign_Attribute _ _ _ _ _) ?_
  refine wpAny_bind (wpAny_holding (h.ok _ _ _ q _ _ _ _ S a fun ov s1 od σ1 Z1 a1 z1 r1 w=>?_))
  refine cp w fun C da fs e1 e2 e3 q1=>?_
  refine wpAny_bind (wpAny_standAt (wpAny_bind (wpAny_holding ?_)))
  refine yt e1 fun b k1 k2 k3=>?_
  subst k1
  cases r1 using aw.C5
  exact uC a1.gs k2 k3 (r.mono z1) e2 e3 fun s2 g2=>wpAny_release (κ _ _ _ _ (a.to g2) z1 q1)⟩
def vS:WS:=fun zz ξ σ Φ=>Φ .next ξ σ
def fF(w ws:WS):WS:=fun c ξ σ Φ=>w c ξ σ fun fl ξ1 σ1=>match fl with
 | .next=>ws c ξ1 σ1 Φ
 |fl=>Φ fl ξ1 σ1
instance:SX c ns sl [] vS:=⟨fun ξ σ Φ q F s Z Q S a κ=>wpAny_execs_nil (κ.of a .next q)⟩
instance{st:Stmt}{rest:List Stmt}{w ws:WS}[h:rx c ns sl st w][h1:SX c ns sl rest ws]:SX c ns sl (st::rest) (fF w ws):=
 ⟨fun ξ σ Φ q F s Z Q S a κ=>wpAny_execs_cons (h.ok _ _ _ q _ _ _ _ S a fun f s1 fl ξ1 σ1 Z1 a1 z1 r1 q1=>by
  cases r1 with
  |next=>exact h1.ok _ _ _ q1 _ _ _ _ S a1 (κ.le z1)
  |brk=>exact κ _ _ _ _ _ _ a1 z1 .brk q1
  |cont=>exact κ _ _ _ _ _ _ a1 z1 .cont q1
  |ret r=>exact κ _ _ _ _ _ _ a1 z1 (.ret r) q1)⟩
class sK(e:Expr):Prop where
 ok:zC e=true
instance:sK (.Name x p):=⟨rfl⟩
instance{f:Expr}:sK (.Call f as kw p):=⟨rfl⟩
instance{k:Const}:sK (.Constant k j p):=⟨rfl⟩
instance{l r:Expr}{op:Operator}:sK (.BinOp l op r p):=⟨rfl⟩
instance{x:Expr}{op:UnaryOp}:sK (.UnaryOp op x p):=⟨rfl⟩
instance{t a b:Expr}:sK (.IfExp t a b p):=⟨rfl⟩
instance:sK (.List es p):=⟨rfl⟩
instance:sK (.Tuple es k p):=⟨rfl⟩
instance{ks:List (Option Expr)}{vs:List Expr}:sK (.Dict ks vs p):=⟨rfl⟩
instance:sK (.Attribute o x p):=⟨rfl⟩
instance{i:Expr}:sK (.Subscript o i p):=⟨rfl⟩
instance{op:BoolOp}:sK (.BoolOp op es p):=⟨rfl⟩
instance{l:Expr}{ops:List CmpOp}:sK (.Compare l ops es p):=⟨rfl⟩
def bj(w:WE)(t:WT):WS:=fun c ξ σ Φ=>w c ξ σ fun d σ1=>t c d ξ σ1 fun ξ2 σ2=>Φ .next ξ2 σ2
theorem gu{F:Fr}{t e:Expr}{wt:WT}{Φ:Fl→Lo→af→Prop}{Q:Flow→Shared→Prop}(h:EX c ns sl e w)(h1:TX c ns sl t wt)(hs:swapsWith e (some t) pos.line F.env=pure false)(hw:swappedStores [t] e F.env=pure none)(S:ge F.env ns sl)(a:At c F sl s σ Z ξ)
 (q:bj w wt c ξ σ Φ) (κ:KS c F sl Z Φ Q):wpAny cx.M F.A (exec (.Assign [t] e pos) F.env) Q F.E s:=by
 refine wpAny_Assign_stores (h.ok _ _ _ q _ _ _ _ S a fun v s1 d σ1 Z1 a1 z1 r1 q1=>?_) hs hw
 refine rE (h1.form _ _) ?_
 refine(?_:wpAny cx.M F.A (assign t F.env v) _ F.E s1)
 exact h1.ok _ _ _ _ q1 _ _ _ _ _ S a1 r1 fun s2 ξ2 σ2 Z2 a2 z2 q2=>κ _ _ _ _ _ _ a2 (am.le_trans z1 z2) .next q2
instance{e:Expr}{wt:WT}[sw:sK e][h:EX c ns sl e w][h1:TX c ns sl (.Name x p) wt]:rx c ns sl (.Assign [.Name x p] e pos) (bj w wt):=
 ⟨fun ξ σ Φ q F s Z Q S a κ=>gu h h1 (pZ sw.ok _ _ _) rfl S a q κ⟩
instance{i:Expr}{e:Expr}{wt:WT}[h:EX c ns sl e w][h1:TX c ns sl (.Subscript o i p) wt]:rx c ns sl (.Assign [.Subscript o i p] e pos) (bj w wt):=
 ⟨fun ξ σ Φ q F s Z Q S a κ=>gu h h1 (by cases e<;>rfl) rfl S a q κ⟩
instance{e:Expr}{wt:WT}[h:EX c ns sl e w][h1:TX c ns sl (.Attribute o x p) wt]:rx c ns sl (.Assign [.Attribute o x p] e pos) (bj w wt):=
 ⟨fun ξ σ Φ q F s Z Q S a κ=>gu h h1 (by cases e<;>rfl) rfl S a q κ⟩
instance{f:Expr}{wt:WT}[h:EX c ns sl (.Call f as [] p2) w][h1:TX c ns sl (.Tuple ts k p) wt]:rx c ns sl (.Assign [.Tuple ts k p] (.Call f as [] p2) pos) (bj w wt):=
 ⟨fun ξ σ Φ q F s Z Q S a κ=>gu h h1 rfl rfl S a q κ⟩
def ni(w:WE):WS:=fun c ξ σ Φ=>w c ξ σ fun zz σ1=>Φ .next ξ σ1
theorem gR(S:ge env ns sl):interactive env=false:=by
 delta interactive;exact rE S.fs.fn rfl
instance{e:Expr}[sw:sK e][h:EX c ns sl e w]:rx c ns sl (.Expr e pos) (ni w):=
 ⟨fun ξ σ Φ q F s Z Q S a κ=>wpAny_Expr_any (h.ok _ _ _ q _ _ _ _ S a fun v s1 d σ1 Z1 a1 z1 r1 q1=>κ _ _ _ _ _ _ a1 z1 .next q1) (gR S) (pZ sw.ok _ _ _)⟩
def Ai(w:WE):WS:=fun c ξ σ Φ=>w c ξ σ fun d σ1=>Φ (.ret d) ξ σ1
instance{e:Expr}[h:EX c ns sl e w]:rx c ns sl (.Return (some e) pos) (Ai w):=
 ⟨fun ξ σ Φ q F s Z Q S a κ=>wpAny_Return_some (h.ok _ _ _ q _ _ _ _ S a fun v s1 d σ1 Z1 a1 z1 r1 q1=>κ _ _ _ _ _ _ a1 z1 (.ret r1) q1)⟩
def zF:WS:=fun zz ξ σ Φ=>Φ .cont ξ σ
instance:rx c ns sl (.Continue pos) zF:=
 ⟨fun ξ σ Φ q F s Z Q S a κ=>wpAny_Continue (κ.of a .cont q)⟩
def xT(t:WC)(a b:WS):WS:=fun c ξ σ Φ=>t c ξ σ fun x σ1=>if x=true then a c ξ σ1 Φ else b c ξ σ1 Φ
instance{t:Expr}{as bs:List Stmt}{w:WC}{wa wb:WS}[h:CX c ns sl t w][h1:SX c ns sl as wa][h2:SX c ns sl bs wb]:rx c ns sl (.If t as bs pos) (xT w wa wb):=
 ⟨fun ξ σ Φ q F s Z Q S a κ=>wpAny_If (h.ok _ _ _ q _ _ _ _ S a fun x s1 x' σ1 Z1 a1 z1 r1 q1=>by
  subst r1
  cases x
  ·exact h2.ok _ _ _ q1 _ _ _ _ S a1 (κ.le z1)
  ·exact h1.ok _ _ _ q1 _ _ _ _ S a1 (κ.le z1))⟩
def vC(t:WT)(b:WS)(c:Ct):D→Lo→af→(Fl→Lo→af→Prop)→Prop:=fun d ξ σ Ψ=>t c d ξ σ fun ξ1 σ1=>b c ξ1 σ1 Ψ
def xU(wi:WE)(t:WT)(b:WS):WS:=fun c ξ σ Φ=>wi c ξ σ fun d σ1=>(∀a,d≠ .ref a)∧∃items,eL σ1 d=some items∧items.length≤1048576∧iM (vC t b c) items ξ σ1 Φ
theorem xK{t:Expr}{wt:WT}{wb:WS}(h1:TX c ns sl t wt)(h2:SX c ns sl body wb)(S:ge env ns sl)(R:jl A c.n):xv c.C A env sl t body c.X (vC wt wb c):=fun d ξ σ Ψ q s Z v E r G hE=>
 h1.ok _ _ _ _ q ⟨A,env,_,_,_,E⟩ _ _ _ _ S ⟨R,G,hE⟩ r fun s1 ξ1 σ1 Z1 a1 z1 q1=>h2.ok _ _ _ q1 ⟨A,env,_,_,_,E⟩ _ _ _ S a1 fun f s2 fl ξ2 σ2 Z2 a2 z2 r2 q2=>(dU fl ξ2 σ2 Z2 a2.gs (am.le_trans z1 z2) ⟨r2,q2⟩)
instance{t it:Expr}{wi:WE}{wt:WT}{wb:WS}[h:EX c ns sl it wi][h1:TX c ns sl t wt][h2:SX c ns sl body wb]:rx c ns sl (.For t it body [] pos) (xU wi wt wb):=
 ⟨fun ξ σ Φ q F s Z Q S a κ=>wpAny_For (h.ok _ _ _ q _ _ _ _ S a fun v s1 d σ1 Z1 a1 z1 r1 w0=>mS w0 fun hn items hi hz q1=>by
  refine oJ a.DA a1.gs r1 hn hi hz fun I P St fp s2 g2 hI hit hst=>?_
  refine w7 (xK h1 h2 S a.DA) g2 ?_ hit hst a.err a.err.1 q1 fun f s' fl ξ' σ' Z' g z r q=>κ _ _ _ _ _ _ (a.to g) (am.le_trans z1 z) r q
  have:=ax.fresh a1.gs hI
  exact⟨this.new,this.own,this.zone,this.mine,this.fr⟩) (iD h.form F.env)⟩
def gw(t:WC)(b:WS):Nat→WS
 |0=>fun zz zz zz zz=>False
 |n+1=>fun c ξ σ Φ=>t c ξ σ fun x σ1=>if x=true then b c ξ σ1 fun fl ξ2 σ2=>(match fl with
   | .next=>gw t b n c ξ2 σ2 Φ
   | .cont=>gw t b n c ξ2 σ2 Φ
   | .brk=>Φ .next ξ2 σ2
   | .ret d=>Φ (.ret d) ξ2 σ2)else Φ .next ξ σ1
def Ah(t:WC)(b:WS):WS:=fun c ξ σ Φ=>∃n,gw t b n c ξ σ Φ
instance{t:Expr}{w:WC}{wb:WS}[h:CX c ns sl t w][h2:SX c ns sl body wb]:rx c ns sl (.While t body [] pos) (Ah w wb):=
 ⟨fun ξ σ Φ q F s Z Q S a κ=>by
  revert q;refine fun h0=>xE h0 fun n q=>?_;clear h0
  refine wpAny_While (codeAny_whileLoop (fun k s1=>∃ξ1 σ1 Z1,At c F sl s1 σ1 Z1 ξ1∧Z.le Z1∧gw w wb k c ξ1 σ1 Φ) ?_ n (ii ξ σ Z a (am.le_refl _) q))
  rintro k s1 ⟨ξ1,σ1,Z1,a1,z1,q1⟩
  cases k with
  |zero=>exact q1.elim
  |succ k=>
   refine wpAny_mono (h.ok _ _ _ q1 _ _ _ _ S a1 fun x s2 x' σ2 Z2 a2 z2 r2 q2=>?_) (fun zz zz x=>x) a.err.1
   subst r2
   cases x
   ·exact wpAny_execs_nil (κ _ _ _ _ _ _ a2 (am.le_trans z1 z2) .next q2)
   ·refine wpAny_mono (h2.ok _ _ _ q2 _ _ _ _ S a2 fun f s3 fl ξ3 σ3 Z3 a3 z3 r3 q3=>?_) (fun zz zz x=>x) a.err.1
    have z:=am.le_trans z1 (am.le_trans z2 z3)
    cases r3 with
    |next=>exact(aP k (Nat.lt_succ_self k) (ii ξ3 σ3 Z3 a3 z q3))
    |cont=>exact(aP k (Nat.lt_succ_self k) (ii ξ3 σ3 Z3 a3 z q3))
    |brk=>exact κ _ _ _ _ _ _ a3 z .next q3
    |ret r=>exact κ _ _ _ _ _ _ a3 z (.ret r) q3⟩
end
end
variable{wt D3 tt:WT}
class NC(e:Expr):Prop where
 ok:constantsAlone 8 e=false
instance{f:Expr}:NC (.Call f as kw p):=⟨rfl⟩
instance:NC (.List es p):=⟨rfl⟩
instance{ks:List (Option Expr)}{vs:List Expr}:NC (.Dict ks vs p):=⟨rfl⟩
instance{e:Expr}:NC (.ListComp e gs sc p):=⟨rfl⟩
theorem oB{α:Type}{p:Prop}[Decidable p]{a b c:α}(h:¬p→c=a∨c=b):(if p then a else c)=a∨(if p then a else c)=b:=by
 by_cases q:p
 ·exact .inl (if_pos q)
 ·exact rE (if_neg q) (h q)
inductive ri:List Expr→List Str→Prop
 |nil:ri [] []
 |cons (x:Str) (p:Pos) {ts:List Expr} {xs:List Str}:ri ts xs→ri (.Name x p::ts) (x::xs)
theorem BQ{f:Expr→Option Str}{xs:List Str}(hf:∀x p,f (.Name x p)=some x∨f (.Name x p)=none)(h:ri ts xs):(ts.filterMap f).length≤ts.length∧((ts.filterMap f).length=ts.length→ts.filterMap f=xs):=by
 induction h with
 |nil=>exact⟨Nat.le_refl _,fun zz=>rfl⟩
 |cons x p _ ih=>
  rcases hf x p with e|e
  ·exact rE (List.filterMap_cons_some e) ⟨Nat.succ_le_succ ih.1,fun q=>congrArg (x::·) (ih.2 (Nat.succ.inj q))⟩
  ·exact rE (List.filterMap_cons_none e) ⟨Nat.le_succ_of_le ih.1,fun q=>absurd (q▸ih.1) (Nat.not_succ_le_self _)⟩
theorem sW{xs:List Str}{tp:Pos}{k2:Nat}(h:ri ts xs)(hc:es.all (constantsAlone 8)=false):
 swappedStores [.Tuple ts k tp] (.Tuple es k2 p2) env=pure none∨swappedStores [.Tuple ts k tp] (.Tuple es k2 p2) env=pure (some xs):=by
 delta swappedStores
 dsimp only
 refine oB fun zz=>oB fun zz=>oB fun q=>oB fun zz=>?_
 refine rE (if_neg (by exact rE hc Bool.false_ne_true)) ?_
 refine .inr (congrArg (fun l=>pure (some l)) ((BQ ?_ h).2 ?_))
 ·intro x p
  dsimp only
  split
  ·exact .inl rfl
  ·exact .inr rfl
 ·rw[Bool.or_eq_true,not_or]at q
  exact Classical.byContradiction fun w=>q.1 (bne_iff_ne.mpr w)
section
def ng(i j:Nat)(wa wb:WE):WS:=fun c ξ σ Φ=>i≠j∧wa c ξ σ fun d σ1=>wb c ξ σ1 fun e σ2=>Φ .next ((ξ.set i (some d)).set j (some e)) σ2
def zD(i j k:Nat)(wa wb wd:WE):WS:=fun c ξ σ Φ=>(i≠j∧i≠k∧j≠k)∧wa c ξ σ fun d σ1=>wb c ξ σ1 fun e σ2=>wd c ξ σ2 fun f σ3=>Φ .next (((ξ.set i (some d)).set j (some e)).set k (some f)) σ3
theorem lh{F:Fr}{Q:List Value→Shared→Prop}(a:At c F sl s σ Z ξ)(r:aw Z v (.tup ds))(hn:n=ds.length)(q:∀vs s',At c F sl s' σ Z ξ→aB Z vs ds→Q vs s'):
 wpAny cx.M F.A (unpackItems v n none) Q F.E s:=by
 refine be (io a.gs.inv r rfl) fun ta o vs m q4 k1 k2 k3 k4=>?_;subst q4
 have hl2:=k4.length
 simp only[Array.length_toList]at hl2
 refine rE hn (rF hl2 ?_)
 exact wpAny_unpackItems_tuple a.DA.handled (fq o k1 k2 m k3) fun h' he=>q _ _ (a.to (a.gs.keeps (t:=s.toks) fun b o e=>he b o (Nat.ne_of_lt (Heap.lt_size e)) e)) k4
theorem im{F:Fr}{ts:List (Value→Sem Unit)}{Q:Unit→Shared→Prop}(S:ge F.env ns sl)(k:eN sl x i)(o:di ns x)(a:At c F sl s σ Z ξ)(r:aw Z v d)
 (q:∀s',At c F sl s' σ Z (ξ.set i (some d))→wpAny cx.M F.A (assignInOrder ts vs) Q F.E s'):wpAny cx.M F.A (assignInOrder ((fun u=>bindName F.env x u)::ts) (v::vs)) Q F.E s:=
 wpAny_assignInOrder_more (tg S.fs a.gs k.h (o.Es S) r fun s' g=>q s' (a.to g))
instance{y:Str}{tp:Pos}{k2:Nat}[c1:eN sl x i][c2:eN sl y j][o1:di ns x][o2:di ns y][nc:NC e1][h1:EX c ns sl e1 wa][h2:EX c ns sl e2 wb]:
 rx c ns sl (.Assign [.Tuple [.Name x px,.Name y py] k tp] (.Tuple [e1,e2] k2 p2) pos) (ng i j wa wb):=
 ⟨fun ξ σ Φ q F s Z Q S a κ=>by
  revert q;refine fun h0=>xA h0 fun hij q=>?_;clear h0
  have hT:EX c ns sl (.Tuple [e1,e2] k2 p2) (rn (bM wa (bM wb eS)) jw):=inferInstance
  have q':rn (bM wa (bM wb eS)) jw c ξ σ fun d σ'=>∃d1 d2,d= .tup [d1,d2]∧Φ .next ((ξ.set i (some d1)).set j (some d2)) σ':=by
   refine(?_:wa c ξ σ _)
   have e:(fun(d:D) (σ1:af)=>wb c ξ σ1 fun e σ2=>Φ .next ((ξ.set i (some d)).set j (some e)) σ2)=
    fun d σ1=>bM wb eS c ξ σ1 fun ds σ2=>jw c (d::ds) σ2 fun d σ'=>∃d1 d2,d= .tup [d1,d2]∧Φ .next ((ξ.set i (some d1)).set j (some d2)) σ':=by
    funext d σ1
    delta bM eS jw
    congr
    funext e σ2
    simp
    exact⟨fun h=>⟨_,_,⟨rfl,rfl⟩,h⟩,fun w=>eB w fun zz zz q h=>by rw[q.1,q.2];exact h⟩
   rw[e]at q;exact q
  rcases sW (tp:=tp) (k:=k) (k2:=k2) (p2:=p2) (env:=F.env) (.cons x px (.cons y py .nil)) (es:=[e1,e2]) (by exact rE List.all_cons (rE nc.ok rfl))with hw|hw
  ·refine Assign_Tuple (hT.ok _ _ _ q' _ _ _ _ S a fun v s1 d σ1 Z1 a1 z1 r1 w0=>eB w0 fun d1 d2 hd q1=>?_) rfl hw
   subst hd
   have hX:TX c ns sl (.Tuple [.Name x px,.Name y py] k tp) (rC 2 (fV (c8 i) (fV (c8 j) rD))):=inferInstance
   exact hX.ok (.tup [d1,d2]) ξ σ1 (fun ξ2 σ2=>Φ .next ξ2 σ2) (dx rfl rfl q1) _ _ _ _ _ S a1 r1 fun s2 ξ2 σ2 Z2 a2 z2 q2=>κ _ _ _ _ _ _ a2 (am.le_trans z1 z2) .next q2
  ·refine Assign_Tuple_swapped (hT.ok _ _ _ q' _ _ _ _ S a fun v s1 d σ1 Z1 a1 z1 r1 w0=>eB w0 fun d1 d2 hd q1=>?_) rfl hw
   subst hd
   refine lh a1 r1 rfl fun vs s2 a2 r2=>?_
   cases r2 using aB.CS with
   |cons v1 r2=>cases r2 using aB.CS with
    |cons v2 r2=>
     cases r2 using aB.Da
     refine im S c2 o2 a2 v2 fun s3 a3=>im S c1 o1 a3 v1 fun s4 a4=>wpAny_assignInOrder_none (κ _ _ _ _ _ _ a4 z1 .next ?_)
     exact rE (List.set_comm _ _ hij.symm) q1⟩
instance{y:Str}{m:Nat}{pz tp:Pos}{k2:Nat}{e3:Expr}[c1:eN sl x i][c2:eN sl y j][c3:eN sl z m][o1:di ns x][o2:di ns y][o3:di ns z][nc:NC e1][h1:EX c ns sl e1 wa][h2:EX c ns sl e2 wb][h3:EX c ns sl e3 wd]:
 rx c ns sl (.Assign [.Tuple [.Name x px,.Name y py,.Name z pz] k tp] (.Tuple [e1,e2,e3] k2 p2) pos) (zD i j m wa wb wd):=
 ⟨fun ξ σ Φ q F s Z Q S a κ=>by
  revert q;refine fun h0=>xA h0 fun w0 q=>?_;clear h0;obtain⟨hij,him,Iy⟩:=w0
  have hT:EX c ns sl (.Tuple [e1,e2,e3] k2 p2) (rn (bM wa (bM wb (bM wd eS))) jw):=inferInstance
  have q':rn (bM wa (bM wb (bM wd eS))) jw c ξ σ fun d σ'=>∃d1 d2 d3,d= .tup [d1,d2,d3]∧Φ .next (((ξ.set i (some d1)).set j (some d2)).set m (some d3)) σ':=by
   refine(?_:wa c ξ σ _)
   have e:(fun(d:D) (σ1:af)=>wb c ξ σ1 fun e σ2=>wd c ξ σ2 fun f σ3=>Φ .next (((ξ.set i (some d)).set j (some e)).set m (some f)) σ3)=
    fun d σ1=>bM wb (bM wd eS) c ξ σ1 fun ds σ2=>jw c (d::ds) σ2 fun d σ'=>∃d1 d2 d3,d= .tup [d1,d2,d3]∧Φ .next (((ξ.set i (some d1)).set j (some d2)).set m (some d3)) σ':=by
    funext d σ1
    delta bM eS jw
    congr
    funext e σ2
    congr
    funext f σ3
    simp
    exact⟨fun h=>⟨_,_,_,⟨rfl,rfl,rfl⟩,h⟩,fun w=>jm w fun zz zz w=>aF w fun zz q h=>by rw[q.1,q.2.1,q.2.2];exact h⟩
   rw[e]at q;exact q
  rcases sW (tp:=tp) (k:=k) (k2:=k2) (p2:=p2) (env:=F.env) (.cons x px (.cons y py (.cons z pz .nil))) (es:=[e1,e2,e3]) (by exact rE List.all_cons (rE nc.ok rfl))with hw|hw
  ·refine Assign_Tuple (hT.ok _ _ _ q' _ _ _ _ S a fun v s1 d σ1 Z1 a1 z1 r1 w0=>gf w0 fun d1 d2 d3 hd q1=>?_) rfl hw
   subst hd
   have hX:TX c ns sl (.Tuple [.Name x px,.Name y py,.Name z pz] k tp) (rC 3 (fV (c8 i) (fV (c8 j) (fV (c8 m) rD)))):=inferInstance
   exact hX.ok (.tup [d1,d2,d3]) ξ σ1 (fun ξ2 σ2=>Φ .next ξ2 σ2) (dx rfl rfl q1) _ _ _ _ _ S a1 r1 fun s2 ξ2 σ2 Z2 a2 z2 q2=>κ _ _ _ _ _ _ a2 (am.le_trans z1 z2) .next q2
  ·refine Assign_Tuple_swapped (hT.ok _ _ _ q' _ _ _ _ S a fun v s1 d σ1 Z1 a1 z1 r1 w0=>gf w0 fun d1 d2 d3 hd q1=>?_) rfl hw
   subst hd
   refine lh a1 r1 rfl fun vs s2 a2 r2=>?_
   cases r2 using aB.CS with
   |cons v1 r2=>cases r2 using aB.CS with
    |cons v2 r2=>cases r2 using aB.CS with
     |cons v3 r2=>
      cases r2 using aB.Da
      refine im S c3 o3 a2 v3 fun s5 a5=>im S c2 o2 a5 v2 fun s3 a3=>im S c1 o1 a3 v1 fun s4 a4=>wpAny_assignInOrder_none (κ _ _ _ _ _ _ a4 z1 .next ?_)
      exact rE (List.set_comm _ _ Iy.symm) (rE (List.set_comm _ _ him.symm) (rE (List.set_comm _ _ hij.symm) q1))⟩
end
section
theorem fg{scope:Scope}(h:∀x,(x,NameKind.free)∈scope.names→∃c,env.cells.lookup x=some c):
 ∃cl,closureFor scope env=pure cl∧(∀n c,cl.lookup n=some c→(n,NameKind.free)∈scope.names∧env.cells.lookup n=some c)∧∀n,(n,NameKind.free)∈scope.names→cl.lookup n=env.cells.lookup n:=by
 have key:∀(names:NK) (cs:List (Str×Addr)),(∀x,(x,NameKind.free)∈names→∃c,env.cells.lookup x=some c)→(∀n c,cs.lookup n=some c→env.cells.lookup n=some c)→
  ∃cl,(forIn names cs fun(x:Str×NameKind) (cs:List (Str×Addr))=>(do
   let(name,kind):=x
   if kind== .free then do let a←cellOf env name;pure (ForInStep.yield ((name,a)::cs))else pure (ForInStep.yield cs):Sem _))=pure cl∧
   (∀n c,cl.lookup n=some c→((n,NameKind.free)∈names∨cs.lookup n=some c)∧env.cells.lookup n=some c)∧(∀n,((n,NameKind.free)∈names∨(cs.lookup n).isSome)→cl.lookup n=env.cells.lookup n):=by
  intro names
  induction names with
  |nil=>intro cs _ h2;exact(bP cs rfl (fun n c e=>⟨.inr e,h2 n c e⟩) (fun n q=>by
   rcases q with q|q
   ·exact nM q
   ·obtain⟨c,hc⟩:=Option.isSome_iff_exists.mp q;exact rE hc (rE (h2 n c hc) rfl)))
  |cons x names ih=>
   intro cs h1 h2
   obtain⟨name,kind⟩:=x
   by_cases hk:kind= .free
   ·subst hk
    refine xE (h1 name (.head _)) fun a ha=>?_
    obtain⟨cl,e,k1,k2⟩:=ih ((name,a)::cs) (fun x hx=>h1 x (.tail _ hx)) fun n c e=>by
     rw[List.lookup_cons]at e
     by_cases q:n==name
     ·rw[q]at e;(replace e:=sI e;subst e);exact rE (beq_iff_eq.mp q) ha
     ·simp only[Bool.not_eq_true]at q;rw[q]at e;exact h2 n c e
    refine(bP cl ?_ (fun n c e=>?_) (fun n q=>?_))
    ·refine rE (List.forIn_cons _ _ _ _) ?_
     have:cellOf env name=pure a:=by delta cellOf;exact rE ha rfl
     dsimp only
     refine rE (if_pos (by decide)) (rE this ?_)
     exact e
    ·refine xA (k1 n c e) fun q r=>?_
     refine⟨?_,r⟩
     rcases q with q|q
     ·exact .inl (.tail _ q)
     ·rw[List.lookup_cons]at q
      by_cases q2:n==name
      ·exact rE (beq_iff_eq.mp q2) (.inl (.head _))
      ·simp only[Bool.not_eq_true]at q2;rw[q2]at q;exact .inr q
    ·refine k2 n ?_
     refine rE List.lookup_cons ?_
     by_cases q2:n==name
     ·exact rE q2 (.inr rfl)
     ·simp only[Bool.not_eq_true]at q2;refine rE q2 ?_
      rcases q with q|q
      ·cases q with
       |head=>simp at q2
       |tail _ q=>exact .inl q
      ·exact .inr q
   ·refine cz (ih cs (fun x hx=>h1 x (.tail _ hx)) h2) fun cl e k1 k2=>?_
    refine(bP cl ?_ (fun n c e=>?_) (fun n q=>k2 n ?_))
    ·refine rE (List.forIn_cons _ _ _ _) ?_
     dsimp only
     refine rE (if_neg (by simpa using hk)) ?_
     exact e
    ·refine xA (k1 n c e) fun q r=>?_
     exact⟨q.imp (fun h=> .tail _ h) id,r⟩
    ·rcases q with q|q
     ·cases q with
      |head=>exact absurd rfl hk
      |tail _ q=>exact .inl q
     ·exact .inr q
 refine cz (key scope.names [] h (fun n c e=>by simp at e)) fun cl e k1 k2=>?_
 refine(bP cl ?_ (fun n c e=>?_) (fun n q=>k2 n (.inl q)))
 ·delta closureFor
  exact congrArg (fun m=>m>>=fun s=>pure s) e
 ·refine xA (k1 n c e) fun q r=>?_
  exact⟨q.resolve_right (by simp),r⟩
noncomputable def dG(sc:Scope):Bool:=sc.kind== .function&&decide (sc.names.map (·.1)).Nodup&&sc.names.all fun x=> !(x.1==("__debug__" :Str))&& !(x.1==("__classdict__" :Str))
class bQ(ns:NK)(sl:List Str)(names:NK)(slc:outParam (List Str))(init:outParam (List (Option Nat))):Prop where
 len:init.length=slc.length
 sub:slc.Sublist (names.map (·.1))
 kind:∀x∈slc,(x,NameKind.local)∈names∨(x,NameKind.free)∈names
 all:∀x,(x,NameKind.free)∈names→x∈slc∧x∈sl∧(x,NameKind.cell)∈ns
 cap:∀(i j:Nat),init[i]?=some (some j)→∃x,slc[i]?=some x∧(x,NameKind.free)∈names∧sl[j]?=some x
 DY:∀(i:Nat) (x:Str),slc[i]?=some x→(x,NameKind.free)∈names→(x,NameKind.local)∉names→∃j,init[i]?=some (some j)
 CY:∀x∈names,x.2≠NameKind.cell
instance:bQ ns sl [] [] []where
 len:=rfl
 sub:= .refl _
 kind _ h:=by exact nM h
 all _ h:=by exact nM h
 cap _ _ h:=by simp at h
 DY _ _ h:=by simp at h
 CY _ h:=by exact nM h
instance{names:NK}{init:List (Option Nat)}[h:bQ ns sl names slc init]:bQ ns sl ((x,.local)::names) (x::slc) (none::init)where
 len:=by exact rE List.length_cons (rE List.length_cons (rE h.len rfl))
 sub:=h.sub.cons_cons _
 kind y hy:=by
  rcases List.mem_cons.mp hy with rfl|hy
  ·exact .inl (.head _)
  ·exact(h.kind y hy).imp (.tail _) (.tail _)
 all y hy:=by
  cases hy with
  |tail _ hy=>exact dF (h.all y hy) fun a b c=>(dx (.tail _ a) b c)
 cap i j e:=by
  cases i with
  |zero=>simp at e
  |succ i=>exact cz (h.cap i j (by simpa using e)) fun y a b c=>(bP y (by simpa using a) (.tail _ b) c)
 DY i y e hy hn:=by
  cases hy with
  |tail _ hy=>
   cases i with
   |zero=>simp at e;subst e;exact absurd (.head _) hn
   |succ i=>exact xE (h.DY i y (by simpa using e) hy (fun q=>hn (.tail _ q))) fun j a=>(iE j (by simpa using a))
 CY y hy:=by
  cases hy with
  |head=>exact fun q=>by cases q
  |tail _ hy=>exact h.CY y hy
instance{names:NK}{init:List (Option Nat)}[h:bQ ns sl names slc init]:bQ ns sl ((x,.globalImplicit)::names) slc init where
 len:=h.len
 sub:=h.sub.cons _
 kind y hy:=(h.kind y hy).imp (.tail _) (.tail _)
 all y hy:=by
  cases hy with
  |tail _ hy=>exact h.all y hy
 cap i j e:=by exact cz (h.cap i j e) fun y a b c=>(bP y a (.tail _ b) c)
 DY i y e hy hn:=by
  cases hy with
  |tail _ hy=>exact h.DY i y e hy (fun q=>hn (.tail _ q))
 CY y hy:=by
  cases hy with
  |head=>exact fun q=>by cases q
  |tail _ hy=>exact h.CY y hy
instance{names:NK}{init:List (Option Nat)}[h:bQ ns sl names slc init][s:eN sl x k][m:bL ns x .cell]:bQ ns sl ((x,.free)::names) (x::slc) (some k::init)where
 len:=by exact rE List.length_cons (rE List.length_cons (rE h.len rfl))
 sub:=h.sub.cons_cons _
 kind y hy:=by
  rcases List.mem_cons.mp hy with rfl|hy
  ·exact .inr (.head _)
  ·exact(h.kind y hy).imp (.tail _) (.tail _)
 all y hy:=by
  cases hy with
  |head=>exact(dx (.head _) (List.mem_of_getElem? s.h) m.h)
  |tail _ hy=>exact dF (h.all y hy) fun a b c=>(dx (.tail _ a) b c)
 cap i j e:=by
  cases i with
  |zero=>simp at e;subst e;exact(bP x (by simp) (.head _) s.h)
  |succ i=>exact cz (h.cap i j (by simpa using e)) fun y a b c=>(bP y (by simpa using a) (.tail _ b) c)
 DY i y e hy hn:=by
  cases i with
  |zero=>exact(iE k (by simp))
  |succ i=>
   cases hy with
   |tail _ hy=>exact xE (h.DY i y (by simpa using e) hy (fun q=>hn (.tail _ q))) fun j a=>(iE j (by simpa using a))
   |head=>
    by_cases q:(x,NameKind.free)∈names
    ·exact xE (h.DY i x (by simpa using e) q (fun q=>hn (.tail _ q))) fun j a=>(iE j (by simpa using a))
    ·have hx:x∈slc:=List.mem_of_getElem? (by simpa using e)
     rcases h.kind x hx with q2|q2
     ·exact absurd (.tail _ q2) hn
     ·exact absurd q2 q
 CY y hy:=by
  cases hy with
  |head=>exact fun q=>by cases q
  |tail _ hy=>exact h.CY y hy
noncomputable def bp(init:List (Option Nat))(ξ:Lo):Lo:=init.map fun o=>match o with
 |none=>none
 |some j=>(ξ[j]?).join
theorem bS{names:NK}(nd:(names.map (·.1)).Nodup){k:NameKind}(h:(x,k)∈names):names.lookup x=some k:=by
 induction names with
 |nil=>exact nM h
 |cons y names ih=>
  obtain⟨y,k'⟩:=y
  rw[List.map_cons,List.nodup_cons]at nd
  refine rE List.lookup_cons ?_
  cases h with
  |head=>simp
  |tail _ h=>
   have:(x==y)=false:=beq_eq_false_iff_ne.mpr fun q=>nd.1 (q▸List.mem_map_of_mem (f:=(·.1)) (a:=(x,k)) h)
   exact rE this (ih nd.2 h)
section
variable{init:List (Option Nat)}{scope:Scope}
theorem nV(ok:dG scope=true){k:NameKind}(h:(x,k)∈scope.names):
 (compEnvC scope cl C env).kindOf x=some (if(k==NameKind.free&&env.scope.kind==ScopeKind.function&&env.kindOf x==some NameKind.cell)=true then NameKind.cell else k):=by
 simp only[dG,Bool.and_eq_true,decide_eq_true_eq]at ok
 refine(?_:(scope.names.map _).lookup x=_)
 have hm:((scope.names.map fun(n,k)=>if(k==NameKind.free&&env.scope.kind==ScopeKind.function&&env.kindOf n==some NameKind.cell)=true then(n,NameKind.cell)else(n,k)).map (·.1))=scope.names.map (·.1):=by
  refine rE List.map_map ?_
  apply List.map_congr_left
  rintro⟨n,k⟩ _
  dsimp only[Function.comp]
  split<;>rfl
 refine bS (by exact rE hm ok.1.2) ?_
 refine List.mem_map.mpr (aP (x,k) h ?_)
 dsimp only
 split<;>rfl
structure sM(env:Env)(scope:Scope)(cl:List (Str×Addr)):Prop where
 into:∀n c,cl.lookup n=some c→(n,NameKind.free)∈scope.names∧env.cells.lookup n=some c
 back:∀n,(n,NameKind.free)∈scope.names→cl.lookup n=env.cells.lookup n
theorem kq(S:ge env ns sl)(cn:bQ ns sl scope.names slc init)(k:sM env scope cl)(ok:dG scope=true)(h:(x,NameKind.free)∈scope.names):
 (compEnvC scope cl C env).kindOf x=some .cell∧env.kindOf x=some .cell∧∃a,env.cells.lookup x=some a∧cl.lookup x=some a:=by
 refine dF (cn.all x h) fun h1 h2 h3=>?_
 have hk:env.kindOf x=some .cell:=S.Fk x _ h3 (by decide)
 refine(dx ?_ hk ?_)
 ·exact rE (nV ok h) (rE S.fs.fn (rE hk (rE (if_pos (by decide)) rfl)))
 ·rcases S.fs.kinds x h2 with q|⟨a,_,q⟩
  ·rw[hk]at q;cases q
  ·exact(aP a q ((k.back x h).trans q))
theorem cZ(S:ge env ns sl)(cn:bQ ns sl scope.names slc init)(k:sM env scope cl)(ok:dG scope=true){n:Str}(h:eA (compEnvC scope cl C env) n a):(n,NameKind.free)∈scope.names∧eA env n a∧env.kindOf n=some .cell:=by
 refine xA (k.into n a h.2) fun h1 h2=>?_
 have:=(kq (C:=C) S cn k ok h1).2.1
 exact(dx h1 ⟨.inl this,h2⟩ this)
theorem mu(S:ge env ns sl)(cn:bQ ns sl scope.names slc init)(k:sM env scope cl)(ok:dG scope=true):ge (compEnvC scope cl C env) scope.names slc:=by
 have ok':=ok
 simp only[dG,Bool.and_eq_true,decide_eq_true_eq,List.all_eq_true,Bool.not_eq_true',beq_iff_eq]at ok'
 have plain:∀x k,(x,k)∈scope.names→k≠NameKind.free→(compEnvC scope cl C env).kindOf x=some k:=fun x k h hk=>by
  refine rE (nV ok h) ?_
  have:(k==NameKind.free)=false:=beq_eq_false_iff_ne.mpr hk
  exact rE this rfl
 refine⟨⟨ok'.1.1,S.fs.Fo,S.fs.HU,ok'.1.2.sublist cn.sub,fun n hn=>?_,fun n n' a h1 h2=>?_,fun n hn=>?_⟩,plain,?_⟩
 ·rcases cn.kind n hn with h|h
  ·exact .inl (plain n _ h (by decide))
  ·refine dF (kq (C:=C) S cn k ok h) fun h1 zz CU=>aF CU fun a zz h3=>?_;clear CU
   exact .inr (aP a (.inl h1) h3)
 ·exact S.fs.inj n n' a (cZ S cn k ok h1).2.1 (cZ S cn k ok h2).2.1
 ·have:n∈scope.names.map (·.1):=cn.sub.subset hn
  refine aF (List.mem_map.mp this) fun x hx q2=>?_;subst q2
  exact ok'.2 x hx
 ·intro h;exact absurd rfl (cn.CY _ h)
theorem fN(e:(bp init ξ)[i]?=some (some d)):∃j,init[i]?=some (some j)∧ξ[j]?=some (some d):=by
 delta bp at e
 rw[List.getElem?_map]at e
 refine aF (Option.map_eq_some_iff.mp e) fun o h1 h2=>?_
 cases o with
 |none=>exact nS h2
 |some j=>exact(aP j h1 (by simpa[Option.join_eq_some_iff]using h2))
theorem vg(h:init[i]?=some (some j))(e:ξ[j]?=some (some d)):(bp init ξ)[i]?=some (some d):=by
 delta bp
 refine rE (List.getElem?_map) (rE h ?_)
 simp[e]
theorem tY(S:ge env ns sl)(cn:bQ ns sl scope.names slc init)(k:sM env scope cl)(ok:dG scope=true)(G:GS A env sl s0 CP Z0 s σ Z ξ){m:Str→Option Value}(hC:s.heap.Ns C m)(SC:ax A env s0 σ Z C):
 GS A (compEnvC scope cl C env) slc s σ Z s σ Z (bp init ξ):=by
 have T:=mu (C:=C) S cn k ok
 refine⟨eg.refl _ _ _ _ _,G.inv,⟨?_,(aP m hC (fun i n d h1 h2 h3=>?_)),fun n a h=>G.CT.cell n a (cZ S cn k ok h).2.1,fun i n a d h1 h2 h3=>?_,fun b hb=>?_⟩,G.stk,fQ.refl _⟩
 ·delta bp;exact rE (List.length_map _) (rE cn.len rfl)
 ·refine aF (fN h3) fun j e1 e2=>?_
  refine cz (cn.cap i j e1) fun x e3 e4 e5=>?_
  rw[h1]at e3;(replace e3:=sI e3;subst e3)
  rw[(kq (C:=C) S cn k ok e4).1]at h2;cases h2
 ·refine aF (fN h3) fun j e1 e2=>?_
  refine cz (cn.cap i j e1) fun x e3 e4 e5=>?_
  rw[h1]at e3;(replace e3:=sI e3;subst e3)
  exact G.CT.DP j n a d e5 (cZ S cn k ok h2).2.1 e2
 ·rcases hb with rfl|⟨n,hn⟩
  ·exact⟨SC.own,SC.zone⟩
  ·exact G.CT.off b (.inr (iE n ((cZ S cn k ok hn).2.1)))
theorem vp(S:ge env ns sl)(cn:bQ ns sl scope.names slc init)(k:sM env scope cl)(ok:dG scope=true){b:Addr}(h:jj (compEnvC scope cl C env) b):b=C∨jj env b:=by
 rcases h with rfl|⟨n,h1,h2⟩
 ·exact .inl rfl
 ·refine dF (cZ S cn k ok ⟨.inl h1,h2⟩) fun e1 e2 e3=>?_
  exact .inr (.inr (aP n e3 e2.2))
theorem nX(S:ge env ns sl)(cn:bQ ns sl scope.names slc init)(k:sM env scope cl)(ok:dG scope=true)(G:GS A env sl s0 CP Z0 s σ Z ξ){m:Str→Option Value}(hC:s.heap.Ns C m)(SC:ax A env s0 σ Z C)
 (G':GS A (compEnvC scope cl C env) slc s σ Z s' σ' Z' ξ') (hcap:∀(i:Nat) (x:Str),slc[i]?=some x→(x,NameKind.free)∈scope.names→ξ'[i]?=(bp init ξ)[i]?):
 GS A env sl s0 CP Z0 s' σ' Z' ξ∧ax A env s0 σ' Z' C∧∃m',s'.heap.Ns C m':=by
 revert S cn k ok G hC SC G' hcap;revert sl slc;revert ns init A env s0 s s' CP σ σ' Z0 Z Z' ξ ξ' scope cl C m;apply zp
 generalize (aZ _ _).1.1.1.1.1=A,(aZ _ _).1.1.1.1.2=s,(aZ _ _).1.1.1.2=s',(aZ _ _).1.1.2.1=s0,(aZ _ _).1.1.2.2=env,(aZ _ _).1.2.1.1.1=Z,(aZ _ _).1.2.1.1.2=Z',(aZ _ _).1.2.1.2=Z0,(aZ _ _).1.2.2.1=C,(aZ _ _).1.2.2.2=σ,(aZ _ _).2.1.1.1.1=σ',(aZ _ _).2.1.1.1.2=CP,(aZ _ _).2.1.1.2=cl,(aZ _ _).2.1.2.1=ξ,(aZ _ _).2.1.2.2=ξ',(aZ _ _).2.2.1.1=ns,(aZ _ _).2.2.1.2=init,(aZ _ _).2.2.2.1=scope,(aZ _ _).2.2.2.2=m;intro sl slc S cn k ok G hC SC G' hcap
 have ok':=ok
 simp only[dG,Bool.and_eq_true,decide_eq_true_eq]at ok'
 have nd:=ok'.1.2
 have DJ:ax A env s0 σ' Z' C:=⟨SC.new,(G'.CT.off C (.inl rfl)).1,(G'.CT.off C (.inl rfl)).2,SC.mine,SC.fr⟩
 have ES:∀b o,jg env b→¬jj (compEnvC scope cl C env) b→s.heap.get? b=some o→∃o',s'.heap.get? b=some o'∧o'.data=o.data:=fun b o hb hf e=>by
  refine aF (G'.grow.keep b o hf (G.CT.off b hb).1 e) fun o' e' q=>?_
  rcases q with rfl|⟨_,_,rfl⟩
  ·exact(aP _ e' rfl)
  ·exact(aP _ e' rfl)
 have offs:∀b,jg env b→σ' b=none∧Z' b=none:=fun b hb=>by
  refine xE (G.Dl hb) fun o e=>?_
  refine⟨?_,?_⟩
  ·cases q:σ' b with
   |none=>rfl
   |some ao=>rcases G'.grow.C1 b (by refine rE q ?_;simp)with h|h
             ·exact absurd (G.CT.off b hb).1 h
             ·rw[e]at h;exact sN h
  ·cases q:Z' b with
   |none=>rfl
   |some ao=>rcases G'.grow.C8 b (by refine rE q ?_;simp)with h|h|h
             ·exact absurd (G.CT.off b hb).2 h
             ·exact absurd (G.CT.off b hb).1 h
             ·rw[e]at h;exact sN h
 have Fy:¬jj (compEnvC scope cl C env) env.locals:=fun h=>by
  rcases h with h|⟨n,h1,h2⟩
  ·exact SC.mine (by have h':env.locals=C:=h;exact rF h' (.inl rfl))
  ·refine eB (G.CT.cell n _ (cZ S cn k ok ⟨.inl h1,h2⟩).2.1) fun cv o e hd=>?_
   refine aF (G.CT.loc) fun m1 w1 zz=>?_;obtain⟨o2,es,ep,e2,hd2,_⟩:=w1
   rw[e]at e2;(replace e2:=sI e2;subst e2);rw[hd]at hd2;cases hd2
 refine(dx ⟨?_,G'.inv,⟨G.CT.len,?_,fun n a h=>?_,fun i n a d h1 h2 h3=>?_,offs⟩,G'.stk,G.same.trans G'.same⟩ DJ ?_)
 ·refine⟨am.le_trans G.grow.DM G'.grow.DM,fun b o hf hs e=>?_,fun b hb=>?_,fun b hb=>?_,fun b hb=>G'.grow.live b (G.grow.live b hb)⟩
  ·refine aF (G.grow.keep b o hf hs e) fun o1 e1 q1=>?_
   have hσ:σ b=none:=by
    cases q:σ b with
    |none=>rfl
    |some ao=>rcases G.grow.C1 b (by refine rE q ?_;simp)with h|h
              ·exact absurd hs h
              ·rw[e]at h;exact sN h
   refine aF (G'.grow.keep b o1 (fun q=>by
    rcases vp S cn k ok q with rfl|q
    ·rw[SC.new]at e;exact nS e
    ·exact hf q) hσ e1) fun o2 e2 q2=>?_
   refine(aP o2 e2 ?_)
   rcases q1 with rfl|⟨f1,Fw,rfl⟩
   ·exact q2
   ·rcases q2 with rfl|⟨f2,sl2,rfl⟩
    ·exact .inr (vy f1 Fw rfl)
    ·exact .inr (vy f1 sl2 rfl)
  ·rcases G'.grow.C8 b hb with h|h|h
   ·exact G.grow.C8 b h
   ·exact(G.grow.C1 b h).elim (fun h=> .inr (.inl h)) fun h=> .inr (.inr h)
   ·exact .inr (.inr (G.grow.low b h))
  ·rcases G'.grow.C1 b hb with h|h
   ·exact G.grow.C1 b h
   ·exact .inr (G.grow.low b h)
 ·refine aF (G.CT.loc) fun m1 w1 hm=>?_;obtain⟨o,es,ep,e,hd,hk1,hk2⟩:=w1
  refine aF (ES _ _ (.inl rfl) Fy e) fun o' e' hd'=>?_
  exact⟨m1,⟨o',es,ep,e',hd'.trans hd,hk1,hk2⟩,fun i n d h1 h2 h3=>let⟨v,a,b⟩:=hm i n d h1 h2 h3;⟨v,a,b.mono G'.grow.DM⟩⟩
 ·by_cases hf:∃n',eA (compEnvC scope cl C env) n' a
  ·refine xE hf fun n' hn'=>?_;clear hf
   exact G'.CT.cell n' a hn'
  ·refine eB (G.CT.cell n a h) fun cv o e hd=>?_
   have hnot:¬jj (compEnvC scope cl C env) a:=fun q=>by
    rcases q with q|⟨n',q1,q2⟩
    ·exact SC.mine (by have h':a=C:=q;exact rF h' (.inr (iE n h)))
    ·exact hf (aP n' (.inl q1) q2)
   refine aF (ES a o (.inr (iE n h)) hnot e) fun o' e' hd'=>?_
   exact(fP cv o' e' (hd'.trans hd))
 ·by_cases hf:∃n',eA (compEnvC scope cl C env) n' a
  ·refine xE hf fun n' hn'=>?_;clear hf
   refine dF (cZ S cn k ok hn') fun q1 q2 q3=>?_
   have:=S.fs.inj n n' a h2 q2
   subst this
   refine xA (cn.all n q1) fun hx zz=>?_
   obtain⟨i',hi',e'⟩:=List.mem_iff_getElem.mp hx
   have hi2:slc[i']?=some n:=List.getElem?_eq_some_iff.mpr (iE hi' e')
   have hnl:(n,NameKind.local)∉scope.names:=fun q=>by
    have a1:=bS nd q
    have a2:=bS nd q1
    rw[a1]at a2;cases a2
   refine xE (cn.DY i' n hi2 q1 hnl) fun j hj=>?_
   refine cz (cn.cap i' j hj) fun x y1 y2 y3=>?_
   rw[hi2]at y1;(replace y1:=sI y1;subst y1)
   have:j=i:=(List.getElem?_inj (List.getElem?_eq_some_iff.mp y3).1 S.fs.nodup).mp (y3.trans h1.symm)
   subst this
   exact G'.CT.DP i' n a d hi2 hn' ((hcap i' n hi2 q1).trans (vg hj h3))
  ·refine aF (G.CT.DP i n a d h1 h2 h3) fun v w1 hr=>?_;obtain⟨o,e,hd⟩:=w1
   have hnot:¬jj (compEnvC scope cl C env) a:=fun q=>by
    rcases q with q|⟨n',q1,q2⟩
    ·exact SC.mine (by have h':a=C:=q;exact rF h' (.inr (iE n h2)))
    ·exact hf (aP n' (.inl q1) q2)
   refine aF (ES a o (.inr (iE n h2)) hnot e) fun o' e' hd'=>?_
   exact(aP v (aP o' e' (hd'.trans hd)) (hr.mono G'.grow.DM))
 ·refine aF (G'.CT.loc) fun m1 h1 zz=>?_
  exact(iE m1 h1)
end
end
section
noncomputable def iY(ifs:List Expr)(env:Env):Sem Bool:=forIn ifs true fun c r=>if r=true then do let ok←isTrue c env (eval c env);pure (ForInStep.yield ok)else pure (ForInStep.yield r)
section
variable{w:World}
def mB(M:Model)(A:Around)(env:Env)(target elt:Expr)(ifs:List Expr)(it acc:Value)(R:Result→Shared→Prop)(I:Nat→Shared→Prop)(n:Nat)(s:Shared):Prop:=
 wpAny M A (pyNext it) (fun r s₁=>match r with
  |none=>R (.ok .next) s₁
  |some v=>wpAny M A (letOwnedTupleGo target it v) (fun zz s₁'=>wpAny M A (assign target env v) (fun zz s₂=>
   wpAny M A (iY ifs env) (fun ok s₃=>
    if ok=true then wpAny M A (eval elt env) (fun x s₄=>
     wpAny M A (call (.builtin "list.append") [acc,x]) (fun zz s₅=>∃m,m<n∧I m s₅) (notedBy M A env fun e s'=>R (.error e) s') s₄) (notedBy M A env fun e s'=>R (.error e) s') s₃
    else∃m,m<n∧I m s₃) (notedBy M A env fun e s'=>R (.error e) s') s₂) (notedBy M A env fun e s'=>R (.error e) s') s₁') (notedBy M A env fun e s'=>R (.error e) s') s₁) (notedBy M A env fun e s'=>R (.error e) s') s
theorem ik{scope:Scope}(I:Nat→Shared→Prop)
 (turn:∀n s,I n s→mB (model prog w) A env target elt ifs it acc R I n s)
 (n:Nat) (h:I n s):
 codeAny (model prog w) A (.compLoop (.ListComp elt [⟨target,iter,ifs,0⟩] scope pos) 0 it acc env) R s:=by
 revert turn h;revert pos n;revert prog w A R s elt target iter ifs scope it acc env I;apply xF
 generalize (br _ _).1.1.1.1=A,(br _ _).1.1.1.2=s,(br _ _).1.1.2.1=env,(br _ _).1.1.2.2=it,(br _ _).1.2.1.1=acc,(br _ _).1.2.1.2=ifs,(br _ _).1.2.2=target,(br _ _).2.1.1.1=elt,(br _ _).2.1.1.2=iter,(br _ _).2.1.2.1=prog,(br _ _).2.1.2.2=R,(br _ _).2.2.1.1=w,(br _ _).2.2.1.2=scope,(br _ _).2.2.2=I;intro pos n turn h
 refine codeAny_loop rfl I (fun n s hI=>?_) n h
 refine(?_:wpAny _ A ((compTurn (.ListComp elt [⟨target,iter,ifs,0⟩] scope pos) 0 it acc env).onRaise (fun x=>do noteFrame x env;theTreesLotGoes x)) _ _ s)
 refine wpAny_noted ?_
 refine rE (compTurn_list _ _ _ _ _ _ _ _ _) ?_
 refine wpAny_bind (wpAny_standAt (wpAny_bind (wpAny_mono (turn n s hI) (fun r s₁ h₁=>?_) fun zz zz h'=>h')))
 cases r with
 |none=>exact wpAny_pure h₁
 |some v=>
  refine wpAny_bind (wpAny_mono h₁ (fun zz s₁' h₁'=>?_) fun zz zz h'=>h')
  refine wpAny_bind (wpAny_mono h₁' (fun zz s₂ h₂=>wpAny_bind (wpAny_mono h₂ (fun ok s₃ h₃=>?_) fun zz zz h'=>h')) fun zz zz h'=>h')
  cases ok with
  |false=>exact wpAny_pure ⟨rfl,h₃⟩
  |true=>
   exact wpAny_bind (wpAny_bind (wpAny_mono h₃ (fun x s₄ h₄=>wpAny_bind (wpAny_mono h₄ (fun zz s₅ h₅=>wpAny_pure (wpAny_pure ⟨rfl,h₅⟩)) fun zz zz h'=>h')) fun zz zz h'=>h'))
end
class ug(c:Ct)(ns:NK)(sl:List Str)(ifs:List Expr)(w:outParam WC):Prop where
 ok:J c ns sl (fun zz a b=>a=b) (fun env=>iY ifs env) (w c)
class sO(c:Ct)(ns:NK)(sl:List Str)(t:Expr)(w:outParam WT):Prop where
 tx:TX c ns sl t w
 mono:∀d ξ σ (Φ EG:Lo→af→Prop),(∀a b,Φ a b→EG a b)→w c d ξ σ Φ→w c d ξ σ EG
 caps:(ns.map (·.1)).Nodup→∀d ξ σ Φ,w c d ξ σ Φ→w c d ξ σ fun ξ' σ'=>Φ ξ' σ'∧∀(i:Nat) (x:Str),sl[i]?=some x→(x,NameKind.free)∈ns→ξ'[i]?=ξ[i]?
class zn(c:Ct)(ns:NK)(sl:List Str)(ts:List Expr)(k:outParam Nat)(w:outParam xD):Prop where
 tx:B1 c ns sl ts k w
 mono:∀d ξ σ (Φ EG:Lo→af→Prop),(∀a b,Φ a b→EG a b)→w c d ξ σ Φ→w c d ξ σ EG
 caps:(ns.map (·.1)).Nodup→∀d ξ σ Φ,w c d ξ σ Φ→w c d ξ σ fun ξ' σ'=>Φ ξ' σ'∧∀(i:Nat) (x:Str),sl[i]?=some x→(x,NameKind.free)∈ns→ξ'[i]?=ξ[i]?
def gt(t:WT)(wi:WC)(we:WE)(c:Ct)(ξc:Lo):D→af→(Option D→af→Prop)→Prop:=fun d σ Ψ=>t c d ξc σ fun ξ1 σ1=>wi c ξ1 σ1 fun b σ2=>if b=true then we c ξ1 σ2 fun e σ3=>Ψ (some e) σ3 else Ψ none σ2
def iT(turn:D→af→(Option D→af→Prop)→Prop):List D→List D→af→(List D→af→Prop)→Prop
 |[],acc,σ,Φ=>Φ acc σ
 |d::ds,acc,σ,Φ=>turn d σ fun o σ'=>iT turn ds (acc++o.toList) σ' Φ
section
variable{init:List (Option Nat)}{scope:Scope}
def mT:WC:=fun zz zz σ Φ=>Φ true σ
instance:ug c ns sl [] mT:=⟨fun ξ σ Φ q F s Z Q S a κ=>wpAny_tests_nil (κ.of a rfl q)⟩
instance{e:Expr}{w:WC}[h:CX c ns sl e w]:ug c ns sl [e] w:=⟨fun ξ σ Φ q F s Z Q S a κ=>wpAny_tests_one (h.ok _ _ _ q _ _ _ _ S a κ)⟩
instance[k:eN sl x i][m:bL ns x .local][o:di ns x]:sO c ns sl (.Name x pos) (c8 i)where
 tx:=inferInstance
 mono d ξ σ Φ EG h q:=h _ _ q
 caps nd d ξ σ Φ q:=⟨q,fun j y h1 h2=>by
  have:j≠i:=fun e=>by
   subst e
   rw[k.h]at h1;(replace h1:=sI h1;subst h1)
   have a1:=bS nd m.h
   have a2:=bS nd h2
   rw[a1]at a2;cases a2
  exact rE (List.getElem?_set_ne (Ne.symm this)) rfl⟩
instance:zn c ns sl [] 0 rD where
 tx:=inferInstance
 mono d ξ σ Φ EG h q:=⟨q.1,h _ _ q.2⟩
 caps nd d ξ σ Φ q:=(dx q.1 q.2 (fun zz zz zz zz=>rfl))
instance{t:Expr}{w:WT}{ws:xD}[h:sO c ns sl t w][h1:zn c ns sl ts k ws]:zn c ns sl (t::ts) (k+1) (fV w ws)where
 tx:=have:=h.tx;have:=h1.tx;inferInstance
 mono d ξ σ Φ EG hm q:=by
  cases d with
  |nil=>exact q
  |cons d ds=>exact h.mono _ _ _ _ _ (fun a b=>h1.mono _ _ _ _ _ hm) q
 caps nd d ξ σ Φ q:=by
  cases d with
  |nil=>exact q
  |cons d ds=>exact h.mono _ _ _ _ _ (fun a b w0=>xA w0 fun q1 q2=>h1.mono _ _ _ _ _ (fun a' b' w0=>xA w0 fun q3 q4=>⟨q3,fun i x e1 e2=>(q4 i x e1 e2).trans (q2 i x e1 e2)⟩) (h1.caps nd _ _ _ _ q1)) (h.caps nd _ _ _ _ q)
instance{ws:xD}[h:zn c ns sl ts k ws]:sO c ns sl (.Tuple ts j pos) (rC k ws)where
 tx:=have:=h.tx;inferInstance
 mono d ξ σ Φ EG hm q:=by
  cases d<;>first|exact False.elim q|exact⟨q.1,h.mono _ _ _ _ _ hm q.2⟩
 caps nd d ξ σ Φ q:=by
  cases d<;>first|exact False.elim q|exact⟨q.1,h.caps nd _ _ _ _ q.2⟩
theorem cq{o:Obj}(h1:σ I=none)(h2:Z I=none)(h3:¬jj env I)(h4:¬cm A I)(hI:s.heap.get? I=some o)(G:GS A env sl s σ Z s' σ' Z' ξ'):σ' I=none∧Z' I=none∧s'.heap.get? I=some o:=by
 refine(dx ?_ ?_ ?_)
 ·cases q:σ' I with
  |none=>rfl
  |some ao=>rcases G.grow.C1 I (by refine rE q ?_;simp)with h|h
            ·exact absurd h1 h
            ·rw[hI]at h;exact sN h
 ·cases q:Z' I with
  |none=>rfl
  |some ao=>rcases G.grow.C8 I (by refine rE q ?_;simp)with h|h|h
            ·exact absurd h2 h
            ·exact absurd h1 h
            ·rw[hI]at h;exact sN h
 ·refine aF (G.grow.keep I o h3 h1 hI) fun o' e q=>?_
  rcases q with rfl|⟨h,_⟩
  ·exact e
  ·exact absurd h h4
def gO(ξ ξ':Lo):Prop:=∀(i:Nat) (d:D),ξ[i]?=some (some d)→ξ'[i]?=some (some d)
theorem kL(ξ:Lo):gO ξ ξ:=fun zz zz h=>h
theorem mq(h:gO ξ ξ')(hi:∀e,ξ[i]?≠some (some e)):gO ξ (ξ'.set i (some d)):=fun j e hj=>by
 have:j≠i:=fun q=>hi e (q▸hj)
 refine rE (List.getElem?_set_ne (Ne.symm this)) ?_;exact h j e hj
def vJ(w:WT):WT:=fun c d ξ σ Φ=>w c d ξ σ fun ξ' σ'=>gO ξ ξ'∧Φ ξ' σ'
theorem rl.weak{h:Heap}(F:rl env sl h σ Z ξ')(hl:ξ.length=sl.length)(hc:gO ξ ξ'):rl env sl h σ Z ξ:=
 ⟨hl,let⟨m,a,b⟩:=F.loc;⟨m,a,fun i n d h1 h2 h3=>b i n d h1 h2 (hc i d h3)⟩,F.cell,fun i n a d h1 h2 h3=>F.DP i n a d h1 h2 (hc i d h3),F.off⟩
theorem qU(cn:bQ ns sl scope.names slc init)(h:∀(i:Nat) (x:Str),slc[i]?=some x→(x,NameKind.free)∈scope.names→ξ'[i]?=(bp init ξ)[i]?):gO (bp init ξ) ξ':=fun i d e=>by
 refine aF (fN e) fun j hj zz=>?_
 refine cz (cn.cap i j hj) fun x h1 h2 zz=>?_
 exact(h i x h1 h2).trans e
inductive zo(c:Ct)(F:Fr)(sl slc:List Str)(ξ ξ1:Lo)(ce:Env)(Z:am)(I D C:Addr)(P0:Addr→Obj→Prop)(items:List Lz.D)(P:Nat→Value→Prop)(St:Nat→Heap→Prop)(fp:List Addr)(n0:Nat)
 (turn:Lz.D→af→(Option Lz.D→af→Prop)→Prop) (Ψ:List Lz.D→af→Prop):Nat→Shared→Prop
 |mk {i:Nat} {s':Shared} {σ':af} {Z':am} {vs:Array Value} {ds:List Lz.D} (a:At c F sl s' σ' Z' ξ) (z:Z.le Z') (sI:ax F.A F.env F.s0 σ' Z' I) (sD:ax F.A F.env F.s0 σ' Z' D) (sC:ax F.A F.env F.s0 σ' Z' C)
  (kp:∀b o,P0 b o→ax F.A F.env F.s0 σ' Z' b∧s'.heap.get? b=some o) (CT:rl ce slc s'.heap σ' Z' ξ1) (it:jh F.A Z' I items P St fp) (st:St i s'.heap) (le:i≤items.length)
  (acc:s'.heap.PlainList D vs) (rs:aB Z' vs.toList ds) (sz:vs.size≤n0+i) (w:iT turn (items.drop i) ds σ' Ψ):zo c F sl slc ξ ξ1 ce Z I D C P0 items P St fp n0 turn Ψ (items.length+1-i) s'
def xz(M:Model)(A:Around)(ce:Env)(t elt:Expr)(fs:List Expr)(acc:Value)(Nx:Shared→Prop)(v:Value)(s2:Shared):Prop:=
 wpAny M A (assign t ce v) (fun zz s3=>wpAny M A (iY fs ce) (fun ok s4=>(ok=false→Nx s4)∧(ok=true→wpAny M A (eval elt ce) (fun x s5=>∀E:Value→Shared→Prop,wpAny M A (call (.builtin "list.append") [acc,x]) (fun zz s6=>Nx s6) E s5) (fun zz zz=>False) s4)) (fun zz zz=>False) s3) (fun zz zz=>False) s2
theorem xz.go{M:Model}{t:Expr}{fs:List Expr}(hq:∃o T,s2.heap.get? I=some o∧o.cls= .type T∧gi T=true)(h:xz M A ce t elt fs acc Nx v s2):
 wpAny M A (letOwnedTupleGo t (.ref I) v) (fun zz s₁'=>wpAny M A (assign t ce v) (fun zz s₂=>wpAny M A (iY fs ce) (fun ok s₃=>if ok=true then wpAny M A (eval elt ce) (fun x s₄=>wpAny M A (call (.builtin "list.append") [acc,x]) (fun zz s₅=>Nx s₅) N s₄) N s₃ else Nx s₃) N s₂) N s₁') N s2:=
 let⟨_,_,ho,hc,hq⟩:=hq
 hM ho hc hq (wpAny_mono h (fun zz zz h=>wpAny_mono h (fun ok zz h=>by
  cases ok with
  |false=>exact h.1 rfl
  |true=>exact wpAny_mono (h.2 rfl) (fun zz zz h=>h _) fun zz zz h=>h.elim) fun zz zz h=>h.elim) fun zz zz h=>h.elim)
set_option tactic.hygienic true in
theorem nW{F:Fr}{t:Expr}{fs:List Expr}{E6:WT}(S:ge F.env ns sl)(cn:bQ ns sl scope.names slc init)(k:sM F.env scope cl)(ok:dG scope=true)
 (ht:sO c.cut scope.names slc t wt) (hi:ug c.cut scope.names slc fs wi) (he:EX c.cut scope.names slc elt we)
 {D:Addr} {P:Nat→Value→Prop} {items:List Lz.D}
 (GZ:∀d σ Φ,E6 c.cut d ξ1 σ Φ→wt c.cut d ξ1 σ fun ξ' σ'=>(gO ξ1 ξ'∧∀(i:Nat) (x:Str),slc[i]?=some x→(x,NameKind.free)∈scope.names→ξ'[i]?=ξ1[i]?)∧Φ ξ' σ')
 (rule:∀dR:Nat→Shared→Prop,(∀n s,dR n s→mB cx.M F.A (compEnvC scope cl C F.env) t elt fs (.ref I) (.ref D) RR dR n s)→∀n s,dR n s→G s)
 (a:At c F sl s σ Z ξ) (SI:ax F.A F.env F.s0 σ Z I) (SD:ax F.A F.env F.s0 σ Z D) (SC:ax F.A F.env F.s0 σ Z C) (hID:I≠D) (hIC:I≠C) (hDC:D≠C)
 (FJ:∀b o,P0 b o→b≠I∧b≠D∧b≠C) (kp:∀b o,P0 b o→ax F.A F.env F.s0 σ Z b∧s.heap.get? b=some o)
 (CT:rl (compEnvC scope cl C F.env) slc s.heap σ Z ξ1) (E0:∀(i:Nat) (x:Str),slc[i]?=some x→(x,NameKind.free)∈scope.names→ξ1[i]?=(bp init ξ)[i]?)
 (hit:jh F.A Z I items P St fp) (hst:St 0 s.heap) (hacc:s.heap.PlainList D EA) (hr0:aB Z EA.toList FL) (hz:EA.size+items.length≤1048576) (hw:iT (gt E6 wi we c.cut ξ1) items FL σ Ψ)
 (q:∀s' σ' Z' vs ds m',At c F sl s' σ' Z' ξ→Z.le Z'→ax F.A F.env F.s0 σ' Z' D→ax F.A F.env F.s0 σ' Z' C→(∀b o,P0 b o→ax F.A F.env F.s0 σ' Z' b∧s'.heap.get? b=some o)→s'.heap.PlainList D vs→vs.size≤EA.size+items.length→
  aB Z' vs.toList ds→s'.heap.Ns C m'→Ψ ds σ'→RR (.ok .next) s'):G s:=by
 revert S cn k ok ht hi he GZ rule a SI SD SC hID hIC hDC FJ kp CT E0 hit hst hacc hr0 hz hw q;revert c ns sl slc init s σ Z ξ scope cl C F elt t fs wt E6 wi we G RR I D P0 P St fp Ψ ξ1 EA FL items;apply A7
 generalize (aT _ _).1.1.1.1.1.1=s,(aT _ _).1.1.1.1.1.2=Z,(aT _ _).1.1.1.1.2=sl,(aT _ _).1.1.1.2.1=slc,(aT _ _).1.1.1.2.2=C,(aT _ _).1.1.2.1.1=I,(aT _ _).1.1.2.1.2=elt,(aT _ _).1.1.2.2.1=σ,(aT _ _).1.1.2.2.2=cl,(aT _ _).1.2.1.1.1=RR,(aT _ _).1.2.1.1.2=St,(aT _ _).1.2.1.2.1=fp,(aT _ _).1.2.1.2.2=G,(aT _ _).1.2.2.1.1=P0,(aT _ _).1.2.2.1.2=Ψ,(aT _ _).1.2.2.2.1=EA,(aT _ _).1.2.2.2.2=FL,(aT _ _).2.1.1.1.1=c,(aT _ _).2.1.1.1.2=we,(aT _ _).2.1.1.2.1=ξ,(aT _ _).2.1.1.2.2=ξ1,(aT _ _).2.1.2.1.1=ns,(aT _ _).2.1.2.1.2=wi,(aT _ _).2.1.2.2.1=wt,(aT _ _).2.1.2.2.2=init,(aT _ _).2.2.1.1.1=scope,(aT _ _).2.2.1.1.2=F,(aT _ _).2.2.1.2.1=t,(aT _ _).2.2.1.2.2=fs,(aT _ _).2.2.2.1.1=E6,(aT _ _).2.2.2.1.2=D,(aT _ _).2.2.2.2.1=P,(aT _ _).2.2.2.2.2=items;intro S cn k ok ht hi he GZ rule a SI SD SC hID hIC hDC FJ kp CT E0 hit hst hacc hr0 hz hw q
 have T:=mu (C:=C) S cn k ok
 have C6:∀b,ax F.A F.env F.s0 σ Z b→b≠C→¬jg (compEnvC scope cl C F.env) b:=fun b sb hb q=>by
  rcases q with q|⟨n,q⟩
  ·exact hb q
  ·exact sb.mine (.inr (iE n ((cZ S cn k ok q).2.1)))
 have Gr:=C6 I SI hIC
 have FI:=C6 D SD hDC
 have H8:=fun b o h=>C6 b (kp b o h).1 (FJ b o h).2.2
 obtain⟨dR,hof,hmk⟩:∃dR:Nat→Shared→Prop,(∀n s,dR n s→zo c F sl slc ξ ξ1 (compEnvC scope cl C F.env) Z I D C P0 items P St fp EA.size (gt E6 wi we c.cut ξ1) Ψ n s)∧
  ∀n s,zo c F sl slc ξ ξ1 (compEnvC scope cl C F.env) Z I D C P0 items P St fp EA.size (gt E6 wi we c.cut ξ1) Ψ n s→dR n s:=(aP _ (fun zz zz h=>h) (fun zz zz h=>h))
 refine rule dR (fun n s1 h=>?_) _ s (hmk _ _ (.mk (i:=0) a (am.le_refl Z) SI SD SC kp CT hit hst (Nat.zero_le _) hacc hr0 (Nat.le_refl _) hw))
 clear rule SI SD SC kp CT hit hst hacc hr0 hw C6
 cases hof _ _ h with
 |mk a1 hz1 Ed DL FN Gu F1 hit1 Eb hi1 Dr hr1 hvs hw1=>
 rename_i i σ1 Z1 vs ds
 clear h hof
 by_cases hlt:i<items.length
 ·clear q
  refine hit1.walks.item i s1 _ _ hlt Eb fun v h2 tk2 hP hst2 hk2=>xz.go (hit1.obj (i+1) h2 hst2) ?_
  obtain⟨Nx,Gc⟩:∃Nx:Shared→Prop,Nx=fun s'=>∃m,m<items.length+1-i∧dR m s':=(iE _ rfl)
  refine rF Gc ?_
  have Gc:∀s',zo c F sl slc ξ ξ1 (compEnvC scope cl C F.env) Z I D C P0 items P St fp EA.size (gt E6 wi we c.cut ξ1) Ψ (items.length+1-(i+1)) s'→Nx s':=fun s' h=>by exact rE Gc (aP _ (by lia) (hmk _ _ h))
  clear hmk
  refine aF (hit1.rep i v hlt hP) fun d hd hr=>?_
  obtain⟨o,Tn,ho,-,-⟩:=hit1.obj (i+1) h2 hst2
  have C4:∀b o,b≠I→s1.heap.get? b=some o→h2.get? b=some o:=fun b o hb e=>hk2 b o (by simpa using hb) e
  have Gn:=a1.gs.side (t:=tk2) Ed C4
  have hdrop:items.drop i=d::items.drop (i+1):=by
   refine xE (List.getElem?_eq_some_iff.mp hd) fun zz e=>?_
   exact rE (List.drop_eq_getElem_cons hlt) (rE e rfl)
  rw[hdrop]at hw1
  have F2:rl (compEnvC scope cl C F.env) slc h2 σ1 Z1 ξ1:=F1.keeps (fun b o hb e=>(aP o (C4 b o (fun q=>Gr (q▸hb)) e) rfl)) (am.le_refl _) F1.off
  refine aF (F2.loc) fun IY Gz zz=>?_
  refine xE Dr fun Dz Dq=>?_;clear Dr
  have DG:h2.get? D=some {cls:= .type "list",data:= .seq vs Dz}:=C4 D _ hID.symm Dq
  have Ic:=fun b o h=>C4 b o (FJ b o h).1 (Gu b o h).2
  obtain⟨s2,hs2⟩:∃s2:Shared,s2={s1 with heap:=h2,toks:=tk2}:=(iE _ rfl)
  refine rF hs2 ?_
  have G2:GS F.A F.env sl F.s0 F.CP F.Z0 s2 σ1 Z1 ξ:=by exact rE hs2 Gn
  have e2:h2=s2.heap:=by exact rE hs2 rfl
  subst e2
  clear Gn hs2 C4 hk2 Dq hP
  have ai:At c.cut ⟨F.A,compEnvC scope cl C F.env,s2,σ1,Z1,fun zz zz=>False⟩ slc s2 σ1 Z1 ξ1:=⟨a1.DA,⟨eg.refl _ _ _ _ _,G2.inv,F2,G2.stk,fQ.refl _⟩,PassesOwn.never,fun zz zz zz zz zz h=>h.elim⟩
  have fin:∀{s5 Dm Z5 ξ5} (h5:Heap),At c.cut ⟨F.A,compEnvC scope cl C F.env,s2,σ1,Z1,fun zz zz=>False⟩ slc s5 Dm Z5 ξ5→gO ξ1 ξ5→(∀(i:Nat) (x:Str),slc[i]?=some x→(x,NameKind.free)∈scope.names→ξ5[i]?=ξ1[i]?)→Z1.le Z5→
   Heap.SameBut D s5.heap h5→∀{vs' ds'},h5.PlainList D vs'→aB Z5 vs'.toList ds'→vs'.size≤vs.size+1→iT (gt E6 wi we c.cut ξ1) (items.drop (i+1)) ds' Dm Ψ→Nx {s5 with heap:=h5}:=by
   intro s5 Dm Z5 ξ5 h5 a5 hcov hcap z5 hs vs' ds' hl hr' hsz hw'
   refine dF (nX (C:=C) S cn k ok G2 Gz FN a5.gs fun i x e1 e2=>(hcap i x e1 e2).trans (E0 i x e1 e2)) fun b1 b2 CU=>xE CU fun m5 b3=>?_;clear CU
   refine dF (cq Ed.own Ed.zone (fun q=>Gr q.mine) Ed.fr ho a5.gs) fun i1 i2 i3=>?_
   obtain⟨d1,d2,-⟩:=cq DL.own DL.zone (fun q=>FI q.mine) DL.fr DG a5.gs
   have HV:ax F.A F.env F.s0 Dm Z5 D:=⟨DL.new,d1,d2,DL.mine,DL.fr⟩
   refine Gc _ (.mk (i:=i+1) (a1.to (b1.side (t:=s5.toks) HV fun b o hb e=>(hs.2 b hb).trans e)) (am.le_trans hz1 z5) ⟨Ed.new,i1,i2,Ed.mine,Ed.fr⟩ HV b2 (fun b o h=>?_)
    ((a5.gs.CT.weak F1.len hcov).keeps (fun b o hb e=>(aP o ((hs.2 b fun q=>FI (q▸hb)).trans e) rfl)) (am.le_refl _) a5.gs.CT.off) (hit1.mono z5) (hit1.walks.frame (i+1) s2.heap h5 hst2 fun b hb o' e=>?_) hlt hl hr' (Nat.le_trans hsz (Nat.succ_le_succ hvs)) hw')
   ·have K:=Gu b o h
    refine dF (cq K.1.own K.1.zone (fun q=>H8 b o h q.mine) K.1.fr (Ic b o h) a5.gs) fun j1 j2 j3=>?_
    exact⟨⟨K.1.new,j1,j2,K.1.mine,K.1.fr⟩,(hs.2 b (FJ b o h).2.1).trans j3⟩
   ·rcases hit1.fp b hb with rfl|⟨o2,e2⟩
    ·exact(hs.2 _ hID).trans (i3.trans (ho.symm.trans e))
    ·exact(hs.2 b fun q=>by rw[q,DL.zone]at e2;exact nS e2).trans ((a5.gs.inv.zone b _ (z5 b _ e2)).trans ((G2.inv.zone b o2 e2).symm.trans e))
  clear Gc
  refine ht.tx.ok d ξ1 σ1 _ (GZ _ _ _ hw1) _ s2 Z1 v _ T ai hr fun s3 ξ3 σ3 Z3 a3 z3 w0=>xA w0 fun w1 q3=>xA w1 fun hcov hcap=>hi.ok _ _ _ q3 _ _ _ _ T a3 fun b s4 b' Dt Z4 a4 z4 r4 q4=>?_
  subst r4
  refine⟨fun hb=>?_,fun hb=>?_⟩<;>subst hb
  ·obtain⟨-,-,d3⟩:=cq DL.own DL.zone (fun q=>FI q.mine) DL.fr DG a4.gs
   have z:=am.le_trans z3 z4
   exact fin s4.heap a4 hcov hcap z ⟨rfl,fun zz zz=>rfl⟩ (iE Dz d3) (hr1.mono z) (Nat.le_succ _) (by simpa using q4)
  ·rw[if_pos rfl]at q4
   refine he.ok _ _ _ q4 _ _ _ _ T a4 fun x s5 e Dm Z5 a5 z5 r5 q5 E=>?_
   obtain⟨-,-,d3⟩:=cq DL.own DL.zone (fun q=>FI q.mine) DL.fr DG a5.gs
   have z:=am.le_trans z3 (am.le_trans z4 z5)
   exact wpAny_list_append_plain (items:=vs) (iE Dz d3) (fun h6 Iw Iq=>fin h6 a5 hcov hcap z Iq Iw (by exact rE Array.toList_push ((hr1.mono z).append (.one r5))) (by exact rE (Array.size_push _) (Nat.le_refl _)) q5) (by refine(?_:_≤2^24);lia)
 ·have hin:i=items.length:=by lia
  subst hin
  refine hit1.walks.done s1 _ _ Eb fun h2 tk2 hk2=>?_
  rw[List.drop_length]at hw1
  refine xE Dr fun Dz Dq=>?_;clear Dr
  refine aF (F1.loc) fun mC hC zz=>?_
  have C4:∀b o,b≠I→s1.heap.get? b=some o→h2.get? b=some o:=fun b o hb e=>hk2 b o (by simpa using hb) e
  exact q _ _ _ _ _ _ (a1.to (a1.gs.side Ed C4)) hz1 DL FN (fun b o h=>⟨(Gu b o h).1,C4 _ _ (FJ b o h).1 (Gu b o h).2⟩) (iE Dz (C4 _ _ hID.symm Dq)) hvs hr1 (hC.at' fun o e=>C4 C o hIC.symm e) hw1
theorem oG(ok:dG scope=true):(scope.names.map (·.1)).Nodup:=by simp only[dG,Bool.and_eq_true,decide_eq_true_eq]at ok;exact ok.1.2
theorem vo{F:Fr}(S:ge F.env ns sl)(cn:bQ ns sl scope.names slc init)(k:sM F.env scope cl)(ok:dG scope=true)
 (ht:sO c.cut scope.names slc target wt) (hi:ug c.cut scope.names slc ifs wi) (he:EX c.cut scope.names slc elt we)
 {D:Addr} {P:Nat→Value→Prop} {m:Str→Option Value} {items:List Lz.D}
 (a:At c F sl s σ Z ξ) (SI:ax F.A F.env F.s0 σ Z I) (SD:ax F.A F.env F.s0 σ Z D) (SC:ax F.A F.env F.s0 σ Z C) (hID:I≠D) (hIC:I≠C) (hDC:D≠C)
 (hit:jh F.A Z I items P St fp) (hst:St 0 s.heap) (hacc:s.heap.PlainList D #[]) (hC:s.heap.Ns C m) (hz:items.length≤1048576) (hw:iT (gt wt wi we c.cut (bp init ξ)) items [] σ Ψ)
 (q:∀s' σ' Z' vs ds m',At c F sl s' σ' Z' ξ→Z.le Z'→ax F.A F.env F.s0 σ' Z' D→ax F.A F.env F.s0 σ' Z' C→s'.heap.PlainList D vs→aB Z' vs.toList ds→s'.heap.Ns C m'→Ψ ds σ'→RR (.ok .next) s'):
 codeAny cx.M F.A (.compLoop (.ListComp elt [⟨target,iter,ifs,0⟩] scope pos) 0 (.ref I) (.ref D) (compEnvC scope cl C F.env)) RR s:=
 nW (P0:=fun zz zz=>False) (G:=fun s=>codeAny cx.M F.A (.compLoop (.ListComp elt [⟨target,iter,ifs,0⟩] scope pos) 0 (.ref I) (.ref D) (compEnvC scope cl C F.env)) RR s) S cn k ok ht hi he
  (fun d σ Φ h=>ht.mono _ _ _ _ _ (fun zz zz w0=>xA w0 fun h1 h2=>⟨⟨qU cn h2,h2⟩,h1⟩) (ht.caps (oG ok) _ _ _ _ h)) (fun dR h n s hs=>ik dR h n hs) a SI SD SC hID hIC hDC (fun zz zz h=>h.elim) (fun zz zz h=>h.elim)
  (tY S cn k ok a.gs hC SC).CT (fun zz zz zz zz=>rfl) hit hst hacc .nil (by exact rE (show(#[]:Array Value).size=0 from rfl) (rE (Nat.zero_add _) hz)) hw fun s' σ' Z' vs ds m' a' z sD sC zz pl zz rs hn h=>q s' σ' Z' vs ds m' a' z sD sC pl rs hn h
end
end
section
section
variable{init:List (Option Nat)}{scope:Scope}
theorem GS.E3{o:Obj}(G:GS A env sl s0 CP Z0 s σ Z ξ)(S:ax A env s0 σ Z I)(ho:s.heap.get? I=some o):Z.le (Z.put I o)∧GS A env sl s0 CP Z0 s σ (Z.put I o) ξ:=by
 have hz:Z.le (Z.put I o):=fun b o' e=>by
  have:b≠I:=fun q=>by rw[q,S.zone]at e;exact nS e
  exact rE (am.CO Z o this) e
 have nz:∀b,b≠I→Z b=none→Z.put I o b=none:=fun b hb e=>by exact rE (am.CO Z o hb) e
 refine⟨hz,⟨am.le_trans G.grow.DM hz,G.grow.keep,fun b hb=>?_,G.grow.C1,G.grow.live⟩,⟨G.inv.ok,fun b o' e=>hz b o' (G.inv.base b o' e),fun b o' e=>?_,fun b ao e=>?_⟩,
  G.CT.keeps (fun b o' zz e=>(aP o' e rfl)) hz fun b hb=>⟨(G.CT.off b hb).1,nz b (fun q=>S.mine (q▸hb)) (G.CT.off b hb).2⟩,
  G.stk.keeps (fun b o' zz e=>(aP o' e rfl)) fun b hb=>⟨(G.stk.off b hb).1,nz b (fun q=>S.fr (q▸hb)) (G.stk.off b hb).2⟩,G.same⟩
 ·by_cases q:b=I
  ·subst q;exact .inr (.inr S.new)
  ·rw[am.CO Z o q]at hb;exact G.grow.C8 b hb
 ·by_cases q:b=I
  ·subst q;rw[am.CN]at e;(replace e:=sI e;subst e);exact ho
  ·rw[am.CO Z o q]at e;exact G.inv.zone b o' e
 ·refine ck (G.inv.own b ao e) fun h1 o' h2 h3=>?_
  exact(gp (nz b (fun q=>by rw[q,S.own]at e;exact nS e) h1) o' h2 (h3.mono hz))
theorem GS.Eo{o:Obj}(G:GS A env sl s0 CP Z0 s σ Z ξ)(S:ax A env s0 σ Z I)(ho:s.heap.get? I=some o)(hm:OM Z I o ao):GS A env sl s0 CP Z0 s (σ.put I ao) Z ξ:=by
 have no:∀b,b≠I→σ b=none→σ.put I ao b=none:=fun b hb e=>by simp only[af.put,if_neg hb];exact e
 refine⟨⟨G.grow.DM,G.grow.keep,G.grow.C8,fun b hb=>?_,G.grow.live⟩,kX G.inv S.zone ho hm,
  G.CT.keeps (fun b o' zz e=>(aP o' e rfl)) (am.le_refl Z) fun b hb=>⟨no b (fun q=>S.mine (q▸hb)) (G.CT.off b hb).1,(G.CT.off b hb).2⟩,
  G.stk.keeps (fun b o' zz e=>(aP o' e rfl)) fun b hb=>⟨no b (fun q=>S.fr (q▸hb)) (G.stk.off b hb).1,(G.stk.off b hb).2⟩,G.same⟩
 by_cases q:b=I
 ·subst q;exact .inr S.new
 ·simp only[af.put,if_neg q]at hb;exact G.grow.C1 b hb
def qz(own:Bool)(ds:List D)(σ:af)(Φ:D→af→Prop):Prop:=if own=true then∀a,σ a=none→Φ (.ref a) (σ.put a (.lst ds))else Φ (.lst ds) σ
def gW(Dy:Pos)(scope:Scope)(wit:WE)(wt:WT)(wi:WC)(we:WE)(init:List (Option Nat)):WE:=fun c ξ σ Φ=>dG scope=true∧wit c ξ σ fun d σ1=>(∀a,d≠ .ref a)∧∃items,eL σ1 d=some items∧items.length≤1048576∧
 iT (gt wt wi we c.cut (bp init ξ)) items [] σ1 fun ds σ2=>qz (c.owns Dy) ds σ2 Φ
theorem qV{F:Fr}(cn:bQ ns sl scope.names slc init)
 (hit:EX c ns sl iter wit) (ht:sO c.cut scope.names slc target wt) (hi:ug c.cut scope.names slc ifs wi) (he:EX c.cut scope.names slc elt we)
 (S:ge F.env ns sl) (a:At c F sl s σ Z ξ) (q:gW Dy scope wit wt wi we init c ξ σ Φ)
 (fin:∀s' σ' Z' D C d m',At c F sl s' σ' Z' ξ→Z.le Z'→aw Z' (.ref D) d→Φ d σ'→ax F.A F.env F.s0 σ' Z' C→s'.heap.Ns C m'→compPost cx.M F.A F.E use Q (.ref D) C (.ok .next) s'):
 wpAny cx.M F.A (comprehension (.ListComp elt [⟨target,iter,ifs,0⟩] scope pos) scope F.env pos' (newList []) false (eval iter F.env) use) Q F.E s:=by
 revert cn hit ht hi he S a q fin;revert c ns sl slc init s σ Z ξ scope F elt target iter ifs pos pos' wit wt wi we Dy Φ use Q;apply B6
 generalize (bY _ _).1.1.1.1.1=pos,(bY _ _).1.1.1.1.2=pos',(bY _ _).1.1.1.2.1=Dy,(bY _ _).1.1.1.2.2=Q,(bY _ _).1.1.2.1.1=s,(bY _ _).1.1.2.1.2=Z,(bY _ _).1.1.2.2=sl,(bY _ _).1.2.1.1.1=slc,(bY _ _).1.2.1.1.2=ifs,(bY _ _).1.2.1.2=target,(bY _ _).1.2.2.1.1=elt,(bY _ _).1.2.2.1.2=iter,(bY _ _).1.2.2.2=σ,(bY _ _).2.1.1.1.1=Φ,(bY _ _).2.1.1.1.2=use,(bY _ _).2.1.1.2=c,(bY _ _).2.1.2.1.1=we,(bY _ _).2.1.2.1.2=wit,(bY _ _).2.1.2.2=ξ,(bY _ _).2.2.1.1.1=ns,(bY _ _).2.2.1.1.2=wi,(bY _ _).2.2.1.2=wt,(bY _ _).2.2.2.1.1=init,(bY _ _).2.2.2.1.2=scope,(bY _ _).2.2.2.2=F;intro cn hit ht hi he S a q fin
 revert q;refine fun h0=>xA h0 fun ok q=>?_;clear h0
 have ok':=ok
 simp only[dG,Bool.and_eq_true,decide_eq_true_eq,beq_iff_eq]at ok'
 have nd:=ok'.1.2
 have hlook:∀x,(x,NameKind.free)∈scope.names→∃a,F.env.cells.lookup x=some a:=fun x hx=>by
  refine dF (cn.all x hx) fun h1 h2 h3=>?_
  rcases S.fs.kinds x h2 with q|⟨a,_,q⟩
  ·rw[S.Fk x _ h3 (by decide)]at q;cases q
  ·exact(iE a q)
 refine cz (fg hlook) fun cl hcl k1 k2=>?_
 have k:sM F.env scope cl:=⟨k1,k2⟩
 refine wpAny_comprehension_free (use:=use) rfl (iD hit.form F.env) hcl ok'.1.1 (fun x hx hl=>?_) (hit.ok _ _ _ q _ _ _ _ S a fun v s1 d σ1 Z1 a1 z1 r1 w0=>mS w0 fun hn items hi1 hz q1=>?_)
 ·obtain⟨x1,x2⟩:=x
  simp only at hl;subst hl
  exact bS nd hx
 refine oJ a.DA a1.gs r1 hn hi1 hz fun I P St fp s2 g2 hI hit2 hst=>?_
 have D5:=ax.fresh a1.gs hI
 have sI:ax F.A F.env F.s0 σ1 Z1 I:=⟨D5.new,D5.own,D5.zone,D5.mine,D5.fr⟩
 refine eB (hit2.obj 0 _ hst) fun oI TI hoI zz=>?_
 refine wpAny_newObj_type (wpAny_newFunctionEnv (fun x hx=>cn.CY x hx) (by intro y hy;simp at hy) (fun h₁ hns₁ hsb₁=>?_) ok'.1.1) (by refine(?_:0≤2^24);decide)
 dsimp only at hns₁ hsb₁⊢
 have D0:s2.heap.get? s2.heap.objs.size=none:=aS _
 have EI:=ax.fresh g2 D0
 have g3:=g2.Dh {cls:= .type "list",data:= .seq ([]:List Value).toArray} s2.toks
 generalize hH2:s2.heap.push {cls:= .type "list",dict:=none,data:= .seq ([]:List Value).toArray}=H2 at hns₁ hsb₁ g3⊢
 have hsz:H2.objs.size=s2.heap.objs.size+1:=by exact rF hH2 (rE (Heap.size_push _ _) rfl)
 have C0:H2.get? H2.objs.size=none:=aS _
 have EJ:=ax.fresh (s:={s2 with heap:=H2,toks:=s2.toks}) g3 C0
 have old:∀b o,H2.get? b=some o→h₁.get? b=some o:=fun b o e=>by
  have hb:b≠H2.objs.size:=Nat.ne_of_lt (Heap.lt_size e)
  exact(hsb₁.2 b hb).trans (Heap.get?_push_of_some _ e)
 have g4:GS F.A F.env sl F.s0 F.CP F.Z0 {s2 with heap:=h₁,toks:=s2.toks+0} σ1 Z1 ξ:=g3.keeps (t:=s2.toks+0) old
 have hDC:s2.heap.objs.size≠H2.objs.size:=by exact rE hsz (Nat.ne_of_lt (Nat.lt_succ_self _))
 have hID:I≠s2.heap.objs.size:=Nat.ne_of_lt (Heap.lt_size hoI)
 have hIC:I≠H2.objs.size:=by exact rE hsz (Nat.ne_of_lt (Nat.lt_succ_of_lt (Heap.lt_size hoI)))
 have sD:ax F.A F.env F.s0 σ1 Z1 s2.heap.objs.size:=⟨EI.new,EI.own,EI.zone,EI.mine,EI.fr⟩
 have sC:ax F.A F.env F.s0 σ1 Z1 H2.objs.size:=⟨EJ.new,EJ.own,EJ.zone,EJ.mine,EJ.fr⟩
 have GD:∀b o,s2.heap.get? b=some o→h₁.get? b=some o:=fun b o e=>old b o (by exact rF hH2 (Heap.get?_push_of_some _ e))
 have hst₁:St 0 h₁:=hit2.walks.frame 0 _ _ hst fun b zz o e=>GD b o e
 have hacc:h₁.PlainList s2.heap.objs.size #[]:=(iE 0 (old _ _ (by exact rF hH2 (Heap.get?_push_size _ rfl))))
 have loop:∀s3:Shared,s3={s2 with heap:=h₁,toks:=s2.toks+0}→codeAny cx.M F.A (.compLoop (.ListComp elt [⟨target,iter,ifs,0⟩] scope pos) 0 (.ref I) (.ref s2.heap.objs.size) (compEnvC scope cl H2.objs.size F.env))
  (compPost cx.M F.A F.E use Q (.ref s2.heap.objs.size) H2.objs.size) s3:=by
  rintro s3 rfl
  refine vo S cn k ok ht hi he (a.to g4) sI sD sC hID hIC hDC hit2 hst₁ hacc hns₁ hz q1 fun s' σ' Z' vs ds m' A' z' FG DJ hpl hr hn' hΨ=>?_
  refine xE hpl fun n' hpl'=>?_;clear hpl
  unfold qz at hΨ
  generalize c.owns Dy=own at hΨ
  cases own
  ·refine xA (A'.gs.E3 FG hpl') fun zz G''=>?_
   exact fin _ _ _ _ _ _ m' (a.to G'') (am.le_trans z1 (am.le_trans z' zz)) (.lst (am.CN _ _ _) ⟨rfl,rfl⟩ rfl (hr.mono zz)) hΨ ⟨DJ.new,DJ.own,by refine rE (am.CO _ _ (Ne.symm hDC)) ?_;exact DJ.zone,DJ.mine,DJ.fr⟩ hn'
  ·have G'':=A'.gs.Eo FG hpl' (.lst hr)
   exact fin _ _ _ _ _ _ m' (a.to G'') (am.le_trans z1 z') (.ref _) (hΨ _ FG.own) ⟨DJ.new,by simp only[af.put,if_neg (Ne.symm hDC)];exact DJ.own,DJ.zone,DJ.mine,DJ.fr⟩ hn'
 exact codeAny_compStart_list (loop _ rfl) (hit2.walks.self 0 _ _ _ hst₁ (loop _ rfl))
instance{scope:Scope}{init:List (Option Nat)}[cn:bQ ns sl scope.names slc init][hit:EX c ns sl iter wit][ht:sO c.cut scope.names slc target wt]
 [hi:ug c.cut scope.names slc ifs wi] [he:EX c.cut scope.names slc elt we]:EX c ns sl (.ListComp elt [⟨target,iter,ifs,0⟩] scope pos) (gW pos scope wit wt wi we init):=
 EX.of rfl fun ξ σ Φ q F s Z Q S a κ=>by
  refine rE (eval_ListComp _ _ _ _) ?_
  refine qV (use:=none) cn hit ht hi he S a q fun s' σ' Z' D C d m' g z r h sc hn=>?_
  refine(aP m' hn (fun h' hs=>?_))
  exact κ _ _ d σ' Z' (g.to (g.gs.side (t:=s'.toks) sc fun b o hb e=>(hs.2 b hb).trans e)) z r h
instance{scope:Scope}{init:List (Option Nat)}{wx:WT}[cn:bQ ns sl scope.names slc init][hit:EX c ns sl iter wit]
 [ht:sO c.cut scope.names slc target wt] [hi:ug c.cut scope.names slc ifs wi] [he:EX c.cut scope.names slc elt we] [hx:TX c ns sl (.Name x p) wx]:
 rx c ns sl (.Assign [.Name x p] (.ListComp elt [⟨target,iter,ifs,0⟩] scope pos) pos') (bj (gW pos scope wit wt wi we init) wx):=
 ⟨fun ξ σ Φ q F s Z Q S a κ=>by
  have hE:EX c ns sl (.ListComp elt [⟨target,iter,ifs,0⟩] scope pos) (gW pos scope wit wt wi we init):=inferInstance
  have hsw:∃b,swapsWith (.ListComp elt [⟨target,iter,ifs,0⟩] scope pos) (some (.Name x p)) pos'.line F.env=pure b:=(iE _ rfl)
  revert hsw;refine fun h0=>xE h0 fun b hsw=>?_;clear h0
  cases b
  ·exact gu hE hx hsw rfl S a q κ
  ·refine rE (exec_Assign_Name_used _ _ _ _ hsw) ?_
   refine wpAny_bind (wpAny_standAt (wpAny_bind ?_))
   refine(?_:wpAny _ F.A (do let _←comprehension (.ListComp elt [⟨target,iter,ifs,0⟩] scope pos) scope F.env _ (newList []) false (eval iter F.env) (some (assign (.Name x p) F.env))) _ _ s)
   refine wpAny_bind (wpAny_mono (qV (use:=some (assign (.Name x p) F.env)) (Q:=fun zz s'=>Q .next s') cn hit ht hi he S a q fun s' σ' Z' D C d m' g z r h sc hn=>?_) (fun zz s' hq=>wpAny_pure (wpAny_pure hq)) fun zz zz e=>e)
   have a':At c ⟨F.A,F.env,s',σ',Z',F.E⟩ sl s' σ' Z' ξ:=⟨a.DA,g.gs.here,a.err.here g.gs⟩
   refine hx.ok _ _ _ _ h ⟨F.A,F.env,s',σ',Z',F.E⟩ _ _ _ _ S a' r fun s2 ξ2 σ2 Z2 a2 z2 q2=>?_
   refine gf hn fun o es ep ho hrest=>?_;clear hn
   refine dF (cq sc.own sc.zone (fun q=>sc.mine q.mine) sc.fr ho a2.gs) fun e1 e2 e3=>?_
   refine(aP m' (jE o es ep e3 hrest) (fun h' hs=>?_))
   have g3:=(g.gs.comp a2.gs).side (t:=s2.toks) (I:=C) ⟨sc.new,e1,e2,sc.mine,sc.fr⟩ fun b o hb e=>(hs.2 b hb).trans e
   exact κ _ _ _ _ _ _ (g.to g3) (am.le_trans z z2) .next q2⟩
end
end
section
theorem qX(elt t0 i0 t1 i1:Expr)(Df fs1:List Expr)(scope:Scope)(pos:Pos)(it acc:Value)(env:Env):
 compTurn (.ListComp elt [⟨t0,i0,Df,0⟩,⟨t1,i1,fs1,0⟩] scope pos) 1 it acc env=(do
  standAt i1.pos
  match←pyNext it with
  |none=>pure (.done .next)
  |some v=>
   letOwnedTupleGo t1 it v
   assign t1 env v
   let mut ok:=true
   for c in fs1 do
    if ok then ok←isTrue c env (eval c env)
   if ok then
    (do let _←call (.builtin "list.append") [acc,←eval elt env])
   again (.compLoop (.ListComp elt [⟨t0,i0,Df,0⟩,⟨t1,i1,fs1,0⟩] scope pos) 1 it acc env)):=by rfl
theorem qY(elt t0 i0 t1 i1:Expr)(Df fs1:List Expr)(scope:Scope)(pos:Pos)(it acc:Value)(env:Env):
 compTurn (.ListComp elt [⟨t0,i0,Df,0⟩,⟨t1,i1,fs1,0⟩] scope pos) 0 it acc env=(do
  standAt i0.pos
  match←pyNext it with
  |none=>pure (.done .next)
  |some v=>
   letOwnedTupleGo t0 it v
   assign t0 env v
   let mut ok:=true
   for c in Df do
    if ok then ok←isTrue c env (eval c env)
   if ok then
    let x←eval i1 env
    standAt i1.pos
    let x←foldedSetIterable i1 env x
    let _←runOwn (.compStart (.ListComp elt [⟨t0,i0,Df,0⟩,⟨t1,i1,fs1,0⟩] scope pos) 1 (←holding [x] (pyIter x)) acc env) env
   again (.compLoop (.ListComp elt [⟨t0,i0,Df,0⟩,⟨t1,i1,fs1,0⟩] scope pos) 0 it acc env)):=by rfl
section
variable{w:World}
theorem iN{scope:Scope}(I:Nat→Shared→Prop)
 (turn:∀n s,I n s→mB (model prog w) A env t1 elt fs1 it acc R I n s)
 (n:Nat) (h:I n s):
 codeAny (model prog w) A (.compLoop (.ListComp elt [⟨t0,i0,Df,0⟩,⟨t1,i1,fs1,0⟩] scope pos) 1 it acc env) R s:=by
 refine codeAny_loop rfl I (fun n s hI=>?_) n h
 refine(?_:wpAny _ A ((compTurn (.ListComp elt [⟨t0,i0,Df,0⟩,⟨t1,i1,fs1,0⟩] scope pos) 1 it acc env).onRaise (fun x=>do noteFrame x env;theTreesLotGoes x)) _ _ s)
 refine wpAny_noted ?_
 refine rE (qX _ _ _ _ _ _ _ _ _ _ _ _) ?_
 refine wpAny_bind (wpAny_standAt (wpAny_bind (wpAny_mono (turn n s hI) (fun r s₁ h₁=>?_) fun zz zz h'=>h')))
 cases r with
 |none=>exact wpAny_pure h₁
 |some v=>
  refine wpAny_bind (wpAny_mono h₁ (fun zz s₁' h₁'=>?_) fun zz zz h'=>h')
  refine wpAny_bind (wpAny_mono h₁' (fun zz s₂ h₂=>wpAny_bind (wpAny_mono h₂ (fun ok s₃ h₃=>?_) fun zz zz h'=>h')) fun zz zz h'=>h')
  cases ok with
  |false=>exact wpAny_pure ⟨rfl,h₃⟩
  |true=>
   exact wpAny_bind (wpAny_bind (wpAny_mono h₃ (fun x s₄ h₄=>wpAny_bind (wpAny_mono h₄ (fun zz s₅ h₅=>wpAny_pure (wpAny_pure ⟨rfl,h₅⟩)) fun zz zz h'=>h')) fun zz zz h'=>h'))
theorem iO{scope:Scope}(hf:kI i1=true)(I:Nat→Shared→Prop)
 (turn:∀n s,I n s→wpAny (model prog w) A (pyNext it) (fun r s₁=>match r with
  |none=>R (.ok .next) s₁
  |some v=>wpAny (model prog w) A (letOwnedTupleGo t0 it v) (fun zz s₁'=>wpAny (model prog w) A (assign t0 env v) (fun zz s₂=>
   wpAny (model prog w) A (iY Df env) (fun ok s₃=>
    if ok=true then wpAny (model prog w) A (eval i1 env) (fun x s₄=>wpAny (model prog w) A (pyIter x) (fun Gv s₅=>
     codeAny (model prog w) A (.compStart (.ListComp elt [⟨t0,i0,Df,0⟩,⟨t1,i1,fs1,0⟩] scope pos) 1 Gv acc env) (fun r s'=>match r with
      | .ok _=>∃m,m<n∧I m s'
      | .error e=>cameBackBy (model prog w) A env (notedBy (model prog w) A env fun e s'=>R (.error e) s') e s') s₅) (notedBy (model prog w) A env fun e s'=>R (.error e) s') s₄) (notedBy (model prog w) A env fun e s'=>R (.error e) s') s₃
    else∃m,m<n∧I m s₃) (notedBy (model prog w) A env fun e s'=>R (.error e) s') s₂) (notedBy (model prog w) A env fun e s'=>R (.error e) s') s₁') (notedBy (model prog w) A env fun e s'=>R (.error e) s') s₁) (notedBy (model prog w) A env fun e s'=>R (.error e) s') s)
 (n:Nat) (h:I n s):
 codeAny (model prog w) A (.compLoop (.ListComp elt [⟨t0,i0,Df,0⟩,⟨t1,i1,fs1,0⟩] scope pos) 0 it acc env) R s:=by
 revert hf turn h;revert prog w A R s elt t0 i0 t1 i1 Df fs1 scope pos it acc env I n;apply zp
 generalize (aZ _ _).1.1.1.1.1=pos,(aZ _ _).1.1.1.1.2=A,(aZ _ _).1.1.1.2=s,(aZ _ _).1.1.2.1=env,(aZ _ _).1.1.2.2=it,(aZ _ _).1.2.1.1.1=acc,(aZ _ _).1.2.1.1.2=Df,(aZ _ _).1.2.1.2=fs1,(aZ _ _).1.2.2.1=elt,(aZ _ _).1.2.2.2=t0,(aZ _ _).2.1.1.1.1=i0,(aZ _ _).2.1.1.1.2=t1,(aZ _ _).2.1.1.2=i1,(aZ _ _).2.1.2.1=prog,(aZ _ _).2.1.2.2=R,(aZ _ _).2.2.1.1=w,(aZ _ _).2.2.1.2=scope,(aZ _ _).2.2.2.1=I,(aZ _ _).2.2.2.2=n;intro hf turn h
 refine codeAny_loop rfl I (fun n s hI=>?_) n h
 refine(?_:wpAny _ A ((compTurn (.ListComp elt [⟨t0,i0,Df,0⟩,⟨t1,i1,fs1,0⟩] scope pos) 0 it acc env).onRaise (fun x=>do noteFrame x env;theTreesLotGoes x)) _ _ s)
 refine wpAny_noted ?_
 refine rE (qY _ _ _ _ _ _ _ _ _ _ _ _) ?_
 refine wpAny_bind (wpAny_standAt (wpAny_bind (wpAny_mono (turn n s hI) (fun r s₁ h₁=>?_) fun zz zz h'=>h')))
 cases r with
 |none=>exact wpAny_pure h₁
 |some v=>
  refine wpAny_bind (wpAny_mono h₁ (fun zz s₁' h₁'=>?_) fun zz zz h'=>h')
  refine wpAny_bind (wpAny_mono h₁' (fun zz s₂ h₂=>wpAny_bind (wpAny_mono h₂ (fun ok s₃ h₃=>?_) fun zz zz h'=>h')) fun zz zz h'=>h')
  cases ok with
  |false=>exact wpAny_pure ⟨rfl,h₃⟩
  |true=>
   refine wpAny_bind (wpAny_mono h₃ (fun x s₄ h₄=>wpAny_bind (wpAny_standAt (wpAny_bind (wpAny_of_eq (iD hf env x) (wpAny_bind (wpAny_holding (wpAny_mono h₄ (fun Gv s₅ h₅=>?_) fun zz zz h'=>h'))))))) fun zz zz h'=>h')
   exact wpAny_bind (wpAny_runOwn (codeAny_mono h₅ fun r s' hr=>by
    cases r with
    |ok f=>exact wpAny_pure ⟨rfl,hr⟩
    |error e=>exact hr))
end
def A6(turn:D→List D→af→(List D→af→Prop)→Prop):List D→List D→af→(List D→af→Prop)→Prop
 |[],acc,σ,Φ=>Φ acc σ
 |d::ds,acc,σ,Φ=>turn d acc σ fun acc' σ'=>A6 turn ds acc' σ' Φ
def my(t0:WT)(H1:WC)(Db:WE)(t1:WT)(DR:WC)(we:WE)(c:Ct)(ξc:Lo):D→List D→af→(List D→af→Prop)→Prop:=fun d acc σ Ψ=>t0 c d ξc σ fun ξ1 σ1=>H1 c ξ1 σ1 fun b σ2=>if b=true then Db c ξ1 σ2 fun d1 σ3=>
 (∀a,d1≠ .ref a)∧∃items,eL σ3 d1=some items∧items.length≤1000∧iT (gt (vJ t1) DR we c ξ1) items acc σ3 Ψ else Ψ acc σ2
section
variable{init:List (Option Nat)}{scope:Scope}
theorem sE{F:Fr}(S:ge F.env ns sl)(cn:bQ ns sl scope.names slc init)(k:sM F.env scope cl)(ok:dG scope=true)
 (ht:sO c.cut scope.names slc t1 wt) (hi:ug c.cut scope.names slc fs1 wi) (he:EX c.cut scope.names slc elt we)
 {I0 D:Addr} {GL:Obj} {P:Nat→Value→Prop} {items:List Lz.D}
 (a:At c F sl s σ Z ξ) (SI:ax F.A F.env F.s0 σ Z I) (S0:ax F.A F.env F.s0 σ Z I0) (SD:ax F.A F.env F.s0 σ Z D) (SC:ax F.A F.env F.s0 σ Z C) (hID:I≠D) (hIC:I≠C) (hDC:D≠C) (IJ:I0≠I) (IK:I0≠D) (IL:I0≠C)
 (hI0:s.heap.get? I0=some GL) (CT:rl (compEnvC scope cl C F.env) slc s.heap σ Z ξ1) (E0:∀(i:Nat) (x:Str),slc[i]?=some x→(x,NameKind.free)∈scope.names→ξ1[i]?=(bp init ξ)[i]?)
 (hit:jh F.A Z I items P St fp) (hst:St 0 s.heap) (hacc:s.heap.PlainList D EA) (hr0:aB Z EA.toList FL) (hz:EA.size+items.length≤1048576)
 (hw:iT (gt (vJ wt) wi we c.cut ξ1) items FL σ Ψ)
 (q:∀s' σ' Z' vs ds m',At c F sl s' σ' Z' ξ→Z.le Z'→ax F.A F.env F.s0 σ' Z' I0→ax F.A F.env F.s0 σ' Z' D→ax F.A F.env F.s0 σ' Z' C→s'.heap.get? I0=some GL→s'.heap.PlainList D vs→vs.size≤EA.size+items.length→aB Z' vs.toList ds→s'.heap.Ns C m'→Ψ ds σ'→RR (.ok .next) s'):
 codeAny cx.M F.A (.compLoop (.ListComp elt [⟨t0,i0,Df,0⟩,⟨t1,i1,fs1,0⟩] scope pos) 1 (.ref I) (.ref D) (compEnvC scope cl C F.env)) RR s:=
 nW (E6:=vJ wt) (P0:=fun b o=>b=I0∧o=GL) (G:=fun s=>codeAny cx.M F.A (.compLoop (.ListComp elt [⟨t0,i0,Df,0⟩,⟨t1,i1,fs1,0⟩] scope pos) 1 (.ref I) (.ref D) (compEnvC scope cl C F.env)) RR s) S cn k ok ht hi he
  (fun d σ Φ h=>ht.mono _ _ _ _ _ (fun zz zz w0=>xA w0 fun h1 h2=>⟨⟨h1.1,h2⟩,h1.2⟩) (ht.caps (oG ok) _ _ _ _ h)) (fun dR h n s hs=>iN dR h n hs) a SI SD SC hID hIC hDC (fun zz zz h=>h.1▸(dx IJ IK IL)) (fun zz zz w0=>xA w0 fun h1 h2=>by subst h1 h2;exact⟨S0,hI0⟩)
  CT E0 hit hst hacc hr0 hz hw fun s' σ' Z' vs ds m' a' z sD sC kp pl sz rs hn h=>let K:=kp _ _ ⟨rfl,rfl⟩;q s' σ' Z' vs ds m' a' z K.1 sD sC K.2 pl sz rs hn h
end
end
section
section
variable{init:List (Option Nat)}{scope:Scope}
theorem pP{w:World}{scope pos it acc env:_}
 (h0:codeAny (model prog w) A (.compLoop (.ListComp elt [⟨t0,i0,Df,0⟩,⟨t1,i1,fs1,0⟩] scope pos) 1 it acc env) R s)
 (h:wpAny (model prog w) A (pyIter it) (fun it' s'=>codeAny (model prog w) A (.compLoop (.ListComp elt [⟨t0,i0,Df,0⟩,⟨t1,i1,fs1,0⟩] scope pos) 1 it' acc env) R s')
  (notedBy (model prog w) A env fun x s'=>R (.error x) s') s):
 codeAny (model prog w) A (.compStart (.ListComp elt [⟨t0,i0,Df,0⟩,⟨t1,i1,fs1,0⟩] scope pos) 1 it acc env) R s:=by
 refine codeAny_of_tree ?_
 refine(?_:wpAny _ _ ((compStart (.ListComp elt [⟨t0,i0,Df,0⟩,⟨t1,i1,fs1,0⟩] scope pos) 1 it acc env).onRaise (fun x=>do noteFrame x env;standAt theWindowsPlace)) _ _ s)
 refine wpAny_notedAt ?_
 delta compStart
 refine(?_:wpAny _ _ (ask>>=_) _ _ s)
 refine wpAny_bind (wpAny_askSetting (wpAny_ite ?_))
 split
 ·first
   |exact wpAny_bind (wpAny_pure (wpAny_pure (And.intro rfl h0)))
   |exact wpAny_pure (And.intro rfl h0)
 ·first
   |exact wpAny_bind (wpAny_rule (wpAny_bind (wpAny_standAt (wpAny_bind (wpAny_mono h (fun it' s' h'=>wpAny_pure (And.intro rfl h')) fun zz zz x=>x)))))
   |(refine wpAny_bind (wpAny_rule ?_);refine(?_:wpAny _ _ (standAt i1.pos>>=_) _ _ s);exact wpAny_bind (wpAny_standAt (wpAny_bind (wpAny_mono h (fun it' s' h'=>wpAny_pure (And.intro rfl h')) fun zz zz x=>x))))
inductive xy(c:Ct)(F:Fr)(sl slc:List Str)(ξ ξ1:Lo)(ce:Env)(Z:am)(I D C:Addr)(items:List Lz.D)(P:Nat→Value→Prop)(St:Nat→Heap→Prop)(fp:List Addr)
 (turn:Lz.D→List Lz.D→af→(List Lz.D→af→Prop)→Prop) (Ψ:List Lz.D→af→Prop):Nat→Shared→Prop
 |mk {i:Nat} {s':Shared} {σ':af} {Z':am} {vs:Array Value} {ds:List Lz.D} {m:Str→Option Value} (a:At c F sl s' σ' Z' ξ) (z:Z.le Z') (sI:ax F.A F.env F.s0 σ' Z' I) (sD:ax F.A F.env F.s0 σ' Z' D) (sC:ax F.A F.env F.s0 σ' Z' C)
  (ns:s'.heap.Ns C m) (it:jh F.A Z' I items P St fp) (st:St i s'.heap) (le:i≤items.length)
  (acc:s'.heap.PlainList D vs) (rs:aB Z' vs.toList ds) (sz:vs.size≤i*1000) (w:A6 turn (items.drop i) ds σ' Ψ):xy c F sl slc ξ ξ1 ce Z I D C items P St fp turn Ψ (items.length+1-i) s'
def sP(M:Model)(A:Around)(ce:Env)(t i1:Expr)(fs:List Expr)(Nx:Shared→Prop)(St:Value→Shared→Prop)(v:Value)(s2:Shared):Prop:=
 wpAny M A (assign t ce v) (fun zz s3=>wpAny M A (iY fs ce) (fun ok s4=>(ok=false→Nx s4)∧(ok=true→wpAny M A (eval i1 ce) (fun x s5=>∀E:Value→Shared→Prop,wpAny M A (pyIter x) St E s5) (fun zz zz=>False) s4)) (fun zz zz=>False) s3) (fun zz zz=>False) s2
theorem sP.go{M:Model}{t:Expr}{fs:List Expr}{N0:Shared→Prop}(hq:∃o T,s2.heap.get? I=some o∧o.cls= .type T∧gi T=true)
 (h:∀(Nx:Shared→Prop) (St:Value→Shared→Prop),(∀s',N0 s'→Nx s')→(∀x s',S0 x s'→St x s')→sP M A ce t i1 fs Nx St v s2):
 wpAny M A (letOwnedTupleGo t (.ref I) v) (fun zz s₁'=>wpAny M A (assign t ce v) (fun zz s₂=>wpAny M A (iY fs ce) (fun ok s₃=>if ok=true then wpAny M A (eval i1 ce) (fun x s₄=>wpAny M A (pyIter x) (fun Gv s₅=>S0 Gv s₅) N s₄) N s₃ else N0 s₃) N s₂) N s₁') N s2:=
 let⟨_,_,ho,hc,hq⟩:=hq
 hM ho hc hq (wpAny_mono (h N0 S0 (fun zz h=>h) fun zz zz h=>h) (fun zz zz h=>wpAny_mono h (fun ok zz h=>by
  cases ok with
  |false=>exact h.1 rfl
  |true=>exact wpAny_mono (h.2 rfl) (fun zz zz h=>h _) fun zz zz h=>h.elim) fun zz zz h=>h.elim) fun zz zz h=>h.elim)
set_option tactic.hygienic true in
theorem sF{F:Fr}(S:ge F.env ns sl)(cn:bQ ns sl scope.names slc init)(k:sM F.env scope cl)(ok:dG scope=true)
 (ht:sO c.cut scope.names slc t0 wt) (hi:ug c.cut scope.names slc Df wi) (hit1:EX c.cut scope.names slc i1 Db) (ht1:sO c.cut scope.names slc t1 D3) (hi1:ug c.cut scope.names slc fs1 DR) (he:EX c.cut scope.names slc elt we)
 {D:Addr} {P:Nat→Value→Prop} {m:Str→Option Value} {items:List Lz.D}
 (a:At c F sl s σ Z ξ) (SI:ax F.A F.env F.s0 σ Z I) (SD:ax F.A F.env F.s0 σ Z D) (SC:ax F.A F.env F.s0 σ Z C) (hID:I≠D) (hIC:I≠C) (hDC:D≠C)
 (hit:jh F.A Z I items P St fp) (hst:St 0 s.heap) (hacc:s.heap.PlainList D #[]) (hC:s.heap.Ns C m) (hz:items.length≤1000)
 (hw:A6 (my wt wi Db D3 DR we c.cut (bp init ξ)) items [] σ Ψ)
 (q:∀s' σ' Z' vs ds m',At c F sl s' σ' Z' ξ→Z.le Z'→ax F.A F.env F.s0 σ' Z' D→ax F.A F.env F.s0 σ' Z' C→s'.heap.PlainList D vs→aB Z' vs.toList ds→s'.heap.Ns C m'→Ψ ds σ'→RR (.ok .next) s'):
 codeAny cx.M F.A (.compLoop (.ListComp elt [⟨t0,i0,Df,0⟩,⟨t1,i1,fs1,0⟩] scope pos) 0 (.ref I) (.ref D) (compEnvC scope cl C F.env)) RR s:=by
 revert S cn k ok ht hi hit1 ht1 hi1 he a SI SD SC hID hIC hDC hit hst hacc hC hz hw q;revert sl slc pos;revert c ns init s σ Z ξ scope cl C F elt t0 i0 t1 i1 Df fs1 wt D3 wi DR we Db I D P St fp RR Ψ m items;apply A7
 generalize (aT _ _).1.1.1.1.1.1=s,(aT _ _).1.1.1.1.1.2=Z,(aT _ _).1.1.1.1.2=C,(aT _ _).1.1.1.2.1=I,(aT _ _).1.1.1.2.2=Df,(aT _ _).1.1.2.1.1=fs1,(aT _ _).1.1.2.1.2=elt,(aT _ _).1.1.2.2.1=t0,(aT _ _).1.1.2.2.2=i0,(aT _ _).1.2.1.1.1=t1,(aT _ _).1.2.1.1.2=i1,(aT _ _).1.2.1.2.1=σ,(aT _ _).1.2.1.2.2=cl,(aT _ _).1.2.2.1.1=RR,(aT _ _).1.2.2.1.2=St,(aT _ _).1.2.2.2.1=fp,(aT _ _).1.2.2.2.2=Ψ,(aT _ _).2.1.1.1.1=c,(aT _ _).2.1.1.1.2=we,(aT _ _).2.1.1.2.1=Db,(aT _ _).2.1.1.2.2=ξ,(aT _ _).2.1.2.1.1=ns,(aT _ _).2.1.2.1.2=wi,(aT _ _).2.1.2.2.1=DR,(aT _ _).2.1.2.2.2=wt,(aT _ _).2.2.1.1.1=D3,(aT _ _).2.2.1.1.2=init,(aT _ _).2.2.1.2.1=scope,(aT _ _).2.2.1.2.2=F,(aT _ _).2.2.2.1.1=D,(aT _ _).2.2.2.1.2=P,(aT _ _).2.2.2.2.1=m,(aT _ _).2.2.2.2.2=items;intro pos sl slc S cn k ok ht hi hit1 ht1 hi1 he a SI SD SC hID hIC hDC hit hst hacc hC hz hw q
 have T:=mu (C:=C) S cn k ok
 have C6:∀b,ax F.A F.env F.s0 σ Z b→b≠C→¬jg (compEnvC scope cl C F.env) b:=fun b sb hb q=>by
  rcases q with q|⟨n,q⟩
  ·exact hb q
  ·exact sb.mine (.inr (iE n ((cZ S cn k ok q).2.1)))
 have Gr:=C6 I SI hIC
 have FI:=C6 D SD hDC
 obtain⟨dR,hof,hmk⟩:∃dR:Nat→Shared→Prop,(∀n s,dR n s→xy c F sl slc ξ (bp init ξ) (compEnvC scope cl C F.env) Z I D C items P St fp (my wt wi Db D3 DR we c.cut (bp init ξ)) Ψ n s)∧
  ∀n s,xy c F sl slc ξ (bp init ξ) (compEnvC scope cl C F.env) Z I D C items P St fp (my wt wi Db D3 DR we c.cut (bp init ξ)) Ψ n s→dR n s:=(aP _ (fun zz zz h=>h) (fun zz zz h=>h))
 refine iO hit1.form dR (fun n s1 h=>?_) _ (hmk _ _ (.mk (i:=0) a (am.le_refl Z) SI SD SC hC hit hst (Nat.zero_le _) hacc .nil (Nat.zero_le _) hw))
 clear SI SD SC hit hst hacc hC hw C6
 cases hof _ _ h with
 |mk a1 hz1 Ed DL FN HO Ec Eb hin Dr hr1 hvs hw1=>
 rename_i i σ1 Z1 vs ds mC
 clear h hof
 by_cases hlt:i<items.length
 ·clear q
  refine Ec.walks.item i s1 _ _ hlt Eb fun v h2 tk2 hP hst2 hk2=>sP.go (Ec.obj (i+1) h2 hst2) fun Nx Sx hN hS=>?_
  refine aF (Ec.rep i v hlt hP) fun d hd hr=>?_
  obtain⟨o,Tn,ho,-,-⟩:=Ec.obj (i+1) h2 hst2
  have C4:∀b o,b≠I→s1.heap.get? b=some o→h2.get? b=some o:=fun b o hb e=>hk2 b o (by simpa using hb) e
  have Gn:=a1.gs.side (t:=tk2) Ed C4
  have hdrop:items.drop i=d::items.drop (i+1):=by
   refine xE (List.getElem?_eq_some_iff.mp hd) fun zz e=>?_
   exact rE (List.drop_eq_getElem_cons hlt) (rE e rfl)
  rw[hdrop]at hw1
  have Gz:Heap.Ns h2 C mC:=HO.at' fun o e=>C4 C o hIC.symm e
  refine xE Dr fun Dz Dq=>?_;clear Dr
  have DG:h2.get? D=some {cls:= .type "list",data:= .seq vs Dz}:=C4 D _ hID.symm Dq
  obtain⟨s2,hs2⟩:∃s2:Shared,s2={s1 with heap:=h2,toks:=tk2}:=(iE _ rfl)
  refine rF hs2 ?_
  have G2:GS F.A F.env sl F.s0 F.CP F.Z0 s2 σ1 Z1 ξ:=by exact rE hs2 Gn
  have e2:h2=s2.heap:=by exact rE hs2 rfl
  subst e2
  clear Gn hs2 C4 hk2 Dq hP hdrop
  have ai:At c.cut ⟨F.A,compEnvC scope cl C F.env,s2,σ1,Z1,fun zz zz=>False⟩ slc s2 σ1 Z1 (bp init ξ):=⟨a1.DA,tY S cn k ok G2 Gz FN,PassesOwn.never,fun zz zz zz zz zz h=>h.elim⟩
  have fin:∀{s5 Dm Z5 ξ5},At c.cut ⟨F.A,compEnvC scope cl C F.env,s2,σ1,Z1,fun zz zz=>False⟩ slc s5 Dm Z5 ξ5→(∀(i:Nat) (x:Str),slc[i]?=some x→(x,NameKind.free)∈scope.names→ξ5[i]?=(bp init ξ)[i]?)→
   At c F sl s5 Dm Z5 ξ∧ax F.A F.env F.s0 Dm Z5 I∧ax F.A F.env F.s0 Dm Z5 D∧ax F.A F.env F.s0 Dm Z5 C∧(∃m',s5.heap.Ns C m')∧s5.heap.get? I=some o∧s5.heap.get? D=some {cls:= .type "list",data:= .seq vs Dz}:=by
   intro s5 Dm Z5 ξ5 a5 hcap
   refine dF (nX (C:=C) S cn k ok G2 Gz FN a5.gs hcap) fun b1 b2 b3=>?_
   refine dF (cq Ed.own Ed.zone (fun q=>Gr q.mine) Ed.fr ho a5.gs) fun i1 i2 i3=>?_
   refine dF (cq DL.own DL.zone (fun q=>FI q.mine) DL.fr DG a5.gs) fun d1 d2 d3=>?_
   exact(fw (a1.to b1) ⟨Ed.new,i1,i2,Ed.mine,Ed.fr⟩ ⟨DL.new,d1,d2,DL.mine,DL.fr⟩ (fw b2 b3 i3 d3))
  have next:∀{s5 Dm Z5 m5 vs' ds'},At c F sl s5 Dm Z5 ξ→Z1.le Z5→ax F.A F.env F.s0 Dm Z5 I→ax F.A F.env F.s0 Dm Z5 D→ax F.A F.env F.s0 Dm Z5 C→s5.heap.Ns C m5→s5.heap.get? I=some o→s5.heap.PlainList D vs'→aB Z5 vs'.toList ds'→vs'.size≤vs.size+1000→
   A6 (my wt wi Db D3 DR we c.cut (bp init ξ)) (items.drop (i+1)) ds' Dm Ψ→∃m,m<items.length+1-i∧dR m s5:=by
   intro s5 Dm Z5 m5 vs' ds' a5 z5 sI sD sC hn hI hl hr' hsz hw'
   refine(aP _ ?_ (hmk _ _ (.mk (i:=i+1) a5 (am.le_trans hz1 z5) sI sD sC hn (Ec.mono z5) (Ec.walks.frame (i+1) s2.heap s5.heap hst2 fun b hb o' e=>?_) hlt hl hr' (by lia) hw')))
   ·lia
   ·rcases Ec.fp b hb with rfl|⟨o2,e2⟩
    ·exact hI.trans (ho.symm.trans e)
    ·exact(a5.gs.inv.zone b _ (z5 b _ e2)).trans ((G2.inv.zone b o2 e2).symm.trans e)
  clear hmk
  refine ht.tx.ok d (bp init ξ) σ1 _ (ht.caps (oG ok) _ _ _ _ hw1) _ s2 Z1 v _ T ai hr fun s3 ξ3 σ3 Z3 a3 z3 w0=>xA w0 fun q3 hcap=>hi.ok _ _ _ q3 _ _ _ _ T a3 fun b s4 b' Dt Z4 a4 z4 r4 q4=>?_
  subst r4
  refine⟨fun hb=>?_,fun hb=>?_⟩<;>subst hb
  ·refine iu (fin a4 hcap) fun f1 f2 f3 f4 w4 f6 f7=>?_;obtain⟨m5,f5⟩:=w4
   have z:=am.le_trans z3 z4
   rw[if_neg (by decide)]at q4
   exact hN _ (next f1 z f2 f3 f4 f5 f6 (iE Dz f7) (hr1.mono z) (Nat.le_add_right _ _) q4)
  ·rw[if_pos rfl]at q4
   clear hN
   refine hit1.ok _ _ _ q4 _ _ _ _ T a4 fun x s5 d5 Dm Z5 a5 z5 r5 w0 E=>mS w0 fun It GU Iz I7 q5=>?_
   refine oJ a5.DA a5.gs r5 It Iz (by lia) fun I' P' St' fp' s6 g6 hI' Ga F7=>hS _ _ ?_
   clear hS
   have z:=am.le_trans z3 (am.le_trans z4 z5)
   refine iu (fin (a5.to g6) hcap) fun f1 f2 f3 f4 w4 f6 f7=>?_;obtain⟨m5,f5⟩:=w4
   obtain⟨e1,-,-,-,⟨m6,e5⟩,e6,e7⟩:=fin a5 hcap
   have D5:=ax.fresh e1.gs hI'
   have n1:I'≠I:=fun q=>by rw[q,e6]at hI';exact sN hI'
   have n2:I'≠D:=fun q=>by rw[q,e7]at hI';exact sN hI'
   have n3:I'≠C:=fun q=>by refine gf e5 fun o6 zz zz e zz=>?_;clear e5;rw[q,e]at hI';exact sN hI'
   have loop:∀{HW:Result→Shared→Prop},(∀s',(∃m,m<items.length+1-i∧dR m s')→HW (.ok .next) s')→codeAny cx.M F.A (.compLoop (.ListComp elt [⟨t0,i0,Df,0⟩,⟨t1,i1,fs1,0⟩] scope pos) 1 (.ref I') (.ref D) (compEnvC scope cl C F.env)) HW s6:=fun h=>
    sE S cn k ok ht1 hi1 he f1 ⟨D5.new,D5.own,D5.zone,D5.mine,D5.fr⟩ f2 f3 f4 n2 n3 hDC n1.symm hID hIC f6 g6.CT hcap Ga F7 (iE Dz f7) (hr1.mono z) (by lia) q5 fun s8 GB Z8 IV Jb m8 h1 h2' h3 h4 h5 h6 h7 h8 h9 h10 h11=>
     h _ (next h1 (am.le_trans z h2') h3 h4 h5 h10 h6 h7 h9 (by lia) h11)
   exact pP (loop fun zz h=>h) (Ga.walks.self 0 s6 _ _ F7 (loop fun zz h=>h))
 ·have hin:i=items.length:=by lia
  subst hin
  refine Ec.walks.done s1 _ _ Eb fun h2 tk2 hk2=>?_
  rw[List.drop_length]at hw1
  refine xE Dr fun Dz Dq=>?_;clear Dr
  exact q _ _ _ _ _ _ (a1.to (a1.gs.side Ed fun b o hb e=>hk2 b o (by simpa using hb) e)) hz1 DL FN (iE Dz (hk2 D _ (by simpa using hID.symm) Dq)) hr1 (HO.at' fun o e=>hk2 C o (by simpa using hIC.symm) e) hw1
def ou(Dy:Pos)(scope:Scope)(wit:WE)(wt:WT)(wi:WC)(Db:WE)(D3:WT)(DR:WC)(we:WE)(init:List (Option Nat)):WE:=fun c ξ σ Φ=>dG scope=true∧wit c ξ σ fun d σ1=>(∀a,d≠ .ref a)∧∃items,eL σ1 d=some items∧items.length≤1000∧
 A6 (my wt wi Db D3 DR we c.cut (bp init ξ)) items [] σ1 fun ds σ2=>qz (c.owns Dy) ds σ2 Φ
theorem pQ{w:World}{scope pos it acc env:_}
 (h0:codeAny (model prog w) A (.compLoop (.ListComp elt [⟨t0,i0,Df,0⟩,⟨t1,i1,fs1,0⟩] scope pos) 0 it acc env) R s)
 (h:wpAny (model prog w) A (pyIter it) (fun it' s'=>codeAny (model prog w) A (.compLoop (.ListComp elt [⟨t0,i0,Df,0⟩,⟨t1,i1,fs1,0⟩] scope pos) 0 it' acc env) R s')
  (notedBy (model prog w) A env fun x s'=>R (.error x) s') s):
 codeAny (model prog w) A (.compStart (.ListComp elt [⟨t0,i0,Df,0⟩,⟨t1,i1,fs1,0⟩] scope pos) 0 it acc env) R s:=codeAny_compStart_list h0 h
theorem vq{F:Fr}(cn:bQ ns sl scope.names slc init)
 (hit:EX c ns sl i0 wit) (ht:sO c.cut scope.names slc t0 wt) (hi:ug c.cut scope.names slc Df wi) (hit1:EX c.cut scope.names slc i1 Db) (ht1:sO c.cut scope.names slc t1 D3) (hi1:ug c.cut scope.names slc fs1 DR) (he:EX c.cut scope.names slc elt we)
 (S:ge F.env ns sl) (a:At c F sl s σ Z ξ) (q:ou Dy scope wit wt wi Db D3 DR we init c ξ σ Φ)
 (fin:∀s' σ' Z' D C d m',At c F sl s' σ' Z' ξ→Z.le Z'→aw Z' (.ref D) d→Φ d σ'→ax F.A F.env F.s0 σ' Z' C→s'.heap.Ns C m'→compPost cx.M F.A F.E none Q (.ref D) C (.ok .next) s'):
 wpAny cx.M F.A (comprehension (.ListComp elt [⟨t0,i0,Df,0⟩,⟨t1,i1,fs1,0⟩] scope pos) scope F.env pos' (newList []) false (eval i0 F.env) none) Q F.E s:=by
 revert cn hit ht hi hit1 ht1 hi1 he S a q fin;revert sl slc pos pos' Dy;revert c ns init s σ Z ξ scope F elt t0 i0 t1 i1 Df fs1 wit Db wt D3 wi DR we Φ Q;apply B6
 generalize (bY _ _).1.1.1.1.1=Q,(bY _ _).1.1.1.1.2=s,(bY _ _).1.1.1.2.1=Z,(bY _ _).1.1.1.2.2=Df,(bY _ _).1.1.2.1.1=fs1,(bY _ _).1.1.2.1.2=elt,(bY _ _).1.1.2.2=t0,(bY _ _).1.2.1.1.1=i0,(bY _ _).1.2.1.1.2=t1,(bY _ _).1.2.1.2=i1,(bY _ _).1.2.2.1.1=σ,(bY _ _).1.2.2.1.2=Φ,(bY _ _).1.2.2.2=c,(bY _ _).2.1.1.1.1=we,(bY _ _).2.1.1.1.2=wit,(bY _ _).2.1.1.2=Db,(bY _ _).2.1.2.1.1=ξ,(bY _ _).2.1.2.1.2=ns,(bY _ _).2.1.2.2=wi,(bY _ _).2.2.1.1.1=DR,(bY _ _).2.2.1.1.2=wt,(bY _ _).2.2.1.2=D3,(bY _ _).2.2.2.1.1=init,(bY _ _).2.2.2.1.2=scope,(bY _ _).2.2.2.2=F;intro pos pos' Dy sl slc cn hit ht hi hit1 ht1 hi1 he S a q fin
 revert q;refine fun h0=>xA h0 fun ok q=>?_;clear h0
 have ok':=ok
 simp only[dG,Bool.and_eq_true,decide_eq_true_eq,beq_iff_eq]at ok'
 have nd:=ok'.1.2
 have hlook:∀x,(x,NameKind.free)∈scope.names→∃a,F.env.cells.lookup x=some a:=fun x hx=>by
  refine dF (cn.all x hx) fun h1 h2 h3=>?_
  rcases S.fs.kinds x h2 with q|⟨a,_,q⟩
  ·rw[S.Fk x _ h3 (by decide)]at q;cases q
  ·exact(iE a q)
 refine cz (fg hlook) fun cl hcl k1 k2=>?_
 have k:sM F.env scope cl:=⟨k1,k2⟩
 refine wpAny_comprehension_free (use:=none) rfl (iD hit.form F.env) hcl ok'.1.1 (fun x hx hl=>?_) (hit.ok _ _ _ q _ _ _ _ S a fun v s1 d σ1 Z1 a1 z1 r1 w0=>mS w0 fun hn items Hb hz q1=>?_)
 ·obtain⟨x1,x2⟩:=x
  simp only at hl;subst hl
  exact bS nd hx
 refine oJ a.DA a1.gs r1 hn Hb (by lia) fun I P St fp s2 g2 hI hit2 hst=>?_
 have D5:=ax.fresh a1.gs hI
 have sI:ax F.A F.env F.s0 σ1 Z1 I:=⟨D5.new,D5.own,D5.zone,D5.mine,D5.fr⟩
 refine eB (hit2.obj 0 _ hst) fun oI TI hoI zz=>?_
 refine wpAny_newObj_type (wpAny_newFunctionEnv (fun x hx=>cn.CY x hx) (by intro y hy;simp at hy) (fun h₁ hns₁ hsb₁=>?_) ok'.1.1) (by refine(?_:0≤2^24);decide)
 dsimp only at hns₁ hsb₁⊢
 have D0:s2.heap.get? s2.heap.objs.size=none:=aS _
 have EI:=ax.fresh g2 D0
 have g3:=g2.Dh {cls:= .type "list",data:= .seq ([]:List Value).toArray} s2.toks
 generalize hH2:s2.heap.push {cls:= .type "list",dict:=none,data:= .seq ([]:List Value).toArray}=H2 at hns₁ hsb₁ g3⊢
 have hsz:H2.objs.size=s2.heap.objs.size+1:=by exact rF hH2 (rE (Heap.size_push _ _) rfl)
 have C0:H2.get? H2.objs.size=none:=aS _
 have EJ:=ax.fresh (s:={s2 with heap:=H2,toks:=s2.toks}) g3 C0
 have old:∀b o,H2.get? b=some o→h₁.get? b=some o:=fun b o e=>by
  have hb:b≠H2.objs.size:=Nat.ne_of_lt (Heap.lt_size e)
  exact(hsb₁.2 b hb).trans (Heap.get?_push_of_some _ e)
 have g4:GS F.A F.env sl F.s0 F.CP F.Z0 {s2 with heap:=h₁,toks:=s2.toks+0} σ1 Z1 ξ:=g3.keeps (t:=s2.toks+0) old
 have hDC:s2.heap.objs.size≠H2.objs.size:=by exact rE hsz (Nat.ne_of_lt (Nat.lt_succ_self _))
 have hID:I≠s2.heap.objs.size:=Nat.ne_of_lt (Heap.lt_size hoI)
 have hIC:I≠H2.objs.size:=by exact rE hsz (Nat.ne_of_lt (Nat.lt_succ_of_lt (Heap.lt_size hoI)))
 have sD:ax F.A F.env F.s0 σ1 Z1 s2.heap.objs.size:=⟨EI.new,EI.own,EI.zone,EI.mine,EI.fr⟩
 have sC:ax F.A F.env F.s0 σ1 Z1 H2.objs.size:=⟨EJ.new,EJ.own,EJ.zone,EJ.mine,EJ.fr⟩
 have GD:∀b o,s2.heap.get? b=some o→h₁.get? b=some o:=fun b o e=>old b o (by exact rF hH2 (Heap.get?_push_of_some _ e))
 have hst₁:St 0 h₁:=hit2.walks.frame 0 _ _ hst fun b zz o e=>GD b o e
 have hacc:h₁.PlainList s2.heap.objs.size #[]:=(iE 0 (old _ _ (by exact rF hH2 (Heap.get?_push_size _ rfl))))
 have loop:∀s3:Shared,s3={s2 with heap:=h₁,toks:=s2.toks+0}→codeAny cx.M F.A (.compLoop (.ListComp elt [⟨t0,i0,Df,0⟩,⟨t1,i1,fs1,0⟩] scope pos) 0 (.ref I) (.ref s2.heap.objs.size) (compEnvC scope cl H2.objs.size F.env))
  (compPost cx.M F.A F.E none Q (.ref s2.heap.objs.size) H2.objs.size) s3:=by
  rintro s3 rfl
  refine sF S cn k ok ht hi hit1 ht1 hi1 he (a.to g4) sI sD sC hID hIC hDC hit2 hst₁ hacc hns₁ hz q1 fun s' σ' Z' vs ds m' A' z' FG DJ hpl hr hn' hΨ=>?_
  refine xE hpl fun n' hpl'=>?_;clear hpl
  unfold qz at hΨ
  generalize c.owns Dy=own at hΨ
  cases own
  ·refine xA (A'.gs.E3 FG hpl') fun zz G''=>?_
   exact fin _ _ _ _ _ _ m' (a.to G'') (am.le_trans z1 (am.le_trans z' zz)) (.lst (am.CN _ _ _) ⟨rfl,rfl⟩ rfl (hr.mono zz)) hΨ ⟨DJ.new,DJ.own,by refine rE (am.CO _ _ (Ne.symm hDC)) ?_;exact DJ.zone,DJ.mine,DJ.fr⟩ hn'
  ·have G'':=A'.gs.Eo FG hpl' (.lst hr)
   exact fin _ _ _ _ _ _ m' (a.to G'') (am.le_trans z1 z') (.ref _) (hΨ _ FG.own) ⟨DJ.new,by simp only[af.put,if_neg (Ne.symm hDC)];exact DJ.own,DJ.zone,DJ.mine,DJ.fr⟩ hn'
 exact pQ (loop _ rfl) (hit2.walks.self 0 _ _ _ hst₁ (loop _ rfl))
instance{scope:Scope}{init:List (Option Nat)}[cn:bQ ns sl scope.names slc init][hit:EX c ns sl i0 wit][ht:sO c.cut scope.names slc t0 wt]
 [hi:ug c.cut scope.names slc Df wi] [hit1:EX c.cut scope.names slc i1 Db] [ht1:sO c.cut scope.names slc t1 D3] [hi1:ug c.cut scope.names slc fs1 DR] [he:EX c.cut scope.names slc elt we]:
 EX c ns sl (.ListComp elt [⟨t0,i0,Df,0⟩,⟨t1,i1,fs1,0⟩] scope pos) (ou pos scope wit wt wi Db D3 DR we init):=
 EX.of rfl fun ξ σ Φ q F s Z Q S a κ=>by
  refine rE (eval_ListComp _ _ _ _) ?_
  refine vq cn hit ht hi hit1 ht1 hi1 he S a q fun s' σ' Z' D C d m' g z r h sc hn=>?_
  refine(aP m' hn (fun h' hs=>?_))
  exact κ _ _ d σ' Z' (g.to (g.gs.side (t:=s'.toks) sc fun b o hb e=>(hs.2 b hb).trans e)) z r h
end
end
theorem ge.of(he:env.scope=sc)(F:FS env sl)(nd:(sc.names.map (·.1)).Nodup)(hc:i8∈sc.names→env.code= .ref 436∧env.qual=ph):ge env sc.names sl:=
 ⟨F,fun x k h zz=>by delta Env.kindOf;refine rE he ?_;exact bS nd h,hc⟩
theorem xo{w:WS}{Φ:Fl→Lo→af→Prop}(nd:(sc.names.map (·.1)).Nodup)(hc:i8∉sc.names)(hs:SX c sc.names sl body w)(hw:w c ξ σ Φ):xB c.C c.n sc sl body ξ σ Φ c.X:=
 fun A env s0 CP Z0 s Z E he F R G hE=>hs.ok _ _ _ hw ⟨A,env,s0,CP,Z0,E⟩ _ _ _ (ge.of he F nd fun h=>absurd h hc) ⟨R,G,hE⟩ fun f s' fl ξ' σ' Z' a z r q=>(dU fl ξ' σ' Z' a.gs z ⟨r,q⟩)
theorem yP{es:List D}{ws:List Value}{w:WS}
 (hK:cx.K.lookup fa=some ⟨oc,od,.func (fnX nm qual params body sc [] dV kV doc pm an cdv ct),osl⟩) (hcd:codeIn cx.K cdv qual=true) (hsc:gD sc sl=true) (hnd:decide (sc.names.map (·.1)).Nodup=true) (hlk:decide (i8∈sc.names)=false)
 (hnames:names=sl.take names.length) (hlen:names.length=ds.length+es.length) (hes:∀Z,aB Z ws es)
 (hbind:∀(s:Shared) (vs:List Value),cx.K.In s.heap→vs.length=ds.length→BindsTo s (fnX nm qual params body sc [] dV kV doc pm an cdv ct) ⟨vs,[]⟩ (names.zip (vs++ws)))
 (hs:SX c sc.names sl body w) (hw:w c (fZ (ds++es) sl.length) σ fun fl zz σ'=>Φ fl.val σ'):aL c.C (c.n+1) (.ref fa) ds σ Φ c.X:=
 tL hK hcd hsc hnames hlen hes hbind (xo (of_decide_eq_true hnd) (of_decide_eq_false hlk) hs hw)
section
section
variable{M:Model}{h:Heap}{d:Drawn}{t:Nat}
variable{q:Str}{N:Addr}{B:String}
theorem pK(F:ExcBaseFacts B newId initId bmB)(hB:bm.contains (.type B)=true){rest:List Value}{Q:Unit→Shared→Prop}(hC:h.get? C=some (excClassObj nm q C N bs bm hdct sn sub ab col dd k0 k1 k2 k3 k5 newId))
 (hq:Q () ⟨h,g,d,t,os⟩):wpAny M A (checkBuiltinCall newId ⟨.ref C::rest,[]⟩) Q E ⟨h,g,d,t,os⟩:=
 wpAny_check_new_subU F hB .base hC hq
theorem mO(F:ExcBaseFacts B newId initId bmB)(hB:bm.contains (.type B)=true){GQ:String}{e:Addr}{rest:List Value}{Q:Unit→Shared→Prop}
 (hC:h.get? C=some (excClassObj nm q C N bs bm hdct sn sub ab col dd k0 k1 k2 k3 k5 GQ)) (he:h.get? e=some oe) (hcls:oe.cls= .ref C) (hq:Q () ⟨h,g,d,t,os⟩):
 wpAny M A (checkBuiltinCall initId ⟨.ref e::rest,[]⟩) Q E ⟨h,g,d,t,os⟩:=by
 revert F hB hC he hcls hq;revert ab;revert M A E h g d t os nm q C N bs bm bmB hdct sn sub col dd k0 k1 k2 k3 k5 B newId initId GQ e oe rest Q;apply A7
 generalize (aT _ _).1.1.1.1.1.1=hdct,(aT _ _).1.1.1.1.1.2=A,(aT _ _).1.1.1.1.2=E,(aT _ _).1.1.1.2.1=k2,(aT _ _).1.1.1.2.2=k0,(aT _ _).1.1.2.1.1=k1,(aT _ _).1.1.2.1.2=k3,(aT _ _).1.1.2.2.1=k5,(aT _ _).1.1.2.2.2=os,(aT _ _).1.2.1.1.1=sn,(aT _ _).1.2.1.1.2=C,(aT _ _).1.2.1.2.1=nm,(aT _ _).1.2.1.2.2=bs,(aT _ _).1.2.2.1.1=bm,(aT _ _).1.2.2.1.2=bmB,(aT _ _).1.2.2.2.1=sub,(aT _ _).1.2.2.2.2=oe,(aT _ _).2.1.1.1.1=dd,(aT _ _).2.1.1.1.2=newId,(aT _ _).2.1.1.2.1=initId,(aT _ _).2.1.1.2.2=g,(aT _ _).2.1.2.1.1=col,(aT _ _).2.1.2.1.2=M,(aT _ _).2.1.2.2.1=h,(aT _ _).2.1.2.2.2=d,(aT _ _).2.2.1.1.1=t,(aT _ _).2.2.1.1.2=q,(aT _ _).2.2.1.2.1=N,(aT _ _).2.2.1.2.2=B,(aT _ _).2.2.2.1.1=GQ,(aT _ _).2.2.2.1.2=e,(aT _ _).2.2.2.2.1=rest,(aT _ _).2.2.2.2.2=Q;intro ab F hB hC he hcls hq
 have hcB:(Value.ref C::bm).contains (.type B)=true:=by exact rE List.contains_cons (rE hB (rE (Bool.or_true _) rfl))
 have hshort:=F.noStar
 simp only[checkBuiltinCall,F.initKind,F.initSplit,F.initRow]
 repeat (first|(with_reducible refine wpAny_loadPart_at he ?_;refine rE hcls ?_)|with_reducible refine wpAny_loadPart_at hC ?_|(with_reducible refine wpAny_isSubtype_exc hC ?_;refine rE hcB ?_)|wp_step)
 refine wpAny_onRaise ?_
 rw[show∀(a b:String) (n:Nat),Bind.check ⟨.positional,"*",B,.self,[⟨"args",.varPos,false⟩]⟩ a b n (List.map (fun x=>x.fst) ({pos:=Value.ref e::rest}:Args).kw)=pure ()from
  fun a b n=>check_star_args _ _ _ _ _ _]
 exact wpAny_pure hq
end
section
variable{w:World}{h:Heap}{d:Drawn}{t:Nat}
variable{q:Str}{N:Addr}{B:String}
theorem AV(F:ExcBaseFacts B newId initId bmB)(hB:bm.contains (.type B)=true)(hA:bm.contains (.type "AttributeError")=false)(hN:bm.contains (.type "NameError")=false){rest:List Value}
 (hC:h.get? C=some (excClassObj nm q C N bs bm hdct sn sub ab col dd k0 k1 k2 k3 k5 newId))
 (hq:R (.ok (.ret (.ref (h.objs.size+1)))) ⟨(h.push {cls:= .type "tuple",data:= .seq rest.toArray}).push
  {cls:= .ref C,data:= .fields #[.ref h.objs.size,.none,.none,.none,.bool false,.none]},g,d,t,os⟩) (hrest:rest.length≤sizeLine):
 codeAny (model prog w) A (.builtin newId ⟨.ref C::rest,[]⟩) R ⟨h,g,d,t,os⟩:=by
 revert F hB hA hN hC hq hrest;revert t nm q hdct sn ab;revert prog w A R h g d os C N bs bm bmB sub col dd k0 k1 k2 k3 k5 B newId initId rest;apply B6
 generalize (bY _ _).1.1.1.1.1=A,(bY _ _).1.1.1.1.2=k2,(bY _ _).1.1.1.2.1=k0,(bY _ _).1.1.1.2.2=k1,(bY _ _).1.1.2.1.1=k3,(bY _ _).1.1.2.1.2=k5,(bY _ _).1.1.2.2=os,(bY _ _).1.2.1.1.1=C,(bY _ _).1.2.1.1.2=bs,(bY _ _).1.2.1.2=bm,(bY _ _).1.2.2.1.1=bmB,(bY _ _).1.2.2.1.2=sub,(bY _ _).1.2.2.2=prog,(bY _ _).2.1.1.1.1=R,(bY _ _).2.1.1.1.2=dd,(bY _ _).2.1.1.2=newId,(bY _ _).2.1.2.1.1=initId,(bY _ _).2.1.2.1.2=g,(bY _ _).2.1.2.2=col,(bY _ _).2.2.1.1.1=w,(bY _ _).2.2.1.1.2=h,(bY _ _).2.2.1.2=d,(bY _ _).2.2.2.1.1=N,(bY _ _).2.2.2.1.2=B,(bY _ _).2.2.2.2=rest;intro hdct ab sn nm t q F hB hA hN hC hq hrest
 have hends:=F.ends
 have hcB:(Value.ref C::bm).contains (.type B)=true:=by exact rE List.contains_cons (rE hB (rE (Bool.or_true _) rfl))
 have hcA:(Value.ref C::bm).contains (.type "AttributeError")=false:=by exact rE List.contains_cons (rE hA rfl)
 have hcN:(Value.ref C::bm).contains (.type "NameError")=false:=by exact rE List.contains_cons (rE hN rfl)
 refine codeAny_builtinAt F.entry ?_
 delta Builtin.«BaseException.__new__»
 refine PySem.wpAt_bind ?_
 refine(?_:PySem.wpAt _ _ _ (stack>>=_) _ _ _)
 refine PySem.wpAt_bind (PySem.wpAt_stack fun p below=>PySem.wpAt_of_wpAny ?_)
 wp_walk
 refine PySem.wpAt_of_wpAny ?_
 refine rE F.owner ?_
 repeat (first|with_reducible refine wpAny_madeHere_exc F.canon hC ?_|with_reducible refine wpAny_loadPart_at hC ?_|(with_reducible refine wpAny_isSubtype_exc hC ?_;first|rw[hcB]|rw[hcA]|rw[hcN])|wp_step)
 refine(?_:R _ _)
 refine rE (Heap.size_push _ _) ?_
 exact hq
theorem pI(F:ExcBaseFacts B newId initId bmB)(hB:bm.contains (.type B)=true)(hA:bm.contains (.type "AttributeError")=false)(hN:bm.contains (.type "NameError")=false){rest:List Value}{fI:Addr}{Q:Fin→Shared→Prop}
 (hC:h.get? C=some (excClassObj nm q C N bs bm hdct sn sub ab col dd k0 k1 k2 k3 k5 newId))
 (hi:∀h',(∀b o,h.get? b=some o→h'.get? b=some o)→Looks (model prog w) h' (typeLookup (.ref C) "__init__") (some (.ref fI)))
 (hb:∀self h',(∀b o,h.get? b=some o→h'.get? b=some o)→Looks (model prog w) h' (bindSpecial (.ref fI) self) (.ref fI,[self]))
 (hq:wpAny (model prog w) A (call (.ref fI) (.ref (h.objs.size+1)::rest)) (fun r s'=>r= .none∧Q (.done (.ret (.ref (h.objs.size+1)))) s') E ⟨(h.push {cls:= .type "tuple",data:= .seq rest.toArray}).push
  {cls:= .ref C,data:= .fields #[.ref h.objs.size,.none,.none,.none,.bool false,.none]},g,d,t,os⟩) (hrest:rest.length≤sizeLine):
 wpAny (model prog w) A (Builtin.«type.__call__» ⟨.ref C::rest,[]⟩) Q E ⟨h,g,d,t,os⟩:=by
 revert F hB hA hN hC hi hb hq hrest;revert prog w A h g d t os E nm q C N bs bm bmB hdct sn sub ab col dd k0 k1 k2 k3 k5 B newId initId rest fI Q;apply A7
 generalize (aT _ _).1.1.1.1.1.1=hdct,(aT _ _).1.1.1.1.1.2=ab,(aT _ _).1.1.1.1.2=A,(aT _ _).1.1.1.2.1=E,(aT _ _).1.1.1.2.2=k2,(aT _ _).1.1.2.1.1=k0,(aT _ _).1.1.2.1.2=k1,(aT _ _).1.1.2.2.1=k3,(aT _ _).1.1.2.2.2=k5,(aT _ _).1.2.1.1.1=os,(aT _ _).1.2.1.1.2=sn,(aT _ _).1.2.1.2.1=C,(aT _ _).1.2.1.2.2=nm,(aT _ _).1.2.2.1.1=bs,(aT _ _).1.2.2.1.2=bm,(aT _ _).1.2.2.2.1=bmB,(aT _ _).1.2.2.2.2=sub,(aT _ _).2.1.1.1.1=prog,(aT _ _).2.1.1.1.2=dd,(aT _ _).2.1.1.2.1=newId,(aT _ _).2.1.1.2.2=initId,(aT _ _).2.1.2.1.1=g,(aT _ _).2.1.2.1.2=col,(aT _ _).2.1.2.2.1=w,(aT _ _).2.1.2.2.2=h,(aT _ _).2.2.1.1.1=d,(aT _ _).2.2.1.1.2=t,(aT _ _).2.2.1.2.1=q,(aT _ _).2.2.1.2.2=N,(aT _ _).2.2.2.1.1=B,(aT _ _).2.2.2.1.2=rest,(aT _ _).2.2.2.2.1=fI,(aT _ _).2.2.2.2.2=Q;intro F hB hA hN hC hi hb hq hrest
 repeat (first|with_reducible refine wpAny_loadPart_at hC ?_|with_reducible refine wpAny_madeBy_exc hC ?_|wp_step)
 refine codeAny_call_builtin_code (Code.quiet_builtin _ F.quiet) (pK F hB hC ?_)
 refine AV F hB hA hN hC ?_ hrest
 refine(?_:wpAny _ _ _ _ _ _)
 have kk:∀b o,h.get? b=some o→((h.push {cls:= .type "tuple",data:= .seq rest.toArray}).push {cls:= .ref C,data:= .fields #[.ref h.objs.size,.none,.none,.none,.bool false,.none]}).get? b=some o:=
  fun b o e=>Heap.get?_push_of_some _ (Heap.get?_push_of_some _ e)
 have hC₁:=kk _ _ hC
 have hget:((h.push {cls:= .type "tuple",data:= .seq rest.toArray}).push
  {cls:= .ref C,data:= .fields #[.ref h.objs.size,.none,.none,.none,.bool false,.none]}).get? (h.objs.size+1)=some
  {cls:= .ref C,data:= .fields #[.ref h.objs.size,.none,.none,.none,.bool false,.none]}:=by heap_get
 have hcC:(Value.ref C::bm).contains (.ref C)=true:=by simp
 delta isInstance
 repeat (first|with_reducible refine wpAny_loadPart_at hget ?_|(with_reducible refine wpAny_isSubtype_exc hC₁ ?_;refine rE hcC ?_)|wp_step)
 refine(?_:wpAny _ _ (typeLookup (.ref C) _) _ _ _)
 refine(hi _ kk).here ?_
 refine wpAny_holding (wpAny_bind ((hb _ _ kk).here ?_))
 refine wpAny_bind (wpAny_mono hq (fun r s' hr=>?_) fun zz zz x=>x)
 refine xA hr fun q0 hQ=>?_;clear hr;subst q0
 wp_walk
 exact hQ
end
end
section
theorem mN(K:Frag):findCls K (.type "Exception") (.type "type") (ofString "__init__")=some (.val (.builtin "Exception.__init__")):=by kernel_rfl
section
variable{w:World}{K:Frag}{name:Str}
theorem oY{T:String}{pl:Sem Bool}{Q:Value×List Value→Shared→Prop}(X:K.In s.heap)(ht:typeOf (.type T)=pure (.type "type"))(hs:Manifest.isStub T=false)
 (e:findCls K (.type T) (.type "type") name=some (.val v)) (hh:handedIn v=true) (h:Q (v,[]) {s with toks:=s.toks+1}):wpAny (model prog w) A (getMethod (.type T) name pl) Q E s:=by
 have hstub:opaqueClassAbove (.type T)=pure none:=by delta opaqueClassAbove;dsimp only;exact rE hs rfl
 have L0:Looks (model prog w) s.heap (typeOf (.type T)) (.type "type"):=Looks.of_pure ht
 have hg:findIn K (.type "type") "__getattribute__" =some (some (.builtin "type.__getattribute__")):=type_tga
 delta getMethod specialOf
 refine wpAny_bind (wpAny_bind (L0.here ((looks_findIn X hg).here ?_)))
 dsimp only
 refine wT canon_tga ?_
 refine wpAny_bind (wpAny_mono (Q:=fun v=>Q (v,[])) (E:=E) ?_ (fun zz zz z=>wpAny_pure z) fun zz zz z=>z)
 have LO:Looks (model prog w) s.heap (opaqueClassAbove (.type T)) none:=Looks.of_pure hstub
 refine cls_open X LO L0 hg (looks_hook X (r:=none) (by rfl)) (by refine(?_:subIn K _ _=_);rfl) e
  (wpAny_pure (by refine(?_:wpAny _ _ (handedOut v) _ _ _);exact rE (handedOut_of hh) (wpAny_pure h)))
theorem lI{pl:Sem Bool}{Q:Value×List Value→Shared→Prop}(X:K.In s.heap)(h:Q (.builtin "Exception.__init__",[]) {s with toks:=s.toks+1}):wpAny (model prog w) A (getMethod (.type "Exception") (ofString "__init__") pl) Q E s:=
 oY X (by kernel_rfl) (by decide+kernel) (mN K) (by decide+kernel) h
end
structure jk(C f:Addr):Prop where
 obj:∀G:Prop,(∀nm q N bs bm hdct sn sub ab col dd k0 k1 k2 k3 k5,cx.K.lookup C=some (excClassObj nm q C N bs bm hdct sn sub ab col dd k0 k1 k2 k3 k5 "Exception.__new__")→hdct=true→bm.contains (.type "Exception")=true→bm.contains (.type "AttributeError")=false→
  bm.contains (.type "NameError")=false→bm.contains (.type "BaseException")=true→bm.contains (.type "object")=true→(∀self,refuseLoop self "__setattr__" (.ref C::bm)=pure ())→G)→G
 init:findIn cx.K (.ref C) "__init__" =some (some (.ref f))
 fn:typeIn cx.K (.ref f)=some (.type "function")
 store:findIn cx.K (.ref C) "__setattr__" =some (some (.builtin "object.__setattr__"))
section
theorem nw{x:Addr}{ox:Obj}{od:Option Obj}{name:Str}{tk:Tok}{cd:ClassData}(X:cx.K.In s.heap)(I:InstAt s.heap x ox C od)(hc:clsIn cx.K C=some cd)(ho:cd.mro.contains (.type "object")=true)
 (hne:cd.mro.isEmpty=false) (hr:∀self,refuseLoop self "__setattr__" cd.mro=pure ()) (ha:findIn cx.K (.ref C) name=some none)
 (h:∀b,wpAny cx.M A.in1 (Builtin.ObjectAttr.storeInOwnDict (.ref x) (.ref C) (.str name tk) name v b)
  (fun fin s'=>match fin with| .done f=>R (.ok f) s'| .again c'=>c'.quiet=true∧codeAny cx.M A c' R s') (fun e s'=>R (.error e) s') s):
 codeAny cx.M A (.call (.builtin "object.__setattr__") ⟨[.ref x,.str name tk,v],[]⟩) R s:=by
 have SF:=PySem.F.store_object
 have sub:Looks cx.M s.heap (isInstance (.ref x) (.type "object")) true:=I.type.andThen (looks_mroIn X (by delta mroIn;exact rE hc (rE (Option.bind_some _ _) (rE (if_neg (by refine rE hne ?_;decide)) (rE ho rfl)))))
 refine codeAny_call_builtin SF.slot.plain SF.entry (@check_slot cx.M _ _ s "object.__setattr__" "object" "__setattr__" (.ref x) [.str name tk,v] [] _ SF.kind SF.split sub (SF.args (.ref x) (.str name tk) v) ?_)
 have hm:Looks cx.M s.heap (mroOf (.ref C)) cd.mro:=(looks_clsIn X hc).andThen .now
 have L3:Looks cx.M s.heap (Builtin.ObjectAttr.storeTaker? none) none:= .now
 refine rE (osa_eq _ _ _ _) (rE (refuse_eq _ _) ?_)
 refine wpAny_bind (wpAny_bind (I.type.here (wpAny_bind (hm.here ?_))))
 refine rE (hr _) ?_
 refine wpAny_pure (wpAny_bind (I.type.here (wpAny_bind ((looks_findIn X ha).here (wpAny_bind (L3.here ?_))))))
 exact h _
end
end
section
theorem vk(Y:jk C f):∃cd,clsIn cx.K C=some cd∧cd.hasDict=true∧cd.mro.contains (.type "object")=true∧cd.mro.isEmpty=false∧(∀self,refuseLoop self "__setattr__" cd.mro=pure ()):=by
 refine Y.obj _ fun nm q N bs bm hdct sn sub ab col dd k0 k1 k2 k3 k5 h1 h2 zz zz zz zz h3 h4=>?_
 refine(lV ({name:=nm,bases:=bs,mro:= .ref C::bm,ns:=N,qualname:=q,hasDict:=hdct,slotNames:=sn,subclasses:=sub,abstract:=ab,collection:=col,hasDel:=false}) ?_ h2 ?_ ⟨rfl,h4⟩)
 ·delta clsIn;exact rE h1 rfl
 ·exact rE List.contains_cons (rE h3 (rE (Bool.or_true _) rfl))
theorem af.CN(σ:af)(a:Addr)(o:AO):σ.put a o a=some o:=by simp[af.put]
theorem af.CO(σ:af){b:Addr}(o:AO)(h:b≠a):σ.put a o b=σ b:=by simp[af.put,h]
theorem af.EK{o:AO}(h:σ a=some o):σ.put a o=σ:=by
 funext b;by_cases q:b=a
 ·subst q;exact rE (af.CN _ _ _) (rE h rfl)
 ·exact rE (af.CO _ _ q) rfl
theorem ix{K:Type}[DecidableEq K](kvs:List (K×D))(k:K)(d:D):(put kvs k d).length≤kvs.length+1:=by
 delta put;split
 ·simp
 ·simp
set_option tactic.hygienic true in
theorem kC{name:Str}{tk:Tok}(G:GS A env sl s0 CP Z0 s σ Z ξ)(hda:σ da=some (.ns fs))(hz:fs.length≤1000)(hv:aw Z v d){Q:Fin→Shared→Prop}
 (q:∀s',GS A env sl s0 CP Z0 s' (σ.put da (.ns (put fs name d))) Z ξ→Q (.done (.ret .none)) s'):wpAny cx.M A' (Builtin.ObjectAttr.storeInDict da (.str name tk) name v) Q E' s:=by
 revert G hda hz hv q;revert sl A env s0 s CP σ Z0 Z ξ A' E' da fs v d name tk Q;apply zp
 generalize (aZ _ _).1.1.1.1.1=d,(aZ _ _).1.1.1.1.2=A,(aZ _ _).1.1.1.2=A',(aZ _ _).1.1.2.1=E',(aZ _ _).1.1.2.2=s,(aZ _ _).1.2.1.1.1=s0,(aZ _ _).1.2.1.1.2=env,(aZ _ _).1.2.1.2=Z,(aZ _ _).1.2.2.1=Z0,(aZ _ _).1.2.2.2=sl,(aZ _ _).2.1.1.1.1=da,(aZ _ _).2.1.1.1.2=v,(aZ _ _).2.1.1.2=fs,(aZ _ _).2.1.2.1=σ,(aZ _ _).2.1.2.2=CP,(aZ _ _).2.2.1.1=ξ,(aZ _ _).2.2.1.2=name,(aZ _ _).2.2.2.1=tk,(aZ _ _).2.2.2.2=Q;intro G hda hz hv q
 refine ck (G.inv.own da _ hda) fun zd o2 ho2 hm2=>?_
 cases hm2 with
 |ns hn hr=>
  rename_i xs
  refine wpAny_bind (wpAny_pure (wpAny_bind ?_))
  delta nsSet
  refine wpAny_bind (wpAny_bind (wpAny_askSetting (wpAny_pure (wpAny_bind (wpAny_mkText (wpAny_bind (wpAny_loadPart ho2 ?_)))))))
  have hn':=hn
  refine cy hn fun es ep hdat hk hsz hf=>?_;clear hn
  refine rE hdat ?_
  dsimp only
  have nr:es.any (·.refKey)=false:=by
   refine rF Array.any_toList (rE (propext List.any_eq_false) ?_)
   intro x hx
   refine jm (hk x (Array.mem_toList_iff.mp hx)) fun n t hkey=>?_
   simp[DictEntry.refKey,hkey]
  refine rE (aRefKeyMayBeTheName_at _ _) (rE nr (rE (Bool.and_false _) ?_))
  refine wpAny_updatePart ho2 ?_
  have hp:=hn'.put name (PyData.keyHash cx.w.params name) s.toks v
  have hp':=hp
  refine cy hp fun es' ep' hdat' hk' hsz' hf'=>?_;clear hp
  have hlen:xs.length≤1000:=by exact rE hr.length hz
  have hle:(stored xs name v).length≤xs.length+1:=stored_length_le _ _ _
  have ho':(s.heap.update da (Obj.putName name (PyData.keyHash cx.w.params name) (.str name s.toks) v)).get? da=some (Obj.putName name (PyData.keyHash cx.w.params name) (.str name s.toks) v o2):=
   Heap.get?_update_self _ ho2 (Obj.isFreed_of_dict hdat')
  refine wpAny_bind (wpAny_lookBehind ho' (by exact rE hdat' (pastItsLine_dict (by refine rE hsz' (rE sizeLine_eq ?_);lia))) ?_)
  exact wpAny_pure (q _ (G.upd (Heap.SameBut.update ..) hda ho' (.ns hp' (hr.put name hv))))
set_option tactic.hygienic true in
theorem lw{e:Addr}{name:Str}(Y:jk C f)(G:GS A env sl s0 CP Z0 s σ Z ξ)(he:σ e=some (.exc C dict))(hk:k≤999)(hd:∀da,dict=some da→∃fs,σ da=some (.ns fs)∧fs.length≤k)(hv:aw Z v d)
 (ha:findIn cx.K (.ref C) name=some none) {Q:Unit→Shared→Prop}
 (q:∀s' da fs σ',GS A env sl s0 CP Z0 s' σ' Z ξ→σ' e=some (.exc C (some da))→σ' da=some (.ns fs)→fs.length≤k+1→(∀d0,dict=some d0→da=d0)→(dict=none→σ da=none)→(∀b,b≠e→b≠da→σ' b=σ b)→Q () s'):wpAny cx.M A (setAttr (.ref e) name v) Q E s:=by
 revert Y G he hk hd hv ha q;revert k;revert C f sl A env s0 s CP σ Z0 Z ξ E e dict v d name Q;apply zp
 generalize (aZ _ _).1.1.1.1.1=d,(aZ _ _).1.1.1.1.2=A,(aZ _ _).1.1.1.2=E,(aZ _ _).1.1.2.1=s,(aZ _ _).1.1.2.2=s0,(aZ _ _).1.2.1.1.1=env,(aZ _ _).1.2.1.1.2=Z,(aZ _ _).1.2.1.2=Z0,(aZ _ _).1.2.2.1=sl,(aZ _ _).1.2.2.2=C,(aZ _ _).2.1.1.1.1=f,(aZ _ _).2.1.1.1.2=v,(aZ _ _).2.1.1.2=σ,(aZ _ _).2.1.2.1=CP,(aZ _ _).2.1.2.2=dict,(aZ _ _).2.2.1.1=ξ,(aZ _ _).2.2.1.2=e,(aZ _ _).2.2.2.1=name,(aZ _ _).2.2.2.2=Q;intro k Y G he hk hd hv ha q
 refine ck (G.inv.own e _ he) fun ze o1 ho1 hm1=>?_
 refine mR (vk Y) fun cd hc hdct hob CU=>xA CU fun hne hrl=>?_;clear CU
 cases hm1 with
 |exc=>
  rename_i t
  have G1:=G.toks (s.toks+1)
  cases dict with
  |none=>
   have I:InstAt s.heap e {cls:= .ref C,dict:=none,data:= .fields #[.ref t,.none,.none,.none,.bool false,.none]} C none:=⟨ho1,rfl,rfl,trivial⟩
   refine set_plain G.X I Y.store ?_
   refine nw (s:={s with toks:=s.toks+1}) G1.X I hc hob hne hrl ha fun b=>?_
   refine wpAny_bind (wpAny_pure (wpAny_bind (wpAny_bind (wpAny_loadPart ho1 (wpAny_bind ((looks_clsIn G1.X hc).here ?_))))))
   refine rE hdct ?_
   have IO:s.heap.get? s.heap.objs.size=none:=aS _
   have fr:=cY G.inv IO
   have G2:=G1.Dc emptyDict (s.toks+1) (.ns (xs:=[]) (cQ (#[]) 0 rfl (fun zz h=>by simp at h) rfl (fun zz=>rfl)) .nil)
   have EE:e≠s.heap.objs.size:=Nat.ne_of_lt (Heap.lt_size ho1)
   have ho2:(s.heap.push emptyDict).get? e=some {cls:= .ref C,dict:=none,data:= .fields #[.ref t,.none,.none,.none,.bool false,.none]}:=Heap.get?_push_of_some _ ho1
   refine wpAny_bind (wpAny_alloc ?_)
   refine wpAny_bind (wpAny_update ho2 ?_)
   have FK:((s.heap.push emptyDict).update e fun o=>{o with dict:=some s.heap.objs.size}).get? e=some {cls:= .ref C,dict:=some s.heap.objs.size,data:= .fields #[.ref t,.none,.none,.none,.bool false,.none]}:=Heap.get?_update_self _ ho2 rfl
   have G3:=G2.upd (t:=s.toks+1) (Heap.SameBut.update ..) (by simp only[af.put,if_neg EE];exact he) FK .exc
   refine wpAny_pure ?_
   refine kC (fs:=[]) G3 ?_ (by simp) hv fun s' g=>?_
   ·exact(af.CO _ _ EE.symm).trans (af.CN _ _ _)
   ·exact q _ s.heap.objs.size _ _ g ((af.CO _ _ EE).trans (af.CN _ _ _)) (af.CN _ _ _) (by have:=ix (K:=Str) [] name d;simp only[List.length_nil]at this;lia) (fun zz h=>by exact nS h) (fun zz=>fr.1) fun b h1 h2=>(af.CO _ _ h2).trans ((af.CO _ _ h1).trans (af.CO _ _ h2))
  |some da=>
   refine aF (hd da rfl) fun fs hda hz=>?_
   refine ck (G.inv.own da _ hda) fun zz o2 ho2 zz=>?_
   have EE:e≠da:=fun q=>by rw[q,hda]at he;cases he
   have I:InstAt s.heap e {cls:= .ref C,dict:=some da,data:= .fields #[.ref t,.none,.none,.none,.bool false,.none]} C (some o2):=⟨ho1,rfl,rfl,ho2⟩
   refine set_plain G.X I Y.store ?_
   refine nw (s:={s with toks:=s.toks+1}) G1.X I hc hob hne hrl ha fun b=>?_
   refine wpAny_bind (wpAny_pure (wpAny_bind (wpAny_bind (wpAny_loadPart ho1 (wpAny_bind ((looks_clsIn G1.X hc).here ?_))))))
   refine rE hdct ?_
   refine wpAny_pure (a:=some da) ?_
   refine kC G1 hda (by lia) hv fun s' g=>?_
   refine q _ da _ _ g ((af.CO _ _ EE).trans he) (af.CN _ _ _) (by have:=ix fs name d;lia) (fun zz h=>by(replace h:=sI h;subst h);rfl) (fun h=>by exact sN h) fun b h1 h2=>af.CO _ _ h2
theorem uI{e:Addr}(Y:jk C f)(G:GS A env sl s0 CP Z0 s σ Z ξ)(he:σ e=some (.exc C dict))(q:∀s',GS A env sl s0 CP Z0 s' σ Z ξ→Q .none s'):
 wpAny cx.M A (call (.builtin "Exception.__init__") [.ref e,v]) Q E s:=by
 revert Y G he q;revert sl v Q;revert C f A env s0 s CP σ Z0 Z ξ E e dict;apply xF
 generalize (br _ _).1.1.1.1=A,(br _ _).1.1.1.2=E,(br _ _).1.1.2.1=s,(br _ _).1.1.2.2=s0,(br _ _).1.2.1.1=env,(br _ _).1.2.1.2=Z,(br _ _).1.2.2=Z0,(br _ _).2.1.1.1=C,(br _ _).2.1.1.2=f,(br _ _).2.1.2.1=σ,(br _ _).2.1.2.2=CP,(br _ _).2.2.1.1=dict,(br _ _).2.2.1.2=ξ,(br _ _).2.2.2=e;intro Q sl v Y G he q
 refine ck (G.inv.own e _ he) fun ze o1 ho1 hm1=>?_
 refine Y.obj _ fun nm q' N bs bm hdct sn sub ab col dd k0 k1 k2 k3 k5 h1 h2 hB zz zz zz zz zz=>?_
 have F:=PySem.F.excBase_Exception
 have hC:=G.X _ _ h1
 cases hm1 with
 |exc=>
  rename_i t
  have G1:=G.Dh {cls:= .type "tuple",data:= .seq [v].toArray} s.toks
  have EE:e≠s.heap.objs.size:=Nat.ne_of_lt (Heap.lt_size ho1)
  have ho2:=Heap.get?_push_of_some {cls:= .type "tuple",data:= .seq [v].toArray} ho1
  obtain⟨hp,g,dr,tk,os⟩:=s
  refine wpAny_call (codeAny_call_builtin F.init.plain F.initEntry (mO F hB hC ho1 rfl ?_))
  dsimp only at ho1 ho2 G1 q⊢
  wp_walk
  refine(?_:Q .none _)
  have hup:((hp.push {cls:= .type "tuple",data:= .seq #[v]}).update e (Obj.mapFields fun x=>x.setIfInBounds 0 (.ref hp.objs.size))).get? e=
   some {cls:= .ref C,dict:=dict,data:= .fields #[.ref hp.objs.size,.none,.none,.none,.bool false,.none]}:=Heap.get?_update_self _ ho2 rfl
  have G2:=G1.upd (t:=tk) (Heap.SameBut.update ..) he hup .exc
  rw[af.EK he]at G2
  exact q _ G2
end
theorem xc{X:af→Prop}(Y:jk cls f)(hds:ds.length≤1000)
 (h:∀e,σ e=none→aL C n (.ref f) (.ref e::ds) (σ.put e (.exc cls none)) (fun d σ'=>d= .none∧Φ (.ref e) σ') X):aL C (n+1) (.ref cls) ds σ Φ X:=by
 intro A s Z vs R hA I S hvs hR hX
 have X0:cx.K.In s.heap:=fun a o e=>I.zone _ _ (I.base _ _ (I.ok.X a o e))
 refine Y.obj _ fun nm q' N bs bm hdct sn sub ab col dd k0 k1 k2 k3 k5 h1 h2 hB Hi Hg hB2 zz zz=>?_
 have F:=PySem.F.excBase_Exception
 have hlen:=hvs.length
 obtain⟨hp,g,d,t,os⟩:=s
 dsimp only at I S X0
 have hC:=X0 _ _ h1
 have f1:=tc_lookup
 have f2:=tc_bind (.ref cls)
 have hT:(⟨hp,g,d,t,os⟩:Shared).TypeIs (.ref cls) "type" :=(aP _ hC rfl)
 have e0:(A.under (.builtin "type.__call__" ⟨.ref cls::vs,[]⟩)).frames=A.frames:=by
  have e1:(Code.builtin "type.__call__" ⟨.ref cls::vs,[]⟩).envs=[]:=rfl
  refine(?_:pushEnvs (Code.builtin "type.__call__" ⟨.ref cls::vs,[]⟩).envs A.frames=A.frames)
  exact rE e1 rfl
 have ha0:hp.get? hp.objs.size=none:=Heap.get?_none_of_le (Nat.le_refl _)
 have ha1:hp.get? (hp.objs.size+1)=none:=Heap.get?_none_of_le (Nat.le_succ _)
 have HQ:=cY I ha1
 have sz:(hp.push {cls:= .type "tuple",data:= .seq vs.toArray}).objs.size=hp.objs.size+1:=Heap.size_push ..
 have keep:∀b o,hp.get? b=some o→((hp.push {cls:= .type "tuple",data:= .seq vs.toArray}).push {cls:= .ref cls,data:= .fields #[.ref hp.objs.size,.none,.none,.none,.bool false,.none]}).get? b=some o:=fun b o e=>Heap.get?_push_of_some _ (Heap.get?_push_of_some _ e)
 have g1:((hp.push {cls:= .type "tuple",data:= .seq vs.toArray}).push {cls:= .ref cls,data:= .fields #[.ref hp.objs.size,.none,.none,.none,.bool false,.none]}).get? (hp.objs.size+1)=
  some {cls:= .ref cls,data:= .fields #[.ref hp.objs.size,.none,.none,.none,.bool false,.none]}:=by exact rF sz (Heap.get?_push_size _ rfl)
 have I2:dR ((hp.push {cls:= .type "tuple",data:= .seq vs.toArray}).push {cls:= .ref cls,data:= .fields #[.ref hp.objs.size,.none,.none,.none,.bool false,.none]}) (σ.put (hp.objs.size+1) (.exc cls none)) Z:=
  kX (jD (jD I _) _) HQ.2 g1 .exc
 have live:∀b o,hp.get? b=some o→b≠hp.objs.size+1:=fun b o e q=>(by rw[q,ha1]at e;exact nS e)
 have S2:jf (A.under (.builtin "type.__call__" ⟨.ref cls::vs,[]⟩)) ((hp.push {cls:= .type "tuple",data:= .seq vs.toArray}).push {cls:= .ref cls,data:= .fields #[.ref hp.objs.size,.none,.none,.none,.bool false,.none]}) (σ.put (hp.objs.size+1) (.exc cls none)) Z:=by
  refine jf.same ?_ e0
  refine S.keeps (fun b o zz e=>(aP o (keep b o e) rfl)) fun b hb=>?_
  refine fS hb fun l hl env' he hf=>?_;clear hb
  refine aF (S.fr) fun l' hl' hh=>?_
  rw[hl]at hl';(replace hl':=sI hl';subst hl')
  refine dZ (hh env' he) fun zz L o k1 k2 zz=>?_
  rw[hf]at k1;(replace k1:=sI k1;subst k1)
  exact⟨by refine rE (af.CO _ _ (live b o k2)) ?_;exact(S.off b (gn l hl env' he hf)).1,(S.off b (gn l hl env' he hf)).2⟩
 have A2:jl (A.under (.builtin "type.__call__" ⟨.ref cls::vs,[]⟩)) n:=by
  refine⟨hA.handled,?_,?_⟩
  ·have:(A.under (.builtin "type.__call__" ⟨.ref cls::vs,[]⟩)).depth=A.depth+1:=rfl
   refine rE this ?_;have:=hA.depth;lia
  ·have:(A.under (.builtin "type.__call__" ⟨.ref cls::vs,[]⟩)).units=A.units+1:=rfl
   refine rE this ?_;have:=hA.units;lia
 have low:∀b,((hp.push {cls:= .type "tuple",data:= .seq vs.toArray}).push {cls:= .ref cls,data:= .fields #[.ref hp.objs.size,.none,.none,.none,.bool false,.none]}).get? b=none→hp.get? b=none:=fun b e=>by
  refine oD (o:=hp.get? b) (fun q=>?_) fun o q=>?_
  ·rfl
  ·rw[keep b o q]at e;exact sN e
 have DH:∀{fr:Addr→Prop} {h':Heap} {σ':af} {Z':am},eg (fun zz=>False) fr ((hp.push {cls:= .type "tuple",data:= .seq vs.toArray}).push {cls:= .ref cls,data:= .fields #[.ref hp.objs.size,.none,.none,.none,.bool false,.none]}) (σ.put (hp.objs.size+1) (.exc cls none)) Z h' σ' Z'→
  eg (fun zz=>False) fr hp σ Z h' σ' Z':=fun{fr h' σ' Z'} G=>by
  have sig:∀b,(σ.put (hp.objs.size+1) (.exc cls none)) b≠none→σ b≠none∨hp.get? b=none:=fun b hb=>by
   by_cases q2:b=hp.objs.size+1
   ·subst q2;exact .inr ha1
   ·rw[af.CO _ _ q2]at hb;exact .inl hb
  refine⟨G.DM,fun b o zz hs e=>?_,fun b hb=>?_,fun b hb=>?_,fun b hb=>G.live b ?_⟩
  ·exact G.keep b o (fun h=>h) (by exact rE (af.CO _ _ (live b o e)) hs) (keep b o e)
  ·rcases G.C8 b hb with h|h|h
   ·exact .inl h
   ·rcases sig b h with h|h
    ·exact .inr (.inl h)
    ·exact .inr (.inr h)
   ·exact .inr (.inr (low b h))
  ·rcases G.C1 b hb with h|h
   ·exact sig b h
   ·exact .inr (low b h)
  ·refine oC (o:=hp.get? b) (fun q=>?_) fun o q=>?_
   ·exact absurd q hb
   ·refine rE (keep b o q) ?_;simp
 refine codeAny_of_tree ?_
 refine(?_:wpAny _ _ (callAny (.ref cls) _) _ _ _)
 repeat (any_goals (first|assumption|with_reducible refine wpAny_loadPart_at hC ?_|wp_step))
 refine⟨rfl,?_⟩
 refine codeAny_call_builtin_at (Code.quiet_builtin _ (by decide+kernel)) entry_typeCall (wpAny_check_type_call_sub hC (pI F hB Hi Hg hC (fun h' k=>looks_findIn (fun a o e=>k a o (X0 a o e)) Y.init) (fun self h' k=>bind_fn (fun a o e=>k a o (X0 a o e)) self Y.fn) ?_ (by refine(?_:vs.length≤2^24);lia)))
 refine wpAny_call (h (hp.objs.size+1) HQ.1 _ ⟨_,g,d,t,os⟩ Z (.ref (hp.objs.size+1)::vs) _ A2 I2 S2 (.cons (.ref _) hvs) (fun v s' σ' Z' d' k1 k2 k3 k4 k5 k6=>?_) fun e s' σ' Z' k1 k2=>?_)
 ·revert k6;refine fun h0=>xA h0 fun q0 k6=>?_;clear h0;subst q0
  cases k5 using aw.noneE
  refine⟨rfl,hR _ s' σ' Z' _ (DH k1) k2 (k3.same e0.symm) ?_ (.ref _) k6⟩
  refine jm k4 fun h2 t2 q2=>?_;clear k4;subst q2;exact(mD h2 t2 rfl)
 ·refine hX e s' σ' Z' ?_ k2
  have k1':=k1.Fj e0
  refine⟨DH k1'.grow,k1'.inv,k1'.stk,?_,?_⟩
  ·refine jm (k1'.same) fun h2 t2 q2=>?_;subst q2;exact(mD h2 t2 rfl)
  ·exact k1'.exc.low low
theorem pT{e:Addr}{pl:D}{p4 p5 p6 p7 p8 p9 GJ Gq Gp GI GH:Pos}(Y:jk cls f)(hline:(p2.endLine==p5.line)=true)(nd:(sc.names.map (·.1)).Nodup)(hlk:i8∉sc.names)
 (hsl:sl=[ofString "self",ofString "message",ofString "place"]) (hE:(ofString "Exception",NameKind.globalImplicit)∈sc.names) (hg:cx.mg (ofString "Exception")=none)
 (a1:findIn cx.K (.ref cls) (ofString "message")=some none) (a2:findIn cx.K (.ref cls) (ofString "place")=some none) (he:σ e=some (.exc cls none)) {X:af→Prop}:
 xB C n sc sl
  [.Expr (.Call (.Attribute (.Name (ofString "Exception") p1) (ofString "__init__") p2) [.Name (ofString "self") p3,.Name (ofString "message") p4] [] p5) p6,
   .Assign [.Attribute (.Name (ofString "self") p7) (ofString "message") p8] (.Name (ofString "message") p9) GJ,
   .Assign [.Attribute (.Name (ofString "self") Gq) (ofString "place") Gp] (.Name (ofString "place") GI) GH]
  [some (.ref e),some m,some pl] σ (fun fl zz σ'=>fl.val= .none∧(∃da,σ' e=some (.exc cls (some da)))∧∀b,b≠e→σ b≠none→σ' b=σ b) X:=by
 intro A env s0 CP Z0 s Z E hsc F R G hE'
 revert Y hline nd hlk hsl hE hg a1 a2 he hsc F R G hE';revert cls f e sc sl m pl σ p1 p2 p3 p4 p5 p6 p7 p8 p9 GJ Gq Gp GI GH X C n A env s0 CP Z0 s Z E;apply A7
 generalize (aT _ _).1.1.1.1.1.1=m,(aT _ _).1.1.1.1.1.2=p2,(aT _ _).1.1.1.1.2=p1,(aT _ _).1.1.1.2.1=p3,(aT _ _).1.1.1.2.2=sl,(aT _ _).1.1.2.1.1=C,(aT _ _).1.1.2.1.2=f,(aT _ _).1.1.2.2.1=cls,(aT _ _).1.1.2.2.2=n,(aT _ _).1.2.1.1.1=σ,(aT _ _).1.2.1.1.2=sc,(aT _ _).1.2.1.2.1=e,(aT _ _).1.2.1.2.2=pl,(aT _ _).1.2.2.1.1=p4,(aT _ _).1.2.2.1.2=p5,(aT _ _).1.2.2.2.1=p6,(aT _ _).1.2.2.2.2=p7,(aT _ _).2.1.1.1.1=p8,(aT _ _).2.1.1.1.2=p9,(aT _ _).2.1.1.2.1=GJ,(aT _ _).2.1.1.2.2=Gq,(aT _ _).2.1.2.1.1=Gp,(aT _ _).2.1.2.1.2=GI,(aT _ _).2.1.2.2.1=GH,(aT _ _).2.1.2.2.2=X,(aT _ _).2.2.1.1.1=A,(aT _ _).2.2.1.1.2=env,(aT _ _).2.2.1.2.1=s0,(aT _ _).2.2.1.2.2=CP,(aT _ _).2.2.2.1.1=Z0,(aT _ _).2.2.2.1.2=s,(aT _ _).2.2.2.2.1=Z,(aT _ _).2.2.2.2.2=E;intro Y hline nd hlk hsl hE hg a1 a2 he hsc F R G hE'
 have S:=ge.of hsc F nd fun h=>absurd h hlk
 subst hsl
 let c':Ct:=⟨C,n,X,[]⟩
 have a:At c' ⟨A,env,s0,CP,Z0,E⟩ [ofString "self",ofString "message",ofString "place"] s σ Z [some (.ref e),some m,some pl]:=⟨R,G,hE'⟩
 have hL:LX c' sc.names [ofString "self",ofString "message",ofString "place"] [.Name (ofString "self") p3,.Name (ofString "message") p4] (bM (bW 0) (bM (bW 1) eS)):=inferInstance
 refine wpAny_execs_cons (wpAny_Expr_any ?_ (gR S) rfl)
 refine em (c:=c') (k:=2) rfl hL rfl (by decide) hline (gh (v:= .type "Exception") S G hE (by decide) (by decide) hg rfl fun IX=>?_)
 refine lI G.X ?_
 refine kr (c:=c') hL (hL.ok p5 _ _ (fun ds σ'=>ds=[.ref e,m]∧σ'=σ) (gn _ rfl _ rfl ⟨rfl,rfl⟩) ⟨A,env,s0,CP,Z0,E⟩ _ _ _ S (a.to (G.toks (s.toks+1))) fun vs s1 ds σ1 Z1 IR z1 r1 w0=>xA w0 fun q1 q2=>?_)
 subst q1 q2
 cases r1 using aB.CS with
 |cons r1 r=>cases r using aB.CS with
  |cons r2 r=>
   cases r using aB.Da;cases r1 using aw.C5
   refine uI Y IR.gs he fun s2 g2=>?_
   refine wpAny_execs_cons ?_
   refine wpAny_Assign_stores (jQ F g2 (i:=1) rfl rfl fun v rv=>?_) rfl rfl
   refine(?_:wpAny cx.M A (assign (.Attribute (.Name (ofString "self") p7) (ofString "message") p8) env v) _ E s2)
   refine rE (arm_assign_Attribute _ _ _ _ _) ?_
   refine wpAny_bind (wpAny_holding (jQ F g2 (i:=0) rfl rfl fun v0 r0=>?_))
   cases r0 using aw.C5
   refine wpAny_bind (wpAny_standAt (wpAny_bind (wpAny_holding ?_)))
   refine lw (k:=0) Y g2 he (by lia) (fun zz h=>by exact nS h) rv a1 fun s3 da fs σ3 g3 h1 h2 h3 h4 h5 h6=>wpAny_release ?_
   refine(?_:wpAny cx.M A (execs _ env) _ E s3)
   refine wpAny_execs_cons ?_
   refine wpAny_Assign_stores (jQ F g3 (i:=2) rfl rfl fun v rv=>?_) rfl rfl
   refine(?_:wpAny cx.M A (assign (.Attribute (.Name (ofString "self") Gq) (ofString "place") Gp) env v) _ E s3)
   refine rE (arm_assign_Attribute _ _ _ _ _) ?_
   refine wpAny_bind (wpAny_holding (jQ F g3 (i:=0) rfl rfl fun v0 r0=>?_))
   cases r0 using aw.C5
   refine wpAny_bind (wpAny_standAt (wpAny_bind (wpAny_holding ?_)))
   refine lw (k:=1) Y g3 h1 (by lia) (fun zz h=>by(replace h:=sI h;subst h);exact(aP fs h2 (by lia))) rv a2 fun s4 Hp fs' Dt g4 k1 k2 k3 k4 k5 k6=>wpAny_release ?_
   have hda:=k4 da rfl
   subst hda
   have hσ:=h5 rfl
   refine wpAny_execs_nil (dp _ _ Dt Z1 g4 z1 .next rfl (iE _ k1) (fun b hb hn=>?_))
   have hbd:b≠Hp:=fun q=>hn (q▸hσ)
   exact(k6 b hb hbd).trans (h6 b hb hbd)
section
section
variable{M:Model}
variable{q:Str}{N:Addr}
theorem pJ{x:Sem Value}{Q:Flow→Shared→Prop}(hbase:bm.contains (.type "BaseException")=true)(hh:A.handled=none)
 (h:wpAny M A x (fun v s₁=>∃e t dct,v= .ref e∧s₁.heap.get? C=some (excClassObj nm q C N bs bm hdct sn sub ab col dd k0 k1 k2 k3 k5 newId)∧
  s₁.heap.get? e=some {cls:= .ref C,dict:=dct,data:= .fields #[.ref t,.none,.none,.none,.bool false,.none]}∧E (.ref e) s₁) E s):
 wpAny M A (raiseStmt env (some x) none) Q E s:=by
 have hcB:(Value.ref C::bm).contains (.type "BaseException")=true:=by exact rE List.contains_cons (rE hbase (rE (Bool.or_true _) rfl))
 delta raiseStmt
 refine wpAny_bind (wpAny_mono h (fun v s₁ h₁=>?_) fun zz zz x=>x)
 refine cp h₁ fun e t dct q3 hC he hE=>?_;clear h₁;subst q3
 obtain⟨hp,g,d,tk,os⟩:=s₁
 repeat (first|with_reducible refine wpAny_loadPart_at he ?_|with_reducible refine wpAny_loadPart_at hC ?_|(with_reducible refine wpAny_isSubtype_exc hC ?_;refine rE hcB ?_)|wp_step)
 exact wpAny_raiseNew_none hh hE
end
structure rm(C:Addr):Prop where
 ex:∃f,jk C f∧∀(σ:af) (e:Addr) (m pl:D),σ e=some (.exc C none)→aL C 1 (.ref f) [.ref e,m,pl] σ (fun d σ'=>d= .none∧(∃da,σ' e=some (.exc C (some da)))∧∀b,b≠e→σ b≠none→σ' b=σ b) (fun zz=>False)
 keep:keepIn cx.K (.ref C)=true
def vR(x:Str)(ws:WL):WS:=fun c ξ σ Φ=>(rm c.C∧2≤c.n∧cx.mg x=some (.ref c.C)∧(x==("__debug__" :Str))=false)∧ws c ξ σ fun ds σ1=>(∃m pl,ds=[m,pl])∧c.X σ1
section
instance[k:bL ns x .globalImplicit][h1:LX c ns sl args ws]:rx c ns sl (.Raise (some (.Call (.Name x p) args [] p2)) none pos) (vR x ws):=
 ⟨fun ξ σ Φ q F s Z Q S a κ=>by
  revert q;refine fun h0=>xA h0 fun w0 q=>?_;clear h0;obtain⟨OK,hn,hg,hx⟩:=w0
  refine aF (OK.ex) fun f Y hf=>?_
  refine Y.obj _ fun nm q' N bs bm hdct sn sub ab col dd k0 k1 k2 k3 k5 hC h2 hB Hi Hg hB2 zz zz=>?_
  refine rE (arm_exec_Raise _ _ _ _) ?_
  refine wpAny_bind (wpAny_standAt ?_)
  refine pJ (C:=c.C) hB2 a.DA.handled (nm:=nm) (q:=q') (N:=N) (bs:=bs) (hdct:=hdct) (sn:=sn) (sub:=sub) (ab:=ab) (col:=col) (dd:=dd) (k0:=k0) (k1:=k1) (k2:=k2) (k3:=k3) (k5:=k5) (newId:="Exception.__new__") ?_
  refine(?_:wpAny cx.M F.A (eval (.Call (.Name x p) args [] p2) F.env>>=fun v=>standAt pos>>=fun zz=>pure v) _ F.E s)
  refine wpAny_bind (eJ (jR S a.gs k.h hx hg (iI h1 OK.keep (h1.ok p2 _ _ _ q _ _ _ _ S a fun vs s1 ds σ1 Z1 a1 z1 r1 w0=>xA w0 fun w1 hX=>jm w1 fun m pl hds=>⟨a1.gs.X,?_⟩))))
  subst hds
  have hcall:aL c.C c.n (.ref c.C) [m,pl] σ1 (fun d σ'=>∃e,d= .ref e∧σ1 e=none∧(∃da,σ' e=some (.exc c.C (some da)))∧∀b,b≠e→σ1 b≠none→σ' b=σ1 b) (fun zz=>False):=
   aL.lift (xc Y (by simp) fun e he=>(hf _ e m pl (af.CN _ _ _)).mono (fun d σ' w0=>dF w0 fun h1 h2 h3=>⟨h1,e,rfl,he,h2,fun b hb hn=>(h3 b hb (by exact rE (af.CO _ _ hb) hn)).trans (af.CO _ _ hb)⟩) fun zz h=>h) hn
  have g1:=a1.gs
  refine wpAny_call (hcall F.A s1 Z1 vs _ a1.DA g1.inv g1.stk r1 (fun v s2 σ2 Z2 d g i st sm rp q2=>?_) fun zz zz zz zz zz h=>h.elim)
  refine mR q2 fun e q1 Hc w3 hσ=>?_;clear q2;subst q1;obtain⟨da,he⟩:=w3
  cases rp using aw.C5
  have g2:=g1.called g i st sm
  refine ck (g2.inv.own e _ he) fun ze oe ho hm=>?_
  cases hm with
  |exc=>
   rename_i t
   refine(?_:wpAny cx.M F.A (standAt pos>>=fun zz=>(pure (Value.ref e):Sem Value)) _ F.E s2)
   refine wpAny_bind (wpAny_standAt (wpAny_pure (Exists.intro e (Exists.intro t (Exists.intro (some da) (fw rfl (g2.X _ _ hC) ho ?_))))))
   have sub:∀b ao,σ1 b=some ao→σ2 b=some ao:=fun b ao e1=>by
    have hb:b≠e:=fun q=>by rw[q,Hc]at e1;exact nS e1
    refine rE (hσ b hb (by refine rE e1 ?_;simp)) ?_;exact e1
   have IM:s1.heap.get? e=none:=by
    rcases g.C1 e (by refine rE he ?_;simp)with h|h
    ·exact absurd Hc h
    ·exact h
   have nz:∀b,σ1 b≠none→σ2 b≠none:=fun b hb=>by
    refine oC (o:=σ1 b) (fun q=>?_) fun ao q=>?_
    ·exact absurd q hb
    ·refine rE (sub b ao q) ?_;simp
   refine a.err.2 e s2 σ1 Z2 ⟨⟨g2.grow.DM,fun b o h1 h2 h3=>?_,g2.grow.C8,fun b hb=>g1.grow.C1 b hb,g2.grow.live⟩,⟨g2.inv.ok,g2.inv.base,g2.inv.zone,fun b ao e1=>g2.inv.own b ao (sub b ao e1)⟩,⟨g2.stk.fr,fun b hb=>⟨?_,(g2.stk.off b hb).2⟩⟩,g2.same,?_⟩ hX
   ·refine aF (g2.grow.keep b o h1 h2 h3) fun o' x1 x2=>?_
    exact(aP o' x1 x2)
   ·refine oD (o:=σ1 b) (fun q=>?_) fun ao q=>?_
    ·rfl
    ·have:=(g2.stk.off b hb).1;rw[sub b ao q]at this;exact sN this
   ·exact(fw (g1.grow.low e IM) Hc ze (cV _ _ _ ho rfl rfl rfl (.inl rfl)))⟩
end
end
section
open Classical in
noncomputable def af.minus(σ:af)(S:Addr→Prop):af:=fun b=>if S b then none else σ b
open Classical in
noncomputable def am.plus(Z:am)(h:Heap)(S:Addr→Prop):am:=fun b=>if S b then h.get? b else Z b
theorem af.C2{b:Addr}(h:S b):σ.minus S b=none:=by simp[af.minus,h]
theorem af.CQ{b:Addr}(h:¬S b):σ.minus S b=σ b:=by simp[af.minus,h]
theorem am.Dj{h:Heap}{b:Addr}(hb:S b):Z.plus h S b=h.get? b:=by simp[am.plus,hb]
theorem am.C9{h:Heap}{b:Addr}(hb:¬S b):Z.plus h S b=Z b:=by simp[am.plus,hb]
mutual
inductive Fz(σ:af)(S:Addr→Prop):D→D→Prop
 |same (d:D):Fz σ S d d
 |lst {a ds es:_}:S a→σ a=some (.lst ds)→rk σ S ds es→Fz σ S (.ref a) (.lst es)
 |dS {a ds es:_}:S a→σ a=some (.dS ds)→ry σ S ds es→Fz σ S (.ref a) (.dS es)
 |dT {a ds es:_}:S a→σ a=some (.dT ds)→zi σ S ds es→Fz σ S (.ref a) (.dT es)
 |ins {a C da fs gs:_}:S a→S da→σ a=some (.ins C da)→σ da=some (.ns fs)→ry σ S fs gs→Fz σ S (.ref a) (.ins C gs)
 |tup {ds es:_}:rk σ S ds es→Fz σ S (.tup ds) (.tup es)
 |F6 {ds es:_}:rk σ S ds es→Fz σ S (.lst ds) (.lst es)
inductive rk(σ:af)(S:Addr→Prop):List D→List D→Prop
 |nil:rk σ S [] []
 |cons {d e ds es:_}:Fz σ S d e→rk σ S ds es→rk σ S (d::ds) (e::es)
inductive ry(σ:af)(S:Addr→Prop):List (Str×D)→List (Str×D)→Prop
 |nil:ry σ S [] []
 |cons {k d e ds es:_}:Fz σ S d e→ry σ S ds es→ry σ S ((k,d)::ds) ((k,e)::es)
inductive zi(σ:af)(S:Addr→Prop):List (List Str×D)→List (List Str×D)→Prop
 |nil:zi σ S [] []
 |cons {k d e ds es:_}:Fz σ S d e→zi σ S ds es→zi σ S ((k,d)::ds) ((k,e)::es)
end
theorem ry.fine{ds:List (Str×D)}:∀{es:List (Str×D)},ry σ S ds es→(∀kv∈ds,bv kv.1)→∀kv∈es,bv kv.1:=by
 induction ds with
 |nil=>intro es r h;cases r;exact fun zz q=>by exact nM q
 |cons kd ds ih=>
  intro es r h
  cases r with
  |cons k r=>exact List.forall_mem_cons.mpr ⟨(List.forall_mem_cons.mp h).1,ih r (List.forall_mem_cons.mp h).2⟩
section
variable{h:Heap}
theorem eP(I:dR h σ Z)(hS:∀a,S a→σ a≠none):Z.le (Z.plus h S):=fun a o e=>by
 by_cases q:S a
 ·refine oC (o:=σ a) (fun q2=>?_) fun ao q2=>?_
  ·exact absurd q2 (hS a q)
  ·have:=(I.own a ao q2).1;rw[e]at this;exact sN this
 ·exact rE (am.C9 q) e
theorem aw.fz(I:dR h σ Z)(hS:∀a,S a→σ a≠Option.none){d':D}(r:aw Z v d)(k:Fz σ S d d'):aw (Z.plus h S) v d':=by
 refine Fz.rec (motive_1:=fun d d' zz=>∀v,aw Z v d→aw (Z.plus h S) v d') (motive_2:=fun d d' zz=>∀v,aB Z v d→aB (Z.plus h S) v d') (motive_3:=fun d d' zz=>∀v,bK Z v d→bK (Z.plus h S) v d') (motive_4:=fun d d' zz=>∀v,cJ Z v d→cJ (Z.plus h S) v d')
  ?same ?lst ?dS ?dT ?ins ?tup ?F6 ?nil ?cons ?GN ?Gj ?GM ?Gi k v r
 case same=>exact fun d v r=>r.mono (eP I hS)
 case lst=>
  intro a ds es k1 k2 _ ih v r
  cases r using aw.C5
  refine ck (I.own _ _ k2) fun zz o ho hm=>?_
  cases hm using OM.Dw with
  |lst hr=>exact .lst ((am.Dj k1).trans ho) ⟨rfl,rfl⟩ rfl (ih _ hr)
 case dS=>
  intro a ds es k1 k2 k3 ih v r
  cases r using aw.C5
  refine ck (I.own _ _ k2) fun zz o ho hm=>?_
  cases hm using OM.Ft with
  |dS h1 h2 h3 h4=>exact .dS ((am.Dj k1).trans ho) h1 (ih _ h2) h3 (k3.fine h4)
 case dT=>
  intro a ds es k1 k2 _ ih v r
  cases r using aw.C5
  refine ck (I.own _ _ k2) fun zz o ho hm=>?_
  cases hm using OM.FM with
  |dT h1 h2 h3 h4 h5 h6 h7=>exact .dT ((am.Dj k1).trans ho) h1 h2 h3 (fun x hx=>(h4 x hx).mono (eP I hS)) h5 (ih _ h6) h7
 case ins=>
  intro a C da fs gs k1 k2 k3 k4 _ ih v r
  cases r using aw.C5
  refine ck (I.own _ _ k3) fun zz o ho hm=>?_
  refine ck (I.own _ _ k4) fun zz o2 ho2 hm2=>?_
  cases hm using OM.ET
  cases hm2 using OM.nsE with
  |ns h1 h2=>exact .ins ((am.Dj k1).trans ho) ((am.Dj k2).trans ho2) h1 (ih _ h2)
 case tup=>
  intro ds es _ ih v r
  cases r using aw.Fv with
  |tup h1 h2 h3 h4=>exact .tup (eP I hS _ _ h1) h2 h3 (ih _ h4)
 case F6=>
  intro ds es _ ih v r
  cases r using aw.Dw with
  |lst h1 h2 h3 h4=>exact .lst (eP I hS _ _ h1) h2 h3 (ih _ h4)
 case nil=>intro v r;cases r using aB.Da;exact .nil
 case cons=>
  intro d e ds es _ _ ih1 ih2 v r
  cases r using aB.CS with
  |cons r1 r=>exact .cons (ih1 _ r1) (ih2 _ r)
 case GN=>intro v r;cases r;exact .nil
 case Gj=>
  intro k d e ds es _ _ ih1 ih2 v r
  cases r with
  |cons r1 r=>exact .cons (ih1 _ r1) (ih2 _ r)
 case GM=>intro v r;cases r;exact .nil
 case Gi=>
  intro k d e ds es _ _ ih1 ih2 v r
  cases r with
  |cons r1 r=>exact .cons (ih1 _ r1) (ih2 _ r)
end
theorem dR.fz{h:Heap}(I:dR h σ Z)(hS:∀a,S a→σ a≠none):dR h (σ.minus S) (Z.plus h S):=by
 have hz:=eP I hS
 refine⟨I.ok,fun b o e=>hz b o (I.base b o e),fun b o e=>?_,fun b ao e=>?_⟩
 ·by_cases q:S b
  ·rw[am.Dj q]at e;exact e
  ·rw[am.C9 q]at e;exact I.zone b o e
 ·by_cases q:S b
  ·rw[af.C2 q]at e;exact nS e
  ·rw[af.CQ q]at e
   refine ck (I.own b ao e) fun h1 o h2 h3=>?_
   exact(gp (by exact rE (am.C9 q) h1) o h2 (h3.mono hz))
theorem jf.fz{h:Heap}(T:jf A h σ Z)(hS:∀a,S a→σ a≠none):jf A h (σ.minus S) (Z.plus h S):=
 ⟨T.fr,fun b hb=>by
  have hn:¬S b:=fun q=>hS b q (T.off b hb).1
  exact rE (af.CQ hn) (rE (am.C9 hn) (T.off b hb))⟩
theorem eg.fz{foot:Addr→Prop}{h:Heap}(g:eg foot fr h σ Z h' σ' Z')(I:dR h' σ' Z')(hS:∀a,S a→σ' a≠none):eg foot fr h σ Z h' (σ'.minus S) (Z'.plus h' S):=by
 refine⟨am.le_trans g.DM (eP I hS),g.keep,fun b hb=>?_,fun b hb=>?_,g.live⟩
 ·by_cases q:S b
  ·exact(g.C1 b (hS b q)).elim (fun h=> .inr (.inl h)) fun h=> .inr (.inr h)
  ·rw[am.C9 q]at hb;exact g.C8 b hb
 ·by_cases q:S b
  ·rw[af.C2 q]at hb;exact absurd rfl hb
  ·rw[af.CQ q]at hb;exact g.C1 b hb
theorem aL.freeze{f:Value}{X:af→Prop}
 (h:aL C n f ds σ (fun d σ'=>∃S d',(∀a,S a→σ' a≠none)∧Fz σ' S d d'∧Φ d' (σ'.minus S)) X):aL C n f ds σ Φ X:=
 fun A s Z vs R a b c' d h1 h2=>h A s Z vs R a b c' d (fun v s' σ' Z' d k1 k2 k3 k4 k5 w0=>bB w0 fun S d' hS hf q=>
  h1 v s' (σ'.minus S) (Z'.plus s'.heap S) d' (k1.fz k2 hS) (k2.fz hS) (k3.fz hS) k4 (k5.fz k2 hS hf) q) h2
theorem GS.fz(G:GS A env sl s0 CP Z0 s σ Z ξ)(hS:∀a,S a→σ a≠none):GS A env sl s0 CP Z0 s (σ.minus S) (Z.plus s.heap S) ξ:=by
 refine⟨G.grow.fz G.inv hS,G.inv.fz hS,G.CT.keeps (fun b o zz e=>(aP o e rfl)) (eP G.inv hS) fun b hb=>?_,G.stk.fz hS,G.same⟩
 have hn:¬S b:=fun q=>hS b q (G.CT.off b hb).1
 exact rE (af.CQ hn) (rE (am.C9 hn) (G.CT.off b hb))
section
def vE(k1 v1 k2 v2:WE):WE:=fun c ξ σ Φ=>∀a,σ a=none→k1 c ξ (σ.put a (.dS [])) fun x1 σ1=>v1 c ξ σ1 fun d1 σ2=>k2 c ξ σ2 fun x2 σ3=>v2 c ξ σ3 fun d2 Dt=>∃y1 y2,x1= .str y1∧x2= .str y2∧y1≠y2∧Dt a=some (.dS [])∧Φ (.dS [(y1,d1),(y2,d2)]) (Dt.minus fun b=>b=a)
theorem kK{t:Tok}(hx:bv x)(G:GS A env sl s0 CP Z0 s σ Z ξ)(ha:σ a=some (.dS kvs))(hv:aw Z v d)(hn:kvs.length≤1048576){Q:Unit→Shared→Prop}
 (q:∀s',GS A env sl s0 CP Z0 s' (σ.put a (.dS (put kvs x d))) Z ξ→Q () s'):wpAny cx.M A (dictSet a (.str x t) v) Q E s:=by
 refine ck (G.inv.own a _ ha) fun za o ho hm=>?_
 cases hm using OM.Ft with
 |dS h1 h2 h3 h4=>
  refine wpAny_dictSet_pairs (hsz:=by refine rE h2.length ?_;refine(?_:_≤2^24);lia) (strKind_is _ _ x t) (Heap.dictOf_iff.mpr (aP o ho h1)) (fun h' hm' hs=>?_)
  ·refine aF (Heap.dictOf_iff.mp hm') fun o' ho' hd'=>?_
   exact q _ (G.upd hs ha ho' (.dS hd' (h2.put x hv) h3 (jq h4 hx)))
theorem oX(G:GS A env sl s0 CP Z0 s σ Z ξ):s.heap.objs.size≠sysModules:=by
 refine eB (G.inv.ok.sys) fun a o h1 h2=>?_
 have:=Heap.lt_size (G.inv.zone a o (G.inv.base a o h2))
 intro q
 exact Nat.lt_irrefl _ (Nat.lt_of_le_of_lt h1 (q▸this))
theorem nx(σ:af)(a:Addr)(o:AO):(σ.put a o).minus (fun b=>b=a)=σ.minus fun b=>b=a:=by
 funext b;by_cases q:b=a
 ·exact rE (af.C2 (S:=fun b=>b=a) q) (rE (af.C2 (S:=fun b=>b=a) q) rfl)
 ·exact rE (af.CQ (S:=fun b=>b=a) q) (rE (af.CQ (S:=fun b=>b=a) q) (rE (af.CO _ _ q) rfl))
instance{f1 f2:Expr}{k1 k2:WE}[h1:EX c ns sl e1 k1][h2:EX c ns sl f1 v1][h3:EX c ns sl e2 k2][h4:EX c ns sl f2 v2]:EX c ns sl (.Dict [some e1,some e2] [f1,f2] pos) (vE k1 v1 k2 v2):=
 EX.of rfl fun ξ σ Φ q F s Z Q S a κ=>by
  have fr:=cY a.gs.inv (aS s.heap)
  have G0:=a.gs.Dc emptyDict s.toks (.dS (xs:=[]) (kvs:=[]) (dC (#[]) 0 (dx rfl rfl rfl) rfl (fun zz h=>by simp at h) .nil (by simp)) .nil ?_ (by simp))
  ·refine wpAny_Dict_any rfl rfl (by simp) (by simp) ?_
   have q:=q _ fr.1
   refine evalPairs_cons ((h1.ok _ _ _ q _ _ _ _ S (a.to G0) fun w1 s1 x1 σ1 Z1 a1 z1 r1 q1=>?_))
   refine wpAny_bind ((h2.ok _ _ _ q1 _ _ _ _ S a1 fun w2 s2 d1 σ2 Z2 a2 z2 r2 q2=>wpAny_bind (wpAny_standAt (wpAny_pure ?_))))
   refine evalPairs_cons ((h3.ok _ _ _ q2 _ _ _ _ S a2 fun w3 s3 x2 σ3 Z3 a3 z3 r3 q3=>?_))
   refine wpAny_bind ((h4.ok _ _ _ q3 _ _ _ _ S a3 fun w4 s4 d2 Dt Z4 a4 z4 r4 w0=>eO w0 fun y1 y2 e1 e2 e3 e4 q4=>wpAny_bind (wpAny_standAt (wpAny_pure ?_))))
   subst e1 e2
   refine evalPairs_nil ?_
   cases r1 using aw.CV with
   |str t1 hx1=>
    cases r3 using aw.CV with
    |str t3 Ip=>
     delta storeAll
     refine rE (List.forIn_cons _ _ _ _) ?_
     refine wpAny_bind (wpAny_bind (kK hx1 a4.gs e4 (r2.mono (am.le_trans z3 z4)) (by simp) fun s5 g5=>wpAny_pure ?_))
     dsimp only
     refine rE (List.forIn_cons _ _ _ _) ?_
     refine wpAny_bind (wpAny_bind (kK Ip g5 (af.CN _ _ _) r4 (by delta put;simp) fun s6 g6=>wpAny_pure ?_))
     dsimp only
     refine rE List.forIn_nil ?_
     refine wpAny_pure ?_
     have g7:=g6.fz (S:=fun b=>b=s.heap.objs.size) fun b hb=>by refine rE hb (rE (af.CN _ _ _) ?_);simp
     rw[nx,nx]at g7
     have z:Z.le (Z4.plus s6.heap fun b=>b=s.heap.objs.size):=am.le_trans z1 (am.le_trans z2 (am.le_trans z3 (am.le_trans z4 (eP g6.inv fun b hb=>by refine rE hb (rE (af.CN _ _ _) ?_);simp))))
     refine κ _ _ _ _ _ (a.to g7) z ?_ q4
     refine aw.fz (d:= .ref s.heap.objs.size) g6.inv (fun b hb=>by refine rE hb (rE (af.CN _ _ _) ?_);simp) (.ref _) (.dS rfl (af.CN _ _ _) ?_)
     have e5:put (put ([]:List (Str×D)) y1 d1) y2 d2=[(y1,d1),(y2,d2)]:=by
      delta put;simp[e3]
     refine rE e5 ?_
     exact .cons (.same _) (.cons (.same _) .nil)
  ·exact oX a.gs
end
end
section
theorem pf:typeLookup (.type "list") "keys" =pure none:=by refine rE (typeLookup_type _ _) (rE builtinLookup_eq_fast ?_);kernel_rfl
theorem kP:typeLookup (.type "list") "__getattr__" =pure none:=by refine rE (typeLookup_type _ _) (rE builtinLookup_eq_fast ?_);kernel_rfl
section
variable{w:World}{h:Heap}{d:Drawn}{t:Nat}{o:Obj}
theorem sg{tk:Tok}{Q:Fin→Shared→Prop}(hA:A.handled=none)(hx:h.get? a=some o)(hc:o.cls= .type "list")(hd:o.dict=none){vs:Array Value}(hdat:o.data= .seq vs nn)
 (hq:∀h' tk e,Heap.NewAttrErr h h' e (.ref a) (ofString "keys")→E (.ref e) ⟨h',g,d,tk,os⟩):
 wpAny (model prog w) A (Builtin.«object.__getattribute__» ⟨[.ref a,.str "keys" tk],[]⟩) Q E ⟨h,g,d,t,os⟩:=by
 have hT:(⟨h,g,d,t,os⟩:Shared).TypeIs (.ref a) "list" :=(aP _ hx hc)
 have f4:=pf
 obtain⟨oc,od,H7,osl⟩:=o
 simp only at hc hd hdat
 subst hc hd hdat
 repeat (any_goals (first|assumption|wp_step))
 exact wpAny_raiseAttrError hA hq (attrMsg_fits (by decide+kernel) (by decide+kernel))
theorem ve{tk:Tok}(hA:A.handled=none)(hx:h.get? a=some o)(hc:o.cls= .type "list")(hd:o.dict=none){vs:Array Value}(hdat:o.data= .seq vs nn)
 (hq:∀h' tk e,Heap.NewAttrErr h h' e (.ref a) (ofString "keys")→R (.error (.ref e)) ⟨h',g,d,tk,os⟩):
 codeAny (model prog w) A (.call (.builtin "list.__getattribute__") ⟨[.ref a,.str "keys" tk],[]⟩) R ⟨h,g,d,t,os⟩:=
 codeAny_call_builtin F.slot_list_getattribute.plain F.entry_list_ga (F.slot_list_getattribute.check _ _ _ _ _ _ _ _ (show(⟨h,g,d,t,os⟩:Shared).TypeIs (.ref a) "list"from(aP _ hx hc)) (F.args_list_getattribute_2 _ _) (sg hA hx hc hd hdat hq))
theorem yI{tk:Tok}(hA:A.handled=none)(hx:h.get? a=some o)(hc:o.cls= .type "list")(hd:o.dict=none){vs:Array Value}(hdat:o.data= .seq vs nn)
 (hq:∀h' tk e,Heap.NewAttrErr h h' e (.ref a) (ofString "keys")→E (.ref e) ⟨h',g,d,tk,os⟩):wpAny (model prog w) A (getAttrBy (.ref a) (.str "keys" tk) false) Q E ⟨h,g,d,t,os⟩:=by
 have hT:(⟨h,g,d,t,os⟩:Shared).TypeIs (.ref a) "list" :=(aP _ hx hc)
 have f1:=sub_AttributeError
 have f2:=F.slot_list_getattribute.lookup
 have f3:=F.slot_list_getattribute.bind (.ref a)
 have f5:=kP
 repeat (any_goals (first|assumption|wp_step))
 refine ve hA hx hc hd hdat fun h' tk' e he=>?_
 refine jm (he.there) fun t' u' he'=>?_
 refine(?_:wpAny _ _ (getattributeRaised _ _ _ _ _ _ _) _ _ _)
 delta getattributeRaised
 repeat (any_goals (first|assumption|wp_step))
 exact hq _ _ _ he
theorem vd{Q:Option Value→Shared→Prop}(hA:A.handled=none)(hx:h.get? a=some o)(hc:o.cls= .type "list")(hd:o.dict=none){vs:Array Value}(hdat:o.data= .seq vs nn)
 (hq:∀h' tk,(∀b o,h.get? b=some o→h'.get? b=some o)→Q none ⟨h',g,d,tk,os⟩):wpAny (model prog w) A (getAttr? (.ref a) "keys") Q E ⟨h,g,d,t,os⟩:=by
 have f1:=sub_AttributeError
 delta getAttr? getAttrBy?
 refine wpAny_bind (wpAny_mkText (wpAny_bind (wpAny_attempt (yI hA hx hc hd hdat fun h' tk e he=>?_))))
 refine jm (he.there) fun t' u' he'=>?_
 repeat (any_goals (first|assumption|wp_step))
 exact hq _ _ he.keeps
end
end
section
theorem qQ:entryFor table "dict.update.loop" =some Builtin.«dict.update.loop»:=entryFor_of_tree (by kernel_rfl)
theorem qP:plainId "dict.update.loop" =true:=by decide+kernel
section
variable{B:Around}
theorem GS.at'(e:B.frames=A.frames)(G:GS A env sl s0 CP Z0 s σ Z ξ):GS B env sl s0 CP Z0 s σ Z ξ:=⟨by refine rE (oj e) ?_;exact G.grow,G.inv,G.CT,G.stk.same e,G.same⟩
noncomputable def wn(ao:AO)(k v:D):Option AO:=match ao with
 | .dS kvs=>match k with| .str x=>some (.dS (put kvs x v))|_=>none
 | .dT kvs=>(ip k).map fun ks=> .dT (put kvs ks v)
 |_=>none
noncomputable def l8:AO→List D→Option AO
 |ao,[]=>some ao
 |ao,d::r=>match d with
  | .tup [k,v]=>(wn ao k v).bind fun DZ=>l8 DZ r
  |_=>none
noncomputable def og:AO→Nat
 | .dS kvs=>kvs.length
 | .dT kvs=>kvs.length
 |_=>0
theorem wm{k v:D}(h:wn ao k v=some DZ):og DZ≤og ao+1:=by
 delta wn at h
 split at h
 ·split at h
  ·(replace h:=sI h;subst h);exact ix _ _ _
  ·exact nS h
 ·refine aF (Option.map_eq_some_iff.mp h) fun ks zz q2=>?_;subst q2
  exact ix _ _ _
 ·exact nS h
set_option tactic.hygienic true in
theorem qR{k:Value}{dk dv:D}(hu:B.units<cLine)(G:GS A env sl s0 CP Z0 s σ Z ξ)(ha:σ a=some ao)(hk:aw Z k dk)(hv:aw Z v dv)(hp:wn ao dk dv=some DZ)(hn:og ao≤1048576)
 {Q:Unit→Shared→Prop} (q:∀s',GS A env sl s0 CP Z0 s' (σ.put a DZ) Z ξ→Heap.SameBut a s.heap s'.heap→Q () s'):wpAny cx.M B (dictSet a k v) Q E s:=by
 delta wn at hp
 split at hp
 ·split at hp
  ·(replace hp:=sI hp;subst hp)
   cases hk using aw.CV with
   |str _ hx=>
    refine ck (G.inv.own a _ ha) fun za o ho hm=>?_
    cases hm using OM.Ft with
    |dS h1 h2 h3 h4=>
     refine wpAny_dictSet_pairs (hsz:=by refine rE h2.length ?_;refine(?_:_≤2^24);simp only[og]at hn;lia) (strKind_is _ _ _ _) (Heap.dictOf_iff.mpr (aP o ho h1)) (fun h' hm' hs=>?_)
     refine aF (Heap.dictOf_iff.mp hm') fun o' ho' hd'=>?_
     exact q _ (G.upd hs ha ho' (.dS hd' (h2.put _ hv) h3 (jq h4 hx))) hs
  ·exact nS hp
 ·refine aF (Option.map_eq_some_iff.mp hp) fun ks hks q2=>?_;subst q2
  refine ck (G.inv.own a _ ha) fun za o ho hm=>?_
  refine aF (j9 hk hks) fun b q1 hb=>?_;subst q1
  cases hm using OM.FM with
  |dT h2 h3 h4 h5 h6 h7 h8=>
   rename_i es ep xs
   have hD:s.heap.DictOfH cx.tk a xs:=(dB o es ep ho h2 h3 h4 (fun x hx=>(h5 x hx).is G.inv.zone) h6)
   refine wpAny_dictSet_heap (knd:=cx.tk) (hsz:=by refine rE h7.length ?_;refine(?_:_≤2^24);simp only[og]at hn;lia) hu (hb.is G.inv.zone) hD (fun h' hm' hs=>?_)
   refine fC hm' fun o' es' ep' ho' hc' hd' he' zz hn'=>?_;clear hm'
   refine q _ (G.upd hs ha ho' (.dT hc' hd' he' (fun x hx=>?_) hn' (h7.put ks b hv) h8)) hs
   rcases mem_storedH hx with⟨y,hy,e1,e2⟩|⟨e1,e2⟩
   ·exact rE e1 (rE e2 (h5 y hy))
   ·exact rE e1 (rE e2 hb)
 ·exact nS hp
set_option tactic.hygienic true in
theorem vm{items:List D}{P:Nat→Value→Prop}(hB:B.handled=none)(hu:B.units+1<cLine)(hz:items.length≤1000000)(fin:AO)
 (q:∀s' σ',GS A env sl s0 CP Z0 s' σ' Z ξ→σ' a=some fin→(∀b,b≠a→σ' b=σ b)→R (.ok (.ret .none)) s'):
 ∀(m i:Nat) (z:Int) (s:Shared) (σ1:af) (ao:AO),m=items.length-i→i≤items.length→GS A env sl s0 CP Z0 s σ1 Z ξ→ax A env s0 σ1 Z I→jh B.in1 Z I items P St fp→St i s.heap→σ1 a=some ao→og ao≤i→l8 ao (items.drop i)=some fin→
  (∀b,b≠a→σ1 b=σ b)→codeAny cx.M B (.builtin "dict.update.loop" ⟨[.ref a,.ref I,rawInt z,.none],[]⟩) R s:=by
 intro m
 revert hB hu hz q;revert A B env sl s0 CP σ Z0 Z ξ a I items P St fp R fin m;apply zp
 generalize (aZ _ _).1.1.1.1.1=A,(aZ _ _).1.1.1.1.2=s0,(aZ _ _).1.1.1.2=env,(aZ _ _).1.1.2.1=Z,(aZ _ _).1.1.2.2=Z0,(aZ _ _).1.2.1.1.1=sl,(aZ _ _).1.2.1.1.2=a,(aZ _ _).1.2.1.2=I,(aZ _ _).1.2.2.1=σ,(aZ _ _).1.2.2.2=CP,(aZ _ _).2.1.1.1.1=R,(aZ _ _).2.1.1.1.2=St,(aZ _ _).2.1.1.2=fp,(aZ _ _).2.1.2.1=ξ,(aZ _ _).2.1.2.2=B,(aZ _ _).2.2.1.1=items,(aZ _ _).2.2.1.2=P,(aZ _ _).2.2.2.1=fin,(aZ _ _).2.2.2.2=m;intro hB hu hz q
 induction m with
 |zero=>
  intro i z s σ1 ao hm hi G SI hit hst ha hn hf hσ
  have hin:i=items.length:=by lia
  subst hin
  rw[List.drop_length]at hf
  (replace hf:=sI hf;subst hf)
  refine codeAny_builtin qQ ?_
  refine rE (Around.under_plainId qP _) ?_
  delta Builtin.«dict.update.loop»
  refine wpAny_bind (hit.walks.done s _ _ hst fun h2 tk2 hk2=>?_)
  refine wpAny_bind (wpAny_pure (wpAny_pure ?_))
  exact q _ _ (G.side (t:=tk2) SI fun b o hb e=>hk2 b o (by simpa using hb) e) ha hσ
 |succ m ih=>
  intro i z s σ1 ao hm hi G SI hit hst ha hn hf hσ
  have hlt:i<items.length:=by lia
  refine codeAny_builtin qQ ?_
  refine rE (Around.under_plainId qP _) ?_
  delta Builtin.«dict.update.loop»
  refine wpAny_bind (hit.walks.item i s _ _ hlt hst fun v h2 tk2 hP hst2 hk2=>?_)
  refine aF (hit.rep i v hlt hP) fun d hd hr=>?_
  have hdrop:items.drop i=d::items.drop (i+1):=by
   refine xE (List.getElem?_eq_some_iff.mp hd) fun zz e=>?_
   exact rE (List.drop_eq_getElem_cons hlt) (rE e rfl)
  rw[hdrop]at hf
  have G2:=G.side (t:=tk2) SI fun b o hb e=>hk2 b o (by simpa using hb) e
  unfold l8 at hf
  split at hf
  ·rename_i dk dv
   refine aF (Option.bind_eq_some_iff.mp hf) fun DZ hp hf=>?_
   refine be (io G2.inv hr rfl) fun ta to vs nn q4 k1 k2 k3 k4=>?_;subst q4
   obtain⟨vs⟩:=vs
   cases k4 using aB.CS with
   |cons r1 k4=>cases k4 using aB.CS with
    |cons r2 k4=>
     cases k4 using aB.Da
     refine wpAny_bind (wpAny_holding ?_)
     refine wpAny_bind (wpAny_tryCatch ?_)
     delta Builtin.Dict.pairItems
     refine wpAny_bind (wpAny_typeOf (T:="tuple") (aP to k1 k2) ?_)
     refine wT (by decide) ?_
     refine wpAny_bind (wpAny_seqItems k1 k3 (wpAny_pure ?_))
     refine wpAny_holding (qR (by refine(?_:B.units+1<cLine);exact hu) G2 ha r1 r2 hp (by lia) fun s3 g3 hs3=>?_)
     refine wpAny_pure ⟨Code.quiet_builtin _ (by decide+kernel),?_⟩
     have hIa:I≠a:=fun q=>by rw[←q,SI.own]at ha;exact nS ha
     have hl:=wm hp
     refine ih (i+1) (z+1) s3 (σ1.put a DZ) DZ (by lia) hlt g3 ⟨SI.new,(af.CO _ _ hIa).trans SI.own,SI.zone,SI.mine,SI.fr⟩ hit (hit.walks.frame (i+1) h2 s3.heap hst2 (fun b hb o e=>?_)) (af.CN _ _ _) (by lia) hf fun b hb=>(af.CO _ _ hb).trans (hσ b hb)
     refine(hs3.2 b fun q=>?_).trans e
     subst q
     rcases hit.fp b hb with rfl|⟨o2,e2⟩
     ·exact hIa rfl
     ·have:=(G.inv.own b _ ha).1;rw[e2]at this;exact sN this
  ·exact nS hf
end
end
section
theorem rk.refl:∀(ds:List D),rk σ S ds ds
 |[]=> .nil
 |d::ds=> .cons (.same d) (rk.refl ds)
theorem ry.refl:∀(ds:List (Str×D)),ry σ S ds ds
 |[]=> .nil
 |(k,d)::ds=> .cons (.same d) (ry.refl ds)
theorem zi.refl:∀(ds:List (List Str×D)),zi σ S ds ds
 |[]=> .nil
 |(k,d)::ds=> .cons (.same d) (zi.refl ds)
noncomputable def iF:DK→AO
 | .str=> .dS []
 | .tup=> .dT []
noncomputable def Cw:AO→Option D
 | .dS kvs=>some (.dS kvs)
 | .dT kvs=>some (.dT kvs)
 | .lst ds=>some (.lst ds)
 |_=>none
theorem Fz.FY(h:Cw ao=some d)(ha:σ a=some ao)(hS:S a):Fz σ S (.ref a) d:=by
 cases ao<;>first|(exact nS h;done)|skip
 ·(replace h:=sI h;subst h);exact .lst hS ha (rk.refl _)
 ·(replace h:=sI h;subst h);exact .dS hS ha (ry.refl _)
 ·(replace h:=sI h;subst h);exact .dT hS ha (zi.refl _)
section
variable{B:Around}
theorem pL(G:GS A env sl s0 CP Z0 s σ Z ξ)(k:DK):OM Z s.heap.objs.size emptyDict (iF k):=by
 cases k
 ·exact .dS (xs:=[]) (kvs:=[]) (dC (#[]) 0 (dx rfl rfl rfl) rfl (fun zz h=>by simp at h) .nil (by simp)) .nil (oX G) (by simp)
 ·exact .dT (xs:=[]) (kvs:=[]) (es:= #[]) (ep:=0) (dx rfl rfl rfl) rfl rfl (by simp) (by simp) .nil (oX G)
set_option tactic.hygienic true in
theorem rd(I:dR s.heap σ Z)(hr:aw Z v d)(hd:bg σ d=some ds):
 ∃a o vs m,v= .ref a∧s.heap.get? a=some o∧o.cls= .type "list"∧o.dict=none∧o.data= .seq vs m∧aB Z vs.toList ds:=by
 cases hr with
 |lst h1 h2 h3 h4=>(replace hd:=sI hd;subst hd);exact(dp _ _ _ _ rfl (I.zone _ _ h1) h2.1 h2.2 h3 h4)
 |ref a=>
  simp only[bg]at hd
  split at hd
  ·rename_i ds' q
   (replace hd:=sI hd;subst hd)
   refine ck (I.own _ _ q) fun zz o ho hm=>?_
   cases hm using OM.Dw with
   |lst hr=>exact(dp a _ _ _ rfl ho rfl rfl rfl hr)
  ·exact nS hd
 |_=>exact nS hd
set_option tactic.hygienic true in
theorem yd{items:List D}(hB:B.handled=none)(G:GS A env sl s0 CP Z0 s σ Z ξ)(hv:aw Z v d)(hd:d= .lst items)
 (q:∀I P St fp s',GS A env sl s0 CP Z0 s' σ Z ξ→s.heap.get? I=none→(∀(B':Around),B'.handled=none→jh B' Z I items P St fp)→St 0 s'.heap→Q (.ref I) s'):wpAny cx.M B (pyIter v) Q E s:=by
 subst hd
 cases hv using aw.Dw with
 |lst h1 h2 h3 h4=>
  rename_i a o vs m
  have low:a≠s.heap.objs.size:=fun q=>Nat.lt_irrefl _ (q▸Heap.lt_size (G.inv.zone _ _ h1))
  have hl:vs.size=items.length:=by have:=h4.length;simpa using this
  refine wpAny_pyIter_list (fq o (G.inv.zone _ _ h1) h2.1 m h3) ?_
  refine q s.heap.objs.size (fun i v=>vs[i]?=some v) (fun i h=>h.IsListIter s.heap.objs.size a i∧h.IsList a vs) [s.heap.objs.size,a] _ (G.Dh _ s.toks) (aS _) (fun B' hB'=>⟨hl▸Walks.list hB' s.heap.objs.size a low vs,fun i v hlt hi=>?_,fun b hb=>?_,fun i h st=>?_⟩) ⟨(bP _ (Heap.get?_push_size _ rfl) rfl rfl),(fq o (Heap.get?_push_of_some _ (G.inv.zone _ _ h1)) h2.1 m h3)⟩
  ·exact h4.Fh (by simpa using hi)
  ·rcases List.mem_cons.mp hb with rfl|hb
   ·exact .inl rfl
   ·exact rE (List.mem_singleton.mp hb) (.inr (iE _ h1))
  ·refine xA st fun w0 zz=>?_;clear st;obtain⟨o',e,c,_⟩:=w0;exact(bH o' _ e c (by decide))
theorem qp{items:List D}{k:DK}{fin:AO}{r:D}(R:jl A n)(G:GS A env sl s0 CP Z0 s σ Z ξ)(hv:aw Z v (.lst items))(hz:items.length≤1000000)(hf:l8 (iF k) items=some fin)
 (hr:Cw fin=some r) (q:co A env sl s0 CP Z0 ξ Z σ r Q):wpAny cx.M A (call (.type "dict") [v]) Q E s:=by
 refine fD (rd G.inv hv (ds:=items) rfl) fun la o vs m q4 k1 k2 k2' k3 k4=>?_;subst q4
 have G1:=G.Dc emptyDict s.toks (pL G k)
 have hu:A.units+2<cLine:=R.room 2 (by lia)
 have a0:s.heap.get? s.heap.objs.size=none:=aS _
 have fr:=cY G.inv a0
 refine callType_codes (Q₁:=fun obj s₁=>obj= .ref s.heap.objs.size∧s₁={s with heap:=s.heap.push {cls:= .type "dict",data:= .dict #[]}}) F.kt_called_dict (F.kt_typeCall_dict_1 _) F.entry_dict_init (kt_code_dict_new _ ⟨rfl,rfl⟩) ?_
 rintro obj s₁ ⟨rfl,rfl⟩
 have hg:(s.heap.push emptyDict).get? s.heap.objs.size=some emptyDict:=Heap.get?_push_size _ rfl
 have hl:(s.heap.push emptyDict).get? la=some o:=Heap.get?_push_of_some _ k1
 refine(dx (aP _ hg rfl) (F.args_dict_init_2 _ _) ?_)
 delta Builtin.«dict.__init__»
 refine wpAny_bind ?_
 delta Builtin.Dict.selfAndRest
 refine wpAny_bind (wpAny_notOrdered_dict (aP _ hg rfl) ?_)
 refine(?_:wpAny _ _ (pure (s.heap.objs.size,[Value.ref la])) _ _ _)
 refine wpAny_pure ?_
 refine(?_:wpAny _ _ (Builtin.Dict.updateFrom "dict.__init__" s.heap.objs.size (.ref la) [] .none) _ _ _)
 delta Builtin.Dict.updateFrom
 refine wpAny_bind (wpAny_typeOf (T:="list") (aP _ hl k2) ?_)
 refine wT (by decide) ?_
 refine wpAny_bind (vd (by exact R.handled) hl k2 k2' k3 fun h' tk hk=>?_)
 have G2:GS A env sl s0 CP Z0 _ (σ.put s.heap.objs.size (iF k)) Z ξ:=G1.keeps (t:=tk) hk
 simp only[Option.isNone_none,if_true]
 refine wpAny_bind (wpAny_rule (wpAny_bind ?_))
 refine yd (d:= .lst items) (by exact R.handled) G2 (hv) rfl fun I P St fp s3 g3 hI hit hst=>?_
 refine wpAny_pure ⟨Code.quiet_builtin _ (by decide+kernel),?_⟩
 have sI:=ax.fresh G2 hI
 have H5:ax A env s0 (σ.put s.heap.objs.size (iF k)) Z I:=⟨sI.new,sI.own,sI.zone,sI.mine,sI.fr⟩
 refine vm (B:=A.in1) R.handled hu hz fin (fun s4 Dt g4 h4 h5=>?_) items.length 0 0 s3 _ (iF k) (by lia) (Nat.zero_le _) g3 H5 (hit _ R.handled) hst (af.CN _ _ _) (by cases k<;>exact Nat.le_refl _) (by simpa using hf) (fun zz zz=>rfl)
 refine⟨rfl,?_⟩
 have hS:∀b,b=s.heap.objs.size→Dt b≠none:=fun b hb=>by refine rE hb (rE h4 ?_);simp
 have g5:=g4.fz hS
 have e:Dt.minus (fun b=>b=s.heap.objs.size)=σ:=by
  funext b
  by_cases q:b=s.heap.objs.size
  ·exact rE (af.C2 (S:=fun b=>b=s.heap.objs.size) q) (rE q (rE fr.1 rfl))
  ·exact rE (af.CQ (S:=fun b=>b=s.heap.objs.size) q) (rE (h5 b q) (rE (af.CO _ _ q) rfl))
 rw[e]at g5
 exact q _ _ _ g5 (eP g4.inv hS) (aw.fz g4.inv hS (.ref _) (Fz.FY hr h4 rfl))
noncomputable def zO:D→Option (List D)
 | .lst ds=>some ds
 |_=>none
theorem wJ{x:List D}(h:zO d=some x):d= .lst x:=by cases d<;>first|(exact nS h;done)|((replace h:=sI h;subst h);rfl)
def r7:WO:=fun zz ds σ Φ=>AJ ds fun d=>on (zO d) fun items=>∃k fin r,items.length≤1000000∧l8 (iF k) items=some fin∧Cw fin=some r∧Φ r σ
theorem wC:OP c (fun vs=>call (.type "dict") vs) r7:=fun ds σ Φ h F sl s Z ξ vs Q S a r κ=>by
 refine aF (jV h) fun d q1 h=>?_;subst q1
 refine aF (fk h) fun items hi CU=>cp CU fun k fin r' h1 h2 h3 h4=>?_;clear CU
 cases wJ hi
 refine aF (r.is1) fun v q1 r1=>?_;subst q1
 exact qp a.DA a.gs r1 h1 h2 h3 (κ.y a h4)
instance[k:bL ns (ofString "dict") .globalImplicit][h1:LX c ns sl args ws]:EX c ns sl (.Call (.Name (ofString "dict") p) args [] pos) (rA "dict" ws r7):=
 EX.type (T:="dict") k h1 rfl (by decide) (by decide) wC
def lc(p:Pos):WE:=fun c zz σ Φ=>∀a,σ a=none→Φ (.ref a) (σ.put a (if c.owns p=true then .dT []else .dS []))
instance:EX c ns sl (.Dict [] [] pos) (lc pos):=
 EX.of rfl fun ξ σ Φ q F s Z Q S a κ=>by
  have fr:=cY a.gs.inv (aS s.heap)
  refine wpAny_Dict_empty ?_
  have q:=q _ fr.1
  cases hb:c.owns pos
  ·rw[hb]at q
   exact κ _ _ _ _ Z (a.to (a.gs.Dc emptyDict s.toks (pL a.gs .str))) (am.le_refl _) (.ref _) q
  ·rw[hb]at q
   exact κ _ _ _ _ Z (a.to (a.gs.Dc emptyDict s.toks (pL a.gs .tup))) (am.le_refl _) (.ref _) q
end
end
section
def cI(n:Nat)(r:Nat→Nat){α:Type}:KasT α→(α→Prop)→Prop
 | .ret a,Q=>Q a
 | .ask i j k,Q=>i<n∧j<n∧i≠j∧cI n r (k (decide (r i<r j))) Q
theorem cI.mono{r:Nat→Nat}{α:Type}{Q Q':α→Prop}{t:KasT α}(h:cI n r t Q)(hq:∀a,Q a→Q' a):cI n r t Q':=by
 induction t with
 |ret a=>exact hq a h
 |ask i j k ih=>exact⟨h.1,h.2.1,h.2.2.1,ih _ h.2.2.2⟩
theorem cI.bind{r:Nat→Nat}{α β:Type}{f:α→KasT β}{Q:β→Prop}{t:KasT α}(h:cI n r t (fun a=>cI n r (f a) Q)):cI n r (t.bind f) Q:=by
 induction t with
 |ret a=>exact h
 |ask i j k ih=>exact⟨h.1,h.2.1,h.2.2.1,ih _ h.2.2.2⟩
theorem cI.wp{r:Nat→Nat}{α:Type}{I:Shared→Prop}{Q:α→Prop}{G:α→Shared→Prop}
 (hc:∀i j s (C:Bool→Shared→Prop),i<n→j<n→i≠j→I s→(∀s',I s'→C (decide (r i<r j)) s')→cmp i j C s) (hg:∀a s,I s→Q a→G a s) {t:KasT α} (h:cI n r t Q) (is:I s):t.kasWp cmp G s:=by
 induction t generalizing s with
 |ret a=>exact hg a s is h
 |ask i j k ih=>exact hc i j s _ h.1 h.2.1 h.2.2.1 is fun s' is'=>ih _ h.2.2.2 is'
theorem cI.q{r:Nat→Nat}{α:Type}{Q:α→Prop}{k:Bool→KasT α}(h1:i<n)(h2:j<n)(h3:i≠j)(ht:r i<r j→cI n r (k true) Q)(hf:¬r i<r j→cI n r (k false) Q):cI n r (.ask i j k) Q:=by
 refine fw h1 h2 h3 ?_
 exact bD (b:=decide (r i<r j)) (fun e=>ht (of_decide_eq_true e)) fun e=>hf (of_decide_eq_false e)
def bC(n:Nat)(p:Array Nat):Prop:=p.toList.Perm (List.range n)
noncomputable def Rk(r:Nat→Nat)(p:Array Nat)(i:Nat):Nat:=r (p.getD i 0)
def fc(r:Nat→Nat)(p:Array Nat)(m:Nat):Prop:=∀i j,i<j→j<m→Rk r p i<Rk r p j
def uk(r:Nat→Nat)(p:Array Nat)(m:Nat):Prop:=∀i j,i<j→j<m→Rk r p j<Rk r p i
section
variable{r:Nat→Nat}{p:Array Nat}
theorem bC.size(h:bC n p):p.size=n:=by have:=h.length_eq;simpa using this
theorem bC.lt(h:bC n p)(hi:i<n):p.getD i 0<n:=by
 have hs:=h.size
 have:p[i]'(by lia)∈List.range n:=h.mem_iff.mp (by simp)
 simpa[Array.getD,hs,hi]using this
theorem bC.inj(h:bC n p)(hi:i<n)(hj:j<n)(e:p.getD i 0=p.getD j 0):i=j:=by
 have hs:=h.size
 have nd:p.toList.Nodup:=h.nodup_iff.mpr List.nodup_range
 have e2:p.toList[i]'(by simpa[hs]using hi)=p.toList[j]'(by simpa[hs]using hj):=by simpa[Array.getD,hs,hi,hj]using e
 exact(List.getElem_inj nd).mp e2
theorem bC.ne(h:bC n p)(hi:i<n)(hj:j<n)(e:i≠j):p.getD i 0≠p.getD j 0:=fun q=>e (h.inj hi hj q)
theorem bC.of(h:bC n p){p':Array Nat}(hp:p'.Perm p):bC n p':=(Array.perm_iff_toList_perm.mp hp).trans h
theorem kZ{p q:Array Nat}(h:p[i]?=q[j]?):p.getD i 0=q.getD j 0:=by
 exact rE (Array.getD_eq_getD_getElem?) (rE (Array.getD_eq_getD_getElem?) (rE h rfl))
theorem bC.rev(h:bC n p)(i j:Nat):bC n (kas_rev p i j):=h.of (mirror_perm _ _ _ _)
theorem vV(h:bC n p)(hj:j≤n)(q:k<j):Rk r (kas_rev p 0 j) k=Rk r p (j-1-k):=by
 have e:=getElem?_mirror_all (xs:=p) (i:=0) (j:=j) (by exact rE h.size hj) k
 rw[if_pos ⟨Nat.zero_le _,q⟩,Nat.zero_add]at e
 exact congrArg r (kZ e)
section
variable{l:Nat}(h:bC n p)(hk:k<n)(hl:l≤k)
include h hk hl
theorem rb:(bubble p k (k-l))[i]?=if i=l then p[k]? else if l<i∧i≤k then p[i-1]? else p[i]?:=by
 have e:=getElem?_bubble (xs:=p) (src:=k) (by exact rE h.size hk) (k-l) (Nat.sub_le _ _) i
 rw[Nat.sub_sub_self hl]at e
 exact e
theorem te(q:i<l):Rk r (bubble p k (k-l)) i=Rk r p i:=congrArg r (kZ ((rb h hk hl).trans ((if_neg (Nat.ne_of_lt q)).trans (if_neg fun e=>Nat.lt_asymm q e.1))))
theorem zI:Rk r (bubble p k (k-l)) l=Rk r p k:=congrArg r (kZ ((rb h hk hl).trans (if_pos rfl)))
theorem zG(q:l≤i)(q2:i<k):Rk r (bubble p k (k-l)) (i+1)=Rk r p i:=congrArg r (kZ ((rb h hk hl).trans ((if_neg (Nat.ne_of_gt (Nat.lt_succ_of_le q))).trans (if_pos ⟨Nat.lt_succ_of_le q,q2⟩))))
theorem yZ(hi:fc r p k)(b:∀i,i<l→Rk r p i<Rk r p k)(c:∀i,l≤i→i<k→Rk r p k<Rk r p i):fc r (bubble p k (k-l)) (k+1):=by
 intro i j hij hj
 refine(Nat.lt_or_ge j l).elim (fun q=>?_) fun q=>(Nat.eq_or_lt_of_le q).elim (fun q=>?_) fun q=>?_
 ·refine rE (te h hk hl (Nat.lt_trans hij q)) (rE (te h hk hl q) ?_)
  exact hi _ _ hij (Nat.lt_of_lt_of_le q hl)
 ·subst q
  exact rE (te h hk hl hij) (rE (zI h hk hl) (b _ hij))
 ·cases j with
  |zero=>exact absurd q (Nat.not_lt_zero _)
  |succ j=>
   have q1:=Nat.le_of_lt_succ q
   have q2:=Nat.lt_of_succ_lt_succ hj
   refine rE (zG h hk hl q1 q2) ?_
   refine(Nat.lt_or_ge i l).elim (fun w=>?_) fun w=>(Nat.eq_or_lt_of_le w).elim (fun w=>?_) fun w=>?_
   ·exact rE (te h hk hl w) (hi _ _ (Nat.lt_of_lt_of_le w q1) q2)
   ·subst w;exact rE (zI h hk hl) (c _ q1 q2)
   ·cases i with
    |zero=>exact absurd w (Nat.not_lt_zero _)
    |succ i=>exact rE (zG h hk hl (Nat.le_of_lt_succ w) (Nat.lt_trans (Nat.lt_of_succ_lt_succ hij) q2)) (hi _ _ (Nat.lt_of_succ_lt_succ hij) q2)
end
theorem vO{R:Nat→Nat→Prop}{g:Nat→Nat}{m:Nat}(tr:∀a b c,R a b→R b c→R a c)(hi:∀i j,i<j→j<m+1→R (g i) (g j))(h:R (g m) (g (m+1)))(i j:Nat)(hij:i<j)(hj:j<m+1+1):R (g i) (g j):=
 (Nat.eq_or_lt_of_le (Nat.le_of_lt_succ hj)).elim (fun e=>by
  subst e
  exact(Nat.eq_or_lt_of_le (Nat.le_of_lt_succ hij)).elim (fun e=>e▸h) fun e=>tr _ _ _ (hi i m e (Nat.lt_succ_self m)) h) fun e=>hi i j hij e
theorem zY{m f:Nat}(h:m+1+(f+1)≤n):m+1<n:=Nat.lt_of_lt_of_le (Nat.lt_add_of_pos_right (Nat.succ_pos f)) h
theorem re(m f:Nat):m+1+1+f=m+1+(f+1):=Nat.succ_add _ _
theorem CL{l u f:Nat}(q:¬l≥u)(h1:u-l≤f+1)(h3:u≤k):(l+u)/2<u∧l≤(l+u)/2∧(l+u)/2-l≤f∧u-((l+u)/2+1)≤f∧(l+u)/2<k:=
 ⟨by lia,by lia,by lia,by lia,by lia⟩
variable(hr:∀i j,i<n→j<n→r i=r j→i=j)
include hr
theorem Bk(h:bC n p)(hi:i<n)(hj:j<n)(e:i≠j):Rk r p i≠Rk r p j:=fun q=>h.ne hi hj e (hr _ _ (h.lt hi) (h.lt hj) q)
theorem s9(h:bC n p)(hi:i<n)(hj:j<n)(e:j≠i)(q:¬Rk r p i<Rk r p j):Rk r p j<Rk r p i:=Nat.lt_of_le_of_ne (Nat.le_of_not_lt q) (Bk hr h hj hi e)
theorem s7(h:bC n p)(f:Nat):∀m,m+1+f≤n→fc r p (m+1)→cI n r (kas_asc p f (m+1)) fun k=>m+1≤k∧k≤m+1+f∧fc r p k∧(k<m+1+f→Rk r p k<Rk r p (k-1)):=by
 induction f with
 |zero=>exact fun m h2 hi=>fw (Nat.le_refl _) (Nat.le_refl _) hi fun q=>absurd q (Nat.lt_irrefl _)
 |succ f ih=>
  intro m h2 hi
  have a:=zY h2
  have a':=Nat.lt_of_succ_lt a
  refine cI.q (h.lt a) (h.lt a') (h.ne a a' (Nat.succ_ne_self m)) (fun q=>fw (Nat.le_refl _) (Nat.le_add_right _ _) hi fun zz=>q) fun q=>?_
  exact cI.mono (ih (m+1) (re m f▸h2) (vO (fun zz zz zz=>Nat.lt_trans) hi (s9 hr h a a' (Nat.succ_ne_self m).symm q))) fun k w=>fw (Nat.le_of_succ_le w.1) (re m f▸w.2.1) w.2.2.1 fun q=>w.2.2.2 (re m f▸q)
theorem vU(h:bC n p)(f:Nat):∀m,m+1+f≤n→uk r p (m+1)→cI n r (kas_desc f p (m+1) 0) fun k=>k.1=p∧k.2.2=0∧m+1≤k.2.1∧k.2.1≤m+1+f∧uk r p k.2.1:=by
 induction f with
 |zero=>exact fun m h2 hi=>fw rfl rfl (Nat.le_refl _) ⟨Nat.le_refl _,hi⟩
 |succ f ih=>
  intro m h2 hi
  have a:=zY h2
  have a':=Nat.lt_of_succ_lt a
  have e:=Nat.succ_ne_self m
  refine cI.q (h.lt a) (h.lt a') (h.ne a a' e) (fun q=>?_) fun q=>?_
  ·exact cI.mono (ih (m+1) (re m f▸h2) (vO (R:=(·>·)) (fun zz zz zz h1 h2=>Nat.lt_trans h2 h1) hi q)) fun k w=>fw w.1 w.2.1 (Nat.le_of_succ_le w.2.2.1) ⟨re m f▸w.2.2.2.1,w.2.2.2.2⟩
  ·exact cI.q (h.lt a') (h.lt a) (h.ne a' a e.symm) (fun zz=>fw rfl rfl (Nat.le_refl _) ⟨Nat.le_add_right _ _,hi⟩) fun q2=>absurd (s9 hr h a a' e.symm q) q2
theorem uu(h:bC n p){m:Nat}(h2:m+1≤n)(hd:uk r p (m+1)):cI n r (kas_tail3 (m+1) n p) fun k=>m+1≤k.1∧k.1≤n∧bC n k.2∧fc r k.2 k.1:=by
 have hI:fc r (kas_rev p 0 (m+1)) (m+1):=fun i j hij hj=>rE (vV h h2 (Nat.lt_trans hij hj)) (rE (vV h h2 hj) (hd _ _ (Nat.sub_lt_sub_left (Nat.lt_of_lt_of_le hij (Nat.le_of_lt_succ hj)) hij) (Nat.lt_succ_of_le (Nat.sub_le _ _))))
 exact(cI.mono (s7 hr (h.rev 0 (m+1)) (n-(m+1)) m (Nat.le_of_eq (Nat.add_sub_cancel' h2)) hI) fun k w=>fw w.1 (Nat.add_sub_cancel' h2▸w.2.1) (h.rev 0 (m+1)) w.2.2.1).bind
theorem uw(h:bC n p)(hn:2≤n):cI n r (kas_count n p) fun k=>1≤k.1∧k.1≤n∧bC n k.2∧fc r k.2 k.1:=by
 have e1:0+1+(n-1)=n:=Nat.add_sub_cancel' (Nat.le_of_succ_le hn)
 refine cI.bind (cI.mono (s7 hr h (n-1) 0 (Nat.le_of_eq e1) fun i j hij hj=>absurd (Nat.lt_of_lt_of_le hij (Nat.le_of_lt_succ hj)) (Nat.not_lt_zero _)) fun m w=>?_)
 have b:m≤n:=e1▸w.2.1
 by_cases q:m=n
 ·subst q;exact rE (if_pos (beq_self_eq_true _)) (fw w.1 (Nat.le_refl _) h w.2.2.1)
 ·refine rE (if_neg fun z=>q (eq_of_beq z)) ?_
  have bl:=Nat.lt_of_le_of_ne b q
  have h0:0<n:=Nat.lt_of_succ_le (Nat.le_of_succ_le hn)
  cases m with
  |zero=>exact absurd w.1 (Nat.not_succ_le_zero _)
  |succ m=>cases m with
   |succ m=>
    have bm:=Nat.lt_of_succ_lt bl
    refine rE (if_pos (Nat.succ_lt_succ (Nat.succ_pos m))) ?_
    exact cI.q (h.lt h0) (h.lt bm) (h.ne h0 bm (Nat.succ_ne_zero m).symm) (fun zz=>fw w.1 b h w.2.2.1) fun z=>absurd (w.2.2.1 0 (m+1) (Nat.succ_pos m) (Nat.lt_succ_self _)) z
   |zero=>
    refine rE (if_neg (Nat.lt_irrefl 1)) ?_
    have d:=w.2.2.2 (e1.symm▸bl)
    have hd:uk r p (1+1):=vO (R:=(·>·)) (fun zz zz zz h1 h2=>Nat.lt_trans h2 h1) (fun i j hij hj=>absurd (Nat.lt_of_lt_of_le hij (Nat.le_of_lt_succ hj)) (Nat.not_lt_zero _)) d
    delta kas_descPart
    refine cI.bind (cI.mono (vU hr h (n-(1+1)) 1 (Nat.le_of_eq (Nat.add_sub_cancel' hn)) hd) fun k w=>?_)
    refine rE w.2.1 (rE (if_neg (Nat.lt_irrefl 0)) (rE w.1 ?_))
    have c:=w.2.2.1
    have e2:k.2.1=k.2.1-1+1:=(Nat.sub_add_cancel (Nat.le_of_succ_le c)).symm
    rw[e2]
    exact cI.mono (uu hr h (e2▸Nat.add_sub_cancel' hn▸w.2.2.2.1) (e2▸w.2.2.2.2)) fun k v=>fw (Nat.le_trans (Nat.le_add_left _ _) v.1) v.2.1 v.2.2.1 v.2.2.2
theorem uv(h:bC n p)(hk:k<n)(hi:fc r p k)(f:Nat):∀l u,u-l≤f→l≤u→u≤k→(∀i,i<l→Rk r p i<Rk r p k)→(∀i,u≤i→i<k→Rk r p k<Rk r p i)→
 cI n r (kas_place p k f l u) fun m=>m≤k∧(∀i,i<m→Rk r p i<Rk r p k)∧(∀i,m≤i→i<k→Rk r p k<Rk r p i):=by
 induction f with
 |zero=>exact fun l u h1 h2 h3 h4 h5=>dx (Nat.le_trans h2 h3) h4 fun i q=>h5 i (Nat.le_trans (Nat.le_of_sub_eq_zero (Nat.eq_zero_of_le_zero h1)) q)
 |succ f ih=>
  intro l u h1 h2 h3 h4 h5
  by_cases q:l≥u
  ·refine(?_:cI _ _ (if l≥u then .ret l else _) _)
   exact rE (if_pos q) (dx (Nat.le_trans h2 h3) h4 fun i w=>h5 i (Nat.le_trans q w))
  ·refine(?_:cI _ _ (if l≥u then .ret l else _) _)
   refine rE (if_neg q) (dF (CL q h1 h3) fun a1 a2 w=>dF w fun a3 a4 a5=>?_)
   have hm:=Nat.lt_trans a5 hk
   refine cI.q (h.lt hk) (h.lt hm) (h.ne hk hm (Nat.ne_of_gt a5)) (fun w=>?_) fun w=>?_
   ·exact ih l _ a3 a2 (Nat.le_of_lt a5) h4 fun i x y=>(Nat.eq_or_lt_of_le x).elim (fun e=>e▸w) fun e=>Nat.lt_trans w (hi _ _ e y)
   ·exact ih _ u a4 a1 h3 (fun i x=>(Nat.eq_or_lt_of_le (Nat.le_of_lt_succ x)).elim (fun e=>e▸s9 hr h hk hm (Nat.ne_of_lt a5) w) fun e=>Nat.lt_trans (hi _ _ e a5) (s9 hr h hk hm (Nat.ne_of_lt a5) w)) h5
theorem xV(f:Nat):∀{p:Array Nat} (k:Nat),bC n p→k+f=n→fc r p k→cI n r (kas_bin f p k) fun p'=>bC n p'∧fc r p' n:=by
 induction f with
 |zero=>exact fun k h hk hi=>⟨h,hk▸hi⟩
 |succ f ih=>
  intro p k h hk hi
  have hk':k<n:=hk▸Nat.lt_add_of_pos_right (Nat.succ_pos f)
  refine cI.bind (cI.mono (uv hr h hk' hi k 0 k (Nat.le_refl _) (Nat.zero_le _) (Nat.le_refl _) (fun i q=>absurd q (Nat.not_lt_zero _)) fun i q q2=>absurd q2 (Nat.not_lt.mpr q)) fun l w0=>dF w0 fun a b c=>?_)
  exact ih (k+1) (h.of (bubble_perm _ _ _)) ((Nat.succ_add k f).trans hk) (yZ h hk' a hi b c)
theorem vT(hn:2≤n):cI n r (kas_sort n) fun p=>bC n p∧fc r p n:=by
 have h0:bC n (List.toArray (List.range n)):=by delta bC;simp
 refine cI.bind (cI.mono (uw hr h0 hn) fun k w0=>dF w0 fun a b w=>xA w fun c d=>?_)
 have e:max k.1 1=k.1:=Nat.max_eq_left a
 refine rE e ?_
 by_cases q:k.1<n
 ·refine rE (if_pos q) ?_
  exact xV hr _ _ c (by lia) d
 ·refine rE (if_neg q) ?_
  obtain rfl:k.1=n:=by lia
  exact⟨c,d⟩
end
end
section
section
variable{w:World}
theorem xX{d:Addr}{es:Array DictEntry}(lo:(d==sysModules)=false):KdlSrc prog w "dict" d d es.size (fun i v=>(es[i]?.map (·.key))=some v) (fun h=>dh h d es ep)where
 type:=fun zz w0=>cz w0 fun o ho hc zz=>⟨o,ho,hc.1⟩
 there:=fun zz w0=>aF w0 fun o ho zz=>⟨Heap.lt_size ho,Heap.lt_size ho⟩
 keep:=fun zz zz hm hk=>hm.at fun o e=>hk d (.inl rfl) o e
 notList:=by decide
 notTuple:=by decide
 hint:=fun zz zz zz zz w0 hq=>cz w0 fun o ho hc zz=>kdl_hint_dict ⟨o,ho,hc.1⟩ hq
 iter:=fun zz s hh hm=>⟨_,_,(fun zz zz hq=>lu lo hm hq),Walks.raw hh _ d (Nat.ne_of_lt (let⟨o,ho,_⟩:=hm;Heap.lt_size ho)) es ep,⟨⟨_,Heap.get?_push_size _ rfl,rfl,rfl⟩,hm.at fun o e=>Heap.get?_push_of_some _ e⟩⟩
theorem pR{d:Addr}{es:Array DictEntry}(hh:A.handled=none)(lo:(d==sysModules)=false)(hm:dh s.heap d es ep)(hn:es.size≤sizeLine)
 (h:∀h' tk acc' c',(∀b o,b≠s.heap.objs.size→(s.heap.push (seqObj "list" #[] 0)).get? b=some o→h'.get? b=some o)→h'.get? s.heap.objs.size=some {cls:= .type "list",dict:=none,data:= .seq acc' c',slots:= #[]}→
  ItemsOf (fun i v=>(es[i]?.map (·.key))=some v) acc' es.size→R (.ok (.ret (.ref s.heap.objs.size))) {s with heap:=h',toks:=tk}):codeAny (model prog w) A (.builtin "proto.collect" ⟨[.ref d],[]⟩) R s:=by
 refine codeAny_builtin entry_proto_collect' ?_
 refine(?_:wpAny _ _ (do again (.builtin "list.__iadd__" ⟨[←newList [],.ref d],[]⟩)) _ _ s)
 refine wpAny_bind (wpAny_newList (wpAny_pure ⟨Code.quiet_builtin _ (by decide+kernel),codeAny_builtin entry_list_iadd' ?_⟩))
 refine(?_:wpAny _ _ (Builtin.List.listExtendWith (.ref s.heap.objs.size) (.ref d) (.ref s.heap.objs.size)) _ _ {s with heap:=s.heap.push (seqObj "list" #[] 0)})
 have hd:d<s.heap.objs.size:=let⟨o,ho,_⟩:=hm;Heap.lt_size ho
 refine rE (Around.under_plainId (by decide+kernel) _) ?_
 exact kdl_extend (s:={s with heap:=s.heap.push (seqObj "list" #[] 0)}) (A:=A) (xX (ep:=ep) lo) hh (hm.at fun o e=>Heap.get?_push_of_some _ e) s.heap.objs.size (Nat.ne_of_gt hd) (Nat.ne_of_gt hd) _ 0 (Heap.get?_push_size _ rfl) (fun h' tk acc' c' hk hS hacc=>h h' tk acc' c' hk hS hacc) hn
theorem kM{d:Addr}{es:Array DictEntry}{Q:List Value→Shared→Prop}(hh:A.handled=none)(lo:(d==sysModules)=false)(hm:dh s.heap d es ep)(hn:es.size≤sizeLine)
 (h:∀h' tk,(∀b o,s.heap.get? b=some o→h'.get? b=some o)→Q (es.toList.map (·.key)) {s with heap:=h',toks:=tk}):wpAny (model prog w) A (collect (.ref d)) Q E s:=by
 delta collect
 refine wpAny_bind (wpAny_runValue (pR hh lo hm hn fun h' tk acc' c' hk hS hacc=>?_))
 refine(?_:wpAny (model prog w) A (do
  let o←load s.heap.objs.size
  match o.data with
  | .seq xs _=>pure xs.toList
  |_=>unsupported "internal:collect") Q E {s with heap:=h',toks:=tk})
 refine wpAny_bind (wpAny_load hS ?_)
 have e:acc'.toList=es.toList.map (·.key):=by
  apply List.ext_getElem?
  intro i
  by_cases q:i<es.size
  ·have hi:i<acc'.size:=by exact rE hacc.1 q
   have e1:=hacc.2 i acc'[i] (by simp[hi])
   simp only[List.getElem?_map,Array.getElem?_toList,e1]
   simp[hi]
  ·have hi:¬i<acc'.size:=by exact rE hacc.1 q
   simp[q,hi]
 refine(?_:wpAny _ _ (pure acc'.toList) Q E _)
 refine rE e ?_
 exact wpAny_pure (h h' tk fun b o e=>hk b o (Nat.ne_of_lt (Heap.lt_size e)) (Heap.get?_push_of_some _ e))
theorem qZ{l:Addr}{Q:List Value→Shared→Prop}(hl:s.heap.IsList l vs.toArray)(hn:vs.length≤sizeLine)
 (h:∀h' tk,(∀b o,s.heap.get? b=some o→h'.get? b=some o)→Q vs {s with heap:=h',toks:=tk}):wpAny (model prog w) A (collect (.ref l)) Q E s:=
 collect_list hl (h _ s.toks fun b o e=>by
  have hb:=Heap.lt_size e
  refine rE (Heap.get?_update_ne _ _ _ _ (Nat.ne_of_lt hb)) ?_;exact Heap.get?_push_of_some _ e) hn
theorem rK(n:Nat):bC n (List.toArray (List.range n)):=by delta bC;simp
theorem uz:(List.range vs.length).map (fun i=>vs.getD i Value.none)=vs:=by
 apply List.ext_getElem?
 intro i
 by_cases q:i<vs.length
 ·simp[q]
 ·simp[q]
theorem vL{P:PySem.Fin→Shared→Prop}{r:Nat→Nat}(ho:s.heap.get? a=some (seqObj "list" vs.toArray n))(h64:vs.length<64)(hr:∀i j,i<vs.length→j<vs.length→r i=r j→i=j)
 (hk:2≤vs.length→∀s':Shared,(∀b o,b≠a→s.heap.get? b=some o→s'.heap.get? b=some o)→∀Qk:SortKind→Shared→Prop,
  (∀κ,(∀i j (C:Bool→Shared→Prop),i<vs.length→j<vs.length→i≠j→C (decide (r i<r j)) s'→kas_ask prog w A κ vs i j C s')→Qk κ s')→wpAny (model prog w) A (keyKind' vs.toArray) Qk E s')
 (h:∀(p:Array Nat) (h':Heap),bC vs.length p→fc r p vs.length→(∀b o,b≠a→s.heap.get? b=some o→h'.get? b=some o)→
  (∃n',h'.get? a=some (seqObj "list" (List.toArray (p.toList.map fun i=>vs.getD i Value.none)) n'))→P (.done (.ret .none)) {s with heap:=h'}):
 wpAny (model prog w) A (Builtin.«list.sort» ⟨[.ref a],[]⟩) P E s:=by
 revert ho h64 hr hk h;revert prog w A E s a vs n P r;apply zq
 generalize (b9 _ _).1.1.1.1=A,(b9 _ _).1.1.1.2=E,(b9 _ _).1.1.2=s,(b9 _ _).1.2.1=a,(b9 _ _).1.2.2=n,(b9 _ _).2.1.1.1=vs,(b9 _ _).2.1.1.2=prog,(b9 _ _).2.1.2=w,(b9 _ _).2.2.1=P,(b9 _ _).2.2.2=r;intro ho h64 hr hk h
 refine rE (list_sort_plain _) ?_
 have ha:a<s.heap.objs.size:=Heap.lt_size ho
 refine wpAny_bind (listItems_at ho rfl ?_)
 refine wpAny_bind (listUpdate_at ho rfl ?_ (by refine rE List.size_toArray (rE sizeLine_eq ?_);lia) (Nat.zero_le _))
 obtain⟨e1,ho1⟩:∃e1,(s.heap.update a (Obj.mapSeq fun zz=> #[])).get? a=some (seqObj "list" #[] e1):=(iE _ (get?_update_seq ho (fun zz=> #[])))
 refine wpAny_bind (seqEpoch_at ho1 rfl ?_)
 refine wpAny_bind (wpAny_newTuple ?_ (by refine(?_:vs.length≤_);refine rE sizeLine_eq ?_;lia))
 refine wpAny_bind (wpAny_newList ?_ (Nat.zero_le _))
 refine wpAny_holding ?_
 have ho6:(((s.heap.update a (Obj.mapSeq fun zz=> #[])).push (seqObj "tuple" vs.toArray 0)).push (seqObj "list" #[] 0)).get? a=some (seqObj "list" #[] e1):=by
  refine rE (Heap.get?_push_ne _ _ _ (by exact rE (size_push' _ _) (rE (Heap.size_update _ _ _) (Nat.ne_of_lt (Nat.lt_succ_of_lt ha))))) (rE (Heap.get?_push_ne _ _ _ (by exact rE (Heap.size_update _ _ _) (Nat.ne_of_lt ha))) ?_)
  exact ho1
 have kp:∀b o,b≠a→s.heap.get? b=some o→(((s.heap.update a (Obj.mapSeq fun zz=> #[])).push (seqObj "tuple" vs.toArray 0)).push (seqObj "list" #[] 0)).get? b=some o:=fun b o hb e=>by
  refine Heap.get?_push_of_some _ (Heap.get?_push_of_some _ ?_)
  refine rE (Heap.get?_update_ne _ _ _ _ hb) ?_;exact e
 refine(?_:wpAny (model prog w) A _ P E {s with heap:=((s.heap.update a (Obj.mapSeq fun zz=> #[])).push (seqObj "tuple" vs.toArray 0)).push (seqObj "list" #[] 0)})
 generalize ((s.heap.update a (Obj.mapSeq fun zz=> #[])).push (seqObj "tuple" vs.toArray 0)).push (seqObj "list" #[] 0)=h6 at ho6 kp⊢
 dsimp only
 have fin:∀(p:Array Nat) (out:Array Value) (T:Nat→Sem PySem.Fin),bC vs.length p→fc r p vs.length→out=List.toArray (p.toList.map fun i=>vs.getD i Value.none)→
  (∀s',P (.done (.ret .none)) s'→wpAny (model prog w) A (T e1) P E s')→
  wpAny (model prog w) A (seqEpoch a>>=fun n=>Builtin.List.listUpdate (.ref a) (fun zz=>out)>>=fun zz=>T n) P E {s with heap:=h6}:=by
  intro p out T hp hi hout hT
  refine wpAny_bind (seqEpoch_at ho6 rfl ?_)
  have hsz:out.size=vs.length:=by exact rE hout (rE List.size_toArray (rE (List.length_map _) (rE Array.length_toList (rE hp.size rfl))))
  refine wpAny_bind (listUpdate_at ho6 rfl ?_ (Nat.zero_le _) (by refine rE hsz (rE sizeLine_eq ?_);lia))
  refine hT _ (h p _ hp hi (fun b o hb e=>?_) ?_)
  ·refine(?_:(h6.update a _).get? b=_)
   refine rE (Heap.get?_update_ne _ _ _ _ hb) ?_;exact kp b o hb e
  ·subst hout;exact(iE _ (get?_update_seq ho6 fun zz=>List.toArray (p.toList.map fun i=>vs.getD i Value.none)))
 by_cases h2:vs.toArray.size<2
 ·refine rE (if_pos h2) (rE (if_pos h2) ?_)
  refine wpAny_bind (wpAny_pure ?_)
  refine rE (StateT.run_pure _ _) ?_
  refine wpAny_bind (wpAny_pure ?_)
  dsimp only
  have hl:vs.length<2:=by simpa using h2
  refine fin (List.toArray (List.range vs.length)) _ _ (rK _) (fun i j hij hj=>by lia) ?_ ?_
  rotate_left
  ·intro s' hs'
   simp only[bne_self_eq_false,Bool.false_eq_true,if_false]
   exact wpAny_pure hs'
  refine(?_:(arrOf (SortSt.mk' general' (vs.toArray.zip vs.toArray) #[] 7 none)).map (·.2)=_)
  refine rE (show(List.toArray (List.range vs.length)).toList=List.range vs.length from rfl) (rE uz ?_)
  refine(?_:(vs.toArray.zip vs.toArray).map (·.2)=_)
  apply Array.toList_inj.mp
  simp[List.map_snd_zip]
 ·refine rE (if_neg h2) (rE (if_neg h2) ?_)
  have hl:2≤vs.length:=by simp at h2;lia
  refine wpAny_bind (hk hl {s with heap:=h6} kp _ fun κ hc=>?_)
  have run:=cI.wp (cmp:=kas_ask prog w A κ vs) (I:=fun x=>x={s with heap:=h6}) (G:=fun p x=>x={s with heap:=h6}∧bC vs.length p∧fc r p vs.length)
   (fun i j s1 C hi hj hij e q=>by subst e;exact hc i j C hi hj hij (q _ rfl)) (fun p x e q=>⟨e,q⟩) (vT hr hl) rfl
  refine wpAny_bind (wpAny_mono (kat_run (E:=E) (Q:=fun st' s'=>s'={s with heap:=h6}∧failedOf st'=none∧∃p:Array Nat,bC vs.length p∧fc r p vs.length∧(arrOf st').map (·.2)=List.toArray (p.toList.map fun i=>vs.getD i Value.none))
   (ks:=vs) rfl hl h64 (fun p st' s' a1 a2 a3 a4=>(nJ a4.1 a3 p a4.2.1 ⟨a4.2.2,(kat_snds rfl a2)⟩)) run) ?_ fun zz zz e=>e)
  rintro⟨⟨⟩,st'⟩ s' ⟨rfl,hf,p,hp,hi,hout⟩
  dsimp only
  refine fin p _ _ hp hi hout fun s' hs'=>?_
  refine rE hf ?_
  simp only[bne_self_eq_false,Bool.false_eq_true,if_false]
  exact wpAny_pure hs'
theorem rH{x:Value}{r:Nat→Nat}(h64:vs.length<64)(hr:∀i j,i<vs.length→j<vs.length→r i=r j→i=j)
 (hc:∀(A':Around) (E':Value→Shared→Prop) (Qc:List Value→Shared→Prop),A'.handled=A.handled→(∀h' tk,(∀b o,s.heap.get? b=some o→h'.get? b=some o)→Qc vs {s with heap:=h',toks:=tk})→wpAny (model prog w) A' (collect x) Qc E' s)
 (hk:2≤vs.length→∀(A':Around) (E':Value→Shared→Prop) (s':Shared),A'.handled=A.handled→A'.units≤A.units+2→(∀b o,s.heap.get? b=some o→s'.heap.get? b=some o)→∀Qk:SortKind→Shared→Prop,
  (∀κ,(∀i j (C:Bool→Shared→Prop),i<vs.length→j<vs.length→i≠j→C (decide (r i<r j)) s'→kas_ask prog w A' κ vs i j C s')→Qk κ s')→wpAny (model prog w) A' (keyKind' vs.toArray) Qk E' s')
 (h:∀(p:Array Nat) (h':Heap) (tk:Nat) (a:Addr) (n':Nat),bC vs.length p→fc r p vs.length→(∀b o,s.heap.get? b=some o→h'.get? b=some o)→s.heap.get? a=none→
  h'.get? a=some (seqObj "list" (List.toArray (p.toList.map fun i=>vs.getD i Value.none)) n')→Q (.ref a) {s with heap:=h',toks:=tk}):
 wpAny (model prog w) A (call (.builtin "sorted") [x]) Q E s:=by
 refine Calls.call_function_entry kind_sorted plain_sorted entry_sorted (args_sorted1 _) ?_
 delta Builtin.«sorted»
 refine wpAny_bind (m:=checkCount "sorted" 1 1 _) (wpAny_pure ?_)
 refine wpAny_bind (hc _ _ _ rfl fun h1 tk k1=>?_)
 refine wpAny_bind (wpAny_newList ?_ (by refine rE sizeLine_eq ?_;lia))
 have hoL:(h1.push (seqObj "list" vs.toArray 0)).get? h1.objs.size=some (seqObj "list" vs.toArray 0):=Heap.get?_push_size _ rfl
 have GR:∀b o,s.heap.get? b=some o→b≠h1.objs.size:=fun b o e=>Nat.ne_of_lt (Heap.lt_size (k1 b o e))
 have nn:s.heap.get? h1.objs.size=none:=by
  refine oD (o:=s.heap.get? h1.objs.size) (fun q=>?_) fun o q=>?_
  ·rfl
  ·exact absurd rfl (GR _ o q)
 refine(?_:wpAny _ _ _ _ _ {s with heap:=h1.push (seqObj "list" vs.toArray 0),toks:=tk})
 refine wpAny_bind (wpAny_holding (wpAny_call_entry slot_list_sort (aP _ hoL rfl) entry_list_sort
  (vL (s:={s with heap:=h1.push (seqObj "list" vs.toArray 0),toks:=tk}) hoL h64 hr (fun h2 s' kp Qk q=>hk h2 A.in1.in1 _ s' rfl (Nat.le_refl _) (fun b o e=>kp b o (GR b o e) (Heap.get?_push_of_some _ (k1 b o e))) Qk q) fun p h' hp hi kp w0=>xE w0 fun n' hn=>⟨_,rfl,?_⟩) (args_list_sort _)))
 exact wpAny_pure ⟨_,rfl,h p h' tk _ n' hp hi (fun b o e=>kp b o (GR b o e) (Heap.get?_push_of_some _ (k1 b o e))) nn hn⟩
end
end
noncomputable def CH:D→List Nat
 | .str x=>x.cps.toList
 |_=>[]
noncomputable def lO:D→List (List Nat)
 | .tup ds=>ds.map CH
 | .str x=>[x.cps.toList]
 |_=>[]
noncomputable def j0(a b:D):Bool:=decide (lO a<lO b)
theorem se(a:List (List Nat)):¬a<a:=List.lt_irrefl a
theorem u9{a b c:List (List Nat)}(h:a<b)(k:b<c):a<c:=List.lt_trans h k
theorem yG(a b:List (List Nat)):a<b∨a=b∨b<a:=by
 by_cases h:a<b
 ·exact .inl h
 ·by_cases k:b<a
  ·exact .inr (.inr k)
  ·exact .inr (.inl (List.le_antisymm (List.not_lt.mp k) (List.not_lt.mp h)))
theorem lN(a:D):j0 a a=false:=decide_eq_false (se _)
theorem jZ{a b c:D}(h:j0 a b=true)(k:j0 b c=true):j0 a c=true:=decide_eq_true (u9 (of_decide_eq_true h) (of_decide_eq_true k))
theorem pe(a b:D):j0 a b=true∨lO a=lO b∨j0 b a=true:=by
 rcases yG (lO a) (lO b)with h|h|h
 ·exact .inl (decide_eq_true h)
 ·exact .inr (.inl h)
 ·exact .inr (.inr (decide_eq_true h))
theorem mt{α:Type}{p q:α→Bool}:∀(l:List α),(∀x,p x=true→q x=true)→l.countP p≤l.countP q
 |[],_=>Nat.le_refl _
 |x::l,h=>by
  have ih:=mt l h
  refine rE List.countP_cons (rE List.countP_cons ?_)
  by_cases hp:p x=true
  ·refine rE (if_pos hp) (rE (if_pos (h x hp)) ?_);lia
  ·refine rE (if_neg hp) ?_;lia
theorem mr{α:Type}{p q:α→Bool}{y:α}:∀(l:List α),(∀x,p x=true→q x=true)→y∈l→q y=true→p y=false→l.countP p<l.countP q
 |[],_,h,_,_=>by simp at h
 |x::l,h,hy,k1,k2=>by
  refine rE List.countP_cons (rE List.countP_cons ?_)
  rcases List.mem_cons.mp hy with rfl|hy
  ·have:=mt l h
   refine rE (if_pos k1) (rE (if_neg (by simp[k2])) ?_);lia
  ·have:=mr l h hy k1 k2
   by_cases hp:p x=true
   ·refine rE (if_pos hp) (rE (if_pos (h x hp)) ?_);lia
   ·refine rE (if_neg hp) ?_;lia
noncomputable def fj(ds:List D)(i:Nat):Nat:=ds.countP fun d=>j0 d (ds.getD i .none)
section
theorem jp(hi:i<ds.length)(hj:j<ds.length):fj ds i<fj ds j↔j0 (ds.getD i .none) (ds.getD j .none)=true:=by
 have mem:∀k,k<ds.length→ds.getD k .none∈ds:=fun k hk=>by simp[hk]
 have mono:∀{a b:Nat},a<ds.length→j0 (ds.getD a .none) (ds.getD b .none)=true→fj ds a<fj ds b:=fun{a b} ha h=>
  mr ds (fun x hx=>jZ hx h) (mem a ha) h (lN _)
 constructor
 ·intro h
  rcases pe (ds.getD i .none) (ds.getD j .none)with k|k|k
  ·exact k
  ·exfalso
   have:fj ds i=fj ds j:=by delta fj j0;exact rE k rfl
   lia
  ·have:=mono hj k;lia
 ·exact mono hi
theorem qi(hn:(ds.map lO).Nodup)(i j:Nat)(hi:i<ds.length)(hj:j<ds.length)(h:fj ds i=fj ds j):i=j:=by
 rcases pe (ds.getD i .none) (ds.getD j .none)with k|k|k
 ·have:=(jp hi hj).mpr k;lia
 ·have e:(ds.map lO)[i]'(by simpa using hi)=(ds.map lO)[j]'(by simpa using hj):=by simpa[hi,hj]using k
  exact(List.getElem_inj hn).mp e
 ·have:=(jp hj hi).mpr k;lia
theorem wo{α:Type}{l:List α}{z:α}{p:Array Nat}(hp:bC l.length p):(p.toList.map fun i=>l.getD i z).Perm l:=by
 have h1:=List.Perm.map (fun i=>l.getD i z) hp
 have e:(List.range l.length).map (fun i=>l.getD i z)=l:=by
  apply List.ext_getElem?
  intro i
  by_cases q:i<l.length
  ·simp[q]
  ·simp[q]
 rwa[e]at h1
theorem qc{p:Array Nat}(hp:bC ds.length p)(hi:fc (fj ds) p ds.length):(p.toList.map fun i=>ds.getD i .none).Pairwise fun a b=>j0 a b=true:=by
 refine rE (propext List.pairwise_iff_getElem) ?_
 intro i j h1 h2 hij
 have hs:=hp.size
 have a1:i<ds.length:=by simpa[hs]using h1
 have a2:j<ds.length:=by simpa[hs]using h2
 have:=(jp (hp.lt a1) (hp.lt a2)).mp (hi i j hij a2)
 simpa[Array.getD,hs,a1,a2]using this
end
noncomputable def pv(a:D):List D→List D
 |[]=>[a]
 |b::l=>if j0 a b=true then a::b::l else b::pv a l
noncomputable def ei:List D→List D
 |[]=>[]
 |a::l=>pv a (ei l)
theorem ke(a:D):∀l,(pv a l).Perm (a::l)
 |[]=> .refl _
 |b::l=>by
  unfold pv
  split
  ·exact .refl _
  ·exact((ke a l).cons b).trans (.swap _ _ _)
theorem cB:∀l,(ei l).Perm l
 |[]=> .refl _
 |a::l=>(ke a _).trans ((cB l).cons a)
theorem kH{a:D}:∀{l:List D},l.Pairwise (fun a b=>j0 a b=true)→(∀b∈l,lO a≠lO b)→(pv a l).Pairwise fun a b=>j0 a b=true
 |[],_,_=>by simp[pv]
 |b::l,h,hn=>by
  unfold pv
  refine xA (List.pairwise_cons.mp h) fun h1 h2=>?_
  split
  ·rename_i q
   refine List.pairwise_cons.mpr ⟨fun x hx=>?_,h⟩
   rcases List.mem_cons.mp hx with rfl|hx
   ·exact q
   ·exact jZ q (h1 x hx)
  ·rename_i q
   refine List.pairwise_cons.mpr ⟨fun x hx=>?_,kH h2 fun x hx=>hn x (.tail _ hx)⟩
   rcases List.mem_cons.mp ((ke a l).mem_iff.mp hx)with rfl|hx
   ·rcases pe x b with k|k|k
    ·exact absurd k q
    ·exact absurd k (hn b (.head _))
    ·exact k
   ·exact h1 x hx
theorem fv:∀{l:List D},(l.map lO).Nodup→(ei l).Pairwise fun a b=>j0 a b=true
 |[],_=> .nil
 |a::l,h=>by
  rw[List.map_cons,List.nodup_cons]at h
  exact kH (fv h.2) fun b hb q=>h.1 (by exact rE q (List.mem_map.mpr (aP b ((cB l).mem_iff.mp hb) rfl)))
theorem g8:∀{l m:List D},l.Pairwise (fun a b=>j0 a b=true)→m.Pairwise (fun a b=>j0 a b=true)→l.Perm m→l=m
 |[],m,_,_,p=>p.nil_eq
 |a::l,[],_,_,p=>by have:=p.length_eq;simp at this
 |a::l,b::m,h,k,p=>by
  refine xA (List.pairwise_cons.mp h) fun h1 h2=>?_
  refine xA (List.pairwise_cons.mp k) fun k1 k2=>?_
  have e:a=b:=by
   rcases List.mem_cons.mp (p.mem_iff.mp (List.mem_cons_self (a:=a) (l:=l)))with q|q
   ·exact q
   ·rcases List.mem_cons.mp (p.mem_iff.mpr (List.mem_cons_self (a:=b) (l:=m)))with q2|q2
    ·exact q2.symm
    ·have x:=jZ (h1 b q2) (k1 a q)
     rw[lN]at x;exact fT x
  subst e
  exact rE (g8 h2 k2 p.cons_inv) rfl
theorem vN(hn:(ds.map lO).Nodup)(hp:ys.Perm ds)(hs:ys.Pairwise fun a b=>j0 a b=true):ys=ei ds:=
 g8 hs (fv hn) (hp.trans (cB ds).symm)
theorem qd{l m:List D}(hn:(l.map lO).Nodup)(h:l.Perm m):ei l=ei m:=
 g8 (fv hn) (fv ((h.map lO).nodup_iff.mp hn)) ((cB l).trans (h.trans (cB m).symm))
section
noncomputable def jd(σ:af)(d:D):Option (List D):=match bg σ d with
 |some xs=>some xs
 |none=>match cw σ d with
  |some kvs=>some (kvs.map fun kv=> .str kv.1)
  |none=>(gv σ d).map fun kvs=>kvs.map fun kv=> .tup (kv.1.map .str)
section
variable{B:Around}{ξ:List (Option D)}
theorem BJ{es:List DictEntry}{xs:List (Str×Value)}(hp:Pairs cx.sk es xs)(hr:bK Z xs kvs)(hf:∀kv∈kvs,bv kv.1):aB Z (es.map (·.key)) (kvs.map fun kv=>D.str kv.1):=by
 induction es generalizing xs kvs with
 |nil=>cases hp;cases hr;exact .nil
 |cons x es ih=>
  cases hp with
  |cons p1 p2 p3=>
   cases hr with
   |cons r1 r2=>
    refine xE (Value.isStrOf_shape p1) fun t ht=>?_
    refine .cons ?_ (ih p3 r2 fun kv hm=>hf kv (.tail _ hm))
    refine(?_:aw Z x.key _)
    exact rE ht (.str _ _ (hf _ (.head _)))
theorem BI{kvs:List (List Str×D)}(hr:cJ Z xs kvs)(hk:∀x∈xs,eM Z x.1 x.2.1):aB Z ((xs.map (entryOfKey cx.tk)).map (·.key)) (kvs.map fun kv=>D.tup (kv.1.map .str)):=by
 induction xs generalizing kvs with
 |nil=>cases hr;exact .nil
 |cons x xs ih=>
  cases hr with
  |cons r1 r2=>
   refine .cons ?_ (ih r2 fun y hy=>hk y (.tail _ hy))
   refine cp (hk _ (.head _)) fun o' items m g1 g2 g3 g4=>?_
   exact .tup g1 g2 g3 g4.reps
set_option tactic.hygienic true in
theorem Au(I:dR s.heap σ Z)(hv:aw Z v d)(hd:jd σ d=some ds)(hz:ds.length≤1048576):
 ∃vs,aB Z vs ds∧∀(B:Around) (E':Value→Shared→Prop) (Qc:List Value→Shared→Prop),B.handled=none→
  (∀h' tk,(∀b o,s.heap.get? b=some o→h'.get? b=some o)→Qc vs {s with heap:=h',toks:=tk})→wpAny cx.M B (collect v) Qc E' s:=by
 delta jd at hd
 split at hd
 ·rename_i xs hx
  (replace hd:=sI hd;subst hd)
  refine fD (rd I hv hx) fun a o vs m q4 h1 h2 h3 h4 h5=>?_;subst q4
  have hl:=h5.length
  refine(aP vs.toList h5 (fun B E' Qc hB q=>qZ (fq o h1 h2 m (by simpa using h4)) (by refine rE hl (rE sizeLine_eq ?_);lia) q))
 ·split at hd
  ·rename_i kvs hx
   (replace hd:=sI hd;subst hd)
   refine fC (ub I hv hx) fun a o xs q3 h1 w5 h5 h6 h7=>?_;subst q3;obtain⟨es,ep,⟨h2,II,IH⟩,h3,h4',h4,h4''⟩:=w5
   have hr:=BJ h4 h5 h7
   have hl:=hr.length
   refine(aP _ hr (fun B E' Qc hB q=>kM (ep:=ep) hB h6 (bP o h1 (dx h2 II IH) h3) (by simp at hl hz;refine rE sizeLine_eq ?_;lia) q))
  ·refine aF (Option.map_eq_some_iff.mp hd) fun kvs hx q2=>?_;subst q2
   refine eO (mz I hv hx) fun a xs q2 w3 h5 h6 h7=>?_;subst q2;obtain⟨o,es,ep,h1,h2,h3,h4,Ja,I9⟩:=w3
   have hr:=BI h5 h6
   rw[←h4]at hr
   have hl:=hr.length
   refine(aP _ hr (fun B E' Qc hB q=>kM (ep:=ep) hB h7 (bP o h1 h2 h3) (by simp at hl hz;refine rE sizeLine_eq ?_;lia) q))
noncomputable def tH:D→Bool
 | .str _=>true
 |_=>false
noncomputable def qG(d:D):Bool:=(iU d).any fun ds=>ds.length==3&&ds.all tH
theorem pq(h:tH d=true){q:Prop}(k:∀x,d= .str x→q):q:=by
 cases d with
 |str x=>exact k x rfl
 |_=>exact fT h
theorem yL(h:qG d=true){q:Prop}(k:∀x y z,d= .tup [.str x,.str y,.str z]→q):q:=by
 delta qG at h
 refine oC (o:=iU d) (fun e=>?_) fun ds e=>?_
 ·rw[e]at h;exact fT h
 ·rw[e]at h
  have h:=Bool.and_eq_true_iff.mp h
  have hs:=List.all_eq_true.mp h.2
  cases ds with
  |nil=>exact fT h.1
  |cons a ds=>cases ds with
   |nil=>exact fT h.1
   |cons b ds=>cases ds with
    |nil=>exact fT h.1
    |cons c ds=>cases ds with
     |cons f ds=>exact absurd (eq_of_beq h.1) (Nat.succ_ne_zero ds.length∘fun q=>Nat.add_right_cancel (m:=3) q)
     |nil=>exact pq (hs a (.head _)) fun x ex=>pq (hs b (.tail _ (.head _))) fun y ey=>pq (hs c (.tail _ (.tail _ (.head _)))) fun z ez=>k x y z ((jL e).trans (by rw[ex,ey,ez]))
theorem xR:∀{vs:List Value},aB Z vs ds→ds.all tH=true→∃ss,StrsAre vs ss∧ds=ss.map .str:=by
 induction ds with
 |nil=>intro vs r _;cases r using aB.Da;exact aP [] .nil rfl
 |cons d ds ih=>intro vs r h;cases r using aB.CS with
  |cons r1 r=>
   have h:=Bool.and_eq_true_iff.mp h
   refine aF (ih r h.2) fun ss h1 h2=>pq h.1 fun x e=>?_
   subst e
   cases r1 using aw.CV with|str t hx=>exact aP (x::ss) (.cons x t h1) (rE h2 rfl)
theorem sX(h:StrsAre vs ss):∀i,i<vs.length→∃x t,vs.getD i .none= .str x t∧(ss.map D.str).getD i .none= .str x:=by
 induction h with
 |nil=>exact fun i h=>absurd h (Nat.not_lt_zero _)
 |cons x t r ih=>
  intro i h
  cases i with
  |zero=>exact fP x t rfl rfl
  |succ i=>exact ih i (Nat.lt_of_succ_lt_succ h)
theorem uq(h:StrsAre vs ss)(h2:2≤vs.length):keyKind' vs.toArray=pure oneType':=by
 cases vs with
 |nil=>exact absurd h2 (Nat.not_succ_le_zero _)
 |cons a vs=>cases vs with
  |nil=>exact absurd (Nat.le_of_succ_le_succ h2) (Nat.not_succ_le_zero _)
  |cons b vs=>exact keyKind_strs h
theorem jK{y:Str}(h:x.cps.toList=y.cps.toList):x=y:=by
 cases x;cases y;congr;exact Array.toList_inj.mp h
theorem yE(x y:Str):j0 (.str x) (.str y)=decide (x.cps.toList<y.cps.toList):=by
 delta j0
 simp only[lO]
 congr 1
 refine rE (propext List.cons_lt_cons_iff) ?_
 simp
theorem Bc(I:dR s.heap σ Z)(r:aw Z v d)(h:qG d=true){q:Prop}(k:∀a o n x t y u z w,v= .ref a→s.heap.get? a=some o→o.cls= .type "tuple"→o.data= .seq #[.str x t,.str y u,.str z w] n→d= .tup [.str x,.str y,.str z]→q):q:=
 yL h fun x y z e=>by
  subst e
  refine be (io I r rfl) fun a o vs n q4 h1 h2 h3 h4=>?_
  obtain⟨vs⟩:=vs
  cases h4 using aB.CS with
  |cons q1 h4=>cases h4 using aB.CS with
   |cons q2 h4=>cases h4 using aB.CS with
    |cons q3 h4=>cases h4 using aB.Da;cases q1 using aw.CV;cases q2 using aw.CV;cases q3 using aw.CV;exact k _ _ _ _ _ _ _ _ _ q4 h1 h2 h3 rfl
theorem vH(I:dR s.heap σ Z)(r:aB Z vs ds)(hs:ds.all qG=true)(i:Nat)(h:i<vs.length){q:Prop}(k:∀a o n x t y u z w,vs.getD i .none= .ref a→s.heap.get? a=some o→o.cls= .type "tuple"→o.data= .seq #[.str x t,.str y u,.str z w] n→ds.getD i .none= .tup [.str x,.str y,.str z]→q):q:=by
 have e:vs[i]?=some vs[i]:=List.getElem?_eq_getElem h
 refine aF (r.Fh e) fun d hd r1=>Bc I r1 (List.all_eq_true.mp hs d (List.mem_of_getElem? hd)) fun a o n x t y u z w k1 k2 k3 k4 k5=>?_
 refine k a o n x t y u z w (rE (List.getD_eq_getElem?_getD) (rE e k1)) k2 k3 k4 (rE (List.getD_eq_getElem?_getD) (rE hd k5))
theorem xL(I:dR s.heap σ Z){h:Heap}(hk:∀b o,s.heap.get? b=some o→h.get? b=some o):∀{vs:List Value},aB Z vs ds→ds.all qG=true→∃fs,KatTups h vs fs∧fs.length=vs.length∧∀f∈fs,∃x t,f= .str x t:=by
 induction ds with
 |nil=>intro vs r _;cases r using aB.Da;exact bP [] .nil rfl fun f hf=>nM hf
 |cons d ds ih=>intro vs r hs;cases r using aB.CS with
  |cons r1 r=>
   have hs:=Bool.and_eq_true_iff.mp hs
   refine Bc I r1 hs.1 fun a o n x t y u z w h1 h2 h3 h4 h5=>cz (ih r hs.2) fun fs k1 k2 k3=>?_
   subst h1
   exact bP (.str x t::fs) (.cons (hk _ _ h2) h3 h4 (by simp) k1) (congrArg (·+1) k2) fun f hf=>(List.mem_cons.mp hf).elim (fun e=>mD x t e) (k3 f)
theorem yD(x y z x' y' z':Str):j0 (.tup [.str x,.str y,.str z]) (.tup [.str x',.str y',.str z'])=
 if x=x' then(if y=y' then decide (z.cps.toList<z'.cps.toList)else decide (y.cps.toList<y'.cps.toList))else decide (x.cps.toList<x'.cps.toList):=by
 delta j0
 simp only[lO,List.map_cons,List.map_nil,CH]
 have e:∀{a b:Str},a.cps.toList=b.cps.toList↔a=b:=⟨jK,fun h=>by exact rE h rfl⟩
 have ir:∀(a:Str),¬a.cps.toList<a.cps.toList:=fun a=>List.lt_irrefl _
 by_cases h1:x=x'
 ·subst h1
  refine rE (if_pos rfl) ?_
  by_cases h2:y=y'
  ·subst h2
   refine rE (if_pos rfl) ?_
   congr 1
   refine rE (propext List.cons_lt_cons_iff) (rE (propext List.cons_lt_cons_iff) (rE (propext List.cons_lt_cons_iff) ?_))
   simp[ir]
  ·refine rE (if_neg h2) ?_
   congr 1
   refine rE (propext List.cons_lt_cons_iff) (rE (propext List.cons_lt_cons_iff) ?_)
   simp[ir,e,h2]
 ·refine rE (if_neg h1) ?_
  congr 1
  refine rE (propext List.cons_lt_cons_iff) ?_
  simp[e,h1]
theorem Cj{w:World}{y y' z':Str}{t v t' u' v':Tok}{o o':Obj}{n':Nat}{Q:Bool→Shared→Prop}(ha:s.heap.get? a=some o)(hd:o.data= .seq #[.str x t,.str y u,.str z v] n)
 (ha':s.heap.get? a'=some o') (hd':o'.data= .seq #[.str x' t',.str y' u',.str z' v'] n') (hne:¬(x=x'∧y=y'∧z=z'))
 (q:Q (j0 (.tup [.str x,.str y,.str z]) (.tup [.str x',.str y',.str z'])) s):wpAny (model prog w) B (keyLt' (tuples' b) (.ref a) (.ref a')) Q E s:=by
 have one:∀(b:Bool) (x y:Str) (t u:Tok),Q (decide (x.cps.toList<y.cps.toList)) s→wpAny (model prog w) B (oneLt' b (.str x t) (.str y u)) Q (fun zz zz=>False) s:=fun b x y t u q=>by
  cases b
  ·exact kat_one _ _ (PyProof.Rows.lt_str q)
  ·exact oneLt_str q
 have e1:∀{x y:Str},x=y→(x==y)=true:=fun h=>by simpa using h
 have e2:∀{x y:Str},x≠y→(x==y)=false:=fun h=>by simpa using h
 rw[yD]at q
 refine kat_lt ha hd ha' hd' ?_
 refine kat_cons (PyProof.Rows.eqBool_str ?_)
 by_cases h1:x=x'
 ·refine rE (e1 h1) ?_
  rw[if_pos h1]at q
  refine kat_yes (kat_cons (PyProof.Rows.eqBool_str ?_))
  by_cases h2:y=y'
  ·refine rE (e1 h2) ?_
   rw[if_pos h2]at q
   refine kat_yes (kat_cons (PyProof.Rows.eqBool_str ?_))
   refine rE (e2 fun h3=>hne (dx h1 h2 h3)) ?_
   exact kat_no (one _ _ _ _ _ q)
  ·refine rE (e2 h2) ?_
   rw[if_neg h2]at q
   exact kat_no (one _ _ _ _ _ q)
 ·refine rE (e2 h1) ?_
  rw[if_neg h1]at q
  exact kat_no (one _ _ _ _ _ q)
theorem uM{p:Array Nat}(hr:aB Z vs ds)(hp:bC vs.length p):aB Z (p.toList.map fun i=>vs.getD i .none) (p.toList.map fun i=>ds.getD i .none):=by
 have hb:∀i∈p.toList,i<vs.length:=fun i hi=>by simpa using hp.mem_iff.mp hi
 have go:∀(l:List Nat),(∀i∈l,i<vs.length)→aB Z (l.map fun i=>vs.getD i .none) (l.map fun i=>ds.getD i .none):=by
  intro l
  induction l with
  |nil=>exact fun zz=> .nil
  |cons i l ih=>
   intro h
   refine .cons ?_ (ih fun j hj=>h j (.tail _ hj))
   have hi:=h i (.head _)
   have hd:i<ds.length:=by exact rF hr.length hi
   refine aF (hr.get (k:=i) (d:=ds[i]) (by simp)) fun v e r=>?_
   have:vs.getD i .none=v:=by simp[List.getD,e]
   refine(?_:aw Z (vs.getD i .none) (ds.getD i .none))
   refine rE this ?_
   simpa[hd]using r
 exact go _ hb
theorem vX(R:jl A n)(G:GS A env sl s0 CP Z0 s σ Z ξ)(hv:aw Z v d)(hd:jd σ d=some ds)(h64:ds.length<64)(hg:(ds.all tH||ds.all qG)=true)(hn:(ds.map lO).Nodup)
 (q:co A env sl s0 CP Z0 ξ Z σ (.lst (ei ds)) Q):wpAny cx.M A (call (.builtin "sorted") [v]) Q E s:=by
 refine aF (Au G.inv hv hd (by lia)) fun vs hr hc=>?_
 have hl:=hr.length
 refine rH (r:=fj ds) (vs:=vs) (by lia) (fun i j hi hj e=>qi hn i j (by lia) (by lia) e) (fun A' E' Qc hA q=>hc A' E' Qc (hA.trans R.handled) q) (fun h2 A' E' s' hA hu hk Qk qk=>?_) (fun p h' tk a n' hp hi hk ha ho=>?_)
 ·rcases Bool.or_eq_true_iff.mp hg with hS|hT
  ·refine aF (xR hr hS) fun ss h1 h2'=>?_
   refine rE (uq h1 h2) ?_
   refine wpAny_pure (qk _ fun i j C hi hj hij c=>?_)
   refine eB (sX h1 i hi) fun x t e1 e2=>?_
   refine eB (sX h1 j hj) fun y u e3 e4=>?_
   delta kas_ask
   refine rE e1 (rE e3 ?_)
   refine kas_lt_str ?_
   have:=jp (ds:=ds) (i:=i) (j:=j) (by lia) (by lia)
   have e5:ds.getD i .none= .str x:=rE h2' e2
   have e6:ds.getD j .none= .str y:=rE h2' e4
   rw[e5,e6,yE]at this
   have e:decide (x.cps.toList<y.cps.toList)=decide (fj ds i<fj ds j):=by simp only[this];simp
   exact rE e c
  ·refine cz (xL G.inv hk hr hT) fun fs k1 k2 k3=>?_
   refine kat_kind (T:= .type "str") k1 (by lia) (fun f hf=>?_) (by decide) (qk _ fun i j C hi hj hij c=>?_)
   ·refine jm (k3 f hf) fun x t q2=>?_;subst q2
    exact Looks.of_pure rfl
   ·refine vH G.inv hr hT i hi fun a o m x t y u z v e1 e2 e3 e4 e5=>?_
    refine vH G.inv hr hT j hj fun a' o' m' x' t' y' u' z' v' e1' e2' e3' e4' e5'=>?_
    have:=jp (ds:=ds) (i:=i) (j:=j) (by lia) (by lia)
    delta kas_ask
    refine rE e1 (rE e1' ?_)
    refine Cj (hk _ _ e2) e4 (hk _ _ e2') e4' (fun w0=>dF w0 fun q1 q2 q3=>hij (qi hn i j (by lia) (by lia) ?_)) ?_
    ·subst q1;subst q2;subst q3
     delta fj;exact rE e5 (rE e5' rfl)
    ·rw[e5,e5']at this
     have e:j0 (.tup [.str x,.str y,.str z]) (.tup [.str x',.str y',.str z'])=decide (fj ds i<fj ds j):=by refine rE (propext Bool.eq_iff_iff) ?_;simp only[decide_eq_true_eq];exact this.symm
     exact rE e c
 ·have hs:=G.inv
  refine xA (G.freeze (t:=tk) hk ha ho) fun hz G'=>?_
  have hpr:=(uM hr hp).mono hz
  have e:(p.toList.map fun i=>ds.getD i .none)=ei ds:=vN hn (wo (by rwa[hl]at hp)) (qc (by rwa[hl]at hp) (by rwa[hl]at hi))
  rw[e]at hpr
  exact q _ _ _ G' hz (.lst (am.CN _ _ _) ⟨rfl,rfl⟩ rfl (by simpa using hpr))
end
end
section
def oV:WO:=fun zz ds σ Φ=>∃d xs,ds=[d]∧jd σ d=some xs∧xs.length<64∧(xs.all tH||xs.all qG)=true∧(xs.map lO).Nodup∧Φ (.lst (ei xs)) σ
theorem uS:OP c (fun vs=>call (.builtin "sorted") vs) oV:=fun ds σ Φ h F sl s Z ξ vs Q S a r κ=>by
 refine eO h fun d xs q2 h1 h2 h3 CU=>xA CU fun h4 h5=>?_;clear CU;clear h;subst q2
 cases r using aB.CS with
 |cons r1 r=>cases r using aB.Da;exact vX a.DA a.gs r1 h1 h2 h3 h4 (κ.y a h5)
instance[k:bL ns (ofString "sorted") .globalImplicit][h1:LX c ns sl args ws]:EX c ns sl (.Call (.Name (ofString "sorted") p) args [] pos) (rA "sorted" ws oV):=
 EX.builtin (id:="sorted") k h1 rfl (by decide) (by decide) uS
def zK:WO:=fun zz ds σ Φ=>∃x l a b,ds=[.str x,l]∧bg σ l=some [.str a,.str b]∧x.length+(a.length+b.length)≤1000000∧∀y:Str,y.length≤1000000→Φ (.str y) σ
theorem wS(x a b:Str):Txt.join x [a,b]=a++(x++b):=by
 refine(?_:Builtin.Str.glued x [a,b]=_)
 delta Builtin.Str.glued
 apply Str.ext'
 rw[Str.cps_append,Str.cps_append,←Array.append_assoc]
 rfl
theorem yv:OP c (fun vs=>call (.builtin "str.join") vs) zK:=fun ds σ Φ h F sl s Z ξ vs Q S a r κ=>by
 refine fu h fun x l u v q4 h1 CU=>xA CU fun h2 h3=>?_;clear CU;clear h;subst q4
 cases r using aB.CS with
 |cons r1 r=>cases r using aB.CS with
  |cons r2 r=>
   cases r using aB.Da
   cases r1 using aw.CV with
   |str _ hx=>
    refine be (dY a.gs.inv r2 h1) fun la o vs' m q4 k1 k2 k3 k4=>?_;subst q4
    obtain⟨vs'⟩:=vs'
    cases k4 using aB.CS with
    |cons q1 k4=>cases k4 using aB.CS with
     |cons q2 k4=>
      cases k4 using aB.Da
      cases q1 using aw.CV with
      |str t1 f1=>cases q2 using aw.CV with
       |str t2 f2=>
        refine join_list (ys:=[u,v]) (fq _ k1 k2 m k3) (.cons _ _ (.cons _ _ .nil)) (by simp;lia) fun t' k=>?_
        refine rE (wS _ _ _) ?_
        refine(κ _ _ _ σ Z (a.to (a.gs.toks k)) (am.le_refl _) (.str _ _ ?_) (h3 _ (by refine rE (Str.length_append _ _) (rE (Str.length_append _ _) ?_);lia)))
        exact ij f1 (ij hx f2 (by lia)) (by refine rE (Str.length_append _ _) ?_;lia)
instance[b:fR o][f:vA args k][h:EX c ns sl o w][h1:LX c ns sl args ws]:EX c ns sl (.Call (.Attribute o (ofString "join") apos) args [] pos) (zw .str apos pos k w ws zK):=
 EX.DQ b f h h1 PySem.F.plainAttrs_str PySem.F.slot_str_join PySem.F.type_str_join yv
def si(K:Frag)(C f:Addr):Prop:=
 specialIn K (.ref C) "__getattribute__" =some (some (.builtin "type.__getattribute__"))∧readsIn K C (.type "type")=true∧findCls K (.ref C) (.type "type") (ofString "__init__")=some (.val (.ref f))
def Bb(x:Str)(apos pos:Pos)(k:Nat)(ws:WL):WE:=fun c ξ σ Φ=>(k<30∧(apos.endLine==pos.line)=true)∧(x==("__debug__" :Str))=false∧∃C f,cx.mg x=some (.ref C)∧si cx.K C f∧keepIn cx.K (.ref f)=true∧
 ws c ξ σ fun ds σ1=>aL c.C c.n (.ref f) ds σ1 Φ c.X
instance[f:vA args k][m:bL ns x .globalImplicit][h1:LX c ns sl args ws]:EX c ns sl (.Call (.Attribute (.Name x p) (ofString "__init__") apos) args [] pos) (Bb x apos pos k ws):=
 EX.of rfl fun ξ σ Φ q F s Z Q S a κ=>by
  revert q;refine fun h0=>vB h0 fun w0 hd C fa hC w5 hk q=>?_;clear h0;obtain⟨k1,k2⟩:=w0;obtain⟨i1,i2,i3⟩:=w5
  refine em rfl h1 f.ok k1 k2 (jR S a.gs m.h hd hC fun pl=>method_cls a.gs.X i1 (cls_value a.gs.X i2 i3 rfl ?_))
  have a':At c F sl {s with toks:=s.toks+1} σ Z ξ:=a.to (a.gs.toks _)
  refine iI h1 hk ((h1.ok pos _ _ _ q _ _ _ _ S a' fun vs s1 ds σ1 Z1 a1 z1 r1 q1=>⟨a1.gs.X,?_⟩))
  exact mx q1 a1 r1 (κ.le z1)
noncomputable def A5:D→Bool
 | .ref _=>true
 |d=>pl 8 d
theorem xf{u:Value}(I:dR s.heap σ Z)(hu:A.units+16<cLine)(hv:aw Z v d)(hw:aw Z u d)(hd:A5 d=true):SeqAt.EqAt A s v u true:=by
 have key:pl 8 d=true→SeqAt.EqAt A s v u true:=fun hp=>by
  refine dF (cW I.zone 8 hv hp) fun w0 l1 l2=>?_;obtain⟨as,ra⟩:=w0
  refine dF (cW I.zone 8 hw hp) fun w0 m1 m2=>?_;obtain⟨bs,rb⟩:=w0
  have:=SeqAt.eqAt_reads _ _ A s v u as bs ra rb l1 m1 (by lia)
  rw[show PyData.eqv (rq d) (rq d)=true from(tW 8 d d 8 hp hp).mpr rfl]at this
  exact this
 cases d<;>first|exact key hd|skip
 cases hv using aw.C5;cases hw using aw.C5
 exact SeqAt.EqAt.same _
theorem bK.Da{motive:∀vs,bK Z vs []→Prop}(nil:motive [] .nil){vs:List (Str×Value)}(r:bK Z vs []):motive vs r:=by cases r;exact nil
theorem bK.CS{k:Str}{ds:List (Str×D)}{motive:∀vs,bK Z vs ((k,d)::ds)→Prop}(cons:∀{v vs} (h:aw Z v d) (r:bK Z vs ds),motive ((k,v)::vs) (.cons h r)){vs:List (Str×Value)}(r:bK Z vs ((k,d)::ds)):motive vs r:=by cases r with|cons h r=>exact cons h r
set_option tactic.hygienic true in
theorem yM(I:dR s.heap σ Z)(hu:A.units+16<cLine):∀{xa xb:List (Str×Value)},bK Z xa kvs→bK Z xb kvs→(∀kv∈kvs,A5 kv.2=true)→(kvs.map (·.1)).Nodup→
 ∀(pb:List (Str×Value)),(∀x∈pb,x.1∉kvs.map (·.1))→KeqHits A s (pb++xb) xa true:=by
 induction kvs with
 |nil=>intro xa xb ra rb _ _ _ _;cases ra using bK.Da;exact .nil
 |cons kd ds ih=>
  obtain⟨k,d⟩:=kd
  intro xa xb ra rb hp nd pb hne
  cases ra using bK.CS with|cons h1 r1=>?_
  cases rb using bK.CS with|cons h2 r2=>?_
  rename_i v xs u ys
  rw[List.map_cons,List.nodup_cons]at nd
  have e1:valueAt (pb++(k,u)::ys) k=some u:=by
   delta valueAt
   have:pb.find? (fun kv=>decide (kv.1=k))=none:=List.find?_eq_none.mpr fun x hx=>by
    have:=hne x hx
    simp only[List.map_cons,List.mem_cons,not_or]at this
    simp[this.1]
   refine rE (List.find?_append) (rE this ?_);simp
  have:=ih r1 r2 (fun kv h=>hp kv (.tail _ h)) nd.2 (pb++[(k,u)]) fun x hx=>by
   rcases List.mem_append.mp hx with hx|hx
   ·exact fun q=>hne x hx (.tail _ q)
   ·exact rE (List.mem_singleton.mp hx) nd.1
  rw[List.append_assoc]at this
  exact .hit (e:=true) (b:=true) e1 (xf I hu h1 h2 (hp _ (.head _))) this
def Ba(wa wb:WE):WC:=fun c ξ σ Φ=>wa c ξ σ fun d σ1=>wb c ξ σ1 fun e σ2=>∃kvs,cw σ2 d=some kvs∧cw σ2 e=some kvs∧(∀kv∈kvs,A5 kv.2=true)∧(kvs.map (·.1)).Nodup∧Φ false σ2
instance{l:Expr}[h1:EX c ns sl l wa][h2:EX c ns sl (.Call (.Name (ofString "dict") p) as [] p2) wb]:CX c ns sl (.Compare l [.NotEq] [.Call (.Name (ofString "dict") p) as [] p2] pos) (Ba wa wb):=
 ⟨fun ξ σ Φ q F s Z Q S a κ=>wpAny_isTrue_Compare1 ((h1.ok _ _ _ q _ _ _ _ S a fun v s1 d σ1 Z1 a1 z1 r1 q1=>
  (h2.ok _ _ _ q1 _ _ _ _ S a1 fun u s2 e σ2 Z2 a2 z2 r2 ⟨kvs,hd,he,hp,nd,q2⟩=>by
   refine cy (fK a2.gs (r1.mono z2) hd) fun b1 xa q2 ha ra la=>?_;subst q2
   refine cy (fK a2.gs r2 he) fun b2 xb q2 hb rb lb=>?_;subst q2
   refine keq_ne (r:=true) la lb ha hb (by have:=a.DA.units;have:=cLine_is;lia) (fun zz=>yM a2.gs.inv (by have:=a.DA.units;have:=cLine_is;refine(?_:F.A.units+_+_<_);lia) ra rb hp nd [] fun x hx=>by exact nM hx) ?_
   refine rE ra.length (rE rb.length (rE (beq_self_eq_true _) ?_))
   exact wpAny_truthy_bool (κ _ _ false σ2 Z2 a2 (am.le_trans z1 z2) rfl q2)))) (jz h2.form _)⟩
end
section
def sL(σ:af)(S:Addr→Prop)(ξ ξ2:Lo):Prop:=ξ2.length=ξ.length∧∀(i:Nat) (d':D),ξ2[i]?=some (some d')→∃d,ξ[i]?=some (some d)∧Fz σ S d d'
theorem GS.Hj(G:GS A env sl s0 CP Z0 s σ Z ξ)(hS:∀a,S a→σ a≠none)(hl:sL σ S ξ ξ2):GS A env sl s0 CP Z0 s (σ.minus S) (Z.plus s.heap S) ξ2:=by
 have G':=G.fz hS
 refine⟨G'.grow,G'.inv,⟨hl.1.trans G'.CT.len,?_,G'.CT.cell,fun i n c d h1 h2 h3=>?_,G'.CT.off⟩,G'.stk,G'.same⟩
 ·refine aF (G.CT.loc) fun m hm hv=>?_
  refine(aP m hm (fun i n d h1 h2 h3=>?_))
  refine aF (hl.2 i d h3) fun d0 h4 h5=>?_
  refine aF (hv i n d0 h1 h2 h4) fun v h6 h7=>?_
  exact(aP v h6 (h7.fz G.inv hS h5))
 ·refine aF (hl.2 i d h3) fun d0 h4 h5=>?_
  refine aF (G.CT.DP i n c d0 h1 h2 h4) fun v h6 h7=>?_
  exact(aP v h6 (h7.fz G.inv hS h5))
def zE(w ws:WS):WS:=fun c ξ σ Φ=>w c ξ σ fun fl ξ1 σ1=>match fl with
 | .next=>∃S ξ2,(∀a,S a→σ1 a≠none)∧sL σ1 S ξ1 ξ2∧ws c ξ2 (σ1.minus S) Φ
 |fl=>Φ fl ξ1 σ1
instance(priority:=high){f t:Expr}{b rest:List Stmt}{w ws:WS}[h:rx c ns sl (.For (.Tuple ts j p) (.Call f as kw p2) [.If t b [] p3] [] pos) w][h1:SX c ns sl rest ws]:
 SX c ns sl (.For (.Tuple ts j p) (.Call f as kw p2) [.If t b [] p3] [] pos::rest) (zE w ws):=
 ⟨fun ξ σ Φ q F s Z Q S a κ=>wpAny_execs_cons (h.ok _ _ _ q _ _ _ _ S a fun f s1 fl ξ1 σ1 Z1 a1 z1 r1 q1=>by
  cases r1 with
  |next=>
   revert q1;refine fun h0=>bB h0 fun T ξ2 hT hl q1=>?_;clear h0
   exact h1.ok _ _ _ q1 _ _ _ _ S (a1.to (a1.gs.Hj hT hl)) (κ.le (am.le_trans z1 (eP a1.gs.inv hT)))
  |brk=>exact κ _ _ _ _ _ _ a1 z1 .brk q1
  |cont=>exact κ _ _ _ _ _ _ a1 z1 .cont q1
  |ret r=>exact κ _ _ _ _ _ _ a1 z1 (.ret r) q1)⟩
end
structure Pg:Prop where
 ok:zj cx
 hP:cx.K=kW cx.w.params
 DW:cx.mg (ofString "ScopeError")=some (.ref 45)
 Fb:cx.mg (ofString "KINDS")=some (.ref 48)
 E9:cx.mg (ofString "Names")=some (.ref 86)
 E8:cx.mg (ofString "Scope")=some (.ref 128)
 DV:cx.mg (ofString "is_capital")=some (.ref 139)
 C3:cx.mg (ofString "short_of")=some (.ref 146)
 Di:cx.mg (ofString "module_of")=some (.ref 153)
 D9:cx.mg (ofString "Interface")=some (.ref 196)
 DC:cx.mg (ofString "named_things")=some (.ref 207)
 DS:cx.mg (ofString "told_parts")=some (.ref 212)
 Dp:cx.mg (ofString "imported_things")=some (.ref 217)
 Dv:cx.mg (ofString "exported_parts")=some (.ref 222)
 EC:cx.mg (ofString "is_said")=some (.ref 229)
 Eh:cx.mg (ofString "hand_out")=some (.ref 236)
 Du:cx.mg (ofString "made_interface")=some (.ref 243)
 EO:cx.mg (ofString "Node")=some (.ref 272)
 ER:cx.mg (ofString "Export")=some (.ref 301)
 EP:cx.mg (ofString "Import")=some (.ref 328)
 EQ:cx.mg (ofString "Fixity")=some (.ref 347)
 Ef:cx.mg (ofString "_law_seed")=some (.ref 358)
 DE:cx.mg (ofString "_law_pick")=some (.ref 365)
 Dd:cx.mg (ofString "_law_things")=some (.ref 372)
 D8:cx.mg (ofString "_law_heads")=some (.ref 373)
 Eg:cx.mg (ofString "_law_said")=some (.ref 386)
 DU:cx.mg (ofString "_law_tables")=some (.ref 391)
 DF:cx.mg (ofString "_law_list")=some (.ref 398)
 DD:cx.mg (ofString "_law_subs")=some (.ref 403)
 EB:cx.mg (ofString "_law_out")=some (.ref 408)
 EN:cx.mg (ofString "_law_in")=some (.ref 413)
 Dx:cx.mg (ofString "_law_nodes")=some (.ref 418)
 D7:cx.mg (ofString "_law_heard")=some (.ref 425)
 C7:cx.mg (ofString "_law_names_right")=some (.ref 432)
 Dn:cx.mg (ofString "len")=none
 F4:cx.mg (ofString "max")=none
 F5:cx.mg (ofString "int")=none
 Et:cx.mg (ofString "range")=none
 DT:cx.mg (ofString "list")=none
 Ei:cx.mg (ofString "dict")=none
 Do:cx.mg (ofString "sorted")=none
 De:cx.mg (ofString "isinstance")=none
 Gs:cx.mg (ofString "tuple")=none
 Ea:cx.mg (ofString "Exception")=none
theorem Pg.hK(p:Pg):∃P,cx.K=kW P:=(iE _ p.hP)
theorem bJ(p:Pg){X:af→Prop}{st:Stmt}{es:List D}{ws:List Value}{w:WS}
 (hK:∀P,(kW P).lookup fa=some (fO st nm qual dV pm cdv)) (hcd:∀P,codeIn (kW P) cdv qual=true) (hp:pH st=params) (hb:tO st=body) (hs:mi st=sc) (hn:sc.names=nms)
 (hsc:gD sc sl=true) (hnd:decide (nms.map (·.1)).Nodup=true) (hnames:names=sl.take names.length) (hlen:names.length=ds.length+es.length) (hes:∀Z,aB Z ws es)
 (hbind:∀(s:Shared) (vs:List Value),cx.K.In s.heap→vs.length=ds.length→BindsTo s (fnX nm qual params body sc [] dV .none .none pm none cdv .none) ⟨vs,[]⟩ (names.zip (vs++ws)))
 (hsx:SX ⟨C,n,X,ow⟩ nms sl body w) (hw:w ⟨C,n,X,ow⟩ (fZ (ds++es) sl.length) σ fun fl zz σ'=>Φ fl.val σ') (hlk:decide (i8∈nms)=false:=by decide):aL C (n+1) (.ref fa) ds σ Φ X:=by
 refine xE (p.hK) fun P hP=>?_
 subst hp hb hs hn
 exact yP (c:=⟨C,n,X,ow⟩) (by refine(?_:cx.K.lookup fa=_);exact rE hP (hK P)) (by refine(?_:codeIn cx.K cdv qual=true);exact rE hP (hcd P)) hsc hnd hlk hnames hlen hes hbind hsx hw
theorem Pg.keep(p:Pg){f:Value}(h:∀P,keepIn (kW P) f=true:=by exact fun zz=>rfl):keepIn cx.K f=true:=by
 refine xE (p.hK) fun P hP=>?_;exact rE hP (h P)
theorem Pg.attr(p:Pg)(h:∀P,kt (kW P) C x=true:=by exact fun zz=>rfl):kt cx.K C x=true:=by
 refine xE (p.hK) fun P hP=>?_;exact rE hP (h P)
theorem Pg.meth(p:Pg)(h:∀P,jX (kW P) C x f=true:=by exact fun zz=>rfl):jX cx.K C x f=true:=by
 refine xE (p.hK) fun P hP=>?_;exact rE hP (h P)
theorem Pg.set(p:Pg)(h:∀P,kA (kW P) C x=true:=by exact fun zz=>rfl):kA cx.K C x=true:=by
 refine xE (p.hK) fun P hP=>?_;exact rE hP (h P)
theorem Pg.make(p:Pg)(h:∀P,pc (kW P) C f=true:=by exact fun zz=>rfl):pc cx.K C f=true:=by
 refine xE (p.hK) fun P hP=>?_;exact rE hP (h P)
section
theorem wM{α:Type}{P:List α→Prop}{l:List α}(h:l.length=0)(q:P []):P l:=by
 cases l with
 |nil=>exact q
 |cons=>cases h
theorem gS{α:Type}{P:List α→Prop}{l:List α}(h:l.length=1)(q:∀a,P [a]):P l:=by
 cases l with
 |nil=>cases h
 |cons a l=>exact wM (P:=fun l=>P (a::l)) (Nat.succ.inj h) (q a)
theorem jC{α:Type}{P:List α→Prop}{l:List α}(h:l.length=2)(q:∀a b,P [a,b]):P l:=by
 cases l with
 |nil=>cases h
 |cons a l=>exact gS (P:=fun l=>P (a::l)) (Nat.succ.inj h) (q a)
theorem jB{α:Type}{P:List α→Prop}{l:List α}(h:l.length=3)(q:∀a b c,P [a,b,c]):P l:=by
 cases l with
 |nil=>cases h
 |cons a l=>exact jC (P:=fun l=>P (a::l)) (Nat.succ.inj h) (q a)
theorem jA{α:Type}{P:List α→Prop}{l:List α}(h:l.length=4)(q:∀a b c d,P [a,b,c,d]):P l:=by
 cases l with
 |nil=>cases h
 |cons a l=>exact jB (P:=fun l=>P (a::l)) (Nat.succ.inj h) (q a)
theorem zR{α:Type}{P:List α→Prop}{l:List α}(h:l.length=5)(q:∀a b c d e,P [a,b,c,d,e]):P l:=by
 cases l with
 |nil=>cases h
 |cons a l=>exact jA (P:=fun l=>P (a::l)) (Nat.succ.inj h) (q a)
theorem wL{α:Type}{P:List α→Prop}{l:List α}(h:l.length=6)(q:∀a b c d e f,P [a,b,c,d,e,f]):P l:=by
 cases l with
 |nil=>cases h
 |cons a l=>exact zR (P:=fun l=>P (a::l)) (Nat.succ.inj h) (q a)
noncomputable def lF(op:CmpOp)(e:D):Bool:=match op with
 | .NotIn=>po e
 |_=>false
theorem jx(h:lF op e=false):op= .NotIn→po e=false:=fun q=>by rw[q]at h;exact h
def Ev{β:Type}(c:Ct)(w:Ct→Lo→af→(β→af→Prop)→Prop)(ξ:Lo)(σ:af)(b:β)(σ1:af):Prop:=∀Ψ:β→af→Prop,Ψ b σ1→w c ξ σ Ψ
def Op(c:Ct)(o:WO)(ds:List D)(σ:af)(d:D)(σ1:af):Prop:=∀Ψ:D→af→Prop,Ψ d σ1→o c ds σ Ψ
def Sx(c:Ct)(w:WS)(ξ:Lo)(σ:af)(fl:Fl)(ξ1:Lo)(σ1:af):Prop:=∀Ψ:Fl→Lo→af→Prop,Ψ fl ξ1 σ1→w c ξ σ Ψ
def Tg(c:Ct)(w:WT)(d:D)(ξ:Lo)(σ:af)(ξ1:Lo)(σ1:af):Prop:=∀Ψ:Lo→af→Prop,Ψ ξ1 σ1→w c d ξ σ Ψ
section
variable{σ3:af}{f:D}{o:WO}
theorem aa(h:ξ[i]?=some (some d)):Ev c (bW i) ξ σ d σ:=fun zz q=>(aP d h q)
theorem ad:Ev c (c0 d) ξ σ d σ:=fun zz q=>q
theorem ah(h:(decide (x.length≤1048576)&&PyData.strOk x)=true:=by decide+kernel):Ev c (xI x) ξ σ (.str x) σ:=fun zz q=>⟨h,q⟩
theorem tR(h:zg x d):Ev c (zu x) ξ σ d σ:=fun zz q=>(aP d h q)
theorem bf:Ev c eS ξ σ [] σ:=fun zz q=>q
theorem ac(h1:Ev c wa ξ σ d σ1)(h2:Ev c ws ξ σ1 ds σ2):Ev c (bM wa ws) ξ σ (d::ds) σ2:=fun zz q=>h1 _ (h2 _ q)
theorem ae(h1:Ev c wa ξ σ d σ1):Ev c (bM wa eS) ξ σ [d] σ1:=fun zz q=>h1 _ q
theorem aC(h1:Ev c ws ξ σ ds σ1)(h2:Op c o ds σ1 d σ2):Ev c (rn ws o) ξ σ d σ2:=fun zz q=>h1 _ (h2 _ q)
theorem aA(h1:Ev c wa ξ σ d σ1)(h2:Ev c wb ξ σ1 e σ2)(h3:Op c o [d,e] σ2 f σ3):Ev c (w2 wa wb o) ξ σ f σ3:=fun zz q=>h1 _ (h2 _ (h3 _ q))
theorem BS(h1:Ev c wa ξ σ d σ1)(h3:Op c o [d] σ1 f σ3):Ev c (w1 wa o) ξ σ f σ3:=fun zz q=>h1 _ (h3 _ q)
theorem cr(h:Nat.ble ds.length 1000=true:=by rfl):Op c jw ds σ (.tup ds) σ:=fun zz q=>⟨Nat.le_of_ble_eq_true h,q⟩
theorem aU(h:Nat.ble ds.length 1048576=true:=by rfl)(ho:c.owns p=false:=by rfl):Op c (r6 p) ds σ (.lst ds) σ:=fun zz q=>⟨Nat.le_of_ble_eq_true h,by exact rE ho q⟩
theorem BD(ho:c.owns p=true)(hz:ds.length≤1048576)(h:∀a,σ a=none→Φ (.ref a) (σ.put a (.lst ds))):r6 p c ds σ Φ:=⟨hz,by exact rE ho h⟩
theorem rY(h1:Ev c ws ξ σ ds σ1)(ho:c.owns p=true)(hz:ds.length≤1048576)(h:∀a,σ1 a=none→Φ (.ref a) (σ1.put a (.lst ds))):rn ws (r6 p) c ξ σ Φ:=h1 _ (BD ho hz h)
theorem B8{wx:WE}(h:wa c ξ σ fun d σ1=>wx c ξ σ1 fun e σ2=>o c [d,e] σ2 Φ):w2 wa wx o c ξ σ Φ:=h
theorem Cq(ho:c.owns p=false)(h:∀t,σ t=none→Φ (.ref t) (σ.put t (.dS []))):lc p c ξ σ Φ:=by
 delta lc;exact rE ho h
theorem bz{y:Str}(h:x.length+y.length≤1048576):Op c (eT p .Add) [.str x,.str y] σ (.str (x++y)) σ:=fun zz q=>(fP _ _ rfl (.inl (aP _ (.Gk _ _ h) q)))
theorem jv{i j:Int}{b:Pos}:Op c (eT b .Add) [.int i,.int j] σ (.int (i+j)) σ:=fun zz q=>(fP _ _ rfl (.inl (aP _ (.Gl _ _) q)))
theorem oU{i j:Int}{b:Pos}:Op c (eT b .Sub) [.int i,.int j] σ (.int (i-j)) σ:=fun zz q=>(fP _ _ rfl (.inl (aP _ (.FU _ _) q)))
theorem tw{b:Pos}:Op c (eT b .Pow) [.int 10,.int 18] σ (.int (10^18)) σ:=fun zz q=>(fP _ _ rfl (.inl (aP _ .FX q)))
theorem bI{f:Value}(hd:(x==("__debug__" :Str))=false)(hf:cx.mg x=some f)(hk:keepIn cx.K f=true)(h1:Ev c ws ξ σ ds σ1)(h2:∀Φ:D→af→Prop,Φ d σ2→aL c.C c.n f ds σ1 Φ c.X):Ev c (lg x ws) ξ σ d σ2:=
 fun zz q=>(cf hd f hf hk (h1 _ (h2 _ q)))
theorem ef(hf:cx.mg x=none)(h1:Ev c ws ξ σ ds σ1)(h2:Op c o ds σ1 d σ2):Ev c (rA x ws o) ξ σ d σ2:=fun zz q=>⟨hf,h1 _ (h2 _ q)⟩
theorem ak(h1:Ev c wa ξ σ d σ1)(hi:du σ1 d=some (C,fs))(hl:look fs x=some e)(ok:kt cx.K C x=true):Ev c (zy wa x) ξ σ e σ1:=fun zz q=>h1 _ (cP C fs e hi hl ok q)
theorem dW{f:Addr}(hp:k<30∧(apos.endLine==pos.line)=true)(h1:Ev c wa ξ σ d σ1)(hi:du σ1 d=some (C,fs))(hl:look fs x=none)(ok:jX cx.K C x f=true)
 (hk:keepIn cx.K (.ref f)=true) (h2:Ev c ws ξ σ1 ds σ2) (h3:∀Φ:D→af→Prop,Φ e σ3→aL c.C c.n (.ref f) (d::ds) σ2 Φ c.X):Ev c (zr apos pos k wa x ws) ξ σ e σ3:=
 fun zz q=>⟨hp,h1 _ (cV C fs f hi hl ok hk (h2 _ (h3 _ q)))⟩
theorem dO{T:RT}(hp:k<30∧(apos.endLine==pos.line)=true)(h1:Ev c wa ξ σ d σ1)(ht:vi σ1 T d)(h2:Ev c ws ξ σ1 ds σ2)(h3:Op c o (d::ds) σ2 e σ3):Ev c (zw T apos pos k wa ws o) ξ σ e σ3:=
 fun zz q=>⟨hp,h1 _ ⟨ht,h2 _ (h3 _ q)⟩⟩
theorem a9(h1:Ev c wa ξ σ d σ1)(ht:xC σ1 d=some b):Ev c (vD wa) ξ σ b σ1:=fun zz q=>h1 _ (by exact rE ht q)
theorem al(h1:Ev c wa ξ σ d σ1)(h2:Ev c wb ξ σ1 e σ2)(hv:dq σ2 op d e=some b)(ho:lF op e=false:=by rfl):Ev c (ld wa wb op) ξ σ b σ2:=fun zz q=>h1 _ (h2 _ ⟨jx ho,by exact rE hv q⟩)
theorem ia(hv:dq σ op d e=some b)(ho:lF op e=false:=by rfl):Op c (yA op) [d,e] σ (.bool b) σ:=fun zz q=>⟨jx ho,by exact rE hv q⟩
theorem dI{w:WC}(h:Ev c w ξ σ b σ1):Ev c (A9 w) ξ σ (!b) σ1:=fun zz q=>h _ q
theorem bq{w v:WC}(h:Ev c w ξ σ true σ1)(h2:Ev c v ξ σ1 b σ2):Ev c (xJ w v) ξ σ b σ2:=fun zz q=>h _ (by exact rE (if_pos rfl) (h2 _ q))
theorem cH{w v:WC}(h:Ev c w ξ σ false σ1):Ev c (xJ w v) ξ σ false σ1:=fun zz q=>h _ (by exact rE (if_neg (by decide)) q)
theorem dJ{w v:WC}{a:Bool}(h:Ev c w ξ σ a σ)(h2:a=true→Ev c v ξ σ b σ):Ev c (xJ w v) ξ σ (a&&b) σ:=by
 cases a with
 |true=>exact bq h (h2 rfl)
 |false=>exact cH h
theorem f8{w v:WC}(h:Ev c w ξ σ false σ1)(h2:Ev c v ξ σ1 b σ2):Ev c (B2 w v) ξ σ b σ2:=fun zz q=>h _ (by exact rE (if_neg (by decide)) (h2 _ q))
theorem k8{w v:WC}(h:Ev c w ξ σ true σ1):Ev c (B2 w v) ξ σ true σ1:=fun zz q=>h _ (by exact rE (if_pos rfl) q)
theorem tP{w v:WC}{a:Bool}(h:Ev c w ξ σ a σ)(h2:a=false→Ev c v ξ σ b σ):Ev c (B2 w v) ξ σ (a||b) σ:=by
 cases a with
 |true=>exact k8 h
 |false=>exact f8 h (h2 rfl)
theorem db:Ev c zA ξ σ true σ:=fun zz q=>q
theorem mj:Ev c A8 ξ σ false σ:=fun zz q=>q
theorem cS{t:WC}(h:Ev c t ξ σ true σ1)(h2:Ev c wa ξ σ1 d σ2):Ev c (oq t wa wb) ξ σ d σ2:=fun zz q=>h _ (by exact rE (if_pos rfl) (h2 _ q))
theorem cE{t:WC}(h:Ev c t ξ σ false σ1)(h2:Ev c wb ξ σ1 d σ2):Ev c (oq t wa wb) ξ σ d σ2:=fun zz q=>h _ (by exact rE (if_neg (by decide)) (h2 _ q))
theorem ar{β:Type}{w:Ct→Lo→af→(β→af→Prop)→Prop}{a b:β}(h:Ev c w ξ σ a σ1)(e:a=b):Ev c w ξ σ b σ1:=e▸h
theorem bd{t:WT}(h:Ev c w ξ σ d σ1)(h2:Tg c t d ξ σ1 ξ2 σ2):Sx c (bj w t) ξ σ .next ξ2 σ2:=fun zz q=>h _ (h2 _ q)
theorem aX(h:Ev c w ξ σ d σ1):Sx c (bj w (c8 i)) ξ σ .next (ξ.set i (some d)) σ1:=fun zz q=>h _ q
theorem gB(h:Ev c w ξ σ d σ1):Sx c (ni w) ξ σ .next ξ σ1:=fun zz q=>h _ q
theorem aV(h:Ev c w ξ σ d σ1):Sx c (Ai w) ξ σ (.ret d) ξ σ1:=fun zz q=>h _ q
theorem sV:Sx c zF ξ σ .cont ξ σ:=fun zz q=>q
theorem aR:Sx c vS ξ σ .next ξ σ:=fun zz q=>q
theorem bh{t:WC}{a b:WS}(h:Ev c t ξ σ true σ1)(h2:Sx c a ξ σ1 fl ξ2 σ2):Sx c (xT t a b) ξ σ fl ξ2 σ2:=fun zz q=>h _ (by exact rE (if_pos rfl) (h2 _ q))
theorem aG{t:WC}{a b:WS}(h:Ev c t ξ σ false σ1)(h2:Sx c b ξ σ1 fl ξ2 σ2):Sx c (xT t a b) ξ σ fl ξ2 σ2:=fun zz q=>h _ (by exact rE (if_neg (by decide)) (h2 _ q))
theorem Ad{a b:WS}(h:Sx c a ξ σ .next ξ1 σ1)(h2:Sx c b ξ1 σ1 fl ξ2 σ2):Sx c (fF a b) ξ σ fl ξ2 σ2:=fun zz q=>h _ (h2 _ q)
theorem xQ{a b:WS}(h:Sx c a ξ σ (.ret d) ξ1 σ1):Sx c (fF a b) ξ σ (.ret d) ξ1 σ1:=fun zz q=>h _ q
theorem aQ{a:WS}(h:Sx c a ξ σ fl ξ1 σ1):Sx c (fF a vS) ξ σ fl ξ1 σ1:=fun zz q=>h _ (by cases fl<;>exact q)
theorem gI{t:WC}{a b:WS}{Φ:Fl→Lo→af→Prop}(ht:Ev c t ξ σ true σ1)(h:a c ξ σ1 Φ):xT t a b c ξ σ Φ:=ht _ (by exact rE (if_pos rfl) h)
theorem qJ{t:WC}{a b:WS}{Φ:Fl→Lo→af→Prop}(ht:Ev c t ξ σ false σ1)(h:b c ξ σ1 Φ):xT t a b c ξ σ Φ:=ht _ (by exact rE (if_neg (by decide)) h)
theorem Cn{t:WC}{a b:WS}{x:Bool}{Φ:Fl→Lo→af→Prop}(ht:Ev c t ξ σ x σ1)(h1:x=true→a c ξ σ1 Φ)(h2:x=false→b c ξ σ1 Φ):xT t a b c ξ σ Φ:=by
 cases x with
 |true=>exact gI ht (h1 rfl)
 |false=>exact qJ ht (h2 rfl)
theorem aD{w1 w2:WS}{Φ:Fl→Lo→af→Prop}(h1:Sx c w1 ξ σ .next ξ1 σ1)(h2:w2 c ξ1 σ1 Φ):fF w1 w2 c ξ σ Φ:=h1 _ h2
theorem aN{w1 w2:WS}{Φ:Fl→Lo→af→Prop}(h1:w1 c ξ σ fun fl ξ1 σ1=>match fl with| .next=>w2 c ξ1 σ1 Φ|fl=>Φ fl ξ1 σ1):fF w1 w2 c ξ σ Φ:=h1
theorem bw{w1 w2:WS}{Φ:Fl→Lo→af→Prop}(h1:Sx c w1 ξ σ (.ret d) ξ1 σ1)(h2:Φ (.ret d) ξ1 σ1):fF w1 w2 c ξ σ Φ:=h1 _ h2
theorem Bi{w1 w2:WS}{Φ:Fl→Lo→af→Prop}(h1:Sx c w1 ξ σ .cont ξ1 σ1)(h2:Φ .cont ξ1 σ1):fF w1 w2 c ξ σ Φ:=h1 _ h2
theorem lr{w1 w2:WS}{Φ:Fl→Lo→af→Prop}(h1:∀Ψ:Fl→Lo→af→Prop,w1 c ξ σ Ψ):fF w1 w2 c ξ σ Φ:=h1 _
theorem iw{pl:D}{Φ:Fl→Lo→af→Prop}(ok:rm c.C∧2≤c.n∧cx.mg x=some (.ref c.C)∧(x==("__debug__" :Str))=false)(h:Ev c ws ξ σ [m,pl] σ1)(hX:c.X σ1):vR x ws c ξ σ Φ:=⟨ok,h _ ⟨(mD m pl rfl),hX⟩⟩
theorem vP{t:WT}{w2:WS}{Φ:Fl→Lo→af→Prop}(h:w c ξ σ fun d σ1=>t c d ξ σ1 fun ξ2 σ2=>w2 c ξ2 σ2 Φ):fF (bj w t) w2 c ξ σ Φ:=h
theorem aM:Tg c (c8 i) d ξ σ (ξ.set i (some d)) σ:=fun zz q=>q
theorem un:Tg c (rC 2 (fV (c8 i) (fV (c8 j) rD))) (.tup [d,e]) ξ σ ((ξ.set i (some d)).set j (some e)) σ:=fun zz q=>(dx rfl rfl q)
theorem pX:Tg c (rC 3 (fV (c8 i) (fV (c8 j) (fV (c8 k) rD)))) (.tup [d,e,f]) ξ σ (((ξ.set i (some d)).set j (some e)).set k (some f)) σ:=fun zz q=>(dx rfl rfl q)
theorem c7(h1:Ev c wa ξ σ e σ1)(hi:uR σ1 e=some (C,da,fs))(hz:fs.length≤1000)(ok:kA cx.K C x=true):Tg c (sU wa x) d ξ σ ξ (σ1.put da (.ns (put fs x d))):=fun zz q=>h1 _ (cP C da fs hi hz ok q)
end
section
theorem c9{wi:WE}{t:WT}{b:WS}{items:List D}{Φ:Fl→Lo→af→Prop}(h1:Ev c wi ξ σ d σ1)(hd:∀a,d≠ .ref a)(hi:eL σ1 d=some items)(hz:items.length≤1048576)(h:iM (vC t b c) items ξ σ1 Φ):xU wi t b c ξ σ Φ:=
 h1 _ (cf hd items hi hz h)
theorem pG{I:List D→Lo→af→Prop}{Φ:Fl→Lo→af→Prop}{items:List D}
 (step:∀pre d post ξ σ (Ψ:Fl→Lo→af→Prop),items=pre++d::post→I pre ξ σ→(∀ξ' σ',I (pre++[d]) ξ' σ'→Ψ .next ξ' σ'∧Ψ .cont ξ' σ')→(∀r ξ' σ',Φ (.ret r) ξ' σ'→Ψ (.ret r) ξ' σ')→turn d ξ σ Ψ)
 (fin:∀ξ σ,I items ξ σ→Φ .next ξ σ):∀{post pre:List D} {ξ:Lo} {σ:af},items=pre++post→I pre ξ σ→iM turn post ξ σ Φ
 |[],pre,ξ,σ,e,h=>fin ξ σ (by exact rE e (rE (List.append_nil _) h))
 |d::post,pre,ξ,σ,e,h=>step pre d post ξ σ _ e h (fun ξ' σ' h'=>⟨pG step fin (by exact rE e (rE (List.append_assoc _ _ _) rfl)) h',pG step fin (by exact rE e (rE (List.append_assoc _ _ _) rfl)) h'⟩) fun r ξ' σ' q=>q
theorem dN(I:List D→Lo→af→Prop){Φ:Fl→Lo→af→Prop}{items:List D}
 (step:∀pre d post ξ σ (Ψ:Fl→Lo→af→Prop),items=pre++d::post→I pre ξ σ→(∀ξ' σ',I (pre++[d]) ξ' σ'→Ψ .next ξ' σ'∧Ψ .cont ξ' σ')→(∀r ξ' σ',Φ (.ret r) ξ' σ'→Ψ (.ret r) ξ' σ')→turn d ξ σ Ψ)
 (fin:∀ξ σ,I items ξ σ→Φ .next ξ σ) (h:I [] ξ σ):iM turn items ξ σ Φ:=pG step fin (pre:=[]) rfl h
theorem xG{t:WC}{b:WS}{Φ:Fl→Lo→af→Prop}(ht:Ev c t ξ σ true σ)
 (h:b c ξ σ fun fl ξ2 σ2=>(match fl with
  | .next=>gw t b n c ξ2 σ2 Φ
  | .cont=>gw t b n c ξ2 σ2 Φ
  | .brk=>Φ .next ξ2 σ2
  | .ret d=>Φ (.ret d) ξ2 σ2)):gw t b (n+1) c ξ σ Φ:=ht _ (by exact rE (if_pos rfl) h)
theorem xH{t:WC}{b:WS}{Φ:Fl→Lo→af→Prop}(ht:Ev c t ξ σ false σ)(h:Φ .next ξ σ):gw t b (n+1) c ξ σ Φ:=ht _ (by exact rE (if_neg (by decide)) h)
theorem tT(x y:Str):rt (.str x) (.str y)=decide (x=y):=by
 by_cases h:x=y
 ·subst h;refine rE (cT.mpr rfl) ?_;simp
 ·have:¬rt (.str x) (.str y)=true:=fun q=>h (D.str.inj (cT.mp q))
  simp only[Bool.not_eq_true]at this
  refine rE this ?_;simp[h]
theorem Cm{c:Prop}[Decidable c]{α:Type}{a b d:α}(h:c)(e:a=d):(if c then a else b)=d:=by exact rE (if_pos h) (rE e rfl)
theorem aW(σ:af)(x y:Str):dq σ .Eq (.str x) (.str y)=some (decide (x=y)):=
 Cm (b:=none) (c:=(pl 8 (.str x)&&pl 8 (.str y))=true) rfl (congrArg some (tT x y))
theorem pO(σ:af)(x y:Str):dq σ .NotEq (.str x) (.str y)=some (!decide (x=y)):=
 Cm (b:=none) (c:=(pl 8 (.str x)&&pl 8 (.str y))=true) rfl (congrArg (fun b=>some (!b)) (tT x y))
theorem kh(h:d≠e):rt d e=false:=by
 refine bE (b:=rt d e) (fun q=>?_) fun q=>?_
 ·rfl
 ·exact absurd (cT.mp q) h
theorem nU(h:(pl 8 d&&pl 8 e)=true):dq σ .Eq d e=some (rt d e):=if_pos h
theorem tX(h:(pl 8 d&&pl 8 e)=true):dq σ .NotEq d e=some (!rt d e):=if_pos h
theorem tU(x y:Int):rt (.int x) (.int y)=decide (x=y):=by
 by_cases h:x=y
 ·subst h;refine rE (cT.mpr rfl) ?_;simp
 ·have:¬rt (.int x) (.int y)=true:=fun q=>h (D.int.inj (cT.mp q))
  simp only[Bool.not_eq_true]at this
  refine rE this ?_;simp[h]
theorem ko(σ:af)(x y:Int):dq σ .Eq (.int x) (.int y)=some (decide (x=y)):=
 Cm (b:=none) (c:=(pl 8 (.int x)&&pl 8 (.int y))=true) rfl (congrArg some (tU x y))
end
end
section
variable{X:af→Prop}
noncomputable def tJ(x:Str):Bool:=iP (ofString "A") x&&iP x (ofString "Z")
theorem oQ(p:Pg)(h:Φ (.bool (tJ x)) σ):aL C (n+1) (.ref 139) [.str x] σ Φ X:=by
 refine' bJ p (C:=C) (n:=n) (ow:=[]) (es:=[]) (ws:=[]) (sl:=[ofString "sign"]) (names:=[ofString "sign"]) (fun zz=>rfl) (fun zz=>rfl) ?hp ?hb ?hs rfl ?hsc ?hnd rfl rfl (fun zz=> .nil) ?hbind (w:=?w) ?hsx ?hw (hlk:=?hlk)
 case hp=>(conv=>lhs;whnf)
 case hb=>(conv=>lhs;whnf)
 case hs=>(conv=>lhs;whnf)
 case hsc=>rfl
 case hnd=>decide
 case hlk=>decide
 case hbind=>exact fun s vs X hl=>gS (P:=fun vs=>BindsTo s _ ⟨vs,[]⟩ (List.zip _ (vs++_))) hl fun a0=>(BindsTo.of_eq rfl)
 case hsx=>infer_instance
 refine'(?_:_)
 refine(gp (by decide+kernel) (.str x) rfl ?_)
 refine(?_:if iP (ofString "A") x=true then _ else _)
 delta tJ at h
 refine bD (b:=iP (ofString "A") x) (fun q=>?_) fun q=>?_
 ·rw[q]at h;exact⟨by decide+kernel,h⟩
 ·rw[q]at h;exact h
noncomputable def bN:Nat→Str→Option Str
 |0,_=>none
 |k+1,r=>if tJ (Txt.slice r none (some 1))=true then
   (if Txt.find r (ofString ".")<0∨Txt.find r (ofString ".")+1=r.length then some r else bN k (Txt.slice r (some (Txt.find r (ofString ".")+1)) none))else some r
theorem fG(p:Pg){y:Str}(hk:bN k x=some y)(h:Φ (.str y) σ):aL C (n+2) (.ref 146) [.str x] σ Φ X:=by
 refine' bJ p (C:=C) (n:=(n+1)) (ow:=[]) (es:=[]) (ws:=[]) (sl:=[ofString "said",ofString "rest",ofString "at"]) (names:=[ofString "said"]) (fun zz=>rfl) (fun zz=>rfl) ?hp ?hb ?hs rfl ?hsc ?hnd rfl rfl (fun zz=> .nil) ?hbind (w:=?w) ?hsx ?hw (hlk:=?hlk)
 case hp=>(conv=>lhs;whnf)
 case hb=>(conv=>lhs;whnf)
 case hs=>(conv=>lhs;whnf)
 case hsc=>rfl
 case hnd=>decide
 case hlk=>decide
 case hbind=>exact fun s vs X hl=>gS (P:=fun vs=>BindsTo s _ ⟨vs,[]⟩ (List.zip _ (vs++_))) hl fun a0=>(BindsTo.of_eq rfl)
 case hsx=>infer_instance
 refine'(?_:_)
 refine(aP (.str x) rfl (iE k ?_))
 refine(?_:∀d0 o:Option D,gw _ _ k _ [d0,some (.str x),o] σ _) (some (.str x)) none
 intro d0 o
 induction k generalizing x o with
 |zero=>exact nS hk
 |succ k ih=>
  refine(?_:∀b,tJ (Txt.slice x none (some 1))=b→_) _ rfl
  intro b q
  unfold bN at hk
  rw[q]at hk
  have ht:Ev _ _ [d0,some (.str x),o] σ b σ:=a9 (bI (c:=⟨C,n+1,X,[]⟩) (by decide+kernel) p.DV p.keep (ae (aA (o:=zJ) (aa (i:=1) rfl) (ad (d:= .int 1)) fun zz q=>q)) fun zz h=>oQ p (by exact rE q h)) rfl
  cases b with
  |false=>
   (replace hk:=sI hk;subst hk)
   exact xH ht (aP _ rfl h)
  |true=>
   rw[if_pos rfl]at hk
   refine xG ht (aD (aX (dO (by decide) (aa rfl) (iE x rfl) (ae ah) fun zz q=>q)) ?_)
   by_cases q2:Txt.find x (ofString ".")<0∨Txt.find x (ofString ".")+1=x.length
   ·rw[if_pos q2]at hk
    (replace hk:=sI hk;subst hk)
    exact bw (bh (ar (tP (al (aa rfl) ad rfl) fun zz=>tP (al (aA (aa rfl) ad jv) (ef p.Dn (ae (aa rfl)) fun zz q=>q) (ko _ _ _)) fun zz=>mj) (by simpa using q2)) (aQ (aV (aa rfl)))) h
   ·rw[if_neg q2]at hk
    exact aD (aG (ar (tP (al (aa rfl) ad rfl) fun zz=>tP (al (aA (aa rfl) ad jv) (ef p.Dn (ae (aa rfl)) fun zz q=>q) (ko _ _ _)) fun zz=>mj) (by simpa using q2)) aR)
     (aD (aX (aA (aa rfl) (aA (aa rfl) ad jv) fun zz q=>q)) (ih hk _))
end
section
section
variable{b:Addr}{x y:AO}
theorem af.CR(σ:af)(a:Addr)(x y:AO):(σ.put a x).put a y=σ.put a y:=by
 funext c;delta af.put;split<;>rfl
theorem af.Dg(σ:af){b:Addr}(x y:AO)(h:a≠b):(σ.put a x).put b y=(σ.put b y).put a x:=by
 funext c;delta af.put
 by_cases h1:c=a
 ·subst h1;exact rE (if_neg h) (rE (if_pos rfl) (rE (if_pos rfl) rfl))
 ·exact rE (if_neg h1) (rE (if_neg h1) rfl)
theorem af.CZ{b:Addr}{x:AO}(h:σ.put a x b=none):b≠a∧σ b=none:=by
 delta af.put at h
 by_cases q:b=a
 ·rw[if_pos q]at h;exact sN h
 ·rw[if_neg q]at h;exact⟨q,h⟩
theorem cN(h1:σ a=some (.ins C da))(h2:σ da=some (.ns fs)):uR σ (.ref a)=some (C,da,fs):=by
 delta uR;simp only[h1,h2]
theorem e9(h1:σ a=some (.ins C da))(h2:σ da=some (.ns fs)):du σ (.ref a)=some (C,fs):=by
 delta du;simp only[h1,h2]
theorem fB(h1:σ a=some (.dS kvs)):cw σ (.ref a)=some kvs:=by
 delta cw;simp only[h1]
theorem oR(h1:σ a=some (.dS kvs)):uQ σ (.ref a)=some (a,kvs):=by
 delta uQ;simp only[h1]
theorem iy(h1:σ a=some (.lst ds)):kO σ (.ref a)=some (a,ds):=by
 delta kO;simp only[h1]
theorem dD(h1:σ a=some (.lst ds)):bg σ (.ref a)=some ds:=by
 delta bg;simp only[h1]
set_option tactic.hygienic true in
theorem vv{r:Addr×List (Str×D)}(h:du σ d=some r)(ha:σ a=none):du (σ.put a x) d=some r:=by
 cases d<;>first|exact h|skip
 rename_i b
 delta du at h⊢
 dsimp only at h⊢
 have hb:b≠a:=fun q=>by rw[q,ha]at h;exact nS h
 refine rE (af.CO _ _ hb) ?_
 refine oD (o:=σ b) (fun e=>?_) fun ao e=>?_
 ·rw[e]at h;exact nS h
 ·skip
  rw[e]at h
  cases ao<;>first|(exact nS h;done)|skip
  rename_i C da
  dsimp only at h⊢
  have hc:da≠a:=fun q=>by rw[q,ha]at h;exact nS h
  exact rE (af.CO _ _ hc) h
set_option tactic.hygienic true in
theorem rg{r:List (Str×D)}(h:cw σ d=some r)(ha:σ a=none):cw (σ.put a x) d=some r:=by
 cases d<;>first|exact h|skip
 rename_i b
 delta cw at h⊢
 dsimp only at h⊢
 have hb:b≠a:=fun q=>by rw[q,ha]at h;exact nS h
 exact rE (af.CO _ _ hb) h
theorem au(h1:σ a=some x)(h2:σ b=none):a≠b:=fun q=>by rw[q,h2]at h1;exact nS h1
end
theorem iG{x:Str}{b:Pos}{w2:WS}{Φ:Fl→Lo→af→Prop}(hb:c.owns b=false)(hi:ξ[i]?=some (some (.ref a)))(ha:σ a=some (.ins C da))(hd:σ da=some (.ns fs))(had:a≠da)
 (hz:fs.length≤1000) (ok:kA cx.K C x=true) (h:∀t,σ t=none→w2 c ξ ((σ.put da (.ns (put fs x (.ref t)))).put t (.dS [])) Φ):fF (bj (lc b) (sU (bW i) x)) w2 c ξ σ Φ:=by
 refine vP (Cq hb fun t ht=>?_)
 have e1:(σ.put t (.dS [])) a=some (.ins C da):=(af.CO _ _ (au ha ht)).trans ha
 have e2:(σ.put t (.dS [])) da=some (.ns fs):=(af.CO _ _ (au hd ht)).trans hd
 refine(aP _ hi (cP C da fs (cN e1 e2) hz ok ?_))
 refine(?_:w2 c ξ ((σ.put t (.dS [])).put da _) Φ)
 refine rE (af.Dg _ _ _ (au hd ht).symm) ?_
 exact h t ht
theorem eI{x:Str}{b:Pos}{w2:WS}{Φ:Fl→Lo→af→Prop}(hb:c.owns b=false)(hi:ξ[i]?=some (some (.ref a)))(ha:σ a=some (.ins C da))(hd:σ da=some (.ns fs))(had:a≠da)
 (hz:fs.length≤1000) (ok:kA cx.K C x=true) (h:∀t σ',σ t=none→σ' a=some (.ins C da)→σ' da=some (.ns (put fs x (.ref t)))→σ' t=some (.dS [])→(∀b,b≠da→b≠t→σ' b=σ b)→w2 c ξ σ' Φ):fF (bj (lc b) (sU (bW i) x)) w2 c ξ σ Φ:=
 iG hb hi ha hd had hz ok fun t ht=>h t _ ht ((af.CO _ _ (au ha ht)).trans ((af.CO _ _ had).trans ha)) ((af.CO _ _ (au hd ht)).trans (af.CN _ _ _)) (af.CN _ _ _) fun b h1 h2=>(af.CO _ _ h2).trans (af.CO _ _ h1)
variable{X:af→Prop}
theorem oN(p:Pg){k:D}(ha:σ a=some (.ins 86 da))(hd:σ da=some (.ns []))(had:a≠da)
 (h:∀t,σ t=none→Φ .none ((σ.put da (.ns [(ofString "kind",k),(ofString "table",.ref t)])).put t (.dS []))):aL C (n+1) (.ref 62) [.ref a,k] σ Φ X:=by
 refine' bJ p (C:=C) (n:=n) (ow:=[]) (es:=[]) (ws:=[]) (sl:=[ofString "self",ofString "kind"]) (names:=[ofString "self",ofString "kind"]) (fun zz=>rfl) (fun zz=>rfl) ?hp ?hb ?hs rfl ?hsc ?hnd rfl rfl (fun zz=> .nil) ?hbind (w:=?w) ?hsx ?hw (hlk:=?hlk)
 case hp=>(conv=>lhs;whnf)
 case hb=>(conv=>lhs;whnf)
 case hs=>(conv=>lhs;whnf)
 case hsc=>rfl
 case hnd=>decide
 case hlk=>decide
 case hbind=>exact fun s vs X hl=>jC (P:=fun vs=>BindsTo s _ ⟨vs,[]⟩ (List.zip _ (vs++_))) hl fun a0 a1=>(BindsTo.of_eq rfl)
 case hsx=>infer_instance
 refine'(?_:_)
 refine aD (bd (aa rfl) (c7 (aa rfl) (cN ha hd) (Nat.le_of_ble_eq_true rfl) p.set)) ?_
 refine iG rfl rfl ((af.CO _ _ had).trans ha) (af.CN _ _ _) had (Nat.le_of_ble_eq_true rfl) p.set fun t ht=>?_
 refine rE (af.CR _ _ _ _) ?_
 exact h t (af.CZ ht).2
theorem yo(p:Pg){k:D}
 (h:∀a da t,a≠da→t≠a→t≠da→σ a=none→σ da=none→σ t=none→Φ (.ref a) (((σ.put da (.ns [(ofString "kind",k),(ofString "table",.ref t)])).put a (.ins 86 da)).put t (.dS []))):aL C (n+2) (.ref 86) [k] σ Φ X:=
 gq p.make fun a da had ha hd=>oN p (af.CN _ _ _) ((af.CO _ _ had.symm).trans (af.CN _ _ _)) had fun t ht=>by
  refine xA (af.CZ ht) fun h1 ht=>?_
  refine xA (af.CZ ht) fun h2 ht=>?_
  refine⟨rfl,?_⟩
  refine rE (af.Dg _ _ _ had) (rE (af.CR _ _ _ _) ?_)
  exact h a da t had h1 h2 ha hd ht
theorem kD(p:Pg){pl:D}(ha:σ a=some (.ins 301 da)∨σ a=some (.ins 328 da))(hd:σ da=some (.ns []))
 (h:Φ .none (σ.put da (.ns [(ofString "place",pl)]))):aL C (n+1) (.ref 262) [.ref a,pl] σ Φ X:=by
 refine' bJ p (C:=C) (n:=n) (ow:=[]) (es:=[]) (ws:=[]) (sl:=[ofString "self",ofString "place"]) (names:=[ofString "self",ofString "place"]) (fun zz=>rfl) (fun zz=>rfl) ?hp ?hb ?hs rfl ?hsc ?hnd rfl rfl (fun zz=> .nil) ?hbind (w:=?w) ?hsx ?hw (hlk:=?hlk)
 case hp=>(conv=>lhs;whnf)
 case hb=>(conv=>lhs;whnf)
 case hs=>(conv=>lhs;whnf)
 case hsc=>rfl
 case hnd=>decide
 case hlk=>decide
 case hbind=>exact fun s vs X hl=>jC (P:=fun vs=>BindsTo s _ ⟨vs,[]⟩ (List.zip _ (vs++_))) hl fun a0 a1=>(BindsTo.of_eq rfl)
 case hsx=>infer_instance
 refine'(?_:_)
 rcases ha with ha|ha
 ·exact aD (bd (aa rfl) (c7 (aa rfl) (cN ha hd) (Nat.le_of_ble_eq_true rfl) p.set)) h
 ·exact aD (bd (aa rfl) (c7 (aa rfl) (cN ha hd) (Nat.le_of_ble_eq_true rfl) p.set)) h
theorem mJ(p:Pg){u v:D}(ha:σ a=some (.ins 347 da))(hd:σ da=some (.ns []))(had:a≠da)
 (h:Φ .none (σ.put da (.ns [(ofString "way",u),(ofString "level",v)]))):aL C (n+1) (.ref 344) [.ref a,u,v] σ Φ X:=by
 refine' bJ p (C:=C) (n:=n) (ow:=[]) (es:=[]) (ws:=[]) (sl:=[ofString "self",ofString "way",ofString "level"]) (names:=[ofString "self",ofString "way",ofString "level"]) (fun zz=>rfl) (fun zz=>rfl) ?hp ?hb ?hs rfl ?hsc ?hnd rfl rfl (fun zz=> .nil) ?hbind (w:=?w) ?hsx ?hw (hlk:=?hlk)
 case hp=>(conv=>lhs;whnf)
 case hb=>(conv=>lhs;whnf)
 case hs=>(conv=>lhs;whnf)
 case hsc=>rfl
 case hnd=>decide
 case hlk=>decide
 case hbind=>exact fun s vs X hl=>jB (P:=fun vs=>BindsTo s _ ⟨vs,[]⟩ (List.zip _ (vs++_))) hl fun a0 a1 a2=>(BindsTo.of_eq rfl)
 case hsx=>infer_instance
 refine'(?_:_)
 refine aD (bd (aa rfl) (c7 (aa rfl) (cN ha hd) (Nat.le_of_ble_eq_true rfl) p.set)) ?_
 refine aD (bd (aa rfl) (c7 (aa rfl) (cN ((af.CO _ _ had).trans ha) (af.CN _ _ _)) (Nat.le_of_ble_eq_true rfl) p.set)) ?_
 exact rE (af.CR _ _ _ _) h
theorem ww(p:Pg){u v:D}
 (h:∀a da,a≠da→σ a=none→σ da=none→Φ (.ref a) ((σ.put da (.ns [(ofString "way",u),(ofString "level",v)])).put a (.ins 347 da))):aL C (n+2) (.ref 347) [u,v] σ Φ X:=
 gq p.make fun a da had ha hd=>mJ p (af.CN _ _ _) ((af.CO _ _ had.symm).trans (af.CN _ _ _)) had (by
  refine⟨rfl,?_⟩
  refine rE (af.Dg _ _ _ had) (rE (af.CR _ _ _ _) ?_)
  exact h a da had ha hd)
section
variable{t b:Addr}{x y z:AO}{l:List Addr}
theorem ca(n:σ t=none)(o:∀b,b≠da→b≠t→σ' b=σ b)(hb:b≠da)(e:σ b=some x):σ' b=some x:=(o b hb (au e n)).trans e
theorem gk(n:σ t=none)(d:σ' da=some y)(o:∀b,b≠da→b≠t→σ' b=σ b)(e:σ' b=none):σ b=none:=by
 by_cases h1:b=t
 ·exact rE h1 n
 ·exact(o b (au d e).symm h1).symm.trans e
def Al(σ:af)(l:List Addr):Prop:=l.Nodup∧∀b∈l,σ b≠none
theorem iJ(h:Al σ l)(n:σ t=none)(d:σ' da=some y)(t':σ' t=some z)(o:∀b,b≠da→b≠t→σ' b=σ b):Al σ' (t::l):=by
 refine⟨List.nodup_cons.mpr ⟨fun q=>h.2 t q n,h.1⟩,fun b hb=>?_⟩
 rcases List.mem_cons.mp hb with rfl|hb
 ·exact rE t' (fun q=>by exact sN q)
 ·exact fun q=>h.2 b hb (gk n d o q)
end
set_option genInjectivity false in
structure mE where
 a:Addr
 da:Addr
 tb:Fin 4→Addr
 f:Addr
 p:Addr
instance:Nonempty mE:=⟨⟨0,0,fun zz=>0,0,0⟩⟩
noncomputable abbrev mE.all(A:mE):List Addr:=[A.a,A.da,A.tb 0,A.tb 1,A.tb 2,A.tb 3,A.f,A.p]
noncomputable abbrev fh(l:List (Str×Str)):List (Str×D):=l.map fun x=>(x.1,D.str x.2)
noncomputable abbrev AR(m:D)(t:Fin 4→D)(tf tp:D):List (Str×D):=[(ofString "module",m),(ofString "values",t 0),(ofString "constructors",t 1),(ofString "types",t 2),(ofString "classes",t 3),(ofString "fixities",tf),(ofString "parts",tp)]
structure cK(σ:af)(A:mE)(m:D)(T:Fin 4→List (Str×Str))(fx ps:List (Str×D)):Prop where
 nd:A.all.Nodup
 a:σ A.a=some (.ins 196 A.da)
 da:σ A.da=some (.ns (AR m (fun i=> .ref (A.tb i)) (.ref A.f) (.ref A.p)))
 tab:∀i,σ (A.tb i)=some (.dS (fh (T i)))
 f:σ A.f=some (.dS fx)
 p:σ A.p=some (.dS ps)
noncomputable def yQ{α:Type}(a b c d:α):Fin 4→α
 |0=>a
 |1=>b
 |2=>c
 |3=>d
theorem cg{P:Fin 4→Prop}(a:P 0)(b:P 1)(c:P 2)(d:P 3):∀i,P i
 |0=>a
 |1=>b
 |2=>c
 |3=>d
theorem uP(p:Pg)(ha:σ a=some (.ins 196 da))(hd:σ da=some (.ns []))(had:a≠da)
 (h:∀A σ',A.a=a→A.da=da→cK σ' A m (fun zz=>[]) [] []→(∀b,b∉A.all→σ' b=σ b)→(∀b∈A.all,b=a∨b=da∨σ b=none)→Φ .none σ'):aL C (n+1) (.ref 167) [.ref a,m] σ Φ X:=by
 revert p ha hd had h;revert n;revert C X σ a da m Φ;apply z7
 generalize (e7 _ _).1.1.1=m,(e7 _ _).1.1.2=a,(e7 _ _).1.2.1=C,(e7 _ _).1.2.2=da,(e7 _ _).2.1.1=σ,(e7 _ _).2.1.2=Φ,(e7 _ _).2.2=X;intro n p ha hd had h
 refine' bJ p (C:=C) (n:=n) (ow:=[]) (es:=[]) (ws:=[]) (sl:=[ofString "self",ofString "module"]) (names:=[ofString "self",ofString "module"]) (fun zz=>rfl) (fun zz=>rfl) ?hp ?hb ?hs rfl ?hsc ?hnd rfl rfl (fun zz=> .nil) ?hbind (w:=?w) ?hsx ?hw (hlk:=?hlk)
 case hp=>(conv=>lhs;whnf)
 case hb=>(conv=>lhs;whnf)
 case hs=>(conv=>lhs;whnf)
 case hsc=>rfl
 case hnd=>decide
 case hlk=>decide
 case hbind=>exact fun s vs X hl=>jC (P:=fun vs=>BindsTo s _ ⟨vs,[]⟩ (List.zip _ (vs++_))) hl fun a0 a1=>(BindsTo.of_eq rfl)
 case hsx=>infer_instance
 refine'(?_:_)
 refine aD (bd (aa rfl) (c7 (aa rfl) (cN ha hd) (Nat.le_of_ble_eq_true rfl) p.set)) ?_
 have a0:=(af.CO (b:=a) σ (.ns (put [] (ofString "module") m)) had).trans ha
 have d0:=af.CN σ da (.ns (put [] (ofString "module") m))
 have o0:∀b,b≠da→σ.put da (.ns (put [] (ofString "module") m)) b=σ b:=fun b hb=>af.CO _ _ hb
 revert a0 d0 o0
 generalize σ.put da (.ns (put [] (ofString "module") m))=CP
 intro a0 d0 o0
 refine eI rfl rfl a0 d0 had (Nat.le_of_ble_eq_true rfl) p.set fun t1 σ1 n1 a1 d1 t11 o1=>?_
 refine eI rfl rfl a1 d1 had (Nat.le_of_ble_eq_true rfl) p.set fun t2 σ2 n2 a2 d2 Hw o2=>?_
 refine eI rfl rfl a2 d2 had (Nat.le_of_ble_eq_true rfl) p.set fun t3 σ3 n3 a3 d3 Hv o3=>?_
 refine eI rfl rfl a3 d3 had (Nat.le_of_ble_eq_true rfl) p.set fun t4 Dt n4 a4 d4 Hu o4=>?_
 refine eI rfl rfl a4 d4 had (Nat.le_of_ble_eq_true rfl) p.set fun t5 Dm n5 a5 d5 Ht o5=>?_
 refine eI rfl rfl a5 d5 had (Nat.le_of_ble_eq_true rfl) p.set fun t6 Go n6 a6 d6 Hs o6=>?_
 have l0:Al CP [da,a]:=⟨by simp[had.symm],fun b hb=>by
  rcases List.mem_cons.mp hb with rfl|hb
  ·exact rE d0 (fun q=>by exact sN q)
  ·exact rE (List.mem_singleton.mp hb) (rE a0 (fun q=>by exact sN q))⟩
 have l6:=iJ (iJ (iJ (iJ (iJ (iJ l0 n1 d1 t11 o1) n2 d2 Hw o2) n3 d3 Hv o3) n4 d4 Hu o4) n5 d5 Ht o5) n6 d6 Hs o6
 have e1:=(au d0 n1).symm
 have e2:=(au d1 n2).symm
 have e3:=(au d2 n3).symm
 have e4:=(au d3 n4).symm
 have e5:=(au d4 n5).symm
 have k12:=ca n2 o2 e1 t11
 have k13:=ca n3 o3 e1 k12
 have k14:=ca n4 o4 e1 k13
 have Il:=ca n5 o5 e1 k14
 have Ik:=ca n3 o3 e2 Hw
 have Ij:=ca n4 o4 e2 Ik
 have Ii:=ca n5 o5 e2 Ij
 have Ih:=ca n4 o4 e3 Hv
 have Ig:=ca n5 o5 e3 Ih
 have Ie:=ca n5 o5 e4 Hu
 have z1:σ t1=none:=(o0 _ e1).symm.trans n1
 have z0:∀{b},b≠da→CP b=none→σ b=none:=fun h e=>(o0 _ h).symm.trans e
 refine h ⟨a,da,yQ t1 t2 t3 t4,t5,t6⟩ Go rfl rfl ⟨?_,a6,d6,cg (ca n6 o6 e1 Il) (ca n6 o6 e2 Ii) (ca n6 o6 e3 Ig) (ca n6 o6 e4 Ie),ca n6 o6 e5 Ht,Hs⟩ (fun b hb=>?_) fun b hb=>?_
 ·exact(List.reverse_perm _).nodup_iff.mpr l6.1
 ·simp only[mE.all,yQ,List.mem_cons,List.not_mem_nil,not_or,or_false]at hb
  refine iu hb fun h0 h1 h2 h3 h4 h5 CU=>xA CU fun h6 h7=>?_;clear CU;clear hb
  exact(o6 b h1 h7).trans ((o5 b h1 h6).trans ((o4 b h1 h5).trans ((o3 b h1 h4).trans ((o2 b h1 h3).trans ((o1 b h1 h2).trans (o0 b h1))))))
 ·have b1:∀{b},σ1 b=none→CP b=none:=fun e=>gk n1 d1 o1 e
  have b2:∀{b},σ2 b=none→CP b=none:=fun e=>b1 (gk n2 d2 o2 e)
  have b3:∀{b},σ3 b=none→CP b=none:=fun e=>b2 (gk n3 d3 o3 e)
  have b4:∀{b},Dt b=none→CP b=none:=fun e=>b3 (gk n4 d4 o4 e)
  have b5:∀{b},Dm b=none→CP b=none:=fun e=>b4 (gk n5 d5 o5 e)
  simp only[mE.all,yQ,List.mem_cons,List.not_mem_nil,or_false]at hb
  rcases hb with rfl|rfl|rfl|rfl|rfl|rfl|rfl|rfl
  ·exact .inl rfl
  ·exact .inr (.inl rfl)
  ·exact .inr (.inr z1)
  ·exact .inr (.inr (z0 e2 (b1 n2)))
  ·exact .inr (.inr (z0 e3 (b2 n3)))
  ·exact .inr (.inr (z0 e4 (b3 n4)))
  ·exact .inr (.inr (z0 e5 (b4 n5)))
  ·exact .inr (.inr (z0 (au d5 n6).symm (b5 n6)))
theorem qy(p:Pg)
 (h:∀A σ',cK σ' A m (fun zz=>[]) [] []→(∀b,b∉A.all→σ' b=σ b)→(∀b∈A.all,σ b=none)→Φ (.ref A.a) σ'):aL C (n+2) (.ref 196) [m] σ Φ X:=
 gq p.make fun a da had ha hd=>uP p (af.CN _ _ _) ((af.CO _ _ had.symm).trans (af.CN _ _ _)) had fun A σ' e1 e2 hI ho hf=>by
  subst e1 e2
  refine⟨rfl,h A σ' hI (fun b hb=>?_) fun b hb=>?_⟩
  ·exact rE (ho b hb) (rE (af.CO _ _ fun q=>hb (by exact rE q (.head _))) (rE (af.CO _ _ fun q=>hb (by exact rE q (.tail _ (.head _)))) rfl))
  ·rcases hf b hb with rfl|rfl|q
   ·exact ha
   ·exact hd
   ·exact(af.CZ (af.CZ q).2).2
end
section
noncomputable def bR(l:List (Str×Str))(k:Str):Option Str:=(l.find? fun x=>decide (x.1=k)).map (·.2)
noncomputable def jS(l:List (Str×Str))(k v:Str):List (Str×Str):=if l.any (fun x=>decide (x.1=k))then l.map (fun x=>if x.1=k then(x.1,v)else x)else l++[(k,v)]
theorem bV(l:List (Str×Str))(k:Str):look (fh l) k=(bR l k).map .str:=by
 induction l with
 |nil=>rfl
 |cons x l ih=>
  delta look bR at*
  refine(?_:Option.map _ (List.find? _ ((x.1,D.str x.2)::fh l))=_)
  refine rE (List.find?_cons) (rE (List.find?_cons) ?_)
  by_cases h:x.1=k
  ·simp[h]
  ·simp only[h,decide_false];exact ih
theorem uJ(l:List (Str×Str))(k v:Str):put (fh l) k (.str v)=fh (jS l k v):=by
 delta put jS
 have e:(fh l).any (fun kv=>decide (kv.1=k))=l.any fun x=>decide (x.1=k):=by
  refine(?_:(List.map _ l).any _=_)
  exact rE List.any_map rfl
 refine rE e ?_
 split
 ·refine(?_:List.map _ (List.map _ l)=List.map _ (List.map _ l))
  refine rE List.map_map (rE List.map_map ?_)
  apply List.map_congr_left
  intro x _
  refine(?_:(if x.1=k then(x.1,D.str v)else(x.1,D.str x.2))=((if x.1=k then(x.1,v)else x).1,D.str (if x.1=k then(x.1,v)else x).2))
  split<;>rfl
 ·refine(?_:List.map _ l++_=List.map _ (l++_))
  exact rE List.map_append rfl
theorem gz{wi:WE}(h1:Ev c wa ξ σ (.ref a) σ1)(h2:Ev c wi ξ σ1 (.str x) σ2)(ha:σ2 a=some (.dS kvs))(hz:kvs.length≤1048576):Tg c (xP wa wi) d ξ σ ξ (σ2.put a (.dS (put kvs x d))):=
 fun zz q=>h1 _ (h2 _ (bH a kvs (oR ha) hz q))
theorem mZ(l:List (Str×Str)):(fh l).length=l.length:=List.length_map _
noncomputable def aO(k:Str):Fin 4:=if k=ofString "value"then 0 else if k=ofString "constructor"then 1 else if k=ofString "type"then 2 else 3
structure vz(σ:af)(d m:D)(t:Fin 4→D)(T:Fin 4→List (Str×Str))(tf tp:D):Prop where
 ins:du σ d=some (196,AR m t tf tp)
 tab:∀i,cw σ (t i)=some (fh (T i))
theorem cK.view{A:mE}(h:cK σ A m T fx ps):vz σ (.ref A.a) m (fun i=> .ref (A.tb i)) T (.ref A.f) (.ref A.p):=
 ⟨e9 h.a h.da,fun i=>fB (h.tab i)⟩
variable{X:af→Prop}{t:Fin 4→D}
theorem kR(p:Pg)(hi:du σ d=some (196,AR m t tf tp)){k:Str}(h:Φ (t (aO k)) σ):aL C (n+1) (.ref 174) [d,.str k] σ Φ X:=by
 refine' bJ p (C:=C) (n:=n) (ow:=[]) (es:=[]) (ws:=[]) (sl:=[ofString "self",ofString "kind"]) (names:=[ofString "self",ofString "kind"]) (fun zz=>rfl) (fun zz=>rfl) ?hp ?hb ?hs rfl ?hsc ?hnd rfl rfl (fun zz=> .nil) ?hbind (w:=?w) ?hsx ?hw (hlk:=?hlk)
 case hp=>(conv=>lhs;whnf)
 case hb=>(conv=>lhs;whnf)
 case hs=>(conv=>lhs;whnf)
 case hsc=>rfl
 case hnd=>decide
 case hlk=>decide
 case hbind=>exact fun s vs X hl=>jC (P:=fun vs=>BindsTo s _ ⟨vs,[]⟩ (List.zip _ (vs++_))) hl fun a0 a1=>(BindsTo.of_eq rfl)
 case hsx=>infer_instance
 refine'(?_:_)
 delta aO at h
 by_cases h1:k=ofString "value"
 ·rw[if_pos h1]at h
  refine bw (bh (ar (al (aa rfl) ah (aW _ _ _)) (by simpa using h1)) (aQ (aV (ak (aa rfl) hi rfl p.attr)))) h
 rw[if_neg h1]at h
 refine aD (aG (ar (al (aa rfl) ah (aW _ _ _)) (by simpa using h1)) aR) ?_
 by_cases h2:k=ofString "constructor"
 ·rw[if_pos h2]at h
  refine bw (bh (ar (al (aa rfl) ah (aW _ _ _)) (by simpa using h2)) (aQ (aV (ak (aa rfl) hi rfl p.attr)))) h
 rw[if_neg h2]at h
 refine aD (aG (ar (al (aa rfl) ah (aW _ _ _)) (by simpa using h2)) aR) ?_
 by_cases h3:k=ofString "type"
 ·rw[if_pos h3]at h
  refine bw (aV (cS (ar (al (aa rfl) ah (aW _ _ _)) (by simpa using h3)) (ak (aa rfl) hi rfl p.attr))) h
 ·rw[if_neg h3]at h
  refine bw (aV (cE (ar (al (aa rfl) ah (aW _ _ _)) (by simpa using h3)) (ak (aa rfl) hi rfl p.attr))) h
theorem pE(o:Option Str)(f:Str):(o.map D.str).getD (.str f)= .str (o.getD f):=by cases o<;>rfl
theorem Bu(p:Pg)(hi:vz σ d m t T tf tp){k s f:Str}(h:Φ (.bool (decide (bR (T (aO k)) s=some f))) σ):aL C (n+2) (.ref 193) [d,.str k,.str s,.str f] σ Φ X:=by
 refine' bJ p (C:=C) (n:=(n+1)) (ow:=[]) (es:=[]) (ws:=[]) (sl:=[ofString "self",ofString "kind",ofString "short",ofString "full"]) (names:=[ofString "self",ofString "kind",ofString "short",ofString "full"]) (fun zz=>rfl) (fun zz=>rfl) ?hp ?hb ?hs rfl ?hsc ?hnd rfl rfl (fun zz=> .nil) ?hbind (w:=?w) ?hsx ?hw (hlk:=?hlk)
 case hp=>(conv=>lhs;whnf)
 case hb=>(conv=>lhs;whnf)
 case hs=>(conv=>lhs;whnf)
 case hsc=>rfl
 case hnd=>decide
 case hlk=>decide
 case hbind=>exact fun s vs X hl=>jA (P:=fun vs=>BindsTo s _ ⟨vs,[]⟩ (List.zip _ (vs++_))) hl fun a0 a1 a2 a3=>(BindsTo.of_eq rfl)
 case hsx=>infer_instance
 refine'(?_:_)
 have hs:=hi.tab (aO k)
 refine bw (aV (aA (dO (by decide) (dW (by decide) (aa rfl) hi.ins rfl p.meth p.keep (ae (aa rfl)) fun zz q=>kR p hi.ins q) (.inl (by exact rE hs rfl)) (ae (aa rfl)) fun zz q=>(aP _ hs q)) (aa rfl) (ia ?_))) h
 refine rE (bV _ _) ?_
 refine oD (o:=bR (T (aO k)) s) (fun e=>?_) fun g e=>?_
 ·exact(nU rfl).trans (congrArg some (kh fun q=>by cases q))
 ·exact(aW σ g f).trans (by simp)
theorem lG(o:Option Str)(f:Str):dq σ .NotEq ((o.map D.str).getD (.str f)) (.str f)=some (decide (o.getD f≠f)):=by
 refine rE (pE _ _) (rE (pO _ _ _) ?_);simp
structure bk(C:Addr)(n:Nat):Prop where
 ok:rm C
 n:2≤n
 mg:cx.mg (ofString "ScopeError")=some (.ref C)
theorem bk.up{m:Nat}(r:bk C n)(h:n≤m):bk C m:=⟨r.ok,Nat.le_trans r.n h,r.mg⟩
theorem bk.at(r:bk c.C c.n):rm c.C∧2≤c.n∧cx.mg (ofString "ScopeError")=some (.ref c.C)∧(ofString "ScopeError" ==("__debug__" :Str))=false:=(fw r.ok r.n r.mg (by decide+kernel))
noncomputable def oy{α:Type}(T:Fin 4→α)(i:Fin 4)(x:α):Fin 4→α:=fun j=>if j=i then x else T j
theorem cK.FR{A:mE}(h:cK σ A m T fx ps):∀i j,i≠j→A.tb i≠A.tb j:=by
 have nd:=h.nd
 simp only[mE.all,List.nodup_cons,List.mem_cons,List.not_mem_nil,not_or,or_false]at nd
 refine dF nd fun zz zz CU=>dF CU fun w2 w3 D4=>xA D4 fun w4 zz=>?_;clear CU D4;clear nd;obtain⟨a1,a2,a3,_⟩:=w2;obtain⟨b1,b2,_⟩:=w3;obtain⟨c1,_⟩:=w4
 exact cg (cg (fun q=>absurd rfl q) (fun zz=>a1) (fun zz=>a2) fun zz=>a3) (cg (fun zz=>a1∘Eq.symm) (fun q=>absurd rfl q) (fun zz=>b1) fun zz=>b2)
  (cg (fun zz=>a2∘Eq.symm) (fun zz=>b1∘Eq.symm) (fun q=>absurd rfl q) fun zz=>c1) (cg (fun zz=>a3∘Eq.symm) (fun zz=>b2∘Eq.symm) (fun zz=>c1∘Eq.symm) fun q=>absurd rfl q)
theorem cK.FT{A:mE}(i:Fin 4):A.tb i∈A.all:=cg (P:=fun i=>A.tb i∈A.all) (.tail _ (.tail _ (.head _))) (.tail _ (.tail _ (.tail _ (.head _)))) (.tail _ (.tail _ (.tail _ (.tail _ (.head _))))) (.tail _ (.tail _ (.tail _ (.tail _ (.tail _ (.head _)))))) i
theorem cK.put{A:mE}(h:cK σ A m T fx ps)(i:Fin 4)(l:List (Str×Str)):cK (σ.put (A.tb i) (.dS (fh l))) A m (oy T i l) fx ps:=by
 have ne:∀{b:Addr} {x:AO},σ b=some x→(∀l,x≠ .dS (fh l))→σ.put (A.tb i) (.dS (fh l)) b=some x:=fun e hx=>(af.CO _ _ fun q=>by rw[q,h.tab i]at e;exact hx _ (Option.some.inj e).symm).trans e
 have nd:=h.nd
 simp only[mE.all,List.nodup_cons,List.mem_cons,List.not_mem_nil,not_or,or_false]at nd
 refine iu nd fun zz zz w2 w3 w4 w5 zz=>?_;clear nd;obtain⟨_,_,_,a1,a2⟩:=w2;obtain⟨_,_,b1,b2⟩:=w3;obtain⟨_,c1,c2⟩:=w4;obtain⟨d1,d2⟩:=w5
 refine⟨h.nd,ne h.a (fun l q=>by cases q),ne h.da (fun l q=>by cases q),fun j=>?_,(af.CO _ _ ?_).trans h.f,(af.CO _ _ ?_).trans h.p⟩
 ·delta oy
  by_cases q:j=i
  ·exact rE (if_pos q) (rE q (rE (af.CN _ _ _) rfl))
  ·exact rE (if_neg q) (rE (af.CO _ _ (h.FR j i q)) (h.tab j))
 ·exact(cg (P:=fun i=>A.tb i≠A.f) a1 b1 c1 d1 i).symm
 ·exact(cg (P:=fun i=>A.tb i≠A.p) a2 b2 c2 d2 i).symm
theorem wr(p:Pg)(r:bk C (n+1)){A:mE}(hi:cK σ A m T fx ps){k s f:Str}{pl:D}(hs:s.length≤1000)(hz:(T (aO k)).length≤1000000)
 (h1:(bR (T (aO k)) s).getD f≠f→X σ) (h2:(bR (T (aO k)) s).getD f=f→Φ .none (σ.put (A.tb (aO k)) (.dS (fh (jS (T (aO k)) s f))))):aL C (n+2) (.ref 181) [.ref A.a,.str k,.str s,.str f,pl] σ Φ X:=by
 refine' bJ p (C:=C) (n:=(n+1)) (ow:=[]) (es:=[]) (ws:=[]) (sl:=[ofString "self",ofString "kind",ofString "short",ofString "full",ofString "place",ofString "known"]) (names:=[ofString "self",ofString "kind",ofString "short",ofString "full",ofString "place"]) (fun zz=>rfl) (fun zz=>rfl) ?hp ?hb ?hs rfl ?hsc ?hnd rfl rfl (fun zz=> .nil) ?hbind (w:=?w) ?hsx ?hw (hlk:=?hlk)
 case hp=>(conv=>lhs;whnf)
 case hb=>(conv=>lhs;whnf)
 case hs=>(conv=>lhs;whnf)
 case hsc=>rfl
 case hnd=>decide
 case hlk=>decide
 case hbind=>exact fun s vs X hl=>zR (P:=fun vs=>BindsTo s _ ⟨vs,[]⟩ (List.zip _ (vs++_))) hl fun a0 a1 a2 a3 a4=>(BindsTo.of_eq rfl)
 case hsx=>infer_instance
 refine'(?_:_)
 have hv:=hi.view
 have hk:=hv.tab (aO k)
 refine aD (aX (dW (by decide) (aa rfl) hv.ins rfl p.meth p.keep (ae (aa rfl)) fun zz q=>kR p hv.ins q)) ?_
 by_cases q:(bR (T (aO k)) s).getD f=f
 ·refine aD (aG (ar (al (dO (by decide) (aa rfl) (.inl (by exact rE hk rfl)) (ac (aa rfl) (ae (aa rfl))) fun zz q=>(aP _ hk q)) (aa rfl) (by exact rE (bV _ _) (lG _ _))) (by simpa using q)) aR) ?_
  refine aD (bd (aa rfl) (gz (aa rfl) (aa rfl) (hi.tab _) (by refine rE (mZ _) ?_;lia))) ?_
  exact rE (uJ _ _ _) (h2 q)
 ·refine gI (ar (al (dO (by decide) (aa rfl) (.inl (by exact rE hk rfl)) (ac (aa rfl) (ae (aa rfl))) fun zz q=>(aP _ hk q)) (aa rfl) (by exact rE (bV _ _) (lG _ _))) (by simpa using q)) ?_
  refine lr fun Ψ=>iw (bk.at (c:=⟨C,n+1,X,[]⟩) r) (ac (aA ah (aa rfl) (bz ?_)) (ae (aa rfl))) (h1 q)
  have:(ofString "two things are exported as ").length=27:=by decide+kernel
  lia
end
section
noncomputable def qA:Arguments:={posonlyargs:=[],args:=[],vararg:=none,kwonlyargs:=[],kw_defaults:=[],kwarg:=none,defaults:=[]}
noncomputable abbrev vb:Str:=ph++"<lambda>"
def uf(o:Obj)(q:Str):Prop:=∃vs t,o.data= .fields vs∧vs[1]?=some (.str q t)
def iq(P:Addr)(σ:af):Prop:=∃ps,σ P=some (.raw (tabObj ps))∧TriplesOk ps.toList∧∀pos v,codeAmong pos ps.toList=some v→∃a oc,v= .ref a∧a≠P∧σ a=some (.raw oc)∧uf oc vb
structure uh(P:Addr):Prop where
 hd:CodeHd cx.hb 436 P
 bi:cx.hb.BuiltinsAt cx.mg P
theorem sJ{a b:Int}{c:Value}:∀{l:List Value},TriplesOk l→codeAmong pos (l++[rawInt a,rawInt b,c])=some v→codeAmong pos l=some v∨v=c:=by
 intro l h
 fun_induction TriplesOk l with
 |case1=>
  intro e
  simp only[List.nil_append,rawInt,codeAmong]at e
  split at e
  ·(replace e:=sI e;subst e);exact .inr rfl
  ·exact nS e
 |case2 a' t b' u x rest ih=>
  simp only[List.cons_append,codeAmong]
  split
  ·exact fun e=> .inl e
  ·exact ih h
 |case3=>exact h.elim
section
variable{init:List (Option Nat)}{P:Addr}{body:Expr}{scope:Scope}
noncomputable abbrev j8(body:Expr)(scope:Scope)(cl:List (Str×Addr))(c':Addr)(ctv:Value):Obj:=kla_obj "<lambda>" vb qA body scope cl ((cx.mg "__name__").getD .none) c' ctv
theorem vZ(S:ge env ns sl)(hns:i8∈ns)(G:GS A env sl s0 CP Z0 s σ Z ξ)(H:uh P)(T:iq P σ)(cn:bQ ns sl scope.names slc init)
 (h:∀f c' ctv cl s' σ1 Z1 oc,GS A env sl s0 CP Z0 s' σ1 Z1 ξ→Z.le Z1→iq P σ1→(∀b,b≠P→σ b≠none→σ1 b=σ b)→Z1 f=some (j8 body scope cl c' ctv)→σ1 c'=some (.raw oc)→uf oc vb→sM env scope cl→Q (.ref f) s'):
 wpAny cx.M A (eval (.Lambda qA body scope lp) env) Q E s:=by
 refine xA (S.code hns) fun hcode F8=>?_
 refine cz T fun ps t1 t2 t3=>?_;clear T
 refine ck (G.inv.own P _ t1) fun zP oP FB hm=>?_
 cases hm
 have hlook:∀x,(x,NameKind.free)∈scope.names→∃a,env.cells.lookup x=some a:=fun x hx=>by
  refine dF (cn.all x hx) fun h1 h2 h3=>?_
  rcases S.fs.kinds x h2 with q|⟨a,_,q⟩
  ·rw[S.Fk x _ h3 (by decide)]at q;cases q
  ·exact(iE a q)
 refine cz (fg hlook) fun cl hcl k1 k2=>?_
 have keep:∀b o,cx.hb.get? b=some o→s.heap.get? b=some o:=fun b o e=>G.inv.zone b o (G.inv.base b o e)
 have gP:mainGlobals≠P:=fun q=>by
  refine fE (G.inv.ok.g) fun o es ep e hd zz=>?_
  rw[q]at e;rw[keep _ _ e]at FB;(replace FB:=sI FB;subst FB);cases hd
 refine eO (H.bi) fun bm ob b1 b2 b3 b4 CU=>xA CU fun b5 b6=>?_;clear CU
 refine kla_eval rfl ?_
 refine rE F8 ?_
 have hC:=H.hd.keeps keep
 have hg:=AL G
 refine oC (o:=codeAmong lp ps.toList) (fun hc=>?_) fun v hc=>?_
 ·skip
  refine kla_makeFunction hcl S.fs.Fo hg hcode hC FB t2 hc gP (dC bm ob b1 b2 b3 b4 ⟨(keep _ _ b5),b6⟩) fun c' ctv h' tk hx hge hlt hrec htb=>?_
  have G1:=G.ext (t:=tk) (fun b o hb e=>hx b o hb e) t1 htb .raw
  refine fu hrec fun c2 oc vs t e2 hoc CU=>xA CU fun hd hv=>?_;clear CU;clear hrec
  cases e2
  have nc:s.heap.get? c'=none:=Heap.get?_none_of_le hge
  have hne:c'≠P:=fun q=>by rw[q,FB]at nc;exact sN nc
  have SD:=ax.fresh G nc
  have G2:=G1.Eo ⟨SD.new,(af.CO _ _ hne).trans SD.own,SD.zone,SD.mine,SD.fr⟩ hoc .raw
  refine xA (G2.push (j8 body scope cl c' ctv) tk) fun z3 G3=>?_
  refine h _ c' ctv cl _ _ _ oc G3 z3 (bP _ ((af.CO _ _ hne.symm).trans (af.CN _ _ _)) ?_ (fun pos v e=>?_)) (fun b hb hn=>?_) (am.CN _ _ _) (af.CN _ _ _) (fP vs t hd hv) ⟨k1,k2⟩
  ·have:=TriplesOk_snoc lp.line lp.col (.ref c') _ t2
   simpa using this
  ·have e:codeAmong pos (ps.toList++[rawInt lp.line,rawInt lp.col,.ref c'])=some v:=by simpa using e
   rcases sJ t2 e with e|rfl
   ·refine cy (t3 pos v e) fun a oa e1 e2 e3 e4=>?_
    exact(cQ a oa e1 e2 ((af.CO _ _ fun q=>by rw[q,SD.own]at e3;exact nS e3).trans ((af.CO _ _ e2).trans e3)) e4)
   ·exact(cQ c' oc rfl hne (af.CN _ _ _) (fP vs t hd hv))
  ·exact(af.CO _ _ fun q=>hn (by exact rE q SD.own)).trans (af.CO _ _ hb)
 ·skip
  refine cy (t3 _ _ hc) fun a oa q2 e2 e3 e4=>?_;subst q2
  refine kla_makeFunctionHit hcl S.fs.Fo hg hcode hC FB t2 hc (dC bm ob b1 b2 b3 b4 ⟨(keep _ _ b5),b6⟩) fun ctv h' tk hk hsz=>?_
  have G1:=G.keeps (t:=tk) hk
  refine xA (G1.push (j8 body scope cl a ctv) tk) fun z2 G2=>?_
  exact h _ a ctv cl _ _ _ oa G2 z2 (bP ps t1 t2 t3) (fun zz zz zz=>rfl) (am.CN _ _ _) e3 e4 ⟨k1,k2⟩
theorem wN{m:Nat}{X:af→Prop}{oc:Obj}
 (hA:jl A (m+1)) (I:dR s.heap σ Z) (T:jf A s.heap σ Z) (hf:Z f=some (j8 body scope cl c' ctv)) (hc:σ c'=some (.raw oc)) (hr:uf oc vb)
 (S:ge env ns sl) (F:rl env sl s.heap σ Z ξ) (cn:bQ ns sl scope.names slc init) (k:sM env scope cl) (ok:dG scope=true) (hco:scope.isCoroutine=false) (hgen:scope.isGenerator=false)
 (he:EX ⟨C,m,X,ow⟩ scope.names slc body wb) (hw:wb ⟨C,m,X,ow⟩ (bp init ξ) σ Φ)
 (hR:∀v s' σ' Z' d,eg (fun zz=>False) (cm A) s.heap σ Z s'.heap σ' Z'→dR s'.heap σ' Z'→jf A s'.heap σ' Z'→fQ s s'→aw Z' v d→Φ d σ'→R (.ok (.ret v)) s')
 (hX:∀e s' σ' Z',GX A (fun zz=>False) C s σ Z s' σ' Z' e→X σ'→R (.error (.ref e)) s'):codeAny cx.M A (.call (.ref f) ⟨[],[]⟩) R s:=by
 revert hA I T hf hc hr S F cn k ok hco hgen he hw hR hX;revert sl slc m ctv oc;revert ns init A env s σ Z ξ body scope C X ow wb Φ R f c' cl;apply zp
 generalize (aZ _ _).1.1.1.1.1=A,(aZ _ _).1.1.1.1.2=s,(aZ _ _).1.1.1.2=env,(aZ _ _).1.1.2.1=Z,(aZ _ _).1.1.2.2=C,(aZ _ _).1.2.1.1.1=f,(aZ _ _).1.2.1.1.2=c',(aZ _ _).1.2.1.2=σ,(aZ _ _).1.2.2.1=Φ,(aZ _ _).1.2.2.2=cl,(aZ _ _).2.1.1.1.1=R,(aZ _ _).2.1.1.1.2=ow,(aZ _ _).2.1.1.2=wb,(aZ _ _).2.1.2.1=ξ,(aZ _ _).2.1.2.2=ns,(aZ _ _).2.2.1.1=init,(aZ _ _).2.2.1.2=body,(aZ _ _).2.2.2.1=scope,(aZ _ _).2.2.2.2=X;intro sl slc ctv m oc hA I T hf hc hr S F cn k ok hco hgen he hw hR hX
 have ok':=ok
 simp only[dG,Bool.and_eq_true,decide_eq_true_eq,List.all_eq_true,Bool.not_eq_true',beq_iff_eq]at ok'
 have nd:=ok'.1.2
 refine ck (I.own c' _ hc) fun zz o ho hm=>?_
 cases hm
 refine eB hr fun vs t hd hv=>?_;clear hr
 refine kla_callFunE (by refine(?_:_<1000);have:=hA.depth;lia) (I.zone _ _ hf) rfl hco hgen rfl (dU c' oc vs t rfl ho ⟨hd,hv⟩) ?_
 refine wpAny_pure (a:=[]) (wpAny_newFunctionEnv (fun x hx=>cn.CY x hx) (fun zz h=>by exact nM h) (fun h' hns hsb=>?_) ok'.1.1)
 have hk:∀b o,s.heap.get? b=some o→h'.get? b=some o:=fun b o e=>hsb.extBut b o (Nat.ne_of_lt (Heap.lt_size e)) (Heap.get?_push_of_some _ e)
 refine⟨I.ok.nolimit.keeps fun b o e=>hk b o (I.zone b o (I.base b o e)),kla_codeExpr ?_⟩
 generalize Fg:newEnv scope s.heap.objs.size mainGlobals cl (vb++".<locals>.") (some f) (.ref c') none builtinsNs=EF
 have kd:∀x k,(x,k)∈scope.names→EF.kindOf x=some k:=fun x k h=>by exact rF Fg (bS nd h)
 have into:∀n a,eA EF n a→(n,NameKind.free)∈scope.names∧eA env n a:=fun n a h=>by
  have h2:=h.2
  rw[←Fg]at h2
  refine xA (k.into n a h2) fun x1 x2=>?_
  exact(dx x1 (.inl (S.Fk n _ (cn.all n x1).2.2 (by decide))) x2)
 have F2:FS EF slc:=by
  refine⟨by refine rF Fg ?_;exact ok'.1.1,by refine rF Fg ?_;rfl,by refine rF Fg ?_;rfl,nd.sublist cn.sub,fun n hn=>?_,fun n n' a h1 h2=>S.fs.inj n n' a (into n a h1).2 (into n' a h2).2,fun n hn=>?_⟩
  ·rcases cn.kind n hn with h|h
   ·exact .inl (kd n _ h)
   ·refine dF (cn.all n h) fun h1 h2 h3=>?_
    rcases S.fs.kinds n h2 with q|⟨a,_,q⟩
    ·rw[S.Fk n _ h3 (by decide)]at q;cases q
    ·exact .inr (aP a (.inr (kd n _ h)) (by refine rF Fg ?_;exact(k.back n h).trans q))
  ·refine aF (List.mem_map.mp (cn.sub.subset hn)) fun x hx q2=>?_;subst q2
   exact ok'.2 x hx
 have e2:EF.locals=s.heap.objs.size:=by exact rF Fg rfl
 have S2:ge EF scope.names slc:=⟨F2,fun x k h zz=>kd x k h,fun h=>absurd rfl (cn.CY _ h)⟩
 have foot:∀b,jj EF b→s.heap.get? b=none:=fun b hb=>by
  rcases hb with rfl|⟨n,h1,_⟩
  ·exact rE e2 (aS _)
  ·rw[←Fg]at h1;exact absurd rfl (cn.CY _ (sf h1))
 refine l5 (α:=Value) (val:=id) (n:=m) (ξ0:=bp init ξ) hA I T hk ⟨h',_,rfl⟩ F2 (by refine rF Fg ?_;rfl) (by refine rE e2 ?_;exact aS _) foot (by refine fE hns fun o es ep q1 q2 zz=>?_;clear hns;exact⟨o,es,ep,by refine rE e2 ?_;exact q1,q2⟩) ?_ (fun E a1 g1 e1=>he.ok _ _ _ hw ⟨_,_,_,_,_,E⟩ _ _ _ S2 ⟨a1,g1,e1⟩ fun v s' d σ' Z' a z r q=>⟨d,_,σ',Z',a.gs,r,q⟩) hR hX
 refine⟨by delta bp;exact rE (List.length_map _) (rE cn.len rfl),(aP _ (by exact rE e2 hns) (fun i n d h1 h2 h3=>?_)),fun n a h=>?_,fun i n a d h1 h2 h3=>?_,fun b hb=>?_⟩
 ·refine aF (fN h3) fun j e1 zz=>?_
  refine cz (cn.cap i j e1) fun x e3 e4 zz=>?_
  rw[h1]at e3;(replace e3:=sI e3;subst e3)
  rw[kd _ _ e4]at h2;cases h2
 ·refine eB (F.cell n a (into n a h).2) fun cv o e q=>?_
  exact(fP cv o (hk _ _ e) q)
 ·refine aF (fN h3) fun j e1 e2=>?_
  refine cz (cn.cap i j e1) fun x e3 e4 e5=>?_
  rw[h1]at e3;(replace e3:=sI e3;subst e3)
  refine aF (F.DP j n a d e5 (into n a h2).2 e2) fun v w1 r=>?_;obtain⟨o,e,q⟩:=w1
  exact(aP v (aP o (hk _ _ e) q) r)
 ·rcases hb with rfl|⟨n,hn⟩
  ·exact rE e2 (pr I (aS _))
  ·exact F.off b (.inr (iE n ((into n b hn).2)))
end
end
section
section
variable{Z2:am}{e:Addr}
theorem GS.landed(G:GS A env sl s σ Z s σ Z ξ)(gx:GX A (fun zz=>False) C s σ Z s2 σ2 Z2 e)
 (k1:∀b o,s2.heap.get? b=some o→s.heap.get? b≠none∨σ2 b≠none∨Z2 b≠none→∃o',h'.get? b=some o'∧(o'=o∨(cm A b∧∃sl,o'={o with slots:=sl}))) (k2:∀b,s.heap.get? b≠none→h'.get? b≠none):
 GS A env sl s σ Z {s2 with heap:=h'} σ2 Z2 ξ:=by
 have two:∀b o o1 o2,s.heap.get? b=some o→(o1=o∨cm A b∧∃sl,o1={o with slots:=sl})→(o2=o1∨cm A b∧∃sl,o2={o1 with slots:=sl})→(o2=o∨cm A b∧∃sl,o2={o with slots:=sl}):=fun b o o1 o2 zz q1 q2=>by
  rcases q1 with rfl|⟨f1,Fw,rfl⟩
  ·exact q2
  ·rcases q2 with rfl|⟨f2,sl2,rfl⟩
   ·exact .inr (vy f1 Fw rfl)
   ·exact .inr (vy f1 sl2 rfl)
 have keep:∀b o,σ b=none→s.heap.get? b=some o→∃o',h'.get? b=some o'∧(o'=o∨cm A b∧∃sl,o'={o with slots:=sl}):=fun b o hs e0=>by
  refine aF (gx.grow.keep b o (fun h=>h) hs e0) fun o1 e1 q1=>?_
  refine aF (k1 b o1 e1 (.inl (by refine rE e0 ?_;simp))) fun o2 e2 q2=>?_
  exact(aP o2 e2 (two b o o1 o2 e0 q1 q2))
 have dat:∀b o,σ b=none→s.heap.get? b=some o→∃o',h'.get? b=some o'∧o'.data=o.data:=fun b o hs e0=>by
  refine aF (keep b o hs e0) fun o' e1 q=>?_
  rcases q with rfl|⟨_,_,rfl⟩<;>exact(aP _ e1 rfl)
 have same:∀b o,s2.heap.get? b=some o→σ2 b≠none∨Z2 b≠none→h'.get? b=some o:=fun b o e0 hq=>by
  refine aF (k1 b o e0 (.inr hq)) fun o' e' q=>?_
  rcases q with rfl|⟨f,_⟩
  ·exact e'
  ·have:=gx.stk.off b f
   rcases hq with h|h
   ·exact absurd this.1 h
   ·exact absurd this.2 h
 refine⟨⟨gx.grow.DM,fun b o zz hs e0=>keep b o hs e0,gx.grow.C8,gx.grow.C1,k2⟩,⟨gx.inv.ok,gx.inv.base,fun b o e0=>same b o (gx.inv.zone b o e0) (.inr (by refine rE e0 ?_;simp)),fun b ao e0=>?_⟩,
  G.CT.keeps (fun b o hb e0=>dat b o (G.CT.off b hb).1 e0) gx.grow.DM fun b hb=>?_,G.stk.keeps (fun b o hb e0=>dat b o (G.stk.off b hb).1 e0) gx.stk.off,gx.same.next _ _⟩
 ·refine ck (gx.inv.own b ao e0) fun h1 o h2 h3=>?_
  exact(gp h1 o (same b o h2 (.inl (by refine rE e0 ?_;simp))) h3)
 ·refine xE (G.Dl hb) fun o e0=>?_
  have f:=G.CT.off b hb
  refine⟨?_,?_⟩
  ·cases q:σ2 b with
   |none=>rfl
   |some ao=>rcases gx.grow.C1 b (by refine rE q ?_;simp)with h|h
             ·exact absurd f.1 h
             ·rw[e0]at h;exact sN h
  ·cases q:Z2 b with
   |none=>rfl
   |some ao=>rcases gx.grow.C8 b (by refine rE q ?_;simp)with h|h|h
             ·exact absurd f.2 h
             ·exact absurd f.1 h
             ·rw[e0]at h;exact sN h
theorem v6{M:Model}(G:GS A env sl s0 CP Z0 s σ Z ξ)(X:iW C s0.heap s.heap σ Z e){Q:Unit→Shared→Prop}(q:∀s',GS A env sl s0 CP Z0 s' σ Z ξ→Q () s'):wpAny M A' (setFlight (.ref e) none) Q E s:=by
 refine fU X fun x1 x2 x3 oe vs a0 x4 x5 x6 x7 x8=>?_;clear X
 delta setFlight
 rcases x8 with x8|⟨T,oT,ts,t1,t2,t3,t4,t5,t6,t7,t8⟩
 ·refine wpAny_bind (wpAny_field x4 x6 x8 ?_)
  refine wF (by decide) ?_
  exact wpAny_pure (q _ G)
 ·refine wpAny_bind (wpAny_field x4 x6 t1 ?_)
  refine wT (show(Value.ref T !=Value.none)=true from by simp) ?_
  refine wpAny_setField t3 t4 (Array.getElem?_eq_some_iff.mp t5).1 (q _ (G.side (I:=T) ⟨t6,t7,t8,fun hm=>?_,fun hm=>?_⟩ fun b o hb e0=>(Heap.get?_update_other _ _ (Ne.symm hb)).trans e0))
  ·rcases hm with rfl|⟨n,hn⟩
   ·refine aF (G.CT.loc) fun m w1 zz=>?_;obtain⟨o,es,ep,e1,hd,_⟩:=w1
    rw[t3]at e1;(replace e1:=sI e1;subst e1);rw[t4]at hd;cases hd
   ·refine eB (G.CT.cell n T hn) fun cv o e1 hd=>?_
    rw[t3]at e1;(replace e1:=sI e1;subst e1);rw[t4]at hd;cases hd
  ·refine fS hm fun l hl env' he hf=>?_;clear hm
   refine aF (G.stk.fr) fun l' hl' hh=>?_
   rw[hl]at hl';(replace hl':=sI hl';subst hl')
   refine dZ (hh env' he) fun zz L o h1 h2 h3=>?_
   rw[hf]at h1;(replace h1:=sI h1;subst h1)
   rw[t3]at h2;(replace h2:=sI h2;subst h2)
   exact h3 ts t4
theorem wR{o:Obj}{d:FuncData}(h:o.data= .func d):keepIn [(f,o)] (.ref f)=true:=by
 obtain⟨c,dd,dt,sl⟩:=o
 cases h
 simp[keepIn]
end
section
variable{init:List (Option Nat)}{P:Addr}{body:Expr}{scope:Scope}
theorem sp{m:Nat}{oc:Obj}(p:Pg)(r:bk C 2)
 (hA:jl A (m+2)) (I:dR s.heap σ Z) (T:jf A s.heap σ Z) (hf:Z f=some (j8 body scope cl c' ctv)) (hc:σ c'=some (.raw oc)) (hr:uf oc vb)
 (S:ge env ns sl) (F:rl env sl s.heap σ Z ξ) (cn:bQ ns sl scope.names slc init) (k:sM env scope cl) (ok:dG scope=true) (hco:scope.isCoroutine=false) (hgen:scope.isGenerator=false)
 (he:EX ⟨C,m,fun σ'=>Φ .none σ',ow⟩ scope.names slc body wb) (hw:wb ⟨C,m,fun σ'=>Φ .none σ',ow⟩ (bp init ξ) σ Φ)
 (hR:∀v s' σ' Z' d,eg (fun zz=>False) (cm A) s.heap σ Z s'.heap σ' Z'→dR s'.heap σ' Z'→jf A s'.heap σ' Z'→fQ s s'→aw Z' v d→Φ d σ'→R (.ok (.ret v)) s'):codeAny cx.M A (.call (.ref 425) ⟨[.ref f],[]⟩) R s:=by
 refine xE (p.hK) fun K hK=>?_
 refine jc (C:=C) (n:=m+1) (X:=fun zz=>False) (sl:=[ofString "work"]) (names:=[ofString "work"]) (ds:=[.ref f]) (es:=[]) (ws:=[]) (Φ:=Φ)
  (by exact rE hK (rfl:(kW K).lookup 425=some (fO (dM 39) (ofString "_law_heard") (ofString "_law_heard") (Value.none) (Value.str (ofString "law_pq0602_01") 688) (Value.ref 424)))) (by exact rE hK rfl) (by rfl) rfl rfl .nil
  (fun s vs X hl=>gS (P:=fun vs=>BindsTo s _ ⟨vs,[]⟩ (List.zip _ (vs++_))) hl fun a0=>(BindsTo.of_eq rfl)) hA I T (.cons (.ref f) .nil) (fun DI s1 E1 hsc hfr hcd hk F1 mine a1 g1 e1=>?_) hR fun zz zz zz zz zz h=>h.elim
 have hfl:∃l,(A.deeper DI).frames=some (DI::l):=by
  refine aF (T.fr) fun l hl zz=>?_
  exact(iE l (by delta Around.deeper;simp[hl]))
 revert hfl;refine fun h0=>xE h0 fun outer hfl=>?_;clear h0
 have S1:ge DI [(ofString "work",.local),(ofString "ScopeError",.globalImplicit)] [ofString "work"]:=ge.of (sc:=mi (dM 39)) hsc F1 (by decide) fun h=>absurd h (by decide)
 have Fl:rl env sl s1.heap σ Z ξ:=F.keeps (fun b o zz e=>(aP o (hk b o e) rfl)) (am.le_refl _) F.off
 refine(show wpAny cx.M (A.deeper DI) (execs [.Try [.Return (some (.Call (.Name (ofString "work") ⟨334,15,334,19⟩) [] [] ⟨334,15,334,21⟩)) ⟨334,8,334,21⟩]
  [.ExceptHandler (some (.Name (ofString "ScopeError") ⟨335,11,335,21⟩)) none [.Return (some (.Constant .none 0 ⟨336,15,336,19⟩)) ⟨336,8,336,19⟩] ⟨335,4,336,19⟩] [] [] ⟨333,4,336,19⟩] DI) _ E1 s1 from ?_)
 refine wpAny_execs_cons (wpAny_Try_except (wpAny_execs_cons (wpAny_Return_some (eJ (jQ F1 g1 (i:=0) rfl rfl fun v rv=>?_)))))
 cases rv
 have hfo:=g1.inv.zone _ _ hf
 refine callWith_K0 (K:=[(f,j8 body scope cl c' ctv)]) (fun a o e=>?_) (wR rfl) (wpAny_call (wN (C:=C) (X:=fun σ'=>Φ .none σ') a1 g1.inv g1.stk hf hc hr S Fl cn k ok hco hgen he hw (fun v s' σ' Z' d k1 k2 k3 k4 k5 k6=>?_) fun e s2 σ2 Z2 gx hx=>?_))
 ·rw[List.lookup_cons]at e
  split at e
  ·(replace e:=sI e;subst e)
   rename_i q
   exact rE (beq_iff_eq.mp q) hfo
  ·exact nS e
 ·exact(dU (.ret d) _ σ' Z' (g1.called k1 k2 k3 k4) (.ret k5) k6)
 ·refine qF (C:=C) (h0:=s1.heap) hfl hfr gx.stk gx.inv gx.exc (fun b hb=>gx.grow.live b hb) fun h' k1 k2 k3=>?_
  have G3:=g1.landed gx k1 k2
  refine aF (r.ok.ex) fun fi Y zz=>?_
  refine Y.obj _ fun nm q' N bs bm hdct sn sub ab col dd k0 I4 I3 IZ k5 hC h2 hB Hi Hg hB2 zz zz=>?_
  refine dF (id k3) fun x1 x2 CU=>oo CU fun x3 oe vs a0 x4 D4=>xA D4 fun x5 x6=>?_;clear CU D4
  have IS:=GS.at' (A:=A.deeper DI) (B:=(A.deeper DI).mark (some (.ref e))) rfl G3
  refine wpAny_handleBy_cons (codeAny_handlers_test (jR S1 IS (.tail _ (.head _)) (by decide+kernel) r.mg ?_)) (by intro q;cases q)
  refine wpAny_excMatches_sub_self (G3.X _ _ hC) x4 x5 hB2 (codeAny_handlers_suite (v6 G3 k3 fun s4 G4=>?_))
  exact wpAny_execs_cons (wpAny_Return_some (xm (GS.at' (A:=A.deeper DI) (B:=(A.deeper DI).mark (some (.ref e))) rfl G4) fun v s5 Z5 g5 z5 r5=>(dU (.ret .none) _ σ2 Z5 (GS.at' (A:=(A.deeper DI).mark (some (.ref e))) (B:=A.deeper DI) rfl g5) (.ret r5) hx)))
def rz(scope:Scope)(init:List (Option Nat))(wb:WE):WE:=fun c ξ σ Φ=>(Pg∧bk c.C 2∧2≤c.n∧dG scope=true∧scope.isCoroutine=false∧scope.isGenerator=false)∧∃P,uh P∧iq P σ∧
 ∀σ1,iq P σ1→(∀b,b≠P→σ b≠none→σ1 b=σ b)→wb ⟨c.C,c.n-2,fun σ'=>Φ .none σ',[]⟩ (bp init ξ) σ1 Φ
instance[kk:bL ns (ofString "strong") .cell][k:bL ns (ofString "_law_heard") .globalImplicit][cn:bQ ns sl scope.names slc init][he:∀X,EX ⟨c.C,c.n-2,X,[]⟩ scope.names slc body wb]:
 EX c ns sl (.Call (.Name (ofString "_law_heard") p1) [.Lambda ⟨[],[],none,[],[],none,[]⟩ body scope lp] [] p3) (rz scope init wb):=EX.of rfl fun ξ σ Φ q F s Z Q S a κ=>by
 revert q;refine fun h0=>mS h0 fun w0 P H T q=>?_;clear h0;obtain⟨p,r,hn,ok,hco,hgen⟩:=w0
 refine eJ (jR S a.gs k.h (by decide+kernel) p.D7 (callWith_of (P:=cx.K.In) rfl (keeps_K p.keep) (eu rfl (ja rfl (vZ S kk.h a.gs H T cn fun f c' ctv cl s1 σ1 Z1 oc g1 z1 t1 hσ hf hc hr hk=>wpAny_items_nil ⟨g1.X,?_⟩)))))
 have hm:c.n-2+2=c.n:=by lia
 refine wpAny_call (sp (C:=c.C) (m:=c.n-2) p r (by exact rE hm a.DA) g1.inv g1.stk hf hc hr S g1.CT cn hk ok hco hgen (he _) (q σ1 t1 hσ) fun v s2 σ2 Z2 d k1 k2 k3 k4 k5 k6=>κ _ _ d σ2 Z2 (a.to (g1.called k1 k2 k3 k4)) (am.le_trans z1 k1.DM) k5 k6)
end
end
section
theorem qW{turn:D→af→(Option D→af→Prop)→Prop}{f:D→Option D}{Φ:List D→af→Prop}:∀{items acc:List D},(∀d∈items,∀Ψ:Option D→af→Prop,Ψ (f d) σ→turn d σ Ψ)→Φ (acc++items.filterMap f) σ→iT turn items acc σ Φ
 |[],acc,_,q=>by rw[List.filterMap_nil,List.append_nil]at q;exact q
 |d::ds,acc,h,q=>h d (.head _) _ (qW (fun e he=>h e (.tail _ he)) (by
   rw[List.filterMap_cons]at q
   refine oD (o:=f d) (fun e=>?_) fun y e=>?_
   ·rw[e]at q;simpa using q
   ·rw[e]at q;simpa using q))
theorem tS{scope:Scope}{init:List (Option Nat)}{items:List D}(f:D→Option D)(h0:dG scope=true)(h1:Ev c wit ξ σ d σ1)(hd:∀a,d≠ .ref a)(hi:eL σ1 d=some items)(hz:items.length≤1048576)
 (h:∀e∈items,∀Ψ:Option D→af→Prop,Ψ (f e) σ1→gt wt wi we c.cut (bp init ξ) e σ1 Ψ) (ho:c.owns p=false:=by rfl):Ev c (gW p scope wit wt wi we init) ξ σ (.lst (items.filterMap f)) σ1:=
 fun Ψ q=>⟨h0,h1 _ (cf hd items hi hz (qW h (by exact rE ho q)))⟩
theorem vG(h1:Tg c wt d ξ σ ξ1 σ)(h2:Ev c wi ξ1 σ true σ)(h3:Ev c we ξ1 σ e σ):∀Ψ:Option D→af→Prop,Ψ (some e) σ→gt wt wi we c ξ d σ Ψ:=fun zz q=>h1 _ (h2 _ (by exact rE (if_pos rfl) (h3 _ q)))
theorem z9(h1:Tg c wt d ξ σ ξ1 σ)(h2:Ev c wi ξ1 σ false σ):∀Ψ:Option D→af→Prop,Ψ none σ→gt wt wi we c ξ d σ Ψ:=fun zz q=>h1 _ (h2 _ (by exact rE (if_neg (by decide)) q))
theorem Aa(h1:Tg c wt d ξ σ ξ1 σ)(h2:Ev c wi ξ1 σ b σ)(h3:Ev c we ξ1 σ e σ):∀Ψ:Option D→af→Prop,Ψ (if b=true then some e else none) σ→gt wt wi we c ξ d σ Ψ:=by
 cases b with
 |true=>exact vG h1 h2 h3
 |false=>exact z9 h1 h2
theorem yS:Ev c mT ξ σ true σ:=fun zz q=>q
theorem gH{b:Pos}{w2:WS}{Φ:Fl→Lo→af→Prop}(hb:c.owns b=true)(h:∀a,σ a=none→w2 c (ξ.set i (some (.ref a))) (σ.put a (.lst [])) Φ):fF (bj (rn eS (r6 b)) (c8 i)) w2 c ξ σ Φ:=by
 exact vP (rY bf hb (Nat.zero_le _) h)
noncomputable def wV(a:Str):List Str→List Str
 |[]=>[a]
 |b::l=>if j0 (.str a) (.str b)=true then a::b::l else b::wV a l
noncomputable def m7:List Str→List Str
 |[]=>[]
 |a::l=>wV a (m7 l)
theorem qH(a:Str):∀l:List Str,pv (.str a) (l.map .str)=(wV a l).map .str
 |[]=>rfl
 |b::l=>by
  refine(?_:(if j0 (.str a) (.str b)=true then _ else _)=List.map _ (if j0 (.str a) (.str b)=true then _ else _))
  split
  ·rfl
  ·exact rE (qH a l) rfl
theorem d9:∀l:List Str,ei (l.map .str)=(m7 l).map .str
 |[]=>rfl
 |a::l=>by refine(?_:pv _ (ei _)=_);exact rE (d9 l) (rE (qH _ _) rfl)
theorem iS{l:List Str}(h:l.Nodup):((l.map D.str).map lO).Nodup:=by
 refine rE List.map_map ?_
 exact List.Pairwise.map _ (fun a b (hab:a≠b) q=>hab (jK (List.head_eq_of_cons_eq q))) h
abbrev ag:=Str×Str×Str
noncomputable abbrev bb(t:ag):D:= .tup [.str t.1,.str t.2.1,.str t.2.2]
noncomputable def cA(k:Str)(l:List (Str×Str)):List ag:=(m7 (l.map (·.1))).map fun s=>(k,s,(bR l s).getD Str.empty)
noncomputable def uo(T:Fin 4→List (Str×Str)):D→List D
 | .str k=>(cA k (T (aO k))).map fun t=> .tup [.str t.1,.str t.2.1,.str t.2.2]
 |_=>[]
noncomputable def aJ(T:Fin 4→List (Str×Str)):List ag:=cA (ofString "value") (T 0)++cA (ofString "constructor") (T 1)++cA (ofString "type") (T 2)++cA (ofString "class") (T 3)
theorem jY{l:List Str}{s:Str}:s∈m7 l↔s∈l:=by
 have:=(cB (l.map D.str)).mem_iff (a:= .str s)
 rw[d9,List.mem_map,List.mem_map]at this
 simpa using this
theorem qE{l:List (Str×Str)}{s:Str}(h:s∈l.map (·.1)):∃f,bR l s=some f:=by
 refine aF (List.mem_map.mp h) fun x hx q2=>?_;subst q2
 delta bR
 cases e:l.find? fun y=>decide (y.1=x.1)with
 |some y=>exact(iE _ rfl)
 |none=>exact absurd (List.find?_eq_none.mp e x hx) (by simp)
theorem vz.put{t:Fin 4→D}(h:vz σ d m t T tf tp){x:AO}(ha:σ a=none):vz (σ.put a x) d m t T tf tp:=⟨vv h.ins ha,fun i=>rg (h.tab i) ha⟩
theorem rG(l:List (Str×Str)):(fh l).map (fun kv=>D.str kv.1)=(l.map (·.1)).map .str:=by
 refine(?_:List.map _ (List.map _ l)=_)
 exact rE List.map_map (rE List.map_map rfl)
set_option tactic.hygienic true in
theorem vx{l:List (Str×Str)}(h:cw σ d=some (fh l)):jd σ d=some ((l.map (·.1)).map .str):=by
 have e:bg σ d=none:=by
  cases d<;>first|rfl|(exact nS h;done)|skip
  rename_i b
  delta cw at h;delta bg
  dsimp only at h⊢
  split at h
  ·rename_i e;exact rE e rfl
  ·exact nS h
 delta jd
 refine rE e (rE h ?_)
 exact congrArg some (rG l)
theorem lD{xs:List D}{x:D}(ha:σ a=some (.lst xs))(hz:xs.length≤1048576):Op c kT [.ref a,x] σ .none (σ.put a (.lst (xs++[x]))):=fun zz q=>(bH a xs (iy ha) hz q)
theorem rW{xs:List D}{x:D}(ha:σ a=some (.lst xs))(hx:bg σ x=some ys)(hz:xs.length+ys.length≤1048576):Op c oW [.ref a,x] σ .none (σ.put a (.lst (xs++ys))):=fun zz q=>(cP a xs ys (iy ha) hx hz q)
theorem d8{t:D}(h:cw σ t=some kvs)(hl:look kvs x=some e):Op c fm [t,.str x] σ e σ:=fun zz q=>(bH kvs e h hl q)
theorem er{xs:List D}(h:σ a=some (.lst xs)):vi σ .lst (.ref a):=by refine(?_:(kO σ (.ref a)).isSome=true);exact rE (iy h) rfl
theorem dm(k:Str)(l:List (Str×Str)):(cA k l).length=l.length:=by
 delta cA
 have:=(cB ((l.map (·.1)).map D.str)).length_eq
 rw[d9]at this
 simpa using this
theorem dn{x:AO}(h:σ a=none):(σ.put a x).minus (fun b=>b=a)=σ:=by
 funext b
 by_cases q:b=a
 ·exact rE (af.C2 (S:=fun b=>b=a) q) (rE q (rE h rfl))
 ·exact rE (af.CQ (S:=fun b=>b=a) q) (rE (af.CO _ _ q) rfl)
theorem ue:∀l:List Str,(l.map D.str).all tH=true
 |[]=>rfl
 |_::l=>by exact rE List.map_cons (rE List.all_cons (rE (ue l) rfl))
theorem ut(l:List D):(ei l).length=l.length:=(cB l).length_eq
theorem w8{α:Type}(f:Str→α)(l:List Str):(l.map D.str).filterMap (fun d=>match d with| .str s=>some (f s)|_=>none)=l.map f:=by
 induction l with
 |nil=>rfl
 |cons x l ih=>exact rE List.map_cons (rE List.filterMap_cons (rE ih rfl))
variable{X:af→Prop}{t:Fin 4→D}
theorem ej(p:Pg)(hi:vz σ d m t T tf tp)(hz:∀i,(T i).length<64)(hn:∀i,((T i).map (·.1)).Nodup)(h:Φ (.lst ((aJ T).map bb)) σ):aL C (n+2) (.ref 186) [d] σ Φ X:=by
 refine aL.freeze ?_
 refine' bJ p (C:=C) (n:=(n+1)) (ow:=[(90,16)]) (es:=[]) (ws:=[]) (sl:=[ofString "self",ofString "found",ofString "kind",ofString "known"]) (names:=[ofString "self"]) (fun zz=>rfl) (fun zz=>rfl) ?hp ?hb ?hs rfl ?hsc ?hnd rfl rfl (fun zz=> .nil) ?hbind (w:=?w) ?hsx ?hw (hlk:=?hlk)
 case hp=>(conv=>lhs;whnf)
 case hb=>(conv=>lhs;whnf)
 case hs=>(conv=>lhs;whnf)
 case hsc=>rfl
 case hnd=>decide
 case hlk=>decide
 case hbind=>exact fun s vs X hl=>gS (P:=fun vs=>BindsTo s _ ⟨vs,[]⟩ (List.zip _ (vs++_))) hl fun a0=>(BindsTo.of_eq rfl)
 case hsx=>infer_instance
 refine'(?_:_)
 refine gH rfl fun a ha=>?_
 refine(?_:fF _ _ _ [some d,some (.ref a),none,none] _ _)
 refine aN (c9 (aC (ac ah (ac ah (ac ah (ae ah)))) cr) (fun a q=>by cases q) rfl (by decide) ?_)
 have hl:∀i,(fh (T i)).length<64:=fun i=>by exact rE (mZ _) (hz i)
 refine dN (fun pre ξ σ'=>∀G:Prop,(∀o1 o2,ξ=[some d,some (.ref a),o1,o2]→σ'=σ.put a (.lst (pre.flatMap (uo T)))→G)→G) (fun pre e post ξ σ' Ψ he hI hn' hr=>?_) (fun ξ σ' hI=>?_) (fun zz κ=>κ _ _ rfl rfl)
 ·refine hI _ fun o1 o2 e2 e3=>?_
  subst e2 e3
  have me:e∈[D.str (ofString "value"),D.str (ofString "constructor"),D.str (ofString "type"),D.str (ofString "class")]:=by refine rE he ?_;simp
  obtain⟨k,rfl⟩:∃k,e= .str k:=by
   simp only[List.mem_cons,List.not_mem_nil,or_false]at me
   rcases me with h|h|h|h<;>exact(iE _ h)
  have hp:pre.length≤3:=by
   have:=congrArg List.length he
   simp at this;lia
  have hacc:(pre.flatMap (uo T)).length≤64*pre.length:=by
   clear he hn' hp
   induction pre with
   |nil=>simp
   |cons x pre ih=>
    refine rE List.flatMap_cons (rE List.length_append (rE List.length_cons ?_))
    have:(uo T x).length≤64:=by
     cases x<;>first|exact Nat.zero_le _|skip
     refine(?_:(List.map _ _).length≤_)
     exact rE (List.length_map _) (rE (dm _ _) (Nat.le_of_lt (hz _)))
    lia
  generalize hacc':(pre.flatMap (uo T))=acc at hacc
  have hi':=hi.put (x:= .lst acc) ha
  refine aM (i:=2) _ (Ad (aX (dW (by decide) (aa rfl) hi'.ins rfl p.meth p.keep (ae (aa rfl)) fun zz q=>kR p hi'.ins q)) (aQ (gB (dO (by decide) (aa rfl) (er (af.CN _ _ _)) (ae (tS (fun d=>match d with| .str s=>some (bb (k,s,(bR (T (aO k)) s).getD Str.empty))|_=>none) rfl
   (ef p.Do (ae (aa rfl)) fun zz q=>⟨_,_,rfl,vx (hi'.tab (aO k)),by simpa using hz _,?g1,iS (hn _),q⟩) (fun a q=>by cases q) rfl ?g2 fun e he=>?g3)) (rW (af.CN _ _ _) rfl ?g4)))) _ (hn' _ _ fun zz κ=>κ _ _ rfl ?g5).1)
  case g1=>exact rE (ue _) rfl
  case g2=>refine rE (ut _) (rE (List.length_map _) (rE (List.length_map _) ?_));have:=hz (aO k);lia
  case g3=>
   rw[d9,List.mem_map]at he
   refine aF he fun x hx q2=>?_;clear he;subst q2
   refine xE (qE (jY.mp hx)) fun f hf=>?_
   refine(?_:∀Ψ:Option D→af→Prop,Ψ (some (bb (k,x,(bR (T (aO k)) x).getD Str.empty))) _→_)
   refine rE hf ?_
   exact vG aM yS (aC (ac (aa rfl) (ac (aa rfl) (ae (aA (aa rfl) (aa rfl) (d8 (hi'.tab (aO k)) (by exact rE (bV _ _) (rE hf rfl))))))) cr)
  case g4=>
   refine rE (d9 _) (rE (w8 _ _) (rE (List.length_map _) ?_))
   have:=dm k (T (aO k))
   unfold cA at this
   rw[List.length_map]at this
   have:=hz (aO k)
   lia
  case g5=>
   refine rE (af.CR _ _ _ _) (rE List.flatMap_append (rE hacc' (rE (d9 _) (rE (w8 _ _) (rE (List.flatMap_singleton _ _) ?_)))))
   refine(?_:_=σ.put a (.lst (acc++List.map _ (cA k (T (aO k))))))
   delta cA
   exact rE List.map_map rfl
 ·refine hI _ fun o1 o2 e2 e3=>?_
  subst e2 e3
  refine bw (aV (aa rfl)) (bH (fun b=>b=a) (.lst ((aJ T).map bb)) (fun b hb=>?_) (.lst rfl (af.CN _ _ _) ?_) ?_)
  ·rw[hb,af.CN];exact fun q=>by exact sN q
  ·have e:([D.str (ofString "value"),D.str (ofString "constructor"),D.str (ofString "type"),D.str (ofString "class")].flatMap (uo T))=(aJ T).map bb:=by
    simp only[List.flatMap_cons,List.flatMap_nil,aJ,List.map_append,List.append_assoc,List.append_nil]
    rfl
   exact rE e (rk.refl _)
  ·have e:(σ.put a (.lst ([D.str (ofString "value"),D.str (ofString "constructor"),D.str (ofString "type"),D.str (ofString "class")].flatMap (uo T)))).minus (fun b=>b=a)=σ:=dn ha
   exact rE e h
end
variable{P L LL:List (Str×List ag)}{l r known H:List ag}
section
noncomputable def B9:D→Option ag
 | .tup [.str a,.str b,.str c]=>some (a,b,c)
 |_=>none
noncomputable def zV(c:ag→Bool)(d:D):Option D:=(B9 d).bind fun t=>if c t=true then some d else none
theorem qM(c:ag→Bool)(t:ag):zV c (bb t)=if c t=true then some (bb t)else none:=rfl
theorem tM(c:ag→Bool):∀l:List ag,(l.map bb).filterMap (zV c)=(l.filter c).map bb
 |[]=>rfl
 |t::l=>by
  refine rE List.map_cons (rE List.filterMap_cons (rE (qM _ _) (rE (tM c l) (rE List.filter_cons ?_))))
  cases c t<;>rfl
theorem ju{a b:D}:Op c fm [.tup [a,b,e],.int 0] σ a σ:=fun zz q=>⟨by decide,.inr (.inl (cP _ 0 _ rfl rfl rfl q))⟩
theorem iR{a b:D}:Op c fm [.tup [a,b,e],.int 1] σ b σ:=fun zz q=>⟨by decide,.inr (.inl (cP _ 1 _ rfl rfl rfl q))⟩
theorem lC{a b:D}:Op c fm [.tup [a,b,e],.int 2] σ e σ:=fun zz q=>⟨by decide,.inr (.inl (cP _ 2 _ rfl rfl rfl q))⟩
theorem dX{scope:Scope}{init:List (Option Nat)}(cc:ag→Bool)(h0:dG scope=true)(h1:Ev c wit ξ σ d σ1)(hd:∀a,d≠ .ref a)(hi:eL σ1 d=some (l.map bb))(hz:l.length≤1048576)
 (h:∀t∈l,∃ξ1,Tg c.cut wt (bb t) (bp init ξ) σ1 ξ1 σ1∧Ev c.cut wi ξ1 σ1 (cc t) σ1∧Ev c.cut we ξ1 σ1 (bb t) σ1) (ho:c.owns p=false:=by rfl):Ev c (gW p scope wit wt wi we init) ξ σ (.lst ((l.filter cc).map bb)) σ1:=by
 refine rF (tM _ _) ?_
 refine tS _ h0 h1 hd hi (by exact rE (List.length_map _) hz) (fun e he=>?_) ho
 refine aF (List.mem_map.mp he) fun t ht q2=>?_;subst q2
 refine cz (h t ht) fun ξ1 a b q=>?_
 refine rE (qM _ _) ?_
 exact Aa a b q
inductive gd where
 |none
 |all
 |some (l:List Str)
instance:Nonempty gd:=⟨.none⟩
noncomputable abbrev gU:gd→D
 | .none=> .none
 | .all=> .str (ofString "all")
 | .some l=> .lst (l.map .str)
noncomputable def bx(known:List ag):List Str→Option (List ag)
 |[]=>some []
 |n::r=>if known.filter (fun t=>decide (t.2.1=n))=[]then none else(bx known r).map (known.filter (fun t=>decide (t.2.1=n))++·)
noncomputable def bt(known:List ag):gd→Option (List ag)
 | .none=>some []
 | .all=>some known
 | .some l=>bx known l
noncomputable abbrev fo(k nm:Str)(sb:gd):D:= .ins 301 [(ofString "place",.none),(ofString "kind",.str k),(ofString "name",.str nm),(ofString "subs",gU sb)]
noncomputable abbrev av(P:List (Str×List ag)):List (Str×D):=P.map fun x=>(x.1,D.lst (x.2.map bb))
noncomputable def aI(P:List (Str×List ag))(k:Str):Option (List ag):=(P.find? fun x=>decide (x.1=k)).map (·.2)
theorem cL(P:List (Str×List ag))(k:Str):look (av P) k=(aI P k).map fun l=>D.lst (l.map bb):=by
 induction P with
 |nil=>rfl
 |cons x l ih=>
  delta look aI at*
  refine(?_:Option.map _ (List.find? _ ((x.1,D.lst (x.2.map bb))::av l))=_)
  refine rE (List.find?_cons) (rE (List.find?_cons) ?_)
  by_cases h:x.1=k
  ·simp[h]
  ·simp only[h,decide_false];exact ih
theorem gK(P:List (Str×List ag))(k:Str):(look (av P) k).getD (.lst [])= .lst (((aI P k).getD []).map bb):=by
 refine rE (cL _ _) ?_;cases aI P k<;>rfl
def dE(S:List Addr)(σ σ':af):Prop:=∀b x,b∉S→σ b=some x→σ' b=some x
theorem dE.refl(S:List Addr)(σ:af):dE S σ σ:=fun zz zz zz h=>h
theorem dE.trans{S:List Addr}(h:dE S σ σ')(k:dE S σ' Ez):dE S σ Ez:=fun b x n e=>k b x n (h b x n e)
theorem dE.put{S:List Addr}{x:AO}(h:σ a=none):dE S σ (σ.put a x):=fun b y zz e=>(af.CO _ _ (au e h)).trans e
noncomputable def nK(T:Fin 4→List (Str×Str))(t:ag):Bool:=decide (bR (T (aO t.1)) t.2.1=some t.2.2)
section
theorem aH(h:Ev c w ξ σ d σ1)(b:Bool)(hb:eF d=b):Ev c (ld w (c0 .none) .Is) ξ σ b σ1:=al h ad (by refine(?_:some (eF d)=_);exact rE hb rfl)
theorem gy{l:List D}(h:l.length≤1048576):xC σ (.lst l)=some (!l.isEmpty):=if_pos h
end
theorem ti:∀l:List Str,(l.map D.str).all (pl 7)=true
 |[]=>rfl
 |_::l=>by exact rE List.map_cons (rE List.all_cons (rE (ti l) rfl))
theorem kj(l:List Str):dq σ .Eq (.lst (l.map .str)) (.str x)=some false:=by
 exact rE (nU (by refine(?_:((l.map D.str).all (pl 7)&&true)=true);exact rE (ti _) rfl)) (rE (kh fun q=>by cases q) rfl)
theorem jO{I:List ag→Lo→af→Prop}{Φ:Fl→Lo→af→Prop}{X:Prop}{ok:Str→Prop}
 (step:∀n acc ξ σ (Ψ:Fl→Lo→af→Prop),ok n→acc.length+known.length≤B→I acc ξ σ→(known.filter (fun t=>decide (t.2.1=n))=[]→X)→
  (∀ξ' σ',known.filter (fun t=>decide (t.2.1=n))≠[]→I (acc++known.filter (fun t=>decide (t.2.1=n))) ξ' σ'→Ψ .next ξ' σ')→turn (.str n) ξ σ Ψ):∀{l:List Str} {acc:List ag} {ξ:Lo} {σ:af},(∀x∈l,ok x)→acc.length+known.length*l.length≤B→
 I acc ξ σ→(bx known l=none→X)→(∀r ξ' σ',bx known l=some r→I (acc++r) ξ' σ'→Φ .next ξ' σ')→iM turn (l.map .str) ξ σ Φ
 |[],acc,ξ,σ,_,_,hI,_,h=>h [] ξ σ rfl (by exact rE (List.append_nil _) hI)
 |n::l,acc,ξ,σ,hok,hB,hI,hX,h=>by
  have hm:known.length*(l.length+1)=known.length*l.length+known.length:=Nat.mul_succ _ _
  rw[List.length_cons,hm]at hB
  refine step n acc ξ σ _ (hok n (.head _)) (by lia) hI (fun e=>hX (if_pos e)) fun ξ' σ' hne hI'=>?_
  have e:bx known (n::l)=(bx known l).map (known.filter (fun t=>decide (t.2.1=n))++·):=if_neg hne
  have hf:(known.filter (fun t=>decide (t.2.1=n))).length≤known.length:=List.length_filter_le _ _
  refine jO step (fun x hx=>hok x (.tail _ hx)) (by refine rE List.length_append ?_;lia) hI' (fun q=>hX (by exact rE e (rE q rfl))) fun r ξ'' Ez hr Hh=>h _ ξ'' Ez (by exact rE e (rE hr rfl)) (by exact rF (List.append_assoc _ _ _) Hh)
theorem aY{l:List D}(a:Addr):D.lst l≠ .ref a:=fun q=>by cases q
theorem AM{l:List D}(a:Addr):D.tup l≠ .ref a:=fun q=>by cases q
theorem jG(h:Φ d σ):∃S d',(∀a,S a→σ a≠none)∧Fz σ S d d'∧Φ d' (σ.minus S):=
 (bH (fun zz=>False) d (fun zz q=>q.elim) (.same _) (by exact rE (show σ.minus (fun zz=>False)=σ from funext fun b=>af.CQ (S:=fun zz=>False) fun q=>q) h))
theorem sx{l:List D}(ha:σ a=none)(h:Φ (.lst l) σ):∃S d',(∀b,S b→σ.put a (.lst l) b≠none)∧Fz (σ.put a (.lst l)) S (.ref a) d'∧Φ d' ((σ.put a (.lst l)).minus S):=
 (bH (fun b=>b=a) (.lst l) (fun b hb=>by rw[hb,af.CN];exact fun q=>by exact sN q) (.lst rfl (af.CN _ _ _) (rk.refl _)) (by exact rE (dn ha) h))
variable{X:af→Prop}{t:Fin 4→D}
theorem oK(p:Pg)(r:bk C (n+2))(hi:vz σ d m t T tf tp)(hP:cw σ tp=some (av P))(hz:∀x∈P,x.2.length≤1000){k full:Str}{sb:gd}(hnm:nm.length≤1000)(hsb:∀l,sb= .some l→l.length≤1000∧∀x∈l,x.length≤1000)
 (hX:bt (((aI P full).getD []).filter (nK T)) sb=none→∀σ',dE [] σ σ'→X σ') (h:∀r,bt (((aI P full).getD []).filter (nK T)) sb=some r→Φ (.lst (r.map bb)) σ):aL C (n+3) (.ref 212) [d,fo k nm sb,.str full] σ Φ X:=by
 revert p r hi hP hz hnm hsb hX h;revert nm full;revert C n X σ d m tf tp t T P k sb Φ;apply xF
 generalize (br _ _).1.1.1.1=m,(br _ _).1.1.1.2=d,(br _ _).1.1.2.1=tp,(br _ _).1.1.2.2=tf,(br _ _).1.2.1.1=C,(br _ _).1.2.1.2=n,(br _ _).1.2.2=σ,(br _ _).2.1.1.1=Φ,(br _ _).2.1.1.2=T,(br _ _).2.1.2.1=P,(br _ _).2.1.2.2=X,(br _ _).2.2.1.1=t,(br _ _).2.2.1.2=k,(br _ _).2.2.2=sb;intro nm full p r hi hP hz hnm hsb hX h
 refine aL.freeze ?_
 refine' bJ p (C:=C) (n:=(n+2)) (ow:=[(121,12)]) (es:=[]) (ws:=[]) (sl:=[ofString "interface",ofString "told",ofString "full",ofString "parts",ofString "found",ofString "name",ofString "some"]) (names:=[ofString "interface",ofString "told",ofString "full"]) (fun zz=>rfl) (fun zz=>rfl) ?hp ?hb ?hs rfl ?hsc ?hnd rfl rfl (fun zz=> .nil) ?hbind (w:=?w) ?hsx ?hw (hlk:=?hlk)
 case hp=>(conv=>lhs;whnf)
 case hb=>(conv=>lhs;whnf)
 case hs=>(conv=>lhs;whnf)
 case hsc=>rfl
 case hnd=>decide
 case hlk=>decide
 case hbind=>exact fun s vs X hl=>jB (P:=fun vs=>BindsTo s _ ⟨vs,[]⟩ (List.zip _ (vs++_))) hl fun a0 a1 a2=>(BindsTo.of_eq rfl)
 case hsx=>infer_instance
 refine'(?_:_)
 have Ee:((aI P full).getD []).length≤1000:=by
  delta aI
  cases e:P.find? fun x=>decide (x.1=full)with
  |none=>exact Nat.zero_le _
  |some y=>exact hz y (List.mem_of_find?_eq_some e)
 refine aD (aX (dX (l:=(aI P full).getD []) (nK T) rfl (dO (by decide) (ak (aa rfl) hi.ins rfl p.attr) (.inl (by exact rE hP rfl)) (ac (aa rfl) (ae (aC bf aU))) fun zz q=>(aP _ hP (by exact rE (gK _ _) q))) aY rfl ?g1
  fun t ht=>(bP _ aM (a9 (dW (by decide) (aa rfl) hi.ins rfl p.meth p.keep (ac (aA (aa rfl) ad ju) (ac (aA (aa rfl) ad iR) (ae (aA (aa rfl) ad lC)))) fun zz q=>Bu p hi q) rfl) (aa rfl)))) ?_
 case g1=>exact Nat.le_trans Ee (by decide)
 generalize hk:((aI P full).getD []).filter (nK T)=known at*
 have hkz:known.length≤1000:=by exact rF hk (Nat.le_trans (List.length_filter_le _ _) Ee)
 cases sb with
 |none=>exact bw (bh (aH (ak (aa rfl) rfl rfl p.attr) _ rfl) (aQ (aV (aC bf aU)))) (jG (h [] rfl))
 |all=>
  refine aD (aG (aH (ak (aa rfl) rfl rfl p.attr) _ rfl) aR) ?_
  exact bw (bh (ar (al (ak (aa rfl) rfl rfl p.attr) ah (aW _ _ _)) (by decide)) (aQ (aV (aa rfl)))) (jG (h _ rfl))
 |some l=>
  refine aD (aG (aH (ak (aa rfl) rfl rfl p.attr) _ rfl) aR) ?_
  refine aD (aG (al (ak (aa rfl) rfl rfl p.attr) ah (kj l)) aR) ?_
  refine gH rfl fun a ha=>?_
  refine aN (c9 (ak (aa rfl) rfl rfl p.attr) aY rfl (by refine rE (List.length_map _) ?_;have:=(hsb l rfl).1;lia) ?_)
  refine xA (hsb l rfl) fun hl1 hl2=>?_
  refine jO (X:=∀σ',dE [] σ σ'→X σ') (B:=1000000) (ok:=fun x=>x.length≤1000) (I:=fun acc ξ σ'=>∀G:Prop,(∀o1 o2,ξ=[some d,some (fo k nm (.some l)),some (.str full),some (.lst (known.map bb)),some (.ref a),o1,o2]→σ'=σ.put a (.lst (acc.map bb))→G)→G) (fun x acc ξ σ' Ψ Im hb hI hx hn=>?_) (acc:=[]) hl2 ?_ (fun zz κ=>κ _ _ rfl rfl) hX fun r ξ' σ' hr hI=>?_
  ·refine hI _ fun o1 o2 e2 e3=>?_
   subst e2 e3
   refine aM (i:=5) _ (aD (aX (dX (l:=known) (fun t=>decide (t.2.1=x)) rfl (aa rfl) aY rfl (by lia) fun t ht=>(bP _ aM (al (aA (aa rfl) ad iR) (aa rfl) (aW _ _ _)) (aa rfl)))) ?_)
   have hfz:(known.filter fun t=>decide (t.2.1=x)).length≤known.length:=List.length_filter_le _ _
   by_cases hf:(known.filter fun t=>decide (t.2.1=x))=[]
   ·refine aN (gI (ar (dI (a9 (aa rfl) (gy (by refine rE (List.length_map _) ?_;lia)))) (by exact rE hf rfl)) (lr fun Ψ=>iw (bk.at (c:=⟨C,n+2,X,[(121,12)]⟩) r) (ac (aA (aA (ak (aa rfl) rfl rfl p.attr) ah (bz ?_)) (aa rfl) (bz ?_)) (ae (ak (aa rfl) rfl rfl p.attr))) (hx hf _ (dE.put ha))))
    ·have:(ofString " has no part ").length=13:=by decide+kernel
     lia
    ·have:(ofString " has no part ").length=13:=by decide+kernel
     refine rE (Str.length_append _ _) ?_;lia
   ·refine aD (aG (ar (dI (a9 (aa rfl) (gy (by refine rE (List.length_map _) ?_;lia)))) ?_) aR) ?_
    ·cases e:known.filter fun t=>decide (t.2.1=x)with
     |nil=>exact absurd e hf
     |cons _ _=>rfl
    ·refine aD (gB (dO (by decide) (aa rfl) (er (af.CN _ _ _)) (ae (aa rfl)) (rW (af.CN _ _ _) rfl (by refine rE (List.length_map _) (rE (List.length_map _) ?_);lia)))) ?_
     refine rE (af.CR _ _ _ _) (rF List.map_append ?_)
     exact hn _ _ hf fun zz κ=>κ _ _ rfl rfl
  ·have:=Nat.mul_le_mul hkz hl1
   simpa using this
  ·refine hI _ fun o1 o2 e2 e3=>?_
   subst e2 e3
   exact bw (aV (aa rfl)) (sx ha (h r hr))
end
variable{sb:gd}
section
section
set_option tactic.hygienic true in
theorem vw{r:Addr×List (Str×D)}(h:du σ d=some r)(E:dE [] σ σ'):du σ' d=some r:=by
 cases d<;>first|exact h|skip
 rename_i b
 delta du at h⊢
 dsimp only at h⊢
 refine oC (o:=σ b) (fun e=>?_) fun ao e=>?_
 ·rw[e]at h;exact nS h
 ·skip
  rw[e]at h
  refine rE (E b ao (fun q=>by exact nM q) e) ?_
  cases ao<;>first|(exact nS h;done)|skip
  rename_i C da
  dsimp only at h⊢
  refine oC (o:=σ da) (fun e2=>?_) fun IQ e2=>?_
  ·rw[e2]at h;exact nS h
  ·refine rE (E da IQ (fun q=>by exact nM q) e2) ?_;rw[e2]at h;exact h
set_option tactic.hygienic true in
theorem mA{r:List (Str×D)}(h:cw σ d=some r)(E:dE [] σ σ'):cw σ' d=some r:=by
 cases d<;>first|exact h|skip
 rename_i b
 delta cw at h⊢
 dsimp only at h⊢
 refine oC (o:=σ b) (fun e=>?_) fun ao e=>?_
 ·rw[e]at h;exact nS h
 ·refine rE (E b ao (fun q=>by exact nM q) e) ?_;rw[e]at h;exact h
theorem vz.ext{t:Fin 4→D}(h:vz σ d m t T tf tp)(E:dE [] σ σ'):vz σ' d m t T tf tp:=⟨vw h.ins E,fun i=>mA (h.tab i) E⟩
theorem ny(E:dE [] σ σ'):σ'.minus (fun b=>σ b=none∧σ' b≠none)=σ:=by
 funext b
 refine oE (o:=σ b) (fun x e=>?_) fun e=>?_
 ·exact rE (af.CQ (S:=fun b=>σ b=none∧σ' b≠none) fun q=>by rw[e]at q;exact sN q.1) (E b x (fun q=>by exact nM q) e)
 ·skip
  by_cases q:σ' b=none
  ·exact rE (af.CQ (S:=fun b=>σ b=none∧σ' b≠none) fun h=>h.2 q) q
  ·exact af.C2 (S:=fun b=>σ b=none∧σ' b≠none) ⟨e,q⟩
theorem AS{l:List D}(E:dE [] σ σ')(ha:σ' a=some (.lst l))(hn:σ a=none)(h:Φ (.lst l) σ):∃S d',(∀b,S b→σ' b≠none)∧Fz σ' S (.ref a) d'∧Φ d' (σ'.minus S):=
 (bH (fun b=>σ b=none∧σ' b≠none) (.lst l) (fun zz h=>h.2) (.lst ⟨hn,by exact rE ha (fun q=>by exact sN q)⟩ ha (rk.refl _)) (by exact rE (ny E) h))
end
section
theorem xq{t:WC}{Φ:Fl→Lo→af→Prop}(ht:Ev c t ξ σ true σ1)(h:bj wa tt c ξ σ1 Φ):bj (oq t wa wb) tt c ξ σ Φ:=ht _ (by exact rE (if_pos rfl) h)
theorem xr{t:WC}{Φ:Fl→Lo→af→Prop}(ht:Ev c t ξ σ false σ1)(h:bj wb tt c ξ σ1 Φ):bj (oq t wa wb) tt c ξ σ Φ:=ht _ (by exact rE (if_neg (by decide)) h)
theorem uc{b:Pos}{Φ:Fl→Lo→af→Prop}(hb:c.owns b=true)(h1:Ev c ws ξ σ ds σ1)(hz:ds.length≤1048576)(h:∀a,σ1 a=none→Φ .next (ξ.set i (some (.ref a))) (σ1.put a (.lst ds))):bj (rn ws (r6 b)) (c8 i) c ξ σ Φ:=rY (Φ:=fun d σ2=>Φ .next (ξ.set i (some d)) σ2) h1 hb hz h
theorem BZ{b:Pos}{xs:List D}(hb:c.owns b=true)(h1:Ev c wa ξ σ (.ref a) σ1)(h2:Ev c wb ξ σ1 e σ2)(hd:σ2 a=some (.lst xs))(he:bg σ2 e=some ys)(hz:xs.length+ys.length≤1048576)
 (h:∀a,σ2 a=none→Φ (.ref a) (σ2.put a (.lst (xs++ys)))):w2 wa wb (eT b .Add) c ξ σ Φ:=h1 _ (h2 _ (by delta eT;exact rE hb (fP _ _ rfl (.inr (pA rfl xs ys (dD hd) he (by exact rE List.length_append hz) h)))))
end
theorem dz{w1 w2:WS}{Φ:Fl→Lo→af→Prop}(I:Lo→af→Prop)(h1:∀Ψ:Fl→Lo→af→Prop,(∀ξ1 σ1,I ξ1 σ1→Ψ .next ξ1 σ1)→w1 c ξ σ Ψ)(h2:∀ξ1 σ1,I ξ1 σ1→w2 c ξ1 σ1 Φ):fF w1 w2 c ξ σ Φ:=h1 _ h2
theorem yO{k1 k2:Str}{St:Nat→List ag→Lo→af→Prop}{f:Str→Option (List ag)}{X:Prop}{Φ:Fl→Lo→af→Prop}
 (step:∀k i l ξ σ (Ψ:Fl→Lo→af→Prop),i≤1→St i l ξ σ→(f k=none→X)→(∀l1 ξ1 σ1,f k=some l1→St (i+1) (l++l1) ξ1 σ1→Ψ .next ξ1 σ1)→turn (.str k) ξ σ Ψ)
 (h0:St 0 [] ξ σ) (hX:f k1=none∨(∃a,f k1=some a)∧f k2=none→X) (h:∀l1 l2 ξ σ,f k1=some l1→f k2=some l2→St 2 (l1++l2) ξ σ→Φ .next ξ σ):iM turn [.str k1,.str k2] ξ σ Φ:=
 step k1 0 [] ξ σ _ (by decide) h0 (fun e=>hX (.inl e)) fun l1 ξ1 σ1 e1 s1=>step k2 1 l1 ξ1 σ1 _ (by decide) s1 (fun e=>hX (.inr ⟨⟨l1,e1⟩,e⟩)) fun l2 ξ2 σ2 e2 s2=>h l1 l2 ξ2 σ2 e1 e2 s2
theorem A0{wc:WE}{b1 b2:Pos}{xs:List D}(hb:c.owns b1=true)(hb':c.owns b2=true)(h1:Ev c wa ξ σ (.ref a) σ1)(h2:Ev c wb ξ σ1 e σ2)(hd:σ2 a=some (.lst xs))(he:bg σ2 e=some ys)
 (hz:xs.length+ys.length≤1048576) (h:∀a1,σ2 a1=none→wc c ξ (σ2.put a1 (.lst (xs++ys))) fun e' σ3=>yB true .Add [.ref a1,e'] σ3 Φ):
 w2 (w2 wa wb (eT b1 .Add)) wc (eT b2 .Add) c ξ σ Φ:=by
 refine B8 (BZ hb h1 h2 hd he hz fun a ha=>?_)
 have:=h a ha
 delta eT
 refine rE hb' ?_
 exact this
theorem hU:∀{l:List Str} {r:List ag},bx known l=some r→r.length≤known.length*l.length
 |[],r,h=>by(replace h:=sI h;subst h);exact Nat.zero_le _
 |n::l,r,h=>by
  unfold bx at h
  split at h
  ·exact nS h
  ·refine aF (Option.map_eq_some_iff.mp h) fun r' h' q2=>?_;subst q2
   have:=hU h'
   have hf:(known.filter (fun t=>decide (t.2.1=n))).length≤known.length:=List.length_filter_le _ _
   refine rE List.length_append (rE List.length_cons (rE (Nat.mul_succ _ _) ?_));lia
theorem lm(hk:known.length≤100)(hs:∀l,sb= .some l→l.length≤100)(h:bt known sb=some r):r.length≤10000:=by
 cases sb with
 |none=>(replace h:=sI h;subst h);exact Nat.zero_le _
 |all=>(replace h:=sI h;subst h);exact Nat.le_trans hk (by decide)
 |some l=>exact Nat.le_trans (hU h) (Nat.mul_le_mul hk (hs l rfl))
theorem xM{l:List D}(h:σ a=some (.lst l))(hz:l.length≤1048576):xC σ (.ref a)=some (!l.isEmpty):=by
 have e:xC σ (.ref a)=(match bg σ (.ref a)with|some ds=>if ds.length≤1048576 then some (!ds.isEmpty)else none|none=>none):=rfl
 exact rE e (rE (dD h) (if_pos hz))
theorem eR(h:cw σ e=some kvs):dq σ .In (.str x) e=some (look kvs x).isSome:=by
 refine(?_:kY σ (.str x) e=_)
 delta kY;exact rE h rfl
theorem jH(h:Ev c w ξ σ d σ1)(b:Bool)(hb:(!eF d)=b):Ev c (ld w (c0 .none) .IsNot) ξ σ b σ1:=al h ad (by refine(?_:some (!eF d)=_);exact rE hb rfl)
noncomputable def ch(T:Fin 4→List (Str×Str))(nm:Str):List ag:=match bR (T 1) nm with
 |some f=>[(ofString "constructor",nm,f)]
 |none=>[]
noncomputable def gY(T:Fin 4→List (Str×Str))(nm:Str):List ag:=match bR (T 0) nm with
 |some f=>[(ofString "value",nm,f)]
 |none=>[]
noncomputable def eq(T:Fin 4→List (Str×Str))(P:List (Str×List ag))(full:Str):List ag:=((aI P full).getD []).filter (nK T)
noncomputable def cR(T:Fin 4→List (Str×Str))(P:List (Str×List ag))(sb:gd)(nm k:Str):Option (List ag):=match bR (T (aO k)) nm with
 |none=>some []
 |some full=>(bt (eq T P full) sb).map ((k,nm,full)::·)
noncomputable def lR:gd→Bool
 | .none=>true
 |_=>false
noncomputable def nR(hid:Bool)(l:List ag):Option (List ag):=if l=[]∧hid=false then none else some l
noncomputable def eU(T:Fin 4→List (Str×Str))(P:List (Str×List ag))(hid:Bool)(k nm:Str)(sb:gd):Option (List ag):=
 if k=ofString "value"then nR hid (gY T nm++if hid=true then ch T nm else[])
 else(cR T P sb nm (ofString "type")).bind fun a=>(cR T P sb nm (ofString "class")).bind fun b=>nR hid (a++b++if(hid&&lR sb)=true then ch T nm else[])
variable{X:af→Prop}{t:Fin 4→D}
theorem ym(p:Pg)(r:bk C (n+2))(hi:vz σ d (.str md) t T tf tp)(hmd:md.length≤1000)(hP:cw σ tp=some (av P))(hz:∀x∈P,x.2.length≤100){k:Str}(hnm:nm.length≤1000)(hsb:∀l,sb= .some l→l.length≤100∧∀x∈l,x.length≤1000)
 (hX:eU T P hid k nm sb=none→∀σ',dE [] σ σ'→X σ') (h:∀r,eU T P hid k nm sb=some r→Φ (.lst (r.map bb)) σ):aL C (n+4) (.ref 207) [d,fo k nm sb,.bool hid] σ Φ X:=by
 revert p r hi hmd hP hz hnm hsb hX h;revert nm hid;revert C n X σ d tf tp t T P md k sb Φ;apply xF
 generalize (br _ _).1.1.1.1=d,(br _ _).1.1.1.2=tp,(br _ _).1.1.2.1=tf,(br _ _).1.1.2.2=C,(br _ _).1.2.1.1=md,(br _ _).1.2.1.2=n,(br _ _).1.2.2=σ,(br _ _).2.1.1.1=Φ,(br _ _).2.1.1.2=T,(br _ _).2.1.2.1=P,(br _ _).2.1.2.2=sb,(br _ _).2.2.1.1=X,(br _ _).2.2.1.2=t,(br _ _).2.2.2=k;intro hid nm p r hi hmd hP hz hnm hsb hX h
 refine aL.freeze ?_
 refine' bJ p (C:=C) (n:=(n+3)) (ow:=[(105,16),(101,16),(101,40),(109,24)]) (es:=[]) (ws:=[]) (sl:=[ofString "interface",ofString "told",ofString "is_hiding",ofString "full",ofString "found",ofString "kind"]) (names:=[ofString "interface",ofString "told",ofString "is_hiding"]) (fun zz=>rfl) (fun zz=>rfl) ?hp ?hb ?hs rfl ?hsc ?hnd rfl rfl (fun zz=> .nil) ?hbind (w:=?w) ?hsx ?hw (hlk:=?hlk)
 case hp=>(conv=>lhs;whnf)
 case hb=>(conv=>lhs;whnf)
 case hs=>(conv=>lhs;whnf)
 case hsc=>rfl
 case hnd=>decide
 case hlk=>decide
 case hbind=>exact fun s vs X hl=>jB (P:=fun vs=>BindsTo s _ ⟨vs,[]⟩ (List.zip _ (vs++_))) hl fun a0 a1 a2=>(BindsTo.of_eq rfl)
 case hsx=>infer_instance
 refine'(?_:_)
 have hns:du σ (fo k nm sb)=some (301,[(ofString "place",.none),(ofString "kind",.str k),(ofString "name",.str nm),(ofString "subs",gU sb)]):=rfl
 refine dz (fun ξ1 σ1=>∃a l o3 o5,ξ1=[some d,some (fo k nm sb),some (.bool hid),o3,some (.ref a),o5]∧dE [] σ σ1∧σ a=none∧σ1 a=some (.lst (l.map bb))∧l.length≤1000000∧eU T P hid k nm sb=nR hid l) (fun Ψ hΨ=>?_) fun ξ1 σ1 hI=>?_
 ·by_cases hk:k=ofString "value"
  ·refine gI (ar (al (ak (aa rfl) rfl rfl p.attr) ah (aW _ _ _)) (by simpa using hk)) ?_
   refine aD (aX (dO (by decide) (ak (aa rfl) hi.ins rfl p.attr) (.inl (by exact rE (hi.tab _) rfl)) (ae (ak (aa rfl) rfl rfl p.attr)) fun zz q=>(aP _ (hi.tab 0) (by exact rE (bV _ _) q)))) ?_
   refine dz (fun ξ1 σ1=>∃a o3,ξ1=[some d,some (fo k nm sb),some (.bool hid),o3,some (.ref a),none]∧dE [] σ σ1∧σ a=none∧σ1 a=some (.lst ((gY T nm).map bb))) (fun Ψ hΨ=>?_) fun ξ1 σ1 hI=>?_
   ·refine oD (o:=bR (T 0) nm) (fun e=>?_) fun f e=>?_
    ·exact xq (aH (aa rfl) _ rfl) (uc rfl bf (by decide) fun a ha=>hΨ _ _ (cQ a _ rfl (dE.put ha) ha (by refine rE (af.CN _ _ _) ?_;delta gY;exact rE e rfl)))
    ·exact xr (aH (aa rfl) _ rfl) (uc rfl (ae (aC (ac ah (ac (ak (aa rfl) rfl rfl p.attr) (ae (aa rfl)))) cr)) (Nat.le_of_ble_eq_true rfl) fun a ha=>hΨ _ _ (cQ a _ rfl (dE.put ha) ha (by refine rE (af.CN _ _ _) ?_;delta gY;exact rE e rfl)))
   ·refine cy hI fun a o3 q2 E ha hl=>?_;clear hI;subst q2
    have hi':=hi.ext E
    have hv1:(gY T nm).length≤1:=by delta gY;split<;>simp
    have fin:∀a l σ1 o3,dE [] σ σ1→σ a=none→σ1 a=some (.lst (l.map bb))→l=(gY T nm++if hid=true then ch T nm else[])→Ψ .next [some d,some (fo k nm sb),some (.bool hid),o3,some (.ref a),none] σ1:=fun a l σ1 o3 E ha hl e=>
     hΨ _ _ ⟨a,l,o3,_,rfl,E,ha,hl,by refine rE e (rE List.length_append ?_);have:(if hid=true then ch T nm else[]).length≤1:=by(split<;>first|simp|skip);delta ch;split<;>simp
                                     lia,by refine rE e ?_;delta eU;exact rE (if_pos hk) rfl⟩
    refine bF (b:=hid) (fun hh=>?_) fun hh=>?_
    ·skip
     subst hh
     exact(aQ (aG (cH (a9 (aa rfl) rfl)) aR)) _ (fin a _ σ1 _ E ha hl (by simp))
    ·skip
     subst hh
     refine oC (o:=bR (T 1) nm) (fun ec=>?_) fun f ec=>?_
     ·exact(aQ (aG (bq (a9 (aa rfl) rfl) (cH (ar (al (ak (aa rfl) rfl rfl p.attr) (ak (aa rfl) hi'.ins rfl p.attr) (eR (hi'.tab 1))) (by exact rE (bV _ _) (rE ec rfl))))) aR)) _ (fin a _ σ1 _ E ha hl (by delta ch;refine rE ec ?_;simp))
     ·skip
      refine(aQ (bh (bq (a9 (aa rfl) rfl) (bq (ar (al (ak (aa rfl) rfl rfl p.attr) (ak (aa rfl) hi'.ins rfl p.attr) (eR (hi'.tab 1))) (by exact rE (bV _ _) (rE ec rfl))) db))
       (aQ (gB (dO (by decide) (aa rfl) (er hl) (ae (aC (ac ah (ac (ak (aa rfl) rfl rfl p.attr) (ae (aA (ak (aa rfl) hi'.ins rfl p.attr) (ak (aa rfl) rfl rfl p.attr) (d8 (hi'.tab 1) (by exact rE (bV _ _) (rE ec rfl))))))) cr)) (lD hl (by refine rE (List.length_map _) ?_;lia))))))) _ (fin a (gY T nm++ch T nm) _ _ (fun b x n e=>(af.CO _ _ (fun q=>by rw[q,ha]at e;exact nS e)).trans (E b x n e)) ha ?_ (by simp))
      refine rE (af.CN _ _ _) (rE List.map_append ?_)
      delta ch;exact rE ec rfl
  ·refine qJ (ar (al (ak (aa rfl) rfl rfl p.attr) ah (aW _ _ _)) (by simpa using hk)) ?_
   refine gH rfl fun a0 ha0=>?_
   have hkn:∀full,(eq T P full).length≤100:=fun full=>by
    refine Nat.le_trans (List.length_filter_le _ _) ?_
    delta aI
    cases e:P.find? fun x=>decide (x.1=full)with
    |none=>exact Nat.zero_le _
    |some y=>exact hz y (List.mem_of_find?_eq_some e)
   refine aN (c9 (aC (ac ah (ae ah)) cr) AM rfl (by decide) (yO (St:=fun i l ξ σ1=>∃a o3 o5,ξ=[some d,some (fo k nm sb),some (.bool hid),o3,some (.ref a),o5]∧dE [] σ σ1∧σ a=none∧σ1 a=some (.lst (l.map bb))∧l.length≤10001*i)
    (f:=cR T P sb nm) (X:=∀σ',dE [] σ σ'→X σ') (fun kd i l ξ σ1 Ψ hi2 hS hx hn=>?_) (cV a0 _ _ rfl (dE.put ha0) ha0 (af.CN _ _ _) (Nat.zero_le _)) ?_ fun l1 l2 ξ σ1 e1 e2 hS=>?_))
   ·refine cp hS fun a o3 o5 q3 E ha CU=>xA CU fun hl hlz=>?_;clear CU;clear hS;subst q3
    have hi':=hi.ext E
    refine aM (i:=5) _ (aD (aX (dO (by decide) (dW (by decide) (aa rfl) hi'.ins rfl p.meth p.keep (ae (aa rfl)) fun zz q=>kR p hi'.ins q) (.inl (by exact rE (hi'.tab _) rfl)) (ae (ak (aa rfl) rfl rfl p.attr)) fun zz q=>(aP _ (hi'.tab (aO kd)) (by exact rE (bV _ _) q)))) ?_)
    have hd:cR T P sb nm kd=match bR (T (aO kd)) nm with|none=>some []|some full=>(bt (eq T P full) sb).map ((kd,nm,full)::·):=rfl
    refine oD (o:=bR (T (aO kd)) nm) (fun el=>?_) fun full el=>?_
    ·skip
     rw[el]at hd
     exact(aQ (aG (jH (aa rfl) _ rfl) aR)) _ (hn [] _ _ hd (cV a _ _ rfl E ha (by exact rE (List.append_nil _) hl) (by refine rE (List.append_nil _) ?_;lia)))
    ·skip
     rw[el]at hd
     dsimp only at hd
     refine aN (gI (jH (aa rfl) _ rfl) (aN (A0 rfl rfl (aa rfl) (aC (ae (aC (ac (aa rfl) (ac (ak (aa rfl) rfl rfl p.attr) (ae (aa rfl)))) cr)) aU) hl rfl (by refine rE (List.length_map _) ?_;simp only[List.length_cons,List.length_nil];lia) fun a1 ha1=>?_)))
     have E1:dE [] σ (σ1.put a1 (.lst (l.map bb++[bb (kd,nm,full)]))):=E.trans (dE.put ha1)
     have na1:σ a1=none:=by
      refine oD (o:=σ a1) (fun q=>?_) fun x q=>?_
      ·rfl
      ·rw[E a1 x (fun q=>by exact nM q) q]at ha1;exact sN ha1
     refine(cf (by decide+kernel) (.ref 212) p.DS p.keep (ac (aa rfl) (ac (aa rfl) (ae (aa rfl))) _ (oK p r (hi.ext E1) (mA hP E1) (fun x hx=>Nat.le_trans (hz x hx) (by decide)) hnm (fun l hl=>⟨Nat.le_trans (hsb l hl).1 (by decide),(hsb l hl).2⟩) (fun q σ' E'=>hx (by exact rE hd (congrArg _ q)) σ' (E1.trans E')) fun rr hr=>?_)))
     have hrl:=lm (hkn full) (fun l hl=>(hsb l hl).1) hr
     refine(fP _ _ rfl (.inr (pA rfl _ (rr.map bb) (dD (af.CN _ _ _)) rfl (by simp only[List.length_append,List.length_map,List.length_cons,List.length_nil];lia) (fun a2 ha2=>?_))))
     have HB:=(af.CZ ha2).2
     refine hn ((kd,nm,full)::rr) _ _ (by exact rE hd (congrArg _ hr)) (cV a2 _ _ rfl (E1.trans (dE.put ha2)) ?_ ?_ ?_)
     ·refine oD (o:=σ a2) (fun q=>?_) fun x q=>?_
      ·rfl
      ·rw[E a2 x (fun q=>by exact nM q) q]at HB;exact sN HB
     ·refine rE (af.CN _ _ _) (rE List.map_append ?_);simp
     ·refine rE List.length_append (rE List.length_cons ?_);lia
   ·rintro(q|⟨⟨a,q1⟩,q2⟩)
    ·exact hX (by delta eU;exact rE (if_neg hk) (rE q rfl))
    ·exact hX (by delta eU;exact rE (if_neg hk) (rE q1 (rE q2 rfl)))
   ·refine cp hS fun a o3 o5 q3 E ha CU=>xA CU fun hl hlz=>?_;clear CU;clear hS;subst q3
    have hi':=hi.ext E
    have hnd:eU T P hid k nm sb=nR hid (l1++l2++if(hid&&lR sb)=true then ch T nm else[]):=by delta eU;exact rE (if_neg hk) (rE e1 (rE e2 rfl))
    have hc1:(if(hid&&lR sb)=true then ch T nm else[]).length≤1:=by
     split
     ·delta ch;split<;>simp
     ·simp
    have fin:∀σ1 l,dE [] σ σ1→σ1 a=some (.lst (l.map bb))→l=(l1++l2++if(hid&&lR sb)=true then ch T nm else[])→Ψ .next [some d,some (fo k nm sb),some (.bool hid),o3,some (.ref a),o5] σ1:=fun σ1 l E hl e=>
     hΨ _ _ (dp a l o3 _ rfl E ha hl (by refine rE e (rE List.length_append ?_);lia) (by exact rE e hnd))
    refine bF (b:=hid) (fun hh=>?_) fun hh=>?_
    ·skip
     subst hh
     exact(aQ (aG (cH (a9 (aa rfl) rfl)) aR)) _ (fin _ _ E hl (by simp))
    ·skip
     subst hh
     refine bF (b:=lR sb) (fun hs=>?_) fun hs=>?_
     ·skip
      rw[hs]at fin
      exact(aQ (aG (bq (a9 (aa rfl) rfl) (cH (aH (ak (aa rfl) rfl rfl p.attr) _ (by cases sb<;>first|rfl|exact tF hs)))) aR)) _ (fin _ _ E hl (by simp))
     ·skip
      rw[hs]at fin
      have hsn:eF (gU sb)=true:=by cases sb<;>first|rfl|exact fT hs
      refine oC (o:=bR (T 1) nm) (fun ec=>?_) fun f ec=>?_
      ·exact(aQ (aG (bq (a9 (aa rfl) rfl) (bq (aH (ak (aa rfl) rfl rfl p.attr) _ hsn) (cH (ar (al (ak (aa rfl) rfl rfl p.attr) (ak (aa rfl) hi'.ins rfl p.attr) (eR (hi'.tab 1))) (by exact rE (bV _ _) (rE ec rfl)))))) aR)) _ (fin _ _ E hl (by delta ch;refine rE ec ?_;simp))
      ·skip
       refine(aQ (bh (bq (a9 (aa rfl) rfl) (bq (aH (ak (aa rfl) rfl rfl p.attr) _ hsn) (bq (ar (al (ak (aa rfl) rfl rfl p.attr) (ak (aa rfl) hi'.ins rfl p.attr) (eR (hi'.tab 1))) (by exact rE (bV _ _) (rE ec rfl))) db)))
        (aQ (gB (dO (by decide) (aa rfl) (er hl) (ae (aC (ac ah (ac (ak (aa rfl) rfl rfl p.attr) (ae (aA (ak (aa rfl) hi'.ins rfl p.attr) (ak (aa rfl) rfl rfl p.attr) (d8 (hi'.tab 1) (by exact rE (bV _ _) (rE ec rfl))))))) cr)) (lD hl (by refine rE (List.length_map _) ?_;lia))))))) _ (fin _ (l1++l2++ch T nm) (fun b x n e=>(af.CO _ _ (fun q=>by rw[q,ha]at e;exact nS e)).trans (E b x n e)) ?_ (by simp))
       have ee:ch T nm=[(ofString "constructor",nm,f)]:=by delta ch;exact rE ec rfl
       exact rE (af.CN _ _ _) (rE ee (rE (List.map_append (l₁:=l1++l2)) rfl))
 ·refine fD hI fun a l o3 o5 q4 E ha hl hlz hnm'=>?_;clear hI;subst q4
  have hi':=hi.ext E
  have htr:=xM hl (by refine rE (List.length_map _) ?_;lia)
  by_cases he:l=[]∧hid=false
  ·refine xA he fun q0 q1=>?_;clear he;subst q0 q1
   have e1:(ofString " does not export ").length=17:=by decide+kernel
   exact aN (gI (bq (ar (dI (a9 (aa rfl) htr)) rfl) (bq (ar (dI (a9 (b:=false) (aa rfl) rfl)) rfl) db)) (lr fun Ψ=>iw (bk.at (c:=⟨C,n+3,X,_⟩) (r.up (by refine(?_:n+2≤n+3);lia))) (ac (aA (aA (ak (aa rfl) hi'.ins rfl p.attr) ah (bz (by lia))) (ak (aa rfl) rfl rfl p.attr) (bz (by refine rE (Str.length_append _ _) ?_;lia))) (ae (ak (aa rfl) rfl rfl p.attr))) (hX (hnm'.trans (if_pos ⟨rfl,rfl⟩)) _ E)))
  ·have hr:Φ (.lst (l.map bb)) σ:=h l (hnm'.trans (if_neg he))
   refine aD (aG (b:=vS) ?_ aR) (bw (aV (aa rfl)) (AS E hl ha hr))
   cases l with
   |cons x l=>exact cH (ar (dI (a9 (aa rfl) htr)) rfl)
   |nil=>
    cases hid with
    |false=>exact absurd ⟨rfl,rfl⟩ he
    |true=>exact bq (ar (dI (a9 (aa rfl) htr)) rfl) (cH (ar (dI (a9 (b:=true) (aa rfl) rfl)) rfl))
end
section
noncomputable def bX{α:Type}(f:α→Option (List ag)):List α→Option (List ag)
 |[]=>some []
 |x::r=>(f x).bind fun a=>(bX f r).map (a++·)
theorem tK{α:Type}{enc:α→D}{f:α→Option (List ag)}{St:Nat→List ag→Lo→af→Prop}{ok:α→Prop}{X:Prop}{N:Nat}{Φ:Fl→Lo→af→Prop}
 (step:∀x i l ξ σ (Ψ:Fl→Lo→af→Prop),ok x→i<N→St i l ξ σ→(f x=none→X)→(∀l1 ξ1 σ1,f x=some l1→St (i+1) (l++l1) ξ1 σ1→Ψ .next ξ1 σ1)→turn (enc x) ξ σ Ψ):
 ∀{xs:List α} {i:Nat} {l:List ag} {ξ:Lo} {σ:af},(∀x∈xs,ok x)→i+xs.length≤N→St i l ξ σ→(bX f xs=none→X)→(∀r ξ σ,bX f xs=some r→St (i+xs.length) (l++r) ξ σ→Φ .next ξ σ)→iM turn (xs.map enc) ξ σ Φ
 |[],i,l,ξ,σ,_,_,hS,_,h=>h [] ξ σ rfl (by exact rE (List.append_nil _) hS)
 |x::xs,i,l,ξ,σ,hok,hN,hS,hX,h=>by
  rw[List.length_cons]at hN
  refine step x i l ξ σ _ (hok x (.head _)) (by lia) hS (fun e=>hX (by unfold bX;exact rE e rfl)) fun l1 ξ1 σ1 e hS1=>?_
  refine tK step (fun y hy=>hok y (.tail _ hy)) (by lia) hS1 (fun q=>hX (by unfold bX;exact rE e (rE q rfl))) fun r ξ2 σ2 hr hS2=>h (l1++r) ξ2 σ2 (by unfold bX;exact rE e (rE hr rfl)) ?_
  exact rE List.length_cons (rE (show i+(xs.length+1)=i+1+xs.length by lia) (rF (List.append_assoc _ _ _) hS2))
abbrev cC:=Str×Str×gd
noncomputable abbrev jn(t:cC):D:=fo t.1 t.2.1 t.2.2
structure kx(t:cC):Prop where
 nm:t.2.1.length≤1000
 sb:∀l,t.2.2= .some l→l.length≤100∧∀x∈l,x.length≤1000
noncomputable def gl(T:Fin 4→List (Str×Str))(P:List (Str×List ag))(hid:Bool):Option (List cC)→Option (List ag)
 |none=>some (aJ T)
 |some ts=>(bX (fun t=>eU T P hid t.1 t.2.1 t.2.2) ts).map fun found=>if hid=true then(aJ T).filter fun t=>decide (t∉found)else found
noncomputable abbrev AQ(names:Option (List cC))(hid:Bool)(o1 o2 o3:D):D:= .ins 328 [(ofString "place",.none),(ofString "module",o1),(ofString "names",match names with|some ts=> .lst (ts.map jn)|none=> .none),(ofString "hiding",.bool hid),(ofString "qualified",o2),(ofString "alias",o3)]
theorem uZ{k:Str}(hz:∀x∈P,x.2.length≤100)(hs:∀l,sb= .some l→l.length≤100)(h:eU T P hid k nm sb=some r):r.length≤20003:=by
 have c1:(ch T nm).length≤1:=by delta ch;split<;>simp
 have v1:(gY T nm).length≤1:=by delta gY;split<;>simp
 have en:∀{l r:List ag},nR hid l=some r→r=l:=fun h=>by delta nR at h;split at h<;>cases h;rfl
 have hkn:∀full,(eq T P full).length≤100:=fun full=>by
  refine Nat.le_trans (List.length_filter_le _ _) ?_
  delta aI
  cases e:P.find? fun x=>decide (x.1=full)with
  |none=>exact Nat.zero_le _
  |some y=>exact hz y (List.mem_of_find?_eq_some e)
 have hd:∀{kd r},cR T P sb nm kd=some r→r.length≤10001:=fun{kd r} h=>by
  delta cR at h
  split at h
  ·(replace h:=sI h;subst h);exact Nat.zero_le _
  ·refine aF (Option.map_eq_some_iff.mp h) fun r' h' q2=>?_;subst q2
   have:=lm (hkn _) hs h'
   refine rE List.length_cons ?_;lia
 delta eU at h
 split at h
 ·refine rE (en h) (rE List.length_append ?_)
  have:(if hid=true then ch T nm else[]).length≤1:=by split<;>first|exact c1|exact Nat.zero_le _
  lia
 ·refine aF (Option.bind_eq_some_iff.mp h) fun a ha h=>?_
  refine aF (Option.bind_eq_some_iff.mp h) fun b hb h=>?_
  have:=hd ha
  have:=hd hb
  refine rE (en h) (rE List.length_append (rE List.length_append ?_))
  have:(if(hid&&lR sb)=true then ch T nm else[]).length≤1:=by split<;>first|exact c1|exact Nat.zero_le _
  lia
theorem Ay(l:List ag):(l.map bb).all (pl 8)=true:=by
 refine rE (propext List.all_eq_true) ?_;intro x hx;refine aF (List.mem_map.mp hx) fun t zz q2=>?_;subst q2;rfl
theorem oA{a b:ag}(h:bb a=bb b):a=b:=by
 obtain⟨a1,a2,a3⟩:=a
 obtain⟨b1,b2,b3⟩:=b
 simpa[bb]using h
theorem oZ(t:ag)(l:List ag):gb (bb t) (l.map bb)=decide (t∈l):=by
 have:gb (bb t) (l.map bb)=true↔t∈l:=by
  refine rE (propext lL) (rE (propext List.mem_map) ?_)
  exact⟨fun w0=>aF w0 fun x hx e=>oA e▸hx,fun h=>⟨t,h,rfl⟩⟩
 by_cases h:t∈l
 ·refine rE (this.mpr h) ?_;simp[h]
 ·refine bE (b:=gb (bb t) (l.map bb)) (fun q=>?_) fun q=>?_
  ·simp[h]
  ·exact absurd (this.mp q) h
theorem nT{l:List D}(hd:cw σ e=none)(ht:gv σ e=none)(h:bg σ e=some l)(hp:(pl 8 d&&l.all (pl 8))=true):dq σ .NotIn d e=some (!gb d l):=by
 refine(?_:(kY σ d e).map (!·)=_)
 delta kY;refine rE hd (rE ht (rE h ?_));dsimp only;exact rE (if_pos hp) rfl
theorem yp{l:List D}(h:σ a=some (.lst l)):cw σ (.ref a)=none∧gv σ (.ref a)=none∧bg σ (.ref a)=some l:=by
 refine(dx ?_ ?_ (dD h))
 ·delta cw;simp only[h]
 ·delta gv;simp only[h]
variable{X:af→Prop}{t:Fin 4→D}
theorem rS(p:Pg)(r:bk C (n+2))(hi:vz σ d (.str md) t T tf tp)(hmd:md.length≤1000)(hP:cw σ tp=some (av P))(hz:∀x∈P,x.2.length≤100)(Em:∀i,(T i).length<64)(HL:∀i,((T i).map (·.1)).Nodup)
 {names:Option (List cC)} {o1 o2 o3:D} (hts:∀ts,names=some ts→ts.length≤10∧∀t∈ts,kx t)
 (hX:gl T P hid names=none→∀σ',dE [] σ σ'→X σ') (h:∀r,gl T P hid names=some r→Φ (.lst (r.map bb)) σ):aL C (n+5) (.ref 217) [d,AQ names hid o1 o2 o3] σ Φ X:=by
 refine aL.freeze ?_
 refine' bJ p (C:=C) (n:=(n+4)) (ow:=[(131,12)]) (es:=[]) (ws:=[]) (sl:=[ofString "interface",ofString "node",ofString "found",ofString "told"]) (names:=[ofString "interface",ofString "node"]) (fun zz=>rfl) (fun zz=>rfl) ?hp ?hb ?hs rfl ?hsc ?hnd rfl rfl (fun zz=> .nil) ?hbind (w:=?w) ?hsx ?hw (hlk:=?hlk)
 case hp=>(conv=>lhs;whnf)
 case hb=>(conv=>lhs;whnf)
 case hs=>(conv=>lhs;whnf)
 case hsc=>rfl
 case hnd=>decide
 case hlk=>decide
 case hbind=>exact fun s vs X hl=>jC (P:=fun vs=>BindsTo s _ ⟨vs,[]⟩ (List.zip _ (vs++_))) hl fun a0 a1=>(BindsTo.of_eq rfl)
 case hsx=>infer_instance
 refine'(?_:_)
 cases names with
 |none=>exact bw (bh (aH (ak (aa rfl) rfl rfl p.attr) _ rfl) (aQ (aV (dW (by decide) (aa rfl) hi.ins rfl p.meth p.keep bf fun zz q=>ej p hi Em HL q)))) (jG (h _ rfl))
 |some ts=>
  refine xA (hts ts rfl) fun htl hto=>?_
  refine aD (aG (aH (ak (aa rfl) rfl rfl p.attr) _ rfl) aR) ?_
  refine gH rfl fun a ha=>?_
  refine aN (c9 (ak (aa rfl) rfl rfl p.attr) aY rfl (by refine rE (List.length_map _) ?_;lia) (tK (enc:=jn) (N:=10) (ok:=kx) (f:=fun t=>eU T P hid t.1 t.2.1 t.2.2) (X:=∀σ',dE [] σ σ'→X σ')
   (St:=fun i l ξ σ1=>∃o,ξ=[some d,some (AQ (some ts) hid o1 o2 o3),some (.ref a),o]∧σ1=σ.put a (.lst (l.map bb))∧l.length≤20003*i) (fun x i l ξ σ1 Ψ hok Gx hS hx hn=>?_) hto (i:=0) (l:=[]) (by lia) (bP _ rfl rfl (Nat.zero_le _)) (fun q=>hX (by refine(?_:Option.map _ (bX _ ts)=none);exact rE q rfl)) fun rr ξ σ1 hr hS=>?_))
  ·refine cz hS fun o q1 q2 hlz=>?_;clear hS;subst q1 q2
   have E:dE [] σ (σ.put a (.lst (l.map bb))):=dE.put ha
   refine aM (i:=3) _ (aN ?_)
   refine(cf ⟨by decide,by decide⟩ _ rfl (er (af.CN _ _ _)) (cf (by decide+kernel) (.ref 207) p.DC p.keep ((ac (aa rfl) (ac (aa rfl) (ae (ak (aa rfl) rfl rfl p.attr)))) _ (ym p r (hi.ext E) hmd (mA hP E) hz hok.nm hok.sb (fun q σ' E'=>hx q σ' (E.trans E')) fun rr hr=>?_))))
   have hl:=uZ hz (fun l hl=>(hok.sb l hl).1) hr
   refine(cP a (l.map bb) (rr.map bb) (iy (af.CN _ _ _)) rfl (by refine rE (List.length_map _) (rE (List.length_map _) ?_);lia) ?_)
   refine rE (af.CR _ _ _ _) (rF List.map_append ?_)
   exact hn rr _ _ hr (bP _ rfl rfl (by refine rE List.length_append ?_;lia))
  ·refine cz hS fun o q1 q2 hlz=>?_;clear hS;subst q1 q2
   have hi':=(hi.put (x:= .lst (([]++rr).map bb)) ha)
   cases hid with
   |false=>
    refine bw (bh (ar (dI (a9 (b:=false) (ak (aa rfl) rfl rfl p.attr) rfl)) rfl) (aQ (aV (aa rfl)))) (sx ha (h _ ?_))
    refine(?_:Option.map _ (bX _ ts)=_)
    exact rE hr rfl
   |true=>
    refine aD (aG (ar (dI (a9 (b:=true) (ak (aa rfl) rfl rfl p.attr) rfl)) rfl) aR) ?_
    refine dF (yp (af.CN σ a (.lst (([]++rr).map bb)))) fun q1 q2 q3=>?_
    have I8:(aJ T).length≤300:=by
     delta aJ
     simp only[List.length_append,dm]
     have:=Em 0;have:=Em 1;have:=Em 2;have:=Em 3
     lia
    refine bw (aV (dX (l:=aJ T) (fun t=> !decide (t∈[]++rr)) rfl (dW (by decide) (aa rfl) hi'.ins rfl p.meth p.keep bf fun zz q=>ej p hi' Em HL q) aY rfl (by lia)
     fun t ht=>(bP _ aM (ar (al (aa rfl) (aa rfl) (nT q1 q2 q3 (by exact rE (Ay _) rfl))) (by exact rE (oZ _ _) rfl)) (aa rfl)))) ?_
    refine(bH (fun b=>b=a) _ (fun b hb=>by rw[hb,af.CN];exact fun q=>by exact sN q) (.same _) ?_)
    refine rE (dn ha) ?_
    refine h _ ?_
    refine(?_:Option.map _ (bX _ ts)=_)
    refine rE hr ?_
    simp
end
variable{ex:Option (List cC)}
section
abbrev dg:=List (Str×List Str)
noncomputable def bA(l:dg)(k:Str):Option (List Str):=(l.find? fun x=>decide (x.1=k)).map (·.2)
noncomputable abbrev kB(l:dg):List (Str×D):=l.map fun x=>(x.1,D.lst (x.2.map .str))
theorem i7(l:dg)(k:Str):look (kB l) k=(bA l k).map fun x=>D.lst (x.map .str):=by
 induction l with
 |nil=>rfl
 |cons x l ih=>
  delta look bA at*
  refine(?_:Option.map _ (List.find? _ ((x.1,D.lst (x.2.map .str))::kB l))=_)
  refine rE (List.find?_cons) (rE (List.find?_cons) ?_)
  by_cases h:x.1=k
  ·simp[h]
  ·simp only[h,decide_false];exact ih
theorem vj(l:dg)(k:Str):(look (kB l) k).getD (.lst [])= .lst (((bA l k).getD []).map .str):=by
 refine rE (i7 _ _) ?_;cases bA l k<;>rfl
noncomputable abbrev ic(k:Str)(l:dg):D:= .ins 86 [(ofString "kind",.str k),(ofString "table",.dS (kB l))]
noncomputable abbrev zB(S:Fin 4→dg):D:= .dS [(ofString "value",ic (ofString "value") (S 0)),(ofString "constructor",ic (ofString "constructor") (S 1)),(ofString "type",ic (ofString "type") (S 2)),(ofString "class",ic (ofString "class") (S 3))]
noncomputable abbrev jM(L:List (Str×List ag))(S:Fin 4→dg):D:= .ins 128 [(ofString "lots",.dS (av L)),(ofString "tables",zB S)]
def lS(k:Str):Prop:=k=ofString "value"∨k=ofString "constructor"∨k=ofString "type"∨k=ofString "class"
theorem pn{S:Fin 4→dg}{k:Str}(h:lS k):Op c fm [zB S,.str k] σ (ic k (S (aO k))) σ:=by
 refine d8 rfl ?_
 rcases h with rfl|rfl|rfl|rfl<;>rfl
theorem lK(x:Str)(l:List Str):gb (.str x) (l.map .str)=decide (x∈l):=by
 have:gb (.str x) (l.map D.str)=true↔x∈l:=by exact rE (propext lL) (rE (propext List.mem_map) ⟨fun w0=>aF w0 fun y hy e=>D.str.inj e▸hy,fun h=>⟨x,h,rfl⟩⟩)
 by_cases h:x∈l
 ·refine rE (this.mpr h) ?_;simp[h]
 ·refine bE (b:=gb (.str x) (l.map D.str)) (fun q=>?_) fun q=>?_
  ·simp[h]
  ·exact absurd (this.mp q) h
theorem qt(l:List Str):(l.map D.str).all (pl 8)=true:=by refine rE (propext List.all_eq_true) ?_;intro x hx;refine aF (List.mem_map.mp hx) fun t zz q2=>?_;subst q2;rfl
theorem qT{l:List Str}:dq σ .In (.str x) (.lst (l.map .str))=some (decide (x∈l)):=by
 refine(?_:kY σ (.str x) (.lst (l.map .str))=_)
 delta kY
 refine(?_:(if(pl 8 (.str x)&&(l.map D.str).all (pl 8))=true then some (gb (.str x) (l.map .str))else none)=_)
 exact rE (if_pos (by exact rE (qt _) rfl)) (rE (lK _ _) rfl)
noncomputable def iZ(l:dg)(full:Str):Bool:=l.any fun x=>decide (full∈(bA l x.1).getD [])
theorem u8{l:dg}{k:Str}(h:k∈l.map (·.1)):∃f,bA l k=some f:=by
 refine aF (List.mem_map.mp h) fun x hx q2=>?_;subst q2
 delta bA
 cases e:l.find? fun y=>decide (y.1=x.1)with
 |some y=>exact(iE _ rfl)
 |none=>exact absurd (List.find?_eq_none.mp e x hx) (by simp)
variable{X:af→Prop}
theorem qx(p:Pg){k d7:Str}{l:dg}(h:Φ (.bool (bA l d7).isSome) σ):aL C (n+1) (.ref 76) [ic k l,.str d7] σ Φ X:=by
 refine' bJ p (C:=C) (n:=n) (ow:=[]) (es:=[]) (ws:=[]) (sl:=[ofString "self",ofString "said"]) (names:=[ofString "self",ofString "said"]) (fun zz=>rfl) (fun zz=>rfl) ?hp ?hb ?hs rfl ?hsc ?hnd rfl rfl (fun zz=> .nil) ?hbind (w:=?w) ?hsx ?hw (hlk:=?hlk)
 case hp=>(conv=>lhs;whnf)
 case hb=>(conv=>lhs;whnf)
 case hs=>(conv=>lhs;whnf)
 case hsc=>rfl
 case hnd=>decide
 case hlk=>decide
 case hbind=>exact fun s vs X hl=>jC (P:=fun vs=>BindsTo s _ ⟨vs,[]⟩ (List.zip _ (vs++_))) hl fun a0 a1=>(BindsTo.of_eq rfl)
 case hsx=>infer_instance
 refine'(?_:_)
 refine bw (aV (aA (aa rfl) (ak (aa rfl) rfl rfl p.attr) (ia (eR rfl)))) ?_
 refine rE (i7 _ _) ?_
 cases e:bA l d7<;>(rw[e]at h;exact h)
theorem qv(p:Pg){S:Fin 4→dg}{k d7:Str}(hk:lS k)(h:Φ (.bool (bA (S (aO k)) d7).isSome) σ):aL C (n+2) (.ref 125) [jM L S,.str k,.str d7] σ Φ X:=by
 refine' bJ p (C:=C) (n:=(n+1)) (ow:=[]) (es:=[]) (ws:=[]) (sl:=[ofString "self",ofString "kind",ofString "said"]) (names:=[ofString "self",ofString "kind",ofString "said"]) (fun zz=>rfl) (fun zz=>rfl) ?hp ?hb ?hs rfl ?hsc ?hnd rfl rfl (fun zz=> .nil) ?hbind (w:=?w) ?hsx ?hw (hlk:=?hlk)
 case hp=>(conv=>lhs;whnf)
 case hb=>(conv=>lhs;whnf)
 case hs=>(conv=>lhs;whnf)
 case hsc=>rfl
 case hnd=>decide
 case hlk=>decide
 case hbind=>exact fun s vs X hl=>jB (P:=fun vs=>BindsTo s _ ⟨vs,[]⟩ (List.zip _ (vs++_))) hl fun a0 a1 a2=>(BindsTo.of_eq rfl)
 case hsx=>infer_instance
 refine'(?_:_)
 exact bw (aV (dW (by decide) (aA (ak (aa rfl) rfl rfl p.attr) (aa rfl) (pn hk)) rfl rfl p.meth p.keep (ae (aa rfl)) fun zz q=>qx p q)) h
noncomputable def ib:Option (List Str)→Option Str
 |some [f]=>some f
 |_=>none
theorem oM(p:Pg)(r:bk C n){k d7:Str}{l:dg}(hk:k.length≤1000)(hs:d7.length≤1000)(hl:∀x∈l,x.2.length≤2∧x.2.Nodup∧∀y∈x.2,y.length≤1000)
 (hX:ib (bA l d7)=none→X σ) (h:∀f,ib (bA l d7)=some f→Φ (.str f) σ):aL C (n+1) (.ref 83) [ic k l,.str d7,.none] σ Φ X:=by
 revert p r hk hs hl hX h;revert d7;revert C n X σ k l Φ;apply z7
 generalize (e7 _ _).1.1.1=C,(e7 _ _).1.1.2=n,(e7 _ _).1.2.1=σ,(e7 _ _).1.2.2=Φ,(e7 _ _).2.1.1=X,(e7 _ _).2.1.2=k,(e7 _ _).2.2=l;intro d7 p r hk hs hl hX h
 refine' bJ p (C:=C) (n:=n) (ow:=[]) (es:=[]) (ws:=[]) (sl:=[ofString "self",ofString "said",ofString "place",ofString "known"]) (names:=[ofString "self",ofString "said",ofString "place"]) (fun zz=>rfl) (fun zz=>rfl) ?hp ?hb ?hs rfl ?hsc ?hnd rfl rfl (fun zz=> .nil) ?hbind (w:=?w) ?hsx ?hw (hlk:=?hlk)
 case hp=>(conv=>lhs;whnf)
 case hb=>(conv=>lhs;whnf)
 case hs=>(conv=>lhs;whnf)
 case hsc=>rfl
 case hnd=>decide
 case hlk=>decide
 case hbind=>exact fun s vs X hl=>jB (P:=fun vs=>BindsTo s _ ⟨vs,[]⟩ (List.zip _ (vs++_))) hl fun a0 a1 a2=>(BindsTo.of_eq rfl)
 case hsx=>infer_instance
 refine'(?_:_)
 have hb:=r.at (c:=⟨C,n,X,[]⟩)
 refine aD (aX (dO (by decide) (ak (aa rfl) rfl rfl p.attr) (.inl rfl) (ac (aa rfl) (ae (aC bf aU))) fun zz q=>(aP _ rfl (by exact rE (vj _ _) q)))) ?_
 have hf:∀fs,bA l d7=some fs→fs.length≤2∧fs.Nodup∧∀y∈fs,y.length≤1000:=fun fs e=>by
  delta bA at e
  refine aF (Option.map_eq_some_iff.mp e) fun y hy q2=>?_;subst q2
  exact hl y (List.mem_of_find?_eq_some hy)
 match e:(bA l d7).getD [],(show(bA l d7).getD []=(bA l d7).getD []from rfl)with
 |[],_=>
  have e1:(ofString "not in scope: ").length=14:=by decide+kernel
  have e2:(ofString " ").length=1:=by decide+kernel
  refine aN (gI (ar (dI (a9 (aa rfl) (gy (Nat.le_of_ble_eq_true rfl)))) rfl) (lr fun Ψ=>iw hb (ac (aA (aA (aA ah (ak (aa rfl) rfl rfl p.attr) (bz ?_)) ah (bz ?_)) (aa rfl) (bz ?_)) (ae (aa rfl))) (hX ?_)))
  ·refine(?_:_+k.length≤_);lia
  ·refine rE (Str.length_append _ _) ?_;refine(?_:_+k.length+_≤_);lia
  ·refine rE (Str.length_append _ _) (rE (Str.length_append _ _) ?_);refine(?_:_+k.length+_+_≤_);lia
  ·refine oD (o:=bA l d7) (fun q=>?_) fun fs q=>?_
   ·rfl
   ·rw[q]at e;have e:fs=[]:=e;exact rE e rfl
 |[f],_=>
  have e':bA l d7=some [f]:=by cases q:bA l d7 with|none=>rw[q]at e;cases e|some fs=>rw[q]at e;exact congrArg some e
  refine aD (aG (ar (dI (a9 (aa rfl) (gy (Nat.le_of_ble_eq_true rfl)))) rfl) aR) ?_
  refine aD (aG (ar (al (ef p.Dn (ae (aa rfl)) fun zz q=>⟨Nat.le_of_ble_eq_true rfl,q⟩) (ad (d:= .int 1)) (op:= .Gt) rfl) rfl) aR) ?_
  exact bw (aV (aA (aa rfl) (ad (d:= .int 0)) fun zz q=>⟨by decide,.inl (cQ _ _ (by decide) rfl rfl q)⟩)) (h f (by exact rE e' rfl))
 |f::g::rest,_=>
  have e':bA l d7=some (f::g::rest):=by cases q:bA l d7 with|none=>rw[q]at e;cases e|some fs=>rw[q]at e;exact congrArg some e
  refine dF (hf _ e') fun f1 f2 f3=>?_
  obtain rfl:rest=[]:=by cases rest with|nil=>rfl|cons _ _=>simp at f1
  refine aD (aG (ar (dI (a9 (aa rfl) (gy (Nat.le_of_ble_eq_true rfl)))) rfl) aR) ?_
  refine aN (gI (ar (al (ef p.Dn (ae (aa rfl)) fun zz q=>⟨Nat.le_of_ble_eq_true rfl,q⟩) (ad (d:= .int 1)) (op:= .Gt) rfl) rfl) (lr fun Ψ=>⟨hb,?_⟩))
  have e1:(ofString "ambiguous: ").length=11:=by decide+kernel
  have e2:(ofString " is ").length=4:=by decide+kernel
  have e3:(ofString " or ").length=4:=by decide+kernel
  have g1:=f3 f (.head _)
  have g2:=f3 g (.tail _ (.head _))
  have Fm:∃a b,m7 [f,g]=[a,b]∧a.length≤1000∧b.length≤1000:=by
   refine(?_:∃a b,wV f [g]=[a,b]∧_)
   unfold wV
   split
   ·exact(bH _ _ rfl g1 g2)
   ·exact(bH _ _ rfl g2 g1)
  refine bB Fm fun a b hab ha hb'=>?_;clear Fm
  refine(aA (aA ah (aa rfl) (bz (by lia))) ah (bz (by refine rE (Str.length_append _ _) ?_;lia))) _ ⟨⟨by decide,by decide⟩,(ah) _ ⟨(iE _ rfl),
   (ae (ef p.Do (ae (aa rfl)) fun zz q=>⟨_,_,rfl,rfl,by refine(?_:2<64);decide,rfl,iS f2,q⟩)) _ ⟨_,_,a,b,rfl,?_,by lia,fun y hy=>bz (by refine rE (Str.length_append _ _) (rE (Str.length_append _ _) ?_);lia) _ ⟨_,rfl,⟨_,_,rfl⟩,hX (by exact rE e' rfl)⟩⟩⟩⟩
  refine(?_:some (ei ([f,g].map .str))=_)
  exact rE (d9 _) (rE hab rfl)
theorem js(p:Pg)(r:bk C n){S:Fin 4→dg}{k d7:Str}(hk:lS k)(hs:d7.length≤1000)(hl:∀i,∀x∈S i,x.2.length≤2∧x.2.Nodup∧∀y∈x.2,y.length≤1000)
 (hX:ib (bA (S (aO k)) d7)=none→X σ) (h:∀f,ib (bA (S (aO k)) d7)=some f→Φ (.str f) σ):aL C (n+2) (.ref 118) [jM L S,.str k,.str d7,.none] σ Φ X:=by
 refine' bJ p (C:=C) (n:=(n+1)) (ow:=[]) (es:=[]) (ws:=[]) (sl:=[ofString "self",ofString "kind",ofString "said",ofString "place"]) (names:=[ofString "self",ofString "kind",ofString "said",ofString "place"]) (fun zz=>rfl) (fun zz=>rfl) ?hp ?hb ?hs rfl ?hsc ?hnd rfl rfl (fun zz=> .nil) ?hbind (w:=?w) ?hsx ?hw (hlk:=?hlk)
 case hp=>(conv=>lhs;whnf)
 case hb=>(conv=>lhs;whnf)
 case hs=>(conv=>lhs;whnf)
 case hsc=>rfl
 case hnd=>decide
 case hlk=>decide
 case hbind=>exact fun s vs X hl=>jA (P:=fun vs=>BindsTo s _ ⟨vs,[]⟩ (List.zip _ (vs++_))) hl fun a0 a1 a2 a3=>(BindsTo.of_eq rfl)
 case hsx=>infer_instance
 refine'(?_:_)
 have hkl:k.length≤1000:=by rcases hk with rfl|rfl|rfl|rfl<;>decide+kernel
 refine aN ⟨⟨by decide,by decide⟩,(aA (ak (aa rfl) rfl rfl p.attr) (aa rfl) (pn hk)) _ (cV _ _ 83 rfl rfl p.meth p.keep ((ac (aa rfl) (ae (aa rfl))) _ (oM p r hkl hs (hl _) hX fun f hf=>h f hf)))⟩
theorem uO(p:Pg){S:Fin 4→dg}{k full:Str}(hk:lS k)(hz:∀i,(S i).length≤1000)(h:Φ (.bool (iZ (S (aO k)) full)) σ):aL C (n+1) (.ref 229) [jM L S,.str k,.str full] σ Φ X:=by
 revert p hk hz h;revert k full;revert C n X σ L S Φ;apply z7
 generalize (e7 _ _).1.1.1=C,(e7 _ _).1.1.2=n,(e7 _ _).1.2.1=σ,(e7 _ _).1.2.2=Φ,(e7 _ _).2.1.1=L,(e7 _ _).2.1.2=X,(e7 _ _).2.2=S;intro k full p hk hz h
 refine' bJ p (C:=C) (n:=n) (ow:=[]) (es:=[]) (ws:=[]) (sl:=[ofString "scope",ofString "kind",ofString "full",ofString "table",ofString "said"]) (names:=[ofString "scope",ofString "kind",ofString "full"]) (fun zz=>rfl) (fun zz=>rfl) ?hp ?hb ?hs rfl ?hsc ?hnd rfl rfl (fun zz=> .nil) ?hbind (w:=?w) ?hsx ?hw (hlk:=?hlk)
 case hp=>(conv=>lhs;whnf)
 case hb=>(conv=>lhs;whnf)
 case hs=>(conv=>lhs;whnf)
 case hsc=>rfl
 case hnd=>decide
 case hlk=>decide
 case hbind=>exact fun s vs X hl=>jB (P:=fun vs=>BindsTo s _ ⟨vs,[]⟩ (List.zip _ (vs++_))) hl fun a0 a1 a2=>(BindsTo.of_eq rfl)
 case hsx=>infer_instance
 refine'(?_:_)
 refine aD (aX (ak (aA (ak (aa rfl) rfl rfl p.attr) (aa rfl) (pn hk)) rfl rfl p.attr)) ?_
 generalize hs:S (aO k)=s at*
 have hz':s.length≤1000:=hs▸hz _
 have hit:∀(x:Str),x∈s.map (·.1)→look (kB s) x=some (.lst (((bA s x).getD []).map .str)):=fun x hx=>by
  refine xE (u8 hx) fun f hf=>?_
  exact rE (i7 _ _) (rE hf rfl)
 have hkeys:(kB s).map (fun kv=>D.str kv.1)=(s.map (·.1)).map .str:=by
  refine(?_:List.map _ (List.map _ s)=_)
  exact rE List.map_map (rE List.map_map rfl)
 refine aN (c9 (aa rfl) (fun a q=>by cases q) (congrArg some hkeys) (by refine rE (List.length_map _) (rE (List.length_map _) ?_);lia) (dN (fun pre ξ σ1=>∃o,ξ=[some (jM L S),some (.str k),some (.str full),some (.dS (kB s)),o]∧σ1=σ∧∀e∈pre,∀x,e= .str x→full∉(bA s x).getD []) (fun pre e post ξ σ1 Ψ he hI hn hr=>?_) (fun ξ σ1 hI=>?_) (bP _ rfl rfl (fun zz q=>by exact nM q))))
 ·refine cz hI fun o q1 q2 hp=>?_;clear hI;subst q1 q2
  have me:e∈(s.map (·.1)).map D.str:=by refine rE he ?_;simp
  refine aF (List.mem_map.mp me) fun x hx q2=>?_;subst q2
  by_cases q:full∈(bA s x).getD []
  ·refine aM (i:=4) _ ((xQ (bh (ar (al (aa rfl) (aA (aa rfl) (aa rfl) (d8 rfl (hit x hx))) qT) (by simpa using q)) (aQ (aV (ad (d:= .bool true)))))) _ (hr _ _ _ ?_))
   have:iZ s full=true:=by
    delta iZ
    refine aF (List.mem_map.mp hx) fun y hy q2=>?_;subst q2
    exact List.any_eq_true.mpr (aP y hy (by simpa using q))
   rw[this]at h;exact h
  ·refine aM (i:=4) _ ((aQ (aG (ar (al (aa rfl) (aA (aa rfl) (aa rfl) (d8 rfl (hit x hx))) qT) (by simpa using q)) aR)) _ (hn _ _ (bP _ rfl rfl (fun e he x' hx'=>?_))).1)
   rcases List.mem_append.mp he with he|he
   ·exact hp e he x' hx'
   ·rw[List.mem_singleton.mp he]at hx'
    cases hx';exact q
 ·refine cz hI fun o q1 q2 hp=>?_;clear hI;subst q1 q2
  refine bw (aV (ad (d:= .bool false))) ?_
  have:iZ s full=false:=by
   delta iZ
   refine rE (propext List.any_eq_false) ?_
   intro y hy
   simpa using hp (.str y.1) (List.mem_map_of_mem (List.mem_map_of_mem hy)) y.1 rfl
  rw[this]at h;exact h
end
section
variable{X:af→Prop}{S:Fin 4→dg}
noncomputable def b7(S:Fin 4→dg)(t:ag):Bool:=iZ (S (aO t.1)) t.2.2
theorem wX{l:List D}{pre post:Lo}(ha:σ a=some (.lst l)):sL σ (fun b=>b=a) (pre++some (.ref a)::post) (pre++some (.lst l)::post):=by
 refine⟨by simp,fun i d' h=>?_⟩
 rcases Nat.lt_trichotomy i pre.length with q|q|q
 ·rw[List.getElem?_append_left q]at h
  exact(aP d' (by refine rE (List.getElem?_append_left q) ?_;exact h) (.same _))
 ·subst q
  rw[List.getElem?_append_right (Nat.le_refl _),Nat.sub_self]at h
  cases h
  exact(aP (.ref a) (by refine rE (List.getElem?_append_right (Nat.le_refl _)) (rE (Nat.sub_self _) ?_);rfl) (.lst rfl ha (rk.refl _)))
 ·obtain⟨j,rfl⟩:∃j,i=pre.length+(j+1):=(iE (i-pre.length-1) (by lia))
  rw[List.getElem?_append_right (by lia),show pre.length+(j+1)-pre.length=j+1 by lia]at h
  exact(aP d' (by refine rE (List.getElem?_append_right (by lia)) (rE (show pre.length+(j+1)-pre.length=j+1 by lia) ?_);exact h) (.same _))
theorem rU(p:Pg)(r:bk C (n+1))(hP:cw σ d=some (av P))(hz:∀x∈P,x.2.length≤100∧∀t∈x.2,lS t.1)(hS:∀i,(S i).length≤1000){k full:Str}(hnm:nm.length≤1000)(hsb:∀l,sb= .some l→l.length≤100∧∀x∈l,x.length≤1000)
 (hX:bt (((aI P full).getD []).filter (b7 S)) sb=none→∀σ',dE [] σ σ'→X σ') (h:∀r,bt (((aI P full).getD []).filter (b7 S)) sb=some r→Φ (.lst (r.map bb)) σ):aL C (n+2) (.ref 222) [fo k nm sb,.str full,d,jM L S] σ Φ X:=by
 revert p r hP hz hS hnm hsb hX h;revert k nm full;revert C n X σ d P L S sb Φ;apply zq
 generalize (b9 _ _).1.1.1.1=d,(b9 _ _).1.1.1.2=C,(b9 _ _).1.1.2=n,(b9 _ _).1.2.1=σ,(b9 _ _).1.2.2=Φ,(b9 _ _).2.1.1.1=P,(b9 _ _).2.1.1.2=L,(b9 _ _).2.1.2=sb,(b9 _ _).2.2.1=X,(b9 _ _).2.2.2=S;intro nm k full p r hP hz hS hnm hsb hX h
 refine aL.freeze ?_
 refine' bJ p (C:=C) (n:=(n+1)) (ow:=[(138,12),(146,12)]) (es:=[]) (ws:=[]) (sl:=[ofString "told",ofString "full",ofString "parts",ofString "scope",ofString "known",ofString "kind",ofString "short",ofString "other",ofString "found",ofString "name",ofString "some"]) (names:=[ofString "told",ofString "full",ofString "parts",ofString "scope"]) (fun zz=>rfl) (fun zz=>rfl) ?hp ?hb ?hs rfl ?hsc ?hnd rfl rfl (fun zz=> .nil) ?hbind (w:=?w) ?hsx ?hw (hlk:=?hlk)
 case hp=>(conv=>lhs;whnf)
 case hb=>(conv=>lhs;whnf)
 case hs=>(conv=>lhs;whnf)
 case hsc=>rfl
 case hnd=>decide
 case hlk=>decide
 case hbind=>exact fun s vs X hl=>jA (P:=fun vs=>BindsTo s _ ⟨vs,[]⟩ (List.zip _ (vs++_))) hl fun a0 a1 a2 a3=>(BindsTo.of_eq rfl)
 case hsx=>infer_instance
 refine'(?_:_)
 have Ee:((aI P full).getD []).length≤100∧∀t∈(aI P full).getD [],lS t.1:=by
  delta aI
  cases e:P.find? fun x=>decide (x.1=full)with
  |none=>exact⟨Nat.zero_le _,fun zz h=>by exact nM h⟩
  |some y=>exact hz y (List.mem_of_find?_eq_some e)
 generalize hp:(aI P full).getD []=parts at*
 refine gH rfl fun a ha=>?_
 have hP':=rg (x:= .lst []) hP ha
 refine c9 (dO (by decide) (aa rfl) (.inl (by exact rE hP' rfl)) (ac (aa rfl) (ae (aC bf aU))) fun zz q=>(aP _ hP' (by exact rE (gK _ _) (rE hp q)))) aY rfl (by refine rE (List.length_map _) ?_;lia) (dN (fun pre ξ σ1=>∃o5 o6 o7 ts,ξ=[some (fo k nm sb),some (.str full),some d,some (jM L S),some (.ref a),o5,o6,o7,none,none,none]∧pre=ts.map bb∧σ1=σ.put a (.lst ((ts.filter (b7 S)).map bb)))
  (fun pre e post ξ σ1 Ψ he hI hn hr=>?_) (fun ξ σ1 hI=>?_) (dU _ _ _ [] rfl rfl rfl))
 ·refine fu hI fun o5 o6 o7 ts q4 q5 q6=>?_;clear hI;subst q4 q5 q6
  have me:e∈parts.map bb:=by refine rE he ?_;simp
  refine aF (List.mem_map.mp me) fun t ht q2=>?_;subst q2
  have htl:ts.length≤100:=by
   have:=congrArg List.length he
   simp at this;lia
  have hfl:(ts.filter (b7 S)).length≤ts.length:=List.length_filter_le _ _
  have ec:=bI (c:=⟨C,n+1,X,[(138,12),(146,12)]⟩) (ξ:=[some (fo k nm sb),some (.str full),some d,some (jM L S),some (.ref a),some (.str t.1),some (.str t.2.1),some (.str t.2.2),none,none,none]) (σ:=σ.put a (.lst ((ts.filter (b7 S)).map bb))) (x:=ofString "is_said") (by decide+kernel) p.EC p.keep (ac (aa (i:=3) rfl) (ac (aa (i:=5) rfl) (ae (aa (i:=7) rfl)))) fun zz q=>uO p (Ee.2 t ht) hS q
  refine pX _ ?_
  refine bT (b:=b7 S t) (fun Ek=>?_) fun Ek=>?_
  ·skip
   refine(aQ (bh (a9 (ar ec rfl) (congrArg some Ek)) (aQ (gB (dO (by decide) (aa rfl) (er (af.CN _ _ _)) (ae (aC (ac (aa rfl) (ac (aa rfl) (ae (aa rfl)))) cr)) (lD (af.CN _ _ _) (by refine rE (List.length_map _) ?_;lia))))))) _ (hn _ _ (dU _ _ _ (ts++[t]) rfl (by exact rE List.map_append rfl) ?_)).1
   exact rE (af.CR _ _ _ _) (rE (List.filter_append _ _) (rE List.filter_cons (rE Ek (rE List.map_append rfl))))
  ·skip
   refine(aQ (aG (a9 (ar ec rfl) (congrArg some Ek)) aR)) _ (hn _ _ (dU _ _ _ (ts++[t]) rfl (by exact rE List.map_append rfl) ?_)).1
   refine rE (List.filter_append _ _) (rE List.filter_cons (rE Ek ?_));simp
 refine fu hI fun o5 o6 o7 ts q4 hts q6=>?_;clear hI;subst q4 q6
 obtain rfl:parts=ts:=by
  have:∀{l m:List ag},l.map bb=m.map bb→l=m:=fun{l m} e=>by
   induction l generalizing m with
   |nil=>cases m with|nil=>rfl|cons _ _=>cases e
   |cons x l ih=>cases m with
    |nil=>cases e
    |cons y m=>rw[List.map_cons,List.map_cons]at e;injection e with e1 e2;exact rE (oA e1) (rE (ih e2) rfl)
  exact this hts
 refine(bH (fun b=>b=a) ([some (fo k nm sb),some (.str full),some d,some (jM L S)]++some (.lst ((parts.filter (b7 S)).map bb))::[o5,o6,o7,none,none,none]) (fun b hb=>by rw[hb,af.CN];exact fun q=>by exact sN q) (wX (pre:=[some (fo k nm sb),some (.str full),some d,some (jM L S)]) (af.CN _ _ _)) ?_)
 refine rE (dn ha) ?_
 clear hP' ha a hts
 have hkz:(parts.filter (b7 S)).length≤100:=Nat.le_trans (List.length_filter_le _ _) Ee.1
 generalize parts.filter (b7 S)=known at*
 cases sb with
 |none=>exact bw (bh (aH (ak (aa rfl) rfl rfl p.attr) _ rfl) (aQ (aV (aC bf aU)))) (jG (h [] rfl))
 |all=>
  refine aD (aG (aH (ak (aa rfl) rfl rfl p.attr) _ rfl) aR) ?_
  exact bw (bh (ar (al (ak (aa rfl) rfl rfl p.attr) ah (aW _ _ _)) (by decide)) (aQ (aV (aa rfl)))) (jG (h _ rfl))
 |some l=>
  refine aD (aG (aH (ak (aa rfl) rfl rfl p.attr) _ rfl) aR) ?_
  refine aD (aG (al (ak (aa rfl) rfl rfl p.attr) ah (kj l)) aR) ?_
  refine gH rfl fun a ha=>?_
  refine xA (hsb l rfl) fun hl1 hl2=>?_
  refine aN (c9 (ak (aa rfl) rfl rfl p.attr) aY rfl (by refine rE (List.length_map _) ?_;lia) ?_)
  refine jO (X:=∀σ',dE [] σ σ'→X σ') (B:=1000000) (ok:=fun x=>x.length≤1000) (I:=fun acc ξ σ'=>∃o1 o2,ξ=[some (fo k nm (.some l)),some (.str full),some d,some (jM L S),some (.lst (known.map bb)),o5,o6,o7,some (.ref a),o1,o2]∧σ'=σ.put a (.lst (acc.map bb))) (fun x acc ξ σ' Ψ Im hb hI hx hn=>?_) (acc:=[]) hl2 ?_ (fP _ _ rfl rfl) hX fun r ξ' σ' hr hI=>?_
  ·refine eB hI fun o1 o2 q2 q3=>?_;clear hI;subst q2 q3
   refine aM (i:=9) _ (aD (aX (dX (l:=known) (fun t=>decide (t.2.1=x)) rfl (aa rfl) aY rfl (by lia) fun t ht=>(bP _ aM (al (aA (aa rfl) ad iR) (aa rfl) (aW _ _ _)) (aa rfl)))) ?_)
   have hfz:(known.filter fun t=>decide (t.2.1=x)).length≤known.length:=List.length_filter_le _ _
   by_cases hf:(known.filter fun t=>decide (t.2.1=x))=[]
   ·refine aN (gI (ar (dI (a9 (aa rfl) (gy (by refine rE (List.length_map _) ?_;lia)))) (by exact rE hf rfl)) (lr fun Ψ=>iw (bk.at (c:=⟨C,n+1,X,[(138,12),(146,12)]⟩) r) (ac (aA (aA (ak (aa rfl) rfl rfl p.attr) ah (bz ?_)) (aa rfl) (bz ?_)) (ae (ak (aa rfl) rfl rfl p.attr))) (hx hf _ (dE.put ha))))
    ·have:(ofString " has no part ").length=13:=by decide+kernel
     lia
    ·have:(ofString " has no part ").length=13:=by decide+kernel
     refine rE (Str.length_append _ _) ?_;lia
   ·refine aD (aG (ar (dI (a9 (aa rfl) (gy (by refine rE (List.length_map _) ?_;lia)))) ?_) aR) ?_
    ·cases e:known.filter fun t=>decide (t.2.1=x)with
     |nil=>exact absurd e hf
     |cons _ _=>rfl
    ·refine aD (gB (dO (by decide) (aa rfl) (er (af.CN _ _ _)) (ae (aa rfl)) (rW (af.CN _ _ _) rfl (by refine rE (List.length_map _) (rE (List.length_map _) ?_);lia)))) ?_
     refine rE (af.CR _ _ _ _) (rF List.map_append ?_)
     exact hn _ _ hf (fP _ _ rfl rfl)
  ·have:=Nat.mul_le_mul hkz hl1
   simp only[List.length_nil,Nat.zero_add];lia
  ·refine eB hI fun o1 o2 q2 q3=>?_;clear hI;subst q2 q3
   exact bw (aV (aa rfl)) (sx ha (h r hr))
end
section
noncomputable def bU{α τ:Type}(f:τ→α→Option τ):τ→List α→Option τ
 |T,[]=>some T
 |T,x::r=>(f T x).bind fun T'=>bU f T' r
theorem l7{α τ:Type}{enc:α→D}{f:τ→α→Option τ}{St:Nat→τ→Lo→af→Prop}{ok:α→Prop}{X:Prop}{N:Nat}{Φ:Fl→Lo→af→Prop}
 (step:∀x i T ξ σ (Ψ:Fl→Lo→af→Prop),ok x→i<N→St i T ξ σ→(f T x=none→X)→(∀T' ξ1 σ1,f T x=some T'→St (i+1) T' ξ1 σ1→Ψ .next ξ1 σ1)→turn (enc x) ξ σ Ψ):
 ∀{xs:List α} {i:Nat} {T:τ} {ξ:Lo} {σ:af},(∀x∈xs,ok x)→i+xs.length≤N→St i T ξ σ→(bU f T xs=none→X)→(∀T' ξ σ,bU f T xs=some T'→St (i+xs.length) T' ξ σ→Φ .next ξ σ)→iM turn (xs.map enc) ξ σ Φ
 |[],i,T,ξ,σ,_,_,hS,_,h=>h T ξ σ rfl hS
 |x::xs,i,T,ξ,σ,hok,hN,hS,hX,h=>by
  rw[List.length_cons]at hN
  refine step x i T ξ σ _ (hok x (.head _)) (by lia) hS (fun e=>hX (by unfold bU;exact rE e rfl)) fun T1 ξ1 σ1 e hS1=>?_
  refine l7 step (fun y hy=>hok y (.tail _ hy)) (by lia) hS1 (fun q=>hX (by unfold bU;exact rE e q)) fun T2 ξ2 σ2 hr hS2=>h T2 ξ2 σ2 (by unfold bU;exact rE e hr) ?_
  exact rE List.length_cons (rE (show i+(xs.length+1)=i+1+xs.length by lia) hS2)
noncomputable def dw(T:Fin 4→List (Str×Str))(t:ag):Option (Fin 4→List (Str×Str)):=
 if(bR (T (aO t.1)) t.2.1).getD t.2.2=t.2.2 then some (oy T (aO t.1) (jS (T (aO t.1)) t.2.1 t.2.2))else none
noncomputable def bZ(x:Str):Str:=(bN 10 x).getD x
noncomputable def eD(L:List (Str×List ag))(S:Fin 4→dg)(P:List (Str×List ag))(t:cC):Option (List ag):=
 if t.1=ofString "module"then aI L t.2.1
 else if t.1=ofString "value"then(ib (bA (S 0) t.2.1)).map fun f=>[(ofString "value",bZ t.2.1,f)]
 else
  (ib (bA (S (aO (if(bA (S 2) t.2.1).isSome=true then ofString "type"else ofString "class"))) t.2.1)).bind fun f=>
   (bt (((aI P f).getD []).filter (b7 S)) t.2.2).map ((if(bA (S 2) t.2.1).isSome=true then ofString "type"else ofString "class",bZ t.2.1,f)::·)
noncomputable def cj(L:List (Str×List ag))(S:Fin 4→dg)(P:List (Str×List ag))(T:Fin 4→List (Str×Str))(t:cC):Option (Fin 4→List (Str×Str)):=(eD L S P t).bind (bU dw T)
theorem wj(l:List (Str×Str))(k v:Str):(jS l k v).length≤l.length+1:=by
 delta jS;split<;>simp
variable{X:af→Prop}{S:Fin 4→dg}{A:mE}
structure ji(CP:af)(A:mE)(m:D)(fx ps:List (Str×D))(B:Nat)(T:Fin 4→List (Str×Str))(σ:af):Prop where
 at_:cK σ A m T fx ps
 out:∀b,b∉A.all→σ b=CP b
 len:∀j,(T j).length≤B
theorem ji.ext(h:ji CP A m fx ps B T σ):dE A.all CP σ:=fun b x n e=>(h.out b n).trans e
theorem ji.add(h:ji CP A m fx ps B T σ)(t:ag):ji CP A m fx ps (B+1) (oy T (aO t.1) (jS (T (aO t.1)) t.2.1 t.2.2)) (σ.put (A.tb (aO t.1)) (.dS (fh (jS (T (aO t.1)) t.2.1 t.2.2)))):=by
 refine⟨h.at_.put _ _,fun b hb=>(af.CO _ _ fun q=>hb (by exact rE q (cK.FT _))).trans (h.out b hb),fun j=>?_⟩
 delta oy
 split
 ·exact Nat.le_trans (wj _ _ _) (Nat.succ_le_succ (h.len _))
 ·exact Nat.le_succ_of_le (h.len j)
theorem hW(p:Pg)(r:bk C (n+1))(hi:ji CP A m fx ps B T σ){t:ag}{pl:D}(hs:t.2.1.length≤1000)(hB:B≤1000000)
 (h1:dw T t=none→X σ) (h2:∀T' σ',dw T t=some T'→ji CP A m fx ps (B+1) T' σ'→Φ .none σ'):aL C (n+2) (.ref 181) [.ref A.a,.str t.1,.str t.2.1,.str t.2.2,pl] σ Φ X:=
 wr p r hi.at_ hs (Nat.le_trans (hi.len _) hB) (fun q=>h1 (if_neg q)) fun q=>h2 _ _ (if_pos q) (hi.add t)
theorem gN(h:cw σ e=some kvs):dq σ .NotIn (.str x) e=some (!(look kvs x).isSome):=by
 refine(?_:(kY σ (.str x) e).map (!·)=_)
 delta kY;exact rE h rfl
theorem j6{k:Str}(h:aI L k=some l):∃x∈L,x.2=l:=by
 delta aI at h
 refine aF (Option.map_eq_some_iff.mp h) fun y hy q2=>?_;subst q2
 exact(aP y (List.mem_of_find?_eq_some hy) rfl)
theorem qD:∀{l:List Str} {r:List ag},bx known l=some r→∀t∈r,t∈known
 |[],r,h,t,ht=>by(replace h:=sI h;subst h);exact nM ht
 |n::l,r,h,t,ht=>by
  unfold bx at h
  split at h
  ·exact nS h
  ·refine aF (Option.map_eq_some_iff.mp h) fun r' h' q2=>?_;subst q2
   rcases List.mem_append.mp ht with q|q
   ·exact(List.mem_filter.mp q).1
   ·exact qD h' t q
theorem qC(h:bt known sb=some r):∀t∈r,t∈known:=by
 cases sb with
 |none=>(replace h:=sI h;subst h);exact fun zz h=>by exact nM h
 |all=>(replace h:=sI h;subst h);exact fun zz h=>h
 |some l=>exact qD h
theorem rT(p:Pg)(r:bk C (n+1))(hi:ji CP A m fx ps B T σ)(hB:B≤500000)(Ee:∀x∈P,x.2.length≤100∧∀t∈x.2,lS t.1∧t.2.1.length≤1000)(hL:∀x∈L,x.2.length≤1000∧∀t∈x.2,t.2.1.length≤1000)
 (hS:∀i,(S i).length≤1000) (hS2:∀i,∀x∈S i,x.2.length≤2∧x.2.Nodup∧∀y∈x.2,y.length≤1000) {t:cC} (ht:kx t) (hsh:(bN 10 t.2.1).isSome=true) (Fe:(bZ t.2.1).length≤1000)
 (hX:cj L S P T t=none→∀σ',dE A.all CP σ'→X σ') (h:∀T' σ',cj L S P T t=some T'→ji CP A m fx ps (B+10001) T' σ'→Φ .none σ'):aL C (n+4) (.ref 236) [.ref A.a,jn t,jM L S,.dS (av P)] σ Φ X:=by
 revert p r hi hB Ee hL hS hS2 ht hsh Fe hX h;revert n B;revert C X σ m P L S T A fx ps CP t Φ;apply xF
 generalize (br _ _).1.1.1.1=m,(br _ _).1.1.1.2=C,(br _ _).1.1.2.1=fx,(br _ _).1.1.2.2=ps,(br _ _).1.2.1.1=σ,(br _ _).1.2.1.2=CP,(br _ _).1.2.2=Φ,(br _ _).2.1.1.1=T,(br _ _).2.1.1.2=P,(br _ _).2.1.2.1=L,(br _ _).2.1.2.2=X,(br _ _).2.2.1.1=S,(br _ _).2.2.1.2=A,(br _ _).2.2.2=t;intro n B p r hi hB Ee hL hS hS2 ht hsh Fe hX h
 refine' bJ p (C:=C) (n:=(n+3)) (ow:=[]) (es:=[]) (ws:=[]) (sl:=[ofString "interface",ofString "told",ofString "scope",ofString "parts",ofString "kind",ofString "short",ofString "full",ofString "part"]) (names:=[ofString "interface",ofString "told",ofString "scope",ofString "parts"]) (fun zz=>rfl) (fun zz=>rfl) ?hp ?hb ?hs rfl ?hsc ?hnd rfl rfl (fun zz=> .nil) ?hbind (w:=?w) ?hsx ?hw (hlk:=?hlk)
 case hp=>(conv=>lhs;whnf)
 case hb=>(conv=>lhs;whnf)
 case hs=>(conv=>lhs;whnf)
 case hsc=>rfl
 case hnd=>decide
 case hlk=>decide
 case hbind=>exact fun s vs X hl=>jA (P:=fun vs=>BindsTo s _ ⟨vs,[]⟩ (List.zip _ (vs++_))) hl fun a0 a1 a2 a3=>(BindsTo.of_eq rfl)
 case hsx=>infer_instance
 refine'(?_:_)
 obtain⟨k,nm,sb⟩:=t
 have hv:=hi.at_.view
 have hsr:bN 10 nm=some (bZ nm):=by
  refine xE (Option.isSome_iff_exists.mp hsh) fun y hy=>?_
  delta bZ;exact rE hy rfl
 have e0:∀σ',dE A.all σ σ'→dE A.all CP σ':=fun σ' E=>hi.ext.trans E
 by_cases hk:k=ofString "module"
 ·subst hk
  have hd:cj L S P T (ofString "module",nm,sb)=(aI L nm).bind (bU dw T):=rfl
  refine aN (gI (ar (al (ak (aa rfl) rfl rfl p.attr) ah (aW _ _ _)) (by simp)) ?_)
  have hlk:look (av L) nm=(aI L nm).map fun l=>D.lst (l.map bb):=cL L nm
  refine oC (o:=aI L nm) (fun e=>?_) fun H4 e=>?_
  ·skip
   have e1:(ofString "no module ").length=10:=by decide+kernel
   have e2:(ofString " to be exported").length=15:=by decide+kernel
   have hn:nm.length≤1000:=ht.nm
   exact aN (gI (ar (al (ak (aa rfl) rfl rfl p.attr) (ak (aa rfl) rfl rfl p.attr) (gN rfl)) (by exact rE hlk (rE e rfl))) (lr fun Ψ=>iw (bk.at (c:=⟨C,n+3,X,[]⟩) (r.up (by refine(?_:n+1≤n+3);lia))) (ac (aA (aA ah (ak (aa rfl) rfl rfl p.attr) (bz (by refine(?_:_+nm.length≤_);lia))) ah (bz (by refine rE (Str.length_append _ _) ?_;refine(?_:_+nm.length+_≤_);lia))) (ae (ak (aa rfl) rfl rfl p.attr))) (hX (by exact rE hd (rE e rfl)) σ hi.ext)))
  ·skip
   rw[e]at hd
   have hd:cj L S P T (ofString "module",nm,sb)=bU dw T H4:=hd
   refine aF (j6 e) fun x hx GY=>?_
   refine xA (hL x hx) fun l1 l2=>?_
   rw[GY]at l1 l2
   refine aD (aG (ar (al (ak (aa rfl) rfl rfl p.attr) (ak (aa rfl) rfl rfl p.attr) (gN rfl)) (by exact rE hlk (rE e rfl))) aR) ?_
   refine aN (c9 (aA (ak (aa rfl) rfl rfl p.attr) (ak (aa rfl) rfl rfl p.attr) (d8 rfl (by exact rE hlk (rE e rfl)))) aY rfl (by refine rE (List.length_map _) ?_;lia) (l7 (f:=dw) (N:=1000) (ok:=fun t=>t.2.1.length≤1000) (X:=∀σ',dE A.all CP σ'→X σ') (i:=0)
    (St:=fun i T ξ σ=>∃o4 o5 o6,ξ=[some (.ref A.a),some (jn (ofString "module",nm,sb)),some (jM L S),some (.dS (av P)),o4,o5,o6,none]∧ji CP A m fx ps (B+i) T σ) (fun t i T ξ σ Ψ hok Gx hS hx hn=>?_) l2 (by lia) (jE _ _ _ rfl hi) (fun q=>hX (hd.trans q)) fun T' ξ σ' hr hS=>?_))
   ·refine gf hS fun o4 o5 o6 q3 hs=>?_;clear hS;subst q3
    exact pX _ (aN (b8 ⟨by decide,by decide⟩ (.ref A.a) rfl 196 _ 181 hs.at_.view.ins rfl p.meth p.keep ((ac (aa rfl) (ac (aa rfl) (ac (aa rfl) (ae (ak (aa rfl) rfl rfl p.attr))))) _ (hW (n:=n+1) p (r.up (by lia)) hs hok (by lia) (fun q=>hx q _ hs.ext) fun T' σ' q hs'=>hn T' _ _ q (jE _ _ _ rfl hs')))))
   ·refine gf hS fun o4 o5 o6 q3 hs=>?_;clear hS;subst q3
    exact h T' σ' (hd.trans hr) ⟨hs.at_,hs.out,fun j=>Nat.le_trans (hs.len j) (by lia)⟩
 ·refine aN (qJ (ar (al (ak (aa rfl) rfl rfl p.attr) ah (aW _ _ _)) (by simpa using hk)) ?_)
  by_cases hk2:k=ofString "value"
  ·refine aN (gI (ar (al (ak (aa rfl) rfl rfl p.attr) ah (aW _ _ _)) (by simpa using hk2)) ?_)
   have hd:cj L S P T (k,nm,sb)=((ib (bA (S 0) nm)).map fun f=>[(ofString "value",bZ nm,f)]).bind (bU dw T):=by
    delta cj eD;exact rE (if_neg hk) (rE (if_pos hk2) rfl)
   refine aN (?_:_)
   refine(b8 ⟨by decide,by decide⟩ _ rfl _ _ 118 rfl rfl p.meth p.keep ((ac ah (ac (ak (aa rfl) rfl rfl p.attr) (ae (ak (aa rfl) rfl rfl p.attr)))) _ (js (n:=n+1) p (r.up (by lia)) (.inl rfl) ht.nm hS2 (fun e=>hX (by refine rE hd ?_;rw[show aO (ofString "value")=0 from rfl]at e;exact rE e rfl) σ hi.ext) fun f hf=>?_)))
   rw[show aO (ofString "value")=0 from rfl]at hf
   rw[hf]at hd
   have hd:cj L S P T (k,nm,sb)=(dw T (ofString "value",bZ nm,f)).bind fun T'=>bU dw T' []:=hd
   refine aM _ (aN (?_:_))
   refine(b8 ⟨by decide,by decide⟩ (.ref A.a) rfl 196 _ 181 hv.ins rfl p.meth p.keep ((ac ah (ac (bI (by decide+kernel) p.C3 p.keep (ae (ak (aa rfl) rfl rfl p.attr)) fun zz q=>fG p hsr q) (ac (aa rfl) (ae (ak (aa rfl) rfl rfl p.attr))))) _ (hW (n:=n+1) (t:=(ofString "value",bZ nm,f)) p (r.up (by lia)) hi Fe (by lia) (fun q=>hX (by exact rE hd (rE q rfl)) σ hi.ext) fun T' σ' q hs'=>?_)))
   exact h T' σ' (by exact rE hd (rE q rfl)) ⟨hs'.at_,hs'.out,fun j=>Nat.le_trans (hs'.len j) (by lia)⟩
  ·refine aN (qJ (ar (al (ak (aa rfl) rfl rfl p.attr) ah (aW _ _ _)) (by simpa using hk2)) ?_)
   have hd:cj L S P T (k,nm,sb)=((ib (bA (S (aO (if(bA (S 2) nm).isSome=true then ofString "type"else ofString "class"))) nm)).bind fun f=>
    (bt (((aI P f).getD []).filter (b7 S)) sb).map ((if(bA (S 2) nm).isSome=true then ofString "type"else ofString "class",bZ nm,f)::·)).bind (bU dw T):=by
    delta cj eD;exact rE (if_neg hk) (rE (if_neg hk2) rfl)
   obtain⟨kd,hkd⟩:∃kd,kd=if(bA (S 2) nm).isSome=true then ofString "type"else ofString "class" :=(iE _ rfl)
   rw[←hkd]at hd
   have Ix:lS kd:=by refine rE hkd ?_;split;exact .inr (.inr (.inl rfl));exact .inr (.inr (.inr rfl))
   refine aN ?_
   refine aD (aX (d:= .str kd) (σ1:=σ) ?_) ?_
   ·have ew:∀{b:Bool},(bA (S 2) nm).isSome=b→∀Φ:D→af→Prop,Φ (.bool b) σ→aL C (n+3) (.ref 125) [jM L S,.str (ofString "type"),.str nm] σ Φ X:=fun e Φ q=>qv (n:=n+1) p (.inr (.inr (.inl rfl))) (by exact rE (show aO (ofString "type")=2 from rfl) (rE e q))
    refine bT (b:=(bA (S 2) nm).isSome) (fun e=>?_) fun e=>?_
    ·skip
     refine rE hkd (rE e ?_)
     exact cS (a9 (dW (by decide) (aa rfl) rfl rfl p.meth p.keep (ac ah (ae (ak (aa rfl) rfl rfl p.attr))) (ew e)) rfl) ah
    ·skip
     refine rE hkd (rE e ?_)
     exact cE (a9 (dW (by decide) (aa rfl) rfl rfl p.meth p.keep (ac ah (ae (ak (aa rfl) rfl rfl p.attr))) (ew e)) rfl) ah
   clear hkd
   refine aN (?_:_)
   refine(b8 ⟨by decide,by decide⟩ _ rfl _ _ 118 rfl rfl p.meth p.keep ((ac (aa rfl) (ac (ak (aa rfl) rfl rfl p.attr) (ae (ak (aa rfl) rfl rfl p.attr)))) _ (js (n:=n+1) p (r.up (by lia)) Ix ht.nm hS2 (fun e=>hX (by exact rE hd (rE e rfl)) σ hi.ext) fun f hf=>?_)))
   rw[hf]at hd
   have hd:cj L S P T (k,nm,sb)=((bt (((aI P f).getD []).filter (b7 S)) sb).map ((kd,bZ nm,f)::·)).bind (bU dw T):=hd
   refine aM _ (aN (?_:_))
   refine(b8 ⟨by decide,by decide⟩ (.ref A.a) rfl 196 _ 181 hv.ins rfl p.meth p.keep ((ac (aa rfl) (ac (bI (by decide+kernel) p.C3 p.keep (ae (ak (aa rfl) rfl rfl p.attr)) fun zz q=>fG p hsr q) (ac (aa rfl) (ae (ak (aa rfl) rfl rfl p.attr))))) _ (hW (n:=n+1) (t:=(kd,bZ nm,f)) p (r.up (by lia)) hi Fe (by lia) (fun q=>hX ?_ σ hi.ext) fun T1 σ1 q hs1=>?_)))
   ·refine rE hd ?_;cases bt (((aI P f).getD []).filter (b7 S)) sb with
    |none=>rfl
    |some r=>show(dw T (kd,bZ nm,f)).bind _=none;exact rE q rfl
   have hpm:∀t∈(aI P f).getD [],t.2.1.length≤1000:=by
    refine oD (o:=aI P f) (fun e=>?_) fun l e=>?_
    ·intro t h;exact nM h
    ·skip
     refine aF (j6 e) fun x hx q2=>?_;subst q2
     exact fun t h=>((Ee x hx).2 t h).2
   have hpl:((aI P f).getD []).length≤100:=by
    refine oD (o:=aI P f) (fun e=>?_) fun l e=>?_
    ·exact Nat.zero_le _
    ·skip
     refine aF (j6 e) fun x hx q2=>?_;subst q2
     exact(Ee x hx).1
   refine(?_:fF _ _ _ _ _ _)
   refine aN (?_:_)
   refine(cf (by decide+kernel) (.ref 222) p.Dv p.keep (ac (aa rfl) (ac (aa rfl) (ac (aa rfl) (ae (aa rfl)))) _ (rU (n:=n+1) (d:= .dS (av P)) (P:=P) p (r.up (by lia)) rfl (fun x hx=>⟨(Ee x hx).1,fun t ht=>((Ee x hx).2 t ht).1⟩) hS ht.nm ht.sb (fun q σ' E=>hX (by exact rE hd (rE q rfl)) σ' fun b x nb e=>E b x (fun z=>by exact nM z) (hs1.ext b x nb e)) fun rs hr=>?_)))
   rw[hr]at hd
   have hd:cj L S P T (k,nm,sb)=(dw T (kd,bZ nm,f)).bind fun T'=>bU dw T' rs:=hd
   rw[q]at hd
   have hd:cj L S P T (k,nm,sb)=bU dw T1 rs:=hd
   have hfl:(((aI P f).getD []).filter (b7 S)).length≤100:=Nat.le_trans (List.length_filter_le _ _) hpl
   have hrl:=lm hfl (fun l hl=>(ht.sb l hl).1) hr
   refine(cf aY _ rfl (by refine rE (List.length_map _) ?_;lia) (l7 (f:=dw) (N:=10000) (ok:=fun t=>t.2.1.length≤1000) (X:=∀σ',dE A.all CP σ'→X σ') (i:=0)
    (St:=fun i T ξ σ=>∃o7,ξ=[some (.ref A.a),some (jn (k,nm,sb)),some (jM L S),some (.dS (av P)),some (.str kd),none,some (.str f),o7]∧ji CP A m fx ps (B+1+i) T σ) (fun t i T ξ σ Ψ hok Gx hS hx hn=>?_) (fun t ht=>hpm t (List.mem_filter.mp (qC hr t ht)).1) (by lia) (aP _ rfl hs1) (fun q=>hX (hd.trans q)) fun T' ξ σ' hr hS=>?_))
   ·refine aF hS fun o7 q1 hs=>?_;clear hS;subst q1
    refine aM _ (aN (?_:_))
    exact(b8 ⟨by decide,by decide⟩ (.ref A.a) rfl 196 _ 181 hs.at_.view.ins rfl p.meth p.keep ((ac (aA (aa rfl) (ad (d:= .int 0)) ju) (ac (aA (aa rfl) (ad (d:= .int 1)) iR) (ac (aA (aa rfl) (ad (d:= .int 2)) lC) (ae (ak (aa rfl) rfl rfl p.attr))))) _ (hW (n:=n+1) p (r.up (by lia)) hs hok (by lia) (fun q=>hx q _ hs.ext) fun T' σ' q hs'=>hn T' _ _ q (aP _ rfl hs'))))
   ·refine aF hS fun o7 q1 hs=>?_;clear hS;subst q1
    exact h T' σ' (hd.trans hr) ⟨hs.at_,hs.out,fun j=>Nat.le_trans (hs.len j) (by lia)⟩
end
section
noncomputable def cM(F:List (Str×D))(acc:List (Str×D))(t:ag):List (Str×D):=match look F t.2.2 with
 |some d=>put acc t.2.2 d
 |none=>acc
noncomputable def keep(F:List (Str×D))(l:List ag):List (Str×D):=l.foldl (cM F) []
noncomputable def eW(L:List (Str×List ag))(S:Fin 4→dg)(P:List (Str×List ag))(own:List ag):Option (List cC)→Option (Fin 4→List (Str×Str))
 |none=>bU dw (fun zz=>[]) own
 |some ts=>bU (cj L S P) (fun zz=>[]) ts
noncomputable abbrev zW:Option (List cC)→D
 |none=> .none
 |some ts=> .lst (ts.map jn)
variable{X:af→Prop}{S:Fin 4→dg}{A:mE}
theorem cK.GP(h:cK σ A m T fx ps):A.a≠A.f∧A.da≠A.f∧(∀i,A.tb i≠A.f)∧A.p≠A.f:=by
 have nd:=h.nd
 simp only[mE.all,List.nodup_cons,List.mem_cons,not_or,List.not_mem_nil,not_false_eq_true,and_true]at nd
 refine iu nd fun n1 n2 n3 n4 n5 n6 CU=>xA CU fun n7 zz=>?_;clear CU;clear nd
 exact(fw n1.2.2.2.2.2.1 n2.2.2.2.2.1 (cg n3.2.2.2.1 n4.2.2.1 n5.2.1 n6.1) (fun q=>n7 q.symm))
theorem cK.GO(h:cK σ A m T fx ps):A.a≠A.p∧A.da≠A.p∧(∀i,A.tb i≠A.p)∧A.f≠A.p:=by
 have nd:=h.nd
 simp only[mE.all,List.nodup_cons,List.mem_cons,not_or,List.not_mem_nil,not_false_eq_true,and_true]at nd
 refine iu nd fun n1 n2 n3 n4 n5 n6 CU=>xA CU fun n7 zz=>?_;clear CU;clear nd
 exact(fw n1.2.2.2.2.2.2 n2.2.2.2.2.2 (cg n3.2.2.2.2 n4.2.2.2 n5.2.2 n6.2) n7)
theorem cK.GG(h:cK σ A m T fx ps)(l:List (Str×D)):cK (σ.put A.f (.dS l)) A m T l ps:=
 have⟨a,b,c,d⟩:=h.GP
 ⟨h.nd,(af.CO _ _ a).trans h.a,(af.CO _ _ b).trans h.da,fun i=>(af.CO _ _ (c i)).trans (h.tab i),af.CN _ _ _,(af.CO _ _ d).trans h.p⟩
theorem cK.GF(h:cK σ A m T fx ps)(l:List (Str×D)):cK (σ.put A.p (.dS l)) A m T fx l:=
 have⟨a,b,c,d⟩:=h.GO
 ⟨h.nd,(af.CO _ _ a).trans h.a,(af.CO _ _ b).trans h.da,fun i=>(af.CO _ _ (c i)).trans (h.tab i),(af.CO _ _ d).trans h.f,af.CN _ _ _⟩
theorem nF(F acc:List (Str×D))(t:ag):(cM F acc t).length≤acc.length+1:=by
 delta cM
 split
 ·exact ix _ _ _
 ·lia
theorem kz:∀{l m:List ag},l.map bb=m.map bb→l=m
 |[],[],_=>rfl
 |x::l,y::m,e=>by
  rw[List.map_cons,List.map_cons]at e
  injection e with e1 e2
  exact rE (oA e1) (rE (kz e2) rfl)
theorem AA(p:Pg)(r:bk C (n+1)){mo:Str}{own:List ag}(Ee:∀x∈P,x.2.length≤100∧∀t∈x.2,lS t.1∧t.2.1.length≤1000)(hL:∀x∈L,x.2.length≤1000∧∀t∈x.2,t.2.1.length≤1000)
 (hS:∀i,(S i).length≤1000) (hS2:∀i,∀x∈S i,x.2.length≤2∧x.2.Nodup∧∀y∈x.2,y.length≤1000) (hex:∀ts,ex=some ts→ts.length≤10∧∀t∈ts,kx t∧(bN 10 t.2.1).isSome=true∧(bZ t.2.1).length≤1000) (how:own.length≤100∧∀t∈own,t.2.1.length≤1000)
 (hT:∀T,eW L S P own ex=some T→∀i,(T i).length<64∧((T i).map (·.1)).Nodup)
 (hX:eW L S P own ex=none→∀σ',dE [] σ σ'→X σ')
 (h:∀T A σ',eW L S P own ex=some T→cK σ' A (.str mo) T (keep F (aJ T)) (keep (av P) (aJ T))→(∀b,b∉A.all→σ' b=σ b)→(∀b∈A.all,σ b=none)→Φ (.ref A.a) σ'):
 aL C (n+5) (.ref 243) [.str mo,zW ex,jM L S,.lst (own.map bb),.dS (av P),.dS F] σ Φ X:=by
 revert p r Ee hL hS hS2 hex how hT hX h;revert n mo;revert C X σ P L S own ex F Φ;apply zq
 generalize (b9 _ _).1.1.1.1=C,(b9 _ _).1.1.1.2=F,(b9 _ _).1.1.2=σ,(b9 _ _).1.2.1=Φ,(b9 _ _).1.2.2=P,(b9 _ _).2.1.1.1=L,(b9 _ _).2.1.1.2=ex,(b9 _ _).2.1.2=X,(b9 _ _).2.2.1=S,(b9 _ _).2.2.2=own;intro n mo p r Ee hL hS hS2 hex how hT hX h
 refine' bJ p (C:=C) (n:=(n+4)) (ow:=[]) (es:=[]) (ws:=[]) (sl:=[ofString "module",ofString "exports",ofString "scope",ofString "own",ofString "parts",ofString "fixities",ofString "found",ofString "kind",ofString "short",ofString "full",ofString "told"]) (names:=[ofString "module",ofString "exports",ofString "scope",ofString "own",ofString "parts",ofString "fixities"]) (fun zz=>rfl) (fun zz=>rfl) ?hp ?hb ?hs rfl ?hsc ?hnd rfl rfl (fun zz=> .nil) ?hbind (w:=?w) ?hsx ?hw (hlk:=?hlk)
 case hp=>(conv=>lhs;whnf)
 case hb=>(conv=>lhs;whnf)
 case hs=>(conv=>lhs;whnf)
 case hsc=>rfl
 case hnd=>decide
 case hlk=>decide
 case hbind=>exact fun s vs X hl=>wL (P:=fun vs=>BindsTo s _ ⟨vs,[]⟩ (List.zip _ (vs++_))) hl fun a0 a1 a2 a3 a4 a5=>(BindsTo.of_eq rfl)
 case hsx=>infer_instance
 refine'(?_:_)
 refine aN (?_:_)
 refine(cf (by decide+kernel) (.ref 196) p.D9 p.keep (ae (aa rfl) _ (qy (n:=n+2) p fun A σ1 hA ho hf=>?_)))
 have hX':eW L S P own ex=none→∀σ',dE A.all σ1 σ'→X σ':=fun e σ' E=>hX e σ' fun b x zz q=>E b x (fun z=>by rw[hf b z]at q;exact nS q) ((ho b fun z=>by rw[hf b z]at q;exact nS q).trans q)
 have hi1:ji σ1 A (.str mo) [] [] 0 (fun zz=>[]) σ1:=⟨hA,fun zz zz=>rfl,fun zz=>Nat.le_refl _⟩
 refine aM _ (dz (I:=fun ξ σ2=>∃T B o7 o8 o9 Dk,ξ=[some (.str mo),some (zW ex),some (jM L S),some (.lst (own.map bb)),some (.dS (av P)),some (.dS F),some (.ref A.a),o7,o8,o9,Dk]∧eW L S P own ex=some T∧ji σ1 A (.str mo) [] [] B T σ2) (fun Ψ hΨ=>?_) fun ξ σ2 hI=>?_)
 ·cases ex with
  |none=>
   refine gI (aH (aa rfl) _ rfl) (aN (c9 (aa rfl) aY rfl (by refine rE (List.length_map _) ?_;lia) (l7 (f:=dw) (N:=100) (ok:=fun t=>t.2.1.length≤1000) (X:=∀σ',dE A.all σ1 σ'→X σ') (i:=0)
    (St:=fun i T ξ σ=>∃o7 o8 o9,ξ=[some (.str mo),some .none,some (jM L S),some (.lst (own.map bb)),some (.dS (av P)),some (.dS F),some (.ref A.a),o7,o8,o9,none]∧ji σ1 A (.str mo) [] [] (0+i) T σ) (fun t i T ξ σ Ψ hok Gx hS hx hn=>?_) how.2 (by lia) (jE _ _ _ rfl hi1) (fun q=>hX' q) fun T' ξ σ' hr hS=>?_)))
   ·refine gf hS fun o7 o8 o9 q3 hs=>?_;clear hS;subst q3
    refine pX _ (aN (?_:_))
    exact(b8 ⟨by decide,by decide⟩ (.ref A.a) rfl 196 _ 181 hs.at_.view.ins rfl p.meth p.keep ((ac (aa rfl) (ac (aa rfl) (ac (aa rfl) (ae (ad (d:= .none)))))) _ (hW (n:=n+2) p (r.up (by lia)) hs hok (by lia) (fun q=>hx q _ hs.ext) fun T' σ' q hs'=>hn T' _ _ q (jE _ _ _ rfl hs'))))
   ·refine gf hS fun o7 o8 o9 q3 hs=>?_;clear hS;subst q3
    exact hΨ _ _ (mD T' _ (dU _ _ _ _ rfl hr hs))
  |some ts=>
   refine xA (hex ts rfl) fun hz hts=>?_
   refine qJ (aH (aa rfl) _ rfl) (aN (c9 (aa rfl) aY rfl (by refine rE (List.length_map _) ?_;lia) (l7 (f:=cj L S P) (N:=10) (ok:=fun t=>kx t∧(bN 10 t.2.1).isSome=true∧(bZ t.2.1).length≤1000) (X:=∀σ',dE A.all σ1 σ'→X σ') (i:=0)
    (St:=fun i T ξ σ=>∃Dk,ξ=[some (.str mo),some (.lst (ts.map jn)),some (jM L S),some (.lst (own.map bb)),some (.dS (av P)),some (.dS F),some (.ref A.a),none,none,none,Dk]∧ji σ1 A (.str mo) [] [] (0+10001*i) T σ) (fun t i T ξ σ Ψ hok Gx hS hx hn=>?_) hts (by lia) (aP _ rfl hi1) (fun q=>hX' q) fun T' ξ σ' hr hS=>?_)))
   ·refine aF hS fun Dk q1 hs=>?_;clear hS;subst q1
    refine aM _ (aN (?_:_))
    exact(cf (by decide+kernel) (.ref 236) p.Eh p.keep ((ac (aa rfl) (ac (aa rfl) (ac (aa rfl) (ae (aa rfl))))) _ (rT p r hs (by lia) Ee hL ‹_› hS2 hok.1 hok.2.1 hok.2.2 hx fun T' σ' q hs'=>hn T' _ _ q (aP _ rfl ⟨hs'.at_,hs'.out,fun j=>Nat.le_trans (hs'.len j) (by lia)⟩))))
   ·refine aF hS fun Dk q1 hs=>?_;clear hS;subst q1
    exact hΨ _ _ (mD T' _ (dU _ _ _ _ rfl hr hs))
 ·refine jm hI fun T B CU=>fu CU fun o7 o8 o9 Dk q6 hr hs=>?_;clear CU;clear hI;subst q6
  have hTb:=hT T hr
  have hlen:(aJ T).length≤256:=by
   have h0:=(hTb 0).1;have h1:=(hTb 1).1;have h2:=(hTb 2).1;have h3:=(hTb 3).1
   delta aJ
   refine rE List.length_append (rE List.length_append (rE List.length_append (rE (dm _ _) (rE (dm _ _) (rE (dm _ _) (rE (dm _ _) ?_))))));lia
  refine aN (?_:_)
  refine(b8 ⟨by decide,by decide⟩ (.ref A.a) rfl 196 _ 186 hs.at_.view.ins rfl p.meth p.keep (ej (n:=n+2) p hs.at_.view (fun i=>(hTb i).1) (fun i=>(hTb i).2) (cf aY _ rfl (by refine rE (List.length_map _) ?_;lia) ?_)))
  refine dN (fun pre ξ σ3=>∃o7 o8 o9 ts,ξ=[some (.str mo),some (zW ex),some (jM L S),some (.lst (own.map bb)),some (.dS (av P)),some (.dS F),some (.ref A.a),o7,o8,o9,Dk]∧pre=ts.map bb∧cK σ3 A (.str mo) T (keep F ts) (keep (av P) ts)∧(∀b,b∉A.all→σ3 b=σ1 b)∧(keep F ts).length≤ts.length∧(keep (av P) ts).length≤ts.length)
   (fun pre e post ξ σ3 Ψ he hI hn hr=>?_) (fun ξ σ3 hI=>?_) (dp _ _ _ [] rfl rfl ?_ hs.out (Nat.le_refl _) (Nat.le_refl _))
  ·revert hI;refine fun h0=>fD h0 fun o7 o8 o9 ts q4 q5 hI FK l1 l2=>?_;clear h0;subst q4 q5
   have me:e∈(aJ T).map bb:=by refine rE he ?_;simp
   refine aF (List.mem_map.mp me) fun t ht q2=>?_;subst q2
   have htl:ts.length≤256:=by
    have:=congrArg List.length he
    simp at this;lia
   have hb:∀{b:Addr} {l:List (Str×D)},b=A.f∨b=A.p→∀σ:af,(∀c,c∉A.all→σ c=σ1 c)→∀c,c∉A.all→σ.put b (.dS l) c=σ1 c:=fun hb σ h c hc=>(af.CO _ _ fun q=>hc (by refine rE q ?_;rcases hb with rfl|rfl<;>simp only[mE.all,List.mem_cons,true_or,or_true])).trans (h c hc)
   refine pX _ (dz (I:=fun ξ' σ'=>ξ'=[some (.str mo),some (zW ex),some (jM L S),some (.lst (own.map bb)),some (.dS (av P)),some (.dS F),some (.ref A.a),some (.str t.1),some (.str t.2.1),some (.str t.2.2),Dk]∧cK σ' A (.str mo) T (keep F ts) (cM (av P) (keep (av P) ts) t)∧∀b,b∉A.all→σ' b=σ1 b) (fun Ψ hΨ=>?_) fun ξ Dt hJ=>?_)
   ·refine oC (o:=look (av P) t.2.2) (fun e=>?_) fun d e=>?_
    ·exact(aG (ar (al (aa rfl) (aa rfl) (eR rfl)) (by exact rE e rfl)) aR) _ (hΨ _ _ (dx rfl (by delta cM;exact rE e hI) FK))
    ·exact(bh (ar (al (aa rfl) (aa rfl) (eR rfl)) (by exact rE e rfl)) (aQ (bd (aA (aa rfl) (aa rfl) (d8 rfl e)) (gz (ak (aa rfl) (e9 hI.a hI.da) rfl p.attr) (aa rfl) hI.p (by lia))))) _ (hΨ _ _ (dx rfl (by delta cM;exact rE e (hI.GF _)) (hb (.inr rfl) _ FK)))
   refine dF hJ fun q0 EH HG=>?_;clear hJ;subst q0
   have k1:keep F (ts++[t])=cM F (keep F ts) t:=List.foldl_append ..
   have k2:keep (av P) (ts++[t])=cM (av P) (keep (av P) ts) t:=List.foldl_append ..
   have m1:=nF F (keep F ts) t
   have m2:=nF (av P) (keep (av P) ts) t
   have ms:(ts++[t]).length=ts.length+1:=by exact rE List.length_append rfl
   have nxt:∀Dm,cK Dm A (.str mo) T (cM F (keep F ts) t) (cM (av P) (keep (av P) ts) t)→(∀b,b∉A.all→Dm b=σ1 b)→Ψ .next [some (.str mo),some (zW ex),some (jM L S),some (.lst (own.map bb)),some (.dS (av P)),some (.dS F),some (.ref A.a),some (.str t.1),some (.str t.2.1),some (.str t.2.2),Dk] Dm:=fun Dm h5 h6=>
    (hn _ _ (dp _ _ _ (ts++[t]) rfl (by exact rE List.map_append rfl) (by exact rE k1 (rE k2 h5)) h6 (by refine rE k1 ?_;lia) (by refine rE k2 ?_;lia))).1
   refine dz (I:=fun ξ' σ'=>ξ'=[some (.str mo),some (zW ex),some (jM L S),some (.lst (own.map bb)),some (.dS (av P)),some (.dS F),some (.ref A.a),some (.str t.1),some (.str t.2.1),some (.str t.2.2),Dk]∧cK σ' A (.str mo) T (cM F (keep F ts) t) (cM (av P) (keep (av P) ts) t)∧∀b,b∉A.all→σ' b=σ1 b) (fun Ψ hΨ=>?_) fun ξ Dt hJ=>?_
   ·refine oC (o:=look F t.2.2) (fun e=>?_) fun d e=>?_
    ·exact(aG (ar (al (aa rfl) (aa rfl) (eR rfl)) (by exact rE e rfl)) aR) _ (hΨ _ _ (dx rfl (by delta cM;exact rE e EH) HG))
    ·exact(bh (ar (al (aa rfl) (aa rfl) (eR rfl)) (by exact rE e rfl)) (aQ (bd (aA (aa rfl) (aa rfl) (d8 rfl e)) (gz (ak (aa rfl) (e9 EH.a EH.da) rfl p.attr) (aa rfl) EH.f (by lia))))) _ (hΨ _ _ (dx rfl (by exact rE (show cM F (keep F ts) t=put (keep F ts) t.2.2 d by delta cM;exact rE e rfl) (EH.GG _)) (hb (.inl rfl) _ HG)))
   refine dF hJ fun q0 h5 h6=>?_;clear hJ;subst q0
   exact nxt _ h5 h6
  ·revert hI;refine fun h0=>fD h0 fun o7 o8 o9 ts q4 hts hI FK l1 l2=>?_;clear h0;subst q4
   obtain rfl:aJ T=ts:=kz hts
   exact bw (aV (aa rfl)) (h T A σ3 hr hI (fun b hb=>(FK b hb).trans (ho b hb)) hf)
  ·exact hs.at_
end
section
variable{X:af→Prop}
theorem Pg.obj{h:Heap}{o:Obj}(p:Pg)(hK:∀P,(kW P).lookup a=some o)(X:cx.K.In h):h.get? a=some o:=by
 refine xE (p.hK) fun P hP=>?_
 exact X _ _ (by exact rE hP (hK P))
theorem Pg.init(p:Pg)(h:∀P,si (kW P) Cl f):si cx.K Cl f:=by
 refine xE (p.hK) fun P hP=>?_;exact rE hP (h P)
theorem lT(had:a≠da)(ha:σ a=none)(hd:σ da=none)(h:Φ (.ins Cl fs) σ):
 ∃S d',(∀b,S b→((σ.put da (.ns fs)).put a (.ins Cl da)) b≠none)∧Fz ((σ.put da (.ns fs)).put a (.ins Cl da)) S (.ref a) d'∧Φ d' (((σ.put da (.ns fs)).put a (.ins Cl da)).minus S):=by
 have e2:((σ.put da (.ns fs)).put a (.ins Cl da)) da=some (.ns fs):=(af.CO _ _ had.symm).trans (af.CN _ _ _)
 refine(bH (fun b=>σ b=none∧((σ.put da (.ns fs)).put a (.ins Cl da)) b≠none) _ (fun zz h=>h.2) (.ins ⟨ha,by exact rE (af.CN _ _ _) (fun q=>by exact sN q)⟩ ⟨hd,by exact rE e2 (fun q=>by exact sN q)⟩ (af.CN _ _ _) e2 (ry.refl _)) ?_)
 refine rE (ny (dE.trans (dE.put hd) (dE.put ((af.CO _ _ had).trans ha)))) ?_
 exact h
theorem mK(p:Pg){k nm sb:D}(ha:σ a=some (.ins 301 da))(hd:σ da=some (.ns []))(had:a≠da)
 (h:Φ .none (σ.put da (.ns [(ofString "place",.none),(ofString "kind",k),(ofString "name",nm),(ofString "subs",sb)]))):aL C (n+2) (.ref 291) [.ref a,k,nm,sb] σ Φ X:=by
 refine' bJ p (C:=C) (n:=(n+1)) (ow:=[]) (es:=[.none]) (ws:=[.none]) (sl:=[ofString "self",ofString "kind",ofString "name",ofString "subs",ofString "place"]) (names:=[ofString "self",ofString "kind",ofString "name",ofString "subs",ofString "place"]) (fun zz=>rfl) (fun zz=>rfl) ?hp ?hb ?hs rfl ?hsc ?hnd rfl rfl (fun zz=> .cons .none .nil) ?hbind (w:=?w) ?hsx ?hw (hlk:=?hlk)
 case hp=>(conv=>lhs;whnf)
 case hb=>(conv=>lhs;whnf)
 case hs=>(conv=>lhs;whnf)
 case hsc=>rfl
 case hnd=>decide
 case hlk=>decide
 case hbind=>exact fun s vs X hl=>jA (P:=fun vs=>BindsTo s _ ⟨vs,[]⟩ (List.zip _ (vs++_))) hl fun a0 a1 a2 a3=>BindsTo.of_defaults rfl (p.obj (fun zz=>rfl) X) rfl rfl rfl
 case hsx=>infer_instance
 refine'(?_:_)
 refine aN (?_:_)
 refine(dx ⟨by decide,by decide⟩ (by decide+kernel) (cQ 272 262 p.EO (p.init (fun zz=>(dx rfl rfl rfl))) p.keep ((ac (aa rfl) (ae (aa rfl))) _ (kD p (.inl ha) hd ?_))))
 refine aD (bd (aa rfl) (c7 (aa rfl) (cN ((af.CO _ _ had).trans ha) (af.CN _ _ _)) (Nat.le_of_ble_eq_true rfl) p.set)) ?_
 refine rE (af.CR _ _ _ _) ?_
 refine aD (bd (aa rfl) (c7 (aa rfl) (cN ((af.CO _ _ had).trans ha) (af.CN _ _ _)) (Nat.le_of_ble_eq_true rfl) p.set)) ?_
 refine rE (af.CR _ _ _ _) ?_
 refine aD (bd (aa rfl) (c7 (aa rfl) (cN ((af.CO _ _ had).trans ha) (af.CN _ _ _)) (Nat.le_of_ble_eq_true rfl) p.set)) ?_
 refine rE (af.CR _ _ _ _) ?_
 exact h
theorem wy(p:Pg){k nm sb:D}(h:Φ (.ins 301 [(ofString "place",.none),(ofString "kind",k),(ofString "name",nm),(ofString "subs",sb)]) σ):aL C (n+3) (.ref 301) [k,nm,sb] σ Φ X:=
 aL.freeze (gq p.make fun a da had ha hd=>mK p (af.CN _ _ _) ((af.CO _ _ had.symm).trans (af.CN _ _ _)) had (by
  refine⟨rfl,?_⟩
  refine rE (af.Dg _ _ _ had) (rE (af.CR _ _ _ _) ?_)
  exact lT had ha hd h))
theorem mI(p:Pg){u v w x y:D}(ha:σ a=some (.ins 328 da))(hd:σ da=some (.ns []))(had:a≠da)
 (h:Φ .none (σ.put da (.ns [(ofString "place",.none),(ofString "module",u),(ofString "names",v),(ofString "hiding",w),(ofString "qualified",x),(ofString "alias",y)]))):aL C (n+2) (.ref 318) [.ref a,u,v,w,x,y] σ Φ X:=by
 refine' bJ p (C:=C) (n:=(n+1)) (ow:=[]) (es:=[.none]) (ws:=[.none]) (sl:=[ofString "self",ofString "module",ofString "names",ofString "hiding",ofString "qualified",ofString "alias",ofString "place"]) (names:=[ofString "self",ofString "module",ofString "names",ofString "hiding",ofString "qualified",ofString "alias",ofString "place"]) (fun zz=>rfl) (fun zz=>rfl) ?hp ?hb ?hs rfl ?hsc ?hnd rfl rfl (fun zz=> .cons .none .nil) ?hbind (w:=?w) ?hsx ?hw (hlk:=?hlk)
 case hp=>(conv=>lhs;whnf)
 case hb=>(conv=>lhs;whnf)
 case hs=>(conv=>lhs;whnf)
 case hsc=>rfl
 case hnd=>decide
 case hlk=>decide
 case hbind=>exact fun s vs X hl=>wL (P:=fun vs=>BindsTo s _ ⟨vs,[]⟩ (List.zip _ (vs++_))) hl fun a0 a1 a2 a3 a4 a5=>BindsTo.of_defaults rfl (p.obj (fun zz=>rfl) X) rfl rfl rfl
 case hsx=>infer_instance
 refine'(?_:_)
 refine aN (?_:_)
 refine(dx ⟨by decide,by decide⟩ (by decide+kernel) (cQ 272 262 p.EO (p.init (fun zz=>(dx rfl rfl rfl))) p.keep ((ac (aa rfl) (ae (aa rfl))) _ (kD p (.inr ha) hd ?_))))
 refine aD (bd (aa rfl) (c7 (aa rfl) (cN ((af.CO _ _ had).trans ha) (af.CN _ _ _)) (Nat.le_of_ble_eq_true rfl) p.set)) ?_
 refine rE (af.CR _ _ _ _) ?_
 refine aD (bd (aa rfl) (c7 (aa rfl) (cN ((af.CO _ _ had).trans ha) (af.CN _ _ _)) (Nat.le_of_ble_eq_true rfl) p.set)) ?_
 refine rE (af.CR _ _ _ _) ?_
 refine aD (bd (aa rfl) (c7 (aa rfl) (cN ((af.CO _ _ had).trans ha) (af.CN _ _ _)) (Nat.le_of_ble_eq_true rfl) p.set)) ?_
 refine rE (af.CR _ _ _ _) ?_
 refine aD (bd (aa rfl) (c7 (aa rfl) (cN ((af.CO _ _ had).trans ha) (af.CN _ _ _)) (Nat.le_of_ble_eq_true rfl) p.set)) ?_
 refine rE (af.CR _ _ _ _) ?_
 refine aD (bd (aa rfl) (c7 (aa rfl) (cN ((af.CO _ _ had).trans ha) (af.CN _ _ _)) (Nat.le_of_ble_eq_true rfl) p.set)) ?_
 refine rE (af.CR _ _ _ _) ?_
 exact h
theorem wv(p:Pg){u v w x y:D}(h:Φ (.ins 328 [(ofString "place",.none),(ofString "module",u),(ofString "names",v),(ofString "hiding",w),(ofString "qualified",x),(ofString "alias",y)]) σ):aL C (n+3) (.ref 328) [u,v,w,x,y] σ Φ X:=
 aL.freeze (gq p.make fun a da had ha hd=>mI p (af.CN _ _ _) ((af.CO _ _ had.symm).trans (af.CN _ _ _)) had (by
  refine⟨rfl,?_⟩
  refine rE (af.Dg _ _ _ had) (rE (af.CR _ _ _ _) ?_)
  exact lT had ha hd h))
end
section
variable{c:Ct}
open Classical in
noncomputable def bG{α β:Type}(f:α→β)(r:α)(x:β):α→β:=fun q=>if q=r then x else f q
theorem aK{α β:Type}(f:α→β)(r:α)(x:β):bG f r x r=x:=if_pos rfl
theorem aj{α β:Type}(f:α→β){r q:α}(x:β)(h:q≠r):bG f r x q=f q:=if_neg h
structure oi{R:Type}(CP:af)(ρ:R→Option Addr)(c:R→AO)(σ:af):Prop where
 ext:dE [] CP σ
 at_:∀r a,ρ r=some a→σ a=some (c r)∧CP a=none
 inj:∀r q a,ρ r=some a→ρ q=some a→r=q
section
variable{R:Type}{ρ:R→Option Addr}{c c':R→AO}{r:R}{t:Addr}{x y:AO}
theorem oi.con(h:oi CP ρ c σ)(e:∀r a,ρ r=some a→c' r=c r):oi CP ρ c' σ:=⟨h.ext,fun r a q=>by refine rE (e r a q) ?_;exact h.at_ r a q,h.inj⟩
theorem oi.put(h:oi CP ρ c σ)(e:ρ r=some a):oi CP ρ (bG c r x) (σ.put a x):=by
 refine⟨fun b y n q=>(af.CO _ _ fun z=>?_).trans (h.ext b y n q),fun q b hq=>?_,h.inj⟩
 ·rw[z,(h.at_ r a e).2]at q;exact nS q
 ·by_cases z:q=r
  ·subst z;rw[e]at hq;(replace hq:=sI hq;subst hq)
   exact⟨by exact rE (af.CN _ _ _) (rE (aK _ _ _) rfl),(h.at_ _ _ e).2⟩
  ·refine⟨?_,(h.at_ _ _ hq).2⟩
   refine rE (aj _ _ z) ?_
   exact(af.CO _ _ fun w=>z (h.inj _ _ a (by exact rE hq (rE w rfl)) e)).trans (h.at_ _ _ hq).1
theorem oi.new(h:oi CP ρ c σ)(e:ρ r=none)(ht:σ t=none):oi CP (bG ρ r (some t)) (bG c r x) (σ.put t x):=by
 have h0:CP t=none:=by
  refine oD (o:=CP t) (fun q=>?_) fun y q=>?_
  ·rfl
  ·have:=h.ext t y (fun z=>by exact nM z) q;rw[ht]at this;exact nS this
 have key:∀q b,q≠r→bG ρ r (some t) q=some b→ρ q=some b∧b≠t:=fun q b hq e=>by
  rw[aj _ _ hq]at e
  exact⟨e,au (h.at_ _ _ e).1 ht⟩
 refine⟨h.ext.trans (dE.put ht),fun q b hq=>?_,fun q q' b hq hq'=>?_⟩
 ·by_cases z:q=r
  ·subst z;rw[aK]at hq;(replace hq:=sI hq;subst hq)
   exact⟨by exact rE (af.CN _ _ _) (rE (aK _ _ _) rfl),h0⟩
  ·refine xA (key q b z hq) fun h1 h2=>?_
   refine rE (aj _ _ z) ?_
   exact⟨(af.CO _ _ h2).trans (h.at_ _ _ h1).1,(h.at_ _ _ h1).2⟩
 ·by_cases z:q=r
  ·by_cases z':q'=r
   ·exact rE z (rE z' rfl)
   ·subst z;rw[aK]at hq;(replace hq:=sI hq;subst hq)
    exact absurd rfl (key q' _ z' hq').2
  ·by_cases z':q'=r
   ·subst z';rw[aK]at hq';(replace hq':=sI hq';subst hq')
    exact absurd rfl (key q _ z hq).2
   ·exact h.inj _ _ b (key q b z hq).1 (key q' b z' hq').1
theorem oi.junk(h:oi CP ρ c σ)(ht:σ t=none):oi CP ρ c (σ.put t x):=
 ⟨h.ext.trans (dE.put ht),fun r a e=>⟨(af.CO _ _ (au (h.at_ r a e).1 ht)).trans (h.at_ r a e).1,(h.at_ r a e).2⟩,h.inj⟩
theorem oi.base(h:oi CP ρ c σ)(ha:CP a=some y):oi (CP.put a x) ρ c (σ.put a x):=by
 refine⟨fun b z n q=>?_,fun r b e=>⟨(af.CO _ _ fun w=>?_).trans (h.at_ r b e).1,(af.CO _ _ fun w=>?_).trans (h.at_ r b e).2⟩,h.inj⟩
 ·by_cases w:b=a
  ·subst w;rw[af.CN]at q⊢;exact q
  ·rw[af.CO _ _ w]at q⊢;exact h.ext b z n q
 ·have:=(h.at_ r b e).2;rw[w,ha]at this;exact sN this
 ·have:=(h.at_ r b e).2;rw[w,ha]at this;exact sN this
end
inductive Rl
 |sc|D2|lots|tabs
 |nm (k:Fin 4)|DO (k:Fin 4)|nt (k:Fin 4)|kl (k:Fin 4) (s:Str)|ll (q:Str)
noncomputable def Rl.tag:Rl→Nat
 | .sc=>0| .D2=>1| .lots=>2| .tabs=>3| .nm _=>4| .DO _=>5| .nt _=>6| .kl _ _=>7| .ll _=>8
theorem Rl.ne{r q:Rl}(h:Nat.beq q.tag r.tag=false):q≠r:=fun e=>by subst e;exact absurd (Nat.beq_refl q.tag) (by exact rE h Bool.false_ne_true)
set_option genInjectivity false in
structure SS where
 ks:Fin 4→List Str
 fl:Fin 4→Str→List Str
 lq:List Str
 lf:Str→List ag
instance:Nonempty SS:=⟨⟨fun zz=>[],fun zz zz=>[],[],fun zz=>[]⟩⟩
noncomputable abbrev aE:Fin 4→Str:=yQ (ofString "value") (ofString "constructor") (ofString "type") (ofString "class")
noncomputable def dc(ρ:Rl→Option Addr)(r:Rl):D:= .ref ((ρ r).getD 0)
noncomputable def yY(ρ:Rl→Option Addr)(s:SS):Rl→AO
 | .sc=> .ins 128 ((ρ .D2).getD 0)
 | .D2=> .ns [(ofString "lots",dc ρ .lots),(ofString "tables",dc ρ .tabs)]
 | .lots=> .dS (s.lq.map fun q=>(q,dc ρ (.ll q)))
 | .tabs=> .dS [(aE 0,dc ρ (.nm 0)),(aE 1,dc ρ (.nm 1)),(aE 2,dc ρ (.nm 2)),(aE 3,dc ρ (.nm 3))]
 | .nm k=> .ins 86 ((ρ (.DO k)).getD 0)
 | .DO k=> .ns [(ofString "kind",.str (aE k)),(ofString "table",dc ρ (.nt k))]
 | .nt k=> .dS ((s.ks k).map fun x=>(x,dc ρ (.kl k x)))
 | .kl k x=> .lst ((s.fl k x).map .str)
 | .ll q=> .lst ((s.lf q).map bb)
structure SL(CP:af)(ρ:Rl→Option Addr)(s:SS)(σ:af):Prop where
 lay:oi CP ρ (yY ρ s) σ
 fix:∀r,(match r with| .kl _ _=>False| .ll _=>False|_=>True)→(ρ r).isSome=true
 kl:∀k x,(ρ (.kl k x)).isSome=true↔x∈s.ks k
 ll:∀q,(ρ (.ll q)).isSome=true↔q∈s.lq
 k0:∀k x,x∉s.ks k→s.fl k x=[]
 l0:∀q,q∉s.lq→s.lf q=[]
noncomputable def SS.key(s:SS)(k:Fin 4)(x:Str):SS:={s with ks:=bG s.ks k (s.ks k++[x])}
noncomputable def SS.push(s:SS)(k:Fin 4)(x f:Str):SS:={s with fl:=bG s.fl k (bG (s.fl k) x (s.fl k x++[f]))}
noncomputable def SS.DX(s:SS)(q:Str):SS:={s with lq:=s.lq++[q]}
noncomputable def SS.Eu(s:SS)(q:Str)(t:ag):SS:={s with lf:=bG s.lf q (s.lf q++[t])}
open Classical in
noncomputable def SS.add(s:SS)(k:Fin 4)(x f:Str):SS:=
 let s1:=if x∈s.ks k then s else s.key k x
 if f∈s1.fl k x then s1 else s1.push k x f
theorem nA(l:List Str)(g:Str→D)(x:Str):look (l.map fun x=>(x,g x)) x=if x∈l then some (g x)else none:=by
 delta look
 refine rE (List.find?_map) ?_
 induction l with
 |nil=>rfl
 |cons y l ih=>
  refine rE (List.find?_cons) ?_
  by_cases h:y=x
  ·subst h;simp
  ·have h':x≠y:=fun q=>h q.symm
   simp only[Function.comp,h,decide_false,List.mem_cons,h',false_or]
   simpa[Function.comp]using ih
theorem qq(l:List Str)(g:Str→D)(x:Str)(d:D)(h:x∉l):put (l.map fun x=>(x,g x)) x d=l.map (fun x=>(x,g x))++[(x,d)]:=by
 delta put
 rw[if_neg]
 simp only[List.any_map,List.any_eq_true,not_exists,not_and,Function.comp,decide_eq_true_eq]
 exact fun y hy q=>h (q▸hy)
section
variable{ρ:Rl→Option Addr}{s:SS}{k:Fin 4}{x f q:Str}{t:Addr}
theorem dK{r:Rl}(h:ρ r=some a):dc ρ r= .ref a:=by delta dc;exact rE h rfl
theorem ba{r r':Rl}{o:Option Addr}(h:r≠r'):dc (bG ρ r' o) r=dc ρ r:=by delta dc;exact rE (aj _ _ h) rfl
theorem SL.junk{y:AO}(h:SL CP ρ s σ)(ht:σ t=none):SL CP ρ s (σ.put t y):=⟨h.lay.junk ht,h.fix,h.kl,h.ll,h.k0,h.l0⟩
theorem SL.base{y z:AO}(h:SL CP ρ s σ)(ha:CP a=some y):SL (CP.put a z) ρ s (σ.put a z):=⟨h.lay.base ha,h.fix,h.kl,h.ll,h.k0,h.l0⟩
theorem SL.ground{y:AO}(h:SL CP ρ s σ)(ht:σ t=none):SL (CP.put t y) ρ s (σ.put t y):=by
 refine⟨⟨fun b z n q=>?_,fun r b e=>⟨(af.CO _ _ (au (h.lay.at_ r b e).1 ht)).trans (h.lay.at_ r b e).1,(af.CO _ _ (au (h.lay.at_ r b e).1 ht)).trans (h.lay.at_ r b e).2⟩,h.lay.inj⟩,h.fix,h.kl,h.ll,h.k0,h.l0⟩
 by_cases w:b=t
 ·subst w;rw[af.CN]at q⊢;exact q
 ·rw[af.CO _ _ w]at q⊢;exact h.lay.ext b z n q
theorem SL.push(h:SL CP ρ s σ)(hr:ρ (.kl k x)=some a)(f:Str):SL CP ρ (s.push k x f) (σ.put a (.lst ((s.fl k x).map .str++[.str f]))):=by
 have hx:x∈s.ks k:=(h.kl k x).mp (by exact rE hr rfl)
 refine⟨(h.lay.put hr).con fun r b e=>?_,h.fix,h.kl,h.ll,fun k' x' hx'=>?_,h.l0⟩
 ·by_cases z:r= .kl k x
  ·subst z;refine rE (aK _ _ _) ?_
   refine(?_:AO.lst ((bG s.fl k _ k x).map .str)=_)
   exact rE (aK _ _ _) (rE (aK _ _ _) (rE List.map_append rfl))
  ·refine rE (aj _ _ z) ?_
   cases r with
   |kl k' x'=>
    refine(?_:AO.lst ((bG s.fl k _ k' x').map .str)=AO.lst ((s.fl k' x').map .str))
    by_cases w:k'=k
    ·subst w
     exact rE (aK _ _ _) (rE (aj _ _ fun q=>z (by exact rE q rfl)) rfl)
    ·exact rE (aj _ _ w) rfl
   |_=>rfl
 ·refine(?_:bG s.fl k _ k' x'=[])
  by_cases w:k'=k
  ·subst w
   refine rE (aK _ _ _) (rE (aj _ _ fun q=>hx' (by exact rE q hx)) ?_);exact h.k0 _ _ hx'
  ·exact rE (aj _ _ w) (h.k0 _ _ hx')
theorem SL.Eu(h:SL CP ρ s σ)(hr:ρ (.ll q)=some a)(t:ag):SL CP ρ (s.Eu q t) (σ.put a (.lst ((s.lf q).map bb++[bb t]))):=by
 have hx:q∈s.lq:=(h.ll q).mp (by exact rE hr rfl)
 refine⟨(h.lay.put hr).con fun r b e=>?_,h.fix,h.kl,h.ll,h.k0,fun q' hx'=>?_⟩
 ·by_cases z:r= .ll q
  ·subst z;refine rE (aK _ _ _) ?_
   refine(?_:AO.lst ((bG s.lf q _ q).map bb)=_)
   exact rE (aK _ _ _) (rE List.map_append rfl)
  ·refine rE (aj _ _ z) ?_
   cases r with
   |ll q'=>
    refine(?_:AO.lst ((bG s.lf q _ q').map bb)=AO.lst ((s.lf q').map bb))
    exact rE (aj _ _ fun e=>z (by exact rE e rfl)) rfl
   |_=>rfl
 ·refine(?_:bG s.lf q _ q'=[])
  refine rE (aj _ _ fun e=>hx' (by exact rE e hx)) ?_;exact h.l0 _ hx'
theorem fX{o:Option Addr}(h:¬o.isSome=true):o=none:=by cases o with|none=>rfl|some _=>exact absurd rfl h
theorem dy{r q:Rl}:(bG ρ r (some t) q).isSome=true↔q=r∨(ρ q).isSome=true:=by
 by_cases z:q=r
 ·refine rE z (rE (aK _ _ _) ?_);simp
 ·refine rE (aj _ _ z) ?_;simp[z]
theorem SL.key(h:SL CP ρ s σ)(hx:x∉s.ks k)(ha:ρ (.nt k)=some a)(ht:σ t=none):SL CP (bG ρ (.kl k x) (some t)) (s.key k x) ((σ.put t (.lst [])).put a (.dS (put ((s.ks k).map fun x=>(x,dc ρ (.kl k x))) x (.ref t)))):=by
 have hr:ρ (.kl k x)=none:=fX fun z=>hx ((h.kl k x).mp z)
 refine⟨((h.lay.new hr ht).put (r:= .nt k) (by exact rE (aj _ _ (by exact Rl.ne rfl)) ha)).con fun r b e=>?_,fun r hr=>dy.mpr (.inr (h.fix r hr)),fun k' x'=>?_,fun q=>?_,fun k' x' hx'=>?_,h.l0⟩
 ·by_cases z:r= .nt k
  ·subst z;refine rE (aK _ _ _) (rE (qq _ _ _ _ hx) ?_)
   refine(?_:AO.dS ((bG s.ks k _ k).map fun y=>(y,dc (bG ρ (.kl k x) (some t)) (.kl k y)))=_)
   refine rE (aK _ _ _) (rE List.map_append (rE List.map_singleton (rE (dK (aK _ _ _)) ?_)))
   congr 2
   apply List.map_congr_left
   intro y hy
   rw[ba]
   intro q
   cases q
   exact hx hy
  ·refine rE (aj _ _ z) ?_
   by_cases z':r= .kl k x
   ·subst z';refine rE (aK _ _ _) ?_
    refine(?_:AO.lst ((s.fl k x).map .str)=_)
    exact rE (h.k0 k x hx) rfl
   ·refine rE (aj _ _ z') ?_
    cases r with
    |kl k' x'=>rfl
    |ll q=>rfl
    |sc=>show AO.ins 128 ((bG ρ _ _ _).getD 0)=_;exact rE (aj _ _ (by exact Rl.ne rfl)) rfl
    |D2=>show AO.ns [(_,dc _ _),(_,dc _ _)]=_;exact rE (ba (by exact Rl.ne rfl)) (rE (ba (by exact Rl.ne rfl)) rfl)
    |lots=>show AO.dS (List.map _ _)=AO.dS (List.map _ _);congr 1;apply List.map_congr_left;intro y hy;exact rE (ba (by exact Rl.ne rfl)) rfl
    |tabs=>show AO.dS [(_,dc _ _),(_,dc _ _),(_,dc _ _),(_,dc _ _)]=_;exact rE (ba (by exact Rl.ne rfl)) (rE (ba (by exact Rl.ne rfl)) (rE (ba (by exact Rl.ne rfl)) (rE (ba (by exact Rl.ne rfl)) rfl)))
    |nm k'=>show AO.ins 86 ((bG ρ _ _ _).getD 0)=_;exact rE (aj _ _ (by exact Rl.ne rfl)) rfl
    |DO k'=>show AO.ns [_,(_,dc _ _)]=_;exact rE (ba (by exact Rl.ne rfl)) rfl
    |nt k'=>
     have w:k'≠k:=fun q=>z (by exact rE q rfl)
     refine(?_:AO.dS ((bG s.ks k _ k').map fun y=>(y,dc (bG ρ (.kl k x) (some t)) (.kl k' y)))=AO.dS ((s.ks k').map fun y=>(y,dc ρ (.kl k' y))))
     refine rE (aj _ _ w) ?_
     congr 1;apply List.map_congr_left;intro y hy;rw[ba];intro q;cases q;exact w rfl
 ·refine rE (propext dy) (rE (propext (h.kl _ _)) ?_)
  refine(?_:_↔x'∈bG s.ks k _ k')
  by_cases w:k'=k
  ·subst w;refine rE (aK _ _ _) (rE (propext List.mem_append) (rE (propext List.mem_singleton) ?_))
   constructor
   ·rintro(q|q)
    ·cases q;exact .inr rfl
    ·exact .inl q
   ·rintro(q|q)
    ·exact .inr q
    ·exact .inl (by exact rE q rfl)
  ·refine rE (aj _ _ w) ?_
   constructor
   ·rintro(q|q)
    ·cases q;exact absurd rfl w
    ·exact q
   ·exact .inr
 ·refine rE (propext dy) (rE (propext (h.ll _)) ?_)
  exact⟨fun z=>z.resolve_left (by exact Rl.ne rfl),.inr⟩
 ·refine h.k0 k' x' fun z=>hx' ?_
  refine(?_:x'∈bG s.ks k _ k')
  by_cases w:k'=k
  ·subst w;exact rE (aK _ _ _) (List.mem_append_left _ z)
  ·exact rE (aj _ _ w) z
theorem SL.DX(h:SL CP ρ s σ)(hx:q∉s.lq)(ha:ρ .lots=some a)(ht:σ t=none):SL CP (bG ρ (.ll q) (some t)) (s.DX q) ((σ.put t (.lst [])).put a (.dS (put (s.lq.map fun x=>(x,dc ρ (.ll x))) q (.ref t)))):=by
 have hr:ρ (.ll q)=none:=fX fun z=>hx ((h.ll q).mp z)
 refine⟨((h.lay.new hr ht).put (r:= .lots) (by exact rE (aj _ _ (by exact Rl.ne rfl)) ha)).con fun r b e=>?_,fun r hr=>dy.mpr (.inr (h.fix r hr)),fun k' x'=>?_,fun q'=>?_,h.k0,fun x' hx'=>?_⟩
 ·by_cases z:r= .lots
  ·subst z;refine rE (aK _ _ _) (rE (qq _ _ _ _ hx) ?_)
   refine(?_:AO.dS ((s.lq++[q]).map fun y=>(y,dc (bG ρ (.ll q) (some t)) (.ll y)))=_)
   refine rE List.map_append (rE List.map_singleton (rE (dK (aK _ _ _)) ?_))
   congr 2
   apply List.map_congr_left
   intro y hy
   rw[ba]
   intro q
   cases q
   exact hx hy
  ·refine rE (aj _ _ z) ?_
   by_cases z':r= .ll q
   ·subst z';refine rE (aK _ _ _) ?_
    refine(?_:AO.lst ((s.lf q).map bb)=_)
    exact rE (h.l0 q hx) rfl
   ·refine rE (aj _ _ z') ?_
    cases r with
    |kl k' x'=>rfl
    |ll q=>rfl
    |sc=>show AO.ins 128 ((bG ρ _ _ _).getD 0)=_;exact rE (aj _ _ (by exact Rl.ne rfl)) rfl
    |D2=>show AO.ns [(_,dc _ _),(_,dc _ _)]=_;exact rE (ba (by exact Rl.ne rfl)) (rE (ba (by exact Rl.ne rfl)) rfl)
    |lots=>exact absurd rfl z
    |tabs=>show AO.dS [(_,dc _ _),(_,dc _ _),(_,dc _ _),(_,dc _ _)]=_;exact rE (ba (by exact Rl.ne rfl)) (rE (ba (by exact Rl.ne rfl)) (rE (ba (by exact Rl.ne rfl)) (rE (ba (by exact Rl.ne rfl)) rfl)))
    |nm k'=>show AO.ins 86 ((bG ρ _ _ _).getD 0)=_;exact rE (aj _ _ (by exact Rl.ne rfl)) rfl
    |DO k'=>show AO.ns [_,(_,dc _ _)]=_;exact rE (ba (by exact Rl.ne rfl)) rfl
    |nt k'=>show AO.dS (List.map _ _)=AO.dS (List.map _ _);congr 1;apply List.map_congr_left;intro y hy;exact rE (ba (by exact Rl.ne rfl)) rfl
 ·refine rE (propext dy) (rE (propext (h.kl _ _)) ?_)
  exact⟨fun z=>z.resolve_left (by exact Rl.ne rfl),.inr⟩
 ·refine rE (propext dy) (rE (propext (h.ll _)) ?_)
  refine(?_:_↔q'∈s.lq++[q])
  refine rE (propext List.mem_append) (rE (propext List.mem_singleton) ?_)
  constructor
  ·rintro(q|q)
   ·cases q;exact .inr rfl
   ·exact .inl q
  ·rintro(q|q)
   ·exact .inr q
   ·exact .inl (by exact rE q rfl)
 ·exact h.l0 x' fun z=>hx' (List.mem_append_left _ z)
end
end
variable{ρ ρ' FQ:Rl→Option Addr}
section
variable{X:af→Prop}{s:SS}{k:Fin 4}{f q:Str}{t:Addr}
theorem hV(p:Pg){k:Nat}{y:Str}(hk:bN k x=some y)(h:Φ (.str (Txt.slice x none (some (if(x.length:Int)-y.length-1>0 then(x.length:Int)-y.length-1 else 0)))) σ):aL C (n+3) (.ref 153) [.str x] σ Φ X:=by
 refine' bJ p (C:=C) (n:=(n+2)) (ow:=[]) (es:=[]) (ws:=[]) (sl:=[ofString "full"]) (names:=[ofString "full"]) (fun zz=>rfl) (fun zz=>rfl) ?hp ?hb ?hs rfl ?hsc ?hnd rfl rfl (fun zz=> .nil) ?hbind (w:=?w) ?hsx ?hw (hlk:=?hlk)
 case hp=>(conv=>lhs;whnf)
 case hb=>(conv=>lhs;whnf)
 case hs=>(conv=>lhs;whnf)
 case hsc=>rfl
 case hnd=>decide
 case hlk=>decide
 case hbind=>exact fun s vs X hl=>gS (P:=fun vs=>BindsTo s _ ⟨vs,[]⟩ (List.zip _ (vs++_))) hl fun a0=>(BindsTo.of_eq rfl)
 case hsx=>infer_instance
 refine'(?_:_)
 refine bw (aV (aA (aa rfl) (ef p.F4 (ac (ad (d:= .int 0)) (ae (aA (aA (ef p.Dn (ae (aa rfl)) fun zz q=>q) (ef p.Dn (ae (bI (by decide+kernel) p.C3 p.keep (ae (aa rfl)) fun zz q=>fG p hk q)) fun zz q=>q) oU) (ad (d:= .int 1)) oU))) fun zz q=>q) fun zz q=>q)) h
theorem SL.got(h:SL CP ρ s σ){r:Rl}(hr:match r with| .kl _ _=>False| .ll _=>False|_=>True):∃a,ρ r=some a∧σ a=some (yY ρ s r):=by
 refine xE (Option.isSome_iff_exists.mp (h.fix r hr)) fun a ha=>?_
 exact(aP a ha ((h.lay.at_ _ _ ha).1))
def Up(ρ ρ':Rl→Option Addr):Prop:=∀r a,ρ r=some a→ρ' r=some a
theorem Up.refl(ρ:Rl→Option Addr):Up ρ ρ:=fun zz zz h=>h
theorem Up.trans(h:Up ρ ρ')(k:Up ρ' FQ):Up ρ FQ:=fun r a e=>k r a (h r a e)
theorem Up.new{r:Rl}{o:Option Addr}(h:ρ r=none):Up ρ (bG ρ r o):=fun q a e=>by exact rE (aj _ _ fun z=>by rw[z,h]at e;exact nS e) e
theorem qS{b:Addr}{l:List Str}(h:σ b=some (.lst (l.map .str))):dq σ .NotIn (.str x) (.ref b)=some (!decide (x∈l)):=by
 have e1:cw σ (.ref b)=none:=by delta cw;simp only[h]
 have e2:gv σ (.ref b)=none:=by delta gv;simp only[h]
 refine(?_:(kY σ (.str x) (.ref b)).map (!·)=_)
 delta kY
 refine rE e1 (rE e2 (rE (dD h) ?_))
 refine(?_:Option.map _ (if(pl 8 (.str x)&&(l.map D.str).all (pl 8))=true then some (gb (.str x) (l.map .str))else none)=_)
 refine rE (if_pos (by exact rE (qt _) rfl)) (rE (lK _ _) ?_);rfl
theorem kE(p:Pg)(hs:SL CP ρ s σ)(ha:ρ (.nm k)=some a)(hz:(s.ks k).length≤1000)(hz2:∀x,(s.fl k x).length≤1000)
 (h:∀ρ' σ',SL CP ρ' (s.add k x f) σ'→Up ρ ρ'→Φ .none σ'):aL C (n+2) (.ref 69) [.ref a,.str x,.str f] σ Φ X:=by
 refine' bJ p (C:=C) (n:=(n+1)) (ow:=[(19,44)]) (es:=[]) (ws:=[]) (sl:=[ofString "self",ofString "said",ofString "full",ofString "known"]) (names:=[ofString "self",ofString "said",ofString "full"]) (fun zz=>rfl) (fun zz=>rfl) ?hp ?hb ?hs rfl ?hsc ?hnd rfl rfl (fun zz=> .nil) ?hbind (w:=?w) ?hsx ?hw (hlk:=?hlk)
 case hp=>(conv=>lhs;whnf)
 case hb=>(conv=>lhs;whnf)
 case hs=>(conv=>lhs;whnf)
 case hsc=>rfl
 case hnd=>decide
 case hlk=>decide
 case hbind=>exact fun s vs X hl=>jB (P:=fun vs=>BindsTo s _ ⟨vs,[]⟩ (List.zip _ (vs++_))) hl fun a0 a1 a2=>(BindsTo.of_eq rfl)
 case hsx=>infer_instance
 refine'(?_:_)
 refine aF (hs.got (r:= .DO k) trivial) fun da hda Gg=>?_
 refine aF (hs.got (r:= .nt k) trivial) fun nt hnt ent=>?_
 have ea:=(hs.lay.at_ _ _ ha).1
 have hi:du σ (.ref a)=some (86,[(ofString "kind",.str (aE k)),(ofString "table",.ref nt)]):=e9 (da:=da) (by refine rE ea ?_;refine(?_:some (AO.ins 86 ((ρ _).getD 0))=_);exact rE hda rfl) (by refine rE Gg ?_;refine(?_:some (AO.ns [_,(_,dc ρ _)])=_);exact rE (dK hnt) rfl)
 refine dz (I:=fun ξ σ1=>∃Ep b,ξ=[some (.ref a),some (.str x),some (.str f),some (.ref b)]∧SL CP Ep (open Classical in if x∈s.ks k then s else s.key k x) σ1∧Up ρ Ep∧Ep (.kl k x)=some b) (fun Ψ hΨ=>?_) fun ξ σ1 hI=>?_
 ·refine(b8 ⟨by decide,by decide⟩ (.ref a) rfl _ _ (.ref nt) hi rfl p.attr (.inl (fB ent▸rfl)) (bP (.str x) rfl (Nat.zero_le _) (fun t ht=>?_)))
  have Hm:(σ.put t (.lst [])) nt=some (yY ρ s (.nt k)):=(af.CO _ _ (au ent ht)).trans ent
  have hkey:look ((s.ks k).map fun x=>(x,dc ρ (.kl k x))) x=if x∈s.ks k then some (dc ρ (.kl k x))else none:=nA ..
  refine(cQ nt _ (oR Hm) (by refine rE (List.length_map _) ?_;lia) (fun d hd=>?_) (fun hd=>?_))
  ·rw[hkey]at hd
   by_cases hx:x∈s.ks k
   ·rw[if_pos hx]at hd;(replace hd:=sI hd;subst hd)
    refine xE (Option.isSome_iff_exists.mp ((hs.kl k x).mpr hx)) fun b hb=>?_
    refine rE (dK hb) ?_
    exact hΨ _ _ (cQ ρ b rfl (by exact rE (if_pos hx) (hs.junk ht)) (.refl _) hb)
   ·rw[if_neg hx]at hd;exact nS hd
  ·rw[hkey]at hd
   by_cases hx:x∈s.ks k
   ·rw[if_pos hx]at hd;exact sN hd
   ·exact hΨ _ _ (cQ _ t rfl (by exact rE (if_neg hx) (hs.key hx hnt ht)) (.new (fX fun z=>hx ((hs.kl k x).mp z))) (aK _ _ _))
 ·refine cy hI fun Ep b q2 hs1 hu hb=>?_;clear hI;subst q2
  have hadd:s.add k x f=open Classical in if f∈(if x∈s.ks k then s else s.key k x).fl k x then(if x∈s.ks k then s else s.key k x)else(if x∈s.ks k then s else s.key k x).push k x f:=rfl
  have hfl:(open Classical in if x∈s.ks k then s else s.key k x).fl k x=s.fl k x:=by split<;>rfl
  generalize (open Classical in if x∈s.ks k then s else s.key k x)=s1 at*
  have eb:=(hs1.lay.at_ _ _ hb).1
  have hl:(s1.fl k x).length≤1000:=hfl▸hz2 x
  have hin:dq σ1 .NotIn (.str f) (.ref b)=some (!decide (f∈s1.fl k x)):=qS eb
  by_cases hf:f∈s1.fl k x
  ·refine aD (aG (ar (al (aa rfl) (aa rfl) hin) (by simp[hf])) aR) (h Ep σ1 ?_ hu)
   exact rE hadd (rE (if_pos hf) hs1)
  ·refine aD (bh (ar (al (aa rfl) (aa rfl) hin) (by simp[hf])) (aQ (gB (dO (by decide) (aa rfl) (er eb) (ae (aa rfl)) (lD eb (by refine rE (List.length_map _) ?_;lia)))))) (h Ep _ ?_ hu)
   exact rE hadd (rE (if_neg hf) (hs1.push hb f))
end
section
variable{X:af→Prop}{s:SS}{k:Fin 4}{f q:Str}{t:Addr}
noncomputable abbrev Aj:SS:=⟨fun zz=>[],fun zz zz=>[],[],fun zz=>[]⟩
noncomputable def BY(j:Nat)(ρ:Rl→Option Addr):Rl→AO
 | .tabs=> .dS ((([0,1,2,3]:List (Fin 4)).take j).map fun k=>(aE k,dc ρ (.nm k)))
 |r=>yY ρ Aj r
structure PL(CP:af)(a:Addr)(j:Nat)(ρ:Rl→Option Addr)(σ:af):Prop where
 lay:oi CP ρ (BY j ρ) σ
 sc:ρ .sc=some a
 f2:(ρ .D2).isSome=true
 f3:(ρ .lots).isSome=true
 f4:(ρ .tabs).isSome=true
 nm:∀k,(ρ (.nm k)).isSome=true↔k.val<j
 DO:∀k,(ρ (.DO k)).isSome=true↔k.val<j
 nt:∀k,(ρ (.nt k)).isSome=true↔k.val<j
 kl:∀k x,ρ (.kl k x)=none
 ll:∀q,ρ (.ll q)=none
theorem vc(p:Pg):zg (ofString "KINDS") (.tup ((([0,1,2,3]:List (Fin 4)).map fun k=>D.str (aE k)))):=
 (gp (by decide+kernel) _ p.Fb (.tup (p.obj (fun zz=>rfl) p.ok.X) rfl rfl (.cons (.str _ _ ⟨by decide+kernel,by decide+kernel⟩) (.cons (.str _ _ ⟨by decide+kernel,by decide+kernel⟩) (.cons (.str _ _ ⟨by decide+kernel,by decide+kernel⟩) (.cons (.str _ _ ⟨by decide+kernel,by decide+kernel⟩) .nil))))))
theorem i9:∀j k:Fin 4,aE j=aE k→j=k:=by decide+kernel
theorem yk{K:Type}[DecidableEq K]{l:List (K×D)}{x:K}(h:∀y∈l,y.1≠x):put l x d=l++[(x,d)]:=by
 delta put
 rw[if_neg]
 simp only[List.any_eq_true,not_exists,not_and,decide_eq_true_eq]
 exact h
theorem Bf:∀k:Fin 4,([0,1,2,3]:List (Fin 4)).take (k.val+1)=([0,1,2,3]:List (Fin 4)).take k.val++[k]:=by decide
theorem BC:∀k:Fin 4,∀k'∈([0,1,2,3]:List (Fin 4)).take k.val,k'≠k:=by decide
theorem PL.step{tb t:Addr}{k:Fin 4}(hj:k.val=j)(h:PL CP a j ρ σ)(htb:ρ .tabs=some tb)(n1:a'≠da)(n2:t≠a')(n3:t≠da)(h1:σ a'=none)(h2:σ da=none)(h3:σ t=none):
 PL CP a (j+1) (bG (bG (bG ρ (.DO k) (some da)) (.nm k) (some a')) (.nt k) (some t))
  (((((σ.put da (.ns [(ofString "kind",.str (aE k)),(ofString "table",.ref t)])).put a' (.ins 86 da)).put t (.dS []))).put tb (.dS (put ((([0,1,2,3]:List (Fin 4)).take j).map fun k=>(aE k,dc ρ (.nm k))) (aE k) (.ref a')))):=by
 revert hj h htb n1 n2 n3 h1 h2 h3;revert CP σ ρ a tb a' da t j k;apply zq
 generalize (b9 _ _).1.1.1.1=a,(b9 _ _).1.1.1.2=da,(b9 _ _).1.1.2=a',(b9 _ _).1.2.1=j,(b9 _ _).1.2.2=σ,(b9 _ _).2.1.1.1=CP,(b9 _ _).2.1.1.2=ρ,(b9 _ _).2.1.2=tb,(b9 _ _).2.2.1=t,(b9 _ _).2.2.2=k;intro hj h htb n1 n2 n3 h1 h2 h3
 have m1:ρ (.nm k)=none:=fX fun q=>by have:=(h.nm k).mp q;lia
 have m2:ρ (.DO k)=none:=fX fun q=>by have:=(h.DO k).mp q;lia
 have m3:ρ (.nt k)=none:=fX fun q=>by have:=(h.nt k).mp q;lia
 have l1:=h.lay.new (x:= .ns [(ofString "kind",.str (aE k)),(ofString "table",.ref t)]) m2 h2
 have l2:=l1.new (r:= .nm k) (x:= .ins 86 da) (by exact rE (aj _ _ (by exact Rl.ne rfl)) m1) ((af.CO _ _ n1).trans h1)
 have l3:=l2.new (r:= .nt k) (x:= .dS []) (by exact rE (aj _ _ (by exact Rl.ne rfl)) (rE (aj _ _ (by exact Rl.ne rfl)) m3)) ((af.CO _ _ n2).trans ((af.CO _ _ n3).trans h3))
 have l4:=l3.put (r:= .tabs) (a:=tb) (x:=(.dS (put ((([0,1,2,3]:List (Fin 4)).take j).map fun k=>(aE k,dc ρ (.nm k))) (aE k) (.ref a')))) (by exact rE (aj _ _ (by exact Rl.ne rfl)) (rE (aj _ _ (by exact Rl.ne rfl)) (rE (aj _ _ (by exact Rl.ne rfl)) htb)))
 have tH:∀r,(bG (bG (bG ρ (.DO k) (some da)) (.nm k) (some a')) (.nt k) (some t) r).isSome=true↔r= .nt k∨r= .nm k∨r= .DO k∨(ρ r).isSome=true:=fun r=>by rw[dy,dy,dy]
 have lt:∀k':Fin 4,k'.val<j+1↔k'=k∨k'.val<j:=fun k'=>by rw[Fin.ext_iff];lia
 refine⟨l4.con fun r b e=>?_,?_,(tH _).mpr (.inr (.inr (.inr h.f2))),(tH _).mpr (.inr (.inr (.inr h.f3))),(tH _).mpr (.inr (.inr (.inr h.f4))),fun k'=>?_,fun k'=>?_,fun k'=>?_,fun k' x=>?_,fun q=>?_⟩
 ·clear l1 l2 l3 l4 tH lt m1 m2 m3 h1 h2 h3
  by_cases z1:r= .tabs
  ·subst z1 hj
   rw[aK,yk]
   ·refine(?_:AO.dS (List.map _ (List.take (k.val+1) _))=_)
    rw[Bf,List.map_append,List.map_singleton,dc,aj _ _ (by exact Rl.ne rfl),aK]
    congr 2
    apply List.map_congr_left
    intro k' hk'
    have:=BC k k' hk'
    exact rE (ba (by exact Rl.ne rfl)) (rE (ba (by intro q;cases q;exact this rfl)) (rE (ba (by exact Rl.ne rfl)) rfl))
   ·intro y hy q
    refine aF (List.mem_map.mp hy) fun k' hk' q2=>?_;subst q2
    exact BC k k' hk' (i9 _ _ q)
  refine rE (aj _ _ z1) ?_
  by_cases z2:r= .nt k
  ·subst z2;exact rE (aK _ _ _) rfl
  refine rE (aj _ _ z2) ?_
  by_cases z3:r= .nm k
  ·subst z3;refine rE (aK _ _ _) ?_
   refine(?_:AO.ins 86 (Option.getD (bG _ _ _ _) 0)=_)
   exact rE (aj _ _ (by exact Rl.ne rfl)) (rE (aj _ _ (by exact Rl.ne rfl)) (rE (aK _ _ _) rfl))
  refine rE (aj _ _ z3) ?_
  by_cases z4:r= .DO k
  ·subst z4;refine rE (aK _ _ _) ?_
   refine(?_:AO.ns [_,(_,dc _ _)]=_)
   rw[dc,aK];rfl
  refine rE (aj _ _ z4) ?_
  cases r with
  |tabs=>exact absurd rfl z1
  |sc=>show AO.ins 128 (Option.getD (bG _ _ _ _) 0)=_;exact rE (aj _ _ (by exact Rl.ne rfl)) (rE (aj _ _ (by exact Rl.ne rfl)) (rE (aj _ _ (by exact Rl.ne rfl)) rfl))
  |D2=>show AO.ns [(_,dc _ _),(_,dc _ _)]=_;exact rE (ba (by exact Rl.ne rfl)) (rE (ba (by exact Rl.ne rfl)) (rE (ba (by exact Rl.ne rfl)) (rE (ba (by exact Rl.ne rfl)) (rE (ba (by exact Rl.ne rfl)) (rE (ba (by exact Rl.ne rfl)) rfl)))))
  |nm k'=>show AO.ins 86 (Option.getD (bG _ _ _ _) 0)=_;exact rE (aj _ _ (by exact Rl.ne rfl)) (rE (aj _ _ (by exact Rl.ne rfl)) (rE (aj _ _ (fun q=>z3 (by cases q;rfl))) rfl))
  |DO k'=>show AO.ns [_,(_,dc _ _)]=_;exact rE (ba (fun q=>z4 (by cases q;rfl))) (rE (ba (by exact Rl.ne rfl)) (rE (ba (by exact Rl.ne rfl)) rfl))
  |_=>rfl
 ·rw[aj _ _ (by exact Rl.ne rfl),aj _ _ (by exact Rl.ne rfl),aj _ _ (by exact Rl.ne rfl)];exact h.sc
 ·exact rE (propext (tH _)) (rE (propext (h.nm _)) (rE (propext (lt _)) ⟨fun z=>by rcases z with z|z|z|z;cases z;cases z;exact .inl rfl;cases z;exact .inr z,fun z=>by rcases z with z|z;exact .inr (.inl (by exact rE z rfl));exact .inr (.inr (.inr z))⟩))
 ·exact rE (propext (tH _)) (rE (propext (h.DO _)) (rE (propext (lt _)) ⟨fun z=>by rcases z with z|z|z|z;cases z;cases z;cases z;exact .inl rfl;exact .inr z,fun z=>by rcases z with z|z;exact .inr (.inr (.inl (by exact rE z rfl)));exact .inr (.inr (.inr z))⟩))
 ·exact rE (propext (tH _)) (rE (propext (h.nt _)) (rE (propext (lt _)) ⟨fun z=>by rcases z with z|z|z|z;cases z;exact .inl rfl;cases z;cases z;exact .inr z,fun z=>by rcases z with z|z;exact .inl (by exact rE z rfl);exact .inr (.inr (.inr z))⟩))
 ·exact rE (aj _ _ (by exact Rl.ne rfl)) (rE (aj _ _ (by exact Rl.ne rfl)) (rE (aj _ _ (by exact Rl.ne rfl)) (h.kl k' x)))
 ·exact rE (aj _ _ (by exact Rl.ne rfl)) (rE (aj _ _ (by exact Rl.ne rfl)) (rE (aj _ _ (by exact Rl.ne rfl)) (h.ll q)))
theorem PL.full(h:PL CP a 4 ρ σ):SL CP ρ Aj σ:=by
 refine⟨h.lay.con fun r b e=>by cases r<;>rfl,fun r hr=>?_,fun k x=>?_,fun q=>?_,fun zz zz zz=>rfl,fun zz zz=>rfl⟩
 ·cases r with
  |sc=>exact rE h.sc rfl
  |D2=>exact h.f2
  |lots=>exact h.f3
  |tabs=>exact h.f4
  |nm k=>exact(h.nm k).mpr k.isLt
  |DO k=>exact(h.DO k).mpr k.isLt
  |nt k=>exact(h.nt k).mpr k.isLt
  |_=>exact hr.elim
 ·exact rE (h.kl _ _) ⟨fun z=>(by exact fT z),fun z=>(by exact nM z)⟩
 ·exact rE (h.ll _) ⟨fun z=>(by exact fT z),fun z=>(by exact nM z)⟩
theorem CM:∀(j:Nat) (d:D),(([0,1,2,3]:List (Fin 4)).map fun k=>D.str (aE k))[j]?=some d→∃k:Fin 4,k.val=j∧d= .str (aE k)
 |0,_,h=>by(replace h:=sI h;subst h);exact(aP 0 rfl rfl)
 |1,_,h=>by(replace h:=sI h;subst h);exact(aP 1 rfl rfl)
 |2,_,h=>by(replace h:=sI h;subst h);exact(aP 2 rfl rfl)
 |3,_,h=>by(replace h:=sI h;subst h);exact(aP 3 rfl rfl)
 |n+4,_,h=>by exact nS h
theorem oL(p:Pg){c:Rl→AO}(l2:oi CP (bG (bG (fun zz=>none) .D2 (some da)) .sc (some a)) c σ)(ha:σ a=some (.ins 128 da))(hd:σ da=some (.ns []))(had:a≠da)
 (h:∀ρ σ',SL CP ρ Aj σ'→ρ .sc=some a→Φ .none σ'):aL C (n+3) (.ref 104) [.ref a] σ Φ X:=by
 refine' bJ p (C:=C) (n:=(n+2)) (ow:=[]) (es:=[]) (ws:=[]) (sl:=[ofString "self",ofString "kind"]) (names:=[ofString "self"]) (fun zz=>rfl) (fun zz=>rfl) ?hp ?hb ?hs rfl ?hsc ?hnd rfl rfl (fun zz=> .nil) ?hbind (w:=?w) ?hsx ?hw (hlk:=?hlk)
 case hp=>(conv=>lhs;whnf)
 case hb=>(conv=>lhs;whnf)
 case hs=>(conv=>lhs;whnf)
 case hsc=>rfl
 case hnd=>decide
 case hlk=>decide
 case hbind=>exact fun s vs X hl=>gS (P:=fun vs=>BindsTo s _ ⟨vs,[]⟩ (List.zip _ (vs++_))) hl fun a0=>(BindsTo.of_eq rfl)
 case hsx=>infer_instance
 refine'(?_:_)
 refine iG rfl rfl ha hd had (Nat.le_of_ble_eq_true rfl) p.set fun t1 ht1=>?_
 have r1:(bG (bG (fun zz=>none) Rl.D2 (some da)) Rl.sc (some a)) Rl.D2=some da:=by exact rE (aj _ _ (by exact Rl.ne rfl)) (rE (aK _ _ _) rfl)
 have l3:=(l2.put (x:= .ns (put [] (ofString "lots") (.ref t1))) r1).new (r:= .lots) (x:= .dS []) (by exact rE (aj _ _ (by exact Rl.ne rfl)) (rE (aj _ _ (by exact Rl.ne rfl)) rfl)) ((af.CO _ _ (au hd ht1).symm).trans ht1)
 have ha3:((σ.put da (.ns (put [] (ofString "lots") (.ref t1)))).put t1 (.dS [])) a=some (.ins 128 da):=(af.CO _ _ (au ha ht1)).trans ((af.CO _ _ had).trans ha)
 have Gy:((σ.put da (.ns (put [] (ofString "lots") (.ref t1)))).put t1 (.dS [])) da=some (.ns (put [] (ofString "lots") (.ref t1))):=(af.CO _ _ (au hd ht1)).trans (af.CN _ _ _)
 generalize (σ.put da (.ns (put [] (ofString "lots") (.ref t1)))).put t1 (.dS [])=σ3 at*
 refine iG rfl rfl ha3 Gy had (Nat.le_of_ble_eq_true rfl) p.set fun t2 G6=>?_
 have r2:bG (bG (bG (fun zz=>none) Rl.D2 (some da)) Rl.sc (some a)) Rl.lots (some t1) Rl.D2=some da:=by exact rE (aj _ _ (by exact Rl.ne rfl)) r1
 have l4:=(l3.put (x:= .ns (put (put [] (ofString "lots") (.ref t1)) (ofString "tables") (.ref t2))) r2).new (r:= .tabs) (x:= .dS []) (by exact rE (aj _ _ (by exact Rl.ne rfl)) (rE (aj _ _ (by exact Rl.ne rfl)) (rE (aj _ _ (by exact Rl.ne rfl)) rfl))) ((af.CO _ _ (au Gy G6).symm).trans G6)
 have HK:((σ3.put da (.ns (put (put [] (ofString "lots") (.ref t1)) (ofString "tables") (.ref t2)))).put t2 (.dS [])) a=some (.ins 128 da):=(af.CO _ _ (au ha3 G6)).trans ((af.CO _ _ had).trans ha3)
 have H6:PL CP a 0 (bG (bG (bG (bG (fun zz=>none) Rl.D2 (some da)) Rl.sc (some a)) Rl.lots (some t1)) Rl.tabs (some t2)) ((σ3.put da (.ns (put (put [] (ofString "lots") (.ref t1)) (ofString "tables") (.ref t2)))).put t2 (.dS [])):=by
  have esc:c .sc= .ins 128 da:=by
   have:=(l2.at_ .sc a (aK _ _ _)).1
   rw[ha]at this;exact(Option.some.inj this).symm
  refine⟨l4.con fun r b e=>?_,by rw[aj _ _ (by exact Rl.ne rfl)];rw[aj _ _ (by exact Rl.ne rfl)];exact rE (aK _ _ _) rfl,by rw[aj _ _ (by exact Rl.ne rfl)];rw[aj _ _ (by exact Rl.ne rfl)];rw[aj _ _ (by exact Rl.ne rfl)];refine rE (aK _ _ _) ?_;rfl,by rw[aj _ _ (by exact Rl.ne rfl)];refine rE (aK _ _ _) ?_;rfl,by refine rE (aK _ _ _) ?_;rfl,fun k=>?_,fun k=>?_,fun k=>?_,fun k x=>by rw[aj _ _ (by exact Rl.ne rfl)];rw[aj _ _ (by exact Rl.ne rfl)];rw[aj _ _ (by exact Rl.ne rfl)];rw[aj _ _ (by exact Rl.ne rfl)],fun q=>by rw[aj _ _ (by exact Rl.ne rfl)];rw[aj _ _ (by exact Rl.ne rfl)];rw[aj _ _ (by exact Rl.ne rfl)];rw[aj _ _ (by exact Rl.ne rfl)]⟩
  ·clear ha3 Gy HK l2 l3 l4 r1 r2
   cases r with
   |sc=>rw[aj _ _ (by exact Rl.ne rfl)];rw[aj _ _ (by exact Rl.ne rfl)];rw[aj _ _ (by exact Rl.ne rfl)];rw[aj _ _ (by exact Rl.ne rfl)];refine rE esc ?_;refine(?_:AO.ins 128 (Option.getD (bG _ _ _ _) 0)=_);rw[aj _ _ (by exact Rl.ne rfl)];rw[aj _ _ (by exact Rl.ne rfl)];rw[aj _ _ (by exact Rl.ne rfl)];exact rE (aK _ _ _) rfl
   |D2=>
    rw[aj _ _ (by exact Rl.ne rfl)];refine rE (aK _ _ _) ?_;refine(?_:AO.ns [(_,dc _ _),(_,dc _ _)]=_)
    rw[ba (by exact Rl.ne rfl),dc,dc,aK,aK];rfl
   |lots=>rw[aj _ _ (by exact Rl.ne rfl)];rw[aj _ _ (by exact Rl.ne rfl)];exact rE (aK _ _ _) rfl
   |tabs=>exact rE (aK _ _ _) rfl
   |_=>(have e':=e;rw[aj _ _ (by exact Rl.ne rfl),aj _ _ (by exact Rl.ne rfl),aj _ _ (by exact Rl.ne rfl),aj _ _ (by exact Rl.ne rfl)]at e';exact nS e')
  all_goals (rw[aj _ _ (by exact Rl.ne rfl)];rw[aj _ _ (by exact Rl.ne rfl)];rw[aj _ _ (by exact Rl.ne rfl)];rw[aj _ _ (by exact Rl.ne rfl)];exact⟨fun z=>(by exact fT z),fun z=>(by cases z)⟩)
 clear l2 l3 l4 ha hd ha3 Gy HK r1 r2
 refine aN (c9 (tR (vc p)) (fun a q=>by cases q) rfl (by decide) (dN (fun pre ξ σ'=>∃o ρ,ξ=[some (.ref a),o]∧PL CP a pre.length ρ σ') (fun pre d post ξ σ' Ψ he hI hn hr=>?_) (fun ξ σ' hI=>?_) (fP _ _ rfl H6)))
 ·refine eB hI fun o ρ q2 hp=>?_;clear hI;subst q2
  refine aF (CM pre.length d (by refine rE he (rE (List.getElem?_append_right (Nat.le_refl _)) (rE (Nat.sub_self _) ?_));rfl)) fun k hk q2=>?_;subst q2
  refine xE (Option.isSome_iff_exists.mp hp.f2) fun da hda=>?_
  refine xE (Option.isSome_iff_exists.mp hp.f4) fun tb htb=>?_
  have esc:=(hp.lay.at_ _ _ hp.sc).1
  have ed:=(hp.lay.at_ _ _ hda).1
  have et:=(hp.lay.at_ _ _ htb).1
  have ed':σ' da=some (.ns [(ofString "lots",dc ρ .lots),(ofString "tables",.ref tb)]):=by exact rE ed (rF (dK htb) rfl)
  refine aM _ (aN (?_:_))
  refine(cf (by decide+kernel) (.ref 86) p.E9 p.keep (ae (aa rfl) _ (yo (n:=n) p fun a' Hp t n1 n2 n3 h1 h2 h3=>?_)))
  have keep:∀{b:Addr} {y:AO} (x1 x2 x3:AO),σ' b=some y→((((σ'.put Hp x1).put a' x2).put t x3) b)=some y:=fun x1 x2 x3 e=>(af.CO _ _ (au e h3)).trans ((af.CO _ _ (au e h1)).trans ((af.CO _ _ (au e h2)).trans e))
  refine(gz (ak (aa rfl) (e9 (C:=128) (keep _ _ _ (esc.trans (by refine(?_:some (AO.ins 128 (Option.getD _ _))=_);exact rE hda rfl))) (keep _ _ _ ed')) rfl p.attr) (aa rfl) (keep _ _ _ et) ?_) _ ?_
  ·exact rE (List.length_map _) (rE List.length_take (Nat.le_trans (Nat.min_le_right _ _) (by decide)))
  ·exact(hn _ _ (fP _ _ rfl (by exact rE List.length_append (hp.step hk htb n1 n2 n3 h1 h2 h3)))).1
 ·refine eB hI fun o ρ q2 hp=>?_;clear hI;subst q2
  have hp:PL CP a 4 ρ σ':=hp
  exact h ρ σ' hp.full hp.sc
theorem yn(p:Pg)(h:∀ρ a σ',SL σ ρ Aj σ'→ρ .sc=some a→Φ (.ref a) σ'):aL C (n+4) (.ref 128) [] σ Φ X:=
 gq p.make fun a da had ha hd=>oL (CP:=σ) (c:=bG (bG (fun zz=> .lst []) .D2 (.ns [])) .sc (.ins 128 da)) p
  (oi.new (oi.new ⟨dE.refl _ _,fun zz zz e=>(by exact nS e),fun zz zz zz e=>(by exact nS e)⟩ rfl hd) (by exact rE (aj _ _ (by exact Rl.ne rfl)) rfl) ((af.CO _ _ had).trans ha)) (af.CN _ _ _) ((af.CO _ _ had.symm).trans (af.CN _ _ _)) had fun ρ σ' hs hsc=>⟨rfl,h ρ a σ' hs hsc⟩
end
section
variable{X:af→Prop}{s:SS}{k:Fin 4}{f q:Str}{t:Addr}
open Classical in
noncomputable def SS.lot(s:SS)(q:Str)(t:ag):SS:=(if q∈s.lq then s else s.DX q).Eu q t
noncomputable def SS.say(s:SS)(k:Fin 4)(x f q:Str)(b:Bool):SS:=
 if b=true then((s.add k (q++ofString "." ++x) f).add k x f).lot q (aE k,x,f)else s.add k (q++ofString "." ++x) f
theorem SS.D1(s:SS)(k k':Fin 4)(x f:Str):((s.add k x f).ks k').length≤(s.ks k').length+1:=by
 have e:(s.add k x f).ks k'=(open Classical in if x∈s.ks k then s else s.key k x).ks k':=by
  delta SS.add;dsimp only
  generalize (open Classical in if x∈s.ks k then s else s.key k x)=s1
  split<;>rfl
 refine rE e ?_
 split
 ·exact Nat.le_succ _
 ·refine(?_:(bG s.ks k _ k').length≤_)
  by_cases w:k'=k
  ·subst w;exact rE (aK _ _ _) (rE List.length_append (Nat.le_refl _))
  ·exact rE (aj _ _ w) (Nat.le_succ _)
theorem SS.FF(s:SS)(k k':Fin 4)(x f x':Str):((s.add k x f).fl k' x').length≤(s.fl k' x').length+1:=by
 have e:(open Classical in if x∈s.ks k then s else s.key k x).fl=s.fl:=by split<;>rfl
 delta SS.add;dsimp only
 generalize (open Classical in if x∈s.ks k then s else s.key k x)=s1 at*
 split
 ·exact rE e (Nat.le_succ _)
 ·refine(?_:(bG s1.fl k _ k' x').length≤_)
  refine rE e ?_
  by_cases w:k'=k
  ·subst w;refine rE (aK _ _ _) ?_
   by_cases w:x'=x
   ·subst w;exact rE (aK _ _ _) (rE List.length_append (Nat.le_refl _))
   ·exact rE (aj _ _ w) (Nat.le_succ _)
  ·exact rE (aj _ _ w) (Nat.le_succ _)
theorem SS.Ds(s:SS)(k:Fin 4)(x f:Str):(s.add k x f).lq=s.lq∧(s.add k x f).lf=s.lf:=by
 delta SS.add;dsimp only
 generalize hs:(open Classical in if x∈s.ks k then s else s.key k x)=s1
 have e:s1.lq=s.lq∧s1.lf=s.lf:=by refine rF hs ?_;split<;>exact⟨rfl,rfl⟩
 split<;>exact e
theorem SL.view(h:SL CP ρ s σ)(ha:ρ .sc=some a):∃lo tb,ρ .lots=some lo∧du σ (.ref a)=some (128,[(ofString "lots",.ref lo),(ofString "tables",.ref tb)])∧cw σ (.ref tb)=some [(aE 0,dc ρ (.nm 0)),(aE 1,dc ρ (.nm 1)),(aE 2,dc ρ (.nm 2)),(aE 3,dc ρ (.nm 3))]∧σ lo=some (.dS (s.lq.map fun q=>(q,dc ρ (.ll q)))):=by
 refine aF (h.got (r:= .D2) trivial) fun da hda Gg=>?_
 refine aF (h.got (r:= .lots) trivial) fun lo hlo Hn=>?_
 refine aF (h.got (r:= .tabs) trivial) fun tb htb Hl=>?_
 refine(cQ lo tb hlo (e9 (da:=da) ?_ ?_) (fB Hl) Hn)
 ·refine rE ((h.lay.at_ _ _ ha).1) ?_;refine(?_:some (AO.ins 128 (Option.getD _ _))=_);exact rE hda rfl
 ·refine rE Gg ?_;refine(?_:some (AO.ns [(_,dc _ _),(_,dc _ _)])=_);exact rE (dK hlo) (rE (dK htb) rfl)
theorem zQ{g:Fin 4→D}(k:Fin 4):look [(aE 0,g 0),(aE 1,g 1),(aE 2,g 2),(aE 3,g 3)] (aE k)=some (g k):=by
 have ne:∀{i j:Fin 4},i≠j→decide (aE i=aE j)=false:=fun h=>decide_eq_false fun q=>h (i9 _ _ q)
 delta look
 revert k
 refine cg ?_ ?_ ?_ ?_
 ·simp
 ·simp[ne (show(0:Fin 4)≠1 by decide)]
 ·simp[ne (show(0:Fin 4)≠2 by decide),ne (show(1:Fin 4)≠2 by decide)]
 ·simp[ne (show(0:Fin 4)≠3 by decide),ne (show(1:Fin 4)≠3 by decide),ne (show(2:Fin 4)≠3 by decide)]
theorem qw(p:Pg)(hs:SL CP ρ s σ)(ha:ρ .sc=some a)(hz:∀k,(s.ks k).length≤900)(hz2:∀k x,(s.fl k x).length≤900)(HE:s.lq.length≤900)(Fd:∀q,(s.lf q).length≤900)(hx:x.length≤1000)(hq:q.length≤1000)
 (h:∀ρ' σ',SL CP ρ' (s.say k x f q b) σ'→Up ρ ρ'→Φ .none σ'):aL C (n+3) (.ref 111) [.ref a,.str (aE k),.str x,.str f,.str q,.bool b] σ Φ X:=by
 revert p hs ha hz hz2 HE Fd hx hq h;revert C n X CP σ ρ s k x f q a b Φ;apply xF
 generalize (br _ _).1.1.1.1=b,(br _ _).1.1.1.2=a,(br _ _).1.1.2.1=C,(br _ _).1.1.2.2=x,(br _ _).1.2.1.1=n,(br _ _).1.2.1.2=σ,(br _ _).1.2.2=CP,(br _ _).2.1.1.1=Φ,(br _ _).2.1.1.2=ρ,(br _ _).2.1.2.1=X,(br _ _).2.1.2.2=s,(br _ _).2.2.1.1=k,(br _ _).2.2.1.2=f,(br _ _).2.2.2=q;intro p hs ha hz hz2 HE Fd hx hq h
 refine' bJ p (C:=C) (n:=(n+2)) (ow:=[(45,44)]) (es:=[]) (ws:=[]) (sl:=[ofString "self",ofString "kind",ofString "short",ofString "full",ofString "qualifier",ofString "is_short"]) (names:=[ofString "self",ofString "kind",ofString "short",ofString "full",ofString "qualifier",ofString "is_short"]) (fun zz=>rfl) (fun zz=>rfl) ?hp ?hb ?hs rfl ?hsc ?hnd rfl rfl (fun zz=> .nil) ?hbind (w:=?w) ?hsx ?hw (hlk:=?hlk)
 case hp=>(conv=>lhs;whnf)
 case hb=>(conv=>lhs;whnf)
 case hs=>(conv=>lhs;whnf)
 case hsc=>rfl
 case hnd=>decide
 case hlk=>decide
 case hbind=>exact fun s vs X hl=>wL (P:=fun vs=>BindsTo s _ ⟨vs,[]⟩ (List.zip _ (vs++_))) hl fun a0 a1 a2 a3 a4 a5=>(BindsTo.of_eq rfl)
 case hsx=>infer_instance
 refine'(?_:_)
 refine cy (hs.view ha) fun lo tb hlo v1 v2 v3=>?_
 refine aF (hs.got (r:= .nm k) trivial) fun nk hnk HS=>?_
 refine aF (hs.got (r:= .DO k) trivial) fun nd hnd end_=>?_
 have e1:(ofString ".").length=1:=by decide+kernel
 have hit:look [(aE 0,dc ρ (.nm 0)),(aE 1,dc ρ (.nm 1)),(aE 2,dc ρ (.nm 2)),(aE 3,dc ρ (.nm 3))] (aE k)=some (.ref nk):=(zQ (g:=fun k=>dc ρ (.nm k)) k).trans (congrArg some (dK hnk))
 have hi:du σ (.ref nk)=some (86,[(ofString "kind",.str (aE k)),(ofString "table",dc ρ (.nt k))]):=e9 (da:=nd) (by refine rE HS ?_;refine(?_:some (AO.ins 86 (Option.getD _ _))=_);exact rE hnd rfl) end_
 refine aN (?_:_)
 refine⟨⟨by decide,by decide⟩,(aA (ak (aa rfl) v1 rfl p.attr) (aa rfl) (d8 v2 hit)) _ (cV _ _ 69 hi rfl p.meth p.keep ((ac (aA (aA (aa rfl) ah (bz (by lia))) (aa rfl) (bz (by refine rE (Str.length_append _ _) ?_;lia))) (ae (aa rfl))) _ (kE (n:=n) p hs hnk (Nat.le_trans (hz k) (by decide)) (fun x=>Nat.le_trans (hz2 k x) (by decide)) fun Ep σ1 hs1 u1=>?_)))⟩
 clear hit hi v1 v2 v3 HS end_
 have z1:∀k',((s.add k (q++ofString "." ++x) f).ks k').length≤901:=fun k'=>Nat.le_trans (SS.D1 ..) (Nat.succ_le_succ (hz k'))
 have z2:∀k' x',((s.add k (q++ofString "." ++x) f).fl k' x').length≤901:=fun k' x'=>Nat.le_trans (SS.FF ..) (Nat.succ_le_succ (hz2 k' x'))
 refine xA (SS.Ds s k (q++ofString "." ++x) f) fun l1 l2=>?_
 cases b with
 |false=>exact aD (aG (a9 (aa rfl) rfl) aR) (h Ep σ1 hs1 u1)
 |true=>
  have h:∀ρ' σ',SL CP ρ' (((s.add k (q++ofString "." ++x) f).add k x f).lot q (aE k,x,f)) σ'→Up ρ ρ'→Φ .none σ':=h
  generalize s.add k (q++ofString "." ++x) f=s1 at*
  refine aN (gI (a9 (aa rfl) rfl) ?_)
  refine cy (hs1.view (u1 _ _ ha)) fun lo1 IW El v1 v2 v3=>?_
  refine aF (hs1.got (r:= .nm k) trivial) fun HA FC Gd=>?_
  refine aF (hs1.got (r:= .DO k) trivial) fun Ib F9 Ge=>?_
  have hit:look [(aE 0,dc Ep (.nm 0)),(aE 1,dc Ep (.nm 1)),(aE 2,dc Ep (.nm 2)),(aE 3,dc Ep (.nm 3))] (aE k)=some (.ref HA):=(zQ (g:=fun k=>dc Ep (.nm k)) k).trans (congrArg some (dK FC))
  have hi:du σ1 (.ref HA)=some (86,[(ofString "kind",.str (aE k)),(ofString "table",dc Ep (.nt k))]):=e9 (da:=Ib) (by refine rE Gd ?_;refine(?_:some (AO.ins 86 (Option.getD _ _))=_);exact rE F9 rfl) Ge
  refine aN (?_:_)
  refine⟨⟨by decide,by decide⟩,(aA (ak (aa rfl) v1 rfl p.attr) (aa rfl) (d8 v2 hit)) _ (cV _ _ 69 hi rfl p.meth p.keep ((ac (aa rfl) (ae (aa rfl))) _ (kE (n:=n) p hs1 FC (Nat.le_trans (z1 k) (by decide)) (fun x=>Nat.le_trans (z2 k x) (by decide)) fun FH σ2 hs2 u2=>?_)))⟩
  clear hit hi v1 v2 v3 Gd Ge FC F9
  refine xA (SS.Ds s1 k x f) fun m1 m2=>?_
  rw[l1]at m1
  rw[l2]at m2
  generalize s1.add k x f=s2 at*
  obtain⟨lo2,tb2,G9,v1,-,v3⟩:=hs2.view (u2 _ _ (u1 _ _ ha))
  have u:Up ρ FH:=u1.trans u2
  have hkey:look (s2.lq.map fun x=>(x,dc FH (.ll x))) q=if q∈s2.lq then some (dc FH (.ll q))else none:=nA ..
  have fin:∀FP σ3 b,SL CP FP (open Classical in if q∈s2.lq then s2 else s2.DX q) σ3→Up FH FP→FP (.ll q)=some b→∃xs,kO σ3 (.ref b)=some (b,xs)∧xs.length≤1048576∧∀r:af→Prop,(∀σ',SL CP FP (s2.lot q (aE k,x,f)) σ'→r σ')→r (σ3.put b (.lst (xs++[bb (aE k,x,f)]))):=fun FP σ3 b hs3 u3 hb=>by
   have Iv:(open Classical in if q∈s2.lq then s2 else s2.DX q).lf q=s.lf q:=by split<;>exact congrFun m2 q
   refine(bP _ (iy (hs3.lay.at_ _ _ hb).1) ?_ (fun r hr=>hr _ (hs3.Eu hb _)))
   exact rE (List.length_map _) (rE Iv (Nat.le_trans (Fd q) (by decide)))
  refine aN (?_:_)
  refine(nJ ⟨by decide,by decide⟩ ⟨by decide,by decide⟩ (.ref a) rfl (cV _ _ (.ref lo2) v1 rfl p.attr (.inl (fB v3▸rfl)) (bP (.str q) rfl (Nat.zero_le _) (fun t ht=>?_))))
  have H3:(σ2.put t (.lst [])) lo2=some (.dS (s2.lq.map fun q=>(q,dc FH (.ll q)))):=(af.CO _ _ (au v3 ht)).trans v3
  refine(cQ lo2 _ (oR H3) (by refine rE (List.length_map _) (rE m1 ?_);lia) (fun d hd=>?_) (fun hd=>?_))
  ·rw[hkey]at hd
   by_cases E4:q∈s2.lq
   ·rw[if_pos E4]at hd;(replace hd:=sI hd;subst hd)
    refine xE (Option.isSome_iff_exists.mp ((hs2.ll q).mpr E4)) fun b hb=>?_
    refine rE (dK hb) ?_
    refine cz (fin FH _ b (by exact rE (if_pos E4) (hs2.junk (y:= .lst []) ht)) (.refl _) hb) fun xs x1 x2 x3=>?_
    refine(gp (by refine(?_:(kO _ _).isSome=true);exact rE x1 rfl) (.str (aE k)) rfl (gn (.str x) rfl (.str f) rfl (gJ (Nat.le_of_ble_eq_true rfl) b xs x1 x2 (x3 _ fun σ' hs'=>h _ _ hs' u))))
   ·rw[if_neg E4]at hd;exact nS hd
  ·rw[hkey]at hd
   by_cases E4:q∈s2.lq
   ·rw[if_pos E4]at hd;exact sN hd
   ·refine cz (fin _ _ t (by exact rE (if_neg E4) (hs2.DX E4 G9 ht)) (.new (fX fun z=>E4 ((hs2.ll q).mp z))) (aK _ _ _)) fun xs x1 x2 x3=>?_
    refine(gp (by refine(?_:(kO _ _).isSome=true);exact rE x1 rfl) (.str (aE k)) rfl (gn (.str x) rfl (.str f) rfl (gJ (Nat.le_of_ble_eq_true rfl) t xs x1 x2 (x3 _ fun σ' hs'=>h _ _ hs' (u.trans (.new (fX fun z=>E4 ((hs2.ll q).mp z))))))))
end
section
variable{X:af→Prop}{t:Addr}
theorem hY{xs:List D}(h:bg σ d=some xs)(hk:xs[k]?=some e)(hz:(k:Int)<2^63):Op c fm [d,.int k] σ e σ:=
 fun zz q=>⟨⟨by lia,hz⟩,.inl (cQ xs e (by lia) h hk q)⟩
theorem ty{i j:Int}{b:Pos}(h:j.natAbs<2^63):Op c (eT b .Mult) [.int i,.int j] σ (.int (i*j)) σ:=fun zz q=>(fP _ _ rfl (.inl (aP _ (.F0 _ _ h) q)))
theorem tA{i j:Int}{b:Pos}(h:j≠0∧j.natAbs<1073741824):Op c (eT b .FloorDiv) [.int i,.int j] σ (.int (i.fdiv j)) σ:=fun zz q=>(fP _ _ rfl (.inl (aP _ (.Gh _ _ h.1 h.2) q)))
theorem jt{i j:Int}{b:Pos}(h:j≠0):Op c (eT b .Mod) [.int i,.int j] σ (.int (i.fmod j)) σ:=fun zz q=>(fP _ _ rfl (.inl (aP _ (.F3 _ _ h) q)))
theorem xW{b:Pos}{w2:WS}{Φ:Fl→Lo→af→Prop}(h1:Ev c ws ξ σ ds σ1)(hb:c.owns b=true)(hz:ds.length≤1048576)(h:∀t,σ1 t=none→Φ (.ret (.ref t)) ξ (σ1.put t (.lst ds))):fF (Ai (rn ws (r6 b))) w2 c ξ σ Φ:=by
 exact rY (Φ:=fun d σ2=>Φ (.ret d) ξ σ2) h1 hb hz h
theorem rQ(p:Pg){is:List Int}(hz:is.length≤1000)(h:∀t u v,(0:Int)≤u→0≤v→σ t=none→Φ (.ref t) (σ.put t (.lst [.int u,.int v]))):aL C (n+1) (.ref 358) [.lst (is.map .int)] σ Φ X:=by
 refine' bJ p (C:=C) (n:=n) (ow:=[(232,11)]) (es:=[]) (ws:=[]) (sl:=[ofString "script",ofString "cell",ofString "great"]) (names:=[ofString "script"]) (fun zz=>rfl) (fun zz=>rfl) ?hp ?hb ?hs rfl ?hsc ?hnd rfl rfl (fun zz=> .nil) ?hbind (w:=?w) ?hsx ?hw (hlk:=?hlk)
 case hp=>(conv=>lhs;whnf)
 case hb=>(conv=>lhs;whnf)
 case hs=>(conv=>lhs;whnf)
 case hsc=>rfl
 case hnd=>decide
 case hlk=>decide
 case hbind=>exact fun s vs X hl=>gS (P:=fun vs=>BindsTo s _ ⟨vs,[]⟩ (List.zip _ (vs++_))) hl fun a0=>(BindsTo.of_eq rfl)
 case hsx=>infer_instance
 refine'(?_:_)
 have hl:Ev ⟨C,n,X,[(232,11)]⟩ (rA (ofString "len") (bM (bW 0) eS) uW) [some (.lst (is.map .int)),none,none] σ (.int is.length) σ:=ef p.Dn (ae (aa rfl)) fun zz q=>⟨by refine rE (List.length_map _) ?_;lia,by exact rE (List.length_map _) q⟩
 obtain⟨i,hi⟩:∃i:Int,∀{w:WS} {Ψ},w ⟨C,n,X,[(232,11)]⟩ [some (.lst (is.map .int)),some (.int i),none] σ Ψ→fF (bj (oq (ld (rA (ofString "len") (bM (bW 0) eS) uW) (c0 (D.int 0)) CmpOp.Gt) (rA (ofString "int") (bM (w2 (bW 0) (c0 (D.int 0)) fm) eS) AK) (c0 (D.int 0))) (c8 (0+1))) w ⟨C,n,X,[(232,11)]⟩ [some (.lst (is.map .int)),none,none] σ Ψ:=by
  cases is with
  |nil=>exact(iE 0 (fun h=>aD (aX (cE (al hl ad rfl) ad)) h))
  |cons i is=>exact(iE i (fun h=>aD (aX (cS (ar (al hl ad rfl) (by simp)) (ef p.F5 (ae (aA (aa rfl) (ad (d:= .int 0)) (hY (k:=0) rfl rfl (by decide)))) fun zz q=>q))) h))
 refine hi ?_
 clear hi hl
 obtain⟨g,hg,hi⟩:∃g:Int,0≤g∧Ev ⟨C,n,X,[(232,11)]⟩ (oq (ld (bW (0+1)) (c0 (D.int 0)) CmpOp.GtE) (bW (0+1)) (w2 (w1 (c0 (D.int 1)) Bx) (bW (0+1)) (eT {line:=231,col:=35,endLine:=231,endCol:=44} Operator.Sub))) [some (.lst (is.map .int)),some (.int i),none] σ (.int g) σ:=by
  by_cases q:0≤i
  ·exact(aP i q (cS (ar (al (aa rfl) ad rfl) (decide_eq_true q)) (aa rfl)))
  ·exact(aP (-1-i) (by lia) (cE (ar (al (aa rfl) ad rfl) (decide_eq_false q)) (aA (BS (ad (d:= .int 1)) fun zz q=>q) (aa rfl) oU)))
 refine aD (aX hi) ?_
 clear hi
 obtain⟨u,hu,hi⟩:∃u:Int,0≤u∧Ev ⟨C,n,X,[(232,11)]⟩ (oq (ld (bW (0+1+1)) (w2 (c0 (D.int 10)) (c0 (D.int 18)) (eT {line:=232,col:=30,endLine:=232,endCol:=38} Operator.Pow)) CmpOp.GtE) (bW (0+1+1)) (c0 (D.int 0))) [some (.lst (is.map .int)),some (.int i),some (.int g)] σ (.int u) σ:=by
  by_cases q:10^18≤g
  ·exact(aP g hg (cS (ar (al (aa rfl) (aA ad ad tw) rfl) (decide_eq_true q)) (aa rfl)))
  ·exact(aP 0 (Int.le_refl _) (cE (ar (al (aa rfl) (aA ad ad tw) rfl) (decide_eq_false q)) ad))
 have m:=Int.fmod_nonneg_of_pos (Int.fmod g 2147483563*30269) (show(0:Int)<2147483579 by decide)
 exact xW (ac hi (ae (aA (aA (aA (aA (aa rfl) ad (jt (by decide))) ad (ty (by decide))) ad (jt (by decide))) ad jv))) rfl (Nat.le_of_ble_eq_true rfl) fun t ht=>h t _ _ hu (by lia) ht
end
section
variable{X:af→Prop}{t:Addr}
theorem sR{wi:WE}{xs:List D}(h1:Ev c wa ξ σ (.ref a) σ1)(h2:Ev c wi ξ σ1 (.int k) σ2)(ha:σ2 a=some (.lst xs))(hz:k<xs.length)(hk:(k:Int)<2^63):Tg c (xP wa wi) d ξ σ ξ (σ2.put a (.lst (xs.set k d))):=
 fun zz q=>h1 _ (h2 _ (bH a xs (iy ha) (dx (by lia) hk (by lia)) q))
theorem lA(p:Pg){u v:Int}{xs:List D}(hu:0≤u)(hv:0≤v)(ha:σ a=some (.lst [.int u,.int v]))(h0:0<xs.length)(hz:xs.length≤1000)
 (h:∀u' v' x,(0:Int)≤u'→0≤v'→x∈xs→Φ x (σ.put a (.lst [.int u',.int v']))):aL C (n+1) (.ref 365) [.ref a,.lst xs] σ Φ X:=by
 refine' bJ p (C:=C) (n:=n) (ow:=[]) (es:=[]) (ws:=[]) (sl:=[ofString "seed",ofString "some",ofString "spot"]) (names:=[ofString "seed",ofString "some"]) (fun zz=>rfl) (fun zz=>rfl) ?hp ?hb ?hs rfl ?hsc ?hnd rfl rfl (fun zz=> .nil) ?hbind (w:=?w) ?hsx ?hw (hlk:=?hlk)
 case hp=>(conv=>lhs;whnf)
 case hb=>(conv=>lhs;whnf)
 case hs=>(conv=>lhs;whnf)
 case hsc=>rfl
 case hnd=>decide
 case hlk=>decide
 case hbind=>exact fun s vs X hl=>jC (P:=fun vs=>BindsTo s _ ⟨vs,[]⟩ (List.zip _ (vs++_))) hl fun a0 a1=>(BindsTo.of_eq rfl)
 case hsx=>infer_instance
 refine'(?_:_)
 have hl:∀{o σ},Ev ⟨C,n,X,[]⟩ (rA (ofString "len") (bM (bW (0+1)) eS) uW) [some (.ref a),some (.lst xs),o] σ (.int xs.length) σ:=fun{o σ}=>ef p.Dn (ae (aa rfl)) (fun zz q=>⟨by lia,q⟩)
 have hp:(0:Int)<xs.length:=by lia
 have i0:Ev ⟨C,n,X,[]⟩ (w2 (bW 0) (c0 (D.int 0)) fm) [some (.ref a),some (.lst xs),none] σ (.int u) σ:=aA (aa rfl) (ad (d:= .int 0)) (hY (k:=0) (dD ha) rfl (by decide))
 by_cases q:0<u
 ·refine aN (gI (ar (al i0 ad rfl) (decide_eq_true q)) ?_)
  have m1:=Int.fmod_nonneg_of_pos u hp
  have m2:=Int.fmod_lt_of_pos u hp
  refine aD (aX (aA i0 hl (jt (by lia)))) ?_
  refine aD (bd (aA (aA (aa rfl) (ad (d:= .int 0)) (hY (k:=0) (dD ha) rfl (by decide))) hl (tA ⟨by lia,by lia⟩)) (sR (k:=0) (aa rfl) ad ha (by refine(?_:_<2);decide) (by decide))) ?_
  refine xE (Int.eq_ofNat_of_zero_le m1) fun m hm=>?_
  rw[hm]at m2⊢
  obtain⟨e,he⟩:∃e,xs[m]?=some e:=(iE _ (List.getElem?_eq_getElem (by lia)))
  exact bw (aV (aA (aa rfl) (aa rfl) (hY (k:=m) rfl he (by lia)))) (h _ v e (Int.fdiv_nonneg hu (by lia)) hv (List.mem_of_getElem? he))
 ·refine aD (aG (ar (al i0 ad rfl) (decide_eq_false q)) aR) ?_
  refine aD (bd (aA (aA (aA (aA (aa rfl) ad (hY (k:=1) (dD ha) rfl (by decide))) ad (ty (by decide))) ad jv) ad (jt (by decide))) (sR (k:=1) (aa rfl) ad ha (by refine(?_:_<2);decide) (by decide))) ?_
  have w1:=Int.fmod_nonneg_of_pos (v*39373+27) (show(0:Int)<2147483563 by decide)
  generalize Int.fmod (v*39373+27) 2147483563=w at*
  have m1:=Int.fmod_nonneg_of_pos (Int.fdiv w 32) hp
  have m2:=Int.fmod_lt_of_pos (Int.fdiv w 32) hp
  refine xE (Int.eq_ofNat_of_zero_le m1) fun m hm=>?_
  rw[hm]at m2
  obtain⟨e,he⟩:∃e,xs[m]?=some e:=(iE _ (List.getElem?_eq_getElem (by lia)))
  exact bw (aV (aA (aa rfl) (aA (aA (aA (aa rfl) ad (hY (k:=1) (dD (af.CN _ _ _)) rfl (by decide))) ad (tA ⟨by decide,by decide⟩)) hl (jt (by lia))) (by exact rE hm (hY (k:=m) rfl he (by lia))))) (h u _ e hu w1 (List.mem_of_getElem? he))
noncomputable abbrev bO(x:Str×Str):D:= .tup [.str x.1,.str x.2]
noncomputable abbrev a8:List (Str×Str):=[(ofString "value",ofString "x"),(ofString "value",ofString "+++"),(ofString "value",ofString "."),(ofString "type",ofString "T"),(ofString "constructor",ofString "C"),(ofString "constructor",ofString ":|"),(ofString "class",ofString "K"),(ofString "value",ofString "m"),(ofString "value",ofString "<>")]
theorem fA{y:Str}(h1:(decide (x.length≤1048576)&&PyData.strOk x)=true)(h2:(decide (y.length≤1048576)&&PyData.strOk y)=true):Ev c (rn (bM (xI x) (bM (xI y) eS)) jw) ξ σ (bO (x,y)) σ:=
 aC (ac (ah h1) (ae (ah h2))) cr
theorem gE(p:Pg)(h:Φ (.lst (a8.map bO)) σ):aL C (n+1) (.ref 372) [] σ Φ X:=by
 refine' bJ p (C:=C) (n:=n) (ow:=[]) (es:=[]) (ws:=[]) (sl:=[]) (names:=[]) (fun zz=>rfl) (fun zz=>rfl) ?hp ?hb ?hs rfl ?hsc ?hnd rfl rfl (fun zz=> .nil) ?hbind (w:=?w) ?hsx ?hw (hlk:=?hlk)
 case hp=>(conv=>lhs;whnf)
 case hb=>(conv=>lhs;whnf)
 case hs=>(conv=>lhs;whnf)
 case hsc=>rfl
 case hnd=>decide
 case hlk=>decide
 case hbind=>exact fun s vs X hl=>wM (P:=fun vs=>BindsTo s _ ⟨vs,[]⟩ (List.zip _ (vs++_))) hl (BindsTo.of_eq rfl)
 case hsx=>infer_instance
 refine'(?_:_)
 exact bw (aV (aC (ac (fA (by decide+kernel) (by decide+kernel)) (ac (fA (by decide+kernel) (by decide+kernel)) (ac (fA (by decide+kernel) (by decide+kernel)) (ac (fA (by decide+kernel) (by decide+kernel)) (ac (fA (by decide+kernel) (by decide+kernel)) (ac (fA (by decide+kernel) (by decide+kernel)) (ac (fA (by decide+kernel) (by decide+kernel)) (ac (fA (by decide+kernel) (by decide+kernel)) (ae (fA (by decide+kernel) (by decide+kernel))))))))))) aU)) h
end
section
variable{X:af→Prop}{t:Addr}
theorem ie:∀{l m:List Str},l.map D.str=m.map D.str→l=m
 |[],[],_=>rfl
 |x::l,y::m,e=>by
  rw[List.map_cons,List.map_cons]at e
  injection e with e1 e2
  injection e1 with e1
  exact rE e1 (rE (ie e2) rfl)
theorem ly:∀{a b:List Str},bx known (a++b)=(bx known a).bind fun r=>(bx known b).map (r++·)
 |[],b=>by refine(?_:bx known b=Option.map _ _);cases bx known b<;>rfl
 |x::a,b=>by
  refine rE List.cons_append ?_
  show(if _ then none else Option.map _ (bx known (a++b)))=Option.bind (if _ then none else Option.map _ (bx known a)) _
  refine rE (ly (a:=a)) ?_
  by_cases h:known.filter (fun t=>decide (t.2.1=x))=[]
  ·exact rE (if_pos h) (rE (if_pos h) rfl)
  ·refine rE (if_neg h) (rE (if_neg h) ?_)
   cases bx known a with
   |none=>rfl
   |some r=>
    cases bx known b with
    |none=>rfl
    |some r'=>exact congrArg some (List.append_assoc _ _ _).symm
theorem nj:∀{l:List ag} {k:Nat},(l.map bb).all (pl (k+2))=true
 |[],_=>rfl
 |_::l,k=>by exact rE List.map_cons (rE List.all_cons (rE nj rfl))
theorem jJ:dq σ .Eq (.lst (l.map bb)) (.lst [])=some (decide (l=[])):=by
 refine rE (nU (by refine(?_:((l.map bb).all (pl 7)&&true)=true);exact rE nj rfl)) ?_
 congr 1
 cases l with
 |nil=>exact rE (cT.mpr (by rfl)) rfl
 |cons x l=>exact rE (kh fun q=>by cases q) rfl
noncomputable def dA:Option (List ag)→D
 |none=> .none
 |some r=> .lst (r.map bb)
theorem cu{xs:List D}(hd:bg σ d=some xs)(he:bg σ e=some ys)(_:True)(hz:xs.length+ys.length≤1048576)(hp:c.owns p=false:=by rfl):Op c (eT p .Add) [d,e] σ (.lst (xs++ys)) σ:=by
 intro Φ q
 delta eT
 refine rE hp ?_
 exact(fP d e rfl (.inr (pA rfl xs ys hd he (by exact rE List.length_append hz) q)))
theorem lz(p:Pg)(hk:known.length≤100)(hsb:∀l,sb= .some l→l.length≤100)(h:Φ (dA (bt known sb)) σ):aL C (n+1) (.ref 403) [.lst (known.map bb),gU sb] σ Φ X:=by
 refine' bJ p (C:=C) (n:=n) (ow:=[]) (es:=[]) (ws:=[]) (sl:=[ofString "known",ofString "subs",ofString "found",ofString "name",ofString "some"]) (names:=[ofString "known",ofString "subs"]) (fun zz=>rfl) (fun zz=>rfl) ?hp ?hb ?hs rfl ?hsc ?hnd rfl rfl (fun zz=> .nil) ?hbind (w:=?w) ?hsx ?hw (hlk:=?hlk)
 case hp=>(conv=>lhs;whnf)
 case hb=>(conv=>lhs;whnf)
 case hs=>(conv=>lhs;whnf)
 case hsc=>rfl
 case hnd=>decide
 case hlk=>decide
 case hbind=>exact fun s vs X hl=>jC (P:=fun vs=>BindsTo s _ ⟨vs,[]⟩ (List.zip _ (vs++_))) hl fun a0 a1=>(BindsTo.of_eq rfl)
 case hsx=>infer_instance
 refine'(?_:_)
 cases sb with
 |none=>exact bw (bh (k8 (aH (aa rfl) _ rfl)) (aQ (aV (cE (ar (al (aa rfl) ah (nU rfl)) (kh fun q=>by cases q)) (aC bf aU))))) h
 |all=>exact bw (bh (f8 (aH (aa rfl) _ rfl) (k8 (ar (al (aa rfl) ah (aW _ _ _)) (decide_eq_true rfl)))) (aQ (aV (cS (ar (al (aa rfl) ah (aW _ _ _)) (decide_eq_true rfl)) (aa rfl))))) h
 |some l=>
  have hl:=hsb l rfl
  have h:Φ (dA (bx known l)) σ:=h
  refine aD (aG (f8 (aH (aa rfl) _ rfl) (f8 (al (aa rfl) ah (kj l)) mj)) aR) ?_
  refine aD (aX (aC bf aU)) ?_
  refine aN (c9 (aa rfl) aY rfl (by refine rE (List.length_map _) ?_;lia) (dN (fun pre ξ σ1=>∀G:Prop,(∀o3 o4 names acc,pre=names.map D.str→ξ=[some (.lst (known.map bb)),some (.lst (l.map .str)),some (.lst (acc.map bb)),o3,o4]→σ1=σ→bx known names=some acc→G)→G) (fun pre e post ξ σ1 Ψ he hI hn hr=>?_) (fun ξ σ1 hI=>?_) (fun zz κ=>κ _ _ [] [] rfl rfl rfl rfl)))
  ·refine hI _ fun o3 o4 names acc e4 e5 e6 hp=>?_
   subst e4 e5 e6
   refine bB (List.map_eq_append_iff.mp he) fun a b hab ha hb=>?_
   refine bB (List.map_eq_cons_iff.mp hb) fun x rest q2 q3 q4=>?_;subst q2 q3 q4
   obtain rfl:names=a:=(ie ha).symm
   have Iu:names.length≤100:=by rw[hab,List.length_append]at hl;lia
   have hlen:acc.length≤10000:=Nat.le_trans (hU hp) (Nat.mul_le_mul hk Iu)
   have hfz:(known.filter fun t=>decide (t.2.1=x)).length≤known.length:=List.length_filter_le _ _
   refine aM _ (aD (aX (dX (l:=known) (fun t=>decide (t.2.1=x)) rfl (aa rfl) aY rfl (by lia) fun t ht=>(bP _ aM (al (aA (aa rfl) ad iR) (aa rfl) (aW _ _ _)) (aa rfl)))) ?_)
   by_cases hf:(known.filter fun t=>decide (t.2.1=x))=[]
   ·refine(bw (bh (ar (al (aa rfl) (aC bf aU) jJ) (decide_eq_true hf)) (aQ (aV ad))) (hr _ _ _ ?_))
    have:bx known l=none:=by refine rE hab (rE ly (rE hp ?_));show Option.map _ (if _ then none else _)=none;exact rE (if_pos hf) rfl
    rw[this]at h;exact h
   ·refine aD (aG (ar (al (aa rfl) (aC bf aU) jJ) (decide_eq_false hf)) aR) ?_
    refine aD (aX (aA (aa rfl) (aa rfl) (cu rfl rfl trivial (by refine rE (List.length_map _) (rE (List.length_map _) ?_);lia)))) ?_
    refine rF List.map_append ?_
    refine(hn _ _ fun zz κ=>κ _ _ (names++[x]) (acc++known.filter (fun t=>decide (t.2.1=x))) (by exact rE List.map_append rfl) rfl rfl ?_).1
    refine rE ly (rE hp ?_)
    show Option.map _ (if _ then none else _)=_
    refine rE (if_neg hf) ?_
    refine(?_:some (acc++(_++[]))=_)
    exact rE (List.append_nil _) rfl
  ·refine hI _ fun o3 o4 names acc hnm e5 e6 hp=>?_
   subst e5 e6
   rw[ie hnm]at h
   rw[hp]at h
   exact bw (aV (aa rfl)) h
end
section
variable{X:af→Prop}{t:Addr}
theorem mv{α:Type}{turn:D→af→(Option D→af→Prop)→Prop}{enc g:α→D}{c:α→Bool}{Φ:List D→af→Prop}:∀{l:List α} {acc:List D},(∀x∈l,∀Ψ:Option D→af→Prop,Ψ (if c x=true then some (g x)else none) σ→turn (enc x) σ Ψ)→Φ (acc++(l.filter c).map g) σ→iT turn (l.map enc) acc σ Φ
 |[],acc,_,q=>by rw[List.filter_nil,List.map_nil,List.append_nil]at q;exact q
 |x::l,acc,h,q=>h x (.head _) _ (mv (fun e he=>h e (.tail _ he)) (by
   rw[List.filter_cons]at q
   refine bE (b:=c x) (fun e=>?_) fun e=>?_
   ·rw[e]at q;simpa using q
   ·rw[e]at q;simpa using q))
theorem k9{α:Type}{scope:Scope}{init:List (Option Nat)}{l:List α}(enc:α→D)(cc:α→Bool)(g:α→D)(h0:dG scope=true)(h1:Ev c wit ξ σ d σ1)(hd:∀a,d≠ .ref a)(hi:eL σ1 d=some (l.map enc))(hz:l.length≤1048576)
 (h:∀t∈l,∃ξ1,Tg c.cut wt (enc t) (bp init ξ) σ1 ξ1 σ1∧Ev c.cut wi ξ1 σ1 (cc t) σ1∧(cc t=true→Ev c.cut we ξ1 σ1 (g t) σ1)) (ho:c.owns p=false:=by rfl):Ev c (gW p scope wit wt wi we init) ξ σ (.lst ((l.filter cc).map g)) σ1:=
 fun Φ q=>⟨h0,h1 _ (cf hd _ hi (by exact rE (List.length_map _) hz) (mv (c:=cc) (g:=g) (fun t ht Ψ hΨ=>by
  refine cz (h t ht) fun ξ1 a b e=>?_
  refine a _ (b _ ?_)
  refine bD (b:=cc t) (fun hc=>?_) fun hc=>?_
  ·rw[hc]at hΨ;exact rE (if_pos rfl) (e hc _ hΨ)
  ·rw[hc]at hΨ;exact rE (if_neg (by decide)) hΨ) (by exact rE ho q)))⟩
theorem ml{α:Type}{scope:Scope}{init:List (Option Nat)}{l:List α}(enc:α→D)(g:α→D)(h0:dG scope=true)(h1:Ev c wit ξ σ d σ1)(hd:∀a,d≠ .ref a)(hi:eL σ1 d=some (l.map enc))(hz:l.length≤1048576)
 (h:∀t∈l,∃ξ1,Tg c.cut wt (enc t) (bp init ξ) σ1 ξ1 σ1∧Ev c.cut we ξ1 σ1 (g t) σ1) (ho:c.owns p=false:=by rfl):Ev c (gW p scope wit wt mT we init) ξ σ (.lst (l.map g)) σ1:=by
 have:=k9 (wi:=mT) enc (fun zz=>true) g h0 h1 hd hi hz (fun t ht=>(h t ht).elim fun ξ1 q=>(bP ξ1 q.1 (fun zz q=>q) (fun zz=>q.2))) ho
 rw[List.filter_eq_self.mpr fun zz zz=>rfl]at this
 exact this
noncomputable abbrev dl(t:cC):D:= .tup [.str t.1,.str t.2.1,gU t.2.2]
theorem kG(p:Pg){ts:List cC}(hz:ts.length≤100)(hs:∀t∈ts,∀l,t.2.2= .some l→l.length≤100)(h:Φ (.lst (ts.map jn)) σ):aL C (n+4) (.ref 418) [.lst (ts.map dl)] σ Φ X:=by
 refine' bJ p (C:=C) (n:=(n+3)) (ow:=[]) (es:=[]) (ws:=[]) (sl:=[ofString "told"]) (names:=[ofString "told"]) (fun zz=>rfl) (fun zz=>rfl) ?hp ?hb ?hs rfl ?hsc ?hnd rfl rfl (fun zz=> .nil) ?hbind (w:=?w) ?hsx ?hw (hlk:=?hlk)
 case hp=>(conv=>lhs;whnf)
 case hb=>(conv=>lhs;whnf)
 case hs=>(conv=>lhs;whnf)
 case hsc=>rfl
 case hnd=>decide
 case hlk=>decide
 case hbind=>exact fun s vs X hl=>gS (P:=fun vs=>BindsTo s _ ⟨vs,[]⟩ (List.zip _ (vs++_))) hl fun a0=>(BindsTo.of_eq rfl)
 case hsx=>infer_instance
 refine'(?_:_)
 refine bw (aV (ml (l:=ts) dl jn rfl (aa rfl) aY rfl (by lia) fun t ht=>(aP _ pX (bI (by decide+kernel) p.ER p.keep (ac (aa rfl) (ac (aa rfl) (ae (d:=gU t.2.2) (σ1:=σ) ?_))) fun zz q=>wy (n:=n) p q)))) h
 cases e:t.2.2 with
 |none=>exact cE (a9 (fun zz q=>(nJ p.De p.DT _ rfl q)) rfl) (aa rfl)
 |all=>exact cE (a9 (fun zz q=>(nJ p.De p.DT _ rfl q)) rfl) (aa rfl)
 |some l=>exact cS (a9 (fun zz q=>(nJ p.De p.DT _ rfl q)) rfl) (ef p.DT (ae (aa rfl)) fun zz q=>⟨by refine rE (List.length_map _) ?_;have:=hs t ht l e;lia,q⟩)
noncomputable def iL:List Str:=[ofString "M",ofString "N.P"]
noncomputable def td(m x:Str):Bool:=
 decide (bN 10 (m++ofString "." ++x)=some x)&&decide (bN 10 x=some x)&&decide (Txt.slice (m++ofString "." ++x) none (some (if((m++ofString "." ++x).length:Int)-x.length-1>0 then((m++ofString "." ++x).length:Int)-x.length-1 else 0))=m)
theorem uy:(iL.all fun m=>a8.all fun x=>td m x.2)=true:=by decide+kernel
theorem ux:([ofString "x",ofString "C"].all fun x=>decide (bN 10 x=some x)&&decide (Txt.slice x none (some (if(x.length:Int)-x.length-1>0 then(x.length:Int)-x.length-1 else 0))=ofString ""))=true:=by decide+kernel
theorem mm(h:pl 8 d=true):dq σ .NotEq d d=some false:=by
 refine rE (tX (by exact rE h rfl)) (rE (cT.mpr rfl) ?_);rfl
theorem sL.refl(σ:af)(S:Addr→Prop)(ξ:Lo):sL σ S ξ ξ:=⟨rfl,fun i d h=>(aP d h (.same _))⟩
theorem r9(σ:af):σ.minus (fun zz=>False)=σ:=funext fun b=>af.CQ (S:=fun zz=>False) fun q=>q
theorem AT{ws:WS}{Φ:Fl→Lo→af→Prop}(h:ws c ξ1 σ1 Φ):∃S ξ2,(∀a,S a→σ1 a≠none)∧sL σ1 S ξ1 ξ2∧ws c ξ2 (σ1.minus S) Φ:=
 (bH (fun zz=>False) ξ1 (fun zz q=>q.elim) (sL.refl _ _ _) (by exact rE (r9 _) h))
theorem k7(h1:Ev c wa ξ σ d σ1)(ht:xC σ1 d=some true)(h2:Ev c wb ξ σ1 e σ2):Ev c (z8 wa wb) ξ σ e σ2:=fun Φ q=>h1 _ (by
 refine rE ht ?_
 exact h2 _ q)
theorem kF(p:Pg)(h:Φ (.bool true) σ):aL C (n+4) (.ref 432) [] σ Φ X:=by
 refine' bJ p (C:=C) (n:=(n+3)) (ow:=[]) (es:=[]) (ws:=[]) (sl:=[ofString "module",ofString "kind",ofString "name"]) (names:=[]) (fun zz=>rfl) (fun zz=>rfl) ?hp ?hb ?hs rfl ?hsc ?hnd rfl rfl (fun zz=> .nil) ?hbind (w:=?w) ?hsx ?hw (hlk:=?hlk)
 case hp=>(conv=>lhs;whnf)
 case hb=>(conv=>lhs;whnf)
 case hs=>(conv=>lhs;whnf)
 case hsc=>rfl
 case hnd=>decide
 case hlk=>decide
 case hbind=>exact fun s vs X hl=>wM (P:=fun vs=>BindsTo s _ ⟨vs,[]⟩ (List.zip _ (vs++_))) hl (BindsTo.of_eq rfl)
 case hsx=>infer_instance
 refine'(?_:_)
 have hm:∀m∈iL,∀x∈a8,bN 10 (m++ofString "." ++x.2)=some x.2∧bN 10 x.2=some x.2∧Txt.slice (m++ofString "." ++x.2) none (some (if((m++ofString "." ++x.2).length:Int)-x.2.length-1>0 then((m++ofString "." ++x.2).length:Int)-x.2.length-1 else 0))=m:=fun m hm x hx=>by
  have:=List.all_eq_true.mp (List.all_eq_true.mp uy m hm) x hx
  simp only[td,Bool.and_eq_true,decide_eq_true_eq]at this
  exact(dx this.1.1 this.1.2 this.2)
 have hz:∀m∈iL,m.length≤10:=by decide+kernel
 have hz2:∀x∈a8,x.2.length≤10:=by decide+kernel
 have e1:(ofString ".").length=1:=by decide+kernel
 refine aN (c9 (aC (ac ah (ae ah)) aU) aY rfl (by decide) (dN (fun pre ξ σ1=>∀G:Prop,(∀o0 o1 o2,ξ=[o0,o1,o2]→σ=σ1→G)→G) (fun pre e post ξ σ1 Ψ he hI hn hr=>?_) (fun ξ σ1 hI=>?_) (fun zz κ=>κ _ _ _ rfl rfl)))
 ·refine hI _ fun o0 o1 o2 e3 e4=>?_
  subst e3 e4
  obtain⟨m,hmm,rfl⟩:∃m∈iL,D.str m=e:=List.mem_map.mp (show e∈iL.map .str by refine(?_:e∈[D.str (ofString "M"),D.str (ofString "N.P")]);refine rE he ?_;simp)
  refine aM _ (?_:zE _ _ _ _ _ _)
  refine(?_:xU _ _ _ _ _ _ _)
  refine c9 (bI (by decide+kernel) p.Dd p.keep bf fun zz q=>gE (n:=n+2) p q) aY rfl (by decide) (dN (fun pre ξ σ1=>∀G:Prop,(∀o1 o2,ξ=[some (.str m),o1,o2]→σ=σ1→G)→G) (fun pre e post ξ σ1 Ψ he hI hn hr=>?_) (fun ξ σ1 hI=>?_) (fun zz κ=>κ _ _ rfl rfl))
  ·refine hI _ fun o1 o2 e2 e3=>?_
   subst e2 e3
   obtain⟨x,hx,rfl⟩:∃x∈a8,bO x=e:=List.mem_map.mp (show e∈a8.map bO by refine rE he ?_;simp)
   refine dF (hm m hmm x hx) fun h1 h2 h3=>?_
   have c1:=hz m hmm
   have c2:=hz2 x hx
   refine un _ ((aQ (aG (f8 (al (aC (ac (bI (by decide+kernel) p.Di p.keep (ae (aA (aA (aa rfl) ah (bz (by lia))) (aa rfl) (bz (by refine rE (Str.length_append _ _) ?_;lia)))) fun zz q=>hV (n:=n) p h1 (by exact rE h3 q)) (ae (bI (by decide+kernel) p.C3 p.keep (ae (aA (aA (aa rfl) ah (bz (by lia))) (aa rfl) (bz (by refine rE (Str.length_append _ _) ?_;lia)))) fun zz q=>fG (n:=n+1) p h1 q))) cr) (aC (ac (aa rfl) (ae (aa rfl))) cr) (mm rfl)) (f8 (al (bI (by decide+kernel) p.C3 p.keep (ae (aa rfl)) fun zz q=>fG (n:=n+1) p h2 q) (aa rfl) (mm rfl)) mj)) aR)) _ (hn _ _ fun zz κ=>κ _ _ rfl rfl).1)
  ·refine hI _ fun o1 o2 e2 e3=>?_
   subst e2 e3
   exact AT (hn _ _ fun zz κ=>κ _ _ _ rfl rfl).1
 ·refine hI _ fun o0 o1 o2 e3 e4=>?_
  subst e3 e4
  have he:∀x∈[ofString "x",ofString "C"],bN 10 x=some x∧Txt.slice x none (some (if(x.length:Int)-x.length-1>0 then(x.length:Int)-x.length-1 else 0))=ofString "" :=fun x hx=>by
   have:=List.all_eq_true.mp ux x hx
   simp only[Bool.and_eq_true,decide_eq_true_eq]at this
   exact this
  refine xA (he _ (.head _)) fun a1 a2=>?_
  refine xA (he _ (.tail _ (.head _))) fun b1 b2=>?_
  have cv:∀{σ:af},dq σ .Eq (.str (ofString "")) (.str (ofString ""))=some true:=by intro σ;refine rE (aW _ _ _) ?_;simp
  exact bw (aV (k7 (aA (bI (by decide+kernel) p.Di p.keep (ae ah) fun zz q=>hV (n:=n) p a1 (by exact rE a2 q)) ah (ia cv)) rfl
   (aA (bI (by decide+kernel) p.Di p.keep (ae ah) fun zz q=>hV (n:=n) p b1 (by exact rE b2 q)) ah (ia cv)))) h
end
section
variable{X:af→Prop}{t:Addr}
theorem Pg.GK{h:Heap}{o:Obj}(p:Pg)(hK:(kW cx.w.params).lookup a=some o)(X:cx.K.In h):h.get? a=some o:=X _ _ (by exact rE p.hP hK)
noncomputable abbrev sr:List (Str×Str):=[(ofString "constructor",ofString "C"),(ofString "constructor",ofString ":|")]
noncomputable abbrev su:List (Str×Str):=[(ofString "value",ofString "m"),(ofString "value",ofString "<>")]
theorem jr{y:Str}{t:Tok}(h:Z a=some {cls:=Value.type "tuple",data:=Data.seq #[Value.str x t,Value.str y u]})(h1:bv x)(h2:bv y):aw Z (.ref a) (bO (x,y)):=
 .tup h rfl rfl (.cons (.str _ _ h1) (.cons (.str _ _ h2) .nil))
theorem vh(p:Pg):zg (ofString "_law_heads") (.dS [(ofString "T",.lst (sr.map bO)),(ofString "K",.lst (su.map bO))]):=by
 refine(gp (by decide+kernel) _ p.D8 (.dS (xs:=[(ofString "T",.ref 376),(ofString "K",.ref 379)]) (p.GK rfl p.ok.X) (dC _ _ (dx rfl rfl rfl) rfl (fun e he=>?_) (.cons (strKind_is _ _ _ _) rfl (.cons (strKind_is _ _ _ _) rfl .nil)) (by decide+kernel))
  (.cons (.lst (p.obj (fun zz=>rfl) p.ok.X) ⟨rfl,rfl⟩ rfl (.cons (jr (p.obj (fun zz=>rfl) p.ok.X) ⟨by decide+kernel,by decide+kernel⟩ ⟨by decide+kernel,by decide+kernel⟩) (.cons (jr (p.obj (fun zz=>rfl) p.ok.X) ⟨by decide+kernel,by decide+kernel⟩ ⟨by decide+kernel,by decide+kernel⟩) .nil)))
   (.cons (.lst (p.obj (fun zz=>rfl) p.ok.X) ⟨rfl,rfl⟩ rfl (.cons (jr (p.obj (fun zz=>rfl) p.ok.X) ⟨by decide+kernel,by decide+kernel⟩ ⟨by decide+kernel,by decide+kernel⟩) (.cons (jr (p.obj (fun zz=>rfl) p.ok.X) ⟨by decide+kernel,by decide+kernel⟩ ⟨by decide+kernel,by decide+kernel⟩) .nil))) .nil)) (by decide) fun kv hk=>?_))
 ·simp only[List.mem_toArray,List.mem_cons,List.not_mem_nil,or_false]at he
  rcases he with rfl|rfl
  ·exact(aP (ofString "T") (strKind_is _ _ _ _) rfl)
  ·exact(aP (ofString "K") (strKind_is _ _ _ _) rfl)
 ·simp only[List.mem_cons,List.not_mem_nil,or_false]at hk
  rcases hk with rfl|rfl
  ·exact⟨by decide+kernel,by decide+kernel⟩
  ·exact⟨by decide+kernel,by decide+kernel⟩
def gQ(σ:af)(a:Addr):Prop:=∃u v,(0:Int)≤u∧0≤v∧σ a=some (.lst [.int u,.int v])
theorem gQ.put{b:Addr}{x:AO}(h:gQ σ a)(n:a≠b):gQ (σ.put b x) a:=by
 refine bB h fun u v h1 h2 h3=>?_;clear h
 exact(bH u v h1 h2 ((af.CO _ _ n).trans h3))
def ky(σ:af)(a:Addr)(σ':af):Prop:=gQ σ' a∧∀b,b≠a→σ' b=σ b
theorem ga(p:Pg){xs:List D}(hs:gQ σ a)(hi:ξ[0]?=some (some (.ref a)))(h1:Ev ⟨C,n+1,X,ow⟩ wl ξ σ (.lst xs) σ)(h0:0<xs.length)(hz:xs.length≤1000)
 (h:∀x σ',x∈xs→ky σ a σ'→Φ x σ'):lg (ofString "_law_pick") (bM (bW 0) (bM wl eS)) ⟨C,n+1,X,ow⟩ ξ σ Φ:=by
 refine bB hs fun u v hu hv ha=>?_;clear hs
 exact(cf (by decide+kernel) (.ref 365) p.DE p.keep (ac (aa hi) (ae h1) _ (lA p hu hv ha h0 hz fun u' v' x h1 h2 hx=>h x _ hx ⟨(bH u' v' h1 h2 (af.CN _ _ _)),fun b hb=>af.CO _ _ hb⟩)))
end
section
variable{X:af→Prop}{b t:Addr}
structure LI(CP:af)(a b:Addr)(acc:List cC)(σ:af):Prop where
 seed:gQ σ a
 ext:dE [a] CP σ
 ab:a≠b
 nb:CP b=none
 fb:σ b=some (.lst (acc.map dl))
theorem LI.pick{acc:List cC}(h:LI CP a b acc σ)(hp:ky σ a σ'):LI CP a b acc σ':=
 ⟨hp.1,fun c x n e=>(hp.2 c fun q=>n (by exact rE q (.head _))).trans (h.ext c x n e),h.ab,h.nb,(hp.2 b h.ab.symm).trans h.fb⟩
theorem LI.add{acc:List cC}(h:LI CP a b acc σ)(t:cC):LI CP a b (acc++[t]) (σ.put b (.lst (acc.map dl++[dl t]))):=
 ⟨h.seed.put h.ab,fun c x n e=>(af.CO _ _ (au e h.nb)).trans (h.ext c x n e),h.ab,h.nb,by exact rE (af.CN _ _ _) (rE List.map_append rfl)⟩
def rh(s:gd):Prop:=∀l,s= .some l→l.length≤2∧∀x∈l,x.length≤10
def pW(vals heads lots:List Str)(t:cC):Prop:=
 (t.1=ofString "module"∧t.2.1∈lots∧t.2.2= .none)∨(t.1=ofString "value"∧t.2.1∈vals∧t.2.2= .none)∨(t.1=ofString "type"∧t.2.1∈heads∧rh t.2.2)
theorem qu{l:List Str}:(l.map D.str).all (pl (k+1))=true:=by refine rE (propext List.all_eq_true) ?_;intro x hx;refine aF (List.mem_map.mp hx) fun t zz q2=>?_;subst q2;rfl
theorem mn{l:List D}(h:l.all (pl 7)=true):dq σ .NotEq (.lst l) (.lst [])=some (!decide (l=[])):=by
 refine rE (tX (by refine(?_:(l.all (pl 7)&&true)=true);exact rE h rfl)) ?_
 congr 2
 cases l with
 |nil=>exact rE (cT.mpr rfl) rfl
 |cons x l=>exact rE (kh fun q=>by cases q) rfl
theorem sd{l:List D}{b:Addr}(h:σ b=some (.lst l))(hq:Φ (.lst l) (σ.minus fun c=>c=b)):∃S d',(∀c,S c→σ c≠none)∧Fz σ S (.ref b) d'∧Φ d' (σ.minus S):=
 (bH (fun c=>c=b) (.lst l) (fun c hc=>by rw[hc,h];exact fun q=>by exact sN q) (.lst rfl h (rk.refl _)) hq)
noncomputable abbrev tn:List gd:=[.some [ofString "C"],.some [ofString ":|",ofString "C"],.some [ofString ":|"]]
noncomputable abbrev tu:List gd:=[.some [ofString "m"],.some [ofString "<>"],.some [ofString "m",ofString "<>"]]
noncomputable abbrev tq:List gd:=[.some [ofString "C"],.none,.none]
theorem Ae:∀o∈[tn,tu,tq],∀s∈([.none,.all,.all,.some []]++o:List gd),rh s:=by
 intro o ho s hs l hl
 subst hl
 simp only[List.mem_cons,List.not_mem_nil,or_false]at ho
 rcases ho with rfl|rfl|rfl<;>simp at hs<;>rcases hs with rfl|hs<;>first|exact⟨by decide,by decide+kernel⟩|skip
 all_goals (rcases hs with rfl|hs<;>first|exact⟨by decide,by decide+kernel⟩|skip)
 all_goals (rcases hs with rfl|rfl<;>exact⟨by decide,by decide+kernel⟩)
theorem qg(σ:af)(k:Nat):eL σ (.rng k)=some ((List.range k).map fun(i:Nat)=>D.int (i:Int)):=by
 refine(?_:(if(0:Int)≤(k:Int)then some _ else none)=_)
 exact rE (if_pos (Int.natCast_nonneg k)) rfl
theorem xe{k1 k2:WE}{y1 y2:Str}{d1 d2:D}(h1:∀σ,Ev c k1 ξ σ (.str y1) σ)(h2:∀σ,Ev c v1 ξ σ d1 σ)(h3:∀σ,Ev c k2 ξ σ (.str y2) σ)(h4:∀σ,Ev c v2 ξ σ d2 σ)(hn:y1≠y2):Ev c (vE k1 v1 k2 v2) ξ σ (.dS [(y1,d1),(y2,d2)]) σ:=
 fun Φ q d hd=>h1 _ _ (h2 _ _ (h3 _ _ (h4 _ _ (dC y1 y2 rfl rfl hn (af.CN _ _ _) (by exact rE (dn hd) q)))))
theorem yu(y:Str):∃o∈[tn,tu,tq],(look [(ofString "T",D.lst (tn.map gU)),(ofString "K",D.lst (tu.map gU))] y).getD (.lst (tq.map gU))= .lst (o.map gU):=by
 by_cases h:ofString "T" =y
 ·exact(aP tn (.head _) (by delta look;simp[h]))
 ·by_cases h2:ofString "K" =y
  ·exact(aP tu (.tail _ (.head _)) (by delta look;simp[h,h2]))
  ·exact(aP tq (.tail _ (.tail _ (.head _))) (by delta look;simp[h,h2]))
theorem lB(p:Pg)(hs:gQ σ a)(h1:vals≠[])(h2:heads≠[])(z1:vals.length≤1000)(z2:heads.length≤1000)(z3:lots.length≤1000)(hh:∀x∈heads,(Txt.charAt x (-1)).isSome=true)
 (h:∀(ts:List cC) (σ':af),ts.length≤2→(∀t∈ts,pW vals heads lots t)→gQ σ' a→dE [a] σ σ'→Φ (.lst (ts.map dl)) σ'):aL C (n+2) (.ref 398) [.ref a,.lst (vals.map .str),.lst (heads.map .str),.lst (lots.map .str)] σ Φ X:=by
 revert p hs h1 h2 z1 z2 z3 hh h;revert heads lots;revert C n X σ a vals Φ;apply z7
 generalize (e7 _ _).1.1.1=vals,(e7 _ _).1.1.2=a,(e7 _ _).1.2.1=C,(e7 _ _).1.2.2=n,(e7 _ _).2.1.1=σ,(e7 _ _).2.1.2=Φ,(e7 _ _).2.2=X;intro heads lots p hs h1 h2 z1 z2 z3 hh h
 refine aL.freeze ?_
 refine' bJ p (C:=C) (n:=(n+1)) (ow:=[(266,12)]) (es:=[]) (ws:=[]) (sl:=[ofString "seed",ofString "values",ofString "heads",ofString "lots",ofString "found",ofString "turn",ofString "way",ofString "name",ofString "some"]) (names:=[ofString "seed",ofString "values",ofString "heads",ofString "lots"]) (fun zz=>rfl) (fun zz=>rfl) ?hp ?hb ?hs rfl ?hsc ?hnd rfl rfl (fun zz=> .nil) ?hbind (w:=?w) ?hsx ?hw (hlk:=?hlk)
 case hp=>(conv=>lhs;whnf)
 case hb=>(conv=>lhs;whnf)
 case hs=>(conv=>lhs;whnf)
 case hsc=>rfl
 case hnd=>decide
 case hlk=>decide
 case hbind=>exact fun s vs X hl=>jA (P:=fun vs=>BindsTo s _ ⟨vs,[]⟩ (List.zip _ (vs++_))) hl fun a0 a1 a2 a3=>(BindsTo.of_eq rfl)
 case hsx=>infer_instance
 refine'(?_:_)
 refine gH rfl fun b hb=>?_
 have hab:a≠b:=by refine bB hs fun u v zz zz e=>?_;clear hs;exact au e hb
 have hI:LI σ a b [] (σ.put b (.lst [])):=⟨hs.put hab,dE.put hb,hab,hb,af.CN _ _ _⟩
 refine aN (?_:xU _ _ _ _ _ _ _)
 refine⟨p.Et,ga p hI.seed rfl (aC (ac ad (ac ad (ae ad))) aU) (by decide) (by decide) fun x σ1 hx hp=>?_⟩
 have hI:=hI.pick hp
 have hk:∃k:Nat,k≤2∧x= .int k:=by
  simp only[List.mem_cons,List.not_mem_nil,or_false]at hx
  rcases hx with rfl|rfl|rfl
  ·exact(aP 1 (by decide) rfl)
  ·exact(aP 1 (by decide) rfl)
  ·exact(aP 2 (by decide) rfl)
 refine aF hk fun k hk2 q2=>?_;clear hk;subst q2
 refine(cf (fun a q=>(by cases q)) ((List.range k).map fun(i:Nat)=>D.int (i:Int)) (qg _ _) (by refine rE (List.length_map _) (rE List.length_range ?_);lia) ?_)
 refine dN (fun pre ξ σ2=>∀G:Prop,(∀o5 o6 o7 o8 acc,ξ=[some (.ref a),some (.lst (vals.map .str)),some (.lst (heads.map .str)),some (.lst (lots.map .str)),some (.ref b),o5,o6,o7,o8]→acc.length=pre.length→(∀t∈acc,pW vals heads lots t)→LI σ a b acc σ2→G)→G) (fun pre e post ξ σ2 Ψ he hI hn hr=>?_) (fun ξ σ2 hI=>?_) (fun zz κ=>κ _ _ _ _ [] rfl rfl (fun zz q=>by exact nM q) hI)
 ·revert hI
  refine fun hI0=>hI0 _ fun o5 o6 o7 o8 acc e5 hl hok hI=>?_
  clear hI0
  subst e5
  have hlen:acc.length≤2:=by
   have:=congrArg List.length he
   rw[List.length_map,List.length_range,List.length_append,List.length_cons]at this;lia
  have nxt:∀o5 o6 o7 o8 t σ3,LI σ a b acc σ3→pW vals heads lots t→Ψ .next [some (.ref a),some (.lst (vals.map .str)),some (.lst (heads.map .str)),some (.lst (lots.map .str)),some (.ref b),o5,o6,o7,o8] (σ3.put b (.lst (acc.map dl++[dl t]))):=fun o5 o6 o7 o8 t σ3 h3 ht=>
   (hn _ _ fun zz κ=>κ _ _ _ _ (acc++[t]) rfl (by exact rE List.length_append (rE List.length_append (rE hl rfl))) (fun t' h'=>(List.mem_append.mp h').elim (hok t') fun q=>by exact rE (List.mem_singleton.mp q) ht) (h3.add t)).1
  have app:∀{c:Ct} {t:cC} {σ3:af},LI σ a b acc σ3→Op c kT [.ref b,dl t] σ3 .none (σ3.put b (.lst (acc.map dl++[dl t]))):=fun h3=>lD h3.fb (by refine rE (List.length_map _) ?_;lia)
  refine aM _ (aN (?_:bj _ _ _ _ _ _))
  refine ga p hI.seed rfl (aC (ac ah (ac ah (ac ah (ae ah)))) aU) (by decide) (by decide) fun w σ3 hw hp=>?_
  have hI:=hI.pick hp
  obtain⟨w,rfl⟩:∃y,w= .str y:=by
   simp only[List.mem_cons,List.not_mem_nil,or_false]at hw
   rcases hw with rfl|rfl|rfl|rfl<;>exact(iE _ rfl)
  refine aM _ (?_:fF _ _ _ _ _ _)
  by_cases c1:w=ofString "lot"∧lots≠[]
  ·revert c1;refine fun h0=>xA h0 fun c1 c2=>?_;clear h0
   refine aN (gI (bq (ar (al (aa rfl) ah (aW _ _ _)) (decide_eq_true c1)) (bq (ar (al (aa rfl) (aC bf aU) (mn qu)) (by simpa using c2)) db)) ?_)
   refine aN (?_:ni _ _ _ _ _)
   refine(cf ⟨by decide,by decide⟩ (.ref b) rfl (er hI.fb) ⟨(by decide+kernel),(ga p hI.seed rfl (aa rfl) (by exact rE (List.length_map _) (List.length_pos_iff.mpr c2)) (by exact rE (List.length_map _) z3) fun y Dt hy hp=>?_)⟩)
   refine aF (List.mem_map.mp hy) fun y hy' q2=>?_;subst q2
   refine⟨Nat.le_of_ble_eq_true rfl,?_⟩
   delta eS
   exact app (t:=(ofString "module",y,.none)) (hI.pick hp) _ (nxt _ _ _ _ _ _ (hI.pick hp) (.inl (dx rfl hy' rfl)))
  ·refine aN (qJ (ar (dJ (b:= !decide (lots=[])) (al (aa rfl) ah (aW _ _ _)) fun zz=>ar (dJ (al (aa rfl) (aC bf aU) (mn qu)) fun zz=>db) (by simp)) (by
    by_cases q:w=ofString "lot"
    ·have:lots=[]:=Classical.byContradiction fun z=>c1 ⟨q,z⟩
     simp[this]
    ·simp[q])) ?_)
   by_cases c2:w=ofString "value"
   ·refine aN (gI (ar (al (aa rfl) ah (aW _ _ _)) (decide_eq_true c2)) ?_)
    refine aN (?_:ni _ _ _ _ _)
    refine(cf ⟨by decide,by decide⟩ (.ref b) rfl (er hI.fb) ⟨(by decide+kernel),(ga p hI.seed rfl (aa rfl) (by exact rE (List.length_map _) (List.length_pos_iff.mpr h1)) (by exact rE (List.length_map _) z1) fun y Dt hy hp=>?_)⟩)
    refine aF (List.mem_map.mp hy) fun y hy' q2=>?_;subst q2
    refine⟨Nat.le_of_ble_eq_true rfl,?_⟩
    delta eS
    exact app (t:=(ofString "value",y,.none)) (hI.pick hp) _ (nxt _ _ _ _ _ _ (hI.pick hp) (.inr (.inl (dx rfl hy' rfl))))
   ·refine aN (qJ (ar (al (aa rfl) ah (aW _ _ _)) (decide_eq_false c2)) ?_)
    refine aN (?_:bj _ _ _ _ _ _)
    refine ga p hI.seed rfl (aa rfl) (by exact rE (List.length_map _) (List.length_pos_iff.mpr h2)) (by exact rE (List.length_map _) z2) fun y Dt hy hp=>?_
    refine aF (List.mem_map.mp hy) fun y hy' q2=>?_;subst q2
    have EH:=hI.pick hp
    refine aM _ (?_:fF _ _ _ _ _ _)
    refine aF (yu (Txt.item y (-1))) fun o ho eo=>?_
    refine aD (aX (d:= .lst (o.map gU)) (ar (dO (by decide) (xe (fun zz=>ah (by decide+kernel)) (fun zz=>aC (ac (aC (ae ah) aU) (ac (aC (ac ah (ae ah)) aU) (ae (aC (ae ah) aU)))) aU) (fun zz=>ah (by decide+kernel)) (fun zz=>aC (ac (aC (ae ah) aU) (ac (aC (ae ah) aU) (ae (aC (ac ah (ae ah)) aU)))) aU) (by decide+kernel)) (.inl rfl)
     (ac (aA (aa rfl) (BS (ad (d:= .int 1)) (f:= .int (-1)) fun zz q=>q) fun zz q=>⟨by decide,.inr (.inr (bP _ rfl (hh y hy') q))⟩) (ae (aC (ac (aC (ae ah) aU) (ac ad (ae ad))) aU))) fun zz q=>(aP _ rfl q)) eo)) ?_
    refine aN (?_:ni _ _ _ _ _)
    have ol:o.length≤3:=by
     simp only[List.mem_cons,List.not_mem_nil,or_false]at ho
     rcases ho with rfl|rfl|rfl<;>exact Nat.le_refl _
    refine(cf ⟨by decide,by decide⟩ (.ref b) rfl (er EH.fb) (gp (by decide+kernel) (.str y) rfl (ga (xs:=([.none,.all,.all,.some []]++o:List gd).map gU) p EH.seed rfl (by exact rE List.map_append (aA (aC (ac ad (ac ah (ac ah (ae (aC bf aU))))) aU) (aa rfl) (cu rfl rfl trivial (by refine(?_:4+(o.map gU).length≤_);refine rE (List.length_map _) ?_;lia)))) (by exact rE (List.length_map _) (rE List.length_append (Nat.lt_of_lt_of_le (by decide) (Nat.le_add_right _ _)))) (by refine rE (List.length_map _) (rE List.length_append ?_);refine(?_:4+_≤_);lia) fun z Dm hz hp=>?_)))
    refine aF (List.mem_map.mp hz) fun z hz' q2=>?_;subst q2
    refine⟨Nat.le_of_ble_eq_true rfl,?_⟩
    delta eS
    exact app (t:=(ofString "type",y,z)) (EH.pick hp) _ (nxt _ _ _ _ _ _ (EH.pick hp) (.inr (.inr (dx rfl hy' (Ae o ho z hz')))))
 ·revert hI
  refine fun hI0=>hI0 _ fun o5 o6 o7 o8 acc e5 hl hok hI=>?_
  clear hI0
  subst e5
  have hlen:acc.length≤2:=by exact rE hl (rE (List.length_map _) (rE List.length_range hk2))
  refine bw (aV (aa rfl)) (sd hI.fb (h acc _ hlen hok ?_ ?_))
  ·refine bB (hI.seed) fun u v e1 e2 e3=>?_
   exact(bH u v e1 e2 ((af.CQ (S:=fun c=>c=b) hab).trans e3))
  ·exact fun c x n e=>(af.CQ (S:=fun c=>c=b) (au e hb)).trans (hI.ext c x n e)
end
section
variable{X:af→Prop}{b t:Addr}
theorem fy{α:Type}{items:List α}(enc:α→D)(I:List α→Lo→af→Prop){Φ:Fl→Lo→af→Prop}
 (step:∀pre x post ξ σ (Ψ:Fl→Lo→af→Prop),items=pre++x::post→I pre ξ σ→(∀ξ' σ',I (pre++[x]) ξ' σ'→Ψ .next ξ' σ'∧Ψ .cont ξ' σ')→(∀r ξ' σ',Φ (.ret r) ξ' σ'→Ψ (.ret r) ξ' σ')→turn (enc x) ξ σ Ψ)
 (fin:∀ξ σ,I items ξ σ→Φ .next ξ σ) (h:I [] ξ σ):iM turn (items.map enc) ξ σ Φ:=by
 suffices H:∀(post pre:List α) (ξ:Lo) (σ:af),items=pre++post→I pre ξ σ→iM turn (post.map enc) ξ σ Φ from H items [] ξ σ rfl h
 intro post
 induction post with
 |nil=>intro pre ξ σ e h;exact fin ξ σ (by exact rE e (rE (List.append_nil _) h))
 |cons x post ih=>
  intro pre ξ σ e h
  refine step pre x post ξ σ _ e h (fun ξ' σ' h'=>⟨?_,?_⟩) fun r ξ' σ' h'=>h'
  ·exact ih (pre++[x]) ξ' σ' (by refine rE e ?_;simp) h'
  ·exact ih (pre++[x]) ξ' σ' (by refine rE e ?_;simp) h'
noncomputable def hO(P:List (Str×List ag))(k:Str)(l:List ag):List (Str×List ag):=if P.any (fun x=>decide (x.1=k))then P.map (fun x=>if x.1=k then(x.1,l)else x)else P++[(k,l)]
theorem i5(P:List (Str×List ag))(k:Str)(l:List ag):put (av P) k (.lst (l.map bb))=av (hO P k l):=by
 delta put hO
 have e:(av P).any (fun kv=>decide (kv.1=k))=P.any fun x=>decide (x.1=k):=by
  refine(?_:(List.map _ P).any _=_)
  exact rE List.any_map rfl
 refine rE e ?_
 split
 ·refine(?_:List.map _ (List.map _ P)=List.map _ (List.map _ P))
  refine rE List.map_map (rE List.map_map ?_)
  apply List.map_congr_left
  intro x _
  refine(?_:(if x.1=k then(x.1,_)else(x.1,_))=((if x.1=k then(x.1,l)else x).1,D.lst ((if x.1=k then(x.1,l)else x).2.map bb)))
  split<;>rfl
 ·refine(?_:_=List.map _ (_++_))
  exact rE List.map_append rfl
theorem th{k:Str}{Q:Str×D→Prop}(h:∀kv∈F,Q kv)(hk:Q (k,d)):∀kv∈put F k d,Q kv:=by
 intro kv hkv
 delta put at hkv
 split at hkv
 ·refine aF (List.mem_map.mp hkv) fun y hy q2=>?_;subst q2
  split
  ·rename_i e;exact rE e hk
  ·exact h y hy
 ·rcases List.mem_append.mp hkv with q|q
  ·exact h kv q
  ·exact rE (List.mem_singleton.mp q) hk
theorem Aw{k:Str}(h:(F.map (·.1)).Nodup):((put F k d).map (·.1)).Nodup:=by
 delta put
 split
 ·refine rE List.map_map ?_
  have:(F.map ((fun x=>x.1)∘fun kv=>if kv.1=k then(kv.1,d)else kv))=F.map (·.1):=by
   apply List.map_congr_left
   intro x _
   refine(?_:(if x.1=k then(x.1,d)else x).1=x.1)
   split<;>rfl
  exact rE this h
 ·rename_i q
  refine rE List.map_append (rE (propext List.nodup_append) ?_)
  refine(dx h (by simp) (fun x hx y hy=>?_))
  simp only[List.map_cons,List.map_nil,List.mem_singleton]at hy
  refine aF (List.mem_map.mp hx) fun z hz q2=>?_;subst q2
  intro e
  exact q (List.any_eq_true.mpr (aP z hz (decide_eq_true (e.trans hy))))
noncomputable abbrev oz:List Str:=[ofString "T",ofString "K"]
noncomputable abbrev wY:List Str:=[ofString "+++",ofString ":|",ofString "<>",ofString "x"]
noncomputable def pD(hd:Str):List (Str×Str):=if hd=ofString "T"then sr else su
noncomputable def sY(m:Str)(P:List (Str×List ag))(hd:Str):List (Str×List ag):=hO P (m++ofString "." ++hd) ((pD hd).map fun x=>(x.1,x.2,m++ofString "." ++x.2))
noncomputable def jo(P:List (Str×List ag))(m:Str):List (Str×List ag):=oz.foldl (sY m) P
noncomputable def aq:List (Str×List ag):=iL.foldl jo []
theorem qs(P:List (Str×List ag))(k:Str)(l:List ag):(hO P k l).length≤P.length+1:=by
 delta hO;split<;>simp
theorem jP(m:Str):∀(l:List Str) (P:List (Str×List ag)),(l.foldl (sY m) P).length≤P.length+l.length
 |[],P=>Nat.le_refl _
 |x::l,P=>Nat.le_trans (jP m l _) (by have:=qs P (m++ofString "." ++x) ((pD x).map fun y=>(y.1,y.2,m++ofString "." ++y.2));refine rE List.length_cons ?_;delta sY;lia)
theorem m0:∀(l:List Str) (P:List (Str×List ag)),(l.foldl jo P).length≤P.length+2*l.length
 |[],P=>Nat.le_refl _
 |x::l,P=>Nat.le_trans (m0 l _) (by have:(jo P x).length≤P.length+2:=jP x oz P;refine rE List.length_cons ?_;lia)
structure TI(CP:af)(a pa sa:Addr)(P:List (Str×List ag))(F:List (Str×D))(σ:af):Prop where
 seed:gQ σ a
 ext:dE [a] CP σ
 ap:a≠pa
 E5:a≠sa
 ps:pa≠sa
 np:CP pa=none
 ns:CP sa=none
 fp:σ pa=some (.dS (av P))
 fs:σ sa=some (.dS F)
 nd:(F.map (·.1)).Nodup
 rf:∀kv∈F,∃r,kv.2= .ref r
theorem TI.pick(h:TI CP a pa sa P F σ)(hp:ky σ a σ'):TI CP a pa sa P F σ':=
 ⟨hp.1,fun c x n e=>(hp.2 c fun q=>n (by exact rE q (.head _))).trans (h.ext c x n e),h.ap,h.E5,h.ps,h.np,h.ns,(hp.2 _ h.ap.symm).trans h.fp,(hp.2 _ h.E5.symm).trans h.fs,h.nd,h.rf⟩
theorem TI.new{x:AO}(h:TI CP a pa sa P F σ)(ht:σ t=none):TI CP a pa sa P F (σ.put t x):=
 have s:a≠t:=by exact bB (h.seed) fun u v zz zz e=>au e ht
 have n0:∀c y,CP c=some y→c≠a→c≠t:=fun c y e n q=>by
  have:=h.ext c y (fun z=>n (List.mem_singleton.mp z)) e
  rw[q,ht]at this;exact nS this
 ⟨h.seed.put s,fun c x n e=>(af.CO _ _ (n0 c x e fun q=>n (by exact rE q (.head _)))).trans (h.ext c x n e),h.ap,h.E5,h.ps,h.np,h.ns,(af.CO _ _ (au h.fp ht)).trans h.fp,(af.CO _ _ (au h.fs ht)).trans h.fs,h.nd,h.rf⟩
theorem TI.part(h:TI CP a pa sa P F σ)(k:Str)(l:List ag):TI CP a pa sa (hO P k l) F (σ.put pa (.dS (put (av P) k (.lst (l.map bb))))):=
 ⟨h.seed.put h.ap,fun c x n e=>(af.CO _ _ (au e h.np)).trans (h.ext c x n e),h.ap,h.E5,h.ps,h.np,h.ns,by exact rE (af.CN _ _ _) (rE (i5 _ _ _) rfl),(af.CO _ _ h.ps.symm).trans h.fs,h.nd,h.rf⟩
theorem TI.fix(h:TI CP a pa sa P F σ)(k:Str)(r:Addr):TI CP a pa sa P (put F k (.ref r)) (σ.put sa (.dS (put F k (.ref r)))):=
 ⟨h.seed.put h.E5,fun c x n e=>(af.CO _ _ (au e h.ns)).trans (h.ext c x n e),h.ap,h.E5,h.ps,h.np,h.ns,(af.CO _ _ h.ps).trans h.fp,af.CN _ _ _,Aw h.nd,th h.rf (iE r rfl)⟩
theorem sq:∀hd∈oz,look [(ofString "T",D.lst (sr.map bO)),(ofString "K",D.lst (su.map bO))] hd=some (.lst ((pD hd).map bO)):=by
 intro hd h
 simp only[List.mem_cons,List.not_mem_nil,or_false]at h
 have ne:¬ofString "T" =ofString "K" :=by decide+kernel
 have ne':¬ofString "K" =ofString "T" :=by decide+kernel
 rcases h with rfl|rfl
 ·delta look pD;simp
 ·delta look pD;simp[ne,ne']
theorem Ch{f:Bool→Prop}(h:f true):on (some true) f:=h
theorem BL{A B:Prop}(h:A):if true=true then A else B:=by exact rE (if_pos rfl) h
theorem oO(p:Pg)(hs:gQ σ a)
 (h:∀F σ',(F.map (·.1)).Nodup→(∀kv∈F,∃r,kv.2= .ref r)→F.length≤100→gQ σ' a→dE [a] σ σ'→Φ (.tup [.dS (av aq),.dS F]) σ'):aL C (n+4) (.ref 391) [.ref a] σ Φ X:=by
 refine aL.freeze ?_
 refine' bJ p (C:=C) (n:=(n+3)) (ow:=[]) (es:=[]) (ws:=[]) (sl:=[ofString "seed",ofString "parts",ofString "strong",ofString "module",ofString "head",ofString "name"]) (names:=[ofString "seed"]) (fun zz=>rfl) (fun zz=>rfl) ?hp ?hb ?hs rfl ?hsc ?hnd rfl rfl (fun zz=> .nil) ?hbind (w:=?w) ?hsx ?hw (hlk:=?hlk)
 case hp=>(conv=>lhs;whnf)
 case hb=>(conv=>lhs;whnf)
 case hs=>(conv=>lhs;whnf)
 case hsc=>rfl
 case hnd=>decide
 case hlk=>decide
 case hbind=>exact fun s vs X hl=>gS (P:=fun vs=>BindsTo s _ ⟨vs,[]⟩ (List.zip _ (vs++_))) hl fun a0=>(BindsTo.of_eq rfl)
 case hsx=>infer_instance
 refine'(?_:_)
 have zm:∀m∈iL,m.length≤10:=by decide+kernel
 have zh:∀m∈oz,m.length≤10:=by decide+kernel
 have zf:∀m∈wY,m.length≤10:=by decide+kernel
 have zx:∀hd∈oz,∀x∈pD hd,x.2.length≤10:=by decide+kernel
 have zl:∀hd∈oz,(pD hd).length≤10:=by decide+kernel
 have e1:(ofString ".").length=1:=by decide+kernel
 refine aN (?_:ng _ _ _ _ _ _ _ _)
 refine⟨by decide,fun pa hpa sa hsa=>?_⟩
 have n1:=(af.CZ hsa)
 have ap:a≠pa:=by refine bB hs fun u v zz zz e=>?_;clear hs;exact au e hpa
 have E5:a≠sa:=by refine bB hs fun u v zz zz e=>?_;clear hs;exact au e n1.2
 have hI:TI σ a pa sa [] [] ((σ.put pa (.dS [])).put sa (.dS [])):=⟨(hs.put ap).put E5,(dE.put hpa).trans (dE.put hsa),ap,E5,n1.1.symm,hpa,n1.2,(af.CO _ _ n1.1.symm).trans (af.CN _ _ _),af.CN _ _ _,.nil,fun zz q=>by exact nM q⟩
 refine aN (c9 (items:=iL.map D.str) (aC (ac ah (ae ah)) aU) aY rfl (by decide) (fy D.str (fun pre ξ σ1=>∀G:Prop,(∀o3 o4 o5 F,ξ=[some (.ref a),some (.ref pa),some (.ref sa),o3,o4,o5]→TI σ a pa sa (pre.foldl jo []) F σ1→F.length≤4*pre.length→G)→G) (fun pre m post ξ σ1 Ψ he hI hn hr=>?_) (fun ξ σ1 hI=>?_) (fun zz κ=>κ _ _ _ [] rfl hI (Nat.le_refl _))))
 ·revert hI
  refine fun hI0=>hI0 _ fun o3 o4 o5 F e4 hI hF=>?_
  clear hI0
  subst e4
  have hm:m∈iL:=by refine rE he ?_;simp
  have zm:=zm m hm
  have hpre:pre.length≤2:=by have:=congrArg List.length he;rw[List.length_append]at this;have e:iL.length=2:=rfl;lia
  refine aM _ (dz (I:=fun ξ σ2=>∃o4,ξ=[some (.ref a),some (.ref pa),some (.ref sa),some (.str m),o4,o5]∧TI σ a pa sa ((pre++[m]).foldl jo []) F σ2) (fun Ψ hΨ=>?_) fun ξ σ2 FE=>?_)
  ·refine c9 (items:=oz.map D.str) (aC (ac ah (ae ah)) aU) aY rfl (by decide) (fy D.str (fun pre2 ξ σ1=>∀G:Prop,(∀o4,ξ=[some (.ref a),some (.ref pa),some (.ref sa),some (.str m),o4,o5]→TI σ a pa sa (pre2.foldl (sY m) (pre.foldl jo [])) F σ1→G)→G) (fun pre2 hd post2 ξ σ1 Ψ he hI hn hr=>?_) (fun ξ σ1 hI=>?_) (fun zz κ=>κ _ rfl hI))
   ·revert hI
    refine fun hI0=>hI0 _ fun o4 e1 hI=>?_
    clear hI0
    subst e1
    have hhd:hd∈oz:=by refine rE he ?_;simp
    have zh:=zh hd hhd
    have zx:=zx hd hhd
    refine aM _ (aD (bd (ml (l:=pD hd) bO (fun x=>bb (x.1,x.2,m++ofString "." ++x.2)) rfl (aA (tR (vh p)) (aa rfl) (d8 rfl (sq hd hhd))) aY rfl (Nat.le_trans (zl hd hhd) (by decide)) fun x hx=>(aP _ un (aC (ac (aa rfl) (ac (aa rfl) (ae (aA (aA (aa rfl) ah (bz (by lia))) (aa rfl) (bz (by have:=zx x hx;refine rE (Str.length_append _ _) ?_;lia)))))) cr)))
     (gz (aa rfl) (aA (aA (aa rfl) ah (bz (by lia))) (aa rfl) (bz (by refine rE (Str.length_append _ _) ?_;lia))) hI.fp ?_)) ?_)
    ·refine rE (List.length_map _) ?_
     have a1:=jP m pre2 (pre.foldl jo [])
     have a2:=m0 pre []
     have a3:pre2.length≤2:=by have:=congrArg List.length he;rw[List.length_append]at this;have e:oz.length=2:=rfl;lia
     simp only[List.length_nil]at a2
     lia
    ·refine(hn _ _ fun zz κ=>κ _ rfl ?_).1
     refine rE List.foldl_append ?_
     have:=hI.part (m++ofString "." ++hd) ((pD hd).map fun x=>(x.1,x.2,m++ofString "." ++x.2))
     rw[List.map_map]at this
     exact this
   ·revert hI
    refine fun hI0=>hI0 _ fun o4 e1 hI=>?_
    clear hI0
    subst e1
    exact hΨ _ _ (aP _ rfl (by exact rE List.foldl_append hI))
  ·revert FE;refine fun h0=>aF h0 fun o4 q1 FE=>?_;clear h0;subst q1
   refine aN (c9 (items:=wY.map D.str) (aC (ac ah (ac ah (ac ah (ae ah)))) aU) aY rfl (by decide) (fy D.str (fun Fx ξ σ1=>∀G:Prop,(∀o5 F',ξ=[some (.ref a),some (.ref pa),some (.ref sa),some (.str m),o4,o5]→TI σ a pa sa ((pre++[m]).foldl jo []) F' σ1→F'.length≤F.length+Fx.length→G)→G) (fun Fx x Hy ξ σ1 Ψ HJ hI hn hr=>?_) (fun ξ σ1 hI=>?_) (fun zz κ=>κ _ F rfl FE (Nat.le_refl _))))
   ·revert hI
    refine fun hI0=>hI0 _ fun o5 F' e2 hI hF'=>?_
    clear hI0
    subst e2
    have hx:x∈wY:=by refine rE HJ ?_;simp
    have zf:=zf x hx
    have a3:Fx.length≤4:=by have:=congrArg List.length HJ;rw[List.length_append]at this;have e:wY.length=4:=rfl;lia
    refine aM _ (dz (I:=fun ξ σ2=>ξ=[some (.ref a),some (.ref pa),some (.ref sa),some (.str m),o4,some (.str x)]∧∃F2,TI σ a pa sa ((pre++[m]).foldl jo []) F2 σ2∧F2.length≤F'.length+1) (fun Ψ hΨ=>?_) fun ξ σ2 FE=>?_)
    ·refine ga p hI.seed rfl (aC (ac ad (ae ad)) aU) (by decide) (by decide) fun y σ3 hy hp=>?_
     have hI:=hI.pick hp
     simp only[List.mem_cons,List.not_mem_nil,or_false]at hy
     rcases hy with rfl|rfl
     ·refine⟨jx rfl,?_⟩
      refine rE (ko _ _ _) ?_
      exact hΨ _ _ (gp rfl F' hI (Nat.le_succ _))
     ·refine⟨jx rfl,?_⟩
      refine rE (ko _ _ _) ?_
      refine Ch (BL ?_)
      refine aN (?_:bj _ _ _ _ _ _)
      refine(cf (by decide+kernel) (.ref 347) p.EQ p.keep (ga p hI.seed rfl (aC (ac ah (ae ah)) aU) (by decide) (by decide) fun w1 Dt zz HF=>ga p (hI.pick HF).seed rfl (aC (ac ad (ac ad (ae ad))) aU) (by decide) (by decide) fun w2 Dm zz Ir=>ww (n:=n+1) p fun f fd hne hf hfd=>?_))
      have HM:=((hI.pick HF).pick Ir|>.new (x:= .ns [(ofString "way",w1),(ofString "level",w2)]) hfd).new (x:= .ins 347 fd) ((af.CO _ _ hne).trans hf)
      refine(gz (aa rfl) (aA (aA (aa rfl) ah (bz (by lia))) (aa rfl) (bz (by refine rE (Str.length_append _ _) ?_;lia))) HM.fs (by lia)) _ ?_
      exact hΨ _ _ (gp rfl _ (HM.fix _ f) (ix _ _ _))
    ·revert FE;refine fun h0=>ck h0 fun q0 F2 FE l2=>?_;clear h0;subst q0
     exact(hn _ _ fun zz κ=>κ _ F2 rfl FE (by refine rE List.length_append ?_;simp only[List.length_cons,List.length_nil];lia)).1
   ·revert hI
    refine fun hI0=>hI0 _ fun o5 F' e2 hI hF'=>?_
    clear hI0
    subst e2
    exact(hn _ _ fun zz κ=>κ _ _ _ F' rfl hI (by refine rE List.length_append ?_;have e:wY.length=4:=rfl;simp only[List.length_cons,List.length_nil];lia)).1
 ·revert hI
  refine fun hI0=>hI0 _ fun o3 o4 o5 F e4 hI hF=>?_
  clear hI0
  subst e4
  refine bw (aV (aC (ac (aa rfl) (ae (aa rfl))) cr)) (bH (fun c=>c=pa∨c=sa) (.tup [.dS (av aq),.dS F]) ?_ (.tup (.cons (.dS (.inl rfl) hI.fp (ry.refl _)) (.cons (.dS (.inr rfl) hI.fs (ry.refl _)) .nil))) (h F _ hI.nd hI.rf (by have e:iL.length=2:=rfl;lia) ?_ ?_))
  ·rintro c (rfl|rfl)
   ·exact rE hI.fp (fun q=>by exact sN q)
   ·exact rE hI.fs (fun q=>by exact sN q)
  ·refine bB (hI.seed) fun u v e1 e2 e3=>?_
   exact(bH u v e1 e2 ((af.CQ (S:=fun c=>c=pa∨c=sa) fun q=>q.elim hI.ap hI.E5).trans e3))
  ·exact fun c x n e=>(af.CQ (S:=fun c=>c=pa∨c=sa) fun q=>q.elim (au e hI.np) (au e hI.ns)).trans (hI.ext c x n e)
end
section
abbrev cU:=List (List Str×List Str)
noncomputable def bn(T:cU)(k:List Str):Option (List Str):=(T.find? fun x=>decide (x.1=k)).map (·.2)
noncomputable def qr(T:cU)(k:List Str)(v:List Str):cU:=if T.any (fun x=>decide (x.1=k))then T.map (fun x=>if x.1=k then(x.1,v)else x)else T++[(k,v)]
theorem ma{α β:Type}[DecidableEq α](T:List (α×β))(k k':α)(v:β):
 ((if T.any (fun x=>decide (x.1=k))then T.map (fun x=>if x.1=k then(x.1,v)else x)else T++[(k,v)]).find? fun x=>decide (x.1=k')).map (·.2)=if k'=k then some v else(T.find? fun x=>decide (x.1=k')).map (·.2):=by
 induction T with
 |nil=>by_cases h:k'=k<;>simp[h,eq_comm]
 |cons y T ih=>
  by_cases hy:y.1=k
  ·refine rE (if_pos (show((y::T).any fun x=>decide (x.1=k))=true by simp[hy])) ?_
   refine rE List.map_cons (rE (if_pos hy) (rE (List.find?_cons) (rE (List.find?_cons) ?_)))
   by_cases h:k'=k
   ·simp[hy,h]
   ·have:¬y.1=k':=fun q=>h (q.symm.trans hy)
    simp only[this,decide_false,if_neg h]
    have e:∀(T:List (α×β)),((T.map fun x=>if x.1=k then(x.1,v)else x).find? fun x=>decide (x.1=k')).map (·.2)=(T.find? fun x=>decide (x.1=k')).map (·.2):=by
     intro T
     induction T with
     |nil=>rfl
     |cons z T ih=>
      refine rE List.map_cons (rE (List.find?_cons) (rE (List.find?_cons) ?_))
      by_cases hz:z.1=k
      ·refine rE (if_pos hz) ?_
       have:¬z.1=k':=fun q=>h (q.symm.trans hz)
       simp only[this,decide_false];exact ih
      ·refine rE (if_neg hz) ?_
       by_cases hz':z.1=k'
       ·simp[hz']
       ·simp only[hz',decide_false];exact ih
    exact e T
  ·have hc:((y::T).any fun x=>decide (x.1=k))=T.any fun x=>decide (x.1=k):=by simp[hy]
   refine rE hc ?_
   by_cases ha:(T.any fun x=>decide (x.1=k))=true
   ·rw[if_pos ha]at ih⊢
    refine rE List.map_cons (rE (if_neg hy) (rE (List.find?_cons) (rE (List.find?_cons) ?_)))
    by_cases hz:y.1=k'
    ·have:¬k'=k:=fun q=>hy (hz.trans q)
     simp[hz,this]
    ·simp only[hz,decide_false];exact ih
   ·rw[if_neg ha]at ih⊢
    refine rE List.cons_append (rE (List.find?_cons) (rE (List.find?_cons) ?_))
    by_cases hz:y.1=k'
    ·have:¬k'=k:=fun q=>hy (hz.trans q)
     simp[hz,this]
    ·simp only[hz,decide_false];exact ih
theorem j5(T:cU)(k k' v:List Str):bn (qr T k v) k'=if k'=k then some v else bn T k':=ma T k k' v
theorem iA(P:List (Str×List ag))(k k':Str)(v:List ag):aI (hO P k v) k'=if k'=k then some v else aI P k':=ma P k k' v
theorem lx(T:cU)(k v:List Str):(qr T k v).length≤T.length+1:=by delta qr;split<;>simp
theorem uK{T:cU}{k v:List Str}{Q:List Str→Prop}(h:∀e∈T,Q e.1)(hk:Q k):∀e∈qr T k v,Q e.1:=by
 intro e he
 delta qr at he
 split at he
 ·refine aF (List.mem_map.mp he) fun y hy q2=>?_;subst q2
  split
  ·exact h y hy
  ·exact h y hy
 ·rcases List.mem_append.mp he with q|q
  ·exact h e q
  ·exact rE (List.mem_singleton.mp q) hk
noncomputable def dj(k:Fin 4)(f:Str)(T:cU)(told:Str):cU:=qr T [aE k,told] ((bn T [aE k,told]).getD []++[f])
structure ui(s:SS)(T:cU):Prop where
 tk:∀k x,x∈s.ks k↔(bn T [aE k,x]).isSome=true
 tf:∀k x,s.fl k x=(bn T [aE k,x]).getD []
 tc:∀e∈T,∃k x,e.1=[aE k,x]
section
variable{s:SS}{T:cU}{k:Fin 4}{f:Str}
theorem iK(h:f∉s.fl k x)(k':Fin 4)(x':Str):(s.add k x f).fl k' x'=if k'=k∧x'=x then s.fl k x++[f]else s.fl k' x':=by
 have e:(open Classical in if x∈s.ks k then s else s.key k x).fl=s.fl:=by split<;>rfl
 delta SS.add
 dsimp only
 generalize (open Classical in if x∈s.ks k then s else s.key k x)=s1 at*
 refine rE (if_neg (by exact rE e h)) ?_
 refine(?_:bG s1.fl k _ k' x'=_)
 by_cases w:k'=k
 ·subst w;refine rE (aK _ _ _) ?_
  by_cases w:x'=x
  ·subst w;exact rE (aK _ _ _) (rE e (rE (if_pos ⟨rfl,rfl⟩) rfl))
  ·exact rE (aj _ _ w) (rE e (rE (if_neg fun q=>w q.2) rfl))
 ·exact rE (aj _ _ w) (rE e (rE (if_neg fun q=>w q.1) rfl))
theorem ku(k':Fin 4)(x':Str):x'∈(s.add k x f).ks k'↔(k'=k∧x'=x)∨x'∈s.ks k':=by
 have e:(s.add k x f).ks k'=(open Classical in if x∈s.ks k then s else s.key k x).ks k':=by
  delta SS.add;dsimp only
  generalize (open Classical in if x∈s.ks k then s else s.key k x)=s1
  split<;>rfl
 refine rE e ?_
 by_cases h:x∈s.ks k
 ·refine rE (if_pos h) ?_
  exact⟨.inr,fun q=>q.elim (fun q=>by exact rE q.1 (rE q.2 h)) fun q=>q⟩
 ·refine rE (if_neg h) ?_
  refine(?_:x'∈bG s.ks k _ k'↔_)
  by_cases w:k'=k
  ·subst w;refine rE (aK _ _ _) (rE (propext List.mem_append) (rE (propext List.mem_singleton) ?_))
   exact⟨fun q=>q.elim .inr fun q=> .inl ⟨rfl,q⟩,fun q=>q.elim (fun q=> .inr q.2) .inl⟩
  ·refine rE (aj _ _ w) ?_
   exact⟨.inr,fun q=>q.elim (fun q=>absurd q.1 w) fun q=>q⟩
theorem kU{k k':Fin 4}:[aE k',x']=[aE k,x]↔k'=k∧x'=x:=by
 constructor
 ·intro h
  injection h with h1 h2
  injection h2 with h2 _
  exact⟨i9 _ _ h1,h2⟩
 ·rintro⟨rfl,rfl⟩;rfl
theorem ui.add(h:ui s T)(hf:f∉s.fl k x):ui (s.add k x f) (dj k f T x):=by
 refine⟨fun k' x'=>?_,fun k' x'=>?_,uK (Q:=fun key=>∃k x,key=[aE k,x]) h.tc (mD k x rfl)⟩
 ·rw[ku,dj,j5,h.tk]
  by_cases w:k'=k∧x'=x
  ·refine rE (if_pos (kU.mpr w)) ?_;simp[w]
  ·refine rE (if_neg fun q=>w (kU.mp q)) ?_;simp[w]
 ·rw[iK hf,dj,j5]
  by_cases w:k'=k∧x'=x
  ·exact rE (if_pos (kU.mpr w)) (rE (if_pos w) (rE (h.tf _ _) rfl))
  ·exact rE (if_neg fun q=>w (kU.mp q)) (rE (if_neg w) (rE (h.tf _ _) rfl))
abbrev gV:=Str×Str×Str
noncomputable def ay(i:gV):Str:=i.1++ofString "." ++i.2.2
noncomputable def dP:List gV:=iL.flatMap fun m=>a8.map fun x=>(m,x)
noncomputable def il(k:Fin 4)(x:Str)(i:gV):Option Str:=if aO i.2.1=k∧(x=ay i∨x=i.2.2)then some (ay i)else none
noncomputable def mw(l:List gV)(k:Fin 4)(x:Str):List Str:=l.filterMap (il k x)
noncomputable def nY(l:List gV)(q:Str):List ag:=l.filterMap fun i=>if i.1=q then some (i.2.1,i.2.2,ay i)else none
theorem lZ:(dP.map ay).Nodup:=by decide+kernel
theorem iC:∀i∈dP,aE (aO i.2.1)=i.2.1∧ay i≠i.2.2∧i.1.length≤10∧i.2.2.length≤10∧(ay i).length≤20:=by decide+kernel
structure cD(l:List gV)(s:SS)(T:cU)(LL:List (Str×List ag)):Prop where
 k:ui s T
 sub:∀k x,(s.fl k x).Sublist (mw l k x)
 lk:∀q,q∈s.lq↔(aI LL q).isSome=true
 lf:∀q,s.lf q=(aI LL q).getD []
 Ej:∀q,(s.lf q).Sublist (nY l q)
 zk:∀k,(s.ks k).length≤2*l.length
 zl:s.lq.length≤l.length
 zT:T.length≤2*l.length
 zL:LL.length≤l.length
 kn:∀k x,x∈s.ks k→∃i∈l,aO i.2.1=k∧(x=ay i∨x=i.2.2)
section
variable{l:List gV}{s:SS}{T:cU}{i:gV}
theorem cD.skip(h:cD l s T LL):cD (l++[i]) s T LL:=by
 have e:(l++[i]).length=l.length+1:=by exact rE List.length_append rfl
 refine⟨h.k,fun k x=>?_,h.lk,h.lf,fun q=>?_,fun k=>Nat.le_trans (h.zk k) (by lia),Nat.le_trans h.zl (by lia),Nat.le_trans h.zT (by lia),Nat.le_trans h.zL (by lia),fun k x hx=>let⟨j,hj,e⟩:=h.kn k x hx;⟨j,List.mem_append_left _ hj,e⟩⟩
 ·delta mw;exact rE List.filterMap_append ((h.sub k x).trans (List.sublist_append_left _ _))
 ·delta nY;exact rE List.filterMap_append ((h.Ej q).trans (List.sublist_append_left _ _))
theorem cD.fresh(h:cD l s T LL){post:List gV}(hl:dP=l++i::post)(k:Fin 4)(x:Str):ay i∉s.fl k x:=by
 intro q
 have q:=(h.sub k x).subset q
 refine aF (List.mem_filterMap.mp q) fun j hj e=>?_
 have e:ay j=ay i:=by
  unfold il at e
  split at e
  ·exact Option.some.inj e
  ·exact nS e
 have nd:=lZ
 rw[hl,List.map_append,List.map_cons,List.nodup_append]at nd
 exact nd.2.2 (ay j) (List.mem_map_of_mem hj) (ay i) (.head _) e
noncomputable def Ag(i:gV)(b:Bool)(T:cU):cU:=if b=true then dj (aO i.2.1) (ay i) (dj (aO i.2.1) (ay i) T (ay i)) i.2.2 else dj (aO i.2.1) (ay i) T (ay i)
noncomputable def Bj(i:gV)(b:Bool)(LL:List (Str×List ag)):List (Str×List ag):=if b=true then hO LL i.1 ((aI LL i.1).getD []++[(i.2.1,i.2.2,ay i)])else LL
theorem BF(s:SS)(q:Str)(t:ag):(s.lot q t).ks=s.ks∧(s.lot q t).fl=s.fl:=by
 delta SS.lot
 generalize hs:(open Classical in if q∈s.lq then s else s.DX q)=s1
 have:s1.ks=s.ks∧s1.fl=s.fl:=by refine rF hs ?_;split<;>exact⟨rfl,rfl⟩
 exact this
theorem BE(s:SS)(q:Str)(t:ag):(∀q',q'∈(s.lot q t).lq↔q'=q∨q'∈s.lq)∧(∀q',(s.lot q t).lf q'=if q'=q then s.lf q++[t]else s.lf q')∧(s.lot q t).lq.length≤s.lq.length+1:=by
 have e1:(s.lot q t).lq=(open Classical in if q∈s.lq then s else s.DX q).lq:=rfl
 have e2:(open Classical in if q∈s.lq then s else s.DX q).lf=s.lf:=by split<;>rfl
 refine(dx (fun q'=>?_) (fun q'=>?_) ?_)
 ·refine rE e1 ?_
  by_cases h:q∈s.lq
  ·exact rE (if_pos h) ⟨.inr,fun z=>z.elim (fun z=>by exact rE z h) fun z=>z⟩
  ·refine rE (if_neg h) ?_
   refine(?_:q'∈s.lq++[q]↔_)
   exact rE (propext List.mem_append) (rE (propext List.mem_singleton) Or.comm)
 ·refine(?_:bG _ q _ q'=_)
  by_cases w:q'=q
  ·exact rE w (rE (aK _ _ _) (rE (if_pos rfl) (rE e2 rfl)))
  ·exact rE (aj _ _ w) (rE (if_neg w) (rE e2 rfl))
 ·refine rE e1 ?_
  split
  ·exact Nat.le_succ _
  ·refine(?_:(s.lq++[q]).length≤_);refine rE List.length_append ?_;exact Nat.le_refl _
theorem q8(l:List gV)(i:gV)(k:Fin 4)(x:Str):mw (l++[i]) k x=mw l k x++(il k x i).toList:=by
 delta mw
 refine rE List.filterMap_append (rE List.filterMap_cons ?_)
 cases il k x i<;>rfl
theorem cD.step(h:cD l s T LL){post:List gV}(hl:dP=l++i::post)(b:Bool):cD (l++[i]) (s.say (aO i.2.1) i.2.2 (ay i) i.1 b) (Ag i b T) (Bj i b LL):=by
 revert h hl;revert l s T LL i post b;apply z7
 generalize (e7 _ _).1.1.1=LL,(e7 _ _).1.1.2=l,(e7 _ _).1.2.1=s,(e7 _ _).1.2.2=T,(e7 _ _).2.1.1=i,(e7 _ _).2.1.2=post,(e7 _ _).2.2=b;intro h hl
 obtain⟨c1,c2,-⟩:=iC i (by refine rE hl ?_;simp)
 have el:(l++[i]).length=l.length+1:=by exact rE List.length_append rfl
 have f1:=h.fresh hl (aO i.2.1) (ay i)
 have k1:=h.k.add f1
 have FV:∀k x,((s.add (aO i.2.1) (ay i) (ay i)).fl k x).Sublist (mw (l++[i]) k x):=fun k x=>by
  refine rE (iK f1 _ _) (rE (q8 _ _ _ _) ?_)
  split
  ·rename_i w
   refine xA w fun q0 q1=>?_;clear w;subst q0 q1
   refine rE (show il (aO i.2.1) (ay i) i=some (ay i)from if_pos ⟨rfl,.inl rfl⟩) ?_
   exact(h.sub _ _).append (List.Sublist.refl _)
  ·exact(h.sub k x).trans (List.sublist_append_left _ _)
 have hi:i∈l++[i]:=List.mem_append_right _ (.head _)
 have HD:∀k x,x∈(s.add (aO i.2.1) (ay i) (ay i)).ks k→∃j∈l++[i],aO j.2.1=k∧(x=ay j∨x=j.2.2):=fun k x hx=>by
  rcases(ku k x).mp hx with⟨rfl,rfl⟩|hx
  ·exact(bP i hi rfl (.inl rfl))
  ·refine aF (h.kn k x hx) fun j hj e=>?_
   exact(aP j (List.mem_append_left _ hj) e)
 have l1:=SS.Ds s (aO i.2.1) (ay i) (ay i)
 have IU:(dj (aO i.2.1) (ay i) T (ay i)).length≤T.length+1:=lx _ _ _
 cases b with
 |false=>
  refine rE (show s.say (aO i.2.1) i.2.2 (ay i) i.1 false=s.add (aO i.2.1) (ay i) (ay i)from rfl) ?_
  refine⟨k1,FV,fun q=>?_,fun q=>?_,fun q=>?_,fun k=>?_,?_,?_,?_,HD⟩
  ·exact rE l1.1 (h.lk q)
  ·exact rE l1.2 (h.lf q)
  ·refine rE l1.2 ?_;delta nY;exact rE List.filterMap_append ((h.Ej q).trans (List.sublist_append_left _ _))
  ·exact Nat.le_trans (SS.D1 ..) (by have:=h.zk k;lia)
  ·refine rE l1.1 ?_;have:=h.zl;lia
  ·refine(?_:(dj _ _ _ _).length≤_);have:=h.zT;lia
  ·refine(?_:LL.length≤_);have:=h.zL;lia
 |true=>
  have e1:(s.add (aO i.2.1) (ay i) (ay i)).fl (aO i.2.1) i.2.2=s.fl (aO i.2.1) i.2.2:=by exact rE (iK f1 _ _) (rE (if_neg fun q=>c2 q.2.symm) rfl)
  have f2:ay i∉(s.add (aO i.2.1) (ay i) (ay i)).fl (aO i.2.1) i.2.2:=by exact rE e1 (h.fresh hl _ _)
  have k2:=k1.add f2
  have GE:∀k x,(((s.add (aO i.2.1) (ay i) (ay i)).add (aO i.2.1) i.2.2 (ay i)).fl k x).Sublist (mw (l++[i]) k x):=fun k x=>by
   refine rE (iK f2 _ _) ?_
   split
   ·rename_i w
    refine xA w fun q0 q1=>?_;clear w;subst q0 q1
    refine rE e1 (rE (q8 _ _ _ _) (rE (show il (aO i.2.1) i.2.2 i=some (ay i)from if_pos ⟨rfl,.inr rfl⟩) ?_))
    exact(h.sub _ _).append (List.Sublist.refl _)
   ·exact FV k x
  have Id:∀k x,x∈((s.add (aO i.2.1) (ay i) (ay i)).add (aO i.2.1) i.2.2 (ay i)).ks k→∃j∈l++[i],aO j.2.1=k∧(x=ay j∨x=j.2.2):=fun k x hx=>by
   rcases(ku k x).mp hx with⟨rfl,rfl⟩|hx
   ·exact(bP i hi rfl (.inr rfl))
   ·exact HD k x hx
  have l2:=SS.Ds (s.add (aO i.2.1) (ay i) (ay i)) (aO i.2.1) i.2.2 (ay i)
  have HZ:∀k,(((s.add (aO i.2.1) (ay i) (ay i)).add (aO i.2.1) i.2.2 (ay i)).ks k).length≤(s.ks k).length+2:=fun k=>Nat.le_trans (SS.D1 ..) (Nat.succ_le_succ (SS.D1 ..))
  rw[l1.1,l1.2]at l2
  have Ek:s.say (aO i.2.1) i.2.2 (ay i) i.1 true=((s.add (aO i.2.1) (ay i) (ay i)).add (aO i.2.1) i.2.2 (ay i)).lot i.1 (aE (aO i.2.1),i.2.2,ay i):=rfl
  have IT:(dj (aO i.2.1) (ay i) (dj (aO i.2.1) (ay i) T (ay i)) i.2.2).length≤(dj (aO i.2.1) (ay i) T (ay i)).length+1:=lx _ _ _
  refine rE Ek ?_
  generalize (s.add (aO i.2.1) (ay i) (ay i)).add (aO i.2.1) i.2.2 (ay i)=s2 at*
  refine xA (BF s2 i.1 (aE (aO i.2.1),i.2.2,ay i)) fun m1 m2=>?_
  refine dF (BE s2 i.1 (aE (aO i.2.1),i.2.2,ay i)) fun m3 m4 m5=>?_
  rw[c1]at m1 m2 m3 m4 m5⊢
  refine⟨⟨fun k x=>by refine rE m1 ?_;exact k2.tk k x,fun k x=>by refine rE m2 ?_;exact k2.tf k x,k2.tc⟩,fun k x=>by refine rE m2 ?_;exact GE k x,fun q=>?_,fun q=>?_,fun q=>?_,fun k=>?_,?_,?_,?_,fun k x hx=>Id k x (by rw[m1]at hx;exact hx)⟩
  ·refine rE (propext (m3 _)) (rE l2.1 (rE (propext (h.lk _)) ?_))
   refine(?_:_↔(aI (hO LL _ _) q).isSome=true)
   refine rE (iA _ _ _ _) ?_
   by_cases w:q=i.1<;>simp[w]
  ·refine rE (m4 _) (rE l2.2 (rE (h.lf _) (rE (h.lf _) ?_)))
   refine(?_:_=(aI (hO LL _ _) q).getD [])
   refine rE (iA _ _ _ _) ?_
   by_cases w:q=i.1<;>simp[w]
  ·refine rE (m4 _) (rE l2.2 ?_)
   delta nY
   refine rE List.filterMap_append ?_
   split
   ·rename_i w
    subst w
    refine(h.Ej i.1).append ?_
    simp
   ·exact(h.Ej q).trans (List.sublist_append_left _ _)
  ·exact rE m1 (rE el (Nat.le_trans (HZ k) (by have:=h.zk k;lia)))
  ·refine rE el ?_;refine Nat.le_trans m5 ?_;exact rE l2.1 (Nat.succ_le_succ h.zl)
  ·refine rE el ?_;refine(?_:(dj _ _ (dj _ _ _ _) _).length≤_);have:=h.zT;lia
  ·refine rE el ?_;refine(?_:(hO LL _ _).length≤_);exact Nat.le_trans (qs _ _ _) (Nat.succ_le_succ h.zL)
end
end
end
variable{post:List gV}
section
variable{X:af→Prop}{R:af}{t:Addr}{s s':SS}{T:cU}
theorem yl{K V:Type}[DecidableEq K](g:V→D)(l:List (K×V))(k:K)(v:V):put (l.map fun x=>(x.1,g x.2)) k (g v)=(if l.any (fun x=>decide (x.1=k))then l.map (fun x=>if x.1=k then(x.1,v)else x)else l++[(k,v)]).map fun x=>(x.1,g x.2):=by
 delta put
 have e:(l.map fun x=>(x.1,g x.2)).any (fun kv=>decide (kv.1=k))=l.any fun x=>decide (x.1=k):=by exact rE List.any_map rfl
 refine rE e ?_
 split
 ·refine rE List.map_map (rE List.map_map ?_)
  apply List.map_congr_left
  intro x _
  refine(?_:(if x.1=k then(x.1,_)else(x.1,_))=((if x.1=k then(x.1,v)else x).1,g (if x.1=k then(x.1,v)else x).2))
  split<;>rfl
 ·exact rE List.map_append rfl
theorem wK{K V:Type}[DecidableEq K](g:V→D)(l:List (K×V))(k:K):look (l.map fun x=>(x.1,g x.2)) k=((l.find? fun x=>decide (x.1=k)).map (·.2)).map g:=by
 delta look
 refine rE (List.find?_map) (rE (Option.map_map _ _ _) (rE (Option.map_map _ _ _) ?_))
 rfl
noncomputable abbrev gA(T:cU):List (List Str×D):=T.map fun x=>(x.1,D.lst (x.2.map .str))
theorem j4(T:cU)(k:List Str):look (gA T) k=(bn T k).map fun l=>D.lst (l.map .str):=wK (fun l=>D.lst (l.map .str)) T k
theorem wh(T:cU)(k v:List Str):put (gA T) k (.lst (v.map .str))=gA (qr T k v):=yl (fun l=>D.lst (l.map .str)) T k v
structure QJ(CP:af)(a ta lo:Addr)(ρ:Rl→Option Addr)(s:SS)(T:cU)(LL:List (Str×List ag))(R σ:af):Prop where
 sl:SL R ρ s σ
 seed:gQ R a
 ext:dE [a] CP R
 d1:a≠ta
 d2:a≠lo
 d3:ta≠lo
 nt:CP ta=none
 nl:CP lo=none
 ft:R ta=some (.dT (gA T))
 fl:R lo=some (.dS (av LL))
theorem SL.rest{x:AO}{b:Addr}(h:SL R ρ s σ)(e:R b=some x):σ b=some x:=h.lay.ext b x (fun z=>by exact nM z) e
theorem QJ.pick(h:QJ CP a ta lo ρ s T LL R σ)(hp:ky σ a σ'):∃R',QJ CP a ta lo ρ s T LL R' σ':=by
 refine bB (hp.1) fun u v h1 h2 h3=>?_
 refine bB (h.seed) fun u0 v0 zz zz h0=>?_
 have e:σ'=σ.put a (.lst [.int u,.int v]):=funext fun b=>by
  by_cases w:b=a
  ·exact rE w (rE h3 (rE (af.CN _ _ _) rfl))
  ·exact rE (hp.2 b w) (rE (af.CO _ _ w) rfl)
 refine rE e ?_
 exact(iE (R.put a (.lst [.int u,.int v])) ⟨h.sl.base h0,(bH u v h1 h2 (af.CN _ _ _)),fun c x n e=>(af.CO _ _ fun q=>n (by exact rE q (.head _))).trans (h.ext c x n e),h.d1,h.d2,h.d3,h.nt,h.nl,(af.CO _ _ h.d1.symm).trans h.ft,(af.CO _ _ h.d2.symm).trans h.fl⟩)
theorem QJ.tab(h:QJ CP a ta lo ρ s T LL R σ)(k v:List Str):QJ CP a ta lo ρ s (qr T k v) LL (R.put ta (.dT (put (gA T) k (.lst (v.map .str))))) (σ.put ta (.dT (put (gA T) k (.lst (v.map .str))))):=
 ⟨h.sl.base h.ft,h.seed.put h.d1,fun c x n e=>(af.CO _ _ (au e h.nt)).trans (h.ext c x n e),h.d1,h.d2,h.d3,h.nt,h.nl,by exact rE (af.CN _ _ _) (rE (wh _ _ _) rfl),(af.CO _ _ h.d3.symm).trans h.fl⟩
theorem QJ.lot(h:QJ CP a ta lo ρ s T LL R σ)(k:Str)(v:List ag):QJ CP a ta lo ρ s T (hO LL k v) (R.put lo (.dS (put (av LL) k (.lst (v.map bb))))) (σ.put lo (.dS (put (av LL) k (.lst (v.map bb))))):=
 ⟨h.sl.base h.fl,h.seed.put h.d2,fun c x n e=>(af.CO _ _ (au e h.nl)).trans (h.ext c x n e),h.d1,h.d2,h.d3,h.nt,h.nl,(af.CO _ _ h.d3).trans h.ft,by exact rE (af.CN _ _ _) (rE (i5 _ _ _) rfl)⟩
theorem QJ.scope(h:QJ CP a ta lo ρ s T LL R σ)(hs:SL R ρ' s' σ'):QJ CP a ta lo ρ' s' T LL R σ':={h with sl:=hs}
theorem QJ.Fi(h:QJ CP a ta lo ρ s T LL R σ):gQ σ a:=by
 refine bB (h.seed) fun u v h1 h2 h3=>?_
 exact(bH u v h1 h2 (h.sl.rest h3))
theorem qb{D6 EL:List Str}{m:Str}{x:Str×Str}(h1:iL=D6++m::EL)(h2:a8=DN++x::Er):
 dP=(D6.flatMap (fun m=>a8.map fun x=>(m,x))++DN.map fun x=>(m,x))++(m,x)::((Er.map fun x=>(m,x))++EL.flatMap fun m=>a8.map fun x=>(m,x)):=by
 have h3:a8.map (fun x=>(m,x))=(DN.map fun x=>(m,x))++(m,x)::Er.map fun x=>(m,x):=by exact rE h2 (rE List.map_append rfl)
 delta dP
 refine rE h1 (rE List.flatMap_append (rE List.flatMap_cons (rE h3 ?_)))
 simp only[List.append_assoc,List.cons_append]
end
section
variable{X:af→Prop}{R:af}{t:Addr}{s s':SS}{T:cU}
theorem ud{kvs:List (List Str×D)}(h:σ t=some (.dT kvs)):gv σ (.ref t)=some kvs:=by delta gv;simp only[h]
theorem yq{kvs:List (List Str×D)}(h:σ t=some (.dT kvs)):wz σ (.ref t)=some (t,kvs):=by delta wz;simp only[h]
theorem xO{wi:WE}{ks:List D}{k:List Str}{kvs:List (List Str×D)}(h1:Ev c wa ξ σ (.ref a) σ1)(h2:Ev c wi ξ σ1 (.tup ks) σ2)(hk:eQ ks=some k)(ha:σ2 a=some (.dT kvs))(hz:kvs.length≤1048576):Tg c (xP wa wi) d ξ σ ξ (σ2.put a (.dT (put kvs k d))):=
 fun zz q=>h1 _ (h2 _ (cP a kvs k (yq ha) hk hz q))
theorem nB(T:cU)(k:List Str):(look (gA T) k).getD (.lst [])= .lst (((bn T k).getD []).map .str):=by refine rE (j4 _ _) ?_;cases bn T k<;>rfl
noncomputable def sQ(i:gV)(b:Bool):List Str:=[ay i]++if b=true then[i.2.2]else[]
theorem um(i:gV)(b:Bool)(T:cU):(sQ i b).foldl (dj (aO i.2.1) (ay i)) T=Ag i b T:=by cases b<;>rfl
theorem mW(k:Fin 4)(f:Str):∀(l:List Str) (T:cU),(l.foldl (dj k f) T).length≤T.length+l.length
 |[],_=>Nat.le_refl _
 |x::l,T=>Nat.le_trans (mW k f l _) (by have:(dj k f T x).length≤T.length+1:=lx _ _ _;refine rE List.length_cons ?_;lia)
theorem mX(k:Fin 4)(f:Str)(key:List Str):∀(l:List Str) (T:cU),((bn (l.foldl (dj k f) T) key).getD []).length≤((bn T key).getD []).length+l.length
 |[],_=>Nat.le_refl _
 |x::l,T=>Nat.le_trans (mX k f key l _) (by
   have:((bn (dj k f T x) key).getD []).length≤((bn T key).getD []).length+1:=by
    rw[dj,j5]
    split
    ·rename_i w;refine rE w ?_;refine(?_:(_++[f]).length≤_);exact rE List.length_append (Nat.le_refl _)
    ·exact Nat.le_succ _
   refine rE List.length_cons ?_;lia)
theorem cX:∀k:Fin 4,aO (aE k)=k:=by decide+kernel
theorem pF{g g':Str→D}:∀{l:List Str},(∀x∈l,Fz σ S (g x) (g' x))→ry σ S (l.map fun x=>(x,g x)) (l.map fun x=>(x,g' x))
 |[],_=> .nil
 |x::l,h=> .cons (h x (.head _)) (pF fun y hy=>h y (.tail _ hy))
theorem SL.frozen{sc:Addr}(h:SL R ρ s σ)(hsc:ρ .sc=some sc)(hS:∀r b,ρ r=some b→S b):Fz σ S (.ref sc) (jM (s.lq.map fun q=>(q,s.lf q)) fun k=>(s.ks k).map fun x=>(x,s.fl k x)):=by
 refine aF (h.got (r:= .D2) trivial) fun da hda Gg=>?_
 refine aF (h.got (r:= .lots) trivial) fun lo hlo Hn=>?_
 refine aF (h.got (r:= .tabs) trivial) fun tb htb Hl=>?_
 have names:∀k,Fz σ S (dc ρ (.nm k)) (ic (aE k) ((s.ks k).map fun x=>(x,s.fl k x))):=fun k=>by
  refine aF (h.got (r:= .nm k) trivial) fun a ha ea=>?_
  refine aF (h.got (r:= .DO k) trivial) fun d hd ed=>?_
  refine aF (h.got (r:= .nt k) trivial) fun t ht et=>?_
  refine rE (dK ha) ?_
  refine .ins (hS _ _ ha) (hS _ _ hd) (ea.trans (by refine(?_:some (AO.ins 86 (Option.getD _ _))=_);exact rE hd rfl)) ed (.cons (.same _) (.cons ?_ .nil))
  refine rE (dK ht) ?_
  refine .dS (hS _ _ ht) et ?_
  refine rE (show kB ((s.ks k).map fun x=>(x,s.fl k x))=(s.ks k).map fun x=>(x,D.lst ((s.fl k x).map .str))from List.map_map) ?_
  exact pF (g':=fun x=> .lst ((s.fl k x).map .str)) fun x hx=>by
   refine xE (Option.isSome_iff_exists.mp ((h.kl k x).mpr hx)) fun b hb=>?_
   refine rE (dK hb) ?_
   exact .lst (hS _ _ hb) (h.lay.at_ _ _ hb).1 (rk.refl _)
 refine .ins (hS _ _ hsc) (hS _ _ hda) ((h.lay.at_ _ _ hsc).1.trans (by refine(?_:some (AO.ins 128 (Option.getD _ _))=_);exact rE hda rfl)) Gg (.cons ?_ (.cons ?_ .nil))
 ·refine rE (dK hlo) ?_
  refine .dS (hS _ _ hlo) Hn ?_
  refine rE (show av (s.lq.map fun q=>(q,s.lf q))=s.lq.map fun q=>(q,D.lst ((s.lf q).map bb))from List.map_map) ?_
  exact pF (g':=fun x=> .lst ((s.lf x).map bb)) fun x hx=>by
   refine xE (Option.isSome_iff_exists.mp ((h.ll x).mpr hx)) fun b hb=>?_
   refine rE (dK hb) ?_
   exact .lst (hS _ _ hb) (h.lay.at_ _ _ hb).1 (rk.refl _)
 ·refine rE (dK htb) ?_
  exact .dS (hS _ _ htb) Hl (.cons (names 0) (.cons (names 1) (.cons (names 2) (.cons (names 3) .nil))))
theorem rR(p:Pg)(hs:gQ σ a)
 (h:∀s T LL σ',cD dP s T LL→gQ σ' a→dE [a] σ σ'→Φ (.tup [jM (s.lq.map fun q=>(q,s.lf q)) (fun k=>(s.ks k).map fun x=>(x,s.fl k x)),.dT (gA T),.dS (av LL)]) σ'):aL C (n+6) (.ref 386) [.ref a] σ Φ X:=by
 refine aL.freeze ?_
 refine' bJ p (C:=C) (n:=(n+5)) (ow:=[(244,35)]) (es:=[]) (ws:=[]) (sl:=[ofString "seed",ofString "scope",ofString "table",ofString "lots",ofString "module",ofString "kind",ofString "name",ofString "way",ofString "full",ofString "told"]) (names:=[ofString "seed"]) (fun zz=>rfl) (fun zz=>rfl) ?hp ?hb ?hs rfl ?hsc ?hnd rfl rfl (fun zz=> .nil) ?hbind (w:=?w) ?hsx ?hw (hlk:=?hlk)
 case hp=>(conv=>lhs;whnf)
 case hb=>(conv=>lhs;whnf)
 case hs=>(conv=>lhs;whnf)
 case hsc=>rfl
 case hnd=>decide
 case hlk=>decide
 case hbind=>exact fun s vs X hl=>gS (P:=fun vs=>BindsTo s _ ⟨vs,[]⟩ (List.zip _ (vs++_))) hl fun a0=>(BindsTo.of_eq rfl)
 case hsx=>infer_instance
 refine'(?_:_)
 have zm:∀m∈iL,m.length≤10:=by decide+kernel
 have e1:(ofString ".").length=1:=by decide+kernel
 refine aN (?_:zD _ _ _ _ _ _ _ _ _ _)
 refine(nJ (by decide) (by decide+kernel) (.ref 128) p.E8 ⟨p.keep,(yn (n:=n+1) p fun ρ sc σ1 hs1 hsc ta Gw lo hlo=>?_)⟩)
 have FA:σ ta=none:=by
  refine oD (o:=σ ta) (fun q=>?_) fun y q=>?_
  ·rfl
  ·rw[hs1.rest q]at Gw;exact sN Gw
 have El:=af.CZ hlo
 have FD:σ lo=none:=by
  refine oD (o:=σ lo) (fun q=>?_) fun y q=>?_
  ·rfl
  ·rw[hs1.rest q]at El;exact sN El.2
 have d1:a≠ta:=by refine bB hs fun u v zz zz e=>?_;clear hs;exact au e FA
 have d2:a≠lo:=by refine bB hs fun u v zz zz e=>?_;clear hs;exact au e FD
 have hJ:QJ σ a ta lo ρ Aj [] [] ((σ.put ta (.dT [])).put lo (.dS [])) ((σ1.put ta (.dT [])).put lo (.dS [])):=
  ⟨(hs1.ground Gw).ground hlo,(hs.put d1).put d2,(dE.put FA).trans (dE.put ((af.CO _ _ El.1).trans FD)),d1,d2,El.1.symm,FA,FD,(af.CO _ _ El.1.symm).trans (af.CN _ _ _),af.CN _ _ _⟩
 have hG:cD [] Aj [] []:=⟨⟨fun zz zz=>⟨fun q=>(by exact nM q),fun q=>(by exact fT q)⟩,fun zz zz=>rfl,fun zz q=>by exact nM q⟩,fun zz zz=>List.Sublist.refl _,fun zz=>⟨fun q=>(by exact nM q),fun q=>(by exact fT q)⟩,fun zz=>rfl,fun zz=>List.Sublist.refl _,fun zz=>Nat.le_refl _,Nat.le_refl _,Nat.le_refl _,Nat.le_refl _,fun zz zz q=>by exact nM q⟩
 refine aN (c9 (items:=iL.map D.str) (aC (ac ah (ae ah)) aU) aY rfl (by decide) (fy D.str (fun pre ξ σ1=>∀G:Prop,(∀o4 o5 o6 o7 o8 o9 ρ s T LL R,ξ=[some (.ref a),some (.ref sc),some (.ref ta),some (.ref lo),o4,o5,o6,o7,o8,o9]→ρ .sc=some sc→QJ σ a ta lo ρ s T LL R σ1→cD (pre.flatMap fun m=>a8.map fun x=>(m,x)) s T LL→G)→G) (fun D6 m EL ξ σ1 Ψ HI hI hn hr=>?_) (fun ξ σ1 hI=>?_) (fun zz k=>k _ _ _ _ _ _ ρ Aj [] [] _ rfl hsc hJ hG)))
 ·clear hJ hG hs1 hsc Gw hlo El ρ
  refine hI _ fun o4 o5 o6 o7 o8 o9 ρ s T LL R Ho hsc hJ hG=>?_
  subst Ho
  have hm:m∈iL:=by refine rE HI ?_;simp
  have zm:=zm m hm
  refine aM _ (aN (c9 (items:=a8.map bO) (bI (by decide+kernel) p.Dd p.keep bf fun zz q=>gE (n:=n+4) p q) aY rfl (by decide) (fy bO (fun DN ξ σ1=>∀G:Prop,(∀o5 o6 o7 o8 o9 ρ s T LL R,ξ=[some (.ref a),some (.ref sc),some (.ref ta),some (.ref lo),some (.str m),o5,o6,o7,o8,o9]→ρ .sc=some sc→QJ σ a ta lo ρ s T LL R σ1→cD ((D6.flatMap fun m=>a8.map fun x=>(m,x))++DN.map fun x=>(m,x)) s T LL→G)→G) (fun DN x Er ξ σ1 Ψ heT hI hn hr=>?_) (fun ξ σ1 hI=>?_) (fun zz k=>k _ _ _ _ _ ρ s T LL R rfl hsc hJ (by exact rE List.map_nil (rE (List.append_nil _) hG))))))
  ·clear hJ hG hsc ρ
   refine hI _ fun o5 o6 o7 o8 o9 ρ s T LL R b9 hsc hJ hG=>?_
   subst b9
   have hi:=qb HI heT
   refine dF (iC (m,x) (by refine rE hi ?_;simp)) fun c1 c2 CU=>dF CU fun c3 c4 c5=>?_;clear CU
   obtain⟨kd,nm⟩:=x
   obtain⟨k,rfl⟩:∃k,aE k=kd:=(iE _ c1)
   clear c1
   have hk:=cX k
   have hll:((D6.flatMap fun m=>a8.map fun x=>(m,x))++DN.map fun x=>(m,x)).length≤18:=by
    have:=congrArg List.length hi
    rw[List.length_append]at this
    have e:dP.length=18:=rfl
    lia
   have ee:(D6.flatMap (fun m=>a8.map fun x=>(m,x))++(DN++[(aE k,nm)]).map fun x=>(m,x))=(D6.flatMap (fun m=>a8.map fun x=>(m,x))++DN.map fun x=>(m,x))++[(m,aE k,nm)]:=by exact rE List.map_append (rE (List.append_assoc _ _ _) rfl)
   refine un _ (aN (?_:ng _ _ _ _ _ _ _ _))
   refine⟨by decide,ga p hJ.Fi rfl (aC (ac ah (ac ah (ac ah (ae ah)))) aU) (by decide) (by decide) fun w σ2 hw hp=>?_⟩
   refine xE (hJ.pick hp) fun R2 hJ=>?_
   refine(aA (aA (aa rfl) ah (bz (by lia))) (aa rfl) (bz (by refine rE (Str.length_append _ _) ?_;refine(?_:_+nm.length≤_);have:nm.length≤10:=c4;lia))) _ ?_
   obtain⟨y,rfl⟩:∃y,w= .str y:=by
    simp only[List.mem_cons,List.not_mem_nil,or_false]at hw
    rcases hw with rfl|rfl|rfl|rfl<;>exact(iE _ rfl)
   by_cases hy:y=ofString "none"
   ·refine(Bi (bh (ar (al (aa rfl) ah (aW _ _ _)) (decide_eq_true hy)) (aQ sV)) (hn _ _ fun zz k=>k _ _ _ _ _ ρ s T LL R2 rfl hsc hJ ?_).2)
    exact rE ee hG.skip
   ·refine aD (aG (ar (al (aa rfl) ah (aW _ _ _)) (decide_eq_false hy)) aR) ?_
    have cb:∀σ,dq σ .Eq (.str y) (.str (ofString "short"))=some (decide (y=ofString "short")):=fun σ=>aW _ _ _
    generalize decide (y=ofString "short")=b at cb
    refine cy (hJ.sl.view hsc) fun lo' tb hlo' v1 v2 v3=>?_
    have Hk:∀k x,(s.fl k x).length≤18:=fun k x=>Nat.le_trans (hG.sub k x).length_le (Nat.le_trans (List.length_filterMap_le _ _) hll)
    have GT:∀q,(s.lf q).length≤18:=fun q=>Nat.le_trans (hG.Ej q).length_le (Nat.le_trans (List.length_filterMap_le _ _) hll)
    refine aN (?_:ni _ _ _ _ _)
    refine(b8 ⟨by decide,by decide⟩ (.ref sc) rfl _ _ 111 v1 rfl p.meth p.keep ((ac (aa rfl) (ac (aa rfl) (ac (aa rfl) (ac (aa rfl) (ae (aA (aa rfl) ah (ia (cb _)))))))) _ (qw (n:=n+2) p hJ.sl hsc (fun k=>Nat.le_trans (hG.zk k) (by lia)) (fun k x=>Nat.le_trans (Hk k x) (by decide)) (Nat.le_trans hG.zl (by lia)) (fun q=>Nat.le_trans (GT q) (by decide)) (Nat.le_trans c4 (by decide)) (by lia) fun ρ' σ3 hs3 u3=>?_)))
    have ID:QJ σ a ta lo ρ' (s.say k nm (ay (m,aE k,nm)) m b) T LL R2 σ3:=hJ.scope hs3
    have hk':aO (m,aE k,nm).2.1=k:=hk
    have HN:cD ((D6.flatMap fun m=>a8.map fun x=>(m,x))++(DN++[(aE k,nm)]).map fun x=>(m,x)) (s.say k nm (ay (m,aE k,nm)) m b) (Ag (m,aE k,nm) b T) (Bj (m,aE k,nm) b LL):=by
     have q:=hG.step hi b
     rw[hk']at q;exact rE ee q
    have hT0:=um (m,aE k,nm) b T
    rw[hk']at hT0
    have I5:=hG.zT
    have hent:∀x,((bn T [aE k,x]).getD []).length≤18:=fun x=>by exact rF (hG.k.tf _ _) (Hk k x)
    have ED:=u3 _ _ hsc
    have I6:=hG.zL
    have HH:((aI LL m).getD []).length≤18:=by exact rF (hG.lf _) (GT m)
    have htl:(sQ (m,aE k,nm) b).length≤2:=by cases b<;>exact Nat.le_of_ble_eq_true rfl
    clear hG hi ee hs3 u3 hJ v1 v2 v3 hlo' hp hw Hk GT
    generalize s.say k nm (ay (m,aE k,nm)) m b=s3 at*
    refine aN (c9 (items:=(sQ (m,aE k,nm) b).map D.str) (ar (aA (e:= .lst ((if b=true then[nm]else[]).map .str)) (aC (ae (aA (aA (aa rfl) ah (bz (by lia))) (aa rfl) (bz (by refine rE (Str.length_append _ _) ?_;refine(?_:_+nm.length≤_);have:nm.length≤10:=c4;lia)))) aU) ?_ (cu rfl rfl trivial ?_)) ?_) aY rfl (by refine rE (List.length_map _) ?_;lia)
     (fy D.str (fun pre ξ Dt=>∀G:Prop,(∀o9 R,ξ=[some (.ref a),some (.ref sc),some (.ref ta),some (.ref lo),some (.str m),some (.str (aE k)),some (.str nm),some (.str y),some (.str (ay (m,aE k,nm))),o9]→QJ σ a ta lo ρ' s3 (pre.foldl (dj k (ay (m,aE k,nm))) T) LL R Dt→G)→G) (fun pre told post ξ Dt Ψ IC hI hn hr=>?_) (fun ξ Dt hI=>?_) (fun zz k=>k _ _ rfl ID)))
    ·cases b with
     |true=>exact cS (al (aa rfl) ah (cb _)) (aC (ae (aa rfl)) aU)
     |false=>exact cE (al (aa rfl) ah (cb _)) (aC bf aU)
    ·cases b<;>exact Nat.le_of_ble_eq_true rfl
    ·refine(?_:D.lst ([D.str (ay (m,aE k,nm))]++_)=_)
     delta sQ;exact rE List.map_append rfl
    ·refine hI _ fun o9 R4 e2 Ff=>?_
     subst e2
     have hpl:pre.length≤2:=by have:=congrArg List.length IC;rw[List.length_append]at this;lia
     have zt:=mW k (ay (m,aE k,nm)) pre T
     have ft:=Ff.sl.rest Ff.ft
     have hdt:vi Dt .dict (.ref ta):= .inr (by exact rE (ud ft) rfl)
     have hen:=mX k (ay (m,aE k,nm)) [aE k,told] pre T
     have IB:=hent told
     have hz:((bn (pre.foldl (dj k (ay (m,aE k,nm))) T) [aE k,told]).getD []).length+1≤1048576:=by lia
     have hw0:=Ff.tab [aE k,told] ((bn (pre.foldl (dj k (ay (m,aE k,nm))) T) [aE k,told]).getD []++[ay (m,aE k,nm)])
     refine aM _ ((aQ (bd (d:= .lst (((bn (pre.foldl (dj k (ay (m,aE k,nm))) T) [aE k,told]).getD []++[ay (m,aE k,nm)]).map .str)) (ar (aA (dO (d:= .ref ta) (by decide) (aa rfl) hdt (ac (aC (ac (aa rfl) (ae (aa rfl))) cr) (ae (aC bf aU))) fun zz q=>⟨_,_,ud ft,rfl,q⟩) (aC (ae (aa rfl)) aU) (by exact rE (nB _ _) (cu rfl rfl trivial (by exact rE (List.length_map _) hz)))) (by exact rE List.map_append rfl)) (xO (aa rfl) (aC (ac (aa rfl) (ae (aa rfl))) cr) rfl ft (by refine rE (List.length_map _) ?_;lia)))) _ (hn _ _ fun zz k=>k _ _ rfl (by exact rE List.foldl_append hw0)).1)
    ·refine hI _ fun o9 R4 e2 Ff=>?_
     subst e2
     rw[hT0]at Ff
     cases b with
     |false=>exact(aQ (aG (al (aa rfl) ah (cb _)) aR)) _ (hn _ _ fun zz k=>k _ _ _ _ _ ρ' s3 _ _ _ rfl ED Ff HN).1
     |true=>
      have ft:=Ff.sl.rest Ff.fl
      have hdt:vi Dt .dict (.ref lo):= .inl (by exact rE (fB ft) rfl)
      have hz:((aI LL m).getD []).length+1≤1048576:=by lia
      exact(aQ (bh (al (aa rfl) ah (cb _)) (aQ (bd (d:= .lst (((aI LL m).getD []++[(aE k,nm,ay (m,aE k,nm))]).map bb)) (ar (aA (dO (d:= .ref lo) (by decide) (aa rfl) hdt (ac (aa rfl) (ae (aC bf aU))) fun zz q=>⟨_,fB ft,q⟩) (aC (ae (aC (ac (aa rfl) (ac (aa rfl) (ae (aa rfl)))) cr)) aU) (by exact rE (gK _ _) (cu rfl rfl trivial (by exact rE (List.length_map _) hz)))) (by exact rE List.map_append rfl)) (gz (aa rfl) (aa rfl) ft (by refine rE (List.length_map _) ?_;lia)))))) _ (hn _ _ fun zz k=>k _ _ _ _ _ ρ' s3 _ _ _ rfl ED (Ff.lot m _) HN).1
  ·refine hI _ fun o5 o6 o7 o8 o9 ρ s T LL R b9 hsc hJ hG=>?_
   subst b9
   exact(hn _ _ fun zz k=>k _ _ _ _ _ _ ρ s T LL R rfl hsc hJ (by exact rE List.flatMap_append (rE List.flatMap_cons (rE List.flatMap_nil (rE (List.append_nil _) hG))))).1
 ·refine hI _ fun o4 o5 o6 o7 o8 o9 ρ s T LL R Ho hsc hJ hG=>?_
  subst Ho
  have out:∀c x,σ c=some x→¬((∃r,ρ r=some c)∨c=ta∨c=lo):=fun c x e q=>by
   rcases q with⟨r,q⟩|q|q
   ·by_cases w:c=a
    ·refine bB (hJ.seed) fun u v zz zz e3=>?_
     rw[w]at q
     have:=(hJ.sl.lay.at_ r a q).2
     rw[e3]at this;exact sN this
    ·have:=(hJ.sl.lay.at_ r c q).2
     rw[hJ.ext c x (fun z=>w (List.mem_singleton.mp z)) e]at this;exact sN this
   ·rw[q,hJ.nt]at e;exact nS e
   ·rw[q,hJ.nl]at e;exact nS e
  refine bw (aV (aC (ac (aa rfl) (ac (aa rfl) (ae (aa rfl)))) cr)) (bH (fun c=>(∃r,ρ r=some c)∨c=ta∨c=lo) _ ?_ (.tup (.cons (hJ.sl.frozen hsc fun r b e=> .inl (iE r e)) (.cons (.dT (.inr (.inl rfl)) (hJ.sl.rest hJ.ft) (zi.refl _)) (.cons (.dS (.inr (.inr rfl)) (hJ.sl.rest hJ.fl) (ry.refl _)) .nil)))) (h s T LL _ hG ?_ ?_))
  ·rintro c (⟨r,q⟩|rfl|rfl)
   ·exact rE ((hJ.sl.lay.at_ _ _ q).1) (fun z=>by exact sN z)
   ·exact rE (hJ.sl.rest hJ.ft) (fun z=>by exact sN z)
   ·exact rE (hJ.sl.rest hJ.fl) (fun z=>by exact sN z)
  ·refine bB (hJ.Fi) fun u v e1 e2 e3=>?_
   refine bB hs fun u0 v0 zz zz e0=>?_;clear hs
   exact(bH u v e1 e2 ((af.CQ (S:=fun c=>(∃r,ρ r=some c)∨c=ta∨c=lo) (out a _ e0)).trans e3))
  ·exact fun c x n e=>(af.CQ (S:=fun c=>(∃r,ρ r=some c)∨c=ta∨c=lo) (out c x e)).trans (hJ.sl.rest (hJ.ext c x n e))
end
section
variable{X:af→Prop}{t:Addr}
theorem xu{α:Type}{turn:D→List D→af→(List D→af→Prop)→Prop}{enc:α→D}{g:α→List D}{Φ:List D→af→Prop}:∀{l:List α} {acc:List D},(∀x∈l,∀acc (Ψ:List D→af→Prop),Ψ (acc++g x) σ→turn (enc x) acc σ Ψ)→Φ (acc++l.flatMap g) σ→A6 turn (l.map enc) acc σ Φ
 |[],acc,_,q=>by rw[List.flatMap_nil,List.append_nil]at q;exact q
 |x::l,acc,h,q=>h x (.head _) acc _ (xu (fun y hy=>h y (.tail _ hy)) (by rw[List.flatMap_cons,←List.append_assoc]at q;exact q))
theorem vI{w:WT}(h:Tg c w d ξ σ ξ1 σ1)(hc:gO ξ ξ1):Tg c (vJ w) d ξ σ ξ1 σ1:=fun zz q=>h _ ⟨hc,q⟩
theorem qN{α β:Type}{scope:Scope}{init:List (Option Nat)}{l:List α}(enc:α→D)(Gf:β→D)(sub:α→List β)(cc:α→β→Bool)(g:α→β→D)
 (h0:dG scope=true) (h1:Ev c wit ξ σ d σ1) (hd:∀a,d≠ .ref a) (hi:eL σ1 d=some (l.map enc)) (hz:l.length≤1000)
 (h:∀x∈l,∃ξ1 d1,Tg c.cut wt (enc x) (bp init ξ) σ1 ξ1 σ1∧Ev c.cut wi ξ1 σ1 true σ1∧Ev c.cut Db ξ1 σ1 d1 σ1∧(∀a,d1≠ .ref a)∧eL σ1 d1=some ((sub x).map Gf)∧(sub x).length≤1000∧∀y∈sub x,∃ξ2,Tg c.cut (vJ D3) (Gf y) ξ1 σ1 ξ2 σ1∧Ev c.cut DR ξ2 σ1 (cc x y) σ1∧(cc x y=true→Ev c.cut we ξ2 σ1 (g x y) σ1)) (ho:c.owns p=false:=by rfl):
 Ev c (ou p scope wit wt wi Db D3 DR we init) ξ σ (.lst (l.flatMap fun x=>((sub x).filter (cc x)).map (g x))) σ1:=
 fun Φ q=>⟨h0,h1 _ (cf hd _ hi (by exact rE (List.length_map _) hz) (xu (g:=fun x=>((sub x).filter (cc x)).map (g x)) (fun x hx acc Ψ hΨ=>by
  refine eO (h x hx) fun ξ1 d1 a1 a2 a3 a4 CU=>dF CU fun a5 a6 a7=>?_;clear CU
  refine a1 _ (a2 _ ?_)
  refine rE (if_pos rfl) ?_
  refine a3 _ (cf a4 _ a5 (by exact rE (List.length_map _) a6) (mv (c:=cc x) (g:=g x) (fun y hy Ψ hΨ=>?_) hΨ))
  refine cz (a7 y hy) fun ξ2 b1 b2 b3=>?_
  refine b1 _ (b2 _ ?_)
  refine bD (b:=cc x y) (fun hc=>?_) fun hc=>?_
  ·rw[hc]at hΨ;exact rE (if_pos rfl) (b3 hc _ hΨ)
  ·rw[hc]at hΨ;exact rE (if_neg (by decide)) hΨ) (by refine rE (List.nil_append _) ?_;delta qz;exact rE ho q)))⟩
end
section
variable{X:af→Prop}{t:Addr}{T:cU}
noncomputable def iQ(T:cU):List (Str×Str):=T.flatMap fun e=>((bn T e.1).getD []).map fun f=>(e.1.headD (ofString ""),f)
noncomputable def gT(T:cU)(k nm:Str):Str:=if k=ofString "type"∧(bn T [k,nm]).isSome=false then ofString "class"else k
noncomputable def eK(f:Str):Str:=if Txt.slice f none (some 4)=ofString "N.P."then Txt.slice f (some 4) none else Txt.slice f (some 2) none
noncomputable def dH(T:cU)(P:List (Str×List ag))(f:Str):List ag:=((aI P f).getD []).filter fun t=>decide ((t.1,t.2.2)∈iQ T)
noncomputable def gF(T:cU)(P:List (Str×List ag))(k nm:Str)(sb:gd):Option (List ag):=
 match(bn T [k,nm]).getD []with
 |[f]=>(if k=ofString "value"then some []else bt (dH T P f) sb).map ((k,eK f,f)::·)
 |_=>none
noncomputable def ci(T:cU)(LL P:List (Str×List ag))(t:cC):Option (List ag):=
 if t.1=ofString "module"then aI LL t.2.1 else gF T P (gT T t.1 t.2.1) t.2.1 t.2.2
noncomputable def ev(l:List ag):Bool:=l.any fun x=>l.any fun y=>decide ((x.1,x.2.1)=(y.1,y.2.1))&& !decide (x.2.2=y.2.2)
noncomputable def j7(T:cU)(LL P:List (Str×List ag))(ts:List cC):Option (List ag):=(bX (ci T LL P) ts).bind fun l=>if ev l=true then none else some l
theorem AF{t:D}{kvs:List (List Str×D)}{ks:List D}{k:List Str}(h:gv σ t=some kvs)(hk:eQ ks=some k)(hl:look kvs k=some e):Op c fm [t,.tup ks] σ e σ:=fun zz q=>(cP kvs k e h hk hl q)
theorem nC{e:List Str×List Str}(h:e∈T):∃v,bn T e.1=some v:=by
 cases q:bn T e.1 with
 |some v=>exact(iE v rfl)
 |none=>
  delta bn at q
  rw[Option.map_eq_none_iff,List.find?_eq_none]at q
  exact absurd (decide_eq_true rfl) (q e h)
theorem sy{ps:Pos}{scope:Scope}{o0:Option D}{rest:Lo}(h0:dG scope=true)(hc:∀e∈T,∃k x,e.1=[k,x])(hz:T.length≤1000)(hz2:∀k,((bn T k).getD []).length≤1000)(ho:c.owns ps=false:=by rfl):
 Ev c (ou ps scope (bW (0+1)) (c8 (0+1)) mT (w2 (bW (0+1+1+1)) (bW (0+1)) fm) (c8 (0+1+1)) mT (rn (bM (w2 (bW (0+1)) (c0 (D.int 0)) fm) (bM (bW (0+1+1)) eS)) jw) [none,none,none,some (0+1)]) (o0::some (.dT (gA T))::rest) σ (.lst ((iQ T).map bO)) σ:=by
 refine ar (qN (l:=T) (fun e=> .tup (e.1.map .str)) .str (fun e=>(bn T e.1).getD []) (fun zz zz=>true) (fun e f=>bO (e.1.headD (ofString ""),f)) h0 (aa rfl) (fun a q=>by cases q) (by refine(?_:some (List.map _ (List.map _ T))=_);exact rE List.map_map rfl) hz (fun e he=>?_) ho) ?_
 ·refine xE (nC he) fun v hv=>?_
  refine jm (hc e he) fun k x ek=>?_
  obtain⟨key,fs⟩:=e
  subst ek
  refine(dC _ (.lst (v.map .str)) aM (fun zz q=>q) (aA (aa rfl) (aa rfl) (AF (kvs:=gA T) (k:=[k,x]) rfl rfl (by exact rE (j4 _ _) (rE hv rfl)))) aY (dx (by exact rE hv rfl) (hz2 _) (fun y hy=>(bP _ (vI aM (mq (kL _) fun e q=>by cases q)) (fun zz q=>q) (fun zz=>aC (ac (aA (aa rfl) (ad (d:= .int 0)) fun zz q=>⟨by decide,.inr (.inl (cP _ 0 _ rfl rfl rfl q))⟩) (ae (aa rfl))) cr)))))
 ·unfold iQ
  refine rE List.map_flatMap ?_
  congr 2
  funext e
  exact rE (List.filter_eq_self.mpr fun zz zz=>rfl) (rE List.map_map rfl)
theorem eY{α:Type}{f:α→Option (List ag)}:∀{a b:List α},bX f (a++b)=(bX f a).bind fun x=>(bX f b).map (x++·)
 |[],b=>by refine(?_:bX f b=Option.map _ _);cases bX f b<;>rfl
 |x::a,b=>by
  refine(?_:Option.bind _ _=Option.bind (Option.bind _ _) _)
  cases f x with
  |none=>rfl
  |some r=>
   refine(?_:Option.map _ (bX f (a++b))=Option.bind (Option.map _ (bX f a)) _)
   refine rE (eY (a:=a)) ?_
   cases bX f a with
   |none=>rfl
   |some u=>
    cases bX f b with
    |none=>rfl
    |some v=>exact congrArg some (List.append_assoc _ _ _).symm
theorem eX{α:Type}{f:α→Option (List ag)}:∀{l:List α} {r:List ag},(∀x∈l,∀r,f x=some r→r.length≤B)→bX f l=some r→r.length≤B*l.length
 |[],r,_,h=>by(replace h:=sI h;subst h);exact Nat.zero_le _
 |x::l,r,hb,h=>by
  unfold bX at h
  refine aF (Option.bind_eq_some_iff.mp h) fun u hu h=>?_
  refine aF (Option.map_eq_some_iff.mp h) fun v hv q2=>?_;subst q2
  have h1:=hb x (.head _) u hu
  have h2:=eX (fun y hy=>hb y (.tail _ hy)) hv
  refine rE List.length_append (rE List.length_cons (rE (Nat.mul_succ _ _) ?_));lia
theorem sA{kvs:List (List Str×D)}{ks:List D}{k:List Str}(h1:cw σ e=none)(h:gv σ e=some kvs)(hk:eQ ks=some k):dq σ .NotIn (.tup ks) e=some (!(look kvs k).isSome):=by
 refine(?_:(kY σ (.tup ks) e).map (!·)=_)
 delta kY;refine rE h1 (rE h ?_)
 refine(?_:Option.map _ (Option.map _ (eQ ks))=_)
 exact rE hk rfl
theorem nu{x y:Str×Str}(h:bO x=bO y):x=y:=by
 injection h with h
 injection h with h1 h2
 injection h2 with h2 _
 injection h1 with h1
 injection h2 with h2
 exact Prod.ext h1 h2
theorem u4(t:Str×Str)(l:List (Str×Str)):gb (bO t) (l.map bO)=decide (t∈l):=by
 have:gb (bO t) (l.map bO)=true↔t∈l:=by
  refine rE (propext lL) (rE (propext List.mem_map) ?_)
  exact⟨fun w0=>aF w0 fun x hx e=>nu e▸hx,fun h=>⟨t,h,rfl⟩⟩
 by_cases h:t∈l
 ·refine rE (this.mpr h) ?_;simp[h]
 ·refine bE (b:=gb (bO t) (l.map bO)) (fun q=>?_) fun q=>?_
  ·simp[h]
  ·exact absurd (this.mp q) h
theorem sB{t:Str×Str}{l:List (Str×Str)}:dq σ .In (bO t) (.lst (l.map bO))=some (decide (t∈l)):=by
 refine(?_:kY σ (bO t) (.lst (l.map bO))=_)
 delta kY
 refine(?_:(if(pl 8 (bO t)&&(l.map bO).all (pl 8))=true then some (gb (bO t) (l.map bO))else none)=_)
 exact rE (if_pos (by refine rE (show(l.map bO).all (pl 8)=true by refine rE (propext List.all_eq_true) ?_;intro x hx;refine aF (List.mem_map.mp hx) fun t zz q2=>?_;subst q2;rfl) ?_;rfl)) (rE (u4 _ _) rfl)
theorem xj(σ:af)(x y:Int):dq σ .NotEq (.int x) (.int y)=some (!decide (x=y)):=by exact rE (tX rfl) (rE (tU _ _) rfl)
theorem tz{xs:List D}(h:xs.length≤1048576):Op c uW [.lst xs] σ (.int xs.length) σ:=fun zz q=>⟨h,q⟩
theorem vn(σ:af)(x y:Str×Str):dq σ .Eq (bO x) (bO y)=some (decide (x=y)):=by
 refine rE (nU rfl) ?_
 congr 1
 by_cases h:x=y
 ·exact rE (cT.mpr (by exact rE h rfl)) (rE (decide_eq_true h) rfl)
 ·exact rE (kh fun q=>h (nu q)) (rE (decide_eq_false h) rfl)
noncomputable def pS(x y:ag):Bool:=decide ((x.1,x.2.1)=(y.1,y.2.1))&& !decide (x.2.2=y.2.2)
theorem vr(l:List ag):decide ((l.flatMap fun x=>(l.filter (pS x)).map fun zz=>D.int 1)=[])= !ev l:=by
 have:(l.flatMap fun x=>(l.filter (pS x)).map fun zz=>D.int 1)=[]↔ev l=false:=by
  refine rE (propext List.flatMap_eq_nil_iff) ?_
  delta ev
  refine rE (propext List.any_eq_false) ?_
  constructor
  ·intro h x hx q
   have:=h x hx
   rw[List.map_eq_nil_iff,List.filter_eq_nil_iff]at this
   refine aF (List.any_eq_true.mp q) fun y hy e=>?_
   exact this y hy e
  ·intro h x hx
   refine rE (propext List.map_eq_nil_iff) (rE (propext List.filter_eq_nil_iff) ?_)
   exact fun y hy e=>h x hx (List.any_eq_true.mpr (aP y hy e))
 refine bE (b:=ev l) (fun h=>?_) fun h=>?_
 ·exact decide_eq_true (this.mpr h)
 ·exact decide_eq_false fun q=>by rw[this.mp q]at h;exact fT h
theorem uN(p:Pg)(hc:∀e∈T,∃k x,e.1=[k,x])(hz:T.length≤1000)(hz2:∀k,((bn T k).getD []).length≤30){ts:List cC}(hts:ts.length≤10)(hB:∀t∈ts,∀r,ci T LL P t=some r→r.length≤100)(hP:∀f,((aI P f).getD []).length≤100)(hsb:∀t∈ts,∀l,t.2.2= .some l→l.length≤100)
 (h:Φ (dA (j7 T LL P ts)) σ):aL C (n+2) (.ref 408) [.lst (ts.map dl),.dT (gA T),.dS (av LL),.dS (av P)] σ Φ X:=by
 revert p hc hz hz2 hts hB hP hsb h;revert n Φ;revert C X σ T LL P ts;apply z7
 generalize (e7 _ _).1.1.1=C,(e7 _ _).1.1.2=σ,(e7 _ _).1.2.1=P,(e7 _ _).1.2.2=LL,(e7 _ _).2.1.1=X,(e7 _ _).2.1.2=T,(e7 _ _).2.2=ts;intro n Φ p hc hz hz2 hts hB hP hsb h
 refine' bJ p (C:=C) (n:=(n+1)) (ow:=[]) (es:=[]) (ws:=[]) (sl:=[ofString "told",ofString "table",ofString "lots",ofString "parts",ofString "found",ofString "sayable",ofString "kind",ofString "name",ofString "subs",ofString "fulls",ofString "known",ofString "more",ofString "brief"]) (names:=[ofString "told",ofString "table",ofString "lots",ofString "parts"]) (fun zz=>rfl) (fun zz=>rfl) ?hp ?hb ?hs rfl ?hsc ?hnd rfl rfl (fun zz=> .nil) ?hbind (w:=?w) ?hsx ?hw (hlk:=?hlk)
 case hp=>(conv=>lhs;whnf)
 case hb=>(conv=>lhs;whnf)
 case hs=>(conv=>lhs;whnf)
 case hsc=>rfl
 case hnd=>decide
 case hlk=>decide
 case hbind=>exact fun s vs X hl=>jA (P:=fun vs=>BindsTo s _ ⟨vs,[]⟩ (List.zip _ (vs++_))) hl fun a0 a1 a2 a3=>(BindsTo.of_eq rfl)
 case hsx=>infer_instance
 refine'(?_:_)
 refine aN (?_:ng _ _ _ _ _ _ _ _)
 refine⟨by decide,aC bf aU _ (sy rfl hc hz (fun k=>Nat.le_trans (hz2 k) (by decide)) rfl _ ?_)⟩
 refine aN (c9 (aa rfl) aY rfl (by refine rE (List.length_map _) ?_;lia) (fy dl (fun pre ξ σ1=>∀G:Prop,(∀o6 o7 o8 o9 Dk jW uX acc,ξ=[some (.lst (ts.map dl)),some (.dT (gA T)),some (.dS (av LL)),some (.dS (av P)),some (.lst (acc.map bb)),some (.lst ((iQ T).map bO)),o6,o7,o8,o9,Dk,jW,uX]→bX (ci T LL P) pre=some acc→σ=σ1→G)→G) (fun pre t post ξ σ1 Ψ he hI hn hr=>?_) (fun ξ σ1 hI=>?_) fun zz k=>k _ _ _ _ _ _ _ [] rfl rfl rfl))
 ·refine hI _ fun o6 o7 o8 o9 Dk jW uX acc e1 hg e2=>?_
  subst e1 e2
  have ht:t∈ts:=by refine rE he ?_;simp
  have hB:=hB t ht
  have hsb:=hsb t ht
  have hal:acc.length≤1000:=by
   have h1:=eX (fun x hx=>by exact(‹∀t∈ts,∀r,ci T LL P t=some r→r.length≤100› x (by exact rE he (List.mem_append_left _ hx)))) hg
   have h2:pre.length≤10:=by rw[he,List.length_append]at hts;lia
   lia
  have fail:ci T LL P t=none→Φ .none σ:=fun q=>by
   have:j7 T LL P ts=none:=by
    delta j7
    refine rE he (rE eY (rE hg ?_))
    refine(?_:Option.bind (Option.map _ (Option.bind (ci T LL P t) _)) _=none)
    exact rE q rfl
   rw[this]at h;exact h
  have good:∀r,ci T LL P t=some r→bX (ci T LL P) (pre++[t])=some (acc++r):=fun r q=>by
   refine rE eY (rE hg ?_)
   refine(?_:Option.map _ (Option.bind (ci T LL P t) _)=_)
   refine rE q ?_;refine(?_:some (acc++(r++[]))=_);exact rE (List.append_nil _) rfl
  obtain⟨k,nm,sb⟩:=t
  refine pX _ ?_
  by_cases hk:k=ofString "module"
  ·have hd:ci T LL P (k,nm,sb)=aI LL nm:=if_pos hk
   rw[hd]at fail good hB
   refine aN (gI (ar (al (aa rfl) ah (aW _ _ _)) (decide_eq_true hk)) ?_)
   refine oC (o:=aI LL nm) (fun e=>?_) fun l e=>?_
   ·exact bw (bh (ar (al (aa rfl) (aa rfl) (gN rfl)) (by exact rE (cL _ _) (rE e rfl))) (aQ (aV ad))) (hr _ _ _ (fail e))
   ·skip
    have hl:=hB l e
    refine aD (aG (ar (al (aa rfl) (aa rfl) (gN rfl)) (by exact rE (cL _ _) (rE e rfl))) aR) ?_
    refine aD (aX (aA (aa rfl) (aA (aa rfl) (aa rfl) (d8 rfl (by exact rE (cL _ _) (rE e rfl)))) (cu rfl rfl trivial (by refine rE (List.length_map _) (rE (List.length_map _) ?_);lia)))) ?_
    refine rF List.map_append ?_
    exact(aQ sV) _ (hn _ _ fun zz k=>k _ _ _ _ _ _ _ _ rfl (good l e) rfl).2
  ·have hd:ci T LL P (k,nm,sb)=gF T P (gT T k nm) nm sb:=if_neg hk
   rw[hd]at fail good hB
   refine aD (aG (ar (al (aa rfl) ah (aW _ _ _)) (decide_eq_false hk)) aR) ?_
   refine dz (I:=fun ξ σ'=>ξ=[some (.lst (ts.map dl)),some (.dT (gA T)),some (.dS (av LL)),some (.dS (av P)),some (.lst (acc.map bb)),some (.lst ((iQ T).map bO)),some (.str (gT T k nm)),some (.str nm),some (gU sb),o9,Dk,jW,uX]∧σ'=σ) (fun Ψ hΨ=>?_) fun ξ σ' hI=>?_
   ·have HT:∀b,(bn T [k,nm]).isSome=b→dq σ .NotIn (.tup [.str k,.str nm]) (.dT (gA T))=some (!b):=fun b e=>by refine rE (sA (k:=[k,nm]) rfl rfl rfl) (rE (j4 _ _) (rF e ?_));cases bn T [k,nm]<;>rfl
    by_cases hy:k=ofString "type"
    ·refine bF (b:=(bn T [k,nm]).isSome) (fun e=>?_) fun e=>?_
     ·exact(bh (bq (ar (al (aa rfl) ah (aW _ _ _)) (decide_eq_true hy)) (bq (al (aC (ac (aa rfl) (ae (aa rfl))) cr) (aa rfl) (HT _ e)) db)) (aQ (aX ah))) _ (hΨ _ _ ⟨by refine rE (show gT T k nm=ofString "class"from if_pos ⟨hy,e⟩) ?_;rfl,rfl⟩)
     ·exact(aG (ar (b:=false) (dJ (al (aa rfl) ah (aW _ _ _)) fun zz=>cH (al (aC (ac (aa rfl) (ae (aa rfl))) cr) (aa rfl) (HT _ e))) (by simp)) aR) _ (hΨ _ _ ⟨by refine rE (show gT T k nm=k from if_neg fun q=>by rw[e]at q;exact tF q.2) ?_;rfl,rfl⟩)
    ·exact(aG (cH (ar (al (aa rfl) ah (aW _ _ _)) (decide_eq_false hy))) aR) _ (hΨ _ _ ⟨by refine rE (show gT T k nm=k from if_neg fun q=>hy q.1) ?_;rfl,rfl⟩)
   refine xA hI fun q0 q1=>?_;clear hI;subst q0 q1
   generalize gT T k nm=kk at*
   refine aD (aX (dO (T:= .dict) (by decide) (aa rfl) (.inr rfl) (ac (aC (ac (aa rfl) (ae (aa rfl))) cr) (ae (aC bf aU))) fun zz q=>(bH _ [kk,nm] rfl rfl (by exact rE (nB _ _) q)))) ?_
   have hfl:=hz2 [kk,nm]
   have ho:gF T P kk nm sb=match(bn T [kk,nm]).getD []with
    |[f]=>(if kk=ofString "value"then some []else bt (dH T P f) sb).map ((kk,eK f,f)::·)
    |_=>none:=rfl
   generalize gF T P kk nm sb=oh at*
   generalize (bn T [kk,nm]).getD []=Fp at*
   by_cases h1:Fp.length=1
   ·refine xE (List.length_eq_one_iff.mp h1) fun f q1=>?_;subst q1
    have ho:oh=(if kk=ofString "value"then some []else bt (dH T P f) sb).map ((kk,eK f,f)::·):=ho
    refine aD (aG (ar (al (ef p.Dn (ae (aa rfl)) (tz (Nat.le_of_ble_eq_true rfl))) ad (xj _ _ _)) rfl) aR) ?_
    have i0:∀{c:Ct} {σ},Op c fm [.lst [.str f],.int 0] σ (.str f) σ:=fun{c σ}=>hY (k:=0) rfl rfl (by decide)
    refine aD (aX (dX (l:=(aI P f).getD []) (fun t=>decide ((t.1,t.2.2)∈iQ T)) rfl (dO (T:= .dict) (by decide) (aa rfl) (.inl rfl) (ac (aA (aa rfl) (ad (d:= .int 0)) i0) (ae (aC bf aU))) fun zz q=>(aP _ rfl (by exact rE (gK _ _) q))) aY rfl (Nat.le_trans (hP f) (by decide)) fun t ht=>(bP _ aM (al (aC (ac (aA (aa rfl) (ad (d:= .int 0)) ju) (ae (aA (aa rfl) (ad (d:= .int 2)) lC))) cr) (aa rfl) (sB (t:=(t.1,t.2.2)))) (aa rfl)))) ?_
    have hkn:((aI P f).getD []).filter (fun t=>decide ((t.1,t.2.2)∈iQ T))=dH T P f:=rfl
    refine rE hkn ?_
    have hkl:(dH T P f).length≤100:=Nat.le_trans (List.length_filter_le _ _) (hP f)
    generalize dH T P f=known at*
    refine aD (aX (d:=dA (if kk=ofString "value"then some []else bt known sb)) (σ1:=σ') ?_) ?_
    ·by_cases hv:kk=ofString "value"
     ·exact rE (if_pos hv) (cE (ar (al (aa rfl) ah (pO _ _ _)) (by simp[hv])) (aC bf aU))
     ·exact rE (if_neg hv) (cS (ar (al (aa rfl) ah (pO _ _ _)) (by simp[hv])) (bI (by decide+kernel) p.DD p.keep (ac (aa rfl) (ae (aa rfl))) fun zz q=>lz p hkl hsb q))
    generalize (if kk=ofString "value"then some []else bt known sb)=om at*
    cases om with
    |none=>exact bw (bh (aH (aa rfl) _ rfl) (aQ (aV ad))) (hr _ _ _ (fail ho))
    |some r=>
     have hrl:=hB _ ho
     rw[List.length_cons]at hrl
     refine aD (aG (aH (aa rfl) _ rfl) aR) ?_
     refine aD (aX (d:= .str (eK f)) (σ1:=σ') ?_) ?_
     ·by_cases hb:Txt.slice f none (some 4)=ofString "N.P."
      ·refine rE (show eK f=_ from if_pos hb) ?_
       exact cS (ar (al (aA (aA (aa rfl) (ad (d:= .int 0)) i0) (ad (d:= .int 4)) fun zz q=>q) ah (aW _ _ _)) (decide_eq_true hb)) (aA (aA (aa rfl) (ad (d:= .int 0)) i0) (ad (d:= .int 4)) fun zz q=>q)
      ·refine rE (show eK f=_ from if_neg hb) ?_
       exact cE (ar (al (aA (aA (aa rfl) (ad (d:= .int 0)) i0) (ad (d:= .int 4)) fun zz q=>q) ah (aW _ _ _)) (decide_eq_false hb)) (aA (aA (aa rfl) (ad (d:= .int 0)) i0) (ad (d:= .int 2)) fun zz q=>q)
     refine(aQ (aX (d:= .lst ((acc++((kk,eK f,f)::r)).map bb)) (ar (aA (aA (aa rfl) (aC (ae (aC (ac (aa rfl) (ac (aa rfl) (ae (aA (aa rfl) (ad (d:= .int 0)) i0)))) cr)) aU) (cu rfl rfl trivial ?_)) (aa rfl) (cu rfl rfl trivial ?_)) ?_))) _ (hn _ _ fun zz k=>k _ _ _ _ _ _ _ _ rfl (good _ ho) rfl).1
     ·refine rE (List.length_map _) ?_;refine(?_:_+1≤_);lia
     ·refine rE List.length_append (rE (List.length_map _) (rE (List.length_map _) ?_));refine(?_:_+1+_≤_);lia
     ·exact rE List.map_append (rE List.map_cons (rE (List.append_assoc _ _ _) rfl))
   ·have ho:oh=none:=by
     refine rE ho ?_
     match Fp,h1 with
     |[],_=>rfl
     |[f],h1=>exact absurd rfl h1
     |_::_::_,_=>rfl
    exact bw (bh (ar (al (ef p.Dn (ae (aa rfl)) (tz (by refine rE (List.length_map _) ?_;lia))) ad (xj _ _ _)) (by refine rE (List.length_map _) (rE (Bool.not_eq_true' _) (rE (propext decide_eq_false_iff_not) ?_));lia)) (aQ (aV ad))) (hr _ _ _ (fail ho))
 ·refine hI _ fun o6 o7 o8 o9 Dk jW uX acc e1 hg e2=>?_
  subst e1 e2
  have hal:acc.length≤1000:=by
   have h1:=eX hB hg
   lia
  have hl:j7 T LL P ts=if ev acc=true then none else some acc:=by delta j7;exact rE hg rfl
  have hp:(acc.flatMap fun x=>(acc.filter (pS x)).map fun zz=>D.int 1).all (pl 7)=true:=by
   refine rE (propext List.all_eq_true) ?_
   intro d hd
   refine aF (List.mem_flatMap.mp hd) fun x zz hd=>?_
   refine aF (List.mem_map.mp hd) fun y zz q2=>?_;subst q2
   rfl
  refine aN (Cn (x:=ev acc) (al (qN (l:=acc)
   bb bb (fun zz=>acc) pS (fun zz zz=> .int 1) rfl (aa rfl) aY rfl hal fun x hx=>(dC _ (.lst (acc.map bb)) aM (fun zz q=>q) (aa rfl) aY (dx rfl hal (fun y hy=>(bP _ (vI aM (mq (kL _) fun e q=>by cases q)) (dJ (al (aA (aa rfl) (ad (d:= .int 2)) fun zz q=>⟨rfl,q⟩) (aA (aa rfl) (ad (d:= .int 2)) fun zz q=>⟨rfl,q⟩) (vn _ (x.1,x.2.1) (y.1,y.2.1))) fun zz=>ar (dJ (al (aA (aa rfl) (ad (d:= .int 2)) lC) (aA (aa rfl) (ad (d:= .int 2)) lC) (pO _ _ _)) fun zz=>db) (Bool.and_true _)) (fun zz=>ad))))))
   (aC bf aU) ((mn hp).trans (by exact rE (vr _) (rE (Bool.not_not _) rfl)))) (fun hcl=>?_) fun hcl=>?_)
  ·rw[hl,hcl]at h
   exact aQ (aV ad) _ h
  ·rw[hl,hcl]at h
   exact bw (aV (aa rfl)) h
end
section
variable{X:af→Prop}{t:Addr}
noncomputable def tI(k nm:Str)(t:ag):Bool:=decide (t.1=k)&&decide (t.2.1=nm)
noncomputable def mM(nm:Str)(t:ag):Bool:=(decide (t.1=ofString "type")||decide (t.1=ofString "class"))&&decide (t.2.1=nm)
noncomputable def eH(H:List ag)(P:List (Str×List ag))(sb:gd)(h:ag):Option (List ag):=
 (bt (((aI P h.2.2).getD []).filter fun t=>decide (t∈H)) sb).map (h::·)
noncomputable def eZ(H:List ag)(hid:Bool)(nm:Str):gd→List ag
 | .none=>if hid=true then H.filter (tI (ofString "constructor") nm)else[]
 |_=>[]
noncomputable def ig(H:List ag)(P:List (Str×List ag))(hid:Bool)(t:cC):Option (List ag):=
 if t.1=ofString "value"then some (H.filter (tI (ofString "value") t.2.1)++H.filter fun x=>hid&&tI (ofString "constructor") t.2.1 x)
 else(bX (eH H P t.2.2) (H.filter (mM t.2.1))).map (·++eZ H hid t.2.1 t.2.2)
noncomputable def eG(H:List ag)(P:List (Str×List ag))(hid:Bool)(t:cC):Option (List ag):=
 (ig H P hid t).bind fun l=>if l=[]∧hid=false then none else some l
noncomputable def nE(H:List ag)(P:List (Str×List ag))(hid:Bool)(ts:List cC):Option (List ag):=
 (bX (eG H P hid) ts).map fun l=>if hid=true then H.filter fun t=>decide (t∉l)else l
theorem km{y:Str}:dq σ .In (.str x) (.tup [.str y,.str z])=some (decide (x=y)||decide (x=z)):=by
 refine(?_:kY σ (.str x) (.tup [.str y,.str z])=_)
 delta kY
 refine(?_:(if(pl 8 (D.str x)&&[D.str y,D.str z].all (pl 8))=true then some (gb (.str x) ([y,z].map .str))else none)=_)
 refine rE (if_pos (show(pl 8 (D.str x)&&[D.str y,D.str z].all (pl 8))=true from rfl)) (rE (lK _ _) ?_);simp
theorem xk{t:ag}:dq σ .In (bb t) (.lst (l.map bb))=some (decide (t∈l)):=by
 refine(?_:kY σ (bb t) (.lst (l.map bb))=_)
 delta kY
 refine(?_:(if(pl 8 (bb t)&&(l.map bb).all (pl 8))=true then some (gb (bb t) (l.map bb))else none)=_)
 exact rE (if_pos (by refine rE (show(l.map bb).all (pl 8)=true by refine rE (propext List.all_eq_true) ?_;intro x hx;refine aF (List.mem_map.mp hx) fun t zz q2=>?_;subst q2;rfl) ?_;rfl)) (rE (oZ _ _) rfl)
theorem lj(hk:known.length≤100)(hs:∀l,sb= .some l→l.length≤10)(h:bt known sb=some r):r.length≤1000:=by
 cases sb with
 |none=>(replace h:=sI h;subst h);exact Nat.zero_le _
 |all=>(replace h:=sI h;subst h);exact Nat.le_trans hk (by decide)
 |some l=>exact Nat.le_trans (hU h) (Nat.mul_le_mul hk (hs l rfl))
theorem sj{x:ag}(hP:∀f,((aI P f).getD []).length≤100)(hs:∀l,sb= .some l→l.length≤10)(h:eH H P sb x=some r):r.length≤1001:=by
 refine aF (Option.map_eq_some_iff.mp h) fun u hu q2=>?_;subst q2
 exact Nat.succ_le_succ (lj (Nat.le_trans (List.length_filter_le _ _) (hP _)) hs hu)
theorem qe{w1 w2:WS}{Φ:Fl→Lo→af→Prop}(I:Lo→af→Prop)(J:Prop)(h1:∀Ψ:Fl→Lo→af→Prop,(∀ξ1 σ1,I ξ1 σ1→Ψ .next ξ1 σ1)→(J→∀ξ1,Ψ (.ret .none) ξ1 σ)→w1 c ξ σ Ψ)(h3:J→∀ξ1,Φ (.ret .none) ξ1 σ)(h2:∀ξ1 σ1,I ξ1 σ1→w2 c ξ1 σ1 Φ):fF w1 w2 c ξ σ Φ:=h1 _ h2 h3
theorem wq(p:Pg)(hH:H.length≤300){ts:List cC}(hts:ts.length≤10)(hB:∀t∈ts,∀r,ig H P hid t=some r→r.length≤2000)(hP:∀f,((aI P f).getD []).length≤100)(hsb:∀t∈ts,∀l,t.2.2= .some l→l.length≤10)
 (hk:∀t∈H,t.1=ofString "type"∨t.1=ofString "class"→(aI P t.2.2).isSome=true)
 (h:Φ (dA (nE H P hid ts)) σ):aL C (n+2) (.ref 413) [.lst (ts.map dl),.lst (H.map bb),.dS (av P),.bool hid] σ Φ X:=by
 revert p hH hts hB hP hsb hk h;revert n hid;revert C X σ P H ts Φ;apply z7
 generalize (e7 _ _).1.1.1=C,(e7 _ _).1.1.2=σ,(e7 _ _).1.2.1=Φ,(e7 _ _).1.2.2=P,(e7 _ _).2.1.1=H,(e7 _ _).2.1.2=X,(e7 _ _).2.2=ts;intro hid n p hH hts hB hP hsb hk h
 refine' bJ p (C:=C) (n:=(n+1)) (ow:=[]) (es:=[]) (ws:=[]) (sl:=[ofString "told",ofString "handed",ofString "parts",ofString "is_hiding",ofString "found",ofString "kind",ofString "name",ofString "subs",ofString "some",ofString "hidden",ofString "head",ofString "more"]) (names:=[ofString "told",ofString "handed",ofString "parts",ofString "is_hiding"]) (fun zz=>rfl) (fun zz=>rfl) ?hp ?hb ?hs rfl ?hsc ?hnd rfl rfl (fun zz=> .nil) ?hbind (w:=?w) ?hsx ?hw (hlk:=?hlk)
 case hp=>(conv=>lhs;whnf)
 case hb=>(conv=>lhs;whnf)
 case hs=>(conv=>lhs;whnf)
 case hsc=>rfl
 case hnd=>decide
 case hlk=>decide
 case hbind=>exact fun s vs X hl=>jA (P:=fun vs=>BindsTo s _ ⟨vs,[]⟩ (List.zip _ (vs++_))) hl fun a0 a1 a2 a3=>(BindsTo.of_eq rfl)
 case hsx=>infer_instance
 refine'(?_:_)
 refine aD (aX (aC bf aU)) ?_
 have hB2:∀t∈ts,∀r,eG H P hid t=some r→r.length≤2000:=fun t ht r q=>by
  refine aF (Option.bind_eq_some_iff.mp q) fun u hu q=>?_
  split at q
  ·exact nS q
  ·(replace q:=sI q;subst q);exact hB t ht _ hu
 refine aN (c9 (aa rfl) aY rfl (by refine rE (List.length_map _) ?_;lia) (fy dl (fun pre ξ σ1=>∀G:Prop,(∀o5 o6 o7 o8 o9 Dk jW acc,ξ=[some (.lst (ts.map dl)),some (.lst (H.map bb)),some (.dS (av P)),some (.bool hid),some (.lst (acc.map bb)),o5,o6,o7,o8,o9,Dk,jW]→bX (eG H P hid) pre=some acc→σ=σ1→G)→G) (fun pre t post ξ σ1 Ψ he hI hn hr=>?_) (fun ξ σ1 hI=>?_) (fun zz k=>k _ _ _ _ _ _ _ [] rfl rfl rfl)))
 ·refine hI _ fun o5 o6 o7 o8 o9 Dk jW acc e8 hg b9=>?_
  subst e8 b9
  have ht:t∈ts:=by refine rE he ?_;simp
  have hal:acc.length≤20000:=by
   have h1:=eX (fun x hx=>by exact(hB2 x (by exact rE he (List.mem_append_left _ hx)))) hg
   have h2:pre.length≤10:=by rw[he,List.length_append]at hts;lia
   lia
  have hB:=hB t ht
  have hsb:=hsb t ht
  have fail:eG H P hid t=none→Φ .none σ:=fun q=>by
   have:nE H P hid ts=none:=by
    delta nE
    refine rE he (rE eY (rE hg ?_))
    refine(?_:Option.map _ (Option.map _ (Option.bind (eG H P hid t) _))=none)
    exact rE q rfl
   rw[this]at h;exact h
  have good:∀r,eG H P hid t=some r→bX (eG H P hid) (pre++[t])=some (acc++r):=fun r q=>by
   refine rE eY (rE hg ?_)
   refine(?_:Option.map _ (Option.bind (eG H P hid t) _)=_)
   refine rE q ?_;refine(?_:some (acc++(r++[]))=_);exact rE (List.append_nil _) rfl
  obtain⟨k,nm,sb⟩:=t
  refine pX _ (qe (J:=ig H P hid (k,nm,sb)=none) (I:=fun ξ σ'=>σ'=σ∧∃l o9 Dk jW,ig H P hid (k,nm,sb)=some l∧ξ=[some (.lst (ts.map dl)),some (.lst (H.map bb)),some (.dS (av P)),some (.bool hid),some (.lst (acc.map bb)),some (.str k),some (.str nm),some (gU sb),some (.lst (l.map bb)),o9,Dk,jW]) (fun Ψ hΨ hJ=>?_) (fun J ξ=>hr _ _ _ (fail (by delta eG;exact rE J rfl))) fun ξ σ' hI=>?_)
  ·by_cases hv:k=ofString "value"
   ·refine gI (ar (al (aa rfl) ah (aW _ _ _)) (decide_eq_true hv)) ?_
    refine aD (aX (dX (l:=H) (tI (ofString "value") nm) rfl (aa rfl) aY rfl (by lia) fun t ht=>(bP _ aM (dJ (al (aA (aa rfl) (ad (d:= .int 0)) ju) ah (aW _ _ _)) fun zz=>ar (dJ (al (aA (aa rfl) (ad (d:= .int 1)) iR) (aa rfl) (aW _ _ _)) fun zz=>db) (Bool.and_true _)) (aa rfl)))) ?_
    have f1:(H.filter (tI (ofString "value") nm)).length≤H.length:=List.length_filter_le _ _
    have f2:(H.filter fun x=>hid&&tI (ofString "constructor") nm x).length≤H.length:=List.length_filter_le _ _
    refine(aQ (aX (aA (aa rfl) (dX (l:=H) (fun x=>hid&&tI (ofString "constructor") nm x) rfl (aa rfl) aY rfl (by lia) fun t ht=>(bP _ aM (dJ (a9 (b:=hid) (aa rfl) rfl) fun zz=>dJ (al (aA (aa rfl) (ad (d:= .int 0)) ju) ah (aW _ _ _)) fun zz=>ar (dJ (al (aA (aa rfl) (ad (d:= .int 1)) iR) (aa rfl) (aW _ _ _)) fun zz=>db) (Bool.and_true _)) (aa rfl))) (cu rfl rfl trivial (by refine rE (List.length_map _) (rE (List.length_map _) ?_);lia))))) _ ?_
    refine rF List.map_append ?_
    exact hΨ _ _ (vy rfl _ (jE _ _ _ (if_pos hv) rfl))
   ·refine qJ (ar (al (aa rfl) ah (aW _ _ _)) (decide_eq_false hv)) ?_
    have hd:ig H P hid (k,nm,sb)=(bX (eH H P sb) (H.filter (mM nm))).map (·++eZ H hid nm sb):=if_neg hv
    rw[hd]at hB hJ hΨ
    clear hd
    have hct:(H.filter (tI (ofString "constructor") nm)).length≤H.length:=List.length_filter_le _ _
    refine aN (?_:ng _ _ _ _ _ _ _ _)
    refine⟨by decide,aC bf aU _ (aC bf aU _ ?_)⟩
    refine dz (I:=fun ξ σ'=>σ'=σ∧ξ=[some (.lst (ts.map dl)),some (.lst (H.map bb)),some (.dS (av P)),some (.bool hid),some (.lst (acc.map bb)),some (.str k),some (.str nm),some (gU sb),some (.lst []),some (.lst ((eZ H hid nm sb).map bb)),Dk,jW]) (fun Ψ hΨ=>?_) fun ξ σ' hI=>?_
    ·clear hB hJ hsb fail good
     cases hid with
     |false=>exact(aG (cH (a9 (aa rfl) rfl)) aR) _ (hΨ _ _ ⟨rfl,by cases sb<;>rfl⟩)
     |true=>cases sb with
      |none=>exact(bh (bq (a9 (aa rfl) rfl) (bq (aH (aa rfl) _ rfl) db)) (aQ (aX (dX (l:=H) (tI (ofString "constructor") nm) rfl (aa rfl) aY rfl (by lia) fun t ht=>(bP _ aM (dJ (al (aA (aa rfl) (ad (d:= .int 0)) ju) ah (aW _ _ _)) fun zz=>ar (dJ (al (aA (aa rfl) (ad (d:= .int 1)) iR) (aa rfl) (aW _ _ _)) fun zz=>db) (Bool.and_true _)) (aa rfl)))))) _ (hΨ _ _ ⟨rfl,rfl⟩)
      |all=>exact(aG (bq (a9 (aa rfl) rfl) (cH (aH (aa rfl) _ rfl))) aR) _ (hΨ _ _ ⟨rfl,rfl⟩)
      |some l=>exact(aG (bq (a9 (aa rfl) rfl) (cH (aH (aa rfl) _ rfl))) aR) _ (hΨ _ _ ⟨rfl,rfl⟩)
    ·refine xA hI fun q0 q1=>?_;clear hI;subst q0 q1
     generalize eZ H hid nm sb=tl at*
     have hhd:(H.filter (mM nm)).length≤H.length:=List.length_filter_le _ _
     refine qe (J:=bX (eH H P sb) (H.filter (mM nm))=none) (I:=fun ξ σ1=>σ1=σ'∧∃l Dk jW,bX (eH H P sb) (H.filter (mM nm))=some l∧ξ=[some (.lst (ts.map dl)),some (.lst (H.map bb)),some (.dS (av P)),some (.bool hid),some (.lst (acc.map bb)),some (.str k),some (.str nm),some (gU sb),some (.lst (l.map bb)),some (.lst (tl.map bb)),Dk,jW]) (fun Ψ hΨ hJ=>?_) (fun J ξ=>hJ (by exact rE J rfl) ξ) fun ξ σ1 hI=>?_
     ·refine c9 (dX (l:=H) (mM nm) rfl (aa rfl) aY rfl (by lia) fun t ht=>(bP _ aM (dJ (al (aA (aa rfl) (ad (d:= .int 0)) ju) (aC (ac ah (ae ah)) cr) km) fun zz=>ar (dJ (al (aA (aa rfl) (ad (d:= .int 1)) iR) (aa rfl) (aW _ _ _)) fun zz=>db) (Bool.and_true _)) (aa rfl))) aY rfl (by refine rE (List.length_map _) ?_;lia)
       (fy bb (fun pre ξ σ1=>σ1=σ'∧∃l Dk jW,bX (eH H P sb) pre=some l∧ξ=[some (.lst (ts.map dl)),some (.lst (H.map bb)),some (.dS (av P)),some (.bool hid),some (.lst (acc.map bb)),some (.str k),some (.str nm),some (gU sb),some (.lst (l.map bb)),some (.lst (tl.map bb)),Dk,jW]) (fun pre x post ξ σ1 Ψ he2 hI hn hr=>?_) (fun ξ σ1 hI=>?_) (so rfl [] _ _ rfl rfl))
      ·refine oo hI fun q0 l Dk jW hl q5=>?_;clear hI;subst q0 q5
       have hx:x∈H.filter (mM nm):=by refine rE he2 ?_;simp
       refine xA (List.mem_filter.mp hx) fun Io hxk=>?_
       have hxk:x.1=ofString "type"∨x.1=ofString "class" :=by
        simp only[mM,Bool.and_eq_true,Bool.or_eq_true,decide_eq_true_eq]at hxk
        exact hxk.1
       refine xE (Option.isSome_iff_exists.mp (hk x Io hxk)) fun parts EV=>?_
       have hpl:=hP x.2.2
       have hll:l.length≤1001*300:=by
        have h1:=eX (fun y hy r q=>sj hP hsb q) hl
        have h2:pre.length≤300:=by have:=congrArg List.length he2;rw[List.length_append]at this;lia
        exact Nat.le_trans h1 (Nat.mul_le_mul_left _ h2)
       have ih:eH H P sb x=(bt (((aI P x.2.2).getD []).filter fun t=>decide (t∈H)) sb).map (x::·):=rfl
       rw[EV]at hpl ih
       have hkl:(parts.filter fun t=>decide (t∈H)).length≤100:=Nat.le_trans (List.length_filter_le _ _) hpl
       have hpl:parts.length≤100:=hpl
       have ih:eH H P sb x=(bt (parts.filter fun t=>decide (t∈H)) sb).map (x::·):=ih
       refine aM _ (aD (aX (bI (by decide+kernel) p.DD p.keep (ac (dX (l:=parts) (fun t=>decide (t∈H)) rfl (aA (aa rfl) (aA (aa rfl) (ad (d:= .int 2)) lC) (d8 rfl (by exact rE (cL _ _) (rE EV rfl)))) aY rfl (by lia) fun t ht=>(bP _ aM (al (aa rfl) (aa rfl) xk) (aa rfl))) (ae (aa rfl))) fun zz q=>lz p hkl (fun l hl=>Nat.le_trans (hsb l hl) (by decide)) q)) ?_)
       refine oD (o:=bt (parts.filter fun t=>decide (t∈H)) sb) (fun e=>?_) fun r e=>?_
       ·skip
        rw[e]at ih
        refine bw (bh (aH (aa rfl) _ rfl) (aQ (aV ad))) (hr _ _ _ (hJ ?_ _))
        refine rE he2 (rE eY (rE hl ?_))
        refine(?_:Option.map _ (Option.bind (eH H P sb x) _)=none)
        exact rE ih rfl
       ·skip
        rw[e]at ih
        have hrl:=lj hkl hsb e
        refine aD (aG (aH (aa rfl) _ rfl) aR) ?_
        refine(aQ (aX (d:= .lst ((l++(x::r)).map bb)) (ar (aA (aA (aa rfl) (aC (ae (aa rfl)) aU) (cu rfl rfl trivial ?_)) (aa rfl) (cu rfl rfl trivial ?_)) ?_))) _ (hn _ _ (so rfl (l++(x::r)) _ _ ?_ rfl)).1
        ·refine rE (List.length_map _) ?_;refine(?_:_+1≤_);lia
        ·refine rE List.length_append (rE (List.length_map _) (rE (List.length_map _) ?_));refine(?_:_+1+_≤_);lia
        ·exact rE List.map_append (rE List.map_cons (rE (List.append_assoc _ _ _) rfl))
        ·refine rE eY (rE hl ?_)
         refine(?_:Option.map _ (Option.bind (eH H P sb x) _)=_)
         refine rE ih ?_;refine(?_:some (l++((x::r)++[]))=_);exact rE (List.append_nil _) rfl
      ·refine oo hI fun q0 l Dk jW hl q5=>?_;clear hI;subst q0 q5
       exact hΨ _ _ (so rfl _ _ _ hl rfl)
     ·refine oo hI fun q0 l Dk jW hl q5=>?_;clear hI;subst q0 q5
      rw[hl]at hB hΨ
      have hll:=hB _ rfl
      rw[List.length_append]at hll
      refine(aQ (aX (aA (aa rfl) (aa rfl) (cu rfl rfl trivial (by refine rE (List.length_map _) (rE (List.length_map _) ?_);lia))))) _ ?_
      refine rF List.map_append ?_
      exact hΨ _ _ (vy rfl _ (jE _ _ _ rfl rfl))
  ·refine xA hI fun q0 CU=>jm CU fun l o9 D4=>eB D4 fun Dk jW hl q6=>?_;clear CU D4;clear hI;subst q0 q6
   have hst:eG H P hid (k,nm,sb)=if l=[]∧hid=false then none else some l:=by delta eG;exact rE hl rfl
   have hll:=hB l hl
   by_cases hc:l=[]∧hid=false
   ·rw[if_pos hc]at hst
    refine xA hc fun q0 q1=>?_;clear hc;subst q0 q1
    exact bw (bh (bq (ar (al (aa rfl) (aC bf aU) (jJ (l:=[]))) rfl) (bq (ar (dI (a9 (aa rfl) rfl)) rfl) db)) (aQ (aV ad))) (hr _ _ _ (fail hst))
   ·rw[if_neg hc]at hst
    refine aD (aG (ar (dJ (al (aa rfl) (aC bf aU) jJ) fun zz=>ar (dJ (dI (a9 (b:=hid) (aa rfl) rfl)) fun zz=>db) (Bool.and_true _)) ?_) aR) ?_
    ·by_cases q:l=[]
     ·cases hid with
      |true=>simp
      |false=>exact absurd ⟨q,rfl⟩ hc
     ·simp[q]
    ·refine(aQ (aX (aA (aa rfl) (aa rfl) (cu rfl rfl trivial (by refine rE (List.length_map _) (rE (List.length_map _) ?_);lia))))) _ ?_
     refine rF List.map_append ?_
     exact(hn _ _ fun zz k=>k _ _ _ _ _ _ _ _ rfl (good l hst) rfl).1
 ·refine hI _ fun o5 o6 o7 o8 o9 Dk jW acc e8 hg b9=>?_
  subst e8 b9
  have hl:nE H P hid ts=some (if hid=true then H.filter fun t=>decide (t∉acc)else acc):=by delta nE;exact rE hg rfl
  rw[hl]at h
  have hal:acc.length≤20000:=by have:=eX hB2 hg;lia
  have pt:∀l:List ag,(l.map bb).all (pl 8)=true:=fun l=>by refine rE (propext List.all_eq_true) ?_;intro x hx;refine aF (List.mem_map.mp hx) fun t zz q2=>?_;subst q2;rfl
  cases hid with
  |false=>exact bw (aV (cE (a9 (aa rfl) rfl) (aa rfl))) h
  |true=>
   exact bw (aV (cS (a9 (aa rfl) rfl) (dX (l:=H) (fun t=>decide (t∉acc)) rfl (aa rfl) aY rfl (by lia) fun t ht=>(bP _ aM (ar (al (aa rfl) (aa rfl) (nT rfl rfl rfl (by exact rE (pt _) rfl))) (by refine rE (oZ _ _) ?_;simp)) (aa rfl))))) h
end
section
noncomputable def fL(s:SS):List (Str×List ag):=s.lq.map fun q=>(q,s.lf q)
noncomputable def cF(s:SS)(k:Fin 4):dg:=(s.ks k).map fun x=>(x,s.fl k x)
noncomputable def wU(i:gV):ag:=(i.2.1,i.2.2,ay i)
noncomputable def c6:List ag:=dP.map wU
def zU(t:ag):Prop:=aE (aO t.1)=t.1
theorem mf{α β:Type}[DecidableEq α](g:α→β)(k:α):∀l:List α,((l.map fun x=>(x,g x)).find? fun x=>decide (x.1=k)).map (·.2)=if k∈l then some (g k)else none
 |[]=>rfl
 |a::l=>by
  refine rE List.map_cons (rE (List.find?_cons) ?_)
  by_cases h:a=k
  ·subst h;simp
  ·have h2:¬k=a:=fun q=>h q.symm
   simp only[h,decide_false,List.mem_cons,h2,false_or]
   exact mf g k l
section
variable{s:SS}{T:cU}
theorem u5(h:cD dP s T LL)(q:Str):aI (fL s) q=aI LL q:=by
 delta aI fL
 refine rE (mf _ _ _) ?_
 have h1:=h.lk q
 have h2:=h.lf q
 unfold aI at h1 h2
 cases e:(LL.find? fun x=>decide (x.1=q)).map (·.2)with
 |none=>rw[e]at h1;exact rE (if_neg fun w=>by simp at h1;exact h1 w) rfl
 |some l=>rw[e]at h1 h2;exact rE (if_pos (h1.mpr rfl)) (rE h2 rfl)
theorem iz(h:cD dP s T LL)(k:Fin 4)(x:Str):bA (cF s k) x=bn T [aE k,x]:=by
 delta bA cF
 refine rE (mf _ _ _) ?_
 have h1:=h.k.tk k x
 have h2:=h.k.tf k x
 refine oD (o:=bn T [aE k,x]) (fun e=>?_) fun l e=>?_
 ·rw[e]at h1;exact rE (if_neg fun w=>by simp at h1;exact h1 w) rfl
 ·rw[e]at h1 h2;exact rE (if_pos (h1.mpr rfl)) (rE h2 rfl)
theorem iB:∀t∈c6,aE (aO t.1)=t.1:=by decide+kernel
theorem pk:∀t∈c6,t.2.1.length≤10∧t.2.2.length≤20∧(t.1,t.2.1)∈a8:=by decide+kernel
theorem tj:∀x∈aq,x.2.length≤2∧∀t∈x.2,t∈c6:=by decide+kernel
theorem nZ:∀i∈dP,eK (ay i)=i.2.2∧bN 10 (ay i)=some i.2.2∧bN 10 i.2.2=some i.2.2:=by decide+kernel
theorem BK{k:Str}(h:aE (aO k)=k):lS k:=by
 refine rF h ?_
 exact cg (P:=fun j=>lS (aE j)) (.inl rfl) (.inr (.inl rfl)) (.inr (.inr (.inl rfl))) (.inr (.inr (.inr rfl))) (aO k)
theorem nD{k:List Str}{l:List Str}(h:bn T k=some l):∃e∈T,e.1=k:=by
 delta bn at h
 refine aF (Option.map_eq_some_iff.mp h) fun y hy zz=>?_
 exact(aP y (List.mem_of_find?_eq_some hy) (by simpa using List.find?_some hy))
theorem tN(h:cD dP s T LL){k:Fin 4}{l:List Str}(e:bn T [aE k,x]=some l){f:Str}(hf:f∈l):∃i∈dP,aO i.2.1=k∧(x=ay i∨x=i.2.2)∧f=ay i:=by
 have h1:=h.k.tf k x
 rw[e]at h1
 have h1:s.fl k x=l:=h1
 have:=(h.sub k x).subset (by exact rE h1 hf)
 refine aF (List.mem_filterMap.mp this) fun i hi e=>?_
 unfold il at e
 split at e
 ·rename_i w;(replace e:=sI e;subst e);exact(lV i hi w.1 w.2 rfl)
 ·exact nS e
theorem vQ(h:cD dP s T LL){t:ag}(ht:zU t):b7 (cF s) t=decide ((t.1,t.2.2)∈iQ T):=by
 have key:b7 (cF s) t=true↔(t.1,t.2.2)∈iQ T:=by
  delta b7 iZ iQ
  refine rE (propext List.any_eq_true) (rE (propext List.mem_flatMap) ?_)
  constructor
  ·rintro⟨x,hx,e⟩
   have e:=of_decide_eq_true e
   rw[iz h]at e
   refine oC (o:=bn T [aE (aO t.1),x.1]) (fun q=>?_) fun l q=>?_
   ·rw[q]at e;exact nM e
   ·skip
    rw[q]at e
    refine aF (nD q) fun y hy hk=>?_
    refine(aP y hy (List.mem_map.mpr (aP t.2.2 (by exact rE hk (rE q e)) ?_)))
    exact rE hk (Prod.ext ht rfl)
  ·rintro⟨y,hy,e⟩
   refine aF (List.mem_map.mp e) fun f hf e=>?_
   refine jm (h.k.tc y hy) fun k x hk=>?_
   have e1:y.1.headD (ofString "")=t.1:=congrArg Prod.fst e
   have e2:f=t.2.2:=congrArg Prod.snd e
   rw[hk]at e1 hf
   have e1:aE k=t.1:=e1
   have hkk:k=aO t.1:=by exact rF e1 (rE (cX _) rfl)
   have hx:x∈s.ks k:=(h.k.tk k x).mpr (by cases q:bn T [aE k,x]with
    |none=>rw[q]at hf;exact nM hf
    |some _=>rfl)
   refine(aP (x,s.fl k x) ?_ ?_)
   ·exact rF hkk (List.mem_map_of_mem hx)
   ·exact rF hkk (rE (iz h _ _) (decide_eq_true (e2▸hf)))
 refine bD (b:=b7 (cF s) t) (fun q=>?_) fun q=>?_
 ·exact(decide_eq_true (key.mp q)).symm
 ·exact(decide_eq_false fun w=>by rw[key.mpr w]at q;exact tF q).symm
theorem eV{f:Str}(h:aI aq f=some l):l.length≤2∧∀t∈l,t∈c6:=by
 delta aI at h
 refine aF (Option.map_eq_some_iff.mp h) fun y hy q2=>?_;subst q2
 exact tj y (List.mem_of_find?_eq_some hy)
theorem wQ(h:cD dP s T LL)(f:Str):((aI aq f).getD []).filter (b7 (cF s))=dH T aq f:=by
 delta dH
 refine List.filter_congr fun t ht=>vQ h ?_
 refine oC (o:=aI aq f) (fun q=>?_) fun l q=>?_
 ·rw[q]at ht;exact nM ht
 ·rw[q]at ht;exact iB t ((eV q).2 t ht)
theorem yx{o:Option (List Str)}{α:Type}(g:Str→Option α):(ib o).bind g=match o.getD []with|[f]=>g f|_=>none:=by
 match o with
 |none=>rfl
 |some []=>rfl
 |some [f]=>rfl
 |some (_::_::_)=>rfl
theorem xn(h:cD dP s T LL){k:Fin 4}{f:Str}(e:bn T [aE k,x]=some [f]):bZ x=eK f:=by
 refine mR (tN h e (.head _)) fun i hi zz hx q4=>?_;subst q4
 refine dF (nZ i hi) fun b1 b2 b3=>?_
 delta bZ
 rcases hx with rfl|rfl
 ·exact rE b2 (rE b1 rfl)
 ·exact rE b3 (rE b1 rfl)
def mU(k:Str):Prop:=k=ofString "module"∨k=ofString "value"∨k=ofString "type"
theorem lX(h:cD dP s T LL)(k:Fin 4)(nm:Str)(g:Str→Option (List ag)):((ib (bA (cF s k) nm)).bind fun f=>(g f).map ((aE k,bZ nm,f)::·))=match(bn T [aE k,nm]).getD []with
 |[f]=>(g f).map ((aE k,eK f,f)::·)
 |_=>none:=by
 refine rE (iz h _ _) (rE (yx _) ?_)
 match e:bn T [aE k,nm]with
 |none=>rfl
 |some []=>rfl
 |some [f]=>show Option.map _ _=Option.map _ _;exact rE (xn h e) rfl
 |some (_::_::_)=>rfl
theorem i6{k:Str}(g:Str→Option (List ag))(hg:∀f,(if k=ofString "value"then some []else bt (dH T P f) sb)=g f):gF T P k nm sb=match(bn T [k,nm]).getD []with
 |[f]=>(g f).map ((k,eK f,f)::·)
 |_=>none:=by
 delta gF
 match(bn T [k,nm]).getD []with
 |[]=>rfl
 |[f]=>exact congrArg (Option.map _) (hg f)
 |_::_::_=>rfl
theorem xN(h:cD dP s T LL){t:cC}(hk:mU t.1):eD (fL s) (cF s) aq t=ci T LL aq t:=by
 obtain⟨k,nm,sb⟩:=t
 have hk:k=ofString "module"∨k=ofString "value"∨k=ofString "type" :=hk
 delta eD ci
 by_cases h1:k=ofString "module"
 ·exact rE (if_pos h1) (rE (if_pos h1) (u5 h nm))
 ·refine rE (if_neg h1) (rE (if_neg h1) ?_)
  by_cases h2:k=ofString "value"
  ·subst h2
   refine rE (if_pos rfl) (rE (show gT T (ofString "value") nm=ofString "value"from if_neg fun q=>absurd q.1 (by decide+kernel)) ?_)
   refine rE (i6 (fun zz=>some []) fun f=>if_pos rfl) ?_
   refine Eq.trans ?_ (lX h 0 nm fun zz=>some [])
   cases ib (bA (cF s 0) nm)<;>rfl
  ·have h3:k=ofString "type" :=(hk.resolve_left h1).resolve_left h2
   subst h3
   refine rE (if_neg h2) ?_
   have e2:bA (cF s 2) nm=bn T [ofString "type",nm]:=iz h 2 nm
   dsimp only
   refine rE e2 ?_
   simp only[wQ h]
   refine bD (b:=(bn T [ofString "type",nm]).isSome) (fun q=>?_) fun q=>?_
   ·skip
    refine rE (show gT T (ofString "type") nm=ofString "type"from if_neg fun w=>by rw[q]at w;exact tF w.2) ?_
    refine rE (i6 (fun f=>bt (dH T aq f) sb) fun f=>if_neg h2) ?_
    exact lX h 2 nm fun f=>bt (dH T aq f) sb
   ·skip
    refine rE (show gT T (ofString "type") nm=ofString "class"from if_pos ⟨rfl,q⟩) ?_
    refine rE (i6 (fun f=>bt (dH T aq f) sb) fun f=>if_neg (by decide+kernel)) ?_
    exact lX h 3 nm fun f=>bt (dH T aq f) sb
end
end
theorem nN{α τ:Type}{f:τ→α→Option τ}:∀{a b:List α} {T:τ},bU f T (a++b)=(bU f T a).bind fun T'=>bU f T' b
 |[],b,T=>rfl
 |x::a,b,T=>by
  refine(?_:(f T x).bind _=((f T x).bind _).bind _)
  cases f T x with
  |none=>rfl
  |some T1=>exact nN (a:=a)
theorem nL{S:Fin 4→dg}{g:cC→Option (List ag)}:∀{ts:List cC} {T:Fin 4→List (Str×Str)},(∀t∈ts,eD L S P t=g t)→bU (cj L S P) T ts=(bX g ts).bind (bU dw T)
 |[],T,_=>rfl
 |t::ts,T,h=>by
  refine(?_:(cj L S P T t).bind _=((g t).bind fun a=>(bX g ts).map (a++·)).bind _)
  delta cj
  refine rE (h t (.head _)) ?_
  cases g t with
  |none=>rfl
  |some a=>
   refine(?_:(bU dw T a).bind _=((bX g ts).map (a++·)).bind _)
   have ih:∀T,bU (cj L S P) T ts=(bX g ts).bind (bU dw T):=fun T=>nL fun t ht=>h t (.tail _ ht)
   refine(show _=(bU dw T a).bind fun T'=>(bX g ts).bind (bU dw T')from congrArg _ (funext ih)).trans ?_
   cases bX g ts with
   |none=>cases bU dw T a<;>rfl
   |some b=>exact nN.symm
structure f9(T:Fin 4→List (Str×Str))(l:List ag):Prop where
 look:∀k x f,bR (T k) x=some f↔(aE k,x,f)∈l
 nd:∀k,((T k).map (·.1)).Nodup
theorem uL(l:List (Str×Str))(k v:Str)(h:(l.map (·.1)).Nodup):((jS l k v).map (·.1)).Nodup:=by
 delta jS
 split
 ·refine rE List.map_map ?_
  have:(l.map ((·.1)∘fun x=>if x.1=k then(x.1,v)else x))=l.map (·.1):=List.map_congr_left fun x zz=>by
   refine(?_:(if x.1=k then(x.1,v)else x).1=x.1)
   split<;>rfl
  exact rE this h
 ·rename_i q
  refine rE List.map_append (rE (propext List.nodup_append) ?_)
  refine(dx h (by simp) (fun a ha b hb e=>q ?_))
  rw[List.mem_singleton.mp hb]at e
  refine aF (List.mem_map.mp ha) fun x hx q2=>?_;subst q2
  exact List.any_eq_true.mpr (aP x hx (decide_eq_true e))
theorem f9.nil:f9 (fun zz=>[]) []:=⟨fun k x f=>⟨fun h=>(by exact nS h),fun h=>(by exact nM h)⟩,fun zz=>List.nodup_nil⟩
theorem f9.step{t:ag}(h:f9 T l)(ht:zU t)(he:(bR (T (aO t.1)) t.2.1).getD t.2.2=t.2.2):f9 (oy T (aO t.1) (jS (T (aO t.1)) t.2.1 t.2.2)) (l++[t]):=by
 refine⟨fun k x f=>?_,fun k=>?_⟩
 ·have hm:(aE k,x,f)∈l++[t]↔(aE k,x,f)∈l∨(k=aO t.1∧x=t.2.1∧f=t.2.2):=by
   refine rE (propext List.mem_append) (rE (propext List.mem_singleton) ?_)
   refine or_congr_right ⟨fun e=>⟨by exact rF e (rE (cX _) rfl),congrArg (fun t:ag=>t.2.1) e,congrArg (fun t:ag=>t.2.2) e⟩,fun w0=>dF w0 fun e1 e2 e3=>?_⟩
   rw[e1,e2,e3,ht]
  refine rE (propext hm) ?_
  delta oy
  by_cases hk:k=aO t.1
  ·refine rE (if_pos hk) ?_
   subst hk
   have e:bR (jS (T (aO t.1)) t.2.1 t.2.2) x=if x=t.2.1 then some t.2.2 else bR (T (aO t.1)) x:=ma (T (aO t.1)) t.2.1 x t.2.2
   refine rE e ?_
   by_cases hx:x=t.2.1
   ·subst hx
    refine rE (if_pos rfl) ?_
    refine⟨fun q=> .inr (dx rfl rfl ((Option.some.inj q).symm)),fun q=>?_⟩
    rcases q with q|q
    ·rw[(h.look _ _ _).mpr q]at he
     exact congrArg some he.symm
    ·exact congrArg some q.2.2.symm
   ·refine rE (if_neg hx) (rE (propext (h.look _ _ _)) ?_)
    exact⟨.inl,fun q=>q.elim id fun q=>absurd q.2.1 hx⟩
  ·refine rE (if_neg hk) (rE (propext (h.look _ _ _)) ?_)
   exact⟨.inl,fun q=>q.elim id fun q=>absurd q.1 hk⟩
 ·delta oy
  split
  ·exact uL _ _ _ (h.nd _)
  ·exact h.nd k
theorem xl{a b:ag}(ha:a∈l)(hb:b∈l)(h1:a.1=b.1)(h2:a.2.1=b.2.1)(h3:a.2.2≠b.2.2):ev l=true:=by
 delta ev
 refine List.any_eq_true.mpr (aP a ha (List.any_eq_true.mpr (aP b hb ?_)))
 simp[h1,h2,h3]
theorem qL:∀{l pre:List ag} {T:Fin 4→List (Str×Str)},f9 T pre→(∀t∈l,zU t)→(∃T',bU dw T l=some T'∧f9 T' (pre++l))∨(bU dw T l=none∧ev (pre++l)=true)
 |[],pre,T,h,_=> .inl (aP T rfl (by exact rE (List.append_nil _) h))
 |t::l,pre,T,h,hk=>by
  have ht:=hk t (.head _)
  by_cases he:(bR (T (aO t.1)) t.2.1).getD t.2.2=t.2.2
  ·have:=qL (l:=l) (h.step ht he) fun t ht=>hk t (.tail _ ht)
   rw[List.append_assoc]at this
   have e:bU dw T (t::l)=bU dw (oy T (aO t.1) (jS (T (aO t.1)) t.2.1 t.2.2)) l:=by
    refine(?_:(dw T t).bind _=_)
    exact rE (show dw T t=some _ from if_pos he) rfl
   exact rE e this
  ·refine .inr ⟨?_,?_⟩
   ·refine(?_:(dw T t).bind _=_)
    exact rE (show dw T t=none from if_neg he) rfl
   ·refine oC (o:=bR (T (aO t.1)) t.2.1) (fun q=>?_) fun f q=>?_
    ·rw[q]at he;exact absurd rfl he
    ·skip
     rw[q]at he
     have:=(h.look _ _ _).mp q
     rw[ht]at this
     exact xl (List.mem_append_left _ this) (List.mem_append_right _ (.head _)) rfl rfl he
theorem f9.E7(h:f9 T l)(hk:∀t∈l,zU t):ev l=false:=by
 cases q:ev l with
 |false=>rfl
 |true=>
  delta ev at q
  refine aF (List.any_eq_true.mp q) fun a ha q=>?_
  refine aF (List.any_eq_true.mp q) fun b hb q=>?_
  simp only[Bool.and_eq_true,decide_eq_true_eq,Bool.not_eq_true',decide_eq_false_iff_not]at q
  refine xA q fun e n=>?_;clear q
  have e1:=congrArg Prod.fst e
  have e2:=congrArg Prod.snd e
  dsimp only at e1 e2
  have ka:=hk a ha
  have kb:=hk b hb
  have la:=(h.look (aO a.1) a.2.1 a.2.2).mpr (by rw[ka];exact ha)
  have lb:=(h.look (aO b.1) b.2.1 b.2.2).mpr (by rw[kb];exact hb)
  rw[←e1,←e2,la]at lb
  exact absurd (Option.some.inj lb) n
section
theorem jN(T:Fin 4→List (Str×Str)):aJ T=([0,1,2,3]:List (Fin 4)).flatMap fun j=>cA (aE j) (T j):=by
 delta aJ
 simp only[List.flatMap_cons,List.flatMap_nil,List.append_nil,List.append_assoc]
 rfl
theorem cO{k:Str}{l:List (Str×Str)}{t:ag}:t∈cA k l↔t.1=k∧bR l t.2.1=some t.2.2:=by
 delta cA
 refine rE (propext List.mem_map) ?_
 constructor
 ·rintro⟨x,hx,rfl⟩
  refine xE (qE (jY.mp hx)) fun f hf=>?_
  exact⟨rfl,by exact rE hf rfl⟩
 ·rintro⟨h1,h2⟩
  refine(aP t.2.1 (jY.mpr ?_) (by exact rE h2 (Prod.ext h1.symm rfl)))
  delta bR at h2
  refine aF (Option.map_eq_some_iff.mp h2) fun y hy zz=>?_
  have:y.1=t.2.1:=by simpa using List.find?_some hy
  exact this▸List.mem_map_of_mem (List.mem_of_find?_eq_some hy)
theorem gG{t:ag}:t∈aJ T↔zU t∧bR (T (aO t.1)) t.2.1=some t.2.2:=by
 refine rE (jN _) (rE (propext List.mem_flatMap) ?_)
 constructor
 ·rintro⟨j,_,h⟩
  refine xA (cO.mp h) fun h1 h2=>?_
  have e:aO t.1=j:=by exact rE h1 (rE (cX _) rfl)
  exact⟨by refine(?_:aE (aO t.1)=t.1);exact rE e (rE h1 rfl),by exact rE e h2⟩
 ·rintro⟨h1,h2⟩
  exact(aP (aO t.1) (cg (P:=fun j=>j∈([0,1,2,3]:List (Fin 4))) (by simp) (by simp) (by simp) (by simp) _) (cO.mpr ⟨h1.symm,h2⟩))
theorem lJ(h:f9 T l)(hk:∀t∈l,zU t){t:ag}:t∈aJ T↔t∈l:=by
 refine rE (propext gG) (rE (propext (h.look _ _ _)) ?_)
 exact⟨fun w0=>xA w0 fun h1 h2=>by rw[h1]at h2;exact h2,fun h=>⟨hk t h,by rw[hk t h];exact h⟩⟩
theorem vM{l:List Str}(h:l.Nodup):(m7 l).Nodup:=by
 have h1:(ei (l.map D.str)).Nodup:=(cB _).nodup_iff.mpr (List.Pairwise.map _ (fun a b hab q=>hab (D.str.inj q)) h)
 rw[d9]at h1
 exact List.Pairwise.of_map _ (fun a b hab q=>hab (congrArg _ q)) h1
theorem mY{k:Str}{l:List (Str×Str)}(h:(l.map (·.1)).Nodup):(cA k l).Nodup:=
 List.Pairwise.map _ (fun a b hab q=>hab (congrArg (fun t:ag=>t.2.1) q)) (vM h)
theorem mV(h:∀k,((T k).map (·.1)).Nodup):(aJ T).Nodup:=by
 refine rE (jN _) ?_
 refine List.pairwise_flatMap.mpr ⟨fun j zz=>mY (h j),?_⟩
 have:([0,1,2,3]:List (Fin 4)).Nodup:=by decide
 refine List.Pairwise.imp_of_mem (fun{a b} _ _ hab=>?_) this
 intro t ha u hb e
 exact hab (by exact rF (cX a) (rF (cX b) (rF ((cO.mp ha).1) (rF ((cO.mp hb).1) (rE e rfl)))))
theorem yH{a b:ag}(h:lO (bb a)=lO (bb b)):a=b:=by
 have h:[a.1.cps.toList,a.2.1.cps.toList,a.2.2.cps.toList]=[b.1.cps.toList,b.2.1.cps.toList,b.2.2.cps.toList]:=h
 simp only[List.cons.injEq,and_true]at h
 exact Prod.ext (jK h.1) (Prod.ext (jK h.2.1) (jK h.2.2))
theorem wO(h:l.Nodup):((l.map bb).map lO).Nodup:=by
 refine rE List.map_map ?_
 exact List.Pairwise.map _ (fun a b hab q=>hab (yH q)) h
theorem ur{m:List ag}(h1:l.Nodup)(h2:m.Nodup)(h:∀t,t∈l↔t∈m):ei (l.map bb)=ei (m.map bb):=
 qd (wO h1) (((List.perm_ext_iff_of_nodup h1 h2).mpr h).map _)
theorem lH{α:Type}{l m:List α}(h:l.Nodup)(hs:∀x∈l,x∈m):l.length≤m.length:=h.length_le_of_subset fun zz=>hs _
theorem li(h:f9 T l)(hi:∀t∈l,t∈c6):(aJ T).length≤18∧∀k,(T k).length≤18:=by
 have hz:c6.length=18:=by decide+kernel
 have h1:(aJ T).length≤18:=by
  refine rF hz ?_
  exact lH (mV h.nd) fun t ht=>hi t ((lJ h (fun t ht=>iB t (hi t ht))).mp ht)
 refine⟨h1,fun k=>Nat.le_trans ?_ h1⟩
 have e:∀j,(cA (aE j) (T j)).length≤(aJ T).length:=fun j=>by
  delta aJ
  simp only[List.length_append]
  exact cg (P:=fun j=>(cA (aE j) (T j)).length≤_) (by refine(?_:(cA (ofString "value") (T 0)).length≤_);lia) (by refine(?_:(cA (ofString "constructor") (T 1)).length≤_);lia) (by refine(?_:(cA (ofString "type") (T 2)).length≤_);lia) (by refine(?_:(cA (ofString "class") (T 3)).length≤_);lia) j
 have:=e k
 rw[dm]at this
 exact this
end
section
noncomputable def rX(T:Fin 4→List (Str×Str))(nm:Str)(j:Fin 4):List ag:=match bR (T j) nm with
 |some f=>[(aE j,nm,f)]
 |none=>[]
theorem kJ{α:Type}[DecidableEq α]{p:α→Bool}{a:α}:∀{L:List α},L.Nodup→a∈L→(∀t∈L,p t=true↔t=a)→L.filter p=[a]
 |[],_,h,_=>by exact nM h
 |x::L,nd,h,hp=>by
  rw[List.nodup_cons]at nd
  refine rE List.filter_cons ?_
  by_cases hx:x=a
  ·rw[if_pos ((hp x (.head _)).mpr hx),hx,List.filter_eq_nil_iff.mpr]
   intro t ht q
   have:=(hp t (.tail _ ht)).mp q
   subst this hx
   exact nd.1 ht
  ·refine rE (if_neg fun q=>hx ((hp x (.head _)).mp q)) ?_
   refine kJ nd.2 ?_ fun t ht=>hp t (.tail _ ht)
   rcases List.mem_cons.mp h with q|q
   ·exact absurd q.symm hx
   ·exact q
theorem pY(h:∀k,((T k).map (·.1)).Nodup)(j:Fin 4):(cA (aE j) (T j)).filter (fun t=>decide (t.2.1=nm))=rX T nm j:=by
 delta rX
 refine oD (o:=bR (T j) nm) (fun e=>?_) fun f e=>?_
 ·skip
  refine List.filter_eq_nil_iff.mpr fun t ht q=>?_
  have:=(cO.mp ht).2
  rw[of_decide_eq_true q,e]at this;exact nS this
 ·skip
  refine kJ (mY (h j)) (cO.mpr ⟨rfl,e⟩) fun t ht=>?_
  refine xA (cO.mp ht) fun h1 h2=>?_
  refine⟨fun q=>?_,fun q=>by exact rE q (decide_eq_true rfl)⟩
  have q:=of_decide_eq_true q
  rw[q,e]at h2
  exact Prod.ext h1 (Prod.ext q (Option.some.inj h2).symm)
theorem mh(h:∀k,((T k).map (·.1)).Nodup)(c:Str→Bool):(aJ T).filter (fun t=>c t.1&&decide (t.2.1=nm))=([0,1,2,3]:List (Fin 4)).flatMap fun j=>if c (aE j)=true then rX T nm j else[]:=by
 refine rE (jN _) (rE List.filter_flatMap ?_)
 congr 1
 funext j
 by_cases q:c (aE j)=true
 ·refine rE (if_pos q) (rF (pY h j) ?_)
  exact List.filter_congr fun t ht=>by exact rE ((cO.mp ht).1) (rE q rfl)
 ·rw[if_neg q]
  exact List.filter_eq_nil_iff.mpr fun t ht w=>by rw[(cO.mp ht).1]at w;simp[q]at w
theorem w9(h:∀k,((T k).map (·.1)).Nodup):(aJ T).filter (tI (ofString "value") nm)=gY T nm:=by
 refine(mh h fun k=>decide (k=ofString "value")).trans ?_
 simp only[List.flatMap_cons,List.flatMap_nil]
 rw[if_pos (by decide+kernel),if_neg (by decide+kernel),if_neg (by decide+kernel),if_neg (by decide+kernel)]
 simp only[List.append_nil]
 rfl
theorem nO(h:∀k,((T k).map (·.1)).Nodup):(aJ T).filter (tI (ofString "constructor") nm)=ch T nm:=by
 refine(mh h fun k=>decide (k=ofString "constructor")).trans ?_
 simp only[List.flatMap_cons,List.flatMap_nil]
 rw[if_neg (by decide+kernel),if_pos (by decide+kernel),if_neg (by decide+kernel),if_neg (by decide+kernel)]
 simp only[List.append_nil,List.nil_append]
 rfl
theorem yR(h:∀k,((T k).map (·.1)).Nodup):(aJ T).filter (mM nm)=rX T nm 2++rX T nm 3:=by
 refine(mh h fun k=>decide (k=ofString "type")||decide (k=ofString "class")).trans ?_
 simp only[List.flatMap_cons,List.flatMap_nil]
 rw[if_neg (by decide+kernel),if_neg (by decide+kernel),if_pos (by decide+kernel),if_pos (by decide+kernel)]
 simp only[List.append_nil,List.nil_append]
theorem wP(full:Str):((aI aq full).getD []).filter (fun t=>decide (t∈aJ T))=eq T aq full:=by
 delta eq
 refine List.filter_congr fun t ht=>?_
 have hk:zU t:=by
  refine oC (o:=aI aq full) (fun q=>?_) fun l q=>?_
  ·rw[q]at ht;exact nM ht
  ·rw[q]at ht;exact iB t ((eV q).2 t ht)
 delta nK
 exact decide_eq_decide.mpr (gG.trans ⟨fun h=>h.2,fun h=>⟨hk,h⟩⟩)
theorem qK(sb:gd)(j:Fin 4):bX (eH (aJ T) aq sb) (rX T nm j)=cR T aq sb nm (aE j):=by
 delta rX cR
 refine rE (cX _) ?_
 cases bR (T j) nm with
 |none=>rfl
 |some f=>
  refine(?_:Option.bind (eH _ _ _ _) (fun a=>Option.map _ (some []))=_)
  refine(?_:Option.bind _ _=Option.map ((aE j,nm,f)::·) (bt (eq T aq f) sb))
  delta eH
  refine rE (wP _) ?_
  cases bt (eq T aq f) sb with
  |none=>rfl
  |some r=>show some (_::r++[])=_;exact rE (List.append_nil _) rfl
theorem wI(h:∀k,((T k).map (·.1)).Nodup)(hid:Bool){t:cC}(hk:t.1=ofString "value"∨t.1=ofString "type"):eU T aq hid t.1 t.2.1 t.2.2=eG (aJ T) aq hid t:=by
 obtain⟨k,nm,sb⟩:=t
 have hct:(aJ T).filter (fun x=>hid&&tI (ofString "constructor") nm x)=if hid=true then ch T nm else[]:=by
  cases hid with
  |true=>exact nO h
  |false=>exact List.filter_eq_nil_iff.mpr fun t ht q=>by exact fT q
 delta eU eG ig
 dsimp only
 by_cases hv:k=ofString "value"
 ·exact rE (if_pos hv) (rE (if_pos hv) (rE (w9 h) (rE hct rfl)))
 ·have hv2:k=ofString "type" :=hk.resolve_left hv
  refine rE (if_neg hv) (rE (if_neg hv) (rE (yR h) (rE eY (rE (qK _ _) (rE (qK _ _) ?_)))))
  have htl:eZ (aJ T) hid nm sb=if(hid&&lR sb)=true then ch T nm else[]:=by
   delta eZ
   cases sb with
   |none=>refine rE (nO h) ?_;cases hid<;>rfl
   |all=>cases hid<;>rfl
   |some l=>cases hid<;>rfl
  refine rE htl ?_
  refine(?_:Option.bind (cR T aq sb nm (aE 2)) _=_)
  cases cR T aq sb nm (aE 2)with
  |none=>rfl
  |some a=>
   refine(?_:Option.bind (cR T aq sb nm (aE 3)) _=_)
   cases cR T aq sb nm (aE 3)with
   |none=>rfl
   |some b=>rfl
theorem jb{α:Type}{f g:α→Option (List ag)}:∀{l:List α},(∀x∈l,f x=g x)→bX f l=bX g l
 |[],_=>rfl
 |x::l,h=>by
  refine(?_:(f x).bind _=(g x).bind _)
  exact rE (h x (.head _)) (rE (jb fun y hy=>h y (.tail _ hy)) rfl)
theorem qI(h:∀k,((T k).map (·.1)).Nodup)(hid:Bool){ts:List cC}(hk:∀t∈ts,t.1=ofString "value"∨t.1=ofString "type"):gl T aq hid (some ts)=nE (aJ T) aq hid ts:=by
 refine(?_:Option.map _ (bX _ ts)=Option.map _ (bX _ ts))
 exact rE (jb fun t ht=>wI h hid (hk t ht)) rfl
end
theorem yC{K:Type}[DecidableEq K]{kvs:List (K×D)}{k:K}{x:K}:x∈(put kvs k d).map (·.1)↔x=k∨x∈kvs.map (·.1):=by
 delta put
 split
 ·rename_i q
  have e:(kvs.map fun kv=>if kv.1=k then(kv.1,d)else kv).map (·.1)=kvs.map (·.1):=by
   refine rE List.map_map ?_
   exact List.map_congr_left fun x zz=>by
    refine(?_:(if x.1=k then(x.1,d)else x).1=x.1)
    split<;>rfl
  refine rE e ?_
  refine⟨.inr,fun w=>w.elim (fun w=>?_) id⟩
  refine aF (List.any_eq_true.mp q) fun y hy q=>?_
  exact List.mem_map.mpr (aP y hy ((of_decide_eq_true q).trans w.symm))
 ·refine rE List.map_append (rE (propext List.mem_append) ?_)
  exact⟨fun w=>w.elim .inr fun w=> .inl (List.mem_singleton.mp w),fun w=>w.elim (fun w=> .inr (List.mem_singleton.mpr w)) .inl⟩
theorem wH{K:Type}[DecidableEq K]{kvs:List (K×D)}{k:K}(h:(kvs.map (·.1)).Nodup):((put kvs k d).map (·.1)).Nodup:=by
 delta put
 split
 ·have e:(kvs.map fun kv=>if kv.1=k then(kv.1,d)else kv).map (·.1)=kvs.map (·.1):=by
   refine rE List.map_map ?_
   exact List.map_congr_left fun x zz=>by
    refine(?_:(if x.1=k then(x.1,d)else x).1=x.1)
    split<;>rfl
  exact rE e h
 ·rename_i q
  refine rE List.map_append (rE (propext List.nodup_append) ?_)
  refine(dx h (by simp) (fun a ha b hb e=>q ?_))
  refine aF (List.mem_map.mp ha) fun x hx q2=>?_;subst q2
  exact List.any_eq_true.mpr (aP x hx (decide_eq_true (e.trans (List.mem_singleton.mp hb))))
noncomputable abbrev yJ(t:ag):List Str:=[t.1,t.2.1,t.2.2]
noncomputable def mP(acc:List (List Str×D))(l:List ag):List (List Str×D):=l.foldl (fun acc t=>put acc (yJ t) (.bool true)) acc
theorem qO:∀(l:List ag) (acc:List (List Str×D)),l8 (.dT acc) (l.map fun t=> .tup [bb t,.bool true])=some (.dT (mP acc l))
 |[],_=>rfl
 |t::l,acc=>qO l _
theorem xg:∀(l:List ag) (acc:List (List Str×D)),(acc.map (·.1)).Nodup→((mP acc l).map (·.1)).Nodup
 |[],_,h=>h
 |t::l,acc,h=>xg l _ (wH h)
theorem pM{k:List Str}:∀(l:List ag) (acc:List (List Str×D)),k∈(mP acc l).map (·.1)↔k∈acc.map (·.1)∨∃t∈l,k=yJ t
 |[],acc=>⟨.inl,fun h=>h.elim id fun w0=>aF w0 fun zz h zz=>by exact nM h⟩
 |t::l,acc=>by
  refine(pM l _).trans ?_
  refine rE (propext yC) ?_
  constructor
  ·rintro((h|h)|⟨u,hu,e⟩)
   ·exact .inr (aP t (.head _) h)
   ·exact .inl h
   ·exact .inr (aP u (.tail _ hu) e)
  ·rintro(h|⟨u,hu,e⟩)
   ·exact .inl (.inr h)
   ·rcases List.mem_cons.mp hu with rfl|hu
    ·exact .inl (.inl e)
    ·exact .inr (aP u hu e)
noncomputable def vF:List Str→ag
 |[a,b,c]=>(a,b,c)
 |_=>(Str.empty,Str.empty,Str.empty)
theorem xh(l:List ag):∃m:List ag,(mP [] l).map (fun kv=>D.tup (kv.1.map .str))=m.map bb∧m.Nodup∧(∀t,t∈m↔t∈l)∧(mP [] l).length=m.length:=by
 have hk:∀k∈(mP [] l).map (·.1),∃t∈l,k=yJ t:=fun k h=>((pM l []).mp h).elim (fun h=>by exact nM h) id
 refine(lV ((mP [] l).map fun kv=>vF kv.1) ?_ ?_ (fun t=>?_) (by exact rE (List.length_map _) rfl))
 ·refine rE List.map_map ?_
  refine List.map_congr_left fun kv hkv=>?_
  refine aF (hk kv.1 (List.mem_map_of_mem hkv)) fun t zz e=>?_
  refine(?_:D.tup (kv.1.map .str)=bb (vF kv.1))
  exact rE e rfl
 ·have h:=xg l [] List.nodup_nil
  have h2:(((mP [] l).map (·.1)).map vF).Nodup:=by
   refine List.pairwise_map.mpr (List.Pairwise.imp_of_mem (fun{a b} ha hb hab q=>hab ?_) h)
   refine aF (hk a ha) fun t zz e1=>?_
   refine aF (hk b hb) fun u zz e2=>?_
   rw[e1,e2]at q⊢
   have q:t=u:=q
   exact rE q rfl
  rw[List.map_map]at h2
  exact h2
 ·refine rE (propext List.mem_map) ?_
  constructor
  ·rintro⟨kv,hkv,rfl⟩
   refine aF (hk kv.1 (List.mem_map_of_mem hkv)) fun t ht e=>?_
   exact rE e ht
  ·intro ht
   refine aF (List.mem_map.mp ((pM (k:=yJ t) l []).mpr (.inr (aP t ht rfl)))) fun kv hkv e=>?_
   exact(aP kv hkv (by exact rE e rfl))
theorem kc(F:List (Str×D)):∀(l:List ag) (acc:List (Str×D)),l8 (.dS acc) (l.filterMap fun t=>(look F t.2.2).map fun d=> .tup [.str t.2.2,d])=some (.dS (l.foldl (cM F) acc))
 |[],_=>rfl
 |t::l,acc=>by
  refine rE List.filterMap_cons ?_
  refine(?_:_=some (AO.dS (l.foldl (cM F) (cM F acc t))))
  delta cM
  refine oD (o:=look F t.2.2) (fun e=>?_) fun d e=>?_
  ·exact kc F l acc
  ·exact kc F l (put acc t.2.2 d)
theorem pj(F:List (Str×D)):∀(l:List ag) (acc:List (Str×D)),(acc.map (·.1)).Nodup→((l.foldl (cM F) acc).map (·.1)).Nodup
 |[],_,h=>h
 |t::l,acc,h=>pj F l _ (by delta cM;split<;>first|exact wH h|exact h)
theorem pi{Q:D→Prop}(hF:∀k d,look F k=some d→Q d):∀(l:List ag) (acc:List (Str×D)),(∀kv∈acc,Q kv.2)→∀kv∈l.foldl (cM F) acc,Q kv.2
 |[],_,h=>h
 |t::l,acc,h=>pi hF l _ (by
  delta cM
  split
  ·rename_i e;exact th h (hF _ _ e)
  ·exact h)
section
noncomputable def fH:List ag:=a8.map fun x=>(x.1,x.2,ofString "M." ++x.2)
noncomputable def je:List Str:=(dP.flatMap fun i=>[ay i,i.2.2])++[ofString "M",ofString "N.P",ofString "Q"]
theorem jy:∀x∈je,x.length≤20∧(bN 10 x).isSome=true∧(bZ x).length≤20∧(Txt.charAt x (-1)).isSome=true:=by decide+kernel
theorem jT:(∀t∈fH,t∈c6)∧ev fH=false∧fH.length=9:=by decide+kernel
theorem yW:∀k:Fin 4,∀x∈je,(mw dP k x).length≤2:=by decide+kernel
theorem tZ(q:Str):(nY dP q).length≤18:=Nat.le_trans (List.length_filterMap_le _ _) (by decide+kernel)
theorem AW(k:Fin 4)(x:Str):(mw dP k x).length≤18:=Nat.le_trans (List.length_filterMap_le _ _) (by decide+kernel)
theorem wW:∀t∈c6,(t.1=ofString "type"∨t.1=ofString "class")→(aI aq t.2.2).isSome=true:=by decide+kernel
theorem t9{q:Str}:∀t∈nY dP q,t∈c6:=fun t ht=>by
 refine aF (List.mem_filterMap.mp ht) fun i hi e=>?_
 split at e
 ·(replace e:=sI e;subst e);exact List.mem_map_of_mem (f:=wU) hi
 ·exact nS e
theorem yX(k:Fin 4)(x:Str):(mw dP k x).Nodup:=by
 delta mw
 have h:=lZ
 refine List.Pairwise.filterMap (il k x) (fun a b hab u hu v hv e=>?_) (List.pairwise_map.mp h)
 have g:∀{i u},il k x i=some u→ay i=u:=fun{i u} q=>by
  delta il at q
  split at q
  ·exact Option.some.inj q
  ·exact nS q
 exact hab ((g hu).trans (e.trans (g hv).symm))
section
variable{s:SS}{T:cU}
theorem BH(h:cD dP s T LL){k:Fin 4}(hx:x∈s.ks k):x∈je:=by
 refine cz (h.kn k x hx) fun i hi zz e=>?_
 exact List.mem_append_left _ (List.mem_flatMap.mpr (aP i hi (by rcases e with rfl|rfl<;>simp)))
theorem yF(h:cD dP s T LL):∀x∈fL s,x.2.length≤1000∧∀t∈x.2,t.2.1.length≤1000:=fun x hx=>by
 refine aF (List.mem_map.mp hx) fun q zz q2=>?_;subst q2
 have:=h.Ej q
 exact⟨Nat.le_trans this.length_le (Nat.le_trans (tZ q) (by decide)),fun t ht=>Nat.le_trans (pk t (t9 t (this.subset ht))).1 (by decide)⟩
theorem sZ(h:cD dP s T LL)(k:Fin 4):(cF s k).length≤1000∧∀x∈cF s k,x.2.length≤2∧x.2.Nodup∧∀y∈x.2,y.length≤1000:=by
 refine⟨by delta cF;refine rE (List.length_map _) ?_;exact Nat.le_trans (h.zk k) (by decide+kernel),fun x hx=>?_⟩
 refine aF (List.mem_map.mp hx) fun q hq q2=>?_;subst q2
 have:=h.sub k q
 refine(dx (Nat.le_trans this.length_le (yW k q (BH h hq))) ((yX k q).sublist this) (fun y hy=>?_))
 refine aF (List.mem_filterMap.mp (this.subset hy)) fun i hi e=>?_
 have e:ay i=y:=by
  unfold il at e
  split at e
  ·exact Option.some.inj e
  ·exact nS e
 refine rF e ?_
 exact Nat.le_trans (iC i hi).2.2.2.2 (by decide)
theorem Bg(h:cD dP s T LL)(k:List Str):((bn T k).getD []).length≤18:=by
 refine oD (o:=bn T k) (fun e=>?_) fun l e=>?_
 ·exact Nat.zero_le _
 ·skip
  refine aF (nD e) fun y hy hk=>?_
  refine jm (h.k.tc y hy) fun k' x hk'=>?_
  have h1:=h.k.tf k' x
  rw[←hk',hk,e]at h1
  have h1:s.fl k' x=l:=h1
  refine(?_:l.length≤18)
  refine rF h1 ?_
  exact Nat.le_trans (h.sub k' x).length_le (AW _ _)
theorem vK(hk:known.length≤2)(hs:∀l,sb= .some l→l.length≤2)(h:bt known sb=some r):r.length≤4:=by
 cases sb with
 |none=>(replace h:=sI h;subst h);exact Nat.zero_le _
 |all=>(replace h:=sI h;subst h);exact Nat.le_trans hk (by decide)
 |some l=>exact Nat.le_trans (hU h) (Nat.mul_le_mul hk (hs l rfl))
theorem kQ(f:Str):((aI aq f).getD []).length≤2:=by
 refine oD (o:=aI aq f) (fun e=>?_) fun l e=>?_
 ·exact Nat.zero_le _
 ·exact(eV e).1
theorem rV(h:cD dP s T LL){t:cC}(hk:mU t.1)(e:ci T LL aq t=some r):(∀x∈r,x∈c6)∧((∀l,t.2.2= .some l→l.length≤2)→r.length≤100):=by
 obtain⟨k,nm,sb⟩:=t
 delta ci at e
 dsimp only at e hk⊢
 split at e
 ·have h1:=h.lf nm
  rw[e]at h1
  have h1:s.lf nm=r:=h1
  have:=h.Ej nm
  rw[h1]at this
  exact⟨fun x hx=>t9 x (this.subset hx),fun zz=>Nat.le_trans this.length_le (Nat.le_trans (tZ nm) (by decide))⟩
 ·rename_i hm
  have hkk:∃j:Fin 4,gT T k nm=aE j:=by
   delta gT
   split
   ·exact(iE 3 rfl)
   ·rcases hk with q|q|q
    ·exact absurd q hm
    ·exact(iE 0 q)
    ·exact(iE 2 q)
  refine xE hkk fun j hj=>?_;clear hkk
  rw[hj]at e
  delta gF at e
  refine oC (o:=bn T [aE j,nm]) (fun q=>?_) fun l q=>?_
  ·rw[q]at e;exact nS e
  ·skip
   rw[q]at e
   match l,e with
   |[f],e=>
    have e:Option.map _ (if aE j=ofString "value"then some []else bt (dH T aq f) sb)=some r:=e
    refine aF (Option.map_eq_some_iff.mp e) fun r' hr q2=>?_;subst q2
    refine mR (tN h q (.head _)) fun i hi e1 zz q4=>?_;subst q4
    have e2:=(iC i hi).1
    have hd:(aE j,eK (ay i),ay i)∈c6:=by
     have:(aE j,eK (ay i),ay i)=wU i:=by exact rE ((nZ i hi).1) (rF e1 (rE e2 rfl))
     exact rE this (List.mem_map_of_mem hi)
    have hkn:(dH T aq (ay i)).length≤2:=Nat.le_trans (List.length_filter_le _ _) (kQ _)
    refine⟨fun x hx=>?_,fun hs=>?_⟩
    ·rcases List.mem_cons.mp hx with rfl|hx
     ·exact hd
     ·split at hr
      ·(replace hr:=sI hr;subst hr);exact nM hx
      ·have hx:=qC hr x hx
       unfold dH at hx
       have hx:=(List.mem_filter.mp hx).1
       refine oC (o:=aI aq (ay i)) (fun q2=>?_) fun l q2=>?_
       ·rw[q2]at hx;exact nM hx
       ·rw[q2]at hx;exact(eV q2).2 x hx
    ·refine rE List.length_cons ?_
     split at hr
     ·(replace hr:=sI hr;subst hr);decide
     ·have:=vK hkn hs hr;lia
theorem lY{f:cC→Option (List ag)}:∀{ts:List cC} {r:List ag},(∀t∈ts,∀r,f t=some r→∀x∈r,x∈c6)→bX f ts=some r→∀x∈r,x∈c6
 |[],r,_,h,x,hx=>by(replace h:=sI h;subst h);exact nM hx
 |t::ts,r,hf,h,x,hx=>by
  unfold bX at h
  refine aF (Option.bind_eq_some_iff.mp h) fun u hu h=>?_
  refine aF (Option.map_eq_some_iff.mp h) fun v hv q2=>?_;subst q2
  rcases List.mem_append.mp hx with hx|hx
  ·exact hf t (.head _) u hu x hx
  ·exact lY (fun t ht=>hf t (.tail _ ht)) hv x hx
noncomputable def tV(T:cU)(LL:List (Str×List ag)):Option (List cC)→Option (List ag)
 |none=>some fH
 |some ts=>j7 T LL aq ts
theorem lM(h:cD dP s T LL)(hex:∀ts,ex=some ts→∀t∈ts,mU t.1)(hsb:∀ts,ex=some ts→ts.length≤10∧∀t∈ts,∀l,t.2.2= .some l→l.length≤2):
 (eW (fL s) (cF s) aq fH ex=none∧tV T LL ex=none)∨∃T' l,eW (fL s) (cF s) aq fH ex=some T'∧tV T LL ex=some l∧f9 T' l∧(∀t∈l,t∈c6)∧l.length≤1000:=by
 have go:∀l:List ag,(∀t∈l,t∈c6)→(bU dw (fun zz=>[]) l=none∧ev l=true)∨∃T',bU dw (fun zz=>[]) l=some T'∧f9 T' l∧ev l=false:=fun l hl=>by
  have hk:∀t∈l,zU t:=fun t ht=>iB t (hl t ht)
  rcases qL f9.nil hk with⟨T',e,a⟩|⟨e,c⟩
  ·exact .inr (bP T' e a (a.E7 hk))
  ·exact .inl ⟨e,c⟩
 cases ex with
 |none=>
  rcases go fH jT.1 with⟨_,c⟩|⟨T',e,a,c⟩
  ·rw[jT.2.1]at c;exact fT c
  ·exact .inr (dC T' fH e rfl a jT.1 (by refine rE jT.2.2 ?_;decide))
 |some ts=>
  have hex:=hex ts rfl
  have e1:eW (fL s) (cF s) aq fH (some ts)=(bX (ci T LL aq) ts).bind (bU dw fun zz=>[]):=nL fun t ht=>xN h (hex t ht)
  have e2:tV T LL (some ts)=(bX (ci T LL aq) ts).bind fun l=>if ev l=true then none else some l:=rfl
  refine rE e1 (rE e2 ?_)
  refine oD (o:=bX (ci T LL aq) ts) (fun q=>?_) fun l q=>?_
  ·exact .inl ⟨rfl,rfl⟩
  ·skip
   have hl:=lY (fun t ht r e=>(rV h (hex t ht) e).1) q
   rcases go l hl with⟨e,c⟩|⟨T',e,a,c⟩
   ·exact .inl ⟨e,by refine(?_:(if ev l=true then none else some l)=none);exact rE (if_pos c) rfl⟩
   ·refine .inr (dC T' l e (by refine(?_:(if ev l=true then none else some l)=some l);exact rE (if_neg (by exact rE c Bool.false_ne_true)) rfl) a hl ?_)
    have h1:=eX (B:=100) (fun t ht r e=>(rV h (hex t ht) e).2 ((hsb ts rfl).2 t ht)) q
    have:=Nat.le_trans h1 (Nat.mul_le_mul_left 100 (hsb ts rfl).1)
    lia
theorem BN{t:cC}(hH:H.length≤18)(hs:∀l,t.2.2= .some l→l.length≤2)(e:ig H aq hid t=some r):r.length≤2000:=by
 obtain⟨k,nm,sb⟩:=t
 have fl:∀p:ag→Bool,(H.filter p).length≤18:=fun p=>Nat.le_trans (List.length_filter_le _ _) hH
 delta ig at e
 dsimp only at e hs
 split at e
 ·(replace e:=sI e;subst e)
  refine rE List.length_append ?_
  have:=fl (tI (ofString "value") nm)
  have:=fl fun x=>hid&&tI (ofString "constructor") nm x
  lia
 ·refine aF (Option.map_eq_some_iff.mp e) fun u hu q2=>?_;subst q2
  have h1:=eX (B:=5) (fun x zz r q=>by
   refine aF (Option.map_eq_some_iff.mp q) fun v hv q2=>?_;subst q2
   have:=vK (Nat.le_trans (List.length_filter_le _ _) (kQ _)) hs hv
   refine rE List.length_cons ?_;lia) hu
  have h2:=fl (mM nm)
  have h3:(eZ H hid nm sb).length≤18:=by
   delta eZ
   split
   ·split
    ·exact fl _
    ·exact Nat.zero_le _
   ·exact Nat.zero_le _
  refine rE List.length_append ?_
  have:=Nat.le_trans h1 (Nat.mul_le_mul_left 5 h2)
  lia
end
noncomputable def gc(P acc:List (Str×List ag))(t:ag):List (Str×List ag):=match aI P t.2.2 with
 |some l=>hO acc t.2.2 l
 |none=>acc
noncomputable def lQ(P:List (Str×List ag))(l:List ag):List (Str×List ag):=l.foldl (gc P) []
theorem tG(P:List (Str×List ag)):∀(l:List ag) (acc:List (Str×List ag)),l.foldl (cM (av P)) (av acc)=av (l.foldl (gc P) acc)
 |[],_=>rfl
 |t::l,acc=>by
  refine(?_:l.foldl _ (cM (av P) (av acc) t)=av (l.foldl _ (gc P acc t)))
  refine rF (tG P l _) ?_
  congr 1
  delta cM gc
  refine rE (cL _ _) ?_
  cases aI P t.2.2 with
  |none=>rfl
  |some v=>exact i5 acc t.2.2 v
theorem lP(P:List (Str×List ag)){f:Str}:∀(l:List ag) (acc:List (Str×List ag)),(aI acc f=aI P f∨∃t∈l,t.2.2=f)→(aI P f=none→aI acc f=none)→aI (l.foldl (gc P) acc) f=aI P f
 |[],acc,h,_=>h.elim id fun w0=>aF w0 fun zz q zz=>by exact nM q
 |t::l,acc,h,hn=>by
  have step:aI (gc P acc t) f=if t.2.2=f then aI P f else aI acc f:=by
   delta gc
   by_cases e:t.2.2=f
   ·refine rE (if_pos e) (rE e ?_)
    refine oD (o:=aI P f) (fun q=>?_) fun v q=>?_
    ·exact hn q
    ·show aI (hO acc f v) f=_;exact rE (iA _ _ _ _) (rE (if_pos rfl) rfl)
   ·refine rE (if_neg e) ?_
    refine oD (o:=aI P t.2.2) (fun q=>?_) fun v q=>?_
    ·rfl
    ·show aI (hO acc t.2.2 v) f=_;exact rE (iA _ _ _ _) (rE (if_neg fun q=>e q.symm) rfl)
  refine lP P l (gc P acc t) ?_ fun q=>?_
  ·by_cases e:t.2.2=f
   ·exact .inl (by exact rE step (rE (if_pos e) rfl))
   ·rcases h with h|⟨u,hu,hf⟩
    ·exact .inl (by exact rE step (rE (if_neg e) (rE h rfl)))
    ·rcases List.mem_cons.mp hu with rfl|hu
     ·exact absurd hf e
     ·exact .inr (aP u hu hf)
  ·refine rE step ?_
   split
   ·exact q
   ·exact hn q
theorem wk{k:Str}{v:List ag}{Q:List ag→Prop}(h:∀x∈P,Q x.2)(hv:Q v):∀x∈hO P k v,Q x.2:=by
 intro x hx
 delta hO at hx
 split at hx
 ·refine aF (List.mem_map.mp hx) fun y hy q2=>?_;subst q2
  split
  ·exact hv
  ·exact h y hy
 ·rcases List.mem_append.mp hx with q|q
  ·exact h x q
  ·exact rE (List.mem_singleton.mp q) hv
theorem tE:∀(l:List ag) (acc:List (Str×List ag)),(∀x∈acc,x.2.length≤100)→∀x∈l.foldl (gc aq) acc,x.2.length≤100
 |[],_,h=>h
 |t::l,acc,h=>tE l _ (by
  delta gc
  split
  ·rename_i e;exact wk (Q:=fun v=>v.length≤100) h (Nat.le_trans (eV e).1 (by decide))
  ·exact h)
theorem lU{T:Fin 4→List (Str×Str)}(hid:Bool)(nm:Option (List cC)):gl T (lQ aq (aJ T)) hid nm=gl T aq hid nm:=by
 cases nm with
 |none=>rfl
 |some ts=>
  have hk:∀(sb:gd) (nm:Str) (j:Fin 4),cR T (lQ aq (aJ T)) sb nm (aE j)=cR T aq sb nm (aE j):=fun sb nm j=>by
   delta cR
   refine rE (cX _) ?_
   refine oD (o:=bR (T j) nm) (fun e=>?_) fun full e=>?_
   ·rfl
   ·skip
    have hm:(aE j,nm,full)∈aJ T:=gG.mpr ⟨by refine(?_:aE (aO (aE j))=aE j);exact rE (cX _) rfl,by refine(?_:bR (T (aO (aE j))) nm=some full);exact rE (cX _) e⟩
    have:=lP aq (f:=full) (aJ T) [] (.inr (aP _ hm rfl)) fun zz=>rfl
    refine(?_:Option.map _ (bt (eq T _ full) sb)=Option.map _ (bt (eq T _ full) sb))
    delta eq lQ
    exact rE this rfl
  have hn:∀t:cC,eU T (lQ aq (aJ T)) hid t.1 t.2.1 t.2.2=eU T aq hid t.1 t.2.1 t.2.2:=fun t=>by
   have h2:=hk t.2.2 t.2.1 2
   have h3:=hk t.2.2 t.2.1 3
   delta eU
   refine rE (show cR T (lQ aq (aJ T)) t.2.2 t.2.1 (ofString "type")=cR T aq t.2.2 t.2.1 (ofString "type")from h2) ?_
   simp only[show cR T (lQ aq (aJ T)) t.2.2 t.2.1 (ofString "class")=cR T aq t.2.2 t.2.1 (ofString "class")from h3]
  refine(?_:Option.map _ (bX _ ts)=Option.map _ (bX _ ts))
  exact rE (jb fun t zz=>hn t) rfl
end
section
noncomputable abbrev zS:List Str:=[ofString "script",ofString "seed",ofString "table",ofString "lots",ofString "values",ofString "heads",ofString "due",ofString "handed",ofString "fulls",ofString "turn",ofString "names",ofString "is_hiding",ofString "due_here",ofString "made",ofString "node",ofString "own",ofString "parts",ofString "scope",ofString "strong",ofString "told"]
section
variable{X:af→Prop}
theorem AN(p:Pg){w:WS}(hb:tO (dM 41)=body)(hn:(mi (dM 41)).names=nms)
 (hsx:SX ⟨C,n,X,[]⟩ nms zS body w) (hw:w ⟨C,n,X,[]⟩ [some d,none,none,none,none,none,none,none,none,none,none,none,none,none,none,none,none,none,none,none] σ fun fl zz σ'=>Φ fl.val σ'):aL C (n+1) (.ref 437) [d] σ Φ X:=by
 refine xE (p.hK) fun K hK=>?_
 subst hb hn
 intro A s Z vs R hA I S hvs hR hX
 exact jc (C:=C) (n:=n) (X:=X) (sl:=zS) (names:=[ofString "script"]) (ds:=[d]) (es:=[]) (ws:=[]) (Φ:=Φ)
  (by exact rE hK (rfl:(kW K).lookup 437=some (fO (dM 41) (ofString "law") (ofString "law") (Value.none) (Value.str (ofString "law_pq0602_01") 688) (Value.ref 436)))) (by exact rE hK rfl) (by rfl) rfl rfl .nil
  (fun s vs X hl=>gS (P:=fun vs=>BindsTo s _ ⟨vs,[]⟩ (List.zip _ (vs++_))) hl fun a0=>(BindsTo.of_eq rfl)) hA I S hvs
  (fun env s1 E e1 IN hcd hk F mine a1 g1 e1'=>hsx.ok _ _ _ hw ⟨_,env,_,_,_,E⟩ _ _ _ (ge.of e1 F (by decide) fun zz=>⟨hcd.1,hcd.2⟩) ⟨a1,g1,e1'⟩ fun f s' fl ξ' σ' Z' a zz hf q=>(dU fl ξ' σ' Z' a.gs hf q)) hR hX
theorem rP(p:Pg){xs:List D}(hs:gQ σ a)(hi:ξ[i]?=some (some (.ref a)))(h1:Ev ⟨C,n+1,X,ow⟩ wl ξ σ (.lst xs) σ)(h0:0<xs.length)(hz:xs.length≤1000)
 (h:∀x σ',x∈xs→ky σ a σ'→Φ x σ'):lg (ofString "_law_pick") (bM (bW i) (bM wl eS)) ⟨C,n+1,X,ow⟩ ξ σ Φ:=by
 refine bB hs fun u v hu hv ha=>?_;clear hs
 exact(cf (by decide+kernel) (.ref 365) p.DE p.keep (ac (aa hi) (ae h1) _ (lA p hu hv ha h0 hz fun u' v' x h1 h2 hx=>h x _ hx ⟨(bH u' v' h1 h2 (af.CN _ _ _)),fun b hb=>af.CO _ _ hb⟩)))
structure eC(a:Addr)(σ:af):Prop where
 seed:gQ σ a
 tab:iq 434 σ
theorem eC.ext(h:eC a σ)(hs:gQ σ' a)(he:dE [a] σ σ'):eC a σ':=by
 refine bB (h.seed) fun u v zz zz ha=>?_
 have ne:∀b o,σ b=some (.raw o)→σ' b=some (.raw o):=fun b o e=>he b _ (fun q=>by rw[List.mem_singleton.mp q,ha]at e;cases e) e
 refine cz (h.tab) fun ps t1 t2 t3=>?_
 exact⟨hs,ps,ne _ _ t1,t2,fun pos v e=>let⟨b,oc,e1,e2,e3,e4⟩:=t3 pos v e;⟨b,oc,e1,e2,ne _ _ e3,e4⟩⟩
theorem eC.pick(h:eC a σ)(hp:ky σ a σ'):eC a σ':=h.ext hp.1 fun b x n e=>(hp.2 b fun q=>n (by exact rE q (.head _))).trans e
theorem eC.EZ(h:eC a σ)(he:dE [] σ σ'):eC a σ':=by
 refine bB (h.seed) fun u v h1 h2 ha=>?_
 exact h.ext (bH u v h1 h2 (he a _ (fun q=>by exact nM q) ha)) fun b x zz e=>he b x (fun q=>by exact nM q) e
theorem eC.Ew(h:eC a σ)(ht:iq 434 σ')(he:∀b,b≠434→σ b≠none→σ' b=σ b):eC a σ':=by
 refine bB (h.seed) fun u v h1 h2 ha=>?_
 refine aF (h.tab) fun ps t1 zz=>?_
 exact⟨(bH u v h1 h2 ((he a (fun q=>by rw[q,t1]at ha;cases ha) (by exact rE ha (fun q=>by exact sN q))).trans ha)),ht⟩
theorem cK.Ew{A:mE}(h:cK σ A m T fx ps)(ht:iq 434 σ)(he:∀b,b≠434→σ b≠none→σ' b=σ b):cK σ' A m T fx ps:=by
 refine aF ht fun ps t1 zz=>?_;clear ht
 have k:∀{b x},σ b=some x→(∀o,x≠ .raw o)→σ' b=some x:=fun{b x} e n=>(he b (fun q=>by rw[q,t1]at e;exact n _ (Option.some.inj e).symm) (by exact rE e (fun q=>by exact sN q))).trans e
 exact⟨h.nd,k h.a (fun zz q=>by cases q),k h.da (fun zz q=>by cases q),fun i=>k (h.tab i) (fun zz q=>by cases q),k h.f (fun zz q=>by cases q),k h.p (fun zz q=>by cases q)⟩
noncomputable abbrev A4:Option (List cC)→D
 |none=> .none
 |some ts=> .lst (ts.map dl)
noncomputable def eh(T:cU)(c:Str→Bool):List Str:=(T.filter fun e=>c (e.1.headD (ofString ""))).map fun e=>e.1.getD 1 (ofString "")
theorem qa{s:SS}{T:cU}(h:cD dP s T LL)(c:Str→Bool):∀x∈eh T c,x∈je:=fun x hx=>by
 refine aF (List.mem_map.mp hx) fun e he q2=>?_;subst q2
 have he:=(List.mem_filter.mp he).1
 refine jm (h.k.tc e he) fun k y hk=>?_
 refine xE (nC he) fun v hv=>?_
 rw[hk]at hv⊢
 exact BH h ((h.k.tk k y).mpr (by exact rE hv rfl))
theorem ln(T:cU)(c:Str→Bool):(eh T c).length≤T.length:=by delta eh;exact rE (List.length_map _) (List.length_filter_le _ _)
theorem p0{T:cU}(h:T.length≤900)(c:Str→Bool)(x:Str):eh T c++[x]≠[]∧(eh T c++[x]).length≤1000:=⟨by simp,by have:=ln T c;refine rE List.length_append ?_;refine(?_:_+1≤_);lia⟩
theorem nP{ps:Pos}{scope:Scope}{T:cU}(cc:Str→Bool)(h0:dG scope=true)(hc:∀e∈T,∃k x,e.1=[k,x])(hz:T.length≤1000)(hs:ξ[i]?=some (some (.dT (gA T))))
 (hi:∀k x,Ev c.cut wi [none,some (.str k),some (.str x)] σ (cc k) σ) (ho:c.owns ps=false:=by rfl):Ev c (gW ps scope (bW i) (rC (0+1+1) (fV (c8 (0+1)) (fV (c8 (0+1+1)) rD))) wi (bW (0+1+1)) [none,none,none]) ξ σ (.lst ((eh T cc).map .str)) σ:=by
 refine ar (k9 (l:=T) (fun e=> .tup (e.1.map .str)) (fun e=>cc (e.1.headD (ofString ""))) (fun e=> .str (e.1.getD 1 (ofString ""))) h0 (aa hs) (fun a q=>by cases q) (by refine(?_:some (List.map _ (List.map _ T))=_);exact rE List.map_map rfl) (by lia) (fun e he=>?_) ho) (by delta eh;exact rE List.map_map rfl)
 refine jm (hc e he) fun k x hk=>?_
 refine rE hk ?_
 exact(bP _ un (hi k x) (fun zz=>aa rfl))
def Cp(ex:Option (List cC)):Prop:=∀ts,ex=some ts→ts.length≤2∧∀t∈ts,mU t.1∧t.2.1∈je∧rh t.2.2
theorem sS(h1:∀x∈vals,x∈je)(h2:∀x∈heads,x∈je)(h3:∀x∈lots,x∈je){t:cC}(h:pW vals heads lots t):mU t.1∧t.2.1∈je∧rh t.2.2:=by
 rcases h with⟨a,b,c⟩|⟨a,b,c⟩|⟨a,b,c⟩
 ·exact(dx (.inl a) (h3 _ b) (fun l q=>by rw[c]at q;cases q))
 ·exact(dx (.inr (.inl a)) (h1 _ b) (fun l q=>by rw[c]at q;cases q))
 ·exact(dx (.inr (.inr a)) (h2 _ b) c)
theorem Ac(l:List ag):(l.map bb).all qG=true:=by refine rE (propext List.all_eq_true) ?_;intro x hx;refine aF (List.mem_map.mp hx) fun t zz q2=>?_;subst q2;rfl
theorem rB(l:List ag)(k:Nat):(l.map bb).all (pl (k+2))=true:=by refine rE (propext List.all_eq_true) ?_;intro x hx;refine aF (List.mem_map.mp hx) fun t zz q2=>?_;subst q2;rfl
theorem tv(h:jd σ d=some (l.map bb))(hz:l.length<64)(hn:l.Nodup):Op c oV [d] σ (.lst (ei (l.map bb))) σ:=
 fun zz q=>(dC d _ rfl h (by exact rE (List.length_map _) hz) (by exact rE (Ac _) (Bool.or_true _)) ⟨(wO hn),q⟩)
theorem xS(l:List ag):pl 8 (.lst (ei (l.map bb)))=true:=by
 refine(?_:(ei (l.map bb)).all (pl 7)=true)
 refine rE (propext List.all_eq_true) ?_
 intro x hx
 have:=(cB _).mem_iff.mp hx
 refine aF (List.mem_map.mp this) fun t zz q2=>?_;subst q2
 rfl
theorem ki(h:pl 8 d=true):dq σ .NotEq d d=some false:=by
 refine rE (tX (by exact rE h rfl)) (rE (cT.mpr rfl) ?_);rfl
theorem Am(o:Option (List ag)):pl 8 (dA o)=true:=by
 cases o with
 |none=>rfl
 |some l=>exact rB l 5
theorem xd(h1:Ev c wa ξ σ d σ1)(h2:Ev c wb ξ σ1 e σ2)(hd:cw σ2 d=some kvs)(he:cw σ2 e=some kvs)(hk:∀kv∈kvs,A5 kv.2=true)(nd:(kvs.map (·.1)).Nodup):Ev c (Ba wa wb) ξ σ false σ2:=
 fun zz q=>h1 _ (h2 _ (lV kvs hd he hk ⟨nd,q⟩))
theorem kg(F:List (Str×D)):∀l:List ag,((l.filter fun t=>(look F t.2.2).isSome).map fun t=>D.tup [.str t.2.2,(look F t.2.2).getD .none])=l.filterMap fun t=>(look F t.2.2).map fun d=> .tup [.str t.2.2,d]
 |[]=>rfl
 |t::l=>by
  refine rE List.filter_cons (rE List.filterMap_cons ?_)
  refine oD (o:=look F t.2.2) (fun q=>?_) fun d q=>?_
  ·exact kg F l
  ·skip
   refine rE (if_pos (show(some d).isSome=true from rfl)) (rE List.map_cons (rE (kg F l) (rE q ?_)))
   rfl
theorem tQ{ps:Pos}{scope:Scope}{init:List (Option Nat)}(Ha:init=[none,none,some j])(h0:dG scope=true)(hm:cx.mg (ofString "dict")=none)(hi:ξ[i]?=some (some (.lst (l.map fun t=> .str t.2.2))))(hj:ξ[j]?=some (some (.dS F)))(hz:l.length≤1000)(ho:c.owns ps=false:=by rfl):
 Ev c (rA (ofString "dict") (bM (gW ps scope (bW i) (c8 (0+1)) (ld (bW (0+1)) (bW (0+1+1)) .In) (rn (bM (bW (0+1)) (bM (w2 (bW (0+1+1)) (bW (0+1)) fm) eS)) jw) init) eS) r7) ξ σ (.dS (keep F l)) σ:=by
 subst Ha
 have hl:bp [none,none,some j] ξ=[none,none,some (.dS F)]:=by delta bp;simp[hj]
 refine ef hm (ae (k9 (l:=l) (fun t=> .str t.2.2) (fun t=>(look F t.2.2).isSome) (fun t=> .tup [.str t.2.2,(look F t.2.2).getD .none]) h0 (aa hi) aY rfl (by lia) (fun t ht=>?_) ho)) (σ2:=σ) ?_
 ·refine rE hl ?_
  refine(bP _ aM (al (aa rfl) (aa rfl) (eR rfl)) (fun hs=>?_))
  refine xE (Option.isSome_iff_exists.mp hs) fun e he=>?_
  refine rE he ?_
  exact aC (ac (aa rfl) (ae (aA (aa rfl) (aa rfl) (d8 rfl he)))) cr
 ·refine rE (kg _ _) ?_
  exact fun zz q=>(cP .str (.dS (keep F l)) (.dS (keep F l)) (by have:=List.length_filterMap_le (fun t=>(look F t.2.2).map fun d=>D.tup [.str t.2.2,d]) l;lia) (kc F l []) rfl q)
theorem cK.EZ{A:mE}(h:cK σ A m T fx ps)(he:dE [] σ σ'):cK σ' A m T fx ps:=
 have k:∀{b x},σ b=some x→σ' b=some x:=fun{b x} e=>he b x (fun q=>by exact nM q) e
 ⟨h.nd,k h.a,k h.da,fun i=>k (h.tab i),k h.f,k h.p⟩
theorem cK.ext1{A:mE}(h:cK σ A m T fx ps)(hs:gQ σ a)(he:dE [a] σ σ'):cK σ' A m T fx ps:=by
 refine bB hs fun u v zz zz ha=>?_;clear hs
 have k:∀{b x},σ b=some x→(∀l,x≠ .lst l)→σ' b=some x:=fun{b x} e n=>he b x (fun q=>by rw[List.mem_singleton.mp q,ha]at e;exact n _ (Option.some.inj e).symm) e
 exact⟨h.nd,k h.a (fun zz q=>by cases q),k h.da (fun zz q=>by cases q),fun i=>k (h.tab i) (fun zz q=>by cases q),k h.f (fun zz q=>by cases q),k h.p (fun zz q=>by cases q)⟩
theorem nQ{ps:Pos}{scope:Scope}(cc:Str→Bool)(h0:dG scope=true)(hz:l.length≤1000)(hs:ξ[i]?=some (some (.lst (l.map bb))))
 (hi:∀t:ag,Ev c.cut wi [none,some (bb t)] σ (cc t.1) σ) (ho:c.owns ps=false:=by rfl):Ev c (gW ps scope (bW i) (c8 (0+1)) wi (w2 (bW (0+1)) (c0 (.int 1)) fm) [none,none]) ξ σ (.lst (((l.filter fun t=>cc t.1).map fun t=>t.2.1).map .str)) σ:=
 ar (k9 (l:=l) bb (fun t=>cc t.1) (fun t=> .str t.2.1) h0 (aa hs) aY rfl (by lia) (fun t ht=>(bP _ aM (hi t) (fun zz=>aA (aa rfl) (ad (d:= .int 1)) iR))) ho) (by exact rE List.map_map rfl)
theorem m9(hl:∀t∈l,t∈c6)(hz:l.length≤18)(c:Str→Bool){xs:List Str}(hx:∀x∈xs,x∈je)(hz2:0<xs.length∧xs.length≤2):let m:=((l.filter fun t=>c t.1).map fun t=>t.2.1)++xs;(∀x∈m,x∈je)∧m≠[]∧m.length≤1000:=by
 have hn:∀t∈c6,t.2.1∈je:=by decide+kernel
 refine(dx (fun x h=>(List.mem_append.mp h).elim (fun h=>?_) (hx x)) (fun q=>?_) ?_)
 ·refine aF (List.mem_map.mp h) fun t ht q2=>?_;subst q2
  exact hn t (hl t (List.mem_filter.mp ht).1)
 ·have:=congrArg List.length q
  rw[List.length_append]at this
  have:xs.length=0:=by have h0:([]:List Str).length=0:=rfl;lia
  lia
 ·refine rE List.length_append (rE (List.length_map _) ?_)
  have:=List.length_filter_le (fun t=>c t.1) l
  lia
def BO(nm:Option (List cC)):Prop:=∀ts,nm=some ts→ts.length≤2∧∀t∈ts,(t.1=ofString "value"∨t.1=ofString "type")∧t.2.1∈je∧rh t.2.2
theorem Bt(p:Pg)(r:bk C 2)(H:uh 434){is:List Int}(hz:is.length≤1000)(hT:iq 434 σ)(h:∀σ',iq 434 σ'→Φ (.bool true) σ'):aL C (n+13) (.ref 437) [.lst (is.map .int)] σ Φ X:=by
 revert p r H hz hT h;revert C n X σ is Φ;apply z6
 generalize (e6 _ _).1.1.1=C,(e6 _ _).1.1.2=n,(e6 _ _).1.2=σ,(e6 _ _).2.1.1=Φ,(e6 _ _).2.1.2=X,(e6 _ _).2.2=is;intro p r H hz hT h
 refine' AN p ?hb ?hn (w:=?w) ?hsx ?hw
 case hb=>(conv=>lhs;whnf)
 case hn=>(conv=>lhs;whnf)
 case hsx=>infer_instance
 refine'(?_:_)
 refine aN (?_:bj _ _ _ _ _ _)
 refine(cf (by decide+kernel) _ p.Ef p.keep (ae (aa rfl) _ (rQ (n:=n+11) p hz fun a u v hu hv ha=>?_)))
 have hL:eC a (σ.put a (.lst [.int u,.int v])):=by
  refine⟨(bH u v hu hv (af.CN _ _ _)),?_⟩
  have ne:∀b o,σ b=some o→(σ.put a (.lst [.int u,.int v])) b=some o:=fun b o e=>(af.CO _ _ (au e ha)).trans e
  refine cz hT fun ps t1 t2 t3=>?_;clear hT
  exact⟨ps,ne _ _ t1,t2,fun pos v e=>let⟨b,oc,e1,e2,e3,e4⟩:=t3 pos v e;⟨b,oc,e1,e2,ne _ _ e3,e4⟩⟩
 refine(?_:c8 1 _ (.ref a) _ _ _)
 generalize σ.put a (.lst [.int u,.int v])=σ1 at hL⊢
 clear hT
 refine aN (?_:bj _ _ _ _ _ _)
 refine(cf (by decide+kernel) _ p.Eg p.keep (ae (aa rfl) _ (rR (n:=n+6) p hL.seed fun s T LL σ2 hG hs he=>pX _ ?_)))
 have hL:=hL.ext hs he
 clear hs he
 refine aN (?_:bj _ _ _ _ _ _)
 refine(cf (by decide+kernel) _ p.DU p.keep (ae (aa rfl) _ (oO (n:=n+8) p hL.seed fun F σ3 IG IF IE hs he=>un _ ?_)))
 have hL:=hL.ext hs he
 clear hs he
 refine aN (?_:ng _ _ _ _ _ _ _ _)
 refine⟨by decide,ml (l:=a8) bO (fun x=>bb (x.1,x.2,ofString "M." ++x.2)) rfl (bI (by decide+kernel) p.Dd p.keep bf fun zz q=>gE (n:=n+11) p q) aY rfl (by decide) (fun x hx=>(aP _ un (aC (ac (aa rfl) (ac (aa rfl) (ae (aA ah (aa rfl) (bz ?_))))) cr))) (by rfl) _ ?_⟩
 ·have:∀x∈a8,x.2.length≤10:=by decide+kernel
  have:=this x hx
  have:(ofString "M.").length=2:=by decide+kernel
  lia
 have e0:a8.map (fun x=>bb (x.1,x.2,ofString "M." ++x.2))=fH.map bb:=by delta fH;exact rE List.map_map rfl
 refine rE e0 ?_
 clear e0
 refine ad _ ?_
 have Gb:T.length≤900:=Nat.le_trans hG.zT (by decide+kernel)
 have Em:T.length≤1000:=Nat.le_trans hG.zT (by decide+kernel)
 have He:∀e∈T,∃k x,e.1=[k,x]:=fun e he=>let⟨k,x,q⟩:=hG.k.tc e he;⟨_,x,q⟩
 refine dz (I:=fun ξ σ'=>∃o4 o5 ex,ξ=[some (.lst (is.map .int)),some (.ref a),some (.dT (gA T)),some (.dS (av LL)),o4,o5,none,none,none,none,none,none,none,none,none,some (.lst (fH.map bb)),some (.dS (av aq)),some (jM (fL s) (cF s)),some (.dS F),some (A4 ex)]∧eC a σ'∧Cp ex) (fun Ψ hΨ=>?_) fun ξ Dt hI=>?_
 ·refine(?_:xT _ _ _ _ _ _ _)
  refine rP (n:=n+11) p hL.seed rfl (aC (ac ad (ac ad (ac ad (ae ad)))) aU) (by decide) (by decide) fun x Dt hx hp=>?_
  have hL:=hL.pick hp
  have hb:∃b,dq Dt .Gt x (.int 0)=some b:=by
   simp only[List.mem_cons,List.not_mem_nil,or_false]at hx
   rcases hx with rfl|rfl|rfl|rfl<;>exact(iE _ rfl)
  revert hb;refine fun h0=>xE h0 fun b hb=>?_;clear h0
  refine ad _ ?_
  refine⟨fun q=>(by cases q),?_⟩
  refine rE hb ?_
  refine(?_:ite (b=true) _ _)
  cases b with
  |false=>exact hΨ _ _ (ii _ _ none rfl hL (fun ts q=>by exact nS q))
  |true=>
   refine rE (if_pos rfl) ?_
   have zs:∀c,(eh T c).length≤1000:=fun c=>Nat.le_trans (ln T c) Em
   refine aD (aX (d:= .lst ((eh T (fun k=>decide (k=ofString "value"))++[ofString "x"]).map .str)) (ar (aA (nP (fun k=>decide (k=ofString "value")) rfl He Em rfl fun k x=>al (aa rfl) ah (aW _ _ _)) (aC (ae ah) aU) (cu rfl rfl trivial (by refine rE (List.length_map _) ?_;have:=zs fun k=>decide (k=ofString "value");refine(?_:_+1≤_);lia))) (by exact rE List.map_append rfl))) ?_
   refine aD (aX (d:= .lst ((eh T (fun k=>decide (k=ofString "type")||decide (k=ofString "class"))++[ofString "T"]).map .str)) (ar (aA (nP (fun k=>decide (k=ofString "type")||decide (k=ofString "class")) rfl He Em rfl fun k x=>al (aa rfl) (aC (ac ah (ae ah)) cr) km) (aC (ae ah) aU) (cu rfl rfl trivial (by refine rE (List.length_map _) ?_;have:=zs fun k=>decide (k=ofString "type")||decide (k=ofString "class");refine(?_:_+1≤_);lia))) (by exact rE List.map_append rfl))) ?_
   have nv:∀x∈eh T (fun k=>decide (k=ofString "value"))++[ofString "x"],x∈je:=fun x hx=>(List.mem_append.mp hx).elim (qa hG _ x) fun q=>by refine rE (List.mem_singleton.mp q) ?_;decide+kernel
   have nh:∀x∈eh T (fun k=>decide (k=ofString "type")||decide (k=ofString "class"))++[ofString "T"],x∈je:=fun x hx=>(List.mem_append.mp hx).elim (qa hG _ x) fun q=>by refine rE (List.mem_singleton.mp q) ?_;decide+kernel
   have zv:=zs fun k=>decide (k=ofString "value")
   have zh:=zs fun k=>decide (k=ofString "type")||decide (k=ofString "class")
   generalize hvals:eh T (fun k=>decide (k=ofString "value"))++[ofString "x"]=vals at nv
   generalize EW:eh T (fun k=>decide (k=ofString "type")||decide (k=ofString "class"))++[ofString "T"]=heads at nh
   have z1:vals≠[]∧vals.length≤1000:=by exact rF hvals (p0 Gb _ _)
   have z2:heads≠[]∧heads.length≤1000:=by exact rF EW (p0 Gb _ _)
   clear hvals EW zv zh zs
   refine(?_:fF (bj _ _) vS _ _ _ _)
   refine aN (?_:bj _ _ _ _ _ _)
   refine(cf (by decide+kernel) _ p.DF p.keep (ac (aa rfl) (ac (aa rfl) (ac (aa rfl) (ae (aC (ac ah (ac ah (ac ah (ae ah)))) aU)))) _
    (lB (n:=n+10) (lots:=[ofString "M",ofString "N.P",ofString "M",ofString "Q"]) p hL.seed z1.1 z2.1 z1.2 z2.2 (by decide) (fun x hx=>(jy x (nh x hx)).2.2.2) fun ts Dm hl ht hs he=>?_)))
   exact hΨ _ _ (ii _ _ (some ts) rfl (hL.ext hs he) (fun ts' q=>by(replace q:=sI q;subst q);exact⟨hl,fun t h=>sS nv nh (by decide+kernel) (ht t h)⟩))
 ·refine fE hI fun o4 o5 ex q3 hL hE=>?_;clear hI;subst q3
  have hto:∀ts,ex=some ts→∀t∈ts,mU t.1:=fun ts q t h=>((hE ts q).2 t h).1
  have hsb:∀ts,ex=some ts→∀t∈ts,∀l,t.2.2= .some l→l.length≤2:=fun ts q t h l e=>(((hE ts q).2 t h).2.2 l e).1
  have hsz:∀ts,ex=some ts→ts.length≤10∧∀t∈ts,∀l,t.2.2= .some l→l.length≤2:=fun ts q=>⟨by have:=(hE ts q).1;lia,hsb ts q⟩
  refine aD (aX (d:=dA (tV T LL ex)) (σ1:=Dt) ?_) ?_
  ·cases ex with
   |none=>exact cS (aH (aa rfl) _ rfl) (aa rfl)
   |some ts=>exact cE (aH (aa rfl) _ rfl) (bI (by decide+kernel) p.EB p.keep (ac (aa rfl) (ac (aa rfl) (ac (aa rfl) (ae (aa rfl))))) fun zz q=>
    uN (n:=n+10) p He Em (fun k=>Nat.le_trans (Bg hG k) (by decide)) (by have:=(hE ts rfl).1;lia) (fun t ht r e=>(rV hG (hto ts rfl t ht) e).2 (hsb ts rfl t ht)) (fun f=>Nat.le_trans (kQ f) (by decide)) (fun t ht l e=>Nat.le_trans (hsb ts rfl t ht l e) (by decide)) q)
  refine aN (?_:bj _ _ _ _ _ _)
  refine(cf (fw p r (by refine(?_:2≤n+12);lia) (dx rfl rfl rfl)) 434 H hL.tab (fun Dm t5 h5=>?_))
  have hL:=hL.Ew t5 h5
  refine(cf (by decide+kernel) _ p.Du p.keep ?_)
  refine(ac ah (ac (d:=zW ex) (σ1:=Dm) ?_ (ac (aa rfl) (ac (aa rfl) (ac (aa rfl) (ae (aa rfl)))))):Ev _ (bM _ _) _ _ _ _) _ (AA (n:=n+5) (mo:=ofString "M") p (r.up (by lia)) (fun x hx=>?_) (yF hG) (fun i=>(sZ hG i).1) (fun i=>(sZ hG i).2) (fun ts q=>⟨by have:=(hE ts q).1;lia,fun t ht=>?_⟩) ⟨by refine rE jT.2.2 ?_;decide,fun t ht=>Nat.le_trans (pk t (jT.1 t ht)).1 (by decide)⟩ (fun T' q i=>?_) (fun q Go he=>?_) fun T' A Go q hi hout hin=>?_)
  ·cases ex with
   |none=>exact cS (aH (aa rfl) _ rfl) ad
   |some ts=>exact cE (aH (aa rfl) _ rfl) (bI (by decide+kernel) p.Dx p.keep (ae (aa rfl)) fun zz q=>kG (n:=n+6) p (by have:=(hE ts rfl).1;lia) (fun t ht l e=>Nat.le_trans (hsb ts rfl t ht l e) (by decide)) q)
  ·have:=tj x hx
   exact⟨Nat.le_trans this.1 (by decide),fun t ht=>⟨BK (iB t (this.2 t ht)),Nat.le_trans (pk t (this.2 t ht)).1 (by decide)⟩⟩
  ·refine dF ((hE ts q).2 t ht) fun zz h2 h3=>?_
   refine dF (jy _ h2) fun z1 z2 CU=>xA CU fun z3 zz=>?_;clear CU
   exact(dx ⟨Nat.le_trans z1 (by decide),fun l e=>⟨Nat.le_trans (h3 l e).1 (by decide),fun x hx=>Nat.le_trans ((h3 l e).2 x hx) (by decide)⟩⟩ z2 (Nat.le_trans z3 (by decide)))
  ·rcases lM hG hto hsz with⟨e1,_⟩|⟨T1,l,e1,_,a1,i1,_⟩
   ·rw[e1]at q;exact nS q
   ·rw[e1]at q;(replace q:=sI q;subst q)
    exact⟨Nat.lt_of_le_of_lt ((li a1 i1).2 i) (by decide),a1.nd i⟩
  ·rcases lM hG hto hsz with⟨_,e2⟩|⟨T1,l,e1,_⟩
   ·refine rE e2 ?_
    dsimp only
    refine aM _ ?_
    exact bw (bh (k8 (aH (aa rfl) _ rfl)) (aQ (aV (k7 (aA (aa rfl) ad (ia rfl)) rfl (k7 (aA (aa rfl) ad (ia rfl)) rfl (bI (by decide+kernel) p.C7 p.keep bf fun zz q=>kF (n:=n+8) p q)))))) (h _ (hL.EZ he).tab)
   ·rw[e1]at q;exact sN q
  ·rcases lM hG hto hsz with⟨e1,_⟩|⟨T1,l,e1,e2,a1,i1,zl⟩
   ·rw[e1]at q;exact nS q
   rw[e1]at q;cases q
   refine rE e2 ?_
   clear e1 e2
   have hL:eC a Go:=hL.EZ fun b x zz e=>(hout b fun hb=>by rw[hin b hb]at e;cases e).trans e
   refine xA (li a1 i1) fun zH zT=>?_
   have nH:=mV a1.nd
   have mH:∀t,t∈aJ T'↔t∈l:=fun t=>lJ a1 fun t ht=>iB t (i1 t ht)
   have iH:∀t∈aJ T',t∈c6:=fun t ht=>i1 t ((mH t).mp ht)
   have Em:∀i,(T' i).length<64:=fun i=>Nat.lt_of_le_of_lt (zT i) (by decide)
   refine aM _ ?_
   refine aD (aG (f8 (aH (aa rfl) _ rfl) (f8 (aH (aa rfl) _ rfl) mj)) aR) ?_
   refine aD (aX (dW (by decide) (aa rfl) hi.view.ins rfl p.meth p.keep bf fun zz q=>ej (n:=n+10) p hi.view Em a1.nd q)) ?_
   refine mR (xh l) fun m k1 k2 k3 k4=>?_
   have zm:m.length<64:=Nat.lt_of_le_of_lt (lH k2 fun t ht=>i1 t ((k3 t).mp ht)) (by decide+kernel)
   refine aD (aG (al (ef p.Do (ae (aa rfl)) (tv rfl (by lia) nH)) (ef p.Do (ae (ef p.Ei (ae (ml (l:=l) bb (fun t=> .tup [bb t,.bool true]) rfl (aa rfl) aY rfl ?_ fun t ht=>(aP _ aM (aC (ac (aa rfl) (ae ad)) cr)))) fun zz q=>(cP .tup (.dT (mP [] l)) (.dT (mP [] l)) ?_ (qO l []) rfl q))) (tv (l:=m) (congrArg some k1) zm k2)) ?_) aR) ?_
   ·lia
   ·refine rE (List.length_map _) ?_;lia
   ·refine rE (ur nH k2 fun t=>(mH t).trans (k3 t).symm) ?_
    exact ki (xS _)
   clear k1 k2 k3 k4 zm m
   refine aD (aX (ml (l:=aJ T') bb (fun t=> .str t.2.2) rfl (aa rfl) aY rfl (by lia) fun t ht=>(aP _ aM (aA (aa rfl) (ad (d:= .int 2)) lC)))) ?_
   refine aD (aG (xd (ak (aa rfl) hi.view.ins rfl p.attr) (tQ (F:=av aq) rfl rfl p.Ei rfl rfl (by lia)) (fB hi.p) rfl (pi (Q:=fun d=>A5 d=true) (fun k d e=>?_) _ _ fun zz q=>by exact nM q) (pj _ _ _ List.nodup_nil)) aR) ?_
   ·rw[cL]at e
    refine aF (Option.map_eq_some_iff.mp e) fun x zz q2=>?_;subst q2
    exact rB x 5
   refine aD (aG (xd (ak (aa rfl) hi.view.ins rfl p.attr) (tQ (F:=F) rfl rfl p.Ei rfl rfl (by lia)) (fB hi.f) rfl (pi (Q:=fun d=>A5 d=true) (fun k d e=>?_) _ _ fun zz q=>by exact nM q) (pj _ _ _ List.nodup_nil)) aR) ?_
   ·refine aF (Option.map_eq_some_iff.mp e) fun y hy q2=>?_;subst q2
    refine xE (IF y (List.mem_of_find?_eq_some hy)) fun r' hr=>?_
    exact rE hr rfl
   clear hin hout h5 t5 IG IE
   refine aN (c9 (ef p.Et (ae ad) (fun zz q=>q)) (fun a q=>by cases q) (qg _ 3) (by decide) ?_)
   refine dN (fun pre ξ σ=>∃o4 o5 o9 Dk jW uX zN,ξ=[some (.lst (is.map .int)),some (.ref a),some (.dT (gA T)),some (.dS (av LL)),o4,o5,some (dA (some l)),some (.lst ((aJ T').map bb)),some (.lst ((aJ T').map fun t=> .str t.2.2)),o9,Dk,jW,uX,some (.ref A.a),zN,some (.lst (fH.map bb)),some (.dS (av aq)),some (jM (fL s) (cF s)),some (.dS F),some (A4 ex)]∧eC a σ∧cK σ A (.str (ofString "M")) T' (keep F (aJ T')) (keep (av aq) (aJ T'))) (fun pre e post ξ HX Ψ he hI hn hr=>?_) (fun ξ HX hI=>?_) (mD _ _ (mD _ _ (ii _ _ _ rfl hL hi)))
   ·refine jm hI fun o4 o5 CU=>jm CU fun o9 Dk D4=>fE D4 fun jW uX zN q7 hL hi=>?_;clear CU D4;clear hI;subst q7
    refine aM _ ?_
    refine dF (m9 iH zH (fun k=>decide (k=ofString "value")) (xs:=[ofString ":|"]) (by decide+kernel) (by decide)) fun v1 v2 v3=>?_
    refine dF (m9 iH zH (fun k=>decide (k=ofString "type")||decide (k=ofString "class")) (xs:=[ofString "C",ofString "T"]) (by decide+kernel) (by decide)) fun u1 u2 u3=>?_
    refine aD (aX (d:= .lst ((((aJ T').filter fun t=>decide (t.1=ofString "value")).map (fun t=>t.2.1)++[ofString ":|"]).map .str)) (ar (aA (nQ (fun k=>decide (k=ofString "value")) rfl (by lia) rfl fun t=>al (aA (aa rfl) (ad (d:= .int 0)) ju) ah (aW _ _ _)) (aC (ae ah) aU) (cu rfl rfl trivial ?_)) (by exact rE List.map_append rfl))) ?_
    ·rw[List.length_append]at v3;refine rE (List.length_map _) ?_;refine(?_:_+1≤_);lia
    refine aD (aX (d:= .lst ((((aJ T').filter fun t=>decide (t.1=ofString "type")||decide (t.1=ofString "class")).map (fun t=>t.2.1)++[ofString "C",ofString "T"]).map .str)) (ar (aA (nQ (fun k=>decide (k=ofString "type")||decide (k=ofString "class")) rfl (by lia) rfl fun t=>al (aA (aa rfl) (ad (d:= .int 0)) ju) (aC (ac ah (ae ah)) cr) km) (aC (ac ah (ae ah)) aU) (cu rfl rfl trivial ?_)) (by exact rE List.map_append rfl))) ?_
    ·rw[List.length_append]at u3;refine rE (List.length_map _) ?_;refine(?_:_+2≤_);lia
    generalize ((aJ T').filter fun t=>decide (t.1=ofString "value")).map (fun t=>t.2.1)++[ofString ":|"]=vals at v1 v2 v3⊢
    generalize ((aJ T').filter fun t=>decide (t.1=ofString "type")||decide (t.1=ofString "class")).map (fun t=>t.2.1)++[ofString "C",ofString "T"]=heads at u1 u2 u3⊢
    refine dz (I:=fun ξ σ=>∃nm,ξ=[some (.lst (is.map .int)),some (.ref a),some (.dT (gA T)),some (.dS (av LL)),some (.lst (vals.map .str)),some (.lst (heads.map .str)),some (dA (some l)),some (.lst ((aJ T').map bb)),some (.lst ((aJ T').map fun t=> .str t.2.2)),some e,some (A4 nm),jW,uX,some (.ref A.a),zN,some (.lst (fH.map bb)),some (.dS (av aq)),some (jM (fL s) (cF s)),some (.dS F),some (A4 ex)]∧eC a σ∧cK σ A (.str (ofString "M")) T' (keep F (aJ T')) (keep (av aq) (aJ T'))∧BO nm) (fun HY hΨ=>?_) fun ξ GB hI=>?_
    ·refine(?_:bj (oq (ld (lg _ _) (c0 _) _) _ _) _ _ _ _ _)
     refine rP (n:=n+11) p hL.seed rfl (aC (ac ad (ac ad (ac ad (ae ad)))) aU) (by decide) (by decide) fun x GB hx hp=>?_
     have hi:=hi.ext1 hL.seed fun b x n e=>(hp.2 b fun q=>n (by exact rE q (.head _))).trans e
     have hL:=hL.pick hp
     have hb:∃b,dq GB .Eq x (.int 0)=some b:=by
      simp only[List.mem_cons,List.not_mem_nil,or_false]at hx
      rcases hx with rfl|rfl|rfl|rfl<;>exact(iE _ (ko _ _ _))
     revert hb;refine fun h0=>xE h0 fun b hb=>?_;clear h0
     refine ad _ ?_
     refine⟨fun q=>(by cases q),?_⟩
     refine rE hb ?_
     refine(?_:ite (b=true) _ _)
     cases b with
     |true=>exact hΨ _ _ (lV none rfl hL hi (fun ts q=>by exact nS q))
     |false=>
      refine rE (if_neg Bool.false_ne_true) ?_
      refine(cf (by decide+kernel) _ p.DF p.keep (ac (aa rfl) (ac (aa rfl) (ac (aa rfl) (ae (aC bf aU)))) _ (lB (n:=n+10) (lots:=[]) p hL.seed v2 u2 v3 u3 (by decide) (fun x hx=>(jy x (u1 x hx)).2.2.2) fun ts σ9 hl ht hs he=>?_)))
      have hN:BO (some ts):=fun ts' q=>by
       (replace q:=sI q;subst q)
       refine⟨hl,fun t h=>?_⟩
       have h2:=sS v1 u1 (fun zz h=>by exact nM h) (ht t h)
       refine⟨?_,h2.2⟩
       rcases ht t h with⟨_,q,_⟩|⟨q,_⟩|⟨q,_⟩
       ·exact nM q
       ·exact .inl q
       ·exact .inr q
      exact hΨ _ _ (lV (some ts) rfl (hL.ext hs he) (hi.ext1 hL.seed he) hN)
    refine mR hI fun nm q1 hL hi hN=>?_;clear hI;subst q1
    refine dz (I:=fun ξ σ=>∃hid:Bool,ξ=[some (.lst (is.map .int)),some (.ref a),some (.dT (gA T)),some (.dS (av LL)),some (.lst (vals.map .str)),some (.lst (heads.map .str)),some (dA (some l)),some (.lst ((aJ T').map bb)),some (.lst ((aJ T').map fun t=> .str t.2.2)),some e,some (A4 nm),some (.bool hid),uX,some (.ref A.a),zN,some (.lst (fH.map bb)),some (.dS (av aq)),some (jM (fL s) (cF s)),some (.dS F),some (A4 ex)]∧eC a σ∧cK σ A (.str (ofString "M")) T' (keep F (aJ T')) (keep (av aq) (aJ T'))) (fun HY hΨ=>?_) fun ξ σ9 hI=>?_
    ·refine(?_:bj (z8 (w2 _ _ _) (w2 (lg _ _) _ _)) _ _ _ _ _)
     cases nm with
     |none=>
      refine(aA (aa rfl) ad (ia (op:= .IsNot) (b:=false) rfl):Ev _ (w2 _ _ _) _ _ _ _) _ ?_
      exact hΨ _ _ (bP false rfl hL hi)
     |some ts=>
      refine(aA (aa rfl) ad (ia (op:= .IsNot) (b:=true) rfl):Ev _ (w2 _ _ _) _ _ _ _) _ ?_
      refine(?_:w2 (lg _ _) _ _ _ _ _ _)
      refine rP (n:=n+11) p hL.seed rfl (aC (ac ad (ae ad)) aU) (by decide) (by decide) fun x σ9 hx hp=>?_
      have hi:=hi.ext1 hL.seed fun b x n e=>(hp.2 b fun q=>n (by exact rE q (.head _))).trans e
      have hL:=hL.pick hp
      have hb:∃b,dq σ9 .Eq x (.int 1)=some b:=by
       simp only[List.mem_cons,List.not_mem_nil,or_false]at hx
       rcases hx with rfl|rfl<;>exact(iE _ (ko _ _ _))
      revert hb;refine fun h0=>xE h0 fun b hb=>?_;clear h0
      refine ad _ ?_
      refine(ia hb:Op _ (yA .Eq) _ _ _ _) _ ?_
      exact hΨ _ _ (bP b rfl hL hi)
    refine cz hI fun hid q1 hL hi=>?_;clear hI;subst q1
    have Hf:∀ts,nm=some ts→ts.length≤10∧∀t∈ts,kx t:=fun ts q=>⟨by have:=(hN ts q).1;lia,fun t ht=>by
     refine dF ((hN ts q).2 t ht) fun zz h2 h3=>?_
     exact⟨Nat.le_trans (jy _ h2).1 (by decide),fun l e=>⟨Nat.le_trans (h3 l e).1 (by decide),fun x hx=>Nat.le_trans ((h3 l e).2 x hx) (by decide)⟩⟩⟩
    have G8:∀ts,nm=some ts→∀t∈ts,∀l,t.2.2= .some l→l.length≤2:=fun ts q t h l e=>(((hN ts q).2 t h).2.2 l e).1
    refine aD (aX (d:=AQ nm hid (.str (ofString "M")) (.bool false) .none) (σ1:=σ9) (bI (by decide+kernel) p.EP p.keep (ac ah (ac (d:=zW nm) (σ1:=σ9) ?_ (ac (aa rfl) (ac ad (ae ad))))) fun Φ q=>wv (n:=n+9) p (Φ:=Φ) ?_)) ?_
    ·cases nm with
     |none=>exact cS (aH (aa rfl) _ rfl) ad
     |some ts=>exact cE (aH (aa rfl) _ rfl) (bI (by decide+kernel) p.Dx p.keep (ae (aa rfl)) fun zz q=>kG (n:=n+8) p (Nat.le_trans (Hf ts rfl).1 (by decide)) (fun t ht l e=>Nat.le_trans (G8 ts rfl t ht l e) (by decide)) q)
    ·cases nm<;>exact q
    refine aD (aX (d:=dA (gl T' aq hid nm)) (σ1:=σ9) ?_) ?_
    ·cases nm with
     |none=>exact cS (aH (aa rfl) _ rfl) (aa rfl)
     |some ts=>
      refine rE (qI a1.nd hid fun t ht=>((hN ts rfl).2 t ht).1) ?_
      exact cE (aH (aa rfl) _ rfl) (bI (by decide+kernel) p.EN p.keep (ac (aa rfl) (ac (aa rfl) (ac (aa rfl) (ae (aa rfl))))) fun zz q=>
       wq (n:=n+10) p (by lia) (Hf ts rfl).1 (fun t ht r e=>BN zH (G8 ts rfl t ht) e) (fun f=>Nat.le_trans (kQ f) (by decide)) (fun t ht l e=>Nat.le_trans (G8 ts rfl t ht l e) (by decide)) (fun t ht=>wW t (iH t ht)) q)
    refine(?_:fF (xT (ld (rz _ _ _) _ _) _ _) _ _ _ _ _)
    refine aN (?_:xT (ld (rz _ _ _) _ _) _ _ _ _ _ _)
    refine(cf (fw p r (by refine(?_:2≤n+12);lia) (dx rfl rfl rfl)) 434 H hL.tab (fun FO t10 h10=>?_))
    have hi:=hi.Ew hL.tab h10
    have hL:=hL.Ew t10 h10
    refine(cf (by decide+kernel) _ p.Dp p.keep ?_)
    have hp:cw FO (.ref A.p)=some (av (lQ aq (aJ T'))):=(fB hi.p).trans (congrArg some (tG aq (aJ T') []))
    refine(ac (aa rfl) (ae (aa rfl)):Ev _ (bM _ _) _ _ _ _) _ (rS (n:=n+5) p (r.up (by lia)) hi.view (by decide+kernel) hp (tE _ _ fun zz q=>by exact nM q) Em a1.nd Hf (fun q GC he=>?_) fun r' q=>?_)
    ·rw[lU]at q
     dsimp only
     refine aa rfl _ ⟨fun q=>(by cases q),?_⟩
     refine rE q ?_
     refine rE (show dq GC .NotEq .none (dA none)=some false from ki rfl) ?_
     exact(hn _ _ (mD _ _ (mD _ _ (ii _ _ _ rfl (hL.EZ he) (hi.EZ he))))).1
    ·rw[lU]at q
     refine aa rfl _ ⟨fun q=>(by cases q),?_⟩
     refine rE q ?_
     refine rE (show dq FO .NotEq (.lst (r'.map bb)) (dA (some r'))=some false from ki (Am (some r'))) ?_
     exact(hn _ _ (mD _ _ (mD _ _ (ii _ _ _ rfl hL hi)))).1
   ·refine jm hI fun o4 o5 CU=>jm CU fun o9 Dk D4=>fE D4 fun jW uX zN q7 hL hi=>?_;clear CU D4;clear hI;subst q7
    exact bw (aV (k7 (aA (dW (by decide) (aa rfl) hi.view.ins rfl p.meth p.keep bf fun zz q=>ej (n:=n+10) p hi.view Em a1.nd q) (aa rfl) (ia ((nU (by exact rE (show pl 8 (.lst ((aJ T').map bb))=true from rB _ 5) rfl)).trans (congrArg some (cT.mpr rfl))))) rfl (bI (by decide+kernel) p.C7 p.keep bf fun zz q=>kF (n:=n+8) p q))) (h _ hL.tab)
end
end
theorem Cs:cx.K=kW cx.w.params:=by delta cx;rfl
theorem Bs(ok:zj cx):Pg:=by
 have h:=Cs
 have X:(kW cx.w.params).In cx.hb:=h▸ok.X
 have s:∀{n v},nsIn (kW cx.w.params) mainGlobals n=some (some v)→cx.mg n=some v:=fun e=>mg_of X ok.g e
 have z:∀{n},nsIn (kW cx.w.params) mainGlobals n=some none→cx.mg n=none:=fun e=>mg_none_of X ok.g e
 exact⟨ok,h,s (by kernel_rfl),s (by kernel_rfl),s (by kernel_rfl),s (by kernel_rfl),s (by kernel_rfl),s (by kernel_rfl),s (by kernel_rfl),s (by kernel_rfl),s (by kernel_rfl),s (by kernel_rfl),s (by kernel_rfl),s (by kernel_rfl),s (by kernel_rfl),s (by kernel_rfl),s (by kernel_rfl),s (by kernel_rfl),s (by kernel_rfl),s (by kernel_rfl),s (by kernel_rfl),s (by kernel_rfl),s (by kernel_rfl),s (by kernel_rfl),s (by kernel_rfl),s (by kernel_rfl),s (by kernel_rfl),s (by kernel_rfl),s (by kernel_rfl),s (by kernel_rfl),s (by kernel_rfl),s (by kernel_rfl),s (by kernel_rfl),s (by kernel_rfl),z (by kernel_rfl),z (by kernel_rfl),z (by kernel_rfl),z (by kernel_rfl),z (by kernel_rfl),z (by kernel_rfl),z (by kernel_rfl),z (by kernel_rfl),z (by kernel_rfl),z (by kernel_rfl)⟩
theorem AU(p:Pg):jk 45 29:=by
 refine xE (p.hK) fun P hP=>?_
 refine⟨fun zz κ=>κ (ofString "ScopeError") (ofString "ScopeError") 44 [.ref 32] [.ref 32,.type "Exception",.type "BaseException",.type "object"] true [] [] false none none (some (.ref 36)) none (some (.str (ofString "ScopeError") 220)) (some (.str (ofString "ScopeError") 228)) (some (.bool true)) ?_ rfl (by decide+kernel) (by decide+kernel) (by decide+kernel) (by decide+kernel) (by decide+kernel) (fun self=>?_),?_,?_,?_⟩
 ·exact rE hP rfl
 ·kernel_rfl
 ·refine rE hP ?_;kernel_rfl
 ·refine rE hP ?_;kernel_rfl
 ·refine rE hP ?_;kernel_rfl
theorem BR(p:Pg):rm 45:=by
 have Y:=AU p
 refine xE (p.hK) fun P hP=>?_
 refine⟨(aP 29 Y (fun σ e m pl he=>?_)),by refine rE hP ?_;kernel_rfl⟩
 refine tL (sl:=[ofString "self",ofString "message",ofString "place"]) (names:=[ofString "self",ofString "message",ofString "place"]) (es:=[]) (ws:=[])
  (by exact rE hP (rfl:(kW P).lookup 29=some (fO (gC 1 0) (ofString "__init__") (ofString "LazyError.__init__") (Value.ref 22) (Value.str (ofString "lazycore.errors") 187) (Value.ref 28)))) (by exact rE hP rfl) (by rfl) rfl rfl (fun zz=> .nil)
  (fun s vs X hl=>jB (P:=fun vs=>BindsTo s _ ⟨vs,[]⟩ (List.zip _ (vs++_))) hl fun a0 a1 a2=>BindsTo.of_defaults rfl (p.obj (fun zz=>rfl) X) rfl rfl rfl) ?_
 exact pT (n:=0) (X:=fun zz=>False) (C:=45) Y (by decide) (by decide) (by decide) rfl (by decide) p.Ea (by refine rE hP ?_;kernel_rfl) (by refine rE hP ?_;kernel_rfl) he
section
theorem nI:∀{vs:List Value} {is:List Int},IntsAre vs is→aB Z vs (is.map .int)
 |_,_,.nil=> .nil
 |_,_,.cons n t r=> .cons (.int n t) (nI r)
theorem BB(P:Params):(kW P).lookup 434=none:=by kernel_rfl
section
variable{w:World}{h:Heap}
theorem pC(X:(sh w.params).In h){b:Addr}{o:Obj}(e:h.get? b=some o)(n:∀vs,o.data≠ .fields vs):(hideAll h [434]).get? b=some o:=hideAll_get [434] e fun q=>by
 have hP:h.get? 434=some (tabObj #[]):=X 434 _ rfl
 rw[List.mem_singleton.mp q,hP]at e;(replace e:=sI e;subst e);exact n _ rfl
theorem pB(X:(sh w.params).In h){m:Str→Option Value}:h.Ns a m→(hideAll h [434]).Ns a m:=fun w0=>fE w0 fun o es ep e hd r=>⟨o,es,ep,pC X e (fun vs q=>by rw[hd]at q;cases q),hd,r⟩
theorem lW(X:(sh w.params).In h):(kW w.params).In (hideAll h [434]):=fun a o e=>by
 by_cases q:a=434
 ·rw[q,BB]at e;exact nS e
 ·refine hideAll_get [434] (X a o ?_) fun z=>q (List.mem_singleton.mp z)
  delta sh
  exact rE List.lookup_cons (rE (show(a==434)=false from beq_eq_false_iff_ne.mpr q) e)
end
theorem zX(F:Fa st):zj cx:=by
 delta cx
 exact⟨lW F.X,pB F.X F.g,pB F.X F.b,F.nl.elim fun mc e=>(aP mc (pB F.X e.1) e.2),F.bu,(fP 436 _ (by decide) (lW F.X 436 _ rfl))⟩
theorem yV:cx.prog=pw:=by delta cx;rfl
theorem Cr:cx.w=st.1:=by delta cx;rfl
theorem BV:cx.mg=st.2.2.1:=by delta cx;rfl
theorem xi:cx.hb=hideAll st.2.1.heap [434]:=by delta cx;rfl
theorem Ck(F:Fa st):xw st:=by
 intro la n vs is R hl1 hla hI hR
 have KX:=F.X
 have p:Pg:=Bs (zX F)
 have hP:st.2.1.heap.get? 434=some (tabObj #[]):=KX 434 _ rfl
 have hb0:∀b o,cx.hb.get? b=some o→st.2.1.heap.get? b=some o:=fun b o e=>of_hideAll [434] (xi▸e)
 have hh:∀b o,(hideAll st.2.1.heap [434]).get? b=some o→cx.hb.get? b=some o:=fun b o e=>xi▸e
 have hC:CodeHd cx.hb 436 434:=codeHd_of_K (fun a o e=>hh _ _ (lW KX a o e)) (by kernel_rfl)
 have H:uh 434:=⟨hC,F.bm.elim fun bm h=>h.elim fun ob B=>by
  have n1:bm≠mainGlobals:=fun q=>by
   refine fE (B.ns) fun o es ep e hd zz=>?_
   have m3:=B.obj;have m6:=B.data
   rw[q,e]at m3;(replace m3:=sI m3;subst m3);rw[hd]at m6;cases m6
  have n2:bm≠434:=fun q=>by have m3:=B.obj;have m4:=B.cls;rw[q,hP]at m3;(replace m3:=sI m3;subst m3);cases m4
  exact⟨bm,ob,BV▸B.name,B.ne,n1,n2,hh _ _ (pC KX B.obj fun vs q=>(by rw[B.data]at q;cases q)),B.cls,B.dict,B.data⟩⟩
 have r:bk 45 2:=⟨BR p,by decide,p.DW⟩
 let CP:af:=fun b=>if b=434 then some (.raw (tabObj #[]))else none
 have FW:CP 434=some (.raw (tabObj #[])):=if_pos rfl
 have Hx:∀b,b≠434→CP b=none:=fun b hb=>if_neg hb
 have hT:iq 434 CP:=(bP (#[]) FW trivial (fun pos v e=>(by exact nS e)))
 have I:dR st.2.1.heap CP (fun b=>cx.hb.get? b):=⟨zX F,fun zz zz e=>e,fun b o e=>hb0 b o e,fun b ao e=>by
  by_cases q:b=434
  ·subst q;rw[FW]at e;(replace e:=sI e;subst e)
   exact(gp (by rw[xi];exact hideAll_none [434] (.head _)) _ hP .raw)
  ·rw[Hx b q]at e;exact nS e⟩
 have FZ:∀b,¬cm callerA b:=fun b w0=>fS w0 fun l hl env he zz=>by(replace hl:=sI hl;subst hl);exact nM he
 have St:jf callerA st.2.1.heap CP (fun b=>cx.hb.get? b):=⟨(aP [] rfl (fun zz h=>(by exact nM h))),fun b hb=>absurd hb (FZ b)⟩
 have hla:aw (fun b=>cx.hb.get? b) (.ref la) (.lst (is.map .int)):= .lst (hh _ _ (pC KX hla fun vs q=>by cases q)) ⟨rfl,rfl⟩ rfl (nI hI)
 have M:cx.M=model pw st.1:=by delta Cx.M;rw[yV,Cr]
 rw[←M]
 refine Bt (C:=45) (n:=0) (X:=fun zz=>False) (is:=is) p r H (by omega) hT (Φ:=fun d σ'=>d= .bool true∧iq 434 σ') (fun σ' t=>⟨rfl,t⟩) callerA st.2.1 (fun b=>cx.hb.get? b) [.ref la] _ ⟨rfl,by decide,by decide⟩ I St (.cons hla .nil) (fun v s' σ' Z' d gr i st sm rp q=>?_) fun zz zz zz zz zz h=>h.elim
 refine ck q fun q0 ps t1 zz=>?_;clear q;subst q0
 cases rp using aw.E2
 refine jm sm fun h' t' q2=>?_;clear sm;subst q2
 refine hR h' t' ps (fun b o hb e=>?_) ?_
 ·refine aF (gr.keep b o (fun h=>h) (Hx b hb) e) fun o' e' q=>?_
  rcases q with rfl|⟨f,_⟩
  ·exact e'
  ·exact absurd f (FZ b)
 ·refine ck (i.own 434 _ t1) fun zz o e hm=>?_
  cases hm;exact e
set_option tactic.hygienic true in
theorem Cz:WalkO q0 fe (XL q0 []) H0.says (OpenLaw.row Ak).toRowW BU [] fun f vs=>PySem.call f vs:=by
 intro w s₀ s₁ mg mb G Y fa o pm cd doc dV kV ho hd hcd hD hmg hg args vals as hpre hlay hrd hwl hlo
 revert G Y ho hd hcd hD hmg hg hpre hlay hrd hwl hlo;revert as;revert w s₀ s₁ mg mb fa o pm cd doc dV kV args vals;apply xF
 generalize (br _ _).1.1.1.1=w,(br _ _).1.1.1.2=s₀,(br _ _).1.1.2.1=s₁,(br _ _).1.1.2.2=mg,(br _ _).1.2.1.1=mb,(br _ _).1.2.1.2=fa,(br _ _).1.2.2=o,(br _ _).2.1.1.1=pm,(br _ _).2.1.1.2=cd,(br _ _).2.1.2.1=doc,(br _ _).2.1.2.2=dV,(br _ _).2.2.1.1=kV,(br _ _).2.2.1.2=args,(br _ _).2.2.2=vals;intro as G Y ho hd hcd hD hmg hg hpre hlay hrd hwl hlo
 have KX:(sh w.params).In s₁.heap:=Y
 have T:=G.T
 have hsh:=(pre_splitW hpre).1
 have hcond:=(pre_splitW hpre).2
 wrow_hasAll hsh hlay
 wrow_readAll hrd hwl hlo
 w_cond hcond
 rename_i is hs _ hl1 _ _ _ _ la vs _ hL ra w1 r0 hI _ hZ _
 clear ho hd hcd hD
 have hfa:fa=437:=by
  have e:mg (ofString "law")=some (.ref 437):=mg_of (K:=kW w.params) (lW KX) (pB KX T.g) (by kernel_rfl)
  rw[show mg (ofString "law")=some (.ref fa)from hmg]at e
  cases e;rfl
 subst hfa
 refine enter_call ?_
 have hP:s₁.heap.get? 434=some (tabObj #[]):=KX 434 _ rfl
 have hC:CodeHd (hideAll s₁.heap [434]) 436 434:=codeHd_of_K (lW KX) (by kernel_rfl)
 refine cz hL fun o e hc CU=>xE CU fun n hd=>?_;clear CU;clear hL
 rw[ofPy]at w1
 cases w1 with|list e2 _=>
 rw[e]at e2;(replace e2:=sI e2;subst e2)
 cases hd
 refine Af Ck (w,s₁,mg,mb) ⟨KX,T.g,T.b,T.nolimit,T.builtins,bmod_of_top T⟩ la _ _ is _ (by omega) e hI fun h' t' ps keep tab=>?_
 refine(fw (.inl (cV (.bool true) (.bool true) [] rfl (fun cls=>?_) (.bool true) ?_ (fun zz=>⟨.nil,fun zz h=>(by exact nM h)⟩))) ⟨fun b o e=>?_,fun b o e=>?_⟩ rfl ?_)
 ·rfl
 ·exact postW_of (by wrow_shape) (by wtm_val) (by w_fin)
 ·by_cases q:b=434
  ·subst q;rw[hP]at e;(replace e:=sI e;subst e)
   exact .inr (.inl (dx (((hC.keeps fun b o e=>of_hideAll [434] e).tab hP).isCodeTable) rfl (fP (#[]) ps rfl (by refine rE tab ?_;simp))))
  ·exact .inl (keep b o q e)
 ·by_cases q:b=434
  ·exact(iE _ (by exact rE q tab))
  ·exact(iE o (keep b o q e))
 ·exact AllBare.of_eq hg
end
end Lz
theorem PySem.Challenge.cw_pq0602_01_holds : PySem.Challenge.rw_pq0602_01.Holds :=
  Lz.CI Lz.Cz
