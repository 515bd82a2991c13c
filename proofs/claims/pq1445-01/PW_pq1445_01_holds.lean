import PyProof.Rows.All
import Wide.All
import OpenK.AllK
import Wide.FinOn
import Open.Row
import Lean
import PySem.Challenge.RW_pq1445_01
set_option Elab.async false
set_option maxRecDepth 100000
set_option tactic.hygienic false
set_option bootstrap.genMatcherCode false
set_option backward.match.sparseCases false
set_option genSizeOf false
set_option genInjectivity false
set_option linter.unusedSimpArgs false
set_option linter.unusedVariables false
namespace Mine
section SU0
open PySem
theorem AI{α:Type}{a:α}{P:Prop}(h:none=some a):P:=nomatch h
theorem Y4{α:Type}{a:α}{P:Prop}(h:some a=none):P:=nomatch h
theorem EE{P:Prop}(h:false=true):P:=nomatch h
theorem B8{α:Type}{a a':α}{P:Prop}(h:some a=some a')(k:a'=a→P):P:=k (Option.some.inj h).symm
theorem Kz{α β:Type}{a a':α}{b b':β}{P:Prop}(h:(a,b)=(a',b'))(k:a'=a→b'=b→P):P:=k (congrArg Prod.fst h).symm (congrArg Prod.snd h).symm
theorem I1{α β:Type}{a a':α}{b b':β}{P:Prop}(h:some (a,b)=some (a',b'))(k:a'=a→b'=b→P):P:=Kz (Option.some.inj h) k
theorem nj3{α β γ:Type}{a a':α}{b b':β}{c c':γ}{P:Prop}(h:some ((a,b),c)=some ((a',b'),c'))(k:a'=a→b'=b→c'=c→P):P:=I1 h fun x y=>Kz x.symm fun u v=>k u v y
theorem Ci{a b:Bool}{P:Prop}(h:(a&&b)=true)(k:a=true→b=true→P):P:=(Bool.and_eq_true_iff.mp h).elim k
end SU0
section SXE
open PySem
theorem J1{A B P:Prop}:A∧B→(A→B→P)→P:=fun⟨a0,a1⟩ k=>k a0 a1
theorem L2{A B C P:Prop}:A∧B∧C→(A→B→C→P)→P:=fun⟨a0,a1,a2⟩ k=>k a0 a1 a2
theorem VU{A B C D P:Prop}:A∧B∧C∧D→(A→B→C→D→P)→P:=fun⟨a0,a1,a2,a3⟩ k=>k a0 a1 a2 a3
theorem x05{A B C D E P:Prop}:A∧B∧C∧D∧E→(A→B→C→D→E→P)→P:=fun⟨a0,a1,a2,a3,a4⟩ k=>k a0 a1 a2 a3 a4
theorem x06{A B C D E F P:Prop}:A∧B∧C∧D∧E∧F→(A→B→C→D→E→F→P)→P:=fun⟨a0,a1,a2,a3,a4,a5⟩ k=>k a0 a1 a2 a3 a4 a5
theorem Pd{α:Type}{A:α→Prop}{P:Prop}:(∃ x,A x)→(∀ x,A x→P)→P:=fun⟨x,a0⟩ k=>k x a0
theorem BA{α:Type}{A B:α→Prop}{P:Prop}:(∃ x,A x∧B x)→(∀ x,A x→B x→P)→P:=fun⟨x,a0,a1⟩ k=>k x a0 a1
theorem FE{α:Type}{A B C:α→Prop}{P:Prop}:(∃ x,A x∧B x∧C x)→(∀ x,A x→B x→C x→P)→P:=fun⟨x,a0,a1,a2⟩ k=>k x a0 a1 a2
theorem Pe{α:Type}{A B C D:α→Prop}{P:Prop}:(∃ x,A x∧B x∧C x∧D x)→(∀ x,A x→B x→C x→D x→P)→P:=fun⟨x,a0,a1,a2,a3⟩ k=>k x a0 a1 a2 a3
theorem x15{α:Type}{A B C D E:α→Prop}{P:Prop}:(∃ x,A x∧B x∧C x∧D x∧E x)→(∀ x,A x→B x→C x→D x→E x→P)→P:=fun⟨x,a0,a1,a2,a3,a4⟩ k=>k x a0 a1 a2 a3 a4
theorem x16{α:Type}{A B C D E F:α→Prop}{P:Prop}:(∃ x,A x∧B x∧C x∧D x∧E x∧F x)→(∀ x,A x→B x→C x→D x→E x→F x→P)→P:=fun⟨x,a0,a1,a2,a3,a4,a5⟩ k=>k x a0 a1 a2 a3 a4 a5
theorem NK{α β:Type}{A:α→β→Prop}{P:Prop}:(∃ x y,A x y)→(∀ x y,A x y→P)→P:=fun⟨x,y,a0⟩ k=>k x y a0
theorem EK{α β:Type}{A B:α→β→Prop}{P:Prop}:(∃ x y,A x y∧B x y)→(∀ x y,A x y→B x y→P)→P:=fun⟨x,y,a0,a1⟩ k=>k x y a0 a1
theorem Dx{α β:Type}{A B C:α→β→Prop}{P:Prop}:(∃ x y,A x y∧B x y∧C x y)→(∀ x y,A x y→B x y→C x y→P)→P:=fun⟨x,y,a0,a1,a2⟩ k=>k x y a0 a1 a2
theorem Ie{α β:Type}{A B C D:α→β→Prop}{P:Prop}:(∃ x y,A x y∧B x y∧C x y∧D x y)→(∀ x y,A x y→B x y→C x y→D x y→P)→P:=fun⟨x,y,a0,a1,a2,a3⟩ k=>k x y a0 a1 a2 a3
theorem x25{α β:Type}{A B C D E:α→β→Prop}{P:Prop}:(∃ x y,A x y∧B x y∧C x y∧D x y∧E x y)→(∀ x y,A x y→B x y→C x y→D x y→E x y→P)→P:=fun⟨x,y,a0,a1,a2,a3,a4⟩ k=>k x y a0 a1 a2 a3 a4
theorem x26{α β:Type}{A B C D E F:α→β→Prop}{P:Prop}:(∃ x y,A x y∧B x y∧C x y∧D x y∧E x y∧F x y)→(∀ x y,A x y→B x y→C x y→D x y→E x y→F x y→P)→P:=fun⟨x,y,a0,a1,a2,a3,a4,a5⟩ k=>k x y a0 a1 a2 a3 a4 a5
theorem W6{α β:Type}{A B C D E F G:α→β→Prop}{P:Prop}:(∃ x y,A x y∧B x y∧C x y∧D x y∧E x y∧F x y∧G x y)→(∀ x y,A x y→B x y→C x y→D x y→E x y→F x y→G x y→P)→P:=fun⟨x,y,a0,a1,a2,a3,a4,a5,a6⟩ k=>k x y a0 a1 a2 a3 a4 a5 a6
theorem ci{α β γ:Type}{A:α→β→γ→Prop}{P:Prop}:(∃ x y z,A x y z)→(∀ x y z,A x y z→P)→P:=fun⟨x,y,z,a0⟩ k=>k x y z a0
theorem Wf{α β γ:Type}{A B:α→β→γ→Prop}{P:Prop}:(∃ x y z,A x y z∧B x y z)→(∀ x y z,A x y z→B x y z→P)→P:=fun⟨x,y,z,a0,a1⟩ k=>k x y z a0 a1
theorem x33{α β γ:Type}{A B C:α→β→γ→Prop}{P:Prop}:(∃ x y z,A x y z∧B x y z∧C x y z)→(∀ x y z,A x y z→B x y z→C x y z→P)→P:=fun⟨x,y,z,a0,a1,a2⟩ k=>k x y z a0 a1 a2
theorem x34{α β γ:Type}{A B C D:α→β→γ→Prop}{P:Prop}:(∃ x y z,A x y z∧B x y z∧C x y z∧D x y z)→(∀ x y z,A x y z→B x y z→C x y z→D x y z→P)→P:=fun⟨x,y,z,a0,a1,a2,a3⟩ k=>k x y z a0 a1 a2 a3
theorem x35{α β γ:Type}{A B C D E:α→β→γ→Prop}{P:Prop}:(∃ x y z,A x y z∧B x y z∧C x y z∧D x y z∧E x y z)→(∀ x y z,A x y z→B x y z→C x y z→D x y z→E x y z→P)→P:=fun⟨x,y,z,a0,a1,a2,a3,a4⟩ k=>k x y z a0 a1 a2 a3 a4
theorem Xq{α β γ:Type}{A B C D E F:α→β→γ→Prop}{P:Prop}:(∃ x y z,A x y z∧B x y z∧C x y z∧D x y z∧E x y z∧F x y z)→(∀ x y z,A x y z→B x y z→C x y z→D x y z→E x y z→F x y z→P)→P:=fun⟨x,y,z,a0,a1,a2,a3,a4,a5⟩ k=>k x y z a0 a1 a2 a3 a4 a5
theorem X8{α β γ:Type}{A B C D E F G:α→β→γ→Prop}{P:Prop}:(∃ x y z,A x y z∧B x y z∧C x y z∧D x y z∧E x y z∧F x y z∧G x y z)→(∀ x y z,A x y z→B x y z→C x y z→D x y z→E x y z→F x y z→G x y z→P)→P:=fun⟨x,y,z,a0,a1,a2,a3,a4,a5,a6⟩ k=>k x y z a0 a1 a2 a3 a4 a5 a6
theorem x38{α β γ:Type}{A B C D E F G H:α→β→γ→Prop}{P:Prop}:(∃ x y z,A x y z∧B x y z∧C x y z∧D x y z∧E x y z∧F x y z∧G x y z∧H x y z)→(∀ x y z,A x y z→B x y z→C x y z→D x y z→E x y z→F x y z→G x y z→H x y z→P)→P:=fun⟨x,y,z,a0,a1,a2,a3,a4,a5,a6,a7⟩ k=>k x y z a0 a1 a2 a3 a4 a5 a6 a7
theorem x41{α β γ δ:Type}{A:α→β→γ→δ→Prop}{P:Prop}:(∃ x y z u,A x y z u)→(∀ x y z u,A x y z u→P)→P:=fun⟨x,y,z,u,a0⟩ k=>k x y z u a0
theorem X9{α β γ δ:Type}{A B:α→β→γ→δ→Prop}{P:Prop}:(∃ x y z u,A x y z u∧B x y z u)→(∀ x y z u,A x y z u→B x y z u→P)→P:=fun⟨x,y,z,u,a0,a1⟩ k=>k x y z u a0 a1
theorem Xr{α β γ δ:Type}{A B C:α→β→γ→δ→Prop}{P:Prop}:(∃ x y z u,A x y z u∧B x y z u∧C x y z u)→(∀ x y z u,A x y z u→B x y z u→C x y z u→P)→P:=fun⟨x,y,z,u,a0,a1,a2⟩ k=>k x y z u a0 a1 a2
theorem cj{α β γ δ:Type}{A B C D:α→β→γ→δ→Prop}{P:Prop}:(∃ x y z u,A x y z u∧B x y z u∧C x y z u∧D x y z u)→(∀ x y z u,A x y z u→B x y z u→C x y z u→D x y z u→P)→P:=fun⟨x,y,z,u,a0,a1,a2,a3⟩ k=>k x y z u a0 a1 a2 a3
theorem cm{α β γ δ:Type}{A B C D E F G:α→β→γ→δ→Prop}{P:Prop}:(∃ x y z u,A x y z u∧B x y z u∧C x y z u∧D x y z u∧E x y z u∧F x y z u∧G x y z u)→(∀ x y z u,A x y z u→B x y z u→C x y z u→D x y z u→E x y z u→F x y z u→G x y z u→P)→P:=fun⟨x,y,z,u,a0,a1,a2,a3,a4,a5,a6⟩ k=>k x y z u a0 a1 a2 a3 a4 a5 a6
theorem x53{α β γ δ ε:Type}{A B C:α→β→γ→δ→ε→Prop}{P:Prop}:(∃ x y z u v,A x y z u v∧B x y z u v∧C x y z u v)→(∀ x y z u v,A x y z u v→B x y z u v→C x y z u v→P)→P:=fun⟨x,y,z,u,v,a0,a1,a2⟩ k=>k x y z u v a0 a1 a2
theorem x57{α β γ δ ε:Type}{A B C D E F G:α→β→γ→δ→ε→Prop}{P:Prop}:(∃ x y z u v,A x y z u v∧B x y z u v∧C x y z u v∧D x y z u v∧E x y z u v∧F x y z u v∧G x y z u v)→(∀ x y z u v,A x y z u v→B x y z u v→C x y z u v→D x y z u v→E x y z u v→F x y z u v→G x y z u v→P)→P:=fun⟨x,y,z,u,v,a0,a1,a2,a3,a4,a5,a6⟩ k=>k x y z u v a0 a1 a2 a3 a4 a5 a6
theorem x61{α β γ δ ε ζ:Type}{A:α→β→γ→δ→ε→ζ→Prop}{P:Prop}:(∃ x y z u v w,A x y z u v w)→(∀ x y z u v w,A x y z u v w→P)→P:=fun⟨x,y,z,u,v,w,a0⟩ k=>k x y z u v w a0
theorem Ft{α:Type}{A B:α→Prop}(x:α)(a0:A x)(a1:B x):∃ x,A x∧B x:=⟨x,a0,a1⟩
theorem Pf{α:Type}{A B C:α→Prop}(x:α)(a0:A x)(a1:B x)(a2:C x):∃ x,A x∧B x∧C x:=⟨x,a0,a1,a2⟩
theorem VV{α:Type}{A B C D:α→Prop}(x:α)(a0:A x)(a1:B x)(a2:C x)(a3:D x):∃ x,A x∧B x∧C x∧D x:=⟨x,a0,a1,a2,a3⟩
theorem y15{α:Type}{A B C D E:α→Prop}(x:α)(a0:A x)(a1:B x)(a2:C x)(a3:D x)(a4:E x):∃ x,A x∧B x∧C x∧D x∧E x:=⟨x,a0,a1,a2,a3,a4⟩
theorem y16{α:Type}{A B C D E F:α→Prop}(x:α)(a0:A x)(a1:B x)(a2:C x)(a3:D x)(a4:E x)(a5:F x):∃ x,A x∧B x∧C x∧D x∧E x∧F x:=⟨x,a0,a1,a2,a3,a4,a5⟩
theorem Wg{α β:Type}{A:α→β→Prop}(x:α)(y:β)(a0:A x y):∃ x y,A x y:=⟨x,y,a0⟩
theorem Tx{α β:Type}{A B:α→β→Prop}(x:α)(y:β)(a0:A x y)(a1:B x y):∃ x y,A x y∧B x y:=⟨x,y,a0,a1⟩
theorem NL{α β:Type}{A B C:α→β→Prop}(x:α)(y:β)(a0:A x y)(a1:B x y)(a2:C x y):∃ x y,A x y∧B x y∧C x y:=⟨x,y,a0,a1,a2⟩
theorem NF{α β:Type}{A B C D:α→β→Prop}(x:α)(y:β)(a0:A x y)(a1:B x y)(a2:C x y)(a3:D x y):∃ x y,A x y∧B x y∧C x y∧D x y:=⟨x,y,a0,a1,a2,a3⟩
theorem y25{α β:Type}{A B C D E:α→β→Prop}(x:α)(y:β)(a0:A x y)(a1:B x y)(a2:C x y)(a3:D x y)(a4:E x y):∃ x y,A x y∧B x y∧C x y∧D x y∧E x y:=⟨x,y,a0,a1,a2,a3,a4⟩
theorem y26{α β:Type}{A B C D E F:α→β→Prop}(x:α)(y:β)(a0:A x y)(a1:B x y)(a2:C x y)(a3:D x y)(a4:E x y)(a5:F x y):∃ x y,A x y∧B x y∧C x y∧D x y∧E x y∧F x y:=⟨x,y,a0,a1,a2,a3,a4,a5⟩
theorem Xs{α β:Type}{A B C D E F G:α→β→Prop}(x:α)(y:β)(a0:A x y)(a1:B x y)(a2:C x y)(a3:D x y)(a4:E x y)(a5:F x y)(a6:G x y):∃ x y,A x y∧B x y∧C x y∧D x y∧E x y∧F x y∧G x y:=⟨x,y,a0,a1,a2,a3,a4,a5,a6⟩
theorem y31{α β γ:Type}{A:α→β→γ→Prop}(x:α)(y:β)(z:γ)(a0:A x y z):∃ x y z,A x y z:=⟨x,y,z,a0⟩
theorem cq{α β γ:Type}{A B:α→β→γ→Prop}(x:α)(y:β)(z:γ)(a0:A x y z)(a1:B x y z):∃ x y z,A x y z∧B x y z:=⟨x,y,z,a0,a1⟩
theorem y33{α β γ:Type}{A B C:α→β→γ→Prop}(x:α)(y:β)(z:γ)(a0:A x y z)(a1:B x y z)(a2:C x y z):∃ x y z,A x y z∧B x y z∧C x y z:=⟨x,y,z,a0,a1,a2⟩
theorem y34{α β γ:Type}{A B C D:α→β→γ→Prop}(x:α)(y:β)(z:γ)(a0:A x y z)(a1:B x y z)(a2:C x y z)(a3:D x y z):∃ x y z,A x y z∧B x y z∧C x y z∧D x y z:=⟨x,y,z,a0,a1,a2,a3⟩
theorem y35{α β γ:Type}{A B C D E:α→β→γ→Prop}(x:α)(y:β)(z:γ)(a0:A x y z)(a1:B x y z)(a2:C x y z)(a3:D x y z)(a4:E x y z):∃ x y z,A x y z∧B x y z∧C x y z∧D x y z∧E x y z:=⟨x,y,z,a0,a1,a2,a3,a4⟩
theorem y36{α β γ:Type}{A B C D E F:α→β→γ→Prop}(x:α)(y:β)(z:γ)(a0:A x y z)(a1:B x y z)(a2:C x y z)(a3:D x y z)(a4:E x y z)(a5:F x y z):∃ x y z,A x y z∧B x y z∧C x y z∧D x y z∧E x y z∧F x y z:=⟨x,y,z,a0,a1,a2,a3,a4,a5⟩
theorem Xu{α β γ:Type}{A B C D E F G:α→β→γ→Prop}(x:α)(y:β)(z:γ)(a0:A x y z)(a1:B x y z)(a2:C x y z)(a3:D x y z)(a4:E x y z)(a5:F x y z)(a6:G x y z):∃ x y z,A x y z∧B x y z∧C x y z∧D x y z∧E x y z∧F x y z∧G x y z:=⟨x,y,z,a0,a1,a2,a3,a4,a5,a6⟩
theorem y38{α β γ:Type}{A B C D E F G H:α→β→γ→Prop}(x:α)(y:β)(z:γ)(a0:A x y z)(a1:B x y z)(a2:C x y z)(a3:D x y z)(a4:E x y z)(a5:F x y z)(a6:G x y z)(a7:H x y z):∃ x y z,A x y z∧B x y z∧C x y z∧D x y z∧E x y z∧F x y z∧G x y z∧H x y z:=⟨x,y,z,a0,a1,a2,a3,a4,a5,a6,a7⟩
theorem y41{α β γ δ:Type}{A:α→β→γ→δ→Prop}(x:α)(y:β)(z:γ)(u:δ)(a0:A x y z u):∃ x y z u,A x y z u:=⟨x,y,z,u,a0⟩
theorem cr{α β γ δ:Type}{A B C D E F G:α→β→γ→δ→Prop}(x:α)(y:β)(z:γ)(u:δ)(a0:A x y z u)(a1:B x y z u)(a2:C x y z u)(a3:D x y z u)(a4:E x y z u)(a5:F x y z u)(a6:G x y z u):∃ x y z u,A x y z u∧B x y z u∧C x y z u∧D x y z u∧E x y z u∧F x y z u∧G x y z u:=⟨x,y,z,u,a0,a1,a2,a3,a4,a5,a6⟩
theorem y53{α β γ δ ε:Type}{A B C:α→β→γ→δ→ε→Prop}(x:α)(y:β)(z:γ)(u:δ)(v:ε)(a0:A x y z u v)(a1:B x y z u v)(a2:C x y z u v):∃ x y z u v,A x y z u v∧B x y z u v∧C x y z u v:=⟨x,y,z,u,v,a0,a1,a2⟩
theorem y57{α β γ δ ε:Type}{A B C D E F G:α→β→γ→δ→ε→Prop}(x:α)(y:β)(z:γ)(u:δ)(v:ε)(a0:A x y z u v)(a1:B x y z u v)(a2:C x y z u v)(a3:D x y z u v)(a4:E x y z u v)(a5:F x y z u v)(a6:G x y z u v):∃ x y z u v,A x y z u v∧B x y z u v∧C x y z u v∧D x y z u v∧E x y z u v∧F x y z u v∧G x y z u v:=⟨x,y,z,u,v,a0,a1,a2,a3,a4,a5,a6⟩
theorem bT{α:Type}{b:Bool}{x y:Option α}{r:α}{P:Prop}(e:(match b with | true=>x | false=>y)=some r)(t:x=some r→b=true→P)(f:y=some r→b=false→P):P:=by
 cases b with
 | true=>exact t e rfl
 | false=>exact f e rfl
theorem bF{α:Type}{b:Bool}{x y:Option α}{r:α}{P:Prop}(e:(match b with | true=>x | false=>y)=some r)(f:y=some r→b=false→P)(t:x=some r→b=true→P):P:=bT e t f
theorem bT'{α:Type}{b:Bool}{x y:Option α}{r:α}{P:Prop}(e:(match b with | false=>x | true=>y)=some r)(t:y=some r→b=true→P)(f:x=some r→b=false→P):P:=by
 cases b with
 | true=>exact t e rfl
 | false=>exact f e rfl
theorem oM{α β:Type}{o:Option α}{g:α→Option β}{r:β}{P:Prop}(e:(match o with | some a=>g a | none=>none)=some r)(k:∀ a,g a=some r→o=some a→P):P:=by
 cases o with
 | some a=>exact k a e rfl
 | none=>cases (e)
end SXE
local macro_rules | `(tactic| cases $h:ident) => `(tactic| first | exact AI $h | exact Y4 $h | exact EE $h | subst $h | (refine nj3 $h fun h1 h2 h3 => ?_; try clear $h; (first | subst h1 | cases (h1)) <;> (first | subst h2 | cases (h2)) <;> (first | subst h3 | cases (h3))) | (refine I1 $h fun h1 h2 => ?_; try clear $h; (first | subst h1 | cases (h1)) <;> (first | subst h2 | cases (h2))) | (refine B8 $h fun h1 => ?_; try clear $h; (first | subst h1 | cases (h1))) | (refine Kz $h fun h1 h2 => ?_; try clear $h; (first | subst h1 | cases (h1)) <;> (first | subst h2 | cases (h2))) | cases ($h))
local macro_rules | `(tactic| rfl') => `(tactic| (refine (?_ : let P : Prop := _; P); intro P))
section SU1
open PySem
inductive E where
 | n (k:Nat)
 | v (i:Nat)
 | a (x y:E)
 | m (x y:E)
noncomputable def E.den (l:List Nat) (e:E):Nat:=E.rec (fun k=>k) (fun i=>l[i]?.getD 0) (fun _ _ p q=>p+q) (fun _ _ p q=>p*q) e
noncomputable def dtL:List Nat→List Nat→Nat
 | p::ps,q::qs=>p*q+dtL ps qs
 | _,_=>0
noncomputable def plus:List Nat→List Nat→List Nat
 | p::ps,q::qs=>(p+q)::plus ps qs
 | [],qs=>qs
 | ps,[]=>ps
noncomputable def unit:Nat→List Nat
 | 0=>[1]
 | i+1=>0::unit i
noncomputable def scale (k:Nat) (p:List Nat):List Nat:=p.map (k*·)
noncomputable def isN:List Nat→Bool
 | [_]=>true
 | _=>false
noncomputable def E.co (e:E):Option (List Nat):=E.rec (fun k=>some [k]) (fun i=>some (0::unit i)) (fun _ _ p q=>p.bind fun p=>q.map fun q=>plus p q)
 (fun _ _ p q=>p.bind fun p=>q.bind fun q=>match isN p,isN q with | true,_=>some (scale (p.headD 0) q) | false,true=>some (scale (q.headD 0) p) | _,_=>none) e
theorem Fk(l:List Nat):dtL [] l=0:=by cases (l)<;>rfl
theorem Lk:∀ p q l:List Nat,dtL (plus p q) l=dtL p l+dtL q l:=by
 intro q1_
 induction q1_ with
 | nil=>intro q l;rw[Fk,Nat.zero_add];cases (q)<;>rfl
 | cons p ps ih_ =>
  intro q2_;cases q2_ with
  | nil=>intro l;rfl
  | cons q qs =>
   intro q3_;cases q3_ with
   | nil=>exact rfl
   | cons x l=>show(p+q)*x+dtL (plus ps qs) l=(p*x+dtL ps l)+(q*x+dtL qs l);rw[ih_ qs l,Nat.add_mul,Nat.add_add_add_comm]
theorem HN(k:Nat):∀ p l:List Nat,dtL (scale k p) l=k*dtL p l:=by
 intro q1_
 induction q1_ with
 | nil=>intro l;show dtL [] l=_;rw[Fk];rfl
 | cons p ps ih_ =>
  intro q2_;cases q2_ with
  | nil=>exact rfl
  | cons x l=>show k*p*x+dtL (scale k ps) l=k*(p*x+dtL ps l);rw[ih_ l,Nat.mul_add,Nat.mul_assoc]
theorem SU:∀(i:Nat) (l:List Nat),dtL (unit i) l=l[i]?.getD 0:=by
 intro q1_
 induction q1_ with
 | zero =>
  intro q2_;cases q2_ with
  | nil=>exact rfl
  | cons x l=>show 1*x+dtL [] l=x;rw[Fk,Nat.one_mul];rfl
 | succ i ih_ =>
  intro q3_;cases q3_ with
  | nil=>exact rfl
  | cons x l=>show 0*x+dtL (unit i) l=_;rw[ih_ l,Nat.zero_mul,Nat.zero_add];rfl
theorem Sk:∀{p:List Nat} (l:List Nat),isN p=true→p.headD 0=dtL p (1::l)
 | [k],l,_=>by show k=k*1+dtL [] l;rw[Fk,Nat.mul_one];rfl
theorem E.co_den(l:List Nat):∀(e:E) (p:List Nat),e.co=some p→e.den l=dtL p (1::l)
 | .n k,_,rfl=>by show k=k*1+dtL [] l;rw[Fk,Nat.mul_one];rfl
 | .v i,_,rfl=>by show _=0*1+dtL (unit i) l;rw[SU i l,Nat.zero_mul,Nat.zero_add];rfl
 | .a x y,p,h=>by
  obtain⟨u,hu,h⟩:=Option.bind_eq_some_iff.mp (show x.co.bind (fun p=>y.co.map fun q=>plus p q)=some p from h)
  refine BA (Option.map_eq_some_iff.mp h) fun v hv z_2=>?_;subst z_2;rw[Lk,← x.co_den l u hu,← y.co_den l v hv];rfl
 | .m x y,p,h=>by
  refine BA (Option.bind_eq_some_iff.mp (show x.co.bind (fun p=>y.co.bind fun q=>match isN p,isN q with | true,_=>some (scale (p.headD 0) q) | false,true=>some (scale (q.headD 0) p) | _,_=>none)=some p from h)) fun u hu h=>?_
  refine BA (Option.bind_eq_some_iff.mp h) fun v hv h=>?_;show x.den l*y.den l=_;rw[x.co_den l u hu,y.co_den l v hv];cases hp:isN u with
  | true=>rw[hp] at h;cases h;rw[HN,Sk l hp]
  | false =>
   rw[hp] at h;cases hq:isN v with
   | true=>rw[hq] at h;cases h;rw[HN,Sk l hq,Nat.mul_comm]
   | false=>rw[hq] at h;cases h
inductive Co where
 | l (k:Nat) (x y:E)
 | e (k j:Nat) (x y:E)
 | t (k:Nat) (x y:E)
 | o (k:Nat) (x y:E)
noncomputable def Co.den (l:List Nat) (c:Co):Prop:=Co.rec (fun _ x y=>x.den l≤y.den l) (fun _ _ x y=>x.den l=y.den l) (fun _ x y=>¬ x.den l<y.den l) (fun _ x y=>¬ x.den l≤y.den l) c
noncomputable def sc (k:Nat) (x:E):Option (List Nat):=x.co.map (scale k)
noncomputable def pl (p q:Option (List Nat)):Option (List Nat):=p.bind fun p=>q.map fun q=>plus p q
noncomputable def Co.lo (c:Co):Option (List Nat):=Co.rec (fun k x _=>sc k x) (fun k j x y=>pl (sc k x) (sc j y)) (fun k _ y=>sc k y) (fun k _ y=>sc k (.a y (.n 1))) c
noncomputable def Co.hi (c:Co):Option (List Nat):=Co.rec (fun k _ y=>sc k y) (fun k j x y=>pl (sc k y) (sc j x)) (fun k x _=>sc k x) (fun k x _=>sc k x) c
noncomputable def sumOf:List (Option (List Nat))→Option (List Nat)
 | []=>some []
 | p::r=>pl p (sumOf r)
noncomputable def geL:List Nat→List Nat→Bool
 | p::ps,q::qs=>Nat.ble q p&&geL ps qs
 | _,[]=>true
 | [],q::qs=>Nat.ble q 0&&geL [] qs
noncomputable def gtL:List Nat→List Nat→Bool
 | p::ps,q::qs=>Nat.ble (q+1) p&&geL ps qs
 | p::_,[]=>Nat.ble 1 p
 | [],_=>false
noncomputable def ck (cs:List Co):Bool:=match sumOf (cs.map Co.lo),sumOf (cs.map Co.hi) with
 | some p,some q=>gtL p q
 | _,_=>false
theorem GH{k:Nat}{x:E}{p:List Nat}(l:List Nat)(h:sc k x=some p):dtL p (1::l)=k*x.den l:=by refine BA (Option.map_eq_some_iff.mp h) fun u hu z_2=>?_;subst z_2;rw[HN,x.co_den l u hu]
theorem P1{p q:Option (List Nat)}{r:List Nat}(h:pl p q=some r)(l:List Nat):∃ u v,p=some u∧q=some v∧dtL r l=dtL u l+dtL v l:=by refine BA (Option.bind_eq_some_iff.mp h) fun u hu h=>?_;refine BA (Option.map_eq_some_iff.mp h) fun v hv z_2=>?_;subst z_2;exact NL u v hu hv (Lk _ _ _)
theorem Co.le{l:List Nat}{p q:List Nat}:∀(c:Co),c.den l→c.lo=some p→c.hi=some q→dtL p (1::l)≤dtL q (1::l)
 | .l k x y,h,a,b=>by rw[GH l a,GH l b];exact Nat.mul_le_mul_left k h
 | .e k j x y,h,a,b=>by
  refine Dx (P1 a (1::l)) fun u v hu hv e=>?_;refine Dx (P1 b (1::l)) fun u' v' hu' hv' e'=>?_;rw[e,e',GH l hu,GH l hv,GH l hu',GH l hv',show x.den l=y.den l from h]
  exact Nat.le_refl _
 | .t k x y,h,a,b=>by rw[GH l a,GH l b];exact Nat.mul_le_mul_left k (Nat.not_lt.mp h)
 | .o k x y,h,a,b=>by rw[GH l a,GH l b];exact Nat.mul_le_mul_left k (Nat.not_le.mp h)
theorem Ni:∀{p q:List Nat} (l:List Nat),geL p q=true→dtL q l≤dtL p l
 | p::ps,q::qs,[],h=>Nat.le_refl _
 | p::ps,q::qs,x::l,h=>by have h:=Bool.and_eq_true_iff.mp h;exact Nat.add_le_add (Nat.mul_le_mul_right x (Nat.le_of_ble_eq_true h.1)) (Ni l h.2)
 | p,[],l,h=>by rw[Fk];exact Nat.zero_le _
 | [],q::qs,[],h=>Nat.le_refl _
 | [],q::qs,x::l,h=>by have h:=Bool.and_eq_true_iff.mp h;have z:=Nat.le_zero.mp (Nat.le_of_ble_eq_true h.1);have r:=Ni l h.2;show q*x+dtL qs l≤0;rw[z,Nat.zero_mul,Nat.zero_add];exact r
theorem V9:∀{p q:List Nat} (l:List Nat),gtL p q=true→dtL q (1::l)<dtL p (1::l)
 | p::ps,q::qs,l,h=>by have h:=Bool.and_eq_true_iff.mp h;have z:=Nat.le_of_ble_eq_true h.1;refine Nat.add_lt_add_of_lt_of_le ?_ (Ni l h.2);rw[Nat.mul_one,Nat.mul_one];exact z
 | p::ps,[],l,h=>by have z:=Nat.le_of_ble_eq_true h;exact Nat.lt_of_lt_of_le (show 0<p*1 by rw[Nat.mul_one];exact z) (Nat.le_add_right _ _)
noncomputable def dens (l:List Nat) (cs:List Co) (P:Prop):Prop:=List.rec P (fun c _ p=>c.den l→p) cs
noncomputable def all_ (l:List Nat):List Co→Prop
 | []=>True
 | c::r=>c.den l∧all_ l r
theorem UU{l:List Nat}{P:Prop}:∀{cs:List Co},(all_ l cs→P)→dens l cs P:=by
 intro q1_
 induction q1_ with
 | nil=>intro h;exact h trivial
 | cons c r ih_=>intro h;exact fun z=>ih_ fun y=>h ⟨z,y⟩
theorem Tf{l:List Nat}:∀{cs:List Co} {p q:List Nat},all_ l cs→sumOf (cs.map Co.lo)=some p→sumOf (cs.map Co.hi)=some q→dtL p (1::l)≤dtL q (1::l)
 | [],_,_,_,rfl,rfl=>Nat.le_refl _
 | c::r,p,q,h,a,b=>by refine Dx (P1 a (1::l)) fun u v hu hv e=>?_;refine Dx (P1 b (1::l)) fun u' v' hu' hv' e'=>?_;rw[e,e'];exact Nat.add_le_add (c.le h.1 hu hu') (Tf h.2 hv hv')
theorem Wq{l:List Nat}{cs:List Co}(h:ck cs=true)(a:all_ l cs):False:=by
 unfold ck at h;cases e:sumOf (cs.map Co.lo) with
 | none=>rw[e] at h;cases h
 | some p =>
  rw[e] at h;cases e':sumOf (cs.map Co.hi) with
  | none=>rw[e'] at h;cases h
  | some q=>rw[e'] at h;exact Nat.not_lt.mpr (Tf a e e') (V9 l h)
inductive Go where
 | lt (x y:E)
 | le (x y:E)
 | ne (k j:Nat) (x y:E)
 | nt (x y:E)
 | nl (x y:E)
 | no
noncomputable def Go.den (l:List Nat) (g:Go):Prop:=Go.rec (fun x y=>x.den l<y.den l) (fun x y=>x.den l≤y.den l) (fun _ _ x y=>¬ x.den l=y.den l) (fun x y=>¬ x.den l<y.den l) (fun x y=>¬ x.den l≤y.den l) False g
noncomputable def Go.not (g:Go):List Co:=Go.rec (fun x y=>[.l 1 y x]) (fun x y=>[.l 1 (.a y (.n 1)) x]) (fun k j x y=>[.e k j x y]) (fun x y=>[.l 1 (.a x (.n 1)) y]) (fun x y=>[.l 1 x y]) [] g
theorem Go.by{l:List Nat}:∀(g:Go),(all_ l g.not→False)→g.den l
 | .lt x y,h=>Nat.lt_of_not_le fun z=>h ⟨z,trivial⟩
 | .le x y,h=>Nat.le_of_not_lt fun z=>h ⟨z,trivial⟩
 | .ne k j x y,h=>fun z=>h ⟨z,trivial⟩
 | .nt x y,h=>fun z=>h ⟨z,trivial⟩
 | .nl x y,h=>fun z=>h ⟨z,trivial⟩
 | .no,h=>h trivial
theorem UB{l:List Nat}:∀{cs ds:List Co},all_ l cs→all_ l ds→all_ l (cs++ds):=by
 intro q1_
 induction q1_ with
 | nil=>intro _ _ b;exact b
 | cons q2_ q3_ ih_=>intro _ a b;exact⟨a.1,ih_ a.2 b⟩
theorem AE(l:List Nat)(cs:List Co)(g:Go)(h:ck (cs++g.not)=true):dens l cs (g.den l):=UU fun a=>g.by fun b=>Wq h (UB a b)
variable {a b c d e f g h i j k l:Nat}
theorem o1:a<b→¬a=b+12∧¬a=b+1∧¬a=b+13∧¬a=b+13+1∧¬a=b+13+2∧¬a=b+13+3∧¬a=b+13+4∧¬a=b+13+5∧¬a=b+13+6∧¬a=b+13+7∧¬a=b+13+8:=fun h0=>⟨AE [a,b] [.l 1 (.a (.v 0) (.n 1)) (.v 1)] (.ne 0 1 (.v 0) (.a (.v 1) (.n 12))) rfl h0,⟨AE [a,b] [.l 1 (.a (.v 0) (.n 1)) (.v 1)] (.ne 0 1 (.v 0) (.a (.v 1) (.n 1))) rfl h0,⟨AE [a,b] [.l 1 (.a (.v 0) (.n 1)) (.v 1)] (.ne 0 1 (.v 0) (.a (.v 1) (.n 13))) rfl h0,⟨AE [a,b] [.l 1 (.a (.v 0) (.n 1)) (.v 1)] (.ne 0 1 (.v 0) (.a (.a (.v 1) (.n 13)) (.n 1))) rfl h0,⟨AE [a,b] [.l 1 (.a (.v 0) (.n 1)) (.v 1)] (.ne 0 1 (.v 0) (.a (.a (.v 1) (.n 13)) (.n 2))) rfl h0,⟨AE [a,b] [.l 1 (.a (.v 0) (.n 1)) (.v 1)] (.ne 0 1 (.v 0) (.a (.a (.v 1) (.n 13)) (.n 3))) rfl h0,⟨AE [a,b] [.l 1 (.a (.v 0) (.n 1)) (.v 1)] (.ne 0 1 (.v 0) (.a (.a (.v 1) (.n 13)) (.n 4))) rfl h0,⟨AE [a,b] [.l 1 (.a (.v 0) (.n 1)) (.v 1)] (.ne 0 1 (.v 0) (.a (.a (.v 1) (.n 13)) (.n 5))) rfl h0,⟨AE [a,b] [.l 1 (.a (.v 0) (.n 1)) (.v 1)] (.ne 0 1 (.v 0) (.a (.a (.v 1) (.n 13)) (.n 6))) rfl h0,⟨AE [a,b] [.l 1 (.a (.v 0) (.n 1)) (.v 1)] (.ne 0 1 (.v 0) (.a (.a (.v 1) (.n 13)) (.n 7))) rfl h0,AE [a,b] [.l 1 (.a (.v 0) (.n 1)) (.v 1)] (.ne 0 1 (.v 0) (.a (.a (.v 1) (.n 13)) (.n 8))) rfl h0⟩⟩⟩⟩⟩⟩⟩⟩⟩⟩
theorem o2:a<b→¬a=b∧¬a=b+1∧¬a=b+2∧¬a=b+2+1∧¬a=b+2+2∧¬a=b+2+3∧¬a=b+2+4∧¬a=b+2+5∧¬a=b+2+6∧¬a=b+2+7∧¬a=b+2+8:=fun h0=>⟨AE [a,b] [.l 1 (.a (.v 0) (.n 1)) (.v 1)] (.ne 0 1 (.v 0) (.v 1)) rfl h0,⟨AE [a,b] [.l 1 (.a (.v 0) (.n 1)) (.v 1)] (.ne 0 1 (.v 0) (.a (.v 1) (.n 1))) rfl h0,⟨AE [a,b] [.l 1 (.a (.v 0) (.n 1)) (.v 1)] (.ne 0 1 (.v 0) (.a (.v 1) (.n 2))) rfl h0,⟨AE [a,b] [.l 1 (.a (.v 0) (.n 1)) (.v 1)] (.ne 0 1 (.v 0) (.a (.a (.v 1) (.n 2)) (.n 1))) rfl h0,⟨AE [a,b] [.l 1 (.a (.v 0) (.n 1)) (.v 1)] (.ne 0 1 (.v 0) (.a (.a (.v 1) (.n 2)) (.n 2))) rfl h0,⟨AE [a,b] [.l 1 (.a (.v 0) (.n 1)) (.v 1)] (.ne 0 1 (.v 0) (.a (.a (.v 1) (.n 2)) (.n 3))) rfl h0,⟨AE [a,b] [.l 1 (.a (.v 0) (.n 1)) (.v 1)] (.ne 0 1 (.v 0) (.a (.a (.v 1) (.n 2)) (.n 4))) rfl h0,⟨AE [a,b] [.l 1 (.a (.v 0) (.n 1)) (.v 1)] (.ne 0 1 (.v 0) (.a (.a (.v 1) (.n 2)) (.n 5))) rfl h0,⟨AE [a,b] [.l 1 (.a (.v 0) (.n 1)) (.v 1)] (.ne 0 1 (.v 0) (.a (.a (.v 1) (.n 2)) (.n 6))) rfl h0,⟨AE [a,b] [.l 1 (.a (.v 0) (.n 1)) (.v 1)] (.ne 0 1 (.v 0) (.a (.a (.v 1) (.n 2)) (.n 7))) rfl h0,AE [a,b] [.l 1 (.a (.v 0) (.n 1)) (.v 1)] (.ne 0 1 (.v 0) (.a (.a (.v 1) (.n 2)) (.n 8))) rfl h0⟩⟩⟩⟩⟩⟩⟩⟩⟩⟩
theorem o3:a+10*(b+1)≤60→a≤140:=AE [a,b] [.l 1 (.a (.v 0) (.m (.n 10) (.a (.v 1) (.n 1)))) (.n 60)] (.le (.v 0) (.n 140)) rfl
theorem o4:a≤100→a≤900:=AE [a] [.l 1 (.v 0) (.n 100)] (.le (.v 0) (.n 900)) rfl
theorem o5:a=b+1→c<b→c<a:=AE [a,b,c] [.e 0 1 (.v 0) (.a (.v 1) (.n 1)),.l 1 (.a (.v 2) (.n 1)) (.v 1)] (.lt (.v 2) (.v 0)) rfl
theorem o6:a≤140→a≤150:=AE [a] [.l 1 (.v 0) (.n 140)] (.le (.v 0) (.n 150)) rfl
theorem o7:a≤1000→a≤100000:=AE [a] [.l 1 (.v 0) (.n 1000)] (.le (.v 0) (.n 100000)) rfl
theorem o8:a≤900→a≤1000:=AE [a] [.l 1 (.v 0) (.n 900)] (.le (.v 0) (.n 1000)) rfl
theorem o9:a=b→c<b→c<a:=AE [a,b,c] [.e 0 1 (.v 0) (.v 1),.l 1 (.a (.v 2) (.n 1)) (.v 1)] (.lt (.v 2) (.v 0)) rfl
theorem Xl:1+a+b+c+d<e+1→a<e:=AE [a,b,c,d,e] [.l 1 (.a (.a (.a (.a (.a (.n 1) (.v 0)) (.v 1)) (.v 2)) (.v 3)) (.n 1)) (.a (.v 4) (.n 1))] (.lt (.v 0) (.v 4)) rfl
theorem XN:a+(b+1)=a+1+b:=Nat.le_antisymm (AE [a,b] [] (.le (.a (.v 0) (.a (.v 1) (.n 1))) (.a (.a (.v 0) (.n 1)) (.v 1))) rfl) (AE [a,b] [] (.le (.a (.a (.v 0) (.n 1)) (.v 1)) (.a (.v 0) (.a (.v 1) (.n 1)))) rfl)
theorem XO:a+(b+1)≤4→a+b≤4:=AE [a,b] [.l 1 (.a (.v 0) (.a (.v 1) (.n 1))) (.n 4)] (.le (.a (.v 0) (.v 1)) (.n 4)) rfl
theorem Wc:a≤140→a+1≤150:=AE [a] [.l 1 (.v 0) (.n 140)] (.le (.a (.v 0) (.n 1)) (.n 150)) rfl
theorem Xm:a≤b+c+1→a+1≤b+1+c+1:=AE [a,b,c] [.l 1 (.v 0) (.a (.a (.v 1) (.v 2)) (.n 1))] (.le (.a (.v 0) (.n 1)) (.a (.a (.a (.v 1) (.n 1)) (.v 2)) (.n 1))) rfl
theorem Wd:a<200→a<256:=AE [a] [.l 1 (.a (.v 0) (.n 1)) (.n 200)] (.lt (.v 0) (.n 256)) rfl
theorem ZN:a+10*(b+1)≤60→a+1+1+1+10*b≤60:=AE [a,b] [.l 1 (.a (.v 0) (.m (.n 10) (.a (.v 1) (.n 1)))) (.n 60)] (.le (.a (.a (.a (.a (.v 0) (.n 1)) (.n 1)) (.n 1)) (.m (.n 10) (.v 1))) (.n 60)) rfl
theorem Z4:1+a+b+c+d<e+1→b≤e:=AE [a,b,c,d,e] [.l 1 (.a (.a (.a (.a (.a (.n 1) (.v 0)) (.v 1)) (.v 2)) (.v 3)) (.n 1)) (.a (.v 4) (.n 1))] (.le (.v 1) (.v 4)) rfl
theorem Ze:a+10*(b+1)≤60→a+1+1+10*b≤60:=AE [a,b] [.l 1 (.a (.v 0) (.m (.n 10) (.a (.v 1) (.n 1)))) (.n 60)] (.le (.a (.a (.a (.v 0) (.n 1)) (.n 1)) (.m (.n 10) (.v 1))) (.n 60)) rfl
theorem o21:a=b→a+2=c→b≤c:=AE [a,b,c] [.e 0 1 (.v 0) (.v 1),.e 1 0 (.a (.v 0) (.n 2)) (.v 2)] (.le (.v 1) (.v 2)) rfl
theorem aC:a<b→b<c+1+a→1≤c:=AE [a,b,c] [.l 1 (.a (.v 0) (.n 1)) (.v 1),.l 1 (.a (.v 1) (.n 1)) (.a (.a (.v 2) (.n 1)) (.v 0))] (.le (.n 1) (.v 2)) rfl
theorem Xn:a≤b→a+1≤b+1:=AE [a,b] [.l 1 (.v 0) (.v 1)] (.le (.a (.v 0) (.n 1)) (.a (.v 1) (.n 1))) rfl
theorem ag:a=b+1→b≤a:=AE [a,b] [.e 0 1 (.v 0) (.a (.v 1) (.n 1))] (.le (.v 1) (.v 0)) rfl
theorem bX:a≤b+c→a≤b+(c+1):=AE [a,b,c] [.l 1 (.v 0) (.a (.v 1) (.v 2))] (.le (.v 0) (.a (.v 1) (.a (.v 2) (.n 1)))) rfl
theorem o30:1+a+b+c+d<e+1→1+f+(1+g+h+i+j)+k+l<b→h≤e:=AE [a,b,c,d,e,f,g,h,i,j,k,l] [.l 1 (.a (.a (.a (.a (.a (.n 1) (.v 0)) (.v 1)) (.v 2)) (.v 3)) (.n 1)) (.a (.v 4) (.n 1)),.l 1 (.a (.a (.a (.a (.a (.n 1) (.v 5)) (.a (.a (.a (.a (.n 1) (.v 6)) (.v 7)) (.v 8)) (.v 9))) (.v 10)) (.v 11)) (.n 1)) (.v 1)] (.le (.v 7) (.v 4)) rfl
theorem o31:a+(b+1)≤4→a<4:=AE [a,b] [.l 1 (.a (.v 0) (.a (.v 1) (.n 1))) (.n 4)] (.lt (.v 0) (.n 4)) rfl
theorem o33:a<4→b=1+a→c≤8*d→d≤5→b≤e∧e≤2*b→c+e≤48:=fun h0 h1 h2 h3 h4=>AE [a,b,c,d,e] [.l 2 (.a (.v 0) (.n 1)) (.n 4),.e 2 0 (.v 1) (.a (.n 1) (.v 0)),.l 1 (.v 2) (.m (.n 8) (.v 3)),.l 8 (.v 3) (.n 5),.l 1 (.v 4) (.m (.n 2) (.v 1))] (.le (.a (.v 2) (.v 4)) (.n 48)) rfl h0 h1 h2 h3 h4.2
theorem o34:1+a+b+c+d<e+1→c≤e:=AE [a,b,c,d,e] [.l 1 (.a (.a (.a (.a (.a (.n 1) (.v 0)) (.v 1)) (.v 2)) (.v 3)) (.n 1)) (.a (.v 4) (.n 1))] (.le (.v 2) (.v 4)) rfl
theorem o36:1+a+b+c+d<e+1→c<e:=AE [a,b,c,d,e] [.l 1 (.a (.a (.a (.a (.a (.n 1) (.v 0)) (.v 1)) (.v 2)) (.v 3)) (.n 1)) (.a (.v 4) (.n 1))] (.lt (.v 2) (.v 4)) rfl
theorem bu:a≤140→a+1+1≤150:=AE [a] [.l 1 (.v 0) (.n 140)] (.le (.a (.a (.v 0) (.n 1)) (.n 1)) (.n 150)) rfl
theorem bv:a≤900→a+3≤100000:=AE [a] [.l 1 (.v 0) (.n 900)] (.le (.a (.v 0) (.n 3)) (.n 100000)) rfl
theorem o40:a+4*(b+1)≤16→a+3+4*b≤16:=AE [a,b] [.l 1 (.a (.v 0) (.m (.n 4) (.a (.v 1) (.n 1)))) (.n 16)] (.le (.a (.a (.v 0) (.n 3)) (.m (.n 4) (.v 1))) (.n 16)) rfl
theorem o42:a+4*(b+1)≤16→a+4+4*b≤16:=AE [a,b] [.l 1 (.a (.v 0) (.m (.n 4) (.a (.v 1) (.n 1)))) (.n 16)] (.le (.a (.a (.v 0) (.n 4)) (.m (.n 4) (.v 1))) (.n 16)) rfl
theorem bw:a≤b→a≤b+1:=AE [a,b] [.l 1 (.v 0) (.v 1)] (.le (.v 0) (.a (.v 1) (.n 1))) rfl
theorem o45:1+a+b+c<d+1→b≤d:=AE [a,b,c,d] [.l 1 (.a (.a (.a (.a (.n 1) (.v 0)) (.v 1)) (.v 2)) (.n 1)) (.a (.v 3) (.n 1))] (.le (.v 1) (.v 3)) rfl
theorem o46:a=1+b→a≤c∧c≤2*a→d+c=0→False:=fun h0 h1 h2=>AE [a,b,c,d] [.e 0 1 (.v 0) (.a (.n 1) (.v 1)),.l 1 (.v 0) (.v 2),.e 1 0 (.a (.v 3) (.v 2)) (.n 0)] .no rfl h0 h1.1 h2
theorem o48:1+a+b+c<d+1→b<d:=AE [a,b,c,d] [.l 1 (.a (.a (.a (.a (.n 1) (.v 0)) (.v 1)) (.v 2)) (.n 1)) (.a (.v 3) (.n 1))] (.lt (.v 1) (.v 3)) rfl
theorem o49:1+a+b+c<d+1→a<d:=AE [a,b,c,d] [.l 1 (.a (.a (.a (.a (.n 1) (.v 0)) (.v 1)) (.v 2)) (.n 1)) (.a (.v 3) (.n 1))] (.lt (.v 0) (.v 3)) rfl
theorem o50:1+a+b+c+d<e+1→1+f+g+h+i<b→h≤e:=AE [a,b,c,d,e,f,g,h,i] [.l 1 (.a (.a (.a (.a (.a (.n 1) (.v 0)) (.v 1)) (.v 2)) (.v 3)) (.n 1)) (.a (.v 4) (.n 1)),.l 1 (.a (.a (.a (.a (.a (.n 1) (.v 5)) (.v 6)) (.v 7)) (.v 8)) (.n 1)) (.v 1)] (.le (.v 7) (.v 4)) rfl
theorem o51:a<b+1+c→a<b+(c+1):=AE [a,b,c] [.l 1 (.a (.v 0) (.n 1)) (.a (.a (.v 1) (.n 1)) (.v 2))] (.lt (.v 0) (.a (.v 1) (.a (.v 2) (.n 1)))) rfl
theorem o52:1+a+b+c+d<e+1→1+f+g+h+i<b→g<e:=AE [a,b,c,d,e,f,g,h,i] [.l 1 (.a (.a (.a (.a (.a (.n 1) (.v 0)) (.v 1)) (.v 2)) (.v 3)) (.n 1)) (.a (.v 4) (.n 1)),.l 1 (.a (.a (.a (.a (.a (.n 1) (.v 5)) (.v 6)) (.v 7)) (.v 8)) (.n 1)) (.v 1)] (.lt (.v 6) (.v 4)) rfl
theorem bz:a≤100→a≤800:=AE [a] [.l 1 (.v 0) (.n 100)] (.le (.v 0) (.n 800)) rfl
theorem o54:a≤4*b→a≤4*(b+1):=AE [a,b] [.l 1 (.v 0) (.m (.n 4) (.v 1))] (.le (.v 0) (.m (.n 4) (.a (.v 1) (.n 1)))) rfl
theorem o55:a+(b+1)≤4→a+(0+1)+b≤4:=AE [a,b] [.l 1 (.a (.v 0) (.a (.v 1) (.n 1))) (.n 4)] (.le (.a (.a (.v 0) (.a (.n 0) (.n 1))) (.v 1)) (.n 4)) rfl
theorem cA:4≤a→a≠0:=AE [a] [.l 1 (.n 4) (.v 0)] (.ne 1 0 (.v 0) (.n 0)) rfl
theorem o57:a≤48→a≤1000:=AE [a] [.l 1 (.v 0) (.n 48)] (.le (.v 0) (.n 1000)) rfl
theorem cB:4≤a→3<a:=AE [a] [.l 1 (.n 4) (.v 0)] (.lt (.n 3) (.v 0)) rfl
theorem o59:a+1+b=a+(b+1):=Nat.le_antisymm (AE [a,b] [] (.le (.a (.a (.v 0) (.n 1)) (.v 1)) (.a (.v 0) (.a (.v 1) (.n 1)))) rfl) (AE [a,b] [] (.le (.a (.v 0) (.a (.v 1) (.n 1))) (.a (.a (.v 0) (.n 1)) (.v 1))) rfl)
theorem cC:4≤a→1<a:=AE [a] [.l 1 (.n 4) (.v 0)] (.lt (.n 1) (.v 0)) rfl
theorem o61:a+2*(b+1)≤100→1≤c∧c≤2→a+c≤100000:=fun h0 h1=>AE [a,b,c] [.l 1 (.a (.v 0) (.m (.n 2) (.a (.v 1) (.n 1)))) (.n 100),.l 1 (.v 2) (.n 2)] (.le (.a (.v 0) (.v 2)) (.n 100000)) rfl h0 h1.2
theorem o62:a≤b→¬a<b→a=b:=fun h0 h1=>Nat.le_antisymm (AE [a,b] [.l 1 (.v 0) (.v 1),.t 0 (.v 0) (.v 1)] (.le (.v 0) (.v 1)) rfl h0 h1) (AE [a,b] [.l 0 (.v 0) (.v 1),.t 1 (.v 0) (.v 1)] (.le (.v 1) (.v 0)) rfl h0 h1)
theorem cD:a≤800→a≤900:=AE [a] [.l 1 (.v 0) (.n 800)] (.le (.v 0) (.n 900)) rfl
theorem o64:a≤30→a≤100000:=AE [a] [.l 1 (.v 0) (.n 30)] (.le (.v 0) (.n 100000)) rfl
theorem o66:a=b→c=d→b=c→e<d→e<a:=AE [a,b,c,d,e] [.e 0 1 (.v 0) (.v 1),.e 0 1 (.v 2) (.v 3),.e 0 1 (.v 1) (.v 2),.l 1 (.a (.v 4) (.n 1)) (.v 3)] (.lt (.v 4) (.v 0)) rfl
theorem o67:1+a+(1+b+(1+c)+d+e)+f<g+1→c<g:=AE [a,b,c,d,e,f,g] [.l 1 (.a (.a (.a (.a (.n 1) (.v 0)) (.a (.a (.a (.a (.n 1) (.v 1)) (.a (.n 1) (.v 2))) (.v 3)) (.v 4))) (.v 5)) (.n 1)) (.a (.v 6) (.n 1))] (.lt (.v 2) (.v 6)) rfl
theorem o68:1+a+(1+(1+b)+c+d+e)+f<g+1→b<g:=AE [a,b,c,d,e,f,g] [.l 1 (.a (.a (.a (.a (.n 1) (.v 0)) (.a (.a (.a (.a (.n 1) (.a (.n 1) (.v 1))) (.v 2)) (.v 3)) (.v 4))) (.v 5)) (.n 1)) (.a (.v 6) (.n 1))] (.lt (.v 1) (.v 6)) rfl
theorem o69:a≤b→a≤b+c:=AE [a,b,c] [.l 1 (.v 0) (.v 1)] (.le (.v 0) (.a (.v 1) (.v 2))) rfl
theorem o70:a+32*(b+1)+20<c→a+3+32*b+40<c:=AE [a,b,c] [.l 1 (.a (.a (.a (.v 0) (.m (.n 32) (.a (.v 1) (.n 1)))) (.n 20)) (.n 1)) (.v 2)] (.lt (.a (.a (.a (.v 0) (.n 3)) (.m (.n 32) (.v 1))) (.n 40)) (.v 2)) rfl
theorem o71:1+(1+a+b+c)+d+e+f<g+1→a<g:=AE [a,b,c,d,e,f,g] [.l 1 (.a (.a (.a (.a (.a (.n 1) (.a (.a (.a (.n 1) (.v 0)) (.v 1)) (.v 2))) (.v 3)) (.v 4)) (.v 5)) (.n 1)) (.a (.v 6) (.n 1))] (.lt (.v 0) (.v 6)) rfl
theorem o72:a≤b∧b≤2*a→1≤c∧c≤2→a+1≤c+b∧c+b≤2*(a+1):=fun h0 h1=>⟨AE [a,b,c] [.l 1 (.v 0) (.v 1),.l 0 (.v 1) (.m (.n 2) (.v 0)),.l 1 (.n 1) (.v 2),.l 0 (.v 2) (.n 2)] (.le (.a (.v 0) (.n 1)) (.a (.v 2) (.v 1))) rfl h0.1 h0.2 h1.1 h1.2,AE [a,b,c] [.l 0 (.v 0) (.v 1),.l 1 (.v 1) (.m (.n 2) (.v 0)),.l 0 (.n 1) (.v 2),.l 1 (.v 2) (.n 2)] (.le (.a (.v 2) (.v 1)) (.m (.n 2) (.a (.v 0) (.n 1)))) rfl h0.1 h0.2 h1.1 h1.2⟩
theorem o73:a+b≤c→a≤c:=AE [a,b,c] [.l 1 (.a (.v 0) (.v 1)) (.v 2)] (.le (.v 0) (.v 2)) rfl
theorem o74:a+1≤0→False:=AE [a] [.l 1 (.a (.v 0) (.n 1)) (.n 0)] .no rfl
theorem o75:4≤a→b<4→b<a:=AE [a,b] [.l 1 (.n 4) (.v 0),.l 1 (.a (.v 1) (.n 1)) (.n 4)] (.lt (.v 1) (.v 0)) rfl
theorem o76:a+1≤b+1+a+1:=AE [a,b] [] (.le (.a (.v 0) (.n 1)) (.a (.a (.a (.v 1) (.n 1)) (.v 0)) (.n 1))) rfl
theorem o77:a+10*(b+1)≤60→a+1+1+1+1+1+1+10*b≤60:=AE [a,b] [.l 1 (.a (.v 0) (.m (.n 10) (.a (.v 1) (.n 1)))) (.n 60)] (.le (.a (.a (.a (.a (.a (.a (.a (.v 0) (.n 1)) (.n 1)) (.n 1)) (.n 1)) (.n 1)) (.n 1)) (.m (.n 10) (.v 1))) (.n 60)) rfl
theorem o78:a+2*(b+1)≤100→1≤c∧c≤2→a+c+2*b≤100:=fun h0 h1=>AE [a,b,c] [.l 1 (.a (.v 0) (.m (.n 2) (.a (.v 1) (.n 1)))) (.n 100),.l 1 (.v 2) (.n 2)] (.le (.a (.a (.v 0) (.v 2)) (.m (.n 2) (.v 1))) (.n 100)) rfl h0 h1.2
theorem o79:a=b→c=a→d<b→d<c:=AE [a,b,c,d] [.e 0 1 (.v 0) (.v 1),.e 0 1 (.v 2) (.v 0),.l 1 (.a (.v 3) (.n 1)) (.v 1)] (.lt (.v 3) (.v 2)) rfl
theorem o80:a≤100→a<100000:=AE [a] [.l 1 (.v 0) (.n 100)] (.lt (.v 0) (.n 100000)) rfl
theorem o81:a<39→0+a≤1000:=AE [a] [.l 1 (.a (.v 0) (.n 1)) (.n 39)] (.le (.a (.n 0) (.v 0)) (.n 1000)) rfl
theorem o82:a≤b→c<a→c<b:=AE [a,b,c] [.l 1 (.v 0) (.v 1),.l 1 (.a (.v 2) (.n 1)) (.v 0)] (.lt (.v 2) (.v 1)) rfl
theorem o83:a+2*(b+1)≤100→c≤d+4∧e≤a+2→e+2*b≤100:=fun h0 h1=>AE [a,b,c,d,e] [.l 1 (.a (.v 0) (.m (.n 2) (.a (.v 1) (.n 1)))) (.n 100),.l 1 (.v 4) (.a (.v 0) (.n 2))] (.le (.a (.v 4) (.m (.n 2) (.v 1))) (.n 100)) rfl h0 h1.2
theorem o85:a<b→b≤c→a<c:=AE [a,b,c] [.l 1 (.a (.v 0) (.n 1)) (.v 1),.l 1 (.v 1) (.v 2)] (.lt (.v 0) (.v 2)) rfl
theorem o86:a+4*(b+1)≤100→c≤a+4∧d≤e+2→c+4*b≤100:=fun h0 h1=>AE [a,b,c,d,e] [.l 1 (.a (.v 0) (.m (.n 4) (.a (.v 1) (.n 1)))) (.n 100),.l 1 (.v 2) (.a (.v 0) (.n 4))] (.le (.a (.v 2) (.m (.n 4) (.v 1))) (.n 100)) rfl h0 h1.1
theorem o87:a≤48→b≤101*a→b≤100000:=AE [a,b] [.l 101 (.v 0) (.n 48),.l 1 (.v 1) (.m (.n 101) (.v 0))] (.le (.v 1) (.n 100000)) rfl
theorem o88:a≤900→a+4≤100000:=AE [a] [.l 1 (.v 0) (.n 900)] (.le (.a (.v 0) (.n 4)) (.n 100000)) rfl
theorem o89:a≤4→b≤5→0+b+10*(a+0)≤60:=AE [a,b] [.l 10 (.v 0) (.n 4),.l 1 (.v 1) (.n 5)] (.le (.a (.a (.n 0) (.v 1)) (.m (.n 10) (.a (.v 0) (.n 0)))) (.n 60)) rfl
theorem o90:a+2*(b+1)<c→a+1+2*b+1<c:=AE [a,b,c] [.l 1 (.a (.a (.v 0) (.m (.n 2) (.a (.v 1) (.n 1)))) (.n 1)) (.v 2)] (.lt (.a (.a (.a (.v 0) (.n 1)) (.m (.n 2) (.v 1))) (.n 1)) (.v 2)) rfl
theorem o91:a=b→c=d→b=d→a=c+(e+1)→False:=AE [a,b,c,d,e] [.e 1 0 (.v 0) (.v 1),.e 0 1 (.v 2) (.v 3),.e 1 0 (.v 1) (.v 3),.e 0 1 (.v 0) (.a (.v 2) (.a (.v 4) (.n 1)))] .no rfl
theorem o92:a≤900→a+2≤100000:=AE [a] [.l 1 (.v 0) (.n 900)] (.le (.a (.v 0) (.n 2)) (.n 100000)) rfl
theorem o93:1≤a∧a≤4→a≤1000:=fun h0=>AE [a] [.l 1 (.v 0) (.n 4)] (.le (.v 0) (.n 1000)) rfl h0.2
theorem o94:a≤1000→a=b+(c+1)→b≤1000:=AE [a,b,c] [.l 1 (.v 0) (.n 1000),.e 0 1 (.v 0) (.a (.v 1) (.a (.v 2) (.n 1)))] (.le (.v 1) (.n 1000)) rfl
theorem o95:a+4*(b+1)≤100→a≤100:=AE [a,b] [.l 1 (.a (.v 0) (.m (.n 4) (.a (.v 1) (.n 1)))) (.n 100)] (.le (.v 0) (.n 100)) rfl
theorem o96:1+a+b+c+d+e<f+1→c≤f:=AE [a,b,c,d,e,f] [.l 1 (.a (.a (.a (.a (.a (.a (.n 1) (.v 0)) (.v 1)) (.v 2)) (.v 3)) (.v 4)) (.n 1)) (.a (.v 5) (.n 1))] (.le (.v 2) (.v 5)) rfl
theorem o97:1+a+b+c+d+e<f+1→a≤f:=AE [a,b,c,d,e,f] [.l 1 (.a (.a (.a (.a (.a (.a (.n 1) (.v 0)) (.v 1)) (.v 2)) (.v 3)) (.v 4)) (.n 1)) (.a (.v 5) (.n 1))] (.le (.v 0) (.v 5)) rfl
theorem o98{b:Prop}{c d:Nat}:a≤100∧b→c≤100*d→a+c≤100*(d+1):=fun h0 h1=>AE [a,c,d] [.l 1 (.v 0) (.n 100),.l 1 (.v 1) (.m (.n 100) (.v 2))] (.le (.a (.v 0) (.v 1)) (.m (.n 100) (.a (.v 2) (.n 1)))) rfl h0.1 h1
theorem o99:a=b→c=d→b=d+e→a=c+0→e=0:=fun h0 h1 h2 h3=>Nat.le_antisymm (AE [a,b,c,d,e] [.e 0 1 (.v 0) (.v 1),.e 1 0 (.v 2) (.v 3),.e 0 1 (.v 1) (.a (.v 3) (.v 4)),.e 1 0 (.v 0) (.a (.v 2) (.n 0))] (.le (.v 4) (.n 0)) rfl h0 h1 h2 h3) (AE [a,b,c,d,e] [.e 0 0 (.v 0) (.v 1),.e 0 0 (.v 2) (.v 3),.e 0 0 (.v 1) (.a (.v 3) (.v 4)),.e 0 0 (.v 0) (.a (.v 2) (.n 0))] (.le (.n 0) (.v 4)) rfl h0 h1 h2 h3)
theorem XK:a<b→b≤c→c≠a:=AE [a,b,c] [.l 1 (.a (.v 0) (.n 1)) (.v 1),.l 1 (.v 1) (.v 2)] (.ne 1 0 (.v 2) (.v 0)) rfl
theorem XM:a<900→a<1000:=AE [a] [.l 1 (.a (.v 0) (.n 1)) (.n 900)] (.lt (.v 0) (.n 1000)) rfl
theorem Y6:a=b→a≤c→d=e→b=d→e≤c:=AE [a,b,c,d,e] [.e 0 1 (.v 0) (.v 1),.l 1 (.v 0) (.v 2),.e 0 1 (.v 3) (.v 4),.e 0 1 (.v 1) (.v 3)] (.le (.v 4) (.v 2)) rfl
theorem Y7:a+4*(b+1)≤16→a+1+2+1+4*b≤16:=AE [a,b] [.l 1 (.a (.v 0) (.m (.n 4) (.a (.v 1) (.n 1)))) (.n 16)] (.le (.a (.a (.a (.a (.v 0) (.n 1)) (.n 2)) (.n 1)) (.m (.n 4) (.v 1))) (.n 16)) rfl
theorem Y8:a+2*(b+1)<c→a<c:=AE [a,b,c] [.l 1 (.a (.a (.v 0) (.m (.n 2) (.a (.v 1) (.n 1)))) (.n 1)) (.v 2)] (.lt (.v 0) (.v 2)) rfl
theorem Y9:a+2*(b+1)≤100→a≤100:=AE [a,b] [.l 1 (.a (.v 0) (.m (.n 2) (.a (.v 1) (.n 1)))) (.n 100)] (.le (.v 0) (.n 100)) rfl
theorem Yb:a<4→b=1+a→b≤4:=AE [a,b] [.l 1 (.a (.v 0) (.n 1)) (.n 4),.e 1 0 (.v 1) (.a (.n 1) (.v 0))] (.le (.v 1) (.n 4)) rfl
theorem Yc:a<4→1+a≤100000:=AE [a] [.l 1 (.a (.v 0) (.n 1)) (.n 4)] (.le (.a (.n 1) (.v 0)) (.n 100000)) rfl
theorem Yd:a<4→0+2*(1+a)≤100:=AE [a] [.l 2 (.a (.v 0) (.n 1)) (.n 4)] (.le (.a (.n 0) (.m (.n 2) (.a (.n 1) (.v 0)))) (.n 100)) rfl
theorem Ye:a+10*0≤60→b≤c+a→c=0→b≤200:=AE [a,b,c] [.l 1 (.a (.v 0) (.m (.n 10) (.n 0))) (.n 60),.l 1 (.v 1) (.a (.v 2) (.v 0)),.e 1 0 (.v 2) (.n 0)] (.le (.v 1) (.n 200)) rfl
theorem Yg:a=b→c=a→d=c→d≤e→b≤e:=AE [a,b,c,d,e] [.e 0 1 (.v 0) (.v 1),.e 0 1 (.v 2) (.v 0),.e 0 1 (.v 3) (.v 2),.l 1 (.v 3) (.v 4)] (.le (.v 1) (.v 4)) rfl
theorem Yh:a+32*b+40<c→a+1+32*b+20<c:=AE [a,b,c] [.l 1 (.a (.a (.a (.v 0) (.m (.n 32) (.v 1))) (.n 40)) (.n 1)) (.v 2)] (.lt (.a (.a (.a (.v 0) (.n 1)) (.m (.n 32) (.v 1))) (.n 20)) (.v 2)) rfl
theorem Yi:a≤150→b=c→c≤4*a→b<65536:=AE [a,b,c] [.l 4 (.v 0) (.n 150),.e 1 0 (.v 1) (.v 2),.l 1 (.v 2) (.m (.n 4) (.v 0))] (.lt (.v 1) (.n 65536)) rfl
theorem Yj:a+8*(b+1)≤100→c≤8→a+c+8*b≤100:=AE [a,b,c] [.l 1 (.a (.v 0) (.m (.n 8) (.a (.v 1) (.n 1)))) (.n 100),.l 1 (.v 2) (.n 8)] (.le (.a (.a (.v 0) (.v 2)) (.m (.n 8) (.v 1))) (.n 100)) rfl
theorem Yk:a<4→1+2*(1+a)≤90:=AE [a] [.l 2 (.a (.v 0) (.n 1)) (.n 4)] (.le (.a (.n 1) (.m (.n 2) (.a (.n 1) (.v 0)))) (.n 90)) rfl
theorem Yl{b:Prop}{c d:Nat}:a≤100∧b→c≤101*d→a+(c+1)≤101*(d+1):=fun h0 h1=>AE [a,c,d] [.l 1 (.v 0) (.n 100),.l 1 (.v 1) (.m (.n 101) (.v 2))] (.le (.a (.v 0) (.a (.v 1) (.n 1))) (.m (.n 101) (.a (.v 2) (.n 1)))) rfl h0.1 h1
theorem Ym:4≤a→b=a→4≤b:=AE [a,b] [.l 1 (.n 4) (.v 0),.e 0 1 (.v 1) (.v 0)] (.le (.n 4) (.v 1)) rfl
theorem Yn:a<4→0+4*(1+a)≤100:=AE [a] [.l 4 (.a (.v 0) (.n 1)) (.n 4)] (.le (.a (.n 0) (.m (.n 4) (.a (.n 1) (.v 0)))) (.n 100)) rfl
theorem XQ:a≤100→a≤100000:=AE [a] [.l 1 (.v 0) (.n 100)] (.le (.v 0) (.n 100000)) rfl
theorem Yo:a+4*(b+1)≤16→a+2+1+4*b≤16:=AE [a,b] [.l 1 (.a (.v 0) (.m (.n 4) (.a (.v 1) (.n 1)))) (.n 16)] (.le (.a (.a (.a (.v 0) (.n 2)) (.n 1)) (.m (.n 4) (.v 1))) (.n 16)) rfl
theorem Yp:a+10*(b+1)≤60→a+1+1+1≤140:=AE [a,b] [.l 1 (.a (.v 0) (.m (.n 10) (.a (.v 1) (.n 1)))) (.n 60)] (.le (.a (.a (.a (.v 0) (.n 1)) (.n 1)) (.n 1)) (.n 140)) rfl
theorem Yq:a<60000→b=c→c≤4→a+b<65536:=AE [a,b,c] [.l 1 (.a (.v 0) (.n 1)) (.n 60000),.e 1 0 (.v 1) (.v 2),.l 1 (.v 2) (.n 4)] (.lt (.a (.v 0) (.v 1)) (.n 65536)) rfl
theorem XR:a<100000→a≤100000:=AE [a] [.l 1 (.a (.v 0) (.n 1)) (.n 100000)] (.le (.v 0) (.n 100000)) rfl
theorem Yr:a+2*(b+1)≤90→a+2+2*b≤90:=AE [a,b] [.l 1 (.a (.v 0) (.m (.n 2) (.a (.v 1) (.n 1)))) (.n 90)] (.le (.a (.a (.v 0) (.n 2)) (.m (.n 2) (.v 1))) (.n 90)) rfl
theorem Ys:a<4→2*(1+a)≤100:=AE [a] [.l 2 (.a (.v 0) (.n 1)) (.n 4)] (.le (.m (.n 2) (.a (.n 1) (.v 0))) (.n 100)) rfl
theorem Yt:a≠a+1:=AE [a] [] (.ne 0 1 (.v 0) (.a (.v 0) (.n 1))) rfl
theorem Yu:a≤4→b≤4*c→b+a≤4*(c+1):=AE [a,b,c] [.l 1 (.v 0) (.n 4),.l 1 (.v 1) (.m (.n 4) (.v 2))] (.le (.a (.v 1) (.v 0)) (.m (.n 4) (.a (.v 2) (.n 1)))) rfl
theorem XS:a≤4→a<1000:=AE [a] [.l 1 (.v 0) (.n 4)] (.lt (.v 0) (.n 1000)) rfl
theorem Yv:1+a+b+c+d<e+1→b<e:=AE [a,b,c,d,e] [.l 1 (.a (.a (.a (.a (.a (.n 1) (.v 0)) (.v 1)) (.v 2)) (.v 3)) (.n 1)) (.a (.v 4) (.n 1))] (.lt (.v 1) (.v 4)) rfl
theorem Yw:a+8*(b+1)≤100→c≤8→a+c≤100000:=AE [a,b,c] [.l 1 (.a (.v 0) (.m (.n 8) (.a (.v 1) (.n 1)))) (.n 100),.l 1 (.v 2) (.n 8)] (.le (.a (.v 0) (.v 2)) (.n 100000)) rfl
theorem Yx:a+(b+1)≤100→c≤a+1→c+b≤100:=AE [a,b,c] [.l 1 (.a (.v 0) (.a (.v 1) (.n 1))) (.n 100),.l 1 (.v 2) (.a (.v 0) (.n 1))] (.le (.a (.v 2) (.v 1)) (.n 100)) rfl
theorem Yy:a≤8*b→c≤8→c+a≤8*(b+1):=AE [a,b,c] [.l 1 (.v 0) (.m (.n 8) (.v 1)),.l 1 (.v 2) (.n 8)] (.le (.a (.v 2) (.v 0)) (.m (.n 8) (.a (.v 1) (.n 1)))) rfl
theorem Yz:a<1000→b≤a+1→b≤1000:=AE [a,b] [.l 1 (.a (.v 0) (.n 1)) (.n 1000),.l 1 (.v 1) (.a (.v 0) (.n 1))] (.le (.v 1) (.n 1000)) rfl
theorem ZA:a+b+c+d=a+(b+c+d):=Nat.le_antisymm (AE [a,b,c,d] [] (.le (.a (.a (.a (.v 0) (.v 1)) (.v 2)) (.v 3)) (.a (.v 0) (.a (.a (.v 1) (.v 2)) (.v 3)))) rfl) (AE [a,b,c,d] [] (.le (.a (.v 0) (.a (.a (.v 1) (.v 2)) (.v 3))) (.a (.a (.a (.v 0) (.v 1)) (.v 2)) (.v 3))) rfl)
theorem ZB:a<b+1+c→a<b+(c+1+d+1):=AE [a,b,c,d] [.l 1 (.a (.v 0) (.n 1)) (.a (.a (.v 1) (.n 1)) (.v 2))] (.lt (.v 0) (.a (.v 1) (.a (.a (.a (.v 2) (.n 1)) (.v 3)) (.n 1)))) rfl
theorem ZC:a≤1000→b≤100*a→b+a*1≤16777216:=AE [a,b] [.l 101 (.v 0) (.n 1000),.l 1 (.v 1) (.m (.n 100) (.v 0))] (.le (.a (.v 1) (.m (.v 0) (.n 1))) (.n 16777216)) rfl
theorem ZD:a+4*(b+1)≤16→a+1+4*b≤16:=AE [a,b] [.l 1 (.a (.v 0) (.m (.n 4) (.a (.v 1) (.n 1)))) (.n 16)] (.le (.a (.a (.v 0) (.n 1)) (.m (.n 4) (.v 1))) (.n 16)) rfl
theorem ZE:a≤150→b=c→c≤4*a→b<60000:=AE [a,b,c] [.l 4 (.v 0) (.n 150),.e 1 0 (.v 1) (.v 2),.l 1 (.v 2) (.m (.n 4) (.v 0))] (.lt (.v 1) (.n 60000)) rfl
theorem ZF:a+2*b+1<c→a+1+2*b<c:=AE [a,b,c] [.l 1 (.a (.a (.a (.v 0) (.m (.n 2) (.v 1))) (.n 1)) (.n 1)) (.v 2)] (.lt (.a (.a (.v 0) (.n 1)) (.m (.n 2) (.v 1))) (.v 2)) rfl
theorem ZG:a≤150→b≤c+a→c≤200→b<900:=AE [a,b,c] [.l 1 (.v 0) (.n 150),.l 1 (.v 1) (.a (.v 2) (.v 0)),.l 1 (.v 2) (.n 200)] (.lt (.v 1) (.n 900)) rfl
theorem ZH:a+b+(c+1)<65536→a+(b+1)+c<65536:=AE [a,b,c] [.l 1 (.a (.a (.a (.v 0) (.v 1)) (.a (.v 2) (.n 1))) (.n 1)) (.n 65536)] (.lt (.a (.a (.v 0) (.a (.v 1) (.n 1))) (.v 2)) (.n 65536)) rfl
theorem XT:a≤15→a≤100000:=AE [a] [.l 1 (.v 0) (.n 15)] (.le (.v 0) (.n 100000)) rfl
theorem ZI:a+4*b≤16→a+1<256:=AE [a,b] [.l 1 (.a (.v 0) (.m (.n 4) (.v 1))) (.n 16)] (.lt (.a (.v 0) (.n 1)) (.n 256)) rfl
theorem ZJ:1+a+b+c<d+1→a≤d:=AE [a,b,c,d] [.l 1 (.a (.a (.a (.a (.n 1) (.v 0)) (.v 1)) (.v 2)) (.n 1)) (.a (.v 3) (.n 1))] (.le (.v 0) (.v 3)) rfl
theorem ZK:a≤b→c≤a+1→c≤b+1:=AE [a,b,c] [.l 1 (.v 0) (.v 1),.l 1 (.v 2) (.a (.v 0) (.n 1))] (.le (.v 2) (.a (.v 1) (.n 1))) rfl
theorem ZL:a+1≤4→b≤2*(a+1)→b≤100000:=AE [a,b] [.l 2 (.a (.v 0) (.n 1)) (.n 4),.l 1 (.v 1) (.m (.n 2) (.a (.v 0) (.n 1)))] (.le (.v 1) (.n 100000)) rfl
theorem ZM:a+1+b+1=a+1+(b+1):=Nat.le_antisymm (AE [a,b] [] (.le (.a (.a (.a (.v 0) (.n 1)) (.v 1)) (.n 1)) (.a (.a (.v 0) (.n 1)) (.a (.v 1) (.n 1)))) rfl) (AE [a,b] [] (.le (.a (.a (.v 0) (.n 1)) (.a (.v 1) (.n 1))) (.a (.a (.a (.v 0) (.n 1)) (.v 1)) (.n 1))) rfl)
theorem ZO:a+32*b+40<c→a+32*b+20<c:=AE [a,b,c] [.l 1 (.a (.a (.a (.v 0) (.m (.n 32) (.v 1))) (.n 40)) (.n 1)) (.v 2)] (.lt (.a (.a (.v 0) (.m (.n 32) (.v 1))) (.n 20)) (.v 2)) rfl
theorem ZP:a≤2*b→a+1+1≤2*(b+1):=AE [a,b] [.l 1 (.v 0) (.m (.n 2) (.v 1))] (.le (.a (.a (.v 0) (.n 1)) (.n 1)) (.m (.n 2) (.a (.v 1) (.n 1)))) rfl
theorem ZQ:a≤b+c→a+(0+1)≤b+(c+1):=AE [a,b,c] [.l 1 (.v 0) (.a (.v 1) (.v 2))] (.le (.a (.v 0) (.a (.n 0) (.n 1))) (.a (.v 1) (.a (.v 2) (.n 1)))) rfl
theorem ZR:a=b→a≤c→b≤c:=AE [a,b,c] [.e 0 1 (.v 0) (.v 1),.l 1 (.v 0) (.v 2)] (.le (.v 1) (.v 2)) rfl
theorem ZS:a+4*b≤16→a<256:=AE [a,b] [.l 1 (.a (.v 0) (.m (.n 4) (.v 1))) (.n 16)] (.lt (.v 0) (.n 256)) rfl
theorem ZT:a+32*b+40<c→a<c:=AE [a,b,c] [.l 1 (.a (.a (.a (.v 0) (.m (.n 32) (.v 1))) (.n 40)) (.n 1)) (.v 2)] (.lt (.v 0) (.v 2)) rfl
theorem ZU:a<100→b<900→b+a<1000:=AE [a,b] [.l 1 (.a (.v 0) (.n 1)) (.n 100),.l 1 (.a (.v 1) (.n 1)) (.n 900)] (.lt (.a (.v 1) (.v 0)) (.n 1000)) rfl
theorem ZV:a+8*(b+1)≤100→a+8*b≤100:=AE [a,b] [.l 1 (.a (.v 0) (.m (.n 8) (.a (.v 1) (.n 1)))) (.n 100)] (.le (.a (.v 0) (.m (.n 8) (.v 1))) (.n 100)) rfl
theorem ZW:a+b+(c+1)<65536→a+b<65536:=AE [a,b,c] [.l 1 (.a (.a (.a (.v 0) (.v 1)) (.a (.v 2) (.n 1))) (.n 1)) (.n 65536)] (.lt (.a (.v 0) (.v 1)) (.n 65536)) rfl
theorem ZX:a≤5→b≤100→b+(a+1)≤1000:=AE [a,b] [.l 1 (.v 0) (.n 5),.l 1 (.v 1) (.n 100)] (.le (.a (.v 1) (.a (.v 0) (.n 1))) (.n 1000)) rfl
theorem ZY:a+2*(b+1)≤90→a≤90:=AE [a,b] [.l 1 (.a (.v 0) (.m (.n 2) (.a (.v 1) (.n 1)))) (.n 90)] (.le (.v 0) (.n 90)) rfl
theorem XU:4≤a→2<a:=AE [a] [.l 1 (.n 4) (.v 0)] (.lt (.n 2) (.v 0)) rfl
theorem ZZ:a+8*(b+1)≤100→a≤100000:=AE [a,b] [.l 1 (.a (.v 0) (.m (.n 8) (.a (.v 1) (.n 1)))) (.n 100)] (.le (.v 0) (.n 100000)) rfl
theorem Z0:a+b<65536→a<65536:=AE [a,b] [.l 1 (.a (.a (.v 0) (.v 1)) (.n 1)) (.n 65536)] (.lt (.v 0) (.n 65536)) rfl
theorem Z1:a≤150→b≤4*a→b<900:=AE [a,b] [.l 4 (.v 0) (.n 150),.l 1 (.v 1) (.m (.n 4) (.v 0))] (.lt (.v 1) (.n 900)) rfl
theorem Z2:a+b≤c→c≤1000→a≤1000:=AE [a,b,c] [.l 1 (.a (.v 0) (.v 1)) (.v 2),.l 1 (.v 2) (.n 1000)] (.le (.v 0) (.n 1000)) rfl
theorem Z3:a≤b→a=c+1→c≤b:=AE [a,b,c] [.l 1 (.v 0) (.v 1),.e 0 1 (.v 0) (.a (.v 2) (.n 1))] (.le (.v 2) (.v 1)) rfl
theorem Z5:a+(b+1)≤900→a+(0+1)+b≤900:=AE [a,b] [.l 1 (.a (.v 0) (.a (.v 1) (.n 1))) (.n 900)] (.le (.a (.a (.v 0) (.a (.n 0) (.n 1))) (.v 1)) (.n 900)) rfl
theorem Z6:a=b→b<4→a≤10000:=AE [a,b] [.e 1 0 (.v 0) (.v 1),.l 1 (.a (.v 1) (.n 1)) (.n 4)] (.le (.v 0) (.n 10000)) rfl
theorem Z7:a≤5→0+a≤140:=AE [a] [.l 1 (.v 0) (.n 5)] (.le (.a (.n 0) (.v 0)) (.n 140)) rfl
theorem Z8:a+(b+1)≤1000→a+1+b≤1000:=AE [a,b] [.l 1 (.a (.v 0) (.a (.v 1) (.n 1))) (.n 1000)] (.le (.a (.a (.v 0) (.n 1)) (.v 1)) (.n 1000)) rfl
theorem Z9:a+2≤b→c≤a+1→c+1≤b:=AE [a,b,c] [.l 1 (.a (.v 0) (.n 2)) (.v 1),.l 1 (.v 2) (.a (.v 0) (.n 1))] (.le (.a (.v 2) (.n 1)) (.v 1)) rfl
theorem Za:a≤b→c≤d→d<a→c≤b:=AE [a,b,c,d] [.l 1 (.v 0) (.v 1),.l 1 (.v 2) (.v 3),.l 1 (.a (.v 3) (.n 1)) (.v 0)] (.le (.v 2) (.v 1)) rfl
theorem Zb:a+(b+1)≤15→a+1+b≤15:=AE [a,b] [.l 1 (.a (.v 0) (.a (.v 1) (.n 1))) (.n 15)] (.le (.a (.a (.v 0) (.n 1)) (.v 1)) (.n 15)) rfl
theorem Zc:a≤48→a≤100000:=AE [a] [.l 1 (.v 0) (.n 48)] (.le (.v 0) (.n 100000)) rfl
theorem Zd:a=b→b<4→a+1<5:=AE [a,b] [.e 1 0 (.v 0) (.v 1),.l 1 (.a (.v 1) (.n 1)) (.n 4)] (.lt (.a (.v 0) (.n 1)) (.n 5)) rfl
theorem Zf:a<4→a≤3:=AE [a] [.l 1 (.a (.v 0) (.n 1)) (.n 4)] (.le (.v 0) (.n 3)) rfl
theorem Zg:a≤16→a≤1000:=AE [a] [.l 1 (.v 0) (.n 16)] (.le (.v 0) (.n 1000)) rfl
theorem Zh:a≤60→a≤500:=AE [a] [.l 1 (.v 0) (.n 60)] (.le (.v 0) (.n 500)) rfl
theorem Zi:a+(b+1)≤1000→a≤100000:=AE [a,b] [.l 1 (.a (.v 0) (.a (.v 1) (.n 1))) (.n 1000)] (.le (.v 0) (.n 100000)) rfl
theorem Zj:1+a+b<c+1→a≤c:=AE [a,b,c] [.l 1 (.a (.a (.a (.n 1) (.v 0)) (.v 1)) (.n 1)) (.a (.v 2) (.n 1))] (.le (.v 0) (.v 2)) rfl
theorem Zk:a+(b+1)<1000→a+1+b<1000:=AE [a,b] [.l 1 (.a (.a (.v 0) (.a (.v 1) (.n 1))) (.n 1)) (.n 1000)] (.lt (.a (.a (.v 0) (.n 1)) (.v 1)) (.n 1000)) rfl
theorem Zl:a+2*b+1<c→a+2*b<c:=AE [a,b,c] [.l 1 (.a (.a (.a (.v 0) (.m (.n 2) (.v 1))) (.n 1)) (.n 1)) (.v 2)] (.lt (.a (.v 0) (.m (.n 2) (.v 1))) (.v 2)) rfl
theorem Zm:a<4→b=a+1→b≤4:=AE [a,b] [.l 1 (.a (.v 0) (.n 1)) (.n 4),.e 1 0 (.v 1) (.a (.v 0) (.n 1))] (.le (.v 1) (.n 4)) rfl
theorem Zn:a≤4→a=b+1+c→b<4:=AE [a,b,c] [.l 1 (.v 0) (.n 4),.e 0 1 (.v 0) (.a (.a (.v 1) (.n 1)) (.v 2))] (.lt (.v 1) (.n 4)) rfl
theorem Zo:a≤100→b<a→b≤100000:=AE [a,b] [.l 1 (.v 0) (.n 100),.l 1 (.a (.v 1) (.n 1)) (.v 0)] (.le (.v 1) (.n 100000)) rfl
theorem Zp:a+(b+1)≤900→a≤900:=AE [a,b] [.l 1 (.a (.v 0) (.a (.v 1) (.n 1))) (.n 900)] (.le (.v 0) (.n 900)) rfl
theorem Zq:a≤4→0+4*(a+0)≤16:=AE [a] [.l 4 (.v 0) (.n 4)] (.le (.a (.n 0) (.m (.n 4) (.a (.v 0) (.n 0)))) (.n 16)) rfl
theorem Zr:a+(b+1)≤100→a≤900:=AE [a,b] [.l 1 (.a (.v 0) (.a (.v 1) (.n 1))) (.n 100)] (.le (.v 0) (.n 900)) rfl
theorem Zs:a≤150→b≤a→b<1000:=AE [a,b] [.l 1 (.v 0) (.n 150),.l 1 (.v 1) (.v 0)] (.lt (.v 1) (.n 1000)) rfl
theorem Zt:a+(b+1)<1000→a≤999:=AE [a,b] [.l 1 (.a (.a (.v 0) (.a (.v 1) (.n 1))) (.n 1)) (.n 1000)] (.le (.v 0) (.n 999)) rfl
theorem Zu:1≤a∧a≤2→a<39:=fun h0=>AE [a] [.l 1 (.v 0) (.n 2)] (.lt (.v 0) (.n 39)) rfl h0.2
theorem Zv:a≤b→a+(0+1)≤b+1:=AE [a,b] [.l 1 (.v 0) (.v 1)] (.le (.a (.v 0) (.a (.n 0) (.n 1))) (.a (.v 1) (.n 1))) rfl
theorem Zw:a=b→b≤30→a≤100:=AE [a,b] [.e 1 0 (.v 0) (.v 1),.l 1 (.v 1) (.n 30)] (.le (.v 0) (.n 100)) rfl
theorem Zx:a≤30→a≤100:=AE [a] [.l 1 (.v 0) (.n 30)] (.le (.v 0) (.n 100)) rfl
theorem Zy:a+(b+1)≤15→a≤15:=AE [a,b] [.l 1 (.a (.v 0) (.a (.v 1) (.n 1))) (.n 15)] (.le (.v 0) (.n 15)) rfl
theorem Zz:a≤100→b≤5→a+b≤100000:=AE [a,b] [.l 1 (.v 0) (.n 100),.l 1 (.v 1) (.n 5)] (.le (.a (.v 0) (.v 1)) (.n 100000)) rfl
theorem aA:4+(a+1)≤b→3+a≤b:=AE [a,b] [.l 1 (.a (.n 4) (.a (.v 0) (.n 1))) (.v 1)] (.le (.a (.n 3) (.v 0)) (.v 1)) rfl
theorem aB:a≤b→b+2≤c→a+2≤c:=AE [a,b,c] [.l 1 (.v 0) (.v 1),.l 1 (.a (.v 1) (.n 2)) (.v 2)] (.le (.a (.v 0) (.n 2)) (.v 2)) rfl
theorem aD:a=b→b≤30→a<39:=AE [a,b] [.e 1 0 (.v 0) (.v 1),.l 1 (.v 1) (.n 30)] (.lt (.v 0) (.n 39)) rfl
theorem aE:a≤b+1→a+1≤b+1+1:=AE [a,b] [.l 1 (.v 0) (.a (.v 1) (.n 1))] (.le (.a (.v 0) (.n 1)) (.a (.a (.v 1) (.n 1)) (.n 1))) rfl
theorem aF:a+b<39→a≤100000:=AE [a,b] [.l 1 (.a (.a (.v 0) (.v 1)) (.n 1)) (.n 39)] (.le (.v 0) (.n 100000)) rfl
theorem aG:a+4*0≤16→a≤16:=AE [a] [.l 1 (.a (.v 0) (.m (.n 4) (.n 0))) (.n 16)] (.le (.v 0) (.n 16)) rfl
theorem aH:a+(b+1)≤900→a+b≤900:=AE [a,b] [.l 1 (.a (.v 0) (.a (.v 1) (.n 1))) (.n 900)] (.le (.a (.v 0) (.v 1)) (.n 900)) rfl
theorem aI:a≤1000→a≤100000+b:=AE [a,b] [.l 1 (.v 0) (.n 1000)] (.le (.v 0) (.a (.n 100000) (.v 1))) rfl
theorem aJ:a+b+1=a+1+b:=Nat.le_antisymm (AE [a,b] [] (.le (.a (.a (.v 0) (.v 1)) (.n 1)) (.a (.a (.v 0) (.n 1)) (.v 1))) rfl) (AE [a,b] [] (.le (.a (.a (.v 0) (.n 1)) (.v 1)) (.a (.a (.v 0) (.v 1)) (.n 1))) rfl)
theorem aK:a≤1→a≤900:=AE [a] [.l 1 (.v 0) (.n 1)] (.le (.v 0) (.n 900)) rfl
theorem aL:3+(a+1)≤b+1→3+a≤b:=AE [a,b] [.l 1 (.a (.n 3) (.a (.v 0) (.n 1))) (.a (.v 1) (.n 1))] (.le (.a (.n 3) (.v 0)) (.v 1)) rfl
theorem aM:a+(b+1)≤140→a+1+b≤140:=AE [a,b] [.l 1 (.a (.v 0) (.a (.v 1) (.n 1))) (.n 140)] (.le (.a (.a (.v 0) (.n 1)) (.v 1)) (.n 140)) rfl
theorem aN:a+1<39→a+1≤1000:=AE [a] [.l 1 (.a (.a (.v 0) (.n 1)) (.n 1)) (.n 39)] (.le (.a (.v 0) (.n 1)) (.n 1000)) rfl
theorem aO:a+1<39→a≤1000:=AE [a] [.l 1 (.a (.a (.v 0) (.n 1)) (.n 1)) (.n 39)] (.le (.v 0) (.n 1000)) rfl
theorem aP:4+(a+1)≤b→4+a≤b:=AE [a,b] [.l 1 (.a (.n 4) (.a (.v 0) (.n 1))) (.v 1)] (.le (.a (.n 4) (.v 0)) (.v 1)) rfl
theorem aQ:a+1≤4→4+(a+1)≤39:=AE [a] [.l 1 (.a (.v 0) (.n 1)) (.n 4)] (.le (.a (.n 4) (.a (.v 0) (.n 1))) (.n 39)) rfl
theorem aR:0≤100000:=AE [] [] (.le (.n 0) (.n 100000)) rfl
theorem aS:a=b+1→c≤b→c≤a:=AE [a,b,c] [.e 0 1 (.v 0) (.a (.v 1) (.n 1)),.l 1 (.v 2) (.v 1)] (.le (.v 2) (.v 0)) rfl
theorem aT:a<b→c<a→c<b:=AE [a,b,c] [.l 1 (.a (.v 0) (.n 1)) (.v 1),.l 1 (.a (.v 2) (.n 1)) (.v 0)] (.lt (.v 2) (.v 1)) rfl
theorem aU:1≤100000:=AE [] [] (.le (.n 1) (.n 100000)) rfl
theorem aV:a<b→b≤1000→a≤100000:=AE [a,b] [.l 1 (.a (.v 0) (.n 1)) (.v 1),.l 1 (.v 1) (.n 1000)] (.le (.v 0) (.n 100000)) rfl
theorem aW:a≤60+10+1→a≤100000:=AE [a] [.l 1 (.v 0) (.a (.a (.n 60) (.n 10)) (.n 1))] (.le (.v 0) (.n 100000)) rfl
theorem aY:a≤100000→b<a→b≤100000:=AE [a,b] [.l 1 (.v 0) (.n 100000),.l 1 (.a (.v 1) (.n 1)) (.v 0)] (.le (.v 1) (.n 100000)) rfl
theorem aZ:a≤150→b≤a→b<900:=AE [a,b] [.l 1 (.v 0) (.n 150),.l 1 (.v 1) (.v 0)] (.lt (.v 1) (.n 900)) rfl
theorem aa:a≤5→6+a≤99998:=AE [a] [.l 1 (.v 0) (.n 5)] (.le (.a (.n 6) (.v 0)) (.n 99998)) rfl
theorem ab:a≤100→a≤1000:=AE [a] [.l 1 (.v 0) (.n 100)] (.le (.v 0) (.n 1000)) rfl
theorem ad:a<100→a<200:=AE [a] [.l 1 (.a (.v 0) (.n 1)) (.n 100)] (.lt (.v 0) (.n 200)) rfl
theorem ae:a<100→a<256:=AE [a] [.l 1 (.a (.v 0) (.n 1)) (.n 100)] (.lt (.v 0) (.n 256)) rfl
theorem ah:a+(b+1)≤140→a≤140:=AE [a,b] [.l 1 (.a (.v 0) (.a (.v 1) (.n 1))) (.n 140)] (.le (.v 0) (.n 140)) rfl
theorem ai:a+b≤c→a+b≤c+1:=AE [a,b,c] [.l 1 (.a (.v 0) (.v 1)) (.v 2)] (.le (.a (.v 0) (.v 1)) (.a (.v 2) (.n 1))) rfl
theorem aj:a≤90→a+1≤100:=AE [a] [.l 1 (.v 0) (.n 90)] (.le (.a (.v 0) (.n 1)) (.n 100)) rfl
theorem ak:a≤900→a≤100000:=AE [a] [.l 1 (.v 0) (.n 900)] (.le (.v 0) (.n 100000)) rfl
theorem am:a<900→a+1≤1000:=AE [a] [.l 1 (.a (.v 0) (.n 1)) (.n 900)] (.le (.a (.v 0) (.n 1)) (.n 1000)) rfl
theorem ao:a+1≤4→0+a≤1000:=AE [a] [.l 1 (.a (.v 0) (.n 1)) (.n 4)] (.le (.a (.n 0) (.v 0)) (.n 1000)) rfl
theorem aq:a+1≤4→a+1≤100000:=AE [a] [.l 1 (.a (.v 0) (.n 1)) (.n 4)] (.le (.a (.v 0) (.n 1)) (.n 100000)) rfl
theorem ar:a≤b+c→a≤c+b:=AE [a,b,c] [.l 1 (.v 0) (.a (.v 1) (.v 2))] (.le (.v 0) (.a (.v 2) (.v 1))) rfl
theorem au:a≤4→0+(a+0)≤4:=AE [a] [.l 1 (.v 0) (.n 4)] (.le (.a (.n 0) (.a (.v 0) (.n 0))) (.n 4)) rfl
theorem av:a=b→b≤4→a<100:=AE [a,b] [.e 1 0 (.v 0) (.v 1),.l 1 (.v 1) (.n 4)] (.lt (.v 0) (.n 100)) rfl
theorem aw:a=b+1→a≤b→False:=AE [a,b] [.e 0 1 (.v 0) (.a (.v 1) (.n 1)),.l 1 (.v 0) (.v 1)] .no rfl
theorem ay:¬a+1<a:=AE [a] [] (.nt (.a (.v 0) (.n 1)) (.v 0)) rfl
theorem az:a=b→4≤b→4≤a:=AE [a,b] [.e 0 1 (.v 0) (.v 1),.l 1 (.n 4) (.v 1)] (.le (.n 4) (.v 0)) rfl
theorem bA:a<7→a+1<8:=AE [a] [.l 1 (.a (.v 0) (.n 1)) (.n 7)] (.lt (.a (.v 0) (.n 1)) (.n 8)) rfl
theorem bB:a≤33→b=58→a<b:=AE [a,b] [.l 1 (.v 0) (.n 33),.e 0 1 (.v 1) (.n 58)] (.lt (.v 0) (.v 1)) rfl
theorem bC:a+2≤b→a≤b:=AE [a,b] [.l 1 (.a (.v 0) (.n 2)) (.v 1)] (.le (.v 0) (.v 1)) rfl
theorem bD:a≤40+10+1→a≤1000:=AE [a] [.l 1 (.v 0) (.a (.a (.n 40) (.n 10)) (.n 1))] (.le (.v 0) (.n 1000)) rfl
theorem bE:a≤1000→a+1≤100000:=AE [a] [.l 1 (.v 0) (.n 1000)] (.le (.a (.v 0) (.n 1)) (.n 100000)) rfl
theorem bG:a≤12→a≤100000:=AE [a] [.l 1 (.v 0) (.n 12)] (.le (.v 0) (.n 100000)) rfl
theorem bH:1≤a∧a≤4→1≤a:=fun h0=>AE [a] [.l 1 (.n 1) (.v 0)] (.le (.n 1) (.v 0)) rfl h0.1
theorem bI:a≤1000→0+a≤1000:=AE [a] [.l 1 (.v 0) (.n 1000)] (.le (.a (.n 0) (.v 0)) (.n 1000)) rfl
theorem bJ{a:Prop}{b c:Nat}:(a∧b≤100)∧c≤100→c≤1000:=fun h0=>AE [b,c] [.l 1 (.v 1) (.n 100)] (.le (.v 1) (.n 1000)) rfl h0.2
theorem bK:a<7→a<8:=AE [a] [.l 1 (.a (.v 0) (.n 1)) (.n 7)] (.lt (.v 0) (.n 8)) rfl
theorem bL:a≤15→0+a≤15:=AE [a] [.l 1 (.v 0) (.n 15)] (.le (.a (.n 0) (.v 0)) (.n 15)) rfl
theorem bM:a<4→a≤4:=AE [a] [.l 1 (.a (.v 0) (.n 1)) (.n 4)] (.le (.v 0) (.n 4)) rfl
theorem bN:4≤a→4≤a+1:=AE [a] [.l 1 (.n 4) (.v 0)] (.le (.n 4) (.a (.v 0) (.n 1))) rfl
theorem bO{a:Prop}{b c:Nat}:(a∧b≤100)∧c≤100→b<100000:=fun h0=>AE [b,c] [.l 1 (.v 0) (.n 100)] (.lt (.v 0) (.n 100000)) rfl h0.1.2
theorem bP:a≤800→a≤899:=AE [a] [.l 1 (.v 0) (.n 800)] (.le (.v 0) (.n 899)) rfl
theorem bQ:1≤a∧a≤4→a≤4:=fun h0=>AE [a] [.l 1 (.v 0) (.n 4)] (.le (.v 0) (.n 4)) rfl h0.2
theorem bR:a≤1000000→a≤16777216:=AE [a] [.l 1 (.v 0) (.n 1000000)] (.le (.v 0) (.n 16777216)) rfl
theorem bS:a<39∧b≤100→b≤1000:=fun h0=>AE [a,b] [.l 1 (.v 1) (.n 100)] (.le (.v 1) (.n 1000)) rfl h0.2
theorem bU:a≤90→a≤100:=AE [a] [.l 1 (.v 0) (.n 90)] (.le (.v 0) (.n 100)) rfl
theorem bV:a=b→a<b→False:=AE [a,b] [.e 0 1 (.v 0) (.v 1),.l 1 (.a (.v 0) (.n 1)) (.v 1)] .no rfl
theorem bW:a≤1000→a<100000+0:=AE [a] [.l 1 (.v 0) (.n 1000)] (.lt (.v 0) (.a (.n 100000) (.n 0))) rfl
theorem bY{b:Prop}:a≤100∧b→a≤101:=fun h0=>AE [a] [.l 1 (.v 0) (.n 100)] (.le (.v 0) (.n 101)) rfl h0.1
theorem bZ:a<b→¬b<a:=AE [a,b] [.l 1 (.a (.v 0) (.n 1)) (.v 1)] (.nt (.v 1) (.v 0)) rfl
theorem b8:a=5→4<a:=AE [a] [.e 0 1 (.v 0) (.n 5)] (.lt (.n 4) (.v 0)) rfl
theorem b9:1≤a+1:=AE [a] [] (.le (.n 1) (.a (.v 0) (.n 1))) rfl
theorem ba:a≤63→a≤100000:=AE [a] [.l 1 (.v 0) (.n 63)] (.le (.v 0) (.n 100000)) rfl
theorem bb:a≤100000→a≤1000000:=AE [a] [.l 1 (.v 0) (.n 100000)] (.le (.v 0) (.n 1000000)) rfl
theorem bc:a≤20→a<30:=AE [a] [.l 1 (.v 0) (.n 20)] (.lt (.v 0) (.n 30)) rfl
theorem bd:a≤4→a<5:=AE [a] [.l 1 (.v 0) (.n 4)] (.lt (.v 0) (.n 5)) rfl
theorem bf:a=2→a<5:=AE [a] [.e 1 0 (.v 0) (.n 2)] (.lt (.v 0) (.n 5)) rfl
theorem bg:a=4→a<5:=AE [a] [.e 1 0 (.v 0) (.n 4)] (.lt (.v 0) (.n 5)) rfl
theorem bh:a=1→a<5:=AE [a] [.e 1 0 (.v 0) (.n 1)] (.lt (.v 0) (.n 5)) rfl
theorem bj:4≤a→0<a:=AE [a] [.l 1 (.n 4) (.v 0)] (.lt (.n 0) (.v 0)) rfl
theorem bk:a=0→a<5:=AE [a] [.e 1 0 (.v 0) (.n 0)] (.lt (.v 0) (.n 5)) rfl
theorem bl:4≤a→a≠2:=AE [a] [.l 1 (.n 4) (.v 0)] (.ne 1 0 (.v 0) (.n 2)) rfl
theorem bm:4≤a→a≠3:=AE [a] [.l 1 (.n 4) (.v 0)] (.ne 1 0 (.v 0) (.n 3)) rfl
theorem bo:1000≤100000:=AE [] [] (.le (.n 1000) (.n 100000)) rfl
theorem bp:4≤a→a≠1:=AE [a] [.l 1 (.n 4) (.v 0)] (.ne 1 0 (.v 0) (.n 1)) rfl
theorem bq:16>0:=AE [] [] (.lt (.n 0) (.n 16)) rfl
theorem p1:a<100000→min b (a - c)≤100000:=fun h=>Nat.le_trans (Nat.min_le_right _ _) (Nat.le_trans (Nat.sub_le _ _) (Nat.le_of_lt h))
theorem p2:a<b→b+1 - (a+1)<b+1 - a:=fun h=>by rw[Nat.add_sub_add_right,Nat.succ_sub (Nat.le_of_lt h)];exact Nat.lt_succ_self _
theorem p3:((-1:Int)+(↑a:Int)).toNat=a - 1:=by cases a with | zero=>rfl | succ n=>exact(congrArg Int.toNat (show(-1:Int)+((n:Int)+1)=n by rw[Int.add_comm (n:Int),← Int.add_assoc];exact Int.zero_add _)).trans (Int.toNat_natCast n)
theorem p6:1≤a→a=a - 1+1:=fun h=>(Nat.sub_add_cancel h).symm
theorem p8:a<b→(↑a:Int)<(↑b:Int):=Int.ofNat_lt.mpr
theorem p9:(0:Int)≤(↑a:Int):=Int.natCast_nonneg _
theorem p12:a<5→a=0∨a=1∨a=2∨a=3∨a=4:=fun h=>(by decide:∀ a,a<5→a=0∨a=1∨a=2∨a=3∨a=4) a h
theorem p13:a<200→a / 2<100:=fun h=>Nat.div_lt_of_lt_mul h
theorem p17:a≤15→min a b≤15:=fun h=>Nat.le_trans (Nat.min_le_left _ _) h
theorem p18:3≤a→a≤6→a=3∨a=4∨a=5∨a=6:=fun h g=>(by decide:∀ a,a<7→3≤a→a=3∨a=4∨a=5∨a=6) a (Nat.lt_succ_of_le g) h
theorem p19:a≤15→min a b≤100000:=fun h=>Nat.le_trans (Nat.min_le_left _ _) (Nat.le_trans h (by decide))
theorem p20:a<200→a / 2<200:=fun h=>Nat.lt_of_le_of_lt (Nat.div_le_self _ _) h
theorem p21:a - b=c+3→a+1 - (b+1)=c+3:=fun h=>by rw[Nat.add_sub_add_right];exact h
theorem cM{a:Int}:-(2:Int) ^ 62<a∧a<(2:Int) ^ 62→a<(2:Int) ^ 63:=fun h=>Int.lt_trans h.2 (by decide)
theorem p24:(↑a:Int)=(↑b:Int)→(↑b:Int)<(2:Int) ^ 63→(↑a:Int)<(2:Int) ^ 63:=fun h g=>h▸g
theorem p26:a - (b+1)=c+(d+1)→b+1+c≤a:=fun h=>by have z:=Nat.le_of_lt (Nat.lt_of_sub_pos (show 0<a - (b+1) by rw[h];exact Nat.succ_pos _));rw[← Nat.sub_add_cancel z,h,Nat.add_comm];exact Nat.add_le_add_right (Nat.le_add_right _ _) _
theorem p27:a≤1000→0+1+1+(a - Int.toNat (1:Int))≤100000:=fun h=>Nat.le_trans (Nat.add_le_add_left (Nat.le_trans (Nat.sub_le _ _) h) _) (by decide)
theorem p28:a≤b→min (b+c) a≤min b a:=fun h=>Nat.le_min.mpr ⟨Nat.le_trans (Nat.min_le_right _ _) h,Nat.min_le_right _ _⟩
theorem p29{a b c:Int}:(0:Int)≤a*b→¬c<(0:Int)→(0:Int)≤a*b+c:=fun h g=>Int.add_nonneg h (Int.not_lt.mp g)
theorem p31:3+(a+1)≤b→b=b - 1+1:=fun h=>(Nat.sub_add_cancel (Nat.le_trans (by exact Nat.le_trans (by decide) (Nat.le_add_right 3 _)) h)).symm
theorem p33:((1:Int)+(↑a:Int) - (0:Int)).toNat=1+a:=rfl
theorem p34{a:Int}:(0:Int)≤a→-(2:Int) ^ 62≤a:=fun h=>Int.le_trans (by decide) h
theorem p35:a+1+b - (a+1)=b:=by rw[Nat.add_sub_cancel_left]
theorem p36:a=0∨a=1∨a=2∨a=3∨a=4→a<5:=fun h=>by rcases h with rfl | rfl | rfl | rfl | rfl<;>decide
theorem p37:(0:Int)≤(1:Int)+(↑a:Int):=Int.add_nonneg (by decide) (Int.natCast_nonneg _)
theorem p38{a:Int}:a<(100000:Int)→a<(2:Int) ^ 62:=fun h=>Int.lt_trans h (by decide)
theorem p39{a:Int}{b:Nat}:a.toNat<b→a<(↑b:Int):=fun h=>Int.lt_of_le_of_lt (Int.self_le_toNat _) (Int.ofNat_lt.mpr h)
theorem p40:a<4→(1:Int)+(↑a:Int)<(100000:Int):=fun h=>Int.lt_trans (Int.add_lt_add_left (Int.ofNat_lt.mpr h) 1) (by decide)
theorem p41:min 1 (a+1)=1:=Nat.min_eq_left (Nat.le_add_left _ _)
theorem p43:4+0≤a→a=a - 1+1:=fun h=>(Nat.sub_add_cancel (Nat.le_trans (by decide) h)).symm
theorem p44:a≤1→a=0∨a=1:=fun h=>(by decide:∀ a,a<2→a=0∨a=1) a (Nat.lt_succ_of_le h)
theorem p45{a:Int}{b:Nat}:(0:Int)≤a→a<(↑b:Int)→b≤16 ^ 15→-(2:Int) ^ 62<a∧a<(2:Int) ^ 62:=fun h g k=>⟨Int.lt_of_lt_of_le (by decide) h,Int.lt_of_lt_of_le g (Int.le_trans (Int.ofNat_le.mpr k) (by decide))⟩
theorem TJ:3+0≤a→a=a - 3+3:=fun h=>(Nat.sub_add_cancel h).symm
theorem LB:a≤b→min a b=a:=Nat.min_eq_left
theorem p48:a≤b→c<a→c<min a b:=fun h g=>Nat.lt_min.mpr ⟨g,Nat.lt_of_lt_of_le g h⟩
theorem p49:min 12 a≤100000:=Nat.le_trans (Nat.min_le_left _ _) (by decide)
theorem p50:¬(↑(a+1):Int)=(0:Int):=fun h=>nomatch h
theorem p51:(0:Int)≤(10000:Int)+(↑(a+1):Int):=Int.add_nonneg (by decide) (Int.natCast_nonneg _)
theorem p52:a≤15→min (a - 1) a≤15:=fun h=>Nat.le_trans (Nat.min_le_right _ _) h
theorem p53:a≤33→a - 7<27:=fun h=>Nat.lt_of_le_of_lt (Nat.sub_le_sub_right h 7) (by decide)
theorem p55:a≤1000→(↑a:Int)<(100000:Int):=fun h=>Int.lt_of_le_of_lt (Int.ofNat_le.mpr h) (by decide)
theorem p57{a:Int}:¬(0:Int)≤a→a<(0:Int):=Int.not_le.mp
theorem p59:a - b=0→a≤b:=Nat.le_of_sub_eq_zero
theorem p61:(0:Int)≤(3:Int)*((↑a:Int)+(1:Int))+(1:Int):=Int.add_nonneg (Int.mul_nonneg (by decide) (Int.add_nonneg (Int.natCast_nonneg _) (by decide))) (by decide)
theorem p62:a≤15→a - 2≤15:=fun h=>Nat.le_trans (Nat.sub_le _ _) h
theorem p63:min 1 a≤100000:=Nat.le_trans (Nat.min_le_left _ _) (by decide)
theorem p66:¬a=b→a≥b→b+1≤a:=fun h g=>Nat.lt_of_le_of_ne g fun e=>h e.symm
theorem p67{a:Int}:(2:Int)≤a∧a≤(16:Int)→-(2:Int) ^ 62<a∧a<(2:Int) ^ 62:=fun h=>⟨Int.lt_of_lt_of_le (by decide) h.1,Int.lt_of_le_of_lt h.2 (by decide)⟩
theorem p70{a:Int}:-(2:Int) ^ 62<a∧a<(2:Int) ^ 62→-(2:Int) ^ 64<a:=fun h=>Int.lt_trans (by decide) h.1
theorem p71{a:Int}:-(2:Int) ^ 62<a∧a<(2:Int) ^ 62→¬a < -(2:Int) ^ 63:=fun h=>Int.not_lt.mpr (Int.le_trans (by decide) (Int.le_of_lt h.1))
theorem p72{a:Int}:(0:Int)≤a→a<(1000:Int)→(0:Int)≤a∧a≤(1114111:Int):=fun h g=>⟨h,Int.le_trans (Int.le_of_lt g) (by decide)⟩
theorem p73{a:Int}:(2:Int)≤a∧a≤(16:Int)→(0:Int)≤a:=fun h=>Int.le_trans (by decide) h.1
theorem p74:a<8→¬(8:Int)≤(↑a:Int):=fun h=>Int.not_le.mpr (Int.ofNat_lt.mpr h)
theorem p75:(0:Int)≤(↑a:Int)+(1:Int):=Int.add_nonneg (Int.natCast_nonneg _) (by decide)
theorem p77{a:Int}:-(2:Int) ^ 62<a∧a<(2:Int) ^ 62→-(2:Int) ^ 63≤a:=fun h=>Int.le_trans (by decide) (Int.le_of_lt h.1)
theorem p78{a:Int}:-(2:Int) ^ 62<a∧a<(2:Int) ^ 62→a<(2:Int) ^ 64:=fun h=>Int.lt_trans h.2 (by decide)
theorem p81:a≤100000→-(2:Int) ^ 62<(↑a:Int)∧(↑a:Int)<(2:Int) ^ 62:=fun h=>⟨Int.lt_of_lt_of_le (by decide) (Int.natCast_nonneg _),Int.lt_of_le_of_lt (Int.ofNat_le.mpr h) (by decide)⟩
theorem p82{a:Int}:-(2:Int) ^ 62<a∧a<(2:Int) ^ 62→¬a≥(2:Int) ^ 63:=fun h=>Int.not_le.mpr (Int.lt_trans h.2 (by decide))
theorem p83:(↑a:Int)<(2:Int) ^ 63→¬(↑a:Int)≥(2:Int) ^ 63:=fun h=>Int.not_le.mpr h
theorem p84{a:Int}:(0:Int)≤a→a≤(100000:Int)→-(2:Int) ^ 62<a∧a<(2:Int) ^ 62:=fun h g=>⟨Int.lt_of_lt_of_le (by decide) h,Int.lt_of_le_of_lt g (by decide)⟩
theorem p85:a≤100→(↑a:Int)+(1:Int)≤(100000:Int):=fun h=>Int.le_trans (Int.ofNat_le.mpr (Nat.succ_le_succ h)) (by decide)
theorem p86{d:Prop}:a+b≤c→¬d→a+b≤c:=fun h _=>h
theorem p90:(↑a:Int)+(1:Int)≤(↑b:Int)→a<b:=fun h=>Int.ofNat_lt.mp h
theorem p92:(1:Int)<(↑(a+1+1):Int):=Int.ofNat_lt.mpr (Nat.succ_lt_succ (Nat.succ_pos _))
theorem p93:(↑a:Int)+(1:Int) - (1:Int)=(↑a:Int):=Int.add_sub_cancel _ _
theorem p95:a<200→(↑a:Int)≤(100000:Int):=fun h=>Int.le_trans (Int.ofNat_le.mpr (Nat.le_of_lt h)) (by decide)
theorem p96{a:Int}:a.natAbs<1000000→a.natAbs<1073741824:=fun h=>Nat.lt_trans h (by decide)
theorem p97:a=2∨a=3→a<5:=fun h=>by rcases h with rfl | rfl<;>decide
theorem p99:a<200→(↑a:Int)<(100000:Int):=fun h=>Int.lt_trans (Int.ofNat_lt.mpr h) (by decide)
theorem cG:¬(↑a:Int)<(↑a:Int):=Int.lt_irrefl _
theorem cH:(↑a:Int)<(↑b:Int)→a<b:=Int.ofNat_lt.mp
theorem cI:a≤b→¬(↑b:Int)<(↑a:Int):=fun h=>Int.not_lt.mpr (Int.ofNat_le.mpr h)
theorem XY:¬(0:Int)≤(-1:Int):=by decide
theorem cJ:(0:Int)≤(0:Int):=by decide
theorem cK:(4611686018427387904:Int)≤(4611686018427387904:Int):=by decide
theorem cL:(-1:Int)≤(15:Int):=by decide
end SU1
section SMini
open PySem
noncomputable abbrev Txt:=List Nat
noncomputable def tx(s:String):Txt:=s.toList.map Char.toNat
inductive V where
 | none
 | bool (b:Bool)
 | int (i:Int)
 | str (s:Txt)
 | ref (i:Nat)
 | tup (xs:List V)
 | lst (xs:List V)
 | obj (c:Nat) (ks:List Nat) (vs:List V)
 | fn (a:Nat)

inductive BI where
 | len | ord | chr | str | int | abs
 deriving DecidableEq
inductive T where
 | loc (i:Nat)
 | tup (is:List Nat)
 deriving DecidableEq
inductive K where
 | plain | range1 | range2 | enum
 deriving DecidableEq
inductive X where
 | const (v:V)
 | loc (i:Nat)
 | bin (op:Operator) (a b:X)
 | neg (a:X)
 | not (a:X)
 | boolop (isAnd:Bool) (xs:List X)
 | ite (t a b:X)
 | cmp (l:X) (ops:List CmpOp) (rs:List X)
 | list (xs:List X)
 | tup (xs:List X)
 | dict (ks:List Txt) (vs:List X)
 | idx (a i:X)
 | slice (a lo hi:X)
 | attr (a:X) (f:Nat)
 | call (f:X) (args:List X)
 | new (mu:Bool) (c:Nat) (args:List X)
 | bi (b:BI) (args:List X)
 | meth (r:X) (f:Nat) (args:List X)
 | comp (elt:X) (t:T) (k:K) (a b:X) (ifs:List X) (ns:Nat) (caps:List (Nat×Nat))
 | stuck

inductive Tg where
 | loc (i:Nat)
 | tup (is:List Nat)
 | attr (x:X) (f:Nat)
 | sub (x i:X)

inductive S where
 | assign (t:Tg) (x:X)
 | aug (t:Tg) (op:Operator) (x:X)
 | ret (x:X)
 | ife (t:X) (a b:List S)
 | whl (t:X) (b:List S)
 | for_ (t:T) (k:K) (x y:X) (b:List S)
 | try_ (b:List S)
 | expr (x:X)
 | cont
 | stuck

inductive O where
 | list (xs:List V)
 | dict (ks:List Txt) (vs:List V)
 | inst (c:Nat) (ks:List Nat) (vs:List V)

structure St where
 objs:List (Option O)
 lo:Nat
 ro:Nat

noncomputable def St.get(st:St)(i:Nat):Option O:=(st.objs[i]?).join
noncomputable def St.put(st:St)(i:Nat)(o:O):St:={ st with objs:=st.objs.set i (some o) }
noncomputable def St.next(st:St):Nat:=st.objs.length
noncomputable def St.add(st:St)(o:O):St:={ st with objs:=st.objs++[some o] }
noncomputable def St.cut(st:St)(n:Nat)(lo ro:Nat):St:=⟨st.objs.take n,lo,ro⟩
mutual
noncomputable def AN:V→Bool
 | .ref _=>false
 | .tup xs=>refFrees xs
 | .lst xs=>refFrees xs
 | .obj _ _ vs=>refFrees vs
 | _=>true
noncomputable def refFrees:List V→Bool
 | []=>true
 | v::r=>AN v&&refFrees r
end
noncomputable abbrev M(α:Type):=Option (α×St)
noncomputable def Aj{α β:Type}(r:M α)(f:α→St→M β):M β:=match r with
 | some (a,s)=>f a s
 | none=>none
noncomputable def Fo{α:Type}(o:Option α)(st:St):M α:=match o with
 | some a=>some (a,st)
 | none=>none
noncomputable def A9{α:Type}(b:Bool)(r:M α):M α:=match b with
 | true=>r
 | false=>none
noncomputable def Eb(b:Bool)(v:V):Option V:=match b with
 | true=>some v
 | false=>none
noncomputable def St.wr(st:St)(i:Nat)(v:V):Bool:=Nat.ble st.ro i&&(Nat.ble st.lo i||AN v)
noncomputable def items(st:St):V→Option (List V)
 | .lst xs=>some xs
 | .tup xs=>some xs
 | .ref i=>match st.get i with
  | some (.list xs)=>some xs
  | _=>none
 | _=>none
noncomputable def AD(st:St):V→Option (List V)
 | .lst xs=>some xs
 | .ref i=>match st.get i with
  | some (.list xs)=>some xs
  | _=>none
 | _=>none
noncomputable def small(i:Int):Bool:=decide (-(2 ^ 62)<i)&&decide (i<2 ^ 62)
noncomputable def Cs:Nat:=100000
noncomputable def Xg(b:Bool):Int:=match b with | true=>1 | false=>0
noncomputable def Pi(a b:V)(st:St):Option V:=match a,b with
 | .int x,.int y=>some (.int (x+y))
 | .str x,.str y=>match Nat.ble (x.length+y.length) Cs with
  | true=>some (.str (x++y))
  | false=>none
 | a,b=>match AD st a,AD st b with
  | some xs,some ys=>match Nat.ble (xs.length+ys.length) Cs with
   | true=>some (.lst (xs++ys))
   | false=>none
  | _,_=>none
noncomputable def B7(op:Operator)(a b:V)(st:St):Option V:=match op with
 | .Add=>Pi a b st
 | .Sub=>match a,b with
  | .int x,.int y=>some (.int (x - y))
  | .bool x,.bool y=>some (.int (Xg x - Xg y))
  | _,_=>none
 | .Mult=>match a,b with
  | .int x,.int y=>match small x&&small y with
   | true=>some (.int (x*y))
   | false=>none
  | _,_=>none
 | .Mod=>match a,b with
  | .int x,.int y=>match decide (y=0) with
   | true=>none
   | false=>some (.int (x.fmod y))
  | _,_=>none
 | .FloorDiv=>match a,b with
  | .int x,.int y=>match decide (y=0),small x&&small y&&decide (y.natAbs<1000000) with
   | false,true=>some (.int (x.fdiv y))
   | _,_=>none
  | _,_=>none
 | _=>none
noncomputable def Kc(op:Operator)(a b:V):Option V:=match a,b with
 | .int x,.int y=>match op with
  | .Add=>some (.int (x+y))
  | .Sub=>some (.int (x - y))
  | _=>none
 | _,_=>none
noncomputable def DL:V→V→Option Bool
 | .int x,.int y=>some (decide (x=y))
 | .str x,.str y=>some (decide (x=y))
 | _,_=>none
noncomputable def C7:List V→List V→Option Bool
 | [],[]=>some true
 | x::xs,y::ys=>match DL x y,C7 xs ys with
  | some p,some q=>some (p&&q)
  | _,_=>none
 | _,_=>some false
noncomputable def Xi(a b:V)(st:St):Option Bool:=match DL a b with
 | some c=>some c
 | none=>match AD st a,AD st b with
  | some xs,some ys=>match decide (xs.length=ys.length) with
   | true=>C7 xs ys
   | false=>some false
  | _,_=>none
noncomputable def apart:V→V→Bool
 | .ref i,.ref j=>!Nat.beq i j
 | _,_=>true
noncomputable def C8(x:V):List V→Option Bool
 | []=>some false
 | y::ys=>match DL y x,C8 x ys with
  | some p,some q=>some (p||q)
  | _,_=>none
noncomputable def Qa(a b:V)(st:St):Option Bool:=match b with
 | .str h=>match a with
  | .str [c]=>some (h.contains c)
  | _=>none
 | .tup xs=>C8 a xs
 | .lst xs=>C8 a xs
 | .ref i=>match st.get i with
  | some (.list xs)=>C8 a xs
  | some (.dict ks _)=>match a with
   | .str s=>some (ks.contains s)
   | _=>none
  | _=>none
 | _=>none
noncomputable def Gr:Txt→Txt→Bool
 | [],_=>true
 | _::_,[]=>false
 | x::xs,y::ys=>match decide (x<y),decide (y<x) with
  | true,_=>true
  | false,true=>false
  | false,false=>Gr xs ys
noncomputable def isNone:V→Bool
 | .none=>true
 | _=>false
noncomputable def EB(op:CmpOp)(a b:V)(st:St):Option Bool:=match op with
 | .Eq=>Xi a b st
 | .NotEq=>(Xi a b st).map (!·)
 | .Lt=>match a,b with | .int x,.int y=>some (decide (x<y)) | _,_=>none
 | .LtE=>match a,b with
  | .int x,.int y=>some (decide (x≤y))
  | .str x,.str y=>some (Gr x y)
  | _,_=>none
 | .Gt=>match a,b with | .int x,.int y=>some (decide (y<x)) | _,_=>none
 | .GtE=>match a,b with | .int x,.int y=>some (decide (y≤x)) | _,_=>none
 | .Is=>match b with | .none=>some (isNone a) | _=>none
 | .IsNot=>match b with | .none=>some (!isNone a) | _=>none
 | .In=>Qa a b st
 | .NotIn=>(Qa a b st).map (!·)
noncomputable def truthy:V→Option Bool
 | .bool b=>some b
 | _=>none
noncomputable def GG(i:Int)(n:Nat):Option Nat :=
 match decide (0≤i),decide (i<n),decide (-(n:Int)≤i) with
 | true,true,_=>some i.toNat
 | false,_,true=>some (i+n).toNat
 | _,_,_=>none
noncomputable def Aq:List Txt→List V→Txt→Option V
 | k::ks,v::vs,s=>match decide (k=s) with
  | true=>some v
  | false=>Aq ks vs s
 | _,_,_=>none
noncomputable def AV:List Txt→List V→Txt→V→List Txt×List V
 | k::ks,v::vs,s,x=>match decide (k=s) with
  | true=>(k::ks,x::vs)
  | false=>let r:=AV ks vs s x;(k::r.1,v::r.2)
 | _,_,s,x=>([s],[x])
noncomputable def DX:List Nat→List V→Nat→Option V
 | k::ks,v::vs,f=>match Nat.beq k f with
  | true=>some v
  | false=>DX ks vs f
 | _,_,_=>none
noncomputable def CV:List Nat→List V→Nat→V→List Nat×List V
 | k::ks,v::vs,f,x=>match Nat.beq k f with
  | true=>(k::ks,x::vs)
  | false=>let r:=CV ks vs f x;(k::r.1,v::r.2)
 | _,_,f,x=>([f],[x])
noncomputable def BR(a i:V)(st:St):Option V:=match i with
 | .int k=>match a with
  | .str s=>match GG k s.length,small k with
   | some j,true=>match s[j]? with
    | some c=>some (.str [c])
    | none=>none
   | _,_=>none
  | a=>match items st a with
   | some xs=>match decide (0≤k),small k with
    | true,true=>xs[k.toNat]?
    | _,_=>none
   | none=>none
 | .str s=>match a with
  | .ref j=>match st.get j with
   | some (.dict ks vs)=>Aq ks vs s
   | _=>none
  | _=>none
 | _=>none
noncomputable def Dk(d:Nat)(n:Nat):V→Option Nat
 | .none=>some d
 | .int k=>match decide (0≤k) with
  | true=>some (min k.toNat n)
  | false=>some ((k+n).toNat)
 | _=>none
noncomputable def DF{α:Type}(xs:List α)(lo hi:V):Option (List α) :=
 match Dk 0 xs.length lo,Dk xs.length xs.length hi with
 | some a,some b=>some ((xs.take b).drop a)
 | _,_=>none
noncomputable def Bg(a lo hi:V)(st:St):Option V:=match a with
 | .str s=>match Nat.ble s.length Cs with
  | true=>(DF s lo hi).map .str
  | false=>none
 | a=>match AD st a with
  | some xs=>match Nat.ble xs.length Cs with
   | true=>(DF xs lo hi).map .lst
   | false=>none
  | none=>none
noncomputable def Am(f:Nat):Bool:=Nat.ble 7 f&&Nat.ble f 33
noncomputable def AU(ok:Nat→Bool)(a:V)(f:Nat)(st:St):Option V:=match a with
 | .ref i=>match st.get i with
  | some (.inst c ks vs)=>match ok c&&Am f with
   | true=>DX ks vs f
   | false=>none
  | _=>none
 | .obj c ks vs=>match ok c&&Am f with
  | true=>DX ks vs f
  | false=>none
 | _=>none
noncomputable def setAttr(ok:Nat→Bool)(a:V)(f:Nat)(v:V)(st:St):M Unit:=match a with
 | .ref i=>match st.get i with
  | some (.inst c ks vs)=>A9 (ok c&&Am f&&Nat.ble ks.length 60&&st.wr i v) (let r:=CV ks vs f v;some ((),st.put i (.inst c r.1 r.2)))
  | _=>none
 | _=>none
noncomputable def Dg(a i v:V)(st:St):M Unit:=match a with
 | .ref j=>match st.get j,i with
  | some (.dict ks vs),.str s=>A9 (st.wr j v&&Nat.ble ks.length Cs) (let r:=AV ks vs s v;some ((),st.put j (.dict r.1 r.2)))
  | some (.list xs),.int k=>match GG k xs.length with
   | some p=>A9 (st.wr j v&&decide (0≤k)&&small k) (some ((),st.put j (.list (xs.set p v))))
   | none=>none
  | _,_=>none
 | _=>none
noncomputable def Bb(i:Int):Txt:=(Str.ofString (toString i)).cps.toList
noncomputable def FO(b:BI)(vs:List V)(st:St):Option V:=match vs with
 | []=>none
 | a::r=>match r with
  | _::_=>none
  | []=>match b with
   | .len=>match a with
    | .str s=>Eb (Nat.ble s.length Cs) (.int s.length)
    | a=>match items st a with
     | some xs=>Eb (Nat.ble xs.length Cs) (.int xs.length)
     | none=>none
   | .ord=>match a with
    | .str s=>match s with
     | []=>none
     | c::t=>match t with
      | []=>some (.int c)
      | _::_=>none
    | _=>none
   | .chr=>match a with
    | .int i=>Eb (decide (0≤i)&&decide (i<1000)) (.str [i.toNat])
    | _=>none
   | .str=>match a with
    | .int i=>Eb (decide (0≤i)&&decide (i<100000)) (.str (Bb i))
    | _=>none
   | .int=>match a with
    | .int i=>some (.int i)
    | _=>none
   | .abs=>match a with
    | .int i=>some (.int (match decide (i<0) with | true=>-i | false=>i))
    | _=>none
noncomputable def NT:List String:=["append","extend","get","find","join","split","strip",
 "number","text","label","word","tokens","names","rows","octets","symbols","listing","errors","entry",
 "encoder","sizes","is_last","rows_put","fixed","changing","macros","at","serial","rows_left","conditions","is_ended","made",
 "depth","operators",
 "define","define_again","worth","walk","step","needed","block_end","choose","call","set_label","plain","put","size_before","count","octets_of","order","told_octets","room",
 "here","take","whole","single","value","row"]
noncomputable def Ew:List V→Option (List Txt)
 | []=>some []
 | .str s::r=>match Ew r with
  | some l=>some (s::l)
  | none=>none
 | _::_=>none
noncomputable def AR(t:Txt):Str:=⟨t.toArray⟩
noncomputable def H5(s:Txt)(c:Nat):List Str:=Txt.split (AR s) (AR [c])
noncomputable def PP(s:Txt)(f:Nat)(vs:List V)(st:St):M V:=match vs with
 | []=>A9 (Nat.beq f 6&&Nat.ble s.length Cs) (some (.str (Txt.strip (AR s)).cps.toList,st))
 | a::r=>match r with
  | _::_=>none
  | []=>match Nat.beq f 4 with
   | true=>match AD st a with
    | some xs=>match Ew xs with
     | some ts=>A9 (JoinOk (AR s) (ts.map AR)) (some (.str (Txt.join (AR s) (ts.map AR)).cps.toList,st))
     | none=>none
    | none=>none
   | false=>match a with
    | .str t=>match t with
     | []=>none
     | c::t=>match t with
      | _::_=>none
      | []=>match Nat.beq f 3 with
       | true=>some (.int (Txt.find (AR s) (AR [c])),st)
       | false=>A9 (Nat.beq f 5&&Nat.ble s.length Cs) (some (.lst ((H5 s c).map fun x=>.str x.cps.toList),st))
    | _=>none
noncomputable def MO(i:Nat)(xs:List V)(f:Nat)(vs:List V)(st:St):M V:=match vs with
 | []=>none
 | a::r=>match r with
  | _::_=>none
  | []=>match Nat.beq f 0 with
   | true=>A9 (st.wr i a&&Nat.ble xs.length Cs) (some (.none,st.put i (.list (xs++[a]))))
   | false=>match AD st a with
    | some ys=>A9 (Nat.beq f 1&&(refFrees ys&&(Nat.ble st.ro i&&Nat.ble (xs.length+ys.length) Cs))) (some (.none,st.put i (.list (xs++ys))))
    | none=>none
noncomputable def PO(ks:List Txt)(ws:List V)(f:Nat)(vs:List V)(st:St):M V:=match vs with
 | []=>none
 | a::r=>match a with
  | .str k=>match r with
   | []=>A9 (Nat.beq f 2) (some ((Aq ks ws k).getD .none,st))
   | d::r=>match r with
    | []=>A9 (Nat.beq f 2) (some ((Aq ks ws k).getD d,st))
    | _::_=>none
  | _=>none
noncomputable def BS(r:V)(f:Nat)(vs:List V)(st:St):M V:=match r with
 | .str s=>PP s f vs st
 | .ref i=>match st.get i with
  | some o=>match o with
   | .list xs=>MO i xs f vs st
   | .dict ks ws=>PO ks ws f vs st
   | .inst ..=>none
  | none=>none
 | _=>none
noncomputable def EO(st:St)(r:V)(f:Nat):Bool:=match r with
 | .str _=>Nat.ble 3 f&&Nat.ble f 6
 | .ref i=>match st.get i with
  | some (.list _)=>Nat.ble f 1
  | some (.dict ..)=>Nat.beq f 2
  | _=>false
 | _=>false
inductive Mode where
 | pure | scoped | open_
 deriving DecidableEq
structure Fn where
 np:Nat
 ns:Nat
 mode:Mode
 body:List S

structure Cl where
 init:Nat
 meths:List (Nat×Nat)

noncomputable abbrev AG:=List (Option V)
inductive Fl where
 | next | cont | ret (v:V)

noncomputable abbrev AC:=Nat→List V→St→M V
mutual
noncomputable def Fv(objs:List (Option O))(n0:Nat):Nat→V→Option V
 | 0,_=>none
 | k+1,v=>match AN v with
  | true=>some v
  | false=>match v with
   | .ref i=>match Nat.blt i n0 with
    | true=>some (.ref i)
    | false=>match (objs[i]?).join with
     | some (.list xs)=>(frzs objs n0 k xs).map .lst
     | some (.inst c ks vs)=>(frzs objs n0 k vs).map (.obj c ks)
     | _=>none
   | .tup xs=>(frzs objs n0 k xs).map .tup
   | .lst xs=>(frzs objs n0 k xs).map .lst
   | .obj c ks vs=>(frzs objs n0 k vs).map (.obj c ks)
   | _=>none
noncomputable def frzs(objs:List (Option O))(n0:Nat):Nat→List V→Option (List V)
 | 0,_=>none
 | k+1,vs=>match vs with
  | []=>some []
  | v::r=>match Fv objs n0 k v,frzs objs n0 k r with
   | some a,some b=>some (a::b)
   | _,_=>none
end
noncomputable def BO(μ:AG)(i:Nat)(v:V):AG:=μ.set i (some v)
noncomputable def BX(μ:AG):List Nat→List V→Option AG
 | [],[]=>some μ
 | i::is,v::vs=>BX (BO μ i v) is vs
 | _,_=>none
noncomputable def FD(μ:AG)(t:T)(v:V):Option AG:=match t with
 | .loc i=>some (BO μ i v)
 | .tup is=>match v with
  | .tup vs=>BX μ is vs
  | _=>none
noncomputable def CH(μ:AG):List (Nat×Nat)→AG→Option AG
 | [],μ'=>some μ'
 | (i,j)::r,μ'=>match μ[j]? with
  | some (some v)=>CH μ r (BO μ' i v)
  | _=>none
noncomputable def Al(a b:Int):List V:=(List.range (b - a).toNat).map fun(i:Nat)=>V.int (a+(i:Int))
noncomputable def GE(xs:List V):List V:=(List.range xs.length).zipWith (fun(i:Nat) x=>V.tup [.int i,x]) xs
noncomputable def A5(CT:Nat→Option Cl)(c:Nat):Bool:=(CT c).isSome
section
variable (CT:Nat→Option Cl)
noncomputable def Fw(C:AC)(mu:Bool)(c:Nat)(vs:List V)(st:St):M V :=
 match CT c with
 | none=>none
 | some cl=>match mu with
  | true=>Aj (C cl.init (.ref st.next::vs) (st.add (.inst c [] []))) fun r st'=>A9 (isNone r) (some (.ref st.next,st'))
  | false=>Aj (C cl.init (.ref st.next::vs) { st.add (.inst c [] []) with lo:=st.next }) fun r st' =>
    A9 (isNone r) <| Fo (Fv st'.objs st.next 40 (.ref st.next)) (st'.cut st.next st.lo st.ro)
noncomputable def Ac(st:St)(r:V)(f:Nat):Option Nat:=match r with
 | .ref i=>match st.get i with
  | some (.inst c ks vs)=>match CT c,DX ks vs f with
   | some cl,none=>cl.meths.lookup f
   | _,_=>none
  | _=>none
 | _=>none
noncomputable def Bj:T→Bool
 | .loc _=>true
 | _=>false
noncomputable def VN(st:St)(t:T):V→Option (List V)
 | .str s=>match Bj t with
  | true=>some (s.map fun c=>V.str [c])
  | false=>none
 | .lst xs=>some xs
 | .ref i=>match st.get i with
  | some (.list xs)=>some xs
  | some (.dict ks _)=>match Bj t with
   | true=>some (ks.map .str)
   | false=>none
  | _=>none
 | _=>none
noncomputable def B5(st:St)(src:V):St:=match src with
 | .ref i=>{ st with ro:=max st.ro (i+1) }
 | _=>st
noncomputable def Aa(ro:Nat)(st:St):St:={ st with ro:=ro }
noncomputable def Bo(st:St)(k:K)(t:T)(a b:V):Option (List V×V):=match k with
 | .plain=>(VN st t a).map fun xs=>(xs,a)
 | .range1=>match a with
  | .int i=>match Bj t&&decide (0≤i)&&decide (i<100000) with
   | true=>some (Al 0 i,.none)
   | false=>none
  | _=>none
 | .range2=>match a,b with
  | .int i,.int j=>match Bj t&&decide (0≤i)&&decide (i<100000)&&decide (0≤j)&&decide (j<100000) with
   | true=>some (Al i j,.none)
   | false=>none
  | _,_=>none
 | .enum=>match Bj t,AD st a with
  | false,some xs=>some (GE xs,a)
  | _,_=>none
noncomputable def Ax(test:AG→St→M Bool)(elt:AG→St→M V)(t:T):List V→AG→St→M (List V)
 | [],_,st=>some ([],st)
 | v::r,μ,st=>match FD μ t v with
  | none=>none
  | some μ'=>Aj (test μ' st) fun b st₁=>match b with
   | true=>Aj (elt μ' st₁) fun x st₂=>Aj (Ax test elt t r μ' st₂) fun xs st=>some (x::xs,st)
   | false=>Ax test elt t r μ' st₁
mutual
noncomputable def ev(C:AC)(μ:AG)(st:St):X→M V
 | .const v=>some (v,st)
 | .loc i=>match μ[i]? with
  | some (some v)=>some (v,st)
  | _=>none
 | .bin op a b=>Aj (ev C μ st a) fun va st=>Aj (ev C μ st b) fun vb st=>Fo (B7 op va vb st) st
 | .neg a=>Aj (ev C μ st a) fun v st=>match v with
  | .int i=>some (.int (-i),st)
  | _=>none
 | .not a=>Aj (ev C μ st a) fun v st=>match truthy v with
  | some b=>some (.bool (!b),st)
  | none=>none
 | .boolop c xs=>evBool C μ st c xs
 | .ite t a b=>Aj (ev C μ st t) fun v st=>match truthy v with
  | some true=>ev C μ st a
  | some false=>ev C μ st b
  | none=>none
 | .cmp l ops rs=>Aj (ev C μ st l) fun v st=>evCmp C μ st v ops rs
 | .list xs=>Aj (evs C μ st xs) fun vs st=>A9 (Nat.ble vs.length Cs) (some (.ref st.next,st.add (.list vs)))
 | .tup xs=>Aj (evs C μ st xs) fun vs st=>A9 (Nat.ble vs.length Cs) (some (.tup vs,st))
 | .dict ks vs=>Aj (evs C μ st vs) fun vvs st=>A9 (decide (ks.length=vvs.length)&&decide ks.Nodup&&Nat.ble ks.length 15) (some (.ref st.next,st.add (.dict ks vvs)))
 | .idx a i=>Aj (ev C μ st a) fun va st=>Aj (ev C μ st i) fun vi st=>Fo (BR va vi st) st
 | .slice a lo hi=>Aj (ev C μ st a) fun va st=>Aj (ev C μ st lo) fun vl st=>Aj (ev C μ st hi) fun vh st=>Fo (Bg va vl vh st) st
 | .attr a f=>Aj (ev C μ st a) fun va st=>Fo (AU (A5 CT) va f st) st
 | .call f args=>Aj (ev C μ st f) fun vf st=>Aj (evs C μ st args) fun vs st=>match vf with
  | .fn a=>C a vs st
  | _=>none
 | .new mu c args=>Aj (evs C μ st args) fun vs st=>Fw CT C mu c vs st
 | .bi b args=>Aj (evs C μ st args) fun vs st=>Fo (FO b vs st) st
 | .meth r f args=>Aj (ev C μ st r) fun vr st=>match Ac CT st vr f with
  | some g=>Aj (evs C μ st args) fun vs st=>C g (vr::vs) st
  | none=>A9 (EO st vr f) (Aj (evs C μ st args) fun vs st=>BS vr f vs st)
 | .comp elt t k a b ifs ns caps=>Aj (ev C μ st a) fun va st=>Aj (ev C μ st b) fun vb st=>match Bo st k t va vb,CH μ caps (List.replicate ns none) with
   | some p,some μ₀=>Aj (Ax (fun μ st=>evIfs C μ st ifs) (fun μ st=>ev C μ st elt) t p.1 μ₀ (B5 st p.2)) fun vs st'=>A9 (Nat.ble p.1.length Cs) (some (.lst vs,Aa st.ro st'))
   | _,_=>none
 | .stuck=>none
noncomputable def evs(C:AC)(μ:AG)(st:St):List X→M (List V)
 | []=>some ([],st)
 | x::r=>Aj (ev C μ st x) fun v st=>Aj (evs C μ st r) fun vs st=>some (v::vs,st)
noncomputable def evBool(C:AC)(μ:AG)(st:St)(c:Bool):List X→M V
 | []=>none
 | x::r=>Aj (ev C μ st x) fun v st=>match r with
  | []=>some (v,st)
  | _::_=>match truthy v with
   | some b=>match Bool.xor b c with
    | true=>some (v,st)
    | false=>evBool C μ st c r
   | none=>none
noncomputable def evCmp(C:AC)(μ:AG)(st:St)(l:V)(ops:List CmpOp):List X→M V
 | []=>none
 | r::rs=>match ops with
  | []=>none
  | op::ops=>Aj (ev C μ st r) fun rv st=>match EB op l rv st with
   | some b=>match ops,rs with
    | [],[]=>some (.bool b,st)
    | _::_,_::_=>match b with
     | true=>evCmp C μ st rv ops rs
     | false=>some (.bool false,st)
    | _,_=>none
   | none=>none
noncomputable def evIfs(C:AC)(μ:AG)(st:St):List X→M Bool
 | []=>some (true,st)
 | x::r=>Aj (ev C μ st x) fun v st=>match truthy v with
  | some true=>evIfs C μ st r
  | some false=>some (false,st)
  | none=>none
end
end
noncomputable def W:Nat:=100000
section
variable (CT:Nat→Option Cl)
noncomputable def Xf(C:AC)(μ:AG)(st:St)(t:Tg)(v:V):M AG:=match t with
 | .loc i=>some (BO μ i v,st)
 | .tup is=>match v with
  | .tup vs=>Fo (BX μ is vs) st
  | _=>none
 | .attr x f=>Aj (ev CT C μ st x) fun o st=>Aj (setAttr (A5 CT) o f v st) fun _ st=>some (μ,st)
 | .sub x i=>Aj (ev CT C μ st x) fun o st=>Aj (ev CT C μ st i) fun iv st=>Aj (Dg o iv v st) fun _ st=>some (μ,st)
noncomputable def BP(test:AG→St→M V)(body:AG→St→M (Fl×AG)):Nat→AG→St→M (Fl×AG)
 | 0,_,_=>none
 | k+1,μ,st=>Aj (test μ st) fun v st=>match truthy v with
  | some false=>some ((.next,μ),st)
  | some true=>Aj (body μ st) fun p st=>match p.1 with
   | .ret v=>some ((.ret v,p.2),st)
   | _=>BP test body k p.2 st
  | none=>none
noncomputable def Bn(t:T)(body:AG→St→M (Fl×AG)):List V→AG→St→M (Fl×AG)
 | [],μ,st=>some ((.next,μ),st)
 | v::r,μ,st=>match FD μ t v with
  | none=>none
  | some μ=>Aj (body μ st) fun p st'=>match p.1 with
   | .ret v=>some ((.ret v,p.2),st')
   | _=>Bn t body r p.2 st'
mutual
noncomputable def ex(C:AC)(μ:AG)(st:St):S→M (Fl×AG)
 | .assign t x=>Aj (ev CT C μ st x) fun v st=>Aj (Xf CT C μ st t v) fun μ st=>some ((.next,μ),st)
 | .aug t op x=>match t with
  | .loc i=>match μ[i]? with
   | some (some v)=>Aj (ev CT C μ st x) fun vx st=>Aj (Fo (Kc op v vx) st) fun r st=>some ((.next,BO μ i r),st)
   | _=>none
  | .attr o f=>Aj (ev CT C μ st o) fun vo st=>Aj (Fo (AU (A5 CT) vo f st) st) fun v st=>Aj (ev CT C μ st x) fun vx st =>
    Aj (Fo (Kc op v vx) st) fun r st=>Aj (setAttr (A5 CT) vo f r st) fun _ st=>some ((.next,μ),st)
  | _=>none
 | .ret x=>Aj (ev CT C μ st x) fun v st=>some ((.ret v,μ),st)
 | .ife t a b=>Aj (ev CT C μ st t) fun v st=>match truthy v with
  | some true=>exs C μ st a
  | some false=>exs C μ st b
  | none=>none
 | .whl t b=>BP (fun μ st=>ev CT C μ st t) (fun μ st=>exs C μ st b) W μ st
 | .for_ t k x y b=>Aj (ev CT C μ st x) fun vx st=>Aj (ev CT C μ st y) fun vy st=>match Bo st k t vx vy with
   | some p=>Aj (Bn t (fun μ st=>exs C μ st b) p.1 μ (B5 st p.2)) fun r st'=>A9 (Nat.ble p.1.length Cs) (some (r,Aa st.ro st'))
   | none=>none
 | .try_ b=>exs C μ st b
 | .expr x=>Aj (ev CT C μ st x) fun _ st=>some ((.next,μ),st)
 | .cont=>some ((.cont,μ),st)
 | .stuck=>none
noncomputable def exs(C:AC)(μ:AG)(st:St):List S→M (Fl×AG)
 | []=>some ((.next,μ),st)
 | s::r=>Aj (ex C μ st s) fun p st=>match p.1 with
  | .next=>exs C p.2 st r
  | _=>some (p,st)
end
noncomputable def MA:Fl→V
 | .ret v=>v
 | _=>.none
variable (FT:Nat→Option Fn)
noncomputable def AP:Nat→AC
 | 0,_,_,_=>none
 | n+1,a,vs,st=>match FT a with
  | none=>none
  | some f=>match decide (vs.length=f.np) with
   | false=>none
   | true =>
    let μ:AG:=vs.map some++List.replicate (f.ns - f.np) none
    match f.mode with
    | .pure=>Aj (exs CT (AP n) μ ⟨st.objs,st.next,st.next⟩ f.body) fun p st'=>Fo (Fv st'.objs st.next 40 (MA p.1)) st
    | .scoped=>Aj (exs CT (AP n) μ ⟨st.objs,st.next,st.ro⟩ f.body) fun p st' =>
      Fo (Fv st'.objs st.next 40 (MA p.1)) (st'.cut st.next st.lo st.ro)
    | .open_=>Aj (exs CT (AP n) μ st f.body) fun p st'=>some (MA p.1,st')
end
structure Names where
 globs:List (Str×V)
 classes:List (Str×Nat)
noncomputable def NJ(s:Str):Option Nat:=NT.findIdx? fun n=>Str.ofString n==s
noncomputable def CX(sc:List (Str×NameKind))(x:Str):Option Nat:=match sc.lookup x with
 | some .local=>sc.findIdx? fun p=>p.1==x
 | some .cell=>sc.findIdx? fun p=>p.1==x
 | some .free=>sc.findIdx? fun p=>p.1==x
 | _=>none
noncomputable def CC(sc:List (Str×NameKind))(x:Str):Option Nat:=match sc.lookup x with
 | some .local=>sc.findIdx? fun p=>p.1==x
 | _=>none
noncomputable def Ba(sc:List (Str×NameKind)):List Expr→Option (List Nat)
 | []=>some []
 | e::r=>match e with
  | .Name x _=>match CC sc x,Ba sc r with
   | some i,some is=>some (i::is)
   | _,_=>none
  | _=>none
noncomputable def P9(sc:List (Str×NameKind)):Expr→Option T
 | .Name x _=>(CC sc x).map .loc
 | .Tuple es _ _=>(Ba sc es).map .tup
 | _=>none
noncomputable def Pm(s:Str):Option BI :=
 if s==("len":Str) then some .len else if s==("ord":Str) then some .ord else if s==("chr":Str) then some .chr
 else if s==("str":Str) then some .str else if s==("int":Str) then some .int else if s==("abs":Str) then some .abs else none
noncomputable def As(sc:List (Str×NameKind))(x:Str):Bool:=match sc.lookup x with
 | some .globalImplicit=>true
 | _=>false
noncomputable def GS:Expr→Bool
 | .Call (.Name ..) [] [] _=>true
 | _=>false
noncomputable def Sl:Expr→Bool
 | .Set ..=>true
 | _=>false
noncomputable def EC:List (Option Expr)→Option (List Txt)
 | []=>some []
 | k::r=>match k with
  | some (.Constant (.str s) _ _)=>match EC r with
   | some l=>some (s.cps.toList::l)
   | none=>none
  | _=>none
noncomputable def Kb:Expr→Option (Str×List Expr)
 | .Call f args kws _=>match kws with
  | []=>match f with
   | .Name x _=>some (x,args)
   | _=>none
  | _::_=>none
 | _=>none
noncomputable def Xj(b:Bool)(x:Str)(args:List Expr):K:=match b with
 | false=>.plain
 | true=>match args with
  | []=>.plain
  | _::r=>match r with
   | []=>match x==("range":Str) with
    | true=>.range1
    | false=>match x==("enumerate":Str) with
     | true=>.enum
     | false=>.plain
   | _::r=>match r with
    | []=>match x==("range":Str) with
     | true=>.range2
     | false=>.plain
    | _::_=>.plain
noncomputable def Cn(sc:List (Str×NameKind))(e:Expr):K:=match Kb e with
 | none=>.plain
 | some p=>Xj (As sc p.1) p.1 p.2
noncomputable def EP(k:K)(l:List X)(x:X):Option (K×X×X):=match k with
 | .plain=>some (.plain,x,.const .none)
 | .range2=>match l with
  | [a,b]=>some (.range2,a,b)
  | _=>none
 | .range1=>match l with
  | [a]=>some (.range1,a,.const .none)
  | _=>none
 | .enum=>match l with
  | [a]=>some (.enum,a,.const .none)
  | _=>none
noncomputable def AY(sc:List (Str×NameKind))(scope:Scope):List (Str×NameKind):=scope.names.map fun p=>if(p.2==.free&&sc.lookup p.1==some .cell) then(p.1,.cell) else p
noncomputable def Bm(outer inner:List (Str×NameKind)):List (Str×NameKind)→List (Nat×Nat)
 | []=>[]
 | p::r=>match p.2 with
  | .free=>match CX inner p.1,CX outer p.1 with
   | some i,some j=>(i,j)::Bm outer inner r
   | _,_=>Bm outer inner r
  | _=>Bm outer inner r
noncomputable def F4(k:NameKind)(o:Option NameKind):Bool:=match o with
 | some k'=>k'==k
 | none=>false
noncomputable def It(sc:List (Str×NameKind))(scope:Scope):Bool:=scope.kind==.function&&scope.names.all (fun p=>p.2 != .cell&&(p.2 != .local||F4 .local (scope.names.lookup p.1)) &&
  (p.2 != .free||((F4 .cell (sc.lookup p.1)||F4 .free (sc.lookup p.1))&&(CX (AY sc scope) p.1).isSome&&(CX sc p.1).isSome&&(F4 .cell ((AY sc scope).lookup p.1)||F4 .free ((AY sc scope).lookup p.1))))) &&
 ((AY sc scope).lookup ("__debug__":Str)).isNone&&((AY sc scope).lookup ("__classdict__":Str)).isNone
noncomputable def YD(b:Bool)(x:X)(ops:List CmpOp)(rs:List X):X:=match b with
 | true=>.stuck
 | false=>.cmp x ops rs
noncomputable def YF(k:Option (List Txt))(vs:List X):X:=match k with
 | none=>.stuck
 | some ts=>.dict ts vs
noncomputable def YA(k:Option Nat)(b:Bool)(x:X):X:=match k with
 | none=>.stuck
 | some f=>match b with
  | true=>.stuck
  | false=>.attr x f
noncomputable def YZ(k:Option Nat)(b:Bool)(x:X)(as:List X):X:=match k with
 | none=>.stuck
 | some g=>match b with
  | true=>.stuck
  | false=>.meth x g as
noncomputable def YQ(ok:Bool)(t:Option T)(p:Option (K×X×X))(elt:X)(ifs:List X)(n:Nat)(caps:List (Nat×Nat)):X:=match ok with
 | false=>.stuck
 | true=>match t with
  | none=>.stuck
  | some t=>match p with
   | none=>.stuck
   | some p=>.comp elt t p.1 p.2.1 p.2.2 ifs n caps
noncomputable def Vl(N:Names)(x:Str)(b:Bool):X:=match b with
 | false=>.stuck
 | true=>match N.globs.lookup x with
  | none=>.stuck
  | some v=>.const v
noncomputable def Tw(N:Names)(sc:List (Str×NameKind))(x:Str):X:=match CX sc x with
 | some i=>.loc i
 | none=>Vl N x (As sc x)
noncomputable def Wp(N:Names)(x:Str)(as:List X)(b:Bool):X:=match b with
 | false=>.stuck
 | true=>match N.globs.lookup x with
  | some v=>.call (.const v) as
  | none=>match N.classes.lookup x with
   | some c=>.new false c as
   | none=>match Pm x with
    | some b=>.bi b as
    | none=>.stuck
noncomputable def Tv(N:Names)(sc:List (Str×NameKind))(x:Str)(as:List X):X:=match CX sc x with
 | some i=>.call (.loc i) as
 | none=>Wp N x as (As sc x)
section
variable (N:Names)
mutual
noncomputable def Ao(sc:List (Str×NameKind)):Expr→X
 | .Constant c _ _=>match c with
  | .none=>.const .none
  | .bool b=>.const (.bool b)
  | .int i=>.const (.int i)
  | .str s=>.const (.str s.cps.toList)
  | _=>.stuck
 | .Name id _=>Tw N sc id
 | .BoolOp op vs _=>.boolop (op==.And) (trEs sc vs)
 | .BinOp l op r _=>.bin op (Ao sc l) (Ao sc r)
 | .UnaryOp op x _=>match op with
  | .Not=>.not (Ao sc x)
  | .USub=>.neg (Ao sc x)
  | _=>.stuck
 | .IfExp t b o _=>.ite (Ao sc t) (Ao sc b) (Ao sc o)
 | .Compare l ops rs _=>YD (rs.any Sl) (Ao sc l) ops (trEs sc rs)
 | .List es _=>.list (trEs sc es)
 | .Tuple es _ _=>.tup (trEs sc es)
 | .Dict ks vs _=>YF (EC ks) (trEs sc vs)
 | .Subscript v i _=>match i with
  | .Slice lo hi none _=>.slice (Ao sc v) (trO sc lo) (trO sc hi)
  | i=>.idx (Ao sc v) (Ao sc i)
 | .Attribute v a _=>YA (NJ a) (GS v) (Ao sc v)
 | .Call f args kws cpos=>match kws with
  | []=>match f with
   | .Attribute o m apos=>YZ (NJ m) (GS o||(!(apos.endLine==cpos.line)||!Nat.ble args.length 20)) (Ao sc o) (trEs sc args)
   | .Name x _=>Tv N sc x (trEs sc args)
   | _=>.stuck
  | _::_=>.stuck
 | .ListComp elt gens scope _=>match gens with
  | []=>.stuck
  | g::r=>match g with
   | ⟨t,iter,ifs,k⟩=>YQ (decide (k=0)&&(r.isEmpty&&It sc scope)) (P9 (AY sc scope) t) (EP (Cn sc iter) (trIt sc iter) (Ao sc iter)) (Ao (AY sc scope) elt) (trEs (AY sc scope) ifs) scope.names.length (Bm sc (AY sc scope) scope.names)
 | _=>.stuck
noncomputable def trEs(sc:List (Str×NameKind)):List Expr→List X
 | []=>[]
 | e::r=>Ao sc e::trEs sc r
noncomputable def trIt(sc:List (Str×NameKind)):Expr→List X
 | .Call _ args _ _=>trEs sc args
 | _=>[]
noncomputable def trO(sc:List (Str×NameKind)):Option Expr→X
 | none=>.const .none
 | some e=>Ao sc e
end
noncomputable def GF:X→X
 | .new _ c args=>.new true c args
 | x=>x
noncomputable def Gq:Expr→Bool
 | .Slice ..=>true
 | _=>false
noncomputable def VD(sc:List (Str×NameKind)):Expr→Option Tg
 | .Name x _=>(CC sc x).map .loc
 | .Tuple es _ _=>(Ba sc es).map .tup
 | .Attribute o a _=>(NJ a).map fun f=>.attr (Ao N sc o) f
 | .Subscript o i _=>match Gq i with
  | true=>none
  | false=>some (.sub (Ao N sc o) (Ao N sc i))
 | _=>none
noncomputable def G1:Expr→Bool
 | .Tuple vs _ _=>vs.all (foldedForSure 8)||!vs.all (constantsAlone 8)
 | _=>true
noncomputable def HY:Expr→Bool
 | .ListComp ..=>true
 | .SetComp ..=>true
 | .DictComp ..=>true
 | _=>false
noncomputable def V1(g:Option Tg)(v:Expr)(x:X):S:=match g with
 | none=>.stuck
 | some g=>match g with
  | .sub o i=>.assign (.sub o i) x
  | .tup is=>match decide is.Nodup&&G1 v with
   | true=>.assign (.tup is) x
   | false=>.stuck
  | .loc i=>.assign (.loc i) (GF x)
  | .attr o f=>.assign (.attr o f) (GF x)
noncomputable def W8(g:Option Tg)(op:Operator)(x:X):S:=match g with
 | none=>.stuck
 | some g=>match g with
  | .loc i=>.aug (.loc i) op x
  | .attr o f=>.aug (.attr o f) op x
  | .tup _=>.stuck
  | .sub ..=>.stuck
noncomputable def foS(t:Option T)(p:Option (K×X×X))(b:List S):S:=match t with
 | none=>.stuck
 | some t=>match p with
  | none=>.stuck
  | some p=>.for_ t p.1 p.2.1 p.2.2 b
mutual
noncomputable def c8(sc:List (Str×NameKind)):Stmt→S
 | .Assign ts v _=>match ts with
  | []=>.stuck
  | t::r=>match r with
   | []=>V1 (VD N sc t) v (Ao N sc v)
   | _::_=>.stuck
 | .AugAssign t op v _=>W8 (VD N sc t) op (Ao N sc v)
 | .Return v _=>.ret (trO N sc v)
 | .If t b o _=>.ife (Ao N sc t) (trSs sc b) (trSs sc o)
 | .While t b o _=>match o with
  | []=>.whl (Ao N sc t) (trSs sc b)
  | _=>.stuck
 | .For t it b o _=>match o with
  | []=>foS (P9 sc t) (EP (Cn sc it) (trIt N sc it) (Ao N sc it)) (trSs sc b)
  | _::_=>.stuck
 | .Try b hs o f _=>match hs,o,f with
  | _::_,[],[]=>.try_ (trSs sc b)
  | _,_,_=>.stuck
 | .Expr v _=>match HY v with
  | true=>.stuck
  | false=>.expr (Ao N sc v)
 | .Continue _=>.cont
 | _=>.stuck
noncomputable def trSs(sc:List (Str×NameKind)):List Stmt→List S
 | []=>[]
 | s::r=>c8 sc s::trSs sc r
end
end
end SMini
section SSoundA
open PySem PySem.W PySem.Calls PyProof.Rows
noncomputable def CY(k:Nat):Str:=Str.ofString (NT.getD k "")
noncomputable abbrev PW:=Program×World
noncomputable abbrev PW.m(P:PW):Model:=model P.1 P.2
noncomputable def CQ:List Nat→List Value→Nat→Option Value
 | k::ks,v::vs,f=>match Nat.beq k f with
  | true=>some v
  | false=>CQ ks vs f
 | _,_,_=>none
noncomputable def Dl(h:Heap)(dx:Addr)(ks:List Nat)(rs:List Value):Prop :=
 ∃ es ep,h.get? dx=some (dictOf es ep)∧(∀ e∈es,∃ n t,e.key=.str n t)∧es.length=ks.length∧∀ k,k<NT.length→(es.find? (·.key.isStr (CY k))).map (·.val)=CQ ks rs k
theorem Dl.at{h h':Heap}{dx:Addr}{ks:List Nat}{rs:List Value}(x:Dl h dx ks rs)(k:∀ o,h.get? dx=some o→h'.get? dx=some o):Dl h' dx ks rs:=by refine EK x fun es ep ho r=>?_;clear x;exact Tx es ep (k _ ho) r
theorem Dl.has{h:Heap}{dx:Addr}{ks:List Nat}{rs:List Value}(x:Dl h dx ks rs):∃ o,h.get? dx=some o:=by refine EK x fun _ _ ho _=>?_;clear x;exact⟨_,ho⟩
section
variable (h:Heap)(own:Addr→Prop)(ρ:Nat→Addr)(n:Nat)
mutual
noncomputable def BM:V→Value→Prop
 | .none,rv=>rv=.none
 | .bool b,rv=>rv=.bool b
 | .int i,rv=>∃ t,rv=.int i t
 | .str s,rv=>∃ t,rv=.str (AR s) t
 | .ref i,rv=>i<n∧rv=.ref (ρ i)
 | .fn a,rv=>rv=.ref a
 | .tup xs,rv=>∃ a rs,rv=.ref a∧¬ own a∧IsTup h a rs.toArray∧VRels xs rs
 | .lst xs,rv=>∃ a rs,rv=.ref a∧¬ own a∧h.IsList a rs.toArray∧VRels xs rs
 | .obj C ks vs,rv=>∃ a dx rs,rv=.ref a∧¬ own a∧h.get? a=some (instObj C dx)∧¬ own dx∧Dl h dx ks rs∧ks.length=vs.length∧VRels vs rs
noncomputable def VRels:List V→List Value→Prop
 | [],rs=>rs=[]
 | v::vs,rs=>∃ r rs',rs=r::rs'∧BM v r∧VRels vs rs'
end
end
noncomputable def NN(h:Heap)(a:Addr)(items:Array Value):Prop:=∃ o,h.get? a=some o∧o.cls=.type "list"∧(∃ n,o.data=.seq items n)∧o.dict=none
theorem NN.list{h:Heap}{a:Addr}{items:Array Value}(x:NN h a items):h.IsList a items:=by refine Pe x fun o ho hc hn _=>?_;clear x;exact Pf o ho hc hn
theorem NN.noDict{h:Heap}{a:Addr}{items:Array Value}(x:NN h a items):h.NoDictAt (.ref a):=let ⟨o,ho,_,_,hd⟩:=x;⟨o,ho,hd⟩
theorem PY{h:Heap}{a:Addr}{m:Str→Option Value}(x:h.Ns a m):∃ o,h.get? a=some o:=by refine Wf x fun o _ _ ho _=>?_;clear x;exact⟨o,ho⟩
section
variable {h h':Heap}{own own':Addr→Prop}{ρ ρ':Nat→Addr}{n n':Nat}
theorem To{p:V→Prop}{q:List V→Prop}(h0:p .none)(h1:∀ b,p (.bool b))(h2:∀ i,p (.int i))(h3:∀ s,p (.str s))(h4:∀ i,p (.ref i))(h5:∀ a,p (.fn a))(h6:∀ xs,q xs→p (.tup xs))(h7:∀ xs,q xs→p (.lst xs))(h8:∀ C ks vs,q vs→p (.obj C ks vs))(h9:q [])(hc:∀ v vs,p v→q vs→q (v::vs)):(∀ v,p v)∧∀ vs,q vs :=
 have key:∀ v,p v:=fun v=>V.rec (motive_1:=p) (motive_2:=q) h0 h1 h2 h3 h4 h6 h7 h8 h5 h9 hc v
 ⟨key,fun vs=>List.rec (motive:=q) h9 (fun v vs ih=>hc v vs (key v) ih) vs⟩
theorem BM.mono'(k:∀ b o,¬ own b→h.get? b=some o→h'.get? b=some o∧¬ own' b)(hρ:∀ i,i<n→ρ' i=ρ i)(hn:n≤n') :
  (∀(v:V) (rv:Value),BM h own ρ n v rv→BM h' own' ρ' n' v rv)∧∀(v:List V) (rv:List Value),VRels h own ρ n v rv→VRels h' own' ρ' n' v rv:=by
 refine To (fun _ x=>x) (fun _ _ x=>x) (fun _ _ x=>x) (fun _ _ x=>x) (fun i rv x=>⟨Nat.lt_of_lt_of_le x.1 hn,by rw[hρ i x.1];exact x.2⟩) (fun _ _ x=>x) (fun xs ih rv x=>?_) (fun xs ih rv x=>?_) (fun C ks vs ih rv x=>?_) (fun _ x=>x) (fun v vs h1 h2 rv x=>?_)
 ·obtain⟨a,rs,e,ho,⟨o,hg,hc⟩,hx⟩:=x;exact NF a rs e ((k a o ho hg).2) ⟨o,(k a o ho hg).1,hc⟩ (ih rs hx)
 ·obtain⟨a,rs,e,ho,⟨o,hg,hc⟩,hx⟩:=x;exact NF a rs e ((k a o ho hg).2) ⟨o,(k a o ho hg).1,hc⟩ (ih rs hx)
 ·refine X8 x fun a dx rs e ho hg ho' hg' hl hx=>?_;clear x;obtain⟨_,q⟩:=hg'.has;exact Xu a dx rs e ((k _ _ ho hg).2) ((k _ _ ho hg).1) ((k _ _ ho' q).2) (hg'.at (fun _ q=>(k _ _ ho' q).1)) hl (ih _ hx)
 ·refine Dx x fun r rs e a b=>?_;clear x;exact NL r rs e (h1 r a) (h2 rs b)
theorem BM.mono(k:∀ b o,¬ own b→h.get? b=some o→h'.get? b=some o∧¬ own' b)(hρ:∀ i,i<n→ρ' i=ρ i)(hn:n≤n') :
  ∀(v:V) (rv:Value),BM h own ρ n v rv→BM h' own' ρ' n' v rv:=(BM.mono' k hρ hn).1
theorem VRels.mono(k:∀ b o,¬ own b→h.get? b=some o→h'.get? b=some o∧¬ own' b)(hρ:∀ i,i<n→ρ' i=ρ i)(hn:n≤n') :
  ∀(v:List V) (rv:List Value),VRels h own ρ n v rv→VRels h' own' ρ' n' v rv:=(BM.mono' k hρ hn).2
mutual
noncomputable def B6(n:Nat):V→Prop
 | .ref i=>i<n
 | .tup xs=>refsLts n xs
 | .lst xs=>refsLts n xs
 | .obj _ _ vs=>refsLts n vs
 | _=>True
noncomputable def refsLts(n:Nat):List V→Prop
 | []=>True
 | v::r=>B6 n v∧refsLts n r
end
theorem BM.cut'{n₀:Nat}:(∀(v:V) (rv:Value),B6 n₀ v→BM h own ρ n v rv→BM h own ρ n₀ v rv)∧∀(v:List V) (rv:List Value),refsLts n₀ v→VRels h own ρ n v rv→VRels h own ρ n₀ v rv:=by
 refine To (fun _ _ x=>x) (fun _ _ _ x=>x) (fun _ _ _ x=>x) (fun _ _ _ x=>x) (fun i rv hl x=>⟨hl,x.2⟩) (fun _ _ _ x=>x) (fun xs ih rv hl x=>?_) (fun xs ih rv hl x=>?_) (fun C ks vs ih rv hl x=>?_) (fun _ _ x=>x) (fun v vs h1 h2 rv hl x=>?_)
 ·refine Ie x fun a rs e ho hg hx=>?_;clear x;exact NF a rs e ho hg (ih rs hl hx)
 ·refine Ie x fun a rs e ho hg hx=>?_;clear x;exact NF a rs e ho hg (ih rs hl hx)
 ·refine X8 x fun a dx rs e ho hg ho' hg' hn hx=>?_;clear x;exact Xu a dx rs e ho hg ho' hg' hn (ih _ hl hx)
 ·refine Dx x fun r rs e a b=>?_;clear x;exact NL r rs e (h1 r hl.1 a) (h2 rs hl.2 b)
theorem BM.cut{n₀:Nat}:∀(v:V) (rv:Value),B6 n₀ v→BM h own ρ n v rv→BM h own ρ n₀ v rv:=BM.cut'.1
theorem VRels.cut{n₀:Nat}:∀(v:List V) (rv:List Value),refsLts n₀ v→VRels h own ρ n v rv→VRels h own ρ n₀ v rv:=BM.cut'.2
theorem BM.lt':(∀(v:V) (rv:Value),BM h own ρ n v rv→B6 n v)∧∀(v:List V) (rv:List Value),VRels h own ρ n v rv→refsLts n v:=by
 refine To (fun _ _=>trivial) (fun _ _ _=>trivial) (fun _ _ _=>trivial) (fun _ _ _=>trivial) (fun _ _ x=>x.1) (fun _ _ _=>trivial) (fun xs ih rv x=>?_) (fun xs ih rv x=>?_) (fun C ks vs ih rv x=>?_) (fun _ _=>trivial) (fun v vs h1 h2 rv x=>?_)
 ·refine Ie x fun _ rs _ _ _ hx=>?_;clear x;exact ih rs hx
 ·refine Ie x fun _ rs _ _ _ hx=>?_;clear x;exact ih rs hx
 ·refine X8 x fun _ _ rs _ _ _ _ _ _ hx=>?_;clear x;exact ih rs hx
 ·refine Dx x fun r rs _ a b=>?_;clear x;exact⟨h1 r a,h2 rs b⟩
theorem BM.lt:∀(v:V) (rv:Value),BM h own ρ n v rv→B6 n v:=BM.lt'.1
theorem VRels.lt:∀(v:List V) (rv:List Value),VRels h own ρ n v rv→refsLts n v:=BM.lt'.2
theorem Ev{n:Nat}:(∀ v:V,AN v=true→B6 n v)∧∀ v:List V,refFrees v=true→refsLts n v :=
 To (fun _=>trivial) (fun _ _=>trivial) (fun _ _=>trivial) (fun _ _=>trivial) (fun _ e=>EE e) (fun _ _=>trivial) (fun _ ih e=>ih e) (fun _ ih e=>ih e) (fun _ _ _ ih e=>ih e) (fun _=>trivial) (fun _ _ h1 h2 e=>Ci e fun a b=>⟨h1 a,h2 b⟩)
theorem Bq{n:Nat}:∀ v:V,AN v=true→B6 n v:=Ev.1
theorem II{n:Nat}:∀ v:List V,refFrees v=true→refsLts n v:=Ev.2
theorem B6.le'{n m:Nat}(h:n≤m):(∀ v:V,B6 n v→B6 m v)∧∀ v:List V,refsLts n v→refsLts m v :=
 To (fun _=>trivial) (fun _ _=>trivial) (fun _ _=>trivial) (fun _ _=>trivial) (fun _ e=>Nat.lt_of_lt_of_le e h) (fun _ _=>trivial) (fun _ ih e=>ih e) (fun _ ih e=>ih e) (fun _ _ _ ih e=>ih e) (fun _=>trivial) (fun _ _ h1 h2 e=>⟨h1 e.1,h2 e.2⟩)
theorem B6.le{n m:Nat}(h:n≤m):∀ v:V,B6 n v→B6 m v:=(B6.le' h).1
theorem refsLts.le{n m:Nat}(h:n≤m):∀ v:List V,refsLts n v→refsLts m v:=(B6.le' h).2
theorem VRels.len:∀{vs:List V} {rs:List Value},VRels h own ρ n vs rs→rs.length=vs.length:=by
 intro vs
 induction vs with
 | nil=>intro rs e;rw[show rs=[] from e];rfl
 | cons v vs ih=>intro rs x;obtain⟨r,rs',e,_,b⟩:=x;rw[e];exact congrArg (·+1) (ih b)
theorem VRels.get:∀{vs:List V} {rs:List Value} {i:Nat} {v:V},VRels h own ρ n vs rs→vs[i]?=some v→∃ r,rs[i]?=some r∧BM h own ρ n v r:=by
 intro vs
 induction vs with
 | nil=>intro rs i v _ e;exact AI (List.getElem?_nil.symm.trans e)
 | cons w vs ih =>
  intro rs i v x e;refine Dx x fun r rs' z a b=>?_;clear x;subst z;cases i with
  | zero=>exact B8 (List.getElem?_cons_zero.symm.trans e) fun z=>⟨r,List.getElem?_cons_zero,z▸a⟩
  | succ i=>refine BA (ih b (List.getElem?_cons_succ.symm.trans e)) fun r' e1 e2=>?_;exact Ft r' (List.getElem?_cons_succ.trans e1) e2
theorem VRels.append:∀{vs ws:List V} {rs ss:List Value},VRels h own ρ n vs rs→VRels h own ρ n ws ss→VRels h own ρ n (vs++ws) (rs++ss):=by
 intro vs
 induction vs with
 | nil=>intro ws rs ss e b;rw[show rs=[] from e];exact b
 | cons v vs ih=>intro ws rs ss x c;refine Dx x fun r rs' e a b=>?_;clear x;subst e;exact NL r (rs'++ss) rfl a (ih b c)
theorem VRels.take:∀{vs:List V} {rs:List Value} (k:Nat),VRels h own ρ n vs rs→VRels h own ρ n (vs.take k) (rs.take k):=by
 intro vs
 induction vs with
 | nil=>intro rs k e;rw[show rs=[] from e,List.take_nil,List.take_nil];exact rfl
 | cons v vs ih =>
  intro rs k x;cases k with
  | zero=>exact rfl
  | succ k=>refine Dx x fun r rs' e a b=>?_;clear x;subst e;exact NL r (rs'.take k) rfl a (ih k b)
theorem VRels.drop:∀{vs:List V} {rs:List Value} (k:Nat),VRels h own ρ n vs rs→VRels h own ρ n (vs.drop k) (rs.drop k):=by
 intro vs
 induction vs with
 | nil=>intro rs k e;rw[show rs=[] from e,List.drop_nil,List.drop_nil];exact rfl
 | cons v vs ih =>
  intro rs k x;cases k with
  | zero=>exact x
  | succ k=>refine Dx x fun r rs' e a b=>?_;clear x;subst e;exact ih k b
theorem VRels.set:∀{vs:List V} {rs:List Value} (k:Nat) {v:V} {r:Value},VRels h own ρ n vs rs→BM h own ρ n v r→VRels h own ρ n (vs.set k v) (rs.set k r):=by
 intro vs
 induction vs with
 | nil=>intro rs k v r e _;rw[show rs=[] from e];exact rfl
 | cons w vs ih =>
  intro rs k v r x c;refine Dx x fun r' rs' e a b=>?_;clear x;subst e;cases k with
  | zero=>exact NL r rs' rfl c b
  | succ k=>exact NL r' (rs'.set k r) rfl a (ih k b c)
theorem VRels.one{v:V}{r:Value}(x:BM h own ρ n v r):VRels h own ρ n [v] [r]:=⟨r,[],rfl,x,rfl⟩
end
structure Cfg where
 h:Heap
 fr:Addr→Prop
 ρ:Nat→Addr
 δ:Nat→Addr
 st:St
noncomputable def Bx:O→Prop
 | .inst ..=>True
 | _=>False
noncomputable def Cfg.Foot(c:Cfg)(i:Nat)(o:O)(a:Addr):Prop:=a=c.ρ i∨(Bx o∧a=c.δ i)
noncomputable def Cfg.F(c:Cfg)(a:Addr):Prop:=∃ i o,c.st.get i=some o∧c.Foot i o a
noncomputable def Cfg.own(c:Cfg)(a:Addr):Prop:=c.fr a∨c.F a
noncomputable def Cfg.R(c:Cfg)(v:V)(rv:Value):Prop:=BM c.h c.own c.ρ c.st.next v rv
noncomputable def Cfg.Rs(c:Cfg)(v:List V)(rv:List Value):Prop:=VRels c.h c.own c.ρ c.st.next v rv
noncomputable def Hx(P:PW)(h:Heap)(own:Addr→Prop)(ρ δ:Nat→Addr)(n:Nat)(i:Nat):O→Prop
 | .list xs=>∃ rs,NN h (ρ i) rs.toArray∧VRels h own ρ n xs rs
 | .dict ks vs=>∃ rs,h.DictOf (strKind P.1 P.2) (ρ i) ((ks.map AR).zip rs)∧ks.length=vs.length∧VRels h own ρ n vs rs
 | .inst C ks vs=>∃ rs,h.get? (ρ i)=some (instObj C (δ i))∧Dl h (δ i) ks rs∧ks.length=vs.length∧VRels h own ρ n vs rs
noncomputable def L5(n:Nat):O→Prop
 | .list xs=>refsLts n xs
 | .dict _ vs=>refsLts n vs
 | .inst _ _ vs=>refsLts n vs
noncomputable def DS(b:Nat)(st:St):Prop:=∀ i o,i<b→st.get i=some o→L5 b o
structure Sim(P:PW)(B:Heap)(c:Cfg):Prop where
 base:∀ b o,B.get? b=some o→c.h.get? b=some o∧¬ c.own b
 obj:∀ i o,c.st.get i=some o→Hx P c.h c.own c.ρ c.δ c.st.next i o
 inj:∀ i j o o' a,c.st.get i=some o→c.st.get j=some o'→c.Foot i o a→c.Foot j o' a→i=j
 two:∀ i o,c.st.get i=some o→Bx o→c.ρ i≠c.δ i
 frat:∀ a,c.fr a→∃ o,c.h.get? a=some o
 disj:∀ a,c.fr a→¬ c.F a
 lo:c.st.lo≤c.st.next
 ro:c.st.ro≤c.st.next
 above:∀ a,c.own a→B.get? a=none
structure Post(P:PW)(B:Heap)(lx:Addr→Prop)(c c':Cfg):Prop where
 sim:Sim P B c'
 fr:c'.fr=c.fr
 keep:∀ b o,¬ c.F b→¬ lx b→c.h.get? b=some o→c'.h.get? b=some o
 lfr:∀ a,lx a→c.fr a
 fp:∀ b,c'.F b→c.F b∨c.h.get? b=none
 agree:∀ i,i<c.st.next→c'.ρ i=c.ρ i∧c'.δ i=c.δ i
 next:c.st.next≤c'.st.next
 lo:c'.st.lo=c.st.lo
 ro:c'.st.ro=c.st.ro
 old:∀ b,b≤c.st.lo→DS b c.st→DS b c'.st
 roeq:∀ i,i<c.st.ro→c'.st.get i=c.st.get i
 rokeep:∀ i o a ob,i<c.st.ro→c.st.get i=some o→c.Foot i o a→c.h.get? a=some ob→c'.h.get? a=some ob
noncomputable abbrev no:Addr→Prop:=fun _=>False
theorem St.get_lt{st:St}{i:Nat}{o:O}(e:st.get i=some o):i<st.next:=by
 unfold St.get at e;cases q:st.objs[i]? with
 | none=>rw[q] at e;cases e
 | some x=>exact(List.getElem?_eq_some_iff.mp q).1
section
variable {P:PW}{B:Heap}{c c' c'':Cfg}{lx:Addr→Prop}
theorem Hx.foot{h:Heap}{own:Addr→Prop}{ρ δ:Nat→Addr}{n i:Nat}{o:O}(x:Hx P h own ρ δ n i o){a:Addr}(f:a=ρ i∨(Bx o∧a=δ i)):∃ ob,h.get? a=some ob:=by
 rfl';cases o with
 | list xs=>obtain⟨rs,⟨o,h1,_⟩,_⟩:=x;rcases f with rfl | ⟨f,_⟩;exact⟨_,h1⟩;exact f.elim
 | dict ks vs=>obtain⟨rs,⟨o,es,ep,h1,_⟩,_⟩:=x;rcases f with rfl | ⟨f,_⟩;exact⟨_,h1⟩;exact f.elim
 | inst C ks vs=>refine FE x fun rs h1 h2 _=>?_;clear x;rcases f with rfl | ⟨_,rfl⟩;exact⟨_,h1⟩;exact h2.has
theorem Sim.Fat(s:Sim P B c){a:Addr}(f:c.F a):∃ o,c.h.get? a=some o:=by refine EK f fun i o e f=>?_;exact(s.obj i o e).foot f
theorem Sim.ownat(s:Sim P B c){a:Addr}(f:c.own a):∃ o,c.h.get? a=some o:=f.elim (s.frat a) s.Fat
theorem AQ{h:Heap}{b:Addr}{o:Obj}{p:Prop}(e:h.get? b=some o)(z:h.get? b=none):p:=by rw[z] at e;cases e
theorem Sim.notF(s:Sim P B c){a:Addr}(z:c.h.get? a=none):¬ c.F a:=fun f=>let ⟨_,e⟩:=s.Fat f;AQ e z
theorem Sim.notfr(s:Sim P B c){a:Addr}(z:c.h.get? a=none):¬ c.fr a:=fun f=>let ⟨_,e⟩:=s.frat a f;AQ e z
theorem Sim.newB(s:Sim P B c){a:Addr}(z:c.h.get? a=none):B.get? a=none:=by
 cases e:B.get? a with
 | none=>rfl
 | some o=>exact AQ (s.base a o e).1 z
theorem An(h:Heap):h.get? h.objs.size=none:=Heap.get?_none_of_le (Nat.le_refl _)
theorem Hx.mono{h h':Heap}{own own':Addr→Prop}{ρ ρ' δ δ':Nat→Addr}{n n' i:Nat}(k:∀ b o,¬ own b→h.get? b=some o→h'.get? b=some o∧¬ own' b)(hρ:∀ i,i<n→ρ' i=ρ i)(hn:n≤n')
  {o:O} (kf:∀ a,(a=ρ i∨(Bx o∧a=δ i))→∀ ob,h.get? a=some ob→h'.get? a=some ob) (hi:ρ' i=ρ i) (hd:δ' i=δ i) (x:Hx P h own ρ δ n i o):Hx P h' own' ρ' δ' n' i o:=by
 rfl';cases o with
 | list xs=>obtain⟨rs,⟨o,h1,h2⟩,h3⟩:=x;exact Ft rs ⟨o,by rw[hi];exact kf _ (.inl rfl) _ h1,h2⟩ (VRels.mono k hρ hn _ _ h3)
 | dict ks vs=>obtain⟨rs,⟨o,es,ep,h1,h2⟩,h3,h4⟩:=x;exact Pf rs ⟨o,es,ep,by rw[hi];exact kf _ (.inl rfl) _ h1,h2⟩ h3 (VRels.mono k hρ hn _ _ h4)
 | inst C ks vs=>refine Pe x fun rs h1 h2 h4 h5=>?_;clear x;exact VV rs (by rw[hi,hd];exact kf _ (.inl rfl) _ h1) (by rw[hd];exact h2.at (kf _ (.inr ⟨trivial,rfl⟩))) h4 (VRels.mono k hρ hn _ _ h5)
theorem Post.keepOwn(p:Post P B lx c c')(hl:∀ a,lx a→c.own a):∀ b o,¬ c.own b→c.h.get? b=some o→c'.h.get? b=some o∧¬ c'.own b:=fun b o hb e=>by
 refine⟨p.keep b o (fun f=>hb (.inr f)) (fun f=>hb (hl b f)) e,fun f=>?_⟩;rcases f with f | f
 ·exact hb (.inl (p.fr▸f))
 ·rcases p.fp b f with f | f
  ·exact hb (.inr f)
  ·exact AQ e f
theorem Post.rel(p:Post P B lx c c')(hl:∀ a,lx a→c.own a){v:V}{rv:Value}(x:c.R v rv):c'.R v rv :=
 BM.mono (p.keepOwn hl) (fun i hi=>(p.agree i hi).1) p.next v rv x
theorem Post.rels(p:Post P B lx c c')(hl:∀ a,lx a→c.own a){v:List V}{rv:List Value}(x:c.Rs v rv):c'.Rs v rv :=
 VRels.mono (p.keepOwn hl) (fun i hi=>(p.agree i hi).1) p.next v rv x
theorem Post.refl'(s:Sim P B c)(hl:∀ a,lx a→c.fr a):Post P B lx c c :=
 ⟨s,rfl,fun _ _ _ _ e=>e,hl,fun _ f=>.inl f,fun _ _=>⟨rfl,rfl⟩,Nat.le_refl _,rfl,rfl,fun _ _ x=>x,fun _ _=>rfl,fun _ _ _ _ _ _ _ e=>e⟩
theorem Post.refl(s:Sim P B c):Post P B no c c:=Post.refl' s fun _ z=>z.elim
theorem Post.trans(p:Post P B lx c c')(q:Post P B lx c' c''):Post P B lx c c'' where
 sim:=q.sim
 fr:=q.fr.trans p.fr
 keep:=fun b o f l e=>q.keep b o (fun f'=>(p.fp b f').elim f fun z=>AQ e z) l (p.keep b o f l e)
 lfr:=p.lfr
 fp:=fun b f=>by
  rcases q.fp b f with g | z
  ·exact p.fp b g
  ·by_cases g:c.F b
   ·exact .inl g
   ·right;cases e:c.h.get? b with
    | none=>rfl
    | some o =>
     by_cases l:lx b
     ·refine Pd (p.sim.frat b (by rw[p.fr];exact p.lfr b l)) fun o' e'=>?_
      exact AQ e' z
     ·exact AQ (p.keep b o g l e) z
 agree:=fun i hi=>by have a:=p.agree i hi;have b:=q.agree i (Nat.lt_of_lt_of_le hi p.next);exact⟨b.1.trans a.1,b.2.trans a.2⟩
 next:=Nat.le_trans p.next q.next
 lo:=q.lo.trans p.lo
 ro:=q.ro.trans p.ro
 old:=fun b hb x=>q.old b (p.lo▸hb) (p.old b hb x)
 roeq:=fun i hi=>(q.roeq i (p.ro▸hi)).trans (p.roeq i hi)
 rokeep:=fun i o a ob hi e f h=>by refine q.rokeep i o a ob (p.ro▸hi) ((p.roeq i hi).trans e) ?_ (p.rokeep i o a ob hi e f h);have g:=p.agree i (St.get_lt e);unfold Cfg.Foot at f ⊢;rw[g.1,g.2];exact f
theorem Post.weak{lx':Addr→Prop}(p:Post P B lx c c')(hl:∀ a,lx a→lx' a)(hf:∀ a,lx' a→c.fr a):Post P B lx' c c' :=
 ⟨p.sim,p.fr,fun b o f l e=>p.keep b o f (fun z=>l (hl b z)) e,hf,p.fp,p.agree,p.next,p.lo,p.ro,p.old,p.roeq,p.rokeep⟩
theorem Post.ofNo(p:Post P B no c c')(hf:∀ a,lx a→c.fr a):Post P B lx c c':=p.weak (fun _ z=>z.elim) hf
theorem Sim.change(s:Sim P B c){h':Heap}(hl:∀ a,lx a→c.fr a)(k:∀ b o,¬ lx b→c.h.get? b=some o→h'.get? b=some o)(hk:∀ a,lx a→∃ o,h'.get? a=some o) :
  Post P B lx c { c with h:=h' }:=by
 have kF:∀ a,c.F a→¬ lx a:=fun a f l=>s.disj a (hl a l) f;have ko:∀ b o,¬ c.own b→c.h.get? b=some o→h'.get? b=some o∧¬ c.own b:=fun b o hb e=>⟨k b o (fun l=>hb (.inl (hl b l))) e,hb⟩;refine⟨⟨fun b o e=>?_,fun i o e=>?_,s.inj,s.two,fun a f=>?_,s.disj,s.lo,s.ro,s.above⟩,rfl,fun b o f l e=>k b o l e,hl,fun _ f=>.inl f,fun _ _=>⟨rfl,rfl⟩,Nat.le_refl _,rfl,rfl,fun _ _ x=>x,fun _ _=>rfl,fun i o a ob _ e f h=>k a ob (kF a ⟨i,o,e,f⟩) h⟩
 ·have q:=s.base b o e;exact ko b o q.2 q.1
 ·exact(s.obj i o e).mono ko (fun _ _=>rfl) (Nat.le_refl _) (fun a f ob e'=>k a ob (kF a ⟨i,o,e,f⟩) e') rfl rfl
 ·by_cases l:lx a
  ·exact hk a l
  ·obtain⟨o,e⟩:=s.frat a f;exact⟨o,k a o l e⟩
theorem Sim.grow(s:Sim P B c){h':Heap}(k:∀ b o,c.h.get? b=some o→h'.get? b=some o):Post P B no c { c with h:=h' } :=
 s.change (fun _ z=>z.elim) (fun b o _ e=>k b o e) (fun _ z=>z.elim)
theorem Sim.push(s:Sim P B c)(o:Obj):Post P B no c { c with h:=c.h.push o } :=
 s.grow (fun _ _ e=>Heap.get?_push_of_some o e)
theorem Sim.fresh(s:Sim P B c){a:Addr}(ha:c.h.get? a=none):¬ c.own a:=fun f=>let ⟨_,e⟩:=s.ownat f;AQ e ha
theorem Sim.enter(s:Sim P B c){h':Heap}{x:Addr→Prop}(k:∀ b o,c.h.get? b=some o→h'.get? b=some o)(hx:∀ a,x a→c.h.get? a=none∧∃ o,h'.get? a=some o) :
  Sim P B { c with h:=h',fr:=fun a=>c.fr a∨x a }∧(∀ b o,¬ c.own b→c.h.get? b=some o→h'.get? b=some o∧¬ Cfg.own { c with h:=h',fr:=fun a=>c.fr a∨x a } b):=by
 have ko:∀ b o,¬ c.own b→c.h.get? b=some o→h'.get? b=some o∧¬ Cfg.own { c with h:=h',fr:=fun a=>c.fr a∨x a } b:=fun b o hb e=>by
  refine⟨k b o e,fun f=>?_⟩;rcases f with(f | f) | f
  ·exact hb (.inl f)
  ·exact AQ e (hx b f).1
  ·exact hb (.inr f)
 refine⟨⟨fun b o e=>?_,fun i o e=>?_,s.inj,s.two,fun a f=>?_,fun a f F=>?_,s.lo,s.ro,fun a f=>?_⟩,ko⟩
 ·have q:=s.base b o e;exact ko b o q.2 q.1
 ·exact(s.obj i o e).mono ko (fun _ _=>rfl) (Nat.le_refl _) (fun a _ ob e'=>k a ob e') rfl rfl
 ·rcases f with f | f
  ·refine Pd (s.frat a f) fun o e=>?_;exact⟨o,k a o e⟩
  ·exact(hx a f).2
 ·rcases f with f | f
  ·exact s.disj a f F
  ·exact s.notF (hx a f).1 F
 ·rcases f with(f | f) | f
  ·exact s.above a (.inl f)
  ·exact s.newB (hx a f).1
  ·exact s.above a (.inr f)
theorem Sim.shrink{c₂:Cfg}{fr:Addr→Prop}(s:Sim P B c₂)(hf:∀ a,fr a→c₂.fr a) :
  Sim P B { c₂ with fr:=fr }∧(∀ b o,¬ c₂.own b→c₂.h.get? b=some o→c₂.h.get? b=some o∧¬ Cfg.own { c₂ with fr:=fr } b):=by
 have ko:∀ b o,¬ c₂.own b→c₂.h.get? b=some o→c₂.h.get? b=some o∧¬ Cfg.own { c₂ with fr:=fr } b:=fun b o hb e=>⟨e,fun f=>hb (f.elim (fun f=>.inl (hf b f)) .inr)⟩
 refine⟨⟨fun b o e=>?_,fun i o e=>?_,s.inj,s.two,fun a f=>s.frat a (hf a f),fun a f F=>s.disj a (hf a f) F,s.lo,s.ro,fun a f=>s.above a (f.elim (fun f=>.inl (hf a f)) .inr)⟩,ko⟩
 ·have q:=s.base b o e;exact ko b o q.2 q.1
 ·exact(s.obj i o e).mono ko (fun _ _=>rfl) (Nat.le_refl _) (fun _ _ _ e'=>e') rfl rfl
theorem Post.leave{h':Heap}{x:Addr→Prop}{c₂:Cfg}(k:∀ b o,c.h.get? b=some o→h'.get? b=some o)(hx:∀ a,x a→c.h.get? a=none)
  (hl:∀ a,lx a→x a) (p:Post P B lx { c with h:=h',fr:=fun a=>c.fr a∨x a } c₂) :
  Post P B no c { c₂ with fr:=c.fr }∧(∀ b o,¬ c₂.own b→c₂.h.get? b=some o→c₂.h.get? b=some o∧¬ Cfg.own { c₂ with fr:=c.fr } b):=by
 have hf:∀ a,c.fr a→c₂.fr a:=fun a f=>by rw[p.fr];exact .inl f
 refine J1 (p.sim.shrink (fr:=c.fr) hf) fun s ko=>?_;refine⟨⟨s,rfl,fun b o f _ e=>p.keep b o f (fun l=>AQ e (hx b (hl b l))) (k b o e),fun _ z=>z.elim,fun b f=>?_,p.agree,p.next,p.lo,p.ro,p.old,p.roeq,fun i o a ob hi e f h=>p.rokeep i o a ob hi e f (k a ob h)⟩,ko⟩;refine(p.fp b f).imp id fun z=>?_;cases e:c.h.get? b with
 | none=>rfl
 | some o=>exact AQ (k b o e) z
end
end SSoundA
section SSoundB
open PySem PySem.W PySem.Calls PyProof.Rows
noncomputable def Ra(f:Nat→Addr)(i:Nat)(a:Addr):Nat→Addr:=fun j=>if j=i then a else f j
theorem Fg(f:Nat→Addr)(i:Nat)(a:Addr):Ra f i a i=a:=if_pos rfl
theorem Ej{f:Nat→Addr}{i j:Nat}{a:Addr}(h:j≠i):Ra f i a j=f j:=if_neg h
theorem St.get_add(st:St)(o:O)(i:Nat):(st.add o).get i=if i=st.next then some o else st.get i:=by
 unfold St.get St.add St.next;simp only;by_cases h:i=st.objs.length
 ·subst h;simp
 ·rw[if_neg h];rcases Nat.lt_or_ge i st.objs.length with q | q
  ·rw[List.getElem?_append_left q]
  ·rw[List.getElem?_eq_none (by simp;exact p66 h q),List.getElem?_eq_none q]
theorem St.next_add(st:St)(o:O):(st.add o).next=st.next+1:=by simp [St.add,St.next]
theorem St.get_put(st:St)(i:Nat)(o:O)(j:Nat):(st.put i o).get j=if i=j∧i<st.next then some o else st.get j:=by
 unfold St.get St.put St.next;simp only[List.getElem?_set];by_cases h:i=j
 ·subst h;by_cases q:i<st.objs.length
  ·simp [q]
  ·simp [q]
 ·simp [h]
theorem St.next_put(st:St)(i:Nat)(o:O):(st.put i o).next=st.next:=by simp [St.put,St.next]
noncomputable def Rf(P:PW)(c:Cfg)(h':Heap)(a d:Addr):O→Prop
 | .list xs=>∃ rs,NN h' a rs.toArray∧c.Rs xs rs
 | .dict ks vs=>∃ rs,h'.DictOf (strKind P.1 P.2) a ((ks.map AR).zip rs)∧ks.length=vs.length∧c.Rs vs rs
 | .inst C ks vs=>∃ rs,h'.get? a=some (instObj C d)∧Dl h' d ks rs∧ks.length=vs.length∧c.Rs vs rs
theorem Rf.rel{P:PW}{c:Cfg}{h':Heap}{i:Nat}{o:O}{own':Addr→Prop}{ρ' δ':Nat→Addr}{n':Nat}(x:Rf P c h' (ρ' i) (δ' i) o)(k:∀ b ob,¬ c.own b→c.h.get? b=some ob→h'.get? b=some ob∧¬ own' b)
  (hρ:∀ j,j<c.st.next→ρ' j=c.ρ j) (hn:c.st.next≤n'):Hx P h' own' ρ' δ' n' i o:=by
 cases o with
 | list xs=>refine BA x fun rs h1 h2=>?_;clear x;exact Ft rs h1 (VRels.mono k hρ hn _ _ h2)
 | dict ks vs=>refine FE x fun rs h1 h2 h3=>?_;clear x;exact Pf rs h1 h2 (VRels.mono k hρ hn _ _ h3)
 | inst C ks vs=>refine Pe x fun rs h1 h2 h4 h5=>?_;clear x;exact VV rs h1 h2 h4 (VRels.mono k hρ hn _ _ h5)
section
variable {P:PW}{B:Heap}{c:Cfg}
noncomputable def Cfg.alloc(c:Cfg)(fr':Addr→Prop)(h':Heap)(a d:Addr)(o:O):Cfg:=⟨h',fr',Ra c.ρ c.st.next a,Ra c.δ c.st.next d,c.st.add o⟩
theorem Sim.adopt(s:Sim P B c){fr':Addr→Prop}{h':Heap}{a d:Addr}{o:O}(hfr:∀ b,fr' b→c.fr b)(k:∀ b ob,b≠a→c.h.get? b=some ob→h'.get? b=some ob)
  (ha:(c.fr a∨c.h.get? a=none)∧¬ fr' a) (hd:Bx o→((c.fr d∨c.h.get? d=none)∧¬ fr' d)∧a≠d) (x:Rf P c h' a d o) :
  Sim P B (c.alloc fr' h' a d o)∧(∀ b,(c.alloc fr' h' a d o).F b→c.F b∨b=a∨(Bx o∧b=d))∧(∀ b ob,¬ c.own b→c.h.get? b=some ob→h'.get? b=some ob∧¬(c.alloc fr' h' a d o).own b):=by
 have hg:∀ i ob,(c.st.add o).get i=some ob→(i=c.st.next∧ob=o)∨(i≠c.st.next∧c.st.get i=some ob):=fun i ob e=>by
  rw[St.get_add] at e;split at e
  ·rename_i q;exact .inl ⟨q,(Option.some.inj e).symm⟩
  ·rename_i q;exact .inr ⟨q,e⟩
 have hfoot:∀ i ob b,i≠c.st.next→(Cfg.Foot (c.alloc fr' h' a d o) i ob b↔c.Foot i ob b):=fun i ob b hi=>by unfold Cfg.Foot Cfg.alloc;simp only[Ej hi]
 have hfn:∀ b,Cfg.Foot (c.alloc fr' h' a d o) c.st.next o b→b=a∨(Bx o∧b=d):=fun b f=>by unfold Cfg.Foot Cfg.alloc at f;simp only[Fg] at f;exact f
 have hnew:∀ b,b=a∨(Bx o∧b=d)→(c.fr b∨c.h.get? b=none)∧¬ fr' b:=fun b f=>by
  rfl';rcases f with rfl | ⟨f,rfl⟩
  ·exact ha
  ·exact(hd f).1
 have hF:∀ b,(c.alloc fr' h' a d o).F b→c.F b∨(b=a∨(Bx o∧b=d)):=fun b ⟨i,ob,e,f⟩=>by
  rfl';rcases hg i ob e with⟨rfl,rfl⟩ | ⟨q,e⟩
  ·exact .inr (hfn b f)
  ·exact .inl ⟨i,ob,e,(hfoot i ob b q).mp f⟩
 have nF:∀ b,(b=a∨(Bx o∧b=d))→¬ c.F b:=fun b f F=>by
  rcases(hnew b f).1 with z | z
  ·exact s.disj b z F
  ·exact s.notF z F
 have ko:∀ b ob,¬ c.own b→c.h.get? b=some ob→h'.get? b=some ob∧¬(c.alloc fr' h' a d o).own b:=fun b ob hb e=>by
  have nb:¬(b=a∨(Bx o∧b=d)):=fun f=>by
   rcases(hnew b f).1 with z | z
   ·exact hb (.inl z)
   ·exact AQ e z
  refine⟨k b ob (fun z=>nb (.inl z)) e,fun f=>?_⟩;rcases f with f | f
  ·exact hb (.inl (hfr b f))
  ·rcases hF b f with f | f
   ·exact hb (.inr f)
   ·exact nb f
 have hρ:∀ i,i<c.st.next→(c.alloc fr' h' a d o).ρ i=c.ρ i∧(c.alloc fr' h' a d o).δ i=c.δ i:=fun i hi=>⟨Ej (Nat.ne_of_lt hi),Ej (Nat.ne_of_lt hi)⟩;have hn:(c.alloc fr' h' a d o).st.next=c.st.next+1:=St.next_add _ _;refine⟨⟨fun b ob e=>?_,fun i ob e=>?_,fun i j o₁ o₂ b e₁ e₂ f₁ f₂=>?_,fun i ob e hi=>?_,fun b f=>(let ⟨o',e'⟩:=s.frat b (hfr b f);⟨o',k b o' (fun z=>ha.2 (z▸f)) e'⟩),fun b f F=>?_,?_,?_,fun b f=>?_⟩,hF,ko⟩
 ·have q:=s.base b ob e;exact ko b ob q.2 q.1
 ·rcases hg i ob e with⟨rfl,rfl⟩ | ⟨q,e⟩
  ·refine Rf.rel (c:=c) ?_ ko (fun j hj=>(hρ j hj).1) (by rw[hn];exact Nat.le_succ _)
   show Rf P c h' (Ra c.ρ c.st.next a c.st.next) (Ra c.δ c.st.next d c.st.next) _;rw[Fg,Fg];exact x
  ·have hi:=St.get_lt e;exact(s.obj i ob e).mono ko (fun j hj=>(hρ j hj).1) (by rw[hn];exact Nat.le_succ _) (fun b f o' e'=>k b o' (fun z=>nF b (.inl z) ⟨i,ob,e,f⟩) e') (hρ i hi).1 (hρ i hi).2
 ·rfl';rcases hg i o₁ e₁ with⟨p₁,p₁'⟩ | ⟨q₁,g₁⟩<;>rcases hg j o₂ e₂ with⟨p₂,p₂'⟩ | ⟨q₂,g₂⟩
  ·exact p₁.trans p₂.symm
  ·subst p₁ p₁';exact absurd ⟨j,o₂,g₂,(hfoot j o₂ b q₂).mp f₂⟩ (nF b (hfn b f₁))
  ·subst p₂ p₂';exact absurd ⟨i,o₁,g₁,(hfoot i o₁ b q₁).mp f₁⟩ (nF b (hfn b f₂))
  ·exact s.inj i j o₁ o₂ b g₁ g₂ ((hfoot i o₁ b q₁).mp f₁) ((hfoot j o₂ b q₂).mp f₂)
 ·rcases hg i ob e with⟨rfl,rfl⟩ | ⟨q,e⟩
  ·show Ra c.ρ c.st.next a c.st.next≠Ra c.δ c.st.next d c.st.next;rw[Fg,Fg];exact(hd hi).2
  ·show Ra c.ρ c.st.next a i≠Ra c.δ c.st.next d i;rw[Ej q,Ej q];exact s.two i ob e hi
 ·rcases hF b F with F | F
  ·exact s.disj b (hfr b f) F
  ·exact(hnew b F).2 f
 ·rw[hn];exact Nat.le_succ_of_le s.lo
 ·rw[hn];exact Nat.le_succ_of_le s.ro
 ·rcases f with f | f
  ·exact s.above b (.inl (hfr b f))
  ·rcases hF b f with f | f
   ·exact s.above b (.inr f)
   ·rcases(hnew b f).1 with z | z
    ·exact s.above b (.inl z)
    ·exact s.newB z
theorem Sim.oldAdd(s:Sim P B c){o:O}:∀ b,b≤c.st.lo→DS b c.st→DS b (c.st.add o):=fun b hb x i ob hi e=>by rw[St.get_add,if_neg (Nat.ne_of_lt (Nat.lt_of_lt_of_le hi (Nat.le_trans hb s.lo)))] at e;exact x i ob hi e
theorem Sim.roAdd(s:Sim P B c){o:O}:∀ i,i<c.st.ro→(c.st.add o).get i=c.st.get i:=fun i hi=>by rw[St.get_add,if_neg (Nat.ne_of_lt (Nat.lt_of_lt_of_le hi s.ro))]
theorem Sim.alloc(s:Sim P B c){h':Heap}{a d:Addr}{o:O}(k:∀ b ob,c.h.get? b=some ob→h'.get? b=some ob)(ha:c.h.get? a=none)
  (hd:Bx o→c.h.get? d=none∧a≠d) (x:Rf P c h' a d o):Post P B no c (c.alloc c.fr h' a d o):=by
 have nf:∀ b,c.h.get? b=none→¬ c.fr b:=fun b z=>s.notfr z;refine L2 (s.adopt (fr':=c.fr) (fun _ f=>f) (fun b ob _ e=>k b ob e) ⟨.inr ha,nf a ha⟩ (fun i=>⟨⟨.inr (hd i).1,nf d (hd i).1⟩,(hd i).2⟩) x) fun s' hF ko=>?_;refine⟨s',rfl,fun b ob _ _ e=>k b ob e,fun _ z=>z.elim,fun b f=>?_,fun i hi=>⟨Ej (Nat.ne_of_lt hi),Ej (Nat.ne_of_lt hi)⟩,?_,rfl,rfl,s.oldAdd,s.roAdd,fun i o a ob _ _ _ h=>k a ob h⟩
 ·rfl';rcases hF b f with g | rfl | ⟨g,rfl⟩
  ·exact .inl g
  ·exact .inr ha
  ·exact .inr (hd g).1
 ·rw[show(c.alloc c.fr h' a d o).st.next=c.st.next+1 from St.next_add _ _];exact Nat.le_succ _
noncomputable def Cfg.put(c:Cfg)(h':Heap)(i:Nat)(o:O):Cfg:={ c with h:=h',st:=c.st.put i o }
theorem Sim.put(s:Sim P B c){h':Heap}{i:Nat}{o₀ o:O}(e₀:c.st.get i=some o₀)(hs:Bx o↔Bx o₀)(k:∀ b ob,¬ c.Foot i o₀ b→c.h.get? b=some ob→h'.get? b=some ob)
  (x:Rf P c h' (c.ρ i) (c.δ i) o) (hr:c.st.ro≤i) (hw:∀ b,i<b→b≤c.st.lo→L5 b o₀→L5 b o):Post P B no c (c.put h' i o):=by
 have hi:=St.get_lt e₀;have hg:∀ j ob,(c.st.put i o).get j=some ob→(j=i∧ob=o)∨(j≠i∧c.st.get j=some ob):=fun j ob e=>by
  rw[St.get_put] at e;split at e
  ·rename_i q;exact .inl ⟨q.1.symm,(Option.some.inj e).symm⟩
  ·rename_i q;exact .inr ⟨fun z=>q ⟨z.symm,hi⟩,e⟩
 have hn:(c.put h' i o).st.next=c.st.next:=St.next_put _ _ _;have hfe:∀ b,c.Foot i o b↔c.Foot i o₀ b:=fun b=>by unfold Cfg.Foot;rw[hs]
 have hF:∀ b,(c.put h' i o).F b→c.F b:=fun b ⟨j,ob,e,f⟩=>by
  rcases hg j ob e with⟨rfl,rfl⟩ | ⟨q,e⟩
  ·exact Tx j o₀ e₀ ((hfe b).mp f)
  ·exact Tx j ob e f
 have kF:∀ b ob,¬ c.F b→c.h.get? b=some ob→h'.get? b=some ob:=fun b ob hb e=>k b ob (fun f=>hb ⟨i,o₀,e₀,f⟩) e;have ko:∀ b ob,¬ c.own b→c.h.get? b=some ob→h'.get? b=some ob∧¬(c.put h' i o).own b:=fun b ob hb e =>
  ⟨kF b ob (fun f=>hb (.inr f)) e,fun f=>hb (f.elim .inl fun f=>.inr (hF b f))⟩
 refine⟨⟨fun b ob e=>?_,fun j ob e=>?_,fun j l o₁ o₂ b e₁ e₂ f₁ f₂=>?_,fun j ob e hj=>?_,fun b f=>(let ⟨o',e'⟩:=s.frat b f;⟨o',kF b o' (s.disj b f) e'⟩),fun b f F=>s.disj b f (hF b F),?_,?_,fun b f=>s.above b (f.elim .inl fun f=>.inr (hF b f))⟩,rfl,fun b ob f _ e=>kF b ob f e,fun _ z=>z.elim,fun b f=>.inl (hF b f),fun _ _=>⟨rfl,rfl⟩,?_,rfl,rfl,fun b hb xo j ob hj e=>?_,fun j hj=>?_,fun j o' a ob hj e f h=>k a ob (fun f'=>absurd (s.inj j i o' o₀ a e e₀ f f') (Nat.ne_of_lt (Nat.lt_of_lt_of_le hj hr))) h⟩
 ·have q:=s.base b ob e;exact ko b ob q.2 q.1
 ·rfl';rcases hg j ob e with⟨rfl,rfl⟩ | ⟨q,e⟩
  ·exact Rf.rel (c:=c) x ko (fun _ _=>rfl) (by rw[hn];exact Nat.le_refl _)
  ·refine(s.obj j ob e).mono ko (fun _ _=>rfl) (by rw[hn];exact Nat.le_refl _) (fun b f o' e'=>k b o' (fun f'=>q ?_) e') rfl rfl
   exact s.inj j i ob o₀ b e e₀ f f'
 ·rfl';rcases hg j o₁ e₁ with⟨p₁,p₁'⟩ | ⟨q₁,g₁⟩<;>rcases hg l o₂ e₂ with⟨p₂,p₂'⟩ | ⟨q₂,g₂⟩
  ·exact p₁.trans p₂.symm
  ·subst p₁ p₁';exact s.inj _ l o₀ o₂ b e₀ g₂ ((hfe b).mp f₁) f₂
  ·subst p₂ p₂';exact s.inj j _ o₁ o₀ b g₁ e₀ f₁ ((hfe b).mp f₂)
  ·exact s.inj j l o₁ o₂ b g₁ g₂ f₁ f₂
 ·rcases hg j ob e with⟨rfl,rfl⟩ | ⟨q,e⟩
  ·exact s.two _ o₀ e₀ (hs.mp hj)
  ·exact s.two j ob e hj
 ·rw[hn];exact s.lo
 ·rw[hn];exact s.ro
 ·rw[hn];exact Nat.le_refl _
 ·rcases hg j ob e with⟨rfl,rfl⟩ | ⟨q,e⟩
  ·exact hw b hj hb (xo _ o₀ hj e₀)
  ·exact xo j ob hj e
 ·show(c.st.put i o).get j=_;rw[St.get_put,if_neg (fun(z:i=j∧i<c.st.next)=>absurd hr (Nat.not_le.mpr (z.1▸hj)))]
end
end SSoundB
section SSoundC
open PySem PySem.W PySem.Calls PyProof.Rows
noncomputable def Oq:BI→Value
 | .len=>.builtin "len"
 | .ord=>.builtin "ord"
 | .chr=>.builtin "chr"
 | .str=>.type "str"
 | .int=>.type "int"
 | .abs=>.builtin "abs"
structure Globs(B:Heap)(N:Names)(mg mb:Str→Option Value):Prop where
 mods:∃ o,B.get? sysModules=some o
 g:B.Ns mainGlobals mg
 b:B.Ns builtinsNs mb
 nolimit:B.NoLimit
 val:∀ x v,N.globs.lookup x=some v→∃ rv,mg x=some rv∧BM B no (fun _=>0) 0 v rv
 cls:∀ x C,N.globs.lookup x=none→N.classes.lookup x=some C→mg x=some (.ref C)
 bi:∀ x b,N.globs.lookup x=none→N.classes.lookup x=none→Pm x=some b→mg x=none∧mb x=some (Oq b)
 range:mg "range"=none∧mb "range"=some (.type "range")
 enum:mg "enumerate"=none∧mb "enumerate"=some (.type "enumerate")
 dbg:N.globs.lookup ("__debug__":Str)=none
noncomputable def BY(c:Cfg)(env:Env)(m:Str→Option Value)(x:Str)(rv:Value):Prop:=match env.kindOf x with
 | some .local=>m x=some rv
 | some .cell=>∃ ca o,env.cells.lookup x=some ca∧¬ c.own ca∧c.h.get? ca=some o∧o.data=.cell (some rv)
 | some .free=>∃ ca o,env.cells.lookup x=some ca∧¬ c.own ca∧c.h.get? ca=some o∧o.data=.cell (some rv)
 | _=>False
theorem BY.imp'{c c':Cfg}{env:Env}{m m':Str→Option Value}{x:Str}{rv:Value}(h:BY c env m x rv)(hm:m x=some rv→m' x=some rv)(k:∀ ca o,¬ c.own ca→c.h.get? ca=some o→c'.h.get? ca=some o∧¬ c'.own ca):BY c' env m' x rv:=by
 have g:(∃ ca o,env.cells.lookup x=some ca∧¬ c.own ca∧c.h.get? ca=some o∧o.data=.cell (some rv))→∃ ca o,env.cells.lookup x=some ca∧¬ c'.own ca∧c'.h.get? ca=some o∧o.data=.cell (some rv):=fun⟨ca,o,h3,h4,h5,h6⟩=>⟨ca,o,h3,(k ca o h4 h5).2,(k ca o h4 h5).1,h6⟩;unfold BY at h ⊢;generalize env.kindOf x=k at h ⊢;cases k with
 | none=>exact h
 | some k=>cases k with
  | «local»=>exact hm h
  | cell=>exact g h
  | free=>exact g h
  | _=>exact h
theorem BY.imp{c c':Cfg}{env:Env}{m:Str→Option Value}{x:Str}{rv:Value}(h:BY c env m x rv)(k:∀ ca o,¬ c.own ca→c.h.get? ca=some o→c'.h.get? ca=some o∧¬ c'.own ca):BY c' env m x rv:=h.imp' id k
theorem BY.elim{c:Cfg}{env:Env}{m:Str→Option Value}{x:Str}{rv:Value}{P:Prop}(h:BY c env m x rv)(h1:env.kindOf x=some .local→m x=some rv→P)(h2:env.kindOf x=some .cell∨env.kindOf x=some .free→∀ ca o,env.cells.lookup x=some ca→¬ c.own ca→c.h.get? ca=some o→o.data=.cell (some rv)→P):P:=by
 unfold BY at h;generalize env.kindOf x=k at h h1 h2;cases k with
 | none=>exact h.elim
 | some k=>cases k with
  | «local»=>exact h1 rfl h
  | cell=>obtain⟨ca,o,a,b,c,d⟩:=h;exact h2 (.inl rfl) ca o a b c d
  | free=>obtain⟨ca,o,a,b,c,d⟩:=h;exact h2 (.inr rfl) ca o a b c d
  | _=>exact h.elim
structure EnvOk(env:Env)(sc:List (Str×NameKind)):Prop where
 kind:env.scope.kind=.function
 names:env.scope.names=sc
 globals:env.globals=mainGlobals
 builtins:env.builtins=builtinsNs
 dbg:sc.lookup ("__debug__":Str)=none
 cdict:sc.lookup ("__classdict__":Str)=none
structure At(P:PW)(B:Heap)(env:Env)(sc:List (Str×NameKind))(μ:AG)(c:Cfg):Prop where
 sim:Sim P B c
 eok:EnvOk env sc
 frL:c.fr env.locals
 loc:∃ m,c.h.Ns env.locals m∧∀ x i v,CX sc x=some i→μ[i]?=some (some v)→∃ rv,BY c env m x rv∧c.R v rv
structure AOk(n:Nat)(A:Around):Prop where
 handled:A.handled=none
 depth:A.depth+2*n+1<recursionLimit
 units:A.units+32*n+40<cLine
structure COk(n:Nat)(A:Around):Prop where
 handled:A.handled=none
 depth:A.depth+2*n<recursionLimit
 units:A.units+32*n+20<cLine
theorem AOk.c{n:Nat}{A:Around}(a:AOk n A):COk n A:=⟨a.handled,by have:=a.depth;exact Zl this,by have:=a.units;exact ZO this⟩
theorem AOk.u{n:Nat}{A:Around}(a:AOk n A):A.units<cLine:=by have:=a.units;exact ZT this
theorem AOk.in1{n:Nat}{A:Around}(a:COk n A):A.handled=none:=a.handled
theorem JL{h h':Heap}{a:Addr}{m:Str→Option Value}(x:h.Ns a m)(k:∀ o,h.get? a=some o→h'.get? a=some o):h'.Ns a m:=by refine Wf x fun o es ep ho r=>?_;clear x;exact cq o es ep (k o ho) r
section
variable {P:PW}{B:Heap}{env:Env}{sc:List (Str×NameKind)}{μ:AG}{c c':Cfg}
theorem At.post(a:At P B env sc μ c)(p:Post P B no c c'):At P B env sc μ c':=by refine BA a.loc fun m hn hm=>?_;refine⟨p.sim,a.eok,p.fr▸a.frL,m,JL hn fun o e=>p.keep _ o (a.sim.disj _ a.frL) (fun z=>z.elim) e,fun x i v hs hv=>?_⟩;refine BA (hm x i v hs hv) fun rv h1 h2=>?_;refine Ft rv ?_ (p.rel (fun _ z=>z.elim) h2);exact h1.imp fun ca o h4 h5=>p.keepOwn (fun _ z=>z.elim) ca o h4 h5
theorem Sim.baseRel(s:Sim P B c){v:V}{rv:Value}(x:BM B no (fun _=>0) 0 v rv):c.R v rv :=
 BM.mono (fun b o _ e=>s.base b o e) (fun _ h=>absurd h (Nat.not_lt_zero _)) (Nat.zero_le _) v rv x
theorem Sim.ns(s:Sim P B c){a:Addr}{m:Str→Option Value}(x:B.Ns a m):c.h.Ns a m:=JL x fun o e=>(s.base a o e).1
theorem Sim.inn(s:Sim P B c){K:Frag}(x:K.In B):K.In c.h:=fun a o e=>(s.base a o (x a o e)).1
end
theorem AO{α β:Type}{r:M α}{f:α→St→M β}{x:β×St}(e:Aj r f=some x):∃ a s,r=some (a,s)∧f a s=some x:=by
 cases r with
 | none=>cases e
 | some q=>exact Tx q.1 q.2 rfl e
theorem F8{α:Type}{o:Option α}{st:St}{x:α×St}(e:Fo o st=some x):∃ a,o=some a∧x=(a,st):=by
 cases o with
 | none=>cases e
 | some a=>exact Ft a rfl ((Option.some.inj e).symm)
theorem Aw{α β:Type}{r:M α}{f:α→St→M β}{x:β×St}{P:Prop}(e:Aj r f=some x)(k:∀ a s,r=some (a,s)→f a s=some x→P):P:=let ⟨a,s,h,g⟩:=AO e;k a s h g
theorem MZ{α:Type}{o:Option α}{st:St}{x:α×St}{P:Prop}(e:Fo o st=some x)(k:∀ a,o=some a→x=(a,st)→P):P:=let ⟨a,h,g⟩:=F8 e;k a h g
section
variable (P:PW)(B:Heap)
noncomputable def A6(c:Cfg)(v:V)(st':St)(Q:Value→Shared→Prop)(s:Shared):Prop :=
 ∀ c' tk rv,Post P B no c c'→c'.st=st'→c'.R v rv→Q rv { s with heap:=c'.h,toks:=tk }
noncomputable def IR(c:Cfg)(v:List V)(st':St)(Q:List Value→Shared→Prop)(s:Shared):Prop :=
 ∀ c' tk rv,Post P B no c c'→c'.st=st'→c'.Rs v rv→Q rv { s with heap:=c'.h,toks:=tk }
noncomputable def Dm(c:Cfg)(b:Bool)(st':St)(Q:Bool→Shared→Prop)(s:Shared):Prop :=
 ∀ c' tk,Post P B no c c'→c'.st=st'→Q b { s with heap:=c'.h,toks:=tk }
end
section
variable (prog:Program)(w:World)(B:Heap)(N:Names)(CT:Nat→Option Cl)(C:AC)(n:Nat)
noncomputable def AF(e:Expr):Prop:=∀(A:Around) (env:Env) (sc:List (Str×NameKind)) (μ:AG) (c:Cfg) (s:Shared) (v:V) (st':St) (Q:Value→Shared→Prop) (E:Value→Shared→Prop),
 AOk n A→At (prog,w) B env sc μ c→s.heap=c.h→ev CT C μ c.st (Ao N sc e)=some (v,st')→A6 (prog,w) B c v st' Q s→wpAny (model prog w) A (eval e env) Q E s
noncomputable def BH(es:List Expr):Prop:=∀(A:Around) (env:Env) (sc:List (Str×NameKind)) (μ:AG) (c:Cfg) (s:Shared) (v:List V) (st':St) (Q:List Value→Shared→Prop) (E:Value→Shared→Prop) (pos:Pos),
 AOk n A→At (prog,w) B env sc μ c→s.heap=c.h→evs CT C μ c.st (trEs N sc es)=some (v,st')→IR (prog,w) B c v st' Q s→wpAny (model prog w) A (spliced (backTo pos (starEach es env))) Q E s
noncomputable def HI(e:Expr):Prop:=∀(A:Around) (env:Env) (sc:List (Str×NameKind)) (μ:AG) (c:Cfg) (s:Shared) (v:V) (b:Bool) (st':St) (Q:Bool→Shared→Prop) (E:Value→Shared→Prop),
 AOk n A→At (prog,w) B env sc μ c→s.heap=c.h→ev CT C μ c.st (Ao N sc e)=some (v,st')→truthy v=some b→Dm (prog,w) B c b st' Q s→wpAny (model prog w) A (isTrue e env (eval e env)) Q E s
end
section
variable {prog:Program}{w:World}{B:Heap}{N:Names}{CT:Nat→Option Cl}{C:AC}{n:Nat}
theorem A6.now{c:Cfg}{v:V}{Q:Value→Shared→Prop}{s:Shared}{rv:Value}{tk:Nat}(y:A6 (prog,w) B c v c.st Q s)(sim:Sim (prog,w) B c)(hs:s.heap=c.h)(r:c.R v rv):Q rv { s with toks:=tk }:=by have:=y c tk rv (Post.refl sim) rfl r;rw[← hs] at this;exact this
theorem A6.now'{c:Cfg}{v:V}{Q:Value→Shared→Prop}{s:Shared}{rv:Value}(y:A6 (prog,w) B c v c.st Q s)(sim:Sim (prog,w) B c)(hs:s.heap=c.h)(r:c.R v rv):Q rv s:=y.now (tk:=s.toks) sim hs r
theorem JS(cn:Const)(k:Nat)(pos:Pos):AF prog w B N CT C n (.Constant cn k pos):=by
 intro A env sc μ c s v st' Q E hA a hs e y;rfl';cases cn with
 | none=>cases e;exact Constant_none (y.now' a.sim hs rfl)
 | bool b=>cases e;exact Constant_bool (y.now' a.sim hs rfl)
 | int i=>cases e;exact wpAny_Constant_int (y.now a.sim hs ⟨_,rfl⟩)
 | str x=>cases e;exact Constant_str (y.now a.sim hs ⟨_,rfl⟩)
 | _=>cases e
theorem RV{sc:List (Str×NameKind)}{x:Str}{i:Nat}(e:CX sc x=some i):sc.lookup x=some .local∨sc.lookup x=some .cell∨sc.lookup x=some .free:=by
 unfold CX at e;generalize sc.lookup x=k at e ⊢;cases k with
 | none=>cases e
 | some k=>cases k with
  | «local»=>exact .inl rfl
  | cell=>exact .inr (.inl rfl)
  | free=>exact .inr (.inr rfl)
  | _=>cases e
theorem F5{sc:List (Str×NameKind)}{x d:Str}{k:NameKind}(h:sc.lookup d=none)(e:sc.lookup x=some k):(x==d)=false:=by
 cases q:x==d with
 | false=>rfl
 | true=>rw[beq_iff_eq.mp q,h] at e;cases e
theorem F2{sc:List (Str×NameKind)}{x:Str}(e:As sc x=true):sc.lookup x=some .globalImplicit:=by
 unfold As at e;generalize sc.lookup x=k at e ⊢;cases k with
 | none=>cases e
 | some k=>cases k<;>first | rfl | cases e
theorem KR{P:PW}{A:Around}{env:Env}{sc:List (Str×NameKind)}{μ:AG}{c:Cfg}{s:Shared}{x:Str}{i:Nat}{v:V}{Q:Value→Shared→Prop}{E:Value→Shared→Prop}(a:At P B env sc μ c)(hs:s.heap=c.h)
  (e:CX sc x=some i) (hv:μ[i]?=some (some v)) (h:∀ rv,c.R v rv→Q rv s):wpAny (model prog w) A (loadName env x) Q E s:=by
 rfl';refine BA a.loc fun m hn hm=>?_;refine BA (hm x i v e hv) fun rv h1 h2=>?_;have hk:env.kindOf x=sc.lookup x:=by unfold Env.kindOf;rw[a.eok.names]
 exact h1.elim (fun q h1=>wpAny_loadName_local a.eok.kind q (hs▸hn) h1 (h rv h2)) fun q ca o h3 _ h5 h6=>q.elim (fun q=>wpAny_loadName_cell a.eok.kind q h3 ⟨o,hs▸h5,h6⟩ (h rv h2)) fun q=>wpAny_loadName_free a.eok.kind q h3 ⟨o,hs▸h5,h6⟩ (h rv h2) (F5 a.eok.cdict (hk.symm.trans q))
theorem Re{sc:List (Str×NameKind)}{μ:AG}{st st':St}{x:Str}{pos:Pos}{v:V}{P:Prop}(e:ev CT C μ st (Ao N sc (.Name x pos))=some (v,st'))(h1:∀ i,CX sc x=some i→μ[i]?=some (some v)→st'=st→P)(h2:As sc x=true→N.globs.lookup x=some v→st'=st→P):P:=by
 have e:ev CT C μ st (Tw N sc x)=some (v,st'):=e;unfold Tw at e;generalize q:CX sc x=o at e;cases o with
 | some i =>
  have e:(match μ[i]? with | some (some v)=>some (v,st) | _=>none)=some (v,st'):=e
  generalize qv:μ[i]?=o at e;cases o with
  | none=>exact AI e
  | some o=>cases o with
   | none=>exact AI e
   | some u=>refine I1 e fun z1 z2=>?_;subst z1;exact h1 i q qv z2
 | none =>
  have e:ev CT C μ st (Vl N x (As sc x))=some (v,st'):=e;generalize q1:As sc x=b at e;cases b with
  | false=>exact AI e
  | true =>
   unfold Vl at e;generalize q2:N.globs.lookup x=o at e;cases o with
   | none=>exact AI e
   | some u=>refine I1 e fun z1 z2=>?_;subst z1;exact h2 q1 q2 z2
theorem JU{mg mb:Str→Option Value}(G:Globs B N mg mb)(x:Str)(pos:Pos):AF prog w B N CT C n (.Name x pos):=by
 intro A env sc μ c s v st' Q E hA a hs e y;have hk:env.kindOf x=sc.lookup x:=by unfold Env.kindOf;rw[a.eok.names]
 refine Re e (fun i q hv z=>?_) (fun q1 q2 z=>?_)
 ·rfl';subst z;refine wpAny_Name (KR a hs q hv fun rv r=>y.now' a.sim hs r) ?_;rcases RV q with q | q | q<;>exact F5 a.eok.dbg q
 ·subst z;refine BA (G.val x v q2) fun rv h1 h2=>?_;have hx:=F2 q1;refine Name_function_global a.eok.kind (hk.trans hx) (loadGlobal_global ?_ h1 (y.now' a.sim hs (a.sim.baseRel h2))) (F5 a.eok.dbg hx);rw[a.eok.globals,hs];exact a.sim.ns G.g
end
end SSoundC
section SSoundD
open PySem PySem.W PySem.Calls PyProof.Rows PySem.SeqAt
theorem O2(x y:Txt):AR (x++y)=AR x++AR y:=by show(⟨(x++y).toArray⟩:Str)=Str.append ⟨x.toArray⟩ ⟨y.toArray⟩;unfold Str.append;simp
theorem Df(x:Txt):(AR x).length=x.length:=by simp [AR,Str.length]
theorem Fp{x y:Txt}(h:AR x=AR y):x=y:=by have:=congrArg (fun s:Str=>s.cps.toList) h;simpa [AR] using this
theorem I6(x y:Txt):(AR x==AR y)=decide (x=y):=by rw[Bool.eq_iff_iff,beq_iff_eq,decide_eq_true_eq];exact⟨Fp,fun h=>by rw[h]⟩
theorem P6(x:Txt):(AR x).cps.toList=x:=by simp [AR]
section
variable {P:PW}{B:Heap}{c:Cfg}
theorem KQ{α:Type}{P:Prop}{o:Option O}{g:List V→Option α}{r:α}(e:(match o with | some (.list xs)=>g xs | _=>none)=some r)(k:∀ xs,o=some (.list xs)→g xs=some r→P):P:=by
 cases o with
 | none=>exact AI e
 | some o=>cases o with
  | list xs=>exact k xs rfl e
  | _=>exact AI e
theorem Be(s:Sim P B c){v:V}{xs:List V}{rv:Value}(e:AD c.st v=some xs)(h:c.R v rv):∃ l rs,rv=.ref l∧c.h.IsList l rs.toArray∧c.Rs xs rs:=by
 rfl';cases v with
 | lst ys=>exact B8 e fun z=>(by subst z;obtain⟨a,rs,rfl,_,h1,h2⟩:=h;exact⟨a,rs,rfl,h1,h2⟩)
 | ref i=>refine J1 h fun _ z_1=>?_;subst z_1;refine KQ e fun ys q z=>B8 z fun z=>?_;subst z;refine BA (s.obj i _ q) fun rs h1 h2=>?_;exact NL _ rs rfl h1.list h2
 | _=>exact AI e
theorem Cfg.Rs.intro{vs:List V}{rs:List Value}(h:VRels c.h c.own c.ρ c.st.next vs rs):c.Rs vs rs:=h
end
section
variable {prog:Program}{w:World}{B:Heap}{A:Around}{E:Value→Shared→Prop}{s:Shared}{c:Cfg}{Q:Value→Shared→Prop}{v:V}
theorem A6.lst(y:A6 (prog,w) B c (.lst xs) c.st Q s)(sim:Sim (prog,w) B c)(hs:s.heap=c.h){rs:List Value}(r:c.Rs xs rs){o:Obj}(hc:o.cls=.type "list") {n:Nat} (hd:o.data=.seq rs.toArray n) {tk:Nat} :
  Q (.ref s.heap.objs.size) { s with heap:=s.heap.push o,toks:=tk }:=by
 have p:=sim.push o;have hf:o.isFreed=false:=by obtain⟨_,_,d,_⟩:=o;simp only at hd;subst hd;rfl
 rw[hs];have:=y { c with h:=c.h.push o } tk (.ref c.h.objs.size) p rfl ⟨c.h.objs.size,rs,rfl,sim.fresh (An _),⟨o,Heap.get?_push_size _ hf,hc,n,hd⟩,p.rels (fun _ z=>z.elim) r⟩
 exact this
theorem A6.tup(y:A6 (prog,w) B c (.tup xs) c.st Q s)(sim:Sim (prog,w) B c)(hs:s.heap=c.h){rs:List Value}(r:c.Rs xs rs){o:Obj}(hc:o.cls=.type "tuple") {n:Nat} (hd:o.data=.seq rs.toArray n) {tk:Nat} :
  Q (.ref s.heap.objs.size) { s with heap:=s.heap.push o,toks:=tk }:=by
 have p:=sim.push o;have hf:o.isFreed=false:=by obtain⟨_,_,d,_⟩:=o;simp only at hd;subst hd;rfl
 rw[hs];have:=y { c with h:=c.h.push o } tk (.ref c.h.objs.size) p rfl ⟨c.h.objs.size,rs,rfl,sim.fresh (An _),⟨o,Heap.get?_push_size _ hf,hc,n,hd⟩,p.rels (fun _ z=>z.elim) r⟩
 exact this
theorem DO:Cs≤sizeLine:=by decide +kernel
theorem NP{l b:Addr}{vs ws:List Value}(hl:s.heap.IsList l vs.toArray)(hb:s.heap.IsList b ws.toArray)
  (h:Q (.ref s.heap.objs.size) { s with heap:=s.heap.push { cls:=.type "list",data:=.seq (vs++ws).toArray } }) (hsz:vs.length+ws.length≤sizeLine) :
  wpAny (model prog w) A (binaryOp .Add (.ref l) (.ref b)) Q E s:=by
 rfl';obtain⟨⟨cls,dd,data,sl⟩,ho,hc,n,hd⟩:=id hl;obtain⟨⟨cls2,dd2,data2,sl2⟩,ho2,hc2,n2,hd2⟩:=id hb;simp only at hc hd hc2 hd2;subst hc hd hc2 hd2;have e:vs.toArray++ws.toArray=(vs++ws).toArray:=by simp
 refine PySem.concat_meets ⟨_,ho,rfl⟩ ⟨_,ho2,rfl⟩ noFill_list_add seq_list_add PySem.F.slot_list_add PySem.F.entry_list_add (PySem.F.args_list_add_2 _ _) (list_addW l b vs.toArray ws.toArray n n2 dd dd2 sl sl2 (by simpa using hsz)) ⟨ho,ho2,?_⟩
 rw[e];exact h
theorem Eh{x:Int}(h:small x=true):-(2 ^ 62)<x∧x<2 ^ 62:=by unfold small at h;simpa using h
theorem KO{α:Type}{P:Prop}{a b:V}{F:Int→Int→Option α}{r:α}(e:(match a,b with | .int x,.int y=>F x y | _,_=>none)=some r)(k:∀ x y,a=.int x→b=.int y→F x y=some r→P):P:=by
 cases a with
 | int x=>cases b with
  | int y=>exact k x y rfl rfl e
  | _=>exact AI e
 | _=>exact AI e
theorem ftE{α:Type}{P:Prop}{a b:Bool}{x:Option α}{r:α}(e:(match a,b with | false,true=>x | _,_=>none)=some r)(k:a=false→b=true→x=some r→P):P:=by
 cases a with
 | true=>exact AI e
 | false=>cases b with
  | true=>exact k rfl rfl e
  | false=>exact AI e
theorem ooB{γ:Type}{o o':Option Bool}{F:Bool→Bool→Option γ}{r:γ}{P:Prop}(e:(match o,o' with | some p,some q=>F p q | _,_=>none)=some r)(k:∀ p q,o=some p→o'=some q→F p q=some r→P):P:=by
 cases o with
 | none=>exact AI e
 | some p=>cases o' with
  | none=>exact AI e
  | some q=>exact k p q rfl rfl e
theorem cF{γ:Type}{o o':Option (List V)}{F:List V→List V→Option γ}{r:γ}{P:Prop}(e:(match o,o' with | some p,some q=>F p q | _,_=>none)=some r)(k:∀ p q,o=some p→o'=some q→F p q=some r→P):P:=by
 cases o with
 | none=>exact AI e
 | some p=>cases o' with
  | none=>exact AI e
  | some q=>exact k p q rfl rfl e
theorem soB{o n:Option Bool}{r:Bool}{P:Prop}(e:(match o with | some k=>some k | none=>n)=some r)(h1:o=some r→P)(h2:o=none→n=some r→P):P:=by
 cases o with
 | none=>exact h2 rfl e
 | some k=>exact h1 e
theorem W9{α:Type}{P:Prop}{b:Bool}{x:Option α}{r:α}(e:(match b with | true=>x | false=>none)=some r)(k:b=true→x=some r→P):P:=by
 cases b with
 | true=>exact k rfl e
 | false=>exact AI e
theorem bF0{α:Type}{P:Prop}{b:Bool}{x:Option α}{r:α}(e:(match b with | true=>none | false=>x)=some r)(k:b=false→x=some r→P):P:=by
 cases b with
 | false=>exact k rfl e
 | true=>exact AI e
theorem E9{P:Prop}{x y:V}{b:Bool}(e:DL x y=some b)(h1:∀ i j,x=.int i→y=.int j→b=decide (i=j)→P)(h2:∀ s t,x=.str s→y=.str t→b=decide (s=t)→P):P:=by
 cases x with
 | int i=>cases y with
  | int j=>exact B8 e (h1 i j rfl rfl)
  | _=>exact AI e
 | str s=>cases y with
  | str t=>exact B8 e (h2 s t rfl rfl)
  | _=>exact AI e
 | _=>exact AI e
theorem Rg{P:Prop}{a b:V}{st:St}{v:V}(e:Pi a b st=some v)(h1:∀ x y,a=.int x→b=.int y→v=.int (x+y)→P)(h2:∀ x y,a=.str x→b=.str y→Nat.ble (x.length+y.length) Cs=true→v=.str (x++y)→P)
  (h3:∀ xs ys,AD st a=some xs→AD st b=some ys→Nat.ble (xs.length+ys.length) Cs=true→v=.lst (xs++ys)→P):P:=by
 have key:(match AD st a,AD st b with | some xs,some ys=>(match Nat.ble (xs.length+ys.length) Cs with | true=>some (.lst (xs++ys)) | false=>none) | _,_=>none)=some v→P :=
  fun e=>cF e fun xs ys q1 q2 e=>W9 e fun q e=>B8 e (h3 xs ys q1 q2 q)
 rfl';cases a with
 | int x=>cases b with
  | int y=>exact B8 e (h1 x y rfl rfl)
  | _=>exact key e
 | str x=>cases b with
  | str y=>exact W9 e fun q e=>B8 e (h2 x y rfl rfl q)
  | _=>exact key e
 | _=>exact key e
theorem NW{op:Operator}{a b:V}{ra rb:Value}(sim:Sim (prog,w) B c)(hs:s.heap=c.h)(e:B7 op a b c.st=some v)(xa:c.R a ra)(xb:c.R b rb)(y:A6 (prog,w) B c v c.st Q s) :
  wpAny (model prog w) A (binaryOp op ra rb) Q E s:=by
 rfl';cases op with
 | Add =>
  refine Rg e (fun i j z1 z2 z=>?_) (fun i j z1 z2 q z=>?_) (fun xs ys e1 e2 q z=>?_)
  ·subst z1 z2 z;obtain⟨t,rfl⟩:=xa;obtain⟨u,rfl⟩:=xb;exact PyProof.Rows.add_int (y.now sim hs ⟨_,rfl⟩)
  ·subst z1 z2 z;obtain⟨t,rfl⟩:=xa;obtain⟨u,rfl⟩:=xb;have hq:=Nat.le_of_ble_eq_true q;refine PyProof.Rows.add_str (fun t' tk=>y.now sim hs ⟨t',by rw[O2]⟩) ?_
   exact Nat.le_trans hq DO
  ·subst z;refine Dx (Be sim e1 xa) fun l rs z_2 h1 h2=>?_;subst z_2;refine Dx (Be sim e2 xb) fun l' rs' z_2 h3 h4=>?_;subst z_2;have hq:=Nat.le_of_ble_eq_true q;refine NP (hs▸h1) (hs▸h3) (y.lst (tk:=s.toks) sim hs (VRels.append h2 h4) rfl rfl) ?_;rw[VRels.len h2,VRels.len h4];exact Nat.le_trans hq DO
 | Sub=>cases a with
  | int i=>cases b with
   | int j=>refine B8 e fun z=>?_;subst z;obtain⟨t,rfl⟩:=xa;obtain⟨u,rfl⟩:=xb;exact PyProof.Rows.sub_int (y.now sim hs ⟨_,rfl⟩)
   | _=>exact AI e
  | bool p=>cases b with
   | bool q=>refine B8 e fun z=>?_;subst z;have xa:ra=.bool p:=xa;have xb:rb=.bool q:=xb;subst xa xb;exact PyProof.Rows.sub_bool (y.now sim hs ⟨s.toks,by cases (p)<;>cases (q)<;>rfl⟩)
   | _=>exact AI e
  | _=>exact AI e
 | Mult=>refine KO e fun i j z1 z2 e=>W9 e fun q e=>B8 e fun z=>?_;subst z1 z2 z;obtain⟨t,rfl⟩:=xa;obtain⟨u,rfl⟩:=xb;have h1:=Eh (Bool.and_eq_true_iff.mp q).1;exact PyProof.Rows.mul_int (y.now sim hs ⟨_,rfl⟩) (IntMulOk.of_left (intBits_le_64 (by exact p70 h1) (by exact p78 h1)))
 | Mod=>refine KO e fun i j z1 z2 e=>bF0 e fun q e=>B8 e fun z=>?_;subst z1 z2 z;obtain⟨t,rfl⟩:=xa;obtain⟨u,rfl⟩:=xb;exact PyProof.Rows.mod_int (of_decide_eq_false q) (y.now sim hs ⟨_,rfl⟩)
 | FloorDiv=>refine KO e fun i j z1 z2 e=>ftE e fun q1 q2 e=>B8 e fun z=>?_;subst z1 z2 z;obtain⟨t,rfl⟩:=xa;obtain⟨u,rfl⟩:=xb;have hq:=of_decide_eq_true (Bool.and_eq_true_iff.mp q2).2;exact PyProof.Rows.floordiv_int (of_decide_eq_false q1) (y.now sim hs ⟨_,rfl⟩) (.inl (PyProof.noPylong_small (by exact p96 hq)))
 | _=>exact AI e
theorem KI{s:Shared}{A:Around}{c:Cfg}{x y:V}{rx ry:Value}{b:Bool}(e:DL x y=some b)(hx:c.R x rx)(hy:c.R y ry):EqAt A s rx ry b:=by
 refine E9 e (fun i j z1 z2 z=>?_) (fun i j z1 z2 z=>?_)
 ·subst z1 z2 z;obtain⟨t,rfl⟩:=hx;obtain⟨u,rfl⟩:=hy;exact EqAt.int_int _ _ _ _
 ·subst z1 z2 z;obtain⟨t,rfl⟩:=hx;obtain⟨u,rfl⟩:=hy;rw[← I6];exact EqAt.str_str _ _ _ _
noncomputable def FV(x:V):Value→Bool
 | .int i _=>match x with | .int j=>decide (i=j) | _=>false
 | .str u _=>match x with | .str t=>u==AR t | _=>false
 | _=>false
theorem KJ{c:Cfg}{x y:V}{ry:Value}{b:Bool}(e:DL y x=some b)(hy:c.R y ry):FV x ry=b:=by
 refine E9 e (fun i j z1 z2 z=>?_) (fun i j z1 z2 z=>?_)
 ·subst z1 z2 z;obtain⟨t,rfl⟩:=hy;rfl
 ·subst z1 z2 z;obtain⟨t,rfl⟩:=hy;exact I6 _ _
theorem MI{c:Cfg}{x:V}:∀{ys:List V} {rs:List Value} {b:Bool},C8 x ys=some b→c.Rs ys rs→rs.any (FV x)=b∧∀ r∈rs,∃ y k,DL y x=some k∧c.R y r:=by
 intro ys
 induction ys with
 | nil=>intro rs b e h;refine B8 e fun z=>?_;subst z;rw[show rs=[] from h];exact⟨rfl,fun r hr=>by cases (hr)⟩
 | cons y ys ih =>
  rintro rs b e ⟨r,rs',er,h1,h2⟩;subst er;refine ooB e fun p q e1 e2 e=>B8 e fun z=>?_;subst z;have ih:=ih e2 h2;refine⟨by rw[List.any_cons,KJ e1 h1,ih.1],fun r' hr=>?_⟩
  rfl';rcases List.mem_cons.mp hr with rfl | hr
  ·exact Tx y p e1 h1
  ·exact ih.2 r' hr
theorem Ix{c:Cfg}:∀{xs ys:List V} {b:Bool} {rs ss:List Value},xs.length=ys.length→C7 xs ys=some b→c.Rs xs rs→c.Rs ys ss →
  ∃ f:Nat→Bool,(List.range rs.length).all f=b∧∀(A:Around) (s:Shared) (j:Nat) (h1:j<rs.length) (h2:j<ss.length),EqAt A s rs[j] ss[j] (f j):=by
 intro xs
 induction xs with
 | nil =>
  intro ys b rs ss hl e hx hy;cases ys with
  | nil =>
   refine B8 e fun z=>?_;subst z;rw[show rs=[] from hx]
   exact⟨fun _=>true,rfl,fun _ _ j h=>absurd h (Nat.not_lt_zero _)⟩
  | cons _ _=>exact absurd hl nofun
 | cons x xs ih =>
  intro ys b rs ss hl e hx hy;cases ys with
  | nil=>exact absurd hl nofun
  | cons y ys =>
   refine Dx hx fun r rs er h1 h2=>?_;clear hx;refine Dx hy fun r' ss es h3 h4=>?_;clear hy;subst er es;refine ooB e fun p q e1 e2 e=>B8 e fun z=>?_;subst z;refine BA (ih (Nat.succ.inj hl) e2 h2 h4) fun f hf hat=>?_;refine Ft (fun j=>Nat.rec p (fun j _=>f j) j) ?_ (fun A s j g1 g2=>?_)
   ·rw[List.length_cons,List.range_succ_eq_map,List.all_cons,List.all_map];exact congrArg (p&&·) hf
   ·cases j with
    | zero=>exact KI e1 h1 h3
    | succ j=>exact hat A s j (Nat.lt_of_succ_lt_succ g1) (Nat.lt_of_succ_lt_succ g2)
theorem YBool.now{b:Bool}(y:A6 (prog,w) B c (.bool b) c.st Q s)(sim:Sim (prog,w) B c)(hs:s.heap=c.h):Q (.bool b) s:=y.now' sim hs rfl
theorem QK{a b:V}{ra rb:Value}{k:Bool}(hu:A.units<cLine)(sim:Sim (prog,w) B c)(hs:s.heap=c.h)(e:Xi a b c.st=some k)(xa:c.R a ra)(xb:c.R b rb)(h:Q (.bool k) s) :
  wpAny (model prog w) A (compareOp .Eq ra rb) Q E s:=by
 refine soB e (fun q=>?_) (fun _ e=>?_)
 ·refine E9 q (fun i j z1 z2 z=>?_) (fun i j z1 z2 z=>?_)
  ·subst z1 z2 z;obtain⟨t,rfl⟩:=xa;obtain⟨u,rfl⟩:=xb;exact PyProof.Rows.eq_int (by rw[show(_==_)=decide (_=_) from rfl];exact h)
  ·subst z1 z2 z;obtain⟨t,rfl⟩:=xa;obtain⟨u,rfl⟩:=xb;exact PyProof.Rows.eq_str (by rw[I6];exact h)
 ·refine cF e fun xs ys e1 e2 e=>?_;rfl';refine Dx (Be sim e1 xa) fun l rs z_2 h1 h2=>?_;subst z_2;refine Dx (Be sim e2 xb) fun l' rs' z_2 h3 h4=>?_;subst z_2;refine bT e (fun e q=>?_) (fun e q=>?_)
  ·have hl:=of_decide_eq_true q;refine BA (Ix hl e h2 h4) fun f hf hat=>?_;refine eq_listAt (hs▸h1) (hs▸h3) ?_ hu (e:=f) (fun j g1 g2=>?_) ?_
   ·simp [VRels.len h2,VRels.len h4,hl]
   ·simpa using hat A.in1 s j (by simpa using g1) (by simpa using g2)
   ·simpa [hf] using h
  ·refine B8 e fun z=>?_;subst z;have hl:=of_decide_eq_false q;refine eq_list_lengthsAt (hs▸h1) (hs▸h3) ?_ hu h;simp [VRels.len h2,VRels.len h4,hl]
end
end SSoundD
section SSoundE
open PySem PySem.W PySem.Calls PyProof.Rows PySem.SeqAt
theorem Sq:∀ x y:Txt,Gr x y=!decide (y<x):=by
 intro q1_
 induction q1_ with
 | nil =>
  intro y;have:¬(y<([]:Txt)):=by intro h;cases (h)
  simp [Gr,this]
 | cons a x ih_ =>
  intro q2_;cases q2_ with
  | nil=>have:([]:Txt)<a::x:=List.nil_lt_cons a x;simp [Gr,this]
  | cons b y =>
   unfold Gr;have ih:=ih_ y;rcases Nat.lt_trichotomy a b with h | h | h
   ·have h1:¬(b::y<a::x):=by rw[List.cons_lt_cons_iff];omega
    simp [h,h1]
   ·subst h;have h1:(a::y<a::x)↔y<x:=by rw[List.cons_lt_cons_iff];simp
    simp [ih,h1]
   ·have h1:b::y<a::x:=by rw[List.cons_lt_cons_iff];exact .inl h
    have h2:¬ a<b:=by exact bZ h
    simp [h,h1,h2]
theorem NG{ks:List Txt}{rs:List Value}(k:Txt)(hl:ks.length=rs.length):(valueAt ((ks.map AR).zip rs) (AR k)).isSome=ks.contains k:=by
 unfold valueAt
 induction ks generalizing rs with
 | nil=>cases rs with | nil=>rfl | cons _ _=>cases (hl)
 | cons a ks ih =>
  cases rs with
  | nil=>cases (hl)
  | cons r rs =>
   simp only[List.map_cons,List.zip_cons_cons,List.find?_cons,List.contains_cons];by_cases h:a=k
   ·subst h;simp
   ·have h1:¬ AR a=AR k:=fun e=>h (Fp e);have h2:(k==a)=false:=by simpa using fun e:k=a=>h e.symm
    simp only[h1,decide_false,h2,Bool.false_or];exact ih (by simpa using hl)
section
variable {prog:Program}{w:World}{B:Heap}{A:Around}{E:Value→Shared→Prop}{s:Shared}{c:Cfg}{Q:Value→Shared→Prop}{v:V}
noncomputable def DV(B:Heap):Prop:=∃ o,B.get? sysModules=some o
theorem CA{P:PW}{i:Nat}{o:O}(hm:DV B)(sim:Sim P B c)(e:c.st.get i=some o):(c.ρ i==sysModules)=false:=by have h:=sim.above (c.ρ i) (.inr ⟨i,o,e,.inl rfl⟩);obtain⟨o',e'⟩:=hm;exact beq_eq_false_iff_ne.mpr fun z=>AQ e' (z▸h)
theorem cY{α:Type}{P:Prop}{a:V}{F:Txt→Option α}{r:α}(e:(match a with | .str s=>F s | _=>none)=some r)(k:∀ s,a=.str s→F s=some r→P):P:=by
 cases a with
 | str s=>exact k s rfl e
 | _=>exact AI e
theorem cE{α:Type}{P:Prop}{a:V}{F:Nat→Option α}{r:α}(e:(match a with | .str [c]=>F c | _=>none)=some r)(k:∀ c,a=.str [c]→F c=some r→P):P:=by
 cases a with
 | str s=>cases s with
  | nil=>exact AI e
  | cons x s=>cases s with
   | nil=>exact k x rfl e
   | cons _ _=>exact AI e
 | _=>exact AI e
theorem X1{α:Type}{P:Prop}{o:Option O}{F:List V→Option α}{G:List Txt→Option α}{r:α}(e:(match o with | some (.list xs)=>F xs | some (.dict ks _)=>G ks | _=>none)=some r)(h1:∀ xs,o=some (.list xs)→F xs=some r→P)(h2:∀ ks vs,o=some (.dict ks vs)→G ks=some r→P):P:=by
 cases o with
 | none=>exact AI e
 | some o=>cases o with
  | list xs=>exact h1 xs rfl e
  | dict ks vs=>exact h2 ks vs rfl e
  | _=>exact AI e
theorem KN{a b:V}{ra rb:Value}{k:Bool}(hg:DV B)(sim:Sim (prog,w) B c)(hs:s.heap=c.h)(e:Qa a b c.st=some k)(xa:c.R a ra)(xb:c.R b rb) :
  (∀{Q:Value→Shared→Prop},(∀ tk,Q (.bool k) { s with toks:=tk })→wpAny (model prog w) A (compareOp .In ra rb) Q E s) ∧
  (∀{Q:Value→Shared→Prop},(∀ tk,Q (.bool (!k)) { s with toks:=tk })→wpAny (model prog w) A (compareOp .NotIn ra rb) Q E s):=by
 have seq:∀{xs:List V} {rs:List Value},C8 a xs=some k→c.Rs xs rs→(rs.any (FV a)=k)∧∀(A:Around) r,r∈rs→EqAt A s r ra (FV a r):=fun{xs rs} e1 hx=>by refine J1 (MI e1 hx) fun h1 h2=>?_;refine⟨h1,fun A r hr=>?_⟩;refine EK (h2 r hr) fun y k' e2 h3=>?_;rw[KJ e2 h3];exact KI e2 h3 xa
 have lst:∀{xs:List V} {rs:List Value} {l:Addr},C8 a xs=some k→c.Rs xs rs→s.heap.IsList l rs.toArray →
   (∀{Q:Value→Shared→Prop},(∀ tk,Q (.bool k) { s with toks:=tk })→wpAny (model prog w) A (compareOp .In ra (.ref l)) Q E s) ∧
   (∀{Q:Value→Shared→Prop},(∀ tk,Q (.bool (!k)) { s with toks:=tk })→wpAny (model prog w) A (compareOp .NotIn ra (.ref l)) Q E s):=fun e h2 ht=>by
  refine J1 (seq e h2) fun g1 g2=>?_;exact⟨fun h=>in_listAt (FV a) ht (fun y hy=>g2 _ y (by simpa using hy)) (by simpa [g1] using h s.toks),fun h=>notIn_listAt (FV a) ht (fun y hy=>g2 _ y (by simpa using hy)) (by simpa [g1] using h s.toks)⟩
 rfl';cases b with
 | str hay =>
  refine cE e fun ch z e=>B8 e fun z'=>?_;subst z z';obtain⟨t,rfl⟩:=xa;obtain⟨u,rfl⟩:=xb;have hc:(!(Builtin.Str.occurrences (AR hay) (AR [ch]) 0 (AR hay).length 1).isEmpty)=hay.contains ch:=by rw[show AR [ch]=⟨#[ch]⟩ from rfl,StrLaws.found_one,P6,Bool.eq_iff_iff,decide_eq_true_eq,List.contains_iff_mem]
  exact⟨fun h=>PyProof.Rows.in_str (by rw[hc];exact h s.toks),fun h=>PyProof.Rows.notIn_str (by rw[hc];exact h s.toks)⟩
 | tup xs=>refine Ie xb fun l rs z_2 _ h1 h2=>?_;subst z_2;refine J1 (seq e h2) fun g1 g2=>?_;have ht:s.heap.IsTuple l rs.toArray:=hs▸h1;exact⟨fun h=>in_tupleAt (FV a) ht (fun y hy=>g2 _ y (by simpa using hy)) (by simpa [g1] using h s.toks),fun h=>notIn_tupleAt (FV a) ht (fun y hy=>g2 _ y (by simpa using hy)) (by simpa [g1] using h s.toks)⟩
 | lst xs=>refine Ie xb fun l rs z_2 _ h1 h2=>?_;subst z_2;exact lst e h2 (hs▸h1)
 | ref i =>
  obtain⟨hi,rfl⟩:=xb;refine X1 e (fun xs q e=>?_) (fun ks vs q e=>?_)
  ·refine BA (sim.obj i _ q) fun rs h1 h2=>?_;exact lst e h2 (hs▸h1.list)
  ·refine cY e fun x z e=>B8 e fun z'=>?_;subst z z';obtain⟨t,rfl⟩:=xa;refine FE (sim.obj i _ q) fun rs h1 h2 h3=>?_;have hd:s.heap.DictOf (strKind prog w) (c.ρ i) ((ks.map AR).zip rs):=hs▸h1;have hz:=NG (ks:=ks) (rs:=rs) x (by rw[VRels.len h3];exact h2)
   exact⟨fun h=>wpAny_in_of (strKind_is _ _ _ _) (CA hg sim q) hd.mapOf (by rw[hz];exact h _),fun h=>wpAny_notIn_of (strKind_is _ _ _ _) (CA hg sim q) hd.mapOf (by rw[hz];exact h _)⟩
 | _=>exact AI e
theorem Gp{v:V}{rv:Value}(x:c.R v rv):(rv==.none)=isNone v:=by
 cases v with
 | none=>rw[show rv=.none from x];rfl
 | bool b=>rw[show rv=.bool b from x];rfl
 | int i=>obtain⟨t,rfl⟩:=x;rfl
 | str i=>obtain⟨t,rfl⟩:=x;rfl
 | ref i=>obtain⟨_,rfl⟩:=x;rfl
 | fn i=>rw[show rv=.ref i from x];rfl
 | tup xs=>refine EK x fun a rs z_2 _=>?_;subst z_2;rfl
 | lst xs=>refine EK x fun a rs z_2 _=>?_;subst z_2;rfl
 | obj C ks vs=>refine Wf x fun a dx rs z_3 _=>?_;subst z_3;rfl
theorem E5{op:CmpOp}{a b:V}{ra rb:Value}{k:Bool}(hg:DV B)(hu:A.units<cLine)(sim:Sim (prog,w) B c)(hs:s.heap=c.h)(e:EB op a b c.st=some k)
  (xa:c.R a ra) (xb:c.R b rb) (h:∀ tk,Q (.bool k) { s with toks:=tk }):wpAny (model prog w) A (compareOp op ra rb) Q E s:=by
 have two:∀{x y:Int} {P:Prop},a=.int x→b=.int y→(∀ t u,ra=.int x t→rb=.int y u→P)→P:=fun e1 e2 k=>by subst e1 e2;obtain⟨t,e1⟩:=xa;obtain⟨u,e2⟩:=xb;exact k t u e1 e2
 cases op with
 | Eq=>exact QK hu sim hs e xa xb (h s.toks)
 | NotEq =>
  rfl';refine BA (Option.map_eq_some_iff.mp e) fun k' e' ek=>?_;subst ek;refine soB e' (fun q=>?_) (fun _ e=>?_)
  ·refine E9 q (fun i j z1 z2 z=>?_) (fun i j z1 z2 z=>?_)
   ·subst z1 z2 z;obtain⟨t,rfl⟩:=xa;obtain⟨u,rfl⟩:=xb;exact PyProof.Rows.ne_int (h s.toks)
   ·subst z1 z2 z;obtain⟨t,rfl⟩:=xa;obtain⟨u,rfl⟩:=xb;exact PyProof.Rows.ne_str (by rw[bne,I6];exact h s.toks)
  ·refine cF e fun xs ys e1 e2 e=>?_;refine Dx (Be sim e1 xa) fun l rs z_2 h1 h2=>?_;subst z_2;refine Dx (Be sim e2 xb) fun l' rs' z_2 h3 h4=>?_;subst z_2;refine bT e (fun e q=>?_) (fun e q=>?_)
   ·have hl:=of_decide_eq_true q;refine BA (Ix hl e h2 h4) fun f hf hat=>?_;refine RcNeAt.lists (hs▸h1) (hs▸h3) ?_ hu (e:=f) (fun j g1 g2=>?_) prog w E Q ?_
    ·simp [VRels.len h2,VRels.len h4,hl]
    ·simpa using hat A.in1 s j (by simpa using g1) (by simpa using g2)
    ·simpa [hf] using h s.toks
   ·refine B8 e fun z=>?_;subst z;have hl:=of_decide_eq_false q;refine RcNeAt.lists_lengths (hs▸h1) (hs▸h3) ?_ hu prog w E Q (h s.toks);simp [VRels.len h2,VRels.len h4,hl]
 | Lt=>exact KO e fun x y z1 z2 e=>two z1 z2 fun t u q1 q2=>B8 e fun z=>(by subst q1 q2 z;exact PyProof.Rows.lt_int (h s.toks))
 | Gt=>exact KO e fun x y z1 z2 e=>two z1 z2 fun t u q1 q2=>B8 e fun z=>(by subst q1 q2 z;exact PyProof.Rows.gt_int (h s.toks))
 | GtE=>exact KO e fun x y z1 z2 e=>two z1 z2 fun t u q1 q2=>B8 e fun z=>(by subst q1 q2 z;exact PyProof.Rows.ge_int (h s.toks))
 | LtE=>cases a with
  | int x=>cases b with
   | int y=>exact two rfl rfl fun t u q1 q2=>B8 e fun z=>(by subst q1 q2 z;exact PyProof.Rows.le_int (h s.toks))
   | _=>exact AI e
  | str x=>cases b with
   | str y=>refine B8 e fun z=>?_;subst z;obtain⟨t,rfl⟩:=xa;obtain⟨u,rfl⟩:=xb;refine PySem.P.le_str ?_;have:=h s.toks;rw[Sq] at this;exact this
   | _=>exact AI e
  | _=>exact AI e
 | Is=>cases b with
  | none =>
   refine B8 e fun z=>?_;subst z;rw[show rb=.none from xb]
   exact PyProof.Rows.is_none_gen (by rw[Gp xa];exact h s.toks)
  | _=>exact AI e
 | IsNot=>cases b with
  | none =>
   refine B8 e fun z=>?_;subst z;rw[show rb=.none from xb]
   exact PyProof.Rows.isnot_none_gen (by rw[Gp xa];exact h s.toks)
  | _=>exact AI e
 | In=>exact(KN hg sim hs e xa xb).1 h
 | NotIn=>rfl';refine BA (Option.map_eq_some_iff.mp e) fun k' e' ek=>?_;subst ek;exact(KN hg sim hs e' xa xb).2 h
end
end SSoundE
section SSoundF
open PySem PySem.W PySem.Calls PyProof.Rows PySem.SeqAt
section
variable {prog:Program}{w:World}{B:Heap}{N:Names}{CT:Nat→Option Cl}{C:AC}{n:Nat}
structure Both(prog:Program)(w:World)(B:Heap)(N:Names)(CT:Nat→Option Cl)(C:AC)(n:Nat)(x:Expr):Prop where
 e:AF prog w B N CT C n x
 t:HI prog w B N CT C n x
theorem CU{v:V}{b:Bool}(e:truthy v=some b):v=.bool b:=by
 cases v with
 | bool c=>cases e;rfl
 | _=>cases e
theorem A6.next{c c₁:Cfg}{v:V}{st':St}{Q:Value→Shared→Prop}{s:Shared}{tk:Nat}(y:A6 (prog,w) B c v st' Q s)(p:Post (prog,w) B no c c₁):A6 (prog,w) B c₁ v st' Q { s with heap:=c₁.h,toks:=tk } :=
 fun c' tk' rv p' e r=>y c' tk' rv (p.trans p') e r
theorem IR.next{c c₁:Cfg}{v:List V}{st':St}{Q:List Value→Shared→Prop}{s:Shared}{tk:Nat}(y:IR (prog,w) B c v st' Q s)(p:Post (prog,w) B no c c₁):IR (prog,w) B c₁ v st' Q { s with heap:=c₁.h,toks:=tk } :=
 fun c' tk' rv p' e r=>y c' tk' rv (p.trans p') e r
theorem Dm.next{c c₁:Cfg}{v:Bool}{st':St}{Q:Bool→Shared→Prop}{s:Shared}{tk:Nat}(y:Dm (prog,w) B c v st' Q s)(p:Post (prog,w) B no c c₁):Dm (prog,w) B c₁ v st' Q { s with heap:=c₁.h,toks:=tk } :=
 fun c' tk' p' e=>y c' tk' (p.trans p') e
theorem Dm.now{c:Cfg}{b:Bool}{Q:Bool→Shared→Prop}{s:Shared}{tk:Nat}(y:Dm (prog,w) B c b c.st Q s)(sim:Sim (prog,w) B c)(hs:s.heap=c.h):Q b { s with toks:=tk }:=by have:=y c tk (Post.refl sim) rfl;rw[← hs] at this;exact this
theorem HI.plain{e:Expr}(h:AF prog w B N CT C n e)(he:∀(env:Env) (whole:Sem Value),isTrue e env whole=(do let v ← whole;standAt e.pos;holding [v] (PySem.truthy v))):HI prog w B N CT C n e:=by
 intro A env sc μ c s v b st' Q E hA a hs ee tb y;refine isTrue_plain (h A env sc μ c s v st' _ E hA a hs ee ?_) (he env _);intro c' tk rv p e' r;rw[CU tb] at r;rw[show rv=.bool b from r]
 exact wpAny_truthy_bool (y c' tk p e')
theorem Both.plain{e:Expr}(h:AF prog w B N CT C n e)(he:∀(env:Env) (whole:Sem Value),isTrue e env whole=(do let v ← whole;standAt e.pos;holding [v] (PySem.truthy v)):=by intro _ _;rfl):Both prog w B N CT C n e:=⟨h,.plain h he⟩
theorem Mu{l r:Expr}{op:Operator}{pos:Pos}(hl:AF prog w B N CT C n l)(hr:AF prog w B N CT C n r):AF prog w B N CT C n (.BinOp l op r pos):=by intro A env sc μ c s v st' Q E hA a hs e y;rfl';refine EK (AO e) fun va s1 e1 e=>?_;refine EK (AO e) fun vb s2 e2 e=>?_;refine BA (F8 e) fun v' e3 e=>?_;cases (e);refine wpAny_BinOp (hl A env sc μ c s va s1 _ E hA a hs e1 ?_);intro c1 tk1 ra p1 q1 r1;subst q1;refine hr A env sc μ c1 _ vb st' _ E hA (a.post p1) rfl e2 ?_;intro c2 tk2 rb p2 q2 r2;subst q2;exact NW p2.sim rfl e3 (p2.rel (fun _ z=>z.elim) r1) r2 ((y.next (tk:=tk1) p1).next (tk:=tk2) p2)
theorem Oc{x:Expr}{pos:Pos}(h:AF prog w B N CT C n x):AF prog w B N CT C n (.UnaryOp .USub x pos):=by
 intro A env sc μ c s v st' Q E hA a hs e y;rfl';refine EK (AO e) fun va s1 e1 e=>?_;split at e
 ·cases e;refine UnaryOp_ (h A env sc μ c s _ st' _ E hA a hs e1 ?_);intro c1 tk1 ra p1 q1 r1;subst q1;obtain⟨t,rfl⟩:=r1;exact PyProof.Rows.neg_int ((y.next (tk:=tk1) p1).now p1.sim rfl ⟨_,rfl⟩)
 ·cases e
set_option tactic.hygienic true in
theorem RZ{x:Expr}{pos:Pos}(h:Both prog w B N CT C n x):Both prog w B N CT C n (.UnaryOp .Not x pos):=by
 constructor
 ·intro A env sc μ c s v st' Q E hA a hs e y;rfl';refine EK (AO e) fun va s1 e1 e=>?_;split at e
  ·rename_i b q;cases e;refine UnaryOp_ (h.e A env sc μ c s _ st' _ E hA a hs e1 ?_);intro c1 tk1 ra p1 q1 r1;subst q1;rw[CU q] at r1;rw[show ra=.bool b from r1]
   exact not_of (wpAny_truthy_bool ((y.next (tk:=tk1) p1).now' p1.sim rfl rfl))
  ·cases e
 ·intro A env sc μ c s v b st' Q E hA a hs e tb y;rfl';refine EK (AO e) fun va s1 e1 e=>?_;split at e
  ·rename_i b' q;cases e;cases tb;refine isTrue_not (h.t A env sc μ c s va b' st' _ E hA a hs e1 q ?_);intro c1 tk1 p1 q1;exact y c1 tk1 p1 q1
  ·cases e
theorem Mv{t b o:Expr}{pos:Pos}(ht:Both prog w B N CT C n t)(hb:Both prog w B N CT C n b)(ho:Both prog w B N CT C n o):Both prog w B N CT C n (.IfExp t b o pos):=by
 constructor
 ·intro A env sc μ c s v st' Q E hA a hs e y;rfl';refine EK (AO e) fun vt s1 e1 e=>?_;refine IfExp_ ?_;rfl';split at e
  ·rename_i q;refine ht.t A env sc μ c s vt true s1 _ E hA a hs e1 q ?_;intro c1 tk1 p1 q1;subst q1;exact hb.e A env sc μ c1 _ v st' _ E hA (a.post p1) rfl e (y.next p1)
  ·rename_i q;refine ht.t A env sc μ c s vt false s1 _ E hA a hs e1 q ?_;intro c1 tk1 p1 q1;subst q1;exact ho.e A env sc μ c1 _ v st' _ E hA (a.post p1) rfl e (y.next p1)
  ·cases e
 ·intro A env sc μ c s v k st' Q E hA a hs e tb y;refine EK (AO e) fun vt s1 e1 e=>?_;refine isTrue_IfExp ?_;split at e
  ·rename_i q;refine ht.t A env sc μ c s vt true s1 _ E hA a hs e1 q ?_;intro c1 tk1 p1 q1;subst q1;exact hb.t A env sc μ c1 _ v k st' _ E hA (a.post p1) rfl e tb (y.next p1)
  ·rename_i q;refine ht.t A env sc μ c s vt false s1 _ E hA a hs e1 q ?_;intro c1 tk1 p1 q1;subst q1;exact ho.t A env sc μ c1 _ v k st' _ E hA (a.post p1) rfl e tb (y.next p1)
  ·cases e
set_option backward.match.sparseCases true in
theorem SB{pos:Pos}{op:BoolOp}:∀{es:List Expr},(∀ e∈es,Both prog w B N CT C n e)→∀(A:Around) (env:Env) (sc:List (Str×NameKind)) (μ:AG) (c:Cfg) (s:Shared) (v:V) (st':St) (Q:Value→Shared→Prop) (E:Value→Shared→Prop),
  AOk n A→At (prog,w) B env sc μ c→s.heap=c.h→evBool CT C μ c.st (op==.And) (trEs N sc es)=some (v,st')→A6 (prog,w) B c v st' Q s→wpAny (model prog w) A (boolOp pos op (evalEach es env)) Q E s
 | [],_,A,env,sc,μ,c,s,v,st',Q,E,hA,a,hs,e,y=>by cases e
 | [x],h,A,env,sc,μ,c,s,v,st',Q,E,hA,a,hs,e,y=>by rfl';refine EK (AO e) fun vx s1 e1 e=>?_;cases e;exact(h x (.head _)).e A env sc μ c s v st' Q E hA a hs e1 y
 | x::x'::r,h,A,env,sc,μ,c,s,v,st',Q,E,hA,a,hs,e,y=>by
  refine EK (AO e) fun vx s1 e1 e=>?_;have e:(match truthy vx with | some b=>(match Bool.xor b (op==.And) with | true=>some (vx,s1) | false=>evBool CT C μ s1 (op==.And) (trEs N sc (x'::r))) | none=>none)=some (v,st'):=e
  show wpAny (model prog w) A (do
   let v ← eval x env
   standAt pos
   let t ← holding [v] (PySem.truthy v)
   match op,t with
   | .And,false | .Or,true=>pure v
   | _,_=>boolOp pos op (evalEach (x'::r) env)) Q E s
  refine wpAny_bind ((h x (.head _)).e A env sc μ c s vx s1 _ E hA a hs e1 ?_);intro c1 tk1 ra p1 q1 r1;subst q1;generalize q:truthy vx=o at e;cases o with
  | none=>exact AI e
  | some b =>
   rw[CU q] at r1;rw[show ra=.bool b from r1]
   refine wpAny_bind (wpAny_standAt (wpAny_bind (wpAny_holding (wpAny_truthy_bool ?_))));dsimp only at e;rfl';generalize qx:Bool.xor b (op==.And)=bx at e;cases bx with
   | true =>
    cases e;rw[CU q] at y;have fin:wpAny (model prog w) A (pure (Value.bool b)) Q E { s with heap:=c1.h,toks:=tk1 }:=wpAny_pure (y c1 tk1 _ p1 rfl rfl)
    cases (op)<;>cases (b)<;>first | exact fin | exact absurd qx (by decide)
   | false =>
    have fin:wpAny (model prog w) A (boolOp pos op (evalEach (x'::r) env)) Q E { s with heap:=c1.h,toks:=tk1 } :=
     SB (es:=x'::r) (fun e he=>h e (.tail _ he)) A env sc μ c1 _ v st' Q E hA (a.post p1) rfl e (y.next p1)
    cases (op)<;>cases (b)<;>first | exact fin | exact absurd qx (by decide)
theorem SD{op:BoolOp}:∀{es:List Expr},(∀ e∈es,Both prog w B N CT C n e)→∀(A:Around) (env:Env) (sc:List (Str×NameKind)) (μ:AG) (c:Cfg) (s:Shared) (v:V) (k:Bool) (st':St) (Q:Bool→Shared→Prop) (E:Value→Shared→Prop),
  AOk n A→At (prog,w) B env sc μ c→s.heap=c.h→evBool CT C μ c.st (op==.And) (trEs N sc es)=some (v,st')→truthy v=some k→Dm (prog,w) B c k st' Q s→wpAny (model prog w) A (allTrue op es env) Q E s
 | [],_,A,env,sc,μ,c,s,v,k,st',Q,E,hA,a,hs,e,tk,y=>by cases e
 | [x],h,A,env,sc,μ,c,s,v,k,st',Q,E,hA,a,hs,e,tk,y=>by
  rfl';refine EK (AO e) fun vx s1 e1 e=>?_;cases e;refine wpAny_bind ((h x (.head _)).t A env sc μ c s v k st' _ E hA a hs e1 tk ?_);intro c1 tk1 p1 q1;have fin:wpAny (model prog w) A (pure k) Q E { s with heap:=c1.h,toks:=tk1 }:=wpAny_pure (y c1 tk1 p1 q1)
  cases (op)<;>cases (k)<;>exact fin
 | x::x'::r,h,A,env,sc,μ,c,s,v,k,st',Q,E,hA,a,hs,e,tk,y=>by
  refine EK (AO e) fun vx s1 e1 e=>?_;have e:(match truthy vx with | some b=>(match Bool.xor b (op==.And) with | true=>some (vx,s1) | false=>evBool CT C μ s1 (op==.And) (trEs N sc (x'::r))) | none=>none)=some (v,st'):=e
  generalize q:truthy vx=o at e;cases o with
  | none=>exact AI e
  | some b =>
   refine wpAny_bind ((h x (.head _)).t A env sc μ c s vx b s1 _ E hA a hs e1 q ?_);intro c1 tk1 p1 q1;rfl';subst q1;dsimp only at e;generalize qx:Bool.xor b (op==.And)=bx at e;cases bx with
   | true =>
    cases e;rw[CU q] at tk;cases tk;have fin:wpAny (model prog w) A (pure k) Q E { s with heap:=c1.h,toks:=tk1 }:=wpAny_pure (y c1 tk1 p1 rfl)
    cases (op)<;>cases (k)<;>first | exact fin | exact absurd qx (by decide)
   | false =>
    have fin:wpAny (model prog w) A (allTrue op (x'::r) env) Q E { s with heap:=c1.h,toks:=tk1 } :=
     SD (es:=x'::r) (fun e he=>h e (.tail _ he)) A env sc μ c1 _ v k st' Q E hA (a.post p1) rfl e tk (y.next p1)
    cases (op)<;>cases (b)<;>first | exact fin | exact absurd qx (by decide)
theorem LU{op:BoolOp}{es:List Expr}{pos:Pos}(h:∀ e∈es,Both prog w B N CT C n e):Both prog w B N CT C n (.BoolOp op es pos):=by
 constructor
 ·intro A env sc μ c s v st' Q E hA a hs e y;exact SB h A env sc μ c s v st' Q E hA a hs e y
 ·intro A env sc μ c s v k st' Q E hA a hs e tb y;exact SD h A env sc μ c s v k st' Q E hA a hs e tb y
theorem PV:∀(ops:List CmpOp) {rs:List Expr},rs.any Sl=false→lastMarks ops rs=false:=by
 intro q1_
 induction q1_ with
 | nil=>intro _ _;simp [lastMarks]
 | cons op q2_ ih_ =>
  cases q2_ with
  | nil =>
   intro q3_;cases q3_ with
   | nil=>intro _;simp [lastMarks]
   | cons e q4_ =>
    cases q4_ with
    | nil =>
     intro h;have he:Sl e=false:=by simpa using h
     simp only[lastMarks];cases (e)<;>first | rfl | cases (he)
    | cons q5_ q6_=>intro h;simp only[lastMarks]
  | cons q7_ ops =>
   intro q8_;cases q8_ with
   | nil=>intro _;simp [lastMarks]
   | cons q9_ es=>intro h;exact ih_ (by simp only[List.any_cons,Bool.or_eq_false_iff] at h;exact h.2)
theorem Gc{μ:AG}{st st':St}{l v:V}{op:CmpOp}{ops:List CmpOp}{r:X}{rs:List X}{P:Prop}(e:evCmp CT C μ st l (op::ops) (r::rs)=some (v,st'))
  (h0:∀ vr s1 b,ops=[]→rs=[]→ev CT C μ st r=some (vr,s1)→EB op l vr s1=some b→v=.bool b→st'=s1→P)
  (h1:∀ vr s1 b,ops≠[]→rs≠[]→ev CT C μ st r=some (vr,s1)→EB op l vr s1=some b→(match b with | true=>evCmp CT C μ s1 vr ops rs | false=>some (.bool false,s1))=some (v,st')→P):P:=by
 refine Aw e fun vr s1 e1 e=>?_;generalize q:EB op l vr s1=o at e;cases o with
 | none=>exact AI e
 | some b=>cases ops with
  | nil=>cases rs with
   | nil=>exact I1 e fun z1 z2=>h0 vr s1 b rfl rfl e1 q z1 z2
   | cons=>exact AI e
  | cons=>cases rs with
   | nil=>exact AI e
   | cons=>exact h1 vr s1 b (fun z=>by cases (z)) (fun z=>by cases (z)) e1 q e
theorem Iy{μ:AG}(rs:List X):∀{ops:List CmpOp} {st st':St} {l v:V},evCmp CT C μ st l ops rs=some (v,st')→∃ k,v=.bool k:=by
 induction rs with
 | nil=>exact fun e=>AI e
 | cons r rs ih =>
  intro ops st st' l v e;rfl';cases ops with
  | nil=>exact AI e
  | cons op ops =>
   refine Gc e (fun vr s1 b _ _ _ _ z _=>⟨b,z⟩) (fun vr s1 b _ _ _ _ e=>?_);cases b with
   | true=>exact ih e
   | false=>exact I1 e fun z _=>⟨_,z⟩
theorem Kf(hg:DV B){pos:Pos}:∀{ops:List CmpOp} {rs:List Expr},(∀ e∈rs,Both prog w B N CT C n e)→∀(A:Around) (env:Env) (sc:List (Str×NameKind)) (μ:AG) (c:Cfg) (s:Shared) (l:V) (rl:Value) (k:Bool) (st':St),
  AOk n A→At (prog,w) B env sc μ c→s.heap=c.h→c.R l rl→evCmp CT C μ c.st l ops (trEs N sc rs)=some (.bool k,st') →
   (∀(Q:Value→Shared→Prop) (E:Value→Shared→Prop),(∀ c' tk,Post (prog,w) B no c c'→c'.st=st'→Q (.bool k) { s with heap:=c'.h,toks:=tk })→wpAny (model prog w) A (compareChain pos rl ops (evalEach rs env)) Q E s) ∧
   (∀(Q:Bool→Shared→Prop) (E:Value→Shared→Prop),(∀ c' tk,Post (prog,w) B no c c'→c'.st=st'→Q k { s with heap:=c'.h,toks:=tk })→wpAny (model prog w) A (testChain pos rl ops (evalEach rs env)) Q E s)
 | _,[],_,A,env,sc,μ,c,s,l,rl,k,st',hA,a,hs,xl,e=>by cases e
 | [],_::_,_,A,env,sc,μ,c,s,l,rl,k,st',hA,a,hs,xl,e=>by cases e
 | [op],[r],h,A,env,sc,μ,c,s,l,rl,k,st',hA,a,hs,xl,e=>by
  refine Gc e (fun vr s1 b _ _ e1 q z1 z2=>?_) (fun vr s1 b z=>absurd rfl z)
  ·rfl';cases (z1);subst z2;refine⟨fun Q E y=>?_,fun Q E y=>?_⟩
   ·show wpAny (model prog w) A (do
     let rv ← holding [rl] (eval r env)
     standAt pos
     operate [rl,rv] (compareOp op rl rv)) Q E s
    refine wpAny_bind (wpAny_holding ((h r (.head _)).e A env sc μ c s vr st' _ E hA a hs e1 ?_));intro c1 tk1 ra p1 q1 r1;subst q1;exact wpAny_bind (wpAny_standAt (wpAny_operate' (E5 hg hA.u p1.sim rfl q (p1.rel (fun _ z=>z.elim) xl) r1 fun tk=>y c1 tk p1 rfl)))
   ·show wpAny (model prog w) A (do
     let rv ← holding [rl] (eval r env)
     standAt pos
     let c ← operate [rl,rv] (compareOp op rl rv)
     holding [c] (PySem.truthy c)) Q E s
    refine wpAny_bind (wpAny_holding ((h r (.head _)).e A env sc μ c s vr st' _ E hA a hs e1 ?_));intro c1 tk1 ra p1 q1 r1;subst q1;exact wpAny_bind (wpAny_standAt (wpAny_bind (wpAny_operate' (E5 hg hA.u p1.sim rfl q (p1.rel (fun _ z=>z.elim) xl) r1 fun tk=>wpAny_holding (wpAny_truthy_bool (y c1 tk p1 rfl))))))
 | [op],r::r'::rs,h,A,env,sc,μ,c,s,l,rl,k,st',hA,a,hs,xl,e=>by exact Gc e (fun vr s1 b _ z=>absurd z (List.cons_ne_nil _ _)) (fun vr s1 b z=>absurd rfl z)
 | op::op'::ops,[r],h,A,env,sc,μ,c,s,l,rl,k,st',hA,a,hs,xl,e=>by exact Gc e (fun vr s1 b z=>absurd z (List.cons_ne_nil _ _)) (fun vr s1 b _ z=>absurd rfl z)
 | op::op'::ops,r::r'::rs,h,A,env,sc,μ,c,s,l,rl,k,st',hA,a,hs,xl,e=>by
  refine Gc e (fun vr s1 b z=>by cases (z)) (fun vr s1 b _ _ e1 q e=>?_)
  ·have ih:∀(c1:Cfg) (tk1:Nat) (ra:Value) (p1:Post (prog,w) B no c c1) (q1:c1.st=s1) (r1:c1.R vr ra),b=true→_:=fun c1 tk1 ra p1 q1 r1 hb =>
    Kf hg (pos:=pos) (ops:=op'::ops) (rs:=r'::rs) (fun e he=>h e (.tail _ he)) A env sc μ c1 { s with heap:=c1.h,toks:=tk1 } vr ra k st' hA (a.post p1) rfl r1 (by subst hb q1;exact e)
   refine⟨fun Q E y=>?_,fun Q E y=>?_⟩
   ·show wpAny (model prog w) A (do
     let rv ← holding [rl] (eval r env)
     standAt pos
     let c ← holding [rl,rv] (compareOp op rl rv)
     release [rl,rv] [c]
     if ← holding [c,rv] (PySem.truthy c) then compareChain pos rv (op'::ops) (evalEach (r'::rs) env) else pure c) Q E s
    refine wpAny_bind (wpAny_holding ((h r (.head _)).e A env sc μ c s vr s1 _ E hA a hs e1 ?_));intro c1 tk1 ra p1 q1 r1;have ih':=ih c1;subst q1;refine wpAny_bind (wpAny_standAt (wpAny_bind (wpAny_holding (E5 hg hA.u p1.sim rfl q (p1.rel (fun _ z=>z.elim) xl) r1 fun tk=>?_))));refine wpAny_bind (wpAny_release' (wpAny_bind (wpAny_holding (wpAny_truthy_bool ?_))));cases b with
    | false=>cases (e);exact wpAny_pure (y c1 tk p1 rfl)
    | true=>exact(ih' tk ra p1 rfl r1 rfl).1 Q E fun c' tk' p' q'=>y c' tk' (p1.trans p') q'
   ·show wpAny (model prog w) A (do
     let rv ← holding [rl] (eval r env)
     standAt pos
     let c ← holding [rl,rv] (compareOp op rl rv)
     release [rl,rv] [c]
     if ← holding [c,rv] (PySem.truthy c) then testChain pos rv (op'::ops) (evalEach (r'::rs) env) else pure false) Q E s
    refine wpAny_bind (wpAny_holding ((h r (.head _)).e A env sc μ c s vr s1 _ E hA a hs e1 ?_));intro c1 tk1 ra p1 q1 r1;have ih':=ih c1;subst q1;refine wpAny_bind (wpAny_standAt (wpAny_bind (wpAny_holding (E5 hg hA.u p1.sim rfl q (p1.rel (fun _ z=>z.elim) xl) r1 fun tk=>?_))));refine wpAny_bind (wpAny_release' (wpAny_bind (wpAny_holding (wpAny_truthy_bool ?_))));cases b with
    | false=>cases (e);exact wpAny_pure (y c1 tk p1 rfl)
    | true=>exact(ih' tk ra p1 rfl r1 rfl).2 Q E fun c' tk' p' q'=>y c' tk' (p1.trans p') q'
theorem Ow{μ:AG}{st:St}{b:Bool}{x:X}{ops:List CmpOp}{rs:List X}{r:V×St}{P:Prop}(e:ev CT C μ st (YD b x ops rs)=some r)(h:b=false→ev CT C μ st (.cmp x ops rs)=some r→P):P:=by
 cases b with
 | true=>exact AI e
 | false=>exact h rfl e
theorem Ju(hg:DV B){l:Expr}{ops:List CmpOp}{rs:List Expr}{pos:Pos}(hl:Both prog w B N CT C n l)(h:∀ e∈rs,Both prog w B N CT C n e):Both prog w B N CT C n (.Compare l ops rs pos):=by
 constructor
 ·intro A env sc μ c s v st' Q E hA a hs e y;refine Ow e fun hset e=>?_
  ·refine EK (AO e) fun vl s1 e1 e=>?_;obtain⟨k,rfl⟩:=Iy _ e;rw[arm_eval_Compare,markedEach_of_false _ _ _ (PV ops hset)];refine wpAny_bind (hl.e A env sc μ c s vl s1 _ E hA a hs e1 ?_);intro c1 tk1 ra p1 q1 r1;subst q1;exact(Kf hg h A env sc μ c1 { s with heap:=c1.h,toks:=tk1 } vl ra k st' hA (a.post p1) rfl r1 e).1 Q E fun c' tk p q=>y c' tk _ (p1.trans p) q rfl
 ·intro A env sc μ c s v k st' Q E hA a hs e tb y;refine Ow e fun hset e=>?_
  ·refine EK (AO e) fun vl s1 e1 e=>?_;obtain⟨k',rfl⟩:=Iy _ e;cases tb;rw[arm_isTrue_Compare,markedEach_of_false _ _ _ (PV ops hset)];refine wpAny_bind (hl.e A env sc μ c s vl s1 _ E hA a hs e1 ?_);intro c1 tk1 ra p1 q1 r1;subst q1;exact(Kf hg h A env sc μ c1 { s with heap:=c1.h,toks:=tk1 } vl ra k st' hA (a.post p1) rfl r1 e).2 Q E fun c' tk p q=>y c' tk (p1.trans p) q
theorem Dh:∀{es:List Expr},(∀ e∈es,AF prog w B N CT C n e)→BH prog w B N CT C n es:=by
 intro q1_
 induction q1_ with
 | nil=>intro _;intro A env sc μ c s v st' Q E pos hA a hs e y;rfl';cases e;refine spliced_nil ?_;have:=y c s.toks [] (Post.refl a.sim) rfl rfl;rw[← hs] at this;exact this
 | cons x r ih_ =>
  intro h;intro A env sc μ c s v st' Q E pos hA a hs e y;refine EK (AO e) fun vx s1 e1 e=>?_;refine EK (AO e) fun vr s2 e2 e=>?_;cases e;have hst:starEach (x::r) env=(false,eval x env)::starEach r env:=by cases x<;>first | rfl | (have e1':ev CT C μ c.st .stuck=some (vx,s1):=e1;cases e1')
  refine args_cons ?_ hst;refine h x (.head _) A env sc μ c s vx s1 _ E hA a hs e1 ?_;intro c1 tk1 ra p1 q1 r1;subst q1;refine ih_ (fun e he=>h e (.tail _ he)) A env sc μ c1 _ vr st' _ E pos hA (a.post p1) rfl e2 ?_;intro c2 tk2 rb p2 q2 r2;exact y c2 tk2 (ra::rb) (p1.trans p2) q2 ⟨ra,rb,rfl,p2.rel (fun _ z=>z.elim) r1,r2⟩
end
end SSoundF
section SSoundG
open PySem PySem.W PySem.Calls PyProof.Rows PySem.SeqAt
theorem AX{α:Type}{b:Bool}{r:M α}{x:α×St}(e:A9 b r=some x):b=true∧r=some x:=by
 cases b with
 | true=>exact⟨rfl,e⟩
 | false=>cases e
section
variable {P:PW}{B:Heap}{c c₁ c₂:Cfg}
theorem Post.adopt{h₁ h':Heap}{a:Addr}{x:Addr→Prop}{o:O}(s:Sim P B c)(k:∀ b ob,c.h.get? b=some ob→h₁.get? b=some ob)(hx:∀ b,x b→c.h.get? b=none)
  (p:Post P B no { c with h:=h₁,fr:=fun b=>c.fr b∨x b } c₂) (hk:∀ b ob,b≠a→c₂.h.get? b=some ob→h'.get? b=some ob) (hxa:x a) (hi:¬ Bx o)
  (ho:Rf P c₂ h' a 0 o):Post P B no c (c₂.alloc c.fr h' a 0 o)∧(c₂.alloc c.fr h' a 0 o).R (.ref c₂.st.next) (.ref a):=by
 have nf:¬ c.fr a:=s.notfr (hx a hxa);refine L2 (p.sim.adopt (fr':=c.fr) (fun b f=>by rw[p.fr];exact .inl f) hk ⟨.inl (by rw[p.fr];exact .inr hxa),nf⟩ (fun i=>(hi i).elim) ho) fun s' hF ko=>?_
 have hn:(c₂.alloc c.fr h' a 0 o).st.next=c₂.st.next+1:=St.next_add _ _;refine⟨⟨s',rfl,fun b ob f _ e=>?_,fun _ z=>z.elim,fun b f=>?_,fun i h=>?_,?_,p.lo,p.ro,fun b hb z=>?_,fun i h=>?_,fun i o' a' ob hi e f h=>hk a' ob (fun z=>AQ (z▸h) (hx a hxa)) (p.rokeep i o' a' ob hi e f (k a' ob h))⟩,?_⟩
 ·exact hk b ob (fun z=>AQ (z▸e) (hx a hxa)) (p.keep b ob f (fun z=>z.elim) (k b ob e))
 ·rfl';rcases hF b f with f | rfl | ⟨z,_⟩
  ·refine(p.fp b f).imp id fun z=>?_;cases e:c.h.get? b with
   | none=>rfl
   | some o=>exact AQ (k b o e) z
  ·exact .inr (hx _ hxa)
  ·exact(hi z).elim
 ·have q:=p.agree i h;have hne:i≠c₂.st.next:=Nat.ne_of_lt (Nat.lt_of_lt_of_le h p.next);exact⟨(Ej hne).trans q.1,(Ej hne).trans q.2⟩
 ·rw[hn];exact Nat.le_succ_of_le p.next
 ·exact p.sim.oldAdd b (by rw[p.lo];exact hb) (p.old b hb z)
 ·exact(p.sim.roAdd i (by rw[p.ro];exact h)).trans (p.roeq i h)
 ·refine⟨by rw[hn];exact Nat.lt_succ_self _,?_⟩
  show Value.ref a=.ref (Ra c₂.ρ c₂.st.next a c₂.st.next);rw[Fg]
theorem Sim.made(s:Sim P B c){o:O}{ob:Obj}(hi:¬ Bx o)(x:Rf P c (c.h.push ob) c.h.objs.size 0 o) :
  Post P B no c (c.alloc c.fr (c.h.push ob) c.h.objs.size 0 o)∧(c.alloc c.fr (c.h.push ob) c.h.objs.size 0 o).R (.ref c.st.next) (.ref c.h.objs.size):=by
 refine⟨s.alloc (fun _ _ e=>Heap.get?_push_of_some _ e) (An _) (fun i=>(hi i).elim) x,?_,?_⟩
 ·rw[show(c.alloc c.fr (c.h.push ob) c.h.objs.size 0 o).st.next=c.st.next+1 from St.next_add _ _];exact Nat.lt_succ_self _
 ·show Value.ref _=.ref (Ra c.ρ c.st.next c.h.objs.size c.st.next);rw[Fg]
end
theorem At.enter{P:PW}{B:Heap}{env:Env}{sc:List (Str×NameKind)}{μ:AG}{c:Cfg}{h':Heap}{x:Addr→Prop}(a:At P B env sc μ c)(k:∀ b o,c.h.get? b=some o→h'.get? b=some o)
  (sim1:Sim P B { c with h:=h',fr:=fun a=>c.fr a∨x a }) (ko:∀ b o,¬ c.own b→c.h.get? b=some o→h'.get? b=some o∧¬ Cfg.own { c with h:=h',fr:=fun a=>c.fr a∨x a } b) :
  At P B env sc μ { c with h:=h',fr:=fun a=>c.fr a∨x a }:=by
 refine BA a.loc fun m hn hm=>?_;refine⟨sim1,a.eok,.inl a.frL,m,JL hn fun o e=>k _ o e,fun x i v hs hv=>?_⟩;refine BA (hm x i v hs hv) fun rv q1 q2=>?_;exact Ft rv (BY.imp q1 ko) (BM.mono ko (fun _ _=>rfl) (Nat.le_refl _) _ _ q2)
theorem Kw{K:Type}[DecidableEq K]:∀(kvs acc:List (K×Value)),((acc++kvs).map (·.1)).Nodup→merged acc kvs=acc++kvs:=by
 intro q1_
 induction q1_ with
 | nil=>intro acc _;simp [merged]
 | cons q2_ kvs ih_ =>
  obtain⟨k,v⟩:=q2_;intro acc h;have hs:stored acc k v=acc++[(k,v)]:=by unfold stored;rw[if_neg];intro h';refine BA (List.any_eq_true.mp h') fun p hp e=>?_;have e:=of_decide_eq_true e;rw[List.map_append,List.nodup_append] at h;exact h.2.2 p.1 (List.mem_map_of_mem hp) k (by simp) e
  have ih:=ih_ (acc++[(k,v)]) (by simpa using h)
  have:merged acc ((k,v)::kvs)=merged (stored acc k v) kvs:=rfl;rw[this,hs,ih];simp
theorem Jk{ks:List Txt}(h:ks.Nodup):(ks.map AR).Nodup:=by
 induction ks with
 | nil=>exact List.nodup_nil
 | cons k ks ih=>rw[List.nodup_cons] at h;rw[List.map_cons,List.nodup_cons];refine⟨fun q=>?_,ih h.2⟩;refine BA (List.mem_map.mp q) fun x hx e=>?_;exact h.1 (Fp e▸hx)
theorem Pg{α β:Type}:∀{xs:List α} {ys:List β},xs.length=ys.length→(xs.zip ys).map (·.1)=xs
 | [],_,_=>by simp
 | _::_,[],h=>by cases (h)
 | x::xs,y::ys,h=>by simp [Pg (xs:=xs) (ys:=ys) (by simpa using h)]
section
variable {prog:Program}{w:World}{B:Heap}{N:Names}{CT:Nat→Option Cl}{C:AC}{n:Nat}
theorem Mw{es:List Expr}{k:Nat}{pos:Pos}(h:BH prog w B N CT C n es):AF prog w B N CT C n (.Tuple es k pos):=by
 intro A env sc μ c s v st' Q E hA a hs e y;rfl';refine EK (AO e) fun vs s1 e1 e=>?_;obtain⟨hg,e⟩:=AX e;cases e;refine Tuple_ (h A env sc μ c s vs st' _ E pos hA a hs e1 ?_);intro c1 tk1 rs p1 q1 r1;subst q1;refine wpAny_newObj_type ?_ ?_
 ·exact(y.next (tk:=tk1) p1).tup p1.sim rfl r1 rfl rfl
 ·show rs.toArray.size≤sizeLine;rw[List.size_toArray,VRels.len r1];exact Nat.le_trans (Nat.le_of_ble_eq_true hg) DO
theorem Ob{es:List Expr}{pos:Pos}(h:BH prog w B N CT C n es):AF prog w B N CT C n (.List es pos):=by
 intro A env sc μ c s v st' Q E hA a hs e y;rfl';refine EK (AO e) fun vs s1 e1 e=>?_;obtain⟨hg,e⟩:=AX e;cases e;refine List_ (h A env sc μ c s vs s1 _ E pos hA a hs e1 ?_);intro c1 tk1 rs p1 q1 r1;subst q1;refine wpAny_newObj_type ?_ ?_
 ·have z:=p1.sim.made (o:=.list vs) (ob:={ cls:=.type "list",data:=.seq rs.toArray }) (fun h=>h.elim) ⟨rs,⟨_,Heap.get?_push_size _ rfl,rfl,⟨_,rfl⟩,rfl⟩,r1⟩
  exact y _ tk1 _ (p1.trans z.1) rfl z.2
 ·show rs.toArray.size≤sizeLine;rw[List.size_toArray,VRels.len r1];exact Nat.le_trans (Nat.le_of_ble_eq_true hg) DO
noncomputable def I3(env:Env)(pos:Pos):List (Option Expr)→List Expr→List (Sem Value×Sem Value)
 | some k::ks,e::es=>(eval k env,do let x ← eval e env;standAt pos;pure x)::I3 env pos ks es
 | _,_=>[]
theorem DG{k:Option Expr}{ks:List (Option Expr)}{ts:List Txt}(h:EC (k::ks)=some ts):∃ key kk kp l,k=some (.Constant (.str key) kk kp)∧EC ks=some l∧ts=key.cps.toList::l:=by
 cases k with
 | none=>exact AI h
 | some x=>cases x with
  | Constant v kk kp=>cases v with
   | str key =>
    have h:(match EC ks with | some l=>some (key.cps.toList::l) | none=>none)=some ts:=h
    generalize q:EC ks=o at h;cases o with
    | none=>exact AI h
    | some l=>exact B8 h fun z=>⟨key,kk,kp,l,rfl,rfl,z⟩
   | _=>exact AI h
  | _=>exact AI h
theorem Hn{env:Env}{pos:Pos}:∀{ks:List (Option Expr)} {es:List Expr} {ts:List Txt},EC ks=some ts→ts.length=es.length →
  (evalEachOpt ks env).zip ((evalEach es env).map fun v=>do let x ← v;standAt pos;pure x)=(I3 env pos ks es).map (fun p=>(some p.1,p.2))∧(I3 env pos ks es).length=ts.length
 | [],[],ts,hk,_=>by cases hk;exact⟨rfl,rfl⟩
 | [],_::_,ts,hk,hl=>by cases hk;cases hl
 | k::ks,[],ts,hk,hl=>by obtain⟨key,kk,kp,l,_,_,rfl⟩:=DG hk;cases (hl)
 | k::ks,e::es,ts,hk,hl=>by
  refine Xr (DG hk) fun key kk kp l z_4 hk' z_6=>?_;subst z_4;subst z_6;obtain⟨h1,h2⟩:=Hn (env:=env) (pos:=pos) hk' (by simpa using hl)
  refine⟨?_,by show _+1=_+1;rw[h2]⟩
  show(_::(evalEachOpt ks env).zip _)=_::_;rw[h1];rfl
theorem Ht{sc:List (Str×NameKind)}:∀{es:List Expr},(trEs N sc es).length=es.length
 | []=>rfl
 | x::r=>congrArg (·+1) (Ht (es:=r))
theorem Nl{μ:AG}:∀{xs:List X} {st st':St} {vs:List V},evs CT C μ st xs=some (vs,st')→vs.length=xs.length:=by
 intro q1_
 induction q1_ with
 | nil=>intro _ _ _ e;cases e;rfl
 | cons x r ih_=>intro st st' vs e;refine EK (AO e) fun vx s1 e1 e=>?_;refine EK (AO e) fun vr s2 e2 e=>?_;cases e;rw[List.length_cons,List.length_cons,ih_ e2]
theorem M0{pos:Pos}:∀{ks:List (Option Expr)} {es:List Expr} {ts:List Txt},EC ks=some ts→(∀ e∈es,AF prog w B N CT C n e)→∀(A:Around) (env:Env) (sc:List (Str×NameKind)) (μ:AG) (c:Cfg) (s:Shared) (vs:List V) (st':St)
  (Q:List (Value×Value)→Shared→Prop) (E:Value→Shared→Prop),ts.length=es.length →
  AOk n A→At (prog,w) B env sc μ c→s.heap=c.h→evs CT C μ c.st (trEs N sc es)=some (vs,st') →
   (∀ c' tk rs pvs,Post (prog,w) B no c c'→c'.st=st'→c'.Rs vs rs→Carries (strKind prog w) pvs ((ts.map AR).zip rs)→Q pvs { s with heap:=c'.h,toks:=tk })→wpAny (model prog w) A (evalPairs (I3 env pos ks es)) Q E s:=by
 intro q1_
 induction q1_ with
 | nil =>
  intro q2_;cases q2_ with
  | nil=>intro ts hk h A env sc μ c s vs st' Q E hl hA a hs e y;rfl';cases hk;cases e;refine evalPairs_nil ?_;have:=y c s.toks [] [] (Post.refl a.sim) rfl rfl trivial;rw[← hs] at this;exact this
  | cons q3_ q4_=>intro ts hk h A env sc μ c s vs st' Q E hl hA a hs e y;rfl';cases hk;cases hl
 | cons k ks ih_ =>
  intro q5_;cases q5_ with
  | nil=>intro ts hk h A env sc μ c s vs st' Q E hl hA a hs e y;rfl';refine Xr (DG hk) fun key kk kp l _ _ z_6=>?_;subst z_6;cases (hl)
  | cons x r =>
   intro ts hk h A env sc μ c s vs st' Q E hl hA a hs e y;rfl';refine Xr (DG hk) fun key kk kp l z_4 hk' z_6=>?_;subst z_4;subst z_6;refine EK (AO e) fun vx s1 e1 e=>?_;refine EK (AO e) fun vr s2 e2 e=>?_;cases e;refine evalPairs_cons (Constant_str ?_);refine wpAny_bind (h x (.head _) A env sc μ c _ vx s1 _ E hA a hs e1 ?_);intro c1 tk1 ra p1 q1 r1;subst q1;refine wpAny_bind (wpAny_standAt (wpAny_pure ?_));refine ih_ hk' (fun e he=>h e (.tail _ he)) A env sc μ c1 _ vr st' _ E (by simpa using hl) hA (a.post p1) rfl e2 ?_
   intro c2 tk2 rs pvs p2 q2 r2 hc;refine y c2 tk2 (ra::rs) ((.str key s.toks,ra)::pvs) (p1.trans p2) q2 ⟨ra,rs,rfl,p2.rel (fun _ z=>z.elim) r1,r2⟩ ⟨?_,rfl,hc⟩;have:AR key.cps.toList=key:=by cases (key);simp [AR]
   exact strKind_is _ _ _ _
theorem Oa{ks:List (Option Expr)}{es:List Expr}{pos:Pos}(h:∀ e∈es,AF prog w B N CT C n e):AF prog w B N CT C n (.Dict ks es pos):=by
 intro A env sc μ c s v st' Q E hA a hs e y;have e:ev CT C μ c.st (YF (EC ks) (trEs N sc es))=some (v,st'):=e;rfl';generalize hk:EC ks=ts at e;cases ts with
 | none=>exact AI e
 | some ts =>
  refine EK (AO e) fun vs s1 e1 e=>?_;obtain⟨hg,e⟩:=AX e;cases e;simp only[Bool.and_eq_true,decide_eq_true_eq] at hg;obtain⟨⟨g1,g2⟩,g3⟩:=hg;have g3:=Nat.le_of_ble_eq_true g3;have hlen:ts.length=es.length:=by rw[g1,Nl e1,Ht]
  cases ts with
  | nil =>
   have hes:es=[]:=List.length_eq_zero_iff.mp hlen.symm;subst hes;have hks:ks=[]:=by
    cases ks with
    | nil=>rfl
    | cons k ks=>refine Xr (DG hk) fun key kk kp l _ _ z=>?_;cases (z)
   subst hks;cases e1;refine wpAny_Dict_empty ?_
   have z:=a.sim.made (o:=.dict [] []) (ob:={ cls:=.type "dict",data:=.dict #[] }) (fun h=>h.elim) ⟨[],Heap.DictOf.new c.h,rfl,rfl⟩
   have:=y _ s.toks _ z.1 rfl z.2;rw[hs];exact this
  | cons t ts =>
   have ha0:∀ b,b=c.h.objs.size→c.h.get? b=none:=fun b z=>z▸An _
   have kp:∀ b ob,c.h.get? b=some ob→(c.h.push { cls:=.type "dict",data:=.dict #[] }).get? b=some ob:=fun _ _ e=>Heap.get?_push_of_some _ e
   obtain⟨sim1,ko⟩:=a.sim.enter (x:=fun b=>b=c.h.objs.size) kp (fun b z=>⟨ha0 b z,⟨_,z▸Heap.get?_push_size _ rfl⟩⟩);obtain⟨sh1,sh2⟩:=Hn (env:=env) (pos:=pos) hk hlen;have a1:=a.enter (x:=fun b=>b=c.h.objs.size) kp sim1 ko;refine wpAny_Dict_pairs (knd:=strKind prog w) sh1 (fun z=>by rw[z] at sh2;cases (sh2)) (by rw[sh2];exact g3) ?_
   rw[hs];refine M0 hk h A env sc μ _ _ vs s1 _ E hlen hA a1 rfl e1 ?_;intro c2 tk2 rs pvs p2 q2 r2 hc;subst q2;refine Pf _ hc ?_ (fun h' hd hsb=>?_)
   ·refine(Heap.DictOf.new c.h).at (fun o e=>p2.keep _ o (fun f=>sim1.disj _ (.inr rfl) f) (fun z=>z.elim) e)
   ·have hl':((t::ts).map AR).length=rs.length:=by rw[List.length_map,VRels.len r2];exact g1
    rw[Kw _ [] (by rw[List.nil_append,Pg hl'];exact Jk g2),List.nil_append] at hd
    have z:=Post.adopt (a:=c.h.objs.size) (o:=.dict (t::ts) vs) a.sim kp ha0 p2 (h':=h') (fun b ob hb e=>(hsb.2 b hb).trans e) rfl (fun h=>h.elim) ⟨rs,hd,g1,r2⟩;exact y _ _ _ z.1 rfl z.2
end
end SSoundG
section SSoundH
open PySem PySem.W PySem.Calls PyProof.Rows PySem.SeqAt
section
variable {P:PW}{B:Heap}{c:Cfg}
theorem MK(s:Sim P B c){v:V}{xs:List V}{rv:Value}(e:items c.st v=some xs)(h:c.R v rv):∃ l rs,rv=.ref l∧(c.h.IsList l rs.toArray∨IsTup c.h l rs.toArray)∧c.Rs xs rs:=by
 rfl';cases v with
 | lst ys=>exact B8 e fun z=>(by subst z;obtain⟨a,rs,rfl,_,h1,h2⟩:=h;exact⟨a,rs,rfl,.inl h1,h2⟩)
 | tup ys=>exact B8 e fun z=>(by subst z;obtain⟨a,rs,rfl,_,h1,h2⟩:=h;exact⟨a,rs,rfl,.inr h1,h2⟩)
 | ref i=>refine J1 h fun _ z_1=>?_;subst z_1;refine KQ e fun ys q z=>B8 z fun z=>?_;subst z;refine BA (s.obj i _ q) fun rs h1 h2=>?_;exact NL _ rs rfl (.inl h1.list) h2
 | _=>exact AI e
theorem TM{b1 b2 b3:Bool}{x y j:Nat}{P:Prop}(e:(match b1,b2,b3 with | true,true,_=>some x | false,_,true=>some y | _,_,_=>none)=some j)(h1:b1=true→b2=true→j=x→P)(h2:b1=false→b3=true→j=y→P):P:=by
 cases b1 with
 | true=>cases b2 with
  | true=>exact B8 e (h1 rfl rfl)
  | false=>exact AI e
 | false=>cases b3 with
  | true=>exact B8 e (h2 rfl rfl)
  | false=>exact AI e
theorem M4{k:Int}{n j:Nat}(e:GG k n=some j):seqIndex? k n=some j:=by
 refine TM e (fun h1 h2 z=>?_) (fun h1 h2 z=>?_)
 ·subst z;exact StrLaws.seqIndex_nonneg (of_decide_eq_true h1) (of_decide_eq_true h2)
 ·subst z;exact StrLaws.seqIndex_neg (by have:=of_decide_eq_false h1;exact p57 this) (of_decide_eq_true h2)
theorem W4{x k:Str}{r:Value}{l:List (Str×Value)}(h:x=k):valueAt ((x,r)::l) k=some r :=
 congrArg (Option.map _) (List.find?_cons_of_pos (p:=fun kv:Str×Value=>decide (kv.1=k)) (a:=(x,r)) (decide_eq_true h))
theorem Pb{x k:Str}{r:Value}{l:List (Str×Value)}(h:x≠k):valueAt ((x,r)::l) k=valueAt l k :=
 congrArg (Option.map _) (List.find?_cons_of_neg (p:=fun kv:Str×Value=>decide (kv.1=k)) (a:=(x,r)) fun z=>h (of_decide_eq_true z))
theorem Gd:∀{ks:List Txt} {vs:List V} {rs:List Value} {k:Txt} {v:V},ks.length=vs.length→c.Rs vs rs→Aq ks vs k=some v→∃ r,valueAt ((ks.map AR).zip rs) (AR k)=some r∧c.R v r:=by
 intro ks
 induction ks with
 | nil=>intro vs rs k v _ _ e;exact AI e
 | cons a ks ih =>
  intro vs rs k v hl h e;rfl';cases vs with
  | nil=>exact absurd hl nofun
  | cons w vs=>refine Dx h fun r rs' er h1 h2=>?_;clear h;subst er;refine bT (b:=decide (a=k)) e (fun e q=>B8 e fun z=>⟨r,W4 (congrArg AR (of_decide_eq_true q)),z▸h1⟩) (fun e q=>?_);refine BA (ih (Nat.succ.inj hl) h2 e) fun r' g1 g2=>?_;exact Ft r' ((Pb fun z=>of_decide_eq_false q (Fp z)).trans g1) g2
theorem QE:∀{ks:List Txt} {vs:List V} {rs:List Value} {k:Txt},ks.length=vs.length→c.Rs vs rs→Aq ks vs k=none→valueAt ((ks.map AR).zip rs) (AR k)=none:=by
 intro ks
 induction ks with
 | nil=>intro vs rs k _ _ _;rfl
 | cons a ks ih =>
  intro vs rs k hl h e;rfl';cases vs with
  | nil=>exact absurd hl nofun
  | cons w vs =>
   refine Dx h fun r rs' er h1 h2=>?_;clear h;subst er;have e:(match decide (a=k) with | true=>some w | false=>Aq ks vs k)=none:=e
   generalize q:decide (a=k)=b at e;cases b with
   | true=>exact Y4 e
   | false=>exact(Pb fun z=>of_decide_eq_false q (Fp z)).trans (ih (Nat.succ.inj hl) h2 e)
end
section
variable {prog:Program}{w:World}{B:Heap}{A:Around}{E:Value→Shared→Prop}{s:Shared}{c:Cfg}{Q:Value→Shared→Prop}{v:V}
theorem itE{α:Type}{P:Prop}{o:Option (List V)}{F:List V→Option α}{r:α}(e:(match o with | some xs=>F xs | none=>none)=some r)(k:∀ xs,o=some xs→F xs=some r→P):P:=by
 cases o with
 | none=>exact AI e
 | some xs=>exact k xs rfl e
theorem ttE{α:Type}{P:Prop}{a b:Bool}{x:Option α}{r:α}(e:(match a,b with | true,true=>x | _,_=>none)=some r)(k:a=true→b=true→x=some r→P):P:=by
 cases a with
 | false=>exact AI e
 | true=>cases b with
  | true=>exact k rfl rfl e
  | false=>exact AI e
theorem pmE{α:Type}{P:Prop}{o:Option Nat}{b:Bool}{F:Nat→Option α}{r:α}(e:(match o,b with | some j,true=>F j | _,_=>none)=some r)(k:∀ j,o=some j→b=true→F j=some r→P):P:=by
 cases o with
 | none=>exact AI e
 | some j=>cases b with
  | true=>exact k j rfl rfl e
  | false=>exact AI e
theorem chE{α:Type}{P:Prop}{o:Option Nat}{F:Nat→Option α}{r:α}(e:(match o with | some c=>F c | none=>none)=some r)(k:∀ c,o=some c→F c=some r→P):P:=by
 cases o with
 | none=>exact AI e
 | some c=>exact k c rfl e
theorem dcE{α:Type}{P:Prop}{o:Option O}{F:List Txt→List V→Option α}{r:α}(e:(match o with | some (.dict ks vs)=>F ks vs | _=>none)=some r)(k:∀ ks vs,o=some (.dict ks vs)→F ks vs=some r→P):P:=by
 cases o with
 | none=>exact AI e
 | some o=>cases o with
  | dict ks vs=>exact k ks vs rfl e
  | _=>exact AI e
theorem Si{a i v:V}{st:St}{P:Prop}(e:BR a i st=some v)
  (h1:∀ k x j ch,i=.int k→a=.str x→GG k x.length=some j→small k=true→x[j]?=some ch→v=.str [ch]→P)
  (h2:∀ k xs,i=.int k→items st a=some xs→decide (0≤k)=true→small k=true→xs[k.toNat]?=some v→P)
  (h3:∀ x j ks vs,i=.str x→a=.ref j→st.get j=some (.dict ks vs)→Aq ks vs x=some v→P):P:=by
 cases i with
 | int k =>
  have key:(match items st a with | some xs=>(match decide (0≤k),small k with | true,true=>xs[k.toNat]? | _,_=>none) | none=>none)=some v→P:=fun e=>itE e fun xs q e=>ttE e fun q2 q3 e=>h2 k xs rfl q q2 q3 e
  cases a with
  | str x=>exact pmE e fun j q1 q2 e=>chE e fun ch q3 e=>B8 e (h1 k x j ch rfl rfl q1 q2 q3)
  | _=>exact key e
 | str x=>cases a with
  | ref j=>exact dcE e fun ks vs q e=>h3 x j ks vs rfl rfl q e
  | _=>exact AI e
 | _=>exact AI e
theorem Ny{value slice:Expr}{a i:V}{ra ri:Value}(hsl:∀ o i,subscripted slice false o i=operate [o,i] (getItem o i))(sim:Sim (prog,w) B c)(hs:s.heap=c.h)(e:BR a i c.st=some v)(xa:c.R a ra)(xi:c.R i ri)
  (y:A6 (prog,w) B c v c.st Q s):wpAny (model prog w) A (subscriptTail value slice ra ri) Q E s:=by
 refine Si e (fun k x j ch z1 z2 q1 q2 q3 z3=>?_) (fun k xs z1 q1 q2 q3 d=>?_) (fun x j ks vs z1 z2 q d=>?_)
 ·rfl';subst z1 z2 z3;obtain⟨t,rfl⟩:=xi;obtain⟨u,rfl⟩:=xa;have hk:=Eh q2;refine tail_any (typeIs_str s _ _) PySem.F.slot_str_getitem.lookup (PySem.P.getItem_str (c:=ch) ?_ ?_ ?_) (hsl _ _)
  ·rw[decide_eq_false (p71 hk:¬ k < -(2 ^ 63:Int)),decide_eq_false (p82 hk:¬ k≥2 ^ 63)];rfl
  ·rw[Df,M4 q1];simpa [AR] using q3
  ·exact y.now sim hs ⟨_,rfl⟩
 ·subst z1;obtain⟨t,rfl⟩:=xi;rfl';refine Dx (MK sim q1 xa) fun l rs z_2 hl hr=>?_;subst z_2;refine BA (VRels.get hr d) fun r g1 g2=>?_;have h0:=of_decide_eq_true q2;have hk:=Eh q3;have hlt:k.toNat<rs.length:=(List.getElem?_eq_some_iff.mp g1).1;rcases hl with hl | hl
  ·have hl':s.heap.IsList l rs.toArray:=hs▸hl;exact tail_any hl'.typeIs slot_list_getitem.lookup (wpAny_getItem_list hl' h0 (by exact cM hk) (by simpa using g1) (y.now' sim hs g2)) (hsl _ _)
  ·have hl':IsTup s.heap l rs.toArray:=hs▸hl;exact tail_any hl'.typeIs slot_tuple_getitem.lookup (PyProof.Rows.getItem_tuple hl' (by exact p77 hk) (by exact cM hk) (by simpa using StrLaws.seqIndex_nonneg h0 (by exact p39 hlt)) (by simpa using g1) (y.now' sim hs g2)) (hsl _ _)
 ·subst z1 z2;obtain⟨t,rfl⟩:=xi;obtain⟨_,rfl⟩:=xa;refine FE (sim.obj j _ q) fun rs h1 h2 h3=>?_;refine BA (Gd (c:=c) h2 h3 d) fun r g1 g2=>?_;have hd:s.heap.DictOf (strKind prog w) (c.ρ j) ((ks.map AR).zip rs):=hs▸h1;exact tail_any hd.typeIs slot_dict_getitem.lookup (wpAny_getItem_of (strKind_is _ _ _ _) hd.mapOf g1 (y.now sim hs g2)) (hsl _ _)
end
section
variable {prog:Program}{w:World}{B:Heap}{N:Names}{CT:Nat→Option Cl}{C:AC}{n:Nat}
theorem R0{x i:Expr}{pos:Pos}(hx:AF prog w B N CT C n x)(hi:AF prog w B N CT C n i)(hsl:∀ o j,subscripted i false o j=operate [o,j] (getItem o j))
  (htr:∀ sc,Ao N sc (.Subscript x i pos)=.idx (Ao N sc x) (Ao N sc i)):AF prog w B N CT C n (.Subscript x i pos):=by
 intro A env sc μ c s v st' Q E hA a hs e y;rw[htr] at e;rfl';refine EK (AO e) fun va s1 e1 e=>?_;refine EK (AO e) fun vi s2 e2 e=>?_;refine BA (F8 e) fun v' e3 e=>?_;cases (e);refine Subscript_ (hx A env sc μ c s va s1 _ E hA a hs e1 ?_);intro c1 tk1 ra p1 q1 r1;subst q1;refine hi A env sc μ c1 _ vi st' _ E hA (a.post p1) rfl e2 ?_;intro c2 tk2 rb p2 q2 r2;subst q2;exact Ny hsl p2.sim rfl e3 (p2.rel (fun _ z=>z.elim) r1) r2 ((y.next (tk:=tk1) p1).next (tk:=tk2) p2)
theorem N7{n:Nat}{i:Int}(h:0≤i):clipAt n i=min i.toNat n:=by
 refine Pd (Int.eq_ofNat_of_zero_le h) fun k z_1=>?_;subst z_1;unfold clipAt;rw[if_neg (Int.not_lt.mpr h),Int.toNat_natCast];rcases Nat.le_total k n with q | q
 ·rw[Int.min_eq_left (Int.ofNat_le.mpr q),Nat.min_eq_left q];rfl
 ·rw[Int.min_eq_right (Int.ofNat_le.mpr q),Nat.min_eq_right q];rfl
theorem N6{n:Nat}{i:Int}(h:i<0):clipAt n i=(i+n).toNat:=by
 unfold clipAt;rw[if_pos h,Int.min_eq_left (Int.le_trans (Int.add_le_add_right (Int.le_of_lt h) _) (Int.le_of_eq (Int.zero_add _)))];rcases Int.le_total 0 (i+n) with q | q
 ·rw[Int.max_eq_right q]
 ·rw[Int.max_eq_left q,Int.toNat_of_nonpos q];rfl
theorem Pu(n:Nat)(i:Int):clipAt n i≤n:=Int.toNat_le.mpr (Int.max_le.mpr ⟨Int.natCast_nonneg _,Int.min_le_right _ _⟩)
theorem SO{d m k:Nat}{i:Int}(e:Dk d m (.int i)=some k):k=clipAt m i:=by
 have e:(match decide (0≤i) with | true=>some (min i.toNat m) | false=>some ((i+m).toNat))=some k:=e
 rcases Int.lt_or_le i 0 with q | q
 ·rw[decide_eq_false (Int.not_le.mpr q)] at e;exact B8 e fun z=>z.trans (N6 q).symm
 ·rw[decide_eq_true q] at e;exact B8 e fun z=>z.trans (N7 q).symm
theorem IT{c:Cfg}{d m:Nat}{v:V}{rv:Value}{k:Nat}(e:Dk d m v=some k)(h:c.R v rv):∃ l:Option (Int×Tok),rv=partValue l∧IsPart rv (l.map (·.1))∧k=(l.map (·.1)).elim d (clipAt m):=by
 rfl';cases v with
 | none=>exact Pf none h (h▸.none) (B8 e fun z=>z)
 | int i=>obtain⟨t,h⟩:=h;exact Pf (some (i,t)) h (h▸.int i t) (SO e)
 | _=>exact AI e
theorem UT{a b n:Nat}(h:b - a=n)(hb:b≤n):n=0∨a=0:=by
 rcases Nat.eq_zero_or_pos n with q | q
 ·exact .inl q
 rcases Nat.eq_zero_or_pos a with q' | q'
 ·exact .inr q'
 exact absurd (Nat.lt_of_lt_of_le (Nat.lt_of_le_of_lt (Nat.le_of_eq h.symm) (Nat.sub_lt (Nat.lt_of_lt_of_le q (Nat.le_trans (Nat.le_of_eq h.symm) (Nat.sub_le b a))) q')) hb) (Nat.lt_irrefl _)
theorem Jr(x:Txt)(l u:Option Int):StrLaws.sliceText (AR x) l u=AR ((x.take (u.elim x.length (clipAt x.length))).drop (l.elim 0 (clipAt x.length))):=by
 have hidx:Builtin.Str.strSliceIndices l u 1 x.length=(List.range (u.elim x.length (clipAt x.length) - l.elim 0 (clipAt x.length))).map (l.elim 0 (clipAt x.length)+·):=by rw[← sliceRange_one];unfold Builtin.Str.strSliceIndices;cases (l)<;>cases (u)<;>simp [clipAt_cast]
 unfold StrLaws.sliceText;rw[Df,hidx];have hu:u.elim x.length (clipAt x.length)≤x.length:=by
  cases u with
  | none=>exact Nat.le_refl _
  | some i=>exact Pu _ i
 generalize u.elim x.length (clipAt x.length)=b at hu;generalize l.elim 0 (clipAt x.length)=a;rw[List.drop_take];split
 ·rename_i h;have h:b - a=x.length:=by simpa using h
  rw[h];rcases UT h hu with hl | hl
  ·have:x=[]:=List.length_eq_zero_iff.mp hl;subst this;simp
  ·rw[hl];simp
 ·rw[pick_run,P6];rfl
theorem JV{e:Option Expr}(h:∀ x,e=some x→AF prog w B N CT C n x):∀(A:Around) (env:Env) (sc:List (Str×NameKind)) (μ:AG) (c:Cfg) (s:Shared) (v:V) (st':St) (Q:Value→Shared→Prop) (E:Value→Shared→Prop),
  AOk n A→At (prog,w) B env sc μ c→s.heap=c.h→ev CT C μ c.st (trO N sc e)=some (v,st')→A6 (prog,w) B c v st' Q s→wpAny (model prog w) A (evalPart e env) Q E s:=by
 intro A env sc μ c s v st' Q E hA a hs ee y;rfl';cases e with
 | none=>cases ee;exact wpAny_pure (y.now' a.sim hs rfl)
 | some x=>exact h x rfl A env sc μ c s v st' Q E hA a hs ee y
inductive SlI(st:St)(lo hi:V):V→V→Prop
 | str {t:Txt} {k l:Nat} (hz:t.length≤Cs) (h1:Dk 0 t.length lo=some k) (h2:Dk t.length t.length hi=some l):SlI st lo hi (.str t) (.str ((t.take l).drop k))
 | lst {a:V} {xs:List V} {k l:Nat} (h0:AD st a=some xs) (hz:xs.length≤Cs) (h1:Dk 0 xs.length lo=some k) (h2:Dk xs.length xs.length hi=some l):SlI st lo hi a (.lst ((xs.take l).drop k))
theorem YE{α:Type}{xs ys:List α}{lo hi:V}{P:Prop}(e:DF xs lo hi=some ys)(k:∀ k l,Dk 0 xs.length lo=some k→Dk xs.length xs.length hi=some l→ys=(xs.take l).drop k→P):P:=by
 unfold DF at e;generalize Dk 0 xs.length lo=o1 at e k;generalize Dk xs.length xs.length hi=o2 at e k;cases o1 with
 | none=>exact AI e
 | some a=>cases o2 with
  | none=>exact AI e
  | some b=>exact B8 e fun z=>k a b rfl rfl z.symm.symm
theorem Wr{α:Type}{xs:List α}{n:Nat}{lo hi v:V}{f:List α→V}{P:Prop}(e:(match Nat.ble xs.length n with | true=>(DF xs lo hi).map f | false=>none)=some v)(k:∀ k l,xs.length≤n→Dk 0 xs.length lo=some k→Dk xs.length xs.length hi=some l→f ((xs.take l).drop k)=v→P):P:=by
 generalize q:Nat.ble xs.length n=b at e;cases b with
 | false=>exact AI e
 | true =>
  have e:(DF xs lo hi).map f=some v:=e;generalize q1:DF xs lo hi=o at e;cases o with
  | none=>exact AI e
  | some ys=>exact YE q1 fun a b h1 h2 z=>k a b (Nat.le_of_ble_eq_true q) h1 h2 (z▸Option.some.inj e)
theorem slL{st:St}{a lo hi v:V}(e:(match AD st a with | some xs=>(match Nat.ble xs.length Cs with | true=>(DF xs lo hi).map V.lst | false=>none) | none=>none)=some v):SlI st lo hi a v:=by
 generalize q:AD st a=o at e;cases o with
 | none=>exact AI e
 | some xs=>exact Wr e fun a b hz h1 h2 z=>z▸.lst q hz h1 h2
theorem RU{st:St}{a lo hi v:V}(e:Bg a lo hi st=some v):SlI st lo hi a v:=by
 cases a with
 | str t=>exact Wr (f:=.str) e fun a b hz h1 h2 z=>z▸.str hz h1 h2
 | _=>exact slL e
set_option tactic.hygienic true in
theorem LN{A:Around}{E Q:Value→Shared→Prop}{s:Shared}{c:Cfg}{value slice:Expr}{a lo hi v:V}{ra rl rh:Value}{i:Addr}(sim:Sim (prog,w) B c)(hs:s.heap=c.h)
  (hn:c.h.get? i=some { cls:=.type "slice",data:=.fields #[rl,rh,.none] }) (e:SlI c.st lo hi a v) (xa:c.R a ra) (xl:c.R lo rl) (xh:c.R hi rh)
  (hsl:∀ o j,subscripted slice false o j=operate [j,o] (getItem o j))
  (y:A6 (prog,w) B c v c.st Q s):wpAny (model prog w) A (subscriptTail value slice ra (.ref i)) Q E s:=by
 cases e with
 | str hz h1 h2 =>
  rename_i t k1 k2;obtain⟨tt,er⟩:=xa;refine FE (IT h1 xl) fun l el _ hl=>?_;refine FE (IT h2 xh) fun u eu _ hu=>?_;rw[er];rw[el,eu] at hn;have hx:=Jr t (l.map (·.1)) (u.map (·.1));rw[← hl,← hu] at hx;unfold StrLaws.sliceText at hx;refine tail_any (typeIs_str _ _ _) PySem.F.slot_str_getitem.lookup (wpAny_getItem_str_slice (l:=l) (u:=u) (st:=none) ⟨_,hs▸hn,rfl,rfl⟩ rfl ?_) (hsl _ _);have hm:sliceMade (AR t) tt l u none=(if((1:Int)==1&&(Builtin.Str.strSliceIndices (l.map (·.1)) (u.map (·.1)) 1 (AR t).length).length==(AR t).length)=true then .val (.str (AR t) tt) else .str ⟨((Builtin.Str.strSliceIndices (l.map (·.1)) (u.map (·.1)) 1 (AR t).length).filterMap ((AR t).cps[·]?)).toArray⟩):=rfl
  rw[hm];split
  ·rename_i hc;rw[if_pos hc] at hx;exact y.now' sim hs ⟨tt,by rw[← hx]⟩
  ·rename_i hc;rw[if_neg hc] at hx;refine⟨?_,?_⟩
   ·rw[hx,Df,List.length_drop,List.length_take];exact Nat.le_trans (Nat.le_trans (Nat.sub_le _ _) (Nat.min_le_right _ _)) (Nat.le_trans hz DO)
   ·exact y.now sim hs ⟨_,by rw[← hx]⟩
 | lst h0 hz h1 h2 =>
  rename_i xs k1 k2;refine FE (IT h1 xl) fun l el hl0 hl=>?_;refine FE (IT h2 xh) fun u eu hu0 hu=>?_;refine Dx (Be sim h0 xa) fun l0 rs er g1 g2=>?_;have hlen:=VRels.len g2;rw[er];rw[← hs] at hn g1;refine tail_any g1.typeIs slot_list_getitem.lookup (wpAny_getItem_list_slice g1 ⟨_,hn,rfl,rfl⟩ hl0 hu0 .none (by simp) ?_ ?_) (hsl _ _)
  ·have hp:slicePick rs.toArray (l.map (·.1)) (u.map (·.1)) none=((rs.take k2).drop k1).toArray:=by rw[slicePick_plain,hl,hu,List.drop_take];simp [hlen]
   rw[hp];exact y.lst sim hs (VRels.drop k1 (VRels.take k2 g2)) rfl rfl
  ·rw[List.size_toArray,hlen];exact Nat.le_trans hz DO
theorem Mx{x:Expr}{lo hi:Option Expr}{p pos:Pos}(hx:AF prog w B N CT C n x)(hlo:∀ e,lo=some e→AF prog w B N CT C n e)(hhi:∀ e,hi=some e→AF prog w B N CT C n e) :
  AF prog w B N CT C n (.Subscript x (.Slice lo hi none p) pos):=by
 intro A env sc μ c s v st' Q E hA a hs e y;rfl';refine Aw e fun va s1 e1 e=>Aw e fun vl s2 e2 e=>Aw e fun vh s3 e3 e=>MZ e fun v' e4 e=>?_;have e5:=RU e4;clear e4;obtain⟨z1,z2⟩:=Prod.mk.inj e;rw[z1,z2] at y;clear e z1 z2;refine Subscript_ (hx A env sc μ c s va s1 _ E hA a hs e1 ?_);intro c1 tk1 ra p1 q1 r1;rw[← q1] at e2;refine wpAny_Slice (JV hlo A env sc μ c1 _ vl s2 _ E hA (a.post p1) rfl e2 ?_);intro c2 tk2 rl p2 q2 r2;rw[← q2] at e3;refine JV hhi A env sc μ c2 _ vh s3 _ E hA ((a.post p1).post p2) rfl e3 ?_;intro c3 tk3 rh p3 q3 r3;rw[← q3] at e5 y;refine wpAny_pure ?_
 have p4:=p3.sim.push { cls:=.type "slice",data:=.fields #[rl,rh,.none] }
 exact LN p4.sim rfl (Heap.get?_push_size _ rfl) e5 (p4.rel (fun _ z=>z.elim) (p3.rel (fun _ z=>z.elim) (p2.rel (fun _ z=>z.elim) r1))) (p4.rel (fun _ z=>z.elim) (p3.rel (fun _ z=>z.elim) r2)) (p4.rel (fun _ z=>z.elim) r3) (fun _ _=>rfl)
  ((((y.next (tk:=tk1) p1).next (tk:=tk2) p2).next (tk:=tk3) p3).next (tk:=tk3) p4)
end
end SSoundH
section SSoundI
open PySem PySem.W PySem.Calls PyProof.Rows PySem.SeqAt
structure ClsOk(K:Frag)(C:Nat)(cl:Cl):Prop where
 make:makesIn K C=true
 init:findIn K (.ref C) "__init__"=some (some (.ref cl.init))
 initF:typeIn K (.ref cl.init)=some (.type "function")
 get:plainGet K C ""=true
 dict:hasDictIn K C=true
 set:findIn K (.ref C) "__setattr__"=some (some (.builtin "object.__setattr__"))
 over:plainOver K C=true
 keep:keepIn K (.ref C)=true
 fld:∀ f,Am f=true→∃ attr,findIn K (.ref C) (CY f)=some attr∧noGet K attr=true∧takerIn K C (CY f)=some none
 meth:∀ f g,cl.meths.lookup f=some g→f<NT.length∧findIn K (.ref C) (CY f)=some (some (.ref g))∧typeIn K (.ref g)=some (.type "function")∧keepIn K (.ref g)=true
theorem PZ{i j:Nat}(hi:i<NT.length)(hj:j<NT.length)(h:CY i=CY j):i=j:=by
 have key:∀ a,a<NT.length→∀ b,b<NT.length→CY a=CY b→a=b:=by decide +kernel
 exact key i hi j hj h
theorem JG{f:Nat}(h:Am f=true):f<NT.length:=by
 unfold Am at h;have:=Nat.le_of_ble_eq_true (Bool.and_eq_true_iff.mp h).2;have e:NT.length=58:=by decide
 exact bB this e
section
variable {P:PW}{B:Heap}{c:Cfg}{K:Frag}
theorem Y1{α:Type}{P:Prop}{b:Bool}{x y:α}{r:α}(e:(match b with | true=>x | false=>y)=r)(t:x=r→b=true→P)(f:y=r→b=false→P):P:=by
 cases b with
 | true=>exact t e rfl
 | false=>exact f e rfl
theorem Vd{a f:Nat}{ks:List Nat}{rs:List Value}{r:Value}(q:Nat.beq a f=true):CQ (a::ks) (r::rs) f=some r:=by
 show(match Nat.beq a f with | true=>some r | false=>CQ ks rs f)=some r
 rw[q]
theorem PC{a f:Nat}{ks:List Nat}{rs:List Value}{r:Value}(q:Nat.beq a f=false):CQ (a::ks) (r::rs) f=CQ ks rs f:=by
 show(match Nat.beq a f with | true=>some r | false=>CQ ks rs f)=CQ ks rs f
 rw[q]
theorem PD:∀{ks:List Nat} {vs:List V} {rs:List Value} {f:Nat} {v:V},ks.length=vs.length→c.Rs vs rs→DX ks vs f=some v→∃ r,CQ ks rs f=some r∧c.R v r:=by
 intro ks
 induction ks with
 | nil=>intro vs rs f v _ _ e;exact AI e
 | cons a ks ih =>
  intro vs rs f v hl h e;cases vs with
  | nil=>exact absurd hl nofun
  | cons w vs=>refine Dx h fun r rs' er h1 h2=>?_;clear h;subst er;refine Y1 (b:=Nat.beq a f) e (fun e q=>B8 e fun z=>⟨r,Vd q,z▸h1⟩) (fun e q=>?_);rw[PC q];exact ih (Nat.succ.inj hl) h2 e
theorem KK:∀{ks:List Nat} {vs:List V} {rs:List Value} {f:Nat},ks.length=vs.length→c.Rs vs rs→DX ks vs f=none→CQ ks rs f=none:=by
 intro ks
 induction ks with
 | nil=>intro vs rs f _ _ _;rfl
 | cons a ks ih =>
  intro vs rs f hl h e;cases vs with
  | nil=>exact absurd hl nofun
  | cons w vs=>refine Dx h fun r rs' er h1 h2=>?_;clear h;subst er;refine Y1 (b:=Nat.beq a f) e (fun e q=>Y4 e) (fun e q=>?_);rw[PC q];exact ih (Nat.succ.inj hl) h2 e
noncomputable def Hi:List Nat→List Value→Nat→Value→List Value
 | k::ks,v::vs,f,x=>match Nat.beq k f with
  | true=>x::vs
  | false=>v::Hi ks vs f x
 | _,_,_,x=>[x]
theorem U0:∀{ks:List Nat} {vs:List V} {rs:List Value} {f:Nat} {v:V} {r:Value},ks.length=vs.length→c.Rs vs rs→c.R v r→c.Rs (CV ks vs f v).2 (Hi ks rs f r)∧(CV ks vs f v).1.length=(CV ks vs f v).2.length:=by
 intro ks
 induction ks with
 | nil =>
  intro vs rs f v r hl hr x;have:vs=[]:=List.length_eq_zero_iff.mp hl.symm;subst this;rw[show rs=[] from hr]
  exact⟨⟨r,[],rfl,x,rfl⟩,rfl⟩
 | cons a ks ih =>
  intro vs rs f v r hl h x;cases vs with
  | nil=>exact absurd hl nofun
  | cons w vs =>
   refine Dx h fun r' rs' er h1 h2=>?_;clear h;subst er;have ih:=ih (f:=f) (Nat.succ.inj hl) h2 x;show c.Rs (match Nat.beq a f with | true=>(a::ks,v::vs) | false=>(a::(CV ks vs f v).1,w::(CV ks vs f v).2)).2 (match Nat.beq a f with | true=>r::rs' | false=>r'::Hi ks rs' f r)∧(match Nat.beq a f with | true=>(a::ks,v::vs) | false=>(a::(CV ks vs f v).1,w::(CV ks vs f v).2)).1.length=(match Nat.beq a f with | true=>(a::ks,v::vs) | false=>(a::(CV ks vs f v).1,w::(CV ks vs f v).2)).2.length
   cases Nat.beq a f with
   | true=>exact⟨⟨r,rs',rfl,x,h2⟩,hl⟩
   | false=>exact⟨⟨r',_,rfl,h1,ih.1⟩,congrArg (·+1) ih.2⟩
theorem QQ:∀{ks:List Nat} {rs:List Value} {f g:Nat} {r:Value} {vs:List V} {v:V},ks.length=rs.length→ks.length=vs.length→CQ (CV ks vs f v).1 (Hi ks rs f r) g=if f=g then some r else CQ ks rs g:=by
 intro ks
 induction ks with
 | nil =>
  intro rs f g r vs v _ _;show(match Nat.beq f g with | true=>some r | false=>none)=if f=g then some r else none
  rw[BT.beq_eq];by_cases h:f=g<;>simp [h]
 | cons a ks ih =>
  intro rs f g r vs v hl hl';cases rs with
  | nil=>exact absurd hl nofun
  | cons w rs=>cases vs with
   | nil=>exact absurd hl' nofun
   | cons u vs =>
    have ih:=ih (f:=f) (g:=g) (r:=r) (v:=v) (Nat.succ.inj hl) (Nat.succ.inj hl');show CQ (match Nat.beq a f with | true=>(a::ks,v::vs) | false=>(a::(CV ks vs f v).1,u::(CV ks vs f v).2)).1 (match Nat.beq a f with | true=>r::rs | false=>w::Hi ks rs f r) g=if f=g then some r else(match Nat.beq a g with | true=>some w | false=>CQ ks rs g)
    cases h:Nat.beq a f with
    | true =>
     have h:=Nat.eq_of_beq_eq_true h;subst h;show(match Nat.beq a g with | true=>some r | false=>CQ ks rs g)=_
     rw[BT.beq_eq];by_cases q:a=g<;>simp [q]
    | false =>
     show(match Nat.beq a g with | true=>some w | false=>CQ (CV ks vs f v).1 (Hi ks rs f r) g)=_
     rw[ih];cases q:Nat.beq a g with
     | false=>rfl
     | true =>
      have q:=Nat.eq_of_beq_eq_true q;subst q;have hne:¬ f=a:=fun z=>by rw[z,Nat.beq_refl] at h;exact EE h.symm
      rw[if_neg hne,if_neg hne]
theorem Sa:∀{ks:List Nat} {vs:List V} {f:Nat} {v:V},ks.length=vs.length→(CV ks vs f v).1.length=if(DX ks vs f).isSome then ks.length else ks.length+1:=by
 intro ks
 induction ks with
 | nil=>intro vs f v _;rfl
 | cons a ks ih =>
  intro vs f v hl;cases vs with
  | nil=>exact absurd hl nofun
  | cons w vs =>
   have ih:=ih (f:=f) (v:=v) (Nat.succ.inj hl);show(match Nat.beq a f with | true=>(a::ks,v::vs) | false=>(a::(CV ks vs f v).1,w::(CV ks vs f v).2)).1.length=if(match Nat.beq a f with | true=>some w | false=>DX ks vs f).isSome then ks.length+1 else ks.length+1+1
   cases Nat.beq a f with
   | true=>rfl
   | false =>
    show(CV ks vs f v).1.length+1=if(DX ks vs f).isSome then ks.length+1 else ks.length+1+1
    rw[ih];cases (DX ks vs f).isSome<;>rfl
theorem KS{es:List DictEntry}{ep:Nat}(hk:∀ e∈es,∃ n t,e.key=.str n t)(name:Str):lookIn name (dictOf es ep)=some ((es.find? (·.key.isStr name)).map (·.val)):=by
 show(match es.toArray.toList.find? (·.key.isStr name) with | some e=>some (some e.val) | none=>if es.toArray.toList.any (·.refKey) then none else some none)=_
 cases q:es.find? (·.key.isStr name) with
 | some e=>simp [q]
 | none =>
  have:es.any (·.refKey)=false:=by rw[List.any_eq_false];intro e he;refine NK (hk e he) fun n t hn=>?_;simp [DictEntry.refKey,hn]
  simp [q,this]
theorem Vn{v:V}{rv:Value}(h:c.R v rv):handedIn rv=true:=by
 cases v with
 | none=>rw[show rv=.none from h];rfl
 | bool b=>rw[show rv=.bool b from h];rfl
 | int i=>obtain⟨t,rfl⟩:=h;rfl
 | str i=>obtain⟨t,rfl⟩:=h;rfl
 | ref i=>obtain⟨_,rfl⟩:=h;rfl
 | fn i=>rw[show rv=.ref i from h];rfl
 | tup xs=>obtain⟨a,rs,rfl,_⟩:=h;rfl
 | lst xs=>obtain⟨a,rs,rfl,_⟩:=h;rfl
 | obj C ks vs=>refine Wf h fun a dx rs z_3 _=>?_;subst z_3;rfl
end
section
variable {prog:Program}{w:World}{B:Heap}{A:Around}{E:Value→Shared→Prop}{s:Shared}{c:Cfg}{Q:Value→Shared→Prop}{v:V}{K:Frag}{CT:Nat→Option Cl}
theorem Kr{x C dx:Addr}{ks:List Nat}{rs:List Value}{f:Nat}{r:Value}{cl:Cl}{expr:Bool}(X:K.In s.heap)(hC:ClsOk K C cl)(hf:Am f=true)(hx:s.heap.get? x=some (instObj C dx))(hd:Dl s.heap dx ks rs)
  (hg:CQ ks rs f=some r) (hh:handedIn r=true) (h:∀ tk,Q r { s with toks:=tk }):wpAny (model prog w) A (getAttr (.ref x) (CY f) expr) Q E s:=by
 rfl';refine Ie hd fun es ep ho hk hl hm=>?_;clear hd;refine FE (hC.fld f hf) fun attr a1 a2 a3=>?_;have I:InstAt s.heap x (instObj C dx) C (some (dictOf es ep)):=⟨hx,rfl,rfl,ho⟩;refine get_value X I (plainGet_of hC.get).1 (findObj_own hC.dict a1 a2 ?_) hh (h _);rw[KS hk,hm f (JG hf),hg]
theorem YJ{α:Type}{P:Prop}{o:Option O}{F:Nat→List Nat→List V→Option α}{r:α}(e:(match o with | some (.inst c ks vs)=>F c ks vs | _=>none)=some r)(k:∀ c ks vs,o=some (.inst c ks vs)→F c ks vs=some r→P):P:=by
 cases o with
 | none=>exact AI e
 | some o=>cases o with
  | inst c ks vs=>exact k c ks vs rfl e
  | _=>exact AI e
theorem H9{f:Nat}{a:V}{ra:Value}{expr:Bool}(X:K.In B)(hCT:∀ C cl,CT C=some cl→ClsOk K C cl)(sim:Sim (prog,w) B c)(hs:s.heap=c.h)(e:AU (A5 CT) a f c.st=some v)(xa:c.R a ra)(y:A6 (prog,w) B c v c.st Q s) :
  wpAny (model prog w) A (getAttr ra (CY f) expr) Q E s:=by
 have go:∀{x C dx:Addr} {ks:List Nat} {vs:List V} {rs:List Value},(match A5 CT C&&Am f with | true=>DX ks vs f | false=>none)=some v→c.h.get? x=some (instObj C dx)→Dl c.h dx ks rs→ks.length=vs.length→c.Rs vs rs→wpAny (model prog w) A (getAttr (.ref x) (CY f) expr) Q E s:=fun e h1 h2 h3 h4=>by refine W9 e fun qc e=>?_;have qc:=Bool.and_eq_true_iff.mp qc;rfl';obtain⟨cl,hcl⟩:=Option.isSome_iff_exists.mp qc.1;refine BA (PD (c:=c) h3 h4 e) fun r g1 g2=>?_;exact Kr (hs▸sim.inn X) (hCT _ cl hcl) qc.2 (hs▸h1) (hs▸h2) g1 (Vn g2) fun tk=>y.now sim hs g2
 rfl';cases a with
 | ref i=>obtain⟨_,rfl⟩:=xa;refine YJ e fun C ks vs q e=>?_;refine Pe (sim.obj i _ q) fun rs h1 h2 h3 h4=>?_;exact go e h1 h2 h3 h4
 | obj C ks vs=>refine X8 xa fun x dx rs z_3 _ h1 _ h2 h3 h4=>?_;subst z_3;exact go e h1 h2 h3 h4
 | _=>exact AI e
theorem TI{x C dx:Addr}{ks:List Nat}{rs:List Value}{f:Nat}{rv:Value}{cl:Cl}{R:Result→Shared→Prop}{vs:List V}{v:V}{tk0:Tok}(X:K.In s.heap)(hC:ClsOk K C cl)(hf:Am f=true)(hx:s.heap.get? x=some (instObj C dx))(hd:Dl s.heap dx ks rs)
  (hl:ks.length=rs.length) (hl':ks.length=vs.length) (hn:ks.length≤500) (hsm:(DX ks vs f).isSome=(CQ ks rs f).isSome)
  (h:∀ h' tk,Dl h' dx (CV ks vs f v).1 (Hi ks rs f rv)→Heap.SameBut dx s.heap h'→R (.ok (.ret .none)) { s with heap:=h',toks:=tk }):codeAny (model prog w) A (.call (.builtin "object.__setattr__") ⟨[.ref x,.str (CY f) tk0,rv],[]⟩) R s:=by
 rfl';refine Ie hd fun es ep ho hk hlen hm=>?_;clear hd;refine FE (hC.fld f hf) fun attr a1 a2 a3=>?_;have hfl:=JG hf;have I:InstAt s.heap x (instObj C dx) C (some (dictOf es ep)):=⟨hx,rfl,rfl,ho⟩;refine osa_open X I hC.over a3 fun b=>?_;refine BA (any_some hC.dict) fun cd hc hd'=>?_;refine wpAny_bind (wpAny_pure (wpAny_bind (wpAny_bind (wpAny_loadPart hx (wpAny_bind ((looks_clsIn X hc).here ?_))))));rw[hd'];refine wpAny_pure (a:=some dx) (wpAny_bind (wpAny_pure (wpAny_bind ?_)));refine wpAny_bind (wpAny_bind (wpAny_askSetting (wpAny_pure (wpAny_bind (wpAny_mkText (wpAny_bind (wpAny_loadPart ho ?_)))))));dsimp only;have hna:es.toArray.any (·.refKey)=false:=by
  rw[← Array.any_toList,List.any_eq_false];intro e he;refine NK (hk e (by simpa using he)) fun n t hn=>?_
  simp [DictEntry.refKey,hn]
 have c0:(!es.toArray.any (·.key.isStr (CY f))&&es.toArray.any (·.refKey))=false:=by rw[hna,Bool.and_false]
 rw[aRefKeyMayBeTheName_at,c0];have hput:Obj.putName (CY f) (PyData.keyHash w.params (CY f)) (.str (CY f) s.toks) rv (dictOf es ep)=dictOf (putL (CY f) (PyData.keyHash w.params (CY f)) (.str (CY f) s.toks) rv es) (putN (CY f) es ep):=putName_dict _ _ _ _ _ _;have hfk:es.any (·.key.isStr (CY f))=(DX ks vs f).isSome:=by rw[hsm,← hm f hfl,Option.isSome_map,Bool.eq_iff_iff,List.find?_isSome,List.any_eq_true]
 have putL_len:∀(l:List DictEntry),(l.any (·.key.isStr (CY f))=true→(putL (CY f) (PyData.keyHash w.params (CY f)) (.str (CY f) s.toks) rv l).length=l.length)∧(l.any (·.key.isStr (CY f))=false→(putL (CY f) (PyData.keyHash w.params (CY f)) (.str (CY f) s.toks) rv l).length=l.length+1):=by
  intro l
  induction l with
  | nil=>exact⟨fun z=>(by cases z),fun _=>rfl⟩
  | cons e r ih =>
   rw[List.any_cons];unfold putL;by_cases q:e.key.isStr (CY f)=true
   ·rw[if_pos q,q];exact⟨fun _=>rfl,fun z=>(by cases (z))⟩
   ·have q':=Bool.not_eq_true _▸q;rw[if_neg q,q',Bool.false_or];exact⟨fun z=>(by rw[List.length_cons,List.length_cons,ih.1 z]),fun z=>by rw[List.length_cons,List.length_cons,ih.2 z]⟩
 have putL_find':∀(l:List DictEntry) (g:Nat),g<NT.length→((putL (CY f) (PyData.keyHash w.params (CY f)) (.str (CY f) s.toks) rv l).find? (·.key.isStr (CY g))).map (·.val)=if f=g then some rv else(l.find? (·.key.isStr (CY g))).map (·.val):=by
  intro l g hg
  induction l with
  | nil =>
   simp only[putL,List.find?_cons,Value.isStr];by_cases q:f=g
   ·subst q;simp
   ·have:(CY f==CY g)=false:=beq_eq_false_iff_ne.mpr fun z=>q (PZ hfl hg z);simp [this,q]
  | cons e r ih =>
   simp only[putL];cases q:e.key.isStr (CY f) with
   | true =>
    simp only[if_true,List.find?_cons];by_cases z:f=g
    ·subst z;simp [q]
    ·have:e.key.isStr (CY g)=false:=by
      cases q2:e.key.isStr (CY g) with
      | false=>rfl
      | true=>exact absurd (PZ hfl hg (Value.isStr_inj _ _ _ q q2)) z
     simp [this,z]
   | false =>
    simp only[Bool.false_eq_true,if_false,List.find?_cons];cases q2:e.key.isStr (CY g) with
    | true =>
     have z:f≠g:=fun z=>by subst z;rw[q] at q2;cases q2
     simp [z]
    | false=>simpa using ih
 have putL_keys:∀(l:List DictEntry),(∀ e∈l,∃ n t,e.key=.str n t)→∀ e∈putL (CY f) (PyData.keyHash w.params (CY f)) (.str (CY f) s.toks) rv l,∃ n t,e.key=.str n t:=by
  intro l
  induction l with
  | nil=>intro _ e he;rw[putL,List.mem_singleton] at he;subst he;exact Wg _ _ rfl
  | cons e r ih =>
   intro hl e' he';simp only[putL] at he';split at he'
   ·rcases List.mem_cons.mp he' with rfl | he'
    ·exact hl e (.head _)
    ·exact hl e' (.tail _ he')
   ·rcases List.mem_cons.mp he' with rfl | he'
    ·exact hl _ (.head _)
    ·exact ih (fun e he=>hl e (.tail _ he)) e' he'
 refine wpAny_updatePart ho ?_;have hge:=Heap.get?_update_self (Obj.putName (CY f) (PyData.keyHash w.params (CY f)) (.str (CY f) s.toks) rv) ho (by rw[hput];rfl)
 rw[hput] at hge;have hlen':(putL (CY f) (PyData.keyHash w.params (CY f)) (.str (CY f) s.toks) rv es).length=if(DX ks vs f).isSome=true then es.length else es.length+1:=by
  have z:=putL_len es;rw[hfk] at z;split
  ·rename_i q;exact z.1 q
  ·rename_i q;exact z.2 (Bool.not_eq_true _▸q)
 refine wpAny_bind (wpAny_lookBehind hge (pastItsLine_dict (by rw[List.size_toArray,hlen',sizeLine_eq];split<;>omega)) ?_)
 refine wpAny_pure (h _ _ ⟨_,_,hge,putL_keys es hk,?_,fun g hg=>?_⟩ (Heap.SameBut.update ..))
 ·rw[hlen',Sa hl',hlen]
 ·rw[putL_find' es g hg,QQ hl hl',hm g hg]
theorem LK{x C dx:Addr}{ks:List Nat}{rs:List Value}{f:Nat}{rv:Value}{cl:Cl}{Q:Unit→Shared→Prop}{vs:List V}{v:V}(X:K.In s.heap)(hC:ClsOk K C cl)(hf:Am f=true)(hx:s.heap.get? x=some (instObj C dx))(hd:Dl s.heap dx ks rs)
  (hl:ks.length=rs.length) (hl':ks.length=vs.length) (hn:ks.length≤500) (hsm:(DX ks vs f).isSome=(CQ ks rs f).isSome)
  (h:∀ h' tk,Dl h' dx (CV ks vs f v).1 (Hi ks rs f rv)→Heap.SameBut dx s.heap h'→Q () { s with heap:=h',toks:=tk }):wpAny (model prog w) A (PySem.setAttr (.ref x) (CY f) rv) Q E s:=by
 have hd':=hd;refine Ie hd' fun es ep ho hk hlen hm=>?_;clear hd';have I:InstAt s.heap x (instObj C dx) C (some (dictOf es ep)):=⟨hx,rfl,rfl,ho⟩;exact set_plain X I hC.set (TI (s:={ s with toks:=s.toks+1 }) X hC hf hx hd hl hl' hn hsm h)
theorem L1{st:St}{i:Nat}{v:V}(h:st.wr i v=true):st.ro≤i∧(st.lo≤i∨AN v=true):=by unfold St.wr at h;have h:=Bool.and_eq_true_iff.mp h;exact⟨Nat.le_of_ble_eq_true h.1,(Bool.or_eq_true_iff.mp h.2).imp Nat.le_of_ble_eq_true id⟩
theorem LH:∀{ks:List Nat} {vs:List V} {f:Nat} {v:V} {b:Nat},refsLts b vs→B6 b v→refsLts b (CV ks vs f v).2:=by
 intro ks
 induction ks with
 | nil=>intro vs f v b _ h;exact⟨h,trivial⟩
 | cons a ks ih =>
  intro vs f v b hv h;cases vs with
  | nil=>exact⟨h,trivial⟩
  | cons w vs =>
   show refsLts b (match Nat.beq a f with | true=>(a::ks,v::vs) | false=>(a::(CV ks vs f v).1,w::(CV ks vs f v).2)).2
   cases Nat.beq a f with
   | true=>exact⟨h,hv.2⟩
   | false=>exact⟨hv.1,ih hv.2 h⟩
theorem GI{f:Nat}{a v:V}{ra rv:Value}{st':St}{Q:Unit→Shared→Prop}(X:K.In B)(hCT:∀ C cl,CT C=some cl→ClsOk K C cl)(sim:Sim (prog,w) B c)(hs:s.heap=c.h)(e:setAttr (A5 CT) a f v c.st=some ((),st'))(xa:c.R a ra)(xv:c.R v rv)
  (y:∀ c' tk,Post (prog,w) B no c c'→c'.st=st'→Q () { s with heap:=c'.h,toks:=tk }):wpAny (model prog w) A (PySem.setAttr ra (CY f) rv) Q E s:=by
 rfl';cases a with
 | ref i =>
  obtain⟨_,rfl⟩:=xa;refine YJ e fun C ks vs q e=>?_;obtain⟨hg,e⟩:=AX e;refine I1 e fun _ e=>?_;subst e;refine Ci hg fun hg g3=>Ci hg fun hg g4=>Ci hg fun g1 g2=>?_;have g4:=Nat.le_of_ble_eq_true g4;obtain⟨cl,hcl⟩:=Option.isSome_iff_exists.mp g1;obtain⟨w1,w2⟩:=L1 g3;refine Pe (sim.obj i _ q) fun rs h1 h2 h3 h4=>?_;have hlr:ks.length=rs.length:=by rw[VRels.len h4];exact h3
  have hsm:(DX ks vs f).isSome=(CQ ks rs f).isSome:=by
   cases z:DX ks vs f with
   | none=>rw[KK (c:=c) h3 h4 z];rfl
   | some v'=>refine BA (PD (c:=c) h3 h4 z) fun r z1 _=>?_;rw[z1];rfl
  refine LK (vs:=vs) (v:=v) (hs▸sim.inn X) (hCT C cl hcl) g2 (hs▸h1) (hs▸h2) hlr h3 (by exact Zh g4) hsm fun h' tk hd hsb=>?_
  rw[hs] at hsb;obtain⟨f1,f2⟩:=U0 (f:=f) h3 h4 xv;have p:=sim.put (o:=.inst C (CV ks vs f v).1 (CV ks vs f v).2) (h':=h') q Iff.rfl (fun b ob nb e=>(hsb.2 b (fun z=>nb (.inr ⟨trivial,z⟩))).trans e)
   ⟨_,(hsb.2 _ (sim.two i _ q trivial)).trans h1,hd,f2,f1⟩ w1 (fun b hb hlo hold=>LH hold (w2.elim (fun z=>absurd (Nat.lt_of_lt_of_le hb hlo) (Nat.not_lt.mpr z)) (Bq v)))
  exact y _ tk p rfl
 | _=>exact AI e
end
end SSoundI
section SSoundJ
open PySem PySem.W PySem.Calls PyProof.Rows PySem.SeqAt
noncomputable def DI(prog:Program)(w:World)(B:Heap)(C:AC)(n:Nat):Prop:=∀(A:Around) (c:Cfg) (s:Shared) (a:Nat) (vs:List V) (rvs:List Value) (v:V) (st':St) (R:Result→Shared→Prop),
 COk n A→Sim (prog,w) B c→s.heap=c.h→c.Rs vs rvs→C a vs c.st=some (v,st')→A6 (prog,w) B c v st' (fun rv s'=>R (.ok (.ret rv)) s') s→codeAny (model prog w) A (.call (.ref a) ⟨rvs,[]⟩) R s
section
variable {prog:Program}{w:World}{B:Heap}{N:Names}{CT:Nat→Option Cl}{C:AC}{n:Nat}{K:Frag}
theorem KB{o:Expr}{a:Str}{env:Env}{whole:Sem Value}(h:GS o=false):attributeBase o a env whole=whole:=by
 cases o with
 | Call f args kws p =>
  cases f with
  | Name x q =>
   cases args with
   | nil=>cases kws with
    | nil=>exact nomatch h
    | cons=>rfl
   | cons=>rfl
  | _=>rfl
 | _=>rfl
theorem Ky{a:Str}{f:Nat}(h:NJ a=some f):a=CY f:=by unfold NJ at h;obtain⟨hlt,hp,_⟩:=List.findIdx?_eq_some_iff_getElem.mp h;have:=beq_iff_eq.mp hp;unfold CY;rw[← this,List.getD_eq_getElem?_getD,List.getElem?_eq_getElem hlt];rfl
theorem J2{sc:List (Str×NameKind)}{μ:AG}{st:St}{x:Expr}{f:Str}{pos:Pos}{r:V×St}{P:Prop}(e:ev CT C μ st (Ao N sc (.Attribute x f pos))=some r)(h:∀ k,NJ f=some k→GS x=false→ev CT C μ st (.attr (Ao N sc x) k)=some r→P):P:=by
 have e:ev CT C μ st (YA (NJ f) (GS x) (Ao N sc x))=some r:=e;generalize NJ f=o at e h;generalize GS x=b at e h;cases o with
 | none=>exact AI e
 | some k=>cases b with
  | true=>exact AI e
  | false=>exact h k rfl rfl e
theorem IL{x:Expr}{f:Str}{pos:Pos}(X:K.In B)(hCT:∀ C cl,CT C=some cl→ClsOk K C cl)(h:AF prog w B N CT C n x):AF prog w B N CT C n (.Attribute x f pos):=by
 intro A env sc μ c s v st' Q E hA a hs e y;refine J2 e fun k q1 q2 e=>?_;rfl';refine Aw e fun va s1 e1 e=>?_;refine MZ e fun v' e2 z=>?_;refine Kz z fun z1 z2=>?_;subst z1 z2;refine Attribute_any_ ?_ (by rw[arm_eval_Attribute,KB q2])
 refine h A env sc μ c s va _ _ E hA a hs e1 fun c1 tk1 ra p1 q3 r1=>?_;subst q3;rw[Ky q1];exact H9 X hCT p1.sim rfl e2 r1 (y.next p1)
theorem HP{env:Env}{pos:Pos}{sc:List (Str×NameKind)}{μ:AG}:∀{es:List Expr} {st:St} {r:List V×St},evs CT C μ st (trEs N sc es)=some r→starEach es env=es.map (fun e=>(false,eval e env))∧backTo pos (starEach es env)=es.map (fun e=>(false,eval e env))
 | [],_,_,_=>⟨rfl,rfl⟩
 | x::es,st,r,e=>by
  refine EK (AO e) fun vx s1 e1 e=>?_;refine EK (AO e) fun vr s2 e2 e=>?_;obtain⟨h1,h2⟩:=HP (env:=env) (pos:=pos) e2;have hst:starEach (x::es) env=(false,eval x env)::starEach es env:=by cases x<;>first | rfl | (have e1':ev CT C μ st .stuck=some (vx,s1):=e1;cases e1')
  constructor
  ·rw[hst,h1];rfl
  ·rw[hst];show(false,eval x env)::backTo pos (starEach es env)=_;rw[h2];rfl
theorem CK{P:Heap→Prop}{f:Value}{first:List Value}{es:List Expr}{env:Env}{pos:Pos}{A:Around}{sc:List (Str×NameKind)}{μ:AG}{c:Cfg}{s:Shared}{vs:List V}{st':St}{Q:Value→Shared→Prop}{E:Value→Shared→Prop}
  (hk:∀ h,P h→∃ k,(k=Keeper.frame∨k=Keeper.machine∨k=Keeper.boundFrame)∧Looks (model prog w) h (keeperOf f) k) (h:BH prog w B N CT C n es) (hA:AOk n A) (a:At (prog,w) B env sc μ c) (hs:s.heap=c.h) (e:evs CT C μ c.st (trEs N sc es)=some (vs,st'))
  (y:∀ c' tk rs,Post (prog,w) B no c c'→c'.st=st'→c'.Rs vs rs→P c'.h∧wpAny (model prog w) A (call f (first++rs)) Q E { s with heap:=c'.h,toks:=tk }) :
  wpAny (model prog w) A (callWith pos f first (backTo pos (starEach es env)) []) Q E s:=by
 refine J1 (HP (env:=env) (pos:=pos) e) fun h1 h2=>?_;have hplain:((backTo pos (starEach es env)).any (·.1)||([]:List (Option Str×Sem Value)).any (·.1.isNone))=false:=by rw[h2];simp
 refine callWith_of hplain hk ?_;cases es with
 | nil=>cases e;have z:=y c s.toks [] (Post.refl a.sim) rfl rfl;rw[← hs] at z;exact evalArgs_nil3 z
 | cons x r =>
  have hst:backTo pos (starEach (x::r) env)=(false,eval x env)::r.map (fun e=>(false,eval e env)):=h2;have g:wpAny (model prog w) A (spliced (backTo pos (starEach (x::r) env))) (fun rs s₁=>P s₁.heap∧wpAny (model prog w) A (call f (first++rs)) Q E s₁) E s:=h A env sc μ c s vs st' _ E pos hA a hs e fun c' tk rs p q z=>y c' tk rs p q z
  rw[hst] at g ⊢;exact evalArgs_plain g
theorem Bz{f:Value}(hf:∀ a,f≠.ref a)(h:Heap)(_:True):∃ k,(k=Keeper.frame∨k=Keeper.machine∨k=Keeper.boundFrame)∧Looks (model prog w) h (keeperOf f) k:=by refine⟨.machine,.inr (.inl rfl),?_⟩;cases (f)<;>first | exact .now | exact absurd rfl (hf _)
theorem Ov{g:Nat}{es:List Expr}{env:Env}{pos:Pos}{A:Around}{sc:List (Str×NameKind)}{μ:AG}{c:Cfg}{s:Shared}{vs:List V}{s1 st':St}{v:V}{Q:Value→Shared→Prop}{E:Value→Shared→Prop}
  {first:List V} {rf:List Value} (X:K.In B) (hC:DI prog w B C n) (hkeep:∀ a vs st r,C a vs st=some r→keepIn K (.ref a)=true) (h:BH prog w B N CT C n es) (hA:AOk n A) (a:At (prog,w) B env sc μ c) (hs:s.heap=c.h)
  (e1:evs CT C μ c.st (trEs N sc es)=some (vs,s1)) (hf:c.Rs first rf) (e2:C g (first++vs) s1=some (v,st')) (y:A6 (prog,w) B c v st' Q s) :
  wpAny (model prog w) A (callWith pos (.ref g) rf (backTo pos (starEach es env)) []) Q E s:=by
 refine CK (P:=K.In) (keeps_K (hkeep _ _ _ _ e2)) h hA a hs e1 fun c' tk rs p q r=>⟨p.sim.inn X,?_⟩;rfl';subst q;exact wpAny_call (hC A c' _ g _ _ v st' _ hA.c p.sim rfl (VRels.append (p.rels (fun _ z=>z.elim) hf) r) e2 (y.next p))
theorem Dr{b:Bool}{v r:V}(e:Eb b v=some r):b=true∧r=v:=by
 cases b with
 | true=>exact⟨rfl,(Option.some.inj e).symm⟩
 | false=>cases e
theorem VO{k:Nat}(h:Nat.ble k Cs=true):(k:Int)<2 ^ 63:=by have:=Nat.le_of_ble_eq_true h;have e:Cs=100000:=rfl;omega
theorem UG{b:BI}{vs:List V}{st:St}{v:V}(e:FO b vs st=some v):∃ a,vs=[a]:=by
 cases vs with
 | nil=>exact AI e
 | cons a r=>cases r with
  | nil=>exact⟨a,rfl⟩
  | cons=>exact AI e
theorem Uc{a:V}{st:St}{v:V}{P:Prop}(e:FO .len [a] st=some v)(h1:∀ s,a=.str s→Eb (Nat.ble s.length Cs) (.int s.length)=some v→P)(h2:∀ xs,items st a=some xs→Eb (Nat.ble xs.length Cs) (.int xs.length)=some v→P):P:=by
 have key:(match items st a with | some xs=>Eb (Nat.ble xs.length Cs) (.int xs.length) | none=>none)=some v→P:=fun e=>by
  generalize items st a=o at e h2;cases o with
  | none=>exact AI e
  | some xs=>exact h2 xs rfl e
 cases a with
 | str s=>exact h1 s rfl e
 | _=>exact key e
theorem Pn{b:BI}{vs:List V}{rvs:List Value}{A:Around}{c:Cfg}{s:Shared}{v:V}{Q:Value→Shared→Prop}{E:Value→Shared→Prop}(sim:Sim (prog,w) B c)(hs:s.heap=c.h)(e:FO b vs c.st=some v)(x:c.Rs vs rvs)(y:A6 (prog,w) B c v c.st Q s) :
  wpAny (model prog w) A (call (Oq b) rvs) Q E s:=by
 have now1:∀{tk:Nat} {rv:Value},c.R v rv→Q rv { s with toks:=tk }:=fun r=>y.now sim hs r
 obtain⟨a,rfl⟩:=UG e;obtain⟨ra,_,rfl,xa,z⟩:=x;cases show _=_ from z
 cases b with
 | len =>
  refine Uc e (fun t z hg=>?_) (fun xs q hg=>?_)
  ·subst z;obtain⟨t',rfl⟩:=xa;obtain⟨hb,rfl⟩:=Dr hg;have hl:(AR t).length=t.length:=Df t;exact P.len_str (by rw[hl];have:=VO hb;exact p83 this) (now1 ⟨_,by rw[hl]⟩)
  ·obtain⟨hb,rfl⟩:=Dr hg;obtain⟨l,rs,rfl,h1,h2⟩:=MK sim q xa;have hz:(rs.toArray.size:Int)=xs.length:=by rw[List.size_toArray,VRels.len h2]
   have hb:=VO hb;rcases h1 with h1 | h1
   ·exact PyProof.Rows.len_list (hs▸h1) (by exact p24 hz hb) (now1 ⟨_,by rw[hz]⟩)
   ·exact PyProof.Rows.len_tuple (hs▸h1) (by exact p24 hz hb) (now1 ⟨_,by rw[hz]⟩)
 | ord =>
  cases a with
  | str t=>cases t with
   | nil=>exact AI e
   | cons c t=>cases t with
    | cons=>exact AI e
    | nil=>obtain⟨t',rfl⟩:=xa;refine B8 e fun z=>?_;subst z;exact P.ord_of_char (now1 ⟨_,rfl⟩)
  | _=>exact AI e
 | chr =>
  cases a with
  | int i=>obtain⟨t,rfl⟩:=xa;obtain⟨hg,rfl⟩:=Dr e;refine Ci hg fun q1 q2=>?_;exact P.chr_of_int (by have q1:=of_decide_eq_true q1;have q2:=of_decide_eq_true q2;simp;exact p72 q1 q2) (now1 ⟨_,rfl⟩)
  | _=>exact AI e
 | str =>
  cases a with
  | int i =>
   obtain⟨t,rfl⟩:=xa;obtain⟨hg,rfl⟩:=Dr e;refine Ci hg fun q1 q2=>?_;have q1:=of_decide_eq_true q1;have q2:=of_decide_eq_true q2;refine str_of_int_fit (prog:=prog) (w:=w) (N:=4611686018427387904) (by split<;>omega) (by exact cK) fun _=>now1 ⟨s.toks,?_⟩
   show Value.str (Str.ofString _) _=.str (AR (Str.ofString _).cps.toList) _;simp [AR]
  | _=>exact AI e
 | int =>
  cases a with
  | int i=>obtain⟨t,rfl⟩:=xa;refine B8 e fun z=>?_;subst z;exact call_int_int (y.now' sim hs ⟨_,rfl⟩)
  | _=>exact AI e
 | abs =>
  cases a with
  | int i =>
   obtain⟨t,rfl⟩:=xa;refine B8 e fun z=>?_;subst z;refine call_abs_int fun u tk=>now1 ⟨u,?_⟩
   congr 1
   split<;>rename_i q
   ·rw[decide_eq_true q]
   ·rw[decide_eq_false q]
  | _=>exact AI e
end
end SSoundJ
section SSoundK
open PySem PySem.W PySem.Calls PyProof.Rows PySem.SeqAt
noncomputable def XI:Nat→String
 | 0=>"list.append"
 | 1=>"list.extend"
 | 2=>"dict.get"
 | 3=>"str.find"
 | 4=>"str.join"
 | 5=>"str.split"
 | _=>"str.strip"
theorem FS(o:Obj)(f):(o.mapSeq f).dict=o.dict:=by obtain⟨c,d,dt,sl⟩:=o;cases (dt)<;>rfl
section
variable {prog:Program}{w:World}{A:Around}{E:Value→Shared→Prop}{s:Shared}
theorem Ro{l:Addr}{items:Array Value}{x:Value}{Q:Value→Shared→Prop}(hl:NN s.heap l items)
  (hQ:∀ h',NN h' l (items.push x)→Heap.SameBut l s.heap h'→Q .none { s with heap:=h' }) (hsz:items.size≤sizeLine) :
  wpAny (model prog w) A (call (.builtin "list.append") [.ref l,x]) Q E s:=by
 rfl';obtain⟨o,ho,hc,⟨n,hd⟩,hdd⟩:=id hl;obtain⟨n',hd'⟩:=Obj.data_mapSeq hd (·.push x);refine wpAny_call_entry F.slot_list_append hl.list.typeIs F.entry_list_append ?_ (F.args_list_append_2 _ _);show wpAny _ _ (updateSeq l (·.push x) >>= fun _=>ret .none) _ _ s;refine wpAny_bind ?_;refine wpAny_updateSeq ho hd (wpAny_pure ⟨.none,rfl,hQ _ ?_ (Heap.SameBut.update ..)⟩);exact VV _ (Heap.get?_update_self _ ho (Obj.isFreed_of_seq hd')) ((Obj.cls_mapSeq ..).trans hc) ⟨n',hd'⟩ ((FS ..).trans hdd)
open PySem.Builtin.Str in
theorem Uy{x y:Str}{t u:Tok}{Q:Value→Shared→Prop}(hy:(y.length==0)=false)
  (h:∀ l k,l.map (·.1)=Txt.split x y→Q (.ref s.heap.objs.size) { s with heap:=s.heap.push { cls:=.type "list",data:=.seq (strValues l).toArray },toks:=k })
  (hsz:x.length+2≤sizeLine):wpAny (model prog w) A (call (.builtin "str.split") [.str x t,.str y u]) Q E s:=by
 have hn:(partsBetween x (occurrences x y 0 x.length (x.length+1)) y.length).length≤sizeLine:=by have e1:=StrLaws.occ_length_le x y 0 x.length (x.length+1);rw[length_partsBetween];exact Z9 hsz e1
 rfl';cases h1:(decide (x.length<y.length)||decide (strKind x<strKind y))
 ·cases hf:(occurrences x y 0 x.length (x.length+1)).isEmpty
  ·refine call_meets F.slot_str_split (typeIs_str _ _ _) F.entry_str_split (F.args_str_split_2 _ _) (meets_str_split_sep x y t u h1 hy hf (by exact bC hsz) hn) ?_
   show wants Q E _ { s with toks:=_,heap:=s.heap.push { cls:=.type "list",data:=.seq (strsFrom s.toks (partsBetween x (occurrences x y 0 x.length (x.length+1)) y.length)).toArray } }
   rw[strsFrom_eq];exact h (numbered s.toks _) _ ((numbered_texts _ _).trans ((if_neg (ne_true_of_eq_false h1)).trans (if_neg (ne_true_of_eq_false hf))).symm)
  ·exact call_meets F.slot_str_split (typeIs_str _ _ _) F.entry_str_split (F.args_str_split_2 _ _) (meets_str_split_not_found x y t u h1 hy hf)
    (h [(x,t)] s.toks ((if_neg (ne_true_of_eq_false h1)).trans (if_pos hf)).symm)
 ·exact call_meets F.slot_str_split (typeIs_str _ _ _) F.entry_str_split (F.args_str_split_2 _ _) (meets_str_split_cannot_occur x y t u h1)
   (h [(x,t)] s.toks (if_pos h1).symm)
theorem PK{l:Addr}{items:Array Value}{Q:Array Value→Shared→Prop}(hl:s.heap.IsList l items)(h:Q items s):wpAny (model prog w) A (Builtin.List.listItems (.ref l)) Q E s:=by rfl';obtain⟨o,ho,hc,n,hd⟩:=hl;refine wpAny_bind (wpAny_bind (wpAny_load ho ?_));rw[hd];exact wpAny_pure (wpAny_pure h)
theorem S3{l b:Addr}{items its:Array Value}{Q:Value→Shared→Prop}(hl:NN s.heap l items)(hb:s.heap.IsList b its)
  (hQ:∀ h',NN h' l (items++its)→Heap.SameBut l s.heap h'→Q .none { s with heap:=h' }) (hsz:items.size+its.size≤sizeLine) :
  wpAny (model prog w) A (call (.builtin "list.extend") [.ref l,.ref b]) Q E s:=by
 rfl';obtain⟨o,ho,hc,⟨n,hd⟩,hdd⟩:=id hl;obtain⟨n',hd'⟩:=Obj.data_mapSeq hd (·++its);refine wpAny_call_entry F.slot_list_extend hl.list.typeIs F.entry_list_extend ?_ (F.args_list_extend_2 _ _);show wpAny _ _ (Builtin.List.listExtendWith (.ref l) (.ref b) .none) _ _ s;refine wpAny_bind (wpAny_typeOf hb.typeIs ?_);rw[if_pos (by simp)]
 refine wpAny_bind (PK hb (wpAny_bind (PK hl.list ?_)));rw[if_neg (by unfold Builtin.List.listTooLong;simp;exact p86 hsz)]
 refine wpAny_bind (m:=Builtin.List.listUpdate _ _) ?_;refine wpAny_updateSeq ho hd (wpAny_pure ⟨.none,rfl,hQ _ ?_ (Heap.SameBut.update ..)⟩) (by exact o73 hsz) (by rw[Array.size_append];exact ai hsz)
 exact VV _ (Heap.get?_update_self _ ho (Obj.isFreed_of_seq hd')) ((Obj.cls_mapSeq ..).trans hc) ⟨n',hd'⟩ ((FS ..).trans hdd)
end
section
variable {prog:Program}{w:World}{B:Heap}{N:Names}{CT:Nat→Option Cl}{C:AC}{n:Nat}{K:Frag}
theorem IG{A:Around}{f:Nat}{vr:V}{ra:Value}{c:Cfg}{s:Shared}{pl:Sem Bool}{Q:Value×List Value→Shared→Prop}{E:Value→Shared→Prop}(sim:Sim (prog,w) B c)(hs:s.heap=c.h)(e:EO c.st vr f=true)(x:c.R vr ra)
  (h:Q (.builtin (XI f),[ra]) s):wpAny (model prog w) A (getMethod ra (CY f) pl) Q E s:=by
 rfl';cases vr with
 | str t0 =>
  obtain⟨t,rfl⟩:=x;obtain⟨h3,h6⟩:=Bool.and_eq_true_iff.mp e;have h3:=Nat.le_of_ble_eq_true h3;have h6:=Nat.le_of_ble_eq_true h6;have:f=3∨f=4∨f=5∨f=6:=by exact p18 h3 h6
  rcases this with rfl | rfl | rfl | rfl
  ·exact GM.find h
  ·exact GM.join h
  ·exact GM.split h
  ·exact GM.strip h
 | ref i =>
  obtain⟨_,rfl⟩:=x;unfold EO at e;dsimp only at e;generalize q:c.st.get i=o at e;cases o with
  | none=>exact EE e
  | some o=>cases o with
   | inst=>exact EE e
   | list xs =>
    refine BA (sim.obj i _ q) fun rs h1 h2=>?_;have hl:NN s.heap (c.ρ i) rs.toArray:=hs▸h1;have h6:=Nat.le_of_ble_eq_true e;have:f=0∨f=1:=by exact p44 h6
    rcases this with rfl | rfl
    ·exact getMethod_list_of F.slot_list_append F.type_list_append hl.list hl.noDict h
    ·exact getMethod_list_of F.slot_list_extend F.type_list_extend hl.list hl.noDict h
   | dict ks vs=>refine FE (sim.obj i _ q) fun rs h1 h2 h3=>?_;have hd:s.heap.DictOf (strKind prog w) (c.ρ i) ((ks.map AR).zip rs):=hs▸h1;have:f=2:=Nat.eq_of_beq_eq_true e;subst this;exact getMethod_builtin hd.typeIs PySem.F.plainAttrs_dict PySem.F.slot_dict_get PySem.F.type_dict_get hd.mapOf.noDict h
 | _=>exact EE e
theorem Hp{b:Nat}:∀{xs ys:List V},refsLts b xs→refsLts b ys→refsLts b (xs++ys):=by
 intro q1_
 induction q1_ with
 | nil=>intro _ _ h;exact h
 | cons q2_ q3_ ih_=>intro _ h h';exact⟨h.1,ih_ h.2 h'⟩
theorem JQ{b:Nat}{xs:List V}{v:V}(h:refsLts b xs)(h':B6 b v):refsLts b (xs++[v]):=Hp h ⟨h',trivial⟩
theorem Td{c:Cfg}:∀{xs:List V} {ts:List Txt} {rs:List Value},Ew xs=some ts→c.Rs xs rs→∃ l:List (Str×Tok),rs=strValues l∧l.map (·.1)=ts.map AR:=by
 intro q1_
 induction q1_ with
 | nil=>intro ts rs e x;cases e;exact⟨[],by rw[show rs=[] from x];rfl,rfl⟩
 | cons v xs ih_ =>
  rintro ts rs e ⟨r,rs',er,h1,h2⟩;rfl';subst er;cases v with
  | str t =>
   have e:(match Ew xs with | some l=>some (t::l) | none=>none)=some ts:=e
   generalize q:Ew xs=o at e;cases o with
   | none=>exact AI e
   | some l=>refine B8 e fun z=>?_;subst z;refine BA (ih_ q h2) fun l' g1 g2=>?_;obtain⟨tk,rfl⟩:=h1;exact⟨(AR t,tk)::l',by rw[g1];rfl,by rw[List.map_cons,List.map_cons,g2]⟩
  | _=>exact AI e
theorem LJ(s:Str):AR s.cps.toList=s:=by cases (s);simp [AR]
theorem Te{c:Cfg}:∀{l:List (Str×Tok)} {ts:List Str},l.map (·.1)=ts→c.Rs (ts.map fun x=>.str x.cps.toList) (strValues l):=by
 intro q1_
 induction q1_ with
 | nil=>intro ts e;cases e;rfl
 | cons p l ih_=>intro ts e;cases e;exact NL (.str p.1 p.2) (strValues l) rfl ⟨p.2,by dsimp only;rw[LJ]⟩ (ih_ rfl)
theorem Qr{s:Txt}{f:Nat}{vs:List V}{st:St}{r:V×St}{P:Prop}(e:PP s f vs st=some r)
  (h6:vs=[]→f=6→Nat.ble s.length Cs=true→(V.str (Txt.strip (AR s)).cps.toList,st)=r→P)
  (h4:∀ a xs ts,vs=[a]→f=4→AD st a=some xs→Ew xs=some ts→JoinOk (AR s) (ts.map AR)=true→(V.str (Txt.join (AR s) (ts.map AR)).cps.toList,st)=r→P)
  (h3:∀ k,vs=[.str [k]]→f=3→(V.int (Txt.find (AR s) (AR [k])),st)=r→P)
  (h5:∀ k,vs=[.str [k]]→f=5→Nat.ble s.length Cs=true→(V.lst ((H5 s k).map fun x=>.str x.cps.toList),st)=r→P):P:=by
 cases vs with
 | nil=>obtain⟨g,e⟩:=AX e;exact Ci g fun g1 g2=>h6 rfl (Nat.eq_of_beq_eq_true g1) g2 (Option.some.inj e)
 | cons a t=>cases t with
  | cons=>exact AI e
  | nil =>
   unfold PP at e;dsimp only at e;generalize q:Nat.beq f 4=b at e;cases b with
   | true =>
    dsimp only at e;generalize q1:AD st a=o at e;cases o with
    | none=>exact AI e
    | some xs =>
     dsimp only at e;rfl';generalize q2:Ew xs=o at e;cases o with
     | none=>exact AI e
     | some ts=>obtain⟨g,e⟩:=AX e;exact h4 a xs ts rfl (Nat.eq_of_beq_eq_true q) q1 q2 g (Option.some.inj e)
   | false=>cases a with
    | str t=>cases t with
     | nil=>exact AI e
     | cons k t=>cases t with
      | cons=>exact AI e
      | nil =>
       dsimp only at e;generalize q:Nat.beq f 3=b at e;cases b with
       | true=>exact h3 k rfl (Nat.eq_of_beq_eq_true q) (Option.some.inj e)
       | false=>obtain⟨g,e⟩:=AX e;exact Ci g fun g1 g2=>h5 k rfl (Nat.eq_of_beq_eq_true g1) g2 (Option.some.inj e)
    | _=>exact AI e
theorem Qq{i:Nat}{xs:List V}{f:Nat}{vs:List V}{st:St}{r:V×St}{P:Prop}(e:MO i xs f vs st=some r)
  (h0:∀ a,vs=[a]→f=0→st.wr i a=true→Nat.ble xs.length Cs=true→(V.none,st.put i (.list (xs++[a])))=r→P)
  (h1:∀ a ys,vs=[a]→f=1→AD st a=some ys→refFrees ys=true→Nat.ble st.ro i=true→Nat.ble (xs.length+ys.length) Cs=true→(V.none,st.put i (.list (xs++ys)))=r→P):P:=by
 cases vs with
 | nil=>exact AI e
 | cons a t=>cases t with
  | cons=>exact AI e
  | nil =>
   unfold MO at e;dsimp only at e;generalize q:Nat.beq f 0=b at e;cases b with
   | true=>obtain⟨g,e⟩:=AX e;exact Ci g fun g1 g2=>h0 a rfl (Nat.eq_of_beq_eq_true q) g1 g2 (Option.some.inj e)
   | false =>
    dsimp only at e;generalize q1:AD st a=o at e;cases o with
    | none=>exact AI e
    | some ys=>obtain⟨g,e⟩:=AX e;exact Ci g fun g1 g=>Ci g fun g2 g=>Ci g fun g3 g4=>h1 a ys rfl (Nat.eq_of_beq_eq_true g1) q1 g2 g3 g4 (Option.some.inj e)
theorem Qp{ks:List Txt}{ws:List V}{f:Nat}{vs:List V}{st:St}{r:V×St}{P:Prop}(e:PO ks ws f vs st=some r)
  (h1:∀ k,vs=[.str k]→f=2→((Aq ks ws k).getD .none,st)=r→P)
  (h2:∀ k d,vs=[.str k,d]→f=2→((Aq ks ws k).getD d,st)=r→P):P:=by
 cases vs with
 | nil=>exact AI e
 | cons a t=>cases a with
  | str k=>cases t with
   | nil=>obtain⟨g,e⟩:=AX e;exact h1 k rfl (Nat.eq_of_beq_eq_true g) (Option.some.inj e)
   | cons d t=>cases t with
    | cons=>exact AI e
    | nil=>obtain⟨g,e⟩:=AX e;exact h2 k d rfl (Nat.eq_of_beq_eq_true g) (Option.some.inj e)
  | _=>exact AI e
theorem We{c:Cfg}{a:V}{rvs:List Value}{P:Prop}(x:c.Rs [a] rvs)(k:∀ r,rvs=[r]→c.R a r→P):P:=by refine Dx x fun r l e h z=>?_;clear x;exact k r (e.trans (congrArg _ (show l=[] from z))) h
theorem T0{c:Cfg}{t:Txt}{r:Value}{P:Prop}(x:c.R (.str t) r)(k:∀ tk,r=.str (AR t) tk→P):P:=x.elim k
theorem A6.of'{P:PW}{c:Cfg}{v v0:V}{st' s0:St}{Q:Value→Shared→Prop}{s:Shared}(y:A6 P B c v st' Q s)(e:(v0,s0)=(v,st')):A6 P B c v0 s0 Q s:=by cases e;exact y
theorem MQ{A:Around}{f:Nat}{vs:List V}{rvs:List Value}{c:Cfg}{s:Shared}{v:V}{st':St}{Q:Value→Shared→Prop}{E:Value→Shared→Prop}(sim:Sim (prog,w) B c)(hs:s.heap=c.h)(t0:Txt)(t:Tok)(e:PP t0 f vs c.st=some (v,st'))
  (x:c.Rs vs rvs) (y:A6 (prog,w) B c v st' Q s):wpAny (model prog w) A (call (.builtin (XI f)) (.str (AR t0) t::rvs)) Q E s:=by
 refine Qr e (fun z1 z2 g z=>?_) (fun a xs ts z1 z2 q1 q2 g z=>?_) (fun k z1 z2 z=>?_) (fun k z1 z2 g z=>?_)<;>rw[z1] at x<;>rw[z2]<;>have y:=y.of' z
 ·rw[show rvs=[] from x]
  refine SC.strip (fun t' k=>y.now sim hs ⟨t',by rw[LJ]⟩) ?_
  exact Nat.le_trans (Nat.le_of_ble_eq_true g) DO
 ·refine We x fun r1 er x1=>?_;refine Dx (Be sim q1 x1) fun l rs e1 h1 h2=>?_;refine BA (Td q2 h2) fun ll e2 h3=>?_;rw[er,e1];rw[e2,← hs] at h1;exact SC.join h1 h3 g fun t' k=>y.now sim hs ⟨t',by rw[LJ]⟩
 ·refine We x fun r1 er x1=>T0 x1 fun _ es=>?_;rw[er,es];exact SC.find (y.now sim hs ⟨_,rfl⟩)
 ·refine We x fun r1 er x1=>T0 x1 fun _ es=>?_;rw[er,es];have hl2:Cs+2≤sizeLine:=by decide +kernel
  exact Uy rfl (fun l k hm=>y.lst sim hs (rs:=strValues l) (Te hm) (o:={ cls:=.type "list",data:=.seq (strValues l).toArray }) rfl rfl (tk:=k)) (by rw[Df];exact aB (Nat.le_of_ble_eq_true g) hl2)
theorem MP{A:Around}{f:Nat}{vs:List V}{rvs:List Value}{c:Cfg}{s:Shared}{v:V}{st':St}{Q:Value→Shared→Prop}{E:Value→Shared→Prop}(sim:Sim (prog,w) B c)(hs:s.heap=c.h){i:Nat}{xs:List V}{rs:List Value}(q:c.st.get i=some (.list xs))(h1:NN c.h (c.ρ i) rs.toArray)(h2:c.Rs xs rs)(e:MO i xs f vs c.st=some (v,st'))
  (x:c.Rs vs rvs) (y:A6 (prog,w) B c v st' Q s):wpAny (model prog w) A (call (.builtin (XI f)) (.ref (c.ρ i)::rvs)) Q E s:=by
 rw[← hs] at h1;refine Qq e (fun x0 z1 z2 g1 g2 z=>?_) (fun a ys z1 z2 q1 g1 g2 g3 z=>?_)<;>rw[z1] at x<;>rw[z2]<;>have y:=y.of' z<;>refine We x fun r1 er x1=>?_<;>rw[er]
 ·refine J1 (L1 g1) fun w1 w2=>?_;refine Ro h1 (fun h' hl hsb=>?_) ?_
  ·rw[hs] at hsb;rw[List.push_toArray] at hl;exact y _ s.toks _ (sim.put (o:=.list (xs++[x0])) (h':=h') q Iff.rfl (fun b ob nb e=>(hsb.2 b (fun z=>nb (.inl z))).trans e)
    ⟨_,hl,VRels.append h2 (VRels.one x1)⟩ w1 (fun b hb hlo hold=>JQ hold (w2.elim (fun z=>absurd (Nat.lt_of_lt_of_le hb hlo) (Nat.not_lt.mpr z)) (Bq _)))) rfl rfl
  ·rw[List.size_toArray,VRels.len h2];exact Nat.le_trans (Nat.le_of_ble_eq_true g2) DO
 ·refine Dx (Be sim q1 x1) fun l rs' e1 h3 h4=>?_;rw[← hs] at h3;rw[e1];refine S3 h1 h3 (fun h' hl hsb=>?_) ?_
  ·rw[hs] at hsb;rw[List.append_toArray] at hl;exact y _ s.toks _ (sim.put (o:=.list (xs++ys)) (h':=h') q Iff.rfl (fun b ob nb e=>(hsb.2 b (fun z=>nb (.inl z))).trans e)
    ⟨_,hl,VRels.append h2 h4⟩ (Nat.le_of_ble_eq_true g2) (fun b hb hlo hold=>Hp hold (II _ g1))) rfl rfl
  ·rw[List.size_toArray,List.size_toArray,VRels.len h2,VRels.len h4];exact Nat.le_trans (Nat.le_of_ble_eq_true g3) DO
theorem ME{c:Cfg}{ks:List Txt}{ws:List V}{rs:List Value}(h2:ks.length=ws.length)(h3:c.Rs ws rs)(k:Txt){d:V}{rd:Value}(hd:c.R d rd):c.R ((Aq ks ws k).getD d) ((valueAt ((ks.map AR).zip rs) (AR k)).getD rd):=by
 generalize z:Aq ks ws k=o;cases o with
 | none=>rw[QE (c:=c) h2 h3 z];exact hd
 | some r0=>refine BA (Gd (c:=c) h2 h3 z) fun r z1 z2=>?_;rw[z1];exact z2
theorem MN{A:Around}{f:Nat}{vs:List V}{rvs:List Value}{c:Cfg}{s:Shared}{v:V}{st':St}{Q:Value→Shared→Prop}{E:Value→Shared→Prop}(sim:Sim (prog,w) B c)(hs:s.heap=c.h)(hg:DV B){i:Nat}{ks:List Txt}{ws:List V}{rs:List Value}(q:c.st.get i=some (.dict ks ws))(h1:c.h.DictOf (strKind prog w) (c.ρ i) ((ks.map AR).zip rs))(h2:ks.length=ws.length)(h3:c.Rs ws rs)(e:PO ks ws f vs c.st=some (v,st'))
  (x:c.Rs vs rvs) (y:A6 (prog,w) B c v st' Q s):wpAny (model prog w) A (call (.builtin (XI f)) (.ref (c.ρ i)::rvs)) Q E s:=by
 rw[← hs] at h1;refine Qp e (fun k0 z1 z2 z=>?_) (fun k0 d0 z1 z2 z=>?_)<;>rw[z1] at x<;>rw[z2]<;>have y:=y.of' z
 ·refine We x fun r1 er x1=>T0 x1 fun _ es=>?_;rw[er,es];refine call_meetsIn PySem.F.slot_dict_get h1.typeIs PySem.F.entry_dict_get (PySem.F.args_dict_get_2 _ _) (meets_dict_get (strKind prog w) _ (strKind_is _ _ _ _) (CA hg sim q)) ⟨_,h1.mapOf,?_⟩;have l:=ME h2 h3 k0 (d:=.none) (rd:=.none) rfl;generalize valueAt ((ks.map AR).zip rs) (AR k0)=o at l;cases (o)<;>exact y.now sim hs l
 ·refine Dx x fun r1 l0 e1 x1 x2=>?_;clear x;refine We x2 fun r2 er x2=>T0 x1 fun _ es=>?_;rw[e1,er,es];refine call_meetsIn PySem.F.slot_dict_get h1.typeIs PySem.F.entry_dict_get (PySem.F.args_dict_get_3 _ _ _) (meets_dict_get_default (strKind prog w) _ (strKind_is _ _ _ _) (CA hg sim q) _) ⟨_,h1.mapOf,?_⟩;have l:=ME h2 h3 k0 x2;generalize valueAt ((ks.map AR).zip rs) (AR k0)=o at l;cases (o)<;>exact y.now sim hs l
theorem MR{A:Around}{f:Nat}{vr:V}{vs:List V}{ra:Value}{rvs:List Value}{c:Cfg}{s:Shared}{v:V}{st':St}{Q:Value→Shared→Prop}{E:Value→Shared→Prop}(sim:Sim (prog,w) B c)(hs:s.heap=c.h)(hg:DV B)(e:BS vr f vs c.st=some (v,st'))
  (xa:c.R vr ra) (x:c.Rs vs rvs) (y:A6 (prog,w) B c v st' Q s):wpAny (model prog w) A (call (.builtin (XI f)) (ra::rvs)) Q E s:=by
 cases vr with
 | str t0=>refine T0 xa fun t es=>?_;rw[es];exact MQ sim hs t0 t e x y
 | ref i =>
  obtain⟨_,xa⟩:=xa;rw[xa];have e:(match c.st.get i with
   | some o=>match o with
    | .list xs=>MO i xs f vs c.st
    | .dict ks ws=>PO ks ws f vs c.st
    | .inst ..=>none
   | none=>none)=some (v,st'):=e
  rfl';generalize q:c.st.get i=o at e;cases o with
  | none=>exact AI e
  | some o=>cases o with
   | inst=>exact AI e
   | list xs=>refine BA (sim.obj i _ q) fun rs h1 h2=>?_;exact MP sim hs q h1 h2 e x y
   | dict ks ws=>refine FE (sim.obj i _ q) fun rs h1 h2 h3=>?_;exact MN sim hs hg q h1 h2 h3 e x y
 | _=>exact AI e
end
end SSoundK
section SSoundL
open PySem PySem.W PySem.Calls PyProof.Rows PySem.SeqAt
structure CutOf(st₂ st₃:St)(n₀:Nat):Prop where
 next:st₃.next=n₀
 le:n₀≤st₂.next
 get:∀ i,i<n₀→st₃.get i=st₂.get i
 lo:st₃.lo≤n₀
 ro:st₃.ro≤n₀
theorem SQ{st:St}{n₀ lo ro:Nat}(h:n₀≤st.next)(hl:lo≤n₀)(hr:ro≤n₀):CutOf st (st.cut n₀ lo ro) n₀:=by
 refine⟨?_,h,fun i hi=>?_,hl,hr⟩
 ·show(st.objs.take n₀).length=n₀;rw[List.length_take];exact Nat.min_eq_left h
 ·show((st.objs.take n₀)[i]?).join=(st.objs[i]?).join;rw[List.getElem?_take,if_pos hi]
section
variable {P:PW}{B:Heap}{c c₁ c₂:Cfg}
theorem Hx.cut{h:Heap}{own:Addr→Prop}{ρ δ:Nat→Addr}{n n₀ i:Nat}{o:O}(r:L5 n₀ o)(x:Hx P h own ρ δ n i o):Hx P h own ρ δ n₀ i o:=by
 cases o with
 | list xs=>refine BA x fun rs h1 h2=>?_;clear x;exact Ft rs h1 (VRels.cut _ _ r h2)
 | dict ks vs=>refine FE x fun rs h1 h2 h3=>?_;clear x;exact Pf rs h1 h2 (VRels.cut _ _ r h3)
 | inst C ks vs=>refine Pe x fun rs h1 h2 h4 h5=>?_;clear x;exact VV rs h1 h2 h4 (VRels.cut _ _ r h5)
theorem Hx.refs{h:Heap}{own:Addr→Prop}{ρ δ:Nat→Addr}{n i:Nat}{o:O}(x:Hx P h own ρ δ n i o):L5 n o:=by
 cases o with
 | list xs=>refine BA x fun rs h1 h2=>?_;clear x;exact VRels.lt _ _ h2
 | dict ks vs=>refine FE x fun rs h1 h2 h3=>?_;clear x;exact VRels.lt _ _ h3
 | inst C ks vs=>refine Pe x fun rs h1 h2 h4 h5=>?_;clear x;exact VRels.lt _ _ h5
theorem Sim.oldNow(s:Sim P B c):DS c.st.next c.st:=fun i o _ e=>(s.obj i o e).refs
theorem Hf{st₃:St}{n₀:Nat}(k:CutOf c.st st₃ n₀):∀ b,Cfg.F { c with st:=st₃ } b→c.F b:=fun b ⟨i,o,e,f⟩=>by have hi:i<n₀:=k.next▸St.get_lt e;exact Tx i o ((k.get i hi).symm.trans e) f
theorem Nc{st₃:St}{n₀:Nat}(k:CutOf c.st st₃ n₀):∀ b o,¬ c.own b→c.h.get? b=some o→c.h.get? b=some o∧¬ Cfg.own { c with st:=st₃ } b:=fun b o hb e =>
 ⟨e,fun f=>hb (f.elim .inl fun f=>.inr (Hf k b f))⟩
theorem Sim.cut(s:Sim P B c){st₃:St}{n₀:Nat}(k:CutOf c.st st₃ n₀)(ho:DS n₀ c.st):Sim P B { c with st:=st₃ }:=by
 have hg:∀ i o,st₃.get i=some o→i<n₀∧c.st.get i=some o:=fun i o e=>by have hi:i<n₀:=k.next▸St.get_lt e;exact⟨hi,(k.get i hi).symm.trans e⟩
 refine⟨fun b o e=>?_,fun i o e=>?_,fun i j o o' a e e' f f'=>s.inj i j o o' a (hg i o e).2 (hg j o' e').2 f f',fun i o e=>s.two i o (hg i o e).2,s.frat,fun a f F=>s.disj a f (Hf k a F),?_,?_,fun a f=>s.above a (f.elim .inl fun f=>.inr (Hf k a f))⟩
 ·have q:=s.base b o e;exact Nc k b o q.2 q.1
 ·obtain⟨hi,e'⟩:=hg i o e;have x:=(s.obj i o e').cut (ho i o hi e');rw[k.next];exact x.mono (Nc k) (fun _ _=>rfl) (Nat.le_refl _) (fun _ _ _ z=>z) rfl rfl
 ·show st₃.lo≤st₃.next;rw[k.next];exact k.lo
 ·show st₃.ro≤st₃.next;rw[k.next];exact k.ro
theorem YH{α:Type}{P:Prop}{o:Option O}{F:List V→Option α}{G:Nat→List Nat→List V→Option α}{r:α}(e:(match o with | some (.list xs)=>F xs | some (.inst c ks vs)=>G c ks vs | _=>none)=some r)(h1:∀ xs,o=some (.list xs)→F xs=some r→P)(h2:∀ c ks vs,o=some (.inst c ks vs)→G c ks vs=some r→P):P:=by
 cases o with
 | none=>exact AI e
 | some o=>cases o with
  | list xs=>exact h1 xs rfl e
  | inst c ks vs=>exact h2 c ks vs rfl e
  | _=>exact AI e
theorem vvE{α:Type}{P:Prop}{o:Option V}{o':Option (List V)}{F:V→List V→Option α}{r:α}(e:(match o,o' with | some a,some b=>F a b | _,_=>none)=some r)(k:∀ a b,o=some a→o'=some b→F a b=some r→P):P:=by
 cases o with
 | none=>exact AI e
 | some a=>cases o' with
  | none=>exact AI e
  | some b=>exact k a b rfl rfl e
theorem Sv{α β:Type}{P:Prop}{o:Option α}{f:α→β}{r:β}(e:o.map f=some r)(k:∀ a,o=some a→r=f a→P):P:=let ⟨a,h,z⟩:=Option.map_eq_some_iff.mp e;k a h z.symm
theorem clE{α:Type}{P:Prop}{o:Option Cl}{F:Cl→Option α}{r:α}(e:(match o with | none=>none | some c=>F c)=some r)(k:∀ c,o=some c→F c=some r→P):P:=by
 cases o with
 | none=>exact AI e
 | some c=>exact k c rfl e
theorem Nu(s:Sim P B c){st₃:St}{n₀:Nat}(k:CutOf c.st st₃ n₀):∀ m,(∀ v v' rv,Fv c.st.objs n₀ m v=some v'→c.R v rv→Cfg.R { c with st:=st₃ } v' rv)∧(∀ vs vs' rs,frzs c.st.objs n₀ m vs=some vs'→c.Rs vs rs→Cfg.Rs { c with st:=st₃ } vs' rs∧vs'.length=vs.length):=by
 have up:∀ v rv,B6 n₀ v→c.R v rv→Cfg.R { c with st:=st₃ } v rv:=fun v rv r x=>by have:=BM.mono (Nc k) (fun _ _=>rfl) (Nat.le_refl n₀) v rv (BM.cut v rv r x);show BM _ _ _ st₃.next _ _;rw[k.next];exact this
 have nown:∀ i o a,c.st.get i=some o→¬ i<n₀→c.Foot i o a→¬ Cfg.own { c with st:=st₃ } a:=fun i o a e hi f g=>by
  rfl';rcases g with g | ⟨j,o',e',f'⟩
  ·exact s.disj a g ⟨i,o,e,f⟩
  ·have hj:j<n₀:=k.next▸St.get_lt e';have:=s.inj i j o o' a e ((k.get j hj).symm.trans e') f f';exact hi (this▸hj)
 intro m
 induction m with
 | zero=>exact⟨fun v v' rv e=>AI e,fun vs vs' rs e=>AI e⟩
 | succ m ih =>
  refine⟨fun v v' rv e x=>?_,fun vs vs' rs e x=>?_⟩
  ·refine bT (b:=AN v) e (fun e q=>B8 e fun z=>?_) (fun e q=>?_)
   ·rw[z];exact up v rv (Bq v q) x
   ·clear q;cases v with
    | ref i =>
     refine bT (b:=Nat.blt i n₀) e (fun e q=>B8 e fun z=>?_) (fun e q=>?_)
     ·rw[z];exact up _ rv (Nat.blt_eq▸q:i<n₀) x
     ·have hi:¬ i<n₀:=fun z=>by rw[show Nat.blt i n₀=true from Nat.blt_eq▸z] at q;exact EE q.symm
      refine YH e (fun xs g e=>Sv e fun xs' e' z=>?_) (fun C ks vs g e=>Sv e fun xs' e' z=>?_)
      ·rw[z];have g:c.st.get i=some (.list xs):=g;refine BA (s.obj i _ g) fun rs h1 h2=>?_;exact NF _ rs x.2 (nown i _ _ g hi (.inl rfl)) h1.list ((ih.2 _ _ _ e' h2).1)
      ·rw[z];have g:c.st.get i=some (.inst C ks vs):=g;refine Pe (s.obj i _ g) fun rs h1 h2 h3 h4=>?_;have z:=ih.2 _ _ _ e' h4;exact Xu _ _ rs x.2 (nown i _ _ g hi (.inl rfl)) h1 (nown i _ _ g hi (.inr ⟨trivial,rfl⟩)) h2 (h3.trans z.2.symm) z.1
    | tup xs=>refine Sv e fun xs' e' z=>?_;rw[z];obtain⟨a,rs,h0,h1,h2,h3⟩:=x;exact NF a rs h0 (fun g=>h1 (g.elim .inl fun f=>.inr (Hf k a f))) h2 ((ih.2 _ _ _ e' h3).1)
    | lst xs=>refine Sv e fun xs' e' z=>?_;rw[z];obtain⟨a,rs,h0,h1,h2,h3⟩:=x;exact NF a rs h0 (fun g=>h1 (g.elim .inl fun f=>.inr (Hf k a f))) h2 ((ih.2 _ _ _ e' h3).1)
    | obj C ks vs=>refine Sv e fun xs' e' z=>?_;rw[z];refine X8 x fun a dx rs h0 h1 h2 h3 h4 h5 h6=>?_;clear x;have z:=ih.2 _ _ _ e' h6;exact Xu a dx rs h0 (fun g=>h1 (g.elim .inl fun f=>.inr (Hf k a f))) h2 (fun g=>h3 (g.elim .inl fun f=>.inr (Hf k dx f))) h4 (h5.trans z.2.symm) z.1
    | _=>exact AI e
  ·cases vs with
   | nil=>exact B8 e fun z=>(by rw[z];exact⟨x,rfl⟩)
   | cons v vs=>refine vvE e fun a b q1 q2 e=>B8 e fun z=>?_;rw[z];refine Dx x fun r rs' h0 h1 h2=>?_;clear x;have z:=ih.2 _ _ _ q2 h2;exact⟨⟨r,rs',h0,ih.1 _ _ _ q1 h1,z.1⟩,congrArg (·+1) z.2⟩
theorem Post.cutBack(s:Sim P B c)(keep0:∀ b o,c.h.get? b=some o→c₁.h.get? b=some o)(hF:∀ b,c₁.F b→c.F b∨c.h.get? b=none)(hfr:c₁.fr=c.fr)
  (ha:∀ i,i<c.st.next→c₁.ρ i=c.ρ i∧c₁.δ i=c.δ i) (hn:c.st.next≤c₁.st.next) (p:Post P B no c₁ c₂) {st₃:St} (k:CutOf c₂.st st₃ c.st.next) (ho:DS c.st.next c₂.st) (lo:st₃.lo=c.st.lo) (ro:st₃.ro=c.st.ro)
  (old:∀ b,b≤c.st.lo→DS b c.st→DS b st₃) (req:∀ i,i<c.st.ro→st₃.get i=c.st.get i) (rk:∀ i,i<c.st.ro→i<c₁.st.ro∧c₁.st.get i=c.st.get i):Post P B no c { c₂ with st:=st₃ }:=by
 refine⟨p.sim.cut k ho,p.fr.trans hfr,fun b o f _ e=>?_,fun _ z=>z.elim,fun b f=>?_,fun i hi=>?_,Nat.le_of_eq k.next.symm,lo,ro,old,req,fun i o a ob hi e f h=>?_⟩
 ·exact p.keep b o (fun g=>(hF b g).elim f fun z=>AQ e z) (fun z=>z.elim) (keep0 b o e)
 ·rcases p.fp b (Hf k b f) with g | g
  ·exact hF b g
  ·right;cases e:c.h.get? b with
   | none=>rfl
   | some o=>exact AQ (keep0 b o e) g
 ·have q:=p.agree i (Nat.lt_of_lt_of_le hi hn);have q':=ha i hi;exact⟨q.1.trans q'.1,q.2.trans q'.2⟩
 ·obtain⟨r1,r2⟩:=rk i hi;refine p.rokeep i o a ob r1 (r2.trans e) ?_ (keep0 a ob h);have q':=ha i (St.get_lt e);unfold Cfg.Foot at f ⊢;rw[q'.1,q'.2];exact f
theorem Sim.marks(s:Sim P B c){lo ro:Nat}(hl:lo≤c.st.next)(hr:ro≤c.st.next):Sim P B { c with st:=⟨c.st.objs,lo,ro⟩ } :=
 ⟨s.base,s.obj,s.inj,s.two,s.frat,s.disj,hl,hr,s.above⟩
end
theorem KP{v:V}(h:isNone v=true):v=.none:=by
 cases v with
 | none=>rfl
 | _=>cases h
section
variable {prog:Program}{w:World}{B:Heap}{N:Names}{CT:Nat→Option Cl}{C:AC}{n:Nat}{K:Frag}
theorem HD{A:Around}{Cl:Addr}{rest:List Value}(a:AOk n A):COk n (A.under (.builtin "type.__call__" ⟨.ref Cl::rest,[]⟩)):=by
 have hw:Code.weight (.builtin "type.__call__" ⟨.ref Cl::rest,[]⟩)=1:=by
  have hf:Code.frames (.builtin "type.__call__" ⟨.ref Cl::rest,[]⟩)=0:=by kernel_rfl
  unfold Code.weight
  have:(Code.builtin "type.__call__" ⟨.ref Cl::rest,[]⟩).isGuard=false:=by kernel_rfl
  rfl
 have hu:Code.cUnits (.builtin "type.__call__" ⟨.ref Cl::rest,[]⟩)=1:=by kernel_rfl
 refine⟨a.handled,?_,?_⟩
 ·show A.depth+Code.weight _+2*n<_;have:=a.depth;exact ZF this
 ·show A.units+Code.cUnits _+32*n+20<_;have:=a.units;exact Yh this
theorem OP{mu:Bool}{Cx:Nat}{vs:List V}{rvs:List Value}{A:Around}{c:Cfg}{s:Shared}{v:V}{st':St}{R:Result→Shared→Prop}(X:K.In B)(hCT:∀ C cl,CT C=some cl→ClsOk K C cl)(hC:DI prog w B C n)(hA:AOk n A)(sim:Sim (prog,w) B c)(hs:s.heap=c.h)
  (e:Fw CT C mu Cx vs c.st=some (v,st')) (x:c.Rs vs rvs) (y:A6 (prog,w) B c v st' (fun rv s'=>R (.ok (.ret rv)) s') s):codeAny (model prog w) A (.call (.ref Cx) ⟨rvs,[]⟩) R s:=by
 refine clE e fun cl hcl e=>?_;have ok:=hCT _ _ hcl;obtain⟨hh,g,d,t,os⟩:=s;have hs:hh=c.h:=hs;subst hs;have Xc:=sim.inn X;refine make_core (makes_of Xc ok.make) (looks_findIn Xc ok.init) (fun self=>bind_fn Xc self ok.initF) (.inl rfl) ?_;have k2:∀ b o,c.h.get? b=some o→((c.h.push emptyDict).push (instObj Cx c.h.objs.size)).get? b=some o:=fun b o e=>Heap.get?_push_of_some _ (Heap.get?_push_of_some _ e);have hsz:((c.h.push emptyDict).push (instObj Cx c.h.objs.size)).objs.size=c.h.objs.size+2:=by rw[Heap.size_push,Heap.size_push]
 have hat:Rf (prog,w) c ((c.h.push emptyDict).push (instObj Cx c.h.objs.size)) (c.h.objs.size+1) c.h.objs.size (.inst Cx [] []):=by refine VV [] (by heap_get) ⟨[],_,Heap.get?_push_of_some _ (Heap.get?_push_size _ rfl),fun _ h=>absurd h List.not_mem_nil,rfl,fun _ _=>rfl⟩ rfl rfl
 have p1:=sim.alloc (o:=.inst Cx [] []) k2 (Heap.get?_none_of_le (Nat.le_succ _)) (fun _=>⟨An _,Nat.succ_ne_self _⟩) hat;have r1:(c.alloc c.fr ((c.h.push emptyDict).push (instObj Cx c.h.objs.size)) (c.h.objs.size+1) c.h.objs.size (.inst Cx [] [])).R (.ref c.st.next) (.ref (c.h.objs.size+1)):=by
  refine⟨by rw[show(c.alloc c.fr _ _ _ (.inst Cx [] [])).st.next=c.st.next+1 from St.next_add _ _];exact Nat.lt_succ_self _,?_⟩
  show Value.ref _=.ref (Ra c.ρ c.st.next _ c.st.next);rw[Fg]
 have x1:=p1.rels (fun _ z=>z.elim) x;refine Y1 (b:=mu) e (fun e _=>Aw e fun r s1 e1 e=>?_) (fun e _=>Aw e fun r s1 e1 e=>?_)
 ·rfl';obtain⟨hr,e⟩:=AX e;refine I1 e fun z1 z2=>?_;rfl';subst z1 z2;refine hC _ _ _ cl.init (.ref c.st.next::vs) _ r _ _ (HD hA) p1.sim rfl ⟨_,rvs,rfl,r1,x1⟩ e1 ?_;intro c' tk rv p q r2;rw[KP hr] at r2;exact⟨r2,y c' tk _ (p1.trans p) q (p.rel (fun _ z=>z.elim) r1)⟩
 ·rfl';obtain⟨hr,e⟩:=AX e;refine MZ e fun v' e2 e=>Kz e.symm fun z1 z2=>?_;subst z1 z2;have simm:=p1.sim.marks (lo:=c.st.next) (ro:=c.st.ro) p1.next (Nat.le_trans sim.ro p1.next);refine hC _ _ _ cl.init (.ref c.st.next::vs) _ r s1 _ (HD hA) simm rfl ⟨_,rvs,rfl,r1,x1⟩ e1 ?_;intro c' tk rv p q r2;subst q;rw[KP hr] at r2;refine⟨r2,?_⟩;have hle:c.st.next≤c'.st.next:=Nat.le_trans p1.next p.next;have kc:CutOf c'.st (c'.st.cut c.st.next c.st.lo c.st.ro) c.st.next:=SQ hle sim.lo sim.ro;have g0:∀ i,i<c.st.next→(c.st.add (.inst Cx [] [])).get i=c.st.get i:=fun i hi=>by rw[St.get_add,if_neg (Nat.ne_of_lt hi)]
  have o0:∀ b,b≤c.st.next→DS b c.st→DS b c'.st:=fun b hb h=>p.old b hb fun i o hi e=>h i o hi ((g0 i (Nat.lt_of_lt_of_le hi hb)).symm.trans e);have pc:=Post.cutBack sim (c₁:={ c.alloc c.fr ((c.h.push emptyDict).push (instObj Cx c.h.objs.size)) (c.h.objs.size+1) c.h.objs.size (.inst Cx [] []) with st:=⟨(c.st.add (.inst Cx [] [])).objs,c.st.next,c.st.ro⟩ }) k2 (fun b f=>p1.fp b f) rfl p1.agree p1.next p kc (o0 _ (Nat.le_refl _) sim.oldNow) rfl rfl
   (fun b hb h i o hi e=>o0 b (Nat.le_trans hb sim.lo) h i o hi ((kc.get i (Nat.lt_of_lt_of_le hi (Nat.le_trans hb sim.lo))).symm.trans e))
   (fun i hi=>(kc.get i (Nat.lt_of_lt_of_le hi sim.ro)).trans ((p.roeq i hi).trans (g0 i (Nat.lt_of_lt_of_le hi sim.ro)))) (fun i hi=>⟨hi,g0 i (Nat.lt_of_lt_of_le hi sim.ro)⟩)
  exact y { c' with st:=c'.st.cut c.st.next c.st.lo c.st.ro } tk _ pc rfl ((Nu p.sim kc 40).1 _ _ _ e2 (p.rel (fun _ z=>z.elim) r1))
end
end SSoundL
section SSoundM
open PySem PySem.W PySem.Calls PyProof.Rows PySem.SeqAt
section
variable {prog:Program}{w:World}{B:Heap}{N:Names}{CT:Nat→Option Cl}{C:AC}{n:Nat}{K:Frag}
theorem cfE{α:Type}{P:Prop}{o:Option Cl}{o':Option V}{F:Cl→Option α}{r:α}(e:(match o,o' with | some cl,none=>F cl | _,_=>none)=some r)(k:∀ cl,o=some cl→o'=none→F cl=some r→P):P:=by
 cases o with
 | none=>exact AI e
 | some cl=>cases o' with
  | none=>exact k cl rfl rfl e
  | some _=>exact AI e
theorem RE{A:Around}{f g:Nat}{vr:V}{ra:Value}{c:Cfg}{s:Shared}{pl:Sem Bool}{Q:Value×List Value→Shared→Prop}{E:Value→Shared→Prop}(X:K.In B)(hCT:∀ C cl,CT C=some cl→ClsOk K C cl)(sim:Sim (prog,w) B c)(hs:s.heap=c.h)
  (e:Ac CT c.st vr f=some g) (x:c.R vr ra) (h:keepIn K (.ref g)=true→Q (.ref g,[ra]) s):wpAny (model prog w) A (getMethod ra (CY f) pl) Q E s:=by
 rfl';cases vr with
 | ref i =>
  obtain⟨_,rfl⟩:=x;refine YJ e fun Cx ks vs q e=>cfE e fun cl q1 q2 e=>?_;have ok:=hCT _ _ q1;refine VU (ok.meth f g e) fun m1 m2 m3 m4=>?_;refine Pe (sim.obj i _ q) fun rs h1 h2 h3 h4=>?_;refine Ie h2 fun es ep ho hk hl hm=>?_;clear h2;have I:InstAt s.heap (c.ρ i) (instObj Cx (c.δ i)) Cx (some (dictOf es ep)):=by rw[hs];exact⟨h1,rfl,rfl,ho⟩
  have hg:=plainGet_of ok.get;refine method_fn (hs▸sim.inn X) I hg.1 hg.2 m2 m3 ?_ (h m4);show(lookIn (CY f) (dictOf es ep)).map (·.isSome)=some false;rw[KS hk,hm f m1,KK (c:=c) h3 h4 q2];rfl
 | _=>exact AI e
theorem N5{Cx:Nat}(hCT:∀ C cl,CT C=some cl→ClsOk K C cl){mu:Bool}{vs:List V}{st:St}{r:V×St}(e:Fw CT C mu Cx vs st=some r):keepIn K (.ref Cx)=true:=clE e fun cl q _=>(hCT _ _ q).keep
theorem Qu{mg mb:Str→Option Value}(G:Globs B N mg mb){A:Around}{env:Env}{sc:List (Str×NameKind)}{μ:AG}{c:Cfg}{s:Shared}{x:Str}{p:Pos}{rv:Value}{Q:Value→Shared→Prop}{E:Value→Shared→Prop}(a:At (prog,w) B env sc μ c)(hs:s.heap=c.h)
  (q:As sc x=true) (h1:mg x=some rv) (y:Q rv s):wpAny (model prog w) A (eval (.Name x p) env) Q E s:=by
 have hk:env.kindOf x=sc.lookup x:=by unfold Env.kindOf;rw[a.eok.names]
 have hx:=F2 q;refine Name_function_global a.eok.kind (hk.trans hx) (loadGlobal_global ?_ h1 y) (F5 a.eok.dbg hx);rw[a.eok.globals,hs];exact a.sim.ns G.g
theorem IZ{mg mb:Str→Option Value}(G:Globs B N mg mb){A:Around}{env:Env}{sc:List (Str×NameKind)}{μ:AG}{c:Cfg}{s:Shared}{x:Str}{p:Pos}{rv:Value}{Q:Value→Shared→Prop}{E:Value→Shared→Prop}(a:At (prog,w) B env sc μ c)(hs:s.heap=c.h)
  (q:As sc x=true) (h1:mg x=none) (h2:mb x=some rv) (y:Q rv s):wpAny (model prog w) A (eval (.Name x p) env) Q E s:=by
 have hk:env.kindOf x=sc.lookup x:=by unfold Env.kindOf;rw[a.eok.names]
 have hx:=F2 q;refine Name_function_global a.eok.kind (hk.trans hx) (loadGlobal_builtin ?_ h1 ?_ h2 y) (F5 a.eok.dbg hx)
 ·rw[a.eok.globals,hs];exact a.sim.ns G.g
 ·rw[a.eok.builtins,hs];exact a.sim.ns G.b
theorem Rv(b:BI):∀ a,Oq b≠.ref a:=by intro a;cases (b)<;>exact fun z=>by cases (z)
theorem Ip{id:Str}{p pos:Pos}{args:List Expr}{mu:Bool}{vs:List V}{s1 st':St}{Cx:Nat}{mg mb:Str→Option Value}(G:Globs B N mg mb)(X:K.In B)(hCT:∀ C cl,CT C=some cl→ClsOk K C cl)(hC:DI prog w B C n)(h:BH prog w B N CT C n args)
  {A:Around} {env:Env} {sc:List (Str×NameKind)} {μ:AG} {c:Cfg} {s:Shared} {v:V} {Q:Value→Shared→Prop} {E:Value→Shared→Prop} (hA:AOk n A) (a:At (prog,w) B env sc μ c) (hs:s.heap=c.h) (q0:As sc id=true) (q1:N.globs.lookup id=none) (q2:N.classes.lookup id=some Cx)
  (e1:evs CT C μ c.st (trEs N sc args)=some (vs,s1)) (e2:Fw CT C mu Cx vs s1=some (v,st')) (y:A6 (prog,w) B c v st' Q s):wpAny (model prog w) A (eval (.Call (.Name id p) args [] pos) env) Q E s:=by
 refine Call_Name rfl (Qu G a hs q0 (G.cls id Cx q1 q2) ?_);refine CK (P:=K.In) (first:=[]) (keeps_K (N5 hCT e2)) h hA a hs e1 fun c' tk rs p q r=>⟨p.sim.inn X,?_⟩
 rfl';subst q;exact wpAny_call (OP X hCT hC hA p.sim rfl e2 r (y.next p))
theorem TA{b:Bool}(h:(!b)=false):b=true:=by cases b with | true=>rfl | false=>cases (h)
theorem Ud{μ:AG}{st:St}{k:Option Nat}{b:Bool}{x:X}{as:List X}{r:V×St}{P:Prop}(e:ev CT C μ st (YZ k b x as)=some r)(h:∀ g,k=some g→b=false→ev CT C μ st (.meth x g as)=some r→P):P:=by
 cases k with
 | none=>exact AI e
 | some g=>cases b with
  | true=>exact AI e
  | false=>exact h g rfl rfl e
structure CnH(N:Names)(CT:Nat→Option Cl)(C:AC)(sc:List (Str×NameKind))(μ:AG)(st:St)(x:Str)(as:List X)(r:V×St)(P:Prop):Prop where
 h1:ev CT C μ st (.call (Tw N sc x) as)=some r→P
 h2:∀ c,As sc x=true→N.globs.lookup x=none→N.classes.lookup x=some c→ev CT C μ st (.new false c as)=some r→P
 h3:∀ b,As sc x=true→N.globs.lookup x=none→N.classes.lookup x=none→Pm x=some b→ev CT C μ st (.bi b as)=some r→P
theorem UO{sc:List (Str×NameKind)}{μ:AG}{st:St}{x:Str}{as:List X}{r:V×St}{P:Prop}(q:CX sc x=none)(e:ev CT C μ st (Wp N x as (As sc x))=some r)(h:CnH N CT C sc μ st x as r P):P:=by
 obtain⟨h1,h2,h3⟩:=h;have hn:Tw N sc x=Vl N x (As sc x):=by unfold Tw;rw[q]
 rw[hn] at h1;generalize As sc x=b at e h1 h2 h3;cases b with
 | false=>exact AI e
 | true =>
  unfold Wp at e;unfold Vl at h1;dsimp only at e h1;generalize N.globs.lookup x=o at e h1 h2 h3;cases o with
  | some v=>exact h1 e
  | none =>
   dsimp only at e;generalize N.classes.lookup x=o at e h2 h3;cases o with
   | some c=>exact h2 c rfl rfl rfl e
   | none =>
    dsimp only at e;generalize Pm x=o at e h3;cases o with
    | none=>exact AI e
    | some b=>exact h3 b rfl rfl rfl rfl e
theorem UQ{sc:List (Str×NameKind)}{μ:AG}{st:St}{x:Str}{as:List X}{r:V×St}{P:Prop}(e:ev CT C μ st (Tv N sc x as)=some r)(h:CnH N CT C sc μ st x as r P):P:=by
 cases q:CX sc x with
 | some i =>
  have n:Tw N sc x=.loc i:=by unfold Tw;rw[q]
  have z:Tv N sc x as=.call (.loc i) as:=by unfold Tv;rw[q]
  exact h.h1 (by rw[n,← z];exact e)
 | none =>
  have z:Tv N sc x as=Wp N x as (As sc x):=by unfold Tv;rw[q]
  rw[z] at e;exact UO q e h
theorem Od{o:Expr}{m:Str}{apos pos:Pos}{args:List Expr}{g:Nat}{mg mb:Str→Option Value}(G:Globs B N mg mb)(X:K.In B)(hCT:∀ C cl,CT C=some cl→ClsOk K C cl)(hC:DI prog w B C n)(hkeep:∀ a vs st r,C a vs st=some r→keepIn K (.ref a)=true)
  (ho:AF prog w B N CT C n o) (h:BH prog w B N CT C n args) (q1:NJ m=some g) (q2:GS o=false) (q3:(apos.endLine==pos.line)=true) (q4:args.length≤20)
  {A:Around} {env:Env} {sc:List (Str×NameKind)} {μ:AG} {c:Cfg} {s:Shared} {v:V} {st':St} {Q:Value→Shared→Prop} {E:Value→Shared→Prop} (hA:AOk n A) (a:At (prog,w) B env sc μ c) (hs:s.heap=c.h)
  (e:ev CT C μ c.st (.meth (Ao N sc o) g (trEs N sc args))=some (v,st')) (y:A6 (prog,w) B c v st' Q s):wpAny (model prog w) A (eval (.Call (.Attribute o m apos) args [] pos) env) Q E s:=by
 refine Aw e fun vr s1 e1 e=>?_;rw[arm_eval_Call,KB q2];refine wpAny_bind (ho A env sc μ c s vr s1 _ E hA a hs e1 fun c1 tk1 ra p1 qq r1=>?_);subst qq;have a1:=a.post p1;refine wpAny_bind (wpAny_standAt ?_);have hform:∀{st r},evs CT C μ st (trEs N sc args)=some r→methodCallForm (args.length+([]:List Keyword).length) (backTo pos (starEach args env)) (backToKw pos (keywordEach [] env))=true:=fun{st r} ee=>by
  refine J1 (HP (env:=env) (pos:=pos) ee) fun _ z=>?_;unfold methodCallForm;rw[z,show(backToKw pos (keywordEach [] env))=[] from rfl]
  simp;exact bc q4
 have hpos:∀ o',methodCallPos true o' env apos pos=pure pos:=fun o'=>by unfold methodCallPos;simp [q3]
 rw[Ky q1];unfold methodCall;have y1:=y.next (tk:=tk1) p1;generalize qm:Ac CT c1.st vr g=mo at e;cases mo with
 | some g'=>refine Aw e fun vs s2 e2 e=>?_;rw[hform e2];exact wpAny_bind (wpAny_holding (RE X hCT p1.sim rfl qm r1 fun hk=>wpAny_bind (wpAny_of_eq (hpos o) (Ov (first:=[vr]) X hC hkeep h hA a1 rfl e2 (VRels.one r1) e y1))))
 | none =>
  obtain⟨hg,e⟩:=AX e;refine Aw e fun vs s2 e2 e=>?_;rw[hform e2];refine wpAny_bind (wpAny_holding (IG p1.sim rfl hg r1 (wpAny_bind (wpAny_of_eq (hpos o) ?_))));refine CK (P:=fun _=>True) (Bz (fun a z=>by cases (z))) h hA a1 rfl e2 fun c' tk rs p q r=>⟨trivial,?_⟩
  rfl';subst q;exact MR p.sim rfl G.mods e (p.rel (fun _ z=>z.elim) r1) r (y1.next p)
theorem O9{f:Expr}{args:List Expr}{kws:List Keyword}{pos:Pos}{mg mb:Str→Option Value}(G:Globs B N mg mb)(X:K.In B)(hCT:∀ C cl,CT C=some cl→ClsOk K C cl)(hC:DI prog w B C n)(hkeep:∀ a vs st r,C a vs st=some r→keepIn K (.ref a)=true)
  (hf:∀ o m ap,f=.Attribute o m ap→AF prog w B N CT C n o) (h:BH prog w B N CT C n args):AF prog w B N CT C n (.Call f args kws pos):=by
 intro A env sc μ c s v st' Q E hA a hs e y;rfl';cases kws with
 | cons=>exact AI e
 | nil=>cases f with
  | Attribute o m apos=>refine Ud e fun g q1 q2 e=>?_;obtain⟨q2,q34⟩:=Bool.or_eq_false_iff.mp q2;obtain⟨q3,q4⟩:=Bool.or_eq_false_iff.mp q34;exact Od G X hCT hC hkeep (hf o m apos rfl) h q1 q2 (TA q3) (Nat.le_of_ble_eq_true (TA q4)) hA a hs e y
  | Name id p =>
   refine UQ e ⟨fun e=>Aw e fun vf s1 e1 e=>?_,fun Cx q0 q1 q2 e=>Aw e fun vs s1 e1 e=>Ip G X hCT hC h hA a hs q0 q1 q2 e1 e y,fun b q0 q1 q2 q3 e=>Aw e fun vs s1 e1 e=>MZ e fun v' e2 z=>?_⟩
   ·refine Aw e fun vs s2 e2 e4=>?_;refine Call_Name rfl (JU G id p A env sc μ c s vf s1 _ E hA a hs e1 fun c1 tk1 ra p1 qq r1=>?_);subst qq;cases vf with
    | fn g =>
     rw[show ra=.ref g from r1]
     exact Ov (first:=[]) X hC hkeep h hA (a.post p1) rfl e2 rfl e4 (y.next p1)
    | _=>exact AI e4
   ·refine Kz z fun z1 z2=>?_;subst z1 z2;obtain⟨g1,g2⟩:=G.bi id b q1 q2 q3;refine Call_Name rfl (IZ G a hs q0 g1 g2 ?_);refine CK (P:=fun _=>True) (first:=[]) (Bz (Rv b)) h hA a hs e1 fun c' tk rs p q r=>⟨trivial,?_⟩
    rfl';subst q;exact Pn p.sim rfl e2 r (y.next p)
  | _=>exact AI e
end
end SSoundM
section SSoundN
open PySem PySem.W PySem.Calls PyProof.Rows PySem.SeqAt
structure Drawn(prog:Program)(w:World)(A:Around)(target:Expr)(t:T)(xs:List V)(c:Cfg)(src:V)(I:Addr)(h₂:Heap)(n:Nat)(fp wr:List Addr)(P Md:Nat→Value→Heap→Prop)(S:Nat→Heap→Prop):Prop where
 num:n=xs.length
 W:KTurns prog w A target I fp wr n P Md S
 st:S 0 h₂
 old:∀ b o,c.h.get? b=some o→h₂.get? b=some o
 new:∀ b∈wr,c.h.get? b=none∧∃ o,h₂.get? b=some o
 self:∀(s:Shared) (Q:Value→Shared→Prop) (E:Value→Shared→Prop),S 0 s.heap→Q (.ref I) s→wpAny (model prog w) A (pyIter (.ref I)) Q E s
 live:∀ i h,S i h→∀ b∈wr,∃ o,h.get? b=some o
 fix:∀ b∈fp,b∈wr∨((∃ o,c.h.get? b=some o)∧(¬ c.own b∨∃ i o,src=.ref i∧c.st.get i=some o∧c.Foot i o b))
 item:∀ i v h x,P i v h→xs[i]?=some x→c.R x v∨(Bj t=false∧∃ T ys vals,x=.tup ys∧v=.ref T∧h.IsTuple T vals∧c.Rs ys vals.toList)
noncomputable def DW(prog:Program)(w:World)(A:Around)(target:Expr)(t:T)(xs:List V)(c:Cfg)(src:V)(I:Addr)(h₂:Heap):Prop:=∃ n fp wr P Md S,Drawn prog w A target t xs c src I h₂ n fp wr P Md S
structure TgtOk(target:Expr)(t:T):Prop where
 loc:Bj t=true→∃ x p,target=.Name x p
 tup:Bj t=false→∃ es k p,target=.Tuple es k p
theorem Pa{sc:List (Str×NameKind)}{target:Expr}{t:T}{P:Prop}(h:P9 sc target=some t)(h1:∀ x p i,target=.Name x p→CC sc x=some i→t=.loc i→P)(h2:∀ es k p is,target=.Tuple es k p→Ba sc es=some is→t=.tup is→P):P:=by
 cases target with
 | Name x p=>refine BA (Option.map_eq_some_iff.mp h) fun i q z=>?_;exact h1 x p i rfl q z.symm
 | Tuple es k p=>refine BA (Option.map_eq_some_iff.mp h) fun i q z=>?_;exact h2 es k p i rfl q z.symm
 | _=>exact AI h
theorem Tl{sc:List (Str×NameKind)}{target:Expr}{t:T}(h:P9 sc target=some t):TgtOk target t :=
 Pa h (fun x p i z _ z2=>⟨fun _=>⟨x,p,z⟩,fun w=>EE (w.symm.trans (by rw[z2];rfl))⟩) fun es k p i z _ z2=>⟨fun w=>EE (Eq.trans (by rw[z2];rfl) w),fun _=>⟨es,k,p,z⟩⟩
section
variable {prog:Program}{w:World}{B:Heap}{A:Around}{E:Value→Shared→Prop}{s:Shared}{c:Cfg}{target:Expr}{t:T}
theorem IV{it v:Value}{Q:Unit→Shared→Prop}(ok:TgtOk target t)(h:Bj t=true)(q:Q () s):wpAny (model prog w) A (letOwnedTupleGo target it v) Q E s:=by refine NK (ok.loc h) fun x p z_2=>?_;subst z_2;exact wpAny_of_eq (show letOwnedTupleGo (.Name x p) it v=pure () from rfl) q
theorem U5{I ax:Addr}{i:Nat}{v:Value}{Q:Unit→Shared→Prop}(ok:TgtOk target t)(hit:s.heap.IsListIter I ax i)(q:Q () s):wpAny (model prog w) A (letOwnedTupleGo target (.ref I) v) Q E s:=by
 cases z:Bj t with
 | true=>exact IV ok z q
 | false =>
  refine ci (ok.tup z) fun es k p z_3=>?_;subst z_3;cases v with
  | ref T=>exact wpAny_letOwnedTupleGo_listiter hit q
  | _=>exact wpAny_of_eq rfl q
theorem VRels.at_idx{h:Heap}{own:Addr→Prop}{ρ:Nat→Addr}{n:Nat}{vs:List V}{rs:List Value}{i:Nat}{x:V}{v:Value}(r:VRels h own ρ n vs rs)(hx:vs[i]?=some x)(hv:rs[i]?=some v):BM h own ρ n x v:=by refine BA (r.get hx) fun v' h1 h2=>?_;rw[hv] at h1;cases h1;exact h2
theorem Iw{ax:Addr}{xs:List V}{rs:List Value}{src:V}{Q:Value→Shared→Prop}(ok:TgtOk target t)(hh:A.handled=none)(hs:s.heap=c.h)(hl:c.h.IsList ax rs.toArray)(r:c.Rs xs rs)(fx:¬ c.own ax∨∃ i o,src=.ref i∧c.st.get i=some o∧c.Foot i o ax)
  (y:∀ I h₂ tk,DW prog w A target t xs c src I h₂→Q (.ref I) { s with heap:=h₂,toks:=tk }):wpAny (model prog w) A (pyIter (.ref ax)) Q E s:=by
 have hl':s.heap.IsList ax rs.toArray:=hs▸hl;refine wpAny_pyIter_list hl' ?_;have hlt:ax<s.heap.objs.size:=by obtain⟨_,e,_⟩:=hl';exact Heap.lt_size e
 have hlen:=VRels.len r;have W:=KTurns.ofWalks (target:=target) (Walks.list (prog:=prog) (w:=w) hh s.heap.objs.size ax (Nat.ne_of_lt hlt) rs.toArray) (fun i v s' Q E st q=>U5 ok st.1 q);refine y _ _ s.toks ⟨_,_,_,_,_,_,⟨by rw[List.size_toArray,hlen],W,?_,?_,?_,?_,?_,?_,?_⟩⟩
 ·exact⟨⟨_,Heap.get?_push_size _ rfl,rfl,rfl⟩,hl'.push _⟩
 ·exact fun b o e=>Heap.get?_push_of_some _ (hs▸e)
 ·intro b hb;rw[List.mem_singleton.mp hb];exact⟨hs▸An _,⟨_,Heap.get?_push_size _ rfl⟩⟩
 ·exact fun s' Q' E' st q=>wpAny_pyIter_listiter st.1 q
 ·intro i h st b hb;rw[List.mem_singleton.mp hb];refine BA st.1 fun o e _=>?_;exact⟨o,e⟩
 ·intro b hb;rcases List.mem_cons.mp hb with rfl | hb
  ·exact .inl (by simp)
  ·rw[List.mem_singleton.mp hb];exact .inr ⟨let ⟨o,e,_⟩:=hl;⟨o,e⟩,fx⟩
 ·intro i v h x hP hx;refine .inl (VRels.at_idx r hx ?_);simpa using hP
theorem QI{x:Txt}{tk0:Tok}{Q:Value→Shared→Prop}{src:V}(ok:TgtOk target t)(hloc:Bj t=true)(hh:A.handled=none)(hs:s.heap=c.h)
  (y:∀ I h₂ tk,DW prog w A target t (x.map fun c=>V.str [c]) c src I h₂→Q (.ref I) { s with heap:=h₂,toks:=tk }):wpAny (model prog w) A (pyIter (.str (AR x) tk0)) Q E s:=by
 have fin:∀(o:Obj) (S:Nat→Heap→Prop),o.isFreed=false→(∀ i h,S i h→∃ o',h.get? s.heap.objs.size=some o')→Walks prog w A s.heap.objs.size [s.heap.objs.size] [s.heap.objs.size] (AR x).cps.size (SignAt (AR x)) S→S 0 (s.heap.push o)→Q (.ref s.heap.objs.size) { s with heap:=s.heap.push o }:=by
  intro o S hfo hlive W1 st0;have W:=KTurns.ofWalks (target:=target) W1 (fun i v s' Q E st q=>IV ok hloc q);have e:(AR x).cps.size=(x.map fun c=>V.str [c]).length:=by rw[List.length_map];exact List.size_toArray
  refine y _ _ s.toks ⟨_,_,_,_,_,_,⟨e,W,st0,?_,?_,fun s' Q' E' st q=>W1.self 0 s' Q' E' st q,?_,?_,?_⟩⟩
  ·exact fun b o e=>Heap.get?_push_of_some _ (hs▸e)
  ·intro b hb;rw[List.mem_singleton.mp hb];exact⟨hs▸An _,⟨_,Heap.get?_push_size _ hfo⟩⟩
  ·intro i h st b hb;rw[List.mem_singleton.mp hb];exact hlive i h st
  ·exact fun b hb=>.inl hb
  ·intro i v h u hP hu;refine EK hP fun cp tk h1 z_3=>?_;subst z_3;left;rw[List.getElem?_map] at hu;have:x[i]?=some cp:=by simpa [AR] using h1
   rw[this] at hu;cases hu;exact⟨tk,rfl⟩
 rfl';cases ha:(AR x).cps.all (·<128)
 ·exact wpAny_pyIter_wide ha (fin _ _ rfl (fun i h st=>let ⟨o,e,_⟩:=st;⟨o,e⟩) (Walks.strWide hh _ (AR x) tk0) ⟨_,Heap.get?_push_size _ rfl,rfl,rfl⟩)
 ·exact wpAny_pyIter_ascii ha (fin _ _ rfl (fun i h st=>let ⟨o,e,_⟩:=st;⟨o,e⟩) (Walks.strAscii hh _ (AR x) tk0) ⟨_,Heap.get?_push_size _ rfl,rfl,rfl⟩)
theorem Nf{i:Nat}{ks:List Txt}{vs:List V}{Q:Value→Shared→Prop}(hg:DV B)(sim:Sim (prog,w) B c)(ok:TgtOk target t)(hloc:Bj t=true)(hh:A.handled=none)(hs:s.heap=c.h)(q:c.st.get i=some (.dict ks vs))
  (y:∀ I h₂ tk,DW prog w A target t (ks.map .str) c (.ref i) I h₂→Q (.ref I) { s with heap:=h₂,toks:=tk }):wpAny (model prog w) A (pyIter (.ref (c.ρ i))) Q E s:=by
 rfl';refine FE (sim.obj i _ q) fun rs h1 h2 h3=>?_;have hd:s.heap.DictOf (strKind prog w) (c.ρ i) ((ks.map AR).zip rs):=hs▸h1;obtain⟨ep,hd⟩:=hd.dictAt;refine wpAny_pyIter_dict (CA hg sim q) hd ?_;have hlt:c.ρ i<s.heap.objs.size:=by obtain⟨_,_,e,_⟩:=hd;exact Heap.lt_size e
 have hlen:(ks.map AR).length=rs.length:=by rw[List.length_map,VRels.len h3];exact h2
 have hz:((ks.map AR).zip rs).length=(ks.map V.str).length:=by rw[List.length_zip,← hlen,Nat.min_self,List.length_map,List.length_map]
 have W:=KTurns.ofWalks (target:=target) (Walks.dictKeys (prog:=prog) (w:=w) (knd:=strKind prog w) hh s.heap.objs.size (c.ρ i) (Nat.ne_of_lt hlt) ((ks.map AR).zip rs) ep) (fun i v s' Q E st q=>IV ok hloc q);refine y _ _ s.toks ⟨_,_,_,_,_,_,⟨hz,W,?_,?_,?_,?_,?_,?_,?_⟩⟩
 ·exact⟨⟨_,Heap.get?_push_size _ rfl,rfl,rfl⟩,hd.at' fun o e=>Heap.get?_push_of_some _ e⟩
 ·exact fun b o e=>Heap.get?_push_of_some _ (hs▸e)
 ·intro b hb;rw[List.mem_singleton.mp hb];exact⟨hs▸An _,⟨_,Heap.get?_push_size _ rfl⟩⟩
 ·exact fun s' Q' E' st q=>wpAny_pyIter_keyiter st.1 q
 ·intro i h st b hb;rw[List.mem_singleton.mp hb];refine BA st.1 fun o e _=>?_;exact⟨o,e⟩
 ·intro b hb;rcases List.mem_cons.mp hb with rfl | hb
  ·exact .inl (by simp)
  ·rw[List.mem_singleton.mp hb];exact .inr ⟨by obtain⟨o,_,e,_⟩:=hd;exact⟨o,hs▸e⟩,.inr ⟨i,_,rfl,q,.inl rfl⟩⟩
 ·intro j v h u hP hu;refine EK hP fun k r h4 h5=>?_;clear hP;left;rw[List.getElem?_map] at hu;rw[List.getElem?_zip_eq_some,List.getElem?_map] at h4;cases q4:ks[j]? with
  | none=>rw[q4] at hu;cases hu
  | some k'=>rw[q4] at hu h4;cases hu;cases (h4.1);cases (v)<;>simp [PySem.strKind,Value.isStrOf] at h5;subst h5;exact⟨_,rfl⟩
theorem X2{α:Type}{P:Prop}{o:Option O}{F:List V→Option α}{G:List Txt→Option α}{r:α}(e:(match o with | some (.list xs)=>F xs | some (.dict ks _)=>G ks | _=>none)=some r)(h1:∀ xs,o=some (.list xs)→F xs=some r→P)(h2:∀ ks vs,o=some (.dict ks vs)→G ks=some r→P):P:=X1 e h1 h2
theorem Nh{a:V}{ra:Value}{xs:List V}{Q:Value→Shared→Prop}(hg:DV B)(sim:Sim (prog,w) B c)(ok:TgtOk target t)(hh:A.handled=none)(hs:s.heap=c.h)(e:VN c.st t a=some xs)(x:c.R a ra)
  (y:∀ I h₂ tk,DW prog w A target t xs c a I h₂→Q (.ref I) { s with heap:=h₂,toks:=tk }):wpAny (model prog w) A (pyIter ra) Q E s:=by
 rfl';cases a with
 | str u=>obtain⟨tk,rfl⟩:=x;refine W9 e fun z e=>B8 e fun z'=>?_;subst z';exact QI ok z hh hs y
 | lst ys=>refine B8 e fun z=>?_;subst z;refine Ie x fun l rs z_2 h1 h2 h3=>?_;subst z_2;exact Iw ok hh hs h2 h3 (.inl h1) y
 | ref i =>
  obtain⟨_,rfl⟩:=x;refine X2 e (fun ys q e=>B8 e fun z=>?_) (fun ks vs q e=>W9 e fun z e=>B8 e fun z'=>?_)
  ·subst z;refine BA (sim.obj i _ q) fun rs h1 h2=>?_;exact Iw ok hh hs h1.list h2 (.inr ⟨i,_,rfl,q,.inl rfl⟩) y
  ·subst z';exact Nf hg sim ok z hh hs q y
 | _=>exact AI e
end
end SSoundN
section SSoundO
open PySem PySem.W PySem.Calls PyProof.Rows PySem.SeqAt
section
variable {prog:Program}{w:World}{B:Heap}{N:Names}{CT:Nat→Option Cl}{C:AC}{n:Nat}{K:Frag}{A:Around}{E:Value→Shared→Prop}{s:Shared}{c:Cfg}{target:Expr}{t:T}
theorem O0(i j:Int):(Al i j).length=(j - i).toNat:=by simp [Al]
theorem RN{i j:Int}{k:Nat}{x:V}(h:(Al i j)[k]?=some x):x=.int (i+(k:Int)):=by
 unfold Al at h;rw[List.getElem?_map] at h;refine oM h fun m h q=>?_
 ·cases h;rw[List.getElem?_range (by simpa using (List.getElem?_eq_some_iff.mp q).1)] at q
  cases q;rfl
theorem Hh{r:Addr}{a b:Int}{t1 u1 v1:Tok}{src:V}{Q:Value→Shared→Prop}(ok:TgtOk target t)(hloc:Bj t=true)(hh:A.handled=none)(hs:s.heap=c.h)(hr:IsRange s.heap r a b 1 t1 u1 v1)(ha:0≤a)(ha':a<100000)(hb:0≤b)(hb':b<100000)
  (y:∀ I h₂ tk,DW prog w A target t (Al a b) c src I h₂→Q (.ref I) { s with heap:=h₂,toks:=tk }):wpAny (model prog w) A (pyIter (.ref r)) Q E s:=by
 have hsm:Builtin.Range.small a b 1=true:=small_one (by exact p34 ha) (by exact p38 ha') (by exact p34 hb) (by exact p38 hb')
 refine wpAny_pyIter_range hr hsm ?_;have hn:Builtin.Range.rangeSize a b 1=(((b - a).toNat:Nat):Int):=rangeSize_nat a b;have W:=KTurns.ofWalks (target:=target) (PyProof.Rows.LCg.range_walks (prog:=prog) (w:=w) (I:=s.heap.objs.size) hh a (b - a).toNat) (fun i v s' Q E st q=>IV ok hloc q);refine y _ _ s.toks ⟨_,_,_,_,_,_,⟨(O0 a b).symm,W,?_,?_,?_,?_,?_,?_,?_⟩⟩
 ·show IsRangeIter _ _ _ _ _;rw[hn];simpa using Heap.get?_push_size _ rfl
 ·exact fun b o e=>Heap.get?_push_of_some _ (hs▸e)
 ·intro b hb;rw[List.mem_singleton.mp hb];exact⟨hs▸An _,⟨_,Heap.get?_push_size _ rfl⟩⟩
 ·exact fun s' Q' E' st q=>(PyProof.Rows.LCg.range_walks (prog:=prog) (w:=w) (I:=s.heap.objs.size) hh a (b - a).toNat).self 0 s' Q' E' st q
 ·intro i h st b hb;rw[List.mem_singleton.mp hb];exact⟨_,st⟩
 ·exact fun b hb=>.inl hb
 ·intro i v h u hP hu;obtain⟨tk,rfl⟩:=hP;left;rw[RN hu];exact⟨tk,rfl⟩
theorem SY{xs:List V}{k:Nat}{x:V}(h:(GE xs)[k]?=some x):∃ y,xs[k]?=some y∧x=.tup [.int k,y]:=by
 unfold GE at h;rw[List.getElem?_zipWith] at h;cases q:xs[k]? with
 | none=>rw[q] at h;split at h<;>simp_all
 | some y=>have hk:=(List.getElem?_eq_some_iff.mp q).1;rw[q,List.getElem?_range hk] at h;cases h;exact Ft y rfl rfl
theorem QJ(xs:List V):(GE xs).length=xs.length:=by simp [GE]
theorem Ng{l:Addr}{xs:List V}{rs:List Value}{src:V}{Q:Value→Shared→Prop}{E':Value→Shared→Prop}(ok:TgtOk target t)(hloc:Bj t=false)(hh:A.handled=none)(hs:s.heap=c.h)(hl:c.h.IsList l rs.toArray)(r:c.Rs xs rs)(fx:¬ c.own l∨∃ i o,src=.ref i∧c.st.get i=some o∧c.Foot i o l)
  (y:∀ I h₂ tk,DW prog w A target t (GE xs) c src I h₂→Q (.ref I) { s with heap:=h₂,toks:=tk }):wpAny (model prog w) A (call (.type "enumerate") [.ref l]) (fun xv s₁=>wpAny (model prog w) A (pyIter xv) Q E s₁) E' s:=by
 have hl':s.heap.IsList l rs.toArray:=hs▸hl;have hlt:l<s.heap.objs.size:=by obtain⟨_,e,_⟩:=hl';exact Heap.lt_size e
 refine ci (ok.tup hloc) fun es k p z_3=>?_;subst z_3;have hlen:=VRels.len r;refine call_enumerate_list hl' fun h' hE hI hsz hk=>?_;refine wpAny_pyIter_enum hE ?_;have W:=KTurns.ofWalksU (elts:=es) (k:=k) (pos:=p) (WalksT.enumerate (prog:=prog) (w:=w) hh (s.heap.objs.size+1) s.heap.objs.size l (Nat.succ_ne_self _) (Nat.ne_of_lt (Nat.lt_succ_of_lt hlt)) (Nat.ne_of_lt hlt) rs.toArray).toU;refine y _ _ s.toks ⟨_,_,_,_,_,_,⟨by rw[List.size_toArray,hlen,QJ],W,?_,?_,?_,?_,?_,?_,?_⟩⟩
 ·exact⟨⟨_,hE⟩,hI,(let ⟨o,e,r⟩:=hl';⟨o,hk _ _ e,r⟩)⟩
 ·exact fun b o e=>hk b o (hs▸e)
 ·intro b hb;have hb':b=s.heap.objs.size+1∨b=s.heap.objs.size:=by simpa using hb
  rcases hb' with rfl | rfl
  ·exact⟨hs▸Heap.get?_none_of_le (Nat.le_succ _),⟨_,hE⟩⟩
  ·exact⟨hs▸An _,by obtain⟨o,e,_⟩:=hI;exact⟨o,e⟩⟩
 ·exact fun s' Q' E' st q=>wpAny_pyIter_enum st.1.choose_spec q
 ·intro i h st b hb;have hb':b=s.heap.objs.size+1∨b=s.heap.objs.size:=by simpa using hb
  rfl';obtain⟨⟨old,he⟩,⟨oi,hi,_⟩,_⟩:=st;rcases hb' with rfl | rfl
  ·exact⟨_,he⟩
  ·exact⟨_,hi⟩
 ·intro b hb;have hb':b=s.heap.objs.size+1∨b=s.heap.objs.size∨b=l:=by simpa using hb
  rcases hb' with rfl | rfl | rfl
  ·exact .inl (by simp)
  ·exact .inl (by simp)
  ·exact .inr ⟨let ⟨o,e,_⟩:=hl;⟨o,e⟩,fx⟩
 ·intro i v h u hP hu;rfl';obtain⟨T,vals,rfl,⟨tk,x,hx,rfl⟩,hT⟩:=hP;refine BA (SY hu) fun y' hy z_2=>?_;subst z_2;right;refine⟨hloc,T,_,_,rfl,rfl,hT,?_⟩;exact⟨_,_,rfl,⟨tk,rfl⟩,_,_,rfl,VRels.at_idx r hy (by simpa using hx),rfl⟩
theorem NR{e:Expr}{x:Str}{args:List Expr}(h:Kb e=some (x,args)):∃ p pos,e=.Call (.Name x p) args [] pos:=by
 cases e with
 | Call f as kws pos=>cases kws with
  | cons=>exact AI h
  | nil=>cases f with
   | Name y p=>exact I1 h fun z1 z2=>⟨p,pos,by rw[z1,z2]⟩
   | _=>exact AI h
 | _=>exact AI h
structure PkH(N:Names)(sc:List (Str×NameKind))(it:Expr)(k:Mine.K)(Xa Xb:X)(P:Prop):Prop where
 h1:k=.plain→Xa=Ao N sc it→Xb=.const .none→P
 h2:∀ id p a pos,it=.Call (.Name id p) [a] [] pos→As sc id=true→id=("range":Str)→k=.range1→Xa=Ao N sc a→Xb=.const .none→P
 h3:∀ id p a b pos,it=.Call (.Name id p) [a,b] [] pos→As sc id=true→id=("range":Str)→k=.range2→Xa=Ao N sc a→Xb=Ao N sc b→P
 h4:∀ id p a pos,it=.Call (.Name id p) [a] [] pos→As sc id=true→id=("enumerate":Str)→k=.enum→Xa=Ao N sc a→Xb=.const .none→P
theorem TL{sc:List (Str×NameKind)}{it:Expr}{k:Mine.K}{Xa Xb:X}{P:Prop}(hp:EP (Cn sc it) (trIt N sc it) (Ao N sc it)=some (k,Xa,Xb))(h:PkH N sc it k Xa Xb P):P:=by
 have pl:EP .plain (trIt N sc it) (Ao N sc it)=some (k,Xa,Xb)→P:=fun e=>I1 e fun z1 z=>Kz z.symm fun z2 z3=>h.h1 z1 z2 z3;unfold Cn at hp;generalize q:Kb it=o at hp;cases o with
 | none=>exact pl hp
 | some o =>
  obtain⟨x,args⟩:=o;refine NK (NR q) fun p pos z_2=>?_;subst z_2;have hp:EP (Xj (As sc x) x args) (trEs N sc args) (Ao N sc (.Call (.Name x p) args [] pos))=some (k,Xa,Xb):=hp;rfl';generalize hg:As sc x=b at hp;cases b with
  | false=>exact pl hp
  | true=>cases args with
   | nil=>exact pl hp
   | cons a r=>cases r with
    | nil =>
     unfold Xj at hp;dsimp only at hp
     generalize q1:(x==("range":Str))=b at hp
     cases b with
     | true=>exact I1 hp fun z1 z=>Kz z.symm fun z2 z3=>h.h2 x p a pos rfl hg (beq_iff_eq.mp q1) z1 z2 z3
     | false =>
      dsimp only at hp
      generalize q1:(x==("enumerate":Str))=b at hp
      cases b with
      | true=>exact I1 hp fun z1 z=>Kz z.symm fun z2 z3=>h.h4 x p a pos rfl hg (beq_iff_eq.mp q1) z1 z2 z3
      | false=>exact pl hp
    | cons a2 r=>cases r with
     | cons=>exact pl hp
     | nil =>
      unfold Xj at hp;dsimp only at hp
      generalize q1:(x==("range":Str))=b at hp
      cases b with
      | true=>exact I1 hp fun z1 z=>Kz z.symm fun z2 z3=>h.h3 x p a a2 pos rfl hg (beq_iff_eq.mp q1) z1 z2 z3
      | false=>exact pl hp
theorem OY{st:St}{va vb src:V}{xs:List V}{P:Prop}(e:Bo st .range1 t va vb=some (xs,src))(h:∀ i,va=.int i→Bj t=true→0≤i→i<100000→xs=Al 0 i→src=.none→P):P:=by
 cases va with
 | int i =>
  have e:(match Bj t&&decide (0≤i)&&decide (i<100000) with | true=>some (Al 0 i,V.none) | false=>none)=some (xs,src):=e
  generalize g:(Bj t&&decide (0≤i)&&decide (i<100000))=b at e;cases b with
  | false=>exact AI e
  | true=>exact Ci g fun g g3=>Ci g fun g1 g2=>I1 e fun z1 z2=>h i rfl g1 (of_decide_eq_true g2) (of_decide_eq_true g3) z1 z2
 | _=>exact AI e
theorem OZ{st:St}{va vb src:V}{xs:List V}{P:Prop}(e:Bo st .range2 t va vb=some (xs,src))(h:∀ i j,va=.int i→vb=.int j→Bj t=true→0≤i→i<100000→0≤j→j<100000→xs=Al i j→src=.none→P):P:=by
 cases va with
 | int i=>cases vb with
  | int j =>
   have e:(match Bj t&&decide (0≤i)&&decide (i<100000)&&decide (0≤j)&&decide (j<100000) with | true=>some (Al i j,V.none) | false=>none)=some (xs,src):=e
   generalize g:(Bj t&&decide (0≤i)&&decide (i<100000)&&decide (0≤j)&&decide (j<100000))=b at e;cases b with
   | false=>exact AI e
   | true=>exact Ci g fun g g5=>Ci g fun g g4=>Ci g fun g g3=>Ci g fun g1 g2=>I1 e fun z1 z2=>h i j rfl rfl g1 (of_decide_eq_true g2) (of_decide_eq_true g3) (of_decide_eq_true g4) (of_decide_eq_true g5) z1 z2
  | _=>exact AI e
 | _=>exact AI e
theorem SZ{st:St}{va vb src:V}{xs:List V}{P:Prop}(e:Bo st .enum t va vb=some (xs,src))(h:∀ ys,Bj t=false→AD st va=some ys→xs=GE ys→src=va→P):P:=by
 have e:(match Bj t,AD st va with | false,some xs=>some (GE xs,va) | _,_=>none)=some (xs,src):=e
 generalize q:Bj t=b at e;generalize q1:AD st va=o at e;cases b with
 | true=>exact AI e
 | false=>cases o with
  | none=>exact AI e
  | some ys=>exact I1 e fun z1 z2=>h ys q q1 z1 z2
theorem Ql{v:V}{ys:List V}{l:Addr}(g:AD c.st v=some ys)(x:c.R v (.ref l)):¬ c.own l∨∃ i o,v=.ref i∧c.st.get i=some o∧c.Foot i o l:=by
 rfl';cases v with
 | lst zs=>refine Dx x fun l' rs z h1 _=>?_;clear x;cases (z);exact .inl h1
 | ref i =>
  have g:(match c.st.get i with | some (.list xs)=>some xs | _=>none)=some ys:=g
  generalize q:c.st.get i=o at g;cases o with
  | none=>exact AI g
  | some o=>cases o with
   | list xs=>obtain⟨_,z⟩:=x;cases (z);exact .inr ⟨i,_,rfl,q,.inl rfl⟩
   | _=>exact AI g
 | _=>exact AI g
theorem JH{mg mb:Str→Option Value}(G:Globs B N mg mb){it:Expr}{k:Mine.K}{Xa Xb:X}{va vb src:V}{xs:List V}{s1 s2:St}{env:Env}{sc:List (Str×NameKind)}{μ:AG}{Q:Value→Shared→Prop}
  (ok:TgtOk target t) (h:AF prog w B N CT C n it) (hargs:∀ f args kws pos,it=.Call f args kws pos→BH prog w B N CT C n args) (hA:AOk n A) (a:At (prog,w) B env sc μ c) (hs:s.heap=c.h)
  (hp:EP (Cn sc it) (trIt N sc it) (Ao N sc it)=some (k,Xa,Xb)) (e1:ev CT C μ c.st Xa=some (va,s1)) (e2:ev CT C μ s1 Xb=some (vb,s2)) (e3:Bo s2 k t va vb=some (xs,src))
  (y:∀ c₁ I h₂ tk,Post (prog,w) B no c c₁→c₁.st=s2→(∀ i,src=.ref i→i<s2.next)→DW prog w A target t xs c₁ src I h₂→Q (.ref I) { s with heap:=h₂,toks:=tk }) :
  wpAny (model prog w) A (eval it env) (fun xv s₁=>wpAny (model prog w) A (pyIter xv) Q E s₁) E s:=by
 refine TL hp ⟨fun z1 z2 z3=>?_,fun id p a0 pos z0 q hid z1 z2 z3=>?_,fun id p a0 a1 pos z0 q hid z1 z2 z3=>?_,fun id p a0 pos z0 q hid z1 z2 z3=>?_⟩
 ·subst z1 z2 z3;refine I1 e2 fun z1 z2=>?_;subst z1 z2;obtain⟨xs',e4,e5⟩:=Option.map_eq_some_iff.mp e3;refine Kz e5 fun z1 z2=>?_;subst z1 z2;refine h A env sc μ c s _ _ _ E hA a hs e1 fun c1 tk ra p1 q r=>?_;subst q;exact Nh G.mods p1.sim ok hA.handled rfl e4 r fun I h₂ tk' d=>y c1 I h₂ tk' p1 rfl (fun i z=>by subst z;exact r.1) d
 ·subst z0 z1 z2 z3 hid;refine OY e3 fun i z1 g1 g2 g3 z2 z3=>?_;subst z1 z2 z3;refine I1 e2 fun z1 z2=>?_;subst z1 z2;refine Call_Name rfl (IZ G a hs q G.range.1 G.range.2 ?_);refine CK (P:=fun _=>True) (first:=[]) (vs:=[.int i]) (Bz (fun a z=>by cases (z))) (hargs _ _ _ _ rfl) hA a hs (by show Aj _ _=_;rw[e1];rfl) fun c1 tk rs p1 qq r=>⟨trivial,?_⟩
  obtain⟨ra,_,rfl,⟨ti,rfl⟩,z⟩:=r;cases show _=_ from z
  have pg:=p1.trans (p1.sim.push { cls:=.type "range",data:=.fields #[.int 0 tk,.int i ti,.int 1 (tk+1)] })
  exact call_range_1 (Hh (src:=.none) (c:={ c1 with h:=c1.h.push { cls:=.type "range",data:=.fields #[.int 0 tk,.int i ti,.int 1 (tk+1)] } }) ok g1 hA.handled rfl (IsRange.new ..) (Int.le_refl _) (by decide) g2 g3 fun I h₂ tk' d=>y _ I h₂ tk' pg qq (fun i z=>by cases (z)) d)
 ·subst z0 z1 z2 z3 hid;refine OZ e3 fun i j z0 z1 g1 g2 g3 g4 g5 z2 z3=>?_;subst z0 z1 z2 z3;refine Call_Name rfl (IZ G a hs q G.range.1 G.range.2 ?_);refine CK (P:=fun _=>True) (first:=[]) (vs:=[.int i,.int j]) (Bz (fun a z=>by cases (z))) (hargs _ _ _ _ rfl) hA a hs (by show Aj _ _=_;rw[e1];show Aj (Aj _ _) _=_;rw[e2];rfl) fun c1 tk rs p1 qq r=>⟨trivial,?_⟩
  obtain⟨ra,_,rfl,⟨ti,rfl⟩,rb,_,rfl,⟨tj,rfl⟩,z⟩:=r;cases show _=_ from z
  have pg:=p1.trans (p1.sim.push { cls:=.type "range",data:=.fields #[.int i ti,.int j tj,.int 1 tk] })
  exact call_range_2 (Hh (src:=.none) (c:={ c1 with h:=c1.h.push { cls:=.type "range",data:=.fields #[.int i ti,.int j tj,.int 1 tk] } }) ok g1 hA.handled rfl (IsRange.new ..) g2 g3 g4 g5 fun I h₂ tk' d=>y _ I h₂ tk' pg qq (fun i z=>by cases (z)) d)
 ·subst z0 z1 z2 z3 hid;refine SZ e3 fun ys g1 g2 z1 z2=>?_;subst z1 z2;refine I1 e2 fun z1 z2=>?_;subst z1 z2;refine Call_Name rfl (IZ G a hs q G.enum.1 G.enum.2 ?_);refine CK (P:=fun _=>True) (first:=[]) (vs:=[src]) (Bz (fun a z=>by cases (z))) (hargs _ _ _ _ rfl) hA a hs (by show Aj _ _=_;rw[e1];rfl) fun c1 tk rs p1 qq r=>⟨trivial,?_⟩
  obtain⟨ra,_,rfl,x1,z⟩:=r;cases show _=_ from z
  subst qq;obtain⟨l,rs,rfl,h1,h2⟩:=Be p1.sim g2 x1;exact Ng ok g1 hA.handled rfl h1 h2 (Ql g2 x1) fun I h₂ tk' d=>y c1 I h₂ tk' p1 rfl (fun i z=>by subst z;exact x1.1) d
end
end SSoundO
section SSoundP
open PySem PySem.W PySem.Calls PyProof.Rows PySem.SeqAt
theorem Fq{sc:List (Str×NameKind)}{x:Str}{i:Nat}(e:CX sc x=some i):∃ p,sc[i]?=some p∧p.1=x:=by
 have go:∀ k:Option NameKind,(match k with
  | some .local=>sc.findIdx? fun p=>p.1==x
  | some .cell=>sc.findIdx? fun p=>p.1==x
  | some .free=>sc.findIdx? fun p=>p.1==x
  | _=>none)=some i→sc.findIdx? (fun p=>p.1==x)=some i:=fun k e=>by
  rfl';cases k with
  | none=>exact AI e
  | some k=>cases (k)<;>first | exact e | exact AI e
 have h:=go _ e;obtain⟨hlt,hp,_⟩:=List.findIdx?_eq_some_iff_getElem.mp h;exact⟨sc[i],List.getElem?_eq_getElem hlt,beq_iff_eq.mp hp⟩
theorem Mr{sc:List (Str×NameKind)}{x y:Str}{i:Nat}(e:CX sc x=some i)(e':CX sc y=some i):x=y:=by refine BA (Fq e) fun p h1 h2=>?_;refine BA (Fq e') fun q h3 h4=>?_;rw[h1] at h3;cases (h3);exact h2.symm.trans h4
theorem Mq{sc:List (Str×NameKind)}{x:Str}{i:Nat}(e:CC sc x=some i):CX sc x=some i∧sc.lookup x=some .local:=by
 have go:∀ k:Option NameKind,(match k with
  | some .local=>sc.findIdx? fun p=>p.1==x
  | _=>none)=some i→(match k with
  | some .local=>sc.findIdx? fun p=>p.1==x
  | some .cell=>sc.findIdx? fun p=>p.1==x
  | some .free=>sc.findIdx? fun p=>p.1==x
  | _=>none)=some i∧k=some .local:=fun k e=>by
  cases k with
  | none=>exact AI e
  | some k=>cases (k)<;>first | exact⟨e,rfl⟩ | exact AI e
 exact go _ e
noncomputable abbrev Hm(env:Env):Addr→Prop:=fun a=>a=env.locals
section
variable {prog:Program}{w:World}{B:Heap}{A:Around}{E:Value→Shared→Prop}{s:Shared}{c:Cfg}{env:Env}{sc:List (Str×NameKind)}{μ:AG}
theorem At.lfr(a:At (prog,w) B env sc μ c):∀ b,Hm env b→c.fr b:=fun b z=>by rw[show b=env.locals from z];exact a.frL
theorem CR{x:Str}{i:Nat}{v:V}{rv:Value}{Q:Unit→Shared→Prop}(a:At (prog,w) B env sc μ c)(hs:s.heap=c.h)(hi:CC sc x=some i)(hv:c.R v rv)
  (y:∀ c' tk,Post (prog,w) B (Hm env) c c'→c'.st=c.st→At (prog,w) B env sc (BO μ i v) c'→Q () { s with heap:=c'.h,toks:=tk }):wpAny (model prog w) A (storeName env x rv) Q E s:=by
 rfl';refine BA a.loc fun m hn hm=>?_;obtain⟨hslot,hk⟩:=Mq hi;have hkx:env.kindOf x=some .local:=by unfold Env.kindOf;rw[a.eok.names];exact hk
 refine wpAny_storeName_local hkx (hs▸hn) (fun h' hn' hsb=>?_) (by rw[a.eok.kind];rfl)
 rw[hs] at hsb;have p:Post (prog,w) B (Hm env) c { c with h:=h' }:=a.sim.change a.lfr (fun b o hb e=>(hsb.2 b hb).trans e) (fun b z=>by rw[show b=env.locals from z];exact PY hn')
 refine y _ (s.toks+1) p rfl ⟨p.sim,a.eok,a.frL,_,hn',fun x' j v' hj hv'=>?_⟩;unfold BO at hv';rw[List.getElem?_set] at hv';by_cases q:i=j
 ·subst q;have hx:=Mr hslot hj;rfl';subst hx;rw[if_pos rfl] at hv';split at hv'
  ·refine B8 hv' fun z=>B8 z.symm fun z=>?_;subst z;refine Ft rv ?_ (p.rel (fun b z=>.inl (a.lfr b z)) hv);unfold BY;rw[hkx];exact if_pos rfl
  ·exact AI hv'
 ·rw[if_neg q] at hv';refine BA (hm x' j v' hj hv') fun rv' h1 h2=>?_;have hne:x'≠x:=fun z=>q (B8 (hj.symm.trans (z▸hslot)) id);exact Ft rv' (BY.imp' h1 (fun z=>by rw[if_neg hne];exact z) (fun ca o h4 h5=>p.keepOwn (fun b z=>.inl (a.lfr b z)) ca o h4 h5)) (p.rel (fun b z=>.inl (a.lfr b z)) h2)
theorem Post.relsL{c':Cfg}(a:At (prog,w) B env sc μ c)(p:Post (prog,w) B (Hm env) c c'){v:List V}{rv:List Value}(x:c.Rs v rv):c'.Rs v rv:=p.rels (fun b z=>.inl (a.lfr b z)) x
theorem Fb:∀{is:List Nat} {vs:List V} {μ μ':AG},BX μ is vs=some μ'→is.length=vs.length:=by
 intro is
 induction is with
 | nil =>
  intro vs μ μ' e;cases vs with
  | nil=>rfl
  | cons _ _=>exact AI e
 | cons i is ih =>
  intro vs μ μ' e;cases vs with
  | nil=>exact AI e
  | cons v vs=>exact congrArg (·+1) (ih e)
theorem Fc{t:Expr}{es:List Expr}{is:List Nat}(h:Ba sc (t::es)=some is):∃ x p i is',t=.Name x p∧CC sc x=some i∧Ba sc es=some is'∧is=i::is':=by
 have go:∀{x p} (o:Option Nat) (o':Option (List Nat)),o=CC sc x→o'=Ba sc es→(match o,o' with | some i,some is=>some (i::is) | _,_=>none)=some is→∃ y q i is',Expr.Name x p=.Name y q∧CC sc y=some i∧Ba sc es=some is'∧is=i::is':=fun{x p} o o' z1 z2 h=>by
  rfl';cases o with
  | none=>exact AI h
  | some i=>cases o' with
   | none=>exact AI h
   | some is'=>exact B8 h fun z=>⟨x,p,i,is',rfl,z1.symm,z2.symm,z⟩
 cases t with
 | Name x p=>exact go _ _ rfl rfl h
 | _=>exact AI h
theorem LO:∀{es:List Expr} {is:List Nat},Ba sc es=some is→(assignEach es env).length=is.length∧(assignEach es env).findIdx? (·.1)=none:=by
 intro q1_
 induction q1_ with
 | nil=>intro is h;cases h;exact⟨rfl,rfl⟩
 | cons t es ih_ =>
  intro is h;refine cj (Fc h) fun x p i is' z_4 q1 q2 z_7=>?_;subst z_4;subst z_7;obtain⟨h1,h2⟩:=ih_ q2;refine⟨?_,?_⟩
  ·show(assignEach es env).length+1=_+1;rw[h1]
  ·show List.findIdx? _ ((false,assign (.Name x p) env)::assignEach es env)=none;rw[List.findIdx?_cons];simp [h2]
theorem J3:∀{es:List Expr} {is:List Nat} {vs:List V} {rs:List Value} {μ μ':AG} {c:Cfg} {s:Shared} {Q:Unit→Shared→Prop},Ba sc es=some is→BX μ is vs=some μ'→At (prog,w) B env sc μ c→s.heap=c.h→c.Rs vs rs →
  (∀ c' tk,Post (prog,w) B (Hm env) c c'→c'.st=c.st→At (prog,w) B env sc μ' c'→Q () { s with heap:=c'.h,toks:=tk }) →
   wpAny (model prog w) A (assignInOrder ((assignEach es env).map (·.2)) rs) Q E s:=by
 intro es
 induction es with
 | nil =>
  intro is vs rs μ μ' c s Q hi e a hs r y;refine B8 hi fun z=>?_;subst z;cases vs with
  | nil =>
   refine B8 e fun z=>?_;subst z;rw[show rs=[] from r]
   refine assignInOrder_nil ?_;have:=y c s.toks (Post.refl' a.sim a.lfr) rfl a;rw[← hs] at this;exact this
  | cons v vs=>exact AI e
 | cons t es ih =>
  intro is vs rs μ μ' c s Q hi e a hs r y;rfl';refine cj (Fc hi) fun x p i is' z_4 q1 q2 z_7=>?_;subst z_4;subst z_7;cases vs with
  | nil=>exact AI e
  | cons v vs=>refine Dx r fun rv rs' z_2 r1 r2=>?_;subst z_2;refine assignInOrder_cons (wpAny_assign_Name (CR a hs q1 r1 fun c' tk p1 h1 a1=>?_));exact ih q2 e a1 rfl (p1.relsL a r2) fun c2 tk2 p2 h2 a2=>y c2 tk2 (p1.trans p2) (h2.trans h1) a2
theorem Ei{target:Expr}{t:T}{x:V}{rv:Value}{μ':AG}{Q:Unit→Shared→Prop}(ht:P9 sc target=some t)(e:FD μ t x=some μ')(hA:A.handled=none)(a:At (prog,w) B env sc μ c)(hs:s.heap=c.h)
  (r:c.R x rv∨(Bj t=false∧∃ T ys vals,x=.tup ys∧rv=.ref T∧c.h.IsTuple T vals∧c.Rs ys vals.toList))
  (y:∀ c' tk,Post (prog,w) B (Hm env) c c'→c'.st=c.st→At (prog,w) B env sc μ' c'→Q () { s with heap:=c'.h,toks:=tk }):wpAny (model prog w) A (assign target env rv) Q E s:=by
 refine Pa ht (fun id p i z q z2=>?_) (fun es k p is z q z2=>?_)
 ·rfl';subst z z2;refine B8 e fun z=>?_;subst z;rcases r with r | ⟨z,_⟩
  ·exact wpAny_assign_Name (CR a hs q r y)
  ·exact EE z.symm
 ·subst z z2;have hx:∃ T ys vals,x=.tup ys∧rv=.ref T∧c.h.IsTuple T vals∧c.Rs ys vals.toList:=by
   rcases r with r | ⟨_,r⟩
   ·cases x with
    | tup ys=>refine Ie r fun T rs z_2 _ h1 h2=>?_;subst z_2;exact y34 T ys rs.toArray rfl rfl h1 h2
    | _=>exact AI e
   ·exact r
  refine x34 hx fun T ys vals z_3 z_4 hT hr=>?_;subst z_3;subst z_4;have hT':IsTup s.heap T vals:=by rw[hs];exact hT
  refine J1 (LO (env:=env) q) fun sh1 sh2=>?_;refine assign_Tuple_tuple hA hT' (by rw[sh1,Fb e,← VRels.len hr];simp) sh2 fun h' he=>?_
  have pg:Post (prog,w) B no c { c with h:=h' }:=a.sim.grow fun b o e=>he b o (Nat.ne_of_lt (Heap.lt_size (hs▸e))) (hs▸e)
  exact J3 q e (a.post pg) rfl (pg.rels (fun _ z=>z.elim) hr) fun c2 tk2 p2 h2 a2=>y c2 tk2 ((pg.ofNo a.lfr).trans p2) h2 a2
end
end SSoundP
section SSoundQ
open PySem PySem.W PySem.Calls PyProof.Rows PySem.SeqAt
section
variable {P:PW}{B:Heap}{env:Env}{sc:List (Str×NameKind)}{μ:AG}{c c' c₂:Cfg}{lx:Addr→Prop}
theorem At.postL(a:At P B env sc μ c)(p:Post P B lx c c')(hL:¬ lx env.locals):At P B env sc μ c':=by refine BA a.loc fun m hn hm=>?_;have hl:∀ b,lx b→c.own b:=fun b z=>.inl (p.lfr b z);refine⟨p.sim,a.eok,p.fr▸a.frL,m,JL hn fun o e=>p.keep _ o (a.sim.disj _ a.frL) hL e,fun x i v hs hv=>?_⟩;refine BA (hm x i v hs hv) fun rv h1 h2=>?_;exact Ft rv (BY.imp h1 fun ca o h4 h5=>p.keepOwn hl ca o h4 h5) (p.rel hl h2)
theorem At.shed{h':Heap}{fr:Addr→Prop}{st:St}(a:At P B env sc μ c₂)(s:Sim P B { c₂ with fr:=fr,h:=h',st:=st })(hn':st.next=c₂.st.next)(ko:∀ b o,¬ c₂.own b→c₂.h.get? b=some o→h'.get? b=some o∧¬ Cfg.own { c₂ with fr:=fr,h:=h',st:=st } b)
  (hL:fr env.locals) (kL:∀ o,c₂.h.get? env.locals=some o→h'.get? env.locals=some o):At P B env sc μ { c₂ with fr:=fr,h:=h',st:=st }:=by
 refine BA a.loc fun m hn hm=>?_;refine⟨s,a.eok,hL,m,JL hn kL,fun x i v hs hv=>?_⟩;refine BA (hm x i v hs hv) fun rv h1 h2=>?_;exact Ft rv (BY.imp h1 ko) (BM.mono ko (fun _ _=>rfl) (Nat.le_of_eq hn'.symm) _ _ h2)
theorem Post.leave2{h' h'':Heap}{x lx0:Addr→Prop}{ro':Nat}(s0:Sim P B c)(k:∀ b o,c.h.get? b=some o→h'.get? b=some o)(hx:∀ a,x a→c.h.get? a=none)(hl:∀ a,lx a→lx0 a∨x a)(hl0:∀ a,lx0 a→c.fr a)(hro:c.st.ro≤ro')
  (p:Post P B lx { c with h:=h',fr:=fun a=>c.fr a∨x a,st:=⟨c.st.objs,c.st.lo,ro'⟩ } c₂) (k2:∀ b o,¬ x b→c₂.h.get? b=some o→h''.get? b=some o) :
  Post P B lx0 c { c₂ with fr:=c.fr,h:=h'',st:=⟨c₂.st.objs,c₂.st.lo,c.st.ro⟩ }∧(∀ b o,¬ c₂.own b→c₂.h.get? b=some o→h''.get? b=some o∧¬ Cfg.own { c₂ with fr:=c.fr,h:=h'',st:=⟨c₂.st.objs,c₂.st.lo,c.st.ro⟩ } b):=by
 have hfr:∀ a,c₂.fr a↔(c.fr a∨x a):=fun a=>by rw[p.fr]
 have nx:∀ a,x a→¬ c.fr a:=fun a z f=>s0.notfr (hx a z) f;have ko:∀ b o,¬ c₂.own b→c₂.h.get? b=some o→h''.get? b=some o∧¬ Cfg.own { c₂ with fr:=c.fr,h:=h'',st:=⟨c₂.st.objs,c₂.st.lo,c.st.ro⟩ } b:=fun b o hb e =>
  ⟨k2 b o (fun z=>hb (.inl ((hfr b).mpr (.inr z)))) e,fun f=>hb (f.elim (fun f=>.inl ((hfr b).mpr (.inl f))) .inr)⟩
 have kF:∀ a,c₂.F a→¬ x a:=fun a f z=>p.sim.disj a ((hfr a).mpr (.inr z)) f;have hn:c.st.next≤c₂.st.next:=p.next;refine⟨⟨⟨fun b o e=>?_,fun i o e=>?_,p.sim.inj,p.sim.two,fun a f=>?_,fun a f F=>p.sim.disj a ((hfr a).mpr (.inl f)) F,p.sim.lo,Nat.le_trans s0.ro hn,fun a f=>p.sim.above a (f.elim (fun f=>.inl ((hfr a).mpr (.inl f))) .inr)⟩,rfl,fun b o f l e=>?_,hl0,fun b f=>?_,p.agree,p.next,p.lo,rfl,p.old,fun i hi=>p.roeq i (Nat.lt_of_lt_of_le hi hro),fun i o a ob hi e f h=>?_⟩,ko⟩
 ·have q:=p.sim.base b o e;exact ko b o q.2 q.1
 ·exact(p.sim.obj i o e).mono ko (fun _ _=>rfl) (Nat.le_refl _) (fun a f ob e'=>k2 a ob (kF a ⟨i,o,e,f⟩) e') rfl rfl
 ·obtain⟨o,e⟩:=p.sim.frat a ((hfr a).mpr (.inl f));exact⟨o,k2 a o (fun z=>nx a z f) e⟩
 ·have nxb:¬ x b:=fun z=>AQ e (hx b z);exact k2 b o nxb (p.keep b o f (fun z=>(hl b z).elim l nxb) (k b o e))
 ·refine(p.fp b f).imp id fun z=>?_;cases e:c.h.get? b with
  | none=>rfl
  | some o=>exact AQ (k b o e) z
 ·have nxa:¬ x a:=fun z=>AQ h (hx a z);exact k2 a ob nxa (p.rokeep i o a ob (Nat.lt_of_lt_of_le hi hro) e f (k a ob h))
end
noncomputable def Xe(c:Cfg):Fl→Flow→Prop
 | .next,f=>f=.next
 | .cont,f=>f=.cont
 | .ret v,f=>∃ rv,f=.ret rv∧c.R v rv
section
variable {prog:Program}{w:World}{B:Heap}{A:Around}{E:Value→Shared→Prop}{s:Shared}{c:Cfg}{env:Env}{sc:List (Str×NameKind)}{μ:AG}{target:Expr}{t:T}
noncomputable def VX(prog:Program)(w:World)(B:Heap)(A:Around)(env:Env)(sc:List (Str×NameKind))(bodyM:AG→St→M (Fl×AG))(body:List Stmt):Prop :=
 ∀(μ:AG) (c:Cfg) (s:Shared) (fl:Fl) (μ':AG) (st':St) (Q:Flow→Shared→Prop) (E:Value→Shared→Prop),At (prog,w) B env sc μ c→s.heap=c.h→bodyM μ c.st=some ((fl,μ'),st') →
  (∀ c' tk f,Post (prog,w) B (Hm env) c c'→c'.st=st'→At (prog,w) B env sc μ' c'→Xe c' fl f→Q f { s with heap:=c'.h,toks:=tk })→wpAny (model prog w) A (execs body env) Q E s
theorem PN{st:St}{src:V}(h:∀ i,src=.ref i→i<st.next)(hr:st.ro≤st.next):st.ro≤(B5 st src).ro∧(B5 st src).ro≤st.next∧(∀ i,src=.ref i→i<(B5 st src).ro)∧B5 st src=⟨st.objs,st.lo,(B5 st src).ro⟩:=by
 cases src with
 | ref i=>have:=h i rfl;refine⟨Nat.le_max_left _ _,Nat.max_le.mpr ⟨hr,this⟩,fun j e=>?_,rfl⟩;cases (e);exact Nat.lt_of_lt_of_le (Nat.lt_succ_self _) (Nat.le_max_right _ _)
 | _=>exact⟨Nat.le_refl _,hr,fun _ e=>(by cases (e)),rfl⟩
theorem Ge{α:Type}{xs:List α}{i:Nat}(h:i<xs.length):xs.drop i=xs[i]::xs.drop (i+1):=List.drop_eq_getElem_cons h
inductive FLI(P:PW)(B:Heap)(env:Env)(sc:List (Str×NameKind))(lw:Addr→Prop)(cb:Cfg)(S:Nat→Heap→Prop)(n:Nat)(F:Nat→AG→St→Prop)(s:Shared):Nat→Shared→Prop
 | mk (i:Nat) (c':Cfg) (tk:Nat) (μ':AG) (p:Post P B lw cb c') (a:At P B env sc μ' c') (st:S i c'.h) (hi:i≤n) (e:F i μ' c'.st):FLI P B env sc lw cb S n F s (n+1 - i) { s with heap:=c'.h,toks:=tk }
theorem S9{t:T}{body:AG→St→M (Fl×AG)}{x:V}{r:List V}{μ:AG}{st:St}{z:(Fl×AG)×St}{P:Prop}(e:Bn t body (x::r) μ st=some z)(h:∀ μ1 p st1,FD μ t x=some μ1→body μ1 st=some (p,st1)→(match p.1 with
   | .ret v=>some ((.ret v,p.2),st1)
   | _=>Bn t body r p.2 st1)=some z→P):P:=by
 have e:(match FD μ t x with
  | none=>none
  | some μ=>Aj (body μ st) fun p st'=>match p.1 with
   | .ret v=>some ((.ret v,p.2),st')
   | _=>Bn t body r p.2 st')=some z:=e
 generalize q:FD μ t x=o at e;cases o with
 | none=>exact AI e
 | some μ1=>exact Aw e fun b st1 e1 e=>h μ1 b st1 q e1 e
theorem QS{xs:List V}{src:V}{I:Addr}{h₂:Heap}{body:List Stmt}{bodyM:AG→St→M (Fl×AG)}{fl:Fl}{μf:AG}{stf:St}{R:Result→Shared→Prop}(ht:P9 sc target=some t)(hh:A.handled=none)(a:At (prog,w) B env sc μ c)(hsrc:∀ i,src=.ref i→i<c.st.next)
  (hs:s.heap=h₂) (d:DW prog w A target t xs c src I h₂) (hb:VX prog w B A env sc bodyM body) (e:Bn t bodyM xs μ (B5 c.st src)=some ((fl,μf),stf))
  (y:∀ c' tk f,Post (prog,w) B (Hm env) c c'→c'.st=Aa c.st.ro stf→At (prog,w) B env sc μf c'→Xe c' fl f→f≠.cont→R (.ok f) { s with heap:=c'.h,toks:=tk }) :
  codeAny (model prog w) A (.forLoop target (.ref I) body [] env) R s:=by
 rfl';refine x61 d fun n fp wr Pt Md S d=>?_;refine VU (PN hsrc a.sim.ro) fun l1 l2 l3 l4=>?_;rw[l4] at e;generalize hro:(B5 c.st src).ro=ro' at e l1 l2 l3;have sim0:=a.sim.marks (lo:=c.st.lo) (ro:=ro') a.sim.lo l2;obtain⟨sim1,ko1⟩:=sim0.enter (x:=fun b=>b∈wr) d.old (fun b hb=>d.new b hb);have hcL:∃ o,c.h.get? env.locals=some o:=a.sim.frat _ a.frL;have hLw:¬ env.locals∈wr:=fun z=>let ⟨_,e⟩:=hcL;AQ e (d.new _ z).1
 have a0:At (prog,w) B env sc μ { c with st:=⟨c.st.objs,c.st.lo,ro'⟩ }:=⟨sim0,a.eok,a.frL,a.loc⟩
 have a1:=a0.enter d.old sim1 ko1
 let lw:Addr→Prop:=fun b=>Hm env b∨b∈wr
 let cb:Cfg:={ c with h:=h₂,fr:=fun b=>c.fr b∨b∈wr,st:=⟨c.st.objs,c.st.lo,ro'⟩ }
 have hlw:∀ b,lw b→cb.fr b:=fun b z=>z.elim (fun z=>.inl (a.lfr b z)) .inr;refine codeAny_forLoop_any (FLI (prog,w) B env sc lw cb S n (fun i μ st=>Bn t bodyM (xs.drop i) μ st=some ((fl,μf),stf)) s) ?_ (n+1)
  (by
   have z:=FLI.mk (P:=(prog,w)) (B:=B) (env:=env) (sc:=sc) (lw:=lw) (cb:=cb) (S:=S) (n:=n) (F:=fun i μ st=>Bn t bodyM (xs.drop i) μ st=some ((fl,μf),stf)) (s:=s) 0 cb s.toks μ (Post.refl' sim1 hlw) a1 d.st (Nat.zero_le _) e;rw[show({ s with heap:=cb.h,toks:=s.toks }:Shared)=s by rw[show cb.h=s.heap from hs.symm]] at z
   exact z)
 intro k s' hI;cases hI with
 | mk i c' tk μ' p a' st' hi e' =>
 have e':Bn t bodyM (xs.drop i) μ' c'.st=some ((fl,μf),stf):=e';have out:∀(h'':Heap) (tk':Nat) (f:Flow) (c'':Cfg) (μ'':AG),Post (prog,w) B lw cb c''→At (prog,w) B env sc μ'' c''→(∀ b o,b∉wr→c''.h.get? b=some o→h''.get? b=some o)→Xe c'' fl f→f≠.cont→c''.st=stf→μ''=μf→R (.ok f) { s with heap:=h'',toks:=tk' }:=by
  intro h'' tk' f c'' μ'' p a'' k2 hf hc hst hμ;rfl';subst hμ;obtain⟨q,ko⟩:=Post.leave2 (h'':=h'') (x:=fun b=>b∈wr) (lx0:=Hm env) a.sim d.old (fun b z=>(d.new b z).1) (fun b z=>z) a.lfr l1 p k2;have hLc:∀ o,c''.h.get? env.locals=some o→h''.get? env.locals=some o:=fun o e=>k2 _ o hLw e;refine y { c'' with fr:=c.fr,h:=h'',st:=⟨c''.st.objs,c''.st.lo,c.st.ro⟩ } tk' f q ?_ (a''.shed q.sim rfl ko a.frL hLc) ?_ hc
  ·show(⟨c''.st.objs,c''.st.lo,c.st.ro⟩:St)=Aa c.st.ro stf;rw[hst];rfl
  ·cases fl with
   | next=>exact hf
   | cont=>exact hf
   | ret v=>refine BA hf fun rv h1 h2=>?_;clear hf;exact Ft rv h1 (BM.mono ko (fun _ _=>rfl) (Nat.le_refl _) _ _ h2)
 by_cases hlt:i<n
 ·have hlt':i<xs.length:=d.num▸hlt;rw[Ge hlt'] at e';refine d.W.item i _ _ _ hlt st' fun v h₃ tk₃ hMd hk₃=>?_;refine d.W.go i v _ _ _ hMd fun h₄ hP hst₄ hk₄=>?_;have hk:∀ b o,b∉wr→c'.h.get? b=some o→h₄.get? b=some o:=fun b o hb e=>hk₄ b o hb (hk₃ b o hb e);have pw:Post (prog,w) B (fun b=>b∈wr) c' { c' with h:=h₄ }:=a'.sim.change (fun b z=>by rw[p.fr];exact .inr z) hk (d.live _ _ hst₄)
  have p4:Post (prog,w) B lw cb { c' with h:=h₄ }:=p.trans (pw.weak (fun b z=>.inr z) (fun b z=>by rw[p.fr];exact hlw b z))
  have a4:=a'.postL pw hLw;refine S9 e' fun μ1 q st5 hset e5 e6=>?_
  ·clear e';have hx:xs[i]?=some xs[i]:=List.getElem?_eq_getElem hlt';have lift:∀{v:V} {rv:Value},c.R v rv→Cfg.R { c' with h:=h₄ } v rv:=fun{v rv} r=>p4.rel (fun b z=>.inl (hlw b z)) (BM.mono ko1 (fun _ _=>rfl) (Nat.le_refl _) _ _ r)
   have lifts:∀{v:List V} {rv:List Value},c.Rs v rv→Cfg.Rs { c' with h:=h₄ } v rv:=fun{v rv} r=>p4.rels (fun b z=>.inl (hlw b z)) (VRels.mono ko1 (fun _ _=>rfl) (Nat.le_refl _) _ _ r)
   refine Ei (c:={ c' with h:=h₄ }) ht hset hh a4 rfl ((d.item i v h₄ _ hP hx).imp lift fun⟨z,T,ys,vals,h1,h2,h3,h4⟩=>⟨z,T,ys,vals,h1,h2,h3,lifts h4⟩) fun c5 tk5 p5 h5 a5=>?_
   have e5':bodyM μ1 c5.st=some (q,st5):=by rw[h5];exact e5
   refine hb μ1 c5 _ q.1 q.2 st5 _ _ a5 rfl e5' fun c6 tk6 f p6 h6 a6 r6=>?_;have p6':Post (prog,w) B lw cb c6:=p4.trans ((p5.trans p6).weak (fun b z=>.inl z) (fun b z=>by rw[p4.fr];exact hlw b z))
   have again:∀(f':Fl),(Bn t bodyM (xs.drop (i+1)) q.2 st5=some ((fl,μf),stf))→∃ m,m<n+1 - i∧FLI (prog,w) B env sc lw cb S n (fun i μ st=>Bn t bodyM (xs.drop i) μ st=some ((fl,μf),stf)) s m { s with heap:=c6.h,toks:=tk6 }:=by
    intro _ e7;refine Ft (n+1 - (i+1)) (by exact p2 hlt) (FLI.mk (s:=s) (i+1) c6 tk6 q.2 p6' a6 ?_ hlt (by rw[h6];exact e7))
    refine d.W.frame _ _ _ hst₄ fun b hb o eo=>?_;have TJ:=p5.trans p6;rfl';rcases d.fix b hb with z | ⟨⟨o₁,ho₁⟩,z⟩
    ·exact TJ.keep b o (a4.sim.disj b (by rw[p4.fr];exact .inr z)) (fun l=>hLw ((show b=env.locals from l)▸z)) eo
    ·rcases z with z | ⟨j,oj,hsj,hj,hfoot⟩
     ·have hno:¬ cb.own b:=(ko1 b o₁ z ho₁).2;have hno4:¬ Cfg.own { c' with h:=h₄ } b:=(p4.keepOwn (fun b z=>.inl (hlw b z)) b o₁ hno (ko1 b o₁ z ho₁).1).2
      exact(TJ.keepOwn (fun b z=>.inl (a4.lfr b z)) b o hno4 eo).1
     ·have hj':j<ro':=l3 j hsj;have hg:cb.st.get j=some oj:=hj;have hg4:(Cfg.st { c' with h:=h₄ }).get j=some oj:=(p4.roeq j hj').trans hg
      refine TJ.rokeep j oj b o (by rw[p4.ro];exact hj') hg4 ?_ eo
      have g:=p4.agree j (St.get_lt hg);unfold Cfg.Foot at hfoot ⊢;rw[g.1,g.2];exact hfoot
   cases hq:q.1 with
   | ret v0=>rw[hq] at r6 e6;dsimp only at e6;cases e6;refine BA r6 fun rv z_1 hr=>?_;subst z_1;exact out c6.h tk6 (.ret rv) c6 q.2 p6' a6 (fun _ _ _ e=>e) ⟨rv,rfl,hr⟩ (fun z=>by cases (z)) h6 rfl
   | next =>
    rw[hq] at r6 e6;rw[show f=.next from r6]
    exact again .next e6
   | cont =>
    rw[hq] at r6 e6;rw[show f=.cont from r6]
    exact again .cont e6
 ·have hin:i=n:=by exact o62 hi hlt
  subst hin;rw[List.drop_eq_nil_of_le (by rw[d.num];exact Nat.le_refl _)] at e'
  cases e';refine d.W.done _ _ _ st' fun h₃ tk₃ hk₃=>wpAny_execs_nil ?_;exact out h₃ tk₃ .next c' _ p a' hk₃ rfl (fun z=>by cases (z)) rfl rfl
end
end SSoundQ
section SSoundR
open PySem PySem.W PySem.Calls PyProof.Rows PySem.SeqAt
structure PostX(P:PW)(B:Heap)(x2 lx:Addr→Prop)(c c':Cfg):Prop where
 sim:Sim P B c'
 fr:∀ a,c'.fr a↔(c.fr a∨x2 a)
 new:∀ a,x2 a→c.h.get? a=none
 keep:∀ b o,¬ c.F b→¬ lx b→c.h.get? b=some o→c'.h.get? b=some o
 lfr:∀ a,lx a→c.fr a
 fp:∀ b,c'.F b→c.F b∨c.h.get? b=none
 agree:∀ i,i<c.st.next→c'.ρ i=c.ρ i∧c'.δ i=c.δ i
 next:c.st.next≤c'.st.next
 lo:c'.st.lo=c.st.lo
 ro:c'.st.ro=c.st.ro
 old:∀ b,b≤c.st.lo→DS b c.st→DS b c'.st
 roeq:∀ i,i<c.st.ro→c'.st.get i=c.st.get i
 rokeep:∀ i o a ob,i<c.st.ro→c.st.get i=some o→c.Foot i o a→c.h.get? a=some ob→c'.h.get? a=some ob
section
variable {P:PW}{B:Heap}{c c' c'' c₂:Cfg}{lx lx0 x x2:Addr→Prop}
theorem PostX.trans(p:PostX P B x2 lx0 c c')(q:Post P B lx0 c' c''):PostX P B x2 lx0 c c'' where
 sim:=q.sim
 fr:=fun a=>by rw[q.fr];exact p.fr a
 new:=p.new
 keep:=fun b o f l e=>q.keep b o (fun f'=>(p.fp b f').elim f fun z=>AQ e z) l (p.keep b o f l e)
 lfr:=p.lfr
 fp:=fun b f=>by
  rcases q.fp b f with g | z
  ·exact p.fp b g
  ·by_cases g:c.F b
   ·exact .inl g
   ·right;cases e:c.h.get? b with
    | none=>rfl
    | some o =>
     by_cases l:lx0 b
     ·refine Pd (p.sim.frat b ((p.fr b).mpr (.inl (p.lfr b l)))) fun o' e'=>?_;exact AQ e' z
     ·exact AQ (p.keep b o g l e) z
 agree:=fun i hi=>by have a:=p.agree i hi;have b:=q.agree i (Nat.lt_of_lt_of_le hi p.next);exact⟨b.1.trans a.1,b.2.trans a.2⟩
 next:=Nat.le_trans p.next q.next
 lo:=q.lo.trans p.lo
 ro:=q.ro.trans p.ro
 old:=fun b hb x=>q.old b (p.lo▸hb) (p.old b hb x)
 roeq:=fun i hi=>(q.roeq i (p.ro▸hi)).trans (p.roeq i hi)
 rokeep:=fun i o a ob hi e f h=>by refine q.rokeep i o a ob (p.ro▸hi) ((p.roeq i hi).trans e) ?_ (p.rokeep i o a ob hi e f h);have g:=p.agree i (St.get_lt e);unfold Cfg.Foot at f ⊢;rw[g.1,g.2];exact f
theorem PostX.done{h'':Heap}(s0:Sim P B c)(p:PostX P B x2 lx0 c c')(k2:∀ b o,¬ x2 b→c'.h.get? b=some o→h''.get? b=some o) :
  Post P B lx0 c { c' with fr:=c.fr,h:=h'' }∧(∀ b o,¬ c'.own b→c'.h.get? b=some o→h''.get? b=some o∧¬ Cfg.own { c' with fr:=c.fr,h:=h'' } b):=by
 have nx:∀ a,x2 a→¬ c.fr a:=fun a z f=>s0.notfr (p.new a z) f;have ko:∀ b o,¬ c'.own b→c'.h.get? b=some o→h''.get? b=some o∧¬ Cfg.own { c' with fr:=c.fr,h:=h'' } b:=fun b o hb e =>
  ⟨k2 b o (fun z=>hb (.inl ((p.fr b).mpr (.inr z)))) e,fun f=>hb (f.elim (fun f=>.inl ((p.fr b).mpr (.inl f))) .inr)⟩
 have kF:∀ a,c'.F a→¬ x2 a:=fun a f z=>p.sim.disj a ((p.fr a).mpr (.inr z)) f;refine⟨⟨⟨fun b o e=>?_,fun i o e=>?_,p.sim.inj,p.sim.two,fun a f=>?_,fun a f F=>p.sim.disj a ((p.fr a).mpr (.inl f)) F,p.sim.lo,p.sim.ro,fun a f=>p.sim.above a (f.elim (fun f=>.inl ((p.fr a).mpr (.inl f))) .inr)⟩,rfl,fun b o f l e=>?_,p.lfr,p.fp,p.agree,p.next,p.lo,p.ro,p.old,p.roeq,fun i o a ob hi e f h=>?_⟩,ko⟩
 ·have q:=p.sim.base b o e;exact ko b o q.2 q.1
 ·exact(p.sim.obj i o e).mono ko (fun _ _=>rfl) (Nat.le_refl _) (fun a f ob e'=>k2 a ob (kF a ⟨i,o,e,f⟩) e') rfl rfl
 ·obtain⟨o,e⟩:=p.sim.frat a ((p.fr a).mpr (.inl f));exact⟨o,k2 a o (fun z=>nx a z f) e⟩
 ·exact k2 b o (fun z=>AQ e (p.new b z)) (p.keep b o f l e)
 ·exact k2 a ob (fun z=>AQ h (p.new a z)) (p.rokeep i o a ob hi e f h)
theorem Post.leaveX{h' h'':Heap}{ro':Nat}(s0:Sim P B c)(k:∀ b o,c.h.get? b=some o→h'.get? b=some o)(hx:∀ a,x a→c.h.get? a=none)(h2:∀ a,x2 a→x a)(hl:∀ a,lx a→lx0 a∨x a)(hl0:∀ a,lx0 a→c.fr a)(hro:c.st.ro≤ro')
  (p:Post P B lx { c with h:=h',fr:=fun a=>c.fr a∨x a,st:=⟨c.st.objs,c.st.lo,ro'⟩ } c₂) (k2:∀ b o,¬(x b∧¬ x2 b)→c₂.h.get? b=some o→h''.get? b=some o) :
  PostX P B x2 lx0 c { c₂ with fr:=fun a=>c.fr a∨x2 a,h:=h'',st:=⟨c₂.st.objs,c₂.st.lo,c.st.ro⟩ }∧(∀ b o,¬ c₂.own b→c₂.h.get? b=some o→h''.get? b=some o∧¬ Cfg.own { c₂ with fr:=fun a=>c.fr a∨x2 a,h:=h'',st:=⟨c₂.st.objs,c₂.st.lo,c.st.ro⟩ } b):=by
 have hfr:∀ a,c₂.fr a↔(c.fr a∨x a):=fun a=>by rw[p.fr]
 have nx:∀ a,x a→¬ c.fr a:=fun a z f=>s0.notfr (hx a z) f;have ko:∀ b o,¬ c₂.own b→c₂.h.get? b=some o→h''.get? b=some o∧¬ Cfg.own { c₂ with fr:=fun a=>c.fr a∨x2 a,h:=h'',st:=⟨c₂.st.objs,c₂.st.lo,c.st.ro⟩ } b:=fun b o hb e =>
  ⟨k2 b o (fun z=>hb (.inl ((hfr b).mpr (.inr z.1)))) e,fun f=>hb (f.elim (fun f=>.inl ((hfr b).mpr (f.imp id (h2 b)))) .inr)⟩
 have kF:∀ a,c₂.F a→¬ x a:=fun a f z=>p.sim.disj a ((hfr a).mpr (.inr z)) f;have hn:c.st.next≤c₂.st.next:=p.next;refine⟨⟨⟨fun b o e=>?_,fun i o e=>?_,p.sim.inj,p.sim.two,fun a f=>?_,fun a f F=>p.sim.disj a ((hfr a).mpr (f.imp id (h2 a))) F,p.sim.lo,Nat.le_trans s0.ro hn,fun a f=>p.sim.above a (f.elim (fun f=>.inl ((hfr a).mpr (f.imp id (h2 a)))) .inr)⟩,fun _=>Iff.rfl,fun a z=>hx a (h2 a z),fun b o f l e=>?_,hl0,fun b f=>?_,p.agree,p.next,p.lo,rfl,p.old,fun i hi=>p.roeq i (Nat.lt_of_lt_of_le hi hro),fun i o a ob hi e f h=>?_⟩,ko⟩
 ·have q:=p.sim.base b o e;exact ko b o q.2 q.1
 ·exact(p.sim.obj i o e).mono ko (fun _ _=>rfl) (Nat.le_refl _) (fun a f ob e'=>k2 a ob (fun z=>kF a ⟨i,o,e,f⟩ z.1) e') rfl rfl
 ·obtain⟨o,e⟩:=p.sim.frat a ((hfr a).mpr (f.imp id (h2 a)));exact⟨o,k2 a o (fun z=>f.elim (nx a z.1) z.2) e⟩
 ·have nxb:¬ x b:=fun z=>AQ e (hx b z);exact k2 b o (fun z=>nxb z.1) (p.keep b o f (fun z=>(hl b z).elim l nxb) (k b o e))
 ·refine(p.fp b f).imp id fun z=>?_;cases e:c.h.get? b with
  | none=>rfl
  | some o=>exact AQ (k b o e) z
 ·have nxa:¬ x a:=fun z=>AQ h (hx a z);exact k2 a ob (fun z=>nxa z.1) (p.rokeep i o a ob (Nat.lt_of_lt_of_le hi hro) e f (k a ob h))
end
section
variable {prog:Program}{w:World}{B:Heap}{N:Names}{CT:Nat→Option Cl}{C:AC}{n:Nat}
theorem NB{A:Around}{env:Env}{s:Shared}{Q:Bool→Shared→Prop}{E:Value→Shared→Prop}:∀(ifs:List Expr),Q false s →
  wpAny (model prog w) A (forIn ifs false fun c r=>if r=true then do let ok ← isTrue c env (eval c env);pure (ForInStep.yield ok) else pure (ForInStep.yield r)) Q E s:=by
 intro q1_
 induction q1_ with
 | nil=>intro h;exact wpAny_pure h
 | cons e r ih_ =>
  intro h;rw[List.forIn_cons,if_neg (by decide)]
  exact wpAny_bind (wpAny_pure (ih_ h))
theorem NC:∀{ifs:List Expr},(∀ e∈ifs,Both prog w B N CT C n e)→∀(A:Around) (env:Env) (sc:List (Str×NameKind)) (μ:AG) (c:Cfg) (s:Shared) (b:Bool) (st':St) (Q:Bool→Shared→Prop) (E:Value→Shared→Prop),
  AOk n A→At (prog,w) B env sc μ c→s.heap=c.h→evIfs CT C μ c.st (trEs N sc ifs)=some (b,st')→Dm (prog,w) B c b st' Q s →
   wpAny (model prog w) A (forIn ifs true fun c r=>if r=true then do let ok ← isTrue c env (eval c env);pure (ForInStep.yield ok) else pure (ForInStep.yield r)) Q E s:=by
 intro q1_
 induction q1_ with
 | nil=>intro _ A env sc μ c s b st' Q E hA a hs e y;rfl';cases e;exact wpAny_pure (y.now (tk:=s.toks) a.sim hs)
 | cons x r ih_ =>
  intro h A env sc μ c s b st' Q E hA a hs e y;refine EK (AO e) fun v s1 e1 e=>?_;rw[List.forIn_cons,if_pos rfl];rfl';split at e
  ·rename_i q;refine wpAny_bind (wpAny_bind ((h x (.head _)).t A env sc μ c s v true s1 _ E hA a hs e1 q ?_));intro c1 tk1 p1 q1;subst q1;exact wpAny_pure (ih_ (fun e he=>h e (.tail _ he)) A env sc μ c1 _ b st' Q E hA (a.post p1) rfl e (y.next p1))
  ·rename_i q;cases e;refine wpAny_bind (wpAny_bind ((h x (.head _)).t A env sc μ c s v false st' _ E hA a hs e1 q ?_));intro c1 tk1 p1 q1;exact wpAny_pure (NB r (y c1 tk1 p1 q1))
  ·cases e
theorem VRels.snoc{h:Heap}{own:Addr→Prop}{ρ:Nat→Addr}{k:Nat}{vs:List V}{rs:List Value}{v:V}{r:Value}(x:VRels h own ρ k vs rs)(y:BM h own ρ k v r):VRels h own ρ k (vs++[v]) (rs++[r]):=VRels.append x (VRels.one y)
theorem Fu{A:Around}{R:Result→Shared→Prop}{s:Shared}{elt target iter:Expr}{ifs:List Expr}{scope:Scope}{pos:Pos}{it acc:Value}{env:Env}(I:Nat→Shared→Prop)
  (turn:∀ n s,I n s→wpAny (model prog w) A (pyNext it) (fun r s₁=>match r with
   | none=>R (.ok .next) s₁
   | some v=>wpAny (model prog w) A (letOwnedTupleGo target it v) (fun _ s₁'=>wpAny (model prog w) A (assign target env v) (fun _ s₂ =>
     wpAny (model prog w) A (forIn ifs true fun c r=>if r=true then do let ok ← isTrue c env (eval c env);pure (ForInStep.yield ok) else pure (ForInStep.yield r)) (fun ok s₃ =>
      if ok=true then wpAny (model prog w) A (eval elt env) (fun x s₄ =>
       wpAny (model prog w) A (call (.builtin "list.append") [acc,x]) (fun _ s₅=>∃ m,m<n∧I m s₅) (notedBy (model prog w) A env fun e s'=>R (.error e) s') s₄) (notedBy (model prog w) A env fun e s'=>R (.error e) s') s₃
      else ∃ m,m<n∧I m s₃) (notedBy (model prog w) A env fun e s'=>R (.error e) s') s₂) (notedBy (model prog w) A env fun e s'=>R (.error e) s') s₁') (notedBy (model prog w) A env fun e s'=>R (.error e) s') s₁) (notedBy (model prog w) A env fun e s'=>R (.error e) s') s)
  (n:Nat) (h:I n s) :
  codeAny (model prog w) A (.compLoop (.ListComp elt [⟨target,iter,ifs,0⟩] scope pos) 0 it acc env) R s:=by
 refine codeAny_loop rfl I (fun n s hI=>?_) n h;show wpAny _ A ((compTurn (.ListComp elt [⟨target,iter,ifs,0⟩] scope pos) 0 it acc env).onRaise (fun x=>do noteFrame x env;theTreesLotGoes x)) _ _ s
 refine wpAny_noted ?_;rw[compTurn_list];refine wpAny_bind (wpAny_standAt (wpAny_bind (wpAny_mono (turn n s hI) (fun r s₁ h₁=>?_) fun _ _ h'=>h')));cases r with
 | none=>exact wpAny_pure h₁
 | some v =>
  refine wpAny_bind (wpAny_mono h₁ (fun _ s₁' h₁'=>?_) fun _ _ h'=>h');refine wpAny_bind (wpAny_mono h₁' (fun _ s₂ h₂=>wpAny_bind (wpAny_mono h₂ (fun ok s₃ h₃=>?_) fun _ _ h'=>h')) fun _ _ h'=>h');cases ok with
  | false=>exact wpAny_pure ⟨rfl,h₃⟩
  | true=>exact wpAny_bind (wpAny_bind (wpAny_mono h₃ (fun x s₄ h₄=>wpAny_bind (wpAny_mono h₄ (fun _ s₅ h₅=>wpAny_pure (wpAny_pure ⟨rfl,h₅⟩)) fun _ _ h'=>h')) fun _ _ h'=>h'))
inductive CLI(P:PW)(B:Heap)(cenv:Env)(sc:List (Str×NameKind))(x:Addr→Prop)(cb:Cfg)(D:Addr)(S:Nat→Heap→Prop)(np:Nat)(F:Nat→AG→St→List V→Prop)(vs:List V)(s:Shared):Nat→Shared→Prop
 | mk (i:Nat) (c':Cfg) (tk:Nat) (μ':AG) (done:List V) (ys:List Value) (rest:List V) (p:Post P B x cb c') (a:At P B cenv sc μ' c') (st:S i c'.h) (hi:i≤np) (hl:c'.h.IsList D ys.toArray) (hr:c'.Rs done ys) (hyl:ys.length≤i) (e:F i μ' c'.st rest) (hvs:vs=done++rest) :
  CLI P B cenv sc x cb D S np F vs s (np+1 - i) { s with heap:=c'.h,toks:=tk }
theorem QA{test:AG→St→M Bool}{elt:AG→St→M V}{t:T}{x:V}{r vs:List V}{μ:AG}{st st':St}{P:Prop}(e:Ax test elt t (x::r) μ st=some (vs,st'))(h:∀ μ1 b st1,FD μ t x=some μ1→test μ1 st=some (b,st1)→(match b with
   | true=>Aj (elt μ1 st1) fun x st₂=>Aj (Ax test elt t r μ1 st₂) fun xs st=>some (x::xs,st)
   | false=>Ax test elt t r μ1 st1)=some (vs,st')→P):P:=by
 have e:(match FD μ t x with
  | none=>none
  | some μ'=>Aj (test μ' st) fun b st₁=>match b with
   | true=>Aj (elt μ' st₁) fun x st₂=>Aj (Ax test elt t r μ' st₂) fun xs st=>some (x::xs,st)
   | false=>Ax test elt t r μ' st₁)=some (vs,st'):=e
 generalize q:FD μ t x=o at e;cases o with
 | none=>exact AI e
 | some μ1=>exact Aw e fun b st1 e1 e=>h μ1 b st1 q e1 e
theorem Pz{A:Around}{cenv:Env}{sc:List (Str×NameKind)}{μ:AG}{c cb:Cfg}{s:Shared}{target elt iter:Expr}{ifs:List Expr}{scope:Scope}{pos:Pos}{t:T}{xs vs:List V}{src:V}{I D:Addr}{h₂ h₃:Heap}{x:Addr→Prop}{ro':Nat}{stf:St}{R:Result→Shared→Prop}
  {np:Nat} {fp wr:List Addr} {Pt Md:Nat→Value→Heap→Prop} {S:Nat→Heap→Prop}
  (helt:AF prog w B N CT C n elt) (hifs:∀ e∈ifs,Both prog w B N CT C n e) (hA:AOk n A) (ht:P9 sc target=some t) (d:Drawn prog w A target t xs c src I h₂ np fp wr Pt Md S)
  (hcb:cb={ c with h:=h₃,fr:=fun b=>c.fr b∨x b,st:=⟨c.st.objs,c.st.lo,ro'⟩ }) (ko:∀ b o,¬ c.own b→c.h.get? b=some o→h₃.get? b=some o∧¬ cb.own b)
  (hxw:∀ b∈wr,x b) (hxD:x D) (hDw:D∉wr) (hDfp:D∉fp) (hCw:cenv.locals∉wr) (hCx:x cenv.locals) (hCD:cenv.locals≠D) (hx:∀ b,x b→c.h.get? b=none) (hsrc:∀ i,src=.ref i→i<ro') (k3:∀ b o,c.h.get? b=some o→h₃.get? b=some o)
  (a:At (prog,w) B cenv sc μ cb) (hst:S 0 h₃) (hD:h₃.IsList D #[]) (hs:s.heap=h₃) (hlen:xs.length≤sizeLine)
  (e:Ax (fun μ st=>evIfs CT C μ st (trEs N sc ifs)) (fun μ st=>ev CT C μ st (Ao N sc elt)) t xs μ cb.st=some (vs,stf))
  (y:∀ c' h'' tk ys,Post (prog,w) B x cb c'→c'.st=stf→c'.Rs vs ys→(∃ m,h''.Ns cenv.locals m)→h''.IsList D ys.toArray→(∀ b o,b∉wr→c'.h.get? b=some o→h''.get? b=some o)→R (.ok .next) { s with heap:=h'',toks:=tk }) :
  codeAny (model prog w) A (.compLoop (.ListComp elt [⟨target,iter,ifs,0⟩] scope pos) 0 (.ref I) (.ref D) cenv) R s:=by
 rfl';subst hcb
 let cb:Cfg:={ c with h:=h₃,fr:=fun b=>c.fr b∨x b,st:=⟨c.st.objs,c.st.lo,ro'⟩ }
 have hlx:∀ b,x b→cb.fr b:=fun b z=>.inr z;have hle:∀ b,x b→cb.own b:=fun b z=>.inl (.inr z);have hxL:∀ b,Hm cenv b→cb.fr b:=fun b z=>.inr (by rw[show b=cenv.locals from z];exact hCx)
 have lift0:∀{v:V} {rv:Value},c.R v rv→cb.R v rv:=fun{v rv} r=>BM.mono ko (fun _ _=>rfl) (Nat.le_refl _) _ _ r;have lifts0:∀{v:List V} {rv:List Value},c.Rs v rv→cb.Rs v rv:=fun{v rv} r=>VRels.mono ko (fun _ _=>rfl) (Nat.le_refl _) _ _ r;refine Fu (CLI (prog,w) B cenv sc x cb D S np (fun i μ st rest=>Ax (fun μ st=>evIfs CT C μ st (trEs N sc ifs)) (fun μ st=>ev CT C μ st (Ao N sc elt)) t (xs.drop i) μ st=some (rest,stf)) vs s) ?_ (np+1)
  (by
   have z:=CLI.mk (P:=(prog,w)) (B:=B) (cenv:=cenv) (sc:=sc) (x:=x) (cb:=cb) (D:=D) (S:=S) (np:=np) (F:=fun i μ st rest=>Ax (fun μ st=>evIfs CT C μ st (trEs N sc ifs)) (fun μ st=>ev CT C μ st (Ao N sc elt)) t (xs.drop i) μ st=some (rest,stf)) (vs:=vs) (s:=s) 0 cb s.toks μ [] [] vs (Post.refl' a.sim hlx) a hst (Nat.zero_le _) hD rfl (Nat.le_refl _) e rfl;rw[show({ s with heap:=cb.h,toks:=s.toks }:Shared)=s by rw[show cb.h=s.heap from hs.symm]] at z
   exact z)
 intro k s' hI;cases hI with
 | mk i c' tk μ' done ys rest p a' st' hi hl hr hyl e' hvs =>
 by_cases hlt:i<np
 ·have hlt':i<xs.length:=d.num▸hlt;have e':Ax (fun μ st=>evIfs CT C μ st (trEs N sc ifs)) (fun μ st=>ev CT C μ st (Ao N sc elt)) t (xs.drop i) μ' c'.st=some (rest,stf):=e';rw[Ge hlt'] at e';refine d.W.item i _ _ _ hlt st' fun v h₃ tk₃ hMd hk₃=>?_;refine d.W.go i v _ _ _ hMd fun h₄ hP hst₄ hk₄=>?_;have hk:∀ b o,b∉wr→c'.h.get? b=some o→h₄.get? b=some o:=fun b o hb e=>hk₄ b o hb (hk₃ b o hb e);have pw:Post (prog,w) B (fun b=>b∈wr) c' { c' with h:=h₄ }:=a'.sim.change (fun b z=>by rw[p.fr];exact .inr (hxw b z)) hk (d.live _ _ hst₄)
  have p4:Post (prog,w) B x cb { c' with h:=h₄ }:=p.trans (pw.weak hxw (fun b z=>by rw[p.fr];exact .inr z))
  have a4:=a'.postL pw hCw;have hl4:h₄.IsList D ys.toArray:=let ⟨o,eo,r⟩:=hl;⟨o,hk _ _ hDw eo,r⟩
  have hr4:Cfg.Rs { c' with h:=h₄ } done ys:=pw.rels (fun b z=>.inl (by rw[p.fr];exact .inr (hxw b z))) hr
  refine QA e' fun μ1 b st5 hset e5 e6=>?_
  ·clear e';have hxi:xs[i]?=some xs[i]:=List.getElem?_eq_getElem hlt';have lift:∀{v:V} {rv:Value},c.R v rv→Cfg.R { c' with h:=h₄ } v rv:=fun{v rv} r=>p4.rel hle (lift0 r)
   have lifts:∀{v:List V} {rv:List Value},c.Rs v rv→Cfg.Rs { c' with h:=h₄ } v rv:=fun{v rv} r=>p4.rels hle (lifts0 r)
   refine Ei (c:={ c' with h:=h₄ }) ht hset hA.handled a4 rfl ((d.item i v h₄ _ hP hxi).imp lift fun⟨z,T,ys,vals,h1,h2,h3,h4⟩=>⟨z,T,ys,vals,h1,h2,h3,lifts h4⟩) fun c5 tk5 p5 h5 a5=>?_
   refine NC hifs A cenv sc μ1 c5 _ b st5 _ _ hA a5 rfl (by rw[h5];exact e5) fun c6 tk6 p6 h6=>?_
   have hxc:∀{c₀:Cfg},c₀.fr=cb.fr→∀ b,Hm cenv b→c₀.fr b:=fun h b z=>by rw[h];exact hxL b z
   have hxo:∀ b,Hm cenv b→x b:=fun b z=>by rw[show b=cenv.locals from z];exact hCx
   have a6:=a5.post p6;have stay:∀(c7:Cfg) (lz:Addr→Prop),Post (prog,w) B lz { c' with h:=h₄ } c7→(∀ b,lz b→b∉fp)→(∀ b,lz b→x b)→S (i+1) c7.h:=by
    intro c7 lz LB hfp hzx;refine d.W.frame _ _ _ hst₄ fun b hb o eo=>?_;rfl';rcases d.fix b hb with z | ⟨⟨o₁,ho₁⟩,z⟩
    ·exact LB.keep b o (a4.sim.disj b (by rw[p4.fr];exact .inr (hxw b z))) (fun l=>hfp b l hb) eo
    ·rcases z with z | ⟨j,oj,hsj,hj,hfoot⟩
     ·have hno:¬ cb.own b:=(ko b o₁ z ho₁).2;have hno4:¬ Cfg.own { c' with h:=h₄ } b:=(p4.keepOwn hle b o₁ hno (ko b o₁ z ho₁).1).2
      exact(LB.keepOwn (fun b z=>.inl (by rw[p4.fr];exact .inr (hzx b z))) b o hno4 eo).1
     ·have hj':j<ro':=hsrc j hsj;have hg:cb.st.get j=some oj:=hj;have hg4:(Cfg.st { c' with h:=h₄ }).get j=some oj:=(p4.roeq j hj').trans hg
      refine LB.rokeep j oj b o (by rw[p4.ro];exact hj') hg4 ?_ eo
      have g:=p4.agree j (St.get_lt hg);unfold Cfg.Foot at hfoot ⊢;rw[g.1,g.2];exact hfoot
   have hCfp:cenv.locals∉fp:=fun z=>(d.fix _ z).elim hCw fun z=>let ⟨_,eo⟩:=z.1;AQ eo (hx _ hCx)
   have hfpL:∀ b,Hm cenv b→b∉fp:=fun b z=>by rw[show b=cenv.locals from z];exact hCfp
   have TJ:Post (prog,w) B (Hm cenv) { c' with h:=h₄ } c6:=p5.trans (p6.ofNo a5.lfr)
   have keepD:∀{c7:Cfg},Post (prog,w) B (Hm cenv) { c' with h:=h₄ } c7→c7.h.IsList D ys.toArray:=fun{c7} LB =>
    let ⟨o,eo,r⟩:=hl4;⟨o,LB.keep D o (a4.sim.disj D (by rw[p4.fr];exact .inr hxD)) (fun z=>hCD (show D=cenv.locals from z).symm) eo,r⟩
   have keepR:∀{c7:Cfg},Post (prog,w) B (Hm cenv) { c' with h:=h₄ } c7→c7.Rs done ys:=fun{c7} LB=>LB.rels (fun b z=>.inl (a4.lfr b z)) hr4
   have wide:∀{c7:Cfg},Post (prog,w) B (Hm cenv) { c' with h:=h₄ } c7→Post (prog,w) B x cb c7:=fun{c7} LB=>p4.trans (LB.weak hxo (fun b z=>by rw[p4.fr];exact hlx b z))
   rfl';cases b with
   | false=>exact⟨np+1 - (i+1),by exact p2 hlt,CLI.mk (s:=s) (i+1) c6 tk6 μ1 done ys rest (wide TJ) a6 (stay c6 _ TJ hfpL hxo) hlt (keepD TJ) (keepR TJ) (Nat.le_succ_of_le hyl) (by rw[h6];exact e6) hvs⟩
   | true =>
    refine Aw e6 fun vx st7 e7 e8=>Aw e8 fun vr st8 e9 e10=>I1 e10 fun z1 z2=>?_;subst z1 z2;refine helt A cenv sc μ1 c6 _ vx st7 _ _ hA a6 rfl (by rw[h6];exact e7) fun c7 tk7 rx p7 h7 r7=>?_
    have LB:=TJ.trans (p7.ofNo a6.lfr);have a7:=a6.post p7;have hl7:=keepD LB;refine wpAny_list_append (items:=ys.toArray) hl7 (fun h' hl' hsb=>?_) (by rw[List.size_toArray];exact Za hlen hyl hlt')
    have hDfr:c7.fr D:=by rw[LB.fr];rw[p.fr];exact .inr hxD
    have pD:Post (prog,w) B (fun b=>b=D) c7 { c7 with h:=h' }:=a7.sim.change (fun b z=>by rw[z];exact hDfr) (fun b o hb e=>(hsb.2 b hb).trans e) (fun b z=>by rw[z];obtain⟨o,eo,_⟩:=hl';exact⟨o,eo⟩)
    have hrs:ys.toArray.push rx=(ys++[rx]).toArray:=by simp
    rw[hrs] at hl';have own7:∀ b,b=D→c7.own b:=fun b z=>by rw[z];exact .inl hDfr
    refine Ft (np+1 - (i+1)) (by exact p2 hlt) (CLI.mk (s:=s) (i+1) { c7 with h:=h' } tk7 μ1 (done++[vx]) (ys++[rx]) vr ((wide LB).trans (pD.weak (fun b z=>by rw[z];exact hxD) (fun b z=>by rw[LB.fr];show Cfg.fr c' b;rw[p.fr];exact .inr z))) (a7.postL pD hCD) ?_ hlt hl' ?_ ?_ ?_ ?_)
    ·have pz:Post (prog,w) B (fun b=>Hm cenv b∨b=D) { c' with h:=h₄ } { c7 with h:=h' } :=
      (LB.weak (fun b z=>.inl z) (fun b z=>z.elim (a4.lfr b) fun z=>by rw[z,p4.fr];exact .inr hxD)).trans (pD.weak (fun b z=>.inr z) (fun b z=>z.elim (a7.lfr b) fun z=>by rw[z];exact hDfr))
     exact stay _ _ pz (fun b z=>z.elim (hfpL b) fun z=>by rw[z];exact hDfp) (fun b z=>z.elim (hxo b) fun z=>by rw[z];exact hxD)
    ·exact pD.rels own7 (VRels.snoc (keepR LB |> fun _=>LB.rels (fun b z=>.inl (a4.lfr b z)) hr4) r7)
    ·rw[List.length_append,List.length_singleton];exact Nat.succ_le_succ hyl
    ·show Ax _ _ t (xs.drop (i+1)) μ1 c7.st=_;rw[h7];exact e9
    ·rw[hvs,List.append_assoc];rfl
 ·have hin:i=np:=by exact o62 hi hlt
  subst hin;rw[List.drop_eq_nil_of_le (by rw[d.num];exact Nat.le_refl _),Ax] at e'
  cases e';refine d.W.done _ _ _ st' fun h₃ tk₃ hk₃=>?_;rfl';refine BA a'.loc fun m hm _=>?_;refine y c' h₃ tk₃ ys p rfl (by rw[hvs,List.append_nil];exact hr) ⟨m,JL hm fun o e=>hk₃ _ o hCw e⟩ (let ⟨o,eo,r⟩:=hl;⟨o,hk₃ _ _ hDw eo,r⟩) hk₃
end
end SSoundR
section SSoundS
open PySem PySem.W PySem.Calls PyProof.Rows PySem.SeqAt
theorem svE{α:Type}{P:Prop}{o:Option (Option V)}{F:V→Option α}{r:α}(e:(match o with | some (some v)=>F v | _=>none)=some r)(k:∀ v,o=some (some v)→F v=some r→P):P:=by
 cases o with
 | none=>exact AI e
 | some o=>cases o with
  | none=>exact AI e
  | some v=>exact k v rfl e
theorem O3{μ:AG}{i j:Nat}{v u:V}{P:Prop}(h:(BO μ i v)[j]?=some (some u))(h1:i=j→u=v→P)(h2:i≠j→μ[j]?=some (some u)→P):P:=by
 have h:=List.getElem?_set.symm.trans h;by_cases q:i=j
 ·rw[if_pos q] at h;split at h
  ·exact B8 h fun z=>B8 z.symm fun z=>h1 q z
  ·exact AI h
 ·rw[if_neg q] at h;exact h2 q h
theorem Iq:∀{caps:List (Nat×Nat)} {μ μ0 μ':AG},CH μ caps μ0=some μ'→(∀ i j,(i,j)∈caps→∃ v,μ[j]?=some (some v))∧(∀ i v,μ'[i]?=some (some v)→μ0[i]?=some (some v)∨∃ j,(i,j)∈caps∧μ[j]?=some (some v)):=by
 intro caps
 induction caps with
 | nil=>intro μ μ0 μ' e;refine B8 e fun z=>?_;subst z;exact⟨fun _ _ h=>absurd h List.not_mem_nil,fun _ _ h=>.inl h⟩
 | cons p r ih=>intro μ μ0 μ' e;obtain⟨i,j⟩:=p;refine svE e fun v hv e=>?_;refine J1 (ih e) fun h1 h2=>?_;refine⟨fun a b hm=>(List.mem_cons.mp hm).elim (fun z=>Kz z fun _ z=>⟨v,z▸hv⟩) (h1 a b),fun a u hu=>(h2 a u hu).elim (fun z=>?_) fun⟨b,hb,hu'⟩=>.inr ⟨b,.tail _ hb,hu'⟩⟩;exact O3 z (fun q z=>.inr ⟨j,q▸.head _,z▸hv⟩) fun _ z=>.inl z
theorem kcl{P:Prop}(h:some NameKind.cell=some NameKind.local):P:=nomatch h
theorem kfl{P:Prop}(h:some NameKind.free=some NameKind.local):P:=nomatch h
theorem Wn{k:NameKind}{o o':Option Nat}{l:List (Nat×Nat)}{i j:Nat}{P:Prop}(h:(i,j)∈(match k with | .free=>(match o,o' with | some i,some j=>(i,j)::l | _,_=>l) | _=>l))(h1:k=.free→o=some i→o'=some j→P)(h2:(i,j)∈l→P):P:=by
 cases k with
 | free=>cases o with
  | none=>exact h2 h
  | some a=>cases o' with
   | none=>exact h2 h
   | some b=>exact(List.mem_cons.mp h).elim (fun z=>Kz z fun x y=>h1 rfl (x▸rfl) (y▸rfl)) h2
 | _=>exact h2 h
theorem Wo{k:NameKind}{o o':Option Nat}{l:List (Nat×Nat)}{x:Nat×Nat}(h:x∈l):x∈(match k with | .free=>(match o,o' with | some i,some j=>(i,j)::l | _,_=>l) | _=>l):=by
 cases k with
 | free=>cases o with
  | none=>exact h
  | some a=>cases o' with
   | none=>exact h
   | some b=>exact .tail _ h
 | _=>exact h
theorem SN{outer inner:List (Str×NameKind)}:∀{l:List (Str×NameKind)} {i j:Nat},(i,j)∈Bm outer inner l→∃ p∈l,p.2=.free∧CX inner p.1=some i∧CX outer p.1=some j:=by
 intro l
 induction l with
 | nil=>intro i j h;exact absurd h List.not_mem_nil
 | cons p r ih=>intro i j h;exact Wn (l:=Bm outer inner r) h (fun hk q1 q2=>⟨p,.head _,hk,q1,q2⟩) fun h=>(let ⟨p',h1,h2⟩:=ih h;⟨p',.tail _ h1,h2⟩)
theorem SM{outer inner:List (Str×NameKind)}:∀{l:List (Str×NameKind)} {p:Str×NameKind} {i j:Nat},p∈l→p.2=.free→CX inner p.1=some i→CX outer p.1=some j→(i,j)∈Bm outer inner l:=by
 intro l
 induction l with
 | nil=>intro p i j h _ _ _;exact absurd h List.not_mem_nil
 | cons q r ih =>
  intro p i j h hk h1 h2;rcases List.mem_cons.mp h with rfl | h
  ·show(i,j)∈(match p.2 with | .free=>(match CX inner p.1,CX outer p.1 with | some i,some j=>(i,j)::Bm outer inner r | _,_=>Bm outer inner r) | _=>Bm outer inner r)
   rw[hk,h1,h2];exact .head _
  ·exact Wo (l:=Bm outer inner r) (ih h hk h1 h2)
theorem N8{env:Env}:∀(l:List (Str×NameKind)) (acc:List (Str×Addr)),(∀ p∈l,p.2=.free→∃ ca,env.cells.lookup p.1=some ca)→(∀ x ca,acc.lookup x=some ca→env.cells.lookup x=some ca) →
  ∃ cl,(forIn l acc (fun(p:Str×NameKind) (cs:List (Str×Addr))=>(if(p.2==NameKind.free)=true then(cellOf env p.1 >>= fun c=>pure (ForInStep.yield ((p.1,c)::cs))) else pure (ForInStep.yield cs):Sem (ForInStep (List (Str×Addr))))):Sem (List (Str×Addr)))=pure cl ∧
   (∀ x ca,cl.lookup x=some ca→env.cells.lookup x=some ca)∧(∀ p∈l,p.2=.free→∃ ca,cl.lookup p.1=some ca)∧(∀ x,(acc.lookup x).isSome=true→(cl.lookup x).isSome=true):=by
 intro l
 induction l with
 | nil=>exact fun acc _ h=>⟨acc,rfl,h,fun _ h=>absurd h List.not_mem_nil,fun _ h=>h⟩
 | cons p r ih =>
  intro acc hl h;rw[List.forIn_cons];by_cases q:p.2=.free
  ·obtain⟨ca,hca⟩:=hl p (.head _) q;have hc:cellOf env p.1=pure ca:=by unfold cellOf;rw[hca]
   have h':∀ x ca',((p.1,ca)::acc).lookup x=some ca'→env.cells.lookup x=some ca':=fun x ca' e=>by
    refine bT e (fun e z=>?_) (fun e z=>?_)
    ·exact B8 e fun e=>by rw[e,beq_iff_eq.mp z];exact hca
    ·exact h x ca' e
   refine Pe (ih ((p.1,ca)::acc) (fun p hp=>hl p (.tail _ hp)) h') fun cl e1 e2 e3 e4=>?_;refine VV cl ?_ e2 (fun p' hp hk=>?_) (fun x hx=>e4 x ?_)
   ·rw[if_pos (by rw[q];rfl),hc]
    exact e1
   ·rcases List.mem_cons.mp hp with rfl | hp
    ·exact Option.isSome_iff_exists.mp (e4 p'.1 (by simp [List.lookup_cons]))
    ·exact e3 p' hp hk
   ·rw[List.lookup_cons];cases x==p.1 with
    | true=>rfl
    | false=>exact hx
  ·refine Pe (ih acc (fun p hp=>hl p (.tail _ hp)) h) fun cl e1 e2 e3 e4=>?_;refine VV cl ?_ e2 (fun p' hp hk=>?_) e4
   ·rw[if_neg (by simpa using q)]
    exact e1
   ·rcases List.mem_cons.mp hp with rfl | hp
    ·exact absurd hk q
    ·exact e3 p' hp hk
structure CompOk(sc:List (Str×NameKind))(scope:Scope):Prop where
 kind:scope.kind=.function
 nocell:∀ p∈scope.names,p.2≠.cell
 loc:∀ p∈scope.names,p.2=.local→scope.names.lookup p.1=some .local
 free:∀ p∈scope.names,p.2=.free→(sc.lookup p.1=some .cell∨sc.lookup p.1=some .free)∧(∃ i,CX (AY sc scope) p.1=some i)∧(∃ j,CX sc p.1=some j)∧((AY sc scope).lookup p.1=some .cell∨(AY sc scope).lookup p.1=some .free)
 dbg:(AY sc scope).lookup ("__debug__":Str)=none
 cdict:(AY sc scope).lookup ("__classdict__":Str)=none
theorem Cp{k:NameKind}{o:Option NameKind}(h:F4 k o=true):o=some k:=by
 cases o with
 | none=>exact EE h
 | some k'=>exact congrArg some (beq_iff_eq.mp h)
theorem Px{sc:List (Str×NameKind)}{scope:Scope}(h:It sc scope=true):CompOk sc scope:=by
 unfold It at h;simp only[Bool.and_eq_true] at h;obtain⟨⟨⟨h1,h2⟩,h3⟩,h4⟩:=h;have h2:=List.all_eq_true.mp h2;refine⟨beq_iff_eq.mp h1,fun p hp=>?_,fun p hp hk=>?_,fun p hp hk=>?_,Option.isNone_iff_eq_none.mp h3,Option.isNone_iff_eq_none.mp h4⟩
 ·have z:=h2 p hp;simp only[Bool.and_eq_true] at z;exact bne_iff_ne.mp z.1.1
 ·have z:=h2 p hp;simp only[Bool.and_eq_true,Bool.or_eq_true] at z;rcases z.1.2 with q | q
  ·exact absurd hk (bne_iff_ne.mp q)
  ·exact Cp q
 ·have z:=h2 p hp;simp only[Bool.and_eq_true,Bool.or_eq_true] at z;rcases z.2 with q | ⟨⟨⟨q1,q2⟩,q3⟩,q4⟩
  ·exact absurd hk (bne_iff_ne.mp q)
  ·exact⟨q1.imp Cp Cp,Option.isSome_iff_exists.mp q2,Option.isSome_iff_exists.mp q3,q4.imp Cp Cp⟩
section
variable {prog:Program}{w:World}{B:Heap}{N:Names}{CT:Nat→Option Cl}{C:AC}{n:Nat}
theorem Hj{env:Env}{sc:List (Str×NameKind)}{scope:Scope}(ok:EnvOk env sc):(relabel scope env).names=AY sc scope:=by unfold relabel AY;have:env.scope.kind=.function:=ok.kind;simp only[this,Env.kindOf,ok.names];refine List.map_congr_left fun p _=>?_;obtain⟨nm,k⟩:=p;simp
theorem N9{env:Env}{sc:List (Str×NameKind)}{scope:Scope}{μ μ₀:AG}{c:Cfg}{k:Nat}(a:At (prog,w) B env sc μ c)(ok:CompOk sc scope)(e:CH μ (Bm sc (AY sc scope) scope.names) (List.replicate k none)=some μ₀) :
  ∃ cl,closureFor scope env=pure cl∧(∀ x ca,cl.lookup x=some ca→env.cells.lookup x=some ca)∧(∀ p∈scope.names,p.2=.free→∃ ca,cl.lookup p.1=some ca):=by
 rfl';refine J1 (Iq e) fun h1 h2=>?_;refine BA a.loc fun m hn hm=>?_;have hk:∀ x,env.kindOf x=sc.lookup x:=fun x=>by unfold Env.kindOf;rw[a.eok.names]
 have hc:∀ p∈scope.names,p.2=.free→∃ ca,env.cells.lookup p.1=some ca:=by intro p hp hf;rfl';obtain⟨q1,⟨i,q2⟩,⟨j,q3⟩,_⟩:=ok.free p hp hf;obtain⟨v,hv⟩:=h1 i j (SM hp hf q2 q3);refine BA (hm p.1 j v q3 hv) fun rv h3 _=>?_;exact h3.elim (fun q' _=>q1.elim (fun q=>kcl (q.symm.trans ((hk _).symm.trans q'))) fun q=>kfl (q.symm.trans ((hk _).symm.trans q'))) fun _ ca _ z _ _ _=>⟨ca,z⟩
 refine Pe (N8 (env:=env) scope.names [] hc (fun _ _ z=>AI z)) fun cl e1 e2 e3 _=>?_;refine Pf cl ?_ e2 e3;show(forIn scope.names [] _ >>= fun r=>pure r)=_;rw[show(forIn scope.names ([]:List (Str×Addr)) _:Sem _)=pure cl from e1]
 rfl
end
end SSoundS
section SSoundT
open PySem PySem.W PySem.Calls PyProof.Rows PySem.SeqAt
section
variable {prog:Program}{w:World}{B:Heap}{N:Names}{CT:Nat→Option Cl}{C:AC}{n:Nat}
theorem Py{A:Around}{E:Value→Shared→Prop}{env:Env}{sc:List (Str×NameKind)}{μ μ₀:AG}{c:Cfg}{s:Shared}{target elt iter:Expr}{ifs:List Expr}{scope:Scope}{pos:Pos}{t:T}{xs vs:List V}{src:V}{I:Addr}{h₂:Heap}{stf:St}{k:Nat}{cl:List (Str×Addr)}
  {RR:Value→Addr→Result→Shared→Prop}
  (helt:AF prog w B N CT C n elt) (hifs:∀ e∈ifs,Both prog w B N CT C n e) (hA:AOk n A) (a:At (prog,w) B env sc μ c) (ok:CompOk sc scope) (hcl:∀ x ca,cl.lookup x=some ca→env.cells.lookup x=some ca) (hcl2:∀ p∈scope.names,p.2=.free→∃ ca,cl.lookup p.1=some ca)
  (hcap:CH μ (Bm sc (AY sc scope) scope.names) (List.replicate k none)=some μ₀) (hsrc:∀ i,src=.ref i→i<c.st.next)
  (ht:P9 (AY sc scope) target=some t) (d:DW prog w A target t xs c src I h₂) (hs:s.heap=h₂) (hlen:xs.length≤sizeLine)
  (e:Ax (fun μ st=>evIfs CT C μ st (trEs N (AY sc scope) ifs)) (fun μ st=>ev CT C μ st (Ao N (AY sc scope) elt)) t xs μ₀ (B5 c.st src)=some (vs,stf))
  (y:∀(D Cc:Addr) (x:Addr→Prop) (h₃:Heap) (ro':Nat) (c':Cfg) (h'':Heap) (tk:Nat) (ys:List Value),(∀ b o,c.h.get? b=some o→h₃.get? b=some o)→(∀ b,x b→c.h.get? b=none)→x D→x Cc→D≠Cc→c.st.ro≤ro' →
   Post (prog,w) B x { c with h:=h₃,fr:=fun b=>c.fr b∨x b,st:=⟨c.st.objs,c.st.lo,ro'⟩ } c'→c'.st=stf→At (prog,w) B env sc μ c'→c'.Rs vs ys→(∃ m,h''.Ns Cc m)→h''.IsList D ys.toArray→(∀ b o,¬(x b∧¬ b=Cc)→c'.h.get? b=some o→h''.get? b=some o) →
    RR (.ref D) Cc (.ok .next) { s with heap:=h'',toks:=tk }) :
  wpAny (model prog w) A (newList []) (fun acc s₃=>wpAny (model prog w) A (newFunctionEnv scope env.globals cl [] env.qual none .none (some env)) (fun cenv s₄ =>
   codeAny (model prog w) A (.compStart (.ListComp elt [⟨target,iter,ifs,0⟩] scope pos) 0 (.ref I) acc { cenv with scope:=relabel scope env }) (RR acc cenv.locals) s₄) E s₃) E s:=by
 rfl';refine x61 d fun np fp wr Pt Md S d=>?_;refine VU (PN hsrc a.sim.ro) fun l1 l2 l3 l4=>?_;rw[l4] at e;generalize hro:(B5 c.st src).ro=ro' at e l1 l2 l3;refine wpAny_newObj_type (wpAny_newFunctionEnv ok.nocell (by intro y hy;simp at hy) (fun h₃ hns₃ hsb₃=>?_) ok.kind) (by show([]:List Value).toArray.size≤sizeLine;exact Nat.zero_le _)
 dsimp only at hns₃ hsb₃ ⊢;rw[hs] at hns₃ hsb₃ ⊢
 generalize hHD:h₂.push { cls:=.type "list",dict:=none,data:=.seq ([]:List Value).toArray }=hD at hns₃ hsb₃ ⊢
 have hCs:hD.objs.size=h₂.objs.size+1:=by rw[← hHD,Heap.size_push]
 generalize hDD:h₂.objs.size=D at hCs ⊢;generalize hCC:hD.objs.size=Cc at hns₃ hsb₃ hCs ⊢;have hDC:D≠Cc:=by rw[hCs];exact Nat.ne_of_lt (Nat.lt_succ_self _)
 have up2:∀ b o,h₂.get? b=some o→h₃.get? b=some o:=fun b o e=>by have lt:=Heap.lt_size e;exact hsb₃.extBut b o (by rw[hCs,← hDD];exact Nat.ne_of_lt (Nat.lt_succ_of_lt lt)) (Heap.get?_push_of_some _ (hHD▸Heap.get?_push_of_some _ e))
 have hD2:h₂.get? D=none:=by rw[← hDD];exact An _
 have hC2:h₂.get? Cc=none:=by rw[hCs,← hDD];exact Heap.get?_none_of_le (Nat.le_succ _)
 have k3:∀ b o,c.h.get? b=some o→h₃.get? b=some o:=fun b o e=>up2 b o (d.old b o e);have old2:∀{b},h₂.get? b=none→c.h.get? b=none:=fun{b} z=>by
  cases e:c.h.get? b with
  | none=>rfl
  | some o=>exact AQ (d.old b o e) z
 let x:Addr→Prop:=fun b=>b∈wr∨b=D∨b=Cc
 have hx:∀ b,x b→c.h.get? b=none:=fun b z=>by
  rfl';rcases z with z | rfl | rfl
  ·exact(d.new b z).1
  ·exact old2 hD2
  ·exact old2 hC2
 have hlD:h₃.IsList D #[]:=by refine⟨_,hsb₃.extBut D _ hDC (Heap.get?_push_of_some _ (hHD▸hDD▸Heap.get?_push_size _ rfl)),rfl,_,rfl⟩
 have hxe:∀ b,x b→∃ o,h₃.get? b=some o:=fun b z=>by
  rcases z with z | rfl | rfl
  ·obtain⟨o,e⟩:=(d.new b z).2;exact⟨o,up2 b o e⟩
  ·refine BA hlD fun o e _=>?_;clear hlD;exact⟨o,e⟩
  ·exact PY hns₃
 have sim0:=a.sim.marks (lo:=c.st.lo) (ro:=ro') a.sim.lo l2;have a0:At (prog,w) B env sc μ { c with st:=⟨c.st.objs,c.st.lo,ro'⟩ }:=⟨sim0,a.eok,a.frL,a.loc⟩
 rfl';obtain⟨sim1,ko1⟩:=sim0.enter (x:=x) k3 (fun b hb=>⟨hx b hb,hxe b hb⟩);have a1:=a0.enter k3 sim1 ko1;have hwD:D∉wr:=fun z=>let ⟨o,e⟩:=(d.new _ z).2;AQ e hD2
 have hwC:Cc∉wr:=fun z=>let ⟨o,e⟩:=(d.new _ z).2;AQ e hC2
 have hfD:D∉fp:=fun z=>(d.fix _ z).elim hwD fun z=>let ⟨o,e⟩:=z.1;AQ (d.old _ _ e) hD2
 have hk:∀ z,env.kindOf z=sc.lookup z:=fun z=>by unfold Env.kindOf;rw[a.eok.names]
 refine J1 (Iq hcap) fun cp1 cp2=>?_;refine BA a1.loc fun m hn hm=>?_;have acomp:At (prog,w) B (compEnvC scope cl Cc env) (AY sc scope) μ₀ { c with h:=h₃,fr:=fun b=>c.fr b∨x b,st:=⟨c.st.objs,c.st.lo,ro'⟩ }:=by
  refine⟨sim1,⟨ok.kind,Hj a.eok,a.eok.globals,a.eok.builtins,ok.dbg,ok.cdict⟩,.inr (.inr (.inr rfl)),_,hns₃,fun z i v hz hv=>?_⟩;rfl';rcases cp2 i v hv with q | ⟨j,hj,hv'⟩
  ·rw[List.getElem?_replicate] at q;split at q<;>cases q
  ·refine Pe (SN hj) fun p hp hf q1 q2=>?_;have hzp:=Mr hz q1;subst hzp;refine BA (hm p.1 j v q2 hv') fun rv h3 h4=>?_;refine Ft rv ?_ h4;refine VU (ok.free p hp hf) fun w1 _ _ w4=>?_;have hcell:∃ ca o,env.cells.lookup p.1=some ca∧¬ Cfg.own { c with h:=h₃,fr:=fun b=>c.fr b∨x b,st:=⟨c.st.objs,c.st.lo,ro'⟩ } ca∧h₃.get? ca=some o∧o.data=.cell (some rv):=by unfold BY at h3;rw[hk] at h3;rcases w1 with q | q<;>rw[q] at h3<;>exact h3
   refine EK hcell fun ca o g1 g2=>?_;clear hcell;obtain⟨ca',g3⟩:=hcl2 p hp hf;have g4:=hcl _ _ g3;rw[g1] at g4;cases (g4);have kindz:(compEnvC scope cl Cc env).kindOf p.1=(AY sc scope).lookup p.1:=by show(relabel scope env).names.lookup p.1=_;rw[Hj a.eok]
   unfold BY;rw[kindz];rcases w4 with q | q
   ·rw[q];exact⟨ca,o,g3,g2⟩
   ·rw[q];exact⟨ca,o,g3,g2⟩
 have loop:codeAny (model prog w) A (.compLoop (.ListComp elt [⟨target,iter,ifs,0⟩] scope pos) 0 (.ref I) (.ref D) (compEnvC scope cl Cc env)) (RR (.ref D) Cc) { s with heap:=h₃,toks:=s.toks+([]:List (Str×Value)).length }:=by
  refine Pz (N:=N) (CT:=CT) (C:=C) (n:=n) (x:=x) (h₃:=h₃) (ro':=ro') (c:=c) helt hifs hA ht d rfl ko1 (fun b z=>.inl z) (.inr (.inl rfl)) hwD hfD hwC (.inr (.inr rfl)) (fun z=>hDC z.symm) hx l3 k3 acomp
   (d.W.frame 0 h₂ h₃ d.st fun b _ o e=>up2 b o e) hlD rfl hlen e fun c' h'' tk ys p hst hr hns hl kk=>?_
  have hxL:¬ x env.locals:=fun z=>let ⟨o,e⟩:=a.sim.frat _ a.frL;AQ e (hx _ z)
  exact y D Cc x h₃ ro' c' h'' tk ys k3 hx (.inr (.inl rfl)) (.inr (.inr rfl)) hDC l1 p hst (a1.postL p hxL) hr hns hl fun b o hb e=>kk b o (fun z=>hb ⟨.inl z,fun q=>hwC (q▸z)⟩) e
 refine codeAny_compStart_list loop (d.self _ _ _ (d.W.frame 0 h₂ h₃ d.st fun b _ o e=>up2 b o e) loop)
theorem At.outer{env:Env}{sc:List (Str×NameKind)}{μ:AG}{c:Cfg}(a:At (prog,w) B env sc μ c):env.kindOf=fun x=>sc.lookup x:=by
 funext x;unfold Env.kindOf;rw[a.eok.names]
theorem S6{iter:Expr}{env:Env}{sc:List (Str×NameKind)}{μ:AG}{st:St}{k:Mine.K}{Xa Xb:X}{r:V×St}(hp:EP (Cn sc iter) (trIt N sc iter) (Ao N sc iter)=some (k,Xa,Xb))(e:ev CT C μ st Xa=some r):∀ x,foldedSetIterable iter env x=pure x:=by
 intro x;cases iter with
 | Set es kk p=>exfalso;have:Cn sc (.Set es kk p)=.plain:=rfl;rw[this] at hp;have z:EP .plain (trIt N sc (.Set es kk p)) (Ao N sc (.Set es kk p))=some (.plain,.stuck,.const .none):=rfl;rw[z] at hp;cases hp;cases e
 | _=>rfl
theorem Iu{mg mb:Str→Option Value}(G:Globs B N mg mb){A:Around}{E:Value→Shared→Prop}{env:Env}{sc:List (Str×NameKind)}{μ μ₀:AG}{c:Cfg}{s:Shared}{target elt iter:Expr}{ifs:List Expr}{scope:Scope}{pos:Pos}{t:T}{xs vs:List V}{va vb src:V}{s1 s2 stf:St}
  {kk:Mine.K} {Xa Xb:X} {use:Option (Value→Sem Unit)} {Q:Value→Shared→Prop}
  (helt:AF prog w B N CT C n elt) (hifs:∀ e∈ifs,Both prog w B N CT C n e) (hit:AF prog w B N CT C n iter) (hargs:∀ f args kws pos,iter=.Call f args kws pos→BH prog w B N CT C n args)
  (hA:AOk n A) (a:At (prog,w) B env sc μ c) (hs:s.heap=c.h) (ok:CompOk sc scope) (ht:P9 (AY sc scope) target=some t) (hp:EP (Cn sc iter) (trIt N sc iter) (Ao N sc iter)=some (kk,Xa,Xb))
  (e1:ev CT C μ c.st Xa=some (va,s1)) (e2:ev CT C μ s1 Xb=some (vb,s2)) (e3:Bo s2 kk t va vb=some (xs,src)) (hcap:CH μ (Bm sc (AY sc scope) scope.names) (List.replicate scope.names.length none)=some μ₀)
  (e4:Ax (fun μ st=>evIfs CT C μ st (trEs N (AY sc scope) ifs)) (fun μ st=>ev CT C μ st (Ao N (AY sc scope) elt)) t xs μ₀ (B5 s2 src)=some (vs,stf)) (hlen:xs.length≤sizeLine)
  (y:∀(c₁:Cfg) (D Cc:Addr) (x:Addr→Prop) (h₃:Heap) (ro':Nat) (c':Cfg) (h'':Heap) (tk:Nat) (ys:List Value),Post (prog,w) B no c c₁→c₁.st=s2→(∀ b o,c₁.h.get? b=some o→h₃.get? b=some o)→(∀ b,x b→c₁.h.get? b=none)→x D→x Cc→D≠Cc→c₁.st.ro≤ro' →
   Post (prog,w) B x { c₁ with h:=h₃,fr:=fun b=>c₁.fr b∨x b,st:=⟨c₁.st.objs,c₁.st.lo,ro'⟩ } c'→c'.st=stf→At (prog,w) B env sc μ c'→c'.Rs vs ys→(∃ m,h''.Ns Cc m)→h''.IsList D ys.toArray→(∀ b o,¬(x b∧¬ b=Cc)→c'.h.get? b=some o→h''.get? b=some o) →
    compPost (model prog w) A E use Q (.ref D) Cc (.ok .next) { s with heap:=h'',toks:=tk }) :
  wpAny (model prog w) A (comprehension (.ListComp elt [⟨target,iter,ifs,0⟩] scope pos) scope env (firstIterPos [⟨target,iter,ifs,0⟩] pos) (newList []) false (eval iter env) use) Q E s:=by
 refine FE (N9 a ok hcap) fun cl hclos hcl hcl2=>?_;refine wpAny_comprehension_free (g:=⟨target,iter,ifs,0⟩) (gs:=[]) rfl (S6 hp e1) hclos ok.kind ok.loc ?_;refine JH G (Tl ht) hit hargs hA a hs hp e1 e2 e3 fun c₁ I h₂ tk p1 q1 hsrc d=>?_;exact Py helt hifs hA (a.post p1) ok hcl hcl2 hcap (fun i z=>by rw[q1];exact hsrc i z) ht d rfl hlen (by rw[q1];exact e4) fun D Cc x h₃ ro' c' h'' tk' ys g1 g2 g3 g4 g5 g6 g7 g8 g9 g10 g11 g12 g13 =>
  y c₁ D Cc x h₃ ro' c' h'' tk' ys p1 q1 g1 g2 g3 g4 g5 g6 g7 g8 g9 g10 g11 g12 g13
theorem Lf{sc:List (Str×NameKind)}{elt:Expr}{scope:Scope}{gens:List Comprehension}{pos:Pos}{μ:AG}{st st':St}{v:V}{P:Prop}(e:ev CT C μ st (Ao N sc (.ListComp elt gens scope pos))=some (v,st'))
  (h:∀ target iter ifs t kk Xa Xb va vb s1 s2 xs src μ₀ vs stf,gens=[⟨target,iter,ifs,0⟩]→CompOk sc scope→P9 (AY sc scope) target=some t→EP (Cn sc iter) (trIt N sc iter) (Ao N sc iter)=some (kk,Xa,Xb)→ev CT C μ st Xa=some (va,s1)→ev CT C μ s1 Xb=some (vb,s2)→Bo s2 kk t va vb=some (xs,src) →
   CH μ (Bm sc (AY sc scope) scope.names) (List.replicate scope.names.length none)=some μ₀→Ax (fun μ st=>evIfs CT C μ st (trEs N (AY sc scope) ifs)) (fun μ st=>ev CT C μ st (Ao N (AY sc scope) elt)) t xs μ₀ (B5 s2 src)=some (vs,stf)→xs.length≤Cs→.lst vs=v→Aa s2.ro stf=st'→P):P:=by
 cases gens with
 | nil=>exact AI e
 | cons g r =>
  obtain⟨target,iter,ifs,k⟩:=g;have e:ev CT C μ st (YQ (decide (k=0)&&(r.isEmpty&&It sc scope)) (P9 (AY sc scope) target) (EP (Cn sc iter) (trIt N sc iter) (Ao N sc iter)) (Ao N (AY sc scope) elt) (trEs N (AY sc scope) ifs) scope.names.length (Bm sc (AY sc scope) scope.names))=some (v,st'):=e;rfl';generalize q0:(decide (k=0)&&(r.isEmpty&&It sc scope))=b at e;cases b with
  | false=>exact AI e
  | true =>
   generalize q1:P9 (AY sc scope) target=t at e;cases t with
   | none=>exact AI e
   | some t =>
    generalize q2:EP (Cn sc iter) (trIt N sc iter) (Ao N sc iter)=p at e;cases p with
    | none=>exact AI e
    | some p =>
     obtain⟨kk,Xa,Xb⟩:=p;refine Aw e fun va s1 e1 e=>Aw e fun vb s2 e2 e=>?_;dsimp only at e;generalize q3:Bo s2 kk t va vb=o at e;cases o with
     | none=>exact AI e
     | some o =>
      generalize q4:CH μ (Bm sc (AY sc scope) scope.names) (List.replicate scope.names.length none)=c at e;cases c with
      | none=>exact AI e
      | some c=>refine Aw e fun vs stf e3 e=>?_;obtain⟨hg,e⟩:=AX e;refine I1 e fun z1 z2=>Ci q0 fun g0 g=>Ci g fun g1 g2=>?_;refine h target iter ifs t kk Xa Xb va vb s1 s2 o.1 o.2 c vs stf ?_ (Px g2) q1 q2 e1 e2 q3 q4 e3 (Nat.le_of_ble_eq_true hg) z1.symm z2.symm;rw[List.isEmpty_iff.mp g1,of_decide_eq_true g0]
theorem KD{env:Env}{sc:List (Str×NameKind)}{μ:AG}{c c':Cfg}{D Cc:Addr}{x:Addr→Prop}{h₃ h'':Heap}{ro':Nat}{vs:List V}{ys:List Value}{lx0:Addr→Prop}(a:At (prog,w) B env sc μ c)(k:∀ b o,c.h.get? b=some o→h₃.get? b=some o)(hx:∀ b,x b→c.h.get? b=none)(hxD:x D)(hxC:x Cc)(hDC:D≠Cc)
  (hro:c.st.ro≤ro') (p:Post (prog,w) B x { c with h:=h₃,fr:=fun b=>c.fr b∨x b,st:=⟨c.st.objs,c.st.lo,ro'⟩ } c') (a':At (prog,w) B env sc μ c') (r:c'.Rs vs ys) (hl:h''.IsList D ys.toArray) (kk:∀ b o,¬(x b∧¬ b=Cc)→c'.h.get? b=some o→h''.get? b=some o) (hl0:∀ a,lx0 a→c.fr a) :
  PostX (prog,w) B (fun b=>b=Cc) lx0 c { c' with fr:=fun b=>c.fr b∨b=Cc,h:=h'',st:=Aa c.st.ro c'.st }∧At (prog,w) B env sc μ { c' with fr:=fun b=>c.fr b∨b=Cc,h:=h'',st:=Aa c.st.ro c'.st }∧Cfg.R { c' with fr:=fun b=>c.fr b∨b=Cc,h:=h'',st:=Aa c.st.ro c'.st } (.lst vs) (.ref D):=by
 refine J1 (Post.leaveX (x2:=fun b=>b=Cc) (h'':=h'') (lx0:=lx0) a.sim k hx (fun b z=>by rw[show b=Cc from z];exact hxC) (fun b z=>.inr z) hl0 hro p kk) fun q ko=>?_
 have hLx:¬ x env.locals:=fun z=>let ⟨o,e⟩:=a.sim.frat _ a.frL;AQ e (hx _ z)
 refine⟨q,a'.shed q.sim rfl ko (.inl a.frL) (fun o e=>kk _ o (fun z=>hLx z.1) e),D,ys,rfl,fun f=>?_,hl,VRels.mono ko (fun _ _=>rfl) (Nat.le_refl _) _ _ r⟩;rcases f with(f | f) | f
 ·exact a.sim.notfr (hx _ hxD) f
 ·exact hDC f
 ·exact p.sim.disj D (by rw[p.fr];exact .inr hxD) f
theorem JT{mg mb:Str→Option Value}(G:Globs B N mg mb){elt:Expr}{gens:List Comprehension}{scope:Scope}{pos:Pos}(helt:AF prog w B N CT C n elt)
  (hg:∀ target iter ifs k,(⟨target,iter,ifs,k⟩:Comprehension)∈gens→AF prog w B N CT C n iter∧(∀ e∈ifs,Both prog w B N CT C n e)∧(∀ f args kws pos,iter=.Call f args kws pos→BH prog w B N CT C n args)) :
  AF prog w B N CT C n (.ListComp elt gens scope pos):=by
 intro A env sc μ c s v st' Q E hA a hs e y;refine Lf e fun target iter ifs t kk Xa Xb va vb s1 s2 xs src μ₀ vs stf z0 ok ht hp e1 e2 e3 hcap e4 hlen z1 z2=>?_;subst z0 z1 z2;refine L2 (hg target iter ifs 0 (.head _)) fun hit hifs hargs=>?_;refine Iu G (use:=none) helt hifs hit hargs hA a hs ok ht hp e1 e2 e3 hcap e4 (Nat.le_trans hlen DO) fun c₁ D Cc x h₃ ro' c' h'' tk ys p1 q1 k hx hxD hxC hDC hro p hst a' r hns hl kk=>?_;obtain⟨m,hm⟩:=hns;refine Ft m hm (fun h' hsb=>?_);rfl';refine L2 (KD (lx0:=no) (a.post p1) k hx hxD hxC hDC hro p a' r hl kk (fun _ z=>z.elim)) fun qX aX rX=>?_;obtain⟨qD,ko⟩:=qX.done (h'':=h') p1.sim (fun b o hb e=>(hsb.2 b hb).trans e);have hlD:h'.IsList D ys.toArray:=let ⟨o,eo,r⟩:=hl;⟨o,(hsb.2 D hDC).trans eo,r⟩
 refine y _ tk _ (p1.trans qD) ?_ (BM.mono ko (fun _ _=>rfl) (Nat.le_refl _) _ _ rX);show Aa c₁.st.ro c'.st=Aa s2.ro stf;rw[q1,hst]
theorem Jw{mg mb:Str→Option Value}(G:Globs B N mg mb){elt:Expr}{gens:List Comprehension}{scope:Scope}{pos:Pos}(helt:AF prog w B N CT C n elt)
  (hg:∀ target iter ifs k,(⟨target,iter,ifs,k⟩:Comprehension)∈gens→AF prog w B N CT C n iter∧(∀ e∈ifs,Both prog w B N CT C n e)∧(∀ f args kws pos,iter=.Call f args kws pos→BH prog w B N CT C n args))
  {A:Around} {env:Env} {sc:List (Str×NameKind)} {μ:AG} {c:Cfg} {s:Shared} {v:V} {st':St} {id:Str} {p0:Pos} {i:Nat} {Q:Unit→Shared→Prop} {E:Value→Shared→Prop} (hA:AOk n A) (a:At (prog,w) B env sc μ c) (hs:s.heap=c.h) (hi:CC sc id=some i)
  (e:ev CT C μ c.st (Ao N sc (.ListComp elt gens scope pos))=some (v,st')) (y:∀ c' tk,Post (prog,w) B (Hm env) c c'→c'.st=st'→At (prog,w) B env sc (BO μ i v) c'→Q () { s with heap:=c'.h,toks:=tk }) :
  wpAny (model prog w) A (evalThenUse (.ListComp elt gens scope pos) env (assign (.Name id p0) env)) Q E s:=by
 refine Lf e fun target iter ifs t kk Xa Xb va vb s1 s2 xs src μ₀ vs stf z0 ok ht hp e1 e2 e3 hcap e4 hlen z1 z2=>?_;subst z0 z1 z2;refine L2 (hg target iter ifs 0 (.head _)) fun hit hifs hargs=>?_;refine wpAny_bind ?_;refine Iu G (use:=some (assign (.Name id p0) env)) helt hifs hit hargs hA a hs ok ht hp e1 e2 e3 hcap e4 (Nat.le_trans hlen DO) fun c₁ D Cc x h₃ ro' c' h'' tk ys p1 q1 k hx hxD hxC hDC hro p hst a' r hns hl kk=>?_;rfl';obtain⟨m,hm⟩:=hns;have a1:=a.post p1;refine L2 (KD (lx0:=Hm env) a1 k hx hxD hxC hDC hro p a' r hl kk a1.lfr) fun qX aX rX=>?_;refine wpAny_assign_Name (CR aX rfl hi rX fun c5 tk5 p5 h5 a5=>?_);have hCL:¬ env.locals=Cc:=fun z=>let ⟨o,e⟩:=a1.sim.frat _ a1.frL;AQ e (hx _ (z▸hxC))
 refine Ft m (JL hm fun o eo=>p5.keep Cc o (aX.sim.disj Cc (.inr rfl)) (fun z=>hCL (show Cc=env.locals from z).symm) eo) (fun h' hsb=>?_)
 have qY:=qX.trans p5;refine J1 (qY.done (h'':=h') p1.sim (fun b o hb e=>(hsb.2 b hb).trans e)) fun qD ko=>?_;refine wpAny_pure (y { c5 with fr:=c₁.fr,h:=h' } tk5 ((p1.ofNo a.lfr).trans qD) ?_ (a5.shed (st:=c5.st) qD.sim rfl ko a1.frL (fun o e=>(hsb.2 _ hCL).trans e)))
 rw[h5];show Aa c₁.st.ro c'.st=Aa s2.ro stf;rw[q1,hst]
end
end SSoundT
section SSoundU
open PySem PySem.W PySem.Calls PyProof.Rows PySem.SeqAt
section
variable {prog:Program}{w:World}{B:Heap}{N:Names}{CT:Nat→Option Cl}{C:AC}{n:Nat}{K:Frag}
noncomputable def NO(prog:Program)(w:World)(B:Heap)(N:Names)(CT:Nat→Option Cl)(C:AC)(n:Nat)(e:Expr):Prop:=∀(A:Around) (env:Env) (sc:List (Str×NameKind)) (μ:AG) (c:Cfg) (s:Shared) (v:V) (st':St) (Q:Value→Shared→Prop) (E:Value→Shared→Prop),
 AOk n A→At (prog,w) B env sc μ c→s.heap=c.h→ev CT C μ c.st (GF (Ao N sc e))=some (v,st')→A6 (prog,w) B c v st' Q s→wpAny (model prog w) A (eval e env) Q E s
noncomputable def DN:X→Bool
 | .new ..=>true
 | _=>false
theorem Pv{b:Bool}{x:X}{ops:List CmpOp}{rs:List X}:DN (YD b x ops rs)=false:=by cases (b)<;>rfl
theorem QB{k:Option (List Txt)}{vs:List X}:DN (YF k vs)=false:=by cases (k)<;>rfl
theorem Pk{k:Option Nat}{b:Bool}{x:X}:DN (YA k b x)=false:=by cases (k)<;>cases (b)<;>rfl
theorem Qo{k:Option Nat}{b:Bool}{x:X}{as:List X}:DN (YZ k b x as)=false:=by cases (k)<;>cases (b)<;>rfl
theorem Qj{b:Bool}{t:Option T}{p:Option (Mine.K×X×X)}{elt:X}{ifs:List X}{n:Nat}{caps:List (Nat×Nat)}:DN (YQ b t p elt ifs n caps)=false:=by
 cases b with
 | false=>rfl
 | true=>cases t with
  | none=>rfl
  | some t=>cases (p)<;>rfl
theorem Qx{sc:List (Str×NameKind)}{x:Str}:DN (Tw N sc x)=false:=by
 unfold Tw;cases CX sc x with
 | some i=>rfl
 | none =>
  show DN (Vl N x (As sc x))=false;cases As sc x with
  | false=>rfl
  | true=>unfold Vl;cases N.globs.lookup x<;>rfl
theorem UR{sc:List (Str×NameKind)}{x:Str}{as:List X}(h:DN (Tv N sc x as)=true):As sc x=true∧N.globs.lookup x=none∧∃ c,N.classes.lookup x=some c∧Tv N sc x as=.new false c as:=by
 unfold Tv at h ⊢;generalize CX sc x=o at h ⊢;cases o with
 | some i=>exact EE h
 | none =>
  generalize As sc x=b at h ⊢;cases b with
  | false=>exact EE h
  | true =>
   unfold Wp at h ⊢;dsimp only at h ⊢;generalize N.globs.lookup x=o at h ⊢;cases o with
   | some v=>exact EE h
   | none =>
    dsimp only at h ⊢;generalize N.classes.lookup x=o at h ⊢;rfl';cases o with
    | some c=>exact⟨rfl,rfl,c,rfl,rfl⟩
    | none=>dsimp only at h;generalize Pm x=o at h;cases (o)<;>exact EE h
theorem K5{sc:List (Str×NameKind)}{e:Expr}(h:DN (Ao N sc e)=true):∃ id p es pos,e=.Call (.Name id p) es [] pos:=by
 cases e with
 | Call f args kws pos=>cases kws with
  | cons=>exact EE h
  | nil=>cases f with
   | Attribute o m ap=>exact EE (Qo.symm.trans h)
   | Name id p=>exact y41 id p args pos rfl
   | _=>exact EE h
 | Constant c k p=>cases (c)<;>exact EE h
 | Name id p=>exact EE (Qx.symm.trans h)
 | UnaryOp op x p=>cases (op)<;>exact EE h
 | Compare l ops rs p=>exact EE (Pv.symm.trans h)
 | Dict ks vs p=>exact EE (QB.symm.trans h)
 | Subscript v i p=>cases i with
  | Slice lo hi st q=>cases (st)<;>exact EE h
  | _=>exact EE h
 | Attribute v a p=>exact EE (Pk.symm.trans h)
 | ListComp elt gens scope p=>cases gens with
  | nil=>exact EE h
  | cons g r=>obtain⟨t,iter,ifs,k⟩:=g;exact EE (Qj.symm.trans h)
 | _=>exact EE h
theorem Hk{x:X}(h:DN x=false):GF x=x:=by
 cases x with
 | new=>exact EE h.symm
 | _=>rfl
theorem RX{e:Expr}{mg mb:Str→Option Value}(G:Globs B N mg mb)(X:K.In B)(hCT:∀ C cl,CT C=some cl→ClsOk K C cl)(hC:DI prog w B C n)(hE:AF prog w B N CT C n e)
  (hargs:∀ f args kws pos,e=.Call f args kws pos→BH prog w B N CT C n args):NO prog w B N CT C n e:=by
 intro A env sc μ c s v st' Q E hA a hs ee y;rfl';cases q:DN (Ao N sc e) with
 | true=>refine x41 (K5 q) fun id p es pos z_4=>?_;subst z_4;obtain⟨q0,q1,cx,q2,g4⟩:=UR q;have ee:ev CT C μ c.st (GF (Tv N sc id (trEs N sc es)))=some (v,st'):=ee;rw[g4] at ee;refine EK (AO ee) fun vs s1 e1 e2=>?_;exact Ip G X hCT hC (hargs _ _ _ _ rfl) hA a hs q0 q1 q2 e1 e2 y
 | false=>refine hE A env sc μ c s v st' Q E hA a hs ?_ y;rw[← ee];exact congrArg _ (Hk q).symm
theorem ST{a k:Txt}{ks:List Txt}{w v:V}{vs:List V}(h:a=k):AV (a::ks) (w::vs) k v=(a::ks,v::vs):=by
 show(match decide (a=k) with | true=>(a::ks,v::vs) | false=>(a::(AV ks vs k v).1,w::(AV ks vs k v).2))=_
 rw[decide_eq_true h]
theorem PB{a k:Txt}{ks:List Txt}{w v:V}{vs:List V}(h:¬ a=k):AV (a::ks) (w::vs) k v=(a::(AV ks vs k v).1,w::(AV ks vs k v).2):=by
 show(match decide (a=k) with | true=>(a::ks,v::vs) | false=>(a::(AV ks vs k v).1,w::(AV ks vs k v).2))=_
 rw[decide_eq_false h]
theorem Og{x:Str}{w r:Value}{l:List (Str×Value)}(h:x∉l.map (·.1)):stored ((x,w)::l) x r=(x,r)::l:=by have:=map_store_of_not_mem _ x r h;simp [stored,this]
theorem My{x k:Str}{w r:Value}{l:List (Str×Value)}(h:¬ x=k):stored ((x,w)::l) k r=(x,w)::stored l k r:=by unfold stored;rw[List.any_cons,decide_eq_false h,Bool.false_or,List.map_cons,if_neg h];cases l.any fun kv=>decide (kv.1=k)<;>rfl
theorem UV{c:Cfg}:∀{ks:List Txt} {vs:List V} {rs:List Value} {k:Txt} {v:V} {r:Value},(((ks.map AR).zip rs).map (·.1)).Nodup→ks.length=vs.length→c.Rs vs rs→c.R v r →
  ∃ rs',stored ((ks.map AR).zip rs) (AR k) r=(((AV ks vs k v).1.map AR).zip rs')∧(AV ks vs k v).1.length=(AV ks vs k v).2.length∧c.Rs (AV ks vs k v).2 rs':=by
 intro ks
 induction ks with
 | nil =>
  intro vs rs k v r _ hl hr x;have h2:vs=[]:=List.length_eq_zero_iff.mp hl.symm;subst h2;rw[show rs=[] from hr]
  exact⟨[r],rfl,rfl,r,[],rfl,x,rfl⟩
 | cons a ks ih =>
  intro vs rs k v r nd hl h x;cases vs with
  | nil=>exact absurd hl nofun
  | cons w vs =>
   refine Dx h fun r0 rs er h1 h2=>?_;clear h;subst er;have nd:=List.nodup_cons.mp nd;by_cases h:a=k
   ·rw[ST h];subst h;exact⟨r::rs,Og nd.1,hl,r,rs,rfl,x,h2⟩
   ·rw[PB h];refine FE (ih (k:=k) nd.2 (Nat.succ.inj hl) h2 x) fun rs' e1 e2 e3=>?_;exact⟨r0::rs',(My fun z=>h (Fp z)).trans (congrArg _ e1),congrArg (·+1) e2,r0,rs',rfl,h1,e3⟩
theorem LG:∀{ks:List Txt} {vs:List V} {f:Txt} {v:V} {b:Nat},refsLts b vs→B6 b v→refsLts b (AV ks vs f v).2:=by
 intro ks
 induction ks with
 | nil=>intro vs f v b _ h;exact⟨h,trivial⟩
 | cons a ks ih =>
  intro vs f v b hv h;cases vs with
  | nil=>exact⟨h,trivial⟩
  | cons w vs =>
   by_cases q:a=f
   ·rw[ST q];exact⟨h,hv.2⟩
   ·rw[PB q];exact⟨hv.1,ih hv.2 h⟩
theorem Mi:∀{vs:List V} {i:Nat} {v:V} {b:Nat},refsLts b vs→B6 b v→refsLts b (vs.set i v):=by
 intro vs
 induction vs with
 | nil=>intro i v b _ _;exact trivial
 | cons w vs ih =>
  intro i v b hv h;cases i with
  | zero=>exact⟨h,hv.2⟩
  | succ i=>exact⟨hv.1,ih hv.2 h⟩
theorem RQ{A:Around}{E:Value→Shared→Prop}{s:Shared}{l:Addr}{items:Array Value}{k:Int}{t:Tok}{v:Value}{Q:Unit→Shared→Prop}(hl:NN s.heap l items)
  (h0:0≤k) (hfit:k<2 ^ 63) (hn:k<items.size)
  (hQ:∀ h',NN h' l (items.setIfInBounds k.toNat v)→Heap.SameBut l s.heap h'→Q () { s with heap:=h' }) :
  wpAny (model prog w) A (setItem (.ref l) (.int k t) v) Q E s:=by
 rfl';obtain⟨o,ho,hc,⟨ne,hd⟩,hdd⟩:=id hl;have hL:=hl.list;refine wpAny_holding ?_;refine wpAny_bind (wpAny_sequenceKey hL.typeIs (by decide) ?_)
 refine wpAny_bind (wpAny_callSpecial?_slot (name:=Str.ofString "__setitem__") hL.typeIs slot_list_setitem
  (wpAny_call_entry slot_list_setitem hL.typeIs entry_list_setitem ?_ (args_list_setitem _ _ _)))
 refine wpAny_bind (m:=Builtin.List.listSubscript? (.int k t)) (wpAny_listSubscript_int (fitsIndex_of h0 hfit) ?_);obtain⟨j,rfl⟩:=Int.eq_ofNat_of_zero_le h0;have hj:j<items.size:=by exact cH hn
 refine wpAny_bind (m:=seqItemAt l j >>= fun r=>pure (r.map (j,·))) (wpAny_bind (wpAny_seqItemAt ho hd (wpAny_pure ?_)));rw[show items[j]?=some items[j] from Array.getElem?_eq_getElem hj]
 refine Pd (Obj.data_mapSeq hd (·.setIfInBounds j v)) fun n' hd'=>?_;refine wpAny_bind (m:=setSeqItemAt l j v) (wpAny_setSeqItemAt ho hd ?_);have hfin:NN (s.heap.update l (Obj.mapSeq (·.setIfInBounds j v))) l (items.setIfInBounds j v) :=
  ⟨_,Heap.get?_update_self _ ho (Obj.isFreed_of_seq hd'),(Obj.cls_mapSeq ..).trans hc,⟨n',hd'⟩,(FS ..).trans hdd⟩
 first
  | exact wpAny_bind (wpAny_pure (wpAny_pure ⟨.none,rfl,wpAny_pure (hQ _ hfin (Heap.SameBut.update ..))⟩))
  | exact wpAny_pure ⟨.none,rfl,wpAny_pure (hQ _ hfin (Heap.SameBut.update ..))⟩
theorem RF{k:Int}{n j:Nat}(h:0≤k)(e:GG k n=some j):j=k.toNat∧k<n :=
 TM e (fun _ h2 z=>⟨z,of_decide_eq_true h2⟩) fun h1 _ _=>absurd h (of_decide_eq_false h1)
theorem QF{h:Heap}{prog:Program}{w:World}{a:Addr}{l:List (Str×Value)}(hd:h.DictOf (strKind prog w) a l):(l.map (·.1)).Nodup:=by refine Xq hd fun _ _ _ _ _ _ _ _ z=>?_;clear hd;exact z
theorem ssE{α:Type}{P:Prop}{o:Option O}{i:V}{F:List Txt→List V→Txt→Option α}{G:List V→Int→Option α}{r:α}(e:(match o,i with | some (.dict ks vs),.str s=>F ks vs s | some (.list xs),.int k=>G xs k | _,_=>none)=some r)(h1:∀ ks vs s,o=some (.dict ks vs)→i=.str s→F ks vs s=some r→P)(h2:∀ xs k,o=some (.list xs)→i=.int k→G xs k=some r→P):P:=by
 cases o with
 | none=>exact AI e
 | some o=>cases o with
  | dict ks vs=>cases i with
   | str s=>exact h1 ks vs s rfl rfl e
   | _=>exact AI e
  | list xs=>cases i with
   | int k=>exact h2 xs k rfl rfl e
   | _=>exact AI e
  | _=>exact AI e
theorem LM{a i v:V}{ra ri rv:Value}{st':St}{A:Around}{c:Cfg}{s:Shared}{Q:Unit→Shared→Prop}{E:Value→Shared→Prop}(sim:Sim (prog,w) B c)(hs:s.heap=c.h)(e:Dg a i v c.st=some ((),st'))(xa:c.R a ra)(xi:c.R i ri)(xv:c.R v rv)
  (y:∀ c' tk,Post (prog,w) B no c c'→c'.st=st'→Q () { s with heap:=c'.h,toks:=tk }):wpAny (model prog w) A (setItem ra ri rv) Q E s:=by
 rfl';cases a with
 | ref j =>
  obtain⟨_,rfl⟩:=xa;refine ssE e (fun ks vs k0 q z d=>?_) (fun xs k0 q z d=>chE d fun p0 qp d=>?_)
  ·subst z;obtain⟨ti,rfl⟩:=xi;obtain⟨hg,e⟩:=AX d;refine I1 e fun _ z=>Ci hg fun g1 g2=>?_;subst z;have g2:=Nat.le_of_ble_eq_true g2;refine J1 (L1 g1) fun w1 w2=>?_;refine FE (sim.obj j _ q) fun rs h1 h2 h3=>?_;have hd:s.heap.DictOf (strKind prog w) (c.ρ j) ((ks.map AR).zip rs):=hs▸h1;refine FE (UV (c:=c) (k:=k0) (QF hd) h2 h3 xv) fun rs' d1 d2 d3=>?_;refine wpAny_setItem_pairs (strKind_is _ _ _ _) hd (fun h' hd' hsb=>?_) ?_
   ·rw[hs] at hsb;rw[d1] at hd';have p:=sim.put (o:=.dict (AV ks vs k0 v).1 (AV ks vs k0 v).2) (h':=h') q Iff.rfl (fun b ob nb e=>(hsb.2 b (fun z=>nb (.inl z))).trans e)
     ⟨_,hd',d2,d3⟩ w1 (fun b hb hlo hold=>LG hold (w2.elim (fun z=>absurd (Nat.lt_of_lt_of_le hb hlo) (Nat.not_lt.mpr z)) (Bq v)))
    exact y _ (s.toks+1) p rfl
   ·rw[List.length_zip,List.length_map];exact Nat.le_trans (Nat.min_le_left _ _) (Nat.le_trans g2 DO)
  ·subst z;obtain⟨ti,rfl⟩:=xi;obtain⟨hg,e⟩:=AX d;refine I1 e fun _ z=>Ci hg fun hg g3=>Ci hg fun g1 g2=>?_;subst z;have g2:=of_decide_eq_true g2;refine J1 (L1 g1) fun w1 w2=>?_;refine J1 (RF g2 qp) fun pe pl=>?_;subst pe;refine BA (sim.obj j _ q) fun rs h1 h2=>?_;have hlen:=VRels.len h2;have sm:=Eh g3;refine RQ (hs▸h1) g2 (by exact cM sm) (by rw[List.size_toArray,hlen];exact pl) fun h' hl hsb=>?_
   rw[hs] at hsb;have hrs:rs.toArray.setIfInBounds k0.toNat rv=(rs.set k0.toNat rv).toArray:=by simp
   rw[hrs] at hl;have p:=sim.put (o:=.list (xs.set k0.toNat v)) (h':=h') q Iff.rfl (fun b ob nb e=>(hsb.2 b (fun z=>nb (.inl z))).trans e)
    ⟨_,hl,VRels.set _ h2 xv⟩ w1 (fun b hb hlo hold=>Mi hold (w2.elim (fun z=>absurd (Nat.lt_of_lt_of_le hb hlo) (Nat.not_lt.mpr z)) (Bq v)))
   exact y _ s.toks p rfl
 | _=>exact AI e
end
end SSoundU
section SSoundV
open PySem PySem.W PySem.Calls PyProof.Rows PySem.SeqAt
noncomputable def CE(P:PW)(B:Heap)(env:Env)(sc:List (Str×NameKind))(c:Cfg)(fl:Fl)(μ':AG)(st':St)(Q:Flow→Shared→Prop)(s:Shared):Prop :=
 ∀ c' tk f,Post P B (Hm env) c c'→c'.st=st'→At P B env sc μ' c'→Xe c' fl f→Q f { s with heap:=c'.h,toks:=tk }
theorem CE.of{P:PW}{B:Heap}{env:Env}{sc:List (Str×NameKind)}{c:Cfg}{fl fl0:Fl}{μ' μ0:AG}{st' s0:St}{Q:Flow→Shared→Prop}{s:Shared}(y:CE P B env sc c fl μ' st' Q s)(e:some ((fl0,μ0),s0)=some ((fl,μ'),st')):CE P B env sc c fl0 μ0 s0 Q s:=by cases e;exact y
theorem c9{α:Type}{v:V}{a b:M α}{r:α×St}{P:Prop}(e:(match truthy v with | some true=>a | some false=>b | none=>none)=some r)(h1:truthy v=some true→a=some r→P)(h2:truthy v=some false→b=some r→P):P:=by
 generalize truthy v=o at e h1 h2;cases o with
 | none=>exact AI e
 | some b=>cases b with
  | true=>exact h1 rfl e
  | false=>exact h2 rfl e
section
variable (prog:Program)(w:World)(B:Heap)(N:Names)(CT:Nat→Option Cl)(C:AC)(n:Nat)
noncomputable def Ch(st:Stmt):Prop:=∀(A:Around) (env:Env) (sc:List (Str×NameKind)) (μ:AG) (c:Cfg) (s:Shared) (fl:Fl) (μ':AG) (st':St) (Q:Flow→Shared→Prop) (E:Value→Shared→Prop),
 AOk n A→At (prog,w) B env sc μ c→s.heap=c.h→ex CT C μ c.st (c8 N sc st)=some ((fl,μ'),st') →
  CE (prog,w) B env sc c fl μ' st' Q s→wpAny (model prog w) A (exec st env) Q E s
noncomputable def Bh(sts:List Stmt):Prop:=∀(A:Around) (env:Env) (sc:List (Str×NameKind)) (μ:AG) (c:Cfg) (s:Shared) (fl:Fl) (μ':AG) (st':St) (Q:Flow→Shared→Prop) (E:Value→Shared→Prop),
 AOk n A→At (prog,w) B env sc μ c→s.heap=c.h→exs CT C μ c.st (trSs N sc sts)=some ((fl,μ'),st') →
  CE (prog,w) B env sc c fl μ' st' Q s→wpAny (model prog w) A (execs sts env) Q E s
end
section
variable {prog:Program}{w:World}{B:Heap}{N:Names}{CT:Nat→Option Cl}{C:AC}{n:Nat}{K:Frag}
theorem Mt:Bh prog w B N CT C n []:=by intro A env sc μ c s fl μ' st' Q E hA a hs e y;rfl';cases e;refine wpAny_execs_nil ?_;have:=y c s.toks .next (Post.refl' a.sim a.lfr) rfl a rfl;rw[← hs] at this;exact this
theorem LR{st:Stmt}{r:List Stmt}(h:Ch prog w B N CT C n st)(hr:Bh prog w B N CT C n r):Bh prog w B N CT C n (st::r):=by
 intro A env sc μ c s fl μ' st' Q E hA a hs e y;refine EK (AO e) fun p s1 e1 e=>?_;refine wpAny_execs_cons (h A env sc μ c s p.1 p.2 s1 _ E hA a hs e1 fun c1 tk f p1 q1 a1 r1=>?_);subst q1;cases hp:p.1 with
 | next =>
  rw[hp] at r1 e;rw[show f=.next from r1]
  exact hr A env sc p.2 c1 _ fl μ' st' Q E hA a1 rfl e fun c2 tk2 f2 p2 q2 a2 r2=>y c2 tk2 f2 (p1.trans p2) q2 a2 r2
 | cont =>
  rw[hp] at r1 e;rw[show f=.cont from r1]
  exact y.of ((congrArg (fun f=>some ((f,p.2),c1.st)) hp.symm).trans e) c1 tk .cont p1 rfl a1 rfl
 | ret v=>rw[hp] at r1 e;refine BA r1 fun rv z_1 hr=>?_;subst z_1;exact y.of ((congrArg (fun f=>some ((f,p.2),c1.st)) hp.symm).trans e) c1 tk _ p1 rfl a1 ⟨rv,rfl,hr⟩
theorem RY{t:Expr}{b o:List Stmt}{pos:Pos}(ht:HI prog w B N CT C n t)(hb:Bh prog w B N CT C n b)(ho:Bh prog w B N CT C n o):Ch prog w B N CT C n (.If t b o pos):=by
 intro A env sc μ c s fl μ' st' Q E hA a hs e y;rfl';refine Aw e fun v s1 e1 e=>c9 e (fun q e=>?_) (fun q e=>?_)
 ·refine wpAny_If (ht A env sc μ c s v true s1 _ E hA a hs e1 q fun c1 tk p1 q1=>?_);subst q1;exact hb A env sc μ c1 _ fl μ' st' Q E hA (a.post p1) rfl e fun c2 tk2 f2 p2 q2 a2 r2=>y c2 tk2 f2 ((p1.ofNo a.lfr).trans p2) q2 a2 r2
 ·refine wpAny_If (ht A env sc μ c s v false s1 _ E hA a hs e1 q fun c1 tk p1 q1=>?_);subst q1;exact ho A env sc μ c1 _ fl μ' st' Q E hA (a.post p1) rfl e fun c2 tk2 f2 p2 q2 a2 r2=>y c2 tk2 f2 ((p1.ofNo a.lfr).trans p2) q2 a2 r2
theorem Jt{v:Option Expr}{pos:Pos}(h:∀ x,v=some x→AF prog w B N CT C n x):Ch prog w B N CT C n (.Return v pos):=by
 intro A env sc μ c s fl μ' st' Q E hA a hs e y;rfl';refine Aw e fun v' s1 e1 e=>?_;have y:=y.of e;cases v with
 | none=>refine I1 e1 fun z1 z2=>?_;subst z1 z2;refine wpAny_Return_none ?_;have:=y c s.toks (.ret .none) (Post.refl' a.sim a.lfr) rfl a ⟨_,rfl,rfl⟩;rw[← hs] at this;exact this
 | some x=>exact wpAny_Return_some (h x rfl A env sc _ c s v' _ _ E hA a hs e1 fun c1 tk rv p1 q1 r1=>y c1 tk _ (p1.ofNo a.lfr) q1 (a.post p1) ⟨rv,rfl,r1⟩)
theorem IK{pos:Pos}:Ch prog w B N CT C n (.Continue pos):=by intro A env sc μ c s fl μ' st' Q E hA a hs e y;rfl';cases e;refine wpAny_Continue ?_;have:=y c s.toks .cont (Post.refl' a.sim a.lfr) rfl a rfl;rw[← hs] at this;exact this
theorem Hr{x:Expr}(h:HY x=false)(t:Option Expr)(l:Nat)(env:Env):swapsWith x t l env=pure false:=by cases (x)<;>first | rfl | cases (h)
theorem H6{x t:Expr}(ht:∀ a p,t≠.Name a p)(l:Nat)(env:Env):swapsWith x (some t) l env=pure false:=by
 cases (x)<;>first
  | rfl
  | (cases (t)<;>first | rfl | exact absurd rfl (ht _ _))
theorem At.notInteractive{env:Env}{sc:List (Str×NameKind)}{μ:AG}{c:Cfg}(a:At (prog,w) B env sc μ c):interactive env=false:=by unfold interactive;simp [a.eok.kind]
theorem Ms{x:Expr}{pos:Pos}(h:AF prog w B N CT C n x):Ch prog w B N CT C n (.Expr x pos):=by
 intro A env sc μ c s fl μ' st' Q E hA a hs e y;have e:ex CT C μ c.st (match HY x with | true=>S.stuck | false=>S.expr (Ao N sc x))=some ((fl,μ'),st'):=e
 rfl';generalize q:HY x=b at e;cases b with
 | true=>exact AI e
 | false=>exact Aw e fun v' s1 e1 e=>wpAny_Expr_any (h A env sc _ c s v' _ _ E hA a hs e1 fun c1 tk rv p1 q1 r1=>y.of e c1 tk _ (p1.ofNo a.lfr) q1 (a.post p1) rfl) a.notInteractive (Hr q _ _ _)
theorem O8{b:List Stmt}{hs:List ExceptHandler}{o f:List Stmt}{pos:Pos}(hb:Bh prog w B N CT C n b):Ch prog w B N CT C n (.Try b hs o f pos):=by
 intro A env sc μ c s fl μ' st' Q E hA a hs' e y;cases hs with
 | nil=>exact AI e
 | cons h r=>cases o with
  | cons=>exact AI e
  | nil=>cases f with
   | cons=>exact AI e
   | nil=>refine wpAny_Try_except (hb A env sc μ c s fl μ' st' _ _ hA a hs' e fun c1 tk f1 p1 q1 a1 r1=>?_);have z:=y c1 tk f1 p1 q1 a1 r1;cases (f1)<;>first | exact z | exact wpAny_execs_nil z
theorem X6{α:Type}{v:V}{a b:M α}{r:α×St}{P:Prop}(e:(match truthy v with | some false=>b | some true=>a | none=>none)=some r)(h1:truthy v=some true→a=some r→P)(h2:truthy v=some false→b=some r→P):P:=by
 generalize truthy v=o at e h1 h2;cases o with
 | none=>exact AI e
 | some b=>cases b with
  | true=>exact h1 rfl e
  | false=>exact h2 rfl e
theorem LY{A:Around}{env:Env}{sc:List (Str×NameKind)}{t:Expr}{b:List Stmt}{R:Result→Shared→Prop}(hA:AOk n A)(ht:HI prog w B N CT C n t)(hb:Bh prog w B N CT C n b)(k:Nat){μ:AG}{c:Cfg}{s:Shared}{fl:Fl}{μ':AG}{st':St}
  (a:At (prog,w) B env sc μ c) (hs:s.heap=c.h) (e:BP (fun μ st=>ev CT C μ st (Ao N sc t)) (fun μ st=>exs CT C μ st (trSs N sc b)) k μ c.st=some ((fl,μ'),st'))
  (y:CE (prog,w) B env sc c fl μ' st' (fun f=>R (.ok f)) s) :
  codeAny (model prog w) A (.whileLoop t b [] env) R s:=by
 refine codeAny_whileLoop (fun k s'=>∃ c' tk μ₁,s'={ s with heap:=c'.h,toks:=tk }∧Post (prog,w) B (Hm env) c c'∧At (prog,w) B env sc μ₁ c'∧BP (fun μ st=>ev CT C μ st (Ao N sc t)) (fun μ st=>exs CT C μ st (trSs N sc b)) k μ₁ c'.st=some ((fl,μ'),st')) ?_ k
  ⟨c,s.toks,μ,by rw[← hs],Post.refl' a.sim a.lfr,a,e⟩
 rintro k s' ⟨c',tk,μ₁,rfl,p,a',e'⟩;rfl';cases k with
 | zero=>exact AI e'
 | succ k =>
  rfl';refine Aw e' fun v s1 e1 e2=>X6 e2 (fun q e2=>?_) (fun q e2=>?_)
  ·refine ht A env sc μ₁ c' _ v true s1 _ _ hA a' rfl e1 q fun c1 tk1 p1 q1=>?_;rfl';subst q1;refine Aw e2 fun p0 s2 e3 e4=>?_;have hp1:=p.trans (p1.ofNo (by rw[p.fr];exact a.lfr))
   refine hb A env sc μ₁ c1 _ p0.1 p0.2 s2 _ _ hA (a'.post p1) rfl e3 fun c2 tk2 f p2 q2 a2 r2=>?_;subst q2;obtain⟨f0,μ2⟩:=p0;cases f0 with
   | next =>
    rw[show f=.next from r2]
    exact⟨k,Nat.lt_succ_self _,c2,tk2,μ2,rfl,hp1.trans p2,a2,e4⟩
   | cont =>
    rw[show f=.cont from r2]
    exact⟨k,Nat.lt_succ_self _,c2,tk2,μ2,rfl,hp1.trans p2,a2,e4⟩
   | ret v0=>refine BA r2 fun rv z_1 hr=>?_;subst z_1;exact y.of e4 c2 tk2 _ (hp1.trans p2) rfl a2 ⟨rv,rfl,hr⟩
  ·refine ht A env sc _ c' _ v false _ _ _ hA a' rfl e1 q fun c1 tk1 p1 q1=>?_;exact wpAny_execs_nil (y.of e2 c1 tk1 .next (p.trans (p1.ofNo (by rw[p.fr];exact a.lfr))) q1 (a'.post p1) rfl)
theorem LP{t:Expr}{b o:List Stmt}{pos:Pos}(ht:HI prog w B N CT C n t)(hb:Bh prog w B N CT C n b):Ch prog w B N CT C n (.While t b o pos):=by
 intro A env sc μ c s fl μ' st' Q E hA a hs e y;cases o with
 | cons=>exact AI e
 | nil=>exact wpAny_While (LY hA ht hb W a hs e y)
theorem O7{mg mb:Str→Option Value}(G:Globs B N mg mb){target it:Expr}{b o:List Stmt}{pos:Pos}(hit:AF prog w B N CT C n it)(hargs:∀ f args kws pos,it=.Call f args kws pos→BH prog w B N CT C n args)(hb:Bh prog w B N CT C n b) :
  Ch prog w B N CT C n (.For target it b o pos):=by
 intro A env sc μ c s fl μ' st' Q E hA a hs e y;rfl';cases o with
 | cons=>exact AI e
 | nil =>
  have e:ex CT C μ c.st (foS (P9 sc target) (EP (Cn sc it) (trIt N sc it) (Ao N sc it)) (trSs N sc b))=some ((fl,μ'),st'):=e;generalize ht:P9 sc target=tt at e;cases tt with
  | none=>exact AI e
  | some tt =>
   generalize hp:EP (Cn sc it) (trIt N sc it) (Ao N sc it)=pk at e;cases pk with
   | none=>exact AI e
   | some pk =>
    obtain⟨k,Xa,Xb⟩:=pk;refine Aw e fun va s1 e1 e=>Aw e fun vb s2 e2 e=>?_;dsimp only at e;generalize e3:Bo s2 k tt va vb=pr at e;cases pr with
    | none=>exact AI e
    | some pr=>refine Aw e fun r stf e4 e=>?_;obtain⟨hg,e⟩:=AX e;refine wpAny_For (JH G (Tl ht) hit hargs hA a hs hp e1 e2 e3 fun c1 I h₂ tk p1 q1 hsrc d=>?_) (S6 hp e1);subst q1;exact QS ht hA.handled (a.post p1) hsrc rfl d (fun μ c s fl μ' st' Q E a hs e y=>hb A env sc μ c s fl μ' st' Q E hA a hs e y) e4 fun c2 tk2 f p2 q2 a2 r2 hf=>y.of e c2 tk2 f ((p1.ofNo a.lfr).trans p2) q2 a2 r2
end
end SSoundV
section SSoundW
open PySem PySem.W PySem.Calls PyProof.Rows PySem.SeqAt
theorem Gz:∀{as:List Nat} {ws:List V} {μ:AG} {i:Nat} {v:V},as.length=ws.length→BX μ (as++[i]) (ws++[v])=(BX μ as ws).map (BO · i v)
 | [],[],μ,i,v,_=>rfl
 | [],_::_,_,_,_,h=>by cases (h)
 | _::_,[],_,_,_,h=>by cases (h)
 | a::as,w::ws,μ,i,v,h=>by exact Gz (μ:=BO μ a w) (as:=as) (ws:=ws) (Nat.add_right_cancel (show as.length+1=ws.length+1 from h))
theorem LL:∀{as:List Nat} {ws:List V} {μ:AG} {i:Nat} {v:V},i∉as→BX (BO μ i v) as ws=(BX μ as ws).map (BO · i v):=by
 intro q1_
 induction q1_ with
 | nil =>
  intro q2_;cases q2_ with
  | nil=>intro μ i v _;exact rfl
  | cons q3_ q4_=>intro _ _ _ _;exact rfl
 | cons a as ih_ =>
  intro q5_;cases q5_ with
  | nil=>intro _ _ _ _;exact rfl
  | cons w ws=>intro μ i v h;have h:=not_or.mp (fun z=>h (List.mem_cons.mpr z));show BX ((μ.set i (some v)).set a (some w)) as ws=(BX (BO μ a w) as ws).map _;rw[List.set_comm _ _ h.1];exact ih_ h.2
theorem Mp:∀{is:List Nat} {vs:List V} {μ μ':AG},is.Nodup→BX μ is vs=some μ'→BX μ is.reverse vs.reverse=some μ':=by
 intro q1_
 induction q1_ with
 | nil =>
  intro q2_;cases q2_ with
  | nil=>intro μ μ' _ h;exact h
  | cons q3_ q4_=>intro _ _ _ h;exact AI h
 | cons i is ih_ =>
  intro q5_;cases q5_ with
  | nil=>intro _ _ _ h;exact AI h
  | cons v vs =>
   intro μ μ' nd h;rw[List.nodup_cons] at nd;have h:BX (BO μ i v) is vs=some μ':=h;have ih:=ih_ nd.2 h;rw[List.reverse_cons,List.reverse_cons,Gz (by rw[List.length_reverse,List.length_reverse,Fb h]),← LL (by simpa using nd.1)]
   exact ih
theorem VRels.reverse{h:Heap}{own:Addr→Prop}{ρ:Nat→Addr}{k:Nat}:∀{vs:List V} {rs:List Value},VRels h own ρ k vs rs→VRels h own ρ k vs.reverse rs.reverse:=by
 intro q1_
 induction q1_ with
 | nil=>intro _ e;rw[show _=_ from e];exact rfl
 | cons v vs ih_=>rintro _ ⟨r,rs,e,a,b⟩;subst e;rw[List.reverse_cons,List.reverse_cons];exact VRels.snoc (ih_ b) a
section
variable {prog:Program}{w:World}{B:Heap}{N:Names}{CT:Nat→Option Cl}{C:AC}{n:Nat}{K:Frag}
theorem MV{sc:List (Str×NameKind)}{f:Expr→Option Str}(hf:∀ x p y,f (.Name x p)=some y→y=x):∀{ts:List Expr} {is:List Nat},Ba sc ts=some is→(ts.filterMap f).length=ts.length→(ts.filterMap f).map (CC sc)=is.map some:=by
 intro q1_
 induction q1_ with
 | nil=>intro is h _;cases h;rfl
 | cons t ts ih_ =>
  intro is h hl;refine cj (Fc h) fun x p i is' z_4 q1 q2 z_7=>?_;subst z_4;subst z_7;cases hx:f (.Name x p) with
  | none=>rw[List.filterMap_cons_none hx] at hl;have:=List.length_filterMap_le f ts;simp only[List.length_cons] at hl;exact(aw hl this).elim
  | some y=>rw[List.filterMap_cons_some hx] at hl ⊢;rw[hf x p y hx,List.map_cons,List.map_cons,q1,ih_ q2 (by simpa using hl)]
theorem Sm{α:Type}{P:α→Prop}{c:Prop}[Decidable c]{a b:α}(h1:c→P a)(h2:¬ c→P b):P (if c then a else b):=by
 by_cases h:c
 ·rw[if_pos h];exact h1 h
 ·rw[if_neg h];exact h2 h
theorem YO{α:Type}{c:Prop}[Decidable c]{a b:α}(h:(if c then some a else none)=some b):b=a:=by
 by_cases q:c
 ·rw[if_pos q] at h;exact B8 h id
 ·rw[if_neg q] at h;exact AI h
noncomputable def W7(sc:List (Str×NameKind))(is:List Nat)(m:Sem (Option (List Str))):Prop:=m=pure none∨∃ names,m=pure (some names)∧names.map (CC sc)=is.map some
theorem Jv{ts:List Expr}{k:Nat}{tp:Pos}{v:Expr}{env:Env}{sc:List (Str×NameKind)}{is:List Nat}(hi:Ba sc ts=some is)(hok:G1 v=true) :
  W7 sc is (swappedStores [.Tuple ts k tp] v env):=by
 cases v with
 | Tuple vs k2 p2 =>
  refine Sm (P:=W7 sc is) (fun _=>.inl rfl) fun _=>Sm (P:=W7 sc is) (fun _=>.inl rfl) fun _=>Sm (P:=W7 sc is) (fun _=>.inl rfl) fun q3=>Sm (P:=W7 sc is) (fun _=>.inl rfl) fun q4=>Sm (P:=W7 sc is) (fun q5=>?_) fun _=>.inr ⟨_,rfl,?_⟩
  ·refine((Bool.or_eq_true_iff.mp hok).elim q4 fun z=>?_).elim;rw[q5] at z;exact EE z
  ·have q3:=Bool.or_eq_false_iff.mp (Bool.not_eq_true _▸q3);exact MV (fun x p y hy=>YO hy) hi (bne_eq_false_iff_eq.mp q3.1)
 | _=>exact .inl rfl
theorem L8{A:Around}{E:Value→Shared→Prop}{env:Env}{sc:List (Str×NameKind)}:∀{names:List Str} {is:List Nat} {vs:List V} {rs:List Value} {μ μ':AG} {c:Cfg} {s:Shared} {Q:Unit→Shared→Prop},names.map (CC sc)=is.map some→BX μ is vs=some μ'→At (prog,w) B env sc μ c→s.heap=c.h→c.Rs vs rs →
  (∀ c' tk,Post (prog,w) B (Hm env) c c'→c'.st=c.st→At (prog,w) B env sc μ' c'→Q () { s with heap:=c'.h,toks:=tk }) →
   wpAny (model prog w) A (assignInOrder (names.map fun n=>bindName env n) rs) Q E s:=by
 intro q1_
 induction q1_ with
 | nil =>
  intro is vs rs μ μ' c s Q hi e a hs r y;have:is=[]:=by cases is with
   | nil=>rfl
   | cons _ _=>cases (hi)
  subst this;cases vs with
  | nil =>
   refine B8 e fun z=>?_;subst z;rw[show rs=[] from r]
   refine assignInOrder_nil ?_;have:=y c s.toks (Post.refl' a.sim a.lfr) rfl a;rw[← hs] at this;exact this
  | cons v vs=>exact AI e
 | cons x names ih_ =>
  intro is vs rs μ μ' c s Q hi e a hs r y;rfl';cases is with
  | nil=>cases (hi)
  | cons i is =>
   rw[List.map_cons,List.map_cons,List.cons.injEq] at hi;cases vs with
   | nil=>exact AI e
   | cons v vs=>refine Dx r fun rv rs' z_2 r1 r2=>?_;subst z_2;refine assignInOrder_cons (wpAny_bindName (CR a hs hi.1 r1 fun c' tk p1 h1 a1=>?_));exact ih_ hi.2 e a1 rfl (p1.relsL a r2) fun c2 tk2 p2 h2 a2=>y c2 tk2 (p1.trans p2) (h2.trans h1) a2
theorem O5{sc:List (Str×NameKind)}{names:List Str}{is:List Nat}(h:names.map (CC sc)=is.map some):names.length=is.length:=by have:=congrArg List.length h;simpa using this
theorem Nb{x:Expr}(h:HY x=true):(∃ elt gens scope p,x=.ListComp elt gens scope p)∨∀ sc,Ao N sc x=.stuck:=by cases (x)<;>first | exact .inl ⟨_,_,_,_,rfl⟩ | exact .inr fun _=>rfl | exact EE h
theorem Sw{sc:List (Str×NameKind)}{elt:Expr}{gens:List Comprehension}{scope:Scope}{p:Pos}:GF (Ao N sc (.ListComp elt gens scope p))=Ao N sc (.ListComp elt gens scope p):=Hk (by
 cases h:DN (Ao N sc (.ListComp elt gens scope p)) with
 | true=>refine x41 (K5 h) fun _ _ _ _ z=>?_;cases (z)
 | false=>rfl)
theorem Tn{mg mb:Str→Option Value}(G:Globs B N mg mb){x:Expr}(hcomp:∀ elt gens scope pos,x=.ListComp elt gens scope pos→AF prog w B N CT C n elt ∧
  ∀ target iter ifs k,(⟨target,iter,ifs,k⟩:Comprehension)∈gens→AF prog w B N CT C n iter∧(∀ e∈ifs,Both prog w B N CT C n e)∧(∀ f args kws pos,iter=.Call f args kws pos→BH prog w B N CT C n args))
  (hM:NO prog w B N CT C n x) {A:Around} {env:Env} {sc:List (Str×NameKind)} {μ:AG} {c:Cfg} {s:Shared} {v:V} {st':St} {id:Str} {p0 pos:Pos} {i:Nat} {Q:Flow→Shared→Prop} {E:Value→Shared→Prop} (hA:AOk n A) (a:At (prog,w) B env sc μ c) (hs:s.heap=c.h) (hi:CC sc id=some i)
  (e:ev CT C μ c.st (GF (Ao N sc x))=some (v,st')) (y:∀ c' tk,Post (prog,w) B (Hm env) c c'→c'.st=st'→At (prog,w) B env sc (BO μ i v) c'→Q .next { s with heap:=c'.h,toks:=tk }) :
  wpAny (model prog w) A (exec (.Assign [.Name id p0] x pos) env) Q E s:=by
 have plain:swapsWith x (some (.Name id p0)) pos.line env=pure false→wpAny (model prog w) A (exec (.Assign [.Name id p0] x pos) env) Q E s:=fun hsw=>by refine wpAny_Assign_Name (hM A env sc μ c s v st' _ E hA a hs e fun c1 tk rv p1 q1 r1=>?_) hsw;refine CR (a.post p1) rfl hi r1 fun c2 tk2 p2 q2 a2=>y c2 tk2 ((p1.ofNo a.lfr).trans p2) (q2.trans q1) a2
 cases hx:HY x with
 | false=>exact plain (Hr hx _ _ _)
 | true =>
  rcases Nb (N:=N) hx with⟨elt,gens,scope,p,rfl⟩ | z
  ·refine J1 (hcomp _ _ _ _ rfl) fun h1 h2=>?_;rw[Sw] at e;obtain⟨b,hb⟩:∃ b,swapsWith (.ListComp elt gens scope p) (some (.Name id p0)) pos.line env=pure b:=⟨_,rfl⟩;cases b with
   | false=>exact plain hb
   | true=>rw[exec_Assign_Name_used _ _ _ _ hb];exact wpAny_bind (wpAny_standAt (wpAny_bind (Jw G h1 h2 hA a hs hi e fun c' tk p1 q1 a1=>wpAny_pure (y c' tk p1 q1 a1))))
  ·rw[z sc] at e;exact AI e
theorem UC{μ:AG}{st:St}{is:List Nat}{v:Expr}{x:X}{r:(Fl×AG)×St}{P:Prop}(e:ex CT C μ st (V1 (some (.tup is)) v x)=some r)(h:is.Nodup→G1 v=true→ex CT C μ st (.assign (.tup is) x)=some r→P):P:=by
 have e:ex CT C μ st (match decide is.Nodup&&G1 v with | true=>S.assign (.tup is) x | false=>.stuck)=some r:=e
 generalize q:(decide is.Nodup&&G1 v)=b at e;cases b with
 | false=>exact AI e
 | true=>exact Ci q fun g1 g2=>h (of_decide_eq_true g1) g2 e
structure AsgH(N:Names)(CT:Nat→Option Cl)(C:AC)(sc:List (Str×NameKind))(μ:AG)(st:St)(t x:Expr)(r:(Fl×AG)×St)(P:Prop):Prop where
 h1:∀ o i p,t=.Subscript o i p→ex CT C μ st (.assign (.sub (Ao N sc o) (Ao N sc i)) (Ao N sc x))=some r→P
 h2:∀ es k p is,t=.Tuple es k p→Ba sc es=some is→is.Nodup→G1 x=true→ex CT C μ st (.assign (.tup is) (Ao N sc x))=some r→P
 h3:∀ id p i,t=.Name id p→CC sc id=some i→ex CT C μ st (.assign (.loc i) (GF (Ao N sc x)))=some r→P
 h4:∀ o f p k,t=.Attribute o f p→NJ f=some k→ex CT C μ st (.assign (.attr (Ao N sc o) k) (GF (Ao N sc x)))=some r→P
theorem Ph{sc:List (Str×NameKind)}{μ:AG}{st:St}{t x:Expr}{r:(Fl×AG)×St}{P:Prop}(e:ex CT C μ st (V1 (VD N sc t) x (Ao N sc x))=some r)(h:AsgH N CT C sc μ st t x r P):P:=by
 cases t with
 | Name id p =>
  have e:ex CT C μ st (V1 ((CC sc id).map .loc) x (Ao N sc x))=some r:=e;generalize q:CC sc id=o at e;cases o with
  | none=>exact AI e
  | some i=>exact h.h3 id p i rfl q e
 | Tuple es k p =>
  have e:ex CT C μ st (V1 ((Ba sc es).map .tup) x (Ao N sc x))=some r:=e;generalize q:Ba sc es=o at e;cases o with
  | none=>exact AI e
  | some is=>exact UC e fun g1 g2=>h.h2 es k p is rfl q g1 g2
 | Attribute o f p =>
  have e:ex CT C μ st (V1 ((NJ f).map fun f=>.attr (Ao N sc o) f) x (Ao N sc x))=some r:=e;generalize q:NJ f=k at e;cases k with
  | none=>exact AI e
  | some k=>exact h.h4 o f p k rfl q e
 | Subscript o i p =>
  have e:ex CT C μ st (V1 (match Gq i with | true=>none | false=>some (.sub (Ao N sc o) (Ao N sc i))) x (Ao N sc x))=some r:=e
  generalize Gq i=b at e;cases b with
  | true=>exact AI e
  | false=>exact h.h1 o i p rfl e
 | _=>exact AI e
structure AugH(N:Names)(CT:Nat→Option Cl)(C:AC)(sc:List (Str×NameKind))(μ:AG)(st:St)(t x:Expr)(op:Operator)(r:(Fl×AG)×St)(P:Prop):Prop where
 h1:∀ id p i v,t=.Name id p→CC sc id=some i→μ[i]?=some (some v)→Aj (ev CT C μ st (Ao N sc x)) (fun vx st=>Aj (Fo (Kc op v vx) st) fun r st=>some ((.next,BO μ i r),st))=some r→P
 h2:∀ o f p k,t=.Attribute o f p→NJ f=some k→ex CT C μ st (.aug (.attr (Ao N sc o) k) op (Ao N sc x))=some r→P
theorem VW{sc:List (Str×NameKind)}{μ:AG}{st:St}{t x:Expr}{op:Operator}{r:(Fl×AG)×St}{P:Prop}(e:ex CT C μ st (W8 (VD N sc t) op (Ao N sc x))=some r)(h:AugH N CT C sc μ st t x op r P):P:=by
 cases t with
 | Name id p =>
  have e:ex CT C μ st (W8 ((CC sc id).map .loc) op (Ao N sc x))=some r:=e;generalize q:CC sc id=o at e;cases o with
  | none=>exact AI e
  | some i =>
   have e:(match μ[i]? with
    | some (some v)=>Aj (ev CT C μ st (Ao N sc x)) fun vx st=>Aj (Fo (Kc op v vx) st) fun r st=>some ((Fl.next,BO μ i r),st)
    | _=>none)=some r:=e
   generalize q1:μ[i]?=o at e;cases o with
   | none=>exact AI e
   | some o=>cases o with
    | none=>exact AI e
    | some v=>exact h.h1 id p i v rfl q q1 e
 | Attribute o f p =>
  have e:ex CT C μ st (W8 ((NJ f).map fun f=>.attr (Ao N sc o) f) op (Ao N sc x))=some r:=e;generalize q:NJ f=k at e;cases k with
  | none=>exact AI e
  | some k=>exact h.h2 o f p k rfl q e
 | Tuple es k p=>have e:ex CT C μ st (W8 ((Ba sc es).map .tup) op (Ao N sc x))=some r:=e;generalize Ba sc es=o at e;cases (o)<;>exact AI e
 | Subscript o i p =>
  have e:ex CT C μ st (W8 (match Gq i with | true=>none | false=>some (.sub (Ao N sc o) (Ao N sc i))) op (Ao N sc x))=some r:=e
  generalize Gq i=b at e;cases (b)<;>exact AI e
 | _=>exact AI e
theorem CE.of2{P:PW}{B:Heap}{env:Env}{sc:List (Str×NameKind)}{c:Cfg}{fl:Fl}{μ' μ1 μ0:AG}{st' s1 s0:St}{Q:Flow→Shared→Prop}{s:Shared}(y:CE P B env sc c fl μ' st' Q s)(e:some ((.next,μ1),s1)=some ((fl,μ'),st'))(e2:some (μ0,s0)=some (μ1,s1)):CE P B env sc c .next μ0 s0 Q s:=by cases e2;exact y.of e
theorem NS{o i x:Expr}{p pos:Pos}(hE:AF prog w B N CT C n x)(so:AF prog w B N CT C n o)(si:AF prog w B N CT C n i){A:Around}{env:Env}{sc:List (Str×NameKind)}{μ:AG}{c:Cfg}{s:Shared}{fl:Fl}{μ':AG}{st':St}{Q:Flow→Shared→Prop}{E:Value→Shared→Prop}
  (hA:AOk n A) (a:At (prog,w) B env sc μ c) (hs:s.heap=c.h) (e:ex CT C μ c.st (.assign (.sub (Ao N sc o) (Ao N sc i)) (Ao N sc x))=some ((fl,μ'),st')) (y:CE (prog,w) B env sc c fl μ' st' Q s):wpAny (model prog w) A (exec (.Assign [.Subscript o i p] x pos) env) Q E s:=by
 rfl';refine Aw e fun v s1 e1 e=>Aw e fun μ2 s2 e2 e=>Aw e2 fun ov s3 e3 e2=>Aw e2 fun iv s4 e4 e2=>Aw e2 fun u s5 e5 e2=>?_;have y:=y.of2 e e2;refine wpAny_Assign_Subscript (hE A env sc _ c s v s1 _ E hA a hs e1 fun c1 tk1 rv p1 q1 r1=>?_) (H6 (fun _ _ z=>by cases (z)) _ _)
 subst q1;have a1:=a.post p1;refine so A env sc _ c1 _ ov s3 _ E hA a1 rfl e3 fun c2 tk2 ro p2 q2 r2=>?_;subst q2;have a2:=a1.post p2;refine si A env sc _ c2 _ iv s4 _ E hA a2 rfl e4 fun c3 tk3 ri p3 q3 r3=>?_;subst q3;exact LM p3.sim rfl e5 (p3.rel (fun _ z=>z.elim) r2) r3 (p3.rel (fun _ z=>z.elim) (p2.rel (fun _ z=>z.elim) r1)) fun c4 tk4 p4 q4=>y c4 tk4 .next ((((p1.trans p2).trans p3).trans p4).ofNo a.lfr) q4 ((a2.post p3).post p4) rfl
theorem L7(X:K.In B)(hCT:∀ C cl,CT C=some cl→ClsOk K C cl){o x:Expr}{f:Str}{k:Nat}{p pos:Pos}(hf:NJ f=some k)(hM:NO prog w B N CT C n x)(so:AF prog w B N CT C n o){A:Around}{env:Env}{sc:List (Str×NameKind)}{μ:AG}{c:Cfg}{s:Shared}{fl:Fl}{μ':AG}{st':St}{Q:Flow→Shared→Prop}{E:Value→Shared→Prop}
  (hA:AOk n A) (a:At (prog,w) B env sc μ c) (hs:s.heap=c.h) (e:ex CT C μ c.st (.assign (.attr (Ao N sc o) k) (GF (Ao N sc x)))=some ((fl,μ'),st')) (y:CE (prog,w) B env sc c fl μ' st' Q s):wpAny (model prog w) A (exec (.Assign [.Attribute o f p] x pos) env) Q E s:=by
 rfl';refine Aw e fun v s1 e1 e=>Aw e fun μ2 s2 e2 e=>Aw e2 fun ov s3 e3 e2=>Aw e2 fun u s5 e5 e2=>?_;have y:=y.of2 e e2;refine plainObj_wpAny_Assign_Attribute (hM A env sc _ c s v s1 _ E hA a hs e1 fun c1 tk1 rv p1 q1 r1=>?_) (H6 (fun _ _ z=>by cases (z)) _ _)
 subst q1;have a1:=a.post p1;refine so A env sc _ c1 _ ov s3 _ E hA a1 rfl e3 fun c2 tk2 ro p2 q2 r2=>?_;subst q2;rw[Ky hf];exact GI X hCT p2.sim rfl e5 r2 (p2.rel (fun _ z=>z.elim) r1) fun c4 tk4 p4 q4=>y c4 tk4 .next (((p1.trans p2).trans p4).ofNo a.lfr) q4 ((a1.post p2).post p4) rfl
theorem NU{es:List Expr}{k:Nat}{p:Pos}{x:Expr}{pos:Pos}{is:List Nat}(hE:AF prog w B N CT C n x){A:Around}{env:Env}{sc:List (Str×NameKind)}(hsl:Ba sc es=some is)(hnd:is.Nodup)(hok:G1 x=true){μ:AG}{c:Cfg}{s:Shared}{fl:Fl}{μ':AG}{st':St}{Q:Flow→Shared→Prop}{E:Value→Shared→Prop}
  (hA:AOk n A) (a:At (prog,w) B env sc μ c) (hs:s.heap=c.h) (e:ex CT C μ c.st (.assign (.tup is) (Ao N sc x))=some ((fl,μ'),st')) (y:CE (prog,w) B env sc c fl μ' st' Q s):wpAny (model prog w) A (exec (.Assign [.Tuple es k p] x pos) env) Q E s:=by
 rfl';refine Aw e fun v s1 e1 e=>Aw e fun μ2 s2 e2 e=>?_;have y:=y.of e;cases v with
 | tup vs =>
  refine MZ e2 fun μ3 e3 z=>?_;refine Kz z fun z1 z2=>?_;subst z1 z2;refine wpAny_bind (wpAny_standAt ?_);rw[show swapsWithSole [.Tuple es k p] x pos.line env=pure false from H6 (x:=x) (t:=.Tuple es k p) (fun _ _ z=>by cases (z)) pos.line env]
  refine wpAny_bind (wpAny_pure ?_);refine wpAny_bind (hE A env sc _ c s _ _ _ E hA a hs e1 fun c1 tk1 rv p1 q1 r1=>?_);have a1:=a.post p1;rcases Jv (k:=k) (tp:=p) (env:=env) hsl hok with hw | ⟨names,hw,hn⟩
  ·rw[hw];refine wpAny_bind (wpAny_pure ?_);exact wpAny_bind (Ei (t:=.tup is) (x:=.tup vs) (show(Ba sc es).map T.tup=some (.tup is) by rw[hsl];rfl) e3 hA.handled a1 rfl (.inl r1) fun c2 tk2 p2 q2 a2=>wpAny_pure (y c2 tk2 .next ((p1.ofNo a.lfr).trans p2) (q2.trans q1) a2 rfl))
  ·rw[hw];refine wpAny_bind (wpAny_pure ?_)
   show wpAny (model prog w) A (do rule "assign.swapped-stores";let items ← unpackItems rv names.length none;assignInOrder (names.reverse.map fun n=>bindName env n) items.reverse;pure .next) Q E _
   refine Ie r1 fun T rs z_2 _ h1 h2=>?_;subst z_2;have hlen:names.length=rs.toArray.size:=by rw[O5 hn,Fb e3,List.size_toArray,VRels.len h2]
   rw[hlen];refine wpAny_bind (wpAny_rule (wpAny_bind (unpackItems_tuple hA.handled h1 fun h' he=>wpAny_bind ?_)));have pg:Post (prog,w) B no c1 { c1 with h:=h' }:=p1.sim.grow fun b o e=>he b o (Nat.ne_of_lt (Heap.lt_size e)) e
   exact L8 (is:=is.reverse) (vs:=vs.reverse) (by rw[List.map_reverse,hn,List.map_reverse]) (Mp hnd e3) (a1.post pg) rfl (VRels.reverse (pg.rels (fun _ z=>z.elim) h2)) fun c2 tk2 p2 q2 a2=>wpAny_pure (y c2 tk2 .next (((p1.trans pg).ofNo a.lfr).trans p2) (q2.trans q1) a2 rfl)
 | _=>exact AI e2
theorem Js{mg mb:Str→Option Value}(G:Globs B N mg mb)(X:K.In B)(hCT:∀ C cl,CT C=some cl→ClsOk K C cl)(hC:DI prog w B C n){ts:List Expr}{x:Expr}{pos:Pos}
  (hcomp:∀ elt gens scope pos,x=.ListComp elt gens scope pos→AF prog w B N CT C n elt ∧
   ∀ target iter ifs k,(⟨target,iter,ifs,k⟩:Comprehension)∈gens→AF prog w B N CT C n iter∧(∀ e∈ifs,Both prog w B N CT C n e)∧(∀ f args kws pos,iter=.Call f args kws pos→BH prog w B N CT C n args))
  (hE:AF prog w B N CT C n x) (hargs:∀ f args kws pos,x=.Call f args kws pos→BH prog w B N CT C n args) (ho:∀ o a p,Expr.Attribute o a p∈ts→AF prog w B N CT C n o) (hsub:∀ o i p,Expr.Subscript o i p∈ts→AF prog w B N CT C n o∧AF prog w B N CT C n i) :
  Ch prog w B N CT C n (.Assign ts x pos):=by
 intro A env sc μ c s fl μ' st' Q E hA a hs e y;have hM:=RX G X hCT hC hE hargs;cases ts with
 | nil=>exact AI e
 | cons t ts =>
 cases ts with
 | cons=>exact AI e
 | nil =>
 refine Ph e ⟨fun o i p z e'=>?_,fun es k p is z q1 q2 q3 e'=>?_,fun id p i z hi e'=>?_,fun o f p k z hf e'=>?_⟩
 ·rfl';subst z;exact NS hE (hsub _ _ _ (.head _)).1 (hsub _ _ _ (.head _)).2 hA a hs e' y
 ·subst z;exact NU hE q1 q2 q3 hA a hs e' y
 ·subst z;rfl';refine Aw e' fun v s1 e1 e=>Aw e fun μ2 s2 e2 e=>?_;have y:=y.of2 e e2;exact Tn G hcomp hM hA a hs hi e1 fun c' tk p1 q1 a1=>y c' tk .next p1 q1 a1 rfl
 ·subst z;exact L7 X hCT hf hM (ho _ _ _ (.head _)) hA a hs e' y
theorem Ik{op:Operator}{a b:V}{ra rb:Value}{v:V}{A:Around}{c:Cfg}{s:Shared}{Q:Value→Shared→Prop}{E:Value→Shared→Prop}(sim:Sim (prog,w) B c)(hs:s.heap=c.h)(e:Kc op a b=some v)(xa:c.R a ra)(xb:c.R b rb)(y:A6 (prog,w) B c v c.st Q s) :
  wpAny (model prog w) A (inplaceOp op ra rb) Q E s:=by
 rfl';cases a with
 | int i=>cases b with
  | int j =>
   obtain⟨t,rfl⟩:=xa;obtain⟨u,rfl⟩:=xb;cases op with
   | Add=>cases e;exact PyProof.Rows.iadd_int (y.now sim hs ⟨_,rfl⟩)
   | Sub=>cases e;exact PyProof.Rows.isub_int (y.now sim hs ⟨_,rfl⟩)
   | _=>exact AI e
  | _=>exact AI e
 | _=>exact AI e
theorem O6(X:K.In B)(hCT:∀ C cl,CT C=some cl→ClsOk K C cl){t x:Expr}{op:Operator}{pos:Pos}(hE:AF prog w B N CT C n x)(ho:∀ o a p,t=.Attribute o a p→AF prog w B N CT C n o):Ch prog w B N CT C n (.AugAssign t op x pos):=by
 intro A env sc μ c s fl μ' st' Q E hA a hs e y;refine VW e ⟨fun id p i v0 z hi hv e'=>?_,fun o f p k z hf e'=>?_⟩
 ·rfl';subst z;refine Aw e' fun vx s1 e1 e=>Aw e fun r s2 e2 e=>MZ e2 fun r' e3 z=>?_;have y:=y.of e;refine Kz z fun z1 z2=>?_;subst z1 z2;refine wpAny_AugAssign_Name (KR a hs (Mq hi).1 hv fun rv0 r0=>?_);refine hE A env sc _ c s vx _ _ E hA a hs e1 fun c1 tk1 rx p1 q1 r1=>?_;subst q1;refine Ik p1.sim rfl e3 (p1.rel (fun _ z=>z.elim) r0) r1 fun c2 tk2 rr p2 q2 r2=>?_;exact CR ((a.post p1).post p2) rfl hi r2 fun c3 tk3 p3 q3 a3=>y c3 tk3 .next (((p1.trans p2).ofNo a.lfr).trans p3) (q3.trans q2) a3 rfl
 ·rfl';subst z;rfl';refine Aw e' fun vo s1 e1 e=>Aw e fun v0 s2 e2 e=>MZ e2 fun v0' e3 z=>?_;refine Kz z fun z1 z2=>?_;subst z1 z2;refine Aw e fun vx s3 e4 e=>Aw e fun r s4 e5 e=>MZ e5 fun r' e6 z=>?_;refine Kz z fun z1 z2=>?_;subst z1 z2;refine Aw e fun u s5 e7 e=>?_;have y:=y.of e;refine wpAny_AugAssign_AttributeAny (ho _ _ _ rfl A env sc _ c s vo _ _ E hA a hs e1 fun c1 tk1 ro p1 q1 r1=>?_);subst q1;rw[Ky hf];refine H9 X hCT p1.sim rfl e3 r1 fun c2 tk2 r0 p2 q2 r2=>?_;rw[← q2] at e4;have a2:=(a.post p1).post p2;refine hE A env sc _ c2 _ vx _ _ E hA a2 rfl e4 fun c3 tk3 rx p3 q3 r3=>?_;subst q3;refine Ik p3.sim rfl e6 (p3.rel (fun _ z=>z.elim) r2) r3 fun c4 tk4 rr p4 q4 r4=>?_;rw[← q4] at e7;exact GI X hCT p4.sim rfl e7 (p4.rel (fun _ z=>z.elim) (p3.rel (fun _ z=>z.elim) (p2.rel (fun _ z=>z.elim) r1))) r4 fun c5 tk5 p5 q5=>y c5 tk5 .next (((((p1.trans p2).trans p3).trans p4).trans p5).ofNo a.lfr) q5 (((a2.post p3).post p4).post p5) rfl
end
end SSoundW
section SSoundX
open PySem PySem.W PySem.Calls PyProof.Rows PySem.SeqAt
section
variable {prog:Program}{w:World}{B:Heap}{N:Names}{CT:Nat→Option Cl}{C:AC}{n:Nat}{K:Frag}
theorem Io{e:Expr}(h:∀ sc,Ao N sc e=.stuck):Both prog w B N CT C n e :=
 ⟨fun A env sc μ c s v st' Q E hA a hs ee y=>(by rw[h] at ee;cases ee),fun A env sc μ c s v b st' Q E hA a hs ee tb y=>(by rw[h] at ee;cases ee)⟩
theorem Kd{op:UnaryOp}{x:Expr}{pos:Pos}(h:Both prog w B N CT C n x):Both prog w B N CT C n (.UnaryOp op x pos):=by
 cases op with
 | Not=>exact RZ h
 | USub=>exact .plain (Oc h.e)
 | _=>exact Io fun sc=>rfl
theorem IN{x i:Expr}{pos:Pos}(htr:∀ sc,Ao N sc (.Subscript x i pos)=.idx (Ao N sc x) .stuck):AF prog w B N CT C n (.Subscript x i pos):=by intro A env sc μ c s v st' Q E hA a hs e y;rw[htr] at e;rfl';refine EK (AO e) fun va s1 e1 e=>?_;refine EK (AO e) fun vi s2 e2 e=>?_;cases e2
theorem IM{x i:Expr}{pos:Pos}(hx:AF prog w B N CT C n x)(hi:AF prog w B N CT C n i)(hp:∀ lo hi p,i=.Slice lo hi none p→(∀ e,lo=some e→AF prog w B N CT C n e)∧(∀ e,hi=some e→AF prog w B N CT C n e)) :
  AF prog w B N CT C n (.Subscript x i pos):=by
 cases i with
 | Slice lo hi' st p =>
  cases st with
  | none=>obtain⟨h1,h2⟩:=hp _ _ _ rfl;exact Mx hx h1 h2
  | some st=>exact IN fun sc=>rfl
 | _=>exact R0 hx hi (fun _ _=>rfl) (fun sc=>rfl)
variable {mg mb:Str→Option Value}
theorem Rn(G:Globs B N mg mb)(X:K.In B)(hCT:∀ C cl,CT C=some cl→ClsOk K C cl)(hC:DI prog w B C n)(hkeep:∀ a vs st r,C a vs st=some r→keepIn K (.ref a)=true) :
  ∀(k:Nat) (e:Expr),sizeOf e<k→Both prog w B N CT C n e:=by
 intro q1_
 induction q1_ with
 | zero=>intro _ h;exact absurd h (Nat.not_lt_zero _)
 | succ k ih_ =>
  intro e h;have ih:=ih_;have hs:∀ es:List Expr,sizeOf es≤k→∀ x∈es,Both prog w B N CT C n x:=fun es hes x hx=>ih x (by have:=List.sizeOf_lt_of_mem hx;exact o82 hes this)
  cases e with
  | Constant c k' pos=>exact .plain (JS c k' pos)
  | Name x pos=>exact .plain (JU G x pos)
  | BoolOp op es pos=>exact LU (hs es (by simp only[Expr.BoolOp.sizeOf_spec] at h;exact o45 h))
  | BinOp l op r pos=>simp only[Expr.BinOp.sizeOf_spec] at h;exact .plain (Mu (ih l (by exact Xl h)).e (ih r (by exact o36 h)).e)
  | UnaryOp op x pos=>exact Kd (ih x (by exact o48 h))
  | IfExp t b o pos=>simp only[Expr.IfExp.sizeOf_spec] at h;exact Mv (ih t (by exact Xl h)) (ih b (by exact Yv h)) (ih o (by exact o36 h))
  | Compare l ops rs pos=>simp only[Expr.Compare.sizeOf_spec] at h;exact Ju G.mods (ih l (by exact Xl h)) (hs rs (by exact o34 h))
  | List es pos=>simp only[Expr.List.sizeOf_spec] at h;exact .plain (Ob (Dh fun e he=>(hs es (by exact Zj h) e he).e))
  | Tuple es k' pos=>simp only[Expr.Tuple.sizeOf_spec] at h;exact .plain (Mw (Dh fun e he=>(hs es (by exact ZJ h) e he).e))
  | Dict ks vs pos=>simp only[Expr.Dict.sizeOf_spec] at h;exact .plain (Oa fun e he=>(hs vs (by exact o45 h) e he).e)
  | Subscript x i pos =>
   simp only[Expr.Subscript.sizeOf_spec] at h;refine .plain (IM (ih x (by exact o49 h)).e (ih i (by exact o48 h)).e fun lo hi p z=>?_)
   subst z;simp only[Expr.Slice.sizeOf_spec] at h;refine⟨fun e z=>?_,fun e z=>?_⟩
   ·subst z;exact(ih e (by exact o68 h)).e
   ·subst z;exact(ih e (by exact o67 h)).e
  | Attribute x f pos=>exact .plain (IL X hCT (ih x (by exact o49 h)).e)
  | Call f args kws pos =>
   simp only[Expr.Call.sizeOf_spec] at h;refine .plain (O9 G X hCT hC hkeep (fun o m ap z=>?_) (Dh fun e he=>(hs args (by exact Z4 h) e he).e))
   subst z;exact(ih o (by exact o71 h)).e
  | ListComp elt gens scope pos =>
   simp only[Expr.ListComp.sizeOf_spec] at h;refine .plain (JT G (ih elt (by exact Xl h)).e fun target iter ifs k' hm=>?_)
   have h1:=List.sizeOf_lt_of_mem hm;simp only[Comprehension.mk.sizeOf_spec] at h1;refine⟨(ih iter (by exact o52 h h1)).e,hs ifs (by exact o50 h h1),fun f args kws pos z=>?_⟩
   rfl';subst z;simp only[Expr.Call.sizeOf_spec] at h1;exact Dh fun e he=>(hs args (by exact o30 h h1) e he).e
  | _=>exact Io fun sc=>rfl
theorem LQ{st:Stmt}(h:∀ sc,c8 N sc st=.stuck):Ch prog w B N CT C n st:=by intro A env sc μ c s fl μ' st' Q E hA a hs e y;rw[h] at e;cases e
theorem Fd{sts:List Stmt}(h:∀ st∈sts,Ch prog w B N CT C n st):Bh prog w B N CT C n sts:=by
 induction sts with
 | nil=>exact Mt
 | cons st r ih=>exact LR (h st (.head _)) (ih fun s hs=>h s (.tail _ hs))
theorem L6(G:Globs B N mg mb)(X:K.In B)(hCT:∀ C cl,CT C=some cl→ClsOk K C cl)(hC:DI prog w B C n)(hkeep:∀ a vs st r,C a vs st=some r→keepIn K (.ref a)=true) :
  ∀(k:Nat) (st:Stmt),sizeOf st<k→Ch prog w B N CT C n st:=by
 intro q1_
 induction q1_ with
 | zero=>intro _ h;exact absurd h (Nat.not_lt_zero _)
 | succ k ih_ =>
  intro st h;have ih:=ih_;have be:∀ e:Expr,Both prog w B N CT C n e:=fun e=>Rn G X hCT hC hkeep (sizeOf e+1) e (Nat.lt_succ_self _);have bes:∀ es:List Expr,BH prog w B N CT C n es:=fun es=>Dh fun e _=>(be e).e;have hs:∀ sts:List Stmt,sizeOf sts≤k→Bh prog w B N CT C n sts:=fun sts hl=>Fd fun x hx=>ih x (by have:=List.sizeOf_lt_of_mem hx;exact o82 hl this)
  cases st with
  | Assign ts v pos=>exact Js G X hCT hC (fun elt gens _ _ _=>⟨(be elt).e,fun _ iter ifs _ _=>⟨(be iter).e,fun e _=>be e,fun _ args _ _ _=>bes args⟩⟩) (be v).e (fun _ args _ _ _=>bes args) (fun o _ _ _=>(be o).e) (fun o i _ _=>⟨(be o).e,(be i).e⟩)
  | AugAssign t op v pos=>exact O6 X hCT (be v).e fun o _ _ _=>(be o).e
  | Return v pos=>exact Jt fun x _=>(be x).e
  | If t b o pos=>simp only[Stmt.If.sizeOf_spec] at h;exact RY (be t).t (hs b (by exact Z4 h)) (hs o (by exact o34 h))
  | While t b o pos=>simp only[Stmt.While.sizeOf_spec] at h;exact LP (be t).t (hs b (by exact Z4 h))
  | For t it b o pos=>simp only[Stmt.For.sizeOf_spec] at h;exact O7 G (be it).e (fun _ args _ _ _=>bes args) (hs b (by exact o96 h))
  | Try b hs' o f pos=>simp only[Stmt.Try.sizeOf_spec] at h;exact O8 (hs b (by exact o97 h))
  | Expr v pos=>exact Ms (be v).e
  | Continue pos=>exact IK
  | _=>exact LQ fun sc=>rfl
end
end SSoundX
section SSoundY
open PySem PySem.W PySem.Calls PyProof.Rows PySem.SeqAt
theorem IP{α:Type}:∀{ns:List Str} {vs:List α} {x:Str},vs.length=ns.length→x∈ns→((ns.zip vs).lookup x).isSome=true:=by
 intro q1_
 induction q1_ with
 | nil=>intro _ _ _ h;rfl';cases (h)
 | cons n ns ih_ =>
  intro q2_;cases q2_ with
  | nil=>intro _ hl _;cases (hl)
  | cons v vs =>
   intro x hl h;rw[List.zip_cons_cons,List.lookup_cons];split
   ·rfl
   ·rename_i q;rfl';rcases List.mem_cons.mp h with rfl | h
    ·simp at q
    ·exact ih_ (by simpa using hl) h
theorem Gl{α β:Type}{f g:α→Option β}:∀{l:List α},(∀ x∈l,f x=g x)→l.filterMap f=l.filterMap g
 | [],_=>rfl
 | x::l,h=>by
  have ih:=Gl (l:=l) fun y hy=>h y (.tail _ hy);have hx:=h x (.head _);cases q:g x with
  | none=>rw[List.filterMap_cons_none q,List.filterMap_cons_none (hx.trans q),ih]
  | some z=>rw[List.filterMap_cons_some q,List.filterMap_cons_some (hx.trans q),ih]
theorem GL{α:Type}:∀{ns:List Str} {vs:List α},vs.length=ns.length→ns.Nodup→ns.filterMap (fun n=>((ns.zip vs).lookup n).map (n,·))=ns.zip vs
 | [],_,_,_=>rfl
 | n::ns,[],hl,_=>by cases (hl)
 | n::ns,v::vs,hl,nd=>by
  rw[List.nodup_cons] at nd;rw[List.zip_cons_cons];rw[List.filterMap_cons_some (b:=(n,v)) (by rw[List.lookup_cons,beq_self_eq_true];rfl)]
  congr 1
  have:=GL (ns:=ns) (vs:=vs) (by simpa using hl) nd.2
  refine Eq.trans ?_ this;refine Gl fun x hx=>?_;rw[List.lookup_cons];split
  ·rename_i q;rw[beq_iff_eq.mp q] at hx;exact absurd hx nd.1
  ·rfl
theorem NX{fd:FuncData}{ps:List Arg}{vals:List Value}(hp:fd.params=⟨[],ps,none,[],[],none,[]⟩)(hd:fd.defaults=.none)(hl:vals.length=ps.length)(nd:(ps.map (·.arg)).Nodup) :
  bindArgs fd ⟨vals,[]⟩=pure ((ps.map (·.arg)).zip vals):=by
 have hl':vals.length=(ps.map (·.arg)).length:=by rw[List.length_map];exact hl
 have hmiss:((ps.map (·.arg)).filter fun n=>(((ps.map (·.arg)).zip vals).lookup n).isNone)=[]:=by rw[List.filter_eq_nil_iff];intro x hx;have:=IP hl' hx;intro h;rw[Option.isNone_iff_eq_none.mp h] at this;cases this
 have hgt:¬(vals.length>(ps.map (·.arg)).length):=fun h=>Nat.lt_irrefl _ (hl'▸h);obtain⟨a1,a2,a3,a4,a5,a6,a7,a8⟩:=fd;have hp:a3=_:=hp;have hd:a8=_:=hd;subst hp hd;have h1:¬((decide (vals.length>(ps.map (·.arg)).length)&&true)=true):=by rw[decide_eq_false hgt];exact Bool.false_ne_true
 refine(if_neg h1).trans ?_;refine(if_neg ?_).trans ?_
 ·have h2:∀ d:List Value,d=[]→¬((!((((ps.map (·.arg)).take ((ps.map (·.arg)).length - d.length)).filter fun n=>(((ps.map (·.arg)).zip vals).lookup n).isNone)).isEmpty)=true):=by intro d z;subst z;show ¬((!((((ps.map (·.arg)).take ((ps.map (·.arg)).length)).filter fun n=>(((ps.map (·.arg)).zip vals).lookup n).isNone)).isEmpty)=true);rw[List.take_length,hmiss];exact Bool.false_ne_true
  exact h2 (List.drop (0 - (ps.map (·.arg)).length) []) List.drop_nil
 ·have h3:(List.filterMap (fun n=>(((ps.map (·.arg)).zip vals).lookup n).map (n,·)) ((ps.map (·.arg))++[]))=(ps.map (·.arg)).zip vals:=by rw[List.append_nil];exact GL hl' nd
  have h4:∀(d:List Value) (f:Str×Value→(List (Str×Value))→Sem (ForInStep (List (Str×Value)))) (k:List (Str×Value)→Sem (List (Str×Value))) (m:List Str),d=[]→k ((ps.map (·.arg)).zip vals)=pure ((ps.map (·.arg)).zip vals)→(forIn (m.zip d) ((ps.map (·.arg)).zip vals) f >>= k)=pure ((ps.map (·.arg)).zip vals):=by intro d f k m z e;subst z;rw[List.zip_nil_right];exact e
  exact h4 (List.drop (0 - (ps.map (·.arg)).length) []) _ _ _ List.drop_nil (Eq.trans (by kernel_rfl) (congrArg pure h3))
theorem Pp{kd:Str→Option NameKind}:∀{ns:List Str} {vs:List Value} {m:Str→Option Value} {x:Str},x∉ns→bindL kd (ns.zip vs) m x=m x:=by
 intro q1_
 induction q1_ with
 | nil=>intro _ _ _ _;exact rfl
 | cons n ns ih_ =>
  intro q2_;cases q2_ with
  | nil=>intro _ _ _;exact rfl
  | cons v vs =>
   intro m x h;simp only[List.mem_cons,not_or] at h;rw[List.zip_cons_cons,bindL,ih_ h.2];split
   ·exact if_neg h.1
   ·rfl
theorem Po{kd:Str→Option NameKind}:∀{ns:List Str} {vs:List Value} {m:Str→Option Value} {x:Str},x∉ns→bindC kd (ns.zip vs) m x=m x:=by
 intro q1_
 induction q1_ with
 | nil=>intro _ _ _ _;exact rfl
 | cons n ns ih_ =>
  intro q2_;cases q2_ with
  | nil=>intro _ _ _;exact rfl
  | cons v vs =>
   intro m x h;simp only[List.mem_cons,not_or] at h;rw[List.zip_cons_cons,bindC,ih_ h.2];split
   ·rfl
   ·exact if_neg h.1
theorem Rx{kd:Str→Option NameKind}:∀{ns:List Str} {vs:List Value} {m:Str→Option Value} {x:Str} {v:Value} {i:Nat},ns.Nodup→ns[i]?=some x→vs[i]?=some v→kd x=some .local→bindL kd (ns.zip vs) m x=some v:=by
 intro q1_
 induction q1_ with
 | nil=>intro _ _ _ _ _ _ h _ _;simp at h
 | cons n ns ih_ =>
  intro q2_;cases q2_ with
  | nil=>intro _ _ _ _ _ _ h _;simp at h
  | cons w vs =>
   intro m x v q3_;cases q3_ with
   | zero=>intro nd h1 h2 hk;simp only[List.getElem?_cons_zero,Option.some.injEq] at h1 h2;subst h1 h2;rw[List.nodup_cons] at nd;rw[List.zip_cons_cons,bindL,if_pos hk,Pp nd.1];exact if_pos rfl
   | succ i=>intro nd h1 h2 hk;rw[List.nodup_cons] at nd;simp only[List.getElem?_cons_succ] at h1 h2;exact ih_ nd.2 h1 h2 hk
theorem Rw{kd:Str→Option NameKind}:∀{ns:List Str} {vs:List Value} {m:Str→Option Value} {x:Str} {v:Value} {i:Nat},ns.Nodup→ns[i]?=some x→vs[i]?=some v→¬ kd x=some .local→bindC kd (ns.zip vs) m x=some v:=by
 intro q1_
 induction q1_ with
 | nil=>intro _ _ _ _ _ _ h _ _;simp at h
 | cons n ns ih_ =>
  intro q2_;cases q2_ with
  | nil=>intro _ _ _ _ _ _ h _;simp at h
  | cons w vs =>
   intro m x v q3_;cases q3_ with
   | zero=>intro nd h1 h2 hk;simp only[List.getElem?_cons_zero,Option.some.injEq] at h1 h2;subst h1 h2;rw[List.nodup_cons] at nd;rw[List.zip_cons_cons,bindC,if_neg hk,Po nd.1];exact if_pos rfl
   | succ i=>intro nd h1 h2 hk;rw[List.nodup_cons] at nd;simp only[List.getElem?_cons_succ] at h1 h2;exact ih_ nd.2 h1 h2 hk
theorem J5:∀{l:List (Str×NameKind)} {n:Nat} {acc:List (Str×Addr)} {x:Str},(acc.lookup x).isSome=true→((cellsFrom n l acc).lookup x).isSome=true:=by
 intro q1_
 induction q1_ with
 | nil=>intro _ _ _ h;exact h
 | cons q2_ r ih_ =>
  obtain⟨y,k⟩:=q2_;intro n acc x h;unfold cellsFrom;split
  ·refine ih_ ?_;rw[List.lookup_cons];split
   ·rfl
   ·exact h
  ·exact ih_ h
theorem Ct:∀{l:List (Str×NameKind)} {n:Nat} {acc:List (Str×Addr)} {x:Str},(x,NameKind.cell)∈l→((cellsFrom n l acc).lookup x).isSome=true
 | (y,k)::r,n,acc,x,h=>by
  unfold cellsFrom;rcases List.mem_cons.mp h with z | h
  ·cases z;exact J5 (by rw[List.lookup_cons,beq_self_eq_true];rfl)
  ·split
   ·exact Ct h
   ·exact Ct h
theorem Cq{α:Type}:∀{l:List (Str×α)} {x:Str} {a:α},l.lookup x=some a→(x,a)∈l
 | (y,b)::r,x,a,h=>by
  rw[List.lookup_cons] at h;split at h
  ·rename_i q;cases h;rw[beq_iff_eq.mp q];exact .head _
  ·exact .tail _ (Cq h)
noncomputable def P7:List Str→List Str→Bool
 | [],_=>true
 | _::_,[]=>false
 | x::xs,y::ys=>x==y&&P7 xs ys
theorem T9:∀{xs ys:List Str} {i:Nat} {x:Str},P7 xs ys=true→xs[i]?=some x→ys[i]?=some x:=by
 intro q1_
 induction q1_ with
 | nil=>intro _ _ _ _ h;simp at h
 | cons a xs ih_ =>
  intro q2_;cases q2_ with
  | nil=>intro _ _ h _;cases h
  | cons b ys =>
   intro q3_;cases q3_ with
   | zero=>intro x h hx;have h:=Bool.and_eq_true_iff.mp h;rw[← beq_iff_eq.mp h.1];exact hx
   | succ i=>intro x h hx;have h:=Bool.and_eq_true_iff.mp h;simp only[List.getElem?_cons_succ] at hx ⊢;exact ih_ h.2 hx
noncomputable def Y2:List Str→Bool
 | []=>true
 | x::r=>!r.any (·==x)&&Y2 r
theorem WH:∀{l:List Str},Y2 l=true→l.Nodup:=by
 intro q1_
 induction q1_ with
 | nil=>intro _;exact List.nodup_nil
 | cons x r ih_ =>
  intro h;have h:=Bool.and_eq_true_iff.mp h;refine List.nodup_cons.mpr ⟨fun hx=>?_,ih_ h.2⟩;have h1:r.any (·==x)=false:=by simpa using h.1
  rw[List.any_eq_false] at h1;exact h1 x hx (beq_self_eq_true x)
noncomputable def Mn(ps:List Str)(scope:Scope):Bool :=
 scope.kind==.function&&!scope.isCoroutine&&!scope.isGenerator&&Y2 (scope.names.map (·.1))&&P7 ps (scope.names.map (·.1)) &&
  ps.all (fun p=>F4 .local (scope.names.lookup p)||F4 .cell (scope.names.lookup p))&&(scope.names.lookup ("__debug__":Str)).isNone&&(scope.names.lookup ("__classdict__":Str)).isNone
structure ScOk(ps:List Str)(scope:Scope):Prop where
 kind:scope.kind=.function
 co:scope.isCoroutine=false
 gen:scope.isGenerator=false
 nd:(scope.names.map (·.1)).Nodup
 nps:ps.Nodup
 at_:∀(i:Nat) (x:Str),ps[i]?=some x→(scope.names.map (·.1))[i]?=some x
 kinds:∀ p∈ps,scope.names.lookup p=some .local∨scope.names.lookup p=some .cell
 dbg:scope.names.lookup ("__debug__":Str)=none
 cdict:scope.names.lookup ("__classdict__":Str)=none
theorem LV:∀{xs ys:List Str},P7 xs ys=true→∃ zs,ys=xs++zs:=by
 intro q1_
 induction q1_ with
 | nil=>intro ys _;exact⟨ys,rfl⟩
 | cons x xs ih_ =>
  intro q2_;cases q2_ with
  | nil=>intro h;cases h
  | cons y ys=>intro h;have h:=Bool.and_eq_true_iff.mp h;obtain⟨zs,e⟩:=ih_ h.2;exact⟨zs,by rw[e,beq_iff_eq.mp h.1];rfl⟩
theorem T2{ps:List Str}{scope:Scope}(h:Mn ps scope=true):ScOk ps scope:=by
 unfold Mn at h;simp only[Bool.and_eq_true,Bool.not_eq_true',beq_iff_eq] at h;rfl';obtain⟨⟨⟨⟨⟨⟨⟨h1,h2⟩,h3⟩,h4⟩,h5⟩,h6⟩,h7⟩,h8⟩:=h;have nd:=WH h4;refine⟨h1,h2,h3,nd,?_,fun i x=>T9 h5,fun p hp=>?_,Option.isNone_iff_eq_none.mp h7,Option.isNone_iff_eq_none.mp h8⟩
 ·obtain⟨zs,e⟩:=LV h5;rw[e] at nd;exact(List.nodup_append.mp nd).1
 ·have z:=List.all_eq_true.mp h6 p hp;rcases Bool.or_eq_true_iff.mp z with z | z
  ·exact .inl (Cp z)
  ·exact .inr (Cp z)
inductive FnOk(K:Frag)(N:Names)(a:Nat)(f:Fn):Prop where
 | mk (oc od osl name qual ps body scope kV doc pm an cdv ct) (h1:K.lookup a=some ⟨oc,od,.func (fnOf name qual ⟨[],ps,none,[],[],none,[]⟩ body scope .none kV doc pm an cdv ct),osl⟩)
  (h2:codeIn K cdv qual=true) (h3:Mn (ps.map (·.arg)) scope=true) (h4:f.body=trSs N scope.names body) (h5:f.np=ps.length) (h6:f.ns=scope.names.length)
theorem FnOk.keep{K:Frag}{N:Names}{a:Nat}{f:Fn}(h:FnOk K N a f):keepIn K (.ref a)=true:=by obtain⟨oc,od,osl,name,qual,ps,body,scope,kV,doc,pm,an,cdv,ct,h1⟩:=h;unfold keepIn;dsimp only;rw[h1]
section
variable {prog:Program}{w:World}{B:Heap}{N:Names}{CT:Nat→Option Cl}{FT:Nat→Option Fn}{n:Nat}{K:Frag}{mg mb:Str→Option Value}
theorem FU{C:AC}(G:Globs B N mg mb)(X:K.In B){a:Nat}{f:Fn}(hf:FnOk K N a f)(hbody:∀ body,Bh prog w B N CT C n body){A:Around}{c:Cfg}{s:Shared}{vs:List V}{rvs:List Value}{R:Result→Shared→Prop}{lo' ro':Nat}{p:Fl×AG}{st2:St}
  (hA:COk (n+1) A) (sim:Sim (prog,w) B c) (hs:s.heap=c.h) (hr:c.Rs vs rvs) (hlen:vs.length=f.np) (hlo:lo'≤c.st.next) (hro:ro'≤c.st.next)
  (e:exs CT C (vs.map some++List.replicate (f.ns - f.np) none) ⟨c.st.objs,lo',ro'⟩ f.body=some (p,st2))
  (y:∀ c2 tk rv,Post (prog,w) B no { c with st:=⟨c.st.objs,lo',ro'⟩ } c2→c2.st=st2→c2.R (MA p.1) rv→R (.ok (.ret rv)) { s with heap:=c2.h,toks:=tk }) :
  codeAny (model prog w) A (.call (.ref a) ⟨rvs,[]⟩) R s:=by
 rfl';obtain⟨oc,od,osl,name,qual,ps,body,scope,kV,doc,pm,an,cdv,ct,h1,h2,h3,h4,h5,h6⟩:=hf;have ok:=T2 h3;have Xc:=sim.inn X;have hvl:=VRels.len hr;have hl:rvs.length=ps.length:=by rw[hvl,hlen,h5]
 have hb:=NX (fd:=fnOf name qual ⟨[],ps,none,[],[],none,[]⟩ body scope .none kV doc pm an cdv ct) (ps:=ps) (vals:=rvs) rfl rfl hl ok.nps;refine codeAny_call_cells (fd:=fnOf name qual ⟨[],ps,none,[],[],none,[]⟩ body scope .none kV doc pm an cdv ct) (body:=body) (by have:=hA.depth;exact Y8 this) (hs▸Xc _ _ h1) rfl (hs▸G.nolimit.keeps fun b o eo=>(sim.base b o eo).1) (hs▸codeRec_of Xc h2) rfl hb rfl (fun x hx=>?_) (fun s₁ IC=>?_) ok.co ok.gen ok.kind
 ·have hx':x.1∈ps.map (·.arg):=(List.of_mem_zip hx).1;rcases ok.kinds _ hx' with z | z
  ·exact .inl z
  ·exact .inr ⟨z,Ct (Cq z)⟩
 ·refine EK IC.done fun h₁ tk z_2 hk=>?_;subst z_2;rw[hs] at hk IC;generalize henv:callEnvC (fnOf name qual ⟨[],ps,none,[],[],none,[]⟩ body scope .none kV doc pm an cdv ct) c.h.objs.size a=env at IC;rw[hs,henv];have hL:env.locals=c.h.objs.size:=by rw[← henv];rfl
  have hnames:env.scope.names=scope.names:=by rw[← henv];rfl
  have hkind:∀ x,env.kindOf x=scope.names.lookup x:=fun x=>by unfold Env.kindOf;rw[hnames]
  have hLn:c.h.get? env.locals=none:=by rw[hL];exact An _
  have simm:=sim.marks (lo:=lo') (ro:=ro') hlo hro;obtain⟨sim1,ko⟩:=simm.enter (h':=h₁) (x:=fun b=>b=env.locals) hk (fun b z=>by rw[show b=env.locals from z];exact⟨hLn,PY IC.toInCall.ns⟩)
  have a0:At (prog,w) B env scope.names (vs.map some++List.replicate (f.ns - f.np) none) { c with h:=h₁,fr:=fun b=>c.fr b∨b=env.locals,st:=⟨c.st.objs,lo',ro'⟩ }:=by
   refine⟨sim1,⟨by rw[← henv];exact ok.kind,hnames,by rw[← henv];rfl,by rw[← henv];rfl,ok.dbg,ok.cdict⟩,.inr rfl,_,IC.toInCall.ns,fun x i v hx hv=>?_⟩
   have hi:i<vs.length:=by
    rcases Nat.lt_or_ge i vs.length with z | z
    ·exact z
    ·rw[List.getElem?_append_right (by rw[List.length_map];exact z),List.getElem?_replicate] at hv
     split at hv<;>cases hv
   rw[List.getElem?_append_left (by rw[List.length_map];exact hi),List.getElem?_map] at hv
   rfl';refine BA (Option.map_eq_some_iff.mp hv) fun v' hv' z=>?_;cases z;refine BA (VRels.get hr hv') fun rv hrv hrel=>?_;refine BA (Fq hx) fun q hq hqx=>?_;have hpi:i<(ps.map (·.arg)).length:=by rw[List.length_map,← h5,← hlen];exact hi
   have hpx:(ps.map (·.arg))[i]?=some x:=by have z:=ok.at_ i _ (List.getElem?_eq_getElem hpi);rw[List.getElem?_map,hq,Option.map_some,hqx] at z;rw[List.getElem?_eq_getElem hpi,← z]
   have hmem:x∈ps.map (·.arg):=List.mem_of_getElem? hpx;refine Ft rv ?_ (BM.mono ko (fun _ _=>rfl) (Nat.le_refl _) _ _ hrel);unfold BY;rw[hkind];rcases ok.kinds x hmem with kz | kz
   ·rw[kz];exact Rx ok.nps hpx hrv (by rw[hkind];exact kz)
   ·rw[kz];have hc:(env.cells.lookup x).isSome=true:=by rw[← henv];exact Ct (Cq kz)
    rfl';refine Pd (Option.isSome_iff_exists.mp hc) fun ca hca=>?_;refine BA (IC.cell x ca hca) fun o ho hd=>?_;have hab:=IC.above x ca (Cq hca);have hnone:c.h.get? ca=none:=Heap.get?_none_of_le (by rw[← hL];exact Nat.le_of_lt hab)
    refine NF ca o hca (fun own=>?_) ho ?_
    ·rcases own with(z | z) | z
     ·exact sim.notfr hnone z
     ·exact Nat.ne_of_gt hab z
     ·exact sim.notF hnone z
    ·rw[hd,Rw ok.nps hpx hrv (by rw[hkind,kz];intro z;cases z)]
  rw[h4] at e;have hdp:AOk n (A.deeper env):=⟨hA.handled,by show A.depth+1+2*n+1<_;have:=hA.depth;exact o90 this,by show A.units+3+32*n+40<_;have:=hA.units;exact o70 this⟩
  refine hbody body (A.deeper env) env scope.names _ _ _ p.1 p.2 st2 _ _ hdp a0 rfl e fun c2 tk2 fl p2 q2 a2 r2=>?_;obtain⟨pl,kol⟩:=Post.leave (lx:=Hm env) (x:=fun b=>b=env.locals) (c:={ c with st:=⟨c.st.objs,lo',ro'⟩ }) hk (fun b z=>by rw[show b=env.locals from z];exact hLn) (fun b z=>z) p2
  refine y { c2 with fr:=c.fr } tk2 _ pl q2 ?_
  cases hp:p.1 with
  | next=>rw[hp] at r2;rw[show fl=.next from r2];rfl
  | cont=>rw[hp] at r2;rw[show fl=.cont from r2];rfl
  | ret v0=>rw[hp] at r2;refine BA r2 fun rv z_1 hr0=>?_;subst z_1;exact BM.mono kol (fun _ _=>rfl) (Nat.le_refl _) _ _ hr0
theorem fnE{α:Type}{P:Prop}{o:Option Fn}{F:Fn→Option α}{r:α}(e:(match o with | none=>none | some f=>F f)=some r)(k:∀ f,o=some f→F f=some r→P):P:=by
 cases o with
 | none=>exact AI e
 | some f=>exact k f rfl e
theorem Uu{a:Nat}{vs:List V}{st:St}{r:V×St}{P:Prop}(e:AP CT FT (n+1) a vs st=some r)(h:∀ f,FT a=some f→vs.length=f.np →
  (∀ p s2,exs CT (AP CT FT n) (vs.map some++List.replicate (f.ns - f.np) none) ⟨st.objs,st.next,st.next⟩ f.body=some (p,s2)→Fo (Fv s2.objs st.next 40 (MA p.1)) st=some r→P) ∧
  (∀ p s2,exs CT (AP CT FT n) (vs.map some++List.replicate (f.ns - f.np) none) ⟨st.objs,st.next,st.ro⟩ f.body=some (p,s2)→Fo (Fv s2.objs st.next 40 (MA p.1)) (s2.cut st.next st.lo st.ro)=some r→P) ∧
  (∀ p s2,exs CT (AP CT FT n) (vs.map some++List.replicate (f.ns - f.np) none) st f.body=some (p,s2)→some (MA p.1,s2)=some r→P)):P:=by
 refine fnE e fun f q e=>bT' e (fun e hl=>?_) (fun e _=>AI e);obtain⟨h1,h2,h3⟩:=h f q (of_decide_eq_true hl);clear h;dsimp only at e;generalize f.mode=m at e;cases m with
 | pure=>exact Aw e h1
 | «scoped»=>exact Aw e h2
 | open_=>exact Aw e h3
theorem Ml(hFT:∀ a f,FT a=some f→FnOk K N a f){n a:Nat}{vs:List V}{st:St}{r:V×St}(h:AP CT FT n a vs st=some r):keepIn K (.ref a)=true:=by
 cases n with
 | zero=>exact AI h
 | succ m=>exact fnE h fun f q _=>(hFT a f q).keep
theorem T1(G:Globs B N mg mb)(X:K.In B)(hCT:∀ C cl,CT C=some cl→ClsOk K C cl)(hFT:∀ a f,FT a=some f→FnOk K N a f)(ih:DI prog w B (AP CT FT n) n):DI prog w B (AP CT FT (n+1)) (n+1):=by
 intro A c s a vs rvs v st' R hA sim hs hr e y;have hbody:∀ body,Bh prog w B N CT (AP CT FT n) n body:=fun body=>Fd fun st _=>L6 G X hCT ih (fun _ _ _ _ h=>Ml hFT h) (sizeOf st+1) st (Nat.lt_succ_self _);rfl';refine Uu e fun f hf hl=>?_;have ok:=hFT a f hf;refine⟨fun p s2 e1 e=>?_,fun p s2 e1 e=>?_,fun p s2 e1 e=>?_⟩
 ·obtain⟨v',e2,e⟩:=F8 e;cases (e);refine FU G X ok hbody hA sim hs hr hl (Nat.le_refl _) (Nat.le_refl _) e1 fun c2 tk rv pp q r=>?_;rfl';subst q;have hle:c.st.next≤c2.st.next:=pp.next;have hget:∀ i,i<c.st.next→c.st.get i=c2.st.get i:=fun i hi=>(pp.roeq i hi).symm;have kc:CutOf c2.st c.st c.st.next:=⟨rfl,hle,hget,sim.lo,sim.ro⟩;have ho:DS c.st.next c2.st:=pp.old _ (Nat.le_refl _) sim.oldNow;have pc:=Post.cutBack sim (c₁:={ c with st:=⟨c.st.objs,c.st.next,c.st.next⟩ }) (fun _ _ z=>z) (fun b z=>.inl z) rfl (fun _ _=>⟨rfl,rfl⟩) (Nat.le_refl _) pp kc ho rfl rfl (fun _ _ z=>z) (fun _ _=>rfl) (fun i hi=>⟨Nat.lt_of_lt_of_le hi sim.ro,rfl⟩)
  exact y { c2 with st:=c.st } tk rv pc rfl ((Nu pp.sim kc 40).1 _ _ _ e2 r)
 ·obtain⟨v',e2,e⟩:=F8 e;cases (e);refine FU G X ok hbody hA sim hs hr hl (Nat.le_refl _) sim.ro e1 fun c2 tk rv pp q r=>?_;subst q;have hle:c.st.next≤c2.st.next:=pp.next;have kc:CutOf c2.st (c2.st.cut c.st.next c.st.lo c.st.ro) c.st.next:=SQ hle sim.lo sim.ro;have o0:∀ b,b≤c.st.next→DS b c.st→DS b c2.st:=fun b hb h=>pp.old b hb h;have pc:=Post.cutBack sim (c₁:={ c with st:=⟨c.st.objs,c.st.next,c.st.ro⟩ }) (fun _ _ z=>z) (fun b z=>.inl z) rfl (fun _ _=>⟨rfl,rfl⟩) (Nat.le_refl _) pp kc (o0 _ (Nat.le_refl _) sim.oldNow) rfl rfl
   (fun b hb h i o hi e=>o0 b (Nat.le_trans hb sim.lo) h i o hi ((kc.get i (Nat.lt_of_lt_of_le hi (Nat.le_trans hb sim.lo))).symm.trans e))
   (fun i hi=>(kc.get i (Nat.lt_of_lt_of_le hi sim.ro)).trans (pp.roeq i hi)) (fun i hi=>⟨hi,rfl⟩)
  exact y { c2 with st:=c2.st.cut c.st.next c.st.lo c.st.ro } tk rv pc rfl ((Nu pp.sim kc 40).1 _ _ _ e2 r)
 ·cases e;exact FU G X ok hbody hA sim hs hr hl sim.lo sim.ro e1 fun c2 tk rv pp q r=>y c2 tk rv pp q r
theorem RP(G:Globs B N mg mb)(X:K.In B)(hCT:∀ C cl,CT C=some cl→ClsOk K C cl)(hFT:∀ a f,FT a=some f→FnOk K N a f):∀ n,DI prog w B (AP CT FT n) n:=by
 intro q1_
 induction q1_ with
 | zero=>intro A c s a vs rvs v st' R hA sim hs hr e y;cases e
 | succ n ih_=>exact T1 G X hCT hFT (ih_)
theorem NY(G:Globs B N mg mb)(X:K.In B)(hCT:∀ C cl,CT C=some cl→ClsOk K C cl)(hFT:∀ a f,FT a=some f→FnOk K N a f)(n:Nat)(body:List Stmt):Bh prog w B N CT (AP CT FT n) n body :=
 Fd fun st _=>L6 G X hCT (RP G X hCT hFT n) (fun _ _ _ _ h=>Ml hFT h) (sizeOf st+1) st (Nat.lt_succ_self _)
end
end SSoundY
section SHead0
open PySem PySem.W
noncomputable def sf(x:String):Str:=Str.ofString x
noncomputable def ky(P:Params)(x:Str)(k:Nat)(v:Value):DictEntry:=⟨PyData.keyHash P x,.str x k,v⟩
noncomputable def oT(c:String)(d:Data):Obj:=⟨.type c,none,d,#[]⟩
noncomputable def oN(d:Data):Obj:=⟨.none,none,d,#[]⟩
noncomputable def LA(vs:List Value):Obj:=oT "tuple" (.seq ⟨vs⟩ 0)
noncomputable def NA:List Str→Nat→List Value
 | [],_=>[]
 | x::r,k=>.str x k::NA r (k+1)
structure TS where
 T:BT
 n:Nat
 k:Nat
 g:List DictEntry
 c:List Value
 m:Value
noncomputable def TS.put(s:TS)(o:Obj):TS:=⟨s.T.ins s.n o,s.n+1,s.k,s.g,s.c,s.m⟩
noncomputable def TS.tok(s:TS)(j:Nat):TS:=⟨s.T,s.n,s.k+j,s.g,s.c,s.m⟩
noncomputable def TS.bind(P:Params)(s:TS)(x:Str)(v:Value):TS:=⟨s.T,s.n,s.k+1,s.g++[ky P x s.k v],s.c,s.m⟩
noncomputable def TS.const(s:TS)(p:Pos)(v:Value):TS:=⟨s.T,s.n,s.k,s.g,s.c++[.int p.line 0,.int p.col 0,v],s.m⟩
noncomputable def Wu:Str:=sf "/claim/cut.py"
noncomputable def Ox(nm q:Str)(l args flags:Int)(fv:Nat)(Fo:Bool)(cs:Nat)(vs ce tm:Value)(k k2:Nat):Obj :=
 oT "code" (.fields ⟨[.str nm k,.str q (k+1),.str Wu (k+2),.int l 0,.int args 0,.int 0 0,.int 0 0,.int flags 0,.ref fv,.bool Fo,.int 181 0,.ref cs,.none,vs,ce,tm,.int k2 0,.int l 0,.str Wu (k2+1)]⟩)
noncomputable def YX(sc:Scope):List Str:=sc.names.filterMap fun x=>match x.2 with | .local=>some x.1 | .cell=>some x.1 | _=>none
noncomputable def cells(sc:Scope):List Str:=sc.names.filterMap fun x=>match x.2 with | .cell=>some x.1 | _=>none
noncomputable def Wx(sc:Scope):List Str:=sc.names.filterMap fun x=>match x.2 with | .free=>some x.1 | _=>none
noncomputable def TS.fn(s:TS)(q:Str)(cl:Option Nat):Stmt→TS
 | .FunctionDef nm a b _ _ _ sc _ _ p =>
  let cv:List (Str×Addr):=match cl with | some c=>[(sf "__class__",c)] | none=>[]
  let ct:Value:=match cl with | some _=>.ref s.n | none=>.none
  let k:=s.k
  let s:=match cl with | some c=>s.put (LA [.ref c]) | none=>s
  let n:=s.n
  let fr:=Wx sc
  let s:=s.put (LA (NA fr (k+3)))
  let s:=s.put (oN (.fields #[] ))
  let k1:=k+3+fr.length
  let f (g:Addr) (m c t:Value) (cv:List (Str×Addr)):Data:=.func { name:=nm,qualname:=q,params:=a,body:=.stmts b,scope:=sc,globals:=g,closure:=cv,defaults:=.none,kwdefaults:=.none,pyModule:=m,code:=c,closureTuple:=t }
  match sc.more with
  | [] =>
   let vs:=YX sc
   let cs:=cells sc
   let s:=s.put (LA (NA vs k1))
   let s:=s.put (LA (NA cs (k1+vs.length)))
   let k2:=k1+vs.length+cs.length
   let s:=s.put (oN (f 0 .none .none .none []))
   let s:=s.put (Ox nm q p.line a.args.length 3 n true (n+1) (.ref (n+2)) (.ref (n+3)) (.ref (n+4)) k k2)
   let s:=s.put (oT "function" (f 3 s.m (.ref (n+5)) ct cv))
   ⟨s.T,s.n,k2+2,s.g,s.c,s.m⟩
  | _ =>
   let k2:=k1
   let s:=s.put (oN (f 0 .none .none .none []))
   let s:=s.put (Ox nm q p.line a.args.length 3 n true (n+1) .none .none (.ref (n+2)) k k2)
   let s:=s.put (oT "function" (f 3 s.m (.ref (n+3)) ct cv))
   ⟨s.T,s.n,k2+2,s.g,s.c,s.m⟩
 | _=>s
noncomputable def dot(c:Str)(x:Str):Str:=⟨(c.cps.toList++46::x.cps.toList).toArray⟩
noncomputable def TS.fns(P:Params)(c:Str)(cl:Option Nat):List Stmt→TS→List DictEntry→List Value→TS×List DictEntry×List Value
 | [],s,es,cs=>(s,es,cs)
 | .FunctionDef nm a b x1 x2 x3 sc x4 x5 p::r,s,es,cs =>
  let s:=s.fn (dot c nm) cl (.FunctionDef nm a b x1 x2 x3 sc x4 x5 p)
  fns P c cl r (s.tok 1) (es++[ky P nm s.k (.ref (s.n - 1))]) (cs++[.int p.line 0,.int p.col 0,.ref (s.n - 2)])
 | _::r,s,es,cs=>fns P c cl r s es cs
noncomputable def cZ(P:Params)(a k:Nat):Obj→Obj
 | ⟨c,d,.dict ⟨[]⟩ _,sl⟩=>⟨c,d,.dict ⟨[ky P (sf "type.__subclasses__.Exception.0") k (.int a 0),ky P (sf "type.__subclasses__.Exception.n") (k+1) (.int 1 0)]⟩ 2,sl⟩
 | ⟨c,d,.dict ⟨[x,y]⟩ _,sl⟩=>⟨c,d,.dict ⟨[x,⟨y.hash,y.key,.int 2 0⟩,ky P (sf "type.__subclasses__.Exception.1") k (.int a 0)]⟩ 3,sl⟩
 | o=>o
noncomputable def TS.cls(P:Params)(kind:Nat)(cell:Bool)(s:TS):Stmt→TS
 | .ClassDef nm _ _ body _ _ _ _ _ sta p =>
  let n:=s.n
  let k:=s.k
  let bases:List Value:=match kind with | 0=>[] | 1=>[.type "Exception"] | _=>[.ref 40]
  let s:=(s.put (LA bases)).put (oT "builtin_function_or_method" (.fields ⟨[.builtin "type.__prepare__",.type "type"]⟩))
  let s:=s.put (oN .plain)
  let s:=match cell with | true=>s.put (oN .plain) | false=>s
  let nc:=s.n
  let s:=((s.put (LA [])).put (oN .plain)).put (Ox nm nm p.line 0 0 nc false (nc+1) .none .none .none (k+2) (k+5))
  let s:=s.put ⟨.type "frame",none,.plain,⟨[some (.ref (nc+2)),some (.ref 3),some (.ref (n+2)),none,some s.m,none,some (.ref 0)]⟩⟩
  let q:Value:=.str nm (k+8)
  let e1:=ky P (sf "__module__") (k+7) s.m
  let e2:=ky P (sf "__qualname__") (k+9) q
  let e3:=ky P (sf "__firstlineno__") (k+11) (.int p.line (k+10))
  let r:=TS.fns P nm (match cell with | true=>some (n+3) | false=>none) body (s.tok 12) [] []
  let s:=r.1
  let k4:=s.k
  let n4:=s.n
  let s:=s.put (LA (NA sta k4))
  let k5:=k4+sta.length
  let e4:=ky P (sf "__static_attributes__") k5 (.ref n4)
  let k6:=match cell with | true=>k5+2 | false=>k5+1
  let nC:=n4+2
  let dD:List DictEntry:=match kind with | 0=>[ky P (sf "__dict__") (k6+1) (.ref (n4+3))] | _=>[]
  let k7:=match kind with | 0=>k6+2 | _=>k6
  let n7:=match kind with | 0=>n4+4 | _=>n4+3
  let dW:List DictEntry:=match kind with | 2=>[] | _=>[ky P (sf "__weakref__") (k7+1) (.ref n7)]
  let k8:=match kind with | 2=>k7 | _=>k7+2
  let ep:=1+(match cell with | true=>1 | false=>0)+dD.length+dW.length+1
  let s:=s.put (oT "dict" (.dict ⟨[e1,e3]++r.2.1++[e4]++dD++dW++[ky P (sf "__doc__") k8 .none]⟩ ep))
  let exc:List Value:=[.type "Exception",.type "BaseException",.type "object"]
  let mro:List Value:=match kind with | 0=>[.type "object"] | 1=>exc | _=>.ref 40::exc
  let s:=s.put ⟨.type "type",none,.cls { name:=nm,bases:=(match kind with | 0=>[.type "object"] | _=>bases),mro:=.ref nC::mro,ns:=n4+1,qualname:=nm },
   ⟨[(match kind with | 0=>none | _=>some (.ref n)),none,some (.str nm k),some q,some (.builtin (match kind with | 0=>"object.__new__" | _=>"Exception.__new__")),some (.bool true)]⟩⟩
  let s:=match kind with | 0=>s.put (oT "getset_descriptor" (.fields ⟨[.str (sf "__dict__") k6,.ref nC,.builtin "function.__dict__",.builtin "function.__dict__#set"]⟩)) | _=>s
  let s:=match kind with | 2=>s | _=>s.put (oT "getset_descriptor" (.fields ⟨[.str (sf "__weakref__") k7,.ref nC,.builtin "ExceptionGroup.__weakref__",.none]⟩))
  let s:=s.put (oT "super" (.fields ⟨[.ref nC,.ref nC,.ref nC]⟩))
  let s:=s.put (oT "builtin_function_or_method" (.fields ⟨[.builtin "object.__init_subclass__",.ref nC]⟩))
  let cc:List DictEntry:=match cell with | true=>[ky P (sf "__classcell__") (k5+1) (.ref (n+3))] | false=>[]
  let es:=[e1,e2,e3]++r.2.1++[e4]++cc
  let T:=s.T.set (n+2) fun _=>oT "dict" (.dict ⟨es⟩ es.length)
  let T:=T.set (nc+1) fun _=>oN (.fields ⟨r.2.2⟩)
  let T:=match cell with | true=>T.set (n+3) fun _=>oT "cell" (.cell (some (.ref nC))) | false=>T
  let T:=match kind with | 0=>T | 1=>T.set 2 (cZ P nC (k8+1)) | _=>T.set 40 (.mapCls fun c=>{ c with subclasses:=[.ref nC] })
  let k9:=k8+(match kind with | 1=>4 | _=>2)
  (TS.mk T s.n k9 (s.g++[ky P nm k9 (.ref nC)]) (s.c++[.int p.line 0,.int p.col 0,.ref (nc+2)]) s.m).tok 1
 | _=>s
mutual
noncomputable def TS.ev:Expr→TS→Value×TS
 | .Constant (.str x) _ _,s=>(.str x s.k,s.tok 1)
 | .Constant (.int i) _ _,s=>(.int i s.k,s.tok 1)
 | .Tuple es _ _,s=>let r:=TS.evs es s;(.ref r.2.n,r.2.put (LA r.1))
 | .List es _,s=>let r:=TS.evs es s;(.ref r.2.n,r.2.put (oT "list" (.seq ⟨r.1⟩ 0)))
 | _,s=>(.none,s)
noncomputable def TS.evs:List Expr→TS→List Value×TS
 | [],s=>([],s)
 | e::es,s=>let r:=TS.ev e s;let r2:=TS.evs es r.2;(r.1::r2.1,r2.2)
end
noncomputable def TS.pairs(P:Params):List (Option Expr)→List Expr→TS→List DictEntry×TS
 | some (.Constant (.str x) _ _)::ks,.Constant (.str y) _ _::vs,s =>
  let r:=TS.pairs P ks vs (s.tok 2)
  (ky P x s.k (.str y (s.k+1))::r.1,r.2)
 | _,_,s=>([],s)
noncomputable def WV(v:Value):List DictEntry→List DictEntry
 | e::r=>⟨e.hash,e.key,v⟩::r
 | []=>[]
noncomputable def Ru:List Expr→Nat
 | []=>0
 | .Name x _::_=>match x==sf "Exception" with | true=>1 | false=>2
 | _=>0
noncomputable def TS.stmt(P:Params)(s:TS):Stmt→TS
 | .Assign [.Name x _] (.Dict ks vs _) _ =>
  let r:=TS.pairs P ks vs s
  let n:=r.2.n
  TS.bind P ((r.2.put (oT "dict" (.dict ⟨r.1⟩ r.1.length))).tok r.1.length) x (.ref n)
 | .Assign [.Name x _] e _ =>
  let r:=TS.ev e s
  match x==sf "__name__" with
  | true=>⟨r.2.T,r.2.n,r.2.k+1,WV r.1 r.2.g,r.2.c,r.1⟩
  | false=>r.2.bind P x r.1
 | .FunctionDef nm a b x1 x2 x3 sc x4 x5 p =>
  let s:=s.fn nm none (.FunctionDef nm a b x1 x2 x3 sc x4 x5 p)
  (TS.bind P s nm (.ref (s.n - 1))).const p (.ref (s.n - 2))
 | .ClassDef nm bs x1 body x2 x3 sc x4 x5 sta p=>s.cls P (Ru bs) (match sc.names.any fun x=>match x.2 with | .cell=>true | _=>false with | true=>true | false=>false) (.ClassDef nm bs x1 body x2 x3 sc x4 x5 sta p)
 | _=>s
noncomputable def TS.stmts(P:Params):List Stmt→TS→TS
 | [],s=>s
 | x::r,s=>TS.stmts P r (s.stmt P x)
noncomputable def TS.tree(s:TS):BT:=(s.T.set 3 fun _=>oT "dict" (.dict ⟨s.g⟩ s.g.length)).set 12 fun _=>oN (.fields ⟨s.c⟩)
end SHead0
section SHead1
open PySem PySem.W
set_option maxHeartbeats 8000000
noncomputable def pw:Program:=PySem.Challenge.pw_pq1445_01
noncomputable def bodyL:List Stmt:=behindTheImports pw
noncomputable def envT:Env:={ scope:=pw.main.scope,locals:=mainNs,globals:=mainNs,cells:=[],code:=.ref 13,frame:=some 14 }
noncomputable def codT:Code:=.body bodyL envT
noncomputable def pos0:Pos:=⟨0,0,0,0⟩
noncomputable def BT.norm:BT→BT
 | .nil=>.nil
 | .node v l r=>.node v (BT.norm l) (BT.norm r)
noncomputable def treeOf:List Obj→Nat→BT→BT
 | [],_,t=>t
 | o::r,n,t=>treeOf r (n+1) (t.ins n o)
noncomputable def preL (P:Params):List Obj:=(boot_heap P).objs.toList++[LA [],oN (.fields #[]),Ox (sf "<module>") (sf "<module>") 1 0 0 11 false 12 .none .none .none 182 185,
 ⟨.type "frame",none,.plain,⟨[some (.ref 13),some (.ref 3),some (.ref 3),none,some (.str (sf "__main__") 164),none,some (.ref 0)]⟩⟩]
noncomputable def dictOfO:Obj→List DictEntry
 | ⟨_,_,.dict es _,_⟩=>es.toList
 | _=>[]
noncomputable def Q0 (P:Params):TS:=⟨treeOf (preL P) 0 .nil,15,187,dictOfO (boot_o_3 P),[],.none⟩
noncomputable def TS.at (s:TS) (os:OsState):SharedT:=⟨BT.norm s.tree,s.n,{},#[],{},s.k,os⟩
noncomputable def grp (a b:Nat):List Stmt:=(bodyL.drop a).take b
noncomputable abbrev thr (l:List Stmt) (p:Pos):Thread:=⟨(PySem.W.Fast.tw12563942051412417395 l envT).wrap doneF deadEnd id id,codT,p,[topFrame pos0]⟩
noncomputable abbrev runT (w:World) (n:Nat) (s:SharedT) (t:Thread):=PySem.W.Fast.tw10110043849684766642 PySem.W.Fast.tw14364793385576792824 pw w 11 (some (.ref 6)) 1 n s t
noncomputable def Q1 (P:Params):TS:=(Q0 P).stmts P (grp 0 7)
theorem pc1(w:World)(os:OsState):runT w 107 ((Q0 w.params).at os) (thr (grp 0 7) pos0)=some (.next,(Q1 w.params).at os,codT,⟨7,0,7,5⟩):=by kernel_rfl
noncomputable def Q2 (P:Params):TS:=(Q1 P).stmts P (grp 7 1)
theorem cS(w:World)(os:OsState):runT (w.withFollow "special-get-raises" false) 101 ((Q1 (w.withFollow "special-get-raises" false).params).at os) (thr (grp 7 1) ⟨7,0,7,5⟩)=some (.next,(Q2 (w.withFollow "special-get-raises" false).params).at os,codT,⟨8,0,8,4⟩):=by kernel_rfl
theorem cT(w:World)(os:OsState):runT (w.withFollow "special-get-raises" true) 101 ((Q1 (w.withFollow "special-get-raises" true).params).at os) (thr (grp 7 1) ⟨7,0,7,5⟩)=some (.next,(Q2 (w.withFollow "special-get-raises" true).params).at os,codT,⟨8,0,8,4⟩):=by kernel_rfl
theorem pc2(w:World)(os:OsState):runT w 101 ((Q1 w.params).at os) (thr (grp 7 1) ⟨7,0,7,5⟩)=some (.next,(Q2 w.params).at os,codT,⟨8,0,8,4⟩):=byRow2 (P:=fun w=>runT w 101 ((Q1 w.params).at os) (thr (grp 7 1) ⟨7,0,7,5⟩)=some (.next,(Q2 w.params).at os,codT,⟨8,0,8,4⟩)) "special-get-raises" (fun w=>cS w os) (fun w=>cT w os) w
noncomputable def Q3 (P:Params):TS:=(Q2 P).stmts P (grp 8 4)
theorem pc3(w:World)(os:OsState):runT w 258 ((Q2 w.params).at os) (thr (grp 8 4) ⟨8,0,8,4⟩)=some (.next,(Q3 w.params).at os,codT,⟨12,0,16,24⟩):=by kernel_rfl
noncomputable def Q4 (P:Params):TS:=(Q3 P).stmts P (grp 12 7)
theorem pc4(w:World)(os:OsState):runT w 390 ((Q3 w.params).at os) (thr (grp 12 7) ⟨12,0,16,24⟩)=some (.next,(Q4 w.params).at os,codT,⟨31,0,38,43⟩):=by kernel_rfl
noncomputable def Q5 (P:Params):TS:=(Q4 P).stmts P (grp 19 8)
theorem pc5(w:World)(os:OsState):runT w 253 ((Q4 w.params).at os) (thr (grp 19 8) ⟨31,0,38,43⟩)=some (.next,(Q5 w.params).at os,codT,⟨101,0,104,15⟩):=by kernel_rfl
noncomputable def Q6 (P:Params):TS:=(Q5 P).stmts P (grp 27 1)
theorem pc6(w:World)(os:OsState):runT w 390 ((Q5 w.params).at os) (thr (grp 27 1) ⟨101,0,104,15⟩)=some (.next,(Q6 w.params).at os,codT,⟨105,0,158,47⟩):=by kernel_rfl
noncomputable def Q7 (P:Params):TS:=(Q6 P).stmts P (grp 28 7)
theorem pc7(w:World)(os:OsState):runT w 197 ((Q6 w.params).at os) (thr (grp 28 7) ⟨105,0,158,47⟩)=some (.next,(Q7 w.params).at os,codT,⟨218,0,218,8⟩):=by kernel_rfl
noncomputable def Q8 (P:Params):TS:=(Q7 P).stmts P (grp 35 6)
theorem pc8(w:World)(os:OsState):runT w 382 ((Q7 w.params).at os) (thr (grp 35 6) ⟨218,0,218,8⟩)=some (.next,(Q8 w.params).at os,codT,⟨252,0,276,41⟩):=by kernel_rfl
noncomputable def Q9 (P:Params):TS:=(Q8 P).stmts P (grp 41 8)
theorem pc9(w:World)(os:OsState):runT w 390 ((Q8 w.params).at os) (thr (grp 41 8) ⟨252,0,276,41⟩)=some (.next,(Q9 w.params).at os,codT,⟨311,0,311,10⟩):=by kernel_rfl
noncomputable def Q10 (P:Params):TS:=(Q9 P).stmts P (grp 49 18)
theorem cN(w:World)(os:OsState):runT w 391 ((Q9 w.params).at os) (thr (grp 49 18) ⟨311,0,311,10⟩)=some (.next,(Q10 w.params).at os,codT,⟨392,0,392,5⟩):=by kernel_rfl
noncomputable def Q11 (P:Params):TS:=(Q10 P).stmts P (grp 67 4)
theorem cO(w:World)(os:OsState):runT w 262 ((Q10 w.params).at os) (thr (grp 67 4) ⟨392,0,392,5⟩)=some (.next,(Q11 w.params).at os,codT,⟨396,0,400,24⟩):=by kernel_rfl
noncomputable def Q12 (P:Params):TS:=(Q11 P).stmts P (grp 71 1)
theorem cP(w:World)(os:OsState):runT w 226 ((Q11 w.params).at os) (thr (grp 71 1) ⟨396,0,400,24⟩)=some (.next,(Q12 w.params).at os,codT,⟨401,0,408,25⟩):=by kernel_rfl
noncomputable def Q13 (P:Params):TS:=(Q12 P).stmts P (grp 72 1)
theorem cQ(w:World)(os:OsState):runT w 850 ((Q12 w.params).at os) (thr (grp 72 1) ⟨401,0,408,25⟩)=some (.next,(Q13 w.params).at os,codT,⟨409,0,619,51⟩):=by kernel_rfl
noncomputable def Q14 (P:Params):TS:=(Q13 P).stmts P (grp 73 12)
theorem cR(w:World)(os:OsState):runT w 354 ((Q13 w.params).at os) (thr (grp 73 12) ⟨409,0,619,51⟩)=some (.next,(Q14 w.params).at os,codT,⟨694,0,703,65⟩):=by kernel_rfl
end SHead1
section SHead2
open PySem PySem.W PySem.Calls PyProof.Rows
set_option maxHeartbeats 8000000
theorem WX{w:World}{n:Nat}{l:List Stmt}{p:Pos}{s:SharedT}{r}(h:runT w n s (thr l p)=r):segRunT treeTable pw w 11 (some (.ref 6)) 1 n s (piecesOf l envT codT p [topFrame pos0])=r:=by unfold piecesOf;rw[PySem.W.Fast.te10110043849684766642,PySem.W.Fast.te14364793385576792824,PySem.W.Fast.te12563942051412417395];exact h
noncomputable abbrev tops (w:World) (N:Nat) (s:Shared) (t:Thread):=topRun treeTable pw w 11 (some (.ref 6)) N s t
theorem C1{n N:Nat}{w:World}{os:OsState}{s s':TS}{l rest:List Stmt}{pos p':Pos}{r:Shared}(h:runT w n (s.at os) (thr l pos)=some (.next,s'.at os,codT,p'))
  (k:tops w N (s'.at os).abs (restOf rest envT codT p' [topFrame pos0])=some r):tops w (n+N) (s.at os).abs (restOf (l++rest) envT codT pos [topFrame pos0])=some r :=
 piece_app (segRun_of (WX h)) k
theorem SA:bodyL=grp 0 7++(grp 7 1++(grp 8 4++(grp 12 7++(grp 19 8++(grp 27 1++(grp 28 7++(grp 35 6++(grp 41 8++(grp 49 18++(grp 67 4++(grp 71 1++(grp 72 1++(grp 73 12++[]))))))))))))):=by kernel_rfl
noncomputable def H1 (P:Params):Heap:=absHeap (BT.norm (Q14 P).tree) 671 {}
theorem VC{w:World}{n:Nat}{s:Shared}{t:Thread}{r}(h:PySem.W.Fast.tw14082659384304107361 PySem.W.Fast.tw14364793385576792824 pw w 11 (some (.ref 6)) n s t=r):tops w n s t=r:=by unfold tops;rw[PySem.W.Fast.te14082659384304107361,PySem.W.Fast.te14364793385576792824];exact h
theorem Vf(w:World)(os:OsState):tops w 2 ((Q14 w.params).at os).abs ⟨doneF .next,codT,⟨694,0,703,65⟩,[topFrame pos0]⟩=some ⟨H1 w.params,#[],{},1250,os⟩:=VC (by kernel_rfl)
theorem Ry(w:World)(os:OsState):segRun treeTable pw w 11 (some (.ref 6)) 1 1 ((Q0 w.params).at os).abs (blockOf bodyL envT codT pos0 [topFrame pos0])=some (.next,((Q0 w.params).at os).abs,codT,pos0):=by kernel_rfl
theorem WN(w:World)(os:OsState):PySem.W.Fast.tw15667345088766844465 PySem.W.Fast.tw14364793385576792824 pw w 11 (some (.ref 6)) 12 ⟨boot_heap w.params,Array.mk [],boot_drawn,boot_toks,os⟩ (topStub pw)=some (((Q0 w.params).at os).abs,⟨PySem.W.Fast.tw11892475500146522536 PySem.W.Fast.tw14364793385576792824 codT,codT,pos0,[topFrame pos0]⟩):=by kernel_rfl
theorem WM(w:World)(os:OsState):topGo treeTable pw w 11 (some (.ref 6)) 12 ⟨boot_heap w.params,Array.mk [],boot_drawn,boot_toks,os⟩ (topStub pw)=some (((Q0 w.params).at os).abs,⟨denote treeTable codT,codT,pos0,[topFrame pos0]⟩):=by rw[PySem.W.Fast.te15667345088766844465,PySem.W.Fast.te11892475500146522536,PySem.W.Fast.te14364793385576792824];exact WN w os
theorem VB(w:World)(os:OsState):tops w (12+(1+(107+(101+(258+(390+(253+(390+(197+(382+(390+(391+(262+(226+(850+(354+2)))))))))))))))) ⟨boot_heap w.params,Array.mk [],boot_drawn,boot_toks,os⟩ (topStub pw)=some ⟨H1 w.params,#[],{},1250,os⟩:=by refine go_top (WM w os) (piece_block (b:=bodyL) (Ry w os) ?_);rw[SA];exact C1 (pc1 w os) (C1 (pc2 w os) (C1 (pc3 w os) (C1 (pc4 w os) (C1 (pc5 w os) (C1 (pc6 w os) (C1 (pc7 w os) (C1 (pc8 w os) (C1 (pc9 w os) (C1 (cN w os) (C1 (cO w os) (C1 (cP w os) (C1 (cQ w os) (C1 (cR w os) (piece_nil (Vf w os)))))))))))))))
end SHead2
section SHead3
open PySem PySem.W PySem.Calls PyProof.Rows
set_option maxHeartbeats 8000000
noncomputable def qv:Program:={ pw with main:={ pw.main with body:=grp 84 1 } }
noncomputable def Y3:Stmt→Str
 | .Assign [.Name x _] _ _=>x
 | .FunctionDef nm ..=>nm
 | .ClassDef nm ..=>nm
 | _=>sf "?"
noncomputable def looseL:List Str:=(grp 1 83).map Y3
theorem Qk(w:World):((boot_heap w.params).isNs mainGlobals&&(#[]:Array GenState).size==0,(boot_heap w.params).objs.size,(boot_heap w.params).nsMap mainGlobals "__annotations__")=(true,11,some (.ref 6)):=by
 kernel_rfl
noncomputable abbrev sh1 (w:World) (os:OsState):Shared:=⟨H1 w.params,#[],{},1250,os⟩
theorem YS(w:World):staticsOk (importedModules pw.main.body) (boot_heap w.params) (H1 w.params)=true:=by rw[PySem.W.Fast.te5923862056798008813];unfold staticsOk;rw[PySem.W.Fast.te8920871248978507458];kernel_rfl
theorem YT(w:World):namesBound pw (H1 w.params)=true:=by kernel_rfl
theorem YU(w:World)(os:OsState):gensDone (sh1 w os)=true:=by kernel_rfl
theorem YV(w:World):laidKept (boot_heap w.params) (H1 w.params)=true:=by unfold laidKept;rw[PySem.W.Fast.te8920871248978507458];kernel_rfl
theorem lk1(w:World)(os:OsState):seen ((recsOf qv).map (·.name)) (ownsOf qv) [] (sh1 w os)=expectedOf qv:=by kernel_rfl
theorem lk2(w:World):(H1 w.params).bltView=bltViewBooted:=by kernel_rfl
noncomputable abbrev mods:List Str:=importedModules pw.main.body
noncomputable abbrev Xt (s:Shared):Bool:=xlAt qv [] s&&recOk [] s
theorem lk3(w:World)(os:OsState):((sh1 w os).heap.keysOk (looseW qv looseL) ((recsOf qv).map (·.name)) ((litsOf qv).map (·.1)) ((clssOf qv (looseW qv looseL)).map (·.name))&&(sh1 w os).heap.accountedOkI mods&&(sh1 w os).heap.isNs mainGlobals&&(sh1 w os).heap.isNs builtinsNs&&tablesOk qv (sh1 w os).heap&&Xt (sh1 w os)&&(if true then(sh1 w os).gens.size==0 else !leftWithCleanup (sh1 w os).gens))=true:=by kernel_rfl
theorem lk4(w:World)(os:OsState):tabsOk qv (sh1 w os)=true:=by kernel_rfl
theorem lk5(w:World)(os:OsState):pinSeenD qv (drecsOf qv) (sh1 w os)=pinGoodD (drecsOf qv):=by kernel_rfl
theorem lk6(w:World)(os:OsState):plainSeenE qv (looseW qv looseL) (sh1 w os)=plainGoodE qv (looseW qv looseL):=by kernel_rfl
theorem lk7(w:World)(os:OsState):plainSeenD qv looseL (sh1 w os)=plainGoodD qv looseL:=by kernel_rfl
theorem lk8(w:World)(os:OsState):wideSeen qv (sh1 w os)=wideGood qv:=by kernel_rfl
theorem lk9(w:World)(os:OsState):clsSeenW qv looseL (sh1 w os)=clsGoodW qv looseL:=by kernel_rfl
theorem Uv(w:World)(os:OsState):openSeen qv looseL mods Xt true (sh1 w os)=openGood qv looseL :=
 looks_pair (lk1 w os) (looks_pair (lk2 w) (looks_pair (lk3 w os) (looks_pair (lk4 w os) (looks_pair (lk5 w os) (looks_pair (lk6 w os) (looks_pair (lk7 w os) (looks_pair (lk8 w os) (lk9 w os))))))))
noncomputable abbrev obsH (s:Shared):Heap:=s.heap
noncomputable abbrev valH (w:World):Heap:=H1 w.params
theorem Sr:LeftO pw qv looseL Xt obsH valH 9200:=by
 refine LeftO.of_pieces (H₀:=boot_heap) (H₁:=H1) (gs₀:=Array.mk []) (gs₁:=#[]) (d₀:=boot_drawn) (d₁:={}) (k₀:=boot_toks) (k₁:=1250) (m₀:=11) (ann:=some (.ref 6)) (boot_open rfl rfl fun s=>?_) Qk VB rfl fun w=>?_
 ·kernel_rfl
 ·funext os
  exact looks_pair (by rw[YS,YT,YU w os,YV];rfl) (looks_pair (Uv w os) rfl)
end SHead3
section SHead4
open PySem PySem.W PySem.Calls PyProof.Rows
set_option maxHeartbeats 8000000
noncomputable abbrev RW:=PySem.Challenge.rw_pq1445_01
theorem lo1:(sreFenced pw.main&&((moduleNames pw.main.body).isEmpty||lookedIntoSs (moduleNames pw.main.body) pw.main.body))=true:=by kernel_rfl
theorem YW:namesResolve pw=true:=by rw[PySem.W.Fast.te8377067652309620493];kernel_rfl
theorem Xk:(pw.boundNames.all fun n=>!worldNames.contains n)=true:=by kernel_rfl
theorem lo4:noRoadLSs { strict:=!(importedModules pw.main.body).all cThrough.contains,foot:=none,bare:=(["vars","dir","locals"]:List Str).filter (readsOut pw pw.main.body) } pw.main.body=true:=by
 kernel_rfl
theorem lo5:(namesMeet pw pw.main.body fun _ n=>attrL n)=true:=by kernel_rfl
theorem Ss:looksOpen RW.prog=true:=look_both (look_both (look_both (look_both lo1 YW) Xk) lo4) lo5
theorem Uj:RW.row.partSaid=true:=by
 unfold OpenRow.partSaid;rw[show looksOpen RW.row.prog=true from Ss]
 kernel_rfl
theorem WW:RW.row.wellSaid=true:=by unfold OpenRow.wellSaid;rw[Uj];kernel_rfl
theorem VF:RW.wellSaid=true:=by
 refine look_both (look_both (look_both (look_both (look_both (look_both (look_both (look_both (look_both (look_both (look_both (look_both (look_both (look_both (look_both (look_both (look_both (look_both (WW) ?_) ?_) ?_) ?_) ?_) ?_) ?_) ?_) ?_) ?_) ?_) ?_) ?_) ?_) ?_) ?_) ?_) ?_
 all_goals (try rw[PySem.W.Fast.te8326940854005059898])
 all_goals (try rw[PySem.W.Fast.te17119622794617984870])
 all_goals (try rw[PySem.W.Fast.te10792542408131684335])
 all_goals (try rw[PySem.W.Fast.te797321630700447069])
 all_goals (try rw[PySem.W.Fast.te6984425678791042302])
 all_goals (try rw[PySem.W.Fast.te9558739934217749035])
 all_goals (try rw[PySem.W.Fast.te16286561074155671207])
 all_goals (try rw[PySem.W.Fast.te8179353310426384613])
 all_goals (try rw[PySem.W.Fast.te9572597257264208301])
 all_goals as_aux_lemma=>kernel_rfl
end SHead4
section SHead5
open PySem PySem.W PySem.Calls PyProof.Rows
set_option maxHeartbeats 8000000
theorem Jj{α:Type}(f:Nat→Option α):∀(l:List Nat) (a:Nat) (o:α),(l.filterMap fun i=>(f i).map fun x=>(i,x)).lookup a=some o→a∈l∧f a=some o:=by
 intro q1_
 induction q1_ with
 | nil=>intro a o h;cases h
 | cons i r ih_ =>
  intro a o h;rw[List.filterMap_cons] at h;rfl';cases e:f i with
  | none=>rw[e] at h;obtain⟨x,y⟩:=ih_ a o h;exact⟨.tail _ x,y⟩
  | some v =>
   rw[e] at h;rw[show(Option.map (fun x=>(i,x)) (some v))=some (i,v) from rfl] at h
   dsimp only at h;rw[List.lookup_cons] at h;split at h
   ·rename_i q;cases h;obtain rfl:=beq_iff_eq.mp q;exact⟨.head _,e⟩
   ·obtain⟨x,y⟩:=ih_ a o h;exact⟨.tail _ x,y⟩
noncomputable def KH (P:Params):Frag:=(List.range 671).filterMap fun i=>(((BT.norm (Q14 P).tree).get i).bind alive).map fun o=>(i,o)
theorem Wi(P:Params):(KH P).In (H1 P):=fun a o h=>by obtain⟨h1,h2⟩:=Jj _ _ _ _ h;refine BA (Option.bind_eq_some_iff.mp h2) fun x h3 h4=>?_;rw[show H1 P=absHeap (BT.norm (Q14 P).tree) 671 {} from rfl,abs_get (List.mem_range.mp h1) h3,h4]
noncomputable def hookK:Hook:=⟨Heap,obsH,valH,fun w h=>(KH w.params).In h,fun w s e=>by rw[show s.heap=H1 w.params from e];exact Wi _,fun w h h' x k=>Frag.In.keeps x k⟩
noncomputable def lawB:List Stmt:=match grp 84 1 with
 | [.FunctionDef _ _ b _ _ _ _ _ _ _]=>b
 | _=>[]
noncomputable def lawS:Scope:=match grp 84 1 with
 | [.FunctionDef _ _ _ _ _ _ s _ _ _]=>s
 | _=>pw.main.scope
noncomputable def lawD:DefRec:=⟨sf "law",{ posonlyargs:=[],args:=[{ arg:=sf "script",annotation:=none,pos:=⟨694,8,694,14⟩ }],vararg:=none,kwonlyargs:=[],kw_defaults:=[],kwarg:=none,defaults:=[] },lawB,lawS,⟨694,0,703,65⟩⟩
theorem V8:defOf qv RW.row.toRowW.name=some (lawD,[]):=by kernel_rfl
theorem Ws:RW.row.toRowW.prog.theDef RW.row.toRowW.name=some (lawD.params,lawD.body,lawD.scope):=by kernel_rfl
theorem hd(walk:WalkO qv looseL (XL qv []) hookK.says PySem.Challenge.rw_pq1445_01.row.toRowW lawD [] fun f vs=>PySem.call f vs):PySem.Challenge.rw_pq1445_01.Holds:=by
 refine holds_law VF fun said=>holds_open (q:=qv) (loose:=looseL) (Xt:=Xt) (XP:=XL qv []) (Yf:=hookK.obs) (Ya:=hookK.val) (YP:=hookK.says) (N:=9200) Sr hookK.of hookK.keeps (fun s e=>xl_of s (Bool.and_eq_true_iff.mp e).1) XL.keeps V8 Ws rfl (fun s e=>recFacts_of (Bool.and_eq_true_iff.mp e).2) rfl said ?_ ⟨rfl,rfl,rfl,rfl,rfl,by decide +kernel⟩ ?_ walk
 ·kernel_rfl
 ·w_witness2
end SHead5
section STab
open PySem
noncomputable def CF:List S:=[
 .ret (.boolop false [.cmp (.const (.str [65])) [.LtE,.LtE] [.loc 0,.const (.str [90])],.cmp (.const (.str [97])) [.LtE,.LtE] [.loc 0,.const (.str [122])],.cmp (.loc 0) [.In] [.tup [.const (.str [95]),.const (.str [63]),.const (.str [46]),.const (.str [64])]]])]
noncomputable def ID:Fn:=⟨1,1,.pure,CF⟩
noncomputable def FM:List S:=[
 .ret (.cmp (.const (.str [48])) [.LtE,.LtE] [.loc 0,.const (.str [57])])]
noncomputable def Ls:Fn:=⟨1,1,.pure,FM⟩
noncomputable def D6:List S:=[
 .ret (.boolop false [.call (.const (.fn 62)) [.loc 0],.call (.const (.fn 69)) [.loc 0]])]
noncomputable def JE:Fn:=⟨1,3,.pure,D6⟩
noncomputable def CP:X:=(.ite (.cmp (.const (.str [97])) [.LtE,.LtE] [.loc 1,.const (.str [122])]) (.bi .chr [.bin .Sub (.bi .ord [.loc 1]) (.const (.int 32))]) (.loc 1))
noncomputable def Jx:List S:=[
 .ret (.meth (.const (.str [])) 4 [.comp CP (.loc 1) .plain (.loc 0) (.const .none) [] 4 []])]
noncomputable def QL:Fn:=⟨1,1,.pure,Jx⟩
noncomputable def Fe:X:=(.boolop true [.cmp (.loc 1) [.Lt] [.bi .len [.loc 0]],.call (.const (.fn 76)) [.idx (.loc 0) (.loc 1)]])
noncomputable def Hu:List S:=[
 .aug (.loc 1) .Add (.const (.int 1))]
noncomputable def Jz:List S:=[
 .whl Fe Hu,
 .ret (.loc 1)]
noncomputable def QO:Fn:=⟨2,4,.pure,Jz⟩
noncomputable def EX:List S:=[
 .assign (.loc 4) (.meth (.const (.str [48,49,50,51,52,53,54,55,56,57,65,66,67,68,69,70])) 3 [.loc 3]),
 .ife (.boolop false [.cmp (.loc 4) [.Lt] [.const (.int 0)],.cmp (.loc 4) [.GtE] [.loc 1]]) [
  .ret (.const .none)] [],
 .assign (.loc 2) (.bin .Add (.bin .Mult (.loc 2) (.loc 1)) (.loc 4))]
noncomputable def C2:List S:=[
 .assign (.loc 2) (.const (.int 0)),
 .for_ (.loc 3) .plain (.loc 0) (.const .none) EX,
 .ret (.ite (.cmp (.loc 0) [.NotEq] [.const (.str [])]) (.loc 2) (.const .none))]
noncomputable def JD:Fn:=⟨2,6,.pure,C2⟩
noncomputable def DE:List S:=[
 .ife (.cmp (.slice (.loc 0) (.const .none) (.const (.int 2))) [.Eq] [.const (.str [48,88])]) [
  .ret (.call (.const (.fn 95)) [.slice (.loc 0) (.const (.int 2)) (.const .none),.const (.int 16)])] [],
 .assign (.loc 1) (.call (.const (.fn 95)) [.loc 0,.const (.int 10)]),
 .ife (.cmp (.loc 1) [.IsNot] [.const .none]) [
  .ret (.loc 1)] [],
 .assign (.loc 2) (.meth (.dict [[72],[66],[79],[81],[68]] [.const (.int 16),.const (.int 2),.const (.int 8),.const (.int 8),.const (.int 10)]) 2 [.idx (.loc 0) (.neg (.const (.int 1)))]),
 .ret (.ite (.cmp (.loc 2) [.Is] [.const .none]) (.const .none) (.call (.const (.fn 95)) [.slice (.loc 0) (.const .none) (.neg (.const (.int 1))),.loc 2]))]
noncomputable def Lw:Fn:=⟨1,4,.pure,DE⟩
noncomputable def Do:List S:=[
 .assign (.loc 2) (.ite (.cmp (.idx (.loc 0) (.loc 1)) [.In] [.const (.str [36,37])]) (.bin .Add (.loc 1) (.const (.int 1))) (.loc 1)),
 .assign (.loc 3) (.call (.const (.fn 88)) [.loc 0,.loc 2]),
 .assign (.loc 4) (.call (.const (.fn 81)) [.slice (.loc 0) (.loc 2) (.loc 3)]),
 .assign (.loc 5) (.ite (.cmp (.loc 2) [.Eq] [.loc 1]) (.call (.const (.fn 102)) [.loc 4]) (.call (.const (.fn 95)) [.loc 4,.ite (.cmp (.idx (.loc 0) (.loc 1)) [.Eq] [.const (.str [36])]) (.const (.int 16)) (.const (.int 2))])),
 .ife (.boolop false [.cmp (.loc 5) [.Is] [.const .none],.cmp (.loc 5) [.Gt] [.const (.int 65535)]]) [
  .stuck] [],
 .ret (.tup [.tup [.const (.str [110,117,109,98,101,114]),.loc 5],.loc 3])]
noncomputable def Lv:Fn:=⟨2,11,.pure,Do⟩
noncomputable def BU:List S:=[
 .assign (.loc 2) (.call (.const (.fn 81)) [.slice (.loc 0) (.bin .Add (.loc 1) (.const (.int 1))) (.bin .Add (.loc 1) (.const (.int 2)))]),
 .ife (.cmp (.idx (.loc 0) (.loc 1)) [.Eq] [.const (.str [36])]) [
  .ret (.boolop true [.cmp (.loc 2) [.NotEq] [.const (.str [])],.cmp (.loc 2) [.In] [.const (.str [48,49,50,51,52,53,54,55,56,57,65,66,67,68,69,70])]])] [],
 .ret (.boolop true [.cmp (.idx (.loc 0) (.loc 1)) [.Eq] [.const (.str [37])],.cmp (.loc 2) [.In] [.tup [.const (.str [48]),.const (.str [49])]]])]
noncomputable def Jd:Fn:=⟨2,5,.pure,BU⟩
noncomputable def CM:List S:=[
 .assign (.loc 2) (.idx (.loc 0) (.loc 1)),
 .ife (.boolop false [.call (.const (.fn 69)) [.loc 2],.call (.const (.fn 123)) [.loc 0,.loc 1]]) [
  .ret (.call (.const (.fn 116)) [.loc 0,.loc 1])] [],
 .ife (.call (.const (.fn 62)) [.loc 2]) [
  .assign (.loc 3) (.call (.const (.fn 88)) [.loc 0,.loc 1]),
  .assign (.loc 4) (.call (.const (.fn 81)) [.slice (.loc 0) (.loc 1) (.loc 3)]),
  .ife (.boolop true [.cmp (.loc 4) [.Eq] [.const (.str [65,70])],.cmp (.slice (.loc 0) (.loc 3) (.bin .Add (.loc 3) (.const (.int 1)))) [.Eq] [.const (.str [39])]]) [
   .ret (.tup [.tup [.const (.str [110,97,109,101]),.const (.str [65,70,39])],.bin .Add (.loc 3) (.const (.int 1))])] [],
  .ret (.tup [.tup [.const (.str [110,97,109,101]),.loc 4],.loc 3])] [],
 .ife (.cmp (.loc 2) [.In] [.const (.str [39,34])]) [
  .assign (.tup [4,3]) .stuck,
  .ret (.tup [.tup [.const (.str [116,101,120,116]),.loc 4],.loc 3])] [],
 .ife (.cmp (.slice (.loc 0) (.loc 1) (.bin .Add (.loc 1) (.const (.int 2)))) [.In] [.const (.tup [.str [60,62],.str [60,61],.str [62,61]])]) [
  .ret (.tup [.tup [.const (.str [115,105,103,110]),.slice (.loc 0) (.loc 1) (.bin .Add (.loc 1) (.const (.int 2)))],.bin .Add (.loc 1) (.const (.int 2))])] [],
 .ife (.cmp (.loc 2) [.In] [.const (.str [43,45,42,47,40,41,44,61,60,62,58,36])]) [
  .ret (.tup [.tup [.const (.str [115,105,103,110]),.loc 2],.bin .Add (.loc 1) (.const (.int 1))])] [],
 .stuck]
noncomputable def Nq:Fn:=⟨2,16,.pure,CM⟩
noncomputable def EI:X:=(.boolop true [.cmp (.loc 2) [.Lt] [.bi .len [.loc 0]],.cmp (.idx (.loc 0) (.loc 2)) [.NotEq] [.const (.str [59])]])
noncomputable def GK:List S:=[
 .ife (.cmp (.idx (.loc 0) (.loc 2)) [.In] [.const (.str [32,9,13])]) [
  .aug (.loc 2) .Add (.const (.int 1))] [
  .assign (.tup [3,2]) (.call (.const (.fn 130)) [.loc 0,.loc 2]),
  .expr (.meth (.loc 1) 0 [.loc 3])]]
noncomputable def Hd:List S:=[
 .assign (.tup [1,2]) (.tup [.list [],.const (.int 0)]),
 .whl EI GK,
 .ret (.loc 1)]
noncomputable def Ly:Fn:=⟨1,6,.pure,Hd⟩
noncomputable def Fj:List S:=[
 .ret (.boolop true [.cmp (.idx (.loc 0) (.const (.int 0))) [.Eq] [.const (.str [115,105,103,110])],.cmp (.idx (.loc 0) (.const (.int 1))) [.Eq] [.loc 1]])]
noncomputable def QN:Fn:=⟨2,2,.pure,Fj⟩
noncomputable def Fy:List S:=[
 .assign (.attr (.loc 0) 11) (.loc 1),
 .assign (.attr (.loc 0) 26) (.const (.int 0)),
 .assign (.attr (.loc 0) 32) (.const (.int 0)),
 .assign (.attr (.loc 0) 33) (.const (.int 0))]
noncomputable def Ja:Fn:=⟨2,2,.open_,Fy⟩
noncomputable def Dz:List S:=[
 .ret (.ite (.cmp (.attr (.loc 0) 26) [.Lt] [.bi .len [.attr (.loc 0) 11]]) (.idx (.attr (.loc 0) 11) (.attr (.loc 0) 26)) (.tup [.const (.str [101,110,100]),.const (.str [])]))]
noncomputable def J9:Fn:=⟨1,2,.pure,Dz⟩
noncomputable def Fz:List S:=[
 .assign (.loc 1) (.meth (.loc 0) 52 []),
 .aug (.attr (.loc 0) 26) .Add (.const (.int 1)),
 .ret (.loc 1)]
noncomputable def Jb:Fn:=⟨1,2,.scoped,Fz⟩
noncomputable def Cr:X:=(.boolop true [.cmp (.idx (.meth (.loc 0) 52 []) (.const (.int 0))) [.In] [.tup [.const (.str [115,105,103,110]),.const (.str [110,97,109,101])]],.cmp (.idx (.meth (.loc 0) 52 []) (.const (.int 1))) [.In] [.idx (.const (.tup [.tup [.str [79,82],.str [88,79,82]],.tup [.str [65,78,68]],.tup [.str [69,81],.str [78,69],.str [76,84],.str [76,69],.str [71,84],.str [71,69],.str [61],.str [60,62],.str [60],.str [60,61],.str [62],.str [62,61]],.tup [.str [43],.str [45]],.tup [.str [42],.str [47],.str [77,79,68],.str [83,72,76],.str [83,72,82]]])) (.loc 1)]])
noncomputable def EW:List S:=[
 .assign (.loc 3) .stuck,
 .aug (.attr (.loc 0) 33) .Add (.const (.int 1)),
 .ife (.cmp (.attr (.loc 0) 33) [.Gt] [.stuck]) [
  .stuck] [],
 .assign (.loc 2) (.tup [.const (.str [116,119,111]),.loc 3,.loc 2,.meth (.loc 0) 54 [.bin .Add (.loc 1) (.const (.int 1))]])]
noncomputable def D5:List S:=[
 .ife (.cmp (.loc 1) [.Eq] [.bi .len [.const (.tup [.tup [.str [79,82],.str [88,79,82]],.tup [.str [65,78,68]],.tup [.str [69,81],.str [78,69],.str [76,84],.str [76,69],.str [71,84],.str [71,69],.str [61],.str [60,62],.str [60],.str [60,61],.str [62],.str [62,61]],.tup [.str [43],.str [45]],.tup [.str [42],.str [47],.str [77,79,68],.str [83,72,76],.str [83,72,82]]])]]) [
  .ret (.meth (.loc 0) 55 [])] [],
 .assign (.loc 2) (.meth (.loc 0) 54 [.bin .Add (.loc 1) (.const (.int 1))]),
 .whl Cr EW,
 .ret (.loc 2)]
noncomputable def JC:Fn:=⟨2,9,.scoped,D5⟩
noncomputable def Eo:List S:=[
 .aug (.attr (.loc 0) 32) .Add (.const (.int 1)),
 .ife (.cmp (.attr (.loc 0) 32) [.Gt] [.const (.int 12)]) [
  .stuck] [],
 .assign (.loc 1) (.meth (.loc 0) 56 [.meth (.loc 0) 53 []]),
 .aug (.attr (.loc 0) 32) .Sub (.const (.int 1)),
 .ret (.loc 1)]
noncomputable def IA:Fn:=⟨1,4,.scoped,Eo⟩
noncomputable def D4:List S:=[
 .assign (.tup [2,3]) (.loc 1),
 .ife (.cmp (.loc 2) [.Eq] [.const (.str [110,117,109,98,101,114])]) [
  .ret (.tup [.const (.str [110,117,109,98,101,114]),.loc 3])] [],
 .ife (.cmp (.loc 2) [.Eq] [.const (.str [116,101,120,116])]) [
  .ret (.tup [.const (.str [110,117,109,98,101,114]),.stuck])] [],
 .ife (.call (.const (.fn 144)) [.loc 1,.const (.str [36])]) [
  .ret (.tup [.const (.str [104,101,114,101])])] [],
 .ife (.call (.const (.fn 144)) [.loc 1,.const (.str [40])]) [
  .assign (.loc 4) (.meth (.loc 0) 54 [.const (.int 0)]),
  .ife (.not (.call (.const (.fn 144)) [.meth (.loc 0) 53 [],.const (.str [41])])) [
   .stuck] [],
  .ret (.loc 4)] [],
 .ife (.boolop true [.cmp (.loc 2) [.In] [.tup [.const (.str [115,105,103,110]),.const (.str [110,97,109,101])]],.cmp (.loc 3) [.In] [.const (.tup [.str [43],.str [45],.str [78,79,84],.str [72,73,71,72],.str [76,79,87]])]]) [
  .ret (.tup [.const (.str [111,110,101]),.loc 3,.meth (.loc 0) 55 []])] [],
 .ife (.cmp (.loc 2) [.Eq] [.const (.str [110,97,109,101])]) [
  .ret (.tup [.const (.str [110,97,109,101]),.loc 3])] [],
 .stuck]
noncomputable def JB:Fn:=⟨2,9,.scoped,D4⟩
noncomputable def Ep:List S:=[
 .assign (.loc 1) (.new true 203 [.loc 0]),
 .assign (.loc 2) (.meth (.loc 1) 54 [.const (.int 0)]),
 .ife (.cmp (.attr (.loc 1) 26) [.Lt] [.bi .len [.loc 0]]) [
  .stuck] [],
 .ret (.loc 2)]
noncomputable def IB:Fn:=⟨1,6,.pure,Ep⟩
noncomputable def GP:List S:=[
 .assign (.loc 3) (.idx (.loc 0) (.const (.int 0))),
 .ife (.cmp (.loc 3) [.Eq] [.const (.str [110,117,109,98,101,114])]) [
  .ret (.idx (.loc 0) (.const (.int 1)))] [],
 .ife (.cmp (.loc 3) [.Eq] [.const (.str [104,101,114,101])]) [
  .ret (.bin .Mod (.loc 2) (.const (.int 65536)))] [],
 .ife (.cmp (.loc 3) [.Eq] [.const (.str [110,97,109,101])]) [
  .ife (.cmp (.idx (.loc 0) (.const (.int 1))) [.NotIn] [.loc 1]) [
   .stuck] [],
  .ret (.idx (.loc 1) (.idx (.loc 0) (.const (.int 1))))] [],
 .ife (.cmp (.loc 3) [.Eq] [.const (.str [111,110,101])]) [
  .ret .stuck] [],
 .assign (.loc 4) (.call (.const (.fn 249)) [.idx (.loc 0) (.const (.int 2)),.loc 1,.loc 2]),
 .ret .stuck]
noncomputable def Nr:Fn:=⟨3,9,.pure,GP⟩
noncomputable def Fx:List S:=[
 .assign (.attr (.loc 0) 7) (.loc 1),
 .assign (.attr (.loc 0) 8) (.loc 2),
 .assign (.attr (.loc 0) 9) (.const .none),
 .assign (.attr (.loc 0) 10) (.const .none),
 .assign (.attr (.loc 0) 11) (.list [])]
noncomputable def J7:Fn:=⟨3,3,.open_,Fx⟩
noncomputable def Bi:X:=(.new false 266 [.bin .Add (.loc 1) (.const (.int 1)),.loc 2])
noncomputable def Er:List S:=[
 .ret (.comp Bi (.tup [1,2]) .enum (.meth (.loc 0) 5 [.const (.str [10])]) (.const .none) [] 4 [])]
noncomputable def IE:Fn:=⟨1,2,.pure,Er⟩
noncomputable def Bt:List S:=[
 .ife (.boolop false [.cmp (.bi .len [.loc 1]) [.Eq] [.const (.int 0)],.cmp (.idx (.idx (.loc 1) (.const (.int 0))) (.const (.int 0))) [.NotEq] [.const (.str [110,97,109,101])]]) [
  .ret (.const (.bool false))] [],
 .ret (.boolop false [.not (.cmp (.slice (.loc 0) (.const .none) (.const (.int 1))) [.In] [.tup [.const (.str []),.const (.str [32]),.const (.str [9])]]),.boolop true [.cmp (.bi .len [.loc 1]) [.Gt] [.const (.int 1)],.call (.const (.fn 144)) [.idx (.loc 1) (.const (.int 1)),.const (.str [58])]]])]
noncomputable def HU:Fn:=⟨2,4,.pure,Bt⟩
noncomputable def E3:List S:=[
 .try_ [
  .assign (.loc 1) (.call (.const (.fn 137)) [.attr (.loc 0) 8])],
 .ife (.call (.const (.fn 282)) [.attr (.loc 0) 8,.loc 1]) [
  .assign (.attr (.loc 0) 9) (.idx (.idx (.loc 1) (.const (.int 0))) (.const (.int 1))),
  .assign (.loc 1) (.slice (.loc 1) (.const (.int 1)) (.const .none)),
  .ife (.boolop true [.cmp (.bi .len [.loc 1]) [.Gt] [.const (.int 0)],.call (.const (.fn 144)) [.idx (.loc 1) (.const (.int 0)),.const (.str [58])]]) [
   .assign (.loc 1) (.slice (.loc 1) (.const (.int 1)) (.const .none))] []] [],
 .ife (.cmp (.bi .len [.loc 1]) [.Eq] [.const (.int 0)]) [
  .ret (.const .none)] [],
 .ife (.boolop true [.cmp (.idx (.idx (.loc 1) (.const (.int 0))) (.const (.int 0))) [.NotEq] [.const (.str [110,97,109,101])],.not (.call (.const (.fn 144)) [.idx (.loc 1) (.const (.int 0)),.const (.str [61])])]) [
  .stuck] [],
 .assign (.attr (.loc 0) 10) (.idx (.idx (.loc 1) (.const (.int 0))) (.const (.int 1))),
 .assign (.attr (.loc 0) 11) (.slice (.loc 1) (.const (.int 1)) (.const .none))]
noncomputable def Np:Fn:=⟨1,8,.scoped,E3⟩
noncomputable def CL:List S:=[
 .assign (.loc 2) (.call (.const (.fn 88)) [.loc 0,.ite (.call (.const (.fn 123)) [.loc 0,.loc 1]) (.bin .Add (.loc 1) (.const (.int 1))) (.loc 1)]),
 .ret (.ite (.boolop true [.cmp (.call (.const (.fn 81)) [.slice (.loc 0) (.loc 1) (.loc 2)]) [.Eq] [.const (.str [65,70])],.cmp (.slice (.loc 0) (.loc 2) (.bin .Add (.loc 2) (.const (.int 1)))) [.Eq] [.const (.str [39])]]) (.bin .Add (.loc 2) (.const (.int 1))) (.loc 2))]
noncomputable def Nn:Fn:=⟨2,6,.pure,CL⟩
noncomputable def DT:X:=(.cmp (.loc 5) [.Lt] [.bi .len [.loc 0]])
noncomputable def DU:List S:=[
 .assign (.loc 6) (.ite (.cmp (.loc 4) [.Eq] [.const (.str [])]) (.call (.const (.fn 296)) [.loc 0,.loc 5]) (.loc 5)),
 .ife (.cmp (.loc 6) [.Gt] [.loc 5]) [
  .assign (.tup [2,5]) (.tup [.bin .Add (.loc 2) (.slice (.loc 0) (.loc 5) (.loc 6)),.loc 6]),
  .cont] [],
 .assign (.tup [7,5]) (.tup [.idx (.loc 0) (.loc 5),.bin .Add (.loc 5) (.const (.int 1))]),
 .ife (.cmp (.loc 4) [.NotEq] [.const (.str [])]) [
  .assign (.loc 4) (.ite (.cmp (.loc 7) [.Eq] [.loc 4]) (.const (.str [])) (.loc 4))] [
  .ife (.cmp (.loc 7) [.Eq] [.const (.str [59])]) [
   .stuck] [
   .ife (.cmp (.loc 7) [.In] [.tup [.const (.str [39]),.const (.str [34])]]) [
    .assign (.loc 4) (.loc 7)] [
    .ife (.cmp (.loc 7) [.Eq] [.const (.str [40])]) [
     .aug (.loc 3) .Add (.const (.int 1))] [
     .ife (.cmp (.loc 7) [.Eq] [.const (.str [41])]) [
      .aug (.loc 3) .Sub (.const (.int 1))] []]]]],
 .ife (.boolop true [.cmp (.loc 7) [.Eq] [.const (.str [44])],.cmp (.loc 3) [.Eq] [.const (.int 0)],.cmp (.loc 4) [.Eq] [.const (.str [])]]) [
  .expr (.meth (.loc 1) 0 [.meth (.loc 2) 6 []]),
  .assign (.loc 2) (.const (.str []))] [
  .assign (.loc 2) (.bin .Add (.loc 2) (.loc 7))]]
noncomputable def Dp:List S:=[
 .assign (.tup [1,2,3,4,5]) (.tup [.list [],.const (.str []),.const (.int 0),.const (.str []),.const (.int 0)]),
 .whl DT DU,
 .expr (.meth (.loc 1) 0 [.meth (.loc 2) 6 []]),
 .ret (.ite (.cmp (.loc 1) [.Eq] [.list [.const (.str [])]]) (.list []) (.loc 1))]
noncomputable def Gj:Fn:=⟨1,10,.pure,Dp⟩
noncomputable def Ex:X:=(.cmp (.loc 3) [.Lt] [.bi .len [.loc 2]])
noncomputable def DP:List S:=[
 .ife (.call (.const (.fn 62)) [.idx (.loc 2) (.loc 3)]) [
  .assign (.loc 4) (.call (.const (.fn 88)) [.loc 2,.loc 3]),
  .ife (.cmp (.slice (.loc 2) (.loc 3) (.loc 4)) [.Eq] [.loc 1]) [
   .ret (.slice (.loc 0) (.loc 4) (.const .none))] [],
  .assign (.loc 3) (.loc 4)] [
  .aug (.loc 3) .Add (.const (.int 1))]]
noncomputable def EA:List S:=[
 .assign (.tup [2,3]) (.tup [.call (.const (.fn 81)) [.loc 0],.const (.int 0)]),
 .whl Ex DP,
 .ret (.const (.str []))]
noncomputable def Jh:Fn:=⟨2,9,.pure,EA⟩
noncomputable def ET:X:=(.cmp (.loc 3) [.Lt] [.bi .len [.loc 0]])
noncomputable def EY:List S:=[
 .assign (.loc 5) (.ite (.cmp (.loc 4) [.Eq] [.const (.str [])]) (.call (.const (.fn 296)) [.loc 0,.loc 3]) (.loc 3)),
 .ife (.cmp (.loc 5) [.Gt] [.loc 3]) [
  .assign (.tup [2,3]) (.tup [.bin .Add (.loc 2) (.meth (.loc 1) 2 [.call (.const (.fn 81)) [.slice (.loc 0) (.loc 3) (.loc 5)],.slice (.loc 0) (.loc 3) (.loc 5)]),.loc 5]),
  .cont] [],
 .assign (.loc 6) (.idx (.loc 0) (.loc 3)),
 .ife (.boolop true [.cmp (.loc 6) [.In] [.tup [.const (.str [39]),.const (.str [34])]],.cmp (.loc 4) [.In] [.tup [.const (.str []),.loc 6]]]) [
  .assign (.loc 4) (.ite (.cmp (.loc 4) [.Eq] [.loc 6]) (.const (.str [])) (.loc 6))] [],
 .ife (.boolop false [.cmp (.loc 6) [.NotEq] [.const (.str [38])],.cmp (.loc 4) [.NotEq] [.const (.str [])]]) [
  .assign (.loc 2) (.bin .Add (.loc 2) (.loc 6))] [],
 .aug (.loc 3) .Add (.const (.int 1))]
noncomputable def FN:List S:=[
 .assign (.tup [2,3,4]) (.tup [.const (.str []),.const (.int 0),.const (.str [])]),
 .whl ET EY,
 .ret (.loc 2)]
noncomputable def JF:Fn:=⟨2,10,.pure,FN⟩
noncomputable def DB:List S:=[
 .ife (.call (.const (.fn 144)) [.loc 4,.const (.str [40])]) [
  .aug (.loc 3) .Add (.const (.int 1))] [],
 .ife (.call (.const (.fn 144)) [.loc 4,.const (.str [41])]) [
  .aug (.loc 3) .Sub (.const (.int 1))] [],
 .ife (.boolop true [.call (.const (.fn 144)) [.loc 4,.const (.str [44])],.cmp (.loc 3) [.Eq] [.const (.int 0)]]) [
  .expr (.meth (.loc 1) 0 [.loc 2]),
  .assign (.loc 2) (.list [])] [
  .expr (.meth (.loc 2) 0 [.loc 4])]]
noncomputable def Hc:List S:=[
 .ife (.cmp (.bi .len [.loc 0]) [.Eq] [.const (.int 0)]) [
  .ret (.list [])] [],
 .assign (.tup [1,2,3]) (.tup [.list [],.list [],.const (.int 0)]),
 .for_ (.loc 4) .plain (.loc 0) (.const .none) DB,
 .ret (.bin .Add (.loc 1) (.list [.loc 2]))]
noncomputable def Lx:Fn:=⟨1,7,.pure,Hc⟩
noncomputable def JX:List S:=[
 .ife (.call (.const (.fn 144)) [.loc 3,.const (.str [40])]) [
  .aug (.loc 1) .Add (.const (.int 1))] [],
 .ife (.call (.const (.fn 144)) [.loc 3,.const (.str [41])]) [
  .aug (.loc 1) .Sub (.const (.int 1)),
  .ife (.cmp (.loc 1) [.Eq] [.const (.int 0)]) [
   .ret (.cmp (.loc 2) [.Eq] [.bin .Sub (.bi .len [.loc 0]) (.const (.int 1))])] []] []]
noncomputable def Gb:List S:=[
 .ife (.boolop false [.cmp (.bi .len [.loc 0]) [.Lt] [.const (.int 3)],.not (.call (.const (.fn 144)) [.idx (.loc 0) (.const (.int 0)),.const (.str [40])])]) [
  .ret (.const (.bool false))] [],
 .assign (.loc 1) (.const (.int 0)),
 .for_ (.tup [2,3]) .enum (.loc 0) (.const .none) JX,
 .ret (.const (.bool false))]
noncomputable def Km:Fn:=⟨1,7,.pure,Gb⟩
noncomputable def C4:List S:=[
 .ife (.cmp (.bi .len [.loc 0]) [.Eq] [.const (.int 0)]) [
  .stuck] [],
 .assign (.tup [1,2]) (.idx (.loc 0) (.const (.int 0))),
 .ife (.boolop true [.cmp (.bi .len [.loc 0]) [.Eq] [.const (.int 1)],.cmp (.loc 1) [.Eq] [.const (.str [110,97,109,101])]]) [
  .ife (.cmp (.loc 2) [.In] [.const (.tup [.str [66],.str [67],.str [68],.str [69],.str [72],.str [76],.str [65],.str [70],.str [73],.str [82],.str [73,88,72],.str [73,88,76],.str [73,89,72],.str [73,89,76]])]) [
   .ret (.tup [.const (.str [114]),.loc 2])] [],
  .ife (.cmp (.loc 2) [.In] [.const (.tup [.str [66,67],.str [68,69],.str [72,76],.str [83,80],.str [65,70],.str [65,70,39],.str [73,88],.str [73,89]])]) [
   .ret (.tup [.const (.str [112]),.loc 2])] [],
  .ife (.cmp (.loc 2) [.In] [.const (.tup [.str [78,90],.str [90],.str [78,67],.str [80,79],.str [80,69],.str [80],.str [77]])]) [
   .ret (.tup [.const (.str [102]),.loc 2])] []] [],
 .ife (.boolop true [.cmp (.bi .len [.loc 0]) [.Eq] [.const (.int 1)],.cmp (.loc 1) [.Eq] [.const (.str [116,101,120,116])]]) [
  .ret (.tup [.const (.str [116,101,120,116]),.loc 2])] [],
 .ret (.ite (.call (.const (.fn 358)) [.loc 0]) .stuck (.tup [.const (.str [110]),.call (.const (.fn 221)) [.loc 0]]))]
noncomputable def Ko:Fn:=⟨1,11,.pure,C4⟩
noncomputable def Es:X:=(.call (.const (.fn 379)) [.loc 1])
noncomputable def GD:List S:=[
 .ret (.comp Es (.loc 1) .plain (.call (.const (.fn 351)) [.loc 0]) (.const .none) [] 3 [])]
noncomputable def Jg:Fn:=⟨1,2,.pure,GD⟩
noncomputable def GB:List S:=[
 .try_ [
  .ret (.call (.const (.fn 249)) [.loc 0,.loc 1,.loc 2])]]
noncomputable def Je:Fn:=⟨4,6,.pure,GB⟩
noncomputable def BZ:List S:=[
 .ife (.cmp (.idx (.loc 0) (.const (.int 0))) [.Eq] [.const (.str [120])]) [
  .assign (.loc 4) (.call (.const (.fn 391)) [.idx (.loc 0) (.const (.int 2)),.loc 1,.loc 2,.ite (.cmp (.loc 3) [.Is] [.const .none]) (.const .none) (.const (.int 0))]),
  .ret (.tup [.const (.str [120]),.idx (.loc 0) (.const (.int 1)),.stuck])] [],
 .ife (.cmp (.idx (.loc 0) (.const (.int 0))) [.In] [.tup [.const (.str [97]),.const (.str [110])]]) [
  .ret (.tup [.idx (.loc 0) (.const (.int 0)),.call (.const (.fn 391)) [.idx (.loc 0) (.const (.int 1)),.loc 1,.loc 2,.loc 3]])] [],
 .ife (.cmp (.idx (.loc 0) (.const (.int 0))) [.Eq] [.const (.str [116,101,120,116])]) [
  .ret (.tup [.const (.str [110]),.call (.const (.fn 249)) [.call (.const (.fn 221)) [.list [.loc 0]],.loc 1,.loc 2]])] [],
 .ret (.loc 0)]
noncomputable def HW:Fn:=⟨4,9,.pure,BZ⟩
noncomputable def DQ:X:=(.call (.const (.fn 405)) [.loc 1,.loc 4,.loc 3,.loc 5])
noncomputable def Dq:List S:=[
 .ret (.comp DQ (.loc 1) .plain (.loc 0) (.const .none) [] 6 [(3,2),(4,1),(5,3)])]
noncomputable def Gk:Fn:=⟨4,4,.pure,Dq⟩
noncomputable def G8:List S:=[
 .assign (.attr (.loc 0) 12) (.loc 1),
 .assign (.attr (.loc 0) 13) (.loc 2)]
noncomputable def Ki:Fn:=⟨3,3,.open_,G8⟩
noncomputable def En:List S:=[
 .assign (.attr (.loc 0) 14) (.list []),
 .assign (.attr (.loc 0) 15) (.dict [] []),
 .assign (.attr (.loc 0) 16) (.list []),
 .assign (.attr (.loc 0) 17) (.list []),
 .assign (.attr (.loc 0) 18) (.const .none)]
noncomputable def Hz:Fn:=⟨1,1,.open_,En⟩
noncomputable def Ha:List S:=[
 .assign (.attr (.loc 0) 15) (.loc 1),
 .assign (.attr (.loc 0) 19) (.loc 4),
 .assign (.attr (.loc 0) 20) (.loc 2),
 .assign (.attr (.loc 0) 21) (.loc 3),
 .assign (.attr (.loc 0) 22) (.const (.int 0)),
 .assign (.attr (.loc 0) 23) (.dict [] []),
 .assign (.attr (.loc 0) 24) (.dict [] []),
 .assign (.attr (.loc 0) 25) (.dict [] []),
 .assign (.attr (.loc 0) 26) (.const (.int 0)),
 .assign (.attr (.loc 0) 27) (.const (.int 0)),
 .assign (.attr (.loc 0) 28) (.const (.int 4000)),
 .assign (.attr (.loc 0) 29) (.const (.int 0)),
 .assign (.attr (.loc 0) 30) (.const (.bool false)),
 .assign (.attr (.loc 0) 31) (.new true 453 [])]
noncomputable def Lp:Fn:=⟨5,7,.open_,Ha⟩
noncomputable def Dy:List S:=[
 .ife (.boolop false [.cmp (.loc 1) [.In] [.attr (.loc 0) 23],.cmp (.loc 1) [.In] [.attr (.loc 0) 24]]) [
  .stuck] [],
 .ife (.boolop true [.attr (.loc 0) 21,.cmp (.meth (.attr (.loc 0) 15) 2 [.loc 1,.loc 2]) [.NotEq] [.loc 2]]) [
  .stuck] [],
 .assign (.sub (.attr (.loc 0) 23) (.loc 1)) (.const (.bool true)),
 .assign (.sub (.attr (.loc 0) 15) (.loc 1)) (.loc 2)]
noncomputable def J8:Fn:=⟨3,4,.scoped,Dy⟩
noncomputable def Cy:X:=(.boolop true [.cmp (.loc 3) [.Lt] [.bi .len [.loc 1]],.not (.attr (.loc 0) 30)])
noncomputable def DA:List S:=[
 .assign (.tup [4,3]) (.tup [.idx (.loc 1) (.loc 3),.bin .Add (.loc 3) (.const (.int 1))]),
 .try_ [
  .assign (.loc 3) (.meth (.loc 0) 38 [.loc 4,.loc 1,.loc 3,.loc 2])]]
noncomputable def Hb:List S:=[
 .assign (.loc 3) (.const (.int 0)),
 .whl Cy DA]
noncomputable def Lr:Fn:=⟨3,8,.scoped,Hb⟩
noncomputable def J4:X:=(.idx (.idx (.loc 1) (.const (.int 0))) (.const (.int 1)))
noncomputable def DD:List S:=[
 .aug (.attr (.loc 0) 28) .Sub (.const (.int 1)),
 .ife (.cmp (.attr (.loc 0) 28) [.Lt] [.const (.int 0)]) [
  .assign (.attr (.loc 0) 30) (.const (.bool true)),
  .stuck] [],
 .assign (.loc 5) (.new true 266 [.attr (.loc 1) 7,.attr (.loc 1) 8]),
 .expr (.call (.const (.fn 289)) [.loc 5]),
 .ife (.cmp (.attr (.loc 5) 10) [.Eq] [.const (.str [73,70])]) [
  .ret (.meth (.loc 0) 41 [.loc 5,.loc 2,.loc 3,.loc 4])] [],
 .ife (.cmp (.attr (.loc 5) 10) [.Eq] [.const (.str [77,65,67,82,79])]) [
  .assign (.loc 6) (.meth (.loc 0) 40 [.loc 2,.loc 3,.const (.str [77,65,67,82,79]),.const (.str [69,78,68,77])]),
  .assign (.loc 7) (.comp J4 (.loc 1) .plain (.call (.const (.fn 351)) [.attr (.loc 5) 11]) (.const .none) [.cmp (.bi .len [.loc 1]) [.Eq] [.const (.int 1)]] 3 []),
  .ife (.cmp (.attr (.loc 5) 9) [.Is] [.const .none]) [
   .expr (.meth (.attr (.attr (.loc 0) 31) 17) 0 [.tup [.attr (.loc 1) 7,.const (.str [77,65,67,82,79,32,119,105,116,104,111,117,116,32,97,32,110,97,109,101])]])] [
   .assign (.sub (.attr (.loc 0) 25) (.attr (.loc 5) 9)) (.new false 432 [.loc 7,.slice (.loc 2) (.loc 3) (.loc 6)])],
  .ret (.bin .Add (.loc 6) (.const (.int 1)))] [],
 .ife (.cmp (.attr (.loc 5) 10) [.In] [.tup [.const (.str [69,76,83,69]),.const (.str [69,78,68,73,70]),.const (.str [69,78,68,77])]]) [
  .stuck] [],
 .ife (.cmp (.attr (.loc 5) 10) [.In] [.attr (.loc 0) 25]) [
  .expr (.meth (.loc 0) 43 [.loc 5]),
  .expr (.meth (.loc 0) 42 [.loc 5,.loc 4])] [
  .expr (.meth (.loc 0) 44 [.loc 5])],
 .ret (.loc 3)]
noncomputable def Lq:Fn:=⟨5,13,.scoped,DD⟩
noncomputable def Ad:List S:=[
 .assign (.loc 7) (.call (.const (.fn 614)) [.idx (.loc 1) (.loc 6)]),
 .ife (.cmp (.loc 7) [.Eq] [.loc 3]) [
  .aug (.loc 5) .Add (.const (.int 1))] [],
 .ife (.cmp (.loc 7) [.Eq] [.loc 4]) [
  .aug (.loc 5) .Sub (.const (.int 1)),
  .ife (.cmp (.loc 5) [.Eq] [.const (.int 0)]) [
   .ret (.loc 6)] []] []]
noncomputable def EL:List S:=[
 .assign (.loc 5) (.const (.int 1)),
 .for_ (.loc 6) .range2 (.loc 2) (.bi .len [.loc 1]) Ad,
 .assign (.attr (.loc 0) 30) (.const (.bool true)),
 .stuck]
noncomputable def HR:Fn:=⟨5,12,.pure,EL⟩
noncomputable def Cz:List S:=[
 .assign (.sub (.loc 4) (.loc 7)) (.ite (.cmp (.loc 6) [.Lt] [.bi .len [.loc 5]]) (.idx (.loc 5) (.loc 6)) (.const (.str [])))]
noncomputable def EJ:List S:=[
 .aug (.attr (.loc 0) 27) .Add (.const (.int 1)),
 .assign (.sub (.loc 4) (.loc 7)) (.bin .Add (.const (.str [63,63])) (.slice (.bi .str [.bin .Add (.const (.int 10000)) (.attr (.loc 0) 27)]) (.const (.int 1)) (.const .none)))]
noncomputable def CD:List S:=[
 .assign (.loc 11) (.call (.const (.fn 614)) [.loc 10]),
 .aug (.loc 9) .Add (.bin .Sub (.cmp (.loc 11) [.Eq] [.const (.str [77,65,67,82,79])]) (.cmp (.loc 11) [.Eq] [.const (.str [69,78,68,77])])),
 .ife (.boolop true [.cmp (.loc 11) [.Eq] [.const (.str [76,79,67,65,76])],.cmp (.loc 9) [.Eq] [.const (.int 0)]]) [
  .for_ (.loc 7) .plain (.call (.const (.fn 619)) [.loc 10]) (.const .none) EJ] [
  .expr (.meth (.loc 8) 0 [.new false 266 [.attr (.loc 1) 7,.call (.const (.fn 317)) [.attr (.loc 10) 8,.loc 4]]])]]
noncomputable def FL:List S:=[
 .ife (.cmp (.loc 2) [.GtE] [.const (.int 8)]) [
  .stuck] [],
 .assign (.tup [3,4]) (.tup [.idx (.attr (.loc 0) 25) (.attr (.loc 1) 10),.dict [] []]),
 .assign (.loc 5) (.call (.const (.fn 303)) [.call (.const (.fn 310)) [.attr (.loc 1) 8,.attr (.loc 1) 10]]),
 .ife (.cmp (.bi .len [.loc 5]) [.Gt] [.bi .len [.attr (.loc 3) 12]]) [
  .stuck] [],
 .for_ (.tup [6,7]) .enum (.attr (.loc 3) 12) (.const .none) Cz,
 .assign (.tup [8,9]) (.tup [.list [],.const (.int 0)]),
 .for_ (.loc 10) .plain (.attr (.loc 3) 13) (.const .none) CD,
 .expr (.meth (.loc 0) 37 [.loc 8,.bin .Add (.loc 2) (.const (.int 1))])]
noncomputable def Lo:Fn:=⟨3,23,.scoped,FL⟩
noncomputable def Ck:List S:=[
 .ife (.cmp (.attr (.loc 1) 9) [.IsNot] [.const .none]) [
  .expr (.meth (.loc 0) 34 [.attr (.loc 1) 9,.bin .Mod (.attr (.loc 0) 26) (.const (.int 65536))])] []]
noncomputable def HT:Fn:=⟨2,2,.scoped,Ck⟩
noncomputable def Ga:List S:=[
 .assign (.loc 2) (.attr (.loc 1) 10),
 .ife (.cmp (.loc 2) [.Eq] [.const (.str [69,81,85])]) [
  .expr (.meth (.loc 0) 34 [.meth (.loc 0) 39 [.loc 1],.meth (.loc 0) 36 [.attr (.loc 1) 11]])] [
  .ife (.boolop true [.cmp (.loc 2) [.In] [.const (.tup [.str [83,69,84],.str [68,69,70,76],.str [61]])],.stuck]) [
   .expr (.meth (.loc 0) 35 [.meth (.loc 0) 39 [.loc 1],.meth (.loc 0) 36 [.attr (.loc 1) 11]])] [
   .ife (.cmp (.loc 2) [.Eq] [.const (.str [79,82,71])]) [
    .assign (.attr (.loc 0) 26) (.meth (.loc 0) 36 [.attr (.loc 1) 11]),
    .expr (.meth (.loc 0) 43 [.loc 1])] [
    .ife (.cmp (.loc 2) [.Eq] [.const (.str [69,78,68])]) [
     .expr (.meth (.loc 0) 43 [.loc 1]),
     .assign (.attr (.attr (.loc 0) 31) 18) (.ite (.cmp (.bi .len [.attr (.loc 1) 11]) [.Gt] [.const (.int 0)]) (.meth (.loc 0) 36 [.attr (.loc 1) 11]) (.const .none)),
     .assign (.attr (.loc 0) 30) (.const (.bool true))] [
     .try_ [
      .expr (.meth (.loc 0) 43 [.loc 1]),
      .expr (.meth (.loc 0) 45 [.loc 1,.meth (.loc 0) 48 [.loc 1]])]]]]]]
noncomputable def Kl:Fn:=⟨2,7,.scoped,Ga⟩
noncomputable def Ek:List S:=[
 .expr (.meth (.attr (.attr (.loc 0) 31) 14) 0 [.tup [.bin .Mod (.bin .Add (.attr (.loc 0) 26) (.loc 3)) (.const (.int 65536)),.loc 4]])]
noncomputable def GO:List S:=[
 .ife (.attr (.loc 0) 21) [
  .for_ (.tup [3,4]) .enum (.loc 2) (.const .none) Ek,
  .expr (.meth (.attr (.attr (.loc 0) 31) 16) 0 [.tup [.attr (.loc 1) 7,.bin .Mod (.attr (.loc 0) 26) (.const (.int 65536)),.loc 2,.attr (.loc 1) 8]])] [],
 .expr (.meth (.loc 0) 47 [.bi .len [.loc 2]])]
noncomputable def Nm:Fn:=⟨3,7,.scoped,GO⟩
noncomputable def E2:List S:=[
 .ife (.not (.attr (.loc 0) 21)) [
  .expr (.meth (.attr (.loc 0) 20) 0 [.loc 1])] [],
 .aug (.attr (.loc 0) 26) .Add (.loc 1),
 .aug (.attr (.loc 0) 22) .Add (.const (.int 1))]
noncomputable def Kj:Fn:=⟨2,2,.scoped,E2⟩
noncomputable def G3:List S:=[
 .assign (.loc 6) (.call (.const (.fn 391)) [.call (.const (.fn 221)) [.loc 5],.attr (.loc 0) 15,.attr (.loc 0) 26,.loc 3]),
 .expr (.meth (.loc 4) 1 [.list [.bin .Mod (.loc 6) (.const (.int 256)),.bin .FloorDiv (.loc 6) (.const (.int 256))]])]
noncomputable def Cj:List S:=[
 .assign (.tup [2,3]) (.tup [.attr (.loc 1) 10,.ite (.attr (.loc 0) 21) (.const .none) (.const (.int 0))]),
 .ife (.cmp (.loc 2) [.Is] [.const .none]) [
  .ret (.list [])] [],
 .ife (.cmp (.loc 2) [.In] [.const (.tup [.str [68,66],.str [68,69,70,66],.str [68,69,70,77]])]) [
  .ret (.meth (.loc 0) 50 [.loc 1,.loc 3])] [],
 .ife (.cmp (.loc 2) [.In] [.const (.tup [.str [68,87],.str [68,69,70,87]])]) [
  .assign (.loc 4) (.list []),
  .for_ (.loc 5) .plain (.call (.const (.fn 351)) [.attr (.loc 1) 11]) (.const .none) G3,
  .ret (.loc 4)] [],
 .ife (.cmp (.loc 2) [.In] [.const (.tup [.str [68,83],.str [68,69,70,83]])]) [
  .ret (.meth (.loc 0) 51 [.loc 1])] [],
 .ife (.boolop true [.cmp (.loc 3) [.IsNot] [.const .none],.cmp (.loc 2) [.In] [.const (.tup [.str [74,82],.str [68,74,78,90]])]]) [
  .assign (.loc 3) (.bin .Mod (.bin .Add (.attr (.loc 0) 26) (.const (.int 2))) (.const (.int 65536)))] [],
 .ret (.meth (.loc 0) 49 [.loc 1,.loc 3])]
noncomputable def HS:Fn:=⟨2,14,.pure,Cj⟩
noncomputable def G9:List S:=[
 .assign (.loc 3) (.call (.const (.fn 410)) [.call (.const (.fn 384)) [.attr (.loc 1) 11],.attr (.loc 0) 15,.attr (.loc 0) 26,.loc 2]),
 .assign (.loc 4) (.attr (.loc 0) 19),
 .try_ [
  .ret (.call (.loc 4) [.attr (.loc 1) 10,.loc 3,.bin .Mod (.attr (.loc 0) 26) (.const (.int 65536))])]]
noncomputable def Kk:Fn:=⟨3,10,.pure,G9⟩
noncomputable def KA:List S:=[
 .assign (.loc 1) (.new true 266 [.attr (.loc 0) 7,.attr (.loc 0) 8]),
 .try_ [
  .expr (.call (.const (.fn 289)) [.loc 1])],
 .ret (.attr (.loc 1) 10)]
noncomputable def QP:Fn:=⟨1,5,.pure,KA⟩
noncomputable def CG:X:=(.idx (.idx (.loc 1) (.const (.int 0))) (.const (.int 1)))
noncomputable def GC:List S:=[
 .assign (.loc 1) (.new true 266 [.attr (.loc 0) 7,.attr (.loc 0) 8]),
 .expr (.call (.const (.fn 289)) [.loc 1]),
 .ret (.comp CG (.loc 1) .plain (.call (.const (.fn 351)) [.attr (.loc 1) 11]) (.const .none) [.cmp (.bi .len [.loc 1]) [.Eq] [.const (.int 1)]] 3 [])]
noncomputable def Jf:Fn:=⟨1,5,.pure,GC⟩
noncomputable def CJ:List S:=[
 .ife (.cmp (.loc 5) [.In] [.attr (.loc 3) 23]) [
  .assign (.sub (.loc 4) (.loc 5)) (.idx (.attr (.loc 3) 15) (.loc 5))] []]
noncomputable def GA:List S:=[
 .assign (.loc 2) (.call (.const (.fn 275)) [.loc 0]),
 .assign (.loc 3) (.new true 596 [.dict [] [],.list [],.const (.bool false),.loc 1]),
 .expr (.meth (.loc 3) 37 [.loc 2,.const (.int 0)]),
 .ife (.cmp (.attr (.attr (.loc 3) 31) 17) [.NotEq] [.list []]) [
  .assign (.attr (.attr (.loc 3) 31) 15) (.attr (.loc 3) 15),
  .ret (.attr (.loc 3) 31)] [],
 .assign (.loc 4) (.dict [] []),
 .for_ (.loc 5) .plain (.attr (.loc 3) 15) (.const .none) CJ,
 .assign (.loc 6) (.new true 596 [.loc 4,.attr (.loc 3) 20,.const (.bool true),.loc 1]),
 .expr (.meth (.loc 6) 37 [.loc 2,.const (.int 0)]),
 .assign (.attr (.attr (.loc 6) 31) 15) (.attr (.loc 6) 15),
 .ret (.attr (.loc 6) 31)]
noncomputable def Jc:Fn:=⟨2,9,.open_,GA⟩
noncomputable def FR:X:=(.loc 2)
noncomputable def Jy:List S:=[
 .ret (.comp FR (.tup [1,2]) .plain (.attr (.loc 0) 14) (.const .none) [] 3 [])]
noncomputable def QM:Fn:=⟨1,1,.pure,Jy⟩
noncomputable def C3:List S:=[
 .assign (.sub (.loc 0) (.const (.int 1))) (.bin .Add (.idx (.loc 0) (.const (.int 1))) (.const (.int 1))),
 .ret (.bin .Mod (.ite (.cmp (.idx (.loc 0) (.const (.int 1))) [.LtE] [.bi .len [.idx (.loc 0) (.const (.int 0))]]) (.idx (.idx (.loc 0) (.const (.int 0))) (.bin .Sub (.idx (.loc 0) (.const (.int 1))) (.const (.int 1)))) (.bin .Add (.bin .Mult (.const (.int 3)) (.idx (.loc 0) (.const (.int 1)))) (.const (.int 1)))) (.loc 1))]
noncomputable def Kn:Fn:=⟨2,3,.scoped,C3⟩
noncomputable def El:List S:=[
 .ife (.boolop false [.cmp (.loc 0) [.NotEq] [.const (.str [84,69,76,76])],.boolop true [.cmp (.loc 4) [.NotEq] [.const (.str [110])],.cmp (.loc 5) [.NotIn] [.tup [.const (.str [65,70]),.const (.str [65,70,39])]]]]) [
  .stuck] [],
 .expr (.meth (.loc 3) 0 [.ite (.cmp (.loc 4) [.Eq] [.const (.str [110])]) (.bin .Mod (.loc 5) (.const (.int 256))) (.ite (.cmp (.loc 5) [.Eq] [.const (.str [65,70,39])]) (.const (.int 201)) (.const (.int 202)))])]
noncomputable def Il:List S:=[
 .assign (.loc 3) (.list []),
 .for_ (.tup [4,5]) .plain (.loc 1) (.const .none) El,
 .ret (.loc 3)]
noncomputable def No:Fn:=⟨3,7,.pure,Il⟩
noncomputable def Ab:List S:=[
 .assign (.tup [2,3]) (.tup [.call (.const (.fn 651)) [.loc 0,.const (.int 6)],.call (.const (.fn 651)) [.loc 0,.const (.int 200)]]),
 .ife (.cmp (.loc 2) [.Lt] [.const (.int 2)]) [
  .expr (.meth (.idx (.loc 1) (.const (.str [119,97,110,116,101,100]))) 0 [.loc 2]),
  .expr (.meth (.idx (.loc 1) (.const (.str [111,99,116,101,116,115]))) 1 [.ite (.cmp (.loc 2) [.Eq] [.const (.int 0)]) (.list [.const (.int 16),.const (.int 5),.loc 3,.const (.int 7)]) (.list [.const (.int 10),.loc 3,.const (.int 160),.const (.int 1)])]),
  .ret (.list [.ite (.cmp (.loc 2) [.Eq] [.const (.int 0)]) (.bin .Add (.bin .Add (.const (.str [32,66,89,84,69,32])) (.bi .str [.loc 3])) (.const (.str [44,55]))) (.bin .Add (.const (.str [32,72,69,88,32])) (.bi .str [.loc 3]))])] [],
 .ife (.cmp (.loc 2) [.Lt] [.const (.int 4)]) [
  .expr (.meth (.idx (.loc 1) (.const (.str [119,97,110,116,101,100]))) 1 [.list [.const (.int 2),.loc 2]]),
  .expr (.meth (.idx (.loc 1) (.const (.str [111,99,116,101,116,115]))) 1 [.ite (.cmp (.loc 2) [.Eq] [.const (.int 2)]) (.list [.const (.int 201),.const (.int 202),.loc 3]) (.list [.const (.int 202),.const (.int 201),.loc 3])]),
  .ret (.list [.ite (.cmp (.loc 2) [.Eq] [.const (.int 2)]) (.bin .Add (.const (.str [32,83,87,65,80,32,65,70,39,44,32,65,70,32,44])) (.bi .str [.loc 3])) (.bin .Add (.const (.str [32,104,97,110,100,32])) (.bi .str [.loc 3]))])] [],
 .assign (.loc 4) (.list []),
 .ife (.boolop false [.cmp (.loc 2) [.Eq] [.const (.int 4)],.cmp (.idx (.loc 1) (.const (.str [109,97,107,101,114]))) [.Is] [.const .none]]) [
  .expr (.meth (.idx (.loc 1) (.const (.str [119,97,110,116,101,100]))) 0 [.const (.int 4)]),
  .expr (.meth (.idx (.loc 1) (.const (.str [111,99,116,101,116,115]))) 0 [.loc 3]),
  .assign (.sub (.loc 1) (.const (.str [109,97,107,101,114]))) (.loc 3),
  .assign (.loc 4) (.list [.bin .Add (.const (.str [32,77,65,75,69,82,32])) (.bi .str [.loc 3])])] [],
 .ife (.cmp (.loc 2) [.Eq] [.const (.int 5)]) [
  .assign (.loc 5) (.bi .len [.idx (.loc 1) (.const (.str [111,99,116,101,116,115]))]),
  .expr (.meth (.idx (.loc 1) (.const (.str [111,99,116,101,116,115]))) 1 [.list [.bin .FloorDiv (.loc 3) (.const (.int 2)),.idx (.loc 1) (.const (.str [109,97,107,101,114])),.loc 5]]),
  .expr (.meth (.loc 4) 0 [.bin .Add (.const (.str [32,73,78,78,69,82,32])) (.bi .str [.bin .FloorDiv (.loc 3) (.const (.int 2))])])] [],
 .ret (.loc 4)]
noncomputable def Lu:Fn:=⟨2,9,.scoped,Ab⟩
noncomputable def Ke:X:=(.bi .abs [.bi .int [.loc 1]])
noncomputable def Ic:List S:=[
 .assign (.loc 3) (.bin .Add (.loc 3) (.call (.const (.fn 665)) [.loc 1,.loc 2]))]
noncomputable def HE:List S:=[
 .assign (.loc 5) (.bin .Add (.loc 5) (.ite (.cmp (.loc 6) [.In] [.idx (.loc 2) (.const (.str [119,97,110,116,101,100]))]) (.loc 7) (.list [])))]
noncomputable def Rt:List S:=[
 .assign (.loc 1) (.list [.comp Ke (.loc 1) .plain (.slice (.loc 0) (.const .none) (.const (.int 12))) (.const .none) [] 4 [],.const (.int 0)]),
 .assign (.tup [2,3]) (.tup [.dict [[111,99,116,101,116,115],[119,97,110,116,101,100],[109,97,107,101,114]] [.list [],.list [],.const .none],.list []]),
 .for_ (.loc 4) .range1 (.bin .Add (.const (.int 1)) (.call (.const (.fn 651)) [.loc 1,.const (.int 4)])) (.const .none) Ic,
 .assign (.loc 5) (.list []),
 .for_ (.tup [6,7]) .enum (.const (.lst [.lst [.str [66,89,84,69,32,77,65,67,82,79,32,72,44,66],.str [32,84,69,76,76,32,49,48,72,44,49,48,49,66,44,72,44,66],.str [32,69,78,68,77]],.lst [.str [72,69,88,32,77,65,67,82,79,32,65],.str [32,84,69,76,76,32,36,65,44,65,44,48,65,48,72,44,37,49],.str [32,69,78,68,77]],.lst [.str [83,87,65,80,32,77,65,67,82,79,32,80,44,81,44,78],.str [32,84,69,76,76,32,80,44,81,44,78],.str [32,69,78,68,77]],.lst [.str [72,65,78,68,32,77,65,67,82,79,32,78],.str [32,83,87,65,80,32,65,70,44,97,102,39,44,78],.str [32,69,78,68,77]],.lst [.str [77,65,75,69,82,32,77,65,67,82,79,32,78],.str [32,84,69,76,76,32,78],.str [73,78,78,69,82,32,77,65,67,82,79,32,77],.str [32,76,79,67,65,76,32,76],.str [76,58,32,84,69,76,76,32,77,44,78],.str [32,84,69,76,76,32,76],.str [32,69,78,68,77],.str [32,69,78,68,77]]])) (.const .none) HE,
 .assign (.loc 8) (.call (.const (.fn 633)) [.meth (.const (.str [10])) 4 [.bin .Add (.loc 5) (.loc 3)],.const (.fn 658)]),
 .ret (.boolop true [.cmp (.attr (.loc 8) 17) [.Eq] [.list []],.cmp (.call (.const (.fn 638)) [.loc 8]) [.Eq] [.idx (.loc 2) (.const (.str [111,99,116,101,116,115]))]])]
noncomputable def Xw:List (Nat×Fn):=[(62,ID),(69,Ls),(76,JE),(81,QL),(88,QO),(95,JD),(102,Lw),(116,Lv),(123,Jd),(130,Nq),(137,Ly),(144,QN),(221,IB),(249,Nr),(275,IE),(282,HU),(289,Np),(296,Nn),(303,Gj),(310,Jh),(317,JF),(351,Lx),(379,Ko),(384,Jg),(358,Km),(391,Je),(405,HW),(410,Gk),(614,QP),(619,Jf),(633,Jc),(638,QM),(651,Kn),(658,No),(665,Lu),(165,Ja),(172,J9),(179,Jb),(186,JC),(193,IA),(200,JB),(263,J7),(429,Ki),(450,Hz),(471,Lp),(478,J8),(499,Lr),(504,Lq),(518,HR),(532,Lo),(539,HT),(546,Kl),(553,Nm),(567,Kj),(574,HS),(581,Kk)]
noncomputable def FT(a:Nat):Option Fn:=Xw.lookup a
noncomputable def CTL:List (Nat×Cl):=[(203,⟨165,[(52,172),(53,179),(54,186),(55,193),(56,200)]⟩),(266,⟨263,[]⟩),(432,⟨429,[]⟩),(453,⟨450,[]⟩),(596,⟨471,[(34,478),(37,499),(38,504),(40,518),(42,532),(43,539),(44,546),(45,553),(47,567),(48,574),(49,581)]⟩)]
noncomputable def CT(a:Nat):Option Cl:=CTL.lookup a
theorem Wh:CT 203=some ⟨165,[(52,172),(53,179),(54,186),(55,193),(56,200)]⟩:=rfl
theorem VH:CT 266=some ⟨263,[]⟩:=rfl
noncomputable def NM:Names:=⟨[
 (Str.ofString "DIGITS",(.str [48,49,50,51,52,53,54,55,56,57,65,66,67,68,69,70])),
 (Str.ofString "SIGNS_OF_TWO",(.tup [(.str [60,62]),(.str [60,61]),(.str [62,61])])),
 (Str.ofString "SIGNS",(.str [43,45,42,47,40,41,44,61,60,62,58,36])),
 (Str.ofString "QUOTES",(.str [39,34])),
 (Str.ofString "LEVELS",(.tup [(.tup [(.str [79,82]),(.str [88,79,82])]),(.tup [(.str [65,78,68])]),(.tup [(.str [69,81]),(.str [78,69]),(.str [76,84]),(.str [76,69]),(.str [71,84]),(.str [71,69]),(.str [61]),(.str [60,62]),(.str [60]),(.str [60,61]),(.str [62]),(.str [62,61])]),(.tup [(.str [43]),(.str [45])]),(.tup [(.str [42]),(.str [47]),(.str [77,79,68]),(.str [83,72,76]),(.str [83,72,82])])])),
 (Str.ofString "UNARY",(.tup [(.str [43]),(.str [45]),(.str [78,79,84]),(.str [72,73,71,72]),(.str [76,79,87])])),
 (Str.ofString "MOST_DEPTH",(.int 12)),
 (Str.ofString "REGISTERS",(.tup [(.str [66]),(.str [67]),(.str [68]),(.str [69]),(.str [72]),(.str [76]),(.str [65]),(.str [70]),(.str [73]),(.str [82]),(.str [73,88,72]),(.str [73,88,76]),(.str [73,89,72]),(.str [73,89,76])])),
 (Str.ofString "PAIRS",(.tup [(.str [66,67]),(.str [68,69]),(.str [72,76]),(.str [83,80]),(.str [65,70]),(.str [65,70,39]),(.str [73,88]),(.str [73,89])])),
 (Str.ofString "CONDITIONS",(.tup [(.str [78,90]),(.str [90]),(.str [78,67]),(.str [80,79]),(.str [80,69]),(.str [80]),(.str [77])])),
 (Str.ofString "MOST_NESTED",(.int 8)),
 (Str.ofString "MOST_ROWS",(.int 4000)),
 (Str.ofString "OCTETS",(.tup [(.str [68,66]),(.str [68,69,70,66]),(.str [68,69,70,77])])),
 (Str.ofString "WORDS",(.tup [(.str [68,87]),(.str [68,69,70,87])])),
 (Str.ofString "ROOM",(.tup [(.str [68,83]),(.str [68,69,70,83])])),
 (Str.ofString "AGAIN",(.tup [(.str [83,69,84]),(.str [68,69,70,76]),(.str [61])])),
 (Str.ofString "FAR",(.tup [(.str [74,82]),(.str [68,74,78,90])])),
 (Str.ofString "_law_macros",(.lst [(.lst [(.str [66,89,84,69,32,77,65,67,82,79,32,72,44,66]),(.str [32,84,69,76,76,32,49,48,72,44,49,48,49,66,44,72,44,66]),(.str [32,69,78,68,77])]),(.lst [(.str [72,69,88,32,77,65,67,82,79,32,65]),(.str [32,84,69,76,76,32,36,65,44,65,44,48,65,48,72,44,37,49]),(.str [32,69,78,68,77])]),(.lst [(.str [83,87,65,80,32,77,65,67,82,79,32,80,44,81,44,78]),(.str [32,84,69,76,76,32,80,44,81,44,78]),(.str [32,69,78,68,77])]),(.lst [(.str [72,65,78,68,32,77,65,67,82,79,32,78]),(.str [32,83,87,65,80,32,65,70,44,97,102,39,44,78]),(.str [32,69,78,68,77])]),(.lst [(.str [77,65,75,69,82,32,77,65,67,82,79,32,78]),(.str [32,84,69,76,76,32,78]),(.str [73,78,78,69,82,32,77,65,67,82,79,32,77]),(.str [32,76,79,67,65,76,32,76]),(.str [76,58,32,84,69,76,76,32,77,44,78]),(.str [32,84,69,76,76,32,76]),(.str [32,69,78,68,77]),(.str [32,69,78,68,77])])])),
 (Str.ofString "is_name_begin",(.fn 62)),
 (Str.ofString "is_figure",(.fn 69)),
 (Str.ofString "is_name_part",(.fn 76)),
 (Str.ofString "capital",(.fn 81)),
 (Str.ofString "run_end",(.fn 88)),
 (Str.ofString "digits_value",(.fn 95)),
 (Str.ofString "number_of",(.fn 102)),
 (Str.ofString "number_at",(.fn 116)),
 (Str.ofString "is_prefixed",(.fn 123)),
 (Str.ofString "token_at",(.fn 130)),
 (Str.ofString "tokens_of",(.fn 137)),
 (Str.ofString "is_sign",(.fn 144)),
 (Str.ofString "expression_of",(.fn 221)),
 (Str.ofString "value_of",(.fn 249)),
 (Str.ofString "numbered_rows",(.fn 275)),
 (Str.ofString "is_label_ahead",(.fn 282)),
 (Str.ofString "read_row",(.fn 289)),
 (Str.ofString "atom_end",(.fn 296)),
 (Str.ofString "split_arguments",(.fn 303)),
 (Str.ofString "tail_behind",(.fn 310)),
 (Str.ofString "put_in_names",(.fn 317)),
 (Str.ofString "pieces_of",(.fn 351)),
 (Str.ofString "operand_of",(.fn 379)),
 (Str.ofString "operands_of",(.fn 384)),
 (Str.ofString "is_wrapped",(.fn 358)),
 (Str.ofString "known_value",(.fn 391)),
 (Str.ofString "worked_operand",(.fn 405)),
 (Str.ofString "worked_operands",(.fn 410)),
 (Str.ofString "word_of",(.fn 614)),
 (Str.ofString "local_names",(.fn 619)),
 (Str.ofString "assemble_by",(.fn 633)),
 (Str.ofString "code_of",(.fn 638)),
 (Str.ofString "_law_strewn",(.fn 651)),
 (Str.ofString "_law_tell",(.fn 658)),
 (Str.ofString "_law_calls",(.fn 665))],
 [(Str.ofString "Reader",203),(Str.ofString "AsmRow",266),(Str.ofString "Macro",432),(Str.ofString "Assembly",453),(Str.ofString "Pass",596)]⟩
end STab
section SFacts
open PySem PySem.W PySem.Calls PyProof.Rows
theorem Dt{α:Type}:∀{l:List (Nat×α)} {x:Nat} {a:α},l.lookup x=some a→(x,a)∈l
 | (y,b)::r,x,a,h=>by
  rw[List.lookup_cons] at h;split at h
  ·rename_i q;cases h;rw[beq_iff_eq.mp q];exact .head _
  ·exact .tail _ (Dt h)
noncomputable def IF(K:Frag)(a:Nat):FuncData:=match K.lookup a with
 | some ⟨_,_,.func fd,_⟩=>fd
 | _=>default
noncomputable def cX(K:Frag)(a:Nat):Array (Option Value):=match K.lookup a with
 | some o=>o.slots
 | _=>#[]
noncomputable def Rz:FuncBody→List Stmt
 | .stmts b=>b
 | _=>[]
noncomputable def Vh(K:Frag)(N:Names)(a:Nat)(fd:FuncData)(ps:List Arg):Option Obj×Bool×Bool×List S×Nat×Nat :=
 (some ⟨.type "function",none,.func (fnOf fd.name fd.qualname ⟨[],ps,none,[],[],none,[]⟩ (Rz fd.body) fd.scope .none fd.kwdefaults fd.doc fd.pyModule fd.annotations fd.code fd.closureTuple),cX K a⟩,true,true,
  trSs N fd.scope.names (Rz fd.body),ps.length,fd.scope.names.length)
theorem UY{K:Frag}{N:Names}{a:Nat}{f:Fn}(h:(K.lookup a,codeIn K (IF K a).code (IF K a).qualname,Mn ((IF K a).params.args.map (·.arg)) (IF K a).scope,f.body,f.np,f.ns)=Vh K N a (IF K a) (IF K a).params.args):FnOk K N a f:=by unfold Vh at h;simp only[Prod.mk.injEq] at h;exact⟨_,_,_,_,_,_,_,_,_,_,_,_,_,_,h.1,h.2.1,h.2.2.1,h.2.2.2.1,h.2.2.2.2.1,h.2.2.2.2.2⟩
noncomputable def V7(K:Frag)(C:Nat)(cl:Cl):Bool :=
 makesIn K C&&(findIn K (.ref C) "__init__"==some (some (.ref cl.init)))&&(typeIn K (.ref cl.init)==some (.type "function"))&&plainGet K C ""&&hasDictIn K C &&
 (findIn K (.ref C) "__setattr__"==some (some (.builtin "object.__setattr__")))&&plainOver K C&&keepIn K (.ref C) &&
 ((List.range 27).all fun k=>match findIn K (.ref C) (CY (k+7)) with
  | some attr=>noGet K attr&&(takerIn K C (CY (k+7))==some none)
  | none=>false) &&
 cl.meths.all fun x=>decide (x.1<NT.length)&&(findIn K (.ref C) (CY x.1)==some (some (.ref x.2)))&&(typeIn K (.ref x.2)==some (.type "function"))&&keepIn K (.ref x.2)
theorem UP{K:Frag}{C:Nat}{cl:Cl}(h:V7 K C cl=true):ClsOk K C cl:=by
 unfold V7 at h;simp only[Bool.and_eq_true,beq_iff_eq,List.all_eq_true,decide_eq_true_eq] at h;rfl';obtain⟨⟨⟨⟨⟨⟨⟨⟨⟨h1,h2⟩,h3⟩,h4⟩,h5⟩,h6⟩,h7⟩,h8⟩,h9⟩,h10⟩:=h;refine⟨h1,h2,h3,h4,h5,h6,h7,h8,fun f hf=>?_,fun f g hm=>?_⟩
 ·unfold Am at hf;have hf:=Bool.and_eq_true_iff.mp hf;have f1:=Nat.le_of_ble_eq_true hf.1;have f2:=Nat.le_of_ble_eq_true hf.2;have z:=h9 (f - 7) (List.mem_range.mpr (by clear h1 h2 h3 h4 h5 h6 h7 h8 h9 h10;exact p53 f2))
  rw[Nat.sub_add_cancel f1] at z;rfl';split at z
  ·rename_i attr q;have z:=Bool.and_eq_true_iff.mp z;exact⟨attr,q,z.1,beq_iff_eq.mp z.2⟩
  ·cases z
 ·have z:=h10 _ (Dt hm);exact⟨z.1.1.1,z.1.1.2,z.1.2,z.2⟩
theorem VZ(P:Params):(Xw.map fun x=>((KH P).lookup x.1,codeIn (KH P) (IF (KH P) x.1).code (IF (KH P) x.1).qualname,Mn ((IF (KH P) x.1).params.args.map (·.arg)) (IF (KH P) x.1).scope,x.2.body,x.2.np,x.2.ns))=Xw.map fun x=>Vh (KH P) NM x.1 (IF (KH P) x.1) (IF (KH P) x.1).params.args:=by kernel_rfl
theorem XW(P:Params):∀ a f,FT a=some f→FnOk (KH P) NM a f:=fun a f h=>by have z:=List.map_inj_left.mp (VZ P) (a,f) (Dt h);dsimp only at z;exact @UY (KH P) NM a f z
theorem VY(P:Params):(CTL.all fun x=>V7 (KH P) x.1 x.2)=true:=by kernel_rfl
theorem XV(P:Params):∀ C cl,CT C=some cl→ClsOk (KH P) C cl:=fun C cl h=>by have z:=List.all_eq_true.mp (VY P) (C,cl) (Dt h);dsimp only at z;exact @UP (KH P) C cl z
end SFacts
section SFactsG
open PySem PySem.W PySem.Calls PyProof.Rows
noncomputable def XD:Value→Bool
 | .none=>true
 | _=>false
noncomputable def VL:Value→Option Int
 | .int j _=>some j
 | _=>none
noncomputable def P8:Value→Option Str
 | .str x _=>some x
 | _=>none
noncomputable def Eu:Value→Option Addr
 | .ref b=>some b
 | _=>none
theorem U8{rv:Value}(h:XD rv=true):rv=.none:=by cases (rv)<;>first | rfl | exact EE h
theorem Sj{rv:Value}{i:Int}(h:VL rv=some i):∃ t,rv=.int i t:=by cases (rv)<;>first | exact AI h | exact B8 h fun z=>⟨_,by rw[z]⟩
theorem Ta{rv:Value}{i:Str}(h:P8 rv=some i):∃ t,rv=.str i t:=by cases (rv)<;>first | exact AI h | exact B8 h fun z=>⟨_,by rw[z]⟩
theorem Gx{rv:Value}{b:Addr}(h:Eu rv=some b):rv=.ref b:=by cases (rv)<;>first | exact AI h | exact B8 h fun z=>by rw[z]
noncomputable def W2:Value→Option String
 | .type c=>some c
 | _=>none
theorem VE{rv:Value}{b:String}(h:W2 rv=some b):rv=.type b:=by cases (rv)<;>first | exact AI h | exact B8 h fun z=>by rw[z]
noncomputable def Kt(o:Obj):Option (Array Value):=match o.data with
 | .seq items _=>some items
 | _=>none
theorem Nz{o:Obj}{l:Array Value}(h:Kt o=some l):∃ n,o.data=.seq l n:=by unfold Kt at h;generalize o.data=d at h ⊢;cases (d)<;>first | exact AI h | exact B8 h fun z=>⟨_,by rw[z]⟩
noncomputable def Hq(K:Frag)(cn:String)(b:Addr):Option (Array Value):=match K.lookup b with
 | none=>none
 | some o=>match decide (W2 o.cls=some cn) with
  | true=>Kt o
  | false=>none
theorem Mo{K:Frag}{B:Heap}(X:K.In B){cn:String}{b:Addr}{l:Array Value}(h:Hq K cn b=some l):∃ o,B.get? b=some o∧o.cls=.type cn∧∃ n,o.data=.seq l n:=by
 unfold Hq at h;rfl';generalize q:K.lookup b=o at h;cases o with
 | none=>exact AI h
 | some o =>
  dsimp only at h;generalize g:decide (W2 o.cls=some cn)=c at h;cases c with
  | false=>exact AI h
  | true=>exact Pf o (X _ _ q) (VE (of_decide_eq_true g)) (Nz h)
mutual
noncomputable def Xp(K:Frag):Nat→V→Value→Bool
 | 0,_,_=>false
 | n+1,v,rv=>match v with
  | .none=>XD rv
  | .int i=>decide (VL rv=some i)
  | .str s=>match P8 rv with
   | some x=>x==AR s
   | none=>false
  | .fn a=>match Eu rv with
   | some b=>Nat.beq a b
   | none=>false
  | .tup xs=>match (Eu rv).bind (Hq K "tuple") with
   | some l=>vsIn K n xs l.toList
   | none=>false
  | .lst xs=>match (Eu rv).bind (Hq K "list") with
   | some l=>vsIn K n xs l.toList
   | none=>false
  | _=>false
noncomputable def vsIn(K:Frag):Nat→List V→List Value→Bool
 | 0,_,_=>false
 | n+1,vs,rvs=>match vs with
  | []=>rvs.isEmpty
  | v::vs=>match rvs with
   | []=>false
   | r::rs=>Xp K n v r&&vsIn K n vs rs
end
theorem W3{K:Frag}{B:Heap}(X:K.In B):∀ n,(∀ v rv,Xp K n v rv=true→BM B no (fun _=>0) 0 v rv)∧(∀ vs rvs,vsIn K n vs rvs=true→VRels B no (fun _=>0) 0 vs rvs):=by
 intro n
 induction n with
 | zero=>exact⟨fun _ _ h=>EE h,fun _ _ h=>EE h⟩
 | succ n ih =>
  refine J1 ih fun ih1 ih2=>?_;clear ih;constructor
  ·intro v rv h;rfl';cases v with
   | none=>exact U8 h
   | int i=>exact Sj (of_decide_eq_true h)
   | str s =>
    have h:(match P8 rv with | some x=>x==AR s | none=>false)=true:=h
    generalize q:P8 rv=o at h;cases o with
    | none=>exact EE h
    | some x=>rw[beq_iff_eq.mp h] at q;exact Ta q
   | fn a =>
    have h:(match Eu rv with | some b=>Nat.beq a b | none=>false)=true:=h
    generalize q:Eu rv=o at h;cases o with
    | none=>exact EE h
    | some x=>rw[← Nat.eq_of_beq_eq_true h] at q;exact Gx q
   | tup xs =>
    have h:(match (Eu rv).bind (Hq K "tuple") with | some l=>vsIn K n xs l.toList | none=>false)=true:=h
    generalize q:(Eu rv).bind (Hq K "tuple")=o at h
    cases o with
    | none=>exact EE h
    | some l=>obtain⟨b,q1,q2⟩:=Option.bind_eq_some_iff.mp q;obtain⟨o,h1,h2,h3⟩:=Mo X q2;exact NF b l.toList (Gx q1) (fun z=>z) ⟨o,h1,h2,h3⟩ (ih2 _ _ h)
   | lst xs =>
    have h:(match (Eu rv).bind (Hq K "list") with | some l=>vsIn K n xs l.toList | none=>false)=true:=h
    generalize q:(Eu rv).bind (Hq K "list")=o at h
    cases o with
    | none=>exact EE h
    | some l=>obtain⟨b,q1,q2⟩:=Option.bind_eq_some_iff.mp q;obtain⟨o,h1,h2,h3⟩:=Mo X q2;exact NF b l.toList (Gx q1) (fun z=>z) ⟨o,h1,h2,h3⟩ (ih2 _ _ h)
   | _=>exact EE h
  ·intro vs rvs h;cases vs with
   | nil=>exact List.isEmpty_iff.mp h
   | cons v vs=>cases rvs with
    | nil=>exact EE h
    | cons r rs=>exact Ci h fun h1 h2=>⟨_,_,rfl,ih1 _ _ h1,ih2 _ _ h2⟩
noncomputable def EM(o:Obj):Option (Array DictEntry):=match o.data with
 | .dict es _=>some es
 | _=>none
theorem Kh{o:Obj}{es:Array DictEntry}{ep:Nat}(h:o.data=.dict es ep):EM o=some es:=by unfold EM;rw[h]
noncomputable def GV(K:Frag)(x:Str):Option Value:=((K.lookup mainGlobals).bind EM).bind fun es=>nsFind es x
noncomputable def PG(K:Frag):Bool:=((K.lookup mainGlobals).bind EM).isSome
theorem Qn{K:Frag}{B:Heap}{mg:Str→Option Value}(X:K.In B)(n:B.Ns mainGlobals mg)(hm:PG K=true)(x:Str):mg x=GV K x:=by rfl';obtain⟨es,he⟩:=Option.isSome_iff_exists.mp hm;refine x34 n fun o es' ep' ho hd _ hf=>?_;clear n;refine BA (Option.bind_eq_some_iff.mp he) fun o' h1 h2=>?_;have z:o=o':=Option.some.inj (ho.symm.trans (X _ _ h1));have z2:es'=es:=Option.some.inj ((Kh (z▸hd)).symm.trans h2);show mg x=((K.lookup mainGlobals).bind EM).bind fun es=>nsFind es x;rw[he,← z2];exact(hf x).symm
noncomputable def Nw(K:Frag):List (Str×V)→Bool
 | []=>true
 | (x,v)::r=>(match GV K x with | some rv=>Xp K 40 v rv | none=>false)&&Nw K r
theorem QV{K:Frag}:∀{l:List (Str×V)} {x:Str} {v:V},Nw K l=true→(x,v)∈l→∃ rv,GV K x=some rv∧Xp K 40 v rv=true:=by
 intro l
 induction l with
 | nil=>exact fun _ hm=>absurd hm List.not_mem_nil
 | cons p r ih =>
  intro x v h hm;obtain⟨y,u⟩:=p;refine Ci h fun h1 h2=>(List.mem_cons.mp hm).elim (fun z=>Kz z fun a b=>?_) (ih h2);rw[← a,← b];clear hm z h a b;generalize GV K y=o at h1 ⊢;cases o with
  | none=>exact EE h1
  | some rv=>exact Ft rv rfl h1
noncomputable def Na(K:Frag):List (Str×Nat)→Bool
 | []=>true
 | (x,a)::r=>(match (GV K x).bind Eu with | some b=>Nat.beq a b | none=>false)&&Na K r
theorem SP{K:Frag}:∀{l:List (Str×Nat)} {x:Str} {a:Nat},Na K l=true→(x,a)∈l→GV K x=some (.ref a):=by
 intro l
 induction l with
 | nil=>exact fun _ hm=>absurd hm List.not_mem_nil
 | cons p r ih =>
  intro x a h hm;obtain⟨y,u⟩:=p;refine Ci h fun h1 h2=>(List.mem_cons.mp hm).elim (fun z=>Kz z fun c d=>?_) (ih h2);rw[← c,← d];clear hm z h c d;generalize q:(GV K y).bind Eu=o at h1;cases o with
  | none=>exact EE h1
  | some b=>refine BA (Option.bind_eq_some_iff.mp q) fun w h3 h4=>?_;rw[h3,Gx h4,Nat.eq_of_beq_eq_true h1]
theorem Wa{α:Type}{P:Prop}{c:Bool}{a b:α}{r:Option α}(h:(if c=true then some a else r)=some b)(h1:c=true→b=a→P)(h2:r=some b→P):P:=by
 cases c with
 | true=>exact B8 h (h1 rfl)
 | false=>exact h2 h
theorem UF{P:Str→BI→Prop}{x:Str}{b:BI}(h:Pm x=some b)(h1:P "len" .len) (h2:P "ord" .ord) (h3:P "chr" .chr) (h4:P "str" .str) (h5:P "int" .int) (h6:P "abs" .abs):P x b :=
 have go:∀{y:Str} {k:BI},P y k→(x==y)=true→b=k→P x b:=fun h q z=>by rw[beq_iff_eq.mp q,z];exact h
 Wa h (go h1) fun h=>Wa h (go h2) fun h=>Wa h (go h3) fun h=>Wa h (go h4) fun h=>Wa h (go h5) fun h=>Wa h (go h6) AI
theorem Se{p:Program}{loose:List Str}{mean:ExcName→Option Value}{mg mb:Str→Option Value}{B:Heap}{P:Params}(T:Top p loose mean mg mb B)(X:(KH P).In B)(hmods:∃ o,B.get? sysModules=some o):Globs B NM mg mb:=by
 have hm:PG (KH P)=true:=by kernel_rfl
 have hg:Nw (KH P) NM.globs=true:=by kernel_rfl
 have hc:Na (KH P) NM.classes=true:=by kernel_rfl
 have main:=Qn X T.g hm
 have boot:∀ x:Str,x≠"__name__"→mb x=bootBuiltins x:=T.builtins
 refine⟨hmods,T.g,T.b,T.nolimit,fun x v hv=>?_,fun x C hn hC=>?_,fun x b hn hC hb=>?_,?_,?_,by kernel_rfl⟩
 ·refine BA (QV hg (Cq hv)) fun rv h1 h2=>?_;exact Ft rv ((main x).trans h1) ((W3 X 40).1 v rv h2)
 ·exact(main x).trans (SP hc (Cq hC))
 ·clear hn hC;refine UF (P:=fun x b=>mg x=none∧mb x=some (Oq b)) hb ?_ ?_ ?_ ?_ ?_ ?_
  all_goals exact⟨(main _).trans (by kernel_rfl),(boot _ (by decide)).trans (by kernel_rfl)⟩
 ·exact⟨(main _).trans (by kernel_rfl),(boot _ (by decide)).trans (by kernel_rfl)⟩
 ·exact⟨(main _).trans (by kernel_rfl),(boot _ (by decide)).trans (by kernel_rfl)⟩
end SFactsG
section SJoin
open PySem PySem.W PySem.Calls PyProof.Rows
noncomputable def Ub(ns:List Int):AG:=[some (.lst (ns.map .int)),none,none,none,none,none,none,none,none]
noncomputable def IQ:Prop:=∀ ns:List Int,ns.length≤63→∃ μ st,exs CT (AP CT FT 60) (Ub ns) ⟨[],0,0⟩ Rt=some ((.ret (.bool true),μ),st)
theorem MJ{h:Heap}{own:Addr→Prop}{ρ:Nat→Addr}{k:Nat}:∀{vs:List Value} {ns:List Int},IntsAre vs ns→VRels h own ρ k (ns.map .int) vs
 | _,_,.nil=>rfl
 | _,_,.cons _ _ r=>⟨_,_,rfl,⟨_,rfl⟩,MJ r⟩
theorem So{w:World}{prog:Program}{p:Program}{loose:List Str}{mean:ExcName→Option Value}{mg mb:Str→Option Value}{B h₁:Heap}{s:Shared}{L ax:Addr}{vs:List Value}{ns:List Int}{env:Env}{body:List Stmt}{A:Around}{Q:Flow→Shared→Prop}{E:Value→Shared→Prop}
  (hlaw:IQ) (T:Top p loose mean mg mb B) (X:(KH w.params).In B) (himp:importsNone p=true) (hl:B.IsList ax vs.toArray) (hi:IntsAre vs ns) (hn:ns.length≤63) (hs:s.heap=h₁) (hL:L=B.objs.size) (F:Fr B L h₁ fun x=>[(("script":Str),Value.ref ax)].lookup x)
  (hA:AOk 60 A) (eok:EnvOk env env.scope.names) (hlL:env.locals=L) (htr:trSs NM env.scope.names body=Rt) (hslot:∀ x i,CX env.scope.names x=some i→i=0→x="script") (hkind:env.scope.names.lookup ("script":Str)=some .local)
  (y:∀ h' tk m,Fr B L h' m→Q (.ret (.bool true)) { s with heap:=h',toks:=tk }):wpAny (model prog w) A (execs body env) Q E s:=by
 have G:=Se T X (let ⟨_,⟨o,_,_,e,_⟩,_⟩:=(T.seer himp).mods;⟨o,e⟩)
 rfl';refine NK (hlaw ns hn) fun μ st e=>?_;subst hL
 let c:Cfg:=⟨h₁,fun a=>a=B.objs.size,fun _=>0,fun _=>0,⟨[],0,0⟩⟩
 have hnone:∀ i o,c.st.get i=some o→False:=fun i o e=>by
  have:c.st.get i=none:=by show(([]:List (Option O))[i]?).join=none;simp
  cases e
 have hown:∀ a,c.own a→a=B.objs.size:=fun a f=>f.elim id fun⟨i,o,e,_⟩=>(hnone i o e).elim;have sim:Sim (prog,w) B c:=by
  refine⟨fun b o e=>⟨F.keep b o e,fun f=>?_⟩,fun i o e=>(hnone i o e).elim,fun i j o o' a e=>(hnone i o e).elim,fun i o e=>(hnone i o e).elim,fun a f=>?_,fun a f ⟨i,o,e,_⟩=>hnone i o e,Nat.le_refl _,Nat.le_refl _,fun a f=>?_⟩
  ·have:=hown b f;subst this;rw[An] at e;cases e
  ·rw[show a=B.objs.size from f];exact PY F.ns
  ·rw[hown a f];exact An _
 have hlt:∃ o,B.get? ax=some o:=let ⟨o,e,_⟩:=hl;⟨o,e⟩
 have hrel:c.R (.lst (ns.map .int)) (.ref ax):=by
  refine NF ax vs rfl (fun f=>?_) ?_ (MJ hi)
  ·obtain⟨o,e⟩:=hlt;rw[hown ax f,An] at e;cases e
  ·refine BA hl fun o e r=>?_;clear hl;exact Ft o (F.keep _ _ e) r
 have a:At (prog,w) B env env.scope.names (Ub ns) c:=by
  refine⟨sim,eok,hlL,_,(by rw[hlL];exact F.ns),fun x i v hx hv=>?_⟩
  have hi0:i=0∧v=.lst (ns.map .int):=by
   match i,hv with
   | 0,hv=>exact⟨rfl,by cases hv;rfl⟩
   | 1,hv=>cases hv
   | 2,hv=>cases hv
   | 3,hv=>cases hv
   | 4,hv=>cases hv
   | 5,hv=>cases hv
   | 6,hv=>cases hv
   | 7,hv=>cases hv
   | 8,hv=>cases hv
   | n+9,hv=>cases hv
  obtain⟨rfl,rfl⟩:=hi0;have:=hslot x 0 hx rfl;subst this;refine Ft (.ref ax) ?_ hrel;unfold BY
  have hk:env.kindOf ("script":Str)=some .local:=by exact hkind
  rw[hk];rfl
 refine NY (K:=KH w.params) G X (XV _) (XW _) 60 body A env env.scope.names (Ub ns) c s (.ret (.bool true)) μ st Q E hA a hs (by rw[htr];exact e) fun c2 tk f p2 q2 a2 r2=>?_
 obtain⟨rv,rfl,r2⟩:=r2;rw[show rv=.bool true from r2]
 refine BA a2.loc fun m hns _=>?_;exact y c2.h tk m ⟨by rw[hlL] at hns;exact hns,fun b o e=>(p2.sim.base b o e).1,Nat.le_refl _⟩
theorem X4{sc:List (Str×NameKind)}{k:NameKind}{r:List (Str×NameKind)}(h:sc=(("script":Str),k)::r):∀ x i,CX sc x=some i→i=0→x="script":=by
 intro x i hx hi;subst hi h;refine BA (Fq hx) fun p h1 h2=>?_;cases (h1);exact h2.symm
theorem NQ(env:Env):AOk 60 (callerA.deeper env):=⟨rfl,by show callerA.depth+1+2*60+1<recursionLimit;decide,by show callerA.units+3+32*60+40<cLine;decide⟩
theorem Sp(hlaw:IQ){q:Program}{loose:List Str}(hq:importsNone q=true):WalkO q loose (XL q []) hookK.says PySem.Challenge.rw_pq1445_01.row.toRowW lawD [] fun f vs=>PySem.call f vs:=by
 intro w s₀ s₁ mg mb G Y fa o pm cd doc dV kV ho hd hcd hD hmg hg args vals as hpre hlay hrd hwl hlo;have KX:(KH w.params).In s₁.heap:=Y
 k_behind G ho hd hcd hD hmg hpre hlay hrd hwl hlo cd
 refine So (ns:=?ns) (vs:=?vs) (ax:=?ax) (h₁:=?h1) hlaw (by assumption) (by assumption) hq (by assumption) (by assumption) (by omega) rfl rfl (by assumption) ?_ ?_ rfl ?_ (X4 rfl) ?_ ?_
 ·exact NQ _
 ·exact⟨rfl,rfl,rfl,rfl,by kernel_rfl,by kernel_rfl⟩
 ·kernel_rfl
 ·kernel_rfl
 ·intro h' tk m F';exact goodW_bool F' (by assumption) (fun _=>rfl) (by first | rfl | kernel_rfl)
theorem law_all(hlaw:IQ):PySem.Challenge.rw_pq1445_01.Holds:=hd (Sp hlaw (by kernel_rfl))
end SJoin
section SL0
open PySem
theorem DK{k s:Txt}{ks:List Txt}{v:V}{vs:List V}:Aq (k::ks) (v::vs) s=(match decide (k=s) with | true=>some v | false=>Aq ks vs s):=rfl
theorem SS{k s:Txt}{ks:List Txt}{v:V}{vs:List V}(h:k=s):Aq (k::ks) (v::vs) s=some v:=by rw[DK,decide_eq_true h]
theorem D7{k s:Txt}{ks:List Txt}{v:V}{vs:List V}(h:¬ k=s):Aq (k::ks) (v::vs) s=Aq ks vs s:=by rw[DK,decide_eq_false h]
theorem HM{k s:Txt}{ks:List Txt}{v x:V}{vs:List V}:AV (k::ks) (v::vs) s x=(match decide (k=s) with | true=>(k::ks,x::vs) | false=>(k::(AV ks vs s x).1,v::(AV ks vs s x).2)):=rfl
theorem Ve{k f:Nat}{ks:List Nat}{v:V}{vs:List V}:DX (k::ks) (v::vs) f=(match Nat.beq k f with | true=>some v | false=>DX ks vs f):=rfl
theorem vvL{α:Type}{P:Prop}{o:Option V}{o':Option (List V)}{F:V→List V→Option α}{r:α}(e:(match o,o' with | some a,some b=>F a b | _,_=>none)=some r)(k:∀ a b,o=some a→o'=some b→F a b=some r→P):P:=by
 cases o with
 | none=>exact AI e
 | some a=>cases o' with
  | none=>exact AI e
  | some b=>exact k a b rfl rfl e
theorem iiL{α:Type}{P:Prop}{o:Option Int}{o':Option (List Int)}{F:Int→List Int→Option α}{r:α}(e:(match o,o' with | some a,some b=>F a b | _,_=>none)=some r)(k:∀ a b,o=some a→o'=some b→F a b=some r→P):P:=by
 cases o with
 | none=>exact AI e
 | some a=>cases o' with
  | none=>exact AI e
  | some b=>exact k a b rfl rfl e
theorem itL{α:Type}{P:Prop}{o:Option (List V)}{F:List V→Option α}{r:α}(e:(match o with | some xs=>F xs | none=>none)=some r)(k:∀ xs,o=some xs→F xs=some r→P):P:=by
 cases o with
 | none=>exact AI e
 | some xs=>exact k xs rfl e
theorem cf{α:Type}{P:Prop}{o:Option Int}{F:Int→Option α}{r:α}(e:(match o with | some x=>F x | none=>none)=some r)(k:∀ x,o=some x→F x=some r→P):P:=by
 cases o with
 | none=>exact AI e
 | some x=>exact k x rfl e
theorem tmL{α:Type}{P:Prop}{o:Option (V×Nat)}{F:V→Nat→Option α}{r:α}(e:(match o with | none=>none | some (t,m)=>F t m)=some r)(k:∀ t m,o=some (t,m)→F t m=some r→P):P:=by
 cases o with
 | none=>exact AI e
 | some p=>exact k p.1 p.2 rfl e
theorem JR{n a:Nat}{vs:List V}{st:St}(f:Fn)(hf:FT a=some f)(hl:decide (vs.length=f.np)=true):AP CT FT (n+1) a vs st =
  (match f.mode with
    | .pure=>Aj (exs CT (AP CT FT n) (vs.map some++List.replicate (f.ns - f.np) none) ⟨st.objs,st.next,st.next⟩ f.body) fun p st'=>Fo (Fv st'.objs st.next 40 (MA p.1)) st
    | .scoped=>Aj (exs CT (AP CT FT n) (vs.map some++List.replicate (f.ns - f.np) none) ⟨st.objs,st.next,st.ro⟩ f.body) fun p st' =>
      Fo (Fv st'.objs st.next 40 (MA p.1)) (st'.cut st.next st.lo st.ro)
    | .open_=>Aj (exs CT (AP CT FT n) (vs.map some++List.replicate (f.ns - f.np) none) st f.body) fun p st'=>some (MA p.1,st')):=by
 show(match FT a with | none=>none | some f=>match decide (vs.length=f.np) with | false=>none | true=>_)=_
 rw[hf];show(match decide (vs.length=f.np) with | false=>none | true=>_)=_
 rw[hl]
 all_goals rfl
theorem Mm{n a:Nat}{vs:List V}{st st':St}{fl:Fl}{μ:AG}{v:V}(np ns:Nat)(b:List S)(hf:FT a=some ⟨np,ns,.pure,b⟩)(hl:decide (vs.length=np)=true)
  (h:exs CT (AP CT FT n) (vs.map some++List.replicate (ns - np) none) ⟨st.objs,st.next,st.next⟩ b=some ((fl,μ),st')) (hz:Fv st'.objs st.next 40 (MA fl)=some v):AP CT FT (n+1) a vs st=some (v,st):=by
 rw[JR _ hf hl];dsimp only;rw[h];unfold Aj;dsimp only;rw[hz];rfl
theorem FX{objs:List (Option O)}{n k:Nat}{v:V}(h:AN v=true):Fv objs n (k+1) v=some v:=by
 show(match AN v with | true=>some v | false=>_)=_
 rw[h]
theorem Db{objs:List (Option O)}{n:Nat}{v:V}(h:AN v=true):Fv objs n 40 v=some v:=FX h
theorem YB{a b:Nat}(h:b≤a):Nat.blt a b=false:=by
 cases q:Nat.blt a b with
 | false=>rfl
 | true=>exact absurd (Nat.le_of_ble_eq_true q) (Nat.not_lt.mpr h)
theorem Gm{objs:List (Option O)}{n0 k:Nat}:frzs objs n0 (k+1) []=some []:=rfl
theorem Bd{objs:List (Option O)}{n0 k:Nat}{v:V}{r:List V}{a:V}{b:List V}(h:Fv objs n0 k v=some a)(h':frzs objs n0 k r=some b):frzs objs n0 (k+1) (v::r)=some (a::b):=by
 show(match Fv objs n0 k v,frzs objs n0 k r with | some a,some b=>some (a::b) | _,_=>none)=_
 rw[h,h']
theorem U1{objs:List (Option O)}{n0 k:Nat}{r b:List V}(hf:AN (.lst r)=false)(h:frzs objs n0 k r=some b):Fv objs n0 (k+1) (.lst r)=some (.lst b):=by
 show(match AN (.lst r) with | true=>some (V.lst r) | false=>(frzs objs n0 k r).map V.lst)=_
 rw[hf,h];rfl
noncomputable def Wy(objs:List (Option O))(n0 k:Nat):Option O→Option V
 | some (.list xs)=>(frzs objs n0 k xs).map V.lst
 | some (.inst c ks vs)=>(frzs objs n0 k vs).map (V.obj c ks)
 | _=>none
theorem Sc{objs:List (Option O)}{n0 i k:Nat}{o:Option O}(h:(objs[i]?).join=o)(hi:n0≤i):Fv objs n0 (k+1) (.ref i)=Wy objs n0 k o:=by
 subst h;show(match Nat.blt i n0 with | true=>some (V.ref i) | false=>Wy objs n0 k (objs[i]?).join)=_
 rw[YB hi]
theorem MC{objs:List (Option O)}{n0 i k c:Nat}{ks:List Nat}{vs ws:List V}(h:(objs[i]?).join=some (.inst c ks vs))(hi:n0≤i)(hf:frzs objs n0 k vs=some ws):Fv objs n0 (k+1) (.ref i)=some (.obj c ks ws) :=
 (Sc h hi).trans (congrArg (Option.map (V.obj c ks)) hf)
theorem C5(a b:Nat):Nat.ble a b=decide (a≤b):=by rw[Bool.eq_iff_iff,Nat.ble_eq,decide_eq_true_eq]
theorem leL(n:Nat)(h:n≤100000):decide (n≤Cs)=true:=decide_eq_true h
theorem Bf(n:Nat)(h:n≤100000):Nat.ble n Cs=true:=Nat.ble_eq▸(show n≤100000 from h)
noncomputable def AW(st:St)(l:List O):St:=⟨st.objs++l.map some,st.lo,st.ro⟩
theorem BJ(st:St):AW st []=st:=by unfold AW;simp
theorem E1(st:St)(l:List O)(o:O):(AW st l).add o=AW st (l++[o]):=by unfold AW St.add;simp
theorem A7(st:St)(l:List O):(AW st l).next=st.next+l.length:=by unfold AW St.next;simp
theorem OF(st:St)(l:List O):(AW st l).lo=st.lo:=rfl
theorem GY(st:St)(l:List O):(AW st l).ro=st.ro:=rfl
theorem BB(st:St)(l:List O)(i:Nat):(AW st l).get (st.next+i)=l[i]?:=by unfold AW St.get St.next;rw[List.getElem?_append_right (Nat.le_add_right _ _),Nat.add_sub_cancel_left,List.getElem?_map];cases (l[i]?)<;>rfl
theorem A0(st:St)(l:List O):(AW st l).get st.next=l[0]?:=BB st l 0
theorem Ak(st:St)(l:List O){i:Nat}(h:i<st.next):(AW st l).get i=st.get i:=by unfold AW St.get;rw[List.getElem?_append_left h]
theorem I4(st:St)(l:List O)(i:Nat)(o:O):(AW st l).put (st.next+i) o=AW st (l.set i o):=by unfold AW St.put St.next;rw[List.set_append_right _ _ (Nat.le_add_right _ _),Nat.add_sub_cancel_left,List.map_set]
theorem EQ(st:St)(l:List O)(o:O):(AW st l).put st.next o=AW st (l.set 0 o):=I4 st l 0 o
theorem L0(st:St)(l:List O)(i:Nat)(v:V)(h1:st.lo≤st.next)(h2:st.ro≤st.next):(AW st l).wr (st.next+i) v=true:=by unfold St.wr;rw[C5,C5,OF,GY,decide_eq_true (Nat.le_trans h2 (Nat.le_add_right _ _)),decide_eq_true (Nat.le_trans h1 (Nat.le_add_right _ _))];rfl
theorem Pc(st:St)(l:List O)(v:V)(h1:st.lo≤st.next)(h2:st.ro≤st.next):(AW st l).wr st.next v=true:=L0 st l 0 v h1 h2
noncomputable def inner(st:St):St:=⟨st.objs,st.next,st.next⟩
theorem C9(st:St):(inner st).lo≤(inner st).next:=Nat.le_refl _
theorem Bc(st:St):(inner st).ro≤(inner st).next:=Nat.le_refl _
theorem QT{objs:List (Option O)}{n0:Nat}:∀{vs:List V} {k:Nat},refFrees vs=true→vs.length<k→frzs objs n0 k vs=some vs:=by
 intro q1_
 induction q1_ with
 | nil =>
  intro q2_;cases q2_ with
  | zero=>intro _ h;exact absurd h (Nat.not_lt_zero _)
  | succ q3_=>intro _ _;exact rfl
 | cons v vs ih_ =>
  intro q4_;cases q4_ with
  | zero=>intro _ h;exact absurd h (Nat.not_lt_zero _)
  | succ q5_ =>
   cases q5_ with
   | zero=>intro _ h;exact absurd (Nat.lt_of_succ_lt_succ h) (Nat.not_lt_zero _)
   | succ k=>intro h hk;exact Bd (FX (Bool.and_eq_true_iff.mp h).1) (ih_ (Bool.and_eq_true_iff.mp h).2 (Nat.lt_of_succ_lt_succ hk))
theorem IU{objs:List (Option O)}{n0 i k:Nat}{xs:List V}(h:(objs[i]?).join=some (.list xs))(hi:n0≤i)(hf:refFrees xs=true)(hk:xs.length<k):Fv objs n0 (k+1) (.ref i)=some (.lst xs) :=
 (Sc h hi).trans (congrArg (Option.map V.lst) (QT hf hk))
theorem Sb{st:St}{l:List O}{i:Nat}{xs:List V}(hi:l[i]?=some (.list xs))(h:refFrees xs=true)(hk:xs.length<39):Fv (AW st l).objs st.next 40 (.ref (st.next+i))=some (.lst xs):=IU ((BB st l i).trans hi) (Nat.le_add_right _ _) h hk
theorem HX{st:St}{l:List O}{xs:List V}(hi:l[0]?=some (.list xs))(h:refFrees xs=true)(hk:xs.length<39):Fv (AW st l).objs st.next 40 (.ref st.next)=some (.lst xs):=Sb (i:=0) hi h hk
end SL0
section SWk
open PySem
inductive H where
 | v {f:St→Option V} {a:V} (h:∀ s,f s=some a)
 | o {x:Option V} {a:V} (h:x=some a)
 | p {f:St→M V} {a:V} (h:∀ s,f s=some (a,s))
 | m {x:M V} {a:V} {s:St} (h:x=some (a,s))
 | c {f:St→Option Bool} {b:Bool} (h:∀ s,f s=some b)
 | o1 {x:Option Bool} {b:Bool} (h:x=some b)
 | u {x:M Unit} {s:St} (h:x=some ((),s))
 | f {x:M (Fl×AG)} {r:Fl×AG} {s:St} (h:x=some (r,s))
 | r {x:M (Fl×AG)} {r:Fl×AG} {s:St} (h:x=some (r,s))
 | l {x:M (List V)} {a:List V} {s:St} (h:x=some (a,s))
 | i {x:Option (List V×V)} {a:List V×V} (h:x=some a)
 | br {b c:Bool} (h:b=c)
 | gu {b:Bool} (h:b=true)
 | mo {x r:Option Nat} (h:x=r)
 | al {st:St} {o:O} {i:Nat} {st':St} (h:st.next=i∧st.add o=st')
 | st {s s':St} (h:s=s')
 | w {a b:V} (h:a=b)
 | e {f:St→M V} {a:V} (h:∀ s,f s=some (a,s))
 | go
 | sk
 | nb
 | nv
 | nc
inductive Q where
 | v (f:St→Option V)
 | o (x:Option V)
 | p (f:St→M V)
 | m (x:M V)
 | c (f:St→Option Bool)
 | o1 (x:Option Bool)
 | u (x:M Unit)
 | f (x:M (Fl×AG))
 | r (x:M (Fl×AG))
 | l (x:M (List V))
 | i (x:Option (List V×V))
 | br (b:Bool)
 | gu (b:Bool)
 | mo (x:Option Nat)
 | al (st:St) (o:O)
 | st (s:St)
 | w (a:V)
 | e (f:St→M V)
 | go
 | sk
 | nb
 | nv
 | nc
noncomputable def key:H→Q
 | .v (f:=f) _=>.v f
 | .o (x:=x) _=>.o x
 | .p (f:=f) _=>.p f
 | .m (x:=x) _=>.m x
 | .c (f:=f) _=>.c f
 | .o1 (x:=x) _=>.o1 x
 | .u (x:=x) _=>.u x
 | .f (x:=x) _=>.f x
 | .r (x:=x) _=>.r x
 | .l (x:=x) _=>.l x
 | .i (x:=x) _=>.i x
 | .br (b:=b) _=>.br b
 | .gu (b:=b) _=>.gu b
 | .mo (x:=x) _=>.mo x
 | .al (st:=st) (o:=o) _=>.al st o
 | .st (s:=s) _=>.st s
 | .w (a:=a) _=>.w a
 | .e (f:=f) _=>.e f
 | .go=>.go
 | .sk=>.sk
 | .nb=>.nb
 | .nv=>.nv
 | .nc=>.nc
noncomputable def YM:H→Bool
 | .go=>true
 | _=>false
noncomputable abbrev OM(α:Type):=List H→List Q→Option (α×List H×List Q)
noncomputable def AT{α:Type}(o:OM α)(x:Option α):Prop:=∀ hs acc a hs' acc',o hs acc=some (a,hs',acc') →
 ∃ us qs,hs=us++hs'∧acc'=qs.reverse++acc∧qs.length=us.length∧(qs=us.map key→x=some a)
noncomputable def FH{α:Type}(x:Option α):OM α:=fun hs acc=>match x with
 | some a=>some (a,hs,acc)
 | none=>none
noncomputable def NH{α β:Type}(o:OM α)(k:α→OM β):OM β:=fun hs acc=>match o hs acc with
 | some (a,hs',acc')=>k a hs' acc'
 | none=>none
noncomputable def Cm{α β:Type}(o:OM (α×St))(k:α→St→OM β):OM β:=fun hs acc=>match o hs acc with
 | some ((a,s),hs',acc')=>k a s hs' acc'
 | none=>none
noncomputable def pt{α:Type}(EP:H→Option (α×Q))(x:Option α):OM α:=fun hs acc=>match hs with
 | []=>FH x [] acc
 | h::r=>match EP h with
  | some (a,q)=>some (a,r,q::acc)
  | none=>match YM h with
   | true=>FH x r (.go::acc)
   | false=>FH x (h::r) acc
theorem Qy{α:Type}{k:Q}{x:Option α}(a:α)(q:Q)(e:(none:Option (α×Q))=some (a,q))(_:q=k):x=some a:=nomatch e
theorem AT.re{α:Type}(x:Option α):AT (FH x) x:=by
 intro hs acc a hs' acc' e;cases x with
 | none=>cases e
 | some b=>cases e;exact NF [] [] rfl rfl rfl (fun _=>rfl)
theorem AT.cons{α:Type}{o:OM α}{x:Option α}(h:AT o x){h0:H}{q:Q}{r:List H}{acc:List Q}{a:α}{hs':List H}{acc':List Q}(e:o r (q::acc)=some (a,hs',acc')) :
  ∃ us qs,h0::r=us++hs'∧acc'=qs.reverse++acc∧qs.length=us.length∧(qs=us.map key→x=some a):=by
 refine Ie (h _ _ _ _ _ e) fun us qs e1 e2 e3 e4=>?_;refine NF (h0::us) (q::qs) (by rw[e1];rfl) (by rw[e2,List.reverse_cons,List.append_assoc];rfl) (by rw[List.length_cons,List.length_cons,e3]) (fun z=>e4 ?_)
 exact(List.cons.inj z).2
theorem AT.pt{α:Type}{EP:H→Option (α×Q)}{x:Option α}(hp:∀ h a q,EP h=some (a,q)→q=key h→x=some a):AT (Mine.pt EP x) x:=by
 intro hs acc a hs' acc' e;unfold Mine.pt at e;rfl';cases hs with
 | nil=>exact AT.re x _ _ _ _ _ e
 | cons h r =>
  dsimp only at e;cases q:EP h with
  | some p=>obtain⟨b,k⟩:=p;rw[q] at e;cases e;exact NF [h] [k] rfl rfl rfl (fun z=>hp h _ k q (List.cons.inj z).1)
  | none =>
   rw[q] at e;dsimp only at e;refine bT e (fun e g=>?_) (fun e g=>?_)
   ·exact(AT.re x).cons e
   ·exact AT.re x _ _ _ _ _ e
theorem AT.chain{α β:Type}{o:OM α}{x:Option α}{hs hs1 hs2:List H}{acc acc1 acc2:List Q}{a:α}{b:β}{y:Option β}{k:OM β}{f:α→Option β}(h:AT o x)(g:AT k (f a))(e1:o hs acc=some (a,hs1,acc1))(e2:k hs1 acc1=some (b,hs2,acc2))(hy:x=some a→f a=some b→y=some b) :
  ∃ us qs,hs=us++hs2∧acc2=qs.reverse++acc∧qs.length=us.length∧(qs=us.map key→y=some b):=by
 rfl';refine Ie (h _ _ _ _ _ e1) fun us qs a1 a2 a3 a4=>?_;refine Ie (g _ _ _ _ _ e2) fun us' qs' b1 b2 b3 b4=>?_;refine NF (us++us') (qs++qs') (by rw[a1,b1,List.append_assoc]) (by rw[b2,a2,List.reverse_append,List.append_assoc]) (by rw[List.length_append,List.length_append,a3,b3]) (fun z=>?_)
 rw[List.map_append] at z;obtain⟨z1,z2⟩:=List.append_inj z (by rw[List.length_map,a3])
 exact hy (a4 z1) (b4 z2)
theorem AT.bi{α β:Type}{o:OM α}{x:Option α}{k:α→OM β}{f:α→Option β}{y:Option β}(h:AT o x)(g:∀ a,AT (k a) (f a))(hy:y=x.bind f):AT (NH o k) y:=by
 intro hs acc b hs' acc' e;unfold NH at e;rfl';cases q:o hs acc with
 | none=>rw[q] at e;cases e
 | some p=>obtain⟨a,hs1,acc1⟩:=p;rw[q] at e;exact h.chain (g a) q e fun e1 e2=>by rw[hy,e1];exact e2
theorem AT.bn{α β:Type}{o:OM (α×St)}{x:M α}{k:α→St→OM (β×St)}{f:α→St→M β}(h:AT o x)(g:∀ a s,AT (k a s) (f a s)):AT (Cm o k) (Aj x f):=by
 intro hs acc b hs' acc' e;unfold Cm at e;rfl';cases q:o hs acc with
 | none=>rw[q] at e;cases e
 | some p=>obtain⟨⟨a,s⟩,hs1,acc1⟩:=p;rw[q] at e;exact h.chain (f:=fun p=>f p.1 p.2) (g a s) q e fun e1 e2=>by rw[e1];exact e2
noncomputable def D9{α:Type}:OM α:=fun _ _=>none
theorem AT.fail{α:Type}(x:Option α):AT (D9:OM α) x:=fun _ _ _ _ _ e=>by cases e
noncomputable def pkV(f:St→Option V)(st:St):H→Option ((V×St)×Q)
 | .v (a:=a) _=>some ((a,st),.v f)
 | .o (a:=a) _=>some ((a,st),.o (f st))
 | .nv=>match f st with
  | some a=>some ((a,st),.nv)
  | none=>none
 | _=>none
noncomputable def WO(f:St→Option V)(st:St):OM (V×St):=pt (pkV f st) (Fo (f st) st)
set_option tactic.hygienic true in
theorem AT.v(f:St→Option V)(st:St):AT (WO f st) (Fo (f st) st):=AT.pt fun h=>by
 cases (h)<;>first | exact Qy | intro a q e k
 case v g b hh=>cases e;cases k;rw[hh];rfl
 case o x b hh=>cases e;cases k;rw[hh];rfl
 case nv =>
  unfold pkV at e;dsimp only at e;cases z:f st with
  | none=>rw[z] at e;cases e
  | some b=>rw[z] at e;cases e;rfl
noncomputable def pkM(f:St→M V)(st:St):H→Option ((V×St)×Q)
 | .p (a:=a) _=>some ((a,st),.p f)
 | .m (a:=a) (s:=s) _=>some ((a,s),.m (f st))
 | _=>none
noncomputable def XZ(f:St→M V)(st:St):OM (V×St):=pt (pkM f st) (f st)
set_option tactic.hygienic true in
theorem AT.m(f:St→M V)(st:St):AT (XZ f st) (f st):=AT.pt fun h=>by
 cases (h)<;>first | exact Qy | intro a q e k
 case p g b hh=>cases e;cases k;rw[hh]
 case m x b s hh=>cases e;cases k;rw[hh]
noncomputable def pkC(f:St→Option Bool)(st:St):H→Option (Bool×Q)
 | .c (b:=b) _=>some (b,.c f)
 | .o1 (b:=b) _=>some (b,.o1 (f st))
 | .nc=>match f st with
  | some b=>some (b,.nc)
  | none=>none
 | _=>none
noncomputable def ptC(f:St→Option Bool)(st:St):OM Bool:=pt (pkC f st) (f st)
set_option tactic.hygienic true in
theorem AT.c(f:St→Option Bool)(st:St):AT (ptC f st) (f st):=AT.pt fun h=>by
 cases (h)<;>first | exact Qy | intro a q e k
 case c g b hh=>cases e;cases k;rw[hh]
 case o1 x b hh=>cases e;cases k;rw[hh]
 case nc =>
  unfold pkC at e;dsimp only at e;cases z:f st with
  | none=>rw[z] at e;cases e
  | some b=>rw[z] at e;cases e;rfl
noncomputable def pkU(x:M Unit):H→Option ((Unit×St)×Q)
 | .u (s:=s) _=>some (((),s),.u x)
 | _=>none
noncomputable def Xo(x:M Unit):OM (Unit×St):=pt (pkU x) x
set_option tactic.hygienic true in
theorem AT.u(x:M Unit):AT (Xo x) x:=AT.pt fun h=>by
 cases (h)<;>first | exact Qy | intro a q e k
 case u g b hh=>cases e;cases k;rw[hh]
noncomputable def pkF(x:M (Fl×AG)):H→Option (((Fl×AG)×St)×Q)
 | .f (r:=r) (s:=s) _=>some ((r,s),.f x)
 | _=>none
noncomputable def cU(x:M (Fl×AG)):OM ((Fl×AG)×St):=pt (pkF x) x
set_option tactic.hygienic true in
theorem AT.f(x:M (Fl×AG)):AT (cU x) x:=AT.pt fun h=>by
 cases (h)<;>first | exact Qy | intro a q e k
 case f g b s hh=>cases e;cases k;rw[hh]
noncomputable def pkL(x:M (List V)):H→Option ((List V×St)×Q)
 | .l (a:=r) (s:=s) _=>some ((r,s),.l x)
 | _=>none
noncomputable def ptL(x:M (List V)):OM (List V×St):=pt (pkL x) x
set_option tactic.hygienic true in
theorem AT.l(x:M (List V)):AT (ptL x) x:=AT.pt fun h=>by
 cases (h)<;>first | exact Qy | intro a q e k
 case l g b s hh=>cases e;cases k;rw[hh]
noncomputable def pkI(x:Option (List V×V)):H→Option ((List V×V)×Q)
 | .i (a:=r) _=>some (r,.i x)
 | _=>none
noncomputable def cV(x:Option (List V×V)):OM (List V×V):=pt (pkI x) x
set_option tactic.hygienic true in
theorem AT.i(x:Option (List V×V)):AT (cV x) x:=AT.pt fun h=>by
 cases (h)<;>first | exact Qy | intro a q e k
 case i g b hh=>cases (e);cases (k);rw[hh]
noncomputable def pkB(b:Bool):H→Option (Bool×Q)
 | .br (c:=c) _=>some (c,.br b)
 | .nb=>some (b,.nb)
 | _=>none
noncomputable def YC(b:Bool):OM Bool:=pt (pkB b) (some b)
set_option tactic.hygienic true in
theorem AT.br(b:Bool):AT (YC b) (some b):=AT.pt fun h=>by
 cases (h)<;>first | exact Qy | intro a q e k
 case br g b hh=>cases e;cases k;rw[hh]
 case nb=>cases e;rfl
noncomputable def pkG(b:Bool):H→Option (Bool×Q)
 | .gu _=>some (true,.gu b)
 | _=>none
noncomputable def guO(b:Bool):OM Bool:=pt (pkG b) (some b)
set_option tactic.hygienic true in
theorem AT.gu(b:Bool):AT (guO b) (some b):=AT.pt fun h=>by
 cases (h)<;>first | exact Qy | intro a q e k
 case gu b hh=>cases e;cases k;rw[hh]
noncomputable def Vk{α:Type}(b:Bool)(k:OM α):OM α:=NH (guO b) fun b=>match b with
 | true=>k
 | false=>D9
theorem AT.gd{α:Type}{b:Bool}{k:OM (α×St)}{r:M α}(h:AT k r):AT (Vk b k) (A9 b r) :=
 (AT.gu b).bi (f:=fun b=>A9 b r) (fun b=>by cases (b);exact AT.fail _;exact h) rfl
noncomputable def pkN(x:Option Nat):H→Option (Option Nat×Q)
 | .mo (r:=r) _=>some (r,.mo x)
 | _=>none
noncomputable def moO(x:Option Nat):OM (Option Nat):=pt (pkN x) (some x)
set_option tactic.hygienic true in
theorem AT.mo(x:Option Nat):AT (moO x) (some x):=AT.pt fun h=>by
 cases (h)<;>first | exact Qy | intro a q e k
 case mo g b hh=>cases e;cases k;rw[hh]
noncomputable def pkA(st:St)(o:O):H→Option ((V×St)×Q)
 | .al (i:=i) (st':=st') _=>some ((.ref i,st'),.al st o)
 | _=>none
noncomputable def Xz(st:St)(o:O):OM (V×St):=pt (pkA st o) (some (.ref st.next,st.add o))
set_option tactic.hygienic true in
theorem AT.al(st:St)(o:O):AT (Xz st o) (some (.ref st.next,st.add o)):=AT.pt fun h=>by
 cases (h)<;>first | exact Qy | intro a q e k
 case al st' o' i s hh=>cases (e);cases (k);rw[hh.1,hh.2]
noncomputable def pkS(s:St):H→Option (St×Q)
 | .st (s':=s') _=>some (s',.st s)
 | _=>none
noncomputable def stO(s:St):OM St:=pt (pkS s) (some s)
set_option tactic.hygienic true in
theorem AT.st(s:St):AT (stO s) (some s):=AT.pt fun h=>by
 cases (h)<;>first | exact Qy | intro a q e k
 case st g b hh=>cases e;cases k;rw[hh]
noncomputable def pkW(v:V):H→Option (V×Q)
 | .w (b:=b) _=>some (b,.w v)
 | _=>none
noncomputable def cg(v:V):OM V:=pt (pkW v) (some v)
set_option tactic.hygienic true in
theorem AT.w(v:V):AT (cg v) (some v):=AT.pt fun h=>by
 cases (h)<;>first | exact Qy | intro a q e k
 case w g b hh=>cases e;cases k;rw[hh]
noncomputable def FG(f:St→M V)(st:St)(o:OM (V×St)):OM (V×St):=fun hs acc=>match hs with
 | []=>o [] acc
 | h::r=>match h with
  | .e (a:=a) _=>some ((a,st),r,.e f::acc)
  | .sk=>o r (.sk::acc)
  | _=>o (h::r) acc
set_option tactic.hygienic true in
theorem AT.e{f:St→M V}{st:St}{o:OM (V×St)}(h:AT o (f st)):AT (FG f st o) (f st):=fun hs=>by
 cases hs with
 | nil=>exact h []
 | cons h0 r =>
  cases (h0)<;>first | exact h (_::r) | skip
  case e g b hh =>
   intro acc a hs' acc' e;cases e;exact NF [_] [_] rfl rfl rfl (fun z=>by cases (List.cons.inj z).1;exact hh _)
  case sk=>exact fun acc a hs' acc' e=>h.cons e
noncomputable def ptR(x:M (Fl×AG))(o:OM ((Fl×AG)×St)):OM ((Fl×AG)×St):=fun hs acc=>match hs with
 | []=>o [] acc
 | h::r=>match h with
  | .r (r:=a) (s:=s) _=>some ((a,s),r,.r x::acc)
  | _=>o (h::r) acc
set_option tactic.hygienic true in
theorem AT.r{x:M (Fl×AG)}{o:OM ((Fl×AG)×St)}(h:AT o x):AT (ptR x o) x:=fun hs=>by
 cases hs with
 | nil=>exact h []
 | cons h0 r =>
  cases (h0)<;>first | exact h (_::r) | skip
  case r y a s hh =>
   intro acc b hs' acc' e;cases e;exact NF [_] [_] rfl rfl rfl (fun z=>by cases (List.cons.inj z).1;exact hh)
noncomputable def W0(v:V):OM Bool:=match truthy v with
 | some b=>YC b
 | none=>D9
theorem AT.ts(v:V):AT (W0 v) (truthy v):=by
 unfold W0;cases truthy v with
 | none=>exact AT.fail _
 | some b=>exact AT.br b
noncomputable def VM(op:Operator)(a b:V):Bool:=match a with
 | .int _=>match b with
  | .int _=>match op with
   | .Add=>true
   | .Sub=>true
   | _=>false
  | _=>false
 | _=>false
noncomputable def V5(op:Operator)(a b:V)(st:St):OM (V×St):=match VM op a b with
 | true=>FH (Fo (B7 op a b st) st)
 | false=>WO (fun s=>B7 op a b s) st
theorem AT.bi2(op:Operator)(a b:V)(st:St):AT (V5 op a b st) (Fo (B7 op a b st) st):=by
 unfold V5;cases VM op a b
 ·exact AT.v (fun s=>B7 op a b s) st
 ·exact AT.re _
section
variable (CT:Nat→Option Cl)
mutual
noncomputable def FB(C:AC)(μ:AG)(st:St):X→OM (V×St)
 | .const v=>FH (some (v,st))
 | .loc i=>FH (match μ[i]? with
  | some (some v)=>some (v,st)
  | _=>none)
 | .bin op a b=>Cm (FG (fun s=>ev CT C μ s a) st (FB C μ st a)) fun va st=>Cm (FG (fun s=>ev CT C μ s b) st (FB C μ st b)) fun vb st=>V5 op va vb st
 | .neg a=>Cm (FG (fun s=>ev CT C μ s a) st (FB C μ st a)) fun v st=>FH (match v with
  | .int i=>some (.int (-i),st)
  | _=>none)
 | .not a=>Cm (FG (fun s=>ev CT C μ s a) st (FB C μ st a)) fun v st=>NH (W0 v) fun b=>FH (some (.bool (!b),st))
 | .boolop c xs=>evBoolO C μ st c xs
 | .ite t a b=>Cm (FG (fun s=>ev CT C μ s t) st (FB C μ st t)) fun v st=>NH (W0 v) fun c=>match c with
  | true=>FG (fun s=>ev CT C μ s a) st (FB C μ st a)
  | false=>FG (fun s=>ev CT C μ s b) st (FB C μ st b)
 | .cmp l ops rs=>Cm (FG (fun s=>ev CT C μ s l) st (FB C μ st l)) fun v st=>evCmpO C μ st v ops rs
 | .list xs=>Cm (evsO C μ st xs) fun vs st=>Vk (Nat.ble vs.length Cs) (Xz st (.list vs))
 | .tup xs=>Cm (evsO C μ st xs) fun vs st=>Vk (Nat.ble vs.length Cs) (FH (some (.tup vs,st)))
 | .dict ks vs=>Cm (evsO C μ st vs) fun vvs st=>Vk (decide (ks.length=vvs.length)&&decide ks.Nodup&&Nat.ble ks.length 15) (Xz st (.dict ks vvs))
 | .idx a i=>Cm (FG (fun s=>ev CT C μ s a) st (FB C μ st a)) fun va st=>Cm (FG (fun s=>ev CT C μ s i) st (FB C μ st i)) fun vi st=>WO (fun s=>BR va vi s) st
 | .slice a lo hi=>Cm (FG (fun s=>ev CT C μ s a) st (FB C μ st a)) fun va st=>Cm (FG (fun s=>ev CT C μ s lo) st (FB C μ st lo)) fun vl st=>Cm (FG (fun s=>ev CT C μ s hi) st (FB C μ st hi)) fun vh st=>WO (fun s=>Bg va vl vh s) st
 | .attr a f=>Cm (FG (fun s=>ev CT C μ s a) st (FB C μ st a)) fun va st=>WO (fun s=>AU (A5 CT) va f s) st
 | .call f args=>Cm (FG (fun s=>ev CT C μ s f) st (FB C μ st f)) fun vf st=>Cm (evsO C μ st args) fun vs st=>match vf with
  | .fn a=>XZ (fun s=>C a vs s) st
  | _=>D9
 | .new mu c args=>Cm (evsO C μ st args) fun vs st=>XZ (fun s=>Fw CT C mu c vs s) st
 | .bi b args=>Cm (evsO C μ st args) fun vs st=>WO (fun s=>FO b vs s) st
 | .meth r f args=>Cm (FG (fun s=>ev CT C μ s r) st (FB C μ st r)) fun vr st=>NH (moO (Ac CT st vr f)) fun g=>match g with
  | some g=>Cm (evsO C μ st args) fun vs st=>XZ (fun s=>C g (vr::vs) s) st
  | none=>Vk (EO st vr f) (Cm (evsO C μ st args) fun vs st=>XZ (fun s=>BS vr f vs s) st)
 | .comp elt t k a b ifs ns caps=>Cm (FG (fun s=>ev CT C μ s a) st (FB C μ st a)) fun va st=>Cm (FG (fun s=>ev CT C μ s b) st (FB C μ st b)) fun vb st=>NH (cV (Bo st k t va vb)) fun p=>match CH μ caps (List.replicate ns none) with
  | some μ₀=>Cm (ptL (Ax (fun μ st=>evIfs CT C μ st ifs) (fun μ st=>ev CT C μ st elt) t p.1 μ₀ (B5 st p.2))) fun vs st'=>Vk (Nat.ble p.1.length Cs) (FH (some (.lst vs,Aa st.ro st')))
  | none=>D9
 | .stuck=>D9
noncomputable def evsO(C:AC)(μ:AG)(st:St):List X→OM (List V×St)
 | []=>FH (some ([],st))
 | x::r=>Cm (FG (fun s=>ev CT C μ s x) st (FB C μ st x)) fun v st=>Cm (evsO C μ st r) fun vs st=>FH (some (v::vs,st))
noncomputable def evBoolO(C:AC)(μ:AG)(st:St)(c:Bool):List X→OM (V×St)
 | []=>D9
 | x::r=>Cm (FG (fun s=>ev CT C μ s x) st (FB C μ st x)) fun v st=>match r with
  | []=>FH (some (v,st))
  | _::_=>NH (W0 v) fun b=>match Bool.xor b c with
   | true=>FH (some (.bool b,st))
   | false=>evBoolO C μ st c r
noncomputable def evCmpO(C:AC)(μ:AG)(st:St)(l:V)(ops:List CmpOp):List X→OM (V×St)
 | []=>D9
 | r::rs=>match ops with
  | []=>D9
  | op::ops=>Cm (FG (fun s=>ev CT C μ s r) st (FB C μ st r)) fun rv st=>NH (ptC (fun s=>EB op l rv s) st) fun b=>match ops,rs with
    | [],[]=>FH (some (.bool b,st))
    | _::_,_::_=>NH (YC b) fun b=>match b with
     | true=>evCmpO C μ st rv ops rs
     | false=>FH (some (.bool false,st))
    | _,_=>D9
noncomputable def Nk(C:AC)(μ:AG)(st:St):List X→OM (Bool×St)
 | []=>FH (some (true,st))
 | x::r=>Cm (FG (fun s=>ev CT C μ s x) st (FB C μ st x)) fun v st=>NH (W0 v) fun b=>match b with
  | true=>Nk C μ st r
  | false=>FH (some (false,st))
end
mutual
theorem Ar(C:AC)(μ:AG)(st:St):∀ x:X,AT (FB CT C μ st x) (ev CT C μ st x)
 | .const v=>AT.re _
 | .loc i=>AT.re _
 | .bin op a b=>(Ar C μ st a).e.bn fun va st=>(Ar C μ st b).e.bn fun vb st=>AT.bi2 op va vb st
 | .neg a=>(Ar C μ st a).e.bn fun v st=>AT.re _
 | .not a=>(Ar C μ st a).e.bn fun v st=>(AT.ts v).bi (f:=fun b=>some (.bool (!b),st)) (fun b=>AT.re _) (by cases truthy v<;>rfl)
 | .boolop c xs=>evBoolO_s C μ st c xs
 | .ite t a b=>by exact(Ar C μ st t).e.bn fun v st=>(AT.ts v).bi (f:=fun c=>match c with | true=>ev CT C μ st a | false=>ev CT C μ st b) (fun c=>by cases (c);exact(Ar C μ st b).e;exact(Ar C μ st a).e) (by cases truthy v with | none=>rfl | some c=>cases (c)<;>rfl)
 | .cmp l ops rs=>(Ar C μ st l).e.bn fun v st=>evCmpO_s C μ st v ops rs
 | .list xs=>(evsO_s C μ st xs).bn fun vs st=>(AT.al st _).gd
 | .tup xs=>(evsO_s C μ st xs).bn fun vs st=>(AT.re _).gd
 | .dict ks vs=>(evsO_s C μ st vs).bn fun vs st=>(AT.al st _).gd
 | .idx a i=>(Ar C μ st a).e.bn fun va st=>(Ar C μ st i).e.bn fun vb st=>AT.v _ st
 | .slice a lo hi=>(Ar C μ st a).e.bn fun va st=>(Ar C μ st lo).e.bn fun vb st=>(Ar C μ st hi).e.bn fun vc st=>AT.v _ st
 | .attr a f=>(Ar C μ st a).e.bn fun va st=>AT.v _ st
 | .call f args=>by
  exact(Ar C μ st f).e.bn fun vf st=>(evsO_s C μ st args).bn fun vs st=>by cases (vf)<;>first | exact AT.fail _ | exact AT.m _ st
 | .new mu c args=>(evsO_s C μ st args).bn fun vs st=>AT.m _ st
 | .bi b args=>(evsO_s C μ st args).bn fun vs st=>AT.v _ st
 | .meth r f args=>by
  exact(Ar C μ st r).e.bn fun vr st=>(AT.mo _).bi (f:=fun g=>match g with
   | some g=>Aj (evs CT C μ st args) fun vs st=>C g (vr::vs) st
   | none=>A9 (EO st vr f) (Aj (evs CT C μ st args) fun vs st=>BS vr f vs st))
   (fun g=>by cases (g);exact((evsO_s C μ st args).bn fun vs st=>AT.m _ st).gd;exact(evsO_s C μ st args).bn fun vs st=>AT.m _ st) rfl
 | .comp elt t k a b ifs ns caps=>by
  exact(Ar C μ st a).e.bn fun va st=>(Ar C μ st b).e.bn fun vb st=>(AT.i _).bi (f:=fun p=>match CH μ caps (List.replicate ns none) with
   | some μ₀=>Aj (Ax (fun μ st=>evIfs CT C μ st ifs) (fun μ st=>ev CT C μ st elt) t p.1 μ₀ (B5 st p.2)) fun vs st'=>A9 (Nat.ble p.1.length Cs) (some (.lst vs,Aa st.ro st'))
   | none=>none) (fun p=>by
    cases CH μ caps (List.replicate ns none) with
    | none=>exact AT.fail _
    | some μ₀=>exact(AT.l _).bn fun vs st'=>(AT.re _).gd) (by cases Bo st k t va vb<;>cases CH μ caps (List.replicate ns none)<;>rfl)
 | .stuck=>AT.fail _
theorem evsO_s(C:AC)(μ:AG)(st:St):∀ x:List X,AT (evsO CT C μ st x) (evs CT C μ st x)
 | []=>AT.re _
 | x::r=>(Ar C μ st x).e.bn fun v st=>(evsO_s C μ st r).bn fun vs st=>AT.re _
theorem evBoolO_s(C:AC)(μ:AG)(st:St)(c:Bool):∀ x:List X,AT (evBoolO CT C μ st c x) (evBool CT C μ st c x)
 | []=>AT.fail _
 | x::r=>by
  refine(Ar C μ st x).e.bn fun v st=>?_;cases r with
  | nil=>exact AT.re _
  | cons y r =>
   refine(AT.ts v).bi (f:=fun b=>match Bool.xor b c with | true=>some (.bool b,st) | false=>evBool CT C μ st c (y::r)) (fun b=>?_) ?_
   ·cases Bool.xor b c
    ·exact evBoolO_s C μ st c (y::r)
    ·exact AT.re _
   ·cases q:truthy v with
    | none=>rfl
    | some b=>rw[CU q];rfl
theorem evCmpO_s(C:AC)(μ:AG)(st:St)(l:V)(ops:List CmpOp):∀ x:List X,AT (evCmpO CT C μ st l ops x) (evCmp CT C μ st l ops x)
 | []=>AT.fail _
 | x::r=>by
  cases ops with
  | nil=>exact AT.fail _
  | cons op ops =>
   refine(Ar C μ st x).e.bn fun v st=>?_;refine(AT.c (fun s=>EB op l v s) st).bi (f:=fun b=>match ops,r with
    | [],[]=>some (.bool b,st)
    | _::_,_::_=>match b with
     | true=>evCmp CT C μ st v ops r
     | false=>some (.bool false,st)
    | _,_=>none) (fun b=>?_) (by cases EB op l v st<;>rfl)
   cases ops with
   | nil=>cases (r);exact AT.re _;exact AT.fail _
   | cons o1 o2 =>
    cases r with
    | nil=>exact AT.fail _
    | cons r1 r2 =>
     refine(AT.br b).bi (f:=fun b=>match b with | true=>evCmp CT C μ st v (o1::o2) (r1::r2) | false=>some (.bool false,st)) (fun b=>?_) rfl
     cases (b)
     ·exact AT.re _
     ·exact evCmpO_s C μ st v _ _
theorem Lm(C:AC)(μ:AG)(st:St):∀ x:List X,AT (Nk CT C μ st x) (evIfs CT C μ st x)
 | []=>AT.re _
 | x::r=>by exact(Ar C μ st x).e.bn fun v st=>(AT.ts v).bi (f:=fun c=>match c with | true=>evIfs CT C μ st r | false=>some (false,st)) (fun c=>by cases (c);exact AT.re _;exact Lm C μ st r) (by cases truthy v with | none=>rfl | some c=>cases (c)<;>rfl)
end
noncomputable def V2(C:AC)(μ:AG)(st:St)(t:Tg)(v:V):OM (AG×St):=match t with
 | .loc i=>FH (some (BO μ i v,st))
 | .tup is=>match v with
  | .tup vs=>FH (Fo (BX μ is vs) st)
  | _=>D9
 | .attr x f=>Cm (FG (fun s=>ev CT C μ s x) st (FB CT C μ st x)) fun o st=>Cm (Xo (setAttr (A5 CT) o f v st)) fun _ st=>FH (some (μ,st))
 | .sub x i=>Cm (FG (fun s=>ev CT C μ s x) st (FB CT C μ st x)) fun o st=>Cm (FG (fun s=>ev CT C μ s i) st (FB CT C μ st i)) fun iv st=>Cm (Xo (Dg o iv v st)) fun _ st=>FH (some (μ,st))
theorem V3(C:AC)(μ:AG)(st:St)(t:Tg)(v:V):AT (V2 CT C μ st t v) (Xf CT C μ st t v):=by
 unfold V2 Xf;cases t with
 | loc i=>exact AT.re _
 | tup is=>cases (v)<;>first | exact AT.fail _ | exact AT.re _
 | attr x f=>exact(Ar CT C μ st x).e.bn fun o st=>(AT.u _).bn fun _ st=>AT.re _
 | sub x i=>exact(Ar CT C μ st x).e.bn fun o st=>(Ar CT C μ st i).e.bn fun iv st=>(AT.u _).bn fun _ st=>AT.re _
mutual
noncomputable def exO(C:AC)(μ:AG)(st:St):S→OM ((Fl×AG)×St)
 | .assign t x=>Cm (FG (fun s=>ev CT C μ s x) st (FB CT C μ st x)) fun v st=>NH (cg v) fun v=>Cm (V2 CT C μ st t v) fun μ st=>FH (some ((.next,μ),st))
 | .aug t op x=>match t with
  | .loc i=>match μ[i]? with
   | some (some v)=>Cm (FG (fun s=>ev CT C μ s x) st (FB CT C μ st x)) fun vx st=>Cm (FH (Fo (Kc op v vx) st)) fun r st=>FH (some ((.next,BO μ i r),st))
   | _=>D9
  | .attr o f=>Cm (FG (fun s=>ev CT C μ s o) st (FB CT C μ st o)) fun vo st=>Cm (WO (fun s=>AU (A5 CT) vo f s) st) fun v st=>Cm (FG (fun s=>ev CT C μ s x) st (FB CT C μ st x)) fun vx st =>
    Cm (FH (Fo (Kc op v vx) st)) fun r st=>Cm (Xo (setAttr (A5 CT) vo f r st)) fun _ st=>FH (some ((.next,μ),st))
  | _=>D9
 | .ret x=>Cm (FG (fun s=>ev CT C μ s x) st (FB CT C μ st x)) fun v st=>NH (cg v) fun v=>FH (some ((.ret v,μ),st))
 | .ife t a b=>Cm (FG (fun s=>ev CT C μ s t) st (FB CT C μ st t)) fun v st=>NH (W0 v) fun c=>match c with
  | true=>exsO C μ st a
  | false=>exsO C μ st b
 | .whl t b=>cU (BP (fun μ st=>ev CT C μ st t) (fun μ st=>exs CT C μ st b) W μ st)
 | .for_ t k x y b=>Cm (FG (fun s=>ev CT C μ s x) st (FB CT C μ st x)) fun vx st=>Cm (FG (fun s=>ev CT C μ s y) st (FB CT C μ st y)) fun vy st=>NH (cV (Bo st k t vx vy)) fun p =>
   Cm (cU (Bn t (fun μ st=>exs CT C μ st b) p.1 μ (B5 st p.2))) fun r st'=>Vk (Nat.ble p.1.length Cs) (FH (some (r,Aa st.ro st')))
 | .try_ b=>exsO C μ st b
 | .expr x=>Cm (FG (fun s=>ev CT C μ s x) st (FB CT C μ st x)) fun _ st=>FH (some ((.next,μ),st))
 | .cont=>FH (some ((.cont,μ),st))
 | .stuck=>D9
noncomputable def exsO(C:AC)(μ:AG)(st:St):List S→OM ((Fl×AG)×St)
 | []=>FH (some ((.next,μ),st))
 | s::r=>ptR (exs CT C μ st (s::r)) (Cm (exO C μ st s) fun p st=>NH (stO st) fun st=>match p.1 with
  | .next=>exsO C p.2 st r
  | _=>FH (some (p,st)))
end
mutual
theorem Wt(C:AC)(μ:AG)(st:St):∀ s:S,AT (exO CT C μ st s) (ex CT C μ st s)
 | .assign t x=>(Ar CT C μ st x).e.bn fun v st=>(AT.w v).bi (f:=fun v=>Aj (Xf CT C μ st t v) fun μ st=>some ((.next,μ),st)) (fun v=>(V3 CT C μ st t v).bn fun μ st=>AT.re _) rfl
 | .aug t op x=>by
  cases t with
  | loc i =>
   show AT (match μ[i]? with
    | some (some v)=>Cm (FG (fun s=>ev CT C μ s x) st (FB CT C μ st x)) fun vx st=>Cm (FH (Fo (Kc op v vx) st)) fun r st=>FH (some ((Fl.next,BO μ i r),st))
    | _=>D9) (match μ[i]? with
    | some (some v)=>Aj (ev CT C μ st x) fun vx st=>Aj (Fo (Kc op v vx) st) fun r st=>some ((Fl.next,BO μ i r),st)
    | _=>none)
   cases μ[i]? with
   | none=>exact AT.fail _
   | some o=>cases o with
    | none=>exact AT.fail _
    | some v=>exact(Ar CT C μ st x).e.bn fun vx st=>(AT.re _).bn fun r st=>AT.re _
  | attr o f=>exact(Ar CT C μ st o).e.bn fun vo st=>(AT.v (fun s=>AU (A5 CT) vo f s) st).bn fun v st=>(Ar CT C μ st x).e.bn fun vx st=>(AT.re _).bn fun r st=>(AT.u _).bn fun _ st=>AT.re _
  | tup is=>exact AT.fail _
  | sub x i=>exact AT.fail _
 | .ret x=>(Ar CT C μ st x).e.bn fun v st=>(AT.w v).bi (f:=fun v=>some ((.ret v,μ),st)) (fun v=>AT.re _) rfl
 | .ife t a b=>by exact(Ar CT C μ st t).e.bn fun v st=>(AT.ts v).bi (f:=fun c=>match c with | true=>exs CT C μ st a | false=>exs CT C μ st b) (fun c=>by cases (c);exact exsO_s C μ st b;exact exsO_s C μ st a) (by cases truthy v with | none=>rfl | some c=>cases (c)<;>rfl)
 | .whl t b=>AT.f _
 | .for_ t k x y b=>by
  exact(Ar CT C μ st x).e.bn fun va st=>(Ar CT C μ st y).e.bn fun vb st=>(AT.i _).bi (f:=fun p=>Aj (Bn t (fun μ st=>exs CT C μ st b) p.1 μ (B5 st p.2)) fun r st'=>A9 (Nat.ble p.1.length Cs) (some (r,Aa st.ro st')))
   (fun p=>(AT.f _).bn fun r st'=>(AT.re _).gd) (by cases Bo st k t va vb<;>rfl)
 | .try_ b=>exsO_s C μ st b
 | .expr x=>(Ar CT C μ st x).e.bn fun _ st=>AT.re _
 | .cont=>AT.re (some ((Fl.cont,μ),st))
 | .stuck=>AT.fail _
theorem exsO_s(C:AC)(μ:AG)(st:St):∀ s:List S,AT (exsO CT C μ st s) (exs CT C μ st s)
 | []=>AT.re _
 | s::r=>by
  refine AT.r ?_;refine(Wt C μ st s).bn fun p st=>(AT.st st).bi (f:=fun st=>match p.1 with | .next=>exs CT C p.2 st r | _=>some (p,st)) (fun st=>?_) rfl
  cases (p.1)<;>first | exact exsO_s C p.2 st r | exact AT.re _
end
end
noncomputable def Et(hs:List H):List Q:=(hs.map key).reverse
theorem AT.all{α:Type}{o:OM α}{x:Option α}(h:AT o x){hs:List H}{a:α}(e:o hs []=some (a,[],Et hs)):x=some a:=by refine Ie (h _ _ _ _ _ e) fun us qs e1 e2 _ e4=>?_;rw[List.append_nil] at e1 e2;subst e1;exact e4 (List.reverse_inj.mp e2).symm
theorem BN{C:AC}{μ:AG}{st:St}{b:List S}{r:(Fl×AG)×St}(hs:List H)(e:exsO CT C μ st b hs []=some (r,[],Et hs)):exs CT C μ st b=some r:=(exsO_s CT C μ st b).all e
theorem Iz{C:AC}{μ:AG}{st:St}{x:X}{r:V×St}(hs:List H)(e:FB CT C μ st x hs []=some (r,[],Et hs)):ev CT C μ st x=some r:=(Ar CT C μ st x).all e
theorem YI{C:AC}{μ:AG}{st:St}{x:List X}{r:Bool×St}(hs:List H)(e:Nk CT C μ st x hs []=some (r,[],Et hs)):evIfs CT C μ st x=some r:=(Lm CT C μ st x).all e
noncomputable def Wv(r:Option (((Fl×AG)×St)×List H×List Q)):Option (V×List H×List Q):=match r with
 | some (((fl,_),_),hs,qs)=>some (MA fl,hs,qs)
 | none=>none
set_option tactic.hygienic true in
theorem AK{n a:Nat}{vs:List V}{st:St}{v:V}(np ns:Nat)(b:List S)(hs:List H)(hf:FT a=some ⟨np,ns,.pure,b⟩)(hl:decide (vs.length=np)=true)
  (e:Wv (exsO CT (AP CT FT n) (vs.map some++List.replicate (ns - np) none) (AW (inner st) []) b hs [])=some (v,[],Et hs)) (hv:AN v=true):AP CT FT (n+1) a vs st=some (v,st):=by
 unfold Wv at e;rfl';split at e
 ·rename_i fl μ s hs' qs q;cases e;rw[BJ] at q;exact Mm np ns b hf hl (BN hs q) (Db hv)
 ·cases e
noncomputable def X3(r:Option (((Fl×AG)×St)×List H×List Q)):Option ((Fl×St)×List H×List Q):=match r with
 | some (((fl,_),s),hs,qs)=>some ((fl,s),hs,qs)
 | none=>none
set_option tactic.hygienic true in
theorem FW{C:AC}{μ:AG}{st s:St}{b:List S}{fl:Fl}(hs:List H)(e:X3 (exsO CT C μ st b hs [])=some ((fl,s),[],Et hs)):∃ μ',exs CT C μ st b=some ((fl,μ'),s):=by
 unfold X3 at e;rfl';split at e
 ·rename_i fl μ' s hs' qs q;cases e;exact⟨μ',BN hs q⟩
 ·cases e
noncomputable def Ww(r:Option (((Fl×AG)×St)×List H×List Q)):Option ((V×List (Option O))×List H×List Q):=match r with
 | some (((fl,_),s),hs,qs)=>some ((MA fl,s.objs),hs,qs)
 | none=>none
set_option tactic.hygienic true in
theorem P2{n a:Nat}{vs:List V}{st:St}{v v':V}{os:List (Option O)}(np ns:Nat)(b:List S)(hs:List H)(hf:FT a=some ⟨np,ns,.pure,b⟩)(hl:decide (vs.length=np)=true)
  (e:Ww (exsO CT (AP CT FT n) (vs.map some++List.replicate (ns - np) none) (AW (inner st) []) b hs [])=some ((v',os),[],Et hs)) (hv:Fv os st.next 40 v'=some v):AP CT FT (n+1) a vs st=some (v,st):=by
 unfold Ww at e;rfl';split at e
 ·rename_i fl μ s hs' qs q;cases e;rw[BJ] at q;exact Mm np ns b hf hl (BN hs q) hv
 ·cases e
theorem Ri(σ:St)(l:List O)(o:O):(AW σ l).next=σ.next+l.length∧(AW σ l).add o=AW σ (l++[o]):=⟨A7 σ l,E1 σ l o⟩
noncomputable def NI(σ:St)(l:List O)(o:O):H:=.al (Ri σ l o)
theorem WE{st:St}{i:Nat}{ks:List Txt}{vs:List V}(h:st.get i=some (.dict ks vs))(f:Nat):Ac CT st (.ref i) f=none:=by
 show(match st.get i with | some (.inst c ks vs)=>_ | _=>none)=none
 rw[h]
theorem MS{st:St}{i:Nat}{xs:List V}(h:st.get i=some (.list xs))(f:Nat):Ac CT st (.ref i) f=none:=by
 show(match st.get i with | some (.inst c ks vs)=>_ | _=>none)=none
 rw[h]
theorem Vx{st:St}{i:Nat}{ks:List Txt}{vs:List V}(h:st.get i=some (.dict ks vs)):EO st (.ref i) 2=true:=by
 show(match st.get i with | some (.list _)=>_ | some (.dict ..)=>_ | _=>false)=true
 rw[h];rfl
theorem MM{st:St}{i:Nat}{xs:List V}(h:st.get i=some (.list xs))(f:Nat)(hf:Nat.ble f 1=true):EO st (.ref i) f=true:=by
 show(match st.get i with | some (.list _)=>_ | some (.dict ..)=>_ | _=>false)=true
 rw[h];exact hf
theorem WG{st:St}{i:Nat}{ks:List Txt}{vs:List V}(h:st.get i=some (.dict ks vs))(k:Txt):BS (.ref i) 2 [.str k] st=some ((Aq ks vs k).getD .none,st):=by unfold BS;dsimp only;rw[h];rfl
theorem OK{st:St}{i:Nat}{xs:List V}(h:st.get i=some (.list xs))(v:V)(hw:st.wr i v=true)(hl:xs.length≤100000):BS (.ref i) 0 [v] st=some (.none,st.put i (.list (xs++[v]))):=by
 unfold BS;dsimp only;rw[h];show(match st.wr i v&&Nat.ble xs.length Cs with | true=>some (V.none,st.put i (.list (xs++[v]))) | false=>none)=_
 rw[hw,Bf _ hl];rfl
theorem G6{σ:St}{acc:List V}{l:List O}(v:V)(h1:σ.lo≤σ.next)(h2:σ.ro≤σ.next)(hl:acc.length≤100000):BS (.ref σ.next) 0 [v] (AW σ (.list acc::l))=some (.none,AW σ (.list (acc++[v])::l)):=by rw[OK (A0 σ (.list acc::l)) v (Pc _ _ _ h1 h2) hl,EQ];rfl
theorem PQ{st:St}{i:Nat}{ks:List Txt}{vs:List V}(h:st.get i=some (.dict ks vs))(k:Txt)(d:V):BS (.ref i) 2 [.str k,d] st=some ((Aq ks vs k).getD d,st):=by unfold BS;dsimp only;rw[h];rfl
noncomputable def Lz(r:Option (((Fl×AG)×St)×List H×List Q)):Option ((V×St)×List H×List Q):=match r with
 | some (((fl,_),s),hs,qs)=>some ((MA fl,s),hs,qs)
 | none=>none
set_option tactic.hygienic true in
theorem KU{n a:Nat}{vs:List V}{st st':St}{v:V}(np ns:Nat)(b:List S)(hs:List H)(hf:FT a=some ⟨np,ns,.open_,b⟩)(hl:decide (vs.length=np)=true)
  (e:Lz (exsO CT (AP CT FT n) (vs.map some++List.replicate (ns - np) none) st b hs [])=some ((v,st'),[],Et hs)):AP CT FT (n+1) a vs st=some (v,st'):=by
 unfold Lz at e;split at e
 ·rename_i fl μ s hs' qs q;cases e;rw[JR _ hf hl];show Aj (exs CT (AP CT FT n) (vs.map some++List.replicate (ns - np) none) st b) _=_;rw[BN hs q];rfl
 ·cases e
theorem I0{C:AC}{c:Nat}{cl:Cl}{vs:List V}{st st':St}(h:CT c=some cl)(hi:C cl.init (.ref st.next::vs) (st.add (.inst c [] []))=some (.none,st')):Fw CT C true c vs st=some (.ref st.next,st'):=by unfold Fw;rw[h];show Aj (C cl.init (.ref st.next::vs) (st.add (.inst c [] []))) _=_;rw[hi];rfl
set_option tactic.hygienic true in
theorem I8{n a:Nat}{vs:List V}{st τ:St}{v v':V}(np ns:Nat)(b:List S)(hs:List H)(hf:FT a=some ⟨np,ns,.scoped,b⟩)(hl:decide (vs.length=np)=true)
  (e:Lz (exsO CT (AP CT FT n) (vs.map some++List.replicate (ns - np) none) ⟨st.objs,st.next,st.ro⟩ b hs [])=some ((v',τ),[],Et hs)) (hz:Fv τ.objs st.next 40 v'=some v):AP CT FT (n+1) a vs st=some (v,τ.cut st.next st.lo st.ro):=by
 unfold Lz at e;split at e
 ·rename_i fl μ s hs' qs q;cases e;rw[JR _ hf hl];show Aj (exs CT (AP CT FT n) (vs.map some++List.replicate (ns - np) none) ⟨st.objs,st.next,st.ro⟩ b) _=_;rw[BN hs q];show Fo (Fv τ.objs st.next 40 (MA fl)) _=_;rw[hz];rfl
 ·cases e
noncomputable def QX:Fl→Bool
 | .ret _=>false
 | _=>true
section
variable {test:AG→St→M V}{body:AG→St→M (Fl×AG)}{k:Nat}{μ μ1 μ2:AG}{st st1 st2:St}{fl:Fl}{b:Bool}{R:M (Fl×AG)}{v x:V}{r:List V}{t:T}
theorem D0(h:test μ st=some (.bool b,st1))(hb:b=false):BP test body (k+1) μ st=some ((.next,μ),st1):=by subst hb;show Aj (test μ st) _=_;rw[h];rfl
theorem Tt(h:test μ st=some (.bool b,st1))(hb:b=true)(h2:body μ st1=some ((fl,μ1),st2))(hf:QX fl=true)(h3:BP test body k μ1 st2=R):BP test body (k+1) μ st=R:=by subst hb h3;show Aj (test μ st) _=_;rw[h];show Aj (body μ st1) _=_;rw[h2];cases fl<;>first | rfl | cases hf
theorem K8(h:test μ st=some (.bool b,st1))(hb:b=true)(h2:body μ st1=some ((.next,μ1),st2))(h3:BP test body k μ1 st2=R):BP test body (k+1) μ st=R:=Tt h hb h2 rfl h3
theorem VG(h:test μ st=some (.bool b,st1))(hb:b=true)(h2:body μ st1=some ((.ret v,μ1),st2)):BP test body (k+1) μ st=some ((.ret v,μ1),st2):=by rfl';subst hb;show Aj (test μ st) _=_;rw[h];show Aj (body μ st1) _=_;rw[h2];rfl
theorem LZ{P:M (Fl×AG)→Prop}(h:test μ st=some (.bool b,st1))(hb:b=true)(h2:body μ st1=some ((fl,μ1),st2))(hf:QX fl=true)(h3:P (BP test body k μ1 st2)):P (BP test body (k+1) μ st):=(Tt h hb h2 hf rfl).symm▸h3
theorem JZ{P:M (Fl×AG)→Prop}(h:test μ st=some (.bool b,st1))(hb:b=true)(h2:body μ st1=some ((.next,μ1),st2))(h3:P (BP test body k μ1 st2)):P (BP test body (k+1) μ st):=LZ h hb h2 rfl h3
theorem S7{v:V}:Bn t body (v::r) μ st=(match FD μ t v with | none=>none | some μ=>Aj (body μ st) fun p st'=>match p.1 with | .ret v=>some ((.ret v,p.2),st') | _=>Bn t body r p.2 st'):=rfl
theorem S8(h:FD μ t x=some μ1)(h2:body μ1 st=some ((fl,μ2),st2))(hf:QX fl=true)(h3:Bn t body r μ2 st2=R):Bn t body (x::r) μ st=R:=by subst h3;rw[S7,h];show Aj (body μ1 st) _=_;rw[h2];cases fl<;>first | rfl | cases hf
theorem DR(h:FD μ t x=some μ1)(h2:body μ1 st=some ((.next,μ2),st2))(h3:Bn t body r μ2 st2=R):Bn t body (x::r) μ st=R:=S8 h h2 rfl h3
theorem UZ{P:M (Fl×AG)→Prop}(h:FD μ t x=some μ1)(h2:body μ1 st=some ((fl,μ2),st2))(hf:QX fl=true)(h3:P (Bn t body r μ2 st2)):P (Bn t body (x::r) μ st):=(S8 h h2 hf rfl).symm▸h3
theorem Vj{P:M (Fl×AG)→Prop}(h:FD μ t x=some μ1)(h2:body μ1 st=some ((.next,μ2),st2))(h3:P (Bn t body r μ2 st2)):P (Bn t body (x::r) μ st):=UZ h h2 rfl h3
theorem Kq(h:FD μ t x=some μ1)(h2:body μ1 st=some ((.ret v,μ2),st2)):Bn t body (x::r) μ st=some ((.ret v,μ2),st2):=by rw[S7,h];show Aj (body μ1 st) _=_;rw[h2];rfl
variable {tst:AG→St→M Bool}{elt:AG→St→M V}{xs:List V}{st3:St}
theorem US{v:V}:Ax tst elt t (v::r) μ st=(match FD μ t v with | none=>none | some μ'=>Aj (tst μ' st) fun b st₁=>match b with | true=>Aj (elt μ' st₁) fun x st₂=>Aj (Ax tst elt t r μ' st₂) fun xs st=>some (x::xs,st) | false=>Ax tst elt t r μ' st₁):=rfl
theorem HL(h:FD μ t x=some μ1)(h1:tst μ1 st=some (b,st1))(hb:b=true)(h2:elt μ1 st1=some (v,st2))(h3:Ax tst elt t r μ1 st2=some (xs,st3)):Ax tst elt t (x::r) μ st=some (v::xs,st3):=by subst hb;rw[US,h];show Aj (tst μ1 st) _=_;rw[h1];show Aj (elt μ1 st1) _=_;rw[h2];show Aj (Ax tst elt t r μ1 st2) _=_;rw[h3];rfl
end
theorem XG{a b:Nat}(h:a<b):decide ((a:Int)<(b:Int))=true:=decide_eq_true (Int.ofNat_lt.mpr h)
theorem XF{a b:Nat}(h:¬ a<b):decide ((a:Int)<(b:Int))=false:=decide_eq_false fun q=>h (Int.ofNat_lt.mp q)
end SWk
section SL1
open PySem
theorem le1(a c:Nat):Gr [a] [c]=decide (a≤c):=by
 rw[Gr];rcases Nat.lt_trichotomy a c with h | h | h
 ·rw[decide_eq_true h,decide_eq_true (Nat.le_of_lt h)]
 ·subst h;simp [Gr]
 ·rw[decide_eq_false (Nat.not_lt.mpr (Nat.le_of_lt h)),decide_eq_true h,decide_eq_false (Nat.not_le.mpr h)]
noncomputable def Ca(c:Nat):Bool:=decide (48≤c)&&decide (c≤57)
noncomputable def Au(c:Nat):Bool:=(decide (65≤c)&&decide (c≤90))||((decide (97≤c)&&decide (c≤122))||(decide ([95]=[c])||(decide ([63]=[c])||(decide ([46]=[c])||decide ([64]=[c])))))
noncomputable def BW(c:Nat):Bool:=Au c||Ca c
theorem YR(a c:Nat)(s:St):EB .LtE (.str [a]) (.str [c]) s=some (decide (a≤c)):=congrArg some (le1 a c)
noncomputable def hLe (a c:Nat):H:=.c (YR a c)
theorem M8(n:Nat)(c:Nat)(st:St):AP CT FT (n+1) 69 [.str [c]] st=some (.bool (Ca c),st):=by
 unfold Ca;cases q:decide (48≤c) with
 | true=>exact AK 1 1 FM [hLe 48 c,.br q,hLe c 57] rfl rfl (by kernel_rfl) rfl
 | false=>exact AK 1 1 FM [hLe 48 c,.br q] rfl rfl (by kernel_rfl) rfl
noncomputable def hFig (n c:Nat):H:=.p fun st=>M8 n c st
theorem XB(n:Nat)(c a b:Nat)(st:St):ev CT (AP CT FT n) [some (.str [c])] st (.cmp (.const (.str [a])) [.LtE,.LtE] [.loc 0,.const (.str [b])])=some (.bool (decide (a≤c)&&decide (c≤b)),st):=by
 cases q:decide (a≤c) with
 | true=>exact Iz [hLe a c,.br q,hLe c b] (by kernel_rfl)
 | false=>exact Iz [hLe a c,.br q] (by kernel_rfl)
theorem IH(n:Nat)(c:Nat)(st:St):AP CT FT (n+1) 62 [.str [c]] st=some (.bool (Au c),st):=by
 unfold Au;cases q:decide (65≤c)&&decide (c≤90) with
 | true=>exact AK 1 1 CF [.sk,.e fun st=>XB n c 65 90 st,.br q] rfl rfl (by kernel_rfl) rfl
 | false =>
  cases q2:decide (97≤c)&&decide (c≤122) with
  | true=>exact AK 1 1 CF [.sk,.e fun st=>XB n c 65 90 st,.br q,.e fun st=>XB n c 97 122 st,.br q2] rfl rfl (by kernel_rfl) rfl
  | false=>rw[← Bool.or_false (decide ([64]=[c]))];exact AK 1 1 CF [.sk,.e fun st=>XB n c 65 90 st,.br q,.e fun st=>XB n c 97 122 st,.br q2] rfl rfl (by kernel_rfl) rfl
noncomputable def hBeg (n c:Nat):H:=.p fun st=>IH n c st
theorem JN(n:Nat)(c:Nat)(st:St):AP CT FT (n+2) 76 [.str [c]] st=some (.bool (BW c),st):=by
 unfold BW;cases q:Au c with
 | true=>exact AK 1 3 D6 [hBeg n c,.br q] rfl rfl (by kernel_rfl) rfl
 | false=>exact AK 1 3 D6 [hBeg n c,.br q,hFig n c] rfl rfl (by kernel_rfl) rfl
noncomputable def hPart (n c:Nat):H:=.p fun st=>JN n c st
theorem K3{a:Nat}(h:a≤100000):small (a:Int)=true:=by unfold small;rw[Bool.and_eq_true,decide_eq_true_eq,decide_eq_true_eq];exact p81 h
theorem Cu{α:Type}{s:List α}{a:Nat}{c:α}{r:List α}(h:s.drop a=c::r):a<s.length:=by
 rcases Nat.lt_or_ge a s.length with q | q
 ·exact q
 ·rw[List.drop_eq_nil_of_le q] at h;cases (h)
theorem Gf{α:Type}{s:List α}{a:Nat}{c:α}{r:List α}(h:s.drop a=c::r):s[a]?=some c:=by have:=Cu h;rw[List.drop_eq_getElem_cons this] at h;rw[List.getElem?_eq_getElem this,(List.cons.inj h).1]
theorem A3{α:Type}{s:List α}{a:Nat}{c:α}{r:List α}(h:s.drop a=c::r):s.drop (a+1)=r:=by have:=Cu h;rw[List.drop_eq_getElem_cons this] at h;exact(List.cons.inj h).2
theorem B3{α:Type}{s r:List α}{a:Nat}(k:Nat)(h:s.drop a=r):s.drop (a+k)=r.drop k:=by rw[← h,List.drop_drop]
theorem TN{a n:Nat}(h:a<n):GG (a:Int) n=some a:=by
 unfold GG;rw[decide_eq_true (by exact p9:(0:Int)≤a),decide_eq_true (by exact p8 h:(a:Int)<n)]
 rfl
theorem Vo{row:Txt}{a:Nat}{c:Nat}{r:Txt}{st:St}(h:row.drop a=c::r)(hl:row.length≤100000):BR (.str row) (.int a) st=some (.str [c]):=by
 have hlt:=Cu h;unfold BR;dsimp only;rw[TN hlt,K3 (by exact aY hl hlt)]
 dsimp only;rw[Gf h]
theorem Ir(d n a:Nat):Dk d n (.int a)=some (min a n):=by unfold Dk;dsimp only;rfl
theorem T4{row s:Txt}{a:Nat}{b:Int}{k:Nat}{st:St}(h:row.drop a=s)(hl:row.length≤100000)(hb:b=((a+k:Nat):Int)):Bg (.str row) (.int a) (.int b) st=some (.str (s.take k)):=by
 subst hb;unfold Bg DF;dsimp only;rw[Bf _ hl,Ir,Ir];dsimp only[Option.map]
 congr 2
 rw[← h];rcases Nat.le_total a row.length with q | q
 ·rw[Nat.min_eq_left q,List.drop_take];rcases Nat.le_total (a+k) row.length with q2 | q2
  ·rw[Nat.min_eq_left q2,Nat.add_sub_cancel_left]
  ·rw[Nat.min_eq_right q2,List.take_of_length_le (by simp),List.take_of_length_le (by simp;exact ar q2)]
 ·rw[List.drop_eq_nil_of_le q,List.drop_eq_nil_of_le (by simp;exact p28 q),List.take_nil]
theorem RT{row s:Txt}{a:Nat}{st:St}(h:row.drop a=s)(hl:row.length≤100000):Bg (.str row) (.int a) .none st=some (.str s):=by
 unfold Bg DF;dsimp only;rw[Bf _ hl,Ir];dsimp only[Option.map,Dk]
 congr 2
 rw[List.take_of_length_le (Nat.le_refl _),← h];rcases Nat.le_total a row.length with q | q
 ·rw[Nat.min_eq_left q]
 ·rw[Nat.min_eq_right q,List.drop_eq_nil_of_le q,List.drop_eq_nil_of_le (Nat.le_refl _)]
theorem len_str{s:Txt}{st:St}(hl:s.length≤100000):FO .len [.str s] st=some (.int s.length):=by unfold FO;dsimp only;rw[Bf _ hl];rfl
theorem add_int(a b:Int)(st:St):B7 .Add (.int a) (.int b) st=some (.int (a+b)):=rfl
theorem sub_int(a b:Int)(st:St):B7 .Sub (.int a) (.int b) st=some (.int (a - b)):=rfl
noncomputable def hLen {s:Txt} (hl:s.length≤100000):H:=.v fun st=>len_str (st:=st) hl
noncomputable def hIdx {row:Txt} {a:Nat} {c:Nat} {r:Txt} (h:row.drop a=c::r) (hl:row.length≤100000):H:=.v fun st=>Vo (st:=st) h hl
noncomputable def hSl {row s:Txt} {a:Nat} (k:Nat) (h:row.drop a=s) (hl:row.length≤100000):H:=.v fun st=>T4 (st:=st) (k:=k) h hl rfl
noncomputable def hSlE {row s:Txt} {a:Nat} (h:row.drop a=s) (hl:row.length≤100000):H:=.v fun st=>RT (st:=st) h hl
noncomputable def GQ(c:Nat):Nat:=match decide (97≤c)&&decide (c≤122) with
 | true=>c - 32
 | false=>c
noncomputable def Ez(s:Txt):Txt:=s.map GQ
noncomputable def Ag(ts:List Txt):List V:=ts.map .str
theorem K4:∀ ts:List Txt,Ew (Ag ts)=some ts:=by
 intro q1_
 induction q1_ with
 | nil=>exact rfl
 | cons t ts ih_ =>
  show Ew (.str t::Ag ts)=_;show(match Ew (Ag ts) with | some l=>some (t::l) | none=>none)=_
  rw[ih_]
theorem Ce(ts:List Txt):(Ag ts).length=ts.length:=List.length_map _
theorem V6{c:Nat}(h1:97≤c)(h2:c≤122)(st:St):FO .chr [.int ((c:Int) - 32)] st=some (.str [c - 32]):=by unfold FO;dsimp only;rw[decide_eq_true (by omega:(0:Int)≤(c:Int) - 32),decide_eq_true (by omega:(c:Int) - 32<1000),show((c:Int) - 32).toNat=c - 32 by omega];rfl
theorem UN(n:Nat)(c:Nat)(st:St):ev CT (AP CT FT n) [none,some (.str [c]),none,none] st CP=some (.str [GQ c],st):=by
 unfold GQ;cases h1:decide (97≤c) with
 | false=>exact Iz [hLe 97 c,.br h1] (by kernel_rfl)
 | true =>
  cases h2:decide (c≤122) with
  | false=>exact Iz [hLe 97 c,.br h1,hLe c 122,.br h2] (by kernel_rfl)
  | true=>exact Iz [hLe 97 c,.br h1,hLe c 122,.br h2,.nv,.v (V6 (of_decide_eq_true h1) (of_decide_eq_true h2))] (by kernel_rfl)
theorem SL(n:Nat)(st:St):∀(s:Txt) (b:Option V),Ax (fun μ st=>some (true,st)) (fun μ st=>ev CT (AP CT FT n) μ st CP) (.loc 1) (s.map fun c=>V.str [c]) [none,b,none,none] st=some (Ag (s.map fun c=>[GQ c]),st):=by
 intro q1_
 induction q1_ with
 | nil=>intro _;exact rfl
 | cons c s ih_=>intro b;show Aj (ev CT (AP CT FT n) [none,some (.str [c]),none,none] st CP) (fun x st₂=>Aj (Ax (fun μ st=>some (true,st)) (fun μ st=>ev CT (AP CT FT n) μ st CP) (.loc 1) (s.map fun c=>V.str [c]) [none,some (.str [c]),none,none] st₂) fun xs st=>some (x::xs,st))=_;rw[UN];show Aj (Ax (fun μ st=>some (true,st)) (fun μ st=>ev CT (AP CT FT n) μ st CP) (.loc 1) (s.map fun c=>V.str [c]) [none,some (.str [c]),none,none] st) (fun xs st=>some (V.str [GQ c]::xs,st))=_;rw[ih_];rfl
theorem QW:∀(ts:List Txt),(PySem.Txt.join (AR []) (ts.map AR)).cps.toList=ts.flatten:=by
 have key:∀(ts:List Txt) (acc:Array Nat),((ts.map AR).foldl (fun acc (p:Str)=>acc++(AR []).cps++p.cps) acc).toList=acc.toList++ts.flatten:=by
  intro ts
  induction ts with
  | nil=>intro acc;simp
  | cons t ts ih=>intro acc;rw[List.map_cons,List.foldl_cons,ih];simp [AR]
 intro ts;cases ts with
 | nil=>rfl
 | cons t ts=>show(List.foldl (fun acc (p:Str)=>acc++(AR []).cps++p.cps) (AR t).cps (ts.map AR)).toList=_;rw[key];simp [AR]
theorem Sn:∀(ts:List Txt) (k:Nat) (sep:Txt),(((ts.map AR).toArray).foldl (·+·.length+(AR sep).length) k)=k+(ts.map (fun t=>t.length+sep.length)).sum:=by
 intro ts k sep;rw[← Array.foldl_toList];show List.foldl _ k (ts.map AR)=_
 induction ts generalizing k with
 | nil=>simp
 | cons t ts ih =>
  rw[List.map_cons,List.foldl_cons,ih,List.map_cons,List.sum_cons];have h1:(AR t).length=t.length:=by simp [AR,Str.length]
  have h2:(AR sep).length=sep.length:=by simp [AR,Str.length]
  exact ZA
theorem Vr{ts:List Txt}{sep:Txt}(h:(ts.map (fun t=>t.length+sep.length)).sum≤1000000):JoinOk (AR sep) (ts.map AR)=true:=by unfold JoinOk;rw[Sn];unfold PySem.Builtin.Str.tooLong;have:PySem.sizeLine=16777216:=rfl;simp;exact bR h
theorem SJ:∀ s:Txt,(List.map (fun c=>[GQ c]) s).flatten=Ez s:=by
 intro q1_
 induction q1_ with
 | nil=>exact rfl
 | cons a s ih_=>have:=ih_;rw[List.map_cons,List.flatten_cons,this];rfl
theorem Qt(s:Txt)(xs:List V)(st:St):BS (.str s) 4 [.lst xs] st=(Ew xs).bind fun ts=>A9 (JoinOk (AR s) (ts.map AR)) (some (.str (PySem.Txt.join (AR s) (ts.map AR)).cps.toList,st)):=by kernel_rfl
theorem Ua{s:Txt}{ts:List Txt}(h:JoinOk (AR s) (ts.map AR)=true)(st:St):BS (.str s) 4 [.lst (Ag ts)] st=some (.str (PySem.Txt.join (AR s) (ts.map AR)).cps.toList,st):=by rw[Qt,K4];show A9 _ _=_;rw[h];rfl
theorem TF:∀ s:Txt,(List.map (fun(t:Txt)=>t.length+([]:Txt).length) (List.map (fun c=>[GQ c]) s)).sum=s.length:=by
 intro q1_
 induction q1_ with
 | nil=>exact rfl
 | cons a s ih_=>rw[List.map_cons,List.map_cons,List.sum_cons,ih_,List.length_cons,Nat.add_comm];rfl
theorem SK{s:Txt}(hl:s.length≤100000)(st:St):BS (.str []) 4 [.lst (Ag (s.map fun c=>[GQ c]))] st=some (.str (Ez s),st):=by rw[Ua (Vr (by rw[TF];exact bb hl)),QW,SJ]
theorem RH(n:Nat)(s:Txt)(st:St)(hl:s.length≤100000):AP CT FT (n+1) 81 [.str s] st=some (.str (Ez s),st) :=
 AK 1 1 Jx [.l (SL n (AW (inner st) []) s none),.gu (Bf (s.map fun c=>V.str [c]).length (by rw[List.length_map];exact hl)),.p (SK hl)] rfl rfl (by kernel_rfl) rfl
noncomputable def hCap (n:Nat) {s:Txt} (hl:s.length≤100000):H:=.p fun st=>RH n s st hl
end SL1
section SL2
open PySem
noncomputable def AB(s:Txt):Nat:=(s.takeWhile BW).length
theorem MT{c:Nat}{s:Txt}(h:BW c=true):AB (c::s)=AB s+1:=by unfold AB;rw[List.takeWhile_cons_of_pos h];rfl
theorem OL{c:Nat}{s:Txt}(h:BW c=false):AB (c::s)=0:=by unfold AB;rw[List.takeWhile_cons_of_neg (by rw[h];decide)];rfl
theorem Mk(n:Nat)(row:Txt)(hl:row.length≤100000)(st:St):∀(s:Txt) (a k:Nat),row.drop a=s→s.length<k →
  BP (fun μ st=>ev CT (AP CT FT (n+2)) μ st Fe) (fun μ st=>exs CT (AP CT FT (n+2)) μ st Hu) k [some (.str row),some (.int a),none,none] st=some ((.next,[some (.str row),some (.int (a+AB s:Nat)),none,none]),st):=by
 intro q1_
 induction q1_ with
 | nil =>
  intro a q2_;cases q2_ with
  | zero=>intro _ h;exact absurd h (Nat.not_lt_zero _)
  | succ k =>
   intro h _;have h1:¬ a<row.length:=by intro q;rw[List.drop_eq_getElem_cons q] at h;cases (h)
   exact D0 (Iz [hLen hl,.br (XF h1)] (by kernel_rfl)) rfl
 | cons c s ih_ =>
  intro a q3_;cases q3_ with
  | zero=>intro _ h;exact absurd h (Nat.not_lt_zero _)
  | succ k =>
   intro h hk;have hv:ev CT (AP CT FT (n+2)) [some (.str row),some (.int a),none,none] st Fe=some (.bool (BW c),st):=Iz [hLen hl,.br (XG (Cu h)),hIdx h hl,hPart n c] (by kernel_rfl)
   cases hc:BW c with
   | false=>rw[OL hc];exact D0 hv hc
   | true =>
    rw[MT hc,show a+(AB s+1)=a+1+AB s from by exact XN]
    exact K8 hv hc (BN [] (by kernel_rfl)) (ih_ (a+1) k (A3 h) (Nat.lt_of_succ_lt_succ hk))
theorem H0(n:Nat){row s:Txt}{a:Nat}(h:row.drop a=s)(hl:row.length<100000)(st:St):AP CT FT (n+3) 88 [.str row,.int a] st=some (.int (a+AB s:Nat),st):=by
 have hs:s.length<W:=by rw[← h,List.length_drop];exact Nat.lt_of_le_of_lt (Nat.sub_le _ _) hl
 exact AK 2 4 Jz [.f (Mk n row (Nat.le_of_lt hl) (AW (inner st) []) s a W h hs)] rfl rfl (by kernel_rfl) rfl
noncomputable def hRun (n:Nat) {row s:Txt} {a:Nat} (h:row.drop a=s) (hl:row.length<100000):H:=.p fun st=>H0 n h hl st
end SL2
section SL3
open PySem
noncomputable def L3(s:Txt)(c:Nat):Int:=match s.findIdx? (fun x=>Nat.beq x c) with
 | some i=>(i:Int)
 | none=>-1
theorem S5(s:Txt)(c:Nat):PySem.Txt.find (AR s) (AR [c])=L3 s c:=by
 have hat:∀ i,StrLaws.At (AR s) (AR [c]) (AR s).length i↔s[i]?=some c:=fun i=>by
  have:=StrLaws.subAt_one (AR s) c i;have e:(AR s).cps.toList=s:=by simp [AR]
  exact this
 unfold PySem.Txt.find L3;rcases StrLaws.occ_head (AR s) (AR [c]) 1 (Nat.le_refl _) with⟨h0,hn⟩ | ⟨i,r,h0,hi,hk⟩
 ·rw[h0];have:s.findIdx? (fun x=>Nat.beq x c)=none:=by
   rw[List.findIdx?_eq_none_iff];intro x hx;obtain⟨i,h⟩:=List.mem_iff_getElem?.mp hx;cases q:Nat.beq x c with
   | false=>rfl
   | true=>exact absurd ((hat i).mpr (by rw[h,Nat.eq_of_beq_eq_true q])) (hn i)
  rw[this]
 ·rw[h0];have h1:=(hat i).mp hi;obtain⟨hlt,he⟩:=List.getElem?_eq_some_iff.mp h1;have:s.findIdx? (fun x=>Nat.beq x c)=some i:=by
   rw[List.findIdx?_eq_some_iff_getElem];refine⟨hlt,by simp [he],fun j hj=>?_⟩
   intro q;have hjl:j<s.length:=by exact aT hlt hj
   have:=Nat.eq_of_beq_eq_true q;exact hk j hj ((hat j).mpr (by rw[List.getElem?_eq_getElem hjl,this]))
  rw[this]
noncomputable def K9:Txt:=[48,49,50,51,52,53,54,55,56,57,65,66,67,68,69,70]
noncomputable def dv(base:Int):Txt→Int→Option Int
 | [],acc=>some acc
 | c::s,acc=>match decide (L3 K9 c<0)||decide (base≤L3 K9 c) with
  | true=>none
  | false=>dv base s (acc*base+L3 K9 c)
noncomputable def Hy(figs:Txt)(base:Int):V:=match dv base figs 0 with
 | none=>.none
 | some x=>match figs with
  | []=>.none
  | _::_=>.int x
set_option tactic.hygienic true in
theorem Vi(c:Nat):L3 K9 c≤15:=by
 unfold L3;split
 ·rename_i i h;obtain⟨hlt,_⟩:=List.findIdx?_eq_some_iff_getElem.mp h;have:K9.length=16:=rfl;omega
 ·exact cL
theorem WF{a b:Int}{st:St}(ha:small a=true)(hb:small b=true):B7 .Mult (.int a) (.int b) st=some (.int (a*b)):=by unfold B7;dsimp only;rw[ha,hb];rfl
theorem YG{base acc:Int}{c:Nat}{s:Txt}:dv base (c::s) acc=(match decide (L3 K9 c<0)||decide (base≤L3 K9 c) with | true=>none | false=>dv base s (acc*base+L3 K9 c)):=rfl
theorem UW(n:Nat)(body:AG→St→M (Fl×AG))(hbody:∀ μ st,body μ st=exs CT (AP CT FT n) μ st EX)(base:Int)(hb:2≤base∧base≤16)(figs:Txt)(st:St):∀(s:Txt) (acc:Int) (k:Nat) (u4 u3:Option V),0≤acc→acc<((16 ^ k:Nat):Int)→k+s.length≤15 →
  ∃ fl u v w,Bn (.loc 3) body (s.map fun c=>V.str [c]) [some (.str figs),some (.int base),some (.int acc),u3,u4,none] st=some ((fl,[some (.str figs),some (.int base),u,v,w,none]),st)∧match dv base s acc with
   | none=>fl=.ret .none
   | some x=>fl=.next∧u=some (.int x):=by
 intro q1_
 induction q1_ with
 | nil=>intro acc k u4 u3 h0 h1 h2;exact⟨_,_,_,_,rfl,rfl,rfl⟩
 | cons c s ih_ =>
  intro acc k u4 u3 h0 h1 h2;have hp:(16:Nat) ^ k≤16 ^ 15:=Nat.pow_le_pow_right (by exact bq) (by simp at h2;exact Zy h2)
  have hsm:small acc=true:=by
   unfold small;rw[Bool.and_eq_true,decide_eq_true_eq,decide_eq_true_eq];have:(16:Nat) ^ 15<2 ^ 62:=by decide
   exact p45 h0 h1 hp
  have hsb:small base=true:=by unfold small;rw[Bool.and_eq_true,decide_eq_true_eq,decide_eq_true_eq];exact p67 hb
  have hfl:=Vi c;have hfd (st:St):BS (.str [48,49,50,51,52,53,54,55,56,57,65,66,67,68,69,70]) 3 [.str [c]] st=some (.int (L3 K9 c),st):=by rw[show L3 K9 c=_ from(S5 K9 c).symm];kernel_rfl
  have hm:B7 .Mult (.int acc) (.int base) st=some (.int (acc*base)):=WF hsm hsb;rw[List.map_cons,YG];cases q1:decide (L3 K9 c<0) with
  | true=>exact⟨.ret .none,some (.int acc),some (.str [c]),some (.int (L3 K9 c)),Kq rfl ((hbody _ _).trans (BN [.p hfd,.br q1] (by kernel_rfl))),rfl⟩
  | false =>
   cases q2:decide (base≤L3 K9 c) with
   | true=>exact⟨.ret .none,some (.int acc),some (.str [c]),some (.int (L3 K9 c)),Kq rfl ((hbody _ _).trans (BN [.p hfd,.br q1,.br q2] (by kernel_rfl))),rfl⟩
   | false =>
    have hb1:acc*base≤acc*16:=Int.mul_le_mul_of_nonneg_left hb.2 h0;have hb0:0≤acc*base:=Int.mul_nonneg h0 (by exact p73 hb)
    have hpow:(16:Nat) ^ (k+1)=16 ^ k*16:=Nat.pow_succ ..;have q3:=of_decide_eq_false q1;obtain⟨fl,u,v,w,i1,i2⟩:=ih_ (acc*base+L3 K9 c) (k+1) (some (.int (L3 K9 c))) (some (.str [c])) (by clear hfd hm hsm hsb q1 q2;exact p29 hb0 q3) (by clear hfd hm hsm hsb q1 q2;omega) (by rw[List.length_cons] at h2;clear hfd hm hsm hsb q1 q2;exact Zb h2)
    exact⟨fl,u,v,w,DR rfl ((hbody _ _).trans (BN [.p hfd,.br q1,.br q2,.o hm] (by kernel_rfl))) i1,i2⟩
theorem HO(figs:Txt)(base:Int):AN (Hy figs base)=true:=by
 unfold Hy;cases dv base figs 0 with
 | none=>rfl
 | some x=>cases (figs)<;>rfl
theorem Cb(n:Nat)(figs:Txt)(base:Int)(hb:2≤base∧base≤16)(hl:figs.length≤15)(st:St):AP CT FT (n+1) 95 [.str figs,.int base] st=some (Hy figs base,st):=by
 refine X9 (UW n _ (fun _ _=>rfl) base hb figs (AW (inner st) []) figs 0 0 none none (by exact cJ) (by decide) (by exact bL hl)) fun fl u v w h1 h2=>?_
 have hg:Nat.ble (figs.map fun c=>V.str [c]).length Cs=true:=Bf _ (by rw[List.length_map];exact XT hl)
 have hv:=HO figs base;unfold Hy at hv ⊢;cases hd:dv base figs 0 with
 | none=>rw[hd] at h2;cases h2;exact AK 2 6 C2 [.f h1,.gu hg] rfl rfl (by kernel_rfl) rfl
 | some x =>
  rw[hd] at h2;rfl';obtain⟨rfl,rfl⟩:=h2;cases figs with
  | nil=>exact AK 2 6 C2 [.f h1,.gu hg] rfl rfl (by kernel_rfl) rfl
  | cons a r=>exact AK 2 6 C2 [.f h1,.gu hg] rfl rfl (by kernel_rfl) rfl
noncomputable def hDig (n:Nat) (figs:Txt) {base:Int} (hb:2≤base∧base≤16) (hl:figs.length≤15):H:=.p fun st=>Cb n figs base hb hl st
end SL3
section SL4
open PySem
theorem ES{s:Txt}{k:Int}{st:St}(h:0≤k)(hl:s.length≤100000):Bg (.str s) .none (.int k) st=some (.str (s.take k.toNat)):=by
 unfold Bg DF;dsimp only;rw[Bf _ hl];dsimp only[Dk,Option.map];rw[decide_eq_true h];dsimp only[Option.map];rw[List.drop_zero]
 congr 2
 rcases Nat.le_total k.toNat s.length with q | q
 ·rw[Nat.min_eq_left q]
 ·rw[Nat.min_eq_right q,List.take_of_length_le (Nat.le_refl _),List.take_of_length_le q]
theorem K2{s:Txt}{k:Int}{st:St}(h:0≤k)(hl:s.length≤100000):Bg (.str s) (.int k) .none st=some (.str (s.drop k.toNat)):=by
 unfold Bg DF;dsimp only;rw[Bf _ hl];dsimp only[Dk,Option.map];rw[decide_eq_true h];dsimp only[Option.map];rw[List.take_of_length_le (Nat.le_refl _)]
 congr 2
 rcases Nat.le_total k.toNat s.length with q | q
 ·rw[Nat.min_eq_left q]
 ·rw[Nat.min_eq_right q,List.drop_eq_nil_of_le (Nat.le_refl _),List.drop_eq_nil_of_le q]
theorem O4{s:Txt}{st:St}(hl:s.length≤100000):Bg (.str s) .none (.int (-1)) st=some (.str (s.take (s.length - 1))):=by
 unfold Bg DF;dsimp only;rw[Bf _ hl];dsimp only[Dk,Option.map];rw[decide_eq_false (by exact XY:¬(0:Int)≤-1)]
 dsimp only[Option.map];rw[List.drop_zero]
 congr 3
 exact p3
theorem MH{s:Txt}{c:Nat}{st:St}(h:s.getLast?=some c)(hl:s.length≤100000):BR (.str s) (.int (-1)) st=some (.str [c]):=by
 have hne:s≠[]:=by intro z;subst z;cases h
 have hpos:0<s.length:=List.length_pos_iff.mpr hne;unfold BR;dsimp only;have hp:GG (-1) s.length=some (s.length - 1):=by
  unfold GG;rw[decide_eq_false (by exact XY:¬(0:Int)≤-1),decide_eq_true (by omega:-(s.length:Int)≤-1)]
  dsimp only
  congr 1
  exact p3
 rw[hp,show small (-1)=true from by decide]
 dsimp only;rw[List.getLast?_eq_getElem?] at h;rw[h]
theorem E7(f:Txt)(b:Int):Hy f b=.none∨∃ x,Hy f b=.int x:=by
 unfold Hy;split
 ·exact .inl rfl
 ·split
  ·exact .inl rfl
  ·exact .inr ⟨_,rfl⟩
noncomputable def BK:List Txt:=[[72],[66],[79],[81],[68]]
noncomputable def BV:List V:=[.int 16,.int 2,.int 8,.int 8,.int 10]
theorem NV(c:Txt):Aq BK BV c=none∨∃ b:Int,Aq BK BV c=some (.int b)∧2≤b∧b≤16:=by
 unfold BK BV;by_cases h1:[72]=c
 ·exact .inr ⟨16,SS h1,by decide⟩
 by_cases h2:[66]=c
 ·exact .inr ⟨2,(D7 h1).trans (SS h2),by decide⟩
 by_cases h3:[79]=c
 ·exact .inr ⟨8,(D7 h1).trans ((D7 h2).trans (SS h3)),by decide⟩
 by_cases h4:[81]=c
 ·exact .inr ⟨8,(D7 h1).trans ((D7 h2).trans ((D7 h3).trans (SS h4))),by decide⟩
 by_cases h5:[68]=c
 ·exact .inr ⟨10,(D7 h1).trans ((D7 h2).trans ((D7 h3).trans ((D7 h4).trans (SS h5)))),by decide⟩
 ·exact .inl ((D7 h1).trans ((D7 h2).trans ((D7 h3).trans ((D7 h4).trans (D7 h5)))))
noncomputable def KT(told:Txt):V:=match decide (told.take 2=[48,88]) with
 | true=>Hy (told.drop 2) 16
 | false=>match Hy told 10 with
  | .int x=>.int x
  | _=>match told.getLast? with
   | none=>.none
   | some c=>match Aq BK BV [c] with
    | some (.int b)=>Hy (told.take (told.length - 1)) b
    | _=>.none
theorem MW(f:Txt):KT f=.none∨∃ x,KT f=.int x:=by
 unfold KT;split
 ·exact E7 _ _
 ·split
  ·exact .inr ⟨_,rfl⟩
  ·split
   ·exact .inl rfl
   ·split
    ·exact E7 _ _
    ·exact .inl rfl
theorem Mb(n:Nat)(told:Txt)(hne:told≠[])(hl:told.length≤15)(st:St):AP CT FT (n+2) 102 [.str told] st=some (KT told,st):=by
 obtain⟨c,hc⟩:∃ c,told.getLast?=some c:=by
  cases q:told.getLast? with
  | none=>exact absurd (List.getLast?_eq_none_iff.mp q) hne
  | some c=>exact⟨c,rfl⟩
 have hl1:told.length≤100000:=by exact XT hl
 have hl2:(told.drop 2).length≤15:=by rw[List.length_drop];exact p62 hl
 have hl3:(told.take (told.length - 1)).length≤15:=by rw[List.length_take];exact p52 hl
 unfold KT;cases q1:decide (told.take 2=[48,88]) with
 | true=>exact AK 1 4 DE [.v fun st=>ES (st:=st) (by decide:(0:Int)≤2) hl1,.br q1,.v fun st=>K2 (st:=st) (by decide:(0:Int)≤2) hl1,hDig n (told.drop 2) (base:=16) (by decide) hl2] rfl rfl (by kernel_rfl) (HO _ _)
 | false =>
  rcases E7 told 10 with h | ⟨x,h⟩
  ·have hd (st:St):AP CT FT (n+1) 95 [.str told,.int 10] st=some (.none,st):=by rw[Cb n told 10 (by decide) hl,h]
   have hg:(AW (inner st) [.dict BK BV]).get ((inner st).next+0)=some (.dict BK BV):=BB (inner st) [.dict BK BV] 0;have hm:=WG hg [c];rw[h,hc];dsimp only;rcases NV [c] with hb | ⟨b,hb,hb2⟩
   ·rw[hb] at hm ⊢;exact AK 1 4 DE [.v fun st=>ES (st:=st) (by decide:(0:Int)≤2) hl1,.br q1,.p hd,NI (inner st) [] (.dict BK BV),.mo (WE hg 2),.gu (Vx hg),.v fun st=>MH (st:=st) hc hl1,.m hm] rfl rfl (by kernel_rfl) rfl
   ·rw[hb] at hm ⊢;exact AK 1 4 DE [.v fun st=>ES (st:=st) (by decide:(0:Int)≤2) hl1,.br q1,.p hd,NI (inner st) [] (.dict BK BV),.mo (WE hg 2),.gu (Vx hg),.v fun st=>MH (st:=st) hc hl1,.m hm,.v fun st=>O4 (st:=st) hl1,hDig n (told.take (told.length - 1)) hb2 hl3] rfl rfl (by kernel_rfl) (HO _ _)
  ·have hd (st:St):AP CT FT (n+1) 95 [.str told,.int 10] st=some (.int x,st):=by rw[Cb n told 10 (by decide) hl,h]
   rw[h];exact AK 1 4 DE [.v fun st=>ES (st:=st) (by decide:(0:Int)≤2) hl1,.br q1,.p hd] rfl rfl (by kernel_rfl) rfl
end SL4
section SL5
open PySem
theorem IS(s:Txt):(Ez s).length=s.length:=List.length_map _
noncomputable def B4(c:Nat)(r:Txt):Bool:=match r with
 | []=>false
 | d::_=>match decide ([c]=[36]) with
  | true=>K9.contains (GQ d)
  | false=>decide ([c]=[37])&&(decide ([48]=[GQ d])||decide ([49]=[GQ d]))
theorem Jm(n:Nat){row r:Txt}{c a:Nat}(h:row.drop a=c::r)(hl:row.length≤100000)(st:St):AP CT FT (n+2) 123 [.str row,.int a] st=some (.bool (B4 c r),st):=by
 have hlen:(r.take 1).length≤100000:=by rw[List.length_take];exact p63
 unfold B4;cases r with
 | nil =>
  rfl';cases q:decide ([c]=[36]) with
  | true=>exact AK 2 5 BU [hSl 1 (A3 h) hl,hCap n hlen,hIdx h hl,.br q] rfl rfl (by kernel_rfl) rfl
  | false =>
   rfl';cases q2:decide ([c]=[37]) with
   | true=>exact AK 2 5 BU [hSl 1 (A3 h) hl,hCap n hlen,hIdx h hl,.br q,hIdx h hl,.br q2] rfl rfl (by kernel_rfl) rfl
   | false=>exact AK 2 5 BU [hSl 1 (A3 h) hl,hCap n hlen,hIdx h hl,.br q,hIdx h hl,.br q2] rfl rfl (by kernel_rfl) rfl
 | cons d r =>
  dsimp only;rw[← Bool.or_false (decide ([49]=[GQ d]))];cases q:decide ([c]=[36]) with
  | true=>exact AK 2 5 BU [hSl 1 (A3 h) hl,hCap n hlen,hIdx h hl,.br q] rfl rfl (by kernel_rfl) rfl
  | false =>
   cases q2:decide ([c]=[37]) with
   | true=>exact AK 2 5 BU [hSl 1 (A3 h) hl,hCap n hlen,hIdx h hl,.br q,hIdx h hl,.br q2] rfl rfl (by kernel_rfl) rfl
   | false=>exact AK 2 5 BU [hSl 1 (A3 h) hl,hCap n hlen,hIdx h hl,.br q,hIdx h hl,.br q2] rfl rfl (by kernel_rfl) rfl
noncomputable def hPref (n:Nat) {row r:Txt} {c a:Nat} (h:row.drop a=c::r) (hl:row.length≤100000):H:=.p fun st=>Jm n h hl st
noncomputable def F7(c:Nat)(r:Txt):Option (Int×Nat):=match ([36,37]:Txt).contains c with
 | true=>match decide (AB r≤15) with
  | false=>none
  | true=>match Hy (Ez (r.take (AB r))) (match decide ([c]=[36]) with | true=>16 | false=>2) with
   | .int x=>match decide (65535<x) with
    | true=>none
    | false=>some (x,AB r+1)
   | _=>none
 | false=>match decide (AB (c::r)≤15)&&decide (1≤AB (c::r)) with
  | false=>none
  | true=>match KT (Ez ((c::r).take (AB (c::r)))) with
   | .int x=>match decide (65535<x) with
    | true=>none
    | false=>some (x,AB (c::r))
   | _=>none
theorem JK(s:Txt):AB s≤s.length:=by
 unfold AB
 induction s with
 | nil=>exact Nat.le_refl _
 | cons c s ih =>
  rw[List.takeWhile_cons];split
  ·exact Xn ih
  ·exact Nat.zero_le _
theorem Ma(n:Nat){row r:Txt}{c a:Nat}(h:row.drop a=c::r)(hl:row.length<100000)(st:St){x:Int}{k:Nat}(hn:F7 c r=some (x,k)) :
  AP CT FT (n+4) 116 [.str row,.int a] st=some (.tup [.tup [.str [110,117,109,98,101,114],.int x],.int (a+k:Nat)],st):=by
 have hl':row.length≤100000:=by exact XR hl
 refine bT hn (fun hn q=>?_) (fun hn q=>?_)
 ·cases q2:decide (AB r≤15) with
  | false=>rw[q2] at hn;cases hn
  | true =>
   rw[q2] at hn;dsimp only at hn;have hk:=of_decide_eq_true q2;have hlen:(r.take (AB r)).length≤100000:=by rw[List.length_take];exact p19 hk
   have hlen2:(Ez (r.take (AB r))).length≤15:=by rw[IS,List.length_take];exact p17 hk
   have hne:decide (((a+1:Nat):Int)=(a:Int))=false:=decide_eq_false (by omega)
   have fin:∀ b:Int,(2≤b∧b≤16)→(match Hy (Ez (r.take (AB r))) b with | .int x=>(match decide (65535<x) with | true=>none | false=>some (x,AB r+1)) | _=>none)=some (x,k) →
     (∀ st,AP CT FT (n+3) 95 [.str (Ez (r.take (AB r))),.int b] st=some (.int x,st))∧k=AB r+1∧decide (65535<x)=false:=by
    intro b hb hh;rfl';rcases E7 (Ez (r.take (AB r))) b with z | ⟨y,z⟩
    ·rw[z] at hh;cases hh
    ·rw[z] at hh;dsimp only at hh;refine bT hh (fun hh q3=>?_) (fun hh q3=>?_)
     ·cases (hh)
     ·cases hh;exact⟨fun st=>by rw[Cb (n+2) _ b hb hlen2,z],rfl,q3⟩
   cases q4:decide ([c]=[36]) with
   | true =>
    rw[q4] at hn;obtain⟨g1,rfl,g3⟩:=fin 16 (by decide) hn
    rw[show a+(AB r+1)=a+1+AB r from by exact XN]
    exact AK 2 11 Do [hIdx h hl',.br q,hRun n (A3 h) hl,hSl (AB r) (A3 h) hl',hCap (n+2) hlen,.br hne,hIdx h hl',.br q4,.p g1,.nb,.br g3] rfl rfl (by kernel_rfl) rfl
   | false =>
    rw[q4] at hn;obtain⟨g1,rfl,g3⟩:=fin 2 (by decide) hn
    rw[show a+(AB r+1)=a+1+AB r from by exact XN]
    exact AK 2 11 Do [hIdx h hl',.br q,hRun n (A3 h) hl,hSl (AB r) (A3 h) hl',hCap (n+2) hlen,.br hne,hIdx h hl',.br q4,.p g1,.nb,.br g3] rfl rfl (by kernel_rfl) rfl
 ·cases q2:decide (AB (c::r)≤15)&&decide (1≤AB (c::r)) with
  | false=>rw[q2] at hn;cases hn
  | true =>
   rw[q2] at hn;dsimp only at hn;obtain⟨k1,k2⟩:=Bool.and_eq_true_iff.mp q2;have k1:=of_decide_eq_true k1;have k2:=of_decide_eq_true k2;have hle:=JK (c::r);have hlen:((c::r).take (AB (c::r))).length≤100000:=by rw[List.length_take];exact p19 k1
   have hlen2:(Ez ((c::r).take (AB (c::r)))).length≤15:=by rw[IS,List.length_take];exact p17 k1
   have hne:Ez ((c::r).take (AB (c::r)))≠[]:=by intro z;have:=congrArg List.length z;rw[IS,List.length_take] at this;simp only[List.length_nil] at this;omega
   have heq:decide ((a:Int)=(a:Int))=true:=decide_eq_true rfl;rcases MW (Ez ((c::r).take (AB (c::r)))) with z | ⟨y,z⟩
   ·rw[z] at hn;cases hn
   ·rw[z] at hn;dsimp only at hn;refine bT hn (fun hn q3=>?_) (fun hn q3=>?_)
    ·cases hn
    ·cases hn;have hno (st:St):AP CT FT (n+3) 102 [.str (Ez ((c::r).take (AB (c::r))))] st=some (.int x,st):=by rw[Mb (n+1) _ hne hlen2,z]
     exact AK 2 11 Do [hIdx h hl',.br q,hRun n h hl,hSl (AB (c::r)) h hl',hCap (n+2) hlen,.br heq,.p hno,.nb,.br q3] rfl rfl (by kernel_rfl) rfl
end SL5
section SL6
open PySem
noncomputable def LX:V:=.str [110,117,109,98,101,114]
noncomputable def Tp:V:=.str [110,97,109,101]
noncomputable def X7:V:=.str [115,105,103,110]
noncomputable def WY(x:Int):V:=.tup [LX,.int x]
noncomputable def Th(t:Txt):V:=.tup [Tp,.str t]
noncomputable def VT(c:Nat):V:=.tup [X7,.str [c]]
noncomputable def FF(x:Txt):List Txt→Bool
 | []=>false
 | y::ys=>decide (y=x)||FF x ys
noncomputable def SG:Txt:=[43,45,42,47,40,41,44,61,60,62,58,36]
noncomputable def HB(c:Nat)(r:Txt):Option (V×Nat):=match Ca c||B4 c r with
 | true=>match F7 c r with
  | some (x,k)=>some (WY x,k)
  | none=>none
 | false=>match Au c with
  | true=>match decide (Ez ((c::r).take (AB (c::r)))=[65,70])&&decide (((c::r).drop (AB (c::r))).take 1=[39]) with
   | true=>some (Th [65,70,39],AB (c::r)+1)
   | false=>some (Th (Ez ((c::r).take (AB (c::r)))),AB (c::r))
  | false=>match ([39,34]:Txt).contains c with
   | true=>none
   | false=>match FF ((c::r).take 2) [[60,62],[60,61],[62,61]] with
    | true=>none
    | false=>match SG.contains c with
     | true=>some (VT c,1)
     | false=>none
theorem OW(n:Nat){row r:Txt}{c a:Nat}(h:row.drop a=c::r)(hl:row.length<100000)(st:St){t:V}{k:Nat}(hn:HB c r=some (t,k)) :
  AP CT FT (n+5) 130 [.str row,.int a] st=some (.tup [t,.int (a+k:Nat)],st):=by
 have hl':row.length≤100000:=by exact XR hl
 rfl';refine bT hn (fun hn q=>?_) (fun hn q=>?_)
 ·cases hnum:F7 c r with
  | none=>rw[hnum] at hn;cases hn
  | some p =>
   obtain⟨x,k'⟩:=p;rw[hnum] at hn;cases hn;have hna (st:St):=Ma n h hl st hnum;cases q1:Ca c with
   | true=>exact AK 2 16 CM [hIdx h hl',hFig (n+3) c,.br q1,.p hna] rfl rfl (by kernel_rfl) rfl
   | false =>
    have q2:B4 c r=true:=by rw[q1] at q;exact q
    exact AK 2 16 CM [hIdx h hl',hFig (n+3) c,.br q1,hPref (n+2) h hl',.br q2,.p hna] rfl rfl (by kernel_rfl) rfl
 ·obtain⟨q1,q2⟩:=Bool.or_eq_false_iff.mp q;have hle:=JK (c::r);have hlen:((c::r).take (AB (c::r))).length≤100000:=by rw[List.length_take,← h,List.length_drop];exact p1 hl
  cases q3:Au c with
  | true =>
   rw[q3] at hn;dsimp only at hn;cases q4:decide (Ez ((c::r).take (AB (c::r)))=[65,70]) with
   | true =>
    rw[q4] at hn;refine bT hn (fun hn q5=>?_) (fun hn q5=>?_)
    ·cases (hn);exact AK 2 16 CM [hIdx h hl',hFig (n+3) c,.br q1,hPref (n+2) h hl',.br q2,hBeg (n+3) c,.br q3,hRun (n+1) h hl,hSl (AB (c::r)) h hl',hCap (n+3) hlen,.br q4,hSl 1 (B3 (AB (c::r)) h) hl',.br q5] rfl rfl (by kernel_rfl) rfl
    ·cases (hn);exact AK 2 16 CM [hIdx h hl',hFig (n+3) c,.br q1,hPref (n+2) h hl',.br q2,hBeg (n+3) c,.br q3,hRun (n+1) h hl,hSl (AB (c::r)) h hl',hCap (n+3) hlen,.br q4,hSl 1 (B3 (AB (c::r)) h) hl',.br q5] rfl rfl (by kernel_rfl) rfl
   | false=>rw[q4] at hn;cases hn;exact AK 2 16 CM [hIdx h hl',hFig (n+3) c,.br q1,hPref (n+2) h hl',.br q2,hBeg (n+3) c,.br q3,hRun (n+1) h hl,hSl (AB (c::r)) h hl',hCap (n+3) hlen,.br q4] rfl rfl (by kernel_rfl) rfl
  | false =>
   rw[q3] at hn;dsimp only at hn;cases q4:([39,34]:Txt).contains c with
   | true=>rw[q4] at hn;cases hn
   | false =>
    rw[q4] at hn;dsimp only at hn;refine bT hn (fun hn q5=>?_) (fun hn q5=>?_)
    ·cases hn
    ·cases q6:SG.contains c with
     | false=>rw[q6] at hn;cases hn
     | true=>rw[q6] at hn;cases hn;exact AK 2 16 CM [hIdx h hl',hFig (n+3) c,.br q1,hPref (n+2) h hl',.br q2,hBeg (n+3) c,.br q3,.br q4,hSl 2 h hl',.br q5,.br q6] rfl rfl (by kernel_rfl) rfl
noncomputable def hTok (n:Nat) {row r:Txt} {c a:Nat} (h:row.drop a=c::r) (hl:row.length<100000) {t:V} {k:Nat} (hn:HB c r=some (t,k)):H:=.p fun st=>OW n h hl st hn
noncomputable def toks:Nat→Txt→Option (List V)
 | 0,_=>none
 | _+1,[]=>some []
 | k+1,c::r=>match decide ([c]=[59]) with
  | true=>some []
  | false=>match ([32,9,13]:Txt).contains c with
   | true=>toks k r
   | false=>match HB c r with
    | none=>none
    | some (t,m)=>match toks k ((c::r).drop m) with
     | some ts=>some (t::ts)
     | none=>none
theorem Oi{c:Nat}{r:Txt}{t:V}{m:Nat}(h:HB c r=some (t,m)):AN t=true:=by
 unfold HB at h;rfl';split at h
 ·split at h<;>cases h;rfl
 ·split at h
  ·split at h<;>cases h<;>rfl
  ·split at h
   ·cases h
   ·split at h
    ·cases h
    ·split at h<;>cases h;rfl
theorem WZ{k c:Nat}{r:Txt}:toks (k+1) (c::r)=(match decide ([c]=[59]) with | true=>some [] | false=>match ([32,9,13]:Txt).contains c with | true=>toks k r | false=>match HB c r with | none=>none | some (t,m)=>match toks k ((c::r).drop m) with | some ts=>some (t::ts) | none=>none):=rfl
set_option tactic.hygienic true in
theorem R5:∀{k:Nat} {s:Txt} {ts:List V},toks k s=some ts→refFrees ts=true:=by
 intro q1_
 induction q1_ with
 | zero=>intro _ _ h;cases h
 | succ k ih_ =>
  intro q2_;cases q2_ with
  | nil=>intro _ h;cases h;rfl
  | cons c r =>
   intro ts h;refine bT (b:=decide ([c]=[59])) h (fun h _=>B8 h fun z=>(by rw[z];rfl)) fun h _=>bT h (fun h _=>ih_ h) fun h _=>tmL h fun t m hm h=>itL h fun ts' hts h=>B8 h fun z=>?_
   rw[z];show(AN t&&refFrees ts')=true;rw[Oi hm,ih_ hts];rfl
theorem R6(n:Nat)(test:AG→St→M V)(body:AG→St→M (Fl×AG))(ht:∀ μ st,test μ st=ev CT (AP CT FT (n+5)) μ st EI)(hb:∀ μ st,body μ st=exs CT (AP CT FT (n+5)) μ st GK)(row:Txt)(hl:row.length<100000)(σ:St)(h1:σ.lo≤σ.next)(h2:σ.ro≤σ.next) :
  ∀(k:Nat) (s:Txt) (a:Nat) (acc ts:List V) (u:Option V) (w:Nat),row.drop a=s→toks k s=some ts→k≤w→acc.length+ts.length≤1000 →
   ∃ u' a',BP test body w [some (.str row),some (.ref σ.next),some (.int (a:Nat)),u,none,none] (AW σ [.list acc])=some ((.next,[some (.str row),some (.ref σ.next),a',u',none,none]),AW σ [.list (acc++ts)]):=by
 intro q1_
 induction q1_ with
 | zero=>intro s a acc ts u w h hk hw hlen;cases hk
 | succ k ih_ =>
  intro q2_;cases q2_ with
  | nil =>
   intro a acc ts u w h hk hw hlen;cases hk;have hnl:¬ a<row.length:=by intro q;rw[List.drop_eq_getElem_cons q] at h;cases (h)
   cases w with
   | zero=>exact(o74 hw).elim
   | succ w=>exact Wg u _ (by rw[List.append_nil];exact D0 ((ht _ _).trans (Iz [hLen (Nat.le_of_lt hl),.br (XF hnl)] (by kernel_rfl))) rfl)
  | cons c r =>
   intro a acc ts u w h hk hw hlen;have hl':row.length≤100000:=Nat.le_of_lt hl;rfl';cases w with
   | zero=>exact(o74 hw).elim
   | succ w =>
    have hv (st:St):ev CT (AP CT FT (n+5)) [some (.str row),some (.ref σ.next),some (.int (a:Nat)),u,none,none] st EI=some (.bool (!decide ([c]=[59])),st):=Iz [hLen hl',.br (XG (Cu h)),hIdx h hl'] (by kernel_rfl)
    refine bT hk (fun hk q1=>?_) (fun hk q1=>?_)
    ·cases hk;exact Wg u _ (by rw[List.append_nil];exact D0 ((ht _ _).trans (hv _)) (by rw[q1];rfl))
    ·have q1':(!decide ([c]=[59]))=true:=by rw[q1];rfl
     refine bT hk (fun hk q2=>?_) (fun hk q2=>?_)
     ·refine NK (ih_ r (a+1) acc ts u w (A3 h) hk (Nat.le_of_succ_le_succ hw) hlen) fun u' a' i1=>?_;exact Wg u' a' (K8 ((ht _ _).trans (hv _)) q1' ((hb _ _).trans (BN [hIdx h hl',.br q2] (by kernel_rfl))) i1)
     ·cases hm:HB c r with
      | none=>rw[hm] at hk;cases hk
      | some p =>
       obtain⟨t,m⟩:=p;rw[hm] at hk;dsimp only at hk;cases hts:toks k ((c::r).drop m) with
       | none=>rw[hts] at hk;cases hk
       | some ts' =>
        rw[hts] at hk;cases hk;refine NK (ih_ ((c::r).drop m) (a+m) (acc++[t]) ts' (some t) w (B3 m h) hts (Nat.le_of_succ_le_succ hw) (by rw[List.length_append,List.length_singleton];exact Z8 hlen)) fun u' a' i1=>?_
        rw[List.append_assoc] at i1;have hg:=A0 σ [.list acc];exact Wg u' a' (K8 ((ht _ _).trans (hv _)) q1' ((hb _ _).trans (BN [hIdx h hl',.br q2,hTok n h hl hm,.mo (MS hg 0),.gu (MM hg 0 rfl),.m (G6 (acc:=acc) (l:=[]) t h1 h2 (by exact Zi hlen))] (by kernel_rfl))) i1)
theorem Mf(n:Nat){row:Txt}{ts:List V}{k:Nat}(hl:row.length<100000)(h:toks k row=some ts)(hk:k≤100000)(hn:ts.length<39)(st:St):AP CT FT (n+6) 137 [.str row] st=some (.lst ts,st):=by
 refine NK (R6 n _ _ (fun _ _=>rfl) (fun _ _=>rfl) row hl (inner st) (C9 st) (Bc st) k row 0 [] ts none W rfl h hk (by rw[List.length_nil];exact o81 hn)) fun u' a' hw=>?_
 exact P2 1 6 Hd [NI (inner st) [] (.list []),.f hw] rfl rfl (by kernel_rfl) (HX (st:=inner st) (l:=[.list ts]) rfl (R5 h) hn)
theorem KZ(n:Nat)(a b:Txt)(c:Txt)(st:St):AP CT FT (n+1) 144 [.tup [.str a,.str b],.str c] st=some (.bool (decide (a=[115,105,103,110])&&decide (b=c)),st):=by
 cases q:decide (a=[115,105,103,110]) with
 | true=>exact AK 2 2 Fj [.br q] rfl rfl (by kernel_rfl) rfl
 | false=>exact AK 2 2 Fj [.br q] rfl rfl (by kernel_rfl) rfl
theorem Jn(n:Nat)(x:Int)(c:Txt)(st:St):AP CT FT (n+1) 144 [WY x,.str c] st=some (.bool false,st) :=
 AK 2 2 Fj [] rfl rfl (by kernel_rfl) rfl
end SL6
section SL7
open PySem
noncomputable def BD(c:Nat)(r:Txt):Nat:=match B4 c r with
 | true=>AB r+1
 | false=>AB (c::r)
noncomputable def AH(c:Nat)(r:Txt):Nat:=match decide (Ez ((c::r).take (BD c r))=[65,70])&&decide (((c::r).drop (BD c r)).take 1=[39]) with
 | true=>BD c r+1
 | false=>BD c r
theorem OS(n:Nat){row r:Txt}{c a:Nat}(h:row.drop a=c::r)(hl:row.length<100000)(st:St):AP CT FT (n+4) 296 [.str row,.int a] st=some (.int (a+AH c r:Nat),st):=by
 have hl':row.length≤100000:=Nat.le_of_lt hl;unfold AH;have hlen:((c::r).take (BD c r)).length≤100000:=by rw[List.length_take,← h,List.length_drop];exact p1 hl
 cases q:B4 c r with
 | true =>
   have hre (st:St):AP CT FT (n+3) 88 [.str row,.int ((a+1:Nat):Int)] st=some (.int ((a+BD c r:Nat):Int),st):=by unfold BD;rw[q,H0 n (A3 h) hl,Nat.add_assoc,Nat.add_comm 1]
   cases q4:decide (Ez ((c::r).take (BD c r))=[65,70]) with
   | true =>
    cases q5:decide (((c::r).drop (BD c r)).take 1=[39]) with
    | true=>exact AK 2 6 CL [hPref (n+1) h hl',.br q,.p hre,hSl (BD c r) h hl',hCap (n+2) hlen,.br q4,hSl 1 (B3 (BD c r) h) hl',.br q5] rfl rfl (by kernel_rfl) rfl
    | false=>exact AK 2 6 CL [hPref (n+1) h hl',.br q,.p hre,hSl (BD c r) h hl',hCap (n+2) hlen,.br q4,hSl 1 (B3 (BD c r) h) hl',.br q5] rfl rfl (by kernel_rfl) rfl
   | false=>exact AK 2 6 CL [hPref (n+1) h hl',.br q,.p hre,hSl (BD c r) h hl',hCap (n+2) hlen,.br q4] rfl rfl (by kernel_rfl) rfl
 | false =>
   have hre (st:St):AP CT FT (n+3) 88 [.str row,.int (a:Int)] st=some (.int ((a+BD c r:Nat):Int),st):=by unfold BD;rw[q];exact H0 n h hl st
   cases q4:decide (Ez ((c::r).take (BD c r))=[65,70]) with
   | true =>
    cases q5:decide (((c::r).drop (BD c r)).take 1=[39]) with
    | true=>exact AK 2 6 CL [hPref (n+1) h hl',.br q,.p hre,hSl (BD c r) h hl',hCap (n+2) hlen,.br q4,hSl 1 (B3 (BD c r) h) hl',.br q5] rfl rfl (by kernel_rfl) rfl
    | false=>exact AK 2 6 CL [hPref (n+1) h hl',.br q,.p hre,hSl (BD c r) h hl',hCap (n+2) hlen,.br q4,hSl 1 (B3 (BD c r) h) hl',.br q5] rfl rfl (by kernel_rfl) rfl
   | false=>exact AK 2 6 CL [hPref (n+1) h hl',.br q,.p hre,hSl (BD c r) h hl',hCap (n+2) hlen,.br q4] rfl rfl (by kernel_rfl) rfl
noncomputable def hAtom (n:Nat) {row r:Txt} {c a:Nat} (h:row.drop a=c::r) (hl:row.length<100000):H:=.p fun st=>OS n h hl st
noncomputable def strip(s:Txt):Txt:=(PySem.Txt.strip (AR s)).cps.toList
noncomputable def EH:Nat→Txt→Txt→Option (List Txt)
 | 0,_,_=>none
 | _+1,[],here=>some [strip here]
 | k+1,c::r,here=>match decide (0<AH c r) with
  | true=>EH k ((c::r).drop (AH c r)) (here++(c::r).take (AH c r))
  | false=>match ([59,39,34,40,41]:Txt).contains c with
   | true=>none
   | false=>match decide (c=44) with
    | true=>match EH k r [] with
     | some l=>some (strip here::l)
     | none=>none
    | false=>EH k r (here++[c])
theorem Ks(a k:Nat):decide ((a:Int)<((a+k:Nat):Int))=decide (0<k):=by rw[Bool.eq_iff_iff,decide_eq_true_eq,decide_eq_true_eq];omega
theorem GN{x y:Txt}{st:St}(h:x.length+y.length≤100000):B7 .Add (.str x) (.str y) st=some (.str (x++y)):=by
 show(match Nat.ble (x.length+y.length) Cs with | true=>some (V.str (x++y)) | false=>none)=_
 rw[Bf _ h]
theorem Mz{s:Txt}(hl:s.length≤100000)(st:St):BS (.str s) 6 [] st=some (.str (strip s),st):=by show A9 (Nat.ble s.length Cs) _=_;rw[Bf _ hl];rfl
noncomputable def DC(σ:St)(row:Txt)(acc ts:List Txt)(x:M (Fl×AG)):Prop:=∃ u6 u7 a here pre,x=some ((.next,[some (.str row),some (.ref σ.next),some (.str here),some (.int 0),some (.str []),a,u6,u7,none,none]),AW σ [.list (Ag (acc++pre))])∧ts=pre++[strip here]∧here.length≤1000
theorem DC.more{σ:St}{row y:Txt}{acc ts:List Txt}{x:M (Fl×AG)}(h:DC σ row (acc++[y]) ts x):DC σ row acc (y::ts) x:=by refine x53 h fun v1 v2 v3 v4 pre g1 g2 g3=>?_;clear h;rw[List.append_assoc] at g1;exact y53 v1 v2 v3 v4 (y::pre) g1 (by rw[g2];rfl) g3
theorem Of{c:Nat}(q:([59,39,34,40,41]:Txt).contains c=false):(∀ x,x=59∨x=40∨x=41→decide ([c]=[x])=false)∧(decide ([39]=[c])||(decide ([34]=[c])||false))=false:=by
 simp only[List.contains_cons,List.contains_nil,Bool.or_false,Bool.or_eq_false_iff,beq_eq_false_iff_ne] at q;refine x05 q fun c1 c2 c3 c4 c5=>?_;clear q;refine⟨fun x hx=>decide_eq_false fun z=>?_,by rw[decide_eq_false fun z=>c2 (List.cons.inj z).1.symm,decide_eq_false fun z=>c3 (List.cons.inj z).1.symm];rfl⟩
 have z:=(List.cons.inj z).1;rcases hx with rfl | rfl | rfl
 ·exact c1 z
 ·exact c4 z
 ·exact c5 z
noncomputable def T5(σ:St)(row here:Txt)(a:Nat)(u6 u7:Option V):AG:=[some (.str row),some (.ref σ.next),some (.str here),some (.int 0),some (.str []),some (.int a),u6,u7,none,none]
theorem Oe(n:Nat)(test:AG→St→M V)(body:AG→St→M (Fl×AG))(ht:∀ μ st,test μ st=ev CT (AP CT FT (n+4)) μ st DT)(hb:∀ μ st,body μ st=exs CT (AP CT FT (n+4)) μ st DU)(row:Txt)(hl:row.length≤1000)(σ:St)(h1:σ.lo≤σ.next)(h2:σ.ro≤σ.next) :
  ∀(k:Nat) (s:Txt) (a:Nat) (here:Txt) (acc ts:List Txt) (u6 u7:Option V) (w:Nat),row.drop a=s→EH k s here=some ts→k≤w→acc.length+ts.length≤1000→here.length+s.length≤1000 →
   DC σ row acc ts (BP test body w (T5 σ row here a u6 u7) (AW σ [.list (Ag acc)])):=by
 intro q1_
 induction q1_ with
 | zero=>intro s a here acc ts u6 u7 w h hk hw hlen hh;cases hk
 | succ k ih_ =>
  intro s;cases s with
  | nil =>
   intro a here acc ts u6 u7 q2_;cases q2_ with
   | zero=>intro h hk hw hlen hh;exact absurd hw (Nat.not_succ_le_zero _)
   | succ w =>
    intro h hk hw hlen hh;cases hk;have hnl:¬ a<row.length:=by intro q;rw[List.drop_eq_getElem_cons q] at h;cases (h)
    exact y53 u6 u7 _ here [] (by rw[List.append_nil];exact D0 ((ht _ _).trans (Iz [hLen (Nat.le_trans hl (by decide))] (by kernel_rfl))) (XF hnl)) rfl (Nat.le_trans (Nat.le_add_right _ _) hh)
  | cons c r =>
   intro a here acc ts u6 u7 q3_;cases q3_ with
   | zero=>intro h hk hw hlen hh;exact absurd hw (Nat.not_succ_le_zero _)
   | succ w =>
    intro h hk hw hlen hh;have hl':row.length≤100000:=Nat.le_trans hl (by decide)
    have hl2:row.length<100000:=Nat.lt_of_le_of_lt hl (by decide)
    have hw:=Nat.le_of_succ_le_succ hw;have htst (st:St):test (T5 σ row here a u6 u7) st=some (.bool (decide ((a:Int)<(row.length:Int))),st):=(ht _ _).trans (Iz [hLen hl'] (by kernel_rfl))
    have hlt:=XG (Cu h);have hh2:here.length≤1000:=Nat.le_trans (Nat.le_add_right _ _) hh;rfl';refine bT hk (fun hk q1=>?_) (fun hk q1=>?_)
    ·have hle:here.length+((c::r).take (AH c r)).length≤100000:=Nat.le_trans (Nat.add_le_add_left (by rw[List.length_take];exact Nat.min_le_right _ _) _) (Nat.le_trans hh (by decide))
     have ih:=ih_ _ (a+AH c r) (here++(c::r).take (AH c r)) acc ts (some (.int ((a+AH c r:Nat):Int))) u7 w (B3 _ h) hk hw hlen (by rw[List.length_append,Nat.add_assoc,← List.length_append,List.take_append_drop];exact hh)
     exact LZ (P:=DC σ row acc ts) (htst _) hlt ((hb _ _).trans (BN [hAtom n h hl2,.br ((Ks a _).trans q1),hSl (AH c r) h hl',.v fun st=>GN (st:=st) hle] (by kernel_rfl))) (rfl:QX .cont=true) ih
    ·have hq1:=(Ks a (AH c r)).trans q1;refine bT hk (fun hk q2=>?_) (fun hk q2=>?_)
     ·cases hk
     ·cases q3:decide (c=44) with
      | true =>
       have hc:=of_decide_eq_true q3;subst hc;cases hl3:EH k r [] with
       | none=>rw[hl3] at hk;cases hk
       | some l =>
        rw[hl3] at hk;cases hk;have ih:=ih_ r (a+1) [] (acc++[strip here]) l (some (.int ((a+AH 44 r:Nat):Int))) (some (.str [44])) w (A3 h) hl3 hw (by rw[List.length_append,List.length_singleton,Nat.add_assoc,Nat.add_comm 1];exact hlen) (by rw[List.length_nil,Nat.zero_add];exact Nat.le_trans (Nat.le_succ _) (Nat.le_trans (Nat.le_add_left _ _) hh))
        refine DC.more ?_;have hg:=A0 σ [.list (Ag acc)];have ha:=G6 (acc:=Ag acc) (l:=[]) (.str (strip here)) h1 h2 (by rw[Ce];exact Nat.le_trans (Nat.le_add_right _ _) (Nat.le_trans hlen (by decide)))
        rw[show Ag acc++[V.str (strip here)]=Ag (acc++[strip here]) by unfold Ag;rw[List.map_append];rfl] at ha
        exact JZ (P:=DC σ row (acc++[strip here]) l) (htst _) hlt ((hb _ _).trans (BN [hAtom n h hl2,.br hq1,hIdx h hl',.mo (MS hg 0),.gu (MM hg 0 rfl),.p (Mz (Nat.le_trans hh2 (by decide))),.m ha] (by kernel_rfl))) ih
      | false =>
       rw[q3] at hk;obtain⟨d1,d2⟩:=Of q2;have ih:=ih_ r (a+1) (here++[c]) acc ts (some (.int ((a+AH c r:Nat):Int))) (some (.str [c])) w (A3 h) hk hw hlen (by rw[List.length_append,List.length_singleton,Nat.add_assoc,Nat.add_comm 1];exact hh)
       exact JZ (P:=DC σ row acc ts) (htst _) hlt ((hb _ _).trans (BN [hAtom n h hl2,.br hq1,hIdx h hl',.nb,.br (d1 59 (.inl rfl)),.br d2,.br (d1 40 (.inr (.inl rfl))),.br (d1 41 (.inr (.inr rfl))),.br (show decide ([c]=[44])=false from decide_eq_false fun z=>of_decide_eq_false q3 (List.cons.inj z).1),.v fun st=>GN (x:=here) (y:=[c]) (st:=st) (Nat.le_trans (Nat.add_le_add_left (Nat.succ_le_succ (Nat.zero_le _)) _) (Nat.le_trans hh (by decide)))] (by kernel_rfl))) ih
theorem Ff:∀ ts:List Txt,refFrees (Ag ts)=true:=by
 intro q1_
 induction q1_ with
 | nil=>exact rfl
 | cons t ts ih_=>show(true&&refFrees (Ag ts))=true;rw[ih_];rfl
theorem T7{ts:List Txt}(hne:ts≠[[]]):(match decide ((Ag ts).length=[V.str []].length) with | true=>C7 (Ag ts) [.str []] | false=>some false)=some false:=by
 cases ts with
 | nil=>rfl
 | cons x r=>cases r with
  | nil=>show some (decide (x=[])&&true)=some false;rw[decide_eq_false (fun z=>hne (by rw[z]))];rfl
  | cons y r=>rw[decide_eq_false (fun z=>nomatch z)]
theorem Up(n:Nat){row:Txt}{ts:List Txt}{k:Nat}(hl:row.length≤1000)(h:EH k row []=some ts)(hk:k≤100000)(hn:ts.length<39)(hne:ts≠[[]])(st:St):AP CT FT (n+5) 303 [.str row] st=some (.lst (Ag ts),st):=by
 refine x53 (Oe n _ _ (fun _ _=>rfl) (fun _ _=>rfl) row hl (inner st) (C9 st) (Bc st) k row 0 [] [] ts none none W rfl h hk (by rw[List.length_nil];exact o81 hn) (by rw[List.length_nil];exact bI hl)) fun u6 u7 a' here' pre hw hts hh=>?_
 have hpl:pre.length≤100000:=by rw[hts,List.length_append] at hn;exact aF hn
 have hsn:Ag pre++[V.str (strip here')]=Ag ts:=by rw[hts];unfold Ag;rw[List.map_append];rfl
 have hg:=A0 (inner st) [.list (Ag ([]++pre))];have ha:=G6 (acc:=Ag pre) (l:=[]) (.str (strip here')) (C9 st) (Bc st) (by rw[Ce];exact hpl)
 rw[hsn] at ha;have hne2:Xi (.ref (inner st).next) (.ref ((inner st).next+1)) (AW (inner st) [.list (Ag ts),.list [.str []]])=some false:=by
  have e1:AD (AW (inner st) [.list (Ag ts),.list [.str []]]) (.ref (inner st).next)=some (Ag ts):=by unfold AD;dsimp only;rw[A0];rfl
  have e2:AD (AW (inner st) [.list (Ag ts),.list [.str []]]) (.ref ((inner st).next+1))=some [.str []]:=by unfold AD;dsimp only;rw[BB _ _ 1];rfl
  show(match AD _ (.ref (inner st).next),AD _ (.ref ((inner st).next+1)) with | some xs,some ys=>(match decide (xs.length=ys.length) with | true=>C7 xs ys | false=>some false) | _,_=>none)=some false
  rw[e1,e2];exact T7 hne
 exact P2 1 10 Dp [NI (inner st) [] (.list []),.f hw,.mo (MS hg 0),.gu (MM hg 0 rfl),.p (Mz (Nat.le_trans hh (by decide))),.m ha,NI (inner st) [.list (Ag ts)] (.list [.str []]),.o1 hne2] rfl rfl (by kernel_rfl) (HX (st:=inner st) (l:=[.list (Ag ts),.list [.str []]]) rfl (Ff ts) (by rw[Ce];exact hn))
end SL7
section SL8
open PySem
noncomputable def HA(word:Txt):Nat→Txt→Txt→Option Txt
 | 0,_,_=>none
 | _+1,[],_=>some []
 | k+1,c::r,t=>match Au c with
  | true=>match decide ((c::r).take (AB (c::r))=word) with
   | true=>some (t.drop (AB (c::r)))
   | false=>HA word k ((c::r).drop (AB (c::r))) (t.drop (AB (c::r)))
  | false=>HA word k r (t.drop 1)
noncomputable def Ka(σ:St)(x:Txt)(r:M (Fl×AG)):Prop:=∃ μ,r=some ((.ret (.str x),μ),σ)∨(x=[]∧r=some ((.next,μ),σ))
theorem PX{s:Txt}{a:Nat}(h:s.drop a=[]):¬ a<s.length:=fun q=>by rw[List.drop_eq_getElem_cons q] at h;cases (h)
theorem R1(n:Nat)(test:AG→St→M V)(body:AG→St→M (Fl×AG))(ht:∀ μ st,test μ st=ev CT (AP CT FT (n+3)) μ st Ex)(hb:∀ μ st,body μ st=exs CT (AP CT FT (n+3)) μ st DP)(text whole word:Txt)(hl:whole.length<100000)(hlt:text.length≤100000)(σ:St) :
  ∀(k:Nat) (s t:Txt) (a:Nat) (u:Option V) (x:Txt) (w:Nat),whole.drop a=s→text.drop a=t→HA word k s t=some x→k≤w →
   Ka σ x (BP test body w [some (.str text),some (.str word),some (.str whole),some (.int (a:Nat)),u,none,none,none,none] σ):=by
 intro q1_
 induction q1_ with
 | zero=>intro s t a u x w h h' hk hw;cases hk
 | succ k ih_ =>
  intro s;cases s with
  | nil =>
   intro t a u x q2_;cases q2_ with
   | zero=>intro h h' hk hw;exact absurd hw (Nat.not_succ_le_zero _)
   | succ w=>intro h h' hk hw;cases hk;exact⟨_,.inr ⟨rfl,D0 ((ht _ _).trans (Iz [hLen (Nat.le_of_lt hl)] (by kernel_rfl))) (XF (PX h))⟩⟩
  | cons c r =>
   intro t a u x q3_;cases q3_ with
   | zero=>intro h h' hk hw;exact absurd hw (Nat.not_succ_le_zero _)
   | succ w =>
    intro h h' hk hw;have hl':whole.length≤100000:=Nat.le_of_lt hl;have hw:=Nat.le_of_succ_le_succ hw;have htst:test [some (.str text),some (.str word),some (.str whole),some (.int (a:Nat)),u,none,none,none,none] σ=some (.bool (decide ((a:Int)<(whole.length:Int))),σ):=(ht _ _).trans (Iz [hLen hl'] (by kernel_rfl))
    have hlt2:=XG (Cu h);refine bT hk (fun hk q1=>?_) (fun hk q1=>?_)
    ·cases q2:decide ((c::r).take (AB (c::r))=word) with
     | true =>
      rw[q2] at hk;cases hk;obtain⟨μ,e⟩:∃ μ,exs CT (AP CT FT (n+3)) [some (.str text),some (.str word),some (.str whole),some (.int (a:Nat)),u,none,none,none,none] σ DP=some ((.ret (.str (t.drop (AB (c::r)))),μ),σ):=FW [hIdx h hl',hBeg (n+2) c,.br q1,hRun n h hl,hSl (AB (c::r)) h hl',.br q2,hSlE (B3 (AB (c::r)) h') hlt] (by kernel_rfl)
      exact⟨μ,.inl (VG htst hlt2 ((hb _ _).trans e))⟩
     | false =>
      rw[q2] at hk;exact JZ (P:=Ka σ x) htst hlt2 ((hb _ _).trans (BN [hIdx h hl',hBeg (n+2) c,.br q1,hRun n h hl,hSl (AB (c::r)) h hl',.br q2] (by kernel_rfl)))
       (ih_ _ _ (a+AB (c::r)) (some (.int ((a+AB (c::r):Nat):Int))) x w (B3 _ h) (B3 _ h') hk hw)
    ·exact JZ (P:=Ka σ x) htst hlt2 ((hb _ _).trans (BN [hIdx h hl',hBeg (n+2) c,.br q1] (by kernel_rfl))) (ih_ r _ (a+1) u x w (A3 h) (B3 1 h') hk hw)
theorem Jp(n:Nat){text word x:Txt}{k:Nat}(hl:text.length<100000)(h:HA word k (Ez text) text=some x)(hk:k≤100000)(st:St):AP CT FT (n+4) 310 [.str text,.str word] st=some (.str x,st):=by
 have hl':=Nat.le_of_lt hl;refine Pd (R1 n _ _ (fun _ _=>rfl) (fun _ _=>rfl) text (Ez text) word (by rw[IS];exact hl) hl' (AW (inner st) []) k (Ez text) text 0 none x W rfl rfl h hk) fun μ hw=>?_
 rcases hw with hw | ⟨hx,hw⟩
 ·exact AK 2 9 EA [hCap (n+2) hl',.f hw] rfl rfl (by kernel_rfl) rfl
 ·rw[hx];exact AK 2 9 EA [hCap (n+2) hl',.f hw] rfl rfl (by kernel_rfl) rfl
noncomputable def EF(ks:List Txt)(vs:List V):Nat→Txt→Option Txt
 | 0,_=>none
 | _+1,[]=>some []
 | k+1,c::r=>match decide (0<AH c r) with
  | true=>match (Aq ks vs (Ez ((c::r).take (AH c r)))).getD (.str ((c::r).take (AH c r))) with
   | .str x=>match EF ks vs k ((c::r).drop (AH c r)) with
    | some y=>some (x++y)
    | none=>none
   | _=>none
  | false=>match ([39,34,38]:Txt).contains c with
   | true=>none
   | false=>match EF ks vs k r with
    | some y=>some (c::y)
    | none=>none
noncomputable def EZ(σ:St)(row acc:Txt)(d:Nat)(x:Txt)(r:M (Fl×AG)):Prop:=∃ u5 u6 a,r=some ((.next,[some (.str row),some (.ref d),some (.str (acc++x)),a,some (.str []),u5,u6,none,none,none]),σ)
theorem EZ.app{σ:St}{row acc:Txt}{d:Nat}{y z:Txt}{r:M (Fl×AG)}(h:EZ σ row (acc++y) d z r):EZ σ row acc d (y++z) r:=by unfold EZ at h;rw[List.append_assoc] at h;exact h
theorem TQ{c:Nat}(q:([39,34,38]:Txt).contains c=false):(decide ([39]=[c])||(decide ([34]=[c])||false))=false∧(!decide ([c]=[38]))=true:=by simp only[List.contains_cons,List.contains_nil,Bool.or_false,Bool.or_eq_false_iff,beq_eq_false_iff_ne] at q;refine L2 q fun c1 c2 c3=>?_;clear q;exact⟨by rw[decide_eq_false fun z=>c1 (List.cons.inj z).1.symm,decide_eq_false fun z=>c2 (List.cons.inj z).1.symm];rfl,by rw[decide_eq_false fun z=>c3 (List.cons.inj z).1];rfl⟩
theorem LC{ks:List Txt}{vs:List V}{k c:Nat}{r:Txt}:EF ks vs (k+1) (c::r)=(match decide (0<AH c r) with | true=>(match (Aq ks vs (Ez ((c::r).take (AH c r)))).getD (.str ((c::r).take (AH c r))) with | .str x=>(match EF ks vs k ((c::r).drop (AH c r)) with | some y=>some (x++y) | none=>none) | _=>none) | false=>match ([39,34,38]:Txt).contains c with | true=>none | false=>match EF ks vs k r with | some y=>some (c::y) | none=>none):=rfl
theorem TO(n:Nat)(test:AG→St→M V)(body:AG→St→M (Fl×AG))(ht:∀ μ st,test μ st=ev CT (AP CT FT (n+4)) μ st ET)(hb:∀ μ st,body μ st=exs CT (AP CT FT (n+4)) μ st EY)(row:Txt)(hl:row.length<100000)(σ:St)(d:Nat)(ks:List Txt)(vs:List V)(hd:σ.get d=some (.dict ks vs)) :
  ∀(k:Nat) (s:Txt) (a:Nat) (acc x:Txt) (u5 u6:Option V) (w:Nat),row.drop a=s→EF ks vs k s=some x→k≤w→acc.length+x.length≤1000 →
   EZ σ row acc d x (BP test body w [some (.str row),some (.ref d),some (.str acc),some (.int (a:Nat)),some (.str []),u5,u6,none,none,none] σ):=by
 intro q1_
 induction q1_ with
 | zero=>intro s a acc x u5 u6 w h hk hw hlen;cases hk
 | succ k ih_ =>
  intro s;cases s with
  | nil =>
   intro a acc x u5 u6 q2_;cases q2_ with
   | zero=>intro h hk hw hlen;exact absurd hw (Nat.not_succ_le_zero _)
   | succ w=>intro h hk hw hlen;cases hk;exact y31 u5 u6 _ (by rw[List.append_nil];exact D0 ((ht _ _).trans (Iz [hLen (Nat.le_of_lt hl)] (by kernel_rfl))) (XF (PX h)))
  | cons c r =>
   intro a acc x u5 u6 q3_;cases q3_ with
   | zero=>intro h hk hw hlen;exact absurd hw (Nat.not_succ_le_zero _)
   | succ w =>
    intro h hk hw hlen;have hl':row.length≤100000:=Nat.le_of_lt hl;have hw:=Nat.le_of_succ_le_succ hw;have htst:test [some (.str row),some (.ref d),some (.str acc),some (.int (a:Nat)),some (.str []),u5,u6,none,none,none] σ=some (.bool (decide ((a:Int)<(row.length:Int))),σ):=(ht _ _).trans (Iz [hLen hl'] (by kernel_rfl))
    have hlt2:=XG (Cu h);rfl';refine bT hk (fun hk q1=>?_) (fun hk q1=>?_)
    ·have hlen2:((c::r).take (AH c r)).length≤100000:=by rw[List.length_take,← h,List.length_drop];exact p1 hl
     cases hy:(Aq ks vs (Ez ((c::r).take (AH c r)))).getD (.str ((c::r).take (AH c r))) with
     | str y =>
      rw[hy] at hk;cases hz:EF ks vs k ((c::r).drop (AH c r)) with
      | none=>rw[hz] at hk;cases hk
      | some z =>
       rw[hz] at hk;cases hk;rw[List.length_append,← Nat.add_assoc] at hlen;have hg:=PQ hd (Ez ((c::r).take (AH c r))) (.str ((c::r).take (AH c r)));rw[hy] at hg;refine EZ.app ?_;exact LZ (P:=EZ σ row (acc++y) d z) htst hlt2 ((hb _ _).trans (BN [hAtom n h hl,.br ((Ks a _).trans q1),.mo (WE hd 2),.gu (Vx hd),hSl (AH c r) h hl',hCap (n+3) hlen2,hSl (AH c r) h hl',.m hg,.v fun st=>GN (x:=acc) (y:=y) (st:=st) (Nat.le_trans (Nat.le_add_right _ _) (Nat.le_trans hlen (by decide)))] (by kernel_rfl))) (rfl:QX .cont=true)
        (ih_ _ (a+AH c r) (acc++y) z (some (.int ((a+AH c r:Nat):Int))) u6 w (B3 _ h) hz hw (by rw[List.length_append];exact hlen))
     | none=>rw[hy] at hk;cases hk
     | bool b=>rw[hy] at hk;cases hk
     | int i=>rw[hy] at hk;cases hk
     | ref i=>rw[hy] at hk;cases hk
     | tup xs=>rw[hy] at hk;cases hk
     | lst xs=>rw[hy] at hk;cases hk
     | obj a1 b1 c1=>rw[hy] at hk;cases hk
     | fn i=>rw[hy] at hk;cases hk
    ·cases q2:([39,34,38]:Txt).contains c with
     | true=>rw[q2] at hk;cases hk
     | false =>
      rw[q2] at hk;cases hz:EF ks vs k r with
      | none=>rw[hz] at hk;cases hk
      | some z =>
       rw[hz] at hk;cases hk;rw[List.length_cons,Nat.add_comm z.length 1,← Nat.add_assoc] at hlen;obtain⟨d1,d2⟩:=TQ q2;refine EZ.app (y:=[c]) ?_;exact JZ (P:=EZ σ row (acc++[c]) d z) htst hlt2 ((hb _ _).trans (BN [hAtom n h hl,.br ((Ks a _).trans q1),hIdx h hl',.br d1,.nb,.br d2,.v fun st=>GN (x:=acc) (y:=[c]) (st:=st) (Nat.le_trans (Nat.le_add_right _ _) (Nat.le_trans hlen (by decide)))] (by kernel_rfl)))
        (ih_ r (a+1) (acc++[c]) z (some (.int ((a+AH c r:Nat):Int))) (some (.str [c])) w (A3 h) hz hw (by rw[List.length_append,List.length_singleton];exact hlen))
theorem X0(n:Nat){row x:Txt}{k d:Nat}{ks:List Txt}{vs:List V}{st:St}(hl:row.length<100000)(hd:st.get d=some (.dict ks vs))(h:EF ks vs k row=some x)(hk:k≤100000)(hn:x.length≤1000):AP CT FT (n+5) 317 [.str row,.ref d] st=some (.str x,st):=by
 have hd':(AW (inner st) []).get d=some (.dict ks vs):=by rw[BJ];exact hd
 refine ci (TO n _ _ (fun _ _=>rfl) (fun _ _=>rfl) row hl (AW (inner st) []) d ks vs hd' k row 0 [] x none none W rfl h hk (by rw[List.length_nil,Nat.zero_add];exact hn)) fun u5 u6 a' hw=>?_
 exact AK 2 10 FN [.f hw] rfl rfl (by kernel_rfl) rfl
end SL8
section SL9
open PySem
inductive Tk where
 | num (x:Int) | name (t:Txt) | sign (c:Nat)
 deriving DecidableEq
noncomputable def Tk.v:Tk→V
 | .num x=>WY x
 | .name t=>Th t
 | .sign c=>VT c
noncomputable def EU(l:List Tk):List V:=l.map Tk.v
theorem Ia(t:Tk):AN t.v=true:=by cases (t)<;>rfl
theorem Ti:∀ l:List Tk,refFrees (EU l)=true:=by
 intro q1_
 induction q1_ with
 | nil=>exact rfl
 | cons t l ih_=>show(AN t.v&&refFrees (EU l))=true;rw[Ia,ih_];rfl
theorem Bw(l:List Tk):(EU l).length=l.length:=List.length_map _
noncomputable def RK:List Nat:=[7,8,9,10,11]
noncomputable def CW(a b c d e:V):O:=.inst 266 [7,8,9,10,11] [a,b,c,d,e]
noncomputable def Cf(num:Int)(text:Txt):V:=.obj 266 [7,8,9,10,11] [.int num,.str text,.none,.none,.lst []]
theorem T3{α:Type}(l:List α)(a b:α):(l++[a]).set l.length b=l++[b]:=by rw[List.set_append_right _ _ (Nat.le_refl _),Nat.sub_self];rfl
theorem Sd{α:Type}(l:List α)(a:α):(l++[a])[l.length]?=some a:=by simp
theorem BG{ok:Nat→Bool}{i f:Nat}{v:V}{st:St}{c:Nat}{ks:List Nat}{vs:List V}(h:st.get i=some (.inst c ks vs))(hc:ok c=true)(hf:Am f=true)(hk:ks.length≤60)(hw:st.wr i v=true) :
  setAttr ok (.ref i) f v st=some ((),st.put i (.inst c (CV ks vs f v).1 (CV ks vs f v).2)):=by
 unfold setAttr;dsimp only;rw[h];dsimp only;rw[hc,hf,hw,C5,decide_eq_true hk];rfl
theorem AZ{ok:Nat→Bool}{i f:Nat}{v:V}{st:St}{c:Nat}{ks:List Nat}{vs:List V}(h:st.get i=some (.inst c ks vs))(hc:ok c=true)(hf:Am f=true)(hg:DX ks vs f=some v):AU ok (.ref i) f st=some v:=by unfold AU;dsimp only;rw[h];dsimp only;rw[hc,hf,hg];rfl
theorem XE:A5 CT 266=true:=rfl
theorem I9{ok:Nat→Bool}{σ:St}{l m:List O}{c f:Nat}{ks:List Nat}{vs:List V}{v:V}(hc:ok c=true)(hf:Am f=true)(hk:Nat.ble ks.length 60=true)(h1:σ.lo≤σ.next)(h2:σ.ro≤σ.next) :
  setAttr ok (.ref (σ.next+l.length)) f v (AW σ (l++.inst c ks vs::m))=some ((),AW σ (l++.inst c (CV ks vs f v).1 (CV ks vs f v).2::m)):=by
 have hg:(AW σ (l++.inst c ks vs::m)).get (σ.next+l.length)=some (.inst c ks vs):=by rw[BB,List.getElem?_append_right (Nat.le_refl _),Nat.sub_self];rfl
 rw[BG hg hc hf (Nat.le_of_ble_eq_true hk) (L0 _ _ _ _ h1 h2),I4,List.set_append_right _ _ (Nat.le_refl _),Nat.sub_self];rfl
theorem Mj(n:Nat)(σ:St)(l:List O)(a b:V)(h1:σ.lo≤σ.next)(h2:σ.ro≤σ.next):AP CT FT (n+1) 263 [.ref (σ.next+l.length),a,b] (AW σ (l++[.inst 266 [] []]))=some (.none,AW σ (l++[CW a b .none .none (.ref (σ.next+l.length+1)),.list []])):=by
 have hal:(AW σ (l++[.inst 266 [7,8,9,10] [a,b,.none,.none]])).next=σ.next+l.length+1∧(AW σ (l++[.inst 266 [7,8,9,10] [a,b,.none,.none]])).add (.list [])=AW σ (l++[.inst 266 [7,8,9,10] [a,b,.none,.none],.list []]) :=
  ⟨by rw[A7,List.length_append];rfl,by rw[E1,List.append_assoc];rfl⟩
 have hs (m:List O) (ks:List Nat) (vs:List V) (f:Nat) (v:V) (hf:Am f=true) (hk:Nat.ble ks.length 60=true):=I9 (l:=l) (m:=m) (c:=266) (ks:=ks) (vs:=vs) (f:=f) (v:=v) XE hf hk h1 h2;exact KU 3 3 Fx [.u (hs [] [] [] 7 a rfl rfl),.u (hs [] [7] [a] 8 b rfl rfl),.u (hs [] [7,8] [a,b] 9 .none rfl rfl),.u (hs [] [7,8,9] [a,b,.none] 10 .none rfl rfl),.al hal,
  .u (hs [.list []] [7,8,9,10] [a,b,.none,.none] 11 (.ref (σ.next+l.length+1)) rfl rfl)] rfl rfl (by kernel_rfl)
theorem OO(n:Nat)(σ:St)(l:List O)(a b:V)(h1:σ.lo≤σ.next)(h2:σ.ro≤σ.next):Fw CT (AP CT FT (n+1)) true 266 [a,b] (AW σ l)=some (.ref (σ.next+l.length),AW σ (l++[CW a b .none .none (.ref (σ.next+l.length+1)),.list []])):=by rw[I0 VH (by rw[A7,E1];exact Mj n σ l a b h1 h2),A7]
theorem PU{C:AC}{c:Nat}{cl:Cl}{vs:List V}{st:St}{l:List O}{v:V}(hc:CT c=some cl)(hi:C cl.init (.ref st.next::vs) (AW ⟨st.objs,st.next,st.ro⟩ [.inst c [] []])=some (.none,AW ⟨st.objs,st.next,st.ro⟩ l))(hz:Fv (AW ⟨st.objs,st.next,st.ro⟩ l).objs st.next 40 (.ref st.next)=some v):Fw CT C false c vs st=some (v,st):=by
 show(match CT c with | none=>none | some cl=>Aj (C cl.init (.ref st.next::vs) { st.add (.inst c [] []) with lo:=st.next }) fun r st'=>A9 (isNone r) <| Fo (Fv st'.objs st.next 40 (.ref st.next)) (st'.cut st.next st.lo st.ro))=_
 rw[hc];show Aj (C cl.init (.ref st.next::vs) (AW ⟨st.objs,st.next,st.ro⟩ [.inst c [] []])) _=_;rw[hi];show Fo (Fv (AW ⟨st.objs,st.next,st.ro⟩ l).objs st.next 40 (.ref st.next)) _=_;rw[hz];show some (v,(⟨(st.objs++l.map some).take st.objs.length,st.lo,st.ro⟩:St))=_;rw[List.take_left]
theorem PT(n:Nat)(st:St)(num:Int)(text:Txt)(h1:st.lo≤st.next)(h2:st.ro≤st.next):Fw CT (AP CT FT (n+1)) false 266 [.int num,.str text] st=some (Cf num text,st) :=
 PU VH (Mj n ⟨st.objs,st.next,st.ro⟩ [] (.int num) (.str text) (Nat.le_refl _) h2)
  (MC (A0 ⟨st.objs,st.next,st.ro⟩ _) (Nat.le_refl _) (Bd (FX rfl) (Bd (FX rfl) (Bd (FX rfl) (Bd (FX rfl)
   (Bd (IU (BB ⟨st.objs,st.next,st.ro⟩ [_,.list []] 1) (Nat.le_succ _) rfl (Nat.zero_lt_succ _)) Gm))))))
end SL9
section SL10
open PySem
theorem AJ{st:St}{i:Nat}{o:O}(h:i<st.next):(st.put i o).get i=some o:=by
 unfold St.put St.get St.next at *
 rw[List.getElem?_set_self h];rfl
theorem Gw{st:St}{i:Nat}{o o':O}:(st.put i o).put i o'=st.put i o':=by unfold St.put;dsimp only;rw[List.set_set]
theorem A8{st:St}{i:Nat}{o:O}:(st.put i o).next=st.next:=by unfold St.put St.next;simp
theorem W5{st:St}{i j:Nat}{o:O}{v:V}:(st.put i o).wr j v=st.wr j v:=rfl
theorem get_lt{st:St}{i:Nat}{o:O}(h:st.get i=some o):i<st.next:=by
 unfold St.get at h;cases q:st.objs[i]? with
 | none=>rw[q] at h;cases h
 | some x=>exact(List.getElem?_eq_some_iff.mp q).1
theorem Oy{st:St}{i:Nat}{o:O}{lo ro:Nat}(lo' ro':Nat):((⟨st.objs,lo',ro'⟩:St).put i o).cut st.next lo ro=(⟨st.objs,lo,ro⟩:St).put i o:=by unfold St.cut St.put St.next;rw[List.take_of_length_le (by simp)]
noncomputable def Qb(t:Tk)(c:Nat):Bool:=match t with
 | .sign d=>decide (d=c)
 | _=>false
theorem Ai(n:Nat)(t:Tk)(c:Nat)(st:St):AP CT FT (n+1) 144 [t.v,.str [c]] st=some (.bool (Qb t c),st):=by
 cases t with
 | num x=>exact Jn n x [c] st
 | name x =>
  have:=KZ n [110,97,109,101] x [c] st;rw[show decide (([110,97,109,101]:Txt)=[115,105,103,110])=false from by decide,Bool.false_and] at this
  exact this
 | sign d =>
  have:=KZ n [115,105,103,110] [d] [c] st;rw[show decide (([115,105,103,110]:Txt)=[115,105,103,110])=true from by decide,Bool.true_and] at this
  refine this.trans ?_
  congr 3
  show decide ([d]=[c])=decide (d=c);simp
theorem U7{a:V}{xs:List V}{st:St}{i:Int}(hi:items st a=some xs)(ha:∀ s,a≠.str s)(h1:decide (0≤i)=true)(h2:small i=true):BR a (.int i) st=xs[i.toNat]?:=by
 unfold BR;dsimp only;split
 ·exact absurd rfl (ha _)
 ·rw[hi];dsimp only;rw[h1,h2]
theorem IW{a:V}{xs:List V}{st:St}{k:Nat}(hi:items st a=some xs)(ha:∀ s,a≠.str s)(hk:k≤100000):BR a (.int (k:Nat)) st=xs[k]? :=
 U7 hi ha (decide_eq_true (Int.natCast_nonneg k)) (K3 hk)
theorem PI{xs:List V}{v:V}{st:St}{k:Nat}(h:xs[k]?=some v)(hk:k≤100000):BR (.lst xs) (.int (k:Nat)) st=some v:=(IW (xs:=xs) rfl (fun _ z=>by cases (z)) hk).trans h
theorem G0{a:V}{xs:List V}{st:St}(h:(a::xs).length≤100000):Bg (.lst (a::xs)) (.int 1) .none st=some (.lst xs):=by
 unfold Bg AD DF;dsimp only;rw[Bf _ h];dsimp only[Dk,Option.map];rw[show decide ((0:Int)≤1)=true from by decide]
 dsimp only;rw[List.take_of_length_le (Nat.le_refl _)];have:min (1:Int).toNat (a::xs).length=1:=by exact p41
 rfl
theorem DY{xs:List V}{st:St}(h:xs.length≤100000):FO .len [.lst xs] st=some (.int xs.length):=by unfold FO items;dsimp only;rw[Bf _ h];rfl
noncomputable def Os:Txt→Bool
 | []=>true
 | c::_=>decide (c=32)||decide (c=9)
noncomputable def Ol(text:Txt)(r:List Tk):Bool:=!Os text||(match r with | t::_=>Qb t 58 | []=>false)
theorem Rh(text:Txt)(s:St):EB .In (.str (text.take 1)) (.tup [.str [],.str [32],.str [9]]) s=some (Os text):=by
 cases text with
 | nil=>rfl
 | cons c t =>
  show some (decide (([]:Txt)=[c])||(decide (([32]:Txt)=[c])||(decide (([9]:Txt)=[c])||false)))=_
  congr 1
  rw[Bool.or_false,show decide (([]:Txt)=[c])=false from rfl,Bool.false_or,Bool.eq_iff_iff]
  unfold Os;simp only[Bool.or_eq_true,decide_eq_true_eq,List.cons.injEq,and_true];exact⟨fun h=>h.imp Eq.symm Eq.symm,fun h=>h.imp Eq.symm Eq.symm⟩
theorem Um(n:Nat){text x:Txt}{r:List Tk}(hl:text.length≤100000)(hr:r.length≤1000)(st:St):AP CT FT (n+2) 282 [.str text,.lst (EU (.name x::r))] st=some (.bool (Ol text r),st):=by
 have hlen:(EU (.name x::r)).length≤100000:=by rw[Bw,List.length_cons];exact bE hr
 have h0:decide (((EU (.name x::r)).length:Int)=0)=false:=decide_eq_false (by rw[Bw,List.length_cons];exact p50)
 have hb:=Rh text;have hln:∀ s,FO .len [.lst (EU (.name x::r))] s=some (.int (EU (.name x::r)).length):=fun s=>DY (st:=s) hlen;have hs (s:St):=ES (st:=s) (by decide:(0:Int)≤1) hl
 unfold Ol;cases q:Os text with
 | false=>exact AK 2 4 Bt [.v hln,.br h0,.nv,.nv,.v hs,.c hb,.br q] rfl rfl (by kernel_rfl) rfl
 | true =>
  cases r with
  | nil=>exact AK 2 4 Bt [.v hln,.br h0,.nv,.nv,.v hs,.c hb,.br q,.nb,.v hln] rfl rfl (by kernel_rfl) rfl
  | cons t r =>
   have h1:decide ((1:Int)<((EU (.name x::t::r)).length:Int))=true:=decide_eq_true (by rw[Bw,List.length_cons,List.length_cons];exact p92)
   exact AK 2 4 Bt [.v hln,.br h0,.nv,.nv,.v hs,.c hb,.br q,.nb,.v hln,.br h1,.p fun s=>Ai n t 58 s] rfl rfl (by kernel_rfl) rfl
end SL10
section SL11
open PySem
structure Rd where
 lab:Option Txt
 word:Txt
 rest:List Tk
 deriving DecidableEq
noncomputable def JI:Option Txt→V
 | none=>.none
 | some x=>.str x
noncomputable def TK(text:Txt)(l:List Tk):Option Rd:=match l with
 | .name x::r=>match Ol text r with
  | true=>match r with
   | .sign d::r'=>match decide (d=58) with
    | true=>match r' with
     | .name w::r''=>some ⟨some x,w,r''⟩
     | _=>none
    | false=>none
   | .name w::r'=>some ⟨some x,w,r'⟩
   | _=>none
  | false=>some ⟨none,x,r⟩
 | _=>none
noncomputable def By(text:Txt)(d:Rd):Prop:=∃ k l,toks k text=some (EU l)∧k≤1000∧l.length<39∧text.length≤1000∧TK text l=some d
theorem BC{σ:St}{i:Nat}{a b c d e:V}(h:σ.get i=some (CW a b c d e)):AU (A5 CT) (.ref i) 7 σ=some a∧AU (A5 CT) (.ref i) 8 σ=some b∧AU (A5 CT) (.ref i) 9 σ=some c∧AU (A5 CT) (.ref i) 10 σ=some d∧AU (A5 CT) (.ref i) 11 σ=some e :=
 ⟨AZ h rfl (by decide) rfl,AZ h rfl (by decide) rfl,AZ h rfl (by decide) rfl,AZ h rfl (by decide) rfl,AZ h rfl (by decide) rfl⟩
theorem Dw{σ:St}{i:Nat}{v:V}(h:σ.ro≤i)(hv:AN v=true):σ.wr i v=true:=by unfold St.wr;rw[hv,Bool.or_true,C5,decide_eq_true h];rfl
theorem JP(n:Nat)(σ:St)(i:Nat)(num lab tk:V)(text w:Txt)(r:List Tk)(u2 u3 u4 u5 u6 u7:Option V)(hg:σ.get i=some (CW num (.str text) lab .none tk))(hro:σ.ro≤i)(hr:(Tk.name w::r).length≤1000) :
  ∃ μ,exs CT (AP CT FT (n+1)) [some (.ref i),some (.lst (EU (.name w::r))),u2,u3,u4,u5,u6,u7] σ (E3.drop 2)=some ((.next,μ),σ.put i (CW num (.str text) lab (.str w) (.lst (EU r)))):=by
 have hi:=get_lt hg;have hlen:(EU (.name w::r)).length≤100000:=by rw[Bw];exact Nat.le_trans hr (by decide)
 have h0:decide (((EU (.name w::r)).length:Int)=0)=false:=decide_eq_false (by rw[Bw,List.length_cons];exact p50)
 have s1:setAttr (A5 CT) (.ref i) 10 (.str w) σ=some ((),σ.put i (CW num (.str text) lab (.str w) tk)):=BG hg rfl (by decide) (by decide) (Dw hro rfl)
 have s2:setAttr (A5 CT) (.ref i) 11 (.lst (EU r)) (σ.put i (CW num (.str text) lab (.str w) tk))=some ((),σ.put i (CW num (.str text) lab (.str w) (.lst (EU r)))):=by
  have:=BG (ok:=A5 CT) (f:=11) (v:=.lst (EU r)) (AJ (o:=CW num (.str text) lab (.str w) tk) hi) rfl (by decide) (by decide) (by rw[W5];exact Dw hro (Ti r))
  rw[Gw] at this;exact this
 exact FW [.v fun st=>DY (st:=st) hlen,.br h0,.u s1,.v fun st=>G0 (st:=st) hlen,.u s2] (by kernel_rfl)
set_option tactic.hygienic true in
theorem GX(n:Nat){text:Txt}{d:Rd}(hd:By text d){st:St}{i:Nat}{num tk:V}(hg:st.get i=some (CW num (.str text) .none .none tk))(hro:st.ro≤i):AP CT FT (n+7) 289 [.ref i] st=some (.none,st.put i (CW num (.str text) (JI d.lab) (.str d.word) (.lst (EU d.rest)))):=by
 rfl';refine x25 hd fun k l htk hk hll htl hp=>?_;clear hd;have hi:=get_lt hg;have fin:∀{hs:List H},Lz (exsO CT (AP CT FT (n+6)) ([V.ref i].map some++List.replicate (8 - 1) none) ⟨st.objs,st.next,st.ro⟩ E3 hs [])=some ((.none,(⟨st.objs,st.next,st.ro⟩:St).put i (CW num (.str text) (JI d.lab) (.str d.word) (.lst (EU d.rest)))),[],Et hs) →
   AP CT FT (n+7) 289 [.ref i] st=some (.none,st.put i (CW num (.str text) (JI d.lab) (.str d.word) (.lst (EU d.rest)))):=fun e=>by
  rw[I8 1 8 E3 _ rfl rfl e (Db rfl),Oy]
 have hg':(⟨st.objs,st.next,st.ro⟩:St).get i=some (CW num (.str text) .none .none tk):=hg;have hro':(⟨st.objs,st.next,st.ro⟩:St).ro≤i:=hro;have hi':i<(⟨st.objs,st.next,st.ro⟩:St).next:=hi;clear hg hro hi;generalize (⟨st.objs,st.next,st.ro⟩:St)=σ at hg' hro' hi' fin;have htok (st:St):=Mf n (Nat.lt_of_le_of_lt htl (by decide)) htk (Nat.le_trans hk (by decide)) (by rw[Bw];exact hll) st
 have ha:=(BC hg').2.1;unfold TK at hp;split at hp
 ·rename_i x r;have hr:r.length≤1000:=by clear fin htok ha;exact aO hll
  have hlab (st:St):=Um (n+4) (text:=text) (x:=x) (r:=r) (Nat.le_trans htl (by decide)) hr st
  cases q:Ol text r with
  | false =>
   rw[q] at hp;cases hp;obtain⟨μ,hend⟩:=JP (n+5) σ i num .none tk text x r none none none none none none hg' hro' (by rw[List.length_cons];clear fin htok ha hlab;exact aN hll)
   exact fin (hs:=[.o ha,.p htok,.o ha,.p hlab,.br q,.r hend]) (by kernel_rfl)
  | true =>
   rw[q] at hp;dsimp only at hp;have s1:setAttr (A5 CT) (.ref i) 9 (.str x) σ=some ((),σ.put i (CW num (.str text) (.str x) .none tk)):=BG hg' rfl (by decide) (by decide) (Dw hro' rfl)
   have hg2:=AJ (o:=CW num (.str text) (.str x) .none tk) hi';have hl1 (s:St):=DY (st:=s) (xs:=EU r) (by rw[Bw];exact Nat.le_trans hr (by decide))
   have hs1 (s:St):=G0 (st:=s) (a:=(Tk.name x).v) (xs:=EU r) (by rw[List.length_cons,Bw];exact Nat.le_trans (Nat.succ_le_succ hr) (by decide))
   split at hp
   ·rename_i dd r';cases q2:decide (dd=58) with
    | false=>rw[q2] at hp;cases hp
    | true =>
     rw[q2] at hp;dsimp only at hp;split at hp
     ·rename_i w r'';cases hp;obtain⟨μ,hend⟩:=JP (n+5) (σ.put i (CW num (.str text) (.str x) .none tk)) i num (.str x) tk text w r'' none none none none none none hg2 hro' (Nat.le_of_succ_le hr);rw[Gw] at hend;have hpos:decide ((0:Int)<((EU (.sign dd::.name w::r'')).length:Int))=true:=decide_eq_true (by rw[Bw,List.length_cons];exact Int.natCast_pos.mpr (Nat.succ_pos _))
      exact fin (hs:=[.o ha,.p htok,.o ha,.p hlab,.br q,.u s1,.v hs1,.v hl1,.br hpos,.p fun s=>Ai (n+5) (.sign dd) 58 s,.br q2,.v fun s=>G0 (st:=s) (a:=(Tk.sign dd).v) (xs:=EU (.name w::r'')) (by rw[List.length_cons,Bw];exact Nat.le_trans hr (by decide)),.r hend]) (by kernel_rfl)
     ·cases hp
   ·rename_i w r';cases hp;obtain⟨μ,hend⟩:=JP (n+5) (σ.put i (CW num (.str text) (.str x) .none tk)) i num (.str x) tk text w r' none none none none none none hg2 hro' hr;rw[Gw] at hend;have hpos:decide ((0:Int)<((EU (.name w::r')).length:Int))=true:=decide_eq_true (by rw[Bw,List.length_cons];exact Int.natCast_pos.mpr (Nat.succ_pos _))
    exact fin (hs:=[.o ha,.p htok,.o ha,.p hlab,.br q,.u s1,.v hs1,.v hl1,.br hpos,.p fun s=>Ai (n+5) (.name w) 58 s,.r hend]) (by kernel_rfl)
   ·cases hp
 ·cases hp
end SL11
section SL12
open PySem
theorem De{num:Int}{text:Txt}(st:St):AU (A5 CT) (Cf num text) 7 st=some (.int num)∧AU (A5 CT) (Cf num text) 8 st=some (.str text):=by
 have h7:Am 7=true:=by decide
 have h8:Am 8=true:=by decide
 constructor
 ·unfold Cf AU;dsimp only;rfl
 ·unfold Cf AU;dsimp only;rfl
theorem H2(n:Nat){text:Txt}{d:Rd}(hd:By text d)(num:Int)(st:St):AP CT FT (n+8) 614 [Cf num text] st=some (.str d.word,st):=by
 have a7 (st:St):=(De (num:=num) (text:=text) st).1;have a8 (st:St):=(De (num:=num) (text:=text) st).2;have hnew:=OO (n+6) (inner st) [] (.int num) (.str text) (C9 st) (Bc st);have hr:=GX n hd (A0 (inner st) [CW (.int num) (.str text) .none .none (.ref ((inner st).next+1)),.list []]) (by rw[GY];exact Bc st)
 rw[EQ] at hr;have ha:=(BC (A0 (inner st) [CW (.int num) (.str text) (JI d.lab) (.str d.word) (.lst (EU d.rest)),.list []])).2.2.2.1;exact AK 1 5 KA [.v a7,.v a8,.m hnew,.m hr,.o ha] rfl rfl (by kernel_rfl) rfl
theorem M2(n:Nat)(t:Tk)(ht:∀ c,Qb t c=false)(τ:St)(f h:Nat)(x:V)(u5 u6:Option V)(hs:List V)(hg:τ.get h=some (.list hs))(hw:τ.wr h t.v=true)(hl:hs.length≤1000) :
  exs CT (AP CT FT (n+1)) [some x,some (.ref f),some (.ref h),some (.int 0),some t.v,u5,u6] τ DB=some ((.next,[some x,some (.ref f),some (.ref h),some (.int 0),some t.v,u5,u6]),τ.put h (.list (hs++[t.v]))):=by
 exact BN [.p fun s=>Ai n t 40 s,.br (ht 40),.p fun s=>Ai n t 41 s,.br (ht 41),.p fun s=>Ai n t 44 s,.br (ht 44),.nb,.mo (MS hg 0),.gu (MM hg 0 rfl),.m (OK hg t.v hw (Nat.le_trans hl (by decide)))] (by kernel_rfl)
theorem M1(n:Nat)(τ:St)(f h:Nat)(x:V)(u5 u6:Option V)(fs:List V)(hg:τ.get f=some (.list fs))(hw:τ.wr f (.ref h)=true)(hl:fs.length≤1000) :
  exs CT (AP CT FT (n+1)) [some x,some (.ref f),some (.ref h),some (.int 0),some (Tk.sign 44).v,u5,u6] τ DB=some ((.next,[some x,some (.ref f),some (.ref (τ.put f (.list (fs++[.ref h]))).next),some (.int 0),some (Tk.sign 44).v,u5,u6]),(τ.put f (.list (fs++[.ref h]))).add (.list [])):=by
 exact BN [.p fun s=>Ai n (.sign 44) 40 s,.p fun s=>Ai n (.sign 44) 41 s,.p fun s=>Ai n (.sign 44) 44 s,.mo (MS hg 0),.gu (MM hg 0 rfl),.m (OK hg (.ref h) hw (Nat.le_trans hl (by decide)))] (by kernel_rfl)
noncomputable def Av:List Tk→List Tk
 | []=>[]
 | [t]=>[t]
 | t::r=>t::.sign 44::Av r
theorem Nv{σ:St}{l:List O}{i k:Nat}{xs:List V}(h:l[i]?=some (.list xs))(hf:refFrees xs=true)(hk:xs.length<k):Fv (AW σ l).objs σ.next (k+1) (.ref (σ.next+i))=some (.lst xs) :=
 IU ((BB σ l i).trans h) (Nat.le_add_right _ _) hf hk
noncomputable def FQ(ts:List Tk):List V:=ts.map fun t=>.lst [t.v]
noncomputable def He(t:Tk):O:=.list [t.v]
noncomputable def IJ(a:Nat):Nat→List V
 | 0=>[]
 | m+1=>IJ a m++[.ref (a+(1+m))]
theorem VR{a m:Nat}:IJ a (m+1)=IJ a m++[.ref (a+(1+m))]:=rfl
theorem I5(a:Nat):∀ m,(IJ a m).length=m:=by
 intro q1_
 induction q1_ with
 | zero=>exact rfl
 | succ m ih_=>rw[VR,List.length_append,ih_];rfl
theorem Ou(x a b:O)(acc:List Tk):(x::acc.map He++[a]).set (1+acc.length) b=x::acc.map He++[b]:=by rw[Nat.add_comm,List.cons_append,List.set_cons_succ,show acc.length=(acc.map He).length from(List.length_map _).symm,T3];rfl
theorem Ot(x a:O)(acc:List Tk):(x::acc.map He++[a])[1+acc.length]?=some a:=by rw[Nat.add_comm,List.cons_append,List.getElem?_cons_succ,show acc.length=(acc.map He).length from(List.length_map _).symm,Sd]
theorem UH(x a:O)(acc:List Tk):(x::(acc.map He++[a])).length=1+(acc.length+1):=by rw[List.length_cons,List.length_append,List.length_map,Nat.add_comm];rfl
theorem M3(n:Nat)(σ:St)(h1:σ.lo≤σ.next)(h2:σ.ro≤σ.next)(x:V):∀(ts:List Tk) (t:Tk) (acc:List Tk) (u:Option V),(∀ y∈t::ts,∀ c,Qb y c=false)→acc.length+ts.length≤1000 →
  ∃ u',Bn (.loc 4) (fun μ st=>exs CT (AP CT FT (n+1)) μ st DB) (EU (Av (t::ts))) [some x,some (.ref σ.next),some (.ref (σ.next+(1+acc.length))),some (.int 0),u,none,none] (AW σ (.list (IJ σ.next acc.length)::acc.map He++[.list []])) =
   some ((.next,[some x,some (.ref σ.next),some (.ref (σ.next+(1+(acc++ts).length))),some (.int 0),u',none,none]),AW σ (.list (IJ σ.next (acc++ts).length)::(acc++t::ts).map He)):=by
 intro q1_
 induction q1_ with
 | nil =>
  intro t acc u hp hl;have s0:=M2 n t (hp t (.head _)) (AW σ (.list (IJ σ.next acc.length)::acc.map He++[.list []])) σ.next (σ.next+(1+acc.length)) x none none [] (by rw[BB,Ot]) (L0 σ _ _ _ h1 h2) (Nat.zero_le _)
  rw[I4,Ou] at s0;rw[List.append_nil,List.map_append];exact⟨_,DR rfl s0 rfl⟩
 | cons s ts ih_ =>
  intro t acc u hp hl;have s0:=M2 n t (hp t (.head _)) (AW σ (.list (IJ σ.next acc.length)::acc.map He++[.list []])) σ.next (σ.next+(1+acc.length)) x none none [] (by rw[BB,Ot]) (L0 σ _ _ _ h1 h2) (Nat.zero_le _)
  rw[I4,Ou] at s0;have s1:=M1 n (AW σ (.list (IJ σ.next acc.length)::acc.map He++[.list [t.v]])) σ.next (σ.next+(1+acc.length)) x none none (IJ σ.next acc.length) (A0 _ _) (Pc σ _ _ h1 h2) (by rw[I5];exact Nat.le_trans (Nat.le_add_right _ _) hl)
  rw[EQ,A7,E1,List.cons_append,List.set_cons_zero,UH] at s1;obtain⟨u',ih⟩:=ih_ s (acc++[t]) (some (Tk.sign 44).v) (fun y hy=>hp y (.tail _ hy)) (by rw[List.length_append,List.length_singleton,Nat.add_assoc,Nat.add_comm 1];exact hl)
  rw[List.append_assoc,List.append_assoc,List.length_append (as:=acc) (bs:=[t]),List.length_singleton,List.map_append (l₁:=acc) (l₂:=[t]),show(acc++([t]++ts)).length=(acc++s::ts).length by rw[List.length_append,List.length_append,List.length_append,List.length_singleton,List.length_cons,Nat.add_comm 1]] at ih
  exact⟨u',DR rfl s0 (DR rfl s1 ih)⟩
theorem RB:∀ ts:List Tk,(Av ts).length≤2*ts.length:=by
 intro q1_
 induction q1_ with
 | nil=>exact Nat.le_refl _
 | cons t q2_ ih_ =>
  cases q2_ with
  | nil=>exact Nat.le_succ _
  | cons s ts=>have:=ih_;exact ZP this
theorem RC(t:Tk)(ts:List Tk):0<(Av (t::ts)).length:=by cases (ts)<;>exact Nat.succ_pos _
theorem Pq(σ:St)(x:O)(all:List Tk)(y:List O):∀(m k:Nat),m≤all.length→4+m≤k→frzs (AW σ (x::all.map He++y)).objs σ.next k (IJ σ.next m)=some (FQ (all.take m)):=by
 have app:∀(xs:List V) (ys:List V) (v w:V) (k:Nat),frzs (AW σ (x::all.map He++y)).objs σ.next k xs=some ys→(∀ j,k - xs.length=j+3→Fv (AW σ (x::all.map He++y)).objs σ.next (j+2) v=some w)→3+xs.length≤k→frzs (AW σ (x::all.map He++y)).objs σ.next k (xs++[v])=some (ys++[w]):=by
  intro xs
  induction xs with
  | nil =>
   intro ys v w k h1 h2 hk;obtain⟨j,rfl⟩:∃ j,k=j+3:=⟨k - 3,by rw[List.length_nil] at hk;exact TJ hk⟩
   cases h1;exact Bd (h2 j rfl) Gm
  | cons z xs ih =>
   intro ys v w k h1 h2 hk;rfl';obtain⟨j,rfl⟩:∃ j,k=j+1:=⟨k - 1,by exact p31 hk⟩
   have h1:(match Fv (AW σ (x::all.map He++y)).objs σ.next j z,frzs (AW σ (x::all.map He++y)).objs σ.next j xs with | some a,some b=>some (a::b) | _,_=>none)=some ys:=h1
   cases e1:Fv (AW σ (x::all.map He++y)).objs σ.next j z with
   | none=>rw[e1] at h1;cases h1
   | some a =>
    cases e2:frzs (AW σ (x::all.map He++y)).objs σ.next j xs with
    | none=>rw[e1,e2] at h1;cases h1
    | some b=>rw[e1,e2] at h1;cases h1;exact Bd e1 (ih b v w j e2 (fun i hi=>h2 i (by exact p21 hi)) (by exact aL hk))
 intro m
 induction m with
 | zero =>
  intro k _ hk;obtain⟨j,rfl⟩:∃ j,k=j+1:=⟨k - 1,by exact p43 hk⟩
  exact Gm
 | succ m ih =>
  intro k hm hk;have hlt:m<all.length:=hm;rw[VR,List.take_succ_eq_append_getElem hlt,FQ,List.map_append];refine app _ _ _ _ k (ih k (Nat.le_of_succ_le hm) (by exact aP hk)) (fun j hj=>?_) (by rw[I5];exact aA hk)
  rw[I5] at hj;exact Nv (xs:=[all[m].v]) (by rw[Nat.add_comm,List.cons_append,List.getElem?_cons_succ,List.getElem?_append_left (by rw[List.length_map];exact hlt),List.getElem?_map,List.getElem?_eq_getElem hlt];rfl) (by show(AN _&&true)=true;rw[Ia];rfl) (by rw[List.length_singleton];omega)
theorem Mc(n:Nat)(ts:List Tk)(hp:∀ t∈ts,∀ c,Qb t c=false)(h1:1≤ts.length)(h4:ts.length≤4)(st:St):AP CT FT (n+2) 351 [.lst (EU (Av ts))] st=some (.lst (FQ ts),st):=by
 rfl';cases ts with
 | nil=>cases (h1)
 | cons t ts =>
  obtain⟨u,loop⟩:=M3 n (inner st) (C9 st) (Bc st) (.lst (EU (Av (t::ts)))) ts t [] none hp (by rw[List.length_nil];exact ao h4)
  have hol:=RB (t::ts);have hl:(EU (Av (t::ts))).length≤100000:=by rw[Bw];exact ZL h4 hol
  have hne:decide (((EU (Av (t::ts))).length:Int)=0)=false:=decide_eq_false (by rw[Bw];have:=RC t ts;omega)
  have e1:(AW (inner st) [.list []]).next=(inner st).next+(1+0)∧(AW (inner st) [.list []]).add (.list [])=AW (inner st) (.list (IJ (inner st).next 0)::([]:List Tk).map He++[.list []]):=⟨A7 _ _,E1 _ _ _⟩;have hb:=Pq (inner st) (.list (IJ (inner st).next ts.length)) (t::ts) [.list [.ref ((inner st).next+(1+ts.length))]] (ts.length+1) 39 (Nat.le_refl _) (by exact aQ h4)
  rw[List.take_of_length_le (by rw[List.length_cons];exact Nat.le_refl _)] at hb
  have hadd (l:List O):Pi (.ref (inner st).next) (.ref ((inner st).next+(l.length+1))) (AW (inner st) (.list (IJ (inner st).next ts.length)::l++[.list [.ref ((inner st).next+(1+ts.length))]]))=some (.lst (IJ (inner st).next (ts.length+1))):=by
   have g1:AD (AW (inner st) (.list (IJ (inner st).next ts.length)::l++[.list [.ref ((inner st).next+(1+ts.length))]])) (.ref (inner st).next)=some (IJ (inner st).next ts.length):=by unfold AD;dsimp only;rw[A0];rfl
   have g2:AD (AW (inner st) (.list (IJ (inner st).next ts.length)::l++[.list [.ref ((inner st).next+(1+ts.length))]])) (.ref ((inner st).next+(l.length+1)))=some [.ref ((inner st).next+(1+ts.length))]:=by unfold AD;dsimp only;rw[BB,List.cons_append,List.getElem?_cons_succ,List.getElem?_append_right (Nat.le_refl _),Nat.sub_self];rfl
   unfold Pi;dsimp only;rw[g1,g2];dsimp only;rw[Bf _ (by rw[I5,List.length_singleton];exact aq h4)]
   rfl
  have hal:(AW (inner st) (.list (IJ (inner st).next ts.length)::(t::ts).map He)).next=(inner st).next+(((t::ts).map He).length+1)∧(AW (inner st) (.list (IJ (inner st).next ts.length)::(t::ts).map He)).add (.list [.ref ((inner st).next+(1+ts.length))])=AW (inner st) (.list (IJ (inner st).next ts.length)::(t::ts).map He++[.list [.ref ((inner st).next+(1+ts.length))]]):=⟨A7 _ _,E1 _ _ _⟩;have hfr2:Fv (AW (inner st) (.list (IJ (inner st).next ts.length)::(t::ts).map He++[.list [.ref ((inner st).next+(1+ts.length))]])).objs (inner st).next 40 (.lst (IJ (inner st).next (ts.length+1)))=some (.lst (FQ (t::ts))):=by
   refine U1 ?_ hb;show refFrees (IJ _ _++[.ref _])=false;generalize IJ (inner st).next ts.length=zs
   induction zs with
   | nil=>rfl
   | cons z zs ih=>show(AN z&&refFrees (zs++[_]))=false;rw[ih,Bool.and_false]
  exact P2 1 7 Hc [.v fun s=>DY (st:=s) hl,.br hne,NI (inner st) [] (.list []),.al e1,.f loop,.gu (Bf _ hl),.al hal,.o (hadd ((t::ts).map He))] rfl rfl (by kernel_rfl) hfr2
end SL12
section SL13
open PySem
inductive Op where
 | num (x:Int) | af | afq | lab (x:Txt)
noncomputable def Op.tk:Op→Tk
 | .num x=>.num x
 | .af=>.name [65,70]
 | .afq=>.name [65,70,39]
 | .lab x=>.name x
noncomputable def Xy:List Txt:=[[66],[67],[68],[69],[72],[76],[65],[70],[73],[82],[73,88,72],[73,88,76],[73,89,72],[73,89,76]]
noncomputable def Xx:List Txt:=[[66,67],[68,69],[72,76],[83,80],[65,70],[65,70,39],[73,88],[73,89]]
noncomputable def Xv:List Txt:=[[78,90],[90],[78,67],[80,79],[80,69],[80],[77]]
noncomputable def Wj:List Txt:=[[43],[45],[78,79,84],[72,73,71,72],[76,79,87]]
noncomputable def Op.ok:Op→Bool
 | .lab x=>!FF x Xy&&!FF x Xx&&!FF x Xv&&!FF x Wj
 | _=>true
noncomputable def Op.tree:Op→V
 | .num x=>.tup [LX,.int x]
 | .lab x=>.tup [Tp,.str x]
 | _=>.none
noncomputable def Op.v:Op→V
 | .num x=>.tup [.str [110],.tup [LX,.int x]]
 | .af=>.tup [.str [112],.str [65,70]]
 | .afq=>.tup [.str [112],.str [65,70,39]]
 | .lab x=>.tup [.str [110],.tup [Tp,.str x]]
theorem Ug(o:Op):AN o.v=true:=by cases (o)<;>rfl
theorem XX(o:Op)(c:Nat):Qb o.tk c=false:=by cases (o)<;>rfl
theorem QZ:∀(x:Txt) (l:List Txt),C8 (.str x) (l.map .str)=some (FF x l):=by
 intro x q1_
 induction q1_ generalizing x with
 | nil=>exact rfl
 | cons y l ih_ =>
  show(match some (decide (y=x)),C8 (.str x) (l.map .str) with | some p,some q=>some (p||q) | _,_=>none)=_
  rw[ih_ x];rfl
theorem PJ(x:Txt)(l:List Txt)(st:St):Qa (.str x) (.tup (l.map .str)) st=some (FF x l):=QZ x l
noncomputable def FC(t:Tk)(a d:Int):O:=.inst 203 [11,26,32,33] [.lst [t.v],.int a,.int d,.int 0]
theorem YN:A5 CT 203=true:=rfl
theorem Ef{σ:St}{i:Nat}{t:Tk}{a d:Int}(h:σ.get i=some (FC t a d)):AU (A5 CT) (.ref i) 11 σ=some (.lst [t.v])∧AU (A5 CT) (.ref i) 26 σ=some (.int a)∧AU (A5 CT) (.ref i) 32 σ=some (.int d) :=
 ⟨AZ h rfl (by decide) rfl,AZ h rfl (by decide) rfl,AZ h rfl (by decide) rfl⟩
theorem TY{σ:St}{i:Nat}{t:Tk}{a d x:Int}(h:σ.get i=some (FC t a d))(hr:σ.ro≤i):setAttr (A5 CT) (.ref i) 26 (.int x) σ=some ((),σ.put i (FC t x d)):=BG h rfl (by decide) (by decide) (Dw hr rfl)
theorem Mh{σ:St}{i:Nat}{t:Tk}{a d x:Int}(h:σ.get i=some (FC t a d))(hr:σ.ro≤i):setAttr (A5 CT) (.ref i) 32 (.int x) σ=some ((),σ.put i (FC t a x)):=BG h rfl (by decide) (by decide) (Dw hr rfl)
theorem Eg{σ:St}{i:Nat}{t:Tk}{a d:Int}(h:σ.get i=some (FC t a d)):Ac CT σ (.ref i) 52=some 172∧Ac CT σ (.ref i) 53=some 179∧Ac CT σ (.ref i) 54=some 186∧Ac CT σ (.ref i) 55=some 193∧Ac CT σ (.ref i) 56=some 200:=by unfold Ac;dsimp only;rw[h];exact⟨rfl,rfl,rfl,rfl,rfl⟩
theorem I7{n a i:Nat}{vs:List V}{st:St}{o:O}{v:V}(np ns:Nat)(b:List S)(hs:List H)(hf:FT a=some ⟨np,ns,.scoped,b⟩)(hl:decide (vs.length=np)=true)
  (e:Lz (exsO CT (AP CT FT n) (vs.map some++List.replicate (ns - np) none) ⟨st.objs,st.next,st.ro⟩ b hs [])=some ((v,(⟨st.objs,st.next,st.ro⟩:St).put i o),[],Et hs)) (hz:AN v=true):AP CT FT (n+1) a vs st=some (v,st.put i o):=by
 rw[I8 np ns b hs hf hl e (Db hz),Oy]
theorem Lg(st:St):(⟨st.objs,st.next,st.ro⟩:St).cut st.next st.lo st.ro=st:=by unfold St.cut;rw[List.take_of_length_le (by unfold St.next;exact Nat.le_refl _)]
theorem Uk(n:Nat){st:St}{i:Nat}{t:Tk}{d:Int}(h:st.get i=some (FC t 0 d)):AP CT FT (n+1) 172 [.ref i] st=some (t.v,st):=by
 have h':(AW (inner st) []).get i=some (FC t 0 d):=by rw[BJ];exact h
 have h1:=(Ef h').1;have h2:=(Ef h').2.1;exact AK 1 2 Dz [.o h2,.o h1,.nv,.o h1,.o h2] rfl rfl (by kernel_rfl) (Ia t)
theorem Ul(n:Nat){st:St}{i:Nat}{t:Tk}{d:Int}(h:st.get i=some (FC t 1 d)):AP CT FT (n+1) 172 [.ref i] st=some (.tup [.str [101,110,100],.str []],st):=by
 have h':(AW (inner st) []).get i=some (FC t 1 d):=by rw[BJ];exact h
 exact AK 1 2 Dz [.o (Ef h').2.1,.o (Ef h').1] rfl rfl (by kernel_rfl) rfl
theorem WS(n:Nat){st:St}{i:Nat}{t:Tk}{d:Int}(h:st.get i=some (FC t 0 d))(hr:st.ro≤i):AP CT FT (n+2) 179 [.ref i] st=some (t.v,st.put i (FC t 1 d)):=by have h':(⟨st.objs,st.next,st.ro⟩:St).get i=some (FC t 0 d):=h;have hr':(⟨st.objs,st.next,st.ro⟩:St).ro≤i:=hr;exact I7 1 2 Fz [.mo (Eg h').1,.m (Uk n h'),.o (Ef h').2.1,.u (TY (x:=1) h' hr')] rfl rfl (by kernel_rfl) (Ia t)
theorem Uq(n:Nat)(o:Op)(hne:o.tree≠.none)(ho:o.ok=true){st:St}{i:Nat}:AP CT FT (n+2) 200 [.ref i,o.tk.v] st=some (o.tree,st):=by
 cases o with
 | af=>exact absurd rfl hne
 | afq=>exact absurd rfl hne
 | num x=>rw[I8 (τ:=⟨st.objs,st.next,st.ro⟩) (v:=(Op.num x).tree) 2 9 D4 [] rfl rfl (by kernel_rfl) (Db rfl),Lg]
 | lab x =>
  have ho:FF x Wj=false:=by
   have ho:(!FF x Xy&&!FF x Xx&&!FF x Xv&&!FF x Wj)=true:=ho;cases q:FF x Wj with
   | false=>rfl
   | true=>rw[q,Bool.not_true,Bool.and_false] at ho;cases ho
  rw[I8 (τ:=⟨st.objs,st.next,st.ro⟩) (v:=(Op.lab x).tree) 2 9 D4 [.p fun s=>Ai n (.name x) 36 s,.p fun s=>Ai n (.name x) 40 s,.nb,.nb,.br ho] rfl rfl (by kernel_rfl) (Db rfl),Lg]
theorem TV(n:Nat)(o:Op)(hne:o.tree≠.none)(ho:o.ok=true){st:St}{i:Nat}(h:st.get i=some (FC o.tk 0 0))(hr:st.ro≤i):AP CT FT (n+3) 193 [.ref i] st=some (o.tree,st.put i (FC o.tk 1 0)):=by
 have hz:AN o.tree=true:=by cases (o)<;>rfl
 have h':(⟨st.objs,st.next,st.ro⟩:St).get i=some (FC o.tk 0 0):=h;have hr':(⟨st.objs,st.next,st.ro⟩:St).ro≤i:=hr;have hi:=get_lt h';have hg1:=AJ (o:=FC o.tk 0 1) hi;have h3:=WS n hg1 hr';rw[Gw] at h3;have hg2:=AJ (o:=FC o.tk 1 1) hi;have h6:=Mh (x:=0) hg2 hr';rw[Gw] at h6;exact I7 1 4 Eo [.o (Ef h').2.2,.u (Mh (x:=1) h' hr'),.o (Ef hg1).2.2,.mo (Eg hg1).2.2.2.2,.mo (Eg hg1).2.1,.m h3,.m (Uq n o hne ho (st:=(⟨st.objs,st.next,st.ro⟩:St).put i (FC o.tk 1 1)) (i:=i)),.o (Ef hg2).2.2,.u h6] rfl rfl (by kernel_rfl) hz
end SL13
section SL14
open PySem
theorem Ts{test:AG→St→M V}{body:AG→St→M (Fl×AG)}{μ:AG}{st st':St}(h:test μ st=some (.bool false,st')):BP test body W μ st=some ((.next,μ),st'):=by exact D0 (k:=99999) h rfl
noncomputable def LEV:V:=.tup [.tup [.str [79,82],.str [88,79,82]],.tup [.str [65,78,68]],.tup [.str [69,81],.str [78,69],.str [76,84],.str [76,69],.str [71,84],.str [71,69],.str [61],.str [60,62],.str [60],.str [60,61],.str [62],.str [62,61]],.tup [.str [43],.str [45]],.tup [.str [42],.str [47],.str [77,79,68],.str [83,72,76],.str [83,72,82]]]
theorem Ok(n:Nat){st:St}{i:Nat}{t:Tk}(h:st.get i=some (FC t 1 0))(u:List (Option V)):ev CT (AP CT FT (n+1)) (some (.ref i)::u) st Cr=some (.bool false,st):=by exact Iz [.mo (Eg h).1,.m (Ul n h)] (by kernel_rfl)
theorem TW(n:Nat)(o:Op)(hne:o.tree≠.none)(ho:o.ok=true){st:St}{i:Nat}(h:st.get i=some (FC o.tk 0 0))(hr:st.ro≤i):AP CT FT (n+4) 186 [.ref i,.int 5] st=some (o.tree,st.put i (FC o.tk 1 0)):=by
 have hz:AN o.tree=true:=by cases (o)<;>rfl
 have h':(⟨st.objs,st.next,st.ro⟩:St).get i=some (FC o.tk 0 0):=h;have hr':(⟨st.objs,st.next,st.ro⟩:St).ro≤i:=hr;exact I7 2 9 D5 [.mo (Eg h').2.2.2.1,.m (TV n o hne ho h' hr')] rfl rfl (by kernel_rfl) hz
theorem Dd(n:Nat)(o:Op){k:Int}(hk:decide (k=5)=false){st:St}{i:Nat}(h:st.get i=some (FC o.tk 0 0))(hr:st.ro≤i)
  (ih:∀ σ:St,σ.get i=some (FC o.tk 0 0)→σ.ro≤i→AP CT FT (n+1) 186 [.ref i,.int (k+1)] σ=some (o.tree,σ.put i (FC o.tk 1 0))):AP CT FT (n+2) 186 [.ref i,.int k] st=some (o.tree,st.put i (FC o.tk 1 0)):=by
 have hz:AN o.tree=true:=by cases (o)<;>rfl
 have h':(⟨st.objs,st.next,st.ro⟩:St).get i=some (FC o.tk 0 0):=h;have hr':(⟨st.objs,st.next,st.ro⟩:St).ro≤i:=hr;have hw (u:List (Option V)):=Ts (test:=fun μ st=>ev CT (AP CT FT (n+1)) μ st Cr) (μ:=some (.ref i)::u) (body:=fun μ st=>exs CT (AP CT FT (n+1)) μ st EW) (Ok n (AJ (o:=FC o.tk 1 0) (get_lt h')) u);exact I7 2 9 D5 [.br hk,.mo (Eg h').2.2.1,.m (ih _ h' hr'),.f (hw [some (.int k),some o.tree,none,none,none,none,none,none])] rfl rfl (by kernel_rfl) hz
theorem Ur(n:Nat)(o:Op)(hne:o.tree≠.none)(ho:o.ok=true){st:St}{i:Nat}(h:st.get i=some (FC o.tk 0 0))(hr:st.ro≤i):AP CT FT (n+9) 186 [.ref i,.int 0] st=some (o.tree,st.put i (FC o.tk 1 0)) :=
 Dd (n+7) o rfl h hr fun σ h hr=>Dd (n+6) o (k:=1) rfl h hr fun σ h hr=>Dd (n+5) o (k:=2) rfl h hr fun σ h hr=>Dd (n+4) o (k:=3) rfl h hr fun σ h hr=>Dd (n+3) o (k:=4) rfl h hr fun σ h hr=>TW n o hne ho h hr
theorem Ut(n:Nat)(σ:St)(t:Tk)(h1:σ.lo≤σ.next)(h2:σ.ro≤σ.next):Fw CT (AP CT FT (n+1)) true 203 [.lst [t.v]] (AW σ [])=some (.ref σ.next,AW σ [FC t 0 0]):=by
 have hs (ks:List Nat) (vs:List V) (f:Nat) (v:V) (hf:Am f=true) (hk:Nat.ble ks.length 60=true):=I9 (l:=[]) (m:=[]) (c:=203) (ks:=ks) (vs:=vs) (f:=f) (v:=v) YN hf hk h1 h2;have hini:AP CT FT (n+1) 165 [.ref σ.next,.lst [t.v]] (AW σ [.inst 203 [] []])=some (.none,AW σ [FC t 0 0]) :=
  KU 2 2 Fy [.u (hs [] [] 11 (.lst [t.v]) rfl rfl),.u (hs [11] [.lst [t.v]] 26 (.int 0) rfl rfl),.u (hs [11,26] [.lst [t.v],.int 0] 32 (.int 0) rfl rfl),.u (hs [11,26,32] [.lst [t.v],.int 0,.int 0] 33 (.int 0) rfl rfl)] rfl rfl (by kernel_rfl)
 rw[I0 Wh (by rw[A7,E1];exact hini),A7];rfl
theorem TT(n:Nat)(o:Op)(hne:o.tree≠.none)(ho:o.ok=true)(st:St):AP CT FT (n+10) 221 [.lst [o.tk.v]] st=some (o.tree,st):=by
 have hg:(AW (inner st) [FC o.tk 0 0]).get (inner st).next=some (FC o.tk 0 0):=A0 _ _;have h1:=Ur n o hne ho hg (by rw[GY];exact Bc st)
 rw[EQ] at h1;have hg2:(AW (inner st) [FC o.tk 1 0]).get (inner st).next=some (FC o.tk 1 0):=A0 _ _;exact AK 1 6 Ep [.m (Ut (n+8) (inner st) o.tk (C9 st) (Bc st)),.mo (Eg hg).2.2.1,.m h1,.o (Ef hg2).2.1] rfl rfl (by kernel_rfl) (by cases (o)<;>rfl)
theorem K1(n:Nat)(t:Tk)(st:St):AP CT FT (n+1) 358 [.lst [t.v]] st=some (.bool false,st):=AK 1 7 Gb [] rfl rfl (by kernel_rfl) rfl
theorem RJ(n:Nat)(o:Op)(ho:o.ok=true)(st:St):AP CT FT (n+11) 379 [.lst [o.tk.v]] st=some (o.v,st):=by
 cases o with
 | num x=>exact AK 1 11 C4 [.p fun s=>K1 (n+9) (.num x) s,.p fun s=>TT n (.num x) (fun z=>by cases (z)) rfl s] rfl rfl (by kernel_rfl) rfl
 | af=>exact AK 1 11 C4 [] rfl rfl (by kernel_rfl) rfl
 | afq=>exact AK 1 11 C4 [] rfl rfl (by kernel_rfl) rfl
 | lab x=>have hk:(!FF x Xy&&!FF x Xx&&!FF x Xv&&!FF x Wj)=true:=ho;simp only[Bool.and_eq_true,Bool.not_eq_true'] at hk;exact AK 1 11 C4 [.nb,.nb,.nb,.br hk.1.1.1,.br hk.1.1.2,.br hk.1.2,.p fun s=>K1 (n+9) (.name x) s,.p fun s=>TT n (.lab x) (fun z=>by cases (z)) ho s] rfl rfl (by kernel_rfl) rfl
noncomputable def MY(l:List Op):List V:=l.map Op.v
theorem RD:∀ l:List Op,refFrees (MY l)=true:=by
 intro q1_
 induction q1_ with
 | nil=>exact rfl
 | cons o l ih_=>show(AN o.v&&refFrees (MY l))=true;rw[Ug,ih_];rfl
theorem TH(n:Nat)(st:St):∀(l:List Op) (u0 u2 u1:Option V),(∀ o∈l,o.ok=true)→Ax (fun μ st=>some (true,st)) (fun μ st=>ev CT (AP CT FT (n+11)) μ st Es) (.loc 1) (FQ (l.map Op.tk)) [u0,u1,u2] st=some (MY l,st):=by
 intro q1_
 induction q1_ with
 | nil=>intro _ _ _ _;exact rfl
 | cons o l ih_=>intro u0 u2 u1 h;exact HL rfl rfl rfl (Iz [.p fun s=>RJ n o (h o (.head _)) s] (by kernel_rfl)) (ih_ u0 u2 (some (.lst [o.tk.v])) fun x hx=>h x (.tail _ hx))
theorem OU(n:Nat)(l:List Op)(hok:∀ o∈l,o.ok=true)(h1:1≤l.length)(h4:l.length≤4)(st:St):AP CT FT (n+12) 384 [.lst (EU (Av (l.map Op.tk)))] st=some (.lst (MY l),st) :=
 AK 1 2 GD [.p fun s=>Mc (n+9) (l.map Op.tk) (fun t ht c=>by obtain⟨o,_,rfl⟩:=List.mem_map.mp ht;exact XX o c) (by rw[List.length_map];exact h1) (by rw[List.length_map];exact h4) s,
  .l (TH n (AW (inner st) []) l none none none hok),.gu (Bf _ (show(FQ (l.map Op.tk)).length≤100000 by unfold FQ;rw[List.length_map,List.length_map];exact Nat.le_trans h4 (by decide)))] rfl rfl (by kernel_rfl) (RD l)
end SL14
section SL15
open PySem
noncomputable def Op.val(ks:List Txt)(vs:List V):Op→Option Int
 | .num x=>some x
 | .lab x=>match Aq ks vs x with
  | some (.int v)=>some v
  | _=>none
 | _=>none
theorem J6{ks:List Txt}{vs:List V}{x:Txt}{v:V}(h:Aq ks vs x=some v):ks.contains x=true:=by
 induction ks generalizing vs with
 | nil=>cases vs<;>cases h
 | cons k ks ih =>
  cases vs with
  | nil=>cases h
  | cons w vs =>
   rw[DK] at h;rw[List.contains_cons];cases q:decide (k=x) with
   | true=>have:=of_decide_eq_true q;subst this;simp
   | false=>rw[q] at h;rw[ih h,Bool.or_true]
theorem OX(n:Nat){st:St}{s:Nat}{ks:List Txt}{vs:List V}(hs:st.get s=some (.dict ks vs)){o:Op}{x:Int}(hx:o.val ks vs=some x)(at_:V):AP CT FT (n+1) 249 [o.tree,.ref s,at_] st=some (.int x,st):=by
 have hs':(AW (inner st) []).get s=some (.dict ks vs):=by rw[BJ];exact hs
 cases o with
 | af=>cases hx
 | afq=>cases hx
 | num y=>cases hx;exact AK 3 9 GP [] rfl rfl (by kernel_rfl) rfl
 | lab y =>
  have hx:(match Aq ks vs y with | some (.int v)=>some v | _=>none)=some x:=hx
  have hd:Aq ks vs y=some (.int x):=by
   rfl';split at hx
   ·rename_i z q;cases hx;exact q
   ·cases hx
  have hin:EB .NotIn (.str y) (.ref s) (AW (inner st) [])=some false:=by show(Qa (.str y) (.ref s) (AW (inner st) [])).map (!·)=_;unfold Qa;dsimp only;rw[hs'];dsimp only;rw[J6 hd];rfl
  have hix:BR (.ref s) (.str y) (AW (inner st) [])=some (.int x):=by unfold BR;dsimp only;rw[hs'];exact hd
  exact AK 3 9 GP [.nc,.nc,.nc,.o1 hin,.nv,.o hix] rfl rfl (by kernel_rfl) rfl
theorem P4(n:Nat){st:St}{s:Nat}{ks:List Txt}{vs:List V}(hs:st.get s=some (.dict ks vs)){o:Op}{x:Int}(hx:o.val ks vs=some x)(at_ u:V):AP CT FT (n+2) 391 [o.tree,.ref s,at_,u] st=some (.int x,st) :=
 AK 4 6 GB [.m (OX n (st:=AW (inner st) []) (by rw[BJ];exact hs) hx at_)] rfl rfl (by kernel_rfl) rfl
noncomputable def Op.w(ks:List Txt)(vs:List V):Op→Option V
 | .af=>some (.tup [.str [112],.str [65,70]])
 | .afq=>some (.tup [.str [112],.str [65,70,39]])
 | o=>match o.val ks vs with
  | some x=>some (.tup [.str [110],.int x])
  | none=>none
noncomputable def Op.oct(ks:List Txt)(vs:List V):Op→Option Int
 | .af=>some 202
 | .afq=>some 201
 | o=>match o.val ks vs with
  | some x=>some (x.fmod 256)
  | none=>none
theorem TX(n:Nat){st:St}{s:Nat}{ks:List Txt}{vs:List V}(hs:st.get s=some (.dict ks vs)){o:Op}{w:V}(hw:o.w ks vs=some w)(at_ u:V):AP CT FT (n+3) 405 [o.v,.ref s,at_,u] st=some (w,st)∧AN w=true:=by
 have hf:AN w=true:=by
  cases o with
  | af=>exact B8 hw fun z=>(by rw[z];rfl)
  | afq=>exact B8 hw fun z=>(by rw[z];rfl)
  | num y=>exact B8 hw fun z=>(by rw[z];rfl)
  | lab y=>exact cf hw fun x _ h=>B8 h fun z=>(by rw[z];rfl)
 refine⟨?_,hf⟩;have hs':(AW (inner st) []).get s=some (.dict ks vs):=by rw[BJ];exact hs
 cases o with
 | num y=>cases hw;exact AK 4 9 BZ [.m (P4 n hs' (o:=.num y) rfl at_ u)] rfl rfl (by kernel_rfl) rfl
 | lab y=>rfl';refine cf hw fun x hx h=>B8 h fun z=>?_;subst z;exact AK 4 9 BZ [.m (P4 n hs' hx at_ u)] rfl rfl (by kernel_rfl) rfl
 | af=>cases hw;exact AK 4 9 BZ [] rfl rfl (by kernel_rfl) rfl
 | afq=>cases hw;exact AK 4 9 BZ [] rfl rfl (by kernel_rfl) rfl
noncomputable def Jl(ks:List Txt)(vs:List V):List Op→Option (List V)
 | []=>some []
 | o::r=>match o.w ks vs,Jl ks vs r with
  | some w,some ws=>some (w::ws)
  | _,_=>none
noncomputable def Gv(ks:List Txt)(vs:List V):List Op→Option (List Int)
 | []=>some []
 | o::r=>match o.oct ks vs,Gv ks vs r with
  | some w,some ws=>some (w::ws)
  | _,_=>none
set_option tactic.hygienic true in
theorem NE(n:Nat){st:St}{s:Nat}{ks:List Txt}{vs:List V}(hs:st.get s=some (.dict ks vs))(at_ u:V):∀(l:List Op) (u0 u1 u2:Option V) (ws:List V),Jl ks vs l=some ws →
  Ax (fun μ st=>some (true,st)) (fun μ st=>ev CT (AP CT FT (n+3)) μ st DQ) (.loc 1) (MY l) [u0,u1,u2,some at_,some (.ref s),some u] st=some (ws,st)∧refFrees ws=true:=by
 intro q1_
 induction q1_ with
 | nil=>intro _ _ _ ws h;cases h;exact⟨rfl,rfl⟩
 | cons o l ih_=>intro u0 u1 u2 ws h;rfl';refine vvL h fun w ws' h1 h2 h=>B8 h fun z=>?_;subst z;obtain⟨g1,g2⟩:=TX n hs h1 at_ u;obtain⟨ih,ih2⟩:=ih_ u0 (some o.v) u2 ws' h2;exact⟨HL rfl rfl rfl (Iz [.m g1] (by kernel_rfl)) ih,by show(AN w&&refFrees ws')=true;rw[g2,ih2];rfl⟩
theorem RM(n:Nat){st:St}{s:Nat}{ks:List Txt}{vs:List V}(hs:st.get s=some (.dict ks vs)){l:List Op}{ws:List V}(hw:Jl ks vs l=some ws)(hl:l.length≤4)(at_ u:V):AP CT FT (n+4) 410 [.lst (MY l),.ref s,at_,u] st=some (.lst ws,st):=by
 have hs':(AW (inner st) []).get s=some (.dict ks vs):=by rw[BJ];exact hs
 refine J1 (NE n hs' at_ u l none none none ws hw) fun hc hf=>?_;exact AK 4 4 Dq [.l hc,.gu (Bf _ (show(MY l).length≤100000 by unfold MY;rw[List.length_map];exact Nat.le_trans hl (by decide)))] rfl rfl (by kernel_rfl) hf
noncomputable def iV(l:List Int):List V:=l.map .int
theorem Fm:∀ l:List Int,refFrees (iV l)=true:=by
 intro q1_
 induction q1_ with
 | nil=>exact rfl
 | cons o l ih_=>show(true&&refFrees (iV l))=true;rw[ih_];rfl
theorem FZ(l:List Int):(iV l).length=l.length:=List.length_map _
noncomputable def Af:Txt:=[84,69,76,76]
theorem mod_int(a:Int)(b:Int)(h:decide (b=0)=false)(st:St):B7 .Mod (.int a) (.int b) st=some (.int (a.fmod b)):=by unfold B7;dsimp only;rw[h]
noncomputable def E0(σ:St)(x1 x2:V)(u6:Option V)(acc os:List Int)(r:M (Fl×AG)):Prop:=∃ u4 u5,r=some ((.next,[some (.str Af),some x1,some x2,some (.ref σ.next),u4,u5,u6]),AW σ [.list (iV (acc++os))])
theorem E0.more{σ:St}{x1 x2:V}{u6:Option V}{acc os:List Int}{c:Int}{r:M (Fl×AG)}(h:E0 σ x1 x2 u6 (acc++[c]) os r):E0 σ x1 x2 u6 acc (c::os) r:=by unfold E0 at h;rw[List.append_assoc] at h;exact h
theorem U6(acc:List Int)(c:Int):iV acc++[V.int c]=iV (acc++[c]):=by unfold iV;rw[List.map_append];rfl
theorem KW{ks:List Txt}{vs:List V}{o:Op}{l:List Op}{ws:List V}(h:Jl ks vs (o::l)=some ws):∃ w ws',o.w ks vs=some w∧Jl ks vs l=some ws'∧ws=w::ws':=by exact vvL h fun w ws' g1 g2 h=>NL w ws' g1 g2 (Option.some.inj h).symm
theorem KV{ks:List Txt}{vs:List V}{o:Op}{l:List Op}{ws:List Int}(h:Gv ks vs (o::l)=some ws):∃ w ws',o.oct ks vs=some w∧Gv ks vs l=some ws'∧ws=w::ws':=by exact iiL h fun w ws' g1 g2 h=>NL w ws' g1 g2 (Option.some.inj h).symm
theorem Uh{ks:List Txt}{vs:List V}{o:Op}{w:V}{c:Int}(g1:o.w ks vs=some w)(g3:o.oct ks vs=some c) :
  (w=.tup [.str [112],.str [65,70]]∧c=202)∨(w=.tup [.str [112],.str [65,70,39]]∧c=201)∨∃ x,w=.tup [.str [110],.int x]∧c=x.fmod 256:=by
 rfl';cases o with
 | num y=>cases g1;cases g3;exact .inr (.inr ⟨_,rfl,rfl⟩)
 | af=>cases g1;cases g3;exact .inl ⟨rfl,rfl⟩
 | afq=>cases g1;cases g3;exact .inr (.inl ⟨rfl,rfl⟩)
 | lab y =>
  have g1:(match (Op.lab y).val ks vs with | some x=>some (V.tup [.str [110],.int x]) | none=>none)=some w:=g1
  have g3:(match (Op.lab y).val ks vs with | some x=>some (x.fmod 256) | none=>none)=some c:=g3
  cases hx:(Op.lab y).val ks vs with
  | none=>rw[hx] at g1;cases g1
  | some x=>rw[hx] at g1 g3;cases g1;cases g3;exact .inr (.inr ⟨_,rfl,rfl⟩)
theorem R3(n:Nat)(σ:St)(h1:σ.lo≤σ.next)(h2:σ.ro≤σ.next)(x1 x2:V)(u6:Option V){ks:List Txt}{vs:List V}{o:Op}{w:V}{c:Int}(g1:o.w ks vs=some w)(g3:o.oct ks vs=some c)(acc:List Int)(hl:acc.length≤1000) :
  ∃ k x,w=.tup [.str k,x]∧exs CT (AP CT FT n) [some (.str Af),some x1,some x2,some (.ref σ.next),some (.str k),some x,u6] (AW σ [.list (iV acc)]) El=some ((.next,[some (.str Af),some x1,some x2,some (.ref σ.next),some (.str k),some x,u6]),AW σ [.list (iV (acc++[c]))]):=by
 have hg:=A0 σ [.list (iV acc)];have happ:=G6 (acc:=iV acc) (l:=[]) (.int c) h1 h2 (by rw[FZ];exact Nat.le_trans hl (by decide))
 rw[U6] at happ;rcases Uh g1 g3 with⟨rfl,rfl⟩ | ⟨rfl,rfl⟩ | ⟨x,rfl,rfl⟩
 ·exact Tx _ _ rfl (BN [.mo (MS hg 0),.gu (MM hg 0 rfl),.m happ] (by kernel_rfl))
 ·exact Tx _ _ rfl (BN [.mo (MS hg 0),.gu (MM hg 0 rfl),.m happ] (by kernel_rfl))
 ·exact Tx _ _ rfl (BN [.mo (MS hg 0),.gu (MM hg 0 rfl),.m happ] (by kernel_rfl))
theorem R2(n:Nat)(body:AG→St→M (Fl×AG))(hb:∀ μ st,body μ st=exs CT (AP CT FT n) μ st El)(σ:St)(h1:σ.lo≤σ.next)(h2:σ.ro≤σ.next)(x2 x1:V)(u6:Option V){ks:List Txt}{vs:List V}:∀(l:List Op) (ws:List V) (os acc:List Int) (u4 u5:Option V),Jl ks vs l=some ws→Gv ks vs l=some os→acc.length+l.length≤100 →
  E0 σ x1 x2 u6 acc os (Bn (.tup [4,5]) body ws [some (.str Af),some x1,some x2,some (.ref σ.next),u4,u5,u6] (AW σ [.list (iV acc)])):=by
 intro q1_
 induction q1_ with
 | nil=>intro ws os acc u4 u5 h h' _;cases h;cases h';exact Wg u4 u5 (by rw[List.append_nil];rfl)
 | cons o l ih_ =>
  intro ws os acc u4 u5 h h' hlen;refine Dx (KW h) fun w ws' g1 g2 z_4=>?_;subst z_4;refine Dx (KV h') fun c os' g3 g4 z_4=>?_;subst z_4;rw[List.length_cons,Nat.add_comm l.length 1,← Nat.add_assoc] at hlen;refine EK (R3 n σ h1 h2 x1 x2 u6 g1 g3 acc (Nat.le_trans (Nat.le_trans (Nat.le_add_right _ _) (Nat.le_trans (Nat.le_add_right _ _) hlen)) (by decide))) fun k x z_2 e=>?_;subst z_2
  exact E0.more (Vj (P:=E0 σ x1 x2 u6 (acc++[c]) os') rfl ((hb _ _).trans e) (ih_ ws' os' (acc++[c]) (some (.str k)) (some x) g2 g4 (by rw[List.length_append,List.length_singleton];exact hlen)))
theorem TG{ks:List Txt}{vs:List V}:∀{l:List Op} {ws:List V},Jl ks vs l=some ws→ws.length=l.length:=by
 intro q1_
 induction q1_ with
 | nil=>intro ws h;cases h;rfl
 | cons o l ih_=>intro ws h;refine Dx (KW h) fun w ws' g1 g2 z_4=>?_;subst z_4;rw[List.length_cons,List.length_cons,ih_ g2]
theorem MX{ks:List Txt}{vs:List V}:∀{l:List Op} {ws:List Int},Gv ks vs l=some ws→ws.length=l.length:=by
 intro q1_
 induction q1_ with
 | nil=>intro ws h;cases h;rfl
 | cons o l ih_=>intro ws h;refine Dx (KV h) fun w ws' g1 g2 z_4=>?_;subst z_4;rw[List.length_cons,List.length_cons,ih_ g2]
theorem WT(n:Nat){ks:List Txt}{vs:List V}{l:List Op}{ws:List V}{os:List Int}(hw:Jl ks vs l=some ws)(ho:Gv ks vs l=some os)(hl:l.length≤4)(x2:V)(st:St):AP CT FT (n+1) 658 [.str Af,.lst ws,x2] st=some (.lst (iV os),st):=by
 refine NK (R2 n _ (fun _ _=>rfl) (inner st) (C9 st) (Bc st) x2 (.lst ws) none l ws os [] none none hw ho (by rw[List.length_nil,Nat.zero_add];exact Nat.le_trans hl (by decide))) fun a b h=>?_
 exact P2 3 7 Il [NI (inner st) [] (.list []),.f h,.gu (Bf ws.length (by rw[TG hw];exact Nat.le_trans hl (by decide)))] rfl rfl (by kernel_rfl) (HX (st:=inner st) (l:=[.list (iV os)]) rfl (Fm os) (by rw[FZ,MX ho];exact Nat.lt_of_le_of_lt hl (by decide)))
end SL15
section SL16
open PySem
structure Ids where
 sy:Nat
 sz:Nat
 ps:Nat
 fx:Nat
 ch:Nat
 mc:Nat
 md:Nat
 oc:Nat
 s2:Nat
 ls:Nat
 er:Nat
noncomputable def Ids.l(I:Ids):List Nat:=[I.sy,I.sz,I.ps,I.fx,I.ch,I.mc,I.md,I.oc,I.s2,I.ls,I.er]
structure PS where
 last:Bool
 sk:List Txt
 sv:List V
 sizes:List V
 rp:Int
 fk:List Txt
 fv:List V
 mq:List Txt
 mw:List V
 at_:Nat
 ser:Nat
 rl:Int
 octs:List V
 lst:List V
noncomputable def F9(I:Ids)(last:Bool)(rp at_ ser rl:Int):O:=.inst 596 [15,19,20,21,22,23,24,25,26,27,28,29,30,31]
 [.ref I.sy,.fn 658,.ref I.sz,.bool last,.int rp,.ref I.fx,.ref I.ch,.ref I.mc,.int at_,.int ser,.int rl,.int 0,.bool false,.ref I.md]
noncomputable def XH(I:Ids):O:=.inst 453 [14,15,16,17,18] [.ref I.oc,.ref I.s2,.ref I.ls,.ref I.er,.none]
structure Holds(I:Ids)(σ:PS)(st:St):Prop where
 ps:st.get I.ps=some (F9 I σ.last σ.rp σ.at_ σ.ser σ.rl)
 sy:st.get I.sy=some (.dict σ.sk σ.sv)
 sz:st.get I.sz=some (.list σ.sizes)
 fx:st.get I.fx=some (.dict σ.fk σ.fv)
 ch:st.get I.ch=some (.dict [] [])
 mc:st.get I.mc=some (.dict σ.mq σ.mw)
 md:st.get I.md=some (XH I)
 oc:st.get I.oc=some (.list σ.octs)
 ls:st.get I.ls=some (.list σ.lst)
 er:st.get I.er=some (.list [])
 nd:I.l.Nodup
 lt:∀ j∈I.l,j<st.next
 ro:st.ro=0
 b1:σ.sk.length≤1000
 b2:σ.fk.length≤1000
 b3:σ.mq.length≤1000
 b4:σ.sizes.length≤1000
 b5:σ.octs.length≤1000
 b6:σ.lst.length≤1000
structure Fr(I:Ids)(st st':St):Prop where
 next:st'.next=st.next
 lo:st'.lo=st.lo
 ro:st'.ro=st.ro
 get:∀ j,j∉I.l→st'.get j=st.get j
theorem Fr.refl(I:Ids)(st:St):Fr I st st:=⟨rfl,rfl,rfl,fun _ _=>rfl⟩
theorem Fr.trans{I:Ids}{a b c:St}(h:Fr I a b)(h':Fr I b c):Fr I a c:=⟨h'.next.trans h.next,h'.lo.trans h.lo,h'.ro.trans h.ro,fun j hj=>(h'.get j hj).trans (h.get j hj)⟩
theorem AA{st:St}{i j:Nat}{o:O}(h:i≠j):(st.put i o).get j=st.get j:=by unfold St.put St.get;rw[List.getElem?_set_ne h]
theorem Fr.put{I:Ids}{st:St}{i:Nat}(h:i∈I.l)(o:O):Fr I st (st.put i o):=⟨A8,rfl,rfl,fun j hj=>AA fun z=>hj (z▸h)⟩
theorem Holds.same{I:Ids}{σ:PS}{st st':St}(h:Holds I σ st)(hr:st'.ro=0)(hn:st.next≤st'.next)(hg:∀ j,j<st.next→st'.get j=st.get j):Holds I σ st' :=
 ⟨(hg _ (get_lt h.ps)).trans h.ps,(hg _ (get_lt h.sy)).trans h.sy,(hg _ (get_lt h.sz)).trans h.sz,(hg _ (get_lt h.fx)).trans h.fx,(hg _ (get_lt h.ch)).trans h.ch,(hg _ (get_lt h.mc)).trans h.mc,(hg _ (get_lt h.md)).trans h.md,
  (hg _ (get_lt h.oc)).trans h.oc,(hg _ (get_lt h.ls)).trans h.ls,(hg _ (get_lt h.er)).trans h.er,h.nd,fun j hj=>Nat.lt_of_lt_of_le (h.lt j hj) hn,hr,h.b1,h.b2,h.b3,h.b4,h.b5,h.b6⟩
theorem Hl:∀{l:List Nat},l.Nodup→∀{i j:Nat} {a b:Nat},l[i]?=some a→l[j]?=some b→i≠j→a≠b:=by
 intro q1_
 induction q1_ with
 | nil=>intro _ _ _ _ _ ha _ _;simp at ha
 | cons x l ih_ =>
  intro h q2_;cases q2_ with
  | zero =>
   intro q3_;cases q3_ with
   | zero=>intro _ _ _ _ hij;exact absurd rfl hij
   | succ j=>intro a b ha hb _;rw[List.nodup_cons] at h;simp only[List.getElem?_cons_zero,Option.some.injEq,List.getElem?_cons_succ] at ha hb;subst ha;exact fun z=>h.1 (z▸List.mem_of_getElem? hb)
  | succ i =>
   intro q4_;cases q4_ with
   | zero=>intro a b ha hb _;rw[List.nodup_cons] at h;simp only[List.getElem?_cons_zero,Option.some.injEq,List.getElem?_cons_succ] at ha hb;subst hb;exact fun z=>h.1 (z▸List.mem_of_getElem? ha)
   | succ j=>intro a b ha hb hij;rw[List.nodup_cons] at h;simp only[List.getElem?_cons_succ] at ha hb;exact ih_ h.2 ha hb (fun z=>hij (by rw[z]))
section
variable {I:Ids}{σ:PS}{st:St}
theorem Holds.putPs(h:Holds I σ st)(rp at_ ser:Nat)(rl rp':Int):Holds I { σ with rp:=rp',at_:=at_,ser:=ser,rl:=rl } (st.put I.ps (F9 I σ.last rp' at_ ser rl)):=by
 have n:∀{i a},I.l[i]?=some a→i≠2→I.ps≠a:=fun ha hi=>fun z=>Hl h.nd ha (j:=2) rfl hi z.symm;exact⟨AJ (get_lt h.ps),(AA (n (i:=0) rfl (by decide))).trans h.sy,(AA (n (i:=1) rfl (by decide))).trans h.sz,(AA (n (i:=3) rfl (by decide))).trans h.fx,(AA (n (i:=4) rfl (by decide))).trans h.ch,
  (AA (n (i:=5) rfl (by decide))).trans h.mc,(AA (n (i:=6) rfl (by decide))).trans h.md,(AA (n (i:=7) rfl (by decide))).trans h.oc,(AA (n (i:=9) rfl (by decide))).trans h.ls,(AA (n (i:=10) rfl (by decide))).trans h.er,h.nd,(fun j hj=>by rw[A8];exact h.lt j hj),h.ro,h.b1,h.b2,h.b3,h.b4,h.b5,h.b6⟩
theorem Holds.putSz(h:Holds I σ st)(l:List V)(hl:l.length≤1000):Holds I { σ with sizes:=l } (st.put I.sz (.list l)):=by
 have n:∀{i a},I.l[i]?=some a→i≠1→I.sz≠a:=fun ha hi=>fun z=>Hl h.nd ha (j:=1) rfl hi z.symm;exact⟨(AA (n (i:=2) rfl (by decide))).trans h.ps,(AA (n (i:=0) rfl (by decide))).trans h.sy,AJ (get_lt h.sz),(AA (n (i:=3) rfl (by decide))).trans h.fx,(AA (n (i:=4) rfl (by decide))).trans h.ch,
  (AA (n (i:=5) rfl (by decide))).trans h.mc,(AA (n (i:=6) rfl (by decide))).trans h.md,(AA (n (i:=7) rfl (by decide))).trans h.oc,(AA (n (i:=9) rfl (by decide))).trans h.ls,(AA (n (i:=10) rfl (by decide))).trans h.er,h.nd,(fun j hj=>by rw[A8];exact h.lt j hj),h.ro,h.b1,h.b2,h.b3,hl,h.b5,h.b6⟩
theorem Holds.putFx(h:Holds I σ st)(k:List Txt)(v:List V)(hl:k.length≤1000):Holds I { σ with fk:=k,fv:=v } (st.put I.fx (.dict k v)):=by
 have n:∀{i a},I.l[i]?=some a→i≠3→I.fx≠a:=fun ha hi=>fun z=>Hl h.nd ha (j:=3) rfl hi z.symm;exact⟨(AA (n (i:=2) rfl (by decide))).trans h.ps,(AA (n (i:=0) rfl (by decide))).trans h.sy,(AA (n (i:=1) rfl (by decide))).trans h.sz,AJ (get_lt h.fx),(AA (n (i:=4) rfl (by decide))).trans h.ch,
  (AA (n (i:=5) rfl (by decide))).trans h.mc,(AA (n (i:=6) rfl (by decide))).trans h.md,(AA (n (i:=7) rfl (by decide))).trans h.oc,(AA (n (i:=9) rfl (by decide))).trans h.ls,(AA (n (i:=10) rfl (by decide))).trans h.er,h.nd,(fun j hj=>by rw[A8];exact h.lt j hj),h.ro,h.b1,hl,h.b3,h.b4,h.b5,h.b6⟩
theorem Holds.putSy(h:Holds I σ st)(k:List Txt)(v:List V)(hl:k.length≤1000):Holds I { σ with sk:=k,sv:=v } (st.put I.sy (.dict k v)):=by
 have n:∀{i a},I.l[i]?=some a→i≠0→I.sy≠a:=fun ha hi=>fun z=>Hl h.nd ha (j:=0) rfl hi z.symm;exact⟨(AA (n (i:=2) rfl (by decide))).trans h.ps,AJ (get_lt h.sy),(AA (n (i:=1) rfl (by decide))).trans h.sz,(AA (n (i:=3) rfl (by decide))).trans h.fx,(AA (n (i:=4) rfl (by decide))).trans h.ch,
  (AA (n (i:=5) rfl (by decide))).trans h.mc,(AA (n (i:=6) rfl (by decide))).trans h.md,(AA (n (i:=7) rfl (by decide))).trans h.oc,(AA (n (i:=9) rfl (by decide))).trans h.ls,(AA (n (i:=10) rfl (by decide))).trans h.er,h.nd,(fun j hj=>by rw[A8];exact h.lt j hj),h.ro,hl,h.b2,h.b3,h.b4,h.b5,h.b6⟩
theorem Holds.putMc(h:Holds I σ st)(k:List Txt)(v:List V)(hl:k.length≤1000):Holds I { σ with mq:=k,mw:=v } (st.put I.mc (.dict k v)):=by
 have n:∀{i a},I.l[i]?=some a→i≠5→I.mc≠a:=fun ha hi=>fun z=>Hl h.nd ha (j:=5) rfl hi z.symm;exact⟨(AA (n (i:=2) rfl (by decide))).trans h.ps,(AA (n (i:=0) rfl (by decide))).trans h.sy,(AA (n (i:=1) rfl (by decide))).trans h.sz,(AA (n (i:=3) rfl (by decide))).trans h.fx,(AA (n (i:=4) rfl (by decide))).trans h.ch,
  AJ (get_lt h.mc),(AA (n (i:=6) rfl (by decide))).trans h.md,(AA (n (i:=7) rfl (by decide))).trans h.oc,(AA (n (i:=9) rfl (by decide))).trans h.ls,(AA (n (i:=10) rfl (by decide))).trans h.er,h.nd,(fun j hj=>by rw[A8];exact h.lt j hj),h.ro,h.b1,h.b2,hl,h.b4,h.b5,h.b6⟩
theorem Holds.putOc(h:Holds I σ st)(l:List V)(hl:l.length≤1000):Holds I { σ with octs:=l } (st.put I.oc (.list l)):=by
 have n:∀{i a},I.l[i]?=some a→i≠7→I.oc≠a:=fun ha hi=>fun z=>Hl h.nd ha (j:=7) rfl hi z.symm;exact⟨(AA (n (i:=2) rfl (by decide))).trans h.ps,(AA (n (i:=0) rfl (by decide))).trans h.sy,(AA (n (i:=1) rfl (by decide))).trans h.sz,(AA (n (i:=3) rfl (by decide))).trans h.fx,(AA (n (i:=4) rfl (by decide))).trans h.ch,
  (AA (n (i:=5) rfl (by decide))).trans h.mc,(AA (n (i:=6) rfl (by decide))).trans h.md,AJ (get_lt h.oc),(AA (n (i:=9) rfl (by decide))).trans h.ls,(AA (n (i:=10) rfl (by decide))).trans h.er,h.nd,(fun j hj=>by rw[A8];exact h.lt j hj),h.ro,h.b1,h.b2,h.b3,h.b4,hl,h.b6⟩
theorem Holds.putLs(h:Holds I σ st)(l:List V)(hl:l.length≤1000):Holds I { σ with lst:=l } (st.put I.ls (.list l)):=by
 have n:∀{i a},I.l[i]?=some a→i≠9→I.ls≠a:=fun ha hi=>fun z=>Hl h.nd ha (j:=9) rfl hi z.symm;exact⟨(AA (n (i:=2) rfl (by decide))).trans h.ps,(AA (n (i:=0) rfl (by decide))).trans h.sy,(AA (n (i:=1) rfl (by decide))).trans h.sz,(AA (n (i:=3) rfl (by decide))).trans h.fx,(AA (n (i:=4) rfl (by decide))).trans h.ch,
  (AA (n (i:=5) rfl (by decide))).trans h.mc,(AA (n (i:=6) rfl (by decide))).trans h.md,(AA (n (i:=7) rfl (by decide))).trans h.oc,AJ (get_lt h.ls),(AA (n (i:=10) rfl (by decide))).trans h.er,h.nd,(fun j hj=>by rw[A8];exact h.lt j hj),h.ro,h.b1,h.b2,h.b3,h.b4,h.b5,hl⟩
theorem Holds.at26(h:Holds I σ st):AU (A5 CT) (.ref I.ps) 26 st=some (.int σ.at_):=AZ h.ps rfl (by decide) rfl
theorem Holds.at21(h:Holds I σ st):AU (A5 CT) (.ref I.ps) 21 st=some (.bool σ.last):=AZ h.ps rfl (by decide) rfl
theorem Holds.at22(h:Holds I σ st):AU (A5 CT) (.ref I.ps) 22 st=some (.int σ.rp):=AZ h.ps rfl (by decide) rfl
theorem Holds.at20(h:Holds I σ st):AU (A5 CT) (.ref I.ps) 20 st=some (.ref I.sz):=AZ h.ps rfl (by decide) rfl
theorem Holds.at15(h:Holds I σ st):AU (A5 CT) (.ref I.ps) 15 st=some (.ref I.sy):=AZ h.ps rfl (by decide) rfl
theorem Holds.at23(h:Holds I σ st):AU (A5 CT) (.ref I.ps) 23 st=some (.ref I.fx):=AZ h.ps rfl (by decide) rfl
theorem Holds.at24(h:Holds I σ st):AU (A5 CT) (.ref I.ps) 24 st=some (.ref I.ch):=AZ h.ps rfl (by decide) rfl
theorem Holds.at25(h:Holds I σ st):AU (A5 CT) (.ref I.ps) 25 st=some (.ref I.mc):=AZ h.ps rfl (by decide) rfl
theorem Holds.at27(h:Holds I σ st):AU (A5 CT) (.ref I.ps) 27 st=some (.int σ.ser):=AZ h.ps rfl (by decide) rfl
theorem Holds.at28(h:Holds I σ st):AU (A5 CT) (.ref I.ps) 28 st=some (.int σ.rl):=AZ h.ps rfl (by decide) rfl
theorem Holds.at30(h:Holds I σ st):AU (A5 CT) (.ref I.ps) 30 st=some (.bool false):=AZ h.ps rfl (by decide) rfl
theorem Holds.at31(h:Holds I σ st):AU (A5 CT) (.ref I.ps) 31 st=some (.ref I.md):=AZ h.ps rfl (by decide) rfl
theorem Holds.md14(h:Holds I σ st):AU (A5 CT) (.ref I.md) 14 st=some (.ref I.oc):=AZ h.md rfl (by decide) rfl
theorem Holds.md16(h:Holds I σ st):AU (A5 CT) (.ref I.md) 16 st=some (.ref I.ls):=AZ h.md rfl (by decide) rfl
theorem Holds.wr(h:Holds I σ st){i:Nat}{v:V}(hv:AN v=true):st.wr i v=true:=Dw (by rw[h.ro];exact Nat.zero_le _) hv
theorem Holds.set26(h:Holds I σ st)(x:Nat):setAttr (A5 CT) (.ref I.ps) 26 (.int x) st=some ((),st.put I.ps (F9 I σ.last σ.rp x σ.ser σ.rl)):=BG h.ps rfl (by decide) (by decide) (h.wr rfl)
theorem Holds.set22(h:Holds I σ st)(x:Int):setAttr (A5 CT) (.ref I.ps) 22 (.int x) st=some ((),st.put I.ps (F9 I σ.last x σ.at_ σ.ser σ.rl)):=BG h.ps rfl (by decide) (by decide) (h.wr rfl)
theorem Holds.set27(h:Holds I σ st)(x:Nat):setAttr (A5 CT) (.ref I.ps) 27 (.int x) st=some ((),st.put I.ps (F9 I σ.last σ.rp σ.at_ x σ.rl)):=BG h.ps rfl (by decide) (by decide) (h.wr rfl)
theorem Holds.set28(h:Holds I σ st)(x:Int):setAttr (A5 CT) (.ref I.ps) 28 (.int x) st=some ((),st.put I.ps (F9 I σ.last σ.rp σ.at_ σ.ser x)):=BG h.ps rfl (by decide) (by decide) (h.wr rfl)
theorem Holds.meth(h:Holds I σ st)(f g:Nat)(hf:DX [15,19,20,21,22,23,24,25,26,27,28,29,30,31] (List.replicate 14 V.none) f=none)(hg:([(34,478),(37,499),(38,504),(40,518),(42,532),(43,539),(44,546),(45,553),(47,567),(48,574),(49,581)]:List (Nat×Nat)).lookup f=some g):Ac CT st (.ref I.ps) f=some g:=by
 have key:∀(a1 a2 a3 a4 a5 a6 a7 a8 a9 a10 a11 a12 a13 a14:V),DX [15,19,20,21,22,23,24,25,26,27,28,29,30,31] [a1,a2,a3,a4,a5,a6,a7,a8,a9,a10,a11,a12,a13,a14] f=none:=by
  intro a1 a2 a3 a4 a5 a6 a7 a8 a9 a10 a11 a12 a13 a14;have:∀(ks:List Nat) (vs ws:List V),vs.length=ws.length→DX ks vs f=none→DX ks ws f=none:=by
   intro ks
   induction ks with
   | nil=>intro vs ws _ _;cases (ws)<;>rfl
   | cons k ks ih =>
    intro vs ws hl hv;cases vs with
    | nil=>cases ws with
     | nil=>rfl
     | cons _ _=>cases (hl)
    | cons v vs=>cases ws with
     | nil=>rfl
     | cons w ws =>
      rw[Ve] at hv ⊢;cases q:Nat.beq k f with
      | true=>rw[q] at hv;cases hv
      | false=>rw[q] at hv;exact ih vs ws (by simpa using hl) hv
  exact this _ (List.replicate 14 V.none) _ rfl hf
 unfold Ac;dsimp only;rw[h.ps];unfold F9;dsimp only;rw[key];exact hg
end
theorem EG{n a:Nat}{vs:List V}{st τ:St}{fl:Fl}{μ:AG}{v:V}{I:Ids}{σ σ':PS}(np ns:Nat)(b:List S)(hf:FT a=some ⟨np,ns,.scoped,b⟩)(hl:decide (vs.length=np)=true)(h0:Holds I σ st)
  (h:exs CT (AP CT FT n) (vs.map some++List.replicate (ns - np) none) ⟨st.objs,st.next,st.ro⟩ b=some ((fl,μ),τ)) (hn:st.next≤τ.next) (hk:∀ j,j<st.next→j∉I.l→τ.get j=st.get j) (hσ:Holds I σ' τ)
  (hv:MA fl=v) (hz:AN v=true):∃ st',AP CT FT (n+1) a vs st=some (v,st')∧Holds I σ' st'∧Fr I st st':=by
 refine Pf (τ.cut st.next st.lo st.ro) ?_ ?_ ?_
 ·rw[JR _ hf hl];dsimp only;rw[h];unfold Aj;dsimp only;rw[hv,Db hz];rfl
 ·have hg:∀ j,j<st.next→(τ.cut st.next st.lo st.ro).get j=τ.get j:=fun j hj=>by unfold St.cut St.get;rw[List.getElem?_take,if_pos hj]
  have m:∀{i a},I.l[i]?=some a→a<st.next:=fun ha=>h0.lt _ (List.mem_of_getElem? ha);exact⟨(hg _ (m (i:=2) rfl)).trans hσ.ps,(hg _ (m (i:=0) rfl)).trans hσ.sy,(hg _ (m (i:=1) rfl)).trans hσ.sz,(hg _ (m (i:=3) rfl)).trans hσ.fx,(hg _ (m (i:=4) rfl)).trans hσ.ch,(hg _ (m (i:=5) rfl)).trans hσ.mc,(hg _ (m (i:=6) rfl)).trans hσ.md,
   (hg _ (m (i:=7) rfl)).trans hσ.oc,(hg _ (m (i:=9) rfl)).trans hσ.ls,(hg _ (m (i:=10) rfl)).trans hσ.er,hσ.nd,(fun j hj=>by
   have:=h0.lt j hj;unfold St.cut St.next at *
   rw[List.length_take];exact p48 hn this),h0.ro,hσ.b1,hσ.b2,hσ.b3,hσ.b4,hσ.b5,hσ.b6⟩
 ·refine⟨?_,rfl,rfl,fun j hj=>?_⟩
  ·unfold St.cut St.next at *
   rw[List.length_take];exact LB hn
  ·rcases Nat.lt_or_ge j st.next with q | q
   ·refine Eq.trans ?_ (hk j q hj);unfold St.cut St.get;rw[List.getElem?_take,if_pos q]
   ·unfold St.cut St.get St.next at *
    rw[List.getElem?_take,if_neg (Nat.not_lt.mpr q),List.getElem?_eq_none q]
theorem Holds.inner{I:Ids}{σ:PS}{st:St}(h:Holds I σ st):Holds I σ ⟨st.objs,st.next,st.ro⟩:=h.same h.ro (Nat.le_refl _) fun _ _=>rfl
end SL16
section SL17
open PySem
theorem Kv(I:Ids):I.ps∈I.l:=by simp [Ids.l]
theorem WC(I:Ids):I.sy∈I.l:=by simp [Ids.l]
theorem WD(I:Ids):I.sz∈I.l:=by simp [Ids.l]
theorem Vz(I:Ids):I.fx∈I.l:=by simp [Ids.l]
theorem WB(I:Ids):I.oc∈I.l:=by simp [Ids.l]
theorem WA(I:Ids):I.ls∈I.l:=by simp [Ids.l]
theorem D3{i:Nat}{st:St}{xs:List V}{v:V}(hg:st.get i=some (.list xs))(hw:st.wr i v=true)(hl:xs.length≤1000):BS (.ref i) 0 [v] st=some (.none,st.put i (.list (xs++[v]))):=by unfold BS;dsimp only;rw[hg];show A9 (st.wr i v&&Nat.ble xs.length Cs) _=_;rw[hw,Bf _ (by exact o7 hl)];rfl
theorem A4{i:Nat}{st:St}{xs:List V}(hg:st.get i=some (.list xs))(f:Nat):Ac CT st (.ref i) f=none:=by unfold Ac;dsimp only;rw[hg]
theorem Ay{i:Nat}{st:St}{xs:List V}(hg:st.get i=some (.list xs)):EO st (.ref i) 0=true:=by unfold EO;dsimp only;rw[hg];rfl
theorem Qs{i:Nat}{st:St}{ks:List Txt}{vs:List V}(hg:st.get i=some (.dict ks vs))(f:Nat):Ac CT st (.ref i) f=none:=by unfold Ac;dsimp only;rw[hg]
theorem OJ{i:Nat}{st:St}{ks:List Txt}{vs:List V}(hg:st.get i=some (.dict ks vs)):EO st (.ref i) 2=true:=by unfold EO;dsimp only;rw[hg];rfl
theorem Cd{i:Nat}{st:St}{ks:List Txt}{vs:List V}{k:Txt}{v:V}(hg:st.get i=some (.dict ks vs))(hw:st.wr i v=true)(hl:ks.length≤1000):Dg (.ref i) (.str k) v st=some ((),st.put i (.dict (AV ks vs k v).1 (AV ks vs k v).2)):=by
 unfold Dg;dsimp only;rw[hg];dsimp only;rw[hw,C5,leL _ (by exact o7 hl)]
 rfl
theorem Gn{i:Nat}{st:St}{ks:List Txt}{vs:List V}{k:Txt}(hg:st.get i=some (.dict ks vs)):Qa (.str k) (.ref i) st=some (ks.contains k):=by unfold Qa;dsimp only;rw[hg]
theorem D8:∀{ks:List Txt} {vs:List V} {k:Txt} {v:V},(AV ks vs k v).1.length≤ks.length+1
 | [],_,_,_=>Nat.le_refl _
 | k'::ks,[],_,_=>Nat.succ_le_succ (Nat.zero_le _)
 | k'::ks,w::vs,k,v=>by
  rw[HM];cases decide (k'=k) with
  | true=>simp
  | false=>have:=D8 (ks:=ks) (vs:=vs) (k:=k) (v:=v);simp only[List.length_cons];exact aE this
section
variable {I:Ids}{σ:PS}{st:St}
noncomputable def PS.counted(σ:PS)(k:Nat):PS:=match σ.last with
 | true=>{ σ with rp:=σ.rp+1,at_:=σ.at_+k }
 | false=>{ σ with sizes:=σ.sizes++[.int (k:Nat)],rp:=σ.rp+1,at_:=σ.at_+k }
theorem KF{σ:PS}(h:σ.last=true)(k:Nat):σ.counted k={ σ with rp:=σ.rp+1,at_:=σ.at_+k }:=by unfold PS.counted;rw[h]
theorem KE{σ:PS}(h:σ.last=false)(k:Nat):σ.counted k={ σ with sizes:=σ.sizes++[.int (k:Nat)],rp:=σ.rp+1,at_:=σ.at_+k }:=by unfold PS.counted;rw[h]
set_option tactic.hygienic true in
theorem Cw{n a:Nat}{vs:List V}{st τ:St}{v:V}{I:Ids}{σ σ':PS}(np ns:Nat)(b:List S)(hs:List H)(hf:FT a=some ⟨np,ns,.scoped,b⟩)(hl:decide (vs.length=np)=true)(h0:Holds I σ st)
  (e:Lz (exsO CT (AP CT FT n) (vs.map some++List.replicate (ns - np) none) ⟨st.objs,st.next,st.ro⟩ b hs [])=some ((v,τ),[],Et hs)) (hσ:Holds I σ' τ) (hk:Fr I ⟨st.objs,st.next,st.ro⟩ τ) (hz:AN v=true) :
  ∃ st',AP CT FT (n+1) a vs st=some (v,st')∧Holds I σ' st'∧Fr I st st':=by
 unfold Lz at e;rfl';split at e
 ·rename_i fl μ s hs' qs q;cases e;exact EG np ns b hf hl h0 (BN hs q) (Nat.le_of_eq hk.next.symm) (fun j _ hj=>hk.get j hj) hσ rfl hz
 ·cases e
theorem P3(n:Nat)(h:Holds I σ st)(k:Nat)(hs:σ.sizes.length<1000):∃ st',AP CT FT (n+1) 567 [.ref I.ps,.int (k:Nat)] st=some (.none,st')∧Holds I (σ.counted k) st'∧Fr I st st':=by
 have hi:=h.inner;rcases Bool.eq_false_or_eq_true σ.last with hl | hl
 ·have h2:=hi.putPs σ.rp.toNat (σ.at_+k) σ.ser σ.rl σ.rp;rw[KF hl];exact Cw 2 2 E2 [.o hi.at21,.br hl,.o hi.at26,.u (hi.set26 (σ.at_+k)),.o h2.at22,.u (h2.set22 (σ.rp+1))] rfl rfl h (by kernel_rfl) (h2.putPs 0 (σ.at_+k) σ.ser σ.rl (σ.rp+1)) ((Fr.put (Kv I) _).trans (Fr.put (Kv I) _)) rfl
 ·have hp:=hi.putSz (σ.sizes++[.int (k:Nat)]) (by rw[List.length_append];exact hs)
  have h2:=hp.putPs σ.rp.toNat (σ.at_+k) σ.ser σ.rl σ.rp;rw[KE hl];exact Cw 2 2 E2 [.o hi.at21,.br hl,.o hi.at20,.mo (A4 hi.sz 0),.gu (Ay hi.sz),.m (D3 hi.sz (hi.wr (i:=I.sz) (v:=.int (k:Nat)) rfl) hi.b4),.o hp.at26,.u (hp.set26 (σ.at_+k)),.o h2.at22,.u (h2.set22 (σ.rp+1))] rfl rfl h (by kernel_rfl)
   (h2.putPs 0 (σ.at_+k) σ.ser σ.rl (σ.rp+1)) ((Fr.put (WD I) _).trans ((Fr.put (Kv I) _).trans (Fr.put (Kv I) _))) rfl
noncomputable def PS.defined(σ:PS)(x:Txt)(v:Int):PS:={ σ with fk:=(AV σ.fk σ.fv x (.bool true)).1,fv:=(AV σ.fk σ.fv x (.bool true)).2,sk:=(AV σ.sk σ.sv x (.int v)).1,sv:=(AV σ.sk σ.sv x (.int v)).2 }
theorem TR(n:Nat)(h:Holds I σ st)(x:Txt)(v:Int)(hf:σ.fk.contains x=false)(hv:σ.last=true→(Aq σ.sk σ.sv x).getD (.int v)=.int v)(b1:σ.sk.length<1000)(b2:σ.fk.length<1000) :
  ∃ st',AP CT FT (n+1) 478 [.ref I.ps,.str x,.int v] st=some (.none,st')∧Holds I (σ.defined x v) st'∧Fr I st st':=by
 have hi:=h.inner;have i1:EB .In (.str x) (.ref I.fx) ⟨st.objs,st.next,st.ro⟩=some false:=by rw[show EB .In (.str x) (.ref I.fx) _=Qa (.str x) (.ref I.fx) _ from rfl,Gn hi.fx,hf]
 have i2:EB .In (.str x) (.ref I.ch) ⟨st.objs,st.next,st.ro⟩=some false:=Gn hi.ch;have h2:=hi.putFx (AV σ.fk σ.fv x (.bool true)).1 (AV σ.fk σ.fv x (.bool true)).2 (Nat.le_trans D8 b2);have h3:=h2.putSy (AV σ.sk σ.sv x (.int v)).1 (AV σ.sk σ.sv x (.int v)).2 (Nat.le_trans D8 b1);have fr:=(Fr.put (st:=⟨st.objs,st.next,st.ro⟩) (Vz I) (.dict (AV σ.fk σ.fv x (.bool true)).1 (AV σ.fk σ.fv x (.bool true)).2)).trans (Fr.put (WC I) (.dict (AV σ.sk σ.sv x (.int v)).1 (AV σ.sk σ.sv x (.int v)).2));rfl';cases hl:σ.last with
 | true=>have m3:=PQ hi.sy x (.int v);rw[hv hl] at m3;exact Cw 3 4 Dy [.o hi.at23,.o1 i1,.o hi.at24,.o1 i2,.o hi.at21,.br hl,.o hi.at15,.mo (Qs hi.sy 2),.gu (OJ hi.sy),.m m3,.br (show(!decide (v=v))=false by rw[decide_eq_true rfl];rfl),.o hi.at23,.u (Cd (k:=x) (v:=.bool true) hi.fx (hi.wr rfl) hi.b2),.o h2.at15,.u (Cd (k:=x) (v:=.int v) h2.sy (h2.wr rfl) h2.b1)] rfl rfl h (by kernel_rfl) h3 fr rfl
 | false=>exact Cw 3 4 Dy [.o hi.at23,.o1 i1,.o hi.at24,.o1 i2,.o hi.at21,.br hl,.o hi.at23,.u (Cd (k:=x) (v:=.bool true) hi.fx (hi.wr rfl) hi.b2),.o h2.at15,.u (Cd (k:=x) (v:=.int v) h2.sy (h2.wr rfl) h2.b1)] rfl rfl h (by kernel_rfl) h3 fr rfl
end
end SL17
section SL18
open PySem
theorem MB{a b:Nat}(h:a<b):((a:Nat):Int).fmod (b:Nat)=a:=by rw[Int.fmod_eq_emod_of_nonneg _ (Int.natCast_nonneg b)];exact Int.emod_eq_of_lt (Int.natCast_nonneg a) (by exact p8 h)
theorem Kx{a:Nat}(h:a<65536)(st:St):B7 .Mod (.int (a:Nat)) (.int 65536) st=some (.int (a:Nat)):=by
 rw[mod_int _ _ rfl];have:=MB h;rw[show((65536:Nat):Int)=65536 from rfl] at this
 rw[this]
noncomputable def BQ:Nat→List V→List V
 | _,[]=>[]
 | k,x::xs=>.tup [.int (k:Nat),x]::BQ (k+1) xs
theorem Gh(xs:List V):GE xs=BQ 0 xs:=by
 have key:∀(xs:List V) (k:Nat),(List.range' k xs.length).zipWith (fun(i:Nat) x=>V.tup [.int i,x]) xs=BQ k xs:=by
  intro xs
  induction xs with
  | nil=>intro k;rfl
  | cons x xs ih=>intro k;rw[List.length_cons,List.range'_succ,List.zipWith_cons_cons,ih];rfl
 unfold GE;rw[List.range_eq_range'];exact key xs 0
theorem C6:∀(k:Nat) (xs:List V),(BQ k xs).length=xs.length
 | _,[]=>rfl
 | k,x::xs=>congrArg (·+1) (C6 (k+1) xs)
structure RowAt(I:Ids)(ri:Nat)(num:Int)(text:Txt)(d:Rd)(st:St):Prop where
 get:st.get ri=some (CW (.int num) (.str text) (JI d.lab) (.str d.word) (.lst (EU d.rest)))
 out:ri∉I.l
theorem RowAt.fr{I:Ids}{ri:Nat}{num:Int}{text:Txt}{d:Rd}{st st':St}(h:RowAt I ri num text d st)(f:Fr I st st'):RowAt I ri num text d st':=⟨(f.get ri h.out).trans h.get,h.out⟩
section
variable {I:Ids}{σ:PS}{st:St}{ri:Nat}{num:Int}{text:Txt}{d:Rd}
noncomputable def PS.labelled(σ:PS):Option Txt→PS
 | none=>σ
 | some x=>σ.defined x σ.at_
noncomputable def L4(σ:PS):Option Txt→Prop
 | none=>True
 | some x=>σ.fk.contains x=false∧(σ.last=true→(Aq σ.sk σ.sv x).getD (.int σ.at_)=.int σ.at_)∧σ.sk.length<1000∧σ.fk.length<1000
theorem Ho(n:Nat)(h:Holds I σ st)(r:RowAt I ri num text d st)(hl:L4 σ d.lab)(ha:σ.at_<65536):∃ st',AP CT FT (n+2) 539 [.ref I.ps,.ref ri] st=some (.none,st')∧Holds I (σ.labelled d.lab) st'∧Fr I st st':=by
 have hi:=h.inner;have a9:=(BC (σ:=⟨st.objs,st.next,st.ro⟩) r.get).2.2.1;cases hd:d.lab with
 | none=>rw[hd] at a9;exact Cw 2 2 Ck [.o a9] rfl rfl h (by kernel_rfl) hi (Fr.refl _ _) rfl
 | some x=>rw[hd] at a9 hl;rfl';refine VU hl fun l1 l2 l3 l4=>?_;clear hl;refine FE (TR n hi x σ.at_ l1 l2 l3 l4) fun τ' g1 g2 g3=>?_;exact Cw 2 2 Ck [.o a9,.mo (hi.meth 34 478 rfl rfl),.o a9,.o hi.at26,.v fun s=>Kx ha s,.m g1] rfl rfl h (by kernel_rfl) g2 g3 rfl
noncomputable def Bk(a:Nat):List Int→List V
 | []=>[]
 | o::r=>.tup [.int (a:Nat),.int o]::Bk (a+1) r
theorem HZ:∀(a:Nat) (os:List Int),(Bk a os).length=os.length
 | _,[]=>rfl
 | a,o::r=>congrArg (·+1) (HZ (a+1) r)
theorem TP(n:Nat)(body:AG→St→M (Fl×AG))(hb:∀ μ st,body μ st=exs CT (AP CT FT n) μ st Ek)(x1 x2:V)(u5 u6:Option V):∀(os:List Int) (k:Nat) (σ:PS) (τ:St) (u3 u4:Option V),Holds I σ τ→σ.octs.length+os.length<1000→σ.at_+k+os.length<65536 →
  ∃ u3' u4' τ',Bn (.tup [3,4]) body (BQ k (iV os)) [some (.ref I.ps),some x1,some x2,u3,u4,u5,u6] τ=some ((.next,[some (.ref I.ps),some x1,some x2,u3',u4',u5,u6]),τ')∧Holds I { σ with octs:=σ.octs++Bk (σ.at_+k) os } τ'∧Fr I τ τ':=by
 intro q1_
 induction q1_ with
 | nil=>intro k σ τ u3 u4 h _ _;exact y33 u3 u4 τ rfl (by show Holds I { σ with octs:=σ.octs++[] } τ;rw[List.append_nil];exact h) (Fr.refl _ _)
 | cons o os ih_ =>
  intro k σ τ u3 u4 h hl ha;have hp:=h.putOc (σ.octs++[.tup [.int ((σ.at_+k:Nat):Int),.int o]]) (by simp at hl ⊢;exact Zt hl)
  refine x33 (ih_ (k+1) _ _ (some (.int (k:Nat))) (some (.int o)) hp (by simp at hl ⊢;exact Zk hl) (by simp at ha ⊢;exact ZH ha)) fun v3 v4 τ' g1 g2 g3=>?_
  refine y33 v3 v4 τ' (DR rfl ((hb _ _).trans (BN [.o h.at31,.o h.md14,.mo (A4 h.oc 0),.gu (Ay h.oc),.o h.at26,.v fun s=>Kx (a:=σ.at_+k) (by exact ZW ha) s,.m (D3 h.oc (h.wr (i:=I.oc) (v:=.tup [.int ((σ.at_+k:Nat):Int),.int o]) rfl) h.b5)] (by kernel_rfl))) g1) ?_ ((Fr.put (WB I) _).trans g3)
  ·have e:σ.octs++[V.tup [.int ((σ.at_+k:Nat):Int),.int o]]++Bk (σ.at_+(k+1)) os=σ.octs++Bk (σ.at_+k) (o::os):=by rw[List.append_assoc];rfl
   have g2':Holds I { σ with octs:=σ.octs++[V.tup [.int ((σ.at_+k:Nat):Int),.int o]]++Bk (σ.at_+(k+1)) os } τ':=g2
   rw[e] at g2';exact g2'
noncomputable def PS.putted(σ:PS)(num:Int)(text:Txt)(os:List Int):PS:=match σ.last with
 | true=>({ σ with octs:=σ.octs++Bk σ.at_ os,lst:=σ.lst++[.tup [.int num,.int σ.at_,.lst (iV os),.str text]] }:PS).counted os.length
 | false=>σ.counted os.length
theorem M6(h:σ.last=true)(num:Int)(text:Txt)(os:List Int):σ.putted num text os=({ σ with octs:=σ.octs++Bk σ.at_ os,lst:=σ.lst++[.tup [.int num,.int σ.at_,.lst (iV os),.str text]] }:PS).counted os.length:=by unfold PS.putted;rw[h]
theorem M5(h:σ.last=false)(num:Int)(text:Txt)(os:List Int):σ.putted num text os=σ.counted os.length:=by unfold PS.putted;rw[h]
theorem RL(n:Nat)(h:Holds I σ st)(r:RowAt I ri num text d st)(os:List Int)(ho:os.length<100)(h1:σ.octs.length<900)(h2:σ.lst.length<900)(h3:σ.sizes.length<900)(ha:σ.at_+os.length<65536) :
  ∃ st',AP CT FT (n+2) 553 [.ref I.ps,.ref ri,.lst (iV os)] st=some (.none,st')∧Holds I (σ.putted num text os) st'∧Fr I st st':=by
 have hi:=h.inner;have hlen (s:St):FO .len [.lst (iV os)] s=some (.int (os.length:Nat)):=by rw[DY (by rw[FZ];exact Nat.le_trans (Nat.le_of_lt ho) (by decide)),FZ]
 rcases Bool.eq_false_or_eq_true σ.last with hl | hl
 ·refine x33 (TP (I:=I) (n+1) (fun μ st=>exs CT (AP CT FT (n+1)) μ st Ek) (fun _ _=>rfl) (.ref ri) (.lst (iV os)) none none os 0 σ _ none none hi (by exact ZU ho h1) (by rw[Nat.add_zero];exact ha)) fun v3 v4 τ1 g1 g2 g3=>?_
  have r1:RowAt I ri num text d τ1:=RowAt.fr (st:=⟨st.objs,st.next,st.ro⟩) ⟨r.get,r.out⟩ g3;have hp:=g2.putLs (σ.lst++[.tup [.int num,.int (σ.at_:Nat),.lst (iV os),.str text]]) (by rw[List.length_append,List.length_singleton];exact am h2)
  have hfree:AN (.tup [.int num,.int (σ.at_:Nat),.lst (iV os),.str text])=true:=by show(true&&(true&&(refFrees (iV os)&&(true&&true))))=true;rw[Fm];rfl
  refine FE (P3 n hp os.length (show σ.sizes.length<1000 by exact XM h3)) fun τ2 f1 f2 f3=>?_
  rw[M6 hl];have hit:Bo (⟨st.objs,st.next,st.ro⟩:St) .enum (.tup [3,4]) (.lst (iV os)) .none=some (BQ 0 (iV os),.lst (iV os)):=congrArg (fun z=>some (z,V.lst (iV os))) (Gh (iV os));have hun:Aa st.ro τ1=τ1:=by unfold Aa;rw[← (show τ1.ro=st.ro from g3.ro)]
  exact Cw 3 7 GO [.o hi.at21,.br hl,.i hit,.f g1,.gu (Bf (BQ 0 (iV os)).length (by rw[C6,FZ];exact Nat.le_trans (Nat.le_of_lt ho) (by decide))),.st hun,.o g2.at31,.o g2.md16,.mo (A4 g2.ls 0),.gu (Ay g2.ls),.o (BC r1.get).1,.o g2.at26,.v fun s=>Kx (a:=σ.at_) (by exact Z0 ha) s,.o (BC r1.get).2.1,.m (D3 g2.ls (g2.wr (i:=I.ls) hfree) g2.b6),
   .mo (hp.meth 47 567 rfl rfl),.v hlen,.m f1] rfl rfl h (by kernel_rfl) f2 ((g3.trans (Fr.put (WA I) _)).trans f3) rfl
 ·refine FE (P3 n hi os.length (by exact XM h3)) fun τ2 f1 f2 f3=>?_
  rw[M5 hl];exact Cw 3 7 GO [.o hi.at21,.br hl,.mo (hi.meth 47 567 rfl rfl),.v hlen,.m f1] rfl rfl h (by kernel_rfl) f2 f3 rfl
end
end SL18
section SL19
open PySem
structure Ord(d:Rd)(l:List Op):Prop where
 word:d.word=Af
 rest:d.rest=Av (l.map Op.tk)
 ok:∀ o∈l,o.ok=true
 len:1≤l.length∧l.length≤4
set_option tactic.hygienic true in
theorem Ui{ks:List Txt}{vs:List V}:∀{l:List Op} {os:List Int},Gv ks vs l=some os→∃ ws,Jl ks vs l=some ws:=by
 intro q1_
 induction q1_ with
 | nil=>intro _ _;exact⟨[],rfl⟩
 | cons o l ih_ =>
  intro os h;refine iiL h fun c os' h1 h2 h=>?_;obtain⟨ws,hw⟩:=ih_ h2;have:∃ w,o.w ks vs=some w:=by
   cases o with
   | af=>exact⟨_,rfl⟩
   | afq=>exact⟨_,rfl⟩
   | num x=>exact⟨_,rfl⟩
   | lab x=>exact cf h1 fun v hv _=>⟨.tup [.str [110],.int v],by show(match (Op.lab x).val ks vs with | some x=>some (V.tup [.str [110],.int x]) | none=>none)=_;rw[hv]⟩
  obtain⟨w,h3⟩:=this;exact⟨w::ws,by show(match o.w ks vs,Jl ks vs l with | some w,some ws=>some (w::ws) | _,_=>none)=_;rw[h3,hw]⟩
section
variable {I:Ids}{σ:PS}{st:St}{ri:Nat}{num:Int}{text:Txt}{d:Rd}{l:List Op}{os:List Int}
theorem Un(n:Nat)(h:Holds I σ st)(r:RowAt I ri num text d st)(o:Ord d l)(ho:Gv σ.sk σ.sv l=some os)(ha:σ.at_<65536)(u:V){τ:St}(t:inner τ=inner st):AP CT FT (n+13) 581 [.ref I.ps,.ref ri,u] τ=some (.lst (iV os),τ):=by
 have hp:∀ j,(AW (inner τ) []).get j=st.get j:=fun j=>by rw[BJ,t];rfl
 have hps:=(hp I.ps).trans h.ps;have hr:=(hp ri).trans r.get;rw[o.word,o.rest] at hr;obtain⟨ws,hw⟩:=Ui ho;have a26:AU (A5 CT) (.ref I.ps) 26 (AW (inner τ) [])=some (.int σ.at_):=AZ hps rfl rfl rfl;exact AK 3 10 G9 [.o (BC hr).2.2.2.2,.m (OU n l o.ok o.len.1 o.len.2 (AW (inner τ) [])),.o (AZ (ok:=A5 CT) (f:=15) (v:=.ref I.sy) hps rfl rfl rfl),.o a26,.m (RM (n+8) ((hp I.sy).trans h.sy) hw o.len.2 (.int σ.at_) u),.o (AZ (ok:=A5 CT) (f:=19) (v:=.fn 658) hps rfl rfl rfl),.o (BC hr).2.2.2.1,.o a26,.v fun s=>Kx ha s,.m (WT (n+11) hw ho o.len.2 (.int σ.at_) (AW (inner τ) []))] rfl rfl (by kernel_rfl) (Fm os)
theorem TU(n:Nat)(h:Holds I σ st)(r:RowAt I ri num text d st)(o:Ord d l)(ho:Gv σ.sk σ.sv l=some os)(ha:σ.at_<65536):AP CT FT (n+14) 574 [.ref I.ps,.ref ri] st=some (.lst (iV os),st):=by
 have hp:∀ j,(AW (inner st) []).get j=st.get j:=fun j=>by rw[BJ];rfl
 have hps:=(hp I.ps).trans h.ps;have hr:=(hp ri).trans r.get;rw[o.word] at hr;have horder:∀ u,AP CT FT (n+13) 581 [.ref I.ps,.ref ri,u] (AW (inner st) [])=some (.lst (iV os),AW (inner st) []):=fun u=>Un n h r o ho ha u (by rw[BJ];rfl)
 have a21:AU (A5 CT) (.ref I.ps) 21 (AW (inner st) [])=some (.bool σ.last):=AZ hps rfl rfl rfl;have a10:=(BC hr).2.2.2.1;have m:Ac CT (AW (inner st) []) (.ref I.ps) 49=some 581:=by unfold Ac;dsimp only;rw[hps];rfl
 rfl';cases hl:σ.last with
 | true=>rw[hl] at a21;exact AK 2 14 Cj [.o a10,.o a21,.mo m,.m (horder .none)] rfl rfl (by kernel_rfl) (Fm os)
 | false=>rw[hl] at a21;exact AK 2 14 Cj [.o a10,.o a21,.mo m,.m (horder (.int 0))] rfl rfl (by kernel_rfl) (Fm os)
structure TellOk(σ:PS)(d:Rd)(l:List Op)(os:List Int):Prop where
 ord:Ord d l
 lab:L4 σ d.lab
 os:Gv (σ.labelled d.lab).sk (σ.labelled d.lab).sv l=some os
 at_:σ.at_<60000
 b1:σ.octs.length<900
 b2:σ.lst.length<900
 b3:σ.sizes.length<900
theorem Vs(σ:PS)(x:Option Txt):(σ.labelled x).at_=σ.at_∧(σ.labelled x).octs=σ.octs∧(σ.labelled x).lst=σ.lst∧(σ.labelled x).sizes=σ.sizes:=by cases (x)<;>exact⟨rfl,rfl,rfl,rfl⟩
theorem Uo(n:Nat)(h:Holds I σ st)(r:RowAt I ri num text d st)(t:TellOk σ d l os):∃ st',AP CT FT (n+15) 546 [.ref I.ps,.ref ri] st=some (.none,st')∧Holds I ((σ.labelled d.lab).putted num text os) st'∧Fr I st st':=by
 have hi:=h.inner;have ri':RowAt I ri num text d ⟨st.objs,st.next,st.ro⟩:=⟨r.get,r.out⟩;have ta:=t.at_;rfl';refine FE (Ho (n+12) hi ri' t.lab (Nat.lt_trans ta (by decide))) fun τ1 f1 f2 f3=>?_
 have r1:=ri'.fr f3;refine VU (Vs σ d.lab) fun q1 q2 q3 q4=>?_;have hol:=MX t.os;have hl4:=t.ord.len.2;have ta:σ.at_+os.length<65536:=by exact Yq ta hol hl4
 refine FE (RL (n+12) f2 r1 os (by exact av hol hl4) (by rw[q2];exact t.b1) (by rw[q3];exact t.b2) (by rw[q4];exact t.b3) (by rw[q1];exact ta)) fun τ2 k1 k2 k3=>?_
 have a10:=(BC ri'.get).2.2.2.1;rw[t.ord.word] at a10;exact Cw 2 7 Ga [.o a10,.mo (hi.meth 43 539 rfl rfl),.m f1,.mo (f2.meth 45 553 rfl rfl),.mo (f2.meth 48 574 rfl rfl),.m (TU n f2 r1 t.ord t.os (by rw[q1];omega)),.m k1] rfl rfl h (by kernel_rfl) k2 (f3.trans k3) rfl
end
end SL19
section SL20
open PySem
noncomputable abbrev C0:=Int×Txt
noncomputable def BL(R:List C0):List V:=R.map fun p=>Cf p.1 p.2
theorem ER(R:List C0):(BL R).length=R.length:=List.length_map _
theorem GZ:∀ R:List C0,refFrees (BL R)=true:=by
 intro q1_
 induction q1_ with
 | nil=>exact rfl
 | cons p R ih_=>show(true&&refFrees (BL R))=true;rw[ih_];rfl
theorem RO{R:List C0}{i:Nat}{p:C0}(h:R[i]?=some p):(BL R)[i]?=some (Cf p.1 p.2):=by unfold BL;rw[List.getElem?_map,h];rfl
noncomputable def BF:Txt:=[77,65,67,82,79]
noncomputable def Ey:Txt:=[69,78,68,77]
noncomputable def CZ:Txt:=[76,79,67,65,76]
noncomputable def FI(text:Txt)(w:Txt):Prop:=∃ d,By text d∧d.word=w
inductive Words:List C0→List Txt→Prop where
 | nil (R):Words R []
 | cons {num text w R W}:FI text w→Words R W→Words ((num,text)::R) (w::W)
structure RowsV(L:V)(R:List C0)(st:St):Prop where
 it:items st L=some (BL R)
 li:AD st L=some (BL R)
 ns:∀ s,L≠.str s
 len:R.length≤1000
theorem RowsV.fro{R:List C0}(h:R.length≤1000)(st:St):RowsV (.lst (BL R)) R st:=⟨rfl,rfl,fun _ z=>(by cases (z)),h⟩
theorem RowsV.ref{R:List C0}(h:R.length≤1000){st:St}{j:Nat}(hg:st.get j=some (.list (BL R))):RowsV (.ref j) R st :=
 ⟨by unfold items;dsimp only;rw[hg],by unfold AD;dsimp only;rw[hg],fun _ z=>(by cases (z)),h⟩
theorem RowsV.mono{L:V}{R:List C0}{st st':St}(h:RowsV L R st)(hg:∀ j,L=.ref j→st'.get j=st.get j):RowsV L R st':=by
 obtain⟨h1,h2,h3,h4⟩:=h;cases L with
 | ref j =>
  have:=hg j rfl;refine⟨?_,?_,h3,h4⟩
  ·rw[← h1];unfold items;dsimp only;rw[this]
  ·rw[← h2];unfold AD;dsimp only;rw[this]
 | _=>exact⟨h1,h2,h3,h4⟩
theorem RowsV.idx{L:V}{R:List C0}{st:St}(h:RowsV L R st){a:Nat}{num:Int}{text:Txt}(hg:R[a]?=some (num,text)):BR L (.int (a:Nat)) st=some (Cf num text):=by
 have hlt:a<R.length:=by
  rcases Nat.lt_or_ge a R.length with h | h
  ·exact h
  ·rw[List.getElem?_eq_none h] at hg;cases hg
 have:=h.len;rw[IW h.it h.ns (by exact aV hlt this)]
 exact RO hg
theorem RowsV.ln{L:V}{R:List C0}{st:St}(h:RowsV L R st):FO .len [L] st=some (.int (R.length:Nat)):=by
 obtain⟨h1,h2,h3,h4⟩:=h;have:FO .len [L] st=match items st L with
  | some xs=>Eb (Nat.ble xs.length Cs) (.int xs.length)
  | none=>none:=by
  cases L with
  | str s=>exact absurd rfl (h3 s)
  | _=>rfl
 rw[this,h1];dsimp only;rw[ER,Bf _ (by exact o7 h4)];rfl
theorem RowsV.slice{L:V}{R:List C0}{st:St}(h:RowsV L R st){a b:Nat}(ha:a≤R.length)(hb:b≤R.length):Bg L (.int (a:Nat)) (.int (b:Nat)) st=some (.lst (BL ((R.take b).drop a))):=by
 obtain⟨h1,h2,h3,h4⟩:=h;have:Bg L (.int (a:Nat)) (.int (b:Nat)) st=match AD st L with
  | some xs=>match Nat.ble xs.length Cs with
   | true=>(DF xs (.int (a:Nat)) (.int (b:Nat))).map .lst
   | false=>none
  | none=>none:=by
  cases L with
  | str s=>exact absurd rfl (h3 s)
  | _=>rfl
 rw[this,h2];dsimp only;rw[Bf _ (by rw[ER];exact o7 h4)]
 unfold DF Dk;dsimp only;rw[decide_eq_true (Int.natCast_nonneg a),decide_eq_true (Int.natCast_nonneg b)];dsimp only[Option.map];rw[Int.toNat_natCast,Int.toNat_natCast,ER,Nat.min_eq_left ha,Nat.min_eq_left hb];unfold BL;rw[List.map_drop,List.map_take]
noncomputable def G7:List Txt→Int→Option Nat
 | [],_=>none
 | w::W,dep=>bif decide (w=BF) then(G7 W (dep+1)).map (·+1) else bif decide (w=Ey) then(bif decide (dep - 1=0) then some 0 else(G7 W (dep - 1)).map (·+1)) else(G7 W dep).map (·+1)
theorem V4{w:Txt}{W:List Txt}{dep:Int}:G7 (w::W) dep=bif decide (w=BF) then(G7 W (dep+1)).map (·+1) else bif decide (w=Ey) then(bif decide (dep - 1=0) then some 0 else(G7 W (dep - 1)).map (·+1)) else(G7 W dep).map (·+1):=rfl
theorem Mg{a b:Nat}(h:a<b):Al (a:Nat) (b:Nat)=.int (a:Nat)::Al ((a+1:Nat):Int) (b:Nat):=by
 unfold Al;have e1:(((b:Nat):Int) - (a:Nat)).toNat=(((b:Nat):Int) - ((a+1:Nat):Int)).toNat+1:=by rw[Int.toNat_sub,Int.toNat_sub];exact(Nat.sub_add_cancel (Nat.sub_pos_of_lt h)).symm
 rw[e1,List.range_succ_eq_map,List.map_cons,List.map_map]
 congr 1
 refine List.map_congr_left fun k _=>?_;simp only[Function.comp_apply]
 congr 1
 show(a:Int)+((k:Int)+1)=((a:Int)+1)+(k:Int);rw[Int.add_comm (k:Int) 1,Int.add_assoc]
section
variable {C:AC}{L:V}{i dep:Int}{w mc en:Txt}{ro:V}{τ:St}(x0 x2:V)(u7 u8 u9 u10 u11:Option V)
theorem Rq(h1:BR L (.int i) τ=some ro)(h2:C 614 [ro] τ=some (.str w,τ))(q1:decide (w=mc)=true)(q2:decide (w=en)=false):exs CT C [some x0,some L,some x2,some (.str mc),some (.str en),some (.int dep),some (.int i),u7,u8,u9,u10,u11] τ Ad=some ((.next,[some x0,some L,some x2,some (.str mc),some (.str en),some (.int (dep+1)),some (.int i),some (.str w),u8,u9,u10,u11]),τ):=BN [.o h1,.m h2,.nc,.br q1,.nc,.br q2] (by kernel_rfl)
theorem UE(h1:BR L (.int i) τ=some ro)(h2:C 614 [ro] τ=some (.str w,τ))(q1:decide (w=mc)=false)(q2:decide (w=en)=false):exs CT C [some x0,some L,some x2,some (.str mc),some (.str en),some (.int dep),some (.int i),u7,u8,u9,u10,u11] τ Ad=some ((.next,[some x0,some L,some x2,some (.str mc),some (.str en),some (.int dep),some (.int i),some (.str w),u8,u9,u10,u11]),τ):=BN [.o h1,.m h2,.nc,.br q1,.nc,.br q2] (by kernel_rfl)
theorem Rp(h1:BR L (.int i) τ=some ro)(h2:C 614 [ro] τ=some (.str w,τ))(q1:decide (w=mc)=false)(q2:decide (w=en)=true)(q3:decide (dep - 1=0)=false):exs CT C [some x0,some L,some x2,some (.str mc),some (.str en),some (.int dep),some (.int i),u7,u8,u9,u10,u11] τ Ad=some ((.next,[some x0,some L,some x2,some (.str mc),some (.str en),some (.int (dep - 1)),some (.int i),some (.str w),u8,u9,u10,u11]),τ):=BN [.o h1,.m h2,.nc,.br q1,.nc,.br q2,.nc,.br q3] (by kernel_rfl)
theorem Rr(h1:BR L (.int i) τ=some ro)(h2:C 614 [ro] τ=some (.str w,τ))(q1:decide (w=mc)=false)(q2:decide (w=en)=true)(q3:decide (dep - 1=0)=true):exs CT C [some x0,some L,some x2,some (.str mc),some (.str en),some (.int dep),some (.int i),u7,u8,u9,u10,u11] τ Ad=some ((.ret (.int i),[some x0,some L,some x2,some (.str mc),some (.str en),some (.int (dep - 1)),some (.int i),some (.str w),u8,u9,u10,u11]),τ):=BN [.o h1,.m h2,.nc,.br q1,.nc,.br q2,.nc,.br q3] (by kernel_rfl)
end
theorem Pl(n:Nat)(body:AG→St→M (Fl×AG))(hb:∀ μ st,body μ st=exs CT (AP CT FT (n+8)) μ st Ad)(R:List C0)(L x0 x2:V)(mc en:Txt)(hmc:mc=BF)(hen:en=Ey)(u8 u9 u10 u11:Option V)(τ:St)(hR:RowsV L R τ):∀(W:List Txt) (a:Nat) (dep:Int) (k:Nat) (u6 u7:Option V),Words (R.drop a) W→G7 W dep=some k →
  ∃ μ,Bn (.loc 6) body (Al (a:Nat) (R.length:Nat)) [some x0,some L,some x2,some (.str mc),some (.str en),some (.int dep),u6,u7,u8,u9,u10,u11] τ=some ((.ret (.int (a+k:Nat)),μ),τ):=by
 intro W
 induction W with
 | nil=>intro _ _ _ _ _ _ h;cases h
 | cons w W ih =>
  intro a dep k u6 u7 hw h;generalize hS:R.drop a=S at hw;cases hw with
  | @cons num text _ R' _ hword hrest =>
   refine BA hword fun d hd hdw=>?_;clear hword;have hlt:=Cu hS;have hs:=A3 hS;have hr:=H2 n hd num τ;rw[hdw] at hr;have hix:=hR.idx (Gf hS);rw[Mg hlt];generalize hv:((a:Nat):Int)=i at hix;have hst:FD [some x0,some L,some x2,some (.str mc),some (.str en),some (.int dep),u6,u7,u8,u9,u10,u11] (.loc 6) (.int i)=some [some x0,some L,some x2,some (.str mc),some (.str en),some (.int dep),some (.int i),u7,u8,u9,u10,u11]:=rfl;have next:∀(dep':Int),(G7 W dep').map (·+1)=some k→∃ μ,Bn (.loc 6) body (Al ((a+1:Nat):Int) (R.length:Nat)) [some x0,some L,some x2,some (.str mc),some (.str en),some (.int dep'),some (.int i),some (.str w),u8,u9,u10,u11] τ=some ((.ret (.int (a+k:Nat)),μ),τ):=by intro dep' hk;refine BA (Option.map_eq_some_iff.mp hk) fun k' hk' z_2=>?_;subst z_2;obtain⟨μ,ih⟩:=ih (a+1) dep' k' (some (.int i)) (some (.str w)) (hs▸hrest) hk';exact⟨μ,by rw[ih,show a+1+k'=a+(k'+1) from by exact o59]⟩
   rw[V4] at h;rw[← hmc,← hen] at h;refine bT h (fun h q1=>?_) (fun h q1=>?_)
   ·have q2:decide (w=en)=false:=by have:=of_decide_eq_true q1;rw[this,hmc,hen];decide
    rfl';obtain⟨μ,ih⟩:=next (dep+1) h;exact⟨μ,DR hst ((hb _ _).trans (Rq x0 x2 u7 u8 u9 u10 u11 hix hr q1 q2)) ih⟩
   ·cases q2:decide (w=en) with
    | true =>
     rw[q2] at h;refine bT h (fun h q3=>?_) (fun h q3=>?_)
     ·cases h;have e:=Kq (r:=Al ((a+1:Nat):Int) (R.length:Nat)) hst ((hb _ _).trans (Rr x0 x2 u7 u8 u9 u10 u11 hix hr q1 q2 q3));rw[show(.int ((a+0:Nat):Int):V)=.int i from by rw[← hv];rfl]
      exact⟨_,e⟩
     ·rfl';refine Pd (next (dep - 1) h) fun μ ih=>?_;exact⟨μ,DR hst ((hb _ _).trans (Rp x0 x2 u7 u8 u9 u10 u11 hix hr q1 q2 q3)) ih⟩
    | false=>rw[q2] at h;obtain⟨μ,ih⟩:=next dep h;exact⟨μ,DR hst ((hb _ _).trans (UE x0 x2 u7 u8 u9 u10 u11 hix hr q1 q2)) ih⟩
theorem Qc(st:St)(k:Nat){a:Int}(h1:0≤a)(h2:a<100000):Bo st .range1 (.loc k) (.int a) .none=some (Al 0 a,.none):=by
 show(match true&&decide (0≤a)&&decide (a<100000) with | true=>some (Al 0 a,V.none) | false=>none)=_
 rw[decide_eq_true h1,decide_eq_true h2];rfl
theorem Qd(st:St)(k:Nat){a b:Int}(h1:0≤a)(h2:a<100000)(h3:0≤b)(h4:b<100000):Bo st .range2 (.loc k) (.int a) (.int b)=some (Al a b,.none):=by
 show(match true&&decide (0≤a)&&decide (a<100000)&&decide (0≤b)&&decide (b<100000) with | true=>some (Al a b,V.none) | false=>none)=_
 rw[decide_eq_true h1,decide_eq_true h2,decide_eq_true h3,decide_eq_true h4];rfl
theorem M7(n:Nat){L:V}{R:List C0}{st:St}(hR:RowsV L R st){W:List Txt}{a k:Nat}(ha:a≤1000)(hw:Words (R.drop a) W)(hk:G7 W 1=some k)(x0:V):AP CT FT (n+9) 518 [x0,L,.int (a:Nat),.str BF,.str Ey] st=some (.int (a+k:Nat),st):=by
 have hR':RowsV L R (AW (inner st) []):=hR.mono fun j _=>by rw[BJ];rfl
 obtain⟨μ,h⟩:=Pl n (fun μ st=>exs CT (AP CT FT (n+8)) μ st Ad) (fun _ _=>rfl) R L x0 (.int (a:Nat)) BF Ey rfl rfl none none none none _ hR' W a 1 k none none hw hk;have hR1:=hR.len;exact AK 5 12 EL [.o hR'.ln,.i (Qd (AW (inner st) []) 6 (a:=(a:Nat)) (b:=(R.length:Nat)) (by exact p9) (by exact p55 ha) (by exact p9) (by exact p55 hR1)),.f h,.gu (Bf (Al (a:Nat) (R.length:Nat)).length (by unfold Al;simp;exact aI hR1))] rfl rfl (by kernel_rfl) rfl
end SL20
section SL21
open PySem
theorem Sx(C:AC)(x:Txt)(μ0 μ2:Option V)(st:St):ev CT C [μ0,some (.lst [(Tk.name x).v]),μ2] st CG=some (.str x,st):=Iz [] (by kernel_rfl)
theorem Qv(C:AC)(t:Tk)(μ0 μ2:Option V)(st:St):evIfs CT C [μ0,some (.lst [t.v]),μ2] st [(.cmp (.bi .len [(.loc 1)]) [.Eq] [(.const (.int 1))])]=some (true,st):=YI [.nv,.nc,.nb] (by kernel_rfl)
theorem ON(test:AG→St→M Bool)(elt:AG→St→M V)(C:AC)(ht:∀ μ st,test μ st=evIfs CT C μ st [(.cmp (.bi .len [(.loc 1)]) [.Eq] [(.const (.int 1))])])(he:∀ μ st,elt μ st=ev CT C μ st CG)(μ0 μ2:Option V)(st:St):∀(nm:List Txt) (u:Option V),Ax test elt (.loc 1) (FQ (nm.map .name)) [μ0,u,μ2] st=some (Ag nm,st):=by
 intro q1_
 induction q1_ with
 | nil=>intro _;exact rfl
 | cons x nm ih_=>intro u;exact HL (μ1:=[μ0,some (.lst [(Tk.name x).v]),μ2]) rfl ((ht _ _).trans (Qv C (.name x) μ0 μ2 st)) rfl ((he _ _).trans (Sx C x μ0 μ2 st)) (ih_ _)
theorem Pr(ts:List Tk):(FQ ts).length=ts.length:=List.length_map _
noncomputable def nmH(C:AC)(st:St){nm:List Txt}(hl:nm.length≤1000)(r:List H):List H:=.l (ON (fun μ st=>evIfs CT C μ st [(.cmp (.bi .len [(.loc 1)]) [.Eq] [(.const (.int 1))])]) (fun μ st=>ev CT C μ st CG) C (fun _ _=>rfl) (fun _ _=>rfl) none none st nm none)::.gu (Bf (FQ (nm.map .name)).length (by rw[Pr,List.length_map];exact o7 hl))::r
structure NamesOf(d:Rd)(nm:List Txt):Prop where
 rest:d.rest=Av (nm.map .name)
 len:1≤nm.length∧nm.length≤4
theorem NamesOf.pieces{d:Rd}{nm:List Txt}(h:NamesOf d nm)(n:Nat)(st:St):AP CT FT (n+2) 351 [.lst (EU d.rest)] st=some (.lst (FQ (nm.map .name)),st):=by rw[h.rest];have:=h.len;exact Mc n _ (fun t ht c=>by obtain⟨x,_,rfl⟩:=List.mem_map.mp ht;rfl) (by rw[List.length_map];exact bH this) (by rw[List.length_map];exact bQ this) st
theorem Jo(n:Nat){text:Txt}{d:Rd}(hd:By text d){nm:List Txt}(hn:NamesOf d nm)(num:Int)(st:St):AP CT FT (n+8) 619 [Cf num text] st=some (.lst (Ag nm),st):=by
 have a7:=fun st=>(De (num:=num) (text:=text) st).1;have a8:=fun st=>(De (num:=num) (text:=text) st).2;have hnew:=OO (n+6) (inner st) [] (.int num) (.str text) (C9 st) (Bc st);have hr:=GX n hd (A0 (inner st) [CW (.int num) (.str text) .none .none (.ref ((inner st).next+1)),.list []]) (by rw[GY];exact Bc st)
 rw[EQ] at hr;have ha:=(BC (A0 (inner st) [CW (.int num) (.str text) (JI d.lab) (.str d.word) (.lst (EU d.rest)),.list []])).2.2.2.2;exact AK 1 5 GC (List.append [.v a7,.v a8,.m hnew,.m hr,.o ha,.p fun st=>hn.pieces (n+5) st] <| nmH (AP CT FT (n+7)) (AW (inner st) [CW (.int num) (.str text) (JI d.lab) (.str d.word) (.lst (EU d.rest)),.list []]) (nm:=nm) (by have:=hn.len;exact o93 this) []) rfl rfl (by kernel_rfl) (Ff nm)
end SL21
section SL22
open PySem
noncomputable def EN(nm:List Txt)(R:List C0):V:=.obj 432 [12,13] [.lst (Ag nm),.lst (BL R)]
theorem Qm(nm:List Txt)(R:List C0):AN (EN nm R)=true:=by show(refFrees (Ag nm)&&(refFrees (BL R)&&true))=true;rw[Ff,GZ];rfl
theorem WJ(n:Nat)(st:St)(nm:List Txt)(R:List C0)(h2:st.ro≤st.next):Fw CT (AP CT FT (n+1)) false 432 [.lst (Ag nm),.lst (BL R)] st=some (EN nm R,st):=by
 have hs (ks:List Nat) (vs:List V) (f:Nat) (v:V) (hf:Am f=true) (hk:Nat.ble ks.length 60=true):=I9 (ok:=A5 CT) (σ:=⟨st.objs,st.next,st.ro⟩) (l:=[]) (m:=[]) (c:=432) (ks:=ks) (vs:=vs) (f:=f) (v:=v) rfl hf hk (Nat.le_refl _) h2;exact PU (l:=[.inst 432 [12,13] [.lst (Ag nm),.lst (BL R)]]) rfl (KU 3 3 G8 [.u (hs [] [] 12 (.lst (Ag nm)) rfl rfl),.u (hs [12] [.lst (Ag nm)] 13 (.lst (BL R)) rfl rfl)] rfl rfl (by kernel_rfl))
  (MC (A0 ⟨st.objs,st.next,st.ro⟩ _) (Nat.le_refl _) (Bd (FX (Ff nm)) (Bd (FX (GZ R)) Gm)))
theorem JA{C:AC}:∀(a b:List S) (μ:AG) (st:St) (μ':AG) (st':St),exs CT C μ st a=some ((.next,μ'),st')→exs CT C μ st (a++b)=exs CT C μ' st' b
 | [],_,_,_,_,_,rfl=>rfl
 | s::a,b,μ,st,μ',st',h=>by
  have h:Aj (ex CT C μ st s) (fun p st=>match p.1 with | .next=>exs CT C p.2 st a | _=>some (p,st))=_:=h
  show Aj (ex CT C μ st s) (fun p st=>match p.1 with | .next=>exs CT C p.2 st (a++b) | _=>some (p,st))=_
  cases hs:ex CT C μ st s with
  | none=>rw[hs] at h;cases h
  | some p =>
   rfl';obtain⟨⟨f,μ1⟩,st1⟩:=p;rw[hs] at h;cases f with
   | next=>exact JA a b μ1 st1 μ' st' h
   | _=>cases h
theorem HQ{C:AC}{l:List S}{μ:AG}{st:St}{μ':AG}{st':St}(k:Nat)(h:exs CT C μ st (l.take k)=some ((.next,μ'),st')):exs CT C μ st l=exs CT C μ' st' (l.drop k):=by
 conv=>lhs;rw[← List.take_append_drop k l]
 exact JA _ _ _ _ _ _ h
noncomputable def PS.tick(σ:PS):PS:={ σ with rl:=σ.rl - 1 }
section
variable {I:Ids}{σ:PS}{num:Int}{text:Txt}{d:Rd}{L:V}
theorem T8(n:Nat){τ:St}(h:Holds I σ τ)(hlo:τ.lo=τ.next)(hrl:1≤σ.rl)(hd:By text d)(x3 x4:V):∃ τ2,exs CT (AP CT FT (n+7)) [some (.ref I.ps),some (Cf num text),some L,some x3,some x4,none,none,none,none,none,none,none,none] τ DD=exs CT (AP CT FT (n+7)) [some (.ref I.ps),some (Cf num text),some L,some x3,some x4,some (.ref τ.next),none,none,none,none,none,none,none] τ2 (DD.drop 4)
  ∧ Holds I σ.tick τ2∧RowAt I τ.next num text d τ2∧τ2.lo=τ.next∧τ.next+2=τ2.next∧(∀ j,j<τ.next→j∉I.l→τ2.get j=τ.get j):=by
 have hp:=h.putPs 0 σ.at_ σ.ser (σ.rl - 1) σ.rp;have s28:=h.set28 (σ.rl - 1);have a28:=h.at28;have a28':=hp.at28;have fr:=Fr.put (I:=I) (st:=τ) (i:=I.ps) (by unfold Ids.l;simp) (F9 I σ.last σ.rp σ.at_ σ.ser (σ.rl - 1))
 generalize τ.put I.ps (F9 I σ.last σ.rp σ.at_ σ.ser (σ.rl - 1))=τ1 at hp s28 a28' fr;have hnx:=fr.next;have hnew:=OO (n+6) τ1 [] (.int num) (.str text) (by rw[fr.lo,hlo,hnx];exact Nat.le_refl _) (by rw[hp.ro];exact Nat.zero_le _)
 have hg:(AW τ1 [CW (.int num) (.str text) .none .none (.ref (τ1.next+1)),.list []]).get τ1.next=some (CW (.int num) (.str text) .none .none (.ref (τ1.next+1))):=A0 _ _;have hr:=GX n hd hg (by rw[GY,hp.ro];exact Nat.zero_le _)
 rw[EQ] at hr;have hg2:(AW τ1 [CW (.int num) (.str text) (JI d.lab) (.str d.word) (.lst (EU d.rest)),.list []]).get τ1.next=some (CW (.int num) (.str text) (JI d.lab) (.str d.word) (.lst (EU d.rest))):=A0 _ _;have a7:=fun st=>(De (num:=num) (text:=text) st).1;have a8:=fun st=>(De (num:=num) (text:=text) st).2;have d0:decide (σ.rl - 1<0)=false:=decide_eq_false (by omega)
 have old:∀ j,j<τ1.next→(AW τ1 [CW (.int num) (.str text) (JI d.lab) (.str d.word) (.lst (EU d.rest)),.list []]).get j=τ1.get j:=fun j hj=>Ak _ _ hj;refine y16 (AW τ1 [CW (.int num) (.str text) (JI d.lab) (.str d.word) (.lst (EU d.rest)),.list []]) ?_ ?_ ?_ ?_ ?_ ?_
 ·refine HQ 4 ?_;rw[← hnx];rw[BJ] at hnew;exact BN [.o a28,.u s28,.o a28',.nc,.br d0,.v a7,.v a8,.m hnew,.m hr] (by kernel_rfl)
 ·exact hp.same (by rw[GY];exact hp.ro) (by rw[A7];exact Nat.le_add_right _ _) old
 ·rw[← hnx];exact⟨hg2,fun z=>Nat.lt_irrefl _ (Nat.lt_of_lt_of_eq (h.lt _ z) hnx.symm)⟩
 ·rw[OF,fr.lo,hlo]
 ·rw[A7,hnx];rfl
 ·intro j hj hI;rw[old j (by rw[hnx];exact hj)]
  exact fr.get j hI
end
end SL22
section SL23
open PySem
set_option tactic.hygienic true in
theorem RowsV.fr{L:V}{R:List C0}{st st':St}{I:Ids}(h:RowsV L R st)(hL:∀ j,L=.ref j→j∉I.l)(hf:∀ j,j<st.next→j∉I.l→st'.get j=st.get j):RowsV L R st' :=
 h.mono fun j hj=>hf j (by
  have:=h.it;rfl';subst hj;unfold items at this;dsimp only at this;split at this
  ·rename_i xs hg;exact get_lt hg
  ·cases this) (hL j hj)
noncomputable def PS.mset(σ:PS)(x:Txt)(v:V):PS:={ σ with mq:=(AV σ.mq σ.mw x v).1,mw:=(AV σ.mq σ.mw x v).2 }
section
variable {I:Ids}{σ:PS}{st:St}{num:Int}{text:Txt}{d:Rd}{L:V}
theorem OV(n:Nat)(h:Holds I σ st)(hrl:1≤σ.rl)(hd:By text d)(x3 x4 v:V)(hv:AN v=true){σ':PS}
  (H:∀ τ2,Holds I σ.tick τ2→RowAt I st.next num text d τ2→τ2.lo=st.next→st.next+2=τ2.next→(∀ j,j<st.next→j∉I.l→τ2.get j=st.get j)→∃ τ',(∃ μ,exs CT (AP CT FT (n+15)) [some (.ref I.ps),some (Cf num text),some L,some x3,some x4,some (.ref st.next),none,none,none,none,none,none,none] τ2 (DD.drop 4)=some ((.ret v,μ),τ'))∧Holds I σ' τ'∧Fr I τ2 τ') :
  ∃ st',AP CT FT (n+16) 504 [.ref I.ps,Cf num text,L,x3,x4] st=some (v,st')∧Holds I σ' st'∧Fr I st st':=by
 rfl';refine x16 (T8 (num:=num) (L:=L) (n+8) h.inner rfl hrl hd x3 x4) fun τ2 e h2 r2 e1 e2 e3=>?_;obtain⟨τ',⟨μ,g1⟩,g2,g3⟩:=H τ2 h2 r2 e1 e2 e3;exact EG 5 13 DD rfl rfl h (e.trans g1) (by rw[g3.next];exact o21 rfl e2) (fun j hj hI=>(g3.get j hI).trans (e3 j hj hI)) g2 rfl hv
theorem LF(n:Nat)(h:Holds I σ st)(hrl:1≤σ.rl)(hd:By text d){l:List Op}{os:List Int}(t:TellOk σ.tick d l os)(hm:σ.mq.contains Af=false)(a:Int)(x4:V):∃ st',AP CT FT (n+16) 504 [.ref I.ps,Cf num text,L,.int a,x4] st=some (.int a,st')∧Holds I ((σ.tick.labelled d.lab).putted num text os) st'∧Fr I st st' :=
 OV n h hrl hd _ _ _ rfl fun τ2 h2 r2 _ _ _=>by
  rfl';refine FE (Uo n h2 r2 t) fun τ' k1 k2 k3=>?_;have a10:=(BC r2.get).2.2.2.1;rw[t.ord.word] at a10;have i1:∀ st,EB .In (.str Af) (.tup [.str [69,76,83,69],.str [69,78,68,73,70],.str [69,78,68,77]]) st=some false:=fun st=>(PJ Af [[69,76,83,69],[69,78,68,73,70],[69,78,68,77]] st).trans (by decide)
  have i2:EB .In (.str Af) (.ref I.mc) τ2=some false:=(Gn h2.mc).trans (congrArg some hm);exact Pf τ' (FW [.o a10,.nc,.br (show decide (Af=[73,70])=false by decide),.o a10,.nc,.br (show decide (Af=[77,65,67,82,79])=false by decide),.o a10,.c i1,.o a10,.o h2.at25,.o1 i2,.mo (h2.meth 44 546 rfl rfl),.m k1] (by kernel_rfl)) k2 k3
theorem Me(n:Nat){w:Txt}(h:Holds I σ st)(hrl:1≤σ.rl)(hd:By text d)(hw:d.word=w)(hl:L4 σ.tick d.lab)(hat:σ.at_<65536)(hm:σ.mq.contains w=true)(q1:decide (w=[73,70])=false)(q2:decide (w=[77,65,67,82,79])=false)(q3:FF w [[69,76,83,69],[69,78,68,73,70],[69,78,68,77]]=false)(a:Int)(x4:V){σ':PS}
  (hcall:∀(ri:Nat) (τ':St),Holds I (σ.tick.labelled d.lab) τ'→RowAt I ri num text d τ'→∃ τ'',AP CT FT (n+15) 532 [.ref I.ps,.ref ri,x4] τ'=some (.none,τ'')∧Holds I σ' τ''∧Fr I τ' τ'') :
  ∃ st',AP CT FT (n+16) 504 [.ref I.ps,Cf num text,L,.int a,x4] st=some (.int a,st')∧Holds I σ' st'∧Fr I st st' :=
 OV n h hrl hd _ _ _ rfl fun τ2 h2 r2 _ _ _=>by rfl';refine FE (Ho (n+13) h2 r2 hl hat) fun τ3 k1 k2 k3=>?_;refine FE (hcall _ _ k2 (r2.fr k3)) fun τ4 c1 c2 c3=>?_;have a10:=(BC r2.get).2.2.2.1;rw[hw] at a10;have i1:∀ st,EB .In (.str w) (.tup [.str [69,76,83,69],.str [69,78,68,73,70],.str [69,78,68,77]]) st=some false:=fun st=>(PJ w [[69,76,83,69],[69,78,68,73,70],[69,78,68,77]] st).trans (congrArg some q3);have i2:EB .In (.str w) (.ref I.mc) τ2=some true:=(Gn h2.mc).trans (congrArg some hm);exact Pf τ4 (FW [.o a10,.nc,.br q1,.o a10,.nc,.br q2,.o a10,.c i1,.o a10,.o h2.at25,.o1 i2,.mo (h2.meth 43 539 rfl rfl),.m k1,.mo (k2.meth 42 532 rfl rfl),.m c1] (by kernel_rfl)) c2 (k3.trans c3)
theorem LD(n:Nat){R:List C0}(h:Holds I σ st)(hrl:1≤σ.rl)(hd:By text d)(hw:d.word=BF){x:Txt}(hx:d.lab=some x){nm:List Txt}(hn:NamesOf d nm)(hR:RowsV L R st)(hL:∀ j,L=.ref j→j∉I.l){W:List Txt}{a k:Nat}(hW:Words (R.drop a) W)(hk:G7 W 1=some k)(hak:a+k≤R.length)(hq:σ.mq.length<1000)(x4:V) :
  ∃ st',AP CT FT (n+16) 504 [.ref I.ps,Cf num text,L,.int (a:Nat),x4] st=some (.int (a+k+1:Nat),st')∧Holds I (σ.tick.mset x (EN nm ((R.take (a+k)).drop a))) st'∧Fr I st st' :=
 OV n h hrl hd _ _ _ rfl fun τ2 h2 r2 e1 e2 e3=>by
  have hR2:RowsV L R τ2:=hR.fr hL e3;have a10:=(BC r2.get).2.2.2.1;have a9:=(BC r2.get).2.2.1;rw[hw] at a10;rw[hx] at a9;have hlen:=hR.len;have hl:nm.length≤1000:=by have:=hn.len;exact o93 this
  have be:AP CT FT (n+15) 518 [.ref I.ps,L,.int (a:Nat),.str [77,65,67,82,79],.str [69,78,68,77]] τ2=some (.int (a+k:Nat),τ2):=M7 (n+6) hR2 (by exact Z2 hak hlen) hW hk (.ref I.ps)
  have hsl:=hR2.slice (a:=a) (b:=a+k) (by exact o73 hak) hak
  have hmv:=Qm nm ((R.take (a+k)).drop a);have hnm:=WJ (n+14) τ2 nm ((R.take (a+k)).drop a) (by rw[h2.ro];exact Nat.zero_le _)
  generalize EN nm ((R.take (a+k)).drop a)=mv at hnm hmv ⊢;have sd:=Cd (k:=x) h2.mc (h2.wr hmv) h2.b3;have hp3:=h2.putMc (AV σ.mq σ.mw x mv).1 (AV σ.mq σ.mw x mv).2 (by have:=D8 (ks:=σ.mq) (vs:=σ.mw) (k:=x) (v:=mv);exact Yz hq this)
  exact Pf (τ2.put I.mc (.dict (AV σ.mq σ.mw x mv).1 (AV σ.mq σ.mw x mv).2)) (FW (List.append [.o a10,.nc,.br (show decide (BF=[73,70])=false by decide),.o a10,.nc,.br (show decide (BF=[77,65,67,82,79])=true by decide),.mo (h2.meth 40 518 rfl rfl),.m be,.o (BC r2.get).2.2.2.2,.p fun st=>hn.pieces (n+13) st] (nmH (AP CT FT (n+15)) τ2 (nm:=nm) hl [.o a9,.nc,.o hsl,.m hnm,.o h2.at25,.o a9,.u sd])) (by kernel_rfl)) hp3 (Fr.put (I:=I) (st:=τ2) (i:=I.mc) (by unfold Ids.l;simp) _)
end
end SL23
section SL24
open PySem
theorem Ku{nm:List Txt}{B:List C0}(st:St):AU (A5 CT) (EN nm B) 12 st=some (.lst (Ag nm))∧AU (A5 CT) (EN nm B) 13 st=some (.lst (BL B)):=by
 have h7:Am 12=true:=by decide
 have h8:Am 13=true:=by decide
 constructor
 ·unfold EN AU;rfl
 ·unfold EN AU;rfl
theorem Holds.putOut{I:Ids}{σ:PS}{st:St}(h:Holds I σ st){i:Nat}(hi:i∉I.l)(o:O):Holds I σ (st.put i o):=by
 have n:∀ j,j∈I.l→(st.put i o).get j=st.get j:=fun j hj=>AA fun(z:i=j)=>hi (by rw[z];exact hj)
 have e:∀{k a:Nat},I.l[k]?=some a→a∈I.l:=fun h=>List.mem_of_getElem? h;exact⟨(n _ (e (k:=2) rfl)).trans h.ps,(n _ (e (k:=0) rfl)).trans h.sy,(n _ (e (k:=1) rfl)).trans h.sz,(n _ (e (k:=3) rfl)).trans h.fx,(n _ (e (k:=4) rfl)).trans h.ch,(n _ (e (k:=5) rfl)).trans h.mc,(n _ (e (k:=6) rfl)).trans h.md,(n _ (e (k:=7) rfl)).trans h.oc,(n _ (e (k:=9) rfl)).trans h.ls,(n _ (e (k:=10) rfl)).trans h.er,h.nd,(fun j hj=>by rw[A8];exact h.lt j hj),h.ro,h.b1,h.b2,h.b3,h.b4,h.b5,h.b6⟩
noncomputable def EV:List Txt→List Txt→List Txt→List V→List Txt×List V
 | n::ns,g::gs,ks,vs=>EV ns gs (AV ks vs n (.str g)).1 (AV ks vs n (.str g)).2
 | _,_,ks,vs=>(ks,vs)
theorem R7:∀(ns gs ks:List Txt) (vs:List V),(EV ns gs ks vs).1.length≤ks.length+ns.length:=by
 intro q1_
 induction q1_ with
 | nil=>intro _ ks vs;exact Nat.le_refl _
 | cons n ns ih_ =>
  intro q2_;cases q2_ with
  | nil=>intro ks vs;exact Nat.le_add_right _ _
  | cons g gs=>intro ks vs;show(EV ns gs (AV ks vs n (.str g)).1 (AV ks vs n (.str g)).2).1.length≤_;have:=ih_ gs (AV ks vs n (.str g)).1 (AV ks vs n (.str g)).2;have:=D8 (ks:=ks) (vs:=vs) (k:=n) (v:=.str g);rw[List.length_cons];omega
noncomputable def AL(k:Nat):Txt:=[63,63]++(Bb (10000+(k:Int))).drop 1
noncomputable def Hg(w:Txt):Int:=Xg (decide (w=BF)) - Xg (decide (w=Ey))
noncomputable def Cv(w:Txt)(dep:Int):Bool:=decide (w=CZ)&&decide (dep=0)
structure CallSt(I:Ids)(σ:PS)(t l base ri:Nat)(num:Int)(ks:List Txt)(vs:List V)(rows:Option (List C0))(τ0 τ:St):Prop where
 h:Holds I σ τ
 told:τ.get t=some (.dict ks vs)
 out:∀ R,rows=some R→τ.get l=some (.list (BL R))
 a7:AU (A5 CT) (.ref ri) 7 τ=some (.int num)
 lo:τ.lo=base
 lt:base≤t
 ll:base≤l
 nt:t∉I.l
 nl:l∉I.l
 ne:t≠l
 rt:ri<base
 nx:base≤τ.next
 get:∀ j,j<base→j∉I.l→τ.get j=τ0.get j
section
variable {I:Ids}{σ:PS}{t l base ri:Nat}{num:Int}{ks:List Txt}{vs:List V}{rows:Option (List C0)}{τ0 τ:St}
theorem BE{i f:Nat}{v:V}{st st':St}(h:AU (A5 CT) (.ref i) f st=some v)(hg:st'.get i=st.get i):AU (A5 CT) (.ref i) f st'=some v:=by rw[← h];unfold AU;dsimp only;rw[hg]
theorem CallSt.wrt(c:CallSt I σ t l base ri num ks vs rows τ0 τ)(v:V):τ.wr t v=true:=by unfold St.wr;rw[C5,C5,c.h.ro,c.lo,decide_eq_true (Nat.zero_le _),decide_eq_true c.lt];rfl
theorem CallSt.wrl(c:CallSt I σ t l base ri num ks vs rows τ0 τ)(v:V):τ.wr l v=true:=by unfold St.wr;rw[C5,C5,c.h.ro,c.lo,decide_eq_true (Nat.zero_le _),decide_eq_true c.ll];rfl
theorem CallSt.putT(c:CallSt I σ t l base ri num ks vs rows τ0 τ)(ks':List Txt)(vs':List V):CallSt I σ t l base ri num ks' vs' rows τ0 (τ.put t (.dict ks' vs')) :=
 ⟨c.h.putOut c.nt _,AJ (get_lt c.told),(fun R hR=>(AA c.ne).trans (c.out R hR)),BE c.a7 (AA (by have:=c.lt;have:=c.rt;omega)),c.lo,c.lt,c.ll,c.nt,c.nl,c.ne,c.rt,(by rw[A8];exact c.nx),fun j hj hI=>(AA (by have:=c.lt;exact XK hj this)).trans (c.get j hj hI)⟩
theorem CallSt.putL{rows:List C0}(c:CallSt I σ t l base ri num ks vs (some rows) τ0 τ)(rows':List C0):CallSt I σ t l base ri num ks vs (some rows') τ0 (τ.put l (.list (BL rows'))) :=
 ⟨c.h.putOut c.nl _,(AA c.ne.symm).trans c.told,(fun R hR=>by cases hR;exact AJ (get_lt (c.out rows rfl))),BE c.a7 (AA (by have:=c.ll;have:=c.rt;omega)),c.lo,c.lt,c.ll,c.nt,c.nl,c.ne,c.rt,(by rw[A8];exact c.nx),fun j hj hI=>(AA (by have:=c.ll;exact XK hj this)).trans (c.get j hj hI)⟩
theorem IY(I:Ids):I.ps∈I.l:=by unfold Ids.l;simp
theorem CallSt.putSer(c:CallSt I σ t l base ri num ks vs rows τ0 τ)(hri:ri∉I.l)(x:Nat):CallSt I { σ with ser:=x } t l base ri num ks vs rows τ0 (τ.put I.ps (F9 I σ.last σ.rp σ.at_ x σ.rl)) :=
 have n1:I.ps≠t:=fun z=>c.nt (z▸IY I);have n2:I.ps≠l:=fun z=>c.nl (z▸IY I);have n3:I.ps≠ri:=fun z=>hri (z▸IY I)
 ⟨c.h.putPs 0 σ.at_ x σ.rl σ.rp,(AA n1).trans c.told,(fun R hR=>(AA n2).trans (c.out R hR)),BE c.a7 (AA n3),c.lo,c.lt,c.ll,c.nt,c.nl,c.ne,c.rt,(by rw[A8];exact c.nx),fun j hj hI=>(AA fun(z:I.ps=j)=>hI (by rw[← z];exact IY I)).trans (c.get j hj hI)⟩
theorem N1{C:AC}(c:CallSt I σ t l base ri num ks vs rows τ0 τ)(x2 x3 x5:V)(u8 u9 u10 u11:Option V){i m:Int}{y g:Txt}(h1:BR x5 (.int i) τ=some (.str g))(h2:FO .len [x5] τ=some (.int m))(h3:decide (i<m)=true)(hk:ks.length≤900) :
  exs CT C [some (.ref I.ps),some (.ref ri),some x2,some (x3),some (.ref t),some (x5),some (.int i),some (.str y),u8,u9,u10,u11,none,none,none,none,none,none,none,none,none,none,none] τ Cz=some ((.next,[some (.ref I.ps),some (.ref ri),some x2,some (x3),some (.ref t),some (x5),some (.int i),some (.str y),u8,u9,u10,u11,none,none,none,none,none,none,none,none,none,none,none]),τ.put t (.dict (AV ks vs y (.str g)).1 (AV ks vs y (.str g)).2)):=by
 exact BN [.o h2,.nc,.br h3,.o h1,.u (Cd (k:=y) c.told (c.wrt (.str g)) (by exact o8 hk))] (by kernel_rfl)
theorem N0{C:AC}(body:AG→St→M (Fl×AG))(hb:∀ μ st,body μ st=exs CT C μ st Cz)(x2 x3:V)(G:List Txt)(hG:G.length≤100)(u8 u9 u10 u11:Option V):∀(nm gs:List Txt) (k:Nat) (ks:List Txt) (vs:List V) (τ:St) (u6 u7:Option V),gs.length=nm.length→G.drop k=gs→ks.length+nm.length≤100→CallSt I σ t l base ri num ks vs rows τ0 τ →
  ∃ u6' u7' τ',Bn (.tup [6,7]) body (BQ k (Ag nm)) [some (.ref I.ps),some (.ref ri),some x2,some (x3),some (.ref t),some (.lst (Ag G)),u6,u7,u8,u9,u10,u11,none,none,none,none,none,none,none,none,none,none,none] τ=some ((.next,[some (.ref I.ps),some (.ref ri),some x2,some (x3),some (.ref t),some (.lst (Ag G)),u6',u7',u8,u9,u10,u11,none,none,none,none,none,none,none,none,none,none,none]),τ')∧CallSt I σ t l base ri num (EV nm gs ks vs).1 (EV nm gs ks vs).2 rows τ0 τ':=by
 intro q1_
 induction q1_ with
 | nil=>intro gs k ks vs τ u6 u7 _ _ _ c;exact cq u6 u7 τ rfl c
 | cons y nm ih_ =>
  intro q2_;cases q2_ with
  | nil=>intro k ks vs τ u6 u7 h _ _ c;rfl';cases (h)
  | cons g gs =>
   intro k ks vs τ u6 u7 h hd hk c;have hlt:=Cu hd;have hgk:(Ag G)[k]?=some (.str g):=by unfold Ag;rw[List.getElem?_map,Gf hd];rfl
   have h1:=PI (st:=τ) hgk (by exact Zo hG hlt)
   have h2:=DY (st:=τ) (xs:=Ag G) (by unfold Ag;rw[List.length_map];exact XQ hG)
   have h3:decide (((k:Nat):Int)<((Ag G).length:Nat))=true:=decide_eq_true (by unfold Ag;rw[List.length_map];exact p8 hlt)
   have e:=N1 (C:=C) c x2 x3 (.lst (Ag G)) u8 u9 u10 u11 (y:=y) h1 h2 h3 (by exact Zr hk)
   have hl:=D8 (ks:=ks) (vs:=vs) (k:=y) (v:=.str g);refine Wf (ih_ gs (k+1) _ _ _ (some (.int (k:Nat))) (some (.str y)) (by simpa using h) (A3 hd) (by exact Yx hk hl) (c.putT (AV ks vs y (.str g)).1 (AV ks vs y (.str g)).2)) fun v6 v7 τ' f1 f2=>?_
   exact cq v6 v7 τ' (DR (μ1:=[some (.ref I.ps),some (.ref ri),some x2,some (x3),some (.ref t),some (.lst (Ag G)),some (.int (k:Nat)),some (.str y),u8,u9,u10,u11,none,none,none,none,none,none,none,none,none,none,none]) rfl ((hb _ _).trans e) f1) f2
theorem SF{C:AC}{rows:List C0}(c:CallSt I σ t l base ri num ks vs (some rows) τ0 τ)(x2 x3 x5:V)(u6 u7 u11:Option V){dep:Int}{ro:V}{text w x:Txt}(h1:C 614 [ro] τ=some (.str w,τ))(h2:AU (A5 CT) ro 8 τ=some (.str text))(h3:C 317 [.str text,.ref t] τ=some (.str x,τ))(h4:Fw CT C false 266 [.int num,.str x] τ=some (Cf num x,τ))(h5:Cv w (dep+Hg w)=false)(hl:rows.length≤900) :
  exs CT C [some (.ref I.ps),some (.ref ri),some x2,some (x3),some (.ref t),some (x5),u6,u7,some (.ref l),some (.int dep),some (ro),u11,none,none,none,none,none,none,none,none,none,none,none] τ CD=some ((.next,[some (.ref I.ps),some (.ref ri),some x2,some (x3),some (.ref t),some (x5),u6,u7,some (.ref l),some (.int (dep+Hg w)),some (ro),some (.str w),none,none,none,none,none,none,none,none,none,none,none]),τ.put l (.list (BL (rows++[(num,x)])))):=by
 have m1:=A4 (c.out rows rfl) 0;have m2:=Ay (c.out rows rfl);have a7:=c.a7;have ap:=D3 (c.out rows rfl) (c.wrl (Cf num x)) (by rw[ER];exact o8 hl)
 have er:BL rows++[Cf num x]=BL (rows++[(num,x)]):=by unfold BL;rw[List.map_append];rfl
 rw[er] at ap;unfold Cv at h5;cases q:decide (w=CZ) with
 | false=>exact BN [.m h1,.nc,.nc,.nv,.nc,.br q,.nb,.mo m1,.gu m2,.o a7,.o h2,.m h3,.m h4,.m ap] (by kernel_rfl)
 | true=>rw[q,Bool.true_and] at h5;exact BN [.m h1,.nc,.nc,.nv,.nc,.br q,.nc,.br h5,.mo m1,.gu m2,.o a7,.o h2,.m h3,.m h4,.m ap] (by kernel_rfl)
theorem N2{C:AC}(c:CallSt I σ t l base ri num ks vs rows τ0 τ)(hri:ri∉I.l)(x2 x3 x5:V)(u6 u9 u10 u11:Option V){y:Txt}(hs:σ.ser≤10000)(hk:ks.length≤900)(hdg:(Bb (10000+((σ.ser+1:Nat):Int))).length≤1000):∃ τ',exs CT C [some (.ref I.ps),some (.ref ri),some x2,some (x3),some (.ref t),some (x5),u6,some (.str y),some (.ref l),u9,u10,u11,none,none,none,none,none,none,none,none,none,none,none] τ EJ=some ((.next,[some (.ref I.ps),some (.ref ri),some x2,some (x3),some (.ref t),some (x5),u6,some (.str y),some (.ref l),u9,u10,u11,none,none,none,none,none,none,none,none,none,none,none]),τ')∧CallSt I { σ with ser:=σ.ser+1 } t l base ri num (AV ks vs y (.str (AL (σ.ser+1)))).1 (AV ks vs y (.str (AL (σ.ser+1)))).2 rows τ0 τ':=by
 have c1:=c.putSer hri (σ.ser+1);have a27:=c.h.at27;have a27':=c1.h.at27;have s27:=c.h.set27 (σ.ser+1);have hc:((σ.ser:Nat):Int)+1=((σ.ser+1:Nat):Int):=rfl;have ht:({ σ with ser:=σ.ser+1 }:PS).ser=σ.ser+1:=rfl
 generalize τ.put I.ps (F9 I σ.last σ.rp σ.at_ ((σ.ser+1:Nat):Int) σ.rl)=τ1 at c1 a27' s27;have sd:=Cd (k:=y) c1.told (c1.wrt (.str (AL (σ.ser+1)))) (by exact o8 hk)
 have c2:=c1.putT (AV ks vs y (.str (AL (σ.ser+1)))).1 (AV ks vs y (.str (AL (σ.ser+1)))).2;generalize hw:AL (σ.ser+1)=nmx at sd c2;have hst:FO .str [.int (10000+((σ.ser+1:Nat):Int))] τ1=some (.str (Bb (10000+((σ.ser+1:Nat):Int)))):=by unfold FO;dsimp only;rw[decide_eq_true (show(0:Int)≤10000+((σ.ser+1:Nat):Int) by exact p51),decide_eq_true (show(10000+((σ.ser+1:Nat):Int))<100000 by omega)];rfl
 have hdl:(Bb (10000+((σ.ser+1:Nat):Int))).length≤100000:=Nat.le_trans hdg (by exact bo)
 have hsl:=K2 (s:=Bb (10000+((σ.ser+1:Nat):Int))) (k:=1) (st:=τ1) (by decide) hdl
 have hadd:B7 .Add (.str [63,63]) (.str ((Bb (10000+((σ.ser+1:Nat):Int))).drop (1:Int).toNat)) τ1=some (.str nmx):=by rw[← hw];exact GN (by rw[List.length_drop,List.length_cons,List.length_cons,List.length_nil];exact p27 hdg)
 refine Ft _ ?_ c2;generalize Bb (10000+((σ.ser+1:Nat):Int))=dg at hst hsl hadd;rw[← hc] at s27 a27' hst;generalize ((σ.ser:Nat):Int)=sr at a27 s27 a27' hst;exact BN [.o a27,.u s27,.o a27',.o hst,.o hsl,.o hadd,.u sd] (by kernel_rfl)
end
end SL24
section SL25
open PySem
section
variable {I:Ids}{σ:PS}{t l base ri:Nat}{num:Int}{ks:List Txt}{vs:List V}{τ0 τ:St}
theorem N3{C:AC}{rows:Option (List C0)}(c:CallSt I σ t l base ri num ks vs rows τ0 τ)(hri:ri∉I.l)(x2 x3 x5:V)(u6 u7 u11:Option V){ro:V}{y:Txt}(h1:C 614 [ro] τ=some (.str CZ,τ))(h3:C 619 [ro] τ=some (.lst [.str y],τ))(hs:σ.ser≤10000)(hk:ks.length≤900)(hdg:(Bb (10000+((σ.ser+1:Nat):Int))).length≤1000) :
  ∃ τ',exs CT C [some (.ref I.ps),some (.ref ri),some x2,some (x3),some (.ref t),some (x5),u6,u7,some (.ref l),some (.int 0),some (ro),u11,none,none,none,none,none,none,none,none,none,none,none] τ CD=some ((.next,[some (.ref I.ps),some (.ref ri),some x2,some (x3),some (.ref t),some (x5),u6,some (.str y),some (.ref l),some (.int 0),some (ro),some (.str CZ),none,none,none,none,none,none,none,none,none,none,none]),τ')∧CallSt I { σ with ser:=σ.ser+1 } t l base ri num (AV ks vs y (.str (AL (σ.ser+1)))).1 (AV ks vs y (.str (AL (σ.ser+1)))).2 rows τ0 τ':=by
 rfl';refine BA (N2 (C:=C) c hri x2 x3 x5 u6 (some (.int 0)) (some ro) (some (.str CZ)) (y:=y) hs hk hdg) fun τ' e c'=>?_;have hul:Aa τ.ro τ'=τ':=by unfold Aa;rw[c.h.ro,← c'.h.ro]
 exact Ft τ' (BN [.m h1,.nc,.nc,.nv,.nc,.nb,.nc,.nb,.m h3,.f (DR (r:=[]) (t:=.loc 7) (body:=fun μ st=>exs CT C μ st EJ) (μ:=[some (.ref I.ps),some (.ref ri),some x2,some (x3),some (.ref t),some (x5),u6,u7,some (.ref l),some (.int 0),some (ro),some (.str CZ),none,none,none,none,none,none,none,none,none,none,none]) rfl e rfl),.gu (b:=Nat.ble [V.str y].length Cs) rfl,.st hul] (by kernel_rfl)) c'
noncomputable def DH(num:Int)(B:List C0)(dep:Int)(ks:List Txt)(vs:List V)(ser:Nat)(R:List C0)(ser':Nat):Prop:=∀(I:Ids) (t l base ri:Nat) (τ0:St) (n:Nat) (body:AG→St→M (Fl×AG)),(∀ μ st,body μ st=exs CT (AP CT FT (n+8)) μ st CD)→ri∉I.l→∀(x2 x3 x5:V) (u6:Option V),∀(σ:PS) (rows:List C0) (τ:St) (u7 u10 u11:Option V),σ.ser=ser→rows.length+B.length≤900→CallSt I σ t l base ri num ks vs (some rows) τ0 τ →
  ∃ u7' dep' u10' u11' ks' vs' τ',Bn (.loc 10) body (BL B) [some (.ref I.ps),some (.ref ri),some x2,some (x3),some (.ref t),some (x5),u6,u7,some (.ref l),some (.int dep),u10,u11,none,none,none,none,none,none,none,none,none,none,none] τ=some ((.next,[some (.ref I.ps),some (.ref ri),some x2,some (x3),some (.ref t),some (x5),u6,u7',some (.ref l),some (.int dep'),u10',u11',none,none,none,none,none,none,none,none,none,none,none]),τ')∧CallSt I { σ with ser:=ser' } t l base ri num ks' vs' (some (rows++R)) τ0 τ'
theorem DH.nil{num:Int}(dep:Int)(ks:List Txt)(vs:List V)(ser:Nat):DH num [] dep ks vs ser [] ser:=by intro I t l base ri τ0 n body hb hri x2 x3 x5 u6;intro σ rows τ u7 u10 u11 hs hl c;exact⟨u7,dep,u10,u11,ks,vs,τ,rfl,by subst hs;rw[List.append_nil];exact c⟩
theorem DH.put{num:Int}{m:Int}{text w x:Txt}{k:Nat}{B R:List C0}{dep:Int}{ks:List Txt}{vs:List V}{ser ser':Nat}:FI text w→Cv w (dep+Hg w)=false→EF ks vs k text=some x→k≤100000→text.length<100000→x.length≤1000 →
   DH num B (dep+Hg w) ks vs ser R ser'→DH num ((m,text)::B) dep ks vs ser ((num,x)::R) ser':=by
 intro hw hloc hp hk ht hxl hrest I t l base ri τ0 n body hb hri x2 x3 x5 u6;intro σ rows τ u7 u10 u11 hs hl c;rfl';refine BA hw fun d hd hdw=>?_;clear hw;have h1:=H2 n hd m τ;rw[hdw] at h1;have h2:=(De (num:=m) (text:=text) τ).2;have h3:=X0 (n+3) ht c.told hp hk hxl;have h4:=PT (n+7) τ num x (by rw[c.lo];exact c.nx) (by rw[c.h.ro];exact Nat.zero_le _)
 have e:=SF c x2 x3 x5 u6 u7 u11 h1 h2 h3 h4 hloc (by exact Zp hl)
 obtain⟨u7',dep',u10',u11',ks',vs',τ',f1,f2⟩:=hrest I t l base ri τ0 n body hb hri x2 x3 x5 u6 σ (rows++[(num,x)]) _ u7 (some (Cf m text)) (some (.str w)) hs (by rw[List.length_append,List.length_cons,List.length_nil];exact Z5 hl) (c.putL (rows++[(num,x)]))
 refine⟨u7',dep',u10',u11',ks',vs',τ',?_,?_⟩
 ·exact DR (μ1:=[some (.ref I.ps),some (.ref ri),some x2,some (x3),some (.ref t),some (x5),u6,u7,some (.ref l),some (.int dep),some (Cf m text),u11,none,none,none,none,none,none,none,none,none,none,none]) rfl ((hb _ _).trans e) f1
 ·rw[List.append_assoc] at f2;exact f2
theorem DH.loc{num:Int}{m:Int}{text:Txt}{d:Rd}{y:Txt}{B R:List C0}{dep:Int}{ks:List Txt}{vs:List V}{ser ser':Nat}:By text d→d.word=CZ→NamesOf d [y]→dep=0→ks.length≤900→ser≤10000→(Bb (10000+((ser+1:Nat):Int))).length≤1000 →
   DH num B 0 (AV ks vs y (.str (AL (ser+1)))).1 (AV ks vs y (.str (AL (ser+1)))).2 (ser+1) R ser'→DH num ((m,text)::B) dep ks vs ser R ser':=by
 intro hd hdw hn hdep hkl hsl hdg hrest I t l base ri τ0 n body hb hri x2 x3 x5 u6;intro σ rows τ u7 u10 u11 hs hl c;rfl';subst hs;subst hdep;have h1:=H2 n hd m τ;rw[hdw] at h1;have h3:=Jo n hd hn m τ;refine BA (N3 (C:=AP CT FT (n+8)) c hri x2 x3 x5 u6 u7 u11 h1 h3 hsl hkl hdg) fun τ1 e c1=>?_;obtain⟨u7',dep',u10',u11',ks',vs',τ',f1,f2⟩:=hrest I t l base ri τ0 n body hb hri x2 x3 x5 u6 { σ with ser:=σ.ser+1 } rows _ (some (.str y)) (some (Cf m text)) (some (.str CZ)) rfl (by exact aH hl) c1
 exact⟨u7',dep',u10',u11',ks',vs',τ',DR (μ1:=[some (.ref I.ps),some (.ref ri),some x2,some (x3),some (.ref t),some (x5),u6,u7,some (.ref l),some (.int 0),some (Cf m text),u11,none,none,none,none,none,none,none,none,none,none,none]) rfl ((hb _ _).trans e) f1,f2⟩
theorem CallSt.begin(c:CallSt I σ t l base ri num ks vs none τ0 τ):CallSt I σ t τ.next base ri num ks vs (some []) τ0 (τ.add (.list [])):=by
 have hg:∀ j,j<τ.next→(τ.add (.list [])).get j=τ.get j:=fun j hj=>by have:=Ak τ [.list []] hj;exact this
 have hn:(τ.add (.list [])).next=τ.next+1:=by have:=A7 τ [.list []];exact this
 refine⟨c.h.same c.h.ro (by exact ag hn) hg,(hg _ (get_lt c.told)).trans c.told,fun R hR=>?_,BE c.a7 (hg _ (by have:=c.rt;have:=c.nx;omega)),c.lo,c.lt,c.nx,c.nt,fun z=>Nat.lt_irrefl _ (c.h.lt _ z),fun z=>?_,c.rt,(by have:=c.nx;exact aS hn this),fun j hj hI=>(hg j (by have:=c.nx;exact o85 hj this)).trans (c.get j hj hI)⟩
 ·cases hR;exact A0 τ [.list []]
 ·have:=get_lt c.told;exact(bV z this).elim
theorem WR(n:Nat){st:St}{text w:Txt}{d:Rd}(h:Holds I σ st)(r:RowAt I ri num text d st)(hw:d.word=w){nm:List Txt}{B:List C0}(hm:Aq σ.mq σ.mw w=some (EN nm B)){k1 k2:Nat}{x:Txt}{ts:List Txt}(htl:HA w k1 (Ez text) text=some x)(hk1:k1≤100000)(htx:text.length<100000)(hxl:x.length≤1000)(hsp:EH k2 x []=some ts)(hk2:k2≤100000)(hts:ts.length=nm.length)(hne:ts≠[[]])(hnm:nm.length≤30)(hB:B.length≤900){R:List C0}{ser':Nat}(hex:DH num B 0 (EV nm ts [] []).1 (EV nm ts [] []).2 σ.ser R ser')(nested:Nat)(hnest:nested<8){σ':PS}
  (hwalk:∀(l:Nat) (τ':St),Holds I { σ with ser:=ser' } τ'→τ'.get l=some (.list (BL R))→l∉I.l→∃ τ'',AP CT FT (n+8) 499 [.ref I.ps,.ref l,.int (nested+1:Nat)] τ'=some (.none,τ'')∧Holds I σ' τ''∧Fr I τ' τ'') :
  ∃ st',AP CT FT (n+9) 532 [.ref I.ps,.ref ri,.int (nested:Nat)] st=some (.none,st')∧Holds I σ' st'∧Fr I st st':=by
 have hi:=h.inner;have r1:RowAt I ri num text d ⟨st.objs,st.next,st.ro⟩:=⟨r.get,r.out⟩;have hgt:∀ j,(⟨st.objs,st.next,st.ro⟩:St).get j=st.get j:=fun j=>rfl;have hno:(⟨st.objs,st.next,st.ro⟩:St).lo=st.next:=rfl;have hnx:(⟨st.objs,st.next,st.ro⟩:St).next=st.next:=rfl;have fin:=fun{τ:St} {fl μ v σ'}=>EG (n:=n+8) (a:=532) (vs:=[.ref I.ps,.ref ri,.int (nested:Nat)]) (st:=st) (τ:=τ) (fl:=fl) (μ:=μ) (v:=v) (I:=I) (σ':=σ') 3 23 FL rfl rfl h;rfl';generalize (⟨st.objs,st.next,st.ro⟩:St)=τ at hi hgt r1 hno hnx fin;have hrt:ri<τ.next:=get_lt r1.get;have c0:CallSt I σ τ.next (τ.next+1) τ.next ri num [] [] none τ (τ.add (.dict [] [])):=by have hg:∀ j,j<τ.next→(τ.add (.dict [] [])).get j=τ.get j:=fun j hj=>Ak τ [.dict [] []] hj;have hn:(τ.add (.dict [] [])).next=τ.next+1:=A7 τ [.dict [] []];exact⟨hi.same hi.ro (by exact ag hn) hg,A0 τ [.dict [] []],(fun R hR=>by cases hR),BE (BC r1.get).1 (hg _ hrt),hno.trans hnx.symm,Nat.le_refl _,Nat.le_succ _,(fun z=>Nat.lt_irrefl _ (hi.lt _ z)),(fun z=>absurd (hi.lt _ z) (by exact ay)),by exact Yt,hrt,by exact ag hn,fun j hj hI=>hg j hj⟩
 have r1':RowAt I ri num text d (τ.add (.dict [] [])):=⟨(Ak τ [.dict [] []] hrt).trans r1.get,r1.out⟩;have b10:=(BC r1'.get).2.2.2.1;have a10:=(BC r1.get).2.2.2.1;rw[hw] at a10 b10;have hix:BR (.ref I.mc) (.str w) τ=some (EN nm B):=by have:=hi.mc;unfold BR;dsimp only;rw[this];exact hm
 have ltn:(Ag nm).length=nm.length:=List.length_map _;have ltt:(Ag ts).length=nm.length:=(List.length_map _).trans hts;have ln:(Ag nm).length≤100000:=by rw[ltn];exact o64 hnm
 have d2:decide (((Ag nm).length:Int)<((Ag ts).length:Int))=false:=decide_eq_false (by rw[ltn,ltt];exact cG)
 refine Wf (N0 (C:=AP CT FT (n+8)) (fun μ st=>exs CT (AP CT FT (n+8)) μ st Cz) (fun _ _=>rfl) (.int (nested:Nat)) (EN nm B) ts (by exact Zw hts hnm) none none none none nm ts 0 [] [] _ none none hts rfl (by simpa using (by exact Zx hnm:nm.length≤100)) c0) fun u6 u7 τ2 f1 c2=>?_
 have c3:=c2.begin;obtain⟨u7',dep',u10',u11',ks',vs',τ4,g1,c4⟩:=hex I _ _ _ ri _ n (fun μ st=>exs CT (AP CT FT (n+8)) μ st CD) (fun _ _=>rfl) r.out (.int (nested:Nat)) (EN nm B) (.lst (Ag ts)) u6 σ [] _ u7 none none rfl (by simpa using hB) c3
 refine FE (hwalk τ2.next τ4 c4.h (c4.out _ rfl) c4.nl) fun τ5 w1 w2 w3=>?_;obtain⟨μ,e⟩:=FW (C:=AP CT FT (n+8)) (μ:=[some (.ref I.ps),some (.ref ri),some (.int (nested:Nat)),none,none,none,none,none,none,none,none,none,none,none,none,none,none,none,none,none,none,none,none]) (st:=τ) (s:=τ5) (b:=FL) (fl:=.next)
  [.nc,.br (show decide ((8:Int)≤((nested:Nat):Int))=false from decide_eq_false (by exact p74 hnest)),.o hi.at25,.o a10,.o hix,.o (BC r1'.get).2.1,.o b10,.m (Jp (n+4) (word:=w) htx htl hk1 (τ.add (.dict [] []))),.m (Up (n+3) hxl hsp hk2 (by exact aD hts hnm) hne (τ.add (.dict [] []))),
   .o (DY (st:=τ.add (.dict [] [])) (xs:=Ag ts) (by rw[ltt];exact o64 hnm)),.v fun st=>(Ku (nm:=nm) (B:=B) st).1,.o (DY (st:=τ.add (.dict [] [])) ln),.nc,.br d2,
   .v fun st=>(Ku (nm:=nm) (B:=B) st).1,.i (show Bo (τ.add (.dict [] [])) .enum (.tup [6,7]) (.lst (Ag nm)) .none=some (BQ 0 (Ag nm),.lst (Ag nm)) by rw[← Gh];rfl),.f f1,.gu (Bf (BQ 0 (Ag nm)).length (by rw[C6];exact ln)),.st (show Aa (τ.add (.dict [] [])).ro τ2=τ2 by unfold Aa;rw[c0.h.ro,← c2.h.ro]),
   .v fun st=>(Ku (nm:=nm) (B:=B) st).2,.f g1,.gu (Bf (BL B).length (by rw[ER];exact ak hB)),.st (show Aa (τ2.add (.list [])).ro τ4=τ4 by unfold Aa;rw[c3.h.ro,← c4.h.ro]),.mo (c4.h.meth 37 499 rfl rfl),.m w1] (by kernel_rfl)
 exact fin e (by rw[w3.next];have:=c4.nx;exact ZR hnx this) (fun j hj hI=>by rw[w3.get j hI,c4.get j (by exact o9 hnx hj) hI,hgt]) w2 rfl rfl
end
end SL25
section SL26
open PySem
section
variable {I:Ids}
theorem Fs{C:AC}{σ:PS}{τ:St}(h:Holds I σ τ){L x2:V}{i n:Int}{b:Bool}(hl:FO .len [L] τ=some (.int n))(hd:decide (i<n)=b)(u4 u5 u6 u7:Option V):ev CT C [some (.ref I.ps),some L,some x2,some (.int i),u4,u5,u6,u7] τ Cy=some (.bool b,τ):=by
 cases b with
 | true=>exact Iz [.o hl,.nc,.br hd,.o h.at30] (by kernel_rfl)
 | false=>exact Iz [.o hl,.nc,.br hd] (by kernel_rfl)
theorem H8{C:AC}{σ:PS}{τ τ':St}(h:Holds I σ τ){L x2 ro:V}{i j:Int}(h1:BR L (.int i) τ=some ro)(h2:C 504 [.ref I.ps,ro,L,.int (i+1),x2] τ=some (.int j,τ'))(u4 u5 u6 u7:Option V):exs CT C [some (.ref I.ps),some L,some x2,some (.int i),u4,u5,u6,u7] τ DA=some ((.next,[some (.ref I.ps),some L,some x2,some (.int j),some ro,u5,u6,u7]),τ'):=BN [.o h1,.mo (h.meth 38 504 rfl rfl),.m h2] (by kernel_rfl)
noncomputable def VI(I:Ids)(m nested:Nat)(R:List C0)(a:Nat)(σ σ':PS):Prop :=
 ∀(n:Nat) (test:AG→St→M V) (body:AG→St→M (Fl×AG)),(∀ μ st,test μ st=ev CT (AP CT FT (n+3*m+16)) μ st Cy)→(∀ μ st,body μ st=exs CT (AP CT FT (n+3*m+16)) μ st DA) →
  ∀(L:V) (τ:St) (f:Nat) (u4 u5 u6 u7:Option V),Holds I σ τ→RowsV L R τ→(∀ j,L=.ref j→j∉I.l)→R.length<f+a→1≤f →
   ∃ μ τ',BP test body f [some (.ref I.ps),some L,some (.int (nested:Nat)),some (.int (a:Nat)),u4,u5,u6,u7] τ=some ((.next,μ),τ')∧Holds I σ' τ'∧Fr I τ τ'
noncomputable def Walks(m nested:Nat)(R:List C0)(a:Nat)(σ σ':PS):Prop:=∀ I:Ids,VI I m nested R a σ σ'
theorem K0{m nested:Nat}{R:List C0}{σ σ':PS}(hW:VI I m nested R 0 σ σ')(n:Nat){st:St}(h:Holds I σ st){L:V}(hR:RowsV L R st)(hL:∀ j,L=.ref j→j∉I.l):∃ st',AP CT FT (n+3*m+17) 499 [.ref I.ps,L,.int (nested:Nat)] st=some (.none,st')∧Holds I σ' st'∧Fr I st st':=by
 have hlen:=hR.len;refine Dx (hW n (fun μ st=>ev CT (AP CT FT (n+3*m+16)) μ st Cy) (fun μ st=>exs CT (AP CT FT (n+3*m+16)) μ st DA) (fun _ _=>rfl) (fun _ _=>rfl) L _ W none none none none h.inner (hR.mono fun j _=>rfl) hL (by unfold W;exact bW hlen) (by decide)) fun μ τ' w1 w2 w3=>?_
 exact Cw 3 8 Hb [.f w1] rfl rfl h (by kernel_rfl) w2 w3 rfl
theorem Walks.done{m nested:Nat}{R:List C0}{a:Nat}{σ:PS}:R.length≤a→Walks m nested R a σ σ:=by
 intro hle;intro I n test body ht hb L τ f u4 u5 u6 u7 h hR hL hf h1;obtain⟨k,rfl⟩:∃ k,f=k+1:=⟨f - 1,by exact p6 h1⟩
 have d0:decide (((a:Nat):Int)<((R.length:Nat):Int))=false:=decide_eq_false (by exact cI hle)
 exact NL _ τ (D0 ((ht _ _).trans (Fs h hR.ln d0 _ _ _ _)) rfl) h (Fr.refl _ _)
theorem Walks.plain{m nested:Nat}{R:List C0}{a:Nat}{σ σ':PS}{num:Int}{text:Txt}{d:Rd}{l:List Op}{os:List Int}:R[a]?=some (num,text)→By text d→1≤σ.rl→TellOk σ.tick d l os→σ.mq.contains Af=false →
   Walks m nested R (a+1) ((σ.tick.labelled d.lab).putted num text os) σ'→Walks m nested R a σ σ':=by
 intro hg hd hrl hok hmt hrest;intro I n test body ht hb L τ f u4 u5 u6 u7 h hR hL hf h1;have hlt:a<R.length:=(List.getElem?_eq_some_iff.mp hg).1;have d1:decide (((a:Nat):Int)<((R.length:Nat):Int))=true:=decide_eq_true (by exact p8 hlt)
 rfl';obtain⟨k,rfl⟩:∃ k,f=k+1:=⟨f - 1,by exact p6 h1⟩
 refine FE (LF (num:=num) (L:=L) (n+3*m) h hrl hd hok hmt (((a:Nat):Int)+1) (.int (nested:Nat))) fun τ1 s1 s2 s3=>?_;refine Dx (hrest I n test body ht hb L τ1 k (some (Cf num text)) u5 u6 u7 s2 (hR.fr hL fun j _ hj=>s3.get j hj) hL (by exact o51 hf) (by exact aC hlt hf)) fun μ τ' w1 w2 w3=>?_
 exact NL μ τ' (K8 ((ht _ _).trans (Fs h hR.ln d1 _ _ _ _)) rfl ((hb _ _).trans (H8 h (hR.idx hg) s1 _ _ _ _)) w1) w2 (s3.trans w3)
theorem Walks.mac{m nested:Nat}{R:List C0}{a k:Nat}{σ σ':PS}{num:Int}{text x:Txt}{d:Rd}{nm:List Txt}{W:List Txt}:R[a]?=some (num,text)→By text d→1≤σ.rl→d.word=BF→d.lab=some x→NamesOf d nm→Words (R.drop (a+1)) W→G7 W 1=some k→a+1+k≤R.length→σ.mq.length<1000 →
   Walks m nested R (a+1+k+1) (σ.tick.mset x (EN nm ((R.take (a+1+k)).drop (a+1)))) σ'→Walks m nested R a σ σ':=by
 intro hg hd hrl hword hlab hnames hWs hk hak hmq hrest;intro I n test body ht hb L τ f u4 u5 u6 u7 h hR hL hf h1;have hlt:a<R.length:=(List.getElem?_eq_some_iff.mp hg).1;have d1:decide (((a:Nat):Int)<((R.length:Nat):Int))=true:=decide_eq_true (by exact p8 hlt)
 rfl';obtain⟨q,rfl⟩:∃ k,f=k+1:=⟨f - 1,by exact p6 h1⟩
 refine FE (LD (num:=num) (n+3*m) h hrl hd hword hlab hnames hR hL hWs hk hak hmq (.int (nested:Nat))) fun τ1 s1 s2 s3=>?_;refine Dx (hrest I n test body ht hb L τ1 q (some (Cf num text)) u5 u6 u7 s2 (hR.fr hL fun j _ hj=>s3.get j hj) hL (by exact ZB hf) (by exact aC hlt hf)) fun μ τ' w1 w2 w3=>?_
 exact NL μ τ' (K8 ((ht _ _).trans (Fs h hR.ln d1 _ _ _ _)) rfl ((hb _ _).trans (H8 h (hR.idx hg) s1 _ _ _ _)) w1) w2 (s3.trans w3)
theorem Walks.call{m nested:Nat}{R:List C0}{a:Nat}{σ σ1 σ':PS}{num:Int}{text w:Txt}{d:Rd}{nm:List Txt}{B R':List C0}{k1 k2:Nat}{x:Txt}{ts:List Txt}{ser':Nat}:R[a]?=some (num,text)→By text d→1≤σ.rl→d.word=w→L4 σ.tick d.lab→σ.at_<65536→σ.mq.contains w=true →
   decide (w=[73,70])=false→decide (w=[77,65,67,82,79])=false→FF w [[69,76,83,69],[69,78,68,73,70],[69,78,68,77]]=false→Aq σ.mq σ.mw w=some (EN nm B)→HA w k1 (Ez text) text=some x→k1≤100000→text.length<100000→x.length≤1000→EH k2 x []=some ts→k2≤100000→ts.length=nm.length→ts≠[[]]→nm.length≤30→B.length≤900→nested<8→R'.length≤1000 →
   DH num B 0 (EV nm ts [] []).1 (EV nm ts [] []).2 σ.ser R' ser'→Walks m (nested+1) R' 0 { σ.tick.labelled d.lab with ser:=ser' } σ1→Walks (m+1) nested R (a+1) σ1 σ'→Walks (m+1) nested R a σ σ':=by
 intro hg hd hrl hword hlab hat hmq q1 q2 q3 hget htl hk1 htx hxl hsp hk2 hts hne hnm hB hnest hR'l hex hin hrest;intro I n test body ht hb L τ f u4 u5 u6 u7 h hR hL hf h1;have hlt:a<R.length:=(List.getElem?_eq_some_iff.mp hg).1;have d1:decide (((a:Nat):Int)<((R.length:Nat):Int))=true:=decide_eq_true (by exact p8 hlt)
 rfl';obtain⟨q,rfl⟩:∃ k,f=k+1:=⟨f - 1,by exact p6 h1⟩
 obtain⟨τ1,s1,s2,s3⟩:=Me (num:=num) (L:=L) (n+3*(m+1)) h hrl hd hword hlab hat hmq q1 q2 q3 (((a:Nat):Int)+1) (.int (nested:Nat)) (σ':=σ1) (fun ri τ' hh hr=>by
  have hmm:∀ o,(σ.tick.labelled o).mq=σ.mq∧(σ.tick.labelled o).mw=σ.mw∧(σ.tick.labelled o).ser=σ.ser:=fun o=>by cases (o)<;>exact⟨rfl,rfl,rfl⟩
  refine L2 (hmm d.lab) fun e1 e2 e3=>?_;have:=WR (n+3*(m+1)+6) hh hr hword (nm:=nm) (B:=B) (by rw[e1,e2];exact hget) htl hk1 htx hxl hsp hk2 hts hne hnm hB (by rw[e3];exact hex) nested hnest (σ':=σ1) (fun l τ'' hh' hl hnl=>by
   have:=K0 (hin I) n hh' (RowsV.ref hR'l hl) (fun j hj=>by cases (hj);exact hnl)
   exact this)
  exact this)
 refine Dx (hrest I n test body ht hb L τ1 q (some (Cf num text)) u5 u6 u7 s2 (hR.fr hL fun j _ hj=>s3.get j hj) hL (by exact o51 hf) (by exact aC hlt hf)) fun μ τ' w1 w2 w3=>?_
 exact NL μ τ' (K8 ((ht _ _).trans (Fs h hR.ln d1 _ _ _ _)) rfl ((hb _ _).trans (H8 h (hR.idx hg) s1 _ _ _ _)) w1) w2 (s3.trans w3)
theorem WU{m nested:Nat}{R:List C0}{σ σ':PS}(hw:Walks m nested R 0 σ σ')(n:Nat){st:St}(h:Holds I σ st){L:V}(hR:RowsV L R st)(hL:∀ j,L=.ref j→j∉I.l):∃ st',AP CT FT (n+3*m+17) 499 [.ref I.ps,L,.int (nested:Nat)] st=some (.none,st')∧Holds I σ' st'∧Fr I st st' :=
 K0 (hw I) n h hR hL
end
end SL26
section SL27
open PySem
noncomputable def jl:List Txt→Txt
 | []=>[]
 | [x]=>x
 | x::y::r=>x++10::jl (y::r)
theorem PL:∀ l:List Str,(PySem.Str.join (AR [10]) l).cps.toList=jl (l.map fun x=>x.cps.toList):=by
 intro q1_
 induction q1_ with
 | nil=>exact rfl
 | cons x q2_ ih_ =>
  cases q2_ with
  | nil=>exact rfl
  | cons y r=>show(x++AR [10]++PySem.Str.join (AR [10]) (y::r)).cps.toList=x.cps.toList++10::jl ((y::r).map fun x=>x.cps.toList);rw[← ih_];show((x.cps++#[10])++(PySem.Str.join (AR [10]) (y::r)).cps).toList=_;simp
theorem QY:∀(x y a b:Txt),(10:Nat)∉x→10∉y→x++10::a=y++10::b→x=y∧a=b:=by
 intro q1_
 induction q1_ with
 | nil =>
  intro q2_;cases q2_ with
  | nil=>intro a b _ _ h;simpa using h
  | cons c y=>intro a b _ hy h;simp at h hy;exact absurd h.1 hy.1
 | cons c x ih_ =>
  intro q3_;cases q3_ with
  | nil=>intro a b hx _ h;simp at h hx;exact absurd h.1.symm hx.1
  | cons d y=>intro a b hx hy h;simp at h hx hy;obtain⟨h1,h2⟩:=ih_ y a b hx.2 hy.2 h.2;exact⟨by rw[h.1,h1],h2⟩
theorem U9:∀(p q:List Txt),p≠[]→q≠[]→(∀ t∈p,10∉t)→(∀ t∈q,10∉t)→jl p=jl q→p=q:=by
 intro q1_
 induction q1_ with
 | nil =>
  intro q2_;cases q2_ with
  | nil=>intro h _ _ _ _;exact absurd rfl h
  | cons q3_ q4_=>intro h _ _ _ _;exact absurd rfl h
 | cons x q5_ ih_ =>
  cases q5_ with
  | nil =>
   intro q6_;cases q6_ with
   | nil=>intro _ h _ _ _;exact absurd rfl h
   | cons y q7_ =>
    cases q7_ with
    | nil=>intro _ _ _ _ h;have:x=y:=h;rw[this]
    | cons z q=>intro _ _ hp hq h;have h':x=y++10::jl (z::q):=h;exact absurd (show 10∈x by rw[h'];simp) (hp x (by simp))
  | cons a p =>
   intro q8_;cases q8_ with
   | nil=>intro _ h _ _ _;exact absurd rfl h
   | cons y q9_ =>
    cases q9_ with
    | nil=>intro _ _ hp hq h;have h':x++10::jl (a::p)=y:=h;exact absurd (show 10∈y by rw[← h'];simp) (hq y (by simp))
    | cons b q =>
     intro _ _ hp hq h;have h':x++10::jl (a::p)=y++10::jl (b::q):=h;refine J1 (QY x y _ _ (hp x (by simp)) (hq y (by simp)) h') fun e1 e2=>?_
     have:=ih_ (b::q) (by simp) (by simp) (fun t ht=>hp t (by simp at ht ⊢;exact .inr ht)) (fun t ht=>hq t (by simp at ht ⊢;exact .inr ht)) e2
     rw[e1,this]
theorem T6(ts:List Txt)(hne:ts≠[])(hf:∀ t∈ts,10∉t):(H5 (jl ts) 10).map (fun x=>x.cps.toList)=ts:=by
 unfold H5;have h1:=StrLaws.join_split (AR (jl ts)) (AR [10]);have h2:∀ p∈Txt.split (AR (jl ts)) (AR [10]),10∉p.cps.toList:=StrLaws.split_free (AR (jl ts)) 10;have h3:=PyProof.Rows.split_pos (AR (jl ts)) (AR [10]);have h4:=PL (Txt.split (AR (jl ts)) (AR [10]));generalize Txt.split (AR (jl ts)) (AR [10])=P at h1 h2 h3 h4;have h1':PySem.Str.join (AR [10]) P=AR (jl ts):=h1;rw[h1'] at h4;have h5:(AR (jl ts)).cps.toList=jl ts:=by unfold AR;simp
 refine(U9 _ _ hne ?_ hf ?_ h4).symm
 ·intro z;have:=congrArg List.length z;rw[List.length_map] at this;simp at this;rw[this] at h3;simp at h3
 ·intro t ht;refine BA (List.mem_map.mp ht) fun p hp z_2=>?_;subst z_2;exact h2 p hp
noncomputable def numbered:Nat→List Txt→List C0
 | _,[]=>[]
 | k,t::r=>(((k+1:Nat):Int),t)::numbered (k+1) r
theorem Gu:∀(k:Nat) (ts:List Txt),(numbered k ts).length=ts.length
 | _,[]=>rfl
 | k,t::r=>by rw[numbered,List.length_cons,List.length_cons,Gu]
theorem Uf(n:Nat){u0 u3:Option V}{i:Int}{t:Txt}{st:St}(h1:st.lo≤st.next)(h2:st.ro≤st.next):ev CT (AP CT FT (n+1)) [u0,some (.int i),some (.str t),u3] st Bi=some (Cf (i+1) t,st):=Iz [.m (PT n st (i+1) t h1 h2)] (by kernel_rfl)
theorem TB(n:Nat)(test:AG→St→M Bool)(elt:AG→St→M V)(ht:∀ μ st,test μ st=some (true,st))(he:∀ μ st,elt μ st=ev CT (AP CT FT (n+1)) μ st Bi)(u0 u3:Option V)(st:St)(h1:st.lo≤st.next)(h2:st.ro≤st.next):∀(ts:List Txt) (k:Nat) (u1 u2:Option V),Ax test elt (.tup [1,2]) (BQ k (Ag ts)) [u0,u1,u2,u3] st=some (BL (numbered k ts),st):=by
 intro q1_
 induction q1_ with
 | nil=>intro _ _ _;exact rfl
 | cons t ts ih_=>intro k u1 u2;exact HL (t:=.tup [1,2]) (x:=.tup [.int (k:Nat),.str t]) (μ1:=[u0,some (.int (k:Nat)),some (.str t),u3]) rfl (ht _ _) rfl ((he _ _).trans (Uf n h1 h2)) (ih_ (k+1) _ _)
theorem OT(n:Nat){ts:List Txt}(hne:ts≠[])(hf:∀ t∈ts,10∉t)(hl:(jl ts).length≤100000)(hn:ts.length≤1000)(st:St):AP CT FT (n+2) 275 [.str (jl ts)] st=some (.lst (BL (numbered 0 ts)),st):=by
 have hv (τ:St):BS (.str (jl ts)) 5 [.str [10]] τ=some (.lst (Ag ts),τ):=by show A9 (Nat.ble (jl ts).length Cs) (some (V.lst ((H5 (jl ts) 10).map fun x=>V.str x.cps.toList),τ))=_;have:=congrArg (List.map V.str) (T6 ts hne hf);rw[List.map_map] at this;rw[Bf _ hl,show((H5 (jl ts) 10).map fun x=>V.str x.cps.toList)=Ag ts from this];rfl
 exact AK 1 2 Er [.p hv,.i (show Bo (AW (inner st) []) .enum (.tup [1,2]) (.lst (Ag ts)) .none=some (BQ 0 (Ag ts),.lst (Ag ts)) by rw[← Gh];rfl),
  .l (TB n (fun μ st=>evIfs CT (AP CT FT (n+1)) μ st []) (fun μ st=>ev CT (AP CT FT (n+1)) μ st Bi) (fun _ _=>rfl) (fun _ _=>rfl) none none (AW (inner st) []) (by rw[BJ];exact C9 st) (by rw[BJ];exact Bc st) ts 0 none none),.gu (Bf (BQ 0 (Ag ts)).length (by rw[C6];unfold Ag;rw[List.length_map];exact o7 hn))] rfl rfl (by kernel_rfl) (GZ _)
end SL27
section SL28
open PySem
theorem Pw(C:AC)(test:AG→St→M Bool)(elt:AG→St→M V)(ht:∀ μ st,test μ st=some (true,st))(he:∀ μ st,elt μ st=ev CT C μ st FR)(u0:Option V)(st:St):∀(os:List Int) (k:Nat) (u1 u2:Option V),Ax test elt (.tup [1,2]) (Bk k os) [u0,u1,u2] st=some (iV os,st):=by
 intro q1_
 induction q1_ with
 | nil=>intro _ _ _;exact rfl
 | cons o os ih_=>intro k u1 u2;exact HL (t:=.tup [1,2]) (x:=.tup [.int (k:Nat),.int o]) (μ1:=[u0,some (.int (k:Nat)),some (.int o)]) rfl (ht _ _) rfl ((he _ _).trans rfl) (ih_ (k+1) _ _)
theorem RI(n:Nat){md oc:Nat}{os:List Int}{st:St}(h14:AU (A5 CT) (.ref md) 14 st=some (.ref oc))(hoc:st.get oc=some (.list (Bk 0 os)))(hl:os.length≤1000):AP CT FT (n+1) 638 [.ref md] st=some (.lst (iV os),st):=by
 have hoc':(AW (inner st) []).get oc=some (.list (Bk 0 os)):=by rw[BJ];exact hoc
 have hik:Bo (AW (inner st) []) .plain (.tup [1,2]) (.ref oc) .none=some (Bk 0 os,.ref oc):=by
  show(match (AW (inner st) []).get oc with | some (.list xs)=>some xs | some (.dict ks _)=>_ | _=>none).map _=_
  rw[hoc'];rfl
 exact AK 1 1 Jy [.o (BE (st':=AW (inner st) []) h14 (by rw[BJ];rfl)),.i hik,.l (Pw (AP CT FT n) (fun μ st=>evIfs CT (AP CT FT n) μ st []) (fun μ st=>ev CT (AP CT FT n) μ st FR) (fun _ _=>rfl) (fun _ _=>rfl) none (B5 (AW (inner st) []) (.ref oc)) os 0 none none),.gu (Bf (Bk 0 os).length (by rw[HZ];exact o7 hl))] rfl rfl (by kernel_rfl) (Fm os)
theorem UX(st:St)(a b:List O):AW (AW st a) b=AW st (a++b):=by unfold AW;simp
noncomputable def UD(a b c d:Nat):O:=.inst 453 [14,15,16,17,18] [.ref a,.ref b,.ref c,.ref d,.none]
noncomputable def XA(σ:St)(c:Nat)(hc:A5 CT c=true)(h1:σ.lo≤σ.next)(h2:σ.ro≤σ.next)(m:List O)(ks:List Nat)(vs:List V)(f:Nat)(v:V)(hf:Am f=true)(hk:Nat.ble ks.length 60=true):H :=
 .u (I9 (ok:=A5 CT) (σ:=σ) (l:=[]) (m:=m) (c:=c) (ks:=ks) (vs:=vs) (f:=f) (v:=v) hc hf hk h1 h2)
theorem WI(n:Nat)(σ:St)(h1:σ.lo≤σ.next)(h2:σ.ro≤σ.next):Fw CT (AP CT FT (n+1)) true 453 [] σ=some (.ref σ.next,AW σ [UD (σ.next+1) (σ.next+2) (σ.next+3) (σ.next+4),.list [],.dict [] [],.list [],.list []]) :=
 let s:=XA σ 453 rfl h1 h2
 I0 rfl (KU (st:=AW σ [.inst 453 [] []]) 1 1 En [NI σ [.inst 453 [] []] (.list []),s [.list []] [] [] 14 (.ref (σ.next+1)) rfl rfl,NI σ [.inst 453 [14] [.ref (σ.next+1)],.list []] (.dict [] []),s [.list [],.dict [] []] [14] [.ref (σ.next+1)] 15 (.ref (σ.next+2)) rfl rfl,NI σ [.inst 453 [14,15] [.ref (σ.next+1),.ref (σ.next+2)],.list [],.dict [] []] (.list []),s [.list [],.dict [] [],.list []] [14,15] [.ref (σ.next+1),.ref (σ.next+2)] 16 (.ref (σ.next+3)) rfl rfl,NI σ [.inst 453 [14,15,16] [.ref (σ.next+1),.ref (σ.next+2),.ref (σ.next+3)],.list [],.dict [] [],.list []] (.list []),s [.list [],.dict [] [],.list [],.list []] [14,15,16] [.ref (σ.next+1),.ref (σ.next+2),.ref (σ.next+3)] 17 (.ref (σ.next+4)) rfl rfl,s [.list [],.dict [] [],.list [],.list []] [14,15,16,17] [.ref (σ.next+1),.ref (σ.next+2),.ref (σ.next+3),.ref (σ.next+4)] 18 .none rfl rfl] rfl rfl (by kernel_rfl))
theorem Ue(n:Nat)(σ:St)(h1:σ.lo≤σ.next)(h2:σ.ro≤σ.next)(sy sz:Nat)(last:Bool):Fw CT (AP CT FT (n+2)) true 596 [.ref sy,.ref sz,.bool last,.fn 658] σ=some (.ref σ.next,AW σ [
  .inst 596 [15,19,20,21,22,23,24,25,26,27,28,29,30,31] [.ref sy,.fn 658,.ref sz,.bool last,.int 0,.ref (σ.next+1),.ref (σ.next+2),.ref (σ.next+3),.int 0,.int 0,.int 4000,.int 0,.bool false,.ref (σ.next+4)],
  .dict [] [],.dict [] [],.dict [] [],UD (σ.next+5) (σ.next+6) (σ.next+7) (σ.next+8),.list [],.dict [] [],.list [],.list []]):=by
 have hn:=WI n (AW σ [.inst 596 [15,19,20,21,22,23,24,25,26,27,28,29,30] [.ref sy,.fn 658,.ref sz,.bool last,.int 0,.ref (σ.next+1),.ref (σ.next+2),.ref (σ.next+3),.int 0,.int 0,.int 4000,.int 0,.bool false],.dict [] [],.dict [] [],.dict [] []]) (by rw[OF,A7];exact o69 h1) (by rw[GY,A7];exact o69 h2)
 rw[UX,A7] at hn
 let s:=XA σ 596 rfl h1 h2
 exact I0 rfl (KU (st:=AW σ [.inst 596 [] []]) 5 7 Ha [s [] [] [] 15 (.ref sy) rfl rfl,s [] [15] [.ref sy] 19 (.fn 658) rfl rfl,s [] [15,19] [.ref sy,.fn 658] 20 (.ref sz) rfl rfl,s [] [15,19,20] [.ref sy,.fn 658,.ref sz] 21 (.bool last) rfl rfl,s [] [15,19,20,21] [.ref sy,.fn 658,.ref sz,.bool last] 22 (.int 0) rfl rfl,NI σ [.inst 596 [15,19,20,21,22] [.ref sy,.fn 658,.ref sz,.bool last,.int 0]] (.dict [] []),s [.dict [] []] [15,19,20,21,22] [.ref sy,.fn 658,.ref sz,.bool last,.int 0] 23 (.ref (σ.next+1)) rfl rfl,NI σ [.inst 596 [15,19,20,21,22,23] [.ref sy,.fn 658,.ref sz,.bool last,.int 0,.ref (σ.next+1)],.dict [] []] (.dict [] []),s [.dict [] [],.dict [] []] [15,19,20,21,22,23] [.ref sy,.fn 658,.ref sz,.bool last,.int 0,.ref (σ.next+1)] 24 (.ref (σ.next+2)) rfl rfl,NI σ [.inst 596 [15,19,20,21,22,23,24] [.ref sy,.fn 658,.ref sz,.bool last,.int 0,.ref (σ.next+1),.ref (σ.next+2)],.dict [] [],.dict [] []] (.dict [] []),s [.dict [] [],.dict [] [],.dict [] []] [15,19,20,21,22,23,24] [.ref sy,.fn 658,.ref sz,.bool last,.int 0,.ref (σ.next+1),.ref (σ.next+2)] 25 (.ref (σ.next+3)) rfl rfl,s [.dict [] [],.dict [] [],.dict [] []] [15,19,20,21,22,23,24,25] [.ref sy,.fn 658,.ref sz,.bool last,.int 0,.ref (σ.next+1),.ref (σ.next+2),.ref (σ.next+3)] 26 (.int 0) rfl rfl,s [.dict [] [],.dict [] [],.dict [] []] [15,19,20,21,22,23,24,25,26] [.ref sy,.fn 658,.ref sz,.bool last,.int 0,.ref (σ.next+1),.ref (σ.next+2),.ref (σ.next+3),.int 0] 27 (.int 0) rfl rfl,s [.dict [] [],.dict [] [],.dict [] []] [15,19,20,21,22,23,24,25,26,27] [.ref sy,.fn 658,.ref sz,.bool last,.int 0,.ref (σ.next+1),.ref (σ.next+2),.ref (σ.next+3),.int 0,.int 0] 28 (.int 4000) rfl rfl,s [.dict [] [],.dict [] [],.dict [] []] [15,19,20,21,22,23,24,25,26,27,28] [.ref sy,.fn 658,.ref sz,.bool last,.int 0,.ref (σ.next+1),.ref (σ.next+2),.ref (σ.next+3),.int 0,.int 0,.int 4000] 29 (.int 0) rfl rfl,s [.dict [] [],.dict [] [],.dict [] []] [15,19,20,21,22,23,24,25,26,27,28,29] [.ref sy,.fn 658,.ref sz,.bool last,.int 0,.ref (σ.next+1),.ref (σ.next+2),.ref (σ.next+3),.int 0,.int 0,.int 4000,.int 0] 30 (.bool false) rfl rfl,.m hn,s [.dict [] [],.dict [] [],.dict [] [],UD (σ.next+5) (σ.next+6) (σ.next+7) (σ.next+8),.list [],.dict [] [],.list [],.list []] [15,19,20,21,22,23,24,25,26,27,28,29,30] [.ref sy,.fn 658,.ref sz,.bool last,.int 0,.ref (σ.next+1),.ref (σ.next+2),.ref (σ.next+3),.int 0,.int 0,.int 4000,.int 0,.bool false] 31 (.ref (σ.next+4)) rfl rfl] rfl rfl (by kernel_rfl))
end SL28
section SL29
open PySem
theorem Iv:∀{ks:List Txt} {vs:List V} {k:Txt} {v:V},ks.length=vs.length→k∉ks→AV ks vs k v=(ks++[k],vs++[v]):=by
 intro q1_
 induction q1_ with
 | nil =>
  intro q2_;cases q2_ with
  | nil=>intro _ _ _ _;exact rfl
  | cons q3_ q4_=>intro _ _ h _;rfl';cases (h)
 | cons a ks ih_ =>
  intro q5_;cases q5_ with
  | nil=>intro _ _ h _;cases (h)
  | cons b vs =>
   intro k v h hk;have hak:decide (a=k)=false:=decide_eq_false (fun z=>hk (by rw[z];simp))
   rw[HM];rw[hak];rw[ih_ (by simpa using h) (fun z=>hk (by simp [z]))]
   rfl
theorem Li:∀{ks1 ks2:List Txt} {vs1 vs2:List V} {k:Txt} {v:V},ks1.length=vs1.length→k∉ks1→Aq (ks1++k::ks2) (vs1++v::vs2) k=some v:=by
 intro q1_
 induction q1_ with
 | nil =>
  intro ks2 q2_;cases q2_ with
  | nil=>intro vs2 k v _ _;show Aq (k::ks2) (v::vs2) k=_;rw[DK];rw[decide_eq_true rfl]
  | cons q3_ q4_=>intro _ _ _ h _;cases (h)
 | cons a ks1 ih_ =>
  intro ks2 q5_;cases q5_ with
  | nil=>intro _ _ _ h _;cases (h)
  | cons b vs1 =>
   intro vs2 k v h hk;have hak:decide (a=k)=false:=decide_eq_false (fun z=>hk (by rw[z];simp))
   show Aq (a::(ks1++k::ks2)) (b::(vs1++v::vs2)) k=_;rw[DK];rw[hak];exact ih_ (by simpa using h) (fun z=>hk (by simp [z]))
theorem OD{C:AC}{τ:St}{ps kd fx sy:Nat}{ks fk:List Txt}{vs fv:List V}{sk:List Txt}{sv:List V}{k:Txt}{v:V}(x0 x1 x2:V)(u6 u7 u8:Option V)
  (h23:AU (A5 CT) (.ref ps) 23 τ=some (.ref fx)) (h15:AU (A5 CT) (.ref ps) 15 τ=some (.ref sy)) (hfx:τ.get fx=some (.dict fk fv)) (hsy:τ.get sy=some (.dict sk sv)) (hkd:τ.get kd=some (.dict ks vs)) (hf:fk.contains k=true) (hv:Aq sk sv k=some v) (hw:τ.wr kd v=true) (hl:ks.length≤1000) :
  exs CT C [some x0,some x1,some x2,some (.ref ps),some (.ref kd),some (.str k),u6,u7,u8] τ CJ=some ((.next,[some x0,some x1,some x2,some (.ref ps),some (.ref kd),some (.str k),u6,u7,u8]),τ.put kd (.dict (AV ks vs k v).1 (AV ks vs k v).2)):=by
 exact BN [.o h23,.o1 (show EB .In (.str k) (.ref fx) τ=some true from(Gn hfx).trans (congrArg some hf)),.o h15,.o (show BR (.ref sy) (.str k) τ=some v from by unfold BR;dsimp only;rw[hsy];exact hv),.u (Cd (k:=k) hkd hw hl)] (by kernel_rfl)
theorem OC{C:AC}(body:AG→St→M (Fl×AG))(hb:∀ μ st,body μ st=exs CT C μ st CJ){ps kd fx sy:Nat}{fk:List Txt}{fv:List V}{sk:List Txt}{sv:List V}(x0 x1 x2:V)(u6 u7 u8:Option V)(n1:kd≠ps)(n2:kd≠fx)(n3:kd≠sy)(hnd:sk.Nodup)(hlen:sk.length=sv.length)(hcon:∀ k∈sk,fk.contains k=true)(hls:sk.length≤1000)(lo:Nat)(hlo:lo≤kd)(ro:Nat)(hro:ro≤kd) :
  ∀(ks2 ks1:List Txt) (vs2 vs1:List V) (τ:St) (u5:Option V),sk=ks1++ks2→sv=vs1++vs2→ks1.length=vs1.length→τ.lo=lo→τ.ro=ro →
  AU (A5 CT) (.ref ps) 23 τ=some (.ref fx)→AU (A5 CT) (.ref ps) 15 τ=some (.ref sy)→τ.get fx=some (.dict fk fv)→τ.get sy=some (.dict sk sv)→τ.get kd=some (.dict ks1 vs1) →
  ∃ u5' τ',Bn (.loc 5) body (Ag ks2) [some x0,some x1,some x2,some (.ref ps),some (.ref kd),u5,u6,u7,u8] τ=some ((.next,[some x0,some x1,some x2,some (.ref ps),some (.ref kd),u5',u6,u7,u8]),τ')∧τ'.get kd=some (.dict sk sv)∧τ'.lo=lo∧τ'.ro=ro∧τ'.next=τ.next∧(∀ j,j≠kd→τ'.get j=τ.get j):=by
 intro ks2
 induction ks2 with
 | nil =>
  intro ks1 vs2 vs1 τ u5 e1 e2 hl1 tlo tro h23 h15 hfx hsy hkd;have:vs2=[]:=by have:=congrArg List.length e2;rw[List.length_append] at this;have h3:=congrArg List.length e1;rw[List.length_append,List.length_nil] at h3;exact List.eq_nil_of_length_eq_zero (by exact o99 hlen hl1 this h3)
  rfl';subst this;rw[List.append_nil] at e1 e2;subst e1 e2;exact y26 u5 τ rfl hkd tlo tro rfl (fun _ _=>rfl)
 | cons k ks2 ih =>
  intro ks1 vs2 vs1 τ u5 e1 e2 hl1 tlo tro h23 h15 hfx hsy hkd;rfl';cases vs2 with
  | nil=>have:=congrArg List.length e2;rw[List.append_nil] at this;have h3:=congrArg List.length e1;rw[List.length_append,List.length_cons] at h3;exact(o91 hlen hl1 this h3).elim
  | cons v vs2 =>
   have hk1:k∉ks1:=by rw[e1,List.nodup_append] at hnd;exact fun z=>hnd.2.2 k z k (by simp) rfl
   have hgv:Aq sk sv k=some v:=by rw[e1,e2];exact Li hl1 hk1
   have hl2:ks1.length≤1000:=by have h3:=congrArg List.length e1;rw[List.length_append,List.length_cons] at h3;exact o94 hls h3
   have hw:τ.wr kd v=true:=by unfold St.wr;rw[C5,C5,tlo,tro,decide_eq_true hro,decide_eq_true hlo];rfl
   have e:=OD (C:=C) x0 x1 x2 u6 u7 u8 h23 h15 hfx hsy hkd (hcon k (by rw[e1];simp)) hgv hw hl2
   rw[Iv hl1 hk1] at e;refine x26 (ih (ks1++[k]) vs2 (vs1++[v]) (τ.put kd (.dict (ks1++[k]) (vs1++[v]))) (some (.str k)) (by rw[e1];simp) (by rw[e2];simp) (by simp [hl1]) tlo tro (BE h23 (AA n1)) (BE h15 (AA n1)) ((AA n2).trans hfx) ((AA n3).trans hsy) (AJ (get_lt hkd))) fun u5' τ' f1 f2 f3 f4 f5 f6=>?_
   refine y26 u5' τ' (DR (μ1:=[some x0,some x1,some x2,some (.ref ps),some (.ref kd),some (.str k),u6,u7,u8]) rfl ((hb _ _).trans e) f1) f2 f3 f4 (by rw[f5,A8]) (fun j hj=>(f6 j hj).trans (AA fun z=>hj z.symm))
noncomputable def F1(last:Bool)(sk:List Txt)(sv sizes:List V):PS:=⟨last,sk,sv,sizes,0,[],[],[],[],0,0,4000,[],[]⟩
noncomputable def PH(sy sz P:Nat):Ids:=⟨sy,sz,P,P+1,P+2,P+3,P+4,P+5,P+6,P+7,P+8⟩
theorem Nx{σ:St}{sy sz:Nat}{last:Bool}{sk:List Txt}{sv sizes:List V}(hsy:σ.get sy=some (.dict sk sv))(hsz:σ.get sz=some (.list sizes))(hro:σ.ro=0)(hne:sy≠sz)(h1:sk.length≤1000)(h2:sizes.length≤1000):Holds (PH sy sz σ.next) (F1 last sk sv sizes) (AW σ [
  .inst 596 [15,19,20,21,22,23,24,25,26,27,28,29,30,31] [.ref sy,.fn 658,.ref sz,.bool last,.int 0,.ref (σ.next+1),.ref (σ.next+2),.ref (σ.next+3),.int 0,.int 0,.int 4000,.int 0,.bool false,.ref (σ.next+4)],
  .dict [] [],.dict [] [],.dict [] [],UD (σ.next+5) (σ.next+6) (σ.next+7) (σ.next+8),.list [],.dict [] [],.list [],.list []]):=by
 have g1:=get_lt hsy;have g2:=get_lt hsz;refine⟨A0 _ _,(Ak _ _ g1).trans hsy,(Ak _ _ g2).trans hsz,BB _ _ 1,BB _ _ 2,BB _ _ 3,BB _ _ 4,BB _ _ 5,BB _ _ 7,BB _ _ 8,?_,?_,hro,h1,Nat.zero_le _,Nat.zero_le _,h2,Nat.zero_le _,Nat.zero_le _⟩
 ·show(sy::sz::List.range' σ.next 9).Nodup;refine List.nodup_cons.mpr ⟨fun z=>?_,List.nodup_cons.mpr ⟨fun z=>Nat.not_lt.mpr (List.mem_range'_1.mp z).1 g2,List.nodup_range'⟩⟩;rcases List.mem_cons.mp z with z | z
  ·exact hne z
  ·exact Nat.not_lt.mpr (List.mem_range'_1.mp z).1 g1
 ·intro j hj;rw[A7];have hj:j∈sy::sz::List.range' σ.next 9:=hj;rcases List.mem_cons.mp hj with z | hj
  ·exact Nat.lt_of_lt_of_le (z.symm▸g1) (Nat.le_add_right _ _)
  rcases List.mem_cons.mp hj with z | z
  ·exact Nat.lt_of_lt_of_le (z.symm▸g2) (Nat.le_add_right _ _)
  ·exact(List.mem_range'_1.mp z).2
end SL29
section SL30
open PySem
structure Made(st0 st:St)(md oc er:Nat)(octs:List V):Prop where
 a14:AU (A5 CT) (.ref md) 14 st=some (.ref oc)
 a17:AU (A5 CT) (.ref md) 17 st=some (.ref er)
 oc:st.get oc=some (.list octs)
 er:st.get er=some (.list [])
 lo:st.lo=0
 ro:st.ro=0
 nx:st0.next≤st.next
 old:∀ j,j<st0.next→st.get j=st0.get j
 lt:md<st.next
theorem Dc{st:St}{i:Nat}{xs:List V}(h:st.get i=some (.list xs)):AD st (.ref i)=some xs:=by
 show(match st.get i with | some (.list xs)=>some xs | _=>none)=_
 rw[h]
theorem KY(n:Nat){τ:St}{sy sz m:Nat}{last:Bool}{sk:List Txt}{sv sizes:List V}{R:List C0}{σ':PS}(hsy:τ.get sy=some (.dict sk sv))(hsz:τ.get sz=some (.list sizes))(hlo:τ.lo=0)(hro:τ.ro=0)(hne:sy≠sz)(h1:sk.length≤1000)(h2:sizes.length≤1000)(hR:R.length≤1000)(w:Walks m 0 R 0 (F1 last sk sv sizes) σ') :
  ∃ τa τb,Fw CT (AP CT FT (n+3*m+17)) true 596 [.ref sy,.ref sz,.bool last,.fn 658] τ=some (.ref τ.next,τa)∧Ac CT τa (.ref τ.next) 37=some 499∧AP CT FT (n+3*m+17) 499 [.ref τ.next,.lst (BL R),.int 0] τa=some (.none,τb)∧Holds (PH sy sz τ.next) σ' τb∧τb.lo=0∧τb.next=τ.next+9∧∀ j,j<τ.next→j≠sy→j≠sz→τb.get j=τ.get j:=by
 have hh:=Nx hsy hsz hro hne h1 h2 (last:=last);refine FE (WU w n hh (RowsV.fro hR _) (fun j hj=>by cases (hj))) fun τb k h f=>?_
 refine Xs _ τb (Ue (n+3*m+15) τ (by rw[hlo];exact Nat.zero_le _) (by rw[hro];exact Nat.zero_le _) sy sz last) (hh.meth 37 499 rfl rfl) k h (f.lo.trans hlo) (f.next.trans (A7 _ _)) (fun j hj n1 n2=>(f.get j fun z=>?_).trans (Ak _ _ hj))
 rcases List.mem_cons.mp z with z | z
 ·exact n1 z
 rcases List.mem_cons.mp z with z | z
 ·exact n2 z
 ·exact Nat.not_lt.mpr (List.mem_range'_1.mp (show j∈List.range' τ.next 9 from z)).1 hj
theorem OR(n m:Nat){ts:List Txt}(hne:ts≠[])(hf:∀ t∈ts,10∉t)(hl:(jl ts).length≤100000)(hn:ts.length≤1000){st:St}(hlo:st.lo=0)(hro:st.ro=0){σ1 σ2:PS}
  (w1:Walks m 0 (numbered 0 ts) 0 (F1 false [] [] []) σ1) (w2:Walks m 0 (numbered 0 ts) 0 (F1 true σ1.sk σ1.sv σ1.sizes) σ2)
  (hnd:σ1.sk.Nodup) (hlen:σ1.sk.length=σ1.sv.length) (hcon:∀ k∈σ1.sk,σ1.fk.contains k=true) :
  ∃ st' md oc er,AP CT FT (n+3*m+18) 633 [.str (jl ts),.fn 658] st=some (.ref md,st')∧Made st st' md oc er σ2.octs:=by
 have hrows:=OT (n+3*m+15) hne hf hl hn st;have hRl:(numbered 0 ts).length≤1000:=by rw[Gu];exact hn
 generalize numbered 0 ts=R at hrows w1 w2 hRl;generalize jl ts=src at hrows;rfl';refine W6 (KY n (τ:=AW st [.dict [] [],.list []]) (sy:=st.next) (sz:=st.next+1) (last:=false) (A0 st _) (BB st _ 1) hlo hro (Nat.ne_of_lt (Nat.lt_succ_self _)) (Nat.zero_le _) (Nat.zero_le _) hRl w1) fun τ1 τ2 p1 m1 k1 h2 YW nx2 od2=>?_;rw[A7] at p1 m1 k1 h2 nx2 od2;generalize hJ:PH st.next (st.next+1) (st.next+[O.dict [] [],O.list []].length)=J at h2;have js:J.sy=st.next∧J.sz=st.next+1∧J.ps=st.next+[O.dict [] [],O.list []].length∧J.fx=J.ps+1:=by subst hJ;exact⟨rfl,rfl,rfl,rfl⟩
 rw[← js.2.2.1] at p1 m1 k1 nx2 od2;have e3:EB .NotEq (.ref J.er) (.ref τ2.next) (AW τ2 [.list []])=some false:=by
  have g1:(AW τ2 [.list []]).get J.er=some (.list []):=(Ak τ2 [.list []] (get_lt h2.er)).trans h2.er;show(match AD (AW τ2 [.list []]) (.ref J.er),AD (AW τ2 [.list []]) (.ref τ2.next) with | some xs,some ys=>(match decide (xs.length=ys.length) with | true=>C7 xs ys | false=>some false) | _,_=>none).map (!·)=_
  rw[Dc g1,Dc (A0 τ2 [.list []])];rfl
 have h3:Holds J σ1 (AW τ2 [.list [],.dict [] []]):=h2.same h2.ro (by rw[A7];exact Nat.le_add_right _ _) fun j hj=>Ak _ _ hj
 have gk:(AW τ2 [.list [],.dict [] []]).get (τ2.next+1)=some (.dict [] []):=BB τ2 _ 1;have nx3:(AW τ2 [.list [],.dict [] []]).next=τ2.next+2:=A7 _ _;have ro3:(AW τ2 [.list [],.dict [] []]).ro=0:=h2.ro;have Xk:(AW τ2 [.list [],.dict [] []]).lo=0:=YW;have fr3:∀ j,j<τ2.next→(AW τ2 [.list [],.dict [] []]).get j=τ2.get j:=fun j hj=>Ak _ _ hj;have kne:∀ j,j<τ2.next→τ2.next+1≠j:=fun j hj z=>Nat.not_lt.mpr (Nat.le_succ _) (z▸hj);have al1:τ2.next=τ2.next∧τ2.add (.list [])=AW τ2 [.list []]:=⟨rfl,rfl⟩;have al2:=Ri τ2 [.list []] (.dict [] []);generalize hτ3:AW τ2 [.list [],.dict [] []]=τ3 at h3 gk nx3 ro3 Xk fr3;rw[show [O.list []]++[O.dict [] []]=[O.list [],.dict [] []] from rfl,hτ3] at al2
 have hlk:(B5 τ3 (.ref J.sy)).ro≤τ2.next+1:=Nat.max_le.mpr ⟨by rw[ro3];exact Nat.zero_le _,Nat.le_succ_of_le (get_lt h2.sy)⟩
 refine x26 (OC (C:=AP CT FT (n+3*m+17)) (fun μ st=>exs CT (AP CT FT (n+3*m+17)) μ st CJ) (fun _ _=>rfl) (ps:=J.ps) (kd:=τ2.next+1) (fx:=J.fx) (sy:=J.sy) (.str src) (.fn 658) (.lst (BL R)) none none none (kne _ (get_lt h2.ps)) (kne _ (get_lt h2.fx)) (kne _ (get_lt h2.sy)) hnd hlen hcon h3.b1 0 (Nat.zero_le _) _ hlk σ1.sk [] σ1.sv [] (B5 τ3 (.ref J.sy)) none rfl rfl rfl Xk rfl (BE h3.at23 rfl) (BE h3.at15 rfl) h3.fx h3.sy gk) fun u5 τ4 q1 q2 q3 q4 q5 q6=>?_;have it:Bo τ3 .plain (.loc 5) (.ref J.sy) .none=some (Ag σ1.sk,.ref J.sy):=by
  show(match τ3.get J.sy with | some (.list xs)=>some xs | some (.dict ks _)=>some (ks.map V.str) | _=>none).map _=_
  rw[h3.sy];rfl
 have g5:∀ j,j≠τ2.next+1→(Aa τ3.ro τ4).get j=τ3.get j:=q6;have c20:=BE (st':=Aa τ3.ro τ4) h3.at20 (g5 _ (kne _ (get_lt h2.ps)).symm);refine W6 (KY n (τ:=Aa τ3.ro τ4) (sy:=τ2.next+1) (sz:=J.sz) (last:=true) q2 ((g5 _ (kne _ (get_lt h2.sz)).symm).trans h3.sz) q3 ro3 (kne _ (get_lt h2.sz)) h3.b1 h3.b4 hRl w2) fun τ6 τ7 p2 m2 k2 h7 lo7 nx7 od7=>?_;have nx5:(Aa τ3.ro τ4).next=τ2.next+2:=q5.trans nx3;generalize h5:Aa τ3.ro τ4=τ5 at g5 c20 p2 m2 k2 h7 nx7 od7 nx5;generalize hK:PH (τ2.next+1) J.sz τ5.next=K at h7;have ks:K.ps=τ5.next∧K.md=τ5.next+4:=by subst hK;exact⟨rfl,rfl⟩
 rw[← ks.1] at p2 m2 k2;have sset:=BG (f:=15) (v:=.ref K.sy) h7.md (show A5 CT 453=true from rfl) rfl (by decide) (show(Nat.ble τ7.ro K.md&&(Nat.ble τ7.lo K.md||_))=true by rw[h7.ro,lo7];rfl)
 have mdg:=AJ (o:=.inst 453 [14,15,16,17,18] [.ref K.oc,.ref K.sy,.ref K.ls,.ref K.er,.none]) (get_lt h7.md);have nm:∀{i a},K.l[i]?=some a→i≠6→K.md≠a:=fun ha hi z=>Hl h7.nd ha (j:=6) rfl hi z.symm;have e31:=BE (st':=τ7.put K.md (.inst 453 [14,15,16,17,18] [.ref K.oc,.ref K.sy,.ref K.ls,.ref K.er,.none])) h7.at31 (AA (nm (i:=2) rfl (by decide)))
 have lt2:st.next+2<τ2.next:=by rw[nx2,js.2.2.1];exact Nat.lt_add_of_pos_right (show 0<9 by decide)
 exact⟨_,K.md,K.oc,K.er,KU 2 9 GA [.m hrows,.al (st:=st) (o:=.dict [] []) (i:=st.next) (st':=AW st [.dict [] []]) ⟨rfl,rfl⟩,NI st [.dict [] []] (.list []),.m p1,.mo m1,.m k1,.o h2.at31,.o (AZ (ok:=A5 CT) (f:=17) (v:=.ref J.er) h2.md rfl rfl rfl),.al al1,.o1 e3,.al al2,
   .o h3.at15,.i it,.f q1,.gu (Bf (Ag σ1.sk).length (by unfold Ag;rw[List.length_map];have:=h3.b1;exact o7 this)),.st (s':=τ5) h5,.o c20,.m p2,.mo m2,.m k2,.o h7.at15,.o h7.at31,.u sset,.o e31] rfl rfl (by kernel_rfl),
  ⟨AZ mdg rfl rfl rfl,AZ mdg rfl rfl rfl,(AA (nm (i:=7) rfl (by decide))).trans h7.oc,(AA (nm (i:=10) rfl (by decide))).trans h7.er,lo7,h7.ro,by rw[A8,nx7,nx5];exact Nat.le_trans (Nat.le_of_lt (Nat.lt_trans (Nat.lt_succ_of_lt (Nat.lt_succ_self _)) lt2)) (Nat.le_trans (Nat.le_add_right _ 2) (Nat.le_add_right _ 9)),fun j hj=>by
   have j2:=Nat.lt_trans (Nat.lt_succ_of_lt (Nat.lt_succ_of_lt hj)) lt2;have j3:j<τ5.next:=by rw[nx5];exact Nat.lt_add_right 2 j2
   exact(AA (by rw[ks.2];exact(Nat.ne_of_lt (Nat.lt_add_right 4 j3)).symm)).trans ((od7 j j3 (Nat.ne_of_lt (Nat.lt_succ_of_lt j2)) (by rw[js.2.1];exact Nat.ne_of_lt (Nat.lt_succ_of_lt hj))).trans ((g5 j (Nat.ne_of_lt (Nat.lt_succ_of_lt j2))).trans ((fr3 j j2).trans ((od2 j (by rw[js.2.2.1];exact Nat.lt_add_right _ hj) (Nat.ne_of_lt hj) (Nat.ne_of_lt (Nat.lt_succ_of_lt hj))).trans (Ak _ _ hj))))),by rw[A8];exact get_lt h7.md⟩⟩
end SL30
section SL31
open PySem
noncomputable def JW(c:Nat)(r:Txt):Option (Tk×Nat):=match Ca c||B4 c r with
 | true=>match F7 c r with
  | some (x,k)=>some (.num x,k)
  | none=>none
 | false=>match Au c with
  | true=>match decide (Ez ((c::r).take (AB (c::r)))=[65,70])&&decide (((c::r).drop (AB (c::r))).take 1=[39]) with
   | true=>some (.name [65,70,39],AB (c::r)+1)
   | false=>some (.name (Ez ((c::r).take (AB (c::r)))),AB (c::r))
  | false=>match ([39,34]:Txt).contains c with
   | true=>none
   | false=>match FF ((c::r).take 2) [[60,62],[60,61],[62,61]] with
    | true=>none
    | false=>match SG.contains c with
     | true=>some (.sign c,1)
     | false=>none
theorem lt1{a b:Nat}(h:min 1 (a - b)=0+1):b+1≤a:=Nat.lt_of_sub_pos (Nat.lt_of_lt_of_le (Nat.lt_of_lt_of_eq Nat.zero_lt_one h.symm) (Nat.min_le_right _ _))
theorem VA(c:Nat)(r:Txt):HB c r=(JW c r).map fun p=>(p.1.v,p.2):=by
 unfold HB JW;cases Ca c||B4 c r with
 | true =>
  dsimp only;cases F7 c r with
  | none=>rfl
  | some p=>rfl
 | false =>
  dsimp only;cases Au c with
  | true=>dsimp only;cases decide (Ez ((c::r).take (AB (c::r)))=[65,70])&&decide (((c::r).drop (AB (c::r))).take 1=[39])<;>rfl
  | false =>
   dsimp only;cases ([39,34]:Txt).contains c with
   | true=>rfl
   | false =>
    dsimp only;cases FF ((c::r).take 2) [[60,62],[60,61],[62,61]] with
    | true=>rfl
    | false=>dsimp only;cases SG.contains c<;>rfl
noncomputable def CS:Nat→Txt→Option (List Tk)
 | 0,_=>none
 | _+1,[]=>some []
 | k+1,c::r=>match decide ([c]=[59]) with
  | true=>some []
  | false=>match ([32,9,13]:Txt).contains c with
   | true=>CS k r
   | false=>match JW c r with
    | none=>none
    | some (t,m)=>match CS k ((c::r).drop m) with
     | some ts=>some (t::ts)
     | none=>none
theorem HC{k c:Nat}{r:Txt}:CS (k+1) (c::r)=(match decide ([c]=[59]) with | true=>some [] | false=>match ([32,9,13]:Txt).contains c with | true=>CS k r | false=>match JW c r with | none=>none | some (t,m)=>match CS k ((c::r).drop m) with | some ts=>some (t::ts) | none=>none):=rfl
theorem Tj:∀(k:Nat) (s:Txt) {l:List Tk},CS k s=some l→toks k s=some (EU l):=by
 intro q1_
 induction q1_ with
 | zero=>intro _ _ h;cases h
 | succ k ih_ =>
  intro q2_;cases q2_ with
  | nil=>intro l h;cases h;rfl
  | cons c r =>
   intro l h;rw[HC] at h;rw[WZ];cases q1:decide ([c]=[59]) with
   | true=>rw[q1] at h;cases h;rfl
   | false =>
    rw[q1] at h;dsimp only at h ⊢;cases q2:([32,9,13]:Txt).contains c with
    | true=>rw[q2] at h;exact ih_ r h
    | false =>
     rw[q2] at h;dsimp only at h ⊢;rw[VA];cases q3:JW c r with
     | none=>rw[q3] at h;cases h
     | some p =>
      obtain⟨t,m⟩:=p;rw[q3] at h;dsimp only[Option.map] at h ⊢;cases q4:CS k ((c::r).drop m) with
      | none=>rw[q4] at h;cases h
      | some ts=>rw[q4] at h;cases h;rw[ih_ _ q4];rfl
noncomputable def Jq(text:Txt):Option Rd:=(CS 60 text).bind fun l=>bif decide (l.length<39)&&decide (text.length≤100) then TK text l else none
theorem DZ{text:Txt}{d:Rd}(h:Jq text=some d):By text d:=by
 unfold Jq at h;cases q:CS 60 text with
 | none=>rw[q] at h;cases h
 | some l =>
  rw[q] at h;dsimp only[Option.bind] at h;refine bF h (fun h q1=>?_) (fun h q1=>?_)
  ·cases h
  ·simp only[Bool.and_eq_true,decide_eq_true_eq] at q1;exact y25 60 l (Tj 60 text q) (by decide) q1.1 (by exact bS q1) h
theorem Us{text:Txt}{d:Rd}(h:Jq text=some d):text.length≤100:=by
 unfold Jq at h;cases q:CS 60 text with
 | none=>rw[q] at h;cases h
 | some l =>
  rw[q] at h;dsimp only[Option.bind] at h;cases q1:decide (l.length<39)&&decide (text.length≤100) with
  | false=>rw[q1] at h;cases h
  | true=>simp only[Bool.and_eq_true,decide_eq_true_eq] at q1;exact q1.2
theorem Y5:BW 44=false:=by decide
theorem Tm(r q:Txt):(r++44::q).takeWhile BW=r.takeWhile BW:=by
 induction r with
 | nil=>rw[List.nil_append,List.takeWhile_cons,Y5];rfl
 | cons c r ih=>rw[List.cons_append,List.takeWhile_cons,List.takeWhile_cons,ih]
theorem F6(r q:Txt):AB (r++44::q)=AB r:=by unfold AB;rw[Tm]
theorem Gs(r:Txt):AB r≤r.length:=by unfold AB;exact(List.takeWhile_prefix _).length_le
theorem Dj(r q:Txt){n:Nat}(h:n≤r.length):(r++44::q).take n=r.take n:=List.take_append_of_le_length h
theorem E6(r q:Txt){n:Nat}(h:n≤r.length):(r++44::q).drop n=r.drop n++44::q:=List.drop_append_of_le_length h
theorem JM(c:Nat)(r q:Txt):B4 c (r++44::q)=B4 c r:=by
 cases r with
 | nil =>
  show B4 c (44::q)=false;unfold B4;have h1:K9.contains (GQ 44)=false:=by decide
  have h2:(decide ([48]=[GQ 44])||decide ([49]=[GQ 44]))=false:=by decide
  dsimp only;rw[h1,h2,Bool.and_false];cases decide ([c]=[36])<;>rfl
 | cons d r=>rfl
theorem Qz(c:Nat)(r q:Txt):F7 c (r++44::q)=F7 c r:=by unfold F7;have e1:c::(r++44::q)=(c::r)++44::q:=rfl;rw[e1,F6,F6,Dj r q (Gs r),Dj (c::r) q (Gs (c::r))]
theorem WK{c:Nat}{r:Txt}{x:Int}{k:Nat}(h:F7 c r=some (x,k)):k≤r.length+1:=by
 unfold F7 at h;have h1:=Gs r;have h2:=Gs (c::r);rfl';split at h
 ·split at h
  ·cases (h)
  ·split at h
   ·split at h
    ·cases (h)
    ·cases h;exact Xn h1
   ·cases (h)
 ·split at h
  ·cases (h)
  ·split at h
   ·split at h
    ·cases (h)
    ·cases h;exact h2
   ·cases (h)
theorem Hs(r q:Txt):decide ((r++44::q).take 1=[39])=decide (r.take 1=[39]):=by
 cases r with
 | nil=>rfl
 | cons d r=>rfl
theorem R4{c:Nat}{r q:Txt}{t:Tk}{m:Nat}(h:JW c r=some (t,m))(h2:c≠60∧c≠62):JW c (r++44::q)=some (t,m)∧m≤r.length+1:=by
 have hl:=Gs (c::r);have e1:c::(r++44::q)=(c::r)++44::q:=rfl;have two:FF ((c::(r++44::q)).take 2) [[60,62],[60,61],[62,61]]=false:=by
  have key:∀ x:Txt,FF (c::x) [[60,62],[60,61],[62,61]]=false:=fun x=>by unfold FF FF FF FF;simp [h2.1.symm,h2.2.symm]
  exact key _
 unfold JW at h ⊢;rw[JM,Qz,two,e1,F6,Dj (c::r) q hl,E6 (c::r) q hl,Hs];refine⟨?_,?_⟩
 ·cases q1:Ca c||B4 c r with
  | true=>rw[q1] at h;exact h
  | false =>
   rw[q1] at h;dsimp only at h ⊢;cases q2:Au c with
   | true=>rw[q2] at h;exact h
   | false =>
    rw[q2] at h;dsimp only at h ⊢;cases q3:([39,34]:Txt).contains c with
    | true=>rw[q3] at h;cases h
    | false =>
     rw[q3] at h;dsimp only at h ⊢;split at h
     ·cases h
     ·exact h
 ·rw[List.length_cons] at hl;cases q1:Ca c||B4 c r with
  | true =>
   rw[q1] at h;dsimp only at h;cases q4:F7 c r with
   | none=>rw[q4] at h;cases h
   | some p=>obtain⟨x,k⟩:=p;rw[q4] at h;cases h;exact WK q4
  | false =>
   rw[q1] at h;dsimp only at h;cases q2:Au c with
   | true =>
    rw[q2] at h;dsimp only at h;split at h
    ·rename_i hc;cases h;simp only[Bool.and_eq_true,decide_eq_true_eq] at hc;have:=congrArg List.length hc.2;rw[List.length_take,List.length_drop,List.length_cons,List.length_cons,List.length_nil] at this;exact lt1 this
    ·cases h;exact hl
   | false =>
    rw[q2] at h;dsimp only at h;split at h
    ·cases h
    ·split at h
     ·cases h
     ·split at h
      ·cases h;exact b9
      ·cases h
theorem Oj:∀(k1:Nat) (p q:Txt) {l1 l2:List Tk} {k2:Nat},CS k1 p=some l1→CS k2 q=some l2→(∀ c∈p,c≠59∧c≠60∧c≠62)→∃ k,k≤k1+k2+1∧CS k (p++44::q)=some (l1++.sign 44::l2):=by
 intro q1_
 induction q1_ with
 | zero=>intro _ _ _ _ _ h _ _;cases h
 | succ k1 ih_ =>
  intro q2_;cases q2_ with
  | nil =>
   intro q l1 l2 k2 h1 h2 _;cases h1;refine⟨k2+1,by exact o76,?_⟩
   show CS (k2+1) (44::q)=some (.sign 44::l2);rw[HC];have e1:decide (([44]:Txt)=[59])=false:=by decide
   have e2:([32,9,13]:Txt).contains 44=false:=by decide
   have e3:JW 44 q=some (.sign 44,1):=by
    have hp:B4 44 q=false:=by
     cases q with
     | nil=>rfl
     | cons d q=>unfold B4;rfl
    unfold JW;rw[hp];have hi:FF ((44::q).take 2) [[60,62],[60,61],[62,61]]=false:=by
     have key:∀ x:Txt,FF (44::x) [[60,62],[60,61],[62,61]]=false:=fun x=>by unfold FF FF FF FF;simp
     exact key _
    rfl
   rw[e1,e2,e3];show(match CS k2 q with
    | some ts=>some (Tk.sign 44::ts)
    | none=>none)=_
   rw[h2]
  | cons c r =>
   intro q l1 l2 k2 h1 h2 h3;rfl';refine L2 (h3 c (by simp)) fun n1 n2 n3=>?_
   rw[HC] at h1;have e1:decide ([c]=[59])=false:=decide_eq_false (fun z=>n1 (by simpa using z))
   rw[e1] at h1;refine bT h1 (fun h1 q2=>?_) (fun h1 q2=>?_)
   ·refine BA (ih_ r q h1 h2 fun x hx=>h3 x (by simp [hx])) fun k hk e=>?_
    refine⟨k+1,by exact Xm hk,?_⟩
    show CS (k+1) (c::(r++44::q))=_;rw[HC];rw[e1,q2];exact e
   ·cases q3:JW c r with
    | none=>rw[q3] at h1;cases h1
    | some tm =>
     obtain⟨t,m⟩:=tm;rw[q3] at h1;dsimp only at h1;cases q4:CS k1 ((c::r).drop m) with
     | none=>rw[q4] at h1;cases h1
     | some ts =>
      rw[q4] at h1;cases h1;obtain⟨g1,g2⟩:=R4 (q:=q) q3 ⟨n2,n3⟩;refine BA (ih_ ((c::r).drop m) q q4 h2 fun x hx=>h3 x (List.mem_of_mem_drop hx)) fun k hk e=>?_;refine Ft (k+1) (by exact Xm hk) ?_
      show CS (k+1) (c::(r++44::q))=_;rw[HC];rw[e1,q2,g1];dsimp only;rw[show c::(r++44::q)=(c::r)++44::q from rfl,E6 (c::r) q (by rw[List.length_cons];exact g2),e]
      rfl
theorem Ij(c:Nat)(r q:Txt):AH c (r++44::q)=AH c r:=by
 have hk:BD c (r++44::q)=BD c r:=by unfold BD;rw[JM,F6,show c::(r++44::q)=(c::r)++44::q from rfl,F6]
 have hle:BD c r≤(c::r).length:=by
  unfold BD;have h1:=Gs r;have h2:=Gs (c::r);cases B4 c r
  ·exact h2
  ·exact Xn h1
 unfold AH;rw[hk,show c::(r++44::q)=(c::r)++44::q from rfl,Dj _ q hle,E6 _ q hle,Hs]
theorem Oo(c:Nat)(r:Txt):AH c r≤(c::r).length:=by
 have hle:BD c r≤(c::r).length:=by
  unfold BD;have h1:=Gs r;have h2:=Gs (c::r);cases B4 c r
  ·exact h2
  ·exact Xn h1
 unfold AH;split
 ·rename_i hc;simp only[Bool.and_eq_true,decide_eq_true_eq] at hc;have:=congrArg List.length hc.2;rw[List.length_take,List.length_drop,List.length_cons,List.length_cons,List.length_nil] at this;exact lt1 this
 ·exact hle
set_option tactic.hygienic true in
theorem RG(ks:List Txt)(vs:List V):∀(k1:Nat) (p q:Txt) {y1 y2:Txt} {k2:Nat},EF ks vs k1 p=some y1→EF ks vs k2 q=some y2→∃ k,k≤k1+k2+1∧EF ks vs k (p++44::q)=some (y1++44::y2):=by
 intro q1_
 induction q1_ with
 | zero=>intro _ _ _ _ _ h _;cases h
 | succ k1 ih_ =>
  intro q2_;cases q2_ with
  | nil =>
   intro q y1 y2 k2 h1 h2;cases h1;refine⟨k2+1,by exact o76,?_⟩
   show EF ks vs (k2+1) (44::q)=some (44::y2);have ha:AH 44 q=0:=by
    have hp:B4 44 q=false:=by
     cases q with
     | nil=>rfl
     | cons d q=>unfold B4;rfl
    have hn:AB (44::q)=0:=by unfold AB;rfl
    have hk:BD 44 q=0:=by unfold BD;rw[hp];exact hn
    unfold AH;rw[hk];rfl
   rw[LC];rw[ha];have e1:decide (0<0)=false:=rfl;have e2:([39,34,38]:Txt).contains 44=false:=by decide
   rw[e1,e2];dsimp only;rw[h2]
  | cons c r =>
   intro q y1 y2 k2 h1 h2;rfl';refine bT h1 (fun h1 q1=>?_) (fun h1 q1=>?_)
   ·split at h1
    ·rename_i x hx;cases q4:EF ks vs k1 ((c::r).drop (AH c r)) with
     | none=>rw[q4] at h1;cases h1
     | some y =>
      rw[q4] at h1;cases h1;refine BA (ih_ _ q q4 h2) fun k hk e=>?_;refine Ft (k+1) (by exact Xm hk) ?_
      show EF ks vs (k+1) (c::(r++44::q))=_;rw[LC];rw[Ij,q1,show c::(r++44::q)=(c::r)++44::q from rfl,Dj _ q (Oo c r),E6 _ q (Oo c r)]
      dsimp only;rw[hx,e];simp
    ·cases h1
   ·rfl';cases q3:([39,34,38]:Txt).contains c with
    | true=>rw[q3] at h1;cases h1
    | false =>
     rw[q3] at h1;dsimp only at h1;cases q4:EF ks vs k1 r with
     | none=>rw[q4] at h1;cases h1
     | some y =>
      rw[q4] at h1;cases h1;refine BA (ih_ r q q4 h2) fun k hk e=>?_;refine⟨k+1,by exact Xm hk,?_⟩
      show EF ks vs (k+1) (c::(r++44::q))=_;rw[LC];rw[Ij,q1,q3];rw[e];rfl
noncomputable def OQ(ks:List Txt):Nat→Txt→Bool
 | 0,_=>false
 | _+1,[]=>true
 | k+1,c::r=>match decide (0<AH c r) with
  | true=>!ks.contains (Ez ((c::r).take (AH c r)))&&OQ ks k ((c::r).drop (AH c r))
  | false=>!([39,34,38]:Txt).contains c&&OQ ks k r
theorem WP{ks:List Txt}{k c:Nat}{r:Txt}:OQ ks (k+1) (c::r)=(match decide (0<AH c r) with | true=>!ks.contains (Ez ((c::r).take (AH c r)))&&OQ ks k ((c::r).drop (AH c r)) | false=>!([39,34,38]:Txt).contains c&&OQ ks k r):=rfl
theorem Oz:∀{ks:List Txt} {vs:List V} {k:Txt},ks.contains k=false→Aq ks vs k=none:=by
 intro q1_
 induction q1_ with
 | nil=>intro _ _ _;rfl
 | cons a ks ih_ =>
  intro q2_;cases q2_ with
  | nil=>intro _ _;rfl
  | cons b vs =>
   intro k h;rw[List.contains_cons,Bool.or_eq_false_iff] at h;have hak:decide (a=k)=false:=decide_eq_false fun z=>by rw[z] at h;simp at h
   rw[DK];rw[hak];exact ih_ h.2
theorem WQ(ks:List Txt)(vs:List V):∀(k:Nat) (q:Txt),OQ ks k q=true→EF ks vs k q=some q:=by
 intro q1_
 induction q1_ with
 | zero=>intro _ h;cases h
 | succ k ih_ =>
  intro q2_;cases q2_ with
  | nil=>intro _;exact rfl
  | cons c r =>
   intro h;rw[WP] at h;rw[LC];cases q1:decide (0<AH c r) with
   | true=>rw[q1] at h;rw[Bool.and_eq_true,Bool.not_eq_true'] at h;rw[Oz h.1];dsimp only[Option.getD];rw[ih_ _ h.2];simp
   | false=>rw[q1] at h;rw[Bool.and_eq_true,Bool.not_eq_true'] at h;rw[h.1];dsimp only;rw[ih_ _ h.2]
end SL31
section SL32
open PySem
noncomputable def dn(n:Nat):Txt:=Bb (n:Int)
noncomputable def K6:Txt:=[66,89,84,69]
noncomputable def Rb:Txt:=[72,69,88]
noncomputable def Fh:Txt:=[83,87,65,80]
noncomputable def K7:Txt:=[72,65,78,68]
noncomputable def G2:Txt:=[77,65,75,69,82]
noncomputable def CN:Txt:=[73,78,78,69,82]
noncomputable def xH:Txt:=[72]
noncomputable def xB:Txt:=[66]
noncomputable def xA:Txt:=[65]
noncomputable def xP:Txt:=[80]
noncomputable def xQ:Txt:=[81]
noncomputable def xN:Txt:=[78]
noncomputable def xM:Txt:=[77]
noncomputable def xL:Txt:=[76]
noncomputable def lw(s:Txt):Option (Option Txt×Txt):=(Jq s).map fun d=>(d.lab,d.word)
noncomputable def VK(w s:Txt):Option (List Txt):=(HA w 60 (Ez s) s).bind fun x=>bif decide (x.length≤100) then EH 60 x [] else none
noncomputable def Ec(w s:Txt)(ts:List Txt):Bool:=decide (lw s=some (none,w))&&decide (VK w s=some ts)
noncomputable def Cg(ks:List Txt)(gs:List Txt)(s y:Txt):Bool:=decide (EF ks (gs.map .str) 60 s=some y)&&decide (s.length≤100)&&decide (y.length≤100)
noncomputable def F3(s:Txt)(ops:List Tk):Bool:=decide (Jq s=some ⟨none,Af,Av ops⟩)
noncomputable def Lb(n:Nat):Txt:=[32,66,89,84,69,32]++(dn n++[44,55])
noncomputable def SE(n:Nat):Txt:=[32,72,69,88,32]++dn n
noncomputable def Ld(n:Nat):Txt:=[32,83,87,65,80,32,65,70,39,44,32,65,70,32,44]++dn n
noncomputable def Lc(n:Nat):Txt:=[32,104,97,110,100,32]++dn n
noncomputable def E4(n:Nat):Txt:=[32,77,65,75,69,82,32]++dn n
noncomputable def DJ(n:Nat):Txt:=[32,73,78,78,69,82,32]++dn n
noncomputable def OG:Txt:=[66,89,84,69,32,77,65,67,82,79,32,72,44,66]
noncomputable def GT:Txt:=[32,84,69,76,76,32,49,48,72,44,49,48,49,66,44,72,44,66]
noncomputable def Su:Txt:=[72,69,88,32,77,65,67,82,79,32,65]
noncomputable def JJ:Txt:=[32,84,69,76,76,32,36,65,44,65,44,48,65,48,72,44,37,49]
noncomputable def OI:Txt:=[83,87,65,80,32,77,65,67,82,79,32,80,44,81,44,78]
noncomputable def Ed:Txt:=[32,84,69,76,76,32,80,44,81,44,78]
noncomputable def OH:Txt:=[72,65,78,68,32,77,65,67,82,79,32,78]
noncomputable def GU:Txt:=[32,83,87,65,80,32,65,70,44,97,102,39,44,78]
noncomputable def IX:Txt:=[77,65,75,69,82,32,77,65,67,82,79,32,78]
noncomputable def Du:Txt:=[32,84,69,76,76,32,78]
noncomputable def CI:Txt:=[73,78,78,69,82,32,77,65,67,82,79,32,77]
noncomputable def Bu:Txt:=[32,76,79,67,65,76,32,76]
noncomputable def Dv:Txt:=[76,58,32,84,69,76,76,32,77,44,78]
noncomputable def Bv:Txt:=[32,84,69,76,76,32,76]
noncomputable def Bp:Txt:=[32,69,78,68,77]
noncomputable def SV(n:Nat):Txt:=[32,84,69,76,76,32,49,48,72,44,49,48,49,66,44]++(dn n++[44,55])
noncomputable def TC(n:Nat):Bool:=Ec K6 (Lb n) [dn n,[55]]&&Cg [xH,xB] [dn n,[55]] GT (SV n)&&F3 (SV n) [.num 16,.num 5,.num n,.num 7]
noncomputable def Va(n:Nat):Txt:=[32,84,69,76,76,32,36,65,44]++(dn n++[44,48,65,48,72,44,37,49])
noncomputable def VP(n:Nat):Bool:=Ec Rb (SE n) [dn n]&&Cg [xA] [dn n] JJ (Va n)&&F3 (Va n) [.num 10,.num n,.num 160,.num 1]
noncomputable def SX(n:Nat):Txt:=[32,84,69,76,76,32,65,70,39,44,65,70,44]++dn n
noncomputable def TE(n:Nat):Bool:=Ec Fh (Ld n) [[65,70,39],[65,70],dn n]&&Cg [xP,xQ,xN] [[65,70,39],[65,70],dn n] Ed (SX n)&&F3 (SX n) [.name [65,70,39],.name [65,70],.num n]
noncomputable def SW(n:Nat):Txt:=[32,83,87,65,80,32,65,70,44,97,102,39,44]++dn n
noncomputable def S4(n:Nat):Txt:=[32,84,69,76,76,32,65,70,44,97,102,39,44]++dn n
noncomputable def TD(n:Nat):Bool:=Ec K7 (Lc n) [dn n]&&Cg [xN] [dn n] GU (SW n)&&Ec Fh (SW n) [[65,70],[97,102,39],dn n]&&Cg [xP,xQ,xN] [[65,70],[97,102,39],dn n] Ed (S4 n)&&F3 (S4 n) [.name [65,70],.name [65,70,39],.num n]
noncomputable def Kg(n:Nat):Txt:=[32,84,69,76,76,32]++dn n
noncomputable def E8(n:Nat):Txt:=[76,58,32,84,69,76,76,32,77]++44::dn n
noncomputable def I2(n:Nat):Bool:=Ec G2 (E4 n) [dn n]&&Cg [xN] [dn n] Du (Kg n)&&Cg [xN] [dn n] CI CI&&Cg [xN] [dn n] Bu Bu&&Cg [xN] [dn n] Dv (E8 n)&&Cg [xN] [dn n] Bv Bv&&Cg [xN] [dn n] Bp Bp &&
 F3 (Kg n) [.num n]&&decide (lw (E8 n)=some (some xL,Af))&&OQ [xM,xL] 10 (dn n)&&decide (CS 10 (dn n)=some [.num n])&&decide ((dn n).length≤5)&&!(dn n).contains 10
noncomputable def pL:Txt:=[76,58,32,84,69,76,76,32,77]
noncomputable def VJ(s m:Nat):Txt:=AL s++([58,32,84,69,76,76,32]++dn m)
noncomputable def Xh(s:Nat):Txt:=[32,84,69,76,76,32]++AL s
noncomputable def P0(m:Nat):Bool:=Ec CN (DJ m) [dn m]
noncomputable def WL(s m:Nat):Bool:=Cg [xM,xL] [dn m,AL s] pL (VJ s m)&&Cg [xM,xL] [dn m,AL s] Bv (Xh s)&&decide (CS 40 (VJ s m)=some [.name (AL s),.sign 58,.name Af,.num m])&&(VJ s m).all (fun c=>!decide (c=59)&&!decide (c=60)&&!decide (c=62))
noncomputable def okS(s:Nat):Bool:=F3 (Xh s) [.name (AL s)]&&Op.ok (.lab (AL s))&&decide ((Bb (10000+(s:Int))).length≤1000)&&decide ((AL s).take 1=[63])
noncomputable def okM:Bool:=decide (Jq OG=some ⟨some K6,BF,Av [.name xH,.name xB]⟩)&&decide (Jq Su=some ⟨some Rb,BF,Av [.name xA]⟩)&&decide (Jq OI=some ⟨some Fh,BF,Av [.name xP,.name xQ,.name xN]⟩)&&decide (Jq OH=some ⟨some K7,BF,Av [.name xN]⟩)&&decide (Jq IX=some ⟨some G2,BF,Av [.name xN]⟩) &&
 decide (Jq CI=some ⟨some CN,BF,Av [.name xM]⟩)&&decide (Jq Bu=some ⟨none,CZ,Av [.name xL]⟩) &&
 decide (lw GT=some (none,Af))&&decide (lw JJ=some (none,Af))&&decide (lw Ed=some (none,Af))&&decide (lw GU=some (none,Fh))&&decide (lw Du=some (none,Af))&&decide (lw Dv=some (some xL,Af))&&decide (lw Bv=some (none,Af))&&decide (lw Bp=some (none,Ey))
theorem Rj:(List.range 200).all TC=true:=by decide +kernel
theorem UA:(List.range 200).all VP=true:=by decide +kernel
theorem Rm:(List.range 200).all TE=true:=by decide +kernel
theorem Rk:(List.range 200).all TD=true:=by decide +kernel
theorem HK:(List.range 200).all I2=true:=by decide +kernel
theorem Pj:(List.range 100).all P0=true:=by decide +kernel
theorem Rl:(List.range 5).all (fun s=>(List.range 100).all (WL s))=true:=by decide +kernel
theorem Wl:(List.range 5).all okS=true:=by decide +kernel
theorem Wk:okM=true:=by decide +kernel
theorem Ae{f:Nat→Bool}{k n:Nat}(h:(List.range k).all f=true)(hn:n<k):f n=true:=List.all_eq_true.mp h n (List.mem_range.mpr hn)
theorem Vb{s w:Txt}{x:Option Txt}(h:lw s=some (x,w)):∃ d,By s d∧d.lab=x∧d.word=w∧s.length≤100:=by
 unfold lw at h;cases q:Jq s with
 | none=>rw[q] at h;cases (h)
 | some d=>rw[q] at h;cases (h);exact⟨d,DZ q,rfl,rfl,Us q⟩
theorem DM{s w:Txt}{x:Option Txt}(h:lw s=some (x,w)):FI s w:=by obtain⟨d,h1,_,h2,_⟩:=Vb h;exact⟨d,h1,h2⟩
structure CallAt(w s:Txt)(ts:List Txt)(d:Rd)(x:Txt):Prop where
 rd:By s d
 lab:d.lab=none
 word:d.word=w
 len:s.length≤100
 tail:HA w 60 (Ez s) s=some x
 xlen:x.length≤100
 split:EH 60 x []=some ts
theorem GR{w s:Txt}{ts:List Txt}(h:Ec w s ts=true):∃ d x,CallAt w s ts d x:=by
 unfold Ec at h;simp only[Bool.and_eq_true,decide_eq_true_eq] at h;obtain⟨h1,h2⟩:=h;obtain⟨d,r1,r2,r3,r4⟩:=Vb h1;unfold VK at h2;cases q:HA w 60 (Ez s) s with
 | none=>rw[q] at h2;cases (h2)
 | some x =>
  rw[q] at h2;dsimp only[Option.bind] at h2;cases q1:decide (x.length≤100) with
  | false=>rw[q1] at h2;cases (h2)
  | true=>rw[q1] at h2;exact⟨d,x,r1,r2,r3,r4,q,of_decide_eq_true q1,h2⟩
theorem Gi{ks gs:List Txt}{s y:Txt}(h:Cg ks gs s y=true):EF ks (gs.map .str) 60 s=some y∧s.length<100000∧y.length≤1000:=by unfold Cg at h;simp only[Bool.and_eq_true,decide_eq_true_eq] at h;exact⟨h.1.1,by exact bO h,by exact bJ h⟩
theorem HV{s:Txt}{ops:List Tk}(h:F3 s ops=true):By s ⟨none,Af,Av ops⟩:=by unfold F3 at h;exact DZ (of_decide_eq_true h)
end SL32
section SL33
open PySem
structure AS where
 oct:List Int
 A:List Nat
 ser:Nat
 mac:Txt→Option (List Txt×List Txt)
 cost:Nat
noncomputable def names(k:Nat):List Txt:=(List.range k).map fun i=>AL (i+1)
theorem cW{c:Nat}{r:Int}(h:(4000:Int) - c≤r):(4000:Int) - ((c+1:Nat):Int)≤r - 1:=by show(4000:Int) - ((c:Int)+1)≤r - 1;rw[← Int.sub_sub];exact Int.sub_le_sub_right h 1
theorem D2(k:Nat):(names k).length=k:=by unfold names;simp
theorem Ee(k:Nat):names (k+1)=names k++[AL (k+1)]:=by unfold names;rw[List.range_succ,List.map_append];rfl
theorem Qw(a b:Nat):∃ rest,names (a+1+b)=names a++AL (a+1)::rest:=by
 induction b with
 | zero=>exact⟨[],Ee a⟩
 | succ b ih=>obtain⟨rest,h⟩:=ih;exact⟨rest++[AL (a+1+b+1)],by rw[show a+1+(b+1)=a+1+b+1 from rfl,Ee,h];simp⟩
theorem MU:∀ k,k<4→(names k).contains (AL (k+1))=false:=by
 intro k hk;have:(List.range 4).all (fun k=>!(names k).contains (AL (k+1)))=true:=by decide +kernel
 have:=Ae this hk;rw[Bool.not_eq_true'] at this;exact this
theorem Sy:∀ k,k≤4→(names k).Nodup:=by
 intro k hk;have:(List.range 5).all (fun k=>decide (names k).Nodup)=true:=by decide +kernel
 exact of_decide_eq_true (Ae this (by exact bd hk))
noncomputable def FK(A:List Nat):List V:=A.map fun(a:Nat)=>V.int (a:Nat)
theorem HJ(A:List Nat):(FK A).length=A.length:=by unfold FK;simp
noncomputable def Ih:List Txt:=[K6,Rb,Fh,K7,G2,CN]
noncomputable def VS(fin:Option (List Nat))(A:List Nat)(sk:List Txt)(sv:List V):Prop:=match fin with
 | none=>sk=names A.length∧sv=FK A
 | some F=>sk=names F.length∧sv=FK F∧F.length≤4∧∃ B,F=A++B
noncomputable def zb:Option (List Nat)→Nat
 | none=>0
 | some _=>200
structure Inv(fin:Option (List Nat))(S:AS)(σ:PS):Prop where
 last:σ.last=fin.isSome
 at_:σ.at_=S.oct.length
 octs:σ.last=true→σ.octs=Bk 0 S.oct
 octs0:σ.last=false→σ.octs=[]
 ser:σ.ser=S.ser
 fk:σ.fk=names S.A.length
 fkv:σ.fk.length=σ.fv.length
 sym:VS fin S.A σ.sk σ.sv
 a4:S.A.length≤4
 mac:∀ w nm bt,S.mac w=some (nm,bt)→∃ B,Aq σ.mq σ.mw w=some (EN nm B)∧B.map (·.2)=bt
 mqv:σ.mq.length=σ.mw.length
 keys:∀ k∈σ.mq,Ih.contains k=true
 mql:σ.mq.length≤S.cost
 rl:(4000:Int) - S.cost≤σ.rl
 sz:σ.sizes.length≤zb fin+S.cost
 ls:σ.lst.length≤S.cost
 oc:S.oct.length≤4*S.cost
section
variable {fin:Option (List Nat)}{S:AS}{σ:PS}
theorem Xd(fin:Option (List Nat)):zb fin≤200:=by cases (fin)<;>simp [zb]
theorem Inv.no(h:Inv fin S σ){w:Txt}(hw:Ih.contains w=false):σ.mq.contains w=false:=by
 cases q:σ.mq.contains w with
 | false=>rfl
 | true=>have:=h.keys w (List.contains_iff_mem.mp q);rw[this] at hw;cases (hw)
theorem Inv.noTell(h:Inv fin S σ):σ.mq.contains Af=false:=h.no (by decide +kernel)
theorem SR:∀{ks:List Txt} {vs:List V} {k:Txt} {v:V},Aq ks vs k=some v→ks.contains k=true:=by
 intro ks vs k v h;cases q:ks.contains k with
 | true=>rfl
 | false=>rw[Oz q] at h;cases h
theorem Inv.skl(h:Inv fin S σ):σ.sk.length≤4:=by
 have:=h.sym;cases fin with
 | none=>rw[this.1,D2];exact h.a4
 | some F=>rw[this.1,D2];exact this.2.2.1
theorem Inv.ocl(h:Inv fin S σ):σ.octs.length≤4*S.cost:=by
 cases q:σ.last with
 | true=>rw[h.octs q,HZ];exact h.oc
 | false=>rw[h.octs0 q];exact Nat.zero_le _
theorem RA:∀(xs ys:List Int) (a:Nat),Bk a xs++Bk (a+xs.length) ys=Bk a (xs++ys):=by
 intro q1_
 induction q1_ with
 | nil=>intro ys a;exact rfl
 | cons x xs ih_=>intro ys a;show _::(Bk (a+1) xs++Bk (a+(xs.length+1)) ys)=_::Bk (a+1) (xs++ys);rw[← ih_ ys (a+1),show a+(xs.length+1)=a+1+xs.length from by exact XN]
noncomputable def AS.tell(S:AS)(os:List Int):AS:={ S with oct:=S.oct++os,cost:=S.cost+1 }
theorem Inv.put(h:Inv fin S σ)(num:Int)(text:Txt){os:List Int}(ho:os.length≤4):Inv fin (S.tell os) (σ.tick.putted num text os):=by
 have hoc:=h.oc;have hrl:=h.rl;have hsz:=h.sz;have hls:=h.ls;have hmql:=h.mql;have e1:(S.oct++os).length≤4*(S.cost+1):=by rw[List.length_append];exact Yu ho hoc
 have e2:(4000:Int) - ((S.cost+1:Nat):Int)≤σ.rl - 1:=cW h.rl;cases q:σ.last with
 | true =>
  rw[M6 (show σ.tick.last=true from q),KF (σ:={ σ.tick with octs:=σ.tick.octs++Bk σ.tick.at_ os,lst:=σ.tick.lst++[.tup [.int num,.int σ.tick.at_,.lst (iV os),.str text]] }) q]
  refine⟨h.last,?_,fun _=>?_,fun z=>?_,h.ser,h.fk,h.fkv,h.sym,h.a4,h.mac,h.mqv,h.keys,Nat.le_succ_of_le hmql,e2,by show σ.sizes.length≤zb fin+(S.cost+1);exact bX hsz,?_,e1⟩
  ·show σ.at_+os.length=(S.oct++os).length;rw[List.length_append,h.at_]
  ·show σ.octs++Bk σ.at_ os=Bk 0 (S.oct++os);rw[h.octs q,h.at_,← RA,Nat.zero_add]
  ·have z':σ.last=false:=z;rw[q] at z';cases (z')
  ·show(σ.lst++[_]).length≤S.cost+1;rw[List.length_append,List.length_cons,List.length_nil];exact Zv hls
 | false =>
  rw[M5 (show σ.tick.last=false from q),KE (show σ.tick.last=false from q)]
  refine⟨h.last,?_,fun z=>?_,fun _=>h.octs0 q,h.ser,h.fk,h.fkv,h.sym,h.a4,h.mac,h.mqv,h.keys,Nat.le_succ_of_le hmql,e2,?_,Nat.le_succ_of_le hls,e1⟩
  ·show σ.at_+os.length=(S.oct++os).length;rw[List.length_append,h.at_]
  ·have z':σ.last=true:=z;rw[q] at z';cases z'
  ·show(σ.sizes++[_]).length≤zb fin+(S.cost+1);rw[List.length_append,List.length_cons,List.length_nil];exact ZQ hsz
theorem Inv.tell(h:Inv fin S σ)(hc:S.cost≤150){l:List Op}{os:List Int}{rest:List Tk}(hr:rest=Av (l.map Op.tk))(hok:∀ o∈l,o.ok=true)(hl:1≤l.length∧l.length≤4)(ho:Gv σ.sk σ.sv l=some os):TellOk σ.tick ⟨none,Af,rest⟩ l os:=by have h1:=h.ocl;have h2:=h.ls;have h3:=h.sz;have h4:=h.at_;have h5:=h.oc;have h6:=Xd fin;exact⟨⟨rfl,hr,hok,hl⟩,trivial,ho,by show σ.at_<60000;exact ZE hc h4 h5,by show σ.octs.length<900;exact Z1 hc h1,by show σ.lst.length<900;exact aZ hc h2,by show σ.sizes.length<900;exact ZG hc h3 h6⟩
theorem QH:∀{ks:List Txt} {vs:List V} {k:Txt} {v:V},Aq ks vs k=some v→AV ks vs k v=(ks,vs):=by
 intro q1_
 induction q1_ with
 | nil=>intro _ _ _ h;cases h
 | cons a ks ih_ =>
  intro q2_;cases q2_ with
  | nil=>intro _ _ h;cases h
  | cons b vs =>
   intro k v h;rw[DK] at h;rw[HM];cases q:decide (a=k) with
   | true=>rw[q] at h;cases h;rfl
   | false=>rw[q] at h;rw[ih_ h]
noncomputable def AS.lab(S:AS):AS:={ S with A:=S.A++[S.oct.length] }
theorem LW{F:List Nat}{A B:List Nat}{x:Nat}(h:F=A++x::B)(h4:F.length≤4):Aq (names F.length) (FK F) (AL (A.length+1))=some (.int (x:Nat)):=by
 have hl:F.length=A.length+1+B.length:=by rw[h,List.length_append,List.length_cons];exact XN
 obtain⟨rest,hr⟩:=Qw A.length B.length;have ha:FK F=FK A++.int (x:Nat)::FK B:=by rw[h];unfold FK;simp
 rw[hl,hr,ha];have hn:=MU A.length (by exact Zn h4 hl)
 exact Li (by rw[D2,HJ]) (fun z=>by rw[List.contains_iff_mem.mpr z] at hn;cases (hn))
theorem Inv.label(h:Inv fin S σ)(h3:S.A.length<4)(hF:∀ F,fin=some F→∃ B,F=S.A++S.oct.length::B):L4 σ (some (AL (S.A.length+1)))∧Inv fin S.lab (σ.labelled (some (AL (S.A.length+1)))):=by
 have hn:=MU S.A.length h3;have hnm:AL (S.A.length+1)∉names S.A.length:=fun z=>by rw[List.contains_iff_mem.mpr z] at hn;cases (hn)
 have hsk:=h.skl;have hfk:=h.fk;have hfl:σ.fk.length≤4:=by rw[hfk,D2];exact bM h3
 have hd:AV σ.fk σ.fv (AL (S.A.length+1)) (.bool true)=(σ.fk++[AL (S.A.length+1)],σ.fv++[.bool true]):=Iv h.fkv (by rw[hfk];exact hnm)
 have hA:(S.A++[S.oct.length]).length=S.A.length+1:=by rw[List.length_append];rfl
 have hsym:VS fin (S.A++[S.oct.length]) (AV σ.sk σ.sv (AL (S.A.length+1)) (.int (σ.at_:Nat))).1 (AV σ.sk σ.sv (AL (S.A.length+1)) (.int (σ.at_:Nat))).2∧(σ.last=true→(Aq σ.sk σ.sv (AL (S.A.length+1))).getD (.int (σ.at_:Nat))=.int (σ.at_:Nat)):=by
  have hs:=h.sym;have hla:=h.last;cases fin with
  | none =>
   obtain⟨s1,s2⟩:=hs;rw[s1,s2];refine⟨?_,fun z=>by rw[hla] at z;cases z⟩
   rw[Iv (by rw[D2,HJ]) hnm,h.at_]
   refine⟨?_,?_⟩
   ·rw[hA,Ee]
   ·unfold FK;rw[List.map_append];rfl
  | some F=>obtain⟨s1,s2,s3,B0,s4⟩:=hs;obtain⟨B,hB⟩:=hF F rfl;have hg:=LW hB s3;rw[s1,s2,h.at_,hg,QH hg];exact⟨⟨rfl,rfl,s3,B,by rw[hB];simp⟩,fun _=>rfl⟩
 refine⟨⟨by rw[hfk];exact hn,hsym.2,by exact XS hsk,by exact XS hfl⟩,?_⟩
 refine⟨h.last,h.at_,h.octs,h.octs0,h.ser,?_,?_,hsym.1,by show(S.A++[S.oct.length]).length≤4;exact Zm h3 hA,h.mac,h.mqv,h.keys,h.mql,h.rl,h.sz,h.ls,h.oc⟩
 ·show(AV σ.fk σ.fv (AL (S.A.length+1)) (.bool true)).1=names (S.A++[S.oct.length]).length;rw[hd,hA,Ee,hfk]
 ·show(AV σ.fk σ.fv (AL (S.A.length+1)) (.bool true)).1.length=(AV σ.fk σ.fv (AL (S.A.length+1)) (.bool true)).2.length;rw[hd,List.length_append,List.length_append,h.fkv];rfl
theorem KG:∀{ks:List Txt} {vs:List V} {k:Txt} {v:V},ks.length=vs.length→(AV ks vs k v).1.length=(AV ks vs k v).2.length
 | [],[],_,_,_=>rfl
 | [],_::_,_,_,h=>by cases (h)
 | _::_,[],_,_,h=>by cases (h)
 | a::ks,b::vs,k,v,h=>by
  rw[HM];cases decide (a=k) with
  | true=>exact h
  | false =>
   have:=KG (k:=k) (v:=v) (show ks.length=vs.length by simpa using h)
   dsimp only;rw[List.length_cons,List.length_cons,this]
theorem Lj:∀{ks:List Txt} {vs:List V} {k:Txt} {v:V} (x:Txt),ks.length=vs.length→Aq (AV ks vs k v).1 (AV ks vs k v).2 x=bif decide (k=x) then some v else Aq ks vs x
 | [],[],k,v,x,_=>by show Aq [k] [v] x=_;rw[DK];rfl';cases decide (k=x)<;>rfl
 | [],_::_,_,_,_,h=>by cases (h)
 | _::_,[],_,_,_,h=>by cases (h)
 | a::ks,b::vs,k,v,x,h=>by
  rw[HM];cases q:decide (a=k) with
  | true=>have:a=k:=of_decide_eq_true q;subst this;show Aq (a::ks) (v::vs) x=bif decide (a=x) then some v else Aq (a::ks) (b::vs) x;rw[DK,DK];cases decide (a=x)<;>rfl
  | false =>
   have ih:=Lj (k:=k) (v:=v) x (show ks.length=vs.length by simpa using h)
   show Aq (a::(AV ks vs k v).1) (b::(AV ks vs k v).2) x=bif decide (k=x) then some v else Aq (a::ks) (b::vs) x;rw[DK,DK];cases q2:decide (a=x) with
   | true =>
    have:a=x:=of_decide_eq_true q2;subst this;have q3:decide (k=a)=false:=decide_eq_false fun z=>by rw[z] at q;simp at q
    rw[q3];rfl
   | false=>exact ih
theorem QG:∀{ks:List Txt} {vs:List V} {k:Txt} {v:V},∀ x∈(AV ks vs k v).1,x∈ks∨x=k:=by
 intro q1_
 induction q1_ with
 | nil=>intro _ k v x h;have:x∈[k]:=h;simp at this;exact .inr this
 | cons a ks ih_ =>
  intro q2_;cases q2_ with
  | nil=>intro k v x h;have h':x∈[k]:=h;exact .inr (List.mem_singleton.mp h')
  | cons b vs =>
   intro k v x h;rw[HM] at h;cases q:decide (a=k) with
   | true=>rw[q] at h;have:a=k:=of_decide_eq_true q;subst this;exact .inl h
   | false =>
    rw[q] at h;dsimp only at h;rcases List.mem_cons.mp h with rfl | h
    ·exact .inl (by simp)
    ·rcases ih_ x h with h | h
     ·exact .inl (by simp [h])
     ·exact .inr h
noncomputable def AS.made(S:AS)(w:Txt)(nm bt:List Txt):AS:={ S with mac:=fun x=>bif decide (w=x) then some (nm,bt) else S.mac x,cost:=S.cost+1 }
theorem Inv.macd(h:Inv fin S σ){w:Txt}(hw:Ih.contains w=true)(nm:List Txt)(B:List C0):Inv fin (S.made w nm (B.map (·.2))) (σ.tick.mset w (EN nm B)):=by
 have hoc:=h.oc;have hrl:=h.rl;have hsz:=h.sz;have hls:=h.ls;have hmql:=h.mql;refine⟨h.last,h.at_,h.octs,h.octs0,h.ser,h.fk,h.fkv,h.sym,h.a4,?_,KG h.mqv,?_,?_,cW h.rl,by show σ.sizes.length≤zb fin+(S.cost+1);exact bX hsz,by show σ.lst.length≤S.cost+1;exact bw hls,by show S.oct.length≤4*(S.cost+1);exact o54 hoc⟩
 ·intro x nm' bt' hx;have hx':(bif decide (w=x) then some (nm,B.map (·.2)) else S.mac x)=some (nm',bt'):=hx;show ∃ B',Aq (AV σ.mq σ.mw w (EN nm B)).1 (AV σ.mq σ.mw w (EN nm B)).2 x=some (EN nm' B')∧_;rw[Lj x h.mqv];cases q:decide (w=x) with
  | true=>rw[q] at hx';cases hx';exact Ft B rfl rfl
  | false=>rw[q] at hx';exact h.mac x nm' bt' hx'
 ·intro k hk;rcases QG k hk with h' | h'
  ·exact h.keys k h'
  ·rw[h'];exact hw
 ·have:=D8 (ks:=σ.mq) (vs:=σ.mw) (k:=w) (v:=EN nm B);exact ZK hmql this
theorem Inv.tick(h:Inv fin S σ):Inv fin { S with cost:=S.cost+1 } σ.tick:=by have hoc:=h.oc;have hrl:=h.rl;have hsz:=h.sz;have hls:=h.ls;have hmql:=h.mql;exact⟨h.last,h.at_,h.octs,h.octs0,h.ser,h.fk,h.fkv,h.sym,h.a4,h.mac,h.mqv,h.keys,by show σ.mq.length≤S.cost+1;exact bw hmql,cW h.rl,by show σ.sizes.length≤zb fin+(S.cost+1);exact bX hsz,by show σ.lst.length≤S.cost+1;exact bw hls,by show S.oct.length≤4*(S.cost+1);exact o54 hoc⟩
theorem Inv.serd(h:Inv fin S σ)(k:Nat):Inv fin { S with ser:=k } { σ with ser:=k } :=
 ⟨h.last,h.at_,h.octs,h.octs0,rfl,h.fk,h.fkv,h.sym,h.a4,h.mac,h.mqv,h.keys,h.mql,h.rl,h.sz,h.ls,h.oc⟩
end
end SL33
section SL34
open PySem
noncomputable def AM(fin:Option (List Nat))(m nested:Nat)(R:List C0)(a:Nat)(σ:PS)(S':AS):Prop:=∃ σ',Walks m nested R a σ σ'∧Inv fin S' σ'
noncomputable def Az(R:List C0):List Txt:=R.map (·.2)
theorem LI{R:List C0}{a:Nat}{t:Txt}{rest:List Txt}(h:(Az R).drop a=t::rest):∃ num,R[a]?=some (num,t)∧(Az R).drop (a+1)=rest∧a<R.length:=by
 have h0:(Az R)[a]?=some t:=Gf h;unfold Az at h0;rw[List.getElem?_map] at h0;cases q:R[a]? with
 | none=>rw[q] at h0;cases h0
 | some p =>
  rw[q] at h0;obtain⟨num,t'⟩:=p;cases h0;refine Pf num rfl (A3 h) ?_;rcases Nat.lt_or_ge a R.length with h | h
  ·exact h
  ·rw[List.getElem?_eq_none h] at q;cases q
inductive WordsT:List Txt→List Txt→Prop where
 | nil:WordsT [] []
 | cons {t w:Txt} {ts ws:List Txt}:FI t w→WordsT ts ws→WordsT (t::ts) (w::ws)
theorem Tu{ts ws:List Txt}(h:WordsT ts ws):∀{Q:List C0} {rest:List Txt},Q.map (·.2)=ts++rest→Words Q ws:=by
 induction h with
 | nil=>intro Q _ _;exact .nil Q
 | cons h1 _ ih =>
  intro Q rest hq;cases Q with
  | nil=>cases (hq)
  | cons p Q =>
   obtain⟨num,t⟩:=p;injection hq with e1 e2
   have e1':t=_:=e1;subst e1';exact .cons h1 (ih e2)
section
variable {fin:Option (List Nat)}{m nested:Nat}{R:List C0}{a:Nat}{σ:PS}{S S':AS}
theorem AM.done(h:Inv fin S σ)(hl:(Az R).drop a=[]):AM fin m nested R a σ S :=
 ⟨σ,.done (by
  have:=congrArg List.length hl;unfold Az at this;rw[List.length_drop,List.length_map,List.length_nil] at this;exact p59 this),h⟩
theorem AM.tell(h:Inv fin S σ)(hc:S.cost≤150){t:Txt}{rest:List Txt}(hr:(Az R).drop a=t::rest){ops:List Tk}{l:List Op}{os:List Int}(hd:By t ⟨none,Af,Av ops⟩)(ho:ops=l.map Op.tk)(hok:∀ o∈l,o.ok=true)(hl:1≤l.length∧l.length≤4)(hos:Gv σ.sk σ.sv l=some os)(hol:os.length≤4)
  (cont:∀ σ2,Inv fin (S.tell os) σ2→(Az R).drop (a+1)=rest→AM fin m nested R (a+1) σ2 S'):AM fin m nested R a σ S':=by
 refine FE (LI hr) fun num g1 g2 g3=>?_;have t1:=h.tell hc (rest:=Av ops) (by rw[ho]) hok hl hos
 refine BA (cont _ (h.put num t hol) g2) fun σ' w1 w2=>?_;have hrl:=h.rl;exact Ft σ' (.plain g1 hd (by omega) t1 h.noTell w1) w2
theorem AM.ltell(h:Inv fin S σ)(hc:S.cost≤150){t:Txt}{rest:List Txt}(hr:(Az R).drop a=t::rest){ops:List Tk}{l:List Op}{os:List Int}(hd:By t ⟨some (AL (S.A.length+1)),Af,Av ops⟩)(ho:ops=l.map Op.tk)(hok:∀ o∈l,o.ok=true)(hl:1≤l.length∧l.length≤4)(hos:∀ sk sv,Gv sk sv l=some os)(hol:os.length≤4)(h3:S.A.length<4)(hF:∀ F,fin=some F→∃ B,F=S.A++S.oct.length::B)
  (cont:∀ σ2,Inv fin (S.lab.tell os) σ2→(Az R).drop (a+1)=rest→AM fin m nested R (a+1) σ2 S'):AM fin m nested R a σ S':=by
 refine FE (LI hr) fun num g1 g2 g3=>?_;obtain⟨l1,l2⟩:=h.label h3 hF;have t0:=h.tell hc (rest:=Av ops) (by rw[ho]) hok hl (hos _ _)
 have t1:TellOk σ.tick ⟨some (AL (S.A.length+1)),Af,Av ops⟩ l os:=⟨⟨rfl,t0.ord.rest,hok,hl⟩,l1,hos _ _,t0.at_,t0.b1,t0.b2,t0.b3⟩;refine BA (cont _ (l2.put num t hol) g2) fun σ' w1 w2=>?_;have hrl:=h.rl;exact Ft σ' (.plain g1 hd (by omega) t1 h.noTell w1) w2
theorem AM.mac(h:Inv fin S σ)(hc:S.cost≤150){t tE:Txt}{bt rest:List Txt}(hr:(Az R).drop a=t::(bt++tE::rest)){w:Txt}{nm W:List Txt}(hd:By t ⟨some w,BF,Av (nm.map .name)⟩)(hnm:1≤nm.length∧nm.length≤4)(hw:Ih.contains w=true)(hW:WordsT (bt++[tE]) W)(hk:G7 W 1=some bt.length)
  (cont:∀ σ2,Inv fin (S.made w nm bt) σ2→(Az R).drop (a+1+bt.length+1)=rest→AM fin m nested R (a+1+bt.length+1) σ2 S'):AM fin m nested R a σ S':=by
 refine FE (LI hr) fun num g1 g2 g3=>?_;have hlen:R.length=(Az R).length:=by unfold Az;rw[List.length_map]
 have hl2:=congrArg List.length g2;rw[List.length_drop,← hlen,List.length_append,List.length_cons] at hl2;have hbody:((R.take (a+1+bt.length)).drop (a+1)).map (·.2)=bt:=by
  rw[List.map_drop,List.map_take,List.drop_take];rw[show a+1+bt.length - (a+1)=bt.length from by exact p35]
  show List.take bt.length ((Az R).drop (a+1))=bt;rw[g2,List.take_left]
 have hwords:Words (R.drop (a+1)) W:=Tu hW (rest:=rest) (by
  rw[List.map_drop];show(Az R).drop (a+1)=_;rw[g2];simp)
 have hrest:(Az R).drop (a+1+bt.length+1)=rest:=by rw[show a+1+bt.length+1=(a+1)+(bt.length+1) from by exact ZM,← List.drop_drop,g2,show bt.length+1=(bt++[tE]).length from by simp,show bt++tE::rest=(bt++[tE])++rest from by simp,List.drop_left]
 have hm:=h.macd hw nm ((R.take (a+1+bt.length)).drop (a+1));rw[hbody] at hm;refine BA (cont _ hm hrest) fun σ' w1 w2=>?_;have hrl:=h.rl;have hmq:=h.mql;exact Ft σ' (.mac g1 hd (by omega) rfl rfl ⟨rfl,hnm⟩ hwords hk (by exact p26 hl2) (by exact Zs hc hmq) w1) w2
theorem Sz{w:Txt}(h:Ih.contains w=true):decide (w=[73,70])=false∧decide (w=[77,65,67,82,79])=false∧FF w [[69,76,83,69],[69,78,68,73,70],[69,78,68,77]]=false:=by
 have key:Ih.all (fun w=>!decide (w=[73,70])&&(!decide (w=[77,65,67,82,79])&&!FF w [[69,76,83,69],[69,78,68,73,70],[69,78,68,77]]))=true:=by decide +kernel
 have:=List.all_eq_true.mp key w (List.contains_iff_mem.mp h);simp only[Bool.and_eq_true,Bool.not_eq_true'] at this;exact this
theorem AM.call(h:Inv fin S σ)(hc:S.cost≤150){t x w:Txt}{rest ts nm bt ys:List Txt}{d:Rd}(hr:(Az R).drop a=t::rest)(hca:CallAt w t ts d x)(hw:Ih.contains w=true)(hm:S.mac w=some (nm,bt))(hts:ts.length=nm.length)(hne:ts≠[[]])(hnm:nm.length≤30)(hbt:bt.length≤900)(hnest:nested<8)(hys:ys.length≤1000){ser':Nat}
  (hex:∀(num:Int) (B:List C0),B.map (·.2)=bt→DH num B 0 (EV nm ts [] []).1 (EV nm ts [] []).2 S.ser (ys.map fun y=>(num,y)) ser') {S1:AS}
  (inn:∀(num:Int) (σ2:PS),Inv fin { S with ser:=ser',cost:=S.cost+1 } σ2→Az (ys.map fun y=>(num,y))=ys→AM fin m (nested+1) (ys.map fun y=>(num,y)) 0 σ2 S1)
  (cont:∀ σ2,Inv fin S1 σ2→(Az R).drop (a+1)=rest→AM fin (m+1) nested R (a+1) σ2 S'):AM fin (m+1) nested R a σ S':=by
 rfl';refine FE (LI hr) fun num g1 g2 g3=>?_;refine BA (h.mac w nm bt hm) fun B b1 b2=>?_;have hty:Az (ys.map fun y=>(num,y))=ys:=by unfold Az;rw[List.map_map];exact List.map_id' ys
 have hlb:σ.tick.labelled d.lab=σ.tick:=by rw[hca.lab];rfl
 refine BA (inn num _ (h.tick.serd ser') hty) fun σ1 w1 w2=>?_;refine BA (cont _ w2 g2) fun σ' w3 w4=>?_;have hrl:=h.rl;have hat:=h.at_;have hoc:=h.oc;have hx:=hca.xlen;have ht:=hca.len;have hs:=h.ser;refine L2 (Sz hw) fun n1 n2 n3=>?_;refine Ft σ' (.call (k1:=60) (k2:=60) (R':=ys.map fun y=>(num,y)) (ser':=ser') (σ1:=σ1) g1 hca.rd (by omega) hca.word (by rw[hca.lab];trivial) (by exact Yi hc hat hoc) (SR b1) n1 n2 n3 b1 hca.tail (by decide) (by exact o80 ht) (by exact ab hx) hca.split (by decide) hts hne hnm (by rw[← List.length_map (f:=(·.2)),b2];exact hbt) hnest (by rw[List.length_map];exact hys) (by rw[hs];exact hex num B b2) ?_ w3) w4
 rw[hlb];exact w1
end
end SL34
section SL35
open PySem
noncomputable def AS.c(S:AS):AS:={ S with cost:=S.cost+1 }
theorem fm{n:Nat}(h:n<256):((n:Nat):Int).fmod 256=(n:Nat):=MB (b:=256) h
theorem YY{B:List C0}{t:Txt}(h:B.map (·.2)=[t]):∃ k,B=[(k,t)]:=by
 match B,h with
 | [(k,t')],h =>
  have:t'=t:=by simpa using h
  exact⟨k,by rw[this]⟩
theorem S2{t w y:Txt}{ks gs:List Txt}{ks0:List Txt}{vs0:List V}(e1:ks0=ks)(e2:vs0=gs.map .str)(hw:FI t w)(hl:Cv w (0+Hg w)=false)(hp:Cg ks gs t y=true)(ser:Nat):∀(num:Int) (B:List C0),B.map (·.2)=[t]→DH num B 0 ks0 vs0 ser ([y].map fun y=>(num,y)) ser:=by intro num B hB;refine Pd (YY hB) fun k z_1=>?_;subst z_1;refine L2 (Gi hp) fun h1 h2 h3=>?_;subst e1 e2;exact .put hw hl h1 (by decide) h2 h3 (.nil _ _ _ _)
theorem Hv:FI GT Af:=DM (x:=none) (by decide +kernel)
theorem J0:FI JJ Af:=DM (x:=none) (by decide +kernel)
theorem Fi:FI Ed Af:=DM (x:=none) (by decide +kernel)
theorem Hw:FI GU Fh:=DM (x:=none) (by decide +kernel)
theorem HF:FI Du Af:=DM (x:=none) (by decide +kernel)
theorem HG:FI CI BF:=DM (x:=some CN) (by decide +kernel)
theorem Em:FI Bu CZ:=DM (x:=none) (by decide +kernel)
theorem HH:FI Dv Af:=DM (x:=some xL) (by decide +kernel)
theorem D1:FI Bv Af:=DM (x:=none) (by decide +kernel)
theorem Br:FI Bp Ey:=DM (x:=none) (by decide +kernel)
theorem V0:(List.range 200).all (fun n=>!decide (dn n=[]))=true:=by decide +kernel
theorem PA{n:Nat}(h:n<200):([dn n]:List Txt)≠[[]]:=by have:=Ae V0 h;simp only[Bool.not_eq_true',decide_eq_false_iff_not] at this;exact fun z=>this (by injection z)
theorem OE{ts:List Txt}(h:2≤ts.length):ts≠[[]]:=fun z=>by rw[z] at h;simp at h
section
variable {fin:Option (List Nat)}{m nested:Nat}{R:List C0}{a:Nat}{σ:PS}{S S':AS}{rest:List Txt}{n:Nat}
theorem U2(h:Inv fin S σ)(hc:S.cost≤140)(hn:n<200)(hr:(Az R).drop a=Lb n::rest)(hm:S.mac K6=some ([xH,xB],[GT]))(hnest:nested<8)
  (cont:∀ σ2,Inv fin (S.c.tell [16,5,(n:Int),7]) σ2→(Az R).drop (a+1)=rest→AM fin (m+1) nested R (a+1) σ2 S'):AM fin (m+1) nested R a σ S':=by
 have f:=Ae Rj hn;unfold TC at f;simp only[Bool.and_eq_true] at f;rfl';obtain⟨⟨f1,f2⟩,f3⟩:=f;refine NK (GR f1) fun d x hca=>?_;have hd:=HV f3;refine AM.call (ys:=[SV n]) h (by exact o6 hc) hr hca (by decide +kernel) hm rfl (OE (by simp)) (by decide) (by decide) hnest (by simp) (S2 rfl rfl Hv (by decide +kernel) f2 S.ser) (fun num σ2 h2 ht=>?_) cont
 have h2':Inv fin S.c σ2:=h2;exact AM.tell h2' (by show S.cost+1≤150;exact Wc hc) (rest:=[]) (by rw[ht];rfl) (l:=[.num 16,.num 5,.num n,.num 7]) hd rfl (by simp [Op.ok]) (by simp) (os:=[16,5,(n:Int),7]) (by
  show some [(16:Int).fmod 256,(5:Int).fmod 256,(n:Int).fmod 256,(7:Int).fmod 256]=_;rw[fm (by exact Wd hn)];rfl) (by simp) (fun σ3 h3 ht3=>AM.done h3 ht3)
theorem Vm(h:Inv fin S σ)(hc:S.cost≤140)(hn:n<200)(hr:(Az R).drop a=SE n::rest)(hm:S.mac Rb=some ([xA],[JJ]))(hnest:nested<8)
  (cont:∀ σ2,Inv fin (S.c.tell [10,(n:Int),160,1]) σ2→(Az R).drop (a+1)=rest→AM fin (m+1) nested R (a+1) σ2 S'):AM fin (m+1) nested R a σ S':=by
 have f:=Ae UA hn;unfold VP at f;simp only[Bool.and_eq_true] at f;rfl';obtain⟨⟨f1,f2⟩,f3⟩:=f;refine NK (GR f1) fun d x hca=>?_;have hd:=HV f3;refine AM.call (ys:=[Va n]) h (by exact o6 hc) hr hca (by decide +kernel) hm rfl (PA hn) (by decide) (by decide) hnest (by simp) (S2 rfl rfl J0 (by decide +kernel) f2 S.ser) (fun num σ2 h2 ht=>?_) cont
 have h2':Inv fin S.c σ2:=h2;exact AM.tell h2' (by show S.cost+1≤150;exact Wc hc) (rest:=[]) (by rw[ht];rfl) (l:=[.num 10,.num n,.num 160,.num 1]) hd rfl (by simp [Op.ok]) (by simp) (os:=[10,(n:Int),160,1]) (by
  show some [(10:Int).fmod 256,(n:Int).fmod 256,(160:Int).fmod 256,(1:Int).fmod 256]=_;rw[fm (by exact Wd hn)];rfl) (by simp) (fun σ3 h3 ht3=>AM.done h3 ht3)
theorem U4(h:Inv fin S σ)(hc:S.cost≤140)(hn:n<200)(hr:(Az R).drop a=Ld n::rest)(hm:S.mac Fh=some ([xP,xQ,xN],[Ed]))(hnest:nested<8)
  (cont:∀ σ2,Inv fin (S.c.tell [201,202,(n:Int)]) σ2→(Az R).drop (a+1)=rest→AM fin (m+1) nested R (a+1) σ2 S'):AM fin (m+1) nested R a σ S':=by
 have f:=Ae Rm hn;unfold TE at f;simp only[Bool.and_eq_true] at f;rfl';obtain⟨⟨f1,f2⟩,f3⟩:=f;refine NK (GR f1) fun d x hca=>?_;have hd:=HV f3;refine AM.call (ys:=[SX n]) h (by exact o6 hc) hr hca (by decide +kernel) hm rfl (OE (by simp)) (by decide) (by decide) hnest (by simp) (S2 rfl rfl Fi (by decide +kernel) f2 S.ser) (fun num σ2 h2 ht=>?_) cont
 have h2':Inv fin S.c σ2:=h2;exact AM.tell h2' (by show S.cost+1≤150;exact Wc hc) (rest:=[]) (by rw[ht];rfl) (l:=[.afq,.af,.num n]) hd rfl (by simp [Op.ok]) (by simp) (os:=[201,202,(n:Int)]) (by
  show some [(201:Int),202,(n:Int).fmod 256]=_;rw[fm (by exact Wd hn)]) (by simp) (fun σ3 h3 ht3=>AM.done h3 ht3)
theorem U3(h:Inv fin S σ)(hc:S.cost≤140)(hn:n<200)(hr:(Az R).drop a=Lc n::rest)(hm:S.mac K7=some ([xN],[GU]))(hm2:S.mac Fh=some ([xP,xQ,xN],[Ed]))(hnest:nested<7)
  (cont:∀ σ2,Inv fin (S.c.c.tell [202,201,(n:Int)]) σ2→(Az R).drop (a+1)=rest→AM fin (m+1+1) nested R (a+1) σ2 S'):AM fin (m+1+1) nested R a σ S':=by
 have f:=Ae Rk hn;unfold TD at f;simp only[Bool.and_eq_true] at f;rfl';obtain⟨⟨⟨⟨f1,f2⟩,f3⟩,f4⟩,f5⟩:=f;refine NK (GR f1) fun d x hca=>?_;refine NK (GR f3) fun d2 x2 hca2=>?_;have hd:=HV f5;refine AM.call (ys:=[SW n]) h (by exact o6 hc) hr hca (by decide +kernel) hm rfl (PA hn) (by decide) (by decide) (by exact bK hnest) (by simp) (S2 rfl rfl Hw (by decide +kernel) f2 S.ser) (fun num σ2 h2 ht=>?_) cont
 have h2':Inv fin S.c σ2:=h2;refine AM.call (ys:=[S4 n]) h2' (by show S.cost+1≤150;exact Wc hc) (rest:=[]) (by rw[ht];rfl) hca2 (by decide +kernel) hm2 rfl (OE (by simp)) (by decide) (by decide) (by exact bA hnest) (by simp) (S2 rfl rfl Fi (by decide +kernel) f4 S.c.ser) (fun num σ2 h2 ht=>?_) (fun σ3 h3 ht3=>AM.done h3 ht3)
 have h3':Inv fin S.c.c σ2:=h2;exact AM.tell h3' (by show S.cost+1+1≤150;exact bu hc) (rest:=[]) (by rw[ht];rfl) (l:=[.af,.afq,.num n]) hd rfl (by simp [Op.ok]) (by simp) (os:=[202,201,(n:Int)]) (by
  show some [(202:Int),201,(n:Int).fmod 256]=_;rw[fm (by exact Wd hn)]) (by simp) (fun σ3 h3 ht3=>AM.done h3 ht3)
theorem Vp:Cv Af (0+Hg Af)=false∧Cv BF (0+Hg Af+Hg BF)=false∧Cv CZ (0+Hg Af+Hg BF+Hg CZ)=false∧Cv Af (0+Hg Af+Hg BF+Hg CZ+Hg Af)=false∧Cv Af (0+Hg Af+Hg BF+Hg CZ+Hg Af+Hg Af)=false∧Cv Ey (0+Hg Af+Hg BF+Hg CZ+Hg Af+Hg Af+Hg Ey)=false:=by decide +kernel
theorem Vw{B:List C0}{t:Txt}{r:List Txt}(h:B.map (·.2)=t::r):∃ k B',B=(k,t)::B'∧B'.map (·.2)=r:=by
 cases B with
 | nil=>cases (h)
 | cons p B=>exact Tx p.1 B (by rw[← (List.cons.inj h).1]) ((List.cons.inj h).2)
theorem Vv{B:List C0}{t1 t2 t3:Txt}{r:List Txt}(h:B.map (·.2)=t1::t2::t3::r):∃ k1 k2 k3 B',B=(k1,t1)::(k2,t2)::(k3,t3)::B'∧B'.map (·.2)=r :=
 let ⟨k1,_,e1,h⟩:=Vw h
 let ⟨k2,_,e2,h⟩:=Vw h
 let ⟨k3,B',e3,h⟩:=Vw h
 ⟨k1,k2,k3,B',by rw[e1,e2,e3],h⟩
noncomputable def F0(n:Nat):List Txt:=[Bu,E8 n,Bv]
theorem MF(h:Inv fin S σ)(hc:S.cost≤140)(hn:n<200)(hr:(Az R).drop a=E4 n::rest)(hm:S.mac G2=some ([xN],[Du,CI,Bu,Dv,Bv,Bp]))(hnest:nested<8)
  (cont:∀ σ2,Inv fin ((S.c.tell [(n:Int)]).made CN [xM] (F0 n)) σ2→(Az R).drop (a+1)=rest→AM fin (m+1) nested R (a+1) σ2 S'):AM fin (m+1) nested R a σ S':=by
 have f:=Ae HK hn;unfold I2 at f;simp only[Bool.and_eq_true] at f;rfl';obtain⟨⟨⟨⟨⟨⟨⟨⟨⟨⟨⟨⟨f1,p1⟩,p2⟩,p3⟩,p4⟩,p5⟩,p6⟩,f2⟩,f3⟩,_⟩,_⟩,_⟩,_⟩:=f;refine NK (GR f1) fun d x hca=>?_;have hd:=HV f2;refine x06 Vp fun i1 i2 i3 i4 i5 i6=>?_;have hM:=Wk;have w4:FI (E8 n) Af:=DM (of_decide_eq_true f3);refine AM.call (ys:=[Kg n,CI,Bu,E8 n,Bv,Bp]) h (by exact o6 hc) hr hca (by decide +kernel) hm rfl (PA hn) (by decide) (by decide) hnest (by simp) (ser':=S.ser) (fun num B hB=>?_) (fun num σ2 h2 ht=>?_) cont
 ·refine X9 (Vv hB) fun k1 k2 k3 B1 e1 hB=>?_;refine X9 (Vv hB) fun k4 k5 k6 B2 e2 hB=>?_;rw[e1,e2,List.map_eq_nil_iff.mp hB];rfl';refine L2 (Gi p1) fun q1 a1 b1=>?_;refine L2 (Gi p2) fun q2 a2 b2=>?_;refine L2 (Gi p3) fun q3 a3 b3=>?_;refine L2 (Gi p4) fun q4 a4 b4=>?_;refine L2 (Gi p5) fun q5 a5 b5=>?_;refine L2 (Gi p6) fun q6 a6 b6=>?_;exact .put HF i1 q1 (by decide) a1 b1 (.put HG i2 q2 (by decide) a2 b2 (.put Em i3 q3 (by decide) a3 b3 (.put HH i4 q4 (by decide) a4 b4 (.put D1 i5 q5 (by decide) a5 b5 (.put Br i6 q6 (by decide) a6 b6 (.nil _ _ _ _))))))
 ·have h2':Inv fin S.c σ2:=h2;refine AM.tell h2' (by show S.cost+1≤150;exact Wc hc) (rest:=[CI,Bu,E8 n,Bv,Bp]) (by rw[ht];rfl) (l:=[.num n]) hd rfl (by simp [Op.ok]) (by simp) (os:=[(n:Int)]) (by
   show some [(n:Int).fmod 256]=_;rw[fm (by exact Wd hn)]) (by simp) (fun σ3 h3 ht3=>?_)
  have hR2:Jq CI=some ⟨some CN,BF,Av [.name xM]⟩:=by decide +kernel
  refine AM.mac h3 (by show S.cost+1+1≤150;exact bu hc) (bt:=F0 n) (tE:=Bp) (rest:=[]) ht3 (nm:=[xM]) (DZ hR2) (by simp) (by decide +kernel) (W:=[CZ,Af,Af,Ey]) (.cons Em (.cons w4 (.cons D1 (.cons Br .nil)))) (show G7 [CZ,Af,Af,Ey] 1=some 3 by decide +kernel) (fun σ4 h4 ht4=>AM.done h4 ht4)
theorem Vc{ks gs:List Txt}{s y:Txt}(h:Cg ks gs s y=true):y.length≤100:=by unfold Cg at h;simp only[Bool.and_eq_true,decide_eq_true_eq] at h;exact h.2
theorem TZ{s k n:Nat}(hs:s<5)(hk:k<100)(hn:n<200):By (VJ s k++44::dn n) ⟨some (AL s),Af,Av [.num k,.num n]⟩∧(VJ s k++44::dn n).length≤1000:=by
 have f:=Ae (Ae Rl hs) hk;unfold WL at f;simp only[Bool.and_eq_true] at f;rfl';obtain⟨⟨⟨f1,f2⟩,f3⟩,f4⟩:=f;have g:=Ae HK hn;unfold I2 at g;simp only[Bool.and_eq_true] at g;obtain⟨⟨⟨_,g2⟩,g3⟩,_⟩:=g;have h1:=of_decide_eq_true f3;have h2:=of_decide_eq_true g2;have h3:=of_decide_eq_true g3;have h4:=Vc f1;obtain⟨q,hq,e⟩:=Oj 40 (VJ s k) (dn n) h1 h2 fun c hc=>by have:=List.all_eq_true.mp f4 c hc;simp only[Bool.and_eq_true,Bool.not_eq_true',decide_eq_false_iff_not] at this;exact⟨this.1.1,this.1.2,this.2⟩
 have hl:(VJ s k++44::dn n).length≤1000:=by rw[List.length_append,List.length_cons];exact ZX h3 h4
 refine⟨⟨q,_,Tj q _ e,by exact bD hq,by simp,hl,?_⟩,hl⟩
 rfl
theorem Sg{k:Nat}(h:Inv fin S σ)(hc:S.cost≤140)(hk:k<100)(hn:n<200)(hr:(Az R).drop a=DJ k::rest)(hm:S.mac CN=some ([xM],F0 n))(hser:S.ser=S.A.length)(h3:S.A.length<4)(ho:S.oct.length<256)(hF:∀ F,fin=some F→∃ B,F=S.A++S.oct.length::B)(hnest:nested<8)
  (cont:∀ σ2,Inv fin ((({ S with ser:=S.ser+1,cost:=S.cost+1 }:AS).lab.tell [(k:Int),(n:Int)]).tell [((S.oct.length:Nat):Int)]) σ2→(Az R).drop (a+1)=rest→AM fin (m+1) nested R (a+1) σ2 S'):AM fin (m+1) nested R a σ S':=by
 have hs5:S.ser+1<5:=by exact Zd hser h3
 have f:=Ae Pj hk;unfold P0 at f;rfl';refine NK (GR f) fun d x hca=>?_;have f:=Ae (Ae Rl hs5) hk;unfold WL at f;simp only[Bool.and_eq_true] at f;obtain⟨⟨⟨f1,f2⟩,f3⟩,f4⟩:=f;have g:=Ae HK hn;unfold I2 at g;simp only[Bool.and_eq_true] at g;obtain⟨⟨⟨⟨⟨_,g0⟩,g1⟩,g2⟩,g3⟩,_⟩:=g;have s:=Ae Wl hs5;unfold okS at s;simp only[Bool.and_eq_true] at s;obtain⟨⟨⟨s1,s2⟩,s3⟩,s4⟩:=s;obtain⟨rIN,lIN⟩:=TZ (n:=n) hs5 hk hn;have rTL:=HV s1;have hR3:Jq Bu=some ⟨none,CZ,Av [.name xL]⟩:=by decide +kernel
 have w4:FI (E8 n) Af:=DM (of_decide_eq_true g0);refine Pe (Vb (of_decide_eq_true g0)) fun _ _ _ _ l4=>?_;refine L2 (Gi f2) fun q5 a5 b5=>?_;refine L2 (Gi f1) fun q1 a1 b1=>?_;refine AM.call (ys:=[VJ (S.ser+1) k++44::dn n,Xh (S.ser+1)]) h (by exact o6 hc) hr hca (by decide +kernel) hm rfl (PA (by exact ad hk)) (by decide) (by simp [F0]) hnest (by simp) (ser':=S.ser+1) (fun num B hB=>?_) (fun num σ2 h2 ht=>?_) cont
 ·refine X9 (Vv hB) fun k1 k2 k3 B1 e1 hB=>?_;rw[e1,List.map_eq_nil_iff.mp hB];refine BA (RG [xM,xL] ([dn k,AL (S.ser+1)].map .str) 60 pL (dn n) q1 (WQ [xM,xL] _ 10 (dn n) g1)) fun q hq e=>?_;refine .loc (DZ hR3) rfl ⟨rfl,by simp⟩ rfl (by show(EV [xM] [dn k] [] []).1.length≤900;have:=R7 [xM] [dn k] [] [];simp at this;exact aK this) (by exact Z6 hser h3) (of_decide_eq_true s3) ?_
  have hto:EV [xM] [dn k] [] []=([xM],[.str (dn k)]):=rfl;exact .put w4 (by decide +kernel) e (by exact aW hq) (by exact o80 l4) lIN (.put D1 (by decide +kernel) q5 (by decide) a5 b5 (.nil _ _ _ _))
 ·refine AM.ltell h2 (by show S.cost+1≤150;exact Wc hc) (rest:=[Xh (S.ser+1)]) (by rw[ht];rfl) (ops:=[.num k,.num n]) (l:=[.num k,.num n]) (os:=[(k:Int),(n:Int)]) (by
   rw[← hser];exact rIN) rfl (by simp [Op.ok]) (by simp) (fun sk sv=>by
   show some [(k:Int).fmod 256,(n:Int).fmod 256]=_;rw[fm (by exact ae hk),fm (by exact Wd hn)]) (by simp) h3 hF (fun σ3 h3' ht3=>?_)
  have hget:Aq σ3.sk σ3.sv (AL (S.ser+1))=some (.int ((S.oct.length:Nat):Int)):=by
   have hs:=h3'.sym;rw[hser];cases fin with
   | none=>obtain⟨e1,e2⟩:=hs;rw[e1,e2];exact LW (A:=S.A) (B:=[]) rfl (by show(S.A++[S.oct.length]).length≤4;rw[List.length_append];simp;exact Zf h3)
   | some F=>obtain⟨e1,e2,e3,B,e4⟩:=hs;rw[e1,e2];have e4':F=(S.A++[S.oct.length])++B:=e4;exact LW (A:=S.A) (B:=B) (by rw[e4'];simp) e3
  exact AM.tell h3' (by show S.cost+1+1≤150;exact bu hc) (rest:=[]) ht3 (l:=[.lab (AL (S.ser+1))]) rTL rfl (by intro o ho;simp at ho;rw[ho];exact s2) (by simp) (os:=[((S.oct.length:Nat):Int)]) (by
   unfold Gv Op.oct Op.val;dsimp only;rw[hget];show some [((S.oct.length:Nat):Int).fmod 256]=_;rw[fm ho]) (by simp) (fun σ4 h4 ht4=>AM.done h4 ht4)
end
end SL35
section SL36
open PySem
structure LS where
 oct:List Int
 wan:List Nat
 maker:Option Nat
noncomputable def turn(p:Nat×Nat)(s:LS):LS:=match p.1 with
 | 0=>⟨s.oct++[16,5,(p.2:Int),7],s.wan++[0],s.maker⟩
 | 1=>⟨s.oct++[10,(p.2:Int),160,1],s.wan++[1],s.maker⟩
 | 2=>⟨s.oct++[201,202,(p.2:Int)],s.wan++[2,2],s.maker⟩
 | 3=>⟨s.oct++[202,201,(p.2:Int)],s.wan++[2,3],s.maker⟩
 | 4=>⟨s.oct++[(p.2:Int)],s.wan++[4],some p.2⟩
 | _=>match s.maker with
  | none=>⟨s.oct++[(p.2:Int)]++[((p.2 / 2:Nat):Int),(p.2:Int),((s.oct.length+1:Nat):Int)],s.wan++[4],some p.2⟩
  | some q=>⟨s.oct++[((p.2 / 2:Nat):Int),(q:Int),((s.oct.length:Nat):Int)],s.wan,some q⟩
noncomputable def CB(p:Nat×Nat)(s:LS):List Txt:=match p.1 with
 | 0=>[Lb p.2]
 | 1=>[SE p.2]
 | 2=>[Ld p.2]
 | 3=>[Lc p.2]
 | 4=>[E4 p.2]
 | _=>match s.maker with
  | none=>[E4 p.2,DJ (p.2 / 2)]
  | some _=>[DJ (p.2 / 2)]
noncomputable def Bl:List (Nat×Nat)→LS→LS
 | [],s=>s
 | p::L,s=>Bl L (turn p s)
noncomputable def Ah:List (Nat×Nat)→LS→List Txt
 | [],_=>[]
 | p::L,s=>CB p s++Ah L (turn p s)
noncomputable def AS.mkr(S:AS)(n:Nat):AS:=(S.c.tell [(n:Int)]).made CN [xM] (F0 n)
noncomputable def AS.inn(S:AS)(k n:Nat):AS:=(({ S with ser:=S.ser+1,cost:=S.cost+1 }:AS).lab.tell [(k:Int),(n:Int)]).tell [((S.oct.length:Nat):Int)]
noncomputable def Di(p:Nat×Nat)(s:LS)(S:AS):AS:=match p.1 with
 | 0=>S.c.tell [16,5,(p.2:Int),7]
 | 1=>S.c.tell [10,(p.2:Int),160,1]
 | 2=>S.c.tell [201,202,(p.2:Int)]
 | 3=>S.c.c.tell [202,201,(p.2:Int)]
 | 4=>S.mkr p.2
 | _=>match s.maker with
  | none=>(S.mkr p.2).inn (p.2 / 2) p.2
  | some q=>S.inn (p.2 / 2) q
noncomputable def Gy:List (Nat×Nat)→LS→AS→AS
 | [],_,S=>S
 | p::L,s,S=>Gy L (turn p s) (Di p s S)
noncomputable def MD:Nat→Txt×List Txt×List Txt
 | 0=>(K6,[xH,xB],[GT])
 | 1=>(Rb,[xA],[JJ])
 | 2=>(Fh,[xP,xQ,xN],[Ed])
 | 3=>(K7,[xN],[GU])
 | _=>(G2,[xN],[Du,CI,Bu,Dv,Bv,Bp])
noncomputable def has(S:AS)(i:Nat):Prop:=S.mac (MD i).1=some (MD i).2
noncomputable def ED:Nat→List Nat
 | 0=>[0]
 | 1=>[1]
 | 2=>[2]
 | 3=>[2,3]
 | _=>[4]
structure Tie(s:LS)(S:AS)(k:Nat):Prop where
 oct:s.oct=S.oct
 mak:∀ n,s.maker=some n→S.mac CN=some ([xM],F0 n)∧n<200
 ser:S.ser=S.A.length
 a4:S.A.length+k≤4
 o:S.oct.length+4*k≤16
 cost:S.cost+10*k≤60
theorem MG{S:AS}{i:Nat}(h:has S i)(nm bt:List Txt):has (S.made CN nm bt) i:=by
 have:decide (CN=(MD i).1)=false:=by
  match i with
  | 0=>decide
  | 1=>decide
  | 2=>decide
  | 3=>decide
  | n+4=>show decide (CN=G2)=false;decide
 show(bif decide (CN=(MD i).1) then some (nm,bt) else S.mac (MD i).1)=_;rw[this];exact h
theorem Sh{p:Nat×Nat}{s:LS}{S:AS}{i:Nat}(h:has S i):has (Di p s S) i:=by
 unfold Di;split
 ·exact h
 ·exact h
 ·exact h
 ·exact h
 ·exact MG h _ _
 ·split
  ·exact MG h _ _
  ·exact h
theorem ND{p:Nat×Nat}{s:LS}{S:AS}{k:Nat}(h:Tie s S (k+1))(hn:p.2<200):Tie (turn p s) (Di p s S) k∧(∃ A',(Di p s S).A=S.A++A'):=by
 obtain⟨h1,h2,h3,h4,h5,h6⟩:=h;have inner:∀ n:Nat,(S.mkr n).mac CN=some ([xM],F0 n):=fun n=>rfl;unfold turn Di;split
 ·exact⟨⟨by show s.oct++_=S.oct++_;rw[h1],h2,h3,by show S.A.length+k≤4;exact XO h4,by show(S.oct++[_,_,_,_]).length+4*k≤16;rw[List.length_append];simp;exact o42 h5,by show S.cost+1+1+10*k≤60;exact Ze h6⟩,[],by rw[List.append_nil];rfl⟩
 ·exact⟨⟨by show s.oct++_=S.oct++_;rw[h1],h2,h3,by show S.A.length+k≤4;exact XO h4,by show(S.oct++[_,_,_,_]).length+4*k≤16;rw[List.length_append];simp;exact o42 h5,by show S.cost+1+1+10*k≤60;exact Ze h6⟩,[],by rw[List.append_nil];rfl⟩
 ·exact⟨⟨by show s.oct++_=S.oct++_;rw[h1],h2,h3,by show S.A.length+k≤4;exact XO h4,by show(S.oct++[_,_,_]).length+4*k≤16;rw[List.length_append];simp;exact o40 h5,by show S.cost+1+1+10*k≤60;exact Ze h6⟩,[],by rw[List.append_nil];rfl⟩
 ·exact⟨⟨by show s.oct++_=S.oct++_;rw[h1],h2,h3,by show S.A.length+k≤4;exact XO h4,by show(S.oct++[_,_,_]).length+4*k≤16;rw[List.length_append];simp;exact o40 h5,by show S.cost+1+1+1+10*k≤60;exact ZN h6⟩,[],by rw[List.append_nil];rfl⟩
 ·exact⟨⟨by show s.oct++_=S.oct++_;rw[h1],(fun n z=>by cases z;exact⟨rfl,hn⟩),h3,by show S.A.length+k≤4;exact XO h4,by show(S.oct++[_]).length+4*k≤16;rw[List.length_append];simp;exact ZD h5,by show S.cost+1+1+1+10*k≤60;exact ZN h6⟩,[],by rw[List.append_nil];rfl⟩
 ·cases q:s.maker with
  | none =>
   have hl:(S.oct++[((p.2:Nat):Int)]).length=s.oct.length+1:=by rw[h1,List.length_append];rfl
   dsimp only;refine⟨⟨?_,(fun n z=>by cases z;exact⟨rfl,hn⟩),?_,?_,?_,by show S.cost+1+1+1+1+1+1+10*k≤60;exact o77 h6⟩,[(S.oct++[((p.2:Nat):Int)]).length],rfl⟩
   ·show s.oct++[((p.2:Nat):Int)]++[((p.2 / 2:Nat):Int),((p.2:Nat):Int),((s.oct.length+1:Nat):Int)]=S.oct++[((p.2:Nat):Int)]++[((p.2 / 2:Nat):Int),((p.2:Nat):Int)]++[(((S.oct++[((p.2:Nat):Int)]).length:Nat):Int)];rw[hl,h1];simp
   ·show S.ser+1=(S.A++[_]).length;rw[List.length_append,h3];rfl
   ·show(S.A++[_]).length+k≤4;rw[List.length_append,List.length_cons,List.length_nil];exact o55 h4
   ·show(S.oct++[_]++[_,_]++[_]).length+4*k≤16;simp;exact Y7 h5
  | some n =>
   dsimp only;obtain⟨m1,m2⟩:=h2 n q;refine⟨⟨?_,(fun n' z=>by cases z;exact⟨m1,m2⟩),?_,?_,?_,by show S.cost+1+1+1+10*k≤60;exact ZN h6⟩,[S.oct.length],rfl⟩
   ·show s.oct++[((p.2 / 2:Nat):Int),(n:Int),((s.oct.length:Nat):Int)]=S.oct++[((p.2 / 2:Nat):Int),(n:Int)]++[((S.oct.length:Nat):Int)];rw[h1];simp
   ·show S.ser+1=(S.A++[_]).length;rw[List.length_append,h3];rfl
   ·show(S.A++[_]).length+k≤4;rw[List.length_append,List.length_cons,List.length_nil];exact o55 h4
   ·show(S.oct++[_,_]++[_]).length+4*k≤16;simp;exact Yo h5
theorem P5:∀(L:List (Nat×Nat)) (s:LS) (S:AS) (k:Nat),Tie s S (L.length+k)→(∀ p∈L,p.2<200)→Tie (Bl L s) (Gy L s S) k∧∃ A',(Gy L s S).A=S.A++A':=by
 intro q1_
 induction q1_ with
 | nil=>intro s S k h _;exact⟨by rw[List.length_nil,Nat.zero_add] at h;exact h,[],by rw[List.append_nil];rfl⟩
 | cons p L ih_ =>
  intro s S k h hp;rfl';obtain⟨t1,A1,e1⟩:=ND (k:=L.length+k) (by rw[List.length_cons] at h;rw[show L.length+k+1=L.length+1+k from by exact aJ];exact h) (hp p (by simp))
  obtain⟨t2,A2,e2⟩:=ih_ (turn p s) (Di p s S) k t1 fun x hx=>hp x (by simp [hx])
  exact⟨t2,A1++A2,by show(Gy L (turn p s) (Di p s S)).A=_;rw[e2,e1,List.append_assoc]⟩
section
variable {fin:Option (List Nat)}{R:List C0}
theorem Sf{σ:PS}{S S':AS}{a k n:Nat}{rest:List Txt}(h:Inv fin S σ)(hc:S.cost≤140)(hk:k<100)(hn:n<200)(hr:(Az R).drop a=DJ k::rest)(hm:S.mac CN=some ([xM],F0 n))(hser:S.ser=S.A.length)(h3:S.A.length<4)(ho:S.oct.length<256)(hF:∀ F,fin=some F→∃ B,F=(S.inn k n).A++B)
  (cont:∀ σ2,Inv fin (S.inn k n) σ2→(Az R).drop (a+1)=rest→AM fin 2 0 R (a+1) σ2 S'):AM fin 2 0 R a σ S' :=
 Sg (m:=1) h hc hk hn hr hm hser h3 ho (fun F hf=>by obtain⟨B,hB⟩:=hF F hf;have:F=(S.A++[S.oct.length])++B:=hB;exact⟨B,by rw[this];simp⟩) (by decide) cont
theorem Y0{M:Nat→Prop}(h0:M 0)(h1:M 1)(h2:M 2)(h3:M 3)(h4:M 4)(h5:∀ f,M (f+5)):∀ n,M n
 | 0=>h0
 | 1=>h1
 | 2=>h2
 | 3=>h3
 | 4=>h4
 | f+5=>h5 f
theorem Le:∀(L:List (Nat×Nat)) (s:LS) (S:AS) (σ:PS) (a:Nat),Tie s S L.length→(∀ p∈L,p.2<200)→(∀ p∈L,∀ i∈ED p.1,has S i)→(∀ F,fin=some F→∃ B,F=(Gy L s S).A++B)→Inv fin S σ→(Az R).drop a=Ah L s→AM fin 2 0 R a σ (Gy L s S):=by
 intro q1_
 induction q1_ with
 | nil=>intro s S σ a _ _ _ _ h hr;exact AM.done h hr
 | cons p L ih_ =>
  intro s S σ a ht hp hn hF h hr;have hp2:=hp p (by simp)
  have hnp:=hn p (by simp)
  obtain⟨t1,A1,e1⟩:=ND (k:=L.length) (by rw[List.length_cons] at ht;exact ht) hp2
  obtain⟨t2,A2,e2⟩:=P5 L (turn p s) (Di p s S) 0 t1 fun x hx=>hp x (by simp [hx])
  have hF':∀ F,fin=some F→∃ B,F=(Di p s S).A++B:=fun F hf=>by refine Pd (hF F hf) fun B hB=>?_;have hB':F=(Gy L (turn p s) (Di p s S)).A++B:=hB;exact⟨A2++B,by rw[hB',e2,List.append_assoc]⟩
  have cont:∀(a':Nat) (σ2:PS),Inv fin (Di p s S) σ2→(Az R).drop a'=Ah L (turn p s)→AM fin 2 0 R a' σ2 (Gy (p::L) s S):=fun a' σ2 h2 hr2 =>
   ih_ (turn p s) (Di p s S) σ2 a' t1 (fun x hx=>hp x (by simp [hx])) (fun x hx i hi=>Sh (hn x (by simp [hx]) i hi)) hF h2 hr2
  have hcost:=ht.cost;have ha4:=ht.a4;have hoo:=ht.o;obtain⟨form,n⟩:=p;have hr':(Az R).drop a=CB (form,n) s++Ah L (turn (form,n) s):=hr;generalize hrest:Ah L (turn (form,n) s)=rest at hr' cont;refine Y0 (M:=fun form=>(∀ i∈ED form,has S i)→(Az R).drop a=CB (form,n) s++rest→(∀(a':Nat) (σ2:PS),Inv fin (Di (form,n) s S) σ2→(Az R).drop a'=rest→AM fin 2 0 R a' σ2 (Gy ((form,n)::L) s S))→(∀ F,fin=some F→∃ B,F=(Di (form,n) s S).A++B)→AM fin 2 0 R a σ (Gy ((form,n)::L) s S)) (fun hnp hr' cont _=>?_) (fun hnp hr' cont _=>?_) (fun hnp hr' cont _=>?_) (fun hnp hr' cont _=>?_) (fun hnp hr' cont _=>?_) (fun f hnp hr' cont hF'=>?_) form hnp hr' cont hF'
  ·exact U2 (m:=1) h (by exact o3 hcost) hp2 hr' (hnp 0 (by simp [ED])) (by decide) fun σ2 h2 hr2=>cont _ σ2 h2 hr2
  ·exact Vm (m:=1) h (by exact o3 hcost) hp2 hr' (hnp 1 (by simp [ED])) (by decide) fun σ2 h2 hr2=>cont _ σ2 h2 hr2
  ·exact U4 (m:=1) h (by exact o3 hcost) hp2 hr' (hnp 2 (by simp [ED])) (by decide) fun σ2 h2 hr2=>cont _ σ2 h2 hr2
  ·exact U3 (m:=0) h (by exact o3 hcost) hp2 hr' (hnp 3 (by simp [ED])) (hnp 2 (by simp [ED])) (by decide) fun σ2 h2 hr2=>cont _ σ2 h2 hr2
  ·exact MF (m:=1) h (by exact o3 hcost) hp2 hr' (hnp 4 (by simp [ED])) (by decide) fun σ2 h2 hr2=>cont _ σ2 h2 hr2
  ·have hr5:(Az R).drop a=(match s.maker with | none=>[E4 n,DJ (n / 2)] | some _=>[DJ (n / 2)])++rest:=hr'
   have hF5:∀ F,fin=some F→∃ B,F=(match s.maker with | none=>(S.mkr n).inn (n / 2) n | some q=>S.inn (n / 2) q).A++B:=hF'
   have c5:∀(a':Nat) (σ2:PS),Inv fin (match s.maker with | none=>(S.mkr n).inn (n / 2) n | some q=>S.inn (n / 2) q) σ2→(Az R).drop a'=rest→AM fin 2 0 R a' σ2 (Gy ((f+5,n)::L) s S):=cont
   rfl';cases q:s.maker with
   | none =>
    rw[q] at hr5 hF5 c5;dsimp only at hr5 hF5 c5;refine MF (m:=1) h (by exact o3 hcost) hp2 hr5 (hnp 4 (by simp [ED])) (by decide) fun σ2 h2 hr2=>?_
    have h2':Inv fin (S.mkr n) σ2:=h2;exact Sf h2' (by show S.cost+1+1+1≤140;exact Yp hcost) (by have:n<200:=hp2;exact p13 hp2) hp2 hr2 rfl ht.ser (by show S.A.length<4;exact o31 ha4) (by show(S.oct++[_]).length<256;rw[List.length_append];simp;exact ZI hoo) hF5 fun σ3 h3 hr3=>c5 _ σ3 h3 hr3
   | some w=>rw[q] at hr5 hF5 c5;dsimp only at hr5 hF5 c5;rfl';obtain⟨m1,m2⟩:=ht.mak w q;exact Sf h (by exact o3 hcost) (by have:n<200:=hp2;exact p13 hp2) m2 hr5 m1 ht.ser (by exact o31 ha4) (by exact ZS hoo) hF5 fun σ3 h3 hr3=>c5 _ σ3 h3 hr3
end
end SL36
section SL37
open PySem
noncomputable def Ap:Nat→List Txt
 | 0=>[OG,GT,Bp]
 | 1=>[Su,JJ,Bp]
 | 2=>[OI,Ed,Bp]
 | 3=>[OH,GU,Bp]
 | _=>[IX,Du,CI,Bu,Dv,Bv,Bp,Bp]
noncomputable def FA:List Nat→List Txt
 | []=>[]
 | i::I=>Ap i++FA I
noncomputable def Da:List Nat→AS→AS
 | [],S=>S
 | i::I,S=>Da I (S.made (MD i).1 (MD i).2.1 (MD i).2.2)
theorem Nt:∀(I:List Nat) (S:AS),(Da I S).oct=S.oct∧(Da I S).A=S.A∧(Da I S).ser=S.ser∧(Da I S).cost=S.cost+I.length:=by
 intro q1_
 induction q1_ with
 | nil=>intro S;exact⟨rfl,rfl,rfl,rfl⟩
 | cons i I ih_=>intro S;refine VU (ih_ (S.made (MD i).1 (MD i).2.1 (MD i).2.2)) fun h1 h2 h3 h4=>?_;refine⟨h1,h2,h3,?_⟩;show(Da I _).cost=_;rw[h4,List.length_cons];exact o59
theorem Vy:∀ i<5,∀ j<5,(MD i).1=(MD j).1→i=j:=by decide +kernel
theorem KM{S:AS}{i j:Nat}(hi:i<5)(hj:j<5)(h:has S i∨i=j):has (S.made (MD j).1 (MD j).2.1 (MD j).2.2) i:=by
 show(bif decide ((MD j).1=(MD i).1) then some ((MD j).2.1,(MD j).2.2) else S.mac (MD i).1)=some (MD i).2;cases q:decide ((MD j).1=(MD i).1) with
 | true=>have:=Vy j hj i hi (of_decide_eq_true q);rw[this];rfl
 | false =>
  rcases h with h | h
  ·exact h
  ·rw[h] at q;simp at q
theorem QR:∀(I:List Nat) (S:AS),(∀ i∈I,i<5)→∀ i,i<5→(has S i∨i∈I)→has (Da I S) i:=by
 intro q1_
 induction q1_ with
 | nil =>
  intro S _ i _ h;rcases h with h | h
  ·exact h
  ·rfl';cases (h)
 | cons j I ih_ =>
  intro S hI i hi h;refine ih_ _ (fun x hx=>hI x (by simp [hx])) i hi ?_
  rcases h with h | h
  ·exact .inl (KM hi (hI j (by simp)) (.inl h))
  ·rcases List.mem_cons.mp h with h | h
   ·exact .inl (KM hi (hI j (by simp)) (.inr h))
   ·exact .inr h
section
variable {fin:Option (List Nat)}{R:List C0}{S':AS}
theorem QC{i:Nat}(hi:i<5){S:AS}{σ:PS}{a:Nat}{rest:List Txt}(h:Inv fin S σ)(hc:S.cost≤140)(hr:(Az R).drop a=Ap i++rest)(cont:∀(a':Nat) (σ2:PS),Inv fin (S.made (MD i).1 (MD i).2.1 (MD i).2.2) σ2→(Az R).drop a'=rest→AM fin 2 0 R a' σ2 S'):AM fin 2 0 R a σ S':=by
 match i,hi,hr,cont with
 | 0,_,hr,cont =>
  have hd:Jq OG=some ⟨some K6,BF,Av ([xH,xB].map .name)⟩:=by decide +kernel
  exact AM.mac h (by exact o6 hc) (bt:=[GT]) (tE:=Bp) (rest:=rest) hr (DZ hd) (by decide) (by decide +kernel) (W:=[Af,Ey]) (.cons Hv (.cons Br .nil)) (by decide +kernel) fun σ2 h2 h3=>cont _ σ2 h2 h3
 | 1,_,hr,cont =>
  have hd:Jq Su=some ⟨some Rb,BF,Av ([xA].map .name)⟩:=by decide +kernel
  exact AM.mac h (by exact o6 hc) (bt:=[JJ]) (tE:=Bp) (rest:=rest) hr (DZ hd) (by decide) (by decide +kernel) (W:=[Af,Ey]) (.cons J0 (.cons Br .nil)) (by decide +kernel) fun σ2 h2 h3=>cont _ σ2 h2 h3
 | 2,_,hr,cont =>
  have hd:Jq OI=some ⟨some Fh,BF,Av ([xP,xQ,xN].map .name)⟩:=by decide +kernel
  exact AM.mac h (by exact o6 hc) (bt:=[Ed]) (tE:=Bp) (rest:=rest) hr (DZ hd) (by decide) (by decide +kernel) (W:=[Af,Ey]) (.cons Fi (.cons Br .nil)) (by decide +kernel) fun σ2 h2 h3=>cont _ σ2 h2 h3
 | 3,_,hr,cont =>
  have hd:Jq OH=some ⟨some K7,BF,Av ([xN].map .name)⟩:=by decide +kernel
  exact AM.mac h (by exact o6 hc) (bt:=[GU]) (tE:=Bp) (rest:=rest) hr (DZ hd) (by decide) (by decide +kernel) (W:=[Fh,Ey]) (.cons Hw (.cons Br .nil)) (by decide +kernel) fun σ2 h2 h3=>cont _ σ2 h2 h3
 | 4,_,hr,cont =>
  have hd:Jq IX=some ⟨some G2,BF,Av ([xN].map .name)⟩:=by decide +kernel
  exact AM.mac h (by exact o6 hc) (bt:=[Du,CI,Bu,Dv,Bv,Bp]) (tE:=Bp) (rest:=rest) hr (DZ hd) (by decide) (by decide +kernel) (W:=[Af,BF,CZ,Af,Af,Ey,Ey]) (.cons HF (.cons HG (.cons Em (.cons HH (.cons D1 (.cons Br (.cons Br .nil))))))) (by decide +kernel) fun σ2 h2 h3=>cont _ σ2 h2 h3
theorem Nd:∀(I:List Nat) (S:AS) (σ:PS) (a:Nat) (rest:List Txt),(∀ i∈I,i<5)→Inv fin S σ→S.cost+I.length≤140→(Az R).drop a=FA I++rest→(∀(a':Nat) (σ2:PS),Inv fin (Da I S) σ2→(Az R).drop a'=rest→AM fin 2 0 R a' σ2 S')→AM fin 2 0 R a σ S':=by
 intro q1_
 induction q1_ with
 | nil=>intro S σ a rest _ h _ hr cont;exact cont a σ h hr
 | cons i I ih_ =>
  intro S σ a rest hI h hc hr cont;have hr':(Az R).drop a=Ap i++(FA I++rest):=by rw[hr];show(Ap i++FA I)++rest=_;rw[List.append_assoc]
  exact QC (hI i (by simp)) h (by exact ah hc) hr' fun a' σ2 h2 h3=>ih_ _ σ2 a' rest (fun x hx=>hI x (by simp [hx])) h2 (by show S.cost+1+I.length≤140;exact aM hc) h3 cont
end
theorem Tq:∀(L:List (Nat×Nat)) (s:LS) (x:Nat),x∈s.wan→x∈(Bl L s).wan:=by
 intro q1_
 induction q1_ with
 | nil=>intro _ _ h;exact h
 | cons p L ih_ =>
  intro s x h;refine ih_ (turn p s) x ?_;unfold turn;split
  ·simp [h]
  ·simp [h]
  ·simp [h]
  ·simp [h]
  ·simp [h]
  ·split<;>simp [h]
theorem Tr:∀(L:List (Nat×Nat)) (s:LS),(s.maker≠none→4∈s.wan)→∀ p∈L,∀ i∈ED p.1,i∈(Bl L s).wan:=by
 intro q1_
 induction q1_ with
 | nil=>intro _ _ p hp _ _;cases (hp)
 | cons q L ih_ =>
  intro s hs p hp i hi;have hs':(turn q s).maker≠none→4∈(turn q s).wan:=by
   unfold turn;split
   ·intro z;simp [hs z]
   ·intro z;simp [hs z]
   ·intro z;simp [hs z]
   ·intro z;simp [hs z]
   ·intro z;simp
   ·split
    ·intro z;simp
    ·rename_i hm;intro z;exact hs (by rw[hm];simp)
  rcases List.mem_cons.mp hp with rfl | hp'
  ·refine Tq L (turn p s) i ?_;obtain⟨f,n⟩:=p
   match f,hi with
   | 0,hi=>simp [ED] at hi;simp [turn,hi]
   | 1,hi=>simp [ED] at hi;simp [turn,hi]
   | 2,hi=>simp [ED] at hi;simp [turn,hi]
   | 3,hi=>simp [ED] at hi;rcases hi with hi | hi<;>simp [turn,hi]
   | 4,hi=>simp [ED] at hi;simp [turn,hi]
   | f+5,hi =>
    have hi4:i=4:=by have:i∈[4]:=hi;simpa using this
    rw[hi4];show 4∈(match s.maker with
     | none=>(⟨s.oct++[(n:Int)]++[((n / 2:Nat):Int),(n:Int),((s.oct.length+1:Nat):Int)],s.wan++[4],some n⟩:LS)
     | some q=>⟨s.oct++[((n / 2:Nat):Int),(q:Int),((s.oct.length:Nat):Int)],s.wan,some q⟩).wan
    cases q:s.maker with
    | none=>simp
    | some w=>exact hs (by rw[q];simp)
  ·exact ih_ (turn q s) hs' p hp' i hi
noncomputable def S0:AS:=⟨[],[],0,fun _=>none,0⟩
noncomputable def s0:LS:=⟨[],[],none⟩
theorem YK:Inv none S0 (F1 false [] [] []) :=
 ⟨rfl,rfl,fun z=>(by cases z),fun _=>rfl,rfl,rfl,rfl,⟨rfl,rfl⟩,by decide,fun _ _ _ z=>(by cases z),rfl,fun _ z=>(by cases z),by decide,by decide,by decide,by decide,by decide⟩
theorem YL{F:List Nat}{sizes:List V}(hF:F.length≤4)(hs:sizes.length≤200):Inv (some F) S0 (F1 true (names F.length) (FK F) sizes) :=
 ⟨rfl,rfl,fun _=>rfl,fun z=>(by cases z),rfl,rfl,rfl,⟨rfl,rfl,hF,F,rfl⟩,by decide,fun _ _ _ z=>(by cases z),rfl,fun _ z=>(by cases z),Nat.zero_le _,(show(4000:Int) - ((0:Nat):Int)≤4000 by decide),hs,Nat.zero_le _,by decide⟩
noncomputable def CO(s:LS):List Nat:=[0,1,2,3,4].filter fun i=>s.wan.contains i
theorem Rc(s:LS):∀ i∈CO s,i<5:=by intro i hi;unfold CO at hi;have:=(List.mem_filter.mp hi).1;simp at this;exact p36 this
theorem JY(s:LS):(CO s).length≤5:=List.length_filter_le _ _
theorem PR:∀(f i:Nat),i∈ED f→i<5:=by
 intro f i h
 match f,h with
 | 0,h=>simp [ED] at h;exact bk h
 | 1,h=>simp [ED] at h;exact bh h
 | 2,h=>simp [ED] at h;exact bf h
 | 3,h=>simp [ED] at h;exact p97 h
 | f+4,h=>have:i∈[4]:=h;simp at this;exact bg this
theorem GJ:∀(ts:List Txt) (k:Nat),Az (numbered k ts)=ts
 | [],_=>rfl
 | t::ts,k=>by show t::Az (numbered (k+1) ts)=_;rw[GJ]
theorem NZ(L:List (Nat×Nat))(hl:L.length≤4)(hp:∀ p∈L,p.2<200):∃ σ1 σ2,Walks 2 0 (numbered 0 (FA (CO (Bl L s0))++Ah L s0)) 0 (F1 false [] [] []) σ1∧Walks 2 0 (numbered 0 (FA (CO (Bl L s0))++Ah L s0)) 0 (F1 true σ1.sk σ1.sv σ1.sizes) σ2∧σ1.sk.Nodup∧σ1.sk.length=σ1.sv.length∧(∀ k∈σ1.sk,σ1.fk.contains k=true)∧σ2.octs=Bk 0 (Bl L s0).oct∧(Bl L s0).oct.length≤16:=by
 have hI:=Rc (Bl L s0);have hIl:=JY (Bl L s0);have hin:∀ i,i<5→i∈(Bl L s0).wan→i∈CO (Bl L s0):=fun i hi hm=>by
  unfold CO;rw[List.mem_filter];refine⟨by simp;exact p12 hi,?_⟩
  exact List.contains_iff_mem.mpr hm
 have hneed:=Tr L s0 (fun z=>absurd rfl z);generalize hIe:CO (Bl L s0)=I at hI hIl hin;rfl';refine VU (Nt I S0) fun k1 k2 k3 k4=>?_;have htie:Tie s0 (Da I S0) (L.length+0):=⟨by rw[k1];rfl,(fun n z=>by cases z),by rw[k3,k2];rfl,by rw[k2];show 0+(L.length+0)≤4;exact au hl,by rw[k1];show 0+4*(L.length+0)≤16;exact Zq hl,by rw[k4];show 0+I.length+10*(L.length+0)≤60;exact o89 hl hIl⟩
 obtain⟨t2,A',hA'⟩:=P5 L s0 (Da I S0) 0 htie hp;have hhas:∀ p∈L,∀ i∈ED p.1,has (Da I S0) i:=fun p hpL i hi=>QR I S0 hI i (PR _ _ hi) (.inr (hin i (PR _ _ hi) (hneed p hpL i hi)));have walk:∀(fin:Option (List Nat)) (σ:PS),Inv fin S0 σ→(∀ F,fin=some F→∃ B,F=(Gy L s0 (Da I S0)).A++B)→AM fin 2 0 (numbered 0 (FA I++Ah L s0)) 0 σ (Gy L s0 (Da I S0)):=fun fin σ h hF =>
  Nd I S0 σ 0 (Ah L s0) hI h (by show 0+I.length≤140;exact Z7 hIl) (by rw[GJ];rfl) fun a' σ2 h2 h3 =>
   Le L s0 (Da I S0) σ2 a' htie hp hhas hF h2 h3
 refine BA (walk none _ YK (fun F z=>by cases z)) fun σ1 w1 i1=>?_
 obtain⟨e1,e2⟩:=i1.sym;have h4:=i1.a4;have hc:=t2.cost;have hs:=i1.sz;have hz:zb none=0:=rfl;refine BA (walk (some (Gy L s0 (Da I S0)).A) _ (YL h4 (sizes:=σ1.sizes) (by exact Ye hc hs hz)) (fun F z=>by cases z;exact⟨[],by rw[List.append_nil]⟩)) fun σ2 w2 i2=>?_
 refine Xs σ1 σ2 w1 (by rw[e1,e2];exact w2) (by rw[e1];exact Sy _ h4) (by rw[e1,e2,D2,HJ]) (fun k hk=>?_) ?_ ?_
 ·rw[i1.fk,← e1];exact List.contains_iff_mem.mpr hk
 ·rw[i2.octs i2.last,t2.oct]
 ·rw[t2.oct];have:=t2.o;exact aG this
noncomputable def Ea(t:Txt):Bool:=decide (t.length≤100)&&!t.contains 10
noncomputable def VQ(n:Nat):Bool:=Ea (Lb n)&&Ea (SE n)&&Ea (Ld n)&&Ea (Lc n)&&Ea (E4 n)&&Ea (DJ n)
theorem Om:(List.range 200).all VQ=true:=by decide +kernel
theorem QD:∀(I:List Nat),∀ t∈FA I,Ea t=true:=by
 intro q1_
 induction q1_ with
 | nil=>intro t h;cases (h)
 | cons i I ih_ =>
  intro t h;rcases List.mem_append.mp h with h | h
  ·have key:∀ i,(Ap i).all Ea=true:=fun i=>by
    match i with
    | 0=>decide +kernel
    | 1=>decide +kernel
    | 2=>decide +kernel
    | 3=>decide +kernel
    | i+4=>show([IX,Du,CI,Bu,Dv,Bv,Bp,Bp]:List Txt).all Ea=true;decide +kernel
   exact List.all_eq_true.mp (key i) t h
  ·exact ih_ t h
theorem O1{p:Nat×Nat}(hp:p.2<200)(s:LS):∀ t∈CB p s,Ea t=true:=by
 have f:=Ae Om hp;have g:=Ae Om (show p.2 / 2<200 by exact p20 hp)
 unfold VQ at f g;simp only[Bool.and_eq_true] at f g;rfl';obtain⟨⟨⟨⟨⟨f1,f2⟩,f3⟩,f4⟩,f5⟩,f6⟩:=f;intro t ht;unfold CB at ht;split at ht
 ·simp at ht;rw[ht];exact f1
 ·simp at ht;rw[ht];exact f2
 ·simp at ht;rw[ht];exact f3
 ·simp at ht;rw[ht];exact f4
 ·simp at ht;rw[ht];exact f5
 ·split at ht
  ·simp at ht;rcases ht with ht | ht
   ·rw[ht];exact f5
   ·rw[ht];exact g.2
  ·simp at ht;rw[ht];exact g.2
theorem N4:∀(L:List (Nat×Nat)) (s:LS),(∀ p∈L,p.2<200)→∀ t∈Ah L s,Ea t=true:=by
 intro q1_
 induction q1_ with
 | nil=>intro _ _ t h;cases (h)
 | cons p L ih_ =>
  intro s hp t h;rcases List.mem_append.mp h with h | h
  ·exact O1 (hp p (by simp)) s t h
  ·exact ih_ (turn p s) (fun x hx=>hp x (by simp [hx])) t h
theorem Lh:∀ I:List Nat,(FA I).length≤8*I.length:=by
 intro q1_
 induction q1_ with
 | nil =>
  decide
 | cons i I ih_ =>
  have:=ih_;have h8:(Ap i).length≤8:=by
   match i with
   | 0=>decide
   | 1=>decide
   | 2=>decide
   | 3=>decide
   | i+4=>exact Nat.le_refl 8
  show(Ap i++FA I).length≤_;rw[List.length_append,List.length_cons];exact Yy this h8
theorem H3(p:Nat×Nat)(s:LS):1≤(CB p s).length∧(CB p s).length≤2:=by
 unfold CB;split
 ·simp
 ·simp
 ·simp
 ·simp
 ·simp
 ·split<;>simp
theorem Ps:∀(L:List (Nat×Nat)) (s:LS),L.length≤(Ah L s).length∧(Ah L s).length≤2*L.length:=by
 intro q1_
 induction q1_ with
 | nil=>intro _;simp [Ah]
 | cons p L ih_=>intro s;have h1:=ih_ (turn p s);have h2:=H3 p s;show _≤(CB p s++Ah L (turn p s)).length∧(CB p s++Ah L (turn p s)).length≤_;rw[List.length_append,List.length_cons];exact o72 h1 h2
theorem Vq:∀(ts:List Txt),(∀ t∈ts,Ea t=true)→(jl ts).length≤101*ts.length:=by
 intro q1_
 induction q1_ with
 | nil =>
  intro _
  decide
 | cons x q2_ ih_ =>
  cases q2_ with
  | nil =>
   intro h;have:=h x (by simp)
   unfold Ea at this;simp only[Bool.and_eq_true,decide_eq_true_eq] at this;show x.length≤_;simp;exact bY this
  | cons y r =>
   intro h;have:=h x (by simp)
   unfold Ea at this;simp only[Bool.and_eq_true,decide_eq_true_eq] at this;have ih:=ih_ fun t ht=>h t (List.mem_cons_of_mem _ ht);show(x++10::jl (y::r)).length≤_;rw[List.length_append,List.length_cons,List.length_cons];have h1:=this.1;generalize (jl (y::r)).length=q at ih ⊢;generalize (y::r).length=w at ih ⊢;exact Yl this ih
end SL37
section SL38
open PySem
theorem Fa{n a:Nat}{vs:List V}{st τ:St}{fl:Fl}{μ:AG}{v:V}(np ns:Nat)(b:List S)(hf:FT a=some ⟨np,ns,.scoped,b⟩)(hl:decide (vs.length=np)=true)
  (h:exs CT (AP CT FT n) (vs.map some++List.replicate (ns - np) none) ⟨st.objs,st.next,st.ro⟩ b=some ((fl,μ),τ)) (hn:st.next≤τ.next) (hz:Fv τ.objs st.next 40 (MA fl)=some v):∃ st',AP CT FT (n+1) a vs st=some (v,st')∧st'.next=st.next∧st'.lo=st.lo∧st'.ro=st.ro∧∀ j,j<st.next→st'.get j=τ.get j:=by
 refine y15 (τ.cut st.next st.lo st.ro) ?_ ?_ rfl rfl ?_
 ·rw[JR _ hf hl];dsimp only;rw[h];unfold Aj;dsimp only;rw[hz];rfl
 ·unfold St.cut St.next;rw[List.length_take];exact Nat.min_eq_left hn
 ·intro j hj;unfold St.cut St.get;rw[List.getElem?_take_of_lt hj]
theorem RS{i:Nat}{st:St}{a b v:V}(hg:st.get i=some (.list [a,b]))(hw:st.wr i v=true):Dg (.ref i) (.int 1) v st=some ((),st.put i (.list [a,v])):=by
 unfold Dg;dsimp only;rw[hg];dsimp only;rw[show GG 1 ([a,b]:List V).length=some 1 from rfl]
 rw[hw];rfl
theorem QU{i:Nat}{st:St}{a b:V}(hg:st.get i=some (.list [a,b])):BR (.ref i) (.int 0) st=some a:=by
 have:items st (.ref i)=some [a,b]:=by unfold items;dsimp only;rw[hg]
 exact(IW (k:=0) this (fun _ z=>by cases (z)) (by exact aR)).trans rfl
theorem KL{i:Nat}{st:St}{a b:V}(hg:st.get i=some (.list [a,b])):BR (.ref i) (.int 1) st=some b:=by
 have:items st (.ref i)=some [a,b]:=by unfold items;dsimp only;rw[hg]
 exact(IW (k:=1) this (fun _ z=>by cases (z)) (by exact aU)).trans rfl
theorem PE{x:Int}{many:Nat}(hx:0≤x)(hm:0<many):∃ v:Nat,v<many∧x.fmod (many:Nat)=(v:Nat):=by refine Pd (Int.eq_ofNat_of_zero_le hx) fun y z_1=>?_;subst z_1;refine⟨y % many,Nat.mod_lt _ hm,?_⟩;rw[Int.fmod_eq_emod_of_nonneg _ (Int.natCast_nonneg many)];exact(Int.natCast_emod y many).symm
noncomputable def Ty(gs:List V):Prop:=gs.length≤12∧∀ v∈gs,∃ g:Nat,v=.int (g:Nat)
theorem Tc{C:AC}{sk:Nat}{τ τ1:St}{k l km g m v:Int}{gs:V}(i1:BR (.ref sk) (.int 1) τ=some (.int k))(s1:Dg (.ref sk) (.int 1) (.int (k+1)) τ=some ((),τ1))(j0:BR (.ref sk) (.int 0) τ1=some gs)(j1:BR (.ref sk) (.int 1) τ1=some (.int (k+1)))(hln:FO .len [gs] τ1=some (.int l))(q:decide (k+1≤l)=true)(hkm:k+1 - 1=km)(hix:BR gs (.int km) τ1=some (.int g))(md:B7 .Mod (.int g) (.int m) τ1=some (.int v)):∃ μ,exs CT C [some (.ref sk),some (.int m),none] τ C3=some ((.ret (.int v),μ),τ1):=FW [.o i1,.u s1,.o j1,.o j0,.o hln,.nc,.br q,.o j0,.o j1,.o (show BR gs (.int (k+1 - 1)) τ1=some (.int g) by rw[hkm];exact hix),.o md] (by kernel_rfl)
theorem Tb{C:AC}{sk:Nat}{τ τ1:St}{k l kk m v:Int}{gs:V}(i1:BR (.ref sk) (.int 1) τ=some (.int k))(s1:Dg (.ref sk) (.int 1) (.int (k+1)) τ=some ((),τ1))(j0:BR (.ref sk) (.int 0) τ1=some gs)(j1:BR (.ref sk) (.int 1) τ1=some (.int (k+1)))(hln:FO .len [gs] τ1=some (.int l))(q:decide (k+1≤l)=false)(hml:B7 .Mult (.int 3) (.int (k+1)) τ1=some (.int kk))(md:B7 .Mod (.int (kk+1)) (.int m) τ1=some (.int v)):∃ μ,exs CT C [some (.ref sk),some (.int m),none] τ C3=some ((.ret (.int v),μ),τ1):=FW [.o i1,.u s1,.o j1,.o j0,.o hln,.nc,.br q,.o j1,.o hml,.o md] (by kernel_rfl)
theorem XJ{k:Int}(hk:small k=true)(st:St):B7 .Mult (.int 3) (.int k) st=some (.int (3*k)):=by unfold B7;dsimp only;rw[hk];rfl
theorem H4{k:Int}(h0:0≤k)(h1:k≤100000):small k=true:=by unfold small;rw[Bool.and_eq_true,decide_eq_true_eq,decide_eq_true_eq];exact p84 h0 h1
theorem JO(n:Nat){sk k many:Nat}{gs:List V}{st:St}(hg:st.get sk=some (.list [.lst gs,.int (k:Nat)]))(hgs:Ty gs)(hk:k≤100)(hm:0<many)(hro:st.ro=0):∃ st' v,v<many∧AP CT FT (n+1) 651 [.ref sk,.int (many:Nat)] st=some (.int (v:Nat),st')∧st'.get sk=some (.list [.lst gs,.int (k+1:Nat)])∧st'.next=st.next∧st'.lo=st.lo∧st'.ro=0∧∀ j,j<st.next→j≠sk→st'.get j=st.get j:=by
 have g0:(⟨st.objs,st.next,st.ro⟩:St).get sk=some (.list [.lst gs,.int (k:Nat)]):=hg;have r0:(⟨st.objs,st.next,st.ro⟩:St).ro=0:=hro;have hx0:(⟨st.objs,st.next,st.ro⟩:St).next=st.next:=rfl;have hget:∀ j,(⟨st.objs,st.next,st.ro⟩:St).get j=st.get j:=fun _=>rfl;have hb:∃ v μ τ',v<many∧exs CT (AP CT FT n) [some (.ref sk),some (.int (many:Nat)),none] ⟨st.objs,st.next,st.ro⟩ C3=some ((.ret (.int (v:Nat)),μ),τ')∧τ'.next=st.next∧τ'.get sk=some (.list [.lst gs,.int (k+1:Nat)])∧∀ j,j≠sk→τ'.get j=st.get j:=by
  generalize (⟨st.objs,st.next,st.ro⟩:St)=τ at g0 r0 hx0 hget;have s1:=RS (v:=.int ((k:Int)+1)) g0 (Dw (by rw[r0];exact Nat.zero_le _) rfl)
  have i1:=KL g0;have g1:(τ.put sk (.list [.lst gs,.int ((k:Int)+1)])).get sk=some (.list [.lst gs,.int ((k:Int)+1)]):=AJ (get_lt g0);have nx1:(τ.put sk (.list [.lst gs,.int ((k:Int)+1)])).next=st.next:=by rw[A8];exact hx0
  have ot:∀ j,j≠sk→(τ.put sk (.list [.lst gs,.int ((k:Int)+1)])).get j=st.get j:=fun j hj=>(AA fun z=>hj z.symm).trans (hget j);rfl';generalize τ.put sk (.list [.lst gs,.int ((k:Int)+1)])=τ1 at s1 g1 nx1 ot;have j0:=QU g1;have j1:=KL g1;have hln:=DY (st:=τ1) (xs:=gs) (by have:=hgs.1;exact bG this)
  have sub1:((k:Int)+1) - 1=(k:Nat):=by exact p93
  have hmz:decide (((many:Nat):Int)=0)=false:=decide_eq_false (by omega)
  have md:=fun x=>mod_int x ((many:Nat):Int) hmz τ1;cases q:decide (((k:Int)+1)≤(gs.length:Int)) with
  | true =>
   have hlt:k<gs.length:=by have:=of_decide_eq_true q;exact p90 this
   refine Pd (hgs.2 gs[k] (List.getElem_mem hlt)) fun g hgv=>?_;have hix:=PI (xs:=gs) (v:=.int (g:Nat)) (st:=τ1) (k:=k) (by rw[List.getElem?_eq_getElem hlt,hgv]) (by exact XQ hk)
   refine BA (PE (x:=(g:Nat)) (many:=many) (Int.natCast_nonneg g) hm) fun v hv1 hv2=>?_;have md':=md ((g:Nat):Int);rw[hv2] at md';have hfin:=Tc (C:=AP CT FT n) i1 s1 j0 j1 hln q sub1 hix md';refine Pd hfin fun μ hfin=>?_;exact y35 v μ τ1 hv1 hfin nx1 g1 ot
  | false =>
   refine BA (PE (x:=3*((k:Int)+1)+1) (many:=many) (by exact p61) hm) fun v hv1 hv2=>?_
   have md':=md (3*((k:Int)+1)+1);rw[hv2] at md';have hml:=XJ (k:=(k:Int)+1) (H4 (by exact p75) (by exact p85 hk)) τ1
   have hfin:=Tb (C:=AP CT FT n) i1 s1 j0 j1 hln q hml md';obtain⟨μ,hfin⟩:=hfin;exact y35 v μ τ1 hv1 hfin nx1 g1 ot
 rfl';refine x35 hb fun v μ τ' h1 h2 h3 h4 h5=>?_;clear hb;refine x15 (Fa (a:=651) (vs:=[.ref sk,.int (many:Nat)]) (fl:=.ret (.int (v:Nat))) (v:=.int (v:Nat)) 2 3 C3 rfl rfl h2 (Nat.le_of_eq h3.symm) (Db rfl)) fun st' e1 e2 e3 e4 e5=>?_;exact Xs st' v h1 e1 ((e5 _ (get_lt hg)).trans h4) e2 e3 (e4.trans hro) (fun j hj hs=>(e5 j hj).trans (h5 j hs))
end SL38
section SL39
open PySem
noncomputable def OA:Txt:=[111,99,116,101,116,115]
noncomputable def OB:Txt:=[119,97,110,116,101,100]
noncomputable def ML:Txt:=[109,97,107,101,114]
structure BookSt(oct wan:List V)(mk:V)(sk:O)(st:St):Prop where
 g0:st.get 0=some sk
 g1:st.get 1=some (.list oct)
 g2:st.get 2=some (.list wan)
 g3:st.get 3=some (.dict [OA,OB,ML] [.ref 1,.ref 2,mk])
 ro:st.ro=0
 nx:4≤st.next
section
variable {oct wan:List V}{mk:V}{sk:O}{st:St}
theorem BookSt.put1(h:BookSt oct wan mk sk st)(oct':List V):BookSt oct' wan mk sk (st.put 1 (.list oct')) :=
 ⟨(AA (by decide)).trans h.g0,AJ (get_lt h.g1),(AA (by decide)).trans h.g2,(AA (by decide)).trans h.g3,h.ro,by rw[A8];exact h.nx⟩
theorem BookSt.put2(h:BookSt oct wan mk sk st)(wan':List V):BookSt oct wan' mk sk (st.put 2 (.list wan')) :=
 ⟨(AA (by decide)).trans h.g0,(AA (by decide)).trans h.g1,AJ (get_lt h.g2),(AA (by decide)).trans h.g3,h.ro,by rw[A8];exact h.nx⟩
theorem BookSt.put3(h:BookSt oct wan mk sk st)(mk':V):BookSt oct wan mk' sk (st.put 3 (.dict [OA,OB,ML] [.ref 1,.ref 2,mk'])) :=
 ⟨(AA (by decide)).trans h.g0,(AA (by decide)).trans h.g1,(AA (by decide)).trans h.g2,AJ (get_lt h.g3),h.ro,by rw[A8];exact h.nx⟩
theorem BookSt.putR(h:BookSt oct wan mk sk st){r:Nat}(hr:4≤r)(o:O):BookSt oct wan mk sk (st.put r o) :=
 ⟨(AA (by exact cA hr)).trans h.g0,(AA (by exact bp hr)).trans h.g1,(AA (by exact bl hr)).trans h.g2,(AA (by exact bm hr)).trans h.g3,h.ro,by rw[A8];exact h.nx⟩
theorem Bs{st:St}(o:O){j:Nat}(h:j<st.next):(st.add o).get j=st.get j:=Ak st [o] h
theorem Dn(st:St)(o:O):(st.add o).get st.next=some o:=A0 st [o]
theorem Ii(st:St)(o:O):(st.add o).next=st.next+1:=A7 st [o]
theorem BookSt.add(h:BookSt oct wan mk sk st)(o:O):BookSt oct wan mk sk (st.add o):=by have:=h.nx;exact⟨(Bs o (by exact bj this)).trans h.g0,(Bs o (by exact cC this)).trans h.g1,(Bs o (by exact XU this)).trans h.g2,(Bs o (by exact cB this)).trans h.g3,h.ro,by rw[Ii];exact bN this⟩
theorem BookSt.iO(h:BookSt oct wan mk sk st):BR (.ref 3) (.str OA) st=some (.ref 1):=by unfold BR;dsimp only;rw[h.g3];rfl
theorem BookSt.iW(h:BookSt oct wan mk sk st):BR (.ref 3) (.str OB) st=some (.ref 2):=by unfold BR;dsimp only;rw[h.g3];rfl
theorem BookSt.iM(h:BookSt oct wan mk sk st):BR (.ref 3) (.str ML) st=some mk:=by unfold BR;dsimp only;rw[h.g3];rfl
theorem BookSt.wr(h:BookSt oct wan mk sk st)(i:Nat){v:V}(hv:AN v=true):st.wr i v=true:=Dw (by rw[h.ro];exact Nat.zero_le _) hv
theorem Ln{i r:Nat}{st:St}{xs ys:List V}(hg:st.get i=some (.list xs))(ha:st.get r=some (.list ys))(hf:refFrees ys=true)(hro:st.ro=0)(hl:xs.length+ys.length≤100000):BS (.ref i) 1 [.ref r] st=some (.none,st.put i (.list (xs++ys))):=by
 have:AD st (.ref r)=some ys:=by unfold AD;dsimp only;rw[ha]
 unfold BS;dsimp only;rw[hg];show(match AD st (V.ref r) with
  | some ys=>A9 (Nat.beq 1 1&&(refFrees ys&&(Nat.ble st.ro i&&Nat.ble (xs.length+ys.length) Cs))) (some (V.none,st.put i (.list (xs++ys))))
  | none=>none)=_
 rw[this];show A9 (true&&(refFrees ys&&(Nat.ble st.ro i&&Nat.ble (xs.length+ys.length) Cs))) _=_;rw[hf,hro,Bf _ hl];rfl
theorem B9{i:Nat}{st:St}{xs:List V}(hg:st.get i=some (.list xs)):EO st (.ref i) 1=true:=by unfold EO;dsimp only;rw[hg];rfl
theorem PM{i:Nat}{st:St}{xs:List V}(hg:st.get i=some (.list xs))(hl:xs.length≤1000):FO .len [.ref i] st=some (.int (xs.length:Nat)):=by unfold FO items;dsimp only;rw[hg];dsimp only;rw[Bf _ (by exact o7 hl)];rfl
structure Kp(a b:St):Prop where
 nx:a.next≤b.next
 get:∀ j,4≤j→j<a.next→b.get j=a.get j
theorem Kp.trans{a b c:St}(h:Kp a b)(h':Kp b c):Kp a c:=⟨Nat.le_trans h.nx h'.nx,fun j h4 hj=>(h'.get j h4 (Nat.lt_of_lt_of_le hj h.nx)).trans (h.get j h4 hj)⟩
theorem Kp.put(st:St){i:Nat}(o:O)(hi:i<4):Kp st (st.put i o):=⟨Nat.le_of_eq A8.symm,fun _ h4 _=>AA (Nat.ne_of_lt (Nat.lt_of_lt_of_le hi h4))⟩
theorem Kp.add(st:St)(o:O):Kp st (st.add o):=⟨by rw[Ii];exact Nat.le_succ _,fun _ _ hj=>Bs o hj⟩
noncomputable def G4(C:AC)(μ:AG)(τ:St)(b:List S)(oct wan:List V)(mk:V)(sk:O)(rows:List Txt):Prop :=
 ∃ μ' τ' r,exs CT C μ τ b=some ((.ret (.ref r),μ'),τ')∧BookSt oct wan mk sk τ'∧τ'.get r=some (.list (Ag rows))∧τ.next≤r∧τ.next≤τ'.next∧(∀ j,4≤j→j<τ.next→τ'.get j=τ.get j)
theorem Im(h:BookSt oct wan mk sk st)(hw:wan.length≤900){v:V}(hv:AN v=true):∃ τ1,BS (.ref 2) 0 [v] st=some (.none,τ1)∧BookSt oct (wan++[v]) mk sk τ1∧Kp st τ1 :=
 ⟨_,D3 h.g2 (h.wr 2 hv) (by exact o8 hw),h.put2 _,Kp.put _ _ (by decide)⟩
theorem FP(h:BookSt oct wan mk sk st)(ys:List V)(hf:refFrees ys=true)(ho:oct.length+ys.length≤100000):∃ τ2 τ3,st.add (.list ys)=τ2∧BS (.ref 1) 1 [.ref st.next] τ2=some (.none,τ3)∧BookSt (oct++ys) wan mk sk τ3∧Kp st τ3 :=
 have b:=h.add (.list ys)
 ⟨_,_,rfl,Ln b.g1 (Dn st (.list ys)) hf b.ro ho,b.put1 _,(Kp.add _ _).trans (Kp.put _ _ (by decide))⟩
theorem KC(h:BookSt oct wan mk sk st)(ys:List V)(hf:refFrees ys=true)(ho:wan.length+ys.length≤100000):∃ τ2 τ3,st.add (.list ys)=τ2∧BS (.ref 2) 1 [.ref st.next] τ2=some (.none,τ3)∧BookSt oct (wan++ys) mk sk τ3∧Kp st τ3 :=
 have b:=h.add (.list ys)
 ⟨_,_,rfl,Ln b.g2 (Dn st (.list ys)) hf b.ro ho,b.put2 _,(Kp.add _ _).trans (Kp.put _ _ (by decide))⟩
theorem Gg{C:AC}{μ:AG}{τ τ3:St}{b:List S}{rows:List Txt}(e:∃ μ',exs CT C μ τ b=some ((.ret (.ref τ3.next),μ'),τ3.add (.list (Ag rows))))(h:BookSt oct wan mk sk τ3)(k:Kp τ τ3):G4 C μ τ b oct wan mk sk rows :=
 let ⟨μ',e⟩:=e
 ⟨μ',_,_,e,h.add _,Dn _ _,k.nx,Nat.le_trans k.nx (Kp.add _ _).nx,(k.trans (Kp.add _ _)).get⟩
theorem UI{C:AC}{n:Int}{dg x1 x2:Txt}(h:BookSt oct wan mk sk st)(ho:oct.length≤900)(hw:wan.length≤900)(hs:∀ st,FO .str [.int n] st=some (.str dg))(e1:∀ st,B7 .Add (.str [32,66,89,84,69,32]) (.str dg) st=some (.str x1))(e2:∀ st,B7 .Add (.str x1) (.str [44,55]) st=some (.str x2)):G4 C [some (.ref 0),some (.ref 3),some (.int 0),some (.int n),none,none,none,none,none] st (Ab.drop 1) (oct++[.int 16,.int 5,.int n,.int 7]) (wan++[.int 0]) mk sk [x2]:=by
 rfl';refine FE (Im h hw (v:=.int 0) rfl) fun τ1 w3 b1 p1=>?_;refine Ie (FP b1 [.int 16,.int 5,.int n,.int 7] rfl (by show oct.length+4≤100000;exact o88 ho)) fun τ2 τ3 a2 o3 b3 p3=>?_
 exact Gg (FW [.o h.iW,.mo (A4 h.g2 0),.gu (Ay h.g2),.m w3,.o b1.iO,.mo (A4 b1.g1 1),.gu (B9 b1.g1),.al ⟨rfl,a2⟩,.m o3,.v hs,.v e1,.v e2] (by kernel_rfl)) b3 (p1.trans p3)
theorem UJ{C:AC}{n:Int}{dg x1:Txt}(h:BookSt oct wan mk sk st)(ho:oct.length≤900)(hw:wan.length≤900)(hs:∀ st,FO .str [.int n] st=some (.str dg))(e1:∀ st,B7 .Add (.str [32,72,69,88,32]) (.str dg) st=some (.str x1)):G4 C [some (.ref 0),some (.ref 3),some (.int 1),some (.int n),none,none,none,none,none] st (Ab.drop 1) (oct++[.int 10,.int n,.int 160,.int 1]) (wan++[.int 1]) mk sk [x1]:=by
 rfl';refine FE (Im h hw (v:=.int 1) rfl) fun τ1 w3 b1 p1=>?_;refine Ie (FP b1 [.int 10,.int n,.int 160,.int 1] rfl (by show oct.length+4≤100000;exact o88 ho)) fun τ2 τ3 a2 o3 b3 p3=>?_
 exact Gg (FW [.o h.iW,.mo (A4 h.g2 0),.gu (Ay h.g2),.m w3,.o b1.iO,.mo (A4 b1.g1 1),.gu (B9 b1.g1),.al ⟨rfl,a2⟩,.m o3,.v hs,.v e1] (by kernel_rfl)) b3 (p1.trans p3)
theorem UK{C:AC}{n:Int}{dg x1:Txt}(h:BookSt oct wan mk sk st)(ho:oct.length≤900)(hw:wan.length≤900)(hs:∀ st,FO .str [.int n] st=some (.str dg))(e1:∀ st,B7 .Add (.str [32,83,87,65,80,32,65,70,39,44,32,65,70,32,44]) (.str dg) st=some (.str x1)):G4 C [some (.ref 0),some (.ref 3),some (.int 2),some (.int n),none,none,none,none,none] st (Ab.drop 1) (oct++[.int 201,.int 202,.int n]) (wan++[.int 2,.int 2]) mk sk [x1]:=by
 rfl';refine Ie (KC h [.int 2,.int 2] rfl (by show wan.length+2≤100000;exact o92 hw)) fun τ0 τ1 a0 w3 b1 p1=>?_
 refine Ie (FP b1 [.int 201,.int 202,.int n] rfl (by show oct.length+3≤100000;exact bv ho)) fun τ2 τ3 a2 o3 b3 p3=>?_
 exact Gg (FW [.o h.iW,.mo (A4 h.g2 1),.gu (B9 h.g2),.al ⟨rfl,a0⟩,.m w3,.o b1.iO,.mo (A4 b1.g1 1),.gu (B9 b1.g1),.al ⟨rfl,a2⟩,.m o3,.v hs,.v e1] (by kernel_rfl)) b3 (p1.trans p3)
theorem UL{C:AC}{n:Int}{dg x1:Txt}(h:BookSt oct wan mk sk st)(ho:oct.length≤900)(hw:wan.length≤900)(hs:∀ st,FO .str [.int n] st=some (.str dg))(e1:∀ st,B7 .Add (.str [32,104,97,110,100,32]) (.str dg) st=some (.str x1)):G4 C [some (.ref 0),some (.ref 3),some (.int 3),some (.int n),none,none,none,none,none] st (Ab.drop 1) (oct++[.int 202,.int 201,.int n]) (wan++[.int 2,.int 3]) mk sk [x1]:=by
 rfl';refine Ie (KC h [.int 2,.int 3] rfl (by show wan.length+2≤100000;exact o92 hw)) fun τ0 τ1 a0 w3 b1 p1=>?_
 refine Ie (FP b1 [.int 202,.int 201,.int n] rfl (by show oct.length+3≤100000;exact bv ho)) fun τ2 τ3 a2 o3 b3 p3=>?_
 exact Gg (FW [.o h.iW,.mo (A4 h.g2 1),.gu (B9 h.g2),.al ⟨rfl,a0⟩,.m w3,.o b1.iO,.mo (A4 b1.g1 1),.gu (B9 b1.g1),.al ⟨rfl,a2⟩,.m o3,.v hs,.v e1] (by kernel_rfl)) b3 (p1.trans p3)
end
end SL39
section SL40
open PySem
section
variable {oct wan:List V}{mk:V}{sk:O}{st:St}
theorem Uw(h:BookSt oct wan mk sk st){v:V}(hv:AN v=true):Dg (.ref 3) (.str ML) v st=some ((),st.put 3 (.dict [OA,OB,ML] [.ref 1,.ref 2,v])):=by
 have:=Cd (k:=ML) (v:=v) h.g3 (h.wr 3 hv) (by simp)
 rw[this];rfl
theorem La(h:BookSt oct wan mk sk st)(ho:oct.length≤900)(hw:wan.length≤900)(n:Int):∃ τ1 τ2 τ3,BS (.ref 2) 0 [.int 4] st=some (.none,τ1)∧BookSt oct (wan++[.int 4]) mk sk τ1∧BS (.ref 1) 0 [.int n] τ1=some (.none,τ2)∧Dg (.ref 3) (.str ML) (.int n) τ2=some ((),τ3)∧BookSt (oct++[.int n]) (wan++[.int 4]) (.int n) sk τ3∧Kp st τ3 :=
 let ⟨τ1,w3,b1,k1⟩:=Im h hw (v:=.int 4) rfl
 have b2:=b1.put1 (oct++[.int n])
 ⟨τ1,_,_,w3,b1,D3 b1.g1 (b1.wr 1 rfl) (by exact o8 ho),Uw b2 rfl,b2.put3 (.int n),k1.trans ((Kp.put _ _ (by decide)).trans (Kp.put _ _ (by decide)))⟩
theorem L9{q hn:Int}(h:BookSt oct wan (.int q) sk st)(ho:oct.length≤900){r:Nat}{x1:Txt}{rows:List Txt}(hr:st.get r=some (.list (Ag rows)))(hr4:4≤r)(hrl:rows.length≤900) :
  ∃ τ1 τ2 τ3,st.add (.list [.int hn,.int q,.int (oct.length:Nat)])=τ1∧BS (.ref 1) 1 [.ref st.next] τ1=some (.none,τ2)∧τ2.get r=some (.list (Ag rows))∧BS (.ref r) 0 [.str x1] τ2=some (.none,τ3)∧BookSt (oct++[.int hn,.int q,.int (oct.length:Nat)]) wan (.int q) sk τ3∧τ3.get r=some (.list (Ag (rows++[x1])))∧st.next≤τ3.next∧(∀ j,4≤j→j<st.next→j≠r→τ3.get j=st.get j):=by
 rfl';refine Ie (FP h [.int hn,.int q,.int (oct.length:Nat)] rfl (by show oct.length+3≤100000;exact bv ho)) fun τ1 τ2 a1 o3 b2 k2=>?_
 have hr2:=(k2.get r hr4 (get_lt hr)).trans hr;have er:Ag rows++[.str x1]=Ag (rows++[x1]):=by unfold Ag;rw[List.map_append];rfl
 exact y38 τ1 τ2 _ a1 o3 hr2 (D3 hr2 (b2.wr r rfl) (by unfold Ag;rw[List.length_map];exact o8 hrl)) (b2.putR hr4 _) ((AJ (get_lt hr2)).trans (by rw[er])) (by rw[A8];exact k2.nx) (fun j h4 hj hne=>(AA fun z=>hne z.symm).trans (k2.get j h4 hj))
theorem UM{C:AC}{n:Int}{dg x1:Txt}(h:BookSt oct wan mk sk st)(ho:oct.length≤900)(hw:wan.length≤900)(hs:∀ st,FO .str [.int n] st=some (.str dg))(e1:∀ st,B7 .Add (.str [32,77,65,75,69,82,32]) (.str dg) st=some (.str x1)):G4 C [some (.ref 0),some (.ref 3),some (.int 4),some (.int n),none,none,none,none,none] st (Ab.drop 1) (oct++[.int n]) (wan++[.int 4]) (.int n) sk [x1]:=by have b0:=h.add (.list []);refine Xq (La b0 ho hw n) fun τ1 τ2 τ3 w3 b1 o3 s3 b3 k3=>?_;exact Gg (FW [.o b0.iW,.mo (A4 b0.g2 0),.gu (Ay b0.g2),.m w3,.o b1.iO,.mo (A4 b1.g1 0),.gu (Ay b1.g1),.m o3,.u s3,.v hs,.v e1] (by kernel_rfl)) b3 ((Kp.add _ _).trans k3)
theorem SH{C:AC}{n hn:Int}{dg dh x1 x2:Txt}(h:BookSt oct wan .none sk st)(ho:oct.length≤800)(hw:wan.length≤800)(hs:∀ st,FO .str [.int n] st=some (.str dg))(e1:∀ st,B7 .Add (.str [32,77,65,75,69,82,32]) (.str dg) st=some (.str x1))(hf:∀ st,B7 .FloorDiv (.int n) (.int 2) st=some (.int hn))(hs2:∀ st,FO .str [.int hn] st=some (.str dh))(e2:∀ st,B7 .Add (.str [32,73,78,78,69,82,32]) (.str dh) st=some (.str x2)):G4 C [some (.ref 0),some (.ref 3),some (.int 5),some (.int n),none,none,none,none,none] st (Ab.drop 1) ((oct++[.int n])++[.int hn,.int n,.int ((oct++[V.int n]).length:Nat)]) (wan++[.int 4]) (.int n) sk [x1,x2]:=by
 have b0:=h.add (.list []);rfl';refine Xq (La b0 (by exact cD ho) (by exact cD hw) n) fun τ1 τ2 τ3 w3 b1 o3 s3 b3 k3=>?_
 have b4:=b3.add (.list [.str x1]);have k4:=(Kp.add st (.list [])).trans k3;have hol:(oct++[V.int n]).length≤900:=by rw[List.length_append];simp;exact bP ho
 have hr:=Dn τ3 (.list (Ag [x1]));refine x38 (L9 (hn:=hn) (x1:=x2) b4 hol hr b3.nx (by simp)) fun τ5 τ6 τ7 a5 o6 r6 o7 b7 g7 n7 k7=>?_
 obtain⟨μ,e⟩:=FW (C:=C) (μ:=[some (.ref 0),some (.ref 3),some (.int 5),some (.int n),none,none,none,none,none]) (st:=st) (s:=τ7) (b:=Ab.drop 1) (fl:=.ret (.ref τ3.next)) [.o b0.iM,.o b0.iW,.mo (A4 b0.g2 0),.gu (Ay b0.g2),.m w3,.o b1.iO,.mo (A4 b1.g1 0),.gu (Ay b1.g1),.m o3,.u s3,.v hs,.v e1,
  .o b4.iO,.o (PM b4.g1 (by exact o8 hol)),.o b4.iO,.mo (A4 b4.g1 1),.gu (B9 b4.g1),.v hf,.o b4.iM,.al ⟨rfl,a5⟩,.m o6,.mo (A4 r6 0),.gu (Ay r6),.v hf,.v hs2,.v e2,.m o7] (by kernel_rfl)
 have k5:=k4.trans (Kp.add τ3 (.list [.str x1]));exact y36 μ τ7 τ3.next e b7 g7 k4.nx (Nat.le_trans k5.nx n7) (fun j hj hl=>(k7 j hj (Nat.lt_of_lt_of_le hl k5.nx) (Nat.ne_of_lt (Nat.lt_of_lt_of_le hl k4.nx))).trans (k5.get j hj hl))
theorem SI{C:AC}{n q hn:Int}{dh x2:Txt}(h:BookSt oct wan (.int q) sk st)(ho:oct.length≤800)(hf:∀ st,B7 .FloorDiv (.int n) (.int 2) st=some (.int hn))(hs2:∀ st,FO .str [.int hn] st=some (.str dh))(e2:∀ st,B7 .Add (.str [32,73,78,78,69,82,32]) (.str dh) st=some (.str x2)):G4 C [some (.ref 0),some (.ref 3),some (.int 5),some (.int n),none,none,none,none,none] st (Ab.drop 1) (oct++[.int hn,.int q,.int (oct.length:Nat)]) wan (.int q) sk [x2]:=by
 have b4:=h.add (.list []);have hol:oct.length≤900:=by exact cD ho
 rfl';refine x38 (L9 (hn:=hn) (x1:=x2) (rows:=[]) b4 hol (Dn st (.list [])) h.nx (by simp)) fun τ5 τ6 τ7 a5 o6 r6 o7 b7 g7 n7 k7=>?_
 refine Pd (FW (C:=C) (μ:=[some (.ref 0),some (.ref 3),some (.int 5),some (.int n),none,none,none,none,none]) (st:=st) (s:=τ7) (b:=Ab.drop 1) (fl:=.ret (.ref st.next)) [.o b4.iM,.o b4.iO,.o (PM b4.g1 (by exact o8 hol)),.o b4.iO,.mo (A4 b4.g1 1),.gu (B9 b4.g1),.v hf,.o b4.iM,.al ⟨rfl,a5⟩,.m o6,.mo (A4 r6 0),.gu (Ay r6),.v hf,.v hs2,.v e2,.m o7] (by kernel_rfl)) fun μ e=>?_
 have k5:=Kp.add st (.list []);exact y36 μ τ7 st.next e b7 g7 (Nat.le_refl _) (Nat.le_trans k5.nx n7) (fun j hj hl=>(k7 j hj (Nat.lt_of_lt_of_le hl k5.nx) (Nat.ne_of_lt hl)).trans (k5.get j hj hl))
end
end SL40
section SL41
open PySem
noncomputable def wV(l:List Nat):List V:=l.map fun(i:Nat)=>.int (i:Nat)
noncomputable def Wb:Option Nat→V
 | none=>.none
 | some q=>.int (q:Nat)
theorem On:(List.range 200).all (fun n=>decide ((dn n).length≤5))=true:=by decide +kernel
theorem Oh{n:Nat}(h:n<200)(st:St):FO .str [.int (n:Nat)] st=some (.str (dn n)):=by
 unfold FO;dsimp only;rw[decide_eq_true (show(0:Int)≤(n:Nat) by exact p9),decide_eq_true (show((n:Nat):Int)<100000 by exact p99 h)]
 rfl
theorem FJ{n:Nat}(h:n<200){x:Txt}(hx:x.length≤100)(st:St):B7 .Add (.str x) (.str (dn n)) st=some (.str (x++dn n)) :=
 GN (by have:=of_decide_eq_true (Ae On h);exact Zz hx this)
theorem Vg{i k:Int}(hs:small i=true)(hd:i.fdiv 2=k)(st:St):B7 .FloorDiv (.int i) (.int 2) st=some (.int k):=by
 have h1:decide ((2:Int)=0)=false:=rfl;have h2:small 2=true:=H4 (by decide) (by decide)
 have h3:decide ((2:Int).natAbs<1000000)=true:=decide_eq_true (by decide)
 unfold B7;dsimp only;rw[hs,hd,h1,h2,h3];rfl
theorem PF{n:Nat}(h:n<200)(st:St):B7 .FloorDiv (.int (n:Nat)) (.int 2) st=some (.int ((n / 2:Nat):Int)):=by
 refine Vg (H4 (by exact p9) (by exact p95 h)) ?_ st
 rw[Int.fdiv_eq_ediv_of_nonneg _ (by decide)]
 omega
theorem BookSt.drawn{oct wan:List V}{mk:V}{sk sk':O}{st st':St}(h:BookSt oct wan mk sk st)(h0:st'.get 0=some sk')(hx:st'.next=st.next)(hr:st'.ro=0)(hg:∀ j,j<st.next→j≠0→st'.get j=st.get j):BookSt oct wan mk sk' st':=by have:=h.nx;exact⟨h0,(hg 1 (by exact cC this) (by decide)).trans h.g1,(hg 2 (by exact XU this) (by decide)).trans h.g2,(hg 3 (by exact cB this) (by decide)).trans h.g3,hr,by exact az hx this⟩
theorem BookSt.same{oct wan:List V}{mk:V}{sk:O}{st st':St}(h:BookSt oct wan mk sk st)(hx:4≤st'.next)(hr:st'.ro=0)(hg:∀ j,j<4→st'.get j=st.get j):BookSt oct wan mk sk st' :=
 ⟨(hg 0 (by decide)).trans h.g0,(hg 1 (by decide)).trans h.g1,(hg 2 (by decide)).trans h.g2,(hg 3 (by decide)).trans h.g3,hr,hx⟩
theorem FY(a b:List Int):iV (a++b)=iV a++iV b:=by unfold iV;rw[List.map_append]
theorem H7(a b:List Nat):wV (a++b)=wV a++wV b:=by unfold wV;rw[List.map_append]
theorem R8(C:AC)(s:LS){sk:O}{st:St}(h:BookSt (iV s.oct) (wV s.wan) (Wb s.maker) sk st)(ho:s.oct.length≤100)(hw:s.wan.length≤100)(f n:Nat)(hf:f<6)(hn:n<200):G4 C [some (.ref 0),some (.ref 3),some (.int (f:Nat)),some (.int (n:Nat)),none,none,none,none,none] st (Ab.drop 1) (iV (turn (f,n) s).oct) (wV (turn (f,n) s).wan) (Wb (turn (f,n) s).maker) sk (CB (f,n) s):=by
 have hol:(iV s.oct).length≤100:=by rw[FZ];exact ho
 have hwl:(wV s.wan).length≤100:=by unfold wV;rw[List.length_map];exact hw
 have hs:=fun st=>Oh hn st;have h2:n / 2<200:=by exact p20 hn
 match f,hf with
 | 0,_ =>
  have e:=UI (C:=C) (x1:=[32,66,89,84,69,32]++dn n) (x2:=Lb n) h (by exact o4 hol) (by exact o4 hwl) hs (fun st=>FJ hn (by decide) st) (fun st=>by rw[GN (by have:=of_decide_eq_true (Ae On hn);rw[List.length_append];simp;exact aa this),List.append_assoc];rfl)
  show G4 C _ _ _ (iV (s.oct++[16,5,(n:Int),7])) (wV (s.wan++[0])) _ _ _;rw[FY,H7];exact e
 | 1,_ =>
  have e:=UJ (C:=C) (x1:=SE n) h (by exact o4 hol) (by exact o4 hwl) hs (fun st=>FJ hn (by decide) st)
  show G4 C _ _ _ (iV (s.oct++[10,(n:Int),160,1])) (wV (s.wan++[1])) _ _ _;rw[FY,H7];exact e
 | 2,_ =>
  have e:=UK (C:=C) (x1:=Ld n) h (by exact o4 hol) (by exact o4 hwl) hs (fun st=>FJ hn (by decide) st)
  show G4 C _ _ _ (iV (s.oct++[201,202,(n:Int)])) (wV (s.wan++[2,2])) _ _ _;rw[FY,H7];exact e
 | 3,_ =>
  have e:=UL (C:=C) (x1:=Lc n) h (by exact o4 hol) (by exact o4 hwl) hs (fun st=>FJ hn (by decide) st)
  show G4 C _ _ _ (iV (s.oct++[202,201,(n:Int)])) (wV (s.wan++[2,3])) _ _ _;rw[FY,H7];exact e
 | 4,_ =>
  have e:=UM (C:=C) (x1:=E4 n) h (by exact o4 hol) (by exact o4 hwl) hs (fun st=>FJ hn (by decide) st)
  show G4 C _ _ _ (iV (s.oct++[(n:Int)])) (wV (s.wan++[4])) _ _ _;rw[FY,H7];exact e
 | 5,_ =>
  cases q:s.maker with
  | none =>
   rw[q] at h;have e:=SH (C:=C) (x1:=E4 n) (x2:=DJ (n / 2)) h (by exact bz hol) (by exact bz hwl) hs (fun st=>FJ hn (by decide) st) (fun st=>PF hn st) (fun st=>Oh h2 st) (fun st=>FJ h2 (by decide) st)
   have t1:turn (5,n) s=⟨s.oct++[(n:Int)]++[((n / 2:Nat):Int),(n:Int),((s.oct.length+1:Nat):Int)],s.wan++[4],some n⟩:=by unfold turn;rw[q];rfl
   have t2:CB (5,n) s=[E4 n,DJ (n / 2)]:=by unfold CB;rw[q];rfl
   rw[t1,t2];rw[FY,FY,H7];have hl:((iV s.oct++[V.int (n:Nat)]).length:Nat)=s.oct.length+1:=by rw[List.length_append,FZ];rfl
   rw[hl] at e;exact e
  | some w =>
   rw[q] at h;have e:=SI (C:=C) (q:=(w:Nat)) (x2:=DJ (n / 2)) h (by exact bz hol) (fun st=>PF hn st) (fun st=>Oh h2 st) (fun st=>FJ h2 (by decide) st)
   have t1:turn (5,n) s=⟨s.oct++[((n / 2:Nat):Int),(w:Int),((s.oct.length:Nat):Int)],s.wan,some w⟩:=by unfold turn;rw[q];rfl
   have t2:CB (5,n) s=[DJ (n / 2)]:=by unfold CB;rw[q];rfl
   rw[t1,t2];rw[FY];rw[FZ] at e;exact e
theorem M9(n:Nat)(s:LS){gs:List V}{k:Nat}{st:St}(h:BookSt (iV s.oct) (wV s.wan) (Wb s.maker) (.list [.lst gs,.int (k:Nat)]) st)(hgs:Ty gs)(hk:k≤90)(ho:s.oct.length≤100)(hw:s.wan.length≤100) :
  ∃ p st',p.1<6∧p.2<200∧AP CT FT (n+2) 665 [.ref 0,.ref 3] st=some (.lst (Ag (CB p s)),st')∧BookSt (iV (turn p s).oct) (wV (turn p s).wan) (Wb (turn p s).maker) (.list [.lst gs,.int (k+2:Nat)]) st'∧st'.next=st.next∧st'.lo=st.lo∧∀ j,4≤j→j<st.next→st'.get j=st.get j:=by
 have h0:BookSt (iV s.oct) (wV s.wan) (Wb s.maker) (.list [.lst gs,.int (k:Nat)]) ⟨st.objs,st.next,st.ro⟩:=h.same h.nx h.ro fun j _=>rfl;have hx:(⟨st.objs,st.next,st.ro⟩:St).next=st.next:=rfl;have hgt:∀ j,(⟨st.objs,st.next,st.ro⟩:St).get j=st.get j:=fun _=>rfl;rfl';generalize hτ:(⟨st.objs,st.next,st.ro⟩:St)=τ at h0 hx hgt;refine W6 (JO n (many:=6) h0.g0 hgs (by exact bU hk) (by decide) h0.ro) fun τ1 f f1 f2 f3 f4 f5 f6 f7=>?_
 have b1:=h0.drawn f3 f4 f6 f7;refine W6 (JO n (many:=200) b1.g0 hgs (by exact aj hk) (by decide) b1.ro) fun τ2 v v1 v2 v3 v4 v5 v6 v7=>?_
 have b2:=b1.drawn v3 v4 v6 v7;refine Xq (R8 (AP CT FT (n+1)) s b2 ho hw f v f1 v1) fun μ τ3 r e1 e2 e3 e4 e5 e6=>?_;have hb:exs CT (AP CT FT (n+1)) [some (.ref 0),some (.ref 3),none,none,none,none,none,none,none] τ Ab=some ((.ret (.ref r),μ),τ3):=by exact(HQ (l:=Ab) (μ':=[some (.ref 0),some (.ref 3),some (.int (f:Nat)),some (.int (v:Nat)),none,none,none,none,none]) (st':=τ2) 1 (BN [.m f2,.m v2] (by kernel_rfl))).trans e1
 have hnx:=h.nx;have hfrz:Fv τ3.objs st.next 40 (.ref r)=some (.lst (Ag (CB (f,v) s))):=IU e3 (by exact Yg hx f4 v4 e4) (Ff _) (by unfold Ag;rw[List.length_map];have:=H3 (f,v) s;exact Zu this)
 subst hτ;refine x15 (Fa (a:=665) (vs:=[.ref 0,.ref 3]) (fl:=.ret (.ref r)) (v:=.lst (Ag (CB (f,v) s))) 2 9 Ab rfl rfl hb (by exact Y6 v4 e5 hx f4) hfrz) fun st' g1 g2 g3 g4 g5=>?_
 refine Xs (f,v) st' f1 v1 g1 (e2.same (by exact Ym hnx g2) (g4.trans h.ro) (fun j hj=>g5 j (by exact o75 hnx hj))) g2 g3 (fun j hj hl=>?_)
 rw[g5 j hl,e6 j hj (by exact o66 v4 hx f4 hl),v7 j (by exact o79 hx f4 hl) (by exact cA hj),f7 j (by exact o9 hx hl) (by exact cA hj)]
 rfl
end SL41
section SL42
open PySem
set_option tactic.hygienic true in
theorem Ds{c:V}{st st':St}{xs:List V}(h:AD st c=some xs)(hg:∀ j,c=.ref j→j<st.next→st'.get j=st.get j):AD st' c=some xs:=by
 cases c with
 | ref j =>
  have hlt:j<st.next:=by
   unfold AD at h;dsimp only at h;rfl';split at h
   ·rename_i ys hq;exact get_lt hq
   ·cases h
  rw[← h];unfold AD;dsimp only;rw[hg j rfl hlt]
 | lst ys=>exact h
 | _=>cases h
theorem G5{a b:V}{st:St}{xs ys:List V}(ha:AD st a=some xs)(hb:AD st b=some ys)(hl:xs.length+ys.length≤100000):B7 .Add a b st=some (.lst (xs++ys)):=by
 have key:Pi a b st=match AD st a,AD st b with
  | some xs,some ys=>match Nat.ble (xs.length+ys.length) Cs with
   | true=>some (.lst (xs++ys))
   | false=>none
  | _,_=>none:=by
  cases a with
  | ref i=>cases (b)<;>rfl
  | lst zs=>cases (b)<;>rfl
  | _=>cases ha
 show Pi a b st=_;rw[key,ha,hb];dsimp only;rw[Bf _ hl]
theorem Ib(a b:List Txt):Ag (a++b)=Ag a++Ag b:=by unfold Ag;rw[List.map_append]
theorem R9(p:Nat×Nat)(s:LS):(turn p s).oct.length≤s.oct.length+4∧(turn p s).wan.length≤s.wan.length+2:=by
 unfold turn;split
 ·simp
 ·simp
 ·simp
 ·simp
 ·simp
 ·split<;>simp
theorem Qh{C:AC}{τ τ':St}{c3:V}{ys:V}{z:V}{l:List V}(hc:AD τ c3=some l)(x0 u4 u5 u6 u7 u8:Option V)(hcall:C 665 [.ref 0,.ref 3] τ=some (ys,τ'))(hadd:B7 .Add c3 ys τ'=some z):exs CT C [x0,some (.ref 0),some (.ref 3),some c3,u4,u5,u6,u7,u8] τ Ic=some ((.next,[x0,some (.ref 0),some (.ref 3),some z,u4,u5,u6,u7,u8]),τ'):=by
 cases c3 with
 | ref i=>exact BN [.m hcall,.o hadd] (by kernel_rfl)
 | lst xs=>exact BN [.m hcall,.o hadd] (by kernel_rfl)
 | _=>cases hc
noncomputable def Ig(s:LS)(sk:O)(st:St):Prop:=BookSt (iV s.oct) (wV s.wan) (Wb s.maker) sk st
theorem Qg(n:Nat)(body:AG→St→M (Fl×AG))(hb:∀ μ st,body μ st=exs CT (AP CT FT (n+2)) μ st Ic){gs:List V}(hgs:Ty gs)(x0 u5 u6 u7 u8:Option V):∀(xs:List V) (s:LS) (k:Nat) (τ:St) (c3:V) (acc:List Txt) (u4:Option V),Ig s (.list [.lst gs,.int (k:Nat)]) τ→k+2*xs.length≤90→s.oct.length+4*xs.length≤100→s.wan.length+2*xs.length≤100→AD τ c3=some (Ag acc)→(∀ j,c3=.ref j→4≤j)→acc.length+2*xs.length≤100 →
  ∃ L c3' u4' sk τ',L.length=xs.length∧(∀ p∈L,p.2<200)∧Bn (.loc 4) body xs [x0,some (.ref 0),some (.ref 3),some c3,u4,u5,u6,u7,u8] τ=some ((.next,[x0,some (.ref 0),some (.ref 3),some c3',u4',u5,u6,u7,u8]),τ')∧Ig (Bl L s) sk τ'∧AD τ' c3'=some (Ag (acc++Ah L s))∧τ'.next=τ.next∧τ'.lo=τ.lo:=by
 intro q1_
 induction q1_ with
 | nil=>intro s k τ c3 acc u4 h _ _ _ hc _ _;exact y57 [] c3 u4 _ τ rfl (fun _ z=>(by cases (z))) rfl h (by show AD τ c3=some (Ag (acc++[]));rw[List.append_nil];exact hc) rfl rfl
 | cons x xs ih_ =>
  intro s k τ c3 acc u4 h hk ho hw hc hj ha;rfl';refine W6 (M9 n s h hgs (by exact ZY hk) (by exact o95 ho) (by exact Y9 hw)) fun p τ1 p1 p2 r1 b1 n1 l1 g1=>?_
  have hc1:AD τ1 c3=some (Ag acc):=Ds hc fun j hj' hlt=>g1 j (hj j hj') hlt;have hrl:=H3 p s;have hadd:=G5 (b:=.lst (Ag (CB p s))) hc1 rfl (by rw[Ce,Ce];exact o61 ha hrl)
  rw[← Ib] at hadd;have e:=Qh (C:=AP CT FT (n+2)) hc x0 (some x) u5 u6 u7 u8 r1 hadd;have hg:=R9 p s;refine x57 (ih_ (turn p s) (k+2) τ1 (.lst (Ag (acc++CB p s))) (acc++CB p s) (some x) b1 (by exact Yr hk) (by exact o86 ho hg) (by exact o83 hw hg) rfl (fun j z=>by cases (z)) (by rw[List.length_append];exact o78 ha hrl)) fun L c3' u4' sk τ' e1 e2 e3 e4 e5 e6 e7=>?_
  refine y57 (p::L) c3' u4' sk τ' (by rw[List.length_cons,List.length_cons,e1]) ?_ (DR (μ1:=[x0,some (.ref 0),some (.ref 3),some c3,some x,u5,u6,u7,u8]) rfl ((hb _ _).trans e) e3) e4 ?_ (e6.trans n1) (e7.trans l1)
  ·intro q hq;rcases List.mem_cons.mp hq with rfl | hq
   ·exact p2
   ·exact e2 q hq
  ·rw[e5,List.append_assoc];rfl
theorem XC(i:Nat):∀ l:List Nat,C8 (.int (i:Nat)) (wV l)=some (l.contains i):=by
 intro q1_
 induction q1_ with
 | nil=>exact rfl
 | cons y l ih_ =>
  show(match DL (.int (y:Nat)) (.int (i:Nat)),C8 (.int (i:Nat)) (wV l) with
   | some p,some q=>some (p||q)
   | _,_=>none)=_
  rw[ih_];show some (decide (((y:Nat):Int)=(i:Nat))||l.contains i)=some ((y::l).contains i)
  congr 2
  rw[Bool.eq_iff_iff];simp;omega
theorem Vu{C:AC}{τ:St}{c5 z y:V}{i:Int}{l:List V}(hc:AD τ c5=some l)(x0 x1 u3 u4 u8:Option V)(h1:BR (.ref 3) (.str OB) τ=some (.ref 2))(h2:Qa (.int i) (.ref 2) τ=some true)(h3:B7 .Add c5 y τ=some z):exs CT C [x0,x1,some (.ref 3),u3,u4,some c5,some (.int i),some y,u8] τ HE=some ((.next,[x0,x1,some (.ref 3),u3,u4,some z,some (.int i),some y,u8]),τ):=by
 cases c5 with
 | ref j=>exact BN [.o h1,.o1 h2,.o h3] (by kernel_rfl)
 | lst xs=>exact BN [.o h1,.o1 h2,.o h3] (by kernel_rfl)
 | _=>cases hc
theorem Vt{C:AC}{τ:St}{c5 z y:V}{i:Int}{l:List V}(hc:AD τ c5=some l)(x0 x1 u3 u4 u8:Option V)(h1:BR (.ref 3) (.str OB) τ=some (.ref 2))(h2:Qa (.int i) (.ref 2) τ=some false)(h3:B7 .Add c5 (.ref τ.next) (τ.add (.list []))=some z):exs CT C [x0,x1,some (.ref 3),u3,u4,some c5,some (.int i),some y,u8] τ HE=some ((.next,[x0,x1,some (.ref 3),u3,u4,some z,some (.int i),some y,u8]),τ.add (.list [])):=by
 cases c5 with
 | ref j=>exact BN [.o h1,.o1 h2,.o h3] (by kernel_rfl)
 | lst xs=>exact BN [.o h1,.o1 h2,.o h3] (by kernel_rfl)
 | _=>cases hc
noncomputable def GW(r i0:Nat):List V:=BQ i0 ((List.range' i0 r).map fun i=>V.lst (Ag (Ap i)))
theorem Qi(C:AC)(body:AG→St→M (Fl×AG))(hb:∀ μ st,body μ st=exs CT C μ st HE)(x0 x1 u3 u4 u8:Option V){s:LS}{sk:O}:∀(r i0:Nat) (τ:St) (c5:V) (acc:List Txt) (u6 u7:Option V),Ig s sk τ→AD τ c5=some (Ag acc)→acc.length+8*r≤100 →
  ∃ c5' u6' u7' τ',Bn (.tup [6,7]) body (GW r i0) [x0,x1,some (.ref 3),u3,u4,some c5,u6,u7,u8] τ=some ((.next,[x0,x1,some (.ref 3),u3,u4,some c5',u6',u7',u8]),τ')∧Ig s sk τ'∧AD τ' c5'=some (Ag (acc++FA ((List.range' i0 r).filter fun i=>s.wan.contains i)))∧τ'.lo=τ.lo∧τ'.ro=τ.ro∧τ.next≤τ'.next∧(∀ j,j<τ.next→τ'.get j=τ.get j):=by
 intro q1_
 induction q1_ with
 | zero=>intro i0 τ c5 acc u6 u7 h hc _;exact cr c5 u6 u7 τ rfl h (by show AD τ c5=some (Ag (acc++[]));rw[List.append_nil];exact hc) rfl rfl (Nat.le_refl _) (fun _ _=>rfl)
 | succ r ih_ =>
  intro i0 τ c5 acc u6 u7 h hc ha;have hit:GW (r+1) i0=.tup [.int (i0:Nat),.lst (Ag (Ap i0))]::GW r (i0+1):=rfl;have hin:Qa (.int (i0:Nat)) (.ref 2) τ=some (s.wan.contains i0):=by unfold Qa;dsimp only;rw[h.g2];exact XC i0 s.wan
  have h8:(Ap i0).length≤8:=by have:=Lh [i0];simp [FA] at this;exact this
  have hfl:(List.range' i0 (r+1)).filter (fun i=>s.wan.contains i)=bif s.wan.contains i0 then i0::(List.range' (i0+1) r).filter (fun i=>s.wan.contains i) else(List.range' (i0+1) r).filter (fun i=>s.wan.contains i):=by rw[List.range'_succ,List.filter_cons];cases s.wan.contains i0<;>rfl
  rw[hit,hfl];cases q:s.wan.contains i0 with
  | true =>
   rw[q] at hin;have hadd:=G5 (b:=.lst (Ag (Ap i0))) hc rfl (by rw[Ce,Ce];exact Yw ha h8)
   rw[← Ib] at hadd;have e:=Vu (C:=C) (y:=.lst (Ag (Ap i0))) hc x0 x1 u3 u4 u8 h.iW hin hadd;refine cm (ih_ (i0+1) τ (.lst (Ag (acc++Ap i0))) (acc++Ap i0) (some (.int (i0:Nat))) (some (.lst (Ag (Ap i0)))) h rfl (by rw[List.length_append];exact Yj ha h8)) fun c5' u6' u7' τ' e1 e2 e3 e4 e5 e6 e7=>?_
   refine cr c5' u6' u7' τ' (DR (t:=.tup [6,7]) (μ1:=[x0,x1,some (.ref 3),u3,u4,some c5,some (.int (i0:Nat)),some (.lst (Ag (Ap i0))),u8]) rfl ((hb _ _).trans e) e1) e2 ?_ e4 e5 e6 e7;rw[e3,List.append_assoc];rfl
  | false =>
   rw[q] at hin;have hnew:AD (τ.add (.list [])) (.ref τ.next)=some (Ag []):=by unfold AD;dsimp only;rw[Dn];rfl
   have hc1:AD (τ.add (.list [])) c5=some (Ag acc):=Ds hc fun j _ hlt=>Bs _ hlt;have hadd:=G5 hc1 hnew (by rw[Ce,Ce];simp;exact ZZ ha)
   rw[← Ib,List.append_nil] at hadd;have e:=Vt (C:=C) (y:=.lst (Ag (Ap i0))) hc x0 x1 u3 u4 u8 h.iW hin hadd;refine cm (ih_ (i0+1) (τ.add (.list [])) (.lst (Ag acc)) acc (some (.int (i0:Nat))) (some (.lst (Ag (Ap i0)))) (BookSt.add h _) rfl (by exact ZV ha)) fun c5' u6' u7' τ' e1 e2 e3 e4 e5 e6 e7=>?_
   have nx:=Ii τ (.list []);refine cr c5' u6' u7' τ' (DR (t:=.tup [6,7]) (μ1:=[x0,x1,some (.ref 3),u3,u4,some c5,some (.int (i0:Nat)),some (.lst (Ag (Ap i0))),u8]) rfl ((hb _ _).trans e) e1) e2 e3 e4 e5 (by exact Z3 e6 nx) (fun j hj=>(e7 j (by exact o5 nx hj)).trans (Bs _ hj))
theorem Uz:∀(ts:List Txt),(∀ t∈ts,Ea t=true)→((ts.map AR).map (·.length)).sum≤100*ts.length:=by
 intro q1_
 induction q1_ with
 | nil =>
  intro _
  decide
 | cons t ts ih_ =>
  intro h;have:=h t (by simp)
  unfold Ea at this;simp only[Bool.and_eq_true,decide_eq_true_eq] at this;have ih:=ih_ fun x hx=>h x (by simp [hx])
  rw[List.map_cons,List.map_cons,List.sum_cons,List.length_cons];have hs:(AR t).length=t.length:=by show t.toArray.size=_;simp
  exact o98 this ih
theorem Qe(st:St){ts:List Txt}(h:∀ t∈ts,Ea t=true)(hl:ts.length≤1000):BS (.str [10]) 4 [.lst (Ag ts)] st=some (.str (jl ts),st):=by
 have hj:JoinOk (AR [10]) (ts.map AR)=true:=PyProof.Rows.joinOk_of (by
  have h1:=Uz ts h;have h2:(AR [10]).length=1:=rfl;rw[h2,List.length_map];exact ZC hl h1)
 have hjl:(Txt.join (AR [10]) (ts.map AR)).cps.toList=jl ts:=by
  have e:Txt.join (AR [10]) (ts.map AR)=PySem.Str.join (AR [10]) (ts.map AR):=StrLaws.glued_eq_join _ _;rw[e,PL,List.map_map]
  congr 1
  have:((fun x:Str=>x.cps.toList) ∘ AR)=id:=by funext t;show t.toArray.toList=t;simp
  rw[this,List.map_id]
 show(match AD st (.lst (Ag ts)) with
  | some xs=>(match Ew xs with
   | some ts=>A9 (JoinOk (AR [10]) (ts.map AR)) (some (V.str (PySem.Txt.join (AR [10]) (ts.map AR)).cps.toList,st))
   | none=>none)
  | none=>none)=_
 rw[show AD st (.lst (Ag ts))=some (Ag ts) from rfl]
 dsimp only;rw[K4];dsimp only;rw[hj];show some (V.str (PySem.Txt.join (AR [10]) (ts.map AR)).cps.toList,st)=_;rw[hjl]
end SL42
section SL43
open PySem
noncomputable def Ji(ns:List Int):List V:=(ns.take 12).map fun i=>V.int (i.natAbs:Nat)
theorem Wz(ns:List Int):Ty (Ji ns):=by
 constructor
 ·unfold Ji;rw[List.length_map];exact List.length_take_le _ _
 ·intro v hv;refine BA (List.mem_map.mp hv) fun i _ z_2=>?_;subst z_2;exact⟨i.natAbs,rfl⟩
theorem Tz(i:Int)(st:St):FO .abs [.int i] st=some (.int (i.natAbs:Nat)):=by
 unfold FO;dsimp only;cases q:decide (i<0) with
 | true =>
  have:=of_decide_eq_true q;have e:(-i)=(i.natAbs:Nat):=by omega
  dsimp only;rw[e]
 | false =>
  have:=of_decide_eq_false q;have e:i=(i.natAbs:Nat):=by omega
  dsimp only;rw[← e]
theorem Qf(C:AC)(test:AG→St→M Bool)(elt:AG→St→M V)(ht:∀ μ st,test μ st=some (true,st))(he:∀ μ st,elt μ st=ev CT C μ st Ke)(u0 u2 u3:Option V)(st:St):∀(ms:List Int) (u1:Option V),Ax test elt (.loc 1) (ms.map .int) [u0,u1,u2,u3] st=some (ms.map fun i=>V.int (i.natAbs:Nat),st):=by
 intro q1_
 induction q1_ with
 | nil=>intro _;exact rfl
 | cons i ms ih_=>intro u1;exact HL (t:=.loc 1) (x:=.int i) (μ1:=[u0,some (.int i),u2,u3]) rfl (ht _ _) rfl ((he _ _).trans (Iz [.nv,.o (Tz i st)] (by kernel_rfl))) (ih_ _)
theorem Ux(ns:List Int)(hn:ns.length≤63)(st:St):Bg (.lst (ns.map .int)) .none (.int 12) st=some (.lst ((ns.take 12).map .int)):=by
 show(match Nat.ble (ns.map V.int).length Cs with | true=>(DF (ns.map V.int) .none (.int 12)).map V.lst | false=>none)=_
 rw[Bf _ (by rw[List.length_map];exact ba hn)]
 show some (V.lst (((ns.map V.int).take (min 12 (ns.map V.int).length)).drop 0))=_;rw[List.drop_zero,List.map_take];rcases Nat.le_total 12 (ns.map V.int).length with h | h
 ·rw[Nat.min_eq_left h]
 ·rw[Nat.min_eq_right h,List.take_of_length_le (Nat.le_refl _),List.take_of_length_le h]
noncomputable def X5(gs:List V):List O:=[.list [.lst gs,.int 0],.list [],.list [],.dict [OA,OB,ML] [.ref 1,.ref 2,.none],.list []]
theorem Wm(gs:List V):Ig s0 (.list [.lst gs,.int (0:Nat)]) (AW ⟨[],0,0⟩ (X5 gs)) :=
 ⟨rfl,rfl,rfl,rfl,rfl,by show 4≤5;decide⟩
theorem Nj:∀ l:List Int,C7 (iV l) (iV l)=some true:=by
 intro q1_
 induction q1_ with
 | nil=>exact rfl
 | cons x l ih_ =>
  show(match DL (.int x) (.int x),C7 (iV l) (iV l) with
   | some p,some q=>some (p&&q)
   | _,_=>none)=_
  rw[ih_,show DL (.int x) (.int x)=some (decide (x=x)) from rfl,decide_eq_true rfl]
  rfl
theorem Ll{a b:V}{st:St}{xs ys:List V}(h:DL a b=none)(ha:AD st a=some xs)(hb:AD st b=some ys)(hl:xs.length=ys.length)(he:C7 xs ys=some true):EB .Eq a b st=some true:=by
 show(match DL a b with | some c=>some c | none=>match AD st a,AD st b with | some xs,some ys=>(match decide (xs.length=ys.length) with | true=>C7 xs ys | false=>some false) | _,_=>none)=_
 rw[h,ha,hb];show(match decide (xs.length=ys.length) with | true=>C7 xs ys | false=>some false)=_
 rw[decide_eq_true hl];exact he
theorem law_true:IQ:=by
 intro ns hn;have h0:=Wm (Ji ns);have hgs:=Wz ns;have nx0:(AW ⟨[],0,0⟩ (X5 (Ji ns))).next=5:=rfl;have lo0:(AW ⟨[],0,0⟩ (X5 (Ji ns))).lo=0:=rfl;have g4:(AW ⟨[],0,0⟩ (X5 (Ji ns))).get 4=some (.list []):=rfl;generalize hτ0:AW ⟨[],0,0⟩ (X5 (Ji ns))=τ0 at h0 nx0 lo0 g4;refine W6 (JO 59 (many:=4) h0.g0 hgs (by decide) (by decide) h0.ro) fun τ1 v v1 v2 v3 v4 v5 v6 v7=>?_
 have b1:Ig s0 _ τ1:=BookSt.drawn h0 v3 v4 v6 v7;have hrl:(Al 0 (1+(v:Int))).length=1+v:=by unfold Al;rw[List.length_map,List.length_range];exact p33
 refine x57 (Qg 58 (fun μ st=>exs CT (AP CT FT 60) μ st Ic) (fun _ _=>rfl) hgs (some (.lst (ns.map .int))) none none none none (Al 0 (1+(v:Int))) s0 1 τ1 (.ref 4) [] none b1 (by rw[hrl];exact Yk v1) (by rw[hrl];show 0+_≤100;exact Yn v1) (by rw[hrl];show 0+_≤100;exact Yd v1) (Dc ((v7 4 (by exact b8 nx0) (by decide)).trans g4)) (fun j z=>by cases (z);decide) (by rw[hrl];simp;exact Ys v1)) fun L c3 u4 sk τ2 l1 l2 l3 l4 l5 l6 l7=>?_
 rw[hrl] at l1;have b2:Ig (Bl L s0) sk (τ2.add (.list [])):=BookSt.add l4 _;have hc3:AD (τ2.add (.list [])) c3=some (Ag ([]++Ah L s0)):=Ds l5 fun j _ hlt=>Bs _ hlt;refine cm (Qi (AP CT FT 60) (fun μ st=>exs CT (AP CT FT 60) μ st HE) (fun _ _=>rfl) (some (.lst (ns.map .int))) (some (.ref 0)) (some c3) u4 none 5 0 (τ2.add (.list [])) (.ref τ2.next) [] none none b2 (Dc (Dn _ _)) (by simp)) fun c5 u6 u7 τ3 m1 m2 m3 m4 m5 m6 m7=>?_
 have hc3':AD τ3 c3=some (Ag (Ah L s0)):=Ds hc3 fun j _ hlt=>m7 j hlt;have hc5':AD τ3 c5=some (Ag (FA (CO (Bl L s0)))):=m3;have e5:=HQ (l:=Rt) 5 (BN (C:=AP CT FT 60) (μ:=Ub ns) (st:=⟨[],0,0⟩) (r:=((.next,[some (.lst (ns.map .int)),some (.ref 0),some (.ref 3),some c3,u4,some c5,u6,u7,none]),τ3))
  [.v (Ux ns hn),.l (Qf (AP CT FT 60) (fun μ st=>evIfs CT (AP CT FT 60) μ st []) (fun μ st=>ev CT (AP CT FT 60) μ st Ke) (fun _ _=>rfl) (fun _ _=>rfl) none none none ⟨[],0,0⟩ (ns.take 12) none),.gu (Bf ((ns.take 12).map V.int).length (by rw[List.length_map,List.length_take];exact p49)),
   .al (st:=⟨[],0,0⟩) (o:=.list [.lst (Ji ns),.int 0]) (i:=0) (st':=AW ⟨[],0,0⟩ [.list [.lst (Ji ns),.int 0]]) ⟨rfl,rfl⟩,NI ⟨[],0,0⟩ [.list [.lst (Ji ns),.int 0]] (.list []),.st hτ0,
   .m v2,.i (show Bo τ1 .range1 (.loc 4) (.int (1+(v:Int))) .none=some (Al 0 (1+(v:Int)),.none) from Qc τ1 4 (by exact p37) (by exact p40 v1)),.f l3,.gu (Bf (Al 0 (1+(v:Int))).length (by rw[hrl];exact Yc v1)),.st (show Aa τ1.ro τ2=τ2 by unfold Aa;rw[b1.ro,← l4.ro]),
   .i (show Bo (τ2.add (.list [])) .enum (.tup [6,7]) (.lst ((List.range' 0 5).map fun i=>V.lst (Ag (Ap i)))) .none=some (GW 5 0,.lst ((List.range' 0 5).map fun i=>V.lst (Ag (Ap i)))) by unfold GW;rw[← Gh];rfl),.f m1,.gu (Bf (GW 5 0).length (by unfold GW;rw[C6,List.length_map,List.length_range'];decide)),.st (show Aa (τ2.add (.list [])).ro τ3=τ3 by unfold Aa;rw[← m5])] (by kernel_rfl))
 rw[e5];have hLl:L.length≤4:=by exact Yb v1 l1
 rfl';refine W6 (NZ L hLl l2) fun σ1 σ2 w1 w2 w3 w4 w5 w6 w7=>?_;have hfine:∀ t∈FA (CO (Bl L s0))++Ah L s0,Ea t=true:=fun t ht=>by
  rcases List.mem_append.mp ht with h | h
  ·exact QD _ t h
  ·exact N4 L s0 l2 t h
 have dl:=Lh (CO (Bl L s0));have wl:=JY (Bl L s0);have cl:=Ps L s0;have hlen:(FA (CO (Bl L s0))++Ah L s0).length≤48:=by rw[List.length_append];exact o33 v1 l1 dl wl cl
 have hpos:FA (CO (Bl L s0))++Ah L s0≠[]:=fun z=>by have:=congrArg List.length z;rw[List.length_append,List.length_nil] at this;exact(o46 l1 cl this).elim
 have hno:∀ t∈FA (CO (Bl L s0))++Ah L s0,10∉t:=fun t ht hm=>by have:=hfine t ht;unfold Ea at this;rw[Bool.and_eq_true,Bool.not_eq_true'] at this;rw[List.contains_iff_mem.mpr hm] at this;cases (this.2)
 have hadd:=G5 hc5' hc3' (by rw[Ce,Ce,← List.length_append];exact Zc hlen)
 rw[← Ib] at hadd;have hjm:=Qe τ3 hfine (by exact o57 hlen)
 have hjl:=Vq _ hfine;generalize hts:FA (CO (Bl L s0))++Ah L s0=ts at hfine hlen hpos hno hadd hjm hjl w1 w2;refine X9 (OR 36 2 hpos hno (by exact o87 hlen hjl) (by exact o57 hlen) (m4.trans (l7.trans (v5.trans lo0))) m2.ro w1 w2 w3 w4 w5) fun τ4 md oc er a1 a2=>?_
 have nx3:=m2.nx;have an:=a2.nx;have hoc:=a2.oc;rw[w6] at hoc;have q4:τ4.next≥4:=Nat.le_trans nx3 an;have c14:AU (A5 CT) (.ref md) 14 (τ4.add (.list []))=some (.ref oc):=BE a2.a14 (Bs _ a2.lt);have rc:=RI 59 c14 ((Bs _ (get_lt a2.oc)).trans hoc) (by exact Zg w7)
 have e1:=Ll (a:=.ref er) (b:=.ref τ4.next) (st:=τ4.add (.list [])) rfl (Dc ((Bs _ (get_lt a2.er)).trans a2.er)) (Dc (Dn τ4 (.list []))) rfl rfl;have e2:=Ll (a:=.lst (iV (Bl L s0).oct)) (b:=.ref 1) (st:=τ4.add (.list [])) rfl rfl (Dc ((Bs _ (Nat.lt_of_lt_of_le (by decide) q4)).trans ((a2.old 1 (by exact cC nx3)).trans m2.g1))) rfl (Nj _)
 have e3:BR (.ref 3) (.str OA) (τ4.add (.list []))=some (.ref 1):=by
  show(match (τ4.add (.list [])).get 3 with | some (.dict ks vs)=>Aq ks vs OA | _=>none)=_
  rw[Bs _ q4,(a2.old 3 (by exact cB nx3)).trans m2.g3];rfl
 cases c5 with
 | ref j=>exact let ⟨μ,e⟩:=FW (s:=τ4.add (.list [])) [.o hadd,.m hjm,.m a1,.o a2.a17,.o1 e1,.m rc,.o e3,.o1 e2] (by kernel_rfl);⟨μ,_,e⟩
 | lst l=>exact let ⟨μ,e⟩:=FW (s:=τ4.add (.list [])) [.o hadd,.m hjm,.m a1,.o a2.a17,.o1 e1,.m rc,.o e3,.o1 e2] (by kernel_rfl);⟨μ,_,e⟩
 | _=>cases hc5'
end SL43
end Mine

theorem PySem.Challenge.cw_pq1445_01_holds : PySem.Challenge.rw_pq1445_01.Holds :=
 Mine.law_all Mine.law_true
