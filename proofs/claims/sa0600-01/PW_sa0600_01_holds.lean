import PyProof.Rows.All
import Wide.All
import OpenK.AllK
import Wide.FinOn
import KE.KSuperObj
import PyProof.ExcAttrAll.Exception
import PyProof.NsDelKeeps
import KE.KNest
import KE.KEqDict
import KE.KPar
import PySem.Challenge.RW_sa0600_01
set_option Elab.async false
set_option linter.unusedVariables false
set_option maxRecDepth 10000
namespace Mine
open PySem PySem.W PySem.Calls PyProof.Rows
noncomputable section
noncomputable abbrev pz (a b c:Nat):Pos:=⟨a,b,a,c⟩
theorem X01 {A B:Prop}{G:Prop}(h:A∧B)(k:A→B→G):G:=by
 obtain ⟨h1,h2⟩:=h;exact k h1 h2
theorem X1 {α:Type}{A:α→Prop}{G:Prop}(h:∃a,A a)(k:∀a,A a→G):G:=by
 obtain ⟨a,h1⟩:=h;exact k a h1
theorem X02 {A B C:Prop}{G:Prop}(h:A∧B∧C)(k:A→B→C→G):G:=by
 obtain ⟨h1,h2,h3⟩:=h;exact k h1 h2 h3
theorem X011 {α:Type}{A:Prop}{B:α→Prop}{G:Prop}(h:A∧∃a,B a)(k:A→∀a,B a→G):G:=by
 obtain ⟨h1,a,h2⟩:=h;exact k h1 a h2
theorem X11 {α:Type}{A B:α→Prop}{G:Prop}(h:∃a,A a∧B a)(k:∀a,A a→B a→G):G:=by
 obtain ⟨a,h1,h2⟩:=h;exact k a h1 h2
theorem X2 {α β:Type}{A:α→β→Prop}{G:Prop}(h:∃a,∃b,A a b)(k:∀a,∀b,A a b→G):G:=by
 obtain ⟨a,b,h1⟩:=h;exact k a b h1
theorem X03 {A B C D:Prop}{G:Prop}(h:A∧B∧C∧D)(k:A→B→C→D→G):G:=by
 obtain ⟨h1,h2,h3,h4⟩:=h;exact k h1 h2 h3 h4
theorem X0111 {α:Type}{A:Prop}{B C:α→Prop}{G:Prop}(h:A∧∃a,B a∧C a)(k:A→∀a,B a→C a→G):G:=by
 obtain ⟨h1,a,h2,h3⟩:=h;exact k h1 a h2 h3
theorem X12 {α:Type}{A B C:α→Prop}{G:Prop}(h:∃a,A a∧B a∧C a)(k:∀a,A a→B a→C a→G):G:=by
 obtain ⟨a,h1,h2,h3⟩:=h;exact k a h1 h2 h3
theorem X21 {α β:Type}{A B:α→β→Prop}{G:Prop}(h:∃a,∃b,A a b∧B a b)(k:∀a,∀b,A a b→B a b→G):G:=by
 obtain ⟨a,b,h1,h2⟩:=h;exact k a b h1 h2
theorem X3 {α β γ:Type}{A:α→β→γ→Prop}{G:Prop}(h:∃a,∃b,∃c,A a b c)(k:∀a,∀b,∀c,A a b c→G):G:=by
 obtain ⟨a,b,c,h1⟩:=h;exact k a b c h1
theorem X04 {A B C D E:Prop}{G:Prop}(h:A∧B∧C∧D∧E)(k:A→B→C→D→E→G):G:=by
 obtain ⟨h1,h2,h3,h4,h5⟩:=h;exact k h1 h2 h3 h4 h5
theorem X0112 {α:Type}{A:Prop}{B C D:α→Prop}{G:Prop}(h:A∧∃a,B a∧C a∧D a)(k:A→∀a,B a→C a→D a→G):G:=by
 obtain ⟨h1,a,h2,h3,h4⟩:=h;exact k h1 a h2 h3 h4
theorem X01111 {α β:Type}{A:Prop}{B:α→Prop}{C:α→β→Prop}{G:Prop}(h:A∧∃a,B a∧∃b,C a b)(k:A→∀a,B a→∀b,C a b→G):G:=by
 obtain ⟨h1,a,h2,b,h3⟩:=h;exact k h1 a h2 b h3
theorem X13 {α:Type}{A B C D:α→Prop}{G:Prop}(h:∃a,A a∧B a∧C a∧D a)(k:∀a,A a→B a→C a→D a→G):G:=by
 obtain ⟨a,h1,h2,h3,h4⟩:=h;exact k a h1 h2 h3 h4
theorem X121 {α β:Type}{A B:α→Prop}{C:α→β→Prop}{G:Prop}(h:∃a,A a∧B a∧∃b,C a b)(k:∀a,A a→B a→∀b,C a b→G):G:=by
 obtain ⟨a,h1,h2,b,h3⟩:=h;exact k a h1 h2 b h3
theorem X22 {α β:Type}{A B C:α→β→Prop}{G:Prop}(h:∃a,∃b,A a b∧B a b∧C a b)(k:∀a,∀b,A a b→B a b→C a b→G):G:=by
 obtain ⟨a,b,h1,h2,h3⟩:=h;exact k a b h1 h2 h3
theorem X31 {α β γ:Type}{A B:α→β→γ→Prop}{G:Prop}(h:∃a,∃b,∃c,A a b c∧B a b c)(k:∀a,∀b,∀c,A a b c→B a b c→G):G:=by
 obtain ⟨a,b,c,h1,h2⟩:=h;exact k a b c h1 h2
theorem X05 {A B C D E F:Prop}{G:Prop}(h:A∧B∧C∧D∧E∧F)(k:A→B→C→D→E→F→G):G:=by
 obtain ⟨h1,h2,h3,h4,h5,h6⟩:=h;exact k h1 h2 h3 h4 h5 h6
theorem X14 {α:Type}{A B C D E:α→Prop}{G:Prop}(h:∃a,A a∧B a∧C a∧D a∧E a)(k:∀a,A a→B a→C a→D a→E a→G):G:=by
 obtain ⟨a,h1,h2,h3,h4,h5⟩:=h;exact k a h1 h2 h3 h4 h5
theorem X1211 {α β:Type}{A B:α→Prop}{C D:α→β→Prop}{G:Prop}(h:∃a,A a∧B a∧∃b,C a b∧D a b)(k:∀a,A a→B a→∀b,C a b→D a b→G):G:=by
 obtain ⟨a,h1,h2,b,h3,h4⟩:=h;exact k a h1 h2 b h3 h4
theorem X23 {α β:Type}{A B C D:α→β→Prop}{G:Prop}(h:∃a,∃b,A a b∧B a b∧C a b∧D a b)(k:∀a,∀b,A a b→B a b→C a b→D a b→G):G:=by
 obtain ⟨a,b,h1,h2,h3,h4⟩:=h;exact k a b h1 h2 h3 h4
theorem X32 {α β γ:Type}{A B C:α→β→γ→Prop}{G:Prop}(h:∃a,∃b,∃c,A a b c∧B a b c∧C a b c)(k:∀a,∀b,∀c,A a b c→B a b c→C a b c→G):G:=by
 obtain ⟨a,b,c,h1,h2,h3⟩:=h;exact k a b c h1 h2 h3
theorem X41 {α β γ δ:Type}{A B:α→β→γ→δ→Prop}{G:Prop}(h:∃a,∃b,∃c,∃d,A a b c d∧B a b c d)(k:∀a,∀b,∀c,∀d,A a b c d→B a b c d→G):G:=by
 obtain ⟨a,b,c,d,h1,h2⟩:=h;exact k a b c d h1 h2
theorem X06 {A B C D E F H:Prop}{G:Prop}(h:A∧B∧C∧D∧E∧F∧H)(k:A→B→C→D→E→F→H→G):G:=by
 obtain ⟨h1,h2,h3,h4,h5,h6,h7⟩:=h;exact k h1 h2 h3 h4 h5 h6 h7
theorem X24 {α β:Type}{A B C D E:α→β→Prop}{G:Prop}(h:∃a,∃b,A a b∧B a b∧C a b∧D a b∧E a b)(k:∀a,∀b,A a b→B a b→C a b→D a b→E a b→G):G:=by
 obtain ⟨a,b,h1,h2,h3,h4,h5⟩:=h;exact k a b h1 h2 h3 h4 h5
theorem X33 {α β γ:Type}{A B C D:α→β→γ→Prop}{G:Prop}(h:∃a,∃b,∃c,A a b c∧B a b c∧C a b c∧D a b c)(k:∀a,∀b,∀c,A a b c→B a b c→C a b c→D a b c→G):G:=by
 obtain ⟨a,b,c,h1,h2,h3,h4⟩:=h;exact k a b c h1 h2 h3 h4
theorem X25 {α β:Type}{A B C D E F:α→β→Prop}{G:Prop}(h:∃a,∃b,A a b∧B a b∧C a b∧D a b∧E a b∧F a b)(k:∀a,∀b,A a b→B a b→C a b→D a b→E a b→F a b→G):G:=by
 obtain ⟨a,b,h1,h2,h3,h4,h5,h6⟩:=h;exact k a b h1 h2 h3 h4 h5 h6
theorem X34 {α β γ:Type}{A B C D E:α→β→γ→Prop}{G:Prop}(h:∃a,∃b,∃c,A a b c∧B a b c∧C a b c∧D a b c∧E a b c)(k:∀a,∀b,∀c,A a b c→B a b c→C a b c→D a b c→E a b c→G):G:=by
 obtain ⟨a,b,c,h1,h2,h3,h4,h5⟩:=h;exact k a b c h1 h2 h3 h4 h5
theorem X43 {α β γ δ:Type}{A B C D:α→β→γ→δ→Prop}{G:Prop}(h:∃a,∃b,∃c,∃d,A a b c d∧B a b c d∧C a b c d∧D a b c d)(k:∀a,∀b,∀c,∀d,A a b c d→B a b c d→C a b c d→D a b c d→G):G:=by
 obtain ⟨a,b,c,d,h1,h2,h3,h4⟩:=h;exact k a b c d h1 h2 h3 h4
theorem X0224 {α β:Type}{A B:Prop}{C D E F H:α→β→Prop}{G:Prop}(h:A∧B∧∃a,∃b,C a b∧D a b∧E a b∧F a b∧H a b)(k:A→B→∀a,∀b,C a b→D a b→E a b→F a b→H a b→G):G:=by
 obtain ⟨h1,h2,a,b,h3,h4,h5,h6,h7⟩:=h;exact k h1 h2 a b h3 h4 h5 h6 h7
theorem X35 {α β γ:Type}{A B C D E F:α→β→γ→Prop}{G:Prop}(h:∃a,∃b,∃c,A a b c∧B a b c∧C a b c∧D a b c∧E a b c∧F a b c)(k:∀a,∀b,∀c,A a b c→B a b c→C a b c→D a b c→E a b c→F a b c→G):G:=by
 obtain ⟨a,b,c,h1,h2,h3,h4,h5,h6⟩:=h;exact k a b c h1 h2 h3 h4 h5 h6
theorem X0245 {α β γ δ:Type}{A B:Prop}{C D E F H I:α→β→γ→δ→Prop}{G:Prop}(h:A∧B∧∃a,∃b,∃c,∃d,C a b c d∧D a b c d∧E a b c d∧F a b c d∧H a b c d∧I a b c d)(k:A→B→∀a,∀b,∀c,∀d,C a b c d→D a b c d→E a b c d→F a b c d→H a b c d→I a b c d→G):G:=by
 obtain ⟨h1,h2,a,b,c,d,h3,h4,h5,h6,h7,h8⟩:=h;exact k h1 h2 a b c d h3 h4 h5 h6 h7 h8
theorem Xd {α β γ δ ε ζ η θ κ μ ν ξ ρ:Type}{A:α→β→γ→δ→ε→ζ→η→θ→κ→μ→ν→ξ→ρ→Prop}{G:Prop}(h:∃a,∃b,∃c,∃d,∃e,∃f,∃g,∃i,∃j,∃l,∃m,∃n,∃o,A a b c d e f g i j l m n o)(k:∀a,∀b,∀c,∀d,∀e,∀f,∀g,∀i,∀j,∀l,∀m,∀n,∀o,A a b c d e f g i j l m n o→G):G:=by
 obtain ⟨a,b,c,d,e,f,g,i,j,l,m,n,o,h1⟩:=h;exact k a b c d e f g i j l m n o h1
theorem X024537 {α β γ δ ε ζ η:Type}{A B:Prop}{C D E F H:α→β→γ→δ→Prop}{I J K L M N O P:α→β→γ→δ→ε→ζ→η→Prop}{G:Prop}(h:A∧B∧∃a,∃b,∃c,∃d,C a b c d∧D a b c d∧E a b c d∧F a b c d∧H a b c d∧∃e,∃f,∃g,I a b c d e f g∧J a b c d e f g∧K a b c d e f g∧L a b c d e f g∧M a b c d e f g∧N a b c d e f g∧O a b c d e f g∧P a b c d e f g)(k:A→B→∀a,∀b,∀c,∀d,C a b c d→D a b c d→E a b c d→F a b c d→H a b c d→∀e,∀f,∀g,I a b c d e f g→J a b c d e f g→K a b c d e f g→L a b c d e f g→M a b c d e f g→N a b c d e f g→O a b c d e f g→P a b c d e f g→G):G:=by
 obtain ⟨h1,h2,a,b,c,d,h3,h4,h5,h6,h7,e,f,g,h8,h9,h10,h11,h12,h13,h14,h15⟩:=h;exact k h1 h2 a b c d h3 h4 h5 h6 h7 e f g h8 h9 h10 h11 h12 h13 h14 h15
theorem I02 {A B C:Prop}(h1:A)(h2:B)(h3:C):A∧B∧C:=⟨h1,h2,h3⟩
theorem I011 {α:Type}{A:Prop}{B:α→Prop}(h1:A)(a:α)(h2:B a):A∧∃a,B a:=⟨h1,a,h2⟩
theorem I11 {α:Type}{A B:α→Prop}(a:α)(h1:A a)(h2:B a):∃a,A a∧B a:=⟨a,h1,h2⟩
theorem I2 {α β:Type}{A:α→β→Prop}(a:α)(b:β)(h1:A a b):∃a,∃b,A a b:=⟨a,b,h1⟩
theorem I03 {A B C D:Prop}(h1:A)(h2:B)(h3:C)(h4:D):A∧B∧C∧D:=⟨h1,h2,h3,h4⟩
theorem I021 {α:Type}{A B:Prop}{C:α→Prop}(h1:A)(h2:B)(a:α)(h3:C a):A∧B∧∃a,C a:=⟨h1,h2,a,h3⟩
theorem I0111 {α:Type}{A:Prop}{B C:α→Prop}(h1:A)(a:α)(h2:B a)(h3:C a):A∧∃a,B a∧C a:=⟨h1,a,h2,h3⟩
theorem I12 {α:Type}{A B C:α→Prop}(a:α)(h1:A a)(h2:B a)(h3:C a):∃a,A a∧B a∧C a:=⟨a,h1,h2,h3⟩
theorem I21 {α β:Type}{A B:α→β→Prop}(a:α)(b:β)(h1:A a b)(h2:B a b):∃a,∃b,A a b∧B a b:=⟨a,b,h1,h2⟩
theorem I04 {A B C D E:Prop}(h1:A)(h2:B)(h3:C)(h4:D)(h5:E):A∧B∧C∧D∧E:=⟨h1,h2,h3,h4,h5⟩
theorem I0112 {α:Type}{A:Prop}{B C D:α→Prop}(h1:A)(a:α)(h2:B a)(h3:C a)(h4:D a):A∧∃a,B a∧C a∧D a:=⟨h1,a,h2,h3,h4⟩
theorem I01111 {α β:Type}{A:Prop}{B:α→Prop}{C:α→β→Prop}(h1:A)(a:α)(h2:B a)(b:β)(h3:C a b):A∧∃a,B a∧∃b,C a b:=⟨h1,a,h2,b,h3⟩
theorem I13 {α:Type}{A B C D:α→Prop}(a:α)(h1:A a)(h2:B a)(h3:C a)(h4:D a):∃a,A a∧B a∧C a∧D a:=⟨a,h1,h2,h3,h4⟩
theorem I121 {α β:Type}{A B:α→Prop}{C:α→β→Prop}(a:α)(h1:A a)(h2:B a)(b:β)(h3:C a b):∃a,A a∧B a∧∃b,C a b:=⟨a,h1,h2,b,h3⟩
theorem I22 {α β:Type}{A B C:α→β→Prop}(a:α)(b:β)(h1:A a b)(h2:B a b)(h3:C a b):∃a,∃b,A a b∧B a b∧C a b:=⟨a,b,h1,h2,h3⟩
theorem I31 {α β γ:Type}{A B:α→β→γ→Prop}(a:α)(b:β)(c:γ)(h1:A a b c)(h2:B a b c):∃a,∃b,∃c,A a b c∧B a b c:=⟨a,b,c,h1,h2⟩
theorem I05 {A B C D E F:Prop}(h1:A)(h2:B)(h3:C)(h4:D)(h5:E)(h6:F):A∧B∧C∧D∧E∧F:=⟨h1,h2,h3,h4,h5,h6⟩
theorem I011111 {α β:Type}{A:Prop}{B:α→Prop}{C D:α→β→Prop}(h1:A)(a:α)(h2:B a)(b:β)(h3:C a b)(h4:D a b):A∧∃a,B a∧∃b,C a b∧D a b:=⟨h1,a,h2,b,h3,h4⟩
theorem I23 {α β:Type}{A B C D:α→β→Prop}(a:α)(b:β)(h1:A a b)(h2:B a b)(h3:C a b)(h4:D a b):∃a,∃b,A a b∧B a b∧C a b∧D a b:=⟨a,b,h1,h2,h3,h4⟩
theorem I32 {α β γ:Type}{A B C:α→β→γ→Prop}(a:α)(b:β)(c:γ)(h1:A a b c)(h2:B a b c)(h3:C a b c):∃a,∃b,∃c,A a b c∧B a b c∧C a b c:=⟨a,b,c,h1,h2,h3⟩
theorem I011121 {α β γ:Type}{A:Prop}{B:α→Prop}{C D:α→β→γ→Prop}(h1:A)(a:α)(h2:B a)(b:β)(c:γ)(h3:C a b c)(h4:D a b c):A∧∃a,B a∧∃b,∃c,C a b c∧D a b c:=⟨h1,a,h2,b,c,h3,h4⟩
theorem I24 {α β:Type}{A B C D E:α→β→Prop}(a:α)(b:β)(h1:A a b)(h2:B a b)(h3:C a b)(h4:D a b)(h5:E a b):∃a,∃b,A a b∧B a b∧C a b∧D a b∧E a b:=⟨a,b,h1,h2,h3,h4,h5⟩
theorem I33 {α β γ:Type}{A B C D:α→β→γ→Prop}(a:α)(b:β)(c:γ)(h1:A a b c)(h2:B a b c)(h3:C a b c)(h4:D a b c):∃a,∃b,∃c,A a b c∧B a b c∧C a b c∧D a b c:=⟨a,b,c,h1,h2,h3,h4⟩
theorem I51 {α β γ δ ε:Type}{A B:α→β→γ→δ→ε→Prop}(a:α)(b:β)(c:γ)(d:δ)(e:ε)(h1:A a b c d e)(h2:B a b c d e):∃a,∃b,∃c,∃d,∃e,A a b c d e∧B a b c d e:=⟨a,b,c,d,e,h1,h2⟩
theorem I0124 {α β:Type}{A:Prop}{B C D E F:α→β→Prop}(h1:A)(a:α)(b:β)(h2:B a b)(h3:C a b)(h4:D a b)(h5:E a b)(h6:F a b):A∧∃a,∃b,B a b∧C a b∧D a b∧E a b∧F a b:=⟨h1,a,b,h2,h3,h4,h5,h6⟩
theorem I25 {α β:Type}{A B C D E F:α→β→Prop}(a:α)(b:β)(h1:A a b)(h2:B a b)(h3:C a b)(h4:D a b)(h5:E a b)(h6:F a b):∃a,∃b,A a b∧B a b∧C a b∧D a b∧E a b∧F a b:=⟨a,b,h1,h2,h3,h4,h5,h6⟩
theorem I34 {α β γ:Type}{A B C D E:α→β→γ→Prop}(a:α)(b:β)(c:γ)(h1:A a b c)(h2:B a b c)(h3:C a b c)(h4:D a b c)(h5:E a b c):∃a,∃b,∃c,A a b c∧B a b c∧C a b c∧D a b c∧E a b c:=⟨a,b,c,h1,h2,h3,h4,h5⟩
theorem I43 {α β γ δ:Type}{A B C D:α→β→γ→δ→Prop}(a:α)(b:β)(c:γ)(d:δ)(h1:A a b c d)(h2:B a b c d)(h3:C a b c d)(h4:D a b c d):∃a,∃b,∃c,∃d,A a b c d∧B a b c d∧C a b c d∧D a b c d:=⟨a,b,c,d,h1,h2,h3,h4⟩
theorem I0224 {α β:Type}{A B:Prop}{C D E F H:α→β→Prop}(h1:A)(h2:B)(a:α)(b:β)(h3:C a b)(h4:D a b)(h5:E a b)(h6:F a b)(h7:H a b):A∧B∧∃a,∃b,C a b∧D a b∧E a b∧F a b∧H a b:=⟨h1,h2,a,b,h3,h4,h5,h6,h7⟩
theorem I2114 {α β γ:Type}{A:α→β→Prop}{B C D E F:α→β→γ→Prop}(a:α)(b:β)(h1:A a b)(c:γ)(h2:B a b c)(h3:C a b c)(h4:D a b c)(h5:E a b c)(h6:F a b c):∃a,∃b,A a b∧∃c,B a b c∧C a b c∧D a b c∧E a b c∧F a b c:=⟨a,b,h1,c,h2,h3,h4,h5,h6⟩
theorem I35 {α β γ:Type}{A B C D E F:α→β→γ→Prop}(a:α)(b:β)(c:γ)(h1:A a b c)(h2:B a b c)(h3:C a b c)(h4:D a b c)(h5:E a b c)(h6:F a b c):∃a,∃b,∃c,A a b c∧B a b c∧C a b c∧D a b c∧E a b c∧F a b c:=⟨a,b,c,h1,h2,h3,h4,h5,h6⟩
theorem I46 {α β γ δ:Type}{A B C D E F H:α→β→γ→δ→Prop}(a:α)(b:β)(c:γ)(d:δ)(h1:A a b c d)(h2:B a b c d)(h3:C a b c d)(h4:D a b c d)(h5:E a b c d)(h6:F a b c d)(h7:H a b c d):∃a,∃b,∃c,∃d,A a b c d∧B a b c d∧C a b c d∧D a b c d∧E a b c d∧F a b c d∧H a b c d:=⟨a,b,c,d,h1,h2,h3,h4,h5,h6,h7⟩
theorem I0245 {α β γ δ:Type}{A B:Prop}{C D E F H I:α→β→γ→δ→Prop}(h1:A)(h2:B)(a:α)(b:β)(c:γ)(d:δ)(h3:C a b c d)(h4:D a b c d)(h5:E a b c d)(h6:F a b c d)(h7:H a b c d)(h8:I a b c d):A∧B∧∃a,∃b,∃c,∃d,C a b c d∧D a b c d∧E a b c d∧F a b c d∧H a b c d∧I a b c d:=⟨h1,h2,a,b,c,d,h3,h4,h5,h6,h7,h8⟩
theorem I48 {α β γ δ:Type}{A B C D E F H I J:α→β→γ→δ→Prop}(a:α)(b:β)(c:γ)(d:δ)(h1:A a b c d)(h2:B a b c d)(h3:C a b c d)(h4:D a b c d)(h5:E a b c d)(h6:F a b c d)(h7:H a b c d)(h8:I a b c d)(h9:J a b c d):∃a,∃b,∃c,∃d,A a b c d∧B a b c d∧C a b c d∧D a b c d∧E a b c d∧F a b c d∧H a b c d∧I a b c d∧J a b c d:=⟨a,b,c,d,h1,h2,h3,h4,h5,h6,h7,h8,h9⟩
theorem Ib5 {α β γ δ ε ζ η θ κ μ ν:Type}{A B C D E F:α→β→γ→δ→ε→ζ→η→θ→κ→μ→ν→Prop}(a:α)(b:β)(c:γ)(d:δ)(e:ε)(f:ζ)(g:η)(i:θ)(j:κ)(l:μ)(m:ν)(h1:A a b c d e f g i j l m)(h2:B a b c d e f g i j l m)(h3:C a b c d e f g i j l m)(h4:D a b c d e f g i j l m)(h5:E a b c d e f g i j l m)(h6:F a b c d e f g i j l m):∃a,∃b,∃c,∃d,∃e,∃f,∃g,∃i,∃j,∃l,∃m,A a b c d e f g i j l m∧B a b c d e f g i j l m∧C a b c d e f g i j l m∧D a b c d e f g i j l m∧E a b c d e f g i j l m∧F a b c d e f g i j l m:=⟨a,b,c,d,e,f,g,i,j,l,m,h1,h2,h3,h4,h5,h6⟩
theorem I024537 {α β γ δ ε ζ η:Type}{A B:Prop}{C D E F H:α→β→γ→δ→Prop}{I J K L M N O P:α→β→γ→δ→ε→ζ→η→Prop}(h1:A)(h2:B)(a:α)(b:β)(c:γ)(d:δ)(h3:C a b c d)(h4:D a b c d)(h5:E a b c d)(h6:F a b c d)(h7:H a b c d)(e:ε)(f:ζ)(g:η)(h8:I a b c d e f g)(h9:J a b c d e f g)(h10:K a b c d e f g)(h11:L a b c d e f g)(h12:M a b c d e f g)(h13:N a b c d e f g)(h14:O a b c d e f g)(h15:P a b c d e f g):A∧B∧∃a,∃b,∃c,∃d,C a b c d∧D a b c d∧E a b c d∧F a b c d∧H a b c d∧∃e,∃f,∃g,I a b c d e f g∧J a b c d e f g∧K a b c d e f g∧L a b c d e f g∧M a b c d e f g∧N a b c d e f g∧O a b c d e f g∧P a b c d e f g:=⟨h1,h2,a,b,c,d,h3,h4,h5,h6,h7,e,f,g,h8,h9,h10,h11,h12,h13,h14,h15⟩
@[elab_as_elim] theorem er {α:Sort u} {a b:α} {P:α→Prop} (h:a=b) (k:P b):P a:=h▸k
@[elab_as_elim] theorem re {α:Sort u} {a b:α} {P:α→Prop} (h:a=b) (k:P a):P b:=h▸k
theorem oZ {a0:Nat}:((0:Int)≤((a0:Nat):Int)):=by exact Int.natCast_nonneg _
theorem o5 {a0:Nat}{a1:Nat}(h1:(a0≤5))(h2:(a1 < a0)):(a1 < 10):=by lia
theorem o6 {a0:Nat}{a1:Nat}{a2:Nat}(h1:(a0 < a1))(h2:(a1≤a2))(h3:(a2≤40)):(((2 * a0) + 2)≤100):=by grind
theorem o7 {a0:Nat}{a1:Nat}{a2:Nat}(h1:(a0 < (min a1 a2))):(a0 < a1):=by grind
theorem o8 {a0:Nat}(h1:((a0 + 520) < 900)):((a0 + 60) < 900):=by lia
theorem o9 {a0:Nat}{a1:Nat}(h1:(a0=a1)):(a0≤a1):=by exact Nat.le_of_eq (by assumption)
theorem o10 {a0:Nat}:(¬((a0 + 1)=a0)):=by simp_all
theorem o15 {a0:Int}(h1:(¬((0:Int)≤a0))):(a0 < (0:Int)):=by simp_all
theorem o16 {a0:Nat}(h1:(a0≤5)):(((a0:Nat):Int)≤(1000:Int)):=by lia
theorem o17 {a0:Nat}:(a0≤(a0 + 1)):=by exact Nat.le_add_right _ _
theorem o18 {a0:Nat}{a1:Nat}{a2:Nat}(h1:(a0=a1))(h2:(a1≤a2)):(a0≤a2):=by subst_vars;omega
theorem o19 {a0:Int}{a1:Nat}(h1:((Int.toNat a0) < a1)):(a0 < ((a1:Nat):Int)):=by lia
theorem o20 {a0:Nat}{a1:Nat}{a2:Nat}(h1:(a0 < a1))(h2:(a1≤a2)):(((2 * a0) + 2)≤(2 * a2)):=by grind
theorem o21 {a0:Nat}{a1:Nat}(h1:((a0 + 1) < a1)):(¬(a1=a0)):=by grind
theorem o22 {a0:Nat}{a1:Nat}(h1:((a0 + 1) < a1)):(¬(a1=(a0 + 1))):=by exact Nat.ne_of_gt (by assumption)
theorem o24 {a0:Nat}(h1:(a0≤2047)):(a0≤100000):=by exact Nat.le_trans (by assumption) (by decide)
theorem o25 {a0:Nat}{a1:Nat}{a2:Nat}(h1:(((a0 + 1) + a1) < 900))(h2:(900≤a2)):(a0 < a2):=by grind
theorem o26 {a0:Nat}(h1:(a0≤5)):(((a0 + 0) + 0) < 30):=by exact Nat.lt_of_le_of_lt (by assumption) (by decide)
theorem o27 {a0:Nat}{a1:Nat}{a2:Nat}(h1:(900≤(a0 + a1)))(h2:((a2 + a0) < 900)):(a2 < a1):=by grind
theorem o28 {a0:Nat}{a1:Nat}(h1:(a0 < a1))(h2:(a0=a1)):False:=by subst_vars;exact Nat.lt_irrefl _ (by assumption)
theorem o29 {a0:Nat}{a1:Nat}{a2:Nat}(h1:((a0 + (a1 + 1)) < a2)):(((a0 + 1) + a1) < a2):=by simp +arith at *;assumption
theorem o30 {a0:Int}{a1:Nat}(h1:((0:Int)≤(a0 + ((a1:Nat):Int)))):((-((a1:Nat):Int))≤a0):=by simp +arith at *;assumption
theorem o31 {a0:Nat}{a1:Nat}(h1:(a0≤50))(h2:(a1≤(a0 + 1))):(a1≤(16777216 + 1)):=by lia
theorem o32 {a0:Nat}{a1:Nat}{a2:Nat}{a3:Nat}(h1:((a0 + (a1 + a2)) < 900))(h2:((a3 + a2)=900)):((a0 + a1) < a3):=by grind
theorem o33:(0 < 3):=by exact Nat.succ_pos _
theorem o34 {a0:Nat}{a1:Nat}{a2:Nat}(h1:(a0≤5))(h2:((a1 + a2)=(a0 + 1))):(a2≤5000):=by grind
theorem o35 {a0:Nat}(h1:(¬(0 < a0))):(a0=0):=by simp_all
theorem o36 {a0:Nat}{a1:Nat}(h1:((4 * a0)≤a1)):((4 * (a0 + 1))≤(a1 + 4)):=by exact Nat.add_le_add_right (by assumption) _
theorem o37 {a0:Nat}{a1:Nat}{a2:Nat}{a3:Nat}(h1:((a0 + 1)≤a1))(h2:(a2=(2 * a1)))(h3:((a3 + 1)≤(2 * (a0 + 1)))):((a3 + 1)≤a2):=by grind
theorem o38 {a0:Nat}{a1:Nat}{a2:Nat}(h1:((a0 + 1)≤a1))(h2:(a2=(2 * a1))):((a0 + 1)≤a2):=by grind
theorem o39 {a0:Nat}{a1:Nat}(h1:(a0 < (a1 + 3)))(h2:(¬(a0 < a1)))(h3:(¬(a0=a1)))(h4:(¬(a0=(a1 + 1)))):(a0=(a1 + 2)):=by grind
theorem o40 {a0:Nat}{a1:Nat}{a2:Nat}(h1:(a0=a1))(h2:(¬(a2 < a1))):(a0≤a2):=by subst_vars;exact Nat.le_of_not_lt (by assumption)
theorem o41 {a0:Nat}(h1:(a0=7)):(¬((a0=4)∨(a0=5))):=by subst_vars;exact by decide
theorem o42 {a0:Nat}{a1:Nat}(h1:(a0≤5))(h2:(a1 < a0)):(a1 < 10000):=by lia
theorem o43 {a0:Nat}{a1:Nat}{a2:Nat}(h1:(a0 < a1))(h2:(a0 < a2)):(a0 < (min a2 a1)):=by lia
theorem o44 {a0:Nat}{a1:Nat}(h1:(a0≤5))(h2:(a1≤a0)):(a1 < 10):=by lia
theorem o45 {a0:Nat}{a1:Nat}:(¬((a0 + a1) < a0)):=by simp_all
theorem o46 {a0:Nat}{a1:Nat}(h1:(a0≤5))(h2:(a1=a0)):(a1≤5):=by subst_vars;omega
theorem o47 {a0:Nat}{a1:Nat}(h1:(3≤a0))(h2:(a1=a0)):(0 < a1):=by subst_vars;exact Nat.lt_of_le_of_lt (Nat.le_add_left _ _) (by assumption)
theorem o48 {a0:Nat}{a1:Nat}{a2:Nat}(h1:((a0 + (4 * (a1 + 1))) < a2)):(a0 < a2):=by exact Nat.lt_of_le_of_lt (Nat.le_add_right _ _) (by assumption)
theorem o49 {a0:Nat}{a1:Nat}{a2:Nat}(h1:((a0 + a1)≤5000))(h2:(a0=a2)):(a2≤16777216):=by grind
theorem o50 {a0:Nat}{a1:Nat}{a2:Nat}{a3:Nat}(h1:((a0 + a1)≤5000))(h2:(a0=a2))(h3:(a1=a3)):((a2 + a3)≤(16777216 + 1)):=by subst_vars;exact Nat.le_trans (by assumption) (by decide)
theorem o51 {a0:Nat}{a1:Nat}{a2:Nat}{a3:Nat}(h1:((a0 + a1)≤5000))(h2:(a0=a2))(h3:(a1=a3)):(¬((a2 + a3) > 16777216)):=by lia
theorem o52 {a0:Nat}{a1:Nat}{a2:Nat}{a3:Nat}(h1:((a0 + a1)≤5000))(h2:(a0=a2))(h3:(a1=a3)):((a2 + a3)≤16777216):=by subst_vars;exact Nat.le_trans (by assumption) (by decide)
theorem o53 {a0:Nat}{a1:Nat}:((min a0 a1)≤a0):=by lia
theorem o54 {a0:Nat}{a1:Nat}(h1:(a0≤500))(h2:(a1≤a0)):(a1≤16777216):=by lia
theorem o55 {a0:Nat}(h1:(a0 < 49))(h2:(a0≥46)):((a0=46)∨((a0=47)∨(a0=48))):=by grind
theorem o56 {a0:Nat}(h1:(2≤a0))(h2:(a0≤6)):((a0=2)∨((a0=3)∨((a0=4)∨((a0=5)∨(a0=6))))):=by grind
theorem o57 {a0:Nat}(h1:(a0≤6)):((a0=0)∨((a0=1)∨((a0=2)∨((a0=3)∨((a0=4)∨((a0=5)∨(a0=6))))))):=by grind
theorem o58 {a0:Nat}{a1:Nat}(h1:((1114112 + a0) < 1114112)):(a0=a1):=by simp_all +arith
theorem o59 {a0:Nat}{a1:Nat}(h1:((1114112 + a0) < 1114112)):(a1=a0):=by simp_all +arith
theorem o60 {a0:Int}{a1:Nat}(h1:((0:Int)≤a0))(h2:(a1≤1000))(h3:((Int.toNat a0) < a1)):(((-(1000000:Int)) < a0)∧(a0 < (1000000:Int))):=by lia
theorem o61 {a0:Nat}(h1:(a0≤40)):((2 * a0)≤5000):=by grind
theorem o62 {a0:Nat}(h1:(a0≤40)):(((2 * a0) + 1)≤5000):=by grind
theorem o63 {a0:Nat}(h1:(a0≤40)):((2 * a0)≤100):=by grind
theorem o64 {a0:Nat}{a1:Nat}(h1:((41 - a0)≤a1))(h2:(a0≤40)):(a1=((a1 - 1) + 1)):=by lia
theorem o65 {a0:Int}(h1:((0:Int)≤a0)):(¬(a0=(-(1:Int)))):=by grind
theorem o66 {a0:Nat}(h1:(a0≤40)):(((2 * a0) + 1)≤100):=by grind
theorem o67 {a0:Nat}{a1:Nat}{a2:Nat}{a3:Nat}(h1:(a0=(42 - a1)))(h2:(a1 < a2))(h3:(a2≤a3))(h4:(a3≤40)):((42 - a3) < a0):=by lia
theorem o68 {a0:Nat}{a1:Nat}{a2:Nat}{a3:Nat}(h1:((41 - a0)≤(a1 + 1)))(h2:(a0 < a2))(h3:(a2≤a3)):((41 - a3)≤a1):=by omega
theorem o69 {a0:Nat}{a1:Nat}(h1:(a0=a1)):(¬(a0 < a1)):=by simp_all
theorem o70 {a0:Nat}{a1:Nat}{a2:Nat}{a3:Nat}(h1:(a0=(42 - a1)))(h2:(a1 < a2))(h3:(a2≤a3))(h4:(a3≤40)):(0 < a0):=by lia
theorem o71 {a0:Nat}{a1:Nat}(h1:((a0=a1)∨(a0=(a1 + 1)))):(¬(a0 < a1)):=by grind
theorem o72 {a0:Nat}{a1:Nat}(h1:((a0 + 1) < a1)):(¬(a1 < a0)):=by lia
theorem o73 {a0:Nat}{a1:Nat}(h1:(a0=1))(h2:(a1≤2047)):((a1 + a0)≤100000):=by subst_vars;exact Nat.lt_of_le_of_lt (by assumption) (by decide)
theorem o74 {a0:Nat}{a1:Nat}(h1:(a0≤2047))(h2:(a1≤a0)):(a1≤100000):=by lia
theorem o75 {a0:Nat}{a1:Nat}{a2:Nat}{a3:Nat}(h1:(a0≤2047))(h2:(a1≤a0))(h3:(a2≤a0))(h4:(a3=0)):(((a1 + a3) + a2)≤100000):=by grind
theorem o76 {a0:Nat}{a1:Nat}{a2:Nat}{a3:Nat}(h1:(a0=(a1 + 1)))(h2:(a0=a2))(h3:(a1=a3)):(a2=(a3 + 1)):=by subst_vars;exact Nat.add_zero _
theorem o77 {a0:Nat}{a1:Nat}(h1:(a0=(a1 + 1))):(a1≠a0):=by simp_all
theorem o78 {a0:Nat}{a1:Nat}{a2:Nat}(h1:(a0=a1))(h2:(a2=(a0 + 1))):(a2=(a1 + 1)):=by subst_vars;exact Nat.add_zero _
theorem o79 {a0:Nat}{a1:Nat}{a2:Nat}(h1:(a0=(a1 + 1)))(h2:(a2=(a0 + 1))):(a1 < a2):=by subst_vars;exact Nat.le_add_right _ _
theorem o80 {a0:Nat}{a1:Nat}{a2:Nat}{a3:Nat}(h1:(a0=(a1 + 1)))(h2:(a2≤a3))(h3:(a3 < a0)):(a2≤a1):=by lia
theorem o81 {a0:Nat}{a1:Nat}{a2:Nat}(h1:(a0≤a1))(h2:(a1 < a2)):(a0≤a2):=by exact Nat.le_of_lt (Nat.lt_of_le_of_lt (by assumption) (by assumption))
theorem o82 {a0:Nat}{a1:Nat}{a2:Nat}(h1:(a0≤5000))(h2:(a1 < a0)):((min a1 a2)≤5000):=by grind
theorem o83 {a0:Nat}{a1:Nat}(h1:(a0≤a1)):((min a0 a1)=a0):=by exact Nat.min_eq_left (by assumption)
theorem o84 {a0:Nat}{a1:Nat}{a2:Nat}(h1:(a0≤100))(h2:(a1 < a0)):((min a1 a2)≤500):=by grind
theorem o85 {a0:Nat}{a1:Nat}(h1:(¬(a0=a1))):(¬((a0 + 1)=(a1 + 1))):=by simp +arith at *;assumption
theorem o86 {a0:Nat}:(a0≤((a0 + 1) + 1)):=by simp_all +arith
theorem o87 {a0:Nat}{a1:Nat}(h1:((a0 + a1)=a0)):(a1=0):=by simp +arith at *;assumption
theorem o88 {a0:Int}{a1:Nat}(h1:((0:Int)≤a0))(h2:(a0 < (0:Int))):(((-((a1:Nat):Int))≤a0)∧((Int.toNat a0)=(Int.toNat (a0 + ((a1:Nat):Int))))):=by lia
theorem o90 {a0:Int}{a1:Nat}(h1:((0:Int)≤a0))(h2:((Int.toNat a0) < a1)):(((0:Int)≤a0)∧(a0 < ((a1:Nat):Int))):=by simp_all
theorem o92 {a0:Int}{a1:Nat}(h1:(((0:Int)≤a0)∧(a0 < (1000000:Int))))(h2:(a0 < ((a1:Nat):Int))):(((0:Int)≤a0)∧(a0 < ((a1:Nat):Int))):=by simp_all
theorem o93 {a0:Nat}{a1:Nat}{a2:Nat}{a3:Nat}(h1:(a0 < a1))(h2:(a1≤a2))(h3:(a3=a2)):(a0≤a3):=by subst_vars;exact Nat.le_of_lt (Nat.lt_of_lt_of_le (by assumption) (by assumption))
theorem o94 {a0:Nat}{a1:Nat}(h1:(a0 < a1)):(a0≤a1):=by subst_vars;exact Nat.le_of_lt (by assumption)
theorem o95 {a0:Nat}{a1:Nat}(h1:(a0=(a1 + 2))):(a1 < a0):=by simp_all
theorem o96 {a0:Nat}{a1:Nat}{a2:Nat}(h1:(a0≤(a1 + 1)))(h2:((a1 + 1) < a2)):(a0≤a2):=by exact Nat.le_of_lt (Nat.lt_of_le_of_lt (by assumption) (by assumption))
theorem o97 {a0:Nat}{a1:Nat}(h1:(a0=a1))(h2:(a1≤10)):(a0≤5000):=by subst_vars;exact Nat.le_trans (by assumption) (by decide)
theorem o98 {a0:Nat}{a1:Nat}:((((a0:Nat):Int)=((a1:Nat):Int))↔(a0=a1)):=by grind
theorem o99 {a0:Nat}{a1:Nat}(h1:(a0≤a1))(h2:(a1≤5)):(((-(1000000:Int)) < ((a0:Nat):Int))∧(((a0:Nat):Int) < (1000000:Int))):=by lia
theorem o100 {a0:Nat}(h1:(a0 < 5)):(((0:Int)≤((a0:Nat):Int))∧(((a0:Nat):Int) < (1000000:Int))):=by lia
theorem o101 {a0:Nat}{a1:Nat}(h1:(a0≤5))(h2:(a1 < a0)):(((-(1000000:Int)) < ((a1:Nat):Int))∧(((a1:Nat):Int) < (1000000:Int))):=by lia
theorem o102:(0 < 10000):=by exact Nat.succ_pos _
theorem o103 {a0:Nat}:(3≤(3 + a0)):=by exact Nat.le_add_right _ _
theorem o104 {a0:Nat}(h1:(a0 < 3)):((3 + a0)≤5):=by simp +arith at *;assumption
theorem o106 {a0:Nat}{a1:Nat}{a2:Nat}(h1:(a0≤5))(h2:((a1 + a2)=(a0 + 1))):(a1≤5000):=by grind
theorem o107 {a0:Nat}{a1:Nat}{a2:Nat}{a3:Nat}(h1:(a0≤5))(h2:((a1 + a2)=(a0 + 1)))(h3:(a3 < a2)):(a3 < 6):=by grind
theorem o108 {a0:Nat}{a1:Nat}{a2:Nat}{a3:Nat}(h1:(a0 < 1000))(h2:(a1≤5))(h3:((a2 + a3)≤((a0 + a1) + 1))):(a2 < 10000):=by grind
theorem o109 {a0:Nat}{a1:Nat}(h1:(a0=a1)):((a0 - 1)=(a1 - 1)):=by subst_vars;exact Int.toNat_natCast _
theorem o110 {a0:Nat}{a1:Nat}(h1:(a0 < a1)):((a1 - 1) < a1):=by omega
theorem o111 {a0:Nat}{a1:Nat}{a2:Nat}{a3:Nat}{a4:Nat}{a5:Nat}{a6:Nat}(h1:((a0 + a1)≤((a2 + a3) + 1)))(h2:(a1=a4))(h3:(a5 < a1))(h4:(a6=(a4 - 1))):(((a0 + 1) + a6)≤((a2 + a3) + 1)):=by grind
theorem o112 {a0:Nat}:((min 48 a0)≤100):=by lia
theorem o113 {a0:Nat}(h1:(a0≤5)):(((0:Int)≤(((a0:Nat):Int) + (1:Int)))∧((((a0:Nat):Int) + (1:Int))≤(1000:Int))):=by lia
theorem o114 {a0:Nat}{a1:Nat}(h1:(a0≤5))(h2:(a1≤(1 + (10 * a0)))):(a1 < 1000):=by grind
theorem o115 {a0:Nat}:(0 < (a0 + 2)):=by exact Nat.succ_pos _
theorem o116 {a0:Nat}{a1:Nat}{a2:Nat}{a3:Nat}(h1:(a0≤5))(h2:(a1≤(1 + (10 * a0))))(h3:((a2 + a3)≤((a1 + a0) + 1))):(a2 < 10000):=by grind
theorem o117 {a0:Nat}{a1:Nat}{a2:Nat}{a3:Nat}(h1:(a0≤a1))(h2:((a2 + (a3 + 1)) < a0)):((a2 + 1) < a1):=by grind
theorem o118 {a0:Nat}{a1:Nat}(h1:(a0≤10))(h2:(a1=a0)):(a1≤5000):=by subst_vars;exact Nat.le_trans (by assumption) (by decide)
theorem o119 {a0:Nat}(h1:(a0≤10)):(((a0:Nat):Int)≤(1000:Int)):=by lia
theorem o120 {a0:Nat}{a1:Nat}(h1:(a0 < a1)):((min a0 a1)=a0):=by exact Nat.min_eq_left (Nat.le_of_lt (by assumption))
theorem o121 {a0:Nat}{a1:Nat}{a2:Nat}(h1:(a0≤10))(h2:(a1 < a0)):((min a1 a2)≤500):=by grind
theorem o122 {a0:Nat}{a1:Nat}(h1:(a0≤a1))(h2:(a1≤5)):(a0 < 10):=by lia
theorem o123 {a0:Nat}{a1:Nat}(h1:(a0≤a1))(h2:(a1≤5)):(a0 < 10000):=by lia
theorem o124 {a0:Nat}{a1:Nat}(h1:(a0≤10))(h2:(a1 < a0)):(a1 < 1000000):=by lia
theorem o125 {a0:Nat}{a1:Nat}{a2:Nat}(h1:(a0≤a1))(h2:(a2≤a1)):(((a0 + 0) + a2)≤(2 * a1)):=by grind
theorem o126 {a0:Nat}{a1:Nat}(h1:(a0≤43))(h2:((4 * a1)≤a0)):((a1 + 1)≤11):=by grind
theorem o127 {a0:Nat}:((a0 * 2)=(2 * a0)):=by simp_all +arith
theorem o128 {a0:Nat}(h1:(¬(a0=40))):(¬(((a0:Nat):Int)=(40:Int))):=by grind
theorem o130 {a0:Nat}(h1:(a0 < 40)):(¬(a0=40)):=by exact Nat.ne_of_lt (by assumption)
theorem o131 {a0:Nat}(h1:(a0=40)):(a0≤5000):=by subst_vars;exact Nat.le_add_left _ _
theorem o132 {a0:Nat}(h1:(¬(2 < a0))):(¬((2:Int) < ((a0:Nat):Int))):=by lia
theorem o133 {a0:Nat}{a1:Nat}(h1:(¬(a0 < a1)))(h2:(¬(a0=a1))):(a1 < a0):=by lia
theorem o134 {a0:Nat}:((a0 + 1) < (a0 + 2)):=by exact Nat.lt_succ_self _
theorem o135 {a0:Nat}{a1:Nat}(h1:(a0≤1000))(h2:(a1 < (a0 + 3))):(((-(1000000:Int)) < ((a1:Nat):Int))∧(((a1:Nat):Int) < (1000000:Int))):=by lia
theorem o136 {a0:Nat}{a1:Nat}{a2:Nat}(h1:(a0=a1))(h2:(a2 < a1)):(a2 < a0):=by exact Nat.lt_of_lt_of_eq (by assumption) (Eq.symm (by assumption))
theorem o137 {a0:Nat}{a1:Nat}(h1:(a0≠a1)):(¬(((a0:Nat):Int)=((a1:Nat):Int))):=by grind
theorem o138 {a0:Nat}(h1:(¬((a0=4)∨(a0=5)))):((4:Int)≠((a0:Nat):Int)):=by grind
theorem o139 {a0:Nat}(h1:(¬((a0=4)∨(a0=5)))):((5:Int)≠((a0:Nat):Int)):=by grind
theorem o140 {a0:Nat}{a1:Nat}:((((a0:Nat):Int) < ((a1:Nat):Int))↔(a0 < a1)):=by simp_all
theorem o141 {a0:Nat}(h1:(a0≤5)):((a0 + 3)≤5000):=by lia
theorem o142 {a0:Nat}{a1:Nat}(h1:(a0≤5))(h2:(a1=a0)):(a1≤5000):=by subst_vars;exact Nat.le_trans (by assumption) (by decide)
theorem o143 {a0:Nat}(h1:(a0=7)):(a0≠8):=by subst_vars;exact by decide
theorem o144 {a0:Nat}(h1:(a0=7)):(a0≠6):=by subst_vars;exact by decide
theorem o145 {a0:Nat}{a1:Nat}{a2:Nat}(h1:(¬(a0 < a1))):(¬((a2=7)∧(a0 < a1))):=by simp_all
theorem o146 {a0:Nat}(h1:(a0=7)):(¬(a0=8)):=by subst_vars;exact by decide
theorem o147 {a0:Nat}(h1:(a0=7)):(¬(a0=6)):=by subst_vars;exact by decide
theorem o148 {a0:Nat}{a1:Nat}{a2:Nat}(h1:(¬(a0=7))):(¬((a0=7)∧(a1 < a2))):=by simp_all
theorem o149 {a0:Nat}{a1:Nat}{a2:Nat}(h1:(¬(a0 < a1))):((min a1 a2)≤a0):=by grind
theorem o150 {a0:Nat}{a1:Nat}{a2:Nat}(h1:(a0 < a1))(h2:(¬(a0 < a2))):((a0 - (min a2 a1)) < (a1 - a2)):=by grind
theorem o151 {a0:Nat}{a1:Nat}{a2:Nat}(h1:(a0 < a1))(h2:(¬(a0 < a2))):((((a0 - (min a2 a1)):Nat):Int)=(((a0:Nat):Int) - ((a2:Nat):Int))):=by grind
theorem o152 {a0:Nat}{a1:Nat}{a2:Nat}(h1:(¬(a0 < a1))):(((min a2 a1) + (a1 - a2))≤a0):=by omega
theorem o153 {a0:Nat}{a1:Nat}(h1:(¬(a0 < a1))):(a1≤a0):=by exact Nat.le_of_not_lt (by assumption)
theorem o154 {a0:Nat}{a1:Nat}(h1:(a0≤10)):((min a1 a0)≤10):=by grind
theorem o155 {a0:Nat}{a1:Nat}(h1:(a0≤10)):((a0 - a1)≤10):=by exact Nat.le_trans (Nat.sub_le _ _) (by assumption)
theorem o156 {a0:Nat}(h1:(a0≤10)):((0 + a0)≤500):=by lia
theorem o157 {a0:Nat}{a1:Nat}(h1:(a0≤10))(h2:(a1≤10)):((a0 + a1)≤500):=by grind
theorem o158 {a0:Nat}{a1:Nat}{a2:Nat}{a3:Nat}(h1:(a0≤a1))(h2:((a2 + (a3 + 1)) < a0)):(a2 < a1):=by grind
theorem o159 {a0:Nat}(h1:(a0 < 1000000)):(((-(1000000:Int)) < ((a0:Nat):Int))∧(((a0:Nat):Int) < (1000000:Int))):=by lia
theorem o160 {a0:Nat}{a1:Nat}(h1:(a0≤10)):((min a1 a0)≤100):=by grind
theorem o161 {a0:Nat}{a1:Nat}(h1:(a0≤10)):((a0 - a1)≤100):=by grind
theorem o162 {a0:Nat}{a1:Nat}(h1:(¬(a0=a1))):(¬(((a0:Nat):Int)=((a1:Nat):Int))):=by grind
theorem o163 {a0:Nat}{a1:Nat}{a2:Nat}(h1:(a0≤(10 * a1)))(h2:(a2≤3)):(((a2 + 1) + a0)≤(10 * (a1 + 1))):=by grind
theorem o164 {a0:Nat}{a1:Nat}(h1:(a0 < 2))(h2:(a1=a0)):(a1≤5000):=by lia
theorem o165:(0 < 9):=by exact Nat.succ_pos _
theorem o166 {a0:Nat}{a1:Nat}{a2:Nat}(h1:(a0 < 9000))(h2:(a1 < 2))(h3:(a2=a1)):(((a0 + (2 * a2)) + 1) < 10000):=by grind
theorem o167 {a0:Nat}:(0 < (a0 + 3)):=by exact Nat.succ_pos _
theorem o168 {a0:Nat}{a1:Nat}{a2:Nat}(h1:(a0 < 9000))(h2:(a1 < 2))(h3:(a2=a1)):((a0 + (2 * a2)) < 10000):=by grind
theorem o169 {a0:Nat}{a1:Nat}{a2:Nat}(h1:(a0=(a1 + 1)))(h2:(a2=a0)):(a1≤a2):=by simp_all
theorem o170 {a0:Nat}{a1:Nat}{a2:Nat}(h1:(a0≤5))(h2:(a1 < a2))(h3:(a2=(a0 + 1))):(a1 < 10):=by lia
theorem o171 {a0:Nat}(h1:(0 < a0)):((0:Int) < ((a0:Nat):Int)):=by exact Int.ofNat_lt.mpr (by assumption)
theorem o172 {a0:Nat}{a1:Nat}(h1:((a0 + 200) < a1)):((a0 + 40) < a1):=by lia
theorem o174 {a0:Nat}{a1:Nat}(h1:(a0=a1)):((a0 + 1)=(a1 + 1)):=by simp +arith at *;assumption
theorem o175 {a0:Nat}{a1:Nat}(h1:(¬(a0 < a1)))(h2:((a0 - a1)=0)):(a0=a1):=by grind
theorem o176 {a0:Nat}{a1:Nat}(h1:(a0=a1)):(a0≤(a1 + 1)):=by subst_vars;exact Nat.le_add_right _ _
theorem o177 {a0:Nat}{a1:Nat}(h1:((a0 + a1)=900)):(a0≤900):=by grind
theorem o178 {a0:Nat}(h1:(a0 < 9000)):((a0 + 2) < 10000):=by lia
theorem o179 {a0:Nat}(h1:(a0 < 8000)):((a0 + 3) < 9000):=by lia
theorem o180 {a0:Nat}{a1:Nat}(h1:(a0 < 100))(h2:(a1=a0)):(a1≤5000):=by lia
theorem o181 {a0:Nat}{a1:Nat}{a2:Nat}{a3:Nat}(h1:(a0≤(a1 + (10 * a2))))(h2:(a3≤2)):(((a0 + 3) + (2 * a3))≤(a1 + (10 * (a2 + 1)))):=by grind
theorem o182 {a0:Nat}{a1:Nat}{a2:Nat}{a3:Nat}(h1:(a0 < 100))(h2:(a1≤10))(h3:(a2≤(a0 + (10 * a3))))(h4:(a3 < a1)):(a2 < 8000):=by grind
theorem o183 {a0:Nat}{a1:Nat}(h1:(a0≤10))(h2:(a1 < a0)):(a1 < 100):=by lia
theorem o184 {a0:Nat}{a1:Nat}(h1:(a0=1)):(((a1 + a0) + 1)≤(2 * (a1 + 1))):=by simp_all +arith
theorem o185 {a0:Nat}{a1:Nat}(h1:(a0≤(2 * a1))):((a0 + 1)≤(2 * (a1 + 1))):=by lia
theorem o186 {a0:Nat}{a1:Nat}(h1:((min 16 a0)=a1))(h2:(a1=16)):(16≤a0):=by lia
theorem o187 {a0:Nat}:(6≤(13 + a0)):=by simp_all +arith
theorem o188 {a0:Nat}:(9≤(13 + a0)):=by simp_all +arith
theorem o189 {a0:Nat}{a1:Nat}{a2:Nat}{a3:Nat}(h1:(a0 < (min a1 a2))):((a3 + a0) < (a3 + a1)):=by grind
theorem o190 {a0:Nat}{a1:Nat}:(a0≤(a0 + a1)):=by exact Nat.le_add_right _ _
theorem o191 {a0:Nat}{a1:Nat}{a2:Nat}(h1:(a0 < (a1 + a2)))(h2:(a0=(a1 + a2))):False:=by subst_vars;exact Nat.lt_irrefl _ (by assumption)
theorem o192 {a0:Nat}{a1:Nat}{a2:Nat}(h1:(a0 < a1)):((a2 + (min a0 a1))=(a2 + a0)):=by lia
theorem o193 {a0:Nat}{a1:Nat}{a2:Nat}(h1:((a0 + a1)≤500)):((a0 + (min a2 a1))≤500):=by lia
theorem o194 {a0:Nat}{a1:Nat}(h1:(a0=(97 + a1))):(a0≠65):=by simp_all +arith
theorem o195 {a0:Nat}(h1:((97 + a0)=90)):False:=by simp_all +arith
theorem o196 {a0:Nat}{a1:Nat}(h1:(a0≤10)):((min a1 a0)≤1000):=by grind
theorem o197 {a0:Nat}{a1:Nat}:((Int.toNat (((a0:Nat):Int) - ((a1:Nat):Int)))=(a0 - a1)):=by simp_all
theorem o198 {a0:Nat}{a1:Nat}(h1:(¬(a0 < a1))):((0:Int)≤(((a0:Nat):Int) - ((a1:Nat):Int))):=by simp +arith at *;assumption
theorem o199 {a0:Nat}{a1:Nat}(h1:(a0≤10)):((a0 - a1)≤1000):=by grind
theorem o201 {a0:Nat}{a1:Nat}(h1:((a0 + 1) < a1)):(a0≤a1):=by lia
theorem o202 {a0:Nat}(h1:(a0=98)):(a0≠65):=by subst_vars;exact by decide
theorem o203 (h1:(197=198)):False:=by simp_all
theorem o204 {a0:Nat}{a1:Nat}{a2:Nat}{a3:Nat}(h1:((a0 + (a1 + 1)) < a2))(h2:((a3 + 1)≤(a1 + 1))):((a0 + a3) < a2):=by grind
theorem o205 {a0:Nat}(h1:(0 < a0)):(¬(((a0:Nat):Int)=(0:Int))):=by grind
theorem o206 {a0:Nat}(h1:(a0 < 10000)):(((-(1000000:Int)) < ((a0:Nat):Int))∧(((a0:Nat):Int) < (1000000:Int))):=by lia
theorem o207 {a0:Nat}(h1:(a0≤64)):(¬(a0 > 64)):=by simp_all
theorem o208 {a0:Nat}{a1:Nat}{a2:Nat}(h1:(a0=a1)):(a0≤(a1 + a2)):=by subst_vars;exact Nat.le_add_right _ _
theorem o209 {a0:Nat}{a1:Nat}{a2:Nat}{a3:Nat}(h1:(a0=a1))(h2:(a2=a3)):((a0 + a2)=(a1 + a3)):=by subst_vars;exact Int.toNat_natCast _
theorem o210 {a0:Nat}{a1:Nat}(h1:(a0=(a1 + 1))):(a1≤a0):=by subst_vars;exact Nat.le_add_right _ _
theorem o211 {a0:Nat}(h1:((a0 + 520) < 900)):(((a0 + 1) + 510) < 900):=by lia
theorem o212 {a0:Nat}{a1:Nat}:((a0 < (a1 + 1))↔(a0≤a1)):=by simp_all +arith
theorem o213 {a0:Nat}(h1:(a0≤5)):(a0≤10):=by exact Nat.le_trans (by assumption) (by decide)
theorem o214 {a0:Nat}{a1:Nat}{a2:Nat}(h1:(a0≤5))(h2:(a1=(a0 + 1)))(h3:(a2 < a1)):(a2 < 10):=by lia
theorem o215 {a0:Nat}{a1:Nat}(h1:(a0≤5))(h2:(a1=(a0 + 1))):(a1≤10):=by subst_vars;exact Nat.lt_of_le_of_lt (by assumption) (by decide)
theorem o216 {a0:Nat}{a1:Nat}(h1:((a0 + (a1 + 1)) < 900)):(((a0 + 1) + a1) < 900):=by simp +arith at *;assumption
theorem o217 {a0:Nat}{a1:Nat}{a2:Nat}(h1:((a0 + 40) < a1))(h2:(a2=(a0 + 1))):((a2 + (4 * 5)) < a1):=by lia
theorem o218 {a0:Nat}{a1:Nat}{a2:Nat}(h1:((a0 + 40) < a1))(h2:(a2=(a0 + 1))):((a2 + 8) < a1):=by lia
theorem o219 {a0:Nat}{a1:Nat}{a2:Nat}(h1:((a0 + (a1 + 1))=a2)):(a0 < a2):=by grind
theorem o220 {a0:Nat}{a1:Nat}{a2:Nat}(h1:((a0 + (a1 + 1))=a2)):(((a0 + 1) + a1)=a2):=by subst_vars;exact Nat.succ_add _ _
theorem o221 {a0:Nat}{a1:Nat}{a2:Nat}(h1:((a0 + (4 * (a1 + 1))) < a2)):(((a0 + 1) + (4 * a1)) < a2):=by lia
noncomputable def AllL {α:Type}:Nat→(List α→Prop)→Prop
 | 0,P=>P []
 | n + 1,P=>∀a,AllL n fun l=>P (a :: l)
@[elab_as_elim] theorem lenI {α:Type} {n:Nat} {P:List α→Prop} {l:List α} (h:l.length=n) (k:AllL n P):P l:=by
 induction n generalizing P l with
 | zero=>exact List.length_eq_zero_iff.mp h▸k
 | succ n ih=>cases l with
  | nil=>exact nomatch h
  | cons a l=>exact ih (P:=fun l=>P (a :: l)) (Nat.succ.inj h) (k a)
theorem noS {α:Type}{a:α}{G:Prop}(h:none=some a):G:=nomatch h
theorem noS' {α:Type}{a:α}{G:Prop}(h:some a=none):G:=nomatch h
theorem noB {G:Prop}(h:false=true):G:=nomatch h
theorem noB' {G:Prop}(h:true=false):G:=nomatch h
theorem oB {α β:Type}{x:Option α}{f:α→Option β}{r:β}{G:Prop}(h:x.bind f=some r)(k:∀a,x=some a→f a=some r→G):G:=by
 cases x with
 | none=>exact noS h
 | some a=>exact k a rfl h
theorem oM {α β:Type}{x:Option α}{f:α→β}{r:β}{G:Prop}(h:x.map f=some r)(k:∀a,x=some a→f a=r→G):G:=by
 cases x with
 | none=>exact noS h
 | some a=>exact k a rfl (Option.some.inj h)
theorem oI {α:Type}{c:Prop} [Decidable c] {a r:α}{G:Prop}(h:(if c then some a else none)=some r)(k:c→a=r→G):G:=by
 by_cases hc:c
 ·exact k hc (Option.some.inj ((if_pos hc).symm.trans h))
 ·exact noS ((if_neg hc).symm.trans h)
noncomputable def gd {α:Type}(b:Bool)(t:Option α):Option α:=match b with | true=>t | false=>none
noncomputable def oe {α β:Type}(o:Option α)(f:α→Option β)(g:Option β):Option β:=match o with | some a=>f a | none=>g
theorem gG {α:Type}{b:Bool}{t:Option α}{r:α}{G:Prop}(h:gd b t=some r)(k:b=true→t=some r→G):G:=by
 cases b with
 | true=>exact k rfl h
 | false=>exact noS h
theorem bA {a b:Bool}{G:Prop}(h:(a && b)=true)(k:a=true→b=true→G):G:=by
 cases a with
 | true=>exact k rfl h
 | false=>exact noB h
theorem gG2 {α:Type}{a b:Bool}{t:Option α}{r:α}{G:Prop}(h:gd (a && b) t=some r)(k:a=true→b=true→t=some r→G):G:=gG h fun q h=>bA q fun p q=>k p q h
theorem gG3 {α:Type}{a b c:Bool}{t:Option α}{r:α}{G:Prop}(h:gd (a && (b && c)) t=some r)(k:a=true→b=true→c=true→t=some r→G):G:=gG2 h fun p q h=>bA q fun q r=>k p q r h
theorem oC {α β:Type}{o:Option α}{f:α→Option β}{g:Option β}{r:β}{G:Prop}(h:oe o f g=some r)(k1:∀a,o=some a→f a=some r→G)(k2:o=none→g=some r→G):G:=by
 cases o with
 | none=>exact k2 rfl h
 | some a=>exact k1 a rfl h
theorem cC {α:Type}{b:Bool}{x y:Option α}{r:α}{G:Prop}(h:cond b x y=some r)(k1:b=true→x=some r→G)(k2:b=false→y=some r→G):G:=by
 cases b with
 | true=>exact k1 rfl h
 | false=>exact k2 rfl h
theorem oa1 {j:Int}{n:Nat}(h0:0≤j)(h:j.toNat < n)(s:n≤5000):j < 2 ^ 63:=by omega
theorem oa2 {n:Nat}(h:n≤1000000):(n:Int) < 2 ^ 63:=by omega
theorem oa3 {i:Int}(h:i.natAbs < 1000): -(2 ^ 64) < i:=by omega
theorem oa4 {i:Int}(h:i.natAbs < 1000):i < 2 ^ 64:=by omega
theorem oa5 {i:Int}(h:0≤i∧i < 1000000):¬i < -(2 ^ 63)∧¬i≥2 ^ 63:=by omega
theorem oa6 {i:Int}:(if i < 0 then -i else i)=(i.natAbs:Int):=by split <;> omega
theorem oa7 {i:Int}(h:0≤i):(if (0:Int) < i then i - 0 else 0)=(i.toNat:Int):=by split <;> omega
theorem oa8 {n:Nat}{b:Bool}(h:n=if b=true then 2 else 1):n≤2:=by cases b <;> simp at h <;> omega
theorem oa9 {n:Nat}{b:Bool}(h:n < if b=true then 2 else 1):n < 2:=by cases b <;> simp at h <;> omega
set_option genInjectivity false
set_option genSizeOf false
inductive Tg where
 | tup | lst
 | ins (C:Nat)
 | idc (ns:List Nat)
 | dct (ks:List Str)
 | clo (f:Nat) (ns:List Nat)
 | cell | rng
 | obj (o:Obj)
inductive AV where
 | none | bool (b:Bool) | int (i:Int) | lit (k:Nat) | str (s:Str) | ref (r:Nat) | kls (k:Nat) | raw (v:Value) | nd (t:Tg) (xs:List AV)
inductive Bi where | len | str | int | abs | isi | list | range | enum
inductive E where
 | cst (c:AV) (p:Pos)
 | loc (x:Nat) (p:Pos) | cel (x:Nat) (p:Pos) | glb (x:Nat) (p:Pos) | cls (c:Nat) (p:Pos)
 | attr (o:E) (a:Nat) (p:Pos)
 | calf (f:Nat) (fp:Pos) (as:List E) (p:Pos)
 | new (c:Nat) (fp:Pos) (as:List E) (p:Pos)
 | calx (x:Nat) (xp:Pos) (as:List E) (p:Pos)
 | calb (b:Bi) (fp:Pos) (as:List E) (p:Pos)
 | meth (o:E) (m:Nat) (ap:Pos) (as:List E) (p:Pos)
 | bin (op:Operator) (l r:E) (p:Pos)
 | unot (e:E) (p:Pos) | uneg (i:Int) (cp p:Pos)
 | bop (isAnd:Bool) (es:List E) (p:Pos)
 | ife (t b o:E) (p:Pos)
 | cmp (op:CmpOp) (l r:E) (p:Pos)
 | tup (es:List E) (k:Nat) (p:Pos) | lst (es:List E) (p:Pos)
 | dic (ks:List (Nat×Pos)) (vs:List E) (p:Pos)
 | sub (o i:E) (p:Pos)
 | slc (o:E) (lo hi:Option E) (sp p:Pos)
 | cmpr (elt:E) (x:Nat) (xp:Pos) (it:E) (sc:Nat) (p:Pos)
inductive T where
 | n (x:Nat) (p:Pos) | c (x:Nat) (p:Pos) | a (o:E) (a:Nat) (p:Pos)
inductive S where
 | expr (e:E) (p:Pos) | ret (e:E) (p:Pos) | pass (p:Pos)
 | asg (x:Nat) (xp:Pos) (e:E) (p:Pos)
 | asc (x:Nat) (xp:Pos) (e:E) (p:Pos)
 | asa (o:E) (a:Nat) (ap:Pos) (e:E) (p:Pos)
 | ass (o i:E) (sp:Pos) (e:E) (p:Pos)
 | ast (ts:List T) (k:Nat) (tp:Pos) (e:E) (p:Pos)
 | aug (x:Nat) (xp:Pos) (e:E) (p:Pos)
 | ifs (t:E) (b o:List S) (p:Pos)
 | whl (t:E) (b:List S) (p:Pos)
 | forl (x:Nat) (xp:Pos) (it:E) (b:List S) (p:Pos)
 | forp (x:Nat) (xp:Pos) (y:Nat) (yp:Pos) (k:Nat) (tp:Pos) (it:E) (b:List S) (p:Pos)
 | rais (c:Nat) (cp:Pos) (as:List E) (q p:Pos)
 | tryx (b:List S) (c:Nat) (cp:Pos) (x:Nat) (h:List S) (hp p:Pos)
 | defn (f:Nat)
structure Fn where
 pars:List Nat
 dfl:List AV:=[]
 kd:List (Nat×NameKind)
 body:List S
 own:List Nat:=[]
 fre:List Nat:=[]
noncomputable def tbl:List String:=["SnobolError", "self", "number", "told", "__init__", "__class__", "super", "error", "", "Failure", "value", "is_fail", "isinstance", "Work", "stack", "guards", "found", "goal", "push", "append", "pop", "many", "take", "first", "len", "GivenHooks", "replies", "labels", "notes", "word", "parts", "ask", "name", "var_value", "read", "kind", "name_of", "named_by", "indirect", "ref", "ref_value", "args", "wants_name", "called", "call", "owner", "keys", "item_of", "item", "op", "operated", "operator", "tree", "delayed", "given_part", "given", "cursor", "subject", "pattern", "matched", "match", "assign", "replace", "label_of", "at", "begin", "failed", "thing", "place_of", "END", "NO_STATEMENT", "code", "RETURN", "left", "orders", "hooks", "run_row", "work", "order", "height", "do_order", "GUARD", "do_part", "do_deed", "do_other", "PUSH", "VAR", "REF", "KEYWORD", "var", "keyword", "VALUE", "INDIRECT", "CALL", "ITEM", "UNARY", "BINARY", "JOIN", " ", "DELAYED", "GIVEN", "CURSOR", "MATCH", "ASSIGN", "REPLACE", "under", "over", "UNGUARD", "DROP", "DOUBLE", "LABEL", "label", "TO", "TO CODE", "FAIL", "row", "goal_of", "GOTO_FAILED", "goto", "unit", "run_from", "statement", "is_well", "statements", "body", "success", "failure", "no further statement", "Compiled", "line", "Unit", "value_orders", "row_orders", "unary_orders", "binary_orders", "null", "text", "whole", "unary", "join", "trees", "extend", "inner", "name_orders", "$", "&", ".", "*", "@", "?", "~", "right", "body_orders", "is_replaced", "replacement", "go", "goto_orders", "direct", "compile_statement", "always", "go_always", "go_success", "go_failure", "compile_program", "made", "one", "enumerate", "Statement", "well", "_law_dipped", "cells", "turn", "abs", "int", "form", "names", "_law_way", "str", "NOWHERE", "C", "Z", "AT", "drawn", "_law_stated", "ways", "letter", "asking", "abcde", "cut", "_law_run", "last", "units", "replied", "heard", "spots", "store", "range", "A", "B", "b", "C0", "note", "find", "script", "law", "has_both", "due", "list", "AB", "L", "index"]
def nm (k:Nat):Str:=match tbl[k]? with | some s=>Str.ofString s | none=>⟨#[1114112 + k]⟩
noncomputable def attT:List (Nat×Nat):=[(2,14),(2,15),(2,16),(2,17),(3,26),(3,27),(3,28),(4,111),(4,124),(4,125),(4,126),(4,129),(5,2),(5,123),(5,27),(6,111),(6,57),(6,58),(6,153),(6,154),(6,161),(6,162),(6,160),(6,129),(6,136)]
def attOk (c n:Nat):Bool:=attT.any fun p=>Nat.beq p.1 c && Nat.beq p.2 n
noncomputable def gt:List Nat→Nat→Nat
 | [],_=>0
 | x :: _,0=>x
 | _ :: r,n + 1=>gt r n
def fnm (k:Nat):Nat:=gt [11,4,18,20,22,4,31,33,36,37,40,43,47,50,53,54,56,59,61,62,63,65,66,68,76,80,82,83,84,116,120,4,4,131,132,133,134,143,152,156,158,163,4,169,176,183,189,204,192] k
noncomputable def cnm:Nat→Nat
 | 0=>0
 | 1=>9
 | 2=>13
 | 3=>25
 | 4=>128
 | 5=>130
 | 6=>167
 | _=>0
noncomputable def bnm:Bi→Nat
 | .len=>24
 | .str=>177
 | .int=>173
 | .abs=>172
 | .isi=>12
 | .list=>207
 | .range=>196
 | .enum=>166
noncomputable def csn:Nat→List (Str×NameKind)
 | 299=>[(Str.ofString ".0",.local),(Str.ofString "statement",.local),(Str.ofString "compile_statement",.globalImplicit)]
 | 355=>[(Str.ofString ".0",.local),(Str.ofString "number",.local),(Str.ofString "len",.globalImplicit),(Str.ofString "_law_stated",.globalImplicit),(Str.ofString "drawn",.free),(Str.ofString "last",.free),(Str.ofString "names",.free)]
 | 390=>[(Str.ofString ".0",.local),(Str.ofString "note",.local)]
 | 405=>[(Str.ofString ".0",.local),(Str.ofString "number",.local),(Str.ofString "str",.globalImplicit)]
 | 406=>[(Str.ofString ".0",.local),(Str.ofString "number",.local),(Str.ofString "str",.globalImplicit),(Str.ofString "order",.free)]
 | _=>[]
def b0:List S:=[.ret (.calb .isi (pz 11 11 21) [(.loc 10 (pz 11 22 27)),(.cls 1 (pz 11 29 36))] (pz 11 11 37)) (pz 11 4 37)]
noncomputable def k0:List (Nat×NameKind):=[(10,.local),(12,.globalImplicit),(9,.globalImplicit)]
def b1:List S:=[.asa (.loc 1 (pz 19 8 12)) 14 (pz 19 8 18) (.lst [] (pz 19 21 23)) (pz 19 8 23),
 .asa (.loc 1 (pz 20 8 12)) 15 (pz 20 8 19) (.lst [] (pz 20 22 24)) (pz 20 8 24),
 .asa (.loc 1 (pz 21 8 12)) 16 (pz 21 8 18) (.cst .none (pz 21 21 25)) (pz 21 8 25),
 .asa (.loc 1 (pz 22 8 12)) 17 (pz 22 8 17) (.cst .none (pz 22 20 24)) (pz 22 8 24)]
noncomputable def k1:List (Nat×NameKind):=[(1,.local)]
def b2:List S:=[.ifs (.bop false [(.cmp .Is (.loc 10 (pz 25 11 16)) (.cst .none (pz 25 20 24)) (pz 25 11 24)),(.calf 0 (pz 25 28 35) [(.loc 10 (pz 25 36 41))] (pz 25 28 42))] (pz 25 11 42)) [.ret (.cst (.bool false) (pz 26 19 24)) (pz 26 12 24)] [] ⟨25,8,26,24⟩,
 .expr (.meth (.attr (.loc 1 (pz 27 8 12)) 14 (pz 27 8 18)) 19 (pz 27 8 25) [(.loc 10 (pz 27 26 31))] (pz 27 8 32)) (pz 27 8 32),
 .ret (.cst (.bool true) (pz 28 15 19)) (pz 28 8 19)]
noncomputable def k2:List (Nat×NameKind):=[(1,.local),(10,.local),(11,.globalImplicit)]
def b3:List S:=[.ret (.meth (.attr (.loc 1 (pz 31 15 19)) 14 (pz 31 15 25)) 20 (pz 31 15 29) [] (pz 31 15 31)) (pz 31 8 31)]
noncomputable def k3:List (Nat×NameKind):=[(1,.local)]
def b4:List S:=[.asg 23 (pz 34 8 13) (.bin .Sub (.calb .len (pz 34 16 19) [(.attr (.loc 1 (pz 34 20 24)) 14 (pz 34 20 30))] (pz 34 16 31)) (.loc 21 (pz 34 34 38)) (pz 34 16 38)) (pz 34 8 38),
 .asg 16 (pz 35 8 13) (.slc (.attr (.loc 1 (pz 35 16 20)) 14 (pz 35 16 26)) (some (.loc 23 (pz 35 27 32))) none (pz 35 27 33) (pz 35 16 34)) (pz 35 8 34),
 .asa (.loc 1 (pz 36 8 12)) 14 (pz 36 8 18) (.slc (.attr (.loc 1 (pz 36 21 25)) 14 (pz 36 21 31)) none (some (.loc 23 (pz 36 33 38))) (pz 36 32 38) (pz 36 21 39)) (pz 36 8 39),
 .ret (.loc 16 (pz 37 15 20)) (pz 37 8 20)]
noncomputable def k4:List (Nat×NameKind):=[(1,.local),(21,.local),(23,.local),(16,.local),(24,.globalImplicit)]
def b5:List S:=[.asa (.loc 1 (pz 41 8 12)) 26 (pz 41 8 20) (.loc 26 (pz 41 23 30)) (pz 41 8 30),
 .asa (.loc 1 (pz 42 8 12)) 27 (pz 42 8 19) (.loc 27 (pz 42 22 28)) (pz 42 8 28),
 .asa (.loc 1 (pz 43 8 12)) 28 (pz 43 8 18) (.lst [] (pz 43 21 23)) (pz 43 8 23)]
noncomputable def k5:List (Nat×NameKind):=[(1,.local),(26,.local),(27,.local)]
def b6:List S:=[.asg 26 (pz 46 8 15) (.attr (.loc 1 (pz 46 18 22)) 26 (pz 46 18 30)) (pz 46 8 30),
 .ret (.calx 26 (pz 47 15 22) [(.loc 29 (pz 47 23 27)),(.loc 30 (pz 47 29 34))] (pz 47 15 35)) (pz 47 8 35)]
noncomputable def k6:List (Nat×NameKind):=[(1,.local),(29,.local),(30,.local),(26,.local)]
def b7:List S:=[.ret (.meth (.loc 1 (pz 50 15 19)) 31 (pz 50 15 23) [(.cst (.lit 34) (pz 50 24 30)),(.lst [(.loc 32 (pz 50 33 37))] (pz 50 32 38))] (pz 50 15 39)) (pz 50 8 39)]
noncomputable def k7:List (Nat×NameKind):=[(1,.local),(32,.local)]
def b8:List S:=[.ret (.meth (.loc 1 (pz 53 15 19)) 31 (pz 53 15 23) [(.loc 35 (pz 53 24 28)),(.lst [(.loc 32 (pz 53 31 35))] (pz 53 30 36))] (pz 53 15 37)) (pz 53 8 37)]
noncomputable def k8:List (Nat×NameKind):=[(1,.local),(35,.local),(32,.local)]
def b9:List S:=[.ret (.meth (.loc 1 (pz 56 15 19)) 31 (pz 56 15 23) [(.cst (.lit 38) (pz 56 24 34)),(.lst [(.loc 10 (pz 56 37 42))] (pz 56 36 43))] (pz 56 15 44)) (pz 56 8 44)]
noncomputable def k9:List (Nat×NameKind):=[(1,.local),(10,.local)]
def b10:List S:=[.ret (.meth (.loc 1 (pz 59 15 19)) 31 (pz 59 15 23) [(.cst (.lit 10) (pz 59 24 31)),(.lst [(.loc 39 (pz 59 34 37))] (pz 59 33 38))] (pz 59 15 39)) (pz 59 8 39)]
noncomputable def k10:List (Nat×NameKind):=[(1,.local),(39,.local)]
def b11:List S:=[.ret (.meth (.loc 1 (pz 62 15 19)) 31 (pz 62 15 23) [(.cst (.lit 44) (pz 62 24 30)),(.lst [(.loc 32 (pz 62 33 37)),(.loc 41 (pz 62 39 43)),(.loc 42 (pz 62 45 55))] (pz 62 32 56))] (pz 62 15 57)) (pz 62 8 57)]
noncomputable def k11:List (Nat×NameKind):=[(1,.local),(32,.local),(41,.local),(42,.local)]
def b12:List S:=[.ret (.meth (.loc 1 (pz 65 15 19)) 31 (pz 65 15 23) [(.cst (.lit 48) (pz 65 24 30)),(.lst [(.loc 45 (pz 65 33 38)),(.loc 46 (pz 65 40 44)),(.loc 42 (pz 65 46 56))] (pz 65 32 57))] (pz 65 15 58)) (pz 65 8 58)]
noncomputable def k12:List (Nat×NameKind):=[(1,.local),(45,.local),(46,.local),(42,.local)]
def b13:List S:=[.ret (.meth (.loc 1 (pz 68 15 19)) 31 (pz 68 15 23) [(.cst (.lit 51) (pz 68 24 34)),(.lst [(.loc 49 (pz 68 37 39)),(.loc 41 (pz 68 41 45))] (pz 68 36 46))] (pz 68 15 47)) (pz 68 8 47)]
noncomputable def k13:List (Nat×NameKind):=[(1,.local),(49,.local),(41,.local)]
def b14:List S:=[.ret (.meth (.loc 1 (pz 71 15 19)) 31 (pz 71 15 23) [(.cst (.lit 53) (pz 71 24 33)),(.lst [(.loc 52 (pz 71 36 40))] (pz 71 35 41))] (pz 71 15 42)) (pz 71 8 42)]
noncomputable def k14:List (Nat×NameKind):=[(1,.local),(52,.local)]
def b15:List S:=[.ret (.meth (.loc 1 (pz 74 15 19)) 31 (pz 74 15 23) [(.cst (.lit 55) (pz 74 24 31)),(.lst [(.loc 49 (pz 74 34 36)),(.loc 10 (pz 74 38 43)),(.loc 39 (pz 74 45 48))] (pz 74 33 49))] (pz 74 15 50)) (pz 74 8 50)]
noncomputable def k15:List (Nat×NameKind):=[(1,.local),(49,.local),(10,.local),(39,.local)]
def b16:List S:=[.ret (.meth (.loc 1 (pz 77 15 19)) 31 (pz 77 15 23) [(.cst (.lit 56) (pz 77 24 32)),(.lst [(.loc 39 (pz 77 35 38))] (pz 77 34 39))] (pz 77 15 40)) (pz 77 8 40)]
noncomputable def k16:List (Nat×NameKind):=[(1,.local),(39,.local)]
def b17:List S:=[.ret (.meth (.loc 1 (pz 80 15 19)) 31 (pz 80 15 23) [(.cst (.lit 60) (pz 80 24 31)),(.lst [(.loc 57 (pz 80 34 41)),(.loc 58 (pz 80 43 50))] (pz 80 33 51))] (pz 80 15 52)) (pz 80 8 52)]
noncomputable def k17:List (Nat×NameKind):=[(1,.local),(57,.local),(58,.local)]
def b18:List S:=[.expr (.meth (.loc 1 (pz 83 8 12)) 31 (pz 83 8 16) [(.cst (.lit 61) (pz 83 17 25)),(.lst [(.loc 39 (pz 83 28 31)),(.loc 10 (pz 83 33 38))] (pz 83 27 39))] (pz 83 8 40)) (pz 83 8 40)]
noncomputable def k18:List (Nat×NameKind):=[(1,.local),(39,.local),(10,.local)]
def b19:List S:=[.expr (.meth (.loc 1 (pz 86 8 12)) 31 (pz 86 8 16) [(.cst (.lit 62) (pz 86 17 26)),(.lst [(.loc 39 (pz 86 29 32)),(.loc 16 (pz 86 34 39)),(.loc 10 (pz 86 41 46))] (pz 86 28 47))] (pz 86 8 48)) (pz 86 8 48)]
noncomputable def k19:List (Nat×NameKind):=[(1,.local),(39,.local),(16,.local),(10,.local)]
def b20:List S:=[.ret (.loc 10 (pz 89 15 20)) (pz 89 8 20)]
noncomputable def k20:List (Nat×NameKind):=[(1,.local),(10,.local)]
def b21:List S:=[.expr (.meth (.attr (.loc 1 (pz 92 8 12)) 28 (pz 92 8 18)) 19 (pz 92 8 25) [(.loc 64 (pz 92 26 28))] (pz 92 8 29)) (pz 92 8 29)]
noncomputable def k21:List (Nat×NameKind):=[(1,.local),(64,.local)]
def b22:List S:=[.expr (.meth (.attr (.loc 1 (pz 95 8 12)) 28 (pz 95 8 18)) 19 (pz 95 8 25) [(.uneg 1 (pz 95 27 28) (pz 95 26 28))] (pz 95 8 29)) (pz 95 8 29)]
noncomputable def k22:List (Nat×NameKind):=[(1,.local)]
def b23:List S:=[.ifs (.cmp .Eq (.loc 35 (pz 98 11 15)) (.cst (.lit 71) (pz 98 19 25)) (pz 98 11 25)) [.ret (.tup [(.cst (.lit 64) (pz 99 20 24)),(.sub (.loc 67 (pz 99 26 31)) (.cst (.int (0)) (pz 99 32 33)) (pz 99 26 34)),(.sub (.loc 67 (pz 99 36 41)) (.cst (.int (1)) (pz 99 42 43)) (pz 99 36 44))] 0 (pz 99 19 45)) (pz 99 12 45)] [] ⟨98,8,99,45⟩,
 .ifs (.cmp .In (.loc 67 (pz 100 11 16)) (.attr (.loc 1 (pz 100 20 24)) 27 (pz 100 20 31)) (pz 100 11 31)) [.ret (.tup [(.cst (.lit 64) (pz 101 20 24)),(.sub (.sub (.attr (.loc 1 (pz 101 26 30)) 27 (pz 101 26 37)) (.loc 67 (pz 101 38 43)) (pz 101 26 44)) (.cst (.int (0)) (pz 101 45 46)) (pz 101 26 47)),(.sub (.sub (.attr (.loc 1 (pz 101 49 53)) 27 (pz 101 49 60)) (.loc 67 (pz 101 61 66)) (pz 101 49 67)) (.cst (.int (1)) (pz 101 68 69)) (pz 101 49 70))] 0 (pz 101 19 71)) (pz 101 12 71)] [] ⟨100,8,101,71⟩,
 .ifs (.bop true [(.cmp .NotEq (.loc 67 (pz 102 11 16)) (.glb 69 (pz 102 20 23)) (pz 102 11 23)),(.cmp .NotEq (.loc 67 (pz 102 28 33)) (.cst (.lit 72) (pz 102 37 45)) (pz 102 28 45))] (pz 102 11 45)) [.rais 0 (pz 103 18 29) [(.glb 70 (pz 103 30 42)),(.loc 67 (pz 103 44 49))] (pz 103 18 50) (pz 103 12 50)] [] ⟨102,8,103,50⟩,
 .ret (.tup [(.cst (.lit 73) (pz 104 16 22)),(.loc 67 (pz 104 24 29))] 0 (pz 104 15 30)) (pz 104 8 30)]
noncomputable def k23:List (Nat×NameKind):=[(1,.local),(35,.local),(67,.local),(69,.globalImplicit),(0,.globalImplicit),(70,.globalImplicit)]
def b24:List S:=[.ast [(.n 77 (pz 106 4 8)),(.n 64 (pz 106 10 12))] 0 (pz 106 4 12) (.tup [(.new 2 (pz 106 16 20) [] (pz 106 16 22)),(.cst (.int (0)) (pz 106 24 25))] 0 (pz 106 15 26)) (pz 106 4 26),
 .whl (.cmp .Lt (.loc 64 (pz 107 10 12)) (.calb .len (pz 107 15 18) [(.loc 74 (pz 107 19 25))] (pz 107 15 26)) (pz 107 10 26)) [.asg 78 (pz 108 8 13) (.sub (.loc 74 (pz 108 16 22)) (.loc 64 (pz 108 23 25)) (pz 108 16 26)) (pz 108 8 26),
 .ifs (.cmp .Eq (.sub (.loc 78 (pz 109 11 16)) (.cst (.int (0)) (pz 109 17 18)) (pz 109 11 19)) (.cst (.lit 81) (pz 109 23 30)) (pz 109 11 30)) [.expr (.meth (.attr (.loc 77 (pz 110 12 16)) 15 (pz 110 12 23)) 19 (pz 110 12 30) [(.tup [(.bin .Add (.loc 64 (pz 110 32 34)) (.sub (.loc 78 (pz 110 37 42)) (.cst (.int (1)) (pz 110 43 44)) (pz 110 37 45)) (pz 110 32 45)),(.calb .len (pz 110 47 50) [(.attr (.loc 77 (pz 110 51 55)) 14 (pz 110 51 61))] (pz 110 47 62))] 0 (pz 110 31 63))] (pz 110 12 64)) (pz 110 12 64),
 .aug 64 (pz 111 12 14) (.cst (.int (1)) (pz 111 18 19)) (pz 111 12 19)] [.ifs (.calf 25 (pz 112 13 21) [(.loc 77 (pz 112 22 26)),(.loc 78 (pz 112 28 33)),(.loc 75 (pz 112 35 40))] (pz 112 13 41)) [.aug 64 (pz 113 12 14) (.cst (.int (1)) (pz 113 18 19)) (pz 113 12 19)] [.ifs (.cmp .Gt (.calb .len (pz 114 13 16) [(.attr (.loc 77 (pz 114 17 21)) 15 (pz 114 17 28))] (pz 114 13 29)) (.cst (.int (0)) (pz 114 32 33)) (pz 114 13 33)) [.ast [(.n 64 (pz 115 12 14)),(.n 79 (pz 115 16 22))] 0 (pz 115 12 22) (.meth (.attr (.loc 77 (pz 115 25 29)) 15 (pz 115 25 36)) 20 (pz 115 25 40) [] (pz 115 25 42)) (pz 115 12 42),
 .asa (.loc 77 (pz 116 12 16)) 14 (pz 116 12 22) (.slc (.attr (.loc 77 (pz 116 25 29)) 14 (pz 116 25 35)) none (some (.loc 79 (pz 116 37 43))) (pz 116 36 43) (pz 116 25 44)) (pz 116 12 44)] [.ret (.cst .none (pz 118 19 23)) (pz 118 12 23)] ⟨114,8,118,23⟩] ⟨112,8,118,23⟩] ⟨109,8,118,23⟩] ⟨107,4,118,23⟩,
 .ret (.loc 77 (pz 119 11 15)) (pz 119 4 15)]
noncomputable def k24:List (Nat×NameKind):=[(74,.local),(75,.local),(77,.local),(64,.local),(78,.local),(79,.local),(13,.globalImplicit),(24,.globalImplicit),(80,.globalImplicit)]
def b25:List S:=[.asg 29 (pz 121 4 8) (.sub (.loc 78 (pz 121 11 16)) (.cst (.int (0)) (pz 121 17 18)) (pz 121 11 19)) (pz 121 4 19),
 .ifs (.cmp .Eq (.loc 29 (pz 122 7 11)) (.cst (.lit 85) (pz 122 15 21)) (pz 122 7 21)) [.ret (.meth (.loc 77 (pz 123 15 19)) 18 (pz 123 15 24) [(.sub (.loc 78 (pz 123 25 30)) (.cst (.int (1)) (pz 123 31 32)) (pz 123 25 33))] (pz 123 15 34)) (pz 123 8 34)] [] ⟨122,4,123,34⟩,
 .ifs (.cmp .Eq (.loc 29 (pz 124 7 11)) (.cst (.lit 86) (pz 124 15 20)) (pz 124 7 20)) [.ret (.meth (.loc 77 (pz 125 15 19)) 18 (pz 125 15 24) [(.meth (.loc 75 (pz 125 25 30)) 33 (pz 125 25 40) [(.sub (.loc 78 (pz 125 41 46)) (.cst (.int (1)) (pz 125 47 48)) (pz 125 41 49))] (pz 125 25 50))] (pz 125 15 51)) (pz 125 8 51)] [] ⟨124,4,125,51⟩,
 .ifs (.bop false [(.cmp .Eq (.loc 29 (pz 126 7 11)) (.cst (.lit 87) (pz 126 15 20)) (pz 126 7 20)),(.cmp .Eq (.loc 29 (pz 126 24 28)) (.cst (.lit 88) (pz 126 32 41)) (pz 126 24 41))] (pz 126 7 41)) [.ret (.meth (.loc 77 (pz 127 15 19)) 18 (pz 127 15 24) [(.meth (.loc 75 (pz 127 25 30)) 36 (pz 127 25 38) [(.ife (.cmp .Eq (.loc 29 (pz 127 48 52)) (.cst (.lit 87) (pz 127 56 61)) (pz 127 48 61)) (.cst (.lit 89) (pz 127 39 44)) (.cst (.lit 90) (pz 127 67 76)) (pz 127 39 76)),(.sub (.loc 78 (pz 127 78 83)) (.cst (.int (1)) (pz 127 84 85)) (pz 127 78 86))] (pz 127 25 87))] (pz 127 15 88)) (pz 127 8 88)] [] ⟨126,4,127,88⟩,
 .ifs (.cmp .Eq (.loc 29 (pz 128 7 11)) (.cst (.lit 91) (pz 128 15 22)) (pz 128 7 22)) [.ret (.meth (.loc 77 (pz 129 15 19)) 18 (pz 129 15 24) [(.meth (.loc 75 (pz 129 25 30)) 40 (pz 129 25 40) [(.meth (.loc 77 (pz 129 41 45)) 20 (pz 129 41 49) [] (pz 129 41 51))] (pz 129 25 52))] (pz 129 15 53)) (pz 129 8 53)] [] ⟨128,4,129,53⟩,
 .ifs (.cmp .Eq (.loc 29 (pz 130 7 11)) (.cst (.lit 92) (pz 130 15 25)) (pz 130 7 25)) [.ret (.meth (.loc 77 (pz 131 15 19)) 18 (pz 131 15 24) [(.meth (.loc 75 (pz 131 25 30)) 37 (pz 131 25 39) [(.meth (.loc 77 (pz 131 40 44)) 20 (pz 131 40 48) [] (pz 131 40 50))] (pz 131 25 51))] (pz 131 15 52)) (pz 131 8 52)] [] ⟨130,4,131,52⟩,
 .ifs (.cmp .Eq (.loc 29 (pz 132 7 11)) (.cst (.lit 93) (pz 132 15 21)) (pz 132 7 21)) [.ret (.meth (.loc 77 (pz 133 15 19)) 18 (pz 133 15 24) [(.meth (.loc 75 (pz 133 25 30)) 43 (pz 133 25 37) [(.sub (.loc 78 (pz 133 38 43)) (.cst (.int (1)) (pz 133 44 45)) (pz 133 38 46)),(.meth (.loc 77 (pz 133 48 52)) 22 (pz 133 48 57) [(.sub (.loc 78 (pz 133 58 63)) (.cst (.int (2)) (pz 133 64 65)) (pz 133 58 66))] (pz 133 48 67)),(.sub (.loc 78 (pz 133 69 74)) (.cst (.int (3)) (pz 133 75 76)) (pz 133 69 77))] (pz 133 25 78))] (pz 133 15 79)) (pz 133 8 79)] [] ⟨132,4,133,79⟩,
 .ifs (.cmp .Eq (.loc 29 (pz 134 7 11)) (.cst (.lit 94) (pz 134 15 21)) (pz 134 7 21)) [.asg 46 (pz 135 8 12) (.meth (.loc 77 (pz 135 15 19)) 22 (pz 135 15 24) [(.sub (.loc 78 (pz 135 25 30)) (.cst (.int (1)) (pz 135 31 32)) (pz 135 25 33))] (pz 135 15 34)) (pz 135 8 34),
 .ret (.meth (.loc 77 (pz 136 15 19)) 18 (pz 136 15 24) [(.meth (.loc 75 (pz 136 25 30)) 47 (pz 136 25 38) [(.meth (.loc 77 (pz 136 39 43)) 20 (pz 136 39 47) [] (pz 136 39 49)),(.loc 46 (pz 136 51 55)),(.sub (.loc 78 (pz 136 57 62)) (.cst (.int (2)) (pz 136 63 64)) (pz 136 57 65))] (pz 136 25 66))] (pz 136 15 67)) (pz 136 8 67)] [] ⟨134,4,136,67⟩,
 .ifs (.cmp .In (.loc 29 (pz 137 7 11)) (.tup [(.cst (.lit 95) (pz 137 16 23)),(.cst (.lit 96) (pz 137 25 33)),(.cst (.lit 97) (pz 137 35 41))] 0 (pz 137 15 42)) (pz 137 7 42)) [.ret (.meth (.loc 77 (pz 138 15 19)) 18 (pz 138 15 24) [(.meth (.loc 75 (pz 138 25 30)) 50 (pz 138 25 39) [(.ife (.cmp .Eq (.loc 29 (pz 138 47 51)) (.cst (.lit 97) (pz 138 55 61)) (pz 138 47 61)) (.cst (.lit 98) (pz 138 40 43)) (.sub (.loc 78 (pz 138 67 72)) (.cst (.int (1)) (pz 138 73 74)) (pz 138 67 75)) (pz 138 40 75)),(.meth (.loc 77 (pz 138 77 81)) 22 (pz 138 77 86) [(.ife (.cmp .Eq (.loc 29 (pz 138 92 96)) (.cst (.lit 95) (pz 138 100 107)) (pz 138 92 107)) (.cst (.int (1)) (pz 138 87 88)) (.cst (.int (2)) (pz 138 113 114)) (pz 138 87 114))] (pz 138 77 115))] (pz 138 25 116))] (pz 138 15 117)) (pz 138 8 117)] [] ⟨137,4,138,117⟩,
 .ifs (.cmp .In (.loc 29 (pz 139 7 11)) (.tup [(.cst (.lit 99) (pz 139 16 25)),(.cst (.lit 100) (pz 139 27 34)),(.cst (.lit 101) (pz 139 36 44))] 0 (pz 139 15 45)) (pz 139 7 45)) [.ret (.calf 26 (pz 140 15 22) [(.loc 77 (pz 140 23 27)),(.loc 78 (pz 140 29 34)),(.loc 75 (pz 140 36 41))] (pz 140 15 42)) (pz 140 8 42)] [] ⟨139,4,140,42⟩,
 .ifs (.cmp .In (.loc 29 (pz 141 7 11)) (.tup [(.cst (.lit 102) (pz 141 16 23)),(.cst (.lit 103) (pz 141 25 33)),(.cst (.lit 104) (pz 141 35 44))] 0 (pz 141 15 45)) (pz 141 7 45)) [.ret (.calf 27 (pz 142 15 22) [(.loc 77 (pz 142 23 27)),(.loc 29 (pz 142 29 33)),(.loc 75 (pz 142 35 40))] (pz 142 15 41)) (pz 142 8 41)] [] ⟨141,4,142,41⟩,
 .ret (.calf 28 (pz 143 11 19) [(.loc 77 (pz 143 20 24)),(.loc 78 (pz 143 26 31)),(.loc 75 (pz 143 33 38))] (pz 143 11 39)) (pz 143 4 39)]
noncomputable def k25:List (Nat×NameKind):=[(77,.local),(78,.local),(75,.local),(29,.local),(46,.local),(82,.globalImplicit),(83,.globalImplicit),(84,.globalImplicit)]
def b26:List S:=[.ifs (.cmp .Eq (.sub (.loc 78 (pz 145 7 12)) (.cst (.int (0)) (pz 145 13 14)) (pz 145 7 15)) (.cst (.lit 99) (pz 145 19 28)) (pz 145 7 28)) [.ret (.meth (.loc 77 (pz 146 15 19)) 18 (pz 146 15 24) [(.meth (.loc 75 (pz 146 25 30)) 53 (pz 146 25 38) [(.sub (.loc 78 (pz 146 39 44)) (.cst (.int (1)) (pz 146 45 46)) (pz 146 39 47))] (pz 146 25 48))] (pz 146 15 49)) (pz 146 8 49)] [] ⟨145,4,146,49⟩,
 .asg 39 (pz 147 4 7) (.meth (.loc 77 (pz 147 10 14)) 20 (pz 147 10 18) [] (pz 147 10 20)) (pz 147 4 20),
 .ifs (.cmp .Eq (.sub (.loc 78 (pz 148 7 12)) (.cst (.int (0)) (pz 148 13 14)) (pz 148 7 15)) (.cst (.lit 101) (pz 148 19 27)) (pz 148 7 27)) [.ret (.meth (.loc 77 (pz 149 15 19)) 18 (pz 149 15 24) [(.meth (.loc 75 (pz 149 25 30)) 56 (pz 149 25 37) [(.loc 39 (pz 149 38 41))] (pz 149 25 42))] (pz 149 15 43)) (pz 149 8 43)] [] ⟨148,4,149,43⟩,
 .ret (.meth (.loc 77 (pz 150 11 15)) 18 (pz 150 11 20) [(.meth (.loc 75 (pz 150 21 26)) 54 (pz 150 21 37) [(.sub (.loc 78 (pz 150 38 43)) (.cst (.int (1)) (pz 150 44 45)) (pz 150 38 46)),(.meth (.loc 77 (pz 150 48 52)) 20 (pz 150 48 56) [] (pz 150 48 58)),(.loc 39 (pz 150 60 63))] (pz 150 21 64))] (pz 150 11 65)) (pz 150 4 65)]
noncomputable def k26:List (Nat×NameKind):=[(77,.local),(78,.local),(75,.local),(39,.local)]
def b27:List S:=[.ast [(.n 105 (pz 152 4 9)),(.n 106 (pz 152 11 15))] 0 (pz 152 4 15) (.meth (.loc 77 (pz 152 18 22)) 22 (pz 152 18 27) [(.cst (.int (2)) (pz 152 28 29))] (pz 152 18 30)) (pz 152 4 30),
 .ifs (.cmp .Eq (.loc 29 (pz 153 7 11)) (.cst (.lit 102) (pz 153 15 22)) (pz 153 7 22)) [.asa (.loc 77 (pz 154 8 12)) 16 (pz 154 8 18) (.meth (.loc 75 (pz 154 21 26)) 59 (pz 154 21 34) [(.loc 105 (pz 154 35 40)),(.loc 106 (pz 154 42 46))] (pz 154 21 47)) (pz 154 8 47),
 .ret (.cmp .IsNot (.attr (.loc 77 (pz 155 15 19)) 16 (pz 155 15 25)) (.cst .none (pz 155 33 37)) (pz 155 15 37)) (pz 155 8 37)] [] ⟨153,4,155,37⟩,
 .ifs (.cmp .Eq (.loc 29 (pz 156 7 11)) (.cst (.lit 103) (pz 156 15 23)) (pz 156 7 23)) [.expr (.meth (.loc 75 (pz 157 8 13)) 61 (pz 157 8 20) [(.loc 105 (pz 157 21 26)),(.loc 106 (pz 157 28 32))] (pz 157 8 33)) (pz 157 8 33)] [.expr (.meth (.loc 75 (pz 159 8 13)) 62 (pz 159 8 21) [(.loc 105 (pz 159 22 27)),(.attr (.loc 77 (pz 159 29 33)) 16 (pz 159 29 39)),(.loc 106 (pz 159 41 45))] (pz 159 8 46)) (pz 159 8 46)] ⟨156,4,159,46⟩,
 .ret (.cst (.bool true) (pz 160 11 15)) (pz 160 4 15)]
noncomputable def k27:List (Nat×NameKind):=[(77,.local),(29,.local),(75,.local),(105,.local),(106,.local)]
def b28:List S:=[.asg 29 (pz 162 4 8) (.sub (.loc 78 (pz 162 11 16)) (.cst (.int (0)) (pz 162 17 18)) (pz 162 11 19)) (pz 162 4 19),
 .ifs (.cmp .Eq (.loc 29 (pz 163 7 11)) (.cst (.lit 107) (pz 163 15 24)) (pz 163 7 24)) [.expr (.meth (.attr (.loc 77 (pz 164 8 12)) 15 (pz 164 8 19)) 20 (pz 164 8 23) [] (pz 164 8 25)) (pz 164 8 25)] [.ifs (.cmp .Eq (.loc 29 (pz 165 9 13)) (.cst (.lit 108) (pz 165 17 23)) (pz 165 9 23)) [.expr (.meth (.loc 77 (pz 166 8 12)) 20 (pz 166 8 16) [] (pz 166 8 18)) (pz 166 8 18)] [.ifs (.cmp .Eq (.loc 29 (pz 167 9 13)) (.cst (.lit 109) (pz 167 17 25)) (pz 167 9 25)) [.expr (.meth (.loc 77 (pz 168 8 12)) 18 (pz 168 8 17) [(.sub (.attr (.loc 77 (pz 168 18 22)) 14 (pz 168 18 28)) (.uneg 1 (pz 168 30 31) (pz 168 29 31)) (pz 168 18 32))] (pz 168 8 33)) (pz 168 8 33)] [.ifs (.cmp .Eq (.loc 29 (pz 169 9 13)) (.cst (.lit 110) (pz 169 17 24)) (pz 169 9 24)) [.asa (.loc 77 (pz 170 8 12)) 17 (pz 170 8 17) (.tup [(.cst (.lit 111) (pz 170 21 28)),(.sub (.loc 78 (pz 170 30 35)) (.cst (.int (1)) (pz 170 36 37)) (pz 170 30 38))] 0 (pz 170 20 39)) (pz 170 8 39)] [.ifs (.cmp .Eq (.loc 29 (pz 171 9 13)) (.cst (.lit 112) (pz 171 17 21)) (pz 171 9 21)) [.asa (.loc 77 (pz 172 8 12)) 17 (pz 172 8 17) (.tup [(.cst (.lit 111) (pz 172 21 28)),(.meth (.loc 75 (pz 172 30 35)) 63 (pz 172 30 44) [(.meth (.loc 77 (pz 172 45 49)) 20 (pz 172 45 53) [] (pz 172 45 55))] (pz 172 30 56))] 0 (pz 172 20 57)) (pz 172 8 57)] [.ifs (.cmp .Eq (.loc 29 (pz 173 9 13)) (.cst (.lit 113) (pz 173 17 26)) (pz 173 9 26)) [.asa (.loc 77 (pz 174 8 12)) 17 (pz 174 8 17) (.tup [(.cst (.lit 71) (pz 174 21 27)),(.meth (.loc 77 (pz 174 29 33)) 20 (pz 174 29 37) [] (pz 174 29 39))] 0 (pz 174 20 40)) (pz 174 8 40)] [] ⟨173,4,174,40⟩] ⟨171,4,174,40⟩] ⟨169,4,174,40⟩] ⟨167,4,174,40⟩] ⟨165,4,174,40⟩] ⟨163,4,174,40⟩,
 .ret (.cmp .NotEq (.loc 29 (pz 175 11 15)) (.cst (.lit 114) (pz 175 19 25)) (pz 175 11 25)) (pz 175 4 25)]
noncomputable def k28:List (Nat×NameKind):=[(77,.local),(78,.local),(75,.local),(29,.local)]
def b29:List S:=[.asg 77 (pz 177 4 8) (.calf 24 (pz 177 11 18) [(.loc 115 (pz 177 19 22)),(.loc 75 (pz 177 24 29))] (pz 177 11 30)) (pz 177 4 30),
 .ifs (.cmp .Is (.loc 77 (pz 178 7 11)) (.cst .none (pz 178 15 19)) (pz 178 7 19)) [.rais 0 (pz 179 14 25) [(.glb 117 (pz 179 26 37)),(.cst (.lit 118) (pz 179 39 45))] (pz 179 14 46) (pz 179 8 46)] [] ⟨178,4,179,46⟩,
 .ret (.meth (.loc 75 (pz 180 11 16)) 68 (pz 180 11 25) [(.sub (.attr (.loc 77 (pz 180 26 30)) 17 (pz 180 26 35)) (.cst (.int (0)) (pz 180 36 37)) (pz 180 26 38)),(.sub (.attr (.loc 77 (pz 180 40 44)) 17 (pz 180 40 49)) (.cst (.int (1)) (pz 180 50 51)) (pz 180 40 52))] (pz 180 11 53)) (pz 180 4 53)]
noncomputable def k29:List (Nat×NameKind):=[(115,.local),(75,.local),(77,.local),(76,.globalImplicit),(0,.globalImplicit),(117,.globalImplicit)]
def b30:List S:=[.whl (.cmp .Lt (.loc 64 (pz 182 10 12)) (.calb .len (pz 182 15 18) [(.attr (.loc 119 (pz 182 19 23)) 123 (pz 182 19 34))] (pz 182 15 35)) (pz 182 10 35)) [.asg 121 (pz 183 8 17) (.sub (.attr (.loc 119 (pz 183 20 24)) 123 (pz 183 20 35)) (.loc 64 (pz 183 36 38)) (pz 183 20 39)) (pz 183 8 39),
 .ifs (.cmp .Eq (.attr (.loc 121 (pz 184 11 20)) 111 (pz 184 11 26)) (.glb 69 (pz 184 30 33)) (pz 184 11 33)) [.ret (.glb 69 (pz 185 19 22)) (pz 185 12 22)] [] ⟨184,8,185,22⟩,
 .expr (.meth (.loc 75 (pz 186 8 13)) 65 (pz 186 8 19) [(.loc 64 (pz 186 20 22))] (pz 186 8 23)) (pz 186 8 23),
 .asg 122 (pz 187 8 15) (.cmp .IsNot (.calf 24 (pz 187 18 25) [(.attr (.loc 121 (pz 187 26 35)) 124 (pz 187 26 40)),(.loc 75 (pz 187 42 47))] (pz 187 18 48)) (.cst .none (pz 187 56 60)) (pz 187 18 60)) (pz 187 8 60),
 .ifs (.unot (.loc 122 (pz 188 15 22)) (pz 188 11 22)) [.expr (.meth (.loc 75 (pz 189 12 17)) 66 (pz 189 12 24) [] (pz 189 12 26)) (pz 189 12 26)] [] ⟨188,8,189,26⟩,
 .asg 115 (pz 190 8 11) (.ife (.loc 122 (pz 190 35 42)) (.attr (.loc 121 (pz 190 14 23)) 125 (pz 190 14 31)) (.attr (.loc 121 (pz 190 48 57)) 126 (pz 190 48 65)) (pz 190 14 65)) (pz 190 8 65),
 .ifs (.cmp .Eq (.calb .len (pz 191 11 14) [(.loc 115 (pz 191 15 18))] (pz 191 11 19)) (.cst (.int (0)) (pz 191 23 24)) (pz 191 11 24)) [.aug 64 (pz 192 12 14) (.cst (.int (1)) (pz 192 18 19)) (pz 192 12 19)] [.asg 17 (pz 194 12 16) (.calf 29 (pz 194 19 26) [(.loc 115 (pz 194 27 30)),(.loc 75 (pz 194 32 37))] (pz 194 19 38)) (pz 194 12 38),
 .ifs (.cmp .Eq (.sub (.loc 17 (pz 195 15 19)) (.cst (.int (0)) (pz 195 20 21)) (pz 195 15 22)) (.cst (.lit 73) (pz 195 26 32)) (pz 195 15 32)) [.ret (.sub (.loc 17 (pz 196 23 27)) (.cst (.int (1)) (pz 196 28 29)) (pz 196 23 30)) (pz 196 16 30)] [] ⟨195,12,196,30⟩,
 .ast [(.n 119 (pz 197 12 16)),(.n 64 (pz 197 18 20))] 0 (pz 197 12 20) (.tup [(.sub (.loc 17 (pz 197 24 28)) (.cst (.int (1)) (pz 197 29 30)) (pz 197 24 31)),(.sub (.loc 17 (pz 197 33 37)) (.cst (.int (2)) (pz 197 38 39)) (pz 197 33 40))] 0 (pz 197 23 41)) (pz 197 12 41)] ⟨191,8,197,41⟩] ⟨182,4,197,41⟩,
 .rais 0 (pz 198 10 21) [(.glb 70 (pz 198 22 34)),(.cst (.lit 127) (pz 198 36 58))] (pz 198 10 59) (pz 198 4 59)]
noncomputable def k30:List (Nat×NameKind):=[(119,.local),(64,.local),(75,.local),(121,.local),(122,.local),(115,.local),(17,.local),(24,.globalImplicit),(69,.globalImplicit),(76,.globalImplicit),(116,.globalImplicit),(0,.globalImplicit),(70,.globalImplicit)]
def b31:List S:=[.asa (.loc 1 (pz 203 8 12)) 111 (pz 203 8 18) (.loc 111 (pz 203 21 26)) (pz 203 8 26),
 .asa (.loc 1 (pz 204 8 12)) 124 (pz 204 8 17) (.loc 124 (pz 204 20 24)) (pz 204 8 24),
 .asa (.loc 1 (pz 205 8 12)) 125 (pz 205 8 20) (.loc 125 (pz 205 23 30)) (pz 205 8 30),
 .asa (.loc 1 (pz 206 8 12)) 126 (pz 206 8 20) (.loc 126 (pz 206 23 30)) (pz 206 8 30),
 .asa (.loc 1 (pz 207 8 12)) 129 (pz 207 8 17) (.loc 129 (pz 207 20 24)) (pz 207 8 24)]
noncomputable def k31:List (Nat×NameKind):=[(1,.local),(111,.local),(124,.local),(125,.local),(126,.local),(129,.local)]
def b32:List S:=[.asa (.loc 1 (pz 211 8 12)) 2 (pz 211 8 19) (.loc 2 (pz 211 22 28)) (pz 211 8 28),
 .asa (.loc 1 (pz 212 8 12)) 123 (pz 212 8 23) (.loc 123 (pz 212 26 36)) (pz 212 8 36),
 .asa (.loc 1 (pz 213 8 12)) 27 (pz 213 8 19) (.loc 27 (pz 213 22 28)) (pz 213 8 28)]
noncomputable def k32:List (Nat×NameKind):=[(1,.local),(2,.local),(123,.local),(27,.local)]
def b33:List S:=[.asg 35 (pz 215 4 8) (.sub (.loc 52 (pz 215 11 15)) (.cst (.int (0)) (pz 215 16 17)) (pz 215 11 18)) (pz 215 4 18),
 .ifs (.cmp .Eq (.loc 35 (pz 216 7 11)) (.cst (.lit 135) (pz 216 15 21)) (pz 216 7 21)) [.ret (.lst [(.tup [(.cst (.lit 85) (pz 217 17 23)),(.cst (.lit 8) (pz 217 25 27))] 0 (pz 217 16 28))] (pz 217 15 29)) (pz 217 8 29)] [] ⟨216,4,217,29⟩,
 .ifs (.bop false [(.cmp .Eq (.loc 35 (pz 218 7 11)) (.cst (.lit 136) (pz 218 15 21)) (pz 218 7 21)),(.cmp .Eq (.loc 35 (pz 218 25 29)) (.cst (.lit 137) (pz 218 33 40)) (pz 218 25 40))] (pz 218 7 40)) [.ret (.lst [(.tup [(.cst (.lit 85) (pz 219 17 23)),(.sub (.loc 52 (pz 219 25 29)) (.cst (.int (1)) (pz 219 30 31)) (pz 219 25 32))] 0 (pz 219 16 33))] (pz 219 15 34)) (pz 219 8 34)] [] ⟨218,4,219,34⟩,
 .ifs (.cmp .Eq (.loc 35 (pz 220 7 11)) (.cst (.lit 32) (pz 220 15 21)) (pz 220 7 21)) [.ret (.lst [(.tup [(.cst (.lit 86) (pz 221 17 22)),(.sub (.loc 52 (pz 221 24 28)) (.cst (.int (1)) (pz 221 29 30)) (pz 221 24 31))] 0 (pz 221 16 32))] (pz 221 15 33)) (pz 221 8 33)] [] ⟨220,4,221,33⟩,
 .ifs (.cmp .Eq (.loc 35 (pz 222 7 11)) (.cst (.lit 44) (pz 222 15 21)) (pz 222 7 21)) [.ret (.bin .Add (.calf 34 (pz 223 15 25) [(.sub (.loc 52 (pz 223 26 30)) (.cst (.int (2)) (pz 223 31 32)) (pz 223 26 33))] (pz 223 15 34)) (.lst [(.tup [(.cst (.lit 93) (pz 223 39 45)),(.sub (.loc 52 (pz 223 47 51)) (.cst (.int (1)) (pz 223 52 53)) (pz 223 47 54)),(.calb .len (pz 223 56 59) [(.sub (.loc 52 (pz 223 60 64)) (.cst (.int (2)) (pz 223 65 66)) (pz 223 60 67))] (pz 223 56 68)),(.cst (.bool false) (pz 223 70 75))] 0 (pz 223 38 76))] (pz 223 37 77)) (pz 223 15 77)) (pz 223 8 77)] [] ⟨222,4,223,77⟩,
 .ifs (.cmp .Eq (.loc 35 (pz 224 7 11)) (.cst (.lit 48) (pz 224 15 21)) (pz 224 7 21)) [.ret (.bin .Add (.bin .Add (.calf 33 (pz 225 15 27) [(.sub (.loc 52 (pz 225 28 32)) (.cst (.int (1)) (pz 225 33 34)) (pz 225 28 35))] (pz 225 15 36)) (.calf 34 (pz 225 39 49) [(.sub (.loc 52 (pz 225 50 54)) (.cst (.int (2)) (pz 225 55 56)) (pz 225 50 57))] (pz 225 39 58)) (pz 225 15 58)) (.lst [(.tup [(.cst (.lit 94) (pz 225 63 69)),(.calb .len (pz 225 71 74) [(.sub (.loc 52 (pz 225 75 79)) (.cst (.int (2)) (pz 225 80 81)) (pz 225 75 82))] (pz 225 71 83)),(.cst (.bool false) (pz 225 85 90))] 0 (pz 225 62 91))] (pz 225 61 92)) (pz 225 15 92)) (pz 225 8 92)] [] ⟨224,4,225,92⟩,
 .ifs (.cmp .Eq (.loc 35 (pz 226 7 11)) (.cst (.lit 138) (pz 226 15 22)) (pz 226 7 22)) [.ret (.calf 35 (pz 227 15 27) [(.sub (.loc 52 (pz 227 28 32)) (.cst (.int (1)) (pz 227 33 34)) (pz 227 28 35)),(.sub (.loc 52 (pz 227 37 41)) (.cst (.int (2)) (pz 227 42 43)) (pz 227 37 44))] (pz 227 15 45)) (pz 227 8 45)] [] ⟨226,4,227,45⟩,
 .ifs (.cmp .Eq (.loc 35 (pz 228 7 11)) (.cst (.lit 139) (pz 228 15 21)) (pz 228 7 21)) [.ret (.bin .Add (.bin .Add (.calf 33 (pz 229 15 27) [(.sub (.loc 52 (pz 229 28 32)) (.cst (.int (1)) (pz 229 33 34)) (pz 229 28 35))] (pz 229 15 36)) (.calf 33 (pz 229 39 51) [(.sub (.loc 52 (pz 229 52 56)) (.cst (.int (2)) (pz 229 57 58)) (pz 229 52 59))] (pz 229 39 60)) (pz 229 15 60)) (.lst [(.tup [(.cst (.lit 97) (pz 229 65 71))] 0 (pz 229 64 73))] (pz 229 63 74)) (pz 229 15 74)) (pz 229 8 74)] [] ⟨228,4,229,74⟩,
 .ret (.calf 36 (pz 230 11 24) [(.sub (.loc 52 (pz 230 25 29)) (.cst (.int (1)) (pz 230 30 31)) (pz 230 25 32)),(.sub (.loc 52 (pz 230 34 38)) (.cst (.int (2)) (pz 230 39 40)) (pz 230 34 41)),(.sub (.loc 52 (pz 230 43 47)) (.cst (.int (3)) (pz 230 48 49)) (pz 230 43 50))] (pz 230 11 51)) (pz 230 4 51)]
noncomputable def k33:List (Nat×NameKind):=[(52,.local),(35,.local),(132,.globalImplicit),(24,.globalImplicit),(131,.globalImplicit),(133,.globalImplicit),(134,.globalImplicit)]
def b34:List S:=[.asg 16 (pz 232 4 9) (.lst [] (pz 232 12 14)) (pz 232 4 14),
 .forl 52 (pz 233 8 12) (.loc 140 (pz 233 16 21)) [.expr (.meth (.loc 16 (pz 234 8 13)) 141 (pz 234 8 20) [(.calf 33 (pz 234 21 33) [(.loc 52 (pz 234 34 38))] (pz 234 21 39))] (pz 234 8 40)) (pz 234 8 40)] ⟨233,4,234,40⟩,
 .ret (.loc 16 (pz 235 11 16)) (pz 235 4 16)]
noncomputable def k34:List (Nat×NameKind):=[(140,.local),(16,.local),(52,.local),(131,.globalImplicit)]
def b35:List S:=[.ifs (.cmp .Eq (.loc 49 (pz 237 7 9)) (.cst (.lit 144) (pz 237 13 16)) (pz 237 7 16)) [.ret (.bin .Add (.calf 33 (pz 238 15 27) [(.loc 52 (pz 238 28 32))] (pz 238 15 33)) (.lst [(.tup [(.cst (.lit 92) (pz 238 38 48))] 0 (pz 238 37 50)),(.tup [(.cst (.lit 91) (pz 238 53 60))] 0 (pz 238 52 62))] (pz 238 36 63)) (pz 238 15 63)) (pz 238 8 63)] [] ⟨237,4,238,63⟩,
 .ifs (.cmp .Eq (.loc 49 (pz 239 7 9)) (.cst (.lit 145) (pz 239 13 16)) (pz 239 7 16)) [.ret (.bin .Add (.calf 37 (pz 240 15 26) [(.tup [(.cst (.lit 138) (pz 240 28 35)),(.loc 49 (pz 240 37 39)),(.loc 52 (pz 240 41 45))] 0 (pz 240 27 46))] (pz 240 15 47)) (.lst [(.tup [(.cst (.lit 91) (pz 240 52 59))] 0 (pz 240 51 61))] (pz 240 50 62)) (pz 240 15 62)) (pz 240 8 62)] [] ⟨239,4,240,62⟩,
 .ifs (.cmp .Eq (.loc 49 (pz 241 7 9)) (.cst (.lit 146) (pz 241 13 16)) (pz 241 7 16)) [.ret (.calf 37 (pz 242 15 26) [(.loc 52 (pz 242 27 31))] (pz 242 15 32)) (pz 242 8 32)] [] ⟨241,4,242,32⟩,
 .ifs (.cmp .Eq (.loc 49 (pz 243 7 9)) (.cst (.lit 147) (pz 243 13 16)) (pz 243 7 16)) [.ret (.lst [(.tup [(.cst (.lit 99) (pz 244 17 26)),(.loc 52 (pz 244 28 32))] 0 (pz 244 16 33))] (pz 244 15 34)) (pz 244 8 34)] [] ⟨243,4,244,34⟩,
 .ifs (.cmp .Eq (.loc 49 (pz 245 7 9)) (.cst (.lit 148) (pz 245 13 16)) (pz 245 7 16)) [.ret (.bin .Add (.calf 37 (pz 246 15 26) [(.loc 52 (pz 246 27 31))] (pz 246 15 32)) (.lst [(.tup [(.cst (.lit 101) (pz 246 37 45))] 0 (pz 246 36 47))] (pz 246 35 48)) (pz 246 15 48)) (pz 246 8 48)] [] ⟨245,4,246,48⟩,
 .ifs (.cmp .Eq (.loc 49 (pz 247 7 9)) (.cst (.lit 149) (pz 247 13 16)) (pz 247 7 16)) [.ret (.bin .Add (.calf 33 (pz 248 15 27) [(.loc 52 (pz 248 28 32))] (pz 248 15 33)) (.lst [(.tup [(.cst (.lit 108) (pz 248 38 44))] 0 (pz 248 37 46)),(.tup [(.cst (.lit 85) (pz 248 49 55)),(.cst (.lit 8) (pz 248 57 59))] 0 (pz 248 48 60))] (pz 248 36 61)) (pz 248 15 61)) (pz 248 8 61)] [] ⟨247,4,248,61⟩,
 .ifs (.cmp .Eq (.loc 49 (pz 249 7 9)) (.cst (.lit 150) (pz 249 13 16)) (pz 249 7 16)) [.asg 142 (pz 250 8 13) (.calf 33 (pz 250 16 28) [(.loc 52 (pz 250 29 33))] (pz 250 16 34)) (pz 250 8 34),
 .ret (.bin .Add (.bin .Add (.lst [(.tup [(.cst (.lit 81) (pz 251 17 24)),(.bin .Add (.calb .len (pz 251 26 29) [(.loc 142 (pz 251 30 35))] (pz 251 26 36)) (.cst (.int (3)) (pz 251 39 40)) (pz 251 26 40))] 0 (pz 251 16 41))] (pz 251 15 42)) (.loc 142 (pz 251 45 50)) (pz 251 15 50)) (.lst [(.tup [(.cst (.lit 107) (pz 251 55 64))] 0 (pz 251 54 66)),(.tup [(.cst (.lit 114) (pz 251 69 75))] 0 (pz 251 68 77)),(.tup [(.cst (.lit 85) (pz 251 80 86)),(.cst (.lit 8) (pz 251 88 90))] 0 (pz 251 79 91))] (pz 251 53 92)) (pz 251 15 92)) (pz 251 8 92)] [] ⟨249,4,251,92⟩,
 .ret (.bin .Add (.calf 33 (pz 252 11 23) [(.loc 52 (pz 252 24 28))] (pz 252 11 29)) (.lst [(.tup [(.cst (.lit 95) (pz 252 34 41)),(.loc 49 (pz 252 43 45))] 0 (pz 252 33 46))] (pz 252 32 47)) (pz 252 11 47)) (pz 252 4 47)]
noncomputable def k35:List (Nat×NameKind):=[(49,.local),(52,.local),(142,.local),(131,.globalImplicit),(143,.globalImplicit),(24,.globalImplicit)]
def b36:List S:=[.ifs (.bop false [(.cmp .Eq (.loc 49 (pz 254 7 9)) (.cst (.lit 146) (pz 254 13 16)) (pz 254 7 16)),(.cmp .Eq (.loc 49 (pz 254 20 22)) (.cst (.lit 144) (pz 254 26 29)) (pz 254 20 29))] (pz 254 7 29)) [.ret (.bin .Add (.bin .Add (.calf 33 (pz 255 15 27) [(.loc 73 (pz 255 28 32))] (pz 255 15 33)) (.calf 37 (pz 255 36 47) [(.loc 151 (pz 255 48 53))] (pz 255 36 54)) (pz 255 15 54)) (.lst [(.tup [(.cst (.lit 100) (pz 255 59 66)),(.loc 49 (pz 255 68 70))] 0 (pz 255 58 71))] (pz 255 57 72)) (pz 255 15 72)) (pz 255 8 72)] [] ⟨254,4,255,72⟩,
 .ret (.bin .Add (.bin .Add (.calf 33 (pz 256 11 23) [(.loc 73 (pz 256 24 28))] (pz 256 11 29)) (.calf 33 (pz 256 32 44) [(.loc 151 (pz 256 45 50))] (pz 256 32 51)) (pz 256 11 51)) (.lst [(.tup [(.cst (.lit 96) (pz 256 56 64)),(.loc 49 (pz 256 66 68))] 0 (pz 256 55 69))] (pz 256 54 70)) (pz 256 11 70)) (pz 256 4 70)]
noncomputable def k36:List (Nat×NameKind):=[(49,.local),(73,.local),(151,.local),(131,.globalImplicit),(143,.globalImplicit)]
def b37:List S:=[.asg 35 (pz 258 4 8) (.sub (.loc 52 (pz 258 11 15)) (.cst (.int (0)) (pz 258 16 17)) (pz 258 11 18)) (pz 258 4 18),
 .ifs (.cmp .Eq (.loc 35 (pz 259 7 11)) (.cst (.lit 32) (pz 259 15 21)) (pz 259 7 21)) [.ret (.lst [(.tup [(.cst (.lit 87) (pz 260 17 22)),(.sub (.loc 52 (pz 260 24 28)) (.cst (.int (1)) (pz 260 29 30)) (pz 260 24 31))] 0 (pz 260 16 32))] (pz 260 15 33)) (pz 260 8 33)] [] ⟨259,4,260,33⟩,
 .ifs (.cmp .Eq (.loc 35 (pz 261 7 11)) (.cst (.lit 44) (pz 261 15 21)) (pz 261 7 21)) [.ret (.bin .Add (.calf 34 (pz 262 15 25) [(.sub (.loc 52 (pz 262 26 30)) (.cst (.int (2)) (pz 262 31 32)) (pz 262 26 33))] (pz 262 15 34)) (.lst [(.tup [(.cst (.lit 93) (pz 262 39 45)),(.sub (.loc 52 (pz 262 47 51)) (.cst (.int (1)) (pz 262 52 53)) (pz 262 47 54)),(.calb .len (pz 262 56 59) [(.sub (.loc 52 (pz 262 60 64)) (.cst (.int (2)) (pz 262 65 66)) (pz 262 60 67))] (pz 262 56 68)),(.cst (.bool true) (pz 262 70 74))] 0 (pz 262 38 75))] (pz 262 37 76)) (pz 262 15 76)) (pz 262 8 76)] [] ⟨261,4,262,76⟩,
 .ifs (.cmp .Eq (.loc 35 (pz 263 7 11)) (.cst (.lit 48) (pz 263 15 21)) (pz 263 7 21)) [.ret (.bin .Add (.bin .Add (.calf 33 (pz 264 15 27) [(.sub (.loc 52 (pz 264 28 32)) (.cst (.int (1)) (pz 264 33 34)) (pz 264 28 35))] (pz 264 15 36)) (.calf 34 (pz 264 39 49) [(.sub (.loc 52 (pz 264 50 54)) (.cst (.int (2)) (pz 264 55 56)) (pz 264 50 57))] (pz 264 39 58)) (pz 264 15 58)) (.lst [(.tup [(.cst (.lit 94) (pz 264 63 69)),(.calb .len (pz 264 71 74) [(.sub (.loc 52 (pz 264 75 79)) (.cst (.int (2)) (pz 264 80 81)) (pz 264 75 82))] (pz 264 71 83)),(.cst (.bool true) (pz 264 85 89))] 0 (pz 264 62 90))] (pz 264 61 91)) (pz 264 15 91)) (pz 264 8 91)] [] ⟨263,4,264,91⟩,
 .ifs (.bop true [(.cmp .Eq (.loc 35 (pz 265 7 11)) (.cst (.lit 138) (pz 265 15 22)) (pz 265 7 22)),(.cmp .Eq (.sub (.loc 52 (pz 265 27 31)) (.cst (.int (1)) (pz 265 32 33)) (pz 265 27 34)) (.cst (.lit 144) (pz 265 38 41)) (pz 265 27 41))] (pz 265 7 41)) [.ret (.bin .Add (.calf 33 (pz 266 15 27) [(.sub (.loc 52 (pz 266 28 32)) (.cst (.int (2)) (pz 266 33 34)) (pz 266 28 35))] (pz 266 15 36)) (.lst [(.tup [(.cst (.lit 92) (pz 266 41 51))] 0 (pz 266 40 53))] (pz 266 39 54)) (pz 266 15 54)) (pz 266 8 54)] [] ⟨265,4,266,54⟩,
 .ifs (.bop true [(.cmp .Eq (.loc 35 (pz 267 7 11)) (.cst (.lit 138) (pz 267 15 22)) (pz 267 7 22)),(.cmp .Eq (.sub (.loc 52 (pz 267 27 31)) (.cst (.int (1)) (pz 267 32 33)) (pz 267 27 34)) (.cst (.lit 145) (pz 267 38 41)) (pz 267 27 41)),(.cmp .Eq (.sub (.sub (.loc 52 (pz 267 47 51)) (.cst (.int (2)) (pz 267 52 53)) (pz 267 47 54)) (.cst (.int (0)) (pz 267 55 56)) (pz 267 47 57)) (.cst (.lit 32) (pz 267 61 67)) (pz 267 47 67))] (pz 267 7 68)) [.ret (.lst [(.tup [(.cst (.lit 88) (pz 268 17 26)),(.sub (.sub (.loc 52 (pz 268 28 32)) (.cst (.int (2)) (pz 268 33 34)) (pz 268 28 35)) (.cst (.int (1)) (pz 268 36 37)) (pz 268 28 38))] 0 (pz 268 16 39))] (pz 268 15 40)) (pz 268 8 40)] [] ⟨267,4,268,40⟩,
 .rais 0 (pz 269 10 21) [(.cst (.int (8)) (pz 269 22 23)),(.loc 35 (pz 269 25 29))] (pz 269 10 30) (pz 269 4 30)]
noncomputable def k37:List (Nat×NameKind):=[(52,.local),(35,.local),(132,.globalImplicit),(24,.globalImplicit),(131,.globalImplicit),(0,.globalImplicit)]
def b38:List S:=[.ifs (.cmp .Is (.attr (.loc 121 (pz 271 7 16)) 57 (pz 271 7 24)) (.cst .none (pz 271 28 32)) (pz 271 7 32)) [.ret (.lst [] (pz 272 15 17)) (pz 272 8 17)] [] ⟨271,4,272,17⟩,
 .ifs (.bop true [(.cmp .Is (.attr (.loc 121 (pz 273 7 16)) 58 (pz 273 7 24)) (.cst .none (pz 273 28 32)) (pz 273 7 32)),(.unot (.attr (.loc 121 (pz 273 42 51)) 153 (pz 273 42 63)) (pz 273 38 63))] (pz 273 7 64)) [.ret (.bin .Add (.calf 33 (pz 274 15 27) [(.attr (.loc 121 (pz 274 28 37)) 57 (pz 274 28 45))] (pz 274 15 46)) (.lst [(.tup [(.cst (.lit 108) (pz 274 51 57))] 0 (pz 274 50 59))] (pz 274 49 60)) (pz 274 15 60)) (pz 274 8 60)] [] ⟨273,4,274,60⟩,
 .ifs (.cmp .Is (.attr (.loc 121 (pz 275 7 16)) 58 (pz 275 7 24)) (.cst .none (pz 275 28 32)) (pz 275 7 32)) [.ret (.bin .Add (.bin .Add (.calf 37 (pz 276 15 26) [(.attr (.loc 121 (pz 276 27 36)) 57 (pz 276 27 44))] (pz 276 15 45)) (.calf 33 (pz 276 48 60) [(.attr (.loc 121 (pz 276 61 70)) 154 (pz 276 61 82))] (pz 276 48 83)) (pz 276 15 83)) (.lst [(.tup [(.cst (.lit 103) (pz 276 88 96))] 0 (pz 276 87 98))] (pz 276 86 99)) (pz 276 15 99)) (pz 276 8 99)] [] ⟨275,4,276,99⟩,
 .ifs (.unot (.attr (.loc 121 (pz 277 11 20)) 153 (pz 277 11 32)) (pz 277 7 32)) [.ret (.bin .Add (.bin .Add (.calf 33 (pz 278 15 27) [(.attr (.loc 121 (pz 278 28 37)) 57 (pz 278 28 45))] (pz 278 15 46)) (.calf 33 (pz 278 49 61) [(.attr (.loc 121 (pz 278 62 71)) 58 (pz 278 62 79))] (pz 278 49 80)) (pz 278 15 80)) (.lst [(.tup [(.cst (.lit 102) (pz 278 85 92))] 0 (pz 278 84 94))] (pz 278 83 95)) (pz 278 15 95)) (pz 278 8 95)] [] ⟨277,4,278,95⟩,
 .asg 16 (pz 279 4 9) (.bin .Add (.calf 37 (pz 279 12 23) [(.attr (.loc 121 (pz 279 24 33)) 57 (pz 279 24 41))] (pz 279 12 42)) (.lst [(.tup [(.cst (.lit 109) (pz 279 47 55))] 0 (pz 279 46 57)),(.tup [(.cst (.lit 91) (pz 279 60 67))] 0 (pz 279 59 69))] (pz 279 45 70)) (pz 279 12 70)) (pz 279 4 70),
 .asg 16 (pz 280 4 9) (.bin .Add (.bin .Add (.loc 16 (pz 280 12 17)) (.calf 33 (pz 280 20 32) [(.attr (.loc 121 (pz 280 33 42)) 58 (pz 280 33 50))] (pz 280 20 51)) (pz 280 12 51)) (.lst [(.tup [(.cst (.lit 102) (pz 280 56 63))] 0 (pz 280 55 65))] (pz 280 54 66)) (pz 280 12 66)) (pz 280 4 66),
 .ret (.bin .Add (.bin .Add (.loc 16 (pz 281 11 16)) (.calf 33 (pz 281 19 31) [(.attr (.loc 121 (pz 281 32 41)) 154 (pz 281 32 53))] (pz 281 19 54)) (pz 281 11 54)) (.lst [(.tup [(.cst (.lit 104) (pz 281 59 68))] 0 (pz 281 58 70))] (pz 281 57 71)) (pz 281 11 71)) (pz 281 4 71)]
noncomputable def k38:List (Nat×NameKind):=[(121,.local),(16,.local),(131,.globalImplicit),(143,.globalImplicit)]
def b39:List S:=[.ifs (.cmp .Is (.loc 155 (pz 283 7 9)) (.cst .none (pz 283 13 17)) (pz 283 7 17)) [.ret (.lst [] (pz 284 15 17)) (pz 284 8 17)] [] ⟨283,4,284,17⟩,
 .ast [(.n 35 (pz 285 4 8)),(.n 52 (pz 285 10 14))] 0 (pz 285 4 14) (.loc 155 (pz 285 17 19)) (pz 285 4 19),
 .ifs (.cmp .Eq (.loc 35 (pz 286 7 11)) (.cst (.lit 157) (pz 286 15 23)) (pz 286 7 23)) [.ret (.bin .Add (.calf 33 (pz 287 15 27) [(.loc 52 (pz 287 28 32))] (pz 287 15 33)) (.lst [(.tup [(.cst (.lit 113) (pz 287 38 47))] 0 (pz 287 37 49))] (pz 287 36 50)) (pz 287 15 50)) (pz 287 8 50)] [] ⟨286,4,287,50⟩,
 .ifs (.cmp .Eq (.sub (.loc 52 (pz 288 7 11)) (.cst (.int (0)) (pz 288 12 13)) (pz 288 7 14)) (.cst (.lit 32) (pz 288 18 24)) (pz 288 7 24)) [.ret (.lst [(.tup [(.cst (.lit 110) (pz 289 17 24)),(.sub (.loc 52 (pz 289 26 30)) (.cst (.int (1)) (pz 289 31 32)) (pz 289 26 33))] 0 (pz 289 16 34))] (pz 289 15 35)) (pz 289 8 35)] [] ⟨288,4,289,35⟩,
 .ifs (.bop true [(.cmp .Eq (.sub (.loc 52 (pz 290 7 11)) (.cst (.int (0)) (pz 290 12 13)) (pz 290 7 14)) (.cst (.lit 138) (pz 290 18 25)) (pz 290 7 25)),(.cmp .Eq (.sub (.loc 52 (pz 290 30 34)) (.cst (.int (1)) (pz 290 35 36)) (pz 290 30 37)) (.cst (.lit 144) (pz 290 41 44)) (pz 290 30 44))] (pz 290 7 44)) [.ret (.bin .Add (.calf 33 (pz 291 15 27) [(.sub (.loc 52 (pz 291 28 32)) (.cst (.int (2)) (pz 291 33 34)) (pz 291 28 35))] (pz 291 15 36)) (.lst [(.tup [(.cst (.lit 112) (pz 291 41 45))] 0 (pz 291 40 47))] (pz 291 39 48)) (pz 291 15 48)) (pz 291 8 48)] [] ⟨290,4,291,48⟩,
 .ret (.bin .Add (.calf 33 (pz 292 11 23) [(.loc 52 (pz 292 24 28))] (pz 292 11 29)) (.lst [(.tup [(.cst (.lit 112) (pz 292 34 38))] 0 (pz 292 33 40))] (pz 292 32 41)) (pz 292 11 41)) (pz 292 4 41)]
noncomputable def k39:List (Nat×NameKind):=[(155,.local),(35,.local),(52,.local),(131,.globalImplicit)]
def b40:List S:=[.asg 159 (pz 294 4 10) (.calf 39 (pz 294 13 24) [(.attr (.loc 121 (pz 294 25 34)) 160 (pz 294 25 44))] (pz 294 13 45)) (pz 294 4 45),
 .asg 125 (pz 295 4 11) (.ife (.cmp .IsNot (.attr (.loc 121 (pz 295 24 33)) 160 (pz 295 24 43)) (.cst .none (pz 295 51 55)) (pz 295 24 55)) (.loc 159 (pz 295 14 20)) (.calf 39 (pz 295 61 72) [(.attr (.loc 121 (pz 295 73 82)) 161 (pz 295 73 93))] (pz 295 61 94)) (pz 295 14 94)) (pz 295 4 94),
 .asg 126 (pz 296 4 11) (.ife (.cmp .IsNot (.attr (.loc 121 (pz 296 24 33)) 160 (pz 296 24 43)) (.cst .none (pz 296 51 55)) (pz 296 24 55)) (.loc 159 (pz 296 14 20)) (.calf 39 (pz 296 61 72) [(.attr (.loc 121 (pz 296 73 82)) 162 (pz 296 73 93))] (pz 296 61 94)) (pz 296 14 94)) (pz 296 4 94),
 .ret (.new 4 (pz 297 11 19) [(.attr (.loc 121 (pz 297 20 29)) 111 (pz 297 20 35)),(.calf 38 (pz 297 37 48) [(.loc 121 (pz 297 49 58))] (pz 297 37 59)),(.loc 125 (pz 297 61 68)),(.loc 126 (pz 297 70 77)),(.attr (.loc 121 (pz 297 79 88)) 129 (pz 297 79 93))] (pz 297 11 94)) (pz 297 4 94)]
noncomputable def k40:List (Nat×NameKind):=[(121,.local),(159,.local),(125,.local),(126,.local),(156,.globalImplicit),(128,.globalImplicit),(152,.globalImplicit)]
def b41:List S:=[.asg 164 (pz 299 4 8) (.cmpr (.calf 40 (pz 299 12 29) [(.loc 121 (pz 299 30 39))] (pz 299 12 40)) 121 (pz 299 45 54) (.loc 123 (pz 299 58 68)) 299 (pz 299 11 69)) (pz 299 4 69),
 .asg 27 (pz 300 4 10) (.dic [] [] (pz 300 13 15)) (pz 300 4 15),
 .forp 64 (pz 301 8 10) 165 (pz 301 12 15) 0 (pz 301 8 15) (.calb .enum (pz 301 19 28) [(.loc 164 (pz 301 29 33))] (pz 301 19 34)) [.ifs (.bop true [(.cmp .NotEq (.attr (.loc 165 (pz 302 11 14)) 111 (pz 302 11 20)) (.cst (.lit 8) (pz 302 24 26)) (pz 302 11 26)),(.cmp .IsNot (.attr (.loc 165 (pz 302 31 34)) 111 (pz 302 31 40)) (.cst .none (pz 302 48 52)) (pz 302 31 52)),(.cmp .NotIn (.attr (.loc 165 (pz 302 58 61)) 111 (pz 302 58 67)) (.loc 27 (pz 302 75 81)) (pz 302 58 81))] (pz 302 11 82)) [.ass (.loc 27 (pz 303 12 18)) (.attr (.loc 165 (pz 303 19 22)) 111 (pz 303 19 28)) (pz 303 12 29) (.loc 64 (pz 303 32 34)) (pz 303 12 34)] [] ⟨302,8,303,34⟩] ⟨301,4,303,34⟩,
 .ret (.new 5 (pz 304 11 15) [(.loc 2 (pz 304 16 22)),(.loc 164 (pz 304 24 28)),(.loc 27 (pz 304 30 36))] (pz 304 11 37)) (pz 304 4 37)]
noncomputable def k41:List (Nat×NameKind):=[(123,.local),(2,.local),(164,.local),(27,.local),(64,.local),(165,.local),(166,.globalImplicit),(130,.globalImplicit)]
def b42:List S:=[.asa (.loc 1 (pz 309 8 12)) 111 (pz 309 8 18) (.cst .none (pz 309 21 25)) (pz 309 8 25),
 .asa (.loc 1 (pz 310 8 12)) 57 (pz 310 8 20) (.cst .none (pz 310 23 27)) (pz 310 8 27),
 .asa (.loc 1 (pz 311 8 12)) 58 (pz 311 8 20) (.cst .none (pz 311 23 27)) (pz 311 8 27),
 .asa (.loc 1 (pz 312 8 12)) 153 (pz 312 8 24) (.cst (.bool false) (pz 312 27 32)) (pz 312 8 32),
 .asa (.loc 1 (pz 313 8 12)) 154 (pz 313 8 24) (.cst .none (pz 313 27 31)) (pz 313 8 31),
 .asa (.loc 1 (pz 314 8 12)) 161 (pz 314 8 23) (.cst .none (pz 314 26 30)) (pz 314 8 30),
 .asa (.loc 1 (pz 315 8 12)) 162 (pz 315 8 23) (.cst .none (pz 315 26 30)) (pz 315 8 30),
 .asa (.loc 1 (pz 316 8 12)) 160 (pz 316 8 22) (.cst .none (pz 316 25 29)) (pz 316 8 29),
 .asa (.loc 1 (pz 317 8 12)) 129 (pz 317 8 17) (.loc 129 (pz 317 20 24)) (pz 317 8 24),
 .asa (.loc 1 (pz 318 8 12)) 136 (pz 318 8 17) (.loc 136 (pz 318 20 24)) (pz 318 8 24)]
noncomputable def k42:List (Nat×NameKind):=[(1,.local),(129,.local),(136,.local)]
def b43:List S:=[.ast [(.n 170 (pz 321 4 9)),(.n 171 (pz 321 11 15))] 0 (pz 321 4 15) (.loc 168 (pz 321 18 22)) (pz 321 4 22),
 .ass (.loc 168 (pz 322 4 8)) (.cst (.int (1)) (pz 322 9 10)) (pz 322 4 11) (.bin .Add (.loc 171 (pz 322 14 18)) (.cst (.int (1)) (pz 322 21 22)) (pz 322 14 22)) (pz 322 4 22),
 .ret (.ife (.cmp .Lt (.loc 171 (pz 323 43 47)) (.calb .len (pz 323 50 53) [(.loc 170 (pz 323 54 59))] (pz 323 50 60)) (pz 323 43 60)) (.bin .Mod (.calb .abs (pz 323 11 14) [(.calb .int (pz 323 15 18) [(.sub (.loc 170 (pz 323 19 24)) (.loc 171 (pz 323 25 29)) (pz 323 19 30))] (pz 323 15 31))] (pz 323 11 32)) (.loc 21 (pz 323 35 39)) (pz 323 11 39)) (.bin .Mod (.bin .Add (.bin .Mult (.cst (.int (7)) (pz 323 67 68)) (.loc 171 (pz 323 71 75)) (pz 323 67 75)) (.cst (.int (3)) (pz 323 78 79)) (pz 323 67 79)) (.loc 21 (pz 323 83 87)) (pz 323 66 87)) (pz 323 11 87)) (pz 323 4 87)]
noncomputable def k43:List (Nat×NameKind):=[(168,.local),(21,.local),(170,.local),(171,.local),(24,.globalImplicit),(172,.globalImplicit),(173,.globalImplicit)]
def b44:List S:=[.asg 111 (pz 325 4 9) (.sub (.bin .Add (.loc 175 (pz 325 13 18)) (.lst [(.cst (.lit 69) (pz 325 22 27)),(.cst (.lit 72) (pz 325 29 37)),(.cst (.lit 178) (pz 325 39 48))] (pz 325 21 49)) (pz 325 13 49)) (.loc 17 (pz 325 51 55)) (pz 325 12 56)) (pz 325 4 56),
 .ifs (.bop true [(.cmp .Eq (.loc 174 (pz 326 7 11)) (.cst (.int (7)) (pz 326 15 16)) (pz 326 7 16)),(.cmp .Lt (.loc 17 (pz 326 21 25)) (.calb .len (pz 326 28 31) [(.loc 175 (pz 326 32 37))] (pz 326 28 38)) (pz 326 21 38))] (pz 326 7 38)) [.ret (.tup [(.cst (.lit 157) (pz 327 16 24)),(.tup [(.cst (.lit 32) (pz 327 27 33)),(.bin .Add (.cst (.lit 179) (pz 327 35 38)) (.calb .str (pz 327 41 44) [(.loc 17 (pz 327 45 49))] (pz 327 41 50)) (pz 327 35 50))] 0 (pz 327 26 51))] 0 (pz 327 15 52)) (pz 327 8 52)] [] ⟨326,4,327,52⟩,
 .ifs (.cmp .Eq (.loc 174 (pz 328 7 11)) (.cst (.int (8)) (pz 328 15 16)) (pz 328 7 16)) [.ret (.tup [(.cst (.lit 118) (pz 329 16 22)),(.tup [(.cst (.lit 44) (pz 329 25 31)),(.cst (.lit 180) (pz 329 33 36)),(.tup [] 0 (pz 329 38 40))] 0 (pz 329 24 41))] 0 (pz 329 15 42)) (pz 329 8 42)] [] ⟨328,4,329,42⟩,
 .ifs (.cmp .Eq (.loc 174 (pz 330 7 11)) (.cst (.int (6)) (pz 330 15 16)) (pz 330 7 16)) [.ret (.tup [(.cst (.lit 118) (pz 331 16 22)),(.tup [(.cst (.lit 44) (pz 331 25 31)),(.cst (.lit 181) (pz 331 33 37)),(.tup [(.tup [(.cst (.lit 136) (pz 331 41 47)),(.loc 111 (pz 331 49 54))] 0 (pz 331 40 55))] 0 (pz 331 39 57))] 0 (pz 331 24 58))] 0 (pz 331 15 59)) (pz 331 8 59)] [] ⟨330,4,331,59⟩,
 .ret (.tup [(.cst (.lit 118) (pz 332 12 18)),(.ife (.cmp .In (.loc 174 (pz 332 55 59)) (.tup [(.cst (.int (4)) (pz 332 64 65)),(.cst (.int (5)) (pz 332 67 68))] 0 (pz 332 63 69)) (pz 332 55 69)) (.tup [(.cst (.lit 138) (pz 332 21 28)),(.cst (.lit 144) (pz 332 30 33)),(.tup [(.cst (.lit 136) (pz 332 36 42)),(.loc 111 (pz 332 44 49))] 0 (pz 332 35 50))] 0 (pz 332 20 51)) (.tup [(.cst (.lit 32) (pz 332 76 82)),(.loc 111 (pz 332 84 89))] 0 (pz 332 75 90)) (pz 332 20 90))] 0 (pz 332 11 91)) (pz 332 4 91)]
noncomputable def k44:List (Nat×NameKind):=[(17,.local),(174,.local),(175,.local),(111,.local),(24,.globalImplicit),(177,.globalImplicit)]
def b45:List S:=[.ast [(.n 174 (pz 334 4 8)),(.n 29 (pz 334 10 14)),(.n 184 (pz 334 16 20))] 0 (pz 334 4 20) (.loc 182 (pz 334 23 28)) (pz 334 4 28),
 .ast [(.n 16 (pz 335 4 9)),(.n 185 (pz 335 11 17)),(.n 89 (pz 335 19 22))] 0 (pz 335 4 22) (.tup [(.new 6 (pz 335 26 35) [(.loc 2 (pz 335 36 42)),(.cst (.lit 8) (pz 335 44 46))] (pz 335 26 47)),(.sub (.cst (.lit 187) (pz 335 49 56)) (.loc 2 (pz 335 57 63)) (pz 335 49 64)),(.tup [(.cst (.lit 32) (pz 335 67 73)),(.loc 29 (pz 335 75 79))] 0 (pz 335 66 80))] 0 (pz 335 25 81)) (pz 335 4 81),
 .ast [(.a (.loc 16 (pz 336 4 9)) 111 (pz 336 4 15)),(.a (.loc 16 (pz 336 17 22)) 57 (pz 336 17 30))] 0 (pz 336 4 30) (.tup [(.sub (.loc 175 (pz 336 34 39)) (.loc 2 (pz 336 40 46)) (pz 336 34 47)),(.loc 89 (pz 336 49 52))] 0 (pz 336 33 53)) (pz 336 4 53),
 .asg 186 (pz 337 4 10) (.tup [(.cst (.lit 44) (pz 337 14 20)),(.loc 185 (pz 337 22 28)),(.tup [(.loc 89 (pz 337 31 34))] 0 (pz 337 30 36))] 0 (pz 337 13 37)) (pz 337 4 37),
 .ifs (.bop false [(.cmp .Eq (.loc 174 (pz 338 7 11)) (.cst (.int (0)) (pz 338 15 16)) (pz 338 7 16)),(.cmp .Eq (.loc 174 (pz 338 20 24)) (.cst (.int (4)) (pz 338 28 29)) (pz 338 20 29))] (pz 338 7 29)) [.ast [(.a (.loc 16 (pz 339 8 13)) 153 (pz 339 8 25)),(.a (.loc 16 (pz 339 27 32)) 154 (pz 339 27 44))] 0 (pz 339 8 44) (.tup [(.cst (.bool true) (pz 339 48 52)),(.ife (.cmp .Eq (.loc 174 (pz 339 89 93)) (.cst (.int (0)) (pz 339 97 98)) (pz 339 89 98)) (.tup [(.cst (.lit 139) (pz 339 55 61)),(.loc 89 (pz 339 63 66)),(.tup [(.cst (.lit 136) (pz 339 69 75)),(.loc 185 (pz 339 77 83))] 0 (pz 339 68 84))] 0 (pz 339 54 85)) (.loc 186 (pz 339 104 110)) (pz 339 54 110))] 0 (pz 339 47 111)) (pz 339 8 111)] [.ifs (.cmp .Eq (.loc 174 (pz 340 9 13)) (.cst (.int (3)) (pz 340 17 18)) (pz 340 9 18)) [.asa (.loc 16 (pz 341 8 13)) 57 (pz 341 8 21) (.tup [(.cst (.lit 138) (pz 341 25 32)),(.cst (.lit 150) (pz 341 34 37)),(.loc 186 (pz 341 39 45))] 0 (pz 341 24 46)) (pz 341 8 46)] [.asa (.loc 16 (pz 343 8 13)) 58 (pz 343 8 21) (.tup [(.cst (.lit 136) (pz 343 25 31)),(.loc 185 (pz 343 33 39))] 0 (pz 343 24 40)) (pz 343 8 40)] ⟨340,4,343,40⟩] ⟨338,4,343,40⟩,
 .ifs (.cmp .Eq (.loc 174 (pz 344 7 11)) (.cst (.int (2)) (pz 344 15 16)) (pz 344 7 16)) [.ast [(.a (.loc 16 (pz 345 8 13)) 153 (pz 345 8 25)),(.a (.loc 16 (pz 345 27 32)) 154 (pz 345 27 44))] 0 (pz 345 8 44) (.tup [(.cst (.bool true) (pz 345 48 52)),(.tup [(.cst (.lit 135) (pz 345 55 61))] 0 (pz 345 54 63))] 0 (pz 345 47 64)) (pz 345 8 64)] [] ⟨344,4,345,64⟩,
 .ifs (.cmp .Eq (.calb .len (pz 346 7 10) [(.loc 184 (pz 346 11 15))] (pz 346 7 16)) (.cst (.int (1)) (pz 346 20 21)) (pz 346 7 21)) [.asa (.loc 16 (pz 347 8 13)) 160 (pz 347 8 23) (.calf 44 (pz 347 26 34) [(.sub (.sub (.loc 184 (pz 347 35 39)) (.cst (.int (0)) (pz 347 40 41)) (pz 347 35 42)) (.cst (.int (0)) (pz 347 43 44)) (pz 347 35 45)),(.sub (.sub (.loc 184 (pz 347 47 51)) (.cst (.int (0)) (pz 347 52 53)) (pz 347 47 54)) (.cst (.int (1)) (pz 347 55 56)) (pz 347 47 57)),(.loc 175 (pz 347 59 64))] (pz 347 26 65)) (pz 347 8 65)] [.asa (.loc 16 (pz 349 8 13)) 161 (pz 349 8 24) (.calf 44 (pz 349 27 35) [(.sub (.sub (.loc 184 (pz 349 36 40)) (.cst (.int (0)) (pz 349 41 42)) (pz 349 36 43)) (.cst (.int (0)) (pz 349 44 45)) (pz 349 36 46)),(.sub (.sub (.loc 184 (pz 349 48 52)) (.cst (.int (0)) (pz 349 53 54)) (pz 349 48 55)) (.cst (.int (1)) (pz 349 56 57)) (pz 349 48 58)),(.loc 175 (pz 349 60 65))] (pz 349 27 66)) (pz 349 8 66),
 .asa (.loc 16 (pz 350 8 13)) 162 (pz 350 8 24) (.calf 44 (pz 350 27 35) [(.sub (.sub (.loc 184 (pz 350 36 40)) (.cst (.int (1)) (pz 350 41 42)) (pz 350 36 43)) (.cst (.int (0)) (pz 350 44 45)) (pz 350 36 46)),(.sub (.sub (.loc 184 (pz 350 48 52)) (.cst (.int (1)) (pz 350 53 54)) (pz 350 48 55)) (.cst (.int (1)) (pz 350 56 57)) (pz 350 48 58)),(.loc 175 (pz 350 60 65))] (pz 350 27 66)) (pz 350 8 66)] ⟨346,4,350,66⟩,
 .ret (.loc 16 (pz 351 11 16)) (pz 351 4 16)]
noncomputable def k45:List (Nat×NameKind):=[(2,.local),(182,.local),(175,.local),(174,.local),(29,.local),(184,.local),(16,.local),(185,.local),(89,.local),(186,.local),(167,.globalImplicit),(24,.globalImplicit),(176,.globalImplicit)]
def b46:List S:=[.asc 190 (pz 353 4 8) (.new 6 (pz 353 11 20) [(.cst (.int (9)) (pz 353 21 22)),(.cst (.lit 8) (pz 353 24 26))] (pz 353 11 27)) (pz 353 4 27),
 .asa (.cel 190 (pz 354 4 8)) 111 (pz 354 4 14) (.cst (.lit 69) (pz 354 17 22)) (pz 354 4 22),
 .asg 164 (pz 355 4 8) (.cmpr (.ife (.cmp .Eq (.loc 2 (pz 355 20 26)) (.calb .len (pz 355 30 33) [(.cel 182 (pz 355 34 39))] (pz 355 30 40)) (pz 355 20 40)) (.cel 190 (pz 355 12 16)) (.calf 45 (pz 355 46 57) [(.loc 2 (pz 355 58 64)),(.sub (.cel 182 (pz 355 66 71)) (.loc 2 (pz 355 72 78)) (pz 355 66 79)),(.cel 175 (pz 355 81 86))] (pz 355 46 87)) (pz 355 12 87)) 2 (pz 355 92 98) (.loc 78 (pz 355 102 107)) 355 (pz 355 11 108)) (pz 355 4 108),
 .asg 191 (pz 356 4 9) (.lst [(.calf 41 (pz 356 13 28) [(.slc (.loc 164 (pz 356 29 33)) none (some (.loc 188 (pz 356 35 38))) (pz 356 34 38) (pz 356 29 39)),(.cst (.int (1)) (pz 356 41 42))] (pz 356 13 43)),(.calf 41 (pz 356 45 60) [(.slc (.loc 164 (pz 356 61 65)) (some (.loc 188 (pz 356 66 69))) none (pz 356 66 70) (pz 356 61 71)),(.cst (.int (2)) (pz 356 73 74))] (pz 356 45 75))] (pz 356 12 76)) (pz 356 4 76),
 .ast [(.c 194 (pz 357 4 9)),(.n 27 (pz 357 11 17)),(.c 195 (pz 357 19 24)),(.c 193 (pz 357 26 31))] 0 (pz 357 4 31) (.tup [(.dic [] [] (pz 357 35 37)),(.dic [] [] (pz 357 39 41)),(.dic [(197,(pz 357 44 47)),(198,(pz 357 53 56))] [(.cst (.lit 8) (pz 357 49 51)),(.cst (.lit 199) (pz 357 58 61))] (pz 357 43 62)),(.lst [] (pz 357 64 66))] 0 (pz 357 34 67)) (pz 357 4 67),
 .forl 64 (pz 358 8 10) (.calb .range (pz 358 14 19) [(.calb .len (pz 358 20 23) [(.loc 78 (pz 358 24 29))] (pz 358 20 30))] (pz 358 14 31)) [.ass (.cel 194 (pz 359 8 13)) (.bin .Add (.cst (.lit 179) (pz 359 14 17)) (.calb .str (pz 359 20 23) [(.sub (.loc 78 (pz 359 24 29)) (.loc 64 (pz 359 30 32)) (pz 359 24 33))] (pz 359 20 34)) (pz 359 14 34)) (pz 359 8 35) (.ife (.cmp .Lt (.loc 64 (pz 359 56 58)) (.loc 188 (pz 359 61 64)) (pz 359 56 64)) (.tup [(.sub (.loc 191 (pz 359 39 44)) (.cst (.int (0)) (pz 359 45 46)) (pz 359 39 47)),(.loc 64 (pz 359 49 51))] 0 (pz 359 38 52)) (.tup [(.sub (.loc 191 (pz 359 71 76)) (.cst (.int (1)) (pz 359 77 78)) (pz 359 71 79)),(.bin .Sub (.loc 64 (pz 359 81 83)) (.loc 188 (pz 359 86 89)) (pz 359 81 89))] 0 (pz 359 70 90)) (pz 359 38 90)) (pz 359 8 90)] ⟨358,4,359,90⟩,
 .forl 119 (pz 360 8 12) (.loc 191 (pz 360 16 21)) [.forl 111 (pz 361 12 17) (.attr (.loc 119 (pz 361 21 25)) 27 (pz 361 21 32)) [.ass (.loc 27 (pz 362 12 18)) (.loc 111 (pz 362 19 24)) (pz 362 12 25) (.tup [(.loc 119 (pz 362 29 33)),(.sub (.attr (.loc 119 (pz 362 35 39)) 27 (pz 362 35 46)) (.loc 111 (pz 362 47 52)) (pz 362 35 53))] 0 (pz 362 28 54)) (pz 362 12 54)] ⟨361,8,362,54⟩] ⟨360,4,362,54⟩,
 .defn 48,
 .ast [(.n 75 (pz 385 4 9)),(.n 65 (pz 385 11 16))] 0 (pz 385 4 16) (.tup [(.new 3 (pz 385 20 30) [(.loc 192 (pz 385 31 38)),(.loc 27 (pz 385 40 46))] (pz 385 20 47)),(.sub (.cel 194 (pz 385 49 54)) (.cst (.lit 200) (pz 385 55 59)) (pz 385 49 60))] 0 (pz 385 19 61)) (pz 385 4 61),
 .tryx [.asg 3 (pz 387 8 12) (.calf 30 (pz 387 15 23) [(.sub (.loc 65 (pz 387 24 29)) (.cst (.int (0)) (pz 387 30 31)) (pz 387 24 32)),(.sub (.loc 65 (pz 387 34 39)) (.cst (.int (1)) (pz 387 40 41)) (pz 387 34 42)),(.loc 75 (pz 387 44 49))] (pz 387 15 50)) (pz 387 8 50)] 0 (pz 388 11 22) 7 [.asg 3 (pz 389 8 12) (.attr (.loc 7 (pz 389 15 20)) 2 (pz 389 15 27)) (pz 389 8 27)] ⟨388,4,389,27⟩ ⟨386,4,389,27⟩,
 .ret (.tup [(.cel 193 (pz 390 12 17)),(.cmpr (.cmp .Eq (.loc 201 (pz 390 20 24)) (.uneg 1 (pz 390 29 30) (pz 390 28 30)) (pz 390 20 30)) 201 (pz 390 35 39) (.attr (.loc 75 (pz 390 43 48)) 28 (pz 390 43 54)) 390 (pz 390 19 55)),(.loc 3 (pz 390 57 61)),(.cel 195 (pz 390 63 68))] 0 (pz 390 11 69)) (pz 390 4 69)]
noncomputable def k46:List (Nat×NameKind):=[(182,.cell),(78,.local),(188,.local),(175,.cell),(190,.cell),(164,.local),(191,.local),(27,.local),(64,.local),(119,.local),(111,.local),(192,.local),(75,.local),(65,.local),(3,.local),(7,.local),(193,.cell),(194,.cell),(195,.cell),(167,.globalImplicit),(163,.globalImplicit),(196,.globalImplicit),(24,.globalImplicit),(177,.globalImplicit),(25,.globalImplicit),(120,.globalImplicit),(0,.globalImplicit)]
def b48:List S:=[.ifs (.cmp .Eq (.calb .len (pz 365 11 14) [(.cel 193 (pz 365 15 20))] (pz 365 11 21)) (.cst (.int (40)) (pz 365 25 27)) (pz 365 11 27)) [.rais 0 (pz 366 18 29) [(.cst (.int (99)) (pz 366 30 32))] (pz 366 18 33) (pz 366 12 33)] [] ⟨365,8,366,33⟩,
 .expr (.meth (.cel 193 (pz 367 8 13)) 19 (pz 367 8 20) [(.ife (.cmp .NotEq (.sub (.loc 30 (pz 367 38 43)) (.cst (.int (0)) (pz 367 44 45)) (pz 367 38 46)) (.cst (.lit 181) (pz 367 50 54)) (pz 367 38 54)) (.tup [(.loc 29 (pz 367 22 26)),(.loc 30 (pz 367 28 33))] 0 (pz 367 21 34)) (.loc 29 (pz 367 60 64)) (pz 367 21 64))] (pz 367 8 65)) (pz 367 8 65),
 .ifs (.bop true [(.cmp .Eq (.loc 29 (pz 368 11 15)) (.cst (.lit 34) (pz 368 19 25)) (pz 368 11 25)),(.cmp .In (.sub (.loc 30 (pz 368 30 35)) (.cst (.int (0)) (pz 368 36 37)) (pz 368 30 38)) (.cel 194 (pz 368 42 47)) (pz 368 30 47))] (pz 368 11 47)) [.ret (.sub (.cel 194 (pz 369 19 24)) (.sub (.loc 30 (pz 369 25 30)) (.cst (.int (0)) (pz 369 31 32)) (pz 369 25 33)) (pz 369 19 34)) (pz 369 12 34)] [] ⟨368,8,369,34⟩,
 .ifs (.bop false [(.cmp .Eq (.loc 29 (pz 370 11 15)) (.cst (.lit 34) (pz 370 19 25)) (pz 370 11 25)),(.cmp .Eq (.loc 29 (pz 370 29 33)) (.cst (.lit 10) (pz 370 37 44)) (pz 370 29 44))] (pz 370 11 44)) [.ret (.sub (.cel 195 (pz 371 19 24)) (.sub (.loc 30 (pz 371 25 30)) (.cst (.int (0)) (pz 371 31 32)) (pz 371 25 33)) (pz 371 19 34)) (pz 371 12 34)] [] ⟨370,8,371,34⟩,
 .ifs (.cmp .Eq (.loc 29 (pz 372 11 15)) (.cst (.lit 51) (pz 372 19 29)) (pz 372 11 29)) [.ret (.bin .Add (.sub (.sub (.loc 30 (pz 373 19 24)) (.cst (.int (1)) (pz 373 25 26)) (pz 373 19 27)) (.cst (.int (0)) (pz 373 28 29)) (pz 373 19 30)) (.sub (.sub (.loc 30 (pz 373 33 38)) (.cst (.int (1)) (pz 373 39 40)) (pz 373 33 41)) (.cst (.int (1)) (pz 373 42 43)) (pz 373 33 44)) (pz 373 19 44)) (pz 373 12 44)] [] ⟨372,8,373,44⟩,
 .ifs (.cmp .Eq (.loc 29 (pz 374 11 15)) (.cst (.lit 60) (pz 374 19 26)) (pz 374 11 26)) [.ret (.ife (.cmp .In (.sub (.loc 30 (pz 375 46 51)) (.cst (.int (1)) (pz 375 52 53)) (pz 375 46 54)) (.sub (.loc 30 (pz 375 58 63)) (.cst (.int (0)) (pz 375 64 65)) (pz 375 58 66)) (pz 375 46 66)) (.meth (.sub (.loc 30 (pz 375 19 24)) (.cst (.int (0)) (pz 375 25 26)) (pz 375 19 27)) 202 (pz 375 19 32) [(.sub (.loc 30 (pz 375 33 38)) (.cst (.int (1)) (pz 375 39 40)) (pz 375 33 41))] (pz 375 19 42)) (.cst .none (pz 375 72 76)) (pz 375 19 76)) (pz 375 12 76)] [] ⟨374,8,375,76⟩,
 .ifs (.cmp .Eq (.loc 29 (pz 376 11 15)) (.cst (.lit 61) (pz 376 19 27)) (pz 376 11 27)) [.ass (.cel 195 (pz 377 12 17)) (.sub (.loc 30 (pz 377 18 23)) (.cst (.int (0)) (pz 377 24 25)) (pz 377 18 26)) (pz 377 12 27) (.sub (.loc 30 (pz 377 30 35)) (.cst (.int (1)) (pz 377 36 37)) (pz 377 30 38)) (pz 377 12 38)] [] ⟨376,8,377,38⟩,
 .ifs (.cmp .Eq (.loc 29 (pz 378 11 15)) (.cst (.lit 62) (pz 378 19 28)) (pz 378 11 28)) [.ass (.cel 195 (pz 379 12 17)) (.sub (.loc 30 (pz 379 18 23)) (.cst (.int (0)) (pz 379 24 25)) (pz 379 18 26)) (pz 379 12 27) (.bin .Add (.bin .Add (.slc (.sub (.cel 195 (pz 379 30 35)) (.sub (.loc 30 (pz 379 36 41)) (.cst (.int (0)) (pz 379 42 43)) (pz 379 36 44)) (pz 379 30 45)) none (some (.sub (.loc 30 (pz 379 47 52)) (.cst (.int (1)) (pz 379 53 54)) (pz 379 47 55))) (pz 379 46 55) (pz 379 30 56)) (.sub (.loc 30 (pz 379 59 64)) (.cst (.int (2)) (pz 379 65 66)) (pz 379 59 67)) (pz 379 30 67)) (.slc (.sub (.cel 195 (pz 379 70 75)) (.sub (.loc 30 (pz 379 76 81)) (.cst (.int (0)) (pz 379 82 83)) (pz 379 76 84)) (pz 379 70 85)) (some (.bin .Add (.sub (.loc 30 (pz 379 86 91)) (.cst (.int (1)) (pz 379 92 93)) (pz 379 86 94)) (.cst (.int (1)) (pz 379 97 98)) (pz 379 86 98))) none (pz 379 86 99) (pz 379 70 100)) (pz 379 30 100)) (pz 379 12 100)] [] ⟨378,8,379,100⟩,
 .ifs (.bop true [(.cmp .Eq (.loc 29 (pz 380 11 15)) (.cst (.lit 44) (pz 380 19 25)) (pz 380 11 25)),(.cmp .In (.sub (.loc 30 (pz 380 30 35)) (.cst (.int (0)) (pz 380 36 37)) (pz 380 30 38)) (.tup [(.cst (.lit 181) (pz 380 43 47)),(.cst (.lit 180) (pz 380 49 52))] 0 (pz 380 42 53)) (pz 380 30 53))] (pz 380 11 53)) [.ret (.ife (.cmp .Eq (.sub (.loc 30 (pz 381 34 39)) (.cst (.int (0)) (pz 381 40 41)) (pz 381 34 42)) (.cst (.lit 181) (pz 381 46 50)) (pz 381 34 50)) (.sub (.sub (.loc 30 (pz 381 19 24)) (.cst (.int (1)) (pz 381 25 26)) (pz 381 19 27)) (.cst (.int (0)) (pz 381 28 29)) (pz 381 19 30)) (.cst .none (pz 381 56 60)) (pz 381 19 60)) (pz 381 12 60)] [] ⟨380,8,381,60⟩,
 .ifs (.cmp .Eq (.loc 29 (pz 382 11 15)) (.cst (.lit 44) (pz 382 19 25)) (pz 382 11 25)) [.ret (.ife (.cmp .Gt (.calb .len (pz 383 27 30) [(.sub (.sub (.loc 30 (pz 383 31 36)) (.cst (.int (1)) (pz 383 37 38)) (pz 383 31 39)) (.cst (.int (0)) (pz 383 40 41)) (pz 383 31 42))] (pz 383 27 43)) (.cst (.int (2)) (pz 383 46 47)) (pz 383 27 47)) (.cst .none (pz 383 19 23)) (.bin .Add (.sub (.sub (.loc 30 (pz 383 53 58)) (.cst (.int (1)) (pz 383 59 60)) (pz 383 53 61)) (.cst (.int (0)) (pz 383 62 63)) (pz 383 53 64)) (.sub (.loc 30 (pz 383 67 72)) (.cst (.int (0)) (pz 383 73 74)) (pz 383 67 75)) (pz 383 53 75)) (pz 383 19 75)) (pz 383 12 75)] [] ⟨382,8,383,75⟩,
 .ret (.sub (.loc 30 (pz 384 15 20)) (.cst (.int (0)) (pz 384 21 22)) (pz 384 15 23)) (pz 384 8 23)]
noncomputable def k48:List (Nat×NameKind):=[(29,.local),(30,.local),(193,.free),(194,.free),(195,.free),(24,.globalImplicit),(0,.globalImplicit)]
def b47:List S:=[.ast [(.n 168 (pz 392 4 8)),(.n 182 (pz 392 10 15))] 0 (pz 392 4 15) (.tup [(.lst [(.slc (.loc 203 (pz 392 20 26)) none (some (.cst (.int (48)) (pz 392 28 30))) (pz 392 27 30) (pz 392 20 31)),(.cst (.int (0)) (pz 392 33 34))] (pz 392 19 35)),(.lst [] (pz 392 37 39))] 0 (pz 392 18 40)) (pz 392 4 40),
 .asg 21 (pz 393 4 8) (.bin .Add (.cst (.int (3)) (pz 393 11 12)) (.calf 43 (pz 393 15 26) [(.loc 168 (pz 393 27 31)),(.cst (.int (3)) (pz 393 33 34))] (pz 393 15 35)) (pz 393 11 35)) (pz 393 4 35),
 .forl 2 (pz 394 8 14) (.calb .range (pz 394 18 23) [(.loc 21 (pz 394 24 28))] (pz 394 18 29)) [.ast [(.n 174 (pz 395 8 12)),(.n 205 (pz 395 14 22))] 0 (pz 395 8 22) (.tup [(.calf 43 (pz 395 26 37) [(.loc 168 (pz 395 38 42)),(.cst (.int (5)) (pz 395 44 45))] (pz 395 26 46)),(.cmp .Gt (.calf 43 (pz 395 48 59) [(.loc 168 (pz 395 60 64)),(.cst (.int (3)) (pz 395 66 67))] (pz 395 48 68)) (.cst (.int (0)) (pz 395 71 72)) (pz 395 48 72))] 0 (pz 395 25 73)) (pz 395 8 73),
 .ast [(.n 29 (pz 396 8 12)),(.n 184 (pz 396 14 18))] 0 (pz 396 8 18) (.tup [(.sub (.cst (.lit 208) (pz 396 22 26)) (.calf 43 (pz 396 27 38) [(.loc 168 (pz 396 39 43)),(.cst (.int (2)) (pz 396 45 46))] (pz 396 27 47)) (pz 396 22 48)),(.lst [] (pz 396 50 52))] 0 (pz 396 21 53)) (pz 396 8 53),
 .forl 171 (pz 397 12 16) (.calb .range (pz 397 20 25) [(.ife (.loc 205 (pz 397 31 39)) (.cst (.int (2)) (pz 397 26 27)) (.cst (.int (1)) (pz 397 45 46)) (pz 397 26 46))] (pz 397 20 47)) [.asg 17 (pz 398 12 16) (.calf 43 (pz 398 19 30) [(.loc 168 (pz 398 31 35)),(.bin .Add (.loc 21 (pz 398 37 41)) (.cst (.int (3)) (pz 398 44 45)) (pz 398 37 45))] (pz 398 19 46)) (pz 398 12 46),
 .expr (.meth (.loc 184 (pz 399 12 16)) 19 (pz 399 12 23) [(.tup [(.loc 17 (pz 399 25 29)),(.calf 43 (pz 399 31 42) [(.loc 168 (pz 399 43 47)),(.cst (.int (9)) (pz 399 49 50))] (pz 399 31 51))] 0 (pz 399 24 52))] (pz 399 12 53)) (pz 399 12 53)] ⟨397,8,399,53⟩,
 .expr (.meth (.loc 182 (pz 400 8 13)) 19 (pz 400 8 20) [(.tup [(.loc 174 (pz 400 22 26)),(.loc 29 (pz 400 28 32)),(.loc 184 (pz 400 34 38))] 0 (pz 400 21 39))] (pz 400 8 40)) (pz 400 8 40)] ⟨394,4,400,40⟩,
 .ast [(.n 73 (pz 401 4 8)),(.c 78 (pz 401 10 15))] 0 (pz 401 4 15) (.tup [(.calb .list (pz 401 19 23) [(.calb .range (pz 401 24 29) [(.bin .Add (.loc 21 (pz 401 30 34)) (.cst (.int (1)) (pz 401 37 38)) (pz 401 30 38))] (pz 401 24 39))] (pz 401 19 40)),(.lst [] (pz 401 42 44))] 0 (pz 401 18 45)) (pz 401 4 45),
 .whl (.cmp .Gt (.calb .len (pz 402 10 13) [(.loc 73 (pz 402 14 18))] (pz 402 10 19)) (.cst (.int (0)) (pz 402 22 23)) (pz 402 10 23)) [.expr (.meth (.cel 78 (pz 403 8 13)) 19 (pz 403 8 20) [(.meth (.loc 73 (pz 403 21 25)) 20 (pz 403 21 29) [(.calf 43 (pz 403 30 41) [(.loc 168 (pz 403 42 46)),(.calb .len (pz 403 48 51) [(.loc 73 (pz 403 52 56))] (pz 403 48 57))] (pz 403 30 58))] (pz 403 21 59))] (pz 403 8 60)) (pz 403 8 60)] ⟨402,4,403,60⟩,
 .asg 188 (pz 404 4 7) (.calf 43 (pz 404 10 21) [(.loc 168 (pz 404 22 26)),(.bin .Add (.loc 21 (pz 404 28 32)) (.cst (.int (2)) (pz 404 35 36)) (pz 404 28 36))] (pz 404 10 37)) (pz 404 4 37),
 .asg 206 (pz 405 4 7) (.calf 46 (pz 405 10 18) [(.loc 182 (pz 405 19 24)),(.calb .list (pz 405 26 30) [(.calb .range (pz 405 31 36) [(.loc 21 (pz 405 37 41))] (pz 405 31 42))] (pz 405 26 43)),(.loc 21 (pz 405 45 49)),(.cmpr (.bin .Add (.cst (.lit 209) (pz 405 52 55)) (.calb .str (pz 405 58 61) [(.loc 2 (pz 405 62 68))] (pz 405 58 69)) (pz 405 52 69)) 2 (pz 405 74 80) (.calb .range (pz 405 84 89) [(.loc 21 (pz 405 90 94))] (pz 405 84 95)) 405 (pz 405 51 96))] (pz 405 10 97)) (pz 405 4 97),
 .asg 175 (pz 406 4 9) (.cmpr (.bin .Add (.cst (.lit 209) (pz 406 13 16)) (.calb .str (pz 406 19 22) [(.meth (.cel 78 (pz 406 23 28)) 210 (pz 406 23 34) [(.loc 2 (pz 406 35 41))] (pz 406 23 42))] (pz 406 19 43)) (pz 406 13 43)) 2 (pz 406 48 54) (.calb .range (pz 406 58 63) [(.loc 21 (pz 406 64 68))] (pz 406 58 69)) 406 (pz 406 12 70)) (pz 406 4 70),
 .ret (.bop true [(.cmp .Gt (.calb .len (pz 407 11 14) [(.sub (.loc 206 (pz 407 15 18)) (.cst (.int (0)) (pz 407 19 20)) (pz 407 15 21))] (pz 407 11 22)) (.cst (.int (0)) (pz 407 25 26)) (pz 407 11 26)),(.cmp .Eq (.calf 46 (pz 407 31 39) [(.loc 182 (pz 407 40 45)),(.cel 78 (pz 407 47 52)),(.loc 188 (pz 407 54 57)),(.loc 175 (pz 407 59 64))] (pz 407 31 65)) (.loc 206 (pz 407 69 72)) (pz 407 31 72))] (pz 407 11 72)) (pz 407 4 72)]
noncomputable def k47:List (Nat×NameKind):=[(203,.local),(168,.local),(182,.local),(21,.local),(2,.local),(174,.local),(205,.local),(29,.local),(184,.local),(171,.local),(17,.local),(73,.local),(78,.cell),(188,.local),(206,.local),(175,.local),(169,.globalImplicit),(196,.globalImplicit),(207,.globalImplicit),(24,.globalImplicit),(189,.globalImplicit)]
def fns:Nat→Option Fn
 | 0=>some {pars:=[10],kd:=k0,body:=b0}
 | 1=>some {pars:=[1],kd:=k1,body:=b1}
 | 2=>some {pars:=[1,10],kd:=k2,body:=b2}
 | 3=>some {pars:=[1],kd:=k3,body:=b3}
 | 4=>some {pars:=[1,21],kd:=k4,body:=b4}
 | 5=>some {pars:=[1,26,27],kd:=k5,body:=b5}
 | 6=>some {pars:=[1,29,30],kd:=k6,body:=b6}
 | 7=>some {pars:=[1,32],kd:=k7,body:=b7}
 | 8=>some {pars:=[1,35,32],kd:=k8,body:=b8}
 | 9=>some {pars:=[1,10],kd:=k9,body:=b9}
 | 10=>some {pars:=[1,39],kd:=k10,body:=b10}
 | 11=>some {pars:=[1,32,41,42],kd:=k11,body:=b11}
 | 12=>some {pars:=[1,45,46,42],kd:=k12,body:=b12}
 | 13=>some {pars:=[1,49,41],kd:=k13,body:=b13}
 | 14=>some {pars:=[1,52],kd:=k14,body:=b14}
 | 15=>some {pars:=[1,49,10,39],kd:=k15,body:=b15}
 | 16=>some {pars:=[1,39],kd:=k16,body:=b16}
 | 17=>some {pars:=[1,57,58],kd:=k17,body:=b17}
 | 18=>some {pars:=[1,39,10],kd:=k18,body:=b18}
 | 19=>some {pars:=[1,39,16,10],kd:=k19,body:=b19}
 | 20=>some {pars:=[1,10],kd:=k20,body:=b20}
 | 21=>some {pars:=[1,64],kd:=k21,body:=b21}
 | 22=>some {pars:=[1],kd:=k22,body:=b22}
 | 23=>some {pars:=[1,35,67],kd:=k23,body:=b23}
 | 24=>some {pars:=[74,75],kd:=k24,body:=b24}
 | 25=>some {pars:=[77,78,75],kd:=k25,body:=b25}
 | 26=>some {pars:=[77,78,75],kd:=k26,body:=b26}
 | 27=>some {pars:=[77,29,75],kd:=k27,body:=b27}
 | 28=>some {pars:=[77,78,75],kd:=k28,body:=b28}
 | 29=>some {pars:=[115,75],kd:=k29,body:=b29}
 | 30=>some {pars:=[119,64,75],kd:=k30,body:=b30}
 | 31=>some {pars:=[1,111,124,125,126,129],kd:=k31,body:=b31}
 | 32=>some {pars:=[1,2,123,27],kd:=k32,body:=b32}
 | 33=>some {pars:=[52],kd:=k33,body:=b33}
 | 34=>some {pars:=[140],kd:=k34,body:=b34}
 | 35=>some {pars:=[49,52],kd:=k35,body:=b35}
 | 36=>some {pars:=[49,73,151],kd:=k36,body:=b36}
 | 37=>some {pars:=[52],kd:=k37,body:=b37}
 | 38=>some {pars:=[121],kd:=k38,body:=b38}
 | 39=>some {pars:=[155],kd:=k39,body:=b39}
 | 40=>some {pars:=[121],kd:=k40,body:=b40}
 | 41=>some {pars:=[123,2],kd:=k41,body:=b41}
 | 42=>some {pars:=[1,129,136],kd:=k42,body:=b42}
 | 43=>some {pars:=[168,21],kd:=k43,body:=b43}
 | 44=>some {pars:=[17,174,175],kd:=k44,body:=b44}
 | 45=>some {pars:=[2,182,175],kd:=k45,body:=b45}
 | 46=>some {pars:=[182,78,188,175],kd:=k46,body:=b46,own:=[182,175,190,193,194,195]}
 | 47=>some {pars:=[203],kd:=k47,body:=b47,own:=[78]}
 | 48=>some {pars:=[29,30],kd:=k48,body:=b48,fre:=[193,194,195]}
 | _=>none
noncomputable def mthL:List (Nat×Nat×Nat):=[(2,18,2),(2,20,3),(2,22,4),(3,31,6),(3,33,7),(3,36,8),(3,37,9),(3,40,10),(3,43,11),(3,47,12),(3,50,13),(3,53,14),(3,54,15),(3,56,16),(3,59,17),(3,61,18),(3,62,19),(3,63,20),(3,65,21),(3,66,22),(3,68,23)]
noncomputable def mthF:List (Nat×Nat×Nat)→Nat→Nat→Option Nat
 | [],_,_=>none
 | q :: r,k,n=>bif Nat.beq q.1 k && Nat.beq q.2.1 n then some q.2.2 else mthF r k n
def mths (k n:Nat):Option Nat:=mthF mthL k n
noncomputable def inis:Nat→Nat
 | 2=>1
 | 3=>5
 | 4=>31
 | 5=>32
 | 6=>42
 | _=>999
noncomputable def gls:Nat→Option AV
 | 70=>some (.int 24)
 | 117=>some (.int 19)
 | 69=>some (.lit 69)
 | _=>none
def fad (k:Nat):Nat:=gt [58,72,79,86,93,114,121,128,135,142,149,156,163,170,177,184,191,198,205,212,219,226,233,240,254,261,268,275,282,289,296,310,331,345,352,359,366,373,380,387,394,399,413,427,434,441,446,451,0] k
noncomputable def topL:List Nat:=[0,24,25,26,27,28,29,30,33,34,35,36,37,38,39,40,41,43,44,45]
def topF (f:Nat):Bool:=topL.any (Nat.beq f)
def fnsOk (f:Nat):Bool:=match fns f with | some fn=>fn.own.isEmpty && fn.fre.isEmpty | none=>false
inductive Out where
 | v (a:AV) | vs (l:List AV) | b (c:Bool) | nx | rt (a:AV) | ex (n:Int)
structure St where
 kd:List (Nat×NameKind)
 loc:List (Nat×AV)
 cel:List (Nat×AV)
 H:List (Option (Tg×List AV))
 orc:List AV
 obl:List Prop
noncomputable def lkA:Nat→List (Nat×AV)→Option AV
 | _,[]=>none
 | x,(y,v) :: r=>match Nat.beq x y with | true=>some v | false=>lkA x r
noncomputable def stA:Nat→AV→List (Nat×AV)→List (Nat×AV)
 | x,v,[]=>[(x,v)]
 | x,v,(y,u) :: r=>match Nat.beq x y with | true=>(x,v) :: r | false=>(y,u) :: stA x v r
noncomputable def lkK:Nat→List (Nat×NameKind)→Option NameKind
 | _,[]=>none
 | x,(y,v) :: r=>match Nat.beq x y with | true=>some v | false=>lkK x r
def isL (kd:List (Nat×NameKind))(x:Nat):Bool:=match lkK x kd with | some .local=>true | _=>false
def isG (kd:List (Nat×NameKind))(x:Nat):Bool:=match lkK x kd with | some .globalImplicit=>true | _=>false
def isC (kd:List (Nat×NameKind))(x:Nat):Bool:=match lkK x kd with | some .cell=>true | _=>false
def isF (kd:List (Nat×NameKind))(x:Nat):Bool:=match lkK x kd with | some .free=>true | _=>false
noncomputable def litC:AV→Bool
 | .none | .bool _ | .int _ | .lit _=>true
 | _=>false
noncomputable def noC:E→Bool
 | .loc .. | .cel .. | .attr .. | .sub .. | .slc ..=>true
 | _=>false
noncomputable def ncp:E→Bool
 | .cmpr ..=>false
 | _=>true
noncomputable def opn0:E→Bool
 | .new .. | .calf .. | .lst .. | .calb .. | .meth .. | .calx .. | .loc ..=>true
 | _=>false
def opn:E→Bool
 | .sub o i _=>opn0 o || opn0 i
 | e=>opn0 e
def sw2 (kd:List (Nat×NameKind))(t u:T)(vs:List E):Option Bool:=match t with
 | .n x xp=>(match u with
  | .n y yp=>(match vs with
   | []=>none
   | a :: r=>(match r with
    | []=>none
    | _ :: q=>(match q with
     | []=>bif isL kd x && isL kd y && Nat.beq yp.line xp.line && !Nat.beq x y && opn a then some true else none
     | _ :: _=>none)))
  | .c y _=>bif isC kd y then some false else none
  | .a ..=>none)
 | .c ..=>none
 | .a ..=>(match u with
  | .a ..=>some false
  | _=>none)
def sw3 (kd:List (Nat×NameKind))(t u v:T)(vs:List E):Option Bool:=match t with
 | .n x xp=>(match u with
  | .n y yp=>(match v with
   | .n z zp=>(match vs with
    | []=>none
    | a :: r=>(match r with
     | []=>none
     | _ :: q=>(match q with
      | []=>none
      | _ :: q'=>(match q' with
       | []=>bif isL kd x && isL kd y && isL kd z && Nat.beq yp.line xp.line && Nat.beq zp.line xp.line && !Nat.beq x y && !Nat.beq x z && !Nat.beq y z && opn a then some true else none
       | _ :: _=>none))))
   | _=>none)
  | _=>none)
 | _=>none
def swT (kd:List (Nat×NameKind))(ts:List T)(vs:List E):Option Bool:=match ts with
 | []=>none
 | t :: r=>(match r with
  | []=>none
  | u :: r=>(match r with
   | []=>sw2 kd t u vs
   | v :: r=>(match r with
    | []=>sw3 kd t u v vs
    | _ :: r=>(match r with
     | []=>some false
     | _ :: _=>none))))
def swp (kd:List (Nat×NameKind))(ts:List T)(e:E):Option Bool:=match e with
 | .tup vs _ _=>swT kd ts vs
 | _=>some false
noncomputable def setH:List (Option (Tg×List AV))→Nat→Tg×List AV→List (Option (Tg×List AV))
 | [],_,_=>[]
 | _ :: r,0,c=>some c :: r
 | x :: r,n + 1,c=>x :: setH r n c
noncomputable def getH:List (Option (Tg×List AV))→Nat→Option (Tg×List AV)
 | [],_=>none
 | x :: _,0=>x
 | _ :: r,n + 1=>getH r n
def look (H:List (Option (Tg×List AV))):AV→Option (Tg×List AV)
 | .ref r=>getH H r
 | .nd (.clo _ _) _=>none
 | .nd t xs=>some (t,xs)
 | _=>none
def asStr:AV→Option Str
 | .lit k=>some (nm k)
 | .str s=>some s
 | _=>none
noncomputable def zipA:List Nat→List AV→List (Nat×AV)
 | x :: xs,v :: vs=>(x,v) :: zipA xs vs
 | _,_=>[]
noncomputable def one {α:Type}:List α→Option α
 | []=>none
 | a :: r=>match r with
  | []=>some a
  | _ :: _=>none
def insQ (q:Tg×List AV):Option (Nat×AV):=match q.1 with | .ins C=>(one q.2).map fun d=>(C,d) | _=>none
noncomputable def idcQ (q:Tg×List AV):Option (List Nat×List AV):=match q.1 with | .idc ns=>some (ns,q.2) | _=>none
noncomputable def celQ (q:Tg×List AV):Option (List AV):=match q.1 with | .cell=>some q.2 | _=>none
noncomputable def lstQ (q:Tg×List AV):Option (List AV):=match q.1 with | .lst=>some q.2 | _=>none
noncomputable def tupQ (q:Tg×List AV):Option (List AV):=match q.1 with | .tup=>some q.2 | _=>none
noncomputable def dctQ (q:Tg×List AV):Option (List Str×List AV):=match q.1 with | .dct ks=>some (ks,q.2) | _=>none
def insOf (H:List (Option (Tg×List AV)))(a:AV):Option (Nat×AV):=(look H a).bind insQ
def idcOf (H:List (Option (Tg×List AV)))(a:AV):Option (List Nat×List AV):=(look H a).bind idcQ
def lstOf (H:List (Option (Tg×List AV)))(a:AV):Option (List AV):=(look H a).bind lstQ
def tupOf (H:List (Option (Tg×List AV)))(a:AV):Option (List AV):=(look H a).bind tupQ
def dctOf (H:List (Option (Tg×List AV)))(a:AV):Option (List Str×List AV):=(look H a).bind dctQ
noncomputable def refA:AV→Option Nat
 | .ref r=>some r
 | _=>none
noncomputable def boolA:AV→Option Bool
 | .bool b=>some b
 | _=>none
noncomputable def nonA:AV→Bool
 | .none=>true
 | _=>false
def cloT (cs:List AV):Tg→Option (Nat×List (Nat×AV))
 | .clo f ns=>some (f,zipA ns cs)
 | _=>none
def cloA:AV→Option (Nat×List (Nat×AV))
 | .nd t cs=>cloT cs t
 | _=>none
noncomputable abbrev R:=Option (Out×St)
def fin (s:St)(r:R):R:=r.map fun q=>(q.1,{q.2 with obl:=q.2.obl ++ s.obl})
noncomputable def clr (s:St):St:={s with obl:=[]}
def bv (r:R)(k:AV→St→R):R:=match r with
 | some (.v a,s)=>fin s (k a (clr s))
 | some (.ex n,s)=>some (.ex n,s)
 | _=>none
def bvs (r:R)(k:List AV→St→R):R:=match r with
 | some (.vs a,s)=>fin s (k a (clr s))
 | some (.ex n,s)=>some (.ex n,s)
 | _=>none
def bb (r:R)(k:Bool→St→R):R:=match r with
 | some (.b a,s)=>fin s (k a (clr s))
 | some (.ex n,s)=>some (.ex n,s)
 | _=>none
structure Cf where
 pol:Pos→Bool:=fun _=>false
 spc:Nat→Bool:=fun _=>false
 SP:Nat→List AV→List (Option (Tg×List AV))→AV→Prop:=fun _ _ _ _=>False
 eff:Nat→List AV→List (Option (Tg×List AV))→List (Option (Tg×List AV)):=fun _ _ H=>H
 lim:Nat:=900
 frz:Pos→Bool:=fun _=>false
def pr (c:Cf)(p:Pos)(r:Option AV)(s:St):R:=match c.pol p with
 | true=>(match s.orc with
  | w :: o=>some (.v w,{s with orc:=o,obl:=(r=some w) :: s.obl})
  | []=>none)
 | false=>match r with
  | some w=>some (.v w,s)
  | none=>none
def attrOf (H:List (Option (Tg×List AV)))(a:AV)(n:Nat):Option AV:=(insOf H a).bind fun y=>gd (attOk y.1 n) ((idcOf H y.2).bind fun z=>lkA n (zipA z.1 z.2))
noncomputable def putF:Nat→AV→List Nat→List AV→List Nat×List AV
 | n,v,m :: ms,x :: xs=>match Nat.beq n m with
  | true=>(m :: ms,v :: xs)
  | false=>let r:=putF n v ms xs;(m :: r.1,x :: r.2)
 | n,v,_,_=>([n],[v])
noncomputable def dget:List Str→List AV→Str→Option AV
 | k :: ks,x :: xs,s=>if k=s then some x else dget ks xs s
 | _,_,_=>none
noncomputable def dput:List Str→List AV→Str→AV→List Str×List AV
 | k :: ks,x :: xs,s,v=>if k=s then (k :: ks,v :: xs) else let r:=dput ks xs s v;(k :: r.1,x :: r.2)
 | _,_,s,v=>([s],[v])
noncomputable def intA:AV→Option Int
 | .int i=>some i
 | _=>none
def eqV (a b:AV):Option Bool:=match a with
 | .int i=>(intA b).map fun j=>decide (i=j)
 | .lit k=>(match b with
  | .lit l=>some (Nat.beq k l)
  | b=>(asStr b).map fun t=>decide (nm k=t))
 | .str s=>(asStr b).map fun t=>decide (s=t)
 | _=>none
def memV:AV→List AV→Option Bool
 | _,[]=>some false
 | a,x :: xs=>match eqV a x with
  | some true=>some true
  | some false=>memV a xs
  | none=>none
noncomputable def intsOf:List AV→Option (List Int)
 | []=>some []
 | .int i :: xs=>(intsOf xs).map (i :: ·)
 | _=>none
noncomputable def rawA:AV→Bool
 | .raw _=>true
 | _=>false
def inV (H:List (Option (Tg×List AV)))(a b:AV):Option Bool:=oe (tupOf H b) (fun xs=>bif (asStr a).isSome && xs.all (fun y=>(asStr y).isSome) then memV a xs else (intA a).bind fun i=>(intsOf xs).map fun js=>js.any (· == i))
 (oe (dctOf H b) (fun y=>(asStr a).map fun s=>(dget y.1 y.2 s).isSome) ((asStr a).bind fun s=>(asStr b).map fun t=>!(Builtin.Str.occurrences t s 0 t.length 1).isEmpty))
def cmpB (H:List (Option (Tg×List AV)))(op:CmpOp)(a b:AV):Option Bool:=match op with
 | .Eq=>eqV a b
 | .NotEq=>(eqV a b).map fun x=>!x
 | .Lt=>(intA a).bind fun i=>(intA b).map fun j=>decide (i < j)
 | .Gt=>(intA a).bind fun i=>(intA b).map fun j=>decide (j < i)
 | .Is=>gd (nonA b && !rawA a) (some (nonA a))
 | .IsNot=>gd (nonA b && !rawA a) (some (!nonA a))
 | .In=>inV H a b
 | .NotIn=>(dctOf H b).bind fun y=>(asStr a).map fun s=>!(dget y.1 y.2 s).isSome
 | _=>none
def cmpV (H:List (Option (Tg×List AV)))(op:CmpOp)(a b:AV):Option AV:=(cmpB H op a b).map .bool
def catA (a b:AV):Option AV:=(asStr a).bind fun s=>(asStr b).bind fun t=>if s.length + t.length≤100000 then some (.str (s ++ t)) else none
def binV (op:Operator)(a b:AV):Option AV:=match op with
 | .Add=>(match intA a with
  | some i=>(intA b).map fun j=>.int (i + j)
  | none=>catA a b)
 | .Sub=>(intA a).bind fun i=>(intA b).map fun j=>.int (i - j)
 | .Mult=>(intA a).bind fun i=>(intA b).bind fun j=>if i.natAbs < 1000∧j.natAbs < 1000000 then some (.int (i * j)) else none
 | .Mod=>(intA a).bind fun i=>(intA b).bind fun j=>if j=0 then none else some (.int (Int.fmod i j))
 | _=>none
noncomputable def idx (xs:List AV)(i:Int):Option AV:=if -1000000 < i∧i < 1000000 then (if 0≤i then xs[i.toNat]? else if 0≤i + xs.length then xs[(i + xs.length).toNat]? else none) else none
def subV (H:List (Option (Tg×List AV)))(o i:AV):Option AV:=oe (tupOf H o) (fun xs=>(intA i).bind (idx xs))
 (oe (lstOf H o) (fun xs=>(intA i).bind (idx xs))
 (oe (dctOf H o) (fun y=>(asStr i).bind (dget y.1 y.2))
 ((asStr o).bind fun s=>(intA i).bind fun i=>if 0≤i∧i < 1000000 then (s.cps[i.toNat]?).map fun c=>.str ⟨#[c]⟩ else none)))
noncomputable def bounds (n:Nat)(lo hi:Option Int):Option (Nat×Nat):=match lo with
 | none=>hi.bind fun j=>if 0≤j then some (0,min j.toNat n) else none
 | some i=>match hi with
  | none=>if 0≤i then some (min i.toNat n,n) else none
  | some _=>none
noncomputable def slStr (s:Str)(lo hi:Option Int):Option AV:=if s.length≤100000 then some (.str (Txt.slice s lo hi)) else none
def prtA:List AV→Option (Option Int)
 | []=>some none
 | a :: _=>(intA a).map some
noncomputable def plnA:AV→Bool
 | .none | .bool _ | .int _ | .lit _ | .str _=>true
 | _=>false
def seqOf (H:List (Option (Tg×List AV)))(v:AV):Option (List AV):=oe (tupOf H v) some (lstOf H v)
def typC (H:List (Option (Tg×List AV)))(a:AV):Option Bool:=bif plnA a then some false else (seqOf H a).map fun _=>false
def two {α:Type}:List α→Option (α×α)
 | []=>none
 | e :: r=>(one r).map fun f=>(e,f)
noncomputable def isK1:AV→Bool
 | .kls k=>Nat.beq k 1
 | _=>false
def isi1 (l:List AV):Option AV:=(two l).bind fun q=>gd (isK1 q.2) (some q.1)
noncomputable def lenN (n:Nat):Option AV:=if n≤1000000 then some (.int n) else none
def lenA (H:List (Option (Tg×List AV)))(a:AV):Option AV:=oe (tupOf H a) (fun xs=>lenN xs.length) (oe (lstOf H a) (fun xs=>lenN xs.length) ((asStr a).bind fun s=>lenN s.length))
noncomputable def strA (i:Int):Option AV:=if i.natAbs < 10000 then some (.str (Str.ofString (toString i))) else none
def calB (H:List (Option (Tg×List AV)))(b:Bi)(as:List AV):Option AV:=match b with
 | .len=>(one as).bind (lenA H)
 | .str=>((one as).bind intA).bind strA
 | .int=>((one as).bind intA).map .int
 | .abs=>((one as).bind intA).map fun i=>.int i.natAbs
 | .isi=>(isi1 as).bind fun a=>(typC H a).map .bool
 | _=>none
inductive Tk where
 | ex (e:E) | exs (es:List E) | tr (e:E) | trs (isAnd:Bool) (es:List E)
 | st (s:S) | sts (ss:List S)
 | cal (f:Nat) (as:List AV) (cel:List (Nat×AV))
 | asn (ts:List T) (vs:List AV)
 | whl (t:E) (b:List S)
noncomputable def alloc (c:Tg×List AV)(s:St):R:=some (.v (.ref s.H.length),{s with H:=s.H ++ [some c]})
noncomputable def popAt:List AV→Nat→Option (AV×List AV)
 | [],_=>none
 | x :: xs,0=>some (x,xs)
 | x :: xs,n + 1=>(popAt xs n).map fun p=>(p.1,x :: p.2)
noncomputable def lastOf:List AV→Option (AV×List AV)
 | []=>none
 | [x]=>some (x,[])
 | x :: xs=>(lastOf xs).map fun p=>(p.1,x :: p.2)
def chk (c:Cf)(p:Pos)(q:Prop) [Decidable q] (s:St)(k:St→R):R:=match c.pol p with
 | true=>fin {s with obl:=q :: s.obl} (k (clr s))
 | false=>gd (decide q) (fin s (k (clr s)))
def prP (c:Cf)(p:Pos)(r:Option (AV×List AV))(s:St)(k:AV→List AV→St→R):R:=match c.pol p with
 | true=>(match s.orc with
  | w :: y :: o=>(match y with
   | .nd _ ys=>fin {s with obl:=(r=some (w,ys)) :: s.obl} (k w ys {s with orc:=o,obl:=[]})
   | _=>none)
  | _=>none)
 | false=>r.bind fun q=>fin s (k q.1 q.2 (clr s))
noncomputable abbrev small (xs:List AV):Prop:=xs.length≤5000
def methS (c:Cf)(p:Pos)(t:Str)(vs:List AV)(s:St):R:=(one vs).bind fun b=>(asStr b).bind fun u=>pr c p (some (.int (Txt.find t u))) s
def mAppend (c:Cf)(p:Pos)(r:Nat)(xs vs:List AV)(s:St):R:=(one vs).bind fun v=>chk c p (small xs) s fun s=>some (.v .none,{s with H:=setH s.H r (.lst,xs ++ [v])})
def mPop (c:Cf)(p:Pos)(r:Nat)(xs vs:List AV)(s:St):R:=bif vs.isEmpty then chk c p (small xs) s fun s=>prP c p (lastOf xs) s fun v ys s=>some (.v v,{s with H:=setH s.H r (.lst,ys)})
 else ((one vs).bind intA).bind fun i=>gd (decide (0≤i∧i < 5000)) (chk c p (small xs) s fun s=>prP c p (popAt xs i.toNat) s fun v ys s=>some (.v v,{s with H:=setH s.H r (.lst,ys)}))
def mExtend (c:Cf)(p:Pos)(r:Nat)(xs vs:List AV)(s:St):R:=(one vs).bind fun b=>(lstOf s.H b).bind fun ys=>chk c p (small (xs ++ ys)) s fun s=>some (.v .none,{s with H:=setH s.H r (.lst,xs ++ ys)})
def methL (c:Cf)(p:Pos)(m:Nat)(a:AV)(vs:List AV)(s:St):R:=(refA a).bind fun r=>(lstOf s.H a).bind fun xs=>
 bif Nat.beq m 19 then mAppend c p r xs vs s else bif Nat.beq m 20 then mPop c p r xs vs s else mExtend c p r xs vs s
def optE (f:E→R)(s:St):Option E→R
 | some e=>bv (f e) fun v s=>some (.vs [v],s)
 | none=>some (.vs [],s)
def setAt (a:AV)(n:Nat)(v:AV)(s:St):Option St:=(insOf s.H a).bind fun y=>(refA y.2).bind fun d=>(idcOf s.H y.2).bind fun z=>gd (Nat.ble z.1.length 50 && attOk y.1 n) (some {s with H:=setH s.H d (.idc (putF n v z.1 z.2).1,(putF n v z.1 z.2).2)})
noncomputable def isLst:Bi→Bool
 | .list=>true
 | _=>false
noncomputable def isRng:Bi→Bool
 | .range=>true
 | _=>false
def rngE:E→Option E
 | .calb b _ as _=>gd (isRng b) (one as)
 | _=>none
def rngOf (b:Bi)(as:List E):Option E:=gd (isLst b) ((one as).bind rngE)
noncomputable def isAdd:Operator→Bool
 | .Add=>true
 | _=>false
noncomputable def cstA:E→Option AV
 | .cst a _=>some a
 | _=>none
def cst2 (vs:List E):Option (AV×AV):=(two vs).bind fun q=>(cstA q.1).bind fun a=>(cstA q.2).map fun b=>(a,b)
def dic2 (ks:List (Nat×Pos))(vs:List E)(s:St):R:=(two ks).bind fun k=>(cst2 vs).bind fun q=>gd (litC q.1 && (litC q.2 && !Nat.beq k.1.1 k.2.1)) (alloc (.dct [nm k.1.1,nm k.2.1],[q.1,q.2]) s)
def evEx (c:Cf)(rec:Tk→St→R)(e:E)(s:St):R:=match e with
   | .cst a _=>gd (litC a) (some (.v a,s))
   | .loc x _=>gd (isL s.kd x) ((lkA x s.loc).map fun a=>(.v a,s))
   | .cel x _=>gd (isC s.kd x || isF s.kd x) ((lkA x s.cel).bind fun a=>(look s.H a).bind fun q=>((celQ q).bind one).map fun v=>(.v v,s))
   | .glb x _=>gd (isG s.kd x) ((gls x).map fun a=>(.v a,s))
   | .cls k _=>gd (isG s.kd (cnm k) && Nat.ble k 6) (some (.v (.kls k),s))
   | .attr o a p=>gd (noC o) (bv (rec (.ex o) s) fun v s=>pr c p (attrOf s.H v a) s)
   | .calf f _ as _=>gd (isG s.kd (fnm f) && topF f) (bvs (rec (.exs as) s) fun vs s=>rec (.cal f vs []) s)
   | .new k _ as _=>gd (isG s.kd (cnm k) && (Nat.ble 2 k && Nat.ble k 6)) (bvs (rec (.exs as) s) fun vs s=>
     bv (rec (.cal (inis k) (.ref (s.H.length + 1) :: vs) []) {s with H:=s.H ++ [some (.idc [],[]),some (.ins k,[.ref s.H.length])]}) fun v s'=>gd (nonA v) (some (.v (.ref (s.H.length + 1)),s')))
   | .calx x _ as _=>gd (isL s.kd x) ((lkA x s.loc).bind fun a=>(cloA a).bind fun q=>bvs (rec (.exs as) s) fun vs s=>rec (.cal q.1 vs q.2) s)
   | .calb b _ as p=>gd (isG s.kd (bnm b)) (oe (rngOf b as) (fun e=>gd (isG s.kd (bnm .range)) (bv (rec (.ex e) s) fun v s=>(intA v).bind fun i=>
       chk c p (0≤i∧i≤1000) s fun s=>alloc (.lst,(List.range i.toNat).map fun k=>.int (Int.ofNat k)) s))
     (bvs (rec (.exs as) s) fun vs s=>pr c p (calB s.H b vs) s))
   | .meth o m ap as p=>gd (noC o && (Nat.ble as.length 5 && Nat.beq ap.endLine p.line)) (bv (rec (.ex o) s) fun a s=>
     oe (insOf s.H a) (fun y=>(idcOf s.H y.2).bind fun z=>(mths y.1 m).bind fun f=>gd (!z.1.any (Nat.beq m)) (bvs (rec (.exs as) s) fun vs s=>rec (.cal f (a :: vs) []) s))
     (oe (lstOf s.H a) (fun _=>gd (Nat.beq m 19 || (Nat.beq m 20 || Nat.beq m 141)) (bvs (rec (.exs as) s) fun vs s=>methL c p m a vs s))
     ((asStr a).bind fun t=>gd (Nat.beq m 202) (bvs (rec (.exs as) s) fun vs s=>methS c p t vs s))))
   | .bin op l r p=>bv (rec (.ex l) s) fun a s=>bv (rec (.ex r) s) fun b s=>oe (lstOf s.H a)
     (fun xs=>gd (isAdd op) ((lstOf s.H b).bind fun ys=>chk c p (small (xs ++ ys)) s fun s=>alloc (.lst,xs ++ ys) s))
     (gd ((look s.H a).isNone && (look s.H b).isNone) (pr c p (binV op a b) s))
   | .unot ..=>none
   | .uneg i _ _=>some (.v (.int (-i)),s)
   | .bop ..=>none
   | .ife t b o _=>bb (rec (.tr t) s) fun q s=>(match q with | true=>rec (.ex b) s | false=>rec (.ex o) s)
   | .cmp op l r p=>bv (rec (.ex l) s) fun a s=>bv (rec (.ex r) s) fun b s=>pr c p (cmpV s.H op a b) s
   | .tup es _ _=>bvs (rec (.exs es) s) fun vs s=>gd (Nat.ble vs.length 1000) (some (.v (.nd .tup vs),s))
   | .lst es p=>bvs (rec (.exs es) s) fun vs s=>gd (Nat.ble vs.length 1000) (bif c.frz p then some (.v (.nd .lst vs),s) else alloc (.lst,vs) s)
   | .dic ks vs _=>bif ks.isEmpty && vs.isEmpty then alloc (.dct [],[]) s else dic2 ks vs s
   | .sub o i p=>bv (rec (.ex o) s) fun a s=>bv (rec (.ex i) s) fun b s=>pr c p (subV s.H a b) s
   | .slc o lo hi _ p=>bv (rec (.ex o) s) fun a s=>
     bvs (optE (fun e=>rec (.ex e) s) s lo) fun l s=>
     bvs (optE (fun e=>rec (.ex e) s) s hi) fun h s=>oe (lstOf s.H a)
      (fun xs=>chk c p (small xs) s fun s=>(prtA l).bind fun lo=>(prtA h).bind fun hi=>(bounds xs.length lo hi).bind fun q=>bif c.frz p then some (.v (.nd .lst ((xs.take q.2).drop q.1)),s) else alloc (.lst,(xs.take q.2).drop q.1) s)
      ((asStr a).bind fun t=>pr c p ((prtA l).bind fun lo=>(prtA h).bind fun hi=>slStr t lo hi) s)
   | .cmpr ..=>none
def evExs (c:Cf)(rec:Tk→St→R)(es:List E)(s:St):R:=match es with
   | []=>some (.vs [],s)
   | e :: es=>bv (rec (.ex e) s) fun v s=>bvs (rec (.exs es) s) fun vs s=>some (.vs (v :: vs),s)
def evTr (c:Cf)(rec:Tk→St→R)(e:E)(s:St):R:=match e with
   | .unot e _=>bb (rec (.tr e) s) fun b s=>some (.b (!b),s)
   | .cmp op l r p=>bv (rec (.ex l) s) fun a s=>bv (rec (.ex r) s) fun b s=>bv (pr c p (cmpV s.H op a b) s) fun v s=>(boolA v).map fun b=>(.b b,s)
   | .bop k es _=>rec (.trs k es) s
   | .ife ..=>none
   | e=>bv (rec (.ex e) s) fun v s=>(boolA v).map fun b=>(.b b,s)
def evTrs (c:Cf)(rec:Tk→St→R)(k:Bool)(es:List E)(s:St):R:=match es with
   | []=>some (.b k,s)
   | e :: es=>bb (rec (.tr e) s) fun b s=>(match k,b with
    | true,false=>some (.b false,s)
    | false,true=>some (.b true,s)
    | k,_=>rec (.trs k es) s)
def celR (s:St)(x:Nat):Option Nat:=(gd (isC s.kd x) (lkA x s.cel)).bind fun a=>(refA a).bind fun r=>(getH s.H r).bind fun q=>(celQ q).map fun _=>r
def raiA (vs:List AV):Option Int:=match vs with
 | []=>none
 | a :: r=>(intA a).bind fun i=>bif Nat.ble r.length 1 then some i else none
def bakO (s:St)(o:Out)(s':St):R:=match o with
 | .rt v=>some (.v v,{s' with kd:=s.kd,loc:=s.loc,cel:=s.cel})
 | .nx=>some (.v .none,{s' with kd:=s.kd,loc:=s.loc,cel:=s.cel})
 | .ex i=>some (.ex i,{s' with kd:=s.kd,loc:=s.loc,cel:=s.cel})
 | _=>none
def bn (r:R)(k:St→R):R:=r.bind fun q=>match q.1 with
 | .nx=>fin q.2 (k (clr q.2))
 | .rt v=>some (.rt v,q.2)
 | .ex i=>some (.ex i,q.2)
 | _=>none
def evSt (c:Cf)(rec:Tk→St→R)(t:S)(s:St):R:=match t with
   | .expr e _=>bv (rec (.ex e) s) fun _ s=>some (.nx,s)
   | .ret e _=>bv (rec (.ex e) s) fun v s=>some (.rt v,s)
   | .pass _=>some (.nx,s)
   | .asg x _ e _=>gd (isL s.kd x) (bv (rec (.ex e) s) fun v s=>some (.nx,{s with loc:=stA x v s.loc}))
   | .asc x _ e _=>bv (rec (.ex e) s) fun v s=>(celR s x).map fun r=>(.nx,{s with H:=setH s.H r (.cell,[v])})
   | .asa o a _ e _=>bv (rec (.ex e) s) fun v s=>bv (rec (.ex o) s) fun u s=>(setAt u a v s).map fun s=>(.nx,s)
   | .ass o i _ e p=>bv (rec (.ex e) s) fun v s=>bv (rec (.ex o) s) fun u s=>bv (rec (.ex i) s) fun j s=>(refA u).bind fun r=>oe (lstOf s.H u)
     (fun xs=>(intA j).bind fun j=>chk c p (0≤j∧j.toNat < xs.length∧small xs) s fun s=>some (.nx,{s with H:=setH s.H r (.lst,xs.set j.toNat v)}))
     ((dctOf s.H u).bind fun y=>(asStr j).bind fun t=>chk c p (y.1.length≤500) s fun s=>some (.nx,{s with H:=setH s.H r (.dct (dput y.1 y.2 t v).1,(dput y.1 y.2 t v).2)}))
   | .ast ts _ _ e _=>(swp s.kd ts e).bind fun w=>bv (rec (.ex e) s) fun v s=>(seqOf s.H v).bind fun vs=>gd (Nat.beq ts.length vs.length) (bif w then rec (.asn ts.reverse vs.reverse) s else rec (.asn ts vs) s)
   | .aug x _ e _=>gd (isL s.kd x) (((lkA x s.loc).bind intA).bind fun i=>bv (rec (.ex e) s) fun b s=>(intA b).map fun j=>(.nx,{s with loc:=stA x (.int (i + j)) s.loc}))
   | .ifs t b o _=>bb (rec (.tr t) s) fun q s=>(match q with | true=>rec (.sts b) s | false=>rec (.sts o) s)
   | .whl t b _=>rec (.whl t b) s
   | .rais k _ as _ _=>gd (isG s.kd (cnm k) && Nat.beq k 0) (bvs (rec (.exs as) s) fun vs s=>(raiA vs).map fun i=>(.ex i,s))
   | _=>none
def evSts (c:Cf)(rec:Tk→St→R)(ss:List S)(s:St):R:=match ss with
   | []=>some (.nx,s)
   | t :: ts=>bn (rec (.st t) s) fun s=>rec (.sts ts) s
def evCal (c:Cf)(rec:Tk→St→R)(f:Nat)(as:List AV)(cel:List (Nat×AV))(s:St):R:=
 bif c.spc f then (match s.orc with
  | w :: o=>some (.v w,{s with H:=c.eff f as s.H,orc:=o,obl:=c.SP f as s.H w :: s.obl})
  | []=>none)
 else (fns f).bind fun fn=>gd (fn.own.isEmpty && Nat.beq as.length fn.pars.length) ((rec (.sts fn.body) {s with kd:=fn.kd,loc:=zipA fn.pars as,cel:=cel}).bind fun q=>bakO s q.1 q.2)
def asn1 (rec:Tk→St→R)(t:T)(v:AV)(s:St)(k:St→R):R:=match t with
   | .n x _=>gd (isL s.kd x) (k {s with loc:=stA x v s.loc})
   | .c x _=>(celR s x).bind fun r=>k {s with H:=setH s.H r (.cell,[v])}
   | .a o a _=>bv (rec (.ex o) s) fun u s=>(setAt u a v s).bind k
def evAsn (c:Cf)(rec:Tk→St→R)(ts:List T)(vs:List AV)(s:St):R:=match ts with
   | []=>gd vs.isEmpty (some (.nx,s))
   | t :: ts=>match vs with
    | []=>none
    | v :: vs=>asn1 rec t v s fun s=>rec (.asn ts vs) s
def evWhl (c:Cf)(rec:Tk→St→R)(t:E)(b:List S)(s:St):R:=bb (rec (.tr t) s) fun q s=>(match q with
   | true=>bn (rec (.sts b) s) fun s=>rec (.whl t b) s
   | false=>some (.nx,s))
def step (c:Cf)(rec:Tk→St→R):Tk→St→R
 | .ex e,s=>evEx c rec e s
 | .exs es,s=>evExs c rec es s
 | .tr e,s=>evTr c rec e s
 | .trs k es,s=>evTrs c rec k es s
 | .st t,s=>evSt c rec t s
 | .sts ss,s=>evSts c rec ss s
 | .cal f as cel,s=>evCal c rec f as cel s
 | .asn ts vs,s=>evAsn c rec ts vs s
 | .whl t b,s=>evWhl c rec t b s
def ev (c:Cf):Nat→Tk→St→R
 | 0,_,_=>none
 | n + 1,tk,s=>fin s (step c (ev c n) tk {s with obl:=[]})
section
variable {H:List (Option (Tg×List AV))}{a:AV}
theorem one_eq {α:Type}{l:List α}{a:α}(h:one l=some a):l= [a]:=by
 cases l with
 | nil=>exact noS h
 | cons b l=>
  cases l with
  | nil=>exact congrArg (fun x=>[x]) (Option.some.inj h)
  | cons=>exact noS h
theorem two_eq {α:Type}{l:List α}{q:α×α}(h:two l=some q):l= [q.1,q.2]:=by
 cases l with
 | nil=>exact noS h
 | cons b l=>exact oM h fun c e q=>re q (congrArg (List.cons b) (one_eq e))
theorem lq {α β:Type}{g:β→α}{f:α→Option β}{o:Option α}{b:β}(h:o.bind f=some b)(hf:∀q,f q=some b→q=g b):o=some (g b):=oB h fun q e h=>e.trans (congrArg some (hf q h))
theorem insOf_eq {y:Nat×AV}(h:insOf H a=some y):look H a=some (.ins y.1,[y.2]):=lq (g:=fun y=>(.ins y.1,[y.2])) h fun q e=>by
 obtain ⟨t,xs⟩:=q
 cases t with
 | ins C=>exact oM e fun d e q=>re q (congrArg (Prod.mk (Tg.ins C)) (one_eq e))
 | _=>exact noS e
theorem idcOf_eq {y:List Nat×List AV}(h:idcOf H a=some y):look H a=some (.idc y.1,y.2):=lq (g:=fun y=>(.idc y.1,y.2)) h fun q e=>by
 obtain ⟨t,xs⟩:=q
 cases t with
 | idc C=>exact re (Option.some.inj e) rfl
 | _=>exact noS e
theorem dctOf_eq {y:List Str×List AV}(h:dctOf H a=some y):look H a=some (.dct y.1,y.2):=lq (g:=fun y=>(.dct y.1,y.2)) h fun q e=>by
 obtain ⟨t,xs⟩:=q
 cases t with
 | dct C=>exact re (Option.some.inj e) rfl
 | _=>exact noS e
theorem lstOf_some {y:List AV}(h:lstOf H a=some y):look H a=some (.lst,y):=lq (g:=fun y=>(.lst,y)) h fun q e=>by
 obtain ⟨t,xs⟩:=q
 cases t with
 | lst=>exact re (Option.some.inj e) rfl
 | _=>exact noS e
theorem tupOf_eq {y:List AV}(h:tupOf H a=some y):look H a=some (.tup,y):=lq (g:=fun y=>(.tup,y)) h fun q e=>by
 obtain ⟨t,xs⟩:=q
 cases t with
 | tup=>exact re (Option.some.inj e) rfl
 | _=>exact noS e
theorem celQ_eq {q:Tg×List AV}{y:List AV}(e:celQ q=some y):q=(.cell,y):=by
 obtain ⟨t,xs⟩:=q
 cases t with
 | cell=>exact re (Option.some.inj e) rfl
 | _=>exact noS e
theorem refA_eq {r:Nat}(h:refA a=some r):a=.ref r:=by
 cases a with
 | ref=>exact congrArg _ (Option.some.inj h)
 | _=>exact noS h
theorem boolA_eq {r:Bool}(h:boolA a=some r):a=.bool r:=by
 cases a with
 | bool=>exact congrArg _ (Option.some.inj h)
 | _=>exact noS h
theorem nonA_eq (h:nonA a=true):a=.none:=by
 cases a with
 | none=>rfl
 | _=>exact noB h
theorem isK1_eq (h:isK1 a=true):a=.kls 1:=by
 cases a with
 | kls k=>exact congrArg _ (Nat.eq_of_beq_eq_true h)
 | _=>exact noB h
theorem intA_eq {i:Int}(h:intA a=some i):a=.int i:=by
 cases a with
 | int j=>exact congrArg _ (Option.some.inj h)
 | _=>exact noS h
end
def decC:AV→Const
 | .none=>.none
 | .bool b=>.bool b
 | .int i=>.int i
 | .lit k=>.str (nm k)
 | _=>.ellipsis
def csc (l:Nat):Scope:={kind:=.function,names:=csn l,isGenerator:=false,isCoroutine:=false}
mutual
def dec:E→PySem.Expr
 | .cst c p=>.Constant (decC c) 0 p
 | .loc x p=>.Name (nm x) p
 | .cel x p=>.Name (nm x) p
 | .glb x p=>.Name (nm x) p
 | .cls c p=>.Name (nm (cnm c)) p
 | .attr o a p=>.Attribute (dec o) (nm a) p
 | .calf f fp as p=>.Call (.Name (nm (fnm f)) fp) (decs as) [] p
 | .new c fp as p=>.Call (.Name (nm (cnm c)) fp) (decs as) [] p
 | .calx x xp as p=>.Call (.Name (nm x) xp) (decs as) [] p
 | .calb b fp as p=>.Call (.Name (nm (bnm b)) fp) (decs as) [] p
 | .meth o m ap as p=>.Call (.Attribute (dec o) (nm m) ap) (decs as) [] p
 | .bin op l r p=>.BinOp (dec l) op (dec r) p
 | .unot e p=>.UnaryOp .Not (dec e) p
 | .uneg i cp p=>.UnaryOp .USub (.Constant (.int i) 0 cp) p
 | .bop k es p=>.BoolOp (match k with | true=>.And | false=>.Or) (decs es) p
 | .ife t b o p=>.IfExp (dec t) (dec b) (dec o) p
 | .cmp op l r p=>.Compare (dec l) [op] [dec r] p
 | .tup es k p=>.Tuple (decs es) k p
 | .lst es p=>.List (decs es) p
 | .dic ks vs p=>.Dict (ks.map fun k=>some (.Constant (.str (nm k.1)) 0 k.2)) (decs vs) p
 | .sub o i p=>.Subscript (dec o) (dec i) p
 | .slc o lo hi sp p=>.Subscript (dec o) (.Slice (deco lo) (deco hi) none sp) p
 | .cmpr elt x xp it sc p=>.ListComp (dec elt) [⟨.Name (nm x) xp,dec it,[],0⟩] (csc sc) p
def decs:List E→List PySem.Expr
 | []=>[]
 | e :: es=>dec e :: decs es
def deco:Option E→Option PySem.Expr
 | none=>none
 | some e=>some (dec e)
end
def decT:T→PySem.Expr
 | .n x p=>.Name (nm x) p
 | .c x p=>.Name (nm x) p
 | .a o a p=>.Attribute (dec o) (nm a) p
mutual
def decS:S→PySem.Stmt
 | .expr e p=>.Expr (dec e) p
 | .ret e p=>.Return (some (dec e)) p
 | .pass p=>.Pass p
 | .asg x xp e p=>.Assign [.Name (nm x) xp] (dec e) p
 | .asc x xp e p=>.Assign [.Name (nm x) xp] (dec e) p
 | .asa o a ap e p=>.Assign [.Attribute (dec o) (nm a) ap] (dec e) p
 | .ass o i sp e p=>.Assign [.Subscript (dec o) (dec i) sp] (dec e) p
 | .ast ts k tp e p=>.Assign [.Tuple (ts.map decT) k tp] (dec e) p
 | .aug x xp e p=>.AugAssign (.Name (nm x) xp) .Add (dec e) p
 | .ifs t b o p=>.If (dec t) (decSs b) (decSs o) p
 | .whl t b p=>.While (dec t) (decSs b) [] p
 | .forl x xp it b p=>.For (.Name (nm x) xp) (dec it) (decSs b) [] p
 | .forp x xp y yp k tp it b p=>.For (.Tuple [.Name (nm x) xp,.Name (nm y) yp] k tp) (dec it) (decSs b) [] p
 | .rais c cp as q p=>.Raise (some (.Call (.Name (nm (cnm c)) cp) (decs as) [] q)) none p
 | .tryx b c cp x h hp p=>.Try (decSs b) [.ExceptHandler (some (.Name (nm (cnm c)) cp)) (some (nm x)) (decSs h) hp] [] [] p
 | .defn _=>.Pass ⟨0,0,0,0⟩
def decSs:List S→List PySem.Stmt
 | []=>[]
 | s :: ss=>decS s :: decSs ss
end
structure FdOk (fd:FuncData) (fn:Fn):Prop where
 body:fd.body=.stmts (decSs fn.body)
 glo:fd.globals=mainGlobals
 blt:fd.builtins=builtinsNs
 kind:fd.scope.kind=.function
 gen:fd.scope.isGenerator=false
 co:fd.scope.isCoroutine=false
 cell:∀x∈fd.scope.names,x.2≠.cell
 kd:∀n k,lkK n fn.kd=some k→fd.scope.names.lookup (nm n)=some k
 loc:∀p∈fn.pars,lkK p fn.kd=some .local
 nd:fn.pars.Nodup
 bind:∀vs,vs.length=fn.pars.length→bindArgs fd ⟨vs,[]⟩=pure ((fn.pars.map nm).zip vs)
theorem tnd:(tbl.map fun s=>(Str.ofString s).cps.toList).Nodup:=List.Pairwise.of_map (List.foldl (fun n c=>n * 2097152 + c + 1) 0) (fun a b h e=>h (congrArg _ e)) (show List.Nodup ((tbl.map fun s=>(Str.ofString s).cps.toList).map (List.foldl (fun n c=>n * 2097152 + c + 1) 0)) by decide +kernel)
theorem tc:(tbl.all fun s=>(Str.ofString s).cps.toList.all (· < 1114112))=true:=by decide +kernel
theorem nm_lt {k:Nat}{s:String}(h:tbl[k]? =some s):nm k=Str.ofString s:=by unfold nm;exact er h rfl
theorem nm_ge {k:Nat}(h:tbl[k]? =none):nm k=⟨#[1114112 + k]⟩:=by unfold nm;exact er h rfl
theorem nm_inj {a b:Nat}(h:nm a=nm b):a=b:=by
 cases ha:tbl[a]? with
 | none=>
  cases hb:tbl[b]? with
  | none=>
   rw [nm_ge ha,nm_ge hb] at h
   have:=congrArg (fun s:Str=>s.cps.toList) h
   simp at this
   exact this
  | some s=>
   rw [nm_ge ha,nm_lt hb] at h
   have q:=List.all_eq_true.mp tc s (List.mem_of_getElem? hb)
   rw [←h] at q
   simp at q
   exact o58 q
 | some s=>
  cases hb:tbl[b]? with
  | none=>
   rw [nm_lt ha,nm_ge hb] at h
   have q:=List.all_eq_true.mp tc s (List.mem_of_getElem? ha)
   rw [h] at q
   simp at q
   exact o59 q
  | some t=>
   rw [nm_lt ha,nm_lt hb] at h
   obtain ⟨la,ea⟩:=List.getElem?_eq_some_iff.mp ha
   obtain ⟨lb,eb⟩:=List.getElem?_eq_some_iff.mp hb
   have q:=tnd
   have la':a < (tbl.map fun s=>(Str.ofString s).cps.toList).length:=by rw [List.length_map];exact la
   have lb':b < (tbl.map fun s=>(Str.ofString s).cps.toList).length:=by rw [List.length_map];exact lb
   refine (List.getElem_inj (h₀:=la') (h₁:=lb') q).mp ?_
   rw [List.getElem_map,List.getElem_map,ea,eb,h]
inductive Ents:List Nat→List Value→List DictEntry→Prop
 | nil:Ents [] [] []
 | cons {n:Nat} {v:Value} {e:DictEntry} {ns:List Nat} {vs:List Value} {es:List DictEntry} (t:Tok) (hk:e.key=.str (nm n) t) (hv:e.val=v) (r:Ents ns vs es):Ents (n :: ns) (v :: vs) (e :: es)
noncomputable def cad:Nat→Addr
 | 0=>34 | 1=>47 | 2=>96 | 3=>243 | 4=>313 | 5=>334 | 6=>416 | _=>0
def CloIs (Z:Heap)(a:Addr)(f:Nat)(ns:List Nat)(vs:List Value):Prop:=
 ∃o fd fn cs,Z.get? a=some o∧o.cls=.type "function"∧o.data=.func fd∧fns f=some fn∧FdOk fd fn∧Z.CodeRec fd.code fd.qualname∧vs=cs.map .ref∧ns.length=cs.length∧ns.Nodup∧∀n∈ns,fd.closure.lookup (nm n)=((ns.zip cs).lookup n)
section
variable (prog:Program)(w:World)
def OIs (t:Tg)(vs:List Value)(o:Obj):Prop:=match t with
 | .tup=>∃n,o= {cls:=.type "tuple",data:=.seq vs.toArray n}
 | .lst=>∃n,o= {cls:=.type "list",data:=.seq vs.toArray n}
 | .ins C=>∃d,vs= [.ref d]∧o=instObj (cad C) d
 | .idc ns=>∃es n,o=dictOf es n∧Ents ns vs es
 | .dct ks=>ks.length=vs.length∧o.IsDictOf (strKind prog w) (ks.zip vs)
 | .clo _ _=>False
 | .cell=>∃v,o.data=.cell v∧v.toList=vs
 | .rng=>∃v,vs= [v]∧o= {cls:=.none,data:=.fields #[rawInt 364,rawInt 4,v]}
 | .obj o'=>vs= []∧o=o'
def ObjIs (h:Heap)(a:Addr)(t:Tg)(vs:List Value):Prop:=(a == sysModules)=false∧∃o,h.get? a=some o∧OIs prog w t vs o
mutual
inductive Val (Z:Heap) (ad:List Addr):AV→Value→Prop
 | none:Val Z ad .none .none
 | bool {b:Bool}:Val Z ad (.bool b) (.bool b)
 | int {i:Int} {t:Tok}:Val Z ad (.int i) (.int i t)
 | lit {k:Nat} {t:Tok}:Val Z ad (.lit k) (.str (nm k) t)
 | str {s:Str} {t:Tok}:Val Z ad (.str s) (.str s t)
 | ref {r:Nat} {a:Addr} (h:ad[r]? =some a):Val Z ad (.ref r) (.ref a)
 | kls {k:Nat}:Val Z ad (.kls k) (.ref (cad k))
 | raw {v:Value} (h:handedIn v=true):Val Z ad (.raw v) v
 | nd {t:Tg} {xs:List AV} {a:Addr} {vs:List Value} (h:ObjIs prog w Z a t vs) (hs:Vals Z ad xs vs):Val Z ad (.nd t xs) (.ref a)
 | clo {f:Nat} {ns:List Nat} {xs:List AV} {a:Addr} {vs:List Value} (h:CloIs Z a f ns vs) (hs:Vals Z ad xs vs):Val Z ad (.nd (.clo f ns) xs) (.ref a)
inductive Vals (Z:Heap) (ad:List Addr):List AV→List Value→Prop
 | nil:Vals Z ad [] []
 | cons {x:AV} {v:Value} {xs:List AV} {vs:List Value} (h:Val Z ad x v) (r:Vals Z ad xs vs):Vals Z ad (x :: xs) (v :: vs)
end
end
section
variable (prog:Program)(w:World)
def NdIs (Z:Heap)(a:Addr)(t:Tg)(vs:List Value):Prop:=match t with
 | .clo f ns=>CloIs Z a f ns vs
 | _=>ObjIs prog w Z a t vs
def VI (Z:Heap)(ad:List Addr)(a:AV)(v:Value):Prop:=match a with
 | .none=>v=.none
 | .bool b=>v=.bool b
 | .int i=>∃t,v=.int i t
 | .lit k=>∃t,v=.str (nm k) t
 | .str s=>∃t,v=.str s t
 | .ref r=>∃a,v=.ref a∧ad[r]? =some a
 | .kls k=>v=.ref (cad k)
 | .raw u=>v=u∧handedIn u=true
 | .nd t xs=>∃a vs,v=.ref a∧NdIs prog w Z a t vs∧Vals prog w Z ad xs vs
noncomputable def VIs (Z:Heap)(ad:List Addr)(as:List AV)(vs:List Value):Prop:=match as with
 | []=>vs= []
 | x :: xs=>∃v us,vs=v :: us∧Val prog w Z ad x v∧Vals prog w Z ad xs us
end
section
variable {prog:Program}{w:World}
theorem NdIs.of {Z:Heap}{a:Addr}{t:Tg}{vs:List Value}(h:ObjIs prog w Z a t vs):NdIs prog w Z a t vs:=by
 cases t <;> first | exact h | exact h.2.elim fun _ q=>q.2.elim
theorem Val.inv {Z:Heap}{ad:List Addr}{a:AV}{v:Value}(h:Val prog w Z ad a v):VI prog w Z ad a v:=
 Val.rec (motive_1:=fun a v _=>VI prog w Z ad a v) (motive_2:=fun _ _ _=>True) rfl rfl ⟨_,rfl⟩ ⟨_,rfl⟩ ⟨_,rfl⟩ (fun h=>(I11 _ rfl h)) rfl (fun h=>⟨rfl,h⟩) (fun h hs _=>(I22 _ _ rfl (.of h) hs)) (fun h hs _=>(I22 _ _ rfl h hs)) ⟨⟩ (fun _ _ _ _=>⟨⟩) h
theorem Vals.inv {Z:Heap}{ad:List Addr}{a:List AV}{v:List Value}(h:Vals prog w Z ad a v):VIs prog w Z ad a v:=
 Vals.rec (motive_1:=fun _ _ _=>True) (motive_2:=fun a v _=>VIs prog w Z ad a v) ⟨⟩ ⟨⟩ ⟨⟩ ⟨⟩ ⟨⟩ (fun _=>⟨⟩) ⟨⟩ (fun _=>⟨⟩) (fun _ _ _=>⟨⟩) (fun _ _ _=>⟨⟩) rfl (fun h hs _ _=>(I22 _ _ rfl h hs)) h
theorem Val.ofNd {Z:Heap}{ad:List Addr}{a:Addr}{t:Tg}{xs:List AV}{vs:List Value}(h:NdIs prog w Z a t vs)(hs:Vals prog w Z ad xs vs):Val prog w Z ad (.nd t xs) (.ref a):=by
 cases t <;> first | exact .clo h hs | exact .nd h hs
theorem Val.of {Z:Heap}{ad:List Addr}{a:AV}{v:Value}(h:VI prog w Z ad a v):Val prog w Z ad a v:=by
 cases a with
 | none=>exact Eq.symm h▸.none
 | bool b=>exact Eq.symm h▸.bool
 | int i=>exact X1 h fun _ q=>q▸.int
 | lit k=>exact X1 h fun _ q=>q▸.lit
 | str s=>exact X1 h fun _ q=>q▸.str
 | ref r=>exact X11 h fun _ q e=>q▸.ref e
 | kls k=>exact Eq.symm h▸.kls
 | raw u=>cases h.1;exact .raw h.2
 | nd t xs=>exact X22 h fun _ _ q n r=>q▸.ofNd n r
end
section
variable {prog:Program}{w:World}
noncomputable def Sub (Z Z':Heap):Prop:=∀a o,Z.get? a=some o→Z'.get? a=some o
theorem Sub.refl (Z:Heap):Sub Z Z:=fun _ _ h=>h
theorem Sub.trans {X Y Z:Heap}(h:Sub X Y)(k:Sub Y Z):Sub X Z:=fun a o e=>k a o (h a o e)
theorem ObjIs.sub {h h':Heap}{a:Addr}{t:Tg}{vs:List Value}(k:Sub h h')(x:ObjIs prog w h a t vs):ObjIs prog w h' a t vs:=
 let ⟨m,o,e,p⟩:=x;(I0111 m o (k a o e) p)
theorem ObjIs.at {h h':Heap}{a:Addr}{t:Tg}{vs:List Value}(k:∀o,h.get? a=some o→h'.get? a=some o)(x:ObjIs prog w h a t vs):ObjIs prog w h' a t vs:=
 let ⟨m,o,e,p⟩:=x;(I0111 m o (k o e) p)
theorem CloIs.sub {Z Z':Heap}{a:Addr}{f:Nat}{ns:List Nat}{vs:List Value}(k:Sub Z Z')(x:CloIs Z a f ns vs):CloIs Z' a f ns vs:=
 x.imp fun _=>Exists.imp fun _=>Exists.imp fun _=>Exists.imp fun _=>And.imp (k _ _) (And.imp_right (And.imp_right (And.imp_right (And.imp_right (And.imp_left (Exists.imp fun _=>Exists.imp fun _=>Exists.imp fun _=>Exists.imp fun _=>And.imp_right (And.imp_left (k _ _))))))))
noncomputable def Pre (ad ad':List Addr):Prop:=∃more,ad'=ad ++ more
theorem Pre.refl (ad:List Addr):Pre ad ad:=⟨[],(List.append_nil _).symm⟩
theorem Pre.trans {a b c:List Addr}(h:Pre a b)(k:Pre b c):Pre a c:=by
 obtain ⟨x,rfl⟩:=h;obtain ⟨y,rfl⟩:=k;exact ⟨x ++ y,List.append_assoc ..⟩
theorem Pre.at {ad ad':List Addr}(h:Pre ad ad'){r:Nat}{a:Addr}(e:ad[r]? =some a):ad'[r]? =some a:=by
 obtain ⟨m,rfl⟩:=h
 obtain ⟨l,_⟩:=List.getElem?_eq_some_iff.mp e
 refine er (List.getElem?_append_left l) ?_;exact e
theorem NdIs.sub {Z Z':Heap}{a:Addr}{t:Tg}{vs:List Value}(h:NdIs prog w Z a t vs)(k:Sub Z Z'):NdIs prog w Z' a t vs:=by
 cases t <;> first | exact CloIs.sub k h | exact ObjIs.sub k h
section
variable {Z Z':Heap}{ad ad':List Addr}(hZ:Sub Z Z')(ha:Pre ad ad')
include hZ ha
theorem Val.mono {x:AV}{v:Value}(h:Val prog w Z ad x v):Val prog w Z' ad' x v:=
 Val.rec (motive_1:=fun a v _=>Val prog w Z' ad' a v) (motive_2:=fun a v _=>Vals prog w Z' ad' a v) .none .bool .int .lit .str (fun h=>.ref (ha.at h)) .kls .raw (fun h _ i=>.nd (h.sub hZ) i) (fun h _ i=>.clo (h.sub hZ) i) .nil (fun _ _ i j=>.cons i j) h
theorem Vals.mono {x:List AV}{v:List Value}(h:Vals prog w Z ad x v):Vals prog w Z' ad' x v:=
 Vals.rec (motive_1:=fun a v _=>Val prog w Z' ad' a v) (motive_2:=fun a v _=>Vals prog w Z' ad' a v) .none .bool .int .lit .str (fun h=>.ref (ha.at h)) .kls .raw (fun h _ i=>.nd (h.sub hZ) i) (fun h _ i=>.clo (h.sub hZ) i) .nil (fun _ _ i j=>.cons i j) h
end
theorem Vals.length {Z:Heap}{ad:List Addr}{xs:List AV}{vs:List Value}(h:Vals prog w Z ad xs vs):xs.length=vs.length:=by
 induction xs generalizing vs with
 | nil=>cases (show vs= [] from h.inv);rfl
 | cons x xs ih=>exact X22 h.inv fun _ us q _ r=>q▸congrArg Nat.succ (ih r)
theorem Vals.append {Z:Heap}{ad:List Addr}{xs ys:List AV}{vs us:List Value}(h:Vals prog w Z ad xs vs)(k:Vals prog w Z ad ys us):Vals prog w Z ad (xs ++ ys) (vs ++ us):=by
 induction xs generalizing vs with
 | nil=>cases (show vs= [] from h.inv);exact k
 | cons x xs ih=>exact X22 h.inv fun _ us q h r=>q▸.cons h (ih r)
theorem Vals.get {Z:Heap}{ad:List Addr}{xs:List AV}{vs:List Value}(h:Vals prog w Z ad xs vs){i:Nat}{x:AV}(e:xs[i]? =some x):∃v,vs[i]? =some v∧Val prog w Z ad x v:=by
 induction i generalizing xs vs with
 | zero=>cases h with
  | nil=>exact noS e
  | cons h r=>simp only [List.getElem?_cons_zero,Option.some.injEq] at e ⊢;subst e;exact ⟨_,rfl,h⟩
 | succ i ih=>cases h with
  | nil=>exact noS e
  | cons h r=>simp only [List.getElem?_cons_succ] at e ⊢;exact ih r e
theorem Vals.take {Z:Heap}{ad:List Addr}{xs:List AV}{vs:List Value}(h:Vals prog w Z ad xs vs)(n:Nat):Vals prog w Z ad (xs.take n) (vs.take n):=by
 induction n generalizing xs vs with
 | zero=>simp only [List.take_zero];exact .nil
 | succ n ih=>cases h with
  | nil=>exact .nil
  | cons h r=>simp only [List.take_succ_cons];exact .cons h (ih r)
theorem Vals.drop {Z:Heap}{ad:List Addr}{xs:List AV}{vs:List Value}(h:Vals prog w Z ad xs vs)(n:Nat):Vals prog w Z ad (xs.drop n) (vs.drop n):=by
 induction n generalizing xs vs with
 | zero=>simp only [List.drop_zero];exact h
 | succ n ih=>cases h with
  | nil=>exact .nil
  | cons h r=>simp only [List.drop_succ_cons];exact ih r
theorem Vals.set {Z:Heap}{ad:List Addr}{xs:List AV}{vs:List Value}(h:Vals prog w Z ad xs vs)(n:Nat){x:AV}{v:Value}(hx:Val prog w Z ad x v):Vals prog w Z ad (xs.set n x) (vs.set n v):=by
 induction n generalizing xs vs with
 | zero=>cases h with
  | nil=>exact .nil
  | cons h r=>exact .cons hx r
 | succ n ih=>cases h with
  | nil=>exact .nil
  | cons h r=>exact .cons h (ih r)
noncomputable def spec (L:Addr)(pin:List (Addr×Obj))(ad:List Addr):List Addr:=L :: (pin.map (·.1) ++ ad)
structure HS (L:Addr) (pin:List (Addr×Obj)) (Z:Heap) (ad:List Addr) (H:List (Option (Tg×List AV))) (h:Heap):Prop where
 nd:(spec L pin ad).Nodup
 zn:∀a∈spec L pin ad,Z.get? a=none
 lt:∀a∈spec L pin ad,a < h.objs.size
 ex:∀a∈spec L pin ad,∃o,h.get? a=some o
 pins:∀p∈pin,∃sl,h.get? p.1=some {p.2 with slots:=sl}
 zsub:Sub Z h
 len:ad.length=H.length
 emb:∀r t xs,getH H r=some (t,xs)→∃a vs,ad[r]? =some a∧ObjIs prog w h a t vs∧Vals prog w Z ad xs vs
def Zof (L:Addr)(pin:List (Addr×Obj))(ad:List Addr)(h:Heap):Heap:=hideAll h (spec L pin ad)
theorem Zof_sub (L:Addr)(pin:List (Addr×Obj))(ad:List Addr)(h:Heap):Sub (Zof L pin ad h) h:=fun _ _ e=>of_hideAll _ e
theorem Zof_none {L:Addr}{pin:List (Addr×Obj)}{ad:List Addr}{h:Heap}{a:Addr}(m:a∈spec L pin ad):(Zof L pin ad h).get? a=none:=hideAll_none _ m
theorem Zof_get {L:Addr}{pin:List (Addr×Obj)}{ad:List Addr}{h:Heap}{a:Addr}{o:Obj}(e:h.get? a=some o)(m:a ∉ spec L pin ad):(Zof L pin ad h).get? a=some o:=hideAll_get _ e m
theorem mem_spec {L a:Addr}{pin:List (Addr×Obj)}{ad:List Addr}:a∈spec L pin ad↔a=L∨a∈pin.map (·.1)∨a∈ad:=by
 unfold spec;rw [List.mem_cons,List.mem_append]
theorem getH_lt:∀{H:List (Option (Tg×List AV))} {r:Nat} {c:Tg×List AV},getH H r=some c→r < H.length
 | [],_,_,e=>by exact noS e
 | _ :: _,0,_,_=>Nat.zero_lt_succ _
 | _ :: H,r + 1,c,e=>Nat.succ_lt_succ (getH_lt (H:=H) e)
theorem getH_append:∀{H G:List (Option (Tg×List AV))} {r:Nat},getH (H ++ G) r=if r < H.length then getH H r else getH G (r - H.length)
 | [],G,r=>rfl
 | x :: H,G,0=>rfl
 | x :: H,G,r + 1=>by
  have:=getH_append (H:=H) (G:=G) (r:=r)
  simp only [List.cons_append,getH,List.length_cons,Nat.add_lt_add_iff_right,this,Nat.add_sub_add_right]
theorem setH_len:∀(H:List (Option (Tg×List AV))) (r:Nat) (c:Tg×List AV),(setH H r c).length=H.length
 | [],_,_=>rfl
 | _ :: _,0,_=>rfl
 | _ :: H,r + 1,c=>by show (setH H r c).length + 1=_;refine er (setH_len H r c) ?_;rfl
theorem getH_set:∀{H:List (Option (Tg×List AV))} {r k:Nat} {c:Tg×List AV},r < H.length→getH (setH H r c) k=if k=r then some c else getH H k
 | [],_,_,_,h=>absurd h (Nat.not_lt_zero _)
 | x :: H,0,0,c,_=>rfl
 | x :: H,0,k + 1,c,_=>rfl
 | x :: H,r + 1,0,c,_=>rfl
 | x :: H,r + 1,k + 1,c,h=>by
  have:=getH_set (H:=H) (r:=r) (k:=k) (c:=c) (Nat.lt_of_succ_lt_succ h)
  simp only [setH,getH,this,Nat.add_right_cancel_iff]
theorem HS.step {L:Addr}{pin:List (Addr×Obj)}{Z:Heap}{ad:List Addr}{H H':List (Option (Tg×List AV))}{h h':Heap}(S:HS (prog:=prog) (w:=w) L pin Z ad H h)
  (T more:List Addr) (hT:∀a∈T,a=L∨a∈ad) (keep:∀b o,h.get? b=some o→b ∉ T→h'.get? b=some o) (grow:h.objs.size≤h'.objs.size)
  (hm:more.Nodup) (hf:∀a∈more,h.objs.size≤a∧a < h'.objs.size) (exT:∀a∈T,∃o,h'.get? a=some o) (exM:∀a∈more,∃o,h'.get? a=some o) (len:ad.length + more.length=H'.length)
  (emb:Sub Z (Zof L pin (ad ++ more) h')→∀r t xs,getH H' r=some (t,xs)→(getH H r=some (t,xs)∧∀a,ad[r]? =some a→a ∉ T)∨
   ∃a vs,(ad ++ more)[r]? =some a∧ObjIs prog w h' a t vs∧Vals prog w (Zof L pin (ad ++ more) h') (ad ++ more) xs vs) :
  HS (prog:=prog) (w:=w) L pin (Zof L pin (ad ++ more) h') (ad ++ more) H' h'∧Sub Z (Zof L pin (ad ++ more) h'):=by
 have e:spec L pin (ad ++ more)=spec L pin ad ++ more:=by unfold spec;simp
 have fresh:∀a∈spec L pin ad,a ∉ more:=fun a ha hb=>Nat.lt_irrefl _ (Nat.lt_of_lt_of_le (S.lt a ha) (hf a hb).1)
 have sub:Sub Z (Zof L pin (ad ++ more) h'):=fun a o q=>by
  have hn:a ∉ spec L pin ad:=fun m=>by rw [S.zn a m] at q;cases q
  have hh:=S.zsub a o q
  refine Zof_get (keep a o hh fun m=>hn ?_) fun m=>?_
  ·exact mem_spec.mpr ((hT a m).imp_right .inr)
  ·rw [e,List.mem_append] at m
   rcases m with m | m
   ·exact hn m
   ·exact Nat.lt_irrefl _ (Nat.lt_of_lt_of_le (Heap.lt_size hh) (hf a m).1)
 refine ⟨⟨?_,fun a m=>Zof_none m,fun a m=>?_,fun a m=>?_,fun p hp=>?_,Zof_sub _ _ _ _,(List.length_append.symm▸len),fun r t xs q=>?_⟩,sub⟩
 ·refine er e ?_
  exact List.nodup_append.mpr (I02 S.nd hm (fun a ha b hb q=>fresh a ha (q▸hb)))
 ·rw [e,List.mem_append] at m
  rcases m with m | m
  ·exact Nat.lt_of_lt_of_le (S.lt a m) grow
  ·exact (hf a m).2
 ·rw [e,List.mem_append] at m
  rcases m with m | m
  ·by_cases q:a∈T
   ·exact exT a q
   ·refine X1 (S.ex a m) fun o ho=>?_
    exact ⟨o,keep a o ho q⟩
  ·exact exM a m
 ·refine X1 (S.pins p hp) fun sl q=>?_
  refine ⟨sl,keep _ _ q fun m=>?_⟩
  have n1:p.1∈pin.map (·.1):=List.mem_map_of_mem hp
  have nd:=S.nd
  unfold spec at nd
  rw [List.nodup_cons,List.nodup_append] at nd
  rcases hT _ m with q | q
  ·exact nd.1 (q▸List.mem_append_left _ n1)
  ·exact nd.2.2.2 _ n1 _ q rfl
 ·rcases emb sub r t xs q with ⟨q,nT⟩ | q
  ·refine X22 (S.emb r t xs q) fun a vs h1 h2 h3=>?_
   have pr:Pre ad (ad ++ more):=⟨more,rfl⟩
   exact (I22 a vs (pr.at h1) (h2.at fun o q=>keep a o q (nT a h1)) (h3.mono sub pr))
  ·exact q
end
structure Stat (K:Frag) (Z:Heap):Prop where
 kin:K.In Z
 lim:Z.NoLimit
 glo:∃mg,Z.Ns mainGlobals mg
 blt:∃mb,Z.Ns builtinsNs mb∧∀x:Str,x≠ "__name__"→mb x=bootBuiltins x
theorem Stat.sub {K:Frag}{Z Z':Heap}(T:Stat K Z)(k:Sub Z Z'):Stat K Z':=
 ⟨T.kin.keeps k,T.lim.keeps k,let ⟨mg,a⟩:=T.glo;⟨mg,a.keeps k⟩,let ⟨mb,a,b⟩:=T.blt;(I11 mb (a.keeps k) b)⟩
structure Fx where
 A:Around
 env:Env
 outer:List Env
 pin:List (Addr×Obj)
noncomputable def outOk:List Env→List (Addr×Obj)→Prop
 | [],[]=>True
 | e :: es,p :: ps=>(e.scope.kind≠.module∧e.frame=some p.1∧∀vs,p.2.data≠.fields vs)∧outOk es ps
 | _,_=>False
structure Fx.Ok (x:Fx):Prop where
 hk:x.env.scope.kind=.function
 frm:x.env.frame=some x.env.locals
 glo:x.env.globals=mainGlobals
 blt:x.env.builtins=builtinsNs
 hA:x.A.frames=some (x.env :: x.outer)
 hh:x.A.handled=none
 outs:outOk x.outer x.pin
section
variable {prog:Program}{w:World}{K:Frag}
variable (prog w K) in
structure Sit (x:Fx) (σ:St) (Z:Heap) (ad:List Addr) (h:Heap):Prop where
 kd:∀n k,lkK n σ.kd=some k→x.env.kindOf (nm n)=some k
 stat:Stat K Z
 hs:HS (prog:=prog) (w:=w) x.env.locals x.pin Z ad σ.H h
 loc:∃m,h.Ns x.env.locals m∧∀n a,lkA n σ.loc=some a→∃v,m (nm n)=some v∧Val prog w Z ad a v
 cel:∀n a,lkA n σ.cel=some a→∃c,x.env.cells.lookup (nm n)=some c∧Val prog w Z ad a (.ref c)
def NumIs (o:Obj)(i:Int):Prop:=∃es n tk,o=dictOf es n∧getL (nm 2) es=some (some (.int i tk))
def ExcAt (x:Fx)(Z:Heap)(ad:List Addr)(i:Int)(e:Addr)(h:Heap):Prop:=
 e ∉ spec x.env.locals x.pin ad∧Z.get? e=none∧∃d vs sl od,h.get? e=some ⟨.ref (cad 0),some d,.fields vs,sl⟩∧d ∉ spec x.env.locals x.pin ad∧d≠e∧
  h.get? d=some od∧NumIs od i∧
  (vs[1]? =some .none∨∃T oT ts f,vs[1]? =some (.ref T)∧Z.get? T=none∧T≠e∧T≠d∧T ∉ spec x.env.locals x.pin ad∧h.get? T=some oT∧oT.data=.fields ts∧ts[3]? =some f∧(f=.none∨f=rawInt x.env.locals))
variable (prog w K) in
def OkS (x:Fx)(Z:Heap)(ad:List Addr)(s:Shared)(σ:St)(k:Heap→List Addr→Shared→Prop):Prop:=
 ∀Z' ad' h' tk,Sub Z Z'→Pre ad ad'→Sit prog w K x σ Z' ad' h'→k Z' ad' ⟨h',s.gens,s.drawn,tk,s.os⟩
variable (prog w K) in
def RX (x:Fx)(Z:Heap)(ad:List Addr)(s:Shared)(i:Int)(σ:St)(E:Value→Shared→Prop):Prop:=
 OkS prog w K x Z ad s σ fun Z' ad' s'=>∀e,ExcAt x Z' ad' i e s'.heap→E (.ref e) s'
variable (prog w K) in
def RV (x:Fx)(Z:Heap)(ad:List Addr)(s:Shared)(r:Out×St)(Q:Value→Shared→Prop)(E:Value→Shared→Prop):Prop:=match r with
 | (.v a,σ)=>OkS prog w K x Z ad s σ fun Z' ad' s'=>∀v,Val prog w Z' ad' a v→Q v s'
 | (.ex i,σ)=>RX prog w K x Z ad s i σ E
 | _=>False
variable (prog w K) in
def RVs (x:Fx)(Z:Heap)(ad:List Addr)(s:Shared)(r:Out×St)(Q:List Value→Shared→Prop)(E:Value→Shared→Prop):Prop:=match r with
 | (.vs a,σ)=>OkS prog w K x Z ad s σ fun Z' ad' s'=>∀v,Vals prog w Z' ad' a v→Q v s'
 | (.ex i,σ)=>RX prog w K x Z ad s i σ E
 | _=>False
variable (prog w K) in
def RB (x:Fx)(Z:Heap)(ad:List Addr)(s:Shared)(r:Out×St)(Q:Bool→Shared→Prop)(E:Value→Shared→Prop):Prop:=match r with
 | (.b a,σ)=>OkS prog w K x Z ad s σ fun _ _ s'=>Q a s'
 | (.ex i,σ)=>RX prog w K x Z ad s i σ E
 | _=>False
variable (prog w K) in
def RF (x:Fx)(Z:Heap)(ad:List Addr)(s:Shared)(r:Out×St)(Q:Flow→Shared→Prop)(E:Value→Shared→Prop):Prop:=match r with
 | (.nx,σ)=>OkS prog w K x Z ad s σ fun _ _ s'=>Q .next s'
 | (.rt a,σ)=>OkS prog w K x Z ad s σ fun Z' ad' s'=>∀v,Val prog w Z' ad' a v→Q (.ret v) s'
 | (.ex i,σ)=>RX prog w K x Z ad s i σ E
 | _=>False
theorem OkS.on {x:Fx}{Z Z₁:Heap}{ad ad₁:List Addr}{s s₁:Shared}{σ:St}{k:Heap→List Addr→Shared→Prop}(h:OkS prog w K x Z ad s σ k)(hZ:Sub Z Z₁)(ha:Pre ad ad₁)
  (hs:s₁.gens=s.gens∧s₁.drawn=s.drawn∧s₁.os=s.os):OkS prog w K x Z₁ ad₁ s₁ σ k:=fun Z' ad' h' tk a b c=>by
 refine er hs.1 (er hs.2.1 (er hs.2.2 ?_));exact h Z' ad' h' tk (hZ.trans a) (ha.trans b) c
theorem RX.on {x:Fx}{Z Z₁:Heap}{ad ad₁:List Addr}{s s₁:Shared}{σ:St}{i:Int}{E:Value→Shared→Prop}(h:RX prog w K x Z ad s i σ E)(hZ:Sub Z Z₁)(ha:Pre ad ad₁)
  (hs:s₁.gens=s.gens∧s₁.drawn=s.drawn∧s₁.os=s.os):RX prog w K x Z₁ ad₁ s₁ i σ E:=OkS.on h hZ ha hs
theorem RV.on {x:Fx}{Z Z₁:Heap}{ad ad₁:List Addr}{s s₁:Shared}{r:Out×St}{Q:Value→Shared→Prop}{E:Value→Shared→Prop}(h:RV prog w K x Z ad s r Q E)(hZ:Sub Z Z₁)(ha:Pre ad ad₁)
  (hs:s₁.gens=s.gens∧s₁.drawn=s.drawn∧s₁.os=s.os):RV prog w K x Z₁ ad₁ s₁ r Q E:=by
 obtain ⟨o,σ⟩:=r
 cases o <;> simp only [RV] at h ⊢ <;> first | exact OkS.on h hZ ha hs | exact RX.on h hZ ha hs
theorem RVs.on {x:Fx}{Z Z₁:Heap}{ad ad₁:List Addr}{s s₁:Shared}{r:Out×St}{Q:List Value→Shared→Prop}{E:Value→Shared→Prop}(h:RVs prog w K x Z ad s r Q E)(hZ:Sub Z Z₁)(ha:Pre ad ad₁)
  (hs:s₁.gens=s.gens∧s₁.drawn=s.drawn∧s₁.os=s.os):RVs prog w K x Z₁ ad₁ s₁ r Q E:=by
 obtain ⟨o,σ⟩:=r
 cases o <;> simp only [RVs] at h ⊢ <;> first | exact OkS.on h hZ ha hs | exact RX.on h hZ ha hs
theorem RB.on {x:Fx}{Z Z₁:Heap}{ad ad₁:List Addr}{s s₁:Shared}{r:Out×St}{Q:Bool→Shared→Prop}{E:Value→Shared→Prop}(h:RB prog w K x Z ad s r Q E)(hZ:Sub Z Z₁)(ha:Pre ad ad₁)
  (hs:s₁.gens=s.gens∧s₁.drawn=s.drawn∧s₁.os=s.os):RB prog w K x Z₁ ad₁ s₁ r Q E:=by
 obtain ⟨o,σ⟩:=r
 cases o <;> simp only [RB] at h ⊢ <;> first | exact OkS.on h hZ ha hs | exact RX.on h hZ ha hs
theorem RF.on {x:Fx}{Z Z₁:Heap}{ad ad₁:List Addr}{s s₁:Shared}{r:Out×St}{Q:Flow→Shared→Prop}{E:Value→Shared→Prop}(h:RF prog w K x Z ad s r Q E)(hZ:Sub Z Z₁)(ha:Pre ad ad₁)
  (hs:s₁.gens=s.gens∧s₁.drawn=s.drawn∧s₁.os=s.os):RF prog w K x Z₁ ad₁ s₁ r Q E:=by
 obtain ⟨o,σ⟩:=r
 cases o <;> simp only [RF] at h ⊢ <;> first | exact OkS.on h hZ ha hs | exact RX.on h hZ ha hs
theorem Sit.look {x:Fx}{σ:St}{Z:Heap}{ad:List Addr}{h:Heap}(S:Sit prog w K x σ Z ad h){a:AV}{v:Value}(hv:Val prog w Z ad a v){t:Tg}{xs:List AV}(e:Mine.look σ.H a=some (t,xs)) :
  ∃p vs,v=.ref p∧ObjIs prog w h p t vs∧Vals prog w Z ad xs vs:=by
 cases hv with
 | ref ha=>
  refine X22 (S.hs.emb _ _ _ e) fun p vs h1 h2 h3=>?_
  rw [ha] at h1;cases Option.some.inj h1
  exact ⟨_,vs,rfl,h2,h3⟩
 | @nd t' xs' a vs ho hs=>cases t' <;> cases e <;> exact ⟨_,_,rfl,ho.sub S.hs.zsub,hs⟩
 | _=>exact noS e
theorem Sit.cellAt {x:Fx}{σ:St}{Z:Heap}{ad:List Addr}{h:Heap}(S:Sit prog w K x σ Z ad h){r:Nat}{v:Value}(hv:Val prog w Z ad (.ref r) v){t:Tg}{xs:List AV}(e:getH σ.H r=some (t,xs)) :
  ∃p vs,v=.ref p∧ad[r]? =some p∧ObjIs prog w h p t vs∧Vals prog w Z ad xs vs:=by
 cases hv with
 | ref ha=>
  refine X22 (S.hs.emb _ _ _ e) fun p vs h1 h2 h3=>?_
  rw [ha] at h1;cases Option.some.inj h1
  exact (I23 _ vs rfl ha h2 h3)
theorem nodup_ad {L:Addr}{pin:List (Addr×Obj)}{ad:List Addr}(h:(spec L pin ad).Nodup):ad.Nodup:=by
 unfold spec at h
 rw [List.nodup_cons,List.nodup_append] at h
 exact h.2.2.1
theorem not_L {L:Addr}{pin:List (Addr×Obj)}{ad:List Addr}(h:(spec L pin ad).Nodup){a:Addr}(m:a∈ad):a≠L:=fun q=>by
 unfold spec at h
 rw [List.nodup_cons] at h
 exact h.1 (q▸List.mem_append_right _ m)
theorem at_inj {ad:List Addr}(h:ad.Nodup){i j:Nat}{a:Addr}(hi:ad[i]? =some a)(hj:ad[j]? =some a):i=j:=by
 obtain ⟨li,ei⟩:=List.getElem?_eq_some_iff.mp hi
 obtain ⟨lj,ej⟩:=List.getElem?_eq_some_iff.mp hj
 exact (List.getElem_inj (h₀:=li) (h₁:=lj) h).mp (ei.trans ej.symm)
theorem Sit.setCell {x:Fx}{σ:St}{Z:Heap}{ad:List Addr}{h h':Heap}(S:Sit prog w K x σ Z ad h){r:Nat}{p:Addr}(hp:ad[r]? =some p)(hr:r < σ.H.length)(sb:Heap.SameBut p h h')
  {t:Tg} {xs:List AV} {vs:List Value} (ho:ObjIs prog w h' p t vs) (hs:Vals prog w Z ad xs vs) :
  ∃Z',Sub Z Z'∧Sit prog w K x {σ with H:=setH σ.H r (t,xs)} Z' ad h':=by
 have nd:=S.hs.nd
 have hm:p∈ad:=List.mem_of_getElem? hp
 obtain ⟨S',sub⟩:=S.hs.step (H':=setH σ.H r (t,xs)) (h':=h') [p] [] (fun a m=>.inr ((List.mem_singleton.mp m).symm▸hm))
  (fun b o e n=>(sb.2 b fun q=>n (List.mem_singleton.mpr q)).trans e) (Nat.le_of_eq sb.1.symm) .nil (fun _ m=>nomatch m) (fun a m=>by refine er (List.mem_singleton.mp m) ?_;refine X0111 ho fun _ o q _=>?_;exact ⟨o,q⟩) (fun _ m=>nomatch m) (by rw [setH_len];simpa using S.hs.len)
  (fun sub k t' xs' q=>by
   rw [getH_set hr] at q
   by_cases hk:k=r
   ·subst hk
    rw [if_pos rfl] at q
    cases Option.some.inj q
    refine .inr (I22 p vs (by simpa using hp) ho ?_)
    exact hs.mono sub ⟨[],rfl⟩
   ·rw [if_neg hk] at q
    exact .inl ⟨q,fun a ha m=>hk (at_inj (nodup_ad nd) ha ((List.mem_singleton.mp m).symm▸hp))⟩)
 simp only [List.append_nil] at S' sub
 have pr:Pre ad ad:=Pre.refl ad
 refine ⟨_,sub,S.kd,S.stat.sub sub,S',?_,fun n a q=>?_⟩
 ·refine X11 S.loc fun m hn hl=>?_
  refine (I11 m (hn.sameBut sb (Ne.symm (not_L nd hm))) (fun n a q=>?_))
  refine X11 (hl n a q) fun v h1 h2=>?_
  exact (I11 v h1 (h2.mono sub pr))
 ·refine X11 (S.cel n a q) fun c h1 h2=>?_
  exact (I11 c h1 (h2.mono sub pr))
inductive Laid (prog:Program) (w:World) (h Z:Heap) (ad:List Addr):Nat→List Addr→List (Tg×List AV)→Prop
 | nil {b:Nat}:Laid prog w h Z ad b [] []
 | cons {b a:Nat} {t:Tg} {xs:List AV} {vs:List Value} {r:List Addr} {cs:List (Tg×List AV)} (lo:b≤a) (o:ObjIs prog w h a t vs) (v:Vals prog w Z ad xs vs) (k:Laid prog w h Z ad (a + 1) r cs):Laid prog w h Z ad b (a :: r) ((t,xs) :: cs)
section
variable {h Z:Heap}{ad as:List Addr}{b:Nat}{cs:List (Tg×List AV)}
theorem Laid.at (L:Laid prog w h Z ad b as cs):∀(i:Nat) (t:Tg) (xs:List AV),getH (cs.map some) i=some (t,xs)→∃a vs,as[i]? =some a∧ObjIs prog w h a t vs∧Vals prog w Z ad xs vs:=by
 induction L with
 | nil=>exact fun _ _ _ e=>noS e
 | cons lo o v k ih=>
  intro i t xs e
  cases i with
  | zero=>cases e;exact I22 _ _ rfl o v
  | succ i=>exact ih i t xs e
theorem Laid.ex (L:Laid prog w h Z ad b as cs):∀a∈as,b≤a∧∃o,h.get? a=some o:=by
 induction L with
 | nil=>exact fun _ m=>nomatch m
 | cons lo o v k ih=>
  intro a m
  cases m with
  | head=>exact X0111 o fun _ o q _=>⟨lo,o,q⟩
  | tail _ m=>exact ⟨Nat.le_trans lo (Nat.le_of_succ_le (ih a m).1),(ih a m).2⟩
theorem Laid.nd (L:Laid prog w h Z ad b as cs):as.Nodup:=by
 induction L with
 | nil=>exact .nil
 | cons lo o v k ih=>exact List.nodup_cons.mpr ⟨fun m=>Nat.not_succ_le_self _ (k.ex _ m).1,ih⟩
theorem Laid.len (L:Laid prog w h Z ad b as cs):as.length=cs.length:=by
 induction L with
 | nil=>rfl
 | cons lo o v k ih=>exact congrArg Nat.succ ih
end
theorem Sit.lay {x:Fx}{σ:St}{Z:Heap}{ad:List Addr}{h h':Heap}(S:Sit prog w K x σ Z ad h)(keep:Sub h h')(grow:h.objs.size≤h'.objs.size)(more:List Addr)(cs:List (Tg×List AV))
  (L:∀Z',Sub Z Z'→Laid prog w h' Z' (ad ++ more) h.objs.size more cs) :
  Sub Z (Zof x.env.locals x.pin (ad ++ more) h')∧Sit prog w K x {σ with H:=σ.H ++ cs.map some} (Zof x.env.locals x.pin (ad ++ more) h') (ad ++ more) h':=by
 have nd:=S.hs.nd
 have L0:=L Z (Sub.refl Z)
 obtain ⟨S',sub⟩:=S.hs.step (H':=σ.H ++ cs.map some) (h':=h') [] more (fun a m=>nomatch m) (fun b o e _=>keep b o e) grow L0.nd (fun a m=>X01 (L0.ex a m) fun q1 q2=>X1 q2 fun o q2=>⟨q1,Heap.lt_size q2⟩) (fun _ m=>nomatch m) (fun a m=>(L0.ex a m).2) (by simp [S.hs.len,L0.len])
  (fun sub k t' xs' q=>by
   rw [getH_append] at q
   by_cases hk:k < σ.H.length
   ·rw [if_pos hk] at q
    exact .inl ⟨q,fun a _ m=>nomatch m⟩
   ·rw [if_neg hk] at q
    refine X22 ((L _ sub).at _ _ _ q) fun a vs h1 h2 h3=>?_
    exact .inr (I22 a vs (er (List.getElem?_append_right (S.hs.len.symm▸(Nat.le_of_not_lt hk))) (er S.hs.len h1)) h2 h3))
 have pr:Pre ad (ad ++ more):=⟨more,rfl⟩
 refine ⟨sub,S.kd,S.stat.sub sub,S',?_,fun n a q=>?_⟩
 ·refine X11 S.loc fun m hn hl=>?_
  refine (I11 m (hn.keeps keep) (fun n a q=>?_))
  refine X11 (hl n a q) fun v h1 h2=>?_
  exact (I11 v h1 (h2.mono sub pr))
 ·refine X11 (S.cel n a q) fun c h1 h2=>?_
  exact (I11 c h1 (h2.mono sub pr))
theorem Sit.layFrozen {x:Fx}{σ:St}{Z:Heap}{ad:List Addr}{h h':Heap}(S:Sit prog w K x σ Z ad h)(keep:Sub h h')(grow:h.objs.size≤h'.objs.size) :
  Sub Z (Zof x.env.locals x.pin ad h')∧Sit prog w K x σ (Zof x.env.locals x.pin ad h') ad h'∧(∀a o,h'.get? a=some o→h.objs.size≤a→(Zof x.env.locals x.pin ad h').get? a=some o):=by
 refine X01 (S.lay keep grow [] [] (fun _ _=>.nil)) fun a b=>?_
 simp only [List.append_nil,List.map_nil] at a b
 exact (I02 a b (fun p o e ge=>Zof_get e fun m=>Nat.lt_irrefl _ (Nat.lt_of_lt_of_le (S.hs.lt p m) ge)))
theorem Sit.setLoc {x:Fx}{σ:St}{Z:Heap}{ad:List Addr}{h h':Heap}(S:Sit prog w K x σ Z ad h){m m':Str→Option Value}{n:Nat}{a:AV}{v:Value}(hn:h.Ns x.env.locals m)
  (hm:h'.Ns x.env.locals m') (sb:Heap.SameBut x.env.locals h h') (e:∀y,m' y=if y=nm n then some v else m y) (hv:Val prog w Z ad a v) :
  ∃Z',Sub Z Z'∧Sit prog w K x {σ with loc:=stA n a σ.loc} Z' ad h':=by
 obtain ⟨S',sub⟩:=S.hs.step (H':=σ.H) (h':=h') [x.env.locals] [] (fun b q=>.inl (List.mem_singleton.mp q))
  (fun b o e n=>(sb.2 b fun q=>n (List.mem_singleton.mpr q)).trans e) (Nat.le_of_eq sb.1.symm) .nil (fun _ m=>nomatch m) (fun a q=>by refine er (List.mem_singleton.mp q) ?_;refine X31 hm fun o _ _ q _=>?_;exact ⟨o,q⟩) (fun _ m=>nomatch m) (by simpa using S.hs.len)
  (fun sub k t' xs' q=>.inl ⟨q,fun b hb q'=>not_L S.hs.nd (List.mem_of_getElem? hb) (List.mem_singleton.mp q')⟩)
 simp only [List.append_nil] at S' sub
 have pr:Pre ad ad:=Pre.refl ad
 have lk:∀(l:List (Nat×AV)) k,lkA k (stA n a l)=if k=n then some a else lkA k l:=by
  intro l k
  have bq:∀i j:Nat,Nat.beq i j=decide (i=j):=fun i j=>by
   cases h:Nat.beq i j with
   | true=>refine er (Nat.eq_of_beq_eq_true h) ?_;simp
   | false=>have:=Nat.ne_of_beq_eq_false h;simp [this]
  induction l with
  | nil=>
   simp only [stA,lkA,bq]
   by_cases h:k=n <;> simp [h]
  | cons y l ih=>
   obtain ⟨y,u⟩:=y
   simp only [stA,bq]
   by_cases h1:n=y
   ·subst h1
    simp only [decide_true,lkA,bq]
    by_cases h:k=n <;> simp [h]
   ·simp only [h1,decide_false,lkA,bq,ih]
    by_cases h:k=y
    ·subst h
     have:k≠n:=fun q=>h1 q.symm
     simp [this]
    ·simp [h]
 refine X11 S.loc fun m₀ hn₀ hl=>?_
 have em:∀y,m₀ y=m y:=fun y=>by
  refine X33 hn fun o es ep h1 h2 _ h3=>?_
  refine X33 hn₀ fun o' es' ep' g1 g2 _ g3=>?_
  rw [h1] at g1;cases Option.some.inj g1
  rw [h2] at g2;cases g2
  rw [←h3,←g3]
 refine ⟨_,sub,S.kd,S.stat.sub sub,S',(I11 m' hm (fun k b q=>?_)),fun k b q=>?_⟩
 ·rw [show ({σ with loc:=stA n a σ.loc}:St).loc=stA n a σ.loc from rfl,lk] at q
  rw [e]
  by_cases hk:k=n
  ·subst hk
   rw [if_pos rfl] at q;cases Option.some.inj q
   exact (I11 v (if_pos rfl) (hv.mono sub pr))
  ·rw [if_neg hk] at q
   refine X11 (hl k b q) fun u h1 h2=>?_
   refine (I11 u ?_ (h2.mono sub pr))
   rw [if_neg fun q=>hk (nm_inj q),←em];exact h1
 ·refine X11 (S.cel k b q) fun c h1 h2=>?_
  exact (I11 c h1 (h2.mono sub pr))
end
structure KF (K:Frag):Prop where
 ga:∀C,2≤C→C≤6→findIn K (.ref (cad C)) "__getattribute__" =some (some (.builtin "object.__getattribute__"))∧findIn K (.ref (cad C)) "__getattr__" =some none∧hasDictIn K (cad C)=true∧
  findIn K (.ref (cad C)) "__setattr__" =some (some (.builtin "object.__setattr__"))∧plainOver K (cad C)=true
 att:∀p∈attT,findIn K (.ref (cad p.1)) (nm p.2)=some none
 cls:∀C,2≤C→C≤6→makesIn K (cad C)=true
 isn:∀T∈["NoneType", "bool", "int", "str", "list", "tuple"],isNotIn K T (cad 1)=true
theorem attT_le:(attT.all fun p=>Nat.ble 2 p.1 && Nat.ble p.1 6)=true:=by decide
theorem attOk_mem {C n:Nat}(h:attOk C n=true):(C,n)∈attT∧2≤C∧C≤6:=by
 refine X11 (List.any_eq_true.mp h) fun p hp q=>?_
 refine X01 (Bool.and_eq_true_iff.mp q) fun q1 q2=>?_
 have e1:=Nat.eq_of_beq_eq_true q1
 have e2:=Nat.eq_of_beq_eq_true q2
 obtain ⟨a,b⟩:=p
 subst e1 e2
 refine X01 (Bool.and_eq_true_iff.mp (List.all_eq_true.mp attT_le _ hp)) fun l1 l2=>?_
 exact (I02 hp (Nat.le_of_ble_eq_true l1) (Nat.le_of_ble_eq_true l2))
noncomputable def lkV:Nat→List Nat→List Value→Option Value
 | n,m :: ms,v :: vs=>if n=m then some v else lkV n ms vs
 | _,_,_=>none
noncomputable def putV:Nat→Value→List Nat→List Value→List Value
 | n,v,m :: ms,u :: us=>if n=m then v :: us else u :: putV n v ms us
 | _,v,_,_=>[v]
theorem nbeq (i j:Nat):Nat.beq i j=decide (i=j):=by
 cases h:Nat.beq i j with
 | true=>refine er (Nat.eq_of_beq_eq_true h) ?_;simp
 | false=>have:=Nat.ne_of_beq_eq_false h;simp [this]
theorem lkA_n {P:Nat→AV→Prop}:∀n a,lkA n []=some a→P n a:=fun _ _ e=>noS e
theorem lkA_c {P:Nat→AV→Prop}{m:Nat}{v:AV}{r:List (Nat×AV)}(h:P m v)(k:∀n a,lkA n r=some a→P n a):∀n a,lkA n ((m,v) :: r)=some a→P n a:=fun n a e=>by
 unfold lkA at e
 cases q:Nat.beq n m with
 | true=>rw [q] at e;exact Nat.eq_of_beq_eq_true q▸Option.some.inj e▸h
 | false=>rw [q] at e;exact k n a e
theorem isStr_nm {n m:Nat}{t:Tok}:(Value.str (nm m) t).isStr (nm n)=decide (n=m):=by
 show (nm m == nm n)=_
 by_cases h:n=m
 ·subst h;simp
 ·have:nm m≠nm n:=fun q=>h (nm_inj q).symm
  simp [h,this]
theorem getL_ents {n:Nat}:∀{ns:List Nat} {vs:List Value} {es:List DictEntry},Ents ns vs es→getL (nm n) es=some (lkV n ns vs)
 | _,_,_,.nil=>rfl
 | _,_,_,.cons (n:=m) (v:=v) (e:=e) (ns:=ns) (vs:=vs) (es:=es) t hk hv r=>by
  have ih:=getL_ents (n:=n) r
  unfold getL at ih ⊢
  refine er (List.find?_cons) (er List.any_cons (er hk (er isStr_nm ?_)))
  by_cases h:n=m
  ·subst h
   simp [lkV,hv]
  ·have rk:e.refKey=false:=by simp [DictEntry.refKey,hk]
   simp only [h,decide_false,rk,Bool.false_or,lkV,if_false]
   exact ih
theorem putL_ents {n:Nat}{hsh:Int}{t:Tok}{v:Value}{ns:List Nat}{vs:List Value}{es:List DictEntry}{xs:List AV}{a:AV}(en:Ents ns vs es)(hl:xs.length=vs.length) :
  Ents (putF n a ns xs).1 (putV n v ns vs) (putL (nm n) hsh (.str (nm n) t) v es):=by
 induction en generalizing xs with
 | nil=>
  cases xs with
  | nil=>exact .cons t rfl rfl .nil
  | cons=>cases hl
 | @cons m u e ns vs es t' hk hv r ih=>
  cases xs with
  | nil=>cases hl
  | cons x xs=>
   have hl':xs.length=vs.length:=Nat.succ.inj hl
   unfold putF putV putL
   rw [nbeq,hk,isStr_nm]
   by_cases h:n=m
   ·subst h
    simp only [decide_true,if_true]
    exact .cons t' (by rfl) rfl r
   ·simp only [h,decide_false,if_false,Bool.false_eq_true]
    exact .cons t' hk hv (ih hl')
theorem putV_vals {prog:Program}{w:World}{Z:Heap}{ad:List Addr}{n:Nat}{a:AV}{v:Value}(hv:Val prog w Z ad a v):∀{ns:List Nat} {xs:List AV} {vs:List Value},Vals prog w Z ad xs vs→Vals prog w Z ad (putF n a ns xs).2 (putV n v ns vs)
 | [],_,_,_=>by unfold putF putV;exact .cons hv .nil
 | m :: ms,_,_,.nil=>by unfold putF putV;exact .cons hv .nil
 | m :: ms,_,_,.cons h r=>by
  unfold putF putV
  rw [nbeq]
  by_cases q:n=m
  ·simp only [q,decide_true,if_true];exact .cons hv r
  ·simp only [q,decide_false,if_false];exact .cons h (putV_vals hv r)
theorem lkV_vals {prog:Program}{w:World}{Z:Heap}{ad:List Addr}{n:Nat}{a:AV}:∀{ns:List Nat} {xs:List AV} {vs:List Value},Vals prog w Z ad xs vs→lkA n (zipA ns xs)=some a→∃v,lkV n ns vs=some v∧Val prog w Z ad a v
 | [],_,_,_,e=>by exact noS e
 | m :: ms,_,_,.nil,e=>by exact noS e
 | m :: ms,_,_,.cons h r,e=>by
  unfold zipA lkA at e
  unfold lkV
  rw [nbeq] at e
  by_cases q:n=m
  ·simp only [q,decide_true,Option.some.injEq] at e
   subst e
   exact ⟨_,if_pos q,h⟩
  ·simp only [q,decide_false] at e
   refine er (if_neg q) ?_
   exact lkV_vals r e
theorem ents_len:∀{ns:List Nat} {vs:List Value} {es:List DictEntry},Ents ns vs es→es.length=ns.length
 | _,_,_,.nil=>rfl
 | _,_,_,.cons _ _ _ r=>by exact er List.length_cons (er List.length_cons (er (ents_len r) rfl))
theorem putF_len:∀(n:Nat) (a:AV) (ns:List Nat) (xs:List AV),(putF n a ns xs).1.length≤ns.length + 1
 | n,a,[],_=>by unfold putF;simp
 | n,a,m :: ms,[]=>by unfold putF;simp
 | n,a,m :: ms,x :: xs=>by
  unfold putF
  have:=putF_len n a ms xs
  cases Nat.beq n m
  ·simp only [List.length_cons];exact Nat.lt_succ_of_le (by assumption)
  ·simp only [List.length_cons];exact Nat.le_add_right _ _
section
variable {prog:Program}{w:World}{K:Frag}{A:Around}{E:Value→Shared→Prop}{s:Shared}
theorem handed_val {Z:Heap}{ad:List Addr}{a:AV}{v:Value}(h:Val prog w Z ad a v):handedIn v=true:=
 Val.rec (motive_1:=fun _ v _=>handedIn v=true) (motive_2:=fun _ _ _=>True) rfl rfl rfl rfl rfl (fun _=>rfl) rfl (fun h=>h) (fun _ _ _=>rfl) (fun _ _ _=>rfl) ⟨⟩ (fun _ _ _ _=>⟨⟩) h
theorem Sit.inst {x:Fx}{σ:St}{Z:Heap}{ad:List Addr}{h:Heap}(S:Sit prog w K x σ Z ad h){a d:AV}{C:Nat}{v:Value}(hv:Val prog w Z ad a v)(e:Mine.look σ.H a=some (.ins C,[d])) :
  ∃p q,v=.ref p∧h.get? p=some (instObj (cad C) q)∧Val prog w Z ad d (.ref q):=by
 refine X22 (S.look hv e) fun p vs q0 q1 hs=>?_;subst q0;obtain ⟨_,o,ho,d',rfl,rfl⟩:=q1
 cases hs with
 | cons h1 r=>exact (I22 p d' rfl ho h1)
theorem p_attr (F:KF K){x:Fx}{σ:St}{Z:Heap}{ad:List Addr}(S:Sit prog w K x σ Z ad s.heap){a r:AV}{va:Value}{n:Nat}{expr:Bool}{Q:Value→Shared→Prop}(hv:Val prog w Z ad a va)(e:attrOf σ.H a n=some r)
  (h:∀v tk,Val prog w Z ad r v→Q v {s with toks:=tk}):wpAny (model prog w) A (getAttr va (nm n) expr) Q E s:=by
 refine oB e fun y e1 e=>gG e fun ok e=>oB e fun z e2 e=>?_
 refine X22 (S.inst hv (insOf_eq e1)) fun p q q0 ho hd=>?_;subst q0
 refine X22 (S.look hd (idcOf_eq e2)) fun q' vs hq q0 hs=>?_;obtain ⟨_,o,hoq,es,k,rfl,en⟩:=q0
 cases hq
 refine X11 (lkV_vals hs e) fun v e3 hv'=>?_
 refine X02 (attOk_mem ok) fun hm l1 l2=>?_
 refine X04 (F.ga y.1 l1 l2) fun g1 _ g3 _ _=>?_
 refine get_value (S.stat.kin.keeps S.hs.zsub) (od:=some (dictOf es k)) ⟨ho,rfl,rfl,hoq⟩ g1 (findObj_own g3 (F.att _ hm) rfl ?_) (handed_val hv') (h v _ hv')
 show lookIn (nm n) (dictOf es k)=_
 rw [lookIn_dict,getL_ents en,e3]
theorem nsSet_dict {d:Addr}{es:List DictEntry}{k:Nat}{n:Str}{v:Value}{Q:Unit→Shared→Prop}(ho:s.heap.get? d=some (dictOf es k))(hl:(getL n es).isSome=true)
  (h:Q () {s with heap:=s.heap.update d (Obj.putName n (PyData.keyHash w.params n) (.str n s.toks) v),toks:=s.toks + 1}) :
  wpAny (model prog w) A (nsSet d n v) Q E s:=by
 refine wpAny_bind (wpAny_bind (wpAny_askSetting (wpAny_pure (wpAny_bind (wpAny_mkText (wpAny_bind (wpAny_loadPart ho ?_)))))))
 dsimp only
 have c:(!es.toArray.any (·.key.isStr n) && es.toArray.any (·.refKey))=false:=by
  refine er List.any_toArray (er List.any_toArray ?_)
  unfold getL at hl
  split at hl
  ·rename_i en he
   refine er (List.any_eq_true.mpr (I11 en (List.mem_of_find?_eq_some he) (List.find?_some he))) ?_;rfl
  ·split at hl
   ·exact noB hl
   ·rename_i z;rw [Bool.not_eq_true] at z;rw [z,Bool.and_false]
 rw [aRefKeyMayBeTheName_at,c]
 exact wpAny_updatePart ho h
theorem p_setattr (F:KF K){x:Fx}{σ σ':St}{Z:Heap}{ad:List Addr}(S:Sit prog w K x σ Z ad s.heap){a b:AV}{va vb:Value}{n:Nat}{Q:Unit→Shared→Prop}(hv:Val prog w Z ad a va)(hb:Val prog w Z ad b vb)(e:setAt a n b σ=some σ')
  (h:OkS prog w K x Z ad s σ' fun _ _ s'=>Q () s'):wpAny (model prog w) A (setAttr va (nm n) vb) Q E s:=by
 obtain ⟨hh,g,dr,tk,os⟩:=s
 dsimp only at S h ⊢
 refine oB e fun y e1 e=>oB e fun d e3 e=>oB e fun z e2 e=>gG2 e fun ok1 ok2 e=>?_
 refine X22 (S.inst hv (insOf_eq e1)) fun p q q0 ho hd=>?_;subst q0
 cases Option.some.inj e
 replace e2:=idcOf_eq e2
 rw [refA_eq e3] at hd e2
 refine X23 (S.cellAt hd e2) fun q' vs hq hat q0 hs=>?_;obtain ⟨hmo,o,hoq,es,k,rfl,en⟩:=q0
 cases hq
 refine X02 (attOk_mem ok2) fun hm l1 l2=>?_
 refine X04 (F.ga y.1 l1 l2) fun _ _ g3 g4 g5=>?_
 have X:=S.stat.kin.keeps S.hs.zsub
 have I:InstAt hh p (instObj (cad y.1) q) (cad y.1) (some (dictOf es k)):=⟨ho,rfl,rfl,hoq⟩
 have ht:takerIn K (cad y.1) (nm n)=some none:=by unfold takerIn;refine er (F.att _ hm) ?_;rfl
 refine set_plain X I g4 (osa_open (s:=⟨hh,g,dr,tk + 1,os⟩) X I g5 ht fun b'=>?_)
 refine X11 (any_some g3) fun cd hc hcd=>?_
 refine wpAny_bind (wpAny_pure (wpAny_bind (wpAny_bind (wpAny_loadPart ho (wpAny_bind ((looks_clsIn X hc).here ?_))))))
 refine er hcd ?_
 refine wpAny_pure (a:=some q) (wpAny_bind (wpAny_pure (wpAny_bind ?_)))
 have hlen:∀hsh t,(putL (nm n) hsh (.str (nm n) t) vb es).length≤z.1.length + 1:=fun hsh t=>by
  have q1:=putL_ents (n:=n) (hsh:=hsh) (t:=t) (v:=vb) (xs:=z.2) (a:=b) en hs.length
  refine er (ents_len q1) ?_;exact putF_len ..
 have h50:=Nat.le_of_ble_eq_true ok1
 refine nsSet_dict (s:=⟨hh,g,dr,tk + 1,os⟩) hoq (by refine er (getL_ents en) ?_;rfl) ?_
 have hu:=Heap.get?_update_self (Obj.putName (nm n) (PyData.keyHash w.params (nm n)) (.str (nm n) (tk + 1)) vb) hoq (by rw [putName_dict];rfl)
 rw [putName_dict] at hu
 refine wpAny_bind (wpAny_lookBehind (s:=⟨_,_,_,_,_⟩) hu (pastItsLine_dict (by refine er List.size_toArray (er sizeLine_eq ?_);have:=hlen (PyData.keyHash w.params (nm n)) (tk + 1);exact o31 h50 this)) ?_)
 refine wpAny_pure ?_
 obtain ⟨Z',sub,S'⟩:=S.setCell (h':=hh.update q (Obj.putName (nm n) (PyData.keyHash w.params (nm n)) (.str (nm n) (tk + 1)) vb)) hat (getH_lt e2) (Heap.SameBut.update ..) (t:=.idc (putF n b z.1 z.2).1)
  (xs:=(putF n b z.1 z.2).2) (I011121 hmo _ hu _ _ rfl (putL_ents en hs.length)) (putV_vals hb hs)
 exact h Z' ad _ _ sub (Pre.refl ad) S'
end
section
variable {prog:Program}{w:World}{K:Frag}{A:Around}{E:Value→Shared→Prop}{s:Shared}{Q:Value→Shared→Prop}{Z:Heap}{ad:List Addr}
theorem val_int {i:Int}{v:Value}(h:Val prog w Z ad (.int i) v):∃t,v=.int i t:=by refine X1 h.inv fun _ q0=>?_;subst q0;exact ⟨_,rfl⟩
theorem val_str {a:AV}{x:Str}{v:Value}(h:Val prog w Z ad a v)(e:asStr a=some x):∃t,v=.str x t:=by
 cases a with
 | lit k=>cases Option.some.inj e;exact h.inv
 | str s=>cases Option.some.inj e;exact h.inv
 | _=>exact noS e
theorem int_val {a:AV}{i:Int}{v:Value}(h:Val prog w Z ad a v)(e:intA a=some i):∃t,v=.int i t:=by cases intA_eq e;exact h.inv
theorem val_bool {b:Bool}{v:Value}(h:Val prog w Z ad (.bool b) v):v=.bool b:=by have q0:=h.inv;subst q0;rfl
theorem mulOk {i j:Int}(hi:i.natAbs < 1000)(hj:j.natAbs < 1000000):IntMulOk i j:=by
 unfold IntMulOk
 have h1:Builtin.Int.intBits i≤64:=intBits_le_64 (oa3 hi) (oa4 hi)
 have:decide (Builtin.Int.intBits i > shortFactorBits)=false:=decide_eq_false (by show¬_ > 64;exact o207 h1)
 refine er this ?_
 simp
theorem p_bin {op:Operator}{a b r:AV}{va vb:Value}(ha:Val prog w Z ad a va)(hb:Val prog w Z ad b vb)(e:binV op a b=some r)(h:∀v tk,Val prog w Z ad r v→Q v {s with toks:=tk}) :
  wpAny (model prog w) A (binaryOp op va vb) Q E s:=by
 cases op with
 | Add=>
  unfold binV at e
  cases ea:intA a with
  | some i=>
   rw [ea] at e
   refine oM e fun j eb q=>?_;subst q
   refine X1 (int_val ha ea) fun t q=>?_;subst q
   refine X1 (int_val hb eb) fun u q=>?_;subst q
   exact PyProof.Rows.add_int (h _ _ .int)
  | none=>
   rw [ea] at e
   refine oB e fun x e1 e=>oB e fun y e2 e=>oI e fun hl q=>?_;subst q
   refine X1 (val_str ha e1) fun t q=>?_;subst q
   refine X1 (val_str hb e2) fun u q=>?_;subst q
   exact PyProof.Rows.add_str (hsz:=sizeLine_eq.symm▸(Nat.le_trans hl (by decide))) fun t' tk=>h _ tk .str
 | Sub=>
  refine oB e fun i ea e=>oM e fun j eb q=>?_;subst q
  refine X1 (int_val ha ea) fun t q=>?_;subst q
  refine X1 (int_val hb eb) fun u q=>?_;subst q
  exact PyProof.Rows.sub_int (h _ _ .int)
 | Mult=>
  refine oB e fun i ea e=>oB e fun j eb e=>oI e fun hl q=>?_;subst q
  refine X1 (int_val ha ea) fun t q=>?_;subst q
  refine X1 (int_val hb eb) fun u q=>?_;subst q
  exact PyProof.Rows.mul_int (hm:=mulOk hl.1 hl.2) (h _ _ .int)
 | Mod=>
  refine oB e fun i ea e=>oB e fun j eb e=>?_
  by_cases hj:j=0
  ·exact noS ((if_pos hj).symm.trans e)
  cases Option.some.inj ((if_neg hj).symm.trans e)
  refine X1 (int_val ha ea) fun t q=>?_;subst q
  refine X1 (int_val hb eb) fun u q=>?_;subst q
  exact PyProof.Rows.mod_int hj (h _ _ .int)
 | _=>exact noS e
theorem p_iadd {a b r:AV}{i j:Int}{va vb:Value}(ha:Val prog w Z ad a va)(hb:Val prog w Z ad b vb)(ea:a=.int i)(eb:b=.int j)(er:r=.int (i + j))(h:∀v tk,Val prog w Z ad r v→Q v {s with toks:=tk}) :
  wpAny (model prog w) A (inplaceOp .Add va vb) Q E s:=by
 subst ea eb er
 refine X1 (val_int ha) fun t q0=>?_;subst q0
 refine X1 (val_int hb) fun u q0=>?_;subst q0
 exact PyProof.Rows.iadd_int (h _ _ .int)
theorem eqV_c {a b:AV}{q:Bool}{G:Prop}(e:eqV a b=some q)(k1:∀i j,a=.int i→b=.int j→decide (i=j)=q→G)(k2:∀x y,asStr a=some x→asStr b=some y→decide (x=y)=q→G):G:=by
 cases a with
 | int i=>exact oM e fun j e1 e2=>k1 i j rfl (intA_eq e1) e2
 | str s=>exact oM e fun t e1 e2=>k2 s t rfl e1 e2
 | lit k=>
  cases b with
  | lit l=>exact k2 (nm k) (nm l) rfl rfl ((decide_eq_decide.mpr ⟨nm_inj,fun q=>congrArg _ q⟩).trans ((nbeq k l).symm.trans (Option.some.inj e)))
  | str t=>exact k2 (nm k) t rfl rfl (Option.some.inj e)
  | _=>exact noS e
 | _=>exact noS e
theorem eqV_val {a b:AV}{va vb:Value}{q:Bool}{G:Prop}(ha:Val prog w Z ad a va)(hb:Val prog w Z ad b vb)(e:eqV a b=some q)(k1:∀i j t u,va=.int i t→vb=.int j u→decide (i=j)=q→G)(k2:∀x y t u,va=.str x t→vb=.str y u→decide (x=y)=q→G):G:=
 eqV_c e (fun i j p1 p2 p3=>X1 (val_int (p1▸ha)) fun t q1=>X1 (val_int (p2▸hb)) fun u q2=>k1 i j t u q1 q2 p3) fun x y p1 p2 p3=>X1 (val_str ha p1) fun t q1=>X1 (val_str hb p2) fun u q2=>k2 x y t u q1 q2 p3
theorem beq_dec {α:Type} [DecidableEq α] (x y:α):(x == y)=decide (x=y):=by
 by_cases h:x=y <;> simp [h]
theorem eqV_dec {a y:AV}{x z:Str}{b:Bool}(ea:asStr a=some x)(ey:asStr y=some z)(e:eqV a y=some b):b=decide (x=z):=
 eqV_c e (fun i j p _ _=>noS (show asStr (.int i)=some x from p▸ea)) fun x' y' e1 e2 e3=>by cases Option.some.inj (ea.symm.trans e1);cases Option.some.inj (ey.symm.trans e2);exact e3.symm
theorem strs_ex {xs:List AV}{vs:List Value}(h:Vals prog w Z ad xs vs)(hall:∀y∈xs,(asStr y).isSome=true):∃ys,StrsAre vs ys:=by
 induction xs generalizing vs with
 | nil=>cases (show vs= [] from h.inv);exact ⟨[],.nil⟩
 | cons y xs ih=>
  refine X22 h.inv fun v us q h1 r=>?_;subst q
  refine X1 (Option.isSome_iff_exists.mp (hall _ (.head _))) fun z hz=>?_
  refine X1 (val_str h1 hz) fun t q0=>?_;subst q0
  exact X1 (ih r fun y hy=>hall y (.tail _ hy)) fun ys hys=>⟨z :: ys,.cons _ _ hys⟩
theorem memV_strs {x:Str}{a:AV}(ea:asStr a=some x){xs:List AV}{vs:List Value}{q:Bool}(hv:Vals prog w Z ad xs vs)(e:memV a xs=some q)(hall:∀y∈xs,(asStr y).isSome=true):∃ys,StrsAre vs ys∧ys.any (· == x)=q:=by
 induction xs generalizing vs with
 | nil=>cases (show vs= [] from hv.inv);cases e;exact ⟨[],.nil,rfl⟩
 | cons y xs ih=>
  refine X22 hv.inv fun v us q' h r=>?_;subst q'
  refine X1 (Option.isSome_iff_exists.mp (hall y (.head _))) fun z hz=>?_
  refine X1 (val_str h hz) fun t q0=>?_;subst q0
  unfold memV at e
  cases eb:eqV a y with
  | none=>rw [eb] at e;exact noS e
  | some b=>
   rw [eb] at e
   have hb:=eqV_dec ea hz eb
   cases b with
   | true=>
    refine X1 (strs_ex r fun y hy=>hall y (.tail _ hy)) fun ys hys=>⟨z :: ys,.cons _ _ hys,?_⟩
    rw [←Option.some.inj e,of_decide_eq_true hb.symm,List.any_cons,beq_self_eq_true,Bool.true_or]
   | false=>
    refine X11 (ih r e fun y hy=>hall y (.tail _ hy)) fun ys hys hq=>⟨z :: ys,.cons _ _ hys,?_⟩
    rw [List.any_cons,hq,beq_eq_false_iff_ne.mpr fun q=>of_decide_eq_false hb.symm q.symm,Bool.false_or]
end
section
variable {prog:Program}{w:World}{K:Frag}{A:Around}{E:Value→Shared→Prop}{s:Shared}{Q:Value→Shared→Prop}{Z:Heap}{ad:List Addr}
theorem ObjIs.tup {h:Heap}{a:Addr}{vs:List Value}(x:ObjIs prog w h a .tup vs):IsTup h a vs.toArray:=by
 refine X01111 x fun _ o ho n q0=>?_;subst q0;exact (I121 _ ho rfl n rfl)
theorem ObjIs.lst {h:Heap}{a:Addr}{vs:List Value}(x:ObjIs prog w h a .lst vs):h.IsList a vs.toArray:=by
 refine X01111 x fun _ o ho n q0=>?_;subst q0;exact (I121 _ ho rfl n rfl)
theorem ObjIs.dct {h:Heap}{a:Addr}{ks:List Str}{vs:List Value}(x:ObjIs prog w h a (.dct ks) vs):ks.length=vs.length∧h.DictOf (strKind prog w) a (ks.zip vs):=by
 refine X0112 x fun _ o ho hl hd=>?_;exact ⟨hl,Heap.dictOf_iff.mpr (I11 o ho hd)⟩
theorem intsOf_are {xs:List AV}{vs:List Value}{js:List Int}(h:Vals prog w Z ad xs vs)(e:intsOf xs=some js):IntsAre vs js:=by
 induction xs generalizing vs js with
 | nil=>cases (show _= [] from h.inv);cases e;exact .nil
 | cons x xs ih=>
  cases h with
  | cons h r=>
   unfold intsOf at e
   split at e
   ·rename_i heq;cases heq
   ·rename_i i xs' heq
    cases heq
    refine X11 (Option.map_eq_some_iff.mp e) fun l hl q0=>?_;subst q0
    refine X1 (val_int h) fun t q0=>?_;subst q0
    exact .cons _ _ (ih r hl)
   ·cases e
theorem dget_at {s:Str}:∀{ks:List Str} {xs:List AV} {vs:List Value},Vals prog w Z ad xs vs→ks.length=vs.length→
  (∀r,dget ks xs s=some r→∃v,valueAt (ks.zip vs) s=some v∧Val prog w Z ad r v)∧(valueAt (ks.zip vs) s).isSome=(dget ks xs s).isSome
 | [],_,_,.nil,_=>⟨fun _ e=>(by exact noS e),rfl⟩
 | k :: ks,_,_,.cons (x:=x) (v:=v) (xs:=xs) (vs:=vs) h r,hl=>by
  have ih:=dget_at (s:=s) r (Nat.succ.inj hl)
  unfold valueAt at ih ⊢
  unfold dget
  simp only [List.zip_cons_cons,List.find?_cons]
  by_cases hk:k=s
  ·simp only [hk,if_true,decide_true,Option.map_some,Option.isSome_some,and_true,Option.some.injEq]
   exact fun _ q=>(I11 v rfl (q▸h))
  ·simp only [hk,if_false,decide_false]
   exact ih
theorem isVal {a:AV}{v:Value}(h:Val prog w Z ad a v):rawA a=false→plainIs v .none=true∧(v == Value.none)=nonA a:=
 Val.rec (motive_1:=fun a v _=>rawA a=false→plainIs v .none=true∧(v == Value.none)=nonA a) (motive_2:=fun _ _ _=>True) (fun _=>⟨rfl,rfl⟩) (fun _=>⟨rfl,rfl⟩) (fun _=>⟨rfl,rfl⟩) (fun _=>⟨rfl,rfl⟩) (fun _=>⟨rfl,rfl⟩) (fun _ _=>⟨rfl,rfl⟩) (fun _=>⟨rfl,rfl⟩) (fun _ q=>noB' q) (fun _ _ _ _=>⟨rfl,rfl⟩) (fun _ _ _ _=>⟨rfl,rfl⟩) ⟨⟩ (fun _ _ _ _=>⟨⟩) h
theorem p_cmp {x:Fx}{σ:St}(S:Sit prog w K x σ Z ad s.heap){op:CmpOp}{a b r:AV}{va vb:Value}(ha:Val prog w Z ad a va)(hb:Val prog w Z ad b vb)(e:cmpV σ.H op a b=some r)
  (h:∀v tk,Val prog w Z ad r v→Q v {s with toks:=tk}):wpAny (model prog w) A (compareOp op va vb) Q E s:=by
 refine oM e fun q e q0=>?_
 have hq:∀tk,Q (.bool q) {s with toks:=tk}:=fun tk=>h _ tk (re q0 .bool)
 have h0:Q (.bool q) s:=hq s.toks
 cases op with
 | Eq=>exact eqV_val ha hb e (fun i j t u p1 p2 p3=>er p1 (er p2 (PyProof.Rows.eq_int (er (beq_dec i j) (er p3 h0))))) (fun x y t u p1 p2 p3=>er p1 (er p2 (PyProof.Rows.eq_str (er (beq_dec x y) (er p3 h0)))))
 | NotEq=>
  refine oM (show (eqV a b).map (fun x=>!x)=some q from e) fun z e q1=>?_
  exact eqV_val ha hb e (fun i j t u p1 p2 p3=>er p1 (er p2 (PyProof.Rows.ne_int (er (show (i !=j)=q from (congrArg (!·) ((beq_dec i j).trans p3)).trans q1) h0)))) (fun x y t u p1 p2 p3=>er p1 (er p2 (PyProof.Rows.ne_str (er (show (x !=y)=q from (congrArg (!·) ((beq_dec x y).trans p3)).trans q1) h0))))
 | Lt=>exact oB e fun i e1 e=>oM e fun j e2 q1=>X1 (int_val ha e1) fun t p1=>X1 (int_val hb e2) fun u p2=>er p1 (er p2 (PyProof.Rows.lt_int (er q1 h0)))
 | Gt=>exact oB e fun i e1 e=>oM e fun j e2 q1=>X1 (int_val ha e1) fun t p1=>X1 (int_val hb e2) fun u p2=>er p1 (er p2 (PyProof.Rows.gt_int (er q1 h0)))
 | Is=>exact gG2 e fun e1 e2 e=>X01 (isVal ha (Bool.not_eq_true' _▸e2)) fun p1 p2=>er (show vb=.none from (nonA_eq e1▸hb).inv) (wpAny_is_plain p1 (er (p2.trans (Option.some.inj e)) h0))
 | IsNot=>exact gG2 e fun e1 e2 e=>X01 (isVal ha (Bool.not_eq_true' _▸e2)) fun p1 p2=>er (show vb=.none from (nonA_eq e1▸hb).inv) (wpAny_isNot_plain p1 (er ((congrArg (!·) p2).trans (Option.some.inj e)) h0))
 | In=>
  refine oC e (fun xs e1 e=>?_) fun _ e=>oC e (fun y e1 e=>?_) fun _ e=>?_
  ·refine X22 (S.look hb (tupOf_eq e1)) fun p vs p2 ho hs=>er p2 (cC e (fun hall e=>bA hall fun hs1 hs2=>?_) fun _ e=>?_)
   ·exact X1 (Option.isSome_iff_exists.mp hs1) fun y hy=>X1 (val_str ha hy) fun t p1=>X11 (memV_strs hy hs e (List.all_eq_true.mp hs2)) fun ys hys q1=>er p1 (in_tuple_strs ho.tup hys (er q1 h0))
   ·exact oB e fun i ei e=>oM e fun js ej q1=>X1 (int_val ha ei) fun t p1=>er p1 (in_tuple_ints ho.tup (intsOf_are hs ej) (er q1 h0))
  ·exact X22 (S.look hb (dctOf_eq e1)) fun p vs p2 ho hs=>oM e fun z hz q1=>X1 (val_str ha hz) fun t p1=>X01 ho.dct fun hl hd=>er p1 (er p2 (wpAny_in_of (knd:=strKind prog w) (k:=z) (strKind_is ..) ho.1 hd.mapOf (er ((dget_at (s:=z) hs hl).2) (er q1 (hq _)))))
  ·exact oB e fun y hy e=>oM e fun z hz q1=>X1 (val_str ha hy) fun t p1=>X1 (val_str hb hz) fun u p2=>er p1 (er p2 (PyProof.Rows.in_str (er q1 h0)))
 | NotIn=>exact oB e fun y e1 e=>X22 (S.look hb (dctOf_eq e1)) fun p vs p2 ho hs=>oM e fun z hz q1=>X1 (val_str ha hz) fun t p1=>X01 ho.dct fun hl hd=>er p1 (er p2 (wpAny_notIn_of (knd:=strKind prog w) (k:=z) (strKind_is ..) ho.1 hd.mapOf (er ((dget_at (s:=z) hs hl).2) (er q1 (hq _)))))
 | _=>exact noS e
theorem sub_dec (e:Mine.E)(o i:Value):subscripted (dec e) false o i=operate [o,i] (getItem o i):=by
 cases e <;> rfl
theorem idx_at {xs:List AV}{vs:List Value}(hs:Vals prog w Z ad xs vs){i:Int}{r:AV}(e:idx xs i=some r) :
  -1000000 < i∧i < 1000000∧∃v j,seqIndex? i vs.length=some j∧vs[j]? =some v∧Val prog w Z ad r v∧(0≤i→j=i.toNat)∧(i < 0→-(vs.length:Int)≤i∧j=(i + vs.length).toNat):=by
 unfold idx at e
 split at e
 ·rename_i hb
  refine (I02 hb.1 hb.2 ?_)
  split at e
  ·rename_i h0
   refine X11 (hs.get e) fun v hv hV=>?_
   obtain ⟨l,_⟩:=List.getElem?_eq_some_iff.mp hv
   refine (I24 v i.toNat ?_ hv hV (fun _=>rfl) (fun q=>o88 h0 q))
   unfold seqIndex?
   simp only [Int.not_lt.mpr (h0:(0:Int)≤i),if_false]
   exact er (if_pos (by simp only [Bool.and_eq_true,decide_eq_true_eq];exact o90 h0 l)) rfl
  ·rename_i h0
   split at e
   ·rename_i h1
    rw [hs.length] at h1 e
    refine X11 (hs.get e) fun v hv hV=>?_
    refine (I24 v _ (seqIndex_neg (o15 h0) (o30 h1)) hv hV (fun q=>absurd q h0) (fun q=>⟨(o30 h1),rfl⟩))
   ·cases e
 ·cases e
theorem p_sub {x:Fx}{σ:St}(S:Sit prog w K x σ Z ad s.heap){value:PySem.Expr}{sl:Mine.E}{a b r:AV}{va vb:Value}(ha:Val prog w Z ad a va)(hb:Val prog w Z ad b vb)(e:subV σ.H a b=some r)
  (h:∀v tk,Val prog w Z ad r v→Q v {s with toks:=tk}):wpAny (model prog w) A (subscriptTail value (dec sl) va vb) Q E s:=by
 have h0:∀v,Val prog w Z ad r v→Q v s:=fun v hv=>h v s.toks hv
 refine oC e (fun xs e1 e=>?_) fun _ e=>oC e (fun xs e1 e=>?_) fun _ e=>oC e (fun y e1 e=>?_) fun _ e=>?_
 ·exact oB e fun i ei e=>X22 (S.look ha (tupOf_eq e1)) fun p vs p1 ho hs=>X1 (int_val hb ei) fun t p2=>X0224 (idx_at hs e) fun l1 l2 v j hj hv hV _ _=>er p1 (er p2 (tail_any ho.tup.typeIs slot_tuple_getitem.lookup (getItem_tuple ho.tup (Int.le_trans (by decide) (Int.le_of_lt l1)) (Int.lt_of_lt_of_le l2 (by decide)) (by simpa using hj) (by simpa using hv) (h0 _ hV)) (sub_dec _ _ _)))
 ·refine oB e fun i ei e=>X22 (S.look ha (lstOf_some e1)) fun p vs p1 ho hs=>X1 (int_val hb ei) fun t p2=>X0224 (idx_at hs e) fun l1 l2 v j hj hv hV hp hn=>er p1 (er p2 ?_)
  by_cases hi:0≤i
  ·exact tail_any (T:= "list") ho.lst.typeIs slot_list_getitem.lookup (wpAny_getItem_list ho.lst hi (Int.lt_of_lt_of_le l2 (by decide)) (hp hi▸(by simpa using hv)) (h0 _ hV)) (sub_dec _ _ _)
  ·exact X01 (hn (o15 hi)) fun q1 q0=>tail_any (T:= "list") ho.lst.typeIs slot_list_getitem.lookup (wpAny_getItem_list_neg ho.lst (o15 hi) (by simpa using q1) (Int.le_trans (by decide) (Int.le_of_lt l1)) (q0▸(by simpa using hv)) (h0 _ hV)) (sub_dec _ _ _)
 ·exact oB e fun y hy e=>X22 (S.look ha (dctOf_eq e1)) fun p vs p1 ho hs=>X1 (val_str hb hy) fun t p2=>X01 ho.dct fun hl hd=>X11 ((dget_at (s:=y) hs hl).1 _ e) fun v hv hV=>er p1 (er p2 (tail_any (T:= "dict") hd.mapOf.typeIs slot_dict_getitem.lookup (wpAny_getItem_of (knd:=strKind prog w) (k:=y) (strKind_is ..) hd.mapOf hv (h _ _ hV)) (sub_dec _ _ _)))
 ·refine oB e fun y hy e=>oB e fun i ei e=>X1 (val_str ha hy) fun t p1=>X1 (int_val hb ei) fun u p2=>er p1 (er p2 ?_)
  by_cases hi:0≤i∧i < 1000000
  ·refine oM ((if_pos hi).symm.trans e) fun c hc q0=>?_
   refine tail_any (T:= "str") (typeIs_str s y t) slot_str_getitem.lookup (PyProof.Rows.getItem_str (c:=c) ?_ ?_ (h _ _ (re q0 .str))) (sub_dec _ _ _)
   ·simp only [Bool.or_eq_false_iff,decide_eq_false_iff_not];exact oa5 hi
   ·obtain ⟨l,_⟩:=Array.getElem?_eq_some_iff.mp hc
    have:seqIndex? i y.length=some i.toNat:=by
     unfold seqIndex?
     simp only [Int.not_lt.mpr hi.1,if_false]
     have:i < (y.length:Int):=by show i < (y.cps.size:Int);exact o19 l
     exact er (if_pos (by simp only [Bool.and_eq_true,decide_eq_true_eq];exact o92 hi this)) rfl
    exact er this hc
  ·exact noS ((if_neg hi).symm.trans e)
end
noncomputable def bval:Bi→Value
 | .len=>.builtin "len" | .str=>.type "str" | .int=>.type "int" | .abs=>.builtin "abs" | .isi=>.builtin "isinstance"
 | .list=>.type "list" | .range=>.type "range" | .enum=>.type "enumerate"
section
variable {prog:Program}{w:World}{K:Frag}{A:Around}{X:Value→Shared→Prop}{s:Shared}{Q:Value→Shared→Prop}{Z:Heap}{ad:List Addr}
theorem looks_type {M:Model}{h:Heap}{a:Addr}{T:String}(p:∃o,h.get? a=some o∧o.cls=.type T):Looks M h (typeOf (.ref a)) (.type T):=by
 refine X11 p fun o h1 h2=>?_
 have:o.cls=.type T:=h2
 refine (Looks.ld (part:=none) h1).andThen ?_
 refine er h2 ?_;exact .now
theorem p_isi (F:KF K)(S:K.In s.heap){a:AV}{va:Value}{x:Fx}{σ:St}(T:Sit prog w K x σ Z ad s.heap)(ha:Val prog w Z ad a va){q:Bool}(e:typC σ.H a=some q){Q:Value→Shared→Prop}(h:∀tk,Q (.bool q) {s with toks:=tk}) :
  wpAny (model prog w) A (call (.builtin "isinstance") [va,.ref (cad 1)]) Q X s:=by
 refine cC e (fun hp e=>?_) fun _ e=>oM e fun xs e1 q0=>?_
 ·replace h:∀tk,Q (.bool false) {s with toks:=tk}:=fun tk=>er (Option.some.inj e) (h tk)
  exact Val.rec (motive_1:=fun a v _=>plnA a=true→wpAny (model prog w) A (call (.builtin "isinstance") [v,.ref (cad 1)]) Q X s) (motive_2:=fun _ _ _=>True)
   (fun _=>isn_call (P:=fun _=>True) S (fun M=>Looks.of_pure rfl) (F.isn "NoneType" (by decide)) nofun trivial none_cls (h _))
   (fun _=>isn_call (P:=fun _=>True) S (fun M=>Looks.of_pure rfl) (F.isn "bool" (by decide)) nofun trivial bool_cls (h _))
   (fun _=>isn_call (P:=fun _=>True) S (fun M=>Looks.of_pure rfl) (F.isn "int" (by decide)) nofun trivial int_cls (h _))
   (fun _=>isn_call (P:=fun _=>True) S (fun M=>Looks.of_pure rfl) (F.isn "str" (by decide)) nofun trivial str_cls (h _))
   (fun _=>isn_call (P:=fun _=>True) S (fun M=>Looks.of_pure rfl) (F.isn "str" (by decide)) nofun trivial str_cls (h _))
   (fun _ q=>noB q) (fun q=>noB q) (fun _ q=>noB q) (fun _ _ _ q=>noB q) (fun _ _ _ q=>noB q) ⟨⟩ (fun _ _ _ _=>⟨⟩) ha hp
 ·replace h:∀tk,Q (.bool false) {s with toks:=tk}:=fun tk=>er q0 (h tk)
  refine oC e1 (fun ys e1 _=>?_) fun _ e1=>?_
  ·exact X22 (T.look ha (tupOf_eq e1)) fun p vs hp ho _=>er hp (have c:∃o,s.heap.get? p=some o∧o.cls=.type "tuple" :=X12 ho.tup fun _ h1 h2 _=>I11 _ h1 h2;isn_call (P:=fun h=>∃o,h.get? p=some o∧o.cls=.type "tuple") S (fun M=>looks_type c) (F.isn "tuple" (by decide)) nofun c tuple_cls (h _))
  ·exact X22 (T.look ha (lstOf_some e1)) fun p vs hp ho _=>er hp (have c:∃o,s.heap.get? p=some o∧o.cls=.type "list" :=X12 ho.lst fun _ h1 h2 _=>I11 _ h1 h2;isn_call (P:=fun h=>∃o,h.get? p=some o∧o.cls=.type "list") S (fun M=>looks_type c) (F.isn "list" (by decide)) nofun c list_cls (h _))
theorem log2_small {n:Nat}(h:n < 10000):n.log2 < 1920:=by
 by_cases h0:n=0
 ·subst h0;decide
 ·have:=(Nat.log2_lt h0 (k:=14)).mpr (Nat.le_trans (by assumption) (by decide))
  exact Nat.le_trans (by assumption) (by decide)
theorem Vals.one {Z:Heap}{ad:List Addr}{as:List AV}{vs:List Value}{a:AV}(ha:Vals prog w Z ad as vs)(e:one as=some a):∃v,vs= [v]∧Val prog w Z ad a v:=
 X22 (show Vals prog w Z ad [a] vs from one_eq e▸ha).inv fun v us q h k=>⟨v,(show us= [] from k.inv)▸q,h⟩
theorem Vals.int1 {Z:Heap}{ad:List Addr}{as:List AV}{vs:List Value}{i:Int}(ha:Vals prog w Z ad as vs)(e:(Mine.one as).bind intA=some i):∃t,vs= [.int i t]:=
 oB e fun a e1 e=>X11 (ha.one e1) fun v q ha=>(int_val ha e).imp fun t q'=>q.trans (congrArg (fun v=>[v]) q')
theorem p_len {x:Fx}{σ:St}(S:Sit prog w K x σ Z ad s.heap){a r:AV}{v:Value}(ha:Val prog w Z ad a v)(e:lenA σ.H a=some r)
  (h:∀v tk,Val prog w Z ad r v→Q v {s with toks:=tk}):wpAny (model prog w) A (call (bval .len) [v]) Q X s:=by
 refine oC e (fun xs e1 e=>oI e fun hl q0=>X22 (S.look ha (tupOf_eq e1)) fun p us q ho hs=>er q ?_) fun _ e=>oC e (fun xs e1 e=>oI e fun hl q0=>X22 (S.look ha (lstOf_some e1)) fun p us q ho hs=>er q ?_) fun _ e=>oB e fun y hy e=>oI e fun hl q0=>X1 (val_str ha hy) fun t q=>er q ?_
 ·exact PyProof.Rows.len_tuple ho.tup (by simp only [List.size_toArray,←hs.length];exact oa2 hl) (h _ _ (re q0 (by simp only [List.size_toArray,←hs.length];exact .int)))
 ·exact call_len_list ho.lst (by simp only [List.size_toArray,←hs.length];exact oa2 hl) (h _ _ (re q0 (by simp only [List.size_toArray,←hs.length];exact .int)))
 ·exact PyProof.Rows.len_str (Int.not_le.mpr (oa2 hl)) (h _ _ (re q0 .int))
theorem p_calb (F:KF K){x:Fx}{σ:St}(S:Sit prog w K x σ Z ad s.heap){b:Bi}{as:List AV}{vs:List Value}{r:AV}(ha:Vals prog w Z ad as vs)(e:calB σ.H b as=some r)
  (h:∀v tk,Val prog w Z ad r v→Q v {s with toks:=tk}):wpAny (model prog w) A (call (bval b) vs) Q X s:=by
 cases b with
 | len=>exact oB e fun a e1 e=>X11 (ha.one e1) fun v q hb=>er q (p_len S hb e h)
 | str=>exact oB e fun i e1 e=>oI e fun hi q0=>X1 (ha.int1 e1) fun t q=>er q (P.str_of_int (log2_small hi) (h _ _ (re q0 .str)))
 | int=>exact oM e fun i e1 q0=>X1 (ha.int1 e1) fun t q=>er q (call_int_int (h _ _ (re q0 .int)))
 | abs=>exact oM e fun i e1 q0=>X1 (ha.int1 e1) fun t q=>er q (call_abs_int fun u tk=>h _ _ (re q0 (er oa6 .int)))
 | isi=>exact oB e fun a e1 e=>oM e fun z hz q0=>oB e1 fun y e2 e1=>gG e1 fun hk e1=>X22 (show Vals prog w Z ad [y.1,y.2] vs from two_eq e2▸ha).inv fun v us q h1 r=>X22 r.inv fun u us' q' h2 r'=>er q (er q' (er (show us'= [] from r'.inv) (er (show u=.ref (cad 1) from (isK1_eq hk▸h2).inv) (p_isi F (S.stat.kin.keeps S.hs.zsub) S h1 ((Option.some.inj e1).symm▸hz) fun tk=>h _ _ (re q0 .bool)))))
 | _=>exact noS e
theorem Sit.orc {x:Fx}{σ:St}{h:Heap}(S:Sit prog w K x σ Z ad h)(o:List AV)(b:List Prop):Sit prog w K x {σ with orc:=o,obl:=b} Z ad h:=⟨S.kd,S.stat,S.hs,S.loc,S.cel⟩
theorem m_find {t u:Str}{a b:AV}{va vb:Value}(ha:Val prog w Z ad a va)(hb:Val prog w Z ad b vb)(ea:asStr a=some t)(eb:asStr b=some u)
  (h:∀v tk,Val prog w Z ad (.int (Txt.find t u)) v→Q v {s with toks:=tk}):wpAny (model prog w) A (call (.builtin "str.find") [va,vb]) Q X s:=by
 refine X1 (val_str ha ea) fun t q0=>?_;subst q0;refine X1 (val_str hb eb) fun u q0=>?_;subst q0
 exact SC.find (h _ _ .int)
theorem ObjIs.lstAt {h:Heap}{a:Addr}{vs:List Value}(x:ObjIs prog w h a .lst vs):∃n,h.get? a=some {cls:=.type "list",data:=.seq vs.toArray n}:=by
 refine X01111 x fun _ o ho n q0=>?_;subst q0;exact ⟨n,ho⟩
theorem m_append {x:Fx}{σ:St}(S:Sit prog w K x σ Z ad s.heap){r:Nat}{xs:List AV}{a b:AV}{va vb:Value}(ha:Val prog w Z ad (.ref r) va)(e:getH σ.H r=some (.lst,xs))(hb:Val prog w Z ad b vb)
  (hl:small xs) (h:OkS prog w K x Z ad s {σ with H:=setH σ.H r (.lst,xs ++ [b])} fun _ _ s'=>Q .none s'):wpAny (model prog w) A (call (.builtin "list.append") [va,vb]) Q X s:=by
 refine X23 (S.cellAt ha e) fun p vs q0 hat ho hs=>?_;subst q0
 refine X1 ho.lstAt fun n hn=>?_
 refine append_at hn (fun h' sb he=>?_) (by refine er sizeLine_eq (er List.size_toArray (re hs.length ?_));have:xs.length≤5000:=hl;exact Nat.le_trans (by assumption) (by decide))
 refine X11 (S.setCell hat (getH_lt e) sb (t:=.lst) (xs:=xs ++ [b]) (vs:=vs ++ [vb]) (I01111 ho.1 _ he (n + 1) (by simp)) (hs.append (.cons hb .nil))) fun Z' sub S'=>?_
 exact h Z' ad h' s.toks sub (Pre.refl ad) S'
theorem popAt_take:∀{xs ys:List AV} {k:Nat} {a:AV},popAt xs k=some (a,ys)→xs[k]? =some a∧ys=xs.eraseIdx k
 | [],_,_,_,e=>by exact noS e
 | x :: xs,ys,0,a,e=>by cases e;exact ⟨rfl,rfl⟩
 | x :: xs,ys,k + 1,a,e=>by
  refine X11 (Option.map_eq_some_iff.mp e) fun q0 hq hz=>?_;obtain ⟨b,zs⟩:=q0
  cases hz
  refine X01 (popAt_take hq) fun h1 q9=>?_;subst q9
  exact ⟨h1,rfl⟩
theorem lastOf_pop:∀{xs ys:List AV} {a:AV},lastOf xs=some (a,ys)→popAt xs (xs.length - 1)=some (a,ys)
 | [],_,_,e=>by exact noS e
 | [x],_,_,e=>by cases e;rfl
 | x :: y :: xs,ys,a,e=>by
  refine X11 (Option.map_eq_some_iff.mp e) fun q0 hq hz=>?_;obtain ⟨b,zs⟩:=q0
  cases hz
  have ih:=lastOf_pop hq
  show popAt (x :: y :: xs) ((y :: xs).length - 1 + 1)=_
  unfold popAt
  refine er ih ?_;rfl
theorem Vals.eraseIdx {xs:List AV}{vs:List Value}(h:Vals prog w Z ad xs vs)(n:Nat):Vals prog w Z ad (xs.eraseIdx n) (vs.eraseIdx n):=by
 induction n generalizing xs vs with
 | zero=>cases h with
  | nil=>exact .nil
  | cons h r=>exact r
 | succ n ih=>cases h with
  | nil=>exact .nil
  | cons h r=>exact .cons h (ih r)
theorem upd_lst {h:Heap}{p:Addr}{vs us:List Value}{n:Nat}(m:(p == sysModules)=false)(hn:h.get? p=some {cls:=.type "list",data:=.seq vs.toArray n})(f:Array Value→Array Value)(e:f vs.toArray=us.toArray) :
  ObjIs prog w (h.update p (Obj.mapSeq f)) p .lst us:=by
 refine (I0111 m _ (Heap.get?_update_self _ hn rfl) ?_)
 unfold Obj.mapSeq
 simp only [e]
 exact ⟨_,rfl⟩
theorem erase_arr (vs:List Value)(k:Nat)(hk:k < vs.length):vs.toArray.eraseIdxIfInBounds k=(vs.eraseIdx k).toArray:=by
 simp [hk]
set_option maxRecDepth 20000 in
theorem m_pop {x:Fx}{σ:St}(S:Sit prog w K x σ Z ad s.heap){r:Nat}{xs ys:List AV}{b:AV}{va:Value}{as:List Value}{k:Nat}(ha:Val prog w Z ad (.ref r) va)(e:getH σ.H r=some (.lst,xs))(hp:popAt xs k=some (b,ys))
  (hk:(as= []∧k=xs.length - 1)∨∃u,as= [.int k u]∧k < 5000) (hl:small xs)
  (h:OkS prog w K x Z ad s {σ with H:=setH σ.H r (.lst,ys)} fun Z' ad' s'=>∀v,Val prog w Z' ad' b v→Q v s'):wpAny (model prog w) A (call (.builtin "list.pop") (va :: as)) Q X s:=by
 refine X23 (S.cellAt ha e) fun p vs q0 hat ho hs=>?_;subst q0
 refine X1 ho.lstAt fun n hn=>?_
 refine X01 (popAt_take hp) fun h1 q0=>?_;subst q0
 refine X11 (hs.get h1) fun v hv hV=>?_
 obtain ⟨lk,_⟩:=List.getElem?_eq_some_iff.mp hv
 have hsz:vs.toArray.size≤sizeLine:=by refine er sizeLine_eq (er List.size_toArray (re hs.length ?_));have:xs.length≤5000:=hl;exact Nat.le_trans (by assumption) (by decide)
 have fin:Q v {s with heap:=s.heap.update p (Obj.mapSeq fun xs=>xs.eraseIdxIfInBounds k)}:=by
  refine X11 (S.setCell hat (getH_lt e) (Heap.SameBut.update ..) (t:=.lst) (upd_lst ho.1 hn (fun xs=>xs.eraseIdxIfInBounds k) (erase_arr vs k lk)) (hs.eraseIdx k)) fun Z' sub S'=>?_
  exact h Z' ad _ s.toks sub (Pre.refl ad) S' v (hV.mono sub (Pre.refl ad))
 rcases hk with ⟨rfl,rfl⟩ | ⟨u,rfl,hk⟩
 ·rw [hs.length] at hv fin
  refine call_meets PySem.F.slot_list_pop (I11 _ hn rfl) PySem.F.entry_list_pop (PySem.F.args_list_pop_1 _) (PySem.MeetsSeq.list_pop_last p vs.toArray n v (by simpa using hv) hsz) ⟨hn,?_⟩
  simp only [List.size_toArray];exact fin
 ·have hfi:Builtin.List.listFitsIndex (k:Int)=true:=PySem.fitsIndex_of (Int.natCast_nonneg _) (Int.lt_trans (Int.ofNat_lt.mpr hk) (by decide))
  have hsi:seqIndex? (k:Int) vs.toArray.size=some k:=List.size_toArray.symm▸(PySem.seqIndex_of (Int.natCast_nonneg _) (Int.ofNat_le.mpr (by assumption)))
  have hv':vs.toArray[k]? =some v:=List.getElem?_toArray.symm▸hv
  generalize (k:Int)=kI at hfi hsi
  have g:=PySem.MeetsSeq.list_pop_at p vs.toArray n kI u k v hfi hsi hv' hsz
  exact call_meets PySem.F.slot_list_pop (I11 _ hn rfl) PySem.F.entry_list_pop (PySem.F.args_list_pop_2 _ _) g ⟨hn,fin⟩
theorem m_extend {x:Fx}{σ:St}(S:Sit prog w K x σ Z ad s.heap){r:Nat}{xs ys:List AV}{b:AV}{va vb:Value}(ha:Val prog w Z ad (.ref r) va)(e:getH σ.H r=some (.lst,xs))(hb:Val prog w Z ad b vb)
  (eb:Mine.look σ.H b=some (.lst,ys)) (hl:small (xs ++ ys)) (h:OkS prog w K x Z ad s {σ with H:=setH σ.H r (.lst,xs ++ ys)} fun _ _ s'=>Q .none s'):wpAny (model prog w) A (call (.builtin "list.extend") [va,vb]) Q X s:=by
 refine X23 (S.cellAt ha e) fun p vs q0 hat ho hs=>?_;subst q0
 refine X22 (S.look hb eb) fun q us q0 hq hu=>?_;subst q0
 refine X1 ho.lstAt fun n hn=>?_
 refine X1 hq.lstAt fun n2 hn2=>?_
 have hl':xs.length + ys.length≤5000:=by have:(xs ++ ys).length≤5000:=hl;simpa using this
 have e1:=hs.length;have e2:=hu.length
 refine call_meets PySem.F.slot_list_extend (I11 _ hn rfl) PySem.F.entry_list_extend (PySem.F.args_list_extend_2 _ _)
  (AutoSeq1.list_extend_list_list_0 p vs.toArray n q us.toArray n2 ?_ (by refine er sizeLine_eq (er List.size_toArray ?_);exact o49 hl' e1) (by refine er sizeLine_eq (er List.size_toArray (er List.size_toArray ?_));exact o50 hl' e1 e2)) (I02 hn hn2 ?_)
 ·simp only [Bool.and_eq_true,Builtin.List.listTooLong,decide_eq_true_eq,not_and,List.size_toArray]
  intro _;refine er sizeLine_eq ?_;exact o51 hl' e1 e2
 ·refine X11 (S.setCell hat (getH_lt e) (Heap.SameBut.update ..) (t:=.lst) (upd_lst (us:=vs ++ us) ho.1 hn (fun x=>x ++ us.toArray) (by simp)) (hs.append hu)) fun Z' sub S'=>?_
  exact h Z' ad _ s.toks sub (Pre.refl ad) S'
theorem Sit.push1 {x:Fx}{σ:St}{h:Heap}(S:Sit prog w K x σ Z ad h){o:Obj}{t:Tg}{xs:List AV}{vs:List Value}(hf:o.isFreed=false)(ho:OIs prog w t vs o)(hs:Vals prog w Z ad xs vs) :
  ∃Z' ad',Sub Z Z'∧Pre ad ad'∧Sit prog w K x {σ with H:=σ.H ++ [some (t,xs)]} Z' ad' (h.push o)∧Val prog w Z' ad' (.ref σ.H.length) (.ref h.objs.size):=by
 have pr:Pre ad (ad ++ [h.objs.size]):=⟨_,rfl⟩
 have hm:(h.objs.size == sysModules)=false:=beq_eq_false_iff_ne.mpr (Nat.ne_of_gt (PyProof.Rows.modules_low (S.stat.lim.keeps S.hs.zsub)))
 obtain ⟨sub,S'⟩:=S.lay (h':=h.push o) (fun a o' e=>Heap.get?_push_of_some o e) (by rw [Heap.size_push];exact o17) [h.objs.size] [(t,xs)] fun Z' sub=>.cons (Nat.le_refl _) (I0111 hm o (Heap.get?_push_size _ hf) ho) (hs.mono sub pr) .nil
 refine (I23 _ _ sub pr S' (.ref ?_))
 rw [List.getElem?_append_right (S.hs.len.symm▸(Nat.le_refl _)),S.hs.len,Nat.sub_self];rfl
theorem m_add {x:Fx}{σ:St}(S:Sit prog w K x σ Z ad s.heap){xs ys:List AV}{a b:AV}{va vb:Value}(ha:Val prog w Z ad a va)(ea:Mine.look σ.H a=some (.lst,xs))(hb:Val prog w Z ad b vb)
  (eb:Mine.look σ.H b=some (.lst,ys)) (hl:small (xs ++ ys)) (h:OkS prog w K x Z ad s {σ with H:=σ.H ++ [some (.lst,xs ++ ys)]} fun Z' ad' s'=>∀v,Val prog w Z' ad' (.ref σ.H.length) v→Q v s') :
  wpAny (model prog w) A (binaryOp .Add va vb) Q X s:=by
 refine X22 (S.look ha ea) fun p vs q0 hp hs=>?_;subst q0
 refine X22 (S.look hb eb) fun q us q0 hq hu=>?_;subst q0
 refine X1 hp.lstAt fun n hn=>?_
 refine X1 hq.lstAt fun n2 hn2=>?_
 have hl':xs.length + ys.length≤5000:=by have:(xs ++ ys).length≤5000:=hl;simpa using this
 have e1:=hs.length;have e2:=hu.length
 refine concat_meets (I11 _ hn rfl) (I11 _ hn2 rfl) PySem.noFill_list_add PySem.seq_list_add PySem.F.slot_list_add PySem.F.entry_list_add (PySem.F.args_list_add_2 _ _)
  (PyProof.Rows.list_addW p q vs.toArray us.toArray n n2 none none #[] #[] (by refine er sizeLine_eq (er List.size_toArray (er List.size_toArray ?_));exact o52 hl' e1 e2)) (I02 hn hn2 ?_)
 have e:vs.toArray ++ us.toArray=(vs ++ us).toArray:=by simp
 refine er e ?_
 refine X23 (S.push1 (o:={cls:=.type "list",data:=.seq (vs ++ us).toArray}) (t:=.lst) rfl ⟨_,rfl⟩ (hs.append hu)) fun Z' ad' sub pr S' hv=>?_
 exact h Z' ad' _ s.toks sub pr S' _ hv
theorem m_newlist {x:Fx}{σ:St}(S:Sit prog w K x σ Z ad s.heap){xs:List AV}{vs:List Value}(hs:Vals prog w Z ad xs vs)
  (h:OkS prog w K x Z ad s {σ with H:=σ.H ++ [some (.lst,xs)]} fun Z' ad' s'=>∀v,Val prog w Z' ad' (.ref σ.H.length) v→Q v s') :
  Q (.ref s.heap.objs.size) {s with heap:=s.heap.push {cls:=.type "list",data:=.seq vs.toArray}}:=by
 refine X23 (S.push1 (o:={cls:=.type "list",data:=.seq vs.toArray}) (t:=.lst) rfl ⟨_,rfl⟩ hs) fun Z' ad' sub pr S' hv=>?_
 exact h Z' ad' _ s.toks sub pr S' _ hv
theorem m_newlistF {x:Fx}{σ:St}(S:Sit prog w K x σ Z ad s.heap){xs:List AV}{vs:List Value}(hs:Vals prog w Z ad xs vs)
  (h:OkS prog w K x Z ad s σ fun Z' ad' s'=>∀v,Val prog w Z' ad' (.nd .lst xs) v→Q v s') :
  Q (.ref s.heap.objs.size) {s with heap:=s.heap.push {cls:=.type "list",data:=.seq vs.toArray}}:=by
 refine X02 (S.layFrozen (h':=s.heap.push {cls:=.type "list",data:=.seq vs.toArray}) (fun a o' e=>Heap.get?_push_of_some _ e) (by rw [Heap.size_push];exact Nat.le_add_right _ _)) fun sub S' fz=>?_
 have hm:(s.heap.objs.size == sysModules)=false:=beq_eq_false_iff_ne.mpr (Nat.ne_of_gt (PyProof.Rows.modules_low (S.stat.lim.keeps S.hs.zsub)))
 exact h _ ad _ s.toks sub (Pre.refl ad) S' _ (.nd (I01111 hm _ (fz _ _ (Heap.get?_push_size _ rfl) (Nat.le_refl _)) _ rfl) (hs.mono sub (Pre.refl ad)))
theorem m_newtup {x:Fx}{σ:St}(S:Sit prog w K x σ Z ad s.heap){xs:List AV}{vs:List Value}(hs:Vals prog w Z ad xs vs)
  (h:OkS prog w K x Z ad s σ fun Z' ad' s'=>∀v,Val prog w Z' ad' (.nd .tup xs) v→Q v s') :
  Q (.ref s.heap.objs.size) {s with heap:=s.heap.push {cls:=.type "tuple",data:=.seq vs.toArray}}:=by
 refine X02 (S.layFrozen (h':=s.heap.push {cls:=.type "tuple",data:=.seq vs.toArray}) (fun a o' e=>Heap.get?_push_of_some _ e) (by rw [Heap.size_push];exact Nat.le_add_right _ _)) fun sub S' fz=>?_
 have hm:(s.heap.objs.size == sysModules)=false:=beq_eq_false_iff_ne.mpr (Nat.ne_of_gt (PyProof.Rows.modules_low (S.stat.lim.keeps S.hs.zsub)))
 exact h _ ad _ s.toks sub (Pre.refl ad) S' _ (.nd (I01111 hm _ (fz _ _ (Heap.get?_push_size _ rfl) (Nat.le_refl _)) _ rfl) (hs.mono sub (Pre.refl ad)))
theorem emptyIs:({cls:=.type "dict",data:=.dict #[]}:Obj).IsDictOf (strKind prog w) []:=by
 exact (I24 (#[]) _ ⟨rfl,rfl,rfl⟩ rfl (fun e m=>(by simp at m)) .nil .nil)
theorem m_newdict {x:Fx}{σ:St}(S:Sit prog w K x σ Z ad s.heap)
  (h:OkS prog w K x Z ad s {σ with H:=σ.H ++ [some (.dct [],[])]} fun Z' ad' s'=>∀v,Val prog w Z' ad' (.ref σ.H.length) v→Q v s') :
  Q (.ref s.heap.objs.size) {s with heap:=s.heap.push {cls:=.type "dict",data:=.dict #[]}}:=by
 refine X23 (S.push1 (o:={cls:=.type "dict",data:=.dict #[]}) (t:=.dct []) rfl ⟨rfl,emptyIs⟩ .nil) fun Z' ad' sub pr S' hv=>?_
 exact h Z' ad' _ s.toks sub pr S' _ hv
theorem bounds_pick {n:Nat}{lo hi:Option Int}{i j:Nat}(e:bounds n lo hi=some (i,j))(vs:List Value)(hv:vs.length=n):slicePick vs.toArray lo hi none=((vs.take j).drop i).toArray:=by
 cases lo with
 | none=>
  refine oB e fun k q e=>oI e fun h0 e5=>?_
  subst q;cases e5
  refine X1 (Int.eq_ofNat_of_zero_le h0) fun m q0=>er q0 (er (slicePick_upto' vs.toArray m) (congrArg List.toArray ?_))
  rcases Nat.le_total m n with h | h
  ·exact er (Nat.min_eq_left h) rfl
  ·exact er (Nat.min_eq_right h) (er (List.take_of_length_le (o18 hv h)) (er (List.take_of_length_le (o9 hv)) rfl))
 | some k=>
  cases hi with
  | some=>exact noS e
  | none=>
  refine oI e fun h0 e5=>?_
  cases e5
  refine X1 (Int.eq_ofNat_of_zero_le h0) fun m q0=>er q0 (er (slicePick_from' vs.toArray m) (congrArg List.toArray ?_))
  refine er (List.take_of_length_le (o9 hv)) ?_
  rcases Nat.le_total m n with h | h
  ·exact er (Nat.min_eq_left h) rfl
  ·exact er (Nat.min_eq_right h) (er (List.drop_of_length_le (o18 hv h)) (er (List.drop_of_length_le (o9 hv)) rfl))
theorem m_slist {x:Fx}{σ:St}(S:Sit prog w K x σ Z ad s.heap){value:PySem.Expr}{lo hi:Option PySem.Expr}{sp:Pos}{a:AV}{va vl vu:Value}{ll lh:Option Int}{xs:List AV}{i j:Nat}(ha:Val prog w Z ad a va)(e:Mine.look σ.H a=some (.lst,xs))
  (hlo:IsPart vl ll) (hhi:IsPart vu lh) (hb:bounds xs.length ll lh=some (i,j)) (hl:small xs)
  (h:OkS prog w K x Z ad s {σ with H:=σ.H ++ [some (.lst,(xs.take j).drop i)]} fun Z' ad' s'=>∀v,Val prog w Z' ad' (.ref σ.H.length) v→Q v s') :
  wpAny (model prog w) A (subscriptTail value (.Slice lo hi none sp) va (.ref s.heap.objs.size)) Q X {s with heap:=s.heap.push {cls:=.type "slice",data:=.fields #[vl,vu,.none]}}:=by
 refine X22 (S.look ha e) fun p vs q0 ho hs=>?_;subst q0
 have sz:vs.toArray.size≤sizeLine:=by refine er sizeLine_eq (er List.size_toArray (re hs.length ?_));have:xs.length≤5000:=hl;exact Nat.le_trans (by assumption) (by decide)
 refine tail_any (T:= "list") (ho.lst.push _).typeIs slot_list_getitem.lookup (wpAny_getItem_list_slice (ho.lst.push _) (Heap.IsSliceOf.new ..) hlo hhi .none (by decide) ?_ sz) (ops:=[.ref s.heap.objs.size,.ref p]) rfl
 refine X02 (S.layFrozen (h':=s.heap.push {cls:=.type "slice",data:=.fields #[vl,vu,.none]}) (fun a o' e=>Heap.get?_push_of_some _ e) (by rw [Heap.size_push];exact Nat.le_add_right _ _)) fun sub S' _=>?_
 have hs':=hs.mono sub (Pre.refl ad)
 refine X23 (S'.push1 (o:={cls:=.type "list",data:=.seq ((vs.take j).drop i).toArray}) (t:=.lst) rfl ⟨_,rfl⟩ ((hs'.take j).drop i)) fun Z' ad' sub2 pr S'' hv=>?_
 refine er (bounds_pick hb vs hs.length.symm) ?_
 exact h Z' ad' _ s.toks (sub.trans sub2) pr S'' _ hv
theorem m_slistF {x:Fx}{σ:St}(S:Sit prog w K x σ Z ad s.heap){value:PySem.Expr}{lo hi:Option PySem.Expr}{sp:Pos}{a:AV}{va vl vu:Value}{ll lh:Option Int}{xs:List AV}{i j:Nat}(ha:Val prog w Z ad a va)(e:Mine.look σ.H a=some (.lst,xs))
  (hlo:IsPart vl ll) (hhi:IsPart vu lh) (hb:bounds xs.length ll lh=some (i,j)) (hl:small xs)
  (h:OkS prog w K x Z ad s σ fun Z' ad' s'=>∀v,Val prog w Z' ad' (.nd .lst ((xs.take j).drop i)) v→Q v s') :
  wpAny (model prog w) A (subscriptTail value (.Slice lo hi none sp) va (.ref s.heap.objs.size)) Q X {s with heap:=s.heap.push {cls:=.type "slice",data:=.fields #[vl,vu,.none]}}:=by
 refine X22 (S.look ha e) fun p vs q0 ho hs=>?_;subst q0
 have sz:vs.toArray.size≤sizeLine:=by refine er sizeLine_eq (er List.size_toArray (re hs.length ?_));have:xs.length≤5000:=hl;exact Nat.le_trans (by assumption) (by decide)
 refine tail_any (T:= "list") (ho.lst.push _).typeIs slot_list_getitem.lookup (wpAny_getItem_list_slice (ho.lst.push _) (Heap.IsSliceOf.new ..) hlo hhi .none (by decide) ?_ sz) (ops:=[.ref s.heap.objs.size,.ref p]) rfl
 refine X02 (S.layFrozen (h':=s.heap.push {cls:=.type "slice",data:=.fields #[vl,vu,.none]}) (fun a o' e=>Heap.get?_push_of_some _ e) (by rw [Heap.size_push];exact Nat.le_add_right _ _)) fun sub S' _=>?_
 have hs':=hs.mono sub (Pre.refl ad)
 refine er (bounds_pick hb vs hs.length.symm) ?_
 exact m_newlistF (s:=⟨s.heap.push {cls:=.type "slice",data:=.fields #[vl,vu,.none]},s.gens,s.drawn,s.toks,s.os⟩) S' ((hs'.take j).drop i) fun Z' ad' h' tk sub2 pr S'' v hv=>h Z' ad' h' tk (sub.trans sub2) pr S'' v hv
theorem m_sstr {x:Fx}{σ:St}(S:Sit prog w K x σ Z ad s.heap){value:PySem.Expr}{lo hi:Option PySem.Expr}{sp:Pos}{a:AV}{va:Value}{ll lh:Option (Int×Tok)}{t:Str}(ha:Val prog w Z ad a va)(e:asStr a=some t)(hl:t.length≤100000)
  (h:OkS prog w K x Z ad s σ fun Z' ad' s'=>∀v,Val prog w Z' ad' (.str (Txt.slice t (ll.map (·.1)) (lh.map (·.1)))) v→Q v s') :
  wpAny (model prog w) A (subscriptTail value (.Slice lo hi none sp) va (.ref s.heap.objs.size)) Q X {s with heap:=s.heap.push {cls:=.type "slice",data:=.fields #[partValue ll,partValue lh,.none]}}:=by
 refine X1 (val_str ha e) fun u q0=>?_;subst q0
 refine X02 (S.layFrozen (h':=s.heap.push {cls:=.type "slice",data:=.fields #[partValue ll,partValue lh,.none]}) (fun a o' e=>Heap.get?_push_of_some _ e) (by rw [Heap.size_push];exact Nat.le_add_right _ _)) fun sub S' _=>?_
 refine tail_any (T:= "str") (typeIs_str _ _ _) PySem.F.slot_str_getitem.lookup (wpAny_getItem_str_slice (l:=ll) (u:=lh) (st:=none) (I12 _ (Heap.get?_push_size _ rfl) rfl rfl) rfl
  (post_val_or_str ⟨Nat.le_trans (Txt.slice_le t _ _) (sizeLine_eq.symm▸(Nat.le_trans (by assumption) (by decide))),fun t' k=>h _ ad _ k sub (Pre.refl ad) S' _ .str⟩)) (ops:=[.ref s.heap.objs.size,.str t u]) rfl
theorem stored_dput {kv:Str}{b:AV}{vb:Value}(hb:Val prog w Z ad b vb):∀{ks:List Str} {xs:List AV} {vs:List Value},Vals prog w Z ad xs vs→ks.length=vs.length→ks.Nodup→
  ∃us,stored (ks.zip vs) kv vb=(dput ks xs kv b).1.zip us∧Vals prog w Z ad (dput ks xs kv b).2 us∧(dput ks xs kv b).1.length=us.length∧(dput ks xs kv b).1.length≤ks.length + 1:=by
 intro ks xs vs h hl nd
 induction ks generalizing xs vs with
 | nil=>
  have:vs= []:=List.length_eq_zero_iff.mp hl.symm
  subst this
  refine (I13 ([vb]) rfl ?_ rfl (by simp [dput]))
  cases h
  exact .cons hb .nil
 | cons k ks ih=>
  cases h with
  | nil=>cases hl
  | cons h r=>
  rename_i x v xs vs
  refine X01 (List.nodup_cons.mp nd) fun nk nd=>?_
  by_cases hk:k=kv
  ·subst hk
   refine (I13 (vb :: vs) ?_ ?_ ?_ ?_)
   ·simp only [dput,if_true,stored,List.zip_cons_cons,List.any_cons,decide_true,Bool.true_or,List.map_cons]
    congr 1
    refine (List.map_congr_left fun kv hm=>?_).trans (List.map_id _)
    have:kv.1≠k:=fun q=>nk (q▸(List.of_mem_zip hm).1)
    simp [this]
   ·simp only [dput,if_true];exact .cons hb r
   ·simp only [dput,if_true,List.length_cons];exact hl
   ·simp [dput]
  ·refine X13 (ih r (Nat.succ.inj hl) nd) fun us e1 e2 e3 e4=>?_
   refine (I13 (v :: us) ?_ ?_ ?_ ?_)
   ·simp only [dput,hk,if_false,List.zip_cons_cons,←e1]
    unfold stored
    simp only [List.any_cons,hk,decide_false,Bool.false_or,List.map_cons,if_false]
    split <;> rfl
   ·simp only [dput,hk,if_false];exact .cons h e2
   ·simp only [dput,hk,if_false,List.length_cons,e3]
   ·simp only [dput,hk,if_false,List.length_cons];exact Nat.lt_succ_of_le (by assumption)
theorem m_setd {x:Fx}{σ:St}(S:Sit prog w K x σ Z ad s.heap){r:Nat}{ks:List Str}{xs:List AV}{a b:AV}{va vb vi:Value}{t:Str}{ti:AV}{Q:Unit→Shared→Prop}(ha:Val prog w Z ad (.ref r) va)(e:getH σ.H r=some (.dct ks,xs))(hi:Val prog w Z ad ti vi)(ei:asStr ti=some t)
  (hb:Val prog w Z ad b vb) (hl:ks.length≤500)
  (h:OkS prog w K x Z ad s {σ with H:=setH σ.H r (.dct (dput ks xs t b).1,(dput ks xs t b).2)} fun _ _ s'=>Q () s'):wpAny (model prog w) A (setItem va vi vb) Q X s:=by
 refine X23 (S.cellAt ha e) fun p vs q0 hat ho hs=>?_;subst q0
 refine X1 (val_str hi ei) fun u q0=>?_;subst q0
 refine X01 ho.dct fun hlen hd=>?_
 have nd:ks.Nodup:=by
  refine X35 hd fun _ _ _ _ _ _ _ _ nd=>?_
  rw [List.map_fst_zip (Nat.le_of_eq (by assumption))] at nd;exact nd
 have hz:(ks.zip vs).length≤sizeLine:=by
  have:(ks.zip vs).length≤ks.length:=by refine er List.length_zip ?_;exact o53
  refine er sizeLine_eq ?_;exact o54 hl this
 refine wpAny_setItem_pairs (knd:=strKind prog w) (k:=t) (strKind_is ..) hd (fun h' hd' sb=>?_) hz
 refine X13 (stored_dput (kv:=t) hb hs hlen nd) fun us e1 e2 e3 _=>?_
 rw [e1] at hd'
 refine X11 (Heap.dictOf_iff.mp hd') fun o ho' hod=>?_
 refine X11 (S.setCell hat (getH_lt e) sb (t:=.dct (dput ks xs t b).1) (I0112 ho.1 o ho' e3 hod) e2) fun Z' sub S'=>?_
 exact h Z' ad h' _ sub (Pre.refl ad) S'
theorem m_setl {x:Fx}{σ:St}(S:Sit prog w K x σ Z ad s.heap){r:Nat}{xs:List AV}{b:AV}{va vb vi:Value}{j:Int}{Q:Unit→Shared→Prop}(ha:Val prog w Z ad (.ref r) va)(e:getH σ.H r=some (.lst,xs))(hi:Val prog w Z ad (.int j) vi)
  (hb:Val prog w Z ad b vb) (h0:0≤j) (hj:j.toNat < xs.length) (hl:small xs)
  (h:OkS prog w K x Z ad s {σ with H:=setH σ.H r (.lst,xs.set j.toNat b)} fun _ _ s'=>Q () s'):wpAny (model prog w) A (setItem va vi vb) Q X s:=by
 refine X23 (S.cellAt ha e) fun p vs q0 hat ho hs=>?_;subst q0
 refine X1 (val_int hi) fun u q0=>?_;subst q0
 refine X1 ho.lstAt fun n hn=>?_
 have sm:xs.length≤5000:=hl
 have hlen:=hs.length
 have hd:({cls:=.type "list",data:=.seq vs.toArray n}:Obj).data=.seq vs.toArray n:=rfl
 unfold setItem
 try with_reducible refine wpAny_holding ?_
 first | refine wpAny_bind (wpAny_pure ?_) | skip
 refine wpAny_bind (wpAny_sequenceKey ho.lst.typeIs (by decide) ?_)
 refine wpAny_bind (wpAny_callSpecial?_slot (name:=Str.ofString "__setitem__") ho.lst.typeIs slot_list_setitem
  (wpAny_call_entry slot_list_setitem ho.lst.typeIs entry_list_setitem ?_ (args_list_setitem _ _ _)))
 show wpAny _ _ (Builtin.List.listSubscript? (.int j u) >>= _) _ _ s
 refine wpAny_bind (wpAny_listSubscript_int (fitsIndex_of h0 (oa1 h0 hj sm)) ?_)
 refine X1 (Int.eq_ofNat_of_zero_le h0) fun k q0=>?_;subst q0
 simp only [Int.toNat_natCast] at hj h
 have hx':vs.toArray[k]? =some vs[k]:=by simp
 refine wpAny_bind (wpAny_bind (wpAny_seqItemAt hn hd (wpAny_pure ?_)))
 refine er hx' ?_
 refine wpAny_bind (wpAny_setSeqItemAt hn hd ?_)
 refine X11 (S.setCell hat (getH_lt e) (Heap.SameBut.update ..) (t:=.lst) (upd_lst (us:=vs.set k vb) ho.1 hn (·.setIfInBounds k vb) (by simp)) (hs.set k hb)) fun Z' sub S'=>?_
 exact wpAny_pure (I11 .none rfl (wpAny_pure (h Z' ad _ s.toks sub (Pre.refl ad) S')))
end
theorem tdbg:(tbl.all fun s=>(Str.ofString s).cps.toList !=(Str.ofString "__debug__").cps.toList && (Str.ofString s).cps.toList !=(Str.ofString "__classdict__").cps.toList)=true:=by decide +kernel
theorem nm_ne {n:Nat}:(nm n == ("__debug__" :Str))=false∧(nm n == ("__classdict__" :Str))=false:=by
 cases h:tbl[n]? with
 | none=>
  refine er (nm_ge h) ?_
  refine ⟨beq_eq_false_iff_ne.mpr fun q=>?_,beq_eq_false_iff_ne.mpr fun q=>?_⟩
  ·have:=congrArg (fun s:Str=>s.cps.size) q
   replace this:1=(Str.ofString "__debug__").cps.size:=this
   revert this;decide +kernel
  ·have:=congrArg (fun s:Str=>s.cps.size) q
   replace this:1=(Str.ofString "__classdict__").cps.size:=this
   revert this;decide +kernel
 | some s=>
  refine er (nm_lt h) ?_
  refine X01 (Bool.and_eq_true_iff.mp (List.all_eq_true.mp tdbg s (List.mem_of_getElem? h))) fun q1 q2=>?_
  refine ⟨beq_eq_false_iff_ne.mpr fun q=>?_,beq_eq_false_iff_ne.mpr fun q=>?_⟩
  ·rw [q] at q1;simp at q1
  ·rw [q] at q2;simp at q2
structure Good (K:Frag):Prop where
 kf:KF K
 fn:∀f fn,fns f=some fn→fn.own= []→fn.fre= []→∃o fd,K.lookup (fad f)=some o∧o.data=.func fd∧FdOk fd fn∧codeIn K fd.code fd.qualname=true∧fd.closure= []
 gfn:∀f∈topL,nsIn K mainGlobals (nm (fnm f))=some (some (.ref (fad f)))
 gcl:∀k,k≤6→nsIn K mainGlobals (nm (cnm k))=some (some (.ref (cad k)))
 gvl:∀x a,gls x=some a→(∃v,nsIn K mainGlobals (nm x)=some (some v)∧∀prog w Z ad,Val prog w Z ad a v)
 gbl:∀b,nsIn K mainGlobals (nm (bnm b))=some none
 met:∀k m f,mths k m=some f→fnsOk f=true∧2≤k∧k≤6∧findIn K (.ref (cad k)) (nm m)=some (some (.ref (fad f)))∧typeIn K (.ref (fad f))=some (.type "function")∧keepIn K (.ref (fad f))=true
 ini:∀k,2≤k→k≤6→fnsOk (inis k)=true∧findIn K (.ref (cad k)) "__init__" =some (some (.ref (fad (inis k))))∧typeIn K (.ref (fad (inis k)))=some (.type "function")
 kfn:∀f∈topL,keepIn K (.ref (fad f))=true
 kcl:∀k,k≤6→keepIn K (.ref (cad k))=true
theorem bboot (b:Bi):bootBuiltins (nm (bnm b))=some (bval b)∧nm (bnm b)≠("__name__" :Str):=by
 cases b <;> exact ⟨by kernel_rfl,by decide +kernel⟩
section
variable {prog:Program}{w:World}{K:Frag}{M:Model}{A:Around}{X:Value→Shared→Prop}{s:Shared}{Q:Value→Shared→Prop}{Z:Heap}{ad:List Addr}{x:Fx}{σ:St}
theorem isL_kind {kd:List (Nat×NameKind)}{n:Nat}(h:isL kd n=true):lkK n kd=some .local:=by
 unfold isL at h;split at h <;> first | assumption | cases h
theorem isG_kind {kd:List (Nat×NameKind)}{n:Nat}(h:isG kd n=true):lkK n kd=some .globalImplicit:=by
 unfold isG at h;split at h <;> first | assumption | cases h
theorem isC_kind {kd:List (Nat×NameKind)}{n:Nat}(h:isC kd n=true):lkK n kd=some .cell:=by
 unfold isC at h;split at h <;> first | assumption | cases h
theorem isF_kind {kd:List (Nat×NameKind)}{n:Nat}(h:isF kd n=true):lkK n kd=some .free:=by
 unfold isF at h;split at h <;> first | assumption | cases h
theorem r_loc (O:x.Ok)(S:Sit prog w K x σ Z ad s.heap){n:Nat}{a:AV}{p:Pos}(hk:isL σ.kd n=true)(e:lkA n σ.loc=some a)(h:∀v,Val prog w Z ad a v→Q v s) :
  wpAny M A (eval (.Name (nm n) p) x.env) Q X s:=by
 refine X11 S.loc fun m hn hl=>?_
 refine X11 (hl n a e) fun v h1 h2=>?_
 exact wpAny_Name (wpAny_loadName_local O.hk (S.kd _ _ (isL_kind hk)) hn h1 (h v h2)) nm_ne.1
theorem l_loc (O:x.Ok)(S:Sit prog w K x σ Z ad s.heap){n:Nat}{a:AV}(hk:isL σ.kd n=true)(e:lkA n σ.loc=some a)(h:∀v,Val prog w Z ad a v→Q v s) :
  wpAny M A (loadName x.env (nm n)) Q X s:=by
 refine X11 S.loc fun m hn hl=>?_
 refine X11 (hl n a e) fun v h1 h2=>?_
 exact wpAny_loadName_local O.hk (S.kd _ _ (isL_kind hk)) hn h1 (h v h2)
theorem ObjIs.cel {h:Heap}{a:Addr}{vs:List Value}(q:ObjIs prog w h a .cell vs):∃v,h.IsCell a v∧v.toList=vs:=by
 refine X01111 q fun _ o ho v q0=>?_;refine X01 q0 fun hd hv=>?_;exact (I11 v ⟨o,ho,hd⟩ hv)
theorem r_cel (O:x.Ok)(S:Sit prog w K x σ Z ad s.heap){n:Nat}{a v:AV}{p:Pos}(hk:(isC σ.kd n || isF σ.kd n)=true)(e:lkA n σ.cel=some a)(e2:Mine.look σ.H a=some (.cell,[v]))(h:∀u,Val prog w Z ad v u→Q u s) :
  wpAny M A (eval (.Name (nm n) p) x.env) Q X s:=by
 refine X11 (S.cel n a e) fun c h1 h2=>?_
 refine X22 (S.look h2 e2) fun p' vs hp ho hs=>?_
 cases hp
 refine X11 ho.cel fun u hu hv=>?_
 subst hv
 cases u with
 | none=>cases hs
 | some u=>
 cases hs with
 | cons q _=>
 rcases Bool.or_eq_true_iff.mp hk with hk | hk
 ·exact wpAny_Name (wpAny_loadName_cell O.hk (S.kd _ _ (isC_kind hk)) h1 hu (h u q)) nm_ne.1
 ·exact wpAny_Name (wpAny_loadName_free O.hk (S.kd _ _ (isF_kind hk)) h1 hu (h u q) nm_ne.2) nm_ne.1
theorem r_top (O:x.Ok)(S:Sit prog w K x σ Z ad s.heap){n:Nat}{v:Value}{p:Pos}(hk:isG σ.kd n=true)(e:nsIn K mainGlobals (nm n)=some (some v))(h:Q v s) :
  wpAny M A (eval (.Name (nm n) p) x.env) Q X s:=by
 refine X1 S.stat.glo fun mg hg=>?_
 exact Name_function_global O.hk (S.kd _ _ (isG_kind hk)) (loadGlobal_global (O.glo.symm▸(hg.keeps S.hs.zsub)) (mg_of S.stat.kin hg e) h) nm_ne.1
theorem r_blt (O:x.Ok)(S:Sit prog w K x σ Z ad s.heap)(G:Good K){b:Bi}{p:Pos}(hk:isG σ.kd (bnm b)=true)(h:Q (bval b) s) :
  wpAny M A (eval (.Name (nm (bnm b)) p) x.env) Q X s:=by
 refine X1 S.stat.glo fun mg hg=>?_
 refine X11 S.stat.blt fun mb hb hbb=>?_
 refine X01 (bboot b) fun b1 b2=>?_
 exact Name_function_global O.hk (S.kd _ _ (isG_kind hk)) (loadGlobal_builtin (O.glo.symm▸(hg.keeps S.hs.zsub)) (ns_none_of S.stat.kin hg (G.gbl b)) (O.blt.symm▸(hb.keeps S.hs.zsub)) ((hbb _ b2).trans b1) h) nm_ne.1
theorem s_loc (O:x.Ok)(S:Sit prog w K x σ Z ad s.heap){n:Nat}{a:AV}{v:Value}{Q:Unit→Shared→Prop}(hk:x.env.kindOf (nm n)=some .local)(hv:Val prog w Z ad a v)
  (h:OkS prog w K x Z ad s {σ with loc:=stA n a σ.loc} fun _ _ s'=>Q () s'):wpAny M A (storeName x.env (nm n) v) Q X s:=by
 refine X11 S.loc fun m hn hl=>?_
 refine wpAny_storeName_local hk hn (fun h' hm sb=>?_) (by refine er O.hk ?_;rfl)
 refine X11 (S.setLoc (n:=n) hn hm sb (fun _=>rfl) hv) fun Z' sub S'=>?_
 exact h Z' ad h' _ sub (Pre.refl ad) S'
theorem s_cel (O:x.Ok)(S:Sit prog w K x σ Z ad s.heap){n r:Nat}{xs:List AV}{a:AV}{v:Value}{Q:Unit→Shared→Prop}(hk:isC σ.kd n=true)(e:lkA n σ.cel=some (.ref r))(e2:getH σ.H r=some (.cell,xs))(hv:Val prog w Z ad a v)
  (h:OkS prog w K x Z ad s {σ with H:=setH σ.H r (.cell,[a])} fun _ _ s'=>Q () s'):wpAny M A (storeName x.env (nm n) v) Q X s:=by
 refine X11 (S.cel n _ e) fun c h1 h2=>?_
 refine X23 (S.cellAt h2 e2) fun p vs hp hat ho hs=>?_
 cases hp
 refine X11 ho.cel fun u hu _=>?_
 refine wpAny_storeName_cell O.hk (S.kd _ _ (isC_kind hk)) h1 hu fun h' hc sb=>?_
 refine X11 hc fun o ho' hd=>?_
 refine X11 (S.setCell hat (getH_lt e2) sb (t:=.cell) (I011111 ho.1 o ho' _ hd rfl) (.cons hv .nil)) fun Z' sub S'=>?_
 exact h Z' ad h' _ sub (Pre.refl ad) S'
noncomputable def inner (x:Fx)(A:Around)(env:Env)(oL:Obj):Fx:={A:=A.deeper env,env:=env,outer:=x.env :: x.outer,pin:=(x.env.locals,oL) :: x.pin}
theorem lk_zip {α:Type}:∀{ns:List Nat} {vs:List α} {n:Nat},ns.Nodup→ns.length=vs.length→((ns.map nm).zip vs).reverse.lookup (nm n)=(ns.zip vs).lookup n:=by
 intro ns vs n nd hl
 have gen:∀(l:List (Str×α)) (k:Str),(l.map (·.1)).Nodup→l.reverse.lookup k=l.lookup k:=by
  intro l k
  induction l with
  | nil=>intro _;rfl
  | cons p l ih=>
   intro nd
   refine X01 (List.nodup_cons.mp nd) fun n1 n2=>?_
   refine er List.reverse_cons (er List.lookup_append (er (ih n2) ?_))
   obtain ⟨a,b⟩:=p
   by_cases hk:k=a
   ·subst hk
    have:l.lookup k=none:=by
     rw [List.lookup_eq_none_iff]
     intro q hq
     have:k≠q.1:=fun e=>n1 (show k∈l.map (·.1) by refine er e ?_;exact List.mem_map_of_mem (f:=(·.1)) hq)
     simp [this]
    simp [this]
   ·have hb:(k == a)=false:=beq_eq_false_iff_ne.mpr hk
    refine er List.lookup_cons (er hb ?_)
    simp [List.lookup_cons,hb]
 rw [gen]
 ·induction ns generalizing vs with
  | nil=>rfl
  | cons m ns ih=>
   cases vs with
   | nil=>cases hl
   | cons v vs=>
    simp only [List.map_cons,List.zip_cons_cons,List.lookup_cons]
    by_cases hm:n=m
    ·subst hm;simp
    ·have h1:(nm n == nm m)=false:=beq_eq_false_iff_ne.mpr fun q=>hm (nm_inj q)
     have h2:(n == m)=false:=beq_eq_false_iff_ne.mpr hm
     refine er h1 (er h2 ?_)
     exact ih (List.nodup_cons.mp nd).2 (Nat.succ.inj hl)
 ·refine er (List.map_fst_zip (by rw [List.length_map];exact Nat.le_of_eq (by assumption))) ?_
  unfold List.Nodup
  rw [List.pairwise_map]
  exact nd.imp fun a q=>a (nm_inj q)
theorem zipA_vals:∀{ns:List Nat} {as:List AV} {vs:List Value} {n:Nat} {a:AV},Vals prog w Z ad as vs→ns.length=vs.length→lkA n (zipA ns as)=some a→∃v,(ns.zip vs).lookup n=some v∧Val prog w Z ad a v
 | [],_,_,_,_,_,_,e=>by exact noS e
 | m :: ns,_,_,n,a,.nil,hl,_=>by cases hl
 | m :: ns,_,_,n,a,.cons (v:=v) h r,hl,e=>by
  unfold zipA lkA at e
  rw [nbeq] at e
  refine er List.zip_cons_cons (er List.lookup_cons ?_)
  by_cases hm:n=m
  ·subst hm
   simp only [decide_true,Option.some.injEq] at e
   subst e
   exact ⟨v,by simp,h⟩
  ·simp only [hm,decide_false] at e
   have h2:(n == m)=false:=beq_eq_false_iff_ne.mpr hm
   refine er h2 ?_
   exact zipA_vals r (Nat.succ.inj hl) e
theorem Fx.Ok.inner (O:x.Ok){A:Around}{env:Env}{oL:Obj}(hA:A.frames=some (x.env :: x.outer))(hh:A.handled=none)(hk:env.scope.kind=.function)(frm:env.frame=some env.locals)(glo:env.globals=mainGlobals)
  (blt:env.builtins=builtinsNs) (hd:∀vs,oL.data≠.fields vs):(inner x A env oL).Ok where
 hk:=hk
 frm:=frm
 glo:=glo
 blt:=blt
 hA:=by show A.frames.map _=_;refine er hA ?_;rfl
 hh:=hh
 outs:=⟨(I02 (by refine er O.hk ?_;decide) O.frm hd),O.outs⟩
theorem Sit.enter (O:x.Ok)(S:Sit prog w K x σ Z ad s.heap){A:Around}{fd:FuncData}{fn:Fn}(D:FdOk fd fn){as:List AV}{vs:List Value}{cl:List (Nat×AV)}{fa:Addr}{h₀:Heap}{oL:Obj}(hL:s.heap.get? x.env.locals=some oL)
  (ha:Vals prog w Z ad as vs) (hl:fn.pars.length=vs.length) (hn:h₀.Ns s.heap.objs.size fun y=>((fn.pars.map nm).zip vs).reverse.lookup y) (hk:∀b o,s.heap.get? b=some o→h₀.get? b=some o)
  (hc:∀n a,lkA n cl=some a→∃c,fd.closure.lookup (nm n)=some c∧Val prog w Z ad a (.ref c)) :
  Sit prog w K (inner x A (callEnv fd s.heap.objs.size fa) oL) {σ with kd:=fn.kd,loc:=zipA fn.pars as,cel:=cl} Z ad h₀:=by
 have H:=S.hs
 have fresh:∀a∈spec x.env.locals x.pin ad,s.heap.objs.size≠a:=fun a m q=>Nat.lt_irrefl _ (q▸H.lt a m)
 have grow:∀a,a < s.heap.objs.size→a < h₀.objs.size:=fun a q=>Nat.lt_trans q hn.lt
 refine ⟨fun n k q=>D.kd n k q,S.stat,⟨List.nodup_cons.mpr ⟨fun m=>fresh _ m rfl,H.nd⟩,fun a m=>?_,fun a m=>?_,fun a m=>?_,fun p m=>?_,fun a o q=>hk a o (H.zsub a o q),H.len,fun r t xs q=>?_⟩,(I11 _ hn (fun n a q=>?_)),hc⟩
 ·rcases List.mem_cons.mp m with rfl | m
  ·show Z.get? s.heap.objs.size=none
   cases q:Z.get? s.heap.objs.size with
   | none=>rfl
   | some o=>exact absurd (Heap.lt_size (H.zsub _ _ q)) (Nat.lt_irrefl _)
  ·exact H.zn a m
 ·rcases List.mem_cons.mp m with rfl | m
  ·exact hn.lt
  ·exact grow _ (H.lt a m)
 ·rcases List.mem_cons.mp m with rfl | m
  ·refine X31 hn fun o _ _ q _=>?_;exact ⟨o,q⟩
  ·refine X1 (H.ex a m) fun o q=>?_;exact ⟨o,hk _ _ q⟩
 ·rcases List.mem_cons.mp m with rfl | m
  ·exact ⟨oL.slots,hk _ _ hL⟩
  ·refine X1 (H.pins p m) fun sl q=>?_
   exact ⟨sl,hk _ _ q⟩
 ·refine X22 (H.emb r t xs q) fun a us h1 h2 h3=>?_
  exact (I22 a us h1 (h2.sub hk) h3)
 ·refine X11 (zipA_vals ha hl q) fun v h1 h2=>?_
  exact (I11 v ((lk_zip D.nd hl).trans h1) h2)
theorem Ns_slots {h h':Heap}{a:Addr}{m:Str→Option Value}{o:Obj}{sl:Array (Option Value)}(hn:h.Ns a m)(ho:h.get? a=some o)(ho':h'.get? a=some {o with slots:=sl}):h'.Ns a m:=by
 refine X33 hn fun o' es ep h1 h2 h3 h4=>?_
 rw [ho] at h1;cases Option.some.inj h1
 exact (I33 _ es ep ho' h2 h3 h4)
theorem Sit.leave (S:Sit prog w K x σ Z ad s.heap){A:Around}{env:Env}{oL:Obj}(hL:s.heap.get? x.env.locals=some oL){σ':St}{Z':Heap}{ad':List Addr}{h':Heap}(sub:Sub Z Z')(pr:Pre ad ad')
  (S':Sit prog w K (inner x A env oL) σ' Z' ad' h'):Sit prog w K x {σ' with kd:=σ.kd,loc:=σ.loc,cel:=σ.cel} Z' ad' h':=by
 have H:=S'.hs
 have inn:∀a,a∈spec x.env.locals x.pin ad'→a∈spec env.locals ((x.env.locals,oL) :: x.pin) ad':=fun a m=>List.mem_cons_of_mem _ m
 refine ⟨S.kd,S'.stat,⟨(List.nodup_cons.mp H.nd).2,fun a m=>H.zn a (inn a m),fun a m=>H.lt a (inn a m),fun a m=>H.ex a (inn a m),fun p m=>H.pins p (List.mem_cons_of_mem _ m),H.zsub,H.len,H.emb⟩,?_,fun n a q=>?_⟩
 ·refine X11 S.loc fun m hn hl=>?_
  refine X1 (H.pins (x.env.locals,oL) (.head _)) fun sl q=>?_
  refine (I11 m (Ns_slots hn hL q) (fun n a q=>?_))
  refine X11 (hl n a q) fun v h1 h2=>?_
  exact (I11 v h1 (h2.mono sub pr))
 ·refine X11 (S.cel n a q) fun c h1 h2=>?_
  exact (I11 c h1 (h2.mono sub pr))
theorem Sit.own {h:Heap}(S:Sit prog w K x σ Z ad h):∃oL,h.get? x.env.locals=some oL∧∀vs,oL.data≠.fields vs:=by
 refine X11 S.loc fun m q0 _=>?_;obtain ⟨o,es,ep,h1,h2,_⟩:=q0
 exact (I11 o h1 (fun vs q=>by rw [h2] at q;cases q))
end
section
variable {prog:Program}{w:World}{K:Frag}{M:Model}{A:Around}{X:Value→Shared→Prop}{s:Shared}{Z:Heap}{ad:List Addr}{x:Fx}{σ:St}
noncomputable def frs (x:Fx):List Addr:=x.env.locals :: x.pin.map (·.1)
theorem frs_spec {a:Addr}(h:a∈frs x):a∈spec x.env.locals x.pin ad:=by
 rcases List.mem_cons.mp h with rfl | h
 ·exact .head _
 ·exact List.mem_cons_of_mem _ (List.mem_append_left _ h)
theorem frs_ad (S:(spec x.env.locals x.pin ad).Nodup){a:Addr}(h:a∈ad):a ∉ frs x:=fun m=>by
 unfold spec at S
 rw [List.nodup_cons,List.nodup_append] at S
 rcases List.mem_cons.mp m with rfl | m
 ·exact S.1 (List.mem_append_right _ h)
 ·exact S.2.2.2 _ m _ h rfl
theorem Sit.exc {h h':Heap}(S:Sit prog w K x σ Z ad h)(ex:List Addr)(hex:∀a∈ex,a ∉ spec x.env.locals x.pin ad∧Z.get? a=none)(grow:h.objs.size≤h'.objs.size)
  (keep:∀b o,h.get? b=some o→b ∉ frs x→b ∉ ex→h'.get? b=some o) (sl:∀b o,h.get? b=some o→b∈frs x→∃sl,h'.get? b=some {o with slots:=sl}):Sit prog w K x σ Z ad h':=by
 have H:=S.hs
 refine ⟨S.kd,S.stat,⟨H.nd,H.zn,fun a m=>Nat.lt_of_lt_of_le (H.lt a m) grow,fun a m=>?_,fun p m=>?_,fun a o q=>?_,H.len,fun r t xs q=>?_⟩,?_,S.cel⟩
 ·refine X1 (H.ex a m) fun o q=>?_
  by_cases hf:a∈frs x
  ·refine X1 (sl a o q hf) fun s1 q1=>?_;exact ⟨_,q1⟩
  ·exact ⟨o,keep a o q hf fun me=>(hex a me).1 m⟩
 ·refine X1 (H.pins p m) fun s0 q=>?_
  refine X1 (sl _ _ q (List.mem_cons_of_mem _ (List.mem_map_of_mem m))) fun s1 q1=>?_
  exact ⟨s1,q1⟩
 ·refine keep a o (H.zsub a o q) (fun m=>?_) fun m=>?_
  ·rw [H.zn a (frs_spec m)] at q;cases q
  ·rw [(hex a m).2] at q;cases q
 ·refine X22 (H.emb r t xs q) fun a us h1 h2 h3=>?_
  have ma:=List.mem_of_getElem? h1
  exact (I22 a us h1 (h2.at fun o ho=>keep a o ho (frs_ad H.nd ma) fun m=>(hex a m).1 (mem_spec.mpr (.inr (.inr ma)))) h3)
 ·refine X11 S.loc fun m hn hl=>?_
  have hn':=hn
  refine X32 hn' fun o es ep h1 h2 _=>?_
  refine X1 (sl _ _ h1 (.head _)) fun s1 q=>?_
  exact (I11 m (Ns_slots hn h1 q) hl)
theorem Sit.frames {h:Heap}(O:x.Ok)(S:Sit prog w K x σ Z ad h):h.FunFrames (hideAll h (frs x)) (x.env :: x.outer)∧(x.env :: x.outer).filterMap (·.frame)=frs x:=by
 have out:∀(es:List Env) (ps:List (Addr×Obj)),outOk es ps→(∀p∈ps,p.1∈frs x∧∃sl,h.get? p.1=some {p.2 with slots:=sl})→h.FunFrames (hideAll h (frs x)) es∧es.filterMap (·.frame)=ps.map (·.1):=by
  intro es
  induction es with
  | nil=>intro ps q _;cases ps with
   | nil=>exact ⟨trivial,rfl⟩
   | cons _ _=>cases q
  | cons e es ih=>
   intro ps q hp
   cases ps with
   | nil=>cases q
   | cons p ps=>
    refine X01 q fun q0 q=>?_;obtain ⟨k1,k2,k3⟩:=q0
    refine X011 (hp p (.head _)) fun m sl hh=>?_
    refine X01 (ih ps q fun p m=>hp p (List.mem_cons_of_mem _ m)) fun i1 i2=>?_
    exact ⟨(I02 k1 ⟨_,_,k2,hideAll_none _ m,hh,k3⟩ i1),by refine er List.filterMap_cons (er k2 ?_);simp [i2]⟩
 refine X01 (out x.outer x.pin O.outs fun p m=>⟨List.mem_cons_of_mem _ (List.mem_map_of_mem m),S.hs.pins p m⟩) fun o1 o2=>?_
 refine X11 S.own fun oL h1 h2=>?_
 refine ⟨(I02 (by refine er O.hk ?_;decide) ⟨_,_,O.frm,hideAll_none _ (.head _),h1,h2⟩ o1),?_⟩
 refine er List.filterMap_cons (er O.frm ?_)
 simp [o2,frs]
def ExcF (x:Fx)(Z:Heap)(ad:List Addr)(i:Int)(e:Addr)(h:Heap)(f:Value):Prop:=
 e ∉ spec x.env.locals x.pin ad∧Z.get? e=none∧∃d vs sl od,h.get? e=some ⟨.ref (cad 0),some d,.fields vs,sl⟩∧d ∉ spec x.env.locals x.pin ad∧d≠e∧
  h.get? d=some od∧NumIs od i∧
  ∃T oT ts,vs[1]? =some (.ref T)∧Z.get? T=none∧T≠e∧T≠d∧T ∉ spec x.env.locals x.pin ad∧h.get? T=some oT∧oT.data=.fields ts∧ts[3]? =some f
theorem ExcF.at {i:Int}{e:Addr}{h:Heap}{f:Value}(q:ExcF x Z ad i e h f)(hf:f=.none∨f=rawInt x.env.locals):ExcAt x Z ad i e h:=by
 refine X024537 q fun a1 a2 d vs sl od b1 b2 b3 b4 b5 T oT ts c1 c2 c3 c4 c5 c6 c7 c8=>?_
 exact (I0245 a1 a2 d vs sl od b1 b2 b3 b4 b5 (.inr ⟨T,oT,ts,f,c1,c2,c3,c4,c5,c6,c7,c8,hf⟩))
theorem setFields {h:Heap}{a:Addr}{o:Obj}{vs:Array Value}(ho:h.get? a=some o)(hd:o.data=.fields vs)(i:Nat)(v:Value) :
  (h.update a (Obj.mapFields (·.setIfInBounds i v))).get? a=some {o with data:=.fields (vs.setIfInBounds i v)}:=by
 have:=Heap.get?_update_self (Obj.mapFields (·.setIfInBounds i v)) ho (Obj.isFreed_of_fields (Obj.data_mapFields hd _))
 refine er this ?_
 obtain ⟨c,d,dt,sl⟩:=o
 cases hd
 rfl
theorem flight {i:Int}{e:Addr}{f:Value}{g:Option Addr}{Q:Unit→Shared→Prop}(S:Sit prog w K x σ Z ad s.heap)(q:ExcF x Z ad i e s.heap f)
  (h:∀h',Sit prog w K x σ Z ad h'→ExcF x Z ad i e h' (g.elim .none fun f=>rawInt f)→Q () {s with heap:=h'}):wpAny M A (setFlight (.ref e) g) Q X s:=by
 refine X024537 q fun a1 a2 d vs sl od b1 b2 b3 b4 b5 T oT ts c1 c2 c3 c4 c5 c6 c7 c8=>?_
 refine wpAny_bind (wpAny_field b1 rfl c1 ?_)
 refine er (if_pos (show (Value.ref T !=Value.none)=true from rfl)) ?_
 refine wpAny_setField c6 c7 (Array.getElem?_eq_some_iff.mp c8).1 (h _ ?_ ?_)
 ·refine S.exc [T] (fun a m=>(List.mem_singleton.mp m).symm▸(⟨c5,c2⟩)) (Nat.le_of_eq (Heap.size_after_update ..).symm) (fun b o hb _ n=>?_) fun b o hb m=>?_
  ·exact (Heap.get?_update_other _ _ fun q=>n (List.mem_singleton.mpr q.symm)).trans hb
  ·exact ⟨o.slots,(Heap.get?_update_other _ _ fun q=>c5 (by refine er q ?_;exact frs_spec m)).trans hb⟩
 ·refine (I024537 a1 a2 d vs sl od ((Heap.get?_update_other _ _ c3).trans b1) b2 b3 ((Heap.get?_update_other _ _ c4).trans b4) b5 T _ _ c1 c2 c3 c4 c5 (setFields c6 c7 _ _) rfl ?_)
  have:=(Array.getElem?_eq_some_iff.mp c8).1
  simp [this]
theorem entry (O:x.Ok)(S:Sit prog w K x σ Z ad s.heap){i:Int}{e d:Addr}{vs:Array Value}{sl:Array (Option Value)}{od:Obj}{head:Value}{hadNext:Bool}{Q:Unit→Shared→Prop}(a1:e ∉ spec x.env.locals x.pin ad)(a2:Z.get? e=none)
  (b1:s.heap.get? e=some ⟨.ref (cad 0),some d,.fields vs,sl⟩) (b2:d ∉ spec x.env.locals x.pin ad) (b3:d≠e) (b4:s.heap.get? d=some od) (b5:NumIs od i) (hsz:1 < vs.size)
  (h:∀h',Sit prog w K x σ Z ad h'→ExcF x Z ad i e h' (rawInt x.env.locals)→Q () {s with heap:=h'}) :
  wpAny M x.A (do let a ←frameOf x.env;let pl ←entryPlaceOf x.env.locals hadNext;let b ←EntryCells.newEntry head a .none (rawInt x.env.locals) .none pl;setField (.ref e) 1 b) Q X s:=by
 refine X01 (S.frames O) fun fr fe=>?_
 refine wpAny_bind (wpAny_frameOf_fun O.hA fr O.frm fun h₁ hs₁=>?_)
 rw [fe] at hs₁
 refine wpAny_bind (wpAny_entryPlaceOf fun pl hpl=>?_)
 refine wpAny_bind (wpAny_newObj_type ?_ (hpl.sizeOk5 _ _ _ _ _))
 generalize hT:({cls:=.type "traceback",dict:=none,data:=.fields ([head,.ref x.env.locals,.none,rawInt x.env.locals,.none] ++ (if pl.isEmpty then List.replicate 6 Value.none else pl)).toArray}:Obj)=oT
 have dT:oT.data=.fields ([head,.ref x.env.locals,.none,rawInt x.env.locals,.none] ++ (if pl.isEmpty then List.replicate 6 Value.none else pl)).toArray:=congrArg _ hT.symm
 have fT:oT.isFreed=false:=by refine re hT ?_;rfl
 have k1:∀b o,s.heap.get? b=some o→b ∉ frs x→h₁.get? b=some o:=fun b o hb m=>(hs₁.2.1 b m).trans hb
 have ne:e ∉ frs x:=fun m=>a1 (frs_spec m)
 have nd:d ∉ frs x:=fun m=>b2 (frs_spec m)
 have he₂:=Heap.get?_push_of_some oT (k1 _ _ b1 ne)
 have hTe:h₁.objs.size≠e:=Nat.ne_of_gt (Heap.lt_size (k1 _ _ b1 ne))
 have hTd:h₁.objs.size≠d:=Nat.ne_of_gt (Heap.lt_size (k1 _ _ b4 nd))
 refine wpAny_setField he₂ rfl hsz ?_
 have sz:h₁.objs.size=s.heap.objs.size:=hs₁.1
 have keep:∀b o,h₁.get? b=some o→b≠e→((h₁.push oT).update e (Obj.mapFields (·.setIfInBounds 1 (Value.ref h₁.objs.size)))).get? b=some o:=fun b o hb q=>
  (Heap.get?_update_other _ _ (Ne.symm q)).trans (Heap.get?_push_of_some _ hb)
 have nT:h₁.objs.size ∉ spec x.env.locals x.pin ad:=fun m=>Nat.lt_irrefl _ (sz▸S.hs.lt _ m)
 have zT:Z.get? h₁.objs.size=none:=by
  cases q:Z.get? h₁.objs.size with
  | none=>rfl
  | some o=>exact absurd (Heap.lt_size (S.hs.zsub _ _ q)) (sz.symm▸(Nat.lt_irrefl _))
 refine h _ (S.exc [e] (fun a m=>(List.mem_singleton.mp m).symm▸(⟨a1,a2⟩)) ?_ (fun b o hb m n=>keep b o (k1 b o hb m) fun q=>n (List.mem_singleton.mpr q)) fun b o hb m=>?_) ?_
 ·rw [Heap.size_after_update,Heap.size_push,sz];exact Nat.le_add_right _ _
 ·refine X1 (hs₁.2.2 b o hb) fun s1 q=>?_
  exact ⟨s1,keep _ _ q fun q=>a1 (q▸frs_spec m)⟩
 ·refine (I024537 a1 a2 d _ _ od (setFields he₂ rfl _ _) b2 b3 (keep _ _ (k1 _ _ b4 nd) b3) b5 h₁.objs.size oT _ (by simp [hsz]) zT hTe hTd nT ?_ dT ?_)
  ·exact (Heap.get?_update_other _ _ (Ne.symm hTe)).trans (Heap.get?_push_size _ fT)
  ·exact rfl
theorem note (O:x.Ok)(S:Sit prog w K x σ Z ad s.heap){i:Int}{e:Addr}{Q:Unit→Shared→Prop}(q:ExcAt x Z ad i e s.heap)
  (h:∀h',Sit prog w K x σ Z ad h'→ExcF x Z ad i e h' (rawInt x.env.locals)→Q () {s with heap:=h'}):wpAny M x.A (noteFrame (.ref e) x.env) Q X s:=by
 refine X0245 q fun a1 a2 d vs sl od b1 b2 b3 b4 b5 hd=>?_
 unfold noteFrame
 simp only [O.frm]
 rcases hd with h1 | ⟨T,oT,ts,f,c1,c2,c3,c4,c5,c6,c7,c8,hf⟩
 ·refine wpAny_bind (wpAny_field b1 rfl h1 ?_)
  refine er (if_neg (by decide)) ?_
  exact entry O S a1 a2 b1 b2 b3 b4 b5 (Array.getElem?_eq_some_iff.mp h1).1 h
 ·refine wpAny_bind (wpAny_field b1 rfl c1 ?_)
  refine er (if_pos (show (Value.ref T !=Value.none)=true from by simp)) ?_
  refine wpAny_bind (wpAny_field c6 c7 c8 ?_)
  rcases hf with rfl | rfl
  ·refine er (if_neg (show¬((Value.none == rawInt x.env.locals)=true) from by simp [rawInt])) ?_
   refine wpAny_bind (wpAny_setField c6 c7 (Array.getElem?_eq_some_iff.mp c8).1 ?_)
   have S':Sit prog w K x σ Z ad (s.heap.update T (Obj.mapFields (·.setIfInBounds 3 Value.none))):=by
    refine S.exc [T] (fun a m=>(List.mem_singleton.mp m).symm▸(⟨c5,c2⟩)) (Nat.le_of_eq (Heap.size_after_update ..).symm) (fun b o hb _ n=>?_) fun b o hb m=>?_
    ·exact (Heap.get?_update_other _ _ fun q=>n (List.mem_singleton.mpr q.symm)).trans hb
    ·exact ⟨o.slots,(Heap.get?_update_other _ _ fun q=>c5 (by refine er q ?_;exact frs_spec m)).trans hb⟩
   exact entry (s:={s with heap:=s.heap.update T (Obj.mapFields (·.setIfInBounds 3 Value.none))}) O S' a1 a2 ((Heap.get?_update_other _ _ c3).trans b1) b2 b3 ((Heap.get?_update_other _ _ c4).trans b4) b5 (Array.getElem?_eq_some_iff.mp c1).1 h
  ·refine er (if_pos (by simp [rawInt])) ?_
   exact wpAny_pure (h _ S (I024537 a1 a2 d vs sl od b1 b2 b3 b4 b5 T oT ts c1 c2 c3 c4 c5 c6 c7 c8))
theorem leave (O:x.Ok)(S:Sit prog w K x σ Z ad s.heap){i:Int}{e:Addr}{Q:Unit→Shared→Prop}(q:ExcAt x Z ad i e s.heap)
  (h:∀h',Sit prog w K x σ Z ad h'→ExcF x Z ad i e h' .none→Q () {s with heap:=h'}):wpAny M x.A (leaving x.env (.ref e)) Q X s:=by
 exact wpAny_bind (note O S q fun h₁ S₁ q₁=>flight (s:={s with heap:=h₁}) S₁ q₁ fun h₂ S₂ q₂=>h h₂ S₂ q₂)
theorem through (O:x.Ok)(S:Sit prog w K x σ Z ad s.heap){i:Int}{e:Addr}(q:ExcAt x Z ad i e s.heap)
  (h:∀h',Sit prog w K x σ Z ad h'→ExcAt x Z ad i e h'→X (.ref e) {s with heap:=h'}):notedBy M x.A x.env (cameBackBy M x.A x.env X) (.ref e) s:=by
 refine note O S q fun h₁ S₁ q₁=>?_
 refine X024537 (id q₁) fun a1 a2 d vs sl od b1 b2 b3 b4 b5 T oT ts c1 c2 c3 c4 c5 c6 c7 c8=>?_
 refine wpAny_bind (wpAny_field b1 rfl c1 ?_)
 refine er (if_neg (nofun)) ?_
 refine er O.frm ?_
 refine flight (s:={s with heap:=h₁}) S₁ q₁ fun h₂ S₂ q₂=>h h₂ S₂ (q₂.at (.inr rfl))
end
theorem star_cons (e:E)(es:List E)(env:Env):starEach (decs (e :: es)) env=(false,eval (dec e) env) :: starEach (decs es) env:=by
 cases e <;> rfl
theorem star_all (env:Env)(p:Pos):∀es:List E,(backTo p (starEach (decs es) env)).any (·.1)=false∧(backTo p (starEach (decs es) env)).all (fun q=>!q.1)=true
 | []=>(show decs []= [] from rfl).symm▸(⟨rfl,rfl⟩)
 | e :: es=>by
  rw [star_cons]
  have ih:=star_all env p es
  unfold backTo at ih ⊢
  exact ⟨by refine er List.map_cons (er List.any_cons (er ih.1 ?_));rfl,by refine er List.map_cons (er List.all_cons (er ih.2 ?_));rfl⟩
theorem decs_len:∀es:List E,(decs es).length=es.length
 | []=>rfl
 | e :: es=>congrArg Nat.succ (decs_len es)
theorem base_noC {e:E}(h:noC e=true)(a:Str)(env:Env)(t:Sem Value):attributeBase (dec e) a env t=t:=by
 cases e <;> first | exact noB h;done | rfl
theorem swaps_ncp {e:E}(h:ncp e=true)(t:Option PySem.Expr)(l:Nat)(env:Env):swapsWith (dec e) t l env=pure false:=by
 cases e <;> first | exact noB h;done | rfl
theorem marks_dec (op:CmpOp)(e:E):behindInMarks op (dec e)=false:=by
 cases e <;> rfl
noncomputable def AllP (l:List Prop):Prop:=∀q∈l,q
section
variable {prog:Program}{w:World}{K:Frag}{c:Cf}{n:Nat}{X:Value→Shared→Prop}{s:Shared}{Z:Heap}{ad:List Addr}{x:Fx}{σ:St}
variable (prog w K) in
def RC (x:Fx)(Z:Heap)(ad:List Addr)(s:Shared)(r:Out×St)(R:Result→Shared→Prop):Prop:=match r with
 | (.v a,σ)=>OkS prog w K x Z ad s σ fun Z' ad' s'=>∀v,Val prog w Z' ad' a v→R (.ok (.ret v)) s'
 | (.ex i,σ)=>RX prog w K x Z ad s i σ fun e s'=>R (.error e) s'
 | _=>False
variable (prog w) in
def FnIs (Z:Heap)(ad:List Addr)(fa:Addr)(f:Nat)(cl:List (Nat×AV)):Prop:=
 ∃o fd fn,Z.get? fa=some o∧o.data=.func fd∧fns f=some fn∧FdOk fd fn∧Z.CodeRec fd.code fd.qualname∧∀n a,lkA n cl=some a→∃c,fd.closure.lookup (nm n)=some c∧Val prog w Z ad a (.ref c)
variable (prog w K c) in
structure Snd (n:Nat):Prop where
 ex:∀{x:Fx} {e:E} {σ:St} {r:Out×St} {Z:Heap} {ad:List Addr} {s:Shared} {Q X:Value→Shared→Prop},x.Ok→x.A.depth + n < c.lim→ev c n (.ex e) σ=some r→AllP r.2.obl→Sit prog w K x σ Z ad s.heap→
  RV prog w K x Z ad s r Q X→wpAny (model prog w) x.A (eval (dec e) x.env) Q X s
 exs:∀{x:Fx} {es:List E} {p:Pos} {σ:St} {r:Out×St} {Z:Heap} {ad:List Addr} {s:Shared} {Q:List Value→Shared→Prop} {X:Value→Shared→Prop},x.Ok→x.A.depth + n < c.lim→ev c n (.exs es) σ=some r→AllP r.2.obl→Sit prog w K x σ Z ad s.heap→
  RVs prog w K x Z ad s r Q X→wpAny (model prog w) x.A (spliced (backTo p (starEach (decs es) x.env))) Q X s
 tr:∀{x:Fx} {e:E} {σ:St} {r:Out×St} {Z:Heap} {ad:List Addr} {s:Shared} {Q:Bool→Shared→Prop} {X:Value→Shared→Prop},x.Ok→x.A.depth + n < c.lim→ev c n (.tr e) σ=some r→AllP r.2.obl→Sit prog w K x σ Z ad s.heap→
  RB prog w K x Z ad s r Q X→wpAny (model prog w) x.A (isTrue (dec e) x.env (eval (dec e) x.env)) Q X s
 trs:∀{x:Fx} {k:Bool} {es:List E} {σ:St} {r:Out×St} {Z:Heap} {ad:List Addr} {s:Shared} {Q:Bool→Shared→Prop} {X:Value→Shared→Prop},x.Ok→x.A.depth + n < c.lim→ev c n (.trs k es) σ=some r→AllP r.2.obl→Sit prog w K x σ Z ad s.heap→
  RB prog w K x Z ad s r Q X→wpAny (model prog w) x.A (allTrue (match k with | true=>.And | false=>.Or) (decs es) x.env) Q X s
 st:∀{x:Fx} {t:S} {σ:St} {r:Out×St} {Z:Heap} {ad:List Addr} {s:Shared} {Q:Flow→Shared→Prop} {X:Value→Shared→Prop},x.Ok→x.A.depth + n < c.lim→ev c n (.st t) σ=some r→AllP r.2.obl→Sit prog w K x σ Z ad s.heap→
  RF prog w K x Z ad s r Q X→wpAny (model prog w) x.A (exec (decS t) x.env) Q X s
 sts:∀{x:Fx} {ts:List S} {σ:St} {r:Out×St} {Z:Heap} {ad:List Addr} {s:Shared} {Q:Flow→Shared→Prop} {X:Value→Shared→Prop},x.Ok→x.A.depth + n < c.lim→ev c n (.sts ts) σ=some r→AllP r.2.obl→Sit prog w K x σ Z ad s.heap→
  RF prog w K x Z ad s r Q X→wpAny (model prog w) x.A (execs (decSs ts) x.env) Q X s
 cal:∀{x:Fx} {A:Around} {f:Nat} {fa:Addr} {as:List AV} {vs:List Value} {cl:List (Nat×AV)} {σ:St} {r:Out×St} {Z:Heap} {ad:List Addr} {s:Shared} {R:Result→Shared→Prop},x.Ok→A.frames=some (x.env :: x.outer)→A.handled=none→A.depth + n < c.lim→
  ev c n (.cal f as cl) σ=some r→AllP r.2.obl→Sit prog w K x σ Z ad s.heap→Vals prog w Z ad as vs→FnIs prog w Z ad fa f cl→RC prog w K x Z ad s r R→codeAny (model prog w) A (.call (.ref fa) ⟨vs,[]⟩) R s
 asn:∀{x:Fx} {ts:List T} {as:List AV} {vs:List Value} {σ:St} {r:Out×St} {Z:Heap} {ad:List Addr} {s:Shared} {Q:Unit→Shared→Prop} {X:Value→Shared→Prop},x.Ok→x.A.depth + n < c.lim→ev c n (.asn ts as) σ=some r→AllP r.2.obl→Sit prog w K x σ Z ad s.heap→
  Vals prog w Z ad as vs→RF prog w K x Z ad s r (fun _ s'=>Q () s') X→wpAny (model prog w) x.A (assignInOrder (ts.map fun t=>assign (decT t) x.env) vs) Q X s
 whl:∀{x:Fx} {t:E} {b:List S} {σ:St} {r:Out×St} {Z:Heap} {ad:List Addr} {s:Shared} {Q:Flow→Shared→Prop} {X:Value→Shared→Prop},x.Ok→x.A.depth + n < c.lim→ev c n (.whl t b) σ=some r→AllP r.2.obl→Sit prog w K x σ Z ad s.heap→
  RF prog w K x Z ad s r Q X→codeAny (model prog w) x.A (.whileLoop (dec t) (decSs b) [] x.env) (fun q s'=>match q with | .ok f=>Q f s' | .error e=>cameBackBy (model prog w) x.A x.env X e s') s
theorem fin_e {r0:R}{r:Out×St}{G:Prop}(h:fin σ r0=some r)(ob:AllP r.2.obl)(k:∀q b,r0=some q→AllP q.2.obl→AllP σ.obl→r=(q.1,{q.2 with obl:=b})→G):G:=
 oM h fun q e1 e2=>k q _ e1 (fun p hp=>ob p (e2▸List.mem_append_left _ hp)) (fun p hp=>ob p (e2▸List.mem_append_right _ hp)) e2.symm
theorem Sit.ob {h:Heap}{b:List Prop}(S:Sit prog w K x σ Z ad h):Sit prog w K x {σ with obl:=b} Z ad h:=⟨S.kd,S.stat,S.hs,S.loc,S.cel⟩
theorem OkS.ob {b:List Prop}{k:Heap→List Addr→Shared→Prop}(h:OkS prog w K x Z ad s {σ with obl:=b} k):OkS prog w K x Z ad s σ k:=fun Z' ad' h' tk sub pr S=>h Z' ad' h' tk sub pr S.ob
theorem RV.ob {q r:Out×St}{b:List Prop}{Q E:Value→Shared→Prop}(e:r=(q.1,{q.2 with obl:=b}))(h:RV prog w K x Z ad s r Q E):RV prog w K x Z ad s q Q E:=by
 obtain ⟨o,σ⟩:=q;subst e;replace h:RV prog w K x Z ad s (o,{σ with obl:=b}) Q E:=h;cases o <;> first | exact fun Z' ad' h' tk sub pr S=>h Z' ad' h' tk sub pr S.ob | exact h
theorem RVs.ob {q r:Out×St}{b:List Prop}{Q:List Value→Shared→Prop}{E:Value→Shared→Prop}(e:r=(q.1,{q.2 with obl:=b}))(h:RVs prog w K x Z ad s r Q E):RVs prog w K x Z ad s q Q E:=by
 obtain ⟨o,σ⟩:=q;subst e;replace h:RVs prog w K x Z ad s (o,{σ with obl:=b}) Q E:=h;cases o <;> first | exact fun Z' ad' h' tk sub pr S=>h Z' ad' h' tk sub pr S.ob | exact h
theorem RB.ob {q r:Out×St}{b:List Prop}{Q:Bool→Shared→Prop}{E:Value→Shared→Prop}(e:r=(q.1,{q.2 with obl:=b}))(h:RB prog w K x Z ad s r Q E):RB prog w K x Z ad s q Q E:=by
 obtain ⟨o,σ⟩:=q;subst e;replace h:RB prog w K x Z ad s (o,{σ with obl:=b}) Q E:=h;cases o <;> first | exact fun Z' ad' h' tk sub pr S=>h Z' ad' h' tk sub pr S.ob | exact h
theorem RF.ob {q r:Out×St}{b:List Prop}{Q:Flow→Shared→Prop}{E:Value→Shared→Prop}(e:r=(q.1,{q.2 with obl:=b}))(h:RF prog w K x Z ad s r Q E):RF prog w K x Z ad s q Q E:=by
 obtain ⟨o,σ⟩:=q;subst e;replace h:RF prog w K x Z ad s (o,{σ with obl:=b}) Q E:=h;cases o <;> first | exact fun Z' ad' h' tk sub pr S=>h Z' ad' h' tk sub pr S.ob | exact h
theorem RV.of {q r:Out×St}{Q E:Value→Shared→Prop}(e:q=r)(h:RV prog w K x Z ad s r Q E):RV prog w K x Z ad s q Q E:=e▸h
theorem RVs.of {q r:Out×St}{Q:List Value→Shared→Prop}{E:Value→Shared→Prop}(e:q=r)(h:RVs prog w K x Z ad s r Q E):RVs prog w K x Z ad s q Q E:=e▸h
theorem RB.of {q r:Out×St}{Q:Bool→Shared→Prop}{E:Value→Shared→Prop}(e:q=r)(h:RB prog w K x Z ad s r Q E):RB prog w K x Z ad s q Q E:=e▸h
theorem RF.of {q r:Out×St}{Q:Flow→Shared→Prop}{E:Value→Shared→Prop}(e:q=r)(h:RF prog w K x Z ad s r Q E):RF prog w K x Z ad s q Q E:=e▸h
theorem RC.ob {q r:Out×St}{b:List Prop}{R:Result→Shared→Prop}(e:r=(q.1,{q.2 with obl:=b}))(h:RC prog w K x Z ad s r R):RC prog w K x Z ad s q R:=by
 obtain ⟨o,σ⟩:=q;subst e;replace h:RC prog w K x Z ad s (o,{σ with obl:=b}) R:=h;cases o <;> first | exact fun Z' ad' h' tk sub pr S=>h Z' ad' h' tk sub pr S.ob | exact h
variable (prog w K) in
structure Res (x:Fx) (X:Value→Shared→Prop) (P:Out×St→Heap→List Addr→Shared→Prop):Prop where
 on:∀{r:Out×St} {Z Z₁:Heap} {ad ad₁:List Addr} {s s₁:Shared},P r Z ad s→Sub Z Z₁→Pre ad ad₁→(s₁.gens=s.gens∧s₁.drawn=s.drawn∧s₁.os=s.os)→P r Z₁ ad₁ s₁
 ex:∀{i:Int} {σ:St} {Z:Heap} {ad:List Addr} {s:Shared},P (.ex i,σ) Z ad s→RX prog w K x Z ad s i σ X
 ob:∀{q r:Out×St} {b:List Prop} {Z:Heap} {ad:List Addr} {s:Shared},r=(q.1,{q.2 with obl:=b})→P r Z ad s→P q Z ad s
theorem resV {Q:Value→Shared→Prop}:Res prog w K x X fun r Z ad s=>RV prog w K x Z ad s r Q X:=⟨RV.on,id,RV.ob⟩
theorem resVs {Q:List Value→Shared→Prop}:Res prog w K x X fun r Z ad s=>RVs prog w K x Z ad s r Q X:=⟨RVs.on,id,RVs.ob⟩
theorem resB {Q:Bool→Shared→Prop}:Res prog w K x X fun r Z ad s=>RB prog w K x Z ad s r Q X:=⟨RB.on,id,RB.ob⟩
theorem resF {Q:Flow→Shared→Prop}:Res prog w K x X fun r Z ad s=>RF prog w K x Z ad s r Q X:=⟨RF.on,id,RF.ob⟩
section
variable {r:Out×St}{P:Out×St→Heap→List Addr→Shared→Prop}
theorem b_ex (I:Snd prog w K c n){e:E}{k:AV→St→R}{Q₁:Value→Shared→Prop}(O:x.Ok)(B:x.A.depth + n < c.lim)(hr:bv (ev c n (.ex e) σ) k=some r)(ob:AllP r.2.obl)
  (S:Sit prog w K x σ Z ad s.heap) (T:Res prog w K x X P) (h:P r Z ad s)
  (cont:∀a σ₁ r Z' ad' h' tk v,AllP r.2.obl→k a σ₁=some r→Sub Z Z'→Pre ad ad'→Sit prog w K x σ₁ Z' ad' h'→Val prog w Z' ad' a v→P r Z' ad' ⟨h',s.gens,s.drawn,tk,s.os⟩→Q₁ v ⟨h',s.gens,s.drawn,tk,s.os⟩) :
  wpAny (model prog w) x.A (eval (dec e) x.env) Q₁ X s:=by
 cases hh:ev c n (.ex e) σ with
 | none=>rw [hh] at hr;exact noS hr
 | some p=>
  obtain ⟨o,σ₁⟩:=p
  rw [hh] at hr
  cases o with
  | v a=>exact fin_e hr ob fun q b e1 oq o e=>I.ex O B hh o S fun Z' ad' h' tk sub pr S' v hv=>cont a (clr σ₁) q Z' ad' h' tk v oq e1 sub pr S'.ob hv (T.on (T.ob e h) sub pr (I02 rfl rfl rfl))
  | ex i=>cases hr;exact I.ex O B hh ob S (T.ex h)
  | _=>exact noS hr
theorem b_exs (I:Snd prog w K c n){es:List E}{p:Pos}{k:List AV→St→R}{Q₁:List Value→Shared→Prop}(O:x.Ok)(B:x.A.depth + n < c.lim)(hr:bvs (ev c n (.exs es) σ) k=some r)(ob:AllP r.2.obl)
  (S:Sit prog w K x σ Z ad s.heap) (T:Res prog w K x X P) (h:P r Z ad s)
  (cont:∀a σ₁ r Z' ad' h' tk v,AllP r.2.obl→k a σ₁=some r→Sub Z Z'→Pre ad ad'→Sit prog w K x σ₁ Z' ad' h'→Vals prog w Z' ad' a v→P r Z' ad' ⟨h',s.gens,s.drawn,tk,s.os⟩→Q₁ v ⟨h',s.gens,s.drawn,tk,s.os⟩) :
  wpAny (model prog w) x.A (spliced (backTo p (starEach (decs es) x.env))) Q₁ X s:=by
 cases hh:ev c n (.exs es) σ with
 | none=>rw [hh] at hr;exact noS hr
 | some p=>
  obtain ⟨o,σ₁⟩:=p
  rw [hh] at hr
  cases o with
  | vs a=>exact fin_e hr ob fun q b e1 oq o e=>I.exs O B hh o S fun Z' ad' h' tk sub pr S' v hv=>cont a (clr σ₁) q Z' ad' h' tk v oq e1 sub pr S'.ob hv (T.on (T.ob e h) sub pr (I02 rfl rfl rfl))
  | ex i=>cases hr;exact I.exs O B hh ob S (T.ex h)
  | _=>exact noS hr
theorem b_tr (I:Snd prog w K c n){e:E}{k:Bool→St→R}{Q₁:Bool→Shared→Prop}(O:x.Ok)(B:x.A.depth + n < c.lim)(hr:bb (ev c n (.tr e) σ) k=some r)(ob:AllP r.2.obl)
  (S:Sit prog w K x σ Z ad s.heap) (T:Res prog w K x X P) (h:P r Z ad s)
  (cont:∀a σ₁ r Z' ad' h' tk,AllP r.2.obl→k a σ₁=some r→Sub Z Z'→Pre ad ad'→Sit prog w K x σ₁ Z' ad' h'→P r Z' ad' ⟨h',s.gens,s.drawn,tk,s.os⟩→Q₁ a ⟨h',s.gens,s.drawn,tk,s.os⟩) :
  wpAny (model prog w) x.A (isTrue (dec e) x.env (eval (dec e) x.env)) Q₁ X s:=by
 cases hh:ev c n (.tr e) σ with
 | none=>rw [hh] at hr;exact noS hr
 | some p=>
  obtain ⟨o,σ₁⟩:=p
  rw [hh] at hr
  cases o with
  | b a=>exact fin_e hr ob fun q b e1 oq o e=>I.tr O B hh o S fun Z' ad' h' tk sub pr S'=>cont a (clr σ₁) q Z' ad' h' tk oq e1 sub pr S'.ob (T.on (T.ob e h) sub pr (I02 rfl rfl rfl))
  | ex i=>cases hr;exact I.tr O B hh ob S (T.ex h)
  | _=>exact noS hr
theorem b_cal (I:Snd prog w K c n){A:Around}{f:Nat}{fa:Addr}{as:List AV}{vs:List Value}{cl:List (Nat×AV)}{k:AV→St→R}{R:Result→Shared→Prop}(O:x.Ok)(hA:A.frames=some (x.env :: x.outer))(hh:A.handled=none)(B:A.depth + n < c.lim)(hr:bv (ev c n (.cal f as cl) σ) k=some r)(ob:AllP r.2.obl)
  (S:Sit prog w K x σ Z ad s.heap) (ha:Vals prog w Z ad as vs) (hF:FnIs prog w Z ad fa f cl) (hx:∀i σ',r=(.ex i,σ')→RX prog w K x Z ad s i σ' fun e s'=>R (.error e) s')
  (cont:∀a σ₁ q b,k a (clr σ₁)=some q→r=(q.1,{q.2 with obl:=b})→RC prog w K x Z ad s (.v a,σ₁) R):codeAny (model prog w) A (.call (.ref fa) ⟨vs,[]⟩) R s:=by
 cases h:ev c n (.cal f as cl) σ with
 | none=>rw [h] at hr;exact noS hr
 | some p=>
  obtain ⟨o,σ₁⟩:=p
  rw [h] at hr
  cases o with
  | v a=>exact fin_e hr ob fun q b e1 oq o e=>I.cal O hA hh B h o S ha hF (cont a σ₁ q b e1 e)
  | ex i=>cases hr;exact I.cal O hA hh B h ob S ha hF (hx i σ₁ rfl)
  | _=>exact noS hr
theorem bn_e {r0:R}{k:St→R}{G:Prop}(hr:bn r0 k=some r)(k1:∀σ₁,r0=some (.nx,σ₁)→fin σ₁ (k (clr σ₁))=some r→G)(k2:∀v σ₁,r0=some (.rt v,σ₁)→(.rt v,σ₁)=r→G)(k3:∀i σ₁,r0=some (.ex i,σ₁)→(.ex i,σ₁)=r→G):G:=
 oB hr fun q e hr=>by
  obtain ⟨o,σ₁⟩:=q
  cases o with
  | nx=>exact k1 σ₁ e hr
  | rt v=>exact k2 v σ₁ e (Option.some.inj hr)
  | ex i=>exact k3 i σ₁ e (Option.some.inj hr)
  | _=>exact noS hr
theorem celR_eq {y r:Nat}{G:Prop}(h:celR σ y=some r)(k:isC σ.kd y=true→lkA y σ.cel=some (.ref r)→∀xs,getH σ.H r=some (.cell,xs)→G):G:=
 oB h fun a e h=>gG e fun hk e=>oB h fun r1 e1 h=>oB h fun q e2 h=>oM h fun xs e3 h=>k hk (e.trans (congrArg some ((refA_eq e1).trans (congrArg AV.ref h)))) xs (h▸e2.trans (congrArg some (celQ_eq e3)))
theorem b_pr {p:Pos}{q:Option AV}{r:Out×St}(hr:pr c p q σ=some r)(ob:AllP r.2.obl):∃a o b,r=(.v a,{σ with orc:=o,obl:=b})∧q=some a:=by
 unfold pr at hr
 split at hr
 ·split at hr
  ·cases Option.some.inj hr;exact (I31 _ _ _ rfl (ob _ (.head _)))
  ·cases hr
 ·split at hr
  ·cases Option.some.inj hr;exact (I31 _ _ _ rfl rfl)
  ·cases hr
theorem b_chk {p:Pos}{q G:Prop} [Decidable q] {k:St→R}(hr:chk c p q σ k=some r)(ob:AllP r.2.obl)(T:Res prog w K x X P)(h:P r Z ad s)(cont:∀r,AllP r.2.obl→k (clr σ)=some r→P r Z ad s→q→G):G:=by
 unfold chk at hr
 cases hc:c.pol p with
 | true=>rw [hc] at hr;exact fin_e hr ob fun q b e1 oq o e=>cont q oq e1 (T.ob e h) (o _ (.head _))
 | false=>rw [hc] at hr;exact gG hr fun hd hr=>fin_e hr ob fun q b e1 oq o e=>cont q oq e1 (T.ob e h) (of_decide_eq_true hd)
theorem b_prP {p:Pos}{q:Option (AV×List AV)}{G:Prop}{k:AV→List AV→St→R}(hr:prP c p q σ k=some r)(ob:AllP r.2.obl)(T:Res prog w K x X P)(h:P r Z ad s)(cont:∀a ys o r,AllP r.2.obl→k a ys {σ with orc:=o,obl:=[]}=some r→P r Z ad s→q=some (a,ys)→G):G:=by
 unfold prP at hr
 split at hr
 ·split at hr
  ·split at hr
   ·exact fin_e hr ob fun q b e1 oq o e=>cont _ _ _ q oq e1 (T.ob e h) (o _ (.head _))
   ·cases hr
  ·cases hr
 ·exact oB hr fun z e2 hr=>fin_e hr ob fun q b e1 oq o e=>cont _ _ _ q oq e1 (T.ob e h) e2
end
end
section
variable {prog:Program}{w:World}{K:Frag}{c:Cf}{n:Nat}{X:Value→Shared→Prop}{s:Shared}{Z:Heap}{ad:List Addr}{x:Fx}{σ:St}
theorem RV.here {s:Shared}{a:AV}{o:List AV}{b:List Prop}{Q:Value→Shared→Prop}(h:RV prog w K x Z ad s (.v a,{σ with orc:=o,obl:=b}) Q X)(S:Sit prog w K x σ Z ad s.heap){v:Value}(hv:Val prog w Z ad a v)(tk:Nat):Q v {s with toks:=tk}:=
 h Z ad s.heap tk (Sub.refl Z) (Pre.refl ad) (S.orc o b) v hv
theorem RV.here0 {s:Shared}{a:AV}{Q:Value→Shared→Prop}(h:RV prog w K x Z ad s (.v a,σ) Q X)(S:Sit prog w K x σ Z ad s.heap){v:Value}(hv:Val prog w Z ad a v)(tk:Nat):Q v {s with toks:=tk}:=
 h Z ad s.heap tk (Sub.refl Z) (Pre.refl ad) S v hv
theorem e_cst {a:AV}{p:Pos}{r:Out×St}{Q:Value→Shared→Prop}(hr:evEx c (ev c n) (.cst a p) σ=some r)(S:Sit prog w K x σ Z ad s.heap)(h:RV prog w K x Z ad s r Q X):wpAny (model prog w) x.A (eval (dec (.cst a p)) x.env) Q X s:=by
 refine gG hr fun hl hr=>?_
 replace h:=RV.of (Option.some.inj hr) h
 cases a with
 | none=>exact wpAny_Constant_none (h.here0 S .none s.toks)
 | bool b=>exact wpAny_Constant_bool (h.here0 S .bool s.toks)
 | int i=>exact wpAny_Constant_int (h.here0 S .int _)
 | lit k=>exact wpAny_Constant_str (h.here0 S .lit _)
 | _=>exact noB hl
theorem e_names (G:Good K){e:E}{r:Out×St}{Q:Value→Shared→Prop}(he:match e with | .loc .. | .cel .. | .glb .. | .cls ..=>True | _=>False)(O:x.Ok)(hr:evEx c (ev c n) e σ=some r)(S:Sit prog w K x σ Z ad s.heap)(h:RV prog w K x Z ad s r Q X) :
  wpAny (model prog w) x.A (eval (dec e) x.env) Q X s:=by
 cases e with
 | loc y p=>exact gG hr fun hk hr=>oM hr fun a e q0=>r_loc O S hk e fun v hv=>(RV.of q0 h).here0 S hv s.toks
 | cel y p=>exact gG hr fun hk hr=>oB hr fun a e hr=>oB hr fun q e2 hr=>oM hr fun v e3 q0=>oB e3 fun l e4 e5=>r_cel O S hk e (e2.trans (congrArg some ((celQ_eq e4).trans (congrArg (Prod.mk Tg.cell) (one_eq e5))))) fun v hv=>(RV.of q0 h).here0 S hv s.toks
 | glb y p=>exact gG hr fun hk hr=>oM hr fun a e q0=>X11 (G.gvl _ _ e) fun v h1 h2=>r_top O S hk h1 ((RV.of q0 h).here0 S (h2 ..) s.toks)
 | cls k p=>exact gG2 hr fun hk hl hr=>r_top O S hk (G.gcl k (Nat.le_of_ble_eq_true hl)) ((RV.of (Option.some.inj hr) h).here0 S .kls s.toks)
 | _=>exact he.elim
theorem e_attr (G:Good K)(I:Snd prog w K c n){o:E}{a:Nat}{p:Pos}{r:Out×St}{Q:Value→Shared→Prop}(O:x.Ok)(B:x.A.depth + n < c.lim)(hr:evEx c (ev c n) (.attr o a p) σ=some r)(ob:AllP r.2.obl)
  (S:Sit prog w K x σ Z ad s.heap) (h:RV prog w K x Z ad s r Q X):wpAny (model prog w) x.A (eval (dec (.attr o a p)) x.env) Q X s:=by
 refine gG hr fun hc hr=>Attribute_any_ ?_ (by rw [arm_eval_Attribute,base_noC hc])
 refine b_ex I O B hr ob S resV h fun a σ₁ r Z' ad' h' tk v ob hk sub pr S' hv hP=>?_
 exact X31 (b_pr hk ob) fun a' o' b' q0 hq=>p_attr (s:=⟨h',_,_,_,_⟩) G.kf S' hv hq fun v tk hv=>(RV.of q0.symm hP).here S' hv tk
theorem e_sub (I:Snd prog w K c n){o i:E}{p:Pos}{r:Out×St}{Q:Value→Shared→Prop}(O:x.Ok)(B:x.A.depth + n < c.lim)(hr:evEx c (ev c n) (.sub o i p) σ=some r)(ob:AllP r.2.obl)
  (S:Sit prog w K x σ Z ad s.heap) (h:RV prog w K x Z ad s r Q X):wpAny (model prog w) x.A (eval (dec (.sub o i p)) x.env) Q X s:=by
 delta evEx at hr
 dsimp only at hr
 refine Subscript_ ?_
 refine b_ex I O B hr ob S resV h fun a σ₁ r Z' ad' h' tk v ob hk sub pr S' hv hP=>?_
 refine b_ex (s:=⟨h',_,_,_,_⟩) I O B hk ob S' resV hP fun b σ₂ r Z'' ad'' h'' tk' u ob hk' sub' pr' S'' hu hP'=>?_
 exact X31 (b_pr hk' ob) fun a' o' b' q0 hq=>p_sub (s:=⟨h'',_,_,_,_⟩) S'' (hv.mono sub' pr') hu hq fun v tk hv=>(RV.of q0.symm hP').here S'' hv tk
theorem e_cmp (I:Snd prog w K c n){op:CmpOp}{o i:E}{p:Pos}{r:Out×St}{Q:Value→Shared→Prop}(O:x.Ok)(B:x.A.depth + n < c.lim)(hr:evEx c (ev c n) (.cmp op o i p) σ=some r)(ob:AllP r.2.obl)
  (S:Sit prog w K x σ Z ad s.heap) (h:RV prog w K x Z ad s r Q X):wpAny (model prog w) x.A (eval (dec (.cmp op o i p)) x.env) Q X s:=by
 delta evEx at hr
 dsimp only at hr
 refine wpAny_Compare1 ?_ (marks_dec op i)
 refine b_ex I O B hr ob S resV h fun a σ₁ r Z' ad' h' tk v ob hk sub pr S' hv hP=>?_
 refine b_ex (s:=⟨h',_,_,_,_⟩) I O B hk ob S' resV hP fun b σ₂ r Z'' ad'' h'' tk' u ob hk' sub' pr' S'' hu hP'=>?_
 exact X31 (b_pr hk' ob) fun a' o' b' q0 hq=>p_cmp (s:=⟨h'',_,_,_,_⟩) S'' (hv.mono sub' pr') hu hq fun v tk hv=>(RV.of q0.symm hP').here S'' hv tk
theorem isAdd_eq {op:Operator}(h:isAdd op=true):op=.Add:=by
 cases op <;> first | rfl | exact noB h
theorem e_bin (I:Snd prog w K c n){op:Operator}{o i:E}{p:Pos}{r:Out×St}{Q:Value→Shared→Prop}(O:x.Ok)(B:x.A.depth + n < c.lim)(hr:evEx c (ev c n) (.bin op o i p) σ=some r)(ob:AllP r.2.obl)
  (S:Sit prog w K x σ Z ad s.heap) (h:RV prog w K x Z ad s r Q X):wpAny (model prog w) x.A (eval (dec (.bin op o i p)) x.env) Q X s:=by
 delta evEx at hr
 dsimp only at hr
 refine wpAny_BinOp ?_
 refine b_ex I O B hr ob S resV h fun a σ₁ r Z' ad' h' tk v ob hk sub pr S' hv hP=>?_
 refine b_ex (s:=⟨h',_,_,_,_⟩) I O B hk ob S' resV hP fun b σ₂ r Z'' ad'' h'' tk' u ob hk' sub' pr' S'' hu hP'=>?_
 refine oC hk' (fun xs e1 hk'=>gG hk' fun ha hk'=>oB hk' fun ys e2 hk'=>b_chk hk' ob resV hP' fun r ob hk3 hP' hl=>?_) fun _ hk'=>gG hk' fun _ hk'=>X31 (b_pr hk' ob) fun a' o' b' q0 hq=>p_bin (s:=⟨h'',_,_,_,_⟩) (hv.mono sub' pr') hu hq fun v tk hv=>(RV.of q0.symm hP').here S'' hv tk
 cases isAdd_eq ha
 exact m_add (s:=⟨h'',_,_,_,_⟩) S'' (hv.mono sub' pr') (lstOf_some e1) hu (lstOf_some e2) hl (OkS.ob (b:=[]) (RV.of (Option.some.inj hk3) hP'))
end
section
variable {prog:Program}{w:World}{K:Frag}{c:Cf}{n:Nat}{X:Value→Shared→Prop}{s:Shared}{Z:Heap}{ad:List Addr}{x:Fx}{σ:St}
theorem args_any {M:Model}{A:Around}{f:Value}{as:List E}{env:Env}{p:Pos}{Q:Args→Shared→Prop}(h:wpAny M A (spliced (backTo p (starEach (decs as) env))) (fun vs s'=>Q ⟨vs,[]⟩ s') X s) :
  wpAny M A (evalArgs f true (backTo p (starEach (decs as) env)) []) Q X s:=by
 cases as with
 | nil=>
  rw [show decs []= [] from rfl] at h ⊢
  refine wpAny_bind (wpAny_mono (show wpAny M A (spliced []) _ X s from h) (fun vs s' h'=>?_) fun _ _ x=>x)
  refine wpAny_bind (wpAny_pure ?_)
  refine wpAny_holding ?_
  exact wpAny_bind (wpAny_pure (wpAny_bind (wpAny_pure (wpAny_pure h'))))
 | cons e es=>
  rw [star_cons] at h ⊢
  exact evalArgs_plain h
theorem callK {M:Model}{A:Around}{f:Value}{first:List Value}{as:List E}{env:Env}{p:Pos}{Q:Value→Shared→Prop}(hk:keepIn K f=true)
  (h:wpAny M A (spliced (backTo p (starEach (decs as) env))) (fun vs s'=>K.In s'.heap∧wpAny M A (call f (first ++ vs)) Q X s') X s):wpAny M A (callWith p f first (backTo p (starEach (decs as) env)) []) Q X s:=
 callWith_of (by refine er ((star_all env p as).1) ?_;rfl) (keeps_K hk) (args_any h)
theorem callB {M:Model}{A:Around}{f:Value}{first:List Value}{as:List E}{env:Env}{p:Pos}{Q:Value→Shared→Prop}(hf:(∃i,f=.builtin i)∨∃T,f=.type T)
  (h:wpAny M A (spliced (backTo p (starEach (decs as) env))) (fun vs s'=>wpAny M A (call f (first ++ vs)) Q X s') X s):wpAny M A (callWith p f first (backTo p (starEach (decs as) env)) []) Q X s:=by
 rcases hf with ⟨i,rfl⟩ | ⟨T,rfl⟩
 ·exact callWith_builtin (star_all env p as).1 (args_any h)
 ·exact PySem.callWith_type (star_all env p as).1 (args_any h)
theorem meth_eq {M:Model}{A:Around}{o:E}{m:Nat}{as:List E}{env:Env}{ap p:Pos}{Q:Value→Shared→Prop}(hc:noC o=true)(hl:as.length≤5)(hp:Nat.beq ap.endLine p.line=true)
  (h:wpAny M A (eval (dec o) env) (fun ov s₁=>wpAny M A (getMethod ov (nm m) (do return (←importBound (dec o) env).getD true)) (fun fx s₂=>wpAny M A (callWith p fx.1 fx.2 (backTo p (starEach (decs as) env)) []) Q X s₂) X s₁) X s) :
  wpAny M A (eval (dec (.meth o m ap as p)) env) Q X s:=by
 show wpAny _ _ (eval (.Call _ _ _ _) _) _ _ _
 rw [arm_eval_Call,base_noC hc]
 refine wpAny_bind (wpAny_mono h (fun ov s₁ h₁=>wpAny_bind (wpAny_standAt ?_)) fun _ _ x=>x)
 unfold methodCall
 have few:methodCallForm ((decs as).length + List.length ([]:List Keyword)) (backTo p (starEach (decs as) env)) (backToKw p (keywordEach [] env))=true:=by
  unfold methodCallForm
  rw [(star_all env p as).2,decs_len]
  simp only [Bool.true_and,Bool.and_eq_true,decide_eq_true_eq]
  refine ⟨rfl,?_⟩
  exact o26 hl
 refine er few ?_
 refine wpAny_bind (wpAny_holding (wpAny_mono h₁ (fun fx s₂ h₂=>?_) fun _ _ x=>x))
 have pe:methodCallPos true (dec o) env ap p=pure p:=by
  unfold methodCallPos
  have:(ap.endLine == p.line)=true:=by refine er (Nat.eq_of_beq_eq_true hp) ?_;simp
  simp [this]
 refine er pe ?_
 exact wpAny_bind (wpAny_pure h₂)
theorem ints_vals {Z':Heap}{ad':List Addr}{n:Nat}{acc:Array Value}(h:ItemsOf (fun i v=>∃t,v=.int (0 + (i:Nat) * 1) t) acc n):Vals prog w Z' ad' ((List.range n).map fun k=>.int (Int.ofNat k)) acc.toList:=by
 refine X01 h fun h1 h2=>?_
 have key:∀(l:List Value) (m:Nat),(∀j v,l[j]? =some v→∃t,v=Value.int (Int.ofNat (m + j)) t)→Vals prog w Z' ad' ((List.range' m l.length).map fun k=>AV.int (Int.ofNat k)) l:=by
  intro l
  induction l with
  | nil=>intro m _;exact .nil
  | cons a l ih=>
   intro m q
   refine er List.length_cons (er List.range'_succ (er List.map_cons ?_))
   refine X1 (q 0 a rfl) fun t e=>?_
   subst e
   exact .cons .int (ih (m + 1) fun j v e=>by
    refine X1 (q (j + 1) v e) fun t e'=>?_
    exact ⟨t,by refine er e' ?_;congr 2;exact (Nat.succ_add _ _).symm⟩)
 have:=key acc.toList 0 (fun j v e=>by
  refine X1 (h2 j v (by simpa using e)) fun t e'=>?_
  exact ⟨t,by refine er e' ?_;congr 1;simp⟩)
 refine er List.range_eq_range' (re h1 ?_)
 exact this
theorem list_range_call {A:Around}(hh:A.handled=none)(S:Sit prog w K x σ Z ad s.heap){i:Int}{t:Tok}(q1:0≤i)(q2:i≤1000){Q:Value→Shared→Prop}
  (h:OkS prog w K x Z ad s {σ with H:=σ.H ++ [some (.lst,(List.range i.toNat).map fun k=>.int (Int.ofNat k))]} fun Z' ad' s'=>∀v,Val prog w Z' ad' (.ref σ.H.length) v→Q v s') :
  wpAny (model prog w) A (call (.type "range") [.int i t]) (fun r s₁=>wpAny (model prog w) A (call (.type "list") [r]) Q X s₁) X s:=by
 refine call_range_1 ?_
 have hsz:Builtin.Range.rangeSize 0 i 1=(i.toNat:Int):=by rw [rangeSize_one];exact oa7 q1
 refine call_list_range hh (IsRange.new ..) (small_one (by decide) (by decide) (Int.le_trans (by decide) q1) (Int.lt_of_le_of_lt q2 (by decide))) hsz (Nat.le_trans (Int.toNat_le_toNat q2) (by decide)) fun h' tk acc c' keep ho hI=>?_
 dsimp only at keep ho ⊢
 have keep':Sub s.heap h':=fun a o q=>keep a o (Heap.get?_push_of_some _ q)
 have grow:=Heap.lt_size ho
 have hge:s.heap.objs.size≤(s.heap.push {cls:=.type "range",data:=.fields #[.int 0 s.toks,.int i t,.int 1 (s.toks + 1)]}).objs.size:=by rw [Heap.size_push];exact Nat.le_add_right _ _
 have low:=PyProof.Rows.modules_low (S.stat.lim.keeps S.hs.zsub)
 have hmo:((s.heap.push {cls:=.type "range",data:=.fields #[.int 0 s.toks,.int i t,.int 1 (s.toks + 1)]}).objs.size == sysModules)=false:=beq_eq_false_iff_ne.mpr (Nat.ne_of_gt (Nat.lt_of_lt_of_le low hge))
 obtain ⟨sub,S'⟩:=S.lay (h':=h') keep' (Nat.le_of_lt (Nat.lt_of_le_of_lt hge grow)) [_] [(.lst,(List.range i.toNat).map fun k=>.int (Int.ofNat k))] fun Z' _=>.cons hge (I01111 hmo _ ho c' rfl) (ints_vals hI) .nil
 refine h _ _ h' _ sub ⟨_,rfl⟩ S' _ (.ref ?_)
 refine re S.hs.len ?_
 simp
theorem isLst_eq {b:Bi}(h:isLst b=true):b=.list:=by
 cases b <;> first | rfl | exact noB h
theorem isRng_eq {b:Bi}(h:isRng b=true):b=.range:=by
 cases b <;> first | rfl | exact noB h
theorem rngOf_eq {b:Bi}{as:List E}{e:E}(h:rngOf b as=some e):∃fp p,b=.list∧as= [.calb .range fp [e] p]:=
 gG h fun h1 h=>oB h fun z e1 h=>by
  cases z with
  | calb b' fp as' p=>exact gG h fun h2 h=>I21 fp p (isLst_eq h1) (by exact er (one_eq e1) (er (isRng_eq h2) (er (one_eq h) rfl)))
  | _=>exact noS h
theorem e_calb (G:Good K)(I:Snd prog w K c n){b:Bi}{fp:Pos}{as:List E}{p:Pos}{r:Out×St}{Q:Value→Shared→Prop}(O:x.Ok)(B:x.A.depth + n < c.lim)(hr:evEx c (ev c n) (.calb b fp as p) σ=some r)(ob:AllP r.2.obl)
  (S:Sit prog w K x σ Z ad s.heap) (h:RV prog w K x Z ad s r Q X):wpAny (model prog w) x.A (eval (dec (.calb b fp as p)) x.env) Q X s:=by
 refine gG hr fun hk hr=>wpAny_Call_NameR (r_blt O S G hk (callB (by cases b <;> first | exact .inl ⟨_,rfl⟩ | exact .inr ⟨_,rfl⟩) ?_))
 refine oC hr (fun e hro hr3=>gG hr3 fun hk2 hr3=>X21 (rngOf_eq hro) fun fp' p' q1 q2=>?_) fun _ hr=>?_
 ·subst q1 q2
  refine er (show decs [.calb .range fp' [e] p']= [.Call (.Name (nm (bnm .range)) fp') (decs [e]) [] p'] from rfl) ?_
  show wpAny _ _ (spliced [(false,eval (.Call (.Name (nm (bnm .range)) fp') (decs [e]) [] p') x.env)]) _ _ _
  refine spliced_cons (wpAny_Call_NameR (r_blt O S G hk2 (callB (.inr ⟨_,rfl⟩) (er (star_cons e [] x.env) (spliced_cons ?_)))))
  refine b_ex I O B hr3 ob S resV h fun a σ₁ r Z' ad' h' tk v ob hk' sub pr S' hv hP=>spliced_nil ?_
  exact oB hk' fun i ei hk'=>b_chk hk' ob resV hP fun r ob hk3 hP q=>X1 (int_val hv ei) fun _ q3=>er q3 (wpAny_mono (list_range_call (s:=⟨h',_,_,_,_⟩) O.hh S' q.1 q.2 (OkS.ob (b:=[]) (RV.of (Option.some.inj hk3) hP))) (fun r s₁ h₁=>spliced_nil h₁) fun _ _ y=>y)
 ·refine b_exs I O B hr ob S resV h fun a σ₁ r Z' ad' h' tk v ob hk sub pr S' hv hP=>?_
  exact X31 (b_pr hk ob) fun a' o' b' q0 hq=>p_calb (s:=⟨h',_,_,_,_⟩) G.kf S' hv hq fun v tk hv=>(RV.of q0.symm hP).here S' hv tk
theorem fnK (G:Good K)(S:Sit prog w K x σ Z ad s.heap){f:Nat}{fn:Fn}(h1:fns f=some fn)(h2:fn.own= [])(h3:fn.fre= []):FnIs prog w Z ad (fad f) f []:=by
 refine X24 (G.fn f fn h1 h2 h3) fun o fd k1 k2 k3 k4 k5=>?_
 exact (I35 o fd fn (S.stat.kin _ _ k1) k2 h1 k3 (codeRec_of S.stat.kin k4) (fun n a e=>by cases e))
theorem rc_call {r:Out×St}{Q:Value→Shared→Prop}(h:RV prog w K x Z ad s r Q X):RC prog w K x Z ad s r fun r s'=>match r with | .ok (.ret v)=>Q v s' | .ok _=>False | .error e=>X e s':=by
 obtain ⟨o,σ⟩:=r
 cases o <;> first | exact h | exact h.elim
theorem topL_ok:topL.all fnsOk=true:=by decide +kernel
theorem topF_mem {f:Nat}(h:topF f=true):f∈topL∧fnsOk f=true:=by
 unfold topF at h
 refine X11 (List.any_eq_true.mp h) fun g hg q=>?_
 have:=Nat.eq_of_beq_eq_true q
 subst this
 exact ⟨hg,List.all_eq_true.mp topL_ok _ hg⟩
theorem fnK' (G:Good K)(S:Sit prog w K x σ Z ad s.heap){f:Nat}(h:fnsOk f=true):FnIs prog w Z ad (fad f) f []:=by
 unfold fnsOk at h
 split at h
 ·rename_i fn h1
  refine X01 (Bool.and_eq_true_iff.mp h) fun h2 h3=>?_
  exact fnK G S h1 (List.isEmpty_iff.mp h2) (List.isEmpty_iff.mp h3)
 ·cases h
theorem e_calf (G:Good K)(I:Snd prog w K c n){f:Nat}{fp:Pos}{as:List E}{p:Pos}{r:Out×St}{Q:Value→Shared→Prop}(O:x.Ok)(B:x.A.depth + n < c.lim)(hr:evEx c (ev c n) (.calf f fp as p) σ=some r)(ob:AllP r.2.obl)
  (S:Sit prog w K x σ Z ad s.heap) (h:RV prog w K x Z ad s r Q X):wpAny (model prog w) x.A (eval (dec (.calf f fp as p)) x.env) Q X s:=by
 refine gG2 hr fun hk ht hr=>X01 (topF_mem ht) fun hm hf=>wpAny_Call_NameR (r_top O S hk (G.gfn f hm) (callK (G.kfn f hm) ?_))
 refine b_exs I O B hr ob S resV h fun a σ₁ r Z' ad' h' tk v ob hk sub pr S' hv hP=>?_
 exact ⟨S'.stat.kin.keeps S'.hs.zsub,wpAny_call (I.cal (s:=⟨h',_,_,_,_⟩) O O.hA O.hh B hk ob S' hv (fnK' (s:=⟨h',s.gens,s.drawn,tk,s.os⟩) G S' hf) (rc_call hP))⟩
theorem zip_at {n:Nat}:∀(ns:List Nat) (ds:List Addr) (v:Value),(ns.zip (ds.map Value.ref)).lookup n=some v→n∈ns∧∃d,(ns.zip ds).lookup n=some d∧v=.ref d:=by
 intro ns
 induction ns with
 | nil=>intro ds v e;exact noS e
 | cons m ns ih=>
  intro ds v e
  cases ds with
  | nil=>exact noS e
  | cons d ds=>
   rw [List.map_cons,List.zip_cons_cons,List.lookup_cons] at e
   refine er List.zip_cons_cons (er List.lookup_cons ?_)
   by_cases hm:n=m
   ·subst hm
    simp at e
    exact (I0111 (.head _) d (by simp) e.symm)
   ·have hb:(n == m)=false:=beq_eq_false_iff_ne.mpr hm
    rw [hb] at e ⊢
    refine X01 (ih ds v e) fun i1 i2=>?_
    exact ⟨.tail _ i1,i2⟩
theorem clo_fn {g:Value}{a:AV}{q:Nat×List (Nat×AV)}(hg:Val prog w Z ad a g)(e:cloA a=some q):∃d,g=.ref d∧FnIs prog w Z ad d q.1 q.2:=by
 cases a with
 | nd t cs=>
  cases t with
  | clo f ns=>
   cases Option.some.inj e
   refine X22 hg.inv fun d vs q0 hc hs=>I11 d q0 ?_
   refine X43 hc fun o fd fn ds k1 k2 k3 q0=>X06 q0 fun k4 k5 k6 k7 k8 k9 k10=>I35 o fd fn k1 k3 k4 k5 k6 fun n a e=>?_
   subst k7
   exact X11 (zipA_vals hs (by simpa using k8) e) fun v h1 h2=>X0111 (zip_at _ _ _ h1) fun z1 d z2 q0=>I11 d ((k10 n z1).trans z2) (q0▸h2)
  | _=>exact noS e
 | _=>exact noS e
theorem e_calx (I:Snd prog w K c n){y:Nat}{fp:Pos}{as:List E}{p:Pos}{r:Out×St}{Q:Value→Shared→Prop}(O:x.Ok)(B:x.A.depth + n < c.lim)(hr:evEx c (ev c n) (.calx y fp as p) σ=some r)(ob:AllP r.2.obl)
  (S:Sit prog w K x σ Z ad s.heap) (h:RV prog w K x Z ad s r Q X):wpAny (model prog w) x.A (eval (dec (.calx y fp as p)) x.env) Q X s:=by
 refine gG hr fun hk hr=>oB hr fun a ea hr=>oB hr fun q eq hr=>wpAny_Call_NameR (r_loc O S hk ea fun g hg=>X11 (clo_fn hg eq) fun d q0 hF=>er q0 ?_)
 refine X32 hF fun o fd fn k1 k2 _=>?_
 refine callWith_of (P:=fun h=>h.get? d=some o) (er ((star_all x.env p as).1) rfl) (fun h hh=>(I11 .frame (.inl rfl) ((Looks.ld (part:=none) hh).andThen (k2.symm▸.now)))) (args_any ?_)
 refine b_exs I O B hr ob S resV h fun as' σ₁ r Z' ad' h' tk v ob hk sub pr S' hv hP=>?_
 refine ⟨S'.hs.zsub _ _ (sub _ _ k1),wpAny_call (I.cal (s:=⟨h',_,_,_,_⟩) O O.hA O.hh B hk ob S' hv ?_ (rc_call hP))⟩
 refine X35 hF fun o fd fn k1 k2 k3 k4 q0 k6=>?_;obtain ⟨c,oc,us,tq,q1,q2,q3,q4⟩:=q0
 exact (I35 o fd fn (sub _ _ k1) k2 k3 k4 ⟨c,oc,us,tq,q1,sub _ _ q2,q3,q4⟩ (fun n a e=>X11 (k6 n a e) fun c e1 e2=>I11 c e1 (e2.mono sub pr)))
end
theorem nm19:nm 19=("append" :Str):=by decide +kernel
theorem nm20:nm 20=("pop" :Str):=by decide +kernel
theorem nm141:nm 141=("extend" :Str):=by decide +kernel
theorem nm202:nm 202=("find" :Str):=by decide +kernel
section
variable {prog:Program}{w:World}{K:Frag}{c:Cf}{n:Nat}{X:Value→Shared→Prop}{s:Shared}{Z:Heap}{ad:List Addr}{x:Fx}{σ:St}
theorem lkV_none {m:Nat}:∀{ns:List Nat} {vs:List Value},ns.any (Nat.beq m)=false→lkV m ns vs=none
 | [],_,_=>rfl
 | k :: ns,[],_=>rfl
 | k :: ns,v :: vs,h=>by
  rw [List.any_cons,Bool.or_eq_false_iff] at h
  unfold lkV
  refine er (if_neg (Nat.ne_of_beq_eq_false h.1)) ?_
  exact lkV_none h.2
theorem list_get {M:Model}{A:Around}{p:Addr}{vs:List Value}{m:Nat}{pl:Sem Bool}{id:String}{Q:Value×List Value→Shared→Prop}(ho:ObjIs prog w s.heap p .lst vs)(hm:(m=19∧id= "list.append")∨(m=20∧id= "list.pop")∨(m=141∧id= "list.extend"))
  (h:Q (.builtin id,[.ref p]) s):wpAny M A (getMethod (.ref p) (nm m) pl) Q X s:=by
 have hd:∀a,Value.ref p=.ref a→∃o,s.heap.get? a=some o∧o.dict=none:=fun a e=>by
  cases e;refine X1 ho.lstAt fun n hn=>?_;exact (I11 _ hn rfl)
 rcases hm with ⟨rfl,rfl⟩ | ⟨rfl,rfl⟩ | ⟨rfl,rfl⟩
 ·refine er nm19 ?_;exact getMethod_builtin (s:=s) ho.lst.typeIs PySem.F.plainAttrs_list PySem.F.slot_list_append PySem.F.type_list_append hd h
 ·refine er nm20 ?_;exact getMethod_builtin (s:=s) ho.lst.typeIs PySem.F.plainAttrs_list PySem.F.slot_list_pop PySem.F.type_list_pop hd h
 ·refine er nm141 ?_;exact getMethod_builtin (s:=s) ho.lst.typeIs PySem.F.plainAttrs_list PySem.F.slot_list_extend PySem.F.type_list_extend hd h
theorem str_get {M:Model}{A:Around}{t:Str}{u:Tok}{pl:Sem Bool}{Q:Value×List Value→Shared→Prop}(h:Q (.builtin "str.find",[.str t u]) s):wpAny M A (getMethod (.str t u) (nm 202) pl) Q X s:=by
 refine er nm202 ?_
 exact getMethod_builtin (typeIs_str s t u) PySem.F.plainAttrs_str PySem.F.slot_str_find PySem.F.type_str_find (fun _ e=>nomatch e) h
theorem m_list {m:Nat}{id:String}{p:Pos}{a:AV}{as:List AV}{va:Value}{vs:List Value}{r:Out×St}{Q:Value→Shared→Prop}{A:Around}(hm:(m=19∧id= "list.append")∨(m=20∧id= "list.pop")∨(m=141∧id= "list.extend"))
  (hr:methL c p m a as σ=some r) (ob:AllP r.2.obl) (S:Sit prog w K x σ Z ad s.heap) (hv:Val prog w Z ad a va) (hu:Vals prog w Z ad as vs) (h:RV prog w K x Z ad s r Q X):wpAny (model prog w) A (call (.builtin id) (va :: vs)) Q X s:=by
 refine oB hr fun r0 er0 hr1=>oB hr1 fun xs e hr2=>?_
 cases refA_eq er0
 replace e:getH σ.H r0=some (.lst,xs):=lstOf_some e
 refine cC hr2 (fun hm1 hr3=>?_) fun hm1 hr3=>cC hr3 (fun hm2 hr4=>?_) fun hm2 hr4=>?_
 ·cases Nat.eq_of_beq_eq_true hm1
  refine oB hr3 fun b eb hr5=>X11 (hu.one eb) fun v q hb=>b_chk hr5 ob resV h fun r ob hk h hl=>?_
  cases q;cases (show id= "list.append" from hm.elim And.right fun q=>q.elim (fun q=>absurd q.1 (by decide)) fun q=>absurd q.1 (by decide))
  exact m_append (a:=AV.none) S hv e hb hl fun Z3 ad3 h3 tk3 sb p3 S3=>RV.of (Option.some.inj hk) h Z3 ad3 h3 tk3 sb p3 S3.ob _ .none
 ·cases Nat.eq_of_beq_eq_true hm2
  cases (show id= "list.pop" from hm.elim (fun q=>absurd q.1 (by decide)) fun q=>q.elim And.right fun q=>absurd q.1 (by decide))
  refine cC hr4 (fun he hr5=>?_) fun he hr5=>oB hr5 fun i ei hr6=>gG hr6 fun hd hr7=>?_
  ·cases List.isEmpty_iff.mp he
   cases (show _= [] from hu.inv)
   refine b_chk hr5 ob resV h fun r ob hk h hl=>b_prP hk ob resV h fun b ys o' r ob hk2 h hq=>?_
   exact m_pop S hv e (lastOf_pop hq) (.inl ⟨rfl,rfl⟩) hl fun Z3 ad3 h3 tk3 sb p3 S3 v hv=>RV.of (Option.some.inj hk2) h Z3 ad3 h3 tk3 sb p3 (S3.orc _ _) v hv
  ·refine X1 (hu.int1 ei) fun t q=>b_chk hr7 ob resV h fun r ob hk h hl=>b_prP hk ob resV h fun b ys o' r ob hk2 h hq=>?_
   refine X01 (of_decide_eq_true hd) fun i0 i1=>X1 (Int.eq_ofNat_of_zero_le i0) fun j q0=>?_
   subst q q0
   exact m_pop S hv e (k:=j) hq (.inr (I11 t rfl (Int.ofNat_lt.mp i1))) hl fun Z3 ad3 h3 tk3 sb p3 S3 v hv=>RV.of (Option.some.inj hk2) h Z3 ad3 h3 tk3 sb p3 (S3.orc _ _) v hv
 ·refine oB hr4 fun b eb hr5=>oB hr5 fun ys e2 hr6=>X11 (hu.one eb) fun v q hb=>b_chk hr6 ob resV h fun r ob hk h hl=>?_
  cases q;cases (show id= "list.extend" from hm.elim (fun q=>noB' ((congrArg (Nat.beq · 19) q.1).symm.trans hm1)) fun q=>q.elim (fun q=>noB' ((congrArg (Nat.beq · 20) q.1).symm.trans hm2)) And.right)
  exact m_extend S hv e hb (lstOf_some e2) hl fun Z3 ad3 h3 tk3 sb p3 S3=>RV.of (Option.some.inj hk) h Z3 ad3 h3 tk3 sb p3 S3.ob _ .none
theorem e_meth (G:Good K)(I:Snd prog w K c n){o:E}{m:Nat}{ap:Pos}{as:List E}{p:Pos}{r:Out×St}{Q:Value→Shared→Prop}(O:x.Ok)(B:x.A.depth + n < c.lim)(hr:evEx c (ev c n) (.meth o m ap as p) σ=some r)(ob:AllP r.2.obl)
  (S:Sit prog w K x σ Z ad s.heap) (h:RV prog w K x Z ad s r Q X):wpAny (model prog w) x.A (eval (dec (.meth o m ap as p)) x.env) Q X s:=by
 refine gG3 hr fun hc hl hp hr=>meth_eq hc (Nat.le_of_ble_eq_true hl) hp (b_ex I O B hr ob S resV h fun a σ₁ r Z' ad' h' tk v ob hk sub pr S' hv hP=>?_)
 refine oC hk (fun y e1 hk=>oB hk fun z e2 hk=>oB hk fun f e3 hk=>gG hk fun e4 hk=>?_) fun _ hk=>oC hk (fun xs e1 hk=>gG hk fun hm hk=>?_) fun _ hk=>oB hk fun t ha hk=>gG hk fun hm hk=>?_
 ·refine X05 (G.met _ _ _ e3) fun hf l1 l2 m1 m2 m3=>X22 (S'.inst hv (insOf_eq e1)) fun pa q q0 ho hd=>?_
  refine X22 (S'.look hd (idcOf_eq e2)) fun q' vs hq q1 hs=>?_
  obtain ⟨_,o,hoq,es,kk,rfl,en⟩:=q1
  cases hq;cases q0
  refine X02 (G.kf.ga y.1 l1 l2) fun g1 g2 _=>method_fn (s:=⟨h',_,_,_,_⟩) (S'.stat.kin.keeps S'.hs.zsub) (od:=some (dictOf es kk)) ⟨ho,rfl,rfl,hoq⟩ g1 g2 m1 m2 ?_ (callK m3 ?_)
  ·show (lookIn (nm m) (dictOf es kk)).map (·.isSome)=some false
   rw [lookIn_dict,getL_ents en,lkV_none (Bool.not_eq_true' _▸e4)];rfl
  ·refine b_exs (s:=⟨h',_,_,_,_⟩) I O B hk ob S' resV hP fun as' σ₂ r Z'' ad'' h'' tk' us ob hk' sub' pr' S'' hu hP'=>?_
   exact ⟨S''.stat.kin.keeps S''.hs.zsub,wpAny_call (I.cal (s:=⟨h'',_,_,_,_⟩) O O.hA O.hh B hk' ob S'' (.cons (hv.mono sub' pr') hu) (fnK' (s:=⟨h'',s.gens,s.drawn,tk',s.os⟩) G S'' hf) (rc_call hP'))⟩
 ·refine X22 (S'.look hv (lstOf_some e1)) fun pa vs q0 ho _=>?_;subst q0
  have key:∃id,(m=19∧id= "list.append")∨(m=20∧id= "list.pop")∨(m=141∧id= "list.extend"):=
   (Bool.or_eq_true_iff.mp hm).elim (fun q=>⟨_,.inl ⟨Nat.eq_of_beq_eq_true q,rfl⟩⟩) fun q=>(Bool.or_eq_true_iff.mp q).elim (fun q=>⟨_,.inr (.inl ⟨Nat.eq_of_beq_eq_true q,rfl⟩)⟩) fun q=>⟨_,.inr (.inr ⟨Nat.eq_of_beq_eq_true q,rfl⟩)⟩
  refine X1 key fun id hid=>list_get (s:=⟨h',_,_,_,_⟩) ho hid (callB (.inl ⟨_,rfl⟩) ?_)
  exact b_exs (s:=⟨h',_,_,_,_⟩) I O B hk ob S' resV hP fun as' σ₂ r Z'' ad'' h'' tk' us ob hk' sub' pr' S'' hu hP'=>m_list (s:=⟨h'',_,_,_,_⟩) hid hk' ob S'' (hv.mono sub' pr') hu hP'
 ·refine X1 (val_str hv ha) fun u q0=>?_;subst q0
  cases Nat.eq_of_beq_eq_true hm
  refine str_get (callB (.inl ⟨_,rfl⟩) ?_)
  refine b_exs (s:=⟨h',_,_,_,_⟩) I O B hk ob S' resV hP fun as' σ₂ r Z'' ad'' h'' tk' us ob hk' sub' pr' S'' hu hP'=>?_
  exact oB hk' fun b eb hk'=>oB hk' fun y hy hk'=>X11 (hu.one eb) fun v q hb=>X31 (b_pr hk' ob) fun a' o' b' q0 hq=>er q (m_find (s:=⟨h'',_,_,_,_⟩) (hv.mono sub' pr') hb ha hy fun v tk hv=>(RV.of q0.symm hP').here S'' (Option.some.inj hq▸hv) tk)
end
section
variable {prog:Program}{w:World}{K:Frag}{c:Cf}{n:Nat}{X:Value→Shared→Prop}{s:Shared}{Z:Heap}{ad:List Addr}{x:Fx}{σ:St}
theorem Sit.fresh_ne {h:Heap}(S:Sit prog w K x σ Z ad h){a:Addr}(q:h.objs.size≤a):(a == sysModules)=false:=
 beq_eq_false_iff_ne.mpr (Nat.ne_of_gt (Nat.lt_of_lt_of_le (PyProof.Rows.modules_low (S.stat.lim.keeps S.hs.zsub)) q))
theorem Sit.inst2 {h:Heap}(S:Sit prog w K x σ Z ad h)(k:Nat) :
  ∃Z' ad',Sub Z Z'∧Pre ad ad'∧Sit prog w K x {σ with H:=σ.H ++ [some (.idc [],[]),some (.ins k,[.ref σ.H.length])]} Z' ad' ((h.push emptyDict).push (instObj (cad k) h.objs.size))∧Val prog w Z' ad' (.ref (σ.H.length + 1)) (.ref (h.objs.size + 1)):=by
 have pr:Pre ad (ad ++ [h.objs.size,h.objs.size + 1]):=⟨_,rfl⟩
 have g0:((h.push emptyDict).push (instObj (cad k) h.objs.size)).get? h.objs.size=some emptyDict:=Heap.get?_push_of_some _ (Heap.get?_push_size _ rfl)
 have g1:((h.push emptyDict).push (instObj (cad k) h.objs.size)).get? (h.objs.size + 1)=some (instObj (cad k) h.objs.size):=by
  have:=Heap.get?_push_size (h.push emptyDict) (o:=instObj (cad k) h.objs.size) rfl
  rw [Heap.size_push] at this;exact this
 have e0:(ad ++ [h.objs.size,h.objs.size + 1])[σ.H.length]? =some h.objs.size:=by
  rw [List.getElem?_append_right (S.hs.len.symm▸(Nat.le_refl _)),S.hs.len,Nat.sub_self];rfl
 have e1:(ad ++ [h.objs.size,h.objs.size + 1])[σ.H.length + 1]? =some (h.objs.size + 1):=by
  rw [List.getElem?_append_right (S.hs.len.symm▸(Nat.le_add_right _ _)),S.hs.len,Nat.add_sub_cancel_left];rfl
 obtain ⟨sub,S'⟩:=S.lay (h':=(h.push emptyDict).push (instObj (cad k) h.objs.size)) (fun a o' e=>Heap.get?_push_of_some _ (Heap.get?_push_of_some _ e)) (by rw [Heap.size_push,Heap.size_push];exact o86)
  [h.objs.size,h.objs.size + 1] [(.idc [],[]),(.ins k,[.ref σ.H.length])] fun Z' sub=>.cons (Nat.le_refl _) (I011121 (S.fresh_ne (Nat.le_refl _)) _ g0 [] 0 rfl .nil) .nil (.cons (Nat.le_refl _) (I011111 (S.fresh_ne (Nat.le_succ _)) _ g1 _ rfl rfl) (.cons (.ref e0) .nil) .nil)
 exact (I23 _ _ sub pr S' (.ref e1))
theorem e_new (G:Good K)(I:Snd prog w K c n){k:Nat}{fp:Pos}{as:List E}{p:Pos}{r:Out×St}{Q:Value→Shared→Prop}(O:x.Ok)(B':x.A.depth + (n + 1) < c.lim)(hr:evEx c (ev c n) (.new k fp as p) σ=some r)(ob:AllP r.2.obl)
  (S:Sit prog w K x σ Z ad s.heap) (h:RV prog w K x Z ad s r Q X):wpAny (model prog w) x.A (eval (dec (.new k fp as p)) x.env) Q X s:=by
 have B:x.A.depth + n < c.lim:=Nat.le_of_lt B'
 refine gG3 hr fun hk l1 l2 hr=>?_
 have l1:=Nat.le_of_ble_eq_true l1
 have l2:=Nat.le_of_ble_eq_true l2
 refine X02 (G.ini k l1 l2) fun i0 i1 i2=>wpAny_Call_NameR (r_top O S hk (G.gcl k l2) (callK (G.kcl k l2) ?_))
 refine b_exs I O B hr ob S resV h fun as' σ₁ r Z' ad' h' tk vs ob hk' sub pr S' hv hP=>?_
 have KI:=S'.stat.kin.keeps S'.hs.zsub
 refine ⟨KI,wpAny_call (make_core (makes_of KI (G.kf.cls k l1 l2)) (looks_findIn KI i1) (fun self=>bind_fn KI self i2) (.inl rfl) ?_)⟩
 refine X23 (S'.inst2 k) fun Z₂ ad₂ sub₂ pr₂ S₂ hself=>?_
 refine b_cal (s:=⟨_,s.gens,s.drawn,tk,s.os⟩) I O O.hA O.hh (show x.A.depth + 1 + n < c.lim from o29 B') hk' ob S₂ (.cons hself (hv.mono sub₂ pr₂)) (fnK' (s:=⟨_,s.gens,s.drawn,tk,s.os⟩) G S₂ i0) (fun i σ' e=>?_) fun a σ₃ r b hk e=>gG hk fun hn hk=>?_
 ·subst e;exact RX.on (E:=X) hP sub₂ pr₂ (I02 rfl rfl rfl)
 ·cases nonA_eq hn
  intro Z₃ ad₃ h₃ tk₃ sb p₃ S₃ v hv₃
  exact er (show v=.none from hv₃.inv) ⟨rfl,RV.of (Option.some.inj hk) (hP.ob e) Z₃ ad₃ h₃ tk₃ (sub₂.trans sb) (pr₂.trans p₃) S₃.ob _ (hself.mono sb p₃)⟩
theorem lit_any {a:AV}{p:Pos}{env:Env}{A:Around}{M:Model}{Q:Value→Shared→Prop}(ha:litC a=true)(h:∀v tk,(∀Z ad,Val prog w Z ad a v)→Q v {s with toks:=tk}):wpAny M A (eval (dec (.cst a p)) env) Q X s:=by
 cases a with
 | none=>exact wpAny_Constant_none (h _ s.toks fun _ _=>.none)
 | bool b=>exact wpAny_Constant_bool (h _ s.toks fun _ _=>.bool)
 | int i=>exact wpAny_Constant_int (h _ _ fun _ _=>.int)
 | lit k=>exact wpAny_Constant_str (h _ _ fun _ _=>.lit)
 | _=>exact noB ha
theorem cstA_eq {e:E}{a:AV}(h:cstA e=some a):∃p,e=.cst a p:=by
 cases e with
 | cst b p=>exact ⟨p,congrArg (E.cst · p) (Option.some.inj h)⟩
 | _=>exact noS h
theorem cst2_some {vs:List E}{q:AV×AV}(h:cst2 vs=some q):∃pa pb,vs= [.cst q.1 pa,.cst q.2 pb]:=
 oB h fun y e1 h=>oB h fun a e2 h=>oM h fun b e3 q=>X1 (cstA_eq e2) fun pa q1=>X1 (cstA_eq e3) fun pb q2=>I2 pa pb ((two_eq e1).trans (by exact er q1 (er q2 (re q rfl))))
theorem e_disp (I:Snd prog w K c n){e:E}(he:match e with | .tup .. | .lst .. | .dic ..=>True | _=>False){r:Out×St}{Q:Value→Shared→Prop}(O:x.Ok)(B:x.A.depth + n < c.lim)(hr:evEx c (ev c n) e σ=some r)(ob:AllP r.2.obl)
  (S:Sit prog w K x σ Z ad s.heap) (h:RV prog w K x Z ad s r Q X):wpAny (model prog w) x.A (eval (dec e) x.env) Q X s:=by
 cases e with
 | tup es k p=>
  refine wpAny_Tuple_spliced ?_
  delta evEx at hr
  dsimp only at hr
  refine b_exs I O B hr ob S resV h fun a σ₁ r Z' ad' h' tk v ob hk sub pr S' hv hP=>gG hk fun hl hk=>?_
  exact ⟨er sizeLine_eq (re hv.length (Nat.le_trans (Nat.le_of_ble_eq_true hl) (by decide))),m_newtup (s:=⟨h',_,_,_,_⟩) S' hv (RV.of (Option.some.inj hk) hP)⟩
 | lst es p=>
  refine wpAny_List_spliced ?_
  delta evEx at hr
  dsimp only at hr
  refine b_exs I O B hr ob S resV h fun a σ₁ r Z' ad' h' tk v ob hk sub pr S' hv hP=>gG hk fun hl hk=>?_
  exact ⟨er sizeLine_eq (re hv.length (Nat.le_trans (Nat.le_of_ble_eq_true hl) (by decide))),cC hk (fun _ hk=>m_newlistF (s:=⟨h',_,_,_,_⟩) S' hv (RV.of (Option.some.inj hk) hP)) fun _ hk=>m_newlist (s:=⟨h',_,_,_,_⟩) S' hv (RV.of (Option.some.inj hk) hP)⟩
 | dic ks vs p=>
  refine cC hr (fun he hr=>bA he fun h1 h2=>?_) fun _ hr=>oB hr fun k ek hr=>oB hr fun q eq hr=>gG3 hr fun ha hb hne hr9=>X2 (cst2_some eq) fun pa pb hv=>?_
  ·cases List.isEmpty_iff.mp h1
   cases List.isEmpty_iff.mp h2
   exact wpAny_Dict_empty (m_newdict S (RV.of (Option.some.inj hr) h))
  ·cases two_eq ek
   subst hv
   obtain ⟨a,b⟩:=q
   replace h:=RV.of (Option.some.inj hr9) h
   rw [Bool.not_eq_true'] at hne
   have hne':nm k.1.1≠nm k.2.1:=fun q=>Nat.ne_of_beq_eq_false hne (nm_inj q)
   refine wpAny_Dict_walk (knd:=PySem.strKind prog w) rfl rfl (by simp) (by simp) ?_
   refine pairTrees_cons_walk (wpAny_Constant_str (lit_any (prog:=prog) (w:=w) ha fun va ta hva=>?_))
   refine pairTrees_cons_walk (wpAny_Constant_str (lit_any (prog:=prog) (w:=w) hb fun vb tb hvb=>pairTrees_nil_walk ?_))
   have hd:(s.heap.push {cls:=.type "dict",data:=.dict #[]}).get? s.heap.objs.size=some {cls:=.type "dict",data:=.dict #[]}:=Heap.get?_push_size _ rfl
   refine (I12 ([(nm k.1.1,va),(nm k.2.1,vb)]) ⟨by simp [PySem.strKind,Value.isStrOf],rfl,by simp [PySem.strKind,Value.isStrOf],rfl,trivial⟩ (Heap.dictOf_iff.mpr ⟨_,hd,emptyIs⟩) (fun h' hm sb=>?_))
   have hmerge:merged [] [(nm k.1.1,va),(nm k.2.1,vb)]= [(nm k.1.1,va),(nm k.2.1,vb)]:=by simp [merged,stored,hne']
   rw [hmerge] at hm
   refine X11 (Heap.dictOf_iff.mp hm) fun o ho hio=>?_
   have keep:Sub s.heap h':=fun a' o' q=>(sb.2 a' (Nat.ne_of_lt (Heap.lt_size q))).trans (Heap.get?_push_of_some _ q)
   have szh:h'.objs.size=s.heap.objs.size + 1:=by have:=sb.1;simpa only [Heap.size_push] using this
   have hmo:(s.heap.objs.size == sysModules)=false:=beq_eq_false_iff_ne.mpr (Nat.ne_of_gt (PyProof.Rows.modules_low (S.stat.lim.keeps S.hs.zsub)))
   obtain ⟨sub,S'⟩:=S.lay (h':=h') keep (szh.symm▸(Nat.le_succ _)) [s.heap.objs.size] [(.dct [nm k.1.1,nm k.2.1],[a,b])] fun Z' _=>.cons (vs:=[va,vb]) (Nat.le_refl _) (I0112 hmo o ho rfl hio) (.cons (hva _ _) (.cons (hvb _ _) .nil)) .nil
   refine h _ _ h' _ sub ⟨_,rfl⟩ S' _ (.ref ?_)
   refine re S.hs.len ?_
   simp
 | _=>exact he.elim
theorem e_ife (I:Snd prog w K c n){t b o:E}{p:Pos}{r:Out×St}{Q:Value→Shared→Prop}(O:x.Ok)(B:x.A.depth + n < c.lim)(hr:evEx c (ev c n) (.ife t b o p) σ=some r)(ob:AllP r.2.obl)
  (S:Sit prog w K x σ Z ad s.heap) (h:RV prog w K x Z ad s r Q X):wpAny (model prog w) x.A (eval (dec (.ife t b o p)) x.env) Q X s:=by
 delta evEx at hr
 dsimp only at hr
 refine wpAny_IfExp ?_
 refine b_tr I O B hr ob S resV h fun a σ₁ r Z' ad' h' tk ob hk sub pr S' hP=>?_
 cases a with
 | true=>exact I.ex (s:=⟨h',_,_,_,_⟩) O B hk ob S' hP
 | false=>exact I.ex (s:=⟨h',_,_,_,_⟩) O B hk ob S' hP
theorem e_uneg {i:Int}{cp p:Pos}{r:Out×St}{Q:Value→Shared→Prop}(hr:evEx c (ev c n) (.uneg i cp p) σ=some r)(S:Sit prog w K x σ Z ad s.heap)(h:RV prog w K x Z ad s r Q X):wpAny (model prog w) x.A (eval (dec (.uneg i cp p)) x.env) Q X s:=by
 cases Option.some.inj hr
 show wpAny _ _ (eval (.UnaryOp _ _ _) _) _ _ _
 rw [arm_eval_UnaryOp]
 exact wpAny_bind (wpAny_Constant_int (wpAny_bind (wpAny_standAt (wpAny_holding (PyProof.Rows.neg_int (h.here0 S .int _))))))
end
section
variable {prog:Program}{w:World}{K:Frag}{c:Cf}{n:Nat}{X:Value→Shared→Prop}{s:Shared}{Z:Heap}{ad:List Addr}{x:Fx}{σ:St}
variable (prog w) in
noncomputable def PartIs (Z:Heap)(ad:List Addr)(l:List AV)(v:Value):Prop:=(l= []∧v=.none)∨∃a,l= [a]∧Val prog w Z ad a v
theorem PartIs.mono {Z':Heap}{ad':List Addr}{l:List AV}{v:Value}(h:PartIs prog w Z ad l v)(a:Sub Z Z')(b:Pre ad ad'):PartIs prog w Z' ad' l v:=
 h.imp id fun ⟨q,e,h⟩=>(I11 q e (h.mono a b))
theorem b_opt (I:Snd prog w K c n){e:Option E}{k:List AV→St→R}{r:Out×St}{P:Out×St→Heap→List Addr→Shared→Prop}{Q₁:Value→Shared→Prop}(O:x.Ok)(B:x.A.depth + n < c.lim)(hr:bvs (optE (fun e=>ev c n (.ex e) σ) σ e) k=some r)(ob:AllP r.2.obl)
  (S:Sit prog w K x σ Z ad s.heap) (T:Res prog w K x X P) (h:P r Z ad s)
  (cont:∀a σ₁ r Z' ad' h' tk v,AllP r.2.obl→k a σ₁=some r→Sub Z Z'→Pre ad ad'→Sit prog w K x σ₁ Z' ad' h'→PartIs prog w Z' ad' a v→P r Z' ad' ⟨h',s.gens,s.drawn,tk,s.os⟩→Q₁ v ⟨h',s.gens,s.drawn,tk,s.os⟩) :
  wpAny (model prog w) x.A (evalPart (deco e) x.env) Q₁ X s:=by
 cases e with
 | none=>exact fin_e hr ob fun q b e1 oq o e=>wpAny_pure (cont [] (clr σ) q Z ad s.heap s.toks .none oq e1 (Sub.refl Z) (Pre.refl ad) S.ob (.inl ⟨rfl,rfl⟩) (T.ob e h))
 | some e=>
  have hr':bv (ev c n (.ex e) σ) (fun v s=>k [v] s)=some r:=by
   refine re hr ?_
   show _=bvs (bv (ev c n (.ex e) σ) fun v s=>some (.vs [v],s)) k
   rcases ev c n (.ex e) σ with _ | ⟨o,s₁⟩
   ·rfl
   ·cases o <;> rfl
  exact b_ex I O B hr' ob S T h fun a σ₁ r Z' ad' h' tk v ob hk sub pr S' hv hP=>cont [a] σ₁ r Z' ad' h' tk v ob hk sub pr S' (.inr (I11 a rfl hv)) hP
theorem PartIs.part {l:List AV}{v:Value}{lo:Option Int}(h:PartIs prog w Z ad l v)(e:prtA l=some lo):IsPart v lo:=by
 rcases h with ⟨rfl,rfl⟩ | ⟨a,rfl,hv⟩
 ·exact Option.some.inj e▸.none
 ·exact oM e fun i ei q=>X1 (int_val hv ei) fun t q'=>er q' (q▸.int i t)
theorem part_val {v:Value}{lo:Option Int}(h:IsPart v lo):∃ll,v=partValue ll∧ll.map (·.1)=lo:=by
 cases h with
 | none=>exact I11 none rfl rfl
 | int i t=>exact I11 (some (i,t)) rfl rfl
theorem e_slc (I:Snd prog w K c n){o:E}{lo hi:Option E}{sp p:Pos}{r:Out×St}{Q:Value→Shared→Prop}(O:x.Ok)(B:x.A.depth + n < c.lim)(hr:evEx c (ev c n) (.slc o lo hi sp p) σ=some r)(ob:AllP r.2.obl)
  (S:Sit prog w K x σ Z ad s.heap) (h:RV prog w K x Z ad s r Q X):wpAny (model prog w) x.A (eval (dec (.slc o lo hi sp p)) x.env) Q X s:=by
 refine Subscript_ ?_
 delta evEx at hr
 dsimp only at hr
 refine b_ex I O B hr ob S resV h fun a σ₁ r Z' ad' h' tk v ob hk sub pr S' hv hP=>wpAny_Slice ?_
 refine b_opt (s:=⟨h',_,_,_,_⟩) I O B hk ob S' resV hP fun l σ₂ r Z₂ ad₂ h₂ tk₂ vl ob hk₂ sub₂ pr₂ S₂ hl hP₂=>?_
 refine b_opt (s:=⟨h₂,_,_,_,_⟩) I O B hk₂ ob S₂ resV hP₂ fun u σ₃ r Z₃ ad₃ h₃ tk₃ vu ob hk₃ sub₃ pr₃ S₃ hu hP₃=>?_
 rw [evalPart_none]
 refine wpAny_pure ?_
 have hv₃:=(hv.mono sub₂ pr₂).mono sub₃ pr₃
 have hl₃:=hl.mono sub₃ pr₃
 refine oC hk₃ (fun xs e1 hk₃=>b_chk hk₃ ob resV hP₃ fun r ob hk₄ hP₃ hsm=>oB hk₄ fun ll p1 hk₄=>oB hk₄ fun lh p2 hk₄=>oB hk₄ fun q e2 hk₄=>cC hk₄ (fun _ hk₄=>?_) fun _ hk₄=>?_) fun _ hk₃=>oB hk₃ fun t ht hk₃=>X31 (b_pr hk₃ ob) fun a' o' b' q0 hq=>oB hq fun ll p1 hq=>oB hq fun lh p2 hq=>oI hq fun hz q1=>?_
 ·exact m_slistF (s:=⟨h₃,_,_,_,_⟩) S₃ hv₃ (lstOf_some e1) (hl₃.part p1) (hu.part p2) e2 hsm (OkS.ob (b:=[]) (RV.of (Option.some.inj hk₄) hP₃))
 ·exact m_slist (s:=⟨h₃,_,_,_,_⟩) S₃ hv₃ (lstOf_some e1) (hl₃.part p1) (hu.part p2) e2 hsm (OkS.ob (b:=[]) (RV.of (Option.some.inj hk₄) hP₃))
 ·refine X11 (part_val (hl₃.part p1)) fun ll p3 p4=>X11 (part_val (hu.part p2)) fun lh p5 p6=>?_
  subst q1 p4 p6
  exact er p3 (er p5 (m_sstr (s:=⟨h₃,_,_,_,_⟩) S₃ hv₃ ht hz fun Z4 ad4 h4 tk4 sb p4 S4 v hv=>RV.of q0.symm hP₃ Z4 ad4 h4 tk4 sb p4 (S4.orc _ _) v hv))
theorem snd_ex (G:Good K)(I:Snd prog w K c n){e:E}{r:Out×St}{Q:Value→Shared→Prop}(O:x.Ok)(B':x.A.depth + (n + 1) < c.lim)(hr:step c (ev c n) (.ex e) σ=some r)(ob:AllP r.2.obl)
  (S:Sit prog w K x σ Z ad s.heap) (h:RV prog w K x Z ad s r Q X):wpAny (model prog w) x.A (eval (dec e) x.env) Q X s:=by
 have B:x.A.depth + n < c.lim:=Nat.le_of_lt (by assumption)
 replace hr:evEx c (ev c n) e σ=some r:=hr
 cases e with
 | cst a p=>exact e_cst hr S h
 | loc y p=>exact e_names G trivial O hr S h
 | cel y p=>exact e_names G trivial O hr S h
 | glb y p=>exact e_names G trivial O hr S h
 | cls k p=>exact e_names G trivial O hr S h
 | attr o a p=>exact e_attr G I O B hr ob S h
 | calf f fp as p=>exact e_calf G I O B hr ob S h
 | new k fp as p=>exact e_new G I O B' hr ob S h
 | calx y yp as p=>exact e_calx I O B hr ob S h
 | calb b fp as p=>exact e_calb G I O B hr ob S h
 | meth o m ap as p=>exact e_meth G I O B hr ob S h
 | bin op l q p=>exact e_bin I O B hr ob S h
 | unot e p=>exact noS hr
 | uneg i cp p=>exact e_uneg hr S h
 | bop k es p=>exact noS hr
 | ife t b o p=>exact e_ife I O B hr ob S h
 | cmp op l q p=>exact e_cmp I O B hr ob S h
 | tup es k p=>exact e_disp I trivial O B hr ob S h
 | lst es p=>exact e_disp I trivial O B hr ob S h
 | dic ks vs p=>exact e_disp I trivial O B hr ob S h
 | sub o i p=>exact e_sub I O B hr ob S h
 | slc o lo hi sp p=>exact e_slc I O B hr ob S h
 | cmpr a b d e f g=>exact noS hr
theorem snd_exs (I:Snd prog w K c n){es:List E}{p:Pos}{r:Out×St}{Q:List Value→Shared→Prop}(O:x.Ok)(B':x.A.depth + (n + 1) < c.lim)(hr:step c (ev c n) (.exs es) σ=some r)(ob:AllP r.2.obl)
  (S:Sit prog w K x σ Z ad s.heap) (h:RVs prog w K x Z ad s r Q X):wpAny (model prog w) x.A (spliced (backTo p (starEach (decs es) x.env))) Q X s:=by
 have B:x.A.depth + n < c.lim:=Nat.le_of_lt (by assumption)
 replace hr:evExs c (ev c n) es σ=some r:=hr
 cases es with
 | nil=>
  cases Option.some.inj hr
  exact spliced_nil (h Z ad s.heap s.toks (Sub.refl Z) (Pre.refl ad) S [] .nil)
 | cons e es=>
  rw [star_cons]
  refine spliced_cons ?_
  delta evExs at hr
  dsimp only at hr
  refine b_ex I O B hr ob S resVs h fun a σ₁ r Z' ad' h' tk v ob hk sub pr S' hv hP=>?_
  refine b_exs (p:=p) (s:=⟨h',_,_,_,_⟩) I O B hk ob S' resVs hP fun as σ₂ r Z₂ ad₂ h₂ tk₂ vs ob hk₂ sub₂ pr₂ S₂ hvs hP₂=>?_
  exact RVs.of (Option.some.inj hk₂) hP₂ Z₂ ad₂ h₂ tk₂ (Sub.refl _) (Pre.refl _) S₂ _ (.cons (hv.mono sub₂ pr₂) hvs)
theorem snd_trs (I:Snd prog w K c n){k:Bool}{es:List E}{r:Out×St}{Q:Bool→Shared→Prop}(O:x.Ok)(B':x.A.depth + (n + 1) < c.lim)(hr:step c (ev c n) (.trs k es) σ=some r)(ob:AllP r.2.obl)
  (S:Sit prog w K x σ Z ad s.heap) (h:RB prog w K x Z ad s r Q X):wpAny (model prog w) x.A (allTrue (match k with | true=>.And | false=>.Or) (decs es) x.env) Q X s:=by
 have B:x.A.depth + n < c.lim:=Nat.le_of_lt (by assumption)
 replace hr:evTrs c (ev c n) k es σ=some r:=hr
 cases es with
 | nil=>
  replace h:=RB.of (Option.some.inj hr) h
  cases k
  ·exact wpAny_allTrue_Or_nil (h Z ad s.heap s.toks (Sub.refl Z) (Pre.refl ad) S)
  ·exact wpAny_allTrue_And_nil (h Z ad s.heap s.toks (Sub.refl Z) (Pre.refl ad) S)
 | cons e es=>
  delta evTrs at hr
  dsimp only at hr
  cases k
  ·refine wpAny_allTrue_Or_cons ?_
   refine b_tr I O B hr ob S resB h fun a σ₁ r Z' ad' h' tk ob hk sub pr S' hP=>?_
   cases a
   ·exact I.trs (k:=false) (s:=⟨h',_,_,_,_⟩) O B hk ob S' hP
   ·exact RB.of (Option.some.inj hk) hP Z' ad' h' tk (Sub.refl _) (Pre.refl _) S'
  ·refine wpAny_allTrue_And_cons ?_
   refine b_tr I O B hr ob S resB h fun a σ₁ r Z' ad' h' tk ob hk sub pr S' hP=>?_
   cases a
   ·exact RB.of (Option.some.inj hk) hP Z' ad' h' tk (Sub.refl _) (Pre.refl _) S'
   ·exact I.trs (k:=true) (s:=⟨h',_,_,_,_⟩) O B hk ob S' hP
end
section
variable {prog:Program}{w:World}{K:Frag}{c:Cf}{n:Nat}{X:Value→Shared→Prop}{s:Shared}{Z:Heap}{ad:List Addr}{x:Fx}{σ:St}
theorem b_bpr {p:Pos}{q:Option AV}{k:AV→St→R}{r:Out×St}{P:Out×St→Heap→List Addr→Shared→Prop}{G:Prop}(hr:bv (pr c p q σ) k=some r)(ob:AllP r.2.obl)(T:Res prog w K x X P)(h:P r Z ad s)
  (cont:∀a o r,AllP r.2.obl→k a {σ with orc:=o,obl:=[]}=some r→P r Z ad s→q=some a→G):G:=by
 cases hh:pr c p q σ with
 | none=>rw [hh] at hr;exact noS hr
 | some y=>
  obtain ⟨o,σ₁⟩:=y
  rw [hh] at hr
  cases o with
  | v a=>exact fin_e hr ob fun q b e1 oq o e=>X31 (b_pr hh o) fun a' o' b' e' hq=>by cases e';exact cont a o' q oq e1 (T.ob e h) hq
  | ex i=>
   unfold pr at hh
   repeat' (first | (cases hh;done) | split at hh)
  | _=>exact noS hr
noncomputable def plainT:E→Bool
 | .unot .. | .bop .. | .ife .. | .cmp ..=>false
 | _=>true
theorem isTrue_dec {e:E}(h:plainT e=true)(env:Env)(t:Sem Value):isTrue (dec e) env t=(do let v ←t;standAt (dec e).pos;holding [v] (truthy v)):=by
 cases e <;> first | (exact noB h;done) | rfl
theorem tr_val (I:Snd prog w K c n){e:E}(hp:plainT e=true){r:Out×St}{Q:Bool→Shared→Prop}(O:x.Ok)(B:x.A.depth + n < c.lim)(hr:bv (ev c n (.ex e) σ) (fun v s=>(boolA v).map fun b=>(.b b,s))=some r)(ob:AllP r.2.obl)
  (S:Sit prog w K x σ Z ad s.heap) (h:RB prog w K x Z ad s r Q X):wpAny (model prog w) x.A (isTrue (dec e) x.env (eval (dec e) x.env)) Q X s:=by
 refine wpAny_isTrue_value ?_ (isTrue_dec hp _ _)
 refine b_ex I O B hr ob S resB h fun a σ₁ r Z' ad' h' tk v ob hk sub pr S' hv hP=>?_
 exact oM hk fun b eb q0=>er (show v=.bool b from val_bool (boolA_eq eb▸hv)) (wpAny_truthy_bool (RB.of q0 hP Z' ad' h' tk (Sub.refl _) (Pre.refl _) S'))
theorem snd_tr (I:Snd prog w K c n){e:E}{r:Out×St}{Q:Bool→Shared→Prop}(O:x.Ok)(B':x.A.depth + (n + 1) < c.lim)(hr:step c (ev c n) (.tr e) σ=some r)(ob:AllP r.2.obl)
  (S:Sit prog w K x σ Z ad s.heap) (h:RB prog w K x Z ad s r Q X):wpAny (model prog w) x.A (isTrue (dec e) x.env (eval (dec e) x.env)) Q X s:=by
 have B:x.A.depth + n < c.lim:=Nat.le_of_lt (by assumption)
 replace hr:evTr c (ev c n) e σ=some r:=hr
 cases e with
 | unot e p=>
  refine wpAny_isTrue_Not ?_
  delta evTr at hr
  dsimp only at hr
  refine b_tr I O B hr ob S resB h fun a σ₁ r Z' ad' h' tk ob hk sub pr S' hP=>?_
  exact RB.of (Option.some.inj hk) hP Z' ad' h' tk (Sub.refl _) (Pre.refl _) S'
 | bop k es p=>
  refine wpAny_isTrue_BoolOp ?_
  cases k
  ·exact I.trs (k:=false) O B hr ob S h
  ·exact I.trs (k:=true) O B hr ob S h
 | ife t b o p=>exact noS hr
 | cmp op l q p=>
  refine wpAny_isTrue_Compare1 ?_ (marks_dec op q)
  delta evTr at hr
  dsimp only at hr
  refine b_ex I O B hr ob S resB h fun a σ₁ r Z' ad' h' tk v ob hk sub pr S' hv hP=>?_
  refine b_ex (s:=⟨h',_,_,_,_⟩) I O B hk ob S' resB hP fun b σ₂ r Z'' ad'' h'' tk' u ob hk' sub' pr' S'' hu hP'=>?_
  refine b_bpr hk' ob resB hP' fun a' o' r ob hk3 hP' hq=>oM hk3 fun b eb q0=>?_
  exact p_cmp (s:=⟨h'',_,_,_,_⟩) S'' (hv.mono sub' pr') hu hq fun v tk hv=>er (show v=.bool b from val_bool (boolA_eq eb▸hv)) (wpAny_truthy_bool (RB.of q0 hP' Z'' ad'' h'' tk (Sub.refl _) (Pre.refl _) (S''.orc _ _)))
 | _=>exact tr_val I rfl O B hr ob S h
theorem spec_in {A:Around}{env:Env}{oL:Obj}{a:Addr}(h:a ∉ spec (inner x A env oL).env.locals (inner x A env oL).pin ad):a ∉ spec x.env.locals x.pin ad:=fun m=>h (List.mem_cons_of_mem _ m)
theorem ExcF.out {A:Around}{env:Env}{oL:Obj}{i:Int}{e:Addr}{h:Heap}(q:ExcF (inner x A env oL) Z ad i e h .none):ExcAt x Z ad i e h:=by
 refine X024537 q fun a1 a2 d vs sl od b1 b2 b3 b4 b5 T oT ts c1 c2 c3 c4 c5 c6 c7 c8=>?_
 exact (I0245 (spec_in a1) a2 d vs sl od b1 (spec_in b2) b3 b4 b5 (.inr ⟨T,oT,ts,_,c1,c2,c3,c4,spec_in c5,c6,c7,c8,.inl rfl⟩))
variable (prog w K c) in
def Contracts:Prop:=∀f,c.spc f=true→∀{x:Fx} {A:Around} {fa:Addr} {as:List AV} {vs:List Value} {cl:List (Nat×AV)} {σ:St} {a:AV} {Z:Heap} {ad:List Addr} {s:Shared} {R:Result→Shared→Prop},
 x.Ok→A.frames=some (x.env :: x.outer)→A.handled=none→A.depth < c.lim→c.SP f as σ.H a→Sit prog w K x σ Z ad s.heap→Vals prog w Z ad as vs→FnIs prog w Z ad fa f cl→
 OkS prog w K x Z ad s {σ with H:=c.eff f as σ.H} (fun Z' ad' s'=>∀v,Val prog w Z' ad' a v→R (.ok (.ret v)) s')→codeAny (model prog w) A (.call (.ref fa) ⟨vs,[]⟩) R s
theorem snd_cal (HC:Contracts prog w K c)(hlim:c.lim≤recursionLimit)(I:Snd prog w K c n){A:Around}{f:Nat}{fa:Addr}{as:List AV}{vs:List Value}{cl:List (Nat×AV)}{r:Out×St}{R:Result→Shared→Prop}(O:x.Ok)(hA:A.frames=some (x.env :: x.outer))(hh:A.handled=none)
  (B:A.depth + (n + 1) < c.lim) (hr:step c (ev c n) (.cal f as cl) σ=some r) (ob:AllP r.2.obl) (S:Sit prog w K x σ Z ad s.heap) (ha:Vals prog w Z ad as vs) (hF:FnIs prog w Z ad fa f cl) (h:RC prog w K x Z ad s r R) :
  codeAny (model prog w) A (.call (.ref fa) ⟨vs,[]⟩) R s:=by
 replace hr:evCal c (ev c n) f as cl σ=some r:=hr
 refine cC hr (fun hs hr=>?_) fun _ hr=>oB hr fun fn hfn hr=>gG2 hr fun hown hlen hr=>?_
 ·cases ho:σ.orc with
  | nil=>rw [ho] at hr;exact noS hr
  | cons a o=>
   rw [ho] at hr
   cases Option.some.inj hr
   exact HC f hs O hA hh (Nat.lt_of_le_of_lt (Nat.le_add_right _ _) B) (ob _ (.head _)) S ha hF fun Z' ad' h' tk sub pr S' v hv=>h Z' ad' h' tk sub pr (S'.orc _ _) v hv
 ·refine X35 hF fun o fd fn' k1 k2 k3 D cr hc=>?_
  cases Option.some.inj (hfn.symm.trans k3)
  have hl:fn.pars.length=vs.length:=ha.length▸((Nat.eq_of_beq_eq_true hlen).symm)
  refine X11 S.own fun oL hL hLd=>?_
  refine codeAny_call_def (o158 hlim B) (S.hs.zsub _ _ k1) k2 (S.stat.lim.keeps S.hs.zsub) ?_ D.body (.of_eq (D.bind vs hl.symm)) D.cell (fun y hy=>?_) (fun h₀ hns hk=>?_) D.co D.gen D.kind
  ·exact X43 cr fun c oc us tq q1 q2 q3 q4=>I43 c oc us tq q1 (S.hs.zsub _ _ q2) q3 q4
  ·exact X11 (List.mem_map.mp (List.of_mem_zip (show (y.1,y.2)∈_ from hy)).1) fun m hm e=>re e (D.kd _ _ (D.loc m hm))
  ·have O':(inner x A (callEnv fd s.heap.objs.size fa) oL).Ok:=O.inner hA hh D.kind rfl D.glo D.blt hLd
   have S':=S.enter (A:=A) O D hL ha hl hns hk hc (fa:=fa)
   have lv:∀{σ':St} {Z':Heap} {ad':List Addr} {h':Heap},Sub Z Z'→Pre ad ad'→Sit prog w K (inner x A (callEnv fd s.heap.objs.size fa) oL) σ' Z' ad' h'→Sit prog w K x {σ' with kd:=σ.kd,loc:=σ.loc,cel:=σ.cel} Z' ad' h':=
    fun sub pr S''=>S.leave hL sub pr S''
   have B2:(inner x A (callEnv fd s.heap.objs.size fa) oL).A.depth + n < c.lim:=by show A.depth + 1 + n < c.lim;exact o29 B
   refine oB hr fun q hb hr=>?_
   obtain ⟨o,σ'⟩:=q
   cases o with
   | rt v=>cases hr;exact I.sts (s:=⟨h₀,_,_,_,_⟩) O' B2 hb ob S' fun Z' ad' h' tk sub pr S'' u hu=>h Z' ad' h' tk sub pr (lv sub pr S'') u hu
   | nx=>cases hr;exact I.sts (s:=⟨h₀,_,_,_,_⟩) O' B2 hb ob S' fun Z' ad' h' tk sub pr S''=>h Z' ad' h' tk sub pr (lv sub pr S'') _ .none
   | ex i=>cases hr;exact I.sts (s:=⟨h₀,_,_,_,_⟩) O' B2 hb ob S' fun Z' ad' h' tk sub pr S'' e he=>Mine.leave (s:=⟨h',_,_,_,_⟩) O' S'' he fun h'' S3 q=>h Z' ad' h'' tk sub pr (lv sub pr S3) e q.out
   | _=>exact noS hr
end
section
variable {prog:Program}{w:World}{K:Frag}{c:Cf}{n:Nat}{X:Value→Shared→Prop}{s:Shared}{Z:Heap}{ad:List Addr}{x:Fx}{σ:St}
theorem snd_sts (I:Snd prog w K c n){ts:List S}{r:Out×St}{Q:Flow→Shared→Prop}(O:x.Ok)(B':x.A.depth + (n + 1) < c.lim)(hr:step c (ev c n) (.sts ts) σ=some r)(ob:AllP r.2.obl)
  (S:Sit prog w K x σ Z ad s.heap) (h:RF prog w K x Z ad s r Q X):wpAny (model prog w) x.A (execs (decSs ts) x.env) Q X s:=by
 have B:x.A.depth + n < c.lim:=Nat.le_of_lt (by assumption)
 replace hr:evSts c (ev c n) ts σ=some r:=hr
 cases ts with
 | nil=>exact wpAny_execs_nil (RF.of (Option.some.inj hr) h Z ad s.heap s.toks (Sub.refl Z) (Pre.refl ad) S)
 | cons t ts=>
  refine wpAny_execs_cons (bn_e hr (fun σ₁ hb hk=>fin_e hk ob fun q b e1 oq o e=>?_) (fun v σ₁ hb e=>?_) fun i σ₁ hb e=>?_)
  ·exact I.st O B hb o S fun Z' ad' h' tk sub pr S'=>I.sts (s:=⟨h',_,_,_,_⟩) O B e1 oq S'.ob (RF.on (RF.ob e h) sub pr (I02 rfl rfl rfl))
  ·exact I.st O B hb (e▸ob) S fun Z' ad' h' tk sub pr S' u hu=>RF.of e h Z' ad' h' tk sub pr S' u hu
  ·exact I.st O B hb (e▸ob) S (RF.of (Q:=Q) e h)
theorem resW {M:Model}{Q:Flow→Shared→Prop}(O:x.Ok):Res prog w K x (notedBy M x.A x.env (cameBackBy M x.A x.env X)) fun r Z ad s=>RF prog w K x Z ad s r Q X:=
 ⟨RF.on,fun h Z' ad' h' tk sub pr S' e he=>through (s:=⟨h',_,_,_,_⟩) O S' he fun h'' S'' q=>h Z' ad' h'' tk sub pr S'' e q,RF.ob⟩
theorem snd_whl (J:∀m,m≤n→Snd prog w K c m){t:E}{b:List S}{r:Out×St}{Q:Flow→Shared→Prop}(O:x.Ok)(B':x.A.depth + (n + 1) < c.lim)(hr:ev c (n + 1) (.whl t b) σ=some r)(ob:AllP r.2.obl)
  (S:Sit prog w K x σ Z ad s.heap) (h:RF prog w K x Z ad s r Q X) :
  codeAny (model prog w) x.A (.whileLoop (dec t) (decSs b) [] x.env) (fun q s'=>match q with | .ok f=>Q f s' | .error e=>cameBackBy (model prog w) x.A x.env X e s') s:=by
 refine codeAny_whileLoop (fun m s'=>m≤n + 1∧∃(σ:St) (r:Out×St) (Z:Heap) (ad:List Addr),ev c m (.whl t b) σ=some r∧AllP r.2.obl∧Sit prog w K x σ Z ad s'.heap∧RF prog w K x Z ad s' r Q X) ?_ (n + 1) ⟨Nat.le_refl _,σ,r,Z,ad,hr,ob,S,h⟩
 rintro m s ⟨hm,σ,r,Z,ad,hr,ob,S,h⟩
 cases m with
 | zero=>exact noS hr
 | succ k=>
 have I:=J k (Nat.le_of_lt_succ (by assumption))
 have B:x.A.depth + k < c.lim:=o204 B' hm
 refine fin_e hr ob fun r' b' hr ob _ e=>?_
 replace hr:evWhl c (ev c k) t b {σ with obl:=[]}=some r':=hr
 replace S:Sit prog w K x {σ with obl:=[]} Z ad s.heap:=S.ob
 replace h:=h.ob e
 delta evWhl at hr
 refine b_tr I O B hr ob S (resW O) h fun q σ₁ r' Z' ad' h' tk ob hk sub pr S' hP=>?_
 cases q with
 | true=>
  refine er (if_pos rfl) (bn_e hk (fun σ₂ hb hk=>fin_e hk ob fun q b e1 oq o e=>?_) (fun v σ₂ hb e=>?_) fun i σ₂ hb e=>?_)
  ·refine I.sts (s:=⟨h',_,_,_,_⟩) O B hb o S' fun Z₂ ad₂ h₂ tk₂ sub₂ pr₂ S₂=>?_
   exact ⟨k,Nat.lt_succ_self _,Nat.le_of_lt hm,clr σ₂,q,Z₂,ad₂,e1,oq,S₂.ob,RF.on (RF.ob e hP) sub₂ pr₂ (I02 rfl rfl rfl)⟩
  ·exact I.sts (s:=⟨h',_,_,_,_⟩) O B hb (e▸ob) S' fun Z₂ ad₂ h₂ tk₂ sub₂ pr₂ S₂ u hu=>RF.of e hP Z₂ ad₂ h₂ tk₂ sub₂ pr₂ S₂ u hu
  ·exact I.sts (s:=⟨h',_,_,_,_⟩) O B hb (e▸ob) S' ((resW (M:=model prog w) O).ex (RF.of (Q:=Q) e hP))
 | false=>exact er (if_neg (by decide)) (wpAny_execs_nil (RF.of (Option.some.inj hk) hP Z' ad' h' tk (Sub.refl _) (Pre.refl _) S'))
theorem snd_asn (G:Good K)(I:Snd prog w K c n){ts:List T}{as:List AV}{vs:List Value}{r:Out×St}{Q:Unit→Shared→Prop}(O:x.Ok)(B':x.A.depth + (n + 1) < c.lim)(hr:step c (ev c n) (.asn ts as) σ=some r)(ob:AllP r.2.obl)
  (S:Sit prog w K x σ Z ad s.heap) (hv:Vals prog w Z ad as vs) (h:RF prog w K x Z ad s r (fun _ s'=>Q () s') X):wpAny (model prog w) x.A (assignInOrder (ts.map fun t=>assign (decT t) x.env) vs) Q X s:=by
 have B:x.A.depth + n < c.lim:=Nat.le_of_lt (by assumption)
 replace hr:evAsn c (ev c n) ts as σ=some r:=hr
 cases ts with
 | nil=>
  refine gG hr fun he hr=>?_
  cases List.isEmpty_iff.mp he
  exact er (show vs= [] from hv.inv) (wpAny_pure (RF.of (Option.some.inj hr) h Z ad s.heap s.toks (Sub.refl Z) (Pre.refl ad) S))
 | cons t ts=>
  cases as with
  | nil=>exact noS hr
  | cons a as=>
  refine X22 hv.inv fun v us q0 hv r1=>er q0 (er List.map_cons (wpAny_bind (wpAny_holding ?_)))
  replace hr:asn1 (ev c n) t a σ (fun s=>ev c n (.asn ts as) s)=some r:=hr
  cases t with
  | n y p=>exact gG hr fun hk hr=>assign_Name (s_loc O S (S.kd _ _ (isL_kind hk)) hv fun Z' ad' h' tk sub pr S'=>I.asn (s:=⟨h',_,_,_,_⟩) O B hr ob S' (r1.mono sub pr) (RF.on h sub pr (I02 rfl rfl rfl)))
  | c y p=>exact oB hr fun r0 e0 hr=>celR_eq e0 fun hk e1 xs e2=>assign_Name (s_cel O S hk e1 e2 hv fun Z' ad' h' tk sub pr S'=>I.asn (s:=⟨h',_,_,_,_⟩) O B hr ob S' (r1.mono sub pr) (RF.on h sub pr (I02 rfl rfl rfl)))
  | a o a p=>
   delta asn1 at hr
   dsimp only at hr
   refine wpAny_bind (wpAny_holding ?_)
   refine b_ex I O B hr ob S resF h fun u σ₁ r Z' ad' h' tk v' ob hk sub pr S' hu hP=>oB hk fun σ₂ e hk=>?_
   exact wpAny_bind (wpAny_standAt (wpAny_bind (wpAny_holding (p_setattr (s:=⟨h',_,_,_,_⟩) G.kf S' hu (hv.mono sub pr) e fun Z₂ ad₂ h₂ tk₂ sub₂ pr₂ S₂=>
    wpAny_release (I.asn (s:=⟨h₂,_,_,_,_⟩) O B hk ob S₂ ((r1.mono sub pr).mono sub₂ pr₂) (RF.on hP sub₂ pr₂ (I02 rfl rfl rfl)))))))
end
section
variable {prog:Program}{w:World}{K:Frag}{A:Around}{c:Cf}{n:Nat}{X:Value→Shared→Prop}{s:Shared}{Z:Heap}{ad:List Addr}{x:Fx}{σ:St}
theorem draws {it l:Addr}{items:Array Value}(hne:l≠it)(k:Nat):∀(i:Nat) (s:Shared) (Q:List Value→Shared→Prop),s.heap.IsListIter it l i→s.heap.IsList l items→i + k=items.size→
  (∀h',h'.IsListIter it l items.size→Heap.SameBut it s.heap h'→Q (items.toList.drop i) {s with heap:=h'})→wpAny (model prog w) A (draw (.ref it) k) Q X s:=by
 induction k with
 | zero=>
  intro i s Q hit hl he hQ
  have:items.toList.drop i= []:=List.drop_of_length_le (by simp;exact Nat.le_of_eq (Eq.symm (by assumption)))
  rw [this] at hQ
  exact wpAny_pure (hQ s.heap (he▸hit) (Heap.SameBut.refl ..))
 | succ k ih=>
  intro i s Q hit hl he hQ
  have lt:i < items.size:=o219 he
  refine wpAny_bind (wpAny_pyNext_list_item hit hl (x:=items[i]) (by simp [lt]) fun h₁ hit₁ sb=>?_)
  refine wpAny_bind (wpAny_holding (ih (i + 1) _ _ hit₁ ?_ (o220 he) fun h₂ hit₂ sb₂=>wpAny_pure ?_))
  ·refine X11 hl fun o ho hr=>?_
   exact (I11 o ((sb.2 l hne).trans ho) hr)
  ·have e:items.toList.drop i=items[i] :: items.toList.drop (i + 1):=by simp [List.drop_eq_getElem_cons,lt]
   rw [e] at hQ
   exact hQ h₂ hit₂ (sb.trans sb₂)
theorem unpackList {l:Addr}{items:Array Value}{Q:List Value→Shared→Prop}(hh:A.handled=none)(hl:s.heap.IsList l items)
  (hQ:∀h',Heap.ExtBut s.heap.objs.size s.heap h'→Q items.toList {s with heap:=h'}):wpAny (model prog w) A (unpackItems (.ref l) items.size none) Q X s:=by
 have hne:l≠s.heap.objs.size:=by refine X11 hl fun o ho _=>?_;exact Nat.ne_of_lt (Heap.lt_size ho)
 have hit:(s.heap.push {cls:=.type "list_iterator",data:=.fields #[.ref l,.int 0 0]}).IsListIter s.heap.objs.size l 0:=(I12 _ (Heap.get?_push_size _ rfl) rfl rfl)
 have hl₁:(s.heap.push {cls:=.type "list_iterator",data:=.fields #[.ref l,.int 0 0]}).IsList l items:=hl.push _
 refine wpAny_bind (wpAny_bind (wpAny_specialOf (T:= "list") hl.typeIs slot_list_iter.lookup (wpAny_pure ?_)))
 refine er (if_neg (by decide)) ?_
 refine wpAny_bind (wpAny_holding (wpAny_pyIter_list hl ?_))
 refine wpAny_bind (wpAny_holding (draws hne items.size 0 _ _ hit hl₁ (Nat.add_comm _ _) fun h₂ hit₂ sb=>?_))
 refine er List.drop_zero ?_
 refine er (if_neg (by simp)) ?_
 have hl₂:h₂.IsList l items:=by refine X11 hl₁ fun o ho hr=>?_;exact (I11 o ((sb.2 l hne).trans ho) hr)
 refine wpAny_bind (wpAny_holding (wpAny_pyNext_list_end hh hit₂ hl₂ (by simp) fun h₃ eb=>?_))
 exact wpAny_pure (hQ h₃ fun b o hb e=>eb b o hb ((sb.2 b hb).trans (Heap.get?_push_of_some _ e)))
end
section
variable {prog:Program}{w:World}{K:Frag}{A:Around}{c:Cf}{n:Nat}{X:Value→Shared→Prop}{s:Shared}{Z:Heap}{ad:List Addr}{x:Fx}{σ:St}
theorem Sit.ext {h h':Heap}(S:Sit prog w K x σ Z ad h)(eb:Heap.ExtBut h.objs.size h h'):Sit prog w K x σ Z ad h':=by
 have k:∀b o,h.get? b=some o→h'.get? b=some o:=fun b o e=>eb b o (Nat.ne_of_lt (Heap.lt_size e)) e
 have H:=S.hs
 refine ⟨S.kd,S.stat,⟨H.nd,H.zn,fun a m=>?_,fun a m=>?_,fun p m=>?_,fun a o q=>k _ _ (H.zsub a o q),H.len,fun r t xs q=>?_⟩,?_,S.cel⟩
 ·refine X1 (H.ex a m) fun o q=>?_;exact Heap.lt_size (k _ _ q)
 ·refine X1 (H.ex a m) fun o q=>?_;exact ⟨o,k _ _ q⟩
 ·refine X1 (H.pins p m) fun sl q=>?_;exact ⟨sl,k _ _ q⟩
 ·refine X22 (H.emb r t xs q) fun a us h1 h2 h3=>?_;exact (I22 a us h1 (h2.sub k) h3)
 ·refine X11 S.loc fun m hn hl=>?_;exact (I11 m (hn.keeps k) hl)
theorem r_unpack (S:Sit prog w K x σ Z ad s.heap)(hh:A.handled=none){a:AV}{va:Value}{xs:List AV}(hv:Val prog w Z ad a va)(e:seqOf σ.H a=some xs){m:Nat}(hm:m=xs.length){Q:List Value→Shared→Prop}
  (h:∀h' us,Sit prog w K x σ Z ad h'→Vals prog w Z ad xs us→Q us {s with heap:=h'}):wpAny (model prog w) A (unpackItems va m none) Q X s:=by
 refine er (hm.trans (show xs.length=xs.length from rfl)) ?_
 refine oC e (fun vs e1 e=>X22 (S.look hv (tupOf_eq e1)) fun p us q0 ho hs=>er q0 ?_) fun _ e1=>X22 (S.look hv (lstOf_some e1)) fun p us q0 ho hs=>er q0 ?_
 ·cases Option.some.inj e
  exact er (hs.length.trans List.size_toArray.symm) (unpackItems_tuple (prog:=prog) (w:=w) hh ho.tup fun h' eb=>h h' us (S.ext eb) hs)
 ·exact er (hs.length.trans List.size_toArray.symm) (unpackList (prog:=prog) (w:=w) hh ho.lst fun h' eb=>h h' us (S.ext eb) hs)
theorem ev_ncp {e:E}{r:Out×St}(h:ev c n (.ex e) σ=some r):ncp e=true:=by
 cases n with
 | zero=>exact noS h
 | succ n=>
  cases e <;> first | rfl | (exact noS h)
theorem bv_ncp {e:E}{k:AV→St→R}{r:Out×St}(h:bv (ev c n (.ex e) σ) k=some r):ncp e=true:=by
 cases hh:ev c n (.ex e) σ with
 | none=>rw [hh] at h;exact noS h
 | some q=>exact ev_ncp hh
theorem interactive_no (O:x.Ok):interactive x.env=false:=by
 unfold interactive;refine er O.hk ?_;rfl
theorem t_expr (I:Snd prog w K c n){e:E}{p:Pos}{r:Out×St}{Q:Flow→Shared→Prop}(O:x.Ok)(B:x.A.depth + n < c.lim)(hr:evSt c (ev c n) (.expr e p) σ=some r)(ob:AllP r.2.obl)(S:Sit prog w K x σ Z ad s.heap)(h:RF prog w K x Z ad s r Q X) :
  wpAny (model prog w) x.A (exec (decS (.expr e p)) x.env) Q X s:=by
 delta evSt at hr
 dsimp only at hr
 refine wpAny_Expr_any ?_ (interactive_no O) (swaps_ncp (bv_ncp hr) _ _ _)
 refine b_ex I O B hr ob S resF h fun a σ₁ r Z' ad' h' tk v ob hk sub pr S' hv hP=>?_
 exact RF.of (Option.some.inj hk) hP Z' ad' h' tk (Sub.refl _) (Pre.refl _) S'
theorem t_ret (I:Snd prog w K c n){e:E}{p:Pos}{r:Out×St}{Q:Flow→Shared→Prop}(O:x.Ok)(B:x.A.depth + n < c.lim)(hr:evSt c (ev c n) (.ret e p) σ=some r)(ob:AllP r.2.obl)(S:Sit prog w K x σ Z ad s.heap)(h:RF prog w K x Z ad s r Q X) :
  wpAny (model prog w) x.A (exec (decS (.ret e p)) x.env) Q X s:=by
 delta evSt at hr
 dsimp only at hr
 refine wpAny_Return_some ?_
 refine b_ex I O B hr ob S resF h fun a σ₁ r Z' ad' h' tk v ob hk sub pr S' hv hP=>?_
 exact RF.of (Option.some.inj hk) hP Z' ad' h' tk (Sub.refl _) (Pre.refl _) S' v hv
theorem t_asg (I:Snd prog w K c n){y:Nat}{yp:Pos}{e:E}{p:Pos}{r:Out×St}{Q:Flow→Shared→Prop}(O:x.Ok)(B:x.A.depth + n < c.lim)(hr:evSt c (ev c n) (.asg y yp e p) σ=some r)(ob:AllP r.2.obl)(S:Sit prog w K x σ Z ad s.heap)(h:RF prog w K x Z ad s r Q X) :
  wpAny (model prog w) x.A (exec (decS (.asg y yp e p)) x.env) Q X s:=by
 refine gG hr fun hk0 hr=>wpAny_Assign_Name ?_ (swaps_ncp (bv_ncp hr) _ _ _)
 exact b_ex I O B hr ob S resF h fun a σ₁ r Z' ad' h' tk v ob hk sub pr S' hv hP=>s_loc (s:=⟨h',_,_,_,_⟩) O S' (S.kd _ _ (isL_kind hk0)) hv (RF.of (Option.some.inj hk) hP)
end
section
variable {prog:Program}{w:World}{K:Frag}{A:Around}{c:Cf}{n:Nat}{X:Value→Shared→Prop}{s:Shared}{Z:Heap}{ad:List Addr}{x:Fx}{σ:St}
theorem t_asc (I:Snd prog w K c n){y:Nat}{yp:Pos}{e:E}{p:Pos}{r:Out×St}{Q:Flow→Shared→Prop}(O:x.Ok)(B:x.A.depth + n < c.lim)(hr:evSt c (ev c n) (.asc y yp e p) σ=some r)(ob:AllP r.2.obl)(S:Sit prog w K x σ Z ad s.heap)(h:RF prog w K x Z ad s r Q X) :
  wpAny (model prog w) x.A (exec (decS (.asc y yp e p)) x.env) Q X s:=by
 delta evSt at hr
 dsimp only at hr
 refine wpAny_Assign_Name ?_ (swaps_ncp (bv_ncp hr) _ _ _)
 exact b_ex I O B hr ob S resF h fun a σ₁ r Z' ad' h' tk v ob hk sub pr S' hv hP=>oM hk fun r0 e0 q0=>celR_eq e0 fun hkc hl xs e2=>s_cel (s:=⟨h',_,_,_,_⟩) O S' hkc hl e2 hv (RF.of q0 hP)
theorem t_asa (G:Good K)(I:Snd prog w K c n){o:E}{a:Nat}{ap:Pos}{e:E}{p:Pos}{r:Out×St}{Q:Flow→Shared→Prop}(O:x.Ok)(B:x.A.depth + n < c.lim)(hr:evSt c (ev c n) (.asa o a ap e p) σ=some r)(ob:AllP r.2.obl)(S:Sit prog w K x σ Z ad s.heap)(h:RF prog w K x Z ad s r Q X) :
  wpAny (model prog w) x.A (exec (decS (.asa o a ap e p)) x.env) Q X s:=by
 delta evSt at hr
 dsimp only at hr
 refine plainObj_wpAny_Assign_Attribute ?_ (swaps_ncp (bv_ncp hr) _ _ _)
 refine b_ex I O B hr ob S resF h fun v σ₁ r Z' ad' h' tk vv ob hk sub pr S' hv hP=>?_
 exact b_ex (s:=⟨h',_,_,_,_⟩) I O B hk ob S' resF hP fun u σ₂ r Z₂ ad₂ h₂ tk₂ uv ob hk₂ sub₂ pr₂ S₂ hu hP₂=>oM hk₂ fun σ₃ e3 q0=>p_setattr (s:=⟨h₂,_,_,_,_⟩) G.kf S₂ hu (hv.mono sub₂ pr₂) e3 (RF.of q0 hP₂)
theorem t_ass (I:Snd prog w K c n){o i:E}{sp:Pos}{e:E}{p:Pos}{r:Out×St}{Q:Flow→Shared→Prop}(O:x.Ok)(B:x.A.depth + n < c.lim)(hr:evSt c (ev c n) (.ass o i sp e p) σ=some r)(ob:AllP r.2.obl)(S:Sit prog w K x σ Z ad s.heap)(h:RF prog w K x Z ad s r Q X) :
  wpAny (model prog w) x.A (exec (decS (.ass o i sp e p)) x.env) Q X s:=by
 delta evSt at hr
 dsimp only at hr
 refine wpAny_Assign_Subscript ?_ (swaps_ncp (bv_ncp hr) _ _ _)
 refine b_ex I O B hr ob S resF h fun v σ₁ r Z' ad' h' tk vv ob hk sub pr S' hv hP=>?_
 refine b_ex (s:=⟨h',_,_,_,_⟩) I O B hk ob S' resF hP fun u σ₂ r Z₂ ad₂ h₂ tk₂ uv ob hk₂ sub₂ pr₂ S₂ hu hP₂=>?_
 refine b_ex (s:=⟨h₂,_,_,_,_⟩) I O B hk₂ ob S₂ resF hP₂ fun j σ₃ r Z₃ ad₃ h₃ tk₃ jv ob hk₃ sub₃ pr₃ S₃ hj hP₃=>?_
 have hv₃:=(hv.mono sub₂ pr₂).mono sub₃ pr₃
 have hu₃:=hu.mono sub₃ pr₃
 refine oB hk₃ fun r0 e0 hk₃=>?_
 rw [refA_eq e0] at hk₃ hu₃
 refine oC hk₃ (fun xs e1 hk₃=>oB hk₃ fun jj ej hk₃=>b_chk hk₃ ob resF hP₃ fun r ob hk₄ hP₃ q=>?_) fun _ hk₃=>oB hk₃ fun y e1 hk₃=>oB hk₃ fun t ht hk₃=>b_chk hk₃ ob resF hP₃ fun r ob hk₄ hP₃ q=>?_
 ·exact m_setl (s:=⟨h₃,_,_,_,_⟩) S₃ hu₃ (lstOf_some e1) (intA_eq ej▸hj) hv₃ q.1 q.2.1 q.2.2 (OkS.ob (b:=[]) (RF.of (Option.some.inj hk₄) hP₃))
 ·exact m_setd (a:=AV.none) (s:=⟨h₃,_,_,_,_⟩) S₃ hu₃ (dctOf_eq e1) hj ht hv₃ q (OkS.ob (b:=[]) (RF.of (Option.some.inj hk₄) hP₃))
theorem t_aug (I:Snd prog w K c n){y:Nat}{yp:Pos}{e:E}{p:Pos}{r:Out×St}{Q:Flow→Shared→Prop}(O:x.Ok)(B:x.A.depth + n < c.lim)(hr:evSt c (ev c n) (.aug y yp e p) σ=some r)(ob:AllP r.2.obl)(S:Sit prog w K x σ Z ad s.heap)(h:RF prog w K x Z ad s r Q X) :
  wpAny (model prog w) x.A (exec (decS (.aug y yp e p)) x.env) Q X s:=by
 refine gG hr fun hk0 hr=>oB hr fun i ei hr=>oB ei fun a0 e0 ei=>wpAny_AugAssign_Name (l_loc O S hk0 e0 fun u hu=>?_)
 exact b_ex I O B hr ob S resF h fun a σ₁ r Z' ad' h' tk v ob hk sub pr S' hv hP=>oM hk fun j ej q0=>p_iadd (s:=⟨h',_,_,_,_⟩) (hu.mono sub pr) hv (intA_eq ei) (intA_eq ej) rfl fun v₂ tk₂ hv₂=>s_loc (s:=⟨h',_,_,_,_⟩) O S' (S.kd _ _ (isL_kind hk0)) hv₂ (RF.of q0 hP)
theorem t_ifs (I:Snd prog w K c n){t:E}{b o:List S}{p:Pos}{r:Out×St}{Q:Flow→Shared→Prop}(O:x.Ok)(B:x.A.depth + n < c.lim)(hr:evSt c (ev c n) (.ifs t b o p) σ=some r)(ob:AllP r.2.obl)(S:Sit prog w K x σ Z ad s.heap)(h:RF prog w K x Z ad s r Q X) :
  wpAny (model prog w) x.A (exec (decS (.ifs t b o p)) x.env) Q X s:=by
 delta evSt at hr
 dsimp only at hr
 refine wpAny_If ?_
 refine b_tr I O B hr ob S resF h fun a σ₁ r Z' ad' h' tk ob hk sub pr S' hP=>?_
 cases a with
 | true=>exact I.sts (s:=⟨h',_,_,_,_⟩) O B hk ob S' hP
 | false=>exact I.sts (s:=⟨h',_,_,_,_⟩) O B hk ob S' hP
end
section
variable {prog:Program}{w:World}{K:Frag}{A:Around}{c:Cf}{n:Nat}{X:Value→Shared→Prop}{s:Shared}{Z:Heap}{ad:List Addr}{x:Fx}{σ:St}
theorem each_T (env:Env):∀ts:List T,(assignEach (ts.map decT) env).map (·.2)=ts.map (fun t=>assign (decT t) env)∧(assignEach (ts.map decT) env).findIdx? (·.1)=none∧(assignEach (ts.map decT) env).length=ts.length
 | []=>⟨rfl,rfl,rfl⟩
 | t :: ts=>by
  refine X02 (each_T env ts) fun h1 h2 h3=>?_
  have e:assignEach (List.map decT (t :: ts)) env=(false,assign (decT t) env) :: assignEach (ts.map decT) env:=by
   cases t <;> rfl
  refine er e ?_
  refine (I02 (by refine er List.map_cons (er h1 ?_);rfl) ?_ (by refine er List.length_cons (er h3 ?_);rfl))
  refine er (List.findIdx?_cons) (er h2 ?_);rfl
theorem t_unpack (I:Snd prog w K c n){ts:List T}{k:Nat}{tp:Pos}{as:List AV}{a:AV}{va:Value}{r:Out×St}{Q:Unit→Shared→Prop}(O:x.Ok)(B:x.A.depth + n < c.lim)(hs:seqOf σ.H a=some as)(hl:Nat.beq ts.length as.length=true)
  (hr:ev c n (.asn ts as) σ=some r) (ob:AllP r.2.obl) (S:Sit prog w K x σ Z ad s.heap) (hv:Val prog w Z ad a va) (h:RF prog w K x Z ad s r (fun _ s'=>Q () s') X) :
  wpAny (model prog w) x.A (assign (.Tuple (ts.map decT) k tp) x.env va) Q X s:=by
 refine X02 (each_T x.env ts) fun h1 h2 h3=>?_
 show wpAny _ _ (do standAt tp;unpack va (assignEach (ts.map decT) x.env)) Q X s
 refine wpAny_bind (wpAny_standAt ?_)
 unfold unpack
 refine er h1 (er h2 (er h3 ?_))
 refine wpAny_bind (wpAny_holding (r_unpack S O.hh hv hs (Nat.eq_of_beq_eq_true hl) fun h' us S' hu=>?_))
 exact I.asn (s:=⟨h',_,_,_,_⟩) O B hr ob S' hu (RF.on h (Sub.refl _) (Pre.refl _) (I02 rfl rfl rfl))
noncomputable def nxx:Out→Prop
 | .nx=>True
 | .ex _=>True
 | _=>False
noncomputable def noTup:E→Prop
 | .tup ..=>False
 | _=>True
theorem swap_no {ts:List T}{k:Nat}{tp:Pos}{e:E}(he:noTup e)(env:Env):swappedStores [.Tuple (ts.map decT) k tp] (dec e) env=pure none:=by
 cases e <;> first | exact he.elim | rfl
noncomputable def nameAt (env:Env)(L:Nat):PySem.Expr→Option Str
 | .Name id pos=>if env.kindOf id == some .local && pos.line == L then some id else none
 | _=>none
noncomputable def isStar:PySem.Expr→Bool
 | .Starred ..=>true
 | _=>false
theorem star_no (e:E):isStar (dec e)=false:=by cases e <;> rfl
theorem if_ff {α:Sort u}{b:Bool}{x y:α}(h:b=false):(if b=true then x else y)=y:=if_neg (Bool.eq_false_iff.mp h)
theorem if_tt {α:Sort u}{b:Bool}{x y:α}(h:b=true):(if b=true then x else y)=x:=if_pos h
section
variable {ts vs:List PySem.Expr}{ns:List Str}{k k':Nat}{tp q:Pos}{env:Env}
theorem swap_gen (h1:(!(ts.length == 2 || ts.length == 3) || vs.length !=ts.length || env.blockKind !=.function)=false)(h2:vs.any isStar=false)(h3:ts.filterMap (nameAt env ((ts.head?.map (·.pos.line)).getD 0))=ns)(h4:(ns.length !=ts.length || ns.eraseDups.length !=ns.length)=false)
  (h5:vs.all (foldedForSure 8)=false) (h6:vs.all (constantsAlone 8)=false):swappedStores [.Tuple ts k tp] (.Tuple vs k' q) env=pure (some ns):=by
 subst h3
 exact (if_ff h1).trans <| (if_ff h2).trans <| (if_ff h4).trans <| (if_ff h5).trans <| (if_ff h6)
theorem swap_nil (h:(!(ts.length == 2 || ts.length == 3) || vs.length !=ts.length || env.blockKind !=.function)=false→vs.any isStar=false→((ts.filterMap (nameAt env ((ts.head?.map (·.pos.line)).getD 0))).length !=ts.length)=true):swappedStores [.Tuple ts k tp] (.Tuple vs k' q) env=pure none:=by
 cases h1:(!(ts.length == 2 || ts.length == 3) || vs.length !=ts.length || env.blockKind !=.function) with
 | true=>exact if_tt h1
 | false=>
  refine (if_ff h1).trans ?_
  cases h2:vs.any isStar with
  | true=>exact if_tt h2
  | false=>
   refine (if_ff h2).trans ?_
   exact if_tt (Bool.or_eq_true_iff.mpr (.inl (h h1 h2)))
theorem swap_a {o o':PySem.Expr}{a a':Str}{p p':Pos}:swappedStores [.Tuple [.Attribute o a p,.Attribute o' a' p'] k tp] (.Tuple vs k' q) env=pure none:=swap_nil fun _ _=>rfl
theorem swap_4 {t1 t2 t3 t4:PySem.Expr}:swappedStores [.Tuple [t1,t2,t3,t4] k tp] (.Tuple vs k' q) env=pure none:=swap_nil fun h=>nomatch h
theorem swap_c {x y:Str}{p p':Pos}(h:env.kindOf y=some .cell):swappedStores [.Tuple [.Name x p,.Name y p'] k tp] (.Tuple vs k' q) env=pure none:=swap_nil fun _ _=>by
 have hy:nameAt env p.line (.Name y p')=none:=by show (if (env.kindOf y == some .local && p'.line == p.line)=true then some y else none)=none;rw [h];rfl
 show ((List.filterMap (nameAt env p.line) [.Name x p,.Name y p']).length !=2)=true
 rw [List.filterMap_cons,List.filterMap_cons,hy]
 cases nameAt env p.line (.Name x p) <;> rfl
theorem name_at {x:Str}{p:Pos}{L:Nat}{r:List PySem.Expr}{l:List Str}(hx:env.kindOf x=some .local)(hl:p.line=L)(h:r.filterMap (nameAt env L)=l):(PySem.Expr.Name x p :: r).filterMap (nameAt env L)=x :: l:=by
 have:nameAt env L (.Name x p)=some x:=by show (if (env.kindOf x == some .local && p.line == L)=true then some x else none)=_;rw [hx,hl];exact if_pos (beq_self_eq_true L)
 rw [List.filterMap_cons,this,h]
theorem blockF (hk:env.scope.kind=.function):(env.blockKind !=.function)=false:=by unfold Env.blockKind;rw [hk];rfl
end
theorem opn_open {e:Mine.E}(h:opn e=true):foldedForSure 8 (dec e)=false∧constantsAlone 8 (dec e)=false:=by
 have h0:∀{e:Mine.E},opn0 e=true→(∀m,foldedForSure m (dec e)=false)∧∀m,constantsAlone m (dec e)=false:=by
  intro e h
  cases e <;> first | (exact noB h;done) | (exact ⟨fun m=>by cases m <;> rfl,fun m=>by cases m <;> first | rfl | exact nm_ne.1⟩)
 revert h
 cases e with
 | sub o i p=>
  intro h
  refine ⟨rfl,?_⟩
  show (constantsAlone 7 (dec o) && constantsAlone 7 (dec i))=false
  rcases Bool.or_eq_true_iff.mp h with q | q
  ·rw [(h0 q).2];rfl
  ·rw [(h0 q).2,Bool.and_false]
 | _=>
  intro h
  have h':=h0 (by first | exact h | (unfold opn at h;exact h))
  exact ⟨h'.1 8,h'.2 8⟩
section
variable {e₁ e₂ e₃:Mine.E}{x y z:Str}{p p' p'' tp q:Pos}{k k':Nat}{env:Env}
theorem all_ff {f:PySem.Expr→Bool}{a:PySem.Expr}{l:List PySem.Expr}(h:f a=false):(a :: l).all f=false:=by rw [List.all_cons,h];rfl
theorem swap_2 (hk:env.scope.kind=.function)(hx:env.kindOf x=some .local)(hy:env.kindOf y=some .local)(hl:p'.line=p.line)(hne:x≠y)(ha:opn e₁=true) :
  swappedStores [.Tuple [.Name x p,.Name y p'] k tp] (.Tuple [dec e₁,dec e₂] k' q) env=pure (some [x,y]):=
 swap_gen (blockF hk) (by rw [List.any_cons,List.any_cons,star_no,star_no];rfl) (name_at hx rfl (name_at hy hl rfl)) (by simp [List.eraseDups_cons,Ne.symm hne]) (all_ff (opn_open ha).1) (all_ff (opn_open ha).2)
theorem swap_3 (hk:env.scope.kind=.function)(hx:env.kindOf x=some .local)(hy:env.kindOf y=some .local)(hz:env.kindOf z=some .local)(hl:p'.line=p.line)(hl':p''.line=p.line)(hne:x≠y)(hne2:x≠z)(hne3:y≠z)(ha:opn e₁=true) :
  swappedStores [.Tuple [.Name x p,.Name y p',.Name z p''] k tp] (.Tuple [dec e₁,dec e₂,dec e₃] k' q) env=pure (some [x,y,z]):=
 swap_gen (blockF hk) (by rw [List.any_cons,List.any_cons,List.any_cons,star_no,star_no,star_no];rfl) (name_at hx rfl (name_at hy hl (name_at hz hl' rfl))) (by simp [List.eraseDups_cons,Ne.symm hne,Ne.symm hne2,Ne.symm hne3]) (all_ff (opn_open ha).1) (all_ff (opn_open ha).2)
end
end
section
variable {prog:Program}{w:World}{K:Frag}{A:Around}{c:Cf}{n:Nat}{X:Value→Shared→Prop}{s:Shared}{Z:Heap}{ad:List Addr}{x:Fx}{σ:St}
theorem asn_ends {c:Cf}:∀(n:Nat) {ts:List T} {as:List AV} {σ:St} {r:Out×St},ev c n (.asn ts as) σ=some r→nxx r.1:=by
 intro n
 induction n with
 | zero=>exact fun h=>noS h
 | succ n ih=>
  intro ts as σ r h
  refine oM h fun q h e=>re e (show nxx q.1 from ?_)
  replace h:evAsn c (ev c n) ts as (clr σ)=some q:=h
  cases ts with
  | nil=>exact gG h fun _ h=>Option.some.inj h▸⟨⟩
  | cons t ts=>
   cases as with
   | nil=>exact noS h
   | cons a as=>
    cases t with
    | n=>exact gG h fun _ h=>ih h
    | c=>exact oB h fun _ _ h=>ih h
    | a o b p=>
     delta evAsn asn1 at h
     dsimp only at h
     cases hh:ev c n (.ex o) (clr σ) with
     | none=>rw [hh] at h;exact noS h
     | some z=>
      obtain ⟨o',σ'⟩:=z
      rw [hh] at h
      cases o' with
      | v u=>exact oM h fun q' h e=>re e (show nxx q'.1 from oB h fun _ _ h=>ih h)
      | ex i=>exact Option.some.inj h▸⟨⟩
      | _=>exact noS h
theorem t_ast0 (I:Snd prog w K c n){ts:List T}{k:Nat}{tp:Pos}{e:E}{p:Pos}{r:Out×St}{Q:Flow→Shared→Prop}(O:x.Ok)(B:x.A.depth + n < c.lim)
  (hr:(bv (ev c n (.ex e) σ) fun v s=>(seqOf s.H v).bind fun vs=>gd (Nat.beq ts.length vs.length) (ev c n (.asn ts vs) s))=some r) (ob:AllP r.2.obl)
  (hw:swappedStores [.Tuple (ts.map decT) k tp] (dec e) x.env=pure none) (S:Sit prog w K x σ Z ad s.heap) (h:RF prog w K x Z ad s r Q X) :
  wpAny (model prog w) x.A (exec (decS (.ast ts k tp e p)) x.env) Q X s:=by
 have hsw:swapsWithSole [.Tuple (ts.map decT) k tp] (dec e) p.line x.env=pure false:=by
  unfold swapsWithSole
  exact swaps_ncp (bv_ncp hr) _ _ _
 refine Assign_Tuple ?_ hsw hw
 refine b_ex I O B hr ob S resF h fun a σ₁ r Z' ad' h' tk v ob hk sub pr S' hv hP=>?_
 refine oB hk fun vs hs hk=>gG hk fun hl hk=>t_unpack (s:=⟨h',_,_,_,_⟩) I O B hs hl hk ob S' hv ?_
 have q:=asn_ends n hk
 obtain ⟨o,σ₂⟩:=r
 cases o with
 | nx=>exact hP
 | ex i=>exact hP
 | _=>exact q.elim
end
noncomputable def nmT:T→Option Nat
 | .n y _=>some y
 | _=>none
section
variable {prog:Program}{w:World}{K:Frag}{c:Cf}{X:Value→Shared→Prop}{x:Fx}
theorem bare (O:x.Ok):∀(n:Nat) {ts:List T} {ns:List Nat} {as:List AV} {vs:List Value} {σ:St} {r:Out×St} {Z:Heap} {ad:List Addr} {s:Shared} {Q:Unit→Shared→Prop},ts.map nmT=ns.map some→
  ev c n (.asn ts as) σ=some r→Sit prog w K x σ Z ad s.heap→Vals prog w Z ad as vs→RF prog w K x Z ad s r (fun _ s'=>Q () s') X→wpAny (model prog w) x.A (assignInOrder ((ns.map nm).map fun y=>bindName x.env y) vs) Q X s:=by
 intro n
 induction n with
 | zero=>exact fun _ h=>noS h
 | succ n ih=>
  intro ts ns as vs σ r Z ad s Q e h S hv hR
  refine oM h fun q h e'=>?_
  replace h:evAsn c (ev c n) ts as (clr σ)=some q:=h
  replace S:Sit prog w K x (clr σ) Z ad s.heap:=S.ob
  replace hR:=RF.ob e'.symm hR
  cases ts with
  | nil=>
   cases ns with
   | cons=>exact nomatch e
   | nil=>
   refine gG h fun he h=>?_
   cases List.isEmpty_iff.mp he
   exact er (show vs= [] from hv.inv) (wpAny_pure (RF.of (Option.some.inj h) hR Z ad s.heap s.toks (Sub.refl Z) (Pre.refl ad) S))
  | cons t ts=>
   cases as with
   | nil=>exact noS h
   | cons a as=>
   cases ns with
   | nil=>exact nomatch e
   | cons y' ns=>
   refine X01 (List.cons.inj e) fun e1 e2=>X22 hv.inv fun v us q0 hv r1=>er q0 ?_
   cases t with
   | n y p=>
    cases Option.some.inj e1
    exact gG h fun hk h=>wpAny_bind (wpAny_holding (bindName_ (s_loc O S (S.kd _ _ (isL_kind hk)) hv fun Z' ad' h' tk sub pr S'=>ih (s:=⟨h',_,_,_,_⟩) e2 h S' (r1.mono sub pr) (RF.on hR sub pr (I02 rfl rfl rfl)))))
   | _=>exact noS e1
end
section
variable {prog:Program}{w:World}{K:Frag}{c:Cf}{n:Nat}{X:Value→Shared→Prop}{s:Shared}{Z:Heap}{ad:List Addr}{x:Fx}{σ:St}
theorem Vals.reverse {xs:List AV}{vs:List Value}(h:Vals prog w Z ad xs vs):Vals prog w Z ad xs.reverse vs.reverse:=by
 induction xs generalizing vs with
 | nil=>cases (show _= [] from h.inv);exact .nil
 | cons a xs ih=>
  cases h with
  | cons h r=>
  refine er List.reverse_cons (er List.reverse_cons ?_)
  exact (ih r).append (.cons h .nil)
theorem t_ast1 (I:Snd prog w K c n){ts:List T}{ns:List Nat}{k:Nat}{tp:Pos}{e:E}{p:Pos}{r:Out×St}{Q:Flow→Shared→Prop}(O:x.Ok)(B:x.A.depth + n < c.lim)(hn:ts.map nmT=ns.map some)
  (hr:(bv (ev c n (.ex e) σ) fun v s=>(seqOf s.H v).bind fun vs=>gd (Nat.beq ts.length vs.length) (ev c n (.asn ts.reverse vs.reverse) s))=some r) (ob:AllP r.2.obl)
  (hw:swappedStores [.Tuple (ts.map decT) k tp] (dec e) x.env=pure (some (ns.map nm))) (S:Sit prog w K x σ Z ad s.heap) (h:RF prog w K x Z ad s r Q X) :
  wpAny (model prog w) x.A (exec (decS (.ast ts k tp e p)) x.env) Q X s:=by
 have hsw:swapsWithSole [.Tuple (ts.map decT) k tp] (dec e) p.line x.env=pure false:=by
  unfold swapsWithSole
  exact swaps_ncp (bv_ncp hr) _ _ _
 have hlen:ts.length=ns.length:=by simpa using congrArg List.length hn
 refine Assign_Tuple_swapped ?_ hsw hw
 refine b_ex I O B hr ob S resF h fun a σ₁ r Z' ad' h' tk v ob hk sub pr S' hv hP=>?_
 refine oB hk fun vs hs hk=>gG hk fun hl hk=>?_
 refine r_unpack (s:=⟨h',_,_,_,_⟩) S' O.hh hv hs (by rw [List.length_map,←hlen];exact Nat.eq_of_beq_eq_true hl) fun h₂ us S₂ hu=>re List.map_reverse ?_
 refine bare (s:=⟨h₂,_,_,_,_⟩) O n (List.map_reverse.symm▸List.map_reverse.symm▸(congrArg List.reverse hn)) hk S₂ hu.reverse ?_
 have q:=asn_ends n hk
 obtain ⟨o,σ₂⟩:=r
 cases o with
 | nx=>exact RF.on hP (Sub.refl _) (Pre.refl _) ⟨rfl,rfl,rfl⟩
 | ex i=>exact RX.on hP (Sub.refl _) (Pre.refl _) ⟨rfl,rfl,rfl⟩
 | _=>exact q.elim
end
section
variable {prog:Program}{w:World}{K:Frag}{c:Cf}{n:Nat}{X:Value→Shared→Prop}{s:Shared}{Z:Heap}{ad:List Addr}{x:Fx}{σ:St}
inductive SW (kd:List (Nat×NameKind)):List T→List E→Bool→Prop
 | n2 {x y:Nat} {xp yp:Pos} {a b:E} (h:(isL kd x && isL kd y && Nat.beq yp.line xp.line && !Nat.beq x y && opn a)=true):SW kd [.n x xp,.n y yp] [a,b] true
 | n3 {x y z:Nat} {xp yp zp:Pos} {a b d:E} (h:(isL kd x && isL kd y && isL kd z && Nat.beq yp.line xp.line && Nat.beq zp.line xp.line && !Nat.beq x y && !Nat.beq x z && !Nat.beq y z && opn a)=true):SW kd [.n x xp,.n y yp,.n z zp] [a,b,d] true
 | aa {o o':E} {a a':Nat} {p p':Pos} {vs:List E}:SW kd [.a o a p,.a o' a' p'] vs false
 | four {t u v z:T} {vs:List E}:SW kd [t,u,v,z] vs false
 | nc {x y:Nat} {xp yp:Pos} {vs:List E} (h:isC kd y=true):SW kd [.n x xp,.c y yp] vs false
theorem cond_some {q b d:Bool}(h:(bif q then some b else none)=some d):q=true∧b=d:=by
 cases q with
 | false=>exact noS h
 | true=>exact ⟨rfl,Option.some.inj h⟩
theorem sw2_of {kd:List (Nat×NameKind)}{t u:T}{vs:List E}{b:Bool}(h:sw2 kd t u vs=some b):SW kd [t,u] vs b:=by
 cases t with
 | n=>cases u with
  | n=>cases vs with
   | nil=>exact noS h
   | cons _ r=>cases r with
    | nil=>exact noS h
    | cons _ r=>cases r with
     | nil=>exact (cond_some h).2▸.n2 (cond_some h).1
     | cons=>exact noS h
  | c=>exact (cond_some h).2▸.nc (cond_some h).1
  | a=>exact noS h
 | c=>exact noS h
 | a=>cases u with
  | a=>exact Option.some.inj h▸.aa
  | _=>exact noS h
theorem sw3_of {kd:List (Nat×NameKind)}{t u v:T}{vs:List E}{b:Bool}(h:sw3 kd t u v vs=some b):SW kd [t,u,v] vs b:=by
 cases t with
 | n=>cases u with
  | n=>cases v with
   | n=>cases vs with
    | nil=>exact noS h
    | cons _ r=>cases r with
     | nil=>exact noS h
     | cons _ r=>cases r with
      | nil=>exact noS h
      | cons _ r=>cases r with
       | nil=>exact (cond_some h).2▸.n3 (cond_some h).1
       | cons=>exact noS h
   | _=>exact noS h
  | _=>exact noS h
 | _=>exact noS h
theorem sw_of {kd:List (Nat×NameKind)}{ts:List T}{vs:List E}{b:Bool}(h:swT kd ts vs=some b):SW kd ts vs b:=by
 cases ts with
 | nil=>exact noS h
 | cons t r=>cases r with
  | nil=>exact noS h
  | cons u r=>cases r with
   | nil=>exact sw2_of h
   | cons v r=>cases r with
    | nil=>exact sw3_of h
    | cons w r=>cases r with
     | nil=>exact Option.some.inj h▸.four
     | cons=>exact noS h
theorem swp_of {kd:List (Nat×NameKind)}{ts:List T}{e:E}{b:Bool}(h:swp kd ts e=some b):(∃vs k p,e=.tup vs k p∧SW kd ts vs b)∨(noTup e∧b=false):=by
 cases e with
 | tup=>exact .inl ⟨_,_,_,rfl,sw_of h⟩
 | _=>exact .inr ⟨⟨⟩,(Option.some.inj h).symm⟩
theorem nt {a:Bool}(h:(!a)=true):a=false:=by cases a with | false=>rfl | true=>exact noB h
theorem and_t {a b:Bool}(h:(a && b)=true):a=true∧b=true:=Bool.and_eq_true_iff.mp h
theorem t_ast (I:Snd prog w K c n){ts:List T}{k:Nat}{tp:Pos}{e:E}{p:Pos}{r:Out×St}{Q:Flow→Shared→Prop}(O:x.Ok)(B:x.A.depth + n < c.lim)(hr:evSt c (ev c n) (.ast ts k tp e p) σ=some r)(ob:AllP r.2.obl)(S:Sit prog w K x σ Z ad s.heap)(h:RF prog w K x Z ad s r Q X) :
  wpAny (model prog w) x.A (exec (decS (.ast ts k tp e p)) x.env) Q X s:=by
 have kl:∀{y:Nat},isL σ.kd y=true→x.env.kindOf (nm y)=some .local:=fun h=>S.kd _ _ (isL_kind h)
 have ne:∀{a b:Nat},Nat.beq a b=false→nm a≠nm b:=fun h q=>Nat.ne_of_beq_eq_false h (nm_inj q)
 refine oB hr fun b hs hr=>?_
 ·rcases swp_of hs with ⟨vs,k',p',rfl,hw⟩ | ⟨hw,rfl⟩
  ·cases hw with
   | n2 hc=>
    have h5:=and_t hc;have h4:=and_t h5.1;have h3:=and_t h4.1;have h1:=and_t h3.1
    refine t_ast1 (ns:=[_,_]) I O B rfl hr ob ?_ S h
    exact swap_2 O.hk (kl h1.1) (kl h1.2) (Nat.eq_of_beq_eq_true h3.2) (ne (nt h4.2)) h5.2
   | n3 hc=>
    have h9:=and_t hc;have h8:=and_t h9.1;have h7:=and_t h8.1;have h6:=and_t h7.1;have h5:=and_t h6.1;have h4:=and_t h5.1;have h3:=and_t h4.1;have h1:=and_t h3.1
    refine t_ast1 (ns:=[_,_,_]) I O B rfl hr ob ?_ S h
    exact swap_3 O.hk (kl h1.1) (kl h1.2) (kl h3.2) (Nat.eq_of_beq_eq_true h4.2) (Nat.eq_of_beq_eq_true h5.2) (ne (nt h6.2)) (ne (nt h7.2)) (ne (nt h8.2)) h9.2
   | aa=>
    refine t_ast0 I O B hr ob ?_ S h
    exact swap_a
   | four=>
    refine t_ast0 I O B hr ob ?_ S h
    exact swap_4
   | nc hk=>
    refine t_ast0 I O B hr ob ?_ S h
    exact swap_c (S.kd _ _ (isC_kind hk))
  ·exact t_ast0 I O B hr ob (swap_no hw _) S h
theorem t_whl (I:Snd prog w K c n){t:E}{b:List S}{p:Pos}{r:Out×St}{Q:Flow→Shared→Prop}(O:x.Ok)(B:x.A.depth + n < c.lim)(hr:evSt c (ev c n) (.whl t b p) σ=some r)(ob:AllP r.2.obl)(S:Sit prog w K x σ Z ad s.heap)(h:RF prog w K x Z ad s r Q X) :
  wpAny (model prog w) x.A (exec (decS (.whl t b p)) x.env) Q X s:=by
 exact wpAny_While (I.whl O B hr ob S h)
end
theorem w_get:Slot "wrapper_descriptor" "__get__" "wrapper_descriptor.__get__" :=.of (owner:= "wrapper_descriptor") (n:= "__get__") (by rw [typeLookup_type,builtinLookup_eq_fast];kernel_rfl) (by decide +kernel) (by decide +kernel) (by decide +kernel)
 (by first | exact .inl (by decide +kernel) | exact .inr (by decide +kernel)) (by rw [isSubtype_type];kernel_rfl)
theorem w_get_entry:entryFor table "wrapper_descriptor.__get__" =some Builtin.«wrapper_descriptor.__get__»:=entryFor_of_tree (by kernel_rfl)
theorem w_get_args (a b c:Value):argsOk "wrapper_descriptor.__get__" ⟨[a,b,c],[]⟩:=by unfold argsOk;kernel_rfl
theorem own_init:builtinOwn "Exception" "__init__" =some (.builtin "Exception.__init__"):=by refine er builtinOwn_eq_fast ?_;kernel_rfl
theorem own_init':classOwn (.type "Exception") "__init__" =pure (some (.builtin "Exception.__init__")):=by show pure _=_;exact er own_init rfl
theorem type_init:typeOf (.builtin "Exception.__init__")=pure (.type "wrapper_descriptor"):=by show builtinType _=_;refine er builtinType_eq_fast ?_;kernel_rfl
section
variable {prog:Program}{w:World}{M:Model}{A:Around}{E:Value→Shared→Prop}{h:Heap}{g:Array GenState}{d:Drawn}{t:Nat}{os:OsState}
variable {nm q:Str}{C N:Addr}{bs bm:List Value}{hdct:Bool}{sn:List Str}{sub:List Value}{ab:Bool}{col:Option Bool}{dd:Option Addr}{k0 k1 k2 k3 k5:Option Value}{newId:String}
noncomputable abbrev bmE:List Value:=[.type "Exception",.type "BaseException",.type "object"]
set_option maxHeartbeats 1000000 in
theorem super_ga {so x:Addr}{ox:Obj}{tk:Tok}{Q:Fin→Shared→Prop}
  (hso:h.get? so=some {cls:=.type "super",dict:=none,data:=.fields #[.ref C,.ref x,.ref C],slots:= #[]})
  (hC:h.get? C=some (excClassObj nm q C N bs bmE hdct sn sub ab col dd k0 k1 k2 k3 k5 newId)) (hno:Looks (model prog w) h (opaqueClassAbove (.ref C)) none)
  (hx:h.get? x=some ox) (hxc:ox.cls=.ref C) (hxC:x≠C)
  (hq:Q (.done (.ret (.ref h.objs.size))) ⟨h.push {cls:=.type "method-wrapper",data:=.fields #[.builtin "Exception.__init__",.ref x]},g,d,t,os⟩) :
  wpAny (model prog w) A (Builtin.«super.__getattribute__» ⟨[.ref so,.str "__init__" tk],[]⟩) Q E ⟨h,g,d,t,os⟩:=by
 have hlk:=w_get.lookup
 have hne:(Value.ref x == Value.ref C)=false:=by simp [hxC]
 have hdt:({cls:=.type "super",dict:=none,data:=.fields #[.ref C,.ref x,.ref C],slots:= #[]}:Obj).data=.fields #[.ref C,.ref x,.ref C]:=rfl
 have f0:(#[.ref C,.ref x,.ref C]:Array Value)[0]? =some (.ref C):=rfl
 have f1:(#[.ref C,.ref x,.ref C]:Array Value)[1]? =some (.ref x):=rfl
 have f2:(#[.ref C,.ref x,.ref C]:Array Value)[2]? =some (.ref C):=rfl
 have hn:("__init__" == ("__class__" :Str))=false:=by decide
 have hm:Looks (model prog w) h (mroOf (.ref C)) (.ref C :: bmE):=fun A Q E s k q=>wpAny_mroOf_exc (k _ _ hC) q
 have hl:((Value.ref C :: bmE).dropWhile (· !=.ref C)).drop 1=bmE:=by simp [List.dropWhile]
 have hT:∀h' g' d' t' os',(⟨h',g',d',t',os'⟩:Shared).TypeIs (.builtin "Exception.__init__") "wrapper_descriptor" :=fun _ _ _ _ _=>type_init
 have hcut: ".".intercalate ("Exception.__init__".cutAt '.').dropLast= "Exception" :=by decide +kernel
 have hcc:(Value.ref C :: bmE).contains (.type "Exception")=true:=rfl
 repeat (first
  | (with_reducible refine wpAny_field hso hdt f0 ?_) | (with_reducible refine wpAny_field hso hdt f1 ?_) | (with_reducible refine wpAny_field hso hdt f2 ?_)
  | (with_reducible refine ks_wpAny_notOpaque hno ?_)
  | ((with_reducible refine Looks.at hm ?_);rw [hl,List.forIn_cons];refine wpAny_bind (wpAny_bind (wpAny_bind (wpAny_of_eq own_init' ?_)));dsimp only;refine wpAny_bind (wpAny_of_eq type_init ?_))
  | (with_reducible refine wpAny_call_entry w_get (hT _ _ _ _ _) w_get_entry ?_ (w_get_args _ _ _))
  | (simp only [hne,Bool.false_eq_true,if_false])
  | wp_step
  | dsimp only)
 refine er hcut (er hxc ?_)
 refine wpAny_isSubtype_exc hC ?_
 refine er hcc ?_
 repeat (first | (with_reducible refine wpAny_newObj_type ?_ (by size_fits)) | (with_reducible refine (I11 _ rfl ?_)) | wp_step)
 exact hq
end
section
variable {prog:Program}{w:World}{M:Model}{A:Around}{E:Value→Shared→Prop}{h:Heap}{g:Array GenState}{d:Drawn}{t:Nat}{os:OsState}
variable {nm q:Str}{C N:Addr}{bs bm:List Value}{hdct:Bool}{sn:List Str}{sub:List Value}{ab:Bool}{col:Option Bool}{dd:Option Addr}{k0 k1 k2 k3 k5:Option Value}{newId:String}
theorem super_method {so x:Addr}{ox:Obj}{pl:Sem Bool}{Q:Value×List Value→Shared→Prop}
  (hso:h.get? so=some {cls:=.type "super",dict:=none,data:=.fields #[.ref C,.ref x,.ref C],slots:= #[]})
  (hC:h.get? C=some (excClassObj nm q C N bs bmE hdct sn sub ab col dd k0 k1 k2 k3 k5 newId)) (hno:Looks (model prog w) h (opaqueClassAbove (.ref C)) none)
  (hx:h.get? x=some ox) (hxc:ox.cls=.ref C) (hxC:x≠C)
  (hq:Q (.ref h.objs.size,[]) ⟨h.push {cls:=.type "method-wrapper",data:=.fields #[.builtin "Exception.__init__",.ref x]},g,d,t + 1,os⟩) :
  wpAny (model prog w) A (getMethod (.ref so) "__init__" pl) Q E ⟨h,g,d,t,os⟩:=by
 have look:=F.ks_slot_super_ga.lookup
 have T:∀n,(⟨h,g,d,n,os⟩:Shared).TypeIs (.ref so) "super" :=fun _=>(I11 _ hso rfl)
 refine wpAny_bind (wpAny_specialOf (T _) look ?_)
 dsimp only
 refine er (if_pos F.ks_canon_super_ga) ?_
 refine wpAny_bind (wpAny_bind (wpAny_mkText (wpAny_holding (wpAny_bind (wpAny_typeOf (T _) (wpAny_bind (wpAny_of_eq look ?_)))))))
 refine wpAny_bind (wpAny_of_eq (show (if onTheHeap (.type "super") then typeLookup (.type "super") "__getattr__" else pure none)=pure none from rfl) ?_)
 refine wpAny_bind (wpAny_attempt (wpAny_holding (wpAny_bind (wpAny_of_eq (F.ks_slot_super_ga.bind _) ?_))))
 refine wpAny_mono (wpAny_call_entry (E:=fun _ _=>False) F.ks_slot_super_ga (T _) F.ks_entry_super_ga (super_ga (Q:=fun fin s'=>∃v,fin=.done (.ret v)∧v=.ref h.objs.size∧s'=⟨h.push {cls:=.type "method-wrapper",data:=.fields #[.builtin "Exception.__init__",.ref x]},g,d,t + 1,os⟩)
  hso hC hno hx hxc hxC (I12 _ rfl rfl rfl)) (F.ks_gaArgs_super _ _)) (fun v s' hv=>?_) fun _ _ z=>z.elim
 obtain ⟨rfl,rfl⟩:=hv
 exact wpAny_pure (wpAny_pure hq)
theorem bound_check {e:Addr}{oe:Obj}{rest:List Value}{Q:Unit→Shared→Prop}(hC:h.get? C=some (excClassObj nm q C N bs bmE hdct sn sub ab col dd k0 k1 k2 k3 k5 newId))(he:h.get? e=some oe)(hcls:oe.cls=.ref C)(hq:Q () ⟨h,g,d,t,os⟩) :
  wpAny M A (checkBoundCall "Exception.__init__" ⟨.ref e :: rest,[]⟩) Q E ⟨h,g,d,t,os⟩:=by
 have F:=PySem.F.excBase_Exception
 have hshort:=F.noStar
 repeat (first | (with_reducible refine wpAny_loadPart_at he ?_;rw [hcls]) | with_reducible refine wpAny_loadPart_at hC ?_ | wp_step)
 refine wpAny_onRaise ?_
 rw [show ∀(a b:String) (n:Nat),Bind.check ⟨.positional, "*", "Exception",.self,[⟨"args",.varPos,false⟩]⟩ a b n (List.map (fun x=>x.fst) ({pos:=Value.ref e :: rest}:Args).kw)=pure () from
  fun a b n=>check_star_args _ _ _ _ _ _]
 exact wpAny_pure hq
noncomputable abbrev excNew (C:Addr)(T:Addr):Obj:={cls:=.ref C,dict:=none,data:=.fields #[.ref T,.none,.none,.none,.bool false,.none],slots:= #[]}
theorem init_bound {b e T:Addr}{arg:Value}{Q:Value→Shared→Prop}
  (hb:h.get? b=some {cls:=.type "method-wrapper",dict:=none,data:=.fields #[.builtin "Exception.__init__",.ref e],slots:= #[]})
  (hC:h.get? C=some (excClassObj nm q C N bs bmE hdct sn sub ab col dd k0 k1 k2 k3 k5 newId)) (he:h.get? e=some (excNew C T))
  (hq:∀h' T,h'.get? e=some (excNew C T)→(∀y o,y≠e→h.get? y=some o→h'.get? y=some o)→h.objs.size≤h'.objs.size→Q .none ⟨h',g,d,t,os⟩) :
  wpAny (model prog w) A (call (.ref b) [arg]) Q E ⟨h,g,d,t,os⟩:=by
 refine wpAny_call (codeAny_of_tree ?_)
 show wpAny _ _ (callAny (.ref b) _) _ _ _
 refine wpAny_bind (wpAny_load hb ?_)
 dsimp only
 refine er (if_pos (by decide)) ?_
 show wpAny _ _ (if (Value.type "method-wrapper" !=Value.type "method")=true then _ else _) _ _ _
 refine er (if_pos (by decide)) ?_
 refine wpAny_bind (bound_check hC he rfl (wpAny_pure ⟨Code.quiet_builtin _ (by decide +kernel),codeAny_builtin PySem.F.excBase_Exception.initEntry ?_⟩))
 have he':(h.push {cls:=.type "tuple",data:=.seq #[arg]}).get? e=some (excNew C T):=Heap.get?_push_of_some _ he
 have hd:(excNew C T).data=.fields #[.ref T,.none,.none,.none,.bool false,.none]:=rfl
 have f0:(#[.ref T,.none,.none,.none,.bool false,.none]:Array Value)[0]? =some (.ref T):=rfl
 refine wpAny_bind (wpAny_newObj_type ?_ (by size_fits))
 refine wpAny_bind (wpAny_bind (wpAny_field he' hd f0 (wpAny_bind (wpAny_setField_rec (s:=⟨_,_,_,_,_⟩) he' (by simp) fun h' e1 sb=>?_))))
 repeat wp_step
 exact hq h' _ (by simpa using e1) (fun y o hy e=>(sb.2 y hy).trans (Heap.get?_push_of_some _ e)) (by have:=sb.1;simp only [Heap.size_push] at this;exact o210 this)
end
section
open PySem PySem.W PySem.Calls PyProof.Rows PySem.Builtin PySem.Builtin.ObjectAttr
structure ExcK (prog:Program) (K:Frag):Prop where
 cls:∃nm q bs sn sub ab col dd k0 k1 k2 k3 k5,K.lookup 34=some (excClassObj nm q 34 33 bs bmE true sn sub ab col dd k0 k1 k2 k3 k5 "Exception.__new__")
 ns:∃o es ep,K.lookup 33=some o∧o.data=.dict es ep∧StrKeys es∧nsFind es "__init__" =some (.ref 31)
 sa:findIn K (.ref 34) "__setattr__" =some (some (.builtin "object.__setattr__"))
 ga:findIn K (.ref 34) "__getattribute__" =some (some (.builtin "BaseException.__getattribute__"))
 gt:findIn K (.ref 34) "__getattr__" =some none
 fnum:findIn K (.ref 34) (nm 2)=some none
 ftold:findIn K (.ref 34) (nm 3)=some none
 opq:nsIn K cStatics "thirdparty.any" =some none
section
variable {prog:Program}{w:World}{K:Frag}{A:Around}{E:Value→Shared→Prop}{h:Heap}{g:Array GenState}{d:Drawn}{t:Nat}{os:OsState}{R:Result→Shared→Prop}
theorem ExcK.clsIn (H:ExcK prog K):∃cd,clsIn K 34=some cd∧cd.mro=.ref 34 :: bmE∧cd.hasDict=true:=by
 refine Xd H.cls fun a1 a2 a3 a4 a5 a6 a7 a8 b0 b1 b2 b3 b5 e=>?_
 refine (I12 ({name:=a1,bases:=a3,mro:=.ref 34 :: bmE,ns:=33,qualname:=a2,hasDict:=true,slotNames:=a4,subclasses:=a5,abstract:=a6,collection:=a7,hasDel:=false}) ?_ rfl rfl)
 unfold PySem.W.clsIn;exact er e rfl
theorem exc_osa (H:ExcK prog K)(X:K.In h){x:Addr}{ox:Obj}{od:Option Obj}{name:Str}{v:Value}{tk:Tok}(I:InstAt h x ox 34 od)(hf:findIn K (.ref 34) name=some none)
  (hq:wpAny (model prog w) A.in1 (storeInOwnDict (.ref x) (.ref 34) (.str name tk) name v false)
   (fun fin s'=>match fin with | .done f=>R (.ok f) s' | .again c'=>c'.quiet=true∧codeAny (model prog w) A c' R s') (fun e s'=>R (.error e) s') ⟨h,g,d,t,os⟩) :
  codeAny (model prog w) A (.call (.builtin "object.__setattr__") ⟨[.ref x,.str name tk,v],[]⟩) R ⟨h,g,d,t,os⟩:=by
 refine X12 H.clsIn fun cd hc hm _=>?_
 have SF:=PySem.F.store_object
 have mro:Looks (model prog w) h (mroOf (.ref 34)) (.ref 34 :: bmE):=by
  refine re hm ?_;exact (looks_clsIn X hc).andThen .now
 have isObj:Looks (model prog w) h (isInstance (.ref x) (.type "object")) true:=by
  refine I.type.andThen (looks_mroIn X ?_)
  unfold mroIn
  rw [hc,Option.bind_some,hm]
  exact rfl
 have okArgs:=SF.args (.ref x) (.str name tk) v
 refine codeAny_call_builtin SF.slot.plain SF.entry (@check_slot (model prog w) _ _ ⟨h,g,d,t,os⟩ "object.__setattr__" "object" "__setattr__" (.ref x) [.str name tk,v] [] _ SF.kind SF.split isObj okArgs ?_)
 rw [osa_eq,refuse_eq]
 refine wpAny_bind (wpAny_bind (I.type.here (wpAny_bind (mro.here ?_))))
 rw [refuseLoop_ref,PySem.F.store_Exception.passes]
 refine wpAny_pure (wpAny_bind (I.type.here (wpAny_bind ((looks_findIn X hf).here ?_))))
 refine wpAny_bind (wpAny_of_eq (show storeTaker? none=pure none from rfl) ?_)
 exact hq
noncomputable def DictIs (o:Obj)(ns:List Nat)(vs:List Value):Prop:=∃es k,o=dictOf es k∧Ents ns vs es
theorem store_last {dx:Addr}{od:Obj}{n:Nat}{v:Value}{ns:List Nat}{vs:List Value}{xs:List AV}{tk:Tok}{Q:Fin→Shared→Prop}(hd:h.get? dx=some od)(hn:DictIs od ns vs)(hx:xs.length=vs.length)(hl:ns.length≤50)
  (hq:∀h' od' t',Heap.SameBut dx h h'→h'.get? dx=some od'→DictIs od' (putF n .none ns xs).1 (putV n v ns vs)→Q (.done (.ret .none)) ⟨h',g,d,t',os⟩) :
  wpAny (model prog w) A (storeInDict dx (.str (nm n) tk) (nm n) v) Q E ⟨h,g,d,t,os⟩:=by
 refine X21 hn fun es k q0 en=>?_;subst q0
 refine wpAny_bind (wpAny_pure (wpAny_bind ?_))
 refine nsSet_dict (s:=⟨h,g,d,t,os⟩) hd (by refine er (getL_ents en) ?_;rfl) ?_
 have hu:=Heap.get?_update_self (Obj.putName (nm n) (PyData.keyHash w.params (nm n)) (.str (nm n) t) v) hd (by rw [putName_dict];rfl)
 rw [putName_dict] at hu
 have q1:=putL_ents (n:=n) (hsh:=PyData.keyHash w.params (nm n)) (t:=t) (v:=v) (xs:=xs) (a:=.none) en hx
 have q2:(putL (nm n) (PyData.keyHash w.params (nm n)) (.str (nm n) t) v es).length≤ns.length + 1:=by refine er (ents_len q1) ?_;exact putF_len ..
 refine wpAny_bind (wpAny_lookBehind (s:=⟨_,_,_,_,_⟩) hu (pastItsLine_dict (by refine er List.size_toArray (er sizeLine_eq ?_);exact o31 hl q2)) ?_)
 exact wpAny_pure (hq _ _ _ (Heap.SameBut.update ..) hu (I21 _ _ rfl q1))
theorem store_first (H:ExcK prog K)(X:K.In h){e:Addr}{fs:Array Value}{n:Nat}{v:Value}{Q:Unit→Shared→Prop}(he:h.get? e=some ⟨.ref 34,none,.fields fs,#[]⟩)(hf:findIn K (.ref 34) (nm n)=some none)
  (hq:∀h' od' t',(∀b o,b≠e→h.get? b=some o→h'.get? b=some o)→h.objs.size≤h'.objs.size→h'.get? e=some ⟨.ref 34,some h.objs.size,.fields fs,#[]⟩→h'.get? h.objs.size=some od'→DictIs od' [n] [v]→Q () ⟨h',g,d,t',os⟩) :
  wpAny (model prog w) A (setAttr (.ref e) (nm n) v) Q E ⟨h,g,d,t,os⟩:=by
 refine X12 H.clsIn fun cd hc hm hh=>?_
 have I:InstAt h e ⟨.ref 34,none,.fields fs,#[]⟩ 34 none:=⟨he,rfl,rfl,trivial⟩
 refine set_plain (s:=⟨h,g,d,t,os⟩) X I H.sa (exc_osa H X I hf ?_)
 have ne:e≠h.objs.size:=Nat.ne_of_lt (Heap.lt_size he)
 have he₁:(h.push {cls:=.type "dict",data:=.dict #[]}).get? e=some ⟨.ref 34,none,.fields fs,#[]⟩:=Heap.get?_push_of_some _ he
 refine wpAny_bind (wpAny_pure ?_)
 dsimp only
 refine er (if_neg (by decide)) ?_
 refine wpAny_bind ?_
 show wpAny _ _ (instanceDict e true) _ _ _
 refine wpAny_bind (wpAny_loadPart he ?_)
 dsimp only
 refine wpAny_bind ((looks_clsIn X hc).here ?_)
 refine er hh ?_
 refine er (if_neg (by decide)) (er (if_neg (by decide)) ?_)
 refine wpAny_bind (wpAny_alloc' (wpAny_bind (wpAny_update' he₁ (wpAny_pure ?_))))
 have hgd:((h.push {cls:=.type "dict",data:=.dict #[]}).update e fun o=>{cls:=o.cls,dict:=some h.objs.size,data:=o.data,slots:=o.slots}).get? h.objs.size
   = some {cls:=.type "dict",data:=.dict #[]}:=(Heap.get?_update_ne _ _ _ _ ne.symm).trans (Heap.get?_push_at rfl rfl)
 have hge:((h.push {cls:=.type "dict",data:=.dict #[]}).update e fun o=>{cls:=o.cls,dict:=some h.objs.size,data:=o.data,slots:=o.slots}).get? e
   = some ⟨.ref 34,some h.objs.size,.fields fs,#[]⟩:=Heap.get?_update_self _ he₁ rfl
 have sz:((h.push {cls:=.type "dict",data:=.dict #[]}).update e fun o=>{cls:=o.cls,dict:=some h.objs.size,data:=o.data,slots:=o.slots}).objs.size=h.objs.size + 1:=by
  rw [(Heap.SameBut.update (a:=e) ..).1,Heap.size_push]
 refine store_last (ns:=[]) (vs:=[]) (xs:=[]) hgd (I21 ([]) 0 rfl .nil) rfl (Nat.zero_le _) fun h' od' t' sb ho hd=>?_
 refine hq h' od' t' (fun b o hb q=>?_) (by have:=sb.1;exact o169 sz this) ((sb.2 e ne).trans hge) ho hd
 exact (sb.2 b (Nat.ne_of_lt (Heap.lt_size q))).trans ((Heap.get?_update_ne _ _ _ _ hb).trans (Heap.get?_push_of_some _ q))
theorem store_next (H:ExcK prog K)(X:K.In h){e dx:Addr}{fs:Array Value}{od:Obj}{n:Nat}{v:Value}{ns:List Nat}{vs:List Value}{xs:List AV}{Q:Unit→Shared→Prop}(he:h.get? e=some ⟨.ref 34,some dx,.fields fs,#[]⟩)(hf:findIn K (.ref 34) (nm n)=some none)
  (hd:h.get? dx=some od) (hn:DictIs od ns vs) (hx:xs.length=vs.length) (hl:ns.length≤50)
  (hq:∀h' od' t',Heap.SameBut dx h h'→h'.get? dx=some od'→DictIs od' (putF n .none ns xs).1 (putV n v ns vs)→Q () ⟨h',g,d,t',os⟩) :
  wpAny (model prog w) A (setAttr (.ref e) (nm n) v) Q E ⟨h,g,d,t,os⟩:=by
 refine X12 H.clsIn fun cd hc hm hh=>?_
 have I:InstAt h e ⟨.ref 34,some dx,.fields fs,#[]⟩ 34 (some od):=⟨he,rfl,rfl,hd⟩
 refine set_plain (s:=⟨h,g,d,t,os⟩) X I H.sa (exc_osa H X I hf ?_)
 refine wpAny_bind (wpAny_pure ?_)
 dsimp only
 refine er (if_neg (by decide)) ?_
 refine wpAny_bind ?_
 show wpAny _ _ (instanceDict e true) _ _ _
 refine wpAny_bind (wpAny_loadPart he ?_)
 dsimp only
 refine wpAny_bind ((looks_clsIn X hc).here ?_)
 refine er hh ?_
 refine er (if_neg (by decide)) ?_
 exact wpAny_pure (store_last hd hn hx hl hq)
end
end
section
open PySem PySem.W PySem.Calls PyProof.Rows PySem.Builtin PySem.Builtin.ObjectAttr
def initBody (P:Nat→Pos):List PySem.Stmt:=
 [.Expr (.Call (.Attribute (.Call (.Name (nm 6) (P 0)) [] [] (P 1)) (nm 4) (P 2)) (decs [.cst (.lit 7) (P 3)]) [] (P 4)) (P 5),
   .Assign [.Attribute (.Name (nm 1) (P 6)) (nm 2) (P 7)] (.Name (nm 2) (P 8)) (P 9),
   .Assign [.Attribute (.Name (nm 1) (P 10)) (nm 3) (P 11)] (.Name (nm 3) (P 12)) (P 13)]
structure InitFd (prog:Program) (K:Frag) (fd:FuncData):Prop where
 at_:K.lookup 31=some ⟨.type "function",none,.func fd,#[]⟩
 body:∃P:Nat→Pos,Nat.beq (P 2).endLine (P 4).line=true∧fd.body=.stmts (initBody P)
 par:∃ar,(fd.params.posonlyargs ++ fd.params.args).head? =some ar∧ar.arg=nm 1
 code:∃cd c d vs sl file tf,fd.code=.ref cd∧K.lookup cd=some ⟨c,d,.fields vs,sl⟩∧vs[2]? =some (.str file tf)∧((prog.main.file:Str) == file)=true
 crec:codeIn K fd.code fd.qualname=true
 glo:fd.globals=mainGlobals
 blt:fd.builtins=builtinsNs
 kind:fd.scope.kind=.function
 gen:fd.scope.isGenerator=false
 co:fd.scope.isCoroutine=false
 ncel:∀x∈fd.scope.names,x.2≠.cell
 k1:fd.scope.names.lookup (nm 1)=some .local
 k2:fd.scope.names.lookup (nm 2)=some .local
 k3:fd.scope.names.lookup (nm 3)=some .local
 k5:fd.scope.names.lookup (nm 5)=some .free
 k6:fd.scope.names.lookup (nm 6)=some .globalImplicit
 clo:fd.closure.lookup (nm 5)=some 18
 bind1:∃t,∀a b s,K.In s.heap→BindsTo s fd ⟨[a,b],[]⟩ [(nm 1,a),(nm 2,b),(nm 3,t)]
 bind2:∀a b t s,K.In s.heap→BindsTo s fd ⟨[a,b,t],[]⟩ [(nm 1,a),(nm 2,b),(nm 3,t)]
structure InitK (prog:Program) (K:Frag):Prop extends ExcK prog K where
 init:∃fd,InitFd prog K fd
 cell:∃c d s,K.lookup 18=some ⟨c,d,.cell (some (.ref 34)),s⟩
 sup:nsIn K mainGlobals (nm 6)=some none
 top:(prog.main.scope.names.lookup ("super" :Str)).isSome=false
section
variable {prog:Program}{w:World}{K:Frag}{A:Around}{E:Value→Shared→Prop}{h:Heap}{g:Array GenState}{d:Drawn}{t:Nat}{os:OsState}{R:Result→Shared→Prop}
theorem gname {M:Model}{s:Shared}{env:Env}{y:Str}{Q:Value→Shared→Prop}(hk:env.scope.kind=.function)(hy:env.kindOf y=some .globalImplicit)(hq:wpAny M A (loadGlobal env y) Q E s):wpAny M A (loadName env y) Q E s:=by
 unfold loadName
 simp only [Env.blockKind,hk,hy,ScopeKind.isAnnotationScope,Bool.false_and,Bool.false_eq_true,if_false]
 exact hq
theorem at_meth {M:Model}{C:Code}{s:Shared}{o:PySem.Expr}{m:Str}{as:List Mine.E}{env:Env}{ap p:Pos}{Q:Value→Shared→Prop}(hl:as.length≤5)(hp:Nat.beq ap.endLine p.line=true)
  (hq:PySem.wpAt M A C (attributeBase o m env (eval o env)) (fun ov s₁=>wpAny M A (getMethod ov m (do return (←importBound o env).getD true)) (fun fx s₂=>wpAny M A (callWith p fx.1 fx.2 (backTo p (starEach (decs as) env)) []) Q E s₂) E s₁) E s) :
  PySem.wpAt M A C (eval (.Call (.Attribute o m ap) (decs as) [] p) env) Q E s:=by
 rw [arm_eval_Call]
 refine PySem.wpAt_bind (ks_wpAt_mono hq (fun ov s₁ h₁=>wpAt_of_wpAny (wpAny_bind (wpAny_standAt ?_))) fun _ _ x=>x)
 --(fun ov s₁ h₁=>wpAt_of_wpAny (wpAny_bind (wpAny_standAt ?_))) fun _ _ x=>x)
 unfold methodCall
 have few:methodCallForm ((decs as).length + List.length ([]:List Keyword)) (backTo p (starEach (decs as) env)) (backToKw p (keywordEach [] env))=true:=by
  unfold methodCallForm
  rw [(star_all env p as).2,decs_len]
  simp only [Bool.true_and,Bool.and_eq_true,decide_eq_true_eq]
  refine ⟨rfl,?_⟩
  show as.length + 0 + 0 < 30
  exact o26 hl
 refine er few ?_
 refine wpAny_bind (wpAny_holding (wpAny_mono h₁ (fun fx s₂ h₂=>?_) fun _ _ x=>x))
 have pe:methodCallPos true o env ap p=pure p:=by
  unfold methodCallPos
  have:(ap.endLine == p.line)=true:=by refine er (Nat.eq_of_beq_eq_true hp) ?_;simp
  simp [this]
 refine er pe ?_
 exact wpAny_bind (wpAny_pure h₂)
theorem snob_init (H:InitK prog K){e T:Addr}{num:Value}{rest:List Value}{Q:Value→Shared→Prop}(hroom:A.depth < recursionLimit)(X:K.In h)(lim:h.NoLimit)(hg:∃mg,h.Ns mainGlobals mg)
  (hb:∃mb,h.Ns builtinsNs mb∧∀x:Str,x≠ "__name__"→mb x=bootBuiltins x) (he:h.get? e=some (excNew 34 T)) (hKe:∀a o,K.lookup a=some o→a≠e) (hargs:rest= [num]∨∃b,rest= [num,b])
  (hq:∀h' tk dx od T' v,(∀b o,b≠e→h.get? b=some o→h'.get? b=some o)→h.objs.size≤h'.objs.size→h.objs.size≤dx→h'.get? e=some ⟨.ref 34,some dx,.fields #[.ref T',.none,.none,.none,.bool false,.none],#[]⟩→
   h'.get? dx=some od→DictIs od [2,3] [num,v]→Q .none ⟨h',g,d,tk,os⟩) :
  wpAny (model prog w) A (call (.ref 31) (.ref e :: rest)) Q E ⟨h,g,d,t,os⟩:=by
 refine X1 H.init fun fd F=>?_
 refine X11 F.body fun P hpos hbody=>?_
 refine X11 F.par fun ar par1 par2=>?_
 refine X3 F.code fun cda cc1 cc2 q0=>?_;refine X43 q0 fun vs cc3 file tf c1 c2 c3 c4=>?_
 refine Xd H.cls fun a1 a2 a3 a4 a5 a6 a7 a8 b0 b1 b2 b3 b5 hC=>?_
 refine X1 hg fun mg hmg=>?_
 refine X11 hb fun mb hmb hbb=>?_
 refine X3 H.cell fun y1 y2 y3 hcel=>?_
 have ⟨tv,hbind⟩:∃tv,BindsTo ⟨h,g,d,t,os⟩ fd ⟨.ref e :: rest,[]⟩ [(nm 1,.ref e),(nm 2,num),(nm 3,tv)]:=by
  rcases hargs with rfl | ⟨b,rfl⟩
  ·refine X1 F.bind1 fun tv q=>?_
   exact ⟨tv,q _ _ _ X⟩
  ·exact ⟨b,F.bind2 _ _ _ _ X⟩
 refine wpAny_call (ks_codeAny_call_defAt (s:=⟨h,g,d,t,os⟩) (fd:=fd) (body:=initBody P) hroom (X _ _ F.at_) rfl lim (codeRec_of X F.crec) hbody hbind F.ncel (fun y hy=>?_) (fun h₀ hns k₀=>?_) F.co F.gen F.kind)
 ·simp only [List.mem_cons,List.not_mem_nil,or_false] at hy
  rcases hy with rfl | rfl | rfl
  ·exact F.k1
  ·exact F.k2
  ·exact F.k3
 have X₀:K.In h₀:=X.keeps k₀
 have he₀:=k₀ _ _ he
 have hL:h.objs.size < h₀.objs.size:=by refine X31 hns fun o _ _ q _=>?_;exact Heap.lt_size q
 have hk:(callEnv fd h.objs.size 31).scope.kind=.function:=F.kind
 have e1: [(nm 1,Value.ref e),(nm 2,num),(nm 3,tv)].reverse.lookup (nm 1)=some (.ref e):=by
  simp [List.lookup,show (nm 1 == nm 3)=false by decide +kernel,show (nm 1 == nm 2)=false by decide +kernel]
 have e2: [(nm 1,Value.ref e),(nm 2,num),(nm 3,tv)].reverse.lookup (nm 2)=some num:=by
  simp [List.lookup,show (nm 2 == nm 3)=false by decide +kernel]
 have e3: [(nm 1,Value.ref e),(nm 2,num),(nm 3,tv)].reverse.lookup (nm 3)=some tv:=by
  simp [List.lookup]
 have ne34:e≠34:=by
  rintro rfl
  rw [X _ _ hC] at he
  cases Option.some.inj he
 refine ks_wpAt_execs_cons (ks_wpAt_Expr_any (at_meth (as:=[.cst (.lit 7) (P 3)]) (Nat.le_of_ble_eq_true rfl) hpos ?_) ?_ ?_)
 ·refine ks_wpAt_super_base (env:=callEnv fd h.objs.size 31) F.k6 F.k5 (by decide +kernel) rfl (X₀ _ _ F.at_) rfl par1 c1 (X₀ _ _ c2) rfl c3 c4 H.top ?_
  refine gname (env:=callEnv fd h.objs.size 31) hk F.k6 (loadGlobal_builtin (by show Heap.Ns h₀ fd.globals mg;refine er F.glo ?_;exact hmg.keeps k₀) (ns_none_of X hmg H.sup) (by show Heap.Ns h₀ fd.builtins mb;refine er F.blt ?_;exact hmb.keeps k₀) ((hbb _ (by decide +kernel)).trans (show bootBuiltins (nm 6)=some (.type "super") by kernel_rfl)) ⟨rfl,?_⟩)
  refine wpAny_loadName_free hk F.k5 F.clo (I11 _ (X₀ _ _ hcel) rfl) ?_
  refine er par2 ?_
  refine wpAny_loadName_local hk F.k1 hns e1 ?_
  refine ks_wpAny_isType_cls (X₀ _ _ hC) rfl ⟨rfl,?_⟩
  refine ks_wpAny_call_super (X₀ _ _ hC) rfl he₀ rfl (fun c q=>by cases q) (fun A Q E s k q=>wpAny_isSubtype_exc (k _ _ (X₀ _ _ hC)) ((show (Value.ref 34 :: bmE).contains (.ref 34)=true by simp).symm▸q)) fun h₁ so k₁=>?_
  have X₁:=X₀.keeps k₁
  refine super_method so (X₁ _ _ hC) (looks_opaque X₁ H.opq) (k₁ _ _ he₀) rfl ne34 ?_
  have b:(h₁.push {cls:=.type "method-wrapper",data:=.fields #[.builtin "Exception.__init__",.ref e]}).get? h₁.objs.size=some {cls:=.type "method-wrapper",dict:=none,data:=.fields #[.builtin "Exception.__init__",.ref e],slots:= #[]}:=Heap.get?_push_at rfl rfl
  have k₂:∀y o,h₁.get? y=some o→(h₁.push {cls:=.type "method-wrapper",data:=.fields #[.builtin "Exception.__init__",.ref e]}).get? y=some o:=fun y o q=>Heap.get?_push_of_some _ q
  refine callWith_of (P:=fun h'=>h'.get? h₁.objs.size=some {cls:=.type "method-wrapper",dict:=none,data:=.fields #[.builtin "Exception.__init__",.ref e],slots:= #[]}) (by refine er ((star_all (callEnv fd h.objs.size 31) _ [.cst (.lit 7) (P 3)]).1) ?_;rfl)
   (fun h' hh=>(I11 .machine (.inr (.inl rfl)) ((Looks.ld (part:=none) hh).andThen .now))) (args_any ?_)
  rw [star_cons]
  refine spliced_cons ?_
  refine er (show dec (.cst (.lit 7) (P 3))=.Constant (.str (nm 7)) 0 (P 3) from rfl) ?_
  refine wpAny_Constant_str (pos:=P 3) (k:=0) ?_
  refine spliced_nil ⟨b,?_⟩
  refine init_bound b (k₂ _ _ (X₁ _ _ hC)) (k₂ _ _ (k₁ _ _ he₀)) fun h₃ T' he₃ k₃ sz₃=>?_
  have up:∀b o,b≠e→h.get? b=some o→h₃.get? b=some o:=fun b o hb q=>k₃ _ _ hb (k₂ _ _ (k₁ _ _ (k₀ _ _ q)))
  have kne:∀a o,K.lookup a=some o→a≠e:=fun a o q z=>hKe a o q z
  have X₃:K.In h₃:=fun a o q=>up a o (kne a o q) (X _ _ q)
  have hns₃:h₃.Ns h.objs.size (fun x=>[(nm 1,Value.ref e),(nm 2,num),(nm 3,tv)].reverse.lookup x):=by
   refine X31 hns fun o es ep z1 z2=>?_
   exact (I31 o es ep (k₃ _ _ (Nat.ne_of_gt (Heap.lt_size he)) (k₂ _ _ (k₁ _ _ z1))) z2)
  have hsz₃:h.objs.size < h₃.objs.size:=by refine X31 hns₃ fun o es ep z1 _=>?_;exact Heap.lt_size z1
  refine wpAt_of_wpAny (wpAny_execs_cons (plainObj_wpAny_Assign_Attribute ?_ rfl))
  refine wpAny_Name (wpAny_loadName_local hk F.k2 hns₃ e2 ?_) nm_ne.1
  refine wpAny_Name (wpAny_loadName_local hk F.k1 hns₃ e1 ?_) nm_ne.1
  refine store_first H.toExcK X₃ he₃ H.fnum fun h₄ od t₄ k₄ sz₄ he₄ hd₄ hdi=>?_
  have X₄:K.In h₄:=fun a o q=>k₄ a o (kne a o q) (X₃ _ _ q)
  have hns₄:h₄.Ns h.objs.size (fun x=>[(nm 1,Value.ref e),(nm 2,num),(nm 3,tv)].reverse.lookup x):=by
   refine X31 hns₃ fun o es ep z1 z2=>?_
   exact (I31 o es ep (k₄ _ _ (Nat.ne_of_gt (Heap.lt_size he)) z1) z2)
  refine wpAny_execs_cons (plainObj_wpAny_Assign_Attribute ?_ rfl)
  refine wpAny_Name (wpAny_loadName_local hk F.k3 hns₄ e3 ?_) nm_ne.1
  refine wpAny_Name (wpAny_loadName_local hk F.k1 hns₄ e1 ?_) nm_ne.1
  have ne₃:e≠h₃.objs.size:=Nat.ne_of_lt (Heap.lt_size he₃)
  refine store_next H.toExcK X₄ (xs:=[.none]) he₄ H.ftold hd₄ hdi rfl (by decide) fun h₅ od' t₅ sb ho₅ hd₅=>?_
  refine wpAny_execs_nil ?_
  refine hq h₅ t₅ h₃.objs.size od' T' tv (fun b o hb q=>?_) (by have:=sb.1;exact o93 hsz₃ sz₄ this) (o94 hsz₃) ((sb.2 e ne₃).trans he₄) ho₅ hd₅
  have lt:b < h₃.objs.size:=Nat.lt_trans (Heap.lt_size q) hsz₃
  exact (sb.2 b (Nat.ne_of_lt lt)).trans (k₄ _ _ hb (up _ _ hb q))
 ·unfold interactive;refine er hk ?_;rfl
 ·rfl
end
end
section
open PySem PySem.W PySem.Calls PyProof.Rows PySem.Builtin PySem.Builtin.ObjectAttr
section
variable {nm' q:Str}{C N:Addr}{bs bm:List Value}{hdct:Bool}{sn:List Str}{sub:List Value}{ab:Bool}{col:Option Bool}{dd:Option Addr}{k0 k1 k2 k3 k5:Option Value}{newId:String}
variable {M:Model}{A:Around}{E:Value→Shared→Prop}{env:Env}
theorem raise_made {s:Shared}{x:Sem Value}{Q:Flow→Shared→Prop}(hbase:bm.contains (.type "BaseException")=true)(hh:A.handled=none)
  (h:wpAny M A x (fun v s₁=>∃e t dx,v=.ref e∧s₁.heap.get? C=some (excClassObj nm' q C N bs bm hdct sn sub ab col dd k0 k1 k2 k3 k5 newId)∧
   s₁.heap.get? e=some {cls:=.ref C,dict:=dx,data:=.fields #[.ref t,.none,.none,.none,.bool false,.none]}∧E (.ref e) s₁) E s) :
  wpAny M A (raiseStmt env (some x) none) Q E s:=by
 have hcB:(Value.ref C :: bm).contains (.type "BaseException")=true:=by rw [List.contains_cons,hbase,Bool.or_true]
 refine wpAny_bind (wpAny_mono h (fun v s₁ h₁=>?_) fun _ _ x=>x)
 refine X33 h₁ fun e t dx q0 hC he hE=>?_;subst q0
 obtain ⟨hp,g,d,tk,os⟩:=s₁
 repeat (first | with_reducible refine wpAny_loadPart_at he ?_ | with_reducible refine wpAny_loadPart_at hC ?_ | (with_reducible refine wpAny_isSubtype_exc hC ?_;rw [hcB]) | wp_step)
 exact wpAny_raiseNew_none hh hE
end
section
variable {prog:Program}{w:World}{K:Frag}{c:Cf}{n:Nat}{X:Value→Shared→Prop}{s:Shared}{Z:Heap}{ad:List Addr}{x:Fx}{σ:St}
theorem raiA_vals {as:List AV}{vs:List Value}{i:Int}(h:raiA as=some i)(hv:Vals prog w Z ad as vs):∃t,vs= [.int i t]∨∃b,vs= [.int i t,b]:=by
 cases as with
 | nil=>exact noS h
 | cons a r=>
  refine oB h fun j ej h=>cC h (fun hl h=>X22 hv.inv fun v us q h1 r1=>X1 (int_val h1 ej) fun t q1=>⟨t,?_⟩) fun _ h=>noS h
  refine er q (er q1 (er (Option.some.inj h) ?_))
  cases r with
  | nil=>exact .inl (congrArg _ (show us= [] from r1.inv))
  | cons b r=>
   cases r with
   | nil=>exact X22 r1.inv fun u us' q2 h2 r2=>.inr ⟨u,congrArg _ (q2.trans (congrArg _ (show us'= [] from r2.inv)))⟩
   | cons=>exact noB hl
theorem t_rais (G:Good K)(H:InitK prog K)(hlim:c.lim≤recursionLimit)(I:Snd prog w K c n){k:Nat}{cp q p:Pos}{as:List E}{r:Out×St}{Q:Flow→Shared→Prop}(O:x.Ok)(B':x.A.depth + (n + 1) < c.lim)(hr:evSt c (ev c n) (.rais k cp as q p) σ=some r)(ob:AllP r.2.obl)(S:Sit prog w K x σ Z ad s.heap)(h:RF prog w K x Z ad s r Q X) :
  wpAny (model prog w) x.A (exec (decS (.rais k cp as q p)) x.env) Q X s:=by
 show wpAny _ _ (PySem.exec (.Raise _ _ _) _) _ _ _
 have B:x.A.depth + n < c.lim:=Nat.le_of_lt B'
 refine gG2 hr fun hk hz hr9=>?_
 ·cases Nat.eq_of_beq_eq_true hz
  refine Xd H.cls fun a1 a2 a3 a4 a5 a6 a7 a8 b0 b1 b2 b3 b5 hC=>?_
  refine X33 H.ns fun on es ep hn1 hn2 hn3 hn4=>?_
  refine X1 H.init fun fd F=>?_
  rw [arm_exec_Raise]
  refine wpAny_bind (wpAny_standAt ?_)
  show wpAny _ _ (raiseStmt x.env (some (do let v ←eval (.Call (.Name (nm (cnm 0)) cp) (decs as) [] q) x.env;standAt p;pure v)) none) _ _ _
  refine raise_made (C:=34) (N:=33) (nm':=a1) (q:=a2) (bs:=a3) (bm:=bmE) (hdct:=true) (sn:=a4) (sub:=a5) (ab:=a6) (col:=a7) (dd:=a8) (k0:=b0) (k1:=b1) (k2:=b2) (k3:=b3) (k5:=b5) (newId:= "Exception.__new__") (rfl) O.hh ?_
  refine wpAny_bind (wpAny_mono (Q:=fun v s₁=>∃e t dx,v=.ref e∧s₁.heap.get? 34=some (excClassObj a1 a2 34 33 a3 bmE true a4 a5 a6 a7 a8 b0 b1 b2 b3 b5 "Exception.__new__")∧
   s₁.heap.get? e=some {cls:=.ref 34,dict:=dx,data:=.fields #[.ref t,.none,.none,.none,.bool false,.none]}∧X (.ref e) s₁) (E:=X) ?_ (fun v s₃ h₃=>wpAny_bind (wpAny_standAt (wpAny_pure h₃))) fun _ _ x=>x)
  refine wpAny_Call_NameR (r_top O S hk (G.gcl 0 (Nat.zero_le _)) (callK (G.kcl 0 (Nat.zero_le _)) ?_))
  refine b_exs I O B hr9 ob S resF h fun as' σ₁ r Z' ad' h' tk vs ob hk' sub pr S' hv hP=>?_
  have KI:=S'.stat.kin.keeps S'.hs.zsub
  refine ⟨KI,?_⟩
  refine oM hk' fun i ei hr'=>?_
  subst hr'
  refine X1 (raiA_vals ei hv) fun ti hvs=>?_
  have hns:h'.Ns 33 (fun y=>nsFind es y):=(I33 on es ep (KI _ _ hn1) hn2 hn3 (fun _=>rfl))
  refine wpAny_call_exc_init (hrest:=by rcases hvs with rfl | ⟨b,rfl⟩ <;> (rw [sizeLine_eq];simp)) PySem.F.excBase_Exception (KI _ _ hC) hns hn4 (KI _ _ F.at_) rfl fun h₁ e hm=>?_
  refine X12 hm.there fun T he _ _=>?_
  refine X1 S'.stat.glo fun mg hg=>?_
  refine X11 S'.stat.blt fun mb hb hbb=>?_
  have hold:∀a o,h'.get? a=some o→a≠e:=fun a o q z=>by subst z;rw [hm.new] at q;cases q
  refine snob_init (num:=.int i ti) H (by show x.A.depth + 1 < recursionLimit;exact o117 hlim B') (KI.keeps hm.keeps) ((S'.stat.lim.keeps S'.hs.zsub).keeps hm.keeps) ⟨mg,(hg.keeps S'.hs.zsub).keeps hm.keeps⟩ (I11 mb ((hb.keeps S'.hs.zsub).keeps hm.keeps) hbb) he
   (fun a o q=>hold a o (KI _ _ q)) (by rcases hvs with rfl | ⟨b,rfl⟩ <;> simp) fun h₂ tk₂ dx od T' v keep grow hdx he₂ hd₂ hdi=>⟨rfl,?_⟩
  have keep':∀b o,h'.get? b=some o→h₂.get? b=some o:=fun b o q=>keep b o (hold b o q) (hm.keeps _ _ q)
  have S₂:Sit prog w K x σ₁ Z' ad' h₂:=S'.ext fun b o _ q=>keep' b o q
  have ge:∀b,h₁.objs.size≤b→h'.get? b=none:=fun b hb=>by
   cases z:h'.get? b with
   | none=>rfl
   | some o=>exact absurd (Heap.lt_size (hm.keeps _ _ z)) (Nat.not_lt.mpr hb)
  have nspec:∀b,h'.get? b=none→b ∉ spec x.env.locals x.pin ad':=fun b q m=>by
   refine X1 (S'.hs.ex b m) fun o z=>?_
   rw [q] at z;cases z
  have nZ:Z'.get? e=none:=by
   cases z:Z'.get? e with
   | none=>rfl
   | some o=>have:=S'.hs.zsub _ _ z;rw [hm.new] at this;cases this
  have nde:dx≠e:=fun z=>Nat.lt_irrefl _ (Nat.lt_of_lt_of_le (Heap.lt_size he) (z▸hdx))
  refine X21 hdi fun es' n' q0 en=>?_;subst q0
  refine (I33 e T' (some dx) rfl (keep' _ _ (KI _ _ hC)) he₂ ?_)
  refine hP Z' ad' h₂ tk₂ (Sub.refl _) (Pre.refl _) S₂ e (I0245 (nspec e hm.new) nZ dx _ _ _ he₂ (nspec dx (ge dx hdx)) nde hd₂ ⟨es',n',ti,rfl,?_⟩ (.inl rfl))
  refine er (getL_ents en) ?_;rfl
theorem snd_st (G:Good K)(H:InitK prog K)(hlim:c.lim≤recursionLimit)(I:Snd prog w K c n){t:S}{r:Out×St}{Q:Flow→Shared→Prop}(O:x.Ok)(B':x.A.depth + (n + 1) < c.lim)(hr:step c (ev c n) (.st t) σ=some r)(ob:AllP r.2.obl)
  (S:Sit prog w K x σ Z ad s.heap) (h:RF prog w K x Z ad s r Q X):wpAny (model prog w) x.A (exec (decS t) x.env) Q X s:=by
 have B:x.A.depth + n < c.lim:=Nat.le_of_lt (by assumption)
 replace hr:evSt c (ev c n) t σ=some r:=hr
 cases t with
 | expr e p=>exact t_expr I O B hr ob S h
 | ret e p=>exact t_ret I O B hr ob S h
 | pass p=>
  cases hr
  exact wpAny_Pass (h Z ad s.heap s.toks (Sub.refl Z) (Pre.refl ad) S)
 | asg y yp e p=>exact t_asg I O B hr ob S h
 | asc y yp e p=>exact t_asc I O B hr ob S h
 | asa o a ap e p=>exact t_asa G I O B hr ob S h
 | ass o i sp e p=>exact t_ass I O B hr ob S h
 | ast ts k tp e p=>exact t_ast I O B hr ob S h
 | aug y yp e p=>exact t_aug I O B hr ob S h
 | ifs t b o p=>exact t_ifs I O B hr ob S h
 | whl t b p=>exact t_whl I O B hr ob S h
 | rais k cp as q p=>exact t_rais G H hlim I O B' hr ob S h
 | forl=>exact noS hr
 | forp=>exact noS hr
 | tryx=>exact noS hr
 | defn=>exact noS hr
theorem sound (G:Good K)(H:InitK prog K)(HC:Contracts prog w K c)(hlim:c.lim≤recursionLimit)(n:Nat):Snd prog w K c n:=by
 induction n using Nat.strongRecOn with
 | _ n ih=>
  cases n with
  | zero=>constructor <;> (intros;first | (rename_i e _ _ _;exact noS e;done) | (rename_i e _ _ _ _;exact noS e;done) | (rename_i e _ _ _ _ _;exact noS e;done))
  | succ n=>
   have I:=ih n (Nat.lt_succ_self _)
   constructor
   ·intro x e σ r Z ad s Q X O B hr ob S h;exact fin_e hr ob fun q b hr ob _ e=>snd_ex G I O B hr ob S.ob (h.ob e)
   ·intro x e p σ r Z ad s Q X O B hr ob S h;exact fin_e hr ob fun q b hr ob _ e=>snd_exs I O B hr ob S.ob (h.ob e)
   ·intro x e σ r Z ad s Q X O B hr ob S h;exact fin_e hr ob fun q b hr ob _ e=>snd_tr I O B hr ob S.ob (h.ob e)
   ·intro x k e σ r Z ad s Q X O B hr ob S h;cases k <;> exact fin_e hr ob fun q b hr ob _ e=>snd_trs I O B hr ob S.ob (h.ob e)
   ·intro x e σ r Z ad s Q X O B hr ob S h;exact fin_e hr ob fun q b hr ob _ e=>snd_st G H hlim I O B hr ob S.ob (h.ob e)
   ·intro x e σ r Z ad s Q X O B hr ob S h;exact fin_e hr ob fun q b hr ob _ e=>snd_sts I O B hr ob S.ob (h.ob e)
   ·intro x A f fa as vs cl σ r Z ad s R O hA hh B hr ob S hv hF h;exact fin_e hr ob fun q b hr ob _ e=>snd_cal HC hlim I O hA hh B hr ob S.ob hv hF (h.ob e)
   ·intro x ts as vs σ r Z ad s Q X O B hr ob S hv h;exact fin_e hr ob fun q b hr ob _ e=>snd_asn G I O B hr ob S.ob hv (h.ob e)
   ·intro x t b σ r Z ad s Q X O B hr ob S h;exact snd_whl (fun m hm=>ih m (Nat.lt_succ_of_le hm)) O B hr ob S h
end
end
section
variable {prog:Program}{w:World}{K:Frag}{A:Around}{X:Value→Shared→Prop}{s:Shared}
theorem get_exc (H:ExcK prog K)(KI:K.In s.heap){x:Addr}{ox od:Obj}{name:Str}{v:Value}{expr:Bool}{Q:Value→Shared→Prop}(I:InstAt s.heap x ox 34 (some od))(hga:findIn K (.ref 34) "__getattribute__" =some (some (.builtin "BaseException.__getattribute__")))(hgt:findIn K (.ref 34) "__getattr__" =some none)
  (hf:findObj K 34 (some od) name=some (.value v)) (hh:handedIn v=true) (h:∀tk,Q v {s with toks:=tk}):wpAny (model prog w) A (getAttr (.ref x) name expr) Q X s:=by
 refine Xd H.cls fun a1 a2 a3 a4 a5 a6 a7 a8 b0 b1 b2 b3 b5 e=>?_
 have hC:=KI _ _ e
 obtain ⟨hp,g,d,t,os⟩:=s
 dsimp only at hC KI I h
 have hx:=I.at_
 have hc:=I.cls
 have L0:=I.type (M:=model prog w)
 have L1:=looks_findIn (M:=model prog w) KI hga
 have L2:=looks_findIn (M:=model prog w) KI hgt
 have L3:=looks_find (M:=model prog w) KI I hf
 have FB:=PySem.F.attrBase_Exception
 have f3:=FB.ga.bind (.ref x)
 refine wpAny_bind (wpAny_mkText (wpAny_holding (wpAny_bind (L0.at (wpAny_bind (L1.at ?_))))))
 have hx2:(onTheHeap (Value.ref 34) && Value.builtin "BaseException.__getattribute__" == Value.builtin "object.__getattribute__")=false:=by decide +kernel
 dsimp only
 refine er (if_neg (by rw [hx2];decide)) ?_
 unfold getAttrByItsOwn hookBefore
 refine wpAny_bind ?_
 refine er (if_pos (show onTheHeap (Value.ref 34)=true from rfl)) ?_
 refine L2.at ?_
 have hx0:(expr && onTheHeap (Value.builtin "BaseException.__getattribute__"))=false:=by cases expr <;> rfl
 repeat (any_goals (first | assumption | wp_step))
 refine codeAny_call_builtin FB.ga.plain PySem.F.entry_bexc_ga (wpAny_check_ga_own FB hC .base hx hc ?_)
 refine wpAny_bind (wpAny_pure (wpAny_bind (wpAny_pure (wpAny_bind (L0.at (wpAny_bind (L3.at ?_)))))))
 refine wpAny_pure ?_
 show wpAny _ _ (handedOut v) _ _ _
 refine er (handedOut_of hh) ?_
 exact wpAny_pure (h _)
end
noncomputable abbrev HL:=List (Option (Tg×List AV))
mutual
inductive Fz (n0:Nat) (H:HL):AV→AV→Prop
 | none:Fz n0 H .none .none
 | bool {b:Bool}:Fz n0 H (.bool b) (.bool b)
 | int {i:Int}:Fz n0 H (.int i) (.int i)
 | lit {k:Nat}:Fz n0 H (.lit k) (.lit k)
 | str {s:Str}:Fz n0 H (.str s) (.str s)
 | lits {k:Nat}:Fz n0 H (.lit k) (.str (nm k))
 | kls {k:Nat}:Fz n0 H (.kls k) (.kls k)
 | raw {v:Value}:Fz n0 H (.raw v) (.raw v)
 | low {r:Nat} (h:Nat.blt r n0=true):Fz n0 H (.ref r) (.ref r)
 | ref {r:Nat} {t:Tg} {xs ys:List AV} (g:Nat.ble n0 r=true) (e:getH H r=some (t,xs)) (s:FzL n0 H xs ys):Fz n0 H (.ref r) (.nd t ys)
 | nd {t:Tg} {xs ys:List AV} (s:FzL n0 H xs ys):Fz n0 H (.nd t xs) (.nd t ys)
inductive FzL (n0:Nat) (H:HL):List AV→List AV→Prop
 | nil:FzL n0 H [] []
 | cons {x y:AV} {xs ys:List AV} (h:Fz n0 H x y) (r:FzL n0 H xs ys):FzL n0 H (x :: xs) (y :: ys)
end
noncomputable def Fro (a:AV):Prop:=Fz 0 [] a a
noncomputable def FroL (a:List AV):Prop:=FzL 0 [] a a
theorem Fz.up {n0:Nat}{H:HL}{a b:AV}(h:Fz 0 [] a b):Fz n0 H a b:=
 Fz.rec (motive_1:=fun a b _=>Fz n0 H a b) (motive_2:=fun a b _=>FzL n0 H a b) .none .bool .int .lit .str .lits .kls .raw (fun h=>absurd (Nat.le_of_ble_eq_true h) (Nat.not_succ_le_zero _)) (fun _ e _ _=>by exact noS e) (fun _=>.nd) .nil (fun _ _=>.cons) h
theorem FzL.up {n0:Nat}{H:HL}{a b:List AV}(h:FzL 0 [] a b):FzL n0 H a b:=
 FzL.rec (motive_1:=fun a b _=>Fz n0 H a b) (motive_2:=fun a b _=>FzL n0 H a b) .none .bool .int .lit .str .lits .kls .raw (fun h=>absurd (Nat.le_of_ble_eq_true h) (Nat.not_succ_le_zero _)) (fun _ e _ _=>by exact noS e) (fun _=>.nd) .nil (fun _ _=>.cons) h
theorem Fro.fz {n0:Nat}{H:HL}{a:AV}(h:Fro a):Fz n0 H a a:=Fz.up h
theorem FroL.fz {n0:Nat}{H:HL}{a:List AV}(h:FroL a):FzL n0 H a a:=FzL.up h
theorem FzL.append {n0:Nat}{H:HL}{a b c d:List AV}(h:FzL n0 H a b)(k:FzL n0 H c d):FzL n0 H (a ++ c) (b ++ d):=by
 induction a generalizing b with
 | nil=>cases h;exact k
 | cons x a ih=>cases h with | cons h r=>exact .cons h (ih r)
theorem FroL.append {a b:List AV}(h:FroL a)(k:FroL b):FroL (a ++ b):=FzL.append h k
theorem FroL.of {a:List AV}(h:∀x∈a,Fro x):FroL a:=by
 induction a with
 | nil=>exact .nil
 | cons x a ih=>exact .cons (h x (.head _)) (ih fun y m=>h y (.tail _ m))
inductive FzC (n0:Nat) (H:HL):HL→HL→Prop
 | nil {l:HL}:FzC n0 H l []
 | cons {t:Tg} {xs ys:List AV} {l m:HL} (h:FzL n0 H xs ys) (r:FzC n0 H l m):FzC n0 H (some (t,xs) :: l) (some (t,ys) :: m)
 | drop {c:Option (Tg×List AV)} {l m:HL} (r:FzC n0 H l m):FzC n0 H (c :: l) (none :: m)
theorem FzC.get {n0:Nat}{H l m:HL}(h:FzC n0 H l m){r:Nat}{t:Tg}{ys:List AV}(e:getH m r=some (t,ys)):∃xs,getH l r=some (t,xs)∧FzL n0 H xs ys:=by
 induction h generalizing r with
 | nil=>exact noS e
 | cons h _ ih=>
  cases r with
  | zero=>cases e;exact ⟨_,rfl,h⟩
  | succ r=>exact ih e
 | drop _ ih=>
  cases r with
  | zero=>exact noS e
  | succ r=>exact ih e
inductive FzN (n0:Nat) (H:HL):List (Nat×AV)→List (Nat×AV)→Prop
 | nil {l:List (Nat×AV)}:FzN n0 H l []
 | cons {n:Nat} {a b:AV} {l m:List (Nat×AV)} (h:Fz n0 H a b) (r:FzN n0 H l m):FzN n0 H ((n,a) :: l) ((n,b) :: m)
 | skip {n:Nat} {a:AV} {l m:List (Nat×AV)} (h:lkA n m=none) (r:FzN n0 H l m):FzN n0 H ((n,a) :: l) m
theorem FzN.get {n0:Nat}{H:HL}{l m:List (Nat×AV)}(h:FzN n0 H l m){n:Nat}{b:AV}(e:lkA n m=some b):∃a,lkA n l=some a∧Fz n0 H a b:=by
 induction h generalizing b with
 | nil=>exact noS e
 | @cons k a b' l m h _ ih=>
  unfold lkA at e ⊢
  split at e
  ·cases Option.some.inj e;exact (I11 _ rfl h)
  ·exact ih e
 | @skip k a l m h _ ih=>
  refine X11 (ih e) fun a' e1 e2=>?_
  refine (I11 a' ?_ e2)
  unfold lkA
  split
  ·rename_i q
   rw [Nat.eq_of_beq_eq_true q] at e
   rw [h] at e;cases e
  ·exact e1
structure FzS (n0:Nat) (σ σ':St):Prop where
 kd:σ'.kd=σ.kd
 len:σ'.H.length=n0
 le:n0≤σ.H.length
 cells:FzC n0 σ.H σ.H σ'.H
 loc:FzN n0 σ.H σ.loc σ'.loc
 cel:FzN n0 σ.H σ.cel σ'.cel
noncomputable def Zfz (Z h:Heap)(more:List Addr):Heap:=hideAll h ((List.range h.objs.size).filter fun a=>(Z.get? a).isNone && !more.contains a)
theorem Zfz_in {Z h:Heap}{more:List Addr}{a:Addr}{o:Obj}(e:h.get? a=some o)(m:(∃o',Z.get? a=some o')∨a∈more):(Zfz Z h more).get? a=some o:=by
 refine hideAll_get _ e fun q=>?_
 refine X01 (List.mem_filter.mp q) fun _ q=>?_
 rw [Bool.and_eq_true,Bool.not_eq_true'] at q
 rcases m with ⟨o',m⟩ | m
 ·rw [m] at q;cases q.1
 ·rw [List.contains_iff_mem.mpr m] at q;cases q.2
theorem Zfz_sub {Z h:Heap}{more:List Addr}:Sub (Zfz Z h more) h:=fun _ _ e=>of_hideAll _ e
theorem Zfz_none {Z h:Heap}{more:List Addr}{a:Addr}(h1:Z.get? a=none)(h2:a ∉ more):(Zfz Z h more).get? a=none:=by
 cases e:h.get? a with
 | none=>
  cases q:(Zfz Z h more).get? a with
  | none=>rfl
  | some o=>rw [Zfz_sub _ _ q] at e;exact noS' e
 | some o=>
  refine hideAll_none _ (List.mem_filter.mpr ⟨List.mem_range.mpr (Heap.lt_size e),?_⟩)
  refine er h1 ?_
  have:more.contains a=false:=by
   cases q:more.contains a with
   | false=>rfl
   | true=>exact absurd (List.contains_iff_mem.mp q) h2
  refine er this ?_;rfl
section
variable {prog:Program}{w:World}{K:Frag}{X:Value→Shared→Prop}{s:Shared}{Z:Heap}{ad:List Addr}{x:Fx}{σ σ':St}{h:Heap}{n0:Nat}
theorem take_spec {a:Addr}{n0:Nat}(m:a∈spec x.env.locals x.pin (ad.take n0)):a∈spec x.env.locals x.pin ad:=by
 rw [mem_spec] at m ⊢
 rcases m with m | m | m
 ·exact .inl m
 ·exact .inr (.inl m)
 ·exact .inr (.inr (List.mem_of_mem_take m))
theorem spec_drop (nd:(spec x.env.locals x.pin ad).Nodup){a:Addr}(m:a∈spec x.env.locals x.pin (ad.take n0)):a ∉ ad.drop n0:=fun q=>by
 have nd':=nd
 unfold spec at nd'
 rw [List.nodup_cons,List.nodup_append] at nd'
 refine X03 nd' fun n1 n2 n3 n4=>?_
 rcases mem_spec.mp m with rfl | m | m
 ·exact n1 (List.mem_append_right _ (List.mem_of_mem_drop q))
 ·exact n4 _ m _ (List.mem_of_mem_drop q) rfl
 ·rw [←List.take_append_drop n0 ad] at n3
  exact (List.nodup_append.mp n3).2.2 _ m _ q rfl
theorem Zfz_up (S:HS (prog:=prog) (w:=w) x.env.locals x.pin Z ad σ.H h){more:List Addr}:Sub Z (Zfz Z h more):=fun a o e=>Zfz_in (S.zsub a o e) (.inl ⟨o,e⟩)
theorem Fz.valR (S:HS (prog:=prog) (w:=w) x.env.locals x.pin Z ad σ.H h){r:Nat}{t:Tg}{ys xs:List AV}(g:Nat.ble n0 r=true)(e:getH σ.H r=some (t,xs))(i:∀v,Vals prog w Z ad xs v→Vals prog w (Zfz Z h (ad.drop n0)) (ad.take n0) ys v)(v:Value)(hv:Val prog w Z ad (.ref r) v):Val prog w (Zfz Z h (ad.drop n0)) (ad.take n0) (.nd t ys) v:=by
 refine X11 hv.inv fun p q9 e'=>?_;subst q9
 refine X22 (S.emb _ _ _ e) fun p' vs h1 h2 h3=>?_
 cases (Option.some.inj (h1.symm.trans e'))
 exact .nd ⟨h2.1,h2.2.elim fun o ho=>(I11 o (Zfz_in ho.1 (.inr (List.mem_of_getElem? (i:=r - n0) (List.getElem?_drop.symm▸(Nat.add_sub_cancel' (Nat.le_of_ble_eq_true g)).symm▸e')))) ho.2)⟩ (i _ h3)
theorem Fz.valL (l:Nat.blt r n0=true)(v:Value)(hv:Val prog w Z ad (.ref r) v):Val prog w (Zfz Z h (ad.drop n0)) (ad.take n0) (.ref r) v:=
 X11 hv.inv fun a e q=>.of (I11 a e (List.getElem?_take.symm▸(if_pos (show _ < n0 from Nat.le_of_ble_eq_true l)).symm▸q))
theorem Val.ndF {Z Z':Heap}{ad ad':List Addr}(k:Sub Z Z'){t:Tg}{xs ys:List AV}(i:∀v,Vals prog w Z ad xs v→Vals prog w Z' ad' ys v)(v:Value)(hv:Val prog w Z ad (.nd t xs) v):Val prog w Z' ad' (.nd t ys) v:=
 X22 hv.inv fun a vs e n r=>.of (I22 a vs e (n.sub k) (i _ r))
theorem Vals.consF {Z Z':Heap}{ad ad':List Addr}{x y:AV}{xs ys:List AV}(i:∀v,Val prog w Z ad x v→Val prog w Z' ad' y v)(j:∀v,Vals prog w Z ad xs v→Vals prog w Z' ad' ys v)(v:List Value)(hv:Vals prog w Z ad (x :: xs) v):Vals prog w Z' ad' (y :: ys) v:=
 X22 hv.inv fun _ _ e h r=>e▸.cons (i _ h) (j _ r)
theorem Vals.nilF {Z Z':Heap}{ad ad':List Addr}(v:List Value)(hv:Vals prog w Z ad [] v):Vals prog w Z' ad' [] v:=(show v= [] from hv.inv)▸.nil
theorem Fz.val (S:HS (prog:=prog) (w:=w) x.env.locals x.pin Z ad σ.H h){a b:AV}{v:Value}(f:Fz n0 σ.H a b)(hv:Val prog w Z ad a v):Val prog w (Zfz Z h (ad.drop n0)) (ad.take n0) b v:=
 Fz.rec (motive_1:=fun a b _=>∀v,Val prog w Z ad a v→Val prog w (Zfz Z h (ad.drop n0)) (ad.take n0) b v) (motive_2:=fun a b _=>∀v,Vals prog w Z ad a v→Vals prog w (Zfz Z h (ad.drop n0)) (ad.take n0) b v)
  (fun _ h=>.of h.inv) (fun _ h=>.of h.inv) (fun _ h=>.of h.inv) (fun _ h=>.of h.inv) (fun _ h=>.of h.inv) (fun _ h=>.of h.inv) (fun _ h=>.of h.inv) (fun _ h=>.of h.inv)
  Fz.valL (fun g e _ i=>Fz.valR S g e i) (fun _=>Val.ndF (Zfz_up S)) Vals.nilF (fun _ _=>Vals.consF) f v hv
theorem FzL.val (S:HS (prog:=prog) (w:=w) x.env.locals x.pin Z ad σ.H h){a b:List AV}{v:List Value}(f:FzL n0 σ.H a b)(hv:Vals prog w Z ad a v):Vals prog w (Zfz Z h (ad.drop n0)) (ad.take n0) b v:=by
 induction a generalizing b v with
 | nil=>cases f;exact Vals.nilF _ hv
 | cons x a ih=>cases f with | cons h r=>exact Vals.consF (fun _=>Fz.val S h) (fun _=>ih r) _ hv
theorem Sit.freeze (S:Sit prog w K x σ Z ad h)(F:FzS n0 σ σ'):Sub Z (Zfz Z h (ad.drop n0))∧Sit prog w K x σ' (Zfz Z h (ad.drop n0)) (ad.take n0) h:=by
 have sub:=Zfz_up S.hs (more:=ad.drop n0)
 have H:=S.hs
 refine ⟨sub,?_,S.stat.sub sub,⟨?_,fun a m=>?_,fun a m=>H.lt a (take_spec m),fun a m=>H.ex a (take_spec m),H.pins,Zfz_sub,?_,fun r t ys e=>?_⟩,?_,fun n b e=>?_⟩
 ·refine er F.kd ?_;exact S.kd
 ·have:=H.nd
  unfold spec at this ⊢
  rw [List.nodup_cons,List.nodup_append] at this ⊢
  refine (I03 (fun m=>this.1 ?_) this.2.1 (this.2.2.1.sublist (List.take_sublist _ _)) (fun a ha b hb=>this.2.2.2 a ha b (List.mem_of_mem_take hb)))
  rcases List.mem_append.mp m with m | m
  ·exact List.mem_append_left _ m
  ·exact List.mem_append_right _ (List.mem_of_mem_take m)
 ·exact Zfz_none (H.zn a (take_spec m)) (spec_drop H.nd m)
 ·refine er List.length_take (er F.len (er H.len ?_));exact Nat.min_eq_left F.le
 ·refine X11 (F.cells.get e) fun xs e1 e2=>?_
  refine X22 (H.emb _ _ _ e1) fun a vs h1 h2 h3=>?_
  have lt:r < n0:=F.len▸(getH_lt e)
  exact (I22 a vs (List.getElem?_take.symm▸(if_pos lt).symm▸h1) h2 (e2.val H h3))
 ·refine X11 S.loc fun m hn hl=>?_
  refine (I11 m hn (fun n b e=>?_))
  refine X11 (F.loc.get e) fun a e1 e2=>?_
  refine X11 (hl n a e1) fun v q1 q2=>?_
  exact (I11 v q1 (e2.val H q2))
 ·refine X11 (F.cel.get e) fun a e1 e2=>?_
  refine X11 (S.cel n a e1) fun c q1 q2=>?_
  exact (I11 c q1 (e2.val H q2))
theorem pre_take {ad ad1:List Addr}(p:Pre ad ad1)(l:ad.length≤n0):Pre ad (ad1.take n0):=by
 obtain ⟨m,rfl⟩:=p
 refine er List.take_append ?_
 refine er (List.take_of_length_le l) ?_
 exact ⟨_,rfl⟩
theorem OkS.freeze {k k':Heap→List Addr→Shared→Prop}(F:FzS n0 σ σ')(l:ad.length≤n0)(hk:∀Z' ad' s',Sit prog w K x σ Z' ad' s'.heap→k' (Zfz Z' s'.heap (ad'.drop n0)) (ad'.take n0) s'→k Z' ad' s')
  (H:OkS prog w K x Z ad s σ' k'):OkS prog w K x Z ad s σ k:=fun Z' ad' h' tk sub pr S=>by
 refine X01 (S.freeze F) fun sub' S'=>?_
 exact hk Z' ad' ⟨h',_,_,_,_⟩ S (H _ _ h' tk (sub.trans sub') (pre_take pr l) S')
theorem RX.freeze {i:Int}(F:FzS n0 σ σ')(l:ad.length≤n0)(H:RX prog w K x Z ad s i σ' X):RX prog w K x Z ad s i σ X:=by
 refine OkS.freeze F l (fun Z' ad' s' S hk e he=>hk e ?_) H
 refine X0245 he fun a1 a2 d vs sl od b1 b2 b3 b4 b5 hT=>?_
 have ns:∀a,a ∉ spec x.env.locals x.pin ad'→a ∉ spec x.env.locals x.pin (ad'.take n0):=fun a h m=>h (take_spec m)
 have nm:∀a,a ∉ spec x.env.locals x.pin ad'→a ∉ ad'.drop n0:=fun a h m=>h (mem_spec.mpr (.inr (.inr (List.mem_of_mem_drop m))))
 refine (I0245 (ns _ a1) (Zfz_none a2 (nm _ a1)) d vs sl od b1 (ns _ b2) b3 b4 b5 ?_)
 rcases hT with hT | ⟨T,oT,ts,f,c1,c2,c3,c4,c5,c6,c7,c8,c9⟩
 ·exact .inl hT
 ·exact .inr (I48 T oT ts f c1 (Zfz_none c2 (nm _ c5)) c3 c4 (ns _ c5) c6 c7 c8 c9)
inductive FzO (n0:Nat) (H:HL):Out→Out→Prop
 | nx:FzO n0 H .nx .nx
 | ex {i:Int}:FzO n0 H (.ex i) (.ex i)
 | rt {a b:AV} (h:Fz n0 H a b):FzO n0 H (.rt a) (.rt b)
 | v {a b:AV} (h:Fz n0 H a b):FzO n0 H (.v a) (.v b)
theorem RF.freeze {o o':Out}{Q:Flow→Shared→Prop}(hO:FzO n0 σ.H o o')(F:FzS n0 σ σ')(l:ad.length≤n0)(H:RF prog w K x Z ad s (o',σ') Q X):RF prog w K x Z ad s (o,σ) Q X:=by
 cases hO with
 | nx=>exact OkS.freeze F l (fun _ _ _ _ hk=>hk) H
 | ex=>exact RX.freeze F l H
 | @rt a b hf=>exact OkS.freeze (k':=fun Z' ad' s'=>∀v,Val prog w Z' ad' b v→Q (.ret v) s') (k:=fun Z' ad' s'=>∀v,Val prog w Z' ad' a v→Q (.ret v) s') F l (fun _ _ _ S hk v hv=>hk v (hf.val S.hs hv)) H
 | v hf=>exact H.elim
theorem RC.freeze {o o':Out}{R:Result→Shared→Prop}(hO:FzO n0 σ.H o o')(F:FzS n0 σ σ')(l:ad.length≤n0)(H:RC prog w K x Z ad s (o',σ') R):RC prog w K x Z ad s (o,σ) R:=by
 cases hO with
 | nx=>exact H.elim
 | @ex i=>exact RX.freeze (X:=fun e s'=>R (.error e) s') (i:=i) F l H
 | rt hf=>exact H.elim
 | @v a b hf=>exact OkS.freeze (k':=fun Z' ad' s'=>∀v,Val prog w Z' ad' b v→R (.ok (.ret v)) s') (k:=fun Z' ad' s'=>∀v,Val prog w Z' ad' a v→R (.ok (.ret v)) s') F l (fun _ _ _ S hk v hv=>hk v (hf.val S.hs hv)) H
end
section
variable (prog:Program)(w:World)(K:Frag)
structure Trip (D:Nat) (ss:List S) (σ:St) (P:Out×St→Prop):Prop where
 run:∀{x:Fx} {Z:Heap} {ad:List Addr} {s:Shared} {Q:Flow→Shared→Prop} {X:Value→Shared→Prop},x.Ok→x.A.depth + D < 900→Sit prog w K x σ Z ad s.heap→
  (∀r,P r→RF prog w K x Z ad s r Q X)→wpAny (model prog w) x.A (execs (decSs ss) x.env) Q X s
structure TrB (D:Nat) (t:E) (σ:St) (P:Bool→St→Prop):Prop where
 run:∀{x:Fx} {Z:Heap} {ad:List Addr} {s:Shared} {Q:Bool→Shared→Prop} {X:Value→Shared→Prop},x.Ok→x.A.depth + D < 900→Sit prog w K x σ Z ad s.heap→
  (∀b σ',P b σ'→OkS prog w K x Z ad s σ' fun _ _ s'=>Q b s')→wpAny (model prog w) x.A (isTrue (dec t) x.env (eval (dec t) x.env)) Q X s
end
section
variable {prog:Program}{w:World}{K:Frag}{c:Cf}
structure Sound (prog:Program) (w:World) (K:Frag) (c:Cf):Prop where
 snd:∀n,Snd prog w K c n
 lim:c.lim=900
theorem Trip.ev (J:Sound prog w K c){n:Nat}{ss:List S}{σ:St}{r:Out×St}(hr:ev c n (.sts ss) σ=some r)(ob:AllP r.2.obl):Trip prog w K n ss σ (· =r):=
 ⟨fun O B S h=>(J.snd n).sts O (J.lim.symm▸B) hr ob S (h r rfl)⟩
theorem TrB.ev (J:Sound prog w K c){n:Nat}{t:E}{σ σ':St}{b:Bool}(hr:ev c n (.tr t) σ=some (.b b,σ'))(ob:AllP σ'.obl):TrB prog w K n t σ (fun b' σ''=>b'=b∧σ''=σ'):=
 ⟨fun O B S h=>(J.snd n).tr O (J.lim.symm▸B) hr ob S (h b σ' ⟨rfl,rfl⟩)⟩
theorem Trip.mono {D D':Nat}{ss:List S}{σ:St}{P P':Out×St→Prop}(h:Trip prog w K D ss σ P)(hD:D≤D')(hP:∀r,P r→P' r):Trip prog w K D' ss σ P':=
 ⟨fun O B S k=>h.run O (Nat.lt_of_le_of_lt (Nat.add_le_add_left (by assumption) _) (by assumption)) S fun r hr=>k r (hP r hr)⟩
theorem TrB.mono {D D':Nat}{t:E}{σ:St}{P P':Bool→St→Prop}(h:TrB prog w K D t σ P)(hD:D≤D')(hP:∀b σ',P b σ'→P' b σ'):TrB prog w K D' t σ P':=
 ⟨fun O B S k=>h.run O (Nat.lt_of_le_of_lt (Nat.add_le_add_left (by assumption) _) (by assumption)) S fun b σ' hr=>k b σ' (hP b σ' hr)⟩
theorem Trip.fz {D:Nat}{ss:List S}{σ:St}{P P':Out×St→Prop}(h:Trip prog w K D ss σ P)(hP:∀r,P r→∃r',FzO σ.H.length r.2.H r.1 r'.1∧FzS σ.H.length r.2 r'.2∧P' r'):Trip prog w K D ss σ P':=
 ⟨fun O B S k=>h.run O B S fun r hr=>by
  refine X12 (hP r hr) fun r' h1 h2 h3=>?_
  exact RF.freeze h1 h2 (Nat.le_of_eq S.hs.len) (k r' h3)⟩
theorem decSs_append:∀(a b:List S),decSs (a ++ b)=decSs a ++ decSs b
 | [],b=>rfl
 | t :: a,b=>by
  refine er List.cons_append (er (show decSs (t :: (a ++ b))=decS t :: decSs (a ++ b) from rfl) (er (show decSs (t :: a)=decS t :: decSs a from rfl) (er (decSs_append a b) ?_)))
  rfl
theorem execs_append (env:Env):∀(a b:List PySem.Stmt),execs (a ++ b) env=(do match ←execs a env with | .next=>execs b env | f=>pure f)
 | [],b=>by
  show _=(pure Flow.next >>= _)
  rw [pure_bind];rfl
 | t :: a,b=>by
  rw [List.cons_append,execs_cons,execs_cons,bind_assoc]
  congr 1
  funext f
  cases f with
  | next=>exact execs_append env a b
  | _=>rw [pure_bind]
theorem Trip.app {D:Nat}{a b:List S}{σ:St}{P P':Out×St→Prop}(h:Trip prog w K D a σ P)(hn:∀σ',P (.nx,σ')→Trip prog w K D b σ' P')(ho:∀r,P r→r.1≠.nx→P' r):Trip prog w K D (a ++ b) σ P':=by
 refine ⟨?_⟩
 intro x Z ad s Q X O B S k
 rw [decSs_append,execs_append]
 refine wpAny_bind (h.run O B S (Q:=fun f s'=>wpAny (model prog w) x.A (match f with | .next=>execs (decSs b) x.env | f=>pure f) Q X s') fun r hr=>?_)
 obtain ⟨o,σ'⟩:=r
 cases o with
 | nx=>exact fun Z' ad' h' tk sub pr S'=>(hn σ' hr).run (s:=⟨h',_,_,_,_⟩) O B S' fun r' hr'=>RF.on (k r' hr') sub pr ⟨rfl,rfl,rfl⟩
 | rt v=>exact fun Z' ad' h' tk sub pr S' u hu=>wpAny_pure (k _ (ho _ hr (nofun)) Z' ad' h' tk sub pr S' u hu)
 | ex i=>exact k _ (ho _ hr (nofun))
 | _=>exact (k _ (ho _ hr (nofun))).elim
theorem Trip.whl {D:Nat}{t:E}{b:List S}{p:Pos}{P:Out×St→Prop}(I:Nat→St→Prop)
  (step:∀n σ,I n σ→TrB prog w K D t σ fun q σ'=>if q=true then Trip prog w K D b σ' (fun r=>(∃m,m < n∧r.1=.nx∧I m r.2)∨(r.1≠.nx∧P r)) else P (.nx,σ')) (n:Nat) {σ:St} (hI:I n σ):Trip prog w K D [.whl t b p] σ P:=by
 refine ⟨?_⟩
 intro x Z ad s Q X O B S k
 refine wpAny_execs_cons ?_
 refine wpAny_While (codeAny_whileLoop (fun m s'=>∃(σ:St) (Z:Heap) (ad:List Addr),I m σ∧Sit prog w K x σ Z ad s'.heap∧∀r,P r→RF prog w K x Z ad s' r Q X) ?_ n (I32 σ Z ad hI S k))
 rintro n s ⟨σ,Z,ad,hI,S,k⟩
 refine (step n σ hI).run (s:=s) O B S fun q σ' hq=>?_
 intro Z' ad' h' tk sub pr S'
 cases q with
 | true=>
  rw [if_pos rfl] at hq
  refine er (if_pos rfl) ?_
  refine hq.run (s:=⟨h',_,_,_,_⟩) O B S' fun r hr=>?_
  have kk:∀r,P r→RF prog w K x Z' ad' ⟨h',s.gens,s.drawn,tk,s.os⟩ r Q X:=fun r hr=>RF.on (k r hr) sub pr (I02 rfl rfl rfl)
  obtain ⟨o,σ₂⟩:=r
  cases o with
  | nx=>
   intro Z₂ ad₂ h₂ tk₂ sub₂ pr₂ S₂
   rcases hr with ⟨m,lt,_,hm⟩ | ⟨h,_⟩
   ·exact ⟨m,lt,σ₂,Z₂,ad₂,hm,S₂,fun r hr=>RF.on (kk r hr) sub₂ pr₂ (I02 rfl rfl rfl)⟩
   ·exact absurd rfl h
  | rt v=>
   rcases hr with ⟨m,_,h,_⟩ | ⟨_,h⟩
   ·cases h
   ·exact fun Z₂ ad₂ h₂ tk₂ sub₂ pr₂ S₂ u hu=>kk _ h Z₂ ad₂ h₂ tk₂ sub₂ pr₂ S₂ u hu
  | ex i=>
   rcases hr with ⟨m,_,h,_⟩ | ⟨_,h⟩
   ·cases h
   ·exact (resW (M:=model prog w) (Q:=Q) O).ex (kk _ h)
  | _=>
   rcases hr with ⟨m,_,h,_⟩ | ⟨_,h⟩
   ·cases h
   ·exact (kk _ h).elim
 | false=>
  rw [if_neg (by decide)] at hq
  refine er (if_neg (by decide)) ?_
  exact wpAny_execs_nil (wpAny_execs_nil (k _ hq Z' ad' h' tk sub pr S'))
end
section
variable {prog:Program}{w:World}{K:Frag}{X:Value→Shared→Prop}{s:Shared}{Z:Heap}{ad:List Addr}{x:Fx}{σ:St}
noncomputable def back (σ:St):Out×St→Out×St
 | (.rt v,σ')=>(.v v,{σ' with kd:=σ.kd,loc:=σ.loc,cel:=σ.cel})
 | (.nx,σ')=>(.v .none,{σ' with kd:=σ.kd,loc:=σ.loc,cel:=σ.cel})
 | (.ex i,σ')=>(.ex i,{σ' with kd:=σ.kd,loc:=σ.loc,cel:=σ.cel})
 | (_,σ')=>(.nx,σ')
theorem rec_lim:900≤recursionLimit:=by decide
theorem call_trip {A:Around}{f:Nat}{fn:Fn}{fa:Addr}{as:List AV}{vs:List Value}{cl:List (Nat×AV)}{R:Result→Shared→Prop}{D:Nat}{P:Out×St→Prop}(O:x.Ok)(hA:A.frames=some (x.env :: x.outer))(hh:A.handled=none)
  (B:A.depth + 1 + D < 900) (S:Sit prog w K x σ Z ad s.heap) (ha:Vals prog w Z ad as vs) (hF:FnIs prog w Z ad fa f cl) (hfn:fns f=some fn) (hown:fn.own= []) (hlen:as.length=fn.pars.length)
  (T:Trip prog w K D fn.body {σ with kd:=fn.kd,loc:=zipA fn.pars as,cel:=cl} P) (hP:∀r,P r→RC prog w K x Z ad s (back σ r) R) :
  codeAny (model prog w) A (.call (.ref fa) ⟨vs,[]⟩) R s:=by
 refine X35 hF fun o fd fn' k1 k2 k3 D' cr hc=>?_
 rw [hfn] at k3
 cases Option.some.inj k3
 have hl:fn.pars.length=vs.length:=ha.length▸hlen.symm
 refine X11 S.own fun oL hL hLd=>?_
 have lim:=rec_lim
 refine codeAny_call_def (o25 B lim) (S.hs.zsub _ _ k1) k2 (S.stat.lim.keeps S.hs.zsub) ?_ D'.body (.of_eq (D'.bind vs hl.symm)) D'.cell (fun y hy=>?_) (fun h₀ hns hk=>?_) D'.co D'.gen D'.kind
 ·refine X43 cr fun c oc us tq q1 q2 q3 q4=>?_
  exact (I43 c oc us tq q1 (S.hs.zsub _ _ q2) q3 q4)
 ·refine X11 (List.mem_map.mp (List.of_mem_zip (show (y.1,y.2)∈_ from hy)).1) fun m hm e=>?_
  refine re e ?_
  exact D'.kd _ _ (D'.loc m hm)
 ·have O':(inner x A (callEnv fd s.heap.objs.size fa) oL).Ok:=O.inner hA hh D'.kind rfl D'.glo D'.blt hLd
  have S':=S.enter (A:=A) O D' hL ha hl hns hk hc (fa:=fa)
  have lv:∀{σ':St} {Z':Heap} {ad':List Addr} {h':Heap},Sub Z Z'→Pre ad ad'→Sit prog w K (inner x A (callEnv fd s.heap.objs.size fa) oL) σ' Z' ad' h'→Sit prog w K x {σ' with kd:=σ.kd,loc:=σ.loc,cel:=σ.cel} Z' ad' h':=
   fun sub pr S''=>S.leave hL sub pr S''
  have B2:(inner x A (callEnv fd s.heap.objs.size fa) oL).A.depth + D < 900:=B
  refine T.run (s:=⟨h₀,_,_,_,_⟩) O' B2 S' fun r hr=>?_
  have k:=hP r hr
  obtain ⟨o,σ'⟩:=r
  cases o with
  | rt v=>exact fun Z' ad' h' tk sub pr S'' u hu=>k Z' ad' h' tk sub pr (lv sub pr S'') u hu
  | nx=>exact fun Z' ad' h' tk sub pr S''=>k Z' ad' h' tk sub pr (lv sub pr S'') _ .none
  | ex i=>exact fun Z' ad' h' tk sub pr S'' e he=>Mine.leave (s:=⟨h',_,_,_,_⟩) O' S'' he fun h'' S3 q=>k Z' ad' h'' tk sub pr (lv sub pr S3) e q.out
  | _=>exact k.elim
end
section
variable {prog:Program}{w:World}{K:Frag}{X:Value→Shared→Prop}{s:Shared}{Z:Heap}{ad:List Addr}{x:Fx}{σ:St}{h h':Heap}
noncomputable def objs (os:List Obj):HL:=os.map fun o=>some (.obj o,[])
def St.with (σ:St)(os:List Obj):St:={σ with H:=σ.H ++ objs os}
theorem getH_objs {os:List Obj}{r:Nat}{t:Tg}{xs:List AV}(e:getH (objs os) r=some (t,xs)):∃o,os[r]? =some o∧t=.obj o∧xs= []:=by
 induction os generalizing r with
 | nil=>exact noS e
 | cons a os ih=>
  cases r with
  | zero=>
   replace e:some (Tg.obj a,([]:List AV))=some (t,xs):=e
   simp only [Option.some.injEq,Prod.mk.injEq] at e
   exact ⟨a,rfl,e.1.symm,e.2.symm⟩
  | succ r=>exact ih e
theorem objs_get {os:List Obj}{r:Nat}{o:Obj}(e:os[r]? =some o):getH (objs os) r=some (.obj o,[]):=by
 induction os generalizing r with
 | nil=>simp at e
 | cons a os ih=>
  cases r with
  | zero=>simp only [List.getElem?_cons_zero,Option.some.injEq] at e;refine re e ?_;rfl
  | succ r=>simp only [List.getElem?_cons_succ] at e;exact ih e
theorem Sit.objAt {os:List Obj}{its:List Addr}(S:Sit prog w K x (σ.with os) Z (ad ++ its) h)(hl:ad.length=σ.H.length){j:Nat}{a:Addr}{o:Obj}(ha:its[j]? =some a)(ho:os[j]? =some o):h.get? a=some o∧(a == sysModules)=false:=by
 have lt:j < os.length:=(List.getElem?_eq_some_iff.mp ho).1
 have e:getH (σ.with os).H (σ.H.length + j)=some (.obj o,[]):=by
  show getH (σ.H ++ objs os) _=_
  rw [getH_append,if_neg (o45),Nat.add_sub_cancel_left]
  exact objs_get ho
 refine X22 (S.hs.emb _ _ _ e) fun a' vs h1 q0 _=>?_;obtain ⟨hm,o',ho',hi⟩:=q0
 rw [List.getElem?_append_right (o208 hl),hl,Nat.add_sub_cancel_left,ha] at h1
 cases Option.some.inj h1
 refine X01 hi fun _ q0=>?_;subst q0
 exact ⟨ho',hm⟩
theorem Sit.objs {os os':List Obj}{its:List Addr}(S:Sit prog w K x (σ.with os) Z (ad ++ its) h)(hl:ad.length=σ.H.length)(hn:its.length=os.length)(hn':its.length=os'.length)
  (keep:∀b o,b ∉ its→h.get? b=some o→h'.get? b=some o) (live:∀(j:Nat) a o,its[j]? =some a→os'[j]? =some o→h'.get? a=some o):Sit prog w K x (σ.with os') Z (ad ++ its) h':=by
 have H:=S.hs
 have nd:=H.nd
 have e:spec x.env.locals x.pin (ad ++ its)=spec x.env.locals x.pin ad ++ its:=by unfold spec;simp
 rw [e] at nd
 have nin:∀a∈spec x.env.locals x.pin ad,a ∉ its:=fun a m q=>(List.nodup_append.mp nd).2.2 a m a q rfl
 have zin:∀a o,Z.get? a=some o→a ∉ its:=fun a o q m=>by
  rw [H.zn a (e.symm▸(List.mem_append_right _ m))] at q;cases q
 have ex:∀a∈spec x.env.locals x.pin (ad ++ its),∃o,h'.get? a=some o:=fun a m=>by
  rw [e,List.mem_append] at m
  rcases m with m | m
  ·refine X1 (H.ex a (e.symm▸(List.mem_append_left _ m))) fun o q=>?_
   exact ⟨o,keep a o (nin a m) q⟩
  ·refine X1 (List.getElem?_of_mem m) fun j q=>?_
   have lt:j < os'.length:=hn'▸((List.getElem?_eq_some_iff.mp q).1)
   exact ⟨_,live j a _ q (List.getElem?_eq_getElem lt)⟩
 refine ⟨S.kd,S.stat,⟨H.nd,H.zn,fun a m=>?_,ex,fun p m=>?_,fun a o q=>keep a o (zin a o q) (H.zsub a o q),?_,fun r t xs q=>?_⟩,?_,S.cel⟩
 ·refine X1 (ex a m) fun o q=>?_;exact Heap.lt_size q
 ·refine X1 (H.pins p m) fun sl q=>?_
  exact ⟨sl,keep _ _ (nin _ (mem_spec.mpr (.inr (.inl (List.mem_map_of_mem m))))) q⟩
 ·have:=H.len
  show (ad ++ its).length=(σ.H ++ Mine.objs os').length
  unfold Mine.objs
  simp only [List.length_append,List.length_map]
  exact o209 hl hn'
 ·replace q:getH (σ.H ++ Mine.objs os') r=some (t,xs):=q
  rw [getH_append] at q
  by_cases lt:r < σ.H.length
  ·rw [if_pos lt] at q
   refine X22 (H.emb r t xs (by show getH (σ.H ++ Mine.objs os) r=_;refine er getH_append (er (if_pos lt) ?_);exact q)) fun a vs h1 h2 h3=>?_
   refine (I22 a vs h1 (h2.at fun o ho=>keep a o ?_ ho) h3)
   have l2:r < ad.length:=Nat.lt_of_lt_of_eq (by assumption) (Eq.symm (by assumption))
   rw [List.getElem?_append_left l2] at h1
   exact nin a (mem_spec.mpr (.inr (.inr (List.mem_of_getElem? h1))))
  ·rw [if_neg lt] at q
   refine X12 (getH_objs q) fun o q1 q0 q3=>?_;subst q0;subst q3
   have l1:r - σ.H.length < os'.length:=(List.getElem?_eq_some_iff.mp q1).1
   have l2:r - σ.H.length < its.length:=Nat.lt_of_lt_of_eq (by assumption) (Eq.symm (by assumption))
   have l3:r - σ.H.length < os.length:=Nat.lt_of_lt_of_eq (by assumption) (by assumption)
   have ha:its[r - σ.H.length]? =some its[r - σ.H.length]:=List.getElem?_eq_getElem l2
   refine (I22 (its[r - σ.H.length]) ([]) ?_ ⟨(S.objAt hl ha (List.getElem?_eq_getElem l3)).2,o,live _ _ _ ha q1,rfl,rfl⟩ .nil)
   refine er (List.getElem?_append_right (o40 hl lt)) (er hl ?_)
   exact ha
 ·refine X11 S.loc fun m hn hlc=>?_
  refine X31 hn fun o es ep q1 q2=>?_
  exact (I11 m ⟨o,es,ep,keep _ _ (nin _ (.head _)) q1,q2⟩ hlc)
end
section
variable (prog:Program)(w:World)(K:Frag)
structure Iter (x:Fx) (σ:St) (Z:Heap) (ad:List Addr) (xs:List AV) (k:Nat) (I:Addr) (h:Heap) (its fp:List Addr) (P:Nat→Value→Prop) (Sx:Nat→Heap→Prop) (os:List Obj):Prop where
 walks:Walks prog w x.A I fp its xs.length P Sx
 len:its.length=k
 olen:os.length=k
 start:Sx 0 h
 live:∀i h,Sx i h→∀a∈its,∃o,h.get? a=some o
 fps:∀b∈fp,b∈its∨∃o,Z.get? b=some o
 vals:∀i v,P i v→∃a,xs[i]? =some a∧Val prog w Z ad a v
 sit:Sit prog w K x (σ.with os) Z (ad ++ its) h
def Src (D:Nat)(it:E)(σ:St)(xs:List AV)(k:Nat):Prop:=
 ∀{x:Fx} {Z:Heap} {ad:List Addr} {s:Shared} {Q:Value→Shared→Prop} {X:Value→Shared→Prop},x.Ok→x.A.depth + D < 900→Sit prog w K x σ Z ad s.heap→
  (∀Z' h' tk I its fp P Sx os,Sub Z Z'→Iter prog w K x σ Z' ad xs k I h' its fp P Sx os→Q (.ref I) ⟨h',s.gens,s.drawn,tk,s.os⟩)→
  wpAny (model prog w) x.A (eval (dec it) x.env) (fun xv s₁=>wpAny (model prog w) x.A (pyIter xv) Q X s₁) X s
end
section
variable {prog:Program}{w:World}{K:Frag}{X:Value→Shared→Prop}{s:Shared}{Z:Heap}{ad:List Addr}{x:Fx}{σ:St}{h h':Heap}
theorem fold_dec (it:E)(env:Env)(v:Value):foldedSetIterable (dec it) env v=pure v:=by
 cases it <;> rfl
theorem objs_len (os:List Obj):(objs os).length=os.length:=by unfold objs;rw [List.length_map]
theorem pre_eq {a b:List Addr}(p:Pre a b)(l:b.length=a.length):b=a:=by
 obtain ⟨m,rfl⟩:=p
 rw [List.length_append] at l
 have:m= []:=List.length_eq_zero_iff.mp (o87 l)
 rw [this,List.append_nil]
theorem low_at {n0 r:Nat}{its:List Addr}(hl:ad.length=n0)(l:Nat.blt r n0=true)(v:Value)(hv:Val prog w Z (ad ++ its) (.ref r) v):Val prog w Z ad (.ref r) v:=
 X11 hv.inv fun a e q=>.of (I11 a e ((List.getElem?_append_left (hl▸Nat.le_of_ble_eq_true l)).symm.trans q))
theorem Fz.low' {n0:Nat}{H:HL}{its:List Addr}(hl:ad.length=n0){a b:AV}{v:Value}(f:Fz n0 H a b)(q:a=b)(hv:Val prog w Z (ad ++ its) a v):Val prog w Z ad b v:=
 Fz.rec (motive_1:=fun a b _=>a=b→∀v,Val prog w Z (ad ++ its) a v→Val prog w Z ad b v) (motive_2:=fun a b _=>a=b→∀v,Vals prog w Z (ad ++ its) a v→Vals prog w Z ad b v)
  (fun _ _ h=>.of h.inv) (fun _ _ h=>.of h.inv) (fun _ _ h=>.of h.inv) (fun _ _ h=>.of h.inv) (fun _ _ h=>.of h.inv) (fun q=>AV.noConfusion q) (fun _ _ h=>.of h.inv) (fun _ _ h=>.of h.inv)
  (fun l _=>low_at hl l) (fun _ _ _ _ q=>AV.noConfusion q) (fun _ i q=>Val.ndF (Sub.refl _) (i (AV.noConfusion q fun _ e=>e))) (fun _=>Vals.nilF) (fun _ _ i j q=>Vals.consF (i (List.cons.inj q).1) (j (List.cons.inj q).2)) f q v hv
theorem FzL.low' {n0:Nat}{H:HL}{its:List Addr}(hl:ad.length=n0){a b:List AV}{v:List Value}(f:FzL n0 H a b)(q:a=b)(hv:Vals prog w Z (ad ++ its) a v):Vals prog w Z ad b v:=by
 induction a generalizing b v with
 | nil=>cases q;exact Vals.nilF _ hv
 | cons x a ih=>cases q;cases f with | cons h r=>exact Vals.consF (fun _=>Fz.low' hl h rfl) (fun _=>ih r rfl) _ hv
theorem Sit.forget {os:List Obj}{its:List Addr}(S:Sit prog w K x (σ.with os) Z (ad ++ its) h)(hl:ad.length=σ.H.length)(F:FzS σ.H.length (σ.with os) σ)(keep:∀b o,b ∉ its→h.get? b=some o→h'.get? b=some o):Sit prog w K x σ Z ad h':=by
 have H:=S.hs
 have nd:=H.nd
 have e:spec x.env.locals x.pin (ad ++ its)=spec x.env.locals x.pin ad ++ its:=by unfold spec;simp
 rw [e] at nd
 have up:∀a,a∈spec x.env.locals x.pin ad→a∈spec x.env.locals x.pin (ad ++ its):=fun a m=>e.symm▸(List.mem_append_left _ m)
 have nin:∀a∈spec x.env.locals x.pin ad,a ∉ its:=fun a m q=>(List.nodup_append.mp nd).2.2 a m a q rfl
 have zin:∀a o,Z.get? a=some o→a ∉ its:=fun a o q m=>by
  rw [H.zn a (e.symm▸(List.mem_append_right _ m))] at q;cases q
 have ex:∀a∈spec x.env.locals x.pin ad,∃o,h'.get? a=some o:=fun a m=>by
  refine X1 (H.ex a (up a m)) fun o q=>?_
  exact ⟨o,keep a o (nin a m) q⟩
 refine ⟨S.kd,S.stat,⟨(List.nodup_append.mp nd).1,fun a m=>H.zn a (up a m),fun a m=>?_,ex,fun p m=>?_,fun a o q=>keep a o (zin a o q) (H.zsub a o q),hl,fun r t ys q=>?_⟩,?_,fun n b q=>?_⟩
 ·refine X1 (ex a m) fun o q=>?_;exact Heap.lt_size q
 ·refine X1 (H.pins p m) fun sl q=>?_
  exact ⟨sl,keep _ _ (nin _ (mem_spec.mpr (.inr (.inl (List.mem_map_of_mem m))))) q⟩
 ·refine X11 (F.cells.get q) fun xs q1 q2=>?_
  have lt:r < σ.H.length:=getH_lt q
  have q1':=q1
  replace q1':getH (σ.H ++ Mine.objs os) r=some (t,xs):=q1'
  rw [getH_append,if_pos lt,q] at q1'
  cases Option.some.inj q1'
  refine X22 (H.emb r t _ q1) fun a vs h1 h2 h3=>?_
  rw [List.getElem?_append_left (Nat.lt_of_lt_of_eq (by assumption) (Eq.symm (by assumption)))] at h1
  exact (I22 a vs h1 (h2.at fun o ho=>keep a o (nin a (mem_spec.mpr (.inr (.inr (List.mem_of_getElem? h1))))) ho) (q2.low' hl rfl h3))
 ·refine X11 S.loc fun m hn hlc=>?_
  refine X31 hn fun o es ep q1 q2=>?_
  refine (I11 m ⟨o,es,ep,keep _ _ (nin _ (.head _)) q1,q2⟩ (fun n b q=>?_))
  refine X11 (F.loc.get q) fun a q3 q4=>?_
  have q5:lkA n σ.loc=some a:=q3
  rw [q] at q5
  cases Option.some.inj q5
  refine X11 (hlc n _ q3) fun v q6 q7=>?_
  exact (I11 v q6 (q4.low' hl rfl q7))
 ·refine X11 (F.cel.get q) fun a q3 q4=>?_
  have q5:lkA n σ.cel=some a:=q3
  rw [q] at q5
  cases Option.some.inj q5
  refine X11 (S.cel n _ q3) fun c q6 q7=>?_
  exact (I11 c q6 (q4.low' hl rfl q7))
theorem Iter.next {xs:List AV}{k:Nat}{I:Addr}{its fp:List Addr}{P:Nat→Value→Prop}{Sx:Nat→Heap→Prop}{os os₀:List Obj}{h₀:Heap}{Z₀:Heap}{σ₀:St}(T:Iter prog w K x σ₀ Z₀ ad xs k I h₀ its fp P Sx os₀)(hl:ad.length=σ.H.length)
  (S:Sit prog w K x (σ.with os) Z (ad ++ its) s.heap) (ho:os.length=k) (sub:Sub Z₀ Z) {i:Nat} (hi:i < xs.length) (st:Sx i s.heap) {Q:Option Value→Shared→Prop}
  (hq:∀a v h' tk os',xs[i]? =some a→Val prog w Z ad a v→os'.length=k→Sx (i + 1) h'→Sit prog w K x (σ.with os') Z (ad ++ its) h'→Q (some v) {s with heap:=h',toks:=tk}):wpAny (model prog w) x.A (pyNext (.ref I)) Q X s:=by
 refine T.walks.item i s Q X hi st fun v h' tk hP st' keep=>?_
 refine X11 (T.vals i v hP) fun a ha hv=>?_
 have live:=T.live _ _ st'
 have ⟨os',l1,l2⟩:∃os':List Obj,os'.length=k∧∀(j:Nat) a o,its[j]? =some a→os'[j]? =some o→h'.get? a=some o:=by
  have key:∀l:List Addr,(∀a∈l,∃o,h'.get? a=some o)→∃os':List Obj,os'.length=l.length∧∀(j:Nat) a o,l[j]? =some a→os'[j]? =some o→h'.get? a=some o:=by
   intro l
   induction l with
   | nil=>intro _;exact ⟨[],rfl,fun j a o e=>by simp at e⟩
   | cons b l ih=>
    intro hl
    refine X1 (hl b (.head _)) fun o ho=>?_
    refine X11 (ih fun a m=>hl a (.tail _ m)) fun os' e1 e2=>?_
    refine (I11 (o :: os') (by simp [e1]) (fun j a o' q1 q2=>?_))
    cases j with
    | zero=>simp at q1 q2;subst q1 q2;exact ho
    | succ j=>simp at q1 q2;exact e2 j a o' q1 q2
  refine X11 (key its live) fun os' e1 e2=>?_
  exact (I11 os' (e1.trans T.len) e2)
 exact hq a v h' tk os' ha (hv.mono sub (Pre.refl _)) l1 st' (S.objs hl (T.len.trans ho.symm) (T.len.trans l1.symm) keep l2)
theorem Iter.stay {xs:List AV}{k:Nat}{I:Addr}{its fp:List Addr}{P:Nat→Value→Prop}{Sx:Nat→Heap→Prop}{os os₀:List Obj}{h₀:Heap}{Z₀ Z':Heap}{σ₀ σ':St}{ad':List Addr}(T:Iter prog w K x σ₀ Z₀ ad xs k I h₀ its fp P Sx os₀)(hl:ad.length=σ.H.length)(hl':σ'.H.length=σ.H.length)
  (S:Sit prog w K x (σ.with os) Z (ad ++ its) h) (ho:os.length=k) (sub:Sub Z₀ Z) (sub':Sub Z Z') (S':Sit prog w K x (σ'.with os) Z' ad' h') (pr:Pre (ad ++ its) ad') {i:Nat} (st:Sx i h):ad'=ad ++ its∧Sx i h':=by
 have ea:ad'=ad ++ its:=pre_eq pr (by
  have:=S'.hs.len
  replace this:ad'.length=(σ'.H ++ Mine.objs os).length:=this
  rw [this,List.length_append,List.length_append,objs_len,hl,hl',ho,T.len])
 subst ea
 refine ⟨rfl,T.walks.frame i h h' st fun b hb o q=>?_⟩
 rcases T.fps b hb with m | ⟨o',z⟩
 ·refine X1 (List.getElem?_of_mem m) fun j e=>?_
  have lt:j < os.length:=ho.symm▸T.len▸((List.getElem?_eq_some_iff.mp e).1)
  have q1:=(S.objAt hl e (List.getElem?_eq_getElem lt)).1
  have q2:=(S'.objAt (hl.trans hl'.symm) e (List.getElem?_eq_getElem lt)).1
  rw [q] at q1
  exact er q2 (re q1 rfl)
 ·have z1:=S.hs.zsub _ _ (sub _ _ z)
  rw [q] at z1
  cases Option.some.inj z1
  exact S'.hs.zsub _ _ (sub' _ _ (sub _ _ z))
inductive FlI (prog:Program) (w:World) (K:Frag) (x:Fx) (J:Nat→St→Prop) (q:Nat×Nat×Nat) (ad its:List Addr) (Z:Heap) (Sx:Nat→Heap→Prop) (s:Shared):Nat→Shared→Prop
 | mk {i:Nat} {σ':St} {Z₁ h:Heap} {os:List Obj} {tk:Nat} (hi:i≤q.1) (hJ:J i σ') (ho:os.length=q.2.1) (hl:σ'.H.length=q.2.2) (sb:Sub Z Z₁) (S:Sit prog w K x (σ'.with os) Z₁ (ad ++ its) h) (st:Sx i h):FlI prog w K x J q ad its Z Sx s (q.1 - i) ⟨h,s.gens,s.drawn,tk,s.os⟩
theorem Trip.forl {D k y:Nat}{yp:Pos}{it:E}{body:List S}{p:Pos}{xs:List AV}(J:Nat→St→Prop)(src:Src prog w K D it σ xs k)(h0:J 0 σ)(hk:∀i σ,J i σ→isL σ.kd y=true)
  (low:∀i σ os,J i σ→os.length=k→FzS σ.H.length (σ.with os) σ)
  (step:∀i a σ os,J i σ→xs[i]? =some a→os.length=k→Trip prog w K D body {σ.with os with loc:=stA y a σ.loc} fun r=>∃σ',r=(.nx,σ'.with os)∧J (i + 1) σ'∧σ'.H.length=σ.H.length) :
  Trip prog w K D [.forl y yp it body p] σ fun r=>∃σ',r=(.nx,σ')∧J xs.length σ':=by
 refine ⟨?_⟩
 intro x Z ad s Q X O B S k₀
 refine wpAny_execs_cons ?_
 refine wpAny_For ?_ (fun _=>fold_dec it _ _)
 have hl:=S.hs.len
 refine src O B S fun Z' h' tk I its fp P Sx os sub T=>?_
 refine codeAny_forLoop (FlI prog w K x J (xs.length,k,σ.H.length) ad its Z' Sx s) ?_ xs.length (FlI.mk (q:=(xs.length,k,σ.H.length)) (i:=0) (Nat.zero_le _) h0 T.olen rfl (Sub.refl _) T.sit T.start)
 intro m s' hI
 cases hI with
 | @mk i σ₁ Z₁ h₁ os tk₁ hi hJ ho hlen sub₁ S₁ st=>
 have hl₁:ad.length=σ₁.H.length:=hl.trans hlen.symm
 by_cases lt:i < xs.length
 ·refine Iter.next (s:=⟨h₁,_,_,_,_⟩) T hl₁ S₁ ho sub₁ lt st fun a v h₂ tk₂ os₂ ha hv ho₂ st₂ S₂=>?_
  dsimp only
  refine wpAny_assign_Name ?_
  refine s_loc (s:=⟨h₂,_,_,_,_⟩) O S₂ (S₂.kd _ _ (isL_kind (hk i σ₁ hJ))) (hv.mono (Sub.refl _) ⟨its,rfl⟩) fun Z₃ ad₃ h₃ tk₃ sub₃ pr₃ S₃=>?_
  have S₃':Sit prog w K x (({σ₁ with loc:=stA y a σ₁.loc}:St).with os₂) Z₃ ad₃ h₃:=S₃
  refine X01 (T.stay (σ':={σ₁ with loc:=stA y a σ₁.loc}) hl₁ rfl S₂ ho₂ sub₁ sub₃ S₃' pr₃ st₂) fun ea st₃=>?_
  subst ea
  refine (step i a σ₁ os₂ hJ ha ho₂).run (s:=⟨h₃,_,_,_,_⟩) O B S₃ fun r hr=>?_
  refine X12 hr fun σ' q0 hJ' hlen'=>?_;subst q0
  intro Z₄ ad₄ h₄ tk₄ sub₄ pr₄ S₄
  refine X01 (T.stay (σ:={σ₁ with loc:=stA y a σ₁.loc}) (σ':=σ') hl₁ hlen' S₃' ho₂ (sub₁.trans sub₃) sub₄ S₄ pr₄ st₃) fun ea st₄=>?_
  subst ea
  exact ⟨xs.length - (i + 1),Nat.sub_lt_sub_left lt (Nat.lt_succ_self _),FlI.mk (q:=(xs.length,k,σ.H.length)) lt hJ' ho₂ (hlen'.trans hlen) ((sub₁.trans sub₃).trans sub₄) S₄ st₄⟩
 ·have ei:i=xs.length:=Nat.le_antisymm (by assumption) (Nat.le_of_not_lt (by assumption))
  subst ei
  refine T.walks.done ⟨h₁,_,_,_,_⟩ _ _ st fun h₂ tk₂ keep=>?_
  refine wpAny_execs_nil ?_
  refine wpAny_execs_nil ?_
  have S₂:=S₁.forget (h':=h₂) hl₁ (low _ _ os hJ ho) keep
  exact k₀ (.nx,σ₁) (I11 σ₁ rfl hJ) Z₁ ad h₂ tk₂ (sub.trans sub₁) (Pre.refl _) S₂
end
section
variable {prog:Program}{w:World}{K:Frag}{c:Cf}
noncomputable def Same (σ σ':St):Prop:=σ'= {σ with orc:=σ'.orc,obl:=σ'.obl}
theorem Sit.same {x:Fx}{σ σ':St}{Z:Heap}{ad:List Addr}{h:Heap}(e:Same σ σ')(S:Sit prog w K x σ' Z ad h):Sit prog w K x σ Z ad h:=by
 rw [e] at S
 exact S.orc σ.orc σ.obl
theorem lay_iter {x:Fx}{σ:St}{Z:Heap}{ad:List Addr}{h:Heap}(S:Sit prog w K x σ Z ad h){o:Obj}(hf:o.isFreed=false) :
  ∃Z',Sub Z Z'∧Sit prog w K x (σ.with [o]) Z' (ad ++ [h.objs.size]) (h.push o):=by
 have hm:(h.objs.size == sysModules)=false:=beq_eq_false_iff_ne.mpr (Nat.ne_of_gt (PyProof.Rows.modules_low (S.stat.lim.keeps S.hs.zsub)))
 obtain ⟨sub,S'⟩:=S.lay (h':=h.push o) (fun a o' e=>Heap.get?_push_of_some o e) (by rw [Heap.size_push];exact o17) [h.objs.size] [(.obj o,[])] fun Z' sub=>.cons (Nat.le_refl _) (I0112 hm o (Heap.get?_push_size _ hf) rfl rfl) .nil .nil
 exact (I11 _ sub S')
theorem src_ev (J:Sound prog w K c){n:Nat}{it:E}{σ σ1:St}{a:AV}{xs:List AV}(hr:ev c n (.ex it) σ=some (.v a,σ1))(ob:AllP σ1.obl)(same:Same σ σ1)
  (mk:∀{x:Fx} {Z:Heap} {ad:List Addr} {s:Shared},x.Ok→Sit prog w K x σ Z ad s.heap→∀v,Val prog w Z ad a v→∃(o:Obj) (fp:List Addr) (P:Nat→Value→Prop) (Sx:Nat→Heap→Prop),o.isFreed=false∧
   Walks prog w x.A s.heap.objs.size fp [s.heap.objs.size] xs.length P Sx∧Sx 0 (s.heap.push o)∧(∀i h,Sx i h→∃o,h.get? s.heap.objs.size=some o)∧(∀b∈fp,b=s.heap.objs.size∨∃o,Z.get? b=some o)∧
   (∀i v,P i v→∃a,xs[i]? =some a∧Val prog w Z ad a v)∧∀(Q:Value→Shared→Prop) (X:Value→Shared→Prop),Q (.ref s.heap.objs.size) {s with heap:=s.heap.push o}→wpAny (model prog w) x.A (pyIter v) Q X s):Src prog w K n it σ xs 1:=by
 intro x Z ad s Q X O B S k
 refine (J.snd n).ex O (J.lim.symm▸B) hr ob S ?_
 intro Z' ad' h' tk sub pr S' v hv
 have S₁:Sit prog w K x σ Z' ad' h':=S'.same same
 have ea:ad'=ad:=pre_eq pr (S₁.hs.len.trans S.hs.len.symm)
 subst ea
 refine X43 (mk (s:=⟨h',s.gens,s.drawn,tk,s.os⟩) O S₁ v hv) fun o fp P Sx hf W st q0=>?_;refine X03 q0 fun live fps vals it=>?_
 refine it _ _ ?_
 refine X11 (lay_iter S₁ hf) fun Z₂ sub₂ S₂=>?_
 refine k Z₂ _ tk _ [h'.objs.size] fp P Sx [o] (sub.trans sub₂) ⟨W,rfl,rfl,st,fun i h q a m=>(List.mem_singleton.mp m).symm▸(live i h q),fun b m=>?_,fun i v q=>?_,S₂⟩
 ·rcases fps b m with e | ⟨o',e⟩
  ·exact .inl (List.mem_singleton.mpr e)
  ·exact .inr ⟨o',sub₂ _ _ e⟩
 ·refine X11 (vals i v q) fun a e1 e2=>?_
  exact (I11 a e1 (e2.mono sub₂ (Pre.refl _)))
theorem vals_at {Z:Heap}{ad:List Addr}{xs:List AV}{vs:List Value}(hs:Vals prog w Z ad xs vs){i:Nat}{v:Value}(e:vs[i]? =some v):∃a,xs[i]? =some a∧Val prog w Z ad a v:=by
 have lt:i < xs.length:=hs.length.symm▸((List.getElem?_eq_some_iff.mp e).1)
 refine X11 (hs.get (List.getElem?_eq_getElem lt)) fun v' e1 e2=>?_
 rw [e] at e1
 cases Option.some.inj e1
 exact (I11 _ (List.getElem?_eq_getElem lt) e2)
theorem src_list (J:Sound prog w K c){n:Nat}{it:E}{σ σ1:St}{xs:List AV}(hr:ev c n (.ex it) σ=some (.v (.nd .lst xs),σ1))(ob:AllP σ1.obl)(same:Same σ σ1):Src prog w K n it σ xs 1:=by
 refine src_ev J hr ob same fun {x Z ad s} O S v hv=>?_
 refine X22 (show∃p vs,v=.ref p∧ObjIs prog w Z p .lst vs∧Vals prog w Z ad xs vs from by
  cases hv with | nd ho hs=>exact (I22 _ _ rfl ho hs)) fun p vs q0 ho hs=>?_;subst q0
 have hl:=(ho.sub S.hs.zsub).lst
 have ne:p≠s.heap.objs.size:=by refine X0111 ho fun _ o q _=>?_;exact Nat.ne_of_lt (Heap.lt_size (S.hs.zsub _ _ q))
 have len:xs.length=vs.toArray.size:=hs.length.trans List.size_toArray
 refine (I46 ({cls:=.type "list_iterator",data:=.fields #[.ref p,.int 0 0]}) ([s.heap.objs.size,p]) (fun i v=>vs.toArray[i]? =some v) (fun i h=>h.IsListIter s.heap.objs.size p i∧h.IsList p vs.toArray) rfl ?_ ⟨⟨_,Heap.get?_push_size _ rfl,rfl,rfl⟩,hl.push _⟩ (fun i h q=>?_) (fun b m=>?_) (fun i v q=>?_) (fun Q X q=>wpAny_pyIter_list hl q))
 ·refine er len ?_;exact Walks.list O.hh s.heap.objs.size p ne vs.toArray
 ·refine X01 q fun q0 _=>?_;obtain ⟨o,e,_⟩:=q0;exact ⟨o,e⟩
 ·rcases List.mem_cons.mp m with e | m
  ·exact .inl e
  ·refine er (List.mem_singleton.mp m) ?_
   refine X0111 ho fun _ o q _=>?_
   exact .inr ⟨o,q⟩
 ·exact vals_at hs (by simpa using q)
theorem src_tup (J:Sound prog w K c){n:Nat}{it:E}{σ σ1:St}{xs:List AV}(hr:ev c n (.ex it) σ=some (.v (.nd .tup xs),σ1))(ob:AllP σ1.obl)(same:Same σ σ1):Src prog w K n it σ xs 1:=by
 refine src_ev J hr ob same fun {x Z ad s} O S v hv=>?_
 refine X22 (show∃p vs,v=.ref p∧ObjIs prog w Z p .tup vs∧Vals prog w Z ad xs vs from by
  cases hv with | nd ho hs=>exact (I22 _ _ rfl ho hs)) fun p vs q0 ho hs=>?_;subst q0
 have hl:s.heap.IsTuple p vs.toArray:=(ho.sub S.hs.zsub).tup
 have ne:p≠s.heap.objs.size:=by refine X0111 ho fun _ o q _=>?_;exact Nat.ne_of_lt (Heap.lt_size (S.hs.zsub _ _ q))
 have len:xs.length=vs.toArray.size:=hs.length.trans List.size_toArray
 refine (I46 ({cls:=.type "tuple_iterator",data:=.fields #[.ref p,.int 0 0]}) ([s.heap.objs.size,p]) (fun i v=>vs.toArray[i]? =some v) (fun i h=>h.IsTupleIter s.heap.objs.size p i∧h.IsTuple p vs.toArray) rfl ?_ ⟨⟨_,Heap.get?_push_size _ rfl,rfl,rfl⟩,hl.at fun o q=>Heap.get?_push_of_some _ q⟩ (fun i h q=>?_) (fun b m=>?_) (fun i v q=>?_) (fun Q X q=>wpAny_pyIter_tuple hl q))
 ·refine er len ?_;exact Walks.tuple O.hh s.heap.objs.size p ne vs.toArray
 ·refine X01 q fun q0 _=>?_;obtain ⟨o,e,_⟩:=q0;exact ⟨o,e⟩
 ·rcases List.mem_cons.mp m with e | m
  ·exact .inl e
  ·refine er (List.mem_singleton.mp m) ?_
   refine X0111 ho fun _ o q _=>?_
   exact .inr ⟨o,q⟩
 ·exact vals_at hs (by simpa using q)
theorem src_dict (J:Sound prog w K c){n:Nat}{it:E}{σ σ1:St}{ks:List Str}{ys:List AV}(hr:ev c n (.ex it) σ=some (.v (.nd (.dct ks) ys),σ1))(ob:AllP σ1.obl)(same:Same σ σ1):Src prog w K n it σ (ks.map .str) 1:=by
 refine src_ev J hr ob same fun {x Z ad s} O S v hv=>?_
 refine X22 (show∃p vs,v=.ref p∧ObjIs prog w Z p (.dct ks) vs∧Vals prog w Z ad ys vs from by
  cases hv with | nd ho hs=>exact (I22 _ _ rfl ho hs)) fun p vs q0 q6 hs=>?_;subst q0;obtain ⟨hm,o,ho,hlen,hd⟩:=q6
 have ho':=S.hs.zsub _ _ ho
 refine X24 hd fun es ep q1 q2 q3 q4 q5=>?_
 have ne:p≠s.heap.objs.size:=Nat.ne_of_lt (Heap.lt_size ho')
 have hat:s.heap.DictAt (PySem.strKind prog w) p (ks.zip vs) ep:=(I25 o es ho' q1 q2 q3 q4 q5)
 have len:(ks.map AV.str).length=(ks.zip vs).length:=by rw [List.length_map,List.length_zip,hlen,Nat.min_self]
 refine ⟨{cls:=.type "dict_keyiterator",data:=.fields #[.ref p,.int 0 0,.int (ks.zip vs).length 0,.int ep 0]},[s.heap.objs.size,p],fun i v=>∃k x,(ks.zip vs)[i]? =some (k,x)∧(PySem.strKind prog w).is k v=true,fun i h=>h.IsKeyIter s.heap.objs.size p i (ks.zip vs).length ep∧h.DictAt (PySem.strKind prog w) p (ks.zip vs) ep,rfl,(len.symm▸(Walks.dictKeys (knd:=PySem.strKind prog w) O.hh s.heap.objs.size p ne (ks.zip vs) ep)),⟨(I12 _ (Heap.get?_push_size _ rfl) rfl rfl),hat.at' fun o q=>Heap.get?_push_of_some _ q⟩,fun i h q=>?_,fun b m=>?_,fun i v q=>?_,fun Q X q=>wpAny_pyIter_dict hm hat q⟩
 ·refine X01 q fun q0 _=>?_;obtain ⟨o,e,_⟩:=q0;exact ⟨o,e⟩
 ·rcases List.mem_cons.mp m with e | m
  ·exact .inl e
  ·refine er (List.mem_singleton.mp m) ?_
   exact .inr ⟨o,ho⟩
 ·refine X21 q fun k y e1 e2=>?_
  refine X1 (Value.isStrOf_shape e2) fun t q0=>?_;subst q0
  refine (I11 (.str k) ?_ .str)
  refine er (List.getElem?_map) ?_
  have:=congrArg (Option.map Prod.fst) e1
  rw [←List.getElem?_map,List.map_fst_zip (Nat.le_of_eq (by assumption))] at this
  refine er this ?_;rfl
end
section
variable {prog:Program}{w:World}{K:Frag}{c:Cf}
noncomputable def upN (n:Nat):List AV:=(List.range n).map fun k=>.int (Int.ofNat k)
theorem upN_len (n:Nat):(upN n).length=n:=by unfold upN;rw [List.length_map,List.length_range]
theorem upN_get {n i:Nat}(h:i < n):(upN n)[i]? =some (.int (Int.ofNat i)):=by
 unfold upN;refine er (List.getElem?_map) (er (List.getElem?_range h) ?_);rfl
theorem src_range (G:Good K)(J:Sound prog w K c){n:Nat}{e:E}{fp p:Pos}{σ σ1:St}{i:Int}(hk:isG σ.kd (bnm .range)=true)(hr:ev c n (.ex e) σ=some (.v (.int i),σ1))(ob:AllP σ1.obl)(same:Same σ σ1)(q1:0≤i)(q2:i≤1000) :
  Src prog w K n (.calb .range fp [e] p) σ (upN i.toNat) 1:=by
 intro x Z ad s Q X O B S k
 refine wpAny_Call_NameR (r_blt O S G hk (callB (.inr ⟨_,rfl⟩) ?_))
 rw [star_cons]
 refine spliced_cons ?_
 refine (J.snd n).ex O (J.lim.symm▸B) hr ob S ?_
 intro Z' ad' h' tk sub pr S' v hv
 have S₁:Sit prog w K x σ Z' ad' h':=S'.same same
 have ea:ad'=ad:=pre_eq pr (S₁.hs.len.trans S.hs.len.symm)
 subst ea
 obtain ⟨ti,rfl⟩:∃t,v=.int i t:=by refine X1 hv.inv fun _ q3=>?_;subst q3;exact ⟨_,rfl⟩
 refine spliced_nil ?_
 refine call_range_1 ?_
 have hsz:Builtin.Range.rangeSize 0 i 1=(i.toNat:Int):=by rw [rangeSize_one];exact oa7 q1
 refine wpAny_pyIter_range (IsRange.new ..) (small_one (by decide) (by decide) (Int.le_trans (by decide) q1) (Int.lt_of_le_of_lt q2 (by decide))) ?_
 dsimp only
 refine X02 (S₁.layFrozen (h':=h'.push {cls:=.type "range",data:=.fields #[.int 0 tk,.int i ti,.int 1 (tk + 1)]}) (fun a o q=>Heap.get?_push_of_some _ q) (by rw [Heap.size_push];exact Nat.le_succ _)) fun sub₂ S₂ _=>?_
 refine X11 (lay_iter (o:={cls:=.type "range_iterator",data:=.fields #[rawInt 0,rawInt (Builtin.Range.rangeSize 0 i 1),rawInt 1]}) S₂ rfl) fun Z₃ sub₃ S₃=>?_
 have W:=(Walks.range (prog:=prog) (w:=w) (A:=x.A) O.hh ((h'.push {cls:=.type "range",data:=.fields #[.int 0 tk,.int i ti,.int 1 (tk + 1)]}).objs.size) 0 1 i.toNat).bound
 refine k Z₃ _ _ _ _ _ _ _ [_] ((sub.trans sub₂).trans sub₃) ⟨by rw [upN_len];exact W,rfl,rfl,?_,fun j hh q a m=>?_,fun b m=>.inl m,fun j v q=>?_,S₃⟩
 ·have hz:((h'.push {cls:=.type "range",data:=.fields #[.int 0 tk,.int i ti,.int 1 (tk + 1)]}).push {cls:=.type "range_iterator",data:=.fields #[rawInt 0,rawInt (Builtin.Range.rangeSize 0 i 1),rawInt 1]}).get?
    (h'.push {cls:=.type "range",data:=.fields #[.int 0 tk,.int i ti,.int 1 (tk + 1)]}).objs.size=some {cls:=.type "range_iterator",data:=.fields #[rawInt 0,rawInt (Builtin.Range.rangeSize 0 i 1),rawInt 1]}:=Heap.get?_push_size _ rfl
  have z1:(0 + ((0:Nat):Int) * 1)=0:=by simp
  have z2:((i.toNat:Int) - ((0:Nat):Int))=Builtin.Range.rangeSize 0 i 1:=by refine er hsz ?_;simp
  refine er z1 (er z2 ?_)
  exact hz
 ·refine er (List.mem_singleton.mp m) ?_;exact ⟨_,q⟩
 ·refine X011 q fun l t q0=>?_;subst q0
  refine (I11 _ (upN_get l) ?_)
  refine er (show (0 + (j:Int) * 1)=Int.ofNat j by simp) ?_
  exact .int
end
section
variable {prog:Program}{w:World}{K:Frag}{X:Value→Shared→Prop}{s:Shared}{Z:Heap}{ad:List Addr}{x:Fx}{σ τ:St}{h h':Heap}
theorem setH_append:∀(A B:HL) (j:Nat) (c:Tg×List AV),setH (A ++ B) (A.length + j) c=A ++ setH B j c
 | [],B,j,c=>by simp
 | x :: A,B,j,c=>by
  have ih:=setH_append A B j c
  refine er List.length_cons (er (show A.length + 1 + j=(A.length + j) + 1 by omega) (er List.cons_append ?_))
  show x :: setH (A ++ B) (A.length + j) c=_
  refine er ih ?_;rfl
theorem getH_at (A B:HL)(j:Nat):getH (A ++ B) (A.length + j)=getH B j:=by
 rw [getH_append,if_neg (o45),Nat.add_sub_cancel_left]
theorem Sit.setObj (S:Sit prog w K x τ Z ad h){r:Nat}{a:Addr}{o o':Obj}(ha:ad[r]? =some a)(e:getH τ.H r=some (.obj o,[]))(keep:∀b q,b≠a→h.get? b=some q→h'.get? b=some q)(live:h'.get? a=some o') :
  Sit prog w K x {τ with H:=setH τ.H r (.obj o',[])} Z ad h':=by
 have H:=S.hs
 have ma:a∈ad:=List.mem_of_getElem? ha
 have nL:x.env.locals≠a:=fun q=>not_L H.nd ma q.symm
 have npin:∀p∈x.pin,p.1≠a:=fun p m q=>by
  have nd:=H.nd
  unfold spec at nd
  rw [List.nodup_cons,List.nodup_append] at nd
  exact nd.2.2.2 _ (List.mem_map_of_mem m) _ ma q
 have ex:∀b∈spec x.env.locals x.pin ad,∃o,h'.get? b=some o:=fun b m=>by
  by_cases q:b=a
  ·exact ⟨o',q▸live⟩
  ·refine X1 (H.ex b m) fun o z=>?_
   exact ⟨o,keep b o q z⟩
 refine ⟨S.kd,S.stat,⟨H.nd,H.zn,fun b m=>?_,ex,fun p m=>?_,fun b q z=>keep b q (fun y=>?_) (H.zsub b q z),by rw [setH_len];exact H.len,fun k t xs q=>?_⟩,?_,S.cel⟩
 ·refine X1 (ex b m) fun o q=>?_;exact Heap.lt_size q
 ·refine X1 (H.pins p m) fun sl q=>?_
  exact ⟨sl,keep _ _ (npin p m) q⟩
 ·subst y
  rw [H.zn b (mem_spec.mpr (.inr (.inr ma)))] at z;cases z
 ·rw [getH_set (getH_lt e)] at q
  by_cases hk:k=r
  ·subst hk
   rw [if_pos rfl] at q
   cases Option.some.inj q
   refine X22 (H.emb _ _ _ e) fun a' vs h1 q0 _=>?_;obtain ⟨hm,_⟩:=q0
   rw [ha] at h1
   cases Option.some.inj h1
   exact (I22 a ([]) ha ⟨hm,o',live,rfl,rfl⟩ .nil)
  ·rw [if_neg hk] at q
   refine X22 (H.emb _ _ _ q) fun b vs h1 h2 h3=>?_
   exact (I22 b vs h1 (h2.at fun o z=>keep b o (fun y=>hk (at_inj (nodup_ad H.nd) h1 (y▸ha))) z) h3)
 ·refine X11 S.loc fun m q0 hlc=>?_;obtain ⟨o,es,ep,q1,q2⟩:=q0
  exact (I11 m ⟨o,es,ep,keep _ _ nL q1,q2⟩ hlc)
theorem Sit.obj_at (S:Sit prog w K x τ Z ad h){r:Nat}{a:Addr}{o:Obj}(ha:ad[r]? =some a)(e:getH τ.H r=some (.obj o,[])):h.get? a=some o:=by
 refine X22 (S.hs.emb _ _ _ e) fun a' vs h1 q0 _=>?_;obtain ⟨hm,o',ho,hi⟩:=q0
 rw [ha] at h1
 cases Option.some.inj h1
 refine X01 hi fun _ q0=>?_;subst q0
 exact ho
theorem Sit.pick {oI oC:Obj}{I D C:Addr}{ys:List AV}(S:Sit prog w K x {σ with H:=σ.H ++ [some (.obj oI,[]),some (.lst,ys),some (.obj oC,[])]} Z (ad ++ [I,D,C]) h)(hl:ad.length=σ.H.length)
  (F:∀os,FzS σ.H.length (σ.with os) σ) (hy:FroL ys) (keep:∀b o,b≠I→b≠C→h.get? b=some o→h'.get? b=some o) :
  Sit prog w K x {σ with H:=σ.H ++ [some (.lst,ys)]} Z (ad ++ [D]) h':=by
 have H:=S.hs
 have nd:=H.nd
 have e:spec x.env.locals x.pin (ad ++ [I,D,C])=spec x.env.locals x.pin ad ++ [I,D,C]:=by unfold spec;simp
 have e':spec x.env.locals x.pin (ad ++ [D])=spec x.env.locals x.pin ad ++ [D]:=by unfold spec;simp
 rw [e] at nd
 refine X02 (List.nodup_append.mp nd) fun n1 n2 n3=>?_
 have hID:I≠D:=by simp at n2;exact n2.1.1
 have hIC:I≠C:=by simp at n2;exact n2.1.2
 have hDC:D≠C:=by simp at n2;exact n2.2
 have up:∀a,a∈spec x.env.locals x.pin (ad ++ [D])→a∈spec x.env.locals x.pin (ad ++ [I,D,C]):=fun a m=>by
  rw [e'] at m;rw [e]
  rcases List.mem_append.mp m with m | m
  ·exact List.mem_append_left _ m
  ·refine er (List.mem_singleton.mp m) ?_;simp
 have nin:∀a,a∈spec x.env.locals x.pin (ad ++ [D])→a≠I∧a≠C:=fun a m=>by
  rw [e'] at m
  rcases List.mem_append.mp m with m | m
  ·exact ⟨n3 a m I (List.mem_cons_self),n3 a m C (List.mem_cons_of_mem _ (List.mem_cons_of_mem _ List.mem_cons_self))⟩
  ·refine er (List.mem_singleton.mp m) ?_;exact ⟨hID.symm,hDC⟩
 have zin:∀a o,Z.get? a=some o→a≠I∧a≠C:=fun a o q=>by
  constructor <;> (rintro rfl;rw [H.zn _ (by refine er e ?_;simp)] at q;cases q)
 have ex:∀a∈spec x.env.locals x.pin (ad ++ [D]),∃o,h'.get? a=some o:=fun a m=>by
  refine X1 (H.ex a (up a m)) fun o q=>?_
  exact ⟨o,keep a o (nin a m).1 (nin a m).2 q⟩
 refine ⟨S.kd,S.stat,⟨?_,fun a m=>H.zn a (up a m),fun a m=>?_,ex,fun p m=>?_,fun a o q=>keep a o (zin a o q).1 (zin a o q).2 (H.zsub a o q),?_,fun r t xs q=>?_⟩,?_,fun n b q=>?_⟩
 ·refine er e' ?_
  exact List.nodup_append.mpr (I02 n1 (by simp) (fun a ha b hb=>by refine er (List.mem_singleton.mp hb) ?_;exact n3 a ha D (by simp)))
 ·refine X1 (ex a m) fun o q=>?_;exact Heap.lt_size q
 ·refine X1 (H.pins p m) fun sl q=>?_
  have:=nin p.1 (mem_spec.mpr (.inr (.inl (List.mem_map_of_mem m))))
  exact ⟨sl,keep _ _ this.1 this.2 q⟩
 ·simp only [List.length_append,List.length_singleton];exact o174 hl
 ·replace q:getH (σ.H ++ [some (.lst,ys)]) r=some (t,xs):=q
  rw [getH_append] at q
  by_cases lt:r < σ.H.length
  ·rw [if_pos lt] at q
   refine X11 ((F []).cells.get q) fun xs' q1 q2=>?_
   have q1':getH (σ.H ++ Mine.objs []) r=some (t,xs'):=q1
   rw [getH_append,if_pos lt,q] at q1'
   cases Option.some.inj q1'
   refine X22 (H.emb r t xs (by show getH (σ.H ++ [some (.obj oI,[]),some (.lst,ys),some (.obj oC,[])]) r=_;refine er getH_append (er (if_pos lt) ?_);exact q)) fun a vs h1 h2 h3=>?_
   have la:r < ad.length:=Nat.lt_of_lt_of_eq (by assumption) (Eq.symm (by assumption))
   rw [List.getElem?_append_left la] at h1
   have na:=nin a (mem_spec.mpr (.inr (.inr (List.mem_append_left _ (List.mem_of_getElem? h1)))))
   exact (I22 a vs (by refine er (List.getElem?_append_left la) ?_;exact h1) (h2.at fun o ho=>keep a o na.1 na.2 ho) ((q2.low' hl rfl h3).mono (Sub.refl _) ⟨_,rfl⟩))
  ·rw [if_neg lt] at q
   have hr:r=σ.H.length:=by have:=getH_lt q;simp at this;exact o175 lt this
   subst hr
   rw [Nat.sub_self] at q
   cases q
   refine X22 (H.emb (σ.H.length + 1) .lst ys (by show getH (σ.H ++ [some (.obj oI,[]),some (.lst,ys),some (.obj oC,[])]) _=_;rw [getH_at];rfl)) fun a vs h1 h2 h3=>?_
   rw [List.getElem?_append_right (o176 hl),hl,Nat.add_sub_cancel_left] at h1
   cases h1
   refine (I22 D vs (by rw [List.getElem?_append_right (Nat.le_of_eq (by assumption)),hl,Nat.sub_self];rfl) (h2.at fun o ho=>keep D o hID.symm hDC ho) ?_)
   exact (FzL.low' (n0:=σ.H.length) (H:=[]) (ad:=ad) (its:=[I,D,C]) hl hy.fz rfl h3).mono (Sub.refl _) ⟨_,rfl⟩
 ·refine X11 S.loc fun m q0 hlc=>?_;obtain ⟨o,es,ep,q1,q2⟩:=q0
  have na:=nin _ (show x.env.locals∈spec x.env.locals x.pin (ad ++ [D]) from .head _)
  refine (I11 m ⟨o,es,ep,keep _ _ na.1 na.2 q1,q2⟩ (fun n b q=>?_))
  refine X11 ((F []).loc.get q) fun a q3 q4=>?_
  have q5:lkA n σ.loc=some a:=q3
  have q':lkA n σ.loc=some b:=q
  rw [q'] at q5
  cases Option.some.inj q5
  refine X11 (hlc n _ q3) fun v q6 q7=>?_
  exact (I11 v q6 ((q4.low' hl rfl q7).mono (Sub.refl _) ⟨_,rfl⟩))
 ·refine X11 ((F []).cel.get q) fun a q3 q4=>?_
  have q5:lkA n σ.cel=some a:=q3
  have q':lkA n σ.cel=some b:=q
  rw [q'] at q5
  cases Option.some.inj q5
  refine X11 (S.cel n _ q3) fun c q6 q7=>?_
  exact (I11 c q6 ((q4.low' hl rfl q7).mono (Sub.refl _) ⟨_,rfl⟩))
end
section
variable {prog:Program}{w:World}{K:Frag}{X:Value→Shared→Prop}{s:Shared}{Z:Heap}{ad:List Addr}{x:Fx}{σ τ:St}{h h':Heap}
noncomputable def cmpSt (σ:St)(oI:Obj)(ys:List AV)(oC:Obj):St:={σ with H:=σ.H ++ [some (.obj oI,[]),some (.lst,ys),some (.obj oC,[])]}
structure EltOk (prog:Program) (w:World) (K:Frag) (x:Fx) (σ:St) (elt:E) (sc:Nat) (cl:List (Str×Addr)) (y:Nat) (a b:AV):Prop where
 run:∀{Z:Heap} {ad:List Addr} {s:Shared} {C I' D':Addr} {oI oC:Obj} {ys:List AV} {m:Str→Option Value} {v:Value} {Q X:Value→Shared→Prop},ad.length=σ.H.length→
  Sit prog w K x (cmpSt σ oI ys oC) Z (ad ++ [I',D',C]) s.heap→s.heap.Ns C m→m (nm y)=some v→Val prog w Z (ad ++ [I',D',C]) a v→
  (∀Z' h' tk r,Sub Z Z'→Sit prog w K x (cmpSt σ oI ys oC) Z' (ad ++ [I',D',C]) h'→Val prog w Z' (ad ++ [I',D',C]) b r→Q r ⟨h',s.gens,s.drawn,tk,s.os⟩)→
  wpAny (model prog w) x.A (eval (dec elt) (compEnvC (csc sc) cl C x.env)) Q X s
theorem cmp_I {oI oC o:Obj}{ys:List AV}:({cmpSt σ oI ys oC with H:=setH (cmpSt σ oI ys oC).H σ.H.length (.obj o,[])}:St)=cmpSt σ o ys oC:=by
 have:=setH_append σ.H [some (.obj oI,[]),some (.lst,ys),some (.obj oC,[])] 0 (.obj o,[])
 unfold cmpSt
 rw [Nat.add_zero] at this
 refine er this ?_;rfl
theorem cmp_D {oI oC:Obj}{ys zs:List AV}:({cmpSt σ oI ys oC with H:=setH (cmpSt σ oI ys oC).H (σ.H.length + 1) (.lst,zs)}:St)=cmpSt σ oI zs oC:=by
 unfold cmpSt
 rw [setH_append];rfl
theorem cmp_C {oI oC o:Obj}{ys:List AV}:({cmpSt σ oI ys oC with H:=setH (cmpSt σ oI ys oC).H (σ.H.length + 2) (.obj o,[])}:St)=cmpSt σ oI ys o:=by
 unfold cmpSt
 rw [setH_append];rfl
theorem cmp_at {oI oC:Obj}{ys:List AV}:getH (cmpSt σ oI ys oC).H σ.H.length=some (.obj oI,[])∧getH (cmpSt σ oI ys oC).H (σ.H.length + 1)=some (.lst,ys)∧getH (cmpSt σ oI ys oC).H (σ.H.length + 2)=some (.obj oC,[]):=by
 unfold cmpSt
 refine (I02 ?_ ?_ ?_)
 ·have:=getH_at σ.H [some (.obj oI,[]),some (.lst,ys),some (.obj oC,[])] 0
  rw [Nat.add_zero] at this
  refine er this ?_;rfl
 ·rw [getH_at];rfl
 ·rw [getH_at];rfl
theorem ad_at {ad:List Addr}{n:Nat}{I D C:Addr}(hl:ad.length=n):(ad ++ [I,D,C])[n]? =some I∧(ad ++ [I,D,C])[n + 1]? =some D∧(ad ++ [I,D,C])[n + 2]? =some C:=by
 subst hl
 refine (I02 ?_ ?_ ?_) <;> (rw [List.getElem?_append_right (by omega)];simp)
theorem Sit.off {C:Addr}(S:Sit prog w K x σ Z ad h)(nC:C ∉ spec x.env.locals x.pin ad)(zC:Z.get? C=none)(keep:∀b o,b≠C→h.get? b=some o→h'.get? b=some o):Sit prog w K x σ Z ad h':=by
 have H:=S.hs
 have ne:∀a∈spec x.env.locals x.pin ad,a≠C:=fun a m q=>nC (q▸m)
 have ex:∀a∈spec x.env.locals x.pin ad,∃o,h'.get? a=some o:=fun a m=>by
  refine X1 (H.ex a m) fun o q=>?_
  exact ⟨o,keep a o (ne a m) q⟩
 refine ⟨S.kd,S.stat,⟨H.nd,H.zn,fun a m=>?_,ex,fun p m=>?_,fun a o q=>keep a o (by rintro rfl;rw [zC] at q;cases q) (H.zsub a o q),H.len,fun r t xs q=>?_⟩,?_,S.cel⟩
 ·refine X1 (ex a m) fun o q=>?_;exact Heap.lt_size q
 ·refine X1 (H.pins p m) fun sl q=>?_
  exact ⟨sl,keep _ _ (ne _ (mem_spec.mpr (.inr (.inl (List.mem_map_of_mem m))))) q⟩
 ·refine X22 (H.emb r t xs q) fun a vs h1 h2 h3=>?_
  exact (I22 a vs h1 (h2.at fun o z=>keep a o (ne a (mem_spec.mpr (.inr (.inr (List.mem_of_getElem? h1))))) z) h3)
 ·refine X11 S.loc fun m hn hl=>?_
  refine X31 hn fun o es ep q1 q2=>?_
  exact (I11 m ⟨o,es,ep,keep _ _ (ne _ (.head _)) q1,q2⟩ hl)
inductive CoI (prog:Program) (w:World) (K:Frag) (x:Fx) (σ:St) (n:Nat) (ys:List AV) (ad:List Addr) (q:Addr×Addr×Addr) (Z:Heap) (Sx:Nat→Heap→Prop) (s:Shared):Nat→Shared→Prop
 | mk {i:Nat} {oI oC:Obj} {Z₂ h:Heap} {tk:Nat} {m:Str→Option Value} (hi:i≤n) (S:Sit prog w K x (cmpSt σ oI (ys.take i) oC) Z₂ (ad ++ [q.1,q.2.1,q.2.2]) h) (sb:Sub Z Z₂) (st:Sx i h) (hn:h.Ns q.2.2 m):CoI prog w K x σ n ys ad q Z Sx s (n - i) ⟨h,s.gens,s.drawn,tk,s.os⟩
theorem comp_core {D:Nat}{elt it:E}{y sc:Nat}{yp p:Pos}{xs ys:List AV}{cl:List (Str×Addr)}{Q:Value→Shared→Prop}(O:x.Ok)(B:x.A.depth + D < 900)(S:Sit prog w K x σ Z ad s.heap)
  (src:Src prog w K D it σ xs 1) (low:∀os,FzS σ.H.length (σ.with os) σ) (hclos:closureFor (csc sc) x.env=pure cl) (hcell:∀q∈csn sc,q.2≠.cell) (hnames:∀q∈csn sc,q.2=.local→(csn sc).lookup q.1=some .local)
  (hx:(csn sc).lookup (nm y)=some .local) (hlen:xs.length≤5000) (hy:ys.length=xs.length) (helt:∀(i:Nat) a b,xs[i]? =some a→ys[i]? =some b→EltOk prog w K x σ elt sc cl y a b) (hg:FroL ys)
  {use:Option (Value→Sem Unit)} {pp:Pos} (hQ:∀f Z₂ h₃ tk₃ D C m,Sub Z Z₂→h₃.Ns C m→C ∉ spec x.env.locals x.pin (ad ++ [D])→Z₂.get? C=none→Sit prog w K x {σ with H:=σ.H ++ [some (.lst,ys)]} Z₂ (ad ++ [D]) h₃→compPost (model prog w) x.A X use Q (.ref D) C (.ok f) ⟨h₃,s.gens,s.drawn,tk₃,s.os⟩) :
  wpAny (model prog w) x.A (comprehension (.ListComp (dec elt) [⟨.Name (nm y) yp,dec it,[],0⟩] (csc sc) p) (csc sc) x.env pp (newList []) false (eval (dec it) x.env) use) Q X s:=by
 have hl:=S.hs.len
 refine wpAny_comprehension_free (use:=use) rfl (fun _=>fold_dec it _ _) hclos rfl hnames ?_
 refine src O B S fun Z' h' tk I its fp P Sx os sub T=>?_
 refine X1 (show∃o,os= [o] from List.length_eq_one_iff.mp T.olen) fun oI q0=>?_;subst q0
 refine X1 (show∃o,its= [o] from List.length_eq_one_iff.mp T.len) fun I₀ q0=>?_;subst q0
 refine wpAny_newObj_type (wpAny_newFunctionEnv hcell (by intro y hy;simp at hy) (fun h₁ hns₁ hsb₁=>?_) rfl)
 dsimp only at hns₁ hsb₁ ⊢
 have hD:(h'.push {cls:=.type "list",dict:=none,data:=.seq ([]:List Value).toArray}).get? h'.objs.size=some {cls:=.type "list",dict:=none,data:=.seq ([]:List Value).toArray}:=Heap.get?_push_size _ rfl
 have hsz:(h'.push {cls:=.type "list",dict:=none,data:=.seq ([]:List Value).toArray}).objs.size=h'.objs.size + 1:=Heap.size_push ..
 have up0:Sub h' (h'.push {cls:=.type "list",dict:=none,data:=.seq ([]:List Value).toArray}):=fun a o q=>Heap.get?_push_of_some _ q
 generalize h'.push {cls:=.type "list",dict:=none,data:=.seq ([]:List Value).toArray}=H2 at hns₁ hsb₁ hD hsz up0 ⊢
 generalize hCe:H2.objs.size=C at hns₁ hsb₁ ⊢
 generalize hDe:h'.objs.size=D₀ at hD ⊢
 have hC1:C=D₀ + 1:=o76 hsz hCe hDe
 have hDC:D₀≠C:=o77 hC1
 have low':=PyProof.Rows.modules_low (T.sit.stat.lim.keeps T.sit.hs.zsub)
 have hs1:h₁.objs.size=C + 1:=by have:=hsb₁.1;simp only [Heap.size_push] at this;exact o78 hCe this
 have old:∀a o,h'.get? a=some o→a≠C∧a≠D₀:=fun a o q=>by
  have l:a < D₀:=hDe▸Heap.lt_size q
  exact ⟨Nat.ne_of_lt (Nat.lt_trans l (hC1▸Nat.lt_succ_self _)),Nat.ne_of_lt l⟩
 have l1:h'.objs.size≤D₀:=Nat.le_of_eq hDe
 have l2:D₀ < h₁.objs.size:=o79 hC1 hs1
 have l3:h'.objs.size≤C:=o80 hs1 l1 l2
 have l4:C < h₁.objs.size:=Nat.le_of_eq (Eq.symm (by assumption))
 have l5:sysModules < D₀:=hDe▸low'
 have l6:sysModules < C:=Nat.lt_trans l5 (hC1▸Nat.lt_succ_self _)
 have keep01:Sub h' h₁:=fun a o q=>(hsb₁.2 a (old a o q).1).trans (Heap.get?_push_of_some _ (up0 a o q))
 refine X31 hns₁ fun oC es₀ ep₀ hoC hoC'=>?_
 have hD₁:h₁.get? D₀=some {cls:=.type "list",dict:=none,data:=.seq ([]:List Value).toArray}:=(hsb₁.2 D₀ hDC).trans (Heap.get?_push_of_some _ hD)
 obtain ⟨sub₁,S₁⟩:=T.sit.lay (h':=h₁) keep01 (o81 l3 l4) [D₀,C] [(.lst,[]),(.obj oC,[])] fun Z' _=>.cons l1 (I01111 (beq_eq_false_iff_ne.mpr (Nat.ne_of_gt l5)) _ hD₁ 0 rfl) .nil (.cons (Nat.le_of_eq hC1.symm) (I0112 (beq_eq_false_iff_ne.mpr (Nat.ne_of_gt l6)) oC hoC rfl rfl) .nil .nil)
 have hfp:∀b∈fp,(∃o,h'.get? b=some o)∧(b=I₀∨∃o,Z'.get? b=some o):=fun b m=>by
  rcases T.fps b m with q | ⟨o,q⟩
  ·refine er (List.mem_singleton.mp q) ?_
   exact ⟨⟨oI,(T.sit.objAt hl (j:=0) rfl rfl).1⟩,.inl rfl⟩
  ·exact ⟨⟨o,T.sit.hs.zsub _ _ q⟩,.inr ⟨o,q⟩⟩
 have hIC:I₀≠C∧I₀≠D₀:=old I₀ oI (T.sit.objAt hl (j:=0) rfl rfl).1
 generalize Zof x.env.locals x.pin (ad ++ [I₀] ++ [D₀,C]) h₁=Z₁ at sub₁ S₁
 have S₁:Sit prog w K x (cmpSt σ oI [] oC) Z₁ (ad ++ [I₀,D₀,C]) h₁:=by simpa [cmpSt,St.with,Mine.objs] using S₁
 have stay:∀{i:Nat} {h₂ h₃:Heap} {oI' oC' oC'':Obj} {ys ys':List AV} {Z₂ Z₃:Heap},Sx i h₂→Sub Z' Z₂→Sub Z' Z₃→Sit prog w K x (cmpSt σ oI' ys oC') Z₂ (ad ++ [I₀,D₀,C]) h₂→Sit prog w K x (cmpSt σ oI' ys' oC'') Z₃ (ad ++ [I₀,D₀,C]) h₃→Sx i h₃:=by
  intro i h₂ h₃ oI' oC' oC'' ys ys' Z₂ Z₃ st s2 s3 A B
  refine T.walks.frame i h₂ h₃ st fun b hb o q=>?_
  rcases (hfp b hb).2 with rfl | ⟨o',z⟩
  ·have q1:=A.obj_at (ad_at hl).1 cmp_at.1
   have q2:=B.obj_at (ad_at hl).1 cmp_at.1
   rw [q] at q1
   exact er q2 (re q1 rfl)
  ·have z1:=A.hs.zsub _ _ (s2 _ _ z)
   rw [q] at z1
   cases Option.some.inj z1
   exact B.hs.zsub _ _ (s3 _ _ z)
 have loop:∀tk₁,codeAny (model prog w) x.A (.compLoop (.ListComp (dec elt) [⟨.Name (nm y) yp,dec it,[],0⟩] (csc sc) p) 0 (.ref I) (.ref D₀) (compEnvC (csc sc) cl C x.env)) (compPost (model prog w) x.A X use Q (.ref D₀) C) ⟨h₁,s.gens,s.drawn,tk₁,s.os⟩:=by
  intro tk₁
  generalize hR:compPost (model prog w) x.A X use Q (.ref D₀) C=R
  refine codeAny_compLoop_tests (CoI prog w K x σ xs.length ys ad (I₀,D₀,C) Z' Sx s) ?_ xs.length (CoI.mk (q:=(I₀,D₀,C)) (i:=0) (Nat.zero_le _) S₁ sub₁ (T.walks.frame 0 h' h₁ T.start fun b _ o q=>keep01 b o q) ⟨oC,es₀,ep₀,hoC,hoC'⟩)
  intro m s' hI
  cases hI with
  | @mk i oI₂ oC₂ Z₂ h₂ tk₂ m₂ hi S₂ sub₂ st₂ hn₂=>
  by_cases lt:i < xs.length
  ·refine T.walks.item i ⟨h₂,_,_,_,_⟩ _ _ lt st₂ fun v h₃ tk₃ hP st₃ keep₃=>?_
   refine X11 (T.vals i v hP) fun a ha hv=>?_
   refine X1 (T.live _ _ st₃ I₀ (List.mem_cons_self)) fun oI₃ hoI₃=>?_
   have S₃:=S₂.setObj (ad_at hl).1 cmp_at.1 (fun b q hb z=>keep₃ b q (by simpa using hb) z) hoI₃
   rw [cmp_I] at S₃
   have hn₃:h₃.Ns C m₂:=by
    refine X31 hn₂ fun o es ep q1 q2=>?_
    exact (I31 o es ep (keep₃ _ _ (by simpa using hIC.1.symm) q1) q2)
   refine wpAny_assign_Name (wpAny_storeName_local (lookup_relabel_local hx) hn₃ (fun h₄ hn₄ sb₄=>?_) (rfl))
   dsimp only at hn₄ sb₄ ⊢
   refine X31 (id hn₄) fun oC₄ es₄ ep₄ hoC₄ hoC₄'=>?_
   have S₄:=S₃.setObj (ad_at hl).2.2 cmp_at.2.2 (fun b q hb z=>(sb₄.2 b hb).trans z) hoC₄
   rw [cmp_C] at S₄
   have st₄:Sx (i + 1) h₄:=T.walks.frame _ h₃ h₄ st₃ fun b hb o q=>by
    refine X01 (hfp b hb) fun q0 _=>?_;obtain ⟨o',z⟩:=q0
    exact (sb₄.2 b (old b o' z).1).trans q
   refine wpAny_pure (a:=true) ?_
   refine er (if_pos rfl) ?_
   have hb:ys[i]? =some ys[i]:=List.getElem?_eq_getElem (Nat.lt_of_lt_of_eq (by assumption) (Eq.symm (by assumption)))
   refine (helt i a _ ha hb).run (s:=⟨h₄,_,_,_,_⟩) hl S₄ hn₄ (by simp) (hv.mono sub₂ ⟨_,rfl⟩) fun Z₅ h₅ tk₅ r sub₅ S₅ hr=>?_
   have st₅:Sx (i + 1) h₅:=stay st₄ sub₂ (sub₂.trans sub₅) S₄ S₅
   refine m_append (a:=AV.none) (s:=⟨h₅,_,_,_,_⟩) (r:=σ.H.length + 1) S₅ (.ref (ad_at hl).2.1) cmp_at.2.1 hr (by show _≤_;refine er List.length_take ?_;exact o82 hlen lt) ?_
   intro Z₆ ad₆ h₆ tk₆ sub₆ pr₆ S₆
   rw [cmp_D] at S₆
   have ea:ad₆=ad ++ [I₀,D₀,C]:=pre_eq pr₆ (by refine er S₆.hs.len (er S₅.hs.len ?_);unfold cmpSt;simp)
   subst ea
   have hys:(ys.take i) ++ [ys[i]]=ys.take (i + 1):=by
    refine er List.take_add_one (er hb ?_);exact rfl
   rw [hys] at S₆
   have hoC₆:=S₆.obj_at (ad_at hl).2.2 cmp_at.2.2
   exact ⟨xs.length - (i + 1),Nat.sub_lt_sub_left lt (Nat.lt_succ_self _),CoI.mk (q:=(I₀,D₀,C)) lt S₆ ((sub₂.trans sub₅).trans sub₆) (stay st₅ (sub₂.trans sub₅) ((sub₂.trans sub₅).trans sub₆) S₅ S₆) ⟨_,es₄,ep₄,hoC₆,hoC₄'⟩⟩
  ·have ei:i=xs.length:=Nat.le_antisymm (by assumption) (Nat.le_of_not_lt (by assumption))
   subst ei
   refine T.walks.done ⟨h₂,_,_,_,_⟩ _ _ st₂ fun h₃ tk₃ keep₃=>?_
   dsimp only at keep₃ ⊢
   refine X31 hn₂ fun o es ep q1 q2=>?_
   rw [←hy,List.take_length] at S₂
   have S₅:=S₂.pick (h':=h₃) hl low hg (fun b o hb hc q=>keep₃ b o (by simpa using hb) q)
   have nd6:=S₂.hs.nd
   have e7:spec x.env.locals x.pin (ad ++ [I₀,D₀,C])=spec x.env.locals x.pin ad ++ [I₀,D₀,C]:=by unfold spec;simp
   have e8:spec x.env.locals x.pin (ad ++ [D₀])=spec x.env.locals x.pin ad ++ [D₀]:=by unfold spec;simp
   rw [e7] at nd6
   refine X02 (List.nodup_append.mp nd6) fun n1 n2 n3=>?_
   have nC:C ∉ spec x.env.locals x.pin (ad ++ [D₀]):=fun q=>by
    rw [e8] at q
    rcases List.mem_append.mp q with q | q
    ·exact n3 C q C (List.mem_cons_of_mem _ (List.mem_cons_of_mem _ List.mem_cons_self)) rfl
    ·exact hDC (List.mem_singleton.mp q).symm
   subst hR
   exact hQ _ Z₂ h₃ tk₃ D₀ C m₂ (sub.trans sub₂) (I31 o es ep (keep₃ _ _ (by simpa using hIC.1.symm) q1) q2) nC (S₂.hs.zn C (by refine er e7 ?_;simp)) S₅
 exact codeAny_compStart_list (loop _) (T.walks.self 0 _ _ _ (T.walks.frame 0 h' h₁ T.start fun b _ o q=>keep01 b o q) (loop _))
theorem comp_rule {D:Nat}{elt it:E}{y sc:Nat}{yp p:Pos}{xs ys:List AV}{cl:List (Str×Addr)}{Q:Value→Shared→Prop}(O:x.Ok)(B:x.A.depth + D < 900)(S:Sit prog w K x σ Z ad s.heap)
  (src:Src prog w K D it σ xs 1) (low:∀os,FzS σ.H.length (σ.with os) σ) (hclos:closureFor (csc sc) x.env=pure cl) (hcell:∀q∈csn sc,q.2≠.cell) (hnames:∀q∈csn sc,q.2=.local→(csn sc).lookup q.1=some .local)
  (hx:(csn sc).lookup (nm y)=some .local) (hlen:xs.length≤5000) (hy:ys.length=xs.length) (helt:∀(i:Nat) a b,xs[i]? =some a→ys[i]? =some b→EltOk prog w K x σ elt sc cl y a b) (hg:FroL ys)
  (hQ:OkS prog w K x Z ad s {σ with H:=σ.H ++ [some (.lst,ys)]} fun Z' ad' s'=>∀v,Val prog w Z' ad' (.ref σ.H.length) v→Q v s') :
  wpAny (model prog w) x.A (eval (dec (.cmpr elt y yp it sc p)) x.env) Q X s:=by
 have hl:=S.hs.len
 refine er (show dec (.cmpr elt y yp it sc p)=.ListComp (dec elt) [⟨.Name (nm y) yp,dec it,[],0⟩] (csc sc) p from rfl) ?_
 rw [eval_ListComp]
 refine comp_core O B S src low hclos hcell hnames hx hlen hy helt hg fun f Z₂ h₃ tk₃ D C m sub hn nC zC S₃=>?_
 refine (I11 m hn (fun h₄ sb₄=>?_))
 refine hQ Z₂ _ h₄ tk₃ sub ⟨_,rfl⟩ (S₃.off nC zC fun b o hb q=>(sb₄.2 b hb).trans q) _ (.ref ?_)
 rw [List.getElem?_append_right (Nat.le_of_eq (by assumption)),hl,Nat.sub_self];rfl
end
section
variable {prog:Program}{w:World}{K:Frag}{c:Cf}{σ:St}
inductive FoI (prog:Program) (w:World) (K:Frag) (x:Fx) (J:Nat→St→Prop) (q:Nat×Nat×Addr×Addr) (ad:List Addr) (Z:Heap) (s:Shared):Nat→Shared→Prop
 | mk {i:Nat} {σ':St} {Z₂:Heap} {oI oE:Obj} {old:Value} {h:Heap} {tk:Nat} (hi:i≤q.2.1) (hJ:J i σ') (hl:σ'.H.length=q.1) (sb:Sub Z Z₂) (S:Sit prog w K x (σ'.with [oI,oE]) Z₂ (ad ++ [q.2.2.1,q.2.2.1 + 1]) h)
  (he:IsEnum h (q.2.2.1 + 1) q.2.2.1 ((i:Nat):Int) old) (hit:h.IsListIter q.2.2.1 q.2.2.2 i):FoI prog w K x J q ad Z s (q.2.1 - i) ⟨h,s.gens,s.drawn,tk,s.os⟩
theorem Trip.fore (G:Good K)(Js:Sound prog w K c){D y z k:Nat}{yp zp tp cp fp:Pos}{it:E}{body:List S}{p:Pos}{xs:List AV}{σ1:St}(J:Nat→St→Prop)(hen:isG σ.kd (bnm .enum)=true)
  (hr:Mine.ev c D (.ex it) σ=some (.v (.nd .lst xs),σ1)) (ob:AllP σ1.obl) (same:Same σ σ1) (h0:J 0 σ) (hk:∀i σ,J i σ→isL σ.kd y=true∧isL σ.kd z=true)
  (low:∀i σ os,J i σ→FzS σ.H.length (σ.with os) σ)
  (step:∀i a σ os,J i σ→xs[i]? =some a→Trip prog w K D body {σ.with os with loc:=stA z a (stA y (.int (Int.ofNat i)) σ.loc)} fun r=>∃σ',r=(.nx,σ'.with os)∧J (i + 1) σ'∧σ'.H.length=σ.H.length) :
  Trip prog w K D [.forp y yp z zp k tp (.calb .enum fp [it] cp) body p] σ fun r=>∃σ',r=(.nx,σ')∧J xs.length σ':=by
 refine ⟨?_⟩
 intro x Z ad s Q X O B S k₀
 refine wpAny_execs_cons ?_
 refine wpAny_For ?_ (fun _=>fold_dec _ _ _)
 have hl:=S.hs.len
 refine wpAny_Call_NameR (r_blt O S G hen (callB (.inr ⟨_,rfl⟩) ?_))
 rw [star_cons]
 refine spliced_cons ?_
 refine (Js.snd D).ex O (Js.lim.symm▸B) hr ob S ?_
 intro Z' ad' h' tk sub pr S' v hv
 have S₁:Sit prog w K x σ Z' ad' h':=S'.same same
 have ea:ad'=ad:=pre_eq pr (S₁.hs.len.trans S.hs.len.symm)
 subst ea
 refine spliced_nil ?_
 refine X22 hv.inv fun l vs q0 ho hs=>?_;subst q0
 refine X01111 (id ho) fun hm o ho₁ n q0=>?_;subst q0
 have hol:h'.get? l=some {cls:=.type "list",data:=.seq vs.toArray n}:=S₁.hs.zsub _ _ ho₁
 refine call_enumerate_1 (s:=⟨h',_,_,_,_⟩) hol fun h₁ he hit hsz keep=>?_
 refine wpAny_pyIter_enum he ?_
 generalize hIt:h'.objs.size=I at he hit hsz ⊢
 have low':=PyProof.Rows.modules_low (S₁.stat.lim.keeps S₁.hs.zsub)
 have l1:h'.objs.size≤I:=Nat.le_of_eq hIt
 have l2:I < h₁.objs.size:=o95 hsz
 have l3:h'.objs.size≤I + 1:=Nat.le_succ_of_le (by assumption)
 have l4:I + 1 < h₁.objs.size:=Nat.le_of_eq (Eq.symm (by assumption))
 have l5:sysModules < I:=hIt▸low'
 have l6:sysModules < I + 1:=Nat.lt_succ_of_lt l5
 refine X11 (id hit) fun oI hoI hoI'=>?_
 obtain ⟨sub₁,S₂⟩:=S₁.lay (h':=h₁) keep (o96 l3 l4) [I,I + 1] [(.obj oI,[]),(.obj _,[])] fun Z' _=>.cons l1 (I0112 (beq_eq_false_iff_ne.mpr (Nat.ne_of_gt l5)) oI hoI rfl rfl) .nil (.cons (Nat.le_refl _) (I0112 (beq_eq_false_iff_ne.mpr (Nat.ne_of_gt l6)) _ he rfl rfl) .nil .nil)
 generalize Zof x.env.locals x.pin (ad' ++ [I,I + 1]) h₁=Z₁ at sub₁ S₂
 have S₂:Sit prog w K x (σ.with [oI,_]) Z₁ (ad' ++ [I,I + 1]) h₁:=S₂
 have hll:l < I:=hIt▸Heap.lt_size hol
 have nli:l≠I:=Nat.ne_of_lt hll
 have nle:l≠I + 1:=Nat.ne_of_lt (Nat.lt_succ_of_lt hll)
 have nie:I + 1≠I:=Nat.succ_ne_self I
 have lsz:xs.length=vs.toArray.size:=hs.length.trans List.size_toArray
 refine codeAny_forLoop_any (FoI prog w K x J (σ.H.length,xs.length,I,l) ad' Z' s) ?_ xs.length (FoI.mk (q:=(σ.H.length,xs.length,I,l)) (i:=0) (Nat.zero_le _) h0 rfl sub₁ S₂ he hit)
 intro m s' hP
 cases hP with
 | @mk i σ₂ Z₂ oI₂ oE₂ old h₂ tk₂ hi hJ hlen sub₂ S₃ he₂ hit₂=>
 dsimp only at S₃ he₂ hit₂
 have hl₂:ad'.length=σ₂.H.length:=hl.trans hlen.symm
 have holz:h₂.get? l=some {cls:=.type "list",data:=.seq vs.toArray n}:=S₃.hs.zsub _ _ (sub₂ _ _ ho₁)
 have hl₃:h₂.IsList l vs.toArray:=(I121 _ holz rfl n rfl)
 by_cases lt:i < xs.length
 ·refine X1 (show∃v,vs.toArray[i]? =some v from ⟨_,Array.getElem?_eq_getElem (Nat.lt_of_lt_of_eq lt lsz)⟩) fun v hvx=>?_
  refine X11 (vals_at hs (i:=i) (v:=v) (by simpa using hvx)) fun a ha hva=>?_
  refine wpAny_pyNext_enum_item (s:=⟨h₂,_,_,_,_⟩) he₂ hit₂ hl₃ hvx nie fun h₃ heo hit₃ ht₃ hz₃ hk₃=>?_
  dsimp only at heo ht₃ hz₃ hk₃ ⊢
  refine wpAny_letOwnedTupleGo_enum (s:=⟨h₃,_,_,_,_⟩) heo fun h₄ he₄ sb₄=>?_
  dsimp only at sb₄ ⊢
  refine X11 hit₃ fun oI₄ hoI₄ hoI₄'=>?_
  have hoI₄:h₄.get? I=some oI₄:=(sb₄.2 I nie.symm).trans hoI₄
  have S₄:Sit prog w K x (σ₂.with [oI₄,_]) Z₂ (ad' ++ [I,I + 1]) h₄:=S₃.objs (h':=h₄) (os':=[oI₄,_]) hl₂ rfl rfl (fun b o hb q=>by
    simp only [List.mem_cons,List.not_mem_nil,or_false,not_or] at hb
    exact (sb₄.2 b hb.2).trans (hk₃ b o hb.2 hb.1 q)) (fun j b o q1 q2=>by
    cases j with
    | zero=>cases q1;cases q2;exact hoI₄
    | succ j=>
     cases j with
     | zero=>cases q1;cases q2;exact he₄
     | succ j=>simp at q1)
  have ne₄:h₂.objs.size≠I + 1:=Nat.ne_of_gt (Heap.lt_size he₂)
  have ht₄:h₄.IsTuple h₂.objs.size #[.int i tk₂,v]:=(I121 _ ((sb₄.2 _ ne₄).trans ht₃) rfl _ rfl)
  refine wpAny_assign_Tuple (s:=⟨h₄,_,_,_,_⟩) O.hh ht₄ rfl rfl fun h₅ eb₅=>?_
  have S₅:=S₄.ext (h':=h₅) eb₅
  have st₅:IsEnum h₅ (I + 1) I ((i:Int) + 1) v∧h₅.IsListIter I l (i + 1):=⟨eb₅ _ _ (Nat.ne_of_lt (Heap.lt_size he₄)) he₄,(I11 oI₄ (eb₅ _ _ (Nat.ne_of_lt (Heap.lt_size hoI₄)) hoI₄) hoI₄')⟩
  have stay:∀{σ' σ'':St} {h₅ h₆:Heap} {oI oE:Obj} {Z₅ Z₆:Heap},σ'.H.length=σ.H.length→σ''.H.length=σ.H.length→Sit prog w K x (σ'.with [oI,oE]) Z₅ (ad' ++ [I,I + 1]) h₅→Sit prog w K x (σ''.with [oI,oE]) Z₆ (ad' ++ [I,I + 1]) h₆→
    IsEnum h₅ (I + 1) I ((i:Int) + 1) v∧h₅.IsListIter I l (i + 1)→IsEnum h₆ (I + 1) I ((i:Int) + 1) v∧h₆.IsListIter I l (i + 1):=by
   intro σ' σ'' h₅ h₆ oI oE Z₅ Z₆ q1 q2 A B st
   have a1:=(A.objAt (hl.trans q1.symm) (j:=0) rfl rfl).1
   have a2:=(A.objAt (hl.trans q1.symm) (j:=1) rfl rfl).1
   have b1:=(B.objAt (hl.trans q2.symm) (j:=0) rfl rfl).1
   have b2:=(B.objAt (hl.trans q2.symm) (j:=1) rfl rfl).1
   refine X01 st fun e1 q0=>?_;obtain ⟨o,e2,e3⟩:=q0
   rw [a1] at e2
   cases Option.some.inj e2
   have e1':h₅.get? (I + 1)=_:=e1
   rw [a2] at e1'
   cases Option.some.inj e1'
   exact ⟨b2,(I11 _ b1 e3)⟩
  show wpAny _ x.A (do holding [v] (assign (.Name (nm y) yp) x.env (.int i tk₂));do holding [] (assign (.Name (nm z) zp) x.env v);pure ()) _ _ _
  have pe:∀{τ:St} {h₆:Heap} {Z₆:Heap} {ad₆:List Addr},τ.H.length=σ.H.length→Pre (ad' ++ [I,I + 1]) ad₆→Sit prog w K x (τ.with [oI₄,{cls:=.type "enumerate",dict:=none,data:=.fields #[.none,.bool false,.ref I,rawInt ((i:Int) + 1),.none,v],slots:= #[]}]) Z₆ ad₆ h₆→ad₆=ad' ++ [I,I + 1]:=by
   intro τ h₆ Z₆ ad₆ q1 pr A
   refine pre_eq pr ?_
   have:=A.hs.len
   replace this:ad₆.length=(τ.H ++ Mine.objs _).length:=this
   rw [this,List.length_append,List.length_append,objs_len,q1,hl];rfl
  refine wpAny_bind (wpAny_holding (wpAny_assign_Name ?_))
  refine s_loc (s:=⟨h₅,_,_,_,_⟩) O S₅ (S₅.kd _ _ (isL_kind (hk i σ₂ hJ).1)) (a:=.int (Int.ofNat i)) .int fun Z₆ ad₆ h₆ tk₆ sub₆ pr₆ S₆=>?_
  replace S₆:Sit prog w K x (({σ₂ with loc:=stA y (.int (Int.ofNat i)) σ₂.loc}:St).with [oI₄,_]) Z₆ ad₆ h₆:=S₆
  have ea:=pe (τ:={σ₂ with loc:=stA y (.int (Int.ofNat i)) σ₂.loc}) hlen pr₆ S₆
  subst ea
  have st₆:=stay (σ':=σ₂) (σ'':={σ₂ with loc:=stA y (.int (Int.ofNat i)) σ₂.loc}) hlen hlen S₅ S₆ st₅
  refine wpAny_bind (wpAny_holding (wpAny_assign_Name ?_))
  refine s_loc (s:=⟨h₆,_,_,_,_⟩) O S₆ (S₆.kd _ _ (isL_kind (hk i σ₂ hJ).2)) (((hva.mono sub₂ (Pre.refl _)).mono sub₆ ⟨_,rfl⟩)) fun Z₇ ad₇ h₇ tk₇ sub₇ pr₇ S₇=>wpAny_pure ?_
  replace S₇:Sit prog w K x (({σ₂ with loc:=stA z a (stA y (.int (Int.ofNat i)) σ₂.loc)}:St).with [oI₄,_]) Z₇ ad₇ h₇:=S₇
  have ea:=pe (τ:={σ₂ with loc:=stA z a (stA y (.int (Int.ofNat i)) σ₂.loc)}) hlen pr₇ S₇
  subst ea
  have st₇:=stay (σ':={σ₂ with loc:=stA y (.int (Int.ofNat i)) σ₂.loc}) (σ'':={σ₂ with loc:=stA z a (stA y (.int (Int.ofNat i)) σ₂.loc)}) hlen hlen S₆ S₇ st₆
  refine (step i a σ₂ [oI₄,_] hJ ha).run (s:=⟨h₇,_,_,_,_⟩) O B S₇ fun r hr=>?_
  refine X12 hr fun σ' q0 hJ' hlen'=>?_;subst q0
  intro Z₈ ad₈ h₈ tk₈ sub₈ pr₈ S₈
  have ea:=pe (τ:=σ') (hlen'.trans hlen) pr₈ S₈
  subst ea
  have st₈:=stay (σ':={σ₂ with loc:=stA z a (stA y (.int (Int.ofNat i)) σ₂.loc)}) (σ'':=σ') hlen (hlen'.trans hlen) S₇ S₈ st₇
  exact ⟨xs.length - (i + 1),Nat.sub_lt_sub_left lt (Nat.lt_succ_self _),FoI.mk (q:=(σ.H.length,xs.length,I,l)) lt hJ' (hlen'.trans hlen) (((sub₂.trans sub₆).trans sub₇).trans sub₈) S₈ st₈.1 st₈.2⟩
 ·have ei:i=xs.length:=Nat.le_antisymm (by assumption) (Nat.le_of_not_lt (by assumption))
  subst ei
  have hv:vs.toArray[xs.length]? =none:=by refine er lsz ?_;simp
  refine wpAny_pyNext_enum_end (s:=⟨h₂,_,_,_,_⟩) O.hh he₂ hit₂ hl₃ hv fun h₃ eb₃=>wpAny_execs_nil ?_
  refine wpAny_execs_nil ?_
  have S₄:=S₃.forget (h':=h₃) hl₂ (low _ _ [oI₂,oE₂] hJ) (fun b o hb q=>eb₃ b o (fun z=>hb (by simp [z])) q)
  exact k₀ (.nx,σ₂) (I11 σ₂ rfl hJ) Z₂ ad' h₃ tk₂ (sub.trans sub₂) (Pre.refl _) S₄
end
section
variable {prog:Program}{w:World}{K:Frag}{X:Value→Shared→Prop}{s:Shared}{Z:Heap}{ad:List Addr}{x:Fx}{σ:St}{h h':Heap}
theorem Sit.relocal (S:Sit prog w K x σ Z ad h){m m':Str→Option Value}(hn:h.Ns x.env.locals m)(hm:h'.Ns x.env.locals m')(sb:Heap.SameBut x.env.locals h h')(e:∀n a,lkA n σ.loc=some a→m' (nm n)=m (nm n)):Sit prog w K x σ Z ad h':=by
 have H:=S.hs
 have nd:=H.nd
 unfold spec at nd
 rw [List.nodup_cons,List.nodup_append] at nd
 have ex:∀a∈spec x.env.locals x.pin ad,∃o,h'.get? a=some o:=fun a ma=>by
  by_cases q:a=x.env.locals
  ·refine X31 hm fun o _ _ z _=>?_;exact ⟨o,q▸z⟩
  ·refine X1 (H.ex a ma) fun o z=>?_;exact ⟨o,(sb.2 a q).trans z⟩
 refine ⟨S.kd,S.stat,⟨H.nd,H.zn,fun a ma=>?_,ex,fun p mp=>?_,fun a o q=>(sb.2 a fun z=>?_).trans (H.zsub a o q),H.len,fun r t xs q=>?_⟩,(I11 m' hm (fun n a q=>?_)),S.cel⟩
 ·refine X1 (ex a ma) fun o q=>?_;exact Heap.lt_size q
 ·refine X1 (H.pins p mp) fun sl q=>?_
  exact ⟨sl,(sb.2 _ fun z=>nd.1 (z▸List.mem_append_left _ (List.mem_map_of_mem mp))).trans q⟩
 ·subst z;rw [H.zn _ (.head _)] at q;cases q
 ·refine X22 (H.emb r t xs q) fun a vs h1 h2 h3=>?_
  exact (I22 a vs h1 (h2.at fun o z=>(sb.2 a (not_L H.nd (List.mem_of_getElem? h1))).trans z) h3)
 ·refine X11 S.loc fun m₀ hn₀ hl=>?_
  refine X11 (hl n a q) fun v q1 q2=>?_
  have em:m₀ (nm n)=m (nm n):=by
   refine X33 hn fun o es ep g1 g2 _ g3=>?_
   refine X33 hn₀ fun o' es' ep' f1 f2 _ f3=>?_
   rw [g1] at f1;cases Option.some.inj f1
   rw [g2] at f2;cases f2
   rw [←g3,←f3]
  exact (I11 v ((e n a q).symm▸em▸q1) q2)
theorem lkA_stA {n:Nat}{a:AV}:∀(l:List (Nat×AV)) (k:Nat),lkA k (stA n a l)=if k=n then some a else lkA k l
 | [],k=>by
  simp only [stA,lkA,nbeq]
  by_cases h:k=n <;> simp [h]
 | (y,u) :: l,k=>by
  have ih:=lkA_stA (n:=n) (a:=a) l k
  simp only [stA,nbeq]
  by_cases h1:n=y
  ·subst h1
   simp only [decide_true,lkA,nbeq]
   by_cases h:k=n <;> simp [h]
  ·simp only [h1,decide_false,lkA,nbeq,ih]
   by_cases h:k=y
   ·subst h
    have:k≠n:=fun q=>h1 q.symm
    simp [this]
   ·simp [h]
theorem exc_num (H:ExcK prog K)(S:Sit prog w K x σ Z ad s.heap){A:Around}{i:Int}{e:Addr}{f:Value}{expr:Bool}{Q:Value→Shared→Prop}(q:ExcF x Z ad i e s.heap f)(h:∀t tk,Q (.int i t) {s with toks:=tk}) :
  wpAny (model prog w) A (getAttr (.ref e) (nm 2) expr) Q X s:=by
 refine X024537 q fun a1 a2 d vs sl od b1 b2 b3 b4 q0 T oT ts c1 c2 c3 c4 c5 c6 c7 c8=>?_;obtain ⟨es,n,tk,rfl,b5⟩:=q0
 refine X12 H.clsIn fun cd hc hm hh=>?_
 have KI:=S.stat.kin.keeps S.hs.zsub
 refine get_exc H KI (od:=dictOf es n) ⟨b1,rfl,rfl,b4⟩ H.ga H.gt (findObj_own (by unfold hasDictIn;refine er hc ?_;exact hh) H.fnum rfl ?_) (v:=.int i tk) rfl (fun _=>h _ _)
 exact b5
theorem Trip.tryx (G:Good K)(H:InitK prog K){D n t:Nat}{body:List S}{cp ep ap tp q0 hp p:Pos}{P P':Out×St→Prop}(h:Trip prog w K D body σ P)
  (hn:∀i σ',P (.ex i,σ')→isG σ'.kd (cnm 0)=true∧isL σ'.kd n=true∧isL σ'.kd t=true∧lkA n σ'.loc=none∧n≠t∧P' (.nx,{σ' with loc:=stA t (.int i) σ'.loc}))
  (ho:∀r,P r→(∀i,r.1≠.ex i)→P' r) :
  Trip prog w K D [.tryx body 0 cp n [.asg t tp (.attr (.loc n ep) 2 ap) q0] hp p] σ P':=by
 refine ⟨?_⟩
 intro x Z ad s Q X O B S k
 refine wpAny_execs_cons ?_
 rw [show decS (.tryx body 0 cp n [.asg t tp (.attr (.loc n ep) 2 ap) q0] hp p)=.Try (decSs body) [.ExceptHandler (some (.Name (nm (cnm 0)) cp)) (some (nm n)) [.Assign [.Name (nm t) tp] (.Attribute (.Name (nm n) ep) (nm 2) ap) q0] hp] [] [] p by
  rfl]
 rw [arm_exec_Try]
 refine wpAny_bind (wpAny_standAt (wpAny_tryStmt_except ?_))
 refine h.run O B S (Q:=fun f s₁=>match f with | .next=>wpAny (model prog w) x.A (execs [] x.env) _ X s₁ | f=>_) fun r hr=>?_
 obtain ⟨o,σ'⟩:=r
 cases o with
 | nx=>exact fun Z' ad' h' tk sub pr S'=>wpAny_execs_nil (wpAny_execs_nil (k _ (ho _ hr (by simp)) Z' ad' h' tk sub pr S'))
 | rt v=>exact fun Z' ad' h' tk sub pr S' u hu=>k _ (ho _ hr (by simp)) Z' ad' h' tk sub pr S' u hu
 | ex i=>
  refine X05 (hn i σ' hr) fun g1 g2 g3 g4 g5 hP=>?_
  intro Z' ad' h' tk sub pr S' e he
  refine note (s:=⟨h',_,_,_,_⟩) O S' he fun h₁ S₁ q₁=>?_
  refine flight (s:=⟨h₁,_,_,_,_⟩) S₁ q₁ fun h₂ S₂ q₂=>?_
  refine wpAny_handleBy_cons (codeAny_handlers_test ?_) (by intro q;cases q)
  refine r_top (s:=⟨h₂,_,_,_,_⟩) O S₂ g1 (G.gcl 0 (Nat.zero_le _)) ?_
  refine Xd H.cls fun a1 a2 a3 a4 a5 a6 a7 a8 b0 b1 b2 b3 b5 hC=>?_
  have KI:=S₂.stat.kin.keeps S₂.hs.zsub
  refine X02 (id q₂) fun z1 z2 q1=>?_;refine X41 q1 fun d vs sl od y1 y2=>?_
  refine wpAny_excMatches_sub_self (KI _ _ hC) y1 rfl (by simp) (codeAny_handlers_suite_as ?_)
  refine flight (s:=⟨h₂,_,_,_,_⟩) S₂ q₂ fun h₃ S₃ q₃=>?_
  refine X11 S₃.loc fun m₃ hn₃ hl₃=>?_
  refine wpAny_storeName_local (S₃.kd _ _ (isL_kind g2)) hn₃ (fun h₄ hn₄ sb₄=>?_) (by refine er O.hk ?_;rfl)
  dsimp only at hn₄ sb₄ ⊢
  have ne:∀{k:Nat} {a:AV},lkA k σ'.loc=some a→nm k≠nm n:=fun q z=>by rw [nm_inj z,g4] at q;cases q
  have S₄:=S₃.relocal hn₃ hn₄ sb₄ (fun k a q=>by simp [ne q])
  have q₄:ExcF x Z' ad' i e h₄ .none:=by
   refine X024537 q₃ fun a1 a2 d vs sl od b1 b2 b3 b4 b5 T oT ts c1 c2 c3 c4 c5 c6 c7 c8=>?_
   have nL:∀a,a ∉ spec x.env.locals x.pin ad'→a≠x.env.locals:=fun a h z=>h (z▸.head _)
   exact (I024537 a1 a2 d vs sl od ((sb₄.2 _ (nL _ a1)).trans b1) b2 b3 ((sb₄.2 _ (nL _ b2)).trans b4) b5 T oT ts c1 c2 c3 c4 c5 ((sb₄.2 _ (nL _ c5)).trans c6) c7 c8)
  refine wpAny_execs_cons (wpAny_Assign_Name ?_ rfl)
  refine Attribute_any_ ?_ rfl
  refine wpAny_Name (wpAny_loadName_local O.hk (S₄.kd _ _ (isL_kind g2)) hn₄ (by simp;rfl) ?_) nm_ne.1
  refine exc_num (s:=⟨h₄,_,_,_,_⟩) H.toExcK S₄ q₄ fun ti tk₅=>?_
  refine wpAny_storeName_local (S₄.kd _ _ (isL_kind g3)) hn₄ (fun h₅ hn₅ sb₅=>?_) (by refine er O.hk ?_;rfl)
  refine X11 (S₄.setLoc (n:=t) hn₄ hn₅ sb₅ (fun _=>rfl) (.int (i:=i) (t:=ti))) fun Z₅ sub₅ S₅=>?_
  refine wpAny_execs_nil ?_
  refine wpAny_nameGoes_keeps (S₅.kd _ _ (isL_kind g2)) hn₅ (by refine er O.hk ?_;rfl) fun h₆ v hn₆ sb₆=>?_
  have S₆:=S₅.relocal hn₅ hn₆ sb₆ (fun k a q=>by
   have:nm k≠nm n:=fun z=>by
    replace q:lkA k (stA t (.int i) σ'.loc)=some a:=q
    rw [nm_inj z,lkA_stA,if_neg g5,g4] at q
    cases q
   simp [this])
  exact wpAny_execs_nil (k _ hP Z₅ ad' h₆ _ (sub.trans sub₅) pr S₆)
 | _=>exact (k _ (ho _ hr (by simp))).elim
end
noncomputable def tu (l:List AV):AV:=.nd .tup l
noncomputable def li (l:List AV):AV:=.nd .lst l
noncomputable def polL:List (Nat×Nat×Nat):=[(365,11,27),(365,11,21),(367,8,65),(367,38,54),(368,30,47),(369,19,34),(371,19,34),(373,19,44),(375,46,66),(379,30,45),(379,70,85),(379,30,56),(379,70,100),(379,30,67),(379,30,100),(380,30,53),(383,27,43),(383,27,47),(383,53,75),
 (184,11,33),(183,20,39),(182,10,35),(182,15,35),(92,8,29),(95,8,29),(100,11,31),(101,26,44),(101,49,67),(102,11,23),(102,28,45)]
def runC:Cf:={pol:=fun p=>polL.any fun q=>Nat.beq p.line q.1 && (Nat.beq p.col q.2.1 && Nat.beq p.endCol q.2.2),frz:=fun p=>(Nat.ble 50 p.line && Nat.ble p.line 86) || Nat.beq p.line 35}
structure RunP where
 c0:Option (Tg×List AV)
 c1:Option (Tg×List AV)
 c2:Option (Tg×List AV)
 dr:AV
 na:AV
 la:AV
 SK:List Str
 SV:List AV
 LK:List Str
 LV:List AV
noncomputable def cloR:AV:=.nd (.clo 48 [193,194,195]) [.ref 6,.ref 7,.ref 8]
def runH (p:RunP)(sto:Tg×List AV)(heard notes:List AV):HL:=
 [p.c0,p.c1,p.c2,some (.cell,[p.dr]),some (.cell,[p.na]),some (.cell,[p.la]),some (.cell,[.ref 12]),some (.cell,[.ref 9]),some (.cell,[.ref 11]),some (.dct p.SK,p.SV),some (.dct p.LK,p.LV),
   some sto,some (.lst,heard),some (.idc [26,27,28],[cloR,.ref 10,.ref 15]),some (.ins 3,[.ref 13]),some (.lst,notes)]
def sto2 (a b:Str):Tg×List AV:=(.dct [nm 197,nm 198],[.str a,.str b])
def stoP (a b v y:Str):Tg×List AV:=(.dct (dput [nm 197,nm 198] [.str a,.str b] v (.str y)).1,(dput [nm 197,nm 198] [.str a,.str b] v (.str y)).2)
def see (r:R):Option (Out×List (Nat×NameKind)×List (Nat×AV)×List (Nat×AV)×HL×List Prop):=r.map fun r=>(r.1,r.2.kd,r.2.loc,r.2.cel,r.2.H.take 16,r.2.obl)
def row0 (v c:Str):AV:=li [tu [.lit 87,.str v],tu [.lit 86,.str v],tu [.lit 85,.str c],tu [.lit 97],tu [.lit 103]]
def eVar (v:Str):AV:=tu [.lit 89,li [.str v]]
def eRead (v:Str):AV:=tu [.lit 34,li [.str v]]
def eValue (v:Str):AV:=tu [.lit 10,li [.str v]]
def eJoin (x c:Str):AV:=tu [.lit 51,li [.lit 98,li [.str x,.str c]]]
def eMatch (x c:Str):AV:=tu [.lit 60,li [.str x,.str c]]
def eAssign (v y:Str):AV:=tu [.lit 61,li [.str v,.str y]]
def eRepl (v:Str)(i:Int):AV:=tu [.lit 62,li [.str v,.int i,.lit 8]]
def eCall (c x:Str):AV:=tu [.lit 44,li [.str c,li [.str x],.bool false]]
def eZ:AV:=tu [.lit 44,li [.lit 180,li [],.bool false]]
noncomputable def qO (h:List AV)(ne:Bool):List AV:=[.int h.length,.bool false,.bool ne]
def qP (h:List AV)(p0:AV)(ne:Bool):List Prop:=[small h,cmpV [] .NotEq p0 (.lit 181)=some (.bool ne),cmpV [] .Eq (.int h.length) (.int 40)=some (.bool false),calB [] .len [li h]=some (.int h.length)]
noncomputable def xO (h:List AV):List AV:=[.int h.length,.bool true]
def xP (h:List AV):List Prop:=[cmpV [] .Eq (.int h.length) (.int 40)=some (.bool true),calB [] .len [li h]=some (.int h.length)]
def gP (p:RunP)(a b v x:Str):List Prop:=[dget [nm 197,nm 198] [.str a,.str b] v=some (.str x),(some (AV.bool (dget p.SK p.SV v).isSome))=some (.bool false)]
def gP2 (a b v x:Str):List Prop:=[dget [nm 197,nm 198] [.str a,.str b] v=some (.str x)]
def row4 (v c:Str):AV:=li [tu [.lit 87,.str v],tu [.lit 86,.str v],tu [.lit 93,.str c,.int 1,.bool false],tu [.lit 103]]
def row3 (v c:Str):AV:=li [tu [.lit 81,.int 5],tu [.lit 86,.str v],tu [.lit 93,.str c,.int 1,.bool false],tu [.lit 107],tu [.lit 114],tu [.lit 85,.lit 8],tu [.lit 108]]
def row1 (v c:Str):AV:=li [tu [.lit 86,.str v],tu [.lit 85,.str c],tu [.lit 102]]
def row2 (v c:Str):AV:=li [tu [.lit 87,.str v],tu [.lit 109],tu [.lit 91],tu [.lit 85,.str c],tu [.lit 102],tu [.lit 85,.lit 8],tu [.lit 104]]
def rowL (l:Str):AV:=li [tu [.lit 110,.str l]]
def rowS (l:Str):AV:=li [tu [.lit 85,.str l],tu [.lit 112]]
def rowA (l:Str):AV:=li [tu [.lit 85,.str l],tu [.lit 93,.lit 181,.int 1,.bool false],tu [.lit 112]]
def rowZ:AV:=li [tu [.lit 93,.lit 180,.int 0,.bool false],tu [.lit 112]]
def rowC (l:Str):AV:=li [tu [.lit 86,.str l],tu [.lit 113]]
noncomputable def stA4 (lb bo su fa li_:AV):AV:=.nd (.ins 4) [.nd (.idc [111,124,125,126,129]) [lb,bo,su,fa,li_]]
def lb30:List S:=match b30 with | .whl _ b _ :: _=>b | _=>[]
def sA:List S:=lb30.take 3
def sB:List S:=(lb30.drop 3).take 1
def sC:List S:=(lb30.drop 4).take 2
def sD:List S:=lb30.drop 6
noncomputable def locA (u at_:AV):List (Nat×AV):=[(119,u),(64,at_),(75,.ref 14)]
noncomputable def locB (u at_ st:AV):List (Nat×AV):=[(119,u),(64,at_),(75,.ref 14),(121,st)]
noncomputable def locD (u at_ st:AV)(t:Bool)(rw_:AV):List (Nat×AV):=[(119,u),(64,at_),(75,.ref 14),(121,st),(122,.bool t),(115,rw_)]
def runF (p:RunP)(a b:Str)(heard notes:List AV)(loc:List (Nat×AV))(orc:List AV):St:={kd:=k30,loc:=loc,cel:=[],H:=runH p (sto2 a b) heard notes,orc:=orc,obl:=[]}
theorem wl_in (p:RunP)(a b l:Str)(u u2 st at_:AV)(at2:Int)(t:Bool)(heard notes:List AV) :
  see (ev runC 300 (.sts sD) (runF p a b heard notes (locD u at_ st t (rowL l)) ([.bool true,tu [u2,.int at2],tu [u2,.int at2]]))) =
   some (.nx,k30,[(119,u2),(64,.int at2),(75,.ref 14),(121,st),(122,.bool t),(115,rowL l),(17,tu [.lit 64,u2,.int at2])],[],runH p (sto2 a b) heard notes,[dget p.LK p.LV l=some (tu [u2,.int at2]),dget p.LK p.LV l=some (tu [u2,.int at2]),some (AV.bool (dget p.LK p.LV l).isSome)=some (.bool true)]):=by
 intros
 kernel_rfl
theorem wl_end (p:RunP)(a b l:Str)(u u2 st at_:AV)(at2:Int)(t:Bool)(heard notes:List AV) :
  see (ev runC 300 (.sts sD) (runF p a b heard notes (locD u at_ st t (rowL l)) ([.bool false,.bool false]))) =
   some (.rt (.str l),k30,(locD u at_ st t (rowL l) ++ [(17,tu [.lit 73,.str l])]),[],runH p (sto2 a b) heard notes,[cmpV [] .NotEq (.str l) (.lit 69)=some (.bool false),some (AV.bool (dget p.LK p.LV l).isSome)=some (.bool false)]):=by
 intros
 kernel_rfl
theorem wl_ret (p:RunP)(a b l:Str)(u u2 st at_:AV)(at2:Int)(t:Bool)(heard notes:List AV) :
  see (ev runC 300 (.sts sD) (runF p a b heard notes (locD u at_ st t (rowL l)) ([.bool false,.bool true,.bool false]))) =
   some (.rt (.str l),k30,(locD u at_ st t (rowL l) ++ [(17,tu [.lit 73,.str l])]),[],runH p (sto2 a b) heard notes,[cmpV [] .NotEq (.str l) (.lit 72)=some (.bool false),cmpV [] .NotEq (.str l) (.lit 69)=some (.bool true),some (AV.bool (dget p.LK p.LV l).isSome)=some (.bool false)]):=by
 intros
 kernel_rfl
theorem wl_bad (p:RunP)(a b l:Str)(u u2 st at_:AV)(at2:Int)(t:Bool)(heard notes:List AV) :
  see (ev runC 300 (.sts sD) (runF p a b heard notes (locD u at_ st t (rowL l)) ([.bool false,.bool true,.bool true]))) =
   some (.ex 24,k30,locD u at_ st t (rowL l),[],runH p (sto2 a b) heard notes,[cmpV [] .NotEq (.str l) (.lit 72)=some (.bool true),cmpV [] .NotEq (.str l) (.lit 69)=some (.bool true),some (AV.bool (dget p.LK p.LV l).isSome)=some (.bool false)]):=by
 intros
 kernel_rfl
theorem wd_in (p:RunP)(a b l:Str)(u u2 st at_:AV)(at2:Int)(t:Bool)(heard notes:List AV) :
  see (ev runC 300 (.sts sD) (runF p a b heard notes (locD u at_ st t (rowS l)) ([.bool true,tu [u2,.int at2],tu [u2,.int at2]]))) =
   some (.nx,k30,[(119,u2),(64,.int at2),(75,.ref 14),(121,st),(122,.bool t),(115,rowS l),(17,tu [.lit 64,u2,.int at2])],[],runH p (sto2 a b) heard notes,[dget p.LK p.LV l=some (tu [u2,.int at2]),dget p.LK p.LV l=some (tu [u2,.int at2]),some (AV.bool (dget p.LK p.LV l).isSome)=some (.bool true)]):=by
 intros
 kernel_rfl
theorem wd_end (p:RunP)(a b l:Str)(u u2 st at_:AV)(at2:Int)(t:Bool)(heard notes:List AV) :
  see (ev runC 300 (.sts sD) (runF p a b heard notes (locD u at_ st t (rowS l)) ([.bool false,.bool false]))) =
   some (.rt (.str l),k30,(locD u at_ st t (rowS l) ++ [(17,tu [.lit 73,.str l])]),[],runH p (sto2 a b) heard notes,[cmpV [] .NotEq (.str l) (.lit 69)=some (.bool false),some (AV.bool (dget p.LK p.LV l).isSome)=some (.bool false)]):=by
 intros
 kernel_rfl
theorem wd_ret (p:RunP)(a b l:Str)(u u2 st at_:AV)(at2:Int)(t:Bool)(heard notes:List AV) :
  see (ev runC 300 (.sts sD) (runF p a b heard notes (locD u at_ st t (rowS l)) ([.bool false,.bool true,.bool false]))) =
   some (.rt (.str l),k30,(locD u at_ st t (rowS l) ++ [(17,tu [.lit 73,.str l])]),[],runH p (sto2 a b) heard notes,[cmpV [] .NotEq (.str l) (.lit 72)=some (.bool false),cmpV [] .NotEq (.str l) (.lit 69)=some (.bool true),some (AV.bool (dget p.LK p.LV l).isSome)=some (.bool false)]):=by
 intros
 kernel_rfl
theorem wd_bad (p:RunP)(a b l:Str)(u u2 st at_:AV)(at2:Int)(t:Bool)(heard notes:List AV) :
  see (ev runC 300 (.sts sD) (runF p a b heard notes (locD u at_ st t (rowS l)) ([.bool false,.bool true,.bool true]))) =
   some (.ex 24,k30,locD u at_ st t (rowS l),[],runH p (sto2 a b) heard notes,[cmpV [] .NotEq (.str l) (.lit 72)=some (.bool true),cmpV [] .NotEq (.str l) (.lit 69)=some (.bool true),some (AV.bool (dget p.LK p.LV l).isSome)=some (.bool false)]):=by
 intros
 kernel_rfl
theorem wa_in (p:RunP)(a b l:Str)(u u2 st at_:AV)(at2:Int)(t:Bool)(heard notes:List AV) :
  let h1:=heard ++ [.lit 44]
  see (ev runC 300 (.sts sD) (runF p a b heard notes (locD u at_ st t (rowA l)) (qO heard false ++ [.bool true] ++ [.bool true,tu [u2,.int at2],tu [u2,.int at2]]))) =
   some (.nx,k30,[(119,u2),(64,.int at2),(75,.ref 14),(121,st),(122,.bool t),(115,rowA l),(17,tu [.lit 64,u2,.int at2])],[],runH p (sto2 a b) h1 notes,[dget p.LK p.LV l=some (tu [u2,.int at2]),dget p.LK p.LV l=some (tu [u2,.int at2]),some (AV.bool (dget p.LK p.LV l).isSome)=some (.bool true)] ++ [cmpV [] .In (.lit 181) (tu [.lit 181,.lit 180])=some (.bool true)] ++ qP heard (.lit 181) false):=by
 intros
 kernel_rfl
theorem wa_end (p:RunP)(a b l:Str)(u u2 st at_:AV)(at2:Int)(t:Bool)(heard notes:List AV) :
  let h1:=heard ++ [.lit 44]
  see (ev runC 300 (.sts sD) (runF p a b heard notes (locD u at_ st t (rowA l)) (qO heard false ++ [.bool true] ++ [.bool false,.bool false]))) =
   some (.rt (.str l),k30,(locD u at_ st t (rowA l) ++ [(17,tu [.lit 73,.str l])]),[],runH p (sto2 a b) h1 notes,[cmpV [] .NotEq (.str l) (.lit 69)=some (.bool false),some (AV.bool (dget p.LK p.LV l).isSome)=some (.bool false)] ++ [cmpV [] .In (.lit 181) (tu [.lit 181,.lit 180])=some (.bool true)] ++ qP heard (.lit 181) false):=by
 intros
 kernel_rfl
theorem wa_ret (p:RunP)(a b l:Str)(u u2 st at_:AV)(at2:Int)(t:Bool)(heard notes:List AV) :
  let h1:=heard ++ [.lit 44]
  see (ev runC 300 (.sts sD) (runF p a b heard notes (locD u at_ st t (rowA l)) (qO heard false ++ [.bool true] ++ [.bool false,.bool true,.bool false]))) =
   some (.rt (.str l),k30,(locD u at_ st t (rowA l) ++ [(17,tu [.lit 73,.str l])]),[],runH p (sto2 a b) h1 notes,[cmpV [] .NotEq (.str l) (.lit 72)=some (.bool false),cmpV [] .NotEq (.str l) (.lit 69)=some (.bool true),some (AV.bool (dget p.LK p.LV l).isSome)=some (.bool false)] ++ [cmpV [] .In (.lit 181) (tu [.lit 181,.lit 180])=some (.bool true)] ++ qP heard (.lit 181) false):=by
 intros
 kernel_rfl
theorem wa_bad (p:RunP)(a b l:Str)(u u2 st at_:AV)(at2:Int)(t:Bool)(heard notes:List AV) :
  let h1:=heard ++ [.lit 44]
  see (ev runC 300 (.sts sD) (runF p a b heard notes (locD u at_ st t (rowA l)) (qO heard false ++ [.bool true] ++ [.bool false,.bool true,.bool true]))) =
   some (.ex 24,k30,locD u at_ st t (rowA l),[],runH p (sto2 a b) h1 notes,[cmpV [] .NotEq (.str l) (.lit 72)=some (.bool true),cmpV [] .NotEq (.str l) (.lit 69)=some (.bool true),some (AV.bool (dget p.LK p.LV l).isSome)=some (.bool false)] ++ [cmpV [] .In (.lit 181) (tu [.lit 181,.lit 180])=some (.bool true)] ++ qP heard (.lit 181) false):=by
 intros
 kernel_rfl
theorem wa_x (p:RunP)(a b l:Str)(u u2 st at_:AV)(at2:Int)(t:Bool)(heard notes:List AV) :
  see (ev runC 300 (.sts sD) (runF p a b heard notes (locD u at_ st t (rowA l)) (xO heard))) =
   some (.ex 99,k30,locD u at_ st t (rowA l),[],runH p (sto2 a b) heard notes,xP heard):=by
 intros
 kernel_rfl
theorem wz (p:RunP)(a b l:Str)(u u2 st at_:AV)(at2:Int)(t:Bool)(heard notes:List AV) :
  let h1:=heard ++ [eZ]
  see (ev runC 300 (.sts sD) (runF p a b heard notes (locD u at_ st t (rowZ)) (qO heard true ++ [.bool true]))) =
   some (.ex 19,k30,locD u at_ st t (rowZ),[],runH p (sto2 a b) h1 notes,[cmpV [] .In (.lit 180) (tu [.lit 181,.lit 180])=some (.bool true)] ++ qP heard (.lit 180) true):=by
 intros
 kernel_rfl
theorem wz_x (p:RunP)(a b l:Str)(u u2 st at_:AV)(at2:Int)(t:Bool)(heard notes:List AV) :
  see (ev runC 300 (.sts sD) (runF p a b heard notes (locD u at_ st t (rowZ)) (xO heard))) =
   some (.ex 99,k30,locD u at_ st t (rowZ),[],runH p (sto2 a b) heard notes,xP heard):=by
 intros
 kernel_rfl
theorem wc (p:RunP)(a b l:Str)(u u2 st at_:AV)(at2:Int)(t:Bool)(heard notes:List AV) :
  let h1:=heard ++ [eRead l]
  see (ev runC 300 (.sts sD) (runF p a b heard notes (locD u at_ st t (rowC l)) (qO heard true ++ [.bool true,tu [u2,.int at2]]))) =
   some (.nx,k30,[(119,u2),(64,.int at2),(75,.ref 14),(121,st),(122,.bool t),(115,rowC l),(17,tu [.lit 64,u2,.int at2])],[],runH p (sto2 a b) h1 notes,[dget p.SK p.SV l=some (tu [u2,.int at2]),some (AV.bool (dget p.SK p.SV l).isSome)=some (.bool true)] ++ qP heard (.str l) true):=by
 intros
 kernel_rfl
theorem wc_x (p:RunP)(a b l:Str)(u u2 st at_:AV)(at2:Int)(t:Bool)(heard notes:List AV) :
  see (ev runC 300 (.sts sD) (runF p a b heard notes (locD u at_ st t (rowC l)) (xO heard))) =
   some (.ex 99,k30,locD u at_ st t (rowC l),[],runH p (sto2 a b) heard notes,xP heard):=by
 intros
 kernel_rfl
theorem f0_ok (p:RunP)(a b v c x s1 s2:Str)(u lb su fa li_:AV)(at_:AV)(heard notes:List AV) :
  let st:=stA4 lb (row0 v c) su fa li_
  let h1:=heard ++ [eVar v]
  let h2:=h1 ++ [eRead v]
  let h3:=h2 ++ [eJoin x c]
  let h4:=h3 ++ [eAssign v (x ++ c)]
  see (ev runC 300 (.sts sB) (runF p a b heard notes (locB u at_ st) (qO heard true ++ qO h1 true ++ [.bool false,.str x] ++ qO h2 true ++ [.str (x ++ c)] ++ qO h3 true))) =
   some (.nx,k30,(locB u at_ st ++ [(122,.bool true)]),[],runH p (stoP a b v (x ++ c)) h4 notes,qP h3 (.str v) true ++ [binV .Add (.str x) (.str c)=some (.str (x ++ c))] ++ qP h2 (.lit 98) true ++ gP p a b v x ++ qP h1 (.str v) true ++ qP heard (.str v) true):=by
 intros
 kernel_rfl
theorem f0_x0 (p:RunP)(a b v c x s1 s2:Str)(u lb su fa li_:AV)(at_:AV)(heard notes:List AV) :
  let st:=stA4 lb (row0 v c) su fa li_
  see (ev runC 300 (.sts sB) (runF p a b heard notes (locB u at_ st) (xO heard))) =
   some (.ex 99,k30,locB u at_ st,[],runH p (sto2 a b) heard notes,xP heard):=by
 intros
 kernel_rfl
theorem f0_x1 (p:RunP)(a b v c x s1 s2:Str)(u lb su fa li_:AV)(at_:AV)(heard notes:List AV) :
  let st:=stA4 lb (row0 v c) su fa li_
  let h1:=heard ++ [eVar v]
  see (ev runC 300 (.sts sB) (runF p a b heard notes (locB u at_ st) (qO heard true ++ xO h1))) =
   some (.ex 99,k30,locB u at_ st,[],runH p (sto2 a b) h1 notes,xP h1 ++ qP heard (.str v) true):=by
 intros
 kernel_rfl
theorem f0_x2 (p:RunP)(a b v c x s1 s2:Str)(u lb su fa li_:AV)(at_:AV)(heard notes:List AV) :
  let st:=stA4 lb (row0 v c) su fa li_
  let h1:=heard ++ [eVar v]
  let h2:=h1 ++ [eRead v]
  see (ev runC 300 (.sts sB) (runF p a b heard notes (locB u at_ st) (qO heard true ++ qO h1 true ++ [.bool false,.str x] ++ xO h2))) =
   some (.ex 99,k30,locB u at_ st,[],runH p (sto2 a b) h2 notes,xP h2 ++ gP p a b v x ++ qP h1 (.str v) true ++ qP heard (.str v) true):=by
 intros
 kernel_rfl
theorem f0_x3 (p:RunP)(a b v c x s1 s2:Str)(u lb su fa li_:AV)(at_:AV)(heard notes:List AV) :
  let st:=stA4 lb (row0 v c) su fa li_
  let h1:=heard ++ [eVar v]
  let h2:=h1 ++ [eRead v]
  let h3:=h2 ++ [eJoin x c]
  see (ev runC 300 (.sts sB) (runF p a b heard notes (locB u at_ st) (qO heard true ++ qO h1 true ++ [.bool false,.str x] ++ qO h2 true ++ [.str (x ++ c)] ++ xO h3))) =
   some (.ex 99,k30,locB u at_ st,[],runH p (sto2 a b) h3 notes,xP h3 ++ [binV .Add (.str x) (.str c)=some (.str (x ++ c))] ++ qP h2 (.lit 98) true ++ gP p a b v x ++ qP h1 (.str v) true ++ qP heard (.str v) true):=by
 intros
 kernel_rfl
theorem f4_ok (p:RunP)(a b v c x s1 s2:Str)(u lb su fa li_:AV)(at_:AV)(heard notes:List AV) :
  let st:=stA4 lb (row4 v c) su fa li_
  let h1:=heard ++ [eVar v]
  let h2:=h1 ++ [eRead v]
  let h3:=h2 ++ [eCall c x]
  let h4:=h3 ++ [eAssign v (x ++ c)]
  see (ev runC 300 (.sts sB) (runF p a b heard notes (locB u at_ st) (qO heard true ++ qO h1 true ++ [.bool false,.str x] ++ qO h2 true ++ [.bool false,.int x.length,.bool false] ++ [.str (x ++ c)] ++ qO h3 true))) =
   some (.nx,k30,(locB u at_ st ++ [(122,.bool true)]),[],runH p (stoP a b v (x ++ c)) h4 notes,qP h3 (.str v) true ++ [binV .Add (.str x) (.str c)=some (.str (x ++ c))] ++ [cmpV [] .Gt (.int x.length) (.int 2)=some (.bool false),calB [] .len [.str x]=some (.int x.length),cmpV [] .In (.str c) (tu [.lit 181,.lit 180])=some (.bool false)] ++ qP h2 (.str c) true ++ gP p a b v x ++ qP h1 (.str v) true ++ qP heard (.str v) true):=by
 intros
 kernel_rfl
theorem f4_no (p:RunP)(a b v c x s1 s2:Str)(u lb su fa li_:AV)(at_:AV)(heard notes:List AV) :
  let st:=stA4 lb (row4 v c) su fa li_
  let h1:=heard ++ [eVar v]
  let h2:=h1 ++ [eRead v]
  let h3:=h2 ++ [eCall c x]
  see (ev runC 300 (.sts sB) (runF p a b heard notes (locB u at_ st) (qO heard true ++ qO h1 true ++ [.bool false,.str x] ++ qO h2 true ++ [.bool false,.int x.length,.bool true]))) =
   some (.nx,k30,(locB u at_ st ++ [(122,.bool false)]),[],runH p (sto2 a b) h3 notes,[cmpV [] .Gt (.int x.length) (.int 2)=some (.bool true),calB [] .len [.str x]=some (.int x.length),cmpV [] .In (.str c) (tu [.lit 181,.lit 180])=some (.bool false)] ++ qP h2 (.str c) true ++ gP p a b v x ++ qP h1 (.str v) true ++ qP heard (.str v) true):=by
 intros
 kernel_rfl
theorem f4_x0 (p:RunP)(a b v c x s1 s2:Str)(u lb su fa li_:AV)(at_:AV)(heard notes:List AV) :
  let st:=stA4 lb (row4 v c) su fa li_
  see (ev runC 300 (.sts sB) (runF p a b heard notes (locB u at_ st) (xO heard))) =
   some (.ex 99,k30,locB u at_ st,[],runH p (sto2 a b) heard notes,xP heard):=by
 intros
 kernel_rfl
theorem f4_x1 (p:RunP)(a b v c x s1 s2:Str)(u lb su fa li_:AV)(at_:AV)(heard notes:List AV) :
  let st:=stA4 lb (row4 v c) su fa li_
  let h1:=heard ++ [eVar v]
  see (ev runC 300 (.sts sB) (runF p a b heard notes (locB u at_ st) (qO heard true ++ xO h1))) =
   some (.ex 99,k30,locB u at_ st,[],runH p (sto2 a b) h1 notes,xP h1 ++ qP heard (.str v) true):=by
 intros
 kernel_rfl
theorem f4_x2 (p:RunP)(a b v c x s1 s2:Str)(u lb su fa li_:AV)(at_:AV)(heard notes:List AV) :
  let st:=stA4 lb (row4 v c) su fa li_
  let h1:=heard ++ [eVar v]
  let h2:=h1 ++ [eRead v]
  see (ev runC 300 (.sts sB) (runF p a b heard notes (locB u at_ st) (qO heard true ++ qO h1 true ++ [.bool false,.str x] ++ xO h2))) =
   some (.ex 99,k30,locB u at_ st,[],runH p (sto2 a b) h2 notes,xP h2 ++ gP p a b v x ++ qP h1 (.str v) true ++ qP heard (.str v) true):=by
 intros
 kernel_rfl
theorem f4_x3 (p:RunP)(a b v c x s1 s2:Str)(u lb su fa li_:AV)(at_:AV)(heard notes:List AV) :
  let st:=stA4 lb (row4 v c) su fa li_
  let h1:=heard ++ [eVar v]
  let h2:=h1 ++ [eRead v]
  let h3:=h2 ++ [eCall c x]
  see (ev runC 300 (.sts sB) (runF p a b heard notes (locB u at_ st) (qO heard true ++ qO h1 true ++ [.bool false,.str x] ++ qO h2 true ++ [.bool false,.int x.length,.bool false] ++ [.str (x ++ c)] ++ xO h3))) =
   some (.ex 99,k30,locB u at_ st,[],runH p (sto2 a b) h3 notes,xP h3 ++ [binV .Add (.str x) (.str c)=some (.str (x ++ c))] ++ [cmpV [] .Gt (.int x.length) (.int 2)=some (.bool false),calB [] .len [.str x]=some (.int x.length),cmpV [] .In (.str c) (tu [.lit 181,.lit 180])=some (.bool false)] ++ qP h2 (.str c) true ++ gP p a b v x ++ qP h1 (.str v) true ++ qP heard (.str v) true):=by
 intros
 kernel_rfl
theorem f3_ok (p:RunP)(a b v c x s1 s2:Str)(u lb su fa li_:AV)(at_:AV)(heard notes:List AV) :
  let st:=stA4 lb (row3 v c) su fa li_
  let h1:=heard ++ [eRead v]
  let h2:=h1 ++ [eCall c x]
  see (ev runC 300 (.sts sB) (runF p a b heard notes (locB u at_ st) (qO heard true ++ [.bool false,.str x] ++ qO h1 true ++ [.bool false,.int x.length,.bool true]))) =
   some (.nx,k30,(locB u at_ st ++ [(122,.bool true)]),[],runH p (sto2 a b) h2 notes,[cmpV [] .Gt (.int x.length) (.int 2)=some (.bool true),calB [] .len [.str x]=some (.int x.length),cmpV [] .In (.str c) (tu [.lit 181,.lit 180])=some (.bool false)] ++ qP h1 (.str c) true ++ gP p a b v x ++ qP heard (.str v) true):=by
 intros
 kernel_rfl
theorem f3_no (p:RunP)(a b v c x s1 s2:Str)(u lb su fa li_:AV)(at_:AV)(heard notes:List AV) :
  let st:=stA4 lb (row3 v c) su fa li_
  let h1:=heard ++ [eRead v]
  let h2:=h1 ++ [eCall c x]
  see (ev runC 300 (.sts sB) (runF p a b heard notes (locB u at_ st) (qO heard true ++ [.bool false,.str x] ++ qO h1 true ++ [.bool false,.int x.length,.bool false] ++ [.str (x ++ c)]))) =
   some (.nx,k30,(locB u at_ st ++ [(122,.bool false)]),[],runH p (sto2 a b) h2 notes,[binV .Add (.str x) (.str c)=some (.str (x ++ c))] ++ [cmpV [] .Gt (.int x.length) (.int 2)=some (.bool false),calB [] .len [.str x]=some (.int x.length),cmpV [] .In (.str c) (tu [.lit 181,.lit 180])=some (.bool false)] ++ qP h1 (.str c) true ++ gP p a b v x ++ qP heard (.str v) true):=by
 intros
 kernel_rfl
theorem f3_x0 (p:RunP)(a b v c x s1 s2:Str)(u lb su fa li_:AV)(at_:AV)(heard notes:List AV) :
  let st:=stA4 lb (row3 v c) su fa li_
  see (ev runC 300 (.sts sB) (runF p a b heard notes (locB u at_ st) (xO heard))) =
   some (.ex 99,k30,locB u at_ st,[],runH p (sto2 a b) heard notes,xP heard):=by
 intros
 kernel_rfl
theorem f3_x1 (p:RunP)(a b v c x s1 s2:Str)(u lb su fa li_:AV)(at_:AV)(heard notes:List AV) :
  let st:=stA4 lb (row3 v c) su fa li_
  let h1:=heard ++ [eRead v]
  see (ev runC 300 (.sts sB) (runF p a b heard notes (locB u at_ st) (qO heard true ++ [.bool false,.str x] ++ xO h1))) =
   some (.ex 99,k30,locB u at_ st,[],runH p (sto2 a b) h1 notes,xP h1 ++ gP p a b v x ++ qP heard (.str v) true):=by
 intros
 kernel_rfl
theorem f1_ok (p:RunP)(a b v c x s1 s2:Str)(u lb su fa li_:AV)(at_:AV)(heard notes:List AV) :
  let st:=stA4 lb (row1 v c) su fa li_
  let h1:=heard ++ [eRead v]
  let h2:=h1 ++ [eMatch x c]
  see (ev runC 300 (.sts sB) (runF p a b heard notes (locB u at_ st) (qO heard true ++ [.bool false,.str x] ++ qO h1 true ++ [.bool true]))) =
   some (.nx,k30,(locB u at_ st ++ [(122,.bool true)]),[],runH p (sto2 a b) h2 notes,[cmpV [] .In (.str c) (.str x)=some (.bool true)] ++ qP h1 (.str x) true ++ gP p a b v x ++ qP heard (.str v) true):=by
 intros
 kernel_rfl
theorem f1_no (p:RunP)(a b v c x s1 s2:Str)(u lb su fa li_:AV)(at_:AV)(heard notes:List AV) :
  let st:=stA4 lb (row1 v c) su fa li_
  let h1:=heard ++ [eRead v]
  let h2:=h1 ++ [eMatch x c]
  see (ev runC 300 (.sts sB) (runF p a b heard notes (locB u at_ st) (qO heard true ++ [.bool false,.str x] ++ qO h1 true ++ [.bool false]))) =
   some (.nx,k30,(locB u at_ st ++ [(122,.bool false)]),[],runH p (sto2 a b) h2 notes,[cmpV [] .In (.str c) (.str x)=some (.bool false)] ++ qP h1 (.str x) true ++ gP p a b v x ++ qP heard (.str v) true):=by
 intros
 kernel_rfl
theorem f1_x0 (p:RunP)(a b v c x s1 s2:Str)(u lb su fa li_:AV)(at_:AV)(heard notes:List AV) :
  let st:=stA4 lb (row1 v c) su fa li_
  see (ev runC 300 (.sts sB) (runF p a b heard notes (locB u at_ st) (xO heard))) =
   some (.ex 99,k30,locB u at_ st,[],runH p (sto2 a b) heard notes,xP heard):=by
 intros
 kernel_rfl
theorem f1_x1 (p:RunP)(a b v c x s1 s2:Str)(u lb su fa li_:AV)(at_:AV)(heard notes:List AV) :
  let st:=stA4 lb (row1 v c) su fa li_
  let h1:=heard ++ [eRead v]
  see (ev runC 300 (.sts sB) (runF p a b heard notes (locB u at_ st) (qO heard true ++ [.bool false,.str x] ++ xO h1))) =
   some (.ex 99,k30,locB u at_ st,[],runH p (sto2 a b) h1 notes,xP h1 ++ gP p a b v x ++ qP heard (.str v) true):=by
 intros
 kernel_rfl
theorem f2_ok (p:RunP)(a b v c x s1 s2:Str)(u lb su fa li_:AV)(at_:AV)(heard notes:List AV) :
  let st:=stA4 lb (row2 v c) su fa li_
  let h1:=heard ++ [eVar v]
  let h2:=h1 ++ [eValue v]
  let h3:=h2 ++ [eMatch x c]
  let h4:=h3 ++ [eRepl v (Txt.find x c)]
  see (ev runC 300 (.sts sB) (runF p a b heard notes (locB u at_ st) (qO heard true ++ qO h1 true ++ [.str x] ++ qO h2 true ++ [.bool true] ++ qO h3 true ++ [.str x,.str s1,.str (s1 ++ nm 8),.str x,.str s2,.str (s1 ++ nm 8 ++ s2)]))) =
   some (.nx,k30,(locB u at_ st ++ [(122,.bool true)]),[],runH p (stoP a b v (s1 ++ nm 8 ++ s2)) h4 notes,[binV .Add (.str (s1 ++ nm 8)) (.str s2)=some (.str (s1 ++ nm 8 ++ s2)),slStr x (some (Txt.find x c + 1)) none=some (.str s2)] ++ gP2 a b v x ++ [binV .Add (.str s1) (.lit 8)=some (.str (s1 ++ nm 8)),slStr x none (some (Txt.find x c))=some (.str s1)] ++ gP2 a b v x ++ qP h3 (.str v) true ++ [cmpV [] .In (.str c) (.str x)=some (.bool true)] ++ qP h2 (.str x) true ++ gP2 a b v x ++ qP h1 (.str v) true ++ qP heard (.str v) true):=by
 intros
 kernel_rfl
theorem f2_no (p:RunP)(a b v c x s1 s2:Str)(u lb su fa li_:AV)(at_:AV)(heard notes:List AV) :
  let st:=stA4 lb (row2 v c) su fa li_
  let h1:=heard ++ [eVar v]
  let h2:=h1 ++ [eValue v]
  let h3:=h2 ++ [eMatch x c]
  see (ev runC 300 (.sts sB) (runF p a b heard notes (locB u at_ st) (qO heard true ++ qO h1 true ++ [.str x] ++ qO h2 true ++ [.bool false]))) =
   some (.nx,k30,(locB u at_ st ++ [(122,.bool false)]),[],runH p (sto2 a b) h3 notes,[cmpV [] .In (.str c) (.str x)=some (.bool false)] ++ qP h2 (.str x) true ++ gP2 a b v x ++ qP h1 (.str v) true ++ qP heard (.str v) true):=by
 intros
 kernel_rfl
theorem f2_x0 (p:RunP)(a b v c x s1 s2:Str)(u lb su fa li_:AV)(at_:AV)(heard notes:List AV) :
  let st:=stA4 lb (row2 v c) su fa li_
  see (ev runC 300 (.sts sB) (runF p a b heard notes (locB u at_ st) (xO heard))) =
   some (.ex 99,k30,locB u at_ st,[],runH p (sto2 a b) heard notes,xP heard):=by
 intros
 kernel_rfl
theorem f2_x1 (p:RunP)(a b v c x s1 s2:Str)(u lb su fa li_:AV)(at_:AV)(heard notes:List AV) :
  let st:=stA4 lb (row2 v c) su fa li_
  let h1:=heard ++ [eVar v]
  see (ev runC 300 (.sts sB) (runF p a b heard notes (locB u at_ st) (qO heard true ++ xO h1))) =
   some (.ex 99,k30,locB u at_ st,[],runH p (sto2 a b) h1 notes,xP h1 ++ qP heard (.str v) true):=by
 intros
 kernel_rfl
theorem f2_x2 (p:RunP)(a b v c x s1 s2:Str)(u lb su fa li_:AV)(at_:AV)(heard notes:List AV) :
  let st:=stA4 lb (row2 v c) su fa li_
  let h1:=heard ++ [eVar v]
  let h2:=h1 ++ [eValue v]
  see (ev runC 300 (.sts sB) (runF p a b heard notes (locB u at_ st) (qO heard true ++ qO h1 true ++ [.str x] ++ xO h2))) =
   some (.ex 99,k30,locB u at_ st,[],runH p (sto2 a b) h2 notes,xP h2 ++ gP2 a b v x ++ qP h1 (.str v) true ++ qP heard (.str v) true):=by
 intros
 kernel_rfl
theorem f2_x3 (p:RunP)(a b v c x s1 s2:Str)(u lb su fa li_:AV)(at_:AV)(heard notes:List AV) :
  let st:=stA4 lb (row2 v c) su fa li_
  let h1:=heard ++ [eVar v]
  let h2:=h1 ++ [eValue v]
  let h3:=h2 ++ [eMatch x c]
  see (ev runC 300 (.sts sB) (runF p a b heard notes (locB u at_ st) (qO heard true ++ qO h1 true ++ [.str x] ++ qO h2 true ++ [.bool true] ++ xO h3))) =
   some (.ex 99,k30,locB u at_ st,[],runH p (sto2 a b) h3 notes,xP h3 ++ [cmpV [] .In (.str c) (.str x)=some (.bool true)] ++ qP h2 (.str x) true ++ gP2 a b v x ++ qP h1 (.str v) true ++ qP heard (.str v) true):=by
 intros
 kernel_rfl
theorem Fz.any {n0:Nat}{H:HL}{a b:AV}(h:Fz n0 [] a b):Fz n0 H a b:=
 Fz.rec (motive_1:=fun a b _=>Fz n0 H a b) (motive_2:=fun a b _=>FzL n0 H a b) .none .bool .int .lit .str .lits .kls .raw .low (fun _ e _ _=>by exact noS e) (fun _=>.nd) .nil (fun _ _=>.cons) h
theorem FzL.any {n0:Nat}{H:HL}{a b:List AV}(h:FzL n0 [] a b):FzL n0 H a b:=
 FzL.rec (motive_1:=fun a b _=>Fz n0 H a b) (motive_2:=fun a b _=>FzL n0 H a b) .none .bool .int .lit .str .lits .kls .raw .low (fun _ e _ _=>by exact noS e) (fun _=>.nd) .nil (fun _ _=>.cons) h
theorem FzC.any {n0:Nat}{H l m:HL}(h:FzC n0 [] l m):FzC n0 H l m:=by
 induction h with
 | nil=>exact .nil
 | cons h _ ih=>exact .cons h.any ih
 | drop _ ih=>exact .drop ih
theorem FzN.any {n0:Nat}{H:HL}{l m:List (Nat×AV)}(h:FzN n0 [] l m):FzN n0 H l m:=by
 induction h with
 | nil=>exact .nil
 | cons h _ ih=>exact .cons h.any ih
 | skip h _ ih=>exact .skip h ih
theorem FzC.ext {n0:Nat}{H l m:HL}(h:FzC n0 H l m)(r:HL):FzC n0 H (l ++ r) m:=by
 induction h with
 | nil=>exact .nil
 | cons h _ ih=>exact .cons h ih
 | drop _ ih=>exact .drop ih
theorem FzO.any {n0:Nat}{H:HL}{a b:Out}(h:FzO n0 [] a b):FzO n0 H a b:=by
 cases h with
 | nx=>exact .nx
 | ex=>exact .ex
 | rt h=>exact .rt h.any
 | v h=>exact .v h.any
noncomputable def LowC (n0:Nat)(c:Option (Tg×List AV)):Prop:=∀t xs,c=some (t,xs)→FzL n0 [] xs xs
structure RunP.Ok (p:RunP):Prop where
 c0:LowC 16 p.c0
 c1:LowC 16 p.c1
 c2:LowC 16 p.c2
 dr:Fz 16 [] p.dr p.dr
 na:Fz 16 [] p.na p.na
 la:Fz 16 [] p.la p.la
 SV:FzL 16 [] p.SV p.SV
 LV:FzL 16 [] p.LV p.LV
theorem FzC.opt {n0:Nat}{H l m:HL}{c:Option (Tg×List AV)}(h:LowC n0 c)(r:FzC n0 [] l m):FzC n0 [] (c :: l) (c :: m):=by
 cases c with
 | none=>exact .drop r
 | some c=>exact .cons (h _ _ rfl) r
theorem low1 {r:Nat}(h:Nat.blt r 16=true):FzL 16 [] [.ref r] [.ref r]:=.cons (.low h) .nil
theorem runH_low {p:RunP}(P:p.Ok){a b:Str}{heard notes:List AV}(hh:FroL heard)(hn:FroL notes):FzC 16 [] (runH p (sto2 a b) heard notes) (runH p (sto2 a b) heard notes):=by
 refine .opt (H:=[]) P.c0 (.opt (H:=[]) P.c1 (.opt (H:=[]) P.c2 (.cons (.cons P.dr .nil) (.cons (.cons P.na .nil) (.cons (.cons P.la .nil) (.cons (low1 rfl) (.cons (low1 rfl) (.cons (low1 rfl) (.cons P.SV (.cons P.LV (.cons (.cons .str (.cons .str .nil)) (.cons hh.fz (.cons ?_ (.cons (low1 rfl) (.cons hn.fz .nil)))))))))))))))
 exact .cons (.nd (.cons (.low rfl) (.cons (.low rfl) (.cons (.low rfl) .nil)))) (.cons (.low rfl) (.cons (.low rfl) .nil))
section
variable {prog:Program}{w:World}{K:Frag}
theorem Trip.orc {D:Nat}{ss:List S}{σ:St}{P:Out×St→Prop}(o:List AV)(b:List Prop)(h:Trip prog w K D ss {σ with orc:=o,obl:=b} P):Trip prog w K D ss σ P:=
 ⟨fun O B S k=>h.run O B (S.orc o b) k⟩
theorem Trip.see (J:Sound prog w K runC){n:Nat}{ss:List S}{p:RunP}{a b a' b':Str}{heard notes heard' notes':List AV}{loc loc' loc'':List (Nat×AV)}{orc:List AV}{o o':Out}{H:HL}{obl:List Prop}(P:p.Ok)
  (h:Mine.see (Mine.ev runC n (.sts ss) (runF p a b heard notes loc orc))=some (o,k30,loc',[],H,obl)) (ob:AllP obl) (hH:H=runH p (sto2 a' b') heard' notes') (hh:FroL heard') (hn:FroL notes') (hL:FzN 16 [] loc' loc'') (hO:FzO 16 [] o o') :
  Trip prog w K n ss (runF p a b heard notes loc []) fun r=>r=(o',runF p a' b' heard' notes' loc'' []):=by
 cases hr:Mine.ev runC n (.sts ss) (runF p a b heard notes loc orc) with
 | none=>rw [hr] at h;exact noS h
 | some r=>
  obtain ⟨o₁,σ₁⟩:=r
  rw [hr] at h
  have h':(o₁,σ₁.kd,σ₁.loc,σ₁.cel,σ₁.H.take 16,σ₁.obl)=(o,k30,loc',[],H,obl):=Option.some.inj h
  simp only [Prod.mk.injEq] at h'
  obtain ⟨rfl,e1,e2,e3,e4,e5⟩:=h'
  subst e5
  have T:Trip prog w K n ss (runF p a b heard notes loc orc) fun r=>r=(o',runF p a' b' heard' notes' loc'' []):=by
   refine Trip.fz (P:=fun r=>r=(o₁,σ₁)) (Trip.ev J hr ob) fun r hr=>?_
   subst hr
   refine (I12 (o',runF p a' b' heard' notes' loc'' []) hO.any ⟨?_,rfl,?_,?_,?_,?_⟩ rfl)
   ·exact e1.symm
   ·have:=congrArg List.length e4
    rw [hH,List.length_take] at this
    show 16≤σ₁.H.length
    have l16:(runH p (sto2 a' b') heard' notes').length=16:=rfl
    exact o186 this l16
   ·have:=(FzC.any (H:=σ₁.H) (runH_low P (a:=a') (b:=b') hh hn)).ext (σ₁.H.drop 16)
    rw [←hH,←e4,List.take_append_drop] at this
    rw [e4,hH] at this
    exact this
   ·show FzN 16 σ₁.H σ₁.loc loc''
    refine er e2 ?_;exact hL.any
   ·show FzN 16 σ₁.H σ₁.cel []
    exact .nil
  exact Trip.orc (σ:=runF p a b heard notes loc []) orc [] T
end
noncomputable def unitA (num:AV)(ss:List AV)(lk:List Str)(lv:List AV):AV:=.nd (.ins 5) [.nd (.idc [2,123,27]) [num,.nd .lst ss,.nd (.dct lk) lv]]
theorem sA_end (p:RunP)(a b:Str)(num lb bo su fa li_:AV)(ss:List AV)(lk:List Str)(lv:List AV)(at_:Int)(heard notes:List AV) :
  see (ev runC 300 (.sts sA) (runF p a b heard notes (locA (unitA num ss lk lv) (.int at_)) [stA4 lb bo su fa li_,.bool true])) =
   some (.rt (.lit 69),k30,locB (unitA num ss lk lv) (.int at_) (stA4 lb bo su fa li_),[],runH p (sto2 a b) heard notes,[cmpV [] .Eq lb (.lit 69)=some (.bool true),subV [] (li ss) (.int at_)=some (stA4 lb bo su fa li_)]):=by
 kernel_rfl
theorem sA_go (p:RunP)(a b:Str)(num lb bo su fa li_:AV)(ss:List AV)(lk:List Str)(lv:List AV)(at_:Int)(heard notes:List AV) :
  see (ev runC 300 (.sts sA) (runF p a b heard notes (locA (unitA num ss lk lv) (.int at_)) [stA4 lb bo su fa li_,.bool false])) =
   some (.nx,k30,locB (unitA num ss lk lv) (.int at_) (stA4 lb bo su fa li_),[],runH p (sto2 a b) heard (notes ++ [.int at_]),[small notes,cmpV [] .Eq lb (.lit 69)=some (.bool false),subV [] (li ss) (.int at_)=some (stA4 lb bo su fa li_)]):=by
 kernel_rfl
theorem sC_t (p:RunP)(a b:Str)(u at_ lb bo su fa li_:AV)(heard notes:List AV) :
  see (ev runC 300 (.sts sC) (runF p a b heard notes (locB u at_ (stA4 lb bo su fa li_) ++ [(122,.bool true)]) [])) =
   some (.nx,k30,locD u at_ (stA4 lb bo su fa li_) true su,[],runH p (sto2 a b) heard notes,[]):=by
 kernel_rfl
theorem sC_f (p:RunP)(a b:Str)(u at_ lb bo su fa li_:AV)(heard notes:List AV) :
  see (ev runC 300 (.sts sC) (runF p a b heard notes (locB u at_ (stA4 lb bo su fa li_) ++ [(122,.bool false)]) [])) =
   some (.nx,k30,locD u at_ (stA4 lb bo su fa li_) false fa,[],runH p (sto2 a b) heard (notes ++ [.int (-1)]),[small notes]):=by
 kernel_rfl
def tst30:E:=match b30 with | .whl t _ _ :: _=>t | _=>.cst .none ⟨0,0,0,0⟩
def pos30:Pos:=match b30 with | .whl _ _ p :: _=>p | _=>⟨0,0,0,0⟩
theorem b30_eq:b30= [.whl tst30 (sA ++ (sB ++ (sC ++ sD))) pos30] ++ b30.drop 1:=by rfl
theorem t30 (p:RunP)(a b:Str)(num:AV)(ss:List AV)(lk:List Str)(lv:List AV)(at_ n:Int)(t:Bool)(heard notes:List AV) :
  (ev runC 100 (.tr tst30) (runF p a b heard notes (locA (unitA num ss lk lv) (.int at_)) [.int n,.bool t])) =
   some (.b t,{runF p a b heard notes (locA (unitA num ss lk lv) (.int at_)) [] with obl:=[cmpV [] .Lt (.int at_) (.int n)=some (.bool t),calB [] .len [li ss]=some (.int n)]}):=by
 kernel_rfl
def getv (a b v:Str):Str:=if v=nm 197 then a else b
def seta (a v y:Str):Str:=if v=nm 197 then y else a
def setb (b v y:Str):Str:=if v=nm 197 then b else y
def VarOk (v:Str):Prop:=v=nm 197∨v=nm 198
structure BR where
 out:Option Bool
 a:Str
 b:Str
 h:List AV
noncomputable def ask (a b:Str)(h:List AV)(e:AV)(k:List AV→BR):BR:=if h.length=40 then ⟨none,a,b,h⟩ else k (h ++ [e])
noncomputable def inS (x c:Str):Bool:=!(Builtin.Str.occurrences x c 0 x.length 1).isEmpty
def replS (x c:Str):Str:=Txt.slice x none (some (Txt.find x c)) ++ nm 8 ++ Txt.slice x (some (Txt.find x c + 1)) none
def bodyS (form:Nat)(v c a b:Str)(h:List AV):BR:=
 let x:=getv a b v
 match form with
 | 0=>ask a b h (eVar v) fun h=>ask a b h (eRead v) fun h=>ask a b h (eJoin x c) fun h=>ask a b h (eAssign v (x ++ c)) fun h=>⟨some true,seta a v (x ++ c),setb b v (x ++ c),h⟩
 | 1=>ask a b h (eRead v) fun h=>ask a b h (eMatch x c) fun h=>⟨some (inS x c),a,b,h⟩
 | 2=>ask a b h (eVar v) fun h=>ask a b h (eValue v) fun h=>ask a b h (eMatch x c) fun h=>match inS x c with
  | true=>ask a b h (eRepl v (Txt.find x c)) fun h=>⟨some true,seta a v (replS x c),setb b v (replS x c),h⟩
  | false=>⟨some false,a,b,h⟩
 | 3=>ask a b h (eRead v) fun h=>ask a b h (eCall c x) fun h=>⟨some (decide (2 < x.length)),a,b,h⟩
 | _=>ask a b h (eVar v) fun h=>ask a b h (eRead v) fun h=>ask a b h (eCall c x) fun h=>match decide (2 < x.length) with
  | true=>⟨some false,a,b,h⟩
  | false=>ask a b h (eAssign v (x ++ c)) fun h=>⟨some true,seta a v (x ++ c),setb b v (x ++ c),h⟩
def rowOf (form:Nat)(v c:Str):AV:=match form with
 | 0=>row0 v c
 | 1=>row1 v c
 | 2=>row2 v c
 | 3=>row3 v c
 | _=>row4 v c
noncomputable def NoA (x:Str):Prop:=∀c∈x.cps.toList,c≠65
structure Letter (c:Str):Prop where
 len:c.length=1
 noA:NoA c
 noZ:c≠nm 180
theorem nm181:(nm 181).cps.toList= [65,84]:=by kernel_rfl
theorem nm8:nm 8=⟨#[]⟩:=by kernel_rfl
theorem NoA.ne {x:Str}(h:NoA x):x≠nm 181:=fun q=>by
 subst q
 exact h 65 (nm181.symm▸List.mem_cons_self) rfl
theorem str_add (x y:Str):(x ++ y).cps.toList=x.cps.toList ++ y.cps.toList:=by
 show (x.cps ++ y.cps).toList=_
 simp
theorem str_len (x y:Str):(x ++ y).length=x.length + y.length:=by
 show (x.cps ++ y.cps).size=_
 simp [Str.length]
theorem NoA.add {x y:Str}(h:NoA x)(k:NoA y):NoA (x ++ y):=fun c m=>by
 rw [str_add,List.mem_append] at m
 exact m.elim (h c) (k c)
theorem NoA.slice {x:Str}(h:NoA x)(l u:Option Int):NoA (Txt.slice x l u):=by
 unfold Txt.slice
 split
 ·exact h
 ·intro c m
  simp only [List.toList_toArray,List.mem_filterMap] at m
  refine X11 m fun i _ e=>?_
  exact h c (by rw [Array.mem_toList_iff];exact Array.mem_of_getElem? e)
theorem NoA.nil:NoA (nm 8):=by refine er nm8 ?_;intro c m;simp at m
theorem NoA.repl {x c:Str}(h:NoA x):NoA (replS x c):=((h.slice _ _).add .nil).add (h.slice _ _)
theorem repl_len (x c:Str):(replS x c).length≤2 * x.length:=by
 unfold replS
 have h1:=Txt.slice_le x none (some (Txt.find x c))
 have h2:=Txt.slice_le x (some (Txt.find x c + 1)) none
 have h3:(nm 8).length=0:=by refine er nm8 ?_;rfl
 rw [str_len,str_len,h3]
 exact o125 h1 h2
structure VarInv (a b:Str) (n:Nat):Prop where
 na:NoA a
 nb:NoA b
 len:∃k,4 * k≤n∧a.length + 1≤2 ^ (k + 1)∧b.length + 1≤2 ^ (k + 1)
theorem VarInv.mono {a b:Str}{n m:Nat}(h:VarInv a b n)(l:n≤m):VarInv a b m:=
 ⟨h.na,h.nb,let ⟨k,h1,h2⟩:=h.len;(I11 k (Nat.le_trans h1 l) h2)⟩
theorem VarInv.get {a b v:Str}{n:Nat}(h:VarInv a b n)(l:n≤43):NoA (getv a b v)∧(getv a b v).length≤2047:=by
 refine X12 h.len fun k h1 h2 h3=>?_
 have hk:k + 1≤11:=o126 l h1
 have p:2 ^ (k + 1)≤2 ^ 11:=Nat.pow_le_pow_right (by decide) hk
 unfold getv
 split
 ·exact ⟨h.na,Nat.le_of_succ_le_succ (Nat.le_trans h2 p)⟩
 ·exact ⟨h.nb,Nat.le_of_succ_le_succ (Nat.le_trans h3 p)⟩
theorem VarInv.set {a b v y:Str}{n:Nat}(h:VarInv a b n)(hy:NoA y)(hl:y.length + 1≤2 * ((getv a b v).length + 1)):VarInv (seta a v y) (setb b v y) (n + 4):=by
 refine X12 h.len fun k h1 h2 h3=>?_
 have q:2 ^ (k + 1 + 1)=2 * 2 ^ (k + 1):=by rw [Nat.pow_succ];exact o127
 unfold getv at hl
 unfold seta setb
 split at hl
 ·rename_i e
  refine er (if_pos e) (er (if_pos e) ?_)
  exact ⟨hy,h.nb,k + 1,(o36 h1),(o37 h2 q hl),(o38 h3 q)⟩
 ·rename_i e
  refine er (if_neg e) (er (if_neg e) ?_)
  exact ⟨h.na,hy,k + 1,(o36 h1),(o38 h2 q),(o37 h3 q hl)⟩
theorem AllP.nil:AllP []:=fun _ m=>nomatch m
theorem AllP.cons {p:Prop}{l:List Prop}(h:p)(k:AllP l):AllP (p :: l):=fun q m=>by
 rcases List.mem_cons.mp m with rfl | m
 ·exact h
 ·exact k q m
theorem AllP.app {l m:List Prop}(h:AllP l)(k:AllP m):AllP (l ++ m):=fun q i=>(List.mem_append.mp i).elim (h q) (k q)
theorem cmp_len {h:List AV}(l:h.length≤5000):calB [] .len [li h]=some (.int h.length):=by
 show (if h.length≤1000000 then some (AV.int h.length) else none)=_
 exact er (if_pos (Nat.le_trans (by assumption) (by decide))) rfl
theorem cmp_40 {h:List AV}{t:Bool}(e:t=decide (h.length=40)):cmpV [] .Eq (.int h.length) (.int 40)=some (.bool t):=by
 show some (AV.bool (decide ((h.length:Int)=40)))=_
 subst e
 congr 2
 by_cases q:h.length=40
 ·simp [q]
 ·have:¬((h.length:Int)=40):=o128 q
  simp [q,this]
theorem qP_ok {h:List AV}{p0:AV}{ne:Bool}(l:h.length < 40)(k:cmpV [] .NotEq p0 (.lit 181)=some (.bool ne)):AllP (qP h p0 ne):=
 .cons (show h.length≤5000 from Nat.le_of_lt (Nat.lt_of_lt_of_le l (by decide))) (.cons k (.cons (cmp_40 (decide_eq_false (o130 l)).symm) (.cons (cmp_len (Nat.le_of_lt (Nat.lt_of_lt_of_le l (by decide)))) .nil)))
theorem xP_ok {h:List AV}(l:h.length=40):AllP (xP h):=.cons (cmp_40 (by simp [l])) (.cons (cmp_len (o131 l)) .nil)
theorem ne_str {v:Str}(h:v≠nm 181):cmpV [] .NotEq (.str v) (.lit 181)=some (.bool true):=by
 show some (AV.bool (!decide (v=nm 181)))=_
 simp [h]
theorem var_ne {v:Str}(h:VarOk v):v≠nm 181:=by
 rcases h with rfl | rfl <;> exact fun q=>absurd (nm_inj q) (by decide)
theorem get_ok {a b v:Str}(h:VarOk v):dget [nm 197,nm 198] [.str a,.str b] v=some (.str (getv a b v)):=by
 have n:nm 198≠nm 197:=fun q=>absurd (nm_inj q) (by decide)
 unfold getv
 rcases h with rfl | rfl
 ·exact rfl
 ·exact rfl
theorem put_ok {a b v y:Str}(h:VarOk v):stoP a b v y=sto2 (seta a v y) (setb b v y):=by
 have n:nm 198≠nm 197:=fun q=>absurd (nm_inj q) (by decide)
 unfold stoP sto2 seta setb
 rcases h with rfl | rfl
 ·exact rfl
 ·exact rfl
theorem add_ok {x c:Str}(h:x.length + c.length≤100000):binV .Add (.str x) (.str c)=some (.str (x ++ c)):=by
 show (if x.length + c.length≤100000 then some (AV.str (x ++ c)) else none)=_
 exact er (if_pos h) rfl
theorem add_ok' {x:Str}(h:x.length≤100000):binV .Add (.str x) (.lit 8)=some (.str (x ++ nm 8)):=by
 show (if x.length + (nm 8).length≤100000 then some (AV.str (x ++ nm 8)) else none)=_
 exact er (if_pos (nm8.symm▸h)) rfl
theorem len_ok {x:Str}(h:x.length≤100000):calB [] .len [.str x]=some (.int x.length):=by
 show (if x.length≤1000000 then some (AV.int x.length) else none)=_
 exact er (if_pos (Nat.le_trans (by assumption) (by decide))) rfl
theorem gt_ok {x:Str}:cmpV [] .Gt (.int x.length) (.int 2)=some (.bool (decide (2 < x.length))):=by
 show some (AV.bool (decide ((2:Int) < x.length)))=_
 congr 2
 by_cases q:2 < x.length
 ·have:(2:Int) < x.length:=Int.ofNat_le.mpr (by assumption)
  simp [q,this]
 ·have:¬(2:Int) < x.length:=o132 q
  simp [q,this]
theorem in_ok {c:Str}(h:Letter c):cmpV [] .In (.str c) (tu [.lit 181,.lit 180])=some (.bool false):=by
 show ((memV (.str c) [.lit 181,.lit 180]).map AV.bool)=_
 have h1:(decide (c=nm 181))=false:=by simp [h.noA.ne]
 have h2:(decide (c=nm 180))=false:=by simp [h.noZ]
 have e1:eqV (.str c) (.lit 181)=some false:=by show some (decide (c=nm 181))=_;exact er h1 rfl
 have e2:eqV (.str c) (.lit 180)=some false:=by show some (decide (c=nm 180))=_;exact er h2 rfl
 unfold memV
 refine er e1 ?_
 show (memV (.str c) [.lit 180]).map AV.bool=_
 unfold memV
 refine er e2 ?_
 rfl
theorem find_ok {x c:Str}:cmpV [] .In (.str c) (.str x)=some (.bool (inS x c)):=rfl
theorem slL_ok {x:Str}{i:Int}(h:x.length≤100000):slStr x none (some i)=some (.str (Txt.slice x none (some i))):=by
 show (if x.length≤100000 then _ else _)=_
 exact er (if_pos h) rfl
theorem slR_ok {x:Str}{i:Int}(h:x.length≤100000):slStr x (some i) none=some (.str (Txt.slice x (some i) none)):=by
 show (if x.length≤100000 then _ else _)=_
 exact er (if_pos h) rfl
theorem fro_q {k:Nat}{l:List AV}(h:FroL l):Fro (tu [.lit k,li l]):=.nd (.cons .lit (.cons (.nd h) .nil))
theorem FroL.snoc {l:List AV}{a:AV}(h:FroL l)(k:Fro a):FroL (l ++ [a]):=h.append (.cons k .nil)
noncomputable abbrev Lo (a:AV):Prop:=Fz 16 [] a a
theorem Fro.lo {a:AV}(h:Fro a):Lo a:=h.fz
def brOut (p:RunP)(notes:List AV)(loc:List (Nat×AV))(B:BR):Out×St:=match B.out with
 | some t=>(.nx,runF p B.a B.b B.h notes (loc ++ [(122,.bool t)]) [])
 | none=>(.ex 99,runF p B.a B.b B.h notes loc [])
theorem lo_locB {u at_ st:AV}(hu:Lo u)(ha:Lo at_)(hs:Lo st):FzN 16 [] (locB u at_ st) (locB u at_ st):=.cons hu (.cons ha (.cons (.low rfl) (.cons hs .nil)))
theorem lo_locB1 {u at_ st:AV}{t:Bool}(hu:Lo u)(ha:Lo at_)(hs:Lo st):FzN 16 [] (locB u at_ st ++ [(122,.bool t)]) (locB u at_ st ++ [(122,.bool t)]):=.cons hu (.cons ha (.cons (.low rfl) (.cons hs (.cons .bool .nil))))
section
variable {prog:Program}{w:World}{K:Frag}
structure RunInv (p:RunP) (a b:Str) (h notes:List AV):Prop where
 ok:p.Ok
 var:VarInv a b h.length
 le:h.length≤40
 hf:FroL h
 nf:FroL notes
 sp:∀v,VarOk v→dget p.SK p.SV v=none
theorem gP_ok {p:RunP}{a b v:Str}(h:VarOk v)(hs:∀v,VarOk v→dget p.SK p.SV v=none):AllP (gP p a b v (getv a b v)):=
 .cons (get_ok h) (.cons (by rw [hs v h];rfl) .nil)
theorem gP2_ok {p:RunP}{a b v:Str}(h:VarOk v):AllP (gP2 a b v (getv a b v)):=.cons (get_ok h) .nil
theorem fro_call {c x:Str}:Fro (eCall c x):=.nd (.cons .lit (.cons (.nd (.cons .str (.cons (.nd (.cons .str .nil)) (.cons .bool .nil)))) .nil))
theorem fro_join {x c:Str}:Fro (eJoin x c):=.nd (.cons .lit (.cons (.nd (.cons .lit (.cons (.nd (.cons .str (.cons .str .nil))) .nil))) .nil))
theorem fro_1 {k:Nat}{v:Str}:Fro (tu [.lit k,li [.str v]]):=fro_q (.cons .str .nil)
theorem fro_2 {k:Nat}{v y:Str}:Fro (tu [.lit k,li [.str v,.str y]]):=fro_q (.cons .str (.cons .str .nil))
theorem fro_var {v:Str}:Fro (eVar v):=fro_1
theorem fro_read {v:Str}:Fro (eRead v):=fro_1
theorem fro_value {v:Str}:Fro (eValue v):=fro_1
theorem fro_match {x c:Str}:Fro (eMatch x c):=fro_2
theorem fro_assign {x c:Str}:Fro (eAssign x c):=fro_2
theorem fro_repl {v:Str}{i:Int}:Fro (eRepl v i):=fro_q (.cons .str (.cons .int (.cons .lit .nil)))
theorem ask_x {a b:Str}{h:List AV}{e:AV}{k:List AV→BR}(q:h.length=40):ask a b h e k=⟨none,a,b,h⟩:=if_pos q
theorem ask_go {a b:Str}{h:List AV}{e:AV}{k:List AV→BR}(q:¬h.length=40):ask a b h e k=k (h ++ [e]):=if_neg q
theorem bodyS0 {v c a b:Str}{h:List AV}:bodyS 0 v c a b h=ask a b h (eVar v) fun h=>ask a b h (eRead v) fun h=>ask a b h (eJoin (getv a b v) c) fun h=>ask a b h (eAssign v (getv a b v ++ c)) fun h=>⟨some true,seta a v (getv a b v ++ c),setb b v (getv a b v ++ c),h⟩:=rfl
theorem bodyS1 {v c a b:Str}{h:List AV}:bodyS 1 v c a b h=ask a b h (eRead v) fun h=>ask a b h (eMatch (getv a b v) c) fun h=>⟨some (inS (getv a b v) c),a,b,h⟩:=rfl
theorem bodyS2 {v c a b:Str}{h:List AV}:bodyS 2 v c a b h=ask a b h (eVar v) fun h=>ask a b h (eValue v) fun h=>ask a b h (eMatch (getv a b v) c) fun h=>match inS (getv a b v) c with
  | true=>ask a b h (eRepl v (Txt.find (getv a b v) c)) fun h=>⟨some true,seta a v (replS (getv a b v) c),setb b v (replS (getv a b v) c),h⟩
  | false=>⟨some false,a,b,h⟩:=rfl
theorem bodyS3 {v c a b:Str}{h:List AV}:bodyS 3 v c a b h=ask a b h (eRead v) fun h=>ask a b h (eCall c (getv a b v)) fun h=>⟨some (decide (2 < (getv a b v).length)),a,b,h⟩:=rfl
theorem bodyS4 {v c a b:Str}{h:List AV}:bodyS 4 v c a b h=ask a b h (eVar v) fun h=>ask a b h (eRead v) fun h=>ask a b h (eCall c (getv a b v)) fun h=>match decide (2 < (getv a b v).length) with
  | true=>⟨some false,a,b,h⟩
  | false=>ask a b h (eAssign v (getv a b v ++ c)) fun h=>⟨some true,seta a v (getv a b v ++ c),setb b v (getv a b v ++ c),h⟩:=rfl
set_option maxHeartbeats 4000000 in
theorem body_trip (J:Sound prog w K runC){p:RunP}{a b v c:Str}{form:Nat}{h notes:List AV}{u at_ lb su fa li_:AV}(I:RunInv p a b h notes)(hv:VarOk v)(hc:Letter c)(hf:form≤4)
  (hu:Lo u) (ha:Lo at_) (hs:Lo (stA4 lb (rowOf form v c) su fa li_)) :
  Trip prog w K 300 sB (runF p a b h notes (locB u at_ (stA4 lb (rowOf form v c) su fa li_)) []) fun r=>r=brOut p notes (locB u at_ (stA4 lb (rowOf form v c) su fa li_)) (bodyS form v c a b h):=by
 have hne:=ne_str (var_ne hv)
 have hf0:=I.hf
 have hnc:=ne_str hc.noA.ne
 refine X01 (I.var.get (v:=v) (by have:=I.le;exact Nat.le_trans (by assumption) (by decide))) fun gn gl=>?_
 have hnx:=ne_str gn.ne
 have cl:=hc.len
 have le:=I.le
 have L1:∀{e:AV},(h ++ [e]).length=h.length + 1:=List.length_append
 have L2:∀{e f:AV},(h ++ [e] ++ [f]).length=h.length + 2:=List.length_append.trans (congrArg Nat.succ L1)
 have L3:∀{e f g:AV},(h ++ [e] ++ [f] ++ [g]).length=h.length + 3:=List.length_append.trans (congrArg Nat.succ L2)
 have lB:=lo_locB hu ha hs
 have lT:∀t,_:=fun t=>lo_locB1 (t:=t) hu ha hs
 have cin:=in_ok hc
 generalize hx:getv a b v=x at gn gl hnx
 have ad:binV .Add (.str x) (.str c)=some (.str (x ++ c)):=add_ok (o73 cl gl)
 have g1:AllP (gP p a b v x):=hx▸gP_ok hv I.sp
 have g2:AllP (gP2 a b v x):=hx▸gP2_ok (p:=p) hv
 have xl:calB [] .len [.str x]=some (.int x.length):=len_ok (Nat.le_trans (by assumption) (by decide))
 have jo:cmpV [] .NotEq (.lit 98) (.lit 181)=some (.bool true):=ne_str (v:=nm 98) (fun q=>absurd (nm_inj q) (by decide))
 have put:∀{y:Str},stoP a b v y=sto2 (seta a v y) (setb b v y):=fun {y}=>put_ok hv
 have nf:∀{q},inS x c=q→cmpV [] .In (.str c) (.str x)=some (.bool q):=fun d=>d▸find_ok
 have gx:∀{q},decide (2 < x.length)=q→cmpV [] .Gt (.int x.length) (.int 2)=some (.bool q):=fun d=>d▸gt_ok
 match form,hf with
 | 0,_=>
  rw [bodyS0,hx]
  by_cases q0:h.length + 0=40
  refine er (ask_x q0) ?_
  refine Trip.see J I.ok (f0_x0 p a b v c x x x u lb su fa li_ at_ h notes) ?_ rfl ?_ I.nf lB .ex;rotate_left 2
  refine er (ask_go q0) ?_
  have g0:h.length < 40:=Nat.lt_of_le_of_ne le q0
  by_cases q1:h.length + 1=40
  refine er (ask_x (L1.trans q1)) ?_
  refine Trip.see J I.ok (f0_x1 p a b v c x x x u lb su fa li_ at_ h notes) ?_ rfl ?_ I.nf lB .ex;rotate_left 2
  refine er (ask_go fun q=>q1 (L1.symm.trans q)) ?_
  have g1:h.length + 1 < 40:=Nat.lt_of_le_of_ne g0 q1
  by_cases q2:h.length + 2=40
  refine er (ask_x (L2.trans q2)) ?_
  refine Trip.see J I.ok (f0_x2 p a b v c x x x u lb su fa li_ at_ h notes) ?_ rfl ?_ I.nf lB .ex;rotate_left 2
  refine er (ask_go fun q=>q2 (L2.symm.trans q)) ?_
  have g2:h.length + 2 < 40:=Nat.lt_of_le_of_ne g1 q2
  by_cases q3:h.length + 3=40
  refine er (ask_x (L3.trans q3)) ?_
  refine Trip.see J I.ok (f0_x3 p a b v c x x x u lb su fa li_ at_ h notes) ?_ rfl ?_ I.nf lB .ex;rotate_left 2
  refine er (ask_go fun q=>q3 (L3.symm.trans q)) ?_
  have g3:h.length + 3 < 40:=Nat.lt_of_le_of_ne g2 q3
  refine Trip.see J I.ok (f0_ok p a b v c x x x u lb su fa li_ at_ h notes) ?_ (by rw [put]) ?_ I.nf (lT _) .nx;rotate_left 2
  all_goals
   repeat' first
    | with_reducible exact AllP.nil
    | ((with_reducible refine xP_ok ?_);first | exact q0 | exact L1.trans q1 | exact L2.trans q2 | exact L3.trans q3)
    | ((with_reducible refine qP_ok ?_ ?_);first | exact g0 | exact Nat.lt_of_le_of_lt (Nat.le_of_eq L1) g1 | exact Nat.lt_of_le_of_lt (Nat.le_of_eq L2) g2 | exact Nat.lt_of_le_of_lt (Nat.le_of_eq L3) g3)
    | with_reducible assumption
    | rfl
    | exact nf (by assumption)
    | exact gx (by assumption)
    | with_reducible refine AllP.app ?_ ?_
    | with_reducible refine AllP.cons ?_ ?_
    | with_reducible exact fro_var
    | with_reducible exact fro_read
    | with_reducible exact fro_value
    | with_reducible exact fro_match
    | with_reducible exact fro_assign
    | with_reducible exact fro_call
    | with_reducible exact fro_join
    | with_reducible exact fro_repl
    | with_reducible refine FroL.snoc ?_ ?_
 | 1,_=>
  rw [bodyS1,hx]
  by_cases q0:h.length + 0=40
  refine er (ask_x q0) ?_
  refine Trip.see J I.ok (f1_x0 p a b v c x x x u lb su fa li_ at_ h notes) ?_ rfl ?_ I.nf lB .ex;rotate_left 2
  refine er (ask_go q0) ?_
  have g0:h.length < 40:=Nat.lt_of_le_of_ne le q0
  by_cases q1:h.length + 1=40
  refine er (ask_x (L1.trans q1)) ?_
  refine Trip.see J I.ok (f1_x1 p a b v c x x x u lb su fa li_ at_ h notes) ?_ rfl ?_ I.nf lB .ex;rotate_left 2
  refine er (ask_go fun q=>q1 (L1.symm.trans q)) ?_
  have g1:h.length + 1 < 40:=Nat.lt_of_le_of_ne g0 q1
  cases d:inS x c
  refine Trip.see J I.ok (f1_no p a b v c x x x u lb su fa li_ at_ h notes) ?_ rfl ?_ I.nf (lT _) .nx;rotate_left 2
  refine Trip.see J I.ok (f1_ok p a b v c x x x u lb su fa li_ at_ h notes) ?_ rfl ?_ I.nf (lT _) .nx;rotate_left 2
  all_goals
   repeat' first
    | with_reducible exact AllP.nil
    | ((with_reducible refine xP_ok ?_);first | exact q0 | exact L1.trans q1 | exact L2.trans q2 | exact L3.trans q3)
    | ((with_reducible refine qP_ok ?_ ?_);first | exact g0 | exact Nat.lt_of_le_of_lt (Nat.le_of_eq L1) g1 | exact Nat.lt_of_le_of_lt (Nat.le_of_eq L2) g2 | exact Nat.lt_of_le_of_lt (Nat.le_of_eq L3) g3)
    | with_reducible assumption
    | rfl
    | exact nf (by assumption)
    | exact gx (by assumption)
    | with_reducible refine AllP.app ?_ ?_
    | with_reducible refine AllP.cons ?_ ?_
    | with_reducible exact fro_var
    | with_reducible exact fro_read
    | with_reducible exact fro_value
    | with_reducible exact fro_match
    | with_reducible exact fro_assign
    | with_reducible exact fro_call
    | with_reducible exact fro_join
    | with_reducible exact fro_repl
    | with_reducible refine FroL.snoc ?_ ?_
 | 2,_=>
  rw [bodyS2,hx]
  by_cases q0:h.length + 0=40
  refine er (ask_x q0) ?_
  refine Trip.see J I.ok (f2_x0 p a b v c x x x u lb su fa li_ at_ h notes) ?_ rfl ?_ I.nf lB .ex;rotate_left 2
  refine er (ask_go q0) ?_
  have g0:h.length < 40:=Nat.lt_of_le_of_ne le q0
  by_cases q1:h.length + 1=40
  refine er (ask_x (L1.trans q1)) ?_
  refine Trip.see J I.ok (f2_x1 p a b v c x x x u lb su fa li_ at_ h notes) ?_ rfl ?_ I.nf lB .ex;rotate_left 2
  refine er (ask_go fun q=>q1 (L1.symm.trans q)) ?_
  have g1:h.length + 1 < 40:=Nat.lt_of_le_of_ne g0 q1
  by_cases q2:h.length + 2=40
  refine er (ask_x (L2.trans q2)) ?_
  refine Trip.see J I.ok (f2_x2 p a b v c x x x u lb su fa li_ at_ h notes) ?_ rfl ?_ I.nf lB .ex;rotate_left 2
  refine er (ask_go fun q=>q2 (L2.symm.trans q)) ?_
  have g2:h.length + 2 < 40:=Nat.lt_of_le_of_ne g1 q2
  cases d:inS x c
  refine Trip.see J I.ok (f2_no p a b v c x x x u lb su fa li_ at_ h notes) ?_ rfl ?_ I.nf (lT _) .nx;rotate_left 2
  dsimp only
  by_cases q3:h.length + 3=40
  refine er (ask_x (L3.trans q3)) ?_
  refine Trip.see J I.ok (f2_x3 p a b v c x x x u lb su fa li_ at_ h notes) ?_ rfl ?_ I.nf lB .ex;rotate_left 2
  refine er (ask_go fun q=>q3 (L3.symm.trans q)) ?_
  have g3:h.length + 3 < 40:=Nat.lt_of_le_of_ne g2 q3
  have a1:slStr x none (some (Txt.find x c))=some (.str (Txt.slice x none (some (Txt.find x c)))):=slL_ok (o24 gl)
  have a2:slStr x (some (Txt.find x c + 1)) none=some (.str (Txt.slice x (some (Txt.find x c + 1)) none)):=slR_ok (o24 gl)
  have b1:=Txt.slice_le x none (some (Txt.find x c))
  have b2:=Txt.slice_le x (some (Txt.find x c + 1)) none
  have a3:=add_ok' (x:=Txt.slice x none (some (Txt.find x c))) (o74 gl b1)
  have a4:binV .Add (.str (Txt.slice x none (some (Txt.find x c)) ++ nm 8)) (.str (Txt.slice x (some (Txt.find x c + 1)) none))=some (.str (Txt.slice x none (some (Txt.find x c)) ++ nm 8 ++ Txt.slice x (some (Txt.find x c + 1)) none)):=add_ok (by rw [str_len];have:(nm 8).length=0:=(by rw [nm8];rfl);exact o75 gl b1 b2 this)
  refine Trip.see J I.ok (f2_ok p a b v c x (Txt.slice x none (some (Txt.find x c))) (Txt.slice x (some (Txt.find x c + 1)) none) u lb su fa li_ at_ h notes) ?_ (by rw [put];rfl) ?_ I.nf (lT _) .nx;rotate_left 2
  all_goals
   repeat' first
    | with_reducible exact AllP.nil
    | ((with_reducible refine xP_ok ?_);first | exact q0 | exact L1.trans q1 | exact L2.trans q2 | exact L3.trans q3)
    | ((with_reducible refine qP_ok ?_ ?_);first | exact g0 | exact Nat.lt_of_le_of_lt (Nat.le_of_eq L1) g1 | exact Nat.lt_of_le_of_lt (Nat.le_of_eq L2) g2 | exact Nat.lt_of_le_of_lt (Nat.le_of_eq L3) g3)
    | with_reducible assumption
    | rfl
    | exact nf (by assumption)
    | exact gx (by assumption)
    | with_reducible refine AllP.app ?_ ?_
    | with_reducible refine AllP.cons ?_ ?_
    | with_reducible exact fro_var
    | with_reducible exact fro_read
    | with_reducible exact fro_value
    | with_reducible exact fro_match
    | with_reducible exact fro_assign
    | with_reducible exact fro_call
    | with_reducible exact fro_join
    | with_reducible exact fro_repl
    | with_reducible refine FroL.snoc ?_ ?_
 | 3,_=>
  rw [bodyS3,hx]
  by_cases q0:h.length + 0=40
  refine er (ask_x q0) ?_
  refine Trip.see J I.ok (f3_x0 p a b v c x x x u lb su fa li_ at_ h notes) ?_ rfl ?_ I.nf lB .ex;rotate_left 2
  refine er (ask_go q0) ?_
  have g0:h.length < 40:=Nat.lt_of_le_of_ne le q0
  by_cases q1:h.length + 1=40
  refine er (ask_x (L1.trans q1)) ?_
  refine Trip.see J I.ok (f3_x1 p a b v c x x x u lb su fa li_ at_ h notes) ?_ rfl ?_ I.nf lB .ex;rotate_left 2
  refine er (ask_go fun q=>q1 (L1.symm.trans q)) ?_
  have g1:h.length + 1 < 40:=Nat.lt_of_le_of_ne g0 q1
  cases d:decide (2 < x.length)
  refine Trip.see J I.ok (f3_no p a b v c x x x u lb su fa li_ at_ h notes) ?_ rfl ?_ I.nf (lT _) .nx;rotate_left 2
  refine Trip.see J I.ok (f3_ok p a b v c x x x u lb su fa li_ at_ h notes) ?_ rfl ?_ I.nf (lT _) .nx;rotate_left 2
  all_goals
   repeat' first
    | with_reducible exact AllP.nil
    | ((with_reducible refine xP_ok ?_);first | exact q0 | exact L1.trans q1 | exact L2.trans q2 | exact L3.trans q3)
    | ((with_reducible refine qP_ok ?_ ?_);first | exact g0 | exact Nat.lt_of_le_of_lt (Nat.le_of_eq L1) g1 | exact Nat.lt_of_le_of_lt (Nat.le_of_eq L2) g2 | exact Nat.lt_of_le_of_lt (Nat.le_of_eq L3) g3)
    | with_reducible assumption
    | rfl
    | exact nf (by assumption)
    | exact gx (by assumption)
    | with_reducible refine AllP.app ?_ ?_
    | with_reducible refine AllP.cons ?_ ?_
    | with_reducible exact fro_var
    | with_reducible exact fro_read
    | with_reducible exact fro_value
    | with_reducible exact fro_match
    | with_reducible exact fro_assign
    | with_reducible exact fro_call
    | with_reducible exact fro_join
    | with_reducible exact fro_repl
    | with_reducible refine FroL.snoc ?_ ?_
 | 4,_=>
  rw [bodyS4,hx]
  by_cases q0:h.length + 0=40
  refine er (ask_x q0) ?_
  refine Trip.see J I.ok (f4_x0 p a b v c x x x u lb su fa li_ at_ h notes) ?_ rfl ?_ I.nf lB .ex;rotate_left 2
  refine er (ask_go q0) ?_
  have g0:h.length < 40:=Nat.lt_of_le_of_ne le q0
  by_cases q1:h.length + 1=40
  refine er (ask_x (L1.trans q1)) ?_
  refine Trip.see J I.ok (f4_x1 p a b v c x x x u lb su fa li_ at_ h notes) ?_ rfl ?_ I.nf lB .ex;rotate_left 2
  refine er (ask_go fun q=>q1 (L1.symm.trans q)) ?_
  have g1:h.length + 1 < 40:=Nat.lt_of_le_of_ne g0 q1
  by_cases q2:h.length + 2=40
  refine er (ask_x (L2.trans q2)) ?_
  refine Trip.see J I.ok (f4_x2 p a b v c x x x u lb su fa li_ at_ h notes) ?_ rfl ?_ I.nf lB .ex;rotate_left 2
  refine er (ask_go fun q=>q2 (L2.symm.trans q)) ?_
  have g2:h.length + 2 < 40:=Nat.lt_of_le_of_ne g1 q2
  cases d:decide (2 < x.length)
  dsimp only
  by_cases q3:h.length + 3=40
  refine er (ask_x (L3.trans q3)) ?_
  refine Trip.see J I.ok (f4_x3 p a b v c x x x u lb su fa li_ at_ h notes) ?_ rfl ?_ I.nf lB .ex;rotate_left 2
  refine er (ask_go fun q=>q3 (L3.symm.trans q)) ?_
  have g3:h.length + 3 < 40:=Nat.lt_of_le_of_ne g2 q3
  refine Trip.see J I.ok (f4_ok p a b v c x x x u lb su fa li_ at_ h notes) ?_ (by rw [put]) ?_ I.nf (lT _) .nx;rotate_left 2
  refine Trip.see J I.ok (f4_no p a b v c x x x u lb su fa li_ at_ h notes) ?_ rfl ?_ I.nf (lT _) .nx;rotate_left 2
  all_goals
   repeat' first
    | with_reducible exact AllP.nil
    | ((with_reducible refine xP_ok ?_);first | exact q0 | exact L1.trans q1 | exact L2.trans q2 | exact L3.trans q3)
    | ((with_reducible refine qP_ok ?_ ?_);first | exact g0 | exact Nat.lt_of_le_of_lt (Nat.le_of_eq L1) g1 | exact Nat.lt_of_le_of_lt (Nat.le_of_eq L2) g2 | exact Nat.lt_of_le_of_lt (Nat.le_of_eq L3) g3)
    | with_reducible assumption
    | rfl
    | exact nf (by assumption)
    | exact gx (by assumption)
    | with_reducible refine AllP.app ?_ ?_
    | with_reducible refine AllP.cons ?_ ?_
    | with_reducible exact fro_var
    | with_reducible exact fro_read
    | with_reducible exact fro_value
    | with_reducible exact fro_match
    | with_reducible exact fro_assign
    | with_reducible exact fro_call
    | with_reducible exact fro_join
    | with_reducible exact fro_repl
    | with_reducible refine FroL.snoc ?_ ?_
end
theorem ask_ind {Q:BR→Prop}{a b:Str}{h:List AV}{e:AV}{k:List AV→BR}(le:h.length≤40)(h0:Q ⟨none,a,b,h⟩)(h1:(h ++ [e]).length≤40→Q (k (h ++ [e]))):Q (ask a b h e k):=by
 by_cases q:h.length=40
 ·refine er (ask_x q) ?_;exact h0
 ·refine er (ask_go q) ?_;exact h1 (List.length_append.symm▸Nat.lt_of_le_of_ne le q)
structure BInv (n:Nat) (B:BR):Prop where
 var:VarInv B.a B.b B.h.length
 le:B.h.length≤40
 fro:FroL B.h
 lt:B.out≠none→n < B.h.length
theorem body_inv {form:Nat}{v c a b:Str}{h:List AV}(hv:VarInv a b h.length)(le:h.length≤40)(hf:FroL h)(hc:Letter c)(form4:form≤4):BInv h.length (bodyS form v c a b h):=by
 refine X01 (hv.get (v:=v) (Nat.le_trans (by assumption) (by decide))) fun gn gl=>?_
 have xx:∀{h':List AV} {o:Option Bool},h.length≤h'.length→(o≠none→h.length < h'.length)→h'.length≤40→FroL h'→BInv h.length ⟨o,a,b,h'⟩:=fun l l' m f=>⟨hv.mono l,m,f,l'⟩
 have set1:∀{h':List AV} {o:Option Bool} {y:Str},h'.length=h.length + 4→h'.length≤40→FroL h'→NoA y→y.length + 1≤2 * ((getv a b v).length + 1)→BInv h.length ⟨o,seta a v y,setb b v y,h'⟩:=fun l m f n q=>⟨l▸hv.set n q,m,f,fun _=>Nat.lt_of_lt_of_eq (Nat.lt_add_of_pos_right (by decide)) l.symm⟩
 have cl:=hc.len
 have x0:=xx (o:=none) (Nat.le_refl _) (fun q=>absurd rfl q) le hf
 have f1:=FroL.snoc hf (fro_var (v:=v))
 have f1r:=FroL.snoc hf (fro_read (v:=v))
 have f2:=FroL.snoc f1 (fro_read (v:=v))
 have f2v:=FroL.snoc f1 (fro_value (v:=v))
 have f2m:=FroL.snoc f1r (fro_match (x:=getv a b v) (c:=c))
 have f2c:=FroL.snoc f1r (fro_call (c:=c) (x:=getv a b v))
 have f3j:=FroL.snoc f2 (fro_join (x:=getv a b v) (c:=c))
 have f3m:=FroL.snoc f2v (fro_match (x:=getv a b v) (c:=c))
 have f3c:=FroL.snoc f2 (fro_call (c:=c) (x:=getv a b v))
 have f4j:=FroL.snoc f3j (fro_assign (x:=v) (c:=getv a b v ++ c))
 have f4c:=FroL.snoc f3c (fro_assign (x:=v) (c:=getv a b v ++ c))
 have f4m:=FroL.snoc f3m (fro_repl (v:=v) (i:=Txt.find (getv a b v) c))
 have sa:=gn.add hc.noA
 have sl:(getv a b v ++ c).length + 1≤2 * ((getv a b v).length + 1):=by rw [str_len];exact o184 cl
 have ra:NoA (replS (getv a b v) c):=gn.repl
 have rl:(replS (getv a b v) c).length + 1≤2 * ((getv a b v).length + 1):=by have:=repl_len (getv a b v) c;exact o185 this
 have S1:∀{e:AV},h.length < (h ++ [e]).length:=List.length_append.symm▸Nat.lt_succ_self _
 have S2:∀{e f:AV},h.length < (h ++ [e] ++ [f]).length:=List.length_append.symm▸Nat.lt_succ_of_lt S1
 have S3:∀{e f g:AV},h.length < (h ++ [e] ++ [f] ++ [g]).length:=List.length_append.symm▸Nat.lt_succ_of_lt S2
 have E4:∀{e f g i:AV},(h ++ [e] ++ [f] ++ [g] ++ [i]).length=h.length + 4:=by intros;simp only [List.length_append];rfl
 match form,form4 with
 | 0,_=>
  refine er bodyS0 ?_
  refine ask_ind le x0 fun l1=>ask_ind l1 (xx ?_ ?_ l1 f1) fun l2=>ask_ind l2 (xx ?_ ?_ l2 f2) fun l3=>ask_ind l3 (xx ?_ ?_ l3 f3j) fun l4=>set1 ?_ l4 f4j sa sl
  all_goals first | exact fun q=>absurd rfl q | exact Nat.le_of_lt S1 | exact Nat.le_of_lt S2 | exact Nat.le_of_lt S3 | exact fun _=>S1 | exact fun _=>S2 | exact fun _=>S3 | exact E4
 | 1,_=>
  refine er bodyS1 ?_
  refine ask_ind le x0 fun l1=>ask_ind l1 (xx ?_ ?_ l1 f1r) fun l2=>xx ?_ ?_ l2 f2m
  all_goals first | exact fun q=>absurd rfl q | exact Nat.le_of_lt S1 | exact Nat.le_of_lt S2 | exact Nat.le_of_lt S3 | exact fun _=>S1 | exact fun _=>S2 | exact fun _=>S3 | exact E4
 | 2,_=>
  refine er bodyS2 ?_
  refine ask_ind le x0 fun l1=>ask_ind l1 (xx ?_ ?_ l1 f1) fun l2=>ask_ind l2 (xx ?_ ?_ l2 f2v) fun l3=>?_
  rotate_left 4
  ·cases inS (getv a b v) c
   ·refine xx ?_ ?_ l3 f3m
    all_goals first | exact Nat.le_of_lt S1 | exact Nat.le_of_lt S2 | exact Nat.le_of_lt S3 | exact fun _=>S1 | exact fun _=>S2 | exact fun _=>S3 | exact E4
   ·refine ask_ind l3 (xx ?_ ?_ l3 f3m) fun l4=>set1 ?_ l4 f4m ra rl
    all_goals first | exact fun q=>absurd rfl q | exact Nat.le_of_lt S1 | exact Nat.le_of_lt S2 | exact Nat.le_of_lt S3 | exact fun _=>S1 | exact fun _=>S2 | exact fun _=>S3 | exact E4
  all_goals first | exact fun q=>absurd rfl q | exact Nat.le_of_lt S1 | exact Nat.le_of_lt S2 | exact Nat.le_of_lt S3 | exact fun _=>S1 | exact fun _=>S2 | exact fun _=>S3 | exact E4
 | 3,_=>
  refine er bodyS3 ?_
  refine ask_ind le x0 fun l1=>ask_ind l1 (xx ?_ ?_ l1 f1r) fun l2=>xx ?_ ?_ l2 f2c
  all_goals first | exact fun q=>absurd rfl q | exact Nat.le_of_lt S1 | exact Nat.le_of_lt S2 | exact Nat.le_of_lt S3 | exact fun _=>S1 | exact fun _=>S2 | exact fun _=>S3 | exact E4
 | 4,_=>
  refine er bodyS4 ?_
  refine ask_ind le x0 fun l1=>ask_ind l1 (xx ?_ ?_ l1 f1) fun l2=>ask_ind l2 (xx ?_ ?_ l2 f2) fun l3=>?_
  rotate_left 4
  ·cases decide (2 < (getv a b v).length)
   ·refine ask_ind l3 (xx ?_ ?_ l3 f3c) fun l4=>set1 ?_ l4 f4c sa sl
    all_goals first | exact fun q=>absurd rfl q | exact Nat.le_of_lt S1 | exact Nat.le_of_lt S2 | exact Nat.le_of_lt S3 | exact fun _=>S1 | exact fun _=>S2 | exact fun _=>S3 | exact E4
   ·refine xx ?_ ?_ l3 f3c
    all_goals first | exact Nat.le_of_lt S1 | exact Nat.le_of_lt S2 | exact Nat.le_of_lt S3 | exact fun _=>S1 | exact fun _=>S2 | exact fun _=>S3 | exact E4
  all_goals first | exact fun q=>absurd rfl q | exact Nat.le_of_lt S1 | exact Nat.le_of_lt S2 | exact Nat.le_of_lt S3 | exact fun _=>S1 | exact fun _=>S2 | exact fun _=>S3 | exact E4
inductive Way | lab (g:Nat) | ind (g:Nat) | at (g:Nat) | z | cod (g:Nat)
inductive WT | go (g:Nat) | err (i:Int)
def wayS (cn:Nat→Str):Way→List AV→WT×List AV
 | .lab g,h=>(.go g,h)
 | .ind g,h=>(.go g,h)
 | .at g,h=>if h.length=40 then (.err 99,h) else (.go g,h ++ [.lit 44])
 | .z,h=>if h.length=40 then (.err 99,h) else (.err 19,h ++ [eZ])
 | .cod g,h=>if h.length=40 then (.err 99,h) else (.go g,h ++ [eRead (cn g)])
def wayRow (lab cn:Nat→Str):Way→AV
 | .lab g=>rowL (lab g)
 | .ind g=>rowS (lab g)
 | .at g=>rowA (lab g)
 | .z=>rowZ
 | .cod g=>rowC (cn g)
noncomputable def Way.Ok (many:Nat):Way→Prop
 | .lab g=>g < many + 3
 | .ind g=>g < many + 3
 | .at g=>g < many + 3
 | .z=>True
 | .cod g=>g < many
structure Dr where
 form:Nat
 var:Str
 su:Way
 fa:Way
structure Dr.Ok (many:Nat) (d:Dr):Prop where
 form:d.form≤4
 var:VarOk d.var
 su:d.su.Ok many
 fa:d.fa.Ok many
structure RR where
 out:Out
 a:Str
 b:Str
 h:List AV
 fl:List Bool
def goS (many:Nat)(dr:Nat→Dr)(lt cn:Nat→Str):Nat→Nat→Str→Str→List AV→List Bool→RR
 | 0,_,a,b,h,fl=>⟨.nx,a,b,h,fl⟩
 | n + 1,k,a,b,h,fl=>
  let B:=bodyS (dr k).form (dr k).var (lt k) a b h
  match B.out with
  | none=>⟨.ex 99,B.a,B.b,B.h,fl ++ [false]⟩
  | some t=>
   let fl':=if t then fl ++ [false] else fl ++ [false] ++ [true]
   let W:=wayS cn (if t then (dr k).su else (dr k).fa) B.h
   match W.1 with
   | .err i=>⟨.ex i,B.a,B.b,W.2,fl'⟩
   | .go g=>if g < many then goS many dr lt cn n g B.a B.b W.2 fl' else if g=many then ⟨.rt (.str (nm 69)),B.a,B.b,W.2,fl'⟩ else if g=many + 1 then ⟨.rt (.str (nm 72)),B.a,B.b,W.2,fl'⟩ else ⟨.ex 24,B.a,B.b,W.2,fl'⟩
structure StAt (u:AV) (i:Int) (st:AV):Prop where
 at_:∃num ss lk lv,u=unitA num ss lk lv∧0≤i∧ss.length≤1000∧ss[i.toNat]? =some st
 lou:Lo u
 los:Lo st
structure Lay (p:RunP) (many:Nat) (dr:Nat→Dr) (lt cn lab:Nat→Str) (U:Nat→AV) (A:Nat→Int):Prop where
 ok:p.Ok
 sp:∀v,VarOk v→dget p.SK p.SV v=none
 st:∀k,k < many→∃lb ln,StAt (U k) (A k) (stA4 lb (rowOf (dr k).form (dr k).var (lt k)) (wayRow lab cn (dr k).su) (wayRow lab cn (dr k).fa) ln)∧cmpV [] .Eq lb (.lit 69)=some (.bool false)
 lt:∀k,k < many→Letter (lt k)
 dr:∀k,k < many→(dr k).Ok many
 lb:∀k,k < many→dget p.LK p.LV (lab k)=some (tu [U k,.int (A k)])
 en:dget p.LK p.LV (lab many)=none∨∃u i lb bo su fa ln,dget p.LK p.LV (lab many)=some (tu [u,.int i])∧StAt u i (stA4 lb bo su fa ln)∧cmpV [] .Eq lb (.lit 69)=some (.bool true)
 rt:∀g,many < g→dget p.LK p.LV (lab g)=none
 l69:lab many=nm 69
 l72:lab (many + 1)=nm 72
 no:lab (many + 2)≠nm 69∧lab (many + 2)≠nm 72
 cd:∀k,k < many→dget p.SK p.SV (cn k)=some (tu [U k,.int (A k)])
 cn:∀k,cn k≠nm 181
section
variable {prog:Program}{w:World}{K:Frag}{p:RunP}{many:Nat}{dr:Nat→Dr}{lt cn lab:Nat→Str}{U:Nat→AV}{A:Nat→Int}{a b:Str}{notes:List AV}
def Dest (many:Nat)(U:Nat→AV)(A:Nat→Int)(g:Nat)(u:AV)(i:Int):Prop:=
 (g < many∧u=U g∧i=A g)∨(g=many∧∃lb bo su fa ln,StAt u i (stA4 lb bo su fa ln)∧cmpV [] .Eq lb (.lit 69)=some (.bool true))
theorem Dest.lo (L:Lay p many dr lt cn lab U A){g:Nat}{u:AV}{i:Int}(d:Dest many U A g u i):Lo u:=by
 rcases d with ⟨h,rfl,rfl⟩ | ⟨_,_,_,_,_,_,h,_⟩
 ·refine X21 (L.st g h) fun lb ln q _=>?_;exact q.lou
 ·exact h.lou
def WayQ (p:RunP)(many:Nat)(U:Nat→AV)(A:Nat→Int)(a b:Str)(notes:List AV)(W:WT×List AV)(r:Out×St):Prop:=match W.1 with
 | .err i=>∃loc,r=(.ex i,runF p a b W.2 notes loc [])
 | .go g=>(∃u i,Dest many U A g u i∧r=(.nx,runF p a b W.2 notes (locA u (.int i)) []))∨((g=many∨g=many + 1)∧∃loc,r=(.rt (.str (nm (if g=many then 69 else 72))),runF p a b W.2 notes loc []))∨
  (many + 1 < g∧∃loc,r=(.ex 24,runF p a b W.2 notes loc []))
theorem ne_false {s:Str}{k:Nat}(h:s=nm k):cmpV [] .NotEq (.str s) (.lit k)=some (.bool false):=by
 show some (AV.bool (!decide (s=nm k)))=_
 simp [h]
theorem ne_true {s:Str}{k:Nat}(h:s≠nm k):cmpV [] .NotEq (.str s) (.lit k)=some (.bool true):=by
 show some (AV.bool (!decide (s=nm k)))=_
 simp [h]
theorem in_2:cmpV [] .In (.lit 181) (tu [.lit 181,.lit 180])=some (.bool true):=rfl
theorem in_3:cmpV [] .In (.lit 180) (tu [.lit 181,.lit 180])=some (.bool true):=rfl
theorem lab_cases (L:Lay p many dr lt cn lab U A){g:Nat}(hg:g < many + 3){σ:St}{h':List AV}{Q:List Prop}(hQ:AllP Q){D:Nat}{ss:List S}
  (tin:∀u i,Lo u→AllP ([dget p.LK p.LV (lab g)=some (tu [u,.int i]),dget p.LK p.LV (lab g)=some (tu [u,.int i]),some (AV.bool (dget p.LK p.LV (lab g)).isSome)=some (.bool true)] ++ Q)→Trip prog w K D ss σ fun r=>r=(.nx,runF p a b h' notes (locA u (.int i)) []))
  (tend:AllP ([cmpV [] .NotEq (.str (lab g)) (.lit 69)=some (.bool false),some (AV.bool (dget p.LK p.LV (lab g)).isSome)=some (.bool false)] ++ Q)→Trip prog w K D ss σ fun r=>r=(.rt (.str (lab g)),runF p a b h' notes [] []))
  (tret:AllP ([cmpV [] .NotEq (.str (lab g)) (.lit 72)=some (.bool false),cmpV [] .NotEq (.str (lab g)) (.lit 69)=some (.bool true),some (AV.bool (dget p.LK p.LV (lab g)).isSome)=some (.bool false)] ++ Q)→Trip prog w K D ss σ fun r=>r=(.rt (.str (lab g)),runF p a b h' notes [] []))
  (tbad:AllP ([cmpV [] .NotEq (.str (lab g)) (.lit 72)=some (.bool true),cmpV [] .NotEq (.str (lab g)) (.lit 69)=some (.bool true),some (AV.bool (dget p.LK p.LV (lab g)).isSome)=some (.bool false)] ++ Q)→Trip prog w K D ss σ fun r=>r=(.ex 24,runF p a b h' notes [] [])) :
  Trip prog w K D ss σ (WayQ p many U A a b notes (.go g,h')):=by
 have n72:nm 72≠nm 69:=fun q=>absurd (nm_inj q) (by decide)
 by_cases h1:g < many
 ·have e:=L.lb g h1
  have d:Dest many U A g (U g) (A g):=.inl (I02 h1 rfl rfl)
  exact (tin (U g) (A g) (d.lo L) ((AllP.cons e (.cons e (.cons (by refine er e ?_;rfl) .nil))).app hQ)).mono (Nat.le_refl _) fun r hr=>.inl (I21 _ _ d hr)
 ·by_cases h2:g=many
  ·subst h2
   rcases L.en with e | ⟨u,i,lb,bo,su,fa,ln,e,s,t⟩
   ·exact (tend ((AllP.cons (ne_false L.l69) (.cons (by refine er e ?_;rfl) .nil)).app hQ)).mono (Nat.le_refl _) fun r hr=>.inr (.inl (I011 (.inl rfl) ([]) (by exact er hr (er (if_pos rfl) (er L.l69 rfl)))))
   ·have d:Dest g U A g u i:=.inr ⟨rfl,_,_,_,_,_,s,t⟩
    exact (tin u i s.lou ((AllP.cons e (.cons e (.cons (by refine er e ?_;rfl) .nil))).app hQ)).mono (Nat.le_refl _) fun r hr=>.inl (I21 _ _ d hr)
  ·have e:=L.rt g (o133 h1 h2)
   by_cases h3:g=many + 1
   ·subst h3
    exact (tret ((AllP.cons (ne_false L.l72) (.cons (ne_true (L.l72.symm▸n72)) (.cons (by refine er e ?_;rfl) .nil))).app hQ)).mono (Nat.le_refl _) fun r hr=>.inr (.inl (I011 (.inr rfl) ([]) (by exact er hr (er (if_neg h2) (er L.l72 rfl)))))
   ·have h4:g=many + 2:=o39 hg h1 h2 h3
    subst h4
    exact (tbad ((AllP.cons (ne_true L.no.2) (.cons (ne_true L.no.1) (.cons (by refine er e ?_;rfl) .nil))).app hQ)).mono (Nat.le_refl _) fun r hr=>.inr (.inr (I011 (o134) ([]) hr))
theorem lo_locA {u st rw_ go:AV}{i:Int}{t:Bool}(hu:Lo u):FzN 16 [] [(119,u),(64,.int i),(75,.ref 14),(121,st),(122,.bool t),(115,rw_),(17,go)] (locA u (.int i)):=.cons hu (.cons .int (.cons (.low rfl) .nil))
theorem fro_z:Fro eZ:=.nd (.cons .lit (.cons (.nd (.cons .lit (.cons (.nd .nil) (.cons .bool .nil)))) .nil))
theorem wayS_at {g:Nat}{h:List AV}:wayS cn (.at g) h=if h.length=40 then (.err 99,h) else (.go g,h ++ [.lit 44]):=rfl
theorem wayS_z {h:List AV}:wayS cn .z h=if h.length=40 then (.err 99,h) else (.err 19,h ++ [eZ]):=rfl
theorem wayS_cod {g:Nat}{h:List AV}:wayS cn (.cod g) h=if h.length=40 then (.err 99,h) else (.go g,h ++ [eRead (cn g)]):=rfl
theorem way_trip (J:Sound prog w K runC)(L:Lay p many dr lt cn lab U A){h:List AV}{u at_ st:AV}{t:Bool}(le:h.length≤40)(hf:FroL h)(nf:FroL notes){W:Way}(hW:W.Ok many) :
  Trip prog w K 300 sD (runF p a b h notes (locD u at_ st t (wayRow lab cn W)) []) (WayQ p many U A a b notes (wayS cn W h)):=by
 have hat:cmpV [] .NotEq (.lit 181) (.lit 181)=some (.bool false):=rfl
 have hz:cmpV [] .NotEq (.lit 180) (.lit 181)=some (.bool true):=rfl
 have fa:=FroL.snoc hf (.lit:Fro (.lit 44))
 match W,hW with
 | .lab g,hW=>
  exact lab_cases L hW .nil (fun u2 i hu ob=>Trip.see J L.ok (wl_in p a b (lab g) u u2 st at_ i t h notes) ob rfl hf nf (lo_locA hu) .nx) (fun ob=>Trip.see J L.ok (wl_end p a b (lab g) u u st at_ 0 t h notes) ob rfl hf nf .nil (.rt .str))
   (fun ob=>Trip.see J L.ok (wl_ret p a b (lab g) u u st at_ 0 t h notes) ob rfl hf nf .nil (.rt .str)) (fun ob=>Trip.see J L.ok (wl_bad p a b (lab g) u u st at_ 0 t h notes) ob rfl hf nf .nil .ex)
 | .ind g,hW=>
  exact lab_cases L hW .nil (fun u2 i hu ob=>Trip.see J L.ok (wd_in p a b (lab g) u u2 st at_ i t h notes) ob rfl hf nf (lo_locA hu) .nx) (fun ob=>Trip.see J L.ok (wd_end p a b (lab g) u u st at_ 0 t h notes) ob rfl hf nf .nil (.rt .str))
   (fun ob=>Trip.see J L.ok (wd_ret p a b (lab g) u u st at_ 0 t h notes) ob rfl hf nf .nil (.rt .str)) (fun ob=>Trip.see J L.ok (wd_bad p a b (lab g) u u st at_ 0 t h notes) ob rfl hf nf .nil .ex)
 | .at g,hW=>
  refine er wayS_at ?_
  by_cases q:h.length=40
  ·refine er (if_pos q) ?_
   exact (Trip.see J L.ok (wa_x p a b (lab g) u u st at_ 0 t h notes) (xP_ok q) rfl hf nf .nil .ex).mono (Nat.le_refl _) fun r hr=>⟨_,hr⟩
  ·refine er (if_neg q) ?_
   have hQ:AllP ([cmpV [] .In (.lit 181) (tu [.lit 181,.lit 180])=some (.bool true)] ++ qP h (.lit 181) false):=(AllP.cons in_2 .nil).app (qP_ok (Nat.lt_of_le_of_ne (by assumption) (by assumption)) hat)
   exact lab_cases L hW hQ (fun u2 i hu ob=>Trip.see J L.ok (wa_in p a b (lab g) u u2 st at_ i t h notes) (by rw [List.append_assoc];exact ob) rfl fa nf (lo_locA hu) .nx)
    (fun ob=>Trip.see J L.ok (wa_end p a b (lab g) u u st at_ 0 t h notes) (by rw [List.append_assoc];exact ob) rfl fa nf .nil (.rt .str))
    (fun ob=>Trip.see J L.ok (wa_ret p a b (lab g) u u st at_ 0 t h notes) (by rw [List.append_assoc];exact ob) rfl fa nf .nil (.rt .str))
    (fun ob=>Trip.see J L.ok (wa_bad p a b (lab g) u u st at_ 0 t h notes) (by rw [List.append_assoc];exact ob) rfl fa nf .nil .ex)
 | .z,_=>
  refine er wayS_z ?_
  by_cases q:h.length=40
  ·refine er (if_pos q) ?_
   exact (Trip.see J L.ok (wz_x p a b a u u st at_ 0 t h notes) (xP_ok q) rfl hf nf .nil .ex).mono (Nat.le_refl _) fun r hr=>⟨_,hr⟩
  ·refine er (if_neg q) ?_
   exact (Trip.see J L.ok (wz p a b a u u st at_ 0 t h notes) ((AllP.cons in_3 .nil).app (qP_ok (Nat.lt_of_le_of_ne (by assumption) (by assumption)) hz)) rfl (FroL.snoc hf fro_z) nf .nil .ex).mono (Nat.le_refl _) fun r hr=>⟨_,hr⟩
 | .cod g,hW=>
  refine er wayS_cod ?_
  by_cases q:h.length=40
  ·refine er (if_pos q) ?_
   exact (Trip.see J L.ok (wc_x p a b (cn g) u u st at_ 0 t h notes) (xP_ok q) rfl hf nf .nil .ex).mono (Nat.le_refl _) fun r hr=>⟨_,hr⟩
  ·refine er (if_neg q) ?_
   have e:=L.cd g hW
   have d:Dest many U A g (U g) (A g):=.inl (I02 hW rfl rfl)
   exact (Trip.see J L.ok (wc p a b (cn g) u (U g) st at_ (A g) t h notes) ((AllP.cons e (.cons (by refine er e ?_;rfl) .nil)).app (qP_ok (Nat.lt_of_le_of_ne (by assumption) (by assumption)) (ne_str (L.cn g)))) rfl (FroL.snoc hf fro_read) nf (lo_locA (d.lo L)) .nx).mono (Nat.le_refl _) fun r hr=>.inl (I21 _ _ d hr)
end
noncomputable def flagOf:AV→Bool
 | .int i=>decide (i= -1)
 | _=>false
structure NoteOk (notes:List AV) (fl:List Bool) (n:Nat):Prop where
 num:∀x∈notes,∃i,x=.int i
 fl:notes.map flagOf=fl
 len:notes.length≤n
theorem NoteOk.fro {notes:List AV}{fl:List Bool}{n:Nat}(h:NoteOk notes fl n):FroL notes:=FroL.of fun x m=>by
 refine X1 (h.num x m) fun i q9=>?_;subst q9;exact .int
theorem NoteOk.snoc {notes:List AV}{fl:List Bool}{n:Nat}(h:NoteOk notes fl n)(i:Int):NoteOk (notes ++ [.int i]) (fl ++ [decide (i= -1)]) (n + 1):=
 ⟨fun x m=>by
  rcases List.mem_append.mp m with m | m
  ·exact h.num x m
  ·exact ⟨i,List.mem_singleton.mp m⟩,by refine er List.map_append (er h.fl ?_);rfl,by refine er List.length_append ?_;exact Nat.succ_le_succ h.len⟩
theorem NoteOk.mono {notes:List AV}{fl:List Bool}{n m:Nat}(h:NoteOk notes fl n)(l:n≤m):NoteOk notes fl m:=⟨h.num,h.fl,Nat.le_trans h.len l⟩
theorem NoteOk.small {notes:List AV}{fl:List Bool}{n:Nat}(h:NoteOk notes fl n)(l:n≤5000):small notes:=Nat.le_trans h.len l
section
variable {prog:Program}{w:World}{K:Frag}{p:RunP}{many:Nat}{dr:Nat→Dr}{lt cn lab:Nat→Str}{U:Nat→AV}{A:Nat→Int}{a b:Str}{notes:List AV}
theorem TrB.orc {D:Nat}{t:E}{σ:St}{P:Bool→St→Prop}(o:List AV)(b:List Prop)(h:TrB prog w K D t {σ with orc:=o,obl:=b} P):TrB prog w K D t σ P:=
 ⟨fun O B S k=>h.run O B (S.orc o b) k⟩
theorem tst_trip (J:Sound prog w K runC){u:AV}{i:Int}{st:AV}(s:StAt u i st){h:List AV}:TrB prog w K 300 tst30 (runF p a b h notes (locA u (.int i)) []) fun q σ'=>q=true∧∃ob,σ'= {runF p a b h notes (locA u (.int i)) [] with obl:=ob}:=by
 obtain ⟨⟨num,ss,lk,lv,rfl,i0,ln,e⟩,_,_⟩:=s
 have lt:i.toNat < ss.length:=(List.getElem?_eq_some_iff.mp e).1
 refine TrB.orc [.int ss.length,.bool true] [] (TrB.mono (TrB.ev J (t30 p a b num ss lk lv i ss.length true h notes) ?_) (by decide) fun q σ' hq=>(I011 hq.1 _ hq.2))
 refine .cons ?_ (.cons (cmp_len (Nat.le_trans (by assumption) (by decide))) .nil)
 show some (AV.bool (decide (i < (ss.length:Int))))=_
 have:i < (ss.length:Int):=o19 lt
 simp [this]
theorem sub_at {ss:List AV}{i:Int}{st:AV}(i0:0≤i)(ln:ss.length≤1000)(e:ss[i.toNat]? =some st):subV [] (li ss) (.int i)=some st:=by
 have lt:i.toNat < ss.length:=(List.getElem?_eq_some_iff.mp e).1
 show idx ss i=_
 unfold idx
 exact er (if_pos (o60 i0 ln lt)) (er (if_pos i0) (er e rfl))
theorem end_trip (J:Sound prog w K runC)(ok:p.Ok){h:List AV}(hf:FroL h)(nf:FroL notes){u:AV}{i:Int}{lb bo su fa ln:AV}(s:StAt u i (stA4 lb bo su fa ln))(q:cmpV [] .Eq lb (.lit 69)=some (.bool true)) :
  Trip prog w K 300 (sA ++ (sB ++ (sC ++ sD))) (runF p a b h notes (locA u (.int i)) []) fun r=>r=(.rt (.str (nm 69)),runF p a b h notes [] []):=by
 obtain ⟨⟨num,ss,lk,lv,rfl,i0,l,e⟩,_,_⟩:=s
 refine Trip.app (P:=fun r=>r=(.rt (.str (nm 69)),runF p a b h notes [] [])) (Trip.see J ok (sA_end p a b num lb bo su fa ln ss lk lv i h notes) ?_ rfl hf nf .nil (.rt .lits)) (fun σ' hr=>?_) fun r hr _=>hr
 ·exact .cons q (.cons (sub_at i0 l e) .nil)
 ·exact absurd (congrArg Prod.fst hr) (nofun)
theorem lo_locD {u at_ st rw_:AV}{t:Bool}(hu:Lo u)(ha:Lo at_)(hs:Lo st)(hr:Lo rw_):FzN 16 [] (locD u at_ st t rw_) (locD u at_ st t rw_):=.cons hu (.cons ha (.cons (.low rfl) (.cons hs (.cons .bool (.cons hr .nil)))))
theorem brOut_go {loc:List (Nat×AV)}{t:Bool}{h:List AV}:brOut p notes loc ⟨some t,a,b,h⟩=(.nx,runF p a b h notes (loc ++ [(122,.bool t)]) []):=rfl
theorem brOut_x {loc:List (Nat×AV)}{h:List AV}:brOut p notes loc ⟨none,a,b,h⟩=(.ex 99,runF p a b h notes loc []):=rfl
def StQ (p:RunP)(many:Nat)(d:Dr)(c:Str)(cn:Nat→Str)(U:Nat→AV)(A:Nat→Int)(a b:Str)(h notes:List AV)(r:Out×St):Prop:=
 let B:=bodyS d.form d.var c a b h
 match B.out with
 | none=>∃loc,r=(.ex 99,runF p B.a B.b B.h notes loc [])
 | some t=>WayQ p many U A B.a B.b (if t then notes else notes ++ [AV.int (-1)]) (wayS cn (if t then d.su else d.fa) B.h) r
theorem lo_parts {lb bo su fa ln:AV}(h:Lo (stA4 lb bo su fa ln)):Lo su∧Lo fa:=by
 cases h with
 | nd h=>cases h with
  | cons h _=>cases h with
   | nd h=>cases h with
    | cons _ h=>cases h with
     | cons _ h=>cases h with
      | cons hs h=>cases h with
       | cons hf _=>exact ⟨hs,hf⟩
set_option maxHeartbeats 1000000 in
theorem stmt_trip (J:Sound prog w K runC)(L:Lay p many dr lt cn lab U A){k:Nat}(hk:k < many){h:List AV}{fl:List Bool}(hv:VarInv a b h.length)(le:h.length≤40)(hf:FroL h)(N:NoteOk notes fl (2 * h.length)) :
  Trip prog w K 300 (sA ++ (sB ++ (sC ++ sD))) (runF p a b h notes (locA (U k) (AV.int (A k))) []) (StQ p many (dr k) (lt k) cn U A a b h (notes ++ [AV.int (A k)])):=by
 refine X21 (L.st k hk) fun lb ln s q=>?_
 have D:=L.dr k hk
 have hlu:=s.lou
 have hls:=s.los
 refine X01 (lo_parts hls) fun los lof=>?_
 obtain ⟨⟨num,ss,lk,lv,eu,i0,l,e⟩,_,_⟩:=s
 have N1:=N.snoc (A k)
 have nf:=N1.fro
 have BI:=body_inv (v:=(dr k).var) hv le hf (L.lt k hk) D.form
 refine Trip.app (P:=fun r=>r=(.nx,runF p a b h (notes ++ [AV.int (A k)]) (locB (U k) (AV.int (A k)) (stA4 lb (rowOf (dr k).form (dr k).var (lt k)) (wayRow lab cn (dr k).su) (wayRow lab cn (dr k).fa) ln)) [])) ?_ (fun σ' hr=>?_) fun r hr q=>absurd (congrArg _ hr) q
 ·refine er eu ?_
  exact Trip.see J L.ok (sA_go p a b num lb _ _ _ ln ss lk lv (A k) h notes) (.cons (N.small (o61 le)) (.cons q (.cons (sub_at i0 l e) .nil))) rfl hf nf (eu▸(lo_locB hlu .int hls)) .nx
 ·replace hr:=(Prod.mk.inj hr).2
  subst hr
  refine Trip.app (body_trip J ⟨L.ok,hv,le,hf,nf,L.sp⟩ D.var (L.lt k hk) D.form hlu .int hls) (fun σ' hr=>?_) fun r hr q=>?_
  ·unfold StQ
   generalize bodyS (dr k).form (dr k).var (lt k) a b h=B at hr BI
   obtain ⟨o,a',b',h'⟩:=B
   cases o with
   | none=>rw [brOut_x] at hr;exact absurd (congrArg Prod.fst hr) (nofun)
   | some t=>
    rw [brOut_go] at hr
    replace hr:=(Prod.mk.inj hr).2
    subst hr
    dsimp only
    cases t with
    | true=>
     refine Trip.app (P:=fun r=>r=(.nx,runF p a' b' h' (notes ++ [AV.int (A k)]) (locD (U k) (AV.int (A k)) (stA4 lb (rowOf (dr k).form (dr k).var (lt k)) (wayRow lab cn (dr k).su) (wayRow lab cn (dr k).fa) ln) true (wayRow lab cn (dr k).su)) [])) ?_ (fun σ' hr=>?_) fun r hr q=>absurd (congrArg _ hr) q
     ·exact Trip.see J L.ok (sC_t p a' b' (U k) (AV.int (A k)) lb _ _ _ ln h' (notes ++ [AV.int (A k)])) .nil rfl BI.fro nf (lo_locD hlu .int hls los) .nx
     ·replace hr:=(Prod.mk.inj hr).2
      subst hr
      exact way_trip J L BI.le BI.fro nf D.su
    | false=>
     have N2:=N1.snoc (-1)
     refine Trip.app (P:=fun r=>r=(.nx,runF p a' b' h' (notes ++ [AV.int (A k)] ++ [AV.int (-1)]) (locD (U k) (AV.int (A k)) (stA4 lb (rowOf (dr k).form (dr k).var (lt k)) (wayRow lab cn (dr k).su) (wayRow lab cn (dr k).fa) ln) false (wayRow lab cn (dr k).fa)) [])) ?_ (fun σ' hr=>?_) fun r hr q=>absurd (congrArg _ hr) q
     ·exact Trip.see J L.ok (sC_f p a' b' (U k) (AV.int (A k)) lb _ _ _ ln h' (notes ++ [AV.int (A k)])) (.cons (N1.small (o62 le)) .nil) rfl BI.fro N2.fro (lo_locD hlu .int hls lof) .nx
     ·replace hr:=(Prod.mk.inj hr).2
      subst hr
      exact way_trip J L BI.le BI.fro N2.fro D.fa
  ·unfold StQ
   generalize bodyS (dr k).form (dr k).var (lt k) a b h=B at hr
   obtain ⟨o,a',b',h'⟩:=B
   cases o with
   | none=>rw [brOut_x] at hr;exact ⟨_,hr⟩
   | some t=>rw [brOut_go] at hr;exact absurd (congrArg Prod.fst hr) q
noncomputable def OutOk (o:Out):Prop:=(∃s,o=.rt (.str s))∨∃i,o=.ex i
def RunQ (p:RunP)(R:RR)(r:Out×St):Prop:=∃notes loc,r=(R.out,runF p R.a R.b R.h notes loc [])∧NoteOk notes R.fl 100∧FroL R.h∧R.h.length≤40∧OutOk R.out
theorem WayS_len {W:Way}{h:List AV}(le:h.length≤40)(hf:FroL h):h.length≤(wayS cn W h).2.length∧(wayS cn W h).2.length≤40∧FroL (wayS cn W h).2:=by
 have key:∀{e:AV} {t t':WT},Fro e→h.length≤(if h.length=40 then (t,h) else (t',h ++ [e])).2.length∧(if h.length=40 then (t,h) else (t',h ++ [e])).2.length≤40∧FroL (if h.length=40 then (t,h) else (t',h ++ [e])).2:=fun {e t t'} he=>by
  by_cases q:h.length=40
  ·refine er (if_pos q) ?_;exact (I02 (Nat.le_refl _) le hf)
  ·refine er (if_neg q) ?_
   refine (I02 ?_ ?_ (hf.snoc he))
   ·show _≤(h ++ [e]).length
    simp only [List.length_append,List.length_cons,List.length_nil];exact Nat.le_add_right _ _
   ·show (h ++ [e]).length≤40
    simp only [List.length_append,List.length_cons,List.length_nil];exact Nat.lt_of_le_of_ne (by assumption) (by assumption)
 match W with
 | .lab g=>exact ⟨Nat.le_refl _,le,hf⟩
 | .ind g=>exact ⟨Nat.le_refl _,le,hf⟩
 | .at g=>refine er wayS_at ?_;exact key .lit
 | .z=>refine er wayS_z ?_;exact key fro_z
 | .cod g=>refine er wayS_cod ?_;exact key fro_read
inductive RunI (p:RunP) (many:Nat) (dr:Nat→Dr) (lt cn:Nat→Str) (U:Nat→AV) (A:Nat→Int) (R:RR):Nat→St→Prop
 | st {n k f:Nat} {a b:Str} {h notes:List AV} {fl:List Bool} (hk:k < many) (hf:41 - h.length≤f) (hR:goS many dr lt cn f k a b h fl=R) (hv:VarInv a b h.length) (le:h.length≤40) (hh:FroL h)
  (N:NoteOk notes fl (2 * h.length)) (hn:n=42 - h.length):RunI p many dr lt cn U A R n (runF p a b h notes (locA (U k) (AV.int (A k))) [])
 | en {n:Nat} {a b:Str} {h notes:List AV} {fl:List Bool} {u:AV} {i:Int} {lb bo su fa ln:AV} (s:StAt u i (stA4 lb bo su fa ln)) (q:cmpV [] .Eq lb (.lit 69)=some (.bool true)) (hR:R=⟨.rt (.str (nm 69)),a,b,h,fl⟩)
  (le:h.length≤40) (hh:FroL h) (N:NoteOk notes fl (2 * h.length)):RunI p many dr lt cn U A R n (runF p a b h notes (locA u (.int i)) [])
theorem goS_succ {n k:Nat}{a b:Str}{h:List AV}{fl:List Bool}:goS many dr lt cn (n + 1) k a b h fl =
  match (bodyS (dr k).form (dr k).var (lt k) a b h).out with
  | none=>⟨.ex 99,(bodyS (dr k).form (dr k).var (lt k) a b h).a,(bodyS (dr k).form (dr k).var (lt k) a b h).b,(bodyS (dr k).form (dr k).var (lt k) a b h).h,fl ++ [false]⟩
  | some t=>match (wayS cn (if t then (dr k).su else (dr k).fa) (bodyS (dr k).form (dr k).var (lt k) a b h).h).1 with
   | .err i=>⟨.ex i,(bodyS (dr k).form (dr k).var (lt k) a b h).a,(bodyS (dr k).form (dr k).var (lt k) a b h).b,(wayS cn (if t then (dr k).su else (dr k).fa) (bodyS (dr k).form (dr k).var (lt k) a b h).h).2,if t then fl ++ [false] else fl ++ [false] ++ [true]⟩
   | .go g=>if g < many then goS many dr lt cn n g (bodyS (dr k).form (dr k).var (lt k) a b h).a (bodyS (dr k).form (dr k).var (lt k) a b h).b (wayS cn (if t then (dr k).su else (dr k).fa) (bodyS (dr k).form (dr k).var (lt k) a b h).h).2 (if t then fl ++ [false] else fl ++ [false] ++ [true])
    else if g=many then ⟨.rt (.str (nm 69)),(bodyS (dr k).form (dr k).var (lt k) a b h).a,(bodyS (dr k).form (dr k).var (lt k) a b h).b,(wayS cn (if t then (dr k).su else (dr k).fa) (bodyS (dr k).form (dr k).var (lt k) a b h).h).2,if t then fl ++ [false] else fl ++ [false] ++ [true]⟩
    else if g=many + 1 then ⟨.rt (.str (nm 72)),(bodyS (dr k).form (dr k).var (lt k) a b h).a,(bodyS (dr k).form (dr k).var (lt k) a b h).b,(wayS cn (if t then (dr k).su else (dr k).fa) (bodyS (dr k).form (dr k).var (lt k) a b h).h).2,if t then fl ++ [false] else fl ++ [false] ++ [true]⟩
    else ⟨.ex 24,(bodyS (dr k).form (dr k).var (lt k) a b h).a,(bodyS (dr k).form (dr k).var (lt k) a b h).b,(wayS cn (if t then (dr k).su else (dr k).fa) (bodyS (dr k).form (dr k).var (lt k) a b h).h).2,if t then fl ++ [false] else fl ++ [false] ++ [true]⟩:=rfl
set_option maxHeartbeats 1000000 in
theorem run_whl (J:Sound prog w K runC)(L:Lay p many dr lt cn lab U A){R:RR}{n:Nat}{σ:St}(hI:RunI p many dr lt cn U A R n σ):Trip prog w K 300 [.whl tst30 (sA ++ (sB ++ (sC ++ sD))) pos30] σ fun r=>r.1≠.nx∧RunQ p R r:=by
 refine Trip.whl (RunI p many dr lt cn U A R) (fun n σ hI=>?_) n hI
 cases hI with
 | @en a b h notes fl u i lb bo su fa ln s q hR le hh N=>
  refine (tst_trip J s).mono (Nat.le_refl _) fun t σ' hq=>?_
  refine X011 hq fun q0 ob q1=>?_;subst q0;subst q1
  refine er (if_pos rfl) ?_
  refine (Trip.orc [] [] (end_trip J L.ok hh N.fro s q)).mono (Nat.le_refl _) fun r hr=>.inr ?_
  subst hr hR
  exact ⟨by simp,by simp,_,_,rfl,N.mono (o63 le),hh,le,.inl ⟨_,rfl⟩⟩
 | @st k f a b h notes fl hk hf hR hv le hh N hn=>
  refine X21 (L.st k hk) fun lb ln s q=>?_
  have BI:=body_inv (v:=(dr k).var) hv le hh (L.lt k hk) (L.dr k hk).form
  have i0:0≤A k:=by refine X41 s.at_ fun _ _ _ _ _ q0=>?_;refine X01 q0 fun i0 _=>?_;exact i0
  refine (tst_trip J s).mono (Nat.le_refl _) fun t σ' hq=>?_
  refine X011 hq fun q0 ob q1=>?_;subst q0;subst q1
  refine er (if_pos rfl) ?_
  refine (Trip.orc [] [] (stmt_trip J L hk hv le hh N)).mono (Nat.le_refl _) fun r hr=>?_
  refine X1 (show∃f',f=f' + 1 from ⟨f - 1,(o64 hf le)⟩) fun f' q0=>?_;subst q0
  rw [goS_succ] at hR
  have N1:=N.snoc (A k)
  rw [show decide (A k= -1)=false by simp;exact o65 i0] at N1
  unfold StQ at hr
  generalize bodyS (dr k).form (dr k).var (lt k) a b h=B at hr hR BI
  obtain ⟨o,a',b',h'⟩:=B
  cases o with
  | none=>
   refine X1 hr fun loc q0=>?_;subst q0
   subst hR
   exact .inr ⟨by simp,by simp,_,loc,rfl,N1.mono (o66 le),BI.fro,BI.le,.inr ⟨_,rfl⟩⟩
  | some t=>
   dsimp only at hr hR
   have lt:=BI.lt (nofun)
   have hv':=BI.var
   have le':=BI.le
   have fro':=BI.fro
   dsimp only at lt hv' le' fro'
   refine X02 (WayS_len (cn:=cn) (W:=if t then (dr k).su else (dr k).fa) le' fro') fun w1 w2 w3=>?_
   have N2:NoteOk (if t then notes ++ [AV.int (A k)] else notes ++ [AV.int (A k)] ++ [AV.int (-1)]) (if t then fl ++ [false] else fl ++ [false] ++ [true]) (2 * h.length + 2):=by
    cases t with
    | true=>exact N1.mono (Nat.lt_add_of_pos_right (by decide))
    | false=>exact N1.snoc (-1)
   generalize (if t=true then notes ++ [AV.int (A k)] else notes ++ [AV.int (A k)] ++ [AV.int (-1)])=notes' at hr N2
   generalize (if t=true then fl ++ [false] else fl ++ [false] ++ [true])=fl' at hR N2
   generalize wayS cn (if t=true then (dr k).su else (dr k).fa) h'=W at hr hR w1 w2 w3
   obtain ⟨wt,h''⟩:=W
   dsimp only at w1 w2 w3
   cases wt with
   | err i=>
    refine X1 hr fun loc q0=>?_;subst q0
    subst hR
    exact .inr ⟨by simp,by simp,_,loc,rfl,N2.mono (o6 lt w1 w2),w3,w2,.inr ⟨_,rfl⟩⟩
   | go g=>
    rcases hr with ⟨u,i,d,rfl⟩ | ⟨hg,loc,rfl⟩ | ⟨hg,loc,rfl⟩
    ·rcases d with ⟨hg,rfl,rfl⟩ | ⟨hg,lb',bo',su',fa',ln',s',q'⟩
     ·dsimp only at hR
      rw [if_pos hg] at hR
      exact .inl (I12 (42 - h''.length) (o67 hn lt w1 w2) rfl (.st hg (by show 41 - h''.length≤f';exact o68 hf lt w1) hR (hv'.mono w1) w2 w3 (N2.mono (by show _≤2 * h''.length;exact o20 lt w1)) rfl))
     ·dsimp only at hR
      rw [if_neg (o69 hg),if_pos hg] at hR
      exact .inl (I12 0 (o70 hn lt w1 w2) rfl (.en s' q' hR.symm w2 w3 (N2.mono (by show _≤2 * h''.length;exact o20 lt w1))))
    ·dsimp only at hR
     rw [if_neg (o71 hg)] at hR
     rcases hg with rfl | rfl
     ·rw [if_pos rfl] at hR
      subst hR
      refine .inr (I0224 (by simp) (by simp) _ loc ?_ (N2.mono (o6 lt w1 w2)) w3 w2 (.inl ⟨_,rfl⟩))
      exact er (if_pos rfl) rfl
     ·rw [if_neg (o10),if_pos rfl] at hR
      subst hR
      refine .inr (I0224 (by simp) (by simp) _ loc ?_ (N2.mono (o6 lt w1 w2)) w3 w2 (.inl ⟨_,rfl⟩))
      exact er (if_neg (o10)) rfl
    ·dsimp only at hR
     rw [if_neg (o72 hg),if_neg (o21 hg),if_neg (o22 hg)] at hR
     subst hR
     exact .inr (I0224 (by simp) (by simp) _ loc rfl (N2.mono (o6 lt w1 w2)) w3 w2 (.inr ⟨_,rfl⟩))
theorem run_trip (J:Sound prog w K runC)(L:Lay p many dr lt cn lab U A){k:Nat}(hk:k < many){a b:Str}(hv:VarInv a b 0):Trip prog w K 300 b30 (runF p a b [] [] (locA (U k) (AV.int (A k))) []) (RunQ p (goS many dr lt cn 41 k a b [] [])):=by
 refine er b30_eq ?_
 refine Trip.app (run_whl J L (n:=42) (.st hk (by decide) rfl hv (by decide) .nil ⟨fun _ m=>(nomatch m),rfl,Nat.le_refl _⟩ rfl)) (fun σ' hr=>absurd rfl hr.1) fun r hr _=>hr.2
end
section
variable {prog:Program}{w:World}{K:Frag}{Z:Heap}{ad:List Addr}{x:Fx}{σ:St}{h:Heap}{c:Cf}
theorem fz_low {n0:Nat}{H:HL}(hl:ad.length=n0){r:Nat}{a:Addr}(e:ad[r]? =some a):Fz n0 H (.ref r) (.ref r):=.low (Nat.ble_eq.mpr (hl▸((List.getElem?_eq_some_iff.mp e).1)))
section
variable {n0:Nat}{H:HL}(hl:ad.length=n0)
include hl
theorem Vals.fz {a:List AV}{v:List Value}(h:Vals prog w Z ad a v):FzL n0 H a a:=
 Vals.rec (motive_1:=fun a _ _=>Fz n0 H a a) (motive_2:=fun a _ _=>FzL n0 H a a) .none .bool .int .lit .str (fz_low hl) .kls (fun _=>.raw) (fun _ _=>.nd) (fun _ _=>.nd) .nil (fun _ _=>.cons) h
end
theorem FzC.of {n0:Nat}{H:HL}(more:HL):∀{m:HL},(∀r t xs,getH m r=some (t,xs)→FzL n0 H xs xs)→FzC n0 H (m ++ more) m
 | [],_=>.nil
 | none :: m,h=>.drop (FzC.of more fun r t xs e=>h (r + 1) t xs e)
 | some (t,xs) :: m,h=>.cons (h 0 t xs rfl) (FzC.of more fun r t xs e=>h (r + 1) t xs e)
theorem Sit.low (S:Sit prog w K x σ Z ad h)(H more:HL):FzC σ.H.length H (σ.H ++ more) σ.H:=FzC.of more fun r t xs e=>by
 refine X22 (S.hs.emb r t xs e) fun _ vs _ _ h3=>?_
 exact h3.fz S.hs.len
theorem Trip.res {D:Nat}{ss:List S}{a:AV}{P:Out×St→Prop}(h:Trip prog w K D ss σ P)(hP:∀r,P r→∃b σ' more,r=(.rt b,σ')∧σ'.kd=σ.kd∧σ'.H=σ.H ++ more∧Fz σ.H.length σ'.H b a) :
  Trip prog w K D ss σ fun r=>r=(.rt a,{σ with loc:=[],cel:=[]}):=by
 refine ⟨?_⟩
 intro x Z ad s Q X O B S k
 refine h.run O B S fun r hr=>?_
 refine X33 (hP r hr) fun b σ' more q0 e1 e2 e3=>?_;subst q0
 refine RF.freeze (o':=.rt a) (σ':={σ with loc:=[],cel:=[]}) (.rt e3) ⟨e1.symm,rfl,?_,?_,.nil,.nil⟩ (Nat.le_of_eq S.hs.len) (k _ rfl)
 ·refine er e2 (er List.length_append ?_);exact Nat.le_add_right _ _
 ·refine er e2 ?_;exact S.low _ more
structure Con (prog:Program) (w:World) (K:Frag) (L f:Nat) (SP:List AV→HL→AV→Prop) (eff:List AV→HL→HL):Prop where
 call:∀{x:Fx} {A:Around} {fa:Addr} {as:List AV} {vs:List Value} {cl:List (Nat×AV)} {σ:St} {a:AV} {Z:Heap} {ad:List Addr} {s:Shared} {R:Result→Shared→Prop},
 x.Ok→A.frames=some (x.env :: x.outer)→A.handled=none→A.depth < L→SP as σ.H a→Sit prog w K x σ Z ad s.heap→Vals prog w Z ad as vs→FnIs prog w Z ad fa f cl→
 OkS prog w K x Z ad s {σ with H:=eff as σ.H} (fun Z' ad' s'=>∀v,Val prog w Z' ad' a v→R (.ok (.ret v)) s')→codeAny (model prog w) A (.call (.ref fa) ⟨vs,[]⟩) R s
theorem Con.of {L f D:Nat}{fn:Fn}{SP:List AV→HL→AV→Prop}{eff:List AV→HL→HL}(hfn:fns f=some fn)(hown:fn.own= [])(hL:L + D < 900)
  (T:∀as a (σ:St),SP as σ.H a→as.length=fn.pars.length∧Trip prog w K D fn.body {σ with kd:=fn.kd,loc:=zipA fn.pars as} fun r=>∃σ',r=(.rt a,σ')∧σ'.H=eff as σ.H):Con prog w K L f SP eff:=by
 refine ⟨?_⟩
 intro x A fa as vs cl σ a Z ad s R O hA hh hd sp S ha hF hk
 refine X01 (T as a {σ with cel:=cl} sp) fun hlen T=>?_
 refine call_trip O hA hh (D:=D) (Nat.lt_of_le_of_lt (Nat.add_le_add_right (by assumption) _) (by assumption)) S ha hF hfn hown hlen T fun r hr=>?_
 obtain ⟨σ',rfl,e⟩:=hr
 intro Z' ad' h' tk sub pr S' v hv
 refine hk Z' ad' h' tk sub pr ?_ v hv
 have:=S'.orc σ.orc σ.obl
 refine re e ?_
 exact this
theorem Contracts.of (h:∀f,c.spc f=true→Con prog w K c.lim f (c.SP f) (c.eff f)):Contracts prog w K c:=fun f hf=>(h f hf).call
structure SoundL (prog:Program) (w:World) (K:Frag) (c:Cf) (E:Nat):Prop where
 snd:∀n,Snd prog w K c n
 lim:c.lim + E=900
theorem Trip.evL {E:Nat}(J:SoundL prog w K c E){n:Nat}{ss:List S}{σ:St}{r:Out×St}(hr:Mine.ev c n (.sts ss) σ=some r)(ob:AllP r.2.obl):Trip prog w K (n + E) ss σ (· =r):=
 ⟨fun O B S h=>(J.snd n).sts O (by have:=J.lim;exact o32 B this) hr ob S (h r rfl)⟩
theorem SoundL.of (G:Good K)(I:InitK prog K){E:Nat}(hc:∀f,c.spc f=true→Con prog w K c.lim f (c.SP f) (c.eff f))(hl:c.lim + E=900):SoundL prog w K c E:=
 ⟨sound G I (Contracts.of hc) (Nat.le_trans (o177 hl) rec_lim),hl⟩
def seeR (r:R):Option (Out×List (Nat×NameKind)×HL×List Prop):=r.map fun r=>(r.1,r.2.kd,r.2.H,r.2.obl)
theorem Trip.path {E:Nat}(J:SoundL prog w K c E){n:Nat}{ss:List S}{orc:List AV}{b a:AV}{H:HL}{obl:List Prop}{k:List (Nat×NameKind)}(hk:k=σ.kd)
  (h:seeR (Mine.ev c n (.sts ss) {σ with orc:=orc,obl:=[]})=some (.rt b,k,H,obl)) (ob:AllP obl) (more:HL) (hH:H=σ.H ++ more) (hf:Fz σ.H.length H b a):Trip prog w K (n + E) ss σ fun r=>∃σ',r=(.rt a,σ')∧σ'.H=σ.H:=by
 cases hr:Mine.ev c n (.sts ss) {σ with orc:=orc,obl:=[]} with
 | none=>rw [hr] at h;exact noS h
 | some r=>
  obtain ⟨o₁,σ₁⟩:=r
  rw [hr] at h
  have h':(o₁,σ₁.kd,σ₁.H,σ₁.obl)=(.rt b,k,H,obl):=Option.some.inj h
  simp only [Prod.mk.injEq] at h'
  obtain ⟨rfl,e1,e2,e3⟩:=h'
  have T:=Trip.evL J hr (e3.symm▸ob)
  have T2:=Trip.orc orc [] T
  refine (Trip.res (a:=a) T2 fun r hr=>(I33 b σ₁ more hr (e1.trans hk) (e2.trans hH) (e2.symm▸hf))).mono (Nat.le_refl _) fun r hr=>(I11 _ hr rfl)
end
noncomputable def inPol (l:List (Nat×Nat×Nat))(p:Pos):Bool:=l.any fun q=>Nat.beq p.line q.1 && (Nat.beq p.col q.2.1 && Nat.beq p.endCol q.2.2)
noncomputable def polW:List (Nat×Nat×Nat):=[(325,12,56),(325,13,49),(326,7,16),(326,28,38),(326,21,38),(327,41,50),(327,35,50),(328,7,16),(330,7,16),(332,55,69)]
def c1:Cf:={pol:=inPol polW,frz:=fun _=>true}
def txtA (l:AV):AV:=tu [.lit 136,l]
def labT (l:AV):AV:=tu [.lit 118,tu [.lit 32,l]]
def indT (l:AV):AV:=tu [.lit 118,tu [.lit 138,.lit 144,txtA l]]
def atT (l:AV):AV:=tu [.lit 118,tu [.lit 44,.lit 181,tu [txtA l]]]
def zT:AV:=tu [.lit 118,tu [.lit 44,.lit 180,tu []]]
def codT (l:Str):AV:=tu [.lit 157,tu [.lit 32,.str l]]
def wayT (lab cn:Nat→Str):Way→AV
 | .lab g=>labT (.str (lab g))
 | .ind g=>indT (.str (lab g))
 | .at g=>atT (.str (lab g))
 | .z=>zT
 | .cod g=>codT (cn g)
noncomputable def ends:List AV:=[.lit 69,.lit 72,.lit 178]
section
variable (h0 h1 h2 h3 h4 h5 h6 h7 h8 h9 h10 h11 h12 h13:Option (Tg×List AV))(cl:List (Nat×AV))(goal fm:Int)(names:List AV)(lv:AV)
def stW (orc:List AV):St:={kd:=k44,loc:=[(17,.int goal),(174,.int fm),(175,li names)],cel:=cl,H:=[h0,h1,h2,h3,h4,h5,h6,h7,h8,h9,h10,h11,h12,h13],orc:=orc,obl:=[]}
def hW:HL:=[h0,h1,h2,h3,h4,h5,h6,h7,h8,h9,h10,h11,h12,h13] ++ [some (.lst,names ++ ends)]
abbrev isI (a b:Int)(q:Bool):Prop:=cmpV [] .Eq (.int a) (.int b)=some (.bool q)
abbrev oW:List Prop:=[idx (names ++ ends) goal=some lv,small (names ++ ends)]
theorem way_z:seeR (ev c1 200 (.sts b44) (stW h0 h1 h2 h3 h4 h5 h6 h7 h8 h9 h10 h11 h12 h13 cl goal fm names [lv,.bool false,.bool true]))=some (.rt zT,k44,hW h0 h1 h2 h3 h4 h5 h6 h7 h8 h9 h10 h11 h12 h13 names,[isI fm 8 true,isI fm 7 false] ++ oW goal names lv):=by
 kernel_rfl
theorem way_a:seeR (ev c1 200 (.sts b44) (stW h0 h1 h2 h3 h4 h5 h6 h7 h8 h9 h10 h11 h12 h13 cl goal fm names [lv,.bool false,.bool false,.bool true]))=some (.rt (atT lv),k44,hW h0 h1 h2 h3 h4 h5 h6 h7 h8 h9 h10 h11 h12 h13 names,[isI fm 6 true,isI fm 8 false,isI fm 7 false] ++ oW goal names lv):=by
 kernel_rfl
theorem way_i:seeR (ev c1 200 (.sts b44) (stW h0 h1 h2 h3 h4 h5 h6 h7 h8 h9 h10 h11 h12 h13 cl goal fm names [lv,.bool false,.bool false,.bool false,.bool true]))=some (.rt (indT lv),k44,hW h0 h1 h2 h3 h4 h5 h6 h7 h8 h9 h10 h11 h12 h13 names,[cmpV [] .In (.int fm) (tu [.int 4,.int 5])=some (.bool true),isI fm 6 false,isI fm 8 false,isI fm 7 false] ++ oW goal names lv):=by
 kernel_rfl
theorem way_l:seeR (ev c1 200 (.sts b44) (stW h0 h1 h2 h3 h4 h5 h6 h7 h8 h9 h10 h11 h12 h13 cl goal fm names [lv,.bool false,.bool false,.bool false,.bool false]))=some (.rt (labT lv),k44,hW h0 h1 h2 h3 h4 h5 h6 h7 h8 h9 h10 h11 h12 h13 names,[cmpV [] .In (.int fm) (tu [.int 4,.int 5])=some (.bool false),isI fm 6 false,isI fm 8 false,isI fm 7 false] ++ oW goal names lv):=by
 kernel_rfl
theorem way_7:seeR (ev c1 200 (.sts b44) (stW h0 h1 h2 h3 h4 h5 h6 h7 h8 h9 h10 h11 h12 h13 cl goal fm names [lv,.bool true,.int names.length,.bool false,.bool false,.bool false,.bool false]))=some (.rt (labT lv),k44,hW h0 h1 h2 h3 h4 h5 h6 h7 h8 h9 h10 h11 h12 h13 names,[cmpV [] .In (.int fm) (tu [.int 4,.int 5])=some (.bool false),isI fm 6 false,isI fm 8 false,cmpV [] .Lt (.int goal) (.int names.length)=some (.bool false),calB [] .len [li names]=some (.int names.length),isI fm 7 true] ++ oW goal names lv):=by
 kernel_rfl
theorem way_c (sg cg:Str):seeR (ev c1 200 (.sts b44) (stW h0 h1 h2 h3 h4 h5 h6 h7 h8 h9 h10 h11 h12 h13 cl goal fm names [lv,.bool true,.int names.length,.bool true,.str sg,.str cg]))=some (.rt (codT cg),k44,hW h0 h1 h2 h3 h4 h5 h6 h7 h8 h9 h10 h11 h12 h13 names,[binV .Add (.lit 179) (.str sg)=some (.str cg),calB [] .str [.int goal]=some (.str sg),cmpV [] .Lt (.int goal) (.int names.length)=some (.bool true),calB [] .len [li names]=some (.int names.length),isI fm 7 true] ++ oW goal names lv):=by
 kernel_rfl
end
noncomputable def numS (g:Nat):Str:=Str.ofString (toString (g:Int))
def cnS (g:Nat):Str:=nm 179 ++ numS g
def labOf (ns:List Str)(g:Nat):Str:=match ns[g]? with
 | some s=>s
 | none=>if g=ns.length then nm 69 else if g=ns.length + 1 then nm 72 else nm 178
noncomputable def wayOf (many g fm:Nat):Way:=if fm=7∧g < many then .cod g else if fm=8 then .z else if fm=6 then .at g else if fm=4∨fm=5 then .ind g else .lab g
noncomputable def astr (ns:List Str):List AV:=ns.map .str
def SPw (as:List AV)(a:AV):Prop:=∃(ns:List Str) (g fm:Nat),as= [.int g,.int fm,li (astr ns)]∧ns.length≤5∧g < ns.length + 3∧a=wayT (labOf ns) cnS (wayOf ns.length g fm)
def SPway (as:List AV)(H:HL)(a:AV):Prop:=H.length=14∧SPw as a
theorem lab_at {ns:List Str}{g:Nat}(l:ns.length≤1000)(h:g < ns.length + 3):∃lv,idx (astr ns ++ ends) g=some lv∧Fz 14 ([]:HL) lv (.str (labOf ns g)):=by
 have e:∀lv,(astr ns ++ ends)[g]? =some lv→idx (astr ns ++ ends) g=some lv:=fun lv e=>by
  unfold idx
  refine er (if_pos (o135 l h)) (er (if_pos (oZ)) ?_)
  exact e
 have ln:(astr ns).length=ns.length:=by unfold astr;rw [List.length_map]
 by_cases h1:g < ns.length
 ·have h2:ns[g]? =some ns[g]:=List.getElem?_eq_getElem h1
  refine (I11 (.str ns[g]) (e _ ?_) ?_)
  ·refine er (List.getElem?_append_left (o136 ln h1)) ?_
   unfold astr
   refine er (List.getElem?_map) (er h2 ?_);rfl
  ·unfold labOf
   refine er h2 ?_;exact .str
 ·have h2:ns[g]? =none:=List.getElem?_eq_none (Nat.le_of_not_lt (by assumption))
  have e2:(astr ns ++ ends)[g]? =ends[g - ns.length]? :=by exact er (List.getElem?_append_right (o40 ln h1)) (er ln rfl)
  unfold labOf
  refine er h2 ?_
  dsimp only
  by_cases q:g=ns.length
  ·refine er (if_pos q) ?_
   exact (I11 (.lit 69) (e _ (by rw [e2,q,Nat.sub_self];rfl)) .lits)
  ·refine er (if_neg q) ?_
   by_cases q':g=ns.length + 1
   ·refine er (if_pos q') ?_
    exact (I11 (.lit 72) (e _ (by rw [e2,q',Nat.add_sub_cancel_left];rfl)) .lits)
   ·refine er (if_neg q') ?_
    have:g=ns.length + 2:=o39 h h1 q q'
    exact (I11 (.lit 178) (e _ (by rw [e2,this,Nat.add_sub_cancel_left];rfl)) .lits)
theorem is_t {a b:Nat}(h:a=b):isI a b true:=by
 show some (AV.bool (decide ((a:Int)=b)))=_
 simp [h]
theorem is_f {a b:Nat}(h:a≠b):isI a b false:=by
 show some (AV.bool (decide ((a:Int)=b)))=_
 have:¬(a:Int)=b:=o137 h
 simp [this]
theorem in45_t {a:Nat}(h:a=4∨a=5):cmpV [] .In (.int a) (tu [.int 4,.int 5])=some (.bool true):=by
 rcases h with rfl | rfl <;> rfl
theorem in45_f {a:Nat}(h:¬(a=4∨a=5)):cmpV [] .In (.int a) (tu [.int 4,.int 5])=some (.bool false):=by
 show some (AV.bool (List.any [(4:Int),5] (· == (a:Int))))=_
 have h1:((4:Int) == (a:Int))=false:=beq_eq_false_iff_ne.mpr (o138 h)
 have h2:((5:Int) == (a:Int))=false:=beq_eq_false_iff_ne.mpr (o139 h)
 simp only [List.any_cons,List.any_nil,h1,h2,Bool.or_false]
theorem lt_ok {a b:Nat}{q:Bool}(h:q=decide (a < b)):cmpV [] .Lt (.int a) (.int b)=some (.bool q):=by
 show some (AV.bool (decide ((a:Int) < b)))=_
 subst h
 congr 2
 exact decide_eq_decide.mpr (o140)
theorem str_ok {g:Nat}(h:g < 10000):calB [] .str [.int g]=some (.str (numS g)):=by
 show (if (g:Int).natAbs < 10000 then some (AV.str (Str.ofString (toString (g:Int)))) else none)=_
 refine er (if_pos (by assumption)) ?_;rfl
theorem cat_ok {s:Str}{k:Nat}(h:(nm k).length + s.length≤100000):binV .Add (.lit k) (.str s)=some (.str (nm k ++ s)):=by
 show (if (nm k).length + s.length≤100000 then some (AV.str (nm k ++ s)) else none)=_
 exact er (if_pos h) rfl
theorem num_is:∀g,g < 10→(numS g).cps= #[48 + g]:=by decide +kernel
theorem num_len {g:Nat}(h:g < 10):(numS g).length=1:=by
 show (numS g).cps.size=1
 refine er (num_is g h) ?_;rfl
theorem nm179:(nm 179).cps= #[67]:=by decide +kernel
theorem nm209:(nm 209).cps= #[76]:=by decide +kernel
theorem cat_cps {k c:Nat}(hk:(nm k).cps= #[c]){g:Nat}(hg:g < 10):(nm k ++ numS g).cps= #[c,48 + g]:=by
 show (nm k).cps ++ (numS g).cps=_
 refine er hk (er (num_is g hg) ?_);rfl
theorem cat_len {k c:Nat}(hk:(nm k).cps= #[c]){g:Nat}(hg:g < 10):(nm k).length + (numS g).length≤100000:=by
 refine er (num_len hg) ?_
 show (nm k).cps.size + 1≤100000
 refine er hk ?_;simp
section
variable {prog:Program}{w:World}{K:Frag}
def fn44:Fn:={pars:=[17,174,175],kd:=k44,body:=b44}
theorem fn44_is:fns 44=some fn44:=by kernel_rfl
theorem way_con (J:SoundL prog w K c1 0){L:Nat}(hL:L + 200 < 900):Con prog w K L 44 SPway (fun _ H=>H):=by
 refine Con.of (D:=200) fn44_is rfl hL fun as a σ hs=>?_
 obtain ⟨hl,ns,g,fm,rfl,l,lg,rfl⟩:=hs
 refine ⟨rfl,?_⟩
 obtain ⟨kd,loc,cl,H,orc,obl⟩:=σ
 dsimp only at hl ⊢
 refine lenI hl ?_;intro h0 h1 h2 h3 h4 h5 h6 h7 h8 h9 h10 h11 h12 h13
 refine X11 (lab_at (Nat.le_trans (by assumption) (by decide)) lg) fun lv e hf=>?_
 have ln:(astr ns).length=ns.length:=by unfold astr;rw [List.length_map]
 have oW:AllP (oW g (astr ns) lv):=.cons e (.cons (by show (astr ns ++ ends).length≤5000;refine er List.length_append (er ln ?_);show _ + 3≤5000;exact o141 l) .nil)
 have f4:∀H,Fz 14 H (txtA lv) (txtA (.str (labOf ns g))):=fun H=>.nd (.cons .lit (.cons hf.any .nil))
 have f1:∀H,Fz 14 H (labT lv) (labT (.str (labOf ns g))):=fun H=>.nd (.cons .lit (.cons (.nd (.cons .lit (.cons hf.any .nil))) .nil))
 have f2:∀H,Fz 14 H (indT lv) (indT (.str (labOf ns g))):=fun H=>.nd (.cons .lit (.cons (.nd (.cons .lit (.cons .lit (.cons (f4 H) .nil)))) .nil))
 have f3:∀H,Fz 14 H (atT lv) (atT (.str (labOf ns g))):=fun H=>.nd (.cons .lit (.cons (.nd (.cons .lit (.cons .lit (.cons (.nd (.cons (f4 H) .nil)) .nil)))) .nil))
 have f5:∀H,Fz 14 H zT zT:=fun H=>.nd (.cons .lit (.cons (.nd (.cons .lit (.cons .lit (.cons (.nd .nil) .nil)))) .nil))
 have f6:∀H,Fz 14 H (codT (cnS g)) (codT (cnS g)):=fun H=>.nd (.cons .lit (.cons (.nd (.cons .lit (.cons .str .nil))) .nil))
 have cl0:calB [] .len [li (astr ns)]=some (.int (astr ns).length):=cmp_len (o142 l ln)
 unfold wayOf
 by_cases q7:fm=7
 ·have i7:isI fm 7 true:=is_t q7
  have i8:isI fm 8 false:=is_f (b:=8) (o143 q7)
  have i6:isI fm 6 false:=is_f (b:=6) (o144 q7)
  have i4:=in45_f (a:=fm) (o41 q7)
  by_cases q:g < ns.length
  ·refine er (if_pos ⟨q7,q⟩) ?_
   exact Trip.path J rfl (way_c h0 h1 h2 h3 h4 h5 h6 h7 h8 h9 h10 h11 h12 h13 cl g fm (astr ns) lv (numS g) (cnS g)) ((AllP.cons (cat_ok (cat_len nm179 (o5 l q))) (.cons (str_ok (o42 l q)) (.cons (lt_ok (by refine er ln ?_;simp [q])) (.cons cl0 (.cons i7 .nil))))).app oW) _ rfl (f6 _)
  ·refine er (if_neg (o145 q)) (er (if_neg (o146 q7)) (er (if_neg (o147 q7)) (er (if_neg (o41 q7)) ?_)))
   exact Trip.path J rfl (way_7 h0 h1 h2 h3 h4 h5 h6 h7 h8 h9 h10 h11 h12 h13 cl g fm (astr ns) lv) ((AllP.cons i4 (.cons i6 (.cons i8 (.cons (lt_ok (by refine er ln ?_;simp [q])) (.cons cl0 (.cons i7 .nil)))))).app oW) _ rfl (f1 _)
 ·have i7:isI fm 7 false:=is_f q7
  refine er (if_neg (o148 q7)) ?_
  by_cases q8:fm=8
  ·refine er (if_pos q8) ?_
   exact Trip.path J rfl (way_z h0 h1 h2 h3 h4 h5 h6 h7 h8 h9 h10 h11 h12 h13 cl g fm (astr ns) lv) ((AllP.cons (is_t q8) (.cons i7 .nil)).app oW) _ rfl (f5 _)
  ·refine er (if_neg q8) ?_
   by_cases q6:fm=6
   ·refine er (if_pos q6) ?_
    exact Trip.path J rfl (way_a h0 h1 h2 h3 h4 h5 h6 h7 h8 h9 h10 h11 h12 h13 cl g fm (astr ns) lv) ((AllP.cons (is_t q6) (.cons (is_f q8) (.cons i7 .nil))).app oW) _ rfl (f3 _)
   ·refine er (if_neg q6) ?_
    by_cases q4:fm=4∨fm=5
    ·refine er (if_pos q4) ?_
     exact Trip.path J rfl (way_i h0 h1 h2 h3 h4 h5 h6 h7 h8 h9 h10 h11 h12 h13 cl g fm (astr ns) lv) ((AllP.cons (in45_t q4) (.cons (is_f q6) (.cons (is_f q8) (.cons i7 .nil)))).app oW) _ rfl (f2 _)
    ·refine er (if_neg q4) ?_
     exact Trip.path J rfl (way_l h0 h1 h2 h3 h4 h5 h6 h7 h8 h9 h10 h11 h12 h13 cl g fm (astr ns) lv) ((AllP.cons (in45_f q4) (.cons (is_f q6) (.cons (is_f q8) (.cons i7 .nil)))).app oW) _ rfl (f1 _)
end
def simpT (t:AV)(o:AV):Prop:=∃s:AV,((∃q,s=.str q)∨∃k,s=.lit k)∧((t=tu [.lit 32,s]∧o=tu [.lit 86,s])∨(t=txtA s∧o=tu [.lit 85,s]))
def SPr (as:List AV)(a:AV):Prop:=(as= [tu []]∧a=li [])∨∃t o,simpT t o∧as= [tu [t]]∧a=li [o]
def SProw (as:List AV)(H:HL)(a:AV):Prop:=H.length=12∧SPr as a
noncomputable def polS:List (Nat×Nat×Nat):=[(335,49,64),(336,34,47)]
def c2:Cf:={pol:=inPol polS,frz:=fun _=>true,spc:=fun f=>Nat.beq f 44 || Nat.beq f 34,SP:=fun f=>match f with | 44=>SPway | 34=>SProw | _=>fun _ _ _=>False,lim:=690}
def varT (v:Str):AV:=tu [.lit 32,.str v]
def askT (c v:Str):AV:=tu [.lit 44,.str c,tu [varT v]]
def subjF (form:Nat)(c v:Str):AV:=match form with
 | 3=>tu [.lit 138,.lit 150,askT c v]
 | _=>varT v
def patF (form:Nat)(c:Str):AV:=match form with
 | 1=>txtA (.str c)
 | 2=>txtA (.str c)
 | _=>.none
noncomputable def isrF (form:Nat):AV:=match form with
 | 0=>.bool true
 | 2=>.bool true
 | 4=>.bool true
 | _=>.bool false
def repF (form:Nat)(c v:Str):AV:=match form with
 | 0=>tu [.lit 139,varT v,txtA (.str c)]
 | 2=>tu [.lit 135]
 | 4=>askT c v
 | _=>.none
noncomputable def stF (lab subj pat isr rep gs gf ga line txt:AV):List AV:=[lab,subj,pat,isr,rep,gs,gf,ga,line,txt]
noncomputable def stNs:List Nat:=[111,57,58,153,154,161,162,160,129,136]
section
variable (h0 h1 h2 h3 h4 h5 h6 h7 h8 h9 h10 h11:Option (Tg×List AV))(cl:List (Nat×AV))(num:Int)(v c l:Str)(names:List AV)(g1 f1 g2 f2:Int)(w1 w2:AV)
def stS (fm:Int)(ways:List AV)(orc:List AV):St:={kd:=k45,loc:=[(2,.int num),(182,tu [.int fm,.str v,li ways]),(175,li names)],cel:=cl,H:=[h0,h1,h2,h3,h4,h5,h6,h7,h8,h9,h10,h11],orc:=orc,obl:=[]}
abbrev oS:List Prop:=[subV [] (li names) (.int num)=some (.str l),subV [] (.lit 187) (.int num)=some (.str c)]
theorem st0_0:seeR (ev c2 200 (.sts b45) (stS h0 h1 h2 h3 h4 h5 h6 h7 h8 h9 h10 h11 cl num v names 0 [tu [.int g1,.int f1]] [.str c,.str l,w1])) =
  some (.rt (.ref 13),k45,[h0,h1,h2,h3,h4,h5,h6,h7,h8,h9,h10,h11] ++ [some (.idc stNs,stF (.str l) (subjF 0 c v) (patF 0 c) (isrF 0) (repF 0 c v) .none .none w1 (.int num) (.lit 8)),some (.ins 6,[.ref 12])],[14=14∧SPw [.int g1,.int f1,li names] w1] ++ oS num c l names):=by
 kernel_rfl
theorem st0_1:seeR (ev c2 200 (.sts b45) (stS h0 h1 h2 h3 h4 h5 h6 h7 h8 h9 h10 h11 cl num v names 0 [tu [.int g1,.int f1],tu [.int g2,.int f2]] [.str c,.str l,w1,w2])) =
  some (.rt (.ref 13),k45,[h0,h1,h2,h3,h4,h5,h6,h7,h8,h9,h10,h11] ++ [some (.idc stNs,stF (.str l) (subjF 0 c v) (patF 0 c) (isrF 0) (repF 0 c v) w1 w2 .none (.int num) (.lit 8)),some (.ins 6,[.ref 12])],[14=14∧SPw [.int g2,.int f2,li names] w2,14=14∧SPw [.int g1,.int f1,li names] w1] ++ oS num c l names):=by
 kernel_rfl
theorem st1_0:seeR (ev c2 200 (.sts b45) (stS h0 h1 h2 h3 h4 h5 h6 h7 h8 h9 h10 h11 cl num v names 1 [tu [.int g1,.int f1]] [.str c,.str l,w1])) =
  some (.rt (.ref 13),k45,[h0,h1,h2,h3,h4,h5,h6,h7,h8,h9,h10,h11] ++ [some (.idc stNs,stF (.str l) (subjF 1 c v) (patF 1 c) (isrF 1) (repF 1 c v) .none .none w1 (.int num) (.lit 8)),some (.ins 6,[.ref 12])],[14=14∧SPw [.int g1,.int f1,li names] w1] ++ oS num c l names):=by
 kernel_rfl
theorem st1_1:seeR (ev c2 200 (.sts b45) (stS h0 h1 h2 h3 h4 h5 h6 h7 h8 h9 h10 h11 cl num v names 1 [tu [.int g1,.int f1],tu [.int g2,.int f2]] [.str c,.str l,w1,w2])) =
  some (.rt (.ref 13),k45,[h0,h1,h2,h3,h4,h5,h6,h7,h8,h9,h10,h11] ++ [some (.idc stNs,stF (.str l) (subjF 1 c v) (patF 1 c) (isrF 1) (repF 1 c v) w1 w2 .none (.int num) (.lit 8)),some (.ins 6,[.ref 12])],[14=14∧SPw [.int g2,.int f2,li names] w2,14=14∧SPw [.int g1,.int f1,li names] w1] ++ oS num c l names):=by
 kernel_rfl
theorem st2_0:seeR (ev c2 200 (.sts b45) (stS h0 h1 h2 h3 h4 h5 h6 h7 h8 h9 h10 h11 cl num v names 2 [tu [.int g1,.int f1]] [.str c,.str l,w1])) =
  some (.rt (.ref 13),k45,[h0,h1,h2,h3,h4,h5,h6,h7,h8,h9,h10,h11] ++ [some (.idc stNs,stF (.str l) (subjF 2 c v) (patF 2 c) (isrF 2) (repF 2 c v) .none .none w1 (.int num) (.lit 8)),some (.ins 6,[.ref 12])],[14=14∧SPw [.int g1,.int f1,li names] w1] ++ oS num c l names):=by
 kernel_rfl
theorem st2_1:seeR (ev c2 200 (.sts b45) (stS h0 h1 h2 h3 h4 h5 h6 h7 h8 h9 h10 h11 cl num v names 2 [tu [.int g1,.int f1],tu [.int g2,.int f2]] [.str c,.str l,w1,w2])) =
  some (.rt (.ref 13),k45,[h0,h1,h2,h3,h4,h5,h6,h7,h8,h9,h10,h11] ++ [some (.idc stNs,stF (.str l) (subjF 2 c v) (patF 2 c) (isrF 2) (repF 2 c v) w1 w2 .none (.int num) (.lit 8)),some (.ins 6,[.ref 12])],[14=14∧SPw [.int g2,.int f2,li names] w2,14=14∧SPw [.int g1,.int f1,li names] w1] ++ oS num c l names):=by
 kernel_rfl
theorem st3_0:seeR (ev c2 200 (.sts b45) (stS h0 h1 h2 h3 h4 h5 h6 h7 h8 h9 h10 h11 cl num v names 3 [tu [.int g1,.int f1]] [.str c,.str l,w1])) =
  some (.rt (.ref 13),k45,[h0,h1,h2,h3,h4,h5,h6,h7,h8,h9,h10,h11] ++ [some (.idc stNs,stF (.str l) (subjF 3 c v) (patF 3 c) (isrF 3) (repF 3 c v) .none .none w1 (.int num) (.lit 8)),some (.ins 6,[.ref 12])],[14=14∧SPw [.int g1,.int f1,li names] w1] ++ oS num c l names):=by
 kernel_rfl
theorem st3_1:seeR (ev c2 200 (.sts b45) (stS h0 h1 h2 h3 h4 h5 h6 h7 h8 h9 h10 h11 cl num v names 3 [tu [.int g1,.int f1],tu [.int g2,.int f2]] [.str c,.str l,w1,w2])) =
  some (.rt (.ref 13),k45,[h0,h1,h2,h3,h4,h5,h6,h7,h8,h9,h10,h11] ++ [some (.idc stNs,stF (.str l) (subjF 3 c v) (patF 3 c) (isrF 3) (repF 3 c v) w1 w2 .none (.int num) (.lit 8)),some (.ins 6,[.ref 12])],[14=14∧SPw [.int g2,.int f2,li names] w2,14=14∧SPw [.int g1,.int f1,li names] w1] ++ oS num c l names):=by
 kernel_rfl
theorem st4_0:seeR (ev c2 200 (.sts b45) (stS h0 h1 h2 h3 h4 h5 h6 h7 h8 h9 h10 h11 cl num v names 4 [tu [.int g1,.int f1]] [.str c,.str l,w1])) =
  some (.rt (.ref 13),k45,[h0,h1,h2,h3,h4,h5,h6,h7,h8,h9,h10,h11] ++ [some (.idc stNs,stF (.str l) (subjF 4 c v) (patF 4 c) (isrF 4) (repF 4 c v) .none .none w1 (.int num) (.lit 8)),some (.ins 6,[.ref 12])],[14=14∧SPw [.int g1,.int f1,li names] w1] ++ oS num c l names):=by
 kernel_rfl
theorem st4_1:seeR (ev c2 200 (.sts b45) (stS h0 h1 h2 h3 h4 h5 h6 h7 h8 h9 h10 h11 cl num v names 4 [tu [.int g1,.int f1],tu [.int g2,.int f2]] [.str c,.str l,w1,w2])) =
  some (.rt (.ref 13),k45,[h0,h1,h2,h3,h4,h5,h6,h7,h8,h9,h10,h11] ++ [some (.idc stNs,stF (.str l) (subjF 4 c v) (patF 4 c) (isrF 4) (repF 4 c v) w1 w2 .none (.int num) (.lit 8)),some (.ins 6,[.ref 12])],[14=14∧SPw [.int g2,.int f2,li names] w2,14=14∧SPw [.int g1,.int f1,li names] w1] ++ oS num c l names):=by
 kernel_rfl
end
structure Raw where
 form:Nat
 v:Str
 g1:Nat
 f1:Nat
 two:Option (Nat×Nat)
def Raw.ways (r:Raw):List AV:=match r.two with
 | none=>[tu [.int r.g1,.int r.f1]]
 | some (g,f)=>[tu [.int r.g1,.int r.f1],tu [.int g,.int f]]
def Raw.val (r:Raw):AV:=tu [.int r.form,.str r.v,li r.ways]
def Raw.dr (many:Nat)(r:Raw):Dr:=⟨r.form,r.v,wayOf many r.g1 r.f1,match r.two with | none=>wayOf many r.g1 r.f1 | some (g,f)=>wayOf many g f⟩
structure Raw.Ok (many:Nat) (r:Raw):Prop where
 form:r.form≤4
 v:VarOk r.v
 g1:r.g1 < many + 3
 two:∀g f,r.two=some (g,f)→g < many + 3
theorem wayOf_ok {many g f:Nat}(h:g < many + 3):(wayOf many g f).Ok many:=by
 unfold wayOf
 by_cases h1:f=7∧g < many
 ·refine er (if_pos h1) ?_;exact h1.2
 ·refine er (if_neg h1) ?_
  by_cases h2:f=8
  ·refine er (if_pos h2) ?_;exact trivial
  ·refine er (if_neg h2) ?_
   by_cases h3:f=6
   ·refine er (if_pos h3) ?_;exact h
   ·refine er (if_neg h3) ?_
    by_cases h4:f=4∨f=5
    ·refine er (if_pos h4) ?_;exact h
    ·refine er (if_neg h4) ?_;exact h
theorem Raw.dr_ok {many:Nat}{r:Raw}(h:r.Ok many):(r.dr many).Ok many:=by
 refine ⟨h.form,h.v,wayOf_ok h.g1,?_⟩
 unfold Raw.dr
 cases q:r.two with
 | none=>exact wayOf_ok h.g1
 | some p=>exact wayOf_ok (h.two _ _ q)
noncomputable def ltS (k:Nat):Str:=⟨#[97 + k]⟩
def stmtL (ns:List Str)(k:Nat)(r:Raw):List AV:=match r.two with
 | none=>stF (.str (labOf ns k)) (subjF r.form (ltS k) r.v) (patF r.form (ltS k)) (isrF r.form) (repF r.form (ltS k) r.v) .none .none (wayT (labOf ns) cnS (wayOf ns.length r.g1 r.f1)) (.int k) (.lit 8)
 | some (g,f)=>stF (.str (labOf ns k)) (subjF r.form (ltS k) r.v) (patF r.form (ltS k)) (isrF r.form) (repF r.form (ltS k) r.v) (wayT (labOf ns) cnS (wayOf ns.length r.g1 r.f1)) (wayT (labOf ns) cnS (wayOf ns.length g f)) .none (.int k) (.lit 8)
def stmtA (ns:List Str)(k:Nat)(r:Raw):AV:=.nd (.ins 6) [.nd (.idc stNs) (stmtL ns k r)]
def SPst (as:List AV)(H:HL)(a:AV):Prop:=H.length=12∧∃(ns:List Str) (k:Nat) (r:Raw),as= [.int k,r.val,li (astr ns)]∧ns.length≤5∧k < ns.length∧r.Ok ns.length∧a=stmtA ns k r
theorem fro_txt {l:Str}:Fro (txtA (.str l)):=.nd (.cons .lit (.cons .str .nil))
theorem fro_wayT {lab cn:Nat→Str}{W:Way}:Fro (wayT lab cn W):=by
 cases W with
 | lab g=>exact .nd (.cons .lit (.cons (.nd (.cons .lit (.cons .str .nil))) .nil))
 | ind g=>exact .nd (.cons .lit (.cons (.nd (.cons .lit (.cons .lit (.cons fro_txt .nil)))) .nil))
 | «at» g=>exact .nd (.cons .lit (.cons (.nd (.cons .lit (.cons .lit (.cons (.nd (.cons fro_txt .nil)) .nil)))) .nil))
 | z=>exact .nd (.cons .lit (.cons (.nd (.cons .lit (.cons .lit (.cons (.nd .nil) .nil)))) .nil))
 | cod g=>exact .nd (.cons .lit (.cons (.nd (.cons .lit (.cons .str .nil))) .nil))
theorem fro_varT {v:Str}:Fro (varT v):=.nd (.cons .lit (.cons .str .nil))
theorem fro_askT {c v:Str}:Fro (askT c v):=.nd (.cons .lit (.cons .str (.cons (.nd (.cons fro_varT .nil)) .nil)))
theorem fro_subjF {form:Nat}{c v:Str}:Fro (subjF form c v):=by
 unfold subjF
 split
 ·exact .nd (.cons .lit (.cons .lit (.cons fro_askT .nil)))
 ·exact fro_varT
theorem fro_patF {form:Nat}{c:Str}:Fro (patF form c):=by
 unfold patF
 split
 ·exact fro_txt
 ·exact fro_txt
 ·exact .none
theorem fro_isrF {form:Nat}:Fro (isrF form):=by
 unfold isrF
 split <;> exact .bool
theorem fro_repF {form:Nat}{c v:Str}:Fro (repF form c v):=by
 unfold repF
 split
 ·exact .nd (.cons .lit (.cons fro_varT (.cons fro_txt .nil)))
 ·exact .nd (.cons .lit .nil)
 ·exact fro_askT
 ·exact .none
theorem fro_stF {a b c d e f g h i j:AV}(ha:Fro a)(hb:Fro b)(hc:Fro c)(hd:Fro d)(he:Fro e)(hf:Fro f)(hg:Fro g)(hh:Fro h)(hi:Fro i)(hj:Fro j):FroL (stF a b c d e f g h i j):=
 .cons ha (.cons hb (.cons hc (.cons hd (.cons he (.cons hf (.cons hg (.cons hh (.cons hi (.cons hj .nil)))))))))
theorem fro_stmtL {ns:List Str}{k:Nat}{r:Raw}:FroL (stmtL ns k r):=by
 unfold stmtL
 split
 ·exact fro_stF .str fro_subjF fro_patF fro_isrF fro_repF .none .none fro_wayT .int .lit
 ·exact fro_stF .str fro_subjF fro_patF fro_isrF fro_repF fro_wayT fro_wayT .none .int .lit
theorem fro_stmtA {ns:List Str}{k:Nat}{r:Raw}:Fro (stmtA ns k r):=.nd (.cons (.nd fro_stmtL) .nil)
theorem subL {H:List (Option (Tg×List AV))}{xs:List AV}{i:Int}:subV H (.nd .lst xs) (.int i)=idx xs i:=rfl
theorem subS {H:List (Option (Tg×List AV))}{k:Nat}{i:Int}:subV H (.lit k) (.int i)=if 0≤i∧i < 1000000 then ((nm k).cps[i.toNat]?).map fun c=>.str ⟨#[c]⟩ else none:=rfl
theorem lt_at:∀k:Nat,k < 5→subV [] (.lit 187) (.int k)=some (.str (ltS k)):=by
 have e:(nm 187).cps= #[97,98,99,100,101]:=by decide +kernel
 intro k hk
 rw [subS,if_pos (o100 hk),e,Int.toNat_natCast]
 match k,hk with
 | 0,_=>rfl
 | 1,_=>rfl
 | 2,_=>rfl
 | 3,_=>rfl
 | 4,_=>rfl
theorem lab_lt {ns:List Str}{k:Nat}(h:k < ns.length):labOf ns k=ns[k]:=by
 unfold labOf
 exact er (List.getElem?_eq_getElem h) rfl
theorem nam_at {ns:List Str}{k:Nat}(l:ns.length≤5)(h:k < ns.length):subV [] (li (astr ns)) (.int k)=some (.str (labOf ns k)):=by
 refine subL.trans ?_
 unfold idx
 rw [if_pos (o101 l h),if_pos (oZ),Int.toNat_natCast]
 unfold astr
 refine er (List.getElem?_map) (er (List.getElem?_eq_getElem h) (er (lab_lt h) ?_));rfl
section
variable {prog:Program}{w:World}{K:Frag}
def fn45:Fn:={pars:=[2,182,175],kd:=k45,body:=b45}
theorem fn45_is:fns 45=some fn45:=by kernel_rfl
set_option maxHeartbeats 1000000 in
theorem stated_con (J:SoundL prog w K c2 210){L:Nat}(hL:L + 410 < 900):Con prog w K L 45 SPst (fun _ H=>H):=by
 refine Con.of (D:=410) fn45_is rfl hL fun as a σ hs=>?_
 obtain ⟨hl,ns,k,r,rfl,l,lk,ok,rfl⟩:=hs
 refine ⟨rfl,?_⟩
 obtain ⟨kd,loc,cl,H,orc,obl⟩:=σ
 dsimp only at hl ⊢
 refine lenI hl ?_;intro h0 h1 h2 h3 h4 h5 h6 h7 h8 h9 h10 h11
 have o1:AllP (oS k (ltS k) (labOf ns k) (astr ns)):=.cons (nam_at l lk) (.cons (lt_at k (Nat.lt_of_lt_of_le (by assumption) (by assumption))) .nil)
 have key:∀{xs:List AV},FroL xs→Fz 12 ([h0,h1,h2,h3,h4,h5,h6,h7,h8,h9,h10,h11] ++ [some (.idc stNs,xs),some (.ins 6,[.ref 12])]) (.ref 13) (.nd (.ins 6) [.nd (.idc stNs) xs]):=fun hx=>.ref rfl rfl (.cons (.ref rfl rfl hx.fz) .nil)
 obtain ⟨form,v,g1,f1,two⟩:=r
 have hf:=ok.form
 cases two with
 | none=>
  have p1:SPw [.int g1,.int f1,li (astr ns)] (wayT (labOf ns) cnS (wayOf ns.length g1 f1)):=(I33 ns g1 f1 rfl l ok.g1 rfl)
  have ob:=(AllP.cons (And.intro (rfl:(14:Nat)=14) p1) .nil).app o1
  match form,hf with
  | 0,_=>exact Trip.path J rfl (st0_0 h0 h1 h2 h3 h4 h5 h6 h7 h8 h9 h10 h11 cl k v (ltS k) (labOf ns k) (astr ns) g1 f1 (wayT (labOf ns) cnS (wayOf ns.length g1 f1))) ob _ rfl (key (fro_stmtL (ns:=ns) (k:=k) (r:=⟨0,v,g1,f1,none⟩)))
  | 1,_=>exact Trip.path J rfl (st1_0 h0 h1 h2 h3 h4 h5 h6 h7 h8 h9 h10 h11 cl k v (ltS k) (labOf ns k) (astr ns) g1 f1 (wayT (labOf ns) cnS (wayOf ns.length g1 f1))) ob _ rfl (key (fro_stmtL (ns:=ns) (k:=k) (r:=⟨1,v,g1,f1,none⟩)))
  | 2,_=>exact Trip.path J rfl (st2_0 h0 h1 h2 h3 h4 h5 h6 h7 h8 h9 h10 h11 cl k v (ltS k) (labOf ns k) (astr ns) g1 f1 (wayT (labOf ns) cnS (wayOf ns.length g1 f1))) ob _ rfl (key (fro_stmtL (ns:=ns) (k:=k) (r:=⟨2,v,g1,f1,none⟩)))
  | 3,_=>exact Trip.path J rfl (st3_0 h0 h1 h2 h3 h4 h5 h6 h7 h8 h9 h10 h11 cl k v (ltS k) (labOf ns k) (astr ns) g1 f1 (wayT (labOf ns) cnS (wayOf ns.length g1 f1))) ob _ rfl (key (fro_stmtL (ns:=ns) (k:=k) (r:=⟨3,v,g1,f1,none⟩)))
  | 4,_=>exact Trip.path J rfl (st4_0 h0 h1 h2 h3 h4 h5 h6 h7 h8 h9 h10 h11 cl k v (ltS k) (labOf ns k) (astr ns) g1 f1 (wayT (labOf ns) cnS (wayOf ns.length g1 f1))) ob _ rfl (key (fro_stmtL (ns:=ns) (k:=k) (r:=⟨4,v,g1,f1,none⟩)))
 | some p=>
  obtain ⟨g2,f2⟩:=p
  have p1:SPw [.int g1,.int f1,li (astr ns)] (wayT (labOf ns) cnS (wayOf ns.length g1 f1)):=(I33 ns g1 f1 rfl l ok.g1 rfl)
  have p2:SPw [.int g2,.int f2,li (astr ns)] (wayT (labOf ns) cnS (wayOf ns.length g2 f2)):=(I33 ns g2 f2 rfl l (ok.two _ _ rfl) rfl)
  have ob:=(AllP.cons (And.intro (rfl:(14:Nat)=14) p2) (.cons (And.intro (rfl:(14:Nat)=14) p1) .nil)).app o1
  match form,hf with
  | 0,_=>exact Trip.path J rfl (st0_1 h0 h1 h2 h3 h4 h5 h6 h7 h8 h9 h10 h11 cl k v (ltS k) (labOf ns k) (astr ns) g1 f1 g2 f2 (wayT (labOf ns) cnS (wayOf ns.length g1 f1)) (wayT (labOf ns) cnS (wayOf ns.length g2 f2))) ob _ rfl (key (fro_stmtL (ns:=ns) (k:=k) (r:=⟨0,v,g1,f1,some (g2,f2)⟩)))
  | 1,_=>exact Trip.path J rfl (st1_1 h0 h1 h2 h3 h4 h5 h6 h7 h8 h9 h10 h11 cl k v (ltS k) (labOf ns k) (astr ns) g1 f1 g2 f2 (wayT (labOf ns) cnS (wayOf ns.length g1 f1)) (wayT (labOf ns) cnS (wayOf ns.length g2 f2))) ob _ rfl (key (fro_stmtL (ns:=ns) (k:=k) (r:=⟨1,v,g1,f1,some (g2,f2)⟩)))
  | 2,_=>exact Trip.path J rfl (st2_1 h0 h1 h2 h3 h4 h5 h6 h7 h8 h9 h10 h11 cl k v (ltS k) (labOf ns k) (astr ns) g1 f1 g2 f2 (wayT (labOf ns) cnS (wayOf ns.length g1 f1)) (wayT (labOf ns) cnS (wayOf ns.length g2 f2))) ob _ rfl (key (fro_stmtL (ns:=ns) (k:=k) (r:=⟨2,v,g1,f1,some (g2,f2)⟩)))
  | 3,_=>exact Trip.path J rfl (st3_1 h0 h1 h2 h3 h4 h5 h6 h7 h8 h9 h10 h11 cl k v (ltS k) (labOf ns k) (astr ns) g1 f1 g2 f2 (wayT (labOf ns) cnS (wayOf ns.length g1 f1)) (wayT (labOf ns) cnS (wayOf ns.length g2 f2))) ob _ rfl (key (fro_stmtL (ns:=ns) (k:=k) (r:=⟨3,v,g1,f1,some (g2,f2)⟩)))
  | 4,_=>exact Trip.path J rfl (st4_1 h0 h1 h2 h3 h4 h5 h6 h7 h8 h9 h10 h11 cl k v (ltS k) (labOf ns k) (astr ns) g1 f1 g2 f2 (wayT (labOf ns) cnS (wayOf ns.length g1 f1)) (wayT (labOf ns) cnS (wayOf ns.length g2 f2))) ob _ rfl (key (fro_stmtL (ns:=ns) (k:=k) (r:=⟨4,v,g1,f1,some (g2,f2)⟩)))
end
section
variable {n m:Nat}(l:n≤m)
include l
theorem FzL.more {a b:List AV}(h:FzL n [] a b):FzL m [] a b:=
 FzL.rec (motive_1:=fun a b _=>Fz m [] a b) (motive_2:=fun a b _=>FzL m [] a b) .none .bool .int .lit .str .lits .kls .raw (fun h=>.low (Nat.ble_eq.mpr (Nat.le_trans (Nat.le_of_ble_eq_true h) l))) (fun _ e _ _=>by cases e) (fun _=>.nd) .nil (fun _ _=>.cons) h
end
def LowH (n:Nat)(H:HL):Prop:=∀r t xs,getH H r=some (t,xs)→FzL n [] xs xs
theorem LowH.more {n m:Nat}{H:HL}(h:LowH n H)(l:n≤m):LowH m H:=fun r t xs e=>(h r t xs e).more l
theorem LowH.app {n:Nat}{H M:HL}(h:LowH n H)(k:LowH n M):LowH n (H ++ M):=fun r t xs e=>by
 rw [getH_append] at e
 split at e
 ·exact h _ _ _ e
 ·exact k _ _ _ e
theorem LowH.one {n:Nat}{t:Tg}{xs:List AV}(h:FzL n [] xs xs):LowH n [some (t,xs)]:=fun r t' xs' e=>by
 cases r with
 | zero=>cases e;exact h
 | succ r=>exact noS e
theorem LowH.fzc {n:Nat}{H:HL}(h:LowH n H)(H' more:HL):FzC n H' (H ++ more) H:=FzC.of more fun r t xs e=>(h r t xs e).any
theorem LowH.fzs {σ:St}(h:LowH σ.H.length σ.H)(os:List Obj)(hl:FzN σ.H.length [] σ.loc σ.loc)(hc:FzN σ.H.length [] σ.cel σ.cel):FzS σ.H.length (σ.with os) σ:=
 ⟨rfl,rfl,by show _≤(σ.H ++ objs os).length;refine er List.length_append ?_;exact Nat.le_add_right _ _,h.fzc _ _,hl.any,hc.any⟩
section
variable {prog:Program}{w:World}{K:Frag}{σ:St}{x:Fx}{Z:Heap}{ad:List Addr}{h:Heap}
theorem Sit.lowH (S:Sit prog w K x σ Z ad h):LowH σ.H.length σ.H:=fun r t xs e=>by
 refine X22 (S.hs.emb r t xs e) fun _ vs _ _ h3=>?_
 exact h3.fz S.hs.len
theorem Trip.nocel {D:Nat}{ss:List S}{P:Out×St→Prop}(h:Trip prog w K D ss {σ with cel:=[]} P):Trip prog w K D ss σ P:=
 ⟨fun O B S k=>h.run O B ⟨S.kd,S.stat,S.hs,S.loc,fun _ _ e=>nomatch e⟩ k⟩
theorem Trip.given {D:Nat}{ss:List S}{P:Out×St→Prop}(h:LowH σ.H.length σ.H→Trip prog w K D ss σ P):Trip prog w K D ss σ P:=⟨fun O B S k=>(h S.lowH).run O B S k⟩
noncomputable def c0:Cf:={frz:=fun p=>!Nat.beq p.line 232}
def fn34:Fn:={pars:=[140],kd:=k34,body:=b34}
theorem fn34_is:fns 34=some fn34:=by kernel_rfl
def it34:E:=match b34 with | _ :: .forl _ _ it _ _ :: _=>it | _=>.cst .none ⟨0,0,0,0⟩
def bd34:List S:=match b34 with | _ :: .forl _ _ _ b _ :: _=>b | _=>[]
def yp34:Pos:=match b34 with | _ :: .forl _ p _ _ _ :: _=>p | _=>⟨0,0,0,0⟩
def fp34:Pos:=match b34 with | _ :: .forl _ _ _ _ p :: _=>p | _=>⟨0,0,0,0⟩
theorem b34_eq:b34=b34.take 1 ++ ([.forl 52 yp34 it34 bd34 fp34] ++ b34.drop 2):=rfl
section
variable (h0 h1 h2 h3 h4 h5 h6 h7 h8 h9 h10 h11:Option (Tg×List AV))(ts fs:List AV)
def stR (loc:List (Nat×AV))(H:HL):St:={kd:=k34,loc:=loc,cel:=[],H:=[h0,h1,h2,h3,h4,h5,h6,h7,h8,h9,h10,h11] ++ H,orc:=[],obl:=[]}
theorem r34_a:ev c0 50 (.sts (b34.take 1)) (stR h0 h1 h2 h3 h4 h5 h6 h7 h8 h9 h10 h11 [(140,tu ts)] [])=some (.nx,stR h0 h1 h2 h3 h4 h5 h6 h7 h8 h9 h10 h11 [(140,tu ts),(16,.ref 12)] [some (.lst,[])]):=by
 kernel_rfl
theorem r34_i (loc:List (Nat×AV))(fs:List AV):ev c0 60 (.ex it34) (stR h0 h1 h2 h3 h4 h5 h6 h7 h8 h9 h10 h11 ((140,tu ts) :: loc) [some (.lst,fs)])=some (.v (tu ts),stR h0 h1 h2 h3 h4 h5 h6 h7 h8 h9 h10 h11 ((140,tu ts) :: loc) [some (.lst,fs)]):=by
 kernel_rfl
theorem r34_n (s:AV)(o:Obj):ev c0 60 (.sts bd34) (stR h0 h1 h2 h3 h4 h5 h6 h7 h8 h9 h10 h11 [(140,tu ts),(16,.ref 12),(52,tu [.lit 32,s])] [some (.lst,[]),some (.obj o,[])])=some (.nx,stR h0 h1 h2 h3 h4 h5 h6 h7 h8 h9 h10 h11 [(140,tu ts),(16,.ref 12),(52,tu [.lit 32,s])] [some (.lst,[tu [.lit 86,s]]),some (.obj o,[])]):=by
 kernel_rfl
theorem r34_t (s:AV)(o:Obj):ev c0 60 (.sts bd34) (stR h0 h1 h2 h3 h4 h5 h6 h7 h8 h9 h10 h11 [(140,tu ts),(16,.ref 12),(52,txtA s)] [some (.lst,[]),some (.obj o,[])])=some (.nx,stR h0 h1 h2 h3 h4 h5 h6 h7 h8 h9 h10 h11 [(140,tu ts),(16,.ref 12),(52,txtA s)] [some (.lst,[tu [.lit 85,s]]),some (.obj o,[])]):=by
 kernel_rfl
theorem r34_r (t:AV):ev c0 50 (.sts (b34.drop 2)) (stR h0 h1 h2 h3 h4 h5 h6 h7 h8 h9 h10 h11 [(140,tu ts),(16,.ref 12),(52,t)] [some (.lst,fs)])=some (.rt (.ref 12),stR h0 h1 h2 h3 h4 h5 h6 h7 h8 h9 h10 h11 [(140,tu ts),(16,.ref 12),(52,t)] [some (.lst,fs)]):=by
 kernel_rfl
theorem r34_e:ev c0 50 (.sts (b34.drop 2)) (stR h0 h1 h2 h3 h4 h5 h6 h7 h8 h9 h10 h11 [(140,tu ts),(16,.ref 12)] [some (.lst,fs)])=some (.rt (.ref 12),stR h0 h1 h2 h3 h4 h5 h6 h7 h8 h9 h10 h11 [(140,tu ts),(16,.ref 12)] [some (.lst,fs)]):=by
 kernel_rfl
end
end
section
variable {prog:Program}{w:World}{K:Frag}
theorem fro_sim {s:AV}(h:(∃q,s=.str q)∨∃k,s=.lit k):Fro s:=by
 rcases h with ⟨_,rfl⟩ | ⟨_,rfl⟩
 ·exact .str
 ·exact .lit
theorem fro_2t {k:Nat}{s:AV}(h:Fro s):Fro (tu [.lit k,s]):=.nd (.cons .lit (.cons h .nil))
theorem row_con (J:Sound prog w K c0){L:Nat}(hL:L + 100 < 900):Con prog w K L 34 SProw (fun _ H=>H):=by
 refine Con.of (D:=100) fn34_is rfl hL fun as a σ hs=>?_
 obtain ⟨hl,hs⟩:=hs
 obtain ⟨kd,loc,cl,H,orc,obl⟩:=σ
 dsimp only at hl ⊢
 refine lenI hl ?_;intro h0 h1 h2 h3 h4 h5 h6 h7 h8 h9 h10 h11
 -- what the body does
 have key:∀ts out tl:List AV,tl.length≤1→FroL ts→FroL out→(∀t∈tl,Fro t)→(∀H':LowH 12 [h0,h1,h2,h3,h4,h5,h6,h7,h8,h9,h10,h11],
   Trip prog w K 100 [.forl 52 yp34 it34 bd34 fp34] (stR h0 h1 h2 h3 h4 h5 h6 h7 h8 h9 h10 h11 [(140,tu ts),(16,.ref 12)] [some (.lst,[])]) fun r=>r=(.nx,stR h0 h1 h2 h3 h4 h5 h6 h7 h8 h9 h10 h11 ([(140,tu ts),(16,.ref 12)] ++ tl.map fun t=>(52,t)) [some (.lst,out)]))→
   Trip prog w K 100 b34 (stR h0 h1 h2 h3 h4 h5 h6 h7 h8 h9 h10 h11 [(140,tu ts)] []) fun r=>∃σ',r=(.rt (li out),σ')∧σ'.H= [h0,h1,h2,h3,h4,h5,h6,h7,h8,h9,h10,h11]:=by
  intro ts out tl ltl fts fout ftl hloop
  refine Trip.given fun low=>?_
  have T:Trip prog w K 100 b34 (stR h0 h1 h2 h3 h4 h5 h6 h7 h8 h9 h10 h11 [(140,tu ts)] []) fun r=>∃l,r=(.rt (.ref 12),stR h0 h1 h2 h3 h4 h5 h6 h7 h8 h9 h10 h11 l [some (.lst,out)]):=by
   refine er b34_eq ?_
   refine Trip.app ((Trip.ev J (r34_a h0 h1 h2 h3 h4 h5 h6 h7 h8 h9 h10 h11 ts) .nil).mono (by decide) fun r hr=>hr) (fun σ' hr=>?_) (fun r hr q=>absurd (congrArg _ hr) q)
   replace hr:=(Prod.mk.inj hr).2
   subst hr
   refine Trip.app (hloop low) (fun σ' hr=>?_) (fun r hr q=>absurd (congrArg _ hr) q)
   replace hr:=(Prod.mk.inj hr).2
   subst hr
   match tl,ltl with
   | [],_=>exact (Trip.ev J (r34_e h0 h1 h2 h3 h4 h5 h6 h7 h8 h9 h10 h11 ts out) .nil).mono (by decide) fun r hr=>⟨_,hr⟩
   | [t],_=>exact (Trip.ev J (r34_r h0 h1 h2 h3 h4 h5 h6 h7 h8 h9 h10 h11 ts out t) .nil).mono (by decide) fun r hr=>⟨_,hr⟩
  exact (Trip.res (a:=li out) T fun r ⟨l,hr⟩=>(I33 _ _ ([some (.lst,out)]) hr rfl rfl (.ref rfl rfl fout.fz))).mono (Nat.le_refl _) fun r hr=>(I11 _ hr rfl)
 rcases hs with ⟨rfl,rfl⟩ | ⟨t,o,ht,rfl,rfl⟩
 ·refine ⟨rfl,Trip.nocel (Trip.orc [] [] (key [] [] [] (by simp) .nil .nil (fun _ m=>nomatch m) fun low=>?_))⟩
  refine (Trip.forl (J:=fun i σ=>σ=stR h0 h1 h2 h3 h4 h5 h6 h7 h8 h9 h10 h11 [(140,tu []),(16,.ref 12)] [some (.lst,[])]) (xs:=[]) (k:=1) (src_tup J (r34_i h0 h1 h2 h3 h4 h5 h6 h7 h8 h9 h10 h11 [] [(16,.ref 12)] []) .nil rfl) rfl (fun i σ h=>by refine er h ?_;rfl) (fun i σ os h _=>?_) fun i a σ os _ e=>by exact noS e).mono (by decide) fun r hr=>?_
  ·subst h
   have lw:LowH 13 ([h0,h1,h2,h3,h4,h5,h6,h7,h8,h9,h10,h11] ++ [some (.lst,[])]):=(low.more (by decide)).app (.one .nil)
   exact LowH.fzs (σ:=stR h0 h1 h2 h3 h4 h5 h6 h7 h8 h9 h10 h11 [(140,tu []),(16,.ref 12)] [some (.lst,[])]) lw os (.cons (.nd .nil) (.cons (.low rfl) .nil)) .nil
  ·refine X11 hr fun σ' q0 q1=>?_;subst q0;subst q1;rfl
 ·refine X11 ht fun s hs h=>?_
  have fs:=fro_sim hs
  have ft:Fro t:=by
   rcases h with ⟨rfl,_⟩ | ⟨rfl,_⟩
   ·exact fro_2t fs
   ·exact fro_2t fs
  have fo:Fro o:=by
   rcases h with ⟨_,rfl⟩ | ⟨_,rfl⟩ <;> exact fro_2t fs
  refine ⟨rfl,Trip.nocel (Trip.orc [] [] (key [t] [o] [t] (by simp) (.cons ft .nil) (.cons fo .nil) (fun _ m=>(List.mem_singleton.mp m).symm▸ft) fun low=>?_))⟩
  refine (Trip.forl (J:=fun i σ=>(i=0∧σ=stR h0 h1 h2 h3 h4 h5 h6 h7 h8 h9 h10 h11 [(140,tu [t]),(16,.ref 12)] [some (.lst,[])])∨(i=1∧σ=stR h0 h1 h2 h3 h4 h5 h6 h7 h8 h9 h10 h11 [(140,tu [t]),(16,.ref 12),(52,t)] [some (.lst,[o])])) (xs:=[t]) (k:=1)
   (src_tup J (r34_i h0 h1 h2 h3 h4 h5 h6 h7 h8 h9 h10 h11 [t] [(16,.ref 12)] []) .nil rfl) (.inl ⟨rfl,rfl⟩) (fun i σ h=>by rcases h with ⟨_,h⟩ | ⟨_,h⟩ <;> (rw [h];rfl)) (fun i σ os h _=>?_) fun i a σ os h e l=>?_).mono (by decide) fun r hr=>?_
  ·rcases h with ⟨_,h⟩ | ⟨_,h⟩
   ·subst h
    have lw:LowH 13 ([h0,h1,h2,h3,h4,h5,h6,h7,h8,h9,h10,h11] ++ [some (.lst,[])]):=(low.more (by decide)).app (.one .nil)
    exact LowH.fzs (σ:=stR h0 h1 h2 h3 h4 h5 h6 h7 h8 h9 h10 h11 [(140,tu [t]),(16,.ref 12)] [some (.lst,[])]) lw os (.cons (.nd (.cons ft.fz .nil)) (.cons (.low rfl) .nil)) .nil
   ·subst h
    have lw:LowH 13 ([h0,h1,h2,h3,h4,h5,h6,h7,h8,h9,h10,h11] ++ [some (.lst,[o])]):=(low.more (by decide)).app (.one (.cons fo.fz .nil))
    exact LowH.fzs (σ:=stR h0 h1 h2 h3 h4 h5 h6 h7 h8 h9 h10 h11 [(140,tu [t]),(16,.ref 12),(52,t)] [some (.lst,[o])]) lw os (.cons (.nd (.cons ft.fz .nil)) (.cons (.low rfl) (.cons ft.fz .nil))) .nil
  ·cases i with
   | succ i=>simp at e
   | zero=>
    simp only [List.getElem?_cons_zero,Option.some.injEq] at e
    subst e
    rcases h with ⟨_,h⟩ | ⟨h,_⟩
    ·subst h
     refine X1 (List.length_eq_one_iff.mp l) fun ob q0=>?_;subst q0
     have T:Trip prog w K 60 bd34 (stR h0 h1 h2 h3 h4 h5 h6 h7 h8 h9 h10 h11 [(140,tu [t]),(16,.ref 12),(52,t)] [some (.lst,[]),some (.obj ob,[])]) fun r=>r=(.nx,stR h0 h1 h2 h3 h4 h5 h6 h7 h8 h9 h10 h11 [(140,tu [t]),(16,.ref 12),(52,t)] [some (.lst,[o]),some (.obj ob,[])]):=by
      rcases h with ⟨e1,e2⟩ | ⟨e1,e2⟩
      ·refine er e2 ?_
       have:=(Trip.ev J (r34_n h0 h1 h2 h3 h4 h5 h6 h7 h8 h9 h10 h11 [t] s ob) .nil).mono (D':=60) (by decide) fun r hr=>hr
       rw [←e1] at this
       exact this
      ·refine er e2 ?_
       have:=(Trip.ev J (r34_t h0 h1 h2 h3 h4 h5 h6 h7 h8 h9 h10 h11 [t] s ob) .nil).mono (D':=60) (by decide) fun r hr=>hr
       rw [←e1] at this
       exact this
     exact T.mono (Nat.le_refl _) fun r hr=>(I12 (stR h0 h1 h2 h3 h4 h5 h6 h7 h8 h9 h10 h11 [(140,tu [t]),(16,.ref 12),(52,t)] [some (.lst,[o])]) hr (.inr ⟨rfl,rfl⟩) rfl)
    ·cases h
  ·refine X11 hr fun σ' q0 h=>?_;subst q0
   rcases h with ⟨h,_⟩ | ⟨_,rfl⟩
   ·cases h
   ·rfl
end
section
variable (h0 h1 h2 h3 h4 h5 h6 h7 h8 h9 h10 h11:Option (Tg×List AV))(cl:List (Nat×AV))(v c l:Str)(lb gs gf ga ln tx:AV)
def stG (go:AV)(orc:List AV):St:={kd:=k39,loc:=[(155,go)],cel:=cl,H:=[h0,h1,h2,h3,h4,h5,h6,h7,h8,h9,h10,h11],orc:=orc,obl:=[]}
abbrev hh (H:HL):HL:=[h0,h1,h2,h3,h4,h5,h6,h7,h8,h9,h10,h11] ++ H
noncomputable abbrev ls (xs:List AV):Option (Tg×List AV):=some (.lst,xs)
theorem go_none:seeR (ev c2 100 (.sts b39) (stG h0 h1 h2 h3 h4 h5 h6 h7 h8 h9 h10 h11 cl .none []))=some (.rt (li []),k39,hh h0 h1 h2 h3 h4 h5 h6 h7 h8 h9 h10 h11 [],[]):=by kernel_rfl
theorem go_lab:seeR (ev c2 100 (.sts b39) (stG h0 h1 h2 h3 h4 h5 h6 h7 h8 h9 h10 h11 cl (labT (.str l)) []))=some (.rt (rowL l),k39,hh h0 h1 h2 h3 h4 h5 h6 h7 h8 h9 h10 h11 [],[]):=by kernel_rfl
theorem go_ind:seeR (ev c2 100 (.sts b39) (stG h0 h1 h2 h3 h4 h5 h6 h7 h8 h9 h10 h11 cl (indT (.str l)) []))=some (.rt (.ref 12),k39,hh h0 h1 h2 h3 h4 h5 h6 h7 h8 h9 h10 h11 [ls [tu [.lit 85,.str l],tu [.lit 112]]],[]):=by kernel_rfl
theorem go_at:seeR (ev c2 100 (.sts b39) (stG h0 h1 h2 h3 h4 h5 h6 h7 h8 h9 h10 h11 cl (atT (.str l)) [li [tu [.lit 85,.str l]]]))=some (.rt (.ref 13),k39,hh h0 h1 h2 h3 h4 h5 h6 h7 h8 h9 h10 h11 [ls [tu [.lit 85,.str l],tu [.lit 93,.lit 181,.int 1,.bool false]],ls [tu [.lit 85,.str l],tu [.lit 93,.lit 181,.int 1,.bool false],tu [.lit 112]]],[(12:Nat)=12∧SPr [tu [txtA (.str l)]] (li [tu [.lit 85,.str l]])]):=by kernel_rfl
theorem go_z:seeR (ev c2 100 (.sts b39) (stG h0 h1 h2 h3 h4 h5 h6 h7 h8 h9 h10 h11 cl zT [li []]))=some (.rt (.ref 13),k39,hh h0 h1 h2 h3 h4 h5 h6 h7 h8 h9 h10 h11 [ls [tu [.lit 93,.lit 180,.int 0,.bool false]],ls [tu [.lit 93,.lit 180,.int 0,.bool false],tu [.lit 112]]],[(12:Nat)=12∧SPr [tu []] (li [])]):=by kernel_rfl
theorem go_cod:seeR (ev c2 100 (.sts b39) (stG h0 h1 h2 h3 h4 h5 h6 h7 h8 h9 h10 h11 cl (codT l) []))=some (.rt (.ref 12),k39,hh h0 h1 h2 h3 h4 h5 h6 h7 h8 h9 h10 h11 [ls [tu [.lit 86,.str l],tu [.lit 113]]],[]):=by kernel_rfl
def stB (form:Nat)(orc:List AV):St:={kd:=k38,loc:=[(121,.nd (.ins 6) [.nd (.idc stNs) (stF lb (subjF form c v) (patF form c) (isrF form) (repF form c v) gs gf ga ln tx)])],cel:=cl,H:=[h0,h1,h2,h3,h4,h5,h6,h7,h8,h9,h10,h11],orc:=orc,obl:=[]}
abbrev oRef:AV:=tu [.lit 87,.str v]
abbrev oVar:AV:=tu [.lit 86,.str v]
abbrev oPush:AV:=tu [.lit 85,.str c]
abbrev oCall:AV:=tu [.lit 93,.str c,.int 1,.bool false]
abbrev o0 (k:Nat):AV:=tu [.lit k]
abbrev oE:AV:=tu [.lit 85,.lit 8]
def stN (p_ i_ r_:AV):St:={kd:=k38,loc:=[(121,.nd (.ins 6) [.nd (.idc stNs) (stF lb .none p_ i_ r_ gs gf ga ln tx)])],cel:=cl,H:=[h0,h1,h2,h3,h4,h5,h6,h7,h8,h9,h10,h11],orc:=[],obl:=[]}
theorem bo_n (p_ i_ r_:AV):seeR (ev c2 100 (.sts b38) (stN h0 h1 h2 h3 h4 h5 h6 h7 h8 h9 h10 h11 cl lb gs gf ga ln tx p_ i_ r_))=some (.rt (li []),k38,hh h0 h1 h2 h3 h4 h5 h6 h7 h8 h9 h10 h11 [],[]):=by kernel_rfl
theorem bo_0:seeR (ev c2 100 (.sts b38) (stB h0 h1 h2 h3 h4 h5 h6 h7 h8 h9 h10 h11 cl v c lb gs gf ga ln tx 0 []))=some (.rt (.ref 15),k38,hh h0 h1 h2 h3 h4 h5 h6 h7 h8 h9 h10 h11 [ls [oVar v,oPush c],ls [oVar v,oPush c,o0 97],ls [oRef v,oVar v,oPush c,o0 97],ls [oRef v,oVar v,oPush c,o0 97,o0 103]],[]):=by kernel_rfl
theorem bo_1:seeR (ev c2 100 (.sts b38) (stB h0 h1 h2 h3 h4 h5 h6 h7 h8 h9 h10 h11 cl v c lb gs gf ga ln tx 1 []))=some (.rt (.ref 13),k38,hh h0 h1 h2 h3 h4 h5 h6 h7 h8 h9 h10 h11 [ls [oVar v,oPush c],ls [oVar v,oPush c,o0 102]],[]):=by kernel_rfl
theorem bo_2:seeR (ev c2 100 (.sts b38) (stB h0 h1 h2 h3 h4 h5 h6 h7 h8 h9 h10 h11 cl v c lb gs gf ga ln tx 2 []))=some (.rt (.ref 16),k38,hh h0 h1 h2 h3 h4 h5 h6 h7 h8 h9 h10 h11 [ls [oRef v,o0 109,o0 91],ls [oRef v,o0 109,o0 91,oPush c],ls [oRef v,o0 109,o0 91,oPush c,o0 102],ls [oRef v,o0 109,o0 91,oPush c,o0 102,oE],ls [oRef v,o0 109,o0 91,oPush c,o0 102,oE,o0 104]],[]):=by kernel_rfl
theorem bo_3:seeR (ev c2 100 (.sts b38) (stB h0 h1 h2 h3 h4 h5 h6 h7 h8 h9 h10 h11 cl v c lb gs gf ga ln tx 3 [li [oVar v]]))=some (.rt (.ref 15),k38,hh h0 h1 h2 h3 h4 h5 h6 h7 h8 h9 h10 h11 [ls [oVar v,oCall c],ls [tu [.lit 81,.int 5],oVar v,oCall c],ls [tu [.lit 81,.int 5],oVar v,oCall c,o0 107,o0 114,oE],ls [tu [.lit 81,.int 5],oVar v,oCall c,o0 107,o0 114,oE,o0 108]],[(12:Nat)=12∧SPr [tu [varT v]] (li [oVar v])]):=by kernel_rfl
theorem bo_4:seeR (ev c2 100 (.sts b38) (stB h0 h1 h2 h3 h4 h5 h6 h7 h8 h9 h10 h11 cl v c lb gs gf ga ln tx 4 [li [oVar v]]))=some (.rt (.ref 14),k38,hh h0 h1 h2 h3 h4 h5 h6 h7 h8 h9 h10 h11 [ls [oVar v,oCall c],ls [oRef v,oVar v,oCall c],ls [oRef v,oVar v,oCall c,o0 103]],[(12:Nat)=12∧SPr [tu [varT v]] (li [oVar v])]):=by kernel_rfl
end
def SPg (as:List AV)(a:AV):Prop:=(as= [.none]∧a=li [])∨∃lab cn W,as= [wayT lab cn W]∧a=wayRow lab cn W
def SPgo (as:List AV)(H:HL)(a:AV):Prop:=H.length=12∧SPg as a
def SPb (as:List AV)(a:AV):Prop:=∃(form:Nat) (v c:Str) (lb gs gf ga ln tx:AV),form≤4∧as= [.nd (.ins 6) [.nd (.idc stNs) (stF lb (subjF form c v) (patF form c) (isrF form) (repF form c v) gs gf ga ln tx)]]∧a=rowOf form v c
def SPbN (as:List AV)(a:AV):Prop:=∃lb p i r gs gf ga ln tx:AV,as= [.nd (.ins 6) [.nd (.idc stNs) (stF lb .none p i r gs gf ga ln tx)]]∧a=li []
def SPbo (as:List AV)(H:HL)(a:AV):Prop:=H.length=12∧(SPb as a∨SPbN as a)
section
variable {prog:Program}{w:World}{K:Frag}
def fn39:Fn:={pars:=[155],kd:=k39,body:=b39}
theorem fn39_is:fns 39=some fn39:=by kernel_rfl
def fn38:Fn:={pars:=[121],kd:=k38,body:=b38}
theorem fn38_is:fns 38=some fn38:=by kernel_rfl
theorem SPr_v {v:Str}:SPr [tu [varT v]] (li [oVar v]):=.inr (I22 (varT v) (oVar v) ⟨.str v,.inl ⟨v,rfl⟩,.inl ⟨rfl,rfl⟩⟩ rfl rfl)
theorem SPr_t {l:Str}:SPr [tu [txtA (.str l)]] (li [tu [.lit 85,.str l]]):=.inr (I22 (txtA (.str l)) (tu [.lit 85,.str l]) ⟨.str l,.inl ⟨l,rfl⟩,.inr ⟨rfl,rfl⟩⟩ rfl rfl)
theorem SPr_0:SPr [tu []] (li []):=.inl ⟨rfl,rfl⟩
theorem eq12 {P:Prop}(h:P):(12:Nat)=12∧P:=⟨rfl,h⟩
theorem f_l {k:Nat}{l:Str}:Fro (tu [.lit k,.str l]):=.nd (.cons .lit (.cons .str .nil))
theorem f_1 {k:Nat}:Fro (tu [.lit k]):=.nd (.cons .lit .nil)
theorem f_e:Fro oE:=.nd (.cons .lit (.cons .lit .nil))
theorem f_c {c:Str}:Fro (oCall c):=.nd (.cons .lit (.cons .str (.cons .int (.cons .bool .nil))))
theorem f_g:Fro (tu [.lit 81,.int 5]):=.nd (.cons .lit (.cons .int .nil))
theorem goto_con (J:SoundL prog w K c2 210){L:Nat}(hL:L + 310 < 900):Con prog w K L 39 SPgo (fun _ H=>H):=by
 refine Con.of (D:=310) fn39_is rfl hL fun as a σ hs=>?_
 obtain ⟨hl,hs⟩:=hs
 obtain ⟨kd,loc,cl,H,orc,obl⟩:=σ
 dsimp only at hl ⊢
 refine lenI hl ?_;intro h0 h1 h2 h3 h4 h5 h6 h7 h8 h9 h10 h11
 rcases hs with ⟨rfl,rfl⟩ | ⟨lab,cn,W,rfl,rfl⟩
 ·exact ⟨rfl,Trip.path J rfl (go_none h0 h1 h2 h3 h4 h5 h6 h7 h8 h9 h10 h11 cl) .nil [] rfl (.nd .nil)⟩
 ·refine ⟨rfl,?_⟩
  cases W with
  | lab g=>exact Trip.path J rfl (go_lab h0 h1 h2 h3 h4 h5 h6 h7 h8 h9 h10 h11 cl (lab g)) .nil [] rfl (.nd (.cons f_l.fz .nil))
  | ind g=>exact Trip.path J rfl (go_ind h0 h1 h2 h3 h4 h5 h6 h7 h8 h9 h10 h11 cl (lab g)) .nil _ rfl (.ref rfl rfl (.cons f_l.fz (.cons f_1.fz .nil)))
  | «at» g=>exact Trip.path J rfl (go_at h0 h1 h2 h3 h4 h5 h6 h7 h8 h9 h10 h11 cl (lab g)) (.cons (eq12 SPr_t) .nil) _ rfl (.ref rfl rfl (.cons f_l.fz (.cons (.nd (.cons .lit (.cons .lit (.cons .int (.cons .bool .nil))))) (.cons f_1.fz .nil))))
  | z=>exact Trip.path J rfl (go_z h0 h1 h2 h3 h4 h5 h6 h7 h8 h9 h10 h11 cl) (.cons (eq12 SPr_0) .nil) _ rfl (.ref rfl rfl (.cons (.nd (.cons .lit (.cons .lit (.cons .int (.cons .bool .nil))))) (.cons f_1.fz .nil)))
  | cod g=>exact Trip.path J rfl (go_cod h0 h1 h2 h3 h4 h5 h6 h7 h8 h9 h10 h11 cl (cn g)) .nil _ rfl (.ref rfl rfl (.cons f_l.fz (.cons f_1.fz .nil)))
theorem body_con (J:SoundL prog w K c2 210){L:Nat}(hL:L + 310 < 900):Con prog w K L 38 SPbo (fun _ H=>H):=by
 refine Con.of (D:=310) fn38_is rfl hL fun as a σ hs=>?_
 obtain ⟨hl,hs⟩:=hs
 obtain ⟨kd,loc,cl,H,orc,obl⟩:=σ
 dsimp only at hl ⊢
 refine lenI hl ?_;intro h0 h1 h2 h3 h4 h5 h6 h7 h8 h9 h10 h11
 rcases hs with ⟨form,v,c,lb,gs,gf,ga,ln,tx,hf,rfl,rfl⟩ | ⟨lb,p,i,r,gs,gf,ga,ln,tx,rfl,rfl⟩
 rotate_left
 ·exact ⟨rfl,Trip.path J rfl (bo_n h0 h1 h2 h3 h4 h5 h6 h7 h8 h9 h10 h11 cl lb gs gf ga ln tx p i r) .nil [] rfl (.nd .nil)⟩
 refine ⟨rfl,?_⟩
 match form,hf with
 | 0,_=>exact Trip.path J rfl (bo_0 h0 h1 h2 h3 h4 h5 h6 h7 h8 h9 h10 h11 cl v c lb gs gf ga ln tx) .nil _ rfl (.ref rfl rfl (.cons f_l.fz (.cons f_l.fz (.cons f_l.fz (.cons f_1.fz (.cons f_1.fz .nil))))))
 | 1,_=>exact Trip.path J rfl (bo_1 h0 h1 h2 h3 h4 h5 h6 h7 h8 h9 h10 h11 cl v c lb gs gf ga ln tx) .nil _ rfl (.ref rfl rfl (.cons f_l.fz (.cons f_l.fz (.cons f_1.fz .nil))))
 | 2,_=>exact Trip.path J rfl (bo_2 h0 h1 h2 h3 h4 h5 h6 h7 h8 h9 h10 h11 cl v c lb gs gf ga ln tx) .nil _ rfl (.ref rfl rfl (.cons f_l.fz (.cons f_1.fz (.cons f_1.fz (.cons f_l.fz (.cons f_1.fz (.cons f_e.fz (.cons f_1.fz .nil))))))))
 | 3,_=>exact Trip.path J rfl (bo_3 h0 h1 h2 h3 h4 h5 h6 h7 h8 h9 h10 h11 cl v c lb gs gf ga ln tx) (.cons (eq12 SPr_v) .nil) _ rfl (.ref rfl rfl (.cons f_g.fz (.cons f_l.fz (.cons f_c.fz (.cons f_1.fz (.cons f_1.fz (.cons f_e.fz (.cons f_1.fz .nil))))))))
 | 4,_=>exact Trip.path J rfl (bo_4 h0 h1 h2 h3 h4 h5 h6 h7 h8 h9 h10 h11 cl v c lb gs gf ga ln tx) (.cons (eq12 SPr_v) .nil) _ rfl (.ref rfl rfl (.cons f_l.fz (.cons f_l.fz (.cons f_c.fz (.cons f_1.fz .nil)))))
end
def c3:Cf:={frz:=fun _=>true,spc:=fun f=>Nat.beq f 38 || Nat.beq f 39,SP:=fun f=>match f with | 38=>SPbo | 39=>SPgo | _=>fun _ _ _=>False,lim:=580}
section
variable (h0 h1 h2 h3 h4 h5 h6 h7 h8 h9 h10 h11:Option (Tg×List AV))(cl:List (Nat×AV))(lb su pa is re gs gf ln tx w1 w2 b:AV)(gal:List AV)
def stC (ga:AV)(orc:List AV):St:={kd:=k40,loc:=[(121,.nd (.ins 6) [.nd (.idc stNs) (stF lb su pa is re gs gf ga ln tx)])],cel:=cl,H:=[h0,h1,h2,h3,h4,h5,h6,h7,h8,h9,h10,h11],orc:=orc,obl:=[]}
abbrev stV (ga:AV):AV:=.nd (.ins 6) [.nd (.idc stNs) (stF lb su pa is re gs gf ga ln tx)]
theorem cs_a:seeR (ev c3 100 (.sts b40) (stC h0 h1 h2 h3 h4 h5 h6 h7 h8 h9 h10 h11 cl lb su pa is re gs gf ln tx (tu gal) [w1,b])) =
  some (.rt (.ref 13),k40,hh h0 h1 h2 h3 h4 h5 h6 h7 h8 h9 h10 h11 [some (.idc [111,124,125,126,129],[lb,b,w1,w1,ln]),some (.ins 4,[.ref 12])],
   [(12:Nat)=12∧(SPb [stV lb su pa is re gs gf ln tx (tu gal)] b∨SPbN [stV lb su pa is re gs gf ln tx (tu gal)] b),(12:Nat)=12∧SPg [tu gal] w1]):=by kernel_rfl
theorem cs_b:seeR (ev c3 100 (.sts b40) (stC h0 h1 h2 h3 h4 h5 h6 h7 h8 h9 h10 h11 cl lb su pa is re gs gf ln tx .none [li [],w1,w2,b])) =
  some (.rt (.ref 13),k40,hh h0 h1 h2 h3 h4 h5 h6 h7 h8 h9 h10 h11 [some (.idc [111,124,125,126,129],[lb,b,w1,w2,ln]),some (.ins 4,[.ref 12])],
   [(12:Nat)=12∧(SPb [stV lb su pa is re gs gf ln tx .none] b∨SPbN [stV lb su pa is re gs gf ln tx .none] b),(12:Nat)=12∧SPg [gf] w2,(12:Nat)=12∧SPg [gs] w1,(12:Nat)=12∧SPg [.none] (li [])]):=by kernel_rfl
end
def SPcs (as:List AV)(H:HL)(a:AV):Prop:=H.length=12∧∃lb su pa is re gs gf ga ln tx b:AV,as= [stV lb su pa is re gs gf ln tx ga]∧Fro lb∧Fro ln∧Fro b∧(SPb as b∨SPbN as b)∧
 ((∃gal w,ga=tu gal∧SPg [tu gal] w∧Fro w∧a=stA4 lb b w w ln)∨(ga=.none∧∃w1 w2,SPg [gs] w1∧SPg [gf] w2∧Fro w1∧Fro w2∧a=stA4 lb b w1 w2 ln))
section
variable {prog:Program}{w:World}{K:Frag}
def fn40:Fn:={pars:=[121],kd:=k40,body:=b40}
theorem fn40_is:fns 40=some fn40:=by kernel_rfl
theorem comp_con (J:SoundL prog w K c3 320){L:Nat}(hL:L + 420 < 900):Con prog w K L 40 SPcs (fun _ H=>H):=by
 refine Con.of (D:=420) fn40_is rfl hL fun as a σ hs=>?_
 obtain ⟨hl,lb,su,pa,is,re,gs,gf,ga,ln,tx,b,rfl,flb,fln,fb,hb,hs⟩:=hs
 obtain ⟨kd,loc,cl,H,orc,obl⟩:=σ
 dsimp only at hl ⊢
 refine lenI hl ?_;intro h0 h1 h2 h3 h4 h5 h6 h7 h8 h9 h10 h11
 refine ⟨rfl,?_⟩
 rcases hs with ⟨gal,w,rfl,hw,fw,rfl⟩ | ⟨rfl,w1,w2,hw1,hw2,fw1,fw2,rfl⟩
 ·exact Trip.path J rfl (cs_a h0 h1 h2 h3 h4 h5 h6 h7 h8 h9 h10 h11 cl lb su pa is re gs gf ln tx w b gal) (.cons (eq12 hb) (.cons (eq12 hw) .nil)) _ rfl (.ref rfl rfl (.cons (.ref rfl rfl (.cons flb.fz (.cons fb.fz (.cons fw.fz (.cons fw.fz (.cons fln.fz .nil)))))) .nil))
 ·exact Trip.path J rfl (cs_b h0 h1 h2 h3 h4 h5 h6 h7 h8 h9 h10 h11 cl lb su pa is re gs gf ln tx w1 w2 b) (.cons (eq12 hb) (.cons (eq12 hw2) (.cons (eq12 hw1) (.cons (eq12 (.inl ⟨rfl,rfl⟩)) .nil)))) _ rfl (.ref rfl rfl (.cons (.ref rfl rfl (.cons flb.fz (.cons fb.fz (.cons fw1.fz (.cons fw2.fz (.cons fln.fz .nil)))))) .nil))
end
def compA (ns:List Str)(k:Nat)(r:Raw):AV:=stA4 (.str (labOf ns k)) (rowOf r.form r.v (ltS k)) (wayRow (labOf ns) cnS (r.dr ns.length).su) (wayRow (labOf ns) cnS (r.dr ns.length).fa) (.int k)
def lastA:AV:=stV (.lit 69) .none .none (.bool false) .none .none .none (.int 9) (.lit 8) .none
def lastC:AV:=stA4 (.lit 69) (li []) (li []) (li []) (.int 9)
theorem fro_rowOf {form:Nat}{v c:Str}:Fro (rowOf form v c):=by
 have fl:∀{k:Nat} {l:Str},Fro (tu [.lit k,.str l]):=.nd (.cons .lit (.cons .str .nil))
 unfold rowOf
 split
 ·exact .nd (.cons fl (.cons fl (.cons fl (.cons f_1 (.cons f_1 .nil)))))
 ·exact .nd (.cons fl (.cons fl (.cons f_1 .nil)))
 ·exact .nd (.cons fl (.cons f_1 (.cons f_1 (.cons fl (.cons f_1 (.cons f_e (.cons f_1 .nil)))))))
 ·exact .nd (.cons f_g (.cons fl (.cons f_c (.cons f_1 (.cons f_1 (.cons f_e (.cons f_1 .nil)))))))
 ·exact .nd (.cons fl (.cons fl (.cons f_c (.cons f_1 .nil))))
theorem fro_wayRow {lab cn:Nat→Str}{W:Way}:Fro (wayRow lab cn W):=by
 have fl:∀{k:Nat} {l:Str},Fro (tu [.lit k,.str l]):=.nd (.cons .lit (.cons .str .nil))
 cases W with
 | lab g=>exact .nd (.cons fl .nil)
 | ind g=>exact .nd (.cons fl (.cons f_1 .nil))
 | «at» g=>exact .nd (.cons fl (.cons (.nd (.cons .lit (.cons .lit (.cons .int (.cons .bool .nil))))) (.cons f_1 .nil)))
 | z=>exact .nd (.cons (.nd (.cons .lit (.cons .lit (.cons .int (.cons .bool .nil))))) (.cons f_1 .nil))
 | cod g=>exact .nd (.cons fl (.cons f_1 .nil))
theorem fro_stA4 {a b c d e:AV}(ha:Fro a)(hb:Fro b)(hc:Fro c)(hd:Fro d)(he:Fro e):Fro (stA4 a b c d e):=.nd (.cons (.nd (.cons ha (.cons hb (.cons hc (.cons hd (.cons he .nil)))))) .nil)
theorem fro_compA {ns:List Str}{k:Nat}{r:Raw}:Fro (compA ns k r):=fro_stA4 .str fro_rowOf fro_wayRow fro_wayRow .int
theorem fro_lastC:Fro lastC:=fro_stA4 .lit (.nd .nil) (.nd .nil) (.nd .nil) .int
theorem fro_lastA:Fro lastA:=.nd (.cons (.nd (fro_stF .lit .none .none .bool .none .none .none .none .int .lit)) .nil)
theorem SPg_w {lab cn:Nat→Str}{W:Way}:SPg [wayT lab cn W] (wayRow lab cn W):=.inr (I31 lab cn W rfl rfl)
theorem wayT_tu {lab cn:Nat→Str}{W:Way}:∃gal,wayT lab cn W=tu gal:=by
 cases W with
 | lab g=>exact ⟨_,rfl⟩
 | ind g=>exact ⟨_,rfl⟩
 | «at» g=>exact ⟨_,rfl⟩
 | z=>exact ⟨_,rfl⟩
 | cod g=>exact ⟨_,rfl⟩
theorem SPcs_st {ns:List Str}{k:Nat}{r:Raw}(hf:r.form≤4){H:HL}(hl:H.length=12):SPcs [stmtA ns k r] H (compA ns k r):=by
 obtain ⟨form,v,g1,f1,two⟩:=r
 refine ⟨hl,?_⟩
 cases two with
 | none=>
  refine (Ib5 _ _ _ _ _ _ _ _ _ _ (rowOf form v (ltS k)) rfl .str .int fro_rowOf (.inl ⟨form,v,ltS k,_,_,_,_,_,_,hf,rfl,rfl⟩) (.inl ?_))
  refine X1 (wayT_tu (lab:=labOf ns) (cn:=cnS) (W:=wayOf ns.length g1 f1)) fun gal e=>?_
  refine (I23 gal (wayRow (labOf ns) cnS (wayOf ns.length g1 f1)) e ?_ fro_wayRow rfl)
  refine re e ?_;exact SPg_w
 | some p=>
  exact (Ib5 _ _ _ _ _ _ _ _ _ _ (rowOf form v (ltS k)) rfl .str .int fro_rowOf (.inl ⟨form,v,ltS k,_,_,_,_,_,_,hf,rfl,rfl⟩) (.inr ⟨rfl,_,_,SPg_w,SPg_w,fro_wayRow,fro_wayRow,rfl⟩))
theorem SPcs_last {H:HL}(hl:H.length=12):SPcs [lastA] H lastC:=
 ⟨hl,_,_,_,_,_,_,_,_,_,_,li [],rfl,.lit,.int,.nd .nil,.inr ⟨_,_,_,_,_,_,_,_,_,rfl,rfl⟩,.inr (I0124 rfl (li []) (li []) (.inl ⟨rfl,rfl⟩) (.inl ⟨rfl,rfl⟩) (.nd .nil) (.nd .nil) rfl)⟩
inductive All2 (P:E→AV→Prop):List E→List AV→Prop
 | nil:All2 P [] []
 | cons {e:E} {b:AV} {es:List E} {bs:List AV} (h:P e b) (r:All2 P es bs):All2 P (e :: es) (b :: bs)
section
variable {prog:Program}{w:World}{K:Frag}{X:Value→Shared→Prop}{s:Shared}{Z:Heap}{ad:List Addr}{x:Fx}{σ:St}{h h':Heap}{sc y:Nat}{cl:List (Str×Addr)}{a b:AV}
theorem relab_look {env:Env}{k:NameKind}(hk:k≠.free):∀{names:List (Str×NameKind)} {x:Str},names.lookup x=some k→
  (names.map fun (n,k)=>if (k == NameKind.free && env.scope.kind == .function && env.kindOf n == some .cell) then (n,NameKind.cell) else (n,k)).lookup x=some k
 | [],x,h=>by simp at h
 | (n,q) :: r,x,h=>by
  have ih:= @relab_look env k hk r x
  show List.lookup x ((if (q == NameKind.free && env.scope.kind == .function && env.kindOf n == some .cell)=true then (n,NameKind.cell) else (n,q)) :: _)=_
  rw [List.lookup_cons] at h
  by_cases e:x == n
  ·rw [e] at h
   simp only [Option.some.injEq] at h
   subst h
   have:(q == NameKind.free)=false:=beq_eq_false_iff_ne.mpr hk
   refine er this ?_
   simp [List.lookup_cons,e]
  ·have e':(x == n)=false:=by simpa using e
   rw [e'] at h
   split
   ·refine er List.lookup_cons (er e' ?_);exact ih h
   ·refine er List.lookup_cons (er e' ?_);exact ih h
theorem relab_free {env:Env}(hk:env.scope.kind=.function):∀{names:List (Str×NameKind)} {x:Str},names.lookup x=some .free→env.kindOf x=some .cell→
  (names.map fun (n,k)=>if (k == NameKind.free && env.scope.kind == .function && env.kindOf n == some .cell) then (n,NameKind.cell) else (n,k)).lookup x=some .cell
 | [],x,h,_=>by simp at h
 | (n,q) :: r,x,h,hc=>by
  have ih:= @relab_free env hk r x
  show List.lookup x ((if (q == NameKind.free && env.scope.kind == .function && env.kindOf n == some .cell)=true then (n,NameKind.cell) else (n,q)) :: _)=_
  rw [List.lookup_cons] at h
  by_cases e:x == n
  ·rw [e] at h
   simp only [Option.some.injEq] at h
   subst h
   obtain rfl:=eq_of_beq e
   refine er hc (er hk ?_)
   simp
  ·have e':(x == n)=false:=by simpa using e
   rw [e'] at h
   split
   ·refine er List.lookup_cons (er e' ?_);exact ih h hc
   ·refine er List.lookup_cons (er e' ?_);exact ih h hc
theorem ns_again {oI oC:Obj}{ys:List AV}{I D C:Addr}{Z':Heap}{m:Str→Option Value}(hl:ad.length=σ.H.length)(S:Sit prog w K x (cmpSt σ oI ys oC) Z (ad ++ [I,D,C]) h)(S':Sit prog w K x (cmpSt σ oI ys oC) Z' (ad ++ [I,D,C]) h')(hn:h.Ns C m):h'.Ns C m:=by
 have q1:=S.obj_at (ad_at hl).2.2 cmp_at.2.2
 have q2:=S'.obj_at (ad_at hl).2.2 cmp_at.2.2
 refine X31 hn fun o es ep e1 e2=>?_
 rw [q1] at e1
 cases Option.some.inj e1
 exact (I31 _ es ep q2 e2)
theorem elt_cst {c:AV}{p:Pos}(hc:litC c=true):EltOk prog w K x σ (.cst c p) sc cl y a c:=by
 refine ⟨?_⟩
 intro Z ad s C I' D' oI oC ys m v Q X hl S hn hm hv k
 cases c with
 | none=>exact wpAny_Constant_none (k Z s.heap s.toks _ (Sub.refl _) S .none)
 | bool b=>exact wpAny_Constant_bool (k Z s.heap s.toks _ (Sub.refl _) S .bool)
 | int i=>exact wpAny_Constant_int (k Z s.heap _ _ (Sub.refl _) S .int)
 | lit i=>exact wpAny_Constant_str (k Z s.heap _ _ (Sub.refl _) S .lit)
 | _=>exact noB hc
theorem elt_loc (O:x.Ok){p:Pos}(hx:(csn sc).lookup (nm y)=some .local):EltOk prog w K x σ (.loc y p) sc cl y a a:=by
 refine ⟨?_⟩
 intro Z ad s C I' D' oI oC ys m v Q X hl S hn hm hv k
 exact wpAny_Name (wpAny_loadName_local rfl (lookup_relabel_local hx) hn hm (k Z s.heap s.toks _ (Sub.refl _) S hv)) nm_ne.1
theorem elt_cel (O:x.Ok){n r:Nat}{p:Pos}(hf:(csn sc).lookup (nm n)=some .free)(hk:isC σ.kd n=true)(e:lkA n σ.cel=some (.ref r))(e2:getH σ.H r=some (.cell,[b]))
  (hcl:∀c,x.env.cells.lookup (nm n)=some c→cl.lookup (nm n)=some c):EltOk prog w K x σ (.cel n p) sc cl y a b:=by
 refine ⟨?_⟩
 intro Z ad s C I' D' oI oC ys m v Q X hl S hn hm hv k
 refine X11 (S.cel n _ (show lkA n (cmpSt σ oI ys oC).cel=_ from e)) fun c h1 h2=>?_
 have e3:Mine.look (cmpSt σ oI ys oC).H (.ref r)=some (.cell,[b]):=by
  show getH (σ.H ++ _) r=_
  refine er getH_append (er (if_pos (getH_lt e2)) ?_);exact e2
 refine X22 (S.look h2 e3) fun p' vs hp ho hs=>?_
 cases hp
 refine X11 ho.cel fun u hu hv'=>?_
 subst hv'
 cases u with
 | none=>cases hs
 | some u=>
 cases hs with
 | cons q _=>
 have kc:x.env.kindOf (nm n)=some .cell:=S.kd _ _ (isC_kind hk)
 exact wpAny_Name (wpAny_loadName_cell rfl (relab_free O.hk hf kc) (hcl c h1) hu (k Z s.heap s.toks _ (Sub.refl _) S q)) nm_ne.1
theorem elt_cmp {op:CmpOp}{l r:E}{p:Pos}{b1 b2:AV}(h1:EltOk prog w K x σ l sc cl y a b1)(h2:EltOk prog w K x σ r sc cl y a b2)(hq:∀H,cmpV H op b1 b2=some b):EltOk prog w K x σ (.cmp op l r p) sc cl y a b:=by
 refine ⟨?_⟩
 intro Z ad s C I' D' oI oC ys m v Q X hl S hn hm hv k
 refine wpAny_Compare1 ?_ (marks_dec op r)
 refine h1.run hl S hn hm hv fun Z' h' tk v1 sub S' hv1=>?_
 refine h2.run (s:=⟨h',_,_,_,_⟩) hl S' (ns_again hl S S' hn) hm (hv.mono sub (Pre.refl _)) fun Z'' h'' tk' v2 sub' S'' hv2=>?_
 exact p_cmp (s:=⟨h'',_,_,_,_⟩) S'' (hv1.mono sub' (Pre.refl _)) hv2 (hq _) fun v tk hv=>k Z'' h'' tk v (sub.trans sub') S'' hv
theorem elt_bin {op:Operator}{l r:E}{p:Pos}{b1 b2:AV}(h1:EltOk prog w K x σ l sc cl y a b1)(h2:EltOk prog w K x σ r sc cl y a b2)(hq:binV op b1 b2=some b):EltOk prog w K x σ (.bin op l r p) sc cl y a b:=by
 refine ⟨?_⟩
 intro Z ad s C I' D' oI oC ys m v Q X hl S hn hm hv k
 refine wpAny_BinOp ?_
 refine h1.run hl S hn hm hv fun Z' h' tk v1 sub S' hv1=>?_
 refine h2.run (s:=⟨h',_,_,_,_⟩) hl S' (ns_again hl S S' hn) hm (hv.mono sub (Pre.refl _)) fun Z'' h'' tk' v2 sub' S'' hv2=>?_
 exact p_bin (s:=⟨h'',_,_,_,_⟩) (hv1.mono sub' (Pre.refl _)) hv2 hq fun v tk hv=>k Z'' h'' tk v (sub.trans sub') S'' hv
theorem elt_sub {l r:E}{p:Pos}{b1 b2:AV}(h1:EltOk prog w K x σ l sc cl y a b1)(h2:EltOk prog w K x σ r sc cl y a b2)(hq:∀H,subV H b1 b2=some b):EltOk prog w K x σ (.sub l r p) sc cl y a b:=by
 refine ⟨?_⟩
 intro Z ad s C I' D' oI oC ys m v Q X hl S hn hm hv k
 refine Subscript_ ?_
 refine h1.run hl S hn hm hv fun Z' h' tk v1 sub S' hv1=>?_
 refine h2.run (s:=⟨h',_,_,_,_⟩) hl S' (ns_again hl S S' hn) hm (hv.mono sub (Pre.refl _)) fun Z'' h'' tk' v2 sub' S'' hv2=>?_
 exact p_sub (s:=⟨h'',_,_,_,_⟩) S'' (hv1.mono sub' (Pre.refl _)) hv2 (hq _) fun v tk hv=>k Z'' h'' tk v (sub.trans sub') S'' hv
theorem elt_ife {op:CmpOp}{l r t e:E}{p q:Pos}{b1 b2:AV}{c:Bool}(h1:EltOk prog w K x σ l sc cl y a b1)(h2:EltOk prog w K x σ r sc cl y a b2)(hq:∀H,cmpV H op b1 b2=some (.bool c))(h3:EltOk prog w K x σ (if c then t else e) sc cl y a b):EltOk prog w K x σ (.ife (.cmp op l r p) t e q) sc cl y a b:=by
 refine ⟨?_⟩
 intro Z ad s C I' D' oI oC ys m v Q X hl S hn hm hv k
 refine wpAny_IfExp ?_
 refine wpAny_isTrue_Compare1 ?_ (marks_dec op r)
 refine h1.run hl S hn hm hv fun Z' h' tk v1 sub S' hv1=>?_
 refine h2.run (s:=⟨h',_,_,_,_⟩) hl S' (ns_again hl S S' hn) hm (hv.mono sub (Pre.refl _)) fun Z'' h'' tk' v2 sub' S'' hv2=>?_
 refine p_cmp (s:=⟨h'',_,_,_,_⟩) S'' (hv1.mono sub' (Pre.refl _)) hv2 (hq _) fun u tk hu=>?_
 cases val_bool hu
 refine wpAny_truthy_bool ?_
 have hn'':=ns_again hl S S'' hn
 have hv'':=hv.mono (sub.trans sub') (Pre.refl _)
 cases c with
 | true=>exact h3.run (s:=⟨h'',_,_,_,_⟩) hl S'' hn'' hm hv'' fun Z3 h3 tk3 v3 s3 S3 hv3=>k Z3 h3 tk3 v3 ((sub.trans sub').trans s3) S3 hv3
 | false=>exact h3.run (s:=⟨h'',_,_,_,_⟩) hl S'' hn'' hm hv'' fun Z3 h3 tk3 v3 s3 S3 hv3=>k Z3 h3 tk3 v3 ((sub.trans sub').trans s3) S3 hv3
theorem elt_args:∀{es:List E} {bs:List AV},All2 (fun e b=>EltOk prog w K x σ e sc cl y a b) es bs→∀{Z:Heap} {ad:List Addr} {s:Shared} {C I' D':Addr} {oI oC:Obj} {ys:List AV} {m:Str→Option Value} {v:Value} {p:Pos} {Q:List Value→Shared→Prop} {X:Value→Shared→Prop},ad.length=σ.H.length→
  Sit prog w K x (cmpSt σ oI ys oC) Z (ad ++ [I',D',C]) s.heap→s.heap.Ns C m→m (nm y)=some v→Val prog w Z (ad ++ [I',D',C]) a v→
  (∀Z' h' tk r,Sub Z Z'→Sit prog w K x (cmpSt σ oI ys oC) Z' (ad ++ [I',D',C]) h'→Vals prog w Z' (ad ++ [I',D',C]) bs r→Q r ⟨h',s.gens,s.drawn,tk,s.os⟩)→
  wpAny (model prog w) x.A (spliced (backTo p (starEach (decs es) (compEnvC (csc sc) cl C x.env)))) Q X s:=by
 intro es bs h
 induction h with
 | nil=>
  intro Z ad s C I' D' oI oC ys m v p Q X hl S hn hm hv k
  exact spliced_nil (k Z s.heap s.toks _ (Sub.refl _) S .nil)
 | cons h1 _ ih=>
  intro Z ad s C I' D' oI oC ys m v p Q X hl S hn hm hv k
  rw [star_cons]
  refine spliced_cons ?_
  refine h1.run hl S hn hm hv fun Z' h' tk v1 sub S' hv1=>?_
  exact ih (p:=p) (s:=⟨h',_,_,_,_⟩) hl S' (ns_again hl S S' hn) hm (hv.mono sub (Pre.refl _)) fun Z'' h'' tk' vs sub' S'' hvs=>k Z'' h'' tk' _ (sub.trans sub') S'' (.cons (hv1.mono sub' (Pre.refl _)) hvs)
theorem elt_glb (O:x.Ok){C:Addr}{n:Nat}{p:Pos}{u:Value}{M:Model}{Q:Value→Shared→Prop}(S:Sit prog w K x σ Z ad s.heap)(hf:(csn sc).lookup (nm n)=some .globalImplicit)(e:nsIn K mainGlobals (nm n)=some (some u))(h:Q u s) :
  wpAny M x.A (eval (.Name (nm n) p) (compEnvC (csc sc) cl C x.env)) Q X s:=by
 refine X1 S.stat.glo fun mg hg=>?_
 exact Name_function_global rfl (relab_look (by decide) hf) (loadGlobal_global (env:=compEnvC (csc sc) cl C x.env) (by show s.heap.Ns x.env.globals _;refine er O.glo ?_;exact hg.keeps S.hs.zsub) (mg_of S.stat.kin hg e) h) nm_ne.1
theorem elt_blt (O:x.Ok)(G:Good K){C:Addr}{b:Bi}{p:Pos}{M:Model}{Q:Value→Shared→Prop}(S:Sit prog w K x σ Z ad s.heap)(hf:(csn sc).lookup (nm (bnm b))=some .globalImplicit)(h:Q (bval b) s) :
  wpAny M x.A (eval (.Name (nm (bnm b)) p) (compEnvC (csc sc) cl C x.env)) Q X s:=by
 refine X1 S.stat.glo fun mg hg=>?_
 refine X11 S.stat.blt fun mb hb hbb=>?_
 refine X01 (bboot b) fun b1 b2=>?_
 exact Name_function_global rfl (relab_look (by decide) hf) (loadGlobal_builtin (env:=compEnvC (csc sc) cl C x.env) (by show s.heap.Ns x.env.globals _;refine er O.glo ?_;exact hg.keeps S.hs.zsub) (ns_none_of S.stat.kin hg (G.gbl b)) (by show s.heap.Ns x.env.builtins _;refine er O.blt ?_;exact hb.keeps S.hs.zsub) ((hbb _ b2).trans b1) h) nm_ne.1
theorem elt_calb (O:x.Ok)(G:Good K){bi:Bi}{es:List E}{bs:List AV}{fp p:Pos}(hf:(csn sc).lookup (nm (bnm bi))=some .globalImplicit)(hr:rngOf bi es=none)(ha:All2 (fun e b=>EltOk prog w K x σ e sc cl y a b) es bs)(hq:∀H,calB H bi bs=some b) :
  EltOk prog w K x σ (.calb bi fp es p) sc cl y a b:=by
 refine ⟨?_⟩
 intro Z ad s C I' D' oI oC ys m v Q X hl S hn hm hv k
 refine wpAny_Call_NameR (elt_blt O G S hf (callB (by cases bi <;> first | exact .inl ⟨_,rfl⟩ | exact .inr ⟨_,rfl⟩) ?_))
 refine elt_args ha hl S hn hm hv fun Z' h' tk vs sub S' hvs=>?_
 exact p_calb (s:=⟨h',_,_,_,_⟩) G.kf S' hvs (hq _) fun v tk hv=>k Z' h' tk v sub S' hv
end
section
variable {prog:Program}{w:World}{K:Frag}{X:Value→Shared→Prop}{s:Shared}{Z:Heap}{ad:List Addr}{x:Fx}{σ:St}{h h':Heap}{sc y:Nat}{cl:List (Str×Addr)}{a b:AV}
theorem elt_calf (O:x.Ok)(G:Good K){L f:Nat}{SP:List AV→HL→AV→Prop}(B:x.A.depth < L)(Cn:Con prog w K L f SP fun _ H=>H){es:List E}{bs:List AV}{fp p:Pos}(hf:(csn sc).lookup (nm (fnm f))=some .globalImplicit)(ht:topF f=true)
  (ha:All2 (fun e b=>EltOk prog w K x σ e sc cl y a b) es bs) (hsp:∀H:HL,H.length=σ.H.length + 3→SP bs H b):EltOk prog w K x σ (.calf f fp es p) sc cl y a b:=by
 refine ⟨?_⟩
 intro Z ad s C I' D' oI oC ys m v Q X hl S hn hm hv k
 refine X01 (topF_mem ht) fun hm' hff=>?_
 refine wpAny_Call_NameR (elt_glb O S hf (G.gfn f hm') (callK (G.kfn f hm') ?_))
 refine elt_args ha hl S hn hm hv fun Z' h' tk vs sub S' hvs=>?_
 refine ⟨S'.stat.kin.keeps S'.hs.zsub,wpAny_call (Cn.call (s:=⟨h',_,_,_,_⟩) O O.hA O.hh B (hsp _ (by unfold cmpSt;exact List.length_append)) S' hvs (fnK' (s:=⟨h',s.gens,s.drawn,tk,s.os⟩) G S' hff) ?_)⟩
 intro Z'' ad'' h'' tk'' sub'' pr'' S'' u hu
 have ea:ad''=ad ++ [I',D',C]:=pre_eq pr'' (S''.hs.len.trans S'.hs.len.symm)
 subst ea
 exact k Z'' h'' tk'' u (sub.trans sub'') S'' hu
theorem Sit.setLocZ {m m':Str→Option Value}{n:Nat}{v:Value}(S:Sit prog w K x σ Z ad h)(hn:h.Ns x.env.locals m)(hl:∀n a,lkA n σ.loc=some a→∃v,m (nm n)=some v∧Val prog w Z ad a v)
  (hm:h'.Ns x.env.locals m') (sb:Heap.SameBut x.env.locals h h') (e:∀y,m' y=if y=nm n then some v else m y) (hv:Val prog w Z ad a v):Sit prog w K x {σ with loc:=stA n a σ.loc} Z ad h':=by
 have S0:Sit prog w K x {σ with loc:=[]} Z ad h:=⟨S.kd,S.stat,S.hs,(I11 m hn (fun _ _ e=>nomatch e)),S.cel⟩
 have S1:=S0.relocal hn hm sb (fun _ _ e=>nomatch e)
 refine ⟨S1.kd,S1.stat,S1.hs,(I11 m' hm (fun k b q=>?_)),S1.cel⟩
 rw [lkA_stA] at q
 rw [e]
 by_cases hk:k=n
 ·rw [if_pos hk] at q
  cases Option.some.inj q
  exact (I11 v ((if_pos (by exact er hk rfl))) hv)
 ·rw [if_neg hk] at q
  refine X11 (hl k b q) fun u q1 q2=>?_
  exact (I11 u ((if_neg (fun z=>hk (nm_inj z))).symm▸q1) q2)
theorem Trip.comp {D t sc y:Nat}{tp yp p q:Pos}{elt it:E}{xs ys:List AV}(src:Src prog w K D it σ xs 1)(low:∀os,FzS σ.H.length (σ.with os) σ)(hcell:∀q∈csn sc,q.2≠.cell)(hnames:∀q∈csn sc,q.2=.local→(csn sc).lookup q.1=some .local)
  (hx:(csn sc).lookup (nm y)=some .local) (hlen:xs.length≤5000) (hy:ys.length=xs.length) (ht:isL σ.kd t=true) (hg:FroL ys) (hline:tp.line=p.line) (hno:((csn sc).any fun (n,k)=>n == nm t && (k == .local || k == .cell))=false)
  (hclos:∀{x:Fx} {Z:Heap} {ad:List Addr} {s:Shared},x.Ok→x.A.depth + D < 900→Sit prog w K x σ Z ad s.heap→∃cl,closureFor (csc sc) x.env=pure cl∧∀(i:Nat) a b,xs[i]? =some a→ys[i]? =some b→EltOk prog w K x σ elt sc cl y a b) :
  Trip prog w K D [.asg t tp (.cmpr elt y yp it sc p) q] σ fun r=>r=(.nx,{σ with loc:=stA t (.ref σ.H.length) σ.loc,H:=σ.H ++ [some (.lst,ys)]}):=by
 refine ⟨?_⟩
 intro x Z ad s Q X O B S k
 have hl:=S.hs.len
 have kt:=S.kd _ _ (isL_kind ht)
 refine wpAny_execs_cons ?_
 refine er (show decS (.asg t tp (.cmpr elt y yp it sc p) q)=.Assign [.Name (nm t) tp] (dec (.cmpr elt y yp it sc p)) q from rfl) ?_
 refine er (show dec (.cmpr elt y yp it sc p)=.ListComp (dec elt) [⟨.Name (nm y) yp,dec it,[],0⟩] (csc sc) p from rfl) ?_
 have hsw:swapsWith (.ListComp (dec elt) [⟨.Name (nm y) yp,dec it,[],0⟩] (csc sc) p) (some (.Name (nm t) tp)) q.line x.env=pure true:=by
  show (pure (x.env.blockKind == .function && x.env.kindOf (nm t) == some .local && tp.line == p.line && !((csn sc).any fun (n,k)=>n == nm t && (k == .local || k == .cell))):Sem Bool)=pure true
  have hb:x.env.blockKind=.function:=by unfold Env.blockKind;refine er O.hk ?_;split <;> rfl
  refine er hb (er kt (er hline (er hno ?_)))
  simp
 refine er (exec_Assign_Name_used _ _ _ _ hsw) ?_
 refine wpAny_bind (wpAny_standAt (wpAny_bind ?_))
 refine X11 (hclos O B S) fun cl hc he=>?_
 refine wpAny_bind (wpAny_mono (comp_core (use:=some (assign (.Name (nm t) tp) x.env)) (Q:=fun _ s'=>wpAny (model prog w) x.A (execs (decSs []) x.env) Q X s') O B S src low hc hcell hnames hx hlen hy he hg fun f Z₂ h₃ tk₃ D C m sub hn nC zC S₃=>?_) (fun _ s' hq=>wpAny_pure (wpAny_pure ?_)) fun _ _ e=>e)
 ·show wpAny _ _ (assign (.Name (nm t) tp) x.env (.ref D)) _ _ _
  refine X11 S₃.loc fun mL hnL hlL=>?_
  refine wpAny_assign_Name (wpAny_storeName_local kt hnL (fun h₄ hn₄ sb₄=>?_) (by refine er O.hk ?_;rfl))
  dsimp only at hn₄ sb₄ ⊢
  have hv:Val prog w Z₂ (ad ++ [D]) (.ref σ.H.length) (.ref D):=.ref (by rw [List.getElem?_append_right (Nat.le_of_eq (by assumption)),hl,Nat.sub_self];rfl)
  have S₄:=S₃.setLocZ (n:=t) hnL hlL hn₄ sb₄ (fun _=>rfl) hv
  have hCL:C≠x.env.locals:=fun q=>nC (q▸.head _)
  refine (I11 m (hn.sameBut sb₄ hCL) (fun h₅ sb₅=>?_))
  have S₅:=S₄.off nC zC fun b o hb q=>(sb₅.2 b hb).trans q
  refine wpAny_execs_nil (k _ rfl Z₂ _ h₅ _ sub ⟨_,rfl⟩ S₅)
 ·exact hq
end
noncomputable def polP:List (Nat×Nat×Nat):=[(302,11,26),(302,58,81),(303,12,34)]
def c4:Cf:={pol:=inPol polP}
def bd41:List S:=match b41 with | _ :: _ :: .forp _ _ _ _ _ _ _ b _ :: _=>b | _=>[]
def cm41:List S:=b41.take 1
theorem b41_eq:b41=cm41 ++ ((b41.drop 1).take 1 ++ ((b41.drop 2).take 1 ++ b41.drop 3)):=rfl
section
variable (h0 h1 h2 h3 h4 h5 h6 h7 h8:Option (Tg×List AV))(num:Int)(l:Str)(k:Nat)(bo su fa ln:AV)(sts cos vs:List AV)(ks:List Str)
def stP (loc:List (Nat×AV))(H:HL)(orc:List AV)(obl:List Prop):St:={kd:=k41,loc:=loc,cel:=[],H:=h0 :: h1 :: h2 :: h3 :: h4 :: h5 :: h6 :: h7 :: h8 :: H,orc:=orc,obl:=obl}
abbrev lcP (num:Int)(sts cos:List AV):List (Nat×AV):=[(123,li sts),(2,.int num),(164,li cos)]
theorem p41_d:ev c4 60 (.sts ((b41.drop 1).take 1)) (stP h0 h1 h2 h3 h4 h5 h6 h7 h8 (lcP num sts cos) [] [] [])=some (.nx,stP h0 h1 h2 h3 h4 h5 h6 h7 h8 (lcP num sts cos ++ [(27,.ref 9)]) [some (.dct [],[])] [] []):=by kernel_rfl
theorem p41_s (i:Int)(H:HL):ev c4 60 (.sts bd41) (stP h0 h1 h2 h3 h4 h5 h6 h7 h8 (lcP num sts cos ++ [(27,.ref 9),(64,.int i),(165,stA4 (.str l) bo su fa ln)]) (some (.dct ks,vs) :: H) [.bool true,.bool true] []) =
  some (.nx,stP h0 h1 h2 h3 h4 h5 h6 h7 h8 (lcP num sts cos ++ [(27,.ref 9),(64,.int i),(165,stA4 (.str l) bo su fa ln)]) (some (.dct (dput ks vs l (.int i)).1,(dput ks vs l (.int i)).2) :: H) [] [ks.length≤500,some (AV.bool (!(dget ks vs l).isSome))=some (.bool true),cmpV [] .NotEq (.str l) (.lit 8)=some (.bool true)]):=by kernel_rfl
theorem p41_l (i:Int)(H:HL):ev c4 60 (.sts bd41) (stP h0 h1 h2 h3 h4 h5 h6 h7 h8 (lcP num sts cos ++ [(27,.ref 9),(64,.int i),(165,stA4 (.lit k) bo su fa ln)]) (some (.dct ks,vs) :: H) [.bool true,.bool true] []) =
  some (.nx,stP h0 h1 h2 h3 h4 h5 h6 h7 h8 (lcP num sts cos ++ [(27,.ref 9),(64,.int i),(165,stA4 (.lit k) bo su fa ln)]) (some (.dct (dput ks vs (nm k) (.int i)).1,(dput ks vs (nm k) (.int i)).2) :: H) [] [ks.length≤500,some (AV.bool (!(dget ks vs (nm k)).isSome))=some (.bool true),cmpV [] .NotEq (.lit k) (.lit 8)=some (.bool true)]):=by kernel_rfl
theorem p41_r (tl:List (Nat×AV)):ev c4 60 (.sts (b41.drop 3)) (stP h0 h1 h2 h3 h4 h5 h6 h7 h8 (lcP num sts cos ++ (27,.ref 9) :: tl) [some (.dct ks,vs)] [] []) =
  some (.rt (.ref 11),stP h0 h1 h2 h3 h4 h5 h6 h7 h8 (lcP num sts cos ++ (27,.ref 9) :: tl) [some (.dct ks,vs),some (.idc [2,123,27],[.int num,li cos,.ref 9]),some (.ins 5,[.ref 10])] [] []):=by kernel_rfl
theorem p41_i:ev c4 60 (.ex (.loc 123 (pz 299 58 68))) (stP h0 h1 h2 h3 h4 h5 h6 h7 h8 [(123,li sts),(2,.int num)] [] [] [])=some (.v (li sts),stP h0 h1 h2 h3 h4 h5 h6 h7 h8 [(123,li sts),(2,.int num)] [] [] []):=by kernel_rfl
theorem p41_e (H:HL):ev c4 60 (.ex (.loc 164 (pz 301 29 33))) (stP h0 h1 h2 h3 h4 h5 h6 h7 h8 (lcP num sts cos ++ [(27,.ref 9)]) H [] [])=some (.v (li cos),stP h0 h1 h2 h3 h4 h5 h6 h7 h8 (lcP num sts cos ++ [(27,.ref 9)]) H [] []):=by kernel_rfl
end
theorem csn299:(csn 299).lookup (nm 121)=some .local∧(csn 299).lookup (nm 158)=some .globalImplicit:=by decide +kernel
theorem fnm40:fnm 40=158:=by kernel_rfl
theorem cs299_cell:∀q∈csn 299,q.2≠.cell:=by decide +kernel
theorem cs299_names:∀q∈csn 299,q.2=.local→(csn 299).lookup q.1=some .local:=by decide +kernel
theorem cs299_no:((csn 299).any fun (n,k)=>n == nm 164 && (k == .local || k == .cell))=false:=by decide +kernel
theorem cs299_clos (env:Env):closureFor (csc 299) env=pure []:=by rfl
structure Ent where
 st:AV
 co:AV
 l:Str
structure EntOk (e:Ent):Prop where
 sp:∀H:HL,H.length=12→SPcs [e.st] H e.co
 fst:Fro e.st
 fco:Fro e.co
 lb:∃lb bo su fa ln,e.co=stA4 lb bo su fa ln∧(lb=.str e.l∨∃k,lb=.lit k∧nm k=e.l)
 ne:e.l≠nm 8
noncomputable def upI (n:Nat):List AV:=(List.range n).map fun i=>.int (Int.ofNat i)
def SPq (as:List AV)(a:AV):Prop:=∃(L:List Ent) (num:Int),as= [li (L.map Ent.st),.int num]∧L.length≤100∧(∀e∈L,EntOk e)∧(L.map Ent.l).Nodup∧a=unitA (.int num) (L.map Ent.co) (L.map Ent.l) (upI L.length)
def SPcp (as:List AV)(H:HL)(a:AV):Prop:=H.length=9∧SPq as a
theorem upI_succ {n:Nat}:upI (n + 1)=upI n ++ [.int (Int.ofNat n)]:=by unfold upI;refine er List.range_succ (er List.map_append ?_);rfl
theorem upI_len {n:Nat}:(upI n).length=n:=by unfold upI;simp
theorem fro_upI {n:Nat}:FroL (upI n):=FroL.of fun x m=>by
 refine X11 (List.mem_map.mp m) fun i _ q0=>?_;subst q0
 exact .int
theorem dget_none:∀{ks:List Str} {vs:List AV} {s:Str},s ∉ ks→dget ks vs s=none
 | [],_,_,_=>by unfold dget;rfl
 | k :: ks,[],_,_=>by unfold dget;rfl
 | k :: ks,v :: vs,s,h=>by
  unfold dget
  refine er (if_neg fun q=>h (by rw [q];exact .head _)) ?_
  exact dget_none fun m=>h (.tail _ m)
theorem dput_new:∀{ks:List Str} {vs:List AV} {s:Str} {v:AV},ks.length=vs.length→s ∉ ks→dput ks vs s v=(ks ++ [s],vs ++ [v])
 | [],[],_,_,_,_=>rfl
 | k :: ks,v' :: vs,s,v,hl,h=>by
  unfold dput
  refine er (if_neg fun q=>h (by rw [q];exact .head _)) (er (dput_new (Nat.succ.inj hl) fun m=>h (.tail _ m)) ?_)
  rfl
theorem FroL.map {α:Type}{L:List α}{f:α→AV}(h:∀e∈L,Fro (f e)):FroL (L.map f):=FroL.of fun x m=>by
 refine X11 (List.mem_map.mp m) fun e me q0=>?_;subst q0
 exact h e me
section
variable {prog:Program}{w:World}{K:Frag}
theorem Src.mono {D D':Nat}{it:E}{σ:St}{xs:List AV}{n:Nat}(h:Src prog w K D it σ xs n)(hD:D≤D'):Src prog w K D' it σ xs n:=by
 intro x Z ad s Q X O B S k
 exact h O (Nat.lt_of_le_of_lt (Nat.add_le_add_left (by assumption) _) (by assumption)) S k
theorem RF.clean {x:Fx}{Z:Heap}{ad:List Addr}{s:Shared}{Q:Flow→Shared→Prop}{X:Value→Shared→Prop}{o:Out}{σ:St}{a:List AV}{b:List Prop}(h:RF prog w K x Z ad s (o,{σ with orc:=a,obl:=b}) Q X):RF prog w K x Z ad s (o,σ) Q X:=by
 cases o with
 | nx=>exact fun Z' ad' h' tk sub pr S'=>h Z' ad' h' tk sub pr (S'.orc a b)
 | rt v=>exact fun Z' ad' h' tk sub pr S'=>h Z' ad' h' tk sub pr (S'.orc a b)
 | ex i=>exact fun Z' ad' h' tk sub pr S'=>h Z' ad' h' tk sub pr (S'.orc a b)
 | _=>exact h.elim
theorem Trip.clean {D:Nat}{ss:List S}{σ:St}{P P':Out×St→Prop}(h:Trip prog w K D ss σ P)(hP:∀r,P r→P' (r.1,{r.2 with orc:=[],obl:=[]})):Trip prog w K D ss σ P':=
 ⟨fun O B S k=>h.run O B S fun r hr=>RF.clean (k _ (hP r hr))⟩
def fn41:Fn:={pars:=[123,2],kd:=k41,body:=b41}
theorem fn41_is:fns 41=some fn41:=by kernel_rfl
set_option maxHeartbeats 1000000 in
theorem prog_con (G:Good K)(J0:Sound prog w K c0)(J4:Sound prog w K c4){Lc:Nat}(Cc:Con prog w K Lc 40 SPcs fun _ H=>H){D:Nat}(hD:900≤D + Lc)(hD60:60≤D){L:Nat}(hL:L + D < 900):Con prog w K L 41 SPcp (fun _ H=>H):=by
 refine Con.of (D:=D) fn41_is rfl hL fun as a σ hs=>?_
 refine X011 hs fun hl Es q0=>?_;refine X14 q0 fun num q1 le ok nd q2=>?_;subst q1;subst q2
 obtain ⟨kd,loc,cl,H,orc,obl⟩:=σ
 dsimp only at hl ⊢
 refine lenI hl ?_;intro h0 h1 h2 h3 h4 h5 h6 h7 h8
 refine ⟨rfl,Trip.nocel (Trip.orc [] [] ?_)⟩
 have fs:FroL (Es.map Ent.st):=FroL.map fun e m=>(ok e m).fst
 have fc:FroL (Es.map Ent.co):=FroL.map fun e m=>(ok e m).fco
 refine Trip.given fun low=>?_
 replace low:LowH 9 [h0,h1,h2,h3,h4,h5,h6,h7,h8]:=low
 have T:Trip prog w K D b41 (stP h0 h1 h2 h3 h4 h5 h6 h7 h8 [(123,li (Es.map Ent.st)),(2,.int num)] [] [] []) fun r=>∃tl,r=(.rt (.ref 11),stP h0 h1 h2 h3 h4 h5 h6 h7 h8 (lcP num (Es.map Ent.st) (Es.map Ent.co) ++ (27,.ref 9) :: tl) [some (.dct (Es.map Ent.l),upI Es.length),some (.idc [2,123,27],[.int num,li (Es.map Ent.co),.ref 9]),some (.ins 5,[.ref 10])] [] []):=by
  refine er b41_eq ?_
  refine Trip.app (P:=fun r=>r=(.nx,stP h0 h1 h2 h3 h4 h5 h6 h7 h8 (lcP num (Es.map Ent.st) (Es.map Ent.co)) [] [] [])) ?_ (fun σ' hr=>?_) fun r hr q=>absurd (congrArg _ hr) q
  ·refine Trip.fz (P:=fun r=>r=(.nx,{stP h0 h1 h2 h3 h4 h5 h6 h7 h8 [(123,li (Es.map Ent.st)),(2,.int num)] [] [] [] with loc:=stA 164 (.ref 9) [(123,li (Es.map Ent.st)),(2,.int num)],H:=[h0,h1,h2,h3,h4,h5,h6,h7,h8] ++ [some (.lst,Es.map Ent.co)]})) ?_ fun r hr=>?_
   ·refine Trip.comp (xs:=Es.map Ent.st) (ys:=Es.map Ent.co) ?_ (fun os=>LowH.fzs (σ:=stP h0 h1 h2 h3 h4 h5 h6 h7 h8 [(123,li (Es.map Ent.st)),(2,.int num)] [] [] []) low os (.cons (.nd fs.fz) (.cons .int .nil)) .nil) cs299_cell cs299_names csn299.1 (by rw [List.length_map];exact Nat.le_trans (by assumption) (by decide)) (by rw [List.length_map,List.length_map]) rfl fc (by rfl) cs299_no ?_
    ·exact Src.mono (src_list J4 (p41_i h0 h1 h2 h3 h4 h5 h6 h7 h8 num (Es.map Ent.st)) .nil (by rfl)) hD60
    ·intro x Z ad s O B S
     refine (I11 ([]) (cs299_clos _) (fun i a b ha hb=>?_))
     rw [List.getElem?_map] at ha hb
     refine X11 (Option.map_eq_some_iff.mp ha) fun e he q0=>?_;subst q0
     rw [he] at hb
     cases hb
     exact elt_calf O G (o27 hD B) Cc (fnm40.symm▸csn299.2) (by decide +kernel) (.cons (elt_loc O csn299.1) .nil) fun H hH=>(ok e (List.mem_of_getElem? he)).sp H hH
   ·subst hr
    refine (I12 (.nx,stP h0 h1 h2 h3 h4 h5 h6 h7 h8 (lcP num (Es.map Ent.st) (Es.map Ent.co)) [] [] []) .nx ⟨rfl,rfl,by show 9≤10;decide,?_,?_,.nil⟩ rfl)
    ·exact low.fzc _ _
    ·exact .cons (.nd fs.fz) (.cons .int (.cons (.ref rfl rfl fc.fz) .nil))
  ·replace hr:=(Prod.mk.inj hr).2
   subst hr
   refine Trip.app ((Trip.ev J4 (p41_d h0 h1 h2 h3 h4 h5 h6 h7 h8 num (Es.map Ent.st) (Es.map Ent.co)) .nil).mono hD60 fun r hr=>hr) (fun σ' hr=>?_) fun r hr q=>absurd (congrArg _ hr) q
   replace hr:=(Prod.mk.inj hr).2
   subst hr
   have vlen:∀i,i≤Es.length→((Es.map Ent.l).take i).length=(upI i).length:=fun i hi=>by rw [List.length_take,List.length_map,upI_len];exact o83 hi
   refine Trip.app (P:=fun r=>∃tl,r=(.nx,stP h0 h1 h2 h3 h4 h5 h6 h7 h8 (lcP num (Es.map Ent.st) (Es.map Ent.co) ++ (27,.ref 9) :: tl) [some (.dct (Es.map Ent.l),upI Es.length)] [] [])) ?_ (fun σ' hr=>?_) fun r ⟨tl,hr⟩ q=>absurd (congrArg _ hr) q
   ·refine (Trip.fore G J4 (D:=60) (xs:=Es.map Ent.co) (fun i σ=>i≤Es.length∧∃tl,(tl= []∨∃a b,tl= [(64,a),(165,b)]∧Fro a∧Fro b)∧σ=stP h0 h1 h2 h3 h4 h5 h6 h7 h8 (lcP num (Es.map Ent.st) (Es.map Ent.co) ++ (27,.ref 9) :: tl) [some (.dct ((Es.map Ent.l).take i),upI i)] [] [])
     rfl (p41_e h0 h1 h2 h3 h4 h5 h6 h7 h8 num (Es.map Ent.st) (Es.map Ent.co) [some (.dct [],[])]) .nil (by rfl) (I0111 (Nat.zero_le _) ([]) (.inl rfl) rfl) (fun i σ h=>?_) (fun i σ os h=>?_) fun i a σ os h e=>?_).mono hD60 fun r hr=>?_
    ·refine X0111 h fun _ tl _ q0=>?_;subst q0;exact ⟨rfl,rfl⟩
    ·refine X0111 h fun _ tl ht q0=>?_;subst q0
     have lw:LowH 10 ([h0,h1,h2,h3,h4,h5,h6,h7,h8] ++ [some (.dct ((Es.map Ent.l).take i),upI i)]):=(low.more (by decide)).app (.one fro_upI.fz)
     refine LowH.fzs (σ:=stP h0 h1 h2 h3 h4 h5 h6 h7 h8 (lcP num (Es.map Ent.st) (Es.map Ent.co) ++ (27,.ref 9) :: tl) [some (.dct ((Es.map Ent.l).take i),upI i)] [] []) lw os ?_ .nil
     refine .cons (.nd fs.fz) (.cons .int (.cons (.nd fc.fz) (.cons (.low rfl) ?_)))
     rcases ht with rfl | ⟨a,b,rfl,fa,fb⟩
     ·exact .nil
     ·exact .cons fa.fz (.cons fb.fz .nil)
    ·refine X0111 h fun hi tl ht q0=>?_;subst q0
     rw [List.getElem?_map] at e
     refine X11 (Option.map_eq_some_iff.mp e) fun en he q0=>?_;subst q0
     have hlt:i < Es.length:=(List.getElem?_eq_some_iff.mp he).1
     have oke:=ok en (List.mem_of_getElem? he)
     refine X3 oke.lb fun lb bo su q0=>?_;refine X21 q0 fun fa ln eco hlb=>?_
     have hnew:en.l ∉ (Es.map Ent.l).take i:=fun m=>by
      refine X1 (List.getElem?_of_mem m) fun j hj=>?_
      have hji:j < i:=by have:=(List.getElem?_eq_some_iff.mp hj).1;rw [List.length_take] at this;exact o7 this
      rw [List.getElem?_take,if_pos hji] at hj
      have hi2:(Es.map Ent.l)[i]? =some en.l:=by refine er (List.getElem?_map) (er he ?_);rfl
      obtain ⟨l1,e1⟩:=List.getElem?_eq_some_iff.mp hj
      obtain ⟨l2,e2⟩:=List.getElem?_eq_some_iff.mp hi2
      have:=(List.getElem_inj (h₀:=l1) (h₁:=l2) nd).mp (e1.trans e2.symm)
      exact o28 hji this
     have hput:=dput_new (v:=.int (Int.ofNat i)) (vlen i hi) hnew
     have hg0:some (AV.bool (!(dget ((Es.map Ent.l).take i) (upI i) en.l).isSome))=some (.bool true):=by refine er (dget_none hnew) ?_;rfl
     have hl5:((Es.map Ent.l).take i).length≤500:=by refine er List.length_take ?_;exact o84 le hlt
     have htk:(Es.map Ent.l).take (i + 1)=(Es.map Ent.l).take i ++ [en.l]:=by refine er List.take_add_one (er (List.getElem?_map) (er he ?_));rfl
     have T:Trip prog w K 60 bd41 (stP h0 h1 h2 h3 h4 h5 h6 h7 h8 (lcP num (Es.map Ent.st) (Es.map Ent.co) ++ [(27,.ref 9),(64,.int (Int.ofNat i)),(165,en.co)]) (some (.dct ((Es.map Ent.l).take i),upI i) :: objs os) [] [])
       fun r=>r=(.nx,stP h0 h1 h2 h3 h4 h5 h6 h7 h8 (lcP num (Es.map Ent.st) (Es.map Ent.co) ++ [(27,.ref 9),(64,.int (Int.ofNat i)),(165,en.co)]) (some (.dct ((Es.map Ent.l).take (i + 1)),upI (i + 1)) :: objs os) [] []):=by
      refine er eco (er htk (er upI_succ ?_))
      rcases hlb with rfl | ⟨k,rfl,hk⟩
      ·have hr:=p41_s h0 h1 h2 h3 h4 h5 h6 h7 h8 num en.l bo su fa ln (Es.map Ent.st) (Es.map Ent.co) (upI i) ((Es.map Ent.l).take i) (Int.ofNat i) (objs os)
       rw [hput] at hr
       exact (Trip.orc [.bool true,.bool true] [] (Trip.ev J4 hr (.cons hl5 (.cons hg0 (.cons (ne_true oke.ne) .nil))))).clean fun r hr=>by refine er hr ?_;rfl
      ·have hr:=p41_l h0 h1 h2 h3 h4 h5 h6 h7 h8 num k bo su fa ln (Es.map Ent.st) (Es.map Ent.co) (upI i) ((Es.map Ent.l).take i) (Int.ofNat i) (objs os)
       rw [hk,hput] at hr
       have hne:cmpV [] .NotEq (.lit k) (.lit 8)=some (.bool true):=by
        have:k≠8:=fun q=>oke.ne (by exact re hk (er q rfl))
        show some (AV.bool (!Nat.beq k 8))=_
        cases q:Nat.beq k 8 with
        | true=>exact absurd (Nat.eq_of_beq_eq_true q) this
        | false=>rfl
       exact (Trip.orc [.bool true,.bool true] [] (Trip.ev J4 hr (.cons hl5 (.cons hg0 (.cons hne .nil))))).clean fun r hr=>by refine er hr ?_;rfl
     have T2:=T.mono (Nat.le_refl _) (P':=fun r=>∃σ',r=(.nx,σ'.with os)∧(i + 1≤Es.length∧∃tl,(tl= []∨∃a b,tl= [(64,a),(165,b)]∧Fro a∧Fro b)∧σ'=stP h0 h1 h2 h3 h4 h5 h6 h7 h8 (lcP num (Es.map Ent.st) (Es.map Ent.co) ++ (27,.ref 9) :: tl) [some (.dct ((Es.map Ent.l).take (i + 1)),upI (i + 1))] [] [])∧σ'.H.length=10)
      fun r hr=>(I12 _ hr ⟨hlt,_,.inr ⟨_,_,rfl,.int,oke.fco⟩,rfl⟩ rfl)
     rcases ht with rfl | ⟨a,b,rfl,_,_⟩
     ·exact T2
     ·exact T2
    ·refine X1211 hr fun σ' q0 _ tl _ q1=>?_;subst q0;subst q1
     refine ⟨tl,?_⟩
     rw [List.take_of_length_le (by simp),List.length_map]
   ·refine X1 hr fun tl hr=>?_
    replace hr:=(Prod.mk.inj hr).2
    subst hr
    exact (Trip.ev J4 (p41_r h0 h1 h2 h3 h4 h5 h6 h7 h8 num (Es.map Ent.st) (Es.map Ent.co) (upI Es.length) (Es.map Ent.l) tl) .nil).mono hD60 fun r hr=>⟨tl,hr⟩
 exact (Trip.res (a:=unitA (.int num) (Es.map Ent.co) (Es.map Ent.l) (upI Es.length)) T fun r ⟨tl,hr⟩=>(I33 _ _ ([some (.dct (Es.map Ent.l),upI Es.length),some (.idc [2,123,27],[.int num,li (Es.map Ent.co),.ref 9]),some (.ins 5,[.ref 10])]) hr rfl rfl (.ref rfl rfl (.cons (.ref rfl rfl (.cons .int (.cons (.nd fc.fz) (.cons (.ref rfl rfl fro_upI.fz) .nil)))) .nil)))).mono (Nat.le_refl _) fun r hr=>(I11 _ hr rfl)
end
section
variable {prog:Program}{w:World}{K:Frag}{X:Value→Shared→Prop}{s:Shared}{Z:Heap}{ad:List Addr}{x:Fx}{σ:St}{h h':Heap}
theorem Sit.into (S:Sit prog w K x σ Z ad h){A:Around}{env:Env}{oL:Obj}(hL:h.get? x.env.locals=some oL){h₀:Heap}{m:Str→Option Value}(hl:h.objs.size≤env.locals)(hn:h₀.Ns env.locals m)(hk:∀b o,h.get? b=some o→h₀.get? b=some o)
  {kd:List (Nat×NameKind)} {loc:List (Nat×AV)} (hkd:∀n k,lkK n kd=some k→env.kindOf (nm n)=some k) (hloc:∀n a,lkA n loc=some a→∃v,m (nm n)=some v∧Val prog w Z ad a v) :
  Sit prog w K (inner x A env oL) {σ with kd:=kd,loc:=loc,cel:=[]} Z ad h₀:=by
 have H:=S.hs
 have fresh:∀a∈spec x.env.locals x.pin ad,env.locals≠a:=fun a m q=>Nat.lt_irrefl _ (Nat.lt_of_lt_of_le (H.lt a m) (q▸hl))
 have ex:∀a∈spec x.env.locals x.pin ad,∃o,h₀.get? a=some o:=fun a m=>by
  refine X1 (H.ex a m) fun o q=>?_;exact ⟨o,hk _ _ q⟩
 refine ⟨hkd,S.stat,⟨List.nodup_cons.mpr ⟨fun m=>fresh _ m rfl,H.nd⟩,fun a m=>?_,fun a m=>?_,fun a m=>?_,fun p m=>?_,fun a o q=>hk a o (H.zsub a o q),H.len,fun r t xs q=>?_⟩,(I11 m hn hloc),fun _ _ e=>nomatch e⟩
 ·rcases List.mem_cons.mp m with rfl | m
  ·show Z.get? env.locals=none
   cases q:Z.get? env.locals with
   | none=>rfl
   | some o=>exact absurd (Heap.lt_size (H.zsub _ _ q)) (Nat.not_lt.mpr hl)
  ·exact H.zn a m
 ·rcases List.mem_cons.mp m with rfl | m
  ·exact hn.lt
  ·refine X1 (ex a m) fun o q=>?_;exact Heap.lt_size q
 ·rcases List.mem_cons.mp m with rfl | m
  ·refine X31 hn fun o _ _ q _=>?_;exact ⟨o,q⟩
  ·exact ex a m
 ·rcases List.mem_cons.mp m with rfl | m
  ·exact ⟨oL.slots,hk _ _ hL⟩
  ·refine X1 (H.pins p m) fun sl q=>?_
   exact ⟨sl,hk _ _ q⟩
 ·refine X22 (H.emb r t xs q) fun a us h1 h2 h3=>?_
  exact (I22 a us h1 (h2.sub hk) h3)
theorem Sit.adopt (S:Sit prog w K x σ Z ad h)(b:Nat)(more:List Addr)(cs:List (Tg×List AV))(hs:∀a∈spec x.env.locals x.pin ad,a < b)(hz:∀a o,Z.get? a=some o→a < b)(L:Laid prog w h Z (ad ++ more) b more cs):Sit prog w K x {σ with H:=σ.H ++ cs.map some} Z (ad ++ more) h:=by
 have H:=S.hs
 have e:spec x.env.locals x.pin (ad ++ more)=spec x.env.locals x.pin ad ++ more:=by unfold spec;simp
 have pr:Pre ad (ad ++ more):=⟨more,rfl⟩
 have mem:∀a∈spec x.env.locals x.pin (ad ++ more),a∈spec x.env.locals x.pin ad∨a∈more:=fun a m=>by rw [e] at m;exact List.mem_append.mp m
 refine ⟨S.kd,S.stat,⟨?_,fun a m=>?_,fun a m=>?_,fun a m=>?_,H.pins,H.zsub,?_,fun r t xs q=>?_⟩,?_,fun n a q=>?_⟩
 ·refine er e ?_
  exact List.nodup_append.mpr (I02 H.nd L.nd (fun a ha b hb q=>Nat.lt_irrefl _ (Nat.lt_of_lt_of_le (hs a ha) (q▸(L.ex b hb).1))))
 ·rcases mem a m with m | m
  ·exact H.zn a m
  ·cases z:Z.get? a with
   | none=>rfl
   | some o=>exact absurd (hz _ _ z) (Nat.not_lt.mpr (L.ex a m).1)
 ·rcases mem a m with m | m
  ·exact H.lt a m
  ·exact X1 (L.ex a m).2 fun o q=>Heap.lt_size q
 ·rcases mem a m with m | m
  ·exact H.ex a m
  ·exact (L.ex a m).2
 ·simp only [List.length_append,List.length_map,H.len,L.len]
 ·replace q:getH (σ.H ++ cs.map some) r=some (t,xs):=q
  rw [getH_append] at q
  split at q
  ·rename_i lt
   refine X22 (H.emb r t xs q) fun a vs h1 h2 h3=>?_
   exact (I22 a vs (by refine er (List.getElem?_append_left (by rw [H.len];exact lt)) ?_;exact h1) h2 (h3.mono (Sub.refl _) pr))
  ·refine X22 (L.at _ t xs q) fun a vs h1 h2 h3=>?_
   exact (I22 a vs (by refine er (List.getElem?_append_right (by rw [H.len];exact Nat.le_of_not_lt (by assumption))) (er H.len ?_);exact h1) h2 h3)
 ·refine X11 S.loc fun m hn hlc=>?_
  exact (I11 m hn (fun n a q=>by refine X11 (hlc n a q) fun v q1 q2=>?_;exact ⟨v,q1,q2.mono (Sub.refl _) pr⟩))
 ·refine X11 (S.cel n a q) fun c q1 q2=>?_
  exact (I11 c q1 (q2.mono (Sub.refl _) pr))
theorem Sit.setCel (S:Sit prog w K x σ Z ad h){cel:List (Nat×AV)}(hc:∀n a,lkA n cel=some a→∃c,x.env.cells.lookup (nm n)=some c∧Val prog w Z ad a (.ref c)):Sit prog w K x {σ with cel:=cel} Z ad h:=⟨S.kd,S.stat,S.hs,S.loc,hc⟩
structure FdC (fd:FuncData) (fn:Fn) (body:List PySem.Stmt):Prop where
 body:fd.body=.stmts body
 glo:fd.globals=mainGlobals
 blt:fd.builtins=builtinsNs
 kind:fd.scope.kind=.function
 gen:fd.scope.isGenerator=false
 co:fd.scope.isCoroutine=false
 names:fd.scope.names=fn.kd.map fun p=>(nm p.1,p.2)
 bind:∀vs,vs.length=fn.pars.length→bindArgs fd ⟨vs,[]⟩=pure ((fn.pars.map nm).zip vs)
 clo:fd.closure= []
theorem lkK_map:∀(kd:List (Nat×NameKind)) (n:Nat),(kd.map fun p=>(nm p.1,p.2)).lookup (nm n)=lkK n kd
 | [],_=>rfl
 | (m,k) :: r,n=>by
  have ih:=lkK_map r n
  refine er List.map_cons (er List.lookup_cons ?_)
  unfold lkK
  rw [nbeq]
  by_cases h:n=m
  ·subst h;simp
  ·have h1:(nm n == nm m)=false:=beq_eq_false_iff_ne.mpr fun q=>h (nm_inj q)
   refine er h1 ?_
   simp [h,ih]
def k46':List (Str×NameKind):=k46.map fun p=>(nm p.1,p.2)
theorem cells46 (L:Nat):cellsFrom (L + 1) k46' []= [(nm 195,L + 6),(nm 194,L + 5),(nm 193,L + 4),(nm 190,L + 3),(nm 175,L + 2),(nm 182,L + 1)]:=by rfl
end
section
variable {Z:Heap}{ad:List Addr}{x:Fx}
def CdAt (q48:Str)(x:Fx)(Z:Heap)(ad:List Addr):Prop:=∃c P mg,x.env.code=.ref c∧CodeHd Z c P∧ad[0]? =some P∧Z.Ns mainGlobals mg∧Z.BuiltinsAt mg P∧qualnameIn x.env (nm 192) (nm 192)=q48
theorem CdAt.mono {q48:Str}{Z':Heap}{ad':List Addr}(h:CdAt q48 x Z ad)(sub:Sub Z Z')(pr:Pre ad ad'):CdAt q48 x Z' ad':=by
 refine X35 h fun c P mg h1 h2 h3 h4 q0 h6=>?_;obtain ⟨bm,o,b1,b2,b3,b4,b5,b6⟩:=q0
 refine X1 pr fun m q9=>?_;subst q9
 exact (I35 c P mg h1 (h2.keeps sub) ((List.getElem?_append_left (List.getElem?_eq_some_iff.mp h3).1).symm▸h3) (h4.keeps sub) ⟨bm,o,b1,b2,b3,b4,sub _ _ b5,b6⟩ h6)
end
section
variable (prog:Program)(w:World)(K:Frag)(q48:Str)
structure TripR (D:Nat) (ss:List PySem.Stmt) (σ:St) (P:Out×St→Prop):Prop where
 run:∀{x:Fx} {Z:Heap} {ad:List Addr} {s:Shared} {Q:Flow→Shared→Prop} {X:Value→Shared→Prop},x.Ok→x.A.depth + D < 900→CdAt q48 x Z ad→Sit prog w K x σ Z ad s.heap→
  (∀r,P r→RF prog w K x Z ad s r Q X)→wpAny (model prog w) x.A (execs ss x.env) Q X s
end
section
variable {prog:Program}{w:World}{K:Frag}{q48:Str}{X:Value→Shared→Prop}{s:Shared}{Z:Heap}{ad:List Addr}{x:Fx}{σ:St}{h h':Heap}
theorem Trip.raw {D:Nat}{ss:List S}{P:Out×St→Prop}(h:Trip prog w K D ss σ P):TripR prog w K q48 D (decSs ss) σ P:=⟨fun O B C S k=>h.run O B S k⟩
theorem TripR.app {D:Nat}{a b:List PySem.Stmt}{σ:St}{P P':Out×St→Prop}(h:TripR prog w K q48 D a σ P)(hn:∀σ',P (.nx,σ')→TripR prog w K q48 D b σ' P')(ho:∀r,P r→r.1≠.nx→P' r):TripR prog w K q48 D (a ++ b) σ P':=by
 refine ⟨?_⟩
 intro x Z ad s Q X O B C S k
 rw [execs_append]
 refine wpAny_bind (h.run O B C S (Q:=fun f s'=>wpAny (model prog w) x.A (match f with | .next=>execs b x.env | f=>pure f) Q X s') fun r hr=>?_)
 obtain ⟨o,σ'⟩:=r
 cases o with
 | nx=>exact fun Z' ad' h' tk sub pr S'=>(hn σ' hr).run (s:=⟨h',_,_,_,_⟩) O B (C.mono sub pr) S' fun r' hr'=>RF.on (k r' hr') sub pr ⟨rfl,rfl,rfl⟩
 | rt v=>exact fun Z' ad' h' tk sub pr S' u hu=>wpAny_pure (k _ (ho _ hr (nofun)) Z' ad' h' tk sub pr S' u hu)
 | ex i=>exact k _ (ho _ hr (nofun))
 | _=>exact (k _ (ho _ hr (nofun))).elim
def in46 (H:HL)(d o c n:AV):St:={kd:=k46,loc:=[(78,o),(188,c)],cel:=[(182,.ref H.length),(175,.ref (H.length + 1)),(190,.ref (H.length + 2)),(193,.ref (H.length + 3)),(194,.ref (H.length + 4)),(195,.ref (H.length + 5))],H:=H ++ [some (.cell,[d]),some (.cell,[n]),some (.cell,[]),some (.cell,[]),some (.cell,[]),some (.cell,[])],orc:=[],obl:=[]}
def fn46:Fn:={pars:=[182,78,188,175],kd:=k46,body:=b46,own:=[182,175,190,193,194,195]}
theorem call_46 {A:Around}{fa:Addr}{o:Obj}{fd:FuncData}{body:List PySem.Stmt}{d od c n:AV}{vd vo vc vn:Value}{R:Result→Shared→Prop}{D:Nat}{P:Out×St→Prop}(O:x.Ok)(hA:A.frames=some (x.env :: x.outer))(hh:A.handled=none)(B:A.depth + 1 + D < 900)(S:Sit prog w K x σ Z ad s.heap)
  (hd:Val prog w Z ad d vd) (ho:Val prog w Z ad od vo) (hc:Val prog w Z ad c vc) (hn:Val prog w Z ad n vn) (hf:s.heap.get? fa=some o) (hfd:o.data=.func fd) (hcr:s.heap.CodeRec fd.code fd.qualname) (F:FdC fd fn46 body) (hC:∀oL more,CdAt q48 (inner x A (callEnvC fd s.heap.objs.size fa) oL) Z (ad ++ more))
  (T:TripR prog w K q48 D body (in46 σ.H d od c n) P) (hP:∀r,P r→RC prog w K x Z ad s (back σ r) R):codeAny (model prog w) A (.call (.ref fa) ⟨[vd,vo,vc,vn],[]⟩) R s:=by
 refine X11 S.own fun oL hL hLd=>?_
 have lim:=rec_lim
 have low:=PyProof.Rows.modules_low (S.stat.lim.keeps S.hs.zsub)
 have kof:∀k,(callEnvC fd s.heap.objs.size fa).kindOf (nm k)=lkK k k46:=fun k=>by
  show fd.scope.names.lookup (nm k)=_
  refine er F.names ?_;exact lkK_map _ _
 have cells:(callEnvC fd s.heap.objs.size fa).cells= [(nm 195,s.heap.objs.size + 6),(nm 194,s.heap.objs.size + 5),(nm 193,s.heap.objs.size + 4),(nm 190,s.heap.objs.size + 3),(nm 175,s.heap.objs.size + 2),(nm 182,s.heap.objs.size + 1)]:=by
  show cellsFrom _ fd.scope.names []=_
  refine er F.names ?_;exact cells46 _
 have hv:∀a,s.heap.objs.size + 1≤a→(a == sysModules)=false:=fun a h=>beq_eq_false_iff_ne.mpr (Nat.ne_of_gt (Nat.lt_of_lt_of_le low (Nat.le_of_succ_le h)))
 refine codeAny_call_cells (binds:=[(nm 182,vd),(nm 78,vo),(nm 188,vc),(nm 175,vn)]) (o25 B lim) hf hfd (S.stat.lim.keeps S.hs.zsub) hcr F.body (F.bind _ rfl) F.clo ?_ (fun s₁ I=>?_) F.co F.gen F.kind
 ·refine er F.names ?_
  intro y hy
  have look:∀k,(fn46.kd.map fun p=>(nm p.1,p.2)).lookup (nm k)=lkK k k46:=fun k=>lkK_map _ _
  simp only [List.mem_cons,List.not_mem_nil,or_false] at hy
  rcases hy with rfl | rfl | rfl | rfl
  ·exact .inr ⟨look 182,by rw [show (fn46.kd.map fun p=>(nm p.1,p.2))=k46' from rfl,cells46];kernel_rfl⟩
  ·exact .inl (look 78)
  ·exact .inl (look 188)
  ·exact .inr ⟨look 175,by rw [show (fn46.kd.map fun p=>(nm p.1,p.2))=k46' from rfl,cells46];kernel_rfl⟩
 ·have nn:∀{a b:Nat},a≠b→nm a≠nm b:=fun h q=>h (nm_inj q)
  refine X2 I.toInCall.same fun h₁ tk q0=>?_;subst q0
  have hns:=I.toInCall.ns
  have hkeep:=I.toInCall.keep
  have hcell:=I.cell
  rw [cells] at hcell
  have L0:(callEnvC fd s.heap.objs.size fa).locals=s.heap.objs.size:=rfl
  have O':(inner x A (callEnvC fd s.heap.objs.size fa) oL).Ok:=O.inner hA hh F.kind rfl F.glo F.blt hLd
  have S₁:=S.into (A:=A) (env:=callEnvC fd s.heap.objs.size fa) hL (Nat.le_refl _) hns hkeep (kd:=k46) (loc:=[(78,od),(188,c)]) (fun k q e=>(kof k).trans e) (lkA_c ⟨vo,by simp [bindL,kof,show lkK 182 k46=some .cell from rfl,show lkK 78 k46=some .local from rfl,show lkK 188 k46=some .local from rfl,show lkK 175 k46=some .cell from rfl,nn (show 78≠188 by decide)],ho⟩ (lkA_c ⟨vc,by simp [bindL,kof,show lkK 182 k46=some .cell from rfl,show lkK 78 k46=some .local from rfl,show lkK 188 k46=some .local from rfl,show lkK 175 k46=some .cell from rfl],hc⟩ lkA_n))
  have cl:∀k a,(callEnvC fd s.heap.objs.size fa).cells.lookup (nm k)=some a→h₁.IsCell a (if k=182 then some vd else if k=175 then some vn else none):=fun k a e=>by
   have:=hcell (nm k) _ (cells▸e)
   have e2:bindC (callEnvC fd s.heap.objs.size fa).kindOf [(nm 182,vd),(nm 78,vo),(nm 188,vc),(nm 175,vn)] (fun _=>none) (nm k)=(if k=182 then some vd else if k=175 then some vn else none):=by
    have k1:¬(lkK 182 k46=some .local):=by decide
    have k2:lkK 78 k46=some .local:=by decide
    have k3:lkK 188 k46=some .local:=by decide
    have k4:¬(lkK 175 k46=some .local):=by decide
    simp only [bindC,kof,if_neg k1,if_pos k2,if_pos k3,if_neg k4]
    by_cases q1:k=182
    ·subst q1;simp [nn (show 182≠175 by decide)]
    ·by_cases q2:k=175
     ·subst q2;simp
     ·simp [nn q1,nn q2,q1,q2]
   rw [e2] at this
   exact this
  have e0:(callEnvC fd s.heap.objs.size fa).cells.lookup (nm 182)=some (s.heap.objs.size + 1):=by refine er cells ?_;kernel_rfl
  have e1:(callEnvC fd s.heap.objs.size fa).cells.lookup (nm 175)=some (s.heap.objs.size + 2):=by refine er cells ?_;kernel_rfl
  have e2:(callEnvC fd s.heap.objs.size fa).cells.lookup (nm 190)=some (s.heap.objs.size + 3):=by refine er cells ?_;kernel_rfl
  have e3:(callEnvC fd s.heap.objs.size fa).cells.lookup (nm 193)=some (s.heap.objs.size + 4):=by refine er cells ?_;kernel_rfl
  have e4:(callEnvC fd s.heap.objs.size fa).cells.lookup (nm 194)=some (s.heap.objs.size + 5):=by refine er cells ?_;kernel_rfl
  have e5:(callEnvC fd s.heap.objs.size fa).cells.lookup (nm 195)=some (s.heap.objs.size + 6):=by refine er cells ?_;kernel_rfl
  have i0:h₁.IsCell (s.heap.objs.size + 1) (some vd):=cl 182 _ e0
  have i1:h₁.IsCell (s.heap.objs.size + 2) (some vn):=cl 175 _ e1
  have i2:h₁.IsCell (s.heap.objs.size + 3) none:=cl 190 _ e2
  have i3:h₁.IsCell (s.heap.objs.size + 4) none:=cl 193 _ e3
  have i4:h₁.IsCell (s.heap.objs.size + 5) none:=cl 194 _ e4
  have i5:h₁.IsCell (s.heap.objs.size + 6) none:=cl 195 _ e5
  have mk:∀{a:Addr} {v:Option Value},s.heap.objs.size + 1≤a→h₁.IsCell a v→ObjIs prog w h₁ a .cell v.toList:=fun h ⟨o,q1,q2⟩=>(I011111 (hv _ h) o q1 _ q2 rfl)
  have le:∀{k:Nat},s.heap.objs.size + 1≤s.heap.objs.size + 1 + k:=Nat.le_add_right _ _
  have pr0:Pre ad (ad ++ [s.heap.objs.size + 1,s.heap.objs.size + 2,s.heap.objs.size + 3,s.heap.objs.size + 4,s.heap.objs.size + 5,s.heap.objs.size + 6]):=⟨_,rfl⟩
  have S₂:=S₁.adopt (s.heap.objs.size + 1) [s.heap.objs.size + 1,s.heap.objs.size + 2,s.heap.objs.size + 3,s.heap.objs.size + 4,s.heap.objs.size + 5,s.heap.objs.size + 6] [(.cell,[d]),(.cell,[n]),(.cell,[]),(.cell,[]),(.cell,[]),(.cell,[])]
   (fun a m=>(List.mem_cons.mp m).elim (fun e=>Nat.lt_succ_of_le (Nat.le_of_eq e)) fun m=>Nat.lt_succ_of_lt (S.hs.lt a m)) (fun a o z=>Nat.lt_succ_of_lt (Heap.lt_size (S.hs.zsub _ _ z)))
   (.cons (Nat.le_refl _) (mk (le (k:=0)) i0) (.cons (hd.mono (Sub.refl _) pr0) .nil) (.cons (Nat.le_refl _) (mk (le (k:=1)) i1) (.cons (hn.mono (Sub.refl _) pr0) .nil) (.cons (Nat.le_refl _) (mk (le (k:=2)) i2) .nil (.cons (Nat.le_refl _) (mk (le (k:=3)) i3) .nil (.cons (Nat.le_refl _) (mk (le (k:=4)) i4) .nil (.cons (Nat.le_refl _) (mk (le (k:=5)) i5) .nil .nil))))))
  have at_:∀i,(ad ++ [s.heap.objs.size + 1,s.heap.objs.size + 2,s.heap.objs.size + 3,s.heap.objs.size + 4,s.heap.objs.size + 5,s.heap.objs.size + 6])[σ.H.length + i]? = [s.heap.objs.size + 1,s.heap.objs.size + 2,s.heap.objs.size + 3,s.heap.objs.size + 4,s.heap.objs.size + 5,s.heap.objs.size + 6][i]? :=fun i=>by
   rw [List.getElem?_append_right (by refine er S.hs.len ?_;exact Nat.le_add_right _ _),S.hs.len,Nat.add_sub_cancel_left]
  have S₃:=S₂.setCel (cel:=(in46 σ.H d od c n).cel) (lkA_c ⟨_,e0,.ref (at_ 0)⟩ (lkA_c ⟨_,e1,.ref (at_ 1)⟩ (lkA_c ⟨_,e2,.ref (at_ 2)⟩ (lkA_c ⟨_,e3,.ref (at_ 3)⟩ (lkA_c ⟨_,e4,.ref (at_ 4)⟩ (lkA_c ⟨_,e5,.ref (at_ 5)⟩ lkA_n))))))
  have S₄:=S₃.orc [] []
  have lv:∀{σ':St} {Z':Heap} {ad':List Addr} {h':Heap},Sub Z Z'→Pre ad ad'→Sit prog w K (inner x A (callEnvC fd s.heap.objs.size fa) oL) σ' Z' ad' h'→Sit prog w K x {σ' with kd:=σ.kd,loc:=σ.loc,cel:=σ.cel} Z' ad' h':=
   fun sub pr S''=>S.leave hL sub pr S''
  have B2:(inner x A (callEnvC fd s.heap.objs.size fa) oL).A.depth + D < 900:=B
  refine T.run (s:=⟨h₁,_,_,_,_⟩) O' B2 (hC _ _) S₄ fun r hr=>?_
  have k:=hP r hr
  obtain ⟨o,σ'⟩:=r
  cases o with
  | rt v=>exact fun Z' ad' h' tk sub pr S'' u hu=>k Z' ad' h' tk sub (pr0.trans pr) (lv sub (pr0.trans pr) S'') u hu
  | nx=>exact fun Z' ad' h' tk sub pr S''=>k Z' ad' h' tk sub (pr0.trans pr) (lv sub (pr0.trans pr) S'') _ .none
  | ex i=>exact fun Z' ad' h' tk sub pr S'' e he=>Mine.leave (s:=⟨h',_,_,_,_⟩) O' S'' he fun h'' S3 q=>k Z' ad' h'' tk sub (pr0.trans pr) (lv sub (pr0.trans pr) S3) e q.out
  | _=>exact k.elim
end
section
variable {prog:Program}{w:World}{K:Frag}{X:Value→Shared→Prop}{s:Shared}{Z:Heap}{ad:List Addr}{x:Fx}{σ:St}{h h':Heap}
theorem Sit.setGrow (S:Sit prog w K x σ Z ad h){r:Nat}{a:Addr}{t:Tg}{xs:List AV}{vs:List Value}(hat:ad[r]? =some a)(lt:r < σ.H.length)(keep:∀b o,b≠a→h.get? b=some o→h'.get? b=some o)(grow:h.objs.size≤h'.objs.size)
  (ho:ObjIs prog w h' a t vs) (hv:Sub Z (Zof x.env.locals x.pin ad h')→Vals prog w (Zof x.env.locals x.pin ad h') ad xs vs) :
  Sub Z (Zof x.env.locals x.pin ad h')∧Sit prog w K x {σ with H:=setH σ.H r (t,xs)} (Zof x.env.locals x.pin ad h') ad h':=by
 have nd:=S.hs.nd
 have am:a∈ad:=List.mem_of_getElem? hat
 have hsl:∀(H:HL) (r:Nat) (c:Tg×List AV),(setH H r c).length=H.length:=by
  intro H r c
  induction H generalizing r with
  | nil=>rfl
  | cons y H ih=>cases r with
   | zero=>rfl
   | succ r=>show _ + 1=_ + 1;rw [ih]
 have hsg:∀(H:HL) (r k:Nat) (c:Tg×List AV),r < H.length→getH (setH H r c) k=if k=r then some c else getH H k:=by
  intro H r k c
  induction H generalizing r k with
  | nil=>intro h;cases h
  | cons y H ih=>
   intro h
   cases r with
   | zero=>cases k with
    | zero=>rfl
    | succ k=>rfl
   | succ r=>cases k with
    | zero=>rfl
    | succ k=>
     show getH (setH H r c) k=_
     refine er (ih r k (Nat.lt_of_succ_lt_succ h)) ?_
     show _=if k + 1=r + 1 then some c else getH H k
     by_cases q:k=r
     ·subst q;simp
     ·have:¬k + 1=r + 1:=o85 q
      simp [q,this]
 obtain ⟨S',sub⟩:=S.hs.step (H':=setH σ.H r (t,xs)) (h':=h') [a] [] (fun b q=>.inr ((List.mem_singleton.mp q).symm▸am)) (fun b o e n=>keep b o (fun q=>n (List.mem_singleton.mpr q)) e) grow .nil (fun _ m=>nomatch m)
  (fun b q=>by refine er (List.mem_singleton.mp q) ?_;refine X0111 ho fun _ o e _=>?_;exact ⟨o,e⟩) (fun _ m=>nomatch m) (by rw [hsl];simpa using S.hs.len)
  (fun sub k t' xs' q=>by
   rw [hsg _ _ _ _ lt] at q
   simp only [List.append_nil] at sub ⊢
   by_cases e:k=r
   ·rw [if_pos e] at q
    cases Option.some.inj q
    exact .inr (I22 a vs (e.symm▸hat) ho (hv sub))
   ·rw [if_neg e] at q
    refine .inl ⟨q,fun b hb m=>?_⟩
    rw [List.mem_singleton.mp m] at hb
    exact e (at_inj (nodup_ad nd) hb hat))
 simp only [List.append_nil] at S' sub
 have pr:Pre ad ad:=Pre.refl ad
 refine ⟨sub,S.kd,S.stat.sub sub,S',?_,fun n b q=>?_⟩
 ·refine X11 S.loc fun m hn hl=>?_
  refine X31 hn fun o es ep q1 q2=>?_
  refine (I11 m ⟨o,es,ep,keep _ _ (fun q=>not_L nd am q.symm) q1,q2⟩ (fun n b q=>?_))
  refine X11 (hl n b q) fun v z1 z2=>?_
  exact (I11 v z1 (z2.mono sub pr))
 ·refine X11 (S.cel n b q) fun c z1 z2=>?_
  exact (I11 c z1 (z2.mono sub pr))
noncomputable def codeOk (q48:Str)(oc:Obj):Prop:=∃vs t,oc.data=.fields vs∧vs[1]? =some (.str q48 t)
structure Def48 (params:Arguments) (body:List PySem.Stmt) (scope:Scope):Prop where
 d0:params.defaults= []
 k0:params.kw_defaults= []
 ann:∀env,annTrees params none env= []
 names:scope.names=k48.map fun p=>(nm p.1,p.2)
 fd:∀(qual:Str) (clos:List (Str×Addr)) (doc pm ctv c:Value),FdOk (fnX (nm 192) qual params body scope clos .none .none doc pm none c ctv) {pars:=[29,30],kd:=k48,body:=b48,fre:=[193,194,195]}
structure Clos (x:Fx) (σ:St) (Z:Heap) (ad:List Addr) (r6 r7 r8:Nat) (a6 a7 a8:Addr):Prop where
 l6:x.env.cells.lookup (nm 193)=some a6
 l7:x.env.cells.lookup (nm 194)=some a7
 l8:x.env.cells.lookup (nm 195)=some a8
 v6:ad[r6]? =some a6
 v7:ad[r7]? =some a7
 v8:ad[r8]? =some a8
theorem Sit.clos (S:Sit prog w K x σ Z ad h){r6 r7 r8:Nat}(e6:lkA 193 σ.cel=some (.ref r6))(e7:lkA 194 σ.cel=some (.ref r7))(e8:lkA 195 σ.cel=some (.ref r8)):∃a6 a7 a8,Clos x σ Z ad r6 r7 r8 a6 a7 a8:=by
 refine X11 (S.cel _ _ e6) fun a6 h1 h2=>?_
 refine X11 (S.cel _ _ e7) fun a7 h3 h4=>?_
 refine X11 (S.cel _ _ e8) fun a8 h5 h6=>?_
 cases h2 with | ref h2=>cases h4 with | ref h4=>cases h6 with | ref h6=>exact ⟨a6,a7,a8,h1,h3,h5,h2,h4,h6⟩
theorem clos_eq {scope:Scope}{env:Env}{a6 a7 a8:Addr}(hn:scope.names=k48.map fun p=>(nm p.1,p.2))(l6:env.cells.lookup (nm 193)=some a6)(l7:env.cells.lookup (nm 194)=some a7)(l8:env.cells.lookup (nm 195)=some a8) :
  closureFor scope env=pure [(nm 195,a8),(nm 194,a7),(nm 193,a6)]:=by
 unfold closureFor cellOf
 refine er hn ?_
 unfold k48
 simp only [List.map_cons,List.map_nil,List.forIn_cons,List.forIn_nil,l6,l7,l8]
 rfl
noncomputable def clo3 (r6 r7 r8:Nat):AV:=.nd (.clo 48 [193,194,195]) [.ref r6,.ref r7,.ref r8]
theorem fns48:fns 48=some {pars:=[29,30],kd:=k48,body:=b48,fre:=[193,194,195]}:=by kernel_rfl
theorem clo_val {r6 r7 r8:Nat}{a6 a7 a8 f:Addr}{o:Obj}{fd:FuncData}(v6:ad[r6]? =some a6)(v7:ad[r7]? =some a7)(v8:ad[r8]? =some a8)(hf:Z.get? f=some o)(hc:o.cls=.type "function")(hd:o.data=.func fd)(D:FdOk fd {pars:=[29,30],kd:=k48,body:=b48,fre:=[193,194,195]})
  (hcr:Z.CodeRec fd.code fd.qualname) (hcl:fd.closure= [(nm 195,a8),(nm 194,a7),(nm 193,a6)]):Val prog w Z ad (clo3 r6 r7 r8) (.ref f):=by
 refine .clo (vs:=[.ref a6,.ref a7,.ref a8]) ⟨o,fd,_,[a6,a7,a8],hf,hc,hd,fns48,D,hcr,rfl,rfl,by decide,fun n m=>?_⟩ (.cons (.ref v6) (.cons (.ref v7) (.cons (.ref v8) .nil)))
 have nn:∀{a b:Nat},a≠b→(nm a == nm b)=false:=fun h=>beq_eq_false_iff_ne.mpr fun q=>h (nm_inj q)
 refine er hcl ?_
 simp only [List.mem_cons,List.not_mem_nil,or_false] at m
 rcases m with rfl | rfl | rfl
 ·exact rfl
 ·exact rfl
 ·exact rfl
theorem bat_of {mg:Str→Option Value}{P:Addr}(sub:Sub Z h)(b:Z.BuiltinsAt mg P):h.BuiltinsAt mg P:=by
 refine X25 b fun bm o b1 b2 b3 b4 b5 b6=>?_
 exact (I25 bm o b1 b2 b3 b4 (sub _ _ b5) b6)
theorem def_new {q48:Str}{params:Arguments}{body:List PySem.Stmt}{scope:Scope}{pos:Pos}(D:Def48 params body scope)(hpl:pos.line=364)(hpc:pos.col=4)(O:x.Ok)(S:Sit prog w K x σ Z ad s.heap)(C:CdAt q48 x Z ad)
  {r6 r7 r8:Nat} (e6:lkA 193 σ.cel=some (.ref r6)) (e7:lkA 194 σ.cel=some (.ref r7)) (e8:lkA 195 σ.cel=some (.ref r8)) (e0:getH σ.H 0=some (.obj (tabObj #[]),[])) (hk:isL σ.kd 192=true) {Q:Flow→Shared→Prop}
  (hQ:∀oc,codeOk q48 oc→OkS prog w K x Z ad s {σ with loc:=stA 192 (clo3 r6 r7 r8) σ.loc,H:=setH σ.H 0 (.rng,[.nd (.obj oc) []])} fun _ _ s'=>Q .next s') :
  wpAny (model prog w) x.A (exec (.FunctionDef (nm 192) params body [] none [] scope none (nm 192) pos) x.env) Q X s:=by
 refine X35 C fun c P mg h1 h2 h3 h4 h5 h6=>?_
 refine X3 (S.clos e6 e7 e8) fun a6 a7 a8 hc=>?_
 refine X22 (S.hs.emb 0 _ _ e0) fun P' vs0 hat q0 _=>?_;obtain ⟨hm0,o0,ho0,hi0⟩:=q0
 rw [h3] at hat
 cases Option.some.inj hat
 refine X01 hi0 fun _ q0=>?_;subst q0
 have lt0:=getH_lt e0
 have hgs:=h4.keeps S.hs.zsub
 have hgP:mainGlobals≠P:=fun q=>by
  refine X32 hgs fun o es ep e hd _=>?_
  rw [q,ho0] at e;cases Option.some.inj e;cases hd
 refine nestDef_K D.d0 D.k0 (D.ann _) ?_
 refine er h6 ?_
 refine makeFunction_K (mg:=mg) (clos_eq D.names hc.l6 hc.l7 hc.l8) O.glo hgs h1 (h2.keeps S.hs.zsub) ho0 trivial rfl hgP (bat_of S.hs.zsub h5) fun c' ctv doc h' tk hx hge hlt hrec htb=>?_
 refine X43 hrec fun c₂ oc vs t e2 hoc hd hv=>?_
 cases e2
 have fdo:=D.fd q48 [(nm 195,a8),(nm 194,a7),(nm 193,a6)] doc ((mg "__name__").getD .none) ctv (.ref c')
 have hfo:(h'.push (fnMade (nm 192) q48 params body scope [(nm 195,a8),(nm 194,a7),(nm 193,a6)] doc ((mg "__name__").getD .none) c' ctv)).get? h'.objs.size=some (fnMade (nm 192) q48 params body scope [(nm 195,a8),(nm 194,a7),(nm 193,a6)] doc ((mg "__name__").getD .none) c' ctv):=Heap.get?_push_size _ rfl
 have up:∀b o,h'.get? b=some o→(h'.push (fnMade (nm 192) q48 params body scope [(nm 195,a8),(nm 194,a7),(nm 193,a6)] doc ((mg "__name__").getD .none) c' ctv)).get? b=some o:=fun b o e=>Heap.get?_push_of_some _ e
 have hsz:(h'.push (fnMade (nm 192) q48 params body scope [(nm 195,a8),(nm 194,a7),(nm 193,a6)] doc ((mg "__name__").getD .none) c' ctv)).objs.size=h'.objs.size + 1:=Heap.size_push ..
 generalize h'.push (fnMade (nm 192) q48 params body scope [(nm 195,a8),(nm 194,a7),(nm 193,a6)] doc ((mg "__name__").getD .none) c' ctv)=h2' at hfo up hsz ⊢
 have grow:s.heap.objs.size≤h2'.objs.size:=hsz.symm▸(Nat.le_succ_of_le (Nat.le_trans hge (Nat.le_of_lt hlt)))
 have fresh:∀a,s.heap.objs.size≤a→a ∉ spec x.env.locals x.pin ad:=fun a l m=>Nat.lt_irrefl _ (Nat.lt_of_lt_of_le (S.hs.lt a m) l)
 have low:=PyProof.Rows.modules_low (S.stat.lim.keeps S.hs.zsub)
 have hmc:(c' == sysModules)=false:=beq_eq_false_iff_ne.mpr (Nat.ne_of_gt (Nat.lt_of_lt_of_le low hge))
 have hcz:(Zof x.env.locals x.pin ad h2').get? c'=some oc:=Zof_get (up _ _ hoc) (fresh _ hge)
 have hfz:(Zof x.env.locals x.pin ad h2').get? h'.objs.size=some (fnMade (nm 192) q48 params body scope [(nm 195,a8),(nm 194,a7),(nm 193,a6)] doc ((mg "__name__").getD .none) c' ctv):=Zof_get hfo (fresh _ (Nat.le_trans hge (Nat.le_of_lt hlt)))
 obtain ⟨sub,S₂⟩:=S.setGrow (h':=h2') (t:=.rng) (xs:=[.nd (.obj oc) []]) (vs:=[.ref c']) h3 lt0 (fun b o hb e=>up _ _ (hx b o hb e)) grow (I011111 hm0 _ (up _ _ htb) (.ref c') rfl (hpl.symm▸hpc.symm▸rfl))
  (fun _=>.cons (.nd (I0112 hmc oc hcz rfl rfl) .nil) .nil)
 refine s_loc (s:=⟨h2',_,_,_,_⟩) O S₂ (S.kd _ _ (isL_kind hk)) (clo_val hc.v6 hc.v7 hc.v8 hfz rfl rfl fdo (I43 c' oc vs t rfl hcz hd hv) rfl) fun Z₃ ad₃ h₃ tk₃ sub₃ pr₃ S₃=>?_
 exact hQ oc (I21 vs t hd hv) Z₃ ad₃ h₃ tk₃ (sub.trans sub₃) pr₃ S₃
theorem def_hit {q48:Str}{params:Arguments}{body:List PySem.Stmt}{scope:Scope}{pos:Pos}(D:Def48 params body scope)(hpl:pos.line=364)(hpc:pos.col=4)(O:x.Ok)(S:Sit prog w K x σ Z ad s.heap)(C:CdAt q48 x Z ad)
  {r6 r7 r8:Nat} (e6:lkA 193 σ.cel=some (.ref r6)) (e7:lkA 194 σ.cel=some (.ref r7)) (e8:lkA 195 σ.cel=some (.ref r8)) {oc:Obj} (hoc:codeOk q48 oc) (e0:getH σ.H 0=some (.rng,[.nd (.obj oc) []])) (hk:isL σ.kd 192=true) {Q:Flow→Shared→Prop}
  (hQ:OkS prog w K x Z ad s {σ with loc:=stA 192 (clo3 r6 r7 r8) σ.loc} fun _ _ s'=>Q .next s') :
  wpAny (model prog w) x.A (exec (.FunctionDef (nm 192) params body [] none [] scope none (nm 192) pos) x.env) Q X s:=by
 refine X35 C fun c P mg h1 h2 h3 h4 h5 h6=>?_
 refine X3 (S.clos e6 e7 e8) fun a6 a7 a8 hc=>?_
 refine X22 (S.hs.emb 0 _ _ e0) fun P' vs0 hat q0 hvs=>?_;obtain ⟨hm0,o0,ho0,v0,rfl,rfl⟩:=q0
 rw [h3] at hat
 cases Option.some.inj hat
 obtain ⟨c',hv0,hcz,hcd⟩:∃c',v0=.ref c'∧Z.get? c'=some oc∧True:=by
  cases hvs with
  | cons hv _=>cases hv with
   | nd ho _=>obtain ⟨_,o,q1,_,rfl⟩:=ho;exact (I12 _ rfl q1 trivial)
 subst hv0
 have hgs:=h4.keeps S.hs.zsub
 refine nestDef_K D.d0 D.k0 (D.ann _) ?_
 refine er h6 ?_
 have ho0':s.heap.get? P=some (tabObj #[rawInt 364,rawInt 4,.ref c']):=ho0
 refine makeFunction_hit (mg:=mg) (cv:=.ref c') (clos_eq D.names hc.l6 hc.l7 hc.l8) O.glo hgs h1 (h2.keeps S.hs.zsub) ho0' trivial (by simp [codeAmong,rawInt,hpl,hpc]) (bat_of S.hs.zsub h5) fun ctv doc h' tk hk' hsz=>?_
 have fdo:=D.fd q48 [(nm 195,a8),(nm 194,a7),(nm 193,a6)] doc ((mg "__name__").getD .none) ctv (.ref c')
 have hfo:(h'.push (fnMade (nm 192) q48 params body scope [(nm 195,a8),(nm 194,a7),(nm 193,a6)] doc ((mg "__name__").getD .none) c' ctv)).get? h'.objs.size=some (fnMade (nm 192) q48 params body scope [(nm 195,a8),(nm 194,a7),(nm 193,a6)] doc ((mg "__name__").getD .none) c' ctv):=Heap.get?_push_size _ rfl
 have up:∀b o,h'.get? b=some o→(h'.push (fnMade (nm 192) q48 params body scope [(nm 195,a8),(nm 194,a7),(nm 193,a6)] doc ((mg "__name__").getD .none) c' ctv)).get? b=some o:=fun b o e=>Heap.get?_push_of_some _ e
 have hsz2:(h'.push (fnMade (nm 192) q48 params body scope [(nm 195,a8),(nm 194,a7),(nm 193,a6)] doc ((mg "__name__").getD .none) c' ctv)).objs.size=h'.objs.size + 1:=Heap.size_push ..
 generalize h'.push (fnMade (nm 192) q48 params body scope [(nm 195,a8),(nm 194,a7),(nm 193,a6)] doc ((mg "__name__").getD .none) c' ctv)=h2' at hfo up hsz2 ⊢
 refine X02 (S.layFrozen (h':=h2') (fun b o e=>up _ _ (hk' b o e)) (by refine er hsz2 ?_;exact Nat.le_succ_of_le hsz)) fun sub S₂ hnew=>?_
 refine X21 hoc fun vs t hd hv=>?_
 refine s_loc (s:=⟨h2',_,_,_,_⟩) O S₂ (S.kd _ _ (isL_kind hk)) (clo_val hc.v6 hc.v7 hc.v8 (hnew _ _ hfo hsz) rfl rfl fdo (I43 c' oc vs t rfl (sub _ _ hcz) hd hv) rfl) fun Z₃ ad₃ h₃ tk₃ sub₃ pr₃ S₃=>?_
 exact hQ Z₃ ad₃ h₃ tk₃ (sub.trans sub₃) pr₃ S₃
end
noncomputable def polU:List (Nat×Nat×Nat):=[(356,29,39),(356,61,71),(359,24,33),(359,20,34),(359,14,34),(359,56,64),(359,8,90),(362,35,53),(362,12,54),(358,20,30)]
def c6:Cf:={pol:=inPol polU}
def c5:Cf:={pol:=inPol polU,frz:=fun _=>true,spc:=fun f=>Nat.beq f 41,SP:=fun f=>match f with | 41=>SPcp | _=>fun _ _ _=>False,lim:=459}
section
variable (c0 c1 c2:Option (Tg×List AV))(d n:AV)(order:List AV)(cut:Nat)(ys:List AV)(u1 u2:AV)
def stL (loc:List (Nat×AV))(la h6 h7 h8:List AV)(H:HL)(orc:List AV)(obl:List Prop):St:={kd:=k46,loc:=loc,cel:=[(182,.ref 3),(175,.ref 4),(190,.ref 5),(193,.ref 6),(194,.ref 7),(195,.ref 8)],H:=c0 :: c1 :: c2 :: some (.cell,[d]) :: some (.cell,[n]) :: some (.cell,la) :: some (.cell,h6) :: some (.cell,h7) :: some (.cell,h8) :: H,orc:=orc,obl:=obl}
abbrev lA (order:List AV)(cut:Nat):List (Nat×AV):=[(78,li order),(188,.int (Int.ofNat cut))]
abbrev lB (order:List AV)(cut:Nat)(ys:List AV):List (Nat×AV):=lA order cut ++ [(164,li ys)]
abbrev lC (order:List AV)(cut:Nat)(ys:List AV)(u1 u2:AV):List (Nat×AV):=lB order cut ys ++ [(191,li [u1,u2])]
abbrev lD (order:List AV)(cut:Nat)(ys:List AV)(u1 u2:AV):List (Nat×AV):=lC order cut ys u1 u2 ++ [(27,.ref 10)]
def lastF:List AV:=stF (.lit 69) .none .none (.bool false) .none .none .none .none (.int 9) (.lit 8)
theorem r46_a:ev c6 60 (.sts (b46.take 2)) (stL c0 c1 c2 d n (lA order cut) [] [] [] [] [] [] [])=some (.nx,stL c0 c1 c2 d n (lA order cut) [.ref 10] [] [] [] [some (.idc stNs,lastF),some (.ins 6,[.ref 9])] [] []):=by kernel_rfl
theorem r46_i:ev c6 60 (.ex (.loc 78 (pz 355 102 107))) (stL c0 c1 c2 d n (lA order cut) [lastA] [] [] [] [] [] [])=some (.v (li order),stL c0 c1 c2 d n (lA order cut) [lastA] [] [] [] [] [] []):=by kernel_rfl
theorem r46_c:ev c5 60 (.sts ((b46.drop 3).take 1)) (stL c0 c1 c2 d n (lB order cut ys) [lastA] [] [] [] [] [u1,u2] [])=some (.nx,stL c0 c1 c2 d n (lC order cut ys u1 u2) [lastA] [] [] [] [] []
  [(9:Nat)=9∧SPq [li ((ys.take ys.length).drop (min cut ys.length)),.int 2] u2,small ys,(9:Nat)=9∧SPq [li ((ys.take (min cut ys.length)).drop 0),.int 1] u1,small ys]):=by kernel_rfl
def stoA:Option (Tg×List AV):=some (.dct [nm 197,nm 198],[.lit 8,.lit 199])
theorem r46_d:ev c6 60 (.sts ((b46.drop 4).take 1)) (stL c0 c1 c2 d n (lC order cut ys u1 u2) [lastA] [] [] [] [] [] [])=some (.nx,stL c0 c1 c2 d n (lD order cut ys u1 u2) [lastA] [.ref 12] [.ref 9] [.ref 11] [some (.dct [],[]),some (.dct [],[]),stoA,some (.lst,[])] [] []):=by kernel_rfl
end
def bdS:List S:=match b46.drop 5 with | .forl _ _ _ b _ :: _=>b | _=>[]
def lpL:S:=match b46.drop 6 with | .forl _ _ _ b _ :: _=>(match b with | t :: _=>t | _=>.pass ⟨0,0,0,0⟩) | _=>.pass ⟨0,0,0,0⟩
def bdL:List S:=match lpL with | .forl _ _ _ b _=>b | _=>[]
theorem lpL_eq:lpL=.forl 111 (pz 361 12 17) (.attr (.loc 119 (pz 361 21 25)) 27 (pz 361 21 32)) bdL ⟨361,8,362,54⟩:=rfl
theorem b46_5:(b46.drop 5).take 1= [.forl 64 (pz 358 8 10) (.calb .range (pz 358 14 19) [(.calb .len (pz 358 20 23) [(.loc 78 (pz 358 24 29))] (pz 358 20 30))] (pz 358 14 31)) bdS ⟨358,4,359,90⟩]:=rfl
theorem b46_6:(b46.drop 6).take 1= [.forl 119 (pz 360 8 12) (.loc 191 (pz 360 16 21)) [lpL] ⟨360,4,362,54⟩]:=rfl
section
variable (c0 c1 c2:Option (Tg×List AV))(d n:AV)(order:List AV)(cut:Nat)(ys:List AV)(u1 u2:AV)(SK LK:List Str)(SV LV:List AV)
def stM (loc:List (Nat×AV))(H:HL)(orc:List AV)(obl:List Prop):St:=stL c0 c1 c2 d n loc [lastA] [.ref 12] [.ref 9] [.ref 11] H orc obl
abbrev hM (SK:List Str)(SV:List AV)(LK:List Str)(LV:List AV)(H:HL):HL:=some (.dct SK,SV) :: some (.dct LK,LV) :: stoA :: some (.lst,[]) :: H
theorem r46_n (m:Int):ev c6 60 (.ex (.calb .len (pz 358 20 23) [(.loc 78 (pz 358 24 29))] (pz 358 20 30))) (stM c0 c1 c2 d n (lD order cut ys u1 u2) (hM [] [] [] [] []) [.int m] []) =
  some (.v (.int m),stM c0 c1 c2 d n (lD order cut ys u1 u2) (hM [] [] [] [] []) [] [calB [] .len [li order]=some (.int m)]):=by kernel_rfl
theorem r46_s1 (i:Nat)(k:Int)(sk ck:Str)(H:HL):ev c6 60 (.sts bdS) (stM c0 c1 c2 d n (lD order cut ys u1 u2 ++ [(64,.int (Int.ofNat i))]) (hM SK SV LK LV H) [.bool true,.int k,.str sk,.str ck] []) =
  some (.nx,stM c0 c1 c2 d n (lD order cut ys u1 u2 ++ [(64,.int (Int.ofNat i))]) (hM (dput SK SV ck (tu [u1,.int (Int.ofNat i)])).1 (dput SK SV ck (tu [u1,.int (Int.ofNat i)])).2 LK LV H) []
   [SK.length≤500,binV .Add (.lit 179) (.str sk)=some (.str ck),calB [] .str [.int k]=some (.str sk),subV [] (li order) (.int (Int.ofNat i))=some (.int k),cmpV [] .Lt (.int (Int.ofNat i)) (.int (Int.ofNat cut))=some (.bool true)]):=by kernel_rfl
theorem r46_s2 (i:Nat)(k:Int)(sk ck:Str)(H:HL):ev c6 60 (.sts bdS) (stM c0 c1 c2 d n (lD order cut ys u1 u2 ++ [(64,.int (Int.ofNat i))]) (hM SK SV LK LV H) [.bool false,.int k,.str sk,.str ck] []) =
  some (.nx,stM c0 c1 c2 d n (lD order cut ys u1 u2 ++ [(64,.int (Int.ofNat i))]) (hM (dput SK SV ck (tu [u2,.int (Int.ofNat i - Int.ofNat cut)])).1 (dput SK SV ck (tu [u2,.int (Int.ofNat i - Int.ofNat cut)])).2 LK LV H) []
   [SK.length≤500,binV .Add (.lit 179) (.str sk)=some (.str ck),calB [] .str [.int k]=some (.str sk),subV [] (li order) (.int (Int.ofNat i))=some (.int k),cmpV [] .Lt (.int (Int.ofNat i)) (.int (Int.ofNat cut))=some (.bool false)]):=by kernel_rfl
theorem r46_u (loc:List (Nat×AV))(H:HL):ev c6 60 (.ex (.loc 191 (pz 360 16 21))) (stM c0 c1 c2 d n (lD order cut ys u1 u2 ++ loc) H [] [])=some (.v (li [u1,u2]),stM c0 c1 c2 d n (lD order cut ys u1 u2 ++ loc) H [] []):=by kernel_rfl
theorem r46_v (a num:AV)(ss:List AV)(lk:List Str)(lv:List AV)(loc:List (Nat×AV))(H:HL):ev c6 60 (.ex (.attr (.loc 119 (pz 361 21 25)) 27 (pz 361 21 32))) (stM c0 c1 c2 d n (lD order cut ys u1 u2 ++ (64,a) :: (119,unitA num ss lk lv) :: loc) H [] []) =
  some (.v (.nd (.dct lk) lv),stM c0 c1 c2 d n (lD order cut ys u1 u2 ++ (64,a) :: (119,unitA num ss lk lv) :: loc) H [] []):=by kernel_rfl
theorem r46_l (a num v:AV)(ss:List AV)(lk:List Str)(lv:List AV)(l:Str)(H:HL):ev c6 60 (.sts bdL) (stM c0 c1 c2 d n (lD order cut ys u1 u2 ++ [(64,a),(119,unitA num ss lk lv),(111,.str l)]) (hM SK SV LK LV H) [v] []) =
  some (.nx,stM c0 c1 c2 d n (lD order cut ys u1 u2 ++ [(64,a),(119,unitA num ss lk lv),(111,.str l)]) (hM SK SV (dput LK LV l (tu [unitA num ss lk lv,v])).1 (dput LK LV l (tu [unitA num ss lk lv,v])).2 H) []
   [LK.length≤500,dget lk lv l=some v]):=by kernel_rfl
end
structure Conf where
 ns:List Str
 raws:List Raw
 order:List Nat
 cut:Nat
structure Conf.Ok (C:Conf):Prop where
 len:C.raws.length=C.ns.length
 le:C.ns.length≤5
 pos:0 < C.ns.length
 raw:∀r∈C.raws,r.Ok C.ns.length
 nd:C.order.Nodup
 ord:∀k∈C.order,k≤C.ns.length
 all:∀k,k < C.ns.length→k∈C.order
 olen:C.order.length≤10
 lab:∀s∈C.ns,s≠nm 8∧s≠nm 69∧s≠nm 72∧s≠nm 178
 lnd:C.ns.Nodup
def Conf.ent (C:Conf)(k:Nat):Ent:=match C.raws[k]? with
 | some r=>⟨stmtA C.ns k r,compA C.ns k r,labOf C.ns k⟩
 | none=>⟨lastA,lastC,nm 69⟩
def Conf.ents (C:Conf):List Ent:=C.order.map C.ent
noncomputable def Conf.ords (C:Conf):List AV:=C.order.map fun (k:Nat)=>AV.int k
def Conf.u1 (C:Conf):AV:=unitA (.int 1) ((C.ents.take C.cut).map Ent.co) ((C.ents.take C.cut).map Ent.l) (upI (C.ents.take C.cut).length)
def Conf.u2 (C:Conf):AV:=unitA (.int 2) ((C.ents.drop C.cut).map Ent.co) ((C.ents.drop C.cut).map Ent.l) (upI (C.ents.drop C.cut).length)
def Conf.spot (C:Conf)(i:Nat):AV:=if i < C.cut then tu [C.u1,.int (Int.ofNat i)] else tu [C.u2,.int (Int.ofNat i - Int.ofNat C.cut)]
def Conf.spots (C:Conf)(n:Nat):List AV:=(List.range n).map C.spot
section
variable {C:Conf}
theorem Conf.ent_lt (O:C.Ok){k:Nat}(h:k < C.ns.length):∃r,C.raws[k]? =some r∧r.Ok C.ns.length∧C.ent k=⟨stmtA C.ns k r,compA C.ns k r,labOf C.ns k⟩:=by
 have l:k < C.raws.length:=by refine er O.len ?_;exact h
 refine (I12 (C.raws[k]) (List.getElem?_eq_getElem l) (O.raw _ (List.getElem_mem l)) ?_)
 unfold Conf.ent
 exact er (List.getElem?_eq_getElem l) rfl
theorem Conf.ent_many (O:C.Ok):C.ent C.ns.length=⟨lastA,lastC,nm 69⟩:=by
 unfold Conf.ent
 exact er (List.getElem?_eq_none (O.len.symm▸(Nat.le_refl _))) rfl
theorem lab_many {ns:List Str}:labOf ns ns.length=nm 69:=by
 unfold labOf
 refine er (List.getElem?_eq_none (Nat.le_refl _)) ?_
 dsimp only
 exact er (if_pos rfl) rfl
theorem Conf.ent_l (O:C.Ok){k:Nat}(h:k≤C.ns.length):(C.ent k).l=labOf C.ns k:=by
 rcases Nat.lt_or_eq_of_le h with h | h
 ·refine X12 (C.ent_lt O h) fun r _ _ e=>?_;exact er e rfl
 ·exact er h (er (C.ent_many O) (er lab_many rfl))
theorem lab_ne (O:C.Ok){k:Nat}(h:k≤C.ns.length):labOf C.ns k≠nm 8:=by
 rcases Nat.lt_or_eq_of_le h with h | h
 ·refine er (lab_lt h) ?_;exact (O.lab _ (List.getElem_mem h)).1
 ·refine er h (er lab_many ?_);exact fun q=>absurd (nm_inj q) (by decide)
theorem lab_inj (O:C.Ok){j k:Nat}(hj:j≤C.ns.length)(hk:k≤C.ns.length)(e:labOf C.ns j=labOf C.ns k):j=k:=by
 rcases Nat.lt_or_eq_of_le hj with hj | hj <;> rcases Nat.lt_or_eq_of_le hk with hk | hk
 ·rw [lab_lt hj,lab_lt hk] at e
  exact (List.getElem_inj (h₀:=hj) (h₁:=hk) O.lnd).mp e
 ·rw [lab_lt hj,hk,lab_many] at e
  exact absurd e (O.lab _ (List.getElem_mem hj)).2.1
 ·rw [lab_lt hk,hj,lab_many] at e
  exact absurd e.symm (O.lab _ (List.getElem_mem hk)).2.1
 ·exact er hj (er hk rfl)
theorem Conf.ent_ok (O:C.Ok){k:Nat}(h:k≤C.ns.length):EntOk (C.ent k):=by
 have hl:=lab_ne O h
 rcases Nat.lt_or_eq_of_le h with h | h
 ·refine X12 (C.ent_lt O h) fun r _ hr e=>?_
  refine er e ?_
  exact ⟨fun H hH=>SPcs_st hr.form hH,fro_stmtA,fro_compA,(I51 _ _ _ _ _ rfl (.inl rfl)),hl⟩
 ·refine er h (er (C.ent_many O) ?_)
  exact ⟨fun H hH=>SPcs_last hH,fro_lastA,fro_lastC,(I51 _ _ _ _ _ rfl (.inr ⟨69,rfl,rfl⟩)),fun (q:nm 69=nm 8)=>absurd (nm_inj q) (by decide)⟩
theorem Conf.ents_ok (O:C.Ok):∀e∈C.ents,EntOk e:=fun e m=>by
 refine X11 (List.mem_map.mp m) fun k mk q0=>?_;subst q0
 exact C.ent_ok O (O.ord k mk)
theorem Conf.ents_l (O:C.Ok):C.ents.map Ent.l=C.order.map (labOf C.ns):=by
 unfold Conf.ents
 refine er List.map_map ?_
 exact List.map_congr_left fun k mk=>C.ent_l O (O.ord k mk)
theorem Conf.lab_nd (O:C.Ok):(C.ents.map Ent.l).Nodup:=by
 refine er (C.ents_l O) ?_
 unfold List.Nodup
 rw [List.pairwise_map]
 have key:∀l:List Nat,l.Nodup→(∀k∈l,k≤C.ns.length)→l.Pairwise fun a b=>labOf C.ns a≠labOf C.ns b:=by
  intro l
  induction l with
  | nil=>intro _ _;exact .nil
  | cons a l ih=>
   intro nd h
   refine X01 (List.nodup_cons.mp nd) fun n1 n2=>?_
   exact List.pairwise_cons.mpr ⟨fun b mb q=>n1 ((lab_inj O (h a (.head _)) (h b (.tail _ mb)) q).symm▸mb),ih n2 fun k mk=>h k (.tail _ mk)⟩
 exact key _ O.nd O.ord
theorem Conf.ents_len:C.ents.length=C.order.length:=by unfold Conf.ents;rw [List.length_map]
theorem cn_inj {a b:Nat}(ha:a < 10)(hb:b < 10)(e:cnS a=cnS b):a=b:=by
 have:=congrArg Str.cps e
 unfold cnS at this
 rw [cat_cps nm179 ha,cat_cps nm179 hb] at this
 have:=congrArg (fun x=>x.toList) this
 simp at this
 exact this
theorem Conf.sk_nd (O:C.Ok):(C.order.map cnS).Nodup:=by
 unfold List.Nodup
 rw [List.pairwise_map]
 have key:∀l:List Nat,l.Nodup→(∀k∈l,k≤C.ns.length)→l.Pairwise fun a b=>cnS a≠cnS b:=by
  intro l
  induction l with
  | nil=>intro _ _;exact .nil
  | cons a l ih=>
   intro nd h
   refine X01 (List.nodup_cons.mp nd) fun n1 n2=>?_
   have le:=O.le
   exact List.pairwise_cons.mpr ⟨fun b mb q=>n1 (by have h1:=h a (.head _);have h2:=h b (.tail _ mb);refine er (cn_inj (o44 le h1) (o44 le h2) q) ?_;exact mb),ih n2 fun k mk=>h k (.tail _ mk)⟩
 exact key _ O.nd O.ord
theorem fro_unit {num:AV}{ss:List AV}{lk:List Str}{lv:List AV}(h1:Fro num)(h2:FroL ss)(h3:FroL lv):Fro (unitA num ss lk lv):=.nd (.cons (.nd (.cons h1 (.cons (.nd h2) (.cons (.nd h3) .nil)))) .nil)
theorem Conf.fro_u1 (O:C.Ok):Fro C.u1:=fro_unit .int (FroL.map fun e m=>(C.ents_ok O e (List.mem_of_mem_take m)).fco) fro_upI
theorem Conf.fro_u2 (O:C.Ok):Fro C.u2:=fro_unit .int (FroL.map fun e m=>(C.ents_ok O e (List.mem_of_mem_drop m)).fco) fro_upI
theorem Conf.fro_spot (O:C.Ok){i:Nat}:Fro (C.spot i):=by
 unfold Conf.spot
 split
 ·exact .nd (.cons (C.fro_u1 O) (.cons .int .nil))
 ·exact .nd (.cons (C.fro_u2 O) (.cons .int .nil))
theorem Conf.fro_spots (O:C.Ok){n:Nat}:FroL (C.spots n):=FroL.map fun e m=>C.fro_spot O
theorem Conf.spots_len {n:Nat}:(C.spots n).length=n:=by unfold Conf.spots;simp
theorem Conf.spots_succ {n:Nat}:C.spots (n + 1)=C.spots n ++ [C.spot n]:=by unfold Conf.spots;refine er List.range_succ (er List.map_append ?_);rfl
theorem Conf.spots_at {n i:Nat}(h:i < n):(C.spots n)[i]? =some (C.spot i):=by
 unfold Conf.spots
 refine er (List.getElem?_map) (er (List.getElem?_range h) ?_);rfl
theorem Conf.fro_ords:FroL C.ords:=FroL.map fun e m=>.int
theorem Conf.ord_at {i:Nat}{k:Nat}(e:C.order[i]? =some k)(l:i < 1000000):subV [] (li C.ords) (.int (Int.ofNat i))=some (.int k):=by
 refine subL.trans ?_
 unfold idx
 refine er (if_pos (by show (-1000000:Int) < (i:Int)∧(i:Int) < 1000000;exact o159 l)) (er (if_pos (by show (0:Int)≤(i:Int);exact oZ)) ?_)
 show C.ords[i]? =_
 unfold Conf.ords
 refine er (List.getElem?_map) (er e ?_);rfl
theorem take_min {α:Type}(l:List α)(n:Nat):l.take (min n l.length)=l.take n:=by
 rcases Nat.le_total n l.length with h | h
 ·exact er (Nat.min_eq_left h) rfl
 ·exact er (Nat.min_eq_right h) (er (List.take_of_length_le h) (er (List.take_of_length_le (Nat.le_refl _)) rfl))
theorem drop_min {α:Type}(l:List α)(n:Nat):l.drop (min n l.length)=l.drop n:=by
 rcases Nat.le_total n l.length with h | h
 ·exact er (Nat.min_eq_left h) rfl
 ·exact er (Nat.min_eq_right h) (er (List.drop_of_length_le h) (er (List.drop_of_length_le (Nat.le_refl _)) rfl))
theorem Conf.sp1 (O:C.Ok):SPq [li (((C.ents.map Ent.st).take (min C.cut (C.ents.map Ent.st).length)).drop 0),.int 1] C.u1:=by
 refine (I24 (C.ents.take C.cut) 1 ?_ ?_ (fun e m=>C.ents_ok O e (List.mem_of_mem_take m)) ?_ rfl)
 ·rw [take_min,List.drop_zero,List.map_take]
 ·refine er List.length_take (er C.ents_len ?_);have:=O.olen;exact o160 this
 ·refine er List.map_take ?_;exact (C.lab_nd O).sublist (List.take_sublist _ _)
theorem Conf.sp2 (O:C.Ok):SPq [li (((C.ents.map Ent.st).take (C.ents.map Ent.st).length).drop (min C.cut (C.ents.map Ent.st).length)),.int 2] C.u2:=by
 refine (I24 (C.ents.drop C.cut) 2 ?_ ?_ (fun e m=>C.ents_ok O e (List.mem_of_mem_drop m)) ?_ rfl)
 ·rw [List.take_of_length_le (Nat.le_refl _),drop_min,List.map_drop]
 ·refine er List.length_drop (er C.ents_len ?_);have:=O.olen;exact o161 this
 ·refine er List.map_drop ?_;exact (C.lab_nd O).sublist (List.drop_sublist _ _)
end
theorem FzC.keep {n0:Nat}{H l m:HL}{c:Option (Tg×List AV)}(h:∀t xs,c=some (t,xs)→FzL n0 [] xs xs)(r:FzC n0 H l m):FzC n0 H (c :: l) (c :: m):=by
 cases c with
 | none=>exact .drop r
 | some c=>exact .cons (h _ _ rfl).any r
def csn355':List (Str×NameKind):=[(Str.ofString ".0",.local),(nm 2,.local),(nm 24,.globalImplicit),(nm 183,.globalImplicit),(nm 182,.free),(nm 190,.free),(nm 175,.free)]
theorem csn355_eq:csn 355=csn355':=by decide +kernel
theorem clos355 {env:Env}{a3 a4 a5:Addr}(l3:env.cells.lookup (nm 182)=some a3)(l4:env.cells.lookup (nm 175)=some a4)(l5:env.cells.lookup (nm 190)=some a5):closureFor (csc 355) env=pure [(nm 175,a4),(nm 190,a5),(nm 182,a3)]:=by
 unfold closureFor cellOf
 refine er (show (csc 355).names=csn355' from csn355_eq) ?_
 unfold csn355'
 simp only [List.forIn_cons,List.forIn_nil,l3,l4,l5]
 rfl
theorem cs355:(csn 355).lookup (nm 2)=some .local∧(csn 355).lookup (nm 24)=some .globalImplicit∧(csn 355).lookup (nm 183)=some .globalImplicit∧(csn 355).lookup (nm 182)=some .free∧(csn 355).lookup (nm 190)=some .free∧(csn 355).lookup (nm 175)=some .free:=by decide +kernel
theorem cs355_cell:∀q∈csn 355,q.2≠.cell:=by decide +kernel
theorem cs355_names:∀q∈csn 355,q.2=.local→(csn 355).lookup q.1=some .local:=by decide +kernel
theorem cs355_no:((csn 355).any fun (n,k)=>n == nm 164 && (k == .local || k == .cell))=false:=by decide +kernel
theorem fnm45:fnm 45=183:=by kernel_rfl
theorem bnm_len:bnm .len=24:=by kernel_rfl
def Conf.d (C:Conf):AV:=li (C.raws.map Raw.val)
def Conf.n (C:Conf):AV:=li (astr C.ns)
theorem fro_raw {r:Raw}:Fro r.val:=by
 refine .nd (.cons .int (.cons .str (.cons (.nd ?_) .nil)))
 unfold Raw.ways
 split
 ·exact .cons (.nd (.cons .int (.cons .int .nil))) .nil
 ·exact .cons (.nd (.cons .int (.cons .int .nil))) (.cons (.nd (.cons .int (.cons .int .nil))) .nil)
theorem Conf.fro_d {C:Conf}:Fro C.d:=.nd (FroL.map fun _ _=>fro_raw)
theorem Conf.fro_n {C:Conf}:Fro C.n:=.nd (FroL.map fun _ _=>.str)
section
variable {prog:Program}{w:World}{K:Frag}{c0 c1 c2:Option (Tg×List AV)}{C:Conf}
theorem l46_a (J:Sound prog w K c6):Trip prog w K 60 (b46.take 2) (stL c0 c1 c2 C.d C.n (lA C.ords C.cut) [] [] [] [] [] [] []) fun r=>r=(.nx,stL c0 c1 c2 C.d C.n (lA C.ords C.cut) [lastA] [] [] [] [] [] []):=by
 refine Trip.given fun low=>?_
 refine Trip.fz (Trip.ev J (r46_a c0 c1 c2 C.d C.n C.ords C.cut) .nil) fun r hr=>?_
 subst hr
 refine (I12 (.nx,stL c0 c1 c2 C.d C.n (lA C.ords C.cut) [lastA] [] [] [] [] [] []) .nx ⟨rfl,rfl,by show 9≤11;decide,?_,?_,?_⟩ rfl)
 ·refine .keep (low 0) (.keep (low 1) (.keep (low 2) (.cons (.cons C.fro_d.fz .nil) (.cons (.cons C.fro_n.fz .nil) (.cons (.cons (.ref rfl rfl (.cons (.ref rfl rfl ?_) .nil)) .nil) (.cons .nil (.cons .nil (.cons .nil .nil))))))))
  exact .cons .lit (.cons .none (.cons .none (.cons .bool (.cons .none (.cons .none (.cons .none (.cons .none (.cons .int (.cons .lit .nil)))))))))
 ·exact .cons (.nd C.fro_ords.fz) (.cons .int .nil)
 ·exact .cons (.low rfl) (.cons (.low rfl) (.cons (.low rfl) (.cons (.low rfl) (.cons (.low rfl) (.cons (.low rfl) .nil)))))
theorem cel_find {x:Fx}{σ:St}{Z:Heap}{ad:List Addr}{h:Heap}(S:Sit prog w K x σ Z ad h){k r:Nat}(e:lkA k σ.cel=some (.ref r)):∃c,x.env.cells.lookup (nm k)=some c:=by
 refine X11 (S.cel k _ e) fun c h1 _=>?_;exact ⟨c,h1⟩
theorem l46_b (G:Good K)(J:Sound prog w K c6)(O:C.Ok){Ls:Nat}(Cs:Con prog w K Ls 45 SPst fun _ H=>H){D:Nat}(hD:900≤D + Ls)(hD60:60≤D) :
  Trip prog w K D ((b46.drop 2).take 1) (stL c0 c1 c2 C.d C.n (lA C.ords C.cut) [lastA] [] [] [] [] [] []) fun r=>r=(.nx,stL c0 c1 c2 C.d C.n (lB C.ords C.cut (C.ents.map Ent.st)) [lastA] [] [] [] [] [] []):=by
 have fe:FroL (C.ents.map Ent.st):=FroL.map fun e m=>(C.ents_ok O e m).fst
 have lenO:C.ords.length=C.order.length:=by unfold Conf.ords;rw [List.length_map]
 have olen:=O.olen
 refine Trip.given fun low=>?_
 refine Trip.fz (P:=fun r=>r=(.nx,{stL c0 c1 c2 C.d C.n (lA C.ords C.cut) [lastA] [] [] [] [] [] [] with loc:=stA 164 (.ref 9) (lA C.ords C.cut),H:=(stL c0 c1 c2 C.d C.n (lA C.ords C.cut) [lastA] [] [] [] [] [] []).H ++ [some (.lst,C.ents.map Ent.st)]})) ?_ fun r hr=>?_
 ·refine Trip.comp (xs:=C.ords) (ys:=C.ents.map Ent.st) (Src.mono (src_list J (r46_i c0 c1 c2 C.d C.n C.ords C.cut) .nil (by rfl)) hD60)
   (fun os=>LowH.fzs (σ:=stL c0 c1 c2 C.d C.n (lA C.ords C.cut) [lastA] [] [] [] [] [] []) low os (.cons (.nd C.fro_ords.fz) (.cons .int .nil)) (.cons (.low rfl) (.cons (.low rfl) (.cons (.low rfl) (.cons (.low rfl) (.cons (.low rfl) (.cons (.low rfl) .nil)))))))
   cs355_cell cs355_names cs355.1 (o97 lenO olen) (by rw [List.length_map,C.ents_len,lenO]) rfl fe (by rfl) cs355_no ?_
  intro x Z ad s Ox B S
  refine X1 (cel_find S (k:=182) (r:=3) rfl) fun a3 l3=>?_
  refine X1 (cel_find S (k:=175) (r:=4) rfl) fun a4 l4=>?_
  refine X1 (cel_find S (k:=190) (r:=5) rfl) fun a5 l5=>?_
  have nn:∀{a b:Nat},a≠b→(nm a == nm b)=false:=fun h=>beq_eq_false_iff_ne.mpr fun q=>h (nm_inj q)
  refine (I11 _ (clos355 l3 l4 l5) (fun i a b ha hb=>?_))
  have q3:∀c,x.env.cells.lookup (nm 182)=some c→([(nm 175,a4),(nm 190,a5),(nm 182,a3)]:List (Str×Addr)).lookup (nm 182)=some c:=fun c e=>by
   rw [l3] at e;cases Option.some.inj e;exact rfl
  have q4:∀c,x.env.cells.lookup (nm 175)=some c→([(nm 175,a4),(nm 190,a5),(nm 182,a3)]:List (Str×Addr)).lookup (nm 175)=some c:=fun c e=>by
   rw [l4] at e;cases Option.some.inj e;exact rfl
  have q5:∀c,x.env.cells.lookup (nm 190)=some c→([(nm 175,a4),(nm 190,a5),(nm 182,a3)]:List (Str×Addr)).lookup (nm 190)=some c:=fun c e=>by
   rw [l5] at e;cases Option.some.inj e;exact rfl
  unfold Conf.ords at ha
  unfold Conf.ents at hb
  rw [List.getElem?_map] at ha hb
  refine X11 (Option.map_eq_some_iff.mp ha) fun k hk q0=>?_;subst q0
  rw [List.getElem?_map,hk] at hb
  replace hb:some (C.ent k).st=some b:=hb
  cases Option.some.inj hb
  have kle:=O.ord k (List.mem_of_getElem? hk)
  have le5:=O.le
  have rl:(C.raws.map Raw.val).length=C.ns.length:=by rw [List.length_map,O.len]
  have eD:∀{p:Pos},EltOk prog w K x (stL c0 c1 c2 C.d C.n (lA C.ords C.cut) [lastA] [] [] [] [] [] []) (.cel 182 p) 355 [(nm 175,a4),(nm 190,a5),(nm 182,a3)] 2 (.int k) C.d:=elt_cel Ox cs355.2.2.2.1 rfl (r:=3) rfl rfl q3
  have eK:∀{p:Pos},EltOk prog w K x (stL c0 c1 c2 C.d C.n (lA C.ords C.cut) [lastA] [] [] [] [] [] []) (.loc 2 p) 355 [(nm 175,a4),(nm 190,a5),(nm 182,a3)] 2 (.int k) (.int k):=elt_loc Ox cs355.1
  have eN:∀{p:Pos},EltOk prog w K x (stL c0 c1 c2 C.d C.n (lA C.ords C.cut) [lastA] [] [] [] [] [] []) (.cel 175 p) 355 [(nm 175,a4),(nm 190,a5),(nm 182,a3)] 2 (.int k) C.n:=elt_cel Ox cs355.2.2.2.2.2 rfl (r:=4) rfl rfl q4
  have eL:∀{p:Pos},EltOk prog w K x (stL c0 c1 c2 C.d C.n (lA C.ords C.cut) [lastA] [] [] [] [] [] []) (.cel 190 p) 355 [(nm 175,a4),(nm 190,a5),(nm 182,a3)] 2 (.int k) lastA:=elt_cel Ox cs355.2.2.2.2.1 rfl (r:=5) rfl rfl q5
  have eLen:∀{p p':Pos},EltOk prog w K x (stL c0 c1 c2 C.d C.n (lA C.ords C.cut) [lastA] [] [] [] [] [] []) (.calb .len p [(.cel 182 (pz 355 34 39))] p') 355 [(nm 175,a4),(nm 190,a5),(nm 182,a3)] 2 (.int k) (.int C.ns.length):=elt_calb Ox G (bnm_len.symm▸cs355.2.1) rfl (.cons eD .nil) fun H=>by
   show (if (C.raws.map Raw.val).length≤1000000 then some (AV.int (C.raws.map Raw.val).length) else none)=_
   exact er rl (er (if_pos (Nat.le_trans (by assumption) (by decide))) rfl)
  refine elt_ife (c:=decide (k=C.ns.length)) eK eLen (fun H=>?_) ?_
  ·show some (AV.bool (decide ((k:Int)=C.ns.length)))=_
   congr 2
   exact decide_eq_decide.mpr (o98)
  ·by_cases hk2:k=C.ns.length
   ·refine er (decide_eq_true hk2) (er (if_pos rfl) (er hk2 (er (C.ent_many O) ?_)))
    refine re hk2 ?_
    exact eL
   ·refine er (decide_eq_false hk2) (er (if_neg (by decide)) ?_)
    refine X12 (C.ent_lt O (Nat.lt_of_le_of_ne kle hk2)) fun r hr rok e=>?_
    refine er e ?_
    refine elt_calf Ox G (o27 hD B) Cs (fnm45.symm▸cs355.2.2.1) (by decide +kernel) (.cons eK (.cons (elt_sub eD eK (b:=r.val) fun H=>?_) (.cons eN .nil))) fun H hH=>?_
    ·refine subL.trans ?_
     unfold idx
     rw [if_pos (o99 kle le5),if_pos (oZ),Int.toNat_natCast,List.getElem?_map,hr];rfl
    ·exact ⟨hH,C.ns,k,r,rfl,O.le,Nat.lt_of_le_of_ne kle hk2,rok,rfl⟩
 ·subst hr
  refine (I12 (.nx,stL c0 c1 c2 C.d C.n (lB C.ords C.cut (C.ents.map Ent.st)) [lastA] [] [] [] [] [] []) .nx ⟨rfl,rfl,by show 9≤10;decide,low.fzc _ _,?_,?_⟩ rfl)
  ·exact .cons (.nd C.fro_ords.fz) (.cons .int (.cons (.ref rfl rfl fe.fz) .nil))
  ·exact .cons (.low rfl) (.cons (.low rfl) (.cons (.low rfl) (.cons (.low rfl) (.cons (.low rfl) (.cons (.low rfl) .nil)))))
theorem l46_c (J:SoundL prog w K c5 441)(O:C.Ok):Trip prog w K 501 ((b46.drop 3).take 1) (stL c0 c1 c2 C.d C.n (lB C.ords C.cut (C.ents.map Ent.st)) [lastA] [] [] [] [] [] []) fun r=>r=(.nx,stL c0 c1 c2 C.d C.n (lC C.ords C.cut (C.ents.map Ent.st) C.u1 C.u2) [lastA] [] [] [] [] [] []):=by
 have sm:small (C.ents.map Ent.st):=by show List.length _≤5000;rw [List.length_map,C.ents_len];have:=O.olen;exact Nat.le_trans (by assumption) (by decide)
 exact (Trip.orc [C.u1,C.u2] [] (Trip.evL J (r46_c c0 c1 c2 C.d C.n C.ords C.cut (C.ents.map Ent.st) C.u1 C.u2) (.cons ⟨rfl,C.sp2 O⟩ (.cons sm (.cons ⟨rfl,C.sp1 O⟩ (.cons sm .nil)))))).clean fun r hr=>by refine er hr ?_;rfl
theorem l46_d (J:Sound prog w K c6):Trip prog w K 60 ((b46.drop 4).take 1) (stL c0 c1 c2 C.d C.n (lC C.ords C.cut (C.ents.map Ent.st) C.u1 C.u2) [lastA] [] [] [] [] [] []) fun r=>r=(.nx,stM c0 c1 c2 C.d C.n (lD C.ords C.cut (C.ents.map Ent.st) C.u1 C.u2) (hM [] [] [] [] []) [] []):=
 Trip.ev J (r46_d c0 c1 c2 C.d C.n C.ords C.cut (C.ents.map Ent.st) C.u1 C.u2) .nil
end
theorem LowH.cons {n:Nat}{c:Option (Tg×List AV)}{H:HL}(h:LowC n c)(k:LowH n H):LowH n (c :: H):=fun r t xs e=>by
 cases r with
 | zero=>exact h t xs e
 | succ r=>exact k r t xs e
theorem LowH.nil {n:Nat}:LowH n []:=fun r t xs e=>by exact noS e
theorem LowH.head {n:Nat}{c:Option (Tg×List AV)}{H:HL}(h:LowH n (c :: H)):LowC n c:=fun t xs e=>h 0 t xs e
theorem LowH.tail {n:Nat}{c:Option (Tg×List AV)}{H:HL}(h:LowH n (c :: H)):LowH n H:=fun r t xs e=>h (r + 1) t xs e
theorem LowC.some {n:Nat}{t:Tg}{xs:List AV}(h:FzL n [] xs xs):LowC n (some (t,xs)):=fun _ _ e=>by cases e;exact h
theorem LowH.objs {n:Nat}{os:List Obj}:LowH n (objs os):=fun r t xs e=>by
 refine X12 (getH_objs e) fun o _ q9 q1=>?_;subst q9;subst q1
 exact .nil
theorem LowC.more {n m:Nat}{c:Option (Tg×List AV)}(h:LowC n c)(l:n≤m):LowC m c:=fun t xs e=>(h t xs e).more l
section
variable {c0 c1 c2:Option (Tg×List AV)}{C:Conf}
theorem lowM {n:Nat}(h0:LowC n c0)(h1:LowC n c1)(h2:LowC n c2)(hn:Nat.ble 13 n=true){loc:List (Nat×AV)}{SK LK:List Str}{SV LV:List AV}(hS:FroL SV)(hL:FroL LV){H:HL}(hH:LowH n H){orc:List AV}{obl:List Prop} :
  LowH n (stM c0 c1 c2 C.d C.n loc (hM SK SV LK LV H) orc obl).H:=by
 have lo:∀r,Nat.blt r 13=true→FzL n [] [.ref r] [.ref r]:=fun r h=>.cons (.low (Nat.ble_eq.mpr (Nat.le_trans (Nat.le_of_ble_eq_true h) (Nat.le_of_ble_eq_true hn)))) .nil
 exact .cons h0 (.cons h1 (.cons h2 (.cons (.some (.cons C.fro_d.fz .nil)) (.cons (.some (.cons C.fro_n.fz .nil)) (.cons (.some (.cons fro_lastA.fz .nil)) (.cons (.some (lo 12 rfl)) (.cons (.some (lo 9 rfl)) (.cons (.some (lo 11 rfl))
  (.cons (.some hS.fz) (.cons (.some hL.fz) (.cons (.some (.cons .lit (.cons .lit .nil))) (.cons (.some .nil) hH))))))))))))
theorem lowK {n:Nat}(hn:Nat.ble 6 n=true){H:HL}:∀{c:List (Nat×AV)},c= [(182,.ref 3),(175,.ref 4),(190,.ref 5),(193,.ref 6),(194,.ref 7),(195,.ref 8)]→Nat.ble 9 n=true→FzN n H c c:=fun h h9=>by
 have lo:∀r,Nat.blt r 9=true→Fz n H (.ref r) (.ref r):=fun r h=>.low (Nat.ble_eq.mpr (Nat.le_trans (Nat.le_of_ble_eq_true h) (Nat.le_of_ble_eq_true h9)))
 subst h
 exact .cons (lo 3 rfl) (.cons (lo 4 rfl) (.cons (lo 5 rfl) (.cons (lo 6 rfl) (.cons (lo 7 rfl) (.cons (lo 8 rfl) .nil)))))
theorem lowD {n:Nat}(hn:Nat.ble 13 n=true)(O:C.Ok){tl:List (Nat×AV)}(ht:FzN n [] tl tl):FzN n [] (lD C.ords C.cut (C.ents.map Ent.st) C.u1 C.u2 ++ tl) (lD C.ords C.cut (C.ents.map Ent.st) C.u1 C.u2 ++ tl):=by
 have fe:FroL (C.ents.map Ent.st):=FroL.map fun e m=>(C.ents_ok O e m).fst
 exact .cons (.nd C.fro_ords.fz) (.cons .int (.cons (.nd fe.fz) (.cons (.nd (.cons (C.fro_u1 O).fz (.cons (C.fro_u2 O).fz .nil))) (.cons (.low (Nat.ble_eq.mpr (Nat.le_trans (by decide) (Nat.le_of_ble_eq_true hn)))) ht))))
end
section
variable {prog:Program}{w:World}{K:Frag}{c0 c1 c2:Option (Tg×List AV)}{C:Conf}
theorem Src.orc {D k:Nat}{it:E}{σ:St}{xs:List AV}(o:List AV)(b:List Prop)(h:Src prog w K D it {σ with orc:=o,obl:=b} xs k):Src prog w K D it σ xs k:=by
 intro x Z ad s Q X O B S kk
 refine h O B (S.orc o b) fun Z' h' tk I its fp P Sx os sub T=>kk Z' h' tk I its fp P Sx os sub ⟨T.walks,T.len,T.olen,T.start,T.live,T.fps,T.vals,T.sit.orc σ.orc σ.obl⟩
theorem l46_e (G:Good K)(J:Sound prog w K c6)(O:C.Ok):Trip prog w K 60 ((b46.drop 5).take 1) (stM c0 c1 c2 C.d C.n (lD C.ords C.cut (C.ents.map Ent.st) C.u1 C.u2) (hM [] [] [] [] []) [] [])
  fun r=>∃a,Fro a∧r=(.nx,stM c0 c1 c2 C.d C.n (lD C.ords C.cut (C.ents.map Ent.st) C.u1 C.u2 ++ [(64,a)]) (hM (C.order.map cnS) (C.spots C.order.length) [] [] []) [] []):=by
 have olen:=O.olen
 have lenO:C.ords.length=C.order.length:=by unfold Conf.ords;rw [List.length_map]
 refine Trip.given fun low=>?_
 have h0:LowC 13 c0:=low.head
 have h1:LowC 13 c1:=low.tail.head
 have h2:LowC 13 c2:=low.tail.tail.head
 refine er b46_5 ?_
 refine (Trip.forl (k:=1) (xs:=upN C.order.length) (fun i σ=>i≤C.order.length∧∃tl,((tl= []∧i=0)∨∃a,tl= [(64,a)]∧Fro a)∧σ=stM c0 c1 c2 C.d C.n (lD C.ords C.cut (C.ents.map Ent.st) C.u1 C.u2 ++ tl) (hM ((C.order.map cnS).take i) (C.spots i) [] [] []) [] [])
  ?_ (I0111 (Nat.zero_le _) ([]) (.inl ⟨rfl,rfl⟩) rfl) (fun i σ h=>?_) (fun i σ os h _=>?_) fun i a σ os h e l=>?_).mono (Nat.le_refl _) fun r hr=>?_
 ·refine Src.orc [.int C.order.length] [] ?_
  exact src_range (n:=60) (fp:=(pz 358 14 19)) (p:=(pz 358 14 31)) G J rfl (r46_n c0 c1 c2 C.d C.n C.ords C.cut (C.ents.map Ent.st) C.u1 C.u2 C.order.length) (.cons (by exact er (cmp_len (o118 olen lenO)) (er lenO rfl)) .nil) (by rfl) (oZ) (o119 olen)
 ·refine X0111 h fun _ tl _ q0=>?_;subst q0;rfl
 ·obtain ⟨_,tl,ht,rfl⟩:=h
  refine LowH.fzs (σ:=stM c0 c1 c2 C.d C.n (lD C.ords C.cut (C.ents.map Ent.st) C.u1 C.u2 ++ tl) (hM ((C.order.map cnS).take i) (C.spots i) [] [] []) [] []) (lowM h0 h1 h2 rfl (C.fro_spots O) .nil .nil) os (lowD rfl O ?_) (lowK rfl rfl rfl)
  rcases ht with ⟨rfl,_⟩ | ⟨a,rfl,fa⟩
  ·exact .nil
  ·exact .cons fa.fz .nil
 ·obtain ⟨hi,tl,ht,rfl⟩:=h
  have hlt:i < C.order.length:=by
   have:=(List.getElem?_eq_some_iff.mp e).1
   unfold upN at this
   rwa [List.length_map,List.length_range] at this
  have ea:a=.int (Int.ofNat i):=by
   unfold upN at e
   rw [List.getElem?_map,List.getElem?_range hlt] at e
   cases e;rfl
  subst ea
  obtain ⟨k,hk⟩:∃k,C.order[i]? =some k:=⟨_,List.getElem?_eq_getElem hlt⟩
  have kle:=O.ord k (List.mem_of_getElem? hk)
  have le5:=O.le
  have hi2:(C.order.map cnS)[i]? =some (cnS k):=by refine er (List.getElem?_map) (er hk ?_);rfl
  have hnew:cnS k ∉ (C.order.map cnS).take i:=fun m=>by
   obtain ⟨j,hj⟩:=List.getElem?_of_mem m
   have hji:j < i:=by have:=(List.getElem?_eq_some_iff.mp hj).1;rw [List.length_take] at this;exact o7 this
   rw [List.getElem?_take,if_pos hji] at hj
   obtain ⟨l1,e1⟩:=List.getElem?_eq_some_iff.mp hj
   obtain ⟨l2,e2⟩:=List.getElem?_eq_some_iff.mp hi2
   have:=(List.getElem_inj (h₀:=l1) (h₁:=l2) (C.sk_nd O)).mp (e1.trans e2.symm)
   exact o28 hji this
  have vlen:((C.order.map cnS).take i).length=(C.spots i).length:=by rw [List.length_take,List.length_map,C.spots_len];exact o120 hlt
  have hl5:((C.order.map cnS).take i).length≤500:=by refine er List.length_take ?_;exact o121 olen hlt
  have htk:(C.order.map cnS).take (i + 1)=(C.order.map cnS).take i ++ [cnS k]:=by refine er List.take_add_one (er hi2 ?_);rfl
  have ob:∀q,q=decide (i < C.cut)→AllP [((C.order.map cnS).take i).length≤500,binV .Add (.lit 179) (.str (numS k))=some (.str (cnS k)),calB [] .str [.int k]=some (.str (numS k)),subV [] (li C.ords) (.int (Int.ofNat i))=some (.int k),cmpV [] .Lt (.int (Int.ofNat i)) (.int (Int.ofNat C.cut))=some (.bool q)]:=fun q hq=>
   .cons hl5 (.cons (cat_ok (cat_len nm179 (o122 kle le5))) (.cons (str_ok (o123 kle le5)) (.cons (C.ord_at hk (o124 olen hlt)) (.cons (lt_ok hq) .nil))))
  have T:Trip prog w K 60 bdS (stM c0 c1 c2 C.d C.n (lD C.ords C.cut (C.ents.map Ent.st) C.u1 C.u2 ++ [(64,.int (Int.ofNat i))]) (hM ((C.order.map cnS).take i) (C.spots i) [] [] (objs os)) [] [])
    fun r=>r=(.nx,stM c0 c1 c2 C.d C.n (lD C.ords C.cut (C.ents.map Ent.st) C.u1 C.u2 ++ [(64,.int (Int.ofNat i))]) (hM ((C.order.map cnS).take (i + 1)) (C.spots (i + 1)) [] [] (objs os)) [] []):=by
   refine er htk (er C.spots_succ ?_)
   unfold Conf.spot
   by_cases q:i < C.cut
   ·refine er (if_pos q) ?_
    have hr:=r46_s1 c0 c1 c2 C.d C.n C.ords C.cut (C.ents.map Ent.st) C.u1 C.u2 ((C.order.map cnS).take i) [] (C.spots i) [] i k (numS k) (cnS k) (objs os)
    rw [dput_new vlen hnew] at hr
    exact (Trip.orc [.bool true,.int k,.str (numS k),.str (cnS k)] [] (Trip.ev J hr (ob true (by simp [q])))).clean fun r hr=>by refine er hr ?_;rfl
   ·refine er (if_neg q) ?_
    have hr:=r46_s2 c0 c1 c2 C.d C.n C.ords C.cut (C.ents.map Ent.st) C.u1 C.u2 ((C.order.map cnS).take i) [] (C.spots i) [] i k (numS k) (cnS k) (objs os)
    rw [dput_new vlen hnew] at hr
    exact (Trip.orc [.bool false,.int k,.str (numS k),.str (cnS k)] [] (Trip.ev J hr (ob false (by simp [q])))).clean fun r hr=>by refine er hr ?_;rfl
  have T2:=T.mono (Nat.le_refl _) (P':=fun r=>∃σ',r=(.nx,σ'.with os)∧(i + 1≤C.order.length∧∃tl,((tl= []∧i + 1=0)∨∃a,tl= [(64,a)]∧Fro a)∧σ'=stM c0 c1 c2 C.d C.n (lD C.ords C.cut (C.ents.map Ent.st) C.u1 C.u2 ++ tl) (hM ((C.order.map cnS).take (i + 1)) (C.spots (i + 1)) [] [] []) [] [])∧σ'.H.length=13)
   fun r hr=>(I12 _ hr ⟨hlt,_,.inr ⟨_,rfl,.int⟩,rfl⟩ rfl)
  rcases ht with ⟨rfl,_⟩ | ⟨a,rfl,_⟩
  ·exact T2
  ·exact T2
 ·refine X1211 hr fun σ' q0 _ tl ht q1=>?_;subst q0;subst q1
  have ln:(upN C.order.length).length=C.order.length:=by unfold upN;rw [List.length_map,List.length_range]
  rw [ln] at ht ⊢
  rcases ht with ⟨_,h⟩ | ⟨a,rfl,fa⟩
  ·have:=List.length_pos_of_mem (O.all 0 O.pos)
   omega
  ·refine (I11 a fa ?_)
   exact er (List.take_of_length_le (by rw [List.length_map];exact Nat.le_refl _)) rfl
end
def valsU (u:AV)(n:Nat):List AV:=(List.range n).map fun j=>tu [u,.int (Int.ofNat j)]
theorem valsU_succ {u:AV}{n:Nat}:valsU u (n + 1)=valsU u n ++ [tu [u,.int (Int.ofNat n)]]:=by unfold valsU;refine er List.range_succ (er List.map_append ?_);rfl
theorem valsU_len {u:AV}{n:Nat}:(valsU u n).length=n:=by unfold valsU;simp
theorem fro_valsU {u:AV}(h:Fro u){n:Nat}:FroL (valsU u n):=FroL.map fun _ _=>.nd (.cons h (.cons .int .nil))
theorem dget_pos:∀{ks:List Str} {vs:List AV} {i:Nat} {s:Str} {v:AV},ks.Nodup→ks[i]? =some s→vs[i]? =some v→dget ks vs s=some v
 | [],_,_,_,_,_,e,_=>by exact noS e
 | k :: ks,[],_,_,_,_,_,e=>by exact noS e
 | k :: ks,x :: vs,0,s,v,_,e1,e2=>by
  cases e1;cases e2
  unfold dget;exact er (if_pos rfl) rfl
 | k :: ks,x :: vs,i + 1,s,v,nd,e1,e2=>by
  obtain ⟨n1,n2⟩:=List.nodup_cons.mp nd
  unfold dget
  have e1':ks[i]? =some s:=e1
  refine er (if_neg fun (q:k=s)=>n1 (q.symm▸(List.mem_of_getElem? e1'))) ?_
  exact dget_pos n2 e1 e2
section
variable {prog:Program}{w:World}{K:Frag}{c0 c1 c2:Option (Tg×List AV)}{C:Conf}
abbrev stJ (c0 c1 c2:Option (Tg×List AV))(C:Conf)(tl:List (Nat×AV))(SK LK:List Str)(SV LV:List AV)(H:HL):St:=stM c0 c1 c2 C.d C.n (lD C.ords C.cut (C.ents.map Ent.st) C.u1 C.u2 ++ tl) (hM SK SV LK LV H) [] []
theorem l46_in (J:Sound prog w K c6)(O:C.Ok){num:AV}{ss:List AV}{lk LK SK:List Str}{LV SV:List AV}{u a:AV}(eu:u=unitA num ss lk (upI lk.length))(fu:Fro u)(fa:Fro a)(fS:FroL SV)(fL:FroL LV)(nd:(LK ++ lk).Nodup)(hl:LK.length=LV.length)(len:LK.length + lk.length≤500)
  {tl:List (Nat×AV)} (ht:tl= []∨∃s,tl= [(111,s)]∧Fro s) {os:List Obj}:Trip prog w K 60 [lpL] (stJ c0 c1 c2 C ((64,a) :: (119,u) :: tl) SK LK SV LV (objs os))
  fun r=>∃tl',(tl'= []∨∃s,tl'= [(111,s)]∧Fro s)∧r=(.nx,stJ c0 c1 c2 C ((64,a) :: (119,u) :: tl') SK (LK ++ lk) SV (LV ++ valsU u lk.length) (objs os)):=by
 refine Trip.given fun low=>?_
 have nlen:(stJ c0 c1 c2 C ((64,a) :: (119,u) :: tl) SK LK SV LV (objs os)).H.length=13 + os.length:=by
  show (objs os).length + 13=_
  rw [objs_len];exact Nat.add_comm _ _
 rw [nlen] at low
 have h0:LowC (13 + os.length) c0:=low.head
 have h1:LowC (13 + os.length) c1:=low.tail.head
 have h2:LowC (13 + os.length) c2:=low.tail.tail.head
 have h13:Nat.ble 13 (13 + os.length)=true:=Nat.ble_eq.mpr (Nat.le_add_right _ _)
 refine er lpL_eq ?_
 refine (Trip.forl (k:=1) (xs:=lk.map .str) (fun i σ=>i≤lk.length∧∃tl,(tl= []∨∃s,tl= [(111,s)]∧Fro s)∧σ=stJ c0 c1 c2 C ((64,a) :: (119,u) :: tl) SK (LK ++ lk.take i) SV (LV ++ valsU u i) (objs os))
  ?_ (I0111 (Nat.zero_le _) tl ht ?_) (fun i σ h=>?_) (fun i σ os' h _=>?_) fun i b σ os' h e l=>?_).mono (Nat.le_refl _) fun r hr=>?_
 ·rw [eu]
  exact src_dict J (r46_v c0 c1 c2 C.d C.n C.ords C.cut (C.ents.map Ent.st) C.u1 C.u2 a num ss lk (upI lk.length) tl (hM SK SV LK LV (objs os))) .nil (by rfl)
 ·rw [List.take_zero,List.append_nil,show valsU u 0= [] from rfl,List.append_nil]
 ·refine X0111 h fun _ tl _ q0=>?_;subst q0;rfl
 ·refine X0111 h fun _ tl ht q0=>?_;subst q0
  have nl:(stJ c0 c1 c2 C ((64,a) :: (119,u) :: tl) SK (LK ++ lk.take i) SV (LV ++ valsU u i) (objs os)).H.length=13 + os.length:=by
   show (objs os).length + 13=_
   rw [objs_len];exact Nat.add_comm _ _
  refine LowH.fzs (σ:=stJ c0 c1 c2 C ((64,a) :: (119,u) :: tl) SK (LK ++ lk.take i) SV (LV ++ valsU u i) (objs os)) ?_ os' ?_ ?_
  ·refine er nl ?_;exact lowM h0 h1 h2 h13 fS (fL.append (fro_valsU fu)) LowH.objs
  ·refine er nl ?_
   refine lowD h13 O (.cons fa.fz (.cons fu.fz ?_))
   rcases ht with rfl | ⟨s,rfl,fs⟩
   ·exact .nil
   ·exact .cons fs.fz .nil
  ·refine er nl ?_;exact lowK (Nat.ble_eq.mpr (o187)) rfl (Nat.ble_eq.mpr (o188))
 ·refine X0111 h fun hi tl ht q0=>?_;subst q0
  rw [List.getElem?_map] at e
  refine X11 (Option.map_eq_some_iff.mp e) fun s hs q0=>?_;subst q0
  have hlt:i < lk.length:=(List.getElem?_eq_some_iff.mp hs).1
  have ndk:lk.Nodup:=(List.nodup_append.mp nd).2.1
  have hnew:s ∉ LK ++ lk.take i:=fun m=>by
   have hi2:(LK ++ lk)[LK.length + i]? =some s:=by rw [List.getElem?_append_right (Nat.le_add_right _ _),Nat.add_sub_cancel_left];exact hs
   have key:∃j,j < LK.length + i∧(LK ++ lk)[j]? =some s:=by
    rcases List.mem_append.mp m with m | m
    ·refine X1 (List.getElem?_of_mem m) fun j hj=>?_
     have lj:=(List.getElem?_eq_some_iff.mp hj).1
     exact (I11 j (Nat.lt_add_right _ (by assumption)) (by refine er (List.getElem?_append_left lj) ?_;exact hj))
    ·refine X1 (List.getElem?_of_mem m) fun j hj=>?_
     have lj:=(List.getElem?_eq_some_iff.mp hj).1
     rw [List.length_take] at lj
     rw [List.getElem?_take,if_pos (o7 lj)] at hj
     exact (I11 (LK.length + j) (o189 lj) (by rw [List.getElem?_append_right (o190),Nat.add_sub_cancel_left];exact hj))
   obtain ⟨j,lj,hj⟩:=key
   obtain ⟨l1,e1⟩:=List.getElem?_eq_some_iff.mp hj
   obtain ⟨l2,e2⟩:=List.getElem?_eq_some_iff.mp hi2
   have:=(List.getElem_inj (h₀:=l1) (h₁:=l2) nd).mp (e1.trans e2.symm)
   exact o191 lj this
  have vlen:(LK ++ lk.take i).length=(LV ++ valsU u i).length:=by refine er List.length_append (er List.length_append (er valsU_len (er List.length_take (er hl ?_))));exact o192 hlt
  have hl5:(LK ++ lk.take i).length≤500:=by refine er List.length_append (er List.length_take ?_);exact o193 len
  have htk:LK ++ lk.take (i + 1)=LK ++ lk.take i ++ [s]:=by rw [List.take_add_one,hs,List.append_assoc];rfl
  have hg:dget lk (upI lk.length) s=some (.int (Int.ofNat i)):=dget_pos ndk hs (by unfold upI;refine er (List.getElem?_map) (er (List.getElem?_range hlt) ?_);rfl)
  have T:Trip prog w K 60 bdL (stJ c0 c1 c2 C [(64,a),(119,u),(111,.str s)] SK (LK ++ lk.take i) SV (LV ++ valsU u i) (objs os ++ objs os'))
    fun r=>r=(.nx,stJ c0 c1 c2 C [(64,a),(119,u),(111,.str s)] SK (LK ++ lk.take (i + 1)) SV (LV ++ valsU u (i + 1)) (objs os ++ objs os')):=by
   rw [htk,valsU_succ,←List.append_assoc LV]
   have hr:=r46_l c0 c1 c2 C.d C.n C.ords C.cut (C.ents.map Ent.st) C.u1 C.u2 SK (LK ++ lk.take i) SV (LV ++ valsU u i) a num (.int (Int.ofNat i)) ss lk (upI lk.length) s (objs os ++ objs os')
   rw [←eu,dput_new vlen hnew] at hr
   exact (Trip.orc [.int (Int.ofNat i)] [] (Trip.ev J hr (.cons hl5 (.cons hg .nil)))).clean fun r hr=>by refine er hr ?_;rfl
  have T2:=T.mono (Nat.le_refl _) (P':=fun r=>∃σ',r=(.nx,σ'.with os')∧(i + 1≤lk.length∧∃tl,(tl= []∨∃s,tl= [(111,s)]∧Fro s)∧σ'=stJ c0 c1 c2 C ((64,a) :: (119,u) :: tl) SK (LK ++ lk.take (i + 1)) SV (LV ++ valsU u (i + 1)) (objs os))∧σ'.H.length=(objs os).length + 13)
   fun r hr=>(I12 _ hr ⟨hlt,_,.inr ⟨_,rfl,.str⟩,rfl⟩ rfl)
  rcases ht with rfl | ⟨s',rfl,_⟩
  ·exact T2
  ·exact T2
 ·refine X1211 hr fun σ' q0 _ tl ht q1=>?_;subst q0;subst q1
  refine (I11 tl ht ?_)
  rw [List.length_map,List.take_of_length_le (Nat.le_refl _)]
end
def Conf.l1 (C:Conf):List Str:=(C.ents.take C.cut).map Ent.l
def Conf.l2 (C:Conf):List Str:=(C.ents.drop C.cut).map Ent.l
section
variable {prog:Program}{w:World}{K:Frag}{c0 c1 c2:Option (Tg×List AV)}{C:Conf}
theorem Conf.l12 (O:C.Ok):C.l1 ++ C.l2=C.order.map (labOf C.ns):=by
 unfold Conf.l1 Conf.l2
 rw [←List.map_append,List.take_append_drop,C.ents_l O]
theorem Conf.vals12:valsU C.u1 C.l1.length ++ valsU C.u2 C.l2.length=C.spots C.order.length:=by
 have e1:C.l1.length=min C.cut C.order.length:=by unfold Conf.l1;rw [List.length_map,List.length_take,C.ents_len]
 have e2:C.l2.length=C.order.length - C.cut:=by unfold Conf.l2;rw [List.length_map,List.length_drop,C.ents_len]
 refine er e1 (er e2 ?_)
 refine List.ext_getElem? fun i=>?_
 by_cases hi:i < C.order.length
 ·refine er (C.spots_at hi) ?_
  unfold Conf.spot
  by_cases hc:i < C.cut
  ·refine er (if_pos hc) (er (List.getElem?_append_left (by rw [valsU_len];exact o43 hi hc)) ?_)
   unfold valsU
   refine er (List.getElem?_map) (er (List.getElem?_range (o43 hi hc)) ?_);rfl
  ·refine er (if_neg hc) (er (List.getElem?_append_right (by rw [valsU_len];exact o149 hc)) (er valsU_len ?_))
   unfold valsU
   refine er (List.getElem?_map) (er (List.getElem?_range (o150 hi hc)) ?_)
   have:(Int.ofNat (i - min C.cut C.order.length))=Int.ofNat i - Int.ofNat C.cut:=by
    show ((i - min C.cut C.order.length:Nat):Int)=(i:Int) - (C.cut:Int)
    exact o151 hi hc
   show some (tu [C.u2,.int (Int.ofNat (i - min C.cut C.order.length))])=_
   exact er this rfl
 ·exact er (List.getElem?_eq_none (by rw [List.length_append,valsU_len,valsU_len];exact o152 hi)) (er (List.getElem?_eq_none (by rw [C.spots_len];exact o153 hi)) rfl)
def TailOk (tl:List (Nat×AV)):Prop:=tl= []∨∃u tl2,tl=(119,u) :: tl2∧Fro u∧(tl2= []∨∃s,tl2= [(111,s)]∧Fro s)
theorem l46_f (J:Sound prog w K c6)(O:C.Ok){SK:List Str}{SV:List AV}{a:AV}(fa:Fro a)(fS:FroL SV):Trip prog w K 60 ((b46.drop 6).take 1) (stJ c0 c1 c2 C [(64,a)] SK [] SV [] [])
  fun r=>∃tl,TailOk tl∧r=(.nx,stJ c0 c1 c2 C ((64,a) :: tl) SK (C.order.map (labOf C.ns)) SV (C.spots C.order.length) []):=by
 have olen:=O.olen
 refine Trip.given fun low=>?_
 have h0:LowC 13 c0:=low.head
 have h1:LowC 13 c1:=low.tail.head
 have h2:LowC 13 c2:=low.tail.tail.head
 have l1len:C.l1.length≤10:=by unfold Conf.l1;rw [List.length_map,List.length_take,C.ents_len];exact o154 olen
 have l2len:C.l2.length≤10:=by unfold Conf.l2;rw [List.length_map,List.length_drop,C.ents_len];exact o155 olen
 have nd:(C.l1 ++ C.l2).Nodup:=(C.l12 O).symm▸(C.ents_l O)▸(C.lab_nd O)
 refine er b46_6 ?_
 refine (Trip.forl (k:=1) (xs:=[C.u1,C.u2]) (fun i σ=>∃tl,TailOk tl∧((i=0∧σ=stJ c0 c1 c2 C ((64,a) :: tl) SK [] SV [] [])∨(i=1∧σ=stJ c0 c1 c2 C ((64,a) :: tl) SK C.l1 SV (valsU C.u1 C.l1.length) [])∨(i=2∧σ=stJ c0 c1 c2 C ((64,a) :: tl) SK (C.l1 ++ C.l2) SV (valsU C.u1 C.l1.length ++ valsU C.u2 C.l2.length) [])))
  (src_list J (r46_u c0 c1 c2 C.d C.n C.ords C.cut (C.ents.map Ent.st) C.u1 C.u2 [(64,a)] (hM SK SV [] [] [])) .nil (by rfl)) (I11 ([]) (.inl rfl) (.inl ⟨rfl,rfl⟩)) (fun i σ h=>?_) (fun i σ os h _=>?_) fun i b σ os h e l=>?_).mono (Nat.le_refl _) fun r hr=>?_
 ·obtain ⟨tl,_,⟨_,rfl⟩ | ⟨_,rfl⟩ | ⟨_,rfl⟩⟩:=h <;> rfl
 ·obtain ⟨tl,ht,h⟩:=h
  have key:∀LK LV,FroL LV→FzS (stJ c0 c1 c2 C ((64,a) :: tl) SK LK SV LV []).H.length ((stJ c0 c1 c2 C ((64,a) :: tl) SK LK SV LV []).with os) (stJ c0 c1 c2 C ((64,a) :: tl) SK LK SV LV []):=fun LK LV fL=>by
   refine LowH.fzs (σ:=stJ c0 c1 c2 C ((64,a) :: tl) SK LK SV LV []) (lowM h0 h1 h2 rfl fS fL .nil) os (lowD rfl O (.cons fa.fz ?_)) (lowK rfl rfl rfl)
   rcases ht with rfl | ⟨u,tl2,rfl,fu,ht⟩
   ·exact .nil
   ·refine .cons fu.fz ?_
    rcases ht with rfl | ⟨s,rfl,fs⟩
    ·exact .nil
    ·exact .cons fs.fz .nil
  rcases h with ⟨_,rfl⟩ | ⟨_,rfl⟩ | ⟨_,rfl⟩
  ·exact key _ _ .nil
  ·exact key _ _ (fro_valsU (C.fro_u1 O))
  ·exact key _ _ ((fro_valsU (C.fro_u1 O)).append (fro_valsU (C.fro_u2 O)))
 ·obtain ⟨tl,ht,h⟩:=h
  rcases h with ⟨rfl,rfl⟩ | ⟨rfl,rfl⟩ | ⟨rfl,rfl⟩
  ·simp only [List.getElem?_cons_zero,Option.some.injEq] at e
   subst e
   have key:∀tl2,(tl2= []∨∃s,tl2= [(111,s)]∧Fro s)→Trip prog w K 60 [lpL] (stJ c0 c1 c2 C ((64,a) :: (119,C.u1) :: tl2) SK [] SV [] (objs os))
     fun r=>∃σ',r=(.nx,σ'.with os)∧(∃tl,TailOk tl∧((0 + 1=0∧σ'=stJ c0 c1 c2 C ((64,a) :: tl) SK [] SV [] [])∨(0 + 1=1∧σ'=stJ c0 c1 c2 C ((64,a) :: tl) SK C.l1 SV (valsU C.u1 C.l1.length) [])∨(0 + 1=2∧σ'=stJ c0 c1 c2 C ((64,a) :: tl) SK (C.l1 ++ C.l2) SV (valsU C.u1 C.l1.length ++ valsU C.u2 C.l2.length) [])))∧σ'.H.length=13:=fun tl2 h2=>
    (l46_in (num:=.int 1) (ss:=(C.ents.take C.cut).map Ent.co) (lk:=C.l1) (LK:=[]) (LV:=[]) J O (by unfold Conf.u1 Conf.l1;rw [List.length_map]) (C.fro_u1 O) fa fS .nil (List.nodup_append.mp nd).1 rfl (by show 0 + _≤500;exact o156 l1len) h2).mono (Nat.le_refl _)
     fun r ⟨tl',ht',hr⟩=>(I12 (stJ c0 c1 c2 C ((64,a) :: (119,C.u1) :: tl') SK C.l1 SV (valsU C.u1 C.l1.length) []) hr ⟨(119,C.u1) :: tl',.inr ⟨_,_,rfl,C.fro_u1 O,ht'⟩,.inr (.inl ⟨rfl,rfl⟩)⟩ rfl)
   rcases ht with rfl | ⟨u,tl2,rfl,_,h2⟩
   ·exact key [] (.inl rfl)
   ·exact key tl2 h2
  ·simp only [List.getElem?_cons_succ,List.getElem?_cons_zero,Option.some.injEq] at e
   subst e
   have key:∀tl2,(tl2= []∨∃s,tl2= [(111,s)]∧Fro s)→Trip prog w K 60 [lpL] (stJ c0 c1 c2 C ((64,a) :: (119,C.u2) :: tl2) SK C.l1 SV (valsU C.u1 C.l1.length) (objs os))
     fun r=>∃σ',r=(.nx,σ'.with os)∧(∃tl,TailOk tl∧((1 + 1=0∧σ'=stJ c0 c1 c2 C ((64,a) :: tl) SK [] SV [] [])∨(1 + 1=1∧σ'=stJ c0 c1 c2 C ((64,a) :: tl) SK C.l1 SV (valsU C.u1 C.l1.length) [])∨(1 + 1=2∧σ'=stJ c0 c1 c2 C ((64,a) :: tl) SK (C.l1 ++ C.l2) SV (valsU C.u1 C.l1.length ++ valsU C.u2 C.l2.length) [])))∧σ'.H.length=13:=fun tl2 h2=>
    (l46_in (num:=.int 2) (ss:=(C.ents.drop C.cut).map Ent.co) (lk:=C.l2) (LK:=C.l1) (LV:=valsU C.u1 C.l1.length) J O (by unfold Conf.u2 Conf.l2;rw [List.length_map]) (C.fro_u2 O) fa fS (fro_valsU (C.fro_u1 O)) nd (valsU_len.symm) (o157 l1len l2len) h2).mono (Nat.le_refl _)
     fun r ⟨tl',ht',hr⟩=>(I12 (stJ c0 c1 c2 C ((64,a) :: (119,C.u2) :: tl') SK (C.l1 ++ C.l2) SV (valsU C.u1 C.l1.length ++ valsU C.u2 C.l2.length) []) hr ⟨(119,C.u2) :: tl',.inr ⟨_,_,rfl,C.fro_u2 O,ht'⟩,.inr (.inr ⟨rfl,rfl⟩)⟩ rfl)
   rcases ht with rfl | ⟨u,tl2,rfl,_,h2⟩
   ·exact key [] (.inl rfl)
   ·exact key tl2 h2
  ·simp at e
 ·obtain ⟨σ',rfl,tl,ht,h⟩:=hr
  rcases h with ⟨h,_⟩ | ⟨h,_⟩ | ⟨_,rfl⟩
  ·cases h
  ·cases h
  ·exact (I11 tl ht (by exact er (C.l12 O) (er C.vals12 rfl)))
def pre46:List S:=b46.take 7
theorem l46_pre (G:Good K)(J:Sound prog w K c6)(J5:SoundL prog w K c5 441)(O:C.Ok){Ls:Nat}(Cs:Con prog w K Ls 45 SPst fun _ H=>H)(hD:900≤510 + Ls) :
  Trip prog w K 510 pre46 (stL c0 c1 c2 C.d C.n (lA C.ords C.cut) [] [] [] [] [] [] []) fun r=>∃a tl,Fro a∧TailOk tl∧r=(.nx,stJ c0 c1 c2 C ((64,a) :: tl) (C.order.map cnS) (C.order.map (labOf C.ns)) (C.spots C.order.length) (C.spots C.order.length) []):=by
 refine er (show pre46=b46.take 2 ++ ((b46.drop 2).take 1 ++ ((b46.drop 3).take 1 ++ ((b46.drop 4).take 1 ++ ((b46.drop 5).take 1 ++ (b46.drop 6).take 1)))) from rfl) ?_
 refine Trip.app ((l46_a J).mono (by decide) fun r hr=>hr) (fun σ' hr=>?_) fun r hr q=>absurd (congrArg _ hr) q
 replace hr:=(Prod.mk.inj hr).2
 subst hr
 refine Trip.app (l46_b G J O Cs hD (by decide)) (fun σ' hr=>?_) fun r hr q=>absurd (congrArg _ hr) q
 replace hr:=(Prod.mk.inj hr).2
 subst hr
 refine Trip.app ((l46_c J5 O).mono (by decide) fun r hr=>hr) (fun σ' hr=>?_) fun r hr q=>absurd (congrArg _ hr) q
 replace hr:=(Prod.mk.inj hr).2
 subst hr
 refine Trip.app ((l46_d J).mono (by decide) fun r hr=>hr) (fun σ' hr=>?_) fun r hr q=>absurd (congrArg _ hr) q
 replace hr:=(Prod.mk.inj hr).2
 subst hr
 refine Trip.app ((l46_e G J O).mono (by decide) fun r hr=>hr) (fun σ' hr=>?_) fun r z9 q=>absurd (show r.1=.nx from X11 z9 fun a _ hr=>congrArg Prod.fst hr) q
 obtain ⟨a,fa,hr⟩:=hr
 replace hr:=(Prod.mk.inj hr).2
 subst hr
 exact (l46_f J O fa (C.fro_spots O)).mono (by decide) fun r ⟨tl,ht,hr⟩=>(I22 a tl fa ht hr)
end
def c7:Cf:={pol:=inPol [(385,49,60)]}
section
variable (c0 c1 c2:Option (Tg×List AV))(d n:AV)(SK LK:List Str)(SV LV:List AV)(U0:AV)(A0:Int)
abbrev hX (H:HL):HL:=some (.idc [26,27,28],[cloR,.ref 10,.ref 15]) :: some (.ins 3,[.ref 13]) :: some (.lst,[]) :: H
abbrev lX (U0:AV)(A0:Int):List (Nat×AV):=[(27,.ref 10),(192,cloR),(65,tu [U0,.int A0]),(75,.ref 14)]
theorem r46_h:ev c7 100 (.sts ((b46.drop 8).take 1)) (stM c0 c1 c2 d n [(27,.ref 10),(192,cloR)] (hM SK SV LK LV []) [tu [U0,.int A0]] []) =
  some (.nx,stM c0 c1 c2 d n (lX U0 A0) (hM SK SV LK LV (hX [])) [] [dget SK SV (nm 200)=some (tu [U0,.int A0])]):=by kernel_rfl
end
def stZ (p:RunP)(a b:Str)(heard notes:List AV)(loc:List (Nat×AV)):St:={kd:=k46,loc:=loc,cel:=[(182,.ref 3),(175,.ref 4),(190,.ref 5),(193,.ref 6),(194,.ref 7),(195,.ref 8)],H:=runH p (sto2 a b) heard notes,orc:=[],obl:=[]}
def args46:List E:=[(.sub (.loc 65 (pz 387 24 29)) (.cst (.int (0)) (pz 387 30 31)) (pz 387 24 32)),(.sub (.loc 65 (pz 387 34 39)) (.cst (.int (1)) (pz 387 40 41)) (pz 387 34 42)),(.loc 75 (pz 387 44 49))]
theorem b46_9:(b46.drop 9).take 1= [.tryx [.asg 3 (pz 387 8 12) (.calf 30 (pz 387 15 23) args46 (pz 387 15 50)) (pz 387 8 50)] 0 (pz 388 11 22) 7 [.asg 3 (pz 389 8 12) (.attr (.loc 7 (pz 389 15 20)) 2 (pz 389 15 27)) (pz 389 8 27)] ⟨388,4,389,27⟩ ⟨386,4,389,27⟩]:=rfl
theorem r46_x (p:RunP)(a b:Str)(U0:AV)(A0:Int):ev c7 60 (.exs args46) (stZ p a b [] [] (lX U0 A0))=some (.vs [U0,.int A0,.ref 14],stZ p a b [] [] (lX U0 A0)):=by kernel_rfl
def fn30:Fn:={pars:=[119,64,75],kd:=k30,body:=b30}
theorem fn30_is:fns 30=some fn30:=by kernel_rfl
section
variable {prog:Program}{w:World}{K:Frag}{c:Cf}{σ:St}
theorem Trip.asgCall (G:Good K)(J:Sound prog w K c){n f t:Nat}{fn:Fn}{tp fp p q:Pos}{as:List E}{bs:List AV}{D:Nat}{P:Out×St→Prop}(hr:Mine.ev c n (.exs as) σ=some (.vs bs,σ))(ob:AllP σ.obl)(hk:isG σ.kd (fnm f)=true)(ht:isL σ.kd t=true)(hf:topF f=true)(hfn:fns f=some fn)(hown:fn.own= [])(hlen:bs.length=fn.pars.length)
  (hn:n≤D + 1) (T:Trip prog w K D fn.body {σ with kd:=fn.kd,loc:=zipA fn.pars bs,cel:=[]} P) {P':Out×St→Prop}
  (hP:∀r,P r→(∃a σ',back σ r=(.v a,σ')∧P' (.nx,{σ' with loc:=stA t a σ'.loc}))∨∃i σ',back σ r=(.ex i,σ')∧P' (.ex i,σ')) :
  Trip prog w K (D + 1) [.asg t tp (.calf f fp as p) q] σ P':=by
 refine ⟨?_⟩
 intro x Z ad s Q X O B S k
 refine X01 (topF_mem hf) fun hm hff=>?_
 refine wpAny_execs_cons ?_
 refine wpAny_Assign_Name ?_ (swaps_ncp rfl _ _ _)
 refine wpAny_Call_NameR (r_top O S hk (G.gfn f hm) (callK (G.kfn f hm) ?_))
 refine (J.snd n).exs O (J.lim.symm▸(Nat.lt_of_le_of_lt (Nat.add_le_add_left (by assumption) _) (by assumption))) hr ob S ?_
 intro Z' ad' h' tk sub pr S' vs hvs
 refine ⟨S'.stat.kin.keeps S'.hs.zsub,wpAny_call (call_trip (x:=x) (cl:=[]) (fn:=fn) (s:=⟨h',_,_,_,_⟩) O O.hA O.hh (o216 B) S' hvs (fnK' (s:=⟨h',s.gens,s.drawn,tk,s.os⟩) G S' hff) hfn hown hlen T fun r hr=>?_)⟩
 rcases hP r hr with ⟨a,σ',e,hp⟩ | ⟨i,σ',e,hp⟩
 ·refine er e ?_
  intro Z₂ ad₂ h₂ tk₂ sub₂ pr₂ S₂ v hv
  have ekd:σ'.kd=σ.kd:=by
   obtain ⟨o,σr⟩:=r
   cases o <;> simp only [back,Prod.mk.injEq] at e <;> first | (obtain ⟨_,rfl⟩:=e;rfl) | (refine X01 e fun q _=>?_;cases q)
  refine s_loc (s:=⟨h₂,_,_,_,_⟩) O S₂ (S₂.kd _ _ (ekd.symm▸(isL_kind ht))) hv fun Z₃ ad₃ h₃ tk₃ sub₃ pr₃ S₃=>?_
  exact wpAny_execs_nil (k _ hp Z₃ ad₃ h₃ tk₃ ((sub.trans sub₂).trans sub₃) ((pr.trans pr₂).trans pr₃) S₃)
 ·refine er e ?_
  intro Z₂ ad₂ h₂ tk₂ sub₂ pr₂ S₂ e he
  exact k _ hp Z₂ ad₂ h₂ tk₂ (sub.trans sub₂) (pr.trans pr₂) S₂ e he
end
noncomputable def Conf.ps (C:Conf)(k:Nat):Nat:=C.order.idxOf k
def Conf.U (C:Conf)(k:Nat):AV:=if C.ps k < C.cut then C.u1 else C.u2
def Conf.A (C:Conf)(k:Nat):Int:=if C.ps k < C.cut then Int.ofNat (C.ps k) else Int.ofNat (C.ps k) - Int.ofNat C.cut
def drOf (many:Nat)(raws:List Raw)(k:Nat):Dr:=match raws[k]? with
 | some r=>r.dr many
 | none=>⟨0,nm 197,.z,.z⟩
def Conf.p (C:Conf)(c0 c1 c2:Option (Tg×List AV)):RunP:=⟨c0,c1,c2,C.d,C.n,lastA,C.order.map cnS,C.spots C.order.length,C.order.map (labOf C.ns),C.spots C.order.length⟩
def Conf.R (C:Conf):RR:=goS C.ns.length (drOf C.ns.length C.raws) ltS cnS 41 0 (nm 8) (nm 199) [] []
theorem lt_letter {k:Nat}(h:k < 5):Letter (ltS k):=by
 refine ⟨rfl,fun c m=>?_,fun q=>?_⟩
 ·unfold ltS at m
  simp at m
  exact o194 m
 ·have:=congrArg (fun s:Str=>s.cps.toList) q
  have e:(nm 180).cps.toList= [90]:=by decide +kernel
  simp only [e] at this
  unfold ltS at this
  simp at this
  exact o195 this
theorem cn_first {k:Nat}:(cnS k).cps.toList=67 :: (numS k).cps.toList:=by
 unfold cnS
 rw [str_add]
 have:(nm 179).cps.toList= [67]:=congrArg _ nm179
 refine er this ?_;rfl
theorem cn_ne {k m c:Nat}{r:List Nat}(hm:(nm m).cps.toList=c :: r)(hc:c≠67):cnS k≠nm m:=fun q=>by
 have:=congrArg (fun s:Str=>s.cps.toList) q
 simp only [cn_first,hm] at this
 exact hc (List.cons.inj this).1.symm
section
variable {C:Conf}
theorem Conf.at_ (O:C.Ok){k:Nat}(h:k∈C.order):C.ps k < C.order.length∧C.order[C.ps k]? =some k:=by
 have l:=List.idxOf_lt_length_iff.mpr h
 refine ⟨l,?_⟩
 show C.order[List.idxOf k C.order]? =_
 exact er (List.getElem?_eq_getElem l) (er (List.getElem_idxOf l) rfl)
theorem Conf.spot_is {k:Nat}:C.spot (C.ps k)=tu [C.U k,.int (C.A k)]:=by
 unfold Conf.spot Conf.U Conf.A
 split <;> rfl
theorem Conf.stAt (O:C.Ok){k:Nat}(h:k∈C.order):StAt (C.U k) (C.A k) (C.ent k).co:=by
 refine X01 (C.at_ O h) fun l e=>?_
 have olen:=O.olen
 have he:C.ents[C.ps k]? =some (C.ent k):=by unfold Conf.ents;refine er (List.getElem?_map) (er e ?_);rfl
 have fro:=(C.ent_ok O (O.ord k h)).fco
 unfold Conf.U Conf.A
 by_cases q:C.ps k < C.cut
 ·refine er (if_pos q) (er (if_pos q) ?_)
  refine ⟨(I43 _ _ _ _ rfl (by show (0:Int)≤(C.ps k:Int);exact oZ) (by rw [List.length_map,List.length_take,C.ents_len];exact o196 olen) ?_),(C.fro_u1 O).lo,fro.lo⟩
  show ((C.ents.take C.cut).map Ent.co)[C.ps k]? =_
  refine er (List.getElem?_map) (er (List.getElem?_take) (er (if_pos q) (er he ?_)));rfl
 ·refine er (if_neg q) (er (if_neg q) ?_)
  have e2:(Int.ofNat (C.ps k) - Int.ofNat C.cut).toNat=C.ps k - C.cut:=by
   show ((C.ps k:Int) - (C.cut:Int)).toNat=_
   exact o197
  refine ⟨(I43 _ _ _ _ rfl (by show (0:Int)≤(C.ps k:Int) - (C.cut:Int);exact o198 q) (by rw [List.length_map,List.length_drop,C.ents_len];exact o199 olen) ?_),(C.fro_u2 O).lo,fro.lo⟩
  refine er e2 (er (List.getElem?_map) (er (List.getElem?_drop) (er (show C.cut + (C.ps k - C.cut)=C.ps k by omega) (er he ?_))));rfl
theorem Conf.lk_at (O:C.Ok){k:Nat}(h:k∈C.order):dget (C.order.map (labOf C.ns)) (C.spots C.order.length) (labOf C.ns k)=some (tu [C.U k,.int (C.A k)]):=by
 refine X01 (C.at_ O h) fun l e=>?_
 have nd:=C.lab_nd O
 rw [C.ents_l O] at nd
 exact dget_pos nd (by refine er (List.getElem?_map) (er e ?_);rfl) (by exact er (C.spots_at l) (er C.spot_is rfl))
theorem Conf.sk_at (O:C.Ok){k:Nat}(h:k∈C.order):dget (C.order.map cnS) (C.spots C.order.length) (cnS k)=some (tu [C.U k,.int (C.A k)]):=by
 refine X01 (C.at_ O h) fun l e=>?_
 exact dget_pos (C.sk_nd O) (by refine er (List.getElem?_map) (er e ?_);rfl) (by exact er (C.spots_at l) (er C.spot_is rfl))
theorem lab_n1 {ns:List Str}:labOf ns (ns.length + 1)=nm 72:=by
 unfold labOf
 refine er (List.getElem?_eq_none (Nat.le_add_right _ _)) ?_
 dsimp only
 exact er (if_neg (o10)) (er (if_pos rfl) rfl)
theorem lab_n2 {ns:List Str}{g:Nat}(h:ns.length + 1 < g):labOf ns g=nm 178:=by
 unfold labOf
 refine er (List.getElem?_eq_none (o201 h)) ?_
 dsimp only
 exact er (if_neg (o21 h)) (er (if_neg (o22 h)) rfl)
theorem lab_not (O:C.Ok){m:Nat}(h1:m≠69)(h2:∀s∈C.ns,s≠nm m):nm m ∉ C.order.map (labOf C.ns):=fun q=>by
 refine X11 (List.mem_map.mp q) fun k mk e=>?_
 rcases Nat.lt_or_eq_of_le (O.ord k mk) with h | h
 ·rw [lab_lt h] at e;exact h2 _ (List.getElem_mem h) e
 ·rw [h,lab_many] at e;exact h1 (nm_inj e).symm
theorem Conf.lay (O:C.Ok){c0 c1 c2:Option (Tg×List AV)}(h0:LowC 16 c0)(h1:LowC 16 c1)(h2:LowC 16 c2):Lay (C.p c0 c1 c2) C.ns.length (drOf C.ns.length C.raws) ltS cnS (labOf C.ns) C.U C.A where
 ok:=⟨h0,h1,h2,C.fro_d.fz,C.fro_n.fz,fro_lastA.fz,(C.fro_spots O).fz,(C.fro_spots O).fz⟩
 sp:=fun v hv=>dget_none fun m=>by
  refine X11 (List.mem_map.mp m) fun k _ e=>?_
  rcases hv with rfl | rfl
  ·exact cn_ne (c:=65) (r:=[]) (by decide +kernel) (by decide) e
  ·exact cn_ne (c:=66) (r:=[]) (by decide +kernel) (by decide) e
 st:=fun k hk=>by
  refine X12 (C.ent_lt O hk) fun r hr rok e=>?_
  have:=C.stAt O (O.all k hk)
  rw [e] at this
  refine (I21 (.str (labOf C.ns k)) (.int k) ?_ ?_)
  ·unfold drOf
   refine er hr ?_
   exact this
  ·have:labOf C.ns k≠nm 69:=by refine er (lab_lt hk) ?_;exact (O.lab _ (List.getElem_mem hk)).2.1
   show some (AV.bool (decide (labOf C.ns k=nm 69)))=_
   simp [this]
 lt:=fun k hk=>lt_letter (by have:=O.le;exact Nat.lt_of_lt_of_le (by assumption) (by assumption))
 dr:=fun k hk=>by
  refine X12 (C.ent_lt O hk) fun r hr rok e=>?_
  unfold drOf
  refine er hr ?_
  exact Raw.dr_ok rok
 lb:=fun k hk=>C.lk_at O (O.all k hk)
 en:=by
  by_cases q:C.ns.length∈C.order
  ·refine .inr ⟨_,_,.lit 69,li [],li [],li [],.int 9,C.lk_at O q,?_,by rfl⟩
   ·have:=C.stAt O q
    rw [C.ent_many O] at this
    exact this
  ·refine .inl (dget_none fun m=>?_)
   refine X11 (List.mem_map.mp m) fun k mk e=>?_
   exact q ((lab_inj O (O.ord k mk) (Nat.le_refl _) e)▸mk)
 rt:=fun g hg=>by
  refine dget_none ?_
  rcases Nat.lt_or_eq_of_le (show C.ns.length + 1≤g from hg) with h | h
  ·refine er (lab_n2 h) ?_;exact lab_not O (by decide) fun s m=>(O.lab s m).2.2.2
  ·refine re h (er lab_n1 ?_);exact lab_not O (by decide) fun s m=>(O.lab s m).2.2.1
 l69:=lab_many
 l72:=lab_n1
 no:=by
  refine er (lab_n2 (Nat.le_refl _)) ?_
  exact ⟨fun q=>absurd (nm_inj q) (by decide),fun q=>absurd (nm_inj q) (by decide)⟩
 cd:=fun k hk=>C.sk_at O (O.all k hk)
 cn:=fun k=>cn_ne (c:=65) (r:=[84]) (by decide +kernel) (by decide)
theorem var0:VarInv (nm 8) (nm 199) 0:=by
 refine ⟨NoA.nil,fun c m=>?_,0,Nat.zero_le _,?_,?_⟩
 ·have e:(nm 199).cps.toList= [98]:=by decide +kernel
  rw [e] at m
  simp at m
  exact o202 m
 ·refine er nm8 ?_;decide
 ·show (nm 199).length + 1≤2
  have:(nm 199).length=1:=by decide +kernel
  exact Nat.le_refl _
end
noncomputable def toldOf:Out→AV
 | .rt v=>v
 | .ex i=>.int i
 | _=>.none
def mid46:List S:=(b46.drop 8).take 2
def ret46:List S:=b46.drop 10
section
variable {prog:Program}{w:World}{K:Frag}{q48:Str}{c0 c1 c2:Option (Tg×List AV)}{C:Conf}
theorem Trip.fzn {D n0:Nat}{ss:List S}{σ:St}{P P':Out×St→Prop}(h:Trip prog w K D ss σ P)(hl:σ.H.length≤n0)(hP:∀r,P r→∃r',FzO n0 r.2.H r.1 r'.1∧FzS n0 r.2 r'.2∧P' r'):Trip prog w K D ss σ P':=
 ⟨fun O B S k=>h.run O B S fun r hr=>by
  refine X12 (hP r hr) fun r' h1 h2 h3=>?_
  exact RF.freeze h1 h2 (S.hs.len.symm▸hl) (k r' h3)⟩
theorem TripR.fz {D:Nat}{ss:List PySem.Stmt}{σ:St}{P P':Out×St→Prop}(h:TripR prog w K q48 D ss σ P)(hP:∀r,P r→∃r',FzO σ.H.length r.2.H r.1 r'.1∧FzS σ.H.length r.2 r'.2∧P' r'):TripR prog w K q48 D ss σ P':=
 ⟨fun O B C S k=>h.run O B C S fun r hr=>by
  refine X12 (hP r hr) fun r' h1 h2 h3=>?_
  exact RF.freeze h1 h2 (Nat.le_of_eq S.hs.len) (k r' h3)⟩
theorem TripR.mono {D D':Nat}{ss:List PySem.Stmt}{σ:St}{P P':Out×St→Prop}(h:TripR prog w K q48 D ss σ P)(hD:D≤D')(hP:∀r,P r→P' r):TripR prog w K q48 D' ss σ P':=
 ⟨fun O B C S k=>h.run O (Nat.lt_of_le_of_lt (Nat.add_le_add_left (by assumption) _) (by assumption)) C S fun r hr=>k r (hP r hr)⟩
theorem TripR.given {D:Nat}{ss:List PySem.Stmt}{σ:St}{P:Out×St→Prop}(h:LowH σ.H.length σ.H→TripR prog w K q48 D ss σ P):TripR prog w K q48 D ss σ P:=⟨fun O B C S k=>(h S.lowH).run O B C S k⟩
theorem TripR.new {D:Nat}{σ:St}{params:Arguments}{body:List PySem.Stmt}{scope:Scope}{pos:Pos}(Df:Def48 params body scope)(hpl:pos.line=364)(hpc:pos.col=4)
  {r6 r7 r8:Nat} (e6:lkA 193 σ.cel=some (.ref r6)) (e7:lkA 194 σ.cel=some (.ref r7)) (e8:lkA 195 σ.cel=some (.ref r8)) (e0:getH σ.H 0=some (.obj (tabObj #[]),[])) (hk:isL σ.kd 192=true) :
  TripR prog w K q48 D [.FunctionDef (nm 192) params body [] none [] scope none (nm 192) pos] σ fun r=>∃oc,codeOk q48 oc∧r=(.nx,{σ with loc:=stA 192 (clo3 r6 r7 r8) σ.loc,H:=setH σ.H 0 (.rng,[.nd (.obj oc) []])}):=by
 refine ⟨?_⟩
 intro x Z ad s Q X O B C S k
 refine wpAny_execs_cons (def_new Df hpl hpc O S C e6 e7 e8 e0 hk fun oc hoc=>?_)
 intro Z' ad' h' tk sub pr S'
 exact wpAny_execs_nil (k _ (I11 oc hoc rfl) Z' ad' h' tk sub pr S')
theorem TripR.hit {D:Nat}{σ:St}{params:Arguments}{body:List PySem.Stmt}{scope:Scope}{pos:Pos}(Df:Def48 params body scope)(hpl:pos.line=364)(hpc:pos.col=4)
  {r6 r7 r8:Nat} (e6:lkA 193 σ.cel=some (.ref r6)) (e7:lkA 194 σ.cel=some (.ref r7)) (e8:lkA 195 σ.cel=some (.ref r8)) {oc:Obj} (hoc:codeOk q48 oc) (e0:getH σ.H 0=some (.rng,[.nd (.obj oc) []])) (hk:isL σ.kd 192=true) :
  TripR prog w K q48 D [.FunctionDef (nm 192) params body [] none [] scope none (nm 192) pos] σ fun r=>r=(.nx,{σ with loc:=stA 192 (clo3 r6 r7 r8) σ.loc}):=by
 refine ⟨?_⟩
 intro x Z ad s Q X O B C S k
 refine wpAny_execs_cons (def_hit Df hpl hpc O S C e6 e7 e8 hoc e0 hk ?_)
 intro Z' ad' h' tk sub pr S'
 exact wpAny_execs_nil (k _ rfl Z' ad' h' tk sub pr S')
theorem nm200:nm 200=cnS 0:=by
 have h1:(nm 200).cps= #[67,48]:=by decide +kernel
 have h2:(cnS 0).cps= #[67,48]:=cat_cps nm179 (by decide)
 cases h3:nm 200 with | mk a=>cases h4:cnS 0 with | mk b=>rw [h3] at h1;rw [h4] at h2;cases h1;cases h2;rfl
theorem l46_h (J7:Sound prog w K c7)(O:C.Ok)(h0:LowC 16 c0)(h1:LowC 16 c1)(h2:LowC 16 c2) :
  Trip prog w K 100 ((b46.drop 8).take 1) (stM c0 c1 c2 C.d C.n [(27,.ref 10),(192,cloR)] (hM (C.order.map cnS) (C.spots C.order.length) (C.order.map (labOf C.ns)) (C.spots C.order.length) []) [] [])
   fun r=>r=(.nx,stZ (C.p c0 c1 c2) (nm 8) (nm 199) [] [] (lX (C.U 0) (C.A 0))):=by
 have hg:dget (C.order.map cnS) (C.spots C.order.length) (nm 200)=some (tu [C.U 0,.int (C.A 0)]):=nm200.symm▸(C.sk_at O (O.all 0 O.pos))
 refine Trip.fzn (n0:=16) (Trip.orc [tu [C.U 0,.int (C.A 0)]] [] (Trip.ev J7 (r46_h c0 c1 c2 C.d C.n (C.order.map cnS) (C.order.map (labOf C.ns)) (C.spots C.order.length) (C.spots C.order.length) (C.U 0) (C.A 0)) (.cons hg .nil))) (show 13≤16 by decide) fun r hr=>?_
 subst hr
 have fu:Fro (C.U 0):=by unfold Conf.U;split;exact C.fro_u1 O;exact C.fro_u2 O
 have lo:∀r H,Nat.blt r 16=true→FzL 16 H [.ref r] [.ref r]:=fun r H h=>.cons (.low h) .nil
 have fc:∀H,Fz 16 H cloR cloR:=fun H=>.nd (.cons (.low rfl) (.cons (.low rfl) (.cons (.low rfl) .nil)))
 refine (I12 (.nx,stZ (C.p c0 c1 c2) (nm 8) (nm 199) [] [] (lX (C.U 0) (C.A 0))) .nx ⟨rfl,rfl,by show 16≤16;decide,?_,?_,?_⟩ rfl)
 ·refine .keep h0 (.keep h1 (.keep h2 (.cons (.cons C.fro_d.fz .nil) (.cons (.cons C.fro_n.fz .nil) (.cons (.cons fro_lastA.fz .nil) (.cons (lo 12 _ rfl) (.cons (lo 9 _ rfl) (.cons (lo 11 _ rfl) (.cons (C.fro_spots O).fz (.cons (C.fro_spots O).fz (.cons ?_ (.cons .nil (.cons ?_ (.cons (lo 13 _ rfl) (.cons .nil .nil)))))))))))))))
  ·exact .cons .lits (.cons .lits .nil)
  ·exact .cons (fc _) (.cons (.low rfl) (.cons (.low rfl) .nil))
 ·exact .cons (.low rfl) (.cons (fc _) (.cons (.nd (.cons fu.fz (.cons .int .nil))) (.cons (.low rfl) .nil)))
 ·exact .cons (.low rfl) (.cons (.low rfl) (.cons (.low rfl) (.cons (.low rfl) (.cons (.low rfl) (.cons (.low rfl) .nil)))))
theorem l46_t (G:Good K)(I:InitK prog K)(J7:Sound prog w K c7)(Jr:Sound prog w K runC)(O:C.Ok)(h0:LowC 16 c0)(h1:LowC 16 c1)(h2:LowC 16 c2) :
  Trip prog w K 301 ((b46.drop 9).take 1) (stZ (C.p c0 c1 c2) (nm 8) (nm 199) [] [] (lX (C.U 0) (C.A 0))) fun r=>∃notes,r=(.nx,stZ (C.p c0 c1 c2) C.R.a C.R.b C.R.h notes (lX (C.U 0) (C.A 0) ++ [(3,toldOf C.R.out)]))∧NoteOk notes C.R.fl 100∧FroL C.R.h∧C.R.h.length≤40∧OutOk C.R.out:=by
 have L:=C.lay O h0 h1 h2
 have T:=run_trip Jr L O.pos var0
 refine er b46_9 ?_
 refine Trip.tryx G I (P:=fun r=>∃notes,(r=(.nx,stZ (C.p c0 c1 c2) C.R.a C.R.b C.R.h notes (lX (C.U 0) (C.A 0) ++ [(3,toldOf C.R.out)]))∨∃i,C.R.out=.ex i∧r=(.ex i,stZ (C.p c0 c1 c2) C.R.a C.R.b C.R.h notes (lX (C.U 0) (C.A 0))))∧NoteOk notes C.R.fl 100∧FroL C.R.h∧C.R.h.length≤40∧OutOk C.R.out)
  (Trip.asgCall G J7 (fn:=fn30) (D:=300) (r46_x (C.p c0 c1 c2) (nm 8) (nm 199) (C.U 0) (C.A 0)) .nil rfl rfl (by decide +kernel) fn30_is rfl rfl (by decide) (P:=RunQ (C.p c0 c1 c2) C.R) T fun r hr=>?_) (fun i σ' hr=>?_) fun r hr hx=>?_
 ·refine X24 hr fun notes loc q0 N fh hl ho=>?_;subst q0
  rcases ho with ⟨v,e⟩ | ⟨i,e⟩
  ·refine .inl (I2114 (.str v) (stZ (C.p c0 c1 c2) C.R.a C.R.b C.R.h notes (lX (C.U 0) (C.A 0))) (by refine er e ?_;rfl) notes (.inl ?_) N fh hl (.inl ⟨v,e⟩))
   refine er e ?_;rfl
  ·exact .inr (I2114 i (stZ (C.p c0 c1 c2) C.R.a C.R.b C.R.h notes (lX (C.U 0) (C.A 0))) (by refine er e ?_;rfl) notes (.inr ⟨i,e,rfl⟩) N fh hl (.inr ⟨i,e⟩))
 ·refine X14 hr fun notes hr N fh hl ho=>?_
  rcases hr with hr | ⟨j,e,hr⟩
  ·cases (Prod.mk.inj hr).1
  ·refine X01 (Prod.mk.inj hr) fun q1 q2=>?_
   cases q1
   subst q2
   refine ⟨rfl,rfl,rfl,rfl,by decide,notes,?_,N,fh,hl,ho⟩
   refine er e ?_;rfl
 ·refine X14 hr fun notes hr N fh hl ho=>?_
  rcases hr with hr | ⟨j,e,hr⟩
  ·exact ⟨notes,hr,N,fh,hl,ho⟩
  ·exact absurd (congrArg _ hr) (hx j)
end
def hooksF (C:Conf)(notes:List AV):AV:=.nd (.ins 3) [.nd (.idc [26,27,28]) [cloR,.nd (.dct (C.order.map (labOf C.ns))) (C.spots C.order.length),li notes]]
def stoF (a b:Str):AV:=.nd (.dct [nm 197,nm 198]) [.str a,.str b]
def stY (c0 c1 c2:Option (Tg×List AV))(C:Conf)(heard notes:List AV)(told:AV)(a b:Str)(H:HL):St:=
 {kd:=k46,loc:=[(75,hooksF C notes),(3,told)],cel:=[(182,.ref 3),(175,.ref 4),(190,.ref 5),(193,.ref 6),(194,.ref 7),(195,.ref 8)],H:=[c0,c1,c2,some (.cell,[C.d]),some (.cell,[C.n]),some (.cell,[lastA]),some (.cell,[li heard]),some (.cell,[.nd (.dct (C.order.map cnS)) (C.spots C.order.length)]),some (.cell,[stoF a b])] ++ H,orc:=[],obl:=[]}
def resA (R:RR):AV:=tu [li R.h,li (R.fl.map .bool),toldOf R.out,stoF R.a R.b]
theorem r46_y (c0 c1 c2:Option (Tg×List AV))(C:Conf)(heard notes:List AV)(told:AV)(a b:Str):ev c7 60 (.ex (.attr (.loc 75 (pz 390 43 48)) 28 (pz 390 43 54))) (stY c0 c1 c2 C heard notes told a b [])=some (.v (li notes),stY c0 c1 c2 C heard notes told a b []):=by kernel_rfl
theorem ret46_eq:ret46= [.ret (.tup [(.cel 193 (pz 390 12 17)),(.cmpr (.cmp .Eq (.loc 201 (pz 390 20 24)) (.uneg 1 (pz 390 29 30) (pz 390 28 30)) (pz 390 20 30)) 201 (pz 390 35 39) (.attr (.loc 75 (pz 390 43 48)) 28 (pz 390 43 54)) 390 (pz 390 19 55)),(.loc 3 (pz 390 57 61)),(.cel 195 (pz 390 63 68))] 0 (pz 390 11 69)) (pz 390 4 69)]:=rfl
theorem cs390:(csn 390).lookup (nm 201)=some .local:=by decide +kernel
theorem cs390_cell:∀q∈csn 390,q.2≠.cell:=by decide +kernel
theorem cs390_names:∀q∈csn 390,q.2=.local→(csn 390).lookup q.1=some .local:=by decide +kernel
theorem cs390_clos (env:Env):closureFor (csc 390) env=pure []:=by rfl
section
variable {prog:Program}{w:World}{K:Frag}{q48:Str}{c0 c1 c2:Option (Tg×List AV)}{C:Conf}
theorem elt_uneg {x:Fx}{σ:St}{sc y:Nat}{cl:List (Str×Addr)}{a:AV}{i:Int}{cp p:Pos}:EltOk prog w K x σ (.uneg i cp p) sc cl y a (.int (-i)):=by
 refine ⟨?_⟩
 intro Z ad s C I' D' oI oC ys m v Q X hl S hn hm hv k
 show wpAny _ _ (eval (.UnaryOp _ _ _) _) _ _ _
 rw [arm_eval_UnaryOp]
 exact wpAny_bind (wpAny_Constant_int (wpAny_bind (wpAny_standAt (wpAny_holding (PyProof.Rows.neg_int (k Z s.heap _ _ (Sub.refl _) S .int))))))
theorem told_fro {o:Out}(h:OutOk o):Fro (toldOf o):=by
 rcases h with ⟨s,rfl⟩ | ⟨i,rfl⟩
 ·exact .str
 ·exact .int
theorem decSs_ret {e:E}{p:Pos}:decSs [.ret e p]= [.Return (some (dec e)) p]:=rfl
theorem l46_r (J7:Sound prog w K c7)(OC:C.Ok){R:RR}{notes:List AV}(N:NoteOk notes R.fl 100)(hh:FroL R.h)(ho:OutOk R.out) :
  Trip prog w K 60 ret46 (stY c0 c1 c2 C R.h notes (toldOf R.out) R.a R.b []) fun r=>r=(.rt (resA R),{stY c0 c1 c2 C R.h notes (toldOf R.out) R.a R.b [] with loc:=[],cel:=[]}):=by
 have ft:=told_fro ho
 have ffl:FroL (R.fl.map AV.bool):=FroL.map fun _ _=>.bool
 have ln:(R.fl.map AV.bool).length=notes.length:=by rw [List.length_map,←N.fl,List.length_map]
 refine Trip.res (P:=fun r=>r=(.rt (tu [li R.h,.ref 9,toldOf R.out,stoF R.a R.b]),stY c0 c1 c2 C R.h notes (toldOf R.out) R.a R.b [some (.lst,R.fl.map .bool)])) ?_ fun r hr=>(I33 _ _ ([some (.lst,R.fl.map .bool)]) hr rfl rfl (.nd (.cons (.nd hh.fz) (.cons (.ref rfl rfl ffl.fz) (.cons ft.fz (.cons (.nd (.cons .str (.cons .str .nil))) .nil))))))
 refine Trip.given fun low=>?_
 refine ⟨?_⟩
 intro x Z ad s Q X O B S k
 refine er ret46_eq (er decSs_ret ?_)
 refine wpAny_execs_cons (wpAny_Return_some ?_)
 refine wpAny_Tuple_spliced ?_
 rw [star_cons]
 refine spliced_cons ?_
 refine r_cel O S (n:=193) (a:=.ref 6) (v:=li R.h) rfl rfl rfl fun v1 hv1=>?_
 rw [star_cons]
 refine spliced_cons ?_
 refine comp_rule (ys:=R.fl.map .bool) (xs:=notes) (cl:=[]) O B S (src_list J7 (r46_y c0 c1 c2 C R.h notes (toldOf R.out) R.a R.b) .nil (by rfl)) (fun os=>LowH.fzs (σ:=stY c0 c1 c2 C R.h notes (toldOf R.out) R.a R.b []) low os ?_ ?_) (cs390_clos _) cs390_cell cs390_names cs390
  (by have:=N.len;exact Nat.le_trans (by assumption) (by decide)) ln (fun i a b ha hb=>?_) ffl ?_
 ·exact .cons (.nd (.cons (.nd (.cons (.nd (.cons (.low rfl) (.cons (.low rfl) (.cons (.low rfl) .nil)))) (.cons (.nd (C.fro_spots OC).fz) (.cons (.nd N.fro.fz) .nil)))) .nil)) (.cons ft.fz .nil)
 ·exact .cons (.low rfl) (.cons (.low rfl) (.cons (.low rfl) (.cons (.low rfl) (.cons (.low rfl) (.cons (.low rfl) .nil)))))
 ·obtain ⟨j,rfl⟩:=N.num a (List.mem_of_getElem? ha)
  have eb:b=.bool (decide (j= -1)):=by
   rw [←N.fl,List.map_map,List.getElem?_map,ha] at hb
   exact (Option.some.inj hb).symm
  subst eb
  exact elt_cmp (elt_loc O cs390) elt_uneg fun H=>rfl
 ·intro Z' ad' h' tk sub pr S' v2 hv2
  rw [star_cons]
  refine spliced_cons ?_
  refine r_loc (s:=⟨h',_,_,_,_⟩) O S' (n:=3) (a:=toldOf R.out) rfl rfl fun v3 hv3=>?_
  rw [star_cons]
  refine spliced_cons ?_
  refine r_cel (s:=⟨h',_,_,_,_⟩) O S' (n:=195) (a:=.ref 8) (v:=stoF R.a R.b) rfl rfl rfl fun v4 hv4=>?_
  refine spliced_nil ⟨by refine er sizeLine_eq ?_;exact (show 4≤16777216 by decide),?_⟩
  refine m_newtup (Q:=fun v s'=>Q (.ret v) s') (s:=⟨h',_,_,_,_⟩) S' (.cons (hv1.mono sub pr) (.cons hv2 (.cons hv3 (.cons hv4 .nil)))) ?_
  intro Z₂ ad₂ h₂ tk₂ sub₂ pr₂ S₂ v hv
  exact k _ rfl Z₂ ad₂ h₂ tk₂ (sub.trans sub₂) (pr.trans pr₂) S₂ v hv
end
abbrev defS (params:Arguments)(body:List PySem.Stmt)(scope:Scope)(pos:Pos):PySem.Stmt:=.FunctionDef (nm 192) params body [] none [] scope none (nm 192) pos
def body46 (params:Arguments)(body:List PySem.Stmt)(scope:Scope)(pos:Pos):List PySem.Stmt:=decSs pre46 ++ ([defS params body scope pos] ++ decSs (b46.drop 8))
theorem body46_eq (params:Arguments)(body:List PySem.Stmt)(scope:Scope)(pos:Pos):body46 params body scope pos=(decSs pre46 ++ ([defS params body scope pos] ++ decSs mid46)) ++ decSs ret46:=by
 unfold body46
 rw [show b46.drop 8=mid46 ++ ret46 from rfl,decSs_append,List.append_assoc,List.append_assoc]
section
variable {prog:Program}{w:World}{K:Frag}{q48:Str}{c0 c1 c2:Option (Tg×List AV)}{C:Conf}
structure All (prog:Program) (w:World) (K:Frag):Prop where
 good:Good K
 ini:InitK prog K
 s6:Sound prog w K c6
 s7:Sound prog w K c7
 sr:Sound prog w K runC
 s5:SoundL prog w K c5 441
 st:Con prog w K 480 45 SPst fun _ H=>H
theorem law_pre (A:All prog w K)(O:C.Ok):Trip prog w K 510 pre46 (stL c0 c1 c2 C.d C.n (lA C.ords C.cut) [] [] [] [] [] [] [])
  fun r=>r=(.nx,stM c0 c1 c2 C.d C.n [(27,.ref 10)] (hM (C.order.map cnS) (C.spots C.order.length) (C.order.map (labOf C.ns)) (C.spots C.order.length) []) [] []):=by
 refine Trip.given fun low=>?_
 have h0:LowC 13 c0:=low.head.more (show 9≤13 by decide)
 have h1:LowC 13 c1:=low.tail.head.more (show 9≤13 by decide)
 have h2:LowC 13 c2:=low.tail.tail.head.more (show 9≤13 by decide)
 refine Trip.fzn (n0:=13) (l46_pre A.good A.s6 A.s5 O A.st (by decide)) (show 9≤13 by decide) fun r hr=>?_
 refine X22 hr fun a tl fa ht hr=>?_
 subst hr
 have lw:LowH 13 (stM c0 c1 c2 C.d C.n [(27,.ref 10)] (hM (C.order.map cnS) (C.spots C.order.length) (C.order.map (labOf C.ns)) (C.spots C.order.length) []) [] []).H:=lowM h0 h1 h2 rfl (C.fro_spots O) (C.fro_spots O) .nil
 refine (I12 (.nx,stM c0 c1 c2 C.d C.n [(27,.ref 10)] (hM (C.order.map cnS) (C.spots C.order.length) (C.order.map (labOf C.ns)) (C.spots C.order.length) []) [] []) .nx ⟨rfl,rfl,by show 13≤13;decide,?_,?_,lowK rfl rfl rfl⟩ rfl)
 ·have:=lw.fzc (stJ c0 c1 c2 C ((64,a) :: tl) (C.order.map cnS) (C.order.map (labOf C.ns)) (C.spots C.order.length) (C.spots C.order.length) []).H []
  rw [List.append_nil] at this
  exact this
 ·exact .skip rfl (.skip rfl (.skip rfl (.skip rfl (.cons (.low rfl) .nil))))
theorem law_mid (A:All prog w K)(O:C.Ok)(h0:LowC 16 c0)(h1:LowC 16 c1)(h2:LowC 16 c2) :
  Trip prog w K 510 mid46 (stM c0 c1 c2 C.d C.n [(27,.ref 10),(192,cloR)] (hM (C.order.map cnS) (C.spots C.order.length) (C.order.map (labOf C.ns)) (C.spots C.order.length) []) [] [])
   fun r=>∃notes,r=(.nx,stZ (C.p c0 c1 c2) C.R.a C.R.b C.R.h notes (lX (C.U 0) (C.A 0) ++ [(3,toldOf C.R.out)]))∧NoteOk notes C.R.fl 100∧FroL C.R.h∧C.R.h.length≤40∧OutOk C.R.out:=by
 refine er (show mid46=(b46.drop 8).take 1 ++ (b46.drop 9).take 1 from rfl) ?_
 refine Trip.app ((l46_h A.s7 O h0 h1 h2).mono (by decide) fun r hr=>hr) (fun σ' hr=>?_) fun r hr q=>absurd (congrArg _ hr) q
 replace hr:=(Prod.mk.inj hr).2
 subst hr
 exact (l46_t A.good A.ini A.s7 A.sr O h0 h1 h2).mono (by decide) fun r hr=>hr
def RunEnd (q48:Str)(C:Conf)(c0 c1 c2:Option (Tg×List AV))(r:Out×St):Prop:=∃σ' six,r=(.rt (resA C.R),σ')∧σ'.H=c0 :: c1 :: c2 :: six∧FroL C.R.h∧OutOk C.R.out
theorem law_tail (A:All prog w K)(O:C.Ok){σ:St}{pre:List PySem.Stmt}(hσ:σ.kd=k46)(hl:σ.H.length=9){Gc:Option (Tg×List AV)→Prop}(h0:∀c0,Gc c0→LowC 9 c0)(h1:LowC 9 c1)(h2:LowC 9 c2)
  (T:TripR prog w K q48 510 pre σ fun r=>∃c0,Gc c0∧r=(.nx,stM c0 c1 c2 C.d C.n [(27,.ref 10),(192,cloR)] (hM (C.order.map cnS) (C.spots C.order.length) (C.order.map (labOf C.ns)) (C.spots C.order.length) []) [] [])) :
  TripR prog w K q48 510 ((pre ++ decSs mid46) ++ decSs ret46) σ fun r=>∃c0,Gc c0∧RunEnd q48 C c0 c1 c2 r:=by
 refine TripR.app (P:=fun r=>∃c0 notes,Gc c0∧r=(.nx,stY c0 c1 c2 C C.R.h notes (toldOf C.R.out) C.R.a C.R.b [])∧NoteOk notes C.R.fl 100∧FroL C.R.h∧C.R.h.length≤40∧OutOk C.R.out) ?_ (fun σ' hr=>?_) fun r z9 q=>absurd (show r.1=.nx from X22 z9 fun c0 notes _ hr _=>congrArg Prod.fst hr) q
 ·refine TripR.fz (TripR.app T (fun σ' hr=>?_) fun r z9 q=>absurd (show r.1=.nx from X11 z9 fun c0 _ hr=>congrArg Prod.fst hr) q) (P:=fun r=>∃c0 notes,Gc c0∧r=(.nx,stZ (C.p c0 c1 c2) C.R.a C.R.b C.R.h notes (lX (C.U 0) (C.A 0) ++ [(3,toldOf C.R.out)]))∧NoteOk notes C.R.fl 100∧FroL C.R.h∧C.R.h.length≤40∧OutOk C.R.out) fun r hr=>?_
  ·refine X11 hr fun c0 g0 hr=>?_
   replace hr:=(Prod.mk.inj hr).2
   subst hr
   exact ((law_mid A O ((h0 c0 g0).more (by decide)) (h1.more (by decide)) (h2.more (by decide))).raw).mono (Nat.le_refl _) fun r ⟨notes,hr⟩=>(I21 c0 notes g0 hr)
  ·refine X25 hr fun c0 notes g0 hr N fh hlen ho=>?_
   subst hr
   have ft:=told_fro ho
   have fs:=(C.fro_spots O (n:=C.order.length))
   refine er hl ?_
   have fc:∀H,Fz 9 H cloR cloR:=fun H=>.nd (.cons (.low rfl) (.cons (.low rfl) (.cons (.low rfl) .nil)))
   refine ⟨(.nx,stY c0 c1 c2 C C.R.h notes (toldOf C.R.out) C.R.a C.R.b []),.nx,⟨?_,rfl,by show 9≤16;decide,?_,?_,?_⟩,c0,notes,g0,rfl,N,fh,hlen,ho⟩
   ·exact rfl
   ·exact .keep (h0 c0 g0) (.keep h1 (.keep h2 (.cons (.cons C.fro_d.fz .nil) (.cons (.cons C.fro_n.fz .nil) (.cons (.cons fro_lastA.fz .nil) (.cons (.cons (.ref rfl rfl fh.fz) .nil) (.cons (.cons (.ref rfl rfl fs.fz) .nil) (.cons (.cons (.ref rfl rfl (.cons .str (.cons .str .nil))) .nil) .nil))))))))
   ·exact .skip rfl (.skip rfl (.skip rfl (.cons (.ref rfl rfl (.cons (.ref rfl rfl (.cons (fc _) (.cons (.ref rfl rfl fs.fz) (.cons (.ref rfl rfl N.fro.fz) .nil)))) .nil)) (.cons ft.fz .nil))))
   ·exact .cons (.low rfl) (.cons (.low rfl) (.cons (.low rfl) (.cons (.low rfl) (.cons (.low rfl) (.cons (.low rfl) .nil)))))
 ·refine X25 hr fun c0 notes g0 hr N fh hlen ho=>?_
  replace hr:=(Prod.mk.inj hr).2
  subst hr
  exact ((l46_r A.s7 O N fh ho).raw).mono (by decide) fun r hr=>⟨c0,g0,_,_,hr,rfl,fh,ho⟩
theorem low_rng {n:Nat}{oc:Obj}:LowC n (some (.rng,[.nd (.obj oc) []])):=LowC.some (.cons (.nd .nil) .nil)
theorem law_run_new (A:All prog w K)(O:C.Ok){params:Arguments}{body:List PySem.Stmt}{scope:Scope}{pos:Pos}(Df:Def48 params body scope)(hpl:pos.line=364)(hpc:pos.col=4) :
  TripR prog w K q48 510 (body46 params body scope pos) (stL (some (.obj (tabObj #[]),[])) c1 c2 C.d C.n (lA C.ords C.cut) [] [] [] [] [] [] [])
   fun r=>∃c0,(∃oc,codeOk q48 oc∧c0=some (.rng,[.nd (.obj oc) []]))∧RunEnd q48 C c0 c1 c2 r:=by
 rw [body46_eq]
 refine TripR.given fun low=>?_
 rw [←List.append_assoc (decSs pre46)]
 refine law_tail A O rfl rfl (fun c0 ⟨oc,_,e⟩=>e▸low_rng) low.tail.head low.tail.tail.head ?_
 refine TripR.app ((law_pre A O).raw) (fun σ' hr=>?_) fun r hr q=>absurd (congrArg _ hr) q
 replace hr:=(Prod.mk.inj hr).2
 subst hr
 exact (TripR.new (D:=510) Df hpl hpc (r6:=6) (r7:=7) (r8:=8) rfl rfl rfl rfl rfl).mono (Nat.le_refl _) fun r ⟨oc,ho,hr⟩=>(I11 _ ⟨oc,ho,rfl⟩ hr)
theorem law_run_hit (A:All prog w K)(O:C.Ok){params:Arguments}{body:List PySem.Stmt}{scope:Scope}{pos:Pos}(Df:Def48 params body scope)(hpl:pos.line=364)(hpc:pos.col=4){oc:Obj}(ho:codeOk q48 oc) :
  TripR prog w K q48 510 (body46 params body scope pos) (stL (some (.rng,[.nd (.obj oc) []])) c1 c2 C.d C.n (lA C.ords C.cut) [] [] [] [] [] [] [])
   fun r=>∃c0,c0=some (.rng,[.nd (.obj oc) []])∧RunEnd q48 C c0 c1 c2 r:=by
 rw [body46_eq]
 refine TripR.given fun low=>?_
 rw [←List.append_assoc (decSs pre46)]
 refine law_tail A O rfl rfl (fun c0 e=>e▸low_rng) low.tail.head low.tail.tail.head ?_
 refine TripR.app ((law_pre A O).raw) (fun σ' hr=>?_) fun r hr q=>absurd (congrArg _ hr) q
 replace hr:=(Prod.mk.inj hr).2
 subst hr
 exact (TripR.hit (D:=510) Df hpl hpc (r6:=6) (r7:=7) (r8:=8) rfl rfl rfl ho rfl rfl).mono (Nat.le_refl _) fun r hr=>(I11 _ rfl hr)
end
noncomputable def polD:List (Nat×Nat×Nat):=[(323,43,60),(323,50,60),(323,19,30),(323,11,39),(323,67,75),(323,66,87)]
def c9:Cf:={pol:=inPol polD}
noncomputable def aint (l:List Int):List AV:=l.map .int
noncomputable def dip (cs:List Int)(t m:Nat):Int:=match cs[t]? with
 | some c=>Int.fmod c.natAbs m
 | none=>Int.fmod (7 * t + 3) m
theorem dip_lt (cs:List Int)(t:Nat){m:Nat}(h:0 < m):∃k:Nat,k < m∧dip cs t m=k:=by
 have h0:(0:Int) < m:=Int.ofNat_le.mpr (by assumption)
 unfold dip
 split
 ·exact (I11 _ ((Int.toNat_lt (Int.fmod_nonneg_of_pos _ h0)).mpr (Int.fmod_lt_of_pos _ h0)) ((Int.toNat_of_nonneg (Int.fmod_nonneg_of_pos _ h0)).symm))
 ·exact (I11 _ ((Int.toNat_lt (Int.fmod_nonneg_of_pos _ h0)).mpr (Int.fmod_lt_of_pos _ h0)) ((Int.toNat_of_nonneg (Int.fmod_nonneg_of_pos _ h0)).symm))
abbrev wel (cs:List Int)(t:Int):Option (Tg×List AV):=some (.lst,[li (aint cs),.int t])
structure SPdi (as:List AV) (H:HL) (a:AV):Prop where
 ex:∃(c0 c1:Option (Tg×List AV)) (cs:List Int) (t m:Nat) (T:HL),as= [.ref 2,.int m]∧H=c0 :: c1 :: wel cs t :: T∧0 < m∧t < 10000∧cs.length≤100∧a=.int (dip cs t m)
def effDi (as:List AV)(H:HL):HL:=match H with
 | c0 :: c1 :: some (.lst,[cs,.int t]) :: T=>c0 :: c1 :: some (.lst,[cs,.int (t + 1)]) :: T
 | H=>H
section
variable (c0 c1:Option (Tg×List AV))(xs:List AV)(t m n c p r:Int)(T:HL)
def stD (H:HL)(orc:List AV):St:={kd:=k43,loc:=zipA [168,21] [.ref 2,.int m],cel:=[],H:=H,orc:=orc,obl:=[]}
theorem p43_in:seeR (Mine.ev c9 40 (.sts b43) (stD m (c0 :: c1 :: some (.lst,[li xs,.int t]) :: T) [.int n,.bool true,.int c,.int r])) =
  some (.rt (.int r),k43,c0 :: c1 :: some (.lst,[li xs,.int (t + 1)]) :: T,
   [binV .Mod (.int c.natAbs) (.int m)=some (.int r),subV [] (li xs) (.int t)=some (.int c),cmpV [] .Lt (.int t) (.int n)=some (.bool true),calB [] .len [li xs]=some (.int n)]):=by kernel_rfl
theorem p43_out:seeR (Mine.ev c9 40 (.sts b43) (stD m (c0 :: c1 :: some (.lst,[li xs,.int t]) :: T) [.int n,.bool false,.int p,.int r])) =
  some (.rt (.int r),k43,c0 :: c1 :: some (.lst,[li xs,.int (t + 1)]) :: T,
   [binV .Mod (.int (p + 3)) (.int m)=some (.int r),binV .Mult (.int 7) (.int t)=some (.int p),cmpV [] .Lt (.int t) (.int n)=some (.bool false),calB [] .len [li xs]=some (.int n)]):=by kernel_rfl
end
section
variable {prog:Program}{w:World}{K:Frag}{σ:St}
theorem Trip.path' {c:Cf}{E:Nat}(J:SoundL prog w K c E){n:Nat}{ss:List S}{orc:List AV}{b:AV}{H:HL}{obl:List Prop}{k:List (Nat×NameKind)}(hk:k=σ.kd)
  (h:seeR (Mine.ev c n (.sts ss) {σ with orc:=orc,obl:=[]})=some (.rt b,k,H,obl)) (ob:AllP obl):Trip prog w K (n + E) ss σ fun r=>∃σ',r=(.rt b,σ')∧σ'.H=H:=by
 cases hr:Mine.ev c n (.sts ss) {σ with orc:=orc,obl:=[]} with
 | none=>rw [hr] at h;exact noS h
 | some r=>
  obtain ⟨o₁,σ₁⟩:=r
  rw [hr] at h
  have h':(o₁,σ₁.kd,σ₁.H,σ₁.obl)=(.rt b,k,H,obl):=Option.some.inj h
  simp only [Prod.mk.injEq] at h'
  obtain ⟨rfl,e1,e2,e3⟩:=h'
  exact (Trip.orc orc [] (Trip.evL J hr (e3.symm▸ob))).mono (Nat.le_refl _) fun r hr=>(I11 _ hr e2)
theorem mod_ok {i:Int}{m:Nat}(h:0 < m):binV .Mod (.int i) (.int m)=some (.int (Int.fmod i m)):=by
 show (if (m:Int)=0 then none else some (AV.int (Int.fmod i m)))=_
 exact er (if_neg (o205 h)) rfl
theorem aint_at {cs:List Int}{t:Nat}(ht:t < 10000):subV [] (li (aint cs)) (.int t)=(cs[t]?).map .int:=by
 refine subL.trans ?_
 unfold idx
 refine er (if_pos (o206 ht)) (er (if_pos (oZ)) ?_)
 show (aint cs)[t]? =_
 unfold aint
 exact er (List.getElem?_map) rfl
theorem dip_con {L:Nat}(J:SoundL prog w K c9 0)(hL:L + 40 < 900):Con prog w K L 43 SPdi effDi:=by
 refine Con.of (D:=40) (fn:={pars:=[168,21],kd:=k43,body:=b43}) rfl rfl hL fun as a σ sp=>?_
 obtain ⟨c0,c1,cs,t,m,T,rfl,e,hm,ht,hc,rfl⟩:=sp.ex
 refine ⟨rfl,Trip.nocel ?_⟩
 obtain ⟨kd,loc,cel,H,orc,obl⟩:=σ
 dsimp only at e ⊢
 subst e
 have ln:calB [] .len [li (aint cs)]=some (.int cs.length):=by
  show (if (aint cs).length≤1000000 then some (AV.int (aint cs).length) else none)=_
  unfold aint
  rw [List.length_map,if_pos (Nat.le_trans (by assumption) (by decide))]
 have lt:∀q,q=decide (t < cs.length)→cmpV [] .Lt (.int t) (.int cs.length)=some (.bool q):=fun q h=>lt_ok h
 by_cases h:t < cs.length
 ·have e:cs[t]? =some cs[t]:=List.getElem?_eq_getElem h
  refine (Trip.path' J rfl (p43_in c0 c1 (aint cs) t m cs.length cs[t] (dip cs t m) T) (fun q mq=>?_)).mono (Nat.le_refl _) fun r hr=>hr
  simp only [List.mem_cons,List.not_mem_nil,or_false] at mq
  rcases mq with rfl | rfl | rfl | rfl
  ·refine er (mod_ok hm) ?_;unfold dip;exact er e rfl
  ·refine er (aint_at ht) (er e ?_);rfl
  ·exact lt _ (by simp [h])
  ·exact ln
 ·have e:cs[t]? =none:=List.getElem?_eq_none (Nat.le_of_not_lt (by assumption))
  refine (Trip.path' J rfl (p43_out c0 c1 (aint cs) t m cs.length (7 * t) (dip cs t m) T) (fun q mq=>?_)).mono (Nat.le_refl _) fun r hr=>hr
  simp only [List.mem_cons,List.not_mem_nil,or_false] at mq
  rcases mq with rfl | rfl | rfl | rfl
  ·refine er (mod_ok hm) ?_;unfold dip;exact er e rfl
  ·show (if (7:Int).natAbs < 1000∧(t:Int).natAbs < 1000000 then some (AV.int (7 * t)) else none)=_
   exact er (if_pos ⟨by decide,Nat.le_trans (by assumption) (by decide)⟩) rfl
  ·exact lt _ (by simp [h])
  ·exact ln
end
noncomputable def polV:List (Nat×Nat×Nat):=[(392,20,31),(395,48,72),(396,22,48),(399,12,53),(400,8,40),(401,19,40),(402,10,19),(402,10,23),(403,48,57),(403,21,59),(403,8,60)]
def c8:Cf:={pol:=inPol polV,frz:=fun p=>Nat.beq p.line 392 && Nat.beq p.col 20,spc:=fun f=>Nat.beq f 43,SP:=fun f=>match f with | 43=>SPdi | _=>fun _ _ _=>False,eff:=fun f=>match f with | 43=>effDi | _=>fun _ H=>H,lim:=400}
def st47 (c0:Option (Tg×List AV))(oc:List AV)(cs:List Int)(t:Int)(loc:List (Nat×AV))(H:HL)(orc:List AV)(obl:List Prop):St:={kd:=k47,loc:=loc,cel:=[(78,.ref 1)],H:=c0 :: some (.cell,oc) :: wel cs t :: H,orc:=orc,obl:=obl}
noncomputable abbrev lv47 (sc:AV):List (Nat×AV):=[(203,sc),(182,.ref 3),(168,.ref 2)]
noncomputable abbrev lw47 (sc:AV)(m:Int):List (Nat×AV):=[(203,sc),(182,.ref 3),(168,.ref 2),(21,.int m)]
def in47 (c0:Option (Tg×List AV))(xs:List AV):St:={kd:=k47,loc:=[(203,li xs)],cel:=[(78,.ref 1)],H:=[c0,some (.cell,[])],orc:=[],obl:=[]}
def bdN:List S:=match b47.drop 2 with | .forl _ _ _ b _ :: _=>b | _=>[]
def bdT:List S:=match bdN.drop 2 with | .forl _ _ _ b _ :: _=>b | _=>[]
def whO:S:=match b47.drop 4 with | w :: _=>w | _=>.pass ⟨0,0,0,0⟩
def whT:E:=match whO with | .whl t _ _=>t | _=>.cst .none ⟨0,0,0,0⟩
def whB:List S:=match whO with | .whl _ b _=>b | _=>[]
theorem b47_2:(b47.drop 2).take 1= [.forl 2 (pz 394 8 14) (.calb .range (pz 394 18 23) [(.loc 21 (pz 394 24 28))] (pz 394 18 29)) bdN ⟨394,4,400,40⟩]:=rfl
theorem bdN_2:(bdN.drop 2).take 1= [.forl 171 (pz 397 12 16) (.calb .range (pz 397 20 25) [(.ife (.loc 205 (pz 397 31 39)) (.cst (.int (2)) (pz 397 26 27)) (.cst (.int (1)) (pz 397 45 46)) (pz 397 26 46))] (pz 397 20 47)) bdT ⟨397,8,399,53⟩]:=rfl
theorem b47_4:(b47.drop 4).take 1= [.whl whT whB ⟨402,4,403,60⟩]:=rfl
section
variable (c0:Option (Tg×List AV))(oc:List AV)(cs:List Int)(t m:Int)(sc:AV)(xs ds ws l r:List AV)(H:HL)
abbrev hh47 (c0:Option (Tg×List AV))(oc:List AV)(cs:List Int)(t:Int)(H:HL):HL:=c0 :: some (.cell,oc) :: wel cs t :: H
theorem r47_a:ev c8 60 (.sts (b47.take 1)) (in47 c0 xs)=some (.nx,{kd:=k47,loc:=lv47 (li xs),cel:=[(78,.ref 1)],H:=[c0,some (.cell,[]),some (.lst,[li ((xs.take (min 48 xs.length)).drop 0),.int 0]),some (.lst,[])],orc:=[],obl:=[small xs]}):=by kernel_rfl
theorem r47_b (v:Int):ev c8 60 (.sts ((b47.drop 1).take 1)) (st47 c0 oc cs t (lv47 sc) H [.int v] [])=some (.nx,st47 c0 oc cs (t + 1) (lw47 sc (3 + v)) H [] [SPdi [.ref 2,.int 3] (hh47 c0 oc cs t H) (.int v)]):=by kernel_rfl
theorem r47_n (loc:List (Nat×AV))(H:HL):ev c9 60 (.ex (.loc 21 (pz 394 24 28))) (st47 c0 oc cs t (lw47 sc m ++ loc) H [] [])=some (.v (.int m),st47 c0 oc cs t (lw47 sc m ++ loc) H [] []):=by kernel_rfl
noncomputable abbrev lx47 (i:AV)(b:Bool)(f:Int)(s:Str):List (Nat×AV):=[(2,i),(205,.bool b),(174,.int f),(184,.ref 5),(29,.str s)]
theorem r47_c (i:AV)(o:Obj)(b:Bool)(f h x:Int)(s:Str):ev c8 60 (.sts (bdN.take 2)) (st47 c0 oc cs t (lw47 sc m ++ [(2,i)]) [some (.lst,ds),some (.obj o,[])] [.int f,.int h,.bool b,.int x,.str s] []) =
  some (.nx,st47 c0 oc cs (t + 1 + 1 + 1) (lw47 sc m ++ lx47 i b f s) [some (.lst,ds),some (.obj o,[]),some (.lst,[])] []
   [subV [] (.lit 208) (.int x)=some (.str s),SPdi [.ref 2,.int 2] (hh47 c0 oc cs (t + 1 + 1) [some (.lst,ds),some (.obj o,[])]) (.int x),cmpV [] .Gt (.int h) (.int 0)=some (.bool b),
       SPdi [.ref 2,.int 3] (hh47 c0 oc cs (t + 1) [some (.lst,ds),some (.obj o,[])]) (.int h),SPdi [.ref 2,.int 5] (hh47 c0 oc cs t [some (.lst,ds),some (.obj o,[])]) (.int f)]):=by kernel_rfl
theorem r47_r (i:AV)(b:Bool)(f:Int)(s:Str)(H:HL):ev c9 60 (.ex (.ife (.loc 205 (pz 397 31 39)) (.cst (.int (2)) (pz 397 26 27)) (.cst (.int (1)) (pz 397 45 46)) (pz 397 26 46))) (st47 c0 oc cs t (lw47 sc m ++ lx47 i b f s) H [] []) =
  some (.v (.int (if b=true then 2 else 1)),st47 c0 oc cs t (lw47 sc m ++ lx47 i b f s) H [] []):=by cases b <;> kernel_rfl
theorem r47_d0 (i j:AV)(b:Bool)(f g k:Int)(s:Str)(o o':Obj):ev c8 60 (.sts bdT) (st47 c0 oc cs t (lw47 sc m ++ lx47 i b f s ++ [(171,j)]) [some (.lst,ds),some (.obj o,[]),some (.lst,ws),some (.obj o',[])] [.int g,.int k] []) =
  some (.nx,st47 c0 oc cs (t + 1 + 1) (lw47 sc m ++ lx47 i b f s ++ [(171,j),(17,.int g)]) [some (.lst,ds),some (.obj o,[]),some (.lst,ws ++ [tu [.int g,.int k]]),some (.obj o',[])] []
   [small ws,SPdi [.ref 2,.int 9] (hh47 c0 oc cs (t + 1) [some (.lst,ds),some (.obj o,[]),some (.lst,ws),some (.obj o',[])]) (.int k),SPdi [.ref 2,.int (m + 3)] (hh47 c0 oc cs t [some (.lst,ds),some (.obj o,[]),some (.lst,ws),some (.obj o',[])]) (.int g)]):=by kernel_rfl
theorem r47_d1 (i j g0:AV)(b:Bool)(f g k:Int)(s:Str)(o o':Obj):ev c8 60 (.sts bdT) (st47 c0 oc cs t (lw47 sc m ++ lx47 i b f s ++ [(171,j),(17,g0)]) [some (.lst,ds),some (.obj o,[]),some (.lst,ws),some (.obj o',[])] [.int g,.int k] []) =
  some (.nx,st47 c0 oc cs (t + 1 + 1) (lw47 sc m ++ lx47 i b f s ++ [(171,j),(17,.int g)]) [some (.lst,ds),some (.obj o,[]),some (.lst,ws ++ [tu [.int g,.int k]]),some (.obj o',[])] []
   [small ws,SPdi [.ref 2,.int 9] (hh47 c0 oc cs (t + 1) [some (.lst,ds),some (.obj o,[]),some (.lst,ws),some (.obj o',[])]) (.int k),SPdi [.ref 2,.int (m + 3)] (hh47 c0 oc cs t [some (.lst,ds),some (.obj o,[]),some (.lst,ws),some (.obj o',[])]) (.int g)]):=by kernel_rfl
theorem r47_e (i:AV)(b:Bool)(f:Int)(s:Str)(o:Obj)(tl:List (Nat×AV)):ev c8 60 (.sts (bdN.drop 3)) (st47 c0 oc cs t (lw47 sc m ++ lx47 i b f s ++ tl) [some (.lst,ds),some (.obj o,[]),some (.lst,ws)] [] []) =
  some (.nx,st47 c0 oc cs t (lw47 sc m ++ lx47 i b f s ++ tl) [some (.lst,ds ++ [tu [.int f,.str s,.ref 5]]),some (.obj o,[]),some (.lst,ws)] [] [small ds]):=by kernel_rfl
noncomputable def rngA (m:Int):List AV:=(List.range m.toNat).map fun k=>.int (Int.ofNat k)
theorem r47_f:ev c8 60 (.sts ((b47.drop 3).take 1)) (st47 c0 [] cs t (lw47 sc m) [some (.lst,ds)] [] []) =
  some (.nx,st47 c0 [.ref 5] cs t (lw47 sc m ++ [(73,.ref 4)]) [some (.lst,ds),some (.lst,rngA (m + 1)),some (.lst,[])] [] [0≤m + 1∧m + 1≤1000]):=by kernel_rfl
theorem r47_t (b:Bool)(n:Int):ev c8 60 (.tr whT) (st47 c0 [.ref 5] cs t (lw47 sc m ++ [(73,.ref 4)]) [some (.lst,ds),some (.lst,l),some (.lst,r)] [.int n,.bool b] []) =
  some (.b b,st47 c0 [.ref 5] cs t (lw47 sc m ++ [(73,.ref 4)]) [some (.lst,ds),some (.lst,l),some (.lst,r)] [] [cmpV [] .Gt (.int n) (.int 0)=some (.bool b),calB [] .len [li l]=some (.int n)]):=by kernel_rfl
theorem r47_p (n:Int)(x:AV)(k:Nat)(hk:k < 6)(ys:List AV):ev c8 60 (.sts whB) (st47 c0 [.ref 5] cs t (lw47 sc m ++ [(73,.ref 4)]) [some (.lst,ds),some (.lst,l),some (.lst,r)] [.int n,.int (Int.ofNat k),x,li ys] []) =
  some (.nx,st47 c0 [.ref 5] cs (t + 1) (lw47 sc m ++ [(73,.ref 4)]) [some (.lst,ds),some (.lst,ys),some (.lst,r ++ [x])] []
   [small r,popAt l k=some (x,ys),small l,SPdi [.ref 2,.int n] (hh47 c0 [.ref 5] cs t [some (.lst,ds),some (.lst,l),some (.lst,r)]) (.int (Int.ofNat k)),calB [] .len [li l]=some (.int n)]):=by
 match k,hk with
 | 0,_=>kernel_rfl
 | 1,_=>kernel_rfl
 | 2,_=>kernel_rfl
 | 3,_=>kernel_rfl
 | 4,_=>kernel_rfl
 | 5,_=>kernel_rfl
theorem r47_k (c:Int)(H:HL):ev c8 60 (.sts ((b47.drop 5).take 1)) (st47 c0 oc cs t (lw47 sc m ++ [(73,.ref 4)]) H [.int c] []) =
  some (.nx,st47 c0 oc cs (t + 1) (lw47 sc m ++ [(73,.ref 4),(188,.int c)]) H [] [SPdi [.ref 2,.int (m + 2)] (hh47 c0 oc cs t H) (.int c)]):=by kernel_rfl
end
section
variable {c0:Option (Tg×List AV)}{oc:List AV}{cs:List Int}
theorem sp_di {t m k:Nat}{H:HL}(e:dip cs t m=k)(hm:0 < m)(ht:t < 10000)(hc:cs.length≤100):SPdi [.ref 2,.int m] (hh47 c0 oc cs t H) (.int k):=
 ⟨_,_,_,_,_,_,rfl,rfl,hm,ht,hc,(congrArg _ e.symm)⟩
theorem word_ok {x:Nat}(h:x < 2):∃s,VarOk s∧subV [] (.lit 208) (.int x)=some (.str s):=by
 match x,h with
 | 0,_=>exact ⟨nm 197,.inl rfl,by kernel_rfl⟩
 | 1,_=>exact (I11 (nm 198) (.inr rfl) (by kernel_rfl))
def wayA (p:Nat×Nat):AV:=tu [.int p.1,.int p.2]
theorem fro_ws {gs:List (Nat×Nat)}:FroL (gs.map wayA):=FroL.map fun _ _=>.nd (.cons .int (.cons .int .nil))
theorem fro_rs {rs:List Raw}:FroL (rs.map Raw.val):=FroL.map fun _ _=>fro_raw
theorem fro_aint {l:List Int}:FroL (aint l):=FroL.map fun _ _=>.int
theorem low47 {n:Nat}(h0:LowC n c0)(ho:FzL n [] oc oc){t:Int}{H:HL}(hH:LowH n H):LowH n (hh47 c0 oc cs t H):=.cons h0 (.cons (.some ho) (.cons (.some (.cons (.nd fro_aint.fz) (.cons .int .nil))) hH))
theorem low_cel {n:Nat}{H:HL}(h:Nat.blt 1 n=true):FzN n H [(78,.ref 1)] [(78,.ref 1)]:=.cons (.low h) .nil
theorem low_lw {n:Nat}{H:HL}(h:Nat.ble 4 n=true){sc:AV}(fs:Fro sc){m:Int}{tl:List (Nat×AV)}(ht:FzN n H tl tl):FzN n H (lw47 sc m ++ tl) (lw47 sc m ++ tl):=
 have h':=Nat.le_of_ble_eq_true h
 .cons fs.fz (.cons (.low (Nat.ble_eq.mpr (by assumption))) (.cons (.low (Nat.ble_eq.mpr (Nat.le_of_lt (by assumption)))) (.cons .int ht)))
end
section
variable {prog:Program}{w:World}{K:Frag}{c0:Option (Tg×List AV)}{cs:List Int}{sc:AV}
structure WJ (c0:Option (Tg×List AV)) (cs:List Int) (sc:AV) (ds:List AV) (o:Obj) (a:AV) (b:Bool) (f:Int) (s:Str) (t m i:Nat) (σ:St):Prop where
 ex:∃(gs:List (Nat×Nat)) (tl:List (Nat×AV)),gs.length=i∧(∀p∈gs,p.1 < m + 3)∧((tl= []∧i=0)∨∃j g,tl= [(171,.int j),(17,.int g)])∧
  σ=st47 c0 [] cs ((t + 2 * gs.length:Nat):Int) (lw47 sc m ++ lx47 a b f s ++ tl) [some (.lst,ds),some (.obj o,[]),some (.lst,gs.map wayA)] [] []
theorem WJ.next {t m i g k:Nat}{ds:List AV}{o o':Obj}{a:AV}{b:Bool}{f:Int}{s:Str}{gs:List (Nat×Nat)}(hl:gs.length=i)(hg:∀p∈gs,p.1 < m + 3)(hg1:g < m + 3){r:Out×St}
  (hr:r=(.nx,st47 c0 [] cs (((t + 2 * gs.length:Nat):Int) + 1 + 1) (lw47 sc m ++ lx47 a b f s ++ [(171,.int (Int.ofNat i)),(17,.int g)]) [some (.lst,ds),some (.obj o,[]),some (.lst,gs.map wayA ++ [tu [.int g,.int k]]),some (.obj o',[])] [] [])) :
  ∃σ',r=(.nx,σ'.with [o'])∧WJ c0 cs sc ds o a b f s t m (i + 1) σ'∧σ'.H.length=6:=by
 refine (I12 (st47 c0 [] cs (((t + 2 * gs.length:Nat):Int) + 1 + 1) (lw47 sc m ++ lx47 a b f s ++ [(171,AV.int (Int.ofNat i)),(17,AV.int g)]) [some (.lst,ds),some (.obj o,[]),some (.lst,gs.map wayA ++ [tu [AV.int g,AV.int k]])] [] []) hr ⟨gs ++ [(g,k)],[(171,AV.int (Int.ofNat i)),(17,AV.int g)],by refine er List.length_append (er hl ?_);rfl,fun p mp=>?_,.inr ⟨_,_,rfl⟩,?_⟩ rfl)
 ·rcases List.mem_append.mp mp with mp | mp
  ·exact hg p mp
  ·refine er (List.mem_singleton.mp mp) ?_;exact hg1
 ·refine er List.map_append (er List.length_append (er (show (((t + 2 * (gs.length + [(g,k)].length):Nat)):Int)=((t + 2 * gs.length:Nat):Int) + 1 + 1 by simp;exact rfl) ?_))
  rfl
theorem way_step (J:SoundL prog w K c8 500)(hc:cs.length≤100){t m i:Nat}(ht:t < 9000){a:AV}{b:Bool}{f:Int}{s:Str}{ds:List AV}{o o':Obj}{gs:List (Nat×Nat)}(hi:i < 2)(hl:gs.length=i)(hg:∀p∈gs,p.1 < m + 3)
  {tl:List (Nat×AV)} (htl:tl= []∨∃g0,tl= [(17,g0)]) :
  Trip prog w K 560 bdT (st47 c0 [] cs ((t + 2 * gs.length:Nat):Int) (lw47 sc m ++ lx47 a b f s ++ (171,.int (Int.ofNat i)) :: tl) [some (.lst,ds),some (.obj o,[]),some (.lst,gs.map wayA),some (.obj o',[])] [] [])
   fun r=>∃σ',r=(.nx,σ'.with [o'])∧WJ c0 cs sc ds o a b f s t m (i + 1) σ'∧σ'.H.length=6:=by
 refine X11 (dip_lt cs (t + 2 * gs.length) (m:=m + 3) (Nat.succ_pos _)) fun g hg1 eg=>?_
 refine X11 (dip_lt cs (t + 2 * gs.length + 1) (m:=9) (Nat.succ_pos _)) fun k hk1 ek=>?_
 have ob:AllP [small (gs.map wayA),SPdi [.ref 2,.int 9] (hh47 c0 [] cs (((t + 2 * gs.length:Nat):Int) + 1) [some (.lst,ds),some (.obj o,[]),some (.lst,gs.map wayA),some (.obj o',[])]) (.int k),
   SPdi [.ref 2,.int ((m:Int) + 3)] (hh47 c0 [] cs ((t + 2 * gs.length:Nat):Int) [some (.lst,ds),some (.obj o,[]),some (.lst,gs.map wayA),some (.obj o',[])]) (.int g)]:=
  .cons (by show (gs.map wayA).length≤5000;rw [List.length_map];exact o164 hi hl) (.cons (sp_di (t:=t + 2 * gs.length + 1) (m:=9) ek (o165) (o166 ht hi hl) hc) (.cons (sp_di (m:=m + 3) eg (o167) (o168 ht hi hl) hc) .nil))
 rcases htl with rfl | ⟨g0,rfl⟩
 ·exact (Trip.orc [.int g,.int k] [] (Trip.evL J (r47_d0 c0 [] cs ((t + 2 * gs.length:Nat):Int) m sc ds (gs.map wayA) a (.int (Int.ofNat i)) b f g k s o o') ob)).clean fun r hr=>WJ.next (k:=k) hl hg hg1 (by refine er hr ?_;rfl)
 ·exact (Trip.orc [.int g,.int k] [] (Trip.evL J (r47_d1 c0 [] cs ((t + 2 * gs.length:Nat):Int) m sc ds (gs.map wayA) a (.int (Int.ofNat i)) g0 b f g k s o o') ob)).clean fun r hr=>WJ.next (k:=k) hl hg hg1 (by refine er hr ?_;rfl)
theorem l47_ways (G:Good K)(J9:Sound prog w K c9)(J:SoundL prog w K c8 500)(hc:cs.length≤100){t m:Nat}(ht:t < 9000){a:AV}(fa:Fro a){b:Bool}{f:Int}{s:Str}{ds:List AV}(fd:FroL ds){o:Obj}(fs:Fro sc)(h0:LowC 5 c0) :
  Trip prog w K 560 ((bdN.drop 2).take 1) (st47 c0 [] cs t (lw47 sc m ++ lx47 a b f s) [some (.lst,ds),some (.obj o,[]),some (.lst,[])] [] [])
   fun r=>∃(gs:List (Nat×Nat)) (tl:List (Nat×AV)),gs.length=(if b=true then 2 else 1)∧(∀p∈gs,p.1 < m + 3)∧r=(.nx,st47 c0 [] cs ((t + 2 * gs.length:Nat):Int) (lw47 sc m ++ lx47 a b f s ++ tl) [some (.lst,ds),some (.obj o,[]),some (.lst,gs.map wayA)] [] []):=by
 refine er bdN_2 ?_
 have q12:(if b=true then (2:Int) else 1).toNat=if b=true then 2 else 1:=by cases b <;> rfl
 refine (Trip.forl (k:=1) (xs:=upN (if b=true then (2:Int) else 1).toNat) (WJ c0 cs sc ds o a b f s t m)
  ?_ ⟨[],[],rfl,fun _ m=>(nomatch m),.inl ⟨rfl,rfl⟩,rfl⟩ (fun i σ h=>?_) (fun i σ os h _=>?_) fun i x σ os h e l=>?_).mono (Nat.le_refl _) fun r hr=>?_
 ·refine Src.mono (src_range (n:=60) (fp:=(pz 397 20 25)) (p:=(pz 397 20 47)) G J9 rfl (r47_r c0 [] cs t m sc a b f s [some (.lst,ds),some (.obj o,[]),some (.lst,[])]) .nil rfl ?_ ?_) (by decide)
  ·cases b <;> decide
  ·cases b <;> decide
 ·refine X23 h.ex fun gs tl _ _ _ q0=>?_;subst q0;rfl
 ·refine X23 h.ex fun gs tl _ _ htl q0=>?_;subst q0
  refine LowH.fzs (σ:=st47 c0 [] cs ((t + 2 * gs.length:Nat):Int) (lw47 sc m ++ lx47 a b f s ++ tl) [some (.lst,ds),some (.obj o,[]),some (.lst,gs.map wayA)] [] []) (low47 (h0.more (show 5≤6 by decide)) .nil (.cons (.some fd.fz) (.cons (.some .nil) (.cons (.some fro_ws.fz) .nil)))) os (low_lw rfl fs ?_) (low_cel rfl)
  refine .cons fa.fz (.cons .bool (.cons .int (.cons (.low rfl) (.cons .str ?_))))
  rcases htl with ⟨rfl,_⟩ | ⟨j,g,rfl⟩
  ·exact .nil
  ·exact .cons .int (.cons .int .nil)
 ·refine X23 h.ex fun gs tl hl hg htl q0=>?_;subst q0
  have hlt':=(List.getElem?_eq_some_iff.mp e).1
  rw [upN_len] at hlt'
  have ea:x=.int (Int.ofNat i):=by
   rw [upN_get hlt'] at e
   cases Option.some.inj e;rfl
  have hlt:i < 2:=by
   rw [q12] at hlt'
   exact oa9 hlt'
  subst ea
  refine X1 (List.length_eq_one_iff.mp l) fun o' q0=>?_;subst q0
  rcases htl with ⟨rfl,_⟩ | ⟨j,g',rfl⟩
  ·have T:=way_step (c0:=c0) (sc:=sc) (t:=t) (m:=m) (a:=a) (b:=b) (f:=f) (s:=s) (ds:=ds) (o:=o) (o':=o') J hc ht hlt hl hg (tl:=[]) (.inl rfl)
   exact T
  ·have T:=way_step (c0:=c0) (sc:=sc) (t:=t) (m:=m) (a:=a) (b:=b) (f:=f) (s:=s) (ds:=ds) (o:=o) (o':=o') J hc ht hlt hl hg (tl:=[(17,AV.int g')]) (.inr ⟨_,rfl⟩)
   exact T
 ·refine X11 hr fun σ' q0 h=>?_;subst q0
  refine X23 h.ex fun gs tl hl hg _ q0=>?_;subst q0
  rw [upN_len,q12] at hl
  exact (I22 gs tl hl hg rfl)
end
theorem raw_of {m f:Nat}{s:Str}{gs:List (Nat×Nat)}{b:Bool}(hl:gs.length=(if b=true then 2 else 1))(hf:f < 5)(hs:VarOk s)(hg:∀p∈gs,p.1 < m + 3):∃r:Raw,r.Ok m∧r.val=tu [.int f,.str s,li (gs.map wayA)]:=by
 cases b with
 | false=>
  refine X1 (List.length_eq_one_iff.mp hl) fun p q0=>?_;subst q0
  exact ⟨⟨f,s,p.1,p.2,none⟩,⟨Nat.le_of_lt_succ hf,hs,hg p (.head _),fun _ _ e=>nomatch e⟩,rfl⟩
 | true=>
  refine X21 (show∃p T,gs=p :: T∧T.length=1 from by
   cases gs with
   | nil=>simp at hl
   | cons p T=>exact (I21 p T rfl (Nat.succ.inj hl))) fun p T q0 hT=>?_;subst q0
  refine X1 (List.length_eq_one_iff.mp hT) fun q q0=>?_;subst q0
  exact (I11 ⟨f,s,p.1,p.2,some q⟩ ⟨Nat.le_of_lt_succ hf,hs,hg p (.head _),fun _ _ e=>by cases Option.some.inj e;exact hg _ (.tail _ (.head _))⟩ rfl)
section
variable {prog:Program}{w:World}{K:Frag}{c0:Option (Tg×List AV)}{cs:List Int}{sc:AV}
structure DJ (c0:Option (Tg×List AV)) (cs:List Int) (sc:AV) (t0 m i:Nat) (σ:St):Prop where
 ex:∃(t:Nat) (rs:List Raw),t≤t0 + 10 * i∧rs.length=i∧(∀r∈rs,r.Ok m)∧σ=st47 c0 [] cs t (lw47 sc m) [some (.lst,rs.map Raw.val)] [] []
theorem stm_head (J:SoundL prog w K c8 500)(hc:cs.length≤100){t m:Nat}(ht:t < 9000){a:AV}{ds:List AV}{o:Obj} :
  Trip prog w K 560 (bdN.take 2) (st47 c0 [] cs t (lw47 sc m ++ [(2,a)]) [some (.lst,ds),some (.obj o,[])] [] [])
   fun r=>∃(b:Bool) (f:Nat) (s:Str),f < 5∧VarOk s∧r=(.nx,st47 c0 [] cs ((t + 3:Nat):Int) (lw47 sc m ++ lx47 a b f s) [some (.lst,ds),some (.obj o,[]),some (.lst,[])] [] []):=by
 refine X11 (dip_lt cs t (m:=5) (Nat.succ_pos _)) fun f hf ef=>?_
 refine X11 (dip_lt cs (t + 1) (m:=3) (Nat.succ_pos _)) fun h hh eh=>?_
 refine X11 (dip_lt cs (t + 2) (m:=2) (Nat.succ_pos _)) fun x hx ex=>?_
 refine X11 (word_ok hx) fun s hs es=>?_
 have ob:AllP [subV [] (.lit 208) (.int x)=some (.str s),SPdi [.ref 2,.int 2] (hh47 c0 [] cs ((t:Int) + 1 + 1) [some (.lst,ds),some (.obj o,[])]) (.int x),cmpV [] .Gt (.int h) (.int 0)=some (.bool (decide ((0:Int) < h))),
       SPdi [.ref 2,.int 3] (hh47 c0 [] cs ((t:Int) + 1) [some (.lst,ds),some (.obj o,[])]) (.int h),SPdi [.ref 2,.int 5] (hh47 c0 [] cs t [some (.lst,ds),some (.obj o,[])]) (.int f)]:=
  .cons es (.cons (sp_di (t:=t + 2) (m:=2) ex (Nat.succ_pos _) (o178 ht) hc) (.cons rfl (.cons (sp_di (t:=t + 1) (m:=3) eh (Nat.succ_pos _) (Nat.lt_of_le_of_lt (by assumption) (by decide)) hc) (.cons (sp_di (m:=5) ef (Nat.succ_pos _) (Nat.le_trans (by assumption) (by decide)) hc) .nil))))
 exact (Trip.orc [.int f,.int h,.bool (decide ((0:Int) < h)),.int x,.str s] [] (Trip.evL J (r47_c c0 [] cs t m sc ds a o (decide ((0:Int) < h)) f h x s) ob)).clean fun r hr=>(I32 (decide ((0:Int) < h)) f s hf hs (by refine er hr ?_;rfl))
theorem stm_step (G:Good K)(J9:Sound prog w K c9)(J:SoundL prog w K c8 500)(hc:cs.length≤100){t0 t m i:Nat}(ht:t < 8000)(hi:i < 100)(tl0:t≤t0 + 10 * i){rs:List Raw}(hl:rs.length=i)(hr:∀r∈rs,r.Ok m)(fs:Fro sc)(h0:LowC 4 c0){a:AV}(fa:Fro a){o:Obj} :
  Trip prog w K 560 bdN (st47 c0 [] cs t (lw47 sc m ++ [(2,a)]) [some (.lst,rs.map Raw.val),some (.obj o,[])] [] [])
   fun r=>∃σ',r=(.nx,σ'.with [o])∧DJ c0 cs sc t0 m (i + 1) σ'∧σ'.H.length=4:=by
 refine er (show bdN=bdN.take 2 ++ ((bdN.drop 2).take 1 ++ bdN.drop 3) from rfl) ?_
 refine Trip.fz (P:=fun r=>∃(b:Bool) (f:Nat) (s:Str) (gs:List (Nat×Nat)) (tl:List (Nat×AV)),f < 5∧VarOk s∧gs.length=(if b=true then 2 else 1)∧(∀p∈gs,p.1 < m + 3)∧
  r=(.nx,st47 c0 [] cs ((t + 3 + 2 * gs.length:Nat):Int) (lw47 sc m ++ lx47 a b f s ++ tl) [some (.lst,rs.map Raw.val ++ [tu [.int f,.str s,.ref 5]]),some (.obj o,[]),some (.lst,gs.map wayA)] [] [])) ?_ fun r ⟨b,f,s,gs,tl,hf,hs,hgl,hg,e⟩=>?_
 ·refine Trip.app (stm_head J hc (Nat.le_trans (by assumption) (by decide))) (fun σ' h=>?_) fun r z9 q=>absurd (show r.1=.nx from X32 z9 fun _ _ _ _ _ h=>congrArg Prod.fst h) q
  obtain ⟨b,f,s,hf,hs,e⟩:=h
  replace e:=(Prod.mk.inj e).2
  subst e
  refine Trip.app (l47_ways G J9 J hc (o179 ht) fa fro_rs fs (h0.more (show 4≤5 by decide))) (fun σ' h=>?_) fun r z9 q=>absurd (show r.1=.nx from X22 z9 fun _ _ _ _ h=>congrArg Prod.fst h) q
  obtain ⟨gs,tl,hgl,hg,e⟩:=h
  replace e:=(Prod.mk.inj e).2
  subst e
  exact (Trip.evL J (r47_e c0 [] cs ((t + 3 + 2 * gs.length:Nat):Int) m sc (rs.map Raw.val) (gs.map wayA) a b f s o tl) (.cons (by show (rs.map Raw.val).length≤5000;rw [List.length_map];exact o180 hi hl) .nil)).clean fun r hr=>⟨b,f,s,gs,tl,hf,hs,hgl,hg,by refine er hr ?_;rfl⟩
 ·subst e
  refine X11 (raw_of hgl hf hs hg) fun raw hok hv=>?_
  have g2:gs.length≤2:=oa8 hgl
  refine ⟨(.nx,st47 c0 [] cs ((t + 3 + 2 * gs.length:Nat):Int) (lw47 sc m) [some (.lst,(rs ++ [raw]).map Raw.val),some (.obj o,[])] [] []),.nx,⟨rfl,rfl,by show 5≤6;decide,?_,?_,low_cel rfl⟩,
   st47 c0 [] cs ((t + 3 + 2 * gs.length:Nat):Int) (lw47 sc m) [some (.lst,(rs ++ [raw]).map Raw.val)] [] [],rfl,⟨_,rs ++ [raw],?_,?_,?_,rfl⟩,rfl⟩
  ·refine .keep (h0.more (show 4≤5 by decide)) (.cons .nil (.cons (.cons (.nd fro_aint.fz) (.cons .int .nil)) (.cons ?_ (.cons .nil .nil))))
   refine er List.map_append ?_
   refine FzL.append fro_rs.fz ?_
   refine er List.map_cons (er List.map_nil (er hv ?_))
   exact .cons (.nd (.cons .int (.cons .str (.cons (.ref rfl rfl fro_ws.fz) .nil)))) .nil
  ·exact .cons fs.fz (.cons (.low rfl) (.cons (.low rfl) (.cons .int .nil)))
  ·exact o181 tl0 g2
  ·refine er List.length_append (er hl ?_);rfl
  ·intro r mr
   rcases List.mem_append.mp mr with mr | mr
   ·exact hr r mr
   ·refine er (List.mem_singleton.mp mr) ?_;exact hok
theorem l47_loop (G:Good K)(J9:Sound prog w K c9)(J:SoundL prog w K c8 500)(hc:cs.length≤100){t0 m:Nat}(ht:t0 < 100)(hm:m≤10)(fs:Fro sc)(h0:LowC 4 c0) :
  Trip prog w K 560 ((b47.drop 2).take 1) (st47 c0 [] cs t0 (lw47 sc m) [some (.lst,[])] [] [])
   fun r=>∃(t:Nat) (rs:List Raw),t≤t0 + 10 * m∧rs.length=m∧(∀r∈rs,r.Ok m)∧r=(.nx,st47 c0 [] cs t (lw47 sc m) [some (.lst,rs.map Raw.val)] [] []):=by
 refine er b47_2 ?_
 refine (Trip.forl (k:=1) (xs:=upN m) (DJ c0 cs sc t0 m) ?_ ⟨t0,[],Nat.le_refl _,rfl,fun _ m=>(nomatch m),rfl⟩ (fun i σ h=>?_) (fun i σ os h _=>?_) fun i x σ os h e l=>?_).mono (Nat.le_refl _) fun r hr=>?_
 ·refine Src.mono (src_range (n:=60) (i:=m) (fp:=(pz 394 18 23)) (p:=(pz 394 18 29)) G J9 rfl (r47_n c0 [] cs t0 m sc [] [some (.lst,[])]) .nil rfl ?_ ?_) (by decide) <;> omega
 ·refine X23 h.ex fun t rs _ _ _ q0=>?_;subst q0;rfl
 ·refine X23 h.ex fun t rs _ _ _ q0=>?_;subst q0
  exact LowH.fzs (σ:=st47 c0 [] cs t (lw47 sc m) [some (.lst,rs.map Raw.val)] [] []) (low47 h0 .nil (.cons (.some fro_rs.fz) .nil)) os (low_lw (tl:=[]) rfl fs .nil) (low_cel rfl)
 ·refine X23 h.ex fun t rs tle hl hr q0=>?_;subst q0
  have hlt:=(List.getElem?_eq_some_iff.mp e).1
  rw [upN_len] at hlt
  have ea:x=.int (Int.ofNat i):=by
   rw [upN_get hlt] at e
   cases Option.some.inj e;rfl
  subst ea
  obtain ⟨o,rfl⟩:=List.length_eq_one_iff.mp l
  have T:=stm_step (c0:=c0) (sc:=sc) (t0:=t0) (t:=t) (m:=m) (i:=i) (rs:=rs) (a:=.int (Int.ofNat i)) (o:=o) G J9 J hc (o182 ht hm tle hlt) (o183 hm hlt) tle hl hr fs h0 .int
  exact T
 ·obtain ⟨σ',rfl,h⟩:=hr
  refine X23 h.ex fun t rs tle hl hr q0=>?_;subst q0
  rw [upN_len] at tle hl
  exact (I23 t rs tle hl hr rfl)
end
noncomputable def natA (l:List Nat):List AV:=l.map fun k=>.int (Int.ofNat k)
theorem natA_len (l:List Nat):(natA l).length=l.length:=List.length_map ..
theorem fro_natA {l:List Nat}:FroL (natA l):=FroL.map fun _ _=>.int
theorem pop_natA:∀{l:List Nat} {k:Nat} (h:k < l.length),popAt (natA l) k=some (.int (Int.ofNat l[k]),natA (l.eraseIdx k))
 | x :: l,0,_=>rfl
 | x :: l,k + 1,h=>by
  have ih:=pop_natA (l:=l) (k:=k) (Nat.lt_of_succ_lt_succ h)
  show (popAt (natA l) k).map _=_
  refine er ih ?_;rfl
theorem pop_perm:∀{l:List Nat} {k:Nat} (h:k < l.length),(l[k] :: l.eraseIdx k).Perm l
 | x :: l,0,_=>.refl _
 | x :: l,k + 1,h=>(List.Perm.swap ..).trans ((pop_perm (l:=l) (k:=k) (Nat.lt_of_succ_lt_succ h)).cons x)
section
variable {prog:Program}{w:World}{K:Frag}{c0:Option (Tg×List AV)}{cs:List Int}{sc:AV}{c:Cf}
theorem TrB.evL {E:Nat}(J:SoundL prog w K c E){n:Nat}{t:Mine.E}{σ σ':St}{b:Bool}(o:List AV)(hr:Mine.ev c n (.tr t) {σ with orc:=o,obl:=[]}=some (.b b,σ'))(ob:AllP σ'.obl) :
  TrB prog w K (n + E) t σ (fun b' σ''=>b'=b∧σ''= {σ' with orc:=[],obl:=[]}):=
 ⟨fun O B S h=>(J.snd n).tr O (by have:=J.lim;exact o32 B this) hr ob (S.orc o []) fun Z' ad' h' tk sub pr S'=>h _ _ ⟨rfl,rfl⟩ Z' ad' h' tk sub pr (S'.orc [] [])⟩
theorem l47_first (J:SoundL prog w K c8 500){xs:List Int}(hx:xs.length≤100) :
  Trip prog w K 560 (b47.take 1) (in47 c0 (aint xs)) fun r=>r=(.nx,st47 c0 [] (xs.take 48) (0:Nat) (lv47 (li (aint xs))) [some (.lst,[])] [] []):=by
 refine (Trip.evL J (r47_a c0 (aint xs)) (.cons (by show (aint xs).length≤5000;unfold aint;rw [List.length_map];exact Nat.le_trans (by assumption) (by decide)) .nil)).clean fun r hr=>?_
 refine er hr ?_
 have e:aint (xs.take 48)=((aint xs).take (min 48 (aint xs).length)).drop 0:=by
  unfold aint
  exact er List.drop_zero (re List.take_eq_take_min (er List.map_take rfl))
 unfold st47 wel
 refine er e ?_;rfl
theorem l47_many (J:SoundL prog w K c8 500)(hc:cs.length≤100){H:HL} :
  Trip prog w K 560 ((b47.drop 1).take 1) (st47 c0 [] cs (0:Nat) (lv47 sc) H [] []) fun r=>∃m:Nat,3≤m∧m≤5∧r=(.nx,st47 c0 [] cs (1:Nat) (lw47 sc m) H [] []):=by
 refine X11 (dip_lt cs 0 (m:=3) (o33)) fun k hk ek=>?_
 refine (Trip.orc [.int k] [] (Trip.evL J (r47_b c0 [] cs (0:Nat) sc H k) (.cons (sp_di (m:=3) ek (o33) (o102) hc) .nil))).clean fun r hr=>(I12 (3 + k) (o103) (o104 hk) ?_)
 refine er hr (er (show (((3 + k:Nat):Nat):Int)=3 + (k:Int) from rfl) ?_);rfl
structure OJ (c0:Option (Tg×List AV)) (cs:List Int) (sc:AV) (ds:List AV) (t0 m n:Nat) (σ:St):Prop where
 ex:∃(t:Nat) (l o:List Nat),t + l.length≤t0 + m + 1∧l.length=n∧(o ++ l).Perm (List.range (m + 1))∧σ=st47 c0 [.ref 5] cs t (lw47 sc m ++ [(73,.ref 4)]) [some (.lst,ds),some (.lst,natA l),some (.lst,natA o)] [] []
theorem whl_step (J:SoundL prog w K c8 500)(hc:cs.length≤100){t0 m n:Nat}(ht:t0 < 1000)(hm:m≤5){ds:List AV}{σ:St}(h:OJ c0 cs sc ds t0 m n σ) :
  TrB prog w K 560 whT σ fun q σ'=>if q=true then Trip prog w K 560 whB σ' (fun r=>∃k,k < n∧r.1=.nx∧OJ c0 cs sc ds t0 m k r.2) else n=0∧σ'=σ:=by
 refine X33 h.ex fun t l o tl hl hp q0=>?_;subst q0
 have len:o.length + l.length=m + 1:=by have:=hp.length_eq;rw [List.length_append,List.length_range] at this;exact this
 have ln:calB [] .len [li (natA l)]=some (.int (n:Int)):=by rw [cmp_len (by rw [natA_len];exact o34 hm len),natA_len,hl]
 refine (TrB.evL J [.int n,.bool (decide ((0:Int) < n))] (r47_t c0 cs t m sc ds (natA l) (natA o) (decide ((0:Int) < n)) n) (.cons rfl (.cons ln .nil))).mono (Nat.le_refl _) fun q σ' hq=>?_
 refine X01 hq fun q9 q1=>?_;subst q9;subst q1
 by_cases h0:0 < n
 ·refine er (if_pos (by simp;exact by assumption)) ?_
  refine X11 (dip_lt cs t h0) fun k hk ek=>?_
  have hkl:k < l.length:=Nat.lt_of_lt_of_eq (by assumption) (Eq.symm (by assumption))
  have hlo:(natA o).length≤5000:=by rw [natA_len];exact o106 hm len
  have hll:(natA l).length≤5000:=by rw [natA_len];exact o34 hm len
  have hr:=r47_p c0 cs t m sc ds (natA l) (natA o) n (.int (Int.ofNat l[k])) k (o107 hm len hkl) (natA (l.eraseIdx k))
  have sp:SPdi [.ref 2,.int n] (hh47 c0 [.ref 5] cs t [some (.lst,ds),some (.lst,natA l),some (.lst,natA o)]) (.int (Int.ofNat k)):=sp_di ek h0 (o108 ht hm tl) hc
  have T:=Trip.evL J hr (.cons hlo (.cons (pop_natA hkl) (.cons hll (.cons sp (.cons ln .nil)))))
  refine (Trip.orc [.int n,.int (Int.ofNat k),.int (Int.ofNat l[k]),li (natA (l.eraseIdx k))] [] T).clean fun r hr=>?_
  refine er hr ?_
  have le:(l.eraseIdx k).length=n - 1:=by refine er (List.length_eraseIdx_of_lt hkl) ?_;exact o109 hl
  refine (I12 (n - 1) (o110 hk) rfl ⟨t + 1,l.eraseIdx k,o ++ [l[k]],(o111 tl hl hkl le),le,?_,?_⟩)
  ·rw [List.append_assoc]
   exact ((pop_perm hkl).append_left o).trans hp
  ·unfold natA
   refine er List.map_append ?_;rfl
 ·refine er (if_neg (by simp;exact o35 h0)) ?_
  exact ⟨(o35 h0),rfl⟩
theorem l47_whl (J:SoundL prog w K c8 500)(hc:cs.length≤100){t0 m n:Nat}(ht:t0 < 1000)(hm:m≤5){ds:List AV}{σ:St}(h:OJ c0 cs sc ds t0 m n σ) :
  Trip prog w K 560 ((b47.drop 4).take 1) σ fun r=>r.1=.nx∧OJ c0 cs sc ds t0 m 0 r.2:=by
 refine er b47_4 ?_
 refine Trip.whl (OJ c0 cs sc ds t0 m) (fun n σ h=>(whl_step J hc ht hm h).mono (Nat.le_refl _) fun q σ' hq=>?_) n h
 cases q with
 | true=>
  rw [if_pos rfl] at hq ⊢
  exact hq.mono (Nat.le_refl _) fun r hr=>.inl hr
 | false=>
  rw [if_neg (by decide)] at hq ⊢
  obtain ⟨rfl,rfl⟩:=hq
  exact ⟨rfl,h⟩
def st3 (c0:Option (Tg×List AV))(cs:List Int)(t:Int)(m:Nat)(rs:List Raw)(o:List Nat)(c:Nat):St:=
 {kd:=k47,loc:=[(182,li (rs.map Raw.val)),(168,.ref 2),(21,.int m),(188,.int c)],cel:=[(78,.ref 1)],H:=[c0,some (.cell,[li (natA o)]),wel cs t],orc:=[],obl:=[]}
structure Drawn (m:Nat) (rs:List Raw) (o:List Nat):Prop where
 m3:3≤m
 m5:m≤5
 len:rs.length=m
 raw:∀r∈rs,r.Ok m
 perm:o.Perm (List.range (m + 1))
theorem l47_draw (G:Good K)(J9:Sound prog w K c9)(J:SoundL prog w K c8 500){xs:List Int}(hx:xs.length≤100)(h0:LowC 3 c0) :
  Trip prog w K 560 (b47.take 6) (in47 c0 (aint xs)) fun r=>∃cs t m rs o c,Drawn m rs o∧r=(.nx,st3 c0 cs t m rs o c):=by
 have hc:(xs.take 48).length≤100:=by refine er List.length_take ?_;exact o112
 have fs:Fro (li (aint xs)):=.nd fro_aint
 refine Trip.fzn (n0:=3) (P:=fun r=>∃(cs:List Int) (t m:Nat) (rs:List Raw) (o:List Nat) (c:Nat) (l:List Nat),Drawn m rs o∧r=(.nx,st47 c0 [.ref 5] cs (t:Int) (lw47 (li (aint xs)) m ++ [(73,.ref 4),(188,.int c)]) [some (.lst,rs.map Raw.val),some (.lst,natA l),some (.lst,natA o)] [] []))
  ?_ (show 2≤3 by decide) fun r ⟨cs,t,m,rs,o,c,l,D,e⟩=>?_
 ·refine er (show b47.take 6=b47.take 1 ++ ((b47.drop 1).take 1 ++ ((b47.drop 2).take 1 ++ ((b47.drop 3).take 1 ++ ((b47.drop 4).take 1 ++ (b47.drop 5).take 1)))) from rfl) ?_
  refine Trip.app (l47_first J hx) (fun σ' h=>?_) fun r h q=>absurd (congrArg _ h) q
  replace h:=(Prod.mk.inj h).2
  subst h
  refine Trip.app (l47_many J hc) (fun σ' h=>?_) fun r z9 q=>absurd (show r.1=.nx from X12 z9 fun _ _ _ h=>congrArg Prod.fst h) q
  obtain ⟨m,m3,m5,h⟩:=h
  replace h:=(Prod.mk.inj h).2
  subst h
  refine Trip.app (l47_loop (t0:=1) G J9 J hc (Nat.le_add_left _ _) (Nat.le_trans (by assumption) (by decide)) fs (h0.more (by decide))) (fun σ' h=>?_) fun r ⟨_,_,_,_,_,h⟩ q=>absurd (congrArg _ h) q
  obtain ⟨t,rs,tle,hl,hr',h⟩:=h
  replace h:=(Prod.mk.inj h).2
  subst h
  refine Trip.app (Trip.evL J (r47_f c0 (xs.take 48) t m (li (aint xs)) (rs.map Raw.val)) (.cons (o113 m5) .nil)) (fun σ' h=>?_) fun r h q=>absurd (congrArg _ h) q
  replace h:=(Prod.mk.inj h).2
  subst h
  have oj:OJ c0 (xs.take 48) (li (aint xs)) (rs.map Raw.val) t m (m + 1) (st47 c0 [.ref 5] (xs.take 48) t (lw47 (li (aint xs)) m ++ [(73,.ref 4)]) [some (.lst,rs.map Raw.val),some (.lst,rngA ((m:Int) + 1)),some (.lst,[])] [] []):=
   ⟨t,List.range (m + 1),[],(List.length_range.symm▸(Nat.le_refl _)),List.length_range ..,.refl _,rfl⟩
  refine Trip.orc [] [] (Trip.app (l47_whl J hc (o114 m5 tle) m5 oj) (fun σ' h=>?_) fun r h q=>absurd h.1 q)
  refine X33 h.2.ex fun t' l o tl' hl0 hp e=>?_
  rw [List.length_eq_zero_iff.mp hl0,List.append_nil] at hp
  replace e:σ'=_:=e
  refine er e ?_
  refine X11 (dip_lt (xs.take 48) t' (m:=m + 2) (Nat.succ_pos _)) fun c hcut ec=>?_
  exact (Trip.orc [.int c] [] (Trip.evL J (r47_k c0 [.ref 5] (xs.take 48) t' m (li (aint xs)) c [some (.lst,rs.map Raw.val),some (.lst,natA l),some (.lst,natA o)]) (.cons (sp_di (m:=m + 2) ec (o115) (o116 m5 tle tl') hc) .nil))).clean
   fun r hr=>⟨xs.take 48,t' + 1,m,rs,o,c,l,⟨m3,m5,hl,hr',hp⟩,by refine er hr ?_;rfl⟩
 ·subst e
  refine ⟨(.nx,st3 c0 cs t m rs o c),.nx,⟨rfl,rfl,by show 3≤6;decide,?_,?_,low_cel rfl⟩,cs,t,m,rs,o,c,D,rfl⟩
  ·exact .keep h0 (.cons (.cons (.ref rfl rfl fro_natA.fz) .nil) (.cons (.cons (.nd fro_aint.fz) (.cons .int .nil)) .nil))
  ·exact .skip rfl (.cons (.ref rfl rfl fro_rs.fz) (.cons (.low rfl) (.cons .int (.skip rfl (.cons .int .nil)))))
end
noncomputable def flat:AV→Bool
 | .none=>true
 | .bool _=>true
 | .int _=>true
 | .str _=>true
 | .lit _=>true
 | _=>false
noncomputable def seqT:Tg→Bool
 | .tup=>true
 | .lst=>true
 | _=>false
def datF:Nat→AV→Bool
 | 0,a=>flat a
 | n + 1,a=>match a with
  | .nd t xs=>seqT t && xs.all (datF n)
  | a=>flat a
section
variable {prog:Program}{w:World}{Z h:Heap}{ad:List Addr}
theorem Vals.at {xs:List AV}{vs:List Value}(hs:Vals prog w Z ad xs vs){j:Nat}(h:j < vs.length):∃x,xs[j]? =some x∧Val prog w Z ad x vs[j]:=by
 induction vs generalizing xs j with
 | nil=>exact absurd h (Nat.not_lt_zero _)
 | cons v vs ih=>
  cases hs with
  | cons h1 h2=>
   cases j with
   | zero=>exact ⟨_,rfl,h1⟩
   | succ j=>exact ih h2 (Nat.lt_of_succ_lt_succ h)
theorem all_true {n:Nat}:(List.range n).all (fun _=>true)=true:=by simp
theorem flat_eq {s:Shared}{A:Around}{a:AV}{v v':Value}(hv:Val prog w Z ad a v)(hv':Val prog w Z ad a v')(e:flat a=true):SeqAt.EqAt A s v v' true:=by
 cases a with
 | none=>have q0:=hv.inv;subst q0;have q0:=hv'.inv;subst q0;exact SeqAt.EqAt.same _
 | bool b=>have q0:=hv.inv;subst q0;have q0:=hv'.inv;subst q0;exact SeqAt.EqAt.same _
 | int b=>refine X1 hv.inv fun t q0=>?_;subst q0;refine X1 hv'.inv fun u q0=>?_;subst q0;exact beq_self_eq_true b▸SeqAt.EqAt.int_int (A:=A) (s:=s) b t b u
 | str b=>refine X1 hv.inv fun t q0=>?_;subst q0;refine X1 hv'.inv fun u q0=>?_;subst q0;exact beq_self_eq_true b▸SeqAt.EqAt.str_str (A:=A) (s:=s) b t b u
 | lit b=>refine X1 hv.inv fun t q0=>?_;subst q0;refine X1 hv'.inv fun u q0=>?_;subst q0;exact beq_self_eq_true (nm b)▸SeqAt.EqAt.str_str (A:=A) (s:=s) (nm b) t (nm b) u
 | _=>exact noB e
theorem dat_eq {s:Shared}(sub:Sub Z s.heap):∀{n:Nat} {A:Around} {a:AV} {v v':Value},datF n a=true→Val prog w Z ad a v→Val prog w Z ad a v'→A.units + 4 * n < cLine→SeqAt.EqAt A s v v' true:=by
 intro n
 induction n with
 | zero=>exact fun e hv hv' _=>flat_eq hv hv' e
 | succ n ih=>
  intro A a v v' e hv hv' hu
  cases a with
  | nd t xs=>
   have e':seqT t=true∧xs.all (datF n)=true:=Bool.and_eq_true_iff.mp e
   refine X22 hv.inv fun p vs q ho hs=>?_;subst q
   refine X22 hv'.inv fun p' us q ho' hs'=>?_;subst q
   by_cases hpq:p=p'
   ·subst hpq;exact SeqAt.EqAt.same _
   have sz:vs.toArray.size=us.toArray.size:=hs.length.symm.trans hs'.length
   have ih':∀(j:Nat) (h1:j < vs.length) (h2:j < us.length),SeqAt.EqAt A.in1 s vs[j] us[j] true:=fun j h1 h2=>by
    refine X11 (hs.at h1) fun x e1 v1=>?_
    refine X11 (hs'.at h2) fun y e2 v2=>?_
    cases Option.some.inj (e1.symm.trans e2)
    exact ih (List.all_eq_true.mp e'.2 _ (List.mem_of_getElem? e1)) v1 v2 (by rw [units_in1];exact o221 hu)
   refine SeqAt.EqAt.of_refs hpq ?_
   cases t with
   | tup=>
    have:=SeqAt.RcAt.tuples (A:=A) (s:=s) (e:=fun _=>true) (ObjIs.sub sub ho).tup (ObjIs.sub sub ho').tup (o48 hu) ih'
    rwa [all_true,sz,beq_self_eq_true,Bool.and_true] at this
   | lst=>
    have:=SeqAt.RcAt.lists (A:=A) (s:=s) (e:=fun _=>true) (ObjIs.sub sub ho).lst (ObjIs.sub sub ho').lst sz (o48 hu) ih'
    rwa [all_true] at this
   | _=>exact noB e'.1
  | _=>exact flat_eq hv hv' e
end
def HOk (h:List AV):Prop:=h.all (datF 4)=true
theorem HOk.snoc {h:List AV}{e:AV}(k:HOk h)(he:datF 4 e=true):HOk (h ++ [e]):=by
 unfold HOk at *
 refine er List.all_append (er k ?_)
 simp [he]
section
variable {P:List AV→Prop}(hP:∀h e,datF 4 e=true→h.length≠40→P h→P (h ++ [e]))
include hP
theorem ask_P {a b:Str}{h:List AV}{e:AV}{k:List AV→BR}(he:datF 4 e=true)(h0:P h)(hk:∀h,P h→P (k h).h):P (ask a b h e k).h:=by
 unfold ask
 split
 ·exact h0
 ·rename_i q
  exact hk _ (hP _ _ he q h0)
theorem body_P {form:Nat}{v c a b:Str}{h:List AV}(h0:P h):P (bodyS form v c a b h).h:=by
 unfold bodyS
 split
 ·exact ask_P hP rfl h0 fun h h0=>ask_P hP rfl h0 fun h h0=>ask_P hP rfl h0 fun h h0=>ask_P hP rfl h0 fun h h0=>h0
 ·exact ask_P hP rfl h0 fun h h0=>ask_P hP rfl h0 fun h h0=>h0
 ·refine ask_P hP rfl h0 fun h h0=>ask_P hP rfl h0 fun h h0=>ask_P hP rfl h0 fun h h0=>?_
  split
  ·exact ask_P hP rfl h0 fun h h0=>h0
  ·exact h0
 ·exact ask_P hP rfl h0 fun h h0=>ask_P hP rfl h0 fun h h0=>h0
 ·refine ask_P hP rfl h0 fun h h0=>ask_P hP rfl h0 fun h h0=>ask_P hP rfl h0 fun h h0=>?_
  split
  ·exact h0
  ·exact ask_P hP rfl h0 fun h h0=>h0
theorem way_P {cn:Nat→Str}{W:Way}{h:List AV}(h0:P h):P (wayS cn W h).2:=by
 have key:∀(e:AV) (t t':WT),datF 4 e=true→P (if h.length=40 then (t,h) else (t',h ++ [e])).2:=fun e t t' he=>by
  by_cases q:h.length=40
  ·refine er (if_pos q) ?_;exact h0
  ·refine er (if_neg q) ?_;exact hP h e he q h0
 cases W with
 | lab g=>exact h0
 | ind g=>exact h0
 | «at» g=>exact key (.lit 44) _ _ rfl
 | z=>exact key eZ _ _ rfl
 | cod g=>exact key (eRead (cn g)) _ _ rfl
theorem go_P {many:Nat}{dr:Nat→Dr}{lt cn:Nat→Str}:∀(n k:Nat) {a b:Str} {h:List AV} {fl:List Bool},P h→P (goS many dr lt cn n k a b h fl).h
 | 0,_,_,_,_,_,h0=>h0
 | n + 1,k,a,b,h,fl,h0=>by
  have h1:=body_P hP (form:=(dr k).form) (v:=(dr k).var) (c:=lt k) (a:=a) (b:=b) h0
  unfold goS
  dsimp only
  split
  ·exact h1
  ·rename_i t _
   have h2:=way_P hP (cn:=cn) (W:=if t then (dr k).su else (dr k).fa) h1
   split
   ·exact h2
   ·split
    ·exact go_P n _ h2
    ·split
     ·exact h2
     ·split <;> exact h2
end
theorem Conf.hok {C:Conf}:HOk C.R.h:=go_P (P:=HOk) (fun _ _ he _ h=>h.snoc he) _ _ rfl
theorem Conf.hlen {C:Conf}:C.R.h.length≤40:=go_P (P:=fun h=>h.length≤40) (fun h e _ q l=>by refine er List.length_append ?_;show h.length + 1≤40;exact Nat.lt_of_le_of_ne (by assumption) (by assumption)) _ _ (Nat.zero_le _)
theorem body_ne {form:Nat}{v c a b:Str}:(bodyS form v c a b []).h≠[]:=by
 have key:∀{e:AV} {k:List AV→BR},datF 4 e=true→(∀h,h≠[]→(k h).h≠[])→(ask a b [] e k).h≠[]:=fun {e k} he hk=>by
  unfold ask
  refine er (if_neg (by decide)) ?_
  exact hk _ (nofun)
 have hP:∀(h:List AV) (e:AV),datF 4 e=true→h.length≠40→h≠[]→h ++ [e]≠[]:=fun h e _ _ _=>by simp
 unfold bodyS
 split
 ·exact key rfl fun h h0=>ask_P hP rfl h0 fun h h0=>ask_P hP rfl h0 fun h h0=>ask_P hP rfl h0 fun h h0=>h0
 ·exact key rfl fun h h0=>ask_P hP rfl h0 fun h h0=>h0
 ·refine key rfl fun h h0=>ask_P hP rfl h0 fun h h0=>ask_P hP rfl h0 fun h h0=>?_
  split
  ·exact ask_P hP rfl h0 fun h h0=>h0
  ·exact h0
 ·exact key rfl fun h h0=>ask_P hP rfl h0 fun h h0=>h0
 ·refine key rfl fun h h0=>ask_P hP rfl h0 fun h h0=>ask_P hP rfl h0 fun h h0=>?_
  split
  ·exact h0
  ·exact ask_P hP rfl h0 fun h h0=>h0
theorem Conf.heard {C:Conf}:C.R.h≠[]:=by
 have hP:∀(h:List AV) (e:AV),datF 4 e=true→h.length≠40→h≠[]→h ++ [e]≠[]:=fun h e _ _ _=>by simp
 unfold Conf.R goS
 dsimp only
 have h1:=body_ne (form:=(drOf C.ns.length C.raws 0).form) (v:=(drOf C.ns.length C.raws 0).var) (c:=ltS 0) (a:=nm 8) (b:=nm 199)
 split
 ·exact h1
 ·rename_i t _
  have h2:=way_P hP (cn:=cnS) (W:=if t then (drOf C.ns.length C.raws 0).su else (drOf C.ns.length C.raws 0).fa) h1
  split
  ·exact h2
  ·split
   ·exact go_P hP _ _ h2
   ·split
    ·exact h2
    ·split <;> exact h2
section
variable {prog:Program}{w:World}{Z:Heap}{ad:List Addr}{s:Shared}{A:Around}
noncomputable def EqW (prog:Program)(w:World)(A:Around)(s:Shared)(v v':Value):Prop:=∀(X:Value→Shared→Prop) (Q:Bool→Shared→Prop),Q true s→wpAny (model prog w) A (eqBool v v') Q X s
theorem EqW.of {v v':Value}(h:SeqAt.EqAt A s v v' true):EqW prog w A s v v':=fun X Q hq=>h prog w X Q hq
theorem EqW.refs {a b:Addr}(h:a≠b→∀(X:Value→Shared→Prop) (Q:Value→Shared→Prop),Q (.bool true) s→wpAny (model prog w) A (richCompare .Eq (.ref a) (.ref b)) Q X s):EqW prog w A s (.ref a) (.ref b):=by
 by_cases e:a=b
 ·subst e
  exact EqW.of (SeqAt.EqAt.same _)
 ·intro X Q hq
  refine wpAny_holding ?_
  refine wpAny_ite_split (fun hab=>absurd (by have:=eq_of_beq hab;injection this) e) (fun _=>?_)
  exact wpAny_bind (h e X _ (wpAny_truthy_bool hq))
theorem sto_eq (sub:Sub Z s.heap){a b:Str}{v v':Value}(hv:Val prog w Z ad (stoF a b) v)(hv':Val prog w Z ad (stoF a b) v')(hu:A.units + 8 < cLine):EqW prog w A s v v':=by
 unfold stoF at hv hv'
 cases hv with
 | @nd _ _ p vs ho hs=>
  cases hv' with
  | @nd _ _ q us ho' hs'=>
   refine EqW.refs fun ne X Q hq=>?_
   have h1:=(ho.sub sub).dct
   have h2:=(ho'.sub sub).dct
   cases hs with
   | cons x1 r1=>cases r1 with
    | cons x2 r2=>cases (show _= [] from r2.inv);refine X1 x1.inv fun _ q0=>?_;subst q0;refine X1 x2.inv fun _ q0=>?_;subst q0;cases hs' with
     | cons y1 r1=>cases r1 with
      | cons y2 r2=>
       cases (show _= [] from r2.inv);refine X1 y1.inv fun _ q0=>?_;subst q0;refine X1 y2.inv fun _ q0=>?_;subst q0
       rename_i t1 t2 t3 t4
       have e1:=SeqAt.EqAt.str_str (A:=A.in1) (s:=s) a t1 a t3
       have e2:=SeqAt.EqAt.str_str (A:=A.in1) (s:=s) b t2 b t4
       rw [beq_self_eq_true] at e1 e2
       have ne2:nm 197≠nm 198:=fun q=>by have:=nm_inj q;exact o203 this
       have g1:valueAt (List.zip [nm 197,nm 198] [Value.str a t3,Value.str b t4]) (nm 197)=some (.str a t3):=by
        unfold valueAt
        exact rfl
       have g2:valueAt (List.zip [nm 197,nm 198] [Value.str a t3,Value.str b t4]) (nm 198)=some (.str b t4):=by
        unfold valueAt
        exact rfl
       exact keq_eq (r:=true && (true && true)) ho.1 ho'.1 h1.2 h2.2 (Nat.lt_of_le_of_lt (Nat.le_add_right _ _) (by assumption)) (fun _=>.hit g1 e1 (.hit g2 e2 .nil)) hq
end
section
variable {prog:Program}{w:World}{Z:Heap}{ad:List Addr}{s:Shared}{A:Around}
theorem tup_eq {l b:Addr}{xs ys:Array Value}(hl:s.heap.IsTuple l xs)(hb:s.heap.IsTuple b ys)(hsz:xs.size=ys.size)(hu:A.units < cLine)
  (he:∀(j:Nat) (h1:j < xs.size) (h2:j < ys.size),EqW prog w A.in1 s xs[j] ys[j]) {X:Value→Shared→Prop} {Q:Value→Shared→Prop} (hq:Q (.bool true) s):wpAny (model prog w) A (richCompare .Eq (.ref l) (.ref b)) Q X s:=by
 refine X121 hl fun q0 ho hc n hd=>?_;obtain ⟨cls,dd,data,sl⟩:=q0
 refine X121 hb fun q0 ho2 hc2 n2 hd2=>?_;obtain ⟨cls2,dd2,data2,sl2⟩:=q0
 dsimp only at hc hd hc2 hd2
 subst hc hd hc2 hd2
 refine wpAny_richCompare_same_room (op:=.Eq) (I11 _ ho rfl) (I11 _ ho2 rfl) PySem.F.slot_tuple_eq (wpAny_call_entry PySem.F.slot_tuple_eq (I11 _ ho rfl) PySem.F.entry_tuple_eq ?_ (PySem.F.args_tuple_eq_2 _ _)) hu
 obtain ⟨hp,g,d,tk,os⟩:=s
 dsimp only at ho ho2
 have f2:=PySem.AutoSeq1.sub_tuple_tuple
 wp_walk using wpAny_loadPart' ho,wpAny_loadPart' ho2,wpAny_forIn_list _ (fun rest q s'=>q.1=none∧s'=⟨hp,g,d,tk,os⟩∧∃i,rest=(xs.toList.zip ys.toList).drop i) _
 case turn=>
  rintro ⟨y,x⟩ rest q s' ⟨hq',rfl,i,hz⟩
  obtain ⟨hi,e⟩:=List.getElem?_eq_some_iff.mp (show (xs.toList.zip ys.toList)[i]? =some (y,x) by refine re (List.head?_drop) (re hz ?_);rfl)
  have hi1:i < xs.size:=by rw [List.length_zip,Array.length_toList,Array.length_toList] at hi;exact o7 hi
  have hi2:i < ys.size:=Nat.lt_of_lt_of_eq (by assumption) (by assumption)
  rw [List.getElem_zip] at e
  refine X01 (Prod.mk.inj e) fun q0 q1=>?_;subst q0;subst q1
  have hr:rest=(xs.toList.zip ys.toList).drop (i + 1):=by
   have:=congrArg List.tail hz
   rwa [List.tail_drop] at this
  refine wpAny_bind (he i hi1 hi2 _ _ ?_)
  wp_walk
  exact (I021 rfl rfl (i + 1) hr)
 case fin=>
  rintro ⟨b1,b2⟩ s' ⟨hq',rfl,i,hz⟩
  dsimp only at hq'
  subst hq'
  wp_walk
  refine (I12 _ rfl ?_ ?_)
  ·exact fun q=>nomatch q
  ·refine er hsz ?_
   show Q (.bool (ys.size == ys.size)) _
   rw [beq_self_eq_true]
   exact hq
 exact (I021 rfl rfl 0 rfl)
theorem fl_dat (fl:List Bool):datF 5 (li (fl.map .bool))=true:=by
 show (fl.map AV.bool).all (datF 4)=true
 rw [List.all_eq_true]
 intro x m
 refine X11 (List.mem_map.mp m) fun b _ q0=>?_;subst q0
 rfl
theorem told_dat {o:Out}(h:OutOk o):datF 5 (toldOf o)=true:=by
 rcases h with ⟨s,rfl⟩ | ⟨i,rfl⟩ <;> rfl
theorem res_eq (sub:Sub Z s.heap){R:RR}(hh:HOk R.h)(ho:OutOk R.out){v v':Value}(hv:Val prog w Z ad (resA R) v)(hv':Val prog w Z ad (resA R) v')(hu:A.units + 40 < cLine){X:Value→Shared→Prop}{Q:Value→Shared→Prop}
  (hq:Q (.bool true) s):wpAny (model prog w) A (compareOp .Eq v v') Q X s:=by
 cases hv with
 | @nd _ _ p vs ob hs=>
  cases hv' with
  | @nd _ _ q us ob' hs'=>
   refine cmp_ofEq (tup_eq (ob.sub sub).tup (ob'.sub sub).tup (by exact er List.size_toArray (er List.size_toArray (re hs.length (re hs'.length rfl)))) (Nat.lt_of_le_of_lt (Nat.le_add_right _ _) (by assumption)) (fun j h1 h2=>?_) hq)
   have k1:j < vs.length:=h1
   have k2:j < us.length:=h2
   refine X11 (hs.at k1) fun x e1 v1=>?_
   refine X11 (hs'.at k2) fun y e2 v2=>?_
   rw [e1] at e2
   cases Option.some.inj e2
   have u1:A.in1.units=A.units + 1:=rfl
   have d:∀{a:AV} {v v':Value},datF 5 a=true→Val prog w Z ad a v→Val prog w Z ad a v'→EqW prog w A.in1 s v v':=fun h a b=>EqW.of (dat_eq sub h a b (o217 hu u1))
   rw [List.getElem_toArray,List.getElem_toArray]
   have lj:=(List.getElem?_eq_some_iff.mp e1).1
   match j,lj with
   | 0,_=>cases e1;exact d (a:=li R.h) hh v1 v2
   | 1,_=>cases e1;exact d (fl_dat _) v1 v2
   | 2,_=>cases e1;exact d (told_dat ho) v1 v2
   | 3,_=>cases e1;exact sto_eq sub v1 v2 (o218 hu u1)
end
theorem nm210:nm 210=("index" :Str):=by decide +kernel
def csn406':List (Str×NameKind):=[(Str.ofString ".0",.local),(nm 2,.local),(nm 177,.globalImplicit),(nm 78,.free)]
theorem csn406_eq:(csc 406).names=csn406':=by kernel_rfl
theorem clos406 {env:Env}{a:Addr}(l:env.cells.lookup (nm 78)=some a):closureFor (csc 406) env=pure [(nm 78,a)]:=by
 unfold closureFor cellOf
 refine er csn406_eq ?_
 unfold csn406'
 simp only [List.forIn_cons,List.forIn_nil,l]
 rfl
def csn405':List (Str×NameKind):=[(Str.ofString ".0",.local),(nm 2,.local),(nm 177,.globalImplicit)]
theorem csn405_eq:(csc 405).names=csn405':=by kernel_rfl
theorem clos405 {env:Env}:closureFor (csc 405) env=pure []:=by
 unfold closureFor cellOf
 refine er csn405_eq ?_
 rfl
theorem cs406:(csn 406).lookup (nm 2)=some .local∧(csn 406).lookup (nm 177)=some .globalImplicit∧(csn 406).lookup (nm 78)=some .free:=by decide +kernel
theorem cs406_cell:∀q∈csn 406,q.2≠.cell:=by decide +kernel
theorem cs406_names:∀q∈csn 406,q.2=.local→(csn 406).lookup q.1=some .local:=by decide +kernel
theorem cs406_no:((csn 406).any fun (n,k)=>n == nm 175 && (k == .local || k == .cell))=false:=by decide +kernel
theorem cs405:(csn 405).lookup (nm 2)=some .local∧(csn 405).lookup (nm 177)=some .globalImplicit:=by decide +kernel
theorem cs405_cell:∀q∈csn 405,q.2≠.cell:=by decide +kernel
theorem cs405_names:∀q∈csn 405,q.2=.local→(csn 405).lookup q.1=some .local:=by decide +kernel
theorem bnm_str:bnm .str=177:=by kernel_rfl
noncomputable def intsN (l:List Nat):List Int:=l.map Int.ofNat
theorem intsN_cons (k:Nat)(l:List Nat):intsN (k :: l)=(k:Int) :: intsN l:=rfl
theorem idx_intsN (k:Nat):∀o:List Nat,(intsN o).idxOf (k:Int)=o.idxOf k
 | []=>rfl
 | z :: o=>by
  have ih:=idx_intsN k o
  rw [intsN_cons,List.idxOf_cons,List.idxOf_cons,ih]
  by_cases q:z=k
  ·subst q;simp
  ·have:¬(z:Int)=k:=o162 q
   exact er (beq_eq_false_iff_ne.mpr q) (er (beq_eq_false_iff_ne.mpr this) rfl)
def nameL (k:Nat):Str:=nm 209 ++ numS k
section
variable (prog:Program)(w:World)(K:Frag)
structure TripF (D:Nat) (e:E) (σ:St) (a:AV):Prop where
 run:∀{x:Fx} {Z:Heap} {ad:List Addr} {s:Shared} {Q X:Value→Shared→Prop},x.Ok→x.A.depth + D < 900→Sit prog w K x σ Z ad s.heap→
  OkS prog w K x Z ad s σ (fun Z' ad' s'=>∀v,Val prog w Z' ad' a v→Q v s')→wpAny (model prog w) x.A (eval (dec e) x.env) Q X s
end
section
variable {prog:Program}{w:World}{K:Frag}{X:Value→Shared→Prop}{s:Shared}{Z:Heap}{ad:List Addr}{x:Fx}{σ σ1:St}{c:Cf}{sc y:Nat}{cl:List (Str×Addr)}
theorem TripF.ev (J:Sound prog w K c){n:Nat}{e:E}{a b:AV}(o:List AV)(hr:Mine.ev c n (.ex e) {σ with orc:=o,obl:=[]}=some (.v b,σ1))(ob:AllP σ1.obl)(F:FzS σ.H.length σ1 σ)(hf:Fz σ.H.length σ1.H b a):TripF prog w K n e σ a:=
 ⟨fun {x Z ad s Q X} O B S k=>(J.snd n).ex O (J.lim.symm▸B) hr ob (S.orc o []) (OkS.freeze (k:=fun Z' ad' s'=>∀v,Val prog w Z' ad' b v→Q v s') (k':=fun Z' ad' s'=>∀v,Val prog w Z' ad' a v→Q v s') F (Nat.le_of_eq S.hs.len) (fun _ _ _ S hk v hv=>hk v (hf.val S.hs hv)) k)⟩
theorem args_F {D:Nat}:∀{es:List E} {bs:List AV},All2 (fun e b=>TripF prog w K D e σ b) es bs→∀{Z:Heap} {ad:List Addr} {s:Shared} {p:Pos} {Q:List Value→Shared→Prop} {X:Value→Shared→Prop},x.Ok→x.A.depth + D < 900→Sit prog w K x σ Z ad s.heap→
  OkS prog w K x Z ad s σ (fun Z' ad' s'=>∀vs,Vals prog w Z' ad' bs vs→Q vs s')→wpAny (model prog w) x.A (spliced (backTo p (starEach (decs es) x.env))) Q X s:=by
 intro es bs h
 induction h with
 | nil=>
  intro Z ad s p Q X O B S k
  exact spliced_nil (k Z ad s.heap s.toks (Sub.refl _) (Pre.refl _) S [] .nil)
 | cons h1 _ ih=>
  intro Z ad s p Q X O B S k
  rw [star_cons]
  refine spliced_cons ?_
  refine h1.run O B S fun Z' ad' h' tk sub pr S' v hv=>?_
  exact ih (p:=p) (s:=⟨h',_,_,_,_⟩) O B S' fun Z'' ad'' h'' tk'' sub' pr' S'' vs hvs=>k Z'' ad'' h'' tk'' (sub.trans sub') (pr.trans pr') S'' _ (.cons (hv.mono sub' pr') hvs)
theorem TripF.comp {D sc y:Nat}{yp p:Pos}{elt it:E}{xs ys:List AV}(src:Src prog w K D it σ xs 1)(low:∀os,FzS σ.H.length (σ.with os) σ)(hcell:∀q∈csn sc,q.2≠.cell)(hnames:∀q∈csn sc,q.2=.local→(csn sc).lookup q.1=some .local)
  (hx:(csn sc).lookup (nm y)=some .local) (hlen:xs.length≤5000) (hy:ys.length=xs.length) (hg:FroL ys) (F:FzS σ.H.length {σ with H:=σ.H ++ [some (.lst,ys)]} σ)
  (hclos:∀{x:Fx} {Z:Heap} {ad:List Addr} {s:Shared},x.Ok→x.A.depth + D < 900→Sit prog w K x σ Z ad s.heap→∃cl,closureFor (csc sc) x.env=pure cl∧∀(i:Nat) a b,xs[i]? =some a→ys[i]? =some b→EltOk prog w K x σ elt sc cl y a b) :
  TripF prog w K D (.cmpr elt y yp it sc p) σ (li ys):=by
 refine ⟨?_⟩
 intro x Z ad s Q X O B S k
 refine X11 (hclos O B S) fun cl hc he=>?_
 refine comp_rule O B S src low hc hcell hnames hx hlen hy he hg (OkS.freeze (k':=fun Z' ad' s'=>∀v,Val prog w Z' ad' (li ys) v→Q v s') F (Nat.le_of_eq S.hs.len) (fun Z' ad' s' S' hk v hv=>hk v ?_) k)
 have g:getH (σ.H ++ [some (.lst,ys)]) σ.H.length=some (.lst,ys):=by rw [getH_append,if_neg (Nat.lt_irrefl _),Nat.sub_self];rfl
 exact Fz.val (b:=li ys) S'.hs (.ref (Nat.ble_eq.mpr (Nat.le_refl _)) g hg.fz) hv
theorem ints_natA {l:List Nat}{vs:List Value}(h:Vals prog w Z ad (natA l) vs):IntsAre vs (intsN l):=by
 induction l generalizing vs with
 | nil=>cases h;exact .nil
 | cons k l ih=>
  cases h with
  | cons h1 h2=>refine X1 h1.inv fun _ q0=>?_;subst q0;exact .cons _ _ (ih h2)
theorem lay_nat {l:List Nat}(h:∀k∈l,k≤5)(hl:l.length≤10):PyData.layable0 (.list ((intsN l).map .int))=true:=by
 have w:∀{l:List Nat},(∀k∈l,k≤5)→PyData.weightAll ((intsN l).map .int)≤10 * l.length:=by
  intro l h
  induction l with
  | nil=>exact Nat.zero_le _
  | cons k l ih=>
   have ih:=ih fun k m=>h k (.tail _ m)
   have hk:=h k (.head _)
   have:PyData.weight (.int (k:Int))≤3:=by
    match k,hk with
    | 0,_ | 1,_ | 2,_ | 3,_ | 4,_ | 5,_=>decide
   rw [intsN_cons]
   simp only [List.map_cons,PyData.weightAll,List.length_cons] at ih ⊢
   exact o163 ih this
 have:=w h
 unfold PyData.layable0
 refine er (show PyData.canLay0 (.list ((intsN l).map .int))=true from ke_canLayAll0 _) ?_
 have d:PyData.depth (.list ((intsN l).map .int))=1:=by simp only [PyData.depth,ke_depthAll]
 have ww:PyData.weight (.list ((intsN l).map .int))≤2 ^ 20:=by simp only [PyData.weight];omega
 refine er d ?_
 simp [ww]
theorem elt_index {es:List E}{ce:E}{ap p:Pos}{o:List Nat}{k:Nat}(hcx:noC ce=true)(hp:Nat.beq ap.endLine p.line=true)(ho:∀k∈o,k≤5)(hl:o.length≤10)(hk:k∈o){a:AV}
  (hc:EltOk prog w K x σ ce sc cl y a (li (natA o))) (ha:All2 (fun e b=>EltOk prog w K x σ e sc cl y a b) es [.int k]) (hes:es.length≤5):EltOk prog w K x σ (.meth ce 210 ap es p) sc cl y a (.int ((o.idxOf k:Nat):Int)):=by
 refine ⟨?_⟩
 intro Z ad s C I' D' oI oC ys m v Q X hl' S hn hm hv kk
 refine meth_eq hcx hes hp ?_
 refine hc.run hl' S hn hm hv fun Z' h' tk v1 sub S' hv1=>?_
 cases hv1 with
 | @nd _ _ pa vs ob hs=>
  have ob':=ob.sub S'.hs.zsub
  have hd:∀a,Value.ref pa=.ref a→∃o,h'.get? a=some o∧o.dict=none:=fun a e=>by
   cases e;refine X1 ob'.lstAt fun n hn=>?_;exact (I11 _ hn rfl)
  refine er nm210 ?_
  refine getMethod_builtin (s:=⟨h',_,_,_,_⟩) ob'.lst.typeIs PySem.F.plainAttrs_list PySem.F.slot_list_index PySem.F.type_list_index hd (callB (.inl ⟨_,rfl⟩) ?_)
  refine elt_args (s:=⟨h',_,_,_,_⟩) ha hl' S' (ns_again hl' S S' hn) hm (hv.mono sub (Pre.refl _)) fun Z'' h'' tk' us sub' S'' hus=>?_
  cases hus with
  | cons u1 r1=>
   cases (show _= [] from r1.inv)
   refine X1 u1.inv fun _ q0=>?_;subst q0
   have hi:=ints_natA hs
   have mem:(k:Int)∈intsN o:=List.mem_map.mpr (I11 k hk rfl)
   have ei:=idx_intsN k o
   refine index_list_ints (s:=⟨h'',_,_,_,_⟩) ((ob.sub sub').sub S''.hs.zsub).lst hi (lay_nat ho hl) mem ?_
   refine er ei ?_
   exact kk Z'' h'' _ _ (sub.trans sub') S'' .int
end
theorem fnm46:fnm 46=189:=by kernel_rfl
structure Run46 (K:Frag) (q48:Str) (fd:FuncData) (params:Arguments) (body:List PySem.Stmt) (scope:Scope) (pos:Pos):Prop where
 lk:∃o,K.lookup 446=some o∧o.data=.func fd
 code:codeIn K fd.code fd.qualname=true
 fdc:FdC fd fn46 (body46 params body scope pos)
 d48:Def48 params body scope
 line:pos.line=364
 col:pos.col=4
 name:nsIn K mainGlobals (nm 189)=some (some (.ref 446))
 keep:keepIn K (.ref 446)=true
 qual:∀L fa,qualnameIn (callEnvC fd L fa) (nm 192) (nm 192)=q48
noncomputable def LwAt (fd:FuncData)(Z:Heap)(ad:List Addr):Prop:=∃c P mg,fd.code=.ref c∧CodeHd Z c P∧ad[0]? =some P∧Z.Ns mainGlobals mg∧Z.BuiltinsAt mg P
theorem LwAt.mono {fd:FuncData}{Z Z':Heap}{ad ad':List Addr}(h:LwAt fd Z ad)(sub:Sub Z Z')(pr:Pre ad ad'):LwAt fd Z' ad':=by
 refine X34 h fun c P mg h1 h2 h3 h4 q0=>?_;obtain ⟨bm,o,b1,b2,b3,b4,b5,b6⟩:=q0
 exact (I34 c P mg h1 (h2.keeps sub) (pr.at h3) (h4.keeps sub) ⟨bm,o,b1,b2,b3,b4,sub _ _ b5,b6⟩)
section
variable {prog:Program}{w:World}{K:Frag}{q48:Str}{fd:FuncData}{params:Arguments}{body:List PySem.Stmt}{scope:Scope}{pos:Pos}{X:Value→Shared→Prop}{s:Shared}{Z:Heap}{ad:List Addr}{x:Fx}{σ:St}{c0 c1 c2:Option (Tg×List AV)}
theorem LwAt.cd (R:Run46 K q48 fd params body scope pos)(h:LwAt fd Z ad)(A:Around)(L:Nat)(oL:Obj)(more:List Addr):CdAt q48 (inner x A (callEnvC fd L 446) oL) Z (ad ++ more):=by
 refine X34 h fun c P mg h1 h2 h3 h4 h5=>?_
 exact (I35 c P mg h1 h2 (Pre.at ⟨more,rfl⟩ h3) h4 h5 (R.qual _ _))
theorem call_run (R:Run46 K q48 fd params body scope pos){C:Conf}(O:x.Ok)(B:x.A.depth + 520 < 900)(S:Sit prog w K x σ Z ad s.heap)(hH:σ.H= [c0,c1,c2])(hl:FzN 3 [] σ.loc σ.loc)(hc:FzN 3 [] σ.cel σ.cel)(L:LwAt fd Z ad)
  {Gc:Option (Tg×List AV)→Prop} (hG:∀c,Gc c→LowC 3 c) (T:TripR prog w K q48 510 (body46 params body scope pos) (stL c0 c1 c2 C.d C.n (lA C.ords C.cut) [] [] [] [] [] [] []) fun r=>∃c0',Gc c0'∧RunEnd q48 C c0' c1 c2 r)
  {vs:List Value} (hv:Vals prog w Z ad [C.d,li C.ords,.int (Int.ofNat C.cut),C.n] vs) {Rr:Result→Shared→Prop}
  (k:∀c0',Gc c0'→FroL C.R.h→OutOk C.R.out→OkS prog w K x Z ad s {σ with H:=[c0',c1,c2]} fun Z' ad' s'=>∀v,Val prog w Z' ad' (resA C.R) v→Rr (.ok (.ret v)) s') :
  codeAny (model prog w) x.A (.call (.ref 446) ⟨vs,[]⟩) Rr s:=by
 refine X11 R.lk fun o lk hfd=>?_
 have low:=S.lowH
 rw [hH] at low
 have hf:=S.hs.zsub _ _ (S.stat.kin _ _ lk)
 have hcr:s.heap.CodeRec fd.code fd.qualname:=(codeRec_of S.stat.kin R.code).keeps S.hs.zsub
 cases hv with
 | cons v1 r=>cases r with
  | cons v2 r=>cases r with
   | cons v3 r=>cases r with
    | cons v4 r=>
     cases (show _= [] from r.inv)
     refine call_46 (D:=510) O O.hA O.hh (o211 B) S v1 v2 v3 v4 hf hfd hcr R.fdc (fun oL more=>L.cd R _ _ _ _) (by refine er hH ?_;exact T) fun r hr=>?_
     refine X11 hr fun c0' g q0=>?_;refine X23 q0 fun σ' six q1 eH fh oo=>?_;subst q1
     have hk:=k c0' g fh oo
     have F:FzS 3 {σ' with kd:=σ.kd,loc:=σ.loc,cel:=σ.cel} {σ with H:=[c0',c1,c2]}:=by
      refine ⟨rfl,rfl,?_,?_,hl.any,hc.any⟩
      ·show 3≤σ'.H.length
       refine er eH ?_;simp
      ·show FzC 3 σ'.H σ'.H [c0',c1,c2]
       refine er eH ?_
       exact .keep (hG _ g) (.keep low.tail.head (.keep low.tail.tail.head .nil))
     refine RC.freeze (o:=.v (resA C.R)) (σ:={σ' with kd:=σ.kd,loc:=σ.loc,cel:=σ.cel}) (.v ?_) F (by refine er S.hs.len (er hH ?_);exact Nat.le_refl _) hk
     refine Fro.fz ?_
     have hfl:FroL (C.R.fl.map AV.bool):=FroL.map fun _ _=>.bool
     exact .nd (.cons (.nd fh) (.cons (.nd hfl) (.cons (told_fro oo) (.cons (.nd (.cons .str (.cons .str .nil))) .nil))))
end
theorem nameL_cps {k:Nat}(h:k < 10):(nameL k).cps= #[76,48 + k]:=cat_cps nm209 h
theorem nameL_inj {a b:Nat}(ha:a < 10)(hb:b < 10)(h:nameL a=nameL b):a=b:=by
 have:=congrArg (fun s:Str=>s.cps.toList) h
 rw [show (nameL a).cps=_ from nameL_cps ha,show (nameL b).cps=_ from nameL_cps hb] at this
 simp at this
 exact this
theorem nameL_ne {k:Nat}(h:k < 10):nameL k≠nm 8∧nameL k≠nm 69∧nameL k≠nm 72∧nameL k≠nm 178:=by
 have key:∀{m:Nat},(nm m).cps.size≠2→nameL k≠nm m:=fun hm q=>hm (by refine re q (er (nameL_cps h) ?_);rfl)
 exact (I03 (key (by decide +kernel)) (key (by decide +kernel)) (key (by decide +kernel)) (key (by decide +kernel)))
theorem nodup_map {α β:Type}{f:α→β}:∀{l:List α},(∀a∈l,∀b∈l,f a=f b→a=b)→l.Nodup→(l.map f).Nodup
 | [],_,_=>.nil
 | x :: l,h,n=>by
  rw [List.nodup_cons] at n
  rw [List.map_cons,List.nodup_cons]
  refine ⟨fun m=>?_,nodup_map (fun a ha b hb=>h a (.tail _ ha) b (.tail _ hb)) n.2⟩
  refine X11 (List.mem_map.mp m) fun y my e=>?_
  have:=h y (.tail _ my) x (.head _) e
  exact n.1 (this▸my)
def cfA (m:Nat)(rs:List Raw):Conf:=⟨(List.range m).map nameL,rs,List.range m,m⟩
def cfB (m:Nat)(rs:List Raw)(o:List Nat)(c:Nat):Conf:=⟨(List.range m).map fun k=>nameL (o.idxOf k),rs,o,c⟩
section
variable {m c:Nat}{rs:List Raw}{o:List Nat}
theorem Drawn.mem (D:Drawn m rs o){k:Nat}:k∈o↔k≤m:=by
 rw [D.perm.mem_iff,List.mem_range];exact o212
theorem Drawn.olen (D:Drawn m rs o):o.length=m + 1:=D.perm.length_eq.trans List.length_range
theorem Drawn.okA (D:Drawn m rs o):(cfA m rs).Ok:=by
 have m3:=D.m3
 have m5:=D.m5
 have ln:(cfA m rs).ns.length=m:=by show ((List.range m).map nameL).length=m;rw [List.length_map,List.length_range]
 refine ⟨(ln.symm▸D.len),(o46 m5 ln),(o47 m3 ln),(ln.symm▸D.raw),List.nodup_range,fun k hk=>ln.symm▸(Nat.le_of_lt (List.mem_range.mp hk)),fun k hk=>by rw [ln] at hk;exact List.mem_range.mpr hk,by show (List.range m).length≤10;refine er List.length_range ?_;exact o213 m5,fun s hs=>?_,?_⟩
 ·refine X11 (List.mem_map.mp hs) fun k hk q0=>?_;subst q0
  exact nameL_ne (by have:=List.mem_range.mp hk;exact o5 m5 this)
 ·refine nodup_map ?_ List.nodup_range
  intro a ha b hb e
  exact nameL_inj (by have:=List.mem_range.mp ha;exact o5 m5 this) (by have:=List.mem_range.mp hb;exact o5 m5 this) e
theorem Drawn.okB (D:Drawn m rs o):(cfB m rs o c).Ok:=by
 have m3:=D.m3
 have m5:=D.m5
 have ol:=D.olen
 have ln:(cfB m rs o c).ns.length=m:=by show ((List.range m).map fun k=>nameL (o.idxOf k)).length=m;rw [List.length_map,List.length_range]
 have ix:∀{k:Nat},k < m→o.idxOf k < 10:=fun {k} hk=>by
  have:=List.idxOf_lt_length_iff.mpr (D.mem.mpr (Nat.le_of_lt hk))
  exact o214 m5 ol this
 refine ⟨(ln.symm▸D.len),(o46 m5 ln),(o47 m3 ln),(ln.symm▸D.raw),D.perm.nodup_iff.mpr List.nodup_range,fun k hk=>ln.symm▸(D.mem.mp hk),fun k hk=>by rw [ln] at hk;exact D.mem.mpr (Nat.le_of_lt hk),by show o.length≤10;exact o215 m5 ol,fun s hs=>?_,?_⟩
 ·refine X11 (List.mem_map.mp hs) fun k hk q0=>?_;subst q0
  exact nameL_ne (ix (List.mem_range.mp hk))
 ·refine nodup_map ?_ List.nodup_range
  intro a ha b hb e
  have e:=nameL_inj (ix (List.mem_range.mp ha)) (ix (List.mem_range.mp hb)) e
  have m1:=D.mem.mpr (Nat.le_of_lt (List.mem_range.mp ha))
  have m2:=D.mem.mpr (Nat.le_of_lt (List.mem_range.mp hb))
  have g1:=List.getElem_idxOf (List.idxOf_lt_length_iff.mpr m1)
  have g2:=List.getElem_idxOf (List.idxOf_lt_length_iff.mpr m2)
  refine re g1 (re g2 ?_)
  simp only [e]
theorem cf_same:(cfA m rs).R=(cfB m rs o c).R:=by
 unfold Conf.R
 have l1:(cfA m rs).ns.length=m:=by show ((List.range m).map nameL).length=m;rw [List.length_map,List.length_range]
 have l2:(cfB m rs o c).ns.length=m:=by show ((List.range m).map fun k=>nameL (o.idxOf k)).length=m;rw [List.length_map,List.length_range]
 refine er l1 (er l2 ?_)
 rfl
end
noncomputable def polX:List (Nat×Nat×Nat):=[(405,26,43),(407,11,22),(407,11,26)]
def c11:Cf:={pol:=inPol polX}
def ag405:List E:=match (b47.drop 6) with | .asg _ _ (.calf _ _ es _) _ :: _=>es | _=>[]
def ag407:List E:=match (b47.drop 8) with | .ret (.bop _ [_,.cmp _ (.calf _ _ es _) _ _] _) _ :: _=>es | _=>[]
theorem b47_6:(b47.drop 6).take 1= [.asg 206 (pz 405 4 7) (.calf 46 (pz 405 10 18) ag405 (pz 405 10 97)) (pz 405 4 97)]:=rfl
def el405:E:=.bin .Add (.cst (.lit 209) (pz 405 52 55)) (.calb .str (pz 405 58 61) [(.loc 2 (pz 405 62 68))] (pz 405 58 69)) (pz 405 52 69)
def el406:E:=.bin .Add (.cst (.lit 209) (pz 406 13 16)) (.calb .str (pz 406 19 22) [(.meth (.cel 78 (pz 406 23 28)) 210 (pz 406 23 34) [(.loc 2 (pz 406 35 41))] (pz 406 23 42))] (pz 406 19 43)) (pz 406 13 43)
def it405:E:=.calb .range (pz 405 84 89) [(.loc 21 (pz 405 90 94))] (pz 405 84 95)
def it406:E:=.calb .range (pz 406 58 63) [(.loc 21 (pz 406 64 68))] (pz 406 58 69)
theorem ag405_eq:ag405= [.loc 182 (pz 405 19 24),.calb .list (pz 405 26 30) [.calb .range (pz 405 31 36) [.loc 21 (pz 405 37 41)] (pz 405 31 42)] (pz 405 26 43),.loc 21 (pz 405 45 49),.cmpr el405 2 (pz 405 74 80) it405 405 (pz 405 51 96)]:=rfl
theorem b47_7:(b47.drop 7).take 1= [.asg 175 (pz 406 4 9) (.cmpr el406 2 (pz 406 48 54) it406 406 (pz 406 12 70)) (pz 406 4 70)]:=rfl
def e407:E:=.cmp .Gt (.calb .len (pz 407 11 14) [(.sub (.loc 206 (pz 407 15 18)) (.cst (.int (0)) (pz 407 19 20)) (pz 407 15 21))] (pz 407 11 22)) (.cst (.int (0)) (pz 407 25 26)) (pz 407 11 26)
theorem b47_8:b47.drop 8= [.ret (.bop true [e407,.cmp .Eq (.calf 46 (pz 407 31 39) ag407 (pz 407 31 65)) (.loc 206 (pz 407 69 72)) (pz 407 31 72)] (pz 407 11 72)) (pz 407 4 72)]:=rfl
theorem ag407_eq:ag407= [.loc 182 (pz 407 40 45),.cel 78 (pz 407 47 52),.loc 188 (pz 407 54 57),.loc 175 (pz 407 59 64)]:=rfl
def st4 (c0:Option (Tg×List AV))(cs:List Int)(t:Int)(m:Nat)(rs:List Raw)(o:List Nat)(c:Nat)(tl:List (Nat×AV))(H:HL)(orc:List AV)(obl:List Prop):St:=
 {kd:=k47,loc:=(182,li (rs.map Raw.val)) :: (168,.ref 2) :: (21,.int m) :: (188,.int c) :: tl,cel:=[(78,.ref 1)],H:=c0 :: some (.cell,[li (natA o)]) :: wel cs t :: H,orc:=orc,obl:=obl}
section
variable (c0:Option (Tg×List AV))(cs:List Int)(t:Int)(m:Nat)(rs:List Raw)(o:List Nat)(c:Nat)(tl:List (Nat×AV))(u:AV)
theorem r405_1:ev c11 60 (.ex (.loc 182 (pz 405 19 24))) (st4 c0 cs t m rs o c tl [] [] [])=some (.v (li (rs.map Raw.val)),st4 c0 cs t m rs o c tl [] [] []):=by kernel_rfl
theorem r405_2:ev c11 60 (.ex (.calb .list (pz 405 26 30) [.calb .range (pz 405 31 36) [.loc 21 (pz 405 37 41)] (pz 405 31 42)] (pz 405 26 43))) (st4 c0 cs t m rs o c tl [] [] []) =
  some (.v (.ref 3),st4 c0 cs t m rs o c tl [some (.lst,natA (List.range m))] [] [0≤(m:Int)∧(m:Int)≤1000]):=by kernel_rfl
theorem r405_3:ev c11 60 (.ex (.loc 21 (pz 405 45 49))) (st4 c0 cs t m rs o c tl [] [] [])=some (.v (.int m),st4 c0 cs t m rs o c tl [] [] []):=by kernel_rfl
theorem r405_r:ev c9 60 (.ex (.loc 21 (pz 405 90 94))) (st4 c0 cs t m rs o c tl [] [] [])=some (.v (.int m),st4 c0 cs t m rs o c tl [] [] []):=by kernel_rfl
theorem r406_r:ev c9 60 (.ex (.loc 21 (pz 406 64 68))) (st4 c0 cs t m rs o c tl [] [] [])=some (.v (.int m),st4 c0 cs t m rs o c tl [] [] []):=by kernel_rfl
theorem r407_1:ev c11 60 (.ex (.loc 182 (pz 407 40 45))) (st4 c0 cs t m rs o c tl [] [] [])=some (.v (li (rs.map Raw.val)),st4 c0 cs t m rs o c tl [] [] []):=by kernel_rfl
theorem r407_2:ev c11 60 (.ex (.cel 78 (pz 407 47 52))) (st4 c0 cs t m rs o c tl [] [] [])=some (.v (li (natA o)),st4 c0 cs t m rs o c tl [] [] []):=by kernel_rfl
theorem r407_3:ev c11 60 (.ex (.loc 188 (pz 407 54 57))) (st4 c0 cs t m rs o c tl [] [] [])=some (.v (.int c),st4 c0 cs t m rs o c tl [] [] []):=by kernel_rfl
theorem r407_4 (d:AV):ev c11 60 (.ex (.loc 175 (pz 407 59 64))) (st4 c0 cs t m rs o c [(206,d),(175,u)] [] [] [])=some (.v u,st4 c0 cs t m rs o c [(206,d),(175,u)] [] [] []):=by kernel_rfl
theorem r407_5 (d:AV):ev c11 60 (.ex (.loc 206 (pz 407 69 72))) (st4 c0 cs t m rs o c [(206,d),(175,u)] [] [] [])=some (.v d,st4 c0 cs t m rs o c [(206,d),(175,u)] [] [] []):=by kernel_rfl
theorem r407_c (h ds:List AV)(n:Int):ev c11 60 (.ex e407) (st4 c0 cs t m rs o c [(206,tu (li h :: ds)),(175,u)] [] [.int n,.bool true] []) =
  some (.v (.bool true),st4 c0 cs t m rs o c [(206,tu (li h :: ds)),(175,u)] [] [] [cmpV [] .Gt (.int n) (.int 0)=some (.bool true),calB [] .len [li h]=some (.int n)]):=by kernel_rfl
end
section
variable {c0:Option (Tg×List AV)}{cs:List Int}{t:Int}{m:Nat}{rs:List Raw}{o:List Nat}{c:Nat}{tl:List (Nat×AV)}
theorem low4 {n:Nat}(h0:LowC n c0){H:HL}(hH:LowH n H){orc:List AV}{obl:List Prop}:LowH n (st4 c0 cs t m rs o c tl H orc obl).H:=.cons h0 (.cons (.some (.cons (.nd fro_natA.fz) .nil)) (.cons (.some (.cons (.nd fro_aint.fz) (.cons .int .nil))) hH))
theorem low4l {n:Nat}(hn:Nat.ble 3 n=true){H:HL}(ht:FzN n H tl tl):FzN n H (st4 c0 cs t m rs o c tl [] [] []).loc (st4 c0 cs t m rs o c tl [] [] []).loc:=
 .cons (.nd fro_rs.fz) (.cons (.low hn) (.cons .int (.cons .int ht)))
theorem fz4 (h0:LowC 3 c0)(ht:FzN 3 [] tl tl){H:HL}{orc:List AV}{obl:List Prop}:FzS 3 (st4 c0 cs t m rs o c tl H orc obl) (st4 c0 cs t m rs o c tl [] [] []):=
 ⟨rfl,rfl,by show 3≤H.length + 3;exact Nat.le_add_left _ _,(low4 h0 .nil).fzc _ _,low4l rfl ht.any,low_cel rfl⟩
end
section
variable (prog:Program)(w:World)(K:Frag)(fd:FuncData)
structure TripL (D:Nat) (ss:List S) (σ:St) (P:Out×St→Prop):Prop where
 run:∀{x:Fx} {Z:Heap} {ad:List Addr} {s:Shared} {Q:Flow→Shared→Prop} {X:Value→Shared→Prop},x.Ok→x.A.depth + D < 900→x.A.units + 200 < cLine→LwAt fd Z ad→Sit prog w K x σ Z ad s.heap→
  (∀r,P r→RF prog w K x Z ad s r Q X)→wpAny (model prog w) x.A (execs (decSs ss) x.env) Q X s
end
section
variable {prog:Program}{w:World}{K:Frag}{fd:FuncData}{q48:Str}{params:Arguments}{body:List PySem.Stmt}{scope:Scope}{pos:Pos}
theorem Trip.lw {D D':Nat}{ss:List S}{σ:St}{P:Out×St→Prop}(h:Trip prog w K D ss σ P)(hD:D≤D'):TripL prog w K fd D' ss σ P:=⟨fun O B U L S k=>h.run O (Nat.lt_of_le_of_lt (Nat.add_le_add_left (by assumption) _) (by assumption)) S k⟩
theorem TripL.app {D:Nat}{a b:List S}{σ:St}{P P':Out×St→Prop}(h:TripL prog w K fd D a σ P)(hn:∀σ',P (.nx,σ')→TripL prog w K fd D b σ' P')(ho:∀r,P r→r.1=.nx):TripL prog w K fd D (a ++ b) σ P':=by
 refine ⟨?_⟩
 intro x Z ad s Q X O B U L S k
 rw [decSs_append,execs_append]
 refine wpAny_bind (h.run O B U L S (Q:=fun f s'=>wpAny (model prog w) x.A (match f with | .next=>execs (decSs b) x.env | f=>pure f) Q X s') fun r hr=>?_)
 obtain ⟨o,σ'⟩:=r
 have e:=ho _ hr
 dsimp only at e
 subst e
 exact fun Z' ad' h' tk sub pr S'=>(hn σ' hr).run (s:=⟨h',_,_,_,_⟩) O B U (L.mono sub pr) S' fun r' hr'=>RF.on (k r' hr') sub pr (I02 rfl rfl rfl)
variable {c0:Option (Tg×List AV)}{cs:List Int}{t:Int}{m:Nat}{rs:List Raw}{o:List Nat}{c:Nat}
theorem upN_at {n i:Nat}{a:AV}(e:(upN n)[i]? =some a):i < n∧a=.int (Int.ofNat i):=by
 have h:=(List.getElem?_eq_some_iff.mp e).1
 rw [upN_len] at h
 rw [upN_get h] at e
 cases Option.some.inj e
 exact ⟨h,rfl⟩
theorem all_ev {n:Nat}{e:E}{a b:AV}{σ σ1:St}{c:Cf}(J:Sound prog w K c)(hr:Mine.ev c n (.ex e) {σ with orc:=[],obl:=[]}=some (.v b,σ1))(ob:AllP σ1.obl)(F:FzS σ.H.length σ1 σ)(hf:Fz σ.H.length σ1.H b a):TripF prog w K n e σ a:=TripF.ev J [] hr ob F hf
theorem args405 (G:Good K)(J9:Sound prog w K c9)(J:Sound prog w K c11)(D:Drawn m rs o)(h0:LowC 3 c0):All2 (fun e b=>TripF prog w K 60 e (st4 c0 cs t m rs o c [] [] [] []) b) ag405 [(cfA m rs).d,li (cfA m rs).ords,.int (Int.ofNat (cfA m rs).cut),(cfA m rs).n]:=by
 have m5:=D.m5
 refine er ag405_eq ?_
 refine .cons ?_ (.cons ?_ (.cons ?_ (.cons ?_ .nil)))
 ·exact all_ev J (r405_1 c0 cs t m rs o c []) .nil (fz4 h0 .nil) (.nd fro_rs.fz)
 ·exact all_ev J (r405_2 c0 cs t m rs o c []) (.cons ⟨oZ,(o16 m5)⟩ .nil) (fz4 h0 .nil) (.ref rfl rfl (fro_natA (l:=List.range m)).fz)
 ·exact all_ev J (r405_3 c0 cs t m rs o c []) .nil (fz4 h0 .nil) .int
 ·have hg:FroL (astr (cfA m rs).ns):=FroL.map fun _ _=>.str
  refine TripF.comp (xs:=upN m) (ys:=astr (cfA m rs).ns) (src_range (i:=m) G J9 rfl (r405_r c0 cs t m rs o c []) .nil rfl (oZ) (o16 m5)) (fun os=>LowH.fzs (σ:=st4 c0 cs t m rs o c [] [] [] []) (low4 h0 .nil) os (low4l rfl .nil) (low_cel rfl)) cs405_cell cs405_names cs405.1
   (by rw [upN_len];exact Nat.le_trans (by assumption) (by decide)) ?_ hg (fz4 h0 .nil) ?_
  ·show ((List.map nameL (List.range m)).map AV.str).length=_
   rw [List.length_map,List.length_map,List.length_range,upN_len]
  ·intro x Z ad s O B S
   refine (I11 ([]) clos405 (fun i a b ha hb=>?_))
   refine X01 (upN_at ha) fun hi q9=>?_;subst q9
   have eb:b=.str (nameL i):=by
    have:((List.map nameL (List.range m)).map AV.str)[i]? =some b:=hb
    rw [List.getElem?_map,List.getElem?_map,List.getElem?_range hi] at this
    cases this;rfl
   subst eb
   exact elt_bin (b1:=.lit 209) (b2:=.str (numS i)) (elt_cst rfl) (elt_calb O G (bnm_str.symm▸cs405.2) rfl (.cons (elt_loc O cs405.1) .nil) fun H=>str_ok (o42 m5 hi)) (cat_ok (cat_len nm209 (o5 m5 hi)))
theorem l47_due (A:All prog w K)(J9:Sound prog w K c9)(J:Sound prog w K c11)(R:Run46 K q48 fd params body scope pos)(D:Drawn m rs o) :
  TripL prog w K fd 520 ((b47.drop 6).take 1) (st4 (some (.obj (tabObj #[]),[])) cs t m rs o c [] [] [] []) fun r=>∃oc,codeOk q48 oc∧FroL (cfA m rs).R.h∧OutOk (cfA m rs).R.out∧r=(.nx,st4 (some (.rng,[.nd (.obj oc) []])) cs t m rs o c [(206,resA (cfA m rs).R)] [] [] []):=by
 refine er b47_6 ?_
 refine ⟨?_⟩
 intro x Z ad s Q X O B U L S k
 refine wpAny_execs_cons ?_
 refine wpAny_Assign_Name ?_ (swaps_ncp rfl _ _ _)
 refine er fnm46 ?_
 have h0:LowC 3 (some (Tg.obj (tabObj #[]),[])):=LowC.some .nil
 refine wpAny_Call_NameR (r_top O S rfl R.name (callK R.keep ?_))
 refine args_F (args405 A.good J9 J D h0) O (o8 B) S fun Z' ad' h' tk sub pr S' vs hv=>?_
 refine ⟨S'.stat.kin.keeps S'.hs.zsub,wpAny_call ?_⟩
 refine call_run (s:=⟨h',_,_,_,_⟩) R O B S' rfl (low4l rfl .nil) (low_cel rfl) (L.mono sub pr) (Gc:=fun c0=>∃oc,codeOk q48 oc∧c0=some (.rng,[.nd (.obj oc) []])) (fun c ⟨oc,_,e⟩=>e▸low_rng) (law_run_new A D.okA R.d48 R.line R.col) hv ?_
 intro c0' ⟨oc,hoc,e⟩ fh oo
 subst e
 intro Z'' ad'' h'' tk'' sub' pr' S'' v hv'
 refine s_loc (s:=⟨h'',_,_,_,_⟩) O S'' (S''.kd _ _ rfl) hv' fun Z3 ad3 h3 tk3 sub3 pr3 S3=>wpAny_execs_nil ?_
 exact k _ (I13 oc hoc fh oo rfl) Z3 ad3 h3 tk3 ((sub.trans sub').trans sub3) ((pr.trans pr').trans pr3) S3
end
theorem idx_le {o:List Nat}{m k:Nat}{rs:List Raw}(D:Drawn m rs o)(h:k < m):k∈o∧o.idxOf k < 10:=by
 have m5:=D.m5
 have mem:=D.mem.mpr (Nat.le_of_lt h)
 have:=List.idxOf_lt_length_iff.mpr mem
 have:=D.olen
 exact ⟨mem,(o170 m5 (by assumption) this)⟩
section
variable {prog:Program}{w:World}{K:Frag}{fd:FuncData}{q48:Str}{params:Arguments}{body:List PySem.Stmt}{scope:Scope}{pos:Pos}
variable {c0:Option (Tg×List AV)}{cs:List Int}{t:Int}{m:Nat}{rs:List Raw}{o:List Nat}{c:Nat}
theorem l47_names (G:Good K)(J9:Sound prog w K c9)(D:Drawn m rs o)(h0:LowC 3 c0){u:AV}(fu:Fro u) :
  Trip prog w K 60 ((b47.drop 7).take 1) (st4 c0 cs t m rs o c [(206,u)] [] [] []) fun r=>r=(.nx,st4 c0 cs t m rs o c [(206,u),(175,(cfB m rs o c).n)] [] [] []):=by
 have m5:=D.m5
 have hg:FroL (astr (cfB m rs o c).ns):=FroL.map fun _ _=>.str
 refine er b47_7 ?_
 refine Trip.fz (P:=fun r=>r=(.nx,st4 c0 cs t m rs o c [(206,u),(175,.ref 3)] [some (.lst,astr (cfB m rs o c).ns)] [] [])) ?_ fun r hr=>?_
 ·refine (Trip.comp (tp:=(pz 406 4 9)) (yp:=(pz 406 48 54)) (p:=(pz 406 12 70)) (q:=(pz 406 4 70)) (elt:=el406) (it:=it406) (xs:=upN m) (ys:=astr (cfB m rs o c).ns) (src_range (i:=m) G J9 rfl (r406_r c0 cs t m rs o c [(206,u)]) .nil rfl (oZ) (o16 m5)) (fun os=>LowH.fzs (σ:=st4 c0 cs t m rs o c [(206,u)] [] [] []) (low4 h0 .nil) os (low4l rfl (.cons fu.fz .nil)) (low_cel rfl)) cs406_cell cs406_names cs406.1
   (by rw [upN_len];exact Nat.le_trans (by assumption) (by decide)) ?_ rfl hg rfl cs406_no ?_).mono (Nat.le_refl _) fun r hr=>hr
  ·show ((List.map (fun k=>nameL (o.idxOf k)) (List.range m)).map AV.str).length=_
   rw [List.length_map,List.length_map,List.length_range,upN_len]
  ·intro x Z ad s O B S
   obtain ⟨a,la⟩:=cel_find S (k:=78) (r:=1) rfl
   refine (I11 ([(nm 78,a)]) (clos406 la) (fun i a' b ha hb=>?_))
   refine X01 (upN_at ha) fun hi q9=>?_;subst q9
   have eb:b=.str (nameL (o.idxOf i)):=by
    have:((List.map (fun k=>nameL (o.idxOf k)) (List.range m)).map AV.str)[i]? =some b:=hb
    rw [List.getElem?_map,List.getElem?_map,List.getElem?_range hi] at this
    cases this;rfl
   subst eb
   obtain ⟨mem,i10⟩:=idx_le D hi
   have q1:∀c,x.env.cells.lookup (nm 78)=some c→([(nm 78,a)]:List (Str×Addr)).lookup (nm 78)=some c:=fun c e=>by
    rw [la] at e;cases Option.some.inj e;exact rfl
   have eI:EltOk prog w K x (st4 c0 cs t m rs o c [(206,u)] [] [] []) (.meth (.cel 78 (pz 406 23 28)) 210 (pz 406 23 34) [(.loc 2 (pz 406 35 41))] (pz 406 23 42)) 406 [(nm 78,a)] 2 (.int (Int.ofNat i)) (.int ((o.idxOf i:Nat):Int)):=
    elt_index rfl rfl (fun k hk=>by have:=D.mem.mp hk;exact Nat.le_trans (by assumption) (by assumption)) (D.olen.symm▸(Nat.lt_of_le_of_lt (by assumption) (by decide))) mem (elt_cel O cs406.2.2 rfl (r:=1) rfl rfl q1) (.cons (elt_loc O cs406.1) .nil) (by decide)
   exact elt_bin (b1:=.lit 209) (b2:=.str (numS (o.idxOf i))) (elt_cst rfl) (elt_calb O G (bnm_str.symm▸cs406.2.1) rfl (.cons eI .nil) fun H=>str_ok (Nat.le_trans (by assumption) (by decide))) (cat_ok (cat_len nm209 i10))
 ·subst hr
  refine (I12 (.nx,st4 c0 cs t m rs o c [(206,u),(175,(cfB m rs o c).n)] [] [] []) .nx ⟨rfl,rfl,by show 3≤4;decide,(low4 (cs:=cs) (t:=t) (m:=m) (rs:=rs) (o:=o) (c:=c) (tl:=[]) (orc:=[]) (obl:=[]) h0 .nil).fzc _ [some (.lst,astr (cfB m rs o c).ns)],?_,low_cel rfl⟩ rfl)
  exact .cons (.nd fro_rs.fz) (.cons (.low rfl) (.cons .int (.cons .int (.cons fu.fz (.cons (.ref rfl rfl hg.fz) .nil)))))
theorem args407 (J:Sound prog w K c11)(h0:LowC 3 c0){d u:AV}(fd':Fro d)(fu:Fro u)(eu:u=(cfB m rs o c).n):All2 (fun e b=>TripF prog w K 60 e (st4 c0 cs t m rs o c [(206,d),(175,u)] [] [] []) b) ag407 [(cfB m rs o c).d,li (cfB m rs o c).ords,.int (Int.ofNat (cfB m rs o c).cut),(cfB m rs o c).n]:=by
 have ft:FzN 3 [] [(206,d),(175,u)] [(206,d),(175,u)]:=.cons fd'.fz (.cons fu.fz .nil)
 refine er ag407_eq (re eu ?_)
 refine .cons ?_ (.cons ?_ (.cons ?_ (.cons ?_ .nil)))
 ·exact all_ev J (r407_1 c0 cs t m rs o c [(206,d),(175,u)]) .nil (fz4 h0 ft) (.nd fro_rs.fz)
 ·exact all_ev J (r407_2 c0 cs t m rs o c [(206,d),(175,u)]) .nil (fz4 h0 ft) (.nd fro_natA.fz)
 ·exact all_ev J (r407_3 c0 cs t m rs o c [(206,d),(175,u)]) .nil (fz4 h0 ft) .int
 ·exact all_ev J (r407_4 c0 cs t m rs o c u d) .nil (fz4 h0 ft) fu.fz
theorem fro_res {C:Conf}(fh:FroL C.R.h)(oo:OutOk C.R.out):Fro (resA C.R):=
 .nd (.cons (.nd fh) (.cons (.nd (FroL.map (L:=C.R.fl) (f:=AV.bool) fun _ _=>.bool)) (.cons (told_fro oo) (.cons (.nd (.cons .str (.cons .str .nil))) .nil))))
theorem l47_ret (A:All prog w K)(J:Sound prog w K c11)(R:Run46 K q48 fd params body scope pos)(D:Drawn m rs o){oc:Obj}(hoc:codeOk q48 oc)(fh:FroL (cfA m rs).R.h)(oo:OutOk (cfA m rs).R.out) :
  TripL prog w K fd 520 (b47.drop 8) (st4 (some (.rng,[.nd (.obj oc) []])) cs t m rs o c [(206,resA (cfA m rs).R),(175,(cfB m rs o c).n)] [] [] []) fun r=>∃σ' v,r=(.rt (.bool true),σ')∧getH σ'.H 0=some (.rng,[v]):=by
 refine er b47_8 ?_
 refine ⟨?_⟩
 intro x Z ad s Q X O B U L S k
 have fd':=fro_res fh oo
 have fu:Fro (cfB m rs o c).n:=Conf.fro_n
 have h0:LowC 3 (some (Tg.rng,[AV.nd (.obj oc) []])):=low_rng
 have ft:FzN 3 [] [(206,resA (cfA m rs).R),(175,(cfB m rs o c).n)] [(206,resA (cfA m rs).R),(175,(cfB m rs o c).n)]:=.cons fd'.fz (.cons fu.fz .nil)
 have hR:(cfB m rs o c).R=(cfA m rs).R:=cf_same.symm
 have ln:0 < (cfA m rs).R.h.length:=List.length_pos_iff.mpr Conf.heard
 refine wpAny_execs_cons ?_
 refine wpAny_Return_some ?_
 refine BoolOp_and ?_
 have ob:AllP [cmpV [] .Gt (.int (cfA m rs).R.h.length) (.int 0)=some (.bool true),calB [] .len [li (cfA m rs).R.h]=some (.int (cfA m rs).R.h.length)]:=by
  refine .cons ?_ (.cons (cmp_len (by have:=Conf.hlen (C:=cfA m rs);exact Nat.le_trans (by assumption) (by decide))) .nil)
  show some (AV.bool (decide ((0:Int) < (cfA m rs).R.h.length)))=_
  exact er (decide_eq_true (o171 ln)) rfl
 refine (TripF.ev (σ:=st4 (some (Tg.rng,[AV.nd (.obj oc) []])) cs t m rs o c [(206,resA (cfA m rs).R),(175,(cfB m rs o c).n)] [] [] []) (n:=60) J [.int (cfA m rs).R.h.length,.bool true] (r407_c (some (Tg.rng,[AV.nd (.obj oc) []])) cs t m rs o c (cfB m rs o c).n (cfA m rs).R.h [li ((cfA m rs).R.fl.map .bool),toldOf (cfA m rs).R.out,stoF (cfA m rs).R.a (cfA m rs).R.b] (cfA m rs).R.h.length) ob (fz4 h0 ft) .bool).run O (o8 B) S ?_
 intro Z1 ad1 h1 tk1 sub1 pr1 S1 v1 hv1
 have q0:=hv1.inv;subst q0
 refine wpAny_truthy_bool ?_
 refine er (if_pos rfl) ?_
 refine BoolOp_one ?_
 refine wpAny_Compare1 ?_ (marks_dec _ _)
 refine wpAny_Call_NameR (r_top (s:=⟨h1,_,_,_,_⟩) O S1 rfl R.name (callK R.keep ?_))
 refine args_F (s:=⟨h1,_,_,_,_⟩) (args407 J h0 fd' fu rfl) O (o8 B) S1 fun Z2 ad2 h2 tk2 sub2 pr2 S2 vs hv=>?_
 refine ⟨S2.stat.kin.keeps S2.hs.zsub,wpAny_call ?_⟩
 refine call_run (s:=⟨h2,_,_,_,_⟩) R O B S2 rfl (low4l rfl ft) (low_cel rfl) (L.mono (sub1.trans sub2) (pr1.trans pr2)) (Gc:=fun c0=>c0=some (.rng,[.nd (.obj oc) []])) (fun c e=>e▸low_rng) (law_run_hit A D.okB R.d48 R.line R.col hoc) hv ?_
 intro c0' e fh' oo'
 subst e
 intro Z3 ad3 h3 tk3 sub3 pr3 S3 v hv'
 refine (all_ev (σ:=st4 (some (Tg.rng,[AV.nd (.obj oc) []])) cs t m rs o c [(206,resA (cfA m rs).R),(175,(cfB m rs o c).n)] [] [] []) J (r407_5 (some (Tg.rng,[AV.nd (.obj oc) []])) cs t m rs o c (cfB m rs o c).n (resA (cfA m rs).R)) .nil (fz4 h0 ft) fd'.fz).run (s:=⟨h3,_,_,_,_⟩) O (o8 B) S3 ?_
 intro Z4 ad4 h4 tk4 sub4 pr4 S4 v' hv4
 rw [hR] at hv'
 refine res_eq (s:=⟨h4,_,_,_,_⟩) S4.hs.zsub Conf.hok oo (hv'.mono sub4 pr4) hv4 (o172 U) ?_
 exact k _ (I21 _ _ rfl rfl) Z4 ad4 h4 tk4 (((sub1.trans sub2).trans sub3).trans sub4) (((pr1.trans pr2).trans pr3).trans pr4) S4 _ .bool
end
section
variable {prog:Program}{w:World}{K:Frag}{fd:FuncData}{q48:Str}{params:Arguments}{body:List PySem.Stmt}{scope:Scope}{pos:Pos}
theorem TripL.mono {D D':Nat}{ss:List S}{σ:St}{P P':Out×St→Prop}(h:TripL prog w K fd D ss σ P)(hD:D≤D')(hP:∀r,P r→P' r):TripL prog w K fd D' ss σ P':=⟨fun O B U L S k=>h.run O (Nat.lt_of_le_of_lt (Nat.add_le_add_left (by assumption) _) (by assumption)) U L S fun r hr=>k r (hP r hr)⟩
theorem l47_all (A:All prog w K)(J9:Sound prog w K c9)(J:Sound prog w K c11)(J8:SoundL prog w K c8 500)(R:Run46 K q48 fd params body scope pos){xs:List Int}(hx:xs.length≤100) :
  TripL prog w K fd 560 b47 (in47 (some (.obj (tabObj #[]),[])) (aint xs)) fun r=>∃σ' v,r=(.rt (.bool true),σ')∧getH σ'.H 0=some (.rng,[v]):=by
 refine er (show b47=b47.take 6 ++ ((b47.drop 6).take 1 ++ ((b47.drop 7).take 1 ++ b47.drop 8)) from rfl) ?_
 refine TripL.app ((l47_draw A.good J9 J8 hx (LowC.some .nil)).lw (Nat.le_refl _)) (fun σ' h=>?_) fun r ⟨_,_,_,_,_,_,_,h⟩=>congrArg _ h
 refine X3 h fun cs t m q0=>?_;refine X31 q0 fun rs o c D h=>?_
 replace h:=(Prod.mk.inj h).2
 subst h
 refine TripL.app ((l47_due (cs:=cs) (t:=t) (c:=c) A J9 J R D).mono (by decide) fun r hr=>hr) (fun σ' h=>?_) fun r z9=>X13 z9 fun _ _ _ _ h=>congrArg _ h
 refine X13 h fun oc hoc fh oo h=>?_
 replace h:=(Prod.mk.inj h).2
 subst h
 refine TripL.app ((l47_names A.good J9 D low_rng (fro_res fh oo)).lw (by decide)) (fun σ' h=>?_) fun r h=>congrArg _ h
 replace h:=(Prod.mk.inj h).2
 subst h
 exact (l47_ret A J R D hoc fh oo).mono (by decide) fun r hr=>hr
end
section
variable {prog:Program}{w:World}{K:Frag}{fd:FuncData}{q48:Str}{params:Arguments}{body:List PySem.Stmt}{scope:Scope}{pos:Pos}
theorem Trip.noc {c:Cf}(G:Good K)(I:InitK prog K)(hs:∀f,c.spc f=false)(hl:c.lim=900):Sound prog w K c:=
 ⟨sound G I (Contracts.of fun f hf=>by rw [hs] at hf;cases hf) (hl.symm▸rec_lim),hl⟩
theorem vals_int {Z:Heap}{ad:List Addr}{vs:List Value}{ns:List Int}(h:IntsAre vs ns):Vals prog w Z ad (aint ns) vs:=by
 induction h with
 | nil=>exact .nil
 | cons n t r ih=>exact .cons .int ih
theorem law_sit {env:Env}{Gh h₁:Heap}{L:Addr}{m mg mb:Str→Option Value}{vs:List Value}{ns:List Int}{p3:Addr}{oc:Obj}(F:Fr Gh L h₁ m)(N:News Gh L h₁ [(L + 1,oc),(443,tabObj #[])])(l0:443 < L)
  (hloc:env.locals=L) (hkd:∀n k,lkK n k47=some k→env.kindOf (nm n)=some k) (hcel:env.cells.lookup (nm 78)=some (L + 1)) (kin:K.In Gh) (lim:Gh.NoLimit) (hg:Gh.Ns mainGlobals mg) (hb:Gh.Ns builtinsNs mb) (hbb:∀x:Str,x≠ "__name__"→mb x=bootBuiltins x)
  (hm:m (nm 203)=some (.ref p3)) (hp:Gh.get? p3=some {cls:=.type "list",data:=.seq vs.toArray 0}) (hps:(p3 == sysModules)=false) (hi:IntsAre vs ns) (hoc:oc.data=.cell none) :
  Sit prog w K ⟨callerA.deeper env,env,[],[]⟩ (in47 (some (.obj (tabObj #[]),[])) (aint ns)) Gh [443,L + 1] h₁:=by
 subst hloc
 have hsz:∀{a:Addr} {o:Obj},Gh.get? a=some o→a < env.locals:=fun e=>Nat.lt_of_lt_of_le (Heap.lt_size e) F.above
 have n1:=N (env.locals + 1,oc) (.head _)
 have n2:=N (443,tabObj #[]) (.tail _ (.head _))
 have low:=PyProof.Rows.modules_low lim
 have s443:((443:Addr) == sysModules)=false:=by decide
 have sL:((env.locals + 1:Addr) == sysModules)=false:=beq_eq_false_iff_ne.mpr (Nat.ne_of_gt (Nat.lt_trans (show sysModules < 443 by decide) (Nat.lt_succ_of_lt l0)))
 refine X31 F.ns fun oL esL epL hL hLd=>?_
 refine ⟨hkd,⟨kin,lim,⟨mg,hg⟩,(I11 mb hb hbb)⟩,⟨?_,?_,?_,?_,fun p h=>(nomatch h),fun a o e=>F.keep a o e,rfl,?_⟩,(I11 m F.ns (fun n a e=>?_)),fun n a e=>?_⟩
 ·show [env.locals,443,env.locals + 1].Nodup
  have a1:env.locals≠443:=Nat.ne_of_gt l0
  have a2:env.locals≠env.locals + 1:=(Nat.succ_ne_self _).symm
  have a3:443≠env.locals + 1:=Nat.ne_of_lt (Nat.lt_succ_of_lt l0)
  refine .cons (fun a h=>?_) (.cons (fun a h=>?_) (.cons (fun a h=>(nomatch h)) .nil))
  ·rcases List.mem_cons.mp h with rfl | h
   ·exact a1
   ·refine er (List.mem_singleton.mp h) ?_;exact a2
  ·refine er (List.mem_singleton.mp h) ?_;exact a3
 ·intro a ha
  have ha:a∈[env.locals,443,env.locals + 1]:=ha
  simp only [List.mem_cons,List.not_mem_nil,or_false] at ha
  rcases ha with rfl | rfl | rfl
  ·cases e:Gh.get? env.locals with
   | none=>rfl
   | some o=>exact absurd (hsz e) (Nat.lt_irrefl _)
  ·exact n2.2.2
  ·exact n1.2.2
 ·intro a ha
  have ha:a∈[env.locals,443,env.locals + 1]:=ha
  simp only [List.mem_cons,List.not_mem_nil,or_false] at ha
  rcases ha with rfl | rfl | rfl
  ·exact Heap.lt_size hL
  ·exact Heap.lt_size n2.1
  ·exact Heap.lt_size n1.1
 ·intro a ha
  have ha:a∈[env.locals,443,env.locals + 1]:=ha
  simp only [List.mem_cons,List.not_mem_nil,or_false] at ha
  rcases ha with rfl | rfl | rfl
  ·exact ⟨_,hL⟩
  ·exact ⟨_,n2.1⟩
  ·exact ⟨_,n1.1⟩
 ·intro r t xs e
  match r with
  | 0=>cases e;exact ⟨443,[],rfl,(I0112 s443 _ n2.1 rfl rfl),.nil⟩
  | 1=>cases e;exact ⟨env.locals + 1,[],rfl,(I011111 sL _ n1.1 none hoc rfl),.nil⟩
  | r + 2=>exact noS e
 ·have e:lkA n [(203,li (aint ns))]=some a:=e
  unfold lkA at e
  split at e
  ·rename_i q
   cases Option.some.inj e
   refine er (Nat.eq_of_beq_eq_true q) ?_
   exact (I11 _ hm (.nd ⟨hps,_,hp,0,rfl⟩ (vals_int hi)))
  ·exact noS e
 ·have e:lkA n [(78,.ref 1)]=some a:=e
  unfold lkA at e
  split at e
  ·rename_i q
   cases Option.some.inj e
   refine er (Nat.eq_of_beq_eq_true q) ?_
   exact (I11 _ hcel (.ref rfl))
  ·exact noS e
end
section
variable {prog:Program}{w:World}{K:Frag}
theorem snd1 (G:Good K)(I:InitK prog K):SoundL prog w K c1 0:=SoundL.of G I (fun f hf=>by exact noB hf) rfl
theorem snd2 (G:Good K)(I:InitK prog K):SoundL prog w K c2 210:=SoundL.of G I (fun f hf=>by
 rcases Bool.or_eq_true_iff.mp hf with q | q
 ·cases Nat.eq_of_beq_eq_true q
  exact way_con (snd1 G I) (by decide)
 ·cases Nat.eq_of_beq_eq_true q
  exact row_con (Trip.noc G I (fun _=>rfl) rfl) (by decide)) rfl
theorem snd3 (G:Good K)(I:InitK prog K):SoundL prog w K c3 320:=SoundL.of G I (fun f hf=>by
 rcases Bool.or_eq_true_iff.mp hf with q | q
 ·cases Nat.eq_of_beq_eq_true q
  exact body_con (snd2 G I) (by decide)
 ·cases Nat.eq_of_beq_eq_true q
  exact goto_con (snd2 G I) (by decide)) rfl
theorem snd5 (G:Good K)(I:InitK prog K):SoundL prog w K c5 441:=SoundL.of G I (fun f hf=>by
 cases Nat.eq_of_beq_eq_true hf
 exact prog_con (Lc:=479) (D:=440) G (Trip.noc G I (fun _=>rfl) rfl) (Trip.noc G I (fun _=>rfl) rfl) (comp_con (snd3 G I) (by decide)) (by decide) (by decide) (by decide)) rfl
theorem snd8 (G:Good K)(I:InitK prog K):SoundL prog w K c8 500:=SoundL.of G I (fun f hf=>by
 cases Nat.eq_of_beq_eq_true hf
 exact dip_con (SoundL.of G I (fun f hf=>by exact noB hf) rfl) (by decide)) rfl
theorem all_of (G:Good K)(I:InitK prog K):All prog w K:=
 ⟨G,I,Trip.noc G I (fun _=>rfl) rfl,Trip.noc G I (fun _=>rfl) rfl,Trip.noc G I (fun _=>rfl) rfl,snd5 G I,stated_con (snd2 G I) (by decide)⟩
variable {fd:FuncData}{q48:Str}{params:Arguments}{body:List PySem.Stmt}{scope:Scope}{pos:Pos}
theorem law_final (G:Good K)(I:InitK prog K)(R:Run46 K q48 fd params body scope pos){env:Env}{Gh h₁:Heap}{L:Addr}{m mg mb:Str→Option Value}{vs:List Value}{ns:List Int}{p3:Addr}{oc:Obj}(F:Fr Gh L h₁ m)(N:News Gh L h₁ [(L + 1,oc),(443,tabObj #[])])(l0:443 < L)
  (hloc:env.locals=L) (hkd:∀n k,lkK n k47=some k→env.kindOf (nm n)=some k) (hcel:env.cells.lookup (nm 78)=some (L + 1)) (kin:K.In Gh) (lim:Gh.NoLimit) (hg:Gh.Ns mainGlobals mg) (hb:Gh.Ns builtinsNs mb) (hbb:∀x:Str,x≠ "__name__"→mb x=bootBuiltins x)
  (hm:m (nm 203)=some (.ref p3)) (hp:Gh.get? p3=some {cls:=.type "list",data:=.seq vs.toArray 0}) (hps:(p3 == sysModules)=false) (hi:IntsAre vs ns) (hoc:oc.data=.cell none)
  (hk:env.scope.kind=.function) (frm:env.frame=some env.locals) (glo:env.globals=mainGlobals) (blt:env.builtins=builtinsNs) (hfc:fd.code=.ref 445) (hcd:CodeHd Gh 445 443)
  (hbm:∃bm ob,mg "__builtins__" =some (.ref bm)∧bm≠builtinsNs∧Gh.get? bm=some ob∧ob.cls=.type "module"∧ob.dict=some builtinsNs∧ob.data=.plain) (len:ns.length≤63)
  {Q:Flow→Shared→Prop} {E:Value→Shared→Prop} {g:Array GenState} {d:PySem.Drawn} {tk:Nat} {os:OsState} (hQ:∀h' tk',(∀b o,Gh.get? b=some o→h'.get? b=some o)→(∃ps,h'.get? 443=some (tabObj ps))→Q (.ret (.bool true)) ⟨h',g,d,tk',os⟩) :
  wpAny (model prog w) (callerA.deeper env) (execs (decSs b47) env) Q E ⟨h₁,g,d,tk,os⟩:=by
 have S:=law_sit (prog:=prog) (w:=w) (K:=K) F N l0 hloc hkd hcel kin lim hg hb hbb hm hp hps hi hoc
 have n2:=N (443,tabObj #[]) (.tail _ (.head _))
 have J:∀c:Cf,(∀f,c.spc f=false)→c.lim=900→Sound prog w K c:=fun c h k=>Trip.noc G I h k
 have O:(Fx.mk (callerA.deeper env) env [] []).Ok:=⟨hk,frm,glo,blt,rfl,rfl,trivial⟩
 have LW:LwAt fd Gh [443,L + 1]:=by
  refine X25 hbm fun bm ob b1 b2 b3 b4 b5 b6=>?_
  refine ⟨445,443,mg,hfc,hcd,rfl,hg,bm,ob,b1,b2,fun q=>?_,fun q=>?_,b3,b4,b5,b6⟩
  ·refine X32 hg fun o es ep e hd _=>?_
   rw [←q,b3] at e
   cases Option.some.inj e
   rw [b6] at hd;cases hd
  ·rw [q,n2.2.2] at b3;cases b3
 refine (l47_all (all_of G I) (J c9 (fun _=>rfl) rfl) (J c11 (fun _=>rfl) rfl) (snd8 G I) R (xs:=ns) (Nat.le_trans (by assumption) (by decide))).run (x:=⟨callerA.deeper env,env,[],[]⟩) (s:=⟨h₁,g,d,tk,os⟩) O (by show callerA.depth + 1 + 560 < 900;decide) (by show callerA.units + 3 + 200 < cLine;decide) LW S fun r hr=>?_
 refine X21 hr fun σ' v q0 h0=>?_;subst q0
 intro Z' ad' h' tk' sub pr S' u hu
 have q1:=hu.inv;subst q1
 refine hQ h' tk' (fun b o e=>S'.hs.zsub _ _ (sub _ _ e)) ?_
 refine X22 (S'.hs.emb _ _ _ h0) fun a us ha q0 _=>?_;obtain ⟨_,o,ho,u',rfl,rfl⟩:=q0
 rw [pr.at (r:=0) rfl] at ha
 cases Option.some.inj ha
 exact ⟨_,ho⟩
end
section
set_option maxRecDepth 100000
set_option maxHeartbeats 0
noncomputable def tRun (st:SharedT→Thread→Option (SharedT×Thread))(ok:Thread→Bool):Nat→SharedT→Thread→Option SharedT
 | 0,_,_=>none
 | n + 1,s,t=>match PySem.W.through t with
  | true=>some s
  | false=>match ok t with
   | false=>none
   | true=>match st s t with
    | some (s',t')=>tRun st ok n s' t'
    | none=>none
theorem tRun_spec {tb:String→Option Builtin}{p:Program}{w:World}{n₀:Nat}{ann:Option Value}:∀{n:Nat} {s s':SharedT} {t:Thread},tRun (stepT (denote tb) p w) (stepOk n₀ ann) n s t=some s'→topRun tb p w n₀ ann n s.abs t=some s'.abs
 | 0,_,_,_,h=>by exact noS h
 | n + 1,s,s',t,h=>by
  unfold tRun at h
  unfold topRun
  cases h1:PySem.W.through t with
  | true=>rw [h1] at h;cases Option.some.inj h;rfl
  | false=>
   rw [h1] at h
   cases h2:stepOk n₀ ann t with
   | false=>rw [h2] at h;cases h
   | true=>
    rw [h2] at h
    cases h3:stepT (denote tb) p w s t with
    | none=>rw [h3] at h;cases h
    | some r=>obtain ⟨s₂,t₂⟩:=r;rw [h3] at h;refine er (stepT_spec h3) ?_;exact tRun_spec h
theorem left_of {p q:Program}{loose:List Str}{Xt:Shared→Bool}{α:Type}{Yf:Shared→α}{Ya:World→α}{N:Nat}{g0:Bool}{H₀:Params→Heap}{gs₀:Array GenState}{d₀:PySem.Drawn}{k₀:Nat}{S0:World→OsState→SharedT}
  {st:(Code→Sem Fin)→Program→World→SharedT→Thread→Option (SharedT×Thread)} {dn:(String→Option Builtin)→Code→Sem Fin} {tb:String→Option Builtin} {ok:Nat→Option Value→Thread→Bool}
  (e1:stepT=st) (e2:denote=dn) (e3:treeTable=tb) (e4:stepOk=ok)
  (open_:∀w:World,(fencedOpening treeTable p w N).map (fun s=>(s.heap,s.gens,s.drawn,s.toks))=some (H₀ w.params,gs₀,d₀,k₀))
  (size:∀w:World,((H₀ w.params).isNs mainGlobals && gs₀.size == 0)=true) (abs0:∀w os,(S0 w os).abs=⟨H₀ w.params,gs₀,d₀,k₀,os⟩)
  (run:∀(w:World) (os:OsState),(tRun (st (dn tb) p w) (ok (H₀ w.params).objs.size ((H₀ w.params).nsMap mainGlobals "__annotations__")) N (S0 w os) (topStub p)).map (fun t=>
   (staticsOk (importedModules p.main.body) (H₀ w.params) t.abs.heap && namesBound p t.abs.heap && gensDone t.abs && laidKept (H₀ w.params) t.abs.heap,openSeen q loose (importedModules p.main.body) Xt g0 t.abs,Yf t.abs))=some (true,openGood q loose,Ya w)):LeftO p q loose Xt Yf Ya N g0:=fun w=>by
 subst e1 e2 e3 e4
 refine X11 (Option.map_eq_some_iff.mp (open_ w)) fun q0 e e'=>?_;obtain ⟨h,gs,d,k,os⟩:=q0
 refine X03 (show h=H₀ w.params∧gs=gs₀∧d=d₀∧k=k₀ from by simpa using e') fun q0 q1 q2 q3=>?_;subst q0;subst q1;subst q2;subst q3
 refine X11 (Option.map_eq_some_iff.mp (run w os)) fun t ht hl=>?_
 have r:=tRun_spec ht
 rw [abs0] at r
 refine X02 (show _∧_∧_ from by simpa only [Prod.mk.injEq] using hl) fun l1 l2 l3=>?_
 unfold openEnds
 rw [e,Option.bind_some]
 have z:topFrom treeTable p w N ⟨H₀ w.params,gs,d,k,os⟩=some t.abs:=by
  unfold topFrom
  refine er (size w) (er r ?_)
  dsimp only [Option.bind_some]
  exact er l1 rfl
 rw [z,Option.map_some,l2,l3]
noncomputable def bootT (P:Params):BT:=((boot_heap P).objs.toList.foldl (fun (q:BT×Nat) o=>(q.1.ins q.2 o,q.2 + 1)) (.nil,0)).1
noncomputable def boot0 (w:World)(os:OsState):SharedT:=⟨bootT w.params,(boot_heap w.params).objs.size,(boot_heap w.params).life,#[],boot_drawn,boot_toks,os⟩
theorem boot_abs (w:World)(os:OsState):(boot0 w os).abs=⟨boot_heap w.params,#[],boot_drawn,boot_toks,os⟩:=by kernel_rfl
theorem boot_ns (w:World):((boot_heap w.params).isNs mainGlobals && (#[]:Array GenState).size == 0)=true:=by kernel_rfl
noncomputable abbrev pR:Program:=PySem.Challenge.pw_sa0600_01
noncomputable def qR:Program:=view pR [36]
noncomputable def looseR:List Str:=(pR.main.body.take 36).flatMap bindsAtTop
noncomputable def XtR (s:Shared):Bool:=xlAt qR [] s && recOk PySem.Challenge.rw_sa0600_01.row.records s
theorem open_R (w:World):(fencedOpening treeTable pR w 6164).map (fun s=>(s.heap,s.gens,s.drawn,s.toks))=some (boot_heap w.params,Array.mk [],boot_drawn,boot_toks):=boot_open (by kernel_rfl) rfl (fun s=>by kernel_rfl) w
end
section
set_option maxRecDepth 100000
set_option maxHeartbeats 0
noncomputable def fdOf (o:Option Obj):FuncData:=match o with
 | some o=>(match o.data with | .func fd=>fd | _=>default)
 | none=>default
noncomputable def fdAt (K:Frag)(a:Addr):FuncData:=fdOf (K.lookup a)
structure FV where
 body:FuncBody
 glo:Addr
 blt:Addr
 clo:List (Str×Addr)
 kind:ScopeKind
 gen:Bool
 co:Bool
 names:List (Str×NameKind)
noncomputable def fview (o:Obj):Option FV:=match o.data with
 | .func fd=>some ⟨fd.body,fd.globals,fd.builtins,fd.closure,fd.scope.kind,fd.scope.isGenerator,fd.scope.isCoroutine,fd.scope.names⟩
 | _=>none
noncomputable def fnOf (f:Nat):Fn:=(fns f).getD {pars:=[],kd:=[],body:=[]}
noncomputable def names (kd:List (Nat×NameKind)):List (Str×NameKind):=kd.map fun p=>(nm p.1,p.2)
noncomputable def fnV (fn:Fn):FV:=⟨.stmts (decSs fn.body),mainGlobals,builtinsNs,[],.function,false,false,names fn.kd⟩
noncomputable def allBi:List Bi:=[.len,.str,.int,.abs,.isi,.list,.range,.enum]
noncomputable def c26:List Nat:=[2,3,4,5,6]
noncomputable def c06:List Nat:=[0,1,2,3,4,5,6]
noncomputable def f46:List Nat:=List.range 46
noncomputable def intB (v:Option (Option Value))(i:Int):Bool:=match v with | some (some (.int j _))=>decide (i=j) | _=>false
noncomputable def strB (v:Option (Option Value))(t:Str):Bool:=match v with | some (some (.str u _))=>decide (t=u) | _=>false
structure CV where
 cls:Value
 mro:List Value
 ns:Addr
 hasDict:Bool
 hasDel:Bool
 size:Nat
 new:Option (Option Value)
noncomputable def cview (o:Obj):Option CV:=match o.data with
 | .cls c=>some ⟨o.cls,c.mro,c.ns,c.hasDict,c.hasDel,o.slots.size,o.slots[4]?⟩
 | _=>none
noncomputable def nsB (o:Obj):Bool:=match o.data with
 | .dict es _=>es.toList.all (fun e=>match e.key with | .str _ _=>true | _=>false)
 | _=>false
noncomputable def nsV (o:Obj):Option Value:=match o.data with
 | .dict es _=>nsFind es "__init__"
 | _=>none
noncomputable def codeB (K:Frag)(file:Str)(v:Value):Bool:=match v with
 | .ref a=>(match K.lookup a with
  | some o=>(match o.data with
   | .fields vs=>(match (vs[2]?:Option Value) with | some (.str f _)=>file == f | _=>false)
   | _=>false)
  | none=>false)
 | _=>false
noncomputable def stmtsOf (l:List PySem.Stmt):List PySem.Stmt:=match l with | .FunctionDef _ _ b _ _ _ _ _ _ _ :: _=>b | _=>[]
noncomputable def defPar (l:List PySem.Stmt):Arguments:=match l with | .FunctionDef _ a _ _ _ _ _ _ _ _ :: _=>a | _=>default
noncomputable def defScope (l:List PySem.Stmt):Scope:=match l with | .FunctionDef _ _ _ _ _ _ s _ _ _ :: _=>s | _=>default
noncomputable def defPos (l:List PySem.Stmt):Pos:=match l with | .FunctionDef _ _ _ _ _ _ _ _ _ p :: _=>p | _=>default
noncomputable def dS:List PySem.Stmt:=(stmtsOf (pR.main.body.drop 35)).drop 7
noncomputable def q48:Str:=(nm 189 ++ ".<locals>.") ++ nm 192
noncomputable def initP:Nat→Pos
 | 0=>⟨5,8,5,13⟩ | 1=>⟨5,8,5,15⟩ | 2=>⟨5,8,5,24⟩ | 3=>⟨5,25,5,32⟩ | 4=>⟨5,8,5,33⟩ | 5=>⟨5,8,5,33⟩ | 6=>⟨6,8,6,12⟩ | 7=>⟨6,8,6,19⟩ | 8=>⟨6,22,6,28⟩ | 9=>⟨6,8,6,28⟩
 | 10=>⟨7,8,7,12⟩ | 11=>⟨7,8,7,17⟩ | 12=>⟨7,20,7,24⟩ | _=>⟨7,8,7,24⟩
noncomputable def names31:List (Str×NameKind):=[(nm 1,.local),(nm 2,.local),(nm 3,.local),(nm 5,.free),(nm 6,.globalImplicit)]
noncomputable abbrev BL:=List (Sem (List (Str×Value)))
structure Obs where
 fn:List (Option FV)
 b1:Value→BL
 b2:Value→Value→BL
 b3:Value→Value→Value→BL
 b4:Value→Value→Value→Value→BL
 b6:Value→Value→Value→Value→Value→Value→BL
 gfn:List (Option (Option Value))
 gcl:List (Option (Option Value))
 gbl:List (Option (Option Value))
 met:List (Option (Option Value))
 typ:List (Option Value)
 ini:List (Option (Option Value))
 ga:List (Option (Option Value))
 gt:List (Option (Option Value))
 sa:List (Option (Option Value))
 att:List (Option (Option Value))
 all:Bool
 cls:Option CV
 ns:Option (Bool×Option Value)
 exc:List (Option (Option Value))
 fd31:Option (Value×Option Addr×Array (Option Value))
 fv31:Option FV
 par31:Option Str
 bd31:Setting→Value→Value→Value→Option (List (Str×Value))×Option (List (Str×Value))
 cell:Option Data
 fv46:Option FV
 bd46:Value→Value→Value→Value→Sem (List (Str×Value))
 nam46:Str×Value×Option (Option Value)
noncomputable def obsK (K:Frag):Obs where
 fn:=f46.map fun f=>(K.lookup (fad f)).bind fview
 b1:=fun v0=>[0,1,3,22,33,34,37,38,39,40].map fun f=>bindArgs (fdAt K (fad f)) ⟨[v0],[]⟩
 b2:=fun v0 v1=>[2,4,7,9,10,14,16,20,21,24,29,35,41,43].map fun f=>bindArgs (fdAt K (fad f)) ⟨[v0,v1],[]⟩
 b3:=fun v0 v1 v2=>[5,6,8,13,17,18,23,25,26,27,28,30,36,42,44,45].map fun f=>bindArgs (fdAt K (fad f)) ⟨[v0,v1,v2],[]⟩
 b4:=fun v0 v1 v2 v3=>[11,12,15,19,32].map fun f=>bindArgs (fdAt K (fad f)) ⟨[v0,v1,v2,v3],[]⟩
 b6:=fun v0 v1 v2 v3 v4 v5=>[31].map fun f=>bindArgs (fdAt K (fad f)) ⟨[v0,v1,v2,v3,v4,v5],[]⟩
 gfn:=topL.map fun f=>nsIn K mainGlobals (nm (fnm f))
 gcl:=c06.map fun k=>nsIn K mainGlobals (nm (cnm k))
 gbl:=allBi.map fun b=>nsIn K mainGlobals (nm (bnm b))
 met:=mthL.map fun q=>findIn K (.ref (cad q.1)) (nm q.2.1)
 typ:=f46.map fun f=>typeIn K (.ref (fad f))
 ini:=c26.map fun k=>findIn K (.ref (cad k)) "__init__"
 ga:=c26.map fun k=>findIn K (.ref (cad k)) "__getattribute__"
 gt:=c26.map fun k=>findIn K (.ref (cad k)) "__getattr__"
 sa:=c26.map fun k=>findIn K (.ref (cad k)) "__setattr__"
 att:=attT.map fun p=>findIn K (.ref (cad p.1)) (nm p.2)
 all:=(f46.all fun f=>codeIn K (fdAt K (fad f)).code (fdAt K (fad f)).qualname) && ((f46.all fun f=>keepIn K (.ref (fad f))) && ((c06.all fun k=>keepIn K (.ref (cad k))) && ((c26.all fun k=>hasDictIn K (cad k)) && ((c26.all fun k=>plainOver K (cad k)) && ((c26.all fun k=>makesIn K (cad k)) &&
  ((["NoneType", "bool", "int", "str", "list", "tuple"].all fun T=>isNotIn K T (cad 1)) && (intB (nsIn K mainGlobals (nm 70)) 24 && (intB (nsIn K mainGlobals (nm 117)) 19 && (strB (nsIn K mainGlobals (nm 69)) (nm 69) &&
  (codeB K pR.main.file (fdAt K 31).code && (codeIn K (fdAt K 31).code (fdAt K 31).qualname && (codeIn K (fdAt K 446).code (fdAt K 446).qualname && (keepIn K (.ref 446) && codeHdIn K 445 443)))))))))))))
 cls:=(K.lookup 34).bind cview
 ns:=(K.lookup 33).map fun o=>(nsB o,nsV o)
 exc:=[findIn K (.ref 34) "__setattr__",findIn K (.ref 34) "__getattribute__",findIn K (.ref 34) "__getattr__",findIn K (.ref 34) (nm 2),findIn K (.ref 34) (nm 3),nsIn K cStatics "thirdparty.any",nsIn K mainGlobals (nm 6)]
 fd31:=(K.lookup 31).map fun o=>(o.cls,o.dict,o.slots)
 fv31:=(K.lookup 31).bind fview
 par31:=((fdAt K 31).params.posonlyargs ++ (fdAt K 31).params.args).head?.map (·.arg)
 bd31:=fun S a b t=>(peek K S (bindArgs (fdAt K 31) ⟨[a,b],[]⟩),peek K S (bindArgs (fdAt K 31) ⟨[a,b,t],[]⟩))
 cell:=(K.lookup 18).map (·.data)
 fv46:=(K.lookup 446).bind fview
 bd46:=fun a b c d=>bindArgs (fdAt K 446) ⟨[a,b,c,d],[]⟩
 nam46:=((fdAt K 446).qualname,(fdAt K 446).code,nsIn K mainGlobals (nm 189))
noncomputable def valK:Obs where
 fn:=f46.map fun f=>some (fnV (fnOf f))
 b1:=fun v0=>[0,1,3,22,33,34,37,38,39,40].map fun f=>pure (((fnOf f).pars.map nm).zip [v0])
 b2:=fun v0 v1=>[2,4,7,9,10,14,16,20,21,24,29,35,41,43].map fun f=>pure (((fnOf f).pars.map nm).zip [v0,v1])
 b3:=fun v0 v1 v2=>[5,6,8,13,17,18,23,25,26,27,28,30,36,42,44,45].map fun f=>pure (((fnOf f).pars.map nm).zip [v0,v1,v2])
 b4:=fun v0 v1 v2 v3=>[11,12,15,19,32].map fun f=>pure (((fnOf f).pars.map nm).zip [v0,v1,v2,v3])
 b6:=fun v0 v1 v2 v3 v4 v5=>[31].map fun f=>pure (((fnOf f).pars.map nm).zip [v0,v1,v2,v3,v4,v5])
 gfn:=topL.map fun f=>some (some (.ref (fad f)))
 gcl:=c06.map fun k=>some (some (.ref (cad k)))
 gbl:=allBi.map fun b=>some none
 met:=mthL.map fun q=>some (some (.ref (fad q.2.2)))
 typ:=f46.map fun f=>some (.type "function")
 ini:=c26.map fun k=>some (some (.ref (fad (inis k))))
 ga:=c26.map fun k=>some (some (.builtin "object.__getattribute__"))
 gt:=c26.map fun k=>some none
 sa:=c26.map fun k=>some (some (.builtin "object.__setattr__"))
 att:=attT.map fun p=>some none
 all:=true
 cls:=some ⟨.type "type",.ref 34 :: bmE,33,true,false,6,some (some (.builtin "Exception.__new__"))⟩
 ns:=some (true,some (.ref 31))
 exc:=[some (some (.builtin "object.__setattr__")),some (some (.builtin "BaseException.__getattribute__")),some none,some none,some none,some none,some none]
 fd31:=some (.type "function",none,#[])
 fv31:=some ⟨.stmts (initBody initP),mainGlobals,builtinsNs,[(nm 5,18)],.function,false,false,names31⟩
 par31:=some (nm 1)
 bd31:=fun S a b t=>(some [(nm 1,a),(nm 2,b),(nm 3,.str "" 201)],some [(nm 1,a),(nm 2,b),(nm 3,t)])
 cell:=some (.cell (some (.ref 34)))
 fv46:=some ⟨.stmts (body46 (defPar dS) (stmtsOf dS) (defScope dS) (defPos dS)),mainGlobals,builtinsNs,[],.function,false,false,names k46⟩
 bd46:=fun a b c d=>pure ((fn46.pars.map nm).zip [a,b,c,d])
 nam46:=(nm 189,.ref 445,some (some (.ref 446)))
noncomputable def frgL:List Obj→Nat→Frag
 | [],_=>[]
 | o :: r,a=>match !o.isFreed && !Nat.beq a 443 with
  | true=>(a,o) :: frgL r (a + 1)
  | false=>frgL r (a + 1)
noncomputable def fragK (h:Heap):Frag:=frgL h.objs.toList 0
theorem frgL_mem {a:Addr}{o:Obj}:∀{l:List Obj} {b:Nat},(a,o)∈frgL l b→∃i,a=b + i∧l[i]? =some o∧o.isFreed=false∧a≠443:=by
 intro l
 induction l with
 | nil=>intro b m;exact nomatch m
 | cons q r ih=>
  intro b m
  replace m:(a,o)∈(match !q.isFreed && !Nat.beq b 443 with | true=>(b,q) :: frgL r (b + 1) | false=>frgL r (b + 1)):=m
  have go:(a,o)∈frgL r (b + 1)→∃i,a=b + i∧(q :: r)[i]? =some o∧o.isFreed=false∧a≠443:=fun m=>X13 (ih m) fun i e1 e2 e3 e4=>⟨i + 1,e1.trans (Nat.succ_add_eq_add_succ b i),e2,e3,e4⟩
  cases hc:!q.isFreed && !Nat.beq b 443 with
  | true=>
   rw [hc] at m
   refine X01 (Bool.and_eq_true_iff.mp hc) fun h1 h2=>(List.mem_cons.mp m).elim (fun e=>?_) go
   cases e
   exact ⟨0,rfl,rfl,(Bool.not_eq_true' _).mp h1,Nat.ne_of_beq_eq_false ((Bool.not_eq_true' _).mp h2)⟩
  | false=>rw [hc] at m;exact go m
theorem fragK_get {h:Heap}{a:Addr}{o:Obj}(e:(fragK h).lookup a=some o):h.get? a=some o∧a≠443:=by
 refine X13 (frgL_mem (mem_of_lookupK e)) fun i e1 e2 e3 e4=>⟨?_,e4⟩
 rw [Nat.zero_add] at e1
 rw [Array.getElem?_toList,←e1] at e2
 exact Heap.get?_some_iff.mpr ⟨e2,e3⟩
noncomputable def YfR (s:Shared):Obs×Option Obj:=(obsK (fragK s.heap),s.heap.get? 443)
noncomputable def YaR (w:World):Obs×Option Obj:=(valK,some (tabObj #[]))
theorem left:LeftO pR qR looseR XtR YfR YaR 6164:=
 left_of PySem.W.Fast.te10156331382660048174 PySem.W.Fast.te11892475500146522536 PySem.W.Fast.te14364793385576792824 PySem.W.Fast.te6613529449190102663 open_R boot_ns boot_abs (fun w os=>by kernel_rfl)
end
section
set_option maxRecDepth 100000
theorem lenV {α:Type}{l:List α}{n:Nat}(h:l.length=n + 1):∃a T,l=a :: T∧T.length=n:=by
 cases l with
 | nil=>simp at h
 | cons a T=>exact (I21 a T rfl (Nat.succ.inj h))
theorem at_l {α β:Type}{l:List α}{g h:α→β}(e:l.map g=l.map h){x:α}(m:x∈l):g x=h x:=List.map_inj_left.mp e x m
theorem mthF_mem {k m f:Nat}:∀{l:List (Nat×Nat×Nat)},mthF l k m=some f→(k,m,f)∈l
 | [],h=>nomatch h
 | (a,b,d) :: r,h=>by
  unfold mthF at h
  cases e:Nat.beq a k && Nat.beq b m with
  | true=>
   rw [e] at h
   have:=and_t e
   cases h
   refine er (Nat.eq_of_beq_eq_true this.1) (er (Nat.eq_of_beq_eq_true this.2) ?_)
   exact List.mem_cons_self
  | false=>rw [e] at h;exact List.mem_cons_of_mem _ (mthF_mem h)
theorem mth_mem {k m f:Nat}(h:mths k m=some f):(k,m,f)∈mthL:=mthF_mem h
theorem mth_ok:(mthL.all fun q=>fnsOk q.2.2 && (Nat.ble 2 q.1 && (Nat.ble q.1 6 && Nat.blt q.2.2 46)))=true:=by decide +kernel
theorem g_inf:(c26.all fun k=>fnsOk (inis k) && Nat.blt (inis k) 46)=true:=by decide +kernel
theorem top_lt:(topL.all fun f=>Nat.blt f 46)=true:=by decide +kernel
theorem fns_lt {f:Nat}{fn:Fn}(h:fns f=some fn):f < 49:=by
 rcases Nat.lt_or_ge f 49 with q | q
 ·exact q
 ·refine X1 (Nat.exists_eq_add_of_le q) fun n q0=>?_;subst q0
  rw [Nat.add_comm] at h
  have:fns (n + 49)=none:=rfl
  rw [this] at h;cases h
theorem fn_nil {f:Nat}{fn:Fn}(h:fns f=some fn)(h1:fn.own= [])(h2:fn.fre= []):f < 46:=by
 have l:=fns_lt h
 rcases Nat.lt_or_ge f 46 with q | q
 ·exact q
 ·have:f=46∨f=47∨f=48:=o55 l q
  rcases this with rfl | rfl | rfl
  ·cases (show some fn46=some fn from h);cases h1
  ·have e:(fns 47).map (·.own)=some [78]:=rfl
   rw [h] at e;simp [h1] at e
  ·have e:(fns 48).map (·.fre)=some [193,194,195]:=rfl
   rw [h] at e;simp [h2] at e
theorem fnOf_eq {f:Nat}{fn:Fn}(h:fns f=some fn):fnOf f=fn:=by unfold fnOf;refine er h ?_;rfl
theorem fn_kd:(f46.all fun f=>(fnOf f).kd.all (fun p=>match p.2 with | .cell=>false | _=>true) && (fnOf f).pars.all (fun p=>isL (fnOf f).kd p) && decide (fnOf f).pars.Nodup)=true:=by decide +kernel
theorem mem46 {f:Nat}(h:f < 46):f∈f46:=List.mem_range.mpr h
theorem intB_is {v:Option (Option Value)}{i:Int}(h:intB v i=true):∃t,v=some (some (.int i t)):=by
 unfold intB at h
 split at h
 ·cases of_decide_eq_true h;exact ⟨_,rfl⟩
 ·cases h
theorem strB_is {v:Option (Option Value)}{i:Str}(h:strB v i=true):∃t,v=some (some (.str i t)):=by
 unfold strB at h
 split at h
 ·cases of_decide_eq_true h;exact ⟨_,rfl⟩
 ·cases h
theorem in26 {k:Nat}(h1:2≤k)(h2:k≤6):k∈c26:=by
 have:k=2∨k=3∨k=4∨k=5∨k=6:=o56 h1 h2
 unfold c26;simpa using this
theorem in06 {k:Nat}(h2:k≤6):k∈c06:=by
 have:k=0∨k=1∨k=2∨k=3∨k=4∨k=5∨k=6:=o57 h2
 unfold c06;simpa using this
theorem ncelB {l:List (Str×NameKind)}(h:(l.all fun x=>match x.2 with | .cell=>false | _=>true)=true):∀x∈l,x.2≠.cell:=fun x m q=>by
 have:=List.all_eq_true.mp h x m
 rw [q] at this;cases this
structure FvIs (fd:FuncData) (v:FV):Prop where
 body:fd.body=v.body
 glo:fd.globals=v.glo
 blt:fd.builtins=v.blt
 clo:fd.closure=v.clo
 kind:fd.scope.kind=v.kind
 gen:fd.scope.isGenerator=v.gen
 co:fd.scope.isCoroutine=v.co
 names:fd.scope.names=v.names
theorem fv_is {K:Frag}{a:Addr}{v:FV}(h:(K.lookup a).bind fview=some v):∃o,K.lookup a=some o∧o.data=.func (fdAt K a)∧FvIs (fdAt K a) v:=by
 cases e:K.lookup a with
 | none=>rw [e] at h;exact noS h
 | some o=>
  rw [e] at h
  have h:fview o=some v:=h
  cases hd:o.data with
  | func fd=>
   have ef:fdAt K a=fd:=by unfold fdAt fdOf;refine er e ?_;simp only [hd]
   unfold fview at h
   rw [hd] at h
   cases Option.some.inj h
   refine er ef ?_
   exact ⟨o,rfl,hd,rfl,rfl,rfl,rfl,rfl,rfl,rfl,rfl⟩
  | _=>unfold fview at h;rw [hd] at h;cases h
section
variable {K:Frag}(E:obsK K=valK)
include E
theorem allOf:(f46.all fun f=>codeIn K (fdAt K (fad f)).code (fdAt K (fad f)).qualname)=true∧(f46.all fun f=>keepIn K (.ref (fad f)))=true∧(c06.all fun k=>keepIn K (.ref (cad k)))=true∧(c26.all fun k=>hasDictIn K (cad k))=true∧(c26.all fun k=>plainOver K (cad k))=true∧
  (c26.all fun k=>makesIn K (cad k))=true∧(["NoneType", "bool", "int", "str", "list", "tuple"].all fun T=>isNotIn K T (cad 1))=true∧intB (nsIn K mainGlobals (nm 70)) 24=true∧intB (nsIn K mainGlobals (nm 117)) 19=true∧strB (nsIn K mainGlobals (nm 69)) (nm 69)=true∧
  codeB K pR.main.file (fdAt K 31).code=true∧codeIn K (fdAt K 31).code (fdAt K 31).qualname=true∧codeIn K (fdAt K 446).code (fdAt K 446).qualname=true∧keepIn K (.ref 446)=true∧codeHdIn K 445 443=true:=by
 have:=congrArg Obs.all E
 simpa only [obsK,valK,Bool.and_eq_true] using this
theorem x_fn:f46.map (fun f=>(K.lookup (fad f)).bind fview)=f46.map (fun f=>some (fnV (fnOf f))):=congrArg Obs.fn E
theorem x_gfn:topL.map (fun f=>nsIn K mainGlobals (nm (fnm f)))=topL.map (fun f=>some (some (.ref (fad f)))):=congrArg Obs.gfn E
theorem x_gcl:c06.map (fun k=>nsIn K mainGlobals (nm (cnm k)))=c06.map (fun k=>some (some (.ref (cad k)))):=congrArg Obs.gcl E
theorem x_gbl:allBi.map (fun b=>nsIn K mainGlobals (nm (bnm b)))=allBi.map (fun b=>some none):=congrArg Obs.gbl E
theorem x_met:mthL.map (fun q=>findIn K (.ref (cad q.1)) (nm q.2.1))=mthL.map (fun q=>some (some (.ref (fad q.2.2)))):=congrArg Obs.met E
theorem x_typ:f46.map (fun f=>typeIn K (.ref (fad f)))=f46.map (fun f=>some (.type "function")):=congrArg Obs.typ E
theorem x_ini:c26.map (fun k=>findIn K (.ref (cad k)) "__init__")=c26.map (fun k=>some (some (.ref (fad (inis k))))):=congrArg Obs.ini E
theorem x_ga:c26.map (fun k=>findIn K (.ref (cad k)) "__getattribute__")=c26.map (fun k=>some (some (.builtin "object.__getattribute__"))):=congrArg Obs.ga E
theorem x_gt:c26.map (fun k=>findIn K (.ref (cad k)) "__getattr__")=c26.map (fun k=>some none):=congrArg Obs.gt E
theorem x_sa:c26.map (fun k=>findIn K (.ref (cad k)) "__setattr__")=c26.map (fun k=>some (some (.builtin "object.__setattr__"))):=congrArg Obs.sa E
theorem x_att:attT.map (fun p=>findIn K (.ref (cad p.1)) (nm p.2))=attT.map (fun p=>some none):=congrArg Obs.att E
theorem x_b1 (v0:Value): [0,1,3,22,33,34,37,38,39,40].map (fun f=>bindArgs (fdAt K (fad f)) ⟨[v0],[]⟩)= [0,1,3,22,33,34,37,38,39,40].map fun f=>pure (((fnOf f).pars.map nm).zip [v0]):=congrArg (fun o=>Obs.b1 o v0) E
theorem x_b2 (v0 v1:Value): [2,4,7,9,10,14,16,20,21,24,29,35,41,43].map (fun f=>bindArgs (fdAt K (fad f)) ⟨[v0,v1],[]⟩)= [2,4,7,9,10,14,16,20,21,24,29,35,41,43].map fun f=>pure (((fnOf f).pars.map nm).zip [v0,v1]):=congrArg (fun o=>Obs.b2 o v0 v1) E
theorem x_b3 (v0 v1 v2:Value): [5,6,8,13,17,18,23,25,26,27,28,30,36,42,44,45].map (fun f=>bindArgs (fdAt K (fad f)) ⟨[v0,v1,v2],[]⟩)= [5,6,8,13,17,18,23,25,26,27,28,30,36,42,44,45].map fun f=>pure (((fnOf f).pars.map nm).zip [v0,v1,v2]):=congrArg (fun o=>Obs.b3 o v0 v1 v2) E
theorem x_b4 (v0 v1 v2 v3:Value): [11,12,15,19,32].map (fun f=>bindArgs (fdAt K (fad f)) ⟨[v0,v1,v2,v3],[]⟩)= [11,12,15,19,32].map fun f=>pure (((fnOf f).pars.map nm).zip [v0,v1,v2,v3]):=congrArg (fun o=>Obs.b4 o v0 v1 v2 v3) E
theorem x_b6 (v0 v1 v2 v3 v4 v5:Value): [31].map (fun f=>bindArgs (fdAt K (fad f)) ⟨[v0,v1,v2,v3,v4,v5],[]⟩)= [31].map fun f=>pure (((fnOf f).pars.map nm).zip [v0,v1,v2,v3,v4,v5]):=congrArg (fun o=>Obs.b6 o v0 v1 v2 v3 v4 v5) E
theorem bind_at {f:Nat}(h:f < 46){vs:List Value}(hl:vs.length=(fnOf f).pars.length):bindArgs (fdAt K (fad f)) ⟨vs,[]⟩=pure (((fnOf f).pars.map nm).zip vs):=by
 have key:(f∈([0,1,3,22,33,34,37,38,39,40]:List Nat)∧(fnOf f).pars.length=1)∨(f∈([2,4,7,9,10,14,16,20,21,24,29,35,41,43]:List Nat)∧(fnOf f).pars.length=2)∨(f∈([5,6,8,13,17,18,23,25,26,27,28,30,36,42,44,45]:List Nat)∧(fnOf f).pars.length=3)∨(f∈([11,12,15,19,32]:List Nat)∧(fnOf f).pars.length=4)∨(f∈([31]:List Nat)∧(fnOf f).pars.length=6):=by
  have q:(f46.all fun f=>([0,1,3,22,33,34,37,38,39,40].contains f && (fnOf f).pars.length == 1) || ([2,4,7,9,10,14,16,20,21,24,29,35,41,43].contains f && (fnOf f).pars.length == 2) || ([5,6,8,13,17,18,23,25,26,27,28,30,36,42,44,45].contains f && (fnOf f).pars.length == 3) || ([11,12,15,19,32].contains f && (fnOf f).pars.length == 4) || ([31].contains f && (fnOf f).pars.length == 6))=true:=by decide +kernel
  have q:=List.all_eq_true.mp q f (mem46 h)
  simpa only [Bool.or_eq_true,Bool.and_eq_true,List.contains_iff_mem,beq_iff_eq,or_assoc] using q
 rcases key with ⟨m,l⟩ | ⟨m,l⟩ | ⟨m,l⟩ | ⟨m,l⟩ | ⟨m,l⟩
 ·rw [l] at hl
  refine X21 (lenV hl) fun v0 w0 q0 k0=>?_;subst q0
  cases List.length_eq_zero_iff.mp k0
  exact at_l (x_b1 E v0) m
 ·rw [l] at hl
  refine X21 (lenV hl) fun v0 w0 q0 k0=>?_;subst q0
  refine X21 (lenV k0) fun v1 w1 q0 k1=>?_;subst q0
  cases List.length_eq_zero_iff.mp k1
  exact at_l (x_b2 E v0 v1) m
 ·rw [l] at hl
  refine X21 (lenV hl) fun v0 w0 q0 k0=>?_;subst q0
  refine X21 (lenV k0) fun v1 w1 q0 k1=>?_;subst q0
  refine X21 (lenV k1) fun v2 w2 q0 k2=>?_;subst q0
  cases List.length_eq_zero_iff.mp k2
  exact at_l (x_b3 E v0 v1 v2) m
 ·rw [l] at hl
  refine X21 (lenV hl) fun v0 w0 q0 k0=>?_;subst q0
  refine X21 (lenV k0) fun v1 w1 q0 k1=>?_;subst q0
  refine X21 (lenV k1) fun v2 w2 q0 k2=>?_;subst q0
  refine X21 (lenV k2) fun v3 w3 q0 k3=>?_;subst q0
  cases List.length_eq_zero_iff.mp k3
  exact at_l (x_b4 E v0 v1 v2 v3) m
 ·rw [l] at hl
  refine X21 (lenV hl) fun v0 w0 q0 k0=>?_;subst q0
  refine X21 (lenV k0) fun v1 w1 q0 k1=>?_;subst q0
  refine X21 (lenV k1) fun v2 w2 q0 k2=>?_;subst q0
  refine X21 (lenV k2) fun v3 w3 q0 k3=>?_;subst q0
  refine X21 (lenV k3) fun v4 w4 q0 k4=>?_;subst q0
  refine X21 (lenV k4) fun v5 w5 q0 k5=>?_;subst q0
  cases List.length_eq_zero_iff.mp k5
  exact at_l (x_b6 E v0 v1 v2 v3 v4 v5) m
theorem good_fn (f:Nat)(fn:Fn)(h:fns f=some fn)(h1:fn.own= [])(h2:fn.fre= []):∃o fd,K.lookup (fad f)=some o∧o.data=.func fd∧FdOk fd fn∧codeIn K fd.code fd.qualname=true∧fd.closure= []:=by
 have lt:=fn_nil h h1 h2
 have e:=fnOf_eq h
 have hv:(K.lookup (fad f)).bind fview=some (fnV (fnOf f)):=at_l (x_fn E) (mem46 lt)
 refine X12 (fv_is hv) fun o ho hd' F=>?_
 have kd:=List.all_eq_true.mp fn_kd f (mem46 lt)
 simp only [Bool.and_eq_true,decide_eq_true_eq] at kd
 refine X01 kd fun q0 k3=>?_;obtain ⟨k1,k2⟩:=q0
 have cd:=List.all_eq_true.mp (allOf E).1 f (mem46 lt)
 rw [e] at k1 k2 k3 F
 refine (I24 o _ ho hd' ⟨F.body,F.glo,F.blt,F.kind,F.gen,F.co,fun x m=>?_,fun n k q=>?_,fun p m=>isL_kind (List.all_eq_true.mp k2 p m),k3,fun vs l=>?_⟩ cd F.clo)
 ·rw [F.names] at m
  refine X11 (List.mem_map.mp m) fun p mp q0=>?_;subst q0
  have:=List.all_eq_true.mp k1 p mp
  intro q
  rw [show p.2=NameKind.cell from q] at this
  cases this
 ·refine er F.names ?_
  exact (lkK_map _ _).trans q
 ·refine re e ?_
  exact bind_at E lt (e.symm▸l)
theorem good:Good K where
 kf:=⟨fun C h1 h2=>by
   have m:=in26 h1 h2
   refine X05 (allOf E) fun _ _ _ q1 q2 _=>?_
   exact (I04 (at_l (x_ga E) m) (at_l (x_gt E) m) (List.all_eq_true.mp q1 C m) (at_l (x_sa E) m) (List.all_eq_true.mp q2 C m)),
  fun p m=>at_l (x_att E) m,fun C h1 h2=>List.all_eq_true.mp (allOf E).2.2.2.2.2.1 C (in26 h1 h2),
  fun T m=>List.all_eq_true.mp (allOf E).2.2.2.2.2.2.1 T m⟩
 fn:=good_fn E
 gfn:=fun f m=>at_l (x_gfn E) m
 gcl:=fun k h=>at_l (x_gcl E) (in06 h)
 gvl:=fun x a h=>by
  refine X06 (allOf E) fun _ _ _ _ _ _ q0=>?_;refine X04 q0 fun _ q1 q2 q3 _=>?_
  unfold gls at h
  split at h
  ·cases Option.some.inj h
   refine X1 (intB_is q1) fun t e=>?_
   exact (I11 _ e (fun _ _ _ _=>.int))
  ·cases Option.some.inj h
   refine X1 (intB_is q2) fun t e=>?_
   exact (I11 _ e (fun _ _ _ _=>.int))
  ·cases Option.some.inj h
   refine X1 (strB_is q3) fun t e=>?_
   exact (I11 _ e (fun _ _ _ _=>.lit))
  ·cases h
 gbl:=fun b=>at_l (x_gbl E) (by cases b <;> simp [allBi])
 met:=fun k m f h=>by
  have mm:=mth_mem h
  have q:=List.all_eq_true.mp mth_ok _ mm
  simp only [Bool.and_eq_true] at q
  have lt:=mem46 (Nat.le_of_ble_eq_true q.2.2.2)
  exact (I05 q.1 (Nat.le_of_ble_eq_true q.2.1) (Nat.le_of_ble_eq_true q.2.2.1) (at_l (x_met E) mm) (at_l (x_typ E) lt) (List.all_eq_true.mp (allOf E).2.1 f lt))
 ini:=fun k h1 h2=>by
  have m:=in26 h1 h2
  have q:=List.all_eq_true.mp g_inf k m
  simp only [Bool.and_eq_true] at q
  exact (I02 q.1 (at_l (x_ini E) m) (at_l (x_typ E) (mem46 (Nat.le_of_ble_eq_true q.2))))
 kfn:=fun f m=>List.all_eq_true.mp (allOf E).2.1 f (mem46 (Nat.le_of_ble_eq_true (List.all_eq_true.mp top_lt f m)))
 kcl:=fun k h=>List.all_eq_true.mp (allOf E).2.2.1 k (in06 h)
theorem excAt:findIn K (.ref 34) "__setattr__" =some (some (.builtin "object.__setattr__"))∧findIn K (.ref 34) "__getattribute__" =some (some (.builtin "BaseException.__getattribute__"))∧findIn K (.ref 34) "__getattr__" =some none∧findIn K (.ref 34) (nm 2)=some none∧findIn K (.ref 34) (nm 3)=some none∧
  nsIn K cStatics "thirdparty.any" =some none∧nsIn K mainGlobals (nm 6)=some none:=by
 have:=congrArg Obs.exc E
 simpa only [obsK,valK,List.cons.injEq,and_true] using this
theorem cls34:∃nm q bs sn sub ab col dd k0 k1 k2 k3 k5,K.lookup 34=some (excClassObj nm q 34 33 bs bmE true sn sub ab col dd k0 k1 k2 k3 k5 "Exception.__new__"):=by
 have h:(K.lookup 34).bind cview=some ⟨.type "type",.ref 34 :: bmE,33,true,false,6,some (some (.builtin "Exception.__new__"))⟩:=congrArg Obs.cls E
 refine X11 (Option.bind_eq_some_iff.mp h) fun o e h=>?_
 suffices H:∀G:Prop,(∀nm q bs sn sub ab col dd k0 k1 k2 k3 k5,o=excClassObj nm q 34 33 bs bmE true sn sub ab col dd k0 k1 k2 k3 k5 "Exception.__new__"→G)→G from
  H _ fun nm q bs sn sub ab col dd k0 k1 k2 k3 k5 z=>⟨nm,q,bs,sn,sub,ab,col,dd,k0,k1,k2,k3,k5,z▸e⟩
 intro G k
 obtain ⟨cl,dd,data,sl⟩:=o
 cases data with
 | cls c=>
  obtain ⟨c1,c2,c3,c4,c5,c6,c7,c8,c9,c10,c11⟩:=c
  have h:=Option.some.inj h
  cases (show cl=_ from congrArg CV.cls h)
  cases (show c3=_ from congrArg CV.mro h)
  cases (show c4=_ from congrArg CV.ns h)
  cases (show c6=_ from congrArg CV.hasDict h)
  cases (show c11=_ from congrArg CV.hasDel h)
  obtain ⟨l⟩:=sl
  have h7:(⟨l⟩:Array (Option Value))[4]? =some (some (Value.builtin "Exception.__new__")):=congrArg CV.new h
  have hl:l.length=6:=congrArg CV.size h
  clear h
  revert k h7
  refine lenI hl ?_;intro k0 k1 k2 k3 k4 k5 k h7
  cases (show some k4=some (some (Value.builtin "Exception.__new__")) from h7)
  exact k _ _ _ _ _ _ _ _ _ _ _ _ _ rfl
 | _=>exact noS h
theorem ns33:∃o es ep,K.lookup 33=some o∧o.data=.dict es ep∧StrKeys es∧nsFind es "__init__" =some (.ref 31):=by
 have h:(K.lookup 33).map (fun o=>(nsB o,nsV o))=some (true,some (.ref 31)):=congrArg Obs.ns E
 refine X11 (Option.map_eq_some_iff.mp h) fun o e h=>?_
 refine X01 (Prod.mk.inj h) fun h1 h2=>?_
 cases hd:o.data with
 | dict es ep=>
  unfold nsB at h1
  unfold nsV at h2
  rw [hd] at h1 h2
  refine (I33 o es ep e hd (fun x m=>?_) h2)
  have q:=List.all_eq_true.mp h1 x (Array.mem_toList_iff.mpr m)
  split at q
  ·exact (I2 _ _ (by assumption))
  ·cases q
 | _=>unfold nsB at h1;rw [hd] at h1;cases h1
theorem excK {prog:Program}:ExcK prog K:=by
 refine X06 (excAt E) fun e1 e2 e3 e4 e5 e6 e7=>?_
 exact ⟨cls34 E,ns33 E,e1,e2,e3,e4,e5,e6⟩
theorem code31:∃cd c d vs sl file tf,(fdAt K 31).code=.ref cd∧K.lookup cd=some ⟨c,d,.fields vs,sl⟩∧vs[2]? =some (.str file tf)∧((pR.main.file:Str) == file)=true:=by
 have h:=(allOf E).2.2.2.2.2.2.2.2.2.2.1
 unfold codeB at h
 split at h
 ·rename_i cd hc
  split at h
  ·rename_i o ho
   obtain ⟨c,d,data,sl⟩:=o
   split at h
   ·rename_i vs hd
    dsimp only at hd
    subst hd
    split at h
    ·rename_i f tf hf
     exact ⟨cd,c,d,vs,sl,f,tf,hc,ho,hf,h⟩
    ·cases h
   ·cases h
  ·cases h
 ·cases h
theorem initFd:InitFd pR K (fdAt K 31):=by
 have hv:(K.lookup 31).bind fview=some ⟨.stmts (initBody initP),mainGlobals,builtinsNs,[(nm 5,18)],.function,false,false,names31⟩:=congrArg Obs.fv31 E
 refine X12 (fv_is hv) fun o ho hd' F=>?_
 have h3:(K.lookup 31).map (fun o=>(o.cls,o.dict,o.slots))=some (.type "function",none,#[]):=congrArg Obs.fd31 E
 rw [ho] at h3
 obtain ⟨c,d,data,sl⟩:=o
 have hn:=F.names
 have lk:∀{n:Nat} {k:NameKind},names31.lookup (nm n)=some k→(fdAt K 31).scope.names.lookup (nm n)=some k:=fun q=>hn.symm▸q
 have hp:((fdAt K 31).params.posonlyargs ++ (fdAt K 31).params.args).head?.map (·.arg)=some (nm 1):=congrArg Obs.par31 E
 refine X11 (Option.map_eq_some_iff.mp hp) fun ar p1 p2=>?_
 have hb:=congrArg Obs.bd31 E
 refine ⟨?_,(I11 initP rfl F.body),(I11 ar p1 p2),code31 E,(allOf E).2.2.2.2.2.2.2.2.2.2.2.1,F.glo,F.blt,F.kind,F.gen,F.co,?_,lk (by kernel_rfl),lk (by kernel_rfl),lk (by kernel_rfl),lk (by kernel_rfl),lk (by kernel_rfl),?_,
  ⟨.str "" 201,fun a b s X=>kp_binds X fun S=>(Prod.mk.inj (congrFun (congrFun (congrFun (congrFun hb S) a) b) .none)).1⟩,fun a b t s X=>kp_binds X fun S=>(Prod.mk.inj (congrFun (congrFun (congrFun (congrFun hb S) a) b) t)).2⟩
 ·dsimp only at hd'
  subst hd'
  simp only [Option.map_some,Option.some.injEq,Prod.mk.injEq] at h3
  obtain ⟨rfl,rfl,rfl⟩:=h3
  exact ho
 ·refine er hn ?_
  exact ncelB (by decide +kernel)
 ·refine er F.clo ?_;exact rfl
theorem initK:InitK pR K:=by
 have hc:(K.lookup 18).map (·.data)=some (.cell (some (.ref 34))):=congrArg Obs.cell E
 refine X11 (Option.map_eq_some_iff.mp hc) fun o ho hd'=>?_
 obtain ⟨c,d,data,sl⟩:=o
 dsimp only at hd'
 subst hd'
 exact ⟨excK E,⟨_,initFd E⟩,⟨c,d,sl,ho⟩,(excAt E).2.2.2.2.2.2,by kernel_rfl⟩
end
end
section
set_option maxRecDepth 100000
theorem d48_bind (qual:Str)(clos:List (Str×Addr))(doc pm ctv c a b:Value):bindArgs (fnX (nm 192) qual (defPar dS) (stmtsOf dS) (defScope dS) clos .none .none doc pm none c ctv) ⟨[a,b],[]⟩=pure (([29,30].map nm).zip [a,b]):=by kernel_rfl
theorem d48:Def48 (defPar dS) (stmtsOf dS) (defScope dS) where
 d0:=by kernel_rfl
 k0:=by kernel_rfl
 ann:=fun env=>by kernel_rfl
 names:=by kernel_rfl
 fd:=fun qual clos doc pm ctv c=>by
  have hn:(defScope dS).names=names k48:=by kernel_rfl
  have hb:stmtsOf dS=decSs b48:=by kernel_rfl
  refine ⟨?_,rfl,rfl,by kernel_rfl,by kernel_rfl,by kernel_rfl,?_,?_,by decide,by decide,?_⟩
  ·show FuncBody.stmts (stmtsOf dS)=_
   exact er hb rfl
  ·show ∀x∈(defScope dS).names,_
   refine er hn ?_
   exact ncelB (by decide +kernel)
  ·intro n k e
   refine er hn ?_
   exact (lkK_map _ _).trans e
  ·intro vs hl
   refine X21 (lenV (n:=1) hl) fun v0 w0 q0 k0=>?_;subst q0
   refine X21 (lenV (n:=0) k0) fun v1 w1 q0 k1=>?_;subst q0
   cases List.length_eq_zero_iff.mp k1
   exact d48_bind qual clos doc pm ctv c v0 v1
section
variable {K:Frag}(E:obsK K=valK)
include E
theorem fv46:∃o,K.lookup 446=some o∧o.data=.func (fdAt K 446)∧FvIs (fdAt K 446) ⟨.stmts (body46 (defPar dS) (stmtsOf dS) (defScope dS) (defPos dS)),mainGlobals,builtinsNs,[],.function,false,false,names k46⟩:=fv_is (congrArg Obs.fv46 E)
theorem run46:Run46 K q48 (fdAt K 446) (defPar dS) (stmtsOf dS) (defScope dS) (defPos dS):=by
 refine X12 (fv46 E) fun o ho hd' F=>?_
 have hq:((fdAt K 446).qualname,(fdAt K 446).code,nsIn K mainGlobals (nm 189))=(nm 189,.ref 445,some (some (.ref 446))):=congrArg Obs.nam46 E
 refine X01 (Prod.mk.inj hq) fun q1 q2=>?_
 refine X01 (Prod.mk.inj q2) fun q2 q3=>?_
 refine ⟨(I11 o ho hd'),(allOf E).2.2.2.2.2.2.2.2.2.2.2.2.1,⟨F.body,F.glo,F.blt,F.kind,F.gen,F.co,F.names,fun vs hl=>?_,F.clo⟩,d48,by kernel_rfl,by kernel_rfl,q3,(allOf E).2.2.2.2.2.2.2.2.2.2.2.2.2.1,fun L fa=>?_⟩
 ·refine X21 (lenV (n:=3) hl) fun v0 w0 q0 k0=>?_;subst q0
  refine X21 (lenV (n:=2) k0) fun v1 w1 q0 k1=>?_;subst q0
  refine X21 (lenV (n:=1) k1) fun v2 w2 q0 k2=>?_;subst q0
  refine X21 (lenV (n:=0) k2) fun v3 w3 q0 k3=>?_;subst q0
  cases List.length_eq_zero_iff.mp k3
  exact congrFun (congrFun (congrFun (congrFun (congrArg Obs.bd46 E) v0) v1) v2) v3
 ·have e1:(callEnvC (fdAt K 446) L fa).kindOf (nm 192)=some .local:=by
   show (fdAt K 446).scope.names.lookup (nm 192)=_
   refine er F.names ?_
   exact lkK_map _ _
  unfold qualnameIn
  refine er e1 ?_
  show ((fdAt K 446).qualname ++ ".<locals>.") ++ nm 192=q48
  refine er q1 ?_;rfl
theorem code46:(fdAt K 446).code=.ref 445:=by
 have hq:((fdAt K 446).qualname,(fdAt K 446).code,nsIn K mainGlobals (nm 189))=(nm 189,.ref 445,some (some (.ref 446))):=congrArg Obs.nam46 E
 exact (Prod.mk.inj (Prod.mk.inj hq).2).1
end
structure YPR (w:World) (h:Heap):Prop where
 ex:∃K:Frag,K.In h∧obsK K=valK∧K.lookup 443=none
 tab:h.get? 443=some (tabObj #[])
theorem YPR.of (w:World)(s:Shared)(e:YfR s=YaR w):YPR w s.heap:=by
 refine X01 (Prod.mk.inj e) fun e1 e2=>?_
 refine ⟨(I12 (fragK s.heap) (fun a o q=>(fragK_get q).1) e1 ?_),e2⟩
 cases q:(fragK s.heap).lookup 443 with
 | none=>rfl
 | some o=>exact absurd rfl (fragK_get q).2
theorem YPR.keeps (w:World)(h h':Heap)(y:YPR w h)(k:∀b o,h.get? b=some o→h'.get? b=some o):YPR w h':=
 ⟨let ⟨K,a,b,c⟩:=y.ex;(I12 K (Frag.In.keeps a k) b c),k _ _ y.tab⟩
theorem YPR.tabs {w:World}{h:Heap}(y:YPR w h):TabsAt [(445,443)] h:=fun q m=>by
 refine er (List.mem_singleton.mp m) ?_
 refine X12 y.ex fun K a b _=>?_
 exact ⟨codeHd_of_K a (allOf b).2.2.2.2.2.2.2.2.2.2.2.2.2.2,y.tab⟩
noncomputable def dR:DefRec:=((defOf qR (Str.ofString "law")).map (·.1)).getD ⟨nm 0,default,[],default,⟨0,0,0,0⟩⟩
theorem dR_names:dR.scope.names=names k47:=by kernel_rfl
theorem dR_body:dR.body=decSs b47:=by kernel_rfl
theorem dR_bind (pm cd doc v:Value):bindArgs (docDef dR.name dR.params dR.body dR.scope pm cd doc) ⟨[v],[]⟩=pure [(nm 203,v)]:=by kernel_rfl
theorem dR_dflt:dR.params.defaults= []:=by kernel_rfl
theorem dR_kind:dR.scope.kind=.function:=by kernel_rfl
theorem dR_gen:dR.scope.isGenerator=false:=by kernel_rfl
theorem dR_co:dR.scope.isCoroutine=false:=by kernel_rfl
theorem dR_cell (L:Nat):cellsFrom (L + 1) dR.scope.names []= [(nm 78,L + 1)]:=by kernel_rfl
theorem list_exact {Pm:Params}{h Gh:Heap}{p:Addr}{vs:List Value}{ns:List Int}(wl:Well Pm h (.ref p) (ofPy (.list (ns.map .int))))(li:Gh.IsList p vs.toArray)(sub:Sub Gh h):Gh.get? p=some {cls:=.type "list",data:=.seq vs.toArray 0}:=by
 have e:ofPy (.list (ns.map .int))=.list (ofPys (ns.map .int)):=rfl
 rw [e] at wl
 refine X121 li fun o ho hc n hd=>?_
 cases wl with
 | list h1 h2=>
  rw [sub _ _ ho] at h1
  cases Option.some.inj h1
  dsimp only at hd
  injection hd with h3 h4
  exact er ho (er h3 rfl)
theorem not_mods {h:Heap}{p:Addr}{d:List PyData}{as:List Addr}(r:Reads h (.ref p) (.list d) as)(lo:∀a∈as,(a == sysModules)=false):(p == sysModules)=false:=by
 cases r with
 | list=>exact lo _ (.head _)
theorem law_enter {w:World}{s:Shared}(y:YPR w s.heap){p:Program}{loose:List Str}{mean:ExcName→Option Value}{mg mb:Str→Option Value}(T:Top p loose mean mg mb s.heap){a:Addr}{o:Obj}{pm cd doc:Value}
  (ho:s.heap.get? a=some o) (hd:o.data=.func (docDef dR.name dR.params dR.body dR.scope pm cd doc)) (hcd:s.heap.CodeRec cd dR.name) {p3:Addr} {vs:List Value} {ns:List Int} (wl:Well w.params s.heap (.ref p3) (ofPy (.list (ns.map .int)))) (li:s.heap.IsList p3 vs.toArray) (hi:IntsAre vs ns) (hps:(p3 == sysModules)=false)
  (len:ns.length≤63) {R:Result→Shared→Prop} (hR:∀h' tk',(∀b o,(ghostOf s.heap [(445,443)]).get? b=some o→h'.get? b=some o)→(∃ps,h'.get? 443=some (tabObj ps))→R (.ok (.ret (.bool true))) ⟨h',s.gens,s.drawn,tk',s.os⟩) :
  codeAny (model pR w) callerA (.call (.ref a) ⟨[.ref p3],[]⟩) R s:=by
 refine X12 y.ex fun K kin E k443=>?_
 have hT:=y.tabs
 have TG:=ghost_top hT T
 have sub:Sub (ghostOf s.heap [(445,443)]) s.heap:=fun a o e=>of_hideAll _ e
 have kof:∀k,(callEnvC (docDef dR.name dR.params dR.body dR.scope pm cd doc) s.heap.objs.size a).kindOf (nm k)=lkK k k47:=fun k=>by
  show dR.scope.names.lookup (nm k)=_
  refine er dR_names ?_;exact lkK_map _ _
 have cells:(callEnvC (docDef dR.name dR.params dR.body dR.scope pm cd doc) s.heap.objs.size a).cells= [(nm 78,s.heap.objs.size + 1)]:=dR_cell _
 refine codeAny_call_cells (binds:=[(nm 203,.ref p3)]) (by decide) ho hd T.nolimit hcd rfl (dR_bind _ _ _ _) rfl ?_ (fun s₁ I=>?_) dR_co dR_gen dR_kind
 ·intro x hx
  refine er (List.mem_singleton.mp hx) ?_
  refine .inl ?_
  show dR.scope.names.lookup (nm 203)=_
  refine er dR_names ?_
  exact lkK_map k47 203
 ·refine X2 I.toInCall.same fun h₁ tk q0=>?_;subst q0
  have hns:=I.toInCall.ns
  have hkeep:=I.toInCall.keep
  have hcell:=I.cell
  rw [cells] at hcell
  refine X11 (show h₁.IsCell (s.heap.objs.size + 1) none from by
   have:=hcell (nm 78) (s.heap.objs.size + 1) (by simp)
   have e2:bindC (callEnvC (docDef dR.name dR.params dR.body dR.scope pm cd doc) s.heap.objs.size a).kindOf [(nm 203,.ref p3)] (fun _=>none) (nm 78)=none:=by
    have k2:lkK 203 k47=some .local:=by decide
    simp only [bindC,kof,if_pos k2]
   rw [e2] at this
   exact this) fun oc o1 o2=>?_
  have l0:443 < s.heap.objs.size:=Heap.lt_size y.tab
  have F:Fr (ghostOf s.heap [(445,443)]) s.heap.objs.size h₁ _:=⟨hns,fun b o e=>hkeep b o (sub _ _ e),Nat.le_of_eq (hideAll_size _ _)⟩
  have N:News (ghostOf s.heap [(445,443)]) s.heap.objs.size h₁ [(s.heap.objs.size + 1,oc),(443,tabObj #[])]:=fun q m=>by
   rcases List.mem_cons.mp m with rfl | m
   ·refine (I02 o1 (Nat.succ_ne_self _) ?_)
    cases e:(ghostOf s.heap [(445,443)]).get? (s.heap.objs.size + 1) with
    | none=>rfl
    | some o=>exact absurd (Heap.lt_size (sub _ _ e)) (Nat.not_lt.mpr (Nat.le_succ _))
   ·refine er (List.mem_singleton.mp m) ?_
    exact (I02 (hkeep _ _ y.tab) (Nat.ne_of_lt l0) (hideAll_none _ (by simp)))
  have kinG:K.In (ghostOf s.heap [(445,443)]):=fun b o e=>ghost_ne (kin b o e) (fun q=>by
   have:b=443:=by simpa using q
   rw [this,k443] at e;cases e)
  have liG:=ghost_list hT li
  show wpAny (model pR w) (callerA.deeper (callEnvC (docDef dR.name dR.params dR.body dR.scope pm cd doc) s.heap.objs.size a)) (execs dR.body (callEnvC (docDef dR.name dR.params dR.body dR.scope pm cd doc) s.heap.objs.size a)) _ _ _
  refine er dR_body ?_
  refine law_final (good E) (initK E) (run46 E) F N l0 rfl (fun n k e=>(kof n).trans e) (by refine er cells ?_;simp) kinG TG.nolimit TG.g TG.b TG.builtins ?_ (list_exact wl liG sub) hps hi o2 dR_kind rfl rfl rfl (code46 E) (ghost_code hT).1 TG.bmain len hR
  have k2:lkK 203 k47=some .local:=by decide
  simp only [bindL,kof,if_pos k2]
  simp
end
section
set_option maxRecDepth 100000
set_option maxHeartbeats 4000000
theorem r_said:PySem.Challenge.rw_sa0600_01.wellSaid=true:=by
 unfold OpenLaw.wellSaid OpenRow.wellSaid OpenRow.partSaid looksOpen
 repeat' with_reducible refine look_both ?_ ?_
 all_goals decide +kernel
theorem r_def:defOf qR PySem.Challenge.rw_sa0600_01.row.name=some (dR,[]):=by kernel_rfl
theorem r_the:PySem.Challenge.rw_sa0600_01.row.prog.theDef PySem.Challenge.rw_sa0600_01.row.name=some (dR.params,dR.body,dR.scope):=by kernel_rfl
theorem r_kw:kwWritten? dR.params.kwonlyargs dR.params.kw_defaults=some []:=by kernel_rfl
theorem r_ok:(chainsOk qR && opensWell PySem.Challenge.rw_sa0600_01.row.prog && (frees PySem.Challenge.rw_sa0600_01.row.toRowW && PySem.Challenge.rw_sa0600_01.row.within.isEmpty))=true:=by kernel_rfl
theorem r_bare:PySem.Challenge.rw_sa0600_01.row.prog.bare:=(I05 rfl rfl rfl rfl rfl (by decide +kernel))
theorem r_prom:PySem.Challenge.rw_sa0600_01.row.toRowW.promised:=(I11 ([.list []]) (by decide +kernel) (by decide +kernel))
end
end
end Mine
open PySem PySem.W PyProof.Rows
set_option maxRecDepth 100000 in
set_option maxHeartbeats 8000000 in
set_option pp.deepTerms false in
theorem PySem.Challenge.cw_sa0600_01_holds : PySem.Challenge.rw_sa0600_01.Holds := by
 refine holds_law Mine.r_said fun said=>?_
 refine holds_open (q:=Mine.qR) (loose:=Mine.looseR) (Xt:=Mine.XtR) (XP:=XL Mine.qR []) (Yf:=Mine.YfR) (Ya:=Mine.YaR) (YP:=Mine.YPR) (d:=Mine.dR) (kwd:=[]) (N:=6164) Mine.left Mine.YPR.of Mine.YPR.keeps (fun s e=>xl_of s (Bool.and_eq_true_iff.mp e).1) XL.keeps
  Mine.r_def Mine.r_the Mine.r_kw (fun s e=>recFacts_of (Bool.and_eq_true_iff.mp e).2) rfl said Mine.r_ok Mine.r_bare Mine.r_prom ?_
 intro w s₀ s₁ mg mb G Y a o pm cd doc dV kV ho hd1 hcd hD hmg hg args vals as hpre hlay hrd hwl hlo
 refine Ground.open G ?_
 intro T B D TE TW
 have hloX:=hlo
 wrow_args hpre hlay hrd hwl hlo
 first | refine callC_kw (enter_call ?_) | refine enter_call ?_
 refine kn_post (tabs:=[(445,443)]) Y.tabs (fun _ _=>rfl) ?_
 rename_i ns hsS hlay0 hL1 hr1 hl2 w4 w3 p3 vs w1 hL ra wl r0 hI hrR hc1 hc2
 have eV:dV=.none:=by
  rcases hD.pos with ⟨_,e⟩ | ⟨e,_⟩
  ·exact e
  ·exact absurd Mine.dR_dflt e
 have eK:kV=.none:=by
  rcases hD.kw with ⟨_,e⟩ | ⟨e,_⟩
  ·exact e
  ·exact absurd rfl e
 subst eV eK
 refine Mine.law_enter Y T ho hd1 hcd wl hL hI (Mine.not_mods r0 fun a m=>hloX a (List.mem_append_left _ m)) (by omega) (fun h' tk' keep grown=>?_)
 exact ⟨⟨.inl ⟨.bool true,.bool true,[],rfl,fun cls=>rfl,.bool _,by first | rfl | kernel_rfl,fun _=>⟨.nil,fun a m=>nomatch m⟩⟩,keep,rfl,hg⟩,grown,trivial⟩
