import PyProof.Rows.All
import Wide.All
import OpenK.AllK
import Wide.FinOn
import PyProof.AttrMissSeq
import Lean
import PySem.Challenge.RW_nn0050_01
set_option linter.unusedVariables false
set_option maxRecDepth 100000
set_option Elab.async false
set_option tactic.hygienic false
set_option genInjectivity false
set_option genSizeOf false
set_option genSizeOfSpec false
namespace Mine
open PySem PySem.W PySem.Calls PyProof.Rows PySem.SeqAt
section variable {a b n:Nat} {a0 a1 a2 a3 a4 a5:Prop} {A:PySem.Around} {M:PySem.Model} {s:PySem.Shared}
universe u1 u2 u3 u4
section
variable {A B C D E F:Prop} {G:Prop}
theorem oA(h:A∧B)(k:A→B→G):G:=k h.1 h.2
theorem oAA(h:A∧B∧C)(k:A→B→C→G):G:=k h.1 h.2.1 h.2.2
theorem yR(h:A∧B∧C∧D)(k:A→B→C→D→G):G:=k h.1 h.2.1 h.2.2.1 h.2.2.2
theorem AI(h:A∧B∧C∧D∧E)(k:A→B→C→D→E→G):G:=k h.1 h.2.1 h.2.2.1 h.2.2.2.1 h.2.2.2.2
theorem TJ(h:A∧B∧C∧D∧E∧F)(k:A→B→C→D→E→F→G):G:=k h.1 h.2.1 h.2.2.1 h.2.2.2.1 h.2.2.2.2.1 h.2.2.2.2.2
theorem qA(k:A→B→G):(A∧B)→G:=λh=>k h.1 h.2
theorem qAA(k:A→B→C→G):(A∧B∧C)→G:=λh=>k h.1 h.2.1 h.2.2
theorem j4(k:A→B→C→D→G):(A∧B∧C∧D)→G:=λh=>k h.1 h.2.1 h.2.2.1 h.2.2.2
theorem iP(k:A→B→C→D→E→G):(A∧B∧C∧D∧E)→G:=λh=>k h.1 h.2.1 h.2.2.1 h.2.2.2.1 h.2.2.2.2
theorem iAA(h0:A)(h1:B)(h2:C):A∧B∧C:=⟨h0,h1,h2⟩
theorem cJ(h0:A)(h1:B)(h2:C)(h3:D):A∧B∧C∧D:=⟨h0,h1,h2,h3⟩
theorem dZ(h0:A)(h1:B)(h2:C)(h3:D)(h4:E):A∧B∧C∧D∧E:=⟨h0,h1,h2,h3,h4⟩
end
section
variable {α:Sort _} {A B C D E F:α→Prop} {G:Prop}
theorem oE(h:∃x,A x)(k:∀x,A x→G):G:=h.elim λx h=>k x h
theorem oEA(h:∃x,A x∧B x)(k:∀x,A x→B x→G):G:=h.elim λx h=>k x h.1 h.2
theorem eV(h:∃x,A x∧B x∧C x)(k:∀x,A x→B x→C x→G):G:=h.elim λx h=>k x h.1 h.2.1 h.2.2
theorem NX(h:∃x,A x∧B x∧C x∧D x)(k:∀x,A x→B x→C x→D x→G):G:=h.elim λx h=>k x h.1 h.2.1 h.2.2.1 h.2.2.2
theorem TI(h:∃x,A x∧B x∧C x∧D x∧E x)(k:∀x,A x→B x→C x→D x→E x→G):G:=h.elim λx h=>k x h.1 h.2.1 h.2.2.1 h.2.2.2.1 h.2.2.2.2
theorem qE(k:∀x,A x→G):(∃x,A x)→G:=λh=>h.elim λx h=>k x h
theorem qEA(k:∀x,A x→B x→G):(∃x,A x∧B x)→G:=λh=>h.elim λx h=>k x h.1 h.2
theorem dD(k:∀x,A x→B x→C x→D x→E x→F x→G):(∃x,A x∧B x∧C x∧D x∧E x∧F x)→G:=λh=>h.elim λx h=>k x h.1 h.2.1 h.2.2.1 h.2.2.2.1 h.2.2.2.2.1 h.2.2.2.2.2
theorem iEA(x:α)(h0:A x)(h1:B x):∃x,A x∧B x:=⟨x,h0,h1⟩
theorem cM(x:α)(h0:A x)(h1:B x)(h2:C x):∃x,A x∧B x∧C x:=⟨x,h0,h1,h2⟩
theorem kK(x:α)(h0:A x)(h1:B x)(h2:C x)(h3:D x):∃x,A x∧B x∧C x∧D x:=⟨x,h0,h1,h2,h3⟩
theorem lU(x:α)(h0:A x)(h1:B x)(h2:C x)(h3:D x)(h4:E x):∃x,A x∧B x∧C x∧D x∧E x:=⟨x,h0,h1,h2,h3,h4⟩
end
section
variable {α:Sort _} {β:Sort _} {A B C D E F:α→β→Prop} {G:Prop}
theorem oEE(h:∃x y,A x y)(k:∀x y,A x y→G):G:=h.elim λx h=>h.elim λy h=>k x y h
theorem cX(h:∃x y,A x y∧B x y)(k:∀x y,A x y→B x y→G):G:=h.elim λx h=>h.elim λy h=>k x y h.1 h.2
theorem dX(h:∃x y,A x y∧B x y∧C x y)(k:∀x y,A x y→B x y→C x y→G):G:=h.elim λx h=>h.elim λy h=>k x y h.1 h.2.1 h.2.2
theorem t9(h:∃x y,A x y∧B x y∧C x y∧D x y)(k:∀x y,A x y→B x y→C x y→D x y→G):G:=h.elim λx h=>h.elim λy h=>k x y h.1 h.2.1 h.2.2.1 h.2.2.2
theorem fO(h:∃x y,A x y∧B x y∧C x y∧D x y∧E x y)(k:∀x y,A x y→B x y→C x y→D x y→E x y→G):G:=h.elim λx h=>h.elim λy h=>k x y h.1 h.2.1 h.2.2.1 h.2.2.2.1 h.2.2.2.2
theorem iEE(x:α)(y:β)(h0:A x y):∃x y,A x y:=⟨x,y,h0⟩
theorem dS(x:α)(y:β)(h0:A x y)(h1:B x y):∃x y,A x y∧B x y:=⟨x,y,h0,h1⟩
theorem eW(x:α)(y:β)(h0:A x y)(h1:B x y)(h2:C x y):∃x y,A x y∧B x y∧C x y:=⟨x,y,h0,h1,h2⟩
theorem uL(x:α)(y:β)(h0:A x y)(h1:B x y)(h2:C x y)(h3:D x y):∃x y,A x y∧B x y∧C x y∧D x y:=⟨x,y,h0,h1,h2,h3⟩
theorem eI(x:α)(y:β)(h0:A x y)(h1:B x y)(h2:C x y)(h3:D x y)(h4:E x y):∃x y,A x y∧B x y∧C x y∧D x y∧E x y:=⟨x,y,h0,h1,h2,h3,h4⟩
theorem wJ(k:∀x y,A x y→B x y→C x y→D x y→E x y→F x y→G):(∃x y,A x y∧B x y∧C x y∧D x y∧E x y∧F x y)→G:=λh=>h.elim λx h=>h.elim λy h=>k x y h.1 h.2.1 h.2.2.1 h.2.2.2.1 h.2.2.2.2.1 h.2.2.2.2.2
end
section
variable {α:Sort _} {β:Sort _} {γ:Sort _} {A B C D E F:α→β→γ→Prop} {G:Prop}
theorem kA(h:∃x y z,A x y z∧B x y z)(k:∀x y z,A x y z→B x y z→G):G:=h.elim λx h=>h.elim λy h=>h.elim λz h=>k x y z h.1 h.2
theorem cQ(h:∃x y z,A x y z∧B x y z∧C x y z)(k:∀x y z,A x y z→B x y z→C x y z→G):G:=h.elim λx h=>h.elim λy h=>h.elim λz h=>k x y z h.1 h.2.1 h.2.2
theorem kZ(h:∃x y z,A x y z∧B x y z∧C x y z∧D x y z)(k:∀x y z,A x y z→B x y z→C x y z→D x y z→G):G:=h.elim λx h=>h.elim λy h=>h.elim λz h=>k x y z h.1 h.2.1 h.2.2.1 h.2.2.2
theorem iS(h:∃x y z,A x y z∧B x y z∧C x y z∧D x y z∧E x y z)(k:∀x y z,A x y z→B x y z→C x y z→D x y z→E x y z→G):G:=h.elim λx h=>h.elim λy h=>h.elim λz h=>k x y z h.1 h.2.1 h.2.2.1 h.2.2.2.1 h.2.2.2.2
theorem kY(h:∃x y z,A x y z∧B x y z∧C x y z∧D x y z∧E x y z∧F x y z)(k:∀x y z,A x y z→B x y z→C x y z→D x y z→E x y z→F x y z→G):G:=h.elim λx h=>h.elim λy h=>h.elim λz h=>k x y z h.1 h.2.1 h.2.2.1 h.2.2.2.1 h.2.2.2.2.1 h.2.2.2.2.2
theorem CJ(x:α)(y:β)(z:γ)(h0:A x y z):∃x y z,A x y z:=⟨x,y,z,h0⟩
theorem AO(x:α)(y:β)(z:γ)(h0:A x y z)(h1:B x y z):∃x y z,A x y z∧B x y z:=⟨x,y,z,h0,h1⟩
theorem cE(x:α)(y:β)(z:γ)(h0:A x y z)(h1:B x y z)(h2:C x y z):∃x y z,A x y z∧B x y z∧C x y z:=⟨x,y,z,h0,h1,h2⟩
theorem eY(x:α)(y:β)(z:γ)(h0:A x y z)(h1:B x y z)(h2:C x y z)(h3:D x y z):∃x y z,A x y z∧B x y z∧C x y z∧D x y z:=⟨x,y,z,h0,h1,h2,h3⟩
theorem dR(x:α)(y:β)(z:γ)(h0:A x y z)(h1:B x y z)(h2:C x y z)(h3:D x y z)(h4:E x y z):∃x y z,A x y z∧B x y z∧C x y z∧D x y z∧E x y z:=⟨x,y,z,h0,h1,h2,h3,h4⟩
end
section
variable {α:Sort _} {β:Sort _} {γ:Sort _} {δ:Sort _} {A B C D E F:α→β→γ→δ→Prop} {G:Prop}
theorem AH(h:∃x y z u,A x y z u)(k:∀x y z u,A x y z u→G):G:=h.elim λx h=>h.elim λy h=>h.elim λz h=>h.elim λu h=>k x y z u h
theorem jH(h:∃x y z u,A x y z u∧B x y z u)(k:∀x y z u,A x y z u→B x y z u→G):G:=h.elim λx h=>h.elim λy h=>h.elim λz h=>h.elim λu h=>k x y z u h.1 h.2
theorem mV(h:∃x y z u,A x y z u∧B x y z u∧C x y z u)(k:∀x y z u,A x y z u→B x y z u→C x y z u→G):G:=h.elim λx h=>h.elim λy h=>h.elim λz h=>h.elim λu h=>k x y z u h.1 h.2.1 h.2.2
theorem cD(h:∃x y z u,A x y z u∧B x y z u∧C x y z u∧D x y z u)(k:∀x y z u,A x y z u→B x y z u→C x y z u→D x y z u→G):G:=h.elim λx h=>h.elim λy h=>h.elim λz h=>h.elim λu h=>k x y z u h.1 h.2.1 h.2.2.1 h.2.2.2
theorem bF(h:∃x y z u,A x y z u∧B x y z u∧C x y z u∧D x y z u∧E x y z u)(k:∀x y z u,A x y z u→B x y z u→C x y z u→D x y z u→E x y z u→G):G:=h.elim λx h=>h.elim λy h=>h.elim λz h=>h.elim λu h=>k x y z u h.1 h.2.1 h.2.2.1 h.2.2.2.1 h.2.2.2.2
theorem eQ(x:α)(y:β)(z:γ)(u:δ)(h0:A x y z u):∃x y z u,A x y z u:=⟨x,y,z,u,h0⟩
theorem FL(x:α)(y:β)(z:γ)(u:δ)(h0:A x y z u)(h1:B x y z u):∃x y z u,A x y z u∧B x y z u:=⟨x,y,z,u,h0,h1⟩
theorem AN(x:α)(y:β)(z:γ)(u:δ)(h0:A x y z u)(h1:B x y z u)(h2:C x y z u):∃x y z u,A x y z u∧B x y z u∧C x y z u:=⟨x,y,z,u,h0,h1,h2⟩
theorem jB(x:α)(y:β)(z:γ)(u:δ)(h0:A x y z u)(h1:B x y z u)(h2:C x y z u)(h3:D x y z u):∃x y z u,A x y z u∧B x y z u∧C x y z u∧D x y z u:=⟨x,y,z,u,h0,h1,h2,h3⟩
theorem bW(x:α)(y:β)(z:γ)(u:δ)(h0:A x y z u)(h1:B x y z u)(h2:C x y z u)(h3:D x y z u)(h4:E x y z u):∃x y z u,A x y z u∧B x y z u∧C x y z u∧D x y z u∧E x y z u:=⟨x,y,z,u,h0,h1,h2,h3,h4⟩
end
theorem j5{α1:Sort _}{A1 A2:Prop}{A3:α1→Prop}{G:Prop}(h:A1∧A2∧∃x1,A3 x1)(k:A1→A2→∀x1,A3 x1→G):G:=h.2.2.elim λx1 h1=>k h.1 h.2.1 x1 h1
theorem oAE{α1:Sort _}{A1:Prop}{A2:α1→Prop}{G:Prop}(h:A1∧∃x1,A2 x1)(k:A1→∀x1,A2 x1→G):G:=h.2.elim λx1 h1=>k h.1 x1 h1
theorem yQ{α1:Sort _}{A1:Prop}{A2 A3:α1→Prop}{G:Prop}(h:A1∧∃x1,A2 x1∧A3 x1)(k:A1→∀x1,A2 x1→A3 x1→G):G:=h.2.elim λx1 h1=>k h.1 x1 h1.1 h1.2
theorem NV{α1:Sort _}{α2:Sort _}{A1:α1→Prop}{A2 A3:α1→α2→Prop}{G:Prop}(h:∃x1,A1 x1∧∃x2,A2 x1 x2∧A3 x1 x2)(k:∀x1,A1 x1→∀x2,A2 x1 x2→A3 x1 x2→G):G:=h.elim λx1 h1=>h1.2.elim λx2 h2=>k x1 h1.1 x2 h2.1 h2.2
theorem EM{α1:Sort _}{α2:Sort _}{A1:α1→Prop}{A2 A3 A4:α1→α2→Prop}{G:Prop}(h:∃x1,A1 x1∧∃x2,A2 x1 x2∧A3 x1 x2∧A4 x1 x2)(k:∀x1,A1 x1→∀x2,A2 x1 x2→A3 x1 x2→A4 x1 x2→G):G:=h.elim λx1 h1=>h1.2.elim λx2 h2=>k x1 h1.1 x2 h2.1 h2.2.1 h2.2.2
theorem EL{α1:Sort _}{α2:Sort _}{α3:Sort _}{A1:α1→α2→Prop}{A2 A3:α1→α2→α3→Prop}{G:Prop}(h:∃x1,∃x2,A1 x1 x2∧∃x3,A2 x1 x2 x3∧A3 x1 x2 x3)(k:∀x1,∀x2,A1 x1 x2→∀x3,A2 x1 x2 x3→A3 x1 x2 x3→G):G:=h.elim λx1 h1=>h1.elim λx2 h2=>h2.2.elim λx3 h3=>k x1 x2 h2.1 x3 h3.1 h3.2
theorem lG{α1:Sort _}{α2:Sort _}{α3:Sort _}{α4:Sort _}{A1 A2 A3 A4 A5 A6 A7 A8 A9:α1→α2→α3→α4→Prop}{G:Prop}(h:∃x1,∃x2,∃x3,∃x4,A1 x1 x2 x3 x4∧A2 x1 x2 x3 x4∧A3 x1 x2 x3 x4∧A4 x1 x2 x3 x4∧A5 x1 x2 x3 x4∧A6 x1 x2 x3 x4∧A7 x1 x2 x3 x4∧A8 x1 x2 x3 x4∧A9 x1 x2 x3 x4)(k:∀x1,∀x2,∀x3,∀x4,A1 x1 x2 x3 x4→A2 x1 x2 x3 x4→A3 x1 x2 x3 x4→A4 x1 x2 x3 x4→A5 x1 x2 x3 x4→A6 x1 x2 x3 x4→A7 x1 x2 x3 x4→A8 x1 x2 x3 x4→A9 x1 x2 x3 x4→G):G:=h.elim λx1 h1=>h1.elim λx2 h2=>h2.elim λx3 h3=>h3.elim λx4 h4=>k x1 x2 x3 x4 h4.1 h4.2.1 h4.2.2.1 h4.2.2.2.1 h4.2.2.2.2.1 h4.2.2.2.2.2.1 h4.2.2.2.2.2.2.1 h4.2.2.2.2.2.2.2.1 h4.2.2.2.2.2.2.2.2
theorem cL{α1:Sort _}{α2:Sort _}{α3:Sort _}{α4:Sort _}{α5:Sort _}{α6:Sort _}{α7:Sort _}{α8:Sort _}{α9:Sort _}{α10:Sort _}{α11:Sort _}{α12:Sort _}{α13:Sort _}{α14:Sort _}{α15:Sort _}{A1:α1→α2→α3→α4→α5→α6→α7→α8→α9→α10→α11→α12→α13→α14→α15→Prop}{G:Prop}(h:∃x1,∃x2,∃x3,∃x4,∃x5,∃x6,∃x7,∃x8,∃x9,∃x10,∃x11,∃x12,∃x13,∃x14,∃x15,A1 x1 x2 x3 x4 x5 x6 x7 x8 x9 x10 x11 x12 x13 x14 x15)(k:∀x1,∀x2,∀x3,∀x4,∀x5,∀x6,∀x7,∀x8,∀x9,∀x10,∀x11,∀x12,∀x13,∀x14,∀x15,A1 x1 x2 x3 x4 x5 x6 x7 x8 x9 x10 x11 x12 x13 x14 x15→G):G:=h.elim λx1 h1=>h1.elim λx2 h2=>h2.elim λx3 h3=>h3.elim λx4 h4=>h4.elim λx5 h5=>h5.elim λx6 h6=>h6.elim λx7 h7=>h7.elim λx8 h8=>h8.elim λx9 h9=>h9.elim λx10 h10=>h10.elim λx11 h11=>h11.elim λx12 h12=>h12.elim λx13 h13=>h13.elim λx14 h14=>h14.elim λx15 h15=>k x1 x2 x3 x4 x5 x6 x7 x8 x9 x10 x11 x12 x13 x14 x15 h15
theorem AD{A1 A2 A3 A4 A5 A6 A7:Prop}{G:Prop}(k:A1→A2→A3→A4→A5→A6→A7→G):(A1∧A2∧A3∧A4∧A5∧A6∧A7)→G:=λh=>k h.1 h.2.1 h.2.2.1 h.2.2.2.1 h.2.2.2.2.1 h.2.2.2.2.2.1 h.2.2.2.2.2.2
theorem sT{α1:Sort _}{α2:Sort _}{A1 A2 A3 A4:Prop}{A5 A6 A7:α1→α2→Prop}{G:Prop}(k:A1→A2→A3→A4→∀x1,∀x2,A5 x1 x2→A6 x1 x2→A7 x1 x2→G):(A1∧A2∧A3∧A4∧∃x1,∃x2,A5 x1 x2∧A6 x1 x2∧A7 x1 x2)→G:=λh=>h.2.2.2.2.elim λx1 h1=>h1.elim λx2 h2=>k h.1 h.2.1 h.2.2.1 h.2.2.2.1 x1 x2 h2.1 h2.2.1 h2.2.2
theorem lE{α1:Sort _}{α2:Sort _}{α3:Sort _}{α4:Sort _}{A1 A2 A3 A4:Prop}{A5 A6 A7 A8 A9:α1→α2→α3→α4→Prop}{G:Prop}(k:A1→A2→A3→A4→∀x1,∀x2,∀x3,∀x4,A5 x1 x2 x3 x4→A6 x1 x2 x3 x4→A7 x1 x2 x3 x4→A8 x1 x2 x3 x4→A9 x1 x2 x3 x4→G):(A1∧A2∧A3∧A4∧∃x1,∃x2,∃x3,∃x4,A5 x1 x2 x3 x4∧A6 x1 x2 x3 x4∧A7 x1 x2 x3 x4∧A8 x1 x2 x3 x4∧A9 x1 x2 x3 x4)→G:=λh=>h.2.2.2.2.elim λx1 h1=>h1.elim λx2 h2=>h2.elim λx3 h3=>h3.elim λx4 h4=>k h.1 h.2.1 h.2.2.1 h.2.2.2.1 x1 x2 x3 x4 h4.1 h4.2.1 h4.2.2.1 h4.2.2.2.1 h4.2.2.2.2
theorem sS{α1:Sort _}{A1 A2 A3:Prop}{A4:α1→Prop}{G:Prop}(k:A1→A2→A3→∀x1,A4 x1→G):(A1∧A2∧A3∧∃x1,A4 x1)→G:=λh=>h.2.2.2.elim λx1 h1=>k h.1 h.2.1 h.2.2.1 x1 h1
theorem AC{α1:Sort _}{α2:Sort _}{A1 A2 A3:Prop}{A4 A5:α1→α2→Prop}{G:Prop}(k:A1→A2→A3→∀x1,∀x2,A4 x1 x2→A5 x1 x2→G):(A1∧A2∧A3∧∃x1,∃x2,A4 x1 x2∧A5 x1 x2)→G:=λh=>h.2.2.2.elim λx1 h1=>h1.elim λx2 h2=>k h.1 h.2.1 h.2.2.1 x1 x2 h2.1 h2.2
theorem wM{α1:Sort _}{α2:Sort _}{A1 A2 A3:Prop}{A4 A5 A6:α1→α2→Prop}{G:Prop}(k:A1→A2→A3→∀x1,∀x2,A4 x1 x2→A5 x1 x2→A6 x1 x2→G):(A1∧A2∧A3∧∃x1,∃x2,A4 x1 x2∧A5 x1 x2∧A6 x1 x2)→G:=λh=>h.2.2.2.elim λx1 h1=>h1.elim λx2 h2=>k h.1 h.2.1 h.2.2.1 x1 x2 h2.1 h2.2.1 h2.2.2
theorem fE{α1:Sort _}{α2:Sort _}{α3:Sort _}{A1 A2 A3:Prop}{A4 A5 A6:α1→α2→α3→Prop}{G:Prop}(k:A1→A2→A3→∀x1,∀x2,∀x3,A4 x1 x2 x3→A5 x1 x2 x3→A6 x1 x2 x3→G):(A1∧A2∧A3∧∃x1,∃x2,∃x3,A4 x1 x2 x3∧A5 x1 x2 x3∧A6 x1 x2 x3)→G:=λh=>h.2.2.2.elim λx1 h1=>h1.elim λx2 h2=>h2.elim λx3 h3=>k h.1 h.2.1 h.2.2.1 x1 x2 x3 h3.1 h3.2.1 h3.2.2
theorem qJ{α1:Sort _}{α2:Sort _}{α3:Sort _}{A1 A2 A3:Prop}{A4 A5 A6 A7:α1→α2→α3→Prop}{G:Prop}(k:A1→A2→A3→∀x1,∀x2,∀x3,A4 x1 x2 x3→A5 x1 x2 x3→A6 x1 x2 x3→A7 x1 x2 x3→G):(A1∧A2∧A3∧∃x1,∃x2,∃x3,A4 x1 x2 x3∧A5 x1 x2 x3∧A6 x1 x2 x3∧A7 x1 x2 x3)→G:=λh=>h.2.2.2.elim λx1 h1=>h1.elim λx2 h2=>h2.elim λx3 h3=>k h.1 h.2.1 h.2.2.1 x1 x2 x3 h3.1 h3.2.1 h3.2.2.1 h3.2.2.2
theorem oS{α1:Sort _}{α2:Sort _}{α3:Sort _}{α4:Sort _}{A1 A2 A3:Prop}{A4 A5 A6 A7:α1→α2→α3→α4→Prop}{G:Prop}(k:A1→A2→A3→∀x1,∀x2,∀x3,∀x4,A4 x1 x2 x3 x4→A5 x1 x2 x3 x4→A6 x1 x2 x3 x4→A7 x1 x2 x3 x4→G):(A1∧A2∧A3∧∃x1,∃x2,∃x3,∃x4,A4 x1 x2 x3 x4∧A5 x1 x2 x3 x4∧A6 x1 x2 x3 x4∧A7 x1 x2 x3 x4)→G:=λh=>h.2.2.2.elim λx1 h1=>h1.elim λx2 h2=>h2.elim λx3 h3=>h3.elim λx4 h4=>k h.1 h.2.1 h.2.2.1 x1 x2 x3 x4 h4.1 h4.2.1 h4.2.2.1 h4.2.2.2
theorem qAAE{α1:Sort _}{A1 A2:Prop}{A3:α1→Prop}{G:Prop}(k:A1→A2→∀x1,A3 x1→G):(A1∧A2∧∃x1,A3 x1)→G:=λh=>h.2.2.elim λx1 h1=>k h.1 h.2.1 x1 h1
theorem AB{α1:Sort _}{α2:Sort _}{A1 A2:Prop}{A3 A4 A5:α1→α2→Prop}{G:Prop}(k:A1→A2→∀x1,∀x2,A3 x1 x2→A4 x1 x2→A5 x1 x2→G):(A1∧A2∧∃x1,∃x2,A3 x1 x2∧A4 x1 x2∧A5 x1 x2)→G:=λh=>h.2.2.elim λx1 h1=>h1.elim λx2 h2=>k h.1 h.2.1 x1 x2 h2.1 h2.2.1 h2.2.2
theorem oR{α1:Sort _}{α2:Sort _}{α3:Sort _}{A1 A2:Prop}{A3 A4 A5 A6 A7 A8:α1→α2→α3→Prop}{G:Prop}(k:A1→A2→∀x1,∀x2,∀x3,A3 x1 x2 x3→A4 x1 x2 x3→A5 x1 x2 x3→A6 x1 x2 x3→A7 x1 x2 x3→A8 x1 x2 x3→G):(A1∧A2∧∃x1,∃x2,∃x3,A3 x1 x2 x3∧A4 x1 x2 x3∧A5 x1 x2 x3∧A6 x1 x2 x3∧A7 x1 x2 x3∧A8 x1 x2 x3)→G:=λh=>h.2.2.elim λx1 h1=>h1.elim λx2 h2=>h2.elim λx3 h3=>k h.1 h.2.1 x1 x2 x3 h3.1 h3.2.1 h3.2.2.1 h3.2.2.2.1 h3.2.2.2.2.1 h3.2.2.2.2.2
theorem qAE{α1:Sort _}{A1:Prop}{A2:α1→Prop}{G:Prop}(k:A1→∀x1,A2 x1→G):(A1∧∃x1,A2 x1)→G:=λh=>h.2.elim λx1 h1=>k h.1 x1 h1
theorem AA{α1:Sort _}{α2:Sort _}{A1:Prop}{A2 A3 A4 A5:α1→α2→Prop}{G:Prop}(k:A1→∀x1,∀x2,A2 x1 x2→A3 x1 x2→A4 x1 x2→A5 x1 x2→G):(A1∧∃x1,∃x2,A2 x1 x2∧A3 x1 x2∧A4 x1 x2∧A5 x1 x2)→G:=λh=>h.2.elim λx1 h1=>h1.elim λx2 h2=>k h.1 x1 x2 h2.1 h2.2.1 h2.2.2.1 h2.2.2.2
theorem wK{α1:Sort _}{α2:Sort _}{A1:Prop}{A2 A3 A4 A5 A6:α1→α2→Prop}{G:Prop}(k:A1→∀x1,∀x2,A2 x1 x2→A3 x1 x2→A4 x1 x2→A5 x1 x2→A6 x1 x2→G):(A1∧∃x1,∃x2,A2 x1 x2∧A3 x1 x2∧A4 x1 x2∧A5 x1 x2∧A6 x1 x2)→G:=λh=>h.2.elim λx1 h1=>h1.elim λx2 h2=>k h.1 x1 x2 h2.1 h2.2.1 h2.2.2.1 h2.2.2.2.1 h2.2.2.2.2
theorem yJ{α1:Sort _}{α2:Sort _}{α3:Sort _}{A1:Prop}{A2 A3:α1→α2→α3→Prop}{G:Prop}(k:A1→∀x1,∀x2,∀x3,A2 x1 x2 x3→A3 x1 x2 x3→G):(A1∧∃x1,∃x2,∃x3,A2 x1 x2 x3∧A3 x1 x2 x3)→G:=λh=>h.2.elim λx1 h1=>h1.elim λx2 h2=>h2.elim λx3 h3=>k h.1 x1 x2 x3 h3.1 h3.2
theorem qI{α1:Sort _}{α2:Sort _}{α3:Sort _}{A1:Prop}{A2 A3 A4 A5 A6 A7:α1→α2→α3→Prop}{G:Prop}(k:A1→∀x1,∀x2,∀x3,A2 x1 x2 x3→A3 x1 x2 x3→A4 x1 x2 x3→A5 x1 x2 x3→A6 x1 x2 x3→A7 x1 x2 x3→G):(A1∧∃x1,∃x2,∃x3,A2 x1 x2 x3∧A3 x1 x2 x3∧A4 x1 x2 x3∧A5 x1 x2 x3∧A6 x1 x2 x3∧A7 x1 x2 x3)→G:=λh=>h.2.elim λx1 h1=>h1.elim λx2 h2=>h2.elim λx3 h3=>k h.1 x1 x2 x3 h3.1 h3.2.1 h3.2.2.1 h3.2.2.2.1 h3.2.2.2.2.1 h3.2.2.2.2.2
theorem lD{α1:Sort _}{α2:Sort _}{α3:Sort _}{A1:Prop}{A2 A3 A4 A5 A6 A7 A8 A9 A10:α1→α2→α3→Prop}{G:Prop}(k:A1→∀x1,∀x2,∀x3,A2 x1 x2 x3→A3 x1 x2 x3→A4 x1 x2 x3→A5 x1 x2 x3→A6 x1 x2 x3→A7 x1 x2 x3→A8 x1 x2 x3→A9 x1 x2 x3→A10 x1 x2 x3→G):(A1∧∃x1,∃x2,∃x3,A2 x1 x2 x3∧A3 x1 x2 x3∧A4 x1 x2 x3∧A5 x1 x2 x3∧A6 x1 x2 x3∧A7 x1 x2 x3∧A8 x1 x2 x3∧A9 x1 x2 x3∧A10 x1 x2 x3)→G:=λh=>h.2.elim λx1 h1=>h1.elim λx2 h2=>h2.elim λx3 h3=>k h.1 x1 x2 x3 h3.1 h3.2.1 h3.2.2.1 h3.2.2.2.1 h3.2.2.2.2.1 h3.2.2.2.2.2.1 h3.2.2.2.2.2.2.1 h3.2.2.2.2.2.2.2.1 h3.2.2.2.2.2.2.2.2
theorem qH{α1:Sort _}{α2:Sort _}{A1 A2 A3 A4 A5 A6 A7 A8:α1→α2→Prop}{G:Prop}(k:∀x1,∀x2,A1 x1 x2→A2 x1 x2→A3 x1 x2→A4 x1 x2→A5 x1 x2→A6 x1 x2→A7 x1 x2→A8 x1 x2→G):(∃x1,∃x2,A1 x1 x2∧A2 x1 x2∧A3 x1 x2∧A4 x1 x2∧A5 x1 x2∧A6 x1 x2∧A7 x1 x2∧A8 x1 x2)→G:=λh=>h.elim λx1 h1=>h1.elim λx2 h2=>k x1 x2 h2.1 h2.2.1 h2.2.2.1 h2.2.2.2.1 h2.2.2.2.2.1 h2.2.2.2.2.2.1 h2.2.2.2.2.2.2.1 h2.2.2.2.2.2.2.2
theorem QJ{α:Sort _}{a b c:α}(e:a=b)(h:b=c):a=c:=e.trans h
theorem QR{α:Sort _}{a b c:α}(e:c=b)(h:a=b):a=c:=h.trans e.symm
theorem QC{α β:Sort _}{f:α→β}{a b:α}{c:β}(e:a=b)(h:f b=c):f a=c:=e▸h
theorem QD{α β:Sort _}{f:α→β}{a:β}{c b:α}(e:c=b)(h:a=f b):a=f c:=e▸h
theorem QS{α β:Sort _}{f:α→β}{a b:α}(e:a=b):f a=f b:=e▸rfl
theorem QA(e:a=b)(h:b≤n):a≤n:=e▸h
theorem QB(e:n=b)(h:a≤b):a≤n:=e▸h
theorem QE(e:a=b)(h:b<n):a<n:=e▸h
theorem QF(e:n=b)(h:a<b):a<n:=e▸h
theorem QN{α:Type _}{a:α}{l r:List α}(e:l=r)(h:a∈r):a∈l:=e▸h
theorem ZL{α:Sort _}{a b c:α}(e:a=b)(h:a=c):b=c:=e.symm.trans h
theorem ZC{α β:Sort _}{f:α→β}{a b:α}{c:β}(e:a=b)(h:f a=c):f b=c:=e▸h
theorem QW{α:Type}{t u:PySem.Sem α}{Q:α→PySem.Shared→Prop}{E:PySem.Value→PySem.Shared→Prop}(e:t=u)(h:PySem.wpAny M A u Q E s):PySem.wpAny M A t Q E s:=e▸h
theorem QV{α:Type}{f g:Bool}{t u:PySem.Sem α}{Q:α→PySem.Shared→Prop}{E:PySem.Value→PySem.Shared→Prop}(e:f=g)(h:PySem.wpAny M A (if g=true then t else u) Q E s):PySem.wpAny M A (if f=true then t else u) Q E s:=e▸h
theorem k0{α:Type _}{a0:α}{r:List α}:a0∈a0::r:= .head _
theorem k1{α:Type _}{a0 a1:α}{r:List α}:a1∈a0::a1::r:= .tail _ (.head _)
theorem k2{α:Type _}{a0 a1 a2:α}{r:List α}:a2∈a0::a1::a2::r:= .tail _ (.tail _ (.head _))
theorem k3{α:Type _}{a0 a1 a2 a3:α}{r:List α}:a3∈a0::a1::a2::a3::r:= .tail _ (.tail _ (.tail _ (.head _)))
theorem k4{α:Type _}{a0 a1 a2 a3 a4:α}{r:List α}:a4∈a0::a1::a2::a3::a4::r:= .tail _ (.tail _ (.tail _ (.tail _ (.head _))))
theorem k5{α:Type _}{a0 a1 a2 a3 a4 a5:α}{r:List α}:a5∈a0::a1::a2::a3::a4::a5::r:= .tail _ (.tail _ (.tail _ (.tail _ (.tail _ (.head _)))))
theorem k6{α:Type _}{a0 a1 a2 a3 a4 a5 a6:α}{r:List α}:a6∈a0::a1::a2::a3::a4::a5::a6::r:= .tail _ (.tail _ (.tail _ (.tail _ (.tail _ (.tail _ (.head _))))))
theorem k7{α:Type _}{a0 a1 a2 a3 a4 a5 a6 a7:α}{r:List α}:a7∈a0::a1::a2::a3::a4::a5::a6::a7::r:= .tail _ (.tail _ (.tail _ (.tail _ (.tail _ (.tail _ (.tail _ (.head _)))))))
theorem k8{α:Type _}{a0 a1 a2 a3 a4 a5 a6 a7 a8:α}{r:List α}:a8∈a0::a1::a2::a3::a4::a5::a6::a7::a8::r:= .tail _ (.tail _ (.tail _ (.tail _ (.tail _ (.tail _ (.tail _ (.tail _ (.head _))))))))
theorem k9{α:Type _}{a0 a1 a2 a3 a4 a5 a6 a7 a8 a9:α}{r:List α}:a9∈a0::a1::a2::a3::a4::a5::a6::a7::a8::a9::r:= .tail _ (.tail _ (.tail _ (.tail _ (.tail _ (.tail _ (.tail _ (.tail _ (.tail _ (.head _)))))))))
theorem k10{α:Type _}{a0 a1 a2 a3 a4 a5 a6 a7 a8 a9 a10:α}{r:List α}:a10∈a0::a1::a2::a3::a4::a5::a6::a7::a8::a9::a10::r:= .tail _ (.tail _ (.tail _ (.tail _ (.tail _ (.tail _ (.tail _ (.tail _ (.tail _ (.tail _ (.head _))))))))))
theorem k11{α:Type _}{a0 a1 a2 a3 a4 a5 a6 a7 a8 a9 a10 a11:α}{r:List α}:a11∈a0::a1::a2::a3::a4::a5::a6::a7::a8::a9::a10::a11::r:= .tail _ (.tail _ (.tail _ (.tail _ (.tail _ (.tail _ (.tail _ (.tail _ (.tail _ (.tail _ (.tail _ (.head _)))))))))))
theorem k12{α:Type _}{a0 a1 a2 a3 a4 a5 a6 a7 a8 a9 a10 a11 a12:α}{r:List α}:a12∈a0::a1::a2::a3::a4::a5::a6::a7::a8::a9::a10::a11::a12::r:= .tail _ (.tail _ (.tail _ (.tail _ (.tail _ (.tail _ (.tail _ (.tail _ (.tail _ (.tail _ (.tail _ (.tail _ (.head _))))))))))))
theorem n1{α:Type _}{x a0:α}(h:¬x=a0):x∉[a0]:=λq=>h (List.mem_singleton.1 q)
theorem n2{α:Type _}{x a0 a1:α}(h:¬x=a0∧¬x=a1):x∉[a0,a1]:=λq=>(List.mem_cons.1 q).elim h.1 (n1 h.2)
theorem ap0{α:Type _}{H r:List α}{a:α}:(H++a::r)[H.length]?=some a:=by simp
theorem ap1{α:Type _}{H r:List α}{a b:α}:(H++a::b::r)[H.length+1]?=some b:=by simp
theorem nn0{α:Type _}{P:α→Prop}:∀l:α,P l→l∉[]:=λU U=>List.not_mem_nil
theorem v0{b:Prop}(h:a0):a0∨b:= .inl h
theorem v1{b:Prop}(h:a1):a0∨a1∨b:= .inr (.inl h)
theorem w1(h:a1):a0∨a1:= .inr (h)
theorem v2{b:Prop}(h:a2):a0∨a1∨a2∨b:= .inr (.inr (.inl h))
theorem v3{b:Prop}(h:a3):a0∨a1∨a2∨a3∨b:= .inr (.inr (.inr (.inl h)))
theorem v4{b:Prop}(h:a4):a0∨a1∨a2∨a3∨a4∨b:= .inr (.inr (.inr (.inr (.inl h))))
theorem v5{b:Prop}(h:a5):a0∨a1∨a2∨a3∨a4∨a5∨b:= .inr (.inr (.inr (.inr (.inr (.inl h)))))
theorem w5(h:a5):a0∨a1∨a2∨a3∨a4∨a5:= .inr (.inr (.inr (.inr (.inr (h)))))
theorem w6{a6:Prop}(h:a6):a0∨a1∨a2∨a3∨a4∨a5∨a6:= .inr (.inr (.inr (.inr (.inr (.inr (h))))))
theorem u1(h:Nat.beq a b=false):n+a∉[n+b]:=n1 λq=>by rw [Nat.add_left_cancel q,Nat.beq_refl] at h;exact nomatch h
theorem u2(h:Nat.beq a 0=false):n+a∉[n]:=u1 (b:=0) h
theorem u3(h:Nat.beq 0 b=false):n∉[n+b]:=u1 (a:=0) h
theorem gx{α:Type _}{l:List α}(i:Nat){a:α}(h:l[i]?=some a):a∈l:=List.mem_of_getElem? h
theorem lm1{α β:Type _}{l:List α}{f:α→β}(h:l.length≤n):(l.map f).length≤n:=by refine QA (List.length_map _) ?_;exact h
theorem lm2{α β:Type _}{l:List α}{f:α→β}(h:l.length<n):(l.map f).length<n:=by refine QE (List.length_map _) ?_;exact h
theorem la1{α β γ:Type _}{l:List α}{r:List γ}{f:α→β}{g:γ→β}(h:l.length+r.length≤n):(l.map f++r.map g).length≤n:=by refine QA List.length_append ?_;refine (List.length_map _).symm▸?_;refine (List.length_map _).symm▸?_;exact h
theorem la2{β γ:Type _}{l:List β}{r:List γ}{g:γ→β}(h:l.length+r.length≤n):(l++r.map g).length≤n:=by refine QA List.length_append ?_;refine (List.length_map _).symm▸?_;exact h
theorem la4{β:Type _}{l r:List β}(h:l.length+r.length<n):(l++r).length<n:=by refine QE List.length_append ?_;exact h
theorem la5{β:Type _}{l:List β}{a:β}(h:l.length≤n):(l++[a]).length≤n+1:=by refine QA List.length_append ?_;exact Nat.succ_le_succ h
theorem la7{β:Type _}{l r:List β}{a:β}(h:l.length+(r.length+1)<n):(l++r++[a]).length<n:=by refine (List.append_assoc _ _ _).symm▸?_;refine QE List.length_append ?_;refine List.length_append.symm▸?_;exact h
theorem la8{β:Type _}{l:List β}{a:β}{m:Nat}(h:l.length+1+m≤n):(l++[a]).length+m≤n:=by rw [List.length_append];exact h
theorem lb1{α β γ δ:Type _}{l:List α}{r:List γ}{f:α→β}{g:γ→δ}(h:l.length+r.length≤n):(l.map f).length+(r.map g).length≤n:=by rw [List.length_map,List.length_map];exact h
theorem lb2{α β δ:Type _}{l:List α}{x:δ}{f:α→β}(h:1+l.length≤n):[x].length+(l.map f).length≤n:=by rw [List.length_map];exact h
theorem lb5{β:Type _}{l r:List β}{a b:β}(h:l.length≤r.length):(l++[a]).length≤(r++[b]).length:=by refine QA List.length_append ?_;refine QB List.length_append ?_;exact Nat.succ_le_succ h
theorem lb6{β:Type _}{l r:List β}:l.length≤(l++r).length:=by refine QB List.length_append ?_;exact Nat.le_add_right _ _
theorem lb7{β:Type _}{l:List β}{a:β}(h:l.length=n):(l++[a]).length=n+1:=by refine QJ List.length_append ?_;refine h.symm▸?_;rfl
theorem ndo{β:Type _}{a:β}:[a].Nodup:=List.pairwise_singleton _ _
open PySem in
theorem nbq(x:Str):(!x==x)=false:=by simp
end
section variable {a:Nat}
theorem ow0{y0 y1:Nat}(h0:(y0 - y1)=0)(h1:¬(y0<y1)):y0=y1:=Nat.le_antisymm (Nat.le_of_sub_eq_zero h0) (Nat.le_of_not_lt h1)
theorem stp{c k z:Nat}(h:c≤k):(a+c)+z≤a+(z+k):=by refine QA (Nat.add_assoc _ _ _) ?_;refine (Nat.add_comm c z).symm▸?_;exact Nat.add_le_add_left (Nat.add_le_add_left h z) a
theorem ow1{y0:Nat}(h0:y0<(2^62)):(y0:Int)<(2^63):=Int.lt_of_lt_of_le (Int.ofNat_lt.2 h0) (by decide)
theorem ow2{y0 y1:Nat}(h0:(y0+6)<y1):(y0+4)<y1:=Nat.lt_of_le_of_lt (Nat.add_le_add_left (by decide) _) h0
theorem ow3{y0 y1 y2 y3:Nat}(h0:(y0+1)≤y1)(h1:(y2+y1)<y3):((y2+1)+y0)<y3:=Nat.lt_of_le_of_lt (by refine QA (Nat.add_assoc _ _ _) ?_;refine ((Nat.add_comm 1) _).symm▸?_;exact Nat.add_le_add_left h0 _) h1
theorem ow4{y0:Int}{y1:Nat}(h0:(((0:Int)≤y0)∧(((y0<(2^62))∧(((Int.toNat y0):Nat)<y1))))):y0<(y1:Int):=(Int.toNat_lt h0.1).mp h0.2.2
theorem ow5{y0:Int}{y1:Nat}(h0:(((0:Int)≤y0)∧(((y0<(2^62))∧(((Int.toNat y0):Nat)<y1))))):y0<(2^63):=Int.lt_trans h0.2.1 (by decide)
theorem ow6{y0:Int}{y1 y2:Nat}(h0:(((0:Int)≤y0)∧(y0<(2^62))))(h1:((Int.toNat y0):Nat)<y1)(h2:y2=y1):(((0:Int)≤y0)∧(y0<(y2:Int))):=⟨h0.1,(Int.toNat_lt h0.1).mp (h2▸h1)⟩
theorem ow7{y0:Int}(h0:(((0:Int)≤y0)∧(y0<(2^62)))):¬(y0<0):=Int.not_lt.2 h0.1
theorem ow8{y0:Int}(h0:(((0:Int)≤y0)∧(y0<(2^62)))):((((-9223372036854775808):Int)≤y0)∧(y0<9223372036854775808)):=⟨Int.le_trans (by decide) h0.1,Int.lt_of_lt_of_le h0.2 (by decide)⟩
theorem ow9{y0:Int}{y1:Nat}(h0:(((0:Int)≤y0)∧(y0<(2^62))))(h1:((Int.toNat y0):Nat)<y1):(((0:Int)≤y0)∧(y0<(y1:Int))):=⟨h0.1,(Int.toNat_lt h0.1).mp h1⟩
theorem ow10{y0:Int}(h0:(((0:Int)≤y0)∧(y0<(2^62)))):y0<(2^63):=Int.lt_trans h0.2 (by decide)
theorem ow11{y0:Int}(h0:(((0:Int)≤y0)∧(y0<(2^62)))):((-(2^63)):Int)≤y0:=Int.le_trans (by decide) h0.1
theorem ow12{y0:Nat}{y1:Int}(h0:((((y0<(2^62))∧((0:Int)≤y1)))∧(y1≤5))):y0<(2^64):=Nat.lt_trans h0.1.1 (by decide)
theorem ow13{y0:Nat}{y1:Int}(h0:((((y0<(2^62))∧((0:Int)≤y1)))∧(y1≤5))):y1≤1000000:=Int.le_trans h0.2 (by decide)
theorem ow14{y0:Int}(h0:(0:Int)<y0):(0:Int)≤y0:=Int.le_of_lt h0
theorem ow15{y0:Int}(h0:(0:Int)<y0):y0≠0:=Int.ne_of_gt h0
theorem ow16{y0:Int}(h0:(((0:Int)<y0)∧(y0<1073741824))):(0:Int)≤y0:=Int.le_of_lt h0.1
theorem ow17{y0:Int}(h0:(((0:Int)<y0)∧(y0<1073741824))):y0≠0:=Int.ne_of_gt h0.1
theorem ow18{y0 y1 y2 y3:Nat}(h0:(((0:Int)≤(y0:Int))∧((((y0:Int)≤(y1:Int))∧((((y1:Int)≤(y2:Int))∧(y2≤1000)))))))(h1:y2=y3):y1≤y3:=h1▸Int.ofNat_le.mp h0.2.2.1
theorem ow19{y0 y1 y2:Nat}(h0:(((0:Int)≤(y0:Int))∧((((y0:Int)≤(y1:Int))∧((((y1:Int)≤(y2:Int))∧(y2≤1000))))))):y0≤y1:=Int.ofNat_le.1 h0.2.1
theorem ow20{y0:Int}{y1:Nat}:((min (Int.toNat y0) y1):Nat)≤y1:=Nat.min_le_right _ _
theorem ow21{y0 y1 y2:Nat}(h0:((y0=0)∧((y1 - y0)=y2))):((y0=0)∧(y1=y2)):=⟨h0.1,by refine QR h0.2.symm ?_;refine QD h0.1 ?_;rfl⟩
theorem ow22{y0 y1 y2 y3:Nat}(h0:y0≤y1):((min y2 y0) - y3)≤y1:=Nat.le_trans (Nat.sub_le _ _) (Nat.le_trans (Nat.min_le_right _ _) h0)
theorem ow23{y0 y1:Nat}:((Int.toNat ((y0:Int)+((y1:Int)*1))):Nat)=(y0+y1):=by rw [Int.mul_one];rfl
theorem ow24:(1:Int)>0:=Int.natCast_nonneg _
theorem ow25{y0:Nat}:¬((y0:Int)<0):=Int.not_lt.mpr (Int.natCast_nonneg _)
theorem ow26:¬((1:Int)<0):=by decide
theorem nb64{x:Int}(h:x.natAbs<2^62): -(2^64)<x∧x<2^64:=by
 have e:(2:Int)^64=((2^64:Nat):Int):=by decide
 refine e.symm▸?_
 have h':x.natAbs<2^64:=Nat.lt_trans h (by decide)
 cases x with
 |ofNat n=>exact ⟨Int.lt_of_lt_of_le (Int.neg_neg_of_pos (Int.ofNat_lt.2 (by decide))) (Int.natCast_nonneg _),Int.ofNat_lt.2 h'⟩
 |negSucc n=>exact ⟨by rw [Int.negSucc_eq];exact Int.neg_lt_neg ((Int.natCast_succ n).symm▸Int.ofNat_lt.2 h'),Int.lt_of_lt_of_le (Int.negSucc_lt_zero n) (Int.natCast_nonneg _)⟩
theorem nb30{x:Int}(h:0<x∧x<1073741824):x.natAbs<1073741824:=by
 cases x with
 |ofNat n=>exact Int.ofNat_lt.1 h.2
 |negSucc n=>exact absurd h.1 (Int.not_lt.2 (Int.le_of_lt (Int.negSucc_lt_zero n)))
theorem slA{b n:Nat}(ha:a≤b)(hb:b≤n):((min (a:Int) n),(min (b:Int) n))=((a:Int),(b:Int)):=by
 refine (Int.min_eq_left (Int.ofNat_le.2 (Nat.le_trans ha hb))).symm▸?_;exact QS (Int.min_eq_left (Int.ofNat_le.2 hb))
theorem slB{b:Nat}:(if (a:Int)<b then ((b:Int) - a - 1)+1 else 0).toNat=b - a:=by
 split
 ·refine QC (Int.sub_add_cancel _ _) ?_;exact Int.toNat_sub b a
 ·rename_i h;exact (Nat.sub_eq_zero_of_le (Nat.le_of_not_lt λq=>h (Int.ofNat_lt.2 q))).symm
theorem ow27{y0:Int}{y1:Nat}:(max 0 (min y0 (y1:Int)))=((min (Int.toNat y0) y1):Nat):=by
 cases y0 with
 |ofNat n=>exact (Int.max_eq_right (Int.le_min.2 ⟨Int.natCast_nonneg n,Int.natCast_nonneg _⟩)).trans ((Nat.le_total n y1).elim (λh=>(Int.min_eq_left (Int.ofNat_le.2 h)).trans (congrArg Nat.cast (Nat.min_eq_left h).symm)) λh=>(Int.min_eq_right (Int.ofNat_le.2 h)).trans (congrArg Nat.cast (Nat.min_eq_right h).symm))
 |negSucc n=>exact (Int.max_eq_left (Int.le_trans (Int.min_le_left _ _) (Int.le_of_lt (Int.negSucc_lt_zero n)))).trans (congrArg Nat.cast (Nat.zero_min y1).symm)
theorem ow28{y0:Int}(h0:(0:Int)≤y0):¬(y0<0):=Int.not_lt.mpr h0
theorem ow29{y0 y1 y2 y3 y4:Nat}(h0:y0=y1)(h1:y1≤(y2+y3))(h2:y3≤y0)(h3:¬(y4<y2)):(y4 - (y1 - y3))=(((y2+y3) - y1)+(y4 - y2)):=by
 subst h0
 obtain ⟨k,rfl⟩:=Nat.exists_eq_add_of_le h2
 obtain ⟨m,rfl⟩:=Nat.exists_eq_add_of_le (Nat.le_of_add_le_add_left (Nat.add_comm y2 y3▸h1))
 obtain ⟨r,rfl⟩:=Nat.exists_eq_add_of_le (Nat.le_of_not_lt h3)
 refine QC (Nat.add_sub_cancel_left _ _) ?_;refine QD (Nat.add_sub_cancel_left _ _) ?_;refine (Nat.add_assoc _ _ _).symm▸?_;refine QJ (Nat.add_sub_cancel_left _ _) ?_;refine (Nat.add_comm (k+m) y3).symm▸?_;refine (Nat.add_assoc _ _ _)▸?_;exact (Nat.add_sub_cancel_left _ _).symm▸rfl
theorem TF{y0 y1:Nat}(h0:¬(y0<y1)):y1≤y0:=Nat.le_of_not_lt h0
theorem ow31{y0 y1 y2 y3:Nat}(h0:y0≤(y1+y2))(h1:¬(y3<y1)):((y0 - y2)+(y3 - (y0 - y2)))=y3:=Nat.add_sub_of_le (Nat.le_trans (Nat.sub_le_of_le_add h0) (Nat.le_of_not_lt h1))
theorem ow32{y0 y1 y2:Nat}(h0:y0≤(y1+y2))(h1:y1≤y0):y0=(y1+(y2 - ((y1+y2) - y0))):=by obtain ⟨k,rfl⟩:=Nat.exists_eq_add_of_le h1;refine (Nat.add_sub_add_left _ _ _).symm▸?_;exact QD (Nat.sub_sub_self (Nat.le_of_add_le_add_left h0)) rfl
theorem ow33{y0 y1 y2 y3 y4:Nat}(h0:y0<(min (y1 - y2) y3))(h1:y1≤(y4+y2)):y0<y4:=Nat.lt_of_lt_of_le (Nat.lt_min.mp h0).1 (Nat.sub_le_of_le_add h1)
theorem ow34{y0 y1 y2 y3:Nat}(h0:y0<(min (y1 - y2) y3)):y0<(y1 - y2):=(Nat.lt_min.mp h0).1
theorem ow35{y0 y1:Nat}:(y0 - (y0 - y1))≤y1:=Nat.sub_le_of_le_add (Nat.add_comm _ _▸Nat.le_add_of_sub_le (Nat.le_refl _))
theorem ow36{y0:Nat}(h0:y0≤15):y0≤1000:=Nat.le_trans h0 (by decide)
theorem ow37{y0 y1 y2:Nat}(h0:(y0+(y1+1))≤1000)(h1:y2≤(y0+1)):(y2+y1)≤1000:=Nat.le_trans (Nat.add_le_add_right h1 y1) (Nat.le_trans (Nat.le_of_eq (Nat.add_right_comm y0 1 y1)) h0)
theorem ow38{y0 y1:Nat}(h0:(y0+(y1+1))≤1000):y0≤1000:=Nat.le_trans (Nat.le_add_right _ _) h0
theorem ow40{y0 y1:Nat}(h0:¬(y0<y1))(h1:¬(y1<y0)):y0=y1:=Nat.le_antisymm (Nat.le_of_not_lt h1) (Nat.le_of_not_lt h0)
theorem ow41{y0 y1:Nat}(h0:y0<y1)(h1:y1=y0):False:=Nat.ne_of_gt h0 h1
theorem ow42{y0:Nat}(h0:(0:Nat)<y0):((y0 - 1)+1)=y0:=Nat.sub_add_cancel h0
theorem ow43{y0 y1:Nat}(h0:(y0 - 1)<y1):(0:Nat)<y1:=Nat.le_trans (Nat.le_add_left _ _) h0
theorem ow44{y0:Int}(h0:y0<1000):((Int.toNat y0):Nat)≤16777216:=Int.toNat_le.2 (Int.le_trans (Int.le_of_lt h0) (by decide))
theorem ow45{y0:Int}(h0:y0<1000):¬(y0>((2^63) - 34)):=Int.not_lt.2 (Int.le_trans (Int.le_of_lt h0) (by decide))
theorem ow46{y0:Int}(h0:y0<1000):¬(((Int.toNat y0):Nat)>16777216):=Nat.not_lt.2 (ow44 h0)
theorem ow47{y0 y1:Nat}(h0:(y0+5)<y1):((y0+1)+4)<y1:=h0
theorem ow48{y0 y1 y2:Nat}(h0:(y0+1)=(y1 - y2)):y2<y1:=Nat.sub_pos_iff_lt.mp (h0▸Nat.succ_pos _)
theorem ow49{y0 y1:Nat}(h0:(0:Nat)=(y0 - y1))(h1:y1≤y0):y1=y0:=Nat.le_antisymm h1 (Nat.le_of_sub_eq_zero h0.symm)
theorem ow50{y0:Nat}(h0:y0<(2^31)):(y0:Int)<(2^63):=Int.lt_of_lt_of_le (Int.ofNat_lt.2 h0) (by decide)
theorem ow51{y0 y1 y2 y3:Nat}(h0:y0=y1)(h1:y2=y0)(h2:¬(y3<y2)):y1≤y3:=h0▸h1▸Nat.le_of_not_lt h2
theorem ow52{y0:Nat}(h0:y0<64):y0≤16777216:=Nat.le_of_lt (Nat.lt_of_lt_of_le h0 (by decide))
theorem ow53{y0 y1 y2:Nat}(h0:(y0+8)<y1)(h1:y2=(y0+1)):(y2+5)<y1:=h1▸Nat.lt_of_le_of_lt (Nat.add_le_add_left (by decide:6≤8) y0) h0
theorem ow54{y0:Nat}(h0:y0≤24):y0<30:=Nat.lt_of_le_of_lt h0 (by decide)
theorem ow55{y0 y1 y2 y3 y4:Nat}(h0:((y0<y1)∧(((y1≤(y0+y2))∧(y2≤y1)))))(h1:y0=y3)(h2:y2=y4):y1≤(y3+y4):=h1▸h2▸h0.2.1
theorem ow56{y0 y1 y2 y3:Nat}(h0:((y0<y1)∧(((y1≤(y0+y2))∧(y2≤y1)))))(h1:y0=y3):y3≤y1:=h1▸Nat.le_of_lt h0.1
theorem NR{y0 y1 y2:Nat}(h0:y0<y1∧y1≤y0+y2∧y2≤y1):y0+(y2 - ((y0+y2) - y1))=y1:=by
 refine QJ ((Nat.add_sub_assoc (Nat.sub_le_of_le_add (Nat.add_comm y2 y1▸Nat.add_le_add_right (Nat.le_of_lt h0.1) y2))) _).symm ?_;exact (Nat.sub_sub_self h0.2.1)
theorem ow57{y0 y1 y2:Nat}(h0:((y0<y1)∧(((y1≤(y0+y2))∧(y2≤y1))))):y1≤(y0+(y2 - ((y0+y2) - y1))):=Nat.le_of_eq (NR h0).symm
theorem ow58{y0 y1 y2:Nat}(h0:((y0<y1)∧(((y1≤(y0+y2))∧(y2≤y1))))):(y0+(y2 - ((y0+y2) - y1)))≤y1:=Nat.le_of_eq (NR h0)
theorem ow59{y0 y1 y2 y3:Nat}(h0:((y0<y1)∧(((y1≤(y0+y2))∧(y2≤y1)))))(h1:y2=y3):(y3 - y1)=0:=Nat.sub_eq_zero_of_le (h1▸h0.2.2)
theorem ow60{y0 y1 y2 y3:Nat}(h0:y0=y1)(h1:y0=y2):y3≤((y1+y3) - y2):=by subst h0;subst h1;exact Nat.le_of_eq (Nat.add_sub_cancel_left ..).symm
theorem ow61{y0 y1 y2 y3:Nat}(h0:y0=y1)(h1:y0=y2):y2≤(y1+y3):=Nat.le_trans (Nat.le_of_eq (h1.symm.trans h0)) (Nat.le_add_right _ _)
theorem ow62{y0 y1 y2:Nat}(h0:y0=y1)(h1:y0=y2):y1≤y2:=Nat.le_of_eq (h0.symm.trans h1)
theorem ow63{y0 y1:Nat}(h0:y0=y1):y1≤y0:=Nat.le_of_eq h0.symm
theorem ow64{y0 y1:Nat}(h0:y0=y1):y0≤y1:=Nat.le_of_eq h0
theorem ow65{y0 y1:Nat}:((y0:Int) - ((y1:Int)+1))=(((y0:Int) - (y1:Int)) - 1):=(Int.sub_sub _ _ 1).symm
theorem ow66{y0 y1:Nat}(h0:y0<y1):(0:Int)<((y1:Int) - (y0:Int)):=Int.sub_pos_of_lt (Int.ofNat_lt.2 h0)
theorem ow67{y0:Nat}(h0:y0<(2^31)):(y0:Int)<(2^62):=Int.lt_of_lt_of_le (Int.ofNat_lt.2 h0) (by decide)
theorem ow68{y0:Nat}:((-(2^62)):Int)≤(y0:Int):=Int.natCast_nonneg _
theorem ow69:(0:Int)<(2^62):=Int.natCast_nonneg _
theorem ow70:((-(2^62)):Int)≤0:=Int.natCast_nonneg _
theorem ow71{y0 y1:Nat}(h0:((y0+(10*y1))+100)≤9900):(y0+90)<9900:=Nat.lt_of_lt_of_le (Nat.add_lt_add_of_le_of_lt (Nat.le_add_right y0 _) (by decide:90<100)) h0
theorem ow72{y0 y1 y2:Nat}(h0:((y0+(10*y1))+100)≤9900)(h1:y2≤y1):((y0+(10*y2))+100)≤9900:=Nat.le_trans (Nat.add_le_add_right (Nat.add_le_add_left (Nat.mul_le_mul_left 10 h1) y0) 100) h0
theorem ow73{y0 y1 y2:Nat}(h0:((y0+(2*y1))+20)≤1000)(h1:y2≤y1):((y0+(2*y2))+20)≤1000:=Nat.le_trans (Nat.add_le_add_right (Nat.add_le_add_left (Nat.mul_le_mul_left 2 h1) y0) 20) h0
theorem EG{y0 y1:Nat}(h0:(y0+90)<y1):(y0+6)<y1:=Nat.lt_of_le_of_lt (Nat.add_le_add_left (by decide) _) h0
theorem ow75{y0 y1:Nat}(h0:(y0+90)<y1):(y0+4)<y1:=Nat.lt_of_le_of_lt (Nat.add_le_add_left (by decide) _) h0
theorem ow76{y0:Nat}(h0:y0≤15):y0<17:=Nat.lt_of_le_of_lt h0 (by decide)
theorem ow77{y0:Nat}(h0:y0≤20):(y0+1)≤24:=Nat.lt_of_le_of_lt h0 (by decide)
theorem ow78{y0 y1:Nat}(h0:y0≤(y1+1))(h1:y1≤100):y0≤(16777216+1):=Nat.le_trans h0 (Nat.le_trans (Nat.succ_le_succ h1) (by decide))
theorem ow79{y0 y1:Nat}(h0:y0≤(y1+1)):(y0+1)≤((y1+1)+1):=Nat.lt_succ_of_le h0
theorem ow80{y0 y1:Nat}(h0:((y0+(10*(y1+1)))+100)≤9900):(((y0+1)+(10*y1))+100)≤9900:=Nat.le_trans (Nat.add_le_add_right (stp (c:=1) (k:=10) (by decide)) 100) h0
theorem ow81{y0 y1:Nat}(h0:((y0+(2*(y1+1)))+20)≤1000):(((y0+1)+(2*y1))+20)≤1000:=Nat.le_trans (Nat.add_le_add_right (stp (c:=1) (k:=2) (by decide)) 20) h0
theorem ow82{y0 y1:Nat}(h0:((y0+(10*(y1+1)))+100)≤9900):(((y0+3)+(10*y1))+100)≤9900:=Nat.le_trans (Nat.add_le_add_right (stp (c:=3) (k:=10) (by decide)) 100) h0
theorem ow83{y0 y1:Nat}(h0:((y0+(2*(y1+1)))+20)≤1000):y0<1000:=Nat.lt_of_lt_of_le (Nat.lt_of_le_of_lt (Nat.le_add_right _ _) (Nat.lt_add_of_pos_right (by decide))) h0
theorem ow84{y0 y1:Nat}(h0:(y0+90)<y1):(y0+8)<y1:=Nat.lt_of_le_of_lt (Nat.add_le_add_left (by decide) _) h0
theorem LB{y0 y1:Nat}(h0:y0<y1):((y1+1) - (y0+1))<((y1+1) - y0):=by refine QE (Nat.add_sub_add_right _ _ _) ?_;refine QF (Nat.succ_sub (Nat.le_of_lt h0)) ?_;exact Nat.lt_succ_self _
theorem ow87{y0:Nat}:(y0+1)=((y0+1) - 0):=by rfl
theorem ow88{y0:Nat}(h0:y0≤50):y0≤100:=Nat.le_trans h0 (by decide)
theorem ow89{y0 y1 y2:Nat}(h0:y0≤(y1+1))(h1:y1≤y2):y0≤(y2+1):=Nat.le_trans h0 (Nat.add_le_add_right h1 _)
theorem ow90{y0 y1 y2:Nat}(h0:y0≤(y1+1))(h1:y2≤100)(h2:y1≤y2):y0≤(16777216+1):=Nat.le_trans h0 (Nat.le_trans (Nat.succ_le_succ (Nat.le_trans h2 h1)) (by decide))
theorem ow91:(1:Nat)≤50:=Nat.le_add_left _ _
theorem ow92:(0:Nat)≤50:=Nat.zero_le _
theorem ow93{y0:Nat}(h0:(y0+10)≤1000):(y0+1)<1000:=Nat.lt_of_le_of_lt (Nat.add_le_add_left (by decide) _) h0
theorem ow94{y0 y1:Nat}(h0:((y0+(2*(y1+1)))+20)≤1000):(y0+10)≤1000:=Nat.le_trans (Nat.add_le_add (Nat.le_add_right y0 _) (by decide:10≤20)) h0
theorem ow97{y0 y1:Nat}(h0:y0≤y1):y0<(y1+1):=Nat.lt_succ_of_le h0
theorem ow98{y0 y1:Nat}(h0:((y0+(30*(y1+1)))+1000)≤9900):(((y0+3)+(30*y1))+1000)≤9900:=Nat.le_trans (Nat.add_le_add_right (stp (c:=3) (k:=30) (by decide)) 1000) h0
theorem ow99{y0 y1:Nat}(h0:((y0+(4*(y1+1)))+200)≤1000):(((y0+1)+(4*y1))+200)≤1000:=Nat.le_trans (Nat.add_le_add_right (stp (c:=1) (k:=4) (by decide)) 200) h0
theorem ow100{y0 y1:Nat}(h0:((y0+(30*(y1+1)))+1000)≤9900):(((y0+3)+(10*80))+100)≤9900:=show y0+903≤9900 from Nat.le_trans (Nat.add_le_add (Nat.le_add_right y0 _) (by decide:903≤1000)) h0
theorem ow101{y0 y1:Nat}(h0:((y0+(4*(y1+1)))+200)≤1000):(((y0+1)+(2*80))+20)≤1000:=show y0+181≤1000 from Nat.le_trans (Nat.add_le_add (Nat.le_add_right y0 _) (by decide:181≤200)) h0
theorem ow102{y0 y1:Nat}(h0:((y0+(4*(y1+1)))+200)≤1000):y0<1000:=Nat.lt_of_lt_of_le (Nat.lt_of_le_of_lt (Nat.le_add_right _ _) (Nat.lt_add_of_pos_right (by decide))) h0
theorem ow103{y0 y1 y2:Nat}(h0:y0<y1)(h1:y1≤(y2+1)):y0≤y2:=Nat.le_of_lt_succ (Nat.lt_of_lt_of_le h0 h1)
theorem ow104{y0 y1:Nat}(h0:y0<y1):y0<y1:=h0
end
section
inductive V where
 |none|bool (b:Bool)|int (i:Int)|str (s:Str)|bytes (b:Array UInt8)
 |tup (vs:List V)|obj (c:Addr) (fs:List (Str×V))|loc (l:Nat)|rng (n:Nat)|fix (v:Value)
 deriving Inhabited
noncomputable def sR(v:V):Option (Addr×List (Str×V)):=V.casesOn v none (λU=>none) (λU=>none) (λU=>none) (λU=>none) (λU=>none) (λC fs=>some (C,fs)) (λU=>none) (λU=>none) λU=>none
noncomputable def UR(v:V):Option Bool:=V.casesOn v none some (λU=>none) (λU=>none) (λU=>none) (λU=>none) (λU U=>none) (λU=>none) (λU=>none) λU=>none
noncomputable def dY(v:V):Option Int:=V.casesOn v none (λU=>none) some (λU=>none) (λU=>none) (λU=>none) (λU U=>none) (λU=>none) (λU=>none) λU=>none
noncomputable def jT(v:V):Option Str:=V.casesOn v none (λU=>none) (λU=>none) some (λU=>none) (λU=>none) (λU U=>none) (λU=>none) (λU=>none) λU=>none
noncomputable def iO(v:V):Option (List V):=V.casesOn v none (λU=>none) (λU=>none) (λU=>none) (λU=>none) some (λU U=>none) (λU=>none) (λU=>none) λU=>none
noncomputable def iX(v:V):Option Nat:=V.casesOn v none (λU=>none) (λU=>none) (λU=>none) (λU=>none) (λU=>none) (λU U=>none) some (λU=>none) λU=>none
noncomputable def AS(v:V):Option Value:=V.casesOn v none (λU=>none) (λU=>none) (λU=>none) (λU=>none) (λU=>none) (λU U=>none) (λU=>none) (λU=>none) some
noncomputable def isNone(v:V):Bool:=V.casesOn v true (λU=>false) (λU=>false) (λU=>false) (λU=>false) (λU=>false) (λU U=>false) (λU=>false) (λU=>false) λU=>false
noncomputable def mP:V→Option Addr
 | .fix (.ref a)=>some a
 |_=>none
set_option genInjectivity true in
inductive Key where
 |s (x:Str)|p (x:Str) (i:Int)
 deriving DecidableEq,Inhabited
noncomputable def iZ:Key→V
 | .s x=> .str x
 | .p x i=> .tup [.str x,.int i]
noncomputable def OL(a b:V):Option Key:=(jT a).bind λx=>(dY b).map λi=> .p x i
noncomputable def t4(vs:List V):Option (V×V):=List.casesOn vs none λa r=>List.casesOn r none λb q=>List.casesOn q (some (a,b)) λU U=>none
noncomputable def iA(v:V):Option Key:=V.casesOn v none (λU=>none) (λU=>none) (λx=>some (.s x)) (λU=>none) (λvs=>(t4 vs).bind λq=>OL q.1 q.2) (λU U=>none) (λU=>none) (λU=>none) λU=>none
noncomputable def Key.isS:Key→Bool
 | .s _=>true
 | .p .. =>false
inductive O where
 |list (vs:List V)|dict (es:List (Key×V)) (ep:Nat)|cell (v:Option V)|fro (cs:List Value)
 deriving Inhabited
abbrev Hp:=List O
abbrev Lc:=List (Str×V)
inductive Res where
 |ok (v:V) (H:Hp)|exc (c:Addr) (H:Hp)|stuck
 deriving Inhabited
inductive Fl where
 |next|cont|ret (v:V)
abbrev TQ:=Value→Shared→Prop
abbrev TK:=Fl→Lc→Hp→Res
abbrev TP:=V→Hp→Prop
abbrev TV:=V→Hp→Res
abbrev TX:=Addr→Hp→Prop
abbrev TY:=Addr→Hp→Res
abbrev TG:=List (Key×V)
abbrev TL:=List V
abbrev TS:=List Str
abbrev TO:=Option V
abbrev TM:=Str→Option Value
noncomputable def ob{α:Type}(o:Option α)(k:α→Res):Res:=match o with
 |some a=>k a
 |none=> .stuck
noncomputable def gd(c:Bool)(r:Res):Res:=match c with
 |true=>r
 |false=> .stuck
noncomputable def onO{α:Type}(z:α)(fl:TL→α)(fd:TG→Nat→α)(fc:TO→α)(ff:List Value→α)(o:Option O):α:=Option.casesOn o z λo=>O.casesOn o fl fd fc ff
noncomputable def aO(H:Hp)(l:Nat):Option (TL):=onO none some (λU U=>none) (λU=>none) (λU=>none) H[l]?
noncomputable def iI:List Value→Option (TL)
 |[]=>some []
 | .int i _::r=>(iI r).map (.int i::·)
 |_::_=>none
noncomputable def sP(H:Hp)(l:Nat):Option (TL):=onO none some (λU U=>none) (λU=>none) iI H[l]?
noncomputable def bM(H:Hp)(l:Nat):TO:=onO none (λU=>none) (λU U=>none) id (λU=>none) H[l]?
noncomputable def kJ(H:Hp)(l:Nat):Bool:=onO false (λU=>false) (λU U=>false) (λU=>true) (λU=>false) H[l]?
noncomputable def aP(k:Key):TG→TO
 |[]=>none
 |(a,v)::r=>if a=k then some v else aP k r
noncomputable def cP(k:Key)(v:V):TG→TG
 |[]=>[(k,v)]
 |(a,u)::r=>if a=k then (a,v)::r else (a,u)::cP k v r
noncomputable def cA(k:Key)(es:TG):Bool:=es.all λe=>e.1.isS==k.isS
noncomputable def TN(b:V):Option Bool:=V.casesOn b (some true) (λU=>none) (λU=>some false) (λU=>some false) (λU=>none) (λU=>none) (λU U=>none) (λU=>none) (λU=>none) λU=>none
noncomputable def intEq(x:Int)(b:V):Option Bool:=V.casesOn b (some false) (λU=>none) (λy=>some (x==y)) (λU=>some false) (λU=>none) (λU=>none) (λU U=>none) (λU=>none) (λU=>none) λU=>none
noncomputable def strEq(x:Str)(b:V):Option Bool:=V.casesOn b (some false) (λU=>none) (λU=>some false) (λy=>some (x==y)) (λU=>none) (λU=>some false) (λU U=>none) (λU=>none) (λU=>none) λU=>none
noncomputable def eq0(a b:V):Option Bool:=V.casesOn a (TN b) (λx=>(UR b).map (x==·)) (λx=>intEq x b) (λx=>strEq x b) (λU=>none) (λU=>(jT b).map λU=>false) (λU U=>none) (λU=>none) (λU=>none) λU=>none
noncomputable def jV(f:V→V→Option Bool):TL→TL→Option Bool
 |[],l=>some l.isEmpty
 |a::r,l=>List.casesOn l (some false) λb q=>(f a b).bind λx=>(jV f r q).map λy=>x&&y
noncomputable def eq1(a b:V):Option Bool:=Option.casesOn (iO a) (eq0 a b) λx=>Option.casesOn (iO b) (eq0 a b) λy=>jV eq0 x y
noncomputable def eqV(H:Hp)(a b:V):Option Bool:=Option.casesOn (iX a) (eq1 a b) λl=>(iX b).bind λm=>(aO H l).bind λxs=>(aO H m).bind λys=>if xs.length=ys.length then jV eq1 xs ys else some false
noncomputable def DL(x:Str)(v:V):Option Bool:=eq0 v (.str x)
noncomputable def w0(x:Str):TL→Option Bool
 |[]=>some false
 |a::r=>(DL x a).bind λh=>(w0 x r).map λm=>h || m
noncomputable def rF(x:Str):TL→Option (TL)
 |[]=>none
 |v::r=>(jT v).bind λy=>if y=x then some r else (rF x r).map (.str y::·)
noncomputable def rN(vs:TL):Bool:=vs.all λv=>(jT v).isSome
noncomputable def cS(es:TG):Bool:=es.all λe=>e.1.isS
noncomputable def xH(H:Hp)(x c:V):Option Bool:=V.casesOn c none (λU=>none) (λU=>none) (λt=>(jT x).bind λu=>some (!(Builtin.Str.occurrences t u 0 t.length 1).isEmpty)) (λU=>none) (λU=>none) (λU U=>none)
 (λl=>onO none (λvs=>(jT x).bind λu=>w0 u vs) (λes U=>(iA x).bind λk=>if cA k es=true then some (aP k es).isSome else none) (λU=>none) (λU=>none) H[l]?) (λU=>none) λU=>none
noncomputable def isNo(a:V):Option Bool:=V.casesOn a (some true) (λU=>none) (λU=>none) (λU=>none) (λU=>none) (λU=>none) (λU U=>some false) (λU=>some false) (λU=>none) λU=>none
noncomputable def cmp(H:Hp)(op:CmpOp)(a b:V):Option Bool:=match op with
 | .Eq=>eqV H a b
 | .NotEq=>(eqV H a b).map (!·)
 | .In=>xH H a b
 | .NotIn=>(xH H a b).map (!·)
 | .Is=>if isNone b=true then isNo a else none
 | .Gt=>(dY a).bind λx=>(dY b).bind λy=>some (decide (y<x))
 |_=>none
noncomputable def mM(i:Int):Bool:=decide (i.natAbs<2^62)
noncomputable def mH(H:Hp)(v:V):Option Bool:=V.casesOn v none some (λU=>none) (λU=>none) (λU=>none) (λU=>none) (λU U=>none)
 (λl=>(aO H l).bind λvs=>if vs.length<2^62 then some (!vs.isEmpty) else none) (λU=>none) λU=>none
noncomputable def CH{α:Type}(a b:V)(k:Int→Int→Option α):Option α:=(dY a).bind λx=>(dY b).bind λy=>k x y
noncomputable def addV(H:Hp)(a b:V):Option (V×Hp):=V.casesOn a none (λU=>none) (λx=>(dY b).bind λy=>some (.int (x+y),H)) (λx=>(jT b).bind λy=>if x.length+y.length≤1000 then some (.str (x++y),H) else none) (λU=>none) (λU=>none) (λU U=>none)
 (λl=>(iX b).bind λm=>(aO H l).bind λxs=>(aO H m).bind λys=>if xs.length+ys.length≤1000 then some (.loc H.length,H++[.list (xs++ys)]) else none) (λU=>none) λU=>none
noncomputable def bH(H:Hp)(op:Operator)(a b:V):Option (V×Hp):=match op with
 | .Add=>addV H a b
 | .Sub=>CH a b λx y=>some (.int (x - y),H)
 | .Mult=>CH a b λx y=>if mM x&&mM y then some (.int (x*y),H) else none
 | .FloorDiv=>CH a b λx y=>if 0<y∧y<1073741824 then some (.int (x / y),H) else none
 | .Mod=>CH a b λx y=>if 0<y then some (.int (x % y),H) else none
 | .Pow=>CH a b λx y=>if mM x&&decide (0≤y)&&decide (y≤5) then some (.int (x^y.toNat),H) else none
 |_=>none
noncomputable def nth{α:Type}(vs:List α)(i:V):Option α:=(dY i).bind λk=>if 0≤k∧k<2^62 then vs[k.toNat]? else none
noncomputable def getItem(H:Hp)(o i:V):TO:=V.casesOn o none (λU=>none) (λU=>none) (λs=>(dY i).bind λk=>if 0≤k∧k<2^62 then (s.cps[k.toNat]?).map λc=> .str ⟨#[c]⟩ else none) (λU=>none) (λvs=>nth vs i) (λU U=>none)
 (λl=>onO none (λvs=>nth vs i) (λes U=>(iA i).bind λk=>if cA k es=true then aP k es else none) (λU=>none) (λU=>none) H[l]?) (λU=>none) λU=>none
noncomputable def cut(H:Hp)(o lo hi:V):Option (V×Hp):=(dY hi).bind λb=>V.casesOn o none (λU=>none) (λU=>none) (λs=>if isNone lo=true∧0≤b∧b≤s.length∧s.length≤1000 then some (.str ⟨s.cps.extract 0 b.toNat⟩,H) else none) (λU=>none)
 (λvs=>(dY lo).bind λa=>if 0≤a∧a≤b∧b≤vs.length∧vs.length≤1000 then some (.tup ((vs.take b.toNat).drop a.toNat),H) else none) (λU U=>none)
 (λl=>(sP H l).bind λvs=>if isNone lo=true∧0≤b∧vs.length≤1000 then some (.loc H.length,H++[.list (vs.take b.toNat)]) else none) (λU=>none) λU=>none
noncomputable def setItem(H:Hp)(o i v:V):Option Hp:=(iX o).bind λl=>onO none (λvs=>(dY i).bind λk=>if 0≤k∧k<2^62∧k.toNat<vs.length then some (H.set l (.list (vs.set k.toNat v))) else none)
 (λes ep=>(iA i).bind λk=>if es.length≤1000∧cA k es=true then some (H.set l (.dict (cP k v es) (if (aP k es).isSome then ep else ep+1))) else none) (λU=>none) (λU=>none) H[l]?
noncomputable def zW(a b:List Nat):Bool:=match a,b with
 |[],[]=>false
 |[],_::_=>true
 |_::_,[]=>false
 |x::r,y::q=>if x<y then true else if y<x then false else zW r q
noncomputable def j6(x:Str):TS→TS
 |[]=>[x]
 |y::r=>if zW y.cps.toList x.cps.toList then y::j6 x r else x::y::r
noncomputable def cI(l:TS):TS:=l.foldr j6 []
noncomputable def jE:TL→Option (TS)
 |[]=>some []
 |v::r=>(jT v).bind λx=>(jE r).map (x::·)
noncomputable def d2(l:TL):Option (List (V×V)):=l.mapM λv=>(iO v).bind t4
noncomputable def c9:List (V×V)→TG→Option (TG)
 |[],es=>some es
 |(a,b)::r,es=>(iA a).bind λk=>if cA k es then c9 r (cP k b es) else none
noncomputable def t5{α:Type}(vs:TL)(k:V→Option α):Option α:=List.casesOn vs none λv r=>List.casesOn r (k v) λU U=>none
noncomputable def OG(H:Hp)(n:String)(v:V):Option (V×Hp):=
 if n="int" then (dY v).bind λ i=>some (.int i,H)
 else if n="str" then (dY v).bind λ i=>if 0≤i∧i<10 then some (.str (Str.ofString (toString i.toNat)),H) else none
 else if n="bytes" then (dY v).bind λ i=>if 0≤i∧i<1000 then some (.bytes (Array.replicate i.toNat 0),H) else none
 else if n="range" then (dY v).bind λ i=>if 0≤i∧i<2^31 then some (.rng i.toNat,H) else none
 else if n="list" then (iO v).bind λ vs=>if vs.length≤1000 then some (.loc H.length,H++[.list vs]) else none
 else if n="dict" then (iX v).bind λ l=>onO none (λ vs=>(d2 vs).bind λ ps=>if ps.length≤1000 then (c9 ps []).map λ es=>(.loc H.length,H++[.dict es es.length]) else none)
  (λes U=>if es.length≤1000∧cS es=true then some (.loc H.length,H++[.dict es 0]) else none) (λU=>none) (λU=>none) H[l]?
 else none
noncomputable def UT(H:Hp)(n:String)(v:V):Option (V×Hp):=
 if n="len" then (iX v).bind λ l=>onO none (λ vs=>if vs.length<2^31 then some (.int vs.length,H) else none) (λ es U=>if es.length<2^31∧cS es=true then some (.int es.length,H) else none) (λ U=>none) (λ U=>none) H[l]?
 else if n="sorted" then (iX v).bind λ l=>onO none (λ U=>none) (λ es U=>(jE (es.map λ e=>iZ e.1)).bind λ ss=>if ss.length<64 then some (.loc H.length,H++[.list ((cI ss).map .str)]) else none) (λ U=>none) (λ U=>none) H[l]?
 else none
noncomputable def aD(H:Hp)(f:Value)(args:TL):Option (V×Hp):=t5 args λv=>match f with
 | .type n=>OG H n v
 | .builtin n=>UT H n v
 |_=>none
noncomputable def NY{α:Type}(vs:TL)(k:Option α):Option α:=List.casesOn vs k λU U=>none
noncomputable def aM(H:Hp)(l:Nat)(vs:TL)(name:Str)(args:TL):Option (V×Hp):=
 if name=Str.ofString "append" then t5 args λ v=>if vs.length≤1000 then some (.none,H.set l (.list (vs++[v]))) else none
 else if name=Str.ofString "pop" then NY args (if vs.length≤1000 then (vs.getLast?).map λ v=>(v,H.set l (.list vs.dropLast)) else none)
 else if name=Str.ofString "remove" then t5 args λ v=>(jT v).bind λ v=>if vs.length≤1000∧rN vs=true then (rF v vs).map λ r=>(.none,H.set l (.list r)) else none
 else none
noncomputable def OK(v:Value):Option Str:=match v with
 | .str s _=>some s
 |_=>none
noncomputable def mK:List Value→Option (TL)
 |[]=>some []
 |v::r=>(OK v).bind λs=>(mK r).map (.str s::·)
noncomputable def p8(o:Obj):Option (List Value):=match o.data with
 | .seq vs _=>if (o.cls== .type "tuple")=true then some vs.toList else none
 |_=>none
noncomputable def NU(K:Frag)(v:Value):TO:=match v with
 | .str s _=>some (.str s)
 | .ref a=>Option.casesOn ((K.lookup a).bind p8) (some (.fix (.ref a))) λvs=>(mK vs).map .tup
 |_=>none
noncomputable def tyBi(v:Value):TO:=match v with
 | .type n=>some (.fix (.type n))
 | .builtin n=>some (.fix (.builtin n))
 |_=>none
noncomputable def glob(K:Frag)(x:Str):TO:=Option.casesOn (nsIn K mainGlobals x) none λ o=>Option.casesOn o (if x=Str.ofString "__name__" then none else (bootBuiltins x).bind tyBi) (NU K)
structure LE where
 scope:Scope
 cells:List (Str×Nat)
 hd:Bool
 deriving Inhabited
noncomputable def t0(x:Str)(v:V):List (Str×V)→List (Str×V)
 |[]=>[(x,v)]
 |(y,u)::r=>if y=x then (y,v)::r else (y,u)::t0 x v r
noncomputable def D6(K:Frag)(C:Addr)(name:Str):Bool:=plainGet K C name&&hasDictIn K C&&(match findIn K (.ref C) name with|some a=>noGet K a|none=>false)
noncomputable def qF(K:Frag)(C:Addr)(name:Str):Bool:=(findIn K (.ref C) "__setattr__"==some (some (.builtin "object.__setattr__")))&&plainOver K C&&hasDictIn K C&&(takerIn K C name==some none)
noncomputable def EW(K:Frag)(C:Addr)(name:Str):Option Addr:=if plainGet K C name then (match findIn K (.ref C) name with
 |some (some (.ref f))=>if isFn K (.ref f) then some f else none
 |_=>none) else none
noncomputable def uK(K:Frag)(C:Addr):Option Addr:=if makesIn K C then (match findIn K (.ref C) "__init__" with
 |some (some (.ref f))=>if isFn K (.ref f) then some f else none
 |_=>none) else none
noncomputable def GJ(K:Frag)(B:Addr)(name:Str):Option Addr:=if readsIn K B (.type "type")&&specialIn K (.ref B) "__getattribute__"==some (some (.builtin "type.__getattribute__")) then (match findCls K (.ref B) (.type "type") name with
 |some (.val (.ref f))=>some f
 |_=>none) else none
noncomputable def g9(K:Frag)(f:Addr):Option FuncData:=match K.lookup f with
 |some ⟨_,_,.func fd,_⟩=>some fd
 |_=>none
noncomputable def uO(K:Frag)(fd:FuncData):Bool:=
 fd.globals==mainGlobals&&fd.closure.isEmpty&&fd.builtins==builtinsNs&&fd.params.posonlyargs.isEmpty&&fd.params.kwonlyargs.isEmpty&&fd.params.vararg.isNone&&fd.params.kwarg.isNone&&
 codeIn K fd.code fd.qualname&&!fd.scope.isGenerator&&!fd.scope.isCoroutine&&(fd.scope.kind== .function)&&decide ((fd.scope.names.map (·.1)).Nodup)&&
 (fd.params.args.all λa=>fd.scope.names.lookup a.arg==some .local || fd.scope.names.lookup a.arg==some .cell)&&decide ((fd.params.args.map (·.arg)).Nodup)
noncomputable def lZ(fd:FuncData):Option (List Stmt):=match fd.body with
 | .stmts b=>some b
 | .expr _=>none
noncomputable def jL(K:Frag)(fd:FuncData):Option (TL):=match fd.defaults with
 | .none=>some []
 | .ref a=>(match K.lookup a with
   |some ⟨.type "tuple",none,.seq vs _,_⟩=>vs.toList.mapM fun| .none=>some .none| .str s _=>some (.str s)|_=>none
   |_=>none)
 |_=>none
noncomputable def hM(K:Frag)(fd:FuncData)(args:TL):Option Lc:=
 let names:=fd.params.args.map (·.arg)
 (jL K fd).bind λds=>
  if args.length=names.length then some (names.zip args)
  else if args.length<names.length∧names.length≤args.length+ds.length∧ds.length≤names.length then some (names.zip (args++ds.drop (args.length+ds.length - names.length))) else none
noncomputable def mY(chk:Hp→Bool)(turn:V→Lc→Hp→(TK)→Res)(k:TK):TL→Lc→Hp→Res
 |[],lc,H=>gd (chk H) (k .next lc H)
 |v::rest,lc,H=>gd (chk H) (turn v lc H (λf lc' H'=>match f with
   | .next=>mY chk turn k rest lc' H'
   | .cont=>mY chk turn k rest lc' H'
   | .ret r=>k (.ret r) lc' H'))
noncomputable def jX(chk:Hp→Bool)(turn:V→Hp→(TO→Hp→Res)→Res)(acc:Nat)(k:Hp→Res):TL→Hp→Res
 |[],H=>gd (chk H) (k H)
 |v::rest,H=>gd (chk H) (turn v H (λr H'=>match r with
   |none=>jX chk turn acc k rest H'
   |some x=>ob (aO H' acc) λvs=>gd (vs.length≤1000) (jX chk turn acc k rest (H'.set acc (.list (vs++[x]))))))
noncomputable def lM(l:Nat)(o:O)(H:Hp):Bool:=@decide (H[l]?=some o) (Classical.propDecidable _)
noncomputable def dQ(H:Hp)(v:V):Option (TL×(Hp→Bool)):=V.casesOn v none (λU=>none) (λU=>none) (λU=>none) (λU=>none) (λvs=>some (vs,λU=>true)) (λU U=>none)
 (λl=>onO none (λvs=>some (vs,lM l (.list vs))) (λes ep=>if cS es=true then some (es.map λe=>iZ e.1,lM l (.dict es ep)) else none) (λU=>none) (λU=>none) H[l]?)
 (λn=>if n<2^31 then some ((List.range n).map λ(i:Nat)=> .int i,λU=>true) else none) λU=>none
noncomputable def uZ:Const→TO
 | .none=>some .none
 | .bool b=>some (.bool b)
 | .int i=>some (.int i)
 | .str s=>some (.str s)
 |_=>none
noncomputable def cellsFor(scope:Scope)(n:Nat):List (Str×Nat):=go n scope.names
where go (n:Nat):List (Str×NameKind)→List (Str×Nat)
 |[]=>[]
 |(x,kd)::r=>if kd== .cell then (x,n)::go (n+1) r else go n r
noncomputable def eZ(le:LE):Lc→Lc→Hp→Option (Lc×Hp)
 |[],lc,H=>some (lc,H)
 |(x,v)::r,lc,H=>match le.scope.names.lookup x with
  |some .local=>eZ le r ((x,v)::lc) H
  |some .cell=>(le.cells.lookup x).bind λl=>if kJ H l then eZ le r lc (H.set l (.cell (some v))) else none
  |_=>none
inductive Where where
 |loc|glob|cell
noncomputable def xF(x:Str)(k:NameKind):Option Where:=match k with
 | .local=>some .loc
 | .globalImplicit=>some .glob
 | .cell=>some .cell
 | .free=>if x=Str.ofString "__classdict__" then none else some .cell
 |_=>none
noncomputable def cO(le:LE)(x:Str):Option Where:=if x=Str.ofString "__debug__" then none else (le.scope.names.lookup x).bind (xF x)
noncomputable def jU(K:Frag)(le:LE)(lc:Lc)(H:Hp)(x:Str):TO:=(cO le x).bind λw=>Where.casesOn w (lc.lookup x) (glob K x) ((le.cells.lookup x).bind (bM H))
noncomputable def qR:List CmpOp→List Expr→Option (CmpOp×Expr)
 |[op],[r]=>some (op,r)
 |_,_=>none
noncomputable def pO:Expr→Option (Option Expr×Option Expr)
 | .Slice lo hi st _=>(match st with
  |none=>some (lo,hi)
  |some _=>none)
 |_=>none
noncomputable def l0:Expr→Option (Expr×Str×Pos)
 | .Attribute o name ap=>some (o,name,ap)
 |_=>none
noncomputable def gG:Expr→Option (Str×Pos)
 | .Name x p=>some (x,p)
 |_=>none
noncomputable def rI:Expr→Option (Expr×List Expr×List Keyword×Pos)
 | .Call f as ks p=>some (f,as,ks,p)
 |_=>none
noncomputable def N2:Expr→Option (Const×Nat×Pos)
 | .Constant c n p=>some (c,n,p)
 |_=>none
noncomputable def isStr:Const→Bool
 | .str _=>true
 |_=>false
noncomputable def sW{α:Type}:List α→Option α
 |[a]=>some a
 |_=>none
noncomputable def starE:Expr→Bool
 | .Starred _ _=>true
 |_=>false
noncomputable def qQ(gens:List Comprehension):Option (Str×Pos×Expr×List Expr):=(sW gens).bind λg=>if g.is_async=0 then (gG g.target).map λq=>(q.1,q.2,g.iter,g.ifs) else none
noncomputable def tZ(e c:Option Expr):Option (Str×Pos):=match c with
 |some _=>none
 |none=>e.bind λx=>(rI x).bind λq=>if q.2.2.1.isEmpty then (gG q.1).bind λy=>(sW q.2.1).bind λa=>(N2 a).bind λz=>if isStr z.1 then some y else none else none
noncomputable def u0:ExceptHandler→Option (Str×Pos×List Stmt)
 | .ExceptHandler t nm body _=>if nm.isNone&&!body.isEmpty then t.bind λe=>(gG e).map λy=>(y.1,y.2,body) else none
noncomputable def pT(ts:List Expr):Option (Str×Str):=(sW ts).bind λt=>(l0 t).bind λq=>(gG q.1).map λy=>(y.1,q.2.1)
noncomputable def G4(e:Expr):Option (Str×Str×Str×List Expr×Pos×Bool):=(rI e).bind λq=>if q.2.2.1.isEmpty then (l0 q.1).bind λa=>(gG a.1).bind λb=>(match q.2.1 with
  |[]=>none
  |x::args=>(gG x).map λy=>(b.1,a.2.1,y.1,args,q.2.2.2,a.2.2.endLine==q.2.2.2.line)) else none
noncomputable def uJ(w:Option Where):Bool:=match w with
 |some .glob=>true
 |_=>false
noncomputable def dG(m:Addr):List Value:=[.ref m,.type "Exception",.type "BaseException",.type "object"]
structure ExcB (K:Frag) (fd:FuncData) (p1 ap p q1 q2 p3 q3 r3 p4 q4 r4 u3 u4 u5:Pos):Prop where
 fn:g9 K 36=some fd
 ok:uO K fd=true
 nc:(fd.scope.names.all λp=>p.2 != .cell)=true
 ps:fd.params.args.map (·.arg)=[Str.ofString "self",Str.ofString "what",Str.ofString "at"]
 df:jL K fd=some [.none]
 body:lZ fd=some [.Expr (.Call (.Attribute (.Name (Str.ofString "Exception") p1) (Str.ofString "__init__") ap) [.Name (Str.ofString "self") q1,.Name (Str.ofString "what") q2] [] p) u3,
  .Assign [.Attribute (.Name (Str.ofString "self") p3) (Str.ofString "what") q3] (.Name (Str.ofString "what") r3) u4,.Assign [.Attribute (.Name (Str.ofString "self") p4) (Str.ofString "at") q4] (.Name (Str.ofString "at") r4) u5]
 line:ap.endLine=p.line
 wh:cO ⟨fd.scope,[],false⟩ (Str.ofString "Exception")=some .glob
 gl:glob K (Str.ofString "Exception")=some (.fix (.type "Exception"))
 fc:findCls K (.type "Exception") (.type "type") (Str.ofString "__init__")=some (.val (.builtin "Exception.__init__"))
structure ExcC (K:Frag) (c m:Addr):Prop where
 cls:∃cd,clsIn K c=some cd∧cd.mro= .ref c::dG m∧cd.hasDict=true
 set:findIn K (.ref c) "__setattr__"=some (some (.builtin "object.__setattr__"))
structure ExcK (K:Frag) (c m:Addr):Prop extends ExcC K c m where
 obj:∃nm q N bs hdct sn sub ab col dd k0 k1 k2 k3 k5,K.lookup c=some (excClassObj nm q c N bs (dG m) hdct sn sub ab col dd k0 k1 k2 k3 k5 "Exception.__new__")
 init:findIn K (.ref c) "__init__"=some (some (.ref 36))
 fn:typeIn K (.ref 36)=some (.type "function")
 what:takerIn K c (Str.ofString "what")=some none
 at_:takerIn K c (Str.ofString "at")=some none
 body:∃fd p1 ap p q1 q2 p3 q3 r3 p4 q4 r4 u3 u4 u5,ExcB K fd p1 ap p q1 q2 p3 q3 r3 p4 q4 r4 u3 u4 u5
noncomputable def cW(K:Frag)(c:Addr):Bool:=@decide (∃m,ExcK K c m) (Classical.propDecidable _)
noncomputable def EQ:V→Bool
 | .fix _=>false
 |_=>true
noncomputable def uQ(K:Frag)(name:Str)(p:Addr×List (Str×V)):TO:=if D6 K p.1 name then (p.2.lookup name).bind λv=>if EQ v then some v else none else none
noncomputable def noStar:List Expr→Bool
 |[]=>true
 | .Starred _ _::_=>false
 |_::r=>noStar r
noncomputable def dJ(K:Frag)(name:Str)(p:Addr×List (Str×V)):Option Addr:=match p.2.lookup name with
 |none=>EW K p.1 name
 |some _=>none
abbrev CF:=Addr→TL→Hp→Res
noncomputable def bB(K:Frag)(f:Value):Bool:=match f with
 | .builtin _=>true
 | .type _=>true
 |f=>keepIn K f
noncomputable def f0(name:Str):Bool:=name==Str.ofString "append" || name==Str.ofString "pop" || name==Str.ofString "remove"
noncomputable def fX:Expr→Bool
 | .Call (.Name _ _) [] [] _=>false
 |_=>true
noncomputable def bT(r:Res)(k:TV)(kx:TY):Res:=match r with
 | .ok v H=>k v H
 | .exc c H=>kx c H
 | .stuck=> .stuck
noncomputable def nY(le:LE)(scope:Scope):Bool:=(scope.kind== .function)&&(scope.names.all λp=>p.2 != .cell)&&decide ((scope.names.map (·.1)).Nodup)&&
 (scope.names.all λp=>p.2 != .free || ((le.cells.lookup p.1).isSome&&(le.scope.names.lookup p.1==some .cell || le.scope.names.lookup p.1==some .free)))
noncomputable def tupE(e:Expr):Option (List Expr):=match e with
 | .Tuple ts _ _=>some ts
 |_=>none
noncomputable def listE(e:Expr):Bool:=match e with
 | .List .. =>true
 |_=>false
noncomputable def yS(le:LE)(t e:Expr):Bool:=!listE t&&Option.casesOn (tupE t) true λts=>Option.casesOn (tupE e) true λU=>ts.any λx=>Option.casesOn (gG x) false λq=>le.scope.names.lookup q.1==some .cell
section
variable (K:Frag) (cf:CF)
noncomputable def noX:TY:=λU U=> .stuck
noncomputable def wW:Addr→Lc→Hp→Res:=λU U U=> .stuck
mutual
noncomputable def ev(n:Nat)(e:Expr)(le:LE)(lc:Lc)(H:Hp)(k:TV)(kx:TY):Res:=
 match n with
 |0=> .stuck
 |n+1=>match e with
  | .Constant c _ _=>ob (uZ c) λv=>k v H
  | .Name x _=>ob (jU K le lc H x) λv=>k v H
  | .BinOp l op r _=>ev n l le lc H (λa H=>ev n r le lc H (λb H=>ob (bH H op a b) λp=>k p.1 p.2) kx) kx
  | .UnaryOp op x _=>gd (op== .USub) (ev n x le lc H (λa H=>ob (dY a) λi=>k (.int (-i)) H) kx)
  | .Compare l ops rs _=>ob (qR ops rs) λq=>gd (!behindInMarks q.1 q.2)<|ev n l le lc H (λa H=>ev n q.2 le lc H (λb H=>ob (cmp H q.1 a b) λt=>k (.bool t) H) kx) kx
  | .IfExp t a b _=>tst n t le lc H (λc H=>if c then ev n a le lc H k kx else ev n b le lc H k kx) kx
  | .Tuple es _ _=>evs n es le lc H (λvs H=>gd (vs.length≤1000) (k (.tup vs) H)) kx
  | .List es _=>evs n es le lc H (λvs H=>gd (vs.length≤1000) (k (.loc H.length) (H++[.list vs]))) kx
  | .Dict ks vs _=>gd (ks.all (·.isSome)&&ks.length==vs.length&&decide (ks.length≤15))<|evd n ks vs le lc H (λps H=>gd (ps.length≤15) (ob (c9 ps []) λes=>k (.loc H.length) (H++[.dict es es.length]))) kx
  | .Attribute o name _=>gd (fX o)<|ev n o le lc H (λa H=>ob (sR a) λp=>ob (uQ K name p) λv=>k v H) kx
  | .Subscript o i _=>(match pO i with
   |some q=>ev n o le lc H (λa H=>evo n q.1 le lc H (λl H=>evo n q.2 le lc H (λh H=>ob (cut H a l h) λp=>k p.1 p.2) kx) kx) kx
   |none=>ev n o le lc H (λa H=>ev n i le lc H (λb H=>ob (getItem H a b) λv=>k v H) kx) kx)
  | .Call f args ks p=>gd (ks.isEmpty&&decide (args.length≤24)&&noStar args) (match l0 f with
   |some q=>gd (fX q.1&&q.2.2.endLine==p.line) (ev n q.1 le lc H (λa H=>match a with
    | .obj C fs=>ob (dJ K q.2.1 (C,fs)) λf=>gd (bB K (.ref f))<|evs n args le lc H (λvs H=>gd (!le.hd) (bT (cf f (a::vs) H) k kx)) kx
    | .loc l=>gd ((aO H l).isSome&&f0 q.2.1) (evs n args le lc H (λvs H=>ob (aO H l) λxs=>ob (aM H l xs q.2.1 vs) λp=>k p.1 p.2) kx)
    |_=> .stuck) kx)
   |none=>ev n f le lc H (λa H=>ob (AS a) λv=>gd (bB K v)<|match v with
    | .ref g=>(match uK K g with
      |some fI=>evs n args le lc H (λvs H=>make n g fI vs H [] (λfs H=>k (.obj g fs) H)) kx
      |none=>gd (g9 K g).isSome (evs n args le lc H (λvs H=>gd (!le.hd) (bT (cf g vs H) k kx)) kx))
    |b=>gd (!le.hd) (evs n args le lc H (λvs H=>ob (aD H b vs) λp=>k p.1 p.2) kx)) kx)
  | .ListComp elt gens scope _=>ob (qQ gens) λq=>gd (!le.hd&&nY le scope)<|ev n q.2.2.1 le lc H (λa H=>ob (dQ H a) λit=>
     jX it.2 (λv H k'=>asg n (.Name q.1 q.2.1) v ⟨scope,le.cells,le.hd⟩ [] H (λlc' H=>tsts n q.2.2.2 ⟨scope,le.cells,le.hd⟩ lc' H (λc H=>
      if c then ev n elt ⟨scope,le.cells,le.hd⟩ lc' H (λx H=>k' (some x) H) noX else k' none H) noX)) H.length (λH'=>k (.loc H.length) H') it.1 (H++[.list []])) kx
  |_=> .stuck
noncomputable def evs(n:Nat)(es:List Expr)(le:LE)(lc:Lc)(H:Hp)(k:TL→Hp→Res)(kx:TY):Res:=
 match n with
 |0=> .stuck
 |n+1=>match es with
  |[]=>k [] H
  |e::r=>gd (!starE e)<|ev n e le lc H (λv H=>evs n r le lc H (λvs H=>k (v::vs) H) kx) kx
noncomputable def evo(n:Nat)(e:Option Expr)(le:LE)(lc:Lc)(H:Hp)(k:TV)(kx:TY):Res:=
 match n with
 |0=> .stuck
 |n+1=>match e with
  |none=>k .none H
  |some e=>ev n e le lc H k kx
noncomputable def evd(n:Nat)(ks:List (Option Expr))(vs:List Expr)(le:LE)(lc:Lc)(H:Hp)(k:List (V×V)→Hp→Res)(kx:TY):Res:=
 match n with
 |0=> .stuck
 |n+1=>match ks,vs with
  |[],[]=>k [] H
  |some a::r,b::q=>ev n a le lc H (λu H=>ev n b le lc H (λv H=>evd n r q le lc H (λps H=>k ((u,v)::ps) H) kx) kx) kx
  |_,_=> .stuck
noncomputable def tst(n:Nat)(e:Expr)(le:LE)(lc:Lc)(H:Hp)(k:Bool→Hp→Res)(kx:TY):Res:=
 match n with
 |0=> .stuck
 |n+1=>match e with
  | .BoolOp op es _=>(match op with
   | .And=>ands n es le lc H k kx
   | .Or=>ors n es le lc H k kx)
  | .Compare l ops rs _=>ob (qR ops rs) λq=>gd (!behindInMarks q.1 q.2)<|ev n l le lc H (λa H=>ev n q.2 le lc H (λb H=>ob (cmp H q.1 a b) λt=>k t H) kx) kx
  | .Name x p=>ev n (.Name x p) le lc H (λv H=>ob (mH H v) λt=>k t H) kx
  |_=> .stuck
noncomputable def ands(n:Nat)(es:List Expr)(le:LE)(lc:Lc)(H:Hp)(k:Bool→Hp→Res)(kx:TY):Res:=
 match n with
 |0=> .stuck
 |n+1=>match es with
  |[]=>k true H
  |e::r=>tst n e le lc H (λc H=>if c then ands n r le lc H k kx else k false H) kx
noncomputable def ors(n:Nat)(es:List Expr)(le:LE)(lc:Lc)(H:Hp)(k:Bool→Hp→Res)(kx:TY):Res:=
 match n with
 |0=> .stuck
 |n+1=>match es with
  |[]=>k false H
  |e::r=>tst n e le lc H (λc H=>if c then k true H else ors n r le lc H k kx) kx
noncomputable def tsts(n:Nat)(es:List Expr)(le:LE)(lc:Lc)(H:Hp)(k:Bool→Hp→Res)(kx:TY):Res:=
 match n with
 |0=> .stuck
 |n+1=>match es with
  |[]=>k true H
  |e::r=>gd r.isEmpty (tst n e le lc H k kx)
noncomputable def asg(n:Nat)(t:Expr)(v:V)(le:LE)(lc:Lc)(H:Hp)(k:Lc→Hp→Res):Res:=
 match n with
 |0=> .stuck
 |n+1=>match t with
  | .Name x _=>(match le.scope.names.lookup x with
    |some .local=>k ((x,v)::lc) H
    |some .cell=>ob (le.cells.lookup x) λl=>gd (kJ H l) (k lc (H.set l (.cell (some v))))
    |_=> .stuck)
  | .Subscript o i _=>ev n o le lc H (λa H=>ev n i le lc H (λb H=>ob (setItem H a b v) λH=>k lc H) noX) noX
  | .Tuple ts _ _=>ob (iO v) λvs=>gd (ts.length==vs.length&&!le.hd&&noStar ts) (asgs n ts vs le lc H k)
  |_=> .stuck
noncomputable def asgs(n:Nat)(ts:List Expr)(vs:TL)(le:LE)(lc:Lc)(H:Hp)(k:Lc→Hp→Res):Res:=
 match n with
 |0=> .stuck
 |n+1=>match ts,vs with
  |[],[]=>k lc H
  |t::r,v::q=>gd (gG t).isSome<|asg n t v le lc H (λlc H=>asgs n r q le lc H k)
  |_,_=> .stuck
noncomputable def make(n:Nat)(C fI:Addr)(args:TL)(H:Hp)(fs:List (Str×V))(k:List (Str×V)→Hp→Res):Res:=
 match n with
 |0=> .stuck
 |n+1=>ob (g9 K fI) λ fd=>gd (uO K fd&&(fd.scope.names.all λ p=>p.2 != .cell)&&((fd.params.args.map (·.arg)).head?==some (Str.ofString "self")))
   (ob (hM K fd (.none::args)) λbs=>ob (lZ fd) λbody=>init n C body ⟨fd.scope,[],true⟩ bs.tail.reverse H fs k)
noncomputable def init(n:Nat)(C:Addr)(body:List Stmt)(le:LE)(lc:Lc)(H:Hp)(fs:List (Str×V))(k:List (Str×V)→Hp→Res):Res:=
 match n with
 |0=> .stuck
 |n+1=>match body with
  |[]=>k fs H
  |st::rest=>(match st with
   | .Assign ts value _=>ob (pT ts) λ q=>gd (q.1==Str.ofString "self"&&qF K C q.2&&decide (fs.length≤100))
    (ev n value le lc H (λv H=>init n C rest le lc H (t0 q.2 v fs) k) noX)
   | .Expr e _=>ob (G4 e) λ q=>gd (q.2.2.1==Str.ofString "self"&&decide (q.2.2.2.1.length≤20)&&noStar q.2.2.2.1&&q.2.2.2.2.2&&uJ (cO le q.1))
    (ob (glob K q.1) λbv=>ob (mP bv) λB=>ob (GJ K B q.2.1) λfI=>gd (bB K (.ref fI)) (evs n q.2.2.2.1 le lc H (λvs H=>make n C fI vs H fs (λfs H=>init n C rest le lc H fs k)) noX))
   |_=> .stuck)
end
mutual
noncomputable def ex(n:Nat)(st:Stmt)(le:LE)(lc:Lc)(H:Hp)(k:TK)(kx:Addr→Lc→Hp→Res):Res:=
 match n with
 |0=> .stuck
 |n+1=>match st with
  | .Expr e _=>gd (rI e).isSome (ev K cf n e le lc H (λU H=>k .next lc H) (λc H=>kx c lc H))
  | .Assign ts e _=>ob (sW ts) λt=>gd (yS le t e)<|ev K cf n e le lc H (λv H=>asg K cf n t v le lc H (λlc H=>k .next lc H)) (λc H=>kx c lc H)
  | .If t a b _=>tst K cf n t le lc H (λc H=>if c then exs n a le lc H k kx else exs n b le lc H k kx) (λc H=>kx c lc H)
  | .Return e _=>ob e λe=>ev K cf n e le lc H (λv H=>k (.ret v) lc H) (λc H=>kx c lc H)
  | .Continue _=>k .cont lc H
  | .For t it body els _=>gd (!le.hd&&els.isEmpty) (ev K cf n it le lc H (λa H=>ob (dQ H a) λi=>
    mY i.2 (λv lc H k'=>asg K cf n t v le lc H (λlc H=>exs n body le lc H k' kx)) k i.1 lc H) (λc H=>kx c lc H))
  | .Raise e c _=>ob (tZ e c) λq=>gd (!le.hd) (ev K cf n (.Name q.1 q.2) le lc H (λa H=>ob (mP a) λc=>gd (cW K c) (kx c lc H)) (λc H=>kx c lc H))
  | .Try body hs els fin _=>gd (!le.hd&&els.isEmpty) (match fin with
   |f::fin=>gd hs.isEmpty (exs n body le lc H
    (λfl lc H=>exs n (f::fin) le lc H (λg lc H=>match g with| .next=>k fl lc H|_=> .stuck) wW)
    (λc lc H=>exs n (f::fin) ⟨le.scope,le.cells,true⟩ lc H (λg lc H=>match g with| .next=>kx c lc H|_=> .stuck) wW))
   |[]=>gd (!hs.isEmpty) (exs n body le lc H k (λc lc H=>hnd n hs c le lc H k kx)))
  |_=> .stuck
noncomputable def exs(n:Nat)(sts:List Stmt)(le:LE)(lc:Lc)(H:Hp)(k:TK)(kx:Addr→Lc→Hp→Res):Res:=
 match n with
 |0=> .stuck
 |n+1=>match sts with
  |[]=>k .next lc H
  |st::rest=>ex n st le lc H (λf lc H=>match f with
    | .next=>exs n rest le lc H k kx
    | .cont=>k .cont lc H
    | .ret v=>k (.ret v) lc H) kx
noncomputable def hnd(n:Nat)(hs:List ExceptHandler)(c:Addr)(le:LE)(lc:Lc)(H:Hp)(k:TK)(kx:Addr→Lc→Hp→Res):Res:=
 match n with
 |0=> .stuck
 |n+1=>match hs with
  |[]=>kx c lc H
  |h::rest=>ob (u0 h) λq=>ev K cf n (.Name q.1 q.2.1) le lc H (λa H=>ob (mP a) λC=>gd (cW K c&&cW K C)
    (ob (subIn K (.ref c) (.ref C)) λhit=>if hit then exs n q.2.2 ⟨le.scope,le.cells,true⟩ lc H k wW else hnd n rest c le lc H k kx)) noX
end
end
noncomputable def mI:Nat:=80
noncomputable def ends:TK:=λf U H=>match f with
 | .next=> .ok .none H
 | .ret v=> .ok v H
 | .cont=> .stuck
noncomputable def aB(K:Frag):Nat→CF
 |0,_,_,_=> .stuck
 |d+1,f,args,H=>ob (g9 K f) λfd=>gd (uO K fd) (ob (hM K fd args) λbs=>ob (lZ fd) λbody=>
   ob (eZ ⟨fd.scope,cellsFor fd.scope H.length,false⟩ bs [] (H++(cellsFor fd.scope H.length).map λU=> .cell none)) λp=>
    exs K (aB K d) mI body ⟨fd.scope,cellsFor fd.scope H.length,false⟩ p.1 p.2 ends (λc U H=> .exc c H))
end
section
structure Wd where
 ρ:List (Addr×Nat)
 I:Addr→Option Obj
noncomputable def Wd.ads(W:Wd):List Addr:=W.ρ.map (·.1)
section
variable (W:Wd)
mutual
inductive VRel:V→Value→Prop
 |none:VRel .none .none
 |bool (b:Bool):VRel (.bool b) (.bool b)
 |int (i:Int) (t:Tok):VRel (.int i) (.int i t)
 |str (s:Str) (t:Tok):VRel (.str s) (.str s t)
 |bytes (b:Array UInt8) (t:Tok):VRel (.bytes b) (.bytes b t)
 |tup {vs:TL} {cvs:List Value} {a:Addr} {o:Obj} {n:Nat}:W.I a=some o→o.cls= .type "tuple"→o.data= .seq cvs.toArray n→VRels vs cvs→VRel (.tup vs) (.ref a)
 |obj {C:Addr} {fs:List (Str×V)} {a d:Addr} {es:List DictEntry} {n:Nat}:W.I a=some (instObj C d)→W.I d=some (dictOf es n)→FRels fs es→VRel (.obj C fs) (.ref a)
 |loc {l:Nat} {a:Addr} {off:Nat}:W.ρ[l]?=some (a,off)→VRel (.loc l) (.ref a)
 |rng {n:Nat} {a:Addr} {t u v:Tok}:W.I a=some ⟨.type "range",none,.fields #[.int 0 t,.int n u,.int 1 v],#[]⟩→VRel (.rng n) (.ref a)
 |fix (v:Value):VRel (.fix v) v
inductive VRels:TL→List Value→Prop
 |nil:VRels [] []
 |cons {v:V} {cv:Value} {vs:TL} {cvs:List Value}:VRel v cv→VRels vs cvs→VRels (v::vs) (cv::cvs)
inductive FRels:List (Str×V)→List DictEntry→Prop
 |nil:FRels [] []
 |cons {x:Str} {v:V} {hs:Int} {t:Tok} {cv:Value} {r:List (Str×V)} {q:List DictEntry}:VRel v cv→FRels r q→FRels ((x,v)::r) (⟨hs,.str x t,cv⟩::q)
end
end
theorem ns{α:Type _}{a:α}{g:Prop}(h:none=some a):g:=nomatch h
theorem sn{α:Type _}{a:α}{g:Prop}(h:some a=none):g:=nomatch h
theorem fW{v:V}{x:TL}(h:iO v=some x):v= .tup x:=by cases v<;>first|exact ns h|exact congrArg V.tup (Option.some.inj h)
theorem fZ{v:V}{x:Nat}(h:iX v=some x):v= .loc x:=by cases v<;>first|exact ns h|exact congrArg V.loc (Option.some.inj h)
theorem cG{v:V}{x:Int}(h:dY v=some x):v= .int x:=by cases v<;>first|exact ns h|exact congrArg V.int (Option.some.inj h)
theorem fV{v:V}{x:Str}(h:jT v=some x):v= .str x:=by cases v<;>first|exact ns h|exact congrArg V.str (Option.some.inj h)
theorem CS{v:V}{x:Value}(h:AS v=some x):v= .fix x:=by cases v<;>first|exact ns h|exact congrArg V.fix (Option.some.inj h)
theorem BM{v:V}{x:Addr×List (Str×V)}(h:sR v=some x):v= .obj x.1 x.2:=by cases v<;>first|exact ns h|exact Option.some.inj h▸rfl
theorem lT{v:V}(h:isNone v=true):v= .none:=by cases v<;>first|rfl|exact nomatch h
theorem fN{α:Type}{fl:TL→Option α}{fd:TG→Nat→Option α}{o:Option O}{r:α}(h:onO none fl fd (λU=>none) (λU=>none) o=some r):(∃vs,o=some (.list vs)∧fl vs=some r)∨∃es ep,o=some (.dict es ep)∧fd es ep=some r:=by
 cases o with
 |none=>exact ns h
 |some o=>
  cases o with
  |list vs=>exact .inl (iEA vs rfl h)
  |dict es ep=>exact .inr (dS es ep rfl h)
  |_=>exact ns h
theorem lR{H:Hp}{l:Nat}{vs:TL}(h:aO H l=some vs):H[l]?=some (.list vs):=by
 rcases fN (fl:=some) (fd:=λU U=>none) h with ⟨us,h1,h2⟩|⟨_,_,_,h2⟩
 ·refine QJ h1 ?_;exact (Option.some.inj h2)▸rfl
 ·exact ns h2
theorem C3{H:Hp}{l:Nat}{v:V}(h:bM H l=some v):H[l]?=some (.cell (some v)):=by
 unfold bM at h
 cases q:H[l]? with
 |none=>rw [q] at h;exact ns h
 |some o=>
  rw [q] at h
  cases o with
  |cell u=>exact congrArg (λu=>some (O.cell u)) h
  |_=>exact ns h
theorem CG{H:Hp}{l:Nat}(h:kJ H l=true):∃v,H[l]?=some (.cell v):=by
 unfold kJ at h
 cases q:H[l]? with
 |none=>rw [q] at h;exact nomatch h
 |some o=>
  rw [q] at h
  cases o with
  |cell u=>exact ⟨u,rfl⟩
  |_=>exact nomatch h
theorem dP{H:Hp}{l:Nat}{vs:TL}(h:H[l]?=some (.list vs)):aO H l=some vs:=by unfold aO;refine QC h ?_;rfl
theorem d3{α:Type}{c:Prop}[Decidable c]{a:Option α}{r:α}(h:(if c then a else none)=some r):c∧a=some r:=
 if q:c then ⟨q,(if_pos q).symm.trans h⟩ else ns ((if_neg q).symm.trans h)
theorem CD{α:Type}{c:Prop}[Decidable c]{a b:α}{r:α}(h:(if c then a else b)=r):(c∧a=r)∨(¬c∧b=r):=
 if q:c then .inl ⟨q,(if_pos q).symm.trans h⟩ else .inr ⟨q,(if_neg q).symm.trans h⟩
theorem bN{α β:Type}{o:Option α}{k:α→Option β}{r:β}(h:o.bind k=some r):∃a,o=some a∧k a=some r:=Option.bind_eq_some_iff.mp h
theorem lQ{α β:Type}{o:Option α}{k:α→β}{r:β}(h:o.map k=some r):∃a,o=some a∧k a=r:=Option.map_eq_some_iff.mp h
noncomputable def VInv(W:Wd):V→Value→Prop
 | .none,c=>c= .none
 | .bool b,c=>c= .bool b
 | .int i,c=>∃t,c= .int i t
 | .str s,c=>∃t,c= .str s t
 | .bytes b,c=>∃t,c= .bytes b t
 | .tup vs,c=>∃(cvs:List Value) (a:Addr) (o:Obj) (n:Nat),c= .ref a∧W.I a=some o∧o.cls= .type "tuple"∧o.data= .seq cvs.toArray n∧VRels W vs cvs
 | .obj C fs,c=>∃(a d:Addr) (es:List DictEntry) (n:Nat),c= .ref a∧W.I a=some (instObj C d)∧W.I d=some (dictOf es n)∧FRels W fs es
 | .loc l,c=>∃(a:Addr) (off:Nat),c= .ref a∧W.ρ[l]?=some (a,off)
 | .rng n,c=>∃(a:Addr) (t u v:Tok),c= .ref a∧W.I a=some ⟨.type "range",none,.fields #[.int 0 t,.int n u,.int 1 v],#[]⟩
 | .fix v,c=>c=v
theorem VRel.inv{W:Wd}{v:V}{c:Value}(h:VRel W v c):VInv W v c:=
 h.casesOn (motive_1:=λv c U=>VInv W v c) rfl (λU=>rfl) (λU t=>⟨t,rfl⟩) (λU t=>⟨t,rfl⟩) (λU t=>⟨t,rfl⟩) (λh1 h2 h3 h4=>(bW _ _ _ _ rfl h1 h2 h3 h4)) (λh1 h2 h3=>(jB _ _ _ _ rfl h1 h2 h3)) (λh=>(dS _ _ rfl h)) (λh=>(FL _ _ _ _ rfl h)) (λU=>rfl)
structure Sub (W W':Wd):Prop where
 pre:W.ρ<+:W'.ρ
 sub:∀a o,W.I a=some o→W'.I a=some o
theorem Sub.refl(W:Wd):Sub W W:=⟨List.prefix_refl _,λU U e=>e⟩
theorem Sub.trans{W W' W'':Wd}(x:Sub W W')(y:Sub W' W''):Sub W W'':=⟨x.pre.trans y.pre,λa o e=>y.sub a o (x.sub a o e)⟩
theorem Sub.at{W W':Wd}(x:Sub W W'){l:Nat}{p:Addr×Nat}(e:W.ρ[l]?=some p):W'.ρ[l]?=some p:=by
 refine oE x.pre λt ht=>?_
 rw [←ht,List.getElem?_append_left]
 ·exact e
 ·exact (List.getElem?_eq_some_iff.mp e).1
section
variable {W W':Wd} (x:Sub W W')
include x
theorem VRel.up{v:V}{c:Value}(h:VRel W v c):VRel W' v c:=
 h.rec (motive_1:=λv c U=>VRel W' v c) (motive_2:=λv c U=>VRels W' v c) (motive_3:=λv c U=>FRels W' v c) .none .bool .int .str .bytes (λh1 h2 h3 U r=> .tup (x.sub _ _ h1) h2 h3 r) (λh1 h2 U r=> .obj (x.sub _ _ h1) (x.sub _ _ h2) r) (λh=> .loc (x.at h)) (λh=> .rng (x.sub _ _ h)) .fix .nil (λU U h r=> .cons h r) .nil λU U h r=> .cons h r
theorem VRels.up{v:TL}{c:List Value}(h:VRels W v c):VRels W' v c:=
 h.rec (motive_1:=λv c U=>VRel W' v c) (motive_2:=λv c U=>VRels W' v c) (motive_3:=λv c U=>FRels W' v c) .none .bool .int .str .bytes (λh1 h2 h3 U r=> .tup (x.sub _ _ h1) h2 h3 r) (λh1 h2 U r=> .obj (x.sub _ _ h1) (x.sub _ _ h2) r) (λh=> .loc (x.at h)) (λh=> .rng (x.sub _ _ h)) .fix .nil (λU U h r=> .cons h r) .nil λU U h r=> .cons h r
theorem FRels.up{v:List (Str×V)}{c:List DictEntry}(h:FRels W v c):FRels W' v c:=
 h.rec (motive_1:=λv c U=>VRel W' v c) (motive_2:=λv c U=>VRels W' v c) (motive_3:=λv c U=>FRels W' v c) .none .bool .int .str .bytes (λh1 h2 h3 U r=> .tup (x.sub _ _ h1) h2 h3 r) (λh1 h2 U r=> .obj (x.sub _ _ h1) (x.sub _ _ h2) r) (λh=> .loc (x.at h)) (λh=> .rng (x.sub _ _ h)) .fix .nil (λU U h r=> .cons h r) .nil λU U h r=> .cons h r
end
theorem VRels.ind{W:Wd}{P:TL→List Value→Prop}(nil:P [] [])(cons:∀{v:V} {c:Value} {vs:TL} {cs:List Value},VRel W v c→VRels W vs cs→P vs cs→P (v::vs) (c::cs)){vs:TL}{cs:List Value}(h:VRels W vs cs):P vs cs:=
 h.rec (motive_1:=λU U U=>True) (motive_2:=λvs cs U=>P vs cs) (motive_3:=λU U U=>True) trivial (λU=>trivial) (λU U=>trivial) (λU U=>trivial) (λU U=>trivial) (λU U U U U=>trivial) (λU U U U=>trivial) (λU=>trivial) (λU=>trivial) (λU=>trivial) nil (λh r U q=>cons h r q) trivial λU U U U=>trivial
theorem FRels.ind{W:Wd}{P:List (Str×V)→List DictEntry→Prop}(nil:P [] [])(cons:∀{x:Str} {v:V} {hs:Int} {t:Tok} {c:Value} {r:List (Str×V)} {q:List DictEntry},VRel W v c→FRels W r q→P r q→P ((x,v)::r) (⟨hs,.str x t,c⟩::q)){r:List (Str×V)}{q:List DictEntry}(h:FRels W r q):P r q:=
 h.rec (motive_1:=λU U U=>True) (motive_2:=λU U U=>True) (motive_3:=λr q U=>P r q) trivial (λU=>trivial) (λU U=>trivial) (λU U=>trivial) (λU U=>trivial) (λU U U U U=>trivial) (λU U U U=>trivial) (λU=>trivial) (λU=>trivial) (λU=>trivial) trivial (λU U U U=>trivial) nil λh r U q=>cons h r q
theorem VRels.nilI{W:Wd}{cs:List Value}(h:VRels W [] cs):cs=[]:=
 VRels.casesOn (motive_2:=λvs cs U=>vs=[]→cs=[]) h (λU=>rfl) (λU U q=>nomatch q) rfl
theorem VRels.consI{W:Wd}{v:V}{vs:TL}{cs:List Value}(h:VRels W (v::vs) cs):∃c q,cs=c::q∧VRel W v c∧VRels W vs q:=
 VRels.casesOn (motive_2:=λus cs U=>us=v::vs→∃c q,cs=c::q∧VRel W v c∧VRels W vs q) h (λq=>nomatch q) (λh1 r1 q=>(eW _ _ rfl ((List.cons.inj q).1▸h1) ((List.cons.inj q).2▸r1))) rfl
noncomputable def wR(w:World)(x:Str)(i:Int):Int:=reduceHash (Builtin.Tuple.tupleHashOf [hashStr w x,hashInt i])
section
variable (w:World) (W:Wd)
inductive KRel:Key→Int→Value→Prop
 |s (x:Str) (t:Tok):KRel (.s x) (hashStr w x) (.str x t)
 |p {x:Str} {i:Int} {a:Addr} {o:Obj} {n:Nat} {t u:Tok}:W.I a=some o→o.cls= .type "tuple"→o.data= .seq #[.str x t,.int i u] n→KRel (.p x i) (wR w x i) (.ref a)
inductive ERels:TG→List DictEntry→Prop
 |nil:ERels [] []
 |cons {k:Key} {v:V} {hs:Int} {key cv:Value} {r:TG} {q:List DictEntry}:KRel w W k hs key→VRel W v cv→ERels r q→ERels ((k,v)::r) (⟨hs,key,cv⟩::q)
noncomputable def ORel(off:Nat):O→Obj→Prop
 | .list vs,o=>∃(cvs:List Value) (n:Nat),o=listOf cvs.toArray n∧VRels W vs cvs
 | .dict es ep,o=>∃(ces:List DictEntry),o=dictOf ces (ep+off)∧ERels w W es ces∧(es.map (·.1)).Nodup∧(∀e∈es,∀e'∈es,e.1.isS=e'.1.isS)
 | .cell v,o=>(v=none∧o.data= .cell none)∨∃u cv,v=some u∧VRel W u cv∧o.data= .cell (some cv)
 | .fro cs,o=>o=listOf cs.toArray 0
end
theorem KRel.up{w:World}{W W':Wd}(x:Sub W W'){k:Key}{h:Int}{c:Value}(r:KRel w W k h c):KRel w W' k h c:=
 r.casesOn (motive:=λk h c U=>KRel w W' k h c) .s λh1 h2 h3=> .p (x.sub _ _ h1) h2 h3
theorem ERels.up{w:World}{W W':Wd}(x:Sub W W'){v:TG}{c:List DictEntry}(r:ERels w W v c):ERels w W' v c:=
 r.rec (motive:=λv c U=>ERels w W' v c) .nil λk h U r=> .cons (k.up x) (h.up x) r
theorem ORel.up{w:World}{W W':Wd}(x:Sub W W'){off:Nat}{o:O}{ob:Obj}:ORel w W off o ob→ORel w W' off o ob:=
 o.casesOn (motive:=λo=>ORel w W off o ob→ORel w W' off o ob) (λU h=>h.imp λU h=>h.imp λU h=>⟨h.1,h.2.up x⟩) (λU U h=>h.imp λU h=>(iAA h.1 (h.2.1.up x) h.2.2)) (λU h=>h.imp id λh=>h.imp λU h=>h.imp λU h=>(iAA h.1 (h.2.1.up x) h.2.2)) λU h=>h
structure Inv (w:World) (b0:Heap) (W:Wd) (H:Hp) (h:Heap):Prop where
 base:∀a o,b0.get? a=some o→W.I a=some o
 im:∀a o,W.I a=some o→h.get? a=some o
 len:W.ρ.length=H.length
 obj:∀(l:Nat) (o:O),H[l]?=some o→∃a off ob,W.ρ[l]?=some (a,off)∧h.get? a=some ob∧ORel w W off o ob
 free:∀(l:Nat) (a:Addr) (off:Nat),W.ρ[l]?=some (a,off)→W.I a=none
 inj:W.ads.Nodup
 three:∃o,b0.get? 3=some o
 big:∀(l:Nat) (a:Addr) (off:Nat),W.ρ[l]?=some (a,off)→1<a
theorem Inv.on{w:World}{b0:Heap}{W:Wd}{H:Hp}{h:Heap}(i:Inv w b0 W H h){l:Nat}{o:O}{a:Addr}{off:Nat}(hl:H[l]?=some o)(e:W.ρ[l]?=some (a,off)):∃ob,h.get? a=some ob∧ORel w W off o ob:=by
 refine cQ (i.obj l o hl) λa' off' ob h1 h2 h3=>?_
 refine oA (Prod.mk.inj (Option.some.inj (e.symm.trans h1))) λz1 z2=>?_;subst z1 z2
 exact (iEA ob h2 h3)
structure Step (W:Wd) (h:Heap) (W':Wd) (h':Heap):Prop extends Sub W W' where
 keep:∀a o,h.get? a=some o→a∉W.ads→a∉W'.ads∧W'.I a=W.I a∧∃sl,h'.get? a=some {o with slots:=sl}
 keepF:∀a o vs,h.get? a=some o→o.data= .fields vs→a∉W.ads→h'.get? a=some o
 keepX:∀a o,h.get? a=some o→o.cls≠ .type "frame"→a∉W.ads→h'.get? a=some o
 dom:∀a o,h.get? a=some o→∃o',h'.get? a=some o'
theorem Step.refl(W:Wd)(h:Heap):Step W h W h:={Sub.refl W with
 keep:=λa o e n=>(iAA n rfl ⟨o.slots,e⟩)
 keepF:=λU U U e U U=>e
 keepX:=λU U e U U=>e
 dom:=λU o e=>⟨o,e⟩}
theorem Step.trans{W W' W'':Wd}{h h' h'':Heap}(x:Step W h W' h')(y:Step W' h' W'' h''):Step W h W'' h'':={x.toSub.trans y.toSub with
 keep:=λa o e n=>by
  refine j5 (x.keep a o e n) λn' i' sl e'=>?_
  refine j5 (y.keep a _ e' n') λn'' i'' sl' e''=>?_
  exact (iAA n'' (i''.trans i') ⟨sl',e''⟩)
 keepF:=λa o vs e d n=>y.keepF a o vs (x.keepF a o vs e d n) d (x.keep a o e n).1
 keepX:=λa o e d n=>y.keepX a o (x.keepX a o e d n) d (x.keep a o e n).1
 dom:=λa o e=>let ⟨o',e'⟩:=x.dom a o e;y.dom a o' e'}
theorem Step.none_of{W W':Wd}{h h':Heap}(x:Step W h W' h'){a:Addr}(e:h'.get? a=none):h.get? a=none:=by
 cases q:h.get? a with
 |none=>rfl
 |some o=>refine oE (x.dom a o q) λo' e'=>?_;rw [e] at e';cases e'
structure StepL (L:Addr) (W:Wd) (h:Heap) (W':Wd) (h':Heap):Prop extends Sub W W' where
 keep:∀a o,h.get? a=some o→a≠L→a∉W.ads→a∉W'.ads∧W'.I a=W.I a∧∃sl,h'.get? a=some {o with slots:=sl}
 keepF:∀a o vs,h.get? a=some o→o.data= .fields vs→a≠L→a∉W.ads→h'.get? a=some o
 keepX:∀a o,h.get? a=some o→o.cls≠ .type "frame"→a≠L→a∉W.ads→h'.get? a=some o
 dom:∀a o,h.get? a=some o→∃o',h'.get? a=some o'
theorem StepL.of{W W':Wd}{h h':Heap}(x:Step W h W' h')(L:Addr):StepL L W h W' h':={x.toSub with
 keep:=λa o e U n=>x.keep a o e n
 keepF:=λa o vs e d U n=>x.keepF a o vs e d n
 keepX:=λa o e d U n=>x.keepX a o e d n
 dom:=x.dom}
theorem StepL.refl(L:Addr)(W:Wd)(h:Heap):StepL L W h W h:= .of (Step.refl W h) L
theorem StepL.trans{L:Addr}{W W' W'':Wd}{h h' h'':Heap}(x:StepL L W h W' h')(y:StepL L W' h' W'' h''):StepL L W h W'' h'':={x.toSub.trans y.toSub with
 keep:=λa o e l n=>by
  refine j5 (x.keep a o e l n) λn' i' sl e'=>?_
  refine j5 (y.keep a _ e' l n') λn'' i'' sl' e''=>?_
  exact (iAA n'' (i''.trans i') ⟨sl',e''⟩)
 keepF:=λa o vs e d l n=>y.keepF a o vs (x.keepF a o vs e d l n) d l (x.keep a o e l n).1
 keepX:=λa o e d l n=>y.keepX a o (x.keepX a o e d l n) d l (x.keep a o e l n).1
 dom:=λa o e=>let ⟨o',e'⟩:=x.dom a o e;y.dom a o' e'}
theorem Step.thenL{L:Addr}{WB W W':Wd}{hB h h':Heap}(x:Step WB hB W h)(y:StepL L W h W' h')(hL:hB.get? L=none):Step WB hB W' h':={x.toSub.trans y.toSub with
 keep:=λa o e n=>by
  have l:a≠L:=λq=>by rw [q,hL] at e;cases e
  refine j5 (x.keep a o e n) λn' i' sl e'=>?_
  refine j5 (y.keep a _ e' l n') λn'' i'' sl' e''=>?_
  exact (iAA n'' (i''.trans i') ⟨sl',e''⟩)
 keepF:=λa o vs e d n=>by
  have l:a≠L:=λq=>by rw [q,hL] at e;cases e
  exact y.keepF a o vs (x.keepF a o vs e d n) d l (x.keep a o e n).1
 keepX:=λa o e d n=>by
  have l:a≠L:=λq=>by rw [q,hL] at e;cases e
  exact y.keepX a o (x.keepX a o e d n) d l (x.keep a o e n).1
 dom:=λa o e=>let ⟨o',e'⟩:=x.dom a o e;y.dom a o' e'}
theorem StepL.none_of{L:Addr}{W W':Wd}{h h':Heap}(x:StepL L W h W' h'){a:Addr}(e:h'.get? a=none):h.get? a=none:=by
 cases q:h.get? a with
 |none=>rfl
 |some o=>refine oE (x.dom a o q) λo' e'=>?_;rw [e] at e';cases e'
theorem StepL.but{L:Addr}{W:Wd}{h h':Heap}(sb:Heap.SameBut L h h')(hd:∃o,h'.get? L=some o):StepL L W h W h':={Sub.refl W with
 keep:=λa o e l n=>(iAA n rfl ⟨o.slots,(sb.2 a l).trans e⟩)
 keepF:=λa o U e U l U=>(sb.2 a l).trans e
 keepX:=λa o e U l U=>(sb.2 a l).trans e
 dom:=λa o e=>if q:a=L then q▸hd else ⟨o,(sb.2 a q).trans e⟩}
theorem mem_ads{W:Wd}{a:Addr}:a∈W.ads↔∃(l:Nat) (off:Nat),W.ρ[l]?=some (a,off):=by
 unfold Wd.ads
 rw [List.mem_map]
 constructor
 ·rintro ⟨⟨a',off⟩,hm,rfl⟩
  refine oE (List.getElem?_of_mem hm) λl hl=>?_
  exact (iEE l off hl)
 ·refine qE λl z1=>?_;refine oE z1 λoff hl=>?_;clear z1
  exact (iEA (a,off) (List.mem_of_getElem? hl) rfl)
theorem Inv.fresh{w:World}{b0:Heap}{W:Wd}{H:Hp}{h:Heap}(i:Inv w b0 W H h):h.objs.size∉W.ads∧W.I h.objs.size=none:=by
 have hn:h.get? h.objs.size=none:=by
  cases q:h.get? h.objs.size with
  |none=>rfl
  |some o=>exact absurd (Heap.lt_size q) (Nat.lt_irrefl _)
 constructor
 ·intro hm
  refine oEE (mem_ads.mp hm) λl off hl=>?_
  have hlt:l<H.length:=i.len▸(List.getElem?_eq_some_iff.mp hl).1
  refine cQ (i.obj l H[l] (List.getElem?_eq_getElem hlt)) λa off' ob h1 h2 U=>?_
  rw [hl] at h1;cases h1
  rw [hn] at h2;cases h2
 ·cases q:W.I h.objs.size with
  |none=>rfl
  |some o=>have:=i.im _ _ q;rw [hn] at this;cases this
theorem Inv.sized{w:World}{b0:Heap}{W:Wd}{H:Hp}{h:Heap}(i:Inv w b0 W H h){l a off:Nat}(e:W.ρ[l]?=some (a,off)):∃o ob,H[l]?=some o∧h.get? a=some ob∧ORel w W off o ob:=by
 have hlt:l<H.length:=i.len▸(List.getElem?_eq_some_iff.mp e).1
 refine cQ (i.obj l H[l] (List.getElem?_eq_getElem hlt)) λa' off' ob h1 h2 h3=>?_
 rw [e] at h1;cases h1
 exact (eW _ ob (List.getElem?_eq_getElem hlt) h2 h3)
theorem UB{W:Wd}(n:W.ads.Nodup){l l' a off off':Nat}(e:W.ρ[l]?=some (a,off))(e':W.ρ[l']?=some (a,off')):l=l':=by
 have h1:W.ads[l]?=some a:=by unfold Wd.ads;refine QJ List.getElem?_map ?_;refine QC e ?_;rfl
 have h2:W.ads[l']?=some a:=by unfold Wd.ads;refine QJ List.getElem?_map ?_;refine QC e' ?_;rfl
 exact (List.getElem?_inj (List.getElem?_eq_some_iff.mp h1).1 n).mp (h1.trans h2.symm)
theorem Inv.keeps{w:World}{b0:Heap}{W:Wd}{H:Hp}{h h':Heap}(i:Inv w b0 W H h)(k:∀a o,h.get? a=some o→(W.I a=some o∨a∈W.ads)→h'.get? a=some o):Inv w b0 W H h' where
 base:=i.base
 im:=λa o e=>k a o (i.im a o e) (.inl e)
 len:=i.len
 obj:=λl o e=>by
  refine cQ (i.obj l o e) λa off ob h1 h2 h3=>?_
  exact (cE a off ob h1 (k a ob h2 (.inr (mem_ads.mpr (iEE l off h1)))) h3)
 free:=i.free
 inj:=i.inj
 three:=i.three
 big:=i.big
theorem Step.of_keeps{W:Wd}{h h':Heap}(k:∀a o,h.get? a=some o→h'.get? a=some o):Step W h W h':={Sub.refl W with
 keep:=λa o e n=>(iAA n rfl ⟨o.slots,k a o e⟩)
 keepF:=λa o U e U U=>k a o e
 keepX:=λa o e U U=>k a o e
 dom:=λa o e=>⟨o,k a o e⟩}
noncomputable def Wd.put(W:Wd)(a:Addr)(o:Obj):Wd:=⟨W.ρ,λb=>if b=a then some o else W.I b⟩
theorem Wd.put_at(W:Wd)(a:Addr)(o:Obj):(W.put a o).I a=some o:=by simp [Wd.put]
theorem Wd.put_ne(W:Wd){a b:Addr}(o:Obj)(h:b≠a):(W.put a o).I b=W.I b:=by simp [Wd.put,h]
theorem Wd.put_sub{W:Wd}{a:Addr}{o:Obj}(hn:W.I a=none):Sub W (W.put a o):=⟨List.prefix_refl _,λb ob e=>by
 rw [Wd.put_ne W o (λq=>by rw [q,hn] at e;cases e)];exact e⟩
theorem Inv.put{w:World}{b0:Heap}{W:Wd}{H:Hp}{h:Heap}(i:Inv w b0 W H h){a:Addr}{o:Obj}(ha:h.get? a=some o)(hn:W.I a=none)(hm:a∉W.ads):Inv w b0 (W.put a o) H h where
 base:=λb ob e=>(Wd.put_sub hn).sub b ob (i.base b ob e)
 im:=λb ob e=>by
  by_cases q:b=a
  ·subst q;rw [Wd.put_at] at e;cases e;exact ha
  ·rw [Wd.put_ne W o q] at e;exact i.im b ob e
 len:=i.len
 obj:=λl ob e=>by
  refine cQ (i.obj l ob e) λa' off ob' h1 h2 h3=>?_
  exact (cE a' off ob' h1 h2 (h3.up (Wd.put_sub hn)))
 free:=λl a' off e=>by
  rw [Wd.put_ne W o (λ(q:a'=a)=>hm (by rw [←q];exact mem_ads.mpr (iEE l off e)))];exact i.free l a' off e
 inj:=i.inj
 three:=i.three
 big:=i.big
theorem Step.put{W W':Wd}{h h':Heap}(x:Step W h W' h'){a:Addr}{o:Obj}(hf:h.get? a=none)(hn:W'.I a=none):Step W h (W'.put a o) h':={x.toSub.trans (Wd.put_sub hn) with
 keep:=λb ob e n=>by
  refine oAA (x.keep b ob e n) λn' i' r=>?_
  exact (iAA n' ((Wd.put_ne W' o (λq=>by rw [q,hf] at e;cases e)).trans i') r)
 keepF:=x.keepF
 keepX:=x.keepX
 dom:=x.dom}
noncomputable def Wd.push(W:Wd)(a:Addr)(off:Nat):Wd:=⟨W.ρ++[(a,off)],W.I⟩
theorem Wd.push_sub(W:Wd)(a:Addr)(off:Nat):Sub W (W.push a off):=⟨⟨[(a,off)],rfl⟩,λU U e=>e⟩
theorem Wd.push_ads(W:Wd)(a:Addr)(off:Nat):(W.push a off).ads=W.ads++[a]:=by unfold Wd.push Wd.ads;refine QJ List.map_append ?_;rfl
theorem Wd.push_at(W:Wd)(a:Addr)(off:Nat):(W.push a off).ρ[W.ρ.length]?=some (a,off):=by unfold Wd.push;exact List.getElem?_concat_length
theorem Inv.push{w:World}{b0:Heap}{W:Wd}{H:Hp}{h:Heap}(i:Inv w b0 W H h){a off:Nat}{o:O}{ob:Obj}(ha:h.get? a=some ob)(hn:W.I a=none)(hm:a∉W.ads)(hb:1<a)(hr:ORel w W off o ob):Inv w b0 (W.push a off) (H++[o]) h where
 base:=i.base
 im:=i.im
 len:=by unfold Wd.push;refine QJ List.length_append ?_;refine QR List.length_append ?_;refine i.len.symm▸?_;rfl
 obj:=λl o' e=>by
  rw [List.getElem?_append] at e
  split at e
  ·refine cQ (i.obj l o' e) λa' off' ob' h1 h2 h3=>?_
   exact (cE a' off' ob' ((Wd.push_sub W a off).at h1) h2 (h3.up (Wd.push_sub W a off)))
  ·rename_i hlt
   have hl:l - H.length=0:=by
    cases q:l - H.length with
    |zero=>rfl
    |succ m=>rw [q] at e;simp at e
   have:l=W.ρ.length:=by refine QR i.len ?_;exact ow0 hl hlt
   subst this
   rw [hl] at e
   cases e
   exact (cE a off ob (Wd.push_at W a off) ha (hr.up (Wd.push_sub W a off)))
 free:=λl a' off' e=>by
  unfold Wd.push at e
  rw [List.getElem?_append] at e
  split at e
  ·exact i.free l a' off' e
  ·have:=List.mem_of_getElem? e
   rw [List.mem_singleton] at this
   cases this;exact hn
 inj:=by
  rw [Wd.push_ads]
  exact List.nodup_append.mpr (iAA i.inj (by simp) (λx hx y hy=>by rw [List.mem_singleton] at hy;subst hy;exact λq=>hm (q▸hx)))
 three:=i.three
 big:=λl a' off' e=>by
  unfold Wd.push at e
  rw [List.getElem?_append] at e
  split at e
  ·exact i.big l a' off' e
  ·have:=List.mem_of_getElem? e
   rw [List.mem_singleton] at this
   cases this;exact hb
theorem Step.push{W W':Wd}{h h':Heap}(x:Step W h W' h'){a off:Nat}(hf:h.get? a=none):Step W h (W'.push a off) h':={x.toSub.trans (Wd.push_sub W' a off) with
 keep:=λb ob e n=>by
  refine oAA (x.keep b ob e n) λn' i' r=>?_
  refine (iAA ?_ i' r)
  rw [Wd.push_ads]
  intro hm
  rcases List.mem_append.mp hm with q|q
  ·exact n' q
  ·rw [List.mem_singleton] at q;rw [q,hf] at e;cases e
 keepF:=x.keepF
 keepX:=x.keepX
 dom:=x.dom}
theorem Inv.set{w:World}{b0:Heap}{W:Wd}{H:Hp}{h h':Heap}(i:Inv w b0 W H h){l a off:Nat}{o:O}{ob:Obj}(hl:W.ρ[l]?=some (a,off))(hs:∀b,b≠a→∀o,h.get? b=some o→h'.get? b=some o)(ha:h'.get? a=some ob)(hr:ORel w W off o ob):Inv w b0 W (H.set l o) h' where
 base:=i.base
 im:=λb ob' e=>hs b (λq=>by rw [q,i.free l a off hl] at e;cases e) ob' (i.im b ob' e)
 len:=by refine QR List.length_set ?_;exact i.len
 obj:=λm o' e=>by
  by_cases q:l=m
  ·subst q
   have hlt:l<H.length:=i.len▸(List.getElem?_eq_some_iff.mp hl).1
   rw [List.getElem?_set_self hlt] at e
   cases e
   exact (cE a off ob hl ha hr)
  ·rw [List.getElem?_set_ne q] at e
   refine cQ (i.obj m o' e) λa' off' ob' h1 h2 h3=>?_
   exact (cE a' off' ob' h1 (hs a' (λq'=>q (UB i.inj hl (q'▸h1))) _ h2) h3)
 free:=i.free
 inj:=i.inj
 three:=i.three
 big:=i.big
theorem Inv.one{w:World}{b0:Heap}{W:Wd}{H:Hp}{h:Heap}(i:Inv w b0 W H h):1<h.objs.size:=by
 refine oE i.three λo e=>?_
 exact Nat.lt_trans (by decide:1<3) (Heap.lt_size (i.im _ _ (i.base _ _ e)))
theorem Step.set{W:Wd}{h h':Heap}{l a off:Nat}(hl:W.ρ[l]?=some (a,off))(hs:∀b,b≠a→∀o,h.get? b=some o→h'.get? b=some o)(hd:∃o,h'.get? a=some o):Step W h W h':={Sub.refl W with
 keep:=λb o e n=>(iAA n rfl ⟨o.slots,hs b (λq=>n (q▸mem_ads.mpr (iEE l off hl))) o e⟩)
 keepF:=λb o U e U n=>hs b (λq=>n (q▸mem_ads.mpr (iEE l off hl))) o e
 keepX:=λb o e U n=>hs b (λq=>n (q▸mem_ads.mpr (iEE l off hl))) o e
 dom:=λb o e=>if q:b=a then q▸hd else ⟨o,hs b q o e⟩}
structure Frs (b0:Heap) (W:Wd) (fr:List Env) (h:Heap):Prop where
 ff:h.FunFrames b0 fr
 own:∀L∈fr.filterMap (·.frame),W.I L=none∧L∉W.ads
 fcls:∀L∈fr.filterMap (·.frame),∀o,h.get? L=some o→o.cls= .type "frame"
theorem Frs.step{b0:Heap}{W W':Wd}{fr:List Env}{h h':Heap}(f:Frs b0 W fr h)(x:Step W h W' h'):Frs b0 W' fr h':=by
 obtain ⟨ff,own,fc⟩:=f
 induction fr with
 |nil=>exact ⟨trivial,(λU hm=>nomatch hm),(λU hm=>nomatch hm)⟩
 |cons env rest ih=>
  refine oAA ff λhk z1 hr=>?_;clear ff;refine t9 z1 λL o hf hn ho hd=>?_;clear z1
  have hL:=own L (by refine QN List.filterMap_cons ?_;refine hf.symm▸?_;exact List.mem_cons_self ..)
  have hc:=fc L (by refine QN List.filterMap_cons ?_;refine hf.symm▸?_;exact List.mem_cons_self ..)
  refine j5 (x.keep L o ho hL.2) λn' i' sl e'=>?_
  have r:=ih hr (λb hb=>own b (by refine QN List.filterMap_cons ?_;refine hf.symm▸?_;exact List.mem_cons_of_mem _ hb)) λb hb=>fc b (by refine QN List.filterMap_cons ?_;refine hf.symm▸?_;exact List.mem_cons_of_mem _ hb)
  refine ⟨(iAA hk (uL L _ hf hn e' hd) r.ff),λb hb=>?_,λb hb o' ho'=>?_⟩
  ·rw [List.filterMap_cons,hf] at hb
   rcases List.mem_cons.mp hb with q|hb
   ·subst q;exact ⟨i'.trans hL.1,n'⟩
   ·exact r.own b hb
  ·rw [List.filterMap_cons,hf] at hb
   rcases List.mem_cons.mp hb with q|hb
   ·subst q;rw [e'] at ho';cases ho';exact hc o ho
   ·exact r.fcls b hb o' ho'
structure EnvOk (W:Wd) (le:LE) (lc:Lc) (env:Env) (h:Heap):Prop where
 kind:env.scope.kind= .function
 gl:env.globals=mainGlobals
 bi:env.builtins=builtinsNs
 wL:∀x,cO le x=some .loc→env.kindOf x=some .local
 wG:∀x,cO le x=some .glob→env.kindOf x=some .globalImplicit
 wC:∀x,cO le x=some .cell→env.kindOf x=some .cell∨env.kindOf x=some .free
 aL:∀x,le.scope.names.lookup x=some .local→env.kindOf x=some .local
 aC:∀x,le.scope.names.lookup x=some .cell→env.kindOf x=some .cell
 ns:∃m,h.Ns env.locals m∧∀x v,lc.lookup x=some v→∃cv,m x=some cv∧VRel W v cv
 cells:∀(x:Str) (l:Nat),(le.scope.names.lookup x=some .cell∨le.scope.names.lookup x=some .free)→le.cells.lookup x=some l→∃(a:Addr) (off:Nat),env.cells.lookup x=some a∧W.ρ[l]?=some (a,off)
 free:W.I env.locals=none∧env.locals∉W.ads
 cl:env.frame=some env.locals→∀o,h.get? env.locals=some o→o.cls= .type "frame"
 fo:∀L,env.frame=some L→∃o,h.get? L=some o
theorem EnvOk.step{W W':Wd}{le:LE}{lc:Lc}{env:Env}{h h':Heap}(f:EnvOk W le lc env h)(x:Step W h W' h'):EnvOk W' le lc env h':=by
 obtain ⟨k1,k2,k3,k4,k5,k6,k7,k8,⟨m,⟨o,es,ep,ho,hd,r⟩,hm⟩,k9,k10,k11,k12⟩:=f
 refine j5 (x.keep _ o ho k10.2) λn' i' sl e'=>?_
 refine ⟨k1,k2,k3,k4,k5,k6,k7,k8,(iEA m (cE _ es ep e' hd r) (λy v hy=>?_)),λy l hk hy=>?_,⟨i'.trans k10.1,n'⟩,λhf o' ho'=>?_,λL hf=>let ⟨o,e⟩:=k12 L hf;x.dom L o e⟩
 ·refine oEA (hm y v hy) λcv a b=>?_
  exact (iEA cv a (b.up x.toSub))
 ·refine cX (k9 y l hk hy) λa off p q=>?_
  exact (dS a off p (x.toSub.at q))
 ·rw [e'] at ho';cases ho';exact k11 hf o ho
noncomputable def XRel(W:Wd)(h0 h:Heap)(L c:Addr)(ce:Value):Prop:=
 ∃(ea:Addr) (oe:Obj) (vs:Array Value) (a0:Value),ce=Value.ref ea∧h0.get? ea=none∧ea∉W.ads∧W.I ea=none∧h.get? ea=some oe∧oe.cls=Value.ref c∧oe.data=Data.fields vs∧vs[0]?=some a0∧
  (vs[1]?=some Value.none∨∃(T:Addr) (oT:Obj) (ts:Array Value),vs[1]?=some (Value.ref T)∧h0.get? T=none∧T∉W.ads∧W.I T=none∧T≠ea∧h.get? T=some oT∧oT.data=Data.fields ts∧(ts[3]?=some Value.none∨ts[3]?=some (rawInt L)))
noncomputable def Same(s s':Shared):Prop:=s'={s with heap:=s'.heap,toks:=s'.toks}
theorem Same.trans{s s' s'':Shared}(x:Same s s')(y:Same s' s''):Same s s'':=by
 unfold Same at *
 refine QJ y ?_;exact x.symm▸rfl
theorem Same.mk(s:Shared)(h:Heap)(t:Tok):Same s {s with heap:=h,toks:=t}:=rfl
end
section variable {vs:TL} {cs:List Value} {W:Wd}
theorem VRels.length(h:VRels W vs cs):vs.length=cs.length:=
 h.ind (P:=λvs cs=>vs.length=cs.length) rfl λU U q=>congrArg Nat.succ q
theorem VRels.get(h:VRels W vs cs):∀(i:Nat) (v:V),vs[i]?=some v→∃c,cs[i]?=some c∧VRel W v c:=
 h.ind (P:=λvs cs=>∀(i:Nat) (v:V),vs[i]?=some v→∃c,cs[i]?=some c∧VRel W v c) (λU U e=>ns e) fun {u c us cs} h r ih i=>Nat.casesOn i (λv e=>(iEA c rfl (Option.some.inj e▸h))) ih
theorem VRels.append{us:TL}{ds:List Value}(h:VRels W vs cs)(r:VRels W us ds):VRels W (vs++us) (cs++ds):=
 h.ind (P:=λvs cs=>VRels W (vs++us) (cs++ds)) r λh U q=> .cons h q
theorem VRels.set{i:Nat}{v:V}{c:Value}(h:VRels W vs cs)(x:VRel W v c):VRels W (vs.set i v) (cs.set i c):=
 h.ind (P:=λvs cs=>∀i,VRels W (vs.set i v) (cs.set i c)) (λU=> .nil) (λh r q i=>Nat.casesOn i (.cons x r) λi=> .cons h (q i)) i
theorem VRels.take(n:Nat)(h:VRels W vs cs):VRels W (vs.take n) (cs.take n):=
 h.ind (P:=λvs cs=>∀n,VRels W (vs.take n) (cs.take n)) (λn=>by rw [List.take_nil,List.take_nil];exact .nil) (λh r q i=>Nat.casesOn i .nil λi=> .cons h (q i)) n
theorem VRels.drop(n:Nat)(h:VRels W vs cs):VRels W (vs.drop n) (cs.drop n):=
 h.ind (P:=λvs cs=>∀n,VRels W (vs.drop n) (cs.drop n)) (λn=>by rw [List.drop_nil,List.drop_nil];exact .nil) (λh r q i=>Nat.casesOn i (.cons h r) λi=>q i) n
section
variable {w:World} {b0:Heap} {W:Wd} {H:Hp}
theorem fK{s:Shared}(i:Inv w b0 W H s.heap){a:Addr}{o:Obj}{cvs:List Value}{n:Nat}(h1:W.I a=some o)(h2:o.cls= .type "tuple")(h3:o.data= .seq cvs.toArray n):s.heap.IsTuple a cvs.toArray:=(cM o (i.im _ _ h1) h2 ⟨n,h3⟩)
theorem dL{s:Shared}(i:Inv w b0 W H s.heap){l:Nat}{vs:TL}{c:Value}(hl:aO H l=some vs)(hv:VRel W (.loc l) c):
  ∃a off cvs n,c= .ref a∧W.ρ[l]?=some (a,off)∧s.heap.get? a=some (listOf cvs.toArray n)∧VRels W vs cvs:=by
 refine cX hv.inv λa off z1 e=>?_;subst z1
 refine oEA (i.on (lR hl) e) λU h2 z1=>?_;refine cX z1 λcvs n z2 hr=>?_;clear z1;subst z2
 exact (jB a off cvs n rfl e h2 hr)
theorem zA(cs:List Value):∀{vs:TL},iI cs=some vs→VRels W vs cs:=by
 induction cs with
 |nil=>intro vs e;have z9:=Option.some.inj e;clear e;subst z9;exact .nil
 |cons c r ih=>
  intro vs e
  cases c with
  |int i t=>
   refine oEA (lQ e) λq e2 z1=>?_;subst z1
   exact .cons (.int i t) (ih e2)
  |_=>exact ns e
theorem OM{s:Shared}(i:Inv w b0 W H s.heap){l:Nat}{vs:TL}{c:Value}(hl:sP H l=some vs)(hv:VRel W (.loc l) c):
  ∃a off cvs n,c= .ref a∧W.ρ[l]?=some (a,off)∧s.heap.get? a=some (listOf cvs.toArray n)∧VRels W vs cvs:=by
 refine cX hv.inv λa off z1 e=>?_;subst z1
 unfold sP at hl
 cases hH:H[l]? with
 |none=>rw [hH] at hl;exact ns hl
 |some o=>
  rw [hH] at hl
  refine oEA (i.on hH e) λob h2 hr=>?_
  cases o with
  |list xs=>
   obtain ⟨cvs,n,rfl,hr⟩:=hr
   exact (jB a off cvs n rfl e h2 (Option.some.inj hl▸hr))
  |fro cs=>exact (jB a off cs 0 rfl e (h2.trans (congrArg some hr)) (zA _ hl))
  |_=>exact ns hl
theorem F7{v u:V}{c:Value}(h:VRel W v c)(g:VRel W u c){r:Bool}(e:eq0 v u=some r):r=true:=by
 have h:=h.inv
 have g:=g.inv
 have q:∀{α:Type} [BEq α] [LawfulBEq α] {x y:α},x=y→some (x==y)=some r→r=true:=fun {α _ _ x y} h e=>by refine QJ (Option.some.inj e).symm ?_;refine h.symm▸?_;exact (beq_self_eq_true _)
 cases v with
 |none=>
  subst h
  cases u with
  |none=>exact (Option.some.inj e).symm
  |int _=>refine oE g λU q=>?_;clear g;exact nomatch q
  |str _=>refine oE g λU q=>?_;clear g;exact nomatch q
  |_=>exact ns e
 |bool x=>
  subst h
  cases u with
  |bool y=>exact q (Value.bool.inj g) e
  |_=>exact ns e
 |int x=>
  refine oE h λt z1=>?_;clear h;subst z1
  cases u with
  |none=>exact nomatch g
  |int y=>refine oE g λU g=>?_;exact q (Value.int.inj g).1 e
  |str _=>refine oE g λU q=>?_;clear g;exact nomatch q
  |_=>exact ns e
 |str x=>
  refine oE h λt z1=>?_;clear h;subst z1
  cases u with
  |none=>exact nomatch g
  |int y=>refine oE g λU q=>?_;clear g;exact nomatch q
  |str y=>refine oE g λU g=>?_;exact q (Value.str.inj g).1 e
  |tup _=>refine jH g λU U U U q U=>?_;clear g;exact nomatch q
  |_=>exact ns e
 |tup _=>
  refine jH h λU U U U z1 U=>?_;clear h;subst z1
  cases u with
  |str y=>refine oE g λU q=>?_;clear g;exact nomatch q
  |_=>exact ns e
 |_=>exact ns e
theorem xM{vs us:TL}{cs:List Value}(h:VRels W vs cs):VRels W us cs→∀{r:Bool},jV eq0 vs us=some r→r=true:=
 h.ind (P:=λvs cs=>∀{us:TL},VRels W us cs→∀{r:Bool},jV eq0 vs us=some r→r=true) (fun {us} g {r} e=>by
   cases us with
   |nil=>exact (Option.some.inj e).symm
   |cons u us=>refine cX g.consI λU U q U=>?_;exact nomatch q)
  fun {v c vs cs} h _ ih {us} g {r} e=>by
   cases us with
   |nil=>exact nomatch g.nilI
   |cons u us=>
    refine dX g.consI λU U q g1 g2=>?_
    refine oA (List.cons.inj q) λz1 z2=>?_;subst z1 z2
    refine oEA (Option.bind_eq_some_iff.mp e) λx e1 e=>?_
    refine oEA (Option.map_eq_some_iff.mp e) λy e2 z1=>?_;subst z1
    refine (F7 h g1 e1).symm▸?_;refine QC (ih g2 e2) ?_;rfl
variable {A:Around} {s:Shared}
structure E0 (A:Around) (s:Shared) (ca cb:Value) (r:Bool):Prop where
 at_:EqAt A s ca cb r
 rc:RcAt A s ca cb r
 ne:RcNeAt A s ca cb (!r)
theorem AU(i:Inv w b0 W H s.heap)(hu:A.units<cLine){a b:V}{ca cb:Value}(ha:VRel W a ca)(hb:VRel W b cb){r:Bool}(e:eq0 a b=some r):E0 A s ca cb r:=by
 have ha:=ha.inv
 cases a with
 |none=>
  subst ha
  have hb:=hb.inv
  cases b with
  |none=>have z9:=Option.some.inj e;clear e;subst z9;subst hb;exact ⟨EqAt.same _,RcAt.none_none,RcNeAt.none_none⟩
  |int _=>have z9:=Option.some.inj e;clear e;subst z9;refine oE hb λU z1=>?_;clear hb;subst z1;exact ⟨EqAt.none_int _ _,RcAt.none_int _ _,RcNeAt.none_int _ _⟩
  |str _=>have z9:=Option.some.inj e;clear e;subst z9;refine oE hb λU z1=>?_;clear hb;subst z1;exact ⟨EqAt.none_str _ _,RcAt.none_str _ _,RcNeAt.none_str _ _⟩
  |_=>exact ns e
 |bool _=>
  subst ha
  have hb:=hb.inv
  cases b with
  |bool _=>have z9:=Option.some.inj e;clear e;subst z9;subst hb;exact ⟨EqAt.bool_bool _ _,RcAt.bool_bool _ _,RcNeAt.bool_bool _ _⟩
  |_=>exact ns e
 |int _=>
  refine oE ha λU z1=>?_;clear ha;subst z1
  have hb:=hb.inv
  cases b with
  |none=>have z9:=Option.some.inj e;clear e;subst z9;subst hb;exact ⟨EqAt.int_none _ _,RcAt.int_none _ _,RcNeAt.int_none _ _⟩
  |int _=>have z9:=Option.some.inj e;clear e;subst z9;refine oE hb λU z1=>?_;clear hb;subst z1;exact ⟨EqAt.int_int _ _ _ _,RcAt.int_int _ _ _ _,RcNeAt.int_int _ _ _ _⟩
  |str _=>have z9:=Option.some.inj e;clear e;subst z9;refine oE hb λU z1=>?_;clear hb;subst z1;exact ⟨EqAt.int_str _ _ _ _,RcAt.int_str _ _ _ _,RcNeAt.int_str _ _ _ _⟩
  |_=>exact ns e
 |str _=>
  refine oE ha λU z1=>?_;clear ha;subst z1
  have hb:=hb.inv
  cases b with
  |none=>have z9:=Option.some.inj e;clear e;subst z9;subst hb;exact ⟨EqAt.str_none _ _,RcAt.str_none _ _,RcNeAt.str_none _ _⟩
  |int _=>have z9:=Option.some.inj e;clear e;subst z9;refine oE hb λU z1=>?_;clear hb;subst z1;exact ⟨EqAt.str_int _ _ _ _,RcAt.str_int _ _ _ _,RcNeAt.str_int _ _ _ _⟩
  |str _=>have z9:=Option.some.inj e;clear e;subst z9;refine oE hb λU z1=>?_;clear hb;subst z1;exact ⟨EqAt.str_str _ _ _ _,RcAt.str_str _ _ _ _,RcNeAt.str_str _ _ _ _⟩
  |tup _=>
   have z9:=Option.some.inj e;clear e;subst z9
   refine bF hb λU U U U z1 h1 h2 h3 U=>?_;clear hb;subst z1
   have ht:=fK i h1 h2 h3
   exact ⟨EqAt.str_tuple _ _ ht hu,RcAt.str_tuple _ _ ht hu,RcNeAt.str_tuple _ _ ht hu⟩
  |_=>exact ns e
 |tup _=>
  have hb:=hb.inv
  cases b with
  |str _=>
   have z9:=Option.some.inj e;clear e;subst z9
   refine bF ha λU U U U z1 h1 h2 h3 U=>?_;clear ha;subst z1
   refine oE hb λU z1=>?_;clear hb;subst z1
   have ht:=fK i h1 h2 h3
   exact ⟨EqAt.tuple_str _ _ ht hu,RcAt.tuple_str _ _ ht hu,RcNeAt.tuple_str _ _ ht hu⟩
  |_=>exact ns e
 |_=>exact ns e
theorem uW(i:Inv w b0 W H s.heap)(hu:A.units<cLine){a b:V}{ca cb:Value}(ha:VRel W a ca)(hb:VRel W b cb){r:Bool}(e:eq0 a b=some r):EqAt A s ca cb r:=(AU i hu ha hb e).at_
noncomputable def N3(x:Bool)(e:Nat→Bool)(j:Nat):Bool:=Nat.casesOn j x e
theorem all_consF{x:Bool}{e:Nat→Bool}{k:Nat}:(List.range (k+1)).all (N3 x e)=(x&&(List.range k).all e):=by
 refine List.range_succ_eq_map.symm▸?_;refine QJ List.all_cons ?_;refine QC List.all_map ?_;rfl
theorem rD {f:V→V→Option Bool} {vs us:TL} {cs ds:List Value} (h:VRels W vs cs) (g:VRels W us ds) (hf:∀a∈vs,∀b∈us,∀ca cb r,VRel W a ca→VRel W b cb→f a b=some r→EqAt A s ca cb r)
  {r:Bool} (e:jV f vs us=some r):∃e:Nat→Bool,(∀j (h1:j<cs.length) (h2:j<ds.length),EqAt A s cs[j] ds[j] (e j))∧r=((List.range (min cs.length ds.length)).all e&&cs.length==ds.length):=by
 refine h.ind (P:=λvs cs=>∀{us:TL} {ds:List Value},VRels W us ds→(∀a∈vs,∀b∈us,∀ca cb r,VRel W a ca→VRel W b cb→f a b=some r→EqAt A s ca cb r)→
  ∀{r:Bool},jV f vs us=some r→∃e:Nat→Bool,(∀j (h1:j<cs.length) (h2:j<ds.length),EqAt A s cs[j] ds[j] (e j))∧r=((List.range (min cs.length ds.length)).all e&&cs.length==ds.length)) ?_ ?_ g hf e
 ·intro us ds g _ r e
  refine (iEA (λU=>true) (λj h1=>absurd h1 (Nat.not_lt_zero j)) ?_)
  refine QJ (Option.some.inj e).symm ?_
  cases us with
  |nil=>refine g.nilI.symm▸?_;rfl
  |cons u us=>refine cX g.consI λU U z1 U=>?_;subst z1;rfl
 ·intro v c vs cs h _ ih us ds g hf r e
  cases us with
  |nil=>
   refine (Option.some.inj e)▸?_
   have z9:=g.nilI;subst z9
   exact (iEA (λU=>true) (λj U h1=>absurd h1 (Nat.not_lt_zero j)) rfl)
  |cons u us=>
   refine dX g.consI λd ds z1 g1 g2=>?_;subst z1
   refine oEA (Option.bind_eq_some_iff.mp e) λx e1 e=>?_
   refine oEA (Option.map_eq_some_iff.mp e) λy e2 z1=>?_;subst z1
   refine oEA (ih g2 (λa ha b hb=>hf a (List.mem_cons_of_mem _ ha) b (List.mem_cons_of_mem _ hb)) e2) λe' he hy=>?_
   refine (iEA (N3 x e') (λj=>Nat.casesOn j (λU U=>hf _ (List.mem_cons_self ..) _ (List.mem_cons_self ..) _ _ _ h g1 e1) λj h1 h2=>he j (Nat.lt_of_succ_lt_succ h1) (Nat.lt_of_succ_lt_succ h2)) ?_)
   refine QC hy ?_;refine List.length_cons.symm▸?_;refine List.length_cons.symm▸?_;refine (Nat.add_min_add_right _ _ _).symm▸?_;refine all_consF.symm▸?_;refine QR (Bool.and_assoc _ _ _) ?_
   simp
theorem F6(i:Inv w b0 W H s.heap)(hu:A.units+4<cLine){x y:TL}{ca cb:Value}(ha:VRel W (.tup x) ca)(hb:VRel W (.tup y) cb){r:Bool}(e:jV eq0 x y=some r):EqAt A s ca cb r:=by
 obtain ⟨vs,p,o,n,h1,h2,h3,h4,rfl⟩:∃(vs:List Value) (p:Addr) (o:Obj) (n:Nat),W.I p=some o∧o.cls= .type "tuple"∧o.data= .seq vs.toArray n∧VRels W x vs∧ca= .ref p:=by
  cases ha with|tup h1 h2 h3 h4=>exact (bW _ _ _ _ h1 h2 h3 h4 rfl)
 obtain ⟨us,q,o',n',g1,g2,g3,g4,rfl⟩:∃(vs:List Value) (p:Addr) (o:Obj) (n:Nat),W.I p=some o∧o.cls= .type "tuple"∧o.data= .seq vs.toArray n∧VRels W y vs∧cb= .ref p:=by
  cases hb with|tup h1 h2 h3 h4=>exact (bW _ _ _ _ h1 h2 h3 h4 rfl)
 by_cases hq:p=q
 ·subst hq
  rw [h1] at g1;have z9:=Option.some.inj g1;clear g1;subst z9
  rw [h3] at g3
  have:=congrArg Array.toList (Data.seq.inj g3).1
  simp only at this
  subst this
  rw [xM h4 g4 e]
  exact EqAt.same _
 ·refine oEA (rD (A:=A.in1) (s:=s) h4 g4 (λa U b U ca cb r ha hb e=>uW i (Nat.lt_of_le_of_lt (Nat.add_le_add_left (by decide:1≤4) A.units) hu) ha hb e) e) λf hf z1=>?_;subst z1
  have:=RcAt.tuples (A:=A) (e:=f) (fK i h1 h2 h3) (fK i g1 g2 g3) (Nat.lt_of_le_of_lt (Nat.le_add_right _ _) hu) (λj k1 k2=>by simpa using hf j (by assumption) (by assumption))
  exact EqAt.of_refs hq (by assumption)
theorem UL(i:Inv w b0 W H s.heap)(hu:A.units+4<cLine){a b:V}{ca cb:Value}(ha:VRel W a ca)(hb:VRel W b cb){r:Bool}(e:eq1 a b=some r):EqAt A s ca cb r:=by
 have z:=λe=>uW (r:=r) i (Nat.lt_of_le_of_lt (Nat.le_add_right _ _) hu) ha hb e
 unfold eq1 at e
 cases qa:iO a with
 |none=>rw [qa] at e;exact z e
 |some x=>
  rw [qa] at e
  cases qb:iO b with
  |none=>replace e:=ZC qb e;exact z e
  |some y=>replace e:=ZC qb e;exact F6 i hu (fW qa▸ha) (fW qb▸hb) e
end
end
section variable {k:Key} {es:TG} {v:V}
noncomputable def tD:Str ⊕ Int→Value→Bool
 | .inl x,v=>Value.isStrOf x v
 | .inr i,v=>Value.isInt i v
noncomputable def LH(w:World):Str ⊕ Int→Int
 | .inl x=>hashStr w x
 | .inr i=>hashInt i
theorem LG(v:Value)(a b:Str ⊕ Int)(ha:tD a v=true)(hb:tD b v=true):a=b:=by
 cases a<;>cases b<;>simp only [tD] at ha hb
 ·exact QS (Value.isStrOf_inj v _ _ ha hb)
 ·refine oE (Value.isStrOf_shape ha) λt z1=>?_;subst z1;simp [Value.isInt] at hb
 ·refine oE (Value.isStrOf_shape hb) λt z1=>?_;subst z1;simp [Value.isInt] at ha
 ·exact QS (Value.isInt_inj v _ _ ha hb)
noncomputable def mX(prog:Program)(w:World):KeyKind prog w (Str ⊕ Int) where
 is:=tD
 hash:=LH w
 inj:=LG
 byValue:=λk v h=>by
  cases k with
  |inl x=>refine oE (Value.isStrOf_shape h) λt z1=>?_;subst z1;rfl
  |inr i=>refine oE (Value.isInt_shape h) λt z1=>?_;subst z1;rfl
 pyHash:=fun {A E s k v Q} hv h=>by
  cases k with
  |inl x=>refine oE (Value.isStrOf_shape hv) λt z1=>?_;subst z1;exact wpAny_pyHash_str h
  |inr i=>refine oE (Value.isInt_shape hv) λt z1=>?_;subst z1;exact wpAny_pyHash_int h
 eqBool:=fun {A E s a b u v Q} hu hv h=>by
  cases a with
  |inl x=>
   refine oE (Value.isStrOf_shape hu) λt z1=>?_;subst z1
   cases b with
   |inl y=>
    refine oE (Value.isStrOf_shape hv) λt' z1=>?_;subst z1
    refine EqAt.str_str x t y t' prog w E Q ?_
    have:(x==y)=decide ((Sum.inl x:Str ⊕ Int)=Sum.inl y):=by refine Bool.eq_iff_iff.2 ?_;simp
    rw [this];exact h
   |inr j=>refine oE (Value.isInt_shape hv) λt' z1=>?_;subst z1;exact EqAt.str_int x t j t' prog w E Q (by assumption)
  |inr i=>
   refine oE (Value.isInt_shape hu) λt z1=>?_;subst z1
   cases b with
   |inl y=>refine oE (Value.isStrOf_shape hv) λt' z1=>?_;subst z1;exact EqAt.int_str i t y t' prog w E Q (by assumption)
   |inr j=>
    refine oE (Value.isInt_shape hv) λt' z1=>?_;subst z1
    refine EqAt.int_int i t j t' prog w E Q ?_
    have:(i==j)=decide ((Sum.inr i:Str ⊕ Int)=Sum.inr j):=by refine Bool.eq_iff_iff.2 ?_;simp
    rw [this];exact h
 «strs»:=λk x t v h=>by
  cases k with
  |inl y=>
   have hx:x=y:=by simpa [tD,Value.isStrOf] using h
   subst hx
   cases v<;>rfl
  |inr i=>simp [tD,Value.isInt] at h
noncomputable def hY(k:Key):TG→Option Nat
 |[]=>none
 |(a,_)::r=>if a=k then some 0 else (hY k r).map (· +1)
theorem posK_here{r:TG}:hY k ((k,v)::r)=some 0:=if_pos rfl
theorem iR{a:Key}{r:TG}(h:¬a=k):hY k ((a,v)::r)=(hY k r).map (· +1):=if_neg h
theorem lC(k:Key)(es:TG):aP k es=(hY k es).bind λi=>(es[i]?).map (·.2):=by
 induction es with
 |nil=>rfl
 |cons q r ih=>
  obtain ⟨a,v⟩:=q
  by_cases h:a=k
  ·refine h.symm▸?_;refine posK_here.symm▸?_;exact if_pos rfl
  ·refine (iR h).symm▸?_;refine QJ (show aP k ((a,v)::r)=aP k r from if_neg h) ?_;refine QJ ih ?_
   cases hY k r<;>rfl
theorem mR(k:Key)(v:V)(es:TG):cP k v es=match hY k es with
  |some i=>es.modify i λe=>(e.1,v)
  |none=>es++[(k,v)]:=by
 induction es with
 |nil=>rfl
 |cons q r ih=>
  obtain ⟨a,u⟩:=q
  by_cases h:a=k
  ·refine h.symm▸?_;refine posK_here.symm▸?_;exact if_pos rfl
  ·refine (iR h).symm▸?_;refine QJ (show cP k v ((a,u)::r)=(a,u)::cP k v r from if_neg h) ?_;refine QC ih ?_
   cases hY k r<;>rfl
theorem iQ:∀{i:Nat},hY k es=some i→∃v,es[i]?=some (k,v):=by
 induction es with
 |nil=>exact λh=>ns h
 |cons q r ih=>
  intro i h
  obtain ⟨a,v⟩:=q
  by_cases q:a=k
  ·rw [q,posK_here] at h;refine (Option.some.inj h)▸?_;refine q.symm▸?_;exact ⟨v,rfl⟩
  ·rw [iR q] at h
   refine oEA (lQ h) λj hj z1=>?_;subst z1
   exact ih hj
theorem posK_none:hY k es=none↔k∉es.map (·.1):=by
 induction es with
 |nil=>exact ⟨λU=>List.not_mem_nil,λU=>rfl⟩
 |cons q r ih=>
  obtain ⟨a,v⟩:=q
  by_cases q:a=k
  ·refine q.symm▸?_;refine posK_here.symm▸?_;exact ⟨λh=>sn h,λh=>absurd (List.mem_cons_self ..) h⟩
  ·refine (iR q).symm▸?_;rewrite [Option.map_eq_none_iff,ih];refine List.map_cons.symm▸?_;rw [List.mem_cons,not_or]
   exact ⟨λh=>⟨Ne.symm q,h⟩,λh=>h.2⟩
theorem fG(k:Key)(v:V)(es:TG):(cP k v es).map (·.1)=if k∈es.map (·.1) then es.map (·.1) else es.map (·.1)++[k]:=by
 induction es with
 |nil=>rfl
 |cons q r ih=>
  obtain ⟨a,u⟩:=q
  by_cases h:a=k
  ·refine QC (show cP k v ((a,u)::r)=(a,v)::r from if_pos h) ?_;refine h.symm▸?_;exact (if_pos (List.mem_cons_self ..)).symm
  ·refine QC (show cP k v ((a,u)::r)=(a,u)::cP k v r from if_neg h) ?_;refine QJ List.map_cons ?_;refine QC ih ?_
   by_cases q:k∈r.map (·.1)
   ·refine QC (if_pos q) ?_;exact (if_pos (List.mem_cons_of_mem _ q)).symm
   ·refine QC (if_neg q) ?_;exact (if_neg λm=>(List.mem_cons.mp m).elim (Ne.symm h) q).symm
theorem jG(h:(es.map (·.1)).Nodup):((cP k v es).map (·.1)).Nodup:=by
 rw [fG]
 split
 ·exact h
 ·rename_i q
  exact List.nodup_append.mpr (iAA h (by simp) (λa ha b hb=>by rw [List.mem_singleton] at hb;subst hb;exact λe=>q (e▸ha)))
theorem fF(h:cA k es=true):∀e∈cP k v es,e.1.isS=k.isS:=by
 intro e he
 have hk:∀x∈es.map (·.1),x.isS=k.isS:=by
  intro x hx
  refine oEA (List.mem_map.mp hx) λp hp z1=>?_;subst z1
  simpa using List.all_eq_true.mp h p hp
 have:=List.mem_map_of_mem (f:=(·.1)) he
 rw [fG] at this
 split at this
 ·exact hk _ this
 ·rcases List.mem_append.mp this with q|q
  ·exact hk _ q
  ·rw [List.mem_singleton] at q;exact QS q
section variable {es:TG} {cs:List DictEntry} {c:Value}
variable {w:World} {W:Wd}
theorem ERels.length(r:ERels w W es cs):es.length=cs.length:=
 r.rec (motive:=λes cs U=>es.length=cs.length) rfl λU U U ih=>congrArg Nat.succ ih
theorem ERels.get(r:ERels w W es cs):∀(i:Nat) (k:Key) (v:V),es[i]?=some (k,v)→∃e,cs[i]?=some e∧KRel w W k e.hash e.key∧VRel W v e.val:=
 r.rec (motive:=λes cs U=>∀(i:Nat) (k:Key) (v:V),es[i]?=some (k,v)→∃e,cs[i]?=some e∧KRel w W k e.hash e.key∧VRel W v e.val) (λU U U e=>ns e) λhk hv U ih i=>
  Nat.casesOn i (λk v e=>by refine oA (Prod.mk.inj (Option.some.inj e)) λz1 z2=>?_;subst z1 z2;exact (cM _ rfl hk hv)) ih
theorem ERels.modify{i:Nat}{v:V}(r:ERels w W es cs)(x:VRel W v c):ERels w W (es.modify i λe=>(e.1,v)) (cs.modify i λe=>{e with val:=c}):=
 r.rec (motive:=λes cs U=>∀i,ERels w W (es.modify i λe=>(e.1,v)) (cs.modify i λe=>{e with val:=c})) (λi=>Nat.casesOn i .nil λU=> .nil) (λhk hv r ih i=>Nat.casesOn i (.cons hk x r) λi=> .cons hk hv (ih i)) i
theorem ERels.snoc{k:Key}{v:V}{h:Int}{key:Value}(r:ERels w W es cs)(a:KRel w W k h key)(b:VRel W v c):ERels w W (es++[(k,v)]) (cs++[⟨h,key,c⟩]):=
 r.rec (motive:=λes cs U=>ERels w W (es++[(k,v)]) (cs++[(⟨h,key,c⟩:DictEntry)])) (.cons a b .nil) λhk hv U ih=> .cons hk hv ih
theorem KRel.isStr{k:Key}{h:Int}(r:KRel w W k h c)(q:k.isS=true):∃x t,k= .s x∧c= .str x t∧h=hashStr w x:=
 r.casesOn (motive:=λk h c U=>k.isS=true→∃x t,k= .s x∧c= .str x t∧h=hashStr w x) (λx t U=>(eW x t rfl rfl rfl)) (λU U U q=>nomatch q) q
theorem ERels.keysS(r:ERels w W es cs)(h:∀e∈es,e.1.isS=true):∀e∈cs,∃x t,e.key= .str x t∧e.hash=hashStr w x:=
 r.rec (motive:=λes cs U=>(∀e∈es,e.1.isS=true)→∀e∈cs,∃x t,e.key= .str x t∧e.hash=hashStr w x) (λU U m=>nomatch m) (λhk U U ih h e m=>(List.mem_cons.mp m).elim (λq=>by
  refine dX (hk.isStr (h _ (List.mem_cons_self ..))) λx t U h1 h2=>?_
  refine q.symm▸?_;exact (dS x t h1 h2)) λm=>ih (λe he=>h e (List.mem_cons_of_mem _ he)) e m) h
theorem ERels.idxS(r:ERels w W es cs)(h:∀e∈es,e.1.isS=true):∀x:Str,cs.findIdx? (λe=>Value.isStrOf x e.key)=hY (.s x) es:=
 r.rec (motive:=λes cs U=>(∀e∈es,e.1.isS=true)→∀x:Str,cs.findIdx? (λe=>Value.isStrOf x e.key)=hY (.s x) es) (λU U=>rfl) (λhk U U ih h x=>by
  refine dX (hk.isStr (h _ (List.mem_cons_self ..))) λy t z1 z2 U=>?_;subst z1 z2
  refine QJ List.findIdx?_cons ?_
  by_cases q:y=x
  ·subst q;refine QR posK_here ?_;simp [Value.isStrOf]
  ·have e1:Value.isStrOf x (Value.str y t)=false:=by simp [Value.isStrOf,q]
   refine e1.symm▸?_;refine QR (iR (λe=>q (Key.s.inj e))) ?_;refine QD (ih (λe he=>h e (List.mem_cons_of_mem _ he)) x).symm ?_;rfl) h
theorem ERels.keysOf{prog:Program}(r:ERels w W es cs)(h:∀e∈es,e.1.isS=true):KeysOf (PySem.strKind prog w) cs.toArray:=by
 intro e he
 refine cX (r.keysS h e (by simpa using he)) λx t hk hh=>?_
 exact (iEA x (by refine QC hk ?_;exact strKind_is prog w x t) hh)
end
noncomputable def qX:Key→List (Str ⊕ Int)
 | .p x i=>[.inl x,.inr i]
 | .s _=>[]
theorem xG{k':Key}(h:k.isS=false)(h':k'.isS=false)(e:qX k=qX k'):k=k':=by
 cases k<;>cases k'<;>simp [Key.isS,qX] at *
 exact e
section variable {a:Addr} {k:Key} {es:TG} {ces:List DictEntry} {n:Nat}
variable {prog:Program} {w:World} {b0:Heap} {W:Wd} {H:Hp} {A:Around} {E:TQ} {s:Shared}
theorem KRel.isTup{h:Heap}(im:∀a o,W.I a=some o→h.get? a=some o){k:Key}{hs:Int}{a:Addr}(r:KRel w W k hs (.ref a)):IsTupleKey (mX prog w) h (qX k) a∧hs=tupleKeyHash (mX prog w) (qX k)∧k.isS=false:=by
 cases r with
 |p h1 h2 h3=>exact (iAA (eY _ _ _ (im _ _ h1) h2 h3 (.cons (decide_eq_true rfl) (.cons (decide_eq_true rfl) .nil))) rfl rfl)
theorem KRel.isPair{h:Int}{c:Value}(r:KRel w W k h c)(q:k.isS=false):∃a,c= .ref a:=
 r.casesOn (motive:=λk h c U=>k.isS=false→∃a,c= .ref a) (λU U q=>nomatch q) (fun {_ _ a _ _ _ _} _ _ _ _=>⟨a,rfl⟩) q
theorem ERels.xs{h:Heap}(im:∀a o,W.I a=some o→h.get? a=some o){es:TG}{cs:List DictEntry}(r:ERels w W es cs)(hs:∀e∈es,e.1.isS=false):
  ∃xs:List (List (Str ⊕ Int)×Addr×Value),cs=xs.map (entryOfKey (tupleKind (mX prog w)))∧(∀x∈xs,(tupleKind (mX prog w)).is h x.1 x.2.1)∧xs.map (·.1)=es.map λe=>qX e.1:=by
 induction r with
 |nil=>exact (cM ([]) rfl (λU h=>nomatch h) rfl)
 |@cons k v hs' key cv es cs hk hv r ih=>
  refine eV (ih λe he=>hs e (List.mem_cons_of_mem _ he)) λxs z1 e2 e3=>?_;subst z1
  refine oE (hk.isPair (hs _ (List.mem_cons_self ..))) λa z1=>?_;subst z1
  refine oAA (KRel.isTup (prog:=prog) im hk) λp1 z1 p3=>?_;subst z1
  refine (cM ((qX k,a,cv)::xs) rfl (λx hx=>?_) (by refine QJ List.map_cons ?_;refine QR List.map_cons ?_;exact QS e3))
  rcases List.mem_cons.mp hx with q|hx
  ·rw [q];exact p1
  ·exact e2 x hx
theorem wP(hn:(es.map (·.1)).Nodup){i:Nat}(h:(es.map (·.1))[i]?=some k):hY k es=some i:=by
 cases q:hY k es with
 |none=>exact absurd (List.mem_of_getElem? h) (posK_none.mp q)
 |some j=>
  refine oE (iQ q) λv hv=>?_
  have:(es.map (·.1))[j]?=some k:=by refine QJ List.getElem?_map ?_;refine QC hv ?_;rfl
  have hlt:=(List.getElem?_eq_some_iff.mp h).1
  exact QD ((List.getElem?_inj hlt hn).mp (h.trans this.symm)) rfl
structure DOk (w:World) (W:Wd) (h:Heap) (a:Addr) (es:TG) (ces:List DictEntry) (n:Nat):Prop where
 at_:h.get? a=some (dictOf ces n)
 rel:ERels w W es ces
 nd:(es.map (·.1)).Nodup
 kinds:∀e∈es,∀e'∈es,e.1.isS=e'.1.isS
 im:∀a o,W.I a=some o→h.get? a=some o
 big:1<a
theorem DOk.typeIs(d:DOk w W s.heap a es ces n):s.TypeIs (.ref a) "dict":=(iEA _ d.at_ rfl)
theorem iD(i:Inv w b0 W H s.heap){l:Nat}{es:TG}{ep:Nat}{c:Value}(hl:H[l]?=some (.dict es ep))(hv:VRel W (.loc l) c):
  ∃a off ces,c= .ref a∧W.ρ[l]?=some (a,off)∧DOk w W s.heap a es ces (ep+off):=by
 refine cX hv.inv λa off z1 e=>?_;subst z1
 refine oEA (i.on hl e) λU h2 z1=>?_;refine NX z1 λces z2 hr hn hk=>?_;clear z1;subst z2
 exact ⟨a,off,ces,rfl,e,h2,hr,hn,hk,i.im,i.big _ _ _ e⟩
theorem lV{hs:Int}{key:Value}(kr:KRel w W k hs key)(im:∀a o,W.I a=some o→s.heap.get? a=some o)(hu:A.units<cLine){Q:Int→Shared→Prop}(h:∀tk,Q hs {s with toks:=tk}):wpAny (model prog w) A (pyHash key) Q E s:=by
 cases kr with
 |s x t=>exact wpAny_pyHash_str (h _)
 |p h1 h2 h3=>
  refine oAA (KRel.isTup (prog:=prog) im (.p (w:=w) h1 h2 h3)) λp1 p2 p3=>?_
  exact wpAny_pyHash_tuple hu p1 (h _)
theorem lX(d:DOk w W s.heap a es ces n){k:Key}{hs:Int}{key:Value}(kr:KRel w W k hs key)(hk:cA k es=true)(hu:A.units<cLine){Q:Option Nat→Shared→Prop}(h:Q (hY k es) s):
  wpAny (model prog w) A (dictFind a key hs) Q E s:=by
 have hall:∀e∈es,e.1.isS=k.isS:=λe he=>by simpa using List.all_eq_true.mp hk e he
 cases kr with
 |s x t=>
  refine wpAny_dictFind_of (knd:=PySem.strKind prog w) (strKind_is prog w x t) d.at_ rfl (d.rel.keysOf λe he=>hall e he) ?_
  have:=d.rel.idxS (λe he=>hall e he) x
  show Q (ces.toArray.findIdx? λe=>Value.isStrOf x e.key) s
  rw [List.findIdx?_toArray,this]
  exact h
 |@p x i _ o n t u h1 h2 h3=>
  refine oAA (KRel.isTup (prog:=prog) d.im (.p (w:=w) h1 h2 h3)) λp1 p2 p3=>?_
  refine eV (d.rel.xs (prog:=prog) d.im λe he=>hall e he) λxs e1 e2 e3=>?_
  have hx1:∀j:Nat,(xs[j]?).map (·.1)=((es.map (·.1))[j]?).map qX:=λj=>by
   refine QJ List.getElem?_map.symm ?_;refine e3.symm▸?_;refine QJ List.getElem?_map ?_;refine QD List.getElem?_map ?_;refine QR (Option.map_map _ _ _) ?_;rfl
  have hnx:(xs.map (·.1)).Nodup:=by
   have:xs.map (·.1)=(es.map (·.1)).map qX:=by refine QJ e3 ?_;refine QR List.map_map ?_;rfl
   rw [this]
   have go:∀l:List Key,l.Nodup→(∀q∈l,q.isS=false)→(l.map qX).Nodup:=by
    intro l
    induction l with
    |nil=>intros;exact List.nodup_nil
    |cons q r ih=>
     intro hn hq
     rw [List.nodup_cons] at hn
     refine List.map_cons.symm▸?_;refine List.nodup_cons.2 ?_
     refine ⟨λhm=>?_,ih hn.2 λz hz=>hq z (List.mem_cons_of_mem _ hz)⟩
     refine oEA (List.mem_map.mp hm) λz hz ez=>?_
     exact hn.1 (xG (hq z (List.mem_cons_of_mem _ hz)) (hq q (List.mem_cons_self ..)) ez▸hz)
   exact go _ d.nd λq hq=>by
    refine oEA (List.mem_map.mp hq) λe he z1=>?_;subst z1
    exact hall e he
  refine wpAny_dictFind_heap (knd:=tupleKind (mX prog w)) (k:=[.inl _,.inr _]) hu p1 d.at_ rfl (by assumption) e2 hnx (λhno=>?_) λj p hj=>?_
  ·have:hY (.p x i) es=none:=posK_none.mpr λhm=>by
    refine oE (List.getElem?_of_mem hm) λj hj=>?_
    have hx:=hx1 j
    rw [hj] at hx
    obtain ⟨⟨kk,p⟩,hp,hkk⟩:=Option.map_eq_some_iff.mp hx
    exact hno j p (by refine QJ hp ?_;exact congrArg (λz=>some (z,p)) (show kk=qX (.p x i) from hkk))
   rw [←this];exact h
  ·have hx:=hx1 j
   rw [hj] at hx
   refine oEA (Option.map_eq_some_iff.mp hx.symm) λkk hkk ekk=>?_
   have hm:=List.mem_of_getElem? hkk
   refine oEA (List.mem_map.mp hm) λe he z1=>?_;subst z1
   have:e.1=Key.p x i:=xG (hall e he) rfl ekk
   rw [this] at hkk
   have:=wP d.nd hkk
   rw [←this];exact h
theorem tI (d:DOk w W s.heap a es ces n) {k:Key} {hs:Int} {key:Value} (kr:KRel w W k hs key) (hk:cA k es=true) (hu:A.units<cLine) {Q:Option Value→Shared→Prop}
  (h1:∀tk,aP k es=none→Q none {s with toks:=tk}) (h2:∀tk v cv,aP k es=some v→VRel W v cv→Q (some cv) {s with toks:=tk}):
  wpAny (model prog w) A (dictGet a key) Q E s:=by
 unfold dictGet
 try with_reducible refine wpAny_holding ?_
 refine wpAny_bind (lV kr d.im hu λtk=>?_)
 refine wpAny_bind (lX (s:={s with toks:=tk}) (n:=n) ⟨d.at_,d.rel,d.nd,d.kinds,d.im,d.big⟩ kr hk hu ?_)
 have hf:=lC k es
 cases q:hY k es with
 |none=>rw [q] at hf;exact wpAny_pure (h1 tk hf)
 |some i=>
  refine oE (iQ q) λv hv=>?_
  refine eV (d.rel.get i k v hv) λe he U hr=>?_
  rw [q] at hf
  refine wpAny_bind (wpAny_dictEntries (s:={s with toks:=tk}) d.at_ rfl (wpAny_pure ?_))
  have:(ces.toArray[i]?).map (·.val)=some e.val:=by simp [he]
  rw [this]
  exact h2 tk v e.val (by refine QJ hf ?_;simp [hv]) hr
theorem yU(h:1<a):(a==sysModules)=false:=by
 have:a≠sysModules:=λe=>by rw [e] at h;exact absurd h (by decide)
 simpa using this
theorem K9(h:1<a){key:Value}{Q:Option Str→Shared→Prop}(hq:Q none s):wpAny (model prog w) A (Builtin.Dict.pendingKey? a key) Q E s:=by
 unfold Builtin.Dict.pendingKey?
 refine QW (if_neg (by rw [yU h];exact Bool.false_ne_true)) ?_
 exact wpAny_pure hq
theorem kQ (d:DOk w W s.heap a es ces n) {k:Key} {hs:Int} {key:Value} (kr:KRel w W k hs key) (hk:cA k es=true) (hu:A.units+4<cLine) {Q:Bool→Shared→Prop}
  (h:∀tk,Q (aP k es).isSome {s with toks:=tk}):wpAny (model prog w) A (contains (.ref a) key) Q E s:=by
 unfold contains
 try with_reducible refine wpAny_holding ?_
 refine wpAny_bind (wpAny_specialOf d.typeIs slot_dict_contains.lookup ?_)
 show wpAny _ _ (if (some (Value.builtin "dict.__contains__")==some Value.none)=true then _ else _) _ E s
 refine QW (if_neg (by rw [beq_builtin_none];exact Bool.false_ne_true)) ?_
 refine wpAny_bind (wpAny_callSpecialUnlessNone?_slot (name:=Str.ofString "__contains__") d.typeIs slot_dict_contains
  (wpAny_call_entry slot_dict_contains d.typeIs entry_dict_contains ?_ (args_dict_contains _ _)))
 show wpAny _ _ (dictGet a key >>= _) _ _ s
 refine wpAny_bind (tI d kr hk (Nat.lt_of_le_of_lt (Nat.add_le_add_left (by decide:1≤4) A.units) hu) (λtk e=>?_) λtk v cv e U=>?_)
 ·have hq:=h tk
  rw [e] at hq
  show wpAny _ _ (Builtin.Dict.pendingKey? a key >>= _) _ _ _
  exact wpAny_bind (K9 d.big (wpAny_pure (iEA (.bool false) rfl (wpAny_truthy_bool hq))))
 ·have hq:=h tk
  rw [e] at hq
  show wpAny _ _ (ret (.bool true)) _ _ _
  exact wpAny_pure (iEA (.bool true) rfl (wpAny_truthy_bool hq))
theorem yZ (d:DOk w W s.heap a es ces n) {k:Key} {hs:Int} {key:Value} (kr:KRel w W k hs key) (hk:cA k es=true) (hu:A.units+4<cLine) {v:V} (hv:aP k es=some v) {Q:TQ}
  (h:∀tk cv,VRel W v cv→Q cv {s with toks:=tk}):wpAny (model prog w) A (PySem.getItem (.ref a) key) Q E s:=by
 unfold PySem.getItem
 try with_reducible refine wpAny_holding ?_
 refine wpAny_bind (wpAny_sequenceKey d.typeIs (by decide) ?_)
 refine wpAny_bind (wpAny_callSpecial?_slot (name:=Str.ofString "__getitem__") d.typeIs slot_dict_getitem
  (wpAny_call_entry slot_dict_getitem d.typeIs entry_dict_getitem ?_ (args_dict_getitem _ _)))
 show wpAny _ _ (dictGet a key >>= _) _ _ s
 refine wpAny_bind (tI d kr hk (Nat.lt_of_le_of_lt (Nat.add_le_add_left (by decide:1≤4) A.units) hu) (λtk e=>?_) λtk u cv e hr=>?_)
 ·rw [hv] at e;exact sn e
 ·rw [hv] at e;have z9:=Option.some.inj e;clear e;subst z9
  exact wpAny_pure (iEA cv rfl (wpAny_pure (h tk cv hr)))
end
end
section
section
variable {prog:Program} {w:World} {b0:Heap} {W:Wd} {H:Hp} {A:Around} {E:TQ} {s:Shared}
theorem GC {a:Addr} {es:TG} {ces:List DictEntry} {n:Nat} (d:DOk w W s.heap a es ces n) {k:Key} {hs:Int} {key v:Value} (kr:KRel w W k hs key) (hk:cA k es=true) (hu:A.units+4<cLine) (hz:es.length≤1000) {Q:Unit→Shared→Prop}
  (h1:∀tk i h',hY k es=some i→h'.get? a=some (dictOf (ces.modify i λe=>{e with val:=v}) n)→Heap.SameBut a s.heap h'→Q () {s with heap:=h',toks:=tk})
  (h2:∀tk h',hY k es=none→h'.get? a=some (dictOf (ces++[⟨hs,key,v⟩]) (n+1))→Heap.SameBut a s.heap h'→Q () {s with heap:=h',toks:=tk}):
  wpAny (model prog w) A (PySem.setItem (.ref a) key v) Q E s:=by
 have hz':ces.toArray.size≤sizeLine:=by
  refine QA List.size_toArray ?_;refine QA d.rel.length.symm ?_
  exact Nat.le_trans hz (by decide)
 unfold PySem.setItem
 try with_reducible refine wpAny_holding ?_
 refine wpAny_bind (wpAny_sequenceKey d.typeIs (by decide) ?_)
 refine wpAny_bind (wpAny_callSpecial?_slot (name:=Str.ofString "__setitem__") d.typeIs slot_dict_setitem
  (wpAny_call_entry slot_dict_setitem d.typeIs entry_dict_setitem ?_ (args_dict_setitem _ _ _)))
 show wpAny _ _ (Builtin.Dict.notOrdered "__setitem__" ⟨[.ref a,key,v],[]⟩ >>= _) _ _ s
 refine wpAny_bind (wpAny_notOrdered_dict d.typeIs ?_)
 show wpAny _ _ (dictSet a key v >>= _) _ _ s
 refine wpAny_bind ?_
 unfold dictSet
 try with_reducible refine wpAny_holding ?_
 refine wpAny_bind (lV kr d.im (Nat.lt_of_le_of_lt (Nat.add_le_add_left (by decide:1≤4) A.units) hu) λtk=>?_)
 unfold dictSetHashed
 try with_reducible refine wpAny_holding ?_
 refine wpAny_bind (lX (s:={s with toks:=tk}) (n:=n) ⟨d.at_,d.rel,d.nd,d.kinds,d.im,d.big⟩ kr hk (Nat.lt_of_le_of_lt (Nat.add_le_add_left (by decide:1≤4) A.units) hu) ?_)
 cases q:hY k es with
 |some i=>
  refine wpAny_bind (wpAny_rule (wpAny_bind (wpAny_updateDict (s:={s with toks:=tk}) d.at_ rfl (wpAny_point (wpAny_pure (iEA .none rfl (wpAny_pure ?_)))))))
  refine h1 tk i _ q ?_ (Heap.SameBut.update ..)
  have:=Heap.get?_update_self (Obj.mapDict λx=>x.modify i λe=>{e with val:=v}) d.at_ rfl
  refine QJ this ?_
  simp [Obj.mapDict]
 |none=>
  refine wpAny_bind (wpAny_rule (wpAny_updateDictKeys (hz:=hz') (s:={s with toks:=tk}) d.at_ rfl (wpAny_pure (iEA .none rfl (wpAny_pure ?_)))))
  refine h2 tk _ q ?_ (Heap.SameBut.update ..)
  have:=Heap.get?_update_self (Obj.mapDictKeys λx=>x.push ⟨hs,key,v⟩) d.at_ rfl
  refine QJ this ?_
  simp [Obj.mapDictKeys]
noncomputable def uM(w:World):Key→Int
 | .s x=>hashStr w x
 | .p x i=>wR w x i
theorem qO{vs:TL}{q:V×V}(h:t4 vs=some q):vs=[q.1,q.2]:=by
 cases vs with
 |nil=>exact ns h
 |cons a r=>cases r with
  |nil=>exact ns h
  |cons b r=>cases r with
   |nil=>exact Option.some.inj h▸rfl
   |cons _ _=>exact ns h
theorem yY{vs:TL}{k:Key}(e:iA (.tup vs)=some k):∃x i,vs=[.str x,.int i]∧k= .p x i:=by
 refine oEA (bN (show (t4 vs).bind _=_ from e)) λq e1 e=>?_
 refine oEA (bN e) λx e2 e=>?_
 refine oEA (lQ e) λi e3 z1=>?_;subst z1
 exact (dS x i (by refine QJ (qO e1) ?_;refine (fV e2).symm▸?_;exact (cG e3)▸rfl) rfl)
theorem jA{v:V}{k:Key}{c:Value}(e:iA v=some k)(r:VRel W v c):KRel w W k (uM w k) c:=by
 have r:=r.inv
 cases v with
 |str x=>have z9:=Option.some.inj e;clear e;subst z9;refine oE r λU z1=>?_;clear r;subst z1;exact .s _ _
 |tup vs=>
  refine cX (yY e) λx i z1 z2=>?_;subst z1 z2
  refine bF r λU U U U z1 h1 h2 h3 h4=>?_;clear r;subst z1
  obtain ⟨_,_,rfl,x1,h4⟩:=h4.consI
  obtain ⟨_,_,rfl,x2,h4⟩:=h4.consI
  have z9:=h4.nilI;subst z9
  refine oE x1.inv λU z1=>?_;subst z1
  refine oE x2.inv λU z1=>?_;subst z1
  exact .p h1 h2 h3
 |_=>exact ns e
noncomputable def KV(w:World)(b0:Heap)(W:Wd)(s:Shared)(v:V)(H:Hp)(Q:TQ):Prop:=
 ∀cv W' s',Step W s.heap W' s'.heap→Inv w b0 W' H s'.heap→VRel W' v cv→Same s s'→Q cv s'
theorem KV.here{Q:TQ}{v:V}{cv:Value}(i:Inv w b0 W H s.heap)(k:KV w b0 W s v H Q)(r:VRel W v cv)(tk:Nat):Q cv {s with toks:=tk}:=
 k cv W {s with toks:=tk} (Step.refl _ _) i r rfl
theorem zF {l:Nat} {es:TG} {ep:Nat} {cd:Value} (i:Inv w b0 W H s.heap) (hl:H[l]?=some (.dict es ep)) (hd:VRel W (.loc l) cd) {kv v:V} {k:Key} {key cv:Value} (ek:iA kv=some k) (hkv:VRel W kv key) (hv:VRel W v cv) (hk:cA k es=true) (hz:es.length≤1000) (hu:A.units+4<cLine) {Q:Unit→Shared→Prop}
  (h:∀s',Step W s.heap W s'.heap→Inv w b0 W (H.set l (.dict (cP k v es) (if (aP k es).isSome then ep else ep+1))) s'.heap→Same s s'→Q () s'):
  wpAny (model prog w) A (PySem.setItem cd key cv) Q E s:=by
 refine cQ (iD i hl hd) λa off ces z1 hρ d=>?_;subst z1
 have hf:=lC k es
 refine GC d (jA ek hkv) hk hu hz (λtk j h' q g sb=>?_) λtk h' q g sb=>?_
 ·refine oE (iQ q) λu hu'=>?_
  have hsome:(aP k es).isSome=true:=by refine QC hf ?_;refine q.symm▸?_;simp [hu']
  refine h {s with heap:=h',toks:=tk} (Step.set hρ (λb hb o e=>(sb.2 b hb).trans e) ⟨_,g⟩) (i.set hρ (λb hb o e=>(sb.2 b hb).trans e) g ?_) rfl
  rw [if_pos hsome]
  refine (kK _ rfl ?_ (jG d.nd) (λe he e' he'=>(fF hk e he).trans (fF hk e' he').symm))
  refine (mR _ _ _).symm▸?_;refine q.symm▸?_
  exact d.rel.modify hv
 ·have hnone:(aP k es).isSome=false:=by refine QC hf ?_;refine q.symm▸?_;rfl
  refine h {s with heap:=h',toks:=tk} (Step.set hρ (λb hb o e=>(sb.2 b hb).trans e) ⟨_,g⟩) (i.set hρ (λb hb o e=>(sb.2 b hb).trans e) g ?_) rfl
  rw [if_neg (by rw [hnone];decide)]
  refine (kK _ (by rw [Nat.add_right_comm]) ?_ (jG d.nd) (λe he e' he'=>(fF hk e he).trans (fF hk e' he').symm))
  refine (mR _ _ _).symm▸?_;refine q.symm▸?_
  exact d.rel.snoc (jA ek hkv) hv
end
end
section
section
variable {prog:Program} {w:World} {b0:Heap} {W:Wd} {H:Hp} {A:Around} {E:TQ} {s:Shared}
theorem gM{x:TL}{c:Value}(h:VRel W (.tup x) c):∃(vs:List Value) (p:Addr) (o:Obj) (n:Nat),W.I p=some o∧o.cls= .type "tuple"∧o.data= .seq vs.toArray n∧VRels W x vs∧c= .ref p:=by
 refine bF h.inv λU U U U z1 h1 h2 h3 h4=>?_;subst z1
 exact (bW _ _ _ _ h1 h2 h3 h4 rfl)
theorem UK(i:Inv w b0 W H s.heap)(hu:A.units+4<cLine){a b:V}{ca cb:Value}(ha:VRel W a ca)(hb:VRel W b cb){r:Bool}(e:eq1 a b=some r):RcAt A s ca cb r∧RcNeAt A s ca cb (!r):=by
 have z:=λe=>(λq:E0 A s ca cb r=>And.intro q.rc q.ne) (AU i (Nat.lt_of_le_of_lt (Nat.le_add_right _ _) hu) ha hb e)
 unfold eq1 at e
 cases qa:iO a with
 |none=>rw [qa] at e;exact z e
 |some x=>
  rw [qa] at e
  cases qb:iO b with
  |none=>replace e:=ZC qb e;exact z e
  |some y=>
   replace e:=ZC qb e
   clear z
   rw [fW qa] at ha
   rw [fW qb] at hb
   refine bF (gM ha) λvs p o n h1 h2 h3 h4 z1=>?_;subst z1
   refine bF (gM hb) λus q o' n' g1 g2 g3 g4 z1=>?_;subst z1
   refine oEA (rD (A:=A.in1) (s:=s) h4 g4 (λa U b U ca cb r ha hb e=>uW i (Nat.lt_of_le_of_lt (Nat.add_le_add_left (by decide:1≤4) A.units) hu) ha hb e) e) λf hf z1=>?_;subst z1
   exact ⟨RcAt.tuples (A:=A) (e:=f) (fK i h1 h2 h3) (fK i g1 g2 g3) (Nat.lt_of_le_of_lt (Nat.le_add_right _ _) hu) hf,RcNeAt.tuples (A:=A) (e:=f) (fK i h1 h2 h3) (fK i g1 g2 g3) (Nat.lt_of_le_of_lt (Nat.le_add_right _ _) hu) hf⟩
theorem FK{A:Around}{m n:Nat}(hu:A.units+n<cLine)(h:m+1≤n):A.in1.units+m<cLine:=by
 show A.units+1+m<cLine
 exact ow3 h hu
theorem b7{a:Addr}{cvs:List Value}{n:Nat}(h:s.heap.get? a=some (listOf cvs.toArray n)):s.heap.IsList a cvs.toArray:=(cM _ h rfl ⟨n,rfl⟩)
theorem F3(i:Inv w b0 W H s.heap)(hu:A.units+6<cLine){a b:V}{ca cb:Value}(ha:VRel W a ca)(hb:VRel W b cb){r:Bool}(e:eqV H a b=some r):RcAt A s ca cb r∧RcNeAt A s ca cb (!r):=by
 unfold eqV at e
 cases qa:iX a with
 |none=>rw [qa] at e;exact UK i (ow2 hu) ha hb e
 |some l=>
  rw [qa] at e
  refine oEA (bN e) λm qb e=>?_
  refine oEA (bN e) λxs h1 e=>?_
  refine oEA (bN e) λys h2 e=>?_
  rw [fZ qa] at ha
  rw [fZ qb] at hb
  refine cD (dL i h1 ha) λp off cs n z1 e1 e2 e3=>?_;subst z1
  refine cD (dL i h2 hb) λq off' ds n' z1 g1 g2 g3=>?_;subst z1
  have hu:=Nat.lt_of_le_of_lt (Nat.le_add_right A.units 6) hu
  by_cases hlen:xs.length=ys.length
  ·rw [if_pos hlen] at e
   refine oEA (rD (A:=A.in1) (s:=s) e3 g3 (λa U b U ca cb r ha hb e=>UL i (FK (n:=6) (by assumption) (by decide)) ha hb e) e) λf hf z1=>?_;subst z1
   have hl:cs.length=ds.length:=e3.length.symm.trans (hlen.trans g3.length)
   refine hl.symm▸?_;rewrite [beq_self_eq_true];refine (Bool.and_true _).symm▸?_;refine (Nat.min_self _).symm▸?_;refine hl▸?_
   exact ⟨RcAt.lists (A:=A) (e:=f) (b7 e2) (b7 g2) hl hu hf,RcNeAt.lists (A:=A) (e:=f) (b7 e2) (b7 g2) hl hu hf⟩
  ·rw [if_neg hlen] at e
   have z9:=Option.some.inj e;clear e;subst z9
   have hsz:(cs.toArray.size !=ds.toArray.size)=true:=bne_iff_ne.mpr λq=>hlen (e3.length.trans (q.trans g3.length.symm))
   exact ⟨RcAt.lists_lengths (b7 e2) (b7 g2) hsz hu,RcNeAt.lists_lengths (b7 e2) (b7 g2) hsz hu⟩
noncomputable def g8(x:Str):Value→Bool
 | .str y _=>y==x
 |_=>false
theorem DK(i:Inv w b0 W H s.heap)(hu:A.units<cLine){x:Str}{t:Tok}{v:V}{c:Value}(hv:VRel W v c){r:Bool}(e:DL x v=some r):g8 x c=r∧EqAt A s c (.str x t) r:=by
 refine ⟨?_,uW i hu hv (.str x t) e⟩
 have hv:=hv.inv
 cases v with
 |none=>subst hv;exact Option.some.inj e
 |int _=>refine oE hv λU z1=>?_;clear hv;subst z1;exact Option.some.inj e
 |str _=>refine oE hv λU z1=>?_;clear hv;subst z1;exact Option.some.inj e
 |tup _=>refine jH hv λU U U U z1 U=>?_;clear hv;subst z1;exact Option.some.inj e
 |_=>exact ns e
theorem LI(i:Inv w b0 W H s.heap)(hu:A.units<cLine){x:Str}{t:Tok}{vs:TL}{cs:List Value}(h:VRels W vs cs):∀{r:Bool},w0 x vs=some r→cs.any (g8 x)=r∧∀y∈cs,EqAt A s y (.str x t) (g8 x y):=
 h.ind (P:=λvs cs=>∀{r:Bool},w0 x vs=some r→cs.any (g8 x)=r∧∀y∈cs,EqAt A s y (.str x t) (g8 x y)) (λe=>⟨Option.some.inj e,λU h=>nomatch h⟩) fun {v c vs cs} h _ ih {r} e=>by
  refine oEA (bN e) λb e1 e=>?_
  refine oEA (lQ e) λm e2 z1=>?_;subst z1
  refine oA (DK (t:=t) i hu h e1) λp1 p2=>?_
  refine oA (ih e2) λq1 q2=>?_
  exact ⟨by refine QJ List.any_cons ?_;refine p1.symm▸?_;exact QS q1,λy hy=>(List.mem_cons.mp hy).elim (λq=>by rw [q,p1];exact p2) (q2 y)⟩
theorem q0(i:Inv w b0 W H s.heap)(hu:A.units+6<cLine){x c:V}{cx cc:Value}(hx:VRel W x cx)(hc:VRel W c cc){r:Bool}(e:xH H x c=some r):
  (∀{Q:TQ},(∀tk,Q (.bool r) {s with toks:=tk})→wpAny (model prog w) A (compareOp .In cx cc) Q E s)∧
  (∀{Q:TQ},(∀tk,Q (.bool (!r)) {s with toks:=tk})→wpAny (model prog w) A (compareOp .NotIn cx cc) Q E s):=by
 cases c with
 |loc l=>
  rcases fN (show onO none _ _ _ _ _=_ from e) with ⟨vs,hl,e⟩|⟨es,ep,hl,e⟩
  ·refine oEA (bN e) λu qx e=>?_
   refine cD (dL i (dP hl) hc) λp off cs n z1 e1 e2 e3=>?_;subst z1
   refine oE ((fV qx▸hx).inv) λt z1=>?_;subst z1
   refine oA (LI (A:=A.in1) (t:=t) i (FK (m:=0) hu (by decide)) e3 e) λp1 p2=>?_
   have p1:cs.toArray.any (g8 u)=r:=by refine QJ List.any_toArray ?_;exact p1
   have p2:=λy hy=>p2 y (List.mem_toArray.mp hy)
   exact ⟨fun {Q} h=>in_listAt (g8 u) (b7 e2) p2 (by rw [p1];exact h s.toks),fun {Q} h=>notIn_listAt (g8 u) (b7 e2) p2 (by rw [p1];exact h s.toks)⟩
  ·refine oEA (bN e) λk ek e=>?_
   refine oA (d3 e) λhk e=>?_
   have z9:=Option.some.inj e;clear e;subst z9
   refine cQ (iD i hl hc) λa off ces z1 hρ d=>?_;subst z1
   have kr:=jA (w:=w) ek hx
   exact ⟨fun {Q} h=>wpAny_bind (kQ d kr hk (ow2 hu) λtk=>wpAny_pure (h tk)),fun {Q} h=>wpAny_bind (kQ d kr hk (ow2 hu) λtk=>wpAny_pure (h tk))⟩
 |str t=>
  refine oEA (bN (show (jT x).bind _=_ from e)) λu qx e=>?_
  have z9:=Option.some.inj e;clear e;subst z9
  refine oE ((fV qx▸hx).inv) λt1 z1=>?_;subst z1
  refine oE hc.inv λt2 z1=>?_;subst z1
  exact ⟨fun {Q} h=>PyProof.Rows.in_str (h s.toks),fun {Q} h=>PyProof.Rows.notIn_str (h s.toks)⟩
 |_=>exact ns e
theorem C1(i:Inv w b0 W H s.heap)(hu:A.units+6<cLine){op:CmpOp}{a b:V}{ca cb:Value}(ha:VRel W a ca)(hb:VRel W b cb){r:Bool}(e:cmp H op a b=some r){Q:TQ}(h:∀tk,Q (.bool r) {s with toks:=tk}):
  wpAny (model prog w) A (compareOp op ca cb) Q E s:=by
 cases op with
 |Eq=>exact (F3 i hu ha hb e).1 prog w E Q (h s.toks)
 |NotEq=>
  refine oEA (lQ (show (eqV H a b).map _=_ from e)) λx e1 z1=>?_;subst z1
  exact (F3 i hu ha hb e1).2 prog w E Q (h s.toks)
 |In=>exact (q0 i hu ha hb e).1 h
 |NotIn=>
  refine oEA (lQ (show (xH H a b).map _=_ from e)) λx e1 z1=>?_;subst z1
  exact (q0 i hu ha hb e1).2 h
 |Is=>
  refine oA (d3 (show (if isNone b=true then isNo a else none)=_ from e)) λq e=>?_
  have z9:=(lT q▸hb).inv;subst z9
  have ha:=ha.inv
  cases a with
  |none=>have z9:=Option.some.inj e;clear e;subst z9;subst ha;exact is_none (h s.toks)
  |obj _ _=>have z9:=Option.some.inj e;clear e;subst z9;refine jH ha λU U U U z1 U=>?_;clear ha;subst z1;exact is_none (h s.toks)
  |loc _=>have z9:=Option.some.inj e;clear e;subst z9;refine cX ha λU U z1 U=>?_;clear ha;subst z1;exact is_none (h s.toks)
  |_=>exact ns e
 |Gt=>
  refine oEA (bN (show (dY a).bind _=_ from e)) λx qa e=>?_
  refine oEA (bN e) λy qb e=>?_
  have z9:=Option.some.inj e;clear e;subst z9
  refine oE ((cG qa▸ha).inv) λU z1=>?_;subst z1
  refine oE ((cG qb▸hb).inv) λU z1=>?_;subst z1
  exact PyProof.Rows.gt_int (h s.toks)
 |_=>exact ns e
theorem oN(i:Inv w b0 W H s.heap)(hu:A.units+6<cLine){v:V}{c:Value}(hv:VRel W v c){r:Bool}(e:mH H v=some r){Q:Bool→Shared→Prop}(h:∀tk,Q r {s with toks:=tk}):
  wpAny (model prog w) A (truthy c) Q E s:=by
 cases v with
 |bool b=>have z9:=Option.some.inj e;clear e;subst z9;have z9:=hv.inv;subst z9;exact wpAny_truthy_bool (h s.toks)
 |loc l=>
  refine oEA (bN (show (aO H l).bind _=_ from e)) λvs hl e=>?_
  refine oA (d3 e) λhlen e=>?_
  have z9:=Option.some.inj e;clear e;subst z9
  refine cD (dL i hl hv) λp off cs n z1 e1 e2 e3=>?_;subst z1
  have hsz:cs.toArray.size=vs.length:=e3.length.symm
  refine wpAny_truthy_list (b7 e2) (by rw [hsz];exact ow1 hlen) ?_
  have:(!cs.toArray.isEmpty)= !vs.isEmpty:=e3.ind (P:=λvs cs=>(!cs.toArray.isEmpty)= !vs.isEmpty) rfl λU U U=>rfl
  rw [this];exact h _
 |_=>exact ns e
end
end
section
section variable {cvs:List Value} {l:Nat} {k v:V} {ca cb ck:Value}
variable {prog:Program} {w:World} {b0:Heap} {W:Wd} {H:Hp} {A:Around} {E:TQ} {s:Shared}
theorem KV.list{Q:TQ}{vs:TL}{cvs:List Value}{l:Nat}(i:Inv w b0 W H s.heap)(k:KV w b0 W s (.loc H.length) (H++[.list vs]) Q)(r:VRels W vs cvs)(tk:Nat)(hl:l=s.heap.objs.size):
  Q (.ref l) {s with heap:=s.heap.push (listOf cvs.toArray 0),toks:=tk}:=by
 subst hl
 have hf:=i.fresh
 have hn:s.heap.get? s.heap.objs.size=none:=by
  cases q:s.heap.get? s.heap.objs.size with
  |none=>rfl
  |some o=>exact absurd (Heap.lt_size q) (Nat.lt_irrefl _)
 have hg:(s.heap.push (listOf cvs.toArray 0)).get? s.heap.objs.size=some (listOf cvs.toArray 0):=Heap.get?_push_size _ rfl
 have ik:Inv w b0 W H (s.heap.push (listOf cvs.toArray 0)):=i.keeps λa o e U=>Heap.get?_push_of_some _ e
 have st:Step W s.heap W (s.heap.push (listOf cvs.toArray 0)):=Step.of_keeps λa o e=>Heap.get?_push_of_some _ e
 refine k _ (W.push s.heap.objs.size 0) {s with heap:=s.heap.push (listOf cvs.toArray 0),toks:=tk} (st.push hn) (ik.push hg hf.2 hf.1 i.one (dS cvs 0 rfl r)) ?_ rfl
 rw [←i.len]
 exact .loc (Wd.push_at W _ _)
theorem KV.tup{Q:TQ}{vs:TL}{cvs:List Value}{v:V}{l:Nat}(i:Inv w b0 W H s.heap)(k:KV w b0 W s (.tup vs) H Q)(r:VRels W vs cvs)(tk:Nat)(hl:l=s.heap.objs.size):
  Q (.ref l) {s with heap:=s.heap.push {cls:= .type "tuple",data:= .seq cvs.toArray},toks:=tk}:=by
 subst hl
 have hf:=i.fresh
 have hn:s.heap.get? s.heap.objs.size=none:=by
  cases q:s.heap.get? s.heap.objs.size with
  |none=>rfl
  |some o=>exact absurd (Heap.lt_size q) (Nat.lt_irrefl _)
 have hg:(s.heap.push {cls:= .type "tuple",data:= .seq cvs.toArray}).get? s.heap.objs.size=some {cls:= .type "tuple",data:= .seq cvs.toArray}:=Heap.get?_push_size _ rfl
 have ik:Inv w b0 W H (s.heap.push {cls:= .type "tuple",data:= .seq cvs.toArray}):=i.keeps λ a o e U=>Heap.get?_push_of_some _ e
 have st:Step W s.heap W (s.heap.push {cls:= .type "tuple",data:= .seq cvs.toArray}):=Step.of_keeps λ a o e=>Heap.get?_push_of_some _ e
 exact k _ (W.put s.heap.objs.size {cls:= .type "tuple",data:= .seq cvs.toArray}) {s with heap:=s.heap.push {cls:= .type "tuple",data:= .seq cvs.toArray},toks:=tk} (st.put hn hf.2) (ik.put hg hf.2 hf.1)
  (.tup (Wd.put_at W _ _) rfl rfl (r.up (Wd.put_sub hf.2))) rfl
noncomputable def KU(w:World)(b0:Heap)(W:Wd)(s:Shared)(H:Hp)(Q:Shared→Prop):Prop:=
 ∀s',Step W s.heap W s'.heap→Inv w b0 W H s'.heap→Same s s'→Q s'
theorem KU.list {Q:Shared→Prop} {l a off:Nat} {us:TL} {cvs:List Value} {n:Nat} {f:Array Value→Array Value} (i:Inv w b0 W H s.heap) (hρ:W.ρ[l]?=some (a,off)) (ho:s.heap.get? a=some (listOf cvs.toArray n))
  (k:KU w b0 W s (H.set l (.list us)) Q) (r:VRels W us (f cvs.toArray).toList) (tk:Nat):Q {s with heap:=s.heap.update a (Obj.mapSeq f),toks:=tk}:=by
 have hg:(s.heap.update a (Obj.mapSeq f)).get? a=some (Obj.mapSeq f (listOf cvs.toArray n)):=Heap.get?_update_self _ ho (Obj.isFreed_of_seq (n:=(if (f cvs.toArray).size==cvs.toArray.size then n else n+1)) rfl)
 refine k {s with heap:=s.heap.update a (Obj.mapSeq f),toks:=tk} (Step.set hρ (λb hb o e=>((Heap.SameBut.update ..).2 b hb).trans e) ⟨_,hg⟩) (i.set hρ (λb hb o e=>((Heap.SameBut.update ..).2 b hb).trans e) hg ?_) rfl
 exact (dS ((f cvs.toArray).toList) _ (by simp [Obj.mapSeq];rfl) r)
theorem sG {m:Nat} {xs ys:TL} (i:Inv w b0 W H s.heap) (h1:H[l]?=some (.list xs)) (h2:H[m]?=some (.list ys)) (ha:VRel W (.loc l) ca) (hb:VRel W (.loc m) cb) (hz:xs.length+ys.length≤1000)
  {Q:TQ} (h:KV w b0 W s (.loc H.length) (H++[.list (xs++ys)]) Q):wpAny (model prog w) A (binaryOp .Add ca cb) Q E s:=by
 refine cD (dL i (dP h1) ha) λp off cs n z1 e1 e2 e3=>?_;subst z1
 refine cD (dL i (dP h2) hb) λq off' ds n' z1 g1 g2 g3=>?_;subst z1
 have e:cs.toArray++ds.toArray=(cs++ds).toArray:=by simp
 refine concat_meets (iEA _ e2 rfl) (iEA _ g2 rfl) noFill_list_add seq_list_add PySem.F.slot_list_add PySem.F.entry_list_add (PySem.F.args_list_add_2 _ _) (list_addW p q cs.toArray ds.toArray n n' none none #[] #[] ?_) (iAA e2 g2 ?_)
 ·refine List.size_toArray.symm▸?_;refine List.size_toArray.symm▸?_;refine e3.length▸?_;refine g3.length▸?_;exact Nat.le_trans hz (by decide)
 ·refine e.symm▸?_
  exact KV.list i h (e3.append g3) _ rfl
theorem mZ{α:Type}{a b:V}{k:Int→Int→Option α}{r:α}(e:CH a b k=some r)(ha:VRel W a ca)(hb:VRel W b cb):∃x y t u,ca= .int x t∧cb= .int y u∧k x y=some r:=by
 refine oEA (bN e) λx qa e=>?_
 refine oEA (bN e) λy qb e=>?_
 refine oE ((cG qa▸ha).inv) λt h1=>?_
 refine oE ((cG qb▸hb).inv) λu h2=>?_
 exact (AN x y t u h1 h2 e)
theorem EO{α:Type}{vs:List α}{v:α}(e:nth vs k=some v)(hk:VRel W k ck):∃j t,ck= .int j t∧(0≤j∧j<2^62)∧vs[j.toNat]?=some v:=by
 refine oEA (bN e) λj qk e=>?_
 refine oA (d3 e) λhj e=>?_
 refine oE ((cG qk▸hk).inv) λt h1=>?_
 exact (eW j t h1 hj e)
theorem xQ {op:Operator} {a b:V} {p:V×Hp} (i:Inv w b0 W H s.heap) (e:bH H op a b=some p) (ha:VRel W a ca) (hb:VRel W b cb)
  {Q:TQ} (h:KV w b0 W s p.1 p.2 Q):wpAny (model prog w) A (binaryOp op ca cb) Q E s:=by
 cases op with
 |Add=>
  cases a with
  |int x=>
   refine oEA (bN (show (dY b).bind _=_ from e)) λy qb e=>?_
   have z9:=Option.some.inj e;clear e;subst z9
   refine oE ha.inv λU z1=>?_;subst z1
   refine oE ((cG qb▸hb).inv) λU z1=>?_;subst z1
   exact PyProof.Rows.add_int (h.here i (.int _ _) _)
  |str x=>
   refine oEA (bN (show (jT b).bind _=_ from e)) λy qb e=>?_
   refine oA (d3 e) λhs e=>?_
   have z9:=Option.some.inj e;clear e;subst z9
   refine oE ha.inv λU z1=>?_;subst z1
   refine oE ((fV qb▸hb).inv) λU z1=>?_;subst z1
   exact PyProof.Rows.add_str (λt' tk=>h.here i (.str _ _) _) (Nat.le_trans hs (by decide))
  |loc l=>
   refine oEA (bN (show (iX b).bind _=_ from e)) λm qb e=>?_
   refine oEA (bN e) λxs h1 e=>?_
   refine oEA (bN e) λys h2 e=>?_
   refine oA (d3 e) λhz e=>?_
   have z9:=Option.some.inj e;clear e;subst z9
   exact sG i (lR h1) (lR h2) ha (fZ qb▸hb) hz h
  |_=>exact ns e
 |Sub=>
  refine mV (mZ e ha hb) λx y U U z1 z2 e=>?_;subst z1 z2
  have z9:=Option.some.inj e;clear e;subst z9
  exact PyProof.Rows.sub_int (h.here i (.int _ _) _)
 |Mult=>
  refine mV (mZ e ha hb) λx y U U z1 z2 e=>?_;subst z1 z2
  refine oA (d3 e) λhs e=>?_
  have z9:=Option.some.inj e;clear e;subst z9
  have h1:x.natAbs<2^62:=of_decide_eq_true ((Bool.and_eq_true _ _).mp hs).1
  exact PyProof.Rows.mul_int (h.here i (.int _ _) _) (IntMulOk.of_left (intBits_le_64 (nb64 h1).1 (nb64 h1).2))
 |FloorDiv=>
  refine mV (mZ e ha hb) λx y U U z1 z2 e=>?_;subst z1 z2
  refine oA (d3 e) λhs e=>?_
  have z9:=Option.some.inj e;clear e;subst z9
  refine PyProof.Rows.floordiv_int (ow17 hs) ?_ (Or.inl (PyProof.noPylong_small (nb30 hs)))
  rw [Int.fdiv_eq_ediv_of_nonneg _ (ow16 hs)]
  exact h.here i (.int _ _) _
 |Mod=>
  refine mV (mZ e ha hb) λx y U U z1 z2 e=>?_;subst z1 z2
  refine oA (d3 e) λhs e=>?_
  have z9:=Option.some.inj e;clear e;subst z9
  refine PyProof.Rows.mod_int (ow15 hs) ?_
  rw [Int.fmod_eq_emod_of_nonneg _ (ow14 hs)]
  exact h.here i (.int _ _) _
 |Pow=>
  refine mV (mZ e ha hb) λx y U U z1 z2 e=>?_;subst z1 z2
  refine oA (d3 e) λhs e=>?_
  have z9:=Option.some.inj e;clear e;subst z9
  simp only [Bool.and_eq_true,decide_eq_true_eq,mM] at hs
  exact pow_int_small hs.1.2 (ow13 hs) (ow12 hs) (h.here i (.int _ _) _)
 |_=>exact ns e
theorem sA {o:V} {co:Value} (i:Inv w b0 W H s.heap) (hu:A.units+6<cLine) (e:Mine.getItem H o k=some v) (ho:VRel W o co) (hk:VRel W k ck)
  {Q:TQ} (h:KV w b0 W s v H Q):wpAny (model prog w) A (PySem.getItem co ck) Q E s:=by
 cases o with
 |loc l=>
  rcases fN (show onO none _ _ _ _ _=_ from e) with ⟨vs,hl,e⟩|⟨es,ep,hl,e⟩
  ·refine dX (EO e hk) λj t z1 hj e=>?_;subst z1
   refine cD (dL i (dP hl) ho) λp off cs n z1 e1 e2 e3=>?_;subst z1
   refine oEA (e3.get _ _ e) λc hc hr=>?_
   exact wpAny_getItem_list (b7 e2) hj.1 (ow10 hj) (by simpa using hc) (h.here (s:=s) i hr s.toks)
  ·refine oEA (bN e) λkk ek e=>?_
   refine oA (d3 e) λhkk e=>?_
   refine cQ (iD i hl ho) λa off ces z1 hρ d=>?_;subst z1
   exact yZ d (jA (w:=w) ek hk) hkk (ow2 hu) e λtk cv hr=>h.here i hr tk
 |tup vs=>
  refine dX (EO e hk) λj t z1 hj e=>?_;subst z1
  refine bF (gM ho) λvs p o n h1 h2 h3 h4 z1=>?_;subst z1
  refine oEA (h4.get _ _ e) λc hc hr=>?_
  have hlt:=(List.getElem?_eq_some_iff.mp hc).1
  refine PyProof.Rows.getItem_tuple (fK i h1 h2 h3) (ow11 hj) (ow10 hj) (j:=j.toNat) ?_ (by simpa using hc) (h.here (s:=s) i hr s.toks)
  unfold seqIndex?
  rw [if_neg (show ¬j<0 by exact ow7 hj)]
  simp only [List.size_toArray]
  exact (if_pos (by simp;exact ow9 hj hlt))
 |str x=>
  refine oEA (bN (show (dY k).bind _=_ from e)) λj qk e=>?_
  refine oA (d3 e) λhj e=>?_
  refine oEA (lQ e) λc hc z1=>?_;subst z1
  refine oE ho.inv λU z1=>?_;subst z1
  refine oE ((cG qk▸hk).inv) λU z1=>?_;subst z1
  refine oE (Array.getElem?_eq_some_iff.mp hc) λhlt U=>?_
  refine PySem.P.getItem_str ?_ ?_ (h.here i (.str _ _) _)
  ·simp;exact ow8 hj
  ·unfold seqIndex?
   rw [if_neg (show ¬j<0 by exact ow7 hj)]
   rw [if_pos (by rw [Bool.and_eq_true,decide_eq_true_eq,decide_eq_true_eq];have:x.length=x.cps.size:=rfl;exact ow6 hj hlt this)]
   exact hc
 |_=>exact ns e
theorem rY {o:V} {co cv:Value} {H':Hp} (i:Inv w b0 W H s.heap) (hu:A.units+6<cLine) (e:Mine.setItem H o k v=some H') (ho:VRel W o co) (hk:VRel W k ck) (hv:VRel W v cv)
  {Q:Unit→Shared→Prop} (h:KU w b0 W s H' (Q ())):wpAny (model prog w) A (PySem.setItem co ck cv) Q E s:=by
 refine oEA (bN e) λl qo e=>?_
 rw [fZ qo] at ho
 rcases fN e with ⟨vs,hl,e⟩|⟨es,ep,hl,e⟩
 ·refine oEA (bN e) λj qk e=>?_
  refine oA (d3 e) λhj e=>?_
  have z9:=Option.some.inj e;clear e;subst z9
  refine cD (dL i (dP hl) ho) λp off cs n z1 e1 e2 e3=>?_;subst z1
  refine oE ((cG qk▸hk).inv) λU z1=>?_;subst z1
  have hsz:cs.toArray.size=vs.length:=e3.length.symm
  refine ki_setAt e2 hj.1 (ow5 hj) (by rw [hsz];exact ow4 hj) (KU.list (n:=n) (us:=vs.set j.toNat v) i e1 e2 h ?_ s.toks)
  simpa using e3.set hv
 ·refine oEA (bN e) λkk ek e=>?_
  refine oA (d3 e) λhkk e=>?_
  have z9:=Option.some.inj e;clear e;subst z9
  exact zF i hl ho ek hk hv hkk.2 hkk.1 (ow2 hu) h
end
end
section
theorem Inv.kb{w:World}{b0:Heap}{W:Wd}{H:Hp}{h:Heap}(i:Inv w b0 W H h):∀b o,b0.get? b=some o→h.get? b=some o:=λb o e=>i.im b o (i.base b o e)
structure Bas (p:Program) (loose:TS) (mg mb:TM) (K:Frag) (b0:Heap):Prop where
 X:K.In b0
 lim:b0.NoLimit
 T:TopRead p loose mg mb b0
section variable {h h' hB:Heap} {x:Str} {WB:Wd} {u:Where}
variable {prog:Program} {w:World} {p:Program} {loose:TS} {mg mb:TM} {K:Frag} {b0:Heap} {W:Wd} {H:Hp} {A:Around} {E:TQ} {s:Shared} {le:LE} {lc:Lc} {env:Env}
theorem tX(vs:List Value):∀{r:TL},mK vs=some r→VRels W r vs:=by
 induction vs with
 |nil=>intro r e;have z9:=Option.some.inj e;clear e;subst z9;exact .nil
 |cons v q ih=>
  intro r e
  refine oEA (bN e) λx hx e=>?_
  refine oEA (lQ e) λr' e' z1=>?_;subst z1
  cases v with
  |str y t=>have z9:=Option.some.inj hx;clear hx;subst z9;exact .cons (.str _ _) (ih e')
  |_=>exact ns hx
theorem BI{o:Obj}{vs:List Value}(h:p8 o=some vs):o.cls= .type "tuple"∧∃n,o.data= .seq vs.toArray n:=by
 unfold p8 at h
 cases hd:o.data with
 |seq us n=>
  rw [hd] at h
  refine oA (d3 h) λhc h=>?_
  exact ⟨beq_iff_eq.mp hc,n,by rw [←Option.some.inj h]⟩
 |_=>rw [hd] at h;exact ns h
theorem BV(X:K.In b0)(i:Inv w b0 W H s.heap){v:Value}{u:V}(e:NU K v=some u):VRel W u v:=by
 cases v with
 |str x t=>have z9:=Option.some.inj e;clear e;subst z9;exact .str _ _
 |ref a=>
  have e:Option.casesOn (motive:=λU=>TO) ((K.lookup a).bind p8) (some (.fix (.ref a))) (λvs=>(mK vs).map .tup)=some u:=e
  cases q:(K.lookup a).bind p8 with
  |none=>rw [q] at e;have z9:=Option.some.inj e;clear e;subst z9;exact .fix _
  |some vs=>
   rw [q] at e
   refine oEA (lQ e) λr e' z1=>?_;subst z1
   refine oEA (bN q) λo hl ho=>?_
   refine oAE (BI ho) λhc n hd=>?_
   exact .tup (i.base _ _ (X _ _ hl)) hc hd (tX _ e')
 |_=>exact ns e
theorem rG(h:¬x=Str.ofString "__debug__"):(x==("__debug__":Str))=false:=by
 simpa using h
theorem gR(h:cO le x=some u):¬x=Str.ofString "__debug__"∧∃k,le.scope.names.lookup x=some k∧xF x k=some u:=by
 unfold cO at h
 by_cases q:x=Str.ofString "__debug__"
 ·rw [if_pos q] at h;exact ns h
 ·rw [if_neg q] at h;exact ⟨q,bN h⟩
theorem gQ(h:cO le x=some u):¬x=Str.ofString "__debug__":=(gR h).1
theorem gL(h:cO le x=some .cell):le.scope.names.lookup x=some .cell∨le.scope.names.lookup x=some .free:=by
 refine yQ (gR h) λU k h1 h2=>?_
 cases k with
 |cell=>exact .inl h1
 |free=>exact .inr h1
 |«local»=>exact nomatch Option.some.inj h2
 |globalImplicit=>exact nomatch Option.some.inj h2
 |_=>exact ns h2
theorem lS(h:xF x .free=some u):¬x=Str.ofString "__classdict__"∧u= .cell:=by
 by_cases q:x=Str.ofString "__classdict__"
 ·exact ns (((if_pos q).symm:none=xF x .free).trans h)
 ·exact ⟨q,Option.some.inj (h.symm.trans (if_neg q:xF x .free=_))⟩
theorem oM(h:cO le x=some .loc):le.scope.names.lookup x=some .local:=by
 refine yQ (gR h) λU k h1 h2=>?_
 cases k with
 |«local»=>exact h1
 |cell=>exact nomatch Option.some.inj h2
 |globalImplicit=>exact nomatch Option.some.inj h2
 |free=>exact nomatch (lS h2).2
 |_=>exact ns h2
theorem mG(h:cO le x=some .glob):le.scope.names.lookup x=some .globalImplicit:=by
 refine yQ (gR h) λU k h1 h2=>?_
 cases k with
 |globalImplicit=>exact h1
 |cell=>exact nomatch Option.some.inj h2
 |«local»=>exact nomatch Option.some.inj h2
 |free=>exact nomatch (lS h2).2
 |_=>exact ns h2
theorem tV(he:EnvOk W le lc env s.heap)(h:cO le x=some .cell)(hf:env.kindOf x=some .free):¬x=Str.ofString "__classdict__":=by
 refine yQ (gR h) λU k h1 h2=>?_
 rcases gL h with q|q
 ·exact nomatch Option.some.inj ((he.aC x q).symm.trans hf)
 ·have z9:=Option.some.inj (h1.symm.trans q);subst z9
  exact (lS h2).1
theorem fD (B:Bas p loose mg mb K b0) (i:Inv w b0 W H s.heap) (he:EnvOk W le lc env s.heap) {x:Str} {pos:Pos} {v:V} (e:jU K le lc H x=some v)
  {Q:TQ} (h:KV w b0 W s v H Q):wpAny (model prog w) A (eval (.Name x pos) env) Q E s:=by
 refine oEA (bN e) λu hw e=>?_
 cases u with
 |loc=>
  refine oEA he.ns λm hns hm=>?_
  refine oEA (hm x v e) λcv h1 h2=>?_
  exact wpAny_Name (wpAny_loadName_local he.kind (he.wL x hw) hns h1 (h.here (s:=s) i h2 s.toks)) (rG (gQ hw))
 |glob=>
  have e:glob K x=some v:=e
  unfold glob at e
  cases hu:nsIn K mainGlobals x with
  |none=>rw [hu] at e;exact ns e
  |some o=>
   rw [hu] at e
   cases o with
   |some u=>exact Name_function_global he.kind (he.wG x hw) (loadGlobal_global (by rw [he.gl];exact B.T.g.keeps i.kb) (mg_of B.X B.T.g hu) (h.here (s:=s) i (BV B.X i e) s.toks)) (rG (gQ hw))
   |none=>
    have e:(if x=Str.ofString "__name__" then none else (bootBuiltins x).bind tyBi)=some v:=e
    by_cases hn:x=Str.ofString "__name__"
    ·rw [if_pos hn] at e;exact ns e
    ·rw [if_neg hn] at e
     refine oEA (bN e) λu e1 e2=>?_
     have hr:VRel W v u:=by
      cases u with
      |type _=>exact Option.some.inj e2▸ .fix _
      |builtin _=>exact Option.some.inj e2▸ .fix _
      |_=>exact ns e2
     exact Name_function_global he.kind (he.wG x hw) (loadGlobal_builtin (by rw [he.gl];exact B.T.g.keeps i.kb) (mg_none_of B.X B.T.g hu) (by rw [he.bi];exact B.T.b.keeps i.kb) ((B.T.builtins x hn).trans e1) (h.here (s:=s) i hr s.toks)) (rG (gQ hw))
 |cell=>
  refine oEA (bN (show (le.cells.lookup x).bind _=_ from e)) λl e1 e2=>?_
  refine cX (he.cells x l (gL hw) e1) λa off h1 h2=>?_
  refine oEA (i.on (C3 e2) h2) λob g2 g3=>?_
  rcases g3 with ⟨g,_⟩|⟨u',cv,g,hr,gd⟩
  ·exact sn g
  ·have z9:=Option.some.inj g;clear g;subst z9
   rcases he.wC x hw with hk|hk
   ·exact wpAny_Name (wpAny_loadName_cell he.kind hk h1 (iEA _ g2 gd) (h.here (s:=s) i hr s.toks)) (rG (gQ hw))
   ·exact wpAny_Name (wpAny_loadName_free he.kind hk h1 (iEA _ g2 gd) (h.here (s:=s) i hr s.toks) (by simpa using tV he hw hk)) (rG (gQ hw))
theorem pA(i:Inv w b0 W H s.heap){c:Const}{k:Nat}{pos:Pos}{v:V}(e:uZ c=some v){Q:TQ}(h:KV w b0 W s v H Q):wpAny (model prog w) A (eval (.Constant c k pos) env) Q E s:=by
 refine QW (eval_Constant _ _ _ _) ?_
 cases c with
 |none=>have z9:=Option.some.inj e;clear e;subst z9;exact wpAny_pure (h.here (s:=s) i .none s.toks)
 |bool _=>have z9:=Option.some.inj e;clear e;subst z9;exact wpAny_pure (h.here (s:=s) i (.bool _) s.toks)
 |int _=>have z9:=Option.some.inj e;clear e;subst z9;exact wpAny_mkInt (h.here i (.int _ _) _)
 |str _=>have z9:=Option.some.inj e;clear e;subst z9;exact wpAny_mkText (h.here i (.str _ _) _)
 |_=>exact ns e
structure St (w:World) (b0:Heap) (WB:Wd) (hB:Heap) (le:LE) (lc:Lc) (env:Env) (W:Wd) (H:Hp) (h:Heap):Prop where
 step:Step WB hB W h
 inv:Inv w b0 W H h
 eo:EnvOk W le lc env h
 new:hB.get? env.locals=none
theorem St.go{W':Wd}{H':Hp}(t:St w b0 WB hB le lc env W H h)(x:Step W h W' h')(i:Inv w b0 W' H' h'):St w b0 WB hB le lc env W' H' h':=⟨t.step.trans x,i,t.eo.step x,t.new⟩
noncomputable def KS(w:World)(b0:Heap)(WB:Wd)(hB:Heap)(le:LE)(lc:Lc)(env:Env)(W:Wd)(s:Shared)(H:Hp)(Q:Shared→Prop):Prop:=
 ∀W' s',StepL env.locals W s.heap W' s'.heap→St w b0 WB hB le lc env W' H s'.heap→Same s s'→Q s'
theorem Inv.but{L:Addr}(i:Inv w b0 W H h)(hI:W.I L=none)(hm:L∉W.ads)(sb:Heap.SameBut L h h'):Inv w b0 W H h':=i.keeps λa o e q=>by
 refine (sb.2 a λg=>?_).trans e
 subst g
 rcases q with q|q
 ·rw [hI] at q;exact ns q
 ·exact hm q
theorem Step.own{L:Addr}(x:Step WB hB W h)(hL:hB.get? L=none)(sb:Heap.SameBut L h h'):Step WB hB W h':={x.toSub with
 keep:=λa o e n=>by
  refine j5 (x.keep a o e n) λn' i' sl e'=>?_
  exact (iAA n' i' ⟨sl,(sb.2 a (λg=>by subst g;rw [hL] at e;exact ns e)).trans e'⟩)
 keepF:=λa o vs e d n=>(sb.2 a (λg=>by subst g;rw [hL] at e;exact ns e)).trans (x.keepF a o vs e d n)
 keepX:=λa o e d n=>(sb.2 a (λg=>by subst g;rw [hL] at e;exact ns e)).trans (x.keepX a o e d n)
 dom:=λa o e=>by
  refine oE (x.dom a o e) λo' e'=>?_
  exact ⟨o',(sb.2 a (λg=>by subst g;rw [hL] at e;exact ns e)).trans e'⟩}
theorem BW {a:Addr} {m} {name:Str} {v:Value} {Q:Unit→Shared→Prop} (hn:s.heap.Ns a m)
  (h:∀h',h'.Ns a (λx=>if x=name then some v else m x)→Heap.SameBut a s.heap h'→(∀o,s.heap.get? a=some o→∀o',h'.get? a=some o'→o'.cls=o.cls)→Q () {s with heap:=h',toks:=s.toks+1}):
  wpAny (model prog w) A (nsSet a name v) Q E s:=by
 refine kZ (id hn) λo es ep ho hd hk hm=>?_
 have g:∀h':Heap,h'=s.heap.update a (Obj.putName name (PyData.keyHash w.params name) (.str name s.toks) v)→h'.Ns a (λx=>if x=name then some v else m x)∧Heap.SameBut a s.heap h'∧(∀o,s.heap.get? a=some o→∀o',h'.get? a=some o'→o'.cls=o.cls):=by
  rintro h' rfl
  obtain ⟨c,d,dt,sl⟩:=o
  subst hd
  have e1:=Heap.get?_update_self (Obj.putName name (PyData.keyHash w.params name) (.str name s.toks) v) ho (by refine Obj.putName_eq.symm▸?_;unfold Obj.putNameByArray;dsimp only;split<;>rfl)
  refine (iAA ?_ (Heap.SameBut.update ..) (λo1 h1 o2 h2=>?_))
  ·cases hi:es.findIdx? (·.key.isStr name) with
   |some i=>
    refine (eY _ _ ep (Heap.get?_update_self _ ho (by simp only [Obj.putName_eq,Obj.putNameByArray,hi];rfl)) (by simp only [Obj.putName_eq,Obj.putNameByArray,hi];rfl) (hk.modify _ _) (λx=>?_))
    show _=if x=name then some v else m x
    refine QD (hm _).symm ?_;exact findBy_modify (λn v=>v.isStr n) Value.isStr_inj es name x v i hi
   |none=>
    refine (eY _ _ (ep+1) (Heap.get?_update_self _ ho (by simp only [Obj.putName_eq,Obj.putNameByArray,hi];rfl)) (by simp only [Obj.putName_eq,Obj.putNameByArray,hi];rfl) (hk.push _ _ _ _) (λx=>?_))
    show _=if x=name then some v else m x
    refine QD (hm _).symm ?_
    exact findBy_push (λn v=>v.isStr n) es name x _ _ v (λy=>by
     show (name==y)=decide (y=name)
     by_cases h:y=name
     ·subst h;exact rfl
     ·have:¬name=y:=λe=>h e.symm
      simp [h,this]) hi
  ·rw [ho] at h1;have z9:=Option.some.inj h1;clear h1;subst z9
   rw [e1] at h2;have z9:=Option.some.inj h2;clear h2;subst z9
   refine Obj.putName_eq.symm▸?_;unfold Obj.putNameByArray;dsimp only;split<;>rfl
 refine oAA (g _ rfl) λg1 g2 g3=>?_
 unfold nsSet
 refine wpAny_bind (wpAny_bind (wpAny_askSetting (wpAny_pure (wpAny_bind (wpAny_mkText (wpAny_bind (wpAny_loadPart ho ?_)))))))
 have hany:es.any (·.refKey)=false:=by
  refine Array.any_eq_false'.2 ?_;intro e he;refine oEE (hk e he) λn t h=>?_;simp [DictEntry.refKey,h]
 refine hd.symm▸?_
 dsimp only
 refine QV (aRefKeyMayBeTheName_at _ _) ?_;refine hany.symm▸?_;refine QV (Bool.and_false _) ?_
 exact wpAny_updatePart ho (h _ g1 g2 g3)
theorem oP (t:St w b0 WB hB le lc env W H s.heap) {x:Str} {v:V} {cv:Value} (e:le.scope.names.lookup x=some .local) (hv:VRel W v cv)
  {Q:Unit→Shared→Prop} (h:KS w b0 WB hB le ((x,v)::lc) env W s H (Q ())):wpAny (model prog w) A (storeName env x cv) Q E s:=by
 refine oEA t.eo.ns λm hns hm=>?_
 rw [storeName_local (t.eo.aL x e) (by rw [t.eo.kind];rfl)]
 refine BW hns (λh' hn sb hc=>?_)
 refine h W {s with heap:=h',toks:=s.toks+1} (StepL.but sb (let ⟨o,_,_,e,_⟩:=hn;⟨o,e⟩)) ⟨t.step.own t.new sb,t.inv.but t.eo.free.1 t.eo.free.2 sb,?_,t.new⟩ rfl
 obtain ⟨k1,k2,k3,k4,k5,k6,k7,k8,_,k9,k10,k11,k12⟩:=t.eo
 refine ⟨k1,k2,k3,k4,k5,k6,k7,k8,(iEA _ hn (λy u hy=>?_)),k9,k10,λhf o' ho'=>?_,λL hf=>?_⟩
 ·rw [List.lookup_cons] at hy
  by_cases q:y=x
  ·subst q
   simp at hy
   subst hy
   exact (iEA cv (by simp) hv)
  ·have:(y==x)=false:=by simpa using q
   rw [this] at hy
   refine oEA (hm y u hy) λc g1 g2=>?_
   exact (iEA c (by simp [q,g1]) g2)
 ·refine kA hns λo es ep ho U=>?_;clear hns
  refine QJ (hc o ho o' ho') ?_;exact k11 hf o ho
 ·refine oE (k12 L hf) λo e=>?_
  by_cases q:L=env.locals
  ·subst q
   refine kA hn λo' U U e' U=>?_;clear hn
   exact ⟨o',e'⟩
  ·exact ⟨o,(sb.2 L q).trans e⟩
theorem pZ (t:St w b0 WB hB le lc env W H s.heap) {x:Str} {v:V} {cv:Value} {l:Nat} (e:le.scope.names.lookup x=some .cell) (el:le.cells.lookup x=some l) (hc:kJ H l=true) (hv:VRel W v cv)
  {Q:Unit→Shared→Prop} (h:KS w b0 WB hB le lc env W s (H.set l (.cell (some v))) (Q ())):wpAny (model prog w) A (storeName env x cv) Q E s:=by
 refine cX (t.eo.cells x l (.inl e) el) λa off h1 h2=>?_
 refine oE (CG hc) λu hl=>?_
 refine oEA (t.inv.on hl h2) λob g2 g3=>?_
 have hob:∃v₀,ob.data= .cell v₀:=by
  rcases g3 with ⟨_,e⟩|⟨_,cv,_,_,e⟩<;>exact ⟨_,e⟩
 refine oE hob λv₀ hv0=>?_;clear hob
 refine wpAny_storeName_cell t.eo.kind (t.eo.aC x e) h1 (iEA ob g2 hv0) λh' hc' sb=>?_
 refine oEA hc' λo' ho' hd'=>?_;clear hc'
 have hs:∀b,b≠a→∀o,s.heap.get? b=some o→h'.get? b=some o:=λb hb o e=>(sb.2 b hb).trans e
 exact h W {s with heap:=h'} (StepL.of (Step.set h2 hs ⟨_,ho'⟩) _) (t.go (Step.set h2 hs ⟨_,ho'⟩) (t.inv.set h2 hs ho' (.inr (eW v cv rfl hv hd')))) rfl
end
end
section
section variable {slice value:Expr} {fs:List (Str×V)} {es:List DictEntry} {cvs:List Value} {x:Str} {v:V} {c:Value} {Q:TQ}
variable {prog:Program} {w:World} {p:Program} {loose:TS} {mg mb:TM} {K:Frag} {b0:Heap} {W:Wd} {H:Hp} {A:Around} {E:TQ} {s:Shared} {le:LE} {lc:Lc} {env:Env}
theorem CP{hs:Int}{t:Tok}{q:List DictEntry}:getL x (⟨hs,.str x t,c⟩::q)=some (some c):=by
 unfold getL
 refine List.find?_cons.symm▸?_;exact (show (Value.str x t).isStr x=true from beq_self_eq_true x).symm▸rfl
theorem tJ{y:Str}{hs:Int}{t:Tok}{q:List DictEntry}(h:¬x=y):getL x (⟨hs,.str y t,c⟩::q)=getL x q:=by
 unfold getL
 refine List.find?_cons.symm▸?_;refine (show (Value.str y t).isStr x=false from beq_false_of_ne (Ne.symm h)).symm▸?_;rw [List.any_cons]
 rfl
theorem CN(r:FRels W fs es):fs.lookup x=some v→∃cv,getL x es=some (some cv)∧VRel W v cv:=
 r.ind (P:=λfs es=>fs.lookup x=some v→∃cv,getL x es=some (some cv)∧VRel W v cv) (λh=>ns h) fun {y u hs t c r q} hv _ ih h=>by
  rw [List.lookup_cons] at h
  by_cases e:x=y
  ·rw [e,beq_self_eq_true] at h
   refine e.symm▸?_
   exact (iEA c CP (Option.some.inj h▸hv))
  ·rw [beq_false_of_ne e] at h
   refine (tJ e).symm▸?_
   exact ih h
theorem CO(r:FRels W fs es):fs.lookup x=none→getL x es=some none:=
 r.ind (P:=λfs es=>fs.lookup x=none→getL x es=some none) (λU=>rfl) fun {y u hs t c r q} hv _ ih h=>by
  rw [List.lookup_cons] at h
  by_cases e:x=y
  ·rw [e,beq_self_eq_true] at h;exact sn h
  ·rw [beq_false_of_ne e] at h
   refine QJ (tJ e) ?_
   exact ih h
theorem TU(r:FRels W fs es):es.any (·.refKey)=false:=
 r.ind (P:=λU es=>es.any (·.refKey)=false) rfl λU U ih=>by refine QJ List.any_cons ?_;refine QC ih ?_;rfl
theorem UF(h:VRel W v c)(n:EQ v=true):handedIn c=true:=by
 have h:=h.inv
 cases v with
 |none=>refine QC (show c=_ from h) ?_;rfl
 |bool _=>refine QC (show c=_ from h) ?_;rfl
 |int _=>refine oE h λU z1=>?_;clear h;subst z1;rfl
 |str _=>refine oE h λU z1=>?_;clear h;subst z1;rfl
 |bytes _=>refine oE h λU z1=>?_;clear h;subst z1;rfl
 |tup _=>refine jH h λU U U U z1 U=>?_;clear h;subst z1;rfl
 |obj _ _=>refine jH h λU U U U z1 U=>?_;clear h;subst z1;rfl
 |loc _=>refine cX h λU U z1 U=>?_;clear h;subst z1;rfl
 |rng _=>refine jH h λU U U U z1 U=>?_;clear h;subst z1;rfl
 |fix _=>exact nomatch n
theorem AF{C:Addr}(h:VRel W (.obj C fs) c):∃a d es n,c= .ref a∧W.I a=some (instObj C d)∧W.I d=some (dictOf es n)∧FRels W fs es:=h.inv
theorem D5{p:Addr×List (Str×V)}(e:sR v=some p):v= .obj p.1 p.2:=BM e
theorem AM(i:Inv w b0 W H s.heap){C a d:Addr}{es:List DictEntry}{n:Nat}(h1:W.I a=some (instObj C d))(h2:W.I d=some (dictOf es n)):InstAt s.heap a (instObj C d) C (some (dictOf es n)):=
 ⟨i.im _ _ h1,rfl,rfl,i.im _ _ h2⟩
theorem xK (B:Bas p loose mg mb K b0) (i:Inv w b0 W H s.heap) {o v:V} {co:Value} {name:Str} {q:Addr×List (Str×V)} (e1:sR o=some q) (e2:uQ K name q=some v) (ho:VRel W o co)
  {Q:TQ} (h:KV w b0 W s v H Q):wpAny (model prog w) A (getAttr co name true) Q E s:=by
 rw [D5 e1] at ho
 refine cD (AF ho) λa d es n z1 h1 h2 h3=>?_;subst z1
 refine oA (d3 e2) λhg e2=>?_
 refine oEA (bN e2) λu e3 e4=>?_
 refine oA (d3 e4) λhn e4=>?_
 have z9:=Option.some.inj e4;clear e4;subst z9
 unfold D6 at hg
 rw [Bool.and_eq_true,Bool.and_eq_true] at hg
 refine oA hg λz1 g3=>?_;clear hg;refine oA z1 λg1 g2=>?_;clear z1
 refine oEA (CN h3 e3) λcv k1 k2=>?_
 cases ha:findIn K (.ref q.1) name with
 |none=>rw [ha] at g3;exact nomatch g3
 |some attr=>
  rw [ha] at g3
  refine get_value (B.X.keeps i.kb) (AM i h1 h2) (plainGet_of g1).1 (findObj_own g2 ha g3 ?_) (UF k2 hn) (h.here i k2 _)
  refine QJ (lookIn_dict _ _ _) ?_;exact k1
theorem rJ{o:Expr}{attr:Str}{env:Env}{whole:Sem Value}(h:fX o=true):attributeBase o attr env whole=whole:=by
 cases o with
 |Call f as ks p=>
  cases f with
  |Name _ _=>
   cases as with
   |nil=>cases ks with
    |nil=>exact nomatch h
    |cons _ _=>rfl
   |cons _ _=>rfl
  |_=>rfl
 |_=>rfl
theorem zL {o:Expr} {name:Str} {pos:Pos} (hp:fX o=true)
  (h:wpAny (model prog w) A (eval o env) (λv s1=>wpAny (model prog w) A (getAttr v name true) Q E s1) E s):wpAny (model prog w) A (eval (.Attribute o name pos) env) Q E s:=by
 refine Attribute_any_ h ?_
 refine QJ (arm_eval_Attribute _ _ _ _) ?_;exact (rJ hp).symm▸rfl
theorem pM {o k:Value} {T id:String} {ops:List Value} (hT:s.TypeIs o T) (hl:typeLookup (.type T) "__getitem__"=pure (some (.builtin id)))
  (h:wpAny (model prog w) A (PySem.getItem o k) Q E s) (hs:subscripted slice false o k=operate ops (PySem.getItem o k)):wpAny (model prog w) A (subscriptTail value slice o k) Q E s:=by
 unfold subscriptTail
 refine wpAny_bind ?_
 refine QW (getitemInPython_of_ne hT.not_modules) ?_
 refine wpAny_bind (wpAny_specialOf hT hl ?_)
 have fin:wpAny (model prog w) A (subscripted slice false o k) (λr s3=>wpAny (model prog w) A (letTemporaryGo value o r >>= λU=>pure r) Q E s3) E s:=by
  refine QW hs ?_
  exact wpAny_operating (wpAny_mono h (λr s3 h3=>wpAny_bind (wpAny_letTemporaryGo (wpAny_pure h3))) λU U x=>x)
 first
  |exact wpAny_pure (wpAny_bind fin)
  |exact wpAny_bind (wpAny_pure (wpAny_bind fin))
  |exact wpAny_bind fin
theorem uN(i:Inv w b0 W H s.heap){o k v:V}{co:Value}(e:Mine.getItem H o k=some v)(ho:VRel W o co):∃T id,s.TypeIs co T∧typeLookup (.type T) "__getitem__"=pure (some (.builtin id)):=by
 cases o with
 |loc l=>
  rcases fN (show onO none _ _ _ _ _=_ from e) with ⟨vs,hl,e⟩|⟨es,ep,hl,e⟩
  ·refine cD (dL i (dP hl) ho) λq off cs n z1 e1 e2 e3=>?_;subst z1
   exact (dS _ _ (iEA _ e2 rfl) list_getitem_lookup)
  ·refine cQ (iD i hl ho) λa off ces z1 hρ d=>?_;subst z1
   exact (dS _ _ d.typeIs slot_dict_getitem.lookup)
 |tup _=>
  refine bF (gM ho) λvs q o n h1 h2 h3 h4 z1=>?_;subst z1
  exact (dS _ _ (iEA _ (i.im _ _ h1) h2) PyProof.Rows.slot_tuple_getitem.lookup)
 |str _=>
  refine oE ho.inv λU z1=>?_;subst z1
  exact (dS _ _ (typeIs_str s _ _) PySem.F.slot_str_getitem.lookup)
 |_=>exact ns e
theorem yC{sl:Expr}{o k:Value}(h:∀lo hi q,sl≠ .Slice lo hi none q):subscripted sl false o k=operate [o,k] (PySem.getItem o k):=by
 cases sl with
 |Slice a b st q=>cases st with
  |none=>exact absurd rfl (h _ _ _)
  |some _=>rfl
 |_=>rfl
theorem CC {value slice:Expr} (i:Inv w b0 W H s.heap) (hu:A.units+6<cLine) {o k v:V} {co ck:Value} (hs:∀lo hi q,slice≠ .Slice lo hi none q) (e:Mine.getItem H o k=some v) (ho:VRel W o co) (hk:VRel W k ck)
  {Q:TQ} (h:KV w b0 W s v H Q):wpAny (model prog w) A (subscriptTail value slice co ck) Q E s:=by
 refine cX (uN (s:=s) i e ho) λT id h1 h2=>?_
 exact pM h1 h2 (sA i hu e ho hk h) (yC hs)
theorem TZ{Q:TQ}{vs:TL}{cvs:List Value}(i:Inv w b0 W H s.heap)(k:KV w b0 W s (.tup vs) H Q)(r:VRels W vs cvs)(hz:vs.length≤1000):wpAny (model prog w) A (newTuple cvs) Q E s:=
 wpAny_newTuple (KV.tup (v:= .none) i k r s.toks rfl) (by refine QA r.length.symm ?_;exact Nat.le_trans hz (by decide))
theorem ES{vs:TL}(i:Inv w b0 W H s.heap)(k:KV w b0 W s (.loc H.length) (H++[.list vs]) Q)(r:VRels W vs cvs)(hz:vs.length≤1000):wpAny (model prog w) A (newList cvs) Q E s:=
 wpAny_newList (KV.list i k r s.toks rfl) (by refine QA r.length.symm ?_;exact Nat.le_trans hz (by decide))
end
end
section
section variable {sl:Addr} {value:Expr} {u:Tok} {Q:TQ}
variable {prog:Program} {w:World} {p:Program} {loose:TS} {mg mb:TM} {K:Frag} {b0:Heap} {W:Wd} {H:Hp} {A:Around} {E:TQ} {s:Shared} {le:LE} {lc:Lc} {env:Env}
theorem Inv.push1(i:Inv w b0 W H s.heap)(o:Obj):Inv w b0 W H (s.heap.push o):=i.keeps λa o e U=>Heap.get?_push_of_some _ e
theorem KV.from{Q:TQ}{v:V}{H':Hp}{s':Shared}(k:KV w b0 W s v H' Q)(st:Step W s.heap W s'.heap)(sm:Same s s'):KV w b0 W s' v H' Q:=
 λcv W' s'' x i r m=>k cv W' s'' (st.trans x) i r (sm.trans m)
theorem K8(items:Array Value){y:Int}(h:0≤y):slicePick items none (some y) none=(items.toList.take y.toNat).toArray:=by
 have e:sliceBounds none (some y) none items.size=(((0:Nat):Int),((min y.toNat items.size:Nat):Int),1):=by
  simp only [sliceBounds,Option.getD_none,show (1:Int)>0 by decide,if_true,if_neg (show ¬(y<0) by exact ow28 h)]
  congr 1
  congr 1
  exact ow27
 refine QJ (kmk_pick_nat _ e) ?_
 have:=kmk_take_min items.toList y.toNat
 refine List.drop_zero.symm▸?_;refine (Nat.sub_zero _).symm▸?_
 rw [Array.length_toList] at this
 exact QS this
theorem mN{a b n:Nat}{u':Tok}{Q:Int×Int×Nat→Shared→Prop}(hs:s.heap.IsSliceOf sl (.int a u) (.int b u') .none)(ha:a≤b)(hb:b≤n)(h:Q ((a:Int),1,b - a) s):
  wpAny (model prog w) A (Builtin.Slice.sliceApplied (.ref sl) (pure (n:Int))) Q E s:=by
 refine eV (id hs) λos hos hcs hds=>?_
 unfold Builtin.Slice.sliceApplied Builtin.Slice.sliceFields
 refine wpAny_bind (wpAny_bind (wpAny_field hos hds (x:= .int a u) rfl (wpAny_bind (wpAny_field hos hds (x:= .int b u') rfl (wpAny_bind (wpAny_field hos hds (x:= .none) rfl (wpAny_pure ?_)))))))
 refine wpAny_bind (slicePart_none ?_)
 show wpAny _ _ (if ((1:Int)==0)=true then _ else _) _ _ s
 refine QW (if_neg (by decide)) ?_
 refine wpAny_bind (slicePart_int (wpAny_bind (slicePart_int (wpAny_bind (wpAny_pure ?_)))))
 show wpAny _ _ (match Builtin.Slice.sliceAdjust (some (a:Int)) (some (b:Int)) 1 (n:Int) with|(lo,hi)=>pure (lo,(1:Int),Builtin.Slice.slicePlaces lo hi 1)) _ _ s
 have e1:Builtin.Slice.sliceAdjust (some (a:Int)) (some (b:Int)) 1 (n:Int)=((a:Int),(b:Int)):=by
  unfold Builtin.Slice.sliceAdjust
  have h1:¬((1:Int)<0):=ow26
  have h2:¬((a:Int)<0):=ow25
  have h3:¬((b:Int)<0):=ow25
  simp only [h1,h2,h3,if_false]
  exact slA ha hb
 have e2:Builtin.Slice.slicePlaces (a:Int) (b:Int) 1=b - a:=by
  unfold Builtin.Slice.slicePlaces
  have h1:(1:Int)>0:=ow24
  simp only [h1,if_true,Int.ediv_one]
  exact slB
 refine e1.symm▸?_
 show wpAny _ _ (pure ((a:Int),(1:Int),Builtin.Slice.slicePlaces (a:Int) (b:Int) 1)) _ _ s
 refine e2.symm▸?_
 exact wpAny_pure h
theorem BT(xs:Array Value)(a b:Nat)(hab:a≤b):((List.range (b - a)).filterMap λ(k:Nat)=>xs[((a:Int)+(k:Int)*1).toNat]?).toArray=((xs.toList.take b).drop a).toArray:=by
 have e:(λ(k:Nat)=>xs[((a:Int)+(k:Int)*1).toNat]?)=λk=>xs[a+k]? :=by
  funext k
  have:((a:Int)+(k:Int)*1).toNat=a+k:=ow23
  exact QS this
 refine e.symm▸?_
 have:=pick_run xs a (b - a)
 rw [List.filterMap_map] at this
 have e2:((λx=>xs[x]?)∘λx=>a+x)=λk=>xs[a+k]? :=rfl
 rw [e2] at this
 refine QC this ?_;exact QD List.drop_take rfl
theorem BE {t:Addr} {items:Array Value} {a b:Nat} {u':Tok} (ht:IsTup s.heap t items) (hs:s.heap.IsSliceOf sl (.int a u) (.int b u') .none) (h1:a≤b) (h2:b≤items.size)
  (hw:(items.toList.take b).drop a=items.toList→Q (.ref t) s)
  (h:Q (.ref s.heap.objs.size) {s with heap:=s.heap.push {cls:= .type "tuple",data:= .seq ((items.toList.take b).drop a).toArray}})
  (hsz:items.size≤sizeLine):wpAny (model prog w) A (PySem.getItem (.ref t) (.ref sl)) Q E s:=by
 have hdrop:sizeOk (.seq ((items.toList.take b).drop a).toArray):=by
  show ((items.toList.take b).drop a).toArray.size≤sizeLine
  refine QA List.size_toArray ?_;refine QA List.length_drop ?_;refine List.length_take.symm▸?_;refine Array.length_toList.symm▸?_
  exact ow22 hsz
 refine eV (id hs) λos hos hcs hds=>?_
 have hTs:s.TypeIs (.ref sl) "slice":=(iEA os hos hcs)
 unfold PySem.getItem
 try with_reducible refine wpAny_holding ?_
 first|refine wpAny_bind (wpAny_pure ?_)|skip
 refine wpAny_bind (wpAny_sequenceKey ht.typeIs (by decide) ?_)
 refine wpAny_bind (wpAny_callSpecial?_slot (name:=Str.ofString "__getitem__") ht.typeIs PyProof.Rows.slot_tuple_getitem
  (wpAny_call_entry PyProof.Rows.slot_tuple_getitem ht.typeIs PyProof.Rows.entry_tuple_getitem ?_ (PyProof.Rows.args_tuple_getitem _ _)))
 show wpAny _ _ (Builtin.Tuple.tupleItemsOf (.ref t) >>= _) _ _ s
 refine wpAny_bind (tupleItemsOf_ ht ?_)
 refine wpAny_bind (wpAny_typeOf hTs ?_)
 refine QW (if_pos (by decide)) ?_
 refine wpAny_bind (mN hs h1 h2 ?_)
 by_cases hno:((a:Int)==0&&(1:Int)==1&&(b - a)==items.size)=true
 ·have:a=0∧b=items.size:=by simp at hno;exact ow21 hno
  refine oA this λz1 z2=>?_;clear this;subst z1 z2
  have hw':=hw (by refine QJ List.drop_zero ?_;refine Array.length_toList▸?_;exact List.take_length)
  show wpAny _ _ (if _=true then _ else _) _ _ s
  refine QW (if_pos hno) ?_
  refine wpAny_bind (m:=Builtin.Tuple.tupleIsExact _) (wpAny_bind (wpAny_typeOf ht.typeIs (wpAny_pure ?_)))
  refine QW (if_pos (by decide)) ?_
  refine wpAny_bind (wpAny_rule (wpAny_pure ?_))
  exact (iEA (.ref t) rfl (wpAny_pure hw'))
 ·show wpAny _ _ (if _=true then _ else _) _ _ s
  refine QW (if_neg hno) ?_;refine (BT items a b h1).symm▸?_
  first
   |exact wpAny_bind (m:=Builtin.Tuple.tupleExact _) (wpAny_newObj_type (wpAny_pure (iEA _ rfl (wpAny_pure h))) hdrop)
   |exact wpAny_bind (m:=Builtin.Tuple.tupleExact _) (wpAny_newObj_type (wpAny_bind (wpAny_pure (wpAny_pure ⟨_,rfl,wpAny_pure h⟩))) hdrop)
   |exact wpAny_bind (wpAny_bind (m:=Builtin.Tuple.tupleExact _) (wpAny_newObj_type (wpAny_pure (wpAny_pure ⟨_,rfl,wpAny_pure h⟩)) hdrop))
   |exact wpAny_bind (wpAny_bind (m:=Builtin.Tuple.tupleExact _) (wpAny_newObj_type (wpAny_pure ⟨_,rfl,wpAny_pure h⟩) hdrop))
theorem HB {x:Str} {t:Tok} {b:Int} (hs:s.heap.IsSlice sl none (some (b,u)) none) (h0:0≤b) (h1:b≤x.length) (hz:x.length≤1000)
  (h:∀t' tk,Q (.str ⟨x.cps.extract 0 b.toNat⟩ t') {s with toks:=tk}):wpAny (model prog w) A (PySem.getItem (.str x t) (.ref sl)) Q E s:=by
 have e:=StrLaws.sliceText_to (x:=x) (j:=b) ⟨h0,by assumption⟩
 have e':(⟨((x.cps.toList.drop 0).take (b - 0).toNat).toArray⟩:Str)=⟨x.cps.extract 0 b.toNat⟩:=by
  congr 1
  apply Array.toList_inj.mp
  simp
 rw [e'] at e
 refine wpAny_getItem_str_slice hs rfl ?_
 unfold sliceMade
 unfold StrLaws.sliceText at e
 split
 ·rename_i q
  have q':((1:Int)==1&&(Builtin.Str.strSliceIndices none (some b) 1 x.length).length==x.length)=true:=q
  rw [if_pos q'] at e
  have:=h t s.toks
  rw [←e] at this
  exact this
 ·rename_i q
  have q':¬((1:Int)==1&&(Builtin.Str.strSliceIndices none (some b) 1 x.length).length==x.length)=true:=q
  rw [if_neg q'] at e
  refine ⟨?_,?_⟩
  ·refine (show (slicePicked x none (some (b,u)) none)=Builtin.Str.strSliceIndices none (some b) 1 x.length from rfl).symm▸?_
   rw [e]
   have:(⟨x.cps.extract 0 b.toNat⟩:Str).length≤x.length:=by simp [Str.length];exact ow20
   exact Nat.le_trans this (Nat.le_trans hz (by decide))
  ·have:=h s.toks (s.toks+1)
   rw [←e] at this
   exact this
theorem HA{j:Str}{c:Value}(h:VRel W (.str j) c):∃t,c= .str j t:=by refine oE h.inv λU z1=>?_;subst z1;exact ⟨_,rfl⟩
theorem GE {lo hi:Option Expr} {pz:Pos} {o l u:V} {r:V×Hp} {co cl cu:Value} (i:Inv w b0 W H s.heap) (e:cut H o l u=some r) (ho:VRel W o co) (hl:VRel W l cl) (hu:VRel W u cu)
  {Q:TQ} (k:KV w b0 W s r.1 r.2 Q) (hsl:s.heap.IsSliceOf sl cl cu .none):wpAny (model prog w) A (subscriptTail value (.Slice lo hi none pz) co (.ref sl)) Q E s:=by
 refine oEA (bN e) λb qb e=>?_
 refine oE ((cG qb▸hu).inv) λt z1=>?_;subst z1
 cases o with
 |loc m=>
  refine oEA (bN (show (sP H m).bind _=_ from e)) λvs hvs e=>?_
  refine oA (d3 e) λhz e=>?_
  have z9:=Option.some.inj e;clear e;subst z9
  refine cD (OM i hvs ho) λq off cs n z1 e1 e2 e3=>?_;subst z1
  have z9:=(lT hz.1▸hl).inv;subst z9
  refine pM (iEA _ e2 rfl) list_getitem_lookup (wpAny_getItem_list_slice (b7 e2) hsl .none (.int _ _) .none (by simp) ?_ ?_) rfl
  ·refine (K8 _ hz.2.1).symm▸?_
   exact KV.list i k (e3.take _) _ rfl
  ·refine QA List.size_toArray ?_;refine QA e3.length.symm ?_;exact Nat.le_trans hz.2.2 (by decide)
 |tup vs=>
  refine oEA (bN (show (dY l).bind _=_ from e)) λa qa e=>?_
  refine oA (d3 e) λhz e=>?_
  have z9:=Option.some.inj e;clear e;subst z9
  refine bF (gM ho) λcs q ob n h1 h2 h3 h4 z1=>?_;subst z1
  refine oE ((cG qa▸hl).inv) λt' z1=>?_;subst z1
  have ht:IsTup s.heap q cs.toArray:=fK i h1 h2 h3
  refine oE (Int.eq_ofNat_of_zero_le hz.1) λa' z1=>?_;subst z1
  refine oE (Int.eq_ofNat_of_zero_le (Int.le_trans hz.1 hz.2.1)) λb' z1=>?_;subst z1
  have hlen:=h4.length
  have e4:=(h4.take b').drop a'
  refine pM ht.typeIs PyProof.Rows.slot_tuple_getitem.lookup (BE (a:=a') (b:=b') ht hsl (ow19 hz) (by refine QB List.size_toArray ?_;exact ow18 hz hlen) (λhw=>?_) (KV.tup (v:= .none) i k e4 _ rfl) (by refine QA List.size_toArray ?_;refine QA hlen.symm ?_;exact Nat.le_trans hz.2.2.2 (by decide))) rfl
  exact k.here i (.tup h1 h2 h3 (by rw [show (cs.take b').drop a'=cs from hw] at e4;exact e4)) s.toks
 |str x=>
  refine oA (d3 e) λhz e=>?_
  have z9:=Option.some.inj e;clear e;subst z9
  refine oE ho.inv λt z1=>?_;subst z1
  have z9:=(lT hz.1▸hl).inv;subst z9
  exact pM (typeIs_str _ x t) PySem.F.slot_str_getitem.lookup (HB (by obtain ⟨o,x1,x2,x3⟩:=hsl;exact (cM o x1 x2 x3)) hz.2.1 hz.2.2.1 hz.2.2.2 λt' tk=>k.here i (.str _ _) tk) rfl
 |_=>exact ns e
theorem CY {lo hi:Option Expr} {pz:Pos} {o l u:V} {r:V×Hp} {co cl cu:Value} (i:Inv w b0 W H s.heap) (e:cut H o l u=some r) (ho:VRel W o co) (hl:VRel W l cl) (hu:VRel W u cu)
  {Q:TQ} (h:KV w b0 W s r.1 r.2 Q):wpAny (model prog w) A (subscriptTail value (.Slice lo hi none pz) co (.ref s.heap.objs.size)) Q E {s with heap:=s.heap.push {cls:= .type "slice",data:= .fields #[cl,cu,.none]}}:=
 GE (i.push1 _) e ho hl hu (h.from (s':={s with heap:=s.heap.push {cls:= .type "slice",data:= .fields #[cl,cu,.none]}}) (Step.of_keeps λ a o e=>Heap.get?_push_of_some _ e) rfl) (Heap.IsSliceOf.new s.heap cl cu .none)
end
end
section variable {β:Type}
noncomputable def o8:List (Str×Value)→List (Str×Value)→List (Str×Value)
 |[],s=>s
 |x::r,s=>o8 r (if (s.lookup x.1).isNone then s++[(x.1,x.2)] else s)
theorem lW:∀(l s:List (Str×Value)),(forIn l s (λx __s=>if (List.lookup x.fst __s).isNone=true then pure (ForInStep.yield (__s++[(x.fst,x.snd)])) else pure (ForInStep.yield __s)):Sem (List (Str×Value)))=pure (o8 l s)
 |[],s=>rfl
 |x::r,s=>by
  refine QJ (List.forIn_cons _ _ _ _) ?_
  unfold o8
  split
  ·refine QJ (pure_bind _ _) ?_;exact lW r _
  ·refine QJ (pure_bind _ _) ?_;exact lW r _
theorem jJ{x:Str}:∀(s t:List (Str×β)),(s++t).lookup x=(s.lookup x).or (t.lookup x)
 |[],t=>by simp
 |(a,b)::r,t=>by
  refine QC List.cons_append ?_;refine QJ List.lookup_cons ?_;rw [List.lookup_cons]
  cases x==a with
  |true=>simp
  |false=>exact jJ r t
theorem m7{x:Str}:∀(l s:List (Str×Value)),(o8 l s).lookup x=(s.lookup x).or (l.lookup x)
 |[],s=>by simp [o8]
 |(a,b)::r,s=>by
  unfold o8
  refine QJ ((m7 r) _) ?_;refine QD List.lookup_cons ?_
  by_cases h:(s.lookup a).isNone=true
  ·refine (if_pos h).symm▸?_;refine (jJ _ _).symm▸?_;rw [List.lookup_cons]
   cases e:x==a with
   |true=>
    refine (beq_iff_eq.mp e).symm▸?_
    cases q:s.lookup a with
    |none=>exact rfl
    |some z=>rw [q] at h;cases h
   |false=>simp
  ·refine (if_neg h).symm▸?_
   cases e:x==a with
   |true=>
    refine (beq_iff_eq.mp e).symm▸?_
    cases q:s.lookup a with
    |none=>rw [q] at h;exact absurd rfl h
    |some z=>exact rfl
   |false=>simp
theorem lH(f:Str→Option β):∀(ns:TS) (vs:List β),ns.length=vs.length→(∀(i:Nat) (x:Str) (v:β),ns[i]?=some x→vs[i]?=some v→f x=some v)→ns.filterMap (λn=>(f n).map (n,·))=ns.zip vs
 |[],[],_,_=>rfl
 |n::r,v::q,hl,h=>by
  refine QJ List.filterMap_cons ?_;refine (h 0 n v rfl rfl).symm▸?_;refine QR List.zip_cons_cons ?_
  simp only [Option.map_some]
  exact QS (lH f r q (by simpa using hl) λi x u e1 e2=>h (i+1) x u (by assumption) (by assumption))
theorem jI:∀{ns:TS} {vs:List β},ns.Nodup→∀{i:Nat} {x:Str},ns[i]?=some x→(ns.zip vs).lookup x=vs[i]?
 |[],_,_,i,x,h=>by simp at h
 |n::r,[],_,i,x,h=>by exact rfl
 |n::r,v::q,hn,0,x,h=>by
  simp at h;subst h
  refine QC List.zip_cons_cons ?_;refine QJ List.lookup_cons ?_;simp
 |n::r,v::q,hn,i+1,x,h=>by
  rw [List.nodup_cons] at hn
  have hx:r[i]?=some x:=by simpa using h
  have h1:(x==n)=false:=by
   refine beq_eq_false_iff_ne.2 ?_
   intro e
   exact hn.1 (e▸List.mem_of_getElem? hx)
  refine QC List.zip_cons_cons ?_;refine QJ List.lookup_cons ?_;refine h1.symm▸?_
  simpa using jI (vs:=q) hn.2 hx
theorem nK{α:Type}{M:Model}{A:Around}{E:TQ}{s:Shared}{Q:α→Shared→Prop}{c:Prop}[Decidable c]{a b:Sem α}(h:¬c)(k:wpAny M A b Q E s):wpAny M A (if c then a else b) Q E s:=by refine QW (if_neg h) ?_;exact k
theorem isE{l:TS}(h:l=[]):¬((!l.isEmpty)=true):=by rw [h];exact nofun
section
variable {ns:TS} {pos D:List Value} (hn:ns.Nodup) (hl:pos.length≤ns.length) (hDl:D.length≤ns.length) (hle:ns.length≤pos.length+D.length)
include hn hle
theorem C5:List.filter (λn=>(List.lookup n (ns.zip pos)).isNone) (List.take (ns.length - D.length) ns)=[]:=by
 refine List.filter_eq_nil_iff.2 ?_
 intro x hx
 refine oE (List.getElem?_of_mem hx) λi hi=>?_
 have hlt:=(List.getElem?_eq_some_iff.mp hi).1
 rw [List.length_take] at hlt
 rw [List.getElem?_take_of_lt (ow34 hlt)] at hi
 refine (jI hn hi).symm▸?_;refine (List.getElem?_eq_getElem (ow33 hlt hle)).symm▸?_
 exact Bool.false_ne_true
include hl hDl
theorem C6:List.filterMap (λn=>(List.lookup n (o8 ((List.drop (ns.length - D.length) ns).zip D) (ns.zip pos))).map λx=>(n,x)) ns=ns.zip (pos++D.drop (pos.length+D.length - ns.length)):=by
 refine lH (λn=>List.lookup n (o8 ((List.drop (ns.length - D.length) ns).zip D) (ns.zip pos))) ns (pos++D.drop (pos.length+D.length - ns.length)) (by refine QR List.length_append ?_;refine QD List.length_drop ?_;exact ow32 hle hl) ?_
 intro i x v e1 e2
 refine QJ (m7 _ _) ?_;refine (jI hn e1).symm▸?_
 by_cases hi:i<pos.length
 ·rw [List.getElem?_append_left hi] at e2
  rw [e2];rfl
 ·rw [List.getElem?_append_right (TF hi),List.getElem?_drop] at e2
  have hlt:=(List.getElem?_eq_some_iff.mp e1).1
  have e3:(List.drop (ns.length - D.length) ns)[i - (ns.length - D.length)]?=some x:=by
   refine QJ List.getElem?_drop ?_
   refine QC (show ns.length - D.length+(i - (ns.length - D.length))=i by exact ow31 hle hi) ?_
   exact e1
  refine QC (jI (hn.sublist (List.drop_sublist _ _)) e3) ?_;refine (List.getElem?_eq_none (TF hi)).symm▸?_
  rw [show i - (ns.length - D.length)=pos.length+D.length - ns.length+(i - pos.length) by exact ow29 rfl hle hDl hi]
  refine QC e2 ?_;rfl
end
theorem tP {M:Model} {A:Around} {E:TQ} {s:Shared} {fd:FuncData} {pos D:List Value} {r:Option (Array Value)} {Q:List (Str×Value)→Shared→Prop}
  (h1:fd.params.posonlyargs=[]) (h2:fd.params.kwonlyargs=[]) (h3:fd.params.vararg=none) (h4:fd.params.kwarg=none) (hn:(fd.params.args.map (·.arg)).Nodup) (hl:pos.length≤fd.params.args.length)
  (hd:∀Q':Option (Array Value)→Shared→Prop,Q' r s→wpAny M A (seqItems? fd.defaults) Q' E s) (hD:D=(r.getD #[]).toList.drop ((r.getD #[]).toList.length - fd.params.args.length)) (hle:fd.params.args.length≤pos.length+D.length)
  (h:Q ((fd.params.args.map (·.arg)).zip (pos++D.drop (pos.length+D.length - fd.params.args.length))) s):wpAny M A (bindArgs fd ⟨pos,[]⟩) Q E s:=by
 obtain ⟨nm,qn,⟨po,ags,va,ko,kd,kwa,dfl⟩,body,scope,gl,cl,dv,kdv,doc,pm,an,cd,ct,bi⟩:=fd
 dsimp only at h1 h2 h3 h4 hl hd hn hD hle h
 subst h1 h2 h3 h4
 have hln:(ags.map (·.arg)).length=ags.length:=List.length_map _
 rw [←hln] at hl hD hle h
 have hDl:D.length≤(ags.map (·.arg)).length:=by refine hD.symm▸?_;refine QA List.length_drop ?_;exact ow35
 have m:=C5 hn hle
 have f:=C6 hn hl hDl hle
 clear hDl
 subst hD
 unfold bindArgs
 refine wpAny_bind (wpAny_pure (wpAny_bind (hd _ (nK ?c1 (nK ?c2 ?_)))))
 case c1=>exact λq=>Nat.not_lt_of_le hl (of_decide_eq_true ((Bool.and_eq_true _ _).mp q).1)
 case c2=>exact isE m
 refine (lW _ _).symm▸?_
 refine wpAny_bind (wpAny_pure (wpAny_bind (wpAny_pure (nK (λq=>nomatch q) (wpAny_pure ?_)))))
 show Q (List.filterMap _ (ags.map (·.arg)++[])) s
 rw [List.append_nil]
 exact f.symm▸h
end
section
section
variable {prog:Program} {w:World} {p:Program} {loose:TS} {mg mb:TM} {K:Frag} {b0:Heap} {W:Wd} {H:Hp} {A:Around} {E:TQ} {s:Shared} {le:LE} {lc:Lc} {env:Env}
theorem gH{x:Str}:∀{names:List (Str×NameKind)} {n:Nat} {acc:List (Str×Addr)},x∉names.map (·.1)→(cellsFrom n names acc).lookup x=acc.lookup x
 |[],_,_,_=>rfl
 |(y,kd)::r,n,acc,h=>by
  have h1:x∉r.map (·.1):=λm=>h (List.mem_cons_of_mem _ m)
  have h2:(x==y)=false:=by
   refine beq_eq_false_iff_ne.2 ?_
   intro e
   exact h (e▸List.mem_cons_self ..)
  unfold cellsFrom
  split
  ·refine QJ (gH h1) ?_;refine QJ List.lookup_cons ?_;exact h2.symm▸rfl
  ·exact gH h1
theorem B3(names:List (Str×NameKind)):∀(acc:List (Str×Addr)) (W:Wd) (H:Hp) (h:Heap),(names.map (·.1)).Nodup→Inv w b0 W H h→
  ∃W',Inv w b0 W' (H++(cellsFor.go H.length names).map λU=> .cell none) (pushCells h names)∧Step W h W' (pushCells h names)∧
   ∀(x:Str) (l:Nat),(cellsFor.go H.length names).lookup x=some l→∃(a:Addr) (off:Nat),(cellsFrom h.objs.size names acc).lookup x=some a∧W'.ρ[l]?=some (a,off)
  :=by
 induction names with
 |nil=>exact λacc W H h U i=>(cM W ((List.append_nil H).symm▸i) (Step.refl _ _) (λx l e=>ns e))
 |cons q r ih=>
  intro acc W H h hn i
  obtain ⟨y,kd⟩:=q
  rw [List.map_cons,List.nodup_cons] at hn
  unfold cellsFor.go cellsFrom pushCells
  by_cases hk:(kd== .cell)=true
  ·simp only [if_pos hk]
   have hnone:h.get? h.objs.size=none:=by
    cases q:h.get? h.objs.size with
    |none=>rfl
    |some o=>exact absurd (Heap.lt_size q) (Nat.lt_irrefl _)
   have hf:=Inv.fresh i
   have i1:Inv w b0 W H (h.push {cls:= .type "cell",data:= .cell none}):=i.keeps λ a o e U=>Heap.get?_push_of_some _ e
   have i2:=i1.push (o:= .cell none) (off:=0) (Heap.get?_push_size h (o:={cls:= .type "cell",data:= .cell none}) rfl) hf.2 hf.1 i.one (.inl ⟨rfl,rfl⟩)
   have s1:Step W h (W.push h.objs.size 0) (h.push {cls:= .type "cell",data:= .cell none}):=(Step.of_keeps λ a o e=>Heap.get?_push_of_some _ e).push hnone
   refine eV (ih ((y,h.objs.size)::acc) _ _ _ hn.2 i2) λW' j1 j2 j3=>?_
   rw [List.length_append,List.length_singleton] at j1 j3
   replace j3:=(Heap.size_push _ _)▸j3
   refine (cM W' (by simpa using j1) (s1.trans j2) (λx l e=>?_))
   rw [List.lookup_cons] at e
   by_cases hx:x=y
   ·subst hx
    simp at e
    subst e
    refine (dS h.objs.size 0 ?_ (j2.toSub.at ?_))
    ·refine QJ (gH hn.1) ?_;simp
    ·refine QC i.len.symm ?_;exact Wd.push_at W _ _
   ·have:(x==y)=false:=by simpa using hx
    rw [this] at e
    exact j3 x l e
  ·simp only [if_neg hk]
   exact ih acc W H h hn.2 i
theorem GK{WB:Wd}{hB:Heap}{H':Hp}{lc':Lc}{Q:PUnit→Shared→Prop}(f:Str×Value→PUnit→Sem (ForInStep PUnit))(hf:∀n v u,f (n,v) u=(do storeName env n v;pure (.yield ⟨⟩))):
  ∀(bs:Lc) (cvs:List Value) (W:Wd) (H:Hp) (lc:Lc) (s:Shared),St w b0 WB hB le lc env W H s.heap→VRels W (bs.map (·.2)) cvs→eZ le bs lc H=some (lc',H')→
   (∀W' s',St w b0 WB hB le lc' env W' H' s'.heap→Same s s'→Q ⟨⟩ s')→wpAny (model prog w) A (forIn ((bs.map (·.1)).zip cvs) ⟨⟩ f) Q E s
  :=by
 intro bs
 induction bs with
 |nil=>
  intro cvs W H lc s t r e h
  refine oA (Prod.mk.inj (Option.some.inj e)) λz1 z2=>?_;subst z1 z2
  show wpAny _ _ (forIn [] _ _) _ _ _
  refine QW List.forIn_nil ?_
  exact wpAny_pure (h W s t rfl)
 |cons q r ih=>
  intro cvs W H lc s t hr e h
  obtain ⟨x,v⟩:=q
  obtain ⟨cv,cvs,rfl,hv,hr⟩:=hr.consI
  refine List.map_cons.symm▸?_;refine List.zip_cons_cons.symm▸?_;refine QW (List.forIn_cons _ _ _ _) ?_;refine (hf _ _ _).symm▸?_
  unfold eZ at e
  cases hk:le.scope.names.lookup x with
  |none=>rw [hk] at e;exact ns e
  |some kd=>
   rw [hk] at e
   cases kd with
   |«local»=>
    refine wpAny_bind (wpAny_bind (oP t hk hv λW' s' sb t' sm=>wpAny_pure ?_))
    exact ih _ W' H _ s' t' (hr.up sb.toSub) e λW'' s'' t'' sm'=>h W'' s'' t'' (sm.trans sm')
   |cell=>
    refine oEA (bN (show (le.cells.lookup x).bind _=_ from e)) λl e1 e2=>?_
    obtain ⟨hc,e2⟩:=d3 e2
    refine wpAny_bind (wpAny_bind (pZ t hk e1 hc hv λW' s' sb t' sm=>wpAny_pure ?_))
    exact ih _ W' _ _ s' t' (hr.up sb.toSub) e2 λW'' s'' t'' sm'=>h W'' s'' t'' (sm.trans sm')
   |_=>exact ns e
theorem uF {scope:Scope} {hd:Bool} {qual:Str} {func:Option Addr} {code:Value} {bs:Lc} {cvs:List Value} {H':Hp} {lc:Lc} {Q:Env→Shared→Prop} (i:Inv w b0 W H s.heap) (hk:scope.kind= .function) (hn:(scope.names.map (·.1)).Nodup)
  (hr:VRels W (bs.map (·.2)) cvs) (e:eZ ⟨scope,cellsFor scope H.length,hd⟩ bs [] (H++(cellsFor scope H.length).map λU=> .cell none)=some (lc,H'))
  (h:∀env W' s',env.frame=some env.locals→env.scope=scope→St w b0 W s.heap ⟨scope,cellsFor scope H.length,hd⟩ lc env W' H' s'.heap→Same s s'→Q env s'):
  wpAny (model prog w) A (newFunctionEnv scope mainGlobals [] ((bs.map (·.1)).zip cvs) qual func code none builtinsNs) Q E s:=by
 simp only [newFunctionEnv,Option.isSome_none,Bool.false_eq_true,if_false]
 refine wpAny_bind (wpAny_alloc ?_)
 have hnone:s.heap.get? s.heap.objs.size=none:=by
  cases q:s.heap.get? s.heap.objs.size with
  |none=>rfl
  |some o=>exact absurd (Heap.lt_size q) (Nat.lt_irrefl _)
 have hf:=i.fresh
 have i1:Inv w b0 W H (s.heap.push {cls:= .type "frame",data:= .dict #[]}):=i.push1 _
 have s1:Step W s.heap W (s.heap.push {cls:= .type "frame",data:= .dict #[]}):=Step.of_keeps λ a o e=>Heap.get?_push_of_some _ e
 have hns:(s.heap.push {cls:= .type "frame",data:= .dict #[]}).Ns s.heap.objs.size λ U=>none:=Heap.Ns.new s.heap (.type "frame")
 refine wpAny_bind (wpAny_layCells _ (λname kind cells=>by cases hkc:kind==NameKind.cell<;>exact rfl) _ _ _ _ ?_)
 refine eV (B3 scope.names [] W H _ hn i1) λW' j1 j2 j3=>?_
 refine cQ hns λoL es ep g1 g2 g3=>?_;clear hns
 have kL:=j2.keep _ _ g1 hf.1
 generalize hce:cellsFrom (s.heap.push {cls:= .type "frame",data:= .dict #[]}).objs.size scope.names []=ce at *
 refine wpAny_bind (GK (le:=⟨scope,cellsFor scope H.length,hd⟩) (WB:=W) (hB:=s.heap) (H':=H') (lc':=lc) (env:={scope,locals:=s.heap.objs.size,globals:=mainGlobals,cells:=ce,qual,func,code,frame:=some s.heap.objs.size,builtins:=builtinsNs}) _ (λ U U U=>rfl) bs cvs W' _ [] {s with heap:=pushCells (s.heap.push {cls:= .type "frame",data:= .dict #[]}) scope.names}
  ⟨s1.trans j2,j1,⟨hk,rfl,rfl,λx hx=>oM hx,λx hx=>mG hx,λx hx=>gL hx,λx hx=>hx,λx hx=>hx,?_,λx l U hx=>j3 x l hx,⟨kL.2.1.trans hf.2,kL.1⟩,?_,?_⟩,hnone⟩ (hr.up j2.toSub) e λW'' s'' t sm=>?_)
 ·refine oE kL.2.2 λsl hs=>?_
  exact (iEA _ (cE _ es ep hs g2 g3) (λx v hx=>by cases hx))
 ·intro _ o' ho'
  refine oE kL.2.2 λsl hs=>?_
  have ho':(pushCells (s.heap.push {cls:= .type "frame",data:= .dict #[]}) scope.names).get? s.heap.objs.size=some o':=ho'
  rw [hs] at ho';have z9:=Option.some.inj ho';clear ho';subst z9
  have hc:oL.cls= .type "frame":=by
   have:(s.heap.push {cls:= .type "frame",data:= .dict #[]}).get? s.heap.objs.size=some {cls:= .type "frame",data:= .dict #[]}:=Heap.get?_push_size _ rfl
   replace g1:=ZL this g1;have z9:=Option.some.inj g1;clear g1;subst z9;rfl
  exact hc
 ·intro L hL
  have z9:=Option.some.inj hL;clear hL;subst z9
  refine oE kL.2.2 λsl hs=>?_
  exact ⟨_,hs⟩
 ·exact wpAny_pure (h _ W'' s'' rfl rfl t (Same.trans (Same.mk s _ s.toks) sm))
end
end
section variable {h h':Heap} {fs:List Addr}
structure Turn (fs ex:List Addr) (h h':Heap):Prop where
 keep:∀a o,h.get? a=some o→a∉fs→a∉ex→h'.get? a=some o
 slot:∀a o,h.get? a=some o→a∉ex→∃sl,h'.get? a=some {o with slots:=sl}
 dom:∀a o,h.get? a=some o→∃o',h'.get? a=some o'
theorem Turn.refl(fs ex:List Addr)(h:Heap):Turn fs ex h h:=⟨λU U e U U=>e,λU o e U=>⟨o.slots,e⟩,λU o e=>⟨o,e⟩⟩
theorem Turn.trans{ex:List Addr}{h'':Heap}(x:Turn fs ex h h')(y:Turn fs ex h' h''):Turn fs ex h h'':=
 ⟨λa o e n m=>y.keep a o (x.keep a o e n m) n m,λa o e m=>by
  refine oE (x.slot a o e m) λs1 e1=>?_
  refine oE (y.slot a _ e1 m) λs2 e2=>?_
  exact ⟨s2,e2⟩,λa o e=>let ⟨o',e'⟩:=x.dom a o e;y.dom a o' e'⟩
theorem Turn.mono{ex ex':List Addr}(x:Turn fs ex h h')(k:∀a∈ex,a∈ex'):Turn fs ex' h h':=
 ⟨λa o e n m=>x.keep a o e n λq=>m (k a q),λa o e m=>x.slot a o e λq=>m (k a q),x.dom⟩
theorem Turn.of_slots(x:Heap.SlotsOnly fs h h'):Turn fs [] h h':=
 ⟨λa o e n U=>(x.2.1 a n).trans e,λa o e U=>x.2.2 a o e,λa o e=>let ⟨sl,q⟩:=x.2.2 a o e;⟨_,q⟩⟩
theorem Turn.push(o:Obj):Turn fs [] h (h.push o):=
 ⟨λa o e U U=>Heap.get?_push_of_some _ e,λa o e U=>⟨o.slots,Heap.get?_push_of_some _ e⟩,λa o e=>⟨o,Heap.get?_push_of_some _ e⟩⟩
theorem Turn.update{a:Addr}{o:Obj}(ho:h.get? a=some o)(f:Obj→Obj)(hf:(f o).isFreed=false):Turn fs [a] h (h.update a f):=
 ⟨λb o e U m=>(Heap.get?_update_other _ _ (λq=>m (by simp [q]))).trans e,λb o e m=>⟨o.slots,(Heap.get?_update_other _ _ (λq=>m (by simp [q]))).trans e⟩,λb o' e=>by
  by_cases q:a=b
  ·subst q;exact ⟨_,Heap.get?_update_self f ho hf⟩
  ·exact ⟨o',(Heap.get?_update_other _ _ q).trans e⟩⟩
structure Fly (h0:Heap) (W:Wd) (h:Heap) (c ea T:Addr) (a0 fl:Value):Prop where
 newE:h0.get? ea=none
 newT:h0.get? T=none
 nE:W.I ea=none∧ea∉W.ads
 nT:W.I T=none∧T∉W.ads
 ne:T≠ea
 exc:∃oe vs,h.get? ea=some oe∧oe.cls= .ref c∧oe.data= .fields vs∧vs[0]?=some a0∧vs[1]?=some (.ref T)
 tb:∃oT ts,h.get? T=some oT∧oT.data= .fields ts∧ts[3]?=some fl
section
variable {w:World} {b0:Heap} {W:Wd} {H:Hp} {h h':Heap} {fs ex:List Addr} {le:LE} {lc:Lc} {env:Env} {WB:Wd} {hB:Heap}
theorem Inv.turn(i:Inv w b0 W H h)(t:Turn fs ex h h')(hf:∀a∈fs,W.I a=none∧a∉W.ads)(he:∀a∈ex,W.I a=none∧a∉W.ads):Inv w b0 W H h':=
 i.keeps λa o e q=>t.keep a o e (λm=>by
  rcases q with q|q
  ·rw [(hf a m).1] at q;exact ns q
  ·exact (hf a m).2 q) λm=>by
  rcases q with q|q
  ·rw [(he a m).1] at q;exact ns q
  ·exact (he a m).2 q
theorem Step.turn(x:Step WB hB W h)(t:Turn fs ex h h')(hf:∀a∈fs,∀o,h.get? a=some o→o.cls= .type "frame"∧∀vs,o.data≠ .fields vs)(he:∀a∈ex,hB.get? a=none):Step WB hB W h':={x.toSub with
 keep:=λa o e n=>by
  refine j5 (x.keep a o e n) λn' i' sl e'=>?_
  refine oE (t.slot a _ e' (λm=>by rw [he a m] at e;exact ns e)) λsl' e''=>?_
  exact (iAA n' i' ⟨sl',e''⟩)
 keepF:=λa o vs e d n=>by
  have e':=x.keepF a o vs e d n
  exact t.keep a o e' (λm=>(hf a m o e').2 vs d) (λm=>by rw [he a m] at e;exact ns e)
 keepX:=λa o e d n=>by
  have e':=x.keepX a o e d n
  exact t.keep a o e' (λm=>d (hf a m o e').1) (λm=>by rw [he a m] at e;exact ns e)
 dom:=λa o e=>by
  refine oE (x.dom a o e) λo' e'=>?_
  exact t.dom a o' e'}
theorem EnvOk.turn(f:EnvOk W le lc env h)(t:Turn fs ex h h')(he:∀a∈ex,∀o,h.get? a=some o→∃vs,o.data= .fields vs):EnvOk W le lc env h':=by
 obtain ⟨k1,k2,k3,k4,k5,k6,k7,k8,⟨m,⟨o,es,ep,ho,hd,r⟩,hm⟩,k9,k10,k11,k12⟩:=f
 obtain ⟨sl,e'⟩:=t.slot _ o ho λq=>by
  refine oE (he _ q o ho) λvs z=>?_
  rw [hd] at z;cases z
 exact ⟨k1,k2,k3,k4,k5,k6,k7,k8,(iEA m (cE _ es ep e' hd r) hm),k9,k10,λhf o' ho'=>by rw [e'] at ho';have z9:=Option.some.inj ho';clear ho';subst z9;exact k11 hf o ho,λL hf=>let ⟨o,e⟩:=k12 L hf;t.dom L o e⟩
theorem St.turn (s:St w b0 WB hB le lc env W H h) (t:Turn fs ex h h') (hf:∀a∈fs,(W.I a=none∧a∉W.ads)∧∀o,h.get? a=some o→o.cls= .type "frame"∧∀vs,o.data≠ .fields vs)
  (he:∀a∈ex,hB.get? a=none∧(W.I a=none∧a∉W.ads)∧∀o,h.get? a=some o→∃vs,o.data= .fields vs):St w b0 WB hB le lc env W H h':=
 ⟨s.step.turn t (λa m=>(hf a m).2) (λa m=>(he a m).1),s.inv.turn t (λa m=>(hf a m).1) (λa m=>(he a m).2.1),s.eo.turn t (λa m=>(he a m).2.2),s.new⟩
theorem Frs.turn{fr:List Env}(f:Frs b0 W fr h)(t:Turn fs ex h h')(he:∀a∈ex,∀o,h.get? a=some o→∃vs,o.data= .fields vs):Frs b0 W fr h':=by
 have k:∀L∈fr.filterMap (·.frame),∀o,h.get? L=some o→(∀vs,o.data≠ .fields vs)→∃sl,h'.get? L=some {o with slots:=sl}:=λL U o ho hd=>t.slot L o ho λq=>by
  refine oE (he L q o ho) λvs z=>?_
  exact hd vs z
 refine ⟨?_,f.own,λL m o' ho'=>?_⟩
 ·have go:∀l:List Env,(∀L∈l.filterMap (·.frame),L∈fr.filterMap (·.frame))→h.FunFrames b0 l→h'.FunFrames b0 l:=by
   intro l
   induction l with
   |nil=>intros;trivial
   |cons e r ih=>
    intro hm;refine qAA λhk z1 hr=>?_;refine t9 z1 λL o hf hn ho hd=>?_;clear z1
    refine oE (k L (hm L (by refine QN List.filterMap_cons ?_;refine hf.symm▸?_;exact List.mem_cons_self ..)) o ho hd) λsl q=>?_
    exact (iAA hk (uL L _ hf hn q hd) (ih (λL' hL'=>hm L' (by refine QN List.filterMap_cons ?_;refine hf.symm▸?_;exact List.mem_cons_of_mem _ hL')) hr))
  exact go fr (λU m=>m) f.ff
 ·refine yQ (f.ff.mem m) λU o ho hd=>?_
  refine oE (k L m o ho hd) λsl q=>?_
  rw [q] at ho';have z9:=Option.some.inj ho';clear ho';subst z9
  exact f.fcls L m o ho
theorem Frs.at{fr:List Env}(f:Frs b0 W fr h):∀a∈fr.filterMap (·.frame),(W.I a=none∧a∉W.ads)∧∀o,h.get? a=some o→o.cls= .type "frame"∧∀vs,o.data≠ .fields vs:=λ a m=>
 ⟨f.own a m,λo ho=>⟨f.fcls a m o ho,by
  refine yQ (f.ff.mem m) λU o' ho' hd=>?_
  rw [ho] at ho';have z9:=Option.some.inj ho';clear ho';subst z9;exact hd⟩⟩
end
section
variable {M:Model} {A:Around} {E:TQ} {s:Shared} {b0:Heap} {W:Wd} {h0:Heap} {env:Env} {outer:List Env} {L c ea T:Addr} {a0 fl:Value}
theorem iU(h:Heap):h.get? h.objs.size=none:=by
 cases q:h.get? h.objs.size with
 |none=>rfl
 |some o=>exact absurd (Heap.lt_size q) (Nat.lt_irrefl _)
theorem tL {head:Value} {hadNext:Bool} {oe:Obj} {vs:Array Value} {Q:Unit→Shared→Prop} (hfr:A.frames=some (env::outer)) (f:Frs b0 W (env::outer) s.heap) (hf:env.frame=some L)
  (hk:∀a o,h0.get? a=some o→∃o',s.heap.get? a=some o') (hnE:h0.get? ea=none) (nE:W.I ea=none∧ea∉W.ads) (hI:∀a o,W.I a=some o→s.heap.get? a=some o) (hads:∀a∈W.ads,∃o,s.heap.get? a=some o)
  (he:s.heap.get? ea=some oe) (hc:oe.cls= .ref c) (hd:oe.data= .fields vs) (h0':vs[0]?=some a0) (hsz:1<vs.size)
  (h:∀h' T,Turn ((env::outer).filterMap (·.frame)) [ea] s.heap h'→Fly h0 W h' c ea T a0 (rawInt L)→Q () {s with heap:=h'}):
  wpAny M A (do let a ←frameOf env;let pl ←entryPlaceOf L hadNext;let b ←EntryCells.newEntry head a .none (rawInt L) .none pl;setField (.ref ea) 1 b) Q E s:=by
 have hene:ea∉(env::outer).filterMap (·.frame):=λhm=>by
  refine yQ (f.ff.mem hm) λU o ho hnf=>?_
  rw [he] at ho;injection ho with ho;subst ho;exact hnf vs hd
 refine wpAny_bind (wpAny_frameOf_fun hfr f.ff hf λh1 hs1=>?_)
 refine wpAny_bind (wpAny_entryPlaceOf λpl hpl=>?_)
 unfold EntryCells.newEntry newFields
 refine wpAny_bind (wpAny_newObj_type ?_ (hpl.sizeOk5 _ _ _ _ _))
 have t1:=Turn.of_slots hs1
 have he1:h1.get? ea=some oe:=(hs1.2.1 ea hene).trans he
 have he2:=Heap.get?_push_of_some (h:=h1) {cls:= .type "traceback",dict:=none,data:= .fields ([head,.ref L,.none,rawInt L,.none]++(if pl.isEmpty then List.replicate 6 Value.none else pl)).toArray} he1
 refine wpAny_setField he2 hd hsz ?_
 have hTe:h1.objs.size≠ea:=Nat.ne_of_gt (Heap.lt_size he1)
 have hd3:=Obj.data_mapFields hd (·.setIfInBounds 1 (Value.ref h1.objs.size))
 have he3:=Heap.get?_update_self (Obj.mapFields (·.setIfInBounds 1 (Value.ref h1.objs.size))) he2 (Obj.isFreed_of_fields hd3)
 have hT3:=(Heap.get?_update_other (h1.push {cls:= .type "traceback",dict:=none,data:= .fields ([head,.ref L,.none,rawInt L,.none]++(if pl.isEmpty then List.replicate 6 Value.none else pl)).toArray})
  (Obj.mapFields (·.setIfInBounds 1 (Value.ref h1.objs.size))) (Ne.symm hTe)).trans (Heap.get?_push_size h1 rfl)
 have hTn:s.heap.get? h1.objs.size=none:=by
  cases q:s.heap.get? h1.objs.size with
  |none=>rfl
  |some o=>exact absurd (Heap.lt_size q) (by rw [hs1.1];exact Nat.lt_irrefl _)
 refine h _ h1.objs.size (((t1.trans (Turn.push _)).mono (λU m=>nomatch m)).trans (Turn.update he2 _ (Obj.isFreed_of_fields hd3))) ⟨hnE,?_,nE,⟨?_,λm=>?_⟩,hTe,(eI _ _ he3 ?_ hd3 ?_ ?_),(eW _ _ hT3 rfl ?_)⟩
 ·cases q:h0.get? h1.objs.size with
  |none=>rfl
  |some o=>refine oE (hk _ o q) λo' q'=>?_;rw [hTn] at q';exact ns q'
 ·cases q:W.I h1.objs.size with
  |none=>rfl
  |some o=>have:=hI _ o q;rw [hTn] at this;exact ns this
 ·refine oE (hads _ m) λo q=>?_
  rw [hTn] at q;exact ns q
 ·exact (Obj.cls_mapFields _ _).trans hc
 ·refine QJ (Array.getElem?_setIfInBounds_ne (by decide)) ?_;exact h0'
 ·simp [hsz]
 ·first|(exact rfl;done)|(rcases hpl with rfl|⟨_,_,_,_,_,_,_,rfl⟩<;>simp)
end
end
section
noncomputable def TurnX(h0:Heap)(W:Wd)(fs:List Addr)(h h':Heap):Prop:=
 ∃ex,Turn fs ex h h'∧∀a∈ex,h0.get? a=none∧(W.I a=none∧a∉W.ads)∧∀o,h.get? a=some o→∃vs,o.data= .fields vs
section
variable {w:World} {b0:Heap} {W:Wd} {H:Hp} {h h' h'':Heap} {fs:List Addr} {le:LE} {lc:Lc} {env:Env} {WB:Wd} {hB h0:Heap} {fr:List Env} {L c ea T:Addr} {a0 fl:Value} {ce:Value}
theorem TurnX.refl:TurnX h0 W fs h h:=(iEA ([]) (Turn.refl _ _ _) (λU m=>nomatch m))
theorem TurnX.trans(x:TurnX h0 W fs h h')(y:TurnX h0 W fs h' h''):TurnX h0 W fs h h'':=by
 refine oEA x λe1 t1 k1=>?_;clear x
 refine oEA y λe2 t2 k2=>?_;clear y
 refine (iEA (e1++e2) ((t1.mono λU m=>List.mem_append_left _ m).trans (t2.mono λU m=>List.mem_append_right _ m)) (λa m=>?_))
 by_cases q:a∈e1
 ·exact k1 a q
 ·have q2:a∈e2:=(List.mem_append.mp m).resolve_left q
  refine (iAA ((k2 a q2).1) ((k2 a q2).2.1) (λo ho=>?_))
  refine oE (t1.slot a o ho q) λsl e=>?_
  refine oE ((k2 a q2).2.2 _ e) λvs z=>?_
  exact ⟨vs,z⟩
theorem St.turnX(s:St w b0 WB hB le lc env W H h)(t:TurnX hB W (fr.filterMap (·.frame)) h h')(f:Frs b0 W fr h):St w b0 WB hB le lc env W H h':=by
 refine oEA t λex t k=>?_
 exact s.turn t f.at k
theorem Fly.rel(x:Fly h0 W h c ea T a0 fl)(e:fl= .none∨fl=rawInt L):XRel W h0 h L c (.ref ea):=by
 refine fO x.exc λoe vs e1 e2 e3 e4 e5=>?_
 refine dX x.tb λoT ts t1 t2 t3=>?_
 refine (bW ea oe vs a0 rfl x.newE x.nE.2 x.nE.1 (dZ e1 e2 e3 e4 (.inr (dR T oT ts e5 x.newT x.nT.2 x.nT.1 (cJ x.ne t1 t2 ?_)))))
 rcases e with rfl|rfl
 ·exact .inl t3
 ·exact .inr t3
theorem Fly.mark(x:Fly h0 W h c ea T a0 fl)(v:Value):Fly h0 W (h.update T (Obj.mapFields (·.setIfInBounds 3 v))) c ea T a0 v∧TurnX h0 W fs h (h.update T (Obj.mapFields (·.setIfInBounds 3 v))):=by
 refine fO x.exc λoe vs e1 e2 e3 e4 e5=>?_
 refine dX x.tb λoT ts t1 t2 t3=>?_
 have hsz:3<ts.size:=(Array.getElem?_eq_some_iff.mp t3).1
 have hd:=Obj.data_mapFields t2 (·.setIfInBounds 3 v)
 refine ⟨⟨x.newE,x.newT,x.nE,x.nT,x.ne,(eI oe vs ((Heap.get?_update_other _ _ x.ne).trans e1) e2 e3 e4 e5),(eW _ _ (Heap.get?_update_self _ t1 (Obj.isFreed_of_fields hd)) hd (by simp [hsz]))⟩,[T],Turn.update t1 _ (Obj.isFreed_of_fields hd),λa m=>?_⟩
 rw [List.mem_singleton] at m
 subst m
 exact (iAA x.newT x.nT (λo ho=>by rw [t1] at ho;have z9:=Option.some.inj ho;clear ho;subst z9;exact ⟨_,t2⟩))
end
section variable {fs:List Addr} {Q:Unit→Shared→Prop}
variable {M:Model} {A:Around} {E:TQ} {s:Shared} {b0:Heap} {W:Wd} {h0:Heap} {env:Env} {outer:List Env} {L c ea T:Addr} {a0 fl:Value} {ce:Value}
theorem kN(x:Fly h0 W s.heap c ea T a0 fl)(o:Option Addr)(h:∀h',TurnX h0 W fs s.heap h'→Fly h0 W h' c ea T a0 (o.elim .none λf=>rawInt f)→Q () {s with heap:=h'}):
  wpAny M A (setFlight (.ref ea) o) Q E s:=by
 refine fO x.exc λoe vs e1 e2 e3 e4 e5=>?_
 refine dX x.tb λoT ts t1 t2 t3=>?_
 refine oA (x.mark (fs:=fs) (o.elim Value.none λf=>rawInt f)) λy t=>?_
 unfold setFlight
 refine wpAny_bind (wpAny_field e1 e3 e5 ?_)
 refine QW (if_pos (show (Value.ref T !=Value.none)=true from by exact rfl)) ?_
 exact wpAny_setField t1 t2 (Array.getElem?_eq_some_iff.mp t3).1 (h _ t y)
theorem EP (hfr:A.frames=some (env::outer)) (f:Frs b0 W (env::outer) s.heap) (hf:env.frame=some L)
  (hk:∀a o,h0.get? a=some o→∃o',s.heap.get? a=some o') (hI:∀a o,W.I a=some o→s.heap.get? a=some o) (hads:∀a∈W.ads,∃o,s.heap.get? a=some o)
  (x:XRel W h0 s.heap L c ce)
  (h:∀h' ea T a0,ce= .ref ea→TurnX h0 W ((env::outer).filterMap (·.frame)) s.heap h'→Fly h0 W h' c ea T a0 (rawInt L)→Q () {s with heap:=h'}):
  wpAny M A (noteFrame ce env) Q E s:=by
 refine lG x λea oe vs a0 z1 hnE hm hI' he hc hd h0' hT=>?_;clear x;subst z1
 unfold noteFrame
 simp only [hf]
 rcases hT with h1|⟨T,oT,ts,h1,hnT,hTm,hTI,hTe,hoT,hdT,h3⟩
 ·refine wpAny_bind (wpAny_field he hd h1 ?_)
  refine QW (if_neg (by decide)) ?_
  refine tL (c:=c) hfr f hf hk hnE ⟨hI',hm⟩ hI hads he hc hd h0' (Array.getElem?_eq_some_iff.mp h1).1 λh' T t y=>h h' ea T a0 rfl (iEA ([ea]) t (λa m=>?_)) y
  rw [List.mem_singleton] at m;subst m
  exact (iAA hnE ⟨hI',hm⟩ (λo ho=>by rw [he] at ho;have z9:=Option.some.inj ho;clear ho;subst z9;exact ⟨_,hd⟩))
 ·have y:∀fl,ts[3]?=some fl→Fly h0 W s.heap c ea T a0 fl:=λfl q=>⟨hnE,hnT,⟨hI',hm⟩,⟨hTI,hTm⟩,hTe,(eI oe vs he hc hd h0' h1),(eW oT ts hoT hdT q)⟩
  refine wpAny_bind (wpAny_field he hd h1 ?_)
  refine QW (if_pos (show (Value.ref T !=Value.none)=true from by exact rfl)) ?_
  rcases h3 with h3|h3
  ·refine wpAny_bind (wpAny_field hoT hdT h3 ?_)
   refine QW (if_neg (show ¬((Value.none==rawInt L)=true) from by simp [rawInt])) ?_
   refine oA ((y _ h3).mark (fs:=(env::outer).filterMap (·.frame)) Value.none) λy' t'=>?_
   refine wpAny_bind (wpAny_setField hoT hdT (Array.getElem?_eq_some_iff.mp h3).1 ?_)
   refine fO y'.exc λoe' vs' e1 e2 e3 e4 e5=>?_
   have kk:∀a,(∃o,s.heap.get? a=some o)→∃o,(s.heap.update T (Obj.mapFields (·.setIfInBounds 3 .none))).get? a=some o:=λa ⟨o,q⟩=>by
    refine oEA t' λex t U=>?_;clear t'
    exact t.dom a o q
   have tt:=t'
   refine oEA t' λex t k=>?_;clear t'
   have fu:Frs b0 W (env::outer) (s.heap.update T (Obj.mapFields (·.setIfInBounds 3 .none))):=f.turn t λa m=>(k a m).2.2
   have hI2:∀a o,W.I a=some o→(s.heap.update T (Obj.mapFields (·.setIfInBounds 3 .none))).get? a=some o:=λa o q=>t.keep a o (hI a o q) (λm=>by rw [(f.at a m).1.1] at q;exact ns q) (λm=>by rw [(k a m).2.1.1] at q;exact ns q)
   refine tL (s:={s with heap:=s.heap.update T (Obj.mapFields (·.setIfInBounds 3 .none))}) (c:=c) hfr fu hf (λa o q=>kk a (hk a o q)) hnE ⟨hI',hm⟩ hI2 (λa m=>kk a (hads a m)) e1 e2 e3 e4 (Array.getElem?_eq_some_iff.mp e5).1 λh' T t y=>?_
   refine h h' ea T a0 rfl (tt.trans (iEA ([ea]) t (λa m=>?_))) y
   rw [List.mem_singleton] at m;subst m
   exact (iAA hnE ⟨hI',hm⟩ (λo ho=>by rw [e1] at ho;have z9:=Option.some.inj ho;clear ho;subst z9;exact ⟨_,e3⟩))
  ·refine wpAny_bind (wpAny_field hoT hdT h3 ?_)
   refine QW (if_pos (show (rawInt L==rawInt L)=true from beq_self_eq_true _)) ?_
   exact wpAny_pure (h s.heap ea T a0 rfl TurnX.refl (y _ h3))
theorem LK (hfr:A.frames=some (env::outer)) (f:Frs b0 W (env::outer) s.heap) (hf:env.frame=some L)
  (hk:∀a o,h0.get? a=some o→∃o',s.heap.get? a=some o') (hI:∀a o,W.I a=some o→s.heap.get? a=some o) (hads:∀a∈W.ads,∃o,s.heap.get? a=some o)
  (x:XRel W h0 s.heap L c ce)
  (h:∀h' ea T a0,ce= .ref ea→TurnX h0 W ((env::outer).filterMap (·.frame)) s.heap h'→Fly h0 W h' c ea T a0 .none→Q () {s with heap:=h'}):
  wpAny M A (leaving env ce) Q E s:=by
 unfold leaving
 refine wpAny_bind (EP hfr f hf hk hI hads x λh' ea T a0 e t y=>?_)
 subst e
 exact kN (s:={s with heap:=h'}) y none λh'' t' y'=>h h'' ea T a0 rfl (t.trans t') y'
theorem UP (hf:env.frame=some L) (x:Fly h0 W s.heap c ea T a0 fl)
  (h:∀h',TurnX h0 W fs s.heap h'→Fly h0 W h' c ea T a0 (rawInt L)→E (.ref ea) {s with heap:=h'}):
  cameBackBy M A env E (.ref ea) s:=by
 refine fO x.exc λoe vs e1 e2 e3 e4 e5=>?_
 unfold cameBackBy
 refine wpAny_bind (wpAny_field e1 e3 e5 ?_)
 refine QW (if_neg (show ¬((Value.ref T==Value.none)=true) from by simp)) ?_
 have z:wpAny M A (setFlight (.ref ea) env.frame) (λU s''=>E (.ref ea) s'') E s:=by
  refine kN (fs:=fs) x env.frame λh' t y=>h h' t ?_
  rw [hf] at y;exact y
 first
  |exact z
  |exact wpAny_bind (wpAny_pure z)
theorem D8 {α:Type} {what:String} {Q:α→Shared→Prop} (hf:env.frame=some L) (x:Fly h0 W s.heap c ea T a0 fl)
  (h:∀h',TurnX h0 W fs s.heap h'→Fly h0 W h' c ea T a0 (rawInt L)→E (.ref ea) {s with heap:=h'}):
  wpAny M A (PySem.passOn what (.ref ea) env:Sem α) Q E s:=by
 refine fO x.exc λoe vs e1 e2 e3 e4 e5=>?_
 unfold PySem.passOn
 refine wpAny_bind (wpAny_field e1 e3 e5 ?_)
 refine QW (if_neg (show ¬((Value.ref T==Value.none)=true) from by simp)) ?_
 have z:wpAny M A (do setFlight (.ref ea) env.frame;throw (.ref ea):Sem α) Q E s:=by
  refine wpAny_bind (kN (fs:=fs) x env.frame λh' t y=>wpAny_throw (h h' t ?_))
  rw [hf] at y;exact y
 first
  |exact z
  |exact wpAny_bind (wpAny_pure z)
end
end
section
section variable {a:Addr} {es:TG} {l:Nat}
variable {prog:Program} {w:World} {b0:Heap} {W:Wd} {H:Hp} {A:Around} {E:TQ} {s:Shared}
theorem tM {ep:Nat} (i:Inv w b0 W H s.heap) (hl:H[l]?=some (.dict es ep)) (hd:VRel W (.loc l) (.ref a)) {kv v:V} {k:Key} {key cv:Value} (ek:iA kv=some k) (hkv:VRel W kv key) (hv:VRel W v cv) (hk:cA k es=true) (hz:es.length≤1000) (hu:A.units+4<cLine) {Q:Unit→Shared→Prop}
  (h:∀s',Step W s.heap W s'.heap→Inv w b0 W (H.set l (.dict (cP k v es) (if (aP k es).isSome then ep else ep+1))) s'.heap→Same s s'→Heap.SameBut a s.heap s'.heap→Q () s'):
  wpAny (model prog w) A (dictSet a key cv) Q E s:=by
 refine cQ (iD i hl hd) λa' off ces e hρ d=>?_
 cases e
 have hf:=lC k es
 have kr:=jA (w:=w) ek hkv
 have hz':ces.toArray.size≤sizeLine:=by
  refine QA List.size_toArray ?_;refine QA d.rel.length.symm ?_
  exact Nat.le_trans hz (by decide)
 unfold dictSet
 try with_reducible refine wpAny_holding ?_
 refine wpAny_bind (lV kr d.im (Nat.lt_of_le_of_lt (Nat.le_add_right _ _) hu) λtk=>?_)
 unfold dictSetHashed
 try with_reducible refine wpAny_holding ?_
 refine wpAny_bind (lX (s:={s with toks:=tk}) (n:=ep+off) ⟨d.at_,d.rel,d.nd,d.kinds,d.im,d.big⟩ kr hk (Nat.lt_of_le_of_lt (Nat.le_add_right _ _) hu) ?_)
 cases q:hY k es with
 |some j=>
  refine wpAny_bind (wpAny_rule (wpAny_bind (wpAny_updateDict (s:={s with toks:=tk}) d.at_ rfl (wpAny_point ?_))))
  have g:=Heap.get?_update_self (Obj.mapDict λx=>x.modify j λe=>{e with val:=cv}) d.at_ rfl
  have sb:Heap.SameBut a s.heap (s.heap.update a (Obj.mapDict λx=>x.modify j λe=>{e with val:=cv})):=Heap.SameBut.update ..
  refine oE (iQ q) λu hu'=>?_
  have hsome:(aP k es).isSome=true:=by refine QC hf ?_;refine q.symm▸?_;simp [hu']
  refine h _ (Step.set hρ (λb hb o e=>(sb.2 b hb).trans e) ⟨_,g⟩) (i.set hρ (λb hb o e=>(sb.2 b hb).trans e) g ?_) rfl sb
  rw [if_pos hsome]
  refine (kK (ces.modify j λe=>{e with val:=cv}) (by simp [Obj.mapDict]) ?_ (jG d.nd) (λe he e' he'=>(fF hk e he).trans (fF hk e' he').symm))
  refine (mR _ _ _).symm▸?_;refine q.symm▸?_
  exact d.rel.modify hv
 |none=>
  refine wpAny_bind (wpAny_rule (wpAny_updateDictKeys (hz:=hz') (s:={s with toks:=tk}) d.at_ rfl ?_))
  have g:=Heap.get?_update_self (Obj.mapDictKeys λx=>x.push ⟨uM w k,key,cv⟩) d.at_ rfl
  have sb:Heap.SameBut a s.heap (s.heap.update a (Obj.mapDictKeys λx=>x.push ⟨uM w k,key,cv⟩)):=Heap.SameBut.update ..
  have hnone:(aP k es).isSome=false:=by refine QC hf ?_;refine q.symm▸?_;rfl
  refine h _ (Step.set hρ (λb hb o e=>(sb.2 b hb).trans e) ⟨_,g⟩) (i.set hρ (λb hb o e=>(sb.2 b hb).trans e) g ?_) rfl sb
  rw [if_neg (by rw [hnone];decide)]
  refine (kK (ces++[⟨uM w k,key,cv⟩]) (by simp [Obj.mapDictKeys,Nat.add_right_comm]) ?_ (jG d.nd) (λe he e' he'=>(fF hk e he).trans (fF hk e' he').symm))
  refine (mR _ _ _).symm▸?_;refine q.symm▸?_
  exact d.rel.snoc kr hv
theorem sD {ep:Nat} (i:Inv w b0 W H s.heap) (hl:H[l]?=some (.dict es ep)) (hd:VRel W (.loc l) (.ref a)) {kv v:V} {k:Key} {key cv:Value} (ek:iA kv=some k) (hkv:VRel W kv key) (hv:VRel W v cv) (hk:cA k es=true) (hz:es.length≤1000) (hu:A.units+4<cLine) {Q:Unit→Shared→Prop}
  (h:KU w b0 W s (H.set l (.dict (cP k v es) (if (aP k es).isSome then ep else ep+1))) (Q ())):
  wpAny (model prog w) A (dictSet a key cv) Q E s:=by
 exact tM i hl hd ek hkv hv hk hz hu λs' st i' sm U=>h s' st i' sm
theorem qK(k:Key)(v:V)(es:TG):(cP k v es).length≤es.length+1:=by
 have:=congrArg List.length (fG k v es)
 rw [List.length_map] at this
 refine QA this ?_
 split<;>simp
theorem mO{o o':O}(H:Hp)(h:H[l]?=some o):(H.set l o')[l]?=some o':=by
 exact (List.getElem?_set_self (List.getElem?_eq_some_iff.mp h).1)
inductive PRels (W:Wd):List (V×V)→List (Value×Value)→Prop
 |nil:PRels W [] []
 |cons {a b:V} {ca cb:Value} {r:List (V×V)} {q:List (Value×Value)}:VRel W a ca→VRel W b cb→PRels W r q→PRels W ((a,b)::r) ((ca,cb)::q)
theorem PRels.up{W W':Wd}(x:Sub W W'){a:List (V×V)}{b:List (Value×Value)}(r:PRels W a b):PRels W' a b:=
 r.rec (motive:=λa b U=>PRels W' a b) .nil λh g U r=> .cons (h.up x) (g.up x) r
theorem findK_mem{k:Key}:(aP k es).isSome=true↔k∈es.map (·.1):=by
 rw [lC]
 cases q:hY k es with
 |none=>exact ⟨λh=>(nomatch h),λh=>absurd h (posK_none.mp q)⟩
 |some i=>
  refine oE (iQ q) λv hv=>?_
  exact ⟨λU=>List.mem_map.mpr (iEA _ (List.mem_of_getElem? hv) rfl),λU=>by show (((es[i]?).map (·.2)).isSome)=true;rw [hv];rfl⟩
theorem oU(k:Key)(v:V)(es:TG):(cP k v es).length=if (aP k es).isSome then es.length else es.length+1:=by
 have:=congrArg List.length (fG k v es)
 rw [List.length_map] at this
 refine QJ this ?_
 by_cases q:k∈es.map (·.1)
 ·refine QC (if_pos q) ?_;refine QR (if_pos (findK_mem.mpr q)) ?_;exact (List.length_map _)
 ·refine QC (if_neg q) ?_;refine QR (if_neg (λz=>q (findK_mem.mp z))) ?_;simp
theorem oV{a b:V}{r:List (V×V)}{out:TG}(h:c9 ((a,b)::r) es=some out):∃k,iA a=some k∧cA k es=true∧c9 r (cP k b es)=some out:=by
 simp only [c9,Option.bind_eq_some_iff] at h
 refine oEA h λk ek h=>?_
 split at h
 ·exact (cM k ek (by assumption) h)
 ·exact ns h
theorem set_set(H:Hp)(l:Nat)(x y:O):(H.set l x).set l y=H.set l y:=List.set_set ..
set_option tactic.hygienic true in
theorem p0{off:Nat}(hρ:W.ρ[l]?=some (a,off))(hu:A.units+4<cLine)(f:Value×Value→PUnit→Sem (ForInStep PUnit))(hf:∀p u,f p u=(do dictSet a p.1 p.2;pure (.yield ⟨⟩))):
  ∀(ps:List (V×V)) (cps:List (Value×Value)) (es out:TG) (n:Nat) (H:Hp) (s:Shared) (Q:PUnit→Shared→Prop),PRels W ps cps→c9 ps es=some out→es.length+ps.length≤1000→Inv w b0 W H s.heap→H[l]?=some (.dict es (n+es.length))→
   (∀s',Step W s.heap W s'.heap→Inv w b0 W (H.set l (.dict out (n+out.length))) s'.heap→Same s s'→Q ⟨⟩ s')→wpAny (model prog w) A (forIn cps ⟨⟩ f) Q E s:=by
 intro ps cps es out n H s Q r
 induction r generalizing es n H s with
 |nil=>
  intro e hz i hl h
  have z9:=Option.some.inj e;clear e;subst z9
  refine QW List.forIn_nil ?_
  refine wpAny_pure (h s (Step.refl _ _) ?_ rfl)
  have:H.set l (.dict es (n+es.length))=H:=by
   apply List.ext_getElem?
   intro j
   by_cases q:l=j
   ·subst q;refine QJ (mO H hl) ?_;exact hl.symm
   ·exact (List.getElem?_set_ne q)
  rw [this];exact i
 |cons hx hv r ih=>
  rename_i x v _ _ ps q
  intro e hz i hl h
  refine eV (oV e) λk ek hk e'=>?_
  refine QW (List.forIn_cons _ _ _ _) ?_;refine (hf _ _).symm▸?_
  rw [List.length_cons] at hz
  have hlen:=oU k v es
  refine wpAny_bind (wpAny_bind (sD i hl (.loc hρ) ek hx hv hk (ow38 hz) hu λs' st i' sm=>wpAny_pure ?_))
  have e2:(if (aP k es).isSome then n+es.length else n+es.length+1)=n+(cP k v es).length:=by refine QD hlen ?_;cases (aP k es).isSome<;>rfl
  rw [e2] at i'
  have hle:=qK k v es
  refine ih (cP k v es) n _ s' e' (ow37 hz hle) i' (mO H hl) λs'' st' i'' sm'=>h s'' (st.trans st') ?_ (sm.trans sm')
  rw [set_set] at i''
  exact i''
theorem dC(h:Heap):h.get? h.objs.size=none:=iU h
theorem rZ{Q:TQ}(i:Inv w b0 W H s.heap)(k:KV w b0 W s (.loc H.length) (H++[.dict [] 0]) Q):wpAny (model prog w) A newDict Q E s:=by
 refine wpAny_newObj_type ?_ (Nat.zero_le _)
 have hf:=i.fresh
 have ik:=i.push1 (s:=s) {cls:= .type "dict",data:= .dict #[]}
 refine k _ (W.push s.heap.objs.size 0) {s with heap:=s.heap.push {cls:= .type "dict",data:= .dict #[]}} ((Step.of_keeps λ a o e=>Heap.get?_push_of_some _ e).push (dC _)) (ik.push (Heap.get?_push_size _ rfl) hf.2 hf.1 i.one (kK ([]) rfl .nil (by simp) (by simp))) ?_ rfl
 rw [←i.len]
 exact .loc (Wd.push_at W _ _)
theorem rW {pairs:List (Sem Value×Sem Value)} {Q:TQ} (hu:A.units+4<cLine) (hlen:pairs.length≤15) (i:Inv w b0 W H s.heap)
  (h:wpAny (model prog w) A (evalPairs pairs) (λ cps s1=>∃W1 H1 ps es,Step W (s.heap.push {cls:= .type "dict",data:= .dict #[]}) W1 s1.heap∧Inv w b0 W1 H1 s1.heap∧Same s s1∧PRels W1 ps cps∧ps.length≤15∧c9 ps []=some es∧
   KV w b0 W s (.loc H1.length) (H1++[.dict es es.length]) Q) E {s with heap:=s.heap.push {cls:= .type "dict",data:= .dict #[]}}):
  wpAny (model prog w) A (subDict pairs) (λa=>Q (.ref a)) E s:=by
 unfold subDict
 refine wpAny_bind (wpAny_alloc ?_)
 refine wpAny_bind (wpAny_holding ?_)
 refine QW (if_pos hlen) ?_
 refine wpAny_bind (wpAny_mono h (λcps s1 h1=>?_) λU U e=>e)
 refine bF h1 λW1 H1 ps es st i1 sm pr z1=>?_;clear h1;refine oAA z1 λhps hput k=>?_;clear z1
 refine wpAny_holding ?_
 have hf:=i.fresh
 have hg:(s.heap.push {cls:= .type "dict",data:= .dict #[]}).get? s.heap.objs.size=some {cls:= .type "dict",data:= .dict #[]}:=Heap.get?_push_size _ rfl
 refine j5 (st.keep _ _ hg hf.1) λn' I' sl e'=>?_
 have e2:=st.keepX _ _ hg (by decide) hf.1
 have st0:Step W s.heap W1 s1.heap:=(Step.of_keeps λ a o e=>Heap.get?_push_of_some _ e:Step W s.heap W (s.heap.push {cls:= .type "dict",data:= .dict #[]})).trans st
 have i2:=i1.push (off:=0) (o:= .dict [] 0) e2 (I'.trans hf.2) n' i.one (kK ([]) rfl .nil (by simp) (by simp))
 have hl:(H1++[O.dict [] 0])[H1.length]?=some (.dict [] (0+([]:TG).length)):=by exact List.getElem?_concat_length
 have hρ:(W1.push s.heap.objs.size 0).ρ[H1.length]?=some (s.heap.objs.size,0):=by refine QC i1.len.symm ?_;exact Wd.push_at W1 _ _
 refine wpAny_bind (p0 hρ hu _ (λU U=>rfl) ps cps [] es 0 _ s1 _ (pr.up (Wd.push_sub _ _ _)) hput (by simp;exact ow36 hps) i2 hl λs' st' i' sm'=>wpAny_pure (wpAny_pure ?_))
 refine k _ _ s' ((st0.push (dC _)).trans st') ?_ (.loc hρ) (sm.trans sm')
 have:(H1++[O.dict [] 0]).set H1.length (.dict es (0+es.length))=H1++[.dict es es.length]:=by
  refine QJ (List.set_append_right _ _ (Nat.le_refl _)) ?_;simp
 rw [this] at i'
 exact i'
end
end
section
section variable {vs:TL} {cs:List Value}
variable {prog:Program} {w:World} {b0:Heap} {W:Wd} {H:Hp} {A:Around} {E:TQ} {s:Shared}
theorem Inv.off{h:Heap}(i:Inv w b0 W H h){a:Addr}(hn:h.get? a=none):W.I a=none∧a∉W.ads:=by
 constructor
 ·cases q:W.I a with
  |none=>rfl
  |some o=>exact ns (hn.symm.trans (i.im a o q))
 ·intro m
  refine oEE (mem_ads.mp m) λl off hl=>?_
  refine dX (i.sized hl) λo ob U h2 U=>?_
  exact ns (hn.symm.trans h2)
theorem KV.newList {Q:TQ} {vs:TL} {cvs:List Value} {n:Nat} {h':Heap} {a tk:Nat} (i:Inv w b0 W H s.heap) (k:KV w b0 W s (.loc H.length) (H++[.list vs]) Q)
  (hk:∀b o,s.heap.get? b=some o→h'.get? b=some o) (hn:s.heap.get? a=none) (hg:h'.get? a=some (listOf cvs.toArray n)) (r:VRels W vs cvs) (h1:1<a):
  Q (.ref a) {s with heap:=h',toks:=tk}:=by
 have st:Step W s.heap W h':=Step.of_keeps hk
 have i':Inv w b0 W H h':=i.keeps λb o e U=>hk b o e
 refine oA (i.off hn) λhI hm=>?_
 refine k _ (W.push a 0) {s with heap:=h',toks:=tk} (st.push hn) (i'.push hg hI hm h1 (dS cvs n rfl r)) ?_ rfl
 rw [←i.len]
 exact .loc (Wd.push_at W _ _)
theorem EqGives.strs(x y:Str)(t u:Tok):MeetsSeq.EqGives (.str x t) (.str y u) (x==y):=λprog w A E s Q h=>EqAt.str_str x t y u prog w E Q h
theorem zG{x:Str}(h:VRels W vs cs):∀{r:TL},rF x vs=some r→∃j,∃hj:j<cs.length,g8 x cs[j]=true∧(∀m (hm:m<cs.length),m<j→g8 x cs[m]=false)∧VRels W r (cs.eraseIdx j):=
 h.ind (P:=λvs cs=>∀{r:TL},rF x vs=some r→∃j,∃hj:j<cs.length,g8 x cs[j]=true∧(∀m (hm:m<cs.length),m<j→g8 x cs[m]=false)∧VRels W r (cs.eraseIdx j)) (λh=>ns h) fun {v c vs cs} hv hr ih {r} h=>by
  refine oEA (bN h) λy qv h=>?_
  refine oE ((fV qv▸hv).inv) λt z1=>?_;subst z1
  by_cases e:y=x
  ·rw [if_pos e] at h
   exact ⟨0,Nat.zero_lt_succ _,beq_iff_eq.mpr e,λm U hm=>absurd hm (Nat.not_lt_zero _),Option.some.inj h▸hr⟩
  ·rw [if_neg e] at h
   refine oEA (lQ h) λr' h3 z1=>?_;subst z1
   obtain ⟨j,hj,h1,h2,h4⟩:=ih h3
   exact ⟨j+1,Nat.succ_lt_succ hj,h1,λm=>Nat.casesOn m (λU U=>beq_false_of_ne e) λm hm hlt=>h2 m (Nat.lt_of_succ_lt_succ hm) (Nat.lt_of_succ_lt_succ hlt),.cons (.str y t) h4⟩
theorem VRels.append1{v:V}{c:Value}(h:VRels W vs cs)(r:VRel W v c):VRels W (vs++[v]) (cs++[c]):=h.append (.cons r .nil)
theorem VRels.dropLast{W:Wd}(h:VRels W vs cs):VRels W vs.dropLast cs.dropLast:=by
 refine List.dropLast_eq_take.symm▸?_;refine List.dropLast_eq_take.symm▸?_;refine h.length▸?_;exact h.take _
theorem BL {l:Addr} {n:Nat} {x:Str} {t:Tok} {j:Nat} {Q:TQ} (ho:s.heap.get? l=some (listOf cs.toArray n)) (hj:j<cs.length) (h1:g8 x cs[j]=true) (h2:∀m (hm:m<cs.length),m<j→g8 x cs[m]=false)
  (h3:∀y∈cs,∃z u,y= .str z u) (hz:cs.length≤1000) (h:Q .none {s with heap:=s.heap.update l (Obj.mapSeq λxs=>xs.eraseIdxIfInBounds j)}):
  wpAny (model prog w) A (call (.builtin "list.remove") [.ref l,.str x t]) Q E s:=by
 have hT:s.TypeIs (.ref l) "list":=(iEA _ ho rfl)
 refine call_meets PySem.F.slot_list_remove hT PySem.F.entry_list_remove (PySem.F.args_list_remove_2 _ _) (MeetsSeq.list_remove l cs.toArray n (.str x t) (g8 x) (λy hy=>?_) j (by assumption) (by assumption) (λm hm hlt=>by simpa using h2 m (by assumption) hlt) (by refine QA List.size_toArray ?_;exact Nat.le_trans hz (by decide))) ⟨ho,h⟩
 refine oEE (h3 y (by simpa using hy)) λz u z1=>?_;subst z1
 exact EqGives.strs z x u t
theorem xV(h:VRels W vs cs):rN vs=true→∀y∈cs,∃z u,y= .str z u:=
 h.ind (P:=λvs cs=>rN vs=true→∀y∈cs,∃z u,y= .str z u) (λU U m=>nomatch m) fun {v c vs cs} hv _ ih h y m=>by
  refine oA ((Bool.and_eq_true _ _).mp h) λh1 h2=>?_
  refine oE (Option.isSome_iff_exists.mp h1) λx qv=>?_
  refine oE ((fV qv▸hv).inv) λt z1=>?_;subst z1
  exact (List.mem_cons.mp m).elim (λq=>(iEE x t q)) (ih h2 y)
end
end
section variable {a b:Str}
open PySem.Spec
theorem pY:∀a b:List Nat,zW a b=decide (a<b)
 |[],[]=>by exact rfl
 |[],_::_=>by exact rfl
 |_::_,[]=>by exact rfl
 |x::r,y::q=>by
  unfold zW
  by_cases h:x<y
  ·refine QJ (if_pos h) ?_;symm;refine decide_eq_true_iff.2 ?_;exact List.cons_lt_cons_iff.mpr (.inl h)
  ·refine QJ (if_neg h) ?_
   by_cases h2:y<x
   ·refine QJ (if_pos h2) ?_;symm;refine decide_eq_false_iff_not.2 ?_
    intro z
    rcases List.cons_lt_cons_iff.mp z with z|⟨z,_⟩
    ·exact h z
    ·exact ow41 h2 z
   ·refine QJ (if_neg h2) ?_;refine QJ (pY r q) ?_
    have:x=y:=(ow40 h h2)
    subst this
    refine decide_eq_decide.2 ?_;rw [List.cons_lt_cons_iff]
    constructor
    ·exact λz=> .inr ⟨rfl,z⟩
    ·rintro (z|⟨_,z⟩)
     ·exact absurd z (Nat.lt_irrefl _)
     ·exact z
noncomputable def sLe(a b:Str):Prop:=a.cps.toList≤b.cps.toList
theorem D2(h:sLe a b)(g:sLe b a):a=b:=by
 have:a.cps.toList=b.cps.toList:=List.le_antisymm h g
 cases a;cases b
 simp at this
 exact QS this
theorem sQ{c:Str}(h:sLe a b)(g:sLe b c):sLe a c:=List.le_trans h g
theorem tA(h:¬a.cps.toList<b.cps.toList):sLe b a:=List.not_lt.mp h
theorem nW(x:Str):∀l:TS,(j6 x l).Perm (x::l)
 |[]=> .refl _
 |y::r=>by
  unfold j6
  split
  ·exact ((nW x r).cons y).trans (List.Perm.swap x y r)
  ·exact .refl _
theorem FH{x z:Str}{l:TS}(h:z∈j6 x l):z=x∨z∈l:=List.mem_cons.mp ((nW x l).mem_iff.mp h)
theorem oY(x:Str):∀l:TS,l.Pairwise sLe→(j6 x l).Pairwise sLe
 |[],_=>by simp [j6]
 |y::r,h=>by
  unfold j6
  rw [List.pairwise_cons] at h
  split
  ·rename_i hlt
   rw [pY,decide_eq_true_iff] at hlt
   refine List.pairwise_cons.mpr ⟨λz hz=>?_,oY x r h.2⟩
   rcases FH hz with rfl|hz
   ·exact List.le_of_lt hlt
   ·exact h.1 z hz
  ·rename_i hlt
   rw [pY,decide_eq_true_iff] at hlt
   have hxy:sLe x y:=tA hlt
   refine List.pairwise_cons.mpr ⟨λz hz=>?_,List.pairwise_cons.mpr h⟩
   rcases List.mem_cons.mp hz with rfl|hz
   ·exact hxy
   ·exact sQ hxy (h.1 z hz)
theorem p6:∀l:TS,(cI l).Perm l
 |[]=> .refl _
 |x::r=>(nW x _).trans ((p6 r).cons x)
theorem mL:∀l:TS,(cI l).Pairwise sLe
 |[]=> .nil
 |x::r=>oY x _ (mL r)
theorem rX{l l':TS}(p:l.Perm l')(h:l.Pairwise sLe)(g:l'.Pairwise sLe):l=l':=
 p.eq_of_pairwise (λa b U U x y=>D2 x y) h g
theorem p5:∀(l:TS),sortedS l=true→l.Pairwise sLe
 |[],_=> .nil
 |[a],_=>by simp
 |a::b::r,h=>by
  have h':(!ltCps b.cps.toList a.cps.toList&&risingS b r)=true:=h
  rw [Bool.and_eq_true] at h'
  have ih:=p5 (b::r) h'.2
  have hab:sLe a b:=by
   refine tA ?_
   have:=h'.1
   rw [ltCps_eq] at this
   simpa using this
  refine List.pairwise_cons.mpr ⟨λz hz=>?_,ih⟩
  rcases List.mem_cons.mp hz with rfl|hz
  ·exact hab
  ·exact sQ hab ((List.pairwise_cons.mp ih).1 z hz)
end
section
section variable {a es:TG} {b kvs:List (Str×Value)} {vs:TL}
variable {prog:Program} {w:World} {b0:Heap} {W:Wd} {H:Hp} {A:Around} {E:TQ} {s:Shared}
theorem KU.kv{Q:TQ}{v:V}{H':Hp}{c:Value}(k:KV w b0 W s v H' Q)(h:∀W',VRel W' v c):KU w b0 W s H' (Q c):=λs' st i sm=>k c W s' st i (h W) sm
theorem nP{α:Type}{k:V→Option α}{r:α}(h:t5 vs k=some r):∃v,vs=[v]∧k v=some r:=by
 cases vs with
 |nil=>exact ns h
 |cons v q=>cases q with
  |nil=>exact (iEA v rfl h)
  |cons _ _=>exact ns h
theorem ER{α:Type}{k:Option α}{r:α}(h:NY vs k=some r):vs=[]∧k=some r:=by
 cases vs with
 |nil=>exact ⟨rfl,h⟩
 |cons _ _=>exact ns h
theorem VRels.oneI{W:Wd}{v:V}{cs:List Value}(h:VRels W [v] cs):∃c,cs=[c]∧VRel W v c:=by
 refine dX h.consI λc q z1 h1 h2=>?_;subst z1
 have z9:=h2.nilI;subst z9
 exact (iEA c rfl h1)
theorem iY {l:Nat} {name:Str} {args:TL} {r:V×Hp} {cl:Value} {cargs:List Value} (i:Inv w b0 W H s.heap) (hl:aO H l=some vs) (hv:VRel W (.loc l) cl) (ha:VRels W args cargs) (e:aM H l vs name args=some r)
  {Q:TQ} (h:KV w b0 W s r.1 r.2 Q):
  ∃id,Slot "list" name id∧typeOf (.builtin id)=pure (.type "method_descriptor")∧wpAny (model prog w) A (call (.builtin id) (cl::cargs)) Q E s:=by
 refine cD (dL i hl hv) λp off cs n z1 e1 e2 e3=>?_;subst z1
 have hT:s.TypeIs (.ref p) "list":=(iEA _ e2 rfl)
 unfold aM at e
 by_cases hn:name=Str.ofString "append"
 ·rw [if_pos hn] at e
  refine oEA (nP e) λv z1 e=>?_;subst z1
  refine oA (d3 e) λhz e=>?_
  have z9:=Option.some.inj e;clear e;subst z9
  refine oEA ha.oneI λc z1 hv=>?_;subst z1
  subst hn
  refine (cM _ PySem.F.slot_list_append PySem.F.type_list_append (call_meets PySem.F.slot_list_append hT PySem.F.entry_list_append (PySem.F.args_list_append_2 _ _) (PySem.list_append p cs.toArray n _ (by refine QA List.size_toArray ?_;refine QA e3.length.symm ?_;exact Nat.le_trans hz (by decide))) ⟨e2,?_⟩))
  refine KU.list (us:=vs++[v]) i e1 e2 (KU.kv h λU=> .none) ?_ _
  simpa using e3.append1 hv
 rw [if_neg hn] at e
 clear hn
 by_cases hn:name=Str.ofString "pop"
 ·rw [if_pos hn] at e
  refine oA (ER e) λz1 e=>?_;subst z1
  have z9:=ha.nilI;subst z9
  refine oA (d3 e) λhz e=>?_
  refine oEA (lQ e) λv hv z1=>?_;subst z1
  have hlen:=e3.length
  refine oEA (e3.get _ _ (by rw [List.getLast?_eq_getElem?] at hv;exact hv)) λy hy hr=>?_
  subst hn
  refine (cM _ PySem.F.slot_list_pop PySem.F.type_list_pop (call_meets PySem.F.slot_list_pop hT PySem.F.entry_list_pop (PySem.F.args_list_pop_1 _) (MeetsSeq.list_pop_last p cs.toArray n y (by refine List.size_toArray.symm▸?_;refine hlen▸?_;simpa using hy) (by refine QA List.size_toArray ?_;refine QA hlen.symm ?_;exact Nat.le_trans hz (by decide))) ⟨e2,?_⟩))
  refine KU.list (us:=vs.dropLast) i e1 e2 (λs' st i' sm=>h y W s' st i' hr sm) ?_ _
  have hpos:0<cs.length:=by
   have:=(List.getElem?_eq_some_iff.mp hy).1
   exact ow43 this
  have:(cs.toArray.eraseIdxIfInBounds (cs.toArray.size - 1)).toList=cs.dropLast:=by
   simp [List.dropLast_eq_take,List.eraseIdx_eq_take_drop_succ,show cs.length - 1+1=cs.length by exact ow42 hpos]
  rw [this]
  exact e3.dropLast
 rw [if_neg hn] at e
 clear hn
 by_cases hn:name=Str.ofString "remove"
 ·rw [if_pos hn] at e
  refine oEA (nP e) λv z1 e=>?_;subst z1
  refine oEA (bN e) λx qv e=>?_
  refine oA (d3 e) λhz e=>?_
  refine oEA (lQ e) λrr hr z1=>?_;subst z1
  refine oEA ha.oneI λc z1 hx=>?_;subst z1
  refine oE ((fV qv▸hx).inv) λt z1=>?_;subst z1
  obtain ⟨j,hj,h1,h2,h3⟩:=zG e3 hr
  subst hn
  refine (cM _ PySem.F.slot_list_remove PySem.F.type_list_remove (BL e2 hj h1 h2 (xV e3 hz.2) (by refine QA e3.length.symm ?_;exact hz.1) ?_))
  refine KU.list (us:=rr) i e1 e2 (KU.kv h λU=> .none) ?_ _
  simpa [Array.eraseIdxIfInBounds,hj] using h3
 ·rw [if_neg hn] at e;exact ns e
inductive SRel (W:Wd):TG→List (Str×Value)→Prop
 |nil:SRel W [] []
 |cons {x:Str} {v:V} {c:Value} {r:TG} {q:List (Str×Value)}:VRel W v c→SRel W r q→SRel W ((.s x,v)::r) ((x,c)::q)
theorem SRel.length{W:Wd}(r:SRel W a b):a.length=b.length:=
 r.rec (motive:=λa b U=>a.length=b.length) rfl λU U ih=>congrArg Nat.succ ih
theorem SRel.keys{W:Wd}(r:SRel W a b):a.map (·.1)=b.map λp=>Key.s p.1:=
 r.rec (motive:=λa b U=>a.map (·.1)=b.map λp=>Key.s p.1) rfl fun {x _ _ _ _} _ _ ih=>congrArg (Key.s x::·) ih
theorem SRel.nodup{W:Wd}(r:SRel W a b)(h:(a.map (·.1)).Nodup):(b.map (·.1)).Nodup:=by
 rw [r.keys] at h
 have:(b.map λp=>Key.s p.1)=(b.map (·.1)).map Key.s:=by refine QR List.map_map ?_;rfl
 rw [this] at h
 exact List.Pairwise.of_map Key.s (λa b n e=>n (congrArg Key.s e)) h
theorem zY{cs:List DictEntry}(r:ERels w W es cs):cS es=true→∃kvs,SRel W es kvs∧Pairs (PySem.strKind prog w) cs kvs:=
 r.rec (motive:=λes cs U=>cS es=true→∃kvs,SRel W es kvs∧Pairs (PySem.strKind prog w) cs kvs) (λU=>(iEA ([]) .nil .nil)) fun {k v hs key cv r q} hk hv _ ih h=>by
  refine oA ((Bool.and_eq_true _ _).mp h) λg1 g2=>?_
  refine oEA (ih g2) λkvs h1 h2=>?_
  refine dX (hk.isStr g1) λx t z1 z2 U=>?_;subst z1 z2
  exact (iEA ((x,cv)::kvs) (.cons hv h1) (.cons (strKind_is prog w x t) rfl h2))
theorem uX{l:Nat}{ep:Nat}{c:Value}(i:Inv w b0 W H s.heap)(hl:H[l]?=some (.dict es ep))(hv:VRel W (.loc l) c)(ha:cS es=true):
  ∃a kvs off,c= .ref a∧(a==sysModules)=false∧W.ρ[l]?=some (a,off)∧s.heap.DictOf (PySem.strKind prog w) a kvs∧SRel W es kvs:=by
 refine cQ (iD i hl hv) λa off ces z1 hρ d=>?_;subst z1
 refine oEA (zY (prog:=prog) d.rel ha) λkvs h1 h2=>?_
 refine (dR a kvs off rfl (yU d.big) hρ (dR _ _ _ d.at_ (iAA rfl rfl rfl) rfl (d.rel.keysOf λe he=>by simpa using List.all_eq_true.mp ha e he) ⟨h2,h1.nodup d.nd⟩) h1)
theorem EJ(r:SRel W es kvs):∀{cs:List DictEntry},Pairs (PySem.strKind prog w) cs kvs→KeysOf (PySem.strKind prog w) cs.toArray→ERels w W es cs:=
 r.rec (motive:=λes kvs U=>∀{cs:List DictEntry},Pairs (PySem.strKind prog w) cs kvs→KeysOf (PySem.strKind prog w) cs.toArray→ERels w W es cs) (fun {cs} p _=>by cases p;exact .nil) fun {x v c r q} hv _ ih {cs} p hko=>by
  cases p with
  |@cons e _ _ _ hk hval p=>
  have hval:e.val=c:=hval
  have h1:Value.isStrOf x e.key=true:=hk
  refine oE (Value.isStrOf_shape h1) λt ht=>?_
  refine oEA (hko e (by simp)) λk' h2 h3=>?_
  have h2':Value.isStrOf k' e.key=true:=h2
  have z9:=Value.isStrOf_inj _ _ _ h1 h2';subst z9
  obtain ⟨hs,key,val⟩:=e
  dsimp only at ht h3 hval
  subst ht h3
  obtain rfl:val=_:=hval
  exact .cons (.s x t) hv (ih p λe he=>hko e (by simp at he ⊢;exact .inr he))
theorem zN(h:cS es=true):∀e∈es,∀e'∈es,e.1.isS=e'.1.isS:=λe he e' he'=>by
 have h1:e.1.isS=true:=by simpa using List.all_eq_true.mp h e he
 have h2:e'.1.isS=true:=by simpa using List.all_eq_true.mp h e' he'
 refine QJ h1 ?_;exact h2.symm
theorem KV.newDict {Q:TQ} {es:TG} {kvs:List (Str×Value)} {h':Heap} {a tk:Nat} (i:Inv w b0 W H s.heap) (k:KV w b0 W s (.loc H.length) (H++[.dict es 0]) Q)
  (hk:∀b o,s.heap.get? b=some o→h'.get? b=some o) (hn:s.heap.get? a=none) (hg:h'.DictOf (PySem.strKind prog w) a kvs) (r:SRel W es kvs) (ha:cS es=true) (hnd:(es.map (·.1)).Nodup) (h1:1<a):
  Q (.ref a) {s with heap:=h',toks:=tk}:=by
 obtain ⟨⟨cl,dd,dat,sl⟩,des,ep,ho,⟨rfl,rfl,rfl⟩,hd,hko,hp,_⟩:=hg
 dsimp only at hd
 subst hd
 have st:Step W s.heap W h':=Step.of_keeps hk
 have i':Inv w b0 W H h':=i.keeps λb o e U=>hk b o e
 refine oA (i.off hn) λhI hm=>?_
 refine k _ (W.push a ep) {s with heap:=h',toks:=tk} (st.push hn) (i'.push ho hI hm h1 (kK des.toList (by simp) (EJ r hp (by assumption)) hnd (zN ha))) ?_ rfl
 rw [←i.len]
 exact .loc (Wd.push_at W _ _)
end
end
section
section
variable {prog:Program} {w:World} {A:Around} {E:TQ} {s:Shared}
theorem uD:typeLookup (.type "int") "__bytes__"=pure none:=by refine QJ (typeLookup_type _ _) ?_;refine builtinLookup_eq_fast.symm▸?_;kernel_rfl
theorem C4{n:Int}{t:Tok}{Q:TQ}(h0:0≤n)(h1:n<1000)(hQ:Q (.bytes (Array.replicate n.toNat 0) s.toks) {s with toks:=s.toks+1}):
  codeAny (model prog w) A (.call (.builtin "bytes.__new__") ⟨[.type "bytes",.int n t],[]⟩) (wants Q E) s:=by
 refine codeAny_of_tree ?_
 show wpAny _ A.in1 (do checkBuiltinCall "bytes.__new__" ⟨[.type "bytes",.int n t],[]⟩;again (.builtin "bytes.__new__" ⟨[.type "bytes",.int n t],[]⟩)) _ _ s
 refine wpAny_bind (wpAny_of_eq (F.bm_newCall _) (wpAny_pure ⟨plainId_quiet F.bm_plain _,codeAny_builtin F.bm_entry ?_⟩))
 rw [Around.under_plainId F.bm_plain _]
 have hT:s.TypeIs (.int n t) "int":=typeIs_int s n t
 unfold Builtin.«bytes.__new__»
 refine wpAny_bind (wpAny_of_eq (a:=true) rfl ?_)
 refine bm_if_false rfl ?_
 refine wpAny_bind (wpAny_of_eq F.bm_sub ?_)
 refine bm_if_false rfl ?_
 refine wpAny_bind (wpAny_of_eq (F.bm_bind _) ?_)
 refine wpAny_bind (wpAny_of_eq (a:=()) rfl ?_)
 refine wpAny_bind (wpAny_of_eq (a:=()) rfl ?_)
 refine bm_if_false rfl ?_
 refine wpAny_bind (wpAny_specialOf hT uD ?_)
 dsimp only
 refine wpAny_bind (wpAny_of_eq (a:=false) rfl ?_)
 refine bm_if_false rfl ?_
 refine wpAny_bind (wpAny_specialOf hT PySem.F.slot_int_index.lookup ?_)
 refine bm_if_false rfl ?_
 refine wpAny_bind (wpAny_attempt (wpAny_of_eq (a:=n) rfl ?_))
 have f1:Builtin.Bytes.fitsIndex n=true:=by unfold Builtin.Bytes.fitsIndex;rw [Bool.and_eq_true,decide_eq_true_iff,decide_eq_true_iff];constructor<;>omega
 have f2:Builtin.Bytes.tooLong n.toNat=false:=by unfold Builtin.Bytes.tooLong;refine decide_eq_false_iff_not.2 ?_;refine sizeLine_eq.symm▸?_;exact ow46 h1
 show wpAny _ _ (if (!Builtin.Bytes.fitsIndex n)=true then _ else _) _ _ s
 refine bm_if_false (by refine QC f1 ?_;rfl) ?_
 show wpAny _ _ (if n<0 then _ else _) _ _ s
 refine QW (if_neg (ow28 h0)) ?_
 show wpAny _ _ (if n>2^63 - 34 then _ else _) _ _ s
 refine QW (if_neg (ow45 h1)) ?_
 refine bm_if_false f2 ?_
 refine wpAny_bind (wpAny_rule ?_)
 have hz:(Array.replicate n.toNat (0:UInt8)).size≤sizeLine:=by refine QA Array.size_replicate ?_;refine QB sizeLine_eq ?_;exact ow44 h1
 unfold mkBytes
 refine (if_neg (Nat.not_lt.mpr hz)).symm▸?_
 refine wpAny_bind (wpAny_bind (wpAny_fresh (wpAny_pure ?_)))
 exact wpAny_of_eq (a:= .done (.ret _)) rfl hQ
theorem rH{n:Int}{t:Tok}{Q:TQ}(h0:0≤n)(h1:n<1000)(hQ:∀t' tk,Q (.bytes (Array.replicate n.toNat 0) t') {s with toks:=tk}):wpAny (model prog w) A (call (.type "bytes") [.int n t]) Q E s:=by
 refine callType_codes (Q₁:=λ obj s1=>s1.TypeIs obj "bytes"∧Q obj s1) F.bm_called (F.bm_typeCall _) F.entry_object_init
  (C4 h0 h1 ⟨PySem.W.typeIs_bytes _ _ _,hQ _ _⟩) λobj s1 h₁=>?_
 exact (iAA h₁.1 (F.args_object_init_2 obj _) (object_init_meets F.bm_called.init.lookup F.bm_called.made (by decide) prog w A.in1 _ s1 (iAA h₁.1 rfl h₁.2)))
end
end
section
section
variable {prog:Program} {w:World} {A:Around} {E:TQ} {s:Shared}
theorem uC:typeLookup (.type "list") (Str.ofString "keys")=pure none:=by refine QJ (typeLookup_type _ _) ?_;refine builtinLookup_eq_fast.symm▸?_;kernel_rfl
theorem B7 {a:Addr} {xs:Array Value} {k:Nat} {Q:Option Value→Shared→Prop} (hx:s.heap.get? a=some (listOf xs k)) (hA:A.handled=none)
  (h:∀h' tk,(∀b o,s.heap.get? b=some o→h'.get? b=some o)→Q none {s with heap:=h',toks:=tk}):wpAny (model prog w) A (getAttr? (.ref a) "keys") Q E s:=by
 obtain ⟨hp,g,d,tk,os⟩:=s
 have hT:∀tk',(⟨hp,g,d,tk',os⟩:Shared).TypeIs (.ref a) "list":=λ U=>(iEA _ hx rfl)
 have f1:=sub_AttributeError
 have f3:=F.slot_list_getattribute.lookup
 have f4:=F.slot_list_getattribute.bind (.ref a)
 have f5:=am_list_getattr_none
 unfold getAttr? getAttrBy? getAttrBy
 repeat (any_goals (first|assumption|exact hT _|with_reducible refine wpAny_loadPart_at hx ?_|((with_reducible show wpAny _ _ (call (Value.builtin "list.__getattribute__") _ _) _ _ _);refine call_meets F.slot_list_getattribute (hT _) am_entry_list_getattribute (F.args_list_getattribute_2 _ _) (meets_getattribute_miss_list a xs k #[] (Str.ofString "keys") _ uC (by decide+kernel) (by decide+kernel)) (iAA hx hA (λ h' tk' e hx'=>?_)))|wp_step))
 refine oEE hx'.there λt' u' he=>?_
 show wpAny _ _ (getattributeRaised _ _ _ _ _ _ _) _ _ _
 unfold getattributeRaised
 repeat (any_goals (first|assumption|wp_step))
 exact h _ _ hx'.keeps
theorem iC:entryFor table "dict.update.loop"=some Builtin.«dict.update.loop»:=entryFor_of_tree (by kernel_rfl)
theorem eH:plainId "dict.update.loop"=true:=by decide+kernel
variable {b0:Heap} {W:Wd} {H:Hp}
theorem lF{v:V}{r:TL}{ps:List (V×V)}(h:d2 (v::r)=some ps):∃a b q,v= .tup [a,b]∧d2 r=some q∧ps=(a,b)::q:=by
 unfold d2 at h
 rw [List.mapM_cons] at h
 refine oEA (bN h) λp h1 h=>?_
 refine oEA (bN h) λq h2 h=>?_
 refine oEA (bN h1) λvs qv h1=>?_
 exact (cE p.1 p.2 q (by refine QJ (fW qv) ?_;exact QS (qO h1)) h2 ((Option.some.inj h).symm))
theorem Step.of_ads{h h':Heap}(k:∀a o,h.get? a=some o→a∉W.ads→h'.get? a=some o)(i:Inv w b0 W H h'):Step W h W h':={Sub.refl W with
 keep:=λa o e n=>(iAA n rfl ⟨o.slots,k a o e n⟩)
 keepF:=λa o U e U n=>k a o e n
 keepX:=λa o e U n=>k a o e n
 dom:=λa o e=>by
  by_cases q:a∈W.ads
  ·refine oEE (mem_ads.mp q) λl off hl=>?_
   refine dX (i.sized hl) λU ob U h2 U=>?_
   exact ⟨ob,h2⟩
  ·exact ⟨o,k a o e q⟩}
theorem Inv.apart{h h':Heap}{I:Addr}(inv:Inv w b0 W H h)(hI:W.I I=none)(hIm:I∉W.ads)(hk:∀a o,a≠I→h.get? a=some o→h'.get? a=some o):Inv w b0 W H h':=
 inv.keeps λa o e q=>hk a o (λz=>by
  subst z
  rcases q with q|q
  ·rw [hI] at q;exact ns q
  ·exact hIm q) e
theorem vC{R:Result→Shared→Prop}(hh:A.handled=none)(hu:A.units+5<cLine){D I ax l off:Nat}{items:Array Value}(hρ:W.ρ[l]?=some (D,off))(hI:W.I I=none)(hIm:I∉W.ads)(hax:ax≠I)(haD:ax≠D)(hDI:D≠I):
  ∀(ps:List (V×V)) (vs:TL) (i:Nat) (es out:TG) (n:Nat) (H:Hp) (s:Shared),d2 vs=some ps→VRels W vs (items.toList.drop i)→c9 ps es=some out→es.length+ps.length≤1000→i≤items.size→Inv w b0 W H s.heap→H[l]?=some (.dict es (n+es.length))→
   s.heap.IsListIter I ax i→s.heap.IsList ax items→
   (∀s',(∀a o,s.heap.get? a=some o→a∉W.ads→a≠I→s'.heap.get? a=some o)→Inv w b0 W (H.set l (.dict out (n+out.length))) s'.heap→Same s s'→R (.ok (.ret .none)) s')→
   codeAny (model prog w) A (.builtin "dict.update.loop" ⟨[.ref D,.ref I,rawInt i,.none],[]⟩) R s:=by
 intro ps
 induction ps with
 |nil=>
  intro vs i es out n H s hp hv e hz hi inv hl hit hls h
  have z9:=Option.some.inj e;clear e;subst z9
  have hvs:vs=[]:=by
   cases vs with
   |nil=>rfl
   |cons v r=>refine cQ (lF hp) λU U U U U q=>?_;exact nomatch q
  subst hvs
  have hsz:i=items.size:=by
   have:=hv.length
   rw [List.length_nil,List.length_drop,Array.length_toList] at this
   exact ow49 this hi
  subst hsz
  have Wk:=Walks.list (prog:=prog) (w:=w) (A:=A.in1) hh I ax hax items
  refine codeAny_builtin iC ?_
  rw [Around.under_plainId eH _]
  show wpAny _ A.in1 (pyNext (.ref I) >>= _) _ _ s
  refine wpAny_bind (Wk.done s _ _ ⟨hit,hls⟩ λh' tk hk=>?_)
  have hk':∀b o,b≠I→s.heap.get? b=some o→h'.get? b=some o:=λb o hb e=>hk b o (by simp [hb]) e
  have same:H.set l (.dict es (n+es.length))=H:=by
   apply List.ext_getElem?
   intro j
   by_cases q:l=j
   ·subst q;refine QJ (mO H hl) ?_;exact hl.symm
   ·exact (List.getElem?_set_ne q)
  show wpAny _ A.in1 (Builtin.Dict.addKeywords D [] >>= _) _ _ _
  refine wpAny_bind (wpAny_pure (wpAny_pure (h {s with heap:=h',toks:=tk} (λa o e U hne=>hk' a o hne e) ?_ rfl)))
  rw [same]
  exact inv.apart hI hIm hk'
 |cons xv ps ih=>
  intro vs i es out n H s hp hv e hz hi inv hl hit hls h
  obtain ⟨x,v⟩:=xv
  obtain ⟨a,b,q,rfl,r,hr,e2⟩:∃a b q,vs= .tup [a,b]::q∧∃r,d2 q=some r∧(x,v)::ps=(a,b)::r:=by
   cases vs with
   |nil=>cases hp
   |cons u r=>
    refine cQ (lF hp) λa b q z1 h2 h3=>?_;subst z1
    exact (AO a b r rfl (iEA q h2 h3))
  obtain ⟨⟨rfl,rfl⟩,rfl⟩:(x=a∧v=b)∧ps=r:=by
   have:=List.cons.inj e2
   exact ⟨Prod.mk.inj this.1,this.2⟩
  have hlt:i<items.size:=by
   have h9:q.length+1=items.size - i:=by simpa using hv.length
   exact ow48 h9
  have hdrop:items.toList.drop i=items[i]::items.toList.drop (i+1):=by
   refine QJ (List.drop_eq_getElem_cons (by simpa using hlt)) ?_;simp
  rw [hdrop] at hv
  refine dX hv.consI λc0 hrest0 hc0 ht hrest=>?_
  refine oA (List.cons.inj hc0) λz1 z2=>?_;subst z1 z2
  refine bF (gM ht) λcs p o m h1 h2 h3 h4 hitem=>?_
  obtain ⟨ca,_,rfl,hva,h4⟩:=h4.consI
  obtain ⟨cb,rfl,hvb⟩:=h4.oneI
  refine eV (oV e) λk ek hk0 e'=>?_
  have Wk:=Walks.list (prog:=prog) (w:=w) (A:=A.in1) hh I ax hax items
  refine codeAny_builtin iC ?_
  rw [Around.under_plainId eH _]
  show wpAny _ A.in1 (pyNext (.ref I) >>= _) _ _ s
  refine wpAny_bind (Wk.item i s _ _ hlt ⟨hit,hls⟩ λit h' tk hPv hst hk=>?_)
  have hk':∀b o,b≠I→s.heap.get? b=some o→h'.get? b=some o:=λb o hb e=>hk b o (by simp [hb]) e
  have hiv:it= .ref p:=by
   have:items[i]?=some it:=hPv
   rw [Array.getElem?_eq_getElem hlt] at this
   refine QJ (Option.some.inj this).symm ?_;exact hitem
  subst hiv
  have inv':=inv.apart hI hIm hk'
  have hT:({s with heap:=h',toks:=tk}:Shared).TypeIs (.ref p) "tuple":=(iEA o (inv'.im _ _ h1) h2)
  show wpAny _ A.in1 (holding [Value.ref p] _ >>= _) _ _ _
  refine wpAny_bind (wpAny_holding ?_)
  refine wpAny_bind (wpAny_tryCatch ?_)
  unfold Builtin.Dict.pairItems
  refine wpAny_bind (wpAny_typeOf hT ?_)
  refine QW (if_pos (by decide)) ?_
  refine wpAny_bind ?_
  show wpAny _ _ (load p >>= _) _ _ _
  refine wpAny_bind (wpAny_load (inv'.im _ _ h1) ?_)
  refine h3.symm▸?_
  refine wpAny_pure (wpAny_pure ?_)
  show wpAny _ _ (holding [ca,cb] (dictSet D ca cb)) _ _ _
  rw [List.length_cons] at hz
  refine wpAny_holding (tM (s:={s with heap:=h',toks:=tk}) (A:=A.in1) inv' hl (.loc hρ) ek hva hvb hk0 (ow38 hz) (by show A.units+1+4<cLine;exact ow47 hu) λs' st i' sm sb=>?_)
  have hlen:=oU k v es
  have hle:=qK k v es
  have e3:(if (aP k es).isSome then n+es.length else n+es.length+1)=n+(cP k v es).length:=by refine QD hlen ?_;cases (aP k es).isSome<;>rfl
  rw [e3] at i'
  have hit':s'.heap.IsListIter I ax (i+1):=hst.1.at λo e=>(sb.2 I (Ne.symm hDI)).trans e
  have hls':s'.heap.IsList ax items:=hst.2.at λo e=>(sb.2 ax haD).trans e
  have hc:rawInt ((i:Int)+1)=rawInt ((i+1:Nat):Int):=by push_cast;rfl
  refine wpAny_pure ?_
  show Code.quiet (.builtin "dict.update.loop" ⟨[.ref D,.ref I,rawInt ((i:Int)+1),.none],[]⟩)=true∧codeAny _ A (.builtin "dict.update.loop" ⟨[.ref D,.ref I,rawInt ((i:Int)+1),.none],[]⟩) R s'
  refine hc.symm▸?_
  refine ⟨plainId_quiet eH _,ih q (i+1) (cP k v es) out n _ s' hr hrest e' (ow37 hz hle) hlt i' (mO H hl) hit' hls' λs'' kk ii sm'=>h s'' (λa o e na ne=>kk a o ?_ na ne) ?_ ?_⟩
  ·exact (sb.2 a (λz=>na (z▸mem_ads.mpr (iEE l off hρ)))).trans (hk' a o ne e)
  ·rw [set_set] at ii;exact ii
  ·exact (Same.mk s h' tk).trans (sm.trans sm')
end
end
section
section variable {es:TG}
variable {prog:Program} {w:World} {A:Around} {E:TQ} {s:Shared} {b0:Heap} {W:Wd} {H:Hp}
theorem pI {l:Nat} {vs:TL} {ps:List (V×V)} {c:Value} (i:Inv w b0 W H s.heap) (hh:A.handled=none) (hu:A.units+8<cLine) (hl:H[l]?=some (.list vs)) (hv:VRel W (.loc l) c) (hp:d2 vs=some ps) (hz:ps.length≤1000) (e:c9 ps []=some es)
  {Q:TQ} (h:KV w b0 W s (.loc H.length) (H++[.dict es es.length]) Q):wpAny (model prog w) A (call (.type "dict") [c]) Q E s:=by
 refine cD (dL i (dP hl) hv) λax off cs n z1 hρ hax hrel=>?_;subst z1
 refine callType_codes (Q₁:=λ obj s1=>obj= .ref s.heap.objs.size∧s1={s with heap:=s.heap.push {cls:= .type "dict",data:= .dict #[]}}) F.kt_called_dict (F.kt_typeCall_dict_1 _) PySem.F.entry_dict_init (kt_code_dict_new _ ⟨rfl,rfl⟩) ?_
 intro obj s1;refine qA λz1 z2=>?_;subst z1 z2
 have hf:=i.fresh
 have hD:(s.heap.push {cls:= .type "dict",data:= .dict #[]}).get? s.heap.objs.size=some {cls:= .type "dict",data:= .dict #[]}:=Heap.get?_push_size _ rfl
 have i1:=(i.push1 (s:=s) {cls:= .type "dict",data:= .dict #[]}).push (off:=0) (o:= .dict [] 0) hD hf.2 hf.1 i.one (kK ([]) rfl .nil (by simp) (by simp))
 have hT:({s with heap:=s.heap.push {cls:= .type "dict",data:= .dict #[]}}:Shared).TypeIs (.ref s.heap.objs.size) "dict":=(iEA _ hD rfl)
 have hax1:(s.heap.push {cls:= .type "dict",data:= .dict #[]}).get? ax=some (listOf cs.toArray n):=Heap.get?_push_of_some _ hax
 refine (iAA hT (PySem.F.args_dict_init_2 _ _) ?_)
 unfold Builtin.«dict.__init__»
 refine wpAny_bind ?_
 unfold Builtin.Dict.selfAndRest
 refine wpAny_bind (wpAny_notOrdered_dict hT ?_)
 show wpAny _ _ (pure (s.heap.objs.size,[Value.ref ax])) _ _ _
 refine wpAny_pure ?_
 show wpAny _ _ (Builtin.Dict.updateFrom "dict.__init__" s.heap.objs.size (.ref ax) [] .none) _ _ _
 unfold Builtin.Dict.updateFrom
 refine wpAny_bind (wpAny_typeOf (T:="list") (iEA _ hax1 rfl) ?_)
 refine QW (if_pos (by decide)) ?_
 refine wpAny_bind (B7 (s:={s with heap:=s.heap.push {cls:= .type "dict",data:= .dict #[]}}) hax1 hh λ h2 tk2 hk2=>?_)
 refine bm_if_true rfl ?_
 refine wpAny_bind (wpAny_rule ?_)
 have i2:Inv w b0 (W.push s.heap.objs.size 0) (H++[.dict [] 0]) h2:=i1.keeps λa o e U=>hk2 a o e
 have hax2:({s with heap:=h2,toks:=tk2}:Shared).heap.IsList ax cs.toArray:=(cM _ (hk2 _ _ hax1) rfl ⟨n,rfl⟩)
 refine wpAny_bind (wpAny_pyIter_list hax2 ?_)
 have hI:=i2.fresh
 have i3:Inv w b0 (W.push s.heap.objs.size 0) (H++[.dict [] 0]) (h2.push {cls:= .type "list_iterator",data:= .fields #[.ref ax,.int 0 0]}):=i2.keeps λ a o e U=>Heap.get?_push_of_some _ e
 have hIlt:s.heap.objs.size<h2.objs.size:=Heap.lt_size (hk2 _ _ hD)
 have hρ1:(W.push s.heap.objs.size 0).ρ[H.length]?=some (s.heap.objs.size,0):=by refine QC i.len.symm ?_;exact Wd.push_at W _ _
 have hneI:ax≠h2.objs.size:=Nat.ne_of_lt (Heap.lt_size (hk2 _ _ hax1))
 have hneD:ax≠s.heap.objs.size:=Nat.ne_of_lt (Heap.lt_size hax)
 have fin:codeAny (model prog w) A.in1 (.builtin "dict.update.loop" ⟨[.ref s.heap.objs.size,.ref h2.objs.size,rawInt (0:Nat),.none],[]⟩) (wants (λ r s2=>r= .none∧Q (.ref s.heap.objs.size) s2) E)
   {s with heap:=h2.push {cls:= .type "list_iterator",data:= .fields #[.ref ax,.int 0 0]},toks:=tk2}:=by
  refine vC (A:=A.in1) (s:={s with heap:=h2.push {cls:= .type "list_iterator",data:= .fields #[.ref ax,.int 0 0]},toks:=tk2}) (items:=cs.toArray) (W:=W.push s.heap.objs.size 0) hh (by have:A.in1.units=A.units+1:=rfl;exact ow53 hu this) hρ1 hI.2 hI.1 hneI hneD (Nat.ne_of_lt hIlt) ps vs 0 [] es 0 (H++[.dict [] 0]) hp (by simpa using hrel.up (Wd.push_sub W _ _)) e (by simp;exact hz) (Nat.zero_le _) i3 (by exact List.getElem?_concat_length)
   (cM _ (Heap.get?_push_size _ rfl) rfl rfl) (cM (listOf cs.toArray n) (Heap.get?_push_of_some _ (hk2 _ _ hax1)) rfl ⟨n,rfl⟩) λs' kk ii sm=>⟨rfl,?_⟩
  have e3:(H++[O.dict [] 0]).set H.length (.dict es (0+es.length))=H++[.dict es es.length]:=by
   refine QJ (List.set_append_right _ _ (Nat.le_refl _)) ?_;simp
  rw [e3] at ii
  refine h (.ref s.heap.objs.size) (W.push s.heap.objs.size 0) s' ?_ ii (.loc hρ1) sm
  have st:Step (W.push s.heap.objs.size 0) s.heap (W.push s.heap.objs.size 0) s'.heap:=Step.of_ads (λa o ho hm=>kk a o (Heap.get?_push_of_some _ (hk2 a o (Heap.get?_push_of_some _ ho))) hm (λz=>by
   subst z
   have:=hk2 _ _ (Heap.get?_push_of_some {cls:= .type "dict",data:= .dict #[]} ho)
   rw [dC h2] at this;exact ns this)) ii
  exact ((Step.refl W s.heap).push (dC _):Step W s.heap (W.push s.heap.objs.size 0) s.heap).trans st
 exact wpAny_pure ⟨plainId_quiet eH _,fin⟩
theorem vD:∀{ss:TS},jE (es.map λe=>iZ e.1)=some ss→cS es=true∧ss.map Key.s=es.map (·.1):=by
 induction es with
 |nil=>intro ss h;rw [←Option.some.inj h];exact ⟨rfl,rfl⟩
 |cons q r ih=>
  intro ss h
  obtain ⟨k,v⟩:=q
  refine oEA (bN h) λx hx h=>?_
  refine oEA (lQ h) λq h3 z1=>?_;subst z1
  refine oA (ih h3) λh1 h2=>?_
  cases k with
  |s y=>
   have z9:=Option.some.inj hx;clear hx;subst z9
   exact ⟨h1,congrArg (Key.s y::·) h2⟩
  |p _ _=>exact ns hx
theorem yE(W:Wd){cs:List Value}{ss:TS}(h:StrsAre cs ss):VRels W (ss.map .str) cs:=
 h.rec (motive:=λcs ss U=>VRels W (ss.map .str) cs) .nil λx t U U U ih=> .cons (.str x t) ih
theorem nZ {l:Nat} {ep:Nat} {ss:TS} {c:Value} (i:Inv w b0 W H s.heap) (hh:A.handled=none) (hl:H[l]?=some (.dict es ep)) (hv:VRel W (.loc l) c) (hs:jE (es.map λe=>iZ e.1)=some ss) (hz:ss.length<64)
  {Q:TQ} (h:KV w b0 W s (.loc H.length) (H++[.list ((cI ss).map .str)]) Q):wpAny (model prog w) A (call (.builtin "sorted") [c]) Q E s:=by
 refine oA (vD hs) λha hkeys=>?_
 refine iS (uX (prog:=prog) i hl hv ha) λa kvs off z1 hsys hρ hD hsr=>?_;subst z1
 refine oE hD.dictAt λep' hat=>?_
 have hlen:kvs.length=ss.length:=by
  refine QJ hsr.length.symm ?_
  have:=congrArg List.length hkeys
  rw [List.length_map,List.length_map] at this
  exact this.symm
 refine call_function_entry kind_sorted plain_sorted entry_sorted (args_sorted1 _) ?_
 unfold Builtin.«sorted»
 refine wpAny_bind (m:=checkCount "sorted" 1 1 _) (wpAny_pure ?_)
 refine wpAny_bind (kdu_collect (A:=A.in1) (kdl_dict (knd:=PySem.strKind prog w) (kvs:=kvs) (ep:=ep') hsys) hh hat (by refine QA hlen ?_;refine QB sizeLine_eq ?_;exact ow52 hz) λh' tk acc hk hacc=>?_)
 have hl2:acc.toList.length=kvs.length:=by refine QJ Array.length_toList ?_;exact hacc.1
 refine wpAny_bind (wpAny_newList ?_ (by refine QA hl2 ?_;refine QA hlen ?_;refine QB sizeLine_eq ?_;exact ow52 hz))
 have hS:StrsAre acc.toList ss:=by
  have:acc.toList.map strOf=ss:=by
   apply List.ext_getElem?
   intro j
   refine QJ List.getElem?_map ?_
   by_cases hj:j<acc.toList.length
   ·refine cX (hacc.2 j acc.toList[j] (by refine QJ Array.getElem?_toList.symm ?_;exact (List.getElem?_eq_getElem hj))) λk x hx hkk=>?_
    refine oE (Value.isStrOf_shape (show Value.isStrOf k acc.toList[j]=true from hkk)) λt ht=>?_
    refine QC (List.getElem?_eq_getElem hj) ?_;refine ht.symm▸?_
    have h1:(es.map (·.1))[j]?=some (Key.s k):=by refine hsr.keys.symm▸?_;refine QJ List.getElem?_map ?_;refine QC hx ?_;rfl
    rw [←hkeys,List.getElem?_map] at h1
    refine oEA (Option.map_eq_some_iff.mp h1) λy hy e=>?_
    cases e
    refine QR hy ?_;rfl
   ·refine QC (List.getElem?_eq_none (TF hj)) ?_;refine QR (List.getElem?_eq_none (ow51 hlen hl2 hj)) ?_;rfl
  rw [←this]
  exact strsAre_map _ λv hv=>by
   refine oE (List.getElem?_of_mem hv) λj hj=>?_
   refine cX (hacc.2 j v (by refine QJ Array.getElem?_toList.symm ?_;exact hj)) λk x hx hkk=>?_
   refine oE (Value.isStrOf_shape (show Value.isStrOf k v=true from hkk)) λt ht=>?_
   exact (iEE k t ht)
 have hD:(h'.push {cls:= .type "list",data:= .seq acc.toList.toArray}).get? h'.objs.size=some (seqObj "list" acc.toList.toArray 0):=Heap.get?_push_size _ rfl
 refine wpAny_bind (wpAny_holding (wpAny_call_entry slot_list_sort (iEA _ hD rfl) entry_list_sort (list_sort_treeK strKind_oneLt (s:={s with heap:=h'.push {cls:= .type "list",data:= .seq acc.toList.toArray},toks:=tk}) hD hS.keysOf
  (λv₁ v₂ rest e=>keyKind_strs (by rw [←e];exact hS)) (by refine QE hl2 ?_;refine QE hlen ?_;exact hz) λst' hp hs'=>(iEA _ rfl ?_)) (args_list_sort _)))
 refine eV (sorted_out_str hS hp hs') λss' h1 h2 h3=>?_
 refine wpAny_pure (iEA _ rfl ?_)
 have hu:ss'=cI ss:=rX (h2.trans (p6 ss).symm) (p5 _ h3) (mL ss)
 subst hu
 refine oE (sortedHeap_at (out:=(arrOf st').map (·.2)) hD) λe he=>?_
 have hks:∀b o,s.heap.get? b=some o→(sortedHeap (h'.push {cls:= .type "list",data:= .seq acc.toList.toArray}) h'.objs.size acc.toList ((arrOf st').map (·.2))).get? b=some o:=λ b o q=>by
  have q':=hk b o q
  have hlt:=Heap.lt_size q'
  rw [sortedHeap_old (Nat.ne_of_lt hlt) (by rw [size_push'];exact Nat.lt_succ_of_lt hlt)]
  exact Heap.get?_push_of_some _ q'
 have hn:s.heap.get? h'.objs.size=none:=by
  cases q:s.heap.get? h'.objs.size with
  |none=>rfl
  |some o=>have:=hk _ _ q;rw [dC h'] at this;exact ns this
 have hg:(sortedHeap (h'.push {cls:= .type "list",data:= .seq acc.toList.toArray}) h'.objs.size acc.toList ((arrOf st').map (·.2))).get? h'.objs.size=some (listOf ((arrOf st').map (·.2)).toList.toArray e):=by rw [he,Array.toArray_toList]
 have fin:=KV.newList (s:=s) (tk:=tk) i h hks hn hg (yE W h1) ?_
 ·exact fin
 refine oE i.three λo3 q3=>?_
 exact Nat.lt_trans (by decide:1<3) (Heap.lt_size (hk _ _ (i.im _ _ (i.base _ _ q3))))
section
variable {r:V×Hp} {v:V} {c:Value} {Q:TQ}
theorem OF(i:Inv w b0 W H s.heap)(ha:VRel W v c)(e:((dY v).bind λ i=>some (V.int i,H))=some r)(h:KV w b0 W s r.1 r.2 Q):wpAny (model prog w) A (call (.type "int") [c]) Q E s:=by
 refine oEA (bN e) λn qv e=>?_
 have z9:=Option.some.inj e;clear e;subst z9
 refine oE ((cG qv▸ha).inv) λt z1=>?_;subst z1
 exact call_int_int (h.here i (.int _ t) s.toks)
theorem OE(i:Inv w b0 W H s.heap)(ha:VRel W v c)(e:((dY v).bind λ i=>if 0≤i∧i<10 then some (V.str (Str.ofString (toString i.toNat)),H) else none)=some r)(h:KV w b0 W s r.1 r.2 Q):wpAny (model prog w) A (call (.type "str") [c]) Q E s:=by
 refine oEA (bN e) λn qv e=>?_
 refine oA (d3 e) λhz e=>?_
 have z9:=Option.some.inj e;clear e;subst z9
 refine oE ((cG qv▸ha).inv) λt z1=>?_;subst z1
 refine str_of_int_fit (N:=10) (by split<;>omega) (by decide) λU=>?_
 have:toString n=toString n.toNat:=by
  refine oE (Int.eq_ofNat_of_zero_le hz.1) λm z1=>?_;subst z1
  rfl
 rw [this]
 exact h.here i (.str _ _) _
theorem DH(i:Inv w b0 W H s.heap)(ha:VRel W v c)(e:((dY v).bind λ i=>if 0≤i∧i<1000 then some (V.bytes (Array.replicate i.toNat 0),H) else none)=some r)(h:KV w b0 W s r.1 r.2 Q):wpAny (model prog w) A (call (.type "bytes") [c]) Q E s:=by
 refine oEA (bN e) λn qv e=>?_
 refine oA (d3 e) λhz e=>?_
 have z9:=Option.some.inj e;clear e;subst z9
 refine oE ((cG qv▸ha).inv) λt z1=>?_;subst z1
 exact rH hz.1 hz.2 λt' tk=>h.here i (.bytes _ _) tk
theorem DG(i:Inv w b0 W H s.heap)(ha:VRel W v c)(e:((dY v).bind λ i=>if 0≤i∧i<2^31 then some (V.rng i.toNat,H) else none)=some r)(h:KV w b0 W s r.1 r.2 Q):wpAny (model prog w) A (call (.type "range") [c]) Q E s:=by
 refine oEA (bN e) λn qv e=>?_
 refine oA (d3 e) λhz e=>?_
 have z9:=Option.some.inj e;clear e;subst z9
 refine oE ((cG qv▸ha).inv) λt z1=>?_;subst z1
 refine call_range_1 ?_
 have hf:=i.fresh
 have hg:(s.heap.push {cls:= .type "range",data:= .fields #[.int 0 s.toks,.int n t,.int 1 (s.toks+1)]}).get? s.heap.objs.size=some {cls:= .type "range",data:= .fields #[.int 0 s.toks,.int n t,.int 1 (s.toks+1)]}:=Heap.get?_push_size _ rfl
 have hn:((n.toNat:Nat):Int)=n:=Int.toNat_of_nonneg hz.1
 refine h _ (W.put s.heap.objs.size {cls:= .type "range",data:= .fields #[.int 0 s.toks,.int n t,.int 1 (s.toks+1)]}) _ (((Step.of_keeps λ a o e=>Heap.get?_push_of_some _ e:Step W s.heap W (s.heap.push _))).put (dC _) hf.2) ((i.push1 _).put hg hf.2 hf.1) ?_ rfl
 refine .rng (t:=s.toks) (u:=t) (v:=s.toks+1) ?_
 rw [Wd.put_at,hn]
theorem G6(i:Inv w b0 W H s.heap)(ha:VRel W v c)(e:((iO v).bind λ vs=>if vs.length≤1000 then some (V.loc H.length,H++[.list vs]) else none)=some r)(h:KV w b0 W s r.1 r.2 Q):wpAny (model prog w) A (call (.type "list") [c]) Q E s:=by
 refine oEA (bN e) λvs qv e=>?_
 refine oA (d3 e) λhz e=>?_
 have z9:=Option.some.inj e;clear e;subst z9
 refine bF (gM (fW qv▸ha)) λcs p o n h1 h2 h3 h4 z1=>?_;subst z1
 refine call_list_seq p (.inr rfl) (i.im _ _ h1) h2 h3 (λh' c' hk hg=>?_) (by rw [List.size_toArray,←h4.length];exact Nat.le_trans hz (by decide))
 exact KV.newList i h hk (dC _) hg h4 i.one
theorem G7 (i:Inv w b0 W H s.heap) (hh:A.handled=none) (hu:A.units+8<cLine) (ha:VRel W v c) (e:((iX v).bind λl=>onO none (λvs=>(d2 vs).bind λps=>if ps.length≤1000 then (c9 ps []).map λes=>(V.loc H.length,H++[O.dict es es.length]) else none)
  (λ es U=>if es.length≤1000∧cS es=true then some (V.loc H.length,H++[O.dict es 0]) else none) (λ U=>none) (λ U=>none) H[l]?)=some r) (h:KV w b0 W s r.1 r.2 Q):wpAny (model prog w) A (call (.type "dict") [c]) Q E s:=by
 refine oEA (bN e) λl qv e=>?_
 have hx:=fZ qv▸ha
 rcases fN e with ⟨vs,hl,e⟩|⟨es,ep,hl,e⟩
 ·refine oEA (bN e) λps hp e=>?_
  refine oA (d3 e) λhz e=>?_
  refine oEA (lQ e) λes he z1=>?_;subst z1
  exact pI i hh hu hl hx hp hz he h
 ·refine oA (d3 e) λhz e=>?_
  have z9:=Option.some.inj e;clear e;subst z9
  refine iS (uX (prog:=prog) i hl hx hz.2) λa kvs off z1 hsys hρ hD hsr=>?_;subst z1
  have hnd:(es.map (·.1)).Nodup:=by
   refine cQ (iD i hl hx) λU U U U U d=>?_
   exact d.nd
  refine kt_call_dict hsys hD (by rw [←hsr.length];exact Nat.le_trans hz.1 (by decide)) λh' hm sb=>?_
  refine KV.newDict i h (λb o q=>?_) (dC _) hm hsr hz.2 hnd i.one
  exact (sb.2 b (Nat.ne_of_lt (Heap.lt_size q))).trans (Heap.get?_push_of_some _ q)
theorem US (i:Inv w b0 W H s.heap) (ha:VRel W v c) (e:((iX v).bind λl=>onO none (λvs=>if vs.length<2^31 then some (V.int vs.length,H) else none) (λes U=>if es.length<2^31∧cS es=true then some (V.int es.length,H) else none) (λU=>none) (λU=>none) H[l]?)=some r)
  (h:KV w b0 W s r.1 r.2 Q):wpAny (model prog w) A (call (.builtin "len") [c]) Q E s:=by
 refine oEA (bN e) λl qv e=>?_
 have hx:=fZ qv▸ha
 rcases fN e with ⟨vs,hl,e⟩|⟨es,ep,hl,e⟩
 ·refine oA (d3 e) λhz e=>?_
  have z9:=Option.some.inj e;clear e;subst z9
  refine cD (dL i (dP hl) hx) λp off cs n z1 e1 e2 e3=>?_;subst z1
  have hsz:cs.toArray.size=vs.length:=e3.length.symm
  refine call_len_list (b7 e2) (by rw [hsz];exact ow50 hz) ?_
  rw [hsz]
  exact h.here i (.int _ _) _
 ·refine oA (d3 e) λhz e=>?_
  have z9:=Option.some.inj e;clear e;subst z9
  refine iS (uX (prog:=prog) i hl hx hz.2) λa kvs off z1 hsys hρ hD hsr=>?_;subst z1
  have hlen:=hsr.length
  refine call_len_dict hsys hD (by omega) ?_
  rw [←hlen]
  exact h.here i (.int _ _) _
theorem C7 (i:Inv w b0 W H s.heap) (hh:A.handled=none) (ha:VRel W v c) (e:((iX v).bind λl=>onO none (λU=>none) (λes U=>(jE (es.map λe=>iZ e.1)).bind λss=>if ss.length<64 then some (V.loc H.length,H++[O.list ((cI ss).map .str)]) else none) (λU=>none) (λU=>none) H[l]?)=some r)
  (h:KV w b0 W s r.1 r.2 Q):wpAny (model prog w) A (call (.builtin "sorted") [c]) Q E s:=by
 refine oEA (bN e) λl qv e=>?_
 rcases fN e with ⟨_,_,e⟩|⟨es,ep,hl,e⟩
 ·exact ns e
 ·refine oEA (bN e) λss hs e=>?_
  refine oA (d3 e) λhz e=>?_
  have z9:=Option.some.inj e;clear e;subst z9
  exact nZ i hh hl (fZ qv▸ha) hs hz h
end
theorem sE {f:Value} {args:TL} {cargs:List Value} {r:V×Hp} (i:Inv w b0 W H s.heap) (hh:A.handled=none) (hu:A.units+8<cLine) (e:aD H f args=some r) (ha:VRels W args cargs)
  {Q:TQ} (h:KV w b0 W s r.1 r.2 Q):wpAny (model prog w) A (call f cargs) Q E s:=by
 refine oEA (nP e) λv z1 e=>?_;subst z1
 refine oEA ha.oneI λc z1 hv=>?_;subst z1
 cases f with
 |type n=>
  rcases CD e with ⟨q,e⟩|⟨_,e⟩
  ·exact q▸OF i hv e h
  rcases CD e with ⟨q,e⟩|⟨_,e⟩
  ·exact q▸OE i hv e h
  rcases CD e with ⟨q,e⟩|⟨_,e⟩
  ·exact q▸DH i hv e h
  rcases CD e with ⟨q,e⟩|⟨_,e⟩
  ·exact q▸DG i hv e h
  rcases CD e with ⟨q,e⟩|⟨_,e⟩
  ·exact q▸G6 i hv e h
  refine oA (d3 e) λq e=>?_
  exact q▸G7 i hh hu hv e h
 |builtin n=>
  rcases CD e with ⟨q,e⟩|⟨_,e⟩
  ·exact q▸US i hv e h
  refine oA (d3 e) λq e=>?_
  exact q▸C7 i hh hv e h
 |_=>exact ns e
end
end
section
section variable {args:List Expr} {name:Str} {f:Value}
variable {prog:Program} {w:World} {K:Frag} {A:Around} {E:TQ} {s:Shared} {env:Env} {pos:Pos}
theorem sN{e:Expr}{rest:List Expr}(h:noStar (e::rest)=true):starEach (e::rest) env=(false,eval e env)::starEach rest env∧noStar rest=true:=by
 cases e<;>first|exact ⟨rfl,h⟩|cases h
theorem lL{pos:Pos}{env:Env}:∀{args:List Expr},noStar args=true→(backTo pos (starEach args env)).any (·.1)=false∧(backTo pos (starEach args env)).all (λx=>!x.1)=true
 |[],_=>⟨rfl,rfl⟩
 |e::rest,h=>by
  refine oA (sN (env:=env) h) λh1 h2=>?_
  refine oA (lL (pos:=pos) (env:=env) h2) λa b=>?_
  rw [h1]
  refine ⟨?_,?_⟩
  ·show (false || (backTo pos (starEach rest env)).any (·.1))=false
   rw [a];rfl
  ·show (true&&(backTo pos (starEach rest env)).all (λx=>!x.1))=true
   rw [b];rfl
theorem B8(hf:bB K f=true)(h:Heap)(X:K.In h):∃k,(k=Keeper.frame∨k=Keeper.machine∨k=Keeper.boundFrame)∧Looks (model prog w) h (keeperOf f) k:=by
 cases f with
 |ref a=>exact keeps_K (show keepIn K (.ref a)=true from hf) h X
 |builtin id=>exact (iEA .machine (.inr (.inl rfl)) (Looks.of_pure rfl))
 |type T=>exact (iEA .machine (.inr (.inl rfl)) (Looks.of_pure rfl))
 |_=>cases hf
theorem rC(hn:noStar args=true){Q:Args→Shared→Prop}(h:wpAny (model prog w) A (spliced (backTo pos (starEach args env))) (λvs s'=>Q ⟨vs,[]⟩ s') E s):
  wpAny (model prog w) A (evalArgs f true (backTo pos (starEach args env)) []) Q E s:=by
 cases args with
 |nil=>
  unfold evalArgs
  show wpAny _ A (spliced [] >>= _) Q E s
  have h':wpAny (model prog w) A (spliced []) (λvs s'=>Q ⟨vs,[]⟩ s') E s:=h
  refine wpAny_bind (wpAny_mono h' (λvs s' hq=>wpAny_bind (wpAny_pure ?_)) λU U e=>e)
  refine wpAny_holding ?_
  exact wpAny_bind (wpAny_pure (wpAny_bind (wpAny_pure (wpAny_pure hq))))
 |cons e rest=>
  refine oA (sN (env:=env) hn) λh1 h2=>?_
  rw [h1] at h ⊢
  exact evalArgs_plain h
theorem xO {first:List Value} (hf:bB K f=true) (hn:noStar args=true) {Q:TQ}
  (h:wpAny (model prog w) A (spliced (backTo pos (starEach args env))) (λvs s1=>K.In s1.heap∧wpAny (model prog w) A (call f (first++vs)) Q E s1) E s):
  wpAny (model prog w) A (callWith pos f first (backTo pos (starEach args env)) []) Q E s:=
 callWith_of (by rw [(lL (pos:=pos) (env:=env) hn).1];rfl) (B8 hf) (rC hn h)
noncomputable def uB:Expr→Bool
 | .Attribute .. =>false
 |_=>true
theorem C8{f:Expr}(h:l0 f=none):uB f=true:=by cases f<;>first|rfl|exact nomatch h
theorem pH{f:Expr}{p:Pos}(h:uB f=true):eval (.Call f args [] p) env=(do callWith p (←eval f env) [] (backTo p (starEach args env)) []):=by
 cases f<;>first|rfl|cases h
theorem oB {o:Expr} {apos:Pos} (hp:fX o=true) (hl:(apos.endLine==pos.line)=true) (hn:noStar args=true) (hlen:args.length≤24) {Q:TQ}
  (h:wpAny (model prog w) A (eval o env) (λov s1=>∀pl,wpAny (model prog w) A (getMethod ov name pl) (λr s2=>wpAny (model prog w) A (callWith pos r.1 r.2 (backTo pos (starEach args env)) []) Q E s2) E s1) E s):
  wpAny (model prog w) A (eval (.Call (.Attribute o name apos) args [] pos) env) Q E s:=by
 rw [arm_eval_Call,rJ hp]
 refine wpAny_bind (wpAny_mono h (λov s1 h1=>?_) λU U e=>e)
 refine wpAny_bind (wpAny_standAt ?_)
 have hform:methodCallForm (args.length+([]:List Keyword).length) (backTo pos (starEach args env)) (backToKw pos (keywordEach [] env))=true:=by
  unfold methodCallForm
  rw [(lL (pos:=pos) (env:=env) hn).2]
  show (true&&([]:List (Option Str×Sem Value)).all (λx=>x.1.isSome)&&decide (args.length+0+0<30))=true
  simp;exact ow54 hlen
 have hpos:methodCallPos true o env apos pos=pure pos:=by unfold methodCallPos;simp [hl]
 unfold methodCall
 rw [hform]
 refine wpAny_bind (wpAny_holding ?_)
 show wpAny _ A (getMethod ov name _) _ _ _
 refine wpAny_mono (h1 _) (λr s2 h2=>?_) λU U e=>e
 exact wpAny_bind (wpAny_of_eq hpos h2)
variable {p:Program} {loose:TS} {mg mb:TM} {b0:Heap} {W:Wd} {H:Hp}
set_option tactic.hygienic true in
theorem EV(X:K.In s.heap)(i:Inv w b0 W H s.heap){name:Str}{C f:Addr}{fs:List (Str×V)}{co:Value}(e:dJ K name (C,fs)=some f)(ho:VRel W (.obj C fs) co){pl:Sem Bool}{Q:Value×List Value→Shared→Prop}(h:Q (.ref f,[co]) s):
  wpAny (model prog w) A (getMethod co name pl) Q E s:=by
 refine cD (AF ho) λa d es n z1 h1 h2 h3=>?_;subst z1
 unfold dJ at e
 split at e
 ·rename_i hl
  unfold EW at e
  split at e
  ·rename_i hg
   split at e
   ·rename_i g hf
    split at e
    ·rename_i hfn
     have z9:=Option.some.inj e;clear e;subst z9
     refine oA (plainGet_of hg) λg1 g2=>?_
     refine method_fn X (AM i h1 h2) g1 g2 hf (beq_iff_eq.mp hfn) ?_ h
     show (lookIn name (dictOf es n)).map _=_
     rw [lookIn_dict,CO h3 hl];rfl
    ·exact ns e
   ·exact ns e
  ·exact ns e
 ·exact ns e
theorem BZ{id:String}{a:Addr}{cs:List Value}{n:Nat}(ho:s.heap.get? a=some (listOf cs.toArray n))(slot:Slot "list" name id)(hty:typeOf (.builtin id)=pure (.type "method_descriptor")){pl:Sem Bool}{Q:Value×List Value→Shared→Prop}(h:Q (.builtin id,[.ref a]) s):
  wpAny (model prog w) A (getMethod (.ref a) name pl) Q E s:=
 getMethod_builtin (iEA _ ho rfl) PySem.F.plainAttrs_list slot hty (λb e=>by cases e;exact (iEA _ ho rfl)) h
end
end
section
section variable {fd:FuncData} {args:TL} {cargs:List Value}
variable {prog:Program} {w:World} {K:Frag} {A:Around} {E:TQ} {s:Shared} {p:Program} {loose:TS} {mg mb:TM} {b0:Heap} {W:Wd} {H:Hp}
set_option tactic.hygienic true in
theorem CR{f:Addr}(X:K.In s.heap)(h:g9 K f=some fd):∃o,s.heap.get? f=some o∧o.data= .func fd:=by
 unfold g9 at h
 split at h
 ·rename_i a b fd' c hl
  cases h
  exact (iEA _ (X _ _ hl) rfl)
 ·cases h
structure FnOk (K:Frag) (fd:FuncData):Prop where
 gl:fd.globals=mainGlobals
 cl:fd.closure=[]
 bi:fd.builtins=builtinsNs
 po:fd.params.posonlyargs=[]
 ko:fd.params.kwonlyargs=[]
 va:fd.params.vararg=none
 kw:fd.params.kwarg=none
 code:codeIn K fd.code fd.qualname=true
 gen:fd.scope.isGenerator=false
 co:fd.scope.isCoroutine=false
 kind:fd.scope.kind= .function
 nd:(fd.scope.names.map (·.1)).Nodup
 and_:(fd.params.args.map (·.arg)).Nodup
theorem AR(h:uO K fd=true):FnOk K fd:=by
 unfold uO at h
 simp only [Bool.and_eq_true,beq_iff_eq,List.isEmpty_iff,Option.isNone_iff_eq_none,Bool.not_eq_true',decide_eq_true_eq] at h
 refine oA h λz1 h14=>?_;clear h;refine oA z1 λz2 h13=>?_;clear z1;refine oA z2 λz3 h12=>?_;clear z2;refine oA z3 λz4 h11=>?_;clear z3;refine oA z4 λz5 h10=>?_;clear z4;refine oA z5 λz6 h9=>?_;clear z5;refine oA z6 λz7 h8=>?_;clear z6;refine oA z7 λz8 h7=>?_;clear z7;refine oA z8 λz9 h6=>?_;clear z8;refine oA z9 λz10 h5=>?_;clear z9;refine oA z10 λz11 h4=>?_;clear z10;refine oA z11 λz12 h3=>?_;clear z11;refine oA z12 λh1 h2=>?_;clear z12
 exact ⟨h1,h2,h3,h4,h5,h6,h7,h8,h9,h10,h11,h12,h14⟩
theorem tN:∀{l:List Value} {ds:TL},l.mapM (fun| .none=>some V.none| .str s _=>some (V.str s)|_=>none)=some ds→VRels W ds l
 |[],ds,h=>by cases h;exact .nil
 |v::r,ds,h=>by
  rw [List.mapM_cons] at h
  simp only [Option.bind_eq_bind,Option.bind_eq_some_iff,Option.pure_def,Option.some.injEq] at h
  refine NV h λx h1 y h2 z2=>?_;clear h;subst z2
  refine .cons ?_ (tN h2)
  split at h1
  ·cases h1;exact .none
  ·cases h1;exact .str _ _
  ·cases h1
set_option tactic.hygienic true in
theorem zH{ds:TL}(X:K.In s.heap)(h:jL K fd=some ds):∃r:Option (Array Value),(∀Q':Option (Array Value)→Shared→Prop,Q' r s→wpAny (model prog w) A (seqItems? fd.defaults) Q' E s)∧VRels W ds (r.getD #[]).toList:=by
 unfold jL at h
 split at h
 ·rename_i hd
  cases h
  rw [hd]
  exact (iEA none (λQ' q=>wpAny_of_eq (a:=none) rfl q) .nil)
 ·rename_i a hd
  split at h
  ·rename_i vs n sl hl
   rw [hd]
   refine (iEA (some vs) (λQ' q=>?_) (tN h))
   show wpAny _ A (load a >>= _) Q' E s
   refine wpAny_bind (wpAny_load (X _ _ hl) ?_)
   exact wpAny_pure q
  ·cases h
 ·cases h
theorem tT{α β:Type}:∀{a:List α} {b:List β},b.length≤a.length→(a.zip b).map (·.2)=b
 |_,[],_=>by simp
 |[],b::r,h=>by simp at h
 |a::q,b::r,h=>by rw [List.zip_cons_cons,List.map_cons,tT (by simpa using h)]
theorem tU{α β:Type}:∀{a:List α} {b:List β},a.length≤b.length→(a.zip b).map (·.1)=a
 |[],_,_=>by exact rfl
 |a::q,[],h=>by simp at h
 |a::q,b::r,h=>by rw [List.zip_cons_cons,List.map_cons,tU (by simpa using h)]
theorem zK{bs:Lc}(X:K.In s.heap)(ok:FnOk K fd)(h:hM K fd args=some bs)(ha:VRels W args cargs):
  ∃cvs,VRels W (bs.map (·.2)) cvs∧(∀Q:List (Str×Value)→Shared→Prop,Q ((bs.map (·.1)).zip cvs) s→wpAny (model prog w) A (bindArgs fd ⟨cargs,[]⟩) Q E s):=by
 have hlen:=ha.length
 unfold hM at h
 dsimp only at h
 simp only [Option.bind_eq_some_iff] at h
 refine oEA h λds hd h=>?_
 refine oEA (zH (prog:=prog) (w:=w) (A:=A) (E:=E) (W:=W) X hd) λr h1 h2=>?_
 have hdl:=h2.length
 split at h
 ·rename_i hl
  cases h
  rw [List.length_map] at hl
  refine (iEA cargs (by rw [tT (by rw [List.length_map];exact ow64 hl)];exact ha) (λQ q=>?_))
  rw [tU (by rw [List.length_map];exact ow63 hl)] at q
  refine tP ok.po ok.ko ok.va ok.kw ok.and_ (ow62 hlen hl) h1 rfl (ow61 hlen hl) ?_
  have hlt:((r.getD #[]).toList.drop ((r.getD #[]).toList.length - fd.params.args.length)).length≤cargs.length+((r.getD #[]).toList.drop ((r.getD #[]).toList.length - fd.params.args.length)).length - fd.params.args.length:=(ow60 hlen hl)
  rw [List.drop_eq_nil_of_le hlt,List.append_nil]
  exact q
 ·split at h
  ·rename_i hl1 hl2
   cases h
   rw [List.length_map] at *
   have hD:(r.getD #[]).toList.drop ((r.getD #[]).toList.length - fd.params.args.length)=(r.getD #[]).toList:=by
    rw [show (r.getD #[]).toList.length - fd.params.args.length=0 from ow59 hl2 hdl,List.drop_zero]
   refine (iEA (cargs++(r.getD #[]).toList.drop (cargs.length+(r.getD #[]).toList.length - fd.params.args.length)) ?_ (λQ q=>?_))
   ·rw [tT (by rw [List.length_map,List.length_append,List.length_drop];exact ow58 hl2),←hdl,←hlen]
    exact ha.append (h2.drop _)
   ·rw [tU (by rw [List.length_map,List.length_append,List.length_drop];exact ow57 hl2)] at q
    exact tP ok.po ok.ko ok.va ok.kw ok.and_ (ow56 hl2 hlen) h1 hD.symm (ow55 hl2 hlen hdl) q
  ·cases h
set_option tactic.hygienic true in
theorem rE {f:Addr} {body:List Stmt} {bs lc:Lc} {H':Hp} {hd:Bool} {R:Result→Shared→Prop} (B:Bas p loose mg mb K b0) (i:Inv w b0 W H s.heap) (hfd:g9 K f=some fd) (hok:uO K fd=true) (hbs:hM K fd args=some bs) (hbody:lZ fd=some body)
  (hba:eZ ⟨fd.scope,cellsFor fd.scope H.length,hd⟩ bs [] (H++(cellsFor fd.scope H.length).map λU=> .cell none)=some (lc,H')) (ha:VRels W args cargs) (hroom:A.depth<recursionLimit)
  (h:∀env W' s',env.frame=some env.locals→St w b0 W s.heap ⟨fd.scope,cellsFor fd.scope H.length,hd⟩ lc env W' H' s'.heap→Same s s'→codeAny (model prog w) A (.func body env) R s'):
  codeAny (model prog w) A (.call (.ref f) ⟨cargs,[]⟩) R s:=by
 have X:=B.X.keeps i.kb
 have ok:=AR hok
 refine oEA (CR X hfd) λo ho hd'=>?_
 have hb:fd.body= .stmts body:=by
  unfold lZ at hbody
  split at hbody
  ·rename_i b hb;cases hbody;exact hb
  ·cases hbody
 refine codeAny_call_function hroom ho hd' ok.co ok.gen hb (codeRec_of X ok.code) ?_
 refine oEA (zK (prog:=prog) (w:=w) (A:=A.in1) (E:=λe s'=>R (.error e) s') X ok hbs ha) λcvs hr hbind=>?_
 refine hbind _ ?_
 rw [ok.gl,ok.cl,ok.bi]
 refine uF i ok.kind ok.nd hr hba λenv W' s' hf hs st sm=>⟨B.lim.keeps st.inv.kb,h env W' s' hf st sm⟩
end
end
section variable {I:Addr} {h:Heap} {H₀:Hp} {i l:Nat} {a:V} {W:Wd}
theorem sameAt_is{o:O}{H:Hp}:lM l o H=true↔H[l]?=some o:=@decide_eq_true_iff _ (Classical.propDecidable _)
inductive rU (H:Hp):V→TL→(Hp→Bool)→Prop
 |list {l:Nat} {vs:TL}:H[l]?=some (.list vs)→rU H (.loc l) vs (lM l (.list vs))
 |dict {l:Nat} {es:TG} {ep:Nat}:H[l]?=some (.dict es ep)→cS es=true→rU H (.loc l) (es.map λe=>iZ e.1) (lM l (.dict es ep))
 |tup {vs:TL}:rU H (.tup vs) vs (λU=>true)
 |rng {n:Nat}:n<2^31→rU H (.rng n) ((List.range n).map λ(i:Nat)=> .int i) (λU=>true)
theorem nV{H:Hp}{items:TL}{chk:Hp→Bool}(e:dQ H a=some (items,chk)):rU H a items chk:=by
 cases a with
 |loc l=>
  rcases fN (show onO none _ _ _ _ _=_ from e) with ⟨vs,hl,e⟩|⟨es,ep,hl,e⟩
  ·refine oA (Prod.mk.inj (Option.some.inj e)) λz1 z2=>?_;subst z1 z2;exact .list hl
  ·refine oA (d3 e) λhs e=>?_
   refine oA (Prod.mk.inj (Option.some.inj e)) λz1 z2=>?_;subst z1 z2;exact .dict hl hs
 |tup vs=>refine oA (Prod.mk.inj (Option.some.inj e)) λz1 z2=>?_;subst z1 z2;exact .tup
 |rng n=>
  refine oA (d3 e) λhn e=>?_
  refine oA (Prod.mk.inj (Option.some.inj e)) λz1 z2=>?_;subst z1 z2;exact .rng hn
 |_=>exact ns e
noncomputable def ItAt(W:Wd)(H₀:Hp)(a:V)(h:Heap)(I:Addr)(i:Nat):Prop:=V.casesOn a False (λ U=>False) (λ U=>False) (λ U=>False) (λ U=>False) (λ vs=>∃t o n cvs,W.I t=some o∧o.cls= .type "tuple"∧o.data= .seq cvs.toArray n∧VRels W vs cvs∧h.IsTupleIter I t i) (λ U U=>False)
 (λl=>onO False (λU=>∃ax off,W.ρ[l]?=some (ax,off)∧h.IsListIter I ax i) (λes ep=>∃ax off,W.ρ[l]?=some (ax,off)∧h.IsKeyIter I ax i es.length (ep+off)) (λU=>False) (λU=>False) H₀[l]?) (λn=>IsRangeIter h I (i:Int) ((n:Int) - i) 1) λU=>False
theorem ItAt.ofList{vs:TL}(hl:H₀[l]?=some (.list vs)):ItAt W H₀ (.loc l) h I i=∃ax off,W.ρ[l]?=some (ax,off)∧h.IsListIter I ax i:=by
 show onO _ _ _ _ _ H₀[l]?=_;rw [hl];rfl
theorem ItAt.ofDict{es:TG}{ep:Nat}(hl:H₀[l]?=some (.dict es ep)):ItAt W H₀ (.loc l) h I i=∃ax off,W.ρ[l]?=some (ax,off)∧h.IsKeyIter I ax i es.length (ep+off):=by
 show onO _ _ _ _ _ H₀[l]?=_;rw [hl];rfl
noncomputable def isIt(o:Obj):Prop:=(o.cls= .type "list_iterator"∨o.cls= .type "dict_keyiterator"∨o.cls= .type "tuple_iterator"∨o.cls= .type "range_iterator")∧∃vs,o.data= .fields vs
theorem ItAt.kinds(x:ItAt W H₀ a h I i):(∃ax,h.IsListIter I ax i)∨(∃ax n e,h.IsKeyIter I ax i n e)∨(∃t,h.IsTupleIter I t i)∨∃p q,IsRangeIter h I p q 1:=by
 cases a with
 |loc l=>
  have x:onO False _ _ _ _ H₀[l]? :=x
  cases q:H₀[l]? with
  |none=>rw [q] at x;exact False.elim x
  |some o=>
   rw [q] at x
   cases o with
   |list _=>refine cX x λax U U x=>?_;exact .inl ⟨ax,x⟩
   |dict _ _=>refine cX x λax U U x=>?_;exact .inr (.inl (CJ ax _ _ x))
   |_=>exact False.elim x
 |tup _=>refine bF x λt U U U U U U U x=>?_;exact .inr (.inr (.inl ⟨t,x⟩))
 |rng _=>exact .inr (.inr (.inr (iEE _ _ x)))
 |_=>exact False.elim x
theorem ItAt.obj(x:ItAt W H₀ a h I i):∃o,h.get? I=some o∧isIt o:=by
 rcases x.kinds with ⟨_,o,e,c,d⟩|⟨_,_,_,o,e,c,d⟩|⟨_,o,e,c,d⟩|⟨_,_,x⟩
 ·exact (cM o e (.inl c) ⟨_,d⟩)
 ·exact (cM o e (.inr (.inl c)) ⟨_,d⟩)
 ·exact (cM o e (.inr (.inr (.inl c))) ⟨_,d⟩)
 ·exact (cM _ x (.inr (.inr (.inr rfl))) ⟨_,rfl⟩)
theorem ItAt.up{W':Wd}{h':Heap}(x:ItAt W H₀ a h I i)(sb:Sub W W')(k:∀o,h.get? I=some o→h'.get? I=some o):ItAt W' H₀ a h' I i:=by
 cases a with
 |loc l=>
  have x:onO False _ _ _ _ H₀[l]? :=x
  cases q:H₀[l]? with
  |none=>rw [q] at x;exact False.elim x
  |some o=>
   cases o with
   |list _=>rw [ItAt.ofList q];rw [q] at x;refine EL x λax off e o ho r=>?_;clear x;exact (dS ax off (sb.at e) (iEA o (k _ ho) r))
   |dict _ _=>rw [ItAt.ofDict q];rw [q] at x;refine EL x λax off e o ho r=>?_;clear x;exact (dS ax off (sb.at e) (iEA o (k _ ho) r))
   |_=>rw [q] at x;exact False.elim x
 |tup _=>refine bF x λt o n cvs h1 h2 h3 h4 z1=>?_;clear x;refine oEA z1 λo' ho r=>?_;clear z1;exact (bW t o n cvs (sb.sub _ _ h1) h2 h3 (h4.up sb) (iEA o' (k _ ho) r))
 |rng _=>exact k _ x
 |_=>exact False.elim x
section variable {I:Addr} {chk:Hp→Bool} {items:TL} {k:Nat} {a:V}
variable {prog:Program} {w:World} {A:Around} {E:TQ} {s:Shared} {b0:Heap} {W:Wd} {H H₀:Hp}
theorem BH{es:TG}(h:cS es=true){i:Nat}{v:V}(e:(es.map λe=>iZ e.1)[i]?=some v):∃x u,es[i]?=some (.s x,u)∧v= .str x:=by
 rw [List.getElem?_map] at e
 obtain ⟨⟨k,u⟩,h1,h2⟩:=Option.map_eq_some_iff.mp e
 have:=List.all_eq_true.mp h _ (List.mem_of_getElem? h1)
 cases k with
 |s x=>exact (dS x u h1 h2.symm)
 |p=>cases this
theorem uY{l:Nat}{es:TG}{ep:Nat}{ax off:Nat}(i:Inv w b0 W H s.heap)(hl:H[l]?=some (.dict es ep))(hρ:W.ρ[l]?=some (ax,off))(hs:cS es=true):∃kvs,(ax==sysModules)=false∧s.heap.DictAt (PySem.strKind prog w) ax kvs (ep+off)∧SRel W es kvs:=by
 refine cQ (iD i hl (.loc hρ)) λa off' ces e' hρ' d=>?_
 have z9:=Value.ref.inj e';subst z9
 refine oA (Prod.mk.inj (Option.some.inj (hρ.symm.trans hρ'))) λU z1=>?_;subst z1
 refine oEA (zY (prog:=prog) d.rel hs) λkvs h1 h2=>?_
 exact (cM kvs (yU d.big) (eI _ _ d.at_ (iAA rfl rfl rfl) rfl (d.rel.keysOf λe he=>List.all_eq_true.mp hs e he) ⟨h2,h1.nodup d.nd⟩) h1)
theorem qZ {c:Value} (i:Inv w b0 W H s.heap) (ha:VRel W a c) (e:dQ H a=some (items,chk)) {Q:TQ}
  (h:∀I o,s.heap.get? I=none→isIt o→ItAt W H a (s.heap.push o) I 0→I=s.heap.objs.size→Q (.ref I) {s with heap:=s.heap.push o}):wpAny (model prog w) A (pyIter c) Q E s:=by
 cases nV e with
 |@list l vs hl=>
  refine cD (dL i (dP hl) ha) λp off cs n z1 e1 e2 e3=>?_;subst z1
  exact wpAny_pyIter_list (b7 e2) (h _ _ (dC _) ⟨.inl rfl,_,rfl⟩ ((ItAt.ofList hl).mpr (dS p off e1 (cM _ (Heap.get?_push_size _ rfl) rfl rfl))) rfl)
 |@dict l es ep hl hs=>
  refine cX ha.inv λp off z1 hρ=>?_;subst z1
  refine eV (uY (prog:=prog) i hl hρ hs) λkvs hsys hat hsr=>?_
  refine wpAny_pyIter_dict hsys hat (h _ _ (dC _) ⟨.inr (.inl rfl),_,rfl⟩ ((ItAt.ofDict hl).mpr (dS p off hρ (cM _ (Heap.get?_push_size _ rfl) rfl ?_))) rfl)
  rw [hsr.length]
  rfl
 |tup=>
  refine bF (gM ha) λcvs t o n h1 h2 h3 h4 z1=>?_;subst z1
  exact wpAny_pyIter_tuple (fK i h1 h2 h3) (h _ _ (dC _) ⟨.inr (.inr (.inl rfl)),_,rfl⟩ (bW t o n cvs h1 h2 h3 h4 (cM _ (Heap.get?_push_size _ rfl) rfl rfl)) rfl)
 |@rng n hn=>
  refine jH ha.inv λa t u v z1 hr=>?_;subst z1
  have hsz:Builtin.Range.rangeSize 0 (n:Int) 1=n:=by
   rw [rangeSize_one];split<;>omega
  refine wpAny_pyIter_range (i.im _ _ hr) (small_one ow70 ow69 (ow68) (ow67 hn)) ?_
  rw [hsz]
  refine h _ _ (dC _) ⟨.inr (.inr (.inr rfl)),_,rfl⟩ ?_ rfl
  show (s.heap.push _).get? s.heap.objs.size=_
  rw [Heap.get?_push_size _ rfl]
  exact rfl
theorem tC {v:V} (i:Inv w b0 W H s.heap) (hI:I∉W.ads) (e:dQ H₀ a=some (items,chk)) (hc:chk H=true) (it:ItAt W H₀ a s.heap I k) (hv:items[k]?=some v) {Q:Option Value→Shared→Prop}
  (h:∀c h' tk,VRel W v c→ItAt W H₀ a h' I (k+1)→Heap.SameBut I s.heap h'→Q (some c) {s with heap:=h',toks:=tk}):wpAny (model prog w) A (pyNext (.ref I)) Q E s:=by
 cases nV e with
 |@list l vs hl=>
  have ho:=sameAt_is.mp hc
  rw [ItAt.ofList hl] at it
  refine cX it λax off hρ hit=>?_;clear it
  refine cD (dL i (dP ho) (.loc hρ)) λp off' cs n e0 e1 e2 e3=>?_
  have z9:=Value.ref.inj e0;subst z9
  refine oEA (e3.get _ _ hv) λc hcv hr=>?_
  exact wpAny_pyNext_list_item hit (b7 e2) (x:=c) (by simpa using hcv) λh' hit' sb=>h c h' s.toks hr ((ItAt.ofList hl).mpr (dS ax off hρ hit')) sb
 |@dict l es ep hl hs=>
  have ho:=sameAt_is.mp hc
  rw [ItAt.ofDict hl] at it
  refine cX it λax off hρ hit=>?_;clear it
  refine eV (uY (prog:=prog) i ho hρ hs) λkvs hsys hat hsr=>?_
  refine cX (BH hs hv) λx u hx z1=>?_;subst z1
  have hkx:(kvs.map λp=>Key.s p.1)[k]?=some (Key.s x):=by rw [←hsr.keys,List.getElem?_map,hx];rfl
  rw [List.getElem?_map] at hkx
  obtain ⟨⟨x',cv⟩,hq,e9⟩:=lQ hkx
  obtain rfl:x'=x:=Key.s.inj e9
  rw [hsr.length] at hit
  refine wpAny_pyNext_dict_item hit hat hq λkey h' hk hit' sb=>?_
  refine oE (Value.isStrOf_shape (show Value.isStrOf x' key=true from hk)) λt z1=>?_;subst z1
  rw [←hsr.length] at hit'
  exact h _ h' s.toks (.str x' t) ((ItAt.ofDict hl).mpr (dS ax off hρ hit')) sb
 |tup=>
  refine bF it λt o n cvs h1 h2 h3 h4 hit=>?_;clear it
  refine oEA (h4.get _ _ hv) λc hcv hr=>?_
  exact wpAny_pyNext_tuple_item hit (fK i h1 h2 h3) (x:=c) (by simpa using hcv) λh' hit' sb=>h c h' s.toks hr (bW t o n cvs h1 h2 h3 h4 hit') sb
 |@rng n hn=>
  have hlt:k<n:=by
   have:=(List.getElem?_eq_some_iff.mp hv).1
   simpa using this
  rw [List.getElem?_map,List.getElem?_range hlt] at hv
  have z9:=Option.some.inj hv;clear hv;subst z9
  have it:IsRangeIter s.heap I (k:Int) ((n:Int) - k) 1:=it
  refine wpAny_pyNext_range_item it (ow66 hlt) λh' hit' sb=>h _ h' _ (.int _ _) ?_ sb
  show IsRangeIter h' I ((k+1:Nat):Int) ((n:Int) - ((k+1:Nat):Int)) 1
  have e1:((k+1:Nat):Int)=(k:Int)+1:=by push_cast;rfl
  have e2:(n:Int) - ((k+1:Nat):Int)=(n:Int) - k - 1:=by push_cast;exact ow65
  rw [e2,e1];exact hit'
theorem wY (hh:A.handled=none) (i:Inv w b0 W H s.heap) (e:dQ H₀ a=some (items,chk)) (hc:chk H=true) (it:ItAt W H₀ a s.heap I k) (hv:k=items.length) {Q:Option Value→Shared→Prop}
  (h:∀h',Heap.ExtBut I s.heap h'→Q none {s with heap:=h'}):wpAny (model prog w) A (pyNext (.ref I)) Q E s:=by
 subst hv
 cases nV e with
 |@list l vs hl=>
  have ho:=sameAt_is.mp hc
  rw [ItAt.ofList hl] at it
  refine cX it λax off hρ hit=>?_;clear it
  refine cD (dL i (dP ho) (.loc hρ)) λp off' cs n e0 e1 e2 e3=>?_
  have z9:=Value.ref.inj e0;subst z9
  exact wpAny_pyNext_list_end hh hit (b7 e2) (by rw [e3.length];simp) h
 |@dict l es ep hl hs=>
  have ho:=sameAt_is.mp hc
  rw [ItAt.ofDict hl] at it
  refine cX it λax off hρ hit=>?_;clear it
  refine eV (uY (prog:=prog) i ho hρ hs) λkvs hsys hat hsr=>?_
  rw [List.length_map,hsr.length] at hit
  exact wpAny_pyNext_dict_end hh hit hat (by simp) h
 |tup=>
  refine bF it λt o n cvs h1 h2 h3 h4 hit=>?_;clear it
  exact wpAny_pyNext_tuple_end hh hit (fK i h1 h2 h3) (by rw [h4.length];simp) h
 |@rng n hn=>
  have it:IsRangeIter s.heap I (((List.range n).map λ(i:Nat)=>V.int i).length:Int) ((n:Int) - ((List.range n).map λ(i:Nat)=>V.int i).length) 1:=it
  exact wpAny_pyNext_range_end hh it (by simp) h
theorem EY(it:ItAt W H₀ a s.heap I k)(t:Expr)(c:Value){Q:Unit→Shared→Prop}(h:Q () s):wpAny (model prog w) A (letOwnedTupleGo t (.ref I) c) Q E s:=by
 refine eV it.obj λo ho hc z1=>?_;refine oE z1 λvs hd=>?_;clear z1
 have key:∀a',wpAny (model prog w) A (do
   let (.ref r,.ref a):=(Value.ref I,Value.ref a')|return
   let o ←load r
   match o.cls,o.data with
   | .type n,.fields vs=>
    if ["enumerate","zip","dict_itemiterator","dict_reverseitemiterator","odict_iterator","itertools.zip_longest","itertools.pairwise"].contains n&&vs[0]? ==some (rawInt a) then
     rule "for.unpacks-the-owned-tuple"
     updateField r 0 .none
   |_,_=>pure ():Sem Unit) Q E s:=by
  intro a'
  refine wpAny_bind (wpAny_load ho ?_)
  rw [hd]
  rcases hc with hc|hc|hc|hc<;>rw [hc]<;>exact wpAny_pure h
 unfold letOwnedTupleGo
 split
 ·cases c<;>first|exact wpAny_pure h|exact key _
 ·cases c<;>first|exact wpAny_pure h|exact key _
 ·exact wpAny_pure h
end
end
section variable {A:Around} {hd:Bool} {fr:List Env} {d n:Nat}
theorem bQ{α:Type}{o:Option α}{k:α→Res}{R:Res}(h:ob o k=R)(n:R≠ .stuck):∃a,o=some a∧k a=R:=by
 cases o with
 |some a=>exact (iEA a rfl h)
 |none=>exact absurd h.symm n
theorem bU{c:Bool}{r R:Res}(h:gd c r=R)(n:R≠ .stuck):c=true∧r=R:=by
 cases c with
 |true=>exact ⟨rfl,h⟩
 |false=>exact absurd h.symm n
structure Gd (d n:Nat) (hd:Bool) (fr:List Env) (A:Around):Prop where
 frames:A.frames=some fr
 dep:A.depth+2*n+20≤1000
 un:A.units+10*n+100≤9900
 calls:hd=false→A.depth+4*d+200≤1000∧A.units+30*d+1000≤9900∧A.handled=none
theorem Gd.le{n':Nat}(g:Gd d n hd fr A)(h:n'≤n):Gd d n' hd fr A:=⟨g.frames,by have:=g.dep;exact ow73 this h,by have:=g.un;exact ow72 this h,g.calls⟩
theorem Gd.hdt(g:Gd d n hd fr A)(h:hd=true):Gd d n true fr A:=h▸g
theorem Gd.u(g:Gd d n hd fr A):A.units+90<cLine:=by have:=g.un;rw [cLine_is];exact ow71 this
theorem Gd.up(g:Gd d n hd fr A):Gd d n true fr A:=⟨g.frames,g.dep,g.un,λh=>nomatch h⟩
section
variable (w:World) (b0:Heap)
noncomputable def GOk{α β:Type}(rel:Wd→α→β→Prop)(W:Wd)(s:Shared)(k:α→Hp→Res)(R:Res)(Q:β→Shared→Prop):Prop:=
 ∀v H' c W' s',k v H'=R→Step W s.heap W' s'.heap→Inv w b0 W' H' s'.heap→rel W' v c→Same s s'→Q c s'
abbrev KOk:=GOk w b0 VRel
abbrev LOk:=GOk w b0 VRels
abbrev POk:=GOk w b0 PRels
abbrev BOk:=GOk w b0 (λ_ (a b:Bool)=>a=b)
noncomputable def XOk(W:Wd)(s:Shared)(kx:TY)(R:Res)(E:TQ):Prop:=
 ∀c H' ea T a0 W' s',kx c H'=R→Step W s.heap W' s'.heap→Inv w b0 W' H' s'.heap→Fly s.heap W' s'.heap c ea T a0 .none→Same s s'→E (.ref ea) s'
end
section
variable {w:World} {b0:Heap} {W W':Wd} {s s':Shared} {R:Res}
theorem GOk.step{α β:Type}{rel:Wd→α→β→Prop}{k:α→Hp→Res}{Q:β→Shared→Prop}(h:GOk w b0 rel W s k R Q)(st:Step W s.heap W' s'.heap)(sm:Same s s'):GOk w b0 rel W' s' k R Q:=
 λv H' c W'' s'' e x i r m=>h v H' c W'' s'' e (st.trans x) i r (sm.trans m)
theorem Fly.earlier{W₀ W1 W:Wd}{h₀ h0 h:Heap}{c ea T:Addr}{a0 fl:Value}(r:Fly h0 W h c ea T a0 fl)(x:Step W₀ h₀ W1 h0):Fly h₀ W h c ea T a0 fl:=
 ⟨x.none_of r.newE,x.none_of r.newT,r.nE,r.nT,r.ne,r.exc,r.tb⟩
theorem XOk.step{kx:TY}{E:TQ}(h:XOk w b0 W s kx R E)(st:Step W s.heap W' s'.heap)(sm:Same s s'):XOk w b0 W' s' kx R E:=
 λc H' ea T a0 W'' s'' e x i f m=>h c H' ea T a0 W'' s'' e (st.trans x) i (f.earlier st) (sm.trans m)
theorem XOk.no(hR:R≠ .stuck)(E:TQ):XOk w b0 W s noX R E:=λc H' ea T a0 W'' s'' e=>(hR e.symm).elim
theorem GOk.kv{k:TV}{Q:TQ}(h:KOk w b0 W s k R Q){v:V}{H:Hp}(e:k v H=R):KV w b0 W s v H Q:=
 λcv W' s' st i r sm=>h v H cv W' s' e st i r sm
end
noncomputable def DE(prog:Program)(w:World)(b0:Heap)(d:Nat)(cf:CF):Prop:=
 ∀f args H R,cf f args H=R→R≠ .stuck→∀(rr:Result→Shared→Prop) (fr:List Env) (A:Around) (W:Wd) (s:Shared) (cargs:List Value),
  A.frames=some fr→A.depth+4*d+200≤1000→A.units+30*d+1000≤9900→A.handled=none→Frs b0 W fr s.heap→Inv w b0 W H s.heap→VRels W args cargs→
  (∀v H' cv W' s',R= .ok v H'→Step W s.heap W' s'.heap→Inv w b0 W' H' s'.heap→VRel W' v cv→Same s s'→rr (.ok (.ret cv)) s')→
  (∀c H' ea T a0 W' s',R= .exc c H'→Step W s.heap W' s'.heap→Inv w b0 W' H' s'.heap→Fly s.heap W' s'.heap c ea T a0 .none→Same s s'→rr (.error (.ref ea)) s')→
  codeAny (model prog w) A (.call (.ref f) ⟨cargs,[]⟩) rr s
noncomputable def FB(b0:Heap)(WB:Wd)(hB:Heap)(env:Env)(fr:List Env):Prop:=
 (Frs b0 WB fr hB∧env.frame≠some env.locals)∨∃outer,fr=env::outer∧Frs b0 WB outer hB∧env.frame=some env.locals∧∀a o,b0.get? a=some o→hB.get? a=some o
theorem FB.frs{w:World}{b0:Heap}{WB W:Wd}{hB h:Heap}{le:LE}{lc:Lc}{env:Env}{H:Hp}(f:FB b0 WB hB env fr)(t:St w b0 WB hB le lc env W H h):Frs b0 W fr h:=by
 rcases f with ⟨f,_⟩|⟨outer,rfl,f,hf,hb⟩
 ·exact f.step t.step
 ·have fo:=f.step t.step
  refine oEA t.eo.ns λm z1 hm=>?_;refine cQ z1 λo es ep ho hd r=>?_;clear z1
  have hn:b0.get? env.locals=none:=by
   cases q:b0.get? env.locals with
   |none=>rfl
   |some o'=>have:=hb _ _ q;rw [t.new] at this;cases this
  refine ⟨(iAA (by rw [t.eo.kind];decide) (uL env.locals o hf hn ho (λvs q=>by rw [hd] at q;cases q)) fo.ff),λL hL=>?_,λL hL o' ho'=>?_⟩
  ·rw [List.filterMap_cons,hf] at hL
   rcases List.mem_cons.mp hL with rfl|hL
   ·exact t.eo.free
   ·exact fo.own L hL
  ·rw [List.filterMap_cons,hf] at hL
   rcases List.mem_cons.mp hL with rfl|hL
   ·exact t.eo.cl hf o' ho'
   ·exact fo.fcls L hL o' ho'
structure Priv (W:Wd) (h:Heap) (C x dd:Addr) (fs:List (Str×V)):Prop where
 obj:h.get? x=some (instObj C dd)
 dict:∃es m,h.get? dd=some (dictOf es m)∧FRels W fs es
 ne:x≠dd
 nx:W.I x=none∧x∉W.ads
 nd:W.I dd=none∧dd∉W.ads
theorem Priv.step{W W':Wd}{h h':Heap}{C x dd:Addr}{fs:List (Str×V)}(p:Priv W h C x dd fs)(s:Step W h W' h'):Priv W' h' C x dd fs:=by
 refine cX p.dict λes m e r=>?_
 have k1:=s.keep _ _ p.obj p.nx.2
 have k2:=s.keep _ _ e p.nd.2
 exact ⟨s.keepX _ _ p.obj (by unfold instObj;simp) p.nx.2,(dS es m (s.keepX _ _ e (by unfold dictOf;simp) p.nd.2) (r.up s.toSub)),p.ne,⟨k1.2.1.trans p.nx.1,k1.1⟩,⟨k2.2.1.trans p.nd.1,k2.1⟩⟩
noncomputable def d1:Str:=Str.ofString "self"
section
variable (prog:Program) (w:World) (K:Frag) (b0:Heap) (cf:CF) (d:Nat)
abbrev EvP (n:Nat) (e:Expr):Prop:=∀le lc H k kx R,ev K cf n e le lc H k kx=R→R≠ .stuck→∀fr A W s env Q E,Gd d n le.hd fr A→Frs b0 W fr s.heap→Inv w b0 W H s.heap→EnvOk W le lc env s.heap→KOk w b0 W s k R Q→XOk w b0 W s kx R E→wpAny (model prog w) A (eval e env) Q E s
abbrev TstP (n:Nat) (e:Expr):Prop:=∀le lc H k kx R,tst K cf n e le lc H k kx=R→R≠ .stuck→∀fr A W s env Q E,Gd d n le.hd fr A→Frs b0 W fr s.heap→Inv w b0 W H s.heap→EnvOk W le lc env s.heap→BOk w b0 W s k R Q→XOk w b0 W s kx R E→wpAny (model prog w) A (isTrue e env (eval e env)) Q E s
abbrev N9 (n:Nat):Prop:=∀es le lc H k kx R,evs K cf n es le lc H k kx=R→R≠ .stuck→∀fr A W s env pos Q E,Gd d n le.hd fr A→Frs b0 W fr s.heap→Inv w b0 W H s.heap→EnvOk W le lc env s.heap→LOk w b0 W s k R Q→XOk w b0 W s kx R E→wpAny (model prog w) A (spliced (backTo pos (starEach es env))) Q E s
abbrev OA (n:Nat):Prop:=∀e le lc H k kx R,evo K cf n e le lc H k kx=R→R≠ .stuck→∀fr A W s env Q E,Gd d n le.hd fr A→Frs b0 W fr s.heap→Inv w b0 W H s.heap→EnvOk W le lc env s.heap→KOk w b0 W s k R Q→XOk w b0 W s kx R E→wpAny (model prog w) A (valueOrNone (evalOpt e env)) Q E s
abbrev OB (n:Nat):Prop:=∀(pairs:List (Expr×Expr)) le lc H k kx R,evd K cf n (pairs.map λp=>some p.1) (pairs.map (·.2)) le lc H k kx=R→R≠ .stuck→∀fr A W s env pos Q E,Gd d n le.hd fr A→Frs b0 W fr s.heap→Inv w b0 W H s.heap→EnvOk W le lc env s.heap→POk w b0 W s k R Q→XOk w b0 W s kx R E→wpAny (model prog w) A (evalPairs (pairs.map λp=>(eval p.1 env,do let x ←eval p.2 env;standAt pos;pure x))) Q E s
abbrev G2 (n:Nat):Prop:=∀es le lc H k kx R,ands K cf n es le lc H k kx=R→R≠ .stuck→∀fr A W s env Q E,Gd d n le.hd fr A→Frs b0 W fr s.heap→Inv w b0 W H s.heap→EnvOk W le lc env s.heap→BOk w b0 W s k R Q→XOk w b0 W s kx R E→wpAny (model prog w) A (allTrue .And es env) Q E s
abbrev N6 (n:Nat):Prop:=∀es le lc H k kx R,ors K cf n es le lc H k kx=R→R≠ .stuck→∀fr A W s env Q E,Gd d n le.hd fr A→Frs b0 W fr s.heap→Inv w b0 W H s.heap→EnvOk W le lc env s.heap→BOk w b0 W s k R Q→XOk w b0 W s kx R E→wpAny (model prog w) A (allTrue .Or es env) Q E s
abbrev GY (n:Nat):Prop:=∀es le lc H k kx R,tsts K cf n es le lc H k kx=R→R≠ .stuck→∀fr A W s env Q E,Gd d n le.hd fr A→Frs b0 W fr s.heap→Inv w b0 W H s.heap→EnvOk W le lc env s.heap→BOk w b0 W s k R Q→XOk w b0 W s kx R E→
  wpAny (model prog w) A (forIn es true λc r=>if r=true then do let ok ←isTrue c env (eval c env);pure (ForInStep.yield ok) else pure (ForInStep.yield r)) Q E s
abbrev OD (n:Nat):Prop:=∀t v le lc H k R,asg K cf n t v le lc H k=R→R≠ .stuck→∀fr A WB hB W s env Q E cv,Gd d n le.hd fr A→FB b0 WB hB env fr→St w b0 WB hB le lc env W H s.heap→VRel W v cv→
  (∀lc' H' W' s',k lc' H'=R→StepL env.locals W s.heap W' s'.heap→St w b0 WB hB le lc' env W' H' s'.heap→Same s s'→Q () s')→wpAny (model prog w) A (assign t env cv) Q E s
abbrev G1 (n:Nat):Prop:=∀ts vs le lc H k R,asgs K cf n ts vs le lc H k=R→R≠ .stuck→∀fr A WB hB W s env Q E cvs,Gd d n le.hd fr A→FB b0 WB hB env fr→St w b0 WB hB le lc env W H s.heap→VRels W vs cvs→
  (∀lc' H' W' s',k lc' H'=R→StepL env.locals W s.heap W' s'.heap→St w b0 WB hB le lc' env W' H' s'.heap→Same s s'→Q () s')→wpAny (model prog w) A (assignInOrder ((assignEach ts env).map (·.2)) cvs) Q E s
abbrev GZ (n:Nat):Prop:=∀C fI args H fs k R,make K cf n C fI args H fs k=R→R≠ .stuck→∀fr A W s x dd cargs (rr:Result→Shared→Prop),Gd d n true fr A→Frs b0 W fr s.heap→Inv w b0 W H s.heap→VRels W args cargs→Priv W s.heap C x dd fs→
  (∀fs' H' W' s',k fs' H'=R→StepL dd W s.heap W' s'.heap→Inv w b0 W' H' s'.heap→Priv W' s'.heap C x dd fs'→Same s s'→rr (.ok (.ret .none)) s')→codeAny (model prog w) A (.call (.ref fI) ⟨.ref x::cargs,[]⟩) rr s
abbrev G0 (n:Nat):Prop:=∀C body le lc H fs k R,init K cf n C body le lc H fs k=R→R≠ .stuck→∀fr A W s env x dd Q E,Gd d n le.hd fr A→le.hd=true→cO le d1=some .loc→lc.lookup d1=none→env.frame=some env.locals→Frs b0 W fr s.heap→Inv w b0 W H s.heap→EnvOk W le (lc++[(d1,.fix (.ref x))]) env s.heap→Priv W s.heap C x dd fs→
  (∀fs' H' W' s',k fs' H'=R→StepL dd W s.heap W' s'.heap→Inv w b0 W' H' s'.heap→Priv W' s'.heap C x dd fs'→Same s s'→Q .next s')→wpAny (model prog w) A (execs body env) Q E s
structure d0 (n:Nat):Prop where
 ev:∀e,EvP prog w K b0 cf d n e
 evs:N9 prog w K b0 cf d n
 evo:OA prog w K b0 cf d n
 evd:OB prog w K b0 cf d n
 tst:∀e,TstP prog w K b0 cf d n e
 ands:G2 prog w K b0 cf d n
 ors:N6 prog w K b0 cf d n
 tsts:GY prog w K b0 cf d n
 asg:OD prog w K b0 cf d n
 asgs:G1 prog w K b0 cf d n
 make:GZ prog w K b0 cf d n
 init:G0 prog w K b0 cf d n
end
end
section
theorem oQ{T:String}{name:Str}{id id':String}(a:Slot T name id)(b:Slot T name id'):id=id':=by
 have h:=a.lookup.symm.trans b.lookup
 injection h with h1
 injection h1 with h2
 injection h2
section
variable (prog:Program) (w:World) (K:Frag) (b0:Heap) (cf:CF) (d:Nat)
end
section variable {e:Expr}
variable {prog:Program} {w:World} {p:Program} {loose:TS} {mg mb:TM} {K:Frag} {b0:Heap} {cf:CF} {d n:Nat}
theorem sY{ops:List CmpOp}{rs:List Expr}{q:CmpOp×Expr}(h:qR ops rs=some q):ops=[q.1]∧rs=[q.2]:=by
 rcases ops with _|⟨a,_|⟨b,c⟩⟩<;>rcases rs with _|⟨x,_|⟨y,z⟩⟩<;>first|(cases h;exact ⟨rfl,rfl⟩)|cases h
set_option tactic.hygienic true in
theorem yG{q:Option Expr×Option Expr}(h:pO e=some q):∃p,e= .Slice q.1 q.2 none p:=by
 cases e<;>first|exact ns h|(rename_i lo hi st p;cases st with|none=>exact ⟨p,Option.some.inj h▸rfl⟩|some=>exact ns h)
theorem oD{q:Expr×Str×Pos}(h:l0 e=some q):e= .Attribute q.1 q.2.1 q.2.2:=by
 cases e<;>first|exact ns h|exact Option.some.inj h▸rfl
theorem fJ{q:Str×Pos}(h:gG e=some q):e= .Name q.1 q.2:=by
 cases e<;>first|exact ns h|exact Option.some.inj h▸rfl
theorem oC{q:Expr×List Expr×List Keyword×Pos}(h:rI e=some q):e= .Call q.1 q.2.1 q.2.2.1 q.2.2.2:=by
 cases e<;>first|exact ns h|exact Option.some.inj h▸rfl
theorem GF{q:Const×Nat×Pos}(h:N2 e=some q):e= .Constant q.1 q.2.1 q.2.2:=by
 cases e<;>first|exact ns h|exact Option.some.inj h▸rfl
theorem mT{α:Type}{l:List α}{a:α}(h:sW l=some a):l=[a]:=by
 rcases l with _|⟨x,_|⟨y,z⟩⟩<;>first|exact ns h|exact Option.some.inj h▸rfl
theorem aR{P:Prop}{R:Res}(h:Res.stuck=R)(n:R≠ .stuck):P:=(n h.symm).elim
theorem evs_S(S:d0 prog w K b0 cf d n):N9 prog w K b0 cf d (n+1):=by
 intro es le lc H k kx R h hR fr A W s env pos Q E g F i eo hk hx
 have g':=g.le (Nat.le_succ n)
 cases es with
 |nil=>exact wpAny_pure (hk [] H [] W s h (Step.refl _ _) i .nil rfl)
 |cons e r=>
  replace h:gd (!starE e) (ev K cf n e le lc H (λv H=>evs K cf n r le lc H (λvs H=>k (v::vs) H) kx) kx)=R:=h
  refine oA (bU h hR) λhs h'=>?_
  clear h
  rename _=>h
  have he:starEach (e::r) env=(false,eval e env)::starEach r env:=by
   cases e<;>first|rfl|cases hs
  refine wpAny_items_cons (S.ev _ _ _ _ _ _ _ h hR fr A W s env _ E g' F i eo (λv H1 c W1 s1 e1 st1 i1 r1 sm1=>?_) hx) he
  refine S.evs _ _ _ _ _ _ _ e1 hR fr A W1 s1 env pos _ E g' (F.step st1) i1 (eo.step st1) (λvs H2 cs W2 s2 e2 st2 i2 r2 sm2=>?_) (hx.step st1 sm1)
  exact hk _ H2 _ W2 s2 e2 (st1.trans st2) i2 (.cons (r1.up st2.toSub) r2) (sm1.trans sm2)
theorem evo_S(S:d0 prog w K b0 cf d n):OA prog w K b0 cf d (n+1):=by
 intro e le lc H k kx R h hR fr A W s env Q E g F i eo hk hx
 cases e with
 |none=>exact wpAny_pure (hk .none H .none W s h (Step.refl _ _) i .none rfl)
 |some e=>
  replace h:ev K cf n e le lc H k kx=R:=h
  exact S.ev _ _ _ _ _ _ _ h hR fr A W s env _ E (g.le (Nat.le_succ n)) F i eo hk hx
theorem evd_S(S:d0 prog w K b0 cf d n):OB prog w K b0 cf d (n+1):=by
 intro pairs le lc H k kx R h hR fr A W s env pos Q E g F i eo hk hx
 have g':=g.le (Nat.le_succ n)
 cases pairs with
 |nil=>
  replace h:k [] H=R:=h
  exact evalPairs_nil (hk [] H [] W s h (Step.refl _ _) i .nil rfl)
 |cons q r=>
  replace h:ev K cf n q.1 le lc H (λu H=>ev K cf n q.2 le lc H (λv H=>evd K cf n (r.map λp=>some p.1) (r.map (·.2)) le lc H (λps H=>k ((u,v)::ps) H) kx) kx) kx=R:=h
  rw [List.map_cons]
  refine evalPairs_cons (S.ev _ _ _ _ _ _ _ h hR fr A W s env _ E g' F i eo (λu H1 cu W1 s1 e1 st1 i1 r1 sm1=>?_) hx)
  refine wpAny_bind (S.ev _ _ _ _ _ _ _ e1 hR fr A W1 s1 env _ E g' (F.step st1) i1 (eo.step st1) (λv H2 cv W2 s2 e2 st2 i2 r2 sm2=>?_) (hx.step st1 sm1))
  refine wpAny_bind (wpAny_standAt (wpAny_pure ?_))
  have st:=st1.trans st2
  have sm:=sm1.trans sm2
  refine S.evd r _ _ _ _ _ _ e2 hR fr A W2 s2 env pos _ E g' (F.step st) i2 (eo.step st) (λps H3 cs W3 s3 e3 st3 i3 r3 sm3=>?_) (hx.step st sm)
  exact hk _ H3 _ W3 s3 e3 (st.trans st3) i3 (.cons (r1.up (st2.toSub.trans st3.toSub)) (r2.up st3.toSub) r3) (sm.trans sm3)
theorem AV (S:d0 prog w K b0 cf d n) {l r:Expr} {op:CmpOp} {le:LE} {lc:Lc} {H:Hp} {k:Bool→Hp→Res} {kx:TY} {R:Res}
  (h:ev K cf n l le lc H (λa H=>ev K cf n r le lc H (λb H=>ob (cmp H op a b) λt=>k t H) kx) kx=R) (hR:R≠ .stuck) {fr:List Env} {A:Around} {W:Wd} {s:Shared} {env:Env} {Q:TQ} {E:TQ}
  (g:Gd d (n+1) le.hd fr A) (F:Frs b0 W fr s.heap) (i:Inv w b0 W H s.heap) (eo:EnvOk W le lc env s.heap) (hk:∀t H' W' s',k t H'=R→Step W s.heap W' s'.heap→Inv w b0 W' H' s'.heap→Same s s'→∀tk,Q (.bool t) {s' with toks:=tk}) (hx:XOk w b0 W s kx R E):
  wpAny (model prog w) A (eval l env) (λa s1=>wpAny (model prog w) A (eval r env) (λb s2=>wpAny (model prog w) A (compareOp op a b) Q E s2) E s1) E s:=by
 have g':=g.le (Nat.le_succ n)
 refine S.ev _ _ _ _ _ _ _ h hR fr A W s env _ E g' F i eo (λu H1 cu W1 s1 e1 st1 i1 r1 sm1=>?_) hx
 refine S.ev _ _ _ _ _ _ _ e1 hR fr A W1 s1 env _ E g' (F.step st1) i1 (eo.step st1) (λv H2 cv W2 s2 e2 st2 i2 r2 sm2=>?_) (hx.step st1 sm1)
 refine oEA (bQ e2 hR) λt et e3=>?_
 exact C1 i2 (by have:=g.u;exact EG this) (r1.up st2.toSub) r2 et λtk=>hk t H2 W2 s2 e3 (st1.trans st2) i2 (sm1.trans sm2) tk
theorem Same.tok(s:Shared)(tk:Nat):Same s {s with toks:=tk}:=rfl
theorem tst_S(S:d0 prog w K b0 cf d n):∀e,TstP prog w K b0 cf d (n+1) e:=by
 intro e le lc H k kx R h hR fr A W s env Q E g F i eo hk hx
 have g':=g.le (Nat.le_succ n)
 cases e with
 |BoolOp op es p=>
  cases op with
  |And=>
   replace h:ands K cf n es le lc H k kx=R:=h
   exact wpAny_isTrue_BoolOp (S.ands _ _ _ _ _ _ _ h hR fr A W s env _ E g' F i eo hk hx)
  |Or=>
   replace h:ors K cf n es le lc H k kx=R:=h
   exact wpAny_isTrue_BoolOp (S.ors _ _ _ _ _ _ _ h hR fr A W s env _ E g' F i eo hk hx)
 |Compare l ops rs p=>
  replace h:ob (qR ops rs) (λq=>gd (!behindInMarks q.1 q.2) (ev K cf n l le lc H (λa H=>ev K cf n q.2 le lc H (λb H=>ob (cmp H q.1 a b) λt=>k t H) kx) kx))=R:=h
  obtain ⟨⟨op,r⟩,hq,h'⟩:=bQ h hR
  clear h
  rename _=>h
  refine oA (sY hq) λz1 z2=>?_;subst z1 z2
  refine oA (bU h hR) λhm h'=>?_
  clear h
  rename _=>h
  refine wpAny_isTrue_Compare1 (AV S h hR g F i eo (λt H' W' s' e st i' sm tk=>?_) hx) (by simpa using hm)
  exact oN (v:= .bool t) (H:=H') (s:={s' with toks:=tk}) i' (by have:=g.u;exact EG this) (.bool t) rfl λtk'=>hk t H' t W' {s' with toks:=tk'} e st i' rfl (sm.trans rfl)
 |Name x p=>
  replace h:ev K cf n (.Name x p) le lc H (λv H=>ob (mH H v) λt=>k t H) kx=R:=h
  refine wpAny_isTrue_value (S.ev _ _ _ _ _ _ _ h hR fr A W s env _ E g' F i eo (λv H1 cv W1 s1 e1 st1 i1 r1 sm1=>?_) hx)
  refine oEA (bQ e1 hR) λt et e3=>?_
  exact oN i1 (by have:=g.u;exact EG this) r1 et λtk=>hk t H1 t W1 {s1 with toks:=tk} e3 st1 i1 rfl (sm1.trans rfl)
 |_=>exact aR h hR
theorem UV(S:d0 prog w K b0 cf d n):G2 prog w K b0 cf d (n+1):=by
 intro es le lc H k kx R h hR fr A W s env Q E g F i eo hk hx
 have g':=g.le (Nat.le_succ n)
 cases es with
 |nil=>exact wpAny_allTrue_And_nil (hk true H true W s h (Step.refl _ _) i rfl rfl)
 |cons e r=>
  replace h:tst K cf n e le lc H (λc H=>if c then ands K cf n r le lc H k kx else k false H) kx=R:=h
  refine wpAny_allTrue_And_cons (S.tst _ _ _ _ _ _ _ h hR fr A W s env _ E g' F i eo (λv H1 cv W1 s1 e1 st1 i1 r1 sm1=>?_) hx)
  subst r1
  cases v with
  |true=>exact S.ands _ _ _ _ _ _ _ e1 hR fr A W1 s1 env _ E g' (F.step st1) i1 (eo.step st1) (hk.step st1 sm1) (hx.step st1 sm1)
  |false=>exact hk false H1 false W1 s1 e1 st1 i1 rfl sm1
theorem ors_S(S:d0 prog w K b0 cf d n):N6 prog w K b0 cf d (n+1):=by
 intro es le lc H k kx R h hR fr A W s env Q E g F i eo hk hx
 have g':=g.le (Nat.le_succ n)
 cases es with
 |nil=>exact wpAny_allTrue_Or_nil (hk false H false W s h (Step.refl _ _) i rfl rfl)
 |cons e r=>
  replace h:tst K cf n e le lc H (λc H=>if c then k true H else ors K cf n r le lc H k kx) kx=R:=h
  refine wpAny_allTrue_Or_cons (S.tst _ _ _ _ _ _ _ h hR fr A W s env _ E g' F i eo (λv H1 cv W1 s1 e1 st1 i1 r1 sm1=>?_) hx)
  subst r1
  cases v with
  |false=>exact S.ors _ _ _ _ _ _ _ e1 hR fr A W1 s1 env _ E g' (F.step st1) i1 (eo.step st1) (hk.step st1 sm1) (hx.step st1 sm1)
  |true=>exact hk true H1 true W1 s1 e1 st1 i1 rfl sm1
theorem OH(S:d0 prog w K b0 cf d n):GY prog w K b0 cf d (n+1):=by
 intro es le lc H k kx R h hR fr A W s env Q E g F i eo hk hx
 have g':=g.le (Nat.le_succ n)
 cases es with
 |nil=>
  rw [List.forIn_nil]
  exact wpAny_pure (hk true H true W s h (Step.refl _ _) i rfl rfl)
 |cons e r=>
  replace h:gd r.isEmpty (tst K cf n e le lc H k kx)=R:=h
  refine oA (bU h hR) λhe h'=>?_
  clear h
  rename _=>h
  have z9:=List.isEmpty_iff.mp he;subst z9
  rw [List.forIn_cons]
  refine wpAny_bind ?_
  rw [if_pos rfl]
  refine wpAny_bind (S.tst _ _ _ _ _ _ _ h hR fr A W s env _ E g' F i eo (λv H1 cv W1 s1 e1 st1 i1 r1 sm1=>?_) hx)
  refine wpAny_pure ?_
  show wpAny _ _ (forIn [] cv _) _ _ _
  rw [List.forIn_nil]
  exact wpAny_pure (hk v H1 cv W1 s1 e1 st1 i1 r1 sm1)
end
end
section
section
variable {prog:Program} {w:World} {p:Program} {loose:TS} {mg mb:TM} {K:Frag} {b0:Heap} {cf:CF} {d n:Nat}
theorem FZ(S:d0 prog w K b0 cf d n){l r:Expr}{op:Operator}{pos:Pos}:EvP prog w K b0 cf d (n+1) (.BinOp l op r pos):=by
 intro le lc H k kx R h hR fr A W s env Q E g F i eo hk hx
 have g':=g.le (Nat.le_succ n)
 replace h:ev K cf n l le lc H (λa H=>ev K cf n r le lc H (λb H=>ob (bH H op a b) λp=>k p.1 p.2) kx) kx=R:=h
 refine wpAny_BinOp (S.ev _ _ _ _ _ _ _ h hR fr A W s env _ E g' F i eo (λu H1 cu W1 s1 e1 st1 i1 r1 sm1=>?_) hx)
 refine S.ev _ _ _ _ _ _ _ e1 hR fr A W1 s1 env _ E g' (F.step st1) i1 (eo.step st1) (λv H2 cv W2 s2 e2 st2 i2 r2 sm2=>?_) (hx.step st1 sm1)
 refine oEA (bQ e2 hR) λt et e3=>?_
 exact xQ i2 et (r1.up st2.toSub) r2 (GOk.kv (GOk.step hk (st1.trans st2) (sm1.trans sm2)) e3)
theorem zD(S:d0 prog w K b0 cf d n){op:UnaryOp}{x:Expr}{pos:Pos}:EvP prog w K b0 cf d (n+1) (.UnaryOp op x pos):=by
 intro le lc H k kx R h hR fr A W s env Q E g F i eo hk hx
 have g':=g.le (Nat.le_succ n)
 replace h:gd (op== .USub) (ev K cf n x le lc H (λa H=>ob (dY a) λi=>k (.int (-i)) H) kx)=R:=h
 refine oA (bU h hR) λho h'=>?_
 clear h
 rename _=>h
 cases op with
 |USub=>
  refine wpAny_UnaryOp (S.ev _ _ _ _ _ _ _ h hR fr A W s env _ E g' F i eo (λu H1 cu W1 s1 e1 st1 i1 r1 sm1=>?_) hx)
  refine oEA (bQ e1 hR) λt et e3=>?_
  refine oE ((cG et▸r1).inv) λtk z1=>?_;subst z1
  exact PyProof.Rows.neg_int (KV.here (s:=s1) i1 (GOk.kv (GOk.step hk st1 sm1) e3) (.int _ _) _)
 |_=>cases ho
theorem zE(S:d0 prog w K b0 cf d n){l:Expr}{ops:List CmpOp}{rs:List Expr}{pos:Pos}:EvP prog w K b0 cf d (n+1) (.Compare l ops rs pos):=by
 intro le lc H k kx R h hR fr A W s env Q E g F i eo hk hx
 replace h:ob (qR ops rs) (λq=>gd (!behindInMarks q.1 q.2) (ev K cf n l le lc H (λa H=>ev K cf n q.2 le lc H (λb H=>ob (cmp H q.1 a b) λt=>k (.bool t) H) kx) kx))=R:=h
 obtain ⟨⟨op,r⟩,hq,h'⟩:=bQ h hR
 clear h
 rename _=>h
 refine oA (sY hq) λz1 z2=>?_;subst z1 z2
 refine oA (bU h hR) λhm h'=>?_
 clear h
 rename _=>h
 exact wpAny_Compare1 (AV S (k:=λt H=>k (.bool t) H) h hR g F i eo (λt H' W' s' e st i' sm tk=>KV.here (s:=s') i' (GOk.kv (GOk.step hk st sm) e) (.bool t) tk) hx) (by simpa using hm)
theorem FY(S:d0 prog w K b0 cf d n){t a b:Expr}{pos:Pos}:EvP prog w K b0 cf d (n+1) (.IfExp t a b pos):=by
 intro le lc H k kx R h hR fr A W s env Q E g F i eo hk hx
 have g':=g.le (Nat.le_succ n)
 replace h:tst K cf n t le lc H (λc H=>if c then ev K cf n a le lc H k kx else ev K cf n b le lc H k kx) kx=R:=h
 refine wpAny_IfExp (S.tst _ _ _ _ _ _ _ h hR fr A W s env _ E g' F i eo (λu H1 cu W1 s1 e1 st1 i1 r1 sm1=>?_) hx)
 subst r1
 cases u with
 |true=>exact S.ev _ _ _ _ _ _ _ e1 hR fr A W1 s1 env _ E g' (F.step st1) i1 (eo.step st1) (hk.step st1 sm1) (hx.step st1 sm1)
 |false=>exact S.ev _ _ _ _ _ _ _ e1 hR fr A W1 s1 env _ E g' (F.step st1) i1 (eo.step st1) (hk.step st1 sm1) (hx.step st1 sm1)
theorem FX(S:d0 prog w K b0 cf d n){es:List Expr}{z:Nat}{pos:Pos}:EvP prog w K b0 cf d (n+1) (.Tuple es z pos):=by
 intro le lc H k kx R h hR fr A W s env Q E g F i eo hk hx
 have g':=g.le (Nat.le_succ n)
 replace h:evs K cf n es le lc H (λvs H=>gd (vs.length≤1000) (k (.tup vs) H)) kx=R:=h
 rw [arm_eval_Tuple]
 refine wpAny_bind (wpAny_standAt (wpAny_bind (S.evs _ _ _ _ _ _ _ h hR fr A W s env pos _ E g' F i eo (λvs H1 cs W1 s1 e1 st1 i1 r1 sm1=>?_) hx)))
 refine oA (bU e1 hR) λhz e3=>?_
 exact TZ i1 (GOk.kv (GOk.step hk st1 sm1) e3) r1 (by simpa using hz)
theorem LO(S:d0 prog w K b0 cf d n){es:List Expr}{pos:Pos}:EvP prog w K b0 cf d (n+1) (.List es pos):=by
 intro le lc H k kx R h hR fr A W s env Q E g F i eo hk hx
 have g':=g.le (Nat.le_succ n)
 replace h:evs K cf n es le lc H (λvs H=>gd (vs.length≤1000) (k (.loc H.length) (H++[.list vs]))) kx=R:=h
 rw [arm_eval_List]
 refine wpAny_bind (wpAny_standAt (wpAny_bind (S.evs _ _ _ _ _ _ _ h hR fr A W s env pos _ E g' F i eo (λvs H1 cs W1 s1 e1 st1 i1 r1 sm1=>?_) hx)))
 refine oA (bU e1 hR) λhz e3=>?_
 exact ES i1 (GOk.kv (GOk.step hk st1 sm1) e3) r1 (by simpa using hz)
theorem wQ:∀{ks:List (Option Expr)} {vs:List Expr},ks.all (·.isSome)=true→ks.length=vs.length→∃pairs:List (Expr×Expr),ks=pairs.map (λp=>some p.1)∧vs=pairs.map (·.2)
 |[],[],_,_=>(iEA ([]) rfl rfl)
 |some a::r,b::q,h,hl=>by
  refine oEA (wQ (ks:=r) (vs:=q) (by assumption) (by simpa using hl)) λps e1 e2=>?_
  exact (iEA ((a,b)::ps) (by rw [e1];rfl) (by rw [e2];rfl))
 |none::r,_,h,_=>by simp at h
 |[],_::_,_,h=>by simp at h
 |_::_,[],_,h=>by simp at h
theorem sK(env:Env)(pos:Pos):∀pairs:List (Expr×Expr),(evalEachOpt (pairs.map λp=>some p.1) env).zip ((evalEach (pairs.map (·.2)) env).map λv=>do let x ←v;standAt pos;pure x)=
  (pairs.map λp=>(eval p.1 env,(do let x ←eval p.2 env;standAt pos;pure x:Sem Value))).map λp=>(some p.1,p.2)
 |[]=>rfl
 |q::r=>congrArg (List.cons (some (eval q.1 env),(do let x ←eval q.2 env;standAt pos;pure x:Sem Value))) (sK env pos r)
theorem LQ(S:d0 prog w K b0 cf d n){ks:List (Option Expr)}{vs:List Expr}{pos:Pos}:EvP prog w K b0 cf d (n+1) (.Dict ks vs pos):=by
 intro le lc H k kx R h hR fr A W s env Q E g F i eo hk hx
 have g':=g.le (Nat.le_succ n)
 replace h:gd (ks.all (·.isSome)&&ks.length==vs.length&&decide (ks.length≤15)) (evd K cf n ks vs le lc H (λps H=>gd (ps.length≤15) (ob (c9 ps []) λes=>k (.loc H.length) (H++[.dict es es.length]))) kx)=R:=h
 refine oA (bU h hR) λhs h'=>?_
 clear h
 rename _=>h
 simp only [Bool.and_eq_true,beq_iff_eq,decide_eq_true_eq] at hs
 refine oEA (wQ hs.1.1 hs.1.2) λpairs z1 z2=>?_;subst z1 z2
 rw [arm_eval_Dict,sK]
 refine wpAny_bind (wpAny_standAt ?_)
 cases hp:pairs with
 |nil=>
  subst hp
  cases n with
  |zero=>exact aR h hR
  |succ n=>
   replace h:gd (([]:List (V×V)).length≤15) (ob (c9 [] []) λes=>k (.loc H.length) (H++[.dict es es.length]))=R:=h
   refine oA (bU h hR) λU h'=>?_
   clear h
   rename _=>h
   refine oEA (bQ h hR) λes he h'=>?_
   clear h
   rename _=>h
   cases he
   show wpAny _ _ (dictDisplay []) _ _ _
   have e:dictDisplay []=newDict:=rfl
   rw [e]
   exact rZ i (hk.kv h)
 |cons q r=>
  have hne:pairs≠[]:=by rw [hp];simp
  rw [←hp]
  clear hp
  have hlen:(pairs.map λp=>(eval p.1 env,(do let x ←eval p.2 env;standAt pos;pure x:Sem Value))).length≤15:=by have:=hs.2;simpa using this
  rw [dictDisplay_pairs _ (by simpa using hne) (ow76 hlen)]
  have st0:Step W s.heap W (s.heap.push {cls:= .type "dict",data:= .dict #[]}):=Step.of_keeps λ a o e=>Heap.get?_push_of_some _ e
  refine wpAny_bind (wpAny_mono (rW (Q:=Q) (by have:=g.u;exact ow75 this) hlen i (S.evd pairs _ _ _ _ _ _ h hR fr A W {s with heap:=s.heap.push {cls:= .type "dict",data:= .dict #[]}} env pos _ E g' (F.step st0) (i.push1 _) (eo.step st0) (λ ps H1 cs W1 s1 e1 st1 i1 r1 sm1=>?_) ?_)) (λ a s' hq=>wpAny_pure hq) λ U U e=>e)
  ·refine oA (bU e1 hR) λhz e2=>?_
   refine oEA (bQ e2 hR) λes he e3=>?_
   exact (bW W1 H1 ps es st1 i1 (Same.trans (Same.mk s _ s.toks) sm1) r1 (iAA (by simpa using hz) he (hk.kv e3)))
  ·exact hx.step st0 (Same.mk s _ s.toks)
theorem uT(B:Bas p loose mg mb K b0)(S:d0 prog w K b0 cf d n){o:Expr}{name:Str}{pos:Pos}:EvP prog w K b0 cf d (n+1) (.Attribute o name pos):=by
 intro le lc H k kx R h hR fr A W s env Q E g F i eo hk hx
 have g':=g.le (Nat.le_succ n)
 replace h:gd (fX o) (ev K cf n o le lc H (λa H=>ob (sR a) λp=>ob (uQ K name p) λv=>k v H) kx)=R:=h
 refine oA (bU h hR) λhs h'=>?_
 clear h
 rename _=>h
 refine zL hs (S.ev _ _ _ _ _ _ _ h hR fr A W s env _ E g' F i eo (λu H1 cu W1 s1 e1 st1 i1 r1 sm1=>?_) hx)
 refine oEA (bQ e1 hR) λq eq e2=>?_
 refine oEA (bQ e2 hR) λv ev e3=>?_
 exact xK B i1 eq ev r1 (GOk.kv (GOk.step hk st1 sm1) e3)
theorem uS(S:d0 prog w K b0 cf d n){o sl:Expr}{pos:Pos}:EvP prog w K b0 cf d (n+1) (.Subscript o sl pos):=by
 intro le lc H k kx R h hR fr A W s env Q E g F i eo hk hx
 have g':=g.le (Nat.le_succ n)
 replace h:(match pO sl with
   |some q=>ev K cf n o le lc H (λa H=>evo K cf n q.1 le lc H (λl H=>evo K cf n q.2 le lc H (λh H=>ob (cut H a l h) λp=>k p.1 p.2) kx) kx) kx
   |none=>ev K cf n o le lc H (λa H=>ev K cf n sl le lc H (λb H=>ob (getItem H a b) λv=>k v H) kx) kx)=R:=h
 cases hsl:pO sl with
 |some q=>
  rw [hsl] at h
  obtain ⟨lo,hi⟩:=q
  refine oE (yG hsl) λpz z1=>?_;subst z1
  refine Subscript_ (S.ev _ _ _ _ _ _ _ h hR fr A W s env _ E g' F i eo (λu H1 cu W1 s1 e1 st1 i1 r1 sm1=>?_) hx)
  rw [arm_eval_Slice]
  refine wpAny_bind (S.evo _ _ _ _ _ _ _ e1 hR fr A W1 s1 env _ E g' (F.step st1) i1 (eo.step st1) (λl H2 cl W2 s2 e2 st2 i2 r2 sm2=>?_) (hx.step st1 sm1))
  have st:=st1.trans st2
  have sm:=sm1.trans sm2
  refine wpAny_bind (wpAny_holding (S.evo _ _ _ _ _ _ _ e2 hR fr A W2 s2 env _ E g' (F.step st) i2 (eo.step st) (λz H3 cz W3 s3 e3 st3 i3 r3 sm3=>?_) (hx.step st sm)))
  refine wpAny_bind (wpAny_holding ?_)
  show wpAny _ _ (pure Value.none) _ _ _
  refine wpAny_pure ?_
  refine oEA (bQ e3 hR) λq eq e4=>?_
  refine wpAny_newObj_type ?_ (by size_fits)
  exact CY i3 eq (r1.up (st2.toSub.trans st3.toSub)) (r2.up st3.toSub) r3 (GOk.kv (GOk.step hk (st.trans st3) (sm.trans sm3)) e4)
 |none=>
  rw [hsl] at h
  have hne:∀lo hi q,sl≠ .Slice lo hi none q:=λlo hi q z=>by subst z;cases hsl
  refine Subscript_ (S.ev _ _ _ _ _ _ _ h hR fr A W s env _ E g' F i eo (λu H1 cu W1 s1 e1 st1 i1 r1 sm1=>?_) hx)
  refine S.ev _ _ _ _ _ _ _ e1 hR fr A W1 s1 env _ E g' (F.step st1) i1 (eo.step st1) (λv H2 cv W2 s2 e2 st2 i2 r2 sm2=>?_) (hx.step st1 sm1)
  refine oEA (bQ e2 hR) λq eq e3=>?_
  refine CC i2 (by have:=g.u;exact EG this) (λlo hi q z=>hne _ _ _ z) eq (r1.up st2.toSub) r2 (GOk.kv (GOk.step hk (st1.trans st2) (sm1.trans sm2)) e3)
theorem asg_S(B:Bas p loose mg mb K b0)(S:d0 prog w K b0 cf d n):OD prog w K b0 cf d (n+1):=by
 intro t v le lc H k R h hR fr A WB hB W s env Q E cv g fb st hv hk
 have g':=g.le (Nat.le_succ n)
 cases t with
 |Name x pos=>
  replace h:(match le.scope.names.lookup x with
    |some .local=>k ((x,v)::lc) H
    |some .cell=>ob (le.cells.lookup x) λl=>gd (kJ H l) (k lc (H.set l (.cell (some v))))
    |_=> .stuck)=R:=h
  split at h
  ·rename_i hl
   exact wpAny_assign_Name (oP st hl hv λW' s' x st' sm=>hk _ _ W' s' h x st' sm)
  ·rename_i hl
   refine oEA (bQ h hR) λl el h'=>?_
   clear h
   rename _=>h
   refine oA (bU h hR) λhc h'=>?_
   clear h
   rename _=>h
   exact wpAny_assign_Name (pZ st hl el hc hv λW' s' x st' sm=>hk _ _ W' s' h x st' sm)
  ·exact aR h hR
 |Subscript o i pos=>
  replace h:ev K cf n o le lc H (λa H=>ev K cf n i le lc H (λb H=>ob (setItem H a b v) λH=>k lc H) noX) noX=R:=h
  rw [arm_assign_Subscript]
  refine wpAny_bind (wpAny_holding (S.ev _ _ _ _ _ _ _ h hR fr A W s env _ E g' (fb.frs st) st.inv st.eo (λu H1 cu W1 s1 e1 st1 i1 r1 sm1=>?_) (XOk.no hR E)))
  have t1:=st.go st1 i1
  refine wpAny_bind (wpAny_holding (S.ev _ _ _ _ _ _ _ e1 hR fr A W1 s1 env _ E g' (fb.frs t1) i1 t1.eo (λz H2 cz W2 s2 e2 st2 i2 r2 sm2=>?_) (XOk.no hR E)))
  have t2:=t1.go st2 i2
  refine oEA (bQ e2 hR) λH3 e3 e₃=>?_
  refine wpAny_bind (wpAny_standAt (wpAny_bind (wpAny_holding (rY i2 (by have:=g.u;exact EG this) e3 (r1.up st2.toSub) r2 (hv.up (st1.toSub.trans st2.toSub)) λs3 st3 i3 sm3=>wpAny_release ?_))))
  exact hk _ _ W2 s3 e₃ (StepL.of ((st1.trans st2).trans st3) _) (t2.go st3 i3) ((sm1.trans sm2).trans sm3)
 |Tuple ts z pos=>
  replace h:ob (iO v) (λvs=>gd (ts.length==vs.length&&!le.hd&&noStar ts) (asgs K cf n ts vs le lc H k))=R:=h
  refine oEA (bQ h hR) λvs ev h'=>?_
  clear h
  rename _=>h
  refine oA (bU h hR) λhc h₂=>?_
  clear h
  simp only [Bool.and_eq_true,beq_iff_eq,Bool.not_eq_true'] at hc
  have hh:=(g.calls hc.1.2).2.2
  refine bF (gM (fW ev▸hv)) λcs q o m h1 h2 h3 h4 z1=>?_;subst z1
  have key:∀{ts:List Expr},noStar ts=true→(assignEach ts env).length=ts.length∧(assignEach ts env).findIdx? (·.1)=none:=by
   intro ts
   induction ts with
   |nil=>intro;exact ⟨rfl,rfl⟩
   |cons e r ih=>
    intro hn
    have hn':noStar r=true∧assignEach (e::r) env=(false,assign e env)::assignEach r env:=by
     cases e<;>first|exact ⟨hn,rfl⟩|cases hn
    refine oA (ih hn'.1) λa b=>?_
    rw [hn'.2]
    exact ⟨by rw [List.length_cons,List.length_cons,a],by rw [List.findIdx?_cons,b];rfl⟩
  refine oA (key (ts:=ts) hc.2) λk1 k2=>?_
  refine wpAny_assign_Tuple hh (fK st.inv h1 h2 h3) (by rw [k1,List.size_toArray,←h4.length];exact hc.1.1) k2 λh' he=>?_
  have st1:Step W s.heap W h':=Step.of_keeps λa o e=>he a o (Nat.ne_of_lt (Heap.lt_size e)) e
  have i1:Inv w b0 W H h':=st.inv.keeps λa o e U=>he a o (Nat.ne_of_lt (Heap.lt_size e)) e
  exact S.asgs _ _ _ _ _ _ _ h₂ hR fr A WB hB W {s with heap:=h'} env _ E _ g' fb (st.go st1 i1) h4 λlc' H' W' s' e x st' sm=>hk _ _ W' s' e ((StepL.of st1 _).trans x) st' (Same.trans (Same.mk s h' s.toks) sm)
 |_=>exact aR h hR
set_option tactic.hygienic true in
theorem UU(S:d0 prog w K b0 cf d n):G1 prog w K b0 cf d (n+1):=by
 intro ts vs le lc H k R h hR fr A WB hB W s env Q E cvs g fb st hv hk
 have g':=g.le (Nat.le_succ n)
 cases ts with
 |nil=>
  cases vs with
  |nil=>
   cases hv
   exact wpAny_pure (hk _ _ W s h (StepL.refl _ _ _) st rfl)
  |cons=>exact aR h hR
 |cons t r=>
  cases vs with
  |nil=>exact aR h hR
  |cons v q=>
   replace h:gd (gG t).isSome (asg K cf n t v le lc H (λlc H=>asgs K cf n r q le lc H k))=R:=h
   refine oA (bU h hR) λhn h'=>?_
   clear h
   rename _=>h
   refine oE (Option.isSome_iff_exists.mp hn) λy hy=>?_
   have z9:=fJ hy;subst z9
   cases hv with
   |cons hv hr=>
    rename_i cv cvs
    show wpAny _ _ (do holding cvs (assign (.Name y.1 y.2) env cv);assignInOrder ((assignEach r env).map (·.2)) cvs) _ _ _
    refine wpAny_bind (wpAny_holding (S.asg _ _ _ _ _ _ _ h hR fr A WB hB W s env _ E _ g' fb st hv λlc1 H1 W1 s1 e1 x1 st1 sm1=>?_))
    exact S.asgs _ _ _ _ _ _ _ e1 hR fr A WB hB W1 s1 env _ E _ g' fb st1 (hr.up x1.toSub) λlc2 H2 W2 s2 e2 x2 st2 sm2=>hk _ _ W2 s2 e2 (x1.trans x2) st2 (sm1.trans sm2)
end
end
section
section variable {a:Addr} {env:Env} {h:Heap} {le:LE} {lc:Lc} {v:V}
variable {prog:Program} {w:World} {p:Program} {loose:TS} {mg mb:TM} {K:Frag} {b0:Heap} {cf:CF} {d n:Nat} {W:Wd} {H:Hp} {A:Around} {E:TQ} {s:Shared}
theorem FRels.put{x:Str}{c:Value}{h:Int}{t:Tok}(hv:VRel W v c):∀{fs:List (Str×V)} {es:List DictEntry},FRels W fs es→FRels W (t0 x v fs) (putL x h (.str x t) c es)
 |_,_,.nil=> .cons hv .nil
 |_,_,.cons (x:=y) (t:=u) hu r=>by
  unfold t0 putL
  by_cases q:y=x
  ·subst q
   have:(Value.str y u).isStr y=true:=by exact decide_eq_true rfl
   rw [if_pos rfl]
   simp only [this,if_true]
   exact .cons hv r
  ·have:(Value.str y u).isStr x=false:=by simp [Value.isStr,q]
   rw [if_neg q]
   simp only [this,Bool.false_eq_true,if_false]
   exact .cons hu (FRels.put hv r)
theorem FRels.length:∀{fs:List (Str×V)} {es:List DictEntry},FRels W fs es→fs.length=es.length
 |_,_,.nil=>rfl
 |_,_,.cons _ r=>by rw [List.length_cons,List.length_cons,r.length]
theorem wO(x:Str)(v:V):∀fs:List (Str×V),(t0 x v fs).length≤fs.length+1
 |[]=>by exact Nat.zero_lt_succ _
 |(y,u)::r=>by
  unfold t0
  split
  ·simp
  ·have:=wO x v r;simp only [List.length_cons];exact ow79 this
theorem BP {C x dd:Addr} {fs:List (Str×V)} {name:Str} {cv:Value} (X:K.In s.heap) (hp:qF K C name=true) (hz:fs.length≤100) (P:Priv W s.heap C x dd fs) (i:Inv w b0 W H s.heap) (hv:VRel W v cv) {Q:Unit→Shared→Prop}
  (h:∀h' tk,StepL dd W s.heap W h'→Inv w b0 W H h'→Priv W h' C x dd (t0 name v fs)→Heap.SameBut dd s.heap h'→Q () {s with heap:=h',toks:=tk}):wpAny (model prog w) A (setAttr (.ref x) name cv) Q E s:=by
 refine cX P.dict λes n e1 r=>?_
 simp only [qF,Bool.and_eq_true,beq_iff_eq] at hp
 refine oA hp λz1 p4=>?_;clear hp;refine oA z1 λz2 p3=>?_;clear z1;refine oA z2 λp1 p2=>?_;clear z2
 have I:InstAt s.heap x (instObj C dd) C (some (dictOf es n)):=⟨P.obj,rfl,rfl,e1⟩
 refine set_plain X I p1 (osa_open (s:={s with toks:=s.toks+1}) X I p2 p4 λb=>?_)
 refine oEA (any_some p3) λcd hc hd'=>?_
 have r':=FRels.put (h:=PyData.keyHash w.params name) (t:=s.toks+1) (x:=name) hv r
 have e2:(s.heap.update dd (Obj.putName name (PyData.keyHash w.params name) (.str name (s.toks+1)) cv)).get? dd=some (dictOf (putL name (PyData.keyHash w.params name) (.str name (s.toks+1)) cv es) (putN name es n)):=by
  rw [Heap.get?_update_self _ e1 (by rw [putName_dict];rfl),putName_dict]
 refine wpAny_bind (wpAny_pure (wpAny_bind (wpAny_bind (wpAny_loadPart P.obj (wpAny_bind (Looks.here (s:={s with toks:=s.toks+1}) (looks_clsIn X hc) ?_))))))
 rw [hd']
 refine wpAny_pure (a:=some dd) (wpAny_bind (wpAny_pure (wpAny_bind ?_)))
 unfold nsSet
 refine wpAny_bind (wpAny_bind (wpAny_askSetting (wpAny_pure (wpAny_bind (wpAny_mkText (wpAny_bind (wpAny_loadPart e1 ?_)))))))
 have hany:es.toArray.any (·.refKey)=false:=by rw [←Array.any_toList];exact TU r
 dsimp only [dictOf]
 rw [aRefKeyMayBeTheName_at,hany,Bool.and_false]
 refine wpAny_updatePart e1 ?_
 have hl:=r'.length
 refine wpAny_bind (wpAny_lookBehind e2 (pastItsLine_dict (by rw [List.size_toArray,sizeLine_eq,←hl];have:=wO name v fs;exact ow78 this hz)) ?_)
 have sb:Heap.SameBut dd s.heap (s.heap.update dd (Obj.putName name (PyData.keyHash w.params name) (.str name (s.toks+1)) cv)):=Heap.SameBut.update ..
 exact wpAny_pure (h _ _ (StepL.but sb ⟨_,e2⟩) (i.but P.nd.1 P.nd.2 sb) ⟨(sb.2 x P.ne).trans P.obj,(dS _ _ e2 r'),P.ne,P.nx,P.nd⟩ sb)
theorem Frs.stepL{W':Wd}{fr:List Env}{h':Heap}{L:Addr}(f:Frs b0 W fr h)(x:StepL L W h W' h')(hne:∀a∈fr.filterMap (·.frame),a≠L):Frs b0 W' fr h':=by
 obtain ⟨ff,own,fc⟩:=f
 induction fr with
 |nil=>exact ⟨trivial,(λU hm=>nomatch hm),(λU hm=>nomatch hm)⟩
 |cons env rest ih=>
  refine oAA ff λhk z1 hr=>?_;clear ff;refine t9 z1 λL' o hf hn ho hd=>?_;clear z1
  have hm:L'∈(env::rest).filterMap (·.frame):=by rw [List.filterMap_cons,hf];exact List.mem_cons_self ..
  have up:∀b∈rest.filterMap (·.frame),b∈(env::rest).filterMap (·.frame):=λb hb=>by rw [List.filterMap_cons,hf];exact List.mem_cons_of_mem _ hb
  have hL:=own L' hm
  have hc:=fc L' hm
  refine j5 (x.keep L' o ho (hne L' hm) hL.2) λn' i' sl e'=>?_
  have r:=ih (λa ha=>hne a (up a ha)) hr (λb hb=>own b (up b hb)) λb hb=>fc b (up b hb)
  refine ⟨(iAA hk (uL L' _ hf hn e' hd) r.ff),λb hb=>?_,λb hb o' ho'=>?_⟩
  ·rw [List.filterMap_cons,hf] at hb
   rcases List.mem_cons.mp hb with q|hb
   ·subst q;exact ⟨i'.trans hL.1,n'⟩
   ·exact r.own b hb
  ·rw [List.filterMap_cons,hf] at hb
   rcases List.mem_cons.mp hb with q|hb
   ·subst q;rw [e'] at ho';cases ho';exact hc o ho
   ·exact r.fcls b hb o' ho'
theorem Frs.ne{fr:List Env}{o:Obj}(f:Frs b0 W fr h)(e:h.get? a=some o)(hc:o.cls≠ .type "frame"):∀b∈fr.filterMap (·.frame),b≠a:=λ b hb q=>hc (f.fcls b hb o (q▸e))
theorem EnvOk.stepL{W':Wd}{h':Heap}{L:Addr}(f:EnvOk W le lc env h)(x:StepL L W h W' h')(hne:env.locals≠L):EnvOk W' le lc env h':=by
 obtain ⟨k1,k2,k3,k4,k5,k6,k7,k8,⟨m,⟨o,es,ep,ho,hd,r⟩,hm⟩,k9,k10,k11,k12⟩:=f
 refine j5 (x.keep _ o ho hne k10.2) λn' i' sl e'=>?_
 refine ⟨k1,k2,k3,k4,k5,k6,k7,k8,(iEA m (cE _ es ep e' hd r) (λy v hy=>?_)),λy l hk hy=>?_,⟨i'.trans k10.1,n'⟩,λhf o' ho'=>?_,λL hf=>let ⟨o,e⟩:=k12 L hf;x.dom L o e⟩
 ·refine oEA (hm y v hy) λcv a b=>?_
  exact (iEA cv a (b.up x.toSub))
 ·refine cX (k9 y l hk hy) λa off p q=>?_
  exact (dS a off p (x.toSub.at q))
 ·rw [e'] at ho';cases ho';exact k11 hf o ho
theorem EnvOk.sub{l2:Lc}(f:EnvOk W le (lc++l2) env h):EnvOk W le lc env h:=by
 obtain ⟨k1,k2,k3,k4,k5,k6,k7,k8,⟨m,hns,hm⟩,k9,k10,k11,k12⟩:=f
 exact ⟨k1,k2,k3,k4,k5,k6,k7,k8,(iEA m hns (λy v hy=>hm y v (by rw [jJ,hy];rfl))),k9,k10,k11,k12⟩
theorem EnvOk.apart{o:Obj}(f:EnvOk W le lc env h)(hf:env.frame=some env.locals)(e:h.get? a=some o)(hc:o.cls≠ .type "frame"):env.locals≠a:=λ q=>hc (f.cl hf o (q▸e))
theorem p9 (B:Bas p loose mg mb K b0) (i:Inv w b0 W H s.heap) {le:LE} {lc:Lc} {env:Env} {x:Addr} {pos:Pos} (eo:EnvOk W le (lc++[(d1,.fix (.ref x))]) env s.heap) (h1:cO le d1=some .loc) (h2:lc.lookup d1=none)
  {Q:TQ} (h:∀W' s',Step W s.heap W' s'.heap→Inv w b0 W' H s'.heap→Same s s'→Q (.ref x) s'):wpAny (model prog w) A (eval (.Name d1 pos) env) Q E s:=by
 refine fD (v:= .fix (.ref x)) B i eo ?_ λcv W' s' st i' r sm=>?_
 ·unfold jU
  rw [h1]
  show (lc++[(d1,V.fix (.ref x))]).lookup d1=_
  rw [jJ,h2]
  exact rfl
 ·cases r
  exact h W' s' st i' sm
theorem pS{v c:Value}(h:VRel W (.fix v) c):c=v:=by cases h;rfl
theorem qD(e:mP v=some a):v= .fix (.ref a):=by
 unfold mP at e
 split at e
 ·cases e;rfl
 ·cases e
theorem zC{ts:List Expr}{q:Str×Str}(h:pT ts=some q):∃xp ap,ts=[.Attribute (.Name q.1 xp) q.2 ap]:=by
 unfold pT at h
 refine oEA (Option.bind_eq_some_iff.mp h) λt h1 g1=>?_
 refine oEA (Option.bind_eq_some_iff.mp g1) λa h2 g2=>?_
 refine oEA (Option.map_eq_some_iff.mp g2) λy h3 g3=>?_
 have h1:=mT h1
 have h2:=oD h2
 have h3:=fJ h3
 subst g3
 exact (iEE y.2 a.2.2 (by rw [h1,h2,h3]))
theorem G3{e:Expr}{q:Str×Str×Str×List Expr×Pos×Bool}(h:G4 e=some q):∃bp ap xp,e= .Call (.Attribute (.Name q.1 bp) q.2.1 ap) (.Name q.2.2.1 xp::q.2.2.2.1) [] q.2.2.2.2.1∧q.2.2.2.2.2=(ap.endLine==q.2.2.2.2.1.line):=by
 unfold G4 at h
 obtain ⟨⟨f,as,ks,p⟩,h1,g⟩:=Option.bind_eq_some_iff.mp h
 clear h
 have h1:=oC h1
 dsimp only at h1 g
 split at g
 ·rename_i hks
  refine oEA (Option.bind_eq_some_iff.mp g) λa h2 g1=>?_
  have h2:=oD h2
  refine oEA (Option.bind_eq_some_iff.mp g1) λb h3 g2=>?_
  have h3:=fJ h3
  cases as with
  |nil=>cases g2
  |cons x args=>
   refine oEA (Option.map_eq_some_iff.mp g2) λy h4 g3=>?_
   have h4:=fJ h4
   subst g3
   exact (AO b.2 a.2.2 y.2 (by rw [h1,h2,h3,h4,List.isEmpty_iff.mp hks]) rfl)
 ·cases g
theorem CE{w:Option Where}(h:uJ w=true):w=some .glob:=by
 unfold uJ at h
 split at h
 ·rfl
 ·cases h
abbrev zV (prog:Program) (w:World) (K:Frag) (b0:Heap) (cf:CF) (n:Nat) (C:Addr) (rest:List Stmt) (le:LE) (lc:Lc) (k:List (Str×V)→Hp→Res) (R:Res) (A:Around) (W:Wd) (s:Shared) (env:Env) (x dd:Addr) (Q:Flow→Shared→Prop) (E:TQ):Prop:=
 ∀fs' H' W' s',init K cf n C rest le lc H' fs' k=R→StepL dd W s.heap W' s'.heap→Inv w b0 W' H' s'.heap→Priv W' s'.heap C x dd fs'→Same s s'→wpAny (model prog w) A (execs rest env) Q E s'
section
variable {C x dd:Addr} {rest:List Stmt} {le:LE} {lc:Lc} {fs:List (Str×V)} {k:List (Str×V)→Hp→Res} {R:Res} {fr:List Env} {env:Env} {Q:Flow→Shared→Prop}
theorem FI (B:Bas p loose mg mb K b0) (S:d0 prog w K b0 cf d n) {xp ap pos:Pos} {name:Str} {value:Expr} (h:ev K cf n value le lc H (λv H=>init K cf n C rest le lc H (t0 name v fs) k) noX=R) (hR:R≠ .stuck) (g:Gd d n le.hd fr A) (hw:cO le d1=some .loc) (hl:lc.lookup d1=none) (F:Frs b0 W fr s.heap) (i:Inv w b0 W H s.heap) (eo:EnvOk W le (lc++[(d1,.fix (.ref x))]) env s.heap) (P:Priv W s.heap C x dd fs)
  (hput:qF K C name=true) (hz:fs.length≤100) (key:zV prog w K b0 cf n C rest le lc k R A W s env x dd Q E):wpAny (model prog w) A (execs (.Assign [.Attribute (.Name d1 xp) name ap] value pos::rest) env) Q E s:=by
 refine wpAny_execs_cons (wpAny_Assign_stores ?_ ?_ rfl)
 ·refine S.ev _ _ _ _ _ _ _ h hR fr A W s env _ E g F i eo.sub (λv H1 cv W1 s1 e1 st1 i1 r1 sm1=>?_) (XOk.no hR E)
  show wpAny _ _ (assign (.Attribute (.Name d1 xp) name ap) env cv) _ _ _
  rw [arm_assign_Attribute]
  refine wpAny_bind (wpAny_holding (p9 B i1 (eo.step st1) hw hl λW2 s2 st2 i2 sm2=>?_))
  have st:=st1.trans st2
  refine wpAny_bind (wpAny_standAt (wpAny_bind (wpAny_holding (BP (B.X.keeps i2.kb) hput hz (P.step st) i2 (r1.up st2.toSub) λh' tk x' i' P' sb=>wpAny_release ?_))))
  exact key _ _ _ {s2 with heap:=h',toks:=tk} e1 ((StepL.of st dd).trans x') i' P' ((sm1.trans sm2).trans rfl)
 ·cases value<;>rfl
theorem CI (B:Bas p loose mg mb K b0) (S:d0 prog w K b0 cf d n) {bp ap xp p' ep:Pos} {b m:Str} {args:List Expr} {Bc fI:Addr} (hev:evs K cf n args le lc H (λvs H=>make K cf n C fI vs H fs (λfs H=>init K cf n C rest le lc H fs k)) noX=R) (hR:R≠ .stuck) (g:Gd d n le.hd fr A) (hhd:le.hd=true) (hw:cO le d1=some .loc) (hl:lc.lookup d1=none) (F:Frs b0 W fr s.heap) (i:Inv w b0 W H s.heap) (eo:EnvOk W le (lc++[(d1,.fix (.ref x))]) env s.heap) (P:Priv W s.heap C x dd fs)
  (hlen:args.length≤20) (hns:noStar args=true) (hline:ap.endLine=p'.line) (hwb:cO le b=some .glob) (hbv:glob K b=some (.fix (.ref Bc))) (hfI:GJ K Bc m=some fI) (hcal:bB K (.ref fI)=true) (key:zV prog w K b0 cf n C rest le lc k R A W s env x dd Q E):
  wpAny (model prog w) A (execs (.Expr (.Call (.Attribute (.Name b bp) m ap) (.Name d1 xp::args) [] p') ep::rest) env) Q E s:=by
 have hint:interactive env=false:=by unfold interactive;rw [eo.kind];rfl
 refine wpAny_execs_cons (wpAny_Expr_any ?_ hint rfl)
 refine oB rfl (by simpa using hline) (by exact hns) (by rw [List.length_cons];exact ow77 hlen) ?_
 refine fD (v:= .fix (.ref Bc)) B i eo.sub (by unfold jU;rw [hwb];exact hbv) λcv W1 s1 st1 i1 r1 sm1 pl=>?_
 have z9:=pS r1;subst z9
 refine oA (d3 hfI) λhcl hfI=>?_
 rw [Bool.and_eq_true,beq_iff_eq] at hcl
 cases hfc:findCls K (.ref Bc) (.type "type") m with
 |none=>rw [hfc] at hfI;exact ns hfI
 |some q=>
  rw [hfc] at hfI
  obtain ⟨f,rfl⟩:∃f,q= .val (.ref f):=by
   cases q with
   |val v=>cases v with
    |ref f=>exact ⟨f,rfl⟩
    |_=>exact ns hfI
   |_=>exact ns hfI
  have z9:=Option.some.inj hfI;clear hfI;subst z9
  refine method_cls (B.X.keeps i1.kb) hcl.2 (cls_value (B.X.keeps i1.kb) hcl.1 hfc rfl ?_)
  have eo1:=eo.step st1
  refine xO (K:=K) hcal (show noStar (.Name d1 xp::args)=true from hns) (wpAny_items_cons (p9 (s:={s1 with toks:=s1.toks+1}) B i1 eo1 hw hl λW2 s2 st2 i2 sm2=>?_) rfl)
  have st:=st1.trans st2
  refine S.evs _ _ _ _ _ _ _ hev hR fr A W2 s2 env p' _ E g (F.step st) i2 (eo.step st).sub (λvs H3 cs W3 s3 e3 st3 i3 r3 sm3=>⟨B.X.keeps i3.kb,?_⟩) (XOk.no hR E)
  refine wpAny_call ?_
  have st':=st.trans st3
  refine S.make _ _ _ _ _ _ _ e3 hR fr A W3 s3 x dd cs _ (g.hdt hhd) (F.step st') i3 r3 (P.step st') λfs' H' W' s' e x' i' P' sm=>?_
  exact key _ _ _ s' e ((StepL.of st' dd).trans x') i' P' (((sm1.trans (Same.tok _ _)).trans (sm2.trans sm3)).trans sm)
end
theorem UC(B:Bas p loose mg mb K b0)(S:d0 prog w K b0 cf d n):G0 prog w K b0 cf d (n+1):=by
 intro C body le lc H fs k R h hR fr A W s env x dd Q E g hhd hw hl hf F i eo P hk
 have g':=g.le (Nat.le_succ n)
 cases body with
 |nil=>exact wpAny_execs_nil (hk fs H W s h (StepL.refl _ _ _) i P rfl)
 |cons st rest=>
 have key:zV prog w K b0 cf n C rest le lc k R A W s env x dd Q E:=by
  intro fs' H' W' s' e st i' P' sm
  refine cX P.dict λes m e1 U=>?_
  have nd:(dictOf es m).cls≠ .type "frame":=by unfold dictOf;simp
  exact S.init _ _ _ _ _ _ _ _ e hR fr A W' s' env x dd Q E g' hhd hw hl hf (F.stepL st (F.ne e1 nd)) i' (eo.stepL st (eo.apart hf e1 nd)) P' λfs'' H'' W'' s'' e' st' i'' P'' sm'=>hk fs'' H'' W'' s'' e' (st.trans st') i'' P'' (sm.trans sm')
 clear hk
 cases st with
 |Assign ts value pos=>
  refine oEA (bQ (show ob (pT ts) (λ q=>gd (q.1==Str.ofString "self"&&qF K C q.2&&decide (fs.length≤100))
    (ev K cf n value le lc H (λv H=>init K cf n C rest le lc H (t0 q.2 v fs) k) noX))=R from h) hR) λq hq h=>?_
  refine oEE (zC hq) λxp ap z1=>?_;subst z1
  refine oA (bU h hR) λhc h=>?_
  simp only [Bool.and_eq_true,beq_iff_eq,decide_eq_true_eq] at hc
  rw [show q.1=d1 from hc.1.1]
  exact FI B S h hR g' hw hl F i eo P hc.1.2 hc.2 key
 |Expr e ep=>
  refine oEA (bQ (show ob (G4 e) (λ q=>gd (q.2.2.1==Str.ofString "self"&&decide (q.2.2.2.1.length≤20)&&noStar q.2.2.2.1&&q.2.2.2.2.2&&uJ (cO le q.1))
    (ob (glob K q.1) λbv=>ob (mP bv) λB=>ob (GJ K B q.2.1) λfI=>gd (bB K (.ref fI)) (evs K cf n q.2.2.2.1 le lc H (λvs H=>make K cf n C fI vs H fs (λfs H=>init K cf n C rest le lc H fs k)) noX)))=R from h) hR) λq hq h=>?_
  refine kA (G3 hq) λbp ap xp z1 hln=>?_;subst z1
  refine oA (bU h hR) λhc h=>?_
  simp only [Bool.and_eq_true,beq_iff_eq,decide_eq_true_eq] at hc
  refine oEA (bQ h hR) λbv hbv h=>?_
  refine oEA (bQ h hR) λBc hB h=>?_
  refine oEA (bQ h hR) λfI hfI h=>?_
  refine oA (bU h hR) λhcal h=>?_
  rw [show q.2.2.1=d1 from hc.1.1.1.1]
  exact CI B S h hR g' hhd hw hl F i eo P hc.1.1.1.2 hc.1.1.2 hc.1.2 (CE hc.2) (by rw [hbv,qD hB]) hfI hcal key
 |_=>exact aR h hR
end
end
section
section
variable {prog:Program} {w:World} {p:Program} {loose:TS} {mg mb:TM} {K:Frag} {b0:Heap} {cf:CF} {d n:Nat} {W:Wd} {H:Hp} {A:Around} {E:TQ} {s:Shared}
theorem sL{x:Str×V}:∀{r:TS} {vs:TL},x∈r.zip vs→x.1∈r:=λh=>(List.of_mem_zip h).1
theorem xR{fd:FuncData}{v u:V}{args:TL}{bs:Lc}{a:Str}{r:TS}(e:hM K fd (v::args)=some bs)(hn:fd.params.args.map (·.arg)=a::r):
  ∃t,bs=(a,v)::t∧hM K fd (u::args)=some ((a,u)::t)∧∀x∈t,x.1∈r:=by
 unfold hM at e ⊢
 simp only [Option.bind_eq_some_iff] at e
 refine oEA e λds hd e=>?_
 rw [hd,Option.bind_some]
 simp only [hn,List.length_cons] at e ⊢
 split at e
 ·rename_i h1
  cases e
  rw [if_pos h1]
  exact (cM _ (List.zip_cons_cons ..) (by rw [List.zip_cons_cons]) (λx hx=>sL hx))
 ·rename_i h1
  split at e
  ·rename_i h2
   cases e
   rw [if_neg h1,if_pos h2]
   refine (cM (r.zip (args++ds.drop (args.length+1+ds.length - (r.length+1)))) (by rw [List.cons_append,List.zip_cons_cons]) (by rw [List.cons_append,List.zip_cons_cons]) (λx hx=>sL hx))
  ·cases e
theorem iK{le:LE}:∀{bs lc:Lc} {H:Hp},(∀x∈bs,le.scope.names.lookup x.1=some .local)→eZ le bs lc H=some (bs.reverse++lc,H)
 |[],lc,H,_=>rfl
 |(x,v)::r,lc,H,h=>by
  unfold eZ
  rw [h (x,v) (List.mem_cons_self ..)]
  dsimp only
  rw [iK λy hy=>h y (List.mem_cons_of_mem _ hy)]
  simp
theorem lK{scope:Scope}(h:(scope.names.all λp=>p.2 != .cell)=true)(n:Nat):cellsFor scope n=[]:=by
 unfold cellsFor
 generalize scope.names=l at h
 induction l generalizing n with
 |nil=>rfl
 |cons q r ih=>
  rw [List.all_cons,Bool.and_eq_true] at h
  obtain ⟨x,kd⟩:=q
  unfold cellsFor.go
  have:(kd==NameKind.cell)=false:=by simpa using h.1
  rw [this]
  exact ih n h.2
theorem kF{β:Type}{x:Str}:∀{l:List (Str×β)},(∀y∈l,y.1≠x)→l.lookup x=none
 |[],_=>rfl
 |(y,v)::r,h=>by
  rw [List.lookup_cons]
  have h1:(x==y)=false:=by simpa using λq:x=y=>h (y,v) (List.mem_cons_self ..) q.symm
  rw [h1]
  exact kF λz hz=>h z (List.mem_cons_of_mem _ hz)
theorem rM{fd:FuncData}(h:uO K fd=true)(hc:(fd.scope.names.all λp=>p.2 != .cell)=true):∀x∈fd.params.args.map (·.arg),fd.scope.names.lookup x=some .local:=by
 intro x hx
 unfold uO at h
 simp only [Bool.and_eq_true] at h
 have h1:=h.1.2
 refine oEA (List.mem_map.mp hx) λa ha z1=>?_;subst z1
 have h2:=List.all_eq_true.mp h1 a ha
 simp only [Bool.or_eq_true,beq_iff_eq] at h2
 rcases h2 with h2|h2
 ·exact h2
 ·exfalso
  have:∀l:List (Str×NameKind),(l.all λp=>p.2 != .cell)=true→l.lookup a.arg≠some .cell:=by
   intro l
   induction l with
   |nil=>intro _ q;cases q
   |cons q r ih=>
    obtain ⟨y,kd⟩:=q
    intro hl
    rw [List.all_cons,Bool.and_eq_true] at hl
    rw [List.lookup_cons]
    split
    ·intro q;cases q;cases hl.1
    ·exact ih hl.2
  exact this _ hc h2
theorem T4(B:Bas p loose mg mb K b0)(S:d0 prog w K b0 cf d n):GZ prog w K b0 cf d (n+1):=by
 intro C fI args H fs k R h hR fr A W s x dd cargs rr g F i ha P hk
 unfold make at h
 refine oEA (bQ h hR) λfd hfd h1=>?_
 refine oA (bU h1 hR) λhok h2=>?_
 refine oEA (bQ h2 hR) λbs hbs h3=>?_
 refine oEA (bQ h3 hR) λbody hbody h4=>?_
 clear h h1 h2 h3
 simp only [Bool.and_eq_true,beq_iff_eq] at hok
 refine oA hok λz1 hself=>?_;clear hok;refine oA z1 λhok hcell=>?_;clear z1
 obtain ⟨r,hr⟩:∃r,fd.params.args.map (·.arg)=d1::r:=by
  cases q:fd.params.args.map (·.arg) with
  |nil=>rw [q] at hself;cases hself
  |cons a r=>rw [q] at hself;cases hself;exact ⟨r,rfl⟩
 refine eV (xR (u:= .fix (.ref x)) hbs hr) λt z1 hbs' hmem=>?_;subst z1
 have hloc:=rM hok hcell
 have hnd:=(AR hok).and_
 rw [hr] at hloc hnd
 rw [List.nodup_cons] at hnd
 have hce:=lK hcell H.length
 have hba:eZ ⟨fd.scope,cellsFor fd.scope H.length,true⟩ ((d1,V.fix (.ref x))::t) [] (H++(cellsFor fd.scope H.length).map λU=> .cell none)=some (t.reverse++[(d1,V.fix (.ref x))],H):=by
  rw [hce]
  rw [iK]
  ·simp
  ·intro y hy
   rcases List.mem_cons.mp hy with rfl|hy
   ·exact hloc _ (List.mem_cons_self ..)
   ·exact hloc _ (List.mem_cons_of_mem _ (hmem y hy))
 have gd:=g.dep
 have gu:=g.un
 refine rE B i hfd hok hbs' hbody hba (.cons (.fix _) ha) (by show A.depth<1000;exact ow83 gd) λenv W' s' hf st sm=>codeAny_func ?_
 rw [hce] at st
 have fb:FB b0 W s.heap env (env::fr):= .inr (kK fr rfl F hf i.kb)
 refine S.init C body ⟨fd.scope,[],true⟩ t.reverse H fs k R h4 hR (env::fr) (A.deeper env) W' s' env x dd _ _ ?_ rfl ?_ ?_ hf (fb.frs st) st.inv st.eo (P.step st.step) λfs' H' W'' s'' e x' i' P' sm'=>?_
 ·exact ⟨by show Option.map _ A.frames=_;rw [g.frames];rfl,by show A.depth+1+_+_≤_;exact ow81 gd,by show A.units+3+_+_≤_;exact ow82 gu,λh=>nomatch h⟩
 ·unfold cO
  rw [if_neg (by decide),show fd.scope.names.lookup d1=some .local from hloc _ (List.mem_cons_self ..)];rfl
 ·exact kF λy hy q=>hnd.1 (q▸hmem y (List.mem_reverse.mp hy))
 ·exact hk fs' H' W'' s'' e ((StepL.of st.step dd).trans x') i' P' (sm.trans sm')
set_option tactic.hygienic true in
theorem zJ (B:Bas p loose mg mb K b0) (S:d0 prog w K b0 cf d n) {C fI:Addr} {args:TL} {cargs:List Value} {H:Hp} {k:List (Str×V)→Hp→Res} {R:Res} {fr:List Env} {A:Around} {W:Wd} {s:Shared} {Q:TQ} {E:TQ}
  (h:make K cf n C fI args H [] k=R) (hR:R≠ .stuck) (hi:uK K C=some fI) (g:Gd d (n+1) true fr A) (F:Frs b0 W fr s.heap) (i:Inv w b0 W H s.heap) (ha:VRels W args cargs)
  (hk:∀fs H' cv W' s',k fs H'=R→Step W s.heap W' s'.heap→Inv w b0 W' H' s'.heap→VRel W' (.obj C fs) cv→Same s s'→Q cv s'):wpAny (model prog w) A (call (.ref C) cargs) Q E s:=by
 unfold uK at hi
 split at hi
 ·rename_i hm
  split at hi
  ·rename_i f hf
   split at hi
   ·rename_i hfn
    cases hi
    have hty:typeIn K (.ref fI)=some (.type "function"):=beq_iff_eq.mp hfn
    have X:=B.X.keeps i.kb
    refine wpAny_call ?_
    obtain ⟨hp,gg,dr,tk,os⟩:=s
    dsimp only at F i X hk
    refine make_core (makes_of X hm) (looks_findIn X hf) (λself=>bind_fn X self hty) (.inl rfl) ?_
    have k1:∀b o,hp.get? b=some o→((hp.push emptyDict).push (instObj C hp.objs.size)).get? b=some o:=λb o e=>Heap.get?_push_of_some _ (Heap.get?_push_of_some _ e)
    have n1:hp.get? hp.objs.size=none:=iU hp
    have n2:hp.get? (hp.objs.size+1)=none:=by
     cases q:hp.get? (hp.objs.size+1) with
     |none=>rfl
     |some o=>exact absurd (Nat.lt_trans (Nat.lt_succ_self _) (Heap.lt_size q)) (Nat.lt_irrefl _)
    have st0:Step W hp W ((hp.push emptyDict).push (instObj C hp.objs.size)):=Step.of_keeps k1
    have i0:Inv w b0 W H ((hp.push emptyDict).push (instObj C hp.objs.size)):=i.keeps λa o e U=>k1 a o e
    have hx:((hp.push emptyDict).push (instObj C hp.objs.size)).get? (hp.objs.size+1)=some (instObj C hp.objs.size):=by
     have:=Heap.get?_push_size (hp.push emptyDict) (o:=instObj C hp.objs.size) rfl
     rw [Heap.size_push] at this
     exact this
    have hd:((hp.push emptyDict).push (instObj C hp.objs.size)).get? hp.objs.size=some emptyDict:=Heap.get?_push_of_some _ (Heap.get?_push_size _ rfl)
    have no:∀a,hp.get? a=none→W.I a=none∧a∉W.ads:=λa ha=>by
     constructor
     ·cases q:W.I a with
      |none=>rfl
      |some o=>have:=i.im a o q;rw [ha] at this;cases this
     ·intro m
      refine oEE (mem_ads.mp m) λl off hl=>?_
      refine dX (i.sized hl) λo ob U h2 U=>?_
      rw [ha] at h2;cases h2
    have P:Priv W ((hp.push emptyDict).push (instObj C hp.objs.size)) C (hp.objs.size+1) hp.objs.size []:=⟨hx,(dS ([]) 0 hd .nil),Nat.succ_ne_self _,no _ n2,no _ n1⟩
    have gd:=g.dep
    have gu:=g.un
    have hw:(Code.builtin "type.__call__" ⟨.ref C::cargs,[]⟩).weight=1:=by kernel_rfl
    have hu:(Code.builtin "type.__call__" ⟨.ref C::cargs,[]⟩).cUnits=1:=by kernel_rfl
    have he:(Code.builtin "type.__call__" ⟨.ref C::cargs,[]⟩).envs=[]:=by kernel_rfl
    refine S.make C fI args H [] k R h hR fr (A.under (.builtin "type.__call__" ⟨.ref C::cargs,[]⟩)) W ⟨(hp.push emptyDict).push (instObj C hp.objs.size),gg,dr,tk,os⟩ (hp.objs.size+1) hp.objs.size cargs _ ?_ (F.step st0) i0 ha P λ fs' H' W' s' e x' i' P' sm=>?_
    ·exact ⟨by unfold Around.under;dsimp only;rw [he];exact g.frames,by unfold Around.under;dsimp only;rw [hw];exact ow81 gd,by unfold Around.under;dsimp only;rw [hu];exact ow80 gu,λh=>nomatch h⟩
    ·refine ⟨rfl,?_⟩
     show Q _ _
     have st1:Step W hp W' s'.heap:=st0.thenL x' n1
     refine cX P'.dict λes m e1 r1=>?_
     have i2:=i'.put e1 P'.nd.1 P'.nd.2
     have st2:=st1.put (o:=dictOf es m) n1 P'.nd.1
     have hne:(W'.put hp.objs.size (dictOf es m)).I (hp.objs.size+1)=none:=(Wd.put_ne W' _ P'.ne).trans P'.nx.1
     have i3:=i2.put P'.obj hne P'.nx.2
     have st3:=st2.put (o:=instObj C hp.objs.size) n2 hne
     refine hk fs' H' (.ref (hp.objs.size+1)) _ s' e st3 i3 ?_ sm
     refine .obj (Wd.put_at _ _ _) ((Wd.put_ne _ _ (Ne.symm P'.ne)).trans (Wd.put_at _ _ _)) (r1.up ((Wd.put_sub P'.nd.1).trans (Wd.put_sub hne)))
   ·cases hi
  ·cases hi
 ·cases hi
end
end
section
section
variable {prog:Program} {w:World} {p:Program} {loose:TS} {mg mb:TM} {K:Frag} {b0:Heap} {cf:CF} {d n:Nat}
theorem FQ{v:V}{a:Value}(e:AS v=some a):v= .fix a:=CS e
theorem LJ{name:Str}(h:f0 name=true):∃id,Slot "list" name id∧typeOf (.builtin id)=pure (.type "method_descriptor"):=by
 simp only [f0,Bool.or_eq_true,beq_iff_eq] at h
 rcases h with (rfl|rfl)|rfl
 ·exact (iEA _ PySem.F.slot_list_append PySem.F.type_list_append)
 ·exact (iEA _ PySem.F.slot_list_pop PySem.F.type_list_pop)
 ·exact (iEA _ PySem.F.slot_list_remove PySem.F.type_list_remove)
theorem AX (C:DE prog w b0 d cf) {f:Addr} {args:TL} {cargs:List Value} {H:Hp} {hd:Bool} {k:TV} {kx:TY} {R:Res} {fr:List Env} {A:Around} {W:Wd} {s:Shared} {Q:TQ} {E:TQ}
  (h:bT (cf f args H) k kx=R) (hR:R≠ .stuck) (g:Gd d n hd fr A) (hhd:hd=false) (F:Frs b0 W fr s.heap) (i:Inv w b0 W H s.heap) (ha:VRels W args cargs) (hk:KOk w b0 W s k R Q) (hx:XOk w b0 W s kx R E):
  wpAny (model prog w) A (call (.ref f) cargs) Q E s:=by
 have gc:=g.calls hhd
 have hns:cf f args H≠ .stuck:=λq=>by rw [q] at h;exact hR h.symm
 refine wpAny_call (C f args H _ rfl hns _ fr A W s cargs g.frames gc.1 gc.2.1 gc.2.2 F i ha (λv H' cv W' s' e st i' r sm=>?_) λc H' ea T a0 W' s' e st i' fl sm=>?_)
 ·rw [e] at h
  exact hk v H' cv W' s' h st i' r sm
 ·rw [e] at h
  exact hx c H' ea T a0 W' s' h st i' fl sm
set_option tactic.hygienic true in
theorem LR(B:Bas p loose mg mb K b0)(S:d0 prog w K b0 cf d n)(C:DE prog w b0 d cf){f:Expr}{args:List Expr}{kws:List Keyword}{pos:Pos}:EvP prog w K b0 cf d (n+1) (.Call f args kws pos):=by
 intro le lc H k kx R h hR fr A W s env Q E g F i eo hk hx
 have g':=g.le (Nat.le_succ n)
 replace h:gd (kws.isEmpty&&decide (args.length≤24)&&noStar args) (match l0 f with
   |some q=>gd (fX q.1&&q.2.2.endLine==pos.line) (ev K cf n q.1 le lc H (λa H=>match a with
    | .obj C fs=>ob (dJ K q.2.1 (C,fs)) λf=>gd (bB K (.ref f))<|evs K cf n args le lc H (λvs H=>gd (!le.hd) (bT (cf f (a::vs) H) k kx)) kx
    | .loc l=>gd ((aO H l).isSome&&f0 q.2.1) (evs K cf n args le lc H (λvs H=>ob (aO H l) λxs=>ob (aM H l xs q.2.1 vs) λp=>k p.1 p.2) kx)
    |_=> .stuck) kx)
   |none=>ev K cf n f le lc H (λa H=>ob (AS a) λv=>gd (bB K v)<|match v with
    | .ref g=>(match uK K g with
      |some fI=>evs K cf n args le lc H (λvs H=>make K cf n g fI vs H [] (λfs H=>k (.obj g fs) H)) kx
      |none=>gd (g9 K g).isSome (evs K cf n args le lc H (λvs H=>gd (!le.hd) (bT (cf g vs H) k kx)) kx))
    |b=>gd (!le.hd) (evs K cf n args le lc H (λvs H=>ob (aD H b vs) λp=>k p.1 p.2) kx)) kx)=R:=h
 refine oA (bU h hR) λhg h'=>?_
 clear h
 rename _=>h
 simp only [Bool.and_eq_true,decide_eq_true_eq] at hg
 refine oA hg λz1 hns=>?_;clear hg;refine oA z1 λhk0 hlen=>?_;clear z1
 have z9:=List.isEmpty_iff.mp hk0;subst z9
 cases hf:l0 f with
 |some q=>
  rw [hf] at h
  obtain ⟨o,name,ap⟩:=q
  have z9:=oD hf;subst z9
  refine oA (bU h hR) λhc h1=>?_
  clear h
  simp only [Bool.and_eq_true,beq_iff_eq] at hc
  refine oA hc λhpb hline=>?_;clear hc
  refine oB hpb (by simpa using hline) hns hlen (S.ev _ _ _ _ _ _ _ h1 hR fr A W s env _ E g' F i eo (λu H1 cu W1 s1 e1 st1 i1 r1 sm1 pl=>?_) hx)
  dsimp only at e1
  split at e1
  ·rename_i Cc fs
   refine oEA (bQ e1 hR) λfa ef e2=>?_
   refine oA (bU e2 hR) λhcal e3=>?_
   refine EV (B.X.keeps i1.kb) i1 ef r1 (xO (K:=K) hcal hns (S.evs _ _ _ _ _ _ _ e3 hR fr A W1 s1 env pos _ E g' (F.step st1) i1 (eo.step st1) (λvs H2 cs W2 s2 e4 st2 i2 r2 sm2=>⟨B.X.keeps i2.kb,?_⟩) (hx.step st1 sm1)))
   refine oA (bU e4 hR) λhhd e5=>?_
   have st:=st1.trans st2
   have sm:=sm1.trans sm2
   exact AX C e5 hR g' (by simpa using hhd) (F.step st) i2 (.cons (r1.up st2.toSub) r2) (hk.step st sm) (hx.step st sm)
  ·rename_i l
   refine oA (bU e1 hR) λhl e2=>?_
   simp only [Bool.and_eq_true] at hl
   refine oE (Option.isSome_iff_exists.mp hl.1) λxs hxs=>?_
   refine oEA (LJ hl.2) λid slot hty=>?_
   refine cD (dL i1 hxs r1) λq off cvs m z1 g1 g2 g3=>?_;subst z1
   refine BZ g2 slot hty (xO (K:=K) rfl hns (S.evs _ _ _ _ _ _ _ e2 hR fr A W1 s1 env pos _ E g' (F.step st1) i1 (eo.step st1) (λvs H2 cs W2 s2 e4 st2 i2 r2 sm2=>⟨B.X.keeps i2.kb,?_⟩) (hx.step st1 sm1)))
   refine oEA (bQ e4 hR) λys hys e5=>?_
   refine oEA (bQ e5 hR) λpr hpr e6=>?_
   have st:=st1.trans st2
   have sm:=sm1.trans sm2
   refine eV (iY (prog:=prog) (A:=A) (E:=E) i2 hys (r1.up st2.toSub) r2 hpr (GOk.kv (GOk.step hk st sm) e6)) λid' slot' U hcall=>?_
   have z9:=oQ slot slot';subst z9
   exact hcall
  ·exact aR e1 hR
 |none=>
  rw [hf] at h
  have h1:=h
  clear h
  have hna':uB f=true:=C8 hf
  have hc:args.length≤24∧noStar args=true:=⟨hlen,hns⟩
  rw [pH hna']
  refine wpAny_bind (S.ev _ _ _ _ _ _ _ h1 hR fr A W s env _ E g' F i eo (λu H1 cu W1 s1 e1 st1 i1 r1 sm1=>?_) hx)
  refine oEA (bQ e1 hR) λv ev e2=>?_
  have z9:=FQ ev;subst z9
  have z9:=pS r1;subst z9
  refine oA (bU e2 hR) λhcal e3=>?_
  refine xO (K:=K) hcal hc.2 ?_
  split at e3
  ·rename_i ga
   split at e3
   ·rename_i fI hi
    refine S.evs _ _ _ _ _ _ _ e3 hR fr A W1 s1 env pos _ E g' (F.step st1) i1 (eo.step st1) (λvs H2 cs W2 s2 e4 st2 i2 r2 sm2=>⟨B.X.keeps i2.kb,?_⟩) (hx.step st1 sm1)
    have st:=st1.trans st2
    have sm:=sm1.trans sm2
    exact zJ B S e4 hR hi g.up (F.step st) i2 r2 λfs H' cv W' s' e st' i' r' sm'=>hk _ H' cv W' s' e (st.trans st') i' r' (sm.trans sm')
   ·refine oA (bU e3 hR) λU e4=>?_
    refine S.evs _ _ _ _ _ _ _ e4 hR fr A W1 s1 env pos _ E g' (F.step st1) i1 (eo.step st1) (λvs H2 cs W2 s2 e4 st2 i2 r2 sm2=>⟨B.X.keeps i2.kb,?_⟩) (hx.step st1 sm1)
    refine oA (bU e4 hR) λhhd e5=>?_
    have st:=st1.trans st2
    have sm:=sm1.trans sm2
    exact AX C e5 hR g' (by simpa using hhd) (F.step st) i2 r2 (hk.step st sm) (hx.step st sm)
  ·rename_i b hb
   refine oA (bU e3 hR) λhhd e4=>?_
   refine S.evs _ _ _ _ _ _ _ e4 hR fr A W1 s1 env pos _ E g' (F.step st1) i1 (eo.step st1) (λvs H2 cs W2 s2 e4 st2 i2 r2 sm2=>⟨B.X.keeps i2.kb,?_⟩) (hx.step st1 sm1)
   refine oEA (bQ e4 hR) λpr hpr e5=>?_
   have st:=st1.trans st2
   have sm:=sm1.trans sm2
   have gc:=g'.calls (by simpa using hhd)
   exact sE i2 gc.2.2 (by have:=g.u;exact ow84 this) hpr r2 (GOk.kv (GOk.step hk st sm) e5)
end
end
section
section variable {I L:Addr} {env:Env} {h h':Heap} {scope:Scope} {x:Str} {a:V} {W':Wd}
variable {prog:Program} {w:World} {p:Program} {loose:TS} {mg mb:TM} {K:Frag} {b0:Heap} {cf:CF} {d n:Nat} {W:Wd} {H H₀:Hp} {A:Around} {E:TQ} {s:Shared}
theorem BJ{k:Nat}(it:ItAt W H₀ a s.heap I k){Q:TQ}(h:Q (.ref I) s):wpAny (model prog w) A (pyIter (.ref I)) Q E s:=by
 rcases it.kinds with ⟨_,it⟩|⟨_,_,_,it⟩|⟨_,it⟩|⟨_,_,it⟩
 ·exact wpAny_pyIter_listiter it h
 ·exact wpAny_pyIter_keyiter it h
 ·exact wpAny_pyIter_tupleiter it h
 ·exact wpAny_pyIter_rangeiter it h
theorem Step.ownE{WB:Wd}{hB h h':Heap}{L:Addr}(x:Step WB hB W h)(hL:hB.get? L=none)(sb:Heap.ExtBut L h h'):Step WB hB W h':={x.toSub with
 keep:=λa o e n=>by
  refine j5 (x.keep a o e n) λn' i' sl e'=>?_
  exact (iAA n' i' ⟨sl,sb a _ (λg=>by subst g;rw [hL] at e;cases e) e'⟩)
 keepF:=λa o vs e d n=>sb a _ (λg=>by subst g;rw [hL] at e;cases e) (x.keepF a o vs e d n)
 keepX:=λa o e d n=>sb a _ (λg=>by subst g;rw [hL] at e;cases e) (x.keepX a o e d n)
 dom:=λa o e=>by
  refine oE (x.dom a o e) λo' e'=>?_
  exact ⟨o',sb a _ (λg=>by subst g;rw [hL] at e;cases e) e'⟩}
theorem kC{env:Env}{x:Str}:∀{names:List (Str×NameKind)},
  (names.map λ(n,k)=>if (k==NameKind.free&&env.scope.kind== .function&&env.kindOf n==some .cell) then (n,NameKind.cell) else (n,k)).lookup x=
   (names.lookup x).map λk=>if (k==NameKind.free&&env.scope.kind== .function&&env.kindOf x==some .cell) then .cell else k
 |[]=>rfl
 |(n,k)::r=>by
  have ih:=kC (env:=env) (x:=x) (names:=r)
  show List.lookup x ((if (k==NameKind.free&&env.scope.kind== .function&&env.kindOf n==some .cell)=true then (n,NameKind.cell) else (n,k))::_)=_
  cases hx:x==n with
  |true=>
   have hxn:=beq_iff_eq.mp hx
   subst hxn
   by_cases hc:(k==NameKind.free&&env.scope.kind== .function&&env.kindOf x==some .cell)=true
   ·rw [if_pos hc];simp only [List.lookup_cons,hx,Option.map_some];rw [if_pos hc]
   ·rw [if_neg hc];simp only [List.lookup_cons,hx,Option.map_some];rw [if_neg hc]
  |false=>
   by_cases hc:(k==NameKind.free&&env.scope.kind== .function&&env.kindOf n==some .cell)=true
   ·rw [if_pos hc];simp only [List.lookup_cons,hx];exact ih
   ·rw [if_neg hc];simp only [List.lookup_cons,hx];exact ih
noncomputable def gA(env:Env):List (Str×NameKind)→List (Str×Addr)→List (Str×Addr)
 |[],cs=>cs
 |(x,k)::r,cs=>gA env r (if k== .free then (match env.cells.lookup x with|some a=>(x,a)::cs|none=>cs) else cs)
theorem kM{f:Str×NameKind→List (Str×Addr)→Sem (ForInStep (List (Str×Addr)))}(hf:∀x k cs,f (x,k) cs=if (k==NameKind.free)=true then (do let a ←cellOf env x;pure (.yield ((x,a)::cs))) else pure (.yield cs)):
  ∀(names:List (Str×NameKind)) (cs:List (Str×Addr)),(∀q∈names,q.2= .free→(env.cells.lookup q.1).isSome=true)→forIn names cs f=pure (gA env names cs)
 |[],cs,_=>rfl
 |(x,k)::r,cs,h=>by
  rw [List.forIn_cons,hf]
  unfold gA
  by_cases hk:(k==NameKind.free)=true
  ·refine oE (Option.isSome_iff_exists.mp (h (x,k) (List.mem_cons_self ..) (beq_iff_eq.mp hk))) λa ha=>?_
   rw [if_pos hk,if_pos hk]
   unfold cellOf
   dsimp only at ha
   rw [ha]
   exact kM hf r _ λq hq=>h q (List.mem_cons_of_mem _ hq)
  ·rw [if_neg hk,if_neg hk]
   exact kM hf r _ λq hq=>h q (List.mem_cons_of_mem _ hq)
theorem lI(h:∀q∈scope.names,q.2= .free→(env.cells.lookup q.1).isSome=true):closureFor scope env=pure (gA env scope.names []):=by
 unfold closureFor
 dsimp only
 rw [kM (env:=env) (λx k cs=>rfl) _ _ h]
 rfl
theorem lJ:∀(names:List (Str×NameKind)) (cs:List (Str×Addr)),(names.map (·.1)).Nodup→(gA env names cs).lookup x=if names.lookup x=some .free∧(env.cells.lookup x).isSome=true then env.cells.lookup x else cs.lookup x
 |[],cs,_=>by exact rfl
 |(y,k)::r,cs,hn=>by
  rw [List.map_cons,List.nodup_cons] at hn
  unfold gA
  rw [lJ r _ hn.2,List.lookup_cons]
  by_cases hx:x=y
  ·subst hx
   have hr:r.lookup x=none:=kF λz hz q=>hn.1 (List.mem_map.mpr (iEA z hz q))
   simp only [hr,beq_self_eq_true,reduceCtorEq,false_and,if_false]
   by_cases hk:k= .free
   ·subst hk
    cases hc:env.cells.lookup x with
    |none=>exact rfl
    |some a=>simp
   ·have:(k==NameKind.free)=false:=by simpa using hk
    simp [this,hk]
  ·have h1:(x==y)=false:=by simpa using hx
   simp only [h1]
   have h2:(if (k==NameKind.free)=true then (match env.cells.lookup y with|some a=>(y,a)::cs|none=>cs) else cs).lookup x=cs.lookup x:=by
    split
    ·split
     ·rw [List.lookup_cons,h1]
     ·rfl
    ·rfl
   rw [h2]
structure COk (le:LE) (scope:Scope):Prop where
 kind:scope.kind= .function
 nc:∀q∈scope.names,q.2≠ .cell
 nd:(scope.names.map (·.1)).Nodup
 fr:∀q∈scope.names,q.2= .free→(∃l,le.cells.lookup q.1=some l)∧(le.scope.names.lookup q.1=some .cell∨le.scope.names.lookup q.1=some .free)
theorem nX{le:LE}(h:nY le scope=true):COk le scope:=by
 unfold nY at h
 simp only [Bool.and_eq_true,beq_iff_eq,decide_eq_true_eq] at h
 refine oA h λz1 h4=>?_;clear h;refine oA z1 λz2 h3=>?_;clear z1;refine oA z2 λh1 h2=>?_;clear z2
 refine ⟨h1,λq hq e=>?_,h3,λq hq e=>?_⟩
 ·have:=List.all_eq_true.mp h2 q hq
  rw [e] at this;cases this
 ·have:=List.all_eq_true.mp h4 q hq
  rw [e] at this
  simp only [bne_self_eq_false,Bool.false_or,Bool.and_eq_true,Bool.or_eq_true,beq_iff_eq] at this
  exact ⟨Option.isSome_iff_exists.mp this.1,this.2⟩
theorem gX{β:Type}{v:β}:∀{l:List (Str×β)},l.lookup x=some v→(x,v)∈l
 |[],h=>by cases h
 |(y,u)::r,h=>by
  rw [List.lookup_cons] at h
  by_cases q:x=y
  ·subst q;simp at h;subst h;exact List.mem_cons_self ..
  ·have:(x==y)=false:=by simpa using q
   rw [this] at h
   exact List.mem_cons_of_mem _ (gX h)
theorem lP{β:Type}{v:β}:∀{l:List (Str×β)},(l.map (·.1)).Nodup→(x,v)∈l→l.lookup x=some v
 |[],_,h=>by cases h
 |(y,u)::r,hn,h=>by
  rw [List.map_cons,List.nodup_cons] at hn
  rw [List.lookup_cons]
  rcases List.mem_cons.mp h with q|q
  ·cases q;simp
  ·have:x≠y:=λz=>hn.1 (z▸List.mem_map.mpr (iEA _ q rfl))
   have:(x==y)=false:=by simpa using this
   rw [this]
   exact lP hn.2 q
theorem GI{le:LE}{lc:Lc}{C:Addr}{m:TM}(c:COk le scope)(eo:EnvOk W le lc env h)(x:Step W h W' h')(hC:h.get? C=none)(hns:h'.Ns C m)(free:W'.I C=none∧C∉W'.ads):
  EnvOk W' ⟨scope,le.cells,le.hd⟩ [] (compEnvC scope (gA env scope.names []) C env) h'∧(compEnvC scope (gA env scope.names []) C env).frame≠some C∧closureFor scope env=pure (gA env scope.names []):=by
 have hfr:env.frame≠some C:=λq=>by
  refine oE (eo.fo C q) λo e=>?_
  rw [hC] at e;cases e
 have hcells:∀q∈scope.names,q.2= .free→∃a off l,env.cells.lookup q.1=some a∧le.cells.lookup q.1=some l∧W.ρ[l]?=some (a,off):=λq hq e=>by
  refine oA (c.fr q hq e) λz1 h2=>?_;refine oE z1 λl hl=>?_;clear z1
  refine cX (eo.cells q.1 l h2 hl) λa off h3 h4=>?_
  exact (cE a off l h3 hl h4)
 have kd:∀y,(compEnvC scope (gA env scope.names []) C env).kindOf y=(scope.names.lookup y).map λk=>if (k==NameKind.free&&env.scope.kind== .function&&env.kindOf y==some .cell) then .cell else k:=λy=>kC
 refine (iAA ⟨c.kind,eo.gl,eo.bi,λy hy=>?_,λy hy=>?_,λy hy=>?_,λy hy=>?_,λy hy=>?_,(iEA m hns (λy v hy=>by cases hy)),λy l hk hy=>?_,free,λq=>(hfr q).elim,λL hL=>?_⟩ hfr (lI λq hq e=>?_))
 ·rw [kd,oM hy];rfl
 ·rw [kd,mG hy];rfl
 ·rw [kd]
  rcases gL hy with q|q
  ·exact absurd rfl (c.nc _ (gX q))
  ·rw [show scope.names.lookup y=some .free from q]
   simp only [Option.map_some]
   split<;>(first|exact v0 rfl|exact w1 rfl)
 ·rw [kd,show scope.names.lookup y=some .local from hy];rfl
 ·exact absurd rfl (c.nc _ (gX hy))
 ·rcases hk with q|q
  ·exact absurd rfl (c.nc _ (gX q))
  ·refine cQ (hcells (y,.free) (gX q) rfl) λa off l' h1 h2 h3=>?_
   have:l'=l:=by rw [show le.cells.lookup y=some l from hy] at h2;cases h2;rfl
   subst this
   refine (dS a off ?_ (x.toSub.at h3))
   show (gA env scope.names []).lookup y=some a
   rw [lJ _ _ c.nd,if_pos ⟨q,by rw [h1];rfl⟩];exact h1
 ·refine oE (eo.fo L hL) λo e=>?_
  exact x.dom L o e
 ·refine kA (hcells q hq e) λa off l h1 U=>?_
  rw [h1];rfl
theorem Ns.stepL{W:Wd}{C:Addr}{m:TM}(hn:h.Ns C m)(x:StepL L W h W' h')(hne:C≠L)(hm:C∉W.ads):h'.Ns C m:=by
 refine cQ hn λo es ep ho hd r=>?_;clear hn
 refine j5 (x.keep C o ho hne hm) λU U sl e'=>?_
 exact (cE _ es ep e' hd r)
theorem u6 {l:Nat} {vs:TL} {v:V} {cl cv:Value} {H:Hp} {W:Wd} {s:Shared} (i:Inv w b0 W H s.heap) (hl:aO H l=some vs) (hv:VRel W (.loc l) cl) (ha:VRel W v cv) (hz:vs.length≤1000)
  {Q:TQ} (h:KV w b0 W s .none (H.set l (.list (vs++[v]))) Q):wpAny (model prog w) A (call (.builtin "list.append") [cl,cv]) Q E s:=by
 have e:aM H l vs (Str.ofString "append") [v]=some (.none,H.set l (.list (vs++[v]))):=by
  unfold aM
  rw [if_pos rfl]
  exact if_pos hz
 refine eV (iY (prog:=prog) (A:=A) (E:=E) i hl hv (.cons ha .nil) e h) λid slot U hc=>?_
 have z9:=oQ slot PySem.F.slot_list_append;subst z9
 exact hc
theorem thru{g:Prop}(h:∀G:Prop,(g→G)→G):g:=h g id
theorem Same.refl(s:Shared):Same s s:=Same.mk s s.heap s.toks
structure Itr (W:Wd) (H:Hp) (a:V) (h:Heap) (I:Addr) (j:Nat):Prop where
 it:ItAt W H a h I j
 nI:W.I I=none∧I∉W.ads
theorem Itr.go{W:Wd}{j:Nat}(q:Itr W H a h I j)(x:StepL L W h W' h')(hL:I≠L):Itr W' H a h' I j:=
 oEA q.it.obj λoi hoi hoc=>oE hoc.2 λvs hof=>
  have kk:=x.keep I oi hoi hL q.nI.2
  ⟨q.it.up x.toSub λo ho=>(hoi.symm.trans ho)▸x.keepF I oi vs hoi hof hL q.nI.2,kk.2.1.trans q.nI.1,kk.1⟩
theorem Itr.goS{W:Wd}{j:Nat}(q:Itr W H a h I j)(x:Step W h W' h'):Itr W' H a h' I j:=
 oEA q.it.obj λoi hoi hoc=>oE hoc.2 λvs hof=>
  have kk:=x.keep I oi hoi q.nI.2
  ⟨q.it.up x.toSub λo ho=>(hoi.symm.trans ho)▸x.keepF I oi vs hoi hof q.nI.2,kk.2.1.trans q.nI.1,kk.1⟩
noncomputable abbrev N5 (K:Frag) (cf:CF) (n:Nat) (tx:Str) (tp:Pos) (ifs:List Expr) (elt:Expr) (le':LE) (v:V) (H:Hp) (k':TO→Hp→Res):Res:=
 asg K cf n (.Name tx tp) v le' [] H (λlc' H=>tsts K cf n ifs le' lc' H (λc H=>if c then ev K cf n elt le' lc' H (λx H=>k' (some x) H) noX else k' none H) noX)
theorem CZ (S:d0 prog w K b0 cf d n) {elt iter:Expr} {tx:Str} {tp:Pos} {ifs:List Expr} {scope:Scope} {pos:Pos} {le':LE} {kk:Hp→Res} {R:Res} {a:V} {items:TL} {chk:Hp→Bool} {fr:List Env} {W W3:Wd} {hp:Heap} {s:Shared} {ce:Env} {I:Addr} {acc:Value} {l:Nat} {H3:Hp} {RR:Result→Shared→Prop}
  (hit:dQ H a=some (items,chk)) (hh:A.handled=none) (h:jX chk (N5 K cf n tx tp ifs elt le') l kk items H3=R) (hR:R≠ .stuck) (g:Gd d n le'.hd fr A) (fb:FB b0 W hp ce fr)
  (T:St w b0 W hp le' [] ce W3 H3 s.heap) (q:Itr W3 H a s.heap I 0) (r:VRel W3 (.loc l) acc) (hIn:hp.get? I=none) (hIC:I≠ce.locals)
  (hRR:∀H' W' s',kk H'=R→Step W hp W' s'.heap→Inv w b0 W' H' s'.heap→VRel W' (.loc l) acc→(W'.I ce.locals=none∧ce.locals∉W'.ads)→(∃m,s'.heap.Ns ce.locals m)→Same s s'→RR (.ok .next) s'):
  codeAny (model prog w) A (.compLoop (.ListComp elt [⟨.Name tx tp,iter,ifs,0⟩] scope pos) 0 (.ref I) acc ce) RR s:=by
 refine codeAny_compLoop_tests (λm s'=>∃j H' W',m=items.length+1 - j∧j≤items.length∧jX chk (N5 K cf n tx tp ifs elt le') l kk (items.drop j) H'=R∧
   St w b0 W hp le' [] ce W' H' s'.heap∧Itr W' H a s'.heap I j∧VRel W' (.loc l) acc∧Same s s') ?_ (items.length+1)
  (dR 0 _ W3 ow87 (Nat.zero_le _) (by rw [List.drop_zero];exact h) T (iAA q r (Same.refl s)))
 intro m s5 z
 refine thru λG hG=>?_
 refine oE z λj z1=>fO z1 λH5 W5 z2 hj hcf T5 z3=>oAA z3 λq5 ra5 sm5=>?_
 clear z z1 z3
 rcases Nat.lt_or_ge j items.length with hlt|hlt
 ·have hd:items.drop j=items[j]::items.drop (j+1):=List.drop_eq_getElem_cons hlt
  rw [hd] at hcf
  refine oA (bU (show gd _ _=R from hcf) hR) λhc hcf=>hG ?_
  refine tC T5.inv q5.nI.2 hit hc q5.it (List.getElem?_eq_getElem hlt) λcv h6 tk rv it6 sb6=>?_
  have T6:St w b0 W hp le' [] ce W5 H5 h6:=⟨T5.step.own hIn sb6,T5.inv.but q5.nI.1 q5.nI.2 sb6,T5.eo.stepL (StepL.but sb6 (let ⟨o,ho,_⟩:=it6.obj;⟨o,ho⟩)) (Ne.symm hIC),T5.new⟩
  refine S.asg _ _ _ _ _ _ _ hcf hR fr A W hp W5 {s5 with heap:=h6,toks:=tk} _ _ _ cv g fb T6 rv λlc7 H7 W7 s7 e7 x7 T7 sm7=>?_
  have q7:=(Itr.mk it6 q5.nI).go x7 hIC
  refine S.tsts _ _ _ _ _ _ _ e7 hR fr A W7 s7 _ _ _ g (fb.frs T7) T7.inv T7.eo (λt H8 ct W8 s8 e8 st8 i8 r8 sm8=>?_) (XOk.no hR _)
  have T8:=T7.go st8 i8
  have q8:=q7.goS st8
  have sm58:Same s s8:=((sm5.trans (Same.mk s5 h6 tk)).trans sm7).trans sm8
  have ra8:VRel W8 (.loc l) acc:=ra5.up (x7.toSub.trans st8.toSub)
  subst r8
  cases t with
  |false=>exact (iEA (items.length+1 - (j+1)) (z2▸LB hlt) (dR (j+1) H8 W8 rfl hlt e8 ⟨T8.step,T8.inv,EnvOk.sub (lc:=[]) T8.eo,T8.new⟩ (iAA q8 ra8 sm58)))
  |true=>
   refine S.ev _ _ _ _ _ _ _ e8 hR fr A W8 s8 _ _ _ g (fb.frs T8) T8.inv T8.eo (λx H9 cx W9 s9 e₉ st9 i9 r9 sm9=>?_) (XOk.no hR _)
   refine oEA (bQ e₉ hR) λvs hvs e9=>oA (bU e9 hR) λhz e10=>?_
   refine u6 i9 hvs (ra8.up st9.toSub) r9 (by simpa using hz) λcr W10 s10 st10 i10 r10 sm10=>?_
   have T10:=(T8.go st9 i9).go st10 i10
   exact (iEA (items.length+1 - (j+1)) (z2▸LB hlt) (dR (j+1) _ W10 rfl hlt e10 ⟨T10.step,T10.inv,EnvOk.sub (lc:=[]) T10.eo,T10.new⟩ (iAA ((q8.goS st9).goS st10) (ra8.up (st9.toSub.trans st10.toSub)) ((sm58.trans sm9).trans sm10))))
 ·have hje:j=items.length:=Nat.le_antisymm hj hlt
  have hd:items.drop j=[]:=by rw [hje];exact List.drop_length
  rw [hd] at hcf
  refine oA (bU (show gd _ _=R from hcf) hR) λhc hcf=>hG ?_
  refine wY hh T5.inv hit hc q5.it hje λh6 he=>?_
  refine oEA T5.eo.ns λmm hnsm U=>cQ hnsm λo es ep ho hd r=>?_
  exact hRR H5 W5 {s5 with heap:=h6} hcf (T5.step.ownE hIn he) (T5.inv.apart q5.nI.1 q5.nI.2 λb o hb e=>he b o hb e) ra5 T5.eo.free (AN mm o es ep (he _ o (Ne.symm hIC) ho) hd r) (sm5.trans (Same.mk s5 h6 s5.toks))
theorem tO (S:d0 prog w K b0 cf d n) {elt iter:Expr} {tx:Str} {tp:Pos} {ifs:List Expr} {scope:Scope} {pos:Pos} {le:LE} {lc:Lc} {H:Hp} {k:TV} {R:Res} {a:V} {it:TL×(Hp→Bool)} {fr:List Env} {W:Wd} {s:Shared} {env:Env} {c:Value}
  (hit:dQ H a=some it) (hcomp:nY le scope=true) (hhd:le.hd=false)
  (h:jX it.2 (λv H k'=>asg K cf n (.Name tx tp) v ⟨scope,le.cells,le.hd⟩ [] H (λlc' H=>tsts K cf n ifs ⟨scope,le.cells,le.hd⟩ lc' H (λc H=>
      if c then ev K cf n elt ⟨scope,le.cells,le.hd⟩ lc' H (λx H=>k' (some x) H) noX else k' none H) noX)) H.length (λH'=>k (.loc H.length) H') it.1 (H++[.list []])=R) (hR:R≠ .stuck)
  (g:Gd d n le.hd fr A) (F:Frs b0 W fr s.heap) (i:Inv w b0 W H s.heap) (eo:EnvOk W le lc env s.heap) (hv:VRel W a c) {RR:Value→Addr→Result→Shared→Prop}
  (hRR:∀acc C H' W' s',k (.loc H.length) H'=R→Step W s.heap W' s'.heap→Inv w b0 W' H' s'.heap→VRel W' (.loc H.length) acc→s.heap.get? C=none→(W'.I C=none∧C∉W'.ads)→(∃m,s'.heap.Ns C m)→Same s s'→RR acc C (.ok .next) s'):
  wpAny (model prog w) A (pyIter c) (λit s2=>wpAny (model prog w) A (newList []) (λacc s3=>wpAny (model prog w) A (newFunctionEnv scope env.globals (gA env scope.names []) [] env.qual none .none (some env)) (λcenv s4=>
   codeAny (model prog w) A (.compStart (.ListComp elt [⟨.Name tx tp,iter,ifs,0⟩] scope pos) 0 it acc {cenv with scope:=relabel scope env}) (RR acc cenv.locals) s4) E s3) E s2) E s:=by
 have cok:=nX hcomp
 obtain ⟨items,chk⟩:=it
 dsimp only at h
 refine qZ i hv hit λI oI hIn hIis hItAt hI=>?_
 have hh:=(g.calls hhd).2.2
 have st1:Step W s.heap W (s.heap.push oI):=Step.of_keeps λa o e=>Heap.get?_push_of_some _ e
 have i1:Inv w b0 W H (s.heap.push oI):=i.push1 _
 have hIW:W.I I=none∧I∉W.ads:=by rw [hI];exact ⟨i.fresh.2,i.fresh.1⟩
 refine ES (vs:=[]) (s:={s with heap:=s.heap.push oI}) i1 (λacc W3 s3 st3 i3 r3 sm3=>?_) .nil (by decide)
 have hIobj:(s.heap.push oI).get? I=some oI:=by
  refine oEA hItAt.obj λo ho U=>?_
  rw [hI] at ho ⊢
  have:=Heap.get?_push_size (h:=s.heap) (o:=oI) (by
   refine oAE hIis λhc vs hd=>?_;clear hIis
   exact Obj.isFreed_of_fields hd)
  exact this
 have hIf:∃vs,oI.data= .fields vs:=hIis.2
 refine oE hIf λivs hIf=>?_
 have kI:=st3.keep I oI hIobj hIW.2
 have hI3:W3.I I=none∧I∉W3.ads:=⟨kI.2.1.trans hIW.1,kI.1⟩
 have hItAt3:ItAt W3 H a s3.heap I 0:=hItAt.up st3.toSub λo ho=>by
  rw [hIobj] at ho;cases ho
  exact st3.keepF I oI ivs hIobj hIf hIW.2
 refine wpAny_newFunctionEnv (λx hx=>cok.nc x hx) (by intro y hy;simp at hy) (λh4 hns hsb=>?_) cok.kind
 have hCn3:s3.heap.get? s3.heap.objs.size=none:=iU _
 have st13:Step W s.heap W3 s3.heap:=st1.trans st3
 have hCn:s.heap.get? s3.heap.objs.size=none:=st13.none_of hCn3
 have keep4:∀b o,s3.heap.get? b=some o→h4.get? b=some o:=λb o e=>(hsb.2 b (λq=>by rw [q,hCn3] at e;cases e)).trans (Heap.get?_push_of_some _ e)
 have st4:Step W3 s3.heap W3 h4:=Step.of_keeps keep4
 have i4:Inv w b0 W3 (H++[.list []]) h4:=i3.keeps λb o e U=>keep4 b o e
 have free4:W3.I s3.heap.objs.size=none∧s3.heap.objs.size∉W3.ads:=⟨i3.fresh.2,i3.fresh.1⟩
 refine oAA (GI cok eo (st13.trans st4) hCn hns free4) λeo4 hfrm U=>?_
 generalize hC:s3.heap.objs.size=C at *
 have hItAt4:ItAt W3 H a h4 I 0:=hItAt3.up (Sub.refl _) λo ho=>keep4 I o ho
 have hIC:I≠C:=λq=>by
  refine oEA hItAt3.obj λo ho U=>?_
  rw [q,hCn3] at ho;cases ho
 have hfr:=eo4.free
 have loop:=CZ (RR:=RR acc C) (s:={s3 with heap:=h4,toks:=s3.toks+([]:List (Str×Value)).length}) (elt:=elt) (iter:=iter) (scope:=scope) (pos:=pos) (I:=I) S hit hh h hR g (.inl ⟨F,hfrm⟩) ⟨st13.trans st4,i4,eo4,hCn⟩ ⟨hItAt4,hI3⟩ r3 hIn hIC λH' W' s' e st i' r' hC hn sm=>hRR acc C H' W' s' e st i' r' hCn hC hn (((Same.trans (Same.mk s _ s.toks) sm3).trans (Same.mk s3 h4 _)).trans sm)
 exact codeAny_compStart_list loop (BJ hItAt4 loop)
end
end
section
section variable {C:Addr} {env:Env} {h h':Heap} {le:LE} {lc:Lc} {W:Wd}
variable {prog:Program} {w:World} {p:Program} {loose:TS} {mg mb:TM} {K:Frag} {b0:Heap} {cf:CF} {d n:Nat}
theorem sX{gens:List Comprehension}{q:Str×Pos×Expr×List Expr}(h:qQ gens=some q):gens=[⟨.Name q.1 q.2.1,q.2.2.1,q.2.2.2,0⟩]:=by
 unfold qQ at h
 refine oEA (Option.bind_eq_some_iff.mp h) λg h1 hg=>?_
 clear h
 have z9:=mT h1;subst z9
 split at hg
 ·rename_i h0
  refine oEA (Option.map_eq_some_iff.mp hg) λy h2 z1=>?_;subst z1
  have h2:=fJ h2
  obtain ⟨t,it,ifs,a⟩:=g
  dsimp only at h0 h2 ⊢
  rw [h2,h0]
 ·cases hg
theorem uA{e:Expr}{H:Hp}{k:TV}{kx:TY}{R:Res}(h:ev K cf n e le lc H k kx=R)(hR:R≠ .stuck)(env:Env)(x:Value):foldedSetIterable e env x=pure x:=by
 cases e<;>first|rfl|skip
 cases n with
 |zero=>exact aR h hR
 |succ n=>exact aR h hR
theorem AW{scope:Scope}(c:COk le scope)(eo:EnvOk W le lc env h):closureFor scope env=pure (gA env scope.names []):=
 lI λq hq e=>by
  refine oA (c.fr q hq e) λz1 h2=>?_;refine oE z1 λl hl=>?_;clear z1
  refine cX (eo.cells q.1 l h2 hl) λa off h3 h4=>?_
  rw [h3];rfl
theorem xL(S:d0 prog w K b0 cf d n){elt:Expr}{gens:List Comprehension}{scope:Scope}{pos:Pos}:EvP prog w K b0 cf d (n+1) (.ListComp elt gens scope pos):=by
 intro le lc H k kx R h hR fr A W s env Q E g F i eo hk hx
 have g':=g.le (Nat.le_succ n)
 replace h:ob (qQ gens) (λq=>gd (!le.hd&&nY le scope)<|ev K cf n q.2.2.1 le lc H (λa H=>ob (dQ H a) λit=>
     jX it.2 (λv H k'=>asg K cf n (.Name q.1 q.2.1) v ⟨scope,le.cells,le.hd⟩ [] H (λlc' H=>tsts K cf n q.2.2.2 ⟨scope,le.cells,le.hd⟩ lc' H (λc H=>
      if c then ev K cf n elt ⟨scope,le.cells,le.hd⟩ lc' H (λx H=>k' (some x) H) noX else k' none H) noX)) H.length (λH'=>k (.loc H.length) H') it.1 (H++[.list []])) kx)=R:=h
 obtain ⟨⟨tx,tp,iter,ifs⟩,hq,h'⟩:=bQ h hR
 clear h
 rename _=>h
 have z9:=sX hq;subst z9
 refine oA (bU h hR) λhc h1=>?_
 clear h
 simp only [Bool.and_eq_true,Bool.not_eq_true'] at hc
 have cok:=nX hc.2
 rw [arm_eval_ListComp]
 refine wpAny_comprehension_free (use:=none) (g:=⟨.Name tx tp,iter,ifs,0⟩) (gs:=[]) rfl (uA h1 hR env) (AW cok eo) cok.kind (λx hx hl=>lP cok.nd (by rw [←hl];exact hx))
  (S.ev _ _ _ _ _ _ _ h1 hR fr A W s env _ E g' F i eo (λa H1 c W1 s1 e1 st1 i1 r1 sm1=>?_) hx)
 refine oEA (bQ e1 hR) λit hit e2=>?_
 refine tO (RR:=λacc C=>compPost (model prog w) A E none Q acc C) S hit hc.2 hc.1 e2 hR g' (F.step st1) i1 (eo.step st1) r1 λacc C H' W' s' e st' i' ra hC free hns sm'=>?_
 refine oE hns λm hm=>?_;clear hns
 exact (iEA m hm (λh' sb=>hk _ H' acc W' {s' with heap:=h'} e (st1.trans (st'.own hC sb)) (i'.but free.1 free.2 sb) ra ((sm1.trans sm').trans (Same.mk s' h' s'.toks))))
theorem StepL.own{L:Addr}{WB:Wd}{hB:Heap}(x:StepL L WB hB W h)(hC:hB.get? C=none)(sb:Heap.SameBut C h h'):StepL L WB hB W h':={x.toSub with
 keep:=λa o e l n=>by
  refine j5 (x.keep a o e l n) λn' i' sl e'=>?_
  exact (iAA n' i' ⟨sl,(sb.2 a (λg=>by subst g;rw [hC] at e;cases e)).trans e'⟩)
 keepF:=λa o vs e d l n=>(sb.2 a (λg=>by subst g;rw [hC] at e;cases e)).trans (x.keepF a o vs e d l n)
 keepX:=λa o e d l n=>(sb.2 a (λg=>by subst g;rw [hC] at e;cases e)).trans (x.keepX a o e d l n)
 dom:=λa o e=>by
  refine oE (x.dom a o e) λo' e'=>?_
  exact ⟨o',(sb.2 a (λg=>by subst g;rw [hC] at e;cases e)).trans e'⟩}
theorem EnvOk.sameBut(f:EnvOk W le lc env h)(sb:Heap.SameBut C h h')(h1:env.locals≠C)(h2:env.frame≠some C):EnvOk W le lc env h':=by
 obtain ⟨k1,k2,k3,k4,k5,k6,k7,k8,⟨m,⟨o,es,ep,ho,hd,r⟩,hm⟩,k9,k10,k11,k12⟩:=f
 have e':=(sb.2 _ h1).trans ho
 exact ⟨k1,k2,k3,k4,k5,k6,k7,k8,(iEA m (cE _ es ep e' hd r) hm),k9,k10,λhf o' ho'=>by rw [e'] at ho';cases ho';exact k11 hf o ho,
  λL hf=>let ⟨o,e⟩:=k12 L hf;⟨o,(sb.2 L (λq=>h2 (q▸hf))).trans e⟩⟩
theorem St.own{WB:Wd}{hB:Heap}{H:Hp}(t:St w b0 WB hB le lc env W H h)(hC:hB.get? C=none)(free:W.I C=none∧C∉W.ads)(h1:env.locals≠C)(h2:env.frame≠some C)(sb:Heap.SameBut C h h'):St w b0 WB hB le lc env W H h':=
 ⟨t.step.own hC sb,t.inv.but free.1 free.2 sb,t.eo.sameBut sb h1 h2,t.new⟩
theorem EnvOk.there(eo:EnvOk W le lc env h):∃o,h.get? env.locals=some o:=by
 refine oEA eo.ns λm z1 U=>?_;refine kA z1 λo es ep ho U=>?_;clear z1
 exact ⟨o,ho⟩
theorem GH (S:d0 prog w K b0 cf d n) (S':d0 prog w K b0 cf d (n+1)) {elt t:Expr} {gens:List Comprehension} {scope:Scope} {pos:Pos} {le:LE} {lc:Lc} {H:Hp} {k:Lc→Hp→Res} {kx:TY} {R:Res}
  (h:ev K cf (n+1) (.ListComp elt gens scope pos) le lc H (λv H=>asg K cf (n+1) t v le lc H k) kx=R) (hR:R≠ .stuck) {fr:List Env} {A:Around} {WB W:Wd} {hB:Heap} {s:Shared} {env:Env} {Q:TQ} {E:TQ}
  (g:Gd d (n+1) le.hd fr A) (fb:FB b0 WB hB env fr) (T:St w b0 WB hB le lc env W H s.heap) (hx:XOk w b0 W s kx R E)
  (hk:∀lc' H' W' s',k lc' H'=R→StepL env.locals W s.heap W' s'.heap→St w b0 WB hB le lc' env W' H' s'.heap→Same s s'→Q .none s'):
  wpAny (model prog w) A (comprehension (.ListComp elt gens scope pos) scope env (firstIterPos gens pos) (newList []) (firstAsync gens) (firstIter gens env) (some λv=>assign t env v)) Q E s:=by
 have g':=g.le (Nat.le_succ n)
 have F:=fb.frs T
 have eo:=T.eo
 have i:=T.inv
 replace h:ob (qQ gens) (λq=>gd (!le.hd&&nY le scope)<|ev K cf n q.2.2.1 le lc H (λa H=>ob (dQ H a) λit=>
     jX it.2 (λv H k'=>asg K cf n (.Name q.1 q.2.1) v ⟨scope,le.cells,le.hd⟩ [] H (λlc' H=>tsts K cf n q.2.2.2 ⟨scope,le.cells,le.hd⟩ lc' H (λc H=>
      if c then ev K cf n elt ⟨scope,le.cells,le.hd⟩ lc' H (λx H=>k' (some x) H) noX else k' none H) noX)) H.length (λH'=>asg K cf (n+1) t (.loc H.length) le lc H' k) it.1 (H++[.list []])) kx)=R:=h
 obtain ⟨⟨tx,tp,iter,ifs⟩,hq,h'⟩:=bQ h hR
 clear h
 rename _=>h
 have z9:=sX hq;subst z9
 refine oA (bU h hR) λhc h1=>?_
 clear h
 simp only [Bool.and_eq_true,Bool.not_eq_true'] at hc
 have cok:=nX hc.2
 refine wpAny_comprehension_free (use:=some λv=>assign t env v) (g:=⟨.Name tx tp,iter,ifs,0⟩) (gs:=[]) rfl (uA h1 hR env) (AW cok eo) cok.kind (λx hx hl=>lP cok.nd (by rw [←hl];exact hx))
  (S.ev _ _ _ _ _ _ _ h1 hR fr A W s env _ E g' F i eo (λa H1 c W1 s1 e1 st1 i1 r1 sm1=>?_) hx)
 refine oEA (bQ e1 hR) λit hit e2=>?_
 refine tO (k:=λv H=>asg K cf (n+1) t v le lc H k) (RR:=λacc C=>compPost (model prog w) A E (some λv=>assign t env v) Q acc C) S hit hc.2 hc.1 e2 hR g' (F.step st1) i1 (eo.step st1) r1 λacc C H' W' s' e st' i' ra hC free hns sm'=>?_
 refine oE hns λm hm=>?_;clear hns
 have st:=st1.trans st'
 have T':=T.go st i'
 have hCs:s.heap.get? C=none:=st1.none_of hC
 have hCB:hB.get? C=none:=T.step.none_of hCs
 have hne:C≠env.locals:=λq=>by
  refine oE eo.there λo ho=>?_
  rw [←q,hCs] at ho;cases ho
 refine S'.asg _ _ _ _ _ _ _ e hR fr A WB hB W' s' env _ E acc g fb T' ra λlc'' H'' W'' s'' e' x'' T'' sm''=>?_
 have hm'':=Ns.stepL hm x'' hne free.2
 refine kA hm λo es ep ho U=>?_;clear hm
 have kk:=x''.keep C o ho hne free.2
 have free'':W''.I C=none∧C∉W''.ads:=⟨kk.2.1.trans free.1,kk.1⟩
 refine (iEA m hm'' (λh' sb=>?_))
 have hfr:env.frame≠some C:=λq=>by
  refine oE (eo.fo C q) λo e=>?_
  rw [hCs] at e;cases e
 exact hk lc'' H'' W'' {s'' with heap:=h'} e' (((StepL.of st _).trans x'').own hCs sb) (T''.own hCB free'' (Ne.symm hne) hfr sb) (((sm1.trans sm').trans sm'').trans (Same.mk s'' h' s''.toks))
end
end
section
section
variable {prog:Program} {w:World} {p:Program} {loose:TS} {mg mb:TM} {K:Frag} {b0:Heap} {cf:CF} {d n:Nat}
theorem ev_S(B:Bas p loose mg mb K b0)(C:DE prog w b0 d cf)(S:d0 prog w K b0 cf d n):∀e,EvP prog w K b0 cf d (n+1) e:=by
 intro e
 cases e with
 |Constant c k pos=>
  intro le lc H k kx R h hR fr A W s env Q E g F i eo hk hx
  replace h:ob (uZ c) (λv=>k v H)=R:=h
  refine oEA (bQ h hR) λv hv h'=>?_
  clear h
  rename _=>h
  exact pA i hv (GOk.kv hk h)
 |Name x pos=>
  intro le lc H k kx R h hR fr A W s env Q E g F i eo hk hx
  replace h:ob (jU K le lc H x) (λv=>k v H)=R:=h
  refine oEA (bQ h hR) λv hv h'=>?_
  clear h
  rename _=>h
  exact fD B i eo hv (GOk.kv hk h)
 |BinOp=>exact FZ S
 |UnaryOp=>exact zD S
 |Compare=>exact zE S
 |IfExp=>exact FY S
 |Tuple=>exact FX S
 |List=>exact LO S
 |Dict=>exact LQ S
 |Attribute=>exact uT B S
 |Subscript=>exact uS S
 |Call=>exact LR B S C
 |ListComp=>exact xL S
 |_=>
  intro le lc H k kx R h hR fr A W s env Q E g F i eo hk hx
  exact aR h hR
theorem zM(B:Bas p loose mg mb K b0)(C:DE prog w b0 d cf):∀n,d0 prog w K b0 cf d n
 |0=>{
   ev:=λe le lc H k kx R h hR=>aR h hR
   evs:=λe le lc H k kx R h hR=>aR h hR
   evo:=λe le lc H k kx R h hR=>aR h hR
   evd:=λe le lc H k kx R h hR=>aR h hR
   tst:=λe le lc H k kx R h hR=>aR h hR
   ands:=λe le lc H k kx R h hR=>aR h hR
   ors:=λe le lc H k kx R h hR=>aR h hR
   tsts:=λe le lc H k kx R h hR=>aR h hR
   asg:=λt v le lc H k R h hR=>aR h hR
   asgs:=λt v le lc H k R h hR=>aR h hR
   make:=λC fI args H fs k R h hR=>aR h hR
   init:=λC body le lc H fs k R h hR=>aR h hR}
 |n+1=>
  have S:=zM B C n
  {ev:=ev_S B C S,evs:=evs_S S,evo:=evo_S S,evd:=evd_S S,tst:=tst_S S,ands:=UV S,ors:=ors_S S,tsts:=OH S,asg:=asg_S B S,asgs:=UU S,make:=T4 B S,init:=UC B S}
end
end
section
open Builtin Builtin.ObjectAttr
section variable {rest:List Value}
variable {prog:Program} {w:World} {A:Around} {R:Result→Shared→Prop} {h:Heap} {g:Array GenState} {d:Drawn} {t:Nat} {os:OsState}
variable {nm q:Str} {C N m:Addr} {bs:List Value} {hdct:Bool} {sn:TS} {sub:List Value} {ab:Bool} {col:Option Bool} {dd:Option Addr} {k0 k1 k2 k3 k5:Option Value}
abbrev ExC (h:Heap) (nm q:Str) (C N m:Addr) (bs:List Value) (hdct:Bool) (sn:TS) (sub:List Value) (ab:Bool) (col:Option Bool) (dd:Option Addr) (k0 k1 k2 k3 k5:Option Value):Prop:=
 h.get? C=some (excClassObj nm q C N bs (dG m) hdct sn sub ab col dd k0 k1 k2 k3 k5 "Exception.__new__")
abbrev bV (rest:List Value):Obj:={cls:= .type "tuple",data:= .seq rest.toArray}
abbrev d6 (C t:Addr):Obj:={cls:= .ref C,data:= .fields #[.ref t,.none,.none,.none,.bool false,.none]}
theorem LN (hC:ExC h nm q C N m bs hdct sn sub ab col dd k0 k1 k2 k3 k5) (hrest:rest.length≤sizeLine)
  (hq:R (.ok (.ret (.ref (h.objs.size+1)))) ⟨(h.push (bV rest)).push (d6 C h.objs.size),g,d,t,os⟩):
  codeAny (model prog w) A (.call (.builtin "Exception.__new__") ⟨.ref C::rest,[]⟩) R ⟨h,g,d,t,os⟩:=by
 have F:=PySem.F.excBase_Exception
 have hcB:(Value.ref C::dG m).contains (.type "Exception")=true:=by unfold dG;exact rfl
 have hcA:(Value.ref C::dG m).contains (.type "AttributeError")=false:=by unfold dG;exact rfl
 have hcN:(Value.ref C::dG m).contains (.type "NameError")=false:=by unfold dG;assumption
 refine codeAny_call_builtin_code (Code.quiet_builtin _ F.quiet) ?_
 have hstar:=F.noStar
 simp only [checkBuiltinCall,F.newKind,F.newSplit,F.newRow]
 repeat (first|refine wpAny_loadPart_at hC ?_|(refine wpAny_isSubtype_exc hC ?_;rw [hcB])|refine wpAny_staticBase_exc hC ?_|refine wpAny_madeBy_exc hC ?_|simp only [bne_self_eq_false,Bool.false_eq_true,if_false]|wp_step)
 have hends:=F.ends
 refine codeAny_builtinAt F.entry ?_
 unfold Builtin.«BaseException.__new__»
 refine PySem.wpAt_bind ?_
 show PySem.wpAt _ _ _ (stack >>= _) _ _ _
 refine PySem.wpAt_bind (PySem.wpAt_stack λp below=>PySem.wpAt_of_wpAny ?_)
 wp_walk
 refine PySem.wpAt_of_wpAny ?_
 rw [F.owner]
 repeat (first|with_reducible refine wpAny_madeHere_exc F.canon hC ?_|with_reducible refine wpAny_loadPart_at hC ?_|(with_reducible refine wpAny_isSubtype_exc hC ?_;first|rw [hcB]|rw [hcA]|rw [hcN])|wp_step)
 show R _ _
 rw [Heap.size_push]
 exact hq
theorem FU {K:Frag} {fI:Addr} {E:TQ} {Q:TQ} (X:K.In h) (hC:ExC h nm q C N m bs hdct sn sub ab col dd k0 k1 k2 k3 k5) (hi:findIn K (.ref C) "__init__"=some (some (.ref fI))) (hf:typeIn K (.ref fI)=some (.type "function")) (hrest:rest.length≤sizeLine)
  (hq:codeAny (model prog w) (A.under (.builtin "type.__call__" ⟨.ref C::rest,[]⟩)) (.call (.ref fI) ⟨.ref (h.objs.size+1)::rest,[]⟩) (λ r s'=>match r with| .ok (.ret v)=>v= .none∧Q (.ref (h.objs.size+1)) s'| .ok _=>False| .error e=>E e s')
   ⟨(h.push (bV rest)).push (d6 C h.objs.size),g,d,t,os⟩):
  wpAny (model prog w) A (call (.ref C) rest) Q E ⟨h,g,d,t,os⟩:=by
 have F:=PySem.F.excBase_Exception
 have f1:=tc_lookup
 have f2:=tc_bind (.ref C)
 have hT:(⟨h,g,d,t,os⟩:Shared).TypeIs (.ref C) "type":=(iEA _ hC rfl)
 refine wpAny_call (codeAny_of_tree ?_)
 show wpAny _ _ (callAny (.ref C) _) _ _ _
 repeat (any_goals (first|assumption|with_reducible refine wpAny_loadPart_at hC ?_|wp_step))
 refine ⟨rfl,?_⟩
 refine codeAny_call_builtin_at (Code.quiet_builtin _ (by decide+kernel)) entry_typeCall (wpAny_check_type_call_sub hC ?_)
 repeat (first|with_reducible refine wpAny_loadPart_at hC ?_|with_reducible refine wpAny_madeBy_exc hC ?_|wp_step)
 refine LN hC hrest ?_
 show wpAny _ _ _ _ _ _
 have kp:∀b o,h.get? b=some o→((h.push (bV rest)).push (d6 C h.objs.size)).get? b=some o:=λb o e=>Heap.get?_push_of_some _ (Heap.get?_push_of_some _ e)
 have hC1:=kp _ _ hC
 have X1:=X.keeps kp
 have hget:((h.push (bV rest)).push (d6 C h.objs.size)).get? (h.objs.size+1)=some (d6 C h.objs.size):=by heap_get
 have hcC:(Value.ref C::dG m).contains (.ref C)=true:=by simp
 unfold isInstance
 repeat (first|with_reducible refine wpAny_loadPart_at hget ?_|(refine wpAny_isSubtype_exc hC1 ?_;rw [hcC])|wp_step)
 show wpAny _ _ (typeLookup (.ref C) _) _ _ _
 refine looks_findIn X1 hi _ _ _ _ (λU U e=>e) ?_
 refine wpAny_holding (wpAny_bind ?_)
 refine bind_fn X1 _ hf _ _ _ _ (λU U e=>e) ?_
 refine wpAny_bind (wpAny_call (codeAny_mono hq λr s' z=>?_))
 rcases r with e|(v|_|_|_)<;>first|exact z|exact z.elim|skip
 obtain ⟨rfl,z⟩:=z
 wp_walk
 exact z
end
end
section
open Builtin Builtin.ObjectAttr
section
variable {prog:Program} {w:World} {K:Frag} {A:Around} {E:TQ} {h:Heap} {g:Array GenState} {d:Drawn} {t:Nat} {os:OsState}
variable {nm q:Str} {C N m:Addr} {bs:List Value} {hdct:Bool} {sn:TS} {sub:List Value} {ab:Bool} {col:Option Bool} {dd:Option Addr} {k0 k1 k2 k3 k5:Option Value}
theorem F9{M:Model}{e:Addr}{oe:Obj}{rest:List Value}{Q:Unit→Shared→Prop}(hC:ExC h nm q C N m bs hdct sn sub ab col dd k0 k1 k2 k3 k5)(he:h.get? e=some oe)(hcls:oe.cls= .ref C)(hq:Q () ⟨h,g,d,t,os⟩):
  wpAny M A (checkBuiltinCall "Exception.__init__" ⟨.ref e::rest,[]⟩) Q E ⟨h,g,d,t,os⟩:=by
 have F:=PySem.F.excBase_Exception
 have hcB:(Value.ref C::dG m).contains (.type "Exception")=true:=by unfold dG;exact rfl
 have hshort:=F.noStar
 simp only [checkBuiltinCall,F.initKind,F.initSplit,F.initRow]
 repeat (first|(with_reducible refine wpAny_loadPart_at he ?_;rw [hcls])|with_reducible refine wpAny_loadPart_at hC ?_|(with_reducible refine wpAny_isSubtype_exc hC ?_;rw [hcB])|wp_step)
 refine wpAny_onRaise ?_
 rw [show ∀(a b:String) (n:Nat),Bind.check ⟨.positional,"*","Exception",.self,[⟨"args",.varPos,false⟩]⟩ a b n (List.map (λ x=>x.fst) ({pos:=Value.ref e::rest}:Args).kw)=pure () from
  λa b n=>check_star_args _ _ _ _ _ _]
 exact wpAny_pure hq
theorem sB {e:Addr} {oe:Obj} {vs:Array Value} {v:Value} {Q:TQ} (hC:ExC h nm q C N m bs hdct sn sub ab col dd k0 k1 k2 k3 k5) (he:h.get? e=some oe) (hc:oe.cls= .ref C) (hd:oe.data= .fields vs) (hsz:0<vs.size)
  (hq:Q .none ⟨(h.push (bV [v])).update e (Obj.mapFields (·.setIfInBounds 0 (.ref h.objs.size))),g,d,t,os⟩):wpAny (model prog w) A (call (.builtin "Exception.__init__") [.ref e,v]) Q E ⟨h,g,d,t,os⟩:=by
 have F:=PySem.F.excBase_Exception
 refine wpAny_call (codeAny_call_builtin F.init.plain F.initEntry (F9 hC he hc ?_))
 unfold Builtin.«BaseException.__init__»
 show wpAny _ _ (newTuple [v] >>= _) _ _ _
 refine wpAny_bind (wpAny_newObj_type ?_ (by show (1:Nat)≤sizeLine;decide))
 show wpAny _ _ (BaseException.bexcPut (.ref e) 0 (.ref h.objs.size) >>= _) _ _ _
 unfold BaseException.bexcPut
 refine wpAny_bind (wpAny_bind (wpAny_field (Heap.get?_push_of_some _ he) hd (Array.getElem?_eq_getElem hsz) (wpAny_bind (wpAny_setField (Heap.get?_push_of_some _ he) hd hsz ?_))))
 have fin:wpAny (model prog w) A.in1 (ret Value.none) (λfin s'=>match fin with
   | .done f=>(match Except.ok (ε:=Value) f with| .ok (.ret v)=>Q v s'| .ok _=>False| .error e=>E e s')
   | .again c'=>c'.quiet=true∧codeAny (model prog w) A c' (λr s'=>match r with| .ok (.ret v)=>Q v s'| .ok _=>False| .error e=>E e s') s') (λe s'=>E e s')
   ⟨(h.push (bV [v])).update e (Obj.mapFields (·.setIfInBounds 0 (.ref h.objs.size))),g,d,t,os⟩:=wpAny_pure hq
 cases hv:vs[0] with
 |ref a=>
  refine wpAny_letGo ?_
  exact fin
 |_=>exact wpAny_pure fin
end
end
section
open Builtin Builtin.ObjectAttr
abbrev kO (c:Addr) (od:Option Addr) (a0:Value):Obj:={cls:= .ref c,dict:=od,data:= .fields #[a0,.none,.none,.none,.bool false,.none]}
structure ExcP (k:Nat) (h0:Heap) (W:Wd) (h:Heap) (c e:Addr):Prop where
 new:h0.get? e=none
 nE:W.I e=none∧e∉W.ads
 obj:∃od a0,h.get? e=some (kO c od a0)∧
   (od=none∨∃dx es n,od=some dx∧dx≠e∧h0.get? dx=none∧(W.I dx=none∧dx∉W.ads)∧h.get? dx=some (dictOf es n)∧es.any (·.refKey)=false∧es.length≤k)
section variable {name:Str}
variable {prog:Program} {w:World} {K:Frag} {b0:Heap} {W W0:Wd} {H:Hp} {h0:Heap} {A:Around} {E:TQ} {s:Shared} {c m e:Addr}
theorem wN(x:Str)(hs:Int)(k v:Value):∀es:List DictEntry,(putL x hs k v es).length≤es.length+1
 |[]=>by exact Nat.zero_lt_succ _
 |a::r=>by
  unfold putL
  split
  ·simp
  ·have:=wN x hs k v r;simp only [List.length_cons];exact ow79 this
theorem sU(x:Str)(hs:Int)(y:Str)(t:Tok)(v:Value):∀es:List DictEntry,es.any (·.refKey)=false→(putL x hs (.str y t) v es).any (·.refKey)=false
 |[],_=>rfl
 |a::r,h=>by
  rw [List.any_cons,Bool.or_eq_false_iff] at h
  unfold putL
  split
  ·rw [List.any_cons,h.2,Bool.or_false];exact h.1
  ·rw [List.any_cons,h.1,sU x hs y t v r h.2];rfl
theorem z0 {dx:Addr} {es:List DictEntry} {n k:Nat} {v:Value} {tk:Tok} {Q:Fin→Shared→Prop} (e1:s.heap.get? dx=some (dictOf es n)) (hany:es.any (·.refKey)=false) (hl:es.length≤k) (hk:k≤100)
  (h:∀h' es' n' tk',h'.get? dx=some (dictOf es' n')→es'.any (·.refKey)=false→es'.length≤k+1→Heap.SameBut dx s.heap h'→Q (.done (.ret .none)) {s with heap:=h',toks:=tk'}):wpAny (model prog w) A (storeInDict dx (.str name tk) name v) Q E s:=by
 unfold storeInDict newKeyGuard
 refine wpAny_bind (wpAny_pure (wpAny_bind ?_))
 unfold nsSet
 refine wpAny_bind (wpAny_bind (wpAny_askSetting (wpAny_pure (wpAny_bind (wpAny_mkText (wpAny_bind (wpAny_loadPart e1 ?_)))))))
 have e2:(s.heap.update dx (Obj.putName name (PyData.keyHash w.params name) (.str name s.toks) v)).get? dx=some (dictOf (putL name (PyData.keyHash w.params name) (.str name s.toks) v es) (putN name es n)):=by
  rw [Heap.get?_update_self _ e1 (by rw [putName_dict];rfl),putName_dict]
 have hany':es.toArray.any (·.refKey)=false:=by rw [←Array.any_toList];exact hany
 dsimp only [dictOf]
 rw [aRefKeyMayBeTheName_at,hany',Bool.and_false]
 refine wpAny_updatePart e1 ?_
 have hl':=wN name (PyData.keyHash w.params name) (.str name s.toks) v es
 refine wpAny_bind (wpAny_lookBehind e2 (pastItsLine_dict (by rw [List.size_toArray,sizeLine_eq];exact ow90 hl' hk hl)) ?_)
 exact wpAny_pure (h _ _ _ _ e2 (sU _ _ _ _ _ _ hany) (ow89 hl' hl) (Heap.SameBut.update ..))
theorem AT {k:Nat} {cv:Value} (X:K.In s.heap) (cc:ExcC K c m) (ht:takerIn K c name=some none) (hk:k≤50) (P:ExcP k h0 W s.heap c e) (st:Step W0 h0 W s.heap) (i:Inv w b0 W H s.heap) {Q:Unit→Shared→Prop}
  (h:∀h' tk,Step W0 h0 W h'→Inv w b0 W H h'→ExcP (k+1) h0 W h' c e→(∀b o,s.heap.get? b=some o→o.cls= .type "frame"→h'.get? b=some o)→Q () {s with heap:=h',toks:=tk}):wpAny (model prog w) A (setAttr (.ref e) name cv) Q E s:=by
 refine cX P.obj λod a0 he hod=>?_
 refine eV cc.cls λcd hcd hmro hdict=>?_
 obtain ⟨odo,I⟩:∃odo,InstAt s.heap e (kO c od a0) c odo:=by
  rcases hod with rfl|⟨dx,es,n,rfl,_,_,_,hdx,_⟩
  ·exact ⟨none,he,rfl,rfl,trivial⟩
  ·exact ⟨some (dictOf es n),he,rfl,rfl,hdx⟩
 refine set_plain X I cc.set ?_
 have SF:=PySem.F.store_object
 have ne:cd.mro.isEmpty=false:=by rw [hmro];rfl
 have hob:cd.mro.contains (.type "object")=true:=by rw [hmro];unfold dG;exact rfl
 have sub:Looks (model prog w) s.heap (isInstance (.ref e) (.type "object")) true:=I.type.andThen (looks_mroIn X (by unfold mroIn;rw [hcd,Option.bind_some,if_neg (by rw [ne];decide),hob]))
 refine codeAny_call_builtin SF.slot.plain SF.entry (@check_slot (model prog w) _ _ {s with toks:=s.toks+1} "object.__setattr__" "object" "__setattr__" (.ref e) [.str name s.toks,cv] [] _ SF.kind SF.split sub (SF.args (.ref e) (.str name s.toks) cv) ?_)
 refine oEA (Option.bind_eq_some_iff.mp ht) λattr ha hr=>?_
 have hm:Looks (model prog w) s.heap (mroOf (.ref c)) cd.mro:=(looks_clsIn X hcd).andThen .now
 have L3:Looks (model prog w) s.heap (storeTaker? attr) none:=by
  cases attr with
  |none=>exact .now
  |some a=>
   refine oEA (Option.map_eq_some_iff.mp hr) λb hb hb'=>?_
   cases b
   ·exact (looks_takesIn X hb).andThen .now
   ·cases hb'
 rw [osa_eq,refuse_eq]
 refine wpAny_bind (wpAny_bind (Looks.here (s:={s with toks:=s.toks+1}) I.type (wpAny_bind (Looks.here (s:={s with toks:=s.toks+1}) hm ?_))))
 rw [hmro]
 unfold dG
 rw [refuseLoop_ref,refuseLoop_ref,PySem.F.store_Exception.passes]
 refine wpAny_pure (wpAny_bind (Looks.here (s:={s with toks:=s.toks+1}) I.type (wpAny_bind (Looks.here (s:={s with toks:=s.toks+1}) (looks_findIn X ha) (wpAny_bind (Looks.here (s:={s with toks:=s.toks+1}) L3 ?_))))))
 refine wpAny_bind (wpAny_pure (wpAny_bind (wpAny_bind (wpAny_loadPart he (wpAny_bind (Looks.here (s:={s with toks:=s.toks+1}) (looks_clsIn X hcd) ?_))))))
 rw [hdict]
 rcases hod with rfl|⟨dx,es,n,rfl,hne,hn0,hnd,hdx,hany,hl⟩
 ·have hds:s.heap.objs.size≠e:=Nat.ne_of_gt (Heap.lt_size he)
  have hn:h0.get? s.heap.objs.size=none:=st.none_of (iU _)
  have he1:(s.heap.push {cls:= .type "dict",data:= .dict #[]}).get? e=some (kO c none a0):=Heap.get?_push_of_some _ he
  show wpAny _ _ (alloc {cls:= .type "dict",data:= .dict #[]} >>= _) _ _ _
  refine wpAny_bind (wpAny_alloc (wpAny_bind (wpAny_update he1 ?_)))
  refine wpAny_pure (a:=some s.heap.objs.size) ?_
  have he2:((s.heap.push {cls:= .type "dict",data:= .dict #[]}).update e λ o=>{o with dict:=some s.heap.objs.size}).get? e=some (kO c (some s.heap.objs.size) a0):=Heap.get?_update_self _ he1 rfl
  have hd2:((s.heap.push {cls:= .type "dict",data:= .dict #[]}).update e λ o=>{o with dict:=some s.heap.objs.size}).get? s.heap.objs.size=some (dictOf [] 0):=
   (Heap.get?_update_other _ _ (Ne.symm hds)).trans (Heap.get?_push_size _ rfl)
  refine wpAny_bind (wpAny_pure ?_)
  refine z0 (s:={s with heap:=(s.heap.push {cls:= .type "dict",data:= .dict #[]}).update e λ o=>{o with dict:=some s.heap.objs.size},toks:=s.toks+1}) (tk:=s.toks) (k:=k) hd2 rfl (Nat.zero_le _) (ow88 hk) λ h' es' n' tk' g1 g2 g3 sb=>?_
  have fr:=i.fresh
  have st1:Step W0 h0 W (s.heap.push {cls:= .type "dict",data:= .dict #[]}):=st.trans (Step.of_keeps λ a o e=>Heap.get?_push_of_some _ e)
  have st2:=st1.own P.new (Heap.SameBut.update _ e λo=>{o with dict:=some s.heap.objs.size})
  have st3:=st2.own hn sb
  have i1:Inv w b0 W H (s.heap.push {cls:= .type "dict",data:= .dict #[]}):=i.push1 _
  have i2:=i1.but P.nE.1 P.nE.2 (Heap.SameBut.update _ e λo=>{o with dict:=some s.heap.objs.size})
  have i3:=i2.but fr.2 fr.1 sb
  refine h h' tk' st3 i3 ⟨P.new,P.nE,some s.heap.objs.size,a0,(sb.2 e (Ne.symm hds)).trans he2,.inr ⟨_,es',n',rfl,hds,hn,⟨fr.2,fr.1⟩,g1,g2,g3⟩⟩ λb o hb hc=>?_
  have b1:b≠e:=λq=>by rw [q,he] at hb;cases hb;cases hc
  have b2:b≠s.heap.objs.size:=Nat.ne_of_lt (Heap.lt_size hb)
  exact (sb.2 b b2).trans ((Heap.get?_update_other _ _ (Ne.symm b1)).trans (Heap.get?_push_of_some _ hb))
 ·refine wpAny_pure (a:=some dx) (wpAny_bind (wpAny_pure ?_))
  refine z0 (s:={s with toks:=s.toks+1}) (tk:=s.toks) hdx hany hl (ow88 hk) λh' es' n' tk' g1 g2 g3 sb=>?_
  refine h h' tk' (st.own hn0 sb) (i.but hnd.1 hnd.2 sb) ⟨P.new,P.nE,some dx,a0,(sb.2 e (Ne.symm hne)).trans he,.inr ⟨dx,es',n',rfl,hne,hn0,hnd,g1,g2,g3⟩⟩ λb o hb hc=>?_
  exact (sb.2 b (λq=>by rw [q,hdx] at hb;have z9:=Option.some.inj hb;clear hb;subst z9;unfold dictOf at hc;simp at hc)).trans hb
end
end
section
section variable {env:Env} {name:Str}
variable {prog:Program} {w:World} {p:Program} {loose:TS} {mg mb:TM} {K:Frag} {b0:Heap} {W:Wd} {H:Hp} {A:Around} {E:TQ} {s:Shared} {c:Addr}
theorem EnvOk.frm{le:LE}{lc:Lc}{h h':Heap}(f:EnvOk W le lc env h)(hf:env.frame=some env.locals)(hk:∀b o,h.get? b=some o→o.cls= .type "frame"→h'.get? b=some o):EnvOk W le lc env h':=by
 obtain ⟨k1,k2,k3,k4,k5,k6,k7,k8,⟨m,⟨o,es,ep,ho,hd,r⟩,hm⟩,k9,k10,k11,k12⟩:=f
 have e':=hk _ _ ho (k11 hf o ho)
 exact ⟨k1,k2,k3,k4,k5,k6,k7,k8,(iEA m (cE _ es ep e' hd r) hm),k9,k10,λhf o' ho'=>by rw [e'] at ho';cases ho';exact k11 hf o ho,λL hL=>by rw [hf] at hL;cases hL;exact ⟨_,e'⟩⟩
theorem uR(h:cW K c=true):∃m,ExcK K c m:=@of_decide_eq_true _ (Classical.propDecidable _) h
theorem uH {T:String} {name:Str} {v:Value} {pl:Sem Bool} {Q:Value×List Value→Shared→Prop} (X:K.In s.heap) (ht:typeOf (.type T)=pure (.type "type")) (hs:Manifest.isStub T=false)
  (e:findCls K (.type T) (.type "type") name=some (.val v)) (hh:handedIn v=true) (h:Q (v,[]) {s with toks:=s.toks+1}):wpAny (model prog w) A (getMethod (.type T) name pl) Q E s:=by
 have hstub:opaqueClassAbove (.type T)=pure none:=by unfold opaqueClassAbove;dsimp only;rw [hs];rfl
 have L0:Looks (model prog w) s.heap (typeOf (.type T)) (.type "type"):=Looks.of_pure ht
 have hg:findIn K (.type "type") "__getattribute__"=some (some (.builtin "type.__getattribute__")):=type_tga
 unfold getMethod specialOf
 refine wpAny_bind (wpAny_bind (L0.here ((looks_findIn X hg).here ?_)))
 dsimp only
 rw [if_pos canon_tga]
 refine wpAny_bind (wpAny_mono (Q:=λv=>Q (v,[])) (E:=E) ?_ (λU U z=>wpAny_pure z) λU U z=>z)
 exact cls_open X (Looks.of_pure hstub) L0 hg (looks_hook X (r:=none) (by rfl)) (by show subIn K _ _=_;rfl) e
  (wpAny_pure (by show wpAny _ _ (handedOut v) _ _ _;rw [handedOut_of hh];exact wpAny_pure h))
theorem nL:typeOf (.type "Exception")=pure (.type "type"):=by first|rfl|kernel_rfl
theorem pX:Manifest.isStub "Exception"=false:=by decide+kernel
theorem pC {x:Str} {px pa pos:Pos} {value:Expr} {Q:Flow→Shared→Prop}
  (h:wpAny (model prog w) A (eval value env) (λv s1=>wpAny (model prog w) A (eval (.Name x px) env) (λo s2=>wpAny (model prog w) A (setAttr o name v) (λU s3=>Q .next s3) E s2) E s1) E s):
  wpAny (model prog w) A (exec (.Assign [.Attribute (.Name x px) name pa] value pos) env) Q E s:=by
 refine wpAny_Assign_stores (wpAny_mono h (λv s1 h1=>?_) λU U e=>e) ?_ rfl
 ·show wpAny _ _ (assign (.Attribute (.Name x px) name pa) env v) _ _ _
  rw [arm_assign_Attribute]
  exact wpAny_bind (wpAny_holding (wpAny_mono h1 (λo s2 h2=>wpAny_bind (wpAny_standAt (wpAny_bind (wpAny_holding (wpAny_mono h2 (λU s3 h3=>wpAny_release h3) λU U e=>e))))) λU U e=>e))
 ·unfold swapsWithSole swapsWith
  cases value<;>rfl
end
end
section
section
variable {prog:Program} {w:World} {p:Program} {loose:TS} {mg mb:TM} {K:Frag} {b0:Heap} {W:Wd} {H:Hp} {A:Around} {E:TQ} {s:Shared} {c m:Addr}
theorem nQ{le:LE}{lc:Lc}{x:Str}{v:V}(h:le.scope.names.lookup x=some .local)(hd:¬x=Str.ofString "__debug__")(hl:lc.lookup x=some v):jU K le lc H x=some v:=by
 unfold jU cO
 rw [if_neg hd,h]
 exact hl
theorem ExcP.step{W':Wd}{h0 h h':Heap}{k:Nat}{e:Addr}(P:ExcP k h0 W h c e)(st:Step W h W' h'):ExcP k h0 W' h' c e:=by
 refine cX P.obj λod a0 he hod=>?_
 have kk:=st.keep _ _ he P.nE.2
 refine ⟨P.new,⟨kk.2.1.trans P.nE.1,kk.1⟩,od,a0,st.keepX _ _ he (by simp) P.nE.2,?_⟩
 rcases hod with rfl|⟨dx,es,n,rfl,hne,hn0,hnd,hdx,hany,hl⟩
 ·exact .inl rfl
 ·have kd:=st.keep _ _ hdx hnd.2
  exact .inr (dR dx es n rfl hne hn0 ⟨kd.2.1.trans hnd.1,kd.1⟩ (iAA (st.keepX _ _ hdx (by unfold dictOf;simp) hnd.2) hany hl))
theorem hideQ{α:Type}{M:Model}{A:Around}{t:Sem α}{Q:α→Shared→Prop}{E:TQ}{s:Shared}(h:∀Q':α→Shared→Prop,(∀v s,Q v s→Q' v s)→∀E',wpAny M A t Q' E' s):wpAny M A t Q E s:=h Q (λv s x=>x) E
theorem kB {le:LE} {lc:Lc} {env:Env} (B:Bas p loose mg mb K b0) (i:Inv w b0 W H s.heap) (he:EnvOk W le lc env s.heap) {x:Str} {pos:Pos} {a:Value} (e:jU K le lc H x=some (.fix a))
  {Q:TQ} (h:∀W' s',Step W s.heap W' s'.heap→Inv w b0 W' H s'.heap→Same s s'→Q a s'):wpAny (model prog w) A (eval (.Name x pos) env) Q E s:=fD B i he e λcv W' s' st i' r sm=>by
 have z9:=pS r;subst z9;exact h W' s' st i' sm
theorem FT (B:Bas p loose mg mb K b0) (k:ExcK K c m) (i:Inv w b0 W H s.heap) (hdep:A.depth+10≤1000) {x:Str} {t:Tok} {Q:TQ}
  (h:∀ea od a0 W' s',Step W s.heap W' s'.heap→Inv w b0 W' H s'.heap→s.heap.get? ea=none→(W'.I ea=none∧ea∉W'.ads)→s'.heap.get? ea=some (kO c od a0)→Same s s'→Q (.ref ea) s'):
  wpAny (model prog w) A (call (.ref c) [.str x t]) Q E s:=by
 refine cL k.obj λnm q N bs hdct sn sub ab col dd k0 k1 k2 k3 k5 hobj=>?_
 refine cL k.body λfd p1 ap pp q1 q2 p3 q3 r3 p4 q4 r4 u3 u4 u5 eb=>?_
 obtain ⟨hp,gg,dr,tk,os⟩:=s
 dsimp only at i
 have X:=B.X.keeps i.kb
 have hC:ExC hp nm q c N m bs hdct sn sub ab col dd k0 k1 k2 k3 k5:=X _ _ hobj
 refine FU X hC k.init k.fn (by rw [sizeLine_eq];exact Nat.zero_lt_succ _) ?_
 have n1:hp.get? hp.objs.size=none:=iU hp
 have n2:hp.get? (hp.objs.size+1)=none:=by
  cases q:hp.get? (hp.objs.size+1) with
  |none=>rfl
  |some o=>exact absurd (Nat.lt_trans (Nat.lt_succ_self _) (Heap.lt_size q)) (Nat.lt_irrefl _)
 have kp:∀b o,hp.get? b=some o→((hp.push (bV [.str x t])).push (d6 c hp.objs.size)).get? b=some o:=λb o e=>Heap.get?_push_of_some _ (Heap.get?_push_of_some _ e)
 have st0:Step W hp W ((hp.push (bV [.str x t])).push (d6 c hp.objs.size)):=Step.of_keeps kp
 have i0:Inv w b0 W H ((hp.push (bV [.str x t])).push (d6 c hp.objs.size)):=i.keeps λa o e U=>kp a o e
 have hget:((hp.push (bV [.str x t])).push (d6 c hp.objs.size)).get? (hp.objs.size+1)=some (kO c none (.ref hp.objs.size)):=by heap_get
 have no:∀a,hp.get? a=none→W.I a=none∧a∉W.ads:=λa ha=>by
  constructor
  ·cases q:W.I a with
   |none=>rfl
   |some o=>have:=i.im a o q;rw [ha] at this;cases this
  ·intro m
   refine oEE (mem_ads.mp m) λl off hl=>?_
   refine dX (i.sized hl) λo ob U h2 U=>?_
   rw [ha] at h2;cases h2
 generalize hh1:(hp.push (bV [.str x t])).push (d6 c hp.objs.size)=h1 at st0 i0 hget ⊢
 generalize hea:hp.objs.size+1=ea at hget n2 ⊢
 have P0:ExcP 0 hp W h1 c ea:=⟨n2,no _ n2,none,_,hget,.inl rfl⟩
 have hbs:hM K fd [.fix (.ref ea),.str x]=some [(Str.ofString "self",.fix (.ref ea)),(Str.ofString "what",.str x),(Str.ofString "at",.none)]:=by
  unfold hM
  rw [eb.df,eb.ps]
  rfl
 have hce:=lK eb.nc H.length
 have hloc:=rM eb.ok eb.nc
 rw [eb.ps] at hloc
 have hba:eZ ⟨fd.scope,cellsFor fd.scope H.length,false⟩ [(Str.ofString "self",V.fix (.ref ea)),(Str.ofString "what",.str x),(Str.ofString "at",.none)] [] (H++(cellsFor fd.scope H.length).map λ U=> .cell none)=
   some ([(Str.ofString "at",.none),(Str.ofString "what",.str x),(Str.ofString "self",V.fix (.ref ea))],H):=by
  rw [hce]
  rw [iK]
  ·simp
  ·intro y hy
   simp only [List.mem_cons,List.not_mem_nil,or_false] at hy
   rcases hy with rfl|rfl|rfl
   ·exact hloc _ (by simp)
   ·exact hloc _ (by simp)
   ·exact hloc _ (by simp)
 have hw:(Code.builtin "type.__call__" ⟨.ref c::[.str x t],[]⟩).weight=1:=by kernel_rfl
 refine rE B i0 eb.fn eb.ok hbs eb.body hba (.cons (.fix _) (.cons (.str x t) .nil)) (by unfold Around.under;dsimp only;rw [hw];show A.depth+1<1000;exact ow93 hdep) λenv W' s' hf st sm=>codeAny_func ?_
 rw [hce] at st
 have s1:Step W hp W' s'.heap:=st0.trans st.step
 have kk:=st.step.keep _ _ hget P0.nE.2
 have P1:ExcP 0 hp W' s'.heap c ea:=⟨n2,⟨kk.2.1.trans P0.nE.1,kk.1⟩,none,_,st.step.keepX _ _ hget (by simp) P0.nE.2,.inl rfl⟩
 have hself:=nQ (K:=K) (H:=H) (le:=⟨fd.scope,[],false⟩) (lc:=[(Str.ofString "at",.none),(Str.ofString "what",.str x),(Str.ofString "self",V.fix (.ref ea))]) (x:=Str.ofString "self") (v:= .fix (.ref ea)) (hloc _ (by simp)) (by decide) (by rfl)
 have hwhat:=nQ (K:=K) (H:=H) (le:=⟨fd.scope,[],false⟩) (lc:=[(Str.ofString "at",.none),(Str.ofString "what",.str x),(Str.ofString "self",V.fix (.ref ea))]) (x:=Str.ofString "what") (v:= .str x) (hloc _ (by simp)) (by decide) (by rfl)
 have hat:=nQ (K:=K) (H:=H) (le:=⟨fd.scope,[],false⟩) (lc:=[(Str.ofString "at",.none),(Str.ofString "what",.str x),(Str.ofString "self",V.fix (.ref ea))]) (x:=Str.ofString "at") (v:= .none) (hloc _ (by simp)) (by decide) (by rfl)
 generalize [(Str.ofString "at",.none),(Str.ofString "what",.str x),(Str.ofString "self",V.fix (.ref ea))]=lc at st hself hwhat hat
 have hexc:jU K ⟨fd.scope,[],false⟩ lc H (Str.ofString "Exception")=some (.fix (.type "Exception")):=by unfold jU;rw [eb.wh];exact eb.gl
 have hint:interactive env=false:=by unfold interactive;rw [st.eo.kind];rfl
 have eo:=st.eo
 have i1:=st.inv
 clear st
 refine hideQ λQ' hQ E'=>?_
 generalize (A.under (Code.builtin "type.__call__" {pos:=[Value.ref c,Value.str x t]})).deeper env=A'
 refine wpAny_execs_cons (wpAny_Expr_any ?_ hint rfl)
 refine oB rfl (by simpa using eb.line) rfl (by show (2:Nat)≤24;decide) ?_
 refine kB B i1 eo hexc λW1 s₁ st1 i₁ sm1 pl=>?_
 have hmt:=λ (A':Around) (Q':Value×List Value→Shared→Prop) (E':TQ) (pl':Sem Bool) hq=>@uH prog w K A' E' s₁ "Exception" (Str.ofString "__init__") (.builtin "Exception.__init__") pl' Q' (B.X.keeps i₁.kb) nL pX eb.fc rfl hq
 refine hmt _ _ _ _ ?_
 refine xO (K:=K) rfl rfl (wpAny_items_cons (kB (s:={s₁ with toks:=s₁.toks+1}) B i₁ (eo.step st1) hself λW2 s2 st2 i2 sm2=>?_) rfl)
 refine wpAny_items_cons (fD B i2 ((eo.step st1).step st2) hwhat λcv3 W3 s₃ st3 i3 r₃ sm₃=>wpAny_pure ?_) rfl
 have st13:=(st1.trans st2).trans st3
 have s3:=s1.trans st13
 have P3:=P1.step st13
 have eo3:=eo.step st13
 have sm3:Same s' s₃:=((sm1.trans (Same.tok _ _)).trans sm2).trans sm₃
 clear sm1 sm2 sm₃ st1 st2 st3 i₁ i2
 have X3:=B.X.keeps i3.kb
 refine ⟨X3,?_⟩
 refine cX P3.obj λod a0 he hod=>?_
 refine sB (X3 _ _ hobj) he rfl rfl (by show (0:Nat)<6;decide) ?_
 have he4:((s₃.heap.push (bV [cv3])).update ea (Obj.mapFields (·.setIfInBounds 0 (.ref s₃.heap.objs.size)))).get? ea=some (kO c od (.ref s₃.heap.objs.size)):=Heap.get?_update_self _ (Heap.get?_push_of_some _ he) rfl
 have sb4:=Heap.SameBut.update (s₃.heap.push (bV [cv3])) ea (Obj.mapFields (·.setIfInBounds 0 (.ref s₃.heap.objs.size)))
 have stp:Step W3 s₃.heap W3 (s₃.heap.push (bV [cv3])):=Step.of_keeps λa o e=>Heap.get?_push_of_some _ e
 have s4:=(s3.trans stp).own P3.new sb4
 have i4:=(i3.push1 (s:=s₃) (bV [cv3])).but P3.nE.1 P3.nE.2 sb4
 have eo4:=(eo3.step stp).frm hf (h':=(s₃.heap.push (bV [cv3])).update ea (Obj.mapFields (·.setIfInBounds 0 (.ref s₃.heap.objs.size)))) λb o hb hc=>(sb4.2 b λq=>by
  rw [q,Heap.get?_push_of_some _ he] at hb;cases hb;cases hc).trans hb
 have P4:ExcP 0 hp W3 ((s₃.heap.push (bV [cv3])).update ea (Obj.mapFields (·.setIfInBounds 0 (.ref s₃.heap.objs.size)))) c ea:=by
  refine ⟨P3.new,P3.nE,od,_,he4,?_⟩
  exact hod.imp id λq=>iS q λdx es n e hne hn0 hnd ⟨hdx,hany,hl⟩=>dR dx es n e hne hn0 hnd (iAA ((sb4.2 dx hne).trans (Heap.get?_push_of_some _ hdx)) hany hl)
 generalize (s₃.heap.push (bV [cv3])).update ea (Obj.mapFields (·.setIfInBounds 0 (.ref s₃.heap.objs.size)))=h4 at s4 i4 eo4 P4
 have sm4:Same ⟨hp,gg,dr,tk,os⟩ {s₃ with heap:=h4}:=(((Same.mk _ h1 tk).trans sm).trans sm3).trans (Same.mk _ h4 s₃.toks)
 clear sb4 he4 stp he hod sm3 sm s3 eo3 i3 P3 X3
 show wpAny _ _ (execs _ env) _ _ _
 refine wpAny_execs_cons (pC (fD (s:={s₃ with heap:=h4}) B i4 eo4 hwhat λcv5 W5 s5 st5 i5 r5 sm5=>kB B i5 (eo4.step st5) hself λW6 s6 st6 i6 sm6=>?_))
 have st46:=st5.trans st6
 refine AT (k:=0) (B.X.keeps i6.kb) k.toExcC k.what ow92 (P4.step st46) (s4.trans st46) i6 λh7 tk7 s7 i7 P7 k7=>?_
 have eo7:=(eo4.step st46).frm hf k7
 show wpAny _ _ (execs _ env) _ _ _
 have sm7:=(sm4.trans (sm5.trans sm6)).trans (Same.mk s6 h7 tk7)
 clear sm5 sm6 st46 k7 eo4 P4
 refine wpAny_execs_cons (pC (fD (s:={s6 with heap:=h7,toks:=tk7}) B i7 eo7 hat λcv8 W8 s8 st8 i8 r8 sm8=>kB B i8 (eo7.step st8) hself λW9 s9 st9 i9 sm9=>?_))
 have st79:=st8.trans st9
 refine AT (k:=1) (B.X.keeps i9.kb) k.toExcC k.at_ ow91 (P7.step st79) (s7.trans st79) i9 λh10 tk10 s10 i10 P10 k10=>?_
 show wpAny _ _ (execs [] env) _ _ _
 refine wpAny_execs_nil (hQ _ _ ⟨rfl,?_⟩)
 refine cX P10.obj λod' a0' he' U=>?_
 exact h ea od' a0' W9 _ s10 i10 P10.new P10.nE he' ((sm7.trans (sm8.trans sm9)).trans (Same.mk s9 h10 tk10))
end
end
section
noncomputable def FlRel(W:Wd):Fl→Flow→Prop
 | .next,f=>f= .next
 | .cont,f=>f= .cont
 | .ret v,f=>∃c,f= .ret c∧VRel W v c
structure FO (b0:Heap) (WB:Wd) (hB:Heap) (env:Env) (outer:List Env):Prop where
 fr:Frs b0 WB outer hB
 own:env.frame=some env.locals
 base:∀a o,b0.get? a=some o→hB.get? a=some o
theorem FO.fb{b0:Heap}{WB:Wd}{hB:Heap}{env:Env}{outer:List Env}(f:FO b0 WB hB env outer):FB b0 WB hB env (env::outer):= .inr (kK outer rfl f.fr f.own f.base)
structure Sd (w:World) (b0:Heap) (WB:Wd) (hB:Heap) (le:LE) (env:Env) (WS:Wd) (hS:Heap) (lc:Lc) (W:Wd) (H:Hp) (h:Heap):Prop where
 st:St w b0 WB hB le lc env W H h
 mv:StepL env.locals WS hS W h
section variable {b:Bool} {h0 hb:Heap}
variable {w:World} {b0:Heap} {WB:Wd} {hB:Heap} {le:LE} {env:Env} {WS W W':Wd} {hS h h':Heap} {lc lc':Lc} {H H':Hp} {fr:List Env} {ex fs:List Addr} {L c:Addr} {ce:Value}
theorem StepL.turn(x:StepL L WS hS W h)(t:Turn fs ex h h')(hf:∀a∈fs,∀o,h.get? a=some o→o.cls= .type "frame"∧∀vs,o.data≠ .fields vs)(he:∀a∈ex,hS.get? a=none):StepL L WS hS W h':={x.toSub with
 keep:=λa o e l n=>by
  refine j5 (x.keep a o e l n) λn' i' sl e'=>?_
  refine oE (t.slot a _ e' (λm=>by rw [he a m] at e;cases e)) λsl' e''=>?_
  exact (iAA n' i' ⟨sl',e''⟩)
 keepF:=λa o vs e d l n=>by
  have e':=x.keepF a o vs e d l n
  exact t.keep a o e' (λm=>(hf a m o e').2 vs d) (λm=>by rw [he a m] at e;cases e)
 keepX:=λa o e d l n=>by
  have e':=x.keepX a o e d l n
  exact t.keep a o e' (λm=>d (hf a m o e').1) (λm=>by rw [he a m] at e;cases e)
 dom:=λa o e=>by
  refine oE (x.dom a o e) λo' e'=>?_
  exact t.dom a o' e'}
theorem StepL.turnX(x:StepL L WS hS W h)(t:TurnX hS W (fr.filterMap (·.frame)) h h')(f:Frs b0 W fr h):StepL L WS hS W h':=by
 refine oEA t λex t k=>?_
 exact x.turn t (λa m=>(f.at a m).2) λa m=>(k a m).1
theorem TurnX.base(t:TurnX h0 W fs h h')(n:∀a,h0.get? a=none→hb.get? a=none):TurnX hb W fs h h':=by
 refine oEA t λex t k=>?_
 exact (iEA ex t (λa m=>⟨n a (k a m).1,(k a m).2⟩))
theorem XRel.base(r:XRel W h0 h L c ce)(n:∀a,h0.get? a=none→hb.get? a=none):XRel W hb h L c ce:=by
 refine lG r λea oe vs a0 h1 h2 h3 h4 h5 h6 h7 h8 h9=>?_;clear r
 refine (bW ea oe vs a0 h1 (n _ h2) h3 h4 (dZ h5 h6 h7 h8 (h9.imp_right ?_)))
 refine qE λT z1=>?_;refine dX z1 λoT ts t1 t2 r=>?_;clear z1
 exact (cE T oT ts t1 (n _ t2) r)
theorem Fly.base{ea T:Addr}{a0 fl:Value}(r:Fly h0 W h c ea T a0 fl)(n:∀a,h0.get? a=none→hb.get? a=none):Fly hb W h c ea T a0 fl:=
 ⟨n _ r.newE,n _ r.newT,r.nE,r.nT,r.ne,r.exc,r.tb⟩
theorem Sd.go(x:Sd w b0 WB hB le env WS hS lc W H h)(st:Step W h W' h')(i:Inv w b0 W' H' h'):Sd w b0 WB hB le env WS hS lc W' H' h':=
 ⟨x.st.go st i,x.mv.trans (.of st _)⟩
theorem Sd.goL(x:Sd w b0 WB hB le env WS hS lc W H h)(st:StepL env.locals W h W' h')(t:St w b0 WB hB le lc' env W' H' h'):Sd w b0 WB hB le env WS hS lc' W' H' h':=
 ⟨t,x.mv.trans st⟩
theorem Sd.turnX(x:Sd w b0 WB hB le env WS hS lc W H h)(t:TurnX hS W (fr.filterMap (·.frame)) h h')(f:Frs b0 W fr h)(nB:∀a,hS.get? a=none→hB.get? a=none):Sd w b0 WB hB le env WS hS lc W H h':=
 ⟨x.st.turnX (t.base nB) f,x.mv.turnX t f⟩
theorem EnvOk.hd(e:EnvOk W le lc env h):EnvOk W ⟨le.scope,le.cells,b⟩ lc env h:=by
 obtain ⟨k1,k2,k3,k4,k5,k6,k7,k8,k9,k10,k11,k12,k13⟩:=e
 exact ⟨k1,k2,k3,k4,k5,k6,k7,k8,k9,k10,k11,k12,k13⟩
theorem St.hd(e:St w b0 WB hB le lc env W H h):St w b0 WB hB ⟨le.scope,le.cells,b⟩ lc env W H h:=⟨e.step,e.inv,e.eo.hd,e.new⟩
theorem Sd.hd(e:Sd w b0 WB hB le env WS hS lc W H h):Sd w b0 WB hB ⟨le.scope,le.cells,b⟩ env WS hS lc W H h:=⟨e.st.hd,e.mv⟩
end
section
variable (w:World) (b0:Heap) (WB:Wd) (hB:Heap) (env:Env) (WS:Wd) (hS:Heap)
noncomputable def NOk(le:LE)(s:Shared)(k:TK)(R:Res)(Q:Flow→Shared→Prop):Prop:=
 ∀f lc' H' fl W' s',k f lc' H'=R→Sd w b0 WB hB le env WS hS lc' W' H' s'.heap→FlRel W' f fl→Same s s'→Q fl s'
noncomputable def EOk(le:LE)(s:Shared)(kx:Addr→Lc→Hp→Res)(R:Res)(E:TQ):Prop:=
 ∀c lc' H' ce W' s',kx c lc' H'=R→Sd w b0 WB hB le env WS hS lc' W' H' s'.heap→XRel W' hS s'.heap env.locals c ce→Same s s'→E ce s'
end
section
variable {w:World} {b0:Heap} {WB:Wd} {hB:Heap} {le:LE} {env:Env} {WS W:Wd} {hS:Heap} {lc:Lc} {H:Hp} {s s':Shared} {R:Res}
theorem NOk.from{k:TK}{Q:Flow→Shared→Prop}(h:NOk w b0 WB hB env WS hS le s k R Q)(sm:Same s s'):NOk w b0 WB hB env WS hS le s' k R Q:=
 λf lc' H' fl W' s'' e x r m=>h f lc' H' fl W' s'' e x r (sm.trans m)
theorem EOk.from{k:Addr→Lc→Hp→Res}{Q:TQ}(h:EOk w b0 WB hB env WS hS le s k R Q)(sm:Same s s'):EOk w b0 WB hB env WS hS le s' k R Q:=
 λf lc' H' fl W' s'' e x r m=>h f lc' H' fl W' s'' e x r (sm.trans m)
theorem EOk.no(hR:R≠ .stuck)(E:TQ):EOk w b0 WB hB env WS hS le s wW R E:=λc lc' H' ce W' s' e=>(hR e.symm).elim
theorem EOk.xok{kx:Addr→Lc→Hp→Res}{E:TQ}(h:EOk w b0 WB hB env WS hS le s kx R E)(x:Sd w b0 WB hB le env WS hS lc W H s.heap):XOk w b0 W s (λc H=>kx c lc H) R E:=
 λc H' ea T a0 W' s' e st i fl sm=>h c lc H' (.ref ea) W' s' e (x.go st i) ((fl.rel (.inl rfl)).base λa ha=>x.mv.none_of ha) sm
end
section
variable (prog:Program) (w:World) (K:Frag) (b0:Heap) (cf:CF) (d:Nat)
abbrev ExP (n:Nat) (st:Stmt):Prop:=∀le lc H k kx R,ex K cf n st le lc H k kx=R→R≠ .stuck→∀outer A WB hB WS hS W s env Q E,Gd d n le.hd (env::outer) A→FO b0 WB hB env outer→(∀a,hS.get? a=none→hB.get? a=none)→Sd w b0 WB hB le env WS hS lc W H s.heap→
  NOk w b0 WB hB env WS hS le s k R Q→EOk w b0 WB hB env WS hS le s kx R E→wpAny (model prog w) A (exec st env) Q E s
abbrev N8 (n:Nat):Prop:=∀sts le lc H k kx R,exs K cf n sts le lc H k kx=R→R≠ .stuck→∀outer A WB hB WS hS W s env Q E,Gd d n le.hd (env::outer) A→FO b0 WB hB env outer→(∀a,hS.get? a=none→hB.get? a=none)→Sd w b0 WB hB le env WS hS lc W H s.heap→
  NOk w b0 WB hB env WS hS le s k R Q→EOk w b0 WB hB env WS hS le s kx R E→wpAny (model prog w) A (execs sts env) Q E s
abbrev N7 (n:Nat):Prop:=∀hs c le lc H k kx R,hnd K cf n hs c le lc H k kx=R→R≠ .stuck→∀outer A WB hB WS hS W s env Q E ea T a0,Gd d n le.hd (env::outer) A→FO b0 WB hB env outer→(∀a,hS.get? a=none→hB.get? a=none)→Sd w b0 WB hB le env WS hS lc W H s.heap→Fly hS W s.heap c ea T a0 .none→
  NOk w b0 WB hB env WS hS le s k R Q→EOk w b0 WB hB env WS hS le s kx R E→wpAny (model prog w) A (handleBy (.ref ea) env hs) Q E s
structure DB (n:Nat):Prop where
 ex:∀st,ExP prog w K b0 cf d n st
 exs:N8 prog w K b0 cf d n
 hnd:N7 prog w K b0 cf d n
end
section
variable {prog:Program} {w:World} {p:Program} {loose:TS} {mg mb:TM} {K:Frag} {b0:Heap} {cf:CF} {d n:Nat}
theorem exs_S(T:DB prog w K b0 cf d n):N8 prog w K b0 cf d (n+1):=by
 intro sts le lc H k kx R h hR outer A WB hB WS hS W s env Q E g fo nB x hk hx
 have g':=g.le (Nat.le_succ n)
 cases sts with
 |nil=>exact wpAny_execs_nil (hk .next lc H .next W s h x rfl rfl)
 |cons st rest=>
  replace h:ex K cf n st le lc H (λf lc H=>match f with
    | .next=>exs K cf n rest le lc H k kx
    | .cont=>k .cont lc H
    | .ret v=>k (.ret v) lc H) kx=R:=h
  refine wpAny_execs_cons (T.ex st _ _ _ _ _ _ h hR outer A WB hB WS hS W s env _ E g' fo nB x (λf lc1 H1 fl W1 s1 e1 x1 r1 sm1=>?_) hx)
  cases f with
  |next=>
   cases r1
   exact T.exs rest _ _ _ _ _ _ e1 hR outer A WB hB WS hS W1 s1 env Q E g' fo nB x1 (hk.from sm1) (hx.from sm1)
  |cont=>
   cases r1
   exact hk .cont lc1 H1 .cont W1 s1 e1 x1 rfl sm1
  |ret v=>
   refine oEA r1 λc z1 r=>?_;clear r1;subst z1
   exact hk (.ret v) lc1 H1 (.ret c) W1 s1 e1 x1 (iEA c rfl r) sm1
end
end
section
noncomputable def L2(h:Heap)(C m:Addr):Prop:=∃nm q N bs hdct sn sub ab col dd k0 k1 k2 k3 k5,ExC h nm q C N m bs hdct sn sub ab col dd k0 k1 k2 k3 k5
theorem ExcK.at'{K:Frag}{h:Heap}{c m:Addr}(k:ExcK K c m)(X:K.In h):L2 h c m:=by
 refine cL k.obj λnm q N bs hdct sn sub ab col dd k0 k1 k2 k3 k5 ho=>?_
 exact (eQ nm q N bs (eQ hdct sn sub ab (eQ col dd k0 k1 (CJ k2 k3 k5 (X _ _ ho)))))
section
variable {M:Model} {A:Around} {E:TQ} {env:Env}
theorem BO {s:Shared} {x:Sem Value} {Q:Flow→Shared→Prop} (hh:A.handled=none)
  (h:wpAny M A x (λv s1=>∃C m e od a0,v= .ref e∧L2 s1.heap C m∧s1.heap.get? e=some (kO C od a0)∧E (.ref e) s1) E s):
  wpAny M A (raiseStmt env (some x) none) Q E s:=by
 unfold raiseStmt
 refine wpAny_bind (wpAny_mono h (λv s1 h1=>?_) λU U x=>x)
 refine AH h1 λC m e od z1=>?_;clear h1;refine NX z1 λa0 z2 hC he hE=>?_;clear z1;subst z2
 refine cL hC λnm q N bs hdct sn sub ab col dd k0 k1 k2 k3 k5 hC=>?_
 obtain ⟨hp,g,d,tk,os⟩:=s1
 dsimp only at hC he
 have hcB:(Value.ref C::dG m).contains (.type "BaseException")=true:=by unfold dG;exact rfl
 repeat (first|with_reducible refine wpAny_loadPart_at he ?_|with_reducible refine wpAny_loadPart_at hC ?_|(with_reducible refine wpAny_isSubtype_exc hC ?_;rw [hcB])|wp_step)
 exact wpAny_raiseNew_none hh hE
theorem w8 {h:Heap} {g:Array GenState} {d:Drawn} {t:Nat} {os:OsState} {C D m m' e:Addr} {oe:Obj} {Q:Bool→Shared→Prop}
  (hC:L2 h C m) (hD:L2 h D m') (he:h.get? e=some oe) (hcls:oe.cls= .ref C)
  (hq:Q ((Value.ref C::dG m).contains (.ref D)) ⟨h,g,d,t,os⟩):wpAny M A (excMatches (.ref e) (.ref D)) Q E ⟨h,g,d,t,os⟩:=by
 refine cL hC λnm q N bs hdct sn sub ab col dd k0 k1 k2 k3 k5 hC=>?_
 refine cL hD λnm' q' N' bs' hdct' sn' sub' ab' col' dd' k0' k1' k2' k3' k5' hD=>?_
 have hcB:(Value.ref D::dG m').contains (.type "BaseException")=true:=by unfold dG;exact rfl
 have f:=tc_notTuple
 unfold excMatches
 repeat (first|(with_reducible refine wpAny_loadPart_at he ?_;rw [hcls])|with_reducible refine wpAny_loadPart_at hD ?_|(with_reducible refine wpAny_isSubtype_exc hD ?_;rw [hcB])|with_reducible refine wpAny_isSubtype_exc hC ?_|wp_step)
 generalize (Value.ref C::dG m).contains (.ref D)=b at hq ⊢
 cases b<;>(wp_walk;exact hq)
end
section variable {c:Addr}
variable {prog:Program} {w:World} {p:Program} {loose:TS} {mg mb:TM} {K:Frag} {b0:Heap} {cf:CF} {d n:Nat}
theorem Sd.ads{WB WS W:Wd}{hB hS h:Heap}{le:LE}{env:Env}{lc:Lc}{H:Hp}(x:Sd w b0 WB hB le env WS hS lc W H h):∀a∈W.ads,∃o,h.get? a=some o:=λa m=>by
 refine oEE (mem_ads.mp m) λl off hl=>?_
 refine dX (x.st.inv.sized hl) λo ob U h2 U=>?_
 exact ⟨ob,h2⟩
theorem FG{c:Const}(h:isStr c=true):∃s,c= .str s:=by
 cases c<;>first|exact ⟨_,rfl⟩|cases h
theorem BN{e c:Option Expr}{q:Str×Pos}(h:tZ e c=some q):∃msg kk a b,e=some (.Call (.Name q.1 q.2) [.Constant (.str msg) kk a] [] b)∧c=none:=by
 unfold tZ at h
 cases c with
 |some=>cases h
 |none=>
  refine oEA (Option.bind_eq_some_iff.mp h) λx z1 ha=>?_;subst z1
  clear h
  refine oEA (Option.bind_eq_some_iff.mp ha) λy h1 hb=>?_
  clear ha
  have h1':=oC h1
  clear h1
  split at hb
  ·rename_i hk
   refine oEA (Option.bind_eq_some_iff.mp hb) λz h2 hc=>?_
   refine oEA (Option.bind_eq_some_iff.mp hc) λa h3 hd=>?_
   refine oEA (Option.bind_eq_some_iff.mp hd) λt h4 he=>?_
   clear hb hc hd
   split at he
   ·rename_i hs
    cases he
    refine oE (FG hs) λmsg hm=>?_
    have h2':=fJ h2
    have h3':=mT h3
    have h4':=GF h4
    exact (FL msg t.2.1 t.2.2 y.2.2.2 (by rw [h1',h2',h3',h4',hm,List.isEmpty_iff.mp hk]) rfl)
   ·cases he
  ·cases hb
theorem C2{hc:ExceptHandler}{q:Str×Pos×List Stmt}(h:u0 hc=some q):∃b body pos,q.2.2=b::body∧hc= .ExceptHandler (some (.Name q.1 q.2.1)) none (b::body) pos:=by
 obtain ⟨t,nm,bd,pos⟩:=hc
 unfold u0 at h
 dsimp only at h
 split at h
 ·rename_i hg
  simp only [Bool.and_eq_true,Option.isNone_iff_eq_none] at hg
  refine oA hg λz1 hb=>?_;clear hg;subst z1
  refine oEA (Option.bind_eq_some_iff.mp h) λe z1 h=>?_;subst z1
  refine oEA (Option.map_eq_some_iff.mp h) λy h1 z1=>?_;subst z1
  have h1:=fJ h1
  cases bd with
  |nil=>cases hb
  |cons b body=>exact (AO b body pos rfl (by rw [h1]))
 ·cases h
theorem FW(B:Bas p loose mg mb K b0)(S:d0 prog w K b0 cf d n){exc cause:Option Expr}{pos:Pos}:ExP prog w K b0 cf d (n+1) (.Raise exc cause pos):=by
 intro le lc H k kx R h hR outer A WB hB WS hS W s env Q E g fo nB x hk hx
 have g':=g.le (Nat.le_succ n)
 replace h:ob (tZ exc cause) (λq=>gd (!le.hd) (ev K cf n (.Name q.1 q.2) le lc H (λa H=>ob (mP a) λc=>gd (cW K c) (kx c lc H)) (λc H=>kx c lc H)))=R:=h
 obtain ⟨⟨xn,np⟩,hq,h'⟩:=bQ h hR
 clear h
 rename _=>h
 refine jH (BN hq) λmsg kk cp2 cp z1 z2=>?_;subst z1 z2
 refine oA (bU h hR) λhc h1=>?_
 clear h
 have hhd:le.hd=false:=by simpa using hc
 have hh:=(g.calls hhd).2.2
 have hdep:A.depth+10≤1000:=by have:=g.dep;exact ow94 this
 rw [arm_exec_Raise]
 refine wpAny_bind (wpAny_standAt (BO hh ?_))
 refine wpAny_bind (wpAny_mono (wpAny_Call_ofName (S.ev _ _ _ _ _ _ _ h1 hR (env::outer) A W s env (λf s1=>wpAny (model prog w) A (callWith cp f [] (backTo cp (starEach [.Constant (.str msg) kk cp2] env)) (backToKw cp (keywordEach [] env))) _ E s1) E g' (fo.fb.frs x.st) x.st.inv x.st.eo (λu H1 cu W1 s1 e1 st1 i1 r1 sm1=>?_) (hx.xok x)))
  (λv s3 h3=>wpAny_bind (wpAny_standAt (wpAny_pure h3))) λU U x=>x)
 refine oEA (bQ e1 hR) λc ec e2=>?_
 have z9:=qD ec;subst z9
 have z9:=pS r1;subst z9
 refine oA (bU e2 hR) λhok e3=>?_
 refine oE (uR hok) λm kc=>?_
 unfold callWith
 refine wpAny_bind (wpAny_holding (wpAny_mono (rC rfl (wpAny_items_cons (pA (v:= .str msg) i1 rfl λcv W2 s2 st2 i2 r2 sm2=>wpAny_pure ?_) rfl)) (λa s2 h2=>wpAny_bind (wpAny_standAt h2)) λU U x=>x))
 refine oE (HA r2) λt z1=>?_;subst z1
 have hplain:(backTo cp (starEach [Expr.Constant (.str msg) kk cp2] env)).any (·.1)=false:=rfl
 simp only [hplain]
 refine cL kc.obj λnm q N bs hdct sn sub ab col dd k0 k1 k2 k3 k5 hobj=>?_
 have X2:=B.X.keeps i2.kb
 have x2:=(x.go st1 i1).go st2 i2
 obtain ⟨hp,gg,dr,tk,os⟩:=s2
 refine wpAny_bind (wpAny_keeperOf_exc (X2 _ _ hobj) ?_)
 refine wpAny_bind (FT (s:=⟨hp,gg,dr,tk,os⟩) B kc i2 hdep λea od a0 W3 s3 st3 i3 hn3 hm3 ho3 sm3=>wpAny_bind (wpAny_holding (wpAny_point (wpAny_pure ?_))))
 refine (eQ c m ea od (kK a0 rfl (kc.at' (B.X.keeps i3.kb)) ho3 ?_))
 have x3:=x2.go st3 i3
 exact hx c lc H1 (.ref ea) W3 s3 e3 x3 (bW ea _ _ a0 rfl (x2.mv.none_of hn3) hm3.2 hm3.1 (dZ ho3 rfl rfl rfl (.inl rfl))) ((sm1.trans sm2).trans sm3)
theorem CK{le:LE}{lc:Lc}{H:Hp}{R:Res}{xn:Str}{np:Pos}{F:Bool→Hp→Res}(h:ev K cf n (.Name xn np) le lc H (λa H=>ob (mP a) λC=>gd (cW K c&&cW K C) (ob (subIn K (.ref c) (.ref C)) λhit=>F hit H)) noX=R)(hR:R≠ .stuck):
  ∃D hit,jU K le lc H xn=some (.fix (.ref D))∧cW K c=true∧cW K D=true∧subIn K (.ref c) (.ref D)=some hit∧F hit H=R:=by
 cases n with
 |zero=>exact aR h hR
 |succ n=>
  refine oEA (bQ (show ob (jU K le lc H xn) _=R from h) hR) λv hv h1=>oEA (bQ h1 hR) λD eD e2=>oA (bU e2 hR) λhok e3=>oEA (bQ e3 hR) λhit ehit e4=>?_
  exact ⟨D,hit,qD eD▸hv,((Bool.and_eq_true _ _).mp hok).1,((Bool.and_eq_true _ _).mp hok).2,ehit,e4⟩
theorem Fly.go{h0 h h':Heap}{W W':Wd}{ea T:Addr}{a0 fl:Value}(x:Fly h0 W h c ea T a0 fl)(st:Step W h W' h'):Fly h0 W' h' c ea T a0 fl:=by
 refine fO x.exc λoe vs f1 f2 f3 f4 f5=>dX x.tb λoT ts t1 t2 t3=>?_
 have kE:=st.keep ea oe f1 x.nE.2
 have kT:=st.keep T oT t1 x.nT.2
 exact ⟨x.newE,x.newT,⟨kE.2.1.trans x.nE.1,kE.1⟩,⟨kT.2.1.trans x.nT.1,kT.1⟩,x.ne,(eI oe vs (st.keepF ea oe vs f1 f3 x.nE.2) f2 f3 f4 f5),(eW oT ts (st.keepF T oT ts t1 t2 x.nT.2) t2 t3)⟩
theorem UE{m D:Addr}{hit:Bool}(kc:ExcK K c m)(e:subIn K (.ref c) (.ref D)=some hit):(Value.ref c::dG m).contains (.ref D)=hit:=by
 refine eV kc.cls λcd hcd hmro U=>?_
 have e5:mroIn K c (.ref D)=some hit:=e
 unfold mroIn at e5
 rw [hcd,Option.bind_some,hmro] at e5
 simpa using e5
theorem hnd_S(B:Bas p loose mg mb K b0)(S:d0 prog w K b0 cf d n)(T:DB prog w K b0 cf d n):N7 prog w K b0 cf d (n+1):=by
 intro hs c le lc H k kx R h hR outer A WB hB WS hS W s env Q E ea tb a0 g fo nB x fl hk hx
 have g':=g.le (Nat.le_succ n)
 have F:=fo.fb.frs x.st
 cases hs with
 |nil=>
  refine wpAny_handleBy_nil (D8 (fs:=(env::outer).filterMap (·.frame)) fo.own fl λh' t fl'=>?_)
  exact hx c lc H (.ref ea) W {s with heap:=h'} h (x.turnX t F nB) (fl'.rel (.inr rfl)) (Same.mk s h' s.toks)
 |cons hc rest=>
  refine oEA (bQ (show ob (u0 hc) (λq=>ev K cf n (.Name q.1 q.2.1) le lc H (λa H=>ob (mP a) λC=>gd (cW K c&&cW K C)
    (ob (subIn K (.ref c) (.ref C)) λhit=>if hit then exs K cf n q.2.2 ⟨le.scope,le.cells,true⟩ lc H k wW else hnd K cf n rest c le lc H k kx)) noX)=R from h) hR) λq hq h1=>?_
  clear h
  refine fO (CK (F:=λhit H=>if hit then exs K cf n q.2.2 ⟨le.scope,le.cells,true⟩ lc H k wW else hnd K cf n rest c le lc H k kx) h1 hR) λD hit hv ok1 ok2 ehit e4=>?_
  clear h1
  refine kA (C2 hq) λb body pos hbd z1=>?_
  clear hq
  subst z1
  refine oE (uR ok1) λm kc=>oE (uR ok2) λm' kD=>fO fl.exc λoe vs f1 f2 f3 f4 f5=>?_
  have hcon:=UE kc ehit
  refine wpAny_handleBy_cons (codeAny_handlers_test ?_) (by intro q;cases q)
  refine kB B x.st.inv x.st.eo hv λW1 s1 st1 i1 sm1=>?_
  have X1:=B.X.keeps i1.kb
  have x1:=x.go st1 i1
  have fl1:=fl.go st1
  refine w8 (kc.at' X1) (kD.at' X1) (st1.keepF ea oe vs f1 f3 fl.nE.2) f2 ?_
  rw [hcon]
  cases hit with
  |true=>
   have F1:=fo.fb.frs x1.st
   have gm:Gd d n true (env::outer) (A.mark (some (.ref ea))):=⟨g'.frames,g'.dep,g'.un,λq=>nomatch q⟩
   refine codeAny_handlers_suite (kN (fs:=(env::outer).filterMap (·.frame)) (s:=s1) fl1 none λh'' t' fl'=>?_)
   have x2:=x1.turnX t' F1 nB
   rw [←hbd]
   refine T.exs q.2.2 ⟨le.scope,le.cells,true⟩ _ _ _ _ _ e4 hR outer _ WB hB WS hS W1 {s1 with heap:=h''} env _ _ gm fo nB x2.hd (λf lc3 H3 fl3 W3 s3 e5 x3 r3 sm3=>?_) (EOk.no hR _)
   exact hk f lc3 H3 fl3 W3 s3 e5 x3.hd r3 ((sm1.trans (Same.mk _ h'' s1.toks)).trans sm3)
  |false=>exact T.hnd rest _ _ _ _ _ _ _ e4 hR outer A WB hB WS hS W1 s1 env Q E ea tb a0 g' fo nB x1 fl1 (hk.from sm1) (hx.from sm1)
end
end
section
section variable {T c ea:Addr} {env:Env} {h h' hB hS:Heap} {H:Hp} {le:LE} {lc:Lc} {outer:List Env} {a0 fl:Value} {W WB WS:Wd}
variable {prog:Program} {w:World} {p:Program} {loose:TS} {mg mb:TM} {K:Frag} {b0:Heap} {cf:CF} {d n:Nat}
theorem Fly.apart{h0:Heap}(x:Fly h0 W h c ea T a0 fl)(eo:EnvOk W le lc env h):ea≠env.locals∧T≠env.locals:=by
 refine t9 x.exc λoe vs e1 e2 e3 U=>?_
 refine dX x.tb λoT ts t1 t2 U=>?_
 refine oEA eo.ns λm z1 U=>?_;refine cQ z1 λo es ep ho hd r=>?_;clear z1
 refine ⟨λq=>?_,λq=>?_⟩
 ·rw [q,ho] at e1;cases e1;rw [hd] at e3;cases e3
 ·rw [q,ho] at t1;cases t1;rw [hd] at t2;cases t2
theorem Fly.stepL{h0:Heap}{W':Wd}{L:Addr}(x:Fly h0 W h c ea T a0 fl)(st:StepL L W h W' h')(n1:ea≠L)(n2:T≠L):Fly h0 W' h' c ea T a0 fl:=by
 refine fO x.exc λoe vs f1 f2 f3 f4 f5=>?_
 refine dX x.tb λoT ts t1 t2 t3=>?_
 have kE:=st.keep ea oe f1 n1 x.nE.2
 have kT:=st.keep T oT t1 n2 x.nT.2
 exact ⟨x.newE,x.newT,⟨kE.2.1.trans x.nE.1,kE.1⟩,⟨kT.2.1.trans x.nT.1,kT.1⟩,x.ne,(eI oe vs (st.keepF ea oe vs f1 f3 n1 x.nE.2) f2 f3 f4 f5),(eW oT ts (st.keepF T oT ts t1 t2 n2 x.nT.2) t2 t3)⟩
theorem pR {s:Shared} {A:Around} {ce:Value} {E:TQ} {Q:Unit→Shared→Prop} (hfr:A.frames=some (env::outer)) (fo:FO b0 WB hB env outer) (nB:∀a,hS.get? a=none→hB.get? a=none)
  (x:Sd w b0 WB hB le env WS hS lc W H s.heap) (r:XRel W hS s.heap env.locals c ce)
  (h:∀h' ea T a0,ce= .ref ea→Sd w b0 WB hB le env WS hS lc W H h'→Fly hS W h' c ea T a0 (rawInt env.locals)→Q () {s with heap:=h'}):wpAny (model prog w) A (noteFrame ce env) Q E s:=by
 have F:=fo.fb.frs x.st
 exact EP hfr F fo.own (λa o e=>x.mv.dom a o e) x.st.inv.im x.ads r λh' ea T a0 e t fl=>h h' ea T a0 e (x.turnX t F nB) fl
theorem tK {s:Shared} {A:Around} {E:TQ} {Q:Unit→Shared→Prop} (fo:FO b0 WB hB env outer) (nB:∀a,hS.get? a=none→hB.get? a=none)
  (x:Sd w b0 WB hB le env WS hS lc W H s.heap) (r:Fly hS W s.heap c ea T a0 fl)
  (h:∀h',Sd w b0 WB hB le env WS hS lc W H h'→Fly hS W h' c ea T a0 .none→Q () {s with heap:=h'}):wpAny (model prog w) A (setFlight (.ref ea) none) Q E s:=by
 have F:=fo.fb.frs x.st
 exact kN (fs:=(env::outer).filterMap (·.frame)) r none λh' t fl'=>h h' (x.turnX t F nB) fl'
theorem FlRel.up{W':Wd}{f:Fl}{fl:Flow}(r:FlRel W f fl)(s:Sub W W'):FlRel W' f fl:=by
 cases f with
 |next=>exact r
 |cont=>exact r
 |ret v=>refine oEA r λc e r=>?_;exact (iEA c e (r.up s))
theorem Sd.start(x:Sd w b0 WB hB le env WS hS lc W H h):Sd w b0 WB hB le env W h lc W H h:=⟨x.st,StepL.refl _ _ _⟩
theorem UH(T:DB prog w K b0 cf d n){body orelse fin:List Stmt}{hs:List ExceptHandler}{pos:Pos}:ExP prog w K b0 cf d (n+1) (.Try body hs orelse fin pos):=by
 intro le lc H k kx R h hR outer A WB hB WS hS W s env Q E g fo nB x hk hx
 have g':=g.le (Nat.le_succ n)
 replace h:gd (!le.hd&&orelse.isEmpty) (match (generalizing:=false) fin with
   |f::fin=>gd hs.isEmpty (exs K cf n body le lc H
    (λfl lc H=>exs K cf n (f::fin) le lc H (λg lc H=>match g with| .next=>k fl lc H|_=> .stuck) wW)
    (λc lc H=>exs K cf n (f::fin) ⟨le.scope,le.cells,true⟩ lc H (λg lc H=>match g with| .next=>kx c lc H|_=> .stuck) wW))
   |[]=>gd (!hs.isEmpty) (exs K cf n body le lc H k (λc lc H=>hnd K cf n hs c le lc H k kx)))=R:=h
 refine oA (bU h hR) λhg0 h'=>?_
 clear h
 rename _=>h
 simp only [Bool.and_eq_true] at hg0
 have z9:=List.isEmpty_iff.mp hg0.2;subst z9
 cases fin with
 |cons f fin=>
  refine oA (bU h hR) λhc h1=>?_
  clear h
  have z9:=List.isEmpty_iff.mp hc;subst z9
  refine wpAny_Try_finally (T.exs body _ _ _ _ _ _ h1 hR outer A WB hB WS hS W s env _ _ g' fo nB x (λfl lc1 H1 fw W1 s1 e1 x1 r1 sm1=>?_) (λc lc1 H1 ce W1 s1 e1 x1 r1 sm1=>?_))
  ·have key:∀E',wpAny (model prog w) A (execs (f::fin) env) (λgl s'=>match gl with| .next=>Q fw s'|gl=>Q gl s') E' s1:=λE'=>
    T.exs (f::fin) _ _ _ _ _ _ e1 hR outer A WB hB W1 s1.heap W1 s1 env _ E' g' fo (λa ha=>x1.st.step.none_of ha) x1.start (λgl lc2 H2 gw W2 s2 e2 x2 r2 sm2=>by
     cases gl with
     |next=>
      cases r2
      exact hk fl lc2 H2 fw W2 s2 e2 ⟨x2.st,x1.mv.trans x2.mv⟩ (r1.up x2.mv.toSub) (sm1.trans sm2)
     |cont=>exact aR e2 hR
     |ret v=>exact aR e2 hR) (EOk.no hR _)
   cases fl with
   |next=>cases r1;exact wpAny_execs_nil (key _)
   |cont=>cases r1;exact key _
   |ret v=>refine oEA r1 λcv z1 U=>?_;clear r1;subst z1;exact key _
  ·refine pR g.frames fo nB x1 r1 λh2 ea tb a0 e x2 fl2=>?_
   subst e
   refine ⟨(by intro q;cases q),pR (s:={s1 with heap:=h2}) g.frames fo nB x2 (fl2.rel (.inr rfl)) λh3 ea' tb' a0' e x3 fl3=>?_⟩
   cases e
   refine tK (s:={s1 with heap:=h3}) fo nB x3 fl3 λh4 x4 fl4=>?_
   have gm:Gd d n true (env::outer) (A.mark (some (.ref ea))):=⟨g'.frames,g'.dep,g'.un,λq=>nomatch q⟩
   have ap:=fl4.apart x4.st.eo
   refine T.exs (f::fin) ⟨le.scope,le.cells,true⟩ _ _ _ _ _ e1 hR outer _ WB hB W1 h4 W1 {s1 with heap:=h4} env _ _ gm fo (λa ha=>x4.st.step.none_of ha) x4.start.hd (λgl lc5 H5 gw W5 s5 e5 x5 r5 sm5=>?_) (EOk.no hR _)
   cases gl with
   |next=>
    cases r5
    have fl5:=fl4.stepL x5.mv ap.1 ap.2
    have x5':Sd w b0 WB hB le env WS hS lc5 W5 H5 s5.heap:=⟨x5.st.hd,x4.mv.trans x5.mv⟩
    refine D8 (fs:=(env::outer).filterMap (·.frame)) fo.own fl5 λh6 t6 fl6=>?_
    exact hx c lc5 H5 (.ref ea) W5 {s5 with heap:=h6} e5 (x5'.turnX t6 (fo.fb.frs x5'.st) nB) (fl6.rel (.inr rfl)) (((sm1.trans (Same.mk s1 h4 s1.toks)).trans sm5).trans (Same.mk s5 h6 s5.toks))
   |cont=>exact aR e5 hR
   |ret v=>exact aR e5 hR
 |nil=>
  refine oA (bU h hR) λhc h1=>?_
  clear h
  cases hs with
  |nil=>cases hc
  |cons h₀ hs=>
  refine wpAny_Try_except (T.exs body _ _ _ _ _ _ h1 hR outer A WB hB WS hS W s env _ _ g' fo nB x (λfl lc1 H1 fw W1 s1 e1 x1 r1 sm1=>?_) (λc lc1 H1 ce W1 s1 e1 x1 r1 sm1=>?_))
  ·have q:=hk fl lc1 H1 fw W1 s1 e1 x1 r1 sm1
   cases fl with
   |next=>cases r1;exact wpAny_execs_nil q
   |cont=>cases r1;exact q
   |ret v=>refine oEA r1 λcv z1 U=>?_;clear r1;subst z1;exact q
  ·refine pR g.frames fo nB x1 r1 λh2 ea tb a0 e x2 fl2=>?_
   subst e
   refine tK (s:={s1 with heap:=h2}) fo nB x2 fl2 λh3 x3 fl3=>?_
   exact T.hnd (h₀::hs) _ _ _ _ _ _ _ e1 hR outer A WB hB WS hS W1 {s1 with heap:=h3} env Q E ea tb a0 g' fo nB x3 fl3 (hk.from (sm1.trans (Same.mk s1 h3 s1.toks))) (hx.from (sm1.trans (Same.mk s1 h3 s1.toks)))
theorem EnvOk.ext{I:Addr}(f:EnvOk W le lc env h)(x:Heap.ExtBut I h h')(n1:env.locals≠I)(n2:env.frame≠some I):EnvOk W le lc env h':=by
 obtain ⟨k1,k2,k3,k4,k5,k6,k7,k8,⟨m,⟨o,es,ep,ho,hd,r⟩,hm⟩,k9,k10,k11,k12⟩:=f
 have e':=x _ _ n1 ho
 exact ⟨k1,k2,k3,k4,k5,k6,k7,k8,(iEA m (cE _ es ep e' hd r) hm),k9,k10,λhf o' ho'=>by rw [e'] at ho';cases ho';exact k11 hf o ho,λL hf=>let ⟨o,e⟩:=k12 L hf;⟨o,x L o (λq=>n2 (q▸hf)) e⟩⟩
theorem StepL.ownE{L C:Addr}(x:StepL L WB hB W h)(hC:hB.get? C=none)(sb:Heap.ExtBut C h h'):StepL L WB hB W h':={x.toSub with
 keep:=λa o e l n=>by
  refine j5 (x.keep a o e l n) λn' i' sl e'=>?_
  exact (iAA n' i' ⟨sl,sb a _ (λg=>by subst g;rw [hC] at e;cases e) e'⟩)
 keepF:=λa o vs e d l n=>sb a _ (λg=>by subst g;rw [hC] at e;cases e) (x.keepF a o vs e d l n)
 keepX:=λa o e d l n=>sb a _ (λg=>by subst g;rw [hC] at e;cases e) (x.keepX a o e d l n)
 dom:=λa o e=>by
  refine oE (x.dom a o e) λo' e'=>?_
  exact ⟨o',sb a _ (λg=>by subst g;rw [hC] at e;cases e) e'⟩}
theorem UI(S:d0 prog w K b0 cf d n)(T:DB prog w K b0 cf d n){t iter:Expr}{body orelse:List Stmt}{pos:Pos}:ExP prog w K b0 cf d (n+1) (.For t iter body orelse pos):=by
 intro le lc H k kx R h hR outer A WB hB WS hS W s env Q E g fo nB x hk hx
 have g':=g.le (Nat.le_succ n)
 replace h:gd (!le.hd&&orelse.isEmpty) (ev K cf n iter le lc H (λa H=>ob (dQ H a) λi=>
    mY i.2 (λv lc H k'=>asg K cf n t v le lc H (λlc H=>exs K cf n body le lc H k' kx)) k i.1 lc H) (λc H=>kx c lc H))=R:=h
 refine oA (bU h hR) λhc h1=>?_
 clear h
 simp only [Bool.and_eq_true] at hc
 have z9:=List.isEmpty_iff.mp hc.2;subst z9
 have hhd:le.hd=false:=by simpa using hc.1
 have hh:=(g.calls hhd).2.2
 refine wpAny_For (S.ev _ _ _ _ _ _ _ h1 hR (env::outer) A W s env _ E g' (fo.fb.frs x.st) x.st.inv x.st.eo (λa H1 c W1 s1 e1 st1 i1 r1 sm1=>?_) (hx.xok x)) (uA h1 hR env)
 obtain ⟨⟨items,chk⟩,hit,e2⟩:=bQ e1 hR
 dsimp only at e2
 refine qZ i1 r1 hit λI oI hIn hIis hItAt hI=>?_
 have x1:=x.go st1 i1
 have hIW:W1.I I=none∧I∉W1.ads:=by rw [hI];exact ⟨i1.fresh.2,i1.fresh.1⟩
 have hIS:hS.get? I=none:=x1.mv.none_of hIn
 have hIB:hB.get? I=none:=nB I hIS
 have st2:Step W1 s1.heap W1 (s1.heap.push oI):=Step.of_keeps λa o e=>Heap.get?_push_of_some _ e
 have x2:=x1.go st2 (i1.push1 _)
 have hIL:I≠env.locals:=λq=>by
  refine oE x1.st.eo.there λo ho=>?_
  rw [←q,hIn] at ho;cases ho
 have hIF:env.frame≠some I:=λq=>by rw [fo.own] at q;cases q;exact hIL rfl
 refine codeAny_forLoop_any (λm s'=>∃j lc' H' W',m=items.length+1 - j∧j≤items.length∧mY chk (λv lc H k'=>asg K cf n t v le lc H (λlc H=>exs K cf n body le lc H k' kx)) k (items.drop j) lc' H'=R∧
   Sd w b0 WB hB le env WS hS lc' W' H' s'.heap∧Itr W' H1 a s'.heap I j∧Same s s') ?_ (items.length+1)
  (bW 0 lc H1 W1 ow87 (Nat.zero_le _) (by rw [List.drop_zero];exact e2) x2 ⟨⟨hItAt,hIW⟩,(sm1.trans (Same.mk s1 _ s1.toks))⟩)
 intro m s5 z
 refine thru λG hG=>?_
 refine oE z λj z1=>kY z1 λlc5 H5 W5 z2 hj hlf x5 q5 sm5=>?_
 clear z z1
 rcases Nat.lt_or_ge j items.length with hlt|hlt
 ·have hd:items.drop j=items[j]::items.drop (j+1):=List.drop_eq_getElem_cons hlt
  rw [hd] at hlf
  refine oA (bU (show gd _ _=R from hlf) hR) λhc5 hlf=>hG ?_
  refine tC x5.st.inv q5.nI.2 hit hc5 q5.it (List.getElem?_eq_getElem hlt) λcv h6 tk rv it6 sb6=>?_
  have x6:Sd w b0 WB hB le env WS hS lc5 W5 H5 h6:=⟨⟨x5.st.step.own hIB sb6,x5.st.inv.but q5.nI.1 q5.nI.2 sb6,x5.st.eo.sameBut sb6 (Ne.symm hIL) hIF,x5.st.new⟩,x5.mv.own hIS sb6⟩
  refine EY (s:={s5 with heap:=h6,toks:=tk}) it6 t cv ?_
  refine S.asg _ _ _ _ _ _ _ hlf hR (env::outer) A WB hB W5 {s5 with heap:=h6,toks:=tk} env _ _ cv g' fo.fb x6.st rv λlc7 H7 W7 s7 e7 mv7 T7 sm7=>?_
  have x7:Sd w b0 WB hB le env WS hS lc7 W7 H7 s7.heap:=x6.goL mv7 T7
  have q7:=(Itr.mk it6 q5.nI).go mv7 hIL
  have sm57:Same s s7:=(sm5.trans (Same.mk s5 h6 tk)).trans sm7
  refine T.exs body _ _ _ _ _ _ e7 hR outer A WB hB W7 s7.heap W7 s7 env _ _ g' fo (λa ha=>x7.st.step.none_of ha) x7.start (λfl lc8 H8 fw W8 s8 e8 x8 r8 sm8=>?_) (λc8 lc8 H8 ce W8 s8 e8 x8 r8 sm8=>?_)
  ·have x8':Sd w b0 WB hB le env WS hS lc8 W8 H8 s8.heap:=⟨x8.st,x7.mv.trans x8.mv⟩
   have q8:=q7.go x8.mv hIL
   cases fl with
   |next=>cases r8;exact (iEA (items.length+1 - (j+1)) (z2▸LB hlt) (bW (j+1) lc8 H8 W8 rfl hlt e8 x8' ⟨q8,sm57.trans sm8⟩))
   |cont=>cases r8;exact (iEA (items.length+1 - (j+1)) (z2▸LB hlt) (bW (j+1) lc8 H8 W8 rfl hlt e8 x8' ⟨q8,sm57.trans sm8⟩))
   |ret v=>
    have q:=hk (.ret v) lc8 H8 fw W8 s8 e8 x8' r8 (sm57.trans sm8)
    refine oEA r8 λcv8 z1 U=>?_;clear r8;subst z1
    exact q
  ·have x8':Sd w b0 WB hB le env WS hS lc8 W8 H8 s8.heap:=⟨x8.st,x7.mv.trans x8.mv⟩
   refine pR g.frames fo nB x8' (r8.base (hb:=hS) λa ha=>x7.mv.none_of ha) λh9 ea tb a0 e x9 fl9=>?_
   subst e
   refine UP (fs:=(env::outer).filterMap (·.frame)) (s:={s8 with heap:=h9}) fo.own fl9 λh10 t10 fl10=>?_
   exact hx c8 lc8 H8 (.ref ea) W8 {s8 with heap:=h10} e8 (x9.turnX t10 (fo.fb.frs x9.st) nB) (fl10.rel (.inr rfl)) ((sm57.trans sm8).trans (Same.mk s8 h10 s8.toks))
 ·have hje:j=items.length:=Nat.le_antisymm hj hlt
  have hd:items.drop j=[]:=by rw [hje];exact List.drop_length
  rw [hd] at hlf
  refine oA (bU (show gd _ _=R from hlf) hR) λhc5 hlf=>hG ?_
  refine wY hh x5.st.inv hit hc5 q5.it hje λh6 he=>?_
  refine wpAny_execs_nil ?_
  have x6:Sd w b0 WB hB le env WS hS lc5 W5 H5 h6:=⟨⟨x5.st.step.ownE hIB he,x5.st.inv.apart q5.nI.1 q5.nI.2 λb o hb e=>he b o hb e,x5.st.eo.ext he (Ne.symm hIL) hIF,x5.st.new⟩,x5.mv.ownE hIS he⟩
  exact hk .next lc5 H5 .next W5 {s5 with heap:=h6} hlf x6 rfl (sm5.trans (Same.mk s5 h6 s5.toks))
end
end
section
section
variable {prog:Program} {w:World} {p:Program} {loose:TS} {mg mb:TM} {K:Frag} {b0:Heap} {cf:CF} {d n:Nat}
theorem uP{α β:Type}(f:α→Option β){l:List α}{a:α}(h:a∈l)(e:f a=none):(l.filterMap f).length<l.length:=by
 induction l with
 |nil=>exact nomatch h
 |cons b r ih=>
  rw [List.filterMap_cons,List.length_cons]
  rcases List.mem_cons.mp h with rfl|h
  ·rw [e]
   exact Nat.lt_succ_of_le (List.length_filterMap_le f r)
  ·have:=ih h
   cases f b with
   |none=>exact Nat.lt_succ_of_lt this
   |some c=>exact Nat.succ_lt_succ this
theorem wX{W:Wd}{le:LE}{lc:Lc}{env:Env}{h:Heap}{t e:Expr}(hn:yS le t e=true)(eo:EnvOk W le lc env h):swappedStores [t] e env=pure none:=by
 cases t with
 |Tuple ts c q=>
  cases e with
  |Tuple vs _ _=>
   unfold swappedStores
   show (if _ then pure none else if _ then pure none else _)=pure none
   split
   ·rfl
   ·split
    ·rfl
    ·show (if _ then pure none else _)=pure none
     rw [if_pos]
     refine oEA (List.any_eq_true.mp (show (ts.any λx=>Option.casesOn (gG x) false λq=>le.scope.names.lookup q.1==some .cell)=true from hn)) λx hx hc=>?_
     have hlt:=uP (l:=ts) (λx:Expr=>match x with
      | .Name id pos=>if env.kindOf id==some .local&&pos.line==(ts.head?.map (·.pos.line)).getD 0 then some id else none
      |_=>none) hx (by
       cases hq:gG x with
       |none=>rw [hq] at hc;exact nomatch hc
       |some y=>
        rw [hq] at hc
        rw [fJ hq]
        dsimp only
        rw [eo.aC y.1 (beq_iff_eq.mp hc)];rfl)
     rw [Bool.or_eq_true]
     left
     rw [bne_iff_ne]
     exact Nat.ne_of_lt hlt
  |_=>rfl
 |List _ _=>exact nomatch hn
 |_=>rfl
end
end
section
section variable {env:Env}
variable {prog:Program} {w:World} {p:Program} {loose:TS} {mg mb:TM} {K:Frag} {b0:Heap} {cf:CF} {d n:Nat}
theorem sF{t:Expr}{v:Value}(h:∀a b,t≠ .Starred a b):assignAll v ((assignEach [t] env).map (·.2))=assign t env v:=by
 cases t<;>first|rfl|exact (h _ _ rfl).elim
theorem GN{m:Nat}{a:Expr}{b:Pos}{v:V}{le:LE}{lc:Lc}{H:Hp}{k:Lc→Hp→Res}:asg K cf m (.Starred a b) v le lc H k= .stuck:=by
 cases m<;>rfl
theorem zI{e:Expr}{sc:Scope}(hg:PySem.swapsWith.match_1 (λU=>Option Scope) e (λU U s U=>some s) (λU U s U=>some s) (λU U U s U=>some s) (λU=>none)=some sc):(∃elt gens sc q,e= .ListComp elt gens sc q)∨(∃elt gens sc q,e= .SetComp elt gens sc q)∨∃a b' gens sc q,e= .DictComp a b' gens sc q:=by
 cases e with
 |ListComp _ _ _ _=>exact .inl (eQ _ _ _ _ rfl)
 |SetComp _ _ _ _=>exact .inr (.inl (eQ _ _ _ _ rfl))
 |DictComp _ _ _ _ _=>exact .inr (.inr (eQ _ _ _ _ ⟨_,rfl⟩))
 |_=>exact ns hg
theorem yB{t e:Expr}{l:Nat}:∃b,swapsWithSole [t] e l env=pure b∧(b=true→∃x p,t= .Name x p∧((∃elt gens sc q,e= .ListComp elt gens sc q)∨(∃elt gens sc q,e= .SetComp elt gens sc q)∨∃a b' gens sc q,e= .DictComp a b' gens sc q)):=by
 show ∃b,swapsWith e (some t) l env=pure b∧_
 unfold swapsWith
 cases hg:PySem.swapsWith.match_1 (λU=>Option Scope) e (λU U s U=>some s) (λU U s U=>some s) (λU U U s U=>some s) (λU=>none) with
 |none=>exact (iEA false rfl (λq=>nomatch q))
 |some sc=>
  have hg:=zI hg
  generalize ((∃elt gens sc q,e=Expr.ListComp elt gens sc q)∨(∃elt gens sc q,e=Expr.SetComp elt gens sc q)∨∃a b' gens sc q,e=Expr.DictComp a b' gens sc q)=G at hg ⊢
  cases t with
  |Name x p=>exact (iEA _ rfl (λU=>(dS x p rfl hg)))
  |_=>exact (iEA false rfl (λq=>nomatch q))
theorem CV(S:d0 prog w K b0 cf d n)(S0:∀m,n=m+1→d0 prog w K b0 cf d m){ts:List Expr}{e:Expr}{pos:Pos}:ExP prog w K b0 cf d (n+1) (.Assign ts e pos):=by
 intro le lc H k kx R h hR outer A WB hB WS hS W s env Q E g fo nB x hk hx
 have g':=g.le (Nat.le_succ n)
 replace h:ob (sW ts) (λt=>gd (yS le t e)<|ev K cf n e le lc H (λv H=>asg K cf n t v le lc H (λlc H=>k .next lc H)) (λc H=>kx c lc H))=R:=h
 refine oEA (bQ h hR) λt ht h'=>?_
 clear h
 rename _=>h
 have z9:=mT ht;subst z9
 refine oA (bU h hR) λhns h1=>?_
 clear h
 refine oEA (yB (t:=t) (e:=e) (l:=pos.line) (env:=env)) λb hb hbt=>?_
 have ends:∀{W1:Wd} {H1:Hp} {s1:Shared} {v:V} {cv:Value} {Q':Unit→Shared→Prop},asg K cf n t v le lc H1 (λlc H=>k .next lc H)=R→Sd w b0 WB hB le env WS hS lc W1 H1 s1.heap→VRel W1 v cv→Same s s1→(∀s',Q .next s'→Q' () s')→wpAny (model prog w) A (assignAll cv ((assignEach [t] env).map (·.2))) Q' E s1:=by
  intro W1 H1 s1 v cv Q' e1 x1 r1 sm1 hQ
  have hst:∀a b,t≠ .Starred a b:=λa b q=>by rw [q,GN] at e1;exact hR e1.symm
  rw [sF hst]
  exact S.asg _ _ _ _ _ _ _ e1 hR (env::outer) A WB hB W1 s1 env _ E cv g' fo.fb x1.st r1 λlc2 H2 W2 s2 e2 mv2 T2 sm2=>hQ _ (hk .next lc2 H2 .next W2 s2 e2 (x1.goL mv2 T2) rfl (sm1.trans sm2))
 cases b with
 |false=>
  refine wpAny_Assign_stores (S.ev _ _ _ _ _ _ _ h1 hR (env::outer) A W s env _ E g' (fo.fb.frs x.st) x.st.inv x.st.eo (λv H1 cv W1 s1 e1 st1 i1 r1 sm1=>?_) (hx.xok x)) hb (wX hns x.st.eo)
  exact ends e1 (x.go st1 i1) r1 sm1 λU q=>q
 |true=>
  refine cX (hbt rfl) λxn xp z1 hcomp=>?_;subst z1
  rw [exec_Assign_arm]
  refine wpAny_bind (wpAny_standAt ?_)
  rw [hb]
  refine wpAny_bind (wpAny_pure ?_)
  rw [if_pos rfl]
  cases n with
  |zero=>exact aR h1 hR
  |succ n=>
  rcases hcomp with ⟨elt,gens,sc,q,rfl⟩|⟨elt,gens,sc,q,rfl⟩|⟨a,b',gens,sc,q,rfl⟩
  ·unfold evalThenUse
   refine wpAny_bind (wpAny_bind (GH (S0 n rfl) S h1 hR g' fo.fb x.st (hx.xok x) λlc2 H2 W2 s2 e2 mv2 T2 sm2=>?_))
   exact wpAny_pure (wpAny_pure (hk .next lc2 H2 .next W2 s2 e2 (x.goL mv2 T2) rfl sm2))
  ·exact aR h1 hR
  ·exact aR h1 hR
theorem ex_S(B:Bas p loose mg mb K b0)(S:d0 prog w K b0 cf d n)(S0:∀m,n=m+1→d0 prog w K b0 cf d m)(T:DB prog w K b0 cf d n):∀st,ExP prog w K b0 cf d (n+1) st:=by
 intro st
 cases st with
 |Expr e pos=>
  intro le lc H k kx R h hR outer A WB hB WS hS W s env Q E g fo nB x hk hx
  have g':=g.le (Nat.le_succ n)
  replace h:gd (rI e).isSome (ev K cf n e le lc H (λU H=>k .next lc H) (λc H=>kx c lc H))=R:=h
  refine oA (bU h hR) λhcall h'=>?_
  clear h
  rename _=>h
  refine oE (Option.isSome_iff_exists.mp hcall) λq hq=>?_
  have z9:=oC hq;subst z9
  have hint:interactive env=false:=by unfold interactive;rw [x.st.eo.kind];rfl
  refine wpAny_Expr_any (S.ev _ _ _ _ _ _ _ h hR (env::outer) A W s env _ E g' (fo.fb.frs x.st) x.st.inv x.st.eo (λv H1 cv W1 s1 e1 st1 i1 r1 sm1=>?_) (hx.xok x)) hint rfl
  exact hk .next lc H1 .next W1 s1 e1 (x.go st1 i1) rfl sm1
 |Assign=>exact CV S S0
 |If t a b pos=>
  intro le lc H k kx R h hR outer A WB hB WS hS W s env Q E g fo nB x hk hx
  have g':=g.le (Nat.le_succ n)
  replace h:tst K cf n t le lc H (λc H=>if c then exs K cf n a le lc H k kx else exs K cf n b le lc H k kx) (λc H=>kx c lc H)=R:=h
  refine wpAny_If (S.tst _ _ _ _ _ _ _ h hR (env::outer) A W s env _ E g' (fo.fb.frs x.st) x.st.inv x.st.eo (λv H1 cv W1 s1 e1 st1 i1 r1 sm1=>?_) (hx.xok x))
  subst r1
  have x1:=x.go st1 i1
  cases v with
  |true=>exact T.exs a _ _ _ _ _ _ e1 hR outer A WB hB WS hS W1 s1 env Q E g' fo nB x1 (hk.from sm1) (hx.from sm1)
  |false=>exact T.exs b _ _ _ _ _ _ e1 hR outer A WB hB WS hS W1 s1 env Q E g' fo nB x1 (hk.from sm1) (hx.from sm1)
 |Return e pos=>
  intro le lc H k kx R h hR outer A WB hB WS hS W s env Q E g fo nB x hk hx
  have g':=g.le (Nat.le_succ n)
  replace h:ob e (λe=>ev K cf n e le lc H (λv H=>k (.ret v) lc H) (λc H=>kx c lc H))=R:=h
  refine oEA (bQ h hR) λe z1 h'=>?_;subst z1
  clear h
  rename _=>h
  refine wpAny_Return_some (S.ev _ _ _ _ _ _ _ h hR (env::outer) A W s env _ E g' (fo.fb.frs x.st) x.st.inv x.st.eo (λv H1 cv W1 s1 e1 st1 i1 r1 sm1=>?_) (hx.xok x))
  exact hk (.ret v) lc H1 (.ret cv) W1 s1 e1 (x.go st1 i1) (iEA cv rfl r1) sm1
 |Continue pos=>
  intro le lc H k kx R h hR outer A WB hB WS hS W s env Q E g fo nB x hk hx
  replace h:k .cont lc H=R:=h
  exact wpAny_Continue (hk .cont lc H .cont W s h x rfl rfl)
 |For=>exact UI S T
 |Raise=>exact FW B S
 |Try=>exact UH T
 |_=>
  intro le lc H k kx R h hR outer A WB hB WS hS W s env Q E g fo nB x hk hx
  exact aR h hR
theorem DM(B:Bas p loose mg mb K b0)(C:DE prog w b0 d cf):∀n,DB prog w K b0 cf d n
 |0=>{
   ex:=λst le lc H k kx R h hR=>aR h hR
   exs:=λst le lc H k kx R h hR=>aR h hR
   hnd:=λhs c le lc H k kx R h hR=>aR h hR}
 |n+1=>
  have T:=DM B C n
  have S:=zM B C n
  {ex:=ex_S B S (λm U=>zM B C m) T,exs:=exs_S T,hnd:=hnd_S B S T}
theorem xP(B:Bas p loose mg mb K b0):∀d,DE prog w b0 d (aB K d)
 |0=>λf args H R h hR=>aR h hR
 |d+1=>by
  intro f args H R h hR rr fr A W s cargs hfr hdep hun hh F i ha hok hex
  have C:=xP B d
  replace h:ob (g9 K f) (λfd=>gd (uO K fd) (ob (hM K fd args) λbs=>ob (lZ fd) λbody=>
   ob (eZ ⟨fd.scope,cellsFor fd.scope H.length,false⟩ bs [] (H++(cellsFor fd.scope H.length).map λU=> .cell none)) λp=>
    exs K (aB K d) mI body ⟨fd.scope,cellsFor fd.scope H.length,false⟩ p.1 p.2 ends (λc U H=> .exc c H)))=R:=h
  refine oEA (bQ h hR) λfd hfd h1=>?_
  refine oA (bU h1 hR) λhfn h2=>?_
  refine oEA (bQ h2 hR) λbs hbs h3=>?_
  refine oEA (bQ h3 hR) λbody hbody h4=>?_
  obtain ⟨⟨lc,H1⟩,hba,h5⟩:=bQ h4 hR
  clear h h1 h2 h3 h4
  have hlim:recursionLimit=1000:=rfl
  refine rE B i hfd hfn hbs hbody hba ha (by rw [hlim];exact ow102 hdep) λenv W1 s1 hf st sm=>codeAny_func ?_
  have fo:FO b0 W s.heap env fr:=⟨F,hf,λa o e=>i.im a o (i.base a o e)⟩
  have x:Sd w b0 W s.heap ⟨fd.scope,cellsFor fd.scope H.length,false⟩ env W1 s1.heap lc W1 H1 s1.heap:=⟨st,StepL.refl _ _ _⟩
  have g:Gd d mI false (env::fr) (A.deeper env):=⟨by show (A.frames.map λU=>_)=_;rw [hfr];rfl,by show A.depth+1+2*80+20≤1000;exact ow101 hdep,by show A.units+3+10*80+100≤9900;exact ow100 hun,λU=>(iAA (by show A.depth+1+4*d+200≤1000;exact ow99 hdep) (by show A.units+3+30*d+1000≤9900;exact ow98 hun) hh)⟩
  refine (DM B C mI).exs body _ _ _ _ _ _ h5 hR fr (A.deeper env) W s.heap W1 s1.heap W1 s1 env _ _ g fo (λa ha=>st.step.none_of ha) x (λfl lc2 H2 fw W2 s2 e2 x2 r2 sm2=>?_) (λc lc2 H2 ce W2 s2 e2 x2 r2 sm2=>?_)
  ·cases fl with
   |next=>cases r2;exact hok .none H2 .none W2 s2 e2.symm x2.st.step x2.st.inv .none (sm.trans sm2)
   |cont=>exact aR e2 hR
   |ret v=>
    refine oEA r2 λcv z1 r=>?_;clear r2;subst z1
    exact hok v H2 cv W2 s2 e2.symm x2.st.step x2.st.inv r (sm.trans sm2)
  ·have F2:=fo.fb.frs x2.st
   refine LK g.frames F2 hf (λa o e=>x2.mv.dom a o e) x2.st.inv.im x2.ads r2 λh₃ ea tb a0 e t fl=>?_
   subst e
   have x3:=x2.turnX t F2 (λa ha=>st.step.none_of ha)
   exact hex c H2 ea tb a0 W2 {s2 with heap:=h₃} e2.symm x3.st.step x3.st.inv (fl.base λa ha=>st.step.none_of ha) ((sm.trans sm2).trans (Same.mk s2 h₃ s2.toks))
end
end
end Mine
set_option tactic.hygienic true
set_option genInjectivity true
set_option genSizeOf true
set_option genSizeOfSpec true
set_option Elab.async true
namespace Mine
open PySem PySem.W PyProof.Rows
section
local macro_rules | `(tactic|o_head $_t)=>`(tactic|(refine (?_:∀q:Prop,q) _;assumption))
noncomputable def laid.tw13923008015255199913:Unit:=()
set_option maxHeartbeats 8000000 in
theorem laid(hh:∀q:Prop,q):PySem.Challenge.rw_nn0050_01.Holds:=by
 w_on;o_law;k_head
end
end Mine
set_option Elab.async false
set_option tactic.hygienic false
set_option genInjectivity false
set_option genSizeOf false
set_option genSizeOfSpec false
namespace Mine
open PySem PySem.W PyProof.Rows
section
structure Row where
 name:Str
 worth:Int
 plus:Str
 minus:Str
section
variable {α:Type}
abbrev Tab (α:Type):=List (Str×α)
noncomputable def has(t:Tab α)(x:Str):Bool:=(t.lookup x).isSome
noncomputable def d4(join:Row→Tab α→α)(t:Tab α)(r:Row):Tab α:=if !has t r.name&&has t r.plus&&has t r.minus then t++[(r.name,join r t)] else t
noncomputable def dA(join:Row→Tab α→α)(rows:List Row)(t:Tab α):Tab α:=rows.foldl (d4 join) t
noncomputable def jK(join:Row→Tab α→α)(rows:List Row):Nat→Tab α→Tab α
 |0,t=>t
 |n+1,t=>jK join rows n (dA join rows t)
noncomputable def pG(join:Row→Tab α→α)(rows:List Row)(t:Tab α):Tab α:=jK join rows rows.length t
variable {join:Row→Tab α→α} {rows:List Row} {t t':Tab α} {r:Row} {x:Str}
theorem nR(a b:Tab α)(x:Str):(a++b).lookup x=(a.lookup x).or (b.lookup x):=by
 induction a with
 |nil=>simp
 |cons p q ih=>
  obtain ⟨y,v⟩:=p
  rw [List.cons_append,List.lookup_cons,List.lookup_cons]
  cases x==y<;>simp [ih]
theorem m0(a b:Tab α)(x:Str):has (a++b) x=(has a x || has b x):=by
 unfold has
 rw [nR]
 cases a.lookup x<;>exact rfl
theorem nO(h:t<+:t'){v:α}(e:t.lookup x=some v):t'.lookup x=some v:=by
 refine oE h λs z1=>?_;clear h;subst z1
 rw [nR,e];rfl
theorem gO(h:t<+:t')(e:has t x=true):has t' x=true:=by
 refine oE h λs z1=>?_;clear h;subst z1
 rw [m0,e];rfl
theorem vE:t<+:d4 join t r:=by
 unfold d4
 split
 ·exact List.prefix_append _ _
 ·exact List.prefix_refl _
theorem kU:∀{rows:List Row} {t:Tab α},t<+:dA join rows t
 |[],t=>List.prefix_refl _
 |r::rs,t=>(vE (r:=r)).trans (kU (rows:=rs) (t:=d4 join t r))
inductive Laid (join:Row→Tab α→α) (rows:List Row) (base:Tab α):Tab α→Prop
 |base:Laid join rows base base
 |put {t:Tab α} {r:Row}:Laid join rows base t→r∈rows→has t r.name=false→has t r.plus=true→has t r.minus=true→Laid join rows base (t++[(r.name,join r t)])
theorem Laid.step{base:Tab α}(h:Laid join rows base t)(hr:r∈rows):Laid join rows base (d4 join t r):=by
 unfold d4
 split
 ·rename_i hc
  simp only [Bool.and_eq_true,Bool.not_eq_true'] at hc
  exact .put h hr hc.1.1 hc.1.2 hc.2
 ·exact h
theorem Laid.round{base:Tab α}:∀{rs:List Row} {t:Tab α},(∀r∈rs,r∈rows)→Laid join rows base t→Laid join rows base (dA join rs t)
 |[],t,_,h=>h
 |r::rs,t,hs,h=>Laid.round (rs:=rs) (λq hq=>hs q (List.mem_cons_of_mem _ hq)) (h.step (hs r (List.mem_cons_self ..)))
theorem Laid.times{base:Tab α}:∀{n:Nat} {t:Tab α},Laid join rows base t→Laid join rows base (jK join rows n t)
 |0,t,h=>h
 |n+1,t,h=>Laid.times (n:=n) (h.round λU q=>q)
theorem tF(base:Tab α):Laid join rows base (pG join rows base):=Laid.times .base
theorem Laid.pre{base:Tab α}(h:Laid join rows base t):base<+:t:=by
 induction h with
 |base=>exact List.prefix_refl _
 |put _ _ _ _ _ ih=>exact ih.trans (List.prefix_append _ _)
noncomputable def iL(rows:List Row)(t:Tab α):Nat:=(rows.filter λr=>!has t r.name).length
noncomputable def rV(rows:List Row)(t:Tab α):Prop:=∀r∈rows,has t r.plus=true→has t r.minus=true→has t r.name=true
theorem xX(h:t<+:t'):iL rows t'≤iL rows t:=by
 unfold iL
 induction rows with
 |nil=>simp
 |cons r rs ih=>
  rw [List.filter_cons,List.filter_cons]
  cases h1:has t r.name with
  |true=>rw [gO h h1];assumption
  |false=>
   cases has t' r.name with
   |true=>exact Nat.le_succ_of_le ih
   |false=>exact Nat.succ_le_succ ih
theorem DA(h:t<+:t')(hr:r∈rows)(h1:has t r.name=false)(h2:has t' r.name=true):iL rows t'<iL rows t:=by
 induction rows with
 |nil=>cases hr
 |cons q rs ih=>
  have hm:=xX (rows:=rs) h
  unfold iL at *
  rw [List.filter_cons,List.filter_cons]
  rcases List.mem_cons.mp hr with rfl|hr
  ·rw [h1,h2];simp;exact ow97 hm
  ·have:=ih hr
   cases h3:has t q.name with
   |true=>rw [gO h h3];assumption
   |false=>
    cases has t' q.name with
    |true=>exact Nat.lt_succ_of_lt this
    |false=>exact Nat.succ_lt_succ this
theorem qC:∀{rs:List Row} {t:Tab α},dA join rs t=t→∀r∈rs,has t r.plus=true→has t r.minus=true→has t r.name=true
 |[],t,_,r,hr,_,_=>by cases hr
 |q::rs,t,h,r,hr,h1,h2=>by
  have e1:dA join rs (d4 join t q)=t:=h
  have p1:t<+:d4 join t q:=vE
  have p2:d4 join t q<+:dA join rs (d4 join t q):=kU
  have e2:d4 join t q=t:=by
   rw [e1] at p2
   exact (List.IsPrefix.eq_of_length p1 (Nat.le_antisymm p1.length_le p2.length_le)).symm
  rw [e2] at e1
  rcases List.mem_cons.mp hr with rfl|hr
  ·cases h3:has t r.name with
   |true=>rfl
   |false=>
    unfold d4 at e2
    rw [if_pos (by rw [h1,h2,h3];rfl)] at e2
    have:=congrArg List.length e2
    simp at this
  ·exact qC e1 r hr h1 h2
theorem wI(h:dA join rows t≠t):iL rows (dA join rows t)<iL rows t:=by
 have key:∀(rs:List Row) (t:Tab α),(∀r∈rs,r∈rows)→dA join rs t≠t→∃r∈rows,has t r.name=false∧has (dA join rs t) r.name=true:=by
  intro rs
  induction rs with
  |nil=>intro t _ h;exact absurd rfl h
  |cons q rs ih=>
   intro t hs h
   by_cases e:d4 join t q=t
   ·have e1:dA join (q::rs) t=dA join rs t:=by show dA join rs (d4 join t q)=_;rw [e]
    rw [e1] at h ⊢
    exact ih t (λr hr=>hs r (List.mem_cons_of_mem _ hr)) h
   ·refine (iEA q (hs q (List.mem_cons_self ..)) ?_)
    unfold d4 at e
    split at e
    ·rename_i hc
     simp only [Bool.and_eq_true,Bool.not_eq_true'] at hc
     refine ⟨hc.1.1,gO (t:=d4 join t q) kU ?_⟩
     unfold d4
     rw [if_pos (by rw [hc.1.1,hc.1.2,hc.2];rfl),m0]
     unfold has
     simp
    ·exact absurd rfl e
 refine eV (key rows t (λU q=>q) h) λr hr h1 h2=>?_
 exact DA kU hr h1 h2
theorem m9:∀{n:Nat} {t:Tab α},iL rows t≤n→rV rows (jK join rows n t)
 |0,t,h=>λr hr U U=>by
  cases h3:has t r.name with
  |true=>exact h3
  |false=>
   have:r∈rows.filter λr=>!has t r.name:=List.mem_filter.mpr ⟨hr,by rw [h3];rfl⟩
   exact absurd (List.length_pos_of_mem this) (Nat.not_lt.2 h)
 |n+1,t,h=>by
  by_cases e:dA join rows t=t
  ·have c:rV rows t:=λr hr h1 h2=>qC e r hr h1 h2
   have:∀n,jK join rows n t=t:=by
    intro n
    induction n with
    |zero=>rfl
    |succ n ih=>show jK join rows n (dA join rows t)=t;rw [e,ih]
   rw [this]
   exact c
  ·exact m9 (n:=n) (t:=dA join rows t) (by have:=wI e;exact ow103 this h)
theorem pB(base:Tab α):rV rows (pG join rows base):=m9 (by unfold iL;exact List.length_filter_le _ _)
end
end
section
section
variable {α β:Type} {join:Row→Tab α→α} {rows:List Row} {t t' T base:Tab α} {r:Row} {x y:Str}
noncomputable def rk:Tab α→Str→Nat
 |[],_=>0
 |p::q,x=>if x==p.1 then 0 else rk q x+1
theorem MW:∀{t:Tab α} {x:Str},has t x=true→rk t x<t.length
 |[],x,h=>by cases h
 |(z,v)::q,x,h=>by
  unfold rk
  cases e:x==z with
  |true=>exact Nat.zero_lt_succ _
  |false=>
   have h':has q x=true:=by
    unfold has at h ⊢
    rw [List.lookup_cons,e] at h
    exact h
   have:=MW h'
   simp;exact ow104 this
theorem D4:∀{t:Tab α} {x:Str} (s:Tab α),has t x=true→rk (t++s) x=rk t x
 |[],x,s,h=>by cases h
 |(z,v)::q,x,s,h=>by
  rw [List.cons_append]
  unfold rk
  cases e:x==z with
  |true=>rfl
  |false=>
   have h':has q x=true:=by
    unfold has at h ⊢
    rw [List.lookup_cons,e] at h
    exact h
   simp [D4 s h']
theorem D3:∀{t:Tab α} {x:Str} (v:α) (s:Tab α),has t x=false→rk (t++(x,v)::s) x=t.length
 |[],x,v,s,h=>by unfold rk;simp
 |(z,u)::q,x,v,s,h=>by
  rw [List.cons_append]
  unfold rk
  cases e:x==z with
  |true=>
   unfold has at h
   rw [List.lookup_cons,e] at h
   cases h
  |false=>
   have h':has q x=false:=by
    unfold has at h ⊢
    rw [List.lookup_cons,e] at h
    exact h
   simp [D3 v s h']
theorem qT(h:t<+:T)(hx:has t x=true):T.lookup x=t.lookup x:=by
 unfold has at hx
 refine oE (Option.isSome_iff_exists.mp hx) λv hv=>?_
 rw [hv,nO h hv]
theorem xA(h:Laid join rows base T)(hx:has T x=true)(hb:has base x=false):
  ∃r∈rows,r.name=x∧∃t',Laid join rows base t'∧(t'++[(x,join r t')])<+:T∧has t' r.plus=true∧has t' r.minus=true∧has t' x=false:=by
 induction h with
 |base=>rw [hb] at hx;cases hx
 |@put t r hl hr h1 h2 h3 ih=>
  cases e:has t x with
  |true=>
   refine eV (ih e) λq hq e1 z1=>?_;refine eV z1 λt' a b c=>?_;clear z1
   exact (cM q hq e1 (cM t' a (b.trans (List.prefix_append _ _)) c))
  |false=>
   rw [m0,e,Bool.false_or] at hx
   have hn:x=r.name:=by
    unfold has at hx
    rw [List.lookup_cons] at hx
    cases q:x==r.name with
    |true=>exact beq_iff_eq.mp q
    |false=>rw [q] at hx;cases hx
   subst hn
   exact (cM r hr rfl (lU t hl (List.prefix_refl _) h2 h3 h1))
theorem E9(h:Laid join rows base T)(hx:has T x=true):has base x=true∨∃r∈rows,r.name=x:=by
 cases hb:has base x with
 |true=>exact .inl rfl
 |false=>refine eV (xA h hx hb) λr hr e U=>?_;exact .inr (iEA r hr e)
theorem xB (h:Laid join rows base T) (hn:(rows.map (·.name)).Nodup) (hr:r∈rows) (hb:has base r.name=false) (hx:has T r.name=true)
  (hj:∀t',t'<+:T→has t' r.plus=true→has t' r.minus=true→join r t'=join r T):
  T.lookup r.name=some (join r T)∧has T r.plus=true∧has T r.minus=true∧rk T r.plus<rk T r.name∧rk T r.minus<rk T r.name:=by
 refine eV (xA h hx hb) λq hq e z1=>?_;refine TI z1 λt' hl hp h2 h3 h4=>?_;clear z1
 have hqr:q=r:=by
  have key:∀{l:List Row},(l.map (·.name)).Nodup→q∈l→r∈l→q.name=r.name→q=r:=by
   intro l
   induction l with
   |nil=>intro _ h;cases h
   |cons a l ih=>
    intro hn h1 h2 he
    rw [List.map_cons,List.nodup_cons] at hn
    rcases List.mem_cons.mp h1 with e1|g1<;>rcases List.mem_cons.mp h2 with e2|g2
    ·rw [e1,e2]
    ·exact absurd (show a.name∈l.map (·.name) from List.mem_map.mpr (iEA r g2 (by rw [←e1,he]))) hn.1
    ·exact absurd (show a.name∈l.map (·.name) from List.mem_map.mpr (iEA q g1 (by rw [←e2,he]))) hn.1
    ·exact ih hn.2 g1 g2 he
  exact key hn hq hr e
 subst hqr
 have hp':t'<+:T:=(List.prefix_append _ _).trans hp
 refine oE hp λs hs=>?_;clear hp
 have e1:rk T q.name=t'.length:=by
  rw [←hs,List.append_assoc]
  exact D3 _ _ h4
 have up:∀z,has t' z=true→rk T z<t'.length:=λz hz=>by
  refine oE hp' λs' hs'=>?_;clear hp'
  rw [←hs',D4 _ hz]
  exact MW hz
 refine (dZ ?_ (gO hp' h2) (gO hp' h3) (by rw [e1];exact up _ h2) (by rw [e1];exact up _ h3))
 rw [←hj t' hp' h2 h3,←hs,List.append_assoc,nR]
 have:t'.lookup q.name=none:=by
  unfold has at h4
  cases z:t'.lookup q.name with
  |none=>rfl
  |some v=>rw [z] at h4;cases h4
 rw [this]
 simp
end
section
variable {α β:Type}
end
end
section variable {H:Hp} {i x y:Int} {vs:TL} {l:Nat} {o o':O} {α β:Type} {v:V}
theorem mp1{l:List α}{f:α→V}{a:α}:some (O.list (l.map f++[f a]))=some (.list ((l++[a]).map f)):=by rw [List.map_append];rfl
theorem mp2{l:List α}{f:α→V}{a:α}:some (O.list ((l++[a]).map f))=some (.list (l.map f++[f a])):=mp1.symm
theorem mp3{l:List α}{f:α→V}{r:List β}{g:β→α}:some (O.list (l.map f++r.map λx=>f (g x)))=some (.list ((l++r.map g).map f)):=by rw [List.map_append,List.map_map];rfl
theorem mp5{l:List α}{f:α→V}{a b:α}:some (O.list (l.map f++[f a,f b]))=some (.list ((l++[a,b]).map f)):=by rw [List.map_append];rfl
theorem mp6{a:α}{l:List α}{f:α→V}{r:List β}{g:β→α}:some (O.list ([f a]++l.map f++r.map λx=>f (g x)))=some (.list ((a::l++r.map g).map f)):=by rw [List.map_append,List.map_map];rfl
theorem mp7{a:α}{l r:List α}{f:α→V}:some (O.list ([f a]++l.map f++r.map f))=some (.list ((a::l++r).map f)):=by rw [List.map_append];rfl
noncomputable def Rs(P:TP)(X:TX):Res→Prop
 | .ok v H=>P v H
 | .exc c H=>X c H
 | .stuck=>False
section variable {chk:Hp→Bool}
variable {P:TP} {X:TX} {n:Nat} {lc:Lc} {H:Hp}
theorem aA{α:Type}{o:Option α}{a:α}{j:α→Res}(e:o=some a)(h:Rs P X (j a)):Rs P X (ob o j):=by rw [e];exact h
theorem gU{b:Bool}{r:Res}(e:b=true)(h:Rs P X r):Rs P X (gd b r):=by rw [e];exact h
theorem aZ{P':TP}{X':TX}{r:Res}{k:TV}{kx:TY}(h:Rs P' X' r)(hk:∀v H',P' v H'→Rs P X (k v H'))(hx:∀c H',X' c H'→Rs P X (kx c H')):Rs P X (bT r k kx):=by
 cases r with
 |ok v H'=>exact hk v H' h
 |exc c H'=>exact hx c H' h
 |stuck=>exact h.elim
theorem fC{c:Bool}{a b:Res}(ht:c=true→Rs P X a)(hf:c=false→Rs P X b):Rs P X (if c then a else b):=by
 cases c with
 |true=>exact ht rfl
 |false=>exact hf rfl
theorem qG {k:TK} {turn:V→Lc→Hp→(TK)→Res} (I:TL→Lc→Hp→Prop) (hc:∀vs lc H,I vs lc H→chk H=true) (h0:∀lc H,I [] lc H→Rs P X (k .next lc H))
  (step:∀v vs lc H (j:TK),I (v::vs) lc H→(∀lc' H',I vs lc' H'→Rs P X (j .next lc' H'))→(∀lc' H',I vs lc' H'→Rs P X (j .cont lc' H'))→(∀r lc' H',j (.ret r) lc' H'=k (.ret r) lc' H')→Rs P X (turn v lc H j)):
  ∀vs lc H,I vs lc H→Rs P X (mY chk turn k vs lc H)
 |[],lc,H,h=>by unfold mY;exact gU (hc _ _ _ h) (h0 _ _ h)
 |v::vs,lc,H,h=>by
  unfold mY
  exact gU (hc _ _ _ h) (step v vs lc H _ h (λlc' H' h'=>qG I hc h0 step vs lc' H' h') (λlc' H' h'=>qG I hc h0 step vs lc' H' h') λU U U=>rfl)
theorem pP {turn:V→Hp→(TO→Hp→Res)→Res} {acc:Nat} {j:Hp→Res} (I:TL→Hp→Prop) (hc:∀vs H,I vs H→chk H=true) (h0:∀H,I [] H→Rs P X (j H))
  (step:∀v vs H (i:TO→Hp→Res),I (v::vs) H→(∀H',I vs H'→Rs P X (i none H'))→(∀x H' us,aO H' acc=some us→us.length≤1000→I vs (H'.set acc (.list (us++[x])))→Rs P X (i (some x) H'))→Rs P X (turn v H i)):
  ∀vs H,I vs H→Rs P X (jX chk turn acc j vs H)
 |[],H,h=>by unfold jX;exact gU (hc _ _ h) (h0 _ h)
 |v::vs,H,h=>by
  unfold jX
  refine gU (hc _ _ h) (step v vs H _ h (λH' h'=>pP I hc h0 step vs H' h') λx H' us hu hz h'=>?_)
  exact aA hu (gU (by simpa using hz) (pP I hc h0 step vs _ h'))
end
theorem lk0{x:Str}{v:β}{l:List (Str×β)}:((x,v)::l).lookup x=some v:=by rw [List.lookup_cons,beq_self_eq_true]
theorem lk1{x y:Str}{u v:β}{l:List (Str×β)}(hn:(x==y)=false)(h:l.lookup x=some v):((y,u)::l).lookup x=some v:=by rw [List.lookup_cons,hn];exact h
theorem wT{z:α}{fl:TL→α}{fd:TG→Nat→α}{fc:TO→α}{ff:List Value→α}{o:Option O}(h:o=some (.list vs)):onO z fl fd fc ff o=fl vs:=by rw [h];rfl
theorem yP{z:α}{fl:TL→α}{fd:TG→Nat→α}{fc:TO→α}{ff:List Value→α}{o:Option O}{es:TG}{ep:Nat}(h:o=some (.dict es ep)):onO z fl fd fc ff o=fd es ep:=by rw [h];rfl
theorem kR{o:Option α}{a:α}{k:α→Option β}(h:o=some a):o.bind k=k a:=by rw [h];rfl
theorem FD(h:H[l]?=some (.list vs)):dQ H (.loc l)=some (vs,lM l (.list vs)):=wT h
theorem FF{es:TG}{ep:Nat}(h:H[l]?=some (.dict es ep))(ha:cS es=true):dQ H (.loc l)=some (es.map λ(e:Key×V)=>iZ e.1,lM l (.dict es ep)):=(yP h).trans (if_pos ha)
theorem oZ(h:H[l]?=some (.list vs))(h0:0≤i)(h1:i<2^62)(hv:vs[i.toNat]?=some v):getItem H (.loc l) (.int i)=some v:=(wT h).trans ((if_pos ⟨h0,h1⟩).trans hv)
theorem cR(h0:0≤i)(h1:i<2^62)(hv:vs[i.toNat]?=some v):getItem H (.tup vs) (.int i)=some v:=(if_pos ⟨h0,h1⟩).trans hv
theorem setL_(h:H[l]?=some (.list vs))(h0:0≤i)(h1:i<2^62)(h2:i.toNat<vs.length):setItem H (.loc l) (.int i) v=some (H.set l (.list (vs.set i.toNat v))):=(wT h).trans (if_pos (iAA h0 h1 h2))
theorem jN:bH H .Add (.int x) (.int y)=some (.int (x+y),H):=rfl
theorem yD:bH H .Sub (.int x) (.int y)=some (.int (x - y),H):=rfl
theorem T1(hx:x.natAbs<2^62)(hy:y.natAbs<2^62):bH H .Mult (.int x) (.int y)=some (.int (x*y),H):=by
 show (if (mM x&&mM y)=true then some (V.int (x*y),H) else none)=_
 rw [if_pos]
 unfold mM
 rw [decide_eq_true hx,decide_eq_true hy];rfl
theorem div_(h0:0<y)(h1:y<1073741824):bH H .FloorDiv (.int x) (.int y)=some (.int (x / y),H):=by
 show (if 0<y∧y<1073741824 then some (V.int (x / y),H) else none)=_
 rw [if_pos ⟨h0,h1⟩]
theorem mod_(h0:0<y):bH H .Mod (.int x) (.int y)=some (.int (x % y),H):=by
 show (if 0<y then some (V.int (x % y),H) else none)=_
 rw [if_pos h0]
theorem kG(h:H[l]?=some (.list vs))(hz:vs.length<2^31):aD H (.builtin "len") [.loc l]=some (.int vs.length,H):=by
 have e:aD H (.builtin "len") [.loc l]=onO none (λ vs=>if vs.length<2^31 then some (V.int vs.length,H) else none) (λ es U=>if es.length<2^31∧cS es=true then some (V.int es.length,H) else none) (λ U=>none) (λ U=>none) H[l]? :=by kernel_rfl
 exact e.trans ((wT h).trans (if_pos hz))
theorem jF(h:H[l]?=some o):(H.set l o')[l]?=some o':=by
 rw [List.getElem?_set_self (List.getElem?_eq_some_iff.mp h).1]
theorem D1{m:Nat}(hn:l≠m)(h:H[l]?=some o):(H.set m o')[l]?=some o:=by
 rw [List.getElem?_set_ne (Ne.symm hn)];exact h
theorem LT(h:H[l]?=some o):(H++[o'])[l]?=some o:=by
 rw [List.getElem?_append_left (List.getElem?_eq_some_iff.mp h).1];exact h
theorem fA:(H++[o])[H.length]?=some o:=by simp
end
section
noncomputable def KK(p:Params):Frag:=laid.heap_1_39 p
noncomputable def ob2{α β:Type}(o:Option (α×β))(j:α→β→Res):Res:=ob o λq=>j q.1 q.2
noncomputable def bR(k:TV)(b:(TV)→Res):Res:=b k
noncomputable def g7(k:Bool→Hp→Res)(b:(Bool→Hp→Res)→Res):Res:=b k
noncomputable def gZ(k:Lc→Hp→Res)(b:(Lc→Hp→Res)→Res):Res:=b k
noncomputable def tG(k:Hp→Res)(b:(Hp→Res)→Res):Res:=b k
noncomputable def eB(H:Hp)(o:O)(j:Nat→Hp→Res):Res:=j H.length (H++[o])
noncomputable def bK(p:Params)(a:V)(name:Str)(j:V→Res):Res:=ob (sR a) λq=>ob (uQ (KK p) name q) j
noncomputable def jW(H:Hp)(l:Nat)(v:V)(j:Hp→Res):Res:=gd (kJ H l) (j (H.set l (.cell (some v))))
noncomputable def fS(H:Hp)(a:V)(lc:Lc)(turn:V→Lc→Hp→(TK)→Res)(k:TK):Res:=ob (dQ H a) λi=>mY i.2 turn k i.1 lc H
noncomputable def iE(H:Hp)(a:V)(turn:V→Hp→(TO→Hp→Res)→Res)(j:Hp→Res):Res:=ob (dQ H a) λit=>jX it.2 turn H.length j it.1 (H++[.list []])
noncomputable def dis(a:V)(f:Addr→List (Str×V)→Res)(g:Nat→Res):Res:=match a with
 | .obj C fs=>f C fs
 | .loc l=>g l
 |_=> .stuck
noncomputable abbrev eS (n c:Lc→Hp→Res) (r:V→Lc→Hp→Res):TK:=λf lc H=>match f with
 | .next=>n lc H
 | .cont=>c lc H
 | .ret v=>r v lc H
noncomputable def cY(c:Addr)(H:Hp):Res:= .exc c H
noncomputable def excL(c:Addr)(_:Lc)(H:Hp):Res:= .exc c H
noncomputable def un(ts:List Unit)(vs:TL)(j0:Res)(j1:V→TL→Res):Res:=match ts,vs with
 |[],[]=>j0
 |_::_,v::q=>j1 v q
 |_,_=> .stuck
noncomputable def DF(v:V)(j:V→V→Res):Res:=ob (iO v) λvs=>gd (2==vs.length&&!false&&true) (un [(),()] vs .stuck λa q=>gd true (un [()] q .stuck λb q=>gd true (un [] q (j a b) λU U=> .stuck)))
noncomputable def N1:{fd:FuncData // ∀p,g9 (laid.heap_1_39 p) 547=some fd}:=⟨_,λp=>rfl⟩
noncomputable def AQ:Stmt→List Stmt
 | .For _ _ b _ _=>b
 |_=>[]
noncomputable def UD:Stmt→List Stmt
 | .If _ b _ _=>b
 |_=>[]
noncomputable def sndS:List Stmt→Stmt
 |_::s::_=>s
 |_=> .Continue ⟨0,0,0,0⟩
noncomputable def UG:List Stmt→Stmt
 |s::_=>s
 |_=> .Continue ⟨0,0,0,0⟩
noncomputable def zX:Stmt:=match lZ N1.1 with
 |some b=>UG (UD (UG (AQ (UG (AQ (sndS b))))))
 |none=> .Continue ⟨0,0,0,0⟩
noncomputable def AK:LE:=⟨N1.1.scope,[],false⟩
end
noncomputable section variable {F x_finder x_self:FN} {H:Hp} {a1 aG9 aG2 aG0 aG1 aG3 aGB:Int} {L:LY} {d aGM aGK aGH aG6 aG4:Nat} {g:Nat→Res} {P x_program:PG} {p:Params} {a0 a2 aG7 aG8 aFZ aGO aGI aGA aGE aG5 aGD aGJ aGF aGC:Str} {j:V→Res}
noncomputable def S_:Str:=⟨#[]⟩
noncomputable def d5:Str:=⟨#[42]⟩
noncomputable def aJ:Str:=⟨#[46,100,97,116,97]⟩
noncomputable def aE:Str:=⟨#[46,116,101,120,116]⟩
noncomputable def S_0:Str:=⟨#[48]⟩
noncomputable def jR:Str:=⟨#[48,45,107]⟩
noncomputable def jS:Str:=⟨#[48,49,50,51,52,53,54,55,56,57]⟩
noncomputable def zT:Str:=⟨#[48,104]⟩
noncomputable def BB:Str:=⟨#[97,98,115]⟩
noncomputable def BA:Str:=⟨#[97,100,100]⟩
noncomputable def fR:Str:=⟨#[97,100,100,95,103,108,111,98,97,108]⟩
noncomputable def iF:Str:=⟨#[97,100,100,101,100]⟩
noncomputable def GU:Str:=⟨#[97,102,102,105,110,101]⟩
noncomputable def b9:Str:=⟨#[97,112,112,101,110,100]⟩
noncomputable def fT:Str:=⟨#[97,116]⟩
noncomputable def dK:Str:=⟨#[98,97,100]⟩
noncomputable def A0:Str:=⟨#[99,101,108,108,115]⟩
noncomputable def S_e:Str:=⟨#[101]⟩
noncomputable def sI:Str:=⟨#[101,48]⟩
noncomputable def zS:Str:=⟨#[101,49]⟩
noncomputable def zR:Str:=⟨#[101,51]⟩
noncomputable def eO:Str:=⟨#[101,113,117,97,116,101,115]⟩
noncomputable def aV:Str:=⟨#[102,105,110,100,101,114]⟩
noncomputable def L1:Str:=⟨#[102,105,114,115,116]⟩
noncomputable def GT:Str:=⟨#[102,105,120,117,112,115]⟩
noncomputable def zQ:Str:=⟨#[102,111,108,108,111,119,101,100]⟩
noncomputable def aH:Str:=⟨#[102,111,117,110,100]⟩
noncomputable def jQ:Str:=⟨#[103,108,111,98,97,108,115,95]⟩
noncomputable def bX:Str:=⟨#[103,114,111,117,110,100,115]⟩
noncomputable def jP:Str:=⟨#[104,101,114,101]⟩
noncomputable def sH:Str:=⟨#[105,115,95,103,108,111,98,97,108]⟩
noncomputable def bE:Str:=⟨#[105,115,95,115,105,109,112,108,101]⟩
noncomputable def gI:Str:=⟨#[106,111,105,110]⟩
noncomputable def vA:Str:=⟨#[107,110,111,119,110]⟩
noncomputable def dM:Str:=⟨#[108,97,98,101,108]⟩
noncomputable def hV:Str:=⟨#[108,97,98,101,108,115]⟩
noncomputable def cZ:Str:=⟨#[108,97,121,111,117,116]⟩
noncomputable def oG:Str:=⟨#[108,101,110,103,116,104,115]⟩
noncomputable def iN:Str:=⟨#[109,97,110,121]⟩
noncomputable def mD:Str:=⟨#[109,97,114,107]⟩
noncomputable def cF:Str:=⟨#[109,105,110,117,115]⟩
noncomputable def DC:Str:=⟨#[109,105,110,117,115,101,115]⟩
noncomputable def hU:Str:=⟨#[109,111,114,101]⟩
noncomputable def aQ:Str:=⟨#[110,97,109,101]⟩
noncomputable def u9:Str:=⟨#[110,97,109,101,115]⟩
noncomputable def nC:Str:=⟨#[110,101,103,97,116,101]⟩
noncomputable def aW:Str:=⟨#[110,117,109,98,101,114,115]⟩
noncomputable def rQ:Str:=⟨#[111,99,116,101,116,115]⟩
noncomputable def GS:Str:=⟨#[111,102,102,115,101,116]⟩
noncomputable def oF:Str:=⟨#[111,102,102,115,101,116,115]⟩
noncomputable def dU:Str:=⟨#[111,112,101,110,101,100]⟩
noncomputable def zP:Str:=⟨#[112,97,114,116]⟩
noncomputable def LZ:Str:=⟨#[112,105,101,99,101]⟩
noncomputable def GR:Str:=⟨#[112,105,101,99,101,115]⟩
noncomputable def pU:Str:=⟨#[112,108,97,99,101]⟩
noncomputable def bY:Str:=⟨#[112,108,97,99,101,115]⟩
noncomputable def cN:Str:=⟨#[112,108,117,115]⟩
noncomputable def GQ:Str:=⟨#[112,108,117,115,101,115]⟩
noncomputable def eE:Str:=⟨#[112,111,111,108]⟩
noncomputable def pD:Str:=⟨#[112,111,112]⟩
noncomputable def aT:Str:=⟨#[112,114,111,103,114,97,109]⟩
noncomputable def u8:Str:=⟨#[114,101,108,111,99,97,116,105,111,110]⟩
noncomputable def aF:Str:=⟨#[114,101,108,111,99,97,116,105,111,110,115]⟩
noncomputable def hO:Str:=⟨#[114,101,109,111,118,101]⟩
noncomputable def mC:Str:=⟨#[114,111,111,109]⟩
noncomputable def bO:Str:=⟨#[114,111,119]⟩
noncomputable def cU:Str:=⟨#[114,111,119,115]⟩
noncomputable def xZ:Str:=⟨#[115,99,114,105,112,116]⟩
noncomputable def bI:Str:=⟨#[115,101,99,116,105,111,110]⟩
noncomputable def gB:Str:=⟨#[115,101,99,116,105,111,110,115]⟩
noncomputable def eC:Str:=⟨#[115,101,108,102]⟩
noncomputable def cK:Str:=⟨#[115,111,117,114,99,101]⟩
noncomputable def u7:Str:=⟨#[115,112,111,116]⟩
noncomputable def LX:Str:=⟨#[116,97,98,108,101]⟩
noncomputable def jO:Str:=⟨#[116,97,107,101,110]⟩
noncomputable def eN:Str:=⟨#[116,105,116,108,101]⟩
noncomputable def cB:Str:=⟨#[116,111,108,100]⟩
noncomputable def cT:Str:=⟨#[116,117,114,110]⟩
noncomputable def S_u:Str:=⟨#[117]⟩
noncomputable def S_w:Str:=⟨#[119]⟩
noncomputable def N4:Str:=⟨#[119,97,121]⟩
noncomputable def LV:Str:=⟨#[119,105,100,116,104]⟩
noncomputable def GP:Str:=⟨#[119,105,100,116,104,115]⟩
noncomputable def aX:Str:=⟨#[119,111,114,116,104]⟩
noncomputable def zO:Str:=⟨#[122,53]⟩
noncomputable def mU(a0 a1 a2 a3:V):V:= .obj 458 [(gB,a0),(u9,a1),(eO,a2),(jQ,a3)]
noncomputable def pQ(a0 a1 a2:V):V:= .obj 500 [(oF,a0),(GP,a1),(oG,a2)]
noncomputable def t8(a0 a1 a2 a3:V):V:= .obj 202 [(aT,a0),(cZ,a1),(vA,a2),(zQ,a3)]
noncomputable def fU(a0 a1 a2:V):V:= .obj 146 [(bI,a0),(aX,a1),(aQ,a2)]
noncomputable def aK(a0 a1 a2:V):V:= .obj 271 [(aX,a0),(cN,a1),(cF,a2)]
noncomputable def bL(a0 a1 a2:V):V:= .obj 397 [(aQ,a0),(GR,a1),(hV,a2)]
noncomputable def fH(a0 a1 a2 a3 a4 a5:V):V:= .obj 125 [(bI,a0),(fT,a1),(LV,a2),(aQ,a3),(aX,a4),(N4,a5)]
noncomputable def fY(a0 a1 a2 a3:V):V:= .obj 97 [(aQ,a0),(bI,a1),(aX,a2),(sH,a3)]
noncomputable def AG(a0 a1 a2 a3:V):V:= .obj 338 [(N4,a0),(fT,a1),(rQ,a2),(GT,a3)]
structure PG where
 se:Nat
 nm:Nat
 eq:Nat
 gl:Nat
structure LY where
 off:Nat
 wd:Nat
 ln:Nat
structure FN where
 P:PG
 L:LY
 kn:Nat
 fl:Nat
noncomputable def bG(P:PG):V:=mU (.loc P.se) (.loc P.nm) (.loc P.eq) (.loc P.gl)
noncomputable def iM(L:LY):V:=pQ (.loc L.off) (.loc L.wd) (.loc L.ln)
noncomputable def aU(F:FN):V:=t8 (bG F.P) (iM F.L) (.loc F.kn) (.loc F.fl)
theorem dN:bK p (bG P) gB j=j (.loc P.se):=by kernel_rfl
theorem oJ:bK p (bG P) u9 j=j (.loc P.nm):=by kernel_rfl
theorem b5:bK p (bG P) eO j=j (.loc P.eq):=by kernel_rfl
theorem j7:bK p (bG P) jQ j=j (.loc P.gl):=by kernel_rfl
theorem mF{j:Addr→Res}:dis (bG P) (λC fs=>ob (dJ (KK p) bI (C,fs)) λf=>gd (bB (KK p) (.ref f)) (j f)) g=j 422:=by kernel_rfl
theorem jD{j:Addr→Res}:dis (bG P) (λC fs=>ob (dJ (KK p) fR (C,fs)) λf=>gd (bB (KK p) (.ref f)) (j f)) g=j 436:=by kernel_rfl
theorem nG:bK p (iM L) oF j=j (.loc L.off):=by kernel_rfl
theorem nH:bK p (iM L) oG j=j (.loc L.ln):=by kernel_rfl
theorem pJ{j:Addr→Res}:dis (iM L) (λC fs=>ob (dJ (KK p) pU (C,fs)) λf=>gd (bB (KK p) (.ref f)) (j f)) g=j 483:=by kernel_rfl
theorem nJ:bK p (aU F) aT j=j (bG F.P):=by kernel_rfl
theorem oK:bK p (aU F) cZ j=j (iM F.L):=by kernel_rfl
theorem pL:bK p (aU F) vA j=j (.loc F.kn):=by kernel_rfl
theorem pK{j:Addr→Res}:dis (aU F) (λC fs=>ob (dJ (KK p) dM (C,fs)) λf=>gd (bB (KK p) (.ref f)) (j f)) g=j 171:=by kernel_rfl
theorem rT{j:Addr→Res}:dis (aU F) (λC fs=>ob (dJ (KK p) u7 (C,fs)) λf=>gd (bB (KK p) (.ref f)) (j f)) g=j 185:=by kernel_rfl
theorem cH:bK p (fU (.str a0) (.int a1) (.str a2)) bI j=j (.str a0):=by kernel_rfl
theorem d9:bK p (fU (.str a0) (.int a1) (.str a2)) aX j=j (.int a1):=by kernel_rfl
theorem gP:bK p (fU (.str a0) (.int a1) (.str a2)) aQ j=j (.str a2):=by kernel_rfl
theorem gJ{a0:Int}{a1:Str}:bK p (aK (.int a0) (.str a1) (.str a2)) aX j=j (.int a0):=by kernel_rfl
theorem dW{a0:Int}{a1:Str}:bK p (aK (.int a0) (.str a1) (.str a2)) cN j=j (.str a1):=by kernel_rfl
theorem fB{a0:Int}{a1:Str}:bK p (aK (.int a0) (.str a1) (.str a2)) cF j=j (.str a2):=by kernel_rfl
theorem oH{a0:Int}{a1:Str}{j:Addr→Res}:dis (aK (.int a0) (.str a1) (.str a2)) (λC fs=>ob (dJ (KK p) nC (C,fs)) λf=>gd (bB (KK p) (.ref f)) (j f)) g=j 254:=by kernel_rfl
theorem iG{a1:Nat}{a2:Nat}:bK p (bL (.str a0) (.loc a1) (.loc a2)) hV j=j (.loc a2):=by kernel_rfl
theorem rR{a1:Nat}{a2:Nat}{j:Addr→Res}:dis (bL (.str a0) (.loc a1) (.loc a2)) (λC fs=>ob (dJ (KK p) BA (C,fs)) λf=>gd (bB (KK p) (.ref f)) (j f)) g=j 375:=by kernel_rfl
theorem jY{a1:Nat}{a2:Nat}{j:Addr→Res}:dis (bL (.str a0) (.loc a1) (.loc a2)) (λC fs=>ob (dJ (KK p) mD (C,fs)) λf=>gd (bB (KK p) (.ref f)) (j f)) g=j 382:=by kernel_rfl
theorem c7{a2:Int}{a3:Str}{a4:Int}{a5:Str}:bK p (fH (.str a0) (.int a1) (.int a2) (.str a3) (.int a4) (.str a5)) aQ j=j (.str a3):=by kernel_rfl
theorem mE{a2:Int}{a3:Str}{a4:Int}{a5:Str}{j:Addr→Res}:dis (fH (.str a0) (.int a1) (.int a2) (.str a3) (.int a4) (.str a5)) (λC fs=>ob (dJ (KK p) cB (C,fs)) λf=>gd (bB (KK p) (.ref f)) (j f)) g=j 122:=by kernel_rfl
theorem nD{a1:Str}{a2:Int}{a3:Bool}{j:Addr→Res}:dis (fY (.str a0) (.str a1) (.int a2) (.bool a3)) (λC fs=>ob (dJ (KK p) cB (C,fs)) λf=>gd (bB (KK p) (.ref f)) (j f)) g=j 94:=by kernel_rfl
def Q0 (v2 v v1:V) (H:Hp) (aGN:Int):Res:=
ob2 (bH H .FloorDiv v2 v) λv3 H1=>
ob2 (bH H1 .Mult (.int 11) v3) λv4 H2=>
ob2 (bH H2 .Add v1 v4) λv5 H3=>
ob2 (bH H3 .Mod v5 (.int aGN)) λv6 H4=>
.ok v6 H4
def QZ (v1 v2:V) (H5:Hp) (aGN:Int):Res:=
ob2 (aD H5 (.builtin "len") [v1]) λ v6 H7=>
ob2 (bH H7 .Mod v2 v6) λv8 H9=>
ob (getItem H9 v1 v8) λv=>
ob2 (aD H9 (.builtin "len") [v1]) λ v3 H=>
Q0 v2 v3 v H aGN
def MG (p:Params) (cf:CF) (aG6:Nat) (aGN:Int) (H:Hp):Res:=
ob (getItem H (.loc aG6) (.int 0)) λv1=>
ob (getItem H (.loc aG6) (.int 1)) λv2=>
ob2 (bH H .Add v2 (.int 1)) λv3 H4=>
ob (setItem H4 (.loc aG6) (.int 1) v3) λH5=>
QZ v1 v2 H5 aGN
theorem E_519{aGN:Int}:aB (KK p) (d+1) 519 [(.loc aG6),(.int aGN)] H=MG p (aB (KK p) d) aG6 aGN H:=by
 have h:aB (KK p) (d+1) 519 [(.loc aG6),(.int aGN)] H=MG p (aB (KK p) d) aG6 aGN (H++[]):=by kernel_rfl
 rw [List.append_nil] at h;exact h
def QY (v:V) (a:Lc) (H:Hp) (k:TK):Res:=
ob (List.lookup jP a) λv1=>
ob2 (bH H .Add v1 v) λv2 H1=>
k .next ((jP,v2)::a) H1
def QX (cf:CF) (v v1:V) (H:Hp) (f:Addr) (k:TV):Res:=
ob2 (aD H (.type "bytes") [v]) λ v2 H1=>
eB H1 (.list []) λl H2=>
bT (cf f [v1,(AG (.str rQ) .none v2 (.loc l))] H2) (λv3 H3=>
k v3 H3) cY
def QU (v:V) (H:Hp) (l:Nat) (k:TV):Res:=
gd ((aO H l).isSome&&f0 BA)<|
ob2 (aD H (.type "bytes") [v]) λ v1 H1=>
eB H1 (.list []) λl1 H2=>
ob (aO H2 l) λy=>
ob2 (aM H2 l y BA [(AG (.str rQ) .none v1 (.loc l1))]) λv2 H3=>
k v2 H3
def QT (p:Params) (cf:CF) (v a v1 v2:V) (a1:Lc) (H:Hp) (k:TK):Res:=
ob (setItem H v a v1) λH1=>
ob (List.lookup mC a1) λv3=>
bR (λv4 H2=>
QY v2 a1 H2 k) λk1=>
dis v3 (λC g=>ob (dJ (KK p) BA (C,g)) λf=>gd (bB (KK p) (.ref f))<|
QX cf v2 v3 H1 f k1) (λl=>
QU v2 H1 l k1)
def QQ (p:Params) (cf:CF) (v v1:V) (a:Lc) (H:Hp) (k:TK):Res:=
ob (List.lookup cZ a) λv2=>
bK p v2 oF λv3=>
ob (List.lookup eN a) λv4=>
ob (List.lookup fT a) λv5=>
QT p cf v3 (.tup [v4,v5]) v v1 a H k
def QP (p:Params) (cf:CF) (c:Lc) (H:Hp) (k:TK):Res:=
ob (List.lookup cK c) λv=>
bT (cf 519 [v,(.int 9)] H) (λv1 H1=>
ob (List.lookup jP ((iN,v1)::c)) λv2=>
QQ p cf v2 v1 ((iN,v1)::c) H1 k) cY
def QO (v:V) (a:Lc) (H:Hp) (k:Lc→Hp→Res):Res:=
ob (List.lookup eN a) λv1=>
ob (List.lookup jP a) λv2=>
ob (List.lookup bY a) λv3=>
ob (setItem H v3 v (.tup [v1,v2])) λH1=>
k a H1
def QM (cf:CF) (v v1:V) (H:Hp) (f:Addr) (k:TV):Res:=
bT (cf f [v,v1] H) (λv2 H1=>
k v2 H1) cY
def QK (v:V) (H:Hp) (l:Nat) (k:TV):Res:=
gd ((aO H l).isSome&&f0 mD)<|
ob (aO H l) λy=>
ob2 (aM H l y mD [v]) λv1 H1=>
k v1 H1
def QI (p:Params) (cf:CF) (v:V) (a:Lc) (H:Hp) (k:Lc→Hp→Res):Res:=
ob (List.lookup mC a) λv1=>
bR (λv2 H1=>
QO v a H1 k) λk1=>
dis v1 (λC g=>ob (dJ (KK p) mD (C,g)) λf=>gd (bB (KK p) (.ref f))<|
QM cf v1 v H f k1) (λl=>
QK v H l k1)
def J9 (p:Params) (cf:CF) (v:V) (a:Lc) (H:Hp) (k:TK):Res:=
gZ (λc H1=>
QP p cf c H1 k) λk1=>
ob (List.lookup cK a) λv1=>
bT (cf 519 [v1,(.int 2)] H) (λv2 H2=>
ob (cmp H2 .Eq v2 (.int 0)) λt=>
if t=true then
QI p cf v a H2 k1
else
k1 a H2) cY
def vX (p:Params) (cf:CF) (v:V) (c:Lc) (H:Hp) (k:TK):Res:=
ob (List.lookup eN ((fT,v)::c)) λv1=>
ob (getItem H v1 (.int 1)) λv2=>
ob2 (aD H (.type "str") [v]) λ v3 H1=>
ob2 (bH H1 .Add v2 v3) λv4 H2=>
J9 p cf v4 ((dM,v4)::((fT,v)::c)) H2 k
def J8 (p:Params) (v:V) (c:Lc) (H:Hp) (k:TK):Res:=
ob (List.lookup cZ c) λv1=>
bK p v1 oG λv2=>
ob (List.lookup eN c) λv3=>
ob (setItem H v2 v3 v) λH1=>
k .next c H1
def J7 (p:Params) (c:Lc) (H:Hp) (k:TK):Res:=
ob (List.lookup jP c) λv=>
J8 p v c H k
def J6 (v a:V) (c:Lc) (H:Hp) (k:Lc→Hp→Res):Res:=
ob (List.lookup eN c) λv1=>
ob (getItem H v1 (.int 1)) λv2=>
ob2 (bH H .Add v2 (.str S_e)) λv3 H1=>
ob (setItem H1 v v3 a) λH2=>
k c H2
def J5 (c:Lc) (H:Hp) (k:Lc→Hp→Res):Res:=
ob (List.lookup eN c) λv=>
ob (List.lookup jP c) λv1=>
ob (List.lookup bY c) λv2=>
J6 v2 (.tup [v,v1]) c H k
def J4 (cf:CF) (v:V) (c:Lc) (H:Hp) (f:Addr) (k:TV):Res:=
ob (List.lookup eN c) λv1=>
ob (getItem H v1 (.int 1)) λv2=>
ob2 (bH H .Add v2 (.str S_e)) λv3 H1=>
bT (cf f [v,v3] H1) (λv4 H2=>
k v4 H2) cY
def J3 (c:Lc) (H:Hp) (l:Nat) (k:TV):Res:=
gd ((aO H l).isSome&&f0 mD)<|
ob (List.lookup eN c) λv=>
ob (getItem H v (.int 1)) λv1=>
ob2 (bH H .Add v1 (.str S_e)) λv2 H1=>
ob (aO H1 l) λy=>
ob2 (aM H1 l y mD [v2]) λv3 H2=>
k v3 H2
def J2 (p:Params) (cf:CF) (c:Lc) (H:Hp) (k:Lc→Hp→Res):Res:=
ob (List.lookup mC c) λv=>
bR (λv1 H1=>
J5 c H1 k) λk1=>
dis v (λC g=>ob (dJ (KK p) mD (C,g)) λf=>gd (bB (KK p) (.ref f))<|
J4 cf v c H f k1) (λl=>
J3 c H l k1)
def J1 (p:Params) (cf:CF) (c:Lc) (H:Hp) (k:TK):Res:=
gZ (λc1 H1=>
J7 p c1 H1 k) λk1=>
ob (List.lookup cK c) λv=>
bT (cf 519 [v,(.int 2)] H) (λv1 H2=>
ob (cmp H2 .Eq v1 (.int 0)) λt=>
if t=true then
J2 p cf c H2 k1
else
k1 c H2) cY
def J0 (p:Params) (cf:CF) (v:V) (a:Lc) (H:Hp) (k:TK):Res:=
bT (cf 519 [v,(.int 3)] H) (λv1 H1=>
ob2 (bH H1 .Add (.int 1) v1) λv2 H2=>
ob2 (aD H2 (.type "range") [v2]) λ v3 H3=>
fS H3 v3 a (vX p cf) (eS (λc H4=>J1 p cf c H4 k) (λc1 H5=>k .cont c1 H5) (λv4 c2 H6=>k (.ret v4) c2 H6))) cY
def JZ (p:Params) (cf:CF) (a:Lc) (H:Hp) (k:TK):Res:=
ob (List.lookup cK a) λv=>
J0 p cf v a H k
def JY (cf:CF) (v v1:V) (H:Hp) (f:Addr) (k:TV):Res:=
bT (cf f [v,v1] H) (λv2 H1=>
k v2 H1) cY
def JX (v:V) (H:Hp) (l:Nat) (k:TV):Res:=
gd ((aO H l).isSome&&f0 bI)<|
ob (aO H l) λy=>
ob2 (aM H l y bI [v]) λv1 H1=>
k v1 H1
def vY (p:Params) (cf:CF) (v:V) (c:Lc) (H:Hp) (k:TK):Res:=
ob (List.lookup aT ((eN,v)::c)) λv1=>
bR (λv2 H1=>
JZ p cf ((jP,(.int 0))::((mC,v2)::((eN,v)::c))) H1 k) λk1=>
dis v1 (λC g=>ob (dJ (KK p) bI (C,g)) λf=>gd (bB (KK p) (.ref f))<|
JY cf v1 v H f k1) (λl=>
JX v H l k1)
def DT (p:Params) (cf:CF) (c:Lc) (H:Hp):Res:=
ob (List.lookup bY c) λv=>
.ok v H
def MF (p:Params) (cf:CF) (aG6:Nat) (x_program:PG) (aGY:LY) (H:Hp):Res:=
eB H (.dict [] 0) λl H1=>
fS H1 (.tup [(.str aE),(.str aJ)]) ((bY,(.loc l))::((cZ,(iM aGY))::((aT,(bG x_program))::((cK,(.loc aG6))::[])))) (vY p cf) (eS (λc H2=>DT p cf c H2) (λc1 H3=> .stuck) (λv c2 H4=> .ok v H4))
theorem E_526{aGY:LY}:aB (KK p) (d+1) 526 [(.loc aG6),(bG x_program),(iM aGY)] H=MF p (aB (KK p) d) aG6 x_program aGY H:=by
 have h:aB (KK p) (d+1) 526 [(.loc aG6),(bG x_program),(iM aGY)] H=MF p (aB (KK p) d) aG6 x_program aGY (H++[]):=by kernel_rfl
 rw [List.append_nil] at h;exact h
def QH (cf:CF) (v v1:V) (c:Lc) (H:Hp) (f:Addr) (k:TV):Res:=
ob (List.lookup aX c) λv2=>
ob (List.lookup cN c) λv3=>
ob (List.lookup cF c) λv4=>
bT (cf f [v,(.tup [v1,v2,v3,v4])] H) (λv5 H1=>
k v5 H1) cY
def QG (cf:CF) (v:V) (c:Lc) (H:Hp) (f:Addr) (k:TV):Res:=
ob (List.lookup fT c) λv1=>
ob (getItem H (.tup [(.str sI),(.str zS),(.str zT),(.str zR),(.str jR),(.str zO)]) v1) λv2=>
QH cf v v2 c H f k
def P9 (c:Lc) (H:Hp) (l:Nat) (k:TV):Res:=
gd ((aO H l).isSome&&f0 b9)<|
ob (List.lookup fT c) λv=>
ob (getItem H (.tup [(.str sI),(.str zS),(.str zT),(.str zR),(.str jR),(.str zO)]) v) λv1=>
ob (List.lookup aX c) λv2=>
ob (List.lookup cN c) λv3=>
ob (List.lookup cF c) λv4=>
ob (aO H l) λy=>
ob2 (aM H l y b9 [(.tup [v1,v2,v3,v4])]) λv5 H1=>
k v5 H1
def P8 (p:Params) (cf:CF) (c:Lc) (H:Hp) (k:TK):Res:=
ob (List.lookup aH c) λv=>
bR (λv1 H1=>
k .next c H1) λk1=>
dis v (λC g=>ob (dJ (KK p) b9 (C,g)) λf=>gd (bB (KK p) (.ref f))<|
QG cf v c H f k1) (λl=>
P9 c H l k1)
def P6 (p:Params) (cf:CF) (v v1 v2:V) (a:Lc) (H:Hp) (k:TK):Res:=
ob2 (bH H .Sub v (.int 1000)) λv3 H1=>
gZ (λc H2=>
P8 p cf c H2 k) λk1=>
ob (cmp H1 .Eq v1 v2) λt=>
if t=true then
k1 ((cF,(.str S_))::((cN,(.str S_))::((aX,v3)::a))) H1
else
k1 ((aX,v3)::a) H1
def P5 (p:Params) (cf:CF) (v v1:V) (a:Lc) (H:Hp) (k:TK):Res:=
ob (List.lookup cK a) λv2=>
bT (cf 519 [v2,(.int 2001)] H) (λv3 H1=>
P6 p cf v3 v v1 a H1 k) cY
def P2 (cf:CF) (v:V) (a:Lc) (H:Hp) (k:TV):Res:=
ob (List.lookup cK a) λv1=>
ob2 (aD H (.builtin "len") [v]) λ v2 H1=>
bT (cf 519 [v1,v2] H1) (λv3 H2=>
ob (getItem H2 v v3) λv4=>
k v4 H2) cY
def PZ (p:Params) (cf:CF) (v v1:V) (a:Lc) (H:Hp) (k:TK):Res:=
bR (λv2 H1=>
P5 p cf v v2 ((cF,v2)::a) H1 k) λk1=>
ob (List.lookup bE a) λv3=>
ob (mH H v3) λt=>
if t=true then
k1 (.str S_) H
else
P2 cf v1 a H k1
def PY (p:Params) (cf:CF) (v:V) (a:Lc) (H:Hp) (k:TK):Res:=
ob (List.lookup cK a) λv1=>
ob2 (aD H (.builtin "len") [v]) λ v2 H1=>
bT (cf 519 [v1,v2] H1) (λv3 H2=>
ob (getItem H2 v v3) λv4=>
PZ p cf v4 v ((cN,v4)::a) H2 k) cY
def PX (p:Params) (cf:CF) (v v1:V) (a:Lc) (H:Hp) (k:TK):Res:=
ob (List.lookup iN a) λv2=>
ob2 (cut H (.tup [(.str sI),(.str zS),(.str zT),(.str zR),(.str jR),(.str zO)]) v v2) λv3 H1=>
ob2 (aD H1 (.type "list") [v3]) λ v4 H2=>
ob2 (bH H2 .Add v1 v4) λv5 H3=>
PY p cf v5 ((eE,v5)::a) H3 k
def JW (p:Params) (cf:CF) (v:V) (a:Lc) (H:Hp) (k:TK):Res:=
eB H (.list [(.str S_)]) λl H1=>
ob (List.lookup bX a) λv1=>
ob2 (bH H1 .Add (.loc l) v1) λv2 H2=>
PX p cf v v2 a H2 k
def JV (v:V) (H:Hp) (k:TV):Res:=
ob2 (bH H .Add v (.int 1)) λv1 H1=>
k v1 H1
def vW (p:Params) (cf:CF) (v:V) (c:Lc) (H:Hp) (k:TK):Res:=
bR (λv1 H1=>
JW p cf v1 ((L1,v1)::((fT,v)::c)) H1 k) λk1=>
ob (List.lookup cK ((fT,v)::c)) λv2=>
bT (cf 519 [v2,(.int 4)] H) (λv3 H2=>
ob (cmp H2 .Eq v3 (.int 0)) λt=>
if t=true then
k1 (.int 0) H2
else
JV v H2 k1) cY
def DS (p:Params) (cf:CF) (c:Lc) (H:Hp):Res:=
ob (List.lookup aH c) λv=>
.ok v H
def ME (p:Params) (cf:CF) (aG6:Nat) (aH0:Nat) (aGV:Bool) (H:Hp):Res:=
bT (cf 519 [(.loc aG6),(.int 7)] H) (λv H1=>
eB H1 (.list []) λl H2=>
ob2 (aD H2 (.type "range") [v]) λ v1 H3=>
fS H3 v1 ((aH,(.loc l))::((iN,v)::((bE,(.bool aGV))::((bX,(.loc aH0))::((cK,(.loc aG6))::[]))))) (vW p cf) (eS (λc H4=>DS p cf c H4) (λc1 H5=> .stuck) (λv2 c2 H6=> .ok v2 H6))) cY
theorem E_533{aH0:Nat}{aGV:Bool}:aB (KK p) (d+1) 533 [(.loc aG6),(.loc aH0),(.bool aGV)] H=ME p (aB (KK p) d) aG6 aH0 aGV H:=by
 have h:aB (KK p) (d+1) 533 [(.loc aG6),(.loc aH0),(.bool aGV)] H=ME p (aB (KK p) d) aG6 aH0 aGV (H++[]):=by kernel_rfl
 rw [List.append_nil] at h;exact h
def PV (v v1:V) (H:Hp) (aG0:Int):Res:=
ob (getItem H v (.int 1)) λv2=>
ob (getItem H v1 (.int 1)) λv3=>
ob2 (bH H .Sub v2 v3) λv4 H1=>
ob2 (bH H1 .Add v4 (.int aG0)) λv5 H2=>
.ok (.tup [(.str d5),v5,(.str S_)]) H2
def PU (v v1:V) (H:Hp) (aG0:Int) (t:Bool):Res:=
if t=true then
.ok (.str dK) H
else
PV v v1 H aG0
def PT (v v1:V) (H:Hp) (k:Bool→Hp→Res):Res:=
ob (getItem H v (.int 2)) λv2=>
ob (getItem H v1 (.int 2)) λv3=>
ob (cmp H .NotEq v2 v3) λt=>
if t=true then
k true H
else
k false H
def PS (v:V) (H:Hp) (aG0:Int):Res:=
ob (getItem H v (.int 0)) λv1=>
ob (getItem H v (.int 1)) λv2=>
ob2 (bH H .Add v2 (.int aG0)) λv3 H1=>
ob (getItem H1 v (.int 2)) λv4=>
.ok (.tup [v1,v3,v4]) H1
def PR (v v1:V) (H:Hp) (aG0:Int):Res:=
g7 (λt H1=>
PU v v1 H1 aG0 t) λk=>
ob (getItem H v (.int 0)) λv2=>
ob (getItem H v1 (.int 0)) λv3=>
ob (cmp H .NotEq v2 v3) λt1=>
if t1=true then
k true H
else
PT v v1 H k
def PQ (v v1:V) (H:Hp) (aG0:Int) (aGA:Str):Res:=
ob (cmp H .Eq (.str aGA) (.str S_)) λt=>
if t=true then
PS v H aG0
else
PR v v1 H aG0
def PO (v v1:V) (H:Hp) (aG0:Int) (aGA:Str) (t:Bool):Res:=
if t=true then
.ok (.str dK) H
else
PQ v v1 H aG0 aGA
def PN (v:V) (H:Hp) (k:Bool→Hp→Res):Res:=
ob (cmp H .Eq v (.str dK)) λt=>
if t=true then
k true H
else
k false H
def PM (v:V) (H:Hp) (aG4:Nat) (aG0:Int) (aGA:Str):Res:=
ob (getItem H (.loc aG4) (.str aGA)) λv1=>
g7 (λt H1=>
PO v v1 H1 aG0 aGA t) λk=>
ob (cmp H .Eq v (.str dK)) λt1=>
if t1=true then
k true H
else
PN v1 H k
def MD (p:Params) (cf:CF) (aGO:Str) (aG0:Int) (aGI:Str) (aGA:Str) (aG4:Nat) (H:Hp):Res:=
ob (getItem H (.loc aG4) (.str aGI)) λv=>
PM v H aG4 aG0 aGA
theorem E_540:aB (KK p) (d+1) 540 [(.tup [(.str aGO),(.int aG0),(.str aGI),(.str aGA)]),(.loc aG4)] H=MD p (aB (KK p) d) aGO aG0 aGI aGA aG4 H:=by
 have h:aB (KK p) (d+1) 540 [(.tup [(.str aGO),(.int aG0),(.str aGI),(.str aGA)]),(.loc aG4)] H=MD p (aB (KK p) d) aGO aG0 aGI aGA aG4 (H++[]):=by kernel_rfl
 rw [List.append_nil] at h;exact h
def PL (p:Params) (cf:CF) (a:Lc) (H:Hp) (k:TK) (k1:Lc→Hp→Res):Res:=
ex (KK p) cf 72 zX AK a H (eS (λc H1=>k1 c H1) (λc1 H2=>k .cont c1 H2) (λv c2 H3=>k (.ret v) c2 H3)) excL
def PK (p:Params) (cf:CF) (a:Lc) (H:Hp) (t:Bool) (k:TK) (k1:Lc→Hp→Res):Res:=
if t=true then
PL p cf a H k k1
else
k1 a H
def PJ (v:V) (a:Lc) (H:Hp) (k:Bool→Hp→Res):Res:=
ob (getItem H v (.int 3)) λv1=>
ob (List.lookup aH a) λv2=>
ob (cmp H .In v1 v2) λt=>
if t=true then
k true H
else
k false H
def PI (v:V) (a:Lc) (H:Hp) (k:Bool→Hp→Res):Res:=
ob (getItem H v (.int 2)) λv1=>
ob (List.lookup aH a) λv2=>
ob (cmp H .In v1 v2) λt=>
if t=true then
PJ v a H k
else
k false H
def vV (p:Params) (cf:CF) (v:V) (c:Lc) (H:Hp) (k:TK):Res:=
gZ (λc1 H1=>
k .next c1 H1) λk1=>
g7 (λt H2=>
PK p cf ((bO,v)::c) H2 t k k1) λk2=>
ob (getItem H v (.int 0)) λv1=>
ob (List.lookup aH ((bO,v)::c)) λv2=>
ob (cmp H .NotIn v1 v2) λt1=>
if t1=true then
PI v ((bO,v)::c) H k2
else
k2 false H
def DR (p:Params) (cf:CF) (v:V) (c:Lc) (H:Hp) (k:TK):Res:=
ob (List.lookup cU ((cT,v)::c)) λv1=>
fS H v1 ((cT,v)::c) (vV p cf) (eS (λc1 H1=>k .next c1 H1) (λc2 H2=>k .cont c2 H2) (λv2 c3 H3=>k (.ret v2) c3 H3))
def DQ (p:Params) (cf:CF) (c:Lc) (H:Hp):Res:=
ob (List.lookup aH c) λv=>
.ok v H
def MC (p:Params) (cf:CF) (aGP:Nat) (aG4:Nat) (aGS:Addr) (H:Hp):Res:=
ob2 (aD H (.type "dict") [(.loc aG4)]) λ v H1=>
ob2 (aD H1 (.builtin "len") [(.loc aGP)]) λ v1 H2=>
ob2 (aD H2 (.type "range") [v1]) λ v2 H3=>
fS H3 v2 ((aH,v)::((gI,(.fix (.ref aGS)))::((LX,(.loc aG4))::((cU,(.loc aGP))::[])))) (DR p cf) (eS (λc H4=>DQ p cf c H4) (λc1 H5=> .stuck) (λv3 c2 H6=> .ok v3 H6))
theorem E_547{aGP:Nat}{aGS:Addr}:aB (KK p) (d+1) 547 [(.loc aGP),(.loc aG4),(.fix (.ref aGS))] H=MC p (aB (KK p) d) aGP aG4 aGS H:=by
 have h:aB (KK p) (d+1) 547 [(.loc aGP),(.loc aG4),(.fix (.ref aGS))] H=MC p (aB (KK p) d) aGP aG4 aGS (H++[]):=by kernel_rfl
 rw [List.append_nil] at h;exact h
def MB (p:Params) (cf:CF) (aGO:Str) (aG0:Int) (aGI:Str) (aGA:Str) (aG4:Nat) (H:Hp):Res:=
ob (getItem H (.loc aG4) (.str aGI)) λv=>
ob (getItem H (.loc aG4) (.str aGA)) λv1=>
ob2 (bH H .Sub v v1) λv2 H1=>
ob2 (bH H1 .Add v2 (.int aG0)) λv3 H2=>
.ok v3 H2
theorem E_554:aB (KK p) (d+1) 554 [(.tup [(.str aGO),(.int aG0),(.str aGI),(.str aGA)]),(.loc aG4)] H=MB p (aB (KK p) d) aGO aG0 aGI aGA aG4 H:=by
 have h:aB (KK p) (d+1) 554 [(.tup [(.str aGO),(.int aG0),(.str aGI),(.str aGA)]),(.loc aG4)] H=MB p (aB (KK p) d) aGO aG0 aGI aGA aG4 (H++[]):=by kernel_rfl
 rw [List.append_nil] at h;exact h
def PH (p:Params) (H:Hp) (c:Addr):Res:=
gd (cW (KK p) c&&cW (KK p) 59)<|ob (subIn (KK p) (.ref c) (.ref 59)) λt=>if t=true then
.ok (.str dK) H
else
.exc c H
def PF (p:Params) (v:V) (H:Hp) (k:TV):Res:=
bK p v aQ λv1=>
k v1 H
def PE (p:Params) (v v1 v2:V) (H:Hp):Res:=
bR (λv3 H1=>
.ok (.tup [v,v1,v3]) H1) λk=>
bK p v2 bI λv4=>
ob (cmp H .Eq v4 (.str S_)) λt=>
if t=true then
PF p v2 H k
else
k (.str S_) H
def MA (p:Params) (cf:CF) (x_finder:FN) (aFZ:Str) (aGB:Int) (H:Hp):Res:=
bT (cf 185 [(aU x_finder),(.str aFZ),(.int aGB)] H) (λv H1=>
bK p v bI λv1=>
bK p v aX λv2=>
PE p v1 v2 v H1) (λc H2=>
PH p H2 c)
theorem E_561:aB (KK p) (d+1) 561 [(aU x_finder),(.str aFZ),(.int aGB)] H=MA p (aB (KK p) d) x_finder aFZ aGB H:=by
 have h:aB (KK p) (d+1) 561 [(aU x_finder),(.str aFZ),(.int aGB)] H=MA p (aB (KK p) d) x_finder aFZ aGB (H++[]):=by kernel_rfl
 rw [List.append_nil] at h;exact h
def PD (p:Params) (H:Hp) (c:Addr):Res:=
gd (cW (KK p) c&&cW (KK p) 59)<|ob (subIn (KK p) (.ref c) (.ref 59)) λt=>if t=true then
.ok (.str dK) H
else
.exc c H
def PC (p:Params) (v:V) (H:Hp) (k:TV):Res:=
bK p v aQ λv1=>
k v1 H
def PB (p:Params) (v v1 v2:V) (H:Hp):Res:=
bR (λv3 H1=>
.ok (.tup [v,v1,v3]) H1) λk=>
bK p v2 bI λv4=>
ob (cmp H .Eq v4 (.str S_)) λt=>
if t=true then
PC p v2 H k
else
k (.str S_) H
def L9 (p:Params) (cf:CF) (x_finder:FN) (aG9:Int) (aG8:Str) (aG7:Str) (aG2:Int) (H:Hp):Res:=
bT (cf 192 [(aU x_finder),(aK (.int aG9) (.str aG8) (.str aG7)),(.int aG2)] H) (λv H1=>
bK p v bI λv1=>
bK p v aX λv2=>
PB p v1 v2 v H1) (λc H2=>
PD p H2 c)
theorem E_568:aB (KK p) (d+1) 568 [(aU x_finder),(aK (.int aG9) (.str aG8) (.str aG7)),(.int aG2)] H=L9 p (aB (KK p) d) x_finder aG9 aG8 aG7 aG2 H:=by
 have h:aB (KK p) (d+1) 568 [(aU x_finder),(aK (.int aG9) (.str aG8) (.str aG7)),(.int aG2)] H=L9 p (aB (KK p) d) x_finder aG9 aG8 aG7 aG2 (H++[]):=by kernel_rfl
 rw [List.append_nil] at h;exact h
def PA (p:Params) (H:Hp) (c:Addr):Res:=
gd (cW (KK p) c&&cW (KK p) 59)<|ob (subIn (KK p) (.ref c) (.ref 59)) λt=>if t=true then
.ok .none H
else
.exc c H
def L8 (p:Params) (cf:CF) (x_finder:FN) (aG9:Int) (aG8:Str) (aG7:Str) (H:Hp):Res:=
bT (cf 199 [(aU x_finder),(aK (.int aG9) (.str aG8) (.str aG7))] H) (λv H1=>
.ok v H1) (λc H2=>
PA p H2 c)
theorem E_575:aB (KK p) (d+1) 575 [(aU x_finder),(aK (.int aG9) (.str aG8) (.str aG7))] H=L8 p (aB (KK p) d) x_finder aG9 aG8 aG7 H:=by
 have h:aB (KK p) (d+1) 575 [(aU x_finder),(aK (.int aG9) (.str aG8) (.str aG7))] H=L8 p (aB (KK p) d) x_finder aG9 aG8 aG7 (H++[]):=by kernel_rfl
 rw [List.append_nil] at h;exact h
def O9 (p:Params) (H:Hp) (c:Addr):Res:=
gd (cW (KK p) c&&cW (KK p) 59)<|ob (subIn (KK p) (.ref c) (.ref 59)) λt=>if t=true then
.ok .none H
else
.exc c H
def O8 (p:Params) (H:Hp) (c:Addr):Res:=
gd (cW (KK p) c&&cW (KK p) 71)<|ob (subIn (KK p) (.ref c) (.ref 71)) λt=>if t=true then
.ok .none H
else
O9 p H c
def O7 (p:Params) (cf:CF) (a:V) (H:Hp) (x_program:PG):Res:=
bT (cf 511 [(bG x_program),a] H) (λv H1=>
.ok v H1) (λc H2=>
O8 p H2 c)
def O6 (p:Params) (cf:CF) (v:V) (H:Hp) (aFZ:Str) (x_program:PG):Res:=
bR (λv1 H1=>
O7 p cf (aK (.int 0) v v1) H1 x_program) λk=>
ob (cmp H .NotEq (.str aFZ) (.str S_)) λt=>
if t=true then
k (.str S_) H
else
k (.str S_) H
def L7 (p:Params) (cf:CF) (x_program:PG) (aFZ:Str) (H:Hp):Res:=
bR (λv H1=>
O6 p cf v H1 aFZ x_program) λk=>
ob (cmp H .NotEq (.str aFZ) (.str S_)) λt=>
if t=true then
k (.str aFZ) H
else
k (.str S_) H
theorem E_582:aB (KK p) (d+1) 582 [(bG x_program),(.str aFZ)] H=L7 p (aB (KK p) d) x_program aFZ H:=by
 have h:aB (KK p) (d+1) 582 [(bG x_program),(.str aFZ)] H=L7 p (aB (KK p) d) x_program aFZ (H++[]):=by kernel_rfl
 rw [List.append_nil] at h;exact h
def O5 (p:Params) (H:Hp) (c:Addr):Res:=
gd (cW (KK p) c&&cW (KK p) 59)<|ob (subIn (KK p) (.ref c) (.ref 59)) λt=>if t=true then
.ok .none H
else
.exc c H
def O4 (cf:CF) (v:V) (H:Hp) (f:Addr) (k:TV):Res:=
bT (cf f [v] H) (λv1 H1=>
k v1 H1) noX
def O3 (H:Hp) (l:Nat) (k:TV):Res:=
gd ((aO H l).isSome&&f0 cB)<|
ob (aO H l) λy=>
ob2 (aM H l y cB []) λv H1=>
k v H1
def O2 (p:Params) (cf:CF) (v:V) (H:Hp) (k:TO→Hp→Res):Res:=
if true=true then
bR (λv1 H1=>
k (some v1) H1) λk1=>
dis v (λC g=>ob (dJ (KK p) cB (C,g)) λf=>gd (bB (KK p) (.ref f))<|
O4 cf v H f k1) (λl=>
O3 H l k1)
else
k none H
def L6 (p:Params) (cf:CF) (x_finder:FN) (aGM:Nat) (H:Hp):Res:=
bT (cf 211 [(aU x_finder),(.loc aGM)] H) (λv H1=>
iE H1 v (λv1 H2 k=>
O2 p cf v1 H2 k) λH3=>
.ok (.loc H1.length) H3) (λc H4=>
O5 p H4 c)
theorem E_587:aB (KK p) (d+1) 587 [(aU x_finder),(.loc aGM)] H=L6 p (aB (KK p) d) x_finder aGM H:=by
 have h:aB (KK p) (d+1) 587 [(aU x_finder),(.loc aGM)] H=L6 p (aB (KK p) d) x_finder aGM (H++[]):=by kernel_rfl
 rw [List.append_nil] at h;exact h
def O0 (p:Params) (v a:V) (a1:Lc) (H:Hp) (k:TK):Res:=
ob (List.lookup aT a1) λv1=>
bK p v1 eO λv2=>
ob (getItem H v (.int 0)) λv3=>
ob (setItem H v2 v3 a) λH1=>
k .next a1 H1
def OZ (p:Params) (v v1 v2 v3 v4:V) (a:Lc) (H:Hp) (k:TK):Res:=
bR (λv5 H1=>
O0 p v (aK v1 v2 v5) a H1 k) λk1=>
ob (cmp H .NotEq v3 v4) λt=>
if t=true then
k1 v4 H
else
k1 (.str S_) H
def OY (p:Params) (v v1 v2:V) (a:Lc) (H:Hp) (k:TK):Res:=
ob (getItem H v (.int 3)) λv3=>
bR (λv4 H1=>
OZ p v v1 v4 v2 v3 a H1 k) λk1=>
ob (cmp H .NotEq v2 v3) λt=>
if t=true then
k1 v2 H
else
k1 (.str S_) H
def vU (p:Params) (cf:CF) (n0:Nat) (v:V) (c:Lc) (H:Hp) (k:TK):Res:=
ob (getItem H v (.int 1)) λv1=>
ob (getItem H v (.int 2)) λv2=>
OY p v v1 v2 ((bO,v)::c) H k
def OX (v v1 v2:V) (a:Lc) (H:Hp) (n0:Nat) (k:TK):Res:=
ob (getItem H v v1) λv3=>
ob (getItem H v3 (.int 1)) λv4=>
ob (bM H (n0+1)) λv5=>
ob (setItem H v5 v1 (.tup [v2,v4,(.str S_)])) λH1=>
k .next a H1
def DP (p:Params) (cf:CF) (n0:Nat) (v:V) (c:Lc) (H:Hp) (k:TK):Res:=
ob (List.lookup bY ((dM,v)::c)) λv1=>
ob (getItem H v1 v) λv2=>
ob (getItem H v2 (.int 0)) λv3=>
ob (List.lookup bY ((dM,v)::c)) λv4=>
OX v4 v v3 ((dM,v)::c) H n0 k
def OW (v:V) (a:Lc) (H:Hp) (k:Lc→Hp→Res):Res:=
ob (List.lookup cB a) λv1=>
ob (getItem H v (.int 0)) λv2=>
ob (setItem H v1 v2 (.str dK)) λH1=>
k a H1
def vR (p:Params) (cf:CF) (n0:Nat) (v:V) (c:Lc) (H:Hp) (k:TK):Res:=
gZ (λc1 H1=>
k .next c1 H1) λk1=>
ob (getItem H v (.int 0)) λv1=>
ob (List.lookup cB ((bO,v)::c)) λv2=>
ob (cmp H .NotIn v1 v2) λt=>
if t=true then
OW v ((bO,v)::c) H k1
else
k1 ((bO,v)::c) H
def OU (cf:CF) (v v1 v2:V) (a:Lc) (H:Hp) (n0:Nat) (k:TK):Res:=
bT (cf 561 [v,v1,v2] H) (λv3 H1=>
ob (bM H1 (n0+1+1)) λv4=>
ob (cmp H1 .NotEq v3 v4) λt=>
if t=true then
k (.ret (.bool false)) a H1
else
k .next a H1) cY
def OT (cf:CF) (v v1:V) (a:Lc) (H:Hp) (n0:Nat) (k:TK):Res:=
ob (List.lookup aV a) λv2=>
OU cf v2 v v1 a H n0 k
def OS (v v1 v2:V) (H:Hp) (n0:Nat) (k:Hp→Res):Res:=
ob2 (bH H .Add v v1) λv3 H1=>
ob (bM H1 (n0+1+1)) λv4=>
ob (getItem H1 v4 (.int 2)) λv5=>
jW H1 (n0+1+1) (.tup [v2,v3,v5]) λH2=>
k H2
def JU (v:V) (H:Hp) (n0:Nat) (k:Hp→Res):Res:=
ob (bM H (n0+1+1)) λv1=>
ob (getItem H v1 (.int 0)) λv2=>
ob (bM H (n0+1+1)) λv3=>
ob (getItem H v3 (.int 1)) λv4=>
OS v4 v v2 H n0 k
def JT (cf:CF) (v v1:V) (a:Lc) (H:Hp) (n0:Nat) (k:TK):Res:=
tG (λH1=>
OT cf v v1 a H1 n0 k) λk1=>
ob (bM H (n0+1+1)) λv2=>
ob (cmp H .NotEq v2 (.str dK)) λt=>
if t=true then
JU v1 H n0 k1
else
k1 H
def JS (cf:CF) (v v1:V) (a:Lc) (H:Hp) (n0:Nat) (k:TK):Res:=
ob2 (bH H .Sub v (.int 50)) λv2 H1=>
ob (List.lookup cB ((aX,v2)::a)) λv3=>
ob (getItem H1 v3 v1) λv4=>
jW H1 (n0+1+1) v4 λH2=>
JT cf v1 v2 ((aX,v2)::a) H2 n0 k
def vP (p:Params) (cf:CF) (n0:Nat) (v:V) (c:Lc) (H:Hp) (k:TK):Res:=
ob (bM H (n0)) λv1=>
bT (cf 519 [v1,(.int 101)] H) (λv2 H1=>
JS cf v2 v ((aQ,v)::c) H1 n0 k) cY
def JR (cf:CF) (v a v1:V) (a1:Lc) (H:Hp) (n0:Nat) (k:TK):Res:=
bT (cf 568 [v,a,v1] H) (λv2 H1=>
ob (bM H1 (n0+1+1)) λv3=>
ob (cmp H1 .NotEq v2 v3) λt=>
if t=true then
k (.ret (.bool false)) a1 H1
else
k .next a1 H1) cY
def JQ (cf:CF) (v v1 v2 v3 v4 v5:V) (a:Lc) (H:Hp) (n0:Nat) (k:TK):Res:=
bR (λv6 H1=>
JR cf v (aK v1 v2 v6) v3 a H1 n0 k) λk1=>
ob (cmp H .NotEq v4 v5) λt=>
if t=true then
k1 v5 H
else
k1 (.str S_) H
def JP (cf:CF) (v v1 v2 v3:V) (a:Lc) (H:Hp) (n0:Nat) (k:TK):Res:=
ob (List.lookup aV a) λv4=>
bR (λv5 H1=>
JQ cf v4 v v5 v1 v2 v3 a H1 n0 k) λk1=>
ob (cmp H .NotEq v2 v3) λt=>
if t=true then
k1 v2 H
else
k1 (.str S_) H
def JO (v v1 v2:V) (H:Hp) (n0:Nat) (k:Hp→Res):Res:=
ob2 (bH H .Add v v1) λv3 H1=>
ob (bM H1 (n0+1+1)) λv4=>
ob (getItem H1 v4 (.int 2)) λv5=>
jW H1 (n0+1+1) (.tup [v2,v3,v5]) λH2=>
k H2
def JN (v:V) (H:Hp) (n0:Nat) (k:Hp→Res):Res:=
ob (bM H (n0+1+1)) λv1=>
ob (getItem H v1 (.int 0)) λv2=>
ob (bM H (n0+1+1)) λv3=>
ob (getItem H v3 (.int 1)) λv4=>
JO v4 v v2 H n0 k
def JM (cf:CF) (v v1 v2 v3:V) (a:Lc) (H:Hp) (n0:Nat) (k:TK):Res:=
tG (λH1=>
JP cf v v1 v2 v3 a H1 n0 k) λk1=>
ob (bM H (n0+1+1)) λv4=>
ob (cmp H .NotEq v4 (.str dK)) λt=>
if t=true then
JN v1 H n0 k1
else
k1 H
def JL (cf:CF) (v v1 v2 v3 v4 v5:V) (a:Lc) (H:Hp) (n0:Nat) (k:TK):Res:=
ob (cmp H .NotEq v v1) λt=>
if t=true then
k (.ret (.bool false)) a H
else
JM cf v2 v3 v4 v5 a H n0 k
def JK (H:Hp) (n0:Nat) (k:TV):Res:=
ob (bM H (n0+1+1)) λv=>
ob (getItem H v (.int 1)) λv1=>
k v1 H
def JJ (H:Hp) (n0:Nat) (t:Bool) (k:TV):Res:=
if t=true then
JK H n0 k
else
k .none H
def JI (H:Hp) (n0:Nat) (k:Bool→Hp→Res):Res:=
ob (bM H (n0+1+1)) λv=>
ob (getItem H v (.int 0)) λv1=>
ob (cmp H .Eq v1 (.str d5)) λt=>
if t=true then
k true H
else
k false H
def JH (cf:CF) (v v1 v2 v3 v4:V) (a:Lc) (H:Hp) (n0:Nat) (k:TK):Res:=
bR (λv5 H1=>
JL cf v v5 v1 v2 v3 v4 a H1 n0 k) λk1=>
g7 (λt H2=>
JJ H2 n0 t k1) λk2=>
ob (bM H (n0+1+1)) λv6=>
ob (cmp H .NotEq v6 (.str dK)) λt1=>
if t1=true then
JI H n0 k2
else
k2 false H
def JG (cf:CF) (v a v1 v2 v3 v4:V) (a1:Lc) (H:Hp) (n0:Nat) (k:TK):Res:=
bT (cf 575 [v,a] H) (λv5 H1=>
JH cf v5 v1 v2 v3 v4 a1 H1 n0 k) cY
def JF (cf:CF) (v v1 v2 v3 v4 v5:V) (a:Lc) (H:Hp) (n0:Nat) (k:TK):Res:=
bR (λv6 H1=>
JG cf v (aK v1 v2 v6) v1 v3 v4 v5 a H1 n0 k) λk1=>
ob (cmp H .NotEq v4 v5) λt=>
if t=true then
k1 v5 H
else
k1 (.str S_) H
def JE (cf:CF) (v v1 v2 v3:V) (a:Lc) (H:Hp) (n0:Nat) (k:TK):Res:=
ob (List.lookup aV a) λv4=>
bR (λv5 H1=>
JF cf v4 v v5 v1 v2 v3 a H1 n0 k) λk1=>
ob (cmp H .NotEq v2 v3) λt=>
if t=true then
k1 v2 H
else
k1 (.str S_) H
def JD (cf:CF) (a v v1 v2 v3:V) (a1:Lc) (H:Hp) (n0:Nat) (k:TK):Res:=
ob (List.lookup cB a1) λv4=>
bT (cf 540 [a,v4] H) (λv5 H1=>
jW H1 (n0+1+1) v5 λH2=>
JE cf v v1 v2 v3 a1 H2 n0 k) cY
def JC (cf:CF) (v v1 v2 v3 v4:V) (a:Lc) (H:Hp) (n0:Nat) (k:TK):Res:=
bR (λv5 H1=>
JD cf (.tup [(.str S_),v,v1,v5]) v v2 v3 v4 ((bO,(.tup [(.str S_),v,v1,v5]))::a) H1 n0 k) λk1=>
ob (cmp H .NotEq v3 v4) λt=>
if t=true then
k1 v4 H
else
k1 (.str S_) H
def JB (cf:CF) (v v1 v2 v3:V) (a:Lc) (H:Hp) (n0:Nat) (k:TK):Res:=
bT (cf 519 [v,(.int 7)] H) (λv4 H1=>
bR (λv5 H2=>
JC cf v1 v5 v4 v2 v3 ((hU,v4)::a) H2 n0 k) λk1=>
ob (cmp H1 .NotEq v2 v3) λt=>
if t=true then
k1 v2 H1
else
k1 (.str S_) H1) cY
def JA (cf:CF) (v v1:V) (a:Lc) (H:Hp) (n0:Nat) (k:TK):Res:=
ob (bM H (n0)) λv2=>
bT (cf 519 [v2,(.int 2001)] H) (λv3 H1=>
ob2 (bH H1 .Sub v3 (.int 1000)) λv4 H2=>
ob (bM H2 (n0)) λv5=>
JB cf v5 v4 v v1 ((aX,v4)::a) H2 n0 k) cY
def I9 (cf:CF) (v v1 v2:V) (a:Lc) (H:Hp) (n0:Nat) (k:TK):Res:=
ob (List.lookup eE a) λv3=>
ob2 (aD H (.builtin "len") [v3]) λ v4 H1=>
bT (cf 519 [v,v4] H1) (λv5 H2=>
ob (getItem H2 v1 v5) λv6=>
JA cf v2 v6 ((cF,v6)::a) H2 n0 k) cY
def I8 (cf:CF) (v v1 v2:V) (a:Lc) (H:Hp) (n0:Nat) (k:TK):Res:=
bT (cf 519 [v,v1] H) (λv3 H1=>
ob (getItem H1 v2 v3) λv4=>
ob (List.lookup eE ((cN,v4)::a)) λv5=>
ob (bM H1 (n0)) λv6=>
I9 cf v6 v5 v4 ((cN,v4)::a) H1 n0 k) cY
def vO (p:Params) (cf:CF) (n0:Nat) (v:V) (c:Lc) (H:Hp) (k:TK):Res:=
ob (List.lookup eE ((cT,v)::c)) λv1=>
ob (bM H (n0)) λv2=>
ob (List.lookup eE ((cT,v)::c)) λv3=>
ob2 (aD H (.builtin "len") [v3]) λ v4 H1=>
I8 cf v2 v4 v1 ((cT,v)::c) H1 n0 k
def I7 (v v1:V) (a:Lc) (H:Hp) (k:TK):Res:=
ob (List.lookup aW a) λv2=>
ob (List.lookup bX a) λv3=>
ob (getItem H v3 v) λv4=>
ob (setItem H v2 v4 v1) λH1=>
k .next a H1
def vM (p:Params) (cf:CF) (n0:Nat) (v:V) (c:Lc) (H:Hp) (k:TK):Res:=
ob2 (bH H .Add v (.int 1)) λv1 H1=>
ob2 (bH H1 .Pow v1 (.int 5)) λv2 H2=>
ob2 (bH H2 .Mult (.int 100003) v2) λv3 H3=>
I7 v v3 ((fT,v)::c) H3 k
def I6 (a:Lc) (H:Hp) (t:Bool) (k:TK):Res:=
if t=true then
k (.ret (.bool false)) a H
else
k .next a H
def I5 (v v1 v2:V) (H:Hp) (k:Bool→Hp→Res):Res:=
ob (getItem H v (.int 0)) λv3=>
ob (getItem H v1 v3) λv4=>
ob (cmp H .NotEq v2 v4) λt=>
if t=true then
k true H
else
k false H
def I3 (p:Params) (v v1 v2 v3:V) (a:Lc) (H:Hp) (k:Bool→Hp→Res):Res:=
bK p v cF λv4=>
ob (getItem H v1 v4) λv5=>
ob2 (bH H .Sub v2 v5) λv6 H1=>
ob (List.lookup aW a) λv7=>
I5 v3 v7 v6 H1 k
def I2 (p:Params) (v v1 v2 v3:V) (a:Lc) (H:Hp) (k:Bool→Hp→Res):Res:=
bK p v cN λv4=>
ob (getItem H v1 v4) λv5=>
ob2 (bH H .Add v2 v5) λv6 H1=>
ob (List.lookup aW a) λv7=>
I3 p v v7 v6 v3 a H1 k
def I1 (p:Params) (v v1:V) (a:Lc) (H:Hp) (k:Bool→Hp→Res):Res:=
bK p v aX λv2=>
ob (List.lookup aW a) λv3=>
I2 p v v3 v2 v1 a H k
def I0 (p:Params) (v v1:V) (a:Lc) (H:Hp) (k:TK):Res:=
g7 (λt H1=>
I6 a H1 t k) λk1=>
ob (getItem H v (.int 0)) λv2=>
ob (List.lookup aW a) λv3=>
ob (cmp H .In v2 v3) λt1=>
if t1=true then
I1 p v1 v a H k1
else
k1 false H
def IZ (p:Params) (v v1:V) (a:Lc) (H:Hp) (t:Bool) (k:TK):Res:=
if t=true then
k (.ret (.bool false)) a H
else
I0 p v v1 a H k
def IY (p:Params) (v:V) (a:Lc) (H:Hp) (k:Bool→Hp→Res):Res:=
ob (List.lookup aT a) λv1=>
bK p v1 eO λv2=>
ob (cmp H .In v v2) λt=>
if t=true then
k true H
else
k false H
def IX (p:Params) (v:V) (a:Lc) (H:Hp) (k:Bool→Hp→Res):Res:=
bK p v cF λv1=>
IY p v1 a H k
def IW (p:Params) (v v1:V) (a:Lc) (H:Hp) (k:Bool→Hp→Res):Res:=
ob (List.lookup aT a) λv2=>
bK p v2 eO λv3=>
ob (cmp H .In v v3) λt=>
if t=true then
k true H
else
IX p v1 a H k
def IV (p:Params) (v v1:V) (a:Lc) (H:Hp) (k:TK):Res:=
g7 (λt H1=>
IZ p v v1 a H1 t k) λk1=>
bK p v1 cN λv2=>
IW p v2 v1 a H k1
def IU (p:Params) (v v1:V) (a:Lc) (H:Hp) (k:TK):Res:=
ob (cmp H .Is v .none) λt=>
if t=true then
k .cont a H
else
IV p v1 v a H k
def IT (p:Params) (v v1:V) (a:Lc) (H:Hp) (t:Bool) (k:TK):Res:=
if t=true then
k (.ret (.bool false)) a H
else
IU p v v1 a H k
def IS (v:V) (a:Lc) (H:Hp) (t:Bool) (k:Bool→Hp→Res):Res:=
ob (List.lookup aW a) λv1=>
ob (cmp H .In v v1) λt1=>
ob (cmp H .Eq (.bool t) (.bool t1)) λt2=>
if t2=true then
k true H
else
k false H
def IR (v v1:V) (a:Lc) (H:Hp) (k:Bool→Hp→Res):Res:=
ob (cmp H .Is v .none) λt=>
ob (getItem H v1 (.int 0)) λv2=>
IS v2 a H t k
def IQ (p:Params) (v v1:V) (a:Lc) (H:Hp) (k:TK):Res:=
g7 (λt H1=>
IT p v v1 a H1 t k) λk1=>
ob (List.lookup bE a) λv2=>
ob (mH H v2) λt1=>
if t1=true then
IR v v1 a H k1
else
k1 false H
def vL (p:Params) (cf:CF) (n0:Nat) (v:V) (c:Lc) (H:Hp) (k:TK):Res:=
ob (List.lookup aT ((bO,v)::c)) λv1=>
ob (getItem H v (.int 0)) λv2=>
bT (cf 582 [v1,v2] H) (λv3 H1=>
IQ p v3 v ((aH,v3)::((bO,v)::c)) H1 k) cY
def IN (cf:CF) (v v1:V) (H:Hp) (f:Addr) (k:TV):Res:=
bT (cf f [v,v1] H) (λv2 H1=>
k v2 H1) cY
def IM (v:V) (H:Hp) (l:Nat) (k:TV):Res:=
gd ((aO H l).isSome&&f0 fR)<|
ob (aO H l) λy=>
ob2 (aM H l y fR [v]) λv1 H1=>
k v1 H1
def vJ (p:Params) (cf:CF) (n0:Nat) (v:V) (c:Lc) (H:Hp) (k:TK):Res:=
ob (List.lookup aT ((aQ,v)::c)) λv1=>
bR (λv2 H1=>
k .next ((aQ,v)::c) H1) λk1=>
dis v1 (λC g=>ob (dJ (KK p) fR (C,g)) λf=>gd (bB (KK p) (.ref f))<|
IN cf v1 v H f k1) (λl=>
IM v H l k1)
def IK (v v1 v2:V) (a:Lc) (H:Hp) (n0:Nat) (k:Lc→Hp→Res):Res:=
ob (getItem H v v1) λv3=>
ob (bM H (n0+1+1)) λv4=>
ob (getItem H v2 (.int 0)) λv5=>
ob (setItem H v4 v5 v3) λH1=>
k a H1
def IJ (v:V) (a:Lc) (H:Hp) (n0:Nat) (k:Lc→Hp→Res):Res:=
ob (List.lookup cB a) λv1=>
ob (getItem H v (.int 0)) λv2=>
IK v1 v2 v a H n0 k
def vH (p:Params) (cf:CF) (n0:Nat) (v:V) (c:Lc) (H:Hp) (k:TK):Res:=
gZ (λc1 H1=>
k .next c1 H1) λk1=>
ob (getItem H v (.int 0)) λv1=>
ob (getItem H v1 (.int 0)) λv2=>
ob (cmp H .NotEq v2 (.str S_0)) λt=>
if t=true then
IJ v ((bO,v)::c) H n0 k1
else
k1 ((bO,v)::c) H
def II (v:V) (H:Hp) (n0:Nat) (k:TO→Hp→Res):Res:=
if true=true then
ob (bM H (n0+1+1)) λv1=>
ob (getItem H v1 v) λv2=>
k (some v2) H
else
k none H
def IF (v:V) (H:Hp):Res:=
ob (cmp H .Is v .none) λt=>
.ok (.bool t) H
def IH (v v1 v2:V) (H:Hp) (n0:Nat) (k:TO→Hp→Res):Res:=
ob (getItem H v v1) λv3=>
ob (getItem H v3 (.int 1)) λv4=>
ob (bM H (n0+1+1+1)) λv5=>
ob (cmp H .In v1 v5) λt=>
k (some (.tup [v1,v2,v4,(.bool t)])) H
def IG (v:V) (H:Hp) (n0:Nat) (k:TO→Hp→Res):Res:=
if true=true then
ob (bM H (n0+1+1)) λv1=>
ob (getItem H v1 v) λv2=>
ob (getItem H v2 (.int 0)) λv3=>
ob (bM H (n0+1+1)) λv4=>
IH v4 v v3 H n0 k
else
k none H
def IE (v:V) (H:Hp) (n0:Nat):Res:=
ob (bM H (n0+1+1)) λv1=>
ob2 (aD H (.builtin "sorted") [v1]) λ v2 H1=>
iE H1 v2 (λv3 H2 k=>
IG v3 H2 n0 k) λH3=>
ob (cmp H3 .Eq v (.loc H1.length)) λt=>
.ok (.bool t) H3
def ID (v:V) (H:Hp) (n0:Nat):Res:=
ob (bM H (n0+1+1)) λv1=>
iE H v1 (λv2 H1 k=>
II v2 H1 n0 k) λH2=>
ob (cmp H2 .In (.str dK) (.loc H.length)) λt=>
if t=true then
IF v H2
else
IE v H2 n0
def IC (cf:CF) (c:Lc) (H:Hp) (n0:Nat):Res:=
ob (List.lookup aV c) λv=>
ob (List.lookup aF c) λv1=>
bT (cf 587 [v,v1] H) (λv2 H1=>
ID v2 H1 n0) cY
def IB (v:V) (a:Lc) (H:Hp) (n0:Nat) (k:Lc→Hp→Res):Res:=
ob (bM H (n0+1+1)) λv1=>
ob (setItem H v1 v (.tup [(.str S_),(.int 0),(.str S_)])) λH1=>
k a H1
def IA (v:V) (a:Lc) (H:Hp) (n0:Nat) (t:Bool) (k:Lc→Hp→Res):Res:=
if t=true then
IB v a H n0 k
else
k a H
def H0 (v:V) (H:Hp) (n0:Nat) (k:Bool→Hp→Res):Res:=
ob (bM H (n0+1+1)) λv1=>
ob (cmp H .NotIn v v1) λt=>
if t=true then
k true H
else
k false H
def HZ (v:V) (H:Hp) (n0:Nat) (k:Bool→Hp→Res):Res:=
ob (cmp H .NotEq v (.str aJ)) λt=>
if t=true then
H0 v H n0 k
else
k false H
def HY (cf:CF) (v:V) (a:Lc) (H:Hp) (n0:Nat):Res:=
gZ (λc H1=>
IC cf c H1 n0) λk=>
g7 (λt H2=>
IA v a H2 n0 t k) λk1=>
ob (cmp H .NotEq v (.str S_)) λt1=>
if t1=true then
HZ v H n0 k1
else
k1 false H
def HX (cf:CF) (v:V) (c:Lc) (H:Hp) (n0:Nat):Res:=
ob (getItem H v (.int 3)) λv1=>
HY cf v1 ((dU,v1)::c) H n0
def HW (cf:CF) (v:V) (H:Hp) (f:Addr) (k:TV):Res:=
bT (cf f [v] H) (λv1 H1=>
k v1 H1) cY
def HV (H:Hp) (l:Nat) (k:TV):Res:=
gd ((aO H l).isSome&&f0 cB)<|
ob (aO H l) λy=>
ob2 (aM H l y cB []) λv H1=>
k v H1
def vG (p:Params) (cf:CF) (n0:Nat) (c:Lc) (H:Hp):Res:=
ob (List.lookup aF c) λv=>
ob (getItem H v (.int 0)) λv1=>
bR (λv2 H1=>
HX cf v2 c H1 n0) λk=>
dis v1 (λC g=>ob (dJ (KK p) cB (C,g)) λf=>gd (bB (KK p) (.ref f))<|
HW cf v1 H f k) (λl=>
HV H l k)
def IL (v:V) (H:Hp) (n0:Nat) (k:TO→Hp→Res):Res:=
if true=true then
ob (bM H (n0+1)) λv1=>
ob (getItem H v1 v) λv2=>
k (some (.tup [v,v2])) H
else
k none H
def HU (p:Params) (cf:CF) (a:Lc) (H H1:Hp) (n0:Nat):Res:=
ob2 (aD H (.type "dict") [(.loc H1.length)]) λ v H2=>
jW H2 (n0+1+1) v λH3=>
ob (List.lookup cU a) λv1=>
fS H3 v1 a (vH p cf n0) (eS (λc H4=>vG p cf n0 c H4) (λc1 H5=> .stuck) (λv2 c2 H6=> .ok v2 H6))
def HT (p:Params) (cf:CF) (v:V) (c:Lc) (H:Hp) (n0:Nat):Res:=
ob (getItem H (.tup [(.str S_u),(.str aJ),(.str sI),(.str S_)]) v) λv1=>
eB H (.list [(fH (.str aE) (.int 0) (.int 4) v1 (.int 0) (.str BB))]) λl H1=>
ob (List.lookup bY ((aF,(.loc l))::c)) λv2=>
iE H1 v2 (λv3 H2 k=>
IL v3 H2 n0 k) λH3=>
HU p cf ((aF,(.loc l))::c) H3 H1 n0
def vI (p:Params) (cf:CF) (n0:Nat) (c:Lc) (H:Hp):Res:=
ob (bM H (n0)) λv=>
bT (cf 519 [v,(.int 4)] H) (λv1 H1=>
HT p cf v1 c H1 n0) cY
def IP (v:V) (H:Hp) (k:TO→Hp→Res):Res:=
if true=true then
ob (getItem H v (.int 0)) λv1=>
k (some v1) H
else
k none H
def IO (cf:CF) (v:V) (H:Hp) (n0:Nat) (k:TO→Hp→Res):Res:=
ob (bM H (n0)) λv1=>
bT (cf 519 [v1,(.int 3)] H) (λv2 H1=>
ob (cmp H1 .Eq v2 (.int 0)) λt=>
if t=true then
k (some v) H1
else
k none H1) noX
def HS (p:Params) (cf:CF) (v:V) (c:Lc) (H:Hp) (n0:Nat):Res:=
iE H v (λv1 H1 k=>
IO cf v1 H1 n0 k) λH2=>
jW H2 (n0+1+1+1) (.loc H.length) λH3=>
ob (bM H3 (n0+1+1+1)) λv2=>
fS H3 v2 c (vJ p cf n0) (eS (λc1 H4=>vI p cf n0 c1 H4) (λc2 H5=> .stuck) (λv3 c3 H6=> .ok v3 H6))
def HR (p:Params) (cf:CF) (v:V) (c:Lc) (H:Hp) (n0:Nat):Res:=
ob2 (aD H (.builtin "sorted") [v]) λ v1 H1=>
ob (List.lookup cU c) λv2=>
iE H1 v2 (λv3 H2 k=>
IP v3 H2 k) λH3=>
ob2 (bH H3 .Add v1 (.loc H1.length)) λv4 H4=>
HS p cf v4 c H4 n0
def vK (p:Params) (cf:CF) (n0:Nat) (c:Lc) (H:Hp):Res:=
ob (List.lookup bY c) λv=>
HR p cf v c H n0
def HQ (p:Params) (cf:CF) (v:V) (c:Lc) (H:Hp) (n0:Nat):Res:=
ob (List.lookup aW c) λv1=>
bT (cf 547 [v,v1,(.fix (.ref 554))] H) (λv2 H1=>
ob (List.lookup cU ((aW,v2)::c)) λv3=>
fS H1 v3 ((aW,v2)::c) (vL p cf n0) (eS (λc1 H2=>vK p cf n0 c1 H2) (λc2 H3=> .stuck) (λv4 c3 H4=> .ok v4 H4))) cY
def DO (p:Params) (cf:CF) (n0:Nat) (c:Lc) (H:Hp):Res:=
ob (List.lookup cU c) λv=>
HQ p cf v c H n0
def HP (p:Params) (cf:CF) (a:Lc) (H:Hp) (n0:Nat):Res:=
ob (List.lookup bX a) λv=>
ob2 (aD H (.builtin "len") [v]) λ v1 H1=>
ob2 (aD H1 (.type "range") [v1]) λ v2 H2=>
fS H2 v2 a (vM p cf n0) (eS (λc H3=>DO p cf n0 c H3) (λc1 H4=> .stuck) (λv3 c2 H5=> .ok v3 H5))
def vN (p:Params) (cf:CF) (n0:Nat) (c:Lc) (H:Hp):Res:=
ob (c9 [((.str S_),(.int 0))] []) λes0=>
eB H (.dict es0 es0.length) λl H1=>
HP p cf ((aW,(.loc l))::c) H1 n0
def p7 (p:Params) (cf:CF) (n0:Nat) (c:Lc) (H:Hp):Res:=
ob2 (aD H (.type "range") [(.int 4)]) λ v H1=>
fS H1 v c (vO p cf n0) (eS (λc1 H2=>vN p cf n0 c1 H2) (λc2 H3=> .stuck) (λv1 c3 H4=> .ok v1 H4))
def OV (v:V) (H:Hp) (k:TO→Hp→Res):Res:=
if true=true then
ob (getItem H v (.int 0)) λv1=>
k (some v1) H
else
k none H
def HO (p:Params) (cf:CF) (v:V) (c:Lc) (H:Hp) (n0:Nat):Res:=
ob (List.lookup cU c) λv1=>
iE H v1 (λv2 H1 k=>
OV v2 H1 k) λH2=>
ob2 (bH H2 .Add v (.loc H.length)) λv3 H3=>
fS H3 v3 ((eE,v3)::c) (vP p cf n0) (eS (λc1 H4=>p7 p cf n0 c1 H4) (λc2 H5=> .stuck) (λv4 c3 H6=> .ok v4 H6))
def vQ (p:Params) (cf:CF) (n0:Nat) (c:Lc) (H:Hp):Res:=
eB H (.list [(.str S_)]) λl H1=>
ob (List.lookup bX c) λv=>
ob2 (bH H1 .Add (.loc l) v) λv1 H2=>
HO p cf v1 c H2 n0
def HN (p:Params) (cf:CF) (v:V) (c:Lc) (H:Hp) (n0:Nat):Res:=
ob (bM H (n0+1)) λv1=>
bT (cf 547 [v,v1,(.fix (.ref 540))] H) (λv2 H1=>
ob (List.lookup cU ((cB,v2)::c)) λv3=>
fS H1 v3 ((cB,v2)::c) (vR p cf n0) (eS (λc1 H2=>vQ p cf n0 c1 H2) (λc2 H3=> .stuck) (λv4 c3 H4=> .ok v4 H4))) cY
def vS (p:Params) (cf:CF) (n0:Nat) (c:Lc) (H:Hp):Res:=
ob (List.lookup cU c) λv=>
HN p cf v c H n0
def HM (p:Params) (cf:CF) (a:Lc) (H:Hp) (n0:Nat):Res:=
ob (c9 [((.str S_),(.tup [(.str d5),(.int 0),(.str S_)])),((.str S_u),(.tup [(.str S_),(.int 0),(.str S_u)])),((.str S_w),(.tup [(.str S_),(.int 0),(.str S_w)]))] []) λes0=>
eB H (.dict es0 es0.length) λl H1=>
jW H1 (n0+1) (.loc l) λH2=>
ob (List.lookup bY a) λv=>
fS H2 v a (DP p cf n0) (eS (λc H3=>vS p cf n0 c H3) (λc1 H4=> .stuck) (λv1 c2 H5=> .ok v1 H5))
def vT (p:Params) (cf:CF) (n0:Nat) (c:Lc) (H:Hp):Res:=
ob (List.lookup aT c) λv=>
ob (List.lookup cZ c) λv1=>
eB H (.dict [] 0) λl H1=>
eB H1 (.list []) λl1 H2=>
HM p cf ((aV,(t8 v v1 (.loc l) (.loc l1)))::c) H2 n0
def O1 (v:V) (H:Hp) (k:TO→Hp→Res):Res:=
if true=true then
ob2 (aD H (.type "int") [v]) λ v1 H1=>
k (some v1) H1
else
k none H
def HL (p:Params) (cf:CF) (v v1:V) (a:Lc) (H:Hp) (n0:Nat):Res:=
ob (cmp H .Eq v (.int 0)) λt=>
ob (bM H (n0)) λv2=>
bT (cf 533 [v2,v1,(.bool t)] H) (λv3 H1=>
fS H1 v3 ((cU,v3)::((bE,(.bool t))::a)) (vU p cf n0) (eS (λc H2=>vT p cf n0 c H2) (λc1 H3=> .stuck) (λv4 c2 H4=> .ok v4 H4))) cY
def HK (p:Params) (cf:CF) (v:V) (a:Lc) (H:Hp) (n0:Nat):Res:=
eB H (.list [(.str S_u),(.str S_w)]) λl H1=>
ob2 (bH H1 .Add v (.loc l)) λv1 H2=>
ob (bM H2 (n0)) λv2=>
bT (cf 519 [v2,(.int 3)] H2) (λv3 H3=>
HL p cf v3 v1 ((bX,v1)::a) H3 n0) cY
def HJ (p:Params) (cf:CF) (a:V) (a1:Lc) (H:Hp) (n0 l l1:Nat):Res:=
eB H (.dict [] 0) λl2 H1=>
ob (bM H1 (n0)) λv=>
bT (cf 526 [v,a,(pQ (.loc l) (.loc l1) (.loc l2))] H1) (λv1 H2=>
ob2 (aD H2 (.builtin "sorted") [v1]) λ v2 H3=>
HK p cf v2 ((bY,v1)::((cZ,(pQ (.loc l) (.loc l1) (.loc l2)))::a1)) H3 n0) cY
def HI (p:Params) (cf:CF) (a:Lc) (H:Hp) (l l1 n0:Nat):Res:=
eB H (.dict [] 0) λl2 H1=>
eB H1 (.list []) λl3 H2=>
eB H2 (.dict [] 0) λl4 H3=>
eB H3 (.dict [] 0) λl5 H4=>
HJ p cf (mU (.loc l) (.loc l1) (.loc l2) (.loc l3)) ((aT,(mU (.loc l) (.loc l1) (.loc l2) (.loc l3)))::a) H4 n0 l4 l5
def HG (p:Params) (cf:CF) (v:V) (a:Lc) (H:Hp) (n0:Nat):Res:=
eB H (.list [v,(.int 0)]) λl H1=>
jW H1 (n0) (.loc l) λH2=>
eB H2 (.dict [] 0) λl1 H3=>
eB H3 (.list []) λl2 H4=>
HI p cf a H4 l1 l2 n0
def HF (H:Hp) (k:TV):Res:=
eB H (.list [(.int 0)]) λl H1=>
k (.loc l) H1
def HE (p:Params) (cf:CF) (v:V) (a:Lc) (H:Hp) (n0:Nat):Res:=
iE H v (λv1 H1 k=>
O1 v1 H1 k) λH2=>
bR (λv2 H3=>
HG p cf v2 a H3 n0) λk1=>
ob (mH H2 (.loc H.length)) λt=>
if t=true then
k1 (.loc H.length) H2
else
HF H2 k1
def L5 (p:Params) (cf:CF) (n0:Nat) (aH3:Nat) (H:Hp):Res:=
ob2 (cut H (.loc aH3) .none (.int 60)) λv H1=>
HE p cf v ((A0,(.loc H1.length))::((xZ,(.loc aH3))::[])) H1 n0
theorem E_592{aH3:Nat}:aB (KK p) (d+1) 592 [(.loc aH3)] H=L5 p (aB (KK p) d) H.length aH3 (H++[.cell none,.cell none,.cell none,.cell none]):=by kernel_rfl
def KI (a:Lc) (H:Hp) (k:TK):Res:=
ob (List.lookup aH a) λv=>
k (.ret v) a H
def RA (cf:CF) (a v:V) (a1:Lc) (H:Hp) (k:Lc→Hp→Res):Res:=
bT (cf 261 [a,v] H) (λv1 H1=>
k ((aH,v1)::a1) H1) cY
def Q9 (cf:CF) (v v1 v2 v3:V) (a:Lc) (H:Hp) (k:Lc→Hp→Res):Res:=
bR (λv4 H1=>
RA cf (aK v v1 v4) v2 a H1 k) λk1=>
ob (cmp H .NotEq (.str S_) v3) λt=>
if t=true then
k1 v3 H
else
k1 (.str S_) H
def Q8 (p:Params) (cf:CF) (v v1 v2:V) (a:Lc) (H:Hp) (k:Lc→Hp→Res):Res:=
bK p v cF λv3=>
bR (λv4 H1=>
Q9 cf v1 v4 v2 v3 a H1 k) λk1=>
ob (cmp H .NotEq (.str S_) v3) λt=>
if t=true then
k1 (.str S_) H
else
k1 (.str S_) H
def Q1 (p:Params) (cf:CF) (v:V) (a:Lc) (H:Hp) (k:Lc→Hp→Res):Res:=
ob (List.lookup aH a) λv1=>
bK p v1 aX λv2=>
ob (List.lookup aH a) λv3=>
Q8 p cf v3 v2 v a H k
def Q7 (cf:CF) (a v:V) (a1:Lc) (H:Hp) (k:Lc→Hp→Res):Res:=
bT (cf 261 [a,v] H) (λv1 H1=>
k ((aH,v1)::a1) H1) cY
def Q6 (cf:CF) (v:V) (H:Hp) (f:Addr) (k:TV):Res:=
bT (cf f [v] H) (λv1 H1=>
k v1 H1) cY
def Q5 (H:Hp) (l:Nat) (k:TV):Res:=
gd ((aO H l).isSome&&f0 nC)<|
ob (aO H l) λy=>
ob2 (aM H l y nC []) λv H1=>
k v H1
def Q4 (p:Params) (cf:CF) (a v:V) (a1:Lc) (H:Hp) (k:Lc→Hp→Res):Res:=
bR (λv1 H1=>
Q7 cf a v1 a1 H1 k) λk1=>
dis v (λC g=>ob (dJ (KK p) nC (C,g)) λf=>gd (bB (KK p) (.ref f))<|
Q6 cf v H f k1) (λl=>
Q5 H l k1)
def Q3 (p:Params) (cf:CF) (v v1 v2 v3:V) (a:Lc) (H:Hp) (k:Lc→Hp→Res):Res:=
bR (λv4 H1=>
Q4 p cf (aK v v1 v4) v2 a H1 k) λk1=>
ob (cmp H .NotEq v3 (.str S_)) λt=>
if t=true then
k1 (.str S_) H
else
k1 (.str S_) H
def Q2 (p:Params) (cf:CF) (v v1 v2:V) (a:Lc) (H:Hp) (k:Lc→Hp→Res):Res:=
bK p v cN λv3=>
bR (λv4 H1=>
Q3 p cf v1 v4 v2 v3 a H1 k) λk1=>
ob (cmp H .NotEq v3 (.str S_)) λt=>
if t=true then
k1 v3 H
else
k1 (.str S_) H
def KL (p:Params) (cf:CF) (v:V) (a:Lc) (H:Hp) (k:Lc→Hp→Res):Res:=
ob (List.lookup aH a) λv1=>
bK p v1 aX λv2=>
ob (List.lookup aH a) λv3=>
Q2 p cf v3 v2 v a H k
def KJ (p:Params) (cf:CF) (v v1:V) (a:Lc) (H:Hp) (k:TK):Res:=
gZ (λc H1=>
k .next c H1) λk1=>
ob (List.lookup aH a) λv2=>
bK p v2 cN λv3=>
ob (cmp H .Eq v3 v) λt=>
if t=true then
Q1 p cf v1 a H k1
else
KL p cf v1 a H k1
def KH (p:Params) (cf:CF) (v:V) (a:Lc) (H:Hp) (k:TK):Res:=
ob (List.lookup aT a) λv1=>
bK p v1 eO λv2=>
ob (getItem H v2 v) λv3=>
KJ p cf v v3 ((zP,v3)::a) H k
def KG (p:Params) (cf:CF) (v:V) (a:Lc) (H:Hp) (t:Bool) (k:TK):Res:=
if t=true then
KI a H k
else
KH p cf v a H k
def KF (p:Params) (v:V) (a:Lc) (H:Hp) (k:Bool→Hp→Res):Res:=
ob (List.lookup aT a) λv1=>
bK p v1 eO λv2=>
ob (cmp H .NotIn v v2) λt=>
if t=true then
k true H
else
k false H
def KE (p:Params) (cf:CF) (v:V) (a:Lc) (H:Hp) (k:TK):Res:=
g7 (λt H1=>
KG p cf v a H1 t k) λk1=>
ob (cmp H .Eq v (.str S_)) λt1=>
if t1=true then
k1 true H
else
KF p v a H k1
def KD (p:Params) (a:Lc) (H:Hp) (k:TV):Res:=
ob (List.lookup aH a) λv=>
bK p v cN λv1=>
k v1 H
def KC (p:Params) (a:Lc) (H:Hp) (k:TV):Res:=
ob (List.lookup aH a) λv=>
bK p v cF λv1=>
k v1 H
def KB (p:Params) (v:V) (a:Lc) (H:Hp) (k:TV):Res:=
ob (List.lookup aT a) λv1=>
bK p v1 eO λv2=>
ob (cmp H .In v v2) λt=>
if t=true then
KD p a H k
else
KC p a H k
def vZ (p:Params) (cf:CF) (v:V) (c:Lc) (H:Hp) (k:TK):Res:=
bR (λv1 H1=>
KE p cf v1 ((aQ,v1)::((cT,v)::c)) H1 k) λk1=>
ob (List.lookup aH ((cT,v)::c)) λv2=>
bK p v2 cN λv3=>
KB p v3 ((cT,v)::c) H k1
def DU (p:Params) (cf:CF) (c:Lc) (H:Hp):Res:=
gd (cW (KK p) 71) (.exc 71 H)
def KA (p:Params) (cf:CF) (v:V) (a:Lc) (H:Hp):Res:=
ob2 (bH H .Mult (.int 2) v) λv1 H1=>
ob2 (bH H1 .Add v1 (.int 2)) λv2 H2=>
ob2 (aD H2 (.type "range") [v2]) λ v3 H3=>
fS H3 v3 a (vZ p cf) (eS (λc H4=>DU p cf c H4) (λc1 H5=> .stuck) (λv4 c2 H6=> .ok v4 H6))
def MH (p:Params) (cf:CF) (x_program:PG) (aG9:Int) (aG8:Str) (aG7:Str) (H:Hp):Res:=
ob2 (aD H (.builtin "len") [(.loc x_program.eq)]) λ v H1=>
KA p cf v ((aH,(aK (.int aG9) (.str aG8) (.str aG7)))::((GU,(aK (.int aG9) (.str aG8) (.str aG7)))::((aT,(bG x_program))::[]))) H1
theorem E_511:aB (KK p) (d+1) 511 [(bG x_program),(aK (.int aG9) (.str aG8) (.str aG7))] H=MH p (aB (KK p) d) x_program aG9 aG8 aG7 H:=by
 have h:aB (KK p) (d+1) 511 [(bG x_program),(aK (.int aG9) (.str aG8) (.str aG7))] H=MH p (aB (KK p) d) x_program aG9 aG8 aG7 (H++[]):=by kernel_rfl
 rw [List.append_nil] at h;exact h
def R2 (v v1:V) (a:Lc) (H:Hp) (n0:Nat) (k:Lc→Hp→Res):Res:=
ob (bM H (n0+1)) λv2=>
ob (setItem H v2 v v1) λH1=>
k a H1
def R1 (cf:CF) (v v1:V) (H:Hp) (f:Addr) (k:TV):Res:=
bT (cf f [v,v1] H) (λv2 H1=>
k v2 H1) cY
def R0 (v:V) (H:Hp) (l:Nat) (k:TV):Res:=
gd ((aO H l).isSome&&f0 dM)<|
ob (aO H l) λy=>
ob2 (aM H l y dM [v]) λv1 H1=>
k v1 H1
def RZ (p:Params) (cf:CF) (v:V) (a:Lc) (H:Hp) (n0:Nat) (k:Lc→Hp→Res):Res:=
ob (List.lookup aV a) λv1=>
bR (λv2 H1=>
R2 v v2 a H1 n0 k) λk1=>
dis v1 (λC g=>ob (dJ (KK p) dM (C,g)) λf=>gd (bB (KK p) (.ref f))<|
R1 cf v1 v H f k1) (λl=>
R0 v H l k1)
def wD (p:Params) (cf:CF) (n0:Nat) (v:V) (c:Lc) (H:Hp) (k:TK):Res:=
gZ (λc1 H1=>
k .next c1 H1) λk1=>
ob2 (cut H v .none (.int 1)) λv1 H2=>
ob (cmp H2 .NotIn v1 (.str jS)) λt=>
if t=true then
RZ p cf v ((aQ,v)::c) H2 n0 k1
else
k1 ((aQ,v)::c) H2
def RY (p:Params) (cf:CF) (v v1:V) (a:Lc) (H:Hp) (n0:Nat) (k:TK):Res:=
bK p v gB λv2=>
ob (getItem H v2 v1) λv3=>
bK p v3 hV λv4=>
fS H v4 a (wD p cf n0) (eS (λc H1=>k .next c H1) (λc1 H2=>k .cont c1 H2) (λv5 c2 H3=>k (.ret v5) c2 H3))
def wE (p:Params) (cf:CF) (n0:Nat) (v:V) (c:Lc) (H:Hp) (k:TK):Res:=
ob (bM H (n0)) λv1=>
RY p cf v1 v ((bI,v)::c) H n0 k
def RX (v v1:V) (a:Lc) (H:Hp) (n0:Nat) (k:Lc→Hp→Res):Res:=
ob (bM H (n0+1)) λv2=>
ob (setItem H v2 v v1) λH1=>
k a H1
def RW (cf:CF) (v v1:V) (H:Hp) (f:Addr) (k:TV):Res:=
bT (cf f [v,v1,(.int 0)] H) (λv2 H1=>
k v2 H1) cY
def RV (v:V) (H:Hp) (l:Nat) (k:TV):Res:=
gd ((aO H l).isSome&&f0 u7)<|
ob (aO H l) λy=>
ob2 (aM H l y u7 [v,(.int 0)]) λv1 H1=>
k v1 H1
def RU (p:Params) (cf:CF) (v:V) (a:Lc) (H:Hp) (n0:Nat) (k:Lc→Hp→Res):Res:=
ob (List.lookup aV a) λv1=>
bR (λv2 H1=>
RX v v2 a H1 n0 k) λk1=>
dis v1 (λC g=>ob (dJ (KK p) u7 (C,g)) λf=>gd (bB (KK p) (.ref f))<|
RW cf v1 v H f k1) (λl=>
RV v H l k1)
def wB (p:Params) (cf:CF) (n0:Nat) (v:V) (c:Lc) (H:Hp) (k:TK):Res:=
gZ (λc1 H1=>
k .next c1 H1) λk1=>
ob2 (cut H v .none (.int 1)) λv1 H2=>
ob (cmp H2 .NotIn v1 (.str jS)) λt=>
if t=true then
RU p cf v ((aQ,v)::c) H2 n0 k1
else
k1 ((aQ,v)::c) H2
def RT (p:Params) (v:V) (a:Lc) (H:Hp) (n0:Nat) (k:Lc→Hp→Res):Res:=
bK p v aQ λv1=>
ob (bM H (n0+1)) λv2=>
bK p v aQ λv3=>
ob (setItem H v2 v3 (fU (.str S_) (.int 0) v1)) λH1=>
k a H1
def K7 (p:Params) (v:V) (a:Lc) (H:Hp) (n0:Nat) (t:Bool) (k:Lc→Hp→Res):Res:=
if t=true then
RT p v a H n0 k
else
k a H
def K6 (p:Params) (v:V) (H:Hp) (n0:Nat) (k:Bool→Hp→Res):Res:=
ob (bM H (n0)) λv1=>
bK p v1 gB λv2=>
ob (cmp H .NotIn v v2) λt=>
if t=true then
k true H
else
k false H
def K5 (p:Params) (v:V) (H:Hp) (n0:Nat) (k:Bool→Hp→Res):Res:=
bK p v aQ λv1=>
K6 p v1 H n0 k
def K4 (p:Params) (v:V) (H:Hp) (n0:Nat) (k:Bool→Hp→Res):Res:=
bK p v aQ λv1=>
ob (bM H (n0+1)) λv2=>
ob (cmp H .NotIn v1 v2) λt=>
if t=true then
K5 p v H n0 k
else
k false H
def wA (p:Params) (cf:CF) (n0:Nat) (v:V) (c:Lc) (H:Hp) (k:TK):Res:=
gZ (λc1 H1=>
k .next c1 H1) λk1=>
g7 (λt H2=>
K7 p v ((u8,v)::c) H2 n0 t k1) λk2=>
bK p v aQ λv1=>
ob (cmp H .NotEq v1 (.str S_)) λt1=>
if t1=true then
K4 p v H n0 k2
else
k2 false H
def K3 (p:Params) (v v1 v2:V) (H:Hp) (n0:Nat) (k:TO→Hp→Res):Res:=
bK p v aX λv3=>
ob (bM H (n0)) λv4=>
bK p v4 jQ λv5=>
ob (cmp H .In v1 v5) λt=>
k (some (fY v1 v2 v3 (.bool t))) H
def K2 (p:Params) (v v1:V) (H:Hp) (n0:Nat) (k:TO→Hp→Res):Res:=
ob (getItem H v v1) λv2=>
bK p v2 bI λv3=>
ob (bM H (n0+1)) λv4=>
ob (getItem H v4 v1) λv5=>
K3 p v5 v1 v3 H n0 k
def K1 (p:Params) (v:V) (H:Hp) (n0:Nat) (k:TO→Hp→Res):Res:=
if true=true then
ob (bM H (n0+1)) λv1=>
K2 p v1 v H n0 k
else
k none H
def v9 (p:Params) (cf:CF) (n0:Nat) (c:Lc) (H:Hp):Res:=
ob (bM H (n0+1)) λv=>
ob2 (aD H (.builtin "sorted") [v]) λ v1 H1=>
iE H1 v1 (λv2 H2 k=>
K1 p v2 H2 n0 k) λH3=>
.ok (.loc H1.length) H3
def DX (p:Params) (cf:CF) (n0:Nat) (c:Lc) (H:Hp):Res:=
ob (List.lookup aF c) λv=>
fS H v c (wA p cf n0) (eS (λc1 H1=>v9 p cf n0 c1 H1) (λc2 H2=> .stuck) (λv1 c3 H3=> .ok v1 H3))
def DY (p:Params) (cf:CF) (n0:Nat) (c:Lc) (H:Hp):Res:=
ob (bM H (n0)) λv=>
bK p v eO λv1=>
fS H v1 c (wB p cf n0) (eS (λc1 H1=>DX p cf n0 c1 H1) (λc2 H2=> .stuck) (λv2 c3 H3=> .ok v2 H3))
def K0 (p:Params) (cf:CF) (a:Lc) (H:Hp) (n0 l:Nat):Res:=
jW H (n0+1) (.loc l) λH1=>
ob (bM H1 (n0)) λv=>
bK p v u9 λv1=>
fS H1 v1 a (wE p cf n0) (eS (λc H2=>DY p cf n0 c H2) (λc1 H3=> .stuck) (λv2 c2 H4=> .ok v2 H4))
def sh211 (p:Params) (cf:CF) (n0:Nat) (x_finder:FN) (aGM:Nat) (H:Hp):Res:=
eB H (.dict [] 0) λl H1=>
jW H1 (n0) (bG x_finder.P) λH2=>
K0 p cf ((aF,(.loc aGM))::((aV,(aU x_finder))::[])) H2 n0 l
theorem E_211:aB (KK p) (d+1) 211 [(aU x_finder),(.loc aGM)] H=sh211 p (aB (KK p) d) H.length x_finder aGM (H++[.cell none,.cell none]):=by kernel_rfl
def RP (cf:CF) (v v1:V) (H:Hp) (f:Addr) (k:TV):Res:=
bT (cf f [v,v1] H) (λv2 H1=>
k v2 H1) cY
def RO (v:V) (H:Hp) (l:Nat) (k:TV):Res:=
gd ((aO H l).isSome&&f0 hO)<|
ob (aO H l) λy=>
ob2 (aM H l y hO [v]) λv1 H1=>
k v1 H1
def RK (p:Params) (cf:CF) (v:V) (a:Lc) (H:Hp) (k:Hp→Res):Res:=
ob (List.lookup iF a) λv1=>
bR (λv2 H1=>
k H1) λk1=>
dis v1 (λC g=>ob (dJ (KK p) hO (C,g)) λf=>gd (bB (KK p) (.ref f))<|
RP cf v1 v H f k1) (λl=>
RO v H l k1)
def RN (cf:CF) (v v1:V) (H:Hp) (f:Addr) (k:TV):Res:=
bT (cf f [v,v1] H) (λv2 H1=>
k v2 H1) cY
def RM (v:V) (H:Hp) (l:Nat) (k:TV):Res:=
gd ((aO H l).isSome&&f0 b9)<|
ob (aO H l) λy=>
ob2 (aM H l y b9 [v]) λv1 H1=>
k v1 H1
def RL (p:Params) (cf:CF) (v:V) (a:Lc) (H:Hp) (k:Hp→Res):Res:=
ob (List.lookup jO a) λv1=>
bR (λv2 H1=>
k H1) λk1=>
dis v1 (λC g=>ob (dJ (KK p) b9 (C,g)) λf=>gd (bB (KK p) (.ref f))<|
RN cf v1 v H f k1) (λl=>
RM v H l k1)
def RJ (p:Params) (cf:CF) (v:V) (a:Lc) (H:Hp) (k:Hp→Res):Res:=
tG (λH1=>
k H1) λk1=>
ob (cmp H .NotEq v (.str S_)) λt=>
if t=true then
RL p cf v a H k1
else
k1 H
def RI (p:Params) (cf:CF) (v:V) (a:Lc) (H:Hp) (t:Bool) (k:Hp→Res):Res:=
if t=true then
RK p cf v a H k
else
RJ p cf v a H k
def RH (v:V) (a:Lc) (H:Hp) (k:Bool→Hp→Res):Res:=
ob (List.lookup iF a) λv1=>
ob (cmp H .In v v1) λt=>
if t=true then
k true H
else
k false H
def DW (p:Params) (cf:CF) (v:V) (c:Lc) (H:Hp) (k:TK):Res:=
tG (λH1=>
k .next ((aQ,v)::c) H1) λk1=>
g7 (λt H2=>
RI p cf v ((aQ,v)::c) H2 t k1) λk2=>
ob (cmp H .NotEq v (.str S_)) λt1=>
if t1=true then
RH v ((aQ,v)::c) H k2
else
k2 false H
def KP (p:Params) (H:Hp):Res:=
gd (cW (KK p) 59) (.exc 59 H)
def KZ (v v1 v2 v3:V) (H:Hp):Res:=
bR (λv4 H1=>
.ok (aK v v1 v4) H1) λk=>
ob (cmp H .NotEq v2 v3) λt=>
if t=true then
k v3 H
else
k (.str S_) H
def KY (v v1 v2:V) (H:Hp):Res:=
bR (λv3 H1=>
KZ v v3 v1 v2 H1) λk=>
ob (cmp H .NotEq v1 v2) λt=>
if t=true then
k v1 H
else
k (.str S_) H
def KW (c:Lc) (H:Hp) (k:TV):Res:=
ob (List.lookup jO c) λv=>
ob (getItem H v (.int 0)) λv1=>
k v1 H
def KT (v v1:V) (c:Lc) (H:Hp):Res:=
bR (λv2 H1=>
KY v v1 v2 H1) λk=>
ob (List.lookup jO c) λv3=>
eB H (.list []) λl H2=>
ob (cmp H2 .NotEq v3 (.loc l)) λt=>
if t=true then
KW c H2 k
else
k (.str S_) H2
def KR (c:Lc) (H:Hp) (k:TV):Res:=
ob (List.lookup iF c) λv=>
ob (getItem H v (.int 0)) λv1=>
k v1 H
def KQ (v:V) (c:Lc) (H:Hp):Res:=
bR (λv1 H1=>
KT v v1 c H1) λk=>
ob (List.lookup iF c) λv2=>
eB H (.list []) λl H2=>
ob (cmp H2 .NotEq v2 (.loc l)) λt=>
if t=true then
KR c H2 k
else
k (.str S_) H2
def KO (c:Lc) (H:Hp):Res:=
ob (List.lookup aX c) λv=>
KQ v c H
def KN (p:Params) (c:Lc) (H:Hp) (t:Bool):Res:=
if t=true then
KP p H
else
KO c H
def KM (c:Lc) (H:Hp) (k:Bool→Hp→Res):Res:=
ob (List.lookup jO c) λv=>
ob2 (aD H (.builtin "len") [v]) λ v1 H1=>
ob (cmp H1 .Gt v1 (.int 1)) λt=>
if t=true then
k true H1
else
k false H1
def DV (p:Params) (cf:CF) (c:Lc) (H:Hp):Res:=
g7 (λt H1=>
KN p c H1 t) λk=>
ob (List.lookup iF c) λv=>
ob2 (aD H (.builtin "len") [v]) λ v1 H2=>
ob (cmp H2 .Gt v1 (.int 1)) λt1=>
if t1=true then
k true H2
else
KM c H2 k
def RQ (v:V) (H:Hp) (k:TO→Hp→Res):Res:=
ob (cmp H .NotEq v (.str S_)) λt=>
if t=true then
k (some v) H
else
k none H
def MN (p:Params) (cf:CF) (aGB:Int) (aGQ:Nat) (aGR:Nat) (H:Hp):Res:=
iE H (.loc aGQ) (λv H1 k=>
RQ v H1 k) λH2=>
eB H2 (.list []) λl H3=>
fS H3 (.loc aGR) ((jO,(.loc l))::((iF,(.loc H.length))::((DC,(.loc aGR))::((GQ,(.loc aGQ))::((aX,(.int aGB))::[]))))) (DW p cf) (eS (λc H4=>DV p cf c H4) (λc1 H5=> .stuck) (λv1 c2 H6=> .ok v1 H6))
theorem E_280{aGQ:Nat}{aGR:Nat}:aB (KK p) (d+1) 280 [(.int aGB),(.loc aGQ),(.loc aGR)] H=MN p (aB (KK p) d) aGB aGQ aGR H:=by
 have h:aB (KK p) (d+1) 280 [(.int aGB),(.loc aGQ),(.loc aGR)] H=MN p (aB (KK p) d) aGB aGQ aGR (H++[]):=by kernel_rfl
 rw [List.append_nil] at h;exact h
def RS (v:V) (H:Hp) (aG1:Int) (aGE aGD:Str):Res:=
bR (λv1 H1=>
.ok (aK (.int (-aG1)) v v1) H1) λk=>
ob (cmp H .NotEq (.str aGE) (.str aGD)) λt=>
if t=true then
k (.str aGD) H
else
k (.str S_) H
def MP (p:Params) (cf:CF) (aG1:Int) (aGD:Str) (aGE:Str) (H:Hp):Res:=
bR (λv H1=>
RS v H1 aG1 aGE aGD) λk=>
ob (cmp H .NotEq (.str aGE) (.str aGD)) λt=>
if t=true then
k (.str aGE) H
else
k (.str S_) H
theorem E_254:aB (KK p) (d+1) 254 [(aK (.int aG1) (.str aGD) (.str aGE))] H=MP p (aB (KK p) d) aG1 aGD aGE H:=by
 have h:aB (KK p) (d+1) 254 [(aK (.int aG1) (.str aGD) (.str aGE))] H=MP p (aB (KK p) d) aG1 aGD aGE (H++[]):=by kernel_rfl
 rw [List.append_nil] at h;exact h
def MO (p:Params) (cf:CF) (aG1:Int) (aGD:Str) (aGE:Str) (aGX:Int) (aH1:Str) (aGT:Str) (H:Hp):Res:=
ob2 (bH H .Add (.int aG1) (.int aGX)) λv H1=>
eB H1 (.list [(.str aGD),(.str aH1)]) λl H2=>
eB H2 (.list [(.str aGE),(.str aGT)]) λl1 H3=>
bT (cf 280 [v,(.loc l),(.loc l1)] H3) (λv1 H4=>
.ok v1 H4) cY
theorem E_261{aGX:Int}{aH1:Str}{aGT:Str}:aB (KK p) (d+1) 261 [(aK (.int aG1) (.str aGD) (.str aGE)),(aK (.int aGX) (.str aH1) (.str aGT))] H=MO p (aB (KK p) d) aG1 aGD aGE aGX aH1 aGT H:=by
 have h:aB (KK p) (d+1) 261 [(aK (.int aG1) (.str aGD) (.str aGE)),(aK (.int aGX) (.str aH1) (.str aGT))] H=MO p (aB (KK p) d) aG1 aGD aGE aGX aH1 aGT (H++[]):=by kernel_rfl
 rw [List.append_nil] at h;exact h
def RG (p:Params) (c:Lc) (H:Hp):Res:=
ob (List.lookup eC c) λv=>
bK p v gB λv1=>
ob (List.lookup aQ c) λv2=>
ob (getItem H v1 v2) λv3=>
.ok v3 H
def RF (a:V) (a1:Lc) (H:Hp) (aFZ:Str) (k:Lc→Hp→Res) (x_self:PG):Res:=
ob (setItem H (.loc x_self.se) (.str aFZ) a) λH1=>
gd ((aO H1 x_self.nm).isSome&&f0 b9)<|
ob (aO H1 x_self.nm) λy=>
ob2 (aM H1 x_self.nm y b9 [(.str aFZ)]) λv H2=>
k a1 H2
def RE (a:Lc) (H:Hp) (aFZ:Str) (k:Lc→Hp→Res) (x_self:PG):Res:=
eB H (.list []) λl H1=>
eB H1 (.dict [] 0) λl1 H2=>
RF (bL (.str aFZ) (.loc l) (.loc l1)) a H2 aFZ k x_self
def MK (p:Params) (cf:CF) (x_self:PG) (aFZ:Str) (H:Hp):Res:=
gZ (λc H1=>
RG p c H1) λk=>
ob (cmp H .NotIn (.str aFZ) (.loc x_self.se)) λt=>
if t=true then
RE ((aQ,(.str aFZ))::((eC,(bG x_self))::[])) H aFZ k x_self
else
k ((aQ,(.str aFZ))::((eC,(bG x_self))::[])) H
theorem E_422{x_self:PG}:aB (KK p) (d+1) 422 [(bG x_self),(.str aFZ)] H=MK p (aB (KK p) d) x_self aFZ H:=by
 have h:aB (KK p) (d+1) 422 [(bG x_self),(.str aFZ)] H=MK p (aB (KK p) d) x_self aFZ (H++[]):=by kernel_rfl
 rw [List.append_nil] at h;exact h
def RD (H:Hp) (aFZ:Str) (k:Hp→Res) (x_self:PG):Res:=
gd ((aO H x_self.gl).isSome&&f0 b9)<|
ob (aO H x_self.gl) λy=>
ob2 (aM H x_self.gl y b9 [(.str aFZ)]) λv H1=>
k H1
def MJ (p:Params) (cf:CF) (x_self:PG) (aFZ:Str) (H:Hp):Res:=
tG (λH1=>
.ok .none H1) λk=>
ob (cmp H .NotIn (.str aFZ) (.loc x_self.gl)) λt=>
if t=true then
RD H aFZ k x_self
else
k H
theorem E_436{x_self:PG}:aB (KK p) (d+1) 436 [(bG x_self),(.str aFZ)] H=MJ p (aB (KK p) d) x_self aFZ H:=by
 have h:aB (KK p) (d+1) 436 [(bG x_self),(.str aFZ)] H=MJ p (aB (KK p) d) x_self aFZ (H++[]):=by kernel_rfl
 rw [List.append_nil] at h;exact h
def MM (p:Params) (cf:CF) (aG5:Str) (aGH:Nat) (aGK:Nat) (aGG:V) (H:Hp):Res:=
gd ((aO H aGH).isSome&&f0 b9)<|
ob (aO H aGH) λy=>
ob2 (aM H aGH y b9 [aGG]) λv H1=>
.ok .none H1
theorem E_375{aGG:V}:aB (KK p) (d+1) 375 [(bL (.str aG5) (.loc aGH) (.loc aGK)),aGG] H=MM p (aB (KK p) d) aG5 aGH aGK aGG H:=by
 have h:aB (KK p) (d+1) 375 [(bL (.str aG5) (.loc aGH) (.loc aGK)),aGG] H=MM p (aB (KK p) d) aG5 aGH aGK aGG (H++[]):=by kernel_rfl
 rw [List.append_nil] at h;exact h
def ML (p:Params) (cf:CF) (aG5:Str) (aGH:Nat) (aGK:Nat) (aFZ:Str) (H:Hp):Res:=
ob2 (aD H (.builtin "len") [(.loc aGH)]) λ v H1=>
ob (setItem H1 (.loc aGK) (.str aFZ) (.tup [v,(.int 0)])) λH2=>
.ok .none H2
theorem E_382:aB (KK p) (d+1) 382 [(bL (.str aG5) (.loc aGH) (.loc aGK)),(.str aFZ)] H=ML p (aB (KK p) d) aG5 aGH aGK aFZ H:=by
 have h:aB (KK p) (d+1) 382 [(bL (.str aG5) (.loc aGH) (.loc aGK)),(.str aFZ)] H=ML p (aB (KK p) d) aG5 aGH aGK aFZ (H++[]):=by kernel_rfl
 rw [List.append_nil] at h;exact h
def RC (a:V) (H:Hp) (x_self:LY) (k:TV):Res:=
ob (getItem H (.loc x_self.off) a) λv=>
k v H
def RB (H:Hp) (aGL:Str) (x_self:LY) (k:TV):Res:=
ob (getItem H (.loc x_self.ln) (.str aGL)) λv=>
k v H
def MI (p:Params) (cf:CF) (x_self:LY) (aGL:Str) (aGG:Int) (H:Hp):Res:=
bR (λv H1=>
.ok v H1) λk=>
ob (cmp H .In (.tup [(.str aGL),(.int aGG)]) (.loc x_self.off)) λt=>
if t=true then
RC (.tup [(.str aGL),(.int aGG)]) H x_self k
else
RB H aGL x_self k
theorem E_483{x_self:LY}{aGL:Str}{aGG:Int}:aB (KK p) (d+1) 483 [(iM x_self),(.str aGL),(.int aGG)] H=MI p (aB (KK p) d) x_self aGL aGG H:=by
 have h:aB (KK p) (d+1) 483 [(iM x_self),(.str aGL),(.int aGG)] H=MI p (aB (KK p) d) x_self aGL aGG (H++[]):=by kernel_rfl
 rw [List.append_nil] at h;exact h
def SX (v v1 v2:V) (a:Lc) (H:Hp) (k:TK):Res:=
ob2 (bH H .Add v v1) λv3 H1=>
ob (List.lookup aQ a) λv4=>
k (.ret (fU v2 v3 v4)) a H1
def SW (cf:CF) (v v1 v2:V) (H:Hp) (f:Addr) (k:TV):Res:=
bT (cf f [v,v1,v2] H) (λv3 H1=>
k v3 H1) cY
def SV (v v1:V) (H:Hp) (l:Nat) (k:TV):Res:=
gd ((aO H l).isSome&&f0 pU)<|
ob (aO H l) λy=>
ob2 (aM H l y pU [v,v1]) λv2 H1=>
k v2 H1
def SU (p:Params) (cf:CF) (v v1 v2:V) (a:Lc) (H:Hp) (k:TK):Res:=
ob (List.lookup eC a) λv3=>
bK p v3 cZ λv4=>
bR (λv5 H1=>
SX v5 v v1 a H1 k) λk1=>
dis v4 (λC g=>ob (dJ (KK p) pU (C,g)) λf=>gd (bB (KK p) (.ref f))<|
SW cf v4 v1 v2 H f k1) (λl=>
SV v1 v2 H l k1)
def ST (p:Params) (cf:CF) (v v1:V) (a:Lc) (H:Hp) (k:TK):Res:=
ob (List.lookup aQ a) λv2=>
ob (getItem H v v2) λv3=>
DF v3 λv4 v5=>
SU p cf v5 v1 v4 ((GS,v5)::((LZ,v4)::a)) H k
def SS (p:Params) (cf:CF) (v v1:V) (a:Lc) (H:Hp) (k:TK):Res:=
bK p v hV λv2=>
ob (List.lookup aQ ((hV,v2)::a)) λv3=>
ob (cmp H .In v3 v2) λt=>
if t=true then
ST p cf v2 v1 ((hV,v2)::a) H k
else
k .next ((hV,v2)::a) H
def wF (p:Params) (cf:CF) (v:V) (c:Lc) (H:Hp) (k:TK):Res:=
ob (List.lookup eC ((bI,v)::c)) λv1=>
bK p v1 aT λv2=>
bK p v2 gB λv3=>
ob (getItem H v3 v) λv4=>
SS p cf v4 v ((bI,v)::c) H k
def DZ (p:Params) (cf:CF) (c:Lc) (H:Hp):Res:=
.ok .none H
def MU (p:Params) (cf:CF) (x_self:FN) (aFZ:Str) (H:Hp):Res:=
fS H (.loc x_self.P.nm) ((aQ,(.str aFZ))::((eC,(aU x_self))::[])) (wF p cf) (eS (λc H1=>DZ p cf c H1) (λc1 H2=> .stuck) (λv c2 H3=> .ok v H3))
theorem E_171:aB (KK p) (d+1) 171 [(aU x_self),(.str aFZ)] H=MU p (aB (KK p) d) x_self aFZ H:=by
 have h:aB (KK p) (d+1) 171 [(aU x_self),(.str aFZ)] H=MU p (aB (KK p) d) x_self aFZ (H++[]):=by kernel_rfl
 rw [List.append_nil] at h;exact h
def SR (p:Params) (c:Lc) (H:Hp):Res:=
ob (List.lookup eC c) λv=>
bK p v vA λv1=>
ob (List.lookup aQ c) λv2=>
ob (getItem H v1 v2) λv3=>
.ok v3 H
def SQ (H:Hp) (c:Addr) (x_self:FN):Res:=
gd ((aO H x_self.fl).isSome&&f0 pD)<|
ob (aO H x_self.fl) λy=>
ob2 (aM H x_self.fl y pD []) λv H1=>
.exc c H1
def SP (v:V) (a:Lc) (H:Hp) (aFZ:Str) (x_self:FN) (k:Lc→Hp→Res):Res:=
ob (setItem H (.loc x_self.kn) (.str aFZ) v) λH1=>
gd ((aO H1 x_self.fl).isSome&&f0 pD)<|
ob (aO H1 x_self.fl) λy=>
ob2 (aM H1 x_self.fl y pD []) λv1 H2=>
k a H2
def SO (p:Params) (H:Hp):Res:=
gd (cW (KK p) 59) (.exc 59 H)
def SN (cf:CF) (a:Lc) (H:Hp) (aFZ:Str) (x_self:FN) (k:Lc→Hp→Res):Res:=
gd ((aO H x_self.fl).isSome&&f0 b9)<|
ob (aO H x_self.fl) λy=>
ob2 (aM H x_self.fl y b9 [(.str aFZ)]) λv H1=>
ob (getItem H1 (.loc x_self.P.eq) (.str aFZ)) λv1=>
bT (cf 192 [(aU x_self),v1,(.int 0)] H1) (λv2 H2=>
SP v2 a H2 aFZ x_self k) (λc H3=>
SQ H3 c x_self)
def SM (p:Params) (cf:CF) (a:Lc) (H:Hp) (aFZ:Str) (x_self:FN) (k:Lc→Hp→Res):Res:=
ob (cmp H .In (.str aFZ) (.loc x_self.fl)) λt=>
if t=true then
SO p H
else
SN cf a H aFZ x_self k
def MT (p:Params) (cf:CF) (x_self:FN) (aFZ:Str) (H:Hp):Res:=
gZ (λc H1=>
SR p c H1) λk=>
ob (cmp H .NotIn (.str aFZ) (.loc x_self.kn)) λt=>
if t=true then
SM p cf ((aQ,(.str aFZ))::((eC,(aU x_self))::[])) H aFZ x_self k
else
k ((aQ,(.str aFZ))::((eC,(aU x_self))::[])) H
theorem E_178:aB (KK p) (d+1) 178 [(aU x_self),(.str aFZ)] H=MT p (aB (KK p) d) x_self aFZ H:=by
 have h:aB (KK p) (d+1) 178 [(aU x_self),(.str aFZ)] H=MT p (aB (KK p) d) x_self aFZ (H++[]):=by kernel_rfl
 rw [List.append_nil] at h;exact h
def SL (p:Params) (v v1:V) (c:Lc) (H:Hp):Res:=
ob (List.lookup aX c) λv2=>
ob2 (bH H .Add v v2) λv3 H1=>
ob (List.lookup aH c) λv4=>
bK p v4 aQ λv5=>
.ok (fU v1 v3 v5) H1
def SK (p:Params) (c:Lc) (H:Hp):Res:=
ob (List.lookup aH c) λv=>
bK p v bI λv1=>
ob (List.lookup aH c) λv2=>
bK p v2 aX λv3=>
SL p v3 v1 c H
def SJ (cf:CF) (H:Hp) (aFZ:Str) (x_self:FN) (k:TV):Res:=
bT (cf 178 [(aU x_self),(.str aFZ)] H) (λv H1=>
k v H1) cY
def SI (cf:CF) (a:V) (a1:Lc) (H:Hp) (aFZ:Str) (x_self:FN) (k:Lc→Hp→Res):Res:=
bR (λv H1=>
k ((aH,v)::a1) H1) λk1=>
ob (cmp H .In (.str aFZ) (.loc x_self.P.eq)) λt=>
if t=true then
SJ cf H aFZ x_self k1
else
k1 a H
def SH (p:Params) (cf:CF) (a:V) (a1:Lc) (H:Hp) (aFZ:Str) (x_self:FN):Res:=
bT (cf 171 [(aU x_self),(.str aFZ)] H) (λv H1=>
gZ (λc H2=>
SK p c H2) λk=>
ob (cmp H1 .Is v .none) λt=>
if t=true then
SI cf a ((aH,v)::a1) H1 aFZ x_self k
else
k ((aH,v)::a1) H1) cY
def MS (p:Params) (cf:CF) (x_self:FN) (aFZ:Str) (aGB:Int) (H:Hp):Res:=
ob (cmp H .Eq (.str aFZ) (.str S_)) λt=>
if t=true then
.ok (fU (.str d5) (.int aGB) (.str S_)) H
else
SH p cf (fU (.str S_) (.int 0) (.str aFZ)) ((aX,(.int aGB))::((aQ,(.str aFZ))::((eC,(aU x_self))::[]))) H aFZ x_self
theorem E_185:aB (KK p) (d+1) 185 [(aU x_self),(.str aFZ),(.int aGB)] H=MS p (aB (KK p) d) x_self aFZ aGB H:=by
 have h:aB (KK p) (d+1) 185 [(aU x_self),(.str aFZ),(.int aGB)] H=MS p (aB (KK p) d) x_self aFZ aGB (H++[]):=by kernel_rfl
 rw [List.append_nil] at h;exact h
def SG (p:Params) (v v1:V) (H:Hp) (aG3 aG2:Int):Res:=
bK p v aX λv2=>
ob2 (bH H .Sub v1 v2) λv3 H1=>
ob2 (bH H1 .Add v3 (.int aG3)) λv4 H2=>
ob2 (bH H2 .Add v4 (.int aG2)) λv5 H3=>
.ok (fU (.str d5) v5 (.str S_)) H3
def SE (p:Params) (H:Hp):Res:=
gd (cW (KK p) 59) (.exc 59 H)
def SC (p:Params) (v v1:V) (H:Hp) (aG3 aG2:Int):Res:=
bK p v aX λv2=>
SG p v1 v2 H aG3 aG2
def SB (p:Params) (v v1:V) (H:Hp) (aG3 aG2:Int) (t:Bool):Res:=
if t=true then
SE p H
else
SC p v v1 H aG3 aG2
def SA (H:Hp) (t:Bool) (k:Bool→Hp→Res):Res:=
if t=true then
k true H
else
k false H
def R9 (p:Params) (v v1:V) (H:Hp) (k:Bool→Hp→Res):Res:=
bK p v aQ λv2=>
bK p v1 aQ λv3=>
ob (cmp H .NotEq v2 v3) λt=>
if t=true then
k true H
else
k false H
def R8 (p:Params) (v v1:V) (H:Hp) (k:Bool→Hp→Res):Res:=
g7 (λt H1=>
SA H1 t k) λk1=>
bK p v bI λv2=>
ob (cmp H .Eq v2 (.str S_)) λt1=>
if t1=true then
R9 p v v1 H k1
else
k1 false H
def R7 (p:Params) (v v1:V) (H:Hp) (aG3 aG2:Int):Res:=
g7 (λt H1=>
SB p v v1 H1 aG3 aG2 t) λk=>
bK p v bI λv2=>
bK p v1 bI λv3=>
ob (cmp H .NotEq v2 v3) λt1=>
if t1=true then
k true H
else
R8 p v v1 H k
def R6 (cf:CF) (H:Hp) (aG3 aG2:Int) (aGC:Str) (x_self:FN):Res:=
ob2 (bH H .Add (.int aG3) (.int aG2)) λv H1=>
bT (cf 185 [(aU x_self),(.str aGC),v] H1) (λv1 H2=>
.ok v1 H2) cY
def R5 (p:Params) (cf:CF) (H:Hp) (aG3 aG2:Int) (aGC aGF:Str) (x_self:FN):Res:=
bT (cf 185 [(aU x_self),(.str aGC),(.int 0)] H) (λv H1=>
bT (cf 185 [(aU x_self),(.str aGF),(.int 0)] H1) (λv1 H2=>
R7 p v v1 H2 aG3 aG2) cY) cY
def MR (p:Params) (cf:CF) (x_self:FN) (aG3:Int) (aGC:Str) (aGF:Str) (aG2:Int) (H:Hp):Res:=
ob (cmp H .Eq (.str aGF) (.str S_)) λt=>
if t=true then
R6 cf H aG3 aG2 aGC x_self
else
R5 p cf H aG3 aG2 aGC aGF x_self
theorem E_192:aB (KK p) (d+1) 192 [(aU x_self),(aK (.int aG3) (.str aGC) (.str aGF)),(.int aG2)] H=MR p (aB (KK p) d) x_self aG3 aGC aGF aG2 H:=by
 have h:aB (KK p) (d+1) 192 [(aU x_self),(aK (.int aG3) (.str aGC) (.str aGF)),(.int aG2)] H=MR p (aB (KK p) d) x_self aG3 aGC aGF aG2 (H++[]):=by kernel_rfl
 rw [List.append_nil] at h;exact h
def R4 (p:Params) (H:Hp):Res:=
gd (cW (KK p) 59) (.exc 59 H)
def R3 (p:Params) (v:V) (H:Hp):Res:=
bK p v aX λv1=>
.ok v1 H
def MQ (p:Params) (cf:CF) (x_self:FN) (aG3:Int) (aGC:Str) (aGF:Str) (H:Hp):Res:=
bT (cf 192 [(aU x_self),(aK (.int aG3) (.str aGC) (.str aGF)),(.int 0)] H) (λv H1=>
bK p v bI λv1=>
ob (cmp H1 .NotEq v1 (.str d5)) λt=>
if t=true then
R4 p H1
else
R3 p v H1) cY
theorem E_199:aB (KK p) (d+1) 199 [(aU x_self),(aK (.int aG3) (.str aGC) (.str aGF))] H=MQ p (aB (KK p) d) x_self aG3 aGC aGF H:=by
 have h:aB (KK p) (d+1) 199 [(aU x_self),(aK (.int aG3) (.str aGC) (.str aGF))] H=MQ p (aB (KK p) d) x_self aG3 aGC aGF (H++[]):=by kernel_rfl
 rw [List.append_nil] at h;exact h
def MV (p:Params) (cf:CF) (aGJ:Str) (aGW:Int) (aGZ:Int) (aG5:Str) (aG1:Int) (aH2:Str) (H:Hp):Res:=
.ok (.tup [(.str aGJ),(.int aGW),(.int aGZ),(.str aG5),(.int aG1),(.str aH2)]) H
theorem E_122{aGW:Int}{aGZ:Int}{aH2:Str}:aB (KK p) (d+1) 122 [(fH (.str aGJ) (.int aGW) (.int aGZ) (.str aG5) (.int aG1) (.str aH2))] H=MV p (aB (KK p) d) aGJ aGW aGZ aG5 aG1 aH2 H:=by
 have h:aB (KK p) (d+1) 122 [(fH (.str aGJ) (.int aGW) (.int aGZ) (.str aG5) (.int aG1) (.str aH2))] H=MV p (aB (KK p) d) aGJ aGW aGZ aG5 aG1 aH2 (H++[]):=by kernel_rfl
 rw [List.append_nil] at h;exact h
def sh94 (p:Params) (cf:CF) (aG5:Str) (aGJ:Str) (aG1:Int) (aGU:Bool) (H:Hp):Res:=
.ok (.tup [(.str aG5),(.str aGJ),(.int aG1),(.bool aGU)]) H
theorem E_94{aGU:Bool}:aB (KK p) (d+1) 94 [(fY (.str aG5) (.str aGJ) (.int aG1) (.bool aGU))] H=sh94 p (aB (KK p) d) aG5 aGJ aG1 aGU H:=by
 have h:aB (KK p) (d+1) 94 [(fY (.str aG5) (.str aGJ) (.int aG1) (.bool aGU))] H=sh94 p (aB (KK p) d) aG5 aGJ aG1 aGU (H++[]):=by kernel_rfl
 rw [List.append_nil] at h;exact h
end
section variable {H H':Hp} {S:List Nat} {o:O}
section variable {a b:Res}
variable {P:TP} {X:TX}
theorem bA{α β:Type}{o:Option (α×β)}{a:α}{b:β}{j:α→β→Res}(e:o=some (a,b))(h:Rs P X (j a b)):Rs P X (ob2 o j):=by unfold ob2;rw [e];exact h
theorem N0{r:Res}(h:∀(P':TP) (X':TX),(∀v H,P v H→P' v H)→(∀c H,X c H→X' c H)→Rs P' X' r):Rs P X r:=h P X (λv H q=>q) λc H q=>q
theorem bD(e:a=b)(h:Rs P X b):Rs P X a:=by rw [e];exact h
theorem bJ{k:TV}{b:(TV)→Res}(Q:TP)(hk:∀v H,Q v H→Rs P X (k v H))(hb:∀k':TV,(∀v H,Q v H→Rs P X (k' v H))→Rs P X (b k')):Rs P X (bR k b):=hb k hk
theorem eG{k:Bool→Hp→Res}{b:(Bool→Hp→Res)→Res}(Q:Bool→Hp→Prop)(hk:∀v H,Q v H→Rs P X (k v H))(hb:∀k':Bool→Hp→Res,(∀v H,Q v H→Rs P X (k' v H))→Rs P X (b k')):Rs P X (g7 k b):=hb k hk
theorem eF{k:Lc→Hp→Res}{b:(Lc→Hp→Res)→Res}(Q:Lc→Hp→Prop)(hk:∀v H,Q v H→Rs P X (k v H))(hb:∀k':Lc→Hp→Res,(∀v H,Q v H→Rs P X (k' v H))→Rs P X (b k')):Rs P X (gZ k b):=hb k hk
theorem mQ{k:Hp→Res}{b:(Hp→Res)→Res}(Q:Hp→Prop)(hk:∀H,Q H→Rs P X (k H))(hb:∀k':Hp→Res,(∀H,Q H→Rs P X (k' H))→Rs P X (b k')):Rs P X (tG k b):=hb k hk
theorem r_t{c:Bool}(e:c=true)(h:Rs P X a):Rs P X (if c=true then a else b):=by rw [if_pos e];exact h
theorem r_f{c:Bool}(e:c=false)(h:Rs P X b):Rs P X (if c=true then a else b):=by rw [e];exact h
end
noncomputable def Ext(S:List Nat)(H H':Hp):Prop:=H.length≤H'.length∧∀l o,H[l]?=some o→l∉S→H'[l]?=some o
theorem Ext.refl(S:List Nat)(H:Hp):Ext S H H:=⟨Nat.le_refl _,λU U h U=>h⟩
theorem Ext.trans{H'':Hp}(a:Ext S H H')(b:Ext S H' H''):Ext S H H'':=⟨Nat.le_trans a.1 b.1,λl o h n=>b.2 l o (a.2 l o h n) n⟩
theorem Ext.mono{T:List Nat}(a:Ext S H H')(h:∀l,l∈S→l∈T):Ext T H H':=⟨a.1,λl o e n=>a.2 l o e λq=>n (h l q)⟩
theorem Ext.new:Ext S H (H++[o]):=⟨by exact lb6,λl o h U=>LT h⟩
theorem Ext.set{l:Nat}(hl:l∈S):Ext S H (H.set l o):=⟨by simp,λm o h n=>D1 (λq=>n (q▸hl)) h⟩
theorem Ext.fresh{T:List Nat}(a:Ext S H H')(h:∀l,l∈S→l∈T∨H.length≤l):Ext T H H':=⟨a.1,λl o e n=>a.2 l o e λq=>by
 rcases h l q with g|g
 ·exact n g
 ·exact absurd (List.getElem?_eq_some_iff.mp e).1 (Nat.not_lt.2 g)⟩
theorem bS{l:Nat}(h:H[l]?=some o):l<H.length:=(List.getElem?_eq_some_iff.mp h).1
section variable {H:Hp} {j:Hp→Res} {lc ρ:Lc} {vs:TL} {l:Nat} {v:V}
variable {P:TP} {X:TX}
theorem dI{o:O}{j:Nat→Hp→Res}(h:∀H',H'.length=H.length+1→Ext [] H H'→H'[H.length]?=some o→Rs P X (j H.length H')):Rs P X (eB H o j):=
 h _ List.length_append .new fA
theorem gD {k:V} {key:Key} {es:TG} {ep:Nat} (hk:iA k=some key) (hl:H[l]?=some (.dict es ep)) (hz:es.length≤1000) (ho:cA key es=true)
  (h:∀H' ep',H'.length=H.length→Ext [l] H H'→H'[l]?=some (.dict (cP key v es) ep')→Rs P X (j H')):Rs P X (ob (setItem H (.loc l) k v) j):=by
 have e:setItem H (.loc l) k v=some (H.set l (.dict (cP key v es) (if (aP key es).isSome then ep else ep+1))):=by
  exact (yP hl).trans ((kR hk).trans (if_pos ⟨hz,ho⟩))
 exact aA e (h _ _ List.length_set (.set k0) (jF hl))
theorem OP {i:Int} (hl:H[l]?=some (.list vs)) (h0:0≤i) (h1:i<2^62) (h2:i.toNat<vs.length)
  (h:∀H',H'.length=H.length→Ext [l] H H'→H'[l]?=some (.list (vs.set i.toNat v))→Rs P X (j H')):Rs P X (ob (setItem H (.loc l) (.int i) v) j):=
 aA (setL_ hl h0 h1 h2) (h _ List.length_set (.set k0) (jF hl))
theorem iH{c:TO}(hl:H[l]?=some (.cell c))(h:∀H',H'.length=H.length→Ext [l] H H'→H'[l]?=some (.cell (some v))→Rs P X (j H')):Rs P X (jW H l v j):=by
 unfold jW
 exact gU (by unfold kJ;rw [hl];rfl) (h _ List.length_set (.set k0) (jF hl))
theorem bC(hl:H[l]?=some (.cell (some v))):bM H l=some v:=by unfold bM;rw [hl];rfl
theorem dE(hl:H[l]?=some (.list vs)):aO H l=some vs:=wT hl
theorem j8 {j:TV} (hl:H[l]?=some (.list vs)) (hz:vs.length≤1000)
  (h:∀H',H'.length=H.length→Ext [l] H H'→H'[l]?=some (.list (vs++[v]))→Rs P X (j .none H')):
  Rs P X (gd ((aO H l).isSome&&f0 b9)<|ob (aO H l) λxs=>ob2 (aM H l xs b9 [v]) j):=by
 have e:aM H l vs b9 [v]=some (.none,H.set l (.list (vs++[v]))):=by
  have:aM H l vs b9 [v]=if vs.length≤1000 then some (.none,H.set l (.list (vs++[v]))) else none:=by kernel_rfl
  rw [this,if_pos hz]
 refine gU (by rw [dE hl];kernel_rfl) (aA (dE hl) (bA e (h _ List.length_set (.set k0) (jF hl))))
theorem MX {j:TV} (hl:H[l]?=some (.list (vs++[v]))) (hz:vs.length<1000)
  (h:∀H',H'.length=H.length→Ext [l] H H'→H'[l]?=some (.list vs)→Rs P X (j v H')):
  Rs P X (gd ((aO H l).isSome&&f0 pD)<|ob (aO H l) λxs=>ob2 (aM H l xs pD []) j):=by
 have e:aM H l (vs++[v]) pD []=some (v,H.set l (.list vs)):=by
  have:aM H l (vs++[v]) pD []=if (vs++[v]).length≤1000 then ((vs++[v]).getLast?).map λu=>(u,H.set l (.list (vs++[v]).dropLast)) else none:=by kernel_rfl
  rw [this,if_pos (la5 (Nat.le_of_lt_succ hz))];simp
 refine gU (by rw [dE hl];kernel_rfl) (aA (dE hl) (bA e (h _ List.length_set (.set k0) (jF hl))))
noncomputable def EnvM(lc ρ:Lc):Prop:=∀q∈ρ,lc.lookup q.1=some q.2
theorem EnvM.at(E:EnvM lc ρ){x:Str}{v:V}(h:(x,v)∈ρ):lc.lookup x=some v:=E (x,v) h
theorem EnvM.put{lc ρ:Lc}(E:EnvM lc ρ){y:Str}{u:V}(h:ρ.all (λq=>!(q.1==y))=true):EnvM ((y,u)::lc) ρ:=λq hq=>by
 have:=List.all_eq_true.mp h q hq
 rw [List.lookup_cons]
 cases e:q.1==y with
 |true=>rw [e] at this;cases this
 |false=>exact E q hq
theorem EnvM.nil:EnvM lc []:=λq h=>by cases h
theorem EnvM.cons{x:Str}(h:lc.lookup x=some v)(E:EnvM lc ρ):EnvM lc ((x,v)::ρ):=λq hq=>by
 rcases List.mem_cons.mp hq with rfl|hq
 ·exact h
 ·exact E q hq
end
end
section variable {L S T l:List Nat} {a n:Nat}
noncomputable def ix:List Nat→Nat→Nat
 |[],_=>0
 |a::_,0=>a
 |_::l,i+1=>ix l i
noncomputable def hdLt(a:Nat):List Nat→Prop
 |[]=>True
 |b::_=>a<b
noncomputable def Ch:List Nat→Prop
 |[]=>True
 |a::l=>hdLt a l∧Ch l
theorem Ch.c{b:Nat}(h:a<b)(C:Ch (b::l)):Ch (a::b::l):=⟨h,C⟩
theorem Ch.one:Ch [a]:=⟨trivial,trivial⟩
theorem Ch.lt0:∀{l:List Nat} {a:Nat} (_:Ch (a::l)) (j:Nat),j<l.length→a<ix l j
 |[],_,_,j,h=>absurd h (Nat.not_lt_zero _)
 |b::l,a,C,0,_=>C.1
 |b::l,a,C,j+1,h=>Nat.lt_trans C.1 (Ch.lt0 C.2 j (Nat.lt_of_succ_lt_succ h))
theorem Ch.ltG:∀{l:List Nat} (_:Ch l) (i j:Nat),i<j→j<l.length→ix l i<ix l j
 |[],_,_,_,_,h=>absurd h (Nat.not_lt_zero _)
 |a::l,C,0,j+1,_,h=>Ch.lt0 C j (Nat.lt_of_succ_lt_succ h)
 |a::l,C,i+1,j+1,g,h=>Ch.ltG C.2 i j (Nat.lt_of_succ_lt_succ g) (Nat.lt_of_succ_lt_succ h)
theorem Ch.lt(C:Ch l)(i j:Nat)(h:(Nat.blt i j&&Nat.blt j l.length)=true):ix l i<ix l j:=by
 have:=(Bool.and_eq_true _ _).mp h
 exact C.ltG i j (Nat.blt_eq.mp this.1) (Nat.blt_eq.mp this.2)
theorem Ch.ne(C:Ch l)(i j:Nat)(h:(((Nat.blt i j || Nat.blt j i)&&Nat.blt j l.length)&&Nat.blt i l.length)=true):ix l i≠ix l j:=by
 simp only [Bool.and_eq_true,Bool.or_eq_true,Nat.blt_eq] at h
 rcases h.1.1 with q|q
 ·exact Nat.ne_of_lt (C.ltG i j q h.1.2)
 ·exact Nat.ne_of_gt (C.ltG j i q h.2)
noncomputable def sZ(n i:Nat):List Nat→Bool
 |[]=>true
 |j::l=>(((Nat.blt i j || Nat.blt j i)&&Nat.blt j n)&&Nat.blt i n)&&sZ n i l
theorem Ch.out(C:Ch l)(i:Nat)(is:List Nat)(h:sZ l.length i is=true):ix l i∉is.map (ix l):=by
 induction is with
 |nil=>exact λh=>nomatch h
 |cons j is ih=>
  refine oA ((Bool.and_eq_true _ _).mp h) λh1 h2=>?_
  intro hm
  rcases List.mem_cons.mp hm with e|hm
  ·exact C.ne i j h1 e
  ·exact ih h2 hm
theorem Ch.snoc:∀{l:List Nat} {b:Nat} (_:Ch l),ix l (l.length - 1)<b→Ch (l++[b])
 |[],b,_,_=>Ch.one
 |[a],b,_,h=>Ch.c h Ch.one
 |a::c::l,b,C,h=>⟨C.1,Ch.snoc (l:=c::l) C.2 h⟩
noncomputable def NS(n:Nat):List Nat→Bool
 |[]=>true
 |i::l=>Nat.blt i n&&((match l with|[]=>true|j::_=>Nat.blt i j)&&NS n l)
theorem Ch.sub(C:Ch l)(is:List Nat)(h:NS l.length is=true):Ch (is.map (ix l)):=by
 induction is with
 |nil=>trivial
 |cons i is ih=>
  refine oA ((Bool.and_eq_true _ _).mp h) λh1 h2=>?_
  refine oA ((Bool.and_eq_true _ _).mp h2) λh2 h3=>?_
  refine ⟨?_,ih h3⟩
  cases is with
  |nil=>trivial
  |cons j is=>
   refine oA ((Bool.and_eq_true _ _).mp h3) λh4 U=>?_
   exact C.ltG i j (Nat.blt_eq.mp h2) (Nat.blt_eq.mp h4)
noncomputable def Cov(n:Nat)(T S:List Nat):Prop:=∀z∈S,z∈T∨n≤z
theorem FC:∀{T:List Nat} {i:Nat},i<T.length→ix T i∈T
 |[],_,h=>absurd h (Nat.not_lt_zero _)
 |a::l,0,_=>List.mem_cons_self ..
 |a::l,i+1,h=>List.mem_cons_of_mem _ (FC (Nat.lt_of_succ_lt_succ h))
theorem Cov.z:Cov n T []:=λU h=>nomatch h
theorem Cov.i(i:Nat)(h:Nat.blt i T.length=true)(c:Cov n T S):Cov n T (ix T i::S):=λz hz=>by
 rcases List.mem_cons.mp hz with rfl|hz
 ·exact .inl (FC (Nat.blt_eq.mp h))
 ·exact c z hz
theorem Cov.f(h:n≤a)(c:Cov n T S):Cov n T (a::S):=λz hz=>by
 rcases List.mem_cons.mp hz with rfl|hz
 ·exact .inr h
 ·exact c z hz
noncomputable def NT(n:Nat):List Nat→Bool
 |[]=>true
 |i::l=>Nat.blt i n&&NT n l
theorem Cov.p:∀(is:List Nat),NT T.length is=true→Cov n T (is.map (ix T))
 |[],_=>Cov.z
 |i::is,h=>Cov.i i ((Bool.and_eq_true _ _).mp h).1 (Cov.p is ((Bool.and_eq_true _ _).mp h).2)
theorem Ch.neHi(C:Ch l)(b:Nat){z:Nat}(hz:ix l b≤z)(i:Nat)(h:(Nat.blt i b&&Nat.blt b l.length)=true):z≠ix l i:=Nat.ne_of_gt (Nat.lt_of_lt_of_le (C.lt i b h) hz)
noncomputable def TH(n b:Nat):List Nat→Bool
 |[]=>true
 |i::l=>(Nat.blt i b&&Nat.blt b n)&&TH n b l
theorem Ch.outHi(C:Ch l)(b:Nat){z:Nat}(hz:ix l b≤z)(is:List Nat)(h:TH l.length b is=true):z∉is.map (ix l):=by
 induction is with
 |nil=>exact λh=>nomatch h
 |cons j is ih=>
  refine oA ((Bool.and_eq_true _ _).mp h) λh1 h2=>?_
  intro hm
  rcases List.mem_cons.mp hm with e|hm
  ·exact C.neHi b hz j h1 e
  ·exact ih h2 hm
theorem nmc{z:Nat}(h:z≠a)(n:z∉l):z∉a::l:=λm=>(List.mem_cons.mp m).elim h n
noncomputable def EI(n b i:Nat)(ts:List Nat):Bool:=sZ n i ts&&(Nat.blt i b&&Nat.blt b n)
theorem Ch.free(C:Ch L)(b:Nat)(ts:List Nat)(hS:Cov (ix L b) (ts.map (ix L)) S)(i:Nat)(h:EI L.length b i ts=true):ix L i∉S:=λm=>by
 refine oA ((Bool.and_eq_true _ _).mp h) λh1 h2=>?_
 exact (hS _ m).elim (λq=>C.out i ts h1 q) λq=>Nat.not_lt_of_le q (C.lt i b h2)
noncomputable def t7(n b:Nat)(ts:List Nat):List Nat→Bool
 |[]=>true
 |i::l=>EI n b i ts&&t7 n b ts l
theorem Ch.frees(C:Ch L)(b:Nat)(ts:List Nat)(hS:Cov (ix L b) (ts.map (ix L)) S):∀(is:List Nat),t7 L.length b ts is=true→∀l∈is.map (ix L),l∉S
 |[],_,_,m=>nomatch m
 |i::is,h,l,m=>by
  refine oA ((Bool.and_eq_true _ _).mp h) λh1 h2=>?_
  rcases List.mem_cons.mp m with rfl|m
  ·exact C.free b ts hS i h1
  ·exact C.frees b ts hS is h2 l m
noncomputable def EH(n:Nat)(js:List Nat):List Nat→Bool
 |[]=>true
 |i::l=>sZ n i js&&EH n js l
theorem Ch.outs(C:Ch L)(js:List Nat):∀(is:List Nat),EH L.length js is=true→∀l∈is.map (ix L),l∉js.map (ix L)
 |[],_,_,m=>nomatch m
 |i::is,h,l,m=>by
  refine oA ((Bool.and_eq_true _ _).mp h) λh1 h2=>?_
  rcases List.mem_cons.mp m with rfl|m
  ·exact C.out i js h1
  ·exact C.outs js is h2 l m
theorem Ext.cov{H H':Hp}(a:Ext S H H')(h:Cov H.length T S):Ext T H H':=a.fresh h
theorem Ext.then{H H' H'':Hp}(a:Ext T H H')(b:Ext S H' H'')(h:Cov H.length T S):Ext T H H'':=
 ⟨Nat.le_trans a.1 b.1,λl o e n=>b.2 l o (a.2 l o e n) λq=>(h l q).elim n λg=>Nat.not_lt_of_le g (bS e)⟩
end
section variable {n:Nat}
theorem oz0{y0:Nat}(h0:y0≤10):y0≤100:=by grind
theorem la3{β:Type _}{l r:List β}(h:l.length+r.length≤n):(l++r).length≤n:=by rw [List.length_append];exact h
theorem la6{β:Type _}{l r:List β}{a:β}(h:l.length+(r.length+1)≤n):(l++r++[a]).length≤n:=by rw [List.append_assoc,List.length_append,List.length_append];exact h
theorem sC{a b:Nat}(e:a=b):a+1=b+1:=e▸rfl
theorem il{y z A B c:Int}{k:Nat}(h0:y<A)(h2:z≤(y+1)+c*n)(h3:n≤k)(hc:0≤c)(h:A+c*k<B):z<B:=Int.lt_of_le_of_lt (Int.le_trans h2 (Int.add_le_add h0 (Int.mul_le_mul_of_nonneg_left (Int.ofNat_le.2 h3) hc))) h
theorem im{a b c d:Int}(h0:a≤b+c*n)(h1:d≤a+c):d≤b+c*((n+1:Nat):Int):=Int.le_trans h1 (Int.le_trans (Int.add_le_add_right h0 c) (Int.le_of_eq (by rw [Int.natCast_add,Int.mul_add,Int.natCast_one,Int.mul_one,Int.add_assoc])))
theorem oz1{y0 y1:Int}{y2:Nat}{y3:Int}(h0:y0≤((y1+1)+(2*(y2:Int))))(h1:y3≤(y0+2)):y3≤((y1+1)+(2*(((y2+1):Nat):Int))):=im h0 h1
theorem oz2{y0:Nat}{y1:Int}(h0:y0<(Int.toNat (1+y1))):(y0+1)≤(Int.toNat (1+y1)):=h0
theorem oz3{y0 y1 y2:Int}{y3:Nat}(h0:y0<(2^38))(h1:y1<3)(h2:y2≤((y0+1)+(2*(y3:Int))))(h3:y3<(Int.toNat (1+y1))):y2<(2^39):=il (k:=3) h0 h2 (Nat.le_of_lt (Nat.lt_of_lt_of_le h3 (Int.toNat_le.2 (Int.le_trans (Int.le_of_eq (Int.add_comm 1 y1)) h1)))) (by decide) (by decide)
theorem oz4{y0:Nat}(h0:y0≤5):y0≤10:=Nat.le_trans h0 (by decide)
theorem oz5{y0:Int}{y1:Nat}(h0:y0<3)(h1:y1<(Int.toNat (1+y0))):y1<3:=Nat.lt_of_lt_of_le h1 (Int.toNat_le.mpr (by rw [Int.add_comm];exact h0))
theorem oz6{y0:Nat}{y1:Int}{y2:Nat}(h0:(y0+1)=((Int.toNat (1+y1)) - y2)):y2<(Int.toNat (1+y1)):=Nat.sub_pos_iff_lt.mp (h0▸Nat.succ_pos _)
theorem oz7{y0 y1:Nat}(h0:y0≤3)(h1:y1≤y0):y1≤100:=Nat.le_trans h1 (Nat.le_trans h0 (by decide))
theorem oz8{y0 y1:Nat}(h0:y0=y1)(h1:y1≤3):y0≤100:=Nat.le_trans (Nat.le_of_eq h0) (Nat.le_trans h1 (by decide))
theorem oz9{y0 y1:Int}{y2:Nat}(h0:y0≤((y1+1)+(2*(y2:Int))))(h1:y2≤3):(y0+1)≤(y1+9):=Int.le_trans (Int.add_le_add_right (Int.le_trans h0 (Int.add_le_add_left (Int.mul_le_mul_of_nonneg_left (Int.ofNat_le.2 h1) (by decide)) _)) 1) (Int.le_trans (Int.le_of_eq ((Int.add_assoc (y1+1) (2*3) 1).trans (Int.add_assoc y1 1 (2*3+1)))) (Int.add_le_add_left (by decide) y1))
theorem oz10{y0 y1 y2:Nat}(h0:y0≤3)(h1:y1≤5)(h2:y2≤y0):(y1+y2)≤1000:=Nat.le_trans (Nat.add_le_add h1 (Nat.le_trans h2 h0)) (by decide)
theorem TD{y0 y1:Nat}(h0:y0<y1)(h1:y1≤3):y0<3:=Nat.le_trans h0 h1
theorem oz12{y0 y1:Int}{y2:Nat}(h0:y0<(2^38))(h1:y1≤((y0+1)+(2*(y2:Int))))(h2:y2≤3):y1<(2^40):=il h0 h1 h2 (by decide) (by decide)
theorem oz13{y0 y1:Nat}(h0:y0≤3)(h1:y1≤y0):(y1+1)≤4:=Nat.lt_of_le_of_lt h1 (Nat.lt_of_le_of_lt h0 (by decide))
theorem oz14{y0 y1:Nat}(h0:y0≤3)(h1:y1≤y0):y1≤4:=Nat.le_trans h1 (Nat.le_trans h0 (by decide))
theorem oz15{y0 y1 y2:Nat}(h0:y0≤(y1+y2))(h1:y2≤3):y0≤(y1+3):=Nat.le_trans h0 (Nat.add_le_add_left h1 _)
theorem oz16{y0 y1:Int}(h0:y0≤(y1+9)):y0≤(y1+10):=Int.le_trans h0 (Int.add_le_add_left (by decide) _)
theorem oz17{y0 y1:Nat}(h0:y0=y1):y0≤(y1+1):=by lia
theorem oz18{y0:Nat}(h0:y0≤10):y0≤1000:=Nat.le_trans h0 (by decide)
theorem TC{y0 y1:Nat}(h0:y0=y1):y0≤y1:=Nat.le_of_eq h0
theorem oz20{y0:Int}{y1:Nat}(h0:y0<3)(h1:y1=(Int.toNat (1+y0))):y1≤3:=h1▸Int.toNat_le.mpr (by rw [Int.add_comm];exact h0)
theorem oz21{y0:Int}{y1:Nat}(h0:(0:Nat)=((Int.toNat (1+y0)) - y1))(h1:y1≤(Int.toNat (1+y0))):y1=(Int.toNat (1+y0)):=Nat.le_antisymm h1 (Nat.le_of_sub_eq_zero h0.symm)
theorem oz22{y0:Int}:(y0+1)≤((y0+1)+(2*((0:Nat):Int))):=Int.le_add_of_nonneg_right (by decide)
theorem oz23{y0:Int}:(0:Nat)≤(Int.toNat (1+y0)):=Nat.zero_le _
theorem oz24{y0:Nat}:y0≤(y0+0):=Nat.le_refl _
theorem oz25{y0:Int}(h0:y0<3):((Int.toNat (1+y0)):Nat)<(2^31):=Nat.lt_of_le_of_lt (Int.toNat_le.mpr (show _≤((3:Nat):Int) by rw [Int.add_comm];exact h0)) (by decide)
theorem oz26{y0:Int}(h0:(0:Int)≤y0):(0:Int)≤(1+y0):=Int.add_nonneg (by decide) h0
theorem oz27{y0:Int}(h0:y0<3):(1+y0)<(2^31):=Int.lt_of_lt_of_le (Int.add_lt_add_left h0 1) (by decide)
theorem TB{y0:Int}(h0:y0<(2^38)):y0<(2^40):=Int.lt_of_lt_of_le h0 (by decide)
theorem oz29{y0:Int}(h0:(0:Int)≤y0):(0:Int)≤(y0+1):=Int.add_nonneg h0 (by decide)
theorem oz30{y0:Int}(h0:(0:Int)<y0):y0≠0:=by lia
theorem TA{y0:Nat}:(0:Int)≤(y0:Int):=Int.natCast_nonneg _
theorem oz32{y0:Nat}(h0:y0≤100):(y0:Int)<1073741824:=Int.lt_of_le_of_lt (Int.ofNat_le.2 h0) (by decide)
theorem yO{y0:Nat}(h0:(0:Nat)<y0):(0:Int)<(y0:Int):=by omega
theorem EB{y0:Nat}(h0:y0≤100):y0<(2^31):=Nat.lt_of_le_of_lt h0 (by decide)
theorem oz35{y0:Int}{y1:Nat}(h0:(y0 % (y1:Int))<(y1:Int))(h1:y1≤100):(y0 % (y1:Int))<(2^62):=Int.lt_of_lt_of_le h0 (Int.le_trans (Int.ofNat_le.2 h1) (by decide))
theorem oz36{y0:Int}{y1:Nat}(h0:(y0 % (y1:Int))<(y1:Int))(h1:(0:Int)≤(y0 % (y1:Int))):((Int.toNat (y0 % (y1:Int))):Nat)<y1:=(Int.toNat_lt h1).mpr h0
theorem oz37{y0:Nat}(h0:(0:Nat)<y0):(y0:Int)≠0:=by lia
theorem oz38{y0 y1:Nat}(h0:y0=(y1+1)):¬(y1=y0):=by lia
theorem oz39{y0 y1:Nat}(h0:(y0+(y1+1))≤2):y0≤1000:=Nat.le_trans (Nat.le_trans (Nat.le_add_right _ _) h0) (by decide)
theorem oz40{y0 y1:Nat}(h0:(y0+(y1+1))≤2):((y0+1)+y1)≤2:=by lia
theorem oz41{y0 y1:Nat}(h0:(y0+(y1+1))≤2):(y0+y1)≤2:=Nat.le_of_lt h0
theorem oz42{y0 y1:Nat}(h0:y0=(y1+1)):¬(y0=y1):=by lia
theorem oz43{y0:Nat}(h0:y0≤2):y0≤1000:=Nat.le_trans h0 (by decide)
theorem oz44{y0 y1 y2 y3:Nat}(h0:y0<y1)(h1:y2=(y3+1))(h2:y1=y3):¬(y0=y2):=Nat.ne_of_lt (h1▸Nat.lt_succ_of_lt (h2▸h0))
theorem oz45{y0 y1 y2:Nat}(h0:y0<y1)(h1:y1=y2):¬(y0=y2):=by lia
theorem oz46{y0 y1:Nat}(h0:(y0:Int)=(y1:Int))(h1:¬((1:Int)<(y0:Int))):¬((1:Nat)<y1):=λq=>h1 (h0▸(Int.ofNat_lt.2 q:((1:Nat):Int)<y1))
theorem oz47{y0 y1:Nat}(h0:(y0:Int)=(y1:Int))(h1:(1:Int)<(y0:Int)):(1:Nat)<y1:=Int.ofNat_lt.1 (show ((1:Nat):Int)<y1 from h0▸h1)
theorem oz48{y0:Nat}(h0:y0≤2):y0<2147483648:=Nat.lt_of_le_of_lt h0 (by decide)
theorem oz49{y0 y1 y2:Int}:((y0 - y1) - y2)=((y0 - y1) - (0+y2)):=by lia
theorem oz50{y0 y1 y2 y3 y4:Int}(h0:y0=(y1+y2)):((y3 - y0) - y4)=((y3 - y1) - (y2+y4)):=by grind
theorem oz51{y0 y1 y2 y3:Int}:((y0 - y1) - y2)=(((y3+y0) - y1) - (y3+y2)):=by lia
theorem oz52{y0 y1 y2 y3:Int}(h0:y0=(y1+y2)):(y3+y0)=(y1+(y3+y2)):=by lia
theorem oz53{y0 y1 y2 y3 y4 y5 y6 y7:Int}(h0:(y0 - y1)=(((y2+y3) - 0) - (y4+y5))):(((y6+y7)+y0) - y1)=(((y6+y2) - y4)+((y7+y3) - y5)):=by lia
theorem oz54{y0 y1 y2:Int}:((y0+y1) - y1)=((y0+y2) - y2):=by lia
theorem oz55{y0 y1 y2 y3 y4 y5 y6 y7:Int}(h0:((y0+y1) - y2)=(((-y3)+y4) - y5)):(((y6+y7) - 0)+((y0+y1) - y2))=((y6+y7) - ((y5 - y4)+y3)):=by lia
theorem oz56{y0 y1 y2:Nat}(h0:(y0+2)≤(y1+1))(h1:y2<y0):(y2+2)≤y1:=Nat.le_of_succ_le_succ (Nat.le_trans (Nat.add_le_add_right h1 2) h0)
theorem oz57{y0 y1:Nat}(h0:(y0+2)≤(y1+1)):(1:Nat)≤y1:=Nat.le_of_succ_le_succ (Nat.le_trans (Nat.le_add_left 2 y0) h0)
theorem oz58{y0 y1 y2 y3 y4:Int}:(((y0+0) - y1)+((y2+y3) - y4))=((y0+((y3 - y4)+y2)) - y1):=by lia
theorem oz59{y0 y1 y2:Int}:(((y0+y1)+y2) - 0)=(((y0+0) - 0)+((y1+y2) - 0)):=by lia
theorem oz60{y0 y1:Nat}(h0:y0<y1):(y0+1)<(y1+1):=Nat.lt_succ_of_le h0
theorem oz61{y0 y1:Nat}(h0:y0≤y1):(y0+0)<(y1+1):=Nat.lt_succ_of_le h0
theorem oz62{y0 y1:Nat}(h0:y0≤y1):(y0+2)≤((2*y1)+2):=Nat.add_le_add_right (Nat.le_trans h0 (Nat.le_mul_of_pos_left y1 (by decide))) 2
theorem oz63{y0:Nat}:(1:Nat)≤((2*y0)+2):=Nat.le_add_left _ _
theorem oz64{y0:Int}:((0+y0) - 0)=y0:=by lia
theorem oz65{y0:Nat}(h0:y0≤6):((2*y0)+2)<(2^31):=Nat.lt_of_le_of_lt (Nat.add_le_add_right (Nat.mul_le_mul_left 2 h0) 2) (by decide)
theorem oz66{y0:Nat}:((Int.toNat ((2*(y0:Int))+2)):Nat)=((2*y0)+2):=by rfl
theorem oz67{y0:Nat}:(0:Int)≤((2*(y0:Int))+2):=Int.natCast_nonneg _
theorem oz68{y0:Nat}(h0:y0≤6):((2*(y0:Int))+2)<(2^31):=Int.lt_of_le_of_lt (Int.add_le_add_right (Int.mul_le_mul_of_nonneg_left (Int.ofNat_le.2 h0) (by decide)) 2) (by decide)
theorem S9{y0:Nat}(h0:y0≤6):y0<(2^31):=Nat.lt_of_le_of_lt h0 (by decide)
theorem oz70{y0 y1 y2:Int}:(((-y0)+y1) - y1)=(((-y0)+y2) - y2):=by lia
theorem oz71{y0 y1 y2:Nat}(h0:(y0+(y1+(y2+1)))≤100):(y0+y1)≤100:=Nat.le_trans (Nat.add_le_add_left (Nat.le_add_right y1 _) y0) h0
theorem qP{y0:Nat}(h0:y0≤100):y0≤1000:=by grind
theorem oz73{y0 y1 y2 y3:Nat}(h0:y0=y1)(h1:y2=y0)(h2:y3=y2):y3=y1:=by subst h0;subst h1;subst h2;rfl
theorem oz74{y0 y1 y2 y3:Nat}(h0:(y0+(y1+(y2+1)))≤100)(h1:y3≤y1):(y0+y3)≤1000:=Nat.le_trans (Nat.add_le_add_left (Nat.le_trans h1 (Nat.le_add_right y1 _)) y0) (Nat.le_trans h0 (by decide))
theorem SZ{y0 y1 y2:Nat}(h0:y0=y1)(h1:y2=y0):y2=y1:=h1.trans h0
theorem oz76{y0 y1 y2:Nat}(h0:((y0+y1)+y2)≤50):(y0+y1)≤100:=Nat.le_trans (Nat.le_trans (Nat.le_add_right _ _) h0) (by decide)
theorem oz77{y0 y1 y2:Nat}(h0:((y0+y1)+y2)≤50):y0≤100:=Nat.le_trans (Nat.le_of_add_right_le (Nat.le_of_add_right_le h0)) (by decide)
theorem oz78{y0 y1 y2 y3 y4 y5 y6:Nat}(h0:y0=(y1+1))(h1:y1=(y2+2))(h2:y3=y0)(h3:y4=y3)(h4:y5=y4)(h5:y5≤y6):y2≤y6:=Nat.le_trans (Nat.le_add_right y2 3) (Nat.le_trans (Nat.le_of_eq (h4.trans (h3.trans (h2.trans (h0.trans (sC h1))))).symm) h5)
theorem oz79{y0 y1 y2 y3:Nat}(h0:((¬(y0=y1))∧(¬(y0=y2))))(h1:y0<y3):((¬(y0=y1))∧(((¬(y0=y2))∧(¬(y0=(y3+2)))))):=⟨h0.1,h0.2,Nat.ne_of_lt (Nat.lt_of_lt_of_le h1 (Nat.le_add_right y3 2))⟩
theorem EA{y0 y1:Nat}(h0:y0<y1):¬(y0=(y1+2)):=Nat.ne_of_lt (Nat.lt_of_lt_of_le h0 (Nat.le_add_right _ _))
theorem oz81{y0 y1 y2 y3 y4 y5 y6 y7 y8:Nat}(h0:y0=(y1+1))(h1:y1=(y2+2))(h2:y3=y0)(h3:y4=y3)(h4:y5=y4)(h5:y6=y5)(h6:y7=y6)(h7:y7≤y8):y2≤y8:=Nat.le_trans (Nat.le_add_right y2 3) (Nat.le_trans (Nat.le_of_eq (h6.trans (h5.trans (h4.trans (h3.trans (h2.trans (h0.trans (sC h1))))))).symm) h7)
theorem oz82{y0 y1 y2:Nat}(h0:(y0+y1)≤50)(h1:y2≤y1):(y0+y2)≤100:=Nat.le_trans (Nat.add_le_add_left h1 y0) (Nat.le_trans h0 (by decide))
theorem oz83{y0 y1 y2 y3 y4 y5 y6:Nat}(h0:y0=(y1+1))(h1:y1=(y2+2))(h2:y3=y0)(h3:y4=y3)(h4:y5=y4)(h5:y6=y5):y2≤y6:=Nat.le_trans (Nat.le_add_right y2 3) (Nat.le_of_eq (h5.trans (h4.trans (h3.trans (h2.trans (h0.trans (sC h1)))))).symm)
theorem oz84{y0 y1 y2:Nat}(h0:y0<y1)(h1:y2<y1):((¬((y1+1)=y0))∧(¬((y1+1)=y2))):=⟨Nat.ne_of_gt (Nat.lt_succ_of_lt h0),Nat.ne_of_gt (Nat.lt_succ_of_lt h1)⟩
theorem oz85{y0 y1 y2:Nat}(h0:y0<y1)(h1:y2<y1):((¬(y1=y0))∧(¬(y1=y2))):=⟨Nat.ne_of_gt h0,Nat.ne_of_gt h1⟩
theorem oz86{y0 y1 y2:Nat}(h0:y0<y1)(h1:y2<y1):((¬((y1+2)=y0))∧(¬((y1+2)=y2))):=⟨Nat.ne_of_gt (Nat.lt_of_lt_of_le h0 (Nat.le_add_right _ 2)),Nat.ne_of_gt (Nat.lt_of_lt_of_le h1 (Nat.le_add_right _ 2))⟩
theorem oz87{y0 y1:Nat}(h0:(y0+y1)≤50):(y0+y1)≤100:=Nat.le_trans h0 (by decide)
theorem oz88{y0 y1 y2:Nat}(h0:((y0=y1)∨(((y0=y2)∨(y0=(y2+1))))))(h1:y1<y2):y0≠(y2+2):=Nat.ne_of_lt (h0.elim (λe=>e▸Nat.lt_of_lt_of_le h1 (Nat.le_add_right _ 2)) λq=>q.elim (λe=>e▸Nat.lt_add_of_pos_right (by decide)) λe=>e▸Nat.lt_succ_self _)
theorem oz89{y0 y1:Nat}(h0:y0<y1):y0≠(y1+2):=Nat.ne_of_lt (Nat.lt_of_lt_of_le h0 (Nat.le_add_right _ _))
theorem oz90{y0 y1:Nat}(h0:y0<y1):y0≠(y1+1):=by lia
theorem D9{y0 y1:Nat}(h0:y0<y1):y0≠y1:=Nat.ne_of_lt h0
theorem oz92{y0 y1:Nat}(h0:y0<y1):¬(y0=(y1+1)):=Nat.ne_of_lt (Nat.lt_of_lt_of_le h0 (Nat.le_add_right _ _))
theorem oz93{y0 y1:Nat}(h0:y0<y1):¬(y0=y1):=Nat.ne_of_lt h0
theorem oz94{y0 y1 y2 y3 y4:Nat}(h0:y0=(y1+1))(h1:y1=(y2+2))(h2:y3=y0)(h3:y4=y3):y2≤y4:=Nat.le_trans (Nat.le_add_right y2 3) (Nat.le_of_eq (h3.trans (h2.trans (h0.trans (sC h1)))).symm)
theorem oz95{y0:Nat}(h0:y0<64):y0≤1000:=Nat.le_of_lt (Nat.lt_of_lt_of_le h0 (by decide))
theorem oz96{y0 y1:Nat}(h0:y0<y1):(y0+1)≤y1:=h0
theorem SY{y0:Nat}:(0:Nat)≤y0:=Nat.zero_le _
theorem LA{y0:Int}(h0:y0<(2^39)):y0<(2^40):=Int.lt_of_lt_of_le h0 (by decide)
theorem oz99{y0:Int}:(((y0+1)+1)+1)≤(y0+3):=by lia
theorem NQ{y0:Nat}(h0:y0≤110):y0≤1000:=by grind
theorem AE{y0 y1:Nat}(h0:y0<y1):¬(y1=y0):=Nat.ne_of_gt h0
theorem NP{y0:Int}(h0:y0<(2^39)):((y0+1)+1)<(2^40):=Int.lt_of_lt_of_le (Int.add_lt_add_right (Int.add_lt_add_right h0 1) 1) (by decide)
theorem NO{y0:Nat}(h0:y0≤110):y0<2147483648:=Nat.lt_of_le_of_lt h0 (by decide)
theorem oz104{y0:Int}:((y0+1)+1)≤(y0+3):=by lia
theorem oz105{y0 y1 y2:Nat}(h0:y0<y1)(h1:y2=y0)(h2:y1≤6):y2≤1000:=h1▸Nat.le_trans (Nat.le_of_lt (Nat.lt_of_lt_of_le h0 h2)) (by decide)
theorem oz106{y0 y1:Int}(h0:y0≤(y1+3)):(y0+1)≤(y1+4):=by lia
theorem oz107{y0 y1:Nat}(h0:y0<y1)(h1:y1≤6):(y0:Int)<(2^62):=by lia
theorem oz108{y0 y1:Nat}(h0:y0<y1)(h1:y1≤6):y0<6:=Nat.le_trans h0 h1
theorem oz109:(0:Int)<2001:=Int.natCast_nonneg _
theorem oz110{y0 y1:Int}(h0:y0<(2^39))(h1:y1≤(y0+3)):y1<(2^40):=Int.lt_of_le_of_lt h1 (Int.lt_of_lt_of_le (Int.add_lt_add_right h0 _) (by decide))
theorem EF{y0:Int}(h0:y0<(2^39)):(y0+1)<(2^40):=Int.lt_of_le_of_lt h0 (by decide)
theorem oz112{y0 y1 y2 y3 y4:Nat}(h0:y0<y1)(h1:y2=(y1+1))(h2:y3=(y2+1))(h3:y4=(y3+1)):y0<y4:=by subst h1;subst h2;subst h3;exact Nat.lt_of_lt_of_le h0 (Nat.le_add_right _ 3)
theorem oz113{y0 y1 y2 y3 y4 y5:Nat}(h0:y0=(y1+1))(h1:y2=(y0+1))(h2:y3=(y2+1))(h3:y4=(y3+1))(h4:y5≤y1):y5≤y4:=Nat.le_trans h4 (Nat.le_trans (Nat.le_add_right y1 4) (Nat.le_of_eq (h3.trans (sC (h2.trans (sC (h1.trans (sC h0)))))).symm))
theorem oz114{y0 y1:Nat}(h0:y0≤100)(h1:y1≤6):((y0+1)+y1)≤110:=Nat.le_trans (Nat.add_le_add (Nat.succ_le_succ h0) h1) (by decide)
theorem oz115{y0 y1 y2 y3:Nat}(h0:(min y0 y1)≤(6+y2))(h1:y3≤100):((y3+1)+((min y0 y1) - y2))≤1000:=Nat.le_trans (Nat.add_le_add (Nat.succ_le_succ h1) (Nat.sub_le_of_le_add h0)) (by decide)
theorem oz116{y0 y1:Nat}:(min y0 6)≤(6+y1):=Nat.le_trans (Nat.min_le_right _ _) (Nat.le_add_right _ _)
theorem oz117{y0 y1:Nat}:(min y0 6)≤(1000+y1):=Nat.le_trans (Nat.min_le_right _ _) (Nat.le_trans (by decide:6≤1000) (Nat.le_add_right _ _))
theorem oz118{y0 y1:Nat}(h0:y0≤6)(h1:y1≤y0):((y1≤y0)∧((y0:Int)≤6)):=⟨h1,Int.ofNat_le.2 h0⟩
theorem oz119{y0:Nat}(h0:y0≤100):(1+y0)≤1000:=by lia
theorem oz120{y0:Int}{y1:Nat}(h0:y0<(y1:Int))(h1:y1≤1000):y0<(2^62):=Int.lt_of_lt_of_le h0 (Int.le_trans (Int.ofNat_le.2 h1) (by decide))
theorem oz121{y0:Int}{y1:Nat}(h0:(0:Int)≤y0)(h1:y0<(y1:Int)):((Int.toNat y0):Nat)<y1:=(Int.toNat_lt h0).mpr h1
theorem NN{y0 y1:Nat}(h0:y0<y1):¬((y1+1)=y0):=Nat.ne_of_gt (Nat.lt_succ_of_lt h0)
theorem oz123{y0 y1 y2 y3 y4:Nat}(h0:y0=(y1+1))(h1:y2=(y0+1))(h2:y3=y2)(h3:y4=y3):y1≤y4:=by lia
theorem oz124{y0 y1 y2 y3 y4:Nat}(h0:y0=(y1+1))(h1:y2=(y0+1))(h2:y3=y2)(h3:y4=y3):y4=(y1+2):=by subst h0;subst h1;subst h2;subst h3;rfl
theorem oz125{y0 y1:Int}{y2:Nat}{y3:Int}(h0:y0≤((y1+1)+(4*(y2:Int))))(h1:y3≤(y0+4)):y3≤((y1+1)+(4*(((y2+1):Nat):Int))):=im h0 h1
theorem oz126{y0 y1 y2:Nat}(h0:y0<y1)(h1:y0≠y2):((¬(y0=y2))∧(¬(y0=y1))):=by lia
theorem oz127{y0:Nat}{y1 y2:Int}{y3:Nat}(h0:(y0:Int)<7)(h1:y1<(2^38))(h2:y2≤((y1+1)+(4*(y3:Int))))(h3:y3<y0):y2<(2^39):=il h1 h2 (Nat.le_of_lt (Nat.lt_trans h3 (Int.ofNat_lt.1 h0))) (by decide) (by decide)
theorem NM{y0 y1 y2:Nat}(h0:(y0+1)=(y1 - y2)):y2<y1:=Nat.sub_pos_iff_lt.mp (h0▸Nat.succ_pos _)
theorem oz129{y0:Nat}(h0:y0≤6):y0≤6:=by omega
theorem oz130{y0 y1 y2:Nat}(h0:y0<y1)(h1:¬(y0=y2)):((¬(y0=y2))∧(¬(y0=y1))):=by lia
theorem oz131{y0 y1 y2 y3:Nat}(h0:y0=(y1+1))(h1:y1=y2)(h2:y0≤y3):y2≤y3:=Nat.le_trans (Nat.le_of_eq h1.symm) (Nat.le_trans (Nat.le_succ y1) (Nat.le_trans (Nat.le_of_eq h0.symm) h2))
theorem oz132{y0:Nat}{y1 y2:Int}(h0:(y0:Int)<7)(h1:y1≤((y2+1)+(4*(y0:Int)))):y1≤(y2+30):=Int.le_trans h1 (Int.le_trans (Int.add_le_add_left (Int.mul_le_mul_of_nonneg_left (Int.le_of_lt_add_one h0:(y0:Int)≤6) (by decide)) _) (Int.le_trans (Int.le_of_eq (Int.add_assoc y2 1 (4*6))) (Int.add_le_add_left (by decide) y2)))
theorem NL{y0 y1:Nat}(h0:(0:Nat)=(y0 - y1))(h1:y1≤y0):y1=y0:=Nat.le_antisymm h1 (Nat.le_of_sub_eq_zero h0.symm)
theorem oz134{y0:Int}:(y0+1)≤((y0+1)+(4*((0:Nat):Int))):=Int.le_add_of_nonneg_right (by decide)
theorem oz135{y0:Nat}(h0:(y0:Int)<7):y0<(2^31):=Nat.lt_trans (Int.ofNat_lt.1 h0:y0<7) (by decide)
theorem oz136{y0:Nat}(h0:(y0:Int)<7):(y0:Int)<(2^31):=by omega
theorem oz137{y0:Nat}(h0:(y0:Int)<7):y0≤6:=by lia
theorem oz138{y0:Int}(h0:(0:Int)≤y0):y0=((Int.toNat y0):Nat):=(Int.toNat_of_nonneg h0).symm
theorem oz139{y0 y1:Nat}(h0:y0<3)(h1:y1≤y0):y1≤100:=by lia
theorem NK{y0 y1:Nat}(h0:y0<3)(h1:y1=y0):y1≤100:=h1▸Nat.le_trans (Nat.le_of_lt h0) (by decide)
theorem oz141{y0 y1 y2:Nat}(h0:y0<3)(h1:y1≤10)(h2:y2≤y0):(y1+y2)≤1000:=by lia
theorem EE{y0 y1:Nat}(h0:y0<y1)(h1:y0=y1):False:=Nat.ne_of_lt h0 h1
theorem oz143{y0 y1 y2:Nat}(h0:y0=(y1+1))(h1:y2=y0):y1≤y2:=by grind
theorem oz144{y0:Int}(h0:y0<9):y0<1000:=Int.lt_of_lt_of_le h0 (by decide)
theorem NJ{y0 y1:Nat}(h0:(y0+1)≤y1):y0≤y1:=Nat.le_of_lt h0
theorem oz146{y0 y1:Nat}(h0:(y0+1)≤y1):(y1:Int)≠(y0:Int):=by omega
theorem oz147{y0:Nat}:y0<(y0+1):=Nat.le_refl _
theorem NI{y0 y1:Nat}(h0:y0<y1):y0<(y1+1):=Nat.le_succ_of_le h0
theorem oz149{y0 y1:Nat}(h0:y0<y1):(y0:Int)≠(y1:Int):=by lia
theorem oz150{y0 y1 y2 y3:Nat}(h0:y0≤(y1+1))(h1:y1≤(y2+y3)):y0≤(y2+(y3+1)):=Nat.le_trans h0 (Nat.add_le_add_right h1 _)
theorem oz151{y0:Int}:((y0+1)+1)≤(y0+2):=by lia
theorem oz152{y0 y1 y2:Nat}(h0:y0<3)(h1:y1≤(y2+y0))(h2:y2≤10):y1≤1000:=Nat.le_trans h1 (Nat.le_trans (Nat.add_le_add h2 (Nat.le_of_lt h0)) (by decide))
theorem oz153{y0:Nat}(h0:(48+y0)=101)(h1:y0<3):False:=Nat.ne_of_lt (Nat.lt_of_lt_of_le (Nat.add_lt_add_left h1 48) (by decide)) h0
theorem oz154{y0 y1 y2:Int}(h0:y0≤(y1+10))(h1:y2≤(y0+10)):y2≤((y1+10)+10):=Int.le_trans h1 (Int.add_le_add_right h0 _)
theorem oz155{y0 y1:Nat}(h0:y0=0)(h1:y1≤(y0+3)):y1≤10:=by subst h0;exact Nat.le_trans h1 (by decide)
theorem oz156{y0 y1:Int}(h0:y0<(2^30))(h1:y1≤(y0+10)):y1<(2^38):=Int.lt_of_le_of_lt h1 (Int.lt_of_lt_of_le (Int.add_lt_add_right h0 _) (by decide))
theorem oz157{y0:Nat}(h0:y0≤4):y0≤5:=Nat.le_trans h0 (by decide)
theorem oz158{y0:Int}(h0:y0<(2^30)):y0<(2^38):=Int.lt_of_lt_of_le h0 (by decide)
theorem oz159{y0 y1:Int}(h0:y0≤((y1+10)+10)):y0≤(y1+20):=by lia
theorem oz160{y0:Int}:(y0+1)≤(y0+1):=by lia
theorem oz161{y0:Int}:((((y0+1)+1)+1)+1)≤(y0+4):=by lia
theorem oz162{y0:Int}(h0:y0<(2^39)):(((y0+1)+1)+1)<(2^40):=Int.lt_of_lt_of_le (Int.add_lt_add_right (Int.add_lt_add_right (Int.add_lt_add_right h0 1) 1) 1) (by decide)
theorem oz163{y0 y1:Nat}(h0:y0<y1):(min y0 y1)=y0:=Nat.min_eq_left (Nat.le_of_lt h0)
theorem oz164{y0 y1 y2:Nat}(h0:y0=(min y1 y2))(h1:y2≤30):y0≤999:=h0▸Nat.le_trans (Nat.min_le_right _ _) (Nat.le_trans h1 (by decide))
theorem oz165{y0 y1:Nat}(h0:y0<y1)(h1:y1≤30):(y0:Int)<(2^62):=Int.lt_trans (Int.ofNat_lt.2 (Nat.lt_of_lt_of_le h0 h1)) (by decide)
theorem oz166{y0 y1:Nat}(h0:y0<y1)(h1:y1≤30):y0<40:=Nat.le_trans h0 (Nat.le_trans h1 (by decide))
theorem oz167{y0 y1:Nat}:((y0+1)+y1)=(y0+(y1+1)):=by lia
theorem NH{y0:Nat}(h0:y0≤50):y0≤1000:=Nat.le_trans h0 (by decide)
theorem NG{y0:Nat}(h0:y0≤51):y0≤1000:=Nat.le_trans h0 (by decide)
theorem oz170{y0:Nat}(h0:y0≤51):y0<64:=Nat.lt_of_le_of_lt h0 (by decide)
theorem oz171{y0:Nat}(h0:y0≤50):y0≤51:=Nat.le_trans h0 (by decide)
theorem oz172{y0:Nat}(h0:y0≤50):(y0+1)≤51:=Nat.lt_of_le_of_lt h0 (by decide)
theorem NF{y0:Nat}(h0:y0≤500):y0≤1000:=Nat.le_trans h0 (by decide)
theorem ED{y0 y1 y2 y3 y4:Nat}(h0:y0<y1)(h1:y2=(y3+1))(h2:y4=(y2+1))(h3:y1=y3):y0≠y4:=Nat.ne_of_lt (Nat.lt_of_lt_of_le h0 (Nat.le_trans (Nat.le_of_eq h3) (Nat.le_trans (Nat.le_add_right y3 2) (Nat.le_of_eq (h2.trans (sC h1)).symm))))
theorem oz175{y0 y1 y2:Nat}(h0:y0=(y1+1))(h1:y2=(y0+1)):y2≠y1:=by lia
theorem NE{y0 y1:Nat}(h0:(y0+y1)≤50):y0≤1000:=Nat.le_trans (Nat.le_trans (Nat.le_add_right _ _) h0) (by decide)
theorem oz177{y0:Int}(h0:(0:Int)≤y0)(h1:y0<4):((y0=0)∨(((y0=1)∨(((y0=2)∨(y0=3)))))):=by lia
theorem ND{y0 y1:Nat}(h0:y0≤y1):y0≤y1:=by omega
theorem NC{y0 y1:Int}{y2:Nat}(h0:y0≤(y1+(y2:Int))):(y0+1)≤(y1+((y2:Int)+1)):=Int.le_trans (Int.add_le_add_right h0 1) (Int.le_of_eq (Int.add_assoc _ _ _))
theorem oz180{y0 y1:Nat}(h0:y0≤50)(h1:y1≤y0):y1≤1000:=Nat.le_trans h1 (Nat.le_trans h0 (by decide))
theorem oz181{y0 y1:Nat}(h0:y0≤y1):y0≤(y1+1):=Nat.le_succ_of_le h0
theorem oz182{y0 y1:Int}{y2:Nat}(h0:y0<(2^37))(h1:y1≤(y0+(y2:Int)))(h2:y2≤50):y1<(2^40):=Int.lt_of_le_of_lt h1 (Int.lt_of_lt_of_le (Int.add_lt_add_of_lt_of_le h0 (Int.ofNat_le.mpr h2)) (by decide))
theorem NB{y0 y1:Nat}(h0:(y0+y1)≤50):y0≤50:=Nat.le_trans (Nat.le_add_right _ _) h0
theorem oz184{y0 y1 y2:Nat}(h0:y0≤y1):y0≤(y1+y2):=by lia
theorem oz185{y0 y1:Nat}(h0:y0≤50)(h1:y1≤y0):y1≤500:=Nat.le_trans h1 (Nat.le_trans h0 (by decide))
theorem oz186{y0 y1:Int}{y2:Nat}(h0:y0<(2^37))(h1:y1≤(y0+(y2:Int)))(h2:y2≤50):y1<(2^38):=Int.lt_of_le_of_lt h1 (Int.lt_of_lt_of_le (Int.add_lt_add_of_lt_of_le h0 (Int.ofNat_le.mpr h2)) (by decide))
theorem oz187{y0 y1:Nat}(h0:y0≤50)(h1:y1≤y0):y1≤50:=Nat.le_trans h1 h0
theorem wS{y0 y1:Nat}(h0:y0=(y1+1)):y1<y0:=Nat.le_of_eq h0.symm
theorem oz189{y0 y1:Nat}(h0:(y0+y1)≤50):(y0+y1)≤1000:=Nat.le_trans h0 (by decide)
theorem oz190{y0 y1:Nat}(h0:(y0+y1)≤50):y1≤1000:=Nat.le_trans (Nat.le_trans (Nat.le_add_left _ _) h0) (by decide)
theorem oz191{y0 y1:Nat}(h0:(y0+y1)≤50):y0<64:=Nat.lt_of_le_of_lt (Nat.le_trans (Nat.le_add_right y0 y1) h0) (by decide)
theorem oz192{y0:Nat}(h0:y0≤10):y0≤30:=Nat.le_trans h0 (by decide)
theorem NA:(21:Nat)≤38:=Nat.le_add_left _ _
theorem oz194{y0 y1:Nat}(h0:y0=y1)(h1:y1≤10):(y0+1)≤100:=Nat.lt_of_le_of_lt (Nat.le_of_eq h0) (Nat.lt_of_le_of_lt h1 (by decide))
theorem M9{y0:Nat}(h0:y0≤10):y0<(2^31):=by grind
theorem oz196{y0:Nat}(h0:y0≤10):(y0:Int)<(2^31):=Int.lt_of_le_of_lt (Int.ofNat_le.2 h0) (by decide)
theorem oz197{y0 y1:Int}{y2:Nat}{y3:Int}(h0:y0≤(y1+(y2:Int)))(h1:y3≤(y0+1)):y3≤(y1+((y2:Int)+1)):=Int.le_trans h1 (Int.le_trans (Int.add_le_add_right h0 1) (Int.le_of_eq (Int.add_assoc _ _ _)))
theorem oz198:(21:Nat)≤39:=Nat.le_add_left _ _
theorem oz199{y0 y1:Int}{y2:Nat}(h0:y0<(2^35))(h1:y1≤(y0+(y2:Int)))(h2:y2≤60):y1<(2^39):=Int.lt_of_le_of_lt h1 (Int.lt_of_lt_of_le (Int.add_lt_add_of_lt_of_le h0 (Int.ofNat_le.mpr h2)) (by decide))
theorem M8{y0 y1:Nat}(h0:(y0+y1)≤60):y0≤60:=Nat.le_trans (Nat.le_add_right _ _) h0
theorem oz201{y0 y1:Int}{y2:Nat}(h0:y0<(2^35))(h1:y1≤(y0+(y2:Int)))(h2:y2≤60):y1<(2^36):=Int.lt_of_le_of_lt h1 (Int.lt_of_lt_of_le (Int.add_lt_add_of_lt_of_le h0 (Int.ofNat_le.mpr h2)) (by decide))
theorem oz202{y0 y1:Nat}(h0:y0≤10)(h1:y1≤6):(y0+y1)≤59:=Nat.le_trans (Nat.add_le_add h0 h1) (by decide)
theorem oz203{y0 y1:Nat}(h0:y0≤10)(h1:y1≤6):((y0+1)+y1)≤1000:=by lia
theorem oz204{y0:Nat}(h0:y0≤6):y0≤1000:=Nat.le_trans h0 (by decide)
theorem oz205{y0:Nat}(h0:y0≤10):(1+y0)≤1000:=by grind
theorem oz206{y0:Int}{y1:Nat}{y2 y3:Int}(h0:(y0+(4*(((y1+1):Nat):Int)))≤(y2+16))(h1:y3≤(y0+4)):(y3+(4*(y1:Int)))≤(y2+16):=Int.le_trans (Int.add_le_add_right h1 _) (Int.le_trans (Int.le_of_eq (by rw [Int.natCast_add,Int.mul_add,Int.add_assoc,Int.add_comm 4];rfl)) h0)
theorem oz207:(21:Nat)≤37:=Nat.le_add_left _ _
theorem oz208{y0:Nat}(h0:y0≤60):y0≤100:=Nat.le_trans h0 (by decide)
theorem oz209{y0:Int}{y1:Nat}{y2:Int}(h0:(y0+(4*(((y1+1):Nat):Int)))≤(y2+16))(h1:y2<(2^36)):y0<(2^39):=Int.lt_of_le_of_lt (Int.le_trans (Int.le_add_of_nonneg_right (Int.mul_nonneg (by decide) (Int.natCast_nonneg _))) h0) (Int.lt_of_lt_of_le (Int.add_lt_add_right h1 16) (by decide))
theorem oz210{y0 y1:Int}(h0:y0<(2^36))(h1:y1≤(y0+16)):y1<(2^37):=Int.lt_of_le_of_lt h1 (Int.lt_of_lt_of_le (Int.add_lt_add_right h0 _) (by decide))
theorem oz211{y0 y1:Nat}(h0:y0≤6)(h1:y1≤8):(y1+y0)≤50:=Nat.le_trans (Nat.add_le_add h1 h0) (by decide)
theorem EC{y0:Nat}(h0:y0≤8):y0≤8:=by omega
theorem oz213{y0 y1:Nat}(h0:y0≤4)(h1:y1≤4):(y0+y1)≤8:=Nat.le_trans (Nat.add_le_add h0 h1) (by decide)
theorem oz214{y0 y1 y2:Nat}(h0:y0≤(y1+y2))(h1:y2≤6)(h2:y1≤60):y0≤500:=Nat.le_trans h0 (Nat.le_trans (Nat.add_le_add h2 h1) (by decide))
theorem M7{y0 y1:Nat}(h0:(y0+y1)≤6):y0≤6:=Nat.le_trans (Nat.le_add_right _ _) h0
theorem oz216{y0 y1 y2:Nat}(h0:(y0*y0)≤(6*6))(h1:y1≤(y2+(y0*y0)))(h2:y2≤11):y1≤60:=Nat.le_trans h1 (Nat.le_trans (Nat.add_le_add h2 h0) (by decide))
theorem oz217{y0:Nat}(h0:y0≤11):y0≤100:=Nat.le_trans h0 (by decide)
theorem oz218{y0 y1 y2 y3 y4:Nat}(h0:y0≤(y1+(y2*y3)))(h1:y1≤(y4+y3)):y0≤(y4+((y2*y3)+y3)):=Nat.le_trans h0 (Nat.le_trans (Nat.add_le_add_right h1 _) (Nat.le_of_eq (by rw [Nat.add_assoc,Nat.add_comm y3])))
theorem oz219{y0 y1:Nat}:((y0+1)+y1)≤(y0+(y1+1)):=by lia
theorem oz220{y0 y1 y2:Nat}(h0:y0=(y1+3))(h1:y2=y0):y2=(y1+3):=h1.trans h0
theorem oz221{y0:Nat}(h0:y0≤8):y0≤997:=Nat.le_trans h0 (by decide)
theorem oz222{y0 y1:Nat}(h0:(y0+y1)≤8):y0≤8:=Nat.le_trans (Nat.le_add_right _ _) h0
theorem oz223{y0 y1:Nat}(h0:y0=(y1+3)):y1≤y0:=by lia
theorem oz224{y0 y1 y2 y3 y4:Nat}(h0:y0=(y1+1))(h1:y2=(y0+1))(h2:y3=(y2+1))(h3:y4=y3):y4=(y1+3):=by subst h0;subst h1;subst h2;subst h3;rfl
theorem M6{y0 y1 y2:Nat}(h0:y0=(y1+1))(h1:y2=(y0+1)):y2=(y1+2):=by subst h0;exact h1
theorem oz226{y0 y1 y2 y3 y4 y5 y6 y7:Nat}(h0:y0=(y1+1))(h1:y2=(y0+1))(h2:y3=(y2+1))(h3:y4=(y3+1))(h4:y5=(y4+1))(h5:y6=(y5+1))(h6:y7=(y6+1)):y7=(y1+7):=h6.trans (sC (h5.trans (sC (h4.trans (sC (h3.trans (sC (h2.trans (sC (h1.trans (sC h0)))))))))))
theorem oz227{y0 y1 y2 y3 y4 y5 y6:Nat}(h0:y0=(y1+1))(h1:y2=(y0+1))(h2:y3=(y2+1))(h3:y4=(y3+1))(h4:y5=(y4+1))(h5:y6=(y5+1)):y6=(y1+6):=h5.trans (sC (h4.trans (sC (h3.trans (sC (h2.trans (sC (h1.trans (sC h0)))))))))
theorem oz228{y0 y1 y2 y3 y4 y5:Nat}(h0:y0=(y1+1))(h1:y2=(y0+1))(h2:y3=(y2+1))(h3:y4=(y3+1))(h4:y5=(y4+1)):y5=(y1+5):=by subst h0;subst h1;subst h2;subst h3;subst h4;rfl
theorem oz229{y0 y1 y2 y3 y4:Nat}(h0:y0=(y1+1))(h1:y2=(y0+1))(h2:y3=(y2+1))(h3:y4=(y3+1)):y4=(y1+4):=by subst h0;subst h1;subst h2;subst h3;rfl
theorem oz230{y0 y1 y2 y3:Nat}(h0:y0=(y1+1))(h1:y2=(y0+1))(h2:y3=(y2+1)):y3=(y1+3):=by subst h0;subst h1;subst h2;rfl
theorem oz231{y0:Nat}(h0:y0≤63):y0≤100:=Nat.le_trans h0 (by decide)
theorem oz232:(0:Nat)<1:=Nat.le_refl _
theorem oz233{y0 y1 y2 y3:Nat}(h0:y0=(y1+1))(h1:y2=(y0+1))(h2:y1=(y3+4)):(y3+3)<y2:=Nat.lt_of_lt_of_le (Nat.add_lt_add_left (by decide:3<6) y3) (Nat.le_of_eq (h1.trans (sC (h0.trans (sC h2)))).symm)
theorem oz234{y0:Nat}:(min 60 y0)≤100:=Nat.le_trans (Nat.min_le_left _ _) (by decide)
theorem oz235{y0 y1 y2:Nat}(h0:y0=(y1+1))(h1:y1=(y2+4)):(y2+3)<y0:=Nat.lt_of_lt_of_le (Nat.add_lt_add_left (by decide:3<5) y2) (Nat.le_of_eq (h0.trans (sC h1)).symm)
theorem oz236{y0:Nat}:(min 60 y0)<4611686018427387904:=Nat.lt_of_le_of_lt (Nat.min_le_left _ _) (by decide)
theorem oz237{y0:Nat}(h0:y0≤6):y0≤100:=by grind
theorem oz238{y0 y1:Int}(h0:y0≤((y1+1)+30))(h1:y1≤(0+20)):y0<(2^35):=Int.lt_of_le_of_lt (Int.le_trans h0 (Int.add_le_add_right (Int.add_le_add_right h1 1) 30)) (by decide)
theorem oz239{y0 y1 y2 y3:Nat}(h0:y0=(y1+1))(h1:y2=y0)(h2:y3=y2):y1<y3:=Nat.lt_of_lt_of_le (Nat.lt_succ_self y1) (Nat.le_of_eq (h2.trans (h1.trans h0)).symm)
theorem oz240{y0 y1 y2 y3 y4:Nat}(h0:y0<y1)(h1:y2=(y1+1))(h2:y3=(y2+1))(h3:y4=y3):y0<y4:=Nat.lt_of_lt_of_le h0 (Nat.le_trans (Nat.le_add_right y1 2) (Nat.le_of_eq (h3.trans (h2.trans (sC h1))).symm))
theorem M5{y0 y1 y2 y3 y4 y5 y6 y7 y8 y9:Nat}(h0:y0<y1)(h1:y1<y2)(h2:y2<y3)(h3:y3<y4)(h4:y4<y5)(h5:y0=((y6+1)+7))(h6:y7=(y5+1))(h7:y8=(y7+1))(h8:y9=y8):y9≠y6:=Nat.ne_of_gt (Nat.lt_of_lt_of_le (Nat.lt_of_lt_of_le (Nat.lt_add_of_pos_right (n:=y6) (k:=8) (by decide)) (Nat.le_trans (Nat.le_of_eq h5.symm) (Nat.le_of_lt (Nat.lt_trans h0 (Nat.lt_trans h1 (Nat.lt_trans h2 (Nat.lt_trans h3 h4))))))) (Nat.le_trans (Nat.le_add_right y5 2) (Nat.le_of_eq (h8.trans (h7.trans (sC h6))).symm)))
theorem oz242{y0:Int}(h0:y0≤(0+20)):(y0+1)<(2^38):=Int.lt_of_le_of_lt (Int.add_le_add_right h0 1) (by decide)
theorem oz243{y0:Int}(h0:y0≤(0+20)):y0<(2^40):=Int.lt_of_le_of_lt h0 (by decide)
theorem oz244{y0:Nat}(h0:y0≤8):y0≤998:=Nat.le_trans h0 (by decide)
theorem oz245{y0:Nat}(h0:y0≤8):y0<64:=Nat.lt_of_le_of_lt h0 (by decide)
theorem oz246{y0 y1 y2 y3:Nat}(h0:y0=(y1+1))(h1:y2=y0)(h2:y3=y1):y2=(y3+1):=by subst h0;subst h1;subst h2;rfl
theorem oz247{y0:Nat}:(min 60 y0)≤1000:=Nat.le_trans (Nat.min_le_left _ _) (by decide)
theorem oz248{y0:Nat}:(min 60 y0)≤60:=Nat.min_le_left _ _
theorem M4{y0 y1:Nat}(h0:y0≤6)(h1:y1≤y0):y1<1000:=Nat.lt_of_le_of_lt h1 (Nat.lt_of_le_of_lt h0 (by decide))
theorem oz250{y0 y1 y2 y3 y4:Nat}(h0:y0=y1)(h1:y2=y0)(h2:y3=y2)(h3:y4=y3):y4=y1:=by subst h0;subst h1;subst h2;subst h3;rfl
theorem M3{y0 y1:Nat}(h0:y0≤6)(h1:y1≤y0):y1≤1000:=Nat.le_trans h1 (Nat.le_trans h0 (by decide))
theorem oz252{y0:Nat}(h0:(21:Nat)≤y0):(((3*6)+3):Nat)≤y0:=by omega
theorem M2{y0 y1:Nat}(h0:((3*(y0+1))+3)≤(y1+3)):((3*y0)+3)≤y1:=Nat.le_of_add_le_add_right h0
theorem M1{y0 y1 y2:Nat}(h0:y0<y1)(h1:y1≤(y2+1)):y0≤y2:=by lia
theorem oz255{y0 y1:Nat}(h0:((3*(y0+1))+3)≤y1):y1=((y1 - 3)+3):=(Nat.sub_add_cancel (Nat.le_trans (Nat.le_add_left _ _) h0)).symm
theorem oz256{y0:Nat}(h0:(((3*0)+3):Nat)≤y0):y0=((y0 - 3)+3):=(Nat.sub_add_cancel h0).symm
theorem M0{y0 y1 y2:Nat}(h0:y0<y1)(h1:y1≤y2):y0<y2:=Nat.le_trans h0 h1
theorem oz258{y0 y1 y2 y3 y4:Nat}(h0:((y0+(y1+1))+(y2*y3))≤200)(h1:y4≤(y0+1)):((y4+y1)+(y2*y3))≤200:=Nat.le_trans (Nat.add_le_add_right (Nat.le_trans (Nat.add_le_add_right h1 y1) (Nat.le_of_eq (Nat.add_right_comm y0 1 y1))) _) h0
theorem oz259{y0 y1 y2:Nat}(h0:y0=(y1+1))(h1:y2=y0):y2=(y1+1):=h1.trans h0
theorem oz260{y0 y1 y2 y3:Nat}(h0:((y0+(y1+1))+(y2*y3))≤200):y0≤900:=Nat.le_trans (Nat.le_of_add_right_le (Nat.le_of_add_right_le h0)) (by decide)
theorem oz261{y0 y1 y2 y3:Nat}(h0:(y0*y1)=((y2*y1)+y1))(h1:(y3+(y0*y1))≤200):((y3+y1)+(y2*y1))≤200:=Nat.le_trans (Nat.le_of_eq (by rw [Nat.add_assoc,Nat.add_comm y1,←h0])) h1
theorem MZ{y0 y1:Nat}(h0:y0≠y1):¬(y0=y1):=by omega
theorem MY{y0 y1:Nat}(h0:y0=(y1+1)):y1≤y0:=h0▸Nat.le_succ y1
theorem oz264{y0 y1:Nat}(h0:(y0*y0)≤(6*6))(h1:y1≤100):(y1+(y0*y0))≤200:=Nat.le_trans (Nat.add_le_add h1 h0) (by decide)
theorem oz265{y0:Nat}(h0:y0≤6):(y0:Int)<(2^31):=Int.lt_of_le_of_lt (Int.ofNat_le.2 h0) (by decide)
theorem oz266{y0:Nat}(h0:y0≤900):y0≤1000:=Nat.le_trans h0 (by decide)
theorem oz267{y0 y1:Nat}(h0:(y0+(y1+1))≤1000):y0≤1000:=Nat.le_trans (Nat.le_add_right _ _) h0
end
local macro_rules | `(tactic|walk_at "mem")=>`(tactic|first|(with_reducible exact List.mem_cons_self ..)|exact List.mem_cons_of_mem _ (by walk_at "mem"))
local macro_rules | `(tactic|walk_at "lk")=>`(tactic|first|(with_reducible exact lk0)|((with_reducible refine' lk1 ?hn ?hl);(case hn=>kernel_rfl);(case hl=>walk_at "lk"))|((refine' EnvM.at (by assumption) ?hm);(case hm=>walk_at "mem")))
section variable {H:Hp} {at_:Int} {cs:TL} {lc ls:Nat}
structure Src (H:Hp) (ls lc:Nat) (cs:TL) (at_:Int):Prop where
 s:H[ls]?=some (.list [.loc lc,.int at_])
 c:H[lc]?=some (.list cs)
 ne:cs≠[]
 iv:∀v∈cs,∃i,v= .int i
 sz:cs.length≤100
 lo:0≤at_
theorem Src.nel(h:Src H ls lc cs at_):lc≠ls:=λq=>by
 have h1:=h.s;have h2:=h.c
 rw [q,h1] at h2;cases h2
 refine oE (h.iv (.loc lc) k0) λi hi=>?_;cases hi
theorem Src.ext{H':Hp}{S:List Nat}(h:Src H ls lc cs at_)(e:Ext S H H')(h1:ls∉S)(h2:lc∉S):Src H' ls lc cs at_:=⟨e.2 _ _ h.s h1,e.2 _ _ h.c h2,h.ne,h.iv,h.sz,h.lo⟩
theorem b8{p:Params}{d:Nat}{lim:Int}(h:Src H ls lc cs at_)(ha:at_<2^40)(hl:0<lim):
  Rs (λv H'=>∃i,v= .int i∧0≤i∧i<lim∧H'.length=H.length∧Ext [ls] H H'∧Src H' ls lc cs (at_+1)) (λU U=>False) (aB (KK p) (d+1) 519 [.loc ls,.int lim] H):=by
 refine bD E_519 ?_
 have hpos:0<cs.length:=List.length_pos_iff.mpr h.ne
 have hsz:=h.sz
 have hlo:=h.lo
 refine aA (oZ h.s (by decide) (by decide) rfl) ?_
 refine aA (oZ h.s (by decide) (by decide) rfl) ?_
 refine bA jN ?_
 refine OP h.s (by decide) (by decide) (Nat.le_refl _) λH' hn hx hs=>?_
 have h2:H'[lc]?=some (.list cs):=hx.2 _ _ h.c (by simp [h.nel])
 refine bA (kG h2 (EB hsz)) ?_
 refine bA (mod_ (yO hpos)) ?_
 have h3:=Int.emod_nonneg at_ (show (cs.length:Int)≠0 by exact oz37 hpos)
 have h4:=Int.emod_lt_of_pos at_ (show 0<(cs.length:Int) by exact yO hpos)
 have h5:(at_ % (cs.length:Int)).toNat<cs.length:=(oz36 h4 h3)
 refine oE (h.iv cs[(at_ % (cs.length:Int)).toNat] (List.getElem_mem h5)) λi hi=>?_
 refine aA (oZ h2 h3 (oz35 h4 hsz) (by rw [List.getElem?_eq_getElem h5,hi])) ?_
 refine bA (kG h2 (EB hsz)) ?_
 refine bA (div_ (yO hpos) (oz32 hsz)) ?_
 have h6:0≤at_ / (cs.length:Int):=Int.ediv_nonneg h.lo (TA)
 have h7:at_ / (cs.length:Int)≤at_:=Int.ediv_le_self _ h.lo
 refine bA (T1 (by omega) (by omega)) ?_
 refine bA jN ?_
 refine bA (mod_ hl) ?_
 exact (lU _ rfl (Int.emod_nonneg _ (oz30 hl)) (Int.emod_lt_of_pos _ hl) hn ⟨hx,⟨hs,h2,h.ne,h.iv,h.sz,by exact oz29 hlo⟩⟩)
end
section variable {H:Hp} {key:Key} {es:TG} {ep l:Nat} {x y:Str} {k:V}
section variable {k:TK} {H:Hp} {lc:Lc} {turn:V→Lc→Hp→(TK)→Res}
variable {P:TP} {X:TX}
theorem gV {l:Nat} {vs:TL} (I:TL→Lc→Hp→Prop) (h:H[l]?=some (.list vs)) (hI:∀r lc H,I r lc H→H[l]?=some (.list vs)) (i0:I vs lc H)
  (done:∀lc H,I [] lc H→Rs P X (k .next lc H))
  (step:∀v r lc H (j:TK),I (v::r) lc H→(∀lc' H',I r lc' H'→Rs P X (j .next lc' H'))→(∀lc' H',I r lc' H'→Rs P X (j .cont lc' H'))→(∀u lc' H',j (.ret u) lc' H'=k (.ret u) lc' H')→Rs P X (turn v lc H j)):Rs P X (fS H (.loc l) lc turn k):=by
 unfold fS
 exact aA (FD h) (qG I (λr lc H i=>sameAt_is.mpr (hI r lc H i)) done step vs lc H i0)
theorem yH {l:Nat} {es:TG} {ep:Nat} (I:TL→Lc→Hp→Prop) (h:H[l]?=some (.dict es ep)) (ha:cS es=true) (hI:∀r lc H,I r lc H→H[l]?=some (.dict es ep)) (i0:I (es.map λ(e:Key×V)=>iZ e.1) lc H)
  (done:∀lc H,I [] lc H→Rs P X (k .next lc H))
  (step:∀v r lc H (j:TK),I (v::r) lc H→(∀lc' H',I r lc' H'→Rs P X (j .next lc' H'))→(∀lc' H',I r lc' H'→Rs P X (j .cont lc' H'))→(∀u lc' H',j (.ret u) lc' H'=k (.ret u) lc' H')→Rs P X (turn v lc H j)):Rs P X (fS H (.loc l) lc turn k):=by
 unfold fS
 exact aA (FF h ha) (qG I (λr lc H i=>sameAt_is.mpr (hI r lc H i)) done step _ lc H i0)
theorem lO {a:V} {vs:TL} (I:TL→Lc→Hp→Prop) (h:dQ H a=some (vs,λU=>true)) (i0:I vs lc H)
  (done:∀lc H,I [] lc H→Rs P X (k .next lc H))
  (step:∀v r lc H (j:TK),I (v::r) lc H→(∀lc' H',I r lc' H'→Rs P X (j .next lc' H'))→(∀lc' H',I r lc' H'→Rs P X (j .cont lc' H'))→(∀u lc' H',j (.ret u) lc' H'=k (.ret u) lc' H')→Rs P X (turn v lc H j)):Rs P X (fS H a lc turn k):=by
 unfold fS
 exact aA h (qG I (λr lc H i=>rfl) done step _ lc H i0)
end
theorem dT{v:V}(h:H[l]?=some (.dict es ep))(hk:iA k=some key)(ho:cA key es=true)(hf:aP key es=some v):getItem H (.loc l) k=some v:=by
 exact (yP h).trans ((kR hk).trans ((if_pos ho).trans hf))
theorem rA(h:H[l]?=some (.dict es ep))(hk:iA k=some key)(ho:cA key es=true):cmp H .In k (.loc l)=some (aP key es).isSome:=by
 exact (yP h).trans ((kR hk).trans (if_pos ho))
theorem hZ(h:H[l]?=some (.dict es ep))(hk:iA k=some key)(ho:cA key es=true):cmp H .NotIn k (.loc l)=some (!(aP key es).isSome):=by
 show (xH H k (.loc l)).map (!·)=_
 rw [show xH H k (.loc l)=some (aP key es).isSome from rA h hk ho];rfl
theorem aI(h:cS es=true)(x:Str):cA (.s x) es=true:=by
 unfold cS at h;unfold cA
 refine List.all_eq_true.mpr λe he=>?_
 rw [List.all_eq_true.mp h e he];rfl
theorem nA(h:cS es=true)(x:Str)(v:V):cS (cP (.s x) v es)=true:=by
 induction es with
 |nil=>rfl
 |cons a r ih=>
  obtain ⟨k,u⟩:=a
  unfold cS at h
  rw [List.all_cons,Bool.and_eq_true] at h
  unfold cP
  split
  ·unfold cS;rw [List.all_cons,h.2,Bool.and_true];exact h.1
  ·have:=ih h.2
   unfold cS at this ⊢
   rw [List.all_cons,this,Bool.and_true];exact h.1
theorem d8(es:TG)(k:Key)(v:V):aP k (cP k v es)=some v:=by
 induction es with
 |nil=>unfold cP aP;rw [if_pos rfl]
 |cons a r ih=>
  obtain ⟨k',u⟩:=a
  unfold cP
  split
  ·rename_i h;unfold aP;rw [if_pos h]
  ·rename_i h;unfold aP;rw [if_neg h];exact ih
theorem iB(es:TG){k k':Key}(v:V)(hn:k'≠k):aP k' (cP k v es)=aP k' es:=by
 induction es with
 |nil=>unfold cP aP;rw [if_neg (Ne.symm hn)];rfl
 |cons a r ih=>
  obtain ⟨k2,u⟩:=a
  unfold cP
  split
  ·rename_i h;subst h;unfold aP;rw [if_neg (Ne.symm hn),if_neg (Ne.symm hn)]
  ·unfold aP;rw [ih]
theorem EX(x:Str)(l:TS):w0 x (l.map .str)=some (decide (x∈l)):=by
 induction l with
 |nil=>rfl
 |cons y r ih=>
  show (some (y==x)).bind (λh=>(w0 x (r.map .str)).map λm=>h || m)=_
  rw [ih]
  show some ((y==x) || decide (x∈r))=_
  congr 1
  by_cases e:y=x
  ·subst e;simp
  ·rw [beq_false_of_ne e];simp [Ne.symm e]
theorem FJ{xs:TS}(h:H[l]?=some (.list (xs.map .str))):cmp H .In (.str x) (.loc l)=some (decide (x∈xs)):=by
 exact (wT h).trans (EX x xs)
theorem LD{xs:TS}(h:H[l]?=some (.list (xs.map .str))):cmp H .NotIn (.str x) (.loc l)=some (!decide (x∈xs)):=by
 show (xH H (.str x) (.loc l)).map (!·)=_
 rw [show xH H (.str x) (.loc l)=some (decide (x∈xs)) from FJ h];rfl
theorem uV:cmp H .Eq (.str x) (.str y)=some (x==y):=rfl
theorem fP:cmp H .NotEq (.str x) (.str y)=some (!(x==y)):=rfl
theorem F4{x y:Int}:cmp H .Eq (.int x) (.int y)=some (x==y):=rfl
theorem neI_{x y:Int}:cmp H .NotEq (.int x) (.int y)=some (!(x==y)):=rfl
theorem G5{P:TP}{X:TX}{a b:V}{j:V→V→Res}(h:Rs P X (j a b)):Rs P X (DF (.tup [a,b]) j):=h
theorem GO(h:x.length+y.length≤1000):bH H .Add (.str x) (.str y)=some (.str (x++y),H):=by
 show (if x.length+y.length≤1000 then some (V.str (x++y),H) else none)=_
 rw [if_pos h]
end
section variable {F:FN} {G:GD} {H:Hp} {d:Nat} {p:Params} {pl:Pl}
abbrev Pl:=List (Str×(Str×Int))
structure GD where
 lt:Nat
 ld:Nat
 pt:Nat
 pd:Nat
 est:TG
 esd:TG
 eo:TG
 el:TG
noncomputable def BD(pl:Pl)(eo el:TG)(t:Str)(es:TG):Prop:=∀x,(aP (.s x) es=none∧∀o,pl.lookup x≠some (t,o))∨
 ∃k o,aP (.s x) es=some (.tup [.int k,.int 0])∧pl.lookup x=some (t,o)∧(aP (.p t k) eo=some (.int o)∨aP (.p t k) eo=none∧aP (.s t) el=some (.int o))
structure Geo (F:FN) (G:GD) (pl:Pl) (H:Hp):Prop where
 nm:H[F.P.nm]?=some (.list [.str aE,.str aJ])
 se:∃ep,H[F.P.se]?=some (.dict [(.s aE,bL (.str aE) (.loc G.pt) (.loc G.lt)),(.s aJ,bL (.str aJ) (.loc G.pd) (.loc G.ld))] ep)
 lt:∃ep,H[G.lt]?=some (.dict G.est ep)
 ld:∃ep,H[G.ld]?=some (.dict G.esd ep)
 off:∃ep,H[F.L.off]?=some (.dict G.eo ep)
 ln:∃ep,H[F.L.ln]?=some (.dict G.el ep)
 at_:cS G.est=true
 ad:cS G.esd=true
 ao:G.eo.all (λe=>!e.1.isS)=true
 al:cS G.el=true
 okt:BD pl G.eo G.el aE G.est
 okd:BD pl G.eo G.el aJ G.esd
 dom:∀x t o,pl.lookup x=some (t,o)→t=aE∨t=aJ
theorem Geo.ext{H':Hp}{S:List Nat}(g:Geo F G pl H)(e:Ext S H H')(hs:∀l∈[F.P.nm,F.P.se,G.lt,G.ld,F.L.off,F.L.ln],l∉S):Geo F G pl H':=by
 refine oE g.se λe1 h1=>?_
 refine oE g.lt λe2 h2=>?_
 refine oE g.ld λe3 h3=>?_
 refine oE g.off λe4 h4=>?_
 refine oE g.ln λe5 h5=>?_
 exact {nm:=e.2 _ _ g.nm (hs _ k0),se:=⟨e1,e.2 _ _ h1 (hs _ k1)⟩,lt:=⟨e2,e.2 _ _ h2 (hs _ k2)⟩,ld:=⟨e3,e.2 _ _ h3 (hs _ k3)⟩,off:=⟨e4,e.2 _ _ h4 (hs _ k4)⟩,ln:=⟨e5,e.2 _ _ h5 (hs _ k5)⟩,at_:=g.at_,ad:=g.ad,ao:=g.ao,al:=g.al,okt:=g.okt,okd:=g.okd,dom:=g.dom}
theorem uE{es:TG}(h:es.all (λe=>!e.1.isS)=true)(t:Str)(k:Int):cA (.p t k) es=true:=by
 unfold cA
 refine List.all_eq_true.mpr λe he=>?_
 have:=List.all_eq_true.mp h e he
 show (e.1.isS==false)=true
 cases q:e.1.isS with
 |true=>rw [q] at this;cases this
 |false=>rfl
theorem yN {L:LY} {eo el:TG} {e1 e2:Nat} {t:Str} {k o:Int} (ho:H[L.off]?=some (.dict eo e1)) (hl:H[L.ln]?=some (.dict el e2)) (ao:eo.all (λe=>!e.1.isS)=true) (al:cS el=true)
  (h:aP (.p t k) eo=some (.int o)∨aP (.p t k) eo=none∧aP (.s t) el=some (.int o)):
  Rs (λv H'=>v= .int o∧H'=H) (λU U=>False) (aB (KK p) (d+1) 483 [iM L,.str t,.int k] H):=by
 refine bD E_483 ?_
 refine bJ (λv H'=>v= .int o∧H'=H) (λv H' q=>q) λk' hk=>?_
 refine aA (rA (key:= .p t k) ho rfl (uE ao t k)) ?_
 rcases h with h|⟨h1,h2⟩
 ·refine r_t (by rw [h];rfl) ?_
  exact aA (dT ho rfl (uE ao t k) h) (hk _ _ ⟨rfl,rfl⟩)
 ·refine r_f (by rw [h1];rfl) ?_
  exact aA (dT hl rfl (aI al t) h2) (hk _ _ ⟨rfl,rfl⟩)
noncomputable def qW(pl:Pl)(x:Str):V:=match pl.lookup x with
 |some (t,o)=>fU (.str t) (.int o) (.str x)
 |none=> .none
theorem qU {x t:Str} {lc:Lc} {es:TG} {lb pc:Nat} {P:TP} {X:TX} {j:TK} (g:Geo F G pl H) (E:EnvM lc [(aQ,.str x),(eC,aU F)])
  (hs:getItem H (.loc F.P.se) (.str t)=some (bL (.str t) (.loc pc) (.loc lb))) (hb:∃ep,H[lb]?=some (.dict es ep)) (ha:cS es=true) (hl:BD pl G.eo G.el t es)
  (hj:∀lc',EnvM lc' [(aQ,.str x),(eC,aU F)]→(∀o,pl.lookup x≠some (t,o))→Rs P X (j .next lc' H)) (hr:∀lc' o,pl.lookup x=some (t,o)→Rs P X (j (.ret (fU (.str t) (.int o) (.str x))) lc' H)):
  Rs P X (wF p (aB (KK p) (d+1)) (.str t) lc H j):=by
 refine oE hb λep hb=>?_
 refine aA (by walk_at "lk") ?_
 refine bD nJ (bD dN ?_)
 refine aA hs ?_
 refine bD iG ?_
 refine aA (by walk_at "lk") ?_
 refine aA (rA (key:= .s x) hb rfl (aI ha x)) ?_
 rcases hl x with ⟨h1,h2⟩|⟨k,o,h1,h2,h3⟩
 ·refine r_f (by rw [h1];rfl) ?_
  exact hj _ ((E.put (by kernel_rfl)).put (by kernel_rfl)) h2
 ·refine r_t (by rw [h1];rfl) ?_
  refine aA (by walk_at "lk") ?_
  refine aA (dT (key:= .s x) hb rfl (aI ha x) h1) ?_
  refine G5 ?_
  refine aA (by walk_at "lk") ?_
  refine bD oK ?_
  refine bJ (λv H'=>v= .int o∧H'=H) ?_ λk' hk=>?_
  ·intro v H';refine qA λz1 z2=>?_;subst z1 z2
   refine bA jN ?_
   refine aA (by walk_at "lk") ?_
   rw [Int.add_zero]
   exact hr _ o h2
  ·refine bD pJ ?_
   refine oE g.off λe1 ho=>?_
   refine oE g.ln λe2 hl=>?_
   refine aZ (yN ho hl g.ao g.al h3) (λv H' q=>hk _ _ q) λc H' q=>q.elim
theorem qV{x:Str}(g:Geo F G pl H):
  Rs (λv H'=>v=qW pl x∧H'=H) (λU U=>False) (aB (KK p) (d+2) 171 [aU F,.str x] H):=by
 refine bD E_171 ?_
 refine gV (λr lc H'=>H'=H∧EnvM lc [(aQ,.str x),(eC,aU F)]∧(∀u∈r,u=V.str aE∨u=V.str aJ)∧∀t o,pl.lookup x=some (t,o)→V.str t∈r) g.nm (λr lc H' i=>by rw [i.1];exact g.nm) ?_ ?_ ?_
 ·refine (cJ rfl (EnvM.cons (by walk_at "lk") (EnvM.cons (by walk_at "lk") EnvM.nil)) (by simp) (λ t o q=>?_))
  rcases g.dom x t o q with rfl|rfl<;>(first|exact k0|exact k1)
 ·intro lc H';refine j4 λz1 E U h=>?_;subst z1
  refine ⟨?_,rfl⟩
  unfold qW
  cases q:pl.lookup x with
  |none=>rfl
  |some u=>obtain ⟨t,o⟩:=u;cases h t o q
 ·intro v r lc H' j;refine j4 λz1 E h1 h2=>?_;subst z1;intro hj hc hr
  refine oE g.se λep hse=>?_
  have next:∀t,v= .str t→∀lc',EnvM lc' [(aQ,.str x),(eC,aU F)]→(∀o,pl.lookup x≠some (t,o))→Rs (λv H''=>v=qW pl x∧H''=H') (λU U=>False) (j .next lc' H'):=λt hv lc' E' hn=>by
   refine hj lc' H' (cJ rfl E' (λu hu=>h1 u (List.mem_cons_of_mem _ hu)) (λt' o q=>?_))
   rcases List.mem_cons.mp (h2 t' o q) with e|e
   ·rw [hv] at e;cases e;exact absurd q (hn o)
   ·exact e
  have ret:∀t,∀lc' o,pl.lookup x=some (t,o)→Rs (λv H''=>v=qW pl x∧H''=H') (λU U=>False) (j (.ret (fU (.str t) (.int o) (.str x))) lc' H'):=λt lc' o q=>by
   rw [hr]
   exact ⟨by unfold qW;rw [q],rfl⟩
  rcases h1 v (List.mem_cons_self ..) with rfl|rfl
  ·exact qU (pc:=G.pt) g E (dT (key:= .s aE) hse rfl (by kernel_rfl) (by kernel_rfl)) g.lt g.at_ g.okt (next _ rfl) (ret _)
  ·exact qU (pc:=G.pd) g E (dT (key:= .s aJ) hse rfl (by kernel_rfl) (by kernel_rfl)) g.ld g.ad g.okd (next _ rfl) (ret _)
end
section
abbrev Ent:=Str×Int×Str
abbrev TT:=Tab (Option Ent)
noncomputable def bP(T:TT)(x:Str):Option Ent:=match T.lookup x with
 |some v=>v
 |none=>none
noncomputable def cC(r:Row)(T:TT):Option Ent:=match bP T r.plus,bP T r.minus with
 |some a,some b=>if r.minus=S_ then some (a.1,a.2.1+r.worth,a.2.2) else if a.1=b.1∧a.2.2=b.2.2 then some (d5,a.2.1 - b.2.1+r.worth,S_) else none
 |_,_=>none
noncomputable def Dm(rows:List Row)(T:TT)(x:Str):Prop:=has T x=true∨∃r∈rows,r.name=x
structure FinW (rows:List Row) (pl:Pl) (T:TT):Prop where
 ty:T.lookup S_=some (some (d5,0,S_))
 lab:∀x t o,pl.lookup x=some (t,o)→x≠S_∧t≠S_∧T.lookup x=some (some (t,o,S_))
 opn:∀x,x≠S_→pl.lookup x=none→(∀r∈rows,r.name≠x)→has T x=true→T.lookup x=some (some (S_,0,x))
 row:∀r∈rows,r.name≠S_∧pl.lookup r.name=none
 fil:∀r∈rows,has T r.name=true→T.lookup r.name=some (cC r T)∧has T r.plus=true∧has T r.minus=true∧rk T r.plus<rk T r.name∧rk T r.minus<rk T r.name
 clo:rV rows T
 dep:∀r∈rows,Dm rows T r.plus∧Dm rows T r.minus
 sz:rows.length≤6
theorem FinW.tell_row{rows:List Row}{pl:Pl}{T:TT}(w:FinW rows pl T){r:Row}(hr:r∈rows):bP T r.name=cC r T:=by
 cases h:has T r.name with
 |true=>unfold bP;rw [(w.fil r hr h).1]
 |false=>
  have e:bP T r.name=none:=by
   unfold bP
   unfold has at h
   cases q:T.lookup r.name with
   |none=>rfl
   |some v=>rw [q] at h;cases h
  rw [e]
  have c:=w.clo r hr
  unfold cC
  cases a:bP T r.plus with
  |none=>rfl
  |some u=>
   cases b:bP T r.minus with
   |none=>rfl
   |some v=>
    have up:∀{x:Str} {u:Ent},bP T x=some u→has T x=true:=fun {x u} q=>by
     unfold bP at q
     unfold has
     cases z:T.lookup x with
     |none=>rw [z] at q;cases q
     |some v=>rfl
    rw [c (up a) (up b)] at h;cases h
noncomputable def mB(e:Ent)(v:V):Prop:=∃n,v=fU (.str e.1) (.int e.2.1) (.str n)∧(e.1=S_→n=e.2.2)∧(e.1≠S_→e.2.2=S_)
theorem EK{e:Ent}{n:Str}(k:Int)(h:(e.1=S_→n=e.2.2)∧(e.1≠S_→e.2.2=S_)):mB (e.1,e.2.1+k,e.2.2) (fU (.str e.1) (.int (e.2.1+k)) (.str n)):=(iEA n rfl h)
noncomputable def mA(r:Row):V:=aK (.int r.worth) (.str r.plus) (.str r.minus)
noncomputable def EqOk(rows:List Row)(es:TG):Prop:=(∀r∈rows,aP (.s r.name) es=some (mA r))∧∀x,(∀r∈rows,r.name≠x)→aP (.s x) es=none
noncomputable def KnOk(rows:List Row)(T:TT)(es:TG):Prop:=(es.map (·.1)).Nodup∧(∀k∈es.map (·.1),k∈rows.map λr=>Key.s r.name)∧∀x v,aP (.s x) es=some v→∃e,bP T x=some e∧mB e v
structure FS (F:FN) (G:GD) (pl:Pl) (rows:List Row) (T:TT) (H:Hp) (fol:TS):Prop where
 geo:Geo F G pl H
 eqs:∃es ep,H[F.P.eq]?=some (.dict es ep)∧cS es=true∧EqOk rows es
 fl:H[F.fl]?=some (.list (fol.map .str))
 kn:∃es ep,H[F.kn]?=some (.dict es ep)∧cS es=true∧KnOk rows T es
 nd:fol.Nodup
 sub:∀x∈fol,x∈rows.map (·.name)
 s1:∀l∈[F.P.nm,F.P.se,G.lt,G.ld,F.L.off,F.L.ln,F.P.eq],l≠F.kn∧l≠F.fl
 s2:F.kn≠F.fl
theorem iV{α:Type}[BEq α][LawfulBEq α]:∀{l m:List α},l.Nodup→(∀a∈l,a∈m)→l.length≤m.length
 |[],m,_,_=>Nat.zero_le _
 |a::l,m,h,hs=>by
  rw [List.nodup_cons] at h
  have ha:=hs a (List.mem_cons_self ..)
  have:=iV (l:=l) (m:=m.erase a) h.2 λb hb=>(List.mem_erase_of_ne λq=>h.1 (by rw [←q];exact hb)).mpr (hs b (List.mem_cons_of_mem _ hb))
  rw [List.length_erase_of_mem ha] at this
  exact Nat.le_trans (Nat.succ_le_succ this) (Nat.le_of_eq (Nat.sub_add_cancel (List.length_pos_of_mem ha)))
section
variable {F:FN} {G:GD} {pl:Pl} {rows:List Row} {T:TT} {H H':Hp} {fol fol':TS}
theorem FS.toFl(s:FS F G pl rows T H fol)(e:Ext [F.fl] H H')(h:H'[F.fl]?=some (.list (fol'.map .str)))(nd:fol'.Nodup)(sub:∀x∈fol',x∈rows.map (·.name)):FS F G pl rows T H' fol':=by
 refine cX s.eqs λes ep h1 h2=>?_
 refine cX s.kn λks kp h3 h4=>?_
 have a:=s.s1
 exact {geo:=s.geo.ext e λl hl q=>(a l (List.mem_append_left [F.P.eq] hl)).2 (by simpa using q),eqs:=(dS es ep (e.2 _ _ h1 λq=>(a F.P.eq k6).2 (by simpa using q)) h2),fl:=h,kn:=(dS ks kp (e.2 _ _ h3 λq=>s.s2 (by simpa using q)) h4),nd,sub,s1:=a,s2:=s.s2}
theorem FS.toKn{ks:TG}{kp:Nat}(s:FS F G pl rows T H fol)(e:Ext [F.kn] H H')(h:H'[F.kn]?=some (.dict ks kp))(ha:cS ks=true)(hk:KnOk rows T ks):FS F G pl rows T H' fol:=by
 refine cX s.eqs λes ep h1 h2=>?_
 have a:=s.s1
 exact {geo:=s.geo.ext e λl hl q=>(a l (List.mem_append_left [F.P.eq] hl)).1 (by simpa using q),eqs:=(dS es ep (e.2 _ _ h1 λq=>(a F.P.eq k6).1 (by simpa using q)) h2),fl:=e.2 _ _ s.fl λq=>s.s2 (List.mem_singleton.mp q).symm,kn:=(eW ks kp h ha hk),nd:=s.nd,sub:=s.sub,s1:=a,s2:=s.s2}
theorem FS.flen(s:FS F G pl rows T H fol):fol.length≤rows.length:=by
 have:=iV s.nd s.sub
 simpa using this
theorem KnOk.len{es:TG}(h:KnOk rows T es):es.length≤rows.length:=by
 have:=iV h.1 h.2.1
 simpa using this
theorem KnOk.put{es:TG}(h:KnOk rows T es){r:Row}(hr:r∈rows){v:V}{e:Ent}(ht:bP T r.name=some e)(hv:mB e v):KnOk rows T (cP (.s r.name) v es):=by
 refine (iAA ?_ ?_ (λx u hu=>?_))
 ·rw [fG]
  split
  ·exact h.1
  ·rename_i hn
   refine List.nodup_append.mpr (iAA h.1 ndo (λa ha b hb q=>?_))
   subst q
   rw [List.mem_singleton] at hb
   subst hb
   exact hn (by assumption)
 ·intro k hk
  rw [fG] at hk
  split at hk
  ·exact h.2.1 k hk
  ·rcases List.mem_append.mp hk with hk|hk
   ·exact h.2.1 k hk
   ·rw [List.mem_singleton] at hk;subst hk;exact List.mem_map.mpr (iEA r hr rfl)
 ·by_cases q:x=r.name
  ·subst q;rw [d8] at hu;cases hu;exact (iEA e ht hv)
  ·rw [iB _ _ (by intro z;cases z;exact q rfl)] at hu;exact h.2.2 x u hu
end
end
section
section variable {fol:TS}
variable {p:Params} {F:FN} {G:GD} {pl:Pl} {rows:List Row} {T:TT}
noncomputable def left(rows:List Row)(fol:TS):Nat:=rows.countP λr=>!decide (r.name∈fol)
theorem lB{r:Row}(hr:r∈rows)(h:r.name∉fol):left rows (fol++[r.name])<left rows fol:=by
 unfold left
 have sub:∀q:Row,(!decide (q.name∈fol++[r.name]))=true→(!decide (q.name∈fol))=true:=λq hq=>by
  cases e:decide (q.name∈fol) with
  |false=>rfl
  |true=>
   rw [decide_eq_true (List.mem_append_left _ (of_decide_eq_true e))] at hq
   cases hq
 induction rows with
 |nil=>cases hr
 |cons q rs ih=>
  rw [List.countP_cons,List.countP_cons]
  rcases List.mem_cons.mp hr with rfl|hr
  ·have:=List.countP_mono_left (l:=rs) λq U=>sub q
   rw [if_neg (by rw [decide_eq_true (List.mem_append_right _ (List.mem_singleton.mpr rfl))];decide),if_pos (by rw [decide_eq_false h];rfl)]
   exact oz61 this
  ·have:=ih hr
   by_cases h1:(!decide (q.name∈fol++[r.name]))=true
   ·rw [if_pos h1,if_pos (sub q h1)];exact oz60 this
   ·rw [if_neg h1]
    exact Nat.lt_of_lt_of_le this (Nat.le_add_right _ _)
noncomputable def GG(T:TT)(x:Str)(fol:TS):Prop:=∀y∈fol,has T y=true→has T x=true∧rk T x<rk T y
noncomputable def Fin(F:FN)(G:GD)(pl:Pl)(rows:List Row)(T:TT)(H:Hp)(fol:TS)(o:Option Ent)(r:Res):Prop:=
 Rs (λv H'=>(∃e,o=some e∧mB e v)∧FS F G pl rows T H' fol∧Ext [F.kn,F.fl] H H'∧H'.length=H.length) (λc H'=>c=59∧o=none∧FS F G pl rows T H' fol∧Ext [F.kn,F.fl] H H'∧H'.length=H.length) r
noncomputable def eU(p:Params)(F:FN)(G:GD)(pl:Pl)(rows:List Row)(T:TT)(d:Nat)(fol:TS)(x:Str):Prop:=∀H (k:Int),FS F G pl rows T H fol→
 Fin F G pl rows T H fol ((bP T x).map λe=>(e.1,e.2.1+k,e.2.2)) (aB (KK p) d 185 [aU F,.str x,.int k] H)
noncomputable def fd36:{fd:FuncData // ∀p,g9 (KK p) 36=some fd}:=⟨_,λp=>rfl⟩
theorem FV:∃fd p1 ap q q1 q2 p3 q3 r3 p4 q4 r4 u3 u4 u5,ExcB (KK p) fd p1 ap q q1 q2 p3 q3 r3 p4 q4 r4 u3 u4 u5:=
 (eQ fd36.1 _ _ _ (eQ _ _ _ _ (eQ _ _ _ _ (CJ _ _ _ ({fn:=fd36.2 p,ok:=by kernel_rfl,nc:=by kernel_rfl,ps:=by kernel_rfl,df:=by kernel_rfl,body:=rfl,line:=by kernel_rfl,wh:=by kernel_rfl,gl:=by kernel_rfl,fc:=by kernel_rfl})))))
theorem X59:cW (KK p) 59=true:=@decide_eq_true _ (Classical.propDecidable _) ⟨_,{cls:=(cM _ rfl rfl rfl),set:=by kernel_rfl,obj:=(eQ _ _ _ _ (eQ _ _ _ _ (eQ _ _ _ _ (CJ _ _ _ rfl)))),init:=by kernel_rfl,fn:=by kernel_rfl,what:=by kernel_rfl,at_:=by kernel_rfl,body:=FV}⟩
theorem rP{d:Nat}{r:Row}(h1:eU p F G pl rows T d fol r.plus)(h2:eU p F G pl rows T d fol r.minus)(hm:r.minus=S_→bP T r.minus≠none){H:Hp}{k:Int}(s:FS F G pl rows T H fol):
  Fin F G pl rows T H fol ((cC r T).map λe=>(e.1,e.2.1+k,e.2.2)) (aB (KK p) (d+1) 192 [aU F,mA r,.int k] H):=by
 refine bD E_192 ?_
 refine aA uV ?_
 by_cases hz:r.minus=S_
 ·refine r_t (by rw [hz];exact rfl) ?_
  refine bA jN ?_
  refine aZ (h1 H (r.worth+k) s) ?_ ?_
  ·intro v H';refine j4 λz1 s' x' n'=>?_;refine oEA z1 λe he hv=>?_;clear z1
   refine (cJ (iEA e ?_ hv) s' x' n')
   rw [←he]
   unfold cC
   cases a:bP T r.plus with
   |none=>rfl
   |some u=>
    cases b:bP T r.minus with
    |none=>exact absurd b (hm hz)
    |some w=>simp only [Option.map_some,if_pos hz,Int.add_assoc]
  ·intro c H';refine iP λz1 he s' x' n'=>?_;subst z1
   refine (dZ rfl ?_ s' x' n')
   unfold cC
   cases a:bP T r.plus with
   |none=>rfl
   |some u=>rw [a] at he;cases he
 ·refine r_f (beq_false_of_ne hz) ?_
  refine aZ (h1 H 0 s) ?_ ?_
  ·intro v H1;refine j4 λz1 s1 x1 n₁=>?_;refine oEA z1 λe he hv=>?_;clear z1
   refine aZ (h2 H1 0 s1) ?_ ?_
   ·intro v' H2;refine j4 λz1 s2 x2 n₂=>?_;refine oEA z1 λe' he' hv'=>?_;clear z1
    have hx:=x1.trans x2
    have hn:=n₂.trans n₁
    refine eV hv λn z1 g1 g2=>?_;clear hv;subst z1
    refine eV hv' λn' z1 g1' g2'=>?_;clear hv';subst z1
    cases a:bP T r.plus with
    |none=>rw [a] at he;cases he
    |some u=>
    cases b:bP T r.minus with
    |none=>rw [b] at he';cases he'
    |some w=>
    rw [a] at he;rw [b] at he'
    cases he;cases he'
    dsimp only at g1 g2 g1' g2' ⊢
    have hj:cC r T=if u.1=w.1∧u.2.2=w.2.2 then some (d5,u.2.1 - w.2.1+r.worth,S_) else none:=by
     unfold cC;rw [a,b];dsimp only;rw [if_neg hz]
    refine eG (λt H'=>H'=H2∧t= !decide (u.1=w.1∧u.2.2=w.2.2)) ?_ λk' hk=>?_
    ·intro t H';refine qA λz1 z2=>?_;subst z1 z2
     by_cases hc:u.1=w.1∧u.2.2=w.2.2
     ·rw [if_pos hc] at hj
      refine r_f (by rw [decide_eq_true hc];rfl) ?_
      refine bD d9 (bD d9 ?_)
      refine bA yD (bA jN (bA jN ?_))
      refine (cJ (iEA _ (by rw [hj];rfl) ?_) s2 hx hn)
      refine (cM S_ ?_ (λq=>rfl) (λq=>rfl))
      simp only [Int.add_zero]
     ·rw [if_neg hc] at hj
      refine r_t (by rw [decide_eq_false hc];rfl) ?_
      refine gU X59 (dZ rfl (by rw [hj];rfl) s2 hx hn)
    ·refine bD cH (bD cH ?_)
     refine aA fP ?_
     by_cases e1:u.1=w.1
     ·refine r_f (by rw [e1];exact nbq _) ?_
      refine eG (λt H'=>H'=H2∧t= !decide (u.1=w.1∧u.2.2=w.2.2)) ?_ λk₂ hk2=>?_
      ·intro t H';refine qA λz1 z2=>?_;subst z1 z2
       refine fC (λq=>?_) λq=>?_
       ·exact hk _ _ ⟨rfl,q.symm⟩
       ·exact hk _ _ ⟨rfl,q.symm⟩
      ·refine bD cH ?_
       refine aA uV ?_
       by_cases e2:u.1=S_
       ·refine r_t (by rw [e2];exact rfl) ?_
        refine bD gP (bD gP ?_)
        refine aA fP ?_
        rw [g1 e2,g1' (e1▸e2)]
        by_cases e3:u.2.2=w.2.2
        ·exact r_f (by rw [e3];exact nbq _) (hk2 _ _ ⟨rfl,by rw [decide_eq_true ⟨e1,e3⟩];rfl⟩)
        ·exact r_t (by rw [beq_false_of_ne e3];rfl) (hk2 _ _ ⟨rfl,by rw [decide_eq_false λq=>e3 q.2];rfl⟩)
       ·refine r_f (beq_false_of_ne e2) (hk2 _ _ ⟨rfl,?_⟩)
        rw [decide_eq_true ⟨e1,(g2 e2).trans (g2' (e1▸e2)).symm⟩];rfl
     ·refine r_t (by rw [beq_false_of_ne e1];rfl) (hk _ _ ⟨rfl,?_⟩)
      rw [decide_eq_false λq=>e1 q.1];rfl
   ·intro c H2;refine iP λz1 he' s2 x2 n₂=>?_;subst z1
    refine (dZ rfl ?_ s2 (x1.trans x2) (n₂.trans n₁))
    unfold cC
    cases b:bP T r.minus with
    |none=>cases bP T r.plus<;>rfl
    |some w=>rw [b] at he';cases he'
  ·intro c H1;refine iP λz1 he s1 x1 n₁=>?_;subst z1
   refine (dZ rfl ?_ s1 x1 n₁)
   unfold cC
   cases a:bP T r.plus with
   |none=>rfl
   |some u=>rw [a] at he;cases he
theorem BF{x:Str}(h:has T x=false):bP T x=none:=by
 unfold bP
 unfold has at h
 cases q:T.lookup x with
 |none=>rfl
 |some v=>rw [q] at h;cases h
theorem o9 (w:FinW rows pl T) {d:Nat} {fol:TS} {r:Row} (hr:r∈rows) (hc:GG T r.name fol)
  (h1:r.name∉fol→eU p F G pl rows T d (fol++[r.name]) r.plus) (h2:r.name∉fol→eU p F G pl rows T d (fol++[r.name]) r.minus) {H:Hp} (s:FS F G pl rows T H fol):
  Fin F G pl rows T H fol (bP T r.name) (aB (KK p) (d+2) 178 [aU F,.str r.name] H):=by
 refine bD E_178 ?_
 refine dX s.kn λks kp hk hka hko=>?_
 have hsz:=w.sz
 refine eF (λlc H'=>EnvM lc [(aQ,.str r.name),(eC,aU F)]∧FS F G pl rows T H' fol∧Ext [F.kn,F.fl] H H'∧H'.length=H.length∧∃ks kp v,H'[F.kn]?=some (.dict ks kp)∧cS ks=true∧aP (.s r.name) ks=some v∧∃e,bP T r.name=some e∧mB e v) ?_ λk' hk'=>?_
 ·intro lc H';refine iP λE s' x' n' z1=>?_;refine kZ z1 λks kp v hk hka hv he=>?_;clear z1
  refine aA (by walk_at "lk") ?_
  refine bD pL ?_
  refine aA (by walk_at "lk") ?_
  refine aA (dT (key:= .s r.name) hk rfl (aI hka _) hv) ?_
  exact (cJ he s' x' n')
 ·have E0:EnvM [(aQ,.str r.name),(eC,aU F)] [(aQ,.str r.name),(eC,aU F)]:=EnvM.cons (by walk_at "lk") (EnvM.cons (by walk_at "lk") EnvM.nil)
  refine aA (hZ (key:= .s r.name) hk rfl (aI hka _)) ?_
  cases hv:aP (.s r.name) ks with
  |some v=>
   refine r_f rfl ?_
   refine oE (hko.2.2 _ _ hv) λe he=>?_
   exact hk' _ _ (dZ E0 s (Ext.refl _ _) rfl (eY ks kp v hk hka hv ⟨e,he⟩))
  |none=>
   refine r_t rfl ?_
   refine aA (FJ s.fl) ?_
   by_cases hf:r.name∈fol
   ·refine r_t (decide_eq_true hf) ?_
    refine gU X59 (dZ rfl ?_ s (Ext.refl _ _) rfl)
    refine BF ?_
    cases q:has T r.name with
    |false=>rfl
    |true=>exact absurd (hc _ hf q).2 (Nat.lt_irrefl _)
   ·refine r_f (decide_eq_false hf) ?_
    have hfl:=s.flen
    refine j8 s.fl (by refine lm1 ?_;exact M3 hsz hfl) λH1 n₁ x1 e1=>?_
    have e1':H1[F.fl]?=some (.list ((fol++[r.name]).map .str)):=by rw [e1];exact mp1
    have s1:FS F G pl rows T H1 (fol++[r.name]):=s.toFl x1 e1' (List.nodup_append.mpr (iAA s.nd ndo (λa ha b hb q=>hf (by rw [List.mem_singleton.mp hb] at q;rw [←q];exact ha)))) λx hx=>by
     rcases List.mem_append.mp hx with hx|hx
     ·exact s.sub x hx
     ·rw [List.mem_singleton.mp hx];exact List.mem_map.mpr (iEA r hr rfl)
    refine dX s1.eqs λes ep he hea heo=>?_
    refine aA (dT (key:= .s r.name) he rfl (aI hea _) (heo.1 r hr)) ?_
    have pop:∀{H2:Hp},FS F G pl rows T H2 (fol++[r.name])→H2[F.fl]?=some (.list (fol.map .str++[.str r.name])):=λs₂=>by rw [s₂.fl];exact mp2
    have up:Ext [F.kn,F.fl] H H1:=x1.mono λl hl=>List.mem_cons_of_mem _ hl
    refine aZ (rP (h1 hf) (h2 hf) (λq=>?_) s1) ?_ ?_
    ·rw [q];unfold bP;rw [w.ty];intro z;cases z
    ·intro v H2;refine j4 λz1 s₂ x2 n₂=>?_;refine oEA z1 λe he hv=>?_;clear z1
     have hte:bP T r.name=some e:=by
      rw [w.tell_row hr]
      cases q:cC r T with
      |none=>rw [q] at he;cases he
      |some u=>
       rw [q] at he
       obtain ⟨u1,u2,u3⟩:=u
       cases he
       simp only [Int.add_zero]
     refine dX s₂.kn λks kp hk hka hko=>?_
     refine gD (key:= .s r.name) rfl hk (by have:=hko.len;exact M3 hsz this) (aI hka _) λH3 ep3 n3 x3 e3=>?_
     have s3:=s₂.toKn x3 e3 (nA hka _ _) (hko.put hr hte hv)
     refine MX (pop s3) (by refine lm2 ?_;exact M4 hsz hfl) λH4 n4 x4 e4=>?_
     have s4:FS F G pl rows T H4 fol:=s3.toFl x4 e4 s.nd s.sub
     have e4':=x4.2 _ _ e3 λq=>s.s2 (List.mem_singleton.mp q)
     refine hk' _ _ (dZ E0 s4 (((up.trans x2).trans (x3.mono λl hl=>?_)).trans (x4.mono λl hl=>List.mem_cons_of_mem _ hl)) (oz250 n₁ n₂ n3 n4) (eY _ _ v e4' (nA hka _ _) (d8 _ _ _) (iEA e hte hv)))
     rw [List.mem_singleton.mp hl];exact List.mem_cons_self ..
    ·intro c H2;refine iP λz1 he s₂ x2 n₂=>?_;subst z1
     have hte:bP T r.name=none:=by
      rw [w.tell_row hr]
      cases q:cC r T with
      |none=>rfl
      |some u=>rw [q] at he;cases he
     refine MX (pop s₂) (by refine lm2 ?_;exact M4 hsz hfl) λH4 n4 x4 e4=>?_
     exact (dZ rfl hte (s₂.toFl x4 e4 s.nd s.sub) ((up.trans x2).trans (x4.mono λl hl=>List.mem_cons_of_mem _ hl)) (oz73 n₁ n₂ n4))
end
end
section
section
variable {p:Params} {F:FN} {G:GD} {pl:Pl} {rows:List Row} {T:TT}
theorem mJ{x:Str}{v:Option Ent}(h:T.lookup x=some v):bP T x=v:=by unfold bP;rw [h]
theorem sO(w:FinW rows pl T){D:Nat}{fol:TS}{x:Str}(hx:Dm rows T x)(hq:∀r∈rows,r.name=x→∀H,FS F G pl rows T H fol→Fin F G pl rows T H fol (bP T x) (aB (KK p) (D+2) 178 [aU F,.str x] H)):
  eU p F G pl rows T (D+3) fol x:=by
 intro H k s
 refine bD E_185 ?_
 refine aA uV ?_
 by_cases hz:x=S_
 ·subst hz
  refine r_t rfl ?_
  refine (cJ (iEA _ (by rw [mJ w.ty];rfl) ?_) s (Ext.refl _ _) rfl)
  exact (cM S_ (by simp only [Int.zero_add]) (λq=>rfl) (λq=>rfl))
 ·refine r_f (beq_false_of_ne hz) ?_
  refine aZ (qV s.geo) ?_ λc H' q=>q.elim
  intro v H';refine qA λz1 z2=>?_;subst z1 z2
  refine eF (λlc H''=>∃e v,EnvM lc [(aH,v),(aX,.int k)]∧bP T x=some e∧mB e v∧FS F G pl rows T H'' fol∧Ext [F.kn,F.fl] H' H''∧H''.length=H'.length) ?_ λk' hk=>?_
  ·intro lc H'';refine wJ λe v E he z2 s' x' n'=>?_;refine oEA z2 λn z3 g=>?_;clear z2;subst z3
   refine aA (by walk_at "lk") (bD cH ?_)
   refine aA (by walk_at "lk") (bD d9 ?_)
   refine aA (by walk_at "lk") ?_
   refine bA jN ?_
   refine aA (by walk_at "lk") (bD gP ?_)
   exact (cJ (iEA _ (by rw [he];rfl) (EK k g)) s' x' n')
  ·unfold qW
   cases q:pl.lookup x with
   |some u=>
    obtain ⟨t,o⟩:=u
    refine oAA (w.lab x t o q) λU ht hl=>?_
    refine aA (a:=false) rfl (r_f rfl ?_)
    refine hk _ _ (eI (t,o,S_) _ (EnvM.cons (by walk_at "lk") (EnvM.cons (by walk_at "lk") EnvM.nil)) (mJ hl) (cM x rfl (λ q=>absurd q ht) (λ q=>rfl)) s ⟨Ext.refl _ _,rfl⟩)
   |none=>
    refine aA (a:=true) rfl (r_t rfl ?_)
    refine dX s.eqs λes ep he hea heo=>?_
    refine bJ (λv H''=>∃e,bP T x=some e∧mB e v∧FS F G pl rows T H'' fol∧Ext [F.kn,F.fl] H' H''∧H''.length=H'.length) ?_ λk₂ hk2=>?_
    ·intro v H'';refine qEA λe he z1=>?_;refine yR z1 λhv s' x' n'=>?_;clear z1
     exact hk _ _ (eI e v (EnvM.cons (by walk_at "lk") (EnvM.cons (by walk_at "lk") EnvM.nil)) he hv s' ⟨x',n'⟩)
    ·refine aA (rA (key:= .s x) he rfl (aI hea _)) ?_
     by_cases hr:∃r∈rows,r.name=x
     ·obtain ⟨r,hr,rfl⟩:=hr
      refine r_t (by rw [heo.1 r hr];rfl) ?_
      refine aZ (hq r hr rfl H' s) ?_ ?_
      ·intro v H'';refine j4 λz1 s' x' n'=>?_;refine oEA z1 λe he hv=>?_;clear z1
       exact hk2 _ _ (lU e he hv s' x' n')
      ·intro c H'';refine iP λz1 he s' x' n'=>?_;subst z1
       exact (dZ rfl (by rw [he];rfl) s' x' n')
     ·have hr':∀r∈rows,r.name≠x:=λr h1 h2=>hr (iEA r h1 h2)
      refine r_f (by rw [heo.2 x hr'];rfl) ?_
      have hT:has T x=true:=by
       rcases hx with h|h
       ·exact h
       ·exact absurd h hr
      refine hk2 _ _ (lU (S_,0,x) (mJ (w.opn x hz q hr' hT)) (cM x rfl (λU=>rfl) (λq=>absurd rfl q)) s (Ext.refl _ _) rfl)
theorem FR(w:FinW rows pl T):∀(m:Nat) {fol:TS} {x:Str} {D:Nat},left rows fol≤m→3*m+3≤D→Dm rows T x→GG T x fol→eU p F G pl rows T D fol x:=by
 have up:∀{fol:TS} {r:Row},r∈rows→GG T r.name fol→GG T r.plus (fol++[r.name])∧GG T r.minus (fol++[r.name]):=fun {fol r} hr hc=>by
  have key:∀y∈fol++[r.name],has T y=true→has T r.name=true∧rk T r.name≤rk T y:=λy hy h=>by
   rcases List.mem_append.mp hy with hy|hy
   ·exact ⟨(hc y hy h).1,Nat.le_of_lt (hc y hy h).2⟩
   ·rw [List.mem_singleton.mp hy] at h ⊢;exact ⟨h,Nat.le_refl _⟩
  refine ⟨λy hy h=>?_,λy hy h=>?_⟩
  ·refine oA (key y hy h) λa b=>?_
   refine AI (w.fil r hr a) λU c1 c2 c3 c4=>?_
   exact ⟨c1,by exact M0 c3 b⟩
  ·refine oA (key y hy h) λa b=>?_
   refine AI (w.fil r hr a) λU c1 c2 c3 c4=>?_
   exact ⟨c2,by exact M0 c4 b⟩
 intro m
 induction m with
 |zero=>
  intro fol x D hl hD hx hc
  obtain ⟨d,rfl⟩:∃d,D=d+3:=⟨D - 3,by exact oz256 hD⟩
  refine sO w hx ?_
  rintro r hr rfl H s
  refine o9 w hr hc (λhn=>?_) (λhn=>?_) s
  ·exact absurd (lB hr hn) (Nat.not_lt.2 (Nat.le_trans hl (Nat.zero_le _)))
  ·exact absurd (lB hr hn) (Nat.not_lt.2 (Nat.le_trans hl (Nat.zero_le _)))
 |succ m ih=>
  intro fol x D hl hD hx hc
  obtain ⟨d,rfl⟩:∃d,D=d+3:=⟨D - 3,by exact oz255 hD⟩
  refine sO w hx ?_
  rintro r hr rfl H s
  refine o9 w hr hc (λhn=>?_) (λhn=>?_) s
  ·have:=lB hr hn
   exact ih (M1 this hl) (M2 hD) (w.dep r hr).1 (up hr hc).1
  ·have:=lB hr hn
   exact ih (M1 this hl) (M2 hD) (w.dep r hr).2 (up hr hc).2
theorem HC(w:FinW rows pl T){x:Str}{D:Nat}(hD:21≤D)(hx:Dm rows T x):eU p F G pl rows T D [] x:=
 FR w 6 (by unfold left;exact Nat.le_trans (List.countP_le_length) w.sz) (oz252 hD) hx λy hy=>by cases hy
end
end
section
theorem r_kr{P:TP}{X:TX}{a:Res}(b:Res)(e:a=b)(h:Rs P X b):Rs P X a:=by rw [e];exact h
noncomputable def VE:Option Ent→V
 |some e=> .tup [.str e.1,.int e.2.1,.str e.2.2]
 |none=> .str dK
section variable {d:Nat}
variable {p:Params} {F:FN} {G:GD} {pl:Pl} {rows:List Row} {T:TT}
theorem B59:subIn (KK p) (.ref 59) (.ref 59)=some true:=by kernel_rfl
theorem rB{r:Res}{H:Hp}{o:Option Ent}(h:Fin F G pl rows T H [] o r):Rs (λv H'=>v=VE o∧FS F G pl rows T H' []∧Ext [F.kn,F.fl] H H'∧H'.length=H.length) (λU U=>False)
  (bT r (λv335 H336=>
bK p v335 bI λv337=>
bK p v335 aX λv338=>
bR (λv340 H341=>
.ok (.tup [v337,v338,v340]) H341) λk339=>
bK p v335 bI λv342=>
ob (cmp H336 .Eq v342 (.str S_)) λt343=>
if t343=true then
bK p v335 aQ λv344=>
k339 v344 H336
else
k339 (.str S_) H336) (λc332 H333=>
gd (cW (KK p) c332&&cW (KK p) 59)<|ob (subIn (KK p) (.ref c332) (.ref 59)) λt334=>if t334=true then
.ok (.str dK) H333
else
.exc c332 H333)):=by
 refine aZ h ?_ ?_
 ·intro v H';refine j4 λz1 s x hn=>?_;refine EM z1 λe z2 n z4 g1 g2=>?_;clear z1;subst z2;subst z4
  refine bD cH (bD d9 ?_)
  refine bJ (λv H''=>v= .str e.2.2∧H''=H') ?_ λk' hk=>?_
  ·intro v H'';refine qA λz1 z2=>?_;subst z1 z2
   exact (cJ rfl s x hn)
  ·refine bD cH (aA uV ?_)
   by_cases hz:e.1=S_
   ·refine r_t (by rw [hz];exact rfl) (bD gP ?_)
    exact hk _ _ ⟨by rw [g1 hz],rfl⟩
   ·exact r_f (beq_false_of_ne hz) (hk _ _ ⟨by rw [g2 hz],rfl⟩)
 ·intro c H';refine iP λz1 z2 s x hn=>?_;subst z1 z2
  refine gU (by rw [X59];rfl) (aA B59 (r_t rfl (cJ rfl s x hn)))
theorem yW{x:Str}(h:eU p F G pl rows T d [] x){H:Hp}{k:Int}(s:FS F G pl rows T H []):
  Rs (λv H'=>v=VE ((bP T x).map λe=>(e.1,e.2.1+k,e.2.2))∧FS F G pl rows T H' []∧Ext [F.kn,F.fl] H H'∧H'.length=H.length) (λU U=>False) (aB (KK p) (d+1) 561 [aU F,.str x,.int k] H):=
 bD E_561 (rB (h H k s))
theorem B2{r:Row}(h1:eU p F G pl rows T d [] r.plus)(h2:eU p F G pl rows T d [] r.minus)(hm:r.minus=S_→bP T r.minus≠none){H:Hp}{k:Int}(s:FS F G pl rows T H []):
  Rs (λv H'=>v=VE ((cC r T).map λe=>(e.1,e.2.1+k,e.2.2))∧FS F G pl rows T H' []∧Ext [F.kn,F.fl] H H'∧H'.length=H.length) (λU U=>False) (aB (KK p) (d+2) 568 [aU F,mA r,.int k] H):=
 bD E_568 (rB (rP h1 h2 hm s))
noncomputable def VN:Option Ent→V
 |some e=>if e.1=d5 then .int e.2.1 else .none
 |none=> .none
theorem yX{r:Row}(h1:eU p F G pl rows T d [] r.plus)(h2:eU p F G pl rows T d [] r.minus)(hm:r.minus=S_→bP T r.minus≠none){H:Hp}(s:FS F G pl rows T H []):
  Rs (λv H'=>v=VN (cC r T)∧FS F G pl rows T H' []∧Ext [F.kn,F.fl] H H'∧H'.length=H.length) (λU U=>False) (aB (KK p) (d+3) 575 [aU F,mA r] H):=by
 refine bD E_575 ?_
 have num:Rs (λv H'=>(v=VN (cC r T)∧∃i,v= .int i)∧FS F G pl rows T H' []∧Ext [F.kn,F.fl] H H'∧H'.length=H.length) (λc H'=>c=59∧VN (cC r T)= .none∧FS F G pl rows T H' []∧Ext [F.kn,F.fl] H H'∧H'.length=H.length) (aB (KK p) (d+2) 199 [aU F,mA r] H):=by
  refine bD E_199 ?_
  refine aZ (rP (k:=0) h1 h2 hm s) ?_ ?_
  ·intro v H';refine j4 λz1 s x hn=>?_;refine EM z1 λe he n z3 g1 g2=>?_;clear z1;subst z3
   cases q:cC r T with
   |none=>rw [q] at he;cases he
   |some u=>
    obtain ⟨u1,u2,u3⟩:=u
    rw [q] at he;cases he
    refine bD cH (aA fP ?_)
    by_cases hz:u1=d5
    ·refine r_f (by simp [hz]) (bD d9 (cJ ⟨?_,_,rfl⟩ s x hn))
     show _=if u1=d5 then V.int u2 else .none
     rw [if_pos hz]
     show V.int (u2+0)=_
     rw [Int.add_zero]
    ·refine r_t (by simp [hz]) (gU X59 (dZ rfl ?_ s x hn))
     show (if u1=d5 then V.int u2 else .none)=_
     rw [if_neg hz]
  ·intro c H';refine iP λz1 he s x hn=>?_;subst z1
   refine (dZ rfl ?_ s x hn)
   cases q:cC r T with
   |none=>rfl
   |some u=>rw [q] at he;cases he
 refine aZ num ?_ ?_
 ·intro v H';refine j4 λz1 s x hn=>?_;refine oA z1 λz2 U=>?_;clear z1;subst z2
  exact (cJ rfl s x hn)
 ·intro c H';refine iP λz1 hv s x hn=>?_;subst z1
  exact gU (by rw [X59];rfl) (aA B59 (r_t rfl (cJ hv.symm s x hn)))
end
section
variable {α:Type}
noncomputable def aG(f:α→V)(t:Tab α):TG:=t.map λq=>(Key.s q.1,f q.2)
theorem aY(f:α→V)(t:Tab α):cS (aG f t)=true:=by
 unfold cS aG
 refine List.all_eq_true.mpr λe he=>?_
 refine oEA (List.mem_map.mp he) λq U z1=>?_;subst z1
 rfl
theorem bZ(f:α→V)(t:Tab α)(x:Str):aP (.s x) (aG f t)=(t.lookup x).map f:=by
 induction t with
 |nil=>rfl
 |cons a r ih=>
  obtain ⟨y,v⟩:=a
  show (if Key.s y= .s x then some (f v) else aP (.s x) (aG f r))=_
  rw [List.lookup_cons]
  by_cases h:x=y
  ·subst h;rw [if_pos rfl,beq_self_eq_true];rfl
  ·rw [if_neg (by intro q;cases q;exact h rfl),beq_false_of_ne h,ih]
theorem dB(f:α→V)(t:Tab α){x:Str}(h:has t x=false)(v:α):cP (.s x) (f v) (aG f t)=aG f (t++[(x,v)]):=by
 induction t with
 |nil=>rfl
 |cons a r ih=>
  obtain ⟨y,u⟩:=a
  have hn:x≠y:=by
   rintro rfl
   unfold has at h
   rw [lk0] at h;cases h
  have h':has r x=false:=by
   unfold has at h ⊢
   rw [List.lookup_cons,beq_false_of_ne hn] at h;exact h
  show (if Key.s y= .s x then _ else (Key.s y,f u)::cP (.s x) (f v) (aG f r))=_
  rw [if_neg (by intro q;cases q;exact hn rfl),ih h'];rfl
theorem dO(f:α→V)(t:Tab α):(aG f t).length=t.length:=by exact List.length_map _
end
noncomputable def dH(r:Row):V:= .tup [.str r.name,.int r.worth,.str r.plus,.str r.minus]
theorem badE{H:Hp}(o:Option Ent):cmp H .Eq (VE o) (.str dK)=some o.isNone:=by
 cases o with
 |none=>
  show some (dK==dK)=_
  rw [beq_self_eq_true];rfl
 |some e=>rfl
theorem oW{p:Params}{d:Nat}{l:Nat}{H:Hp}{T:TT}{ep:Nat}{r:Row}(hl:H[l]?=some (.dict (aG VE T) ep))(h1:has T r.plus=true)(h2:has T r.minus=true):
  Rs (λv H'=>v=VE (cC r T)∧H'=H) (λU U=>False) (aB (KK p) (d+1) 540 [dH r,.loc l] H):=by
 refine bD E_540 ?_
 refine oE (Option.isSome_iff_exists.mp h1) λa ha=>?_
 refine oE (Option.isSome_iff_exists.mp h2) λb hb=>?_
 refine aA (dT (key:= .s r.plus) hl rfl (aI (aY _ _) _) (by rw [bZ,ha];rfl)) ?_
 refine aA (dT (key:= .s r.minus) hl rfl (aI (aY _ _) _) (by rw [bZ,hb];rfl)) ?_
 have ta:bP T r.plus=a:=mJ ha
 have tb:bP T r.minus=b:=mJ hb
 refine eG (λt H'=>H'=H∧t=(a.isNone || b.isNone)) ?_ λk' hk=>?_
 ·intro t H';refine qA λz1 z2=>?_;subst z1 z2
  cases a with
  |none=>
   refine r_t rfl ⟨?_,rfl⟩
   unfold cC;rw [ta];rfl
  |some u=>
  cases b with
  |none=>
   refine r_t rfl ⟨?_,rfl⟩
   unfold cC;rw [ta,tb];rfl
  |some w=>
  refine r_f rfl ?_
  refine aA uV ?_
  by_cases hz:r.minus=S_
  ·refine r_t (by rw [hz];exact rfl) ?_
   refine aA (cR (by decide) (by decide) rfl) (aA (cR (by decide) (by decide) rfl) (bA jN (aA (cR (by decide) (by decide) rfl) ⟨?_,rfl⟩)))
   unfold cC;rw [ta,tb];simp only [if_pos hz];rfl
  ·refine r_f (beq_false_of_ne hz) ?_
   have hj:cC r T=if u.1=w.1∧u.2.2=w.2.2 then some (d5,u.2.1 - w.2.1+r.worth,S_) else none:=by
    unfold cC;rw [ta,tb];dsimp only;rw [if_neg hz]
   refine eG (λt H''=>H''=H'∧t= !decide (u.1=w.1∧u.2.2=w.2.2)) ?_ λk₂ hk2=>?_
   ·intro t H'';refine qA λz1 z2=>?_;subst z1 z2
    by_cases hc:u.1=w.1∧u.2.2=w.2.2
    ·refine r_f (by rw [decide_eq_true hc];rfl) ?_
     refine aA (cR (by decide) (by decide) rfl) (aA (cR (by decide) (by decide) rfl) (bA yD (bA jN ⟨?_,rfl⟩)))
     rw [hj,if_pos hc];rfl
    ·refine r_t (by rw [decide_eq_false hc];rfl) ⟨?_,rfl⟩
     rw [hj,if_neg hc];rfl
   ·refine aA (cR (by decide) (by decide) rfl) (aA (cR (by decide) (by decide) rfl) (aA fP ?_))
    by_cases e1:u.1=w.1
    ·refine r_f (by rw [e1];exact nbq _) ?_
     refine aA (cR (by decide) (by decide) rfl) (aA (cR (by decide) (by decide) rfl) (aA fP ?_))
     by_cases e3:u.2.2=w.2.2
     ·exact r_f (by rw [e3];exact nbq _) (hk2 _ _ ⟨rfl,by rw [decide_eq_true ⟨e1,e3⟩];rfl⟩)
     ·exact r_t (by rw [beq_false_of_ne e3];rfl) (hk2 _ _ ⟨rfl,by rw [decide_eq_false λq=>e3 q.2];rfl⟩)
    ·exact r_t (by rw [beq_false_of_ne e1];rfl) (hk2 _ _ ⟨rfl,by rw [decide_eq_false λq=>e1 q.1];rfl⟩)
 ·refine aA (badE a) ?_
  refine fC (λq=>hk _ _ ⟨rfl,by rw [q];rfl⟩) λq=>?_
  refine aA (badE b) ?_
  refine fC (λq2=>hk _ _ ⟨rfl,by rw [q,q2];rfl⟩) λq2=>hk _ _ ⟨rfl,by rw [q,q2];rfl⟩
end
section variable {X:TX} {kx:Addr→Lc→Hp→Res} {cf:CF} {k:TK} {H:Hp} {lc:Lc} {lf:Nat} {p:Params} {v:V} {P:TP}
theorem CX (hj:lc.lookup gI=some (.fix (.ref 540))) (hf:lc.lookup aH=some (.loc lf))
  (h:Rs P X (bT (cf 540 [v,.loc lf] H) (λu H=>ob (List.lookup aH lc) λt=>ob (getItem H v (.int 0)) λi=>ob (setItem H t i u) λH=>k .next ((bO,v)::lc) H) (λc H=>kx c ((bO,v)::lc) H))):
  Rs P X (ex (KK p) cf 72 zX AK ((bO,v)::lc) H k kx):=by
 refine' aA (o:=List.lookup gI lc) hj ?_
 refine aA (a:= .ref 540) rfl ?_
 refine gU (by kernel_rfl) ?_
 refine r_kr (ob (List.lookup aH lc) λt=>bT (cf 540 [v,t] H) (λu H=>ob (List.lookup aH lc) λt=>ob (getItem H v (.int 0)) λi=>ob (setItem H t i u) λH=>k .next ((bO,v)::lc) H) (λc H=>kx c ((bO,v)::lc) H)) (by kernel_rfl) ?_
 exact aA hf h
theorem CW (hj:lc.lookup gI=some (.fix (.ref 554))) (hf:lc.lookup aH=some (.loc lf))
  (h:Rs P X (bT (cf 554 [v,.loc lf] H) (λu H=>ob (List.lookup aH lc) λt=>ob (getItem H v (.int 0)) λi=>ob (setItem H t i u) λH=>k .next ((bO,v)::lc) H) (λc H=>kx c ((bO,v)::lc) H))):
  Rs P X (ex (KK p) cf 72 zX AK ((bO,v)::lc) H k kx):=by
 refine' aA (o:=List.lookup gI lc) hj ?_
 refine aA (a:= .ref 554) rfl ?_
 refine gU (by kernel_rfl) ?_
 refine r_kr (ob (List.lookup aH lc) λt=>bT (cf 554 [v,t] H) (λu H=>ob (List.lookup aH lc) λt=>ob (getItem H v (.int 0)) λi=>ob (setItem H t i u) λH=>k .next ((bO,v)::lc) H) (λc H=>kx c ((bO,v)::lc) H)) (by kernel_rfl) ?_
 exact aA hf h
theorem ex547 {g:Nat} (hg:g=540∨g=554) (hj:lc.lookup gI=some (.fix (.ref g))) (hf:lc.lookup aH=some (.loc lf))
  (h:Rs P X (bT (cf g [v,.loc lf] H) (λu H=>ob (List.lookup aH lc) λt=>ob (getItem H v (.int 0)) λi=>ob (setItem H t i u) λH=>k .next ((bO,v)::lc) H) (λc H=>kx c ((bO,v)::lc) H))):
  Rs P X (ex (KK p) cf 72 zX AK ((bO,v)::lc) H k kx):=by
 rcases hg with rfl|rfl
 ·exact CX hj hf h
 ·exact CW hj hf h
theorem OO{i:Int}(h0:0≤i)(h1:i<2^31):aD H (.type "range") [.int i]=some (.rng i.toNat,H):=by
 have e:aD H (.type "range") [.int i]=if 0≤i∧i<2^31 then some (V.rng i.toNat,H) else none:=by kernel_rfl
 exact e.trans (if_pos ⟨h0,h1⟩)
theorem kW{i:Int}{j:TV}(h0:0≤i)(h1:i<2^31)(h:Rs P X (j (.rng i.toNat) H)):Rs P X (ob2 (aD H (.type "range") [.int i]) j):=by
 unfold ob2
 rw [OO h0 h1]
 exact h
theorem nU{n:Nat}(h:n<2^31):dQ H (.rng n)=some ((List.range n).map λ(i:Nat)=> .int i,λU=>true):=by
 show (if n<2^31 then some ((List.range n).map λ(i:Nat)=>V.int i,λ(_:Hp)=>true) else none)=_
 rw [if_pos h]
theorem dict_{l:Nat}{es:TG}{ep:Nat}(h:H[l]?=some (.dict es ep))(ha:cS es=true)(hz:es.length≤1000):aD H (.type "dict") [.loc l]=some (.loc H.length,H++[.dict es 0]):=by
 have e:aD H (.type "dict") [.loc l]=onO none (λ vs=>(d2 vs).bind λ ps=>if ps.length≤1000 then (c9 ps []).map λ es=>(V.loc H.length,H++[O.dict es es.length]) else none)
  (λes U=>if es.length≤1000∧cS es=true then some (V.loc H.length,H++[O.dict es 0]) else none) (λU=>none) (λU=>none) H[l]? :=by kernel_rfl
 exact e.trans ((yP h).trans (if_pos ⟨hz,ha⟩))
section
variable {α:Type} {p:Params} {f:α→V} {join:Row→Tab α→α} {rows:List Row}
noncomputable def zU(p:Params)(d:Nat)(g:Addr)(f:α→V)(join:Row→Tab α→α):Prop:=∀(H:Hp) (l:Nat) (t:Tab α) (ep:Nat) (r:Row),H[l]?=some (O.dict (aG f t) ep)→has t r.plus=true→has t r.minus=true→
 Rs (λv H'=>v=f (join r t)∧H'=H) (λU U=>False) (aB (KK p) d g [dH r,.loc l] H)
theorem CU {d g:Nat} (hg:g=540∨g=554) (J:zU p d g f join) {lf:Nat} {r:Row} {t:Tab α} {ep:Nat} {H:Hp} {lc:Lc} {P:TP} {X:TX} {j:TK} {ρv:V} (E:EnvM lc [(aH,.loc lf),(gI,.fix (.ref g)),(cU,ρv)])
  (h:H[lf]?=some (O.dict (aG f t) ep)) (hz:t.length≤900) (hj:∀lc' H' ep',EnvM lc' [(aH,.loc lf),(gI,.fix (.ref g)),(cU,ρv)]→H'.length=H.length→Ext [lf] H H'→H'[lf]?=some (O.dict (aG f (d4 join t r)) ep')→Rs P X (j .next lc' H')):
  Rs P X (vV p (aB (KK p) d) (dH r) lc H j):=by
 have aS:=aY f t
 have E':EnvM ((bO,dH r)::lc) [(aH,.loc lf),(gI,.fix (.ref g)),(cU,ρv)]:=E.put (by kernel_rfl)
 refine eF (λlc' H'=>EnvM lc' [(aH,.loc lf),(gI,.fix (.ref g)),(cU,ρv)]∧H'.length=H.length∧Ext [lf] H H'∧∃ep',H'[lf]?=some (.dict (aG f (d4 join t r)) ep')) ?_ λk' hk=>?_
 ·intro lc' H';refine sS λe n x ep' h'=>?_
  exact hj _ _ _ e n x h'
 refine eG (λb H'=>H'=H∧b=(!has t r.name&&has t r.plus&&has t r.minus)) ?_ λk₂ hk2=>?_
 ·intro b H';refine qA λz1 z2=>?_;subst z1 z2
  refine fC (λc=>?_) λc=>?_
  ·have c':=c
   simp only [Bool.and_eq_true,Bool.not_eq_true'] at c'
   refine ex547 hg (by walk_at "lk") (by walk_at "lk") ?_
   refine aZ (J H' lf t ep r h c'.1.2 c'.2) ?_ λU U q=>q.elim
   intro v H'';refine qA λz1 z2=>?_;subst z1 z2
   refine aA (by walk_at "lk") ?_
   refine aA (cR (by decide) (by decide) rfl) ?_
   refine gD (key:= .s r.name) rfl h (by rw [dO];exact oz266 hz) (aI aS _) λH1 ep1 n₁ x1 e1=>?_
   rw [dB f t c'.1.1] at e1
   refine hk _ _ (cJ E' n₁ x1 ⟨ep1,?_⟩)
   unfold d4
   rw [if_pos c];exact e1
  ·refine hk _ _ (cJ E' rfl (Ext.refl _ _) ⟨ep,?_⟩)
   unfold d4
   rw [if_neg (by rw [c];decide)];exact h
 ·have fi:∀x,(aP (.s x) (aG f t)).isSome=has t x:=λx=>by rw [bZ];unfold has;cases t.lookup x<;>rfl
  refine aA (cR (by decide) (by decide) rfl) (aA (by walk_at "lk") (aA (hZ (key:= .s r.name) h rfl (aI aS _)) ?_))
  rw [fi]
  refine fC (λc1=>?_) λc1=>hk2 _ _ ⟨rfl,by rw [c1];rfl⟩
  refine aA (cR (by decide) (by decide) rfl) (aA (by walk_at "lk") (aA (rA (key:= .s r.plus) h rfl (aI aS _)) ?_))
  rw [fi]
  refine fC (λc2=>?_) λc2=>hk2 _ _ ⟨rfl,by rw [c1,c2];rfl⟩
  refine aA (cR (by decide) (by decide) rfl) (aA (by walk_at "lk") (aA (rA (key:= .s r.minus) h rfl (aI aS _)) ?_))
  rw [fi]
  exact fC (λc3=>hk2 _ _ ⟨rfl,by rw [c1,c2,c3];rfl⟩) λc3=>hk2 _ _ ⟨rfl,by rw [c1,c2,c3];rfl⟩
theorem vF{t:Tab α}{r:Row}:(d4 join t r).length≤t.length+1:=by
 unfold d4
 split<;>simp
theorem o0{d g:Nat}(hg:g=540∨g=554)(J:zU p d g f join){lr lt:Nat}{H:Hp}{base:Tab α}{ep:Nat}(hr:H[lr]?=some (.list (rows.map dH)))(ht:H[lt]?=some (.dict (aG f base) ep))(hz:base.length≤100)(hn:rows.length≤6):
  Rs (λv H'=>v= .loc H.length∧H.length<H'.length∧Ext [] H H'∧∃ep',H'[H.length]?=some (.dict (aG f (pG join rows base)) ep')) (λU U=>False) (aB (KK p) (d+1) 547 [.loc lr,.loc lt,.fix (.ref g)] H):=by
 refine bD E_547 ?_
 refine bA (dict_ ht (aY _ _) (by rw [dO];exact qP hz)) ?_
 have x0:Ext [] H (H++[.dict (aG f base) 0]):=Ext.new
 have e0:(H++[O.dict (aG f base) 0])[H.length]?=some (.dict (aG f base) 0):=fA
 have n0:(H++[O.dict (aG f base) 0]).length=H.length+1:=by exact List.length_append
 generalize (H++[O.dict (aG f base) 0])=H₀ at x0 e0 n0 ⊢
 have hr0:=x0.2 _ _ hr List.not_mem_nil
 have lr_ne:lr≠H.length:=λq=>by have:=bS hr;exact EE this q
 have hlm:(rows.map dH).length=rows.length:=List.length_map _
 refine bA (kG hr0 (by rw [hlm];exact S9 hn)) ?_
 have hi:(((rows.map dH).length:Nat):Int)<2^31:=by rw [hlm];exact oz265 hn
 with_reducible refine kW (Int.natCast_nonneg _) hi ?_
 have hit:=nU (H:=H₀) (n:=(((rows.map dH).length:Nat):Int).toNat) (by rw [Int.toNat_natCast,hlm];exact S9 hn)
 rw [Int.toNat_natCast] at hit ⊢
 refine lO (λr lc H'=>EnvM lc [(aH,.loc H.length),(gI,.fix (.ref g)),(cU,.loc lr)]∧r.length≤rows.length∧H'.length=H.length+1∧Ext [H.length] H₀ H'∧∃t ep',H'[H.length]?=some (.dict (aG f t) ep')∧t.length+r.length*rows.length≤200∧jK join rows r.length t=pG join rows base) hit ?_ ?_ ?_
 ·have hlen:(List.map (λ(i:Nat)=>V.int i) (List.range (rows.map dH).length)).length=rows.length:=by simp
  refine (dZ (EnvM.cons (by walk_at "lk") (EnvM.cons (by walk_at "lk") (EnvM.cons (by walk_at "lk") EnvM.nil))) (Nat.le_of_eq hlen) n0 (Ext.refl _ _) (eW base 0 e0 ?_ ?_))
  ·rw [hlen]
   have:rows.length*rows.length≤6*6:=Nat.mul_le_mul hn hn
   exact oz264 this hz
  ·rw [hlen];rfl
 ·intro lc H';refine sT λE U n x t ep' e U q=>?_
  refine aA (by walk_at "lk") ?_
  refine (cJ rfl (wS n) ⟨(MY n),λl o h U=>x.2 l o (x0.2 l o h (by assumption)) ?_⟩ ⟨ep',?_⟩)
  ·have:=bS h;refine n1 ?_;exact oz93 this
  ·have q:t=pG join rows base:=q
   rw [←q];exact e
 ·intro v r lc H' j;refine sT λE hl n x t ep' e hz' q=>?_;intro hj _ _
  refine aA (by walk_at "lk") ?_
  have hr':=x.2 _ _ hr0 (by refine n1 ?_;exact MZ lr_ne)
  have hmul:(v::r).length*rows.length=r.length*rows.length+rows.length:=by rw [List.length_cons,Nat.succ_mul]
  refine gV (λu lc H''=>EnvM lc [(aH,.loc H.length),(gI,.fix (.ref g)),(cU,.loc lr)]∧H''.length=H.length+1∧Ext [H.length] H₀ H''∧∃rs t' ep',u=rs.map dH∧H''[H.length]?=some (.dict (aG f t') ep')∧t'.length+rs.length+r.length*rows.length≤200∧dA join rs t'=dA join rows t) hr' (λu lc H'' i=>i.2.2.1.2 _ _ hr0 (by refine n1 ?_;exact MZ lr_ne)) (cJ (E.put (by kernel_rfl)) n x (eY rows t ep' rfl e (oz261 hmul hz') rfl)) ?_ ?_
  ·intro lc H'';refine qJ λE' n' x' rs t' ep2 hu e' hz2 q'=>?_
   cases rs with
   |cons a b=>cases hu
   |nil=>
    refine hj _ _ (dZ E' (by rw [List.length_cons] at hl;exact NJ hl) n' x' (eW t' ep2 e' (by simpa using hz2) ?_))
    have q':t'=dA join rows t:=q'
    rw [q'];exact q
  ·intro u us lc H'' j';refine qJ λE' n' x' rs t' ep2 hu e' hz2 q'=>?_;intro hj' _ _
   cases rs with
   |nil=>cases hu
   |cons a b=>
    cases hu
    refine CU hg J E' e' (by simp at hz2;exact oz260 hz2) λlc3 H3 ep3 E3 n3 x3 e3=>hj' _ _ (cJ E3 (oz259 n' n3) (x'.trans x3) (eY b (d4 join t' a) ep3 rfl e3 ?_ q'))
    have:=vF (join:=join) (t:=t') (r:=a)
    rw [List.length_cons] at hz2
    exact oz258 hz2 this
end
end
section variable {H:Hp} {l:Nat}
theorem kH{vs:TL}(h:H[l]?=some (.list vs)):∃chk,dQ H (.loc l)=some (vs,chk)∧∀H':Hp,H'[l]?=some (.list vs)→chk H'=true:=(iEA _ (FD h) (λU h'=>sameAt_is.mpr h'))
theorem FE{es:TG}{ep:Nat}(h:H[l]?=some (.dict es ep))(ha:cS es=true):∃chk,dQ H (.loc l)=some (es.map λ(e:Key×V)=>iZ e.1,chk)∧∀H':Hp,H'[l]?=some (.dict es ep)→chk H'=true:=(iEA _ (FF h ha) (λU h'=>sameAt_is.mpr h'))
section variable {l:Nat}
variable {P:TP} {X:TX}
theorem gN {H:Hp} {o:O} {vs:TL} {turn:V→Hp→(TO→Hp→Res)→Res} {j:Hp→Res} (g:V→TO) {chk:Hp→Bool} (h:H[l]?=some o) (hit:dQ H (.loc l)=some (vs,chk)) (hc:∀H':Hp,H'[l]?=some o→chk H'=true) (hz:vs.length≤1000)
  (step:∀v∈vs,∀(H':Hp) (i:TO→Hp→Res),Ext [] H H'→Rs P X (i (g v) H')→Rs P X (turn v H' i))
  (done:∀H',H'.length=H.length+1→Ext [] H H'→H'[H.length]?=some (.list (vs.filterMap g))→Rs P X (j H')):Rs P X (iE H (.loc l) turn j):=by
 unfold iE
 have hl:=bS h
 refine aA hit (pP (λr H'=>H'.length=H.length+1∧Ext [] H H'∧∃us q,vs=q++r∧us=q.filterMap g∧H'[H.length]?=some (.list us)) (λr H' i=>hc H' (i.2.1.2 _ _ h List.not_mem_nil)) ?_ ?_ vs _ (iAA List.length_append Ext.new (eW ([]) ([]) rfl rfl fA)))
 ·intro H';refine AB λn x us q e z2 e'=>?_;subst z2
  rw [List.append_nil] at e
  subst e
  exact done H' n x e'
 ·intro v r H' i;refine AB λn x us q e z2 e'=>?_;subst z2;intro hn hs
  have hv:v∈vs:=by rw [e];exact List.mem_append_right _ k0
  have hq:(q.filterMap g).length≤1000:=Nat.le_trans (List.length_filterMap_le _ _) (by rw [e] at hz;simp at hz;exact oz267 hz)
  refine step v hv H' i x ?_
  cases hg:g v with
  |none=>exact hn H' (iAA n x (eW _ (q++[v]) (by rw [e];simp) rfl (by rw [List.filterMap_append,e'];simp [hg])))
  |some y=>
   refine hs y H' _ (dE e') hq (iAA (by simpa using n) ⟨by simp;exact MY n,λm o' h1 h2=>?_⟩ (eW _ (q++[v]) (by rw [e];simp) rfl ?_))
   ·exact D1 (by have:=bS h1;exact D9 this) (x.2 m o' h1 h2)
   ·rw [jF e',List.filterMap_append];simp [hg]
theorem D7 {H:Hp} {xs:TS} {x:Str} {j:TV} (hl:H[l]?=some (.list (xs.map .str))) (hz:xs.length≤1000) (hx:x∈xs)
  (h:∀H',H'.length=H.length→Ext [l] H H'→H'[l]?=some (.list ((xs.erase x).map .str))→Rs P X (j .none H')):
  Rs P X (gd ((aO H l).isSome&&f0 hO)<|ob (aO H l) λxs=>ob2 (aM H l xs hO [.str x]) j):=by
 have e:aM H l (xs.map .str) hO [.str x]=some (.none,H.set l (.list ((xs.erase x).map .str))):=by
  have:aM H l (xs.map .str) hO [.str x]=if (xs.map V.str).length≤1000∧rN (xs.map .str)=true then (rF x (xs.map .str)).map λr=>(.none,H.set l (.list r)) else none:=by kernel_rfl
  have ha:∀xs:TS,rN (xs.map .str)=true:=λxs=>by
   induction xs with
   |nil=>rfl
   |cons y r ih=>exact ih
  have hd:∀xs:TS,x∈xs→rF x (xs.map .str)=some ((xs.erase x).map .str):=λxs hx=>by
   induction xs with
   |nil=>cases hx
   |cons y r ih=>
    show (if y=x then some (r.map .str) else (rF x (r.map .str)).map (V.str y::·))=_
    by_cases q:y=x
    ·rw [if_pos q,q,List.erase_cons_head]
    ·rw [if_neg q,List.erase_cons_tail (by simpa using q),ih ((List.mem_cons.mp hx).resolve_left λz=>q z.symm)];rfl
  rw [this,if_pos ⟨by exact lm1 (by assumption),ha xs⟩,hd xs hx];rfl
 refine gU (by rw [dE hl];kernel_rfl) (aA (dE hl) (bA e (h _ List.length_set (.set k0) (jF hl))))
theorem yI{f:Addr→List (Str×V)→Res}{g:Nat→Res}(h:Rs P X (g l)):Rs P X (dis (.loc l) f g):=h
end
theorem gt_{x y:Int}:cmp H .Gt (.int x) (.int y)=some (decide (y<x)):=rfl
theorem neL_{m:Nat}{xs:TS}(h1:H[l]?=some (.list (xs.map .str)))(h2:H[m]?=some (.list [])):cmp H .NotEq (.loc l) (.loc m)=some (!xs.isEmpty):=by
 show (eqV H (.loc l) (.loc m)).map (!·)=_
 have:eqV H (.loc l) (.loc m)=some xs.isEmpty:=by
  show ((aO H l).bind λxs=>(aO H m).bind λys=>if xs.length=ys.length then jV eq1 xs ys else some false)=_
  rw [dE h1,dE h2]
  dsimp only [Option.bind]
  cases xs with
  |nil=>rfl
  |cons a r=>rw [if_neg (by exact Nat.succ_ne_zero _)];rfl
 rw [this];rfl
noncomputable def eJ:TS→TS→TS→TS×TS
 |a,t,[]=>(a,t)
 |a,t,m::ms=>if m≠S_∧m∈a then eJ (a.erase m) t ms else if m≠S_ then eJ a (t++[m]) ms else eJ a t ms
noncomputable def mkA(w:Int)(p m:Str):V:=if p=m then aK (.int w) (.str S_) (.str S_) else aK (.int w) (.str p) (.str m)
theorem lA {P:TP} {X:TX} {a b:V} {x y:Str} {c:V→TV} {e1 e2:Hp→Option Bool} (h1:∀H,e1 H=some (!(x==y))) (h2:∀H,e2 H=some (!(x==y))) (ha:a= .str x) (hb:b= .str y)
  (h:Rs P X (c (if x=y then .str S_ else .str x) (if x=y then .str S_ else .str y) H)):
  Rs P X (bR (λv1180 H1181=>
bR (λv1183 H1184=>
c v1180 v1183 H1184) λk1182=>
ob (e2 H1181) λt1185=>
if t1185=true then
k1182 b H1181
else
k1182 (.str S_) H1181) λk1179=>
ob (e1 H) λt1186=>
if t1186=true then
k1179 a H
else
k1179 (.str S_) H):=by
 subst ha hb
 refine bJ (λv H'=>v=(if x=y then .str S_ else .str x)∧H'=H) ?_ λk hk=>?_
 ·intro v H';refine qA λz1 z2=>?_;subst z1 z2
  refine bJ (λv H''=>v=(if x=y then .str S_ else .str y)∧H''=H') ?_ λk hk=>?_
  ·intro v H'';refine qA λz1 z2=>?_;subst z1 z2
   exact h
  ·refine aA (h2 _) ?_
   by_cases q:x=y
   ·exact r_f (by rw [q];exact nbq _) (hk _ _ ⟨by rw [if_pos q],rfl⟩)
   ·exact r_t (by rw [beq_false_of_ne q];rfl) (hk _ _ ⟨by rw [if_neg q],rfl⟩)
 ·refine aA (h1 _) ?_
  by_cases q:x=y
  ·exact r_f (by rw [q];exact nbq _) (hk _ _ ⟨by rw [if_pos q],rfl⟩)
  ·exact r_t (by rw [beq_false_of_ne q];rfl) (hk _ _ ⟨by rw [if_neg q],rfl⟩)
theorem EU(w:Int)(x y:Str):aK (.int w) (if x=y then .str S_ else .str x) (if x=y then .str S_ else .str y)=mkA w x y:=by
 unfold mkA
 by_cases q:x=y
 ·rw [if_pos q,if_pos q,if_pos q]
 ·rw [if_neg q,if_neg q,if_neg q]
end
section
noncomputable def sm(N:Str→Int)(l:TS):Int:=(l.map N).sum
theorem DN(N:Str→Int){l:TS}{m:Str}(h:m∈l):sm N l=N m+sm N (l.erase m):=by
 induction l with
 |nil=>cases h
 |cons y r ih=>
  by_cases q:y=m
  ·subst q;rw [List.erase_cons_head];unfold sm;exact rfl
  ·have:=ih ((List.mem_cons.mp h).resolve_left λz=>q z.symm)
   rw [List.erase_cons_tail (by simpa using q)]
   unfold sm at *
   simp only [List.map_cons,List.sum_cons]
   exact oz52 this
theorem jM(N:Str→Int)(h0:N S_=0):∀(ms a t:TS),sm N (eJ a t ms).1 - sm N (eJ a t ms).2=sm N a - sm N t - sm N ms
 |[],a,t=>by unfold eJ;simp [sm]
 |m::ms,a,t=>by
  have hc:sm N (m::ms)=N m+sm N ms:=by exact rfl
  unfold eJ
  split
  ·rename_i h
   rw [jM N h0 ms,hc,DN N h.2];exact oz51
  ·split
   ·rw [jM N h0 ms,hc]
    have:sm N (t++[m])=sm N t+N m:=by simp [sm]
    exact oz50 this
   ·rename_i h1 h2
    have:m=S_:=Decidable.byContradiction λq=>h2 q
    rw [jM N h0 ms,hc,this,h0];exact oz49
theorem hK:∀(ms a t:TS) {x:Str},(x∈(eJ a t ms).1→x∈a)∧(x∈(eJ a t ms).2→x∈t∨x∈ms∧x≠S_)
 |[],a,t,x=>⟨λh=>h,λh=> .inl h⟩
 |m::ms,a,t,x=>by
  unfold eJ
  split
  ·have:=hK ms (a.erase m) t (x:=x)
   exact ⟨λh=>List.mem_of_mem_erase (this.1 h),λh=>(this.2 h).imp id λq=>⟨List.mem_cons_of_mem _ q.1,q.2⟩⟩
  ·split
   ·rename_i h1 h2
    have:=hK ms a (t++[m]) (x:=x)
    refine ⟨this.1,λh=>?_⟩
    rcases this.2 h with q|q
    ·rcases List.mem_append.mp q with q|q
     ·exact .inl q
     ·rw [List.mem_singleton.mp q];exact .inr ⟨List.mem_cons_self ..,h2⟩
    ·exact .inr ⟨List.mem_cons_of_mem _ q.1,q.2⟩
   ·have:=hK ms a t (x:=x)
    exact ⟨this.1,λh=>(this.2 h).imp id λq=>⟨List.mem_cons_of_mem _ q.1,q.2⟩⟩
noncomputable def FA:V→TO
 | .str x=>if (!(x==S_))=true then some (.str x) else none
 |_=>none
theorem nS(y:Str):FA (.str y)=if (!(y==S_))=true then some (.str y) else none:=rfl
theorem B9(ps:TS):(ps.map .str).filterMap FA=(ps.filter λx=>!(x==S_)).map .str:=by
 induction ps with
 |nil=>rfl
 |cons y r ih=>
  rw [List.map_cons,List.filter_cons]
  cases q: !(y==S_) with
  |true=>rw [List.filterMap_cons_some (b:= .str y) (by rw [nS,if_pos q]),ih];rfl
  |false=>rw [List.filterMap_cons_none (by rw [nS,if_neg (by rw [q];decide)]),ih];rfl
theorem rO {p:Params} {d:Nat} {H:Hp} {w:Int} {lp lm:Nat} {ps ms:TS} {R:TS×TS} (hp:H[lp]?=some (.list (ps.map .str))) (hm:H[lm]?=some (.list (ms.map .str))) (zp:ps.length≤2) (zm:ms.length≤2)
  (hR:eJ (ps.filter λx=>!(x==S_)) [] ms=R):
  Rs (λv H'=>(R.1.length≤1∧R.2.length≤1∧v=mkA w (R.1.headD S_) (R.2.headD S_))∧Ext [] H H') (λc H'=>c=59∧(1<R.1.length∨1<R.2.length)∧Ext [] H H') (aB (KK p) (d+1) 280 [.int w,.loc lp,.loc lm] H):=by
 refine bD E_280 ?_
 refine oEA (kH hp) λchk hit hc=>?_
 refine gN FA hp hit hc (by refine lm1 ?_;exact oz43 zp) ?_ ?_
 ·intro v hv H' i x h
  refine oEA (List.mem_map.mp hv) λy U z1=>?_;subst z1
  refine aA fP ?_
  rw [nS] at h
  cases q: !(y==S_) with
  |true=>rw [if_pos q] at h;exact r_t rfl h
  |false=>rw [if_neg (by rw [q];decide)] at h;exact r_f rfl h
 intro H1 n₁ x1 e₁
 rw [B9] at e₁
 have za:(ps.filter λx=>!(x==S_)).length≤2:=Nat.le_trans (List.length_filter_le _ _) zp
 generalize (ps.filter λx=>!(x==S_))=a at hR e₁ za
 refine dI λH2 n₂ x2 e₂=>?_
 have hla:=bS e₁
 have hlp:=bS hp
 have hlm:=bS hm
 have eA:=x2.2 _ _ e₁ List.not_mem_nil
 have eM:=x2.2 _ _ (x1.2 _ _ hm List.not_mem_nil) List.not_mem_nil
 have X02:Ext [] H H2:=x1.trans x2
 generalize hla':H.length=la at *
 generalize hlt':H1.length=lt at *
 refine gV (λr lc H'=>EnvM lc [(jO,.loc lt),(iF,.loc la),(aX,.int w)]∧Ext [] H H'∧∃ms' a' t',r=ms'.map V.str∧H'[la]?=some (.list (a'.map .str))∧H'[lt]?=some (.list (t'.map .str))∧eJ a' t' ms'=R∧a'.length≤2∧t'.length+ms'.length≤2) eM (λr lc H' i=>i.2.1.2 _ _ hm List.not_mem_nil) ?_ ?_ ?_
 ·refine (iAA (EnvM.cons (by walk_at "lk") (EnvM.cons (by walk_at "lk") (EnvM.cons (by walk_at "lk") EnvM.nil))) X02 (dR ms a ([]) rfl eA e₂ hR ⟨za,by simpa using zm⟩))
 ·intro lc H';refine oR λE X ms' a' t' hr eA eT hR za zt=>?_
  cases ms' with
  |cons b r=>cases hr
  |nil=>
  have hR:(a',t')=R:=hR
  subst hR
  have fin:∀{H''},Ext [] H' H''→Ext [] H H'':=λq=>X.trans q
  refine eG (λb H''=>H''=H'∧b=(decide (1<a'.length) || decide (1<t'.length))) ?_ λk' hk=>?_
  ·intro b H'';refine qA λz1 z2=>?_;subst z1 z2
   refine fC (λq=>?_) λq=>?_
   ·refine gU X59 (iAA rfl ?_ X)
    simpa using q
   ·have q:a'.length≤1∧t'.length≤1:=by simpa using q
    refine aA (by walk_at "lk") ?_
    refine bJ (λv H3=>v= .str (a'.headD S_)∧Ext [] H'' H3) ?_ λk₂ hk2=>?_
    ·intro v H3;refine qA λz1 X3=>?_;subst z1
     refine bJ (λv H4=>v= .str (t'.headD S_)∧Ext [] H3 H4) ?_ λk₃ hk3=>?_
     ·intro v H4;refine qA λz1 X4=>?_;subst z1
      refine lA (x:=a'.headD S_) (y:=t'.headD S_) (c:=λa b H=> .ok (aK (.int w) a b) H) (e1:=λH=>cmp H .NotEq (.str (a'.headD S_)) (.str (t'.headD S_))) (e2:=λH=>cmp H .NotEq (.str (a'.headD S_)) (.str (t'.headD S_))) (λH=>fP) (λH=>fP) rfl rfl ?_
      exact ⟨(iAA q.1 q.2 (EU _ _ _)),(X.trans X3).trans X4⟩
     ·refine aA (by walk_at "lk") ?_
      refine dI λH4 n4 x4 e4=>?_
      have eT':=x4.2 _ _ (X3.2 _ _ eT List.not_mem_nil) List.not_mem_nil
      refine aA (neL_ eT' e4) ?_
      cases t' with
      |nil=>exact r_f rfl (hk3 _ _ ⟨rfl,x4⟩)
      |cons u r=>
       refine r_t rfl (aA (by walk_at "lk") (aA (oZ eT' (by decide) (by decide) rfl) (hk3 _ _ ⟨rfl,x4⟩)))
    ·refine aA (by walk_at "lk") ?_
     refine dI λH4 n4 x4 e4=>?_
     have eA':=x4.2 _ _ eA List.not_mem_nil
     refine aA (neL_ eA' e4) ?_
     cases a' with
     |nil=>exact r_f rfl (hk2 _ _ ⟨rfl,x4⟩)
     |cons u r=>
      refine r_t rfl (aA (by walk_at "lk") (aA (oZ eA' (by decide) (by decide) rfl) (hk2 _ _ ⟨rfl,x4⟩)))
  ·have la_:((a'.map V.str).length:Int)=a'.length:=by simp
   have lt_:((t'.map V.str).length:Int)=t'.length:=by simp
   refine aA (by walk_at "lk") (bA (kG eA (by refine lm2 ?_;exact oz48 za)) (aA gt_ ?_))
   refine fC (λq=>hk _ _ ⟨rfl,?_⟩) λq=>?_
   ·have:1<a'.length:=by have:=of_decide_eq_true q;exact oz47 la_ this
    rw [decide_eq_true this];rfl
   ·have:¬1<a'.length:=by have:=of_decide_eq_false q;exact oz46 la_ this
    refine aA (by walk_at "lk") (bA (kG eT (by simp at zt ⊢;exact oz48 zt)) (aA gt_ ?_))
    refine fC (λq2=>hk _ _ ⟨rfl,?_⟩) λq2=>hk _ _ ⟨rfl,?_⟩
    ·have:1<t'.length:=by have:=of_decide_eq_true q2;exact oz47 lt_ this
     rw [decide_eq_true this,Bool.or_true]
    ·have h2:¬1<t'.length:=by have:=of_decide_eq_false q2;exact oz46 lt_ this
     rw [decide_eq_false this,decide_eq_false h2];rfl
 ·intro v r lc H' j;refine oR λE X ms' a' t' hr eA eT hR za zt=>?_;intro hj _ _
  cases ms' with
  |nil=>cases hr
  |cons m ms'=>
  cases hr
  have E':EnvM ((aQ,.str m)::lc) [(jO,.loc lt),(iF,.loc la),(aX,.int w)]:=E.put (by kernel_rfl)
  rw [List.length_cons] at zt
  refine mQ (λH''=>Ext [] H H''∧∃a' t',H''[la]?=some (.list (a'.map .str))∧H''[lt]?=some (.list (t'.map .str))∧eJ a' t' ms'=R∧a'.length≤2∧t'.length+ms'.length≤2) ?_ λk₁ hk1=>?_
  ·intro H'';refine wK λX a' t' h1 h2 h3 h4 h5=>?_
   exact hj _ _ (iAA E' X (dR ms' a' t' rfl h1 h2 h3 ⟨h4,h5⟩))
  refine eG (λb H''=>H''=H'∧b=decide (m≠S_∧m∈a')) ?_ λk₂ hk2=>?_
  ·intro b H'';refine qA λz1 z2=>?_;subst z1 z2
   unfold eJ at hR
   have upA:∀{H3:Hp},Ext [la] H'' H3→Ext [] H H3:=λx=>⟨Nat.le_trans X.1 x.1,λl o h U=>x.2 l o (X.2 l o h (by assumption)) (by have:=bS h;refine n1 ?_;exact oz45 this hla')⟩
   have upT:∀{H3:Hp},Ext [lt] H'' H3→Ext [] H H3:=λx=>⟨Nat.le_trans X.1 x.1,λl o h U=>x.2 l o (X.2 l o h (by assumption)) (by have:=bS h;refine n1 ?_;exact oz44 this n₁ hla')⟩
   by_cases c:m≠S_∧m∈a'
   ·rw [if_pos c] at hR
    refine r_t (decide_eq_true c) (aA (by walk_at "lk") ?_)
    refine bJ (λU H3=>Ext [] H H3∧H3[la]?=some (.list ((a'.erase m).map .str))∧H3[lt]?=some (.list (t'.map .str))) (λU H3 h=>hk1 _ ⟨h.1,_,_,h.2.1,h.2.2,hR,?_,by exact oz41 zt⟩) λk₃ hk3=>?_
    ·exact Nat.le_trans (List.length_erase_le) za
    ·refine yI (D7 eA (oz43 za) c.2 λH3 n3 x3 e3=>hk3 _ _ (iAA (upA x3) e3 (x3.2 _ _ eT (by refine n1 ?_;exact oz42 n₁))))
   ·rw [if_neg c] at hR
    refine r_f (decide_eq_false c) ?_
    refine mQ (λH3=>Ext [] H H3∧∃a' t',H3[la]?=some (.list (a'.map .str))∧H3[lt]?=some (.list (t'.map .str))∧eJ a' t' ms'=R∧a'.length≤2∧t'.length+ms'.length≤2) (λH3 h=>hk1 _ h) λk₃ hk3=>?_
    refine aA fP ?_
    by_cases c2:m=S_
    ·rw [if_neg (by simpa using c2)] at hR
     exact r_f (by rw [c2];exact nbq _) (hk3 _ ⟨X,a',t',eA,eT,hR,za,by exact oz41 zt⟩)
    ·rw [if_pos c2] at hR
     refine r_t (by rw [beq_false_of_ne c2];rfl) (aA (by walk_at "lk") ?_)
     refine bJ (λU H3=>Ext [] H H3∧H3[la]?=some (.list (a'.map .str))∧H3[lt]?=some (.list ((t'++[m]).map .str))) (λU H3 h=>hk3 _ ⟨h.1,_,_,h.2.1,h.2.2,hR,za,by refine la8 ?_;exact oz40 zt⟩) λk₄ hk4=>?_
     refine yI (j8 eT (by refine lm1 ?_;exact oz39 zt) λH3 n3 x3 e3=>hk4 _ _ (iAA (upT x3) (x3.2 _ _ eA (by refine n1 ?_;exact oz38 n₁)) (by rw [e3];exact mp1)))
  ·refine aA fP ?_
   by_cases c1:m=S_
   ·exact r_f (by rw [c1];exact nbq _) (hk2 _ _ ⟨rfl,by rw [decide_eq_false λq=>q.1 c1]⟩)
   ·refine r_t (by rw [beq_false_of_ne c1];rfl) (aA (by walk_at "lk") (aA (FJ eA) ?_))
    refine fC (λq=>hk2 _ _ ⟨rfl,?_⟩) λq=>hk2 _ _ ⟨rfl,?_⟩
    ·rw [decide_eq_true ⟨c1,of_decide_eq_true q⟩]
    ·rw [decide_eq_false λz=>(of_decide_eq_false q) z.2]
end
section variable {x:Str}
theorem wZ{p:Params}{d:Nat}{H:Hp}{w:Int}{y:Str}:Rs (λv H'=>v=mkA (-w) y x∧H'=H) (λU U=>False) (aB (KK p) (d+1) 254 [aK (.int w) (.str x) (.str y)] H):=by
 refine bD E_254 ?_
 refine lA (x:=y) (y:=x) (c:=λa b H=> .ok (aK (.int (-w)) a b) H) (e1:=λH=>cmp H .NotEq (.str y) (.str x)) (e2:=λH=>cmp H .NotEq (.str y) (.str x)) (λH=>fP) (λH=>fP) rfl rfl ?_
 exact ⟨EU _ _ _,rfl⟩
noncomputable def AY(v:V)(f:(Str→Int)→Int)(ps ms:TS):Prop:=∃w x y,v=aK (.int w) (.str x) (.str y)∧(∀N:Str→Int,N S_=0→w+N x - N y=f N)∧(x=S_∨x∈ps)∧(y=S_∨y∈ms)
theorem tH{l:TS}(h:l.headD S_=x):x=S_∨x∈l:=by
 cases l with
 |nil=>exact .inl h.symm
 |cons a r=>subst h;exact .inr (List.mem_cons_self ..)
theorem zZ(N:Str→Int)(h0:N S_=0){l:TS}(h:l.length≤1):sm N l=N (l.headD S_):=by
 cases l with
 |nil=>simp [sm,h0]
 |cons a r=>
  cases r with
  |nil=>simp [sm]
  |cons b q=>simp at h
theorem BY{w:Int}{y:Str}{f:(Str→Int)→Int}{ps ms:TS}(hf:∀N:Str→Int,N S_=0→w+N x - N y=f N)(hx:x=S_∨x∈ps)(hy:y=S_∨y∈ms):AY (mkA w x y) f ps ms:=by
 unfold mkA
 split
 ·rename_i h
  refine (eY w S_ S_ rfl (λN h0=>?_) (.inl rfl) (.inl rfl))
  rw [←hf N h0,h];exact oz54
 ·exact (eY w x y rfl hf hx hy)
theorem xW{p:Params}{d:Nat}{H:Hp}{w1 w2:Int}{p1 m1 p2 m2:Str}:
  Rs (λv H'=>AY v (λN=>(w1+N p1 - N m1)+(w2+N p2 - N m2)) [p1,p2] [m1,m2]∧(p1=S_→m1=S_→m2=S_→v=aK (.int (w1+w2)) (.str p2) (.str S_))∧Ext [] H H') (λc H'=>c=59∧¬(p1=S_∧m1=S_∧m2=S_)∧Ext [] H H')
   (aB (KK p) (d+2) 261 [aK (.int w1) (.str p1) (.str m1),aK (.int w2) (.str p2) (.str m2)] H):=by
 refine bD E_261 ?_
 refine bA jN ?_
 refine dI λH1 n₁ x1 e1=>?_
 refine dI λH2 n₂ x2 e₂=>?_
 have X:Ext [] H H2:=x1.trans x2
 have one:p1=S_→m1=S_→m2=S_→eJ ([p1,p2].filter λx=>!(x==S_)) [] [m1,m2]=(if p2=S_ then [] else [p2],[]):=by
  rintro rfl rfl rfl
  have:∀a:TS,eJ a [] [S_,S_]=(a,[]):=λa=>by
   exact rfl
  rw [this]
  by_cases q:p2=S_
  ·rw [if_pos q,q];exact rfl
  ·rw [if_neg q];simp [q]
 refine aZ (rO (ps:=[p1,p2]) (ms:=[m1,m2]) (x2.2 _ _ e1 List.not_mem_nil) e₂ (Nat.le_refl _) (Nat.le_refl _) rfl) ?_ ?_
 ·intro v H3;refine qA λz1 x3=>?_;refine oAA z1 λh1 h2 z2=>?_;clear z1;subst z2
  refine (iAA ?_ (λq1 q2 q3=>?_) (X.trans x3))
  ·refine BY (λN h0=>?_) ?_ ?_
   ·have:=jM N h0 [m1,m2] ([p1,p2].filter λx=>!(x==S_)) []
    rw [zZ N h0 h1,zZ N h0 h2] at this
    have e:sm N ([p1,p2].filter λx=>!(x==S_))=N p1+N p2:=by
     have:∀l:TS,sm N (l.filter λx=>!(x==S_))=sm N l:=λl=>by
      induction l with
      |nil=>rfl
      |cons a r ih=>
       rw [List.filter_cons]
       by_cases q:a=S_
       ·subst q
        rw [if_neg (by simp),ih];simp [sm,h0]
       ·rw [if_pos (by simp [q])]
        unfold sm at *
        simp [ih]
     rw [this];simp [sm]
    have e2:sm N [m1,m2]=N m1+N m2:=by simp [sm]
    have e3:sm N []=0:=rfl
    rw [e,e2,e3] at this
    exact oz53 this
   ·rcases tH rfl with h|h
    ·exact .inl h
    ·exact .inr (List.mem_filter.mp ((hK _ _ _).1 h)).1
   ·rcases tH rfl with h|h
    ·exact .inl h
    ·rcases (hK _ _ _).2 h with h|h
     ·cases h
     ·exact .inr h.1
  ·rw [one q1 q2 q3]
   dsimp only
   unfold mkA
   by_cases q:p2=S_
   ·rw [if_pos q,q];exact rfl
   ·rw [if_neg q];simp [q]
 ·intro c H3;refine qAA λz1 h x3=>?_;subst z1
  refine ⟨rfl,λ⟨q1,q2,q3⟩=>?_,X.trans x3⟩
  rw [one q1 q2 q3] at h
  by_cases q:p2=S_
  ·rw [if_pos q] at h;simp at h
  ·rw [if_neg q] at h;simp at h
end
section
noncomputable def f9(rows:List Row):TG:=rows.map λr=>(Key.s r.name,mA r)
theorem hJ(rows:List Row):cS (f9 rows)=true:=by
 unfold cS f9
 refine List.all_eq_true.mpr λe he=>?_
 refine oEA (List.mem_map.mp he) λq U z1=>?_;subst z1
 rfl
theorem m8:∀{rows:List Row},(rows.map (·.name)).Nodup→EqOk rows (f9 rows)
 |[],_=>⟨λr hr=>(by cases hr),λx U=>rfl⟩
 |a::q,h=>by
  rw [List.map_cons,List.nodup_cons] at h
  have ih:=m8 h.2
  have e:∀x,aP (.s x) (f9 (a::q))=if Key.s a.name= .s x then some (mA a) else aP (.s x) (f9 q):=λx=>rfl
  refine ⟨λr hr=>?_,λx hx=>?_⟩
  ·rw [e]
   rcases List.mem_cons.mp hr with rfl|hr
   ·rw [if_pos rfl]
   ·rw [if_neg,ih.1 r hr]
    intro z
    exact h.1 (by rw [Key.s.inj z];exact List.mem_map.mpr (iEA r hr rfl))
  ·rw [e,if_neg (λz=>hx a (List.mem_cons_self ..) (Key.s.inj z)),ih.2 x λr hr=>hx r (List.mem_cons_of_mem _ hr)]
noncomputable def gF(rows:List Row)(x:Str):Prop:=∃r∈rows,r.name=x
noncomputable def Nn(T:Tab Int)(x:Str):Int:=match T.lookup x with
 |some i=>i
 |none=>0
structure sJ (rows:List Row) (T:Tab Int):Prop where
 ty:T.lookup S_=some 0
 fil:∀r∈rows,has T r.name=true→T.lookup r.name=some (Nn T r.plus - Nn T r.minus+r.worth)∧has T r.plus=true∧has T r.minus=true∧rk T r.plus<rk T r.name∧rk T r.minus<rk T r.name
 clo:rV rows T
 dep:∀r∈rows,(has T r.plus=true∨gF rows r.plus)∧(has T r.minus=true∨gF rows r.minus)
 row:∀r∈rows,r.name≠S_
 nd:(rows.map (·.name)).Nodup
 sz:rows.length≤6
section
variable {p:Params} {rows:List Row} {T:Tab Int}
noncomputable def cnt(rows:List Row)(T:Tab Int)(x:Str):Nat:=rows.countP λr=>has T r.name&&decide (rk T r.name<rk T x)
theorem UN{x:Str}{r:Row}(hr:r∈rows)(h1:has T r.name=true)(h2:rk T r.name<rk T x):cnt rows T r.name<cnt rows T x:=by
 unfold cnt
 have mono:∀q:Row,(has T q.name&&decide (rk T q.name<rk T r.name))=true→(has T q.name&&decide (rk T q.name<rk T x))=true:=λq hq=>by
  rw [Bool.and_eq_true] at hq ⊢
  exact ⟨hq.1,decide_eq_true (Nat.lt_trans (of_decide_eq_true hq.2) h2)⟩
 induction rows with
 |nil=>cases hr
 |cons q rs ih=>
  rw [List.countP_cons,List.countP_cons]
  rcases List.mem_cons.mp hr with rfl|hr
  ·have:=List.countP_mono_left (l:=rs) λq U=>mono q
   rw [if_neg (by rw [decide_eq_false (Nat.lt_irrefl _)];simp),if_pos (by rw [h1,decide_eq_true h2];rfl)]
   exact oz61 this
  ·have:=ih hr
   by_cases c:(has T q.name&&decide (rk T q.name<rk T r.name))=true
   ·rw [if_pos c,if_pos (mono q c)];exact oz60 this
   ·rw [if_neg c]
    exact Nat.lt_of_lt_of_le this (Nat.le_add_right _ _)
structure PInv (rows:List Row) (T:Tab Int) (x0:Str) (simple:Bool) (n:Nat) (w:Int) (x y:Str):Prop where
 val:has T x0=true→has T x=true∧has T y=true∧w+Nn T x - Nn T y=Nn T x0
 smp:simple=true→y=S_∧(has T x=true∨gF rows x)∧(has T x0=true↔has T x=true)∧(has T x0=true→1≤n∧(gF rows x→cnt rows T x+2≤n))
theorem tS(W:sJ rows T):Nn T S_=0:=by unfold Nn;rw [W.ty]
theorem iJ(W:sJ rows T):has T S_=true:=by unfold has;rw [W.ty];rfl
theorem GW(W:sJ rows T){r:Row}(hr:r∈rows)(h:has T r.name=true):Nn T r.name=Nn T r.plus - Nn T r.minus+r.worth:=by
 have:=(W.fil r hr h).1
 unfold Nn at this ⊢
 rw [this]
theorem PInv.plus (W:sJ rows T) {x0:Str} {simple:Bool} {n:Nat} {w:Int} {y:Str} {r:Row} (hs:simple=true→∀r∈rows,r.minus=S_) (hr:r∈rows) (i:PInv rows T x0 simple (n+1) w r.name y) {v:V}
  (h:AY v (λN=>(w+N S_ - N y)+(r.worth+N r.plus - N r.minus)) [S_,r.plus] [y,r.minus]) (h1:(S_:Str)=S_→y=S_→r.minus=S_→v=aK (.int (w+r.worth)) (.str r.plus) (.str S_)):
  ∃w' x' y',v=aK (.int w') (.str x') (.str y')∧PInv rows T x0 simple n w' x' y':=by
 have ex:∃w' x' y',v=aK (.int w') (.str x') (.str y')∧(∀N:Str→Int,N S_=0→w'+N x' - N y'=(w+N S_ - N y)+(r.worth+N r.plus - N r.minus))∧(x'=S_∨x'∈[S_,r.plus])∧(y'=S_∨y'∈[y,r.minus])∧(simple=true→x'=r.plus∧y'=S_):=by
  cases q:simple with
  |false=>
   refine kZ h λw' x' y' a b c e=>?_;clear h
   exact (dR w' x' y' a b c e (λz=>by cases z))
  |true=>
   have hm:=hs q r hr
   have hy:=(i.smp q).1
   refine (dR _ _ _ (h1 rfl hy hm) (λN h0=>?_) (.inr k1) (.inl rfl) (λU=>⟨rfl,rfl⟩))
   rw [h0,hy,hm,h0];exact oz59
 refine iS ex λw' x' y' hv hN hx hy hsm=>?_;clear ex
 refine ⟨w',x',y',hv,λh0=>?_,λq=>?_⟩
 ·refine oAA (i.val h0) λa b c=>?_
  refine AI (W.fil r hr a) λU f1 f2 U U=>?_
  refine (iAA ?_ ?_ ?_)
  ·rcases hx with rfl|hx
   ·exact iJ W
   ·simp at hx;rcases hx with rfl|rfl
    ·exact iJ W
    ·exact f1
  ·rcases hy with rfl|hy
   ·exact iJ W
   ·simp at hy;rcases hy with rfl|rfl
    ·exact b
    ·exact f2
  ·rw [hN _ (tS W),tS W,←c,GW W hr a];exact oz58
 ·refine oA (hsm q) λz1 z2=>?_;subst z1 z2
  refine yR (i.smp q) λs1 s2 s3 s4=>?_
  have hm:=hs q r hr
  have hm':has T r.minus=true:=by rw [hm];exact iJ W
  have iff:has T r.name=true↔has T r.plus=true:=⟨λa=>(W.fil r hr a).2.1,λa=>W.clo r hr a hm'⟩
  refine (cJ rfl ((W.dep r hr).1) (s3.trans iff) (λh0=>?_))
  have h2:=(s4 h0).2 (iEA r hr rfl)
  have hp:=(s3.trans iff).mp h0
  refine ⟨(oz57 h2),?_⟩
  refine qEA λr' hr' e=>?_
  have:=UN (x:=r.name) hr' (by rw [e];exact hp) (by rw [e];exact (W.fil r hr (s3.mp h0)).2.2.2.1)
  rw [e] at this
  exact oz56 h2 this
theorem PInv.minus (W:sJ rows T) {x0:Str} {simple:Bool} {n:Nat} {w:Int} {x:Str} {r:Row} (hr:r∈rows) (i:PInv rows T x0 simple (n+1) w x r.name) {v:V} {w2:Int} {p2 m2:Str} (hv2:∀N:Str→Int,N S_=0→w2+N p2 - N m2= - r.worth+N r.minus - N r.plus) (hp2:p2=S_∨p2=r.minus) (hm2:m2=S_∨m2=r.plus)
  (h:AY v (λN=>(w+N x - N S_)+(w2+N p2 - N m2)) [x,p2] [S_,m2]):
  ∃w' x' y',v=aK (.int w') (.str x') (.str y')∧PInv rows T x0 simple n w' x' y':=by
 refine kZ h λw' x' y' hv hN hx hy=>?_;clear h
 refine ⟨w',x',y',hv,λh0=>?_,λq=>?_⟩
 ·refine oAA (i.val h0) λa b c=>?_
  refine AI (W.fil r hr b) λU f1 f2 U U=>?_
  have hp:has T p2=true:=by rcases hp2 with rfl|rfl;exact iJ W;exact f2
  have hm:has T m2=true:=by rcases hm2 with rfl|rfl;exact iJ W;exact f1
  refine (iAA ?_ ?_ ?_)
  ·rcases hx with rfl|hx
   ·exact iJ W
   ·simp at hx;rcases hx with rfl|rfl
    ·exact a
    ·exact hp
  ·rcases hy with rfl|hy
   ·exact iJ W
   ·simp at hy;rcases hy with rfl|rfl
    ·exact iJ W
    ·exact hm
  ·have:=hv2 _ (tS W)
   rw [hN _ (tS W)]
   dsimp only
   rw [tS W,←c,GW W hr b];exact oz55 this
 ·have:=(i.smp q).1
  exact absurd this (W.row r hr)
end
end
section
section
variable {p:Params} {rows:List Row} {T:Tab Int} {P:PG}
theorem X71:cW (KK p) 71=true:=@decide_eq_true _ (Classical.propDecidable _) ⟨_,{cls:=(cM _ rfl rfl rfl),set:=by kernel_rfl,obj:=(eQ _ _ _ _ (eQ _ _ _ _ (eQ _ _ _ _ (CJ _ _ _ rfl)))),init:=by kernel_rfl,fn:=by kernel_rfl,what:=by kernel_rfl,at_:=by kernel_rfl,body:=FV}⟩
theorem B5971:subIn (KK p) (.ref 59) (.ref 71)=some false:=by kernel_rfl
theorem B7171:subIn (KK p) (.ref 71) (.ref 71)=some true:=by kernel_rfl
theorem qB(hn:(rows.map (·.name)).Nodup)(x:Str):(∃r∈rows,r.name=x∧aP (.s x) (f9 rows)=some (mA r))∨((∀r∈rows,r.name≠x)∧aP (.s x) (f9 rows)=none):=by
 by_cases h:∃r∈rows,r.name=x
 ·refine oEA h λr hr z1=>?_;clear h;subst z1
  exact .inl (cM r hr rfl ((m8 hn).1 r hr))
 ·have h':∀r∈rows,r.name≠x:=λr h1 h2=>h (iEA r h1 h2)
  exact .inr ⟨h',(m8 hn).2 x h'⟩
theorem lenD_{H:Hp}{l:Nat}{es:TG}{ep:Nat}(h:H[l]?=some (.dict es ep))(hz:es.length<2^31)(ha:cS es=true):aD H (.builtin "len") [.loc l]=some (.int es.length,H):=by
 have e:aD H (.builtin "len") [.loc l]=onO none (λ vs=>if vs.length<2^31 then some (V.int vs.length,H) else none) (λ es U=>if es.length<2^31∧cS es=true then some (V.int es.length,H) else none) (λ U=>none) (λ U=>none) H[l]? :=by kernel_rfl
 exact e.trans ((yP h).trans (if_pos ⟨hz,ha⟩))
noncomputable def pV(rows:List Row)(T:Tab Int)(x0:Str)(simple:Bool)(v:V):Prop:=∃w x y,v=aK (.int w) (.str x) (.str y)∧¬gF rows x∧¬gF rows y∧(has T x0=true→has T x=true∧has T y=true∧w+Nn T x - Nn T y=Nn T x0)∧(simple=true→has T x0=true)
set_option maxHeartbeats 2000000 in
theorem yL (W:sJ rows T) {d:Nat} {H:Hp} {ep:Nat} {lc:Lc} {u:V} {n:Nat} {w:Int} {x y x0:Str} {simple:Bool} {j:TK} {PP:TP} {X:TX} (hs:simple=true→∀r∈rows,r.minus=S_)
  (he:H[P.eq]?=some (.dict (f9 rows) ep)) (E:EnvM lc [(aH,aK (.int w) (.str x) (.str y)),(aT,bG P)]) (i:PInv rows T x0 simple (n+1) w x y)
  (hj:∀lc' H' w' x' y',EnvM lc' [(aH,aK (.int w') (.str x') (.str y')),(aT,bG P)]→Ext [] H H'→PInv rows T x0 simple n w' x' y'→Rs PP X (j .next lc' H'))
  (hr:∀lc' v,pV rows T x0 simple v→Rs PP X (j (.ret v) lc' H)) (hx:∀H',(simple=true→¬has T x0=true)→Ext [] H H'→X 59 H'):
  Rs PP X (vZ p (aB (KK p) (d+2)) u lc H j):=by
 have aS:=hJ rows
 have E':EnvM ((cT,u)::lc) [(aH,aK (.int w) (.str x) (.str y)),(aT,bG P)]:=E.put (by kernel_rfl)
 have S_no:¬gF rows S_:=λ⟨r,hr,e⟩=>W.row r hr e
 have nor:∀{z},(∀r∈rows,r.name≠z)→¬gF rows z:=λh ⟨r,hr,e⟩=>h r hr e
 refine bJ (λv H'=>H'=H∧∃z,v= .str z∧((∃r∈rows,r.name=x)∧z=x∨(∀r∈rows,r.name≠x)∧z=y)) ?_ λk₁ hk1=>?_
 ·intro v H';refine qA λz1 z2=>?_;subst z1;refine oEA z2 λz z3 hz=>?_;clear z2;subst z3
  have E1:EnvM ((aQ,.str z)::(cT,u)::lc) [(aH,aK (.int w) (.str x) (.str y)),(aT,bG P)]:=E'.put (by kernel_rfl)
  refine eG (λb H''=>H''=H'∧b=decide (∀r∈rows,r.name≠z)) ?_ λk₂ hk2=>?_
  ·intro b H'';refine qA λz1 z2=>?_;subst z1 z2
   by_cases hd:∀r∈rows,r.name≠z
   ·refine r_t (decide_eq_true hd) (aA (by walk_at "lk") ?_)
    refine hr _ _ (dR w x y rfl ?_ ?_ i.val (λq=>?_))
    ·rcases hz with ⟨⟨r,hr,e⟩,rfl⟩|⟨h,rfl⟩
     ·exact absurd e (hd r hr)
     ·exact nor h
    ·rcases hz with ⟨⟨r,hr,e⟩,rfl⟩|⟨h,rfl⟩
     ·exact absurd e (hd r hr)
     ·exact nor hd
    ·refine yR (i.smp q) λs1 s2 s3 s4=>?_
     have hnx:¬gF rows x:=by
      rcases hz with ⟨⟨r,hr,e⟩,rfl⟩|⟨h,rfl⟩
      ·exact absurd e (hd r hr)
      ·exact nor h
     exact s3.mpr (s2.resolve_right hnx)
   ·have hz':∃r∈rows,r.name=z:=Decidable.byContradiction λq=>hd λr h1 h2=>q (iEA r h1 h2)
    refine oEA hz' λr hrr z1=>?_;clear hz';subst z1
    refine r_f (decide_eq_false hd) (aA (by walk_at "lk") (bD b5 ?_))
    refine aA (dT (key:= .s r.name) he rfl (aI aS _) ((m8 W.nd).1 r hrr)) ?_
    have E2:EnvM ((zP,mA r)::(aQ,.str r.name)::(cT,u)::lc) [(aH,aK (.int w) (.str x) (.str y)),(aT,bG P)]:=E1.put (by kernel_rfl)
    have E3:EnvM ((zP,mA r)::(aQ,.str r.name)::(cT,u)::lc) [(aT,bG P)]:=λq hq=>E2 q (List.mem_cons_of_mem _ hq)
    refine eF (λlc' H'=>Ext [] H'' H'∧∃w' x' y',EnvM lc' [(aH,aK (.int w') (.str x') (.str y')),(aT,bG P)]∧PInv rows T x0 simple n w' x' y') ?_ λk₃ hk3=>?_
    ·intro lc' H';refine yJ λX' w' x' y' E' i'=>?_
     exact hj _ _ _ _ _ E' X' i'
    refine aA (by walk_at "lk") (bD dW (aA uV ?_))
    by_cases c:x=r.name
    ·subst c
     refine r_t (beq_self_eq_true _) (aA (by walk_at "lk") (bD gJ (aA (by walk_at "lk") (bD fB ?_))))
     refine bJ (λv H'=>v= .str S_∧H'=H'') ?_ λk₄ hk4=>?_
     ·intro v H';refine qA λz1 z2=>?_;subst z1 z2
      refine bJ (λv H''=>v= .str y∧H''=H') ?_ λk₅ hk5=>?_
      ·intro v H2;refine qA λz1 z2=>?_;subst z1 z2
       refine aZ xW ?_ ?_
       ·intro v H3;refine qAA λhv h1 X3=>?_
        refine kA (i.plus W hs hrr hv h1) λw' x' y' z1 i'=>?_;subst z1
        exact hk3 _ _ ⟨X3,w',x',y',EnvM.cons lk0 (E3.put (by kernel_rfl)),i'⟩
       ·intro c H3;refine qAA λz1 hn X3=>?_;subst z1
        exact hx _ (λq=>absurd (iAA rfl ((i.smp q).1) (hs q r hrr)) hn) X3
      ·refine aA fP ?_
       refine fC (λq=>hk5 _ _ ⟨rfl,rfl⟩) λq=>hk5 _ _ ⟨?_,rfl⟩
       have:(S_:Str)=y:=by simpa using q
       rw [←this]
     ·refine aA fP ?_
      exact fC (λq=>hk4 _ _ ⟨rfl,rfl⟩) λq=>hk4 _ _ ⟨rfl,rfl⟩
    ·have hy:r.name=y:=by
      rcases hz with ⟨_,e⟩|⟨_,e⟩
      ·exact absurd e.symm c
      ·exact e
     subst hy
     refine r_f (beq_false_of_ne c) (aA (by walk_at "lk") (bD gJ (aA (by walk_at "lk") (bD dW ?_))))
     refine bJ (λv H'=>v= .str x∧H'=H'') ?_ λk₄ hk4=>?_
     ·intro v H';refine qA λz1 z2=>?_;subst z1 z2
      refine bJ (λv H''=>v= .str S_∧H''=H') ?_ λk₅ hk5=>?_
      ·intro v H2;refine qA λz1 z2=>?_;subst z1 z2
       refine bJ (λv H3=>v=mkA (-r.worth) r.minus r.plus∧H3=H2) ?_ λk₆ hk6=>?_
       ·intro v H3;refine qA λz1 z2=>?_;subst z1 z2
        have key:∃w2 p2 m2,mkA (-r.worth) r.minus r.plus=aK (.int w2) (.str p2) (.str m2)∧(∀N:Str→Int,N S_=0→w2+N p2 - N m2= - r.worth+N r.minus - N r.plus)∧(p2=S_∨p2=r.minus)∧(m2=S_∨m2=r.plus):=by
         unfold mkA
         split
         ·rename_i h
          exact (eY (-r.worth) S_ S_ rfl (λN h0=>by rw [h];exact oz70) (.inl rfl) (.inl rfl))
         ·exact (eY (-r.worth) r.minus r.plus rfl (λN h0=>rfl) (.inr rfl) (.inr rfl))
        refine kZ key λw2 p2 m2 e2 hv2 hp2 hm2=>?_;clear key
        rw [e2]
        refine aZ xW ?_ ?_
        ·intro v H4;refine qAA λhv h1 X3=>?_
         refine kA (i.minus W hrr hv2 hp2 hm2 hv) λw' x' y' z1 i'=>?_;subst z1
         exact hk3 _ _ ⟨X3,w',x',y',EnvM.cons lk0 (E3.put (by kernel_rfl)),i'⟩
        ·intro c H4;refine qAA λz1 hn X3=>?_;subst z1
         exact hx _ (λq=>absurd (i.smp q).1 (W.row r hrr)) X3
       ·refine bD oH ?_
        exact aZ wZ (λv H3 q=>hk6 _ _ q) λc H3 q=>q.elim
      ·refine aA fP ?_
       exact fC (λq=>hk5 _ _ ⟨rfl,rfl⟩) λq=>hk5 _ _ ⟨rfl,rfl⟩
     ·refine aA fP ?_
      refine fC (λq=>hk4 _ _ ⟨rfl,rfl⟩) λq=>hk4 _ _ ⟨?_,rfl⟩
      have:x=S_:=by simpa using q
      rw [this]
  ·refine aA uV ?_
   by_cases c:z=S_
   ·refine r_t (by rw [c];exact rfl) (hk2 _ _ ⟨rfl,?_⟩)
    rw [c,decide_eq_true W.row]
   ·refine r_f (beq_false_of_ne c) (aA (by walk_at "lk") (bD b5 ?_))
    refine aA (hZ (key:= .s z) he rfl (aI aS _)) ?_
    rcases qB W.nd z with ⟨r,hr,e,hf⟩|⟨h,hf⟩
    ·refine r_f (by rw [hf];rfl) (hk2 _ _ ⟨rfl,?_⟩)
     rw [decide_eq_false λq=>q r hr e]
    ·refine r_t (by rw [hf];rfl) (hk2 _ _ ⟨rfl,?_⟩)
     rw [decide_eq_true h]
 ·refine aA (by walk_at "lk") (bD dW (aA (by walk_at "lk") (bD b5 ?_)))
  refine aA (rA (key:= .s x) he rfl (aI aS _)) ?_
  rcases qB W.nd x with ⟨r,hr,e,hf⟩|⟨h,hf⟩
  ·exact r_t (by rw [hf];rfl) (aA (by walk_at "lk") (bD dW (hk1 _ _ ⟨rfl,x,rfl,.inl ⟨(iEA r hr e),rfl⟩⟩)))
  ·exact r_f (by rw [hf];rfl) (aA (by walk_at "lk") (bD fB (hk1 _ _ ⟨rfl,y,rfl,.inr ⟨h,rfl⟩⟩)))
theorem UO{x:Str}:cnt rows T x≤rows.length:=List.countP_le_length
theorem yM(W:sJ rows T){d:Nat}{H:Hp}{ep:Nat}{x0:Str}{simple:Bool}(hs:simple=true→∀r∈rows,r.minus=S_)(he:H[P.eq]?=some (.dict (f9 rows) ep))(hx0:gF rows x0):
  Rs (λv H'=>pV rows T x0 simple v∧Ext [] H H') (λc H'=>(c=59∨c=71)∧(simple=true→¬has T x0=true)∧Ext [] H H') (aB (KK p) (d+3) 511 [bG P,aK (.int 0) (.str x0) (.str S_)] H):=by
 refine bD E_511 ?_
 have hl:(f9 rows).length=rows.length:=by exact List.length_map _
 have hz:=W.sz
 refine bA (lenD_ he (by rw [hl];exact S9 hz) (hJ _)) ?_
 refine bA (T1 (by decide) (by rw [hl];exact (show rows.length<2^62 from Nat.lt_of_le_of_lt hz (by decide)))) ?_
 with_reducible refine bA jN ?_
 rw [hl]
 have h2:(2*(rows.length:Int)+2)<2^31:=(oz68 hz)
 with_reducible refine kW (oz67) h2 ?_
 have hn:(2*(rows.length:Int)+2).toNat=2*rows.length+2:=(oz66)
 rw [hn]
 have hit:=nU (H:=H) (n:=2*rows.length+2) (oz65 hz)
 with_reducible refine lO (λr lc H'=>Ext [] H H'∧∃w x y,EnvM lc [(aH,aK (.int w) (.str x) (.str y)),(aT,bG P)]∧PInv rows T x0 simple r.length w x y) hit ?_ ?_ ?_
 ·refine ⟨Ext.refl _ _,0,x0,S_,EnvM.cons (by walk_at "lk") (EnvM.cons (by walk_at "lk") EnvM.nil),λ h=>(iAA h (iJ W) ?_),λ q=>(cJ rfl (.inr hx0) Iff.rfl (λ h=>?_))⟩
  ·rw [tS W];exact oz64
  ·have:=UO (rows:=rows) (T:=T) (x:=x0)
   simp only [List.length_map,List.length_range]
   exact ⟨(oz63),λU=>by exact oz62 this⟩
 ·intro lc H';refine yJ λX w x y E i=>?_
  refine gU X71 (iAA (.inr rfl) (λq h=>?_) X)
  have:=((i.smp q).2.2.2 h).1
  simp at this
 ·intro v r lc H' j;refine yJ λX w x y E i=>?_;intro hj _ hr
  refine yL W hs (X.2 _ _ he List.not_mem_nil) E i (λlc' H'' w' x' y' E' X' i'=>hj _ _ ⟨X.trans X',w',x',y',E',i'⟩) (λlc' v hv=>?_) λH'' q X'=>(iAA (.inl rfl) q (X.trans X'))
  rw [hr]
  exact ⟨hv,X⟩
theorem w9(W:sJ rows T){d:Nat}{H:Hp}{ep:Nat}{x0:Str}{simple:Bool}(hs:simple=true→∀r∈rows,r.minus=S_)(he:H[P.eq]?=some (.dict (f9 rows) ep))(hx0:gF rows x0):
  Rs (λv H'=>(pV rows T x0 simple v∨v= .none∧(simple=true→¬has T x0=true))∧Ext [] H H') (λc H'=>False) (aB (KK p) (d+4) 582 [bG P,.str x0] H):=by
 refine bD E_582 ?_
 have hn:x0≠S_:=by refine oEA hx0 λr hr z1=>?_;clear hx0;subst z1;exact W.row r hr
 refine bJ (λv H'=>v= .str x0∧H'=H) ?_ λk₁ hk1=>?_
 ·intro v H';refine qA λz1 z2=>?_;subst z1 z2
  refine bJ (λv H''=>v= .str S_∧H''=H') ?_ λk₂ hk2=>?_
  ·intro v H'';refine qA λz1 z2=>?_;subst z1 z2
   refine aZ (yM W hs he hx0) ?_ ?_
   ·intro v H3;refine qA λhv X=>?_
    exact ⟨.inl hv,X⟩
   ·rintro c H3 ⟨hc|hc,hq,X⟩
    ·subst hc
     exact gU (by rw [X59,X71];rfl) (aA B5971 (r_f rfl (gU (by rw [X59];rfl) (aA B59 (r_t rfl ⟨.inr ⟨rfl,hq⟩,X⟩)))))
    ·subst hc
     exact gU (by rw [X71];rfl) (aA B7171 (r_t rfl ⟨.inr ⟨rfl,hq⟩,X⟩))
  ·exact aA fP (fC (λq=>hk2 _ _ ⟨rfl,rfl⟩) λq=>hk2 _ _ ⟨rfl,rfl⟩)
 ·exact aA fP (r_t (by rw [beq_false_of_ne hn];rfl) (hk1 _ _ ⟨rfl,rfl⟩))
end
end
section variable {es:TG} {D:SD}
abbrev SD:=List (Str×(Str×Int))
noncomputable def FoundIs(es:TG)(D:SD):Prop:=es.map (·.1)=D.map (λq=>Key.s q.1)∧∀x,match D.lookup x with
 |some e=>∃n,aP (.s x) es=some (fU (.str e.1) (.int e.2) (.str n))
 |none=>aP (.s x) es=none
theorem FoundIs.all(h:FoundIs es D):cS es=true:=by
 unfold cS
 refine List.all_eq_true.mpr λe he=>?_
 have:e.1∈es.map (·.1):=List.mem_map.mpr (iEA e he rfl)
 rw [h.1] at this
 refine oEA (List.mem_map.mp this) λq U e'=>?_
 rw [←e'];rfl
theorem FoundIs.len(h:FoundIs es D):es.length=D.length:=by
 have:=congrArg List.length h.1
 simpa using this
theorem FoundIs.nil:FoundIs [] []:=⟨rfl,λx=>rfl⟩
theorem FoundIs.find(h:FoundIs es D)(x:Str):(aP (.s x) es).isSome=(D.lookup x).isSome:=by
 have:=h.2 x
 cases q:D.lookup x with
 |none=>rw [q] at this;rw [this];rfl
 |some e=>rw [q] at this;refine oE this λn hn=>?_;clear this;rw [hn];rfl
theorem FoundIs.put{es:TG}{D:SD}(h:FoundIs es D){x:Str}(hx:D.lookup x=none)(e:Str×Int)(n:Str):FoundIs (cP (.s x) (fU (.str e.1) (.int e.2) (.str n)) es) (D++[(x,e)]):=by
 refine ⟨?_,λy=>?_⟩
 ·rw [fG,if_neg,h.1,List.map_append];rfl
  intro hm
  rw [h.1] at hm
  refine oEA (List.mem_map.mp hm) λq hq e'=>?_
  have e':q.1=x:=Key.s.inj e'
  have:=List.lookup_eq_none_iff.mp hx q hq
  rw [e'] at this
  simp at this
 ·rw [nR]
  by_cases q:y=x
  ·subst q
   rw [hx,d8]
   simp only [Option.none_or,List.lookup_cons,beq_self_eq_true]
   exact ⟨n,rfl⟩
  ·rw [iB _ _ (λz=>q (Key.s.inj z))]
   have:=h.2 y
   cases z:D.lookup y with
   |some u=>rw [z] at this;exact this
   |none=>
    rw [z] at this
    simp only [Option.none_or,List.lookup_cons,beq_false_of_ne q,List.lookup_nil]
    exact this
noncomputable def nF(x:Str)(b:Bool):Prop:=∃y,(∀H,cut H (.str x) .none (.int 1)=some (.str y,H))∧(∀H,cmp H .NotIn (.str y) (.str jS)=some b)∧(∀H,∃z,getItem H (.str x) (.int 0)=some (.str z)∧cmp H .NotEq (.str z) (.str S_0)=some b)
section
variable {p:Params} {F:FN} {G:GD} {pl:Pl} {rows:List Row} {T:TT}
theorem BG {d n0:Nat} {lf:Nat} {x:Str} {t:Str} {o:Int} {D:SD} {H:Hp} {lc:Lc} {PP:TP} {X:TX} {j:TK} {fol:TS} (s:FS F G pl rows T H fol) (E:EnvM lc [(aV,aU F),(aF,ρ)])
  (hf:nF x true) (hl:pl.lookup x=some (t,o)) (hc:H[n0+1]?=some (.cell (some (.loc lf)))) {es:TG} {ep:Nat} (he:H[lf]?=some (.dict es ep)) (hD:FoundIs es D) (hx:D.lookup x=none) (hz:D.length≤100)
  (hj:∀lc' H' es' ep',EnvM lc' [(aV,aU F),(aF,ρ)]→H'.length=H.length→Ext [lf] H H'→H'[lf]?=some (.dict es' ep')→FoundIs es' (D++[(x,(t,o))])→Rs PP X (j .next lc' H')):
  Rs PP X (wD p (aB (KK p) (d+2)) n0 (.str x) lc H j):=by
 refine eV hf λy h1 h2 U=>?_;clear hf
 have E':EnvM ((aQ,.str x)::lc) [(aV,aU F),(aF,ρ)]:=E.put (by kernel_rfl)
 refine eF (λlc' H'=>EnvM lc' [(aV,aU F),(aF,ρ)]∧H'.length=H.length∧Ext [lf] H H'∧∃es' ep',H'[lf]?=some (.dict es' ep')∧FoundIs es' (D++[(x,(t,o))])) ?_ λk hk=>?_
 ·intro lc' H';refine AC λa b c es' ep' e f=>?_
  exact hj _ _ _ _ a b c e f
 refine bA (h1 H) (aA (h2 H) (r_t rfl (aA (by walk_at "lk") ?_)))
 refine bJ (λv H'=>v=fU (.str t) (.int o) (.str x)∧H'=H) ?_ λk₂ hk2=>?_
 ·intro v H';refine qA λz1 z2=>?_;subst z1 z2
  refine aA (bC hc) ?_
  refine gD (key:= .s x) rfl he (by rw [hD.len];exact qP hz) (aI hD.all _) λH1 ep1 n₁ x1 e1=>?_
  exact hk _ _ (cJ E' n₁ x1 (dS _ _ e1 (hD.put hx (t,o) x)))
 ·refine bD pK ?_
  refine aZ (qV s.geo) ?_ λc H' q=>q.elim
  intro v H';refine qA λz1 z2=>?_;subst z1 z2
  exact hk2 _ _ ⟨by unfold qW;rw [hl],rfl⟩
theorem oO {d n0:Nat} {lf lb:Nat} {t:Str} {pls:Pl} {es0:TG} {D:SD} {H:Hp} {lc:Lc} {PP:TP} {X:TX} {j:TK} {ρ:V}
  (hlb:∃ep,H[lb]?=some (.dict es0 ep)) (ha:cS es0=true) (hk:es0.map (·.1)=pls.map λq=>Key.s q.1)
  (s:FS F G pl rows T H []) (E:EnvM lc [(aV,aU F),(aF,ρ)]) (hsec:∀q∈pls,nF q.1 true∧pl.lookup q.1=some q.2)
  (hc0:H[n0]?=some (.cell (some (bG F.P)))) (hse:getItem H (.loc F.P.se) (.str t)=some (bL (.str t) (.loc pc) (.loc lb))) (hc:H[n0+1]?=some (.cell (some (.loc lf)))) {es:TG} {ep:Nat} (he:H[lf]?=some (.dict es ep)) (hD:FoundIs es D) (hz:D.length+pls.length≤100)
  (hlf:∀l∈[F.P.nm,F.P.se,G.lt,G.ld,F.L.off,F.L.ln,F.P.eq,F.kn,F.fl,lb,n0,n0+1],l≠lf)
  (hn:((D++pls).map (·.1)).Nodup)
  (hj:∀lc' H' es' ep',EnvM lc' [(aV,aU F),(aF,ρ)]→H'.length=H.length→Ext [lf] H H'→FS F G pl rows T H' []→H'[lf]?=some (.dict es' ep')→FoundIs es' (D++pls)→Rs PP X (j .next lc' H')):
  Rs PP X (wE p (aB (KK p) (d+2)) n0 (.str t) lc H j):=by
 refine oE hlb λep0 hlb=>?_
 refine aA (bC hc0) (bD dN (aA hse (bD iG ?_)))
 have keep:∀{H':Hp},Ext [lf] H H'→FS F G pl rows T H' []:=fun {H'} x=>by
  refine cX s.eqs λe1 e2 h1 h2=>?_
  refine cX s.kn λk1 k2 h3 h4=>?_
  exact {geo:=s.geo.ext x λl hl q=>hlf l (by simp at hl ⊢;rcases hl with h|h|h|h|h|h<;>(first|exact v0 (by assumption)|exact v1 (by assumption)|exact v2 (by assumption)|exact v3 (by assumption)|exact v4 (by assumption)|exact v5 (by assumption))) (by simpa using q),eqs:=(dS e1 e2 (x.2 _ _ h1 λq=>hlf F.P.eq k6 (by simpa using q)) h2),fl:=x.2 _ _ s.fl λq=>hlf F.fl k8 (by simpa using q),kn:=(dS k1 k2 (x.2 _ _ h3 λq=>hlf F.kn k7 (by simpa using q)) h4),nd:=s.nd,sub:=s.sub,s1:=s.s1,s2:=s.s2}
 have hkv:es0.map (λ(e:Key×V)=>iZ e.1)=pls.map λq=>V.str q.1:=by
  have:=congrArg (List.map iZ) hk
  rw [List.map_map,List.map_map] at this
  exact this
 refine yH (λr lc H'=>EnvM lc [(aV,aU F),(aF,ρ)]∧H'.length=H.length∧Ext [lf] H H'∧∃a b es' ep',pls=a++b∧r=(b.map λq=>V.str q.1)∧H'[lf]?=some (.dict es' ep')∧FoundIs es' (D++a)) hlb ha (λr lc H' i=>i.2.2.1.2 _ _ hlb λq=>hlf lb k9 (by simpa using q)) (cJ (E.put (by kernel_rfl)) rfl (Ext.refl _ _) (jB ([]) pls es ep rfl hkv he (by rw [List.append_nil];exact hD))) ?_ ?_
 ·intro lc H';refine oS λE' n x a b es' ep' e hr he' hD'=>?_
  cases b with
  |cons u v=>cases hr
  |nil=>
   rw [List.append_nil] at e;subst e
   exact hj _ _ _ _ E' n x (keep x) he' hD'
 ·intro v r lc H' j';refine oS λE' n x a b es' ep' e hr he' hD'=>?_;intro hj' _ _
  cases b with
  |nil=>cases hr
  |cons u b=>
   cases hr
   refine oA (hsec u (by rw [e];exact List.mem_append_right _ k0)) λf1 f2=>?_
   have hux:(D++a).lookup u.1=none:=by
    rw [List.lookup_eq_none_iff]
    intro q hq
    rw [e,←List.append_assoc,List.map_append,List.nodup_append] at hn
    have:=hn.2.2 q.1 (List.mem_map.mpr (iEA q hq rfl)) u.1 k0
    simpa using λz=>this z.symm
   refine BG (t:=u.2.1) (o:=u.2.2) (keep x) E' f1 f2 (x.2 _ _ hc λq=>hlf (n0+1) k11 (by simpa using q)) he' hD' hux (by rw [e] at hz;simp at hz ⊢;exact oz71 hz) λlc2 H2 es2 ep2 E2 n₂ x2 he2 hD2=>?_
   exact hj' _ _ (cJ E2 (n₂.trans n) (x.trans x2) (jB (a++[u]) b es2 ep2 (by rw [e];simp) rfl he2 (by rw [←List.append_assoc];exact hD2)))
end
end
section
section variable {H:Hp}
variable {p:Params} {F:FN} {G:GD} {pl:Pl} {rows:List Row} {T:TT}
theorem FS.other{H':Hp}{fol:TS}{S:List Nat}(s:FS F G pl rows T H fol)(x:Ext S H H')(hlf:∀l∈[F.P.nm,F.P.se,G.lt,G.ld,F.L.off,F.L.ln,F.P.eq,F.kn,F.fl],l∉S):FS F G pl rows T H' fol:=by
 refine cX s.eqs λe1 e2 h1 h2=>?_
 refine cX s.kn λk1 k2 h3 h4=>?_
 exact {geo:=s.geo.ext x λl hl=>hlf l (List.mem_append_left [F.P.eq,F.kn,F.fl] hl),eqs:=(dS e1 e2 (x.2 _ _ h1 (hlf F.P.eq k6)) h2),fl:=x.2 _ _ s.fl (hlf F.fl k8),kn:=(dS k1 k2 (x.2 _ _ h3 (hlf F.kn k7)) h4),nd:=s.nd,sub:=s.sub,s1:=s.s1,s2:=s.s2}
noncomputable def F8(o:Option Ent):Str×Int:=match o with
 |some e=>(e.1,e.2.1)
 |none=>(⟨#[]⟩,0)
noncomputable def fM(T:TT)(fb:Str→Bool)(rows:List Row):SD:=(rows.filter λr=>fb r.name).map λr=>(r.name,F8 (bP T r.name))
theorem DJ {d n0:Nat} {lf:Nat} {fb:Str→Bool} {D:SD} {ep:Nat} {lc:Lc} {PP:TP} {X:TX} {k:TK} {ρ:V}
  (s:FS F G pl rows T H []) (E:EnvM lc [(aV,aU F),(aF,ρ)]) (hF:∀r∈rows,nF r.name (fb r.name)) (hS:∀r∈rows,eU p F G pl rows T d [] r.name)
  (heq:H[F.P.eq]?=some (.dict (f9 rows) ep)) (hc:H[n0+1]?=some (.cell (some (.loc lf)))) {es:TG} {ep1:Nat} (he:H[lf]?=some (.dict es ep1)) (hD:FoundIs es D) (hz:D.length+rows.length≤100)
  (hlf:∀l∈[F.P.nm,F.P.se,G.lt,G.ld,F.L.off,F.L.ln,F.P.eq,F.kn,F.fl],l∉[lf]) (hn0:n0+1∉[F.kn,F.fl,lf]) (hkf:lf∉[F.kn,F.fl])
  (hn:(D.map (·.1)++rows.map (·.name)).Nodup)
  (hj:∀lc' H' es' ep',EnvM lc' [(aV,aU F),(aF,ρ)]→H'.length=H.length→Ext [F.kn,F.fl,lf] H H'→H'[lf]?=some (.dict es' ep')→FoundIs es' (D++fM T fb rows)→(∀r∈rows,fb r.name=true→bP T r.name≠none)→Rs PP X (k .next lc' H'))
  (hx:∀H',Ext [F.kn,F.fl,lf] H H'→(∃r∈rows,fb r.name=true∧bP T r.name=none)→X 59 H'):
  Rs PP X (fS H (.loc F.P.eq) lc (wB p (aB (KK p) d) n0) k):=by
 have hkv:(f9 rows).map (λ(e:Key×V)=>iZ e.1)=rows.map λr=>V.str r.name:=by
  unfold f9;rw [List.map_map];rfl
 have heqS:F.P.eq∉[F.kn,F.fl,lf]:=λq=>by
  have a:=s.s1 F.P.eq k6
  have b:=hlf F.P.eq k6
  simp at q b
  rcases q with q|q|q
  ·exact a.1 q
  ·exact a.2 q
  ·exact b q
 refine yH (λr lc H'=>EnvM lc [(aV,aU F),(aF,ρ)]∧H'.length=H.length∧Ext [F.kn,F.fl,lf] H H'∧FS F G pl rows T H' []∧∃a b es' ep',rows=a++b∧r=(b.map λq=>V.str q.name)∧H'[lf]?=some (.dict es' ep')∧FoundIs es' (D++fM T fb a)∧(∀r∈a,fb r.name=true→bP T r.name≠none)) heq (hJ _) (λr lc H' i=>i.2.2.1.2 _ _ heq heqS) (dZ E rfl (Ext.refl _ _) s (bW ([]) rows es ep1 rfl hkv he (by unfold fM;simp;exact hD) (by simp))) ?_ ?_
 ·intro lc H';refine lE λE' n x s' a b es' ep' e hr he' hD' ht=>?_
  cases b with
  |cons u v=>cases hr
  |nil=>
   rw [List.append_nil] at e;subst e
   exact hj _ _ _ _ E' n x he' hD' ht
 ·intro v r lc H' j';refine lE λE' n x s' a b es' ep' e hr he' hD' ht=>?_;intro hj' _ _
  cases b with
  |nil=>cases hr
  |cons u b=>
   cases hr
   have hu:u∈rows:=by rw [e];exact List.mem_append_right _ k0
   refine eV (hF u hu) λy h1 h2 U=>?_
   have E2:EnvM ((aQ,V.str u.name)::lc) [(aV,aU F),(aF,ρ)]:=E'.put (by kernel_rfl)
   have rowsD_app:fM T fb (a++[u])=fM T fb a++(if fb u.name=true then [(u.name,F8 (bP T u.name))] else []):=by
    unfold fM
    rw [List.filter_append,List.map_append,List.filter_cons]
    cases fb u.name<;>rfl
   refine eF (λlc' H''=>EnvM lc' [(aV,aU F),(aF,ρ)]∧H''.length=H.length∧Ext [F.kn,F.fl,lf] H H''∧FS F G pl rows T H'' []∧(fb u.name=true→bP T u.name≠none)∧∃es' ep',H''[lf]?=some (.dict es' ep')∧FoundIs es' (D++fM T fb (a++[u]))) ?_ λk₁ hk1=>?_
   ·intro lc' H'';refine iP λE3 n3 x3 s3 z1=>?_;refine oA z1 λt3 z2=>?_;clear z1;refine cX z2 λes3 ep3 he3 hD3=>?_;clear z2
    refine hj' _ _ (dZ E3 n3 x3 s3 (bW (a++[u]) b es3 ep3 (by rw [e];simp) rfl he3 hD3 (λr hr=>?_)))
    rcases List.mem_append.mp hr with hr|hr
    ·exact ht r hr
    ·rw [List.mem_singleton.mp hr];exact t3
   ·refine bA (h1 H') (aA (h2 H') ?_)
    refine fC (λq=>?_) λq=>?_
    ·refine aA (by walk_at "lk") ?_
     refine bJ (λv H''=>H''.length=H'.length∧Ext [F.kn,F.fl] H' H''∧FS F G pl rows T H'' []∧∃e,bP T u.name=some e∧∃n,v=fU (.str e.1) (.int e.2.1) (.str n)) ?_ λk₂ hk2=>?_
     ·intro v H'';refine j4 λn'' x'' s'' z1=>?_;refine oEA z1 λee hte z2=>?_;clear z1;refine oE z2 λnn z3=>?_;clear z2;subst z3
      have hc'':=x''.2 _ _ (x.2 _ _ hc hn0) λq=>hn0 (List.mem_append_left [lf] q)
      have hf'':=x''.2 _ _ he' hkf
      refine aA (bC hc'') ?_
      have hux:(D++fM T fb a).lookup u.name=none:=by
       rw [List.lookup_eq_none_iff]
       intro q hq
       have hq':q.1∈D.map (·.1)++a.map (·.name):=by
        rcases List.mem_append.mp hq with h|h
        ·exact List.mem_append_left _ (List.mem_map.mpr (iEA q h rfl))
        ·unfold fM at h
         refine oEA (List.mem_map.mp h) λr' hr' z1=>?_;subst z1
         exact List.mem_append_right _ (List.mem_map.mpr (iEA r' ((List.mem_filter.mp hr').1) rfl))
       rw [e,List.map_append,←List.append_assoc,List.nodup_append] at hn
       have:=hn.2.2 q.1 hq' u.name k0
       simpa using λz=>this z.symm
      have hlen:(fM T fb a).length≤a.length:=by unfold fM;rw [List.length_map];exact List.length_filter_le _ _
      refine gD (key:= .s u.name) rfl hf'' (by rw [hD'.len];rw [e] at hz;simp at hz ⊢;exact oz74 hz hlen) (aI hD'.all _) λH3 ep3 n3 x3 e3=>?_
      refine hk1 _ _ (cJ E2 (oz73 n n'' n3) ((x.trans (x''.mono λl hl=>List.mem_append_left [lf] hl)).trans (x3.mono λl hl=>by rw [List.mem_singleton.mp hl];exact k2)) (iAA (s''.other x3 hlf) (λU=>by rw [hte];intro z;cases z) (dS _ _ e3 ?_)))
      rw [rowsD_app,if_pos q,←List.append_assoc,hte]
      exact hD'.put hux (ee.1,ee.2.1) nn
     ·refine bD rT ?_
      refine aZ (hS u hu H' 0 s') ?_ ?_
      ·intro v H'';refine j4 λz1 s'' x'' n''=>?_;refine NV z1 λe hte nn z3 U=>?_;clear z1;subst z3
       cases z:bP T u.name with
       |none=>rw [z] at hte;cases hte
       |some w=>
        rw [z] at hte
        obtain ⟨w1,w2,w3⟩:=w
        cases hte
        exact hk2 _ _ (cJ n'' x'' s'' (iEA _ z ⟨nn,by simp only [Int.add_zero]⟩))
      ·intro c H'';refine iP λz1 hte s'' x'' n''=>?_;subst z1
       refine hx _ (x.trans (x''.mono λl hl=>List.mem_append_left [lf] hl)) (cM u hu q ?_)
       cases z:bP T u.name with
       |none=>rfl
       |some w=>rw [z] at hte;cases hte
    ·refine hk1 _ _ (cJ E2 n x (iAA s' (λz=>(by rw [q] at z;cases z)) (dS es' ep' he' ?_)))
     rw [rowsD_app,if_neg (by rw [q];decide),List.append_nil]
     exact hD'
noncomputable def tR(nm:Str):V:=fH (.str aE) (.int 0) (.int 4) (.str nm) (.int 0) (.str BB)
noncomputable def mS(D:SD)(nm:Str):SD:=if nm≠S_∧D.lookup nm=none∧nm≠aE∧nm≠aJ then D++[(nm,(S_,0))] else D
theorem G8 {cf:CF} {n0 lf:Nat} {D:SD} {lc:Lc} {PP:TP} {X:TX} {j:TK} {nm:Str} (g:Geo F G pl H)
  (hc0:H[n0]?=some (.cell (some (bG F.P)))) (hc:H[n0+1]?=some (.cell (some (.loc lf)))) {es:TG} {ep:Nat} (he:H[lf]?=some (.dict es ep)) (hD:FoundIs es D) (hz:D.length≤100)
  (hj:∀lc' H' es' ep',H'.length=H.length→Ext [lf] H H'→H'[lf]?=some (.dict es' ep')→FoundIs es' (mS D nm)→Rs PP X (j .next lc' H')):
  Rs PP X (wA p cf n0 (tR nm) lc H j):=by
 refine eF (λlc' H'=>H'.length=H.length∧Ext [lf] H H'∧∃es' ep',H'[lf]?=some (.dict es' ep')∧FoundIs es' (mS D nm)) ?_ λk₁ hk1=>?_
 ·intro lc' H';refine qAA λn x z1=>?_;refine cX z1 λes' ep' a b=>?_;clear z1
  exact hj _ _ _ _ n x a b
 refine eG (λb H'=>H'=H∧b=decide (nm≠S_∧D.lookup nm=none∧nm≠aE∧nm≠aJ)) ?_ λk₂ hk2=>?_
 ·intro b H';refine qA λz1 z2=>?_;subst z1 z2
  by_cases c:nm≠S_∧D.lookup nm=none∧nm≠aE∧nm≠aJ
  ·refine r_t (decide_eq_true c) (bD c7 (aA (bC hc) (bD c7 ?_)))
   refine gD (key:= .s nm) rfl he (by rw [hD.len];exact qP hz) (aI hD.all _) λH3 ep3 n3 x3 e3=>?_
   refine hk1 _ _ (iAA n3 x3 (dS _ _ e3 ?_))
   unfold mS
   rw [if_pos c]
   exact hD.put c.2.1 (S_,0) nm
  ·refine r_f (decide_eq_false c) (hk1 _ _ (iAA rfl (Ext.refl _ _) (dS es ep he ?_)))
   unfold mS
   rw [if_neg c];exact hD
 ·refine bD c7 (aA fP ?_)
  by_cases c1:nm=S_
  ·exact r_f (by rw [c1];exact nbq _) (hk2 _ _ ⟨rfl,by rw [decide_eq_false λq=>q.1 c1]⟩)
  refine r_t (by rw [beq_false_of_ne c1];rfl) (bD c7 (aA (bC hc) (aA (hZ (key:= .s nm) he rfl (aI hD.all _)) ?_)))
  rw [hD.find]
  cases c2:D.lookup nm with
  |some u=>exact r_f rfl (hk2 _ _ ⟨rfl,by rw [decide_eq_false λq=>by rw [c2] at q;cases q.2.1]⟩)
  |none=>
   refine r_t rfl (bD c7 (aA (bC hc0) (bD dN ?_)))
   refine oE g.se λe0 hse=>?_
   refine aA (hZ (key:= .s nm) hse rfl (by kernel_rfl)) ?_
   have hf:∀a b:V,(aP (.s nm) [(Key.s aE,a),(Key.s aJ,b)]).isSome=decide (nm=aE∨nm=aJ):=λa b=>by
    show (if Key.s aE= .s nm then some a else if Key.s aJ= .s nm then some b else none).isSome=_
    by_cases q1:nm=aE
    ·rw [if_pos (by rw [q1]),decide_eq_true (.inl q1)];rfl
    ·rw [if_neg λz=>q1 (Key.s.inj z).symm]
     by_cases q2:nm=aJ
     ·rw [if_pos (by rw [q2]),decide_eq_true (.inr q2)];rfl
     ·rw [if_neg λz=>q2 (Key.s.inj z).symm,decide_eq_false λz=>z.elim q1 q2];rfl
   rw [hf]
   by_cases c3:nm=aE∨nm=aJ
   ·refine r_f (by rw [decide_eq_true c3];rfl) (hk2 _ _ ⟨rfl,?_⟩)
    rw [decide_eq_false λq=>c3.elim q.2.2.1 q.2.2.2]
   ·refine r_t (by rw [decide_eq_false c3];rfl) (hk2 _ _ ⟨rfl,?_⟩)
    rw [decide_eq_true ⟨c1,c2,λq=>c3 (.inl q),λq=>c3 (.inr q)⟩]
end
end
section
theorem uI{x y:Str}:∀{l:TS},y∈j6 x l→y=x∨y∈l
 |[],h=>by unfold j6 at h;exact .inl (List.mem_singleton.mp h)
 |z::r,h=>by
  unfold j6 at h
  split at h
  ·rcases List.mem_cons.mp h with h|h
   ·exact .inr (by rw [h];exact List.mem_cons_self ..)
   ·exact (uI h).imp id λq=>List.mem_cons_of_mem _ q
  ·rcases List.mem_cons.mp h with h|h
   ·exact .inl h
   ·exact .inr h
theorem iW{y:Str}:∀{l:TS},y∈cI l→y∈l
 |[],h=>h
 |z::r,h=>by
  rcases uI (show y∈j6 z (cI r) from h) with h|h
  ·rw [h];exact List.mem_cons_self ..
  ·exact List.mem_cons_of_mem _ (iW h)
theorem AJ{x:Str}:∀{l:TS},(j6 x l).length=l.length+1
 |[]=>rfl
 |z::r=>by
  unfold j6
  split
  ·rw [List.length_cons,AJ,List.length_cons]
  ·rfl
theorem fQ:∀{l:TS},(cI l).length=l.length
 |[]=>rfl
 |z::r=>by
  rw [show cI (z::r)=j6 z (cI r) from rfl,AJ,fQ];rfl
theorem yF(l:TS):jE (l.map .str)=some l:=by
 induction l with
 |nil=>rfl
 |cons a r ih=>
  show (jE (r.map .str)).map (a::·)=_
  rw [ih];rfl
theorem pN{H:Hp}{l:Nat}{es:TG}{ep:Nat}{names:TS}(h:H[l]?=some (.dict es ep))(hk:es.map (·.1)=names.map Key.s)(hz:names.length<64):aD H (.builtin "sorted") [.loc l]=some (.loc H.length,H++[.list ((cI names).map .str)]):=by
 have hs:jE (es.map λ(e:Key×V)=>iZ e.1)=some names:=by
  have:=congrArg (List.map iZ) hk
  rw [List.map_map,List.map_map] at this
  rw [show (es.map λ(e:Key×V)=>iZ e.1)=names.map V.str from this,yF]
 have e:aD H (.builtin "sorted") [.loc l]=onO none (λ U=>none) (λ es U=>(jE (es.map λ e=>iZ e.1)).bind λ ss=>if ss.length<64 then some (V.loc H.length,H++[O.list ((cI ss).map .str)]) else none) (λ U=>none) (λ U=>none) H[l]? :=by kernel_rfl
 exact e.trans ((yP h).trans ((kR hs).trans (if_pos hz)))
section
variable {p:Params} {F:FN} {G:GD} {pl:Pl} {rows:List Row} {T:TT}
noncomputable def kP(D:SD)(x:Str):Str×Int:=match D.lookup x with
 |some e=>e
 |none=>(⟨#[]⟩,0)
noncomputable def wH(D:SD)(gs:TS)(x:Str):V:=fY (.str x) (.str (kP D x).1) (.int (kP D x).2) (.bool (decide (x∈gs)))
noncomputable def jZ(D:SD)(gs:TS)(x:Str):V:= .tup [.str x,.str (kP D x).1,.int (kP D x).2,.bool (decide (x∈gs))]
noncomputable def pE(pl:Pl)(T:TT)(fb:Str→Bool)(rows:List Row)(nm:Str):SD:=mS (pl++fM T fb rows) nm
theorem B0{α:Type}(g:V→TO)(f:α→V)(h:α→V)(l:List α)(e:∀a∈l,g (f a)=some (h a)):(l.map f).filterMap g=l.map h:=by
 induction l with
 |nil=>rfl
 |cons a r ih=>
  rw [List.map_cons,List.filterMap_cons_some (e a (List.mem_cons_self ..)),ih λb hb=>e b (List.mem_cons_of_mem _ hb)];rfl
theorem G9 {cf:CF} {n0 lf:Nat} {D:SD} {H:Hp} {lc:Lc} {gs:TS} {PP:TP} {X:TX}
  (hc0:H[n0]?=some (.cell (some (bG F.P)))) (hc:H[n0+1]?=some (.cell (some (.loc lf)))) {es:TG} {ep:Nat} (he:H[lf]?=some (.dict es ep)) (hD:FoundIs es D) (hz:D.length<64) (hg:H[F.P.gl]?=some (.list (gs.map .str)))
  (hj:∀l H',Ext [] H H'→H'[l]?=some (.list ((cI (D.map (·.1))).map (wH D gs)))→PP (.loc l) H'):
  Rs PP X (v9 p cf n0 lc H):=by
 refine aA (bC hc) ?_
 have hk:es.map (·.1)=(D.map (·.1)).map Key.s:=by rw [hD.1,List.map_map];rfl
 refine bA (pN he hk (by exact lm2 (by assumption))) ?_
 have x0:Ext [] H (H++[.list ((cI (D.map (·.1))).map .str)]):=Ext.new
 have e0:(H++[O.list ((cI (D.map (·.1))).map .str)])[H.length]?=some (.list ((cI (D.map (·.1))).map .str)):=fA
 generalize (H++[O.list ((cI (D.map (·.1))).map .str)])=H₀ at x0 e0 ⊢
 refine oEA (kH e0) λchk hit hck=>?_
 refine gN (λv=>match v with| .str x=>some (wH D gs x)|_=>none) e0 hit hck (by rw [List.length_map,fQ];refine lm1 ?_;exact oz95 hz) ?_ ?_
 ·intro v hv H' i x h
  refine oEA (List.mem_map.mp hv) λy hy z1=>?_;subst z1
  have hy':=iW hy
  have up:∀{l o},H[l]?=some o→H'[l]?=some o:=λq=>x.2 _ _ (x0.2 _ _ q List.not_mem_nil) List.not_mem_nil
  obtain ⟨e,hl⟩:∃e,D.lookup y=some e:=by
   cases q:D.lookup y with
   |some e=>exact ⟨e,rfl⟩
   |none=>
    refine oEA (List.mem_map.mp hy') λu hu z1=>?_;subst z1
    have:=List.lookup_eq_none_iff.mp q u hu
    simp at this
  have:=hD.2 y
  rw [hl] at this
  refine oE this λn hn=>?_;clear this
  have hrow:wH D gs y=fY (.str y) (.str e.1) (.int e.2) (.bool (decide (y∈gs))):=by unfold wH kP;rw [hl]
  refine r_t rfl (aA (bC (up hc)) (aA (dT (key:= .s y) (up he) rfl (aI hD.all _) hn) (bD cH ?_)))
  refine aA (bC (up hc)) (aA (dT (key:= .s y) (up he) rfl (aI hD.all _) hn) (bD d9 ?_))
  refine aA (bC (up hc0)) (bD j7 (aA (FJ (up hg)) ?_))
  rw [←hrow]
  exact h
 ·intro H' n x e
  refine hj _ _ (x0.trans x) ?_
  rw [e,B0 _ V.str (wH D gs) _ λa U=>rfl]
structure xY (F:FN) (G:GD) (pl:Pl) (rows:List Row) (fb:Str→Bool):Prop where
 split:∃a b:Pl,pl=a++b∧G.est.map (·.1)=a.map (λq=>Key.s q.1)∧G.esd.map (·.1)=b.map λq=>Key.s q.1
 one:∀q∈pl,nF q.1 true∧pl.lookup q.1=some q.2
 row:∀r∈rows,nF r.name (fb r.name)
 nd:(pl.map (·.1)++rows.map (·.name)).Nodup
 sz:pl.length+rows.length≤50
theorem nM{fb:Str→Bool}:(fM T fb rows).length≤rows.length:=by unfold fM;rw [List.length_map];exact List.length_filter_le _ _
theorem tW (W:xY F G pl rows fb) {d:Nat} {nm:Str} {gs:TS} {H:Hp} {lr ep:Nat} (s:FS F G pl rows T H []) (hS:∀r∈rows,eU p F G pl rows T (d+2) [] r.name)
  (heq:H[F.P.eq]?=some (.dict (f9 rows) ep)) (hg:H[F.P.gl]?=some (.list (gs.map .str))) (hr:H[lr]?=some (.list [tR nm])) (hgk:F.P.gl∉[F.kn,F.fl]∧lr∉[F.kn,F.fl]):
  Rs (λv H'=>(∀r∈rows,fb r.name=true→bP T r.name≠none)∧Ext [F.kn,F.fl] H H'∧∃l,v= .loc l∧H'[l]?=some (.list ((cI ((pE pl T fb rows nm).map (·.1))).map (wH (pE pl T fb rows nm) gs))))
   (λc H'=>c=59∧Ext [F.kn,F.fl] H H'∧∃r∈rows,fb r.name=true∧bP T r.name=none) (aB (KK p) (d+3) 211 [aU F,.loc lr] H):=by
 refine bD E_211 ?_
 refine N0 λP' X' hP hX=>?_
 have hsz:=W.sz
 have x1:Ext [] H (H++[.cell none,.cell none]):=⟨by exact lb6,λl o h U=>by rw [List.getElem?_append_left (bS h)];exact h⟩
 have c1:(H++[O.cell none,.cell none])[H.length]?=some (.cell none):=by exact ap0
 have c2:(H++[O.cell none,.cell none])[H.length+1]?=some (.cell none):=by exact ap1
 have n1:(H++[O.cell none,.cell none]).length=H.length+2:=by exact List.length_append
 generalize (H++[O.cell none,.cell none])=H1 at x1 c1 c2 n1 ⊢
 refine dI λH2 n₂ x2 e2=>?_
 rw [n1] at e2
 refine iH (x2.2 _ _ c1 List.not_mem_nil) λH3 n3 x3 e3=>?_
 refine iH (c:=none) (x3.2 _ _ (x2.2 _ _ c2 List.not_mem_nil) (u2 rfl)) λH4 n4 x4 e4=>?_
 have e3:=x4.2 _ _ e3 (u3 rfl)
 have e2:=x4.2 _ _ (x3.2 _ _ e2 (u2 rfl)) (u1 rfl)
 have X:Ext [] H H4:=⟨(oz94 n₂ n1 n3 n4),λl o h U=>by
  have hl:=bS h
  exact x4.2 _ _ (x3.2 _ _ (x2.2 _ _ (x1.2 _ _ h (by simp)) (by simp)) (by simp;exact oz93 hl)) (by simp;exact oz92 hl)⟩
 rw [n1] at e4
 have s4:FS F G pl rows T H4 []:=s.other X nn0
 have hlt:∀l∈[F.P.nm,F.P.se,G.lt,G.ld,F.L.off,F.L.ln,F.P.eq,F.kn,F.fl],l<H.length:=by
  refine oE s.geo.se λq2 h2=>?_
  refine oE s.geo.lt λq3 h3=>?_
  refine oE s.geo.ld λq4 h4=>?_
  refine oE s.geo.off λq5 h5=>?_
  refine oE s.geo.ln λq6 h6=>?_
  refine cX s.eqs λq7 q8 h7 U=>?_
  refine cX s.kn λq9 q10 h8 U=>?_
  have l1:=bS s.geo.nm;have l2:=bS h2;have l3:=bS h3;have l4:=bS h4;have l5:=bS h5;have l6:=bS h6;have l7:=bS h7;have l8:=bS h8;have l9:=bS s.fl
  intro l hl
  simp only [List.mem_cons,List.not_mem_nil,or_false] at hl
  rcases hl with h|h|h|h|h|h|h|h|h<;>rw [h]<;>assumption
 refine aA (bC e3) (bD oJ ?_)
 refine dX W.split λpa pb hpl hka hkb=>?_
 have hnd:=W.nd
 have key:∀{l:Nat},l<H.length→l≠H.length+2∧l≠H.length∧l≠H.length+1:=λh=>(iAA (oz89 h) (D9 h) (oz90 h))
 have ne9:∀l∈[F.P.nm,F.P.se,G.lt,G.ld,F.L.off,F.L.ln,F.P.eq,F.kn,F.fl],l∉[H.length+2]:=λl hl=>by have:=hlt l hl;simp;exact EA this
 have ne12:∀lb∈[G.lt,G.ld],∀l∈[F.P.nm,F.P.se,G.lt,G.ld,F.L.off,F.L.ln,F.P.eq,F.kn,F.fl,lb,H.length,H.length+1],l≠H.length+2:=λlb hlb l hl=>by
  have hb:lb<H.length:=by
   simp only [List.mem_cons,List.not_mem_nil,or_false] at hlb
   rcases hlb with h|h<;>rw [h]
   ·exact hlt _ k2
   ·exact hlt _ k3
  have:l∈[F.P.nm,F.P.se,G.lt,G.ld,F.L.off,F.L.ln,F.P.eq,F.kn,F.fl]++[lb,H.length,H.length+1]:=hl
  rcases List.mem_append.mp this with h|h
  ·have:=hlt l h;exact oz89 this
  ·simp only [List.mem_cons,List.not_mem_nil,or_false] at h
   exact oz88 h hb
 refine gV (λr lc H'=>EnvM lc [(aV,aU F),(aF,.loc lr)]∧H'.length=H4.length∧Ext [H.length+2] H4 H'∧FS F G pl rows T H' []∧∃D es ep,H'[H.length+2]?=some (.dict es ep)∧FoundIs es D∧(r=[.str aE,.str aJ]∧D=[]∨r=[.str aJ]∧D=pa∨r=[]∧D=pl)) s4.geo.nm (λr lc H' i=>i.2.2.1.2 _ _ s4.geo.nm (ne9 _ k0))
  (dZ (EnvM.cons (by walk_at "lk") (EnvM.cons (by walk_at "lk") EnvM.nil)) rfl (Ext.refl _ _) s4 (cE ([]) ([]) _ e2 FoundIs.nil (.inl ⟨rfl,rfl⟩))) ?_ ?_
 ·intro lc H';refine iP λE n x s' z=>cQ z λD es ep' he hD h=>oA (h.elim (λq=>nomatch q.1) λh=>h.elim (λq=>nomatch q.1) id) λU e=>?_
  clear z h;subst e
  have hc0:=x.2 _ _ e3 (u3 rfl)
  have hc:=x.2 _ _ e4 (u1 rfl)
  refine aA (bC hc0) (bD b5 ?_)
  refine DJ (lf:=H.length+2) (fb:=fb) s' E W.row hS (x.2 _ _ (X.2 _ _ heq List.not_mem_nil) (ne9 _ k6)) hc he hD (oz87 hsz) ne9 ?_ ?_ hnd ?_ ?_
  ·have a:=hlt F.kn k7;have b:=hlt F.fl k8
   simp;exact oz84 a b
  ·have a:=hlt F.kn k7;have b:=hlt F.fl k8
   refine n2 ?_;exact oz86 a b
  ·intro lc5 H5 es5 ep5 E5 n5 x5 he5 hD5 ht
   have big:∀{l:Nat} {o:O},H[l]?=some o→l∉[F.kn,F.fl]→H5[l]?=some o:=fun {l o} h q=>x5.2 _ _ (x.2 _ _ (X.2 _ _ h (by simp)) (by have:=bS h;simp;exact EA this)) (by have:=bS h;simp at q ⊢;exact oz79 q this)
   have hc05:H5[H.length]?=some (.cell (some (bG F.P))):=x5.2 _ _ hc0 (by have a:=hlt F.kn k7;have b:=hlt F.fl k8;simp;exact oz85 a b)
   have hc5:H5[H.length+1]?=some (.cell (some (.loc (H.length+2)))):=x5.2 _ _ hc (by have a:=hlt F.kn k7;have b:=hlt F.fl k8;simp;exact oz84 a b)
   have X5:Ext [F.kn,F.fl] H H5:=⟨by have:=X.1;exact oz83 n₂ n1 n3 n4 n n5,λl o h q=>big h q⟩
   have g5:Geo F G D H5:=s.geo.ext X5 λl hl=>by
    have:=s.s1 l (List.mem_append_left [F.P.eq] hl)
    refine n2 ?_;exact this
   refine aA (by walk_at "lk") ?_
   have hz5:(D++fM T fb rows).length≤100:=by
    have:=nM (T:=T) (rows:=rows) (fb:=fb)
    rw [List.length_append];exact oz82 hsz this
   have hr5:=big hr hgk.2
   refine gV (λr lc H'=>(r=[tR nm]∧H'=H5∨r=[]∧H'.length=H5.length∧Ext [H.length+2] H5 H'∧∃es ep,H'[H.length+2]?=some (.dict es ep)∧FoundIs es (pE D T fb rows nm))) hr5 (λr lc H' i=>?_) (.inl ⟨rfl,rfl⟩) ?_ ?_
   ·rcases i with ⟨_,rfl⟩|⟨_,_,x',_⟩
    ·exact hr5
    ·exact x'.2 _ _ hr5 (Mine.n1 (Nat.ne_of_lt (Nat.lt_of_lt_of_le (bS hr) (Nat.le_add_right _ _))))
   ·intro lc H6 q;refine yR (q.resolve_left λq=>nomatch q.1) λU n6 x6 z=>cX z λes6 ep6 he6 hD6=>?_
    clear q z
    refine G9 (gs:=gs) (x6.2 _ _ hc05 (by simp)) (x6.2 _ _ hc5 (by simp)) he6 hD6 ?_ (x6.2 _ _ (big hg hgk.1) (by have:=bS hg;simp;exact EA this)) λl H7 x7 h₇=>hP _ _ (iAA ht ⟨?_,λm o h q=>x7.2 _ _ (x6.2 _ _ (X5.2 _ _ h q) (by have:=bS h;simp;exact EA this)) (by simp)⟩ (iEA l rfl h₇))
    ·have:=nM (T:=T) (rows:=rows) (fb:=fb)
     unfold pE mS
     split<;>(first|exact la7 (Nat.lt_of_le_of_lt (Nat.le_trans (Nat.add_le_add_left (Nat.succ_le_succ this) _) (Nat.succ_le_succ hsz)) (by decide))|exact la4 (Nat.lt_of_le_of_lt (Nat.le_trans (Nat.add_le_add_left this _) hsz) (by decide)))
    ·have:=X5.1;have:=x6.1;have:=x7.1;exact oz81 n₂ n1 n3 n4 n n5 n6 this
   ·intro v r lc H6 j q hj U U;refine oA (q.resolve_right λq=>nomatch q.1) λh e=>?_
    ·clear q;subst e;cases h
     exact G8 g5 hc05 hc5 he5 hD5 hz5 λlc' H' es' ep' n' x' he' hD'=>hj _ _ (.inr (cJ rfl n' x' (dS es' ep' he' hD')))
  ·intro H5 x5 hb
   refine hX _ _ (iAA rfl ⟨?_,λl o h q=>x5.2 _ _ (x.2 _ _ (X.2 _ _ h (by simp)) (by have:=bS h;simp;exact EA this)) (by have:=bS h;simp at q ⊢;exact oz79 q this)⟩ hb)
   have:=X.1;have:=x.1;have:=x5.1;exact oz78 n₂ n1 n3 n4 n this
 ·intro v r lc H' j;refine iP λE n x s' z hj U U=>cQ z λD es ep' he hD h=>?_
  clear z
  rcases h with h|h|h
  ·obtain ⟨h,rfl⟩:=h
   cases h
   refine oE s'.geo.se λe0 hse=>?_
   refine oO (pc:=G.pt) (lf:=H.length+2) (pls:=pa) s'.geo.lt s.geo.at_ hka s' E (λq hq=>W.one q (by rw [hpl];exact List.mem_append_left _ hq)) (x.2 _ _ e3 (u3 rfl)) (dT (key:= .s aE) hse rfl (by kernel_rfl) (by kernel_rfl)) (x.2 _ _ e4 (u1 rfl)) he hD (by rw [hpl] at hsz;simp at hsz ⊢;exact oz77 hsz) (ne12 G.lt k0) ?_ λlc' H'' es' ep2 E2 n₂ x2 s2 he2 hD2=>hj _ _ (dZ E2 (SZ n n₂) (x.trans x2) s2 (cE pa es' ep2 he2 hD2 (.inr (.inl ⟨rfl,rfl⟩))))
   rw [hpl,List.map_append,List.nodup_append] at hnd
   exact (List.nodup_append.mp hnd.1).1
  ·obtain ⟨h,rfl⟩:=h
   cases h
   refine oE s'.geo.se λe0 hse=>?_
   refine oO (pc:=G.pd) (lf:=H.length+2) (pls:=pb) s'.geo.ld s.geo.ad hkb s' E (λq hq=>W.one q (by rw [hpl];exact List.mem_append_right _ hq)) (x.2 _ _ e3 (u3 rfl)) (dT (key:= .s aJ) hse rfl (by kernel_rfl) (by kernel_rfl)) (x.2 _ _ e4 (u1 rfl)) he hD (by rw [hpl] at hsz;simp at hsz ⊢;exact oz76 hsz) (ne12 G.ld (by simp)) ?_ λlc' H'' es' ep2 E2 n₂ x2 s2 he2 hD2=>hj _ _ (dZ E2 (SZ n n₂) (x.trans x2) s2 (cE (D++pb) es' ep2 he2 hD2 (.inr (.inr ⟨rfl,hpl.symm⟩))))
   rw [hpl,List.nodup_append] at hnd
   exact hnd.1
  ·cases h.1
theorem B1 (W:xY F G pl rows fb) {d:Nat} {nm:Str} {gs:TS} {H:Hp} {lr ep:Nat} (s:FS F G pl rows T H []) (hS:∀r∈rows,eU p F G pl rows T (d+2) [] r.name)
  (heq:H[F.P.eq]?=some (.dict (f9 rows) ep)) (hg:H[F.P.gl]?=some (.list (gs.map .str))) (hr:H[lr]?=some (.list [tR nm])) (hgk:F.P.gl∉[F.kn,F.fl]∧lr∉[F.kn,F.fl]):
  Rs (λv H'=>Ext [F.kn,F.fl] H H'∧((∀r∈rows,fb r.name=true→bP T r.name≠none)∧(∃l,v= .loc l∧H'[l]?=some (.list ((cI ((pE pl T fb rows nm).map (·.1))).map (jZ (pE pl T fb rows nm) gs))))∨v= .none∧∃r∈rows,fb r.name=true∧bP T r.name=none))
   (λc H'=>False) (aB (KK p) (d+4) 587 [aU F,.loc lr] H):=by
 refine bD E_587 ?_
 refine aZ (tW W s hS heq hg hr hgk) ?_ ?_
 ·intro v H';refine qAA λht X z1=>?_;refine oEA z1 λl z2 hl=>?_;clear z1;subst z2
  refine oEA (kH hl) λchk hit hck=>?_
  refine gN (λv=>match v with| .obj _ [(_,a),(_,b),(_,c),(_,e)]=>some (.tup [a,b,c,e])|_=>none) hl hit hck ?_ ?_ ?_
  ·have h9:=nM (T:=T) (rows:=rows) (fb:=fb)
   have:=W.sz
   rw [List.length_map,fQ,List.length_map]
   unfold pE mS
   split<;>(first|exact la6 (Nat.le_trans (Nat.add_le_add_left (Nat.succ_le_succ h9) _) (Nat.le_trans (Nat.succ_le_succ this) (by decide)))|exact la3 (Nat.le_trans (Nat.add_le_add_left h9 _) (Nat.le_trans this (by decide))))
  ·intro v hv H'' i x h
   refine oEA (List.mem_map.mp hv) λy hy z1=>?_;subst z1
   refine r_t rfl (bJ (λv H3=>v=jZ (pE pl T fb rows nm) gs y∧H3=H'') (λv H3 q=>by rw [q.1,q.2];exact h) λk hk=>?_)
   refine bD nD ?_
   unfold wH
   exact aZ (P':=λv H3=>v=jZ (pE pl T fb rows nm) gs y∧H3=H'') (X':=λU U=>False) (bD E_94 ⟨rfl,rfl⟩) (λv H3 q=>hk _ _ q) λc H' q=>q.elim
  ·intro H'' n x e
   refine ⟨⟨Nat.le_trans X.1 x.1,λl o h q=>x.2 _ _ (X.2 _ _ h q) (by simp)⟩,.inl ⟨ht,_,rfl,?_⟩⟩
   rw [e,B0 _ (wH (pE pl T fb rows nm) gs) (jZ (pE pl T fb rows nm) gs) _ λa U=>rfl]
 ·intro c H';refine qAA λz1 X hb=>?_;subst z1
  exact gU (by rw [X59];rfl) (aA B59 (r_t rfl ⟨X,.inr ⟨rfl,hb⟩⟩))
end
end
section
section
variable {P:TP} {X:TX}
theorem nN {H:Hp} {l m:Nat} {xs ys:TL} {j:TV} (hl:H[l]?=some (.list xs)) (hm:H[m]?=some (.list ys)) (hz:xs.length+ys.length≤1000)
  (h:∀H',H'.length=H.length+1→Ext [] H H'→H'[H.length]?=some (.list (xs++ys))→Rs P X (j (.loc H.length) H')):Rs P X (ob2 (bH H .Add (.loc l) (.loc m)) j):=by
 have e:bH H .Add (.loc l) (.loc m)=some (.loc H.length,H++[O.list (xs++ys)]):=by
  exact (kR (dE hl)).trans ((kR (dE hm)).trans (if_pos hz))
 exact bA e (h _ List.length_append .new fA)
theorem HD {H:Hp} {vs:TL} {j:TV} (hz:vs.length≤1000)
  (h:∀H',H'.length=H.length+1→Ext [] H H'→H'[H.length]?=some (.list vs)→Rs P X (j (.loc H.length) H')):Rs P X (ob2 (aD H (.type "list") [.tup vs]) j):=by
 have e:aD H (.type "list") [.tup vs]=some (.loc H.length,H++[O.list vs]):=by
  have e:aD H (.type "list") [.tup vs]=if vs.length≤1000 then some (V.loc H.length,H++[O.list vs]) else none:=by kernel_rfl
  exact e.trans (if_pos hz)
 exact bA e (h _ List.length_append .new fA)
end
theorem cutT_{H:Hp}{vs:TL}{a b:Int}(h:0≤a∧a≤b∧b≤vs.length∧vs.length≤1000):cut H (.tup vs) (.int a) (.int b)=some (.tup ((vs.take b.toNat).drop a.toNat),H):=by
 show (if 0≤a∧a≤b∧b≤vs.length∧vs.length≤1000 then some (V.tup ((vs.take b.toNat).drop a.toNat),H) else none)=_
 rw [if_pos h]
noncomputable def NAMES:TS:=[sI,zS,zT,zR,jR,zO]
theorem lN{m a:Nat}(h:a<m):(List.range m).drop a=a::(List.range m).drop (a+1):=by
 rw [List.drop_eq_getElem_cons (by simpa using h),List.getElem_range]
noncomputable def BC(grounds names:TS)(simple:Bool)(r:Row):Prop:=(r.plus=S_∨r.plus∈grounds∨r.plus∈names)∧(r.minus=S_∨r.minus∈grounds∨r.minus∈names)∧(simple=true→r.minus=S_)∧(r.plus=r.minus→r.plus=S_)
section
variable {p:Params}
theorem kX{H:Hp}{l:Nat}{xs:TS}{i:Int}(h:H[l]?=some (.list (xs.map .str)))(h0:0≤i)(h1:i<xs.length)(h2:xs.length≤1000):∃x∈xs,getItem H (.loc l) (.int i)=some (.str x):=by
 have hi:i.toNat<xs.length:=(oz121 h0 h1)
 refine (iEA (xs[i.toNat]) (List.getElem_mem hi) (oZ h h0 (oz120 h1 h2) ?_))
 rw [List.getElem?_map,List.getElem?_eq_getElem hi];rfl
set_option maxHeartbeats 4000000 in
theorem LS {d ls lc lf lg:Nat} {cs:TL} {grounds:TS} {simple:Bool} {m a:Nat} {at_:Int} {rows:List Row} {H:Hp} {l:Lc} {PP:TP} {X:TX} {j:TK} (ha:a<m) (hm:m≤6)
  (E:EnvM l [(aH,.loc lf),(iN,.int m),(bE,.bool simple),(bX,.loc lg),(cK,.loc ls)]) (S:Src H ls lc cs at_) (hat:at_<2^39) (hg:H[lg]?=some (.list (grounds.map .str))) (hgz:grounds.length≤100)
  (hf:H[lf]?=some (.list (rows.map dH))) (hr:rows.length=a) (hd:ls≠lf∧lc≠lf∧lg≠lf∧lg≠ls)
  (hj:∀l' H' r at',EnvM l' [(aH,.loc lf),(iN,.int m),(bE,.bool simple),(bX,.loc lg),(cK,.loc ls)]→Src H' ls lc cs at'→at'≤at_+4→Ext [ls,lf] H H'→H'[lf]?=some (.list ((rows++[r]).map dH))→NAMES[a]?=some r.name→BC grounds (NAMES.take m) simple r→Rs PP X (j .next l' H')):
  Rs PP X (vW p (aB (KK p) (d+1)) (.int a) l H j):=by
 have E1:EnvM ((fT,.int a)::l) [(aH,.loc lf),(iN,.int m),(bE,.bool simple),(bX,.loc lg),(cK,.loc ls)]:=E.put (by kernel_rfl)
 refine bJ (λv H'=>(∃f:Nat,v= .int f∧f≤m)∧Src H' ls lc cs (at_+1)∧Ext [ls] H H') ?_ λk hk=>?_
 ·intro v H1;refine qAA λz1 S1 x1=>?_;refine oEA z1 λf z2 hfm=>?_;clear z1;subst z2
  refine dI λH2 n₂ x2 e2=>?_
  refine aA (by walk_at "lk") ?_
  have hg1:=x1.2 _ _ hg (by simp [hd.2.2.2])
  have hg2:=x2.2 _ _ hg1 List.not_mem_nil
  refine nN (xs:=[V.str S_]) e2 hg2 (by refine lb2 ?_;exact oz119 hgz) λH3 n3 x3 e3=>?_
  refine aA (by walk_at "lk") ?_
  refine bA (cutT_ (by simp;exact oz118 hm hfm)) ?_
  refine HD (by simp;exact oz117) λH4 n4 x4 e4=>?_
  have e3':=x4.2 _ _ e3 List.not_mem_nil
  have ht:([V.str sI,.str zS,.str zT,.str zR,.str jR,.str zO].take (Int.toNat m)).drop (Int.toNat f)=((NAMES.take m).drop f).map V.str:=by
   rw [Int.toNat_natCast,Int.toNat_natCast,List.map_drop,List.map_take];rfl
  rw [ht] at e4
  have hlen:((NAMES.take m).drop f).length≤6:=by simp [NAMES];exact oz116
  refine nN e3' e4 (by simp at hlen ⊢;exact oz115 hlen hgz) λH5 n5 x5 e5=>?_
  have e5:H5[H4.length]?=some (.list ((S_::grounds++(NAMES.take m).drop f).map .str)):=by rw [e5];exact mp7
  have hpl:(S_::grounds++(NAMES.take m).drop f).length≤110:=by rw [List.length_append,List.length_cons];exact oz114 hgz hlen
  have hpl0:0<(S_::grounds++(NAMES.take m).drop f).length:=by exact Nat.zero_lt_succ _
  have hpm:∀x∈S_::grounds++(NAMES.take m).drop f,x=S_∨x∈grounds∨x∈NAMES.take m:=λx hx=>by
   rcases List.mem_append.mp hx with hx|hx
   ·rcases List.mem_cons.mp hx with hx|hx
    ·exact .inl hx
    ·exact .inr (.inl hx)
   ·exact .inr (.inr (List.mem_of_mem_drop hx))
  generalize hq:S_::grounds++(NAMES.take m).drop f=pool at e5 hpl hpl0 hpm
  have X:Ext [ls] H H5:=⟨by have:=x1.1;exact oz113 n₂ n3 n4 n5 this,λq o h hn=>x5.2 _ _ (x4.2 _ _ (x3.2 _ _ (x2.2 _ _ (x1.2 _ _ h hn) List.not_mem_nil) List.not_mem_nil) List.not_mem_nil) List.not_mem_nil⟩
  have S5:Src H5 ls lc cs (at_+1):=(((S1.ext x2 List.not_mem_nil List.not_mem_nil).ext x3 List.not_mem_nil List.not_mem_nil).ext x4 List.not_mem_nil List.not_mem_nil).ext x5 List.not_mem_nil List.not_mem_nil
  have hlp:ls<H4.length:=by have:=bS S1.s;exact oz112 this n₂ n3 n4
  refine aA (by walk_at "lk") ?_
  refine bA (kG e5 (by refine lm2 ?_;exact NO hpl)) ?_
  rw [List.length_map]
  refine aZ (b8 S5 (EF hat) (yO hpl0)) ?_ λc H' q=>q.elim
  intro v H6;refine dD λi z1 hi0 hi1 n6 x6 S6=>?_;subst z1
  have e6:=x6.2 _ _ e5 (by refine n1 ?_;exact AE hlp)
  refine oEA (kX e6 hi0 hi1 (NQ hpl)) λplus hplus gp=>?_
  refine aA gp ?_
  refine bJ (λv H'=>∃minus at',v= .str minus∧minus∈pool∧(simple=true→minus=S_)∧Src H' ls lc cs at'∧at'≤at_+3∧Ext [ls] H6 H') ?_ λk₂ hk2=>?_
  ·intro v H7;refine wJ λminus at' z2 hminus hsm S7 hat' x7=>?_;subst z2
   refine aA (by walk_at "lk") ?_
   refine aZ (b8 S7 (oz110 hat hat') oz109) ?_ λc H' q=>q.elim
   intro v H8;refine dD λw z1 hw0 hw1 n8 x8 S8=>?_;subst z1
   refine bA yD ?_
   have X8:Ext [ls] H H8:=((X.trans x6).trans x7).trans x8
   have f8:=X8.2 _ _ hf (by refine n1 ?_;exact λq=>hd.1 q.symm)
   refine eF (λlc' H'=>H'=H8∧∃pl mi,EnvM lc' [(fT,.int a),(aX,.int (w - 1000)),(cN,.str pl),(cF,.str mi),(aH,.loc lf),(iN,.int m),(bE,.bool simple),(bX,.loc lg),(cK,.loc ls)]∧(pl=S_∨pl∈pool)∧(mi=S_∨mi∈pool)∧(simple=true→mi=S_)∧(pl=mi→pl=S_)) ?_ λk₃ hk3=>?_
   ·intro lc' H';refine wK λz1 pl mi E2 h1 h2 h3 h4=>?_;subst z1
    have ex:∀{x:Str},(x=S_∨x∈pool)→x=S_∨x∈grounds∨x∈NAMES.take m:=fun {x} h=>h.elim Or.inl (hpm x)
    obtain ⟨nm,hnm⟩:∃nm,NAMES[a]?=some nm:=⟨NAMES[a]'(by simp [NAMES];exact oz108 ha hm),List.getElem?_eq_getElem _⟩
    have hi:getItem H' (.tup [.str sI,.str zS,.str zT,.str zR,.str jR,.str zO]) (.int a)=some (.str nm):=cR (TA) (oz107 ha hm) (by
      rw [Int.toNat_natCast]
      have:([V.str sI,.str zS,.str zT,.str zR,.str jR,.str zO])[a]?=(NAMES.map V.str)[a]? :=rfl
      rw [this,List.getElem?_map,hnm];rfl)
    clear E E1 ht
    refine aA (by walk_at "lk") ?_
    refine bJ (λU H''=>H''.length=H'.length∧Ext [lf] H' H''∧H''[lf]?=some (.list ((rows++[(⟨nm,w - 1000,pl,mi⟩:Row)]).map dH))) ?_ λk₄ hk4=>?_
    ·intro _ H9;refine qAA λn9 x9 e9=>?_
     refine hj _ _ ⟨nm,w - 1000,pl,mi⟩ (at'+1) (λq hq=>E2 q (List.mem_append_right [(fT,V.int a),(aX,.int (w - 1000)),(cN,.str pl),(cF,.str mi)] hq)) (S8.ext x9 (by simp [hd.1]) (by simp [hd.2.1])) (oz106 hat') ((X8.mono λq hq=>by rw [List.mem_singleton.mp hq];simp).trans (x9.mono λq hq=>by rw [List.mem_singleton.mp hq];simp)) e9 hnm (cJ (ex h1) (ex h2) h3 h4)
    ·refine yI ?_
     refine gU (by rw [dE f8];kernel_rfl) ?_
     with_reducible refine aA (by walk_at "lk") ?_
     with_reducible refine aA hi ?_
     with_reducible refine aA (by walk_at "lk") ?_
     with_reducible refine aA (by walk_at "lk") ?_
     with_reducible refine aA (by walk_at "lk") ?_
     with_reducible refine aA (dE f8) ?_
     have e:aM H' lf (rows.map dH) b9 [.tup [.str nm,.int (w - 1000),.str pl,.str mi]]=some (.none,H'.set lf (.list (rows.map dH++[.tup [.str nm,.int (w - 1000),.str pl,.str mi]]))):=by
      have:aM H' lf (rows.map dH) b9 [.tup [.str nm,.int (w - 1000),.str pl,.str mi]]=if (rows.map dH).length≤1000 then some (.none,H'.set lf (.list (rows.map dH++[.tup [.str nm,.int (w - 1000),.str pl,.str mi]]))) else none:=by kernel_rfl
      rw [this,if_pos (by simp;exact oz105 ha hr hm)]
     with_reducible refine bA e ?_
     refine hk4 _ _ (iAA (by simp) (.set (by simp)) ?_)
     rw [jF f8];simp [dH]
   ·refine aA uV ?_
    refine fC (λq=>?_) λq=>?_
    ·refine hk3 _ _ ⟨rfl,S_,S_,?_,.inl rfl,.inl rfl,λU=>rfl,λU=>rfl⟩
     refine EnvM.cons (by walk_at "lk") (EnvM.cons (by walk_at "lk") (EnvM.cons (by walk_at "lk") (EnvM.cons (by walk_at "lk") ?_)))
     exact (((((((E1.put (by kernel_rfl)).put (by kernel_rfl)).put (by kernel_rfl)).put (by kernel_rfl)).put (by kernel_rfl)).put (by kernel_rfl)).put (by kernel_rfl))
    ·refine hk3 _ _ ⟨rfl,plus,minus,?_,.inr hplus,.inr hminus,hsm,λz=>?_⟩
     ·refine EnvM.cons (by walk_at "lk") (EnvM.cons (by walk_at "lk") (EnvM.cons (by walk_at "lk") (EnvM.cons (by walk_at "lk") ?_)))
      exact (((((E1.put (by kernel_rfl)).put (by kernel_rfl)).put (by kernel_rfl)).put (by kernel_rfl)).put (by kernel_rfl))
     ·rw [z] at q;simp at q
  ·refine aA (by walk_at "lk") ?_
   have ht:mH H6 (.bool simple)=some simple:=rfl
   refine aA ht ?_
   refine fC (λq=>?_) λq=>?_
   ·exact hk2 _ _ (eI S_ (at_+1+1) rfl (by rw [←hq];simp) (λU=>rfl) S6 ⟨oz104,Ext.refl _ _⟩)
   ·refine aA (by walk_at "lk") ?_
    refine bA (kG e6 (by simp;exact NO hpl)) ?_
    rw [List.length_map]
    refine aZ (b8 S6 (NP hat) (yO hpl0)) ?_ λc H' q=>q.elim
    intro v H7;refine dD λi' z1 hi0' hi1' n7 x7 S7=>?_;subst z1
    have e7:=x7.2 _ _ e6 (by simp;exact AE hlp)
    refine oEA (kX e7 hi0' hi1' (NQ hpl)) λminus hminus gm=>?_
    exact aA gm (hk2 _ _ (eI minus (at_+1+1+1) rfl hminus (λz=>(by rw [q] at z;cases z)) S7 ⟨oz99,x7⟩))
 ·refine aA (by walk_at "lk") ?_
  refine aZ (b8 S (LA hat) (by decide)) ?_ λc H' q=>q.elim
  intro v H1;refine dD λi z1 hi0 hi1 n₁ x1 S1=>?_;subst z1
  refine aA F4 ?_
  refine fC (λq=>hk _ _ (iAA (iEA 0 rfl SY) S1 x1)) λq=>?_
  refine bA jN (hk _ _ (iAA (iEA (a+1) (by simp) (oz96 ha)) S1 x1))
end
end
section
section variable {H:Hp} {d:Nat} {t:Str}
variable {p:Params}
theorem yA{a:Nat}{x:Str}(h:NAMES[a]?=some x):NAMES.take (a+1)=NAMES.take a++[x]:=by
 rw [List.take_succ,h];rfl
theorem uU{ls lc lg:Nat}{cs:TL}{grounds:TS}{simple:Bool}{at_:Int}(S:Src H ls lc cs at_)(hat:at_<2^38)(hg:H[lg]?=some (.list (grounds.map .str)))(hgz:grounds.length≤100)(hlg:lg≠ls):
  Rs (λv H'=>∃(rows:List Row) (at':Int),v= .loc H.length∧H'[H.length]?=some (.list (rows.map dH))∧Src H' ls lc cs at'∧at'≤at_+30∧Ext [ls] H H'∧rows.length≤6∧rows.map (·.name)=NAMES.take rows.length∧∀r∈rows,BC grounds (NAMES.take rows.length) simple r)
   (λU U=>False) (aB (KK p) (d+2) 533 [.loc ls,.loc lg,.bool simple] H):=by
 refine bD E_533 ?_
 have hls:=bS S.s
 have hlc:=bS S.c
 have hlgl:=bS hg
 refine aZ (b8 S (TB hat) (by decide)) ?_ λc H' q=>q.elim
 intro v H1;refine dD λi z1 hi0 hi1 n₁ x1 S1=>?_;subst z1
 obtain ⟨m,rfl⟩:∃m:Nat,i=m:=⟨i.toNat,by exact oz138 hi0⟩
 have hm:m≤6:=(oz137 hi1)
 with_reducible refine dI λH2 n₂ x2 e2=>?_
 rw [n₁] at e2
 rw [n₁]
 have S2:=S1.ext x2 List.not_mem_nil List.not_mem_nil
 have hi:((m:Nat):Int)<2^31:=(oz136 hi1)
 with_reducible refine kW (Int.natCast_nonneg _) hi ?_
 have hit:=nU (H:=H2) (n:=m) (oz135 hi1)
 rw [Int.toNat_natCast]
 have hg2:=x2.2 _ _ (x1.2 _ _ hg (by exact n1 (by assumption))) List.not_mem_nil
 with_reducible refine lO (λr l H'=>EnvM l [(aH,.loc H.length),(iN,.int m),(bE,.bool simple),(bX,.loc lg),(cK,.loc ls)]∧∃(a:Nat) (rows:List Row) (at':Int),a≤m∧r=((List.range m).drop a).map (λ(i:Nat)=>V.int i)∧rows.length=a∧H'[H.length]?=some (.list (rows.map dH))∧Src H' ls lc cs at'∧at'≤at_+1+4*a∧Ext [ls,H.length] H2 H'∧rows.map (·.name)=NAMES.take a∧∀r∈rows,BC grounds (NAMES.take m) simple r) hit ?_ ?_ ?_
 ·exact ⟨EnvM.cons (by walk_at "lk") (EnvM.cons (by walk_at "lk") (EnvM.cons (by walk_at "lk") (EnvM.cons (by walk_at "lk") (EnvM.cons (by walk_at "lk") EnvM.nil)))),0,[],at_+1,(SY),rfl,rfl,e2,S2,oz134,Ext.refl _ _,rfl,by simp⟩
 ·intro l H';refine lD λE a rows at' ha hr hlen e S' hat' x hnm hok=>?_
  have ham:a=m:=by
   have:=congrArg List.length hr
   simp at this
   exact NL this ha
  subst ham
  subst hlen
  refine aA (by walk_at "lk") ?_
  refine (eI rows at' rfl e S' (oz132 hi1 hat') (cJ ⟨by have:=x.1;exact oz131 n₂ n₁ this,λq o h hn=>x.2 _ _ (x2.2 _ _ (x1.2 _ _ h hn) List.not_mem_nil) (by have:=bS h;simp at hn ⊢;exact oz130 this hn)⟩ (oz129 hm) hnm hok))
 ·intro v r l H' j;refine lD λE a rows at' ha hr hlen e S' hat' x hnm hok=>?_;intro hj _ _
  have ham:a<m:=by
   have:=congrArg List.length hr
   simp at this
   exact NM this
  rw [lN ham,List.map_cons] at hr
  cases hr
  refine LS (grounds:=grounds) ham hm E S' (oz127 hi1 hat hat' ham) (x.2 _ _ hg2 (by refine n2 ?_;exact oz126 hlgl hlg)) hgz e hlen (cJ (D9 hls) (D9 hlc) (D9 hlgl) hlg) λl' H3 r at3 E3 S3 hat3 x3 e3 hn3 hok3=>?_
  refine hj _ _ ⟨E3,a+1,rows++[r],at3,(oz96 ham),rfl,by exact lb7 (by assumption),e3,S3,(oz125 hat' hat3),x.trans x3,?_,λq hq=>?_⟩
  ·rw [List.map_append,hnm,yA hn3];rfl
  ·rcases List.mem_append.mp hq with hq|hq
   ·exact hok q hq
   ·rw [List.mem_singleton.mp hq];exact hok3
theorem tY{P:PG}{ss:TG}{ep:Nat}{nms:TL}(hs:H[P.se]?=some (.dict ss ep))(ha:cS ss=true)(hf:aP (.s t) ss=none)(hz:ss.length≤100)(hn:H[P.nm]?=some (.list nms))(hz2:nms.length≤100)(hne:P.se≠P.nm):
  Rs (λv H'=>v=bL (.str t) (.loc H.length) (.loc (H.length+1))∧H'.length=H.length+2∧Ext [P.se,P.nm] H H'∧H'[H.length]?=some (.list [])∧H'[H.length+1]?=some (.dict [] 0)∧(∃ep',H'[P.se]?=some (.dict (cP (.s t) (bL (.str t) (.loc H.length) (.loc (H.length+1))) ss) ep'))∧H'[P.nm]?=some (.list (nms++[.str t])))
   (λU U=>False) (aB (KK p) (d+1) 422 [bG P,.str t] H):=by
 refine bD E_422 ?_
 have l1:=bS hs
 have l2:=bS hn
 refine eF (λlc H'=>EnvM lc [(aQ,.str t),(eC,bG P)]∧H'.length=H.length+2∧Ext [P.se,P.nm] H H'∧H'[H.length]?=some (.list [])∧H'[H.length+1]?=some (.dict [] 0)∧(∃ep',H'[P.se]?=some (.dict (cP (.s t) (bL (.str t) (.loc H.length) (.loc (H.length+1))) ss) ep'))∧H'[P.nm]?=some (.list (nms++[.str t]))) ?_ λk hk=>?_
 ·intro lc H';refine AD λE n x a b z2 e=>?_;refine oE z2 λep' c=>?_;clear z2
  refine aA (by walk_at "lk") (bD dN ?_)
  refine aA (by walk_at "lk") ?_
  refine aA (dT (key:= .s t) c rfl (aI (nA ha _ _) _) (d8 _ _ _)) ?_
  exact (dZ rfl n x a (iAA b ⟨ep',c⟩ e))
 ·refine aA (hZ (key:= .s t) hs rfl (aI ha _)) (r_t (by rw [hf];rfl) ?_)
  refine dI λH1 n₁ x1 e1=>?_
  refine dI λH2 n₂ x2 e2=>?_
  rw [n₁] at e2
  rw [n₁]
  refine gD (key:= .s t) rfl (x2.2 _ _ (x1.2 _ _ hs List.not_mem_nil) List.not_mem_nil) (qP hz) (aI ha _) λH3 ep3 n3 x3 e3=>?_
  refine j8 (x3.2 _ _ (x2.2 _ _ (x1.2 _ _ hn (by simp)) (by simp)) (by simp [Ne.symm hne])) (qP hz2) λH4 n4 x4 e4=>?_
  refine hk _ _ (dZ (EnvM.cons (by walk_at "lk") (EnvM.cons (by walk_at "lk") EnvM.nil)) (oz124 n₁ n₂ n3 n4) ⟨(oz123 n₁ n₂ n3 n4),λ l o h hn=>?_⟩ ?_ (iAA ?_ ⟨ep3,?_⟩ e4))
  ·simp at hn
   exact x4.2 _ _ (x3.2 _ _ (x2.2 _ _ (x1.2 _ _ h (by simp)) (by simp)) (by simp [hn.1])) (by simp [hn.2])
  ·exact x4.2 _ _ (x3.2 _ _ (x2.2 _ _ e1 List.not_mem_nil) (by refine n1 ?_;exact AE l1)) (by refine n1 ?_;exact AE l2)
  ·exact x4.2 _ _ (x3.2 _ _ e2 (by refine n1 ?_;exact NN l1)) (by refine n1 ?_;exact NN l2)
  ·exact x4.2 _ _ e3 (by exact n1 (by assumption))
theorem tE{x:Str}{pc lb:Nat}{ps:TL}{es:TG}{ep:Nat}(hp:H[pc]?=some (.list ps))(hz:ps.length≤100)(hl:H[lb]?=some (.dict es ep))(ha:cS es=true)(hz2:es.length≤100):
  Rs (λU H'=>H'.length=H.length∧Ext [lb] H H'∧∃ep',H'[lb]?=some (.dict (cP (.s x) (.tup [.int ps.length,.int 0]) es) ep')) (λU U=>False) (aB (KK p) (d+1) 382 [bL (.str t) (.loc pc) (.loc lb),.str x] H):=by
 refine bD E_382 ?_
 refine bA (kG hp (EB hz)) ?_
 refine gD (key:= .s x) rfl hl (qP hz2) (aI ha _) λH3 ep3 n3 x3 e3=>?_
 exact (iAA n3 x3 ⟨ep3,e3⟩)
theorem C9{pc lb:Nat}{v:V}{ps:TL}(hp:H[pc]?=some (.list ps))(hz:ps.length≤100):
  Rs (λU H'=>H'.length=H.length∧Ext [pc] H H'∧H'[pc]?=some (.list (ps++[v]))) (λU U=>False) (aB (KK p) (d+1) 375 [bL (.str t) (.loc pc) (.loc lb),v] H):=by
 refine bD E_375 ?_
 exact j8 hp (qP hz) λH3 n3 x3 e3=>(iAA n3 x3 e3)
end
end
section
noncomputable def eK(c k:Nat):Str:=⟨#[c,48+k]⟩
noncomputable def gY(c:Nat):Str:=⟨#[c,101]⟩
theorem xD{c k j:Nat}(h:eK c k=eK c j):k=j:=by
 unfold eK at h
 have:=congrArg Str.cps h
 simp at this
 exact this
theorem NZ{c k:Nat}(hk:k<3):eK c k≠gY c:=λh=>by
 unfold eK gY at h
 have:=congrArg Str.cps h
 simp at this
 exact oz153 this hk
noncomputable def VPl(u:Str×Int):V:= .tup [.str u.1,.int u.2]
noncomputable def lY(k:Nat):V:= .tup [.int k,.int 0]
theorem d7{α:Type}{l:Tab α}{x:Str}(h:∀u∈l,u.1≠x):has l x=false:=by
 unfold has
 cases q:l.lookup x with
 |none=>rfl
 |some v=>
  have:(x,v)∈l:=by
   clear h
   induction l with
   |nil=>cases q
   |cons a r ih=>
    obtain ⟨y,u⟩:=a
    rw [List.lookup_cons] at q
    cases e:x==y with
    |true=>rw [e] at q;cases q;rw [beq_iff_eq.mp e];exact List.mem_cons_self ..
    |false=>rw [e] at q;exact List.mem_cons_of_mem _ (ih q)
  exact absurd rfl (h _ this)
abbrev QL:=List (Str×(Nat×Int))
section variable {H:Hp}
variable {p:Params} {P:PG} {L:LY} {ls lc lp pc lb c:Nat} {cs:TL} {t:Str} {pl0:Pl}
noncomputable abbrev BK (P:PG) (L:LY) (ls lp pc lb:Nat) (t:Str) (here:Int):Lc:=[(jP,.int here),(mC,bL (.str t) (.loc pc) (.loc lb)),(eN,.str t),(bY,.loc lp),(cZ,iM L),(aT,bG P),(cK,.loc ls)]
noncomputable def qPl(t:Str)(q:QL):Pl:=q.map λu=>(u.1,(t,u.2.2))
structure InS (L:LY) (lp pc lb c:Nat) (t:Str) (pl0:Pl) (eo0:TG) (a:Nat) (q:QL) (eo:TG) (H:Hp):Prop where
 lbs:∃ep,H[lb]?=some (.dict (aG lY (q.map λu=>(u.1,u.2.1))) ep)
 pls:∃ep,H[lp]?=some (.dict (aG VPl (pl0++qPl t q)) ep)
 ofs:∃ep,H[L.off]?=some (.dict eo ep)
 eoS:eo.all (λe=>!e.1.isS)=true
 eoz:eo.length≤eo0.length+a
 pcs:∃ps,H[pc]?=some (.list ps)∧ps.length=a
 q1:∀u∈q,u.2.1<a∧aP (.p t u.2.1) eo=some (.int u.2.2)
 q2:∀u∈q,∃k,k<a∧u.1=eK c k
 q3:(q.map (·.1)).Nodup
 fr:∀k:Nat,a≤k→aP (.p t k) eo=none
 old:∀t' k,t'≠t→aP (.p t' k) eo=aP (.p t' k) eo0
theorem LF{es:TG}(h:es.all (λe=>!e.1.isS)=true)(x:Str)(k:Int)(v:V):(cP (.p x k) v es).all (λe=>!e.1.isS)=true:=by
 refine List.all_eq_true.mpr λe he=>?_
 have:e.1∈(cP (.p x k) v es).map (·.1):=List.mem_map.mpr (iEA e he rfl)
 rw [fG] at this
 have old:∀k',k'∈es.map (·.1)→(!k'.isS)=true:=λk' hk'=>by
  refine oEA (List.mem_map.mp hk') λe' he' z3=>?_;subst z3
  exact List.all_eq_true.mp h e' he'
 split at this
 ·exact old _ this
 ·rcases List.mem_append.mp this with q|q
  ·exact old _ q
  ·rw [List.mem_singleton.mp q];rfl
theorem OJ{a:Nat}(ha:a<3):aD H (.type "str") [.int a]=some (.str ⟨#[48+a]⟩,H):=by
 match a,ha with
 |0,_=>kernel_rfl
 |1,_=>kernel_rfl
 |2,_=>kernel_rfl
theorem UQ{i:Int}(h0:0≤i)(h1:i<1000):aD H (.type "bytes") [.int i]=some (.bytes (Array.replicate i.toNat 0),H):=by
 show (if 0≤i∧i<1000 then some (V.bytes (Array.replicate i.toNat 0),H) else none)=_
 rw [if_pos ⟨h0,h1⟩]
theorem LM(c a:Nat):(⟨#[c]⟩:Str)++(⟨#[48+a]⟩:Str)=eK c a:=by kernel_rfl
set_option maxHeartbeats 4000000 in
theorem B5 {d a:Nat} {at_ here:Int} {q:QL} {eo0 eo:TG} {l:Lc} {PP:TP} {X:TX} {j:TK} (C:Ch [lc,ls,P.se,P.nm,P.eq,P.gl,L.off,L.wd,L.ln,lp,pc,lb]) (ha:a<3)
  (ht:∀H,getItem H (.str t) (.int 1)=some (.str ⟨#[c]⟩)) (hp0:∀u∈pl0,∀k,k<3→u.1≠eK c k) (hpz:pl0.length≤10) (hoz:eo0.length≤10)
  (E:EnvM l (BK P L ls lp pc lb t here)) (S:Src H ls lc cs at_) (hat:at_<2^39) (I:InS L lp pc lb c t pl0 eo0 a q eo H)
  (hj:∀l' H' here' at' q' eo',EnvM l' (BK P L ls lp pc lb t here')→Src H' ls lc cs at'→at'≤at_+2→Ext [ls,lb,lp,pc,L.off] H H'→InS L lp pc lb c t pl0 eo0 (a+1) q' eo' H'→Rs PP X (j .next l' H')):
  Rs PP X (vX p (aB (KK p) (d+1)) (.int a) l H j):=by
 have qlen:q.length≤a:=by
  have h:=iV (l:=q.map (·.1)) (m:=(List.range a).map (eK c)) I.q3 λx hx=>by
   refine oEA (List.mem_map.mp hx) λu hu z3=>?_;subst z3
   refine oEA (I.q2 u hu) λk hk e=>?_
   exact List.mem_map.mpr (iEA k (List.mem_range.mpr hk) e.symm)
  simpa using h
 have E1:EnvM ((fT,.int a)::l) (BK P L ls lp pc lb t here):=E.put (by kernel_rfl)
 refine aA (by walk_at "lk") (aA (ht H) (bA (OJ ha) (bA (GO (by show 1+1≤1000;decide)) ?_)))
 rw [LM]
 have E2:EnvM ((dM,.str (eK c a))::(fT,.int a)::l) (BK P L ls lp pc lb t here):=E1.put (by kernel_rfl)
 refine oE I.lbs λe1 hlbs=>?_
 refine oE I.pls λe2 hpls=>?_
 refine oE I.ofs λe3 hofs=>?_
 refine oEA I.pcs λps hps hpsl=>?_
 refine eF (λl' H'=>l'=((dM,V.str (eK c a))::(fT,.int a)::l)∧Src H' ls lc cs (at_+1)∧Ext [ls,lb,lp] H H'∧∃q':QL,(∃ep,H'[lb]?=some (.dict (aG lY (q'.map λu=>(u.1,u.2.1))) ep))∧(∃ep,H'[lp]?=some (.dict (aG VPl (pl0++qPl t q')) ep))∧(q'=q∨q'=q++[(eK c a,(a,here))])) ?_ λk hk=>?_
 ·intro l' H1;refine j4 λz3 S1 x1 z4=>?_;subst z3;refine eV z4 λq' hl1 hp1 hq'=>?_;clear z4
  have hof1:=x1.2 _ _ hofs (C.out 6 [1,11,9] rfl)
  have hps1:=x1.2 _ _ hps (C.out 10 [1,11,9] rfl)
  refine aA (by walk_at "lk") ?_
  refine aZ (b8 S1 (EF hat) (by decide)) ?_ λc H' q=>q.elim
  intro v H2;refine dD λi z3 hi0 hi1 n₂ x2 S2=>?_;subst z3
  have E3:EnvM ((iN,.int i)::(dM,.str (eK c a))::(fT,.int a)::l) (BK P L ls lp pc lb t here):=E2.put (by kernel_rfl)
  refine aA (by walk_at "lk") (aA (by walk_at "lk") (bD nG (aA (by walk_at "lk") (aA (by walk_at "lk") ?_))))
  have hof2:=x2.2 _ _ hof1 (C.out 6 [1] rfl)
  refine gD (key:= .p t a) rfl hof2 (by have:=I.eoz;exact oz152 ha this hoz) (uE I.eoS _ _) λH3 ep3 n3 x3 e₃=>?_
  have S3:=S2.ext x3 (C.out 1 [6] rfl) (C.out 0 [6] rfl)
  have hps3:=x3.2 _ _ (x2.2 _ _ hps1 (C.out 10 [1] rfl)) (C.out 10 [6] rfl)
  refine aA (by walk_at "lk") ?_
  refine bJ (λU H'=>Ext [pc] H3 H'∧∃v,H'[pc]?=some (.list (ps++[v]))) ?_ λk₂ hk2=>?_
  ·intro _ H4;refine qAE λx4 v e4=>?_
   refine aA (by walk_at "lk") (bA jN ?_)
   have X:Ext [ls,lb,lp,pc,L.off] H H4:=(((x1.cov (Cov.p [0,1,2] rfl)).then x2 (Cov.p [0] rfl)).then x3 (Cov.p [4] rfl)).then x4 (Cov.p [3] rfl)
   refine oE hl1 λea hl1=>?_
   refine oE hp1 λeb hp1=>?_
   refine hj _ _ (here+i) (at_+1+1) q' (cP (.p t a) (.int here) eo) (EnvM.cons lk0 ?_) (S3.ext x4 (C.out 1 [10] rfl) (C.out 0 [10] rfl)) oz151 X ?_
   ·exact (show EnvM _ [(mC,bL (.str t) (.loc pc) (.loc lb)),(eN,.str t),(bY,.loc lp),(cZ,iM L),(aT,bG P),(cK,.loc ls)] from λz hz=>E3 z (List.mem_cons_of_mem _ hz)).put (by kernel_rfl)
   ·have find_self:aP (.p t (a:Int)) (cP (.p t a) (.int here) eo)=some (.int here):=d8 _ _ _
    have find_ne:∀{t':Str} {k:Int},(t'≠t∨k≠a)→aP (.p t' k) (cP (.p t a) (.int here) eo)=aP (.p t' k) eo:=fun {t' k} h=>iB _ _ λz=>by
     refine oA (Key.p.inj z) λz1 z2=>?_
     rcases h with h|h
     ·exact h z1
     ·exact h z2
    exact {
        lbs:=⟨ea,x4.2 _ _ (x3.2 _ _ (x2.2 _ _ hl1 (C.out 11 [1] rfl)) (C.out 11 [6] rfl)) (C.out 11 [10] rfl)⟩,pls:=⟨eb,x4.2 _ _ (x3.2 _ _ (x2.2 _ _ hp1 (C.out 9 [1] rfl)) (C.out 9 [6] rfl)) (C.out 9 [10] rfl)⟩,ofs:=⟨ep3,x4.2 _ _ e₃ (C.out 6 [10] rfl)⟩,eoS:=LF I.eoS _ _ _,eoz:=by have h1:=qK (.p t a) (.int here) eo;have h2:=I.eoz;exact oz150 h1 h2,pcs:=(iEA _ e4 (by exact lb7 (by assumption))),
        q1:=by
         have old:∀u∈q,u.2.1<a+1∧aP (.p t u.2.1) (cP (.p t a) (.int here) eo)=some (.int u.2.2):=λu hu=>by
          refine oA (I.q1 u hu) λh1 h2=>?_
          exact ⟨(NI h1),by rw [find_ne (.inr (oz149 h1))];exact h2⟩
         rcases hq' with rfl|rfl
         ·exact old
         ·intro u hu
          rcases List.mem_append.mp hu with hu|hu
          ·exact old u hu
          ·rw [List.mem_singleton.mp hu];exact ⟨by simp,find_self⟩
        q2:=by
         have old:∀u∈q,∃k,k<a+1∧u.1=eK c k:=λu hu=>by
          refine oEA (I.q2 u hu) λk h1 h2=>?_
          exact (iEA k (NI h1) h2)
         rcases hq' with rfl|rfl
         ·exact old
         ·intro u hu
          rcases List.mem_append.mp hu with hu|hu
          ·exact old u hu
          ·rw [List.mem_singleton.mp hu];exact (iEA a oz147 rfl)
        q3:=by
         rcases hq' with rfl|rfl
         ·exact I.q3
         ·rw [List.map_append,List.nodup_append]
          refine (iAA I.q3 ndo (λx hx y hy e=>?_))
          refine oEA (List.mem_map.mp hx) λu hu z3=>?_;subst z3
          refine oEA (I.q2 u hu) λk h1 h2=>?_
          simp at hy
          rw [hy,h2] at e
          have:=xD e
          exact EE h1 this
        fr:=λk hk=>by rw [find_ne (.inr (oz146 hk))];exact I.fr k (NJ hk)
        old:=λt' k h=>by rw [find_ne (.inl h)];exact I.old t' k h}
  ·refine bD rR ?_
   refine bA (UQ hi0 (oz144 hi1)) ?_
   refine dI λH4 n4 x4 e4=>?_
   refine aZ (C9 (x4.2 _ _ hps3 List.not_mem_nil) (NK ha hpsl)) ?_ λc H' q=>q.elim
   intro v H5;refine qAA λn5 x5 e5=>?_
   exact hk2 _ _ ⟨⟨(oz143 n4 n5),λz o h hn=>x5.2 _ _ (x4.2 _ _ h List.not_mem_nil) hn⟩,_,e5⟩
 ·refine aA (by walk_at "lk") ?_
  refine aZ (b8 S (LA hat) (by decide)) ?_ λc H' q=>q.elim
  intro v H1;refine dD λi z3 hi0 hi1 n₁ x1 S1=>?_;subst z3
  have hl1:=x1.2 _ _ hlbs (C.out 11 [1] rfl)
  have hp1:=x1.2 _ _ hpls (C.out 9 [1] rfl)
  have hps1:=x1.2 _ _ hps (C.out 10 [1] rfl)
  refine aA F4 ?_
  refine fC (λqi=>?_) λqi=>hk _ _ (cJ rfl S1 (x1.cov (Cov.p [0] rfl)) (cM q ⟨e1,hl1⟩ ⟨e2,hp1⟩ (.inl rfl)))
  refine aA (by walk_at "lk") ?_
  have fresh:∀u∈q,u.1≠eK c a:=λu hu e=>by
   refine oEA (I.q2 u hu) λk h1 h2=>?_
   rw [h2] at e
   have:=xD e
   exact EE h1 this
  refine bJ (λU H'=>Ext [lb] H1 H'∧∃ep,H'[lb]?=some (.dict (aG lY ((q++[(eK c a,(a,here))]).map λu=>(u.1,u.2.1))) ep)) ?_ λk₂ hk2=>?_
  ·intro _ H2;refine qAE λx2 ep2 e₂=>?_
   refine aA (by walk_at "lk") (aA (by walk_at "lk") (aA (by walk_at "lk") ?_))
   have hp2:=x2.2 _ _ hp1 (C.out 9 [11] rfl)
   refine gD (key:= .s (eK c a)) rfl hp2 (by rw [dO];unfold qPl;refine la2 ?_;exact oz141 ha hpz qlen) (aI (aY _ _) _) λH3 ep3 n3 x3 e₃=>?_
   have hput:cP (.s (eK c a)) (V.tup [.str t,.int here]) (aG VPl (pl0++qPl t q))=aG VPl (pl0++qPl t (q++[(eK c a,(a,here))])):=by
    have:=dB VPl (pl0++qPl t q) (x:=eK c a) (d7 λu hu=>?_) (t,here)
    ·rw [show V.tup [.str t,.int here]=VPl (t,here) from rfl,this]
     unfold qPl;simp
    ·rcases List.mem_append.mp hu with hu|hu
     ·exact hp0 u hu a ha
     ·unfold qPl at hu
      refine oEA (List.mem_map.mp hu) λu' hu' z3=>?_;subst z3
      exact fresh u' hu'
   rw [hput] at e₃
   exact hk _ _ (cJ rfl ((S1.ext x2 (C.out 1 [11] rfl) (C.out 0 [11] rfl)).ext x3 (C.out 1 [9] rfl) (C.out 0 [9] rfl)) (((x1.cov (Cov.p [0] rfl)).then x2 (Cov.p [1] rfl)).then x3 (Cov.p [2] rfl)) (cM (q++[(eK c a,(a,here))]) ⟨ep2,x3.2 _ _ e₂ (C.out 11 [9] rfl)⟩ ⟨ep3,e₃⟩ (.inr rfl)))
  ·refine bD jY ?_
   refine aZ (tE hps1 (NK ha hpsl) hl1 (aY _ _) (by rw [dO];refine lm1 ?_;exact oz139 ha qlen)) ?_ λc H' q=>q.elim
   intro v H2;refine qAAE λn₂ x2 ep2 e₂=>?_
   refine hk2 _ _ ⟨x2,ep2,?_⟩
   rw [e₂,hpsl]
   have:=dB lY (q.map λu=>(u.1,u.2.1)) (x:=eK c a) (d7 λu hu=>?_) a
   ·rw [show V.tup [.int (a:Int),.int 0]=lY a from rfl,this];simp
   ·refine oEA (List.mem_map.mp hu) λu' hu' z3=>?_;subst z3
    exact fresh u' hu'
end
end
section
section
variable {p:Params} {P:PG} {L:LY} {ls lc lp c:Nat} {cs:TL} {t:Str} {pl0:Pl}
structure LU (P:PG) (L:LY) (ls lc lp c:Nat) (cs:TL) (t:Str) (pl0:Pl) (ss:TG) (nms:TL) (eo0 el0:TG) (at_:Int) (H H':Hp) (pc lb:Nat) (q:QL) (eo:TG) (here:Int):Prop where
 src:∃at',Src H' ls lc cs at'∧at'≤at_+10
 ext:Ext [ls,P.se,P.nm,lp,L.off,L.ln] H H'
 lpc:H.length≤pc
 llb:pc<lb
 se:∃ep,H'[P.se]?=some (.dict (cP (.s t) (bL (.str t) (.loc pc) (.loc lb)) ss) ep)
 nm:H'[P.nm]?=some (.list (nms++[.str t]))
 lbs:∃ep,H'[lb]?=some (.dict (aG lY (q.map λu=>(u.1,u.2.1))) ep)
 pls:∃ep,H'[lp]?=some (.dict (aG VPl (pl0++qPl t q)) ep)
 ofs:∃ep,H'[L.off]?=some (.dict eo ep)
 eoS:eo.all (λe=>!e.1.isS)=true
 eoz:eo.length≤eo0.length+3
 ln:∃ep,H'[L.ln]?=some (.dict (cP (.s t) (.int here) el0) ep)
 q1:∀u∈q,aP (.p t u.2.1) eo=some (.int u.2.2)∨aP (.p t u.2.1) eo=none∧u.2.2=here
 q2:∀u∈q,(∃k,k<3∧u.1=eK c k)∨u.1=gY c
 q3:(q.map (·.1)).Nodup
 q4:q.length≤4
 old:∀t' k,t'≠t→aP (.p t' k) eo=aP (.p t' k) eo0
noncomputable abbrev ON (P:PG) (L:LY) (ls lp:Nat):Lc:=[(bY,.loc lp),(cZ,iM L),(aT,bG P),(cK,.loc ls)]
theorem xE(c:Nat):(⟨#[c]⟩:Str)++S_e=gY c:=by kernel_rfl
set_option maxHeartbeats 4000000 in
theorem pW {d:Nat} {at_:Int} {ss:TG} {nms:TL} {eo0 el0:TG} {H:Hp} {l:Lc} {PP:TP} {X:TX} {j:TK} (C:Ch [lc,ls,P.se,P.nm,P.eq,P.gl,L.off,L.wd,L.ln,lp,H.length])
  (ht:∀H,getItem H (.str t) (.int 1)=some (.str ⟨#[c]⟩)) (hp0:∀u∈pl0,(∀k,k<3→u.1≠eK c k)∧u.1≠gY c) (hpz:pl0.length≤5)
  (E:EnvM l (ON P L ls lp)) (S:Src H ls lc cs at_) (hat:at_<2^38)
  (hse:∃ep,H[P.se]?=some (.dict ss ep)) (ha:cS ss=true) (hf:aP (.s t) ss=none) (hz:ss.length≤10) (hnm:H[P.nm]?=some (.list nms)) (hz2:nms.length≤10)
  (hpl:∃ep,H[lp]?=some (.dict (aG VPl pl0) ep)) (hof:∃ep,H[L.off]?=some (.dict eo0 ep)) (hoS:eo0.all (λe=>!e.1.isS)=true) (hoz:eo0.length≤10) (hon:∀k:Int,aP (.p t k) eo0=none) (hln:∃ep,H[L.ln]?=some (.dict el0 ep)) (hla:cS el0=true) (hlz:el0.length≤10)
  (hj:∀l' H' pc lb q eo here,EnvM l' (ON P L ls lp)→LU P L ls lc lp c cs t pl0 ss nms eo0 el0 at_ H H' pc lb q eo here→Rs PP X (j .next l' H')):
  Rs PP X (vY p (aB (KK p) (d+2)) (.str t) l H j):=by
 refine aA (by walk_at "lk") ?_
 refine oE hse λf1 hse=>?_
 refine oE hpl λf2 hpl=>?_
 refine oE hof λf3 hof=>?_
 refine oE hln λf4 hln=>?_
 refine bJ (λv H'=>v=bL (.str t) (.loc H.length) (.loc (H.length+1))∧H'.length=H.length+2∧Ext [P.se,P.nm] H H'∧H'[H.length]?=some (.list [])∧H'[H.length+1]?=some (.dict [] 0)∧(∃ep',H'[P.se]?=some (.dict (cP (.s t) (bL (.str t) (.loc H.length) (.loc (H.length+1))) ss) ep'))∧H'[P.nm]?=some (.list (nms++[.str t]))) ?_ λk hk=>?_
 ·intro v H1;refine AD λz1 n₁ x1 g1 g2 z3 g4=>?_;subst z1;refine oE z3 λg3 g3'=>?_;clear z3
  have S1:=S.ext x1 (C.out 1 [2,3] rfl) (C.out 0 [2,3] rfl)
  refine aA (by walk_at "lk") ?_
  refine aZ (b8 S1 (TB hat) (by decide)) ?_ λc H' q=>q.elim
  intro v H2;refine dD λi z1 hi0 hi1 n₂ x2 S2=>?_;subst z1
  with_reducible refine bA jN ?_
  have hi:1+i<2^31:=(oz27 hi1)
  with_reducible refine kW (oz26 hi0) hi ?_
  have hit:=nU (H:=H2) (n:=(1+i).toNat) (oz25 hi1)
  generalize hpc:H.length=pc at *
  have C:Ch [lc,ls,P.se,P.nm,P.eq,P.gl,L.off,L.wd,L.ln,lp,pc,pc+1]:=C.snoc (Nat.lt_succ_self _)
  have X02:Ext [ls,P.se,P.nm] H H2:=(x1.cov (Cov.p [1,2] rfl)).then x2 (Cov.p [0] rfl)
  have big:∀{z o},H[z]?=some o→z∉[ls,P.se,P.nm]→H2[z]?=some o:=λh hn=>X02.2 _ _ h hn
  have i0:InS L lp pc (pc+1) c t pl0 eo0 0 [] eo0 H2:={lbs:=⟨0,x2.2 _ _ g2 (C.out 11 [1] rfl)⟩,pls:=⟨f2,by rw [show pl0++qPl t []=pl0 from List.append_nil _];exact big hpl (C.out 9 [1,2,3] rfl)⟩,ofs:=⟨f3,big hof (C.out 6 [1,2,3] rfl)⟩,eoS:=hoS,eoz:=oz24,pcs:=(iEA ([]) (x2.2 _ _ g1 (C.out 10 [1] rfl)) rfl),q1:=λu hu=>(by cases hu),q2:=λu hu=>(by cases hu),q3:=List.nodup_nil,fr:=λk U=>hon k,old:=λU U U=>rfl}
  with_reducible refine lO (λr l H'=>∃(a:Nat) (here at':Int) (q:QL) (eo:TG),EnvM l (BK P L ls lp pc (pc+1) t here)∧r=((List.range (1+i).toNat).drop a).map (λ(i:Nat)=>V.int i)∧a≤(1+i).toNat∧Src H' ls lc cs at'∧at'≤at_+1+2*a∧Ext [ls,pc+1,lp,pc,L.off] H2 H'∧InS L lp pc (pc+1) c t pl0 eo0 a q eo H') hit ?_ ?_ ?_
  ·refine (eQ 0 0 (at_+1) ([]) (lU eo0 (EnvM.cons (by walk_at "lk") (EnvM.cons (by walk_at "lk") (EnvM.cons (by walk_at "lk") ?_))) rfl (oz23) S2 (iAA oz22 (Ext.refl _ _) i0)))
   exact ((E.put (by kernel_rfl)).put (by kernel_rfl)).put (by kernel_rfl)
  ·intro l' H3;refine qE λa z1=>?_;refine bF z1 λhere at' q eo E' hr hle S3 z2=>?_;clear z1;refine oAA z2 λhat' x3 I=>?_;clear z2
   have ham:a=(1+i).toNat:=by
    have:=congrArg List.length hr
    simp at this
    exact oz21 this hle
   have h3:a≤3:=(oz20 hi1 ham)
   refine oE I.lbs λe1 hlbs=>?_
   refine oE I.pls λe2 hpls=>?_
   refine oE I.ofs λe3 hofs=>?_
   refine oEA I.pcs λps hps hpsl=>?_
   have qlen:q.length≤a:=by
    have h:=iV (l:=q.map (·.1)) (m:=(List.range a).map (eK c)) I.q3 λx hx=>by
     refine oEA (List.mem_map.mp hx) λu hu z1=>?_;subst z1
     refine oEA (I.q2 u hu) λk hk e=>?_
     exact List.mem_map.mpr (iEA k (List.mem_range.mpr hk) e.symm)
    simpa using h
   have big3:∀{z o},H2[z]?=some o→z∉[ls,pc+1,lp,pc,L.off]→H3[z]?=some o:=λh hn=>x3.2 _ _ h hn
   have X03:Ext [ls,P.se,P.nm,lp,L.off] H H3:=(X02.cov (Cov.p [0,1,2] rfl)).then x3 (Cov.i 0 rfl (Cov.f (oz17 hpc) (Cov.i 3 rfl (Cov.f (TC hpc) (Cov.i 4 rfl (Cov.z))))))
   have sm:∀{z:Nat} {o},H[z]?=some o→z∉[ls,P.se,P.nm,lp,L.off]→H3[z]?=some o:=λh hn=>X03.2 _ _ h hn
   refine eF (λl'' H'=>l''=l'∧(∃at',Src H' ls lc cs at'∧at'≤at_+9)∧Ext [ls,pc+1,lp] H3 H'∧∃q':QL,(∃ep,H'[pc+1]?=some (.dict (aG lY (q'.map λu=>(u.1,u.2.1))) ep))∧(∃ep,H'[lp]?=some (.dict (aG VPl (pl0++qPl t q')) ep))∧(q'=q∨q'=q++[(gY c,(a,here))])) ?_ λk₂ hk2=>?_
   ·intro _ H4;refine j4 λz1 z2 x4 z3=>?_;subst z1;refine oEA z2 λat4 S4 hat4=>?_;clear z2;refine eV z3 λq' z4 z5 hq'=>?_;clear z3;refine oE z4 λea hl4=>?_;clear z4;refine oE z5 λeb hp4=>?_;clear z5
    refine aA (by walk_at "lk") (aA (by walk_at "lk") (bD nH (aA (by walk_at "lk") ?_)))
    have hln4:=x4.2 _ _ (sm hln (C.out 8 [1,2,3,9,6] rfl)) (C.out 8 [1,11,9] rfl)
    refine gD (key:= .s t) rfl hln4 (oz18 hlz) (aI hla _) λH5 ep5 n5 x5 e5=>?_
    have X:Ext [ls,P.se,P.nm,lp,L.off,L.ln] H H5:=((X03.cov (Cov.p [0,1,2,3,4] rfl)).then x4 (Cov.i 0 rfl (Cov.f (oz17 hpc) (Cov.i 3 rfl (Cov.z))))).then x5 (Cov.p [5] rfl)
    refine hj _ _ pc (pc+1) q' eo here (λz hz=>E' z (List.mem_append_right [(jP,V.int here),(mC,bL (.str t) (.loc pc) (.loc (pc+1))),(eN,.str t)] hz)) ?_
    exact {
        src:=(iEA at4 (S4.ext x5 (C.out 1 [8] rfl) (C.out 0 [8] rfl)) (oz16 hat4)),ext:=X,lpc:=Nat.le_of_eq hpc,llb:=Nat.lt_succ_self _,se:=⟨g3,x5.2 _ _ (x4.2 _ _ (big3 (x2.2 _ _ g3' (C.out 2 [1] rfl)) (C.out 2 [1,11,9,10,6] rfl)) (C.out 2 [1,11,9] rfl)) (C.out 2 [8] rfl)⟩,nm:=x5.2 _ _ (x4.2 _ _ (big3 (x2.2 _ _ g4 (C.out 3 [1] rfl)) (C.out 3 [1,11,9,10,6] rfl)) (C.out 3 [1,11,9] rfl)) (C.out 3 [8] rfl),
        lbs:=⟨ea,x5.2 _ _ hl4 (C.out 11 [8] rfl)⟩,pls:=⟨eb,x5.2 _ _ hp4 (C.out 9 [8] rfl)⟩,ofs:=⟨e3,x5.2 _ _ (x4.2 _ _ hofs (C.out 6 [1,11,9] rfl)) (C.out 6 [8] rfl)⟩,eoS:=I.eoS,eoz:=by have:=I.eoz;exact oz15 this h3,ln:=⟨ep5,e5⟩,
        q1:=by
         have old:∀u∈q,aP (.p t u.2.1) eo=some (.int u.2.2)∨aP (.p t u.2.1) eo=none∧u.2.2=here:=λu hu=> .inl (I.q1 u hu).2
         rcases hq' with rfl|rfl
         ·exact old
         ·intro u hu
          rcases List.mem_append.mp hu with hu|hu
          ·exact old u hu
          ·rw [List.mem_singleton.mp hu];exact .inr ⟨I.fr a (Nat.le_refl _),rfl⟩
        q2:=by
         have old:∀u∈q,(∃k,k<3∧u.1=eK c k)∨u.1=gY c:=λu hu=>by
          refine oEA (I.q2 u hu) λk h1 h2=>?_
          exact .inl (iEA k (TD h1 h3) h2)
         rcases hq' with rfl|rfl
         ·exact old
         ·intro u hu
          rcases List.mem_append.mp hu with hu|hu
          ·exact old u hu
          ·rw [List.mem_singleton.mp hu];exact .inr rfl
        q3:=by
         rcases hq' with rfl|rfl
         ·exact I.q3
         ·rw [List.map_append,List.nodup_append]
          refine (iAA I.q3 ndo (λx hx y hy e=>?_))
          refine oEA (List.mem_map.mp hx) λu hu z1=>?_;subst z1
          refine oEA (I.q2 u hu) λk h1 h2=>?_
          simp at hy
          rw [hy,h2] at e
          exact NZ (TD h1 h3) e
        q4:=by
         rcases hq' with rfl|rfl
         ·exact oz14 h3 qlen
         ·rw [List.length_append,List.length_singleton];exact oz13 h3 qlen
        old:=I.old}
   ·refine aA (by walk_at "lk") ?_
    refine aZ (b8 S3 (oz12 hat hat' h3) (by decide)) ?_ λc H' q=>q.elim
    intro v H4;refine dD λi' z1 hi0' hi1' n4 x4 S4=>?_;subst z1
    have hl4:=x4.2 _ _ hlbs (C.out 11 [1] rfl)
    have hp4:=x4.2 _ _ hpls (C.out 9 [1] rfl)
    have hps4:=x4.2 _ _ hps (C.out 10 [1] rfl)
    refine aA F4 ?_
    refine fC (λqi=>?_) λqi=>hk2 _ _ (cJ rfl (iEA _ S4 (oz9 hat' h3)) (x4.cov (Cov.p [0] rfl)) (cM q ⟨e1,hl4⟩ ⟨e2,hp4⟩ (.inl rfl)))
    refine aA (by walk_at "lk") ?_
    have fresh:∀u∈q,u.1≠gY c:=λu hu e=>by
     refine oEA (I.q2 u hu) λk h1 h2=>?_
     rw [h2] at e
     exact NZ (TD h1 h3) e
    refine bJ (λU H'=>Ext [pc+1] H4 H'∧∃ep,H'[pc+1]?=some (.dict (aG lY ((q++[(gY c,(a,here))]).map λu=>(u.1,u.2.1))) ep)) ?_ λk₃ hk3=>?_
    ·intro _ H5;refine qAE λx5 ep5 e5=>?_
     refine aA (by walk_at "lk") (aA (by walk_at "lk") (aA (by walk_at "lk") (aA (by walk_at "lk") (aA (ht _) (bA (GO (by show 1+1≤1000;decide)) ?_)))))
     rw [xE]
     have hp5:=x5.2 _ _ hp4 (C.out 9 [11] rfl)
     refine gD (key:= .s (gY c)) rfl hp5 (by rw [dO];unfold qPl;refine la2 ?_;exact oz10 h3 hpz qlen) (aI (aY _ _) _) λH6 ep6 n6 x6 e6=>?_
     have hput:cP (.s (gY c)) (V.tup [.str t,.int here]) (aG VPl (pl0++qPl t q))=aG VPl (pl0++qPl t (q++[(gY c,(a,here))])):=by
      have:=dB VPl (pl0++qPl t q) (x:=gY c) (d7 λu hu=>?_) (t,here)
      ·rw [show V.tup [.str t,.int here]=VPl (t,here) from rfl,this]
       unfold qPl;simp
      ·rcases List.mem_append.mp hu with hu|hu
       ·exact (hp0 u hu).2
       ·unfold qPl at hu
        refine oEA (List.mem_map.mp hu) λu' hu' z1=>?_;subst z1
        exact fresh u' hu'
     rw [hput] at e6
     exact hk2 _ _ (cJ rfl (iEA _ ((S4.ext x5 (C.out 1 [11] rfl) (C.out 0 [11] rfl)).ext x6 (C.out 1 [9] rfl) (C.out 0 [9] rfl)) (oz9 hat' h3)) (((x4.cov (Cov.p [0] rfl)).then x5 (Cov.p [1] rfl)).then x6 (Cov.p [2] rfl)) (cM (q++[(gY c,(a,here))]) ⟨ep5,x6.2 _ _ e5 (C.out 11 [9] rfl)⟩ ⟨ep6,e6⟩ (.inr rfl)))
    ·refine bD jY ?_
     refine aA (by walk_at "lk") (aA (ht _) (bA (GO (by show 1+1≤1000;decide)) ?_))
     rw [xE]
     refine aZ (tE hps4 (oz8 hpsl h3) hl4 (aY _ _) (by rw [dO];refine lm1 ?_;exact oz7 h3 qlen)) ?_ λc H' q=>q.elim
     intro v H5;refine qAAE λn5 x5 ep5 e5=>?_
     refine hk3 _ _ ⟨x5,ep5,?_⟩
     rw [e5,hpsl]
     have:=dB lY (q.map λu=>(u.1,u.2.1)) (x:=gY c) (d7 λu hu=>?_) a
     ·rw [show V.tup [.int (a:Int),.int 0]=lY a from rfl,this];simp
     ·refine oEA (List.mem_map.mp hu) λu' hu' z1=>?_;subst z1
      exact fresh u' hu'
  ·intro v r l' H3 j';refine qE λa z1=>?_;refine bF z1 λhere at' q eo E' hr hle S3 z2=>?_;clear z1;refine oAA z2 λhat' x3 I=>?_;clear z2;intro hj' _ _
   have ham:a<(1+i).toNat:=by
    have:=congrArg List.length hr
    simp at this
    exact oz6 this
   rw [lN ham,List.map_cons] at hr
   cases hr
   refine B5 (lc:=lc) (cs:=cs) C (oz5 hi1 ham) ht (λu hu=>(hp0 u hu).1) (oz4 hpz) hoz E' S3 (oz3 hat hi1 hat' ham) I λl4 H4 here4 at4 q₄ eo4 E4 S4 hat4 x4 I4=>?_
   exact hj' _ _ (eQ (a+1) here4 at4 q₄ (lU eo4 E4 rfl (oz2 ham) S4 (iAA (oz1 hat' hat4) (x3.trans x4) I4)))
 ·refine bD mF ?_
  exact aZ (tY hse ha hf (oz0 hz) hnm (oz0 hz2) (C.ne 2 3 rfl)) (λv H' q=>hk _ _ q) λc H' q=>q.elim
end
end
section
theorem dF{α:Type}:∀{l:Tab α} {x:Str} {v:α},(l.map (·.1)).Nodup→(x,v)∈l→l.lookup x=some v
 |[],x,v,_,h=>by cases h
 |(y,u)::r,x,v,hn,h=>by
  rw [List.map_cons,List.nodup_cons] at hn
  rw [List.lookup_cons]
  rcases List.mem_cons.mp h with e|h
  ·cases e;rw [beq_self_eq_true]
  ·have:x≠y:=λq=>hn.1 (by rw [←q];exact List.mem_map.mpr (iEA (x,v) h rfl))
   rw [beq_false_of_ne this]
   exact dF hn.2 h
theorem cV{α:Type}:∀{l:Tab α} {x:Str} {v:α},l.lookup x=some v→(x,v)∈l
 |[],x,v,h=>by cases h
 |(y,u)::r,x,v,h=>by
  rw [List.lookup_cons] at h
  cases e:x==y with
  |true=>rw [e] at h;cases h;rw [beq_iff_eq.mp e];exact List.mem_cons_self ..
  |false=>rw [e] at h;exact List.mem_cons_of_mem _ (cV h)
theorem xC {pl:Pl} {eo el:TG} {t:Str} {q:QL} {here:Int} (hn:(pl.map (·.1)).Nodup) (hq:(q.map (·.1)).Nodup) (hsub:∀u∈qPl t q,u∈pl) (hback:∀x o,(x,(t,o))∈pl→x∈q.map (·.1))
  (q1:∀u∈q,aP (.p t u.2.1) eo=some (.int u.2.2)∨aP (.p t u.2.1) eo=none∧u.2.2=here) (hl:aP (.s t) el=some (.int here)):BD pl eo el t (aG lY (q.map λu=>(u.1,u.2.1))):=by
 intro x
 rw [bZ]
 cases hc:(q.map λu=>(u.1,u.2.1)).lookup x with
 |none=>
  refine .inl ⟨rfl,λo ho=>?_⟩
  refine oEA (List.mem_map.mp (hback x o (cV ho))) λu hu e=>?_
  have:=List.lookup_eq_none_iff.mp hc (u.1,u.2.1) (List.mem_map.mpr (iEA u hu rfl))
  rw [←e] at this
  simp at this
 |some k=>
  refine oEA (List.mem_map.mp (cV hc)) λu hu e=>?_
  cases e
  refine .inr (eW u.2.1 u.2.2 rfl (dF hn (hsub _ (List.mem_map.mpr (iEA u hu rfl)))) ?_)
  rcases q1 u hu with h|⟨h1,h2⟩
  ·exact .inl h
  ·exact .inr ⟨h1,by rw [h2];exact hl⟩
theorem CT{c k:Nat}(hc:c=116∨c=100)(hk:k<3):nF (eK c k) true:=by
 match k,hk with
 |0,_=>
  rcases hc with rfl|rfl
  ·exact (cM ⟨#[116]⟩ (λH=>by kernel_rfl) (λH=>by kernel_rfl) (λH=>(iEA ⟨#[116]⟩ (by kernel_rfl) (by kernel_rfl))))
  ·exact (cM ⟨#[100]⟩ (λH=>by kernel_rfl) (λH=>by kernel_rfl) (λH=>(iEA ⟨#[100]⟩ (by kernel_rfl) (by kernel_rfl))))
 |1,_=>
  rcases hc with rfl|rfl
  ·exact (cM ⟨#[116]⟩ (λH=>by kernel_rfl) (λH=>by kernel_rfl) (λH=>(iEA ⟨#[116]⟩ (by kernel_rfl) (by kernel_rfl))))
  ·exact (cM ⟨#[100]⟩ (λH=>by kernel_rfl) (λH=>by kernel_rfl) (λH=>(iEA ⟨#[100]⟩ (by kernel_rfl) (by kernel_rfl))))
 |2,_=>
  rcases hc with rfl|rfl
  ·exact (cM ⟨#[116]⟩ (λH=>by kernel_rfl) (λH=>by kernel_rfl) (λH=>(iEA ⟨#[116]⟩ (by kernel_rfl) (by kernel_rfl))))
  ·exact (cM ⟨#[100]⟩ (λH=>by kernel_rfl) (λH=>by kernel_rfl) (λH=>(iEA ⟨#[100]⟩ (by kernel_rfl) (by kernel_rfl))))
theorem zB{c:Nat}(hc:c=116∨c=100):nF (gY c) true:=by
 rcases hc with rfl|rfl
 ·exact (cM ⟨#[116]⟩ (λH=>by kernel_rfl) (λH=>by kernel_rfl) (λH=>(iEA ⟨#[116]⟩ (by kernel_rfl) (by kernel_rfl))))
 ·exact (cM ⟨#[100]⟩ (λH=>by kernel_rfl) (λH=>by kernel_rfl) (λH=>(iEA ⟨#[100]⟩ (by kernel_rfl) (by kernel_rfl))))
section variable {c e:Nat}
variable {p:Params} {P:PG} {L:LY} {ls lc lp:Nat} {cs:TL}
theorem T9{k j:Nat}(h:eK c k=eK e j):c=e:=by
 unfold eK at h
 have:=congrArg Str.cps h
 simp at this
 exact this.1
theorem AL{k:Nat}(h:eK c k=gY e):c=e:=by
 unfold eK gY at h
 have:=congrArg Str.cps h
 simp at this
 exact this.1
theorem UA(h:gY c=gY e):c=e:=by
 unfold gY at h
 have:=congrArg Str.cps h
 simp at this
 exact this
noncomputable def LabName(c:Nat)(x:Str):Prop:=(∃k,k<3∧x=eK c k)∨x=gY c
theorem LabName.ne{x y:Str}(h:c≠e)(hx:LabName c x)(hy:LabName e y):x≠y:=by
 rintro rfl
 rcases hx with ⟨k,_,hx⟩|hx<;>rcases hy with ⟨j,_,hy⟩|hy
 ·exact h (T9 (hx.symm.trans hy))
 ·exact h (AL (hx.symm.trans hy))
 ·exact h (AL (hy.symm.trans hx)).symm
 ·exact h (UA (hx.symm.trans hy))
theorem xI(hc:c=116∨c=100){x:Str}(h:LabName c x):nF x true:=by
 rcases h with ⟨k,hk,rfl⟩|rfl
 ·exact CT hc hk
 ·exact zB hc
structure PlOk (pl:Pl) (qa qb:QL):Prop where
 e:pl=qPl aE qa++qPl aJ qb
 a2:∀u∈qa,LabName 116 u.1
 b2:∀u∈qb,LabName 100 u.1
 a3:(qa.map (·.1)).Nodup
 b3:(qb.map (·.1)).Nodup
 a4:qa.length≤4
 b4:qb.length≤4
theorem gE(t:Str)(q:QL):(qPl t q).map (·.1)=q.map (·.1):=by unfold qPl;rw [List.map_map];rfl
theorem PlOk.nd{pl:Pl}{qa qb:QL}(h:PlOk pl qa qb):(pl.map (·.1)).Nodup:=by
 rw [h.e,List.map_append,gE,gE,List.nodup_append]
 refine (iAA h.a3 h.b3 (λx hx y hy=>?_))
 refine oEA (List.mem_map.mp hx) λu hu z1=>?_;subst z1
 refine oEA (List.mem_map.mp hy) λv hv z1=>?_;subst z1
 exact LabName.ne (by decide) (h.a2 u hu) (h.b2 v hv)
theorem txt_ne:aE≠aJ:=by
 intro h
 have:(aE==aJ)=true:=by rw [h,beq_self_eq_true]
 rw [show (aE==aJ)=false by kernel_rfl] at this
 cases this
set_option maxHeartbeats 2000000 in
theorem B6 {d:Nat} {at_:Int} {H:Hp} (C:Ch [lc,ls,P.se,P.nm,P.eq,P.gl,L.off,L.wd,L.ln,lp]) (hlp:lp=H.length) (S:Src H ls lc cs at_) (hat:at_<2^30)
  (hse:H[P.se]?=some (.dict [] 0)) (hnm:H[P.nm]?=some (.list [])) (hof:H[L.off]?=some (.dict [] 0)) (hln:H[L.ln]?=some (.dict [] 0)) (F:FN) (hF:F.P=P∧F.L=L):
  Rs (λv H'=>∃(pl:Pl) (qa qb:QL) (G:GD) (at':Int),v= .loc H.length∧PlOk pl qa qb∧Src H' ls lc cs at'∧at'≤at_+20∧Ext [ls,P.se,P.nm,L.off,L.ln] H H'∧(∃ep,H'[H.length]?=some (.dict (aG VPl pl) ep))∧Geo F G pl H'∧H.length<G.pt∧G.pt<G.lt∧G.lt<G.pd∧G.pd<G.ld∧G.est.map (·.1)=(qPl aE qa).map (λq=>Key.s q.1)∧G.esd.map (·.1)=(qPl aJ qb).map λq=>Key.s q.1)
   (λU U=>False) (aB (KK p) (d+3) 526 [.loc ls,bG P,iM L] H):=by
 refine bD E_526 ?_
 refine dI λH1 n₁ x1 e1=>?_
 subst hlp
 generalize hlp':H.length=lp at *
 have S1:=S.ext x1 List.not_mem_nil List.not_mem_nil
 refine N0 λP' X' hP hX=>?_
 refine lO (vs:=[.str aE,.str aJ]) (λr l H'=>EnvM l (ON P L ls lp)∧(r=[.str aE,.str aJ]∧H'=H1∨
   (∃pt lt qa eo ha,r=[.str aJ]∧LU P L ls lc lp 116 cs aE [] [] [] [] [] at_ H1 H' pt lt qa eo ha)∨
   (∃pt lt qa eo ha pd ld qb eo2 hb H2,r=[]∧LU P L ls lc lp 116 cs aE [] [] [] [] [] at_ H1 H2 pt lt qa eo ha∧lt<H2.length∧LU P L ls lc lp 100 cs aJ (qPl aE qa) [(.s aE,bL (.str aE) (.loc pt) (.loc lt))] [.str aE] eo [(.s aE,.int ha)] (at_+10) H2 H' pd ld qb eo2 hb))) rfl ?_ ?_ ?_
 ·exact ⟨EnvM.cons (by walk_at "lk") (EnvM.cons (by walk_at "lk") (EnvM.cons (by walk_at "lk") (EnvM.cons (by walk_at "lk") EnvM.nil))),.inl ⟨rfl,rfl⟩⟩
 ·intro l H';refine qA λE h=>AH (h.elim (λq=>nomatch q.1) λh=>h.elim (λ⟨_,_,_,_,_,h,_⟩=>nomatch h) id) λpt lt qa eo z1=>AH z1 λha pd ld qb z2=>kZ z2 λeo2 hb H2 U A hlt B=>?_
  clear h z1 z2
  refine aA (by walk_at "lk") ?_
  refine oA hF λf1 f2=>?_;clear hF
  refine oEA B.src λat' S' hat'=>?_
  have hpo:PlOk (qPl aE qa++qPl aJ qb) qa qb:=⟨rfl,A.q2,B.q2,A.q3,B.q3,A.q4,B.q4⟩
  refine oE B.pls λep1 hpl=>?_
  refine oE B.se λep2 hsec=>?_
  refine oE B.ofs λep3 hofs=>?_
  refine oE B.ln λep4 hlns=>?_
  refine oE B.lbs λep5 hlb=>?_
  refine oE A.lbs λep6 hla=>?_
  have C:Ch [lc,ls,P.se,P.nm,P.eq,P.gl,L.off,L.wd,L.ln,lp,pt,lt]:=(C.snoc (Nat.lt_of_lt_of_le (by rw [n₁];exact Nat.lt_succ_self _) A.lpc)).snoc A.llb
  have C:Ch [lc,ls,P.se,P.nm,P.eq,P.gl,L.off,L.wd,L.ln,lp,pt,lt,pd,ld]:=(C.snoc (Nat.lt_of_lt_of_le hlt B.lpc)).snoc B.llb
  have hla':=B.ext.2 _ _ hla (C.out 11 [1,2,3,9,6,8] rfl)
  have X:Ext [ls,P.se,P.nm,L.off,L.ln] H H':=((x1.cov (Cov.p [] rfl)).then A.ext (Cov.i 0 rfl (Cov.i 1 rfl (Cov.i 2 rfl (Cov.f (TC hlp') (Cov.i 3 rfl (Cov.i 4 rfl (Cov.z)))))))).then B.ext (Cov.i 0 rfl (Cov.i 1 rfl (Cov.i 2 rfl (Cov.f (TC hlp') (Cov.i 3 rfl (Cov.i 4 rfl (Cov.z)))))))
  refine hP _ _ (eQ (qPl aE qa++qPl aJ qb) qa qb ⟨lt,ld,pt,pd,aG lY (qa.map λu=>(u.1,u.2.1)),aG lY (qb.map λu=>(u.1,u.2.1)),eo2,cP (.s aJ) (.int hb) [(.s aE,.int ha)]⟩ (lU at' rfl hpo S' (oz159 hat') (dZ X ⟨ep1,hpl⟩ ?_ ?_ (dZ ?_ ?_ ?_ ?_ ?_))))
  ·have old:∀k:Int,aP (.p aE k) eo2=aP (.p aE k) eo:=λk=>B.old _ _ txt_ne
   exact {
       nm:=by rw [f1];exact B.nm,se:=⟨ep2,by rw [f1,hsec];rfl⟩,lt:=⟨ep6,hla'⟩,ld:=⟨ep5,hlb⟩,off:=⟨ep3,by rw [f2];exact hofs⟩,ln:=⟨ep4,by rw [f2];exact hlns⟩,at_:=aY _ _,ad:=aY _ _,ao:=B.eoS,al:=nA rfl _ _,
       okt:=xC (here:=ha) hpo.nd A.q3 (λu hu=>List.mem_append_left _ hu) (λx o hx=>by
        rcases List.mem_append.mp hx with hx|hx
        ·rw [←gE aE qa];exact List.mem_map.mpr (iEA _ hx rfl)
        ·unfold qPl at hx
         refine oEA (List.mem_map.mp hx) λu hu e=>?_
         cases e) (λu hu=>by rw [old];exact A.q1 u hu) (by rw [iB _ _ λz=>txt_ne (Key.s.inj z)];show (if _ then _ else _)=_;rw [if_pos rfl]),
       okd:=xC (here:=hb) hpo.nd B.q3 (λu hu=>List.mem_append_right _ hu) (λx o hx=>by
        rcases List.mem_append.mp hx with hx|hx
        ·unfold qPl at hx
         refine oEA (List.mem_map.mp hx) λu hu e=>?_
         cases e
        ·rw [←gE aJ qb];exact List.mem_map.mpr (iEA _ hx rfl)) B.q1 (d8 _ _ _),
       dom:=λx t o h=>by
        rcases List.mem_append.mp (cV h) with hx|hx
        ·unfold qPl at hx
         refine oEA (List.mem_map.mp hx) λu hu e=>?_
         cases e;exact .inl rfl
        ·unfold qPl at hx
         refine oEA (List.mem_map.mp hx) λu hu e=>?_
         cases e;exact .inr rfl}
  ·exact (C.lt 9 10 rfl:lp<pt)
  ·exact (C.lt 10 11 rfl:pt<lt)
  ·exact (C.lt 11 12 rfl:lt<pd)
  ·exact (C.lt 12 13 rfl:pd<ld)
  ·show (aG lY _).map _=_
   unfold aG qPl;rw [List.map_map,List.map_map,List.map_map];rfl
  ·show (aG lY _).map _=_
   unfold aG qPl;rw [List.map_map,List.map_map,List.map_map];rfl
 ·intro v r l H' j;refine qA λE q hj U U=>?_
  rcases q with q|q|q
  ·refine oA q λh e=>?_;clear q;subst e;cases h
   refine pW (lc:=lc) (cs:=cs) (c:=116) (pl0:=[]) (ss:=[]) (nms:=[]) (eo0:=[]) (el0:=[]) (C.snoc (by rw [n₁];exact Nat.lt_succ_self _)) (λH=>by kernel_rfl) (λu hu=>by cases hu) (Nat.zero_le _) E S1 (oz158 hat) ⟨0,x1.2 _ _ hse List.not_mem_nil⟩ rfl rfl (Nat.zero_le _) (x1.2 _ _ hnm List.not_mem_nil) (Nat.zero_le _) ⟨0,e1⟩ ⟨0,x1.2 _ _ hof List.not_mem_nil⟩ rfl (Nat.zero_le _) (λk=>rfl) ⟨0,x1.2 _ _ hln List.not_mem_nil⟩ rfl (Nat.zero_le _) λl' H'' pc lb q eo here E' A=>hj _ _ ⟨E',.inr (.inl (eQ pc lb q eo (iEA here rfl A)))⟩
  ·refine AH q λpt lt qa eo z1=>oEA z1 λha h A=>?_
   clear q z1;cases h
   refine oEA A.src λat2 S2 hat2=>?_
   refine oE A.lbs λep6 hla=>?_
   have hltH:=bS hla
   have hk:∀u∈qPl aE qa,(∀k,k<3→u.1≠eK 100 k)∧u.1≠gY 100:=λu hu=>by
    unfold qPl at hu
    refine oEA (List.mem_map.mp hu) λu' hu' z1=>?_;subst z1
    have:=A.q2 u' hu'
    exact ⟨λk hk=>LabName.ne (c:=116) (e:=100) (by decide) this (.inl (iEA k hk rfl)),LabName.ne (c:=116) (e:=100) (by decide) this (.inr rfl)⟩
   have hqz:(qPl aE qa).length≤5:=by have:=A.q4;unfold qPl;refine lm1 ?_;exact oz157 this
   have C:Ch [lc,ls,P.se,P.nm,P.eq,P.gl,L.off,L.wd,L.ln,lp,H'.length]:=C.snoc (Nat.lt_trans (Nat.lt_of_lt_of_le (by rw [n₁];exact Nat.lt_succ_self _) A.lpc) (Nat.lt_trans A.llb hltH))
   have hone:aP (.s aJ) [(Key.s aE,bL (.str aE) (.loc pt) (.loc lt))]=none:=by
    show (if _ then _ else _)=_
    rw [if_neg λz=>txt_ne (Key.s.inj z)];rfl
   have hoz:=A.eoz
   refine pW (lc:=lc) (cs:=cs) (c:=100) (pl0:=qPl aE qa) (ss:=[(.s aE,bL (.str aE) (.loc pt) (.loc lt))]) (nms:=[.str aE]) (eo0:=eo) (el0:=[(.s aE,.int ha)]) (at_:=at2) C (λH=>by kernel_rfl) hk hqz E S2 (oz156 hat hat2) A.se rfl hone (Nat.zero_lt_succ _) A.nm (Nat.zero_lt_succ _) A.pls A.ofs A.eoS ?_ (λk=>by rw [A.old _ _ txt_ne.symm];rfl) A.ln rfl (Nat.zero_lt_succ _) λl' H'' pc lb q eo2 here E' B=>hj _ _ ⟨E',.inr (.inr (eQ pt lt qa eo (eQ ha pc lb q (eY eo2 here H' rfl A hltH ?_))))⟩
   ·have h0:([]:TG).length=0:=rfl
    exact oz155 h0 hoz
   ·refine oEA B.src λb1 b2 b3=>?_
    exact {B with src:=(iEA b1 b2 (oz154 hat2 b3))}
  ·obtain ⟨_,_,_,_,_,_,_,_,_,_,_,h,_⟩:=q;cases h
end
end
section variable {H:Hp} {rows:List Row}
structure LP where
 xs:Nat
 xo:O
 n0:Nat
 lc:Nat
 ls:Nat
 F:FN
 G:GD
 lp:Nat
 lg:Nat
 lr:Nat
 lt:Nat
 B:Nat
 cs:TL
 pl:Pl
 rows:List Row
 T:TT
 base:TT
 grounds:TS
abbrev LP.chL (W:LP):List Nat:=[W.xs,W.n0,W.n0+1,W.n0+2,W.n0+3,W.lc,W.ls,W.F.P.se,W.F.P.nm,W.F.P.eq,W.F.P.gl,W.F.L.off,W.F.L.wd,W.F.L.ln,W.lp,W.G.pt,W.G.lt,W.G.pd,W.G.ld,W.lg,W.lr,W.F.kn,W.F.fl,W.lt,W.B]
structure LW (W:LP) (H:Hp) (at_:Int) (gs:TS):Prop where
 ch:Ch W.chL
 hB:W.B≤H.length
 src:Src H W.ls W.lc W.cs at_
 fs:FS W.F W.G W.pl W.rows W.T H []
 eq:∃ep,H[W.F.P.eq]?=some (.dict (f9 W.rows) ep)
 gl:H[W.F.P.gl]?=some (.list (gs.map .str))
 pls:∃ep,H[W.lp]?=some (.dict (aG VPl W.pl) ep)
 gr:H[W.lg]?=some (.list (W.grounds.map .str))
 rw_:H[W.lr]?=some (.list (W.rows.map dH))
 tab:∃ep,H[W.lt]?=some (.dict (aG VE W.base) ep)
 c0:H[W.n0]?=some (.cell (some (.loc W.ls)))
 c1:H[W.n0+1]?=some (.cell (some (.loc W.lt)))
 scr:H[W.xs]?=some W.xo
section variable {at':Int} {S:List Nat}
variable {W:LP} {H H':Hp} {at_:Int} {gs:TS}
theorem LW.gen(w:LW W H at_ gs)(x:Ext S H H')(hs:Src H' W.ls W.lc W.cs at')(hf:FS W.F W.G W.pl W.rows W.T H' [])(hS:∀l∈[W.F.P.eq,W.F.P.gl,W.lp,W.lg,W.lr,W.lt,W.n0,W.n0+1,W.xs],l∉S):LW W H' at' gs:=by
 refine oE w.eq λe1 h1=>?_
 refine oE w.pls λe2 h2=>?_
 refine oE w.tab λe3 h3=>?_
 exact {ch:=w.ch,hB:=Nat.le_trans w.hB x.1,src:=hs,fs:=hf,eq:=⟨e1,x.2 _ _ h1 (hS _ k0)⟩,gl:=x.2 _ _ w.gl (hS _ k1),pls:=⟨e2,x.2 _ _ h2 (hS _ k2)⟩,gr:=x.2 _ _ w.gr (hS _ k3),rw_:=x.2 _ _ w.rw_ (hS _ k4),tab:=⟨e3,x.2 _ _ h3 (hS _ k5)⟩,c0:=x.2 _ _ w.c0 (hS _ k6),c1:=x.2 _ _ w.c1 (hS _ k7),scr:=x.2 _ _ w.scr (hS _ k8)}
theorem LW.fs_ext(w:LW W H at_ gs)(x:Ext S H H')(ts:List Nat)(hS:Cov W.B (ts.map (ix W.chL)) S)(h:t7 25 24 ts [8,7,16,18,11,13,9,21,22]=true):FS W.F W.G W.pl W.rows W.T H' []:=
 w.fs.other x (w.ch.frees 24 ts hS [8,7,16,18,11,13,9,21,22] h)
theorem LW.ext(w:LW W H at_ gs)(x:Ext S H H')(hS:Cov W.B [W.n0+2,W.n0+3] S):LW W H' at_ gs:=
 w.gen x (w.src.ext x (w.ch.free 24 [3,4] hS 6 rfl) (w.ch.free 24 [3,4] hS 5 rfl)) (w.fs_ext x [3,4] hS rfl) (w.ch.frees 24 [3,4] hS [9,10,14,19,20,23,1,2,0] rfl)
theorem LW.draw(w:LW W H at_ gs)(x:Ext [W.ls] H H')(hs:Src H' W.ls W.lc W.cs at'):LW W H' at' gs:=
 w.gen x hs (w.fs_ext x [6] (Cov.p [0] rfl) rfl) (w.ch.outs [6] [9,10,14,19,20,23,1,2,0] rfl)
theorem LW.fin(w:LW W H at_ gs)(x:Ext [W.F.kn,W.F.fl] H H')(hf:FS W.F W.G W.pl W.rows W.T H' []):LW W H' at_ gs:=
 w.gen x (w.src.ext x (w.ch.out 6 [21,22] rfl) (w.ch.out 5 [21,22] rfl)) hf (w.ch.outs [21,22] [9,10,14,19,20,23,1,2,0] rfl)
theorem LP.own{z:Nat}(C:Ch W.chL)(q:W.B≤z∨z=W.n0+2∨z=W.n0+3)(is:List Nat)(h:(TH 25 24 is&&(sZ 25 3 is&&sZ 25 4 is))=true):z∉is.map (ix W.chL):=by
 simp only [Bool.and_eq_true] at h
 rcases q with q|rfl|rfl
 ·exact C.outHi 24 q is h.1
 ·exact C.out 3 is h.2.1
 ·exact C.out 4 is h.2.2
theorem LW.up_draw{l:Nat}{o:O}(w:LW W H at_ gs)(x:Ext [W.ls] H H')(hl:W.B≤l∨l=W.n0+2∨l=W.n0+3)(h:H[l]?=some o):H'[l]?=some o:=by
 exact x.2 _ _ h (LP.own w.ch hl [6] rfl)
theorem LW.up_fin{l:Nat}{o:O}(w:LW W H at_ gs)(x:Ext [W.F.kn,W.F.fl] H H')(hl:W.B≤l∨l=W.n0+2∨l=W.n0+3)(h:H[l]?=some o):H'[l]?=some o:=by
 exact x.2 _ _ h (LP.own w.ch hl [21,22] rfl)
end
theorem eqVE(o:Option Ent):cmp H .NotEq (VE o) (VE o)=some false:=by
 cases o with
 |none=>
  show some (!(dK==dK))=_
  rw [beq_self_eq_true];rfl
 |some e=>
  show some (!((e.1==e.1)&&((e.2.1==e.2.1)&&((e.2.2==e.2.2)&&true))))=_
  rw [beq_self_eq_true,beq_self_eq_true,beq_self_eq_true];rfl
theorem eqVN(o:Option Ent):cmp H .NotEq (VN o) (VN o)=some false:=by
 cases o with
 |none=>rfl
 |some e=>
  show cmp H .NotEq (if e.1=d5 then V.int e.2.1 else .none) (if e.1=d5 then V.int e.2.1 else .none)=_
  by_cases h:e.1=d5
  ·rw [if_pos h]
   show some (!(e.2.1==e.2.1))=_
   rw [beq_self_eq_true];rfl
  ·rw [if_neg h];rfl
theorem ET(o:Option Ent):cmp H .NotEq (VE o) (.str dK)=some o.isSome:=by
 cases o with
 |none=>
  show some (!(dK==dK))=_
  rw [beq_self_eq_true];rfl
 |some e=>rfl
noncomputable def Told(T:TT)(rows:List Row)(T':TT):Prop:=(∀x,bP T' x=bP T x)∧(∀x,Dm rows T x→has T' x=true)
theorem Told.look{T T':TT}(h:Told T rows T'){x:Str}(hx:Dm rows T x):T'.lookup x=some (bP T x):=by
 have h2:=h.2 x hx
 unfold has at h2
 refine oE (Option.isSome_iff_exists.mp h2) λv hv=>?_
 rw [hv,←h.1 x]
 unfold bP
 rw [hv]
theorem Told.join{T T':TT}(h:Told T rows T')(r:Row):cC r T'=cC r T:=by
 unfold cC;rw [h.1,h.1]
section
variable {p:Params} {W:LP} {H:Hp} {at_:Int} {gs:TS}
theorem BR {d lo:Nat} {T':TT} {x:Str} {H:Hp} {l:Lc} {c:TO} {PP:TP} {X:TX} {j:TK} {ρ:Lc} (w:LW W H at_ gs) (hat:at_<2^39) (h1:(aV,aU W.F)∈ρ) (h2:(cB,.loc lo)∈ρ) (E:EnvM l ρ) (hρ:ρ.all (λq=>!(q.1==aQ))=true∧ρ.all (λq=>!(q.1==aX))=true)
  (hlo:W.B≤lo) (ht:∃ep,H[lo]?=some (.dict (aG VE T') ep)) (hT:Told W.T W.rows T') (hx:Dm W.rows W.T x) (hS:eU p W.F W.G W.pl W.rows W.T d [] x) (hd:H[W.n0+2]?=some (.cell c))
  (hj:∀l' H' at' c',EnvM l' ρ→LW W H' at' gs→at'≤at_+1→Ext [W.ls,W.n0+2,W.F.kn,W.F.fl] H H'→H'[W.n0+2]?=some (.cell c')→Rs PP X (j .next l' H')):
  Rs PP X (vP p (aB (KK p) (d+1)) W.n0 (.str x) l H j):=by
 refine aA (bC w.c0) ?_
 refine aZ (b8 w.src (LA hat) (by decide)) ?_ λc H' q=>q.elim
 intro v H1;refine dD λi z1 hi0 hi1 n₁ x1 S1=>?_;subst z1
 have w₁:=w.draw x1 S1
 refine oE ht λep ht=>?_
 have ht1:=w.up_draw x1 (.inl hlo) ht
 have hd1:=w.up_draw x1 (.inr (.inl rfl)) hd
 refine bA yD ?_
 have E':EnvM ((aX,.int (i - 50))::(aQ,.str x)::l) ρ:=(E.put hρ.1).put hρ.2
 refine aA (E'.at h2) ?_
 refine aA (dT (key:= .s x) ht1 rfl (aI (aY _ _) _) (by rw [bZ,hT.look hx];rfl)) ?_
 refine iH hd1 λH2 n₂ x2 e2=>?_
 have w2:LW W H2 (at_+1) gs:=w₁.ext x2 (Cov.p [0] rfl)
 refine mQ (λH'=>LW W H' (at_+1) gs∧Ext [W.n0+2] H2 H'∧H'[W.n0+2]?=some (.cell (some (VE ((bP W.T x).map λe=>(e.1,e.2.1+(i - 50),e.2.2)))))) ?_ λk hk=>?_
 ·intro H3;refine qAA λw3 x3 e3=>?_
  refine aA (E'.at h1) ?_
  refine aZ (yW hS w3.fs) ?_ λc H' q=>q.elim
  intro v H4;refine j4 λz1 f4 x4 n4=>?_;subst z1
  have e4:=w3.up_fin x4 (.inr (.inl rfl)) e3
  refine aA (bC e4) (aA (eqVE _) (r_f rfl ?_))
  refine hj _ _ (at_+1) _ E' (w3.fin x4 f4) oz160 ?_ e4
  exact (((x1.cov (Cov.p [0] rfl)).trans (x2.cov (Cov.p [1] rfl))).trans (x3.cov (Cov.p [1] rfl))).trans (x4.cov (Cov.p [2,3] rfl))
 ·refine aA (bC e2) (aA (ET _) ?_)
  cases q:bP W.T x with
  |none=>
   rw [q] at e2
   exact r_f rfl (hk _ (iAA w2 (Ext.refl _ _) (by rw [q];exact e2)))
  |some e=>
   rw [q] at e2
   refine r_t rfl (aA (bC e2) (aA (cR (by decide) (by decide) rfl) (aA (bC e2) (aA (cR (by decide) (by decide) rfl) (bA jN (aA (bC e2) (aA (cR (by decide) (by decide) rfl) ?_)))))))
   refine iH e2 λH3 n3 x3 e3=>?_
   exact hk _ (iAA (w2.ext x3 (Cov.p [0] rfl)) x3 (by rw [q];exact e3))
end
end
section
section
variable {p:Params} {W:LP} {at_:Int} {gs:TS}
theorem yV(x y:Str):(if x=y then V.str S_ else .str x)= .str (if x=y then S_ else x):=by split<;>rfl
theorem uG(x y:Str):(if x=y then V.str S_ else .str y)= .str (if x=y then S_ else y):=by split<;>rfl
set_option maxHeartbeats 4000000 in
theorem CQ {d lo lq:Nat} {T':TT} {pool:TS} {H:Hp} {l:Lc} {u:V} {c:TO} {PP:TP} {X:TX} {j:TK} {ρ:Lc} (w:LW W H at_ gs) (hat:at_<2^39) (h1:(aV,aU W.F)∈ρ) (h2:(cB,.loc lo)∈ρ) (h3:(eE,.loc lq)∈ρ) (E:EnvM l ρ)
  (hρ:(ρ.all λq=>!(q.1==cT)&&!(q.1==cN)&&!(q.1==cF)&&!(q.1==aX)&&!(q.1==hU)&&!(q.1==bO))=true)
  (hlo:W.B≤lo) (hlq:W.B≤lq) (ht:∃ep,H[lo]?=some (.dict (aG VE T') ep)) (hq:H[lq]?=some (.list (pool.map .str))) (hp0:0<pool.length) (hpz:pool.length≤100) (hT:Told W.T W.rows T') (hx:∀x∈pool,Dm W.rows W.T x) (hty:W.T.lookup S_=some (some (d5,0,S_)))
  (hS:∀x,Dm W.rows W.T x→eU p W.F W.G W.pl W.rows W.T (d+1) [] x) (hS2:∀x,Dm W.rows W.T x→eU p W.F W.G W.pl W.rows W.T (d+2) [] x) (hd:H[W.n0+2]?=some (.cell c))
  (hj:∀l' H' at' c',EnvM l' ρ→LW W H' at' gs→at'≤at_+4→Ext [W.ls,W.n0+2,W.F.kn,W.F.fl] H H'→H'[W.n0+2]?=some (.cell c')→Rs PP X (j .next l' H')):
  Rs PP X (vO p (aB (KK p) (d+4)) W.n0 u l H j):=by
 have C:=w.ch
 have hall:∀{y:Str},y=cT∨y=cN∨y=cF∨y=aX∨y=hU∨y=bO→ρ.all (λq=>!(q.1==y))=true:=fun {y} hy=>by
  refine List.all_eq_true.mpr λq hq=>?_
  have:=List.all_eq_true.mp hρ q hq
  simp only [Bool.and_eq_true] at this
  refine oA this λz1 c6=>?_;clear this;refine oA z1 λz2 c5=>?_;clear z1;refine oA z2 λz3 c4=>?_;clear z2;refine oA z3 λz4 c3=>?_;clear z3;refine oA z4 λc1 c2=>?_;clear z4
  rcases hy with h|h|h|h|h|h<;>rw [h]<;>assumption
 refine oE ht λep ht=>?_
 have E1:EnvM ((cT,u)::l) ρ:=E.put (hall (.inl rfl))
 refine aA (E1.at h3) (aA (bC w.c0) (aA (E1.at h3) ?_))
 have hlm:(pool.map V.str).length=pool.length:=List.length_map _
 refine bA (kG hq (by rw [hlm];exact EB hpz)) ?_
 rw [hlm]
 refine aZ (b8 w.src (LA hat) (yO hp0)) ?_ λc H' q=>q.elim
 intro v H1;refine dD λi z1 hi0 hi1 n₁ x1 S1=>?_;subst z1
 have w₁:=w.draw x1 S1
 have ht1:=w.up_draw x1 (.inl hlo) ht
 have hq1:=w.up_draw x1 (.inl hlq) hq
 have hd1:=w.up_draw x1 (.inr (.inl rfl)) hd
 refine oEA (kX hq1 hi0 hi1 (qP hpz)) λplus hplus gp=>?_
 refine aA gp ?_
 have E2:EnvM ((cN,.str plus)::(cT,u)::l) ρ:=E1.put (hall (.inr (.inl rfl)))
 refine aA (E2.at h3) (aA (bC w₁.c0) (aA (E2.at h3) ?_))
 refine bA (kG hq1 (by rw [hlm];exact EB hpz)) ?_
 rw [hlm]
 refine aZ (b8 w₁.src (EF hat) (yO hp0)) ?_ λc H' q=>q.elim
 intro v H2;refine dD λi2 z1 hi0' hi1' n₂ x2 S2=>?_;subst z1
 have w2:=w₁.draw x2 S2
 have ht2:=w₁.up_draw x2 (.inl hlo) ht1
 have hq2:=w₁.up_draw x2 (.inl hlq) hq1
 have hd2:=w₁.up_draw x2 (.inr (.inl rfl)) hd1
 refine oEA (kX hq2 hi0' hi1' (qP hpz)) λminus hminus gm=>?_
 refine aA gm (aA (bC w2.c0) ?_)
 refine aZ (b8 w2.src (NP hat) (by decide)) ?_ λc H' q=>q.elim
 intro v H3;refine dD λi3 z1 U U n3 x3 S3=>?_;subst z1
 have w3:=w2.draw x3 S3
 have ht3:=w2.up_draw x3 (.inl hlo) ht2
 have hd3:=w2.up_draw x3 (.inr (.inl rfl)) hd2
 refine bA yD (aA (bC w3.c0) ?_)
 refine aZ (b8 w3.src (oz162 hat) (by decide)) ?_ λc H' q=>q.elim
 intro v H4;refine dD λmore z1 U U n4 x4 S4=>?_;subst z1
 have w4:=w3.draw x4 S4
 have ht4:=w3.up_draw x4 (.inl hlo) ht3
 have hd4:=w3.up_draw x4 (.inr (.inl rfl)) hd3
 have X4:Ext [W.ls,W.n0+2,W.F.kn,W.F.fl] H H4:=(((x1.cov (Cov.p [0] rfl)).trans (x2.cov (Cov.p [0] rfl))).trans (x3.cov (Cov.p [0] rfl))).trans (x4.cov (Cov.p [0] rfl))
 clear x1 x2 x3 x4 w₁ w2 w3 S1 S2 S3 S4 hd1 hd2 hd3 ht1 ht2 ht3 hq1 hq2 gp gm
 refine lA (x:=plus) (y:=minus) (λH=>fP) (λH=>fP) rfl rfl ?_
 rw [yV,uG]
 obtain ⟨r,hr⟩:∃r:Row,r=⟨S_,i3 - 1000,if plus=minus then S_ else plus,if plus=minus then S_ else minus⟩:=⟨_,rfl⟩
 have hDS:Dm W.rows W.T S_:= .inl (by unfold has;rw [hty];rfl)
 have hDp:Dm W.rows W.T r.plus:=by
  rw [hr]
  show Dm W.rows W.T (if plus=minus then S_ else plus)
  split
  ·exact hDS
  ·exact hx _ hplus
 have hDm:Dm W.rows W.T r.minus:=by
  rw [hr]
  show Dm W.rows W.T (if plus=minus then S_ else minus)
  split
  ·exact hDS
  ·exact hx _ hminus
 have hm:r.minus=S_→bP W.T r.minus≠none:=λq=>by rw [q];unfold bP;rw [hty];intro z;cases z
 have eR:(V.tup [.str S_,.int (i3 - 1000),.str (if plus=minus then S_ else plus),.str (if plus=minus then S_ else minus)])=dH r:=by rw [hr];rfl
 have eA:aK (.int (i3 - 1000)) (.str (if plus=minus then S_ else plus)) (.str (if plus=minus then S_ else minus))=mA r:=by rw [hr];rfl
 rw [eR]
 have E3:EnvM ((bO,dH r)::(hU,.int more)::(aX,.int (i3 - 1000))::(cF,.str minus)::(cN,.str plus)::(cT,u)::l) ρ:=(((E2.put (hall (v2 rfl))).put (hall (v3 rfl))).put (hall (v4 rfl))).put (hall (w5 rfl))
 refine aA (E3.at h2) ?_
 refine aZ (oW ht4 (hT.2 _ hDp) (hT.2 _ hDm)) ?_ λc H' q=>q.elim
 intro v H';refine qA λz1 z2=>?_;subst z1 z2
 rw [hT.join]
 refine iH hd4 λH5 n5 x5 e5=>?_
 have w₅:LW W H5 (at_+1+1+1+1) gs:=w4.ext x5 (Cov.p [0] rfl)
 refine aA (E3.at h1) ?_
 refine lA (x:=plus) (y:=minus) (λH=>fP) (λH=>fP) rfl rfl ?_
 rw [yV,uG,eA]
 refine aZ (yX (hS _ hDp) (hS _ hDm) hm w₅.fs) ?_ λc H' q=>q.elim
 intro v H6;refine j4 λz1 f6 x6 n6=>?_;subst z1
 have w₆:=w₅.fin x6 f6
 have e6:=w₅.up_fin x6 (.inr (.inl rfl)) e5
 have X6:=(X4.trans (x5.cov (Cov.p [1] rfl))).trans (x6.cov (Cov.p [2,3] rfl))
 refine bJ (λv H'=>H'=H6∧v=VN (cC r W.T)) ?_ λk hk=>?_
 ·intro v H';refine qA λz1 z2=>?_;subst z1 z2
  refine aA (eqVN _) (r_f rfl ?_)
  refine mQ (λH''=>LW W H'' (at_+1+1+1+1) gs∧Ext [W.n0+2] H' H''∧H''[W.n0+2]?=some (.cell (some (VE ((cC r W.T).map λe=>(e.1,e.2.1+more,e.2.2)))))) ?_ λk₂ hk2=>?_
  ·intro H7;refine qAA λw7 x7 e7=>?_
   refine aA (E3.at h1) ?_
   refine lA (x:=plus) (y:=minus) (λH=>fP) (λH=>fP) rfl rfl ?_
   rw [yV,uG,eA]
   refine aZ (B2 (k:=more) (hS2 _ hDp) (hS2 _ hDm) hm w7.fs) ?_ λc H' q=>q.elim
   intro v H8;refine j4 λz1 f8 x8 n8=>?_;subst z1
   have e8:=w7.up_fin x8 (.inr (.inl rfl)) e7
   refine aA (bC e8) (aA (eqVE _) (r_f rfl ?_))
   exact hj _ _ (at_+1+1+1+1) _ E3 (w7.fin x8 f8) oz161 ((X6.trans (x7.cov (Cov.p [1] rfl))).trans (x8.cov (Cov.p [2,3] rfl))) e8
  ·refine aA (bC e6) (aA (ET _) ?_)
   cases q:cC r W.T with
   |none=>
    rw [q] at e6
    exact r_f rfl (hk2 _ (iAA w₆ (Ext.refl _ _) (by rw [q];exact e6)))
   |some e=>
    rw [q] at e6
    refine r_t rfl (aA (bC e6) (aA (cR (by decide) (by decide) rfl) (aA (bC e6) (aA (cR (by decide) (by decide) rfl) (bA jN (aA (bC e6) (aA (cR (by decide) (by decide) rfl) ?_)))))))
    refine iH e6 λH3 n3 x3 e3=>?_
    exact hk2 _ (iAA (w₆.ext x3 (Cov.p [0] rfl)) x3 (by rw [q];exact e3))
 ·refine eG (λb H'=>H'=H6∧b=(match cC r W.T with|some e=>e.1==d5|none=>false)) ?_ λk₂ hk2=>?_
  ·intro b H';refine qA λz1 z2=>?_;subst z1 z2
   cases q:cC r W.T with
   |none=>exact r_f rfl (hk _ _ ⟨rfl,by rw [q];rfl⟩)
   |some e=>
    rw [q] at e6
    refine fC (λc=>?_) λc=>?_
    ·refine aA (bC e6) (aA (cR (by decide) (by decide) rfl) (hk _ _ ⟨rfl,?_⟩))
     rw [q]
     show _=if e.1=d5 then V.int e.2.1 else .none
     rw [if_pos (by simpa using c)]
    ·refine hk _ _ ⟨rfl,?_⟩
     rw [q]
     show _=if e.1=d5 then V.int e.2.1 else .none
     rw [if_neg (by simpa using c)]
  ·refine aA (bC e6) (aA (ET _) ?_)
   cases q:cC r W.T with
   |none=>exact r_f rfl (hk2 _ _ ⟨rfl,by rw [q]⟩)
   |some e=>
    rw [q] at e6
    refine r_t rfl (aA (bC e6) (aA (cR (by decide) (by decide) rfl) (aA uV ?_)))
    exact fC (λc=>hk2 _ _ ⟨rfl,by rw [q];exact c.symm⟩) λc=>hk2 _ _ ⟨rfl,by rw [q];exact c.symm⟩
end
end
section
section variable {H:Hp}
variable {p:Params} {W:LP} {at_:Int} {gs:TS}
noncomputable def mW:TS→Nat→Tab Int
 |[],_=>[]
 |g::r,k=>(g,100003*((k:Int)+1)^5)::mW r (k+1)
theorem wV:∀(l:TS) (x:Str) (k:Nat),mW (l++[x]) k=mW l k++[(x,100003*(((k+l.length:Nat):Int)+1)^5)]
 |[],x,k=>rfl
 |g::r,x,k=>by
  show _::mW (r++[x]) (k+1)=_
  rw [wV r x (k+1)]
  show _=(g,_)::(mW r (k+1)++_)
  rw [List.length_cons,show k+1+r.length=k+(r.length+1) by exact oz167]
theorem iT:∀(l:TS) (k:Nat),(mW l k).map (·.1)=l
 |[],k=>rfl
 |g::r,k=>by show g::(mW r (k+1)).map (·.1)=_;rw [iT r]
theorem BQ{a:Nat}(h:a<40):((((a:Int)+1)^5).natAbs<2^62):=by
 have:∀a:_root_.Fin 40,((((a.val:Int)+1)^5).natAbs<2^62):=by decide
 exact this ⟨a,h⟩
theorem pow_{x:Int}(h:x.natAbs<2^62):bH H .Pow (.int x) (.int 5)=some (.int (x^5),H):=by
 show (if (mM x&&decide ((0:Int)≤5)&&decide ((5:Int)≤5))=true then some (V.int (x^(5:Int).toNat),H) else none)=_
 rw [if_pos]
 ·rfl
 ·unfold mM;rw [decide_eq_true h];rfl
theorem EN {cf:CF} {ln a:Nat} {l:Lc} {PP:TP} {X:TX} {j:TK} {ρ:Lc} (w:LW W H at_ gs) (h1:(aW,.loc ln)∈ρ) (h2:(bX,.loc W.lg)∈ρ) (E:EnvM l ρ) (hρ:ρ.all (λq=>!(q.1==fT))=true)
  (hln:W.B≤ln) (ha:a<W.grounds.length) (hgz:W.grounds.length≤30) (hnd:W.grounds.Nodup) (hS:S_∉W.grounds) {ep:Nat} (hn:H[ln]?=some (.dict (aG V.int ((S_,0)::mW (W.grounds.take a) 0)) ep))
  (hj:∀l' H' ep',EnvM l' ρ→LW W H' at_ gs→Ext [ln] H H'→H'[ln]?=some (.dict (aG V.int ((S_,0)::mW (W.grounds.take (a+1)) 0)) ep')→Rs PP X (j .next l' H')):
  Rs PP X (vM p cf W.n0 (.int a) l H j):=by
 refine bA jN ?_
 refine bA (pow_ (show a+1<2^62 from Nat.lt_of_le_of_lt (Nat.le_trans ha hgz) (by decide))) ?_
 refine bA (T1 (by decide) (BQ (oz166 ha hgz))) ?_
 have E':EnvM ((fT,.int a)::l) ρ:=E.put hρ
 refine aA (E'.at h1) (aA (E'.at h2) ?_)
 have hg:W.grounds[a]?=some W.grounds[a]:=List.getElem?_eq_getElem ha
 refine aA (oZ w.gr TA (oz165 ha hgz) (by rw [Int.toNat_natCast,List.getElem?_map,hg];rfl)) ?_
 have hfr:has ((S_,(0:Int))::mW (W.grounds.take a) 0) W.grounds[a]=false:=d7 λu hu e=>by
  rcases List.mem_cons.mp hu with h|h
  ·rw [h] at e
   exact hS (by rw [show S_=W.grounds[a] from e];exact List.getElem_mem ha)
  ·have h':u.1∈(mW (W.grounds.take a) 0).map (·.1):=List.mem_map.mpr (iEA u h rfl)
   rw [iT,e] at h'
   have hd:W.grounds[a]∈W.grounds.drop a:=by rw [List.drop_eq_getElem_cons ha];exact List.mem_cons_self ..
   have hnd':=hnd
   rw [←List.take_append_drop a W.grounds,List.nodup_append] at hnd'
   exact hnd'.2.2 _ h' _ hd rfl
 refine gD (key:= .s W.grounds[a]) rfl hn (by rw [dO];have:=congrArg List.length (iT (W.grounds.take a) 0);simp at this ⊢;exact oz164 this hgz) (aI (aY _ _) _) λH' ep' n' x' e'=>?_
 refine hj _ _ ep' E' (w.ext x' (Cov.f (hln) (Cov.z))) x' ?_
 rw [dB V.int _ hfr] at e'
 rw [e',List.take_add_one,hg]
 show _=some (O.dict (aG V.int ((S_,0)::mW (W.grounds.take a++[W.grounds[a]]) 0)) ep')
 rw [wV]
 have:(W.grounds.take a).length=a:=by rw [List.length_take];exact oz163 ha
 rw [this,Nat.zero_add];rfl
set_option maxHeartbeats 2000000 in
theorem BS {d ln:Nat} {Tn:Tab Int} {simple:Bool} {r:Row} {l:Lc} {PP:TP} {X:TX} {j:TK} {ρ:Lc} (w:LW W H at_ gs) (h1:(aW,.loc ln)∈ρ) (h2:(aT,bG W.F.P)∈ρ) (h3:(bE,.bool simple)∈ρ) (E:EnvM l ρ) (hρ:ρ.all (λq=>!(q.1==bO))=true∧ρ.all (λq=>!(q.1==aH))=true)
  (hln:W.B≤ln) (hr:r∈W.rows) (N:sJ W.rows Tn) (hs:simple=true→∀r∈W.rows,r.minus=S_) {ep:Nat} (hn:H[ln]?=some (.dict (aG V.int Tn) ep))
  (hj:∀l' H',EnvM l' ρ→LW W H' at_ gs→Ext [] H H'→Rs PP X (j .next l' H')) (hc:∀l' H',EnvM l' ρ→LW W H' at_ gs→Ext [] H H'→Rs PP X (j .cont l' H')):
  Rs PP X (vL p (aB (KK p) (d+4)) W.n0 (dH r) l H j):=by
 have E1:EnvM ((bO,dH r)::l) ρ:=E.put hρ.1
 refine aA (E1.at h2) ?_
 refine oE w.eq λeq heq=>?_
 refine aA (cR (by decide) (by decide) rfl) ?_
 refine aZ (w9 N hs heq (iEA r hr rfl)) ?_ λc H' q=>q.elim
 intro v H1;refine qA λhv x1=>?_
 have w₁:LW W H1 at_ gs:=w.ext x1 (Cov.p [] rfl)
 have hn1:=x1.2 _ _ hn (List.not_mem_nil)
 have E2:EnvM ((aH,v)::(bO,dH r)::l) ρ:=E1.put hρ.2
 have aN:=aY V.int Tn
 have fin:∀x,(aP (.s x) (aG V.int Tn)).isSome=has Tn x:=λx=>by rw [bZ];unfold has;cases Tn.lookup x<;>rfl
 have isn:∀{w:V},(w= .none∨∃a b c,w=aK a b c)→∃b,cmp H1 .Is w .none=some b∧(b=true↔w= .none):=fun {w} h=>by
  rcases h with rfl|⟨a,b,c,rfl⟩
  ·exact (iEA true rfl (by simp))
  ·exact (iEA false rfl (by simp [aK]))
 have hk:v= .none∨∃a b c,v=aK a b c:=by
  rcases hv with ⟨a,b,c,e,_⟩|⟨e,_⟩
  ·exact .inr (CJ _ _ _ e)
  ·exact .inl e
 refine oEA (isn hk) λbn hbn hbi=>?_
 refine eG (λb H'=>H'=H1∧b=false) ?_ λk₁ hk1=>?_
 ·intro b H';refine qA λz1 z2=>?_;subst z1 z2
  refine r_f rfl (aA hbn ?_)
  refine fC (λq=>hc _ _ E2 w₁ x1) λq=>?_
  have hv':pV W.rows Tn r.name simple v:=by
   rcases hv with h|⟨h,_⟩
   ·exact h
   ·rw [hbi.mpr h] at q;cases q
  refine iS hv' λwo x y z1 nx ny hval U=>?_;clear hv';subst z1
  have hnr:∀{z},¬gF W.rows z→aP (.s z) (f9 W.rows)=none:=fun {z} h=>by
   rcases qB N.nd z with ⟨r',a,b,_⟩|⟨_,h⟩
   ·exact absurd (iEA r' a b) h
   ·exact h
  have heq':=x1.2 _ _ heq (List.not_mem_nil)
  refine eG (λb H''=>H''=H'∧b=false) ?_ λk₂ hk2=>?_
  ·intro b H'';refine qA λz1 z2=>?_;subst z1 z2
   refine r_f rfl ?_
   refine eG (λb H3=>H3=H''∧b=false) ?_ λk₃ hk3=>?_
   ·intro b H3;refine qA λz1 z2=>?_;subst z1 z2
    exact r_f rfl (hj _ _ E2 w₁ x1)
   ·refine aA (cR (by decide) (by decide) rfl) (aA (E2.at h1) (aA (rA (key:= .s r.name) hn1 rfl (aI aN _)) ?_))
    rw [fin]
    refine fC (λq2=>?_) λq2=>hk3 _ _ ⟨rfl,rfl⟩
    refine oAA (hval q2) λhx hy he=>?_
    have look:∀{z},has Tn z=true→aP (.s z) (aG V.int Tn)=some (.int (Nn Tn z)):=fun {z} h=>by
     rw [bZ]
     unfold has at h
     unfold Nn
     cases c:Tn.lookup z with
     |none=>rw [c] at h;cases h
     |some u=>rfl
    refine bD gJ (aA (E2.at h1) (bD dW (aA (dT (key:= .s x) hn1 rfl (aI aN _) (look hx)) (bA jN ?_))))
    refine aA (E2.at h1) (bD fB (aA (dT (key:= .s y) hn1 rfl (aI aN _) (look hy)) (bA yD ?_)))
    refine aA (E2.at h1) (aA (cR (by decide) (by decide) rfl) (aA (dT (key:= .s r.name) hn1 rfl (aI aN _) (look q2)) (aA neI_ ?_)))
    exact r_f (by rw [he];simp) (hk3 _ _ ⟨rfl,rfl⟩)
  ·refine bD dW (aA (E2.at h2) (bD b5 (aA (rA (key:= .s x) heq' rfl (aI (hJ _) _)) (r_f (by rw [hnr nx];rfl) ?_))))
   refine bD fB (aA (E2.at h2) (bD b5 (aA (rA (key:= .s y) heq' rfl (aI (hJ _) _)) (r_f (by rw [hnr ny];rfl) (hk2 _ _ ⟨rfl,rfl⟩)))))
 ·refine aA (E2.at h3) ?_
  have ht:mH H1 (.bool simple)=some simple:=rfl
  refine aA ht ?_
  refine fC (λq=>?_) λq=>hk1 _ _ ⟨rfl,rfl⟩
  refine aA hbn (aA (cR (by decide) (by decide) rfl) (aA (E2.at h1) (aA (rA (key:= .s r.name) hn1 rfl (aI aN _)) ?_)))
  rw [fin]
  have heqb:cmp H1 .Eq (.bool bn) (.bool (has Tn r.name))=some (bn==has Tn r.name):=rfl
  refine aA heqb ?_
  have:(bn==has Tn r.name)=false:=by
   rcases hv with ⟨_,_,_,e,_,_,_,h⟩|⟨e,h⟩
   ·have:bn=false:=by
     cases bn with
     |false=>rfl
     |true=>have:=hbi.mp rfl;rw [e] at this;cases this
    rw [this,h q];rfl
   ·rw [hbi.mpr e]
    have:=h q
    cases c:has Tn r.name with
    |true=>exact absurd c this
    |false=>rfl
  exact r_f this (hk1 _ _ ⟨rfl,rfl⟩)
end
end
section
section variable {α:Type}
variable {p:Params} {W:LP} {at_:Int} {gs:TS}
noncomputable def gW(D:TT):SD:=D.map λq=>(q.1,F8 q.2)
theorem qN(D:TT):(gW D).map (·.1)=D.map (·.1):=by unfold gW;rw [List.map_map];rfl
theorem qM(D:TT)(x:Str):(gW D).lookup x=(D.lookup x).map F8:=by
 induction D with
 |nil=>rfl
 |cons a r ih=>
  obtain ⟨y,v⟩:=a
  show List.lookup x ((y,F8 v)::gW r)=_
  rw [List.lookup_cons,List.lookup_cons]
  cases x==y with
  |true=>rfl
  |false=>exact ih
noncomputable def eX(pl:Pl)(T:TT)(fb:Str→Bool)(rows:List Row):TT:=(pl.map λq=>(q.1,some (q.2.1,q.2.2,S_)))++(rows.filter λr=>fb r.name).map λr=>(r.name,bP T r.name)
theorem sV(pl:Pl)(T:TT)(fb:Str→Bool)(rows:List Row):gW (eX pl T fb rows)=pl++fM T fb rows:=by
 unfold gW eX fM
 rw [List.map_append,List.map_map,List.map_map]
 congr 1
 ·conv=>rhs;rw [←List.map_id pl]
  rfl
noncomputable def j9(D:TT)(nm:Str):TT:=if nm≠S_∧nm≠aJ∧has D nm=false then D++[(nm,some (S_,0,S_))] else D
theorem yK(D:TT){nm:Str}(h:nm≠aE):gW (j9 D nm)=mS (gW D) nm:=by
 unfold j9 mS
 have e:(gW D).lookup nm=none↔has D nm=false:=by
  rw [qM]
  unfold has
  cases D.lookup nm<;>simp
 by_cases c:nm≠S_∧nm≠aJ∧has D nm=false
 ·rw [if_pos c,if_pos (cJ c.1 (e.mpr c.2.2) h c.2.1)]
  unfold gW
  rw [List.map_append];rfl
 ·rw [if_neg c,if_neg λq=>c (iAA q.1 q.2.2.2 (e.mp q.2.1))]
theorem qL(f:α→V):∀(l acc:Tab α),((acc++l).map (·.1)).Nodup→c9 (l.map λq=>(V.str q.1,f q.2)) (aG f acc)=some (aG f (acc++l))
 |[],acc,_=>by rw [List.append_nil];rfl
 |(x,v)::r,acc,hn=>by
  show (some (Key.s x)).bind (λk=>if cA k (aG f acc) then c9 (r.map λq=>(V.str q.1,f q.2)) (cP k (f v) (aG f acc)) else none)=_
  show (if cA (.s x) (aG f acc)=true then c9 (r.map λq=>(V.str q.1,f q.2)) (cP (.s x) (f v) (aG f acc)) else none)=_
  rw [if_pos (aI (aY _ _) _),dB f acc (d7 λu hu e=>?_),qL f r (acc++[(x,v)]) (by simpa using hn)]
  ·simp
  ·rw [List.map_append,List.nodup_append] at hn
   exact hn.2.2 u.1 (List.mem_map.mpr (iEA u hu rfl)) x k0 e
theorem BU(f:α→V)(l:Tab α):d2 (l.map λq=>V.tup [.str q.1,f q.2])=some (l.map λq=>(V.str q.1,f q.2)):=by
 induction l with
 |nil=>rfl
 |cons a r ih=>
  unfold d2 at ih ⊢
  rw [List.map_cons,List.mapM_cons]
  rw [ih];rfl
theorem UM(f:α→V){H:Hp}{l:Nat}{t:Tab α}(h:H[l]?=some (.list (t.map λ q=>V.tup [.str q.1,f q.2])))(hn:(t.map (·.1)).Nodup)(hz:t.length≤1000):aD H (.type "dict") [.loc l]=some (.loc H.length,H++[O.dict (aG f t) (aG f t).length]):=by
 have e:aD H (.type "dict") [.loc l]=onO none (λ vs=>(d2 vs).bind λ ps=>if ps.length≤1000 then (c9 ps []).map λ es=>(V.loc H.length,H++[O.dict es es.length]) else none)
  (λes U=>if es.length≤1000∧cS es=true then some (V.loc H.length,H++[O.dict es 0]) else none) (λU=>none) (λU=>none) H[l]? :=by kernel_rfl
 refine e.trans ((wT h).trans ?_)
 rw [BU]
 show (if (t.map λq=>(V.str q.1,f q.2)).length≤1000 then (c9 (t.map λq=>(V.str q.1,f q.2)) []).map λes=>(V.loc H.length,H++[O.dict es es.length]) else none)=_
 rw [if_pos (by rw [List.length_map];exact hz)]
 have:=qL f t [] (by assumption)
 rw [show c9 (t.map λq=>(V.str q.1,f q.2)) []=some (aG f t) from this]
 rfl
theorem T3(l:List (Option Ent)):w0 dK (l.map VE)=some (l.any λo=>o.isNone):=by
 induction l with
 |nil=>rfl
 |cons a r ih=>
  show (DL dK (VE a)).bind (λh=>(w0 dK (r.map VE)).map λm=>h || m)=_
  rw [ih]
  cases a with
  |none=>
   show some ((dK==dK) || r.any λo=>o.isNone)=_
   rw [beq_self_eq_true];rfl
  |some e=>rfl
theorem UJ{D:SD}{gs:TS}{H:Hp}{a b:Nat}{l:TS}(ha:H[a]?=some (.list (l.map (jZ D gs))))(hb:H[b]?=some (.list (l.map (jZ D gs)))):cmp H .Eq (.loc a) (.loc b)=some true:=by
 show ((aO H a).bind λxs=>(aO H b).bind λys=>if xs.length=ys.length then jV eq1 xs ys else some false)=_
 rw [dE ha,dE hb]
 show (if _=_ then jV eq1 (l.map (jZ D gs)) (l.map (jZ D gs)) else some false)=_
 rw [if_pos rfl]
 clear ha hb
 induction l with
 |nil=>rfl
 |cons x r ih=>
  show (eq1 (jZ D gs x) (jZ D gs x)).bind (λu=>(jV eq1 (r.map (jZ D gs)) (r.map (jZ D gs))).map λy=>u&&y)=_
  rw [ih]
  have:eq1 (jZ D gs x) (jZ D gs x)=some ((x==x)&&(((kP D x).1==(kP D x).1)&&(((kP D x).2==(kP D x).2)&&((decide (x∈gs)==decide (x∈gs))&&true)))):=rfl
  rw [this,beq_self_eq_true,beq_self_eq_true,beq_self_eq_true,beq_self_eq_true];rfl
end
end
section
section
variable {p:Params} {W:LP} {at_:Int} {gs:TS}
set_option maxHeartbeats 4000000 in
theorem LL {d lq ld lm:Nat} {fb:Str→Bool} {nm:Str} {marked:TS} {H:Hp} {l:Lc} {X:TX} {ρ:Lc} (w:LW W H at_ gs) (hW:xY W.F W.G W.pl W.rows fb) (h1:(aF,.loc lq)∈ρ) (h2:(aV,aU W.F)∈ρ) (E:EnvM l ρ) (hρ:ρ.all (λq=>!(q.1==dU))=true)
  (hq:H[lq]?=some (.list [tR nm])) (hlq:W.B≤lq) (hnm:nm≠aE) (hdue:H[W.n0+2]?=some (.cell (some (.loc ld)))) (hld:W.B≤ld) {ep:Nat} (hD:H[ld]?=some (.dict (aG VE (eX W.pl W.T fb W.rows)) ep))
  (hmk:H[W.n0+3]?=some (.cell (some (.loc lm)))) (hlm:W.B≤lm) (hm:H[lm]?=some (.list (marked.map .str))) (hgm:∀x,x∈gs↔x∈marked) (hS:∀r∈W.rows,eU p W.F W.G W.pl W.rows W.T (d+3) [] r.name) (hdl:ld≠lq):
  Rs (λv H'=>v= .bool true∧H'[W.xs]?=some W.xo) X (vG p (aB (KK p) (d+5)) W.n0 l H):=by
 have C:=w.ch
 refine aA (E.at h1) (aA (oZ hq (by decide) (by decide) rfl) ?_)
 have dz:(eX W.pl W.T fb W.rows).length≤50:=by
  unfold eX
  rw [List.length_append,List.length_map,List.length_map]
  exact Nat.le_trans (Nat.add_le_add_left (List.length_filter_le _ W.rows) _) hW.sz
 refine bJ (λv H'=>H'=H∧v= .tup [.str aE,.int 0,.int 4,.str nm,.int 0,.str BB]) ?_ λk hk=>?_
 ·intro v H';refine qA λz1 z2=>?_;subst z1 z2
  refine aA (cR (by decide) (by decide) rfl) ?_
  have E1:EnvM ((dU,.str nm)::l) ρ:=E.put hρ
  refine eF (λl' H''=>EnvM l' ρ∧LW W H'' at_ gs∧Ext [ld] H' H''∧∃ep',H''[ld]?=some (.dict (aG VE (j9 (eX W.pl W.T fb W.rows) nm)) ep')) ?_ λk₂ hk2=>?_
  ·intro l' H2;refine sS λE2 w2 x2 ep2 e₂=>?_
   refine aA (E2.at h2) (aA (E2.at h1) ?_)
   refine oE w2.eq λeq heq=>?_
   have hq2:=x2.2 _ _ hq (by simp [Ne.symm hdl])
   refine aZ (B1 hW w2.fs hS heq w2.gl hq2 ⟨by exact C.out 10 [21,22] rfl,by exact C.outHi 24 hlq [21,22] rfl⟩) ?_ λc H' q=>q.elim
   intro v H3;refine qA λx3 hv=>?_
   have up:∀{z o},H2[z]?=some o→(W.B≤z∨z=W.n0+2∨z=W.n0+3)→H3[z]?=some o:=fun {z o} h q=>x3.2 _ _ h (LP.own C q [21,22] rfl)
   have hs3:H3[W.xs]?=some W.xo:=x3.2 _ _ w2.scr (C.out 0 [21,22] rfl)
   have hdue3:=up (x2.2 _ _ hdue (nmc ((C.neHi 24 hld 3 rfl).symm) (List.not_mem_nil))) (.inr (.inl rfl))
   have hD3:=up e₂ (.inl hld)
   have hmk3:=up (x2.2 _ _ hmk (nmc ((C.neHi 24 hld 4 rfl).symm) (List.not_mem_nil))) (.inr (.inr rfl))
   refine aA (bC hdue3) ?_
   obtain ⟨D',hD'⟩:∃D':TT,D'=j9 (eX W.pl W.T fb W.rows) nm:=⟨_,rfl⟩
   have hproj:pE W.pl W.T fb W.rows nm=gW D':=by rw [hD',yK _ hnm,sV];rfl
   have dz':D'.length≤51:=by
    rw [hD'];unfold j9;split
    ·rw [List.length_append,List.length_singleton];exact oz172 dz
    ·exact oz171 dz
   rw [hproj] at hv
   rw [←hD'] at hD3 e₂
   have hbad:(∃r∈W.rows,fb r.name=true∧bP W.T r.name=none)↔(D'.map (·.2)).any (λo=>o.isNone)=true:=by
    have e1:∀o:TT,(j9 o nm).map (·.2)=o.map (·.2)∨(j9 o nm).map (·.2)=o.map (·.2)++[some (S_,0,S_)]:=λo=>by
     unfold j9
     split
     ·exact .inr (by simp)
     ·exact .inl rfl
    have e2:((eX W.pl W.T fb W.rows).map (·.2)).any (λo=>o.isNone)=true↔∃r∈W.rows,fb r.name=true∧bP W.T r.name=none:=by
     unfold eX
     simp only [List.map_append,List.map_map,List.any_append,List.any_map,Bool.or_eq_true,List.any_eq_true,Function.comp]
     constructor
     ·rintro (⟨q,_,h⟩|⟨r,hr,h⟩)
      ·simp at h
      ·have:=List.mem_filter.mp hr
       exact (cM r this.1 this.2 (by cases z:bP W.T r.name with|none=>rfl|some e=>rw [z] at h;simp at h))
     ·refine qEA λr hr z1=>?_;refine oA z1 λh1 h2=>?_;clear z1
      exact .inr (iEA r (List.mem_filter.mpr ⟨hr,h1⟩) (by rw [h2];rfl))
    rw [←e2,hD']
    rcases e1 (eX W.pl W.T fb W.rows) with h|h
    ·rw [h]
    ·rw [h,List.any_append];simp
   have hkeysD:(aG VE D').map (λ(e:Key×V)=>iZ e.1)=(D'.map (·.1)).map V.str:=by
    unfold aG;rw [List.map_map,List.map_map];rfl
   refine oEA (FE hD3 (aY _ _)) λchk hit hck=>?_
   rw [hkeysD] at hit
   have hmemD:∀x∈D'.map (·.1),∃o,D'.lookup x=some o:=λx hx=>by
    cases q:D'.lookup x with
    |some o=>exact ⟨o,rfl⟩
    |none=>
     refine oEA (List.mem_map.mp hx) λu hu z1=>?_;subst z1
     have:=List.lookup_eq_none_iff.mp q u hu
     simp at this
   have hndD:(D'.map (·.1)).Nodup:=by
    have hnd0:((eX W.pl W.T fb W.rows).map (·.1)).Nodup:=by
     rw [←qN,sV,List.map_append]
     have:=hW.nd
     rw [List.nodup_append] at this ⊢
     refine (iAA this.1 ?_ (λx hx y hy=>?_))
     ·unfold fM;rw [List.map_map]
      exact List.Nodup.sublist (List.Sublist.map _ List.filter_sublist) this.2.1
     ·unfold fM at hy
      rw [List.map_map] at hy
      refine oEA (List.mem_map.mp hy) λr hr z1=>?_;subst z1
      exact this.2.2 x hx r.name (List.mem_map.mpr (iEA r ((List.mem_filter.mp hr).1) rfl))
    rw [hD']
    unfold j9
    split
    ·rename_i c
     rw [List.map_append,List.nodup_append]
     refine (iAA hnd0 ndo (λx hx y hy e=>?_))
     simp at hy
     subst hy;subst e
     have h3:=c.2.2
     refine oEA (List.mem_map.mp hx) λu hu hux=>?_
     have:(eX W.pl W.T fb W.rows).lookup u.1=some u.2:=dF hnd0 hu
     unfold has at h3
     rw [←hux,this] at h3;cases h3
    ·exact hnd0
   refine gN (λv=>match v with| .str x=>(D'.lookup x).map VE|_=>none) hD3 hit hck (by simp;exact NG dz') ?_ ?_
   ·intro v hv' H'' i x h
    refine oEA (List.mem_map.mp hv') λy hy z1=>?_;subst z1
    refine oE (hmemD y hy) λo ho=>?_
    refine r_t rfl (aA (bC (x.2 _ _ hdue3 (List.not_mem_nil))) (aA (dT (key:= .s y) (x.2 _ _ hD3 (List.not_mem_nil)) rfl (aI (aY _ _) _) (by rw [bZ,ho];rfl)) ?_))
    have h:Rs (λv H'=>v= .bool true∧H'[W.xs]?=some W.xo) X (i ((D'.lookup y).map VE) H''):=h
    rw [ho] at h
    exact h
   ·intro H4 n4 x4 e4
    have hvals:((D'.map (·.1)).map V.str).filterMap (λv=>match v with| .str x=>(D'.lookup x).map VE|_=>none)=(D'.map (·.2)).map VE:=by
     have:∀l:TT,(∀q∈l,D'.lookup q.1=some q.2)→((l.map (·.1)).map V.str).filterMap (λv=>match v with| .str x=>(D'.lookup x).map VE|_=>none)=(l.map (·.2)).map VE:=by
      intro l hl
      induction l with
      |nil=>rfl
      |cons a r ih=>
       rw [List.map_cons,List.map_cons,List.filterMap_cons_some (b:=VE a.2) (by rw [show (match V.str a.1 with| .str x=>(D'.lookup x).map VE|_=>none)=(D'.lookup a.1).map VE from rfl,hl a (List.mem_cons_self ..)];rfl),ih λq hq=>hl q (List.mem_cons_of_mem _ hq)]
       rfl
     exact this D' λq hq=>dF hndD hq
    rw [hvals] at e4
    have hin:cmp H4 .In (.str dK) (.loc H3.length)=some ((D'.map (·.2)).any λo=>o.isNone):=by
     exact (wT e4).trans (T3 _)
    refine aA hin ?_
    refine fC (λc=>?_) λc=>?_
    ·have hb:=hbad.mpr c
     rcases hv with ⟨h,_⟩|⟨rfl,_⟩
     ·refine eV hb λr hr f1 f2=>?_;clear hb
      exact absurd f2 (h r hr f1)
     ·exact aA (a:=true) rfl ⟨rfl,x4.2 _ _ hs3 (List.not_mem_nil)⟩
    ·rcases hv with ⟨hall,lh,rfl,hl⟩|⟨rfl,hb⟩
     ·have hdue4:=x4.2 _ _ hdue3 (List.not_mem_nil)
      have hD4:=x4.2 _ _ hD3 (List.not_mem_nil)
      have hl4:=x4.2 _ _ hl (List.not_mem_nil)
      have hmk4:=x4.2 _ _ hmk3 (List.not_mem_nil)
      have hm4:=x4.2 _ _ (up (x2.2 _ _ hm (by refine n1 ?_;intro q;rw [q] at hm;rw [hm] at hD;cases hD)) (.inl hlm)) (List.not_mem_nil)
      refine aA (bC hdue4) ?_
      have hk4:(aG VE D').map (·.1)=(D'.map (·.1)).map Key.s:=by unfold aG;rw [List.map_map,List.map_map];rfl
      refine bA (pN hD4 hk4 (by refine lm2 ?_;exact oz170 dz')) ?_
      have x5:Ext [] H4 (H4++[.list ((cI (D'.map (·.1))).map .str)]):=Ext.new
      have e5:(H4++[O.list ((cI (D'.map (·.1))).map .str)])[H4.length]?=some (.list ((cI (D'.map (·.1))).map .str)):=fA
      generalize (H4++[O.list ((cI (D'.map (·.1))).map .str)])=H5 at x5 e5 ⊢
      refine oEA (kH e5) λchk5 hit5 hck5=>?_
      refine gN (λv=>match v with| .str x=>some (jZ (gW D') gs x)|_=>none) e5 hit5 hck5 (by rw [List.length_map,fQ,List.length_map];exact NG dz') ?_ ?_
      ·intro v hv' H'' i x h
       refine oEA (List.mem_map.mp hv') λy hy z1=>?_;subst z1
       have hy':=iW hy
       refine oE (hmemD y hy') λo ho=>?_
       have ho2:o.isNone=false:=by
        have:=List.any_eq_false.mp c o (List.mem_map.mpr (iEA (y,o) (cV ho) rfl))
        cases o with
        |none=>exact absurd rfl this
        |some e=>rfl
       cases o with
       |none=>cases ho2
       |some e=>
        have up5:∀{z o},H4[z]?=some o→H''[z]?=some o:=λh=>x.2 _ _ (x5.2 _ _ h (List.not_mem_nil)) (List.not_mem_nil)
        have hent:kP (gW D') y=(e.1,e.2.1):=by unfold kP;rw [qM,ho];rfl
        have hmem:decide (y∈gs)=decide (y∈marked):=by
         by_cases z:y∈gs
         ·rw [decide_eq_true z,decide_eq_true ((hgm y).mp z)]
         ·rw [decide_eq_false z,decide_eq_false λq=>z ((hgm y).mpr q)]
        have htup:jZ (gW D') gs y= .tup [.str y,.str e.1,.int e.2.1,.bool (decide (y∈marked))]:=by unfold jZ;rw [hent,hmem]
        have hg:∀{HH:Hp},HH[ld]?=some (.dict (aG VE D') ep2)→getItem HH (.loc ld) (.str y)=some (VE (some e)):=λhh=>dT (key:= .s y) hh rfl (aI (aY _ _) _) (by rw [bZ,ho];rfl)
        refine r_t rfl (aA (bC (up5 hdue4)) (aA (hg (up5 hD4)) (aA (cR (by decide) (by decide) rfl) ?_)))
        refine aA (bC (up5 hdue4)) (aA (hg (up5 hD4)) (aA (cR (by decide) (by decide) rfl) ?_))
        refine aA (bC (up5 hmk4)) (aA (FJ (up5 hm4)) ?_)
        rw [←htup]
        exact h
      ·intro H6 n6 x6 e6
       rw [B0 _ V.str (jZ (gW D') gs) _ λa U=>rfl] at e6
       rw [qN] at hl4
       have hl6:=x6.2 _ _ (x5.2 _ _ hl4 (List.not_mem_nil)) (List.not_mem_nil)
       exact aA (UJ hl6 e6) ⟨rfl,x6.2 _ _ (x5.2 _ _ (x4.2 _ _ hs3 (List.not_mem_nil)) (List.not_mem_nil)) (List.not_mem_nil)⟩
     ·have:=hbad.mp hb
      rw [this] at c;cases c
  ·refine eG (λb H''=>H''=H'∧b=decide (nm≠S_∧nm≠aJ∧has (eX W.pl W.T fb W.rows) nm=false)) ?_ λk₃ hk3=>?_
   ·intro b H'';refine qA λz1 z2=>?_;subst z1 z2
    by_cases c:nm≠S_∧nm≠aJ∧has (eX W.pl W.T fb W.rows) nm=false
    ·refine r_t (decide_eq_true c) (aA (bC hdue) ?_)
     refine gD (key:= .s nm) rfl hD (by rw [dO];exact NH dz) (aI (aY _ _) _) λH3 ep3 n3 x3 e3=>?_
     refine hk2 _ _ (cJ E1 (w.ext x3 (Cov.f (hld) (Cov.z))) x3 ⟨ep3,?_⟩)
     unfold j9
     rw [if_pos c,←dB VE _ c.2.2];exact e3
    ·refine r_f (decide_eq_false c) (hk2 _ _ (cJ E1 w (Ext.refl _ _) ⟨ep,?_⟩))
     unfold j9
     rw [if_neg c];exact hD
   ·refine aA fP ?_
    by_cases c1:nm=S_
    ·exact r_f (by rw [c1];exact nbq _) (hk3 _ _ ⟨rfl,by rw [decide_eq_false λq=>q.1 c1]⟩)
    refine r_t (by rw [beq_false_of_ne c1];rfl) (aA fP ?_)
    by_cases c2:nm=aJ
    ·exact r_f (by rw [c2];exact nbq _) (hk3 _ _ ⟨rfl,by rw [decide_eq_false λq=>q.2.1 c2]⟩)
    refine r_t (by rw [beq_false_of_ne c2];rfl) (aA (bC hdue) (aA (hZ (key:= .s nm) hD rfl (aI (aY _ _) _)) ?_))
    have:(aP (.s nm) (aG VE (eX W.pl W.T fb W.rows))).isSome=has (eX W.pl W.T fb W.rows) nm:=by rw [bZ];unfold has;cases List.lookup nm (eX W.pl W.T fb W.rows)<;>rfl
    rw [this]
    cases c3:has (eX W.pl W.T fb W.rows) nm with
    |true=>exact r_f rfl (hk3 _ _ ⟨rfl,by rw [decide_eq_false λq=>by rw [c3] at q;cases q.2.2]⟩)
    |false=>exact r_t rfl (hk3 _ _ ⟨rfl,by rw [decide_eq_true (iAA c1 c2 c3)]⟩)
 ·refine bD mE ?_
  unfold tR
  exact aZ (P':=λv H'=>H'=H∧v= .tup [.str aE,.int 0,.int 4,.str nm,.int 0,.str BB]) (X':=λU U=>False) (bD E_122 ⟨rfl,rfl⟩) (λv H3 q=>hk _ _ q) λc H' q=>q.elim
end
end
section
section variable {H:Hp} {r:Row}
variable {p:Params} {W:LP} {at_:Int} {gs:TS}
theorem gC:getItem H (dH r) (.int 0)=some (.str r.name):=cR (by decide) (by decide) rfl
theorem xN(pl:Pl)(T:TT)(fb:Str→Bool)(a:List Row)(r:Row):eX pl T fb (a++[r])=if fb r.name=true then eX pl T fb a++[(r.name,bP T r.name)] else eX pl T fb a:=by
 unfold eX
 rw [List.filter_append,List.map_append,List.filter_cons]
 cases q:fb r.name
 ·simp
 ·exact (List.append_assoc _ _ _).symm
theorem GB{pl:Pl}{T:TT}{fb:Str→Bool}{a b:List Row}(hn:(pl.map (·.1)++(a++r::b).map (·.name)).Nodup):has (eX pl T fb a) r.name=false:=d7 λu hu e=>by
 rw [List.map_append,←List.append_assoc,List.nodup_append] at hn
 refine hn.2.2 u.1 ?_ r.name k0 e
 unfold eX at hu
 rcases List.mem_append.mp hu with h|h
 ·refine oEA (List.mem_map.mp h) λq hq z1=>?_;subst z1
  exact List.mem_append_left _ (List.mem_map.mpr (iEA q hq rfl))
 ·refine oEA (List.mem_map.mp h) λq hq z1=>?_;subst z1
  exact List.mem_append_right _ (List.mem_map.mpr (iEA q ((List.mem_filter.mp hq).1) rfl))
theorem GA {cf:CF} {lo ld:Nat} {fb:Str→Bool} {T':TT} {a b:List Row} {l:Lc} {PP:TP} {X:TX} {j:TK} {ρ:Lc} (w:LW W H at_ gs) (hW:xY W.F W.G W.pl W.rows fb) (hrows:W.rows=a++r::b) (h1:(cB,.loc lo)∈ρ) (E:EnvM l ρ) (hρ:ρ.all (λq=>!(q.1==bO))=true)
  (ht:∃ep,H[lo]?=some (.dict (aG VE T') ep)) (hT:Told W.T W.rows T') (hdue:H[W.n0+2]?=some (.cell (some (.loc ld)))) (hld:W.B≤ld) {ep:Nat} (hD:H[ld]?=some (.dict (aG VE (eX W.pl W.T fb a)) ep))
  (hj:∀l' H' ep',EnvM l' ρ→LW W H' at_ gs→Ext [ld] H H'→H'[ld]?=some (.dict (aG VE (eX W.pl W.T fb (a++[r]))) ep')→Rs PP X (j .next l' H')):
  Rs PP X (vH p cf W.n0 (dH r) l H j):=by
 have hr:r∈W.rows:=by rw [hrows];exact List.mem_append_right _ k0
 refine eV (hW.row r hr) λy U U h3=>?_
 have E1:EnvM ((bO,dH r)::l) ρ:=E.put hρ
 refine oE ht λet ht=>?_
 have dz:(eX W.pl W.T fb a).length≤50:=by
  have:=hW.sz
  rw [hrows,List.length_append] at this
  unfold eX
  rw [List.length_append,List.length_map,List.length_map]
  exact Nat.le_trans (Nat.add_le_add_left (Nat.le_trans (List.length_filter_le _ a) (Nat.le_add_right _ _)) _) this
 refine eF (λl' H'=>EnvM l' ρ∧LW W H' at_ gs∧Ext [ld] H H'∧∃ep',H'[ld]?=some (.dict (aG VE (eX W.pl W.T fb (a++[r]))) ep')) ?_ λk hk=>?_
 ·intro l' H';refine sS λe1 e2 e3 ep' e4=>?_
  exact hj _ _ _ e1 e2 e3 e4
 refine oEA (h3 H) λz hz1 hz2=>?_
 refine aA gC (aA hz1 (aA hz2 ?_))
 refine fC (λc=>?_) λc=>hk _ _ (cJ E1 w (Ext.refl _ _) ⟨ep,by rw [xN,if_neg (by rw [c];decide)];exact hD⟩)
 refine aA (E1.at h1) (aA gC (aA (dT (key:= .s r.name) ht rfl (aI (aY _ _) _) (by rw [bZ,hT.look (.inr (iEA r hr rfl))];rfl)) (aA (bC hdue) (aA gC ?_))))
 refine gD (key:= .s r.name) rfl hD (by rw [dO];exact NH dz) (aI (aY _ _) _) λH3 ep3 n3 x3 e₃=>?_
 refine hk _ _ (cJ E1 (w.ext x3 (Cov.f (hld) (Cov.z))) x3 ⟨ep3,?_⟩)
 rw [xN,if_pos c,←dB VE _ (GB (by rw [←hrows];exact hW.nd))]
 exact e₃
theorem CM{d:Nat}{P:PG}{x:Str}(hg:H[P.gl]?=some (.list (gs.map .str)))(hz:gs.length≤500):
  Rs (λU H'=>Ext [P.gl] H H'∧H'[P.gl]?=some (.list ((if x∈gs then gs else gs++[x]).map .str))) (λU U=>False) (aB (KK p) (d+1) 436 [bG P,.str x] H):=by
 refine bD E_436 ?_
 refine mQ (λH'=>Ext [P.gl] H H'∧H'[P.gl]?=some (.list ((if x∈gs then gs else gs++[x]).map .str))) (λH' h=>h) λk hk=>?_
 refine aA (LD hg) ?_
 by_cases c:x∈gs
 ·refine r_f (by rw [decide_eq_true c];rfl) (hk _ ⟨Ext.refl _ _,?_⟩)
  rw [if_pos c];exact hg
 ·refine r_t (by rw [decide_eq_false c];rfl) ?_
  refine j8 hg (by refine lm1 ?_;exact NF hz) λH3 n3 x3 e3=>hk _ ⟨x3,?_⟩
  rw [if_neg c,e3];exact mp1
theorem LW.glob{H':Hp}{gs':TS}(w:LW W H at_ gs)(x:Ext [W.F.P.gl] H H')(h:H'[W.F.P.gl]?=some (.list (gs'.map .str))):LW W H' at_ gs':=by
 have up:∀{z o},H[z]?=some o→z∉[W.F.P.gl]→H'[z]?=some o:=λh q=>x.2 _ _ h q
 refine oE w.eq λe1 h1=>?_
 refine oE w.pls λe2 h2=>?_
 refine oE w.tab λe3 h3=>?_
 exact {ch:=w.ch,hB:=Nat.le_trans w.hB x.1,src:=w.src.ext x (w.ch.out 6 [10] rfl) (w.ch.out 5 [10] rfl),fs:=w.fs.other x (w.ch.outs [10] [8,7,16,18,11,13,9,21,22] rfl),eq:=⟨e1,up h1 (w.ch.out 9 [10] rfl)⟩,gl:=h,pls:=⟨e2,up h2 (w.ch.out 14 [10] rfl)⟩,gr:=up w.gr (w.ch.out 19 [10] rfl),rw_:=up w.rw_ (w.ch.out 20 [10] rfl),tab:=⟨e3,up h3 (w.ch.out 23 [10] rfl)⟩,c0:=up w.c0 (w.ch.out 1 [10] rfl),c1:=up w.c1 (w.ch.out 2 [10] rfl),scr:=up w.scr (w.ch.out 0 [10] rfl)}
theorem CL {d:Nat} {x:Str} {l:Lc} {PP:TP} {X:TX} {j:TK} {ρ:Lc} (w:LW W H at_ gs) (hz:gs.length≤500) (h1:(aT,bG W.F.P)∈ρ) (E:EnvM l ρ) (hρ:ρ.all (λq=>!(q.1==aQ))=true)
  (hj:∀l' H',EnvM l' ρ→LW W H' at_ (if x∈gs then gs else gs++[x])→Ext [W.F.P.gl] H H'→Rs PP X (j .next l' H')):
  Rs PP X (vJ p (aB (KK p) (d+1)) W.n0 (.str x) l H j):=by
 have E1:EnvM ((aQ,.str x)::l) ρ:=E.put hρ
 refine aA (E1.at h1) ?_
 refine bJ (λU H'=>Ext [W.F.P.gl] H H'∧H'[W.F.P.gl]?=some (.list ((if x∈gs then gs else gs++[x]).map .str))) (λU H' h=>hj _ _ E1 (w.glob h.1 h.2) h.1) λk hk=>?_
 refine bD jD ?_
 exact aZ (CM w.gl hz) (λv H' q=>hk _ _ q) λc H' q=>q.elim
end
end
section
noncomputable def NoK(ρ:Lc)(ns:TS):Prop:=(ρ.all λq=>ns.all λy=>!(q.1==y))=true
theorem NoK.one{ρ:Lc}{ns:TS}(h:NoK ρ ns){y:Str}(hy:y∈ns):ρ.all (λq=>!(q.1==y))=true:=by
 refine List.all_eq_true.mpr λq hq=>?_
 exact List.all_eq_true.mp (List.all_eq_true.mp h q hq) y hy
section
variable {p:Params} {W:LP} {at_:Int} {gs:TS}
set_option maxHeartbeats 2000000 in
theorem law7 {lm lo:Nat} {fb:Str→Bool} {marked:TS} {T':TT} {H:Hp} {l:Lc} {X:TX} {ρ:Lc} {c2:TO} (w:LW W H at_ gs) (hat:at_<2^38) (hW:xY W.F W.G W.pl W.rows fb) (h1:(bY,.loc W.lp)∈ρ) (h2:(aV,aU W.F)∈ρ) (h3:(cU,.loc W.lr)∈ρ) (h4:(cB,.loc lo)∈ρ) (E:EnvM l ρ) (hρ:NoK ρ [dU,bO,aF])
  (hdue:H[W.n0+2]?=some (.cell c2)) (hmk:H[W.n0+3]?=some (.cell (some (.loc lm)))) (hlm:W.B≤lm) (hm:H[lm]?=some (.list (marked.map .str))) (hgm:∀x,x∈gs↔x∈marked)
  (ht:∃ep,H[lo]?=some (.dict (aG VE T') ep)) (hlo:W.B≤lo) (hT:Told W.T W.rows T') (hb:∀q∈W.pl,W.base.lookup q.1=some (some (q.2.1,q.2.2,S_))) (hS:∀r∈W.rows,eU p W.F W.G W.pl W.rows W.T 38 [] r.name):
  Rs (λv H'=>v= .bool true∧H'[W.xs]?=some W.xo) X (vI p (aB (KK p) 40) W.n0 l H):=by
 have C:=w.ch
 refine aA (bC w.c0) ?_
 refine aZ (b8 (d:=39) w.src (TB hat) (by decide)) ?_ λc H' q=>q.elim
 intro v H1;refine dD λi z1 hi0 hi1 n₁ x1 S1=>?_;subst z1
 have w₁:=w.draw x1 S1
 have hdue1:=w.up_draw x1 (.inr (.inl rfl)) hdue
 have hmk1:=w.up_draw x1 (.inr (.inr rfl)) hmk
 have hm1:=w.up_draw x1 (.inl hlm) hm
 refine oE ht λet ht=>?_
 have ht1:=w.up_draw x1 (.inl hlo) ht
 obtain ⟨nm,hnm,hg⟩:∃nm:Str,nm≠aE∧getItem H1 (.tup [.str S_u,.str aJ,.str sI,.str S_]) (.int i)=some (.str nm):=by
  have:i=0∨i=1∨i=2∨i=3:=(oz177 hi0 hi1)
  have ne:∀{x:Str},(x==aE)=false→x≠aE:=λh q=>by rw [q,beq_self_eq_true] at h;cases h
  rcases this with rfl|rfl|rfl|rfl
  ·exact (iEA S_u (ne (by kernel_rfl)) rfl)
  ·exact (iEA aJ (ne (by kernel_rfl)) rfl)
  ·exact (iEA sI (ne (by kernel_rfl)) rfl)
  ·exact (iEA S_ (ne (by kernel_rfl)) rfl)
 refine aA hg ?_
 refine dI λH2 n₂ x2 e2=>?_
 have hB1:W.B≤H1.length:=w₁.hB
 have w2:LW W H2 (at_+1) gs:=w₁.ext x2 (Cov.p [] rfl)
 generalize hlq:H1.length=lq at *
 have E1:EnvM ((aF,.loc lq)::l) ((aF,.loc lq)::ρ):=EnvM.cons lk0 (E.put (hρ.one k2))
 refine aA (E1.at (List.mem_cons_of_mem _ h1)) ?_
 refine oE w2.pls λep hpl=>?_
 refine oE w2.tab λeb htab=>?_
 refine oEA (FE hpl (aY _ _)) λchk hit hck=>?_
 have hkeys:(aG VPl W.pl).map (λ(e:Key×V)=>iZ e.1)=W.pl.map λq=>V.str q.1:=by unfold aG;rw [List.map_map];rfl
 rw [hkeys] at hit
 have hsz:=hW.sz
 obtain ⟨D0,hD0⟩:∃D0:TT,D0=eX W.pl W.T fb []:=⟨_,rfl⟩
 have hD0':D0=W.pl.map λq=>(q.1,some (q.2.1,q.2.2,S_)):=by rw [hD0];unfold eX;exact List.append_nil _
 refine gN (λv=>match v with| .str x=>(W.base.lookup x).map λo=> .tup [.str x,VE o]|_=>none) hpl hit hck (by refine lm1 ?_;exact NE hsz) ?_ ?_
 ·intro v hv H' i x h
  refine oEA (List.mem_map.mp hv) λq hq z1=>?_;subst z1
  have hbq:=hb q hq
  refine r_t rfl (aA (bC (x.2 _ _ w2.c1 (List.not_mem_nil))) (aA (dT (key:= .s q.1) (x.2 _ _ htab (List.not_mem_nil)) rfl (aI (aY _ _) _) (by rw [bZ,hbq];rfl)) ?_))
  have e:(match V.str q.1 with| .str x=>(W.base.lookup x).map λo=>V.tup [.str x,VE o]|_=>none)=some (V.tup [.str q.1,VE (some (q.2.1,q.2.2,S_))]):=by
   show (W.base.lookup q.1).map (λo=>V.tup [.str q.1,VE o])=_
   rw [hbq];rfl
  rw [e] at h
  exact h
 ·intro H3 n3 x3 e3
  have hvals:(W.pl.map λq=>V.str q.1).filterMap (λv=>match v with| .str x=>(W.base.lookup x).map λo=>V.tup [.str x,VE o]|_=>none)=D0.map λq=>V.tup [.str q.1,VE q.2]:=by
   rw [B0 _ (λq:Str×(Str×Int)=>V.str q.1) (λq=>V.tup [.str q.1,VE (some (q.2.1,q.2.2,S_))]) W.pl λq hq=>?_]
   ·rw [hD0',List.map_map];rfl
   ·show (W.base.lookup q.1).map (λo=>V.tup [.str q.1,VE o])=_
    rw [hb q hq];rfl
  rw [hvals] at e3
  have hnd:(D0.map (·.1)).Nodup:=by
   have:=hW.nd
   rw [List.nodup_append] at this
   rw [hD0',List.map_map];exact this.1
  refine bA (UM VE e3 hnd (by rw [hD0'];refine lm1 ?_;exact NE hsz)) ?_
  have x4:Ext [] H3 (H3++[.dict (aG VE D0) (aG VE D0).length]):=Ext.new
  have e4:(H3++[O.dict (aG VE D0) (aG VE D0).length])[H3.length]?=some (.dict (aG VE D0) (aG VE D0).length):=fA
  generalize (H3++[O.dict (aG VE D0) (aG VE D0).length])=H4 at x4 e4 ⊢
  have w3:LW W H3 (at_+1) gs:=w2.ext x3 (Cov.p [] rfl)
  have w4:LW W H4 (at_+1) gs:=w3.ext x4 (Cov.p [] rfl)
  have hB3:W.B≤H3.length:=w3.hB
  have up4:∀{z o},H2[z]?=some o→H4[z]?=some o:=λh=>x4.2 _ _ (x3.2 _ _ h (List.not_mem_nil)) (List.not_mem_nil)
  have hdl:H3.length≠lq:=by have:=bS e2;exact oz175 n₂ n3
  generalize hld:H3.length=ld at *
  refine iH (up4 (x2.2 _ _ hdue1 (List.not_mem_nil))) λH5 n5 x5 e5=>?_
  have w₅:LW W H5 (at_+1) gs:=w4.ext x5 (Cov.p [0] rfl)
  have up5:∀{z o},H2[z]?=some o→z≠W.n0+2→H5[z]?=some o:=λh q=>x5.2 _ _ (up4 h) (by exact n1 (by assumption))
  refine aA (E1.at (List.mem_cons_of_mem _ h3)) ?_
  have hld2:ld≠W.n0+2:=by exact C.neHi 24 hB3 3 rfl
  refine gV (λr l H'=>EnvM l ((aF,.loc lq)::ρ)∧LW W H' (at_+1) gs∧Ext [ld] H5 H'∧∃a b ep,W.rows=a++b∧r=b.map dH∧H'[ld]?=some (.dict (aG VE (eX W.pl W.T fb a)) ep)) w₅.rw_ (λr l H' i=>i.2.1.rw_) (cJ E1 w₅ (Ext.refl _ _) (cE ([]) W.rows _ rfl rfl (by rw [←hD0];exact x5.2 _ _ e4 (by exact n1 (by assumption))))) ?_ ?_
  ·intro l' H6;refine fE λE6 w₆ x6 a b ep6 e hr hd6=>?_
   cases b with
   |cons u v=>cases hr
   |nil=>
    rw [List.append_nil] at e
    rw [←e] at hd6
    have up6:∀{z o},H2[z]?=some o→z≠W.n0+2→z≠ld→H6[z]?=some o:=λh q q2=>x6.2 _ _ (up5 h q) (by exact n1 (by assumption))
    have lm_ne:lm≠ld:=by have:=bS hm1;exact ED this n₂ n3 hlq
    have lo_ne:lo≠ld:=by have:=bS ht1;exact ED this n₂ n3 hlq
    refine LL (d:=35) (lm:=lm) (marked:=marked) (nm:=nm) w₆ hW (List.mem_cons_self ..) (List.mem_cons_of_mem _ h2) E6 ?_ (up6 e2 (C.neHi 24 hB1 3 rfl) (Ne.symm hdl)) (hB1) hnm (x6.2 _ _ e5 (nmc ((C.neHi 24 hB3 3 rfl).symm) (List.not_mem_nil))) (hB3) hd6 (up6 (x2.2 _ _ hmk1 (List.not_mem_nil)) (C.ne 4 3 rfl) ((C.neHi 24 hB3 4 rfl).symm)) hlm (up6 (x2.2 _ _ hm1 (List.not_mem_nil)) (C.neHi 24 hlm 3 rfl) lm_ne) hgm hS hdl
    show (!(aF==dU)&&ρ.all _)=true
    rw [hρ.one k0]
    kernel_rfl
  ·intro v r l' H6 j;refine fE λE6 w₆ x6 a b ep6 e hr hd6=>?_;intro hj _ _
   cases b with
   |nil=>cases hr
   |cons u b=>
    cases hr
    have lo_ne:lo≠ld:=by have:=bS ht1;exact ED this n₂ n3 hlq
    refine GA (fb:=fb) w₆ hW e (List.mem_cons_of_mem _ h4) E6 ?_ ⟨et,x6.2 _ _ (up5 (x2.2 _ _ ht1 (List.not_mem_nil)) (C.neHi 24 hlo 3 rfl)) (by exact n1 (by assumption))⟩ hT (x6.2 _ _ e5 (nmc ((C.neHi 24 hB3 3 rfl).symm) (List.not_mem_nil))) (hB3) hd6 λl'' H7 ep7 E7 w7 x7 e7=>hj _ _ (cJ E7 w7 (x6.trans x7) (cE (a++[u]) b ep7 (by rw [e];simp) rfl e7))
    show (!(aF==bO)&&ρ.all _)=true
    rw [hρ.one k1]
    kernel_rfl
end
end
section
section
variable {p:Params} {W:LP} {at_:Int} {gs:TS}
set_option maxHeartbeats 2000000 in
theorem law6 {lo:Nat} {fb:Str→Bool} {T':TT} {H:Hp} {l:Lc} {X:TX} {ρ:Lc} {c2 c3:TO} (w:LW W H at_ []) (hat:at_<2^37) (hW:xY W.F W.G W.pl W.rows fb) (h1:(bY,.loc W.lp)∈ρ) (h2:(aV,aU W.F)∈ρ) (h3:(cU,.loc W.lr)∈ρ) (h4:(cB,.loc lo)∈ρ) (h5:(aT,bG W.F.P)∈ρ) (E:EnvM l ρ) (hρ:NoK ρ [dU,bO,aF,aQ])
  (hdue:H[W.n0+2]?=some (.cell c2)) (hmk:H[W.n0+3]?=some (.cell c3))
  (ht:∃ep,H[lo]?=some (.dict (aG VE T') ep)) (hlo:W.B≤lo) (hT:Told W.T W.rows T') (hb:∀q∈W.pl,W.base.lookup q.1=some (some (q.2.1,q.2.2,S_))) (hS:∀r∈W.rows,eU p W.F W.G W.pl W.rows W.T 38 [] r.name):
  Rs (λv H'=>v= .bool true∧H'[W.xs]?=some W.xo) X (vK p (aB (KK p) 40) W.n0 l H):=by
 have C:=w.ch
 have hsz:=hW.sz
 refine oE w.pls λep hpl=>?_
 refine oE ht λet ht=>?_
 refine aA (E.at h1) ?_
 have hk:(aG VPl W.pl).map (·.1)=(W.pl.map (·.1)).map Key.s:=by unfold aG;rw [List.map_map,List.map_map];rfl
 refine bA (pN hpl hk (by refine lm2 ?_;exact oz191 hsz)) ?_
 have x1:Ext [] H (H++[.list ((cI (W.pl.map (·.1))).map .str)]):=Ext.new
 have e1:(H++[O.list ((cI (W.pl.map (·.1))).map .str)])[H.length]?=some (.list ((cI (W.pl.map (·.1))).map .str)):=fA
 generalize (H++[O.list ((cI (W.pl.map (·.1))).map .str)])=H1 at x1 e1 ⊢
 have w₁:LW W H1 at_ []:=w.ext x1 (Cov.p [] rfl)
 refine aA (E.at h3) ?_
 refine oEA (kH w₁.rw_) λchk hit hck=>?_
 refine gN (λv=>match v with| .tup (a::_)=>some a|_=>none) w₁.rw_ hit hck (by refine lm1 ?_;exact oz190 hsz) ?_ ?_
 ·intro v hv H' i x h
  refine oEA (List.mem_map.mp hv) λr hr z1=>?_;subst z1
  exact r_t rfl (aA gC h)
 intro H2 n₂ x2 e2
 rw [B0 _ dH (λr=>V.str r.name) _ λa U=>rfl] at e2
 have w2:LW W H2 at_ []:=w₁.ext x2 (Cov.p [] rfl)
 refine nN (x2.2 _ _ e1 (List.not_mem_nil)) e2 (by rw [List.length_map,fQ];refine lb1 ?_;exact oz189 hsz) λH3 n3 x3 e3=>?_
 have w3:LW W H3 at_ []:=w2.ext x3 (Cov.p [] rfl)
 obtain ⟨names,hnames⟩:∃names:TS,names=cI (W.pl.map (·.1))++W.rows.map (·.name):=⟨_,rfl⟩
 have e3:H3[H2.length]?=some (.list (names.map .str)):=by rw [e3,hnames];exact mp3
 have nz:names.length≤50:=by rw [hnames,List.length_append,fQ,List.length_map,List.length_map];exact hsz
 have hB2:W.B≤H2.length:=w2.hB
 have hB3:W.B≤H3.length:=w3.hB
 have h23:H2.length<H3.length:=(wS n3)
 have up3:∀{z o},H[z]?=some o→H3[z]?=some o:=λh=>x3.2 _ _ (x2.2 _ _ (x1.2 _ _ h (List.not_mem_nil)) (List.not_mem_nil)) (List.not_mem_nil)
 have hdue3:=up3 hdue
 have hmk3:=up3 hmk
 have ht3:=up3 ht
 have lo3:lo<H3.length:=bS ht3
 generalize hl3:H2.length=l3 at *
 clear x1 x2 x3 e1 e2 w₁ w2 up3
 show Rs _ _ (iE _ _ _ _)
 unfold iE
 refine oEA (kH e3) λchk3 hit3 hck3=>?_
 refine aA hit3 ?_
 have x4:Ext [] H3 (H3++[.list []]):=Ext.new
 have e4:(H3++[O.list []])[H3.length]?=some (.list []):=fA
 have w4:LW W (H3++[O.list []]) at_ []:=w3.ext x4 (Cov.p [] rfl)
 generalize hlm:H3.length=lm at *
 refine pP (λr H'=>∃a b mk at',names=a++b∧r=b.map V.str∧LW W H' at' []∧at'≤at_+a.length∧Ext [W.ls,lm] H3 H'∧H'[lm]?=some (.list (mk.map .str))∧mk.length≤a.length) (λr H' i=>?_) ?_ ?_ _ _ ⟨[],names,[],at_,rfl,rfl,w4,by simp,x4.cov (Cov.p [] rfl),e4,by exact Nat.le_refl _⟩
 ·refine bF i λa b mk at' U U U U z1=>?_;clear i;refine oA z1 λx U=>?_;clear z1
  exact hck3 _ (x.2 _ _ e3 (nmc (C.neHi 24 hB2 6 rfl) (nmc (Nat.ne_of_lt h23) (List.not_mem_nil))))
 ·intro H';refine qE λa z1=>?_;refine kY z1 λb marked at' e hr w' hat' x' z2=>?_;clear z1;refine oA z2 λe' hz'=>?_;clear z2
  cases b with
  |cons u v=>cases hr
  |nil=>
  have haz:a.length≤50:=by rw [List.append_nil] at e;rw [←e];exact nz
  have up':∀{z o},H3[z]?=some o→(W.B≤z∧z<lm∨z=W.n0+2∨z=W.n0+3)→H'[z]?=some o:=λh q=>x'.2 _ _ h (nmc (λe=>LP.own C (q.imp And.left id) [6] rfl (e▸List.mem_cons_self ..)) (nmc (q.elim (λa=>Nat.ne_of_lt a.2) λb=>b.elim (λe=>e▸(C.neHi 24 hB3 3 rfl).symm) λe=>e▸(C.neHi 24 hB3 4 rfl).symm) List.not_mem_nil))
  refine iH (up' hmk3 (.inr (.inr rfl))) λH5 n5 x5 e5=>?_
  have w₅:LW W H5 at' []:=w'.ext x5 (Cov.p [1] rfl)
  refine aA (bC e5) ?_
  have hm5:=x5.2 _ _ e' (C.outHi 24 hB3 [4] rfl)
  have mz:marked.length≤50:=(oz187 haz hz')
  refine gV (λr l H''=>EnvM l ρ∧∃a b gs,marked=a++b∧r=b.map V.str∧LW W H'' at' gs∧(∀x,x∈gs↔x∈a)∧gs.length≤a.length∧Ext [W.F.P.gl] H5 H'') hm5 (λr l H'' i=>?_) ⟨E,[],marked,[],rfl,rfl,w₅,by simp,by exact Nat.le_refl _,Ext.refl _ _⟩ ?_ ?_
  ·refine oA i λU z1=>?_;clear i;refine kY z1 λa b gs U U U U U x=>?_;clear z1
   exact x.2 _ _ hm5 (C.outHi 24 hB3 [10] rfl)
  ·intro l' H6;refine qI λE6 a6 b6 gs em hr6 w₆ hg U x6=>?_
   cases b6 with
   |cons u v=>cases hr6
   |nil=>
   rw [List.append_nil] at em
   subst em
   have lo_lt:W.B≤lo∧lo<lm:=⟨hlo,lo3⟩
   refine law7 (lo:=lo) (lm:=lm) w₆ (oz186 hat hat' haz) hW h1 h2 h3 h4 E6 ?_ (x6.2 _ _ (x5.2 _ _ (up' hdue3 (.inr (.inl rfl))) (C.out 3 [4] rfl)) (C.out 3 [10] rfl)) (x6.2 _ _ e5 (C.out 4 [10] rfl)) hB3 (x6.2 _ _ hm5 (C.outHi 24 hB3 [10] rfl)) hg ⟨et,x6.2 _ _ (x5.2 _ _ (up' ht3 (.inl lo_lt)) (C.outHi 24 hlo [4] rfl)) (C.outHi 24 hlo [10] rfl)⟩ hlo hT hb hS
   refine List.all_eq_true.mpr λq hq=>List.all_eq_true.mpr λy hy=>?_
   exact List.all_eq_true.mp (List.all_eq_true.mp hρ q hq) y (List.mem_append_left [aQ] hy)
  ·intro v r l' H6 j;refine qI λE6 a6 b6 gs em hr6 w₆ hg hgl x6=>?_;intro hj _ _
   cases b6 with
   |nil=>cases hr6
   |cons u b6=>
    cases hr6
    have haz6:a6.length≤50:=by rw [em,List.length_append] at mz;exact NB mz
    refine CL (d:=39) w₆ (oz185 haz6 hgl) h5 E6 (hρ.one k3) λl'' H7 E7 w7 x7=>hj _ _ ⟨E7,a6++[u],b6,_,by rw [em];simp,rfl,w7,λx=>?_,?_,x6.trans x7⟩
    ·by_cases c:u∈gs
     ·rw [if_pos c,hg,List.mem_append,List.mem_singleton]
      refine ⟨.inl,λq=>q.elim id λz=>?_⟩
      rw [z];exact (hg u).mp c
     ·rw [if_neg c,List.mem_append,List.mem_append,hg]
    ·rw [List.length_append]
     split
     ·exact oz184 hgl
     ·rw [List.length_append];simp;exact ND hgl
 ·intro v r H' i;refine qE λa z1=>?_;refine kY z1 λb mk at' e hr w' hat' x' z2=>?_;clear z1;refine oA z2 λe' hz'=>?_;clear z2;intro hn hs
  cases b with
  |nil=>cases hr
  |cons u b=>
   cases hr
   have haz:a.length≤50:=by rw [e,List.length_append] at nz;exact NB nz
   refine aA (bC w'.c0) ?_
   refine aZ (b8 (d:=39) w'.src (oz182 hat hat' haz) (by decide)) ?_ λc H' q=>q.elim
   intro v H5;refine dD λi' z1 U U n5 x5 S5=>?_;subst z1
   have w₅:=w'.draw x5 S5
   have e5:=w'.up_draw x5 (.inl hB3) e'
   have X:=x'.trans (x5.mono (T:=[W.ls,lm]) (by simp))
   refine aA F4 ?_
   refine fC (λc=>?_) λc=>hn _ (bW (a++[u]) b mk _ (by rw [e];simp) rfl w₅ (by simp;exact NC hat') (iAA X e5 (by simp;exact oz181 hz')))
   refine hs _ _ _ (dE e5) (by refine lm1 ?_;exact oz180 haz hz') (bW (a++[u]) b (mk++[u]) _ (by rw [e];simp) rfl (w₅.ext (Ext.set (S:=[lm]) k0) (Cov.f (hB3) (Cov.z))) (by simp;exact NC hat') (iAA (X.trans (Ext.set k1)) (by rw [jF e5];exact mp1) (by refine lb5 ?_;exact ND hz')))
end
end
section
section
variable {p:Params} {W:LP} {at_:Int}
noncomputable def qY(r:Row)(T:Tab Int):Int:=Nn T r.plus - Nn T r.minus+r.worth
theorem wU{d:Nat}:zU p (d+1) 554 V.int qY:=by
 intro H l t ep r hl h1 h2
 refine bD E_554 ?_
 have look:∀{z},has t z=true→aP (.s z) (aG V.int t)=some (.int (Nn t z)):=fun {z} h=>by
  rw [bZ]
  unfold has at h
  unfold Nn
  cases c:t.lookup z with
  |none=>rw [c] at h;cases h
  |some u=>rfl
 refine aA (dT (key:= .s r.plus) hl rfl (aI (aY _ _) _) (look h1)) (aA (dT (key:= .s r.minus) hl rfl (aI (aY _ _) _) (look h2)) (bA yD (bA jN ⟨rfl,rfl⟩)))
noncomputable def jC(grounds:TS):Tab Int:=(S_,0)::mW grounds 0
structure vB (W:LP):Prop where
 nd:(W.rows.map (·.name)).Nodup
 sz:W.rows.length≤6
 gz:W.grounds.length≤10
 gnd:W.grounds.Nodup
 gS:S_∉W.grounds
 rS:∀r∈W.rows,r.name≠S_
 rg:∀r∈W.rows,r.name∉W.grounds
 dep:∀r∈W.rows,(r.plus=S_∨r.plus∈W.grounds∨gF W.rows r.plus)∧(r.minus=S_∨r.minus∈W.grounds∨gF W.rows r.minus)
theorem AP{α:Type}{t:Tab α}{x:Str}:has t x=true↔x∈t.map (·.1):=by
 constructor
 ·intro h
  unfold has at h
  refine oE (Option.isSome_iff_exists.mp h) λv hv=>?_
  exact List.mem_map.mpr (iEA (x,v) (cV hv) rfl)
 ·intro h
  cases q:has t x with
  |true=>rfl
  |false=>
   refine oEA (List.mem_map.mp h) λu hu z1=>?_;subst z1
   unfold has at q
   cases z:t.lookup u.1 with
   |some v=>rw [z] at q;cases q
   |none=>
    have:=List.lookup_eq_none_iff.mp z u hu
    simp at this
theorem GX{a b:Tab Int}(h:a<+:b){x:Str}(hx:has a x=true):Nn b x=Nn a x:=by
 unfold Nn
 rw [qT h hx]
theorem LC(N:vB W):sJ W.rows (pG qY W.rows (jC W.grounds)):=by
 have hl:=tF (join:=qY) (rows:=W.rows) (jC W.grounds)
 have hbase:∀x,has (jC W.grounds) x=true↔x=S_∨x∈W.grounds:=λx=>by
  rw [AP]
  unfold jC
  rw [List.map_cons,iT,List.mem_cons]
 have up:∀{x},has (jC W.grounds) x=true→has (pG qY W.rows (jC W.grounds)) x=true:=λh=>gO hl.pre h
 refine {ty:=?_,fil:=λr hr hx=>?_,clo:=pB _,dep:=λr hr=>?_,row:=N.rS,nd:=N.nd,sz:=N.sz}
 ·exact nO hl.pre (by unfold jC;exact lk0)
 ·refine xB hl N.nd hr ?_ hx λt' hp h1 h2=>?_
  ·cases q:has (jC W.grounds) r.name with
   |false=>rfl
   |true=>
    rcases (hbase _).mp q with h|h
    ·exact absurd h (N.rS r hr)
    ·exact absurd h (N.rg r hr)
  ·show Nn t' r.plus - Nn t' r.minus+r.worth=Nn (pG qY W.rows (jC W.grounds)) r.plus - Nn (pG qY W.rows (jC W.grounds)) r.minus+r.worth
   rw [GX hp h1,GX hp h2]
 ·have key:∀x,(x=S_∨x∈W.grounds∨gF W.rows x)→has (pG qY W.rows (jC W.grounds)) x=true∨gF W.rows x:=λx h=>by
   rcases h with h|h|h
   ·exact .inl (up ((hbase x).mpr (.inl h)))
   ·exact .inl (up ((hbase x).mpr (.inr h)))
   ·exact .inr h
  exact ⟨key _ (N.dep r hr).1,key _ (N.dep r hr).2⟩
structure L4 (W:LP) (lo:Nat) (simple:Bool) (ρ:Lc):Prop where
 pls:(bY,V.loc W.lp)∈ρ
 fin:(aV,aU W.F)∈ρ
 rws:(cU,V.loc W.lr)∈ρ
 tld:(cB,V.loc lo)∈ρ
 prg:(aT,bG W.F.P)∈ρ
 smp:(bE,V.bool simple)∈ρ
 grd:(bX,V.loc W.lg)∈ρ
structure AZ (p:Params) (W:LP) (lo:Nat) (T':TT) (fb:Str→Bool):Prop where
 hW:xY W.F W.G W.pl W.rows fb
 hT:Told W.T W.rows T'
 hb:∀q∈W.pl,W.base.lookup q.1=some (some (q.2.1,q.2.2,S_))
 hS:∀D x,21≤D→Dm W.rows W.T x→eU p W.F W.G W.pl W.rows W.T D [] x
 hlo:W.B≤lo
 N:vB W
set_option maxHeartbeats 2000000 in
theorem law4 {lo:Nat} {fb:Str→Bool} {simple:Bool} {T':TT} {H:Hp} {l:Lc} {X:TX} {ρ:Lc} {c2 c3:TO} (w:LW W H at_ []) (hat:at_<2^37) (V7:L4 W lo simple ρ) (K:AZ p W lo T' fb) (hs:simple=true→∀r∈W.rows,r.minus=S_) (E:EnvM l ρ) (hρ:NoK ρ [dU,bO,aF,aQ,aW,fT,aH])
  (hdue:H[W.n0+2]?=some (.cell c2)) (hmk:H[W.n0+3]?=some (.cell c3)) (ht:∃ep,H[lo]?=some (.dict (aG VE T') ep)):
  Rs (λv H'=>v= .bool true∧H'[W.xs]?=some W.xo) X (vN p (aB (KK p) 40) W.n0 l H):=by
 have C:=w.ch
 have N:=K.N
 have gz:=N.gz
 refine oE ht λet ht=>?_
 refine aA (a:=aG V.int [(S_,0)]) rfl ?_
 refine dI λH1 n₁ x1 e1=>?_
 have w₁:LW W H1 at_ []:=w.ext x1 (Cov.p [] rfl)
 have hlo_lt:lo<H.length:=bS ht
 have hB:W.B≤H.length:=w.hB
 generalize hln:H.length=ln at *
 have E1:EnvM ((aW,.loc ln)::l) ((aW,.loc ln)::ρ):=EnvM.cons lk0 (E.put (hρ.one k4))
 have hρ1:∀y,y∈[dU,bO,aF,aQ,fT,aH]→(List.all ((aW,V.loc ln)::ρ) λq=>!(q.1==y))=true:=λy hy=>by
  have:ρ.all (λq=>!(q.1==y))=true:=hρ.one (by simp at hy ⊢;rcases hy with h|h|h|h|h|h<;>(first|exact v0 (by assumption)|exact v1 (by assumption)|exact v2 (by assumption)|exact v3 (by assumption)|exact v5 (by assumption)|exact w6 (by assumption)))
  show (!(aW==y)&&ρ.all _)=true
  rw [this,Bool.and_true]
  simp only [List.mem_cons,List.not_mem_nil,or_false] at hy
  rcases hy with rfl|rfl|rfl|rfl|rfl|rfl<;>kernel_rfl
 refine aA (E1.at (List.mem_cons_of_mem _ V7.grd)) ?_
 have hgl:(W.grounds.map V.str).length=W.grounds.length:=List.length_map _
 refine bA (kG w₁.gr (by rw [hgl];exact M9 gz)) ?_
 rw [hgl]
 have hi:((W.grounds.length:Nat):Int)<2^31:=(oz196 gz)
 with_reducible refine kW (Int.natCast_nonneg _) hi ?_
 rw [Int.toNat_natCast]
 have hit:=nU (H:=H1) (n:=W.grounds.length) (M9 gz)
 with_reducible refine lO (λr l H'=>EnvM l ((aW,.loc ln)::ρ)∧LW W H' at_ []∧Ext [ln] H1 H'∧∃(a:Nat) (ep:Nat),a≤W.grounds.length∧r=((List.range W.grounds.length).drop a).map (λ(i:Nat)=>V.int i)∧H'[ln]?=some (.dict (aG V.int ((S_,0)::mW (W.grounds.take a) 0)) ep)) hit ?_ ?_ ?_
 ·exact (cJ E1 w₁ (Ext.refl _ _) (eW 0 _ (SY) rfl e1))
 ·intro l' H2;refine wM λE2 w2 x2 a ep2 ha hr e2=>?_
  have ham:a=W.grounds.length:=by
   have:=congrArg List.length hr
   simp at this
   exact NL this ha
  rw [ham,List.take_length] at e2
  refine aA (E2.at (List.mem_cons_of_mem _ V7.rws)) (aA (E2.at (List.mem_cons_self ..)) ?_)
  have hbl:(jC W.grounds).length≤100:=by
   have:=congrArg List.length (iT W.grounds 0)
   unfold jC
   rw [List.length_map] at this
   rw [List.length_cons]
   exact oz194 this gz
  refine aZ (o0 (d:=39) (g:=554) (.inr rfl) (wU (d:=38)) w2.rw_ e2 hbl N.sz) ?_ λc H' q=>q.elim
  intro v H3;refine sS λz1 hlt x3 ep3 e3=>?_;subst z1
  have w3:LW W H3 at_ []:=w2.ext x3 (Cov.p [] rfl)
  have hB2:W.B≤H2.length:=w2.hB
  generalize hlnn:H2.length=lnn at *
  have E3:EnvM ((aW,.loc lnn)::l') ((aW,.loc lnn)::ρ):=λq hq=>by
   rcases List.mem_cons.mp hq with rfl|hq
   ·exact lk0
   ·have hne:(q.1==aW)=false:=by
     have:=List.all_eq_true.mp (hρ.one (y:=aW) k4) q hq
     simpa using this
    exact lk1 hne (E2 q (List.mem_cons_of_mem _ hq))
  have hρ3:∀y,y∈[dU,bO,aF,aQ,fT,aH]→(List.all ((aW,V.loc lnn)::ρ) λq=>!(q.1==y))=true:=λy hy=>hρ1 y hy
  have E3ρ:∀{l':Lc},EnvM l' ((aW,.loc lnn)::ρ)→EnvM l' ρ:=λE q hq=>E q (List.mem_cons_of_mem _ hq)
  have NW:=LC N
  refine aA (E3.at (List.mem_cons_of_mem _ V7.rws)) ?_
  have up:∀{z o},H[z]?=some o→z<ln→H3[z]?=some o:=λh q=>x3.2 _ _ (x2.2 _ _ (x1.2 _ _ h (List.not_mem_nil)) (nmc (Nat.ne_of_lt q) (List.not_mem_nil))) (List.not_mem_nil)
  refine gV (λr l H'=>EnvM l ((aW,.loc lnn)::ρ)∧LW W H' at_ []∧Ext [] H3 H'∧∃a b,W.rows=a++b∧r=b.map dH) w3.rw_ (λr l H' i=>i.2.1.rw_) (cJ E3 w3 (Ext.refl _ _) (dS ([]) W.rows rfl rfl)) ?_ ?_
  ·intro l'' H4;refine j4 λE4 w4 x4 U=>?_
   have up4:∀{z o},H[z]?=some o→z<ln→H4[z]?=some o:=λh q=>x4.2 _ _ (up h q) (List.not_mem_nil)
   refine law6 (lo:=lo) w4 hat K.hW V7.pls V7.fin V7.rws V7.tld V7.prg (E3ρ E4) ?_ (up4 hdue (Nat.lt_of_lt_of_le (C.lt 3 24 rfl) hB)) (up4 hmk (Nat.lt_of_lt_of_le (C.lt 4 24 rfl) hB)) ⟨et,up4 ht hlo_lt⟩ K.hlo K.hT K.hb λr hr=>K.hS 38 r.name NA (.inr (iEA r hr rfl))
   refine List.all_eq_true.mpr λq hq=>List.all_eq_true.mpr λy hy=>?_
   exact List.all_eq_true.mp (List.all_eq_true.mp hρ q hq) y (List.mem_append_left [aW,fT,aH] hy)
  ·intro v r l'' H4 j;refine AC λE4 w4 x4 a b e hr=>?_;intro hj hjc _
   cases b with
   |nil=>cases hr
   |cons u b=>
    cases hr
    have hstep:∀l5 H5,EnvM l5 ((aW,.loc lnn)::ρ)→LW W H5 at_ []→Ext [] H4 H5→EnvM l5 ((aW,.loc lnn)::ρ)∧LW W H5 at_ []∧Ext [] H3 H5∧∃a' b',W.rows=a'++b'∧b.map dH=b'.map dH:=λl5 H5 E5 w₅ x5=>(cJ E5 w₅ (x4.trans x5) (dS (a++[u]) b (by rw [e];simp) rfl))
    refine BS (d:=36) w4 (List.mem_cons_self ..) (List.mem_cons_of_mem _ V7.prg) (List.mem_cons_of_mem _ V7.smp) E4 ⟨hρ3 bO k1,hρ3 aH k5⟩ hB2 (by rw [e];exact List.mem_append_right _ k0) NW hs (x4.2 _ _ e3 (List.not_mem_nil)) (λl5 H5 E5 w₅ x5=>hj _ _ (hstep _ _ E5 w₅ x5)) (λl5 H5 E5 w₅ x5=>hjc _ _ (hstep _ _ E5 w₅ x5))
 ·intro v r l' H2 j;refine wM λE2 w2 x2 a ep2 ha hr e2=>?_;intro hj _ _
  have ham:a<W.grounds.length:=by
   have:=congrArg List.length hr
   simp at this
   exact NM this
  rw [lN ham,List.map_cons] at hr
  cases hr
  refine EN (ln:=ln) w2 (List.mem_cons_self ..) (List.mem_cons_of_mem _ V7.grd) E2 (hρ1 fT k4) hB ham (oz192 gz) N.gnd N.gS e2 λl'' H3 ep3 E₃ w3 x3 e3=>hj _ _ (cJ E₃ w3 (x2.trans x3) (eW (a+1) ep3 ham rfl e3))
end
end
section
section variable {simple:Bool} {ρ:Lc}
variable {p:Params} {W:LP} {at_:Int}
theorem NoK.sub{ns ms:TS}(h:NoK ρ ns)(hs:∀y∈ms,y∈ns):NoK ρ ms:=List.all_eq_true.mpr λq hq=>List.all_eq_true.mpr λy hy=>List.all_eq_true.mp (List.all_eq_true.mp h q hq) y (hs y hy)
noncomputable abbrev NS3:TS:=[dU,bO,aF,aQ,aW,fT,aH,cT,cN,cF,aX,hU]
structure GV (W:LP) (pool:TS):Prop where
 pos:0<pool.length
 sz:pool.length≤60
 dm:∀x∈pool,Dm W.rows W.T x
set_option maxHeartbeats 2000000 in
theorem law3 {lo lq:Nat} {pool:TS} {fb:Str→Bool} {T':TT} {H:Hp} {l:Lc} {X:TX} {c2 c3:TO} (w:LW W H at_ []) (hat:at_<2^36) (V7:L4 W lo simple ρ) (hp:(eE,.loc lq)∈ρ) (K:AZ p W lo T' fb) (hs:simple=true→∀r∈W.rows,r.minus=S_) (hty:W.T.lookup S_=some (some (d5,0,S_))) (E:EnvM l ρ) (hρ:NoK ρ NS3)
  (hpo:GV W pool) (hlq:W.B≤lq) (hq:H[lq]?=some (.list (pool.map .str)))
  (hdue:H[W.n0+2]?=some (.cell c2)) (hmk:H[W.n0+3]?=some (.cell c3)) (ht:∃ep,H[lo]?=some (.dict (aG VE T') ep)):
  Rs (λv H'=>v= .bool true∧H'[W.xs]?=some W.xo) X (p7 p (aB (KK p) 40) W.n0 l H):=by
 have C:=w.ch
 refine oE ht λet ht=>?_
 have hlo:=K.hlo
 have hpz:=hpo.sz
 unfold p7
 with_reducible refine kW (i:=4) (by decide) (by decide) ?_
 rw [show Int.toNat 4=4 from rfl]
 have hit:=nU (H:=H) (n:=4) (by decide)
 have all4:(ρ.all λq=>!(q.1==cT)&&!(q.1==cN)&&!(q.1==cF)&&!(q.1==aX)&&!(q.1==hU)&&!(q.1==bO))=true:=List.all_eq_true.mpr λq hq=>by
  have h:=λy hy=>List.all_eq_true.mp (hρ.one (y:=y) hy) q hq
  rw [h cT k7,h cN k8,h cF k9,h aX k10,h hU k11,h bO k1];rfl
 have S:=[W.ls,W.n0+2,W.F.kn,W.F.fl]
 with_reducible refine lO (λr l H'=>EnvM l ρ∧∃at' c',LW W H' at' []∧at'+4*r.length≤at_+16∧Ext [W.ls,W.n0+2,W.F.kn,W.F.fl] H H'∧H'[W.n0+2]?=some (.cell c')) hit ?_ ?_ ?_
 ·exact ⟨E,at_,c2,w,by simp,Ext.refl _ _,hdue⟩
 ·intro l' H1;refine AA λE1 at' c' w₁ hat' x1 hd1=>?_
  exact law4 (lo:=lo) w₁ (by simp at hat';exact oz210 hat hat') V7 K hs E1 (hρ.sub λy hy=>List.mem_append_left [cT,cN,cF,aX,hU] hy) hd1 (x1.2 _ _ hmk (C.out 4 [6,3,21,22] rfl)) ⟨et,x1.2 _ _ ht (C.outHi 24 hlo [6,3,21,22] rfl)⟩
 ·intro v r l' H1 j;refine AA λE1 at' c' w₁ hat' x1 hd1=>?_;intro hj _ _
  rw [List.length_cons] at hat'
  refine CQ (d:=36) w₁ (oz209 hat' hat) V7.fin V7.tld hp E1 all4 hlo hlq ⟨et,x1.2 _ _ ht (C.outHi 24 hlo [6,3,21,22] rfl)⟩ (x1.2 _ _ hq (C.outHi 24 hlq [6,3,21,22] rfl)) hpo.pos (oz208 hpz) K.hT hpo.dm hty (λx hx=>K.hS 37 x oz207 hx) (λx hx=>K.hS 38 x NA hx) hd1 λl'' H2 at2 c₂ E2 w2 hat2 x2 hd2=>hj _ _ ⟨E2,at2,c₂,w2,(oz206 hat' hat2),x1.trans x2,hd2⟩
noncomputable abbrev NS2:TS:=[dU,bO,aF,aQ,aW,fT,aH,cT,cN,cF,aX,hU,eE]
set_option maxHeartbeats 2000000 in
theorem law2 {lo:Nat} {fb:Str→Bool} {T':TT} {H:Hp} {l:Lc} {X:TX} {c2 c3:TO} (w:LW W H at_ []) (hat:at_<2^35) (V7:L4 W lo simple ρ) (K:AZ p W lo T' fb) (hs:simple=true→∀r∈W.rows,r.minus=S_) (hty:W.T.lookup S_=some (some (d5,0,S_))) (hgr:∀x∈W.grounds,has W.T x=true) (E:EnvM l ρ) (hρ:NoK ρ NS2)
  (hdue:H[W.n0+2]?=some (.cell c2)) (hmk:H[W.n0+3]?=some (.cell c3)) (ht:∃ep,H[lo]?=some (.dict (aG VE T') ep)):
  Rs (λv H'=>v= .bool true∧H'[W.xs]?=some W.xo) X (vQ p (aB (KK p) 40) W.n0 l H):=by
 have C:=w.ch
 refine oE ht λet ht=>?_
 have hlo:=K.hlo
 have hloH:=bS ht
 have gz:=K.N.gz
 have rz:=K.N.sz
 refine dI λH1 n₁ x1 e1=>?_
 have w₁:LW W H1 at_ []:=w.ext x1 (Cov.p [] rfl)
 refine aA (E.at V7.grd) ?_
 refine nN (xs:=[V.str S_]) e1 w₁.gr (by refine lb2 ?_;exact oz205 gz) λH2 n₂ x2 e2=>?_
 have w2:LW W H2 at_ []:=w₁.ext x2 (Cov.p [] rfl)
 refine aA (E.at V7.rws) ?_
 refine oEA (kH w2.rw_) λchk hit hck=>?_
 refine gN (λv=>match v with| .tup (a::_)=>some a|_=>none) w2.rw_ hit hck (by refine lm1 ?_;exact oz204 rz) ?_ ?_
 ·intro v hv H' i x h
  refine oEA (List.mem_map.mp hv) λr hr z1=>?_;subst z1
  exact r_t rfl (aA gC h)
 intro H3 n3 x3 e3
 rw [B0 _ dH (λr=>V.str r.name) _ λa U=>rfl] at e3
 refine nN (x3.2 _ _ e2 (List.not_mem_nil)) e3 (by simp;exact oz203 gz rz) λH4 n4 x4 e4=>?_
 have w3:LW W H3 at_ []:=w2.ext x3 (Cov.p [] rfl)
 have w4:LW W H4 at_ []:=w3.ext x4 (Cov.p [] rfl)
 have hB3:W.B≤H3.length:=w3.hB
 obtain ⟨pool,hpool⟩:∃pool:TS,pool=S_::W.grounds++W.rows.map (·.name):=⟨_,rfl⟩
 have e4:H4[H3.length]?=some (.list (pool.map .str)):=by rw [e4,hpool];exact mp6
 have hDS:Dm W.rows W.T S_:= .inl (by unfold has;rw [hty];rfl)
 have hpo:GV W pool:=by
  refine ⟨by rw [hpool];exact Nat.zero_lt_succ _,by rw [hpool];simp;exact oz202 gz rz,λx hx=>?_⟩
  rw [hpool] at hx
  rcases List.mem_append.mp hx with hx|hx
  ·rcases List.mem_cons.mp hx with hx|hx
   ·rw [hx];exact hDS
   ·exact .inl (hgr x hx)
  ·refine oEA (List.mem_map.mp hx) λr hr z1=>?_;subst z1
   exact .inr (iEA r hr rfl)
 have up:∀{z o},H[z]?=some o→H4[z]?=some o:=λh=>x4.2 _ _ (x3.2 _ _ (x2.2 _ _ (x1.2 _ _ h (List.not_mem_nil)) (List.not_mem_nil)) (List.not_mem_nil)) (List.not_mem_nil)
 have hq3:H3.length<H4.length:=(wS n4)
 generalize hlq:H3.length=lq at *
 have E1:EnvM ((eE,.loc lq)::l) ((eE,.loc lq)::ρ):=EnvM.cons lk0 (E.put (hρ.one k12))
 have hρ3:NoK ((eE,V.loc lq)::ρ) NS3:=by
  have h1:=hρ.sub (ms:=NS3) λy hy=>List.mem_append_left [eE] hy
  show (NS3.all (λy=>!(eE==y))&&ρ.all _)=true
  rw [show (ρ.all λq=>NS3.all λy=>!(q.1==y))=true from h1,Bool.and_true]
  kernel_rfl
 have V8:L4 W lo simple ((eE,V.loc lq)::ρ):=⟨List.mem_cons_of_mem _ V7.pls,List.mem_cons_of_mem _ V7.fin,List.mem_cons_of_mem _ V7.rws,List.mem_cons_of_mem _ V7.tld,List.mem_cons_of_mem _ V7.prg,List.mem_cons_of_mem _ V7.smp,List.mem_cons_of_mem _ V7.grd⟩
 have hpz:=hpo.sz
 refine gV (λr l H'=>EnvM l ((eE,.loc lq)::ρ)∧∃a b at' c',pool=a++b∧r=b.map V.str∧LW W H' at' []∧at'≤at_+a.length∧Ext [W.ls,W.n0+2,W.F.kn,W.F.fl] H4 H'∧H'[W.n0+2]?=some (.cell c')) e4 (λr l H' i=>?_) ⟨E1,[],pool,at_,c2,rfl,rfl,w4,by simp,Ext.refl _ _,up hdue⟩ ?_ ?_
 ·refine oA i λU z1=>?_;clear i;refine bF z1 λa b at' c' U U U U z2=>?_;clear z1;refine oA z2 λx U=>?_;clear z2
  exact x.2 _ _ e4 (C.outHi 24 hB3 [6,3,21,22] rfl)
 ·intro l' H5;refine qA λE5 z1=>?_;refine bF z1 λa b at' c' e hr w₅ hat' z2=>?_;clear z1;refine oA z2 λx5 hd5=>?_;clear z2
  have haz:a.length≤60:=by rw [e,List.length_append] at hpz;exact M8 hpz
  exact law3 (lo:=lo) (lq:=lq) w₅ (oz201 hat hat' haz) V8 (List.mem_cons_self ..) K hs hty E5 hρ3 hpo hB3 (x5.2 _ _ e4 (C.outHi 24 hB3 [6,3,21,22] rfl)) hd5 (x5.2 _ _ (up hmk) (C.out 4 [6,3,21,22] rfl)) ⟨et,x5.2 _ _ (up ht) (C.outHi 24 hlo [6,3,21,22] rfl)⟩
 ·intro v r l' H5 j;refine qA λE5 z1=>?_;refine bF z1 λa b at' c' e hr w₅ hat' z2=>?_;clear z1;refine oA z2 λx5 hd5=>?_;clear z2;intro hj _ _
  cases b with
  |nil=>cases hr
  |cons u b=>
   cases hr
   have haz:a.length≤60:=by rw [e,List.length_append] at hpz;exact M8 hpz
   have hu:=hpo.dm u (by rw [e];exact List.mem_append_right _ k0)
   refine BR (d:=39) (lo:=lo) w₅ (oz199 hat hat' haz) V8.fin V8.tld E5 ⟨hρ3.one k3,hρ3.one k10⟩ hlo ⟨et,x5.2 _ _ (up ht) (C.outHi 24 hlo [6,3,21,22] rfl)⟩ K.hT hu (K.hS 39 u oz198 hu) hd5 λl'' H6 at6 c6 E6 w₆ hat6 x6 hd6=>hj _ _ ⟨E6,a++[u],b,at6,c6,by rw [e];simp,rfl,w₆,by simp;exact oz197 hat' hat6,x5.trans x6,hd6⟩
end
end
section variable {x:Str}
theorem tB:∀{l:TS},l.Nodup→x∉l→(j6 x l).Nodup
 |[],_,_=>by unfold j6;exact ndo
 |z::r,h,hx=>by
  rw [List.nodup_cons] at h
  unfold j6
  split
  ·refine List.nodup_cons.mpr ⟨λq=>?_,tB h.2 λq=>hx (List.mem_cons_of_mem _ q)⟩
   rcases uI q with q|q
   ·exact hx (by rw [q];exact List.mem_cons_self ..)
   ·exact h.1 q
  ·exact List.nodup_cons.mpr ⟨hx,List.nodup_cons.mpr h⟩
theorem qS:∀{l:TS},l.Nodup→(cI l).Nodup
 |[],h=>h
 |z::r,h=>by
  rw [List.nodup_cons] at h
  exact tB (qS h.2) λq=>h.1 (iW q)
noncomputable def hdS(x:Str):Option Nat:=x.cps[0]?
noncomputable def fbS(x:Str):Bool:=match hdS x with
 |some n=>!(n==48)
 |none=>true
theorem FP{c:Nat}(h:LabName c x):hdS x=some c:=by
 rcases h with ⟨k,_,rfl⟩|rfl<;>rfl
theorem FM(h:x∈NAMES):hdS x=some 101∨hdS x=some 48∨hdS x=some 122:=by
 unfold NAMES at h
 simp only [List.mem_cons,List.not_mem_nil,or_false] at h
 rcases h with rfl|rfl|rfl|rfl|rfl|rfl
 ·exact .inl rfl
 ·exact .inl rfl
 ·exact .inr (.inl rfl)
 ·exact .inl rfl
 ·exact .inr (.inl rfl)
 ·exact .inr (.inr rfl)
theorem xJ(h:x∈NAMES):nF x (fbS x):=by
 unfold NAMES at h
 simp only [List.mem_cons,List.not_mem_nil,or_false] at h
 rcases h with rfl|rfl|rfl|rfl|rfl|rfl
 ·exact (cM ⟨#[101]⟩ (λH=>by kernel_rfl) (λH=>by kernel_rfl) (λH=>(iEA ⟨#[101]⟩ (by kernel_rfl) (by kernel_rfl))))
 ·exact (cM ⟨#[101]⟩ (λH=>by kernel_rfl) (λH=>by kernel_rfl) (λH=>(iEA ⟨#[101]⟩ (by kernel_rfl) (by kernel_rfl))))
 ·exact (cM ⟨#[48]⟩ (λH=>by kernel_rfl) (λH=>by kernel_rfl) (λH=>(iEA ⟨#[48]⟩ (by kernel_rfl) (by kernel_rfl))))
 ·exact (cM ⟨#[101]⟩ (λH=>by kernel_rfl) (λH=>by kernel_rfl) (λH=>(iEA ⟨#[101]⟩ (by kernel_rfl) (by kernel_rfl))))
 ·exact (cM ⟨#[48]⟩ (λH=>by kernel_rfl) (λH=>by kernel_rfl) (λH=>(iEA ⟨#[48]⟩ (by kernel_rfl) (by kernel_rfl))))
 ·exact (cM ⟨#[122]⟩ (λH=>by kernel_rfl) (λH=>by kernel_rfl) (λH=>(iEA ⟨#[122]⟩ (by kernel_rfl) (by kernel_rfl))))
theorem nodup_names:NAMES.Nodup:=by
 have:(NAMES.map (λx=>x.cps.toList)).Nodup:=by
  have e:NAMES.map (λx=>x.cps.toList)=[[101,48],[101,49],[48,104],[101,51],[48,45,107],[122,53]]:=rfl
  rw [e];decide
 rw [List.Nodup,List.pairwise_map] at this
 exact this.imp λh q=>h (by rw [q])
structure Data (pl:Pl) (qa qb:QL) (grounds:TS) (rows:List Row) (simple:Bool):Prop where
 po:PlOk pl qa qb
 gr:grounds=cI (pl.map (·.1))++[S_u,S_w]
 sz:rows.length≤6
 nm:rows.map (·.name)=NAMES.take rows.length
 ok:∀r∈rows,BC grounds (NAMES.take rows.length) simple r
noncomputable def base0:TT:=[(S_,some (d5,0,S_)),(S_u,some (S_,0,S_u)),(S_w,some (S_,0,S_w))]
noncomputable def pF(pl:Pl):TT:=pl.map λq=>(q.1,some (q.2.1,q.2.2,S_))
noncomputable def gK(pl:Pl):TT:=base0++pF pl
noncomputable def fL(pl:Pl)(rows:List Row):TT:=pG cC rows (gK pl)
section
variable {pl:Pl} {qa qb:QL} {grounds:TS} {rows:List Row} {simple:Bool}
theorem PlOk.lab(h:PlOk pl qa qb){x:Str}(hx:x∈pl.map (·.1)):hdS x=some 116∨hdS x=some 100:=by
 rw [h.e,List.map_append,gE,gE] at hx
 rcases List.mem_append.mp hx with hx|hx
 ·refine oEA (List.mem_map.mp hx) λu hu z1=>?_;subst z1
  exact .inl (FP (h.a2 u hu))
 ·refine oEA (List.mem_map.mp hx) λu hu z1=>?_;subst z1
  exact .inr (FP (h.b2 u hu))
theorem PlOk.len(h:PlOk pl qa qb):pl.length≤8:=by
 have a:=h.a4;have b:=h.b4
 rw [h.e];unfold qPl;refine la1 ?_;exact oz213 a b
theorem Data.name(D:Data pl qa qb grounds rows simple){r:Row}(hr:r∈rows):r.name∈NAMES:=by
 have:r.name∈rows.map (·.name):=List.mem_map.mpr (iEA r hr rfl)
 rw [D.nm] at this
 exact List.mem_of_mem_take this
theorem Data.nd(D:Data pl qa qb grounds rows simple):(rows.map (·.name)).Nodup:=by
 rw [D.nm];exact nodup_names.sublist (List.take_sublist _ _)
theorem Data.row(D:Data pl qa qb grounds rows simple){x:Str}(hx:x∈NAMES.take rows.length):gF rows x:=by
 rw [←D.nm] at hx
 refine oEA (List.mem_map.mp hx) λr hr z1=>?_;subst z1
 exact (iEA r hr rfl)
theorem Data.gmem(D:Data pl qa qb grounds rows simple){x:Str}(hx:x∈grounds):x∈pl.map (·.1)∨x=S_u∨x=S_w:=by
 rw [D.gr] at hx
 rcases List.mem_append.mp hx with hx|hx
 ·exact .inl (iW hx)
 ·simp at hx;exact .inr hx
theorem rK(h:PlOk pl qa qb){x:Str}:has (gK pl) x=true↔x=S_∨x=S_u∨x=S_w∨x∈pl.map (·.1):=by
 rw [AP]
 unfold gK base0 pF
 rw [List.map_append,List.map_map]
 simp only [List.map_cons,List.map_nil,List.mem_append,List.mem_cons,List.not_mem_nil,or_false,or_assoc]
 rfl
theorem xS(h:PlOk pl qa qb){x t:Str}{o:Int}(hx:(x,(t,o))∈pl):(gK pl).lookup x=some (some (t,o,S_)):=by
 have hd:=h.lab (List.mem_map.mpr (iEA _ hx rfl))
 have ne:∀{y:Str},(hdS y≠some 116∧hdS y≠some 100)→(x==y)=false:=fun {y} hy=>beq_false_of_ne λq=>by
  rw [q] at hd
  exact hd.elim hy.1 hy.2
 have e0:base0.lookup x=none:=by
  unfold base0
  rw [List.lookup_cons,ne ⟨by decide,by decide⟩,List.lookup_cons,ne ⟨by decide,by decide⟩,List.lookup_cons,ne ⟨by decide,by decide⟩];rfl
 unfold gK
 rw [nR,e0,Option.none_or]
 refine dF ?_ ?_
 ·unfold pF;rw [List.map_map];exact h.nd
 ·unfold pF;exact List.mem_map.mpr (iEA _ hx rfl)
theorem CB{t T:TT}(hp:t<+:T){r:Row}(h1:has t r.plus=true)(h2:has t r.minus=true):cC r t=cC r T:=by
 have e:∀{x},has t x=true→bP t x=bP T x:=fun {x} hx=>by
  unfold bP
  rw [qT hp hx]
 unfold cC
 rw [e h1,e h2]
theorem Data.sep(D:Data pl qa qb grounds rows simple){r:Row}(hr:r∈rows):r.name≠S_∧r.name≠S_u∧r.name≠S_w∧r.name∉pl.map (·.1):=by
 have h:=FM (D.name hr)
 refine (cJ (λq=>?_) (λq=>?_) (λq=>?_) (λq=>?_))
 ·rw [q] at h;revert h;decide
 ·rw [q] at h;revert h;decide
 ·rw [q] at h;revert h;decide
 ·have h2:=D.po.lab q
  rcases h with h|h|h<;>rcases h2 with h2|h2<;>rw [h] at h2<;>cases h2
theorem Data.base_row(D:Data pl qa qb grounds rows simple){r:Row}(hr:r∈rows):has (gK pl) r.name=false:=by
 refine yR (D.sep hr) λs1 s2 s3 s4=>?_
 cases q:has (gK pl) r.name with
 |false=>rfl
 |true=>
  rcases (rK D.po).mp q with h|h|h|h
  ·exact absurd h s1
  ·exact absurd h s2
  ·exact absurd h s3
  ·exact absurd h s4
theorem Data.told(D:Data pl qa qb grounds rows simple):Laid cC rows (gK pl) (fL pl rows):=tF _
theorem Data.gT(D:Data pl qa qb grounds rows simple){x:Str}(hx:x∈grounds):has (fL pl rows) x=true:=by
 refine gO D.told.pre ((rK D.po).mpr ?_)
 rcases D.gmem hx with h|h|h
 ·exact .inr (.inr (.inr h))
 ·exact .inr (.inl h)
 ·exact .inr (.inr (.inl h))
theorem Data.ty(D:Data pl qa qb grounds rows simple):(fL pl rows).lookup S_=some (some (d5,0,S_)):=nO D.told.pre (by unfold gK base0;exact lk0)
theorem Data.finW(D:Data pl qa qb grounds rows simple):FinW rows pl (fL pl rows):=by
 have hST:has (fL pl rows) S_=true:=by unfold has;rw [D.ty];rfl
 refine {ty:=D.ty,lab:=λx t o h=>?_,opn:=λx h1 h2 h3 h4=>?_,row:=λr hr=>⟨(D.sep hr).1,?_⟩,fil:=λr hr hx=>xB D.told D.nd hr (D.base_row hr) hx λt' hp a b=>CB hp a b,clo:=pB _,dep:=λr hr=>?_,sz:=D.sz}
 ·have hm:=cV h
  refine (iAA (λq=>?_) (λq=>?_) (nO D.told.pre (xS D.po hm)))
  ·have:=D.po.lab (List.mem_map.mpr (iEA _ hm rfl))
   dsimp only at this
   rw [q] at this;revert this;decide
  ·rw [D.po.e] at hm
   rcases List.mem_append.mp hm with hm|hm
   ·unfold qPl at hm
    refine oEA (List.mem_map.mp hm) λu U e=>?_
    cases e
    have:hdS aE=hdS S_:=by rw [q]
    revert this;decide
   ·unfold qPl at hm
    refine oEA (List.mem_map.mp hm) λu U e=>?_
    cases e
    have:hdS aJ=hdS S_:=by rw [q]
    revert this;decide
 ·rcases E9 D.told h4 with h|⟨r,hr,h⟩
  ·rcases (rK D.po).mp h with h|h|h|h
   ·exact absurd h h1
   ·subst h
    refine nO D.told.pre ?_
    unfold gK base0
    exact lk1 (by kernel_rfl) lk0
   ·subst h
    refine nO D.told.pre ?_
    unfold gK base0
    exact lk1 (by kernel_rfl) (lk1 (by kernel_rfl) lk0)
   ·refine oEA (List.mem_map.mp h) λu hu z1=>?_;subst z1
    have:=List.lookup_eq_none_iff.mp h2 u hu
    simp at this
  ·exact absurd h (h3 r hr)
 ·cases q:pl.lookup r.name with
  |none=>rfl
  |some v=>exact absurd (List.mem_map.mpr ⟨_,cV q,rfl⟩) (D.sep hr).2.2.2
 ·have key:∀x,(x=S_∨x∈grounds∨x∈NAMES.take rows.length)→Dm rows (fL pl rows) x:=λx h=>by
   rcases h with h|h|h
   ·rw [h];exact .inl hST
   ·exact .inl (D.gT h)
   ·exact .inr (D.row h)
  exact ⟨key _ (D.ok r hr).1,key _ (D.ok r hr).2.1⟩
theorem Data.glen(D:Data pl qa qb grounds rows simple):grounds.length≤10:=by
 have:=D.po.len
 rw [D.gr,List.length_append,fQ,List.length_map];simp;exact EC this
theorem Data.names(D:Data pl qa qb grounds rows simple)(W:LP)(h1:W.rows=rows)(h2:W.grounds=grounds):vB W:=by
 subst h1 h2
 refine {nd:=D.nd,sz:=D.sz,gz:=D.glen,gnd:=?_,gS:=λq=>?_,rS:=λr hr=>(D.sep hr).1,rg:=λr hr q=>?_,dep:=λr hr=>?_}
 ·rw [D.gr,List.nodup_append]
  refine (iAA (qS D.po.nd) ?_ (λx hx y hy e=>?_))
  ·rw [List.nodup_cons]
   refine ⟨λq=>?_,by exact ndo⟩
   rw [List.mem_singleton] at q
   have:hdS S_u=hdS S_w:=by rw [q]
   revert this;decide
  ·have:=D.po.lab (iW hx)
   simp at hy
   rw [e] at this
   rcases hy with rfl|rfl<;>(revert this;decide)
 ·rcases D.gmem q with h|h|h
  ·have:=D.po.lab h;revert this;decide
  ·have:hdS S_=hdS S_u:=by rw [h]
   revert this;decide
  ·have:hdS S_=hdS S_w:=by rw [h]
   revert this;decide
 ·refine yR (D.sep hr) λs1 s2 s3 s4=>?_
  rcases D.gmem q with h|h|h
  ·exact s4 h
  ·exact s2 h
  ·exact s3 h
 ·exact ⟨(D.ok r hr).1.imp id (Or.imp id D.row),(D.ok r hr).2.1.imp id (Or.imp id D.row)⟩
theorem Data.symW(D:Data pl qa qb grounds rows simple){F:FN}{G:GD}(h1:G.est.map (·.1)=(qPl aE qa).map λq=>Key.s q.1)(h2:G.esd.map (·.1)=(qPl aJ qb).map λq=>Key.s q.1):xY F G pl rows fbS:=by
 have hl:=D.po.len
 have hs:=D.sz
 refine {split:=(eW _ _ D.po.e h1 h2),one:=λq hq=>⟨?_,dF D.po.nd hq⟩,row:=λr hr=>xJ (D.name hr),nd:=?_,sz:=by exact oz211 hs hl}
 ·have:q.1∈pl.map (·.1):=List.mem_map.mpr (iEA q hq rfl)
  rw [D.po.e,List.map_append,gE,gE] at this
  rcases List.mem_append.mp this with h|h
  ·refine oEA (List.mem_map.mp h) λu hu e=>?_
   rw [←e];exact xI (.inl rfl) (D.po.a2 u hu)
  ·refine oEA (List.mem_map.mp h) λu hu e=>?_
   rw [←e];exact xI (.inr rfl) (D.po.b2 u hu)
 ·rw [List.nodup_append]
  refine (iAA D.po.nd D.nd (λx hx y hy e=>?_))
  refine oEA (List.mem_map.mp hy) λr hr z1=>?_;subst z1
  exact (D.sep hr).2.2.2 (by rw [←e];exact hx)
noncomputable def kS:List Row→TT→TT
 |[],t=>t
 |r::q,t=>kS q (if has t r.name then t else t++[(r.name,none)])
theorem DI(t:TT)(x y:Str):bP (t++[(y,none)]) x=bP t x:=by
 unfold bP
 rw [nR]
 cases q:t.lookup x with
 |some v=>rfl
 |none=>
  rw [Option.none_or,List.lookup_cons]
  cases x==y<;>rfl
theorem tQ:∀(q:List Row) (t:TT) (x:Str),bP (kS q t) x=bP t x
 |[],t,x=>rfl
 |r::q,t,x=>by
  unfold kS
  rw [tQ q]
  split
  ·rfl
  ·exact DI t x r.name
theorem rL:∀(q:List Row) (t:TT),t<+:kS q t
 |[],t=>List.prefix_refl _
 |r::q,t=>by
  unfold kS
  refine List.IsPrefix.trans ?_ (rL q _)
  split
  ·exact List.prefix_refl _
  ·exact List.prefix_append _ _
theorem xT:∀(q:List Row) (t:TT) {r:Row},r∈q→has (kS q t) r.name=true
 |[],t,r,h=>by cases h
 |a::q,t,r,h=>by
  rcases List.mem_cons.mp h with rfl|h
  ·show has (kS q (if has t r.name then t else t++[(r.name,none)])) r.name=true
   refine gO (rL q _) ?_
   split
   ·assumption
   ·rw [m0]
    have:has [(r.name,(none:Option Ent))] r.name=true:=by unfold has;rw [lk0];rfl
    rw [this,Bool.or_true]
  ·exact xT q _ h
theorem Data.toldW(D:Data pl qa qb grounds rows simple):Told (fL pl rows) rows (kS rows (fL pl rows)):=
 ⟨λx=>tQ _ _ x,λx h=>by
  rcases h with h|⟨r,hr,rfl⟩
  ·exact gO (rL _ _) h
  ·exact xT _ _ hr⟩
end
end
section
section
variable {p:Params} {W:LP} {at_:Int}
theorem GM(a:List Row)(t:TT)(r:Row):kS (a++[r]) t=if has (kS a t) r.name then kS a t else kS a t++[(r.name,none)]:=by
 induction a generalizing t with
 |nil=>rfl
 |cons b q ih=>exact ih _
theorem xU:∀(q:List Row) (t:TT),(kS q t).length≤t.length+q.length
 |[],t=>Nat.le_refl _
 |r::q,t=>by
  unfold kS
  refine Nat.le_trans (xU q _) ?_
  split
  ·simp
  ·simp;exact oz219
theorem sM{α:Type}{join:Row→Tab α→α}{rows:List Row}:∀(n:Nat) (t:Tab α),(jK join rows n t).length≤t.length+n*rows.length
 |0,t=>by exact Nat.le_add_right _ _
 |n+1,t=>by
  have rl:∀(q:List Row) (t:Tab α),(dA join q t).length≤t.length+q.length:=by
   intro q
   induction q with
   |nil=>intro t;exact Nat.le_refl _
   |cons r q ih=>
    intro t
    exact Nat.le_trans (ih (d4 join t r)) (Nat.le_trans (Nat.add_le_add_right (vF (join:=join) (t:=t) (r:=r)) _) (Nat.le_of_eq (Nat.add_right_comm _ 1 _)))
  have h1:=sM (join:=join) (rows:=rows) n (dA join rows t)
  have h2:=rl rows t
  rw [Nat.succ_mul]
  show (jK join rows n (dA join rows t)).length≤_
  exact oz218 h1 h2
theorem GL {cf:CF} {lo:Nat} {r:Row} {t:TT} {H:Hp} {l:Lc} {PP:TP} {X:TX} {j:TK} {ρ:Lc} (w:LW W H at_ []) (h1:(cB,.loc lo)∈ρ) (E:EnvM l ρ) (hρ:ρ.all (λq=>!(q.1==bO))=true) (hlo:W.B≤lo) {ep:Nat} (ht:H[lo]?=some (.dict (aG VE t) ep)) (hz:t.length≤500)
  (hj:∀l' H' ep',EnvM l' ρ→LW W H' at_ []→Ext [lo] H H'→H'[lo]?=some (.dict (aG VE (if has t r.name then t else t++[(r.name,none)])) ep')→Rs PP X (j .next l' H')):
  Rs PP X (vR p cf W.n0 (dH r) l H j):=by
 have E1:EnvM ((bO,dH r)::l) ρ:=E.put hρ
 refine eF (λl' H'=>EnvM l' ρ∧LW W H' at_ []∧Ext [lo] H H'∧∃ep',H'[lo]?=some (.dict (aG VE (if has t r.name then t else t++[(r.name,none)])) ep')) ?_ λk hk=>?_
 ·intro l' H';refine sS λa b c ep' e=>?_
  exact hj _ _ _ a b c e
 refine aA gC (aA (E1.at h1) (aA (hZ (key:= .s r.name) ht rfl (aI (aY _ _) _)) ?_))
 have:(aP (.s r.name) (aG VE t)).isSome=has t r.name:=by rw [bZ];unfold has;cases List.lookup r.name t<;>rfl
 rw [this]
 cases c:has t r.name with
 |true=>exact r_f rfl (hk _ _ (cJ E1 w (Ext.refl _ _) ⟨ep,by rw [c];exact ht⟩))
 |false=>
  refine r_t rfl (aA (E1.at h1) (aA gC ?_))
  refine gD (key:= .s r.name) rfl ht (by rw [dO];exact NF hz) (aI (aY _ _) _) λH3 ep3 n3 x3 e3=>?_
  refine hk _ _ (cJ E1 (w.ext x3 (Cov.f (hlo) (Cov.z))) x3 ⟨ep3,?_⟩)
  rw [c]
  have:=dB VE t c none
  rw [show VE none=V.str dK from rfl] at this
  rw [e3,this];rfl
noncomputable abbrev NS1:TS:=[dU,bO,aF,aQ,aW,fT,aH,cT,cN,cF,aX,hU,eE,cB]
set_option maxHeartbeats 2000000 in
theorem law1 {qa qb:QL} {simple:Bool} {H:Hp} {l:Lc} {X:TX} {ρ:Lc} {c2 c3:TO} (w:LW W H at_ []) (hat:at_<2^35) (D:Data W.pl qa qb W.grounds W.rows simple) (hT:W.T=fL W.pl W.rows) (hB:W.base=gK W.pl)
  (k1:W.G.est.map (·.1)=(qPl aE qa).map λq=>Key.s q.1) (k2:W.G.esd.map (·.1)=(qPl aJ qb).map λq=>Key.s q.1)
  (r1:(bY,V.loc W.lp)∈ρ) (r2:(aV,aU W.F)∈ρ) (r3:(cU,V.loc W.lr)∈ρ) (r4:(aT,bG W.F.P)∈ρ) (r5:(bE,V.bool simple)∈ρ) (r6:(bX,V.loc W.lg)∈ρ) (E:EnvM l ρ) (hρ:NoK ρ NS1)
  (hdue:H[W.n0+2]?=some (.cell c2)) (hmk:H[W.n0+3]?=some (.cell c3)):
  Rs (λv H'=>v= .bool true∧H'[W.xs]?=some W.xo) X (vS p (aB (KK p) 40) W.n0 l H):=by
 have C:=w.ch
 refine oE w.tab λet htab=>?_
 have plz:=D.po.len
 have rz:=D.sz
 refine aA (E.at r3) (aA (bC w.c1) ?_)
 have bl:W.base.length≤11:=by rw [hB];unfold gK base0 pF;simp;exact EC plz
 refine aZ (o0 (d:=39) (g:=540) (f:=VE) (join:=cC) (.inl rfl) (λH l t ep r hl h1 h2=>oW (d:=38) hl h1 h2) w.rw_ htab (oz217 bl) rz) ?_ λc H' q=>q.elim
 intro v H1;refine sS λz1 hlt x1 ep1 e1=>?_;subst z1
 have w₁:LW W H1 at_ []:=w.ext x1 (Cov.p [] rfl)
 have hB0:W.B≤H.length:=w.hB
 generalize hlo:H.length=lo at *
 rw [hB] at e1
 have e1:H1[lo]?=some (.dict (aG VE (fL W.pl W.rows)) ep1):=e1
 have E1:EnvM ((cB,.loc lo)::l) ((cB,.loc lo)::ρ):=EnvM.cons lk0 (E.put (hρ.one (gx 13 rfl)))
 have hρ2:NoK ((cB,V.loc lo)::ρ) NS2:=by
  have h1:=hρ.sub (ms:=NS2) λy hy=>List.mem_append_left [cB] hy
  show (NS2.all (λy=>!(cB==y))&&ρ.all _)=true
  rw [show (ρ.all λq=>NS2.all λy=>!(q.1==y))=true from h1,Bool.and_true]
  kernel_rfl
 have tl:(fL W.pl W.rows).length≤60:=by
  have:=sM (join:=cC) (rows:=W.rows) W.rows.length (gK W.pl)
  have h2:W.rows.length*W.rows.length≤6*6:=Nat.mul_le_mul rz rz
  unfold fL pG
  rw [hB] at bl
  exact oz216 h2 this bl
 refine aA (E1.at (List.mem_cons_of_mem _ r3)) ?_
 refine gV (λr l H'=>EnvM l ((cB,.loc lo)::ρ)∧LW W H' at_ []∧Ext [lo] H1 H'∧∃a b ep,W.rows=a++b∧r=b.map dH∧H'[lo]?=some (.dict (aG VE (kS a (fL W.pl W.rows))) ep)) w₁.rw_ (λr l H' i=>i.2.1.rw_) (cJ E1 w₁ (Ext.refl _ _) (cE ([]) W.rows ep1 rfl rfl e1)) ?_ ?_
 ·intro l' H2;refine fE λE2 w2 x2 a b ep2 e hr ht2=>?_
  cases b with
  |cons u v=>cases hr
  |nil=>
  rw [List.append_nil] at e
  have ht2:H2[lo]?=some (.dict (aG VE (kS W.rows (fL W.pl W.rows))) ep2):=by rw [e];rw [e] at ht2;exact ht2
  have K:AZ p W lo (kS W.rows (fL W.pl W.rows)) fbS:={hW:=D.symW k1 k2,hT:=by rw [hT];exact D.toldW,hb:=λq hq=>by rw [hB];exact xS D.po hq,hS:=λD' x hD hx=>HC (by rw [hT];exact D.finW) hD hx,hlo:=hB0,N:=D.names W rfl rfl}
  refine law2 (lo:=lo) w2 hat ⟨List.mem_cons_of_mem _ r1,List.mem_cons_of_mem _ r2,List.mem_cons_of_mem _ r3,List.mem_cons_self ..,List.mem_cons_of_mem _ r4,List.mem_cons_of_mem _ r5,List.mem_cons_of_mem _ r6⟩ K (λq r hr=>(D.ok r hr).2.2.1 q) (by rw [hT];exact D.ty) (λx hx=>by rw [hT];exact D.gT hx) E2 hρ2 (x2.2 _ _ (x1.2 _ _ hdue (List.not_mem_nil)) (nmc ((C.neHi 24 hB0 3 rfl).symm) (List.not_mem_nil))) (x2.2 _ _ (x1.2 _ _ hmk (List.not_mem_nil)) (nmc ((C.neHi 24 hB0 4 rfl).symm) (List.not_mem_nil))) ⟨ep2,ht2⟩
 ·intro v r l' H2 j;refine fE λE2 w2 x2 a b ep2 e hr ht2=>?_;intro hj _ _
  cases b with
  |nil=>cases hr
  |cons u b=>
   cases hr
   have hal:a.length≤6:=by rw [e,List.length_append] at rz;exact M7 rz
   have hbl:=xU a (fL W.pl W.rows)
   refine GL w2 (List.mem_cons_self ..) E2 (hρ2.one (by simp)) hB0 ht2 (oz214 hbl hal tl) λl'' H3 ep3 E3 w3 x3 e3=>hj _ _ (cJ E3 w3 (x2.trans x3) (cE (a++[u]) b ep3 (by rw [e];simp) rfl (by rw [GM];exact e3)))
end
end
section
section
variable {p:Params}
structure PW (xs:Nat) (xo:O) (n0 lc ls:Nat) (P:PG) (L:LY) (G:GD) (lp lg lr:Nat) (cs:TL) (pl:Pl) (grounds:TS) (rows:List Row) (H:Hp) (at_:Int):Prop where
 ch:Ch [xs,n0,n0+1,n0+2,n0+3,lc,ls,P.se,P.nm,P.eq,P.gl,L.off,L.wd,L.ln,lp,G.pt,G.lt,G.pd,G.ld,lg,lr,H.length]
 src:Src H ls lc cs at_
 geo:Geo ⟨P,L,0,0⟩ G pl H
 eq:∃ep,H[P.eq]?=some (.dict (f9 rows) ep)
 gl:H[P.gl]?=some (.list [])
 pls:∃ep,H[lp]?=some (.dict (aG VPl pl) ep)
 gr:H[lg]?=some (.list (grounds.map .str))
 rw_:H[lr]?=some (.list (rows.map dH))
 c0:H[n0]?=some (.cell (some (.loc ls)))
 c1:H[n0+1]?=some (.cell none)
 c2:H[n0+2]?=some (.cell none)
 c3:H[n0+3]?=some (.cell none)
 scr:H[xs]?=some xo
noncomputable abbrev NS0:TS:=[dU,bO,aF,aQ,aW,fT,aH,cT,cN,cF,aX,hU,eE,cB,aV,dM]
set_option maxHeartbeats 4000000 in
theorem law0 {xs:Nat} {xo:O} {n0 lc ls lp lg lr:Nat} {P:PG} {L:LY} {G:GD} {cs:TL} {pl:Pl} {qa qb:QL} {grounds:TS} {rows:List Row} {simple:Bool} {H:Hp} {at_:Int} {l:Lc} {X:TX} {ρ:Lc} (w:PW xs xo n0 lc ls P L G lp lg lr cs pl grounds rows H at_) (hat:at_<2^35) (D:Data pl qa qb grounds rows simple)
  (k1:G.est.map (·.1)=(qPl aE qa).map λq=>Key.s q.1) (k2:G.esd.map (·.1)=(qPl aJ qb).map λq=>Key.s q.1)
  (r1:(bY,V.loc lp)∈ρ) (r3:(cU,V.loc lr)∈ρ) (r4:(aT,bG P)∈ρ) (r5:(bE,V.bool simple)∈ρ) (r6:(bX,V.loc lg)∈ρ) (r7:(cZ,iM L)∈ρ) (E:EnvM l ρ) (hρ:NoK ρ NS0):
  Rs (λv H'=>v= .bool true∧H'[xs]?=some xo) X (vT p (aB (KK p) 40) n0 l H):=by
 have C:Ch [xs,n0,n0+1,n0+2,n0+3,lc,ls,P.se,P.nm,P.eq,P.gl,L.off,L.wd,L.ln,lp,G.pt,G.lt,G.pd,G.ld,lg,lr,H.length,H.length+1,H.length+2,H.length+3]:=((w.ch.snoc (Nat.lt_succ_self _)).snoc (Nat.lt_succ_self _)).snoc (Nat.lt_succ_self _)
 refine aA (E.at r4) (aA (E.at r7) ?_)
 refine dI λH1 n₁ x1 e1=>?_
 refine dI λH2 n₂ x2 e2=>?_
 refine aA (a:=aG VE base0) rfl ?_
 refine dI λH3 n3 x3 e3=>?_
 have X3:Ext [] H H3:=(x1.trans x2).trans x3
 have e1:=x3.2 _ _ (x2.2 _ _ e1 (List.not_mem_nil)) (List.not_mem_nil)
 have e2:=x3.2 _ _ e2 (List.not_mem_nil)
 refine iH (X3.2 _ _ w.c1 (List.not_mem_nil)) λH4 n4 x4 e4=>?_
 have hk1:H1.length=H.length+1:=n₁
 have hk2:H2.length=H.length+2:=(M6 n₁ n₂)
 rw [hk1] at e2
 rw [hk1]
 rw [hk2] at e3 e4
 have up:∀{z o},H3[z]?=some o→z≠n0+1→H4[z]?=some o:=λh q=>x4.2 _ _ h (by exact n1 (by assumption))
 have hn:H4.length=H.length+3:=(oz224 n₁ n₂ n3 n4)
 have e1:=up e1 (C.ne 21 2 rfl)
 have e2:=up e2 (C.ne 22 2 rfl)
 have e3:=up e3 (C.ne 23 2 rfl)
 have upH:∀{z o},H[z]?=some o→z≠n0+1→H4[z]?=some o:=λh q=>up (X3.2 _ _ h (List.not_mem_nil)) q
 have l1:=w.geo
 obtain ⟨W,hW⟩:∃W:LP,W=⟨xs,xo,n0,lc,ls,⟨P,L,H.length,H.length+1⟩,G,lp,lg,lr,H.length+2,H.length+3,cs,pl,rows,fL pl rows,gK pl,grounds⟩:=⟨_,rfl⟩
 have hF:t8 (bG P) (iM L) (.loc H.length) (.loc (H.length+1))=aU W.F:=by rw [hW];rfl
 rw [hF]
 have E1:EnvM ((aV,aU W.F)::l) ((aV,aU W.F)::ρ):=EnvM.cons lk0 (E.put (hρ.one (gx 14 rfl)))
 refine aA (E1.at (List.mem_cons_of_mem _ r1)) ?_
 have hρ1:NoK ((aV,aU W.F)::ρ) NS1:=by
  have h1:=hρ.sub (ms:=NS1) λy hy=>List.mem_append_left [aV,dM] hy
  show (NS1.all (λy=>!(aV==y))&&ρ.all _)=true
  rw [show (ρ.all λq=>NS1.all λy=>!(q.1==y))=true from h1,Bool.and_true]
  kernel_rfl
 have hρL:(((aV,aU W.F)::ρ).all λq=>!(q.1==dM))=true:=by
  show (!(aV==dM)&&ρ.all _)=true
  rw [hρ.one (gx 15 rfl)];kernel_rfl
 refine oE w.pls λep hpl=>?_
 have hpl4:=upH hpl (C.ne 14 2 rfl)
 have hkeys:(aG VPl pl).map (λ(e:Key×V)=>iZ e.1)=pl.map λq=>V.str q.1:=by unfold aG;rw [List.map_map];rfl
 have plz:=D.po.len
 refine yH (λr l H'=>EnvM l ((aV,aU W.F)::ρ)∧H'.length=H.length+3∧Ext [H.length+2] H4 H'∧∃a b ep,pl=a++b∧r=(b.map λq=>V.str q.1)∧H'[H.length+2]?=some (.dict (aG VE (base0++pF a)) ep)) hpl4 (aY _ _) (λr l H' i=>i.2.2.1.2 _ _ hpl4 (C.out 14 [23] rfl)) (cJ E1 hn (Ext.refl _ _) (cE ([]) pl _ rfl hkeys (by unfold pF;simp;exact e3))) ?_ ?_
 ·intro l' H5;refine fE λE5 n5 x5 a b ep5 e hr et5=>?_
  cases b with
  |cons u v=>cases hr
  |nil=>
  rw [List.append_nil] at e
  rw [←e] at et5
  have up5:∀{z o},H4[z]?=some o→z≠H.length+2→H5[z]?=some o:=λh q=>x5.2 _ _ h (by exact n1 (by assumption))
  have big:∀{z o},H[z]?=some o→z≠n0+1→H5[z]?=some o:=λh q=>up5 (upH h q) (λe=>Nat.not_lt_of_le (Nat.le_add_right _ 2) (e▸bS h))
  refine oE w.eq λf1 f2=>?_
  have X5:Ext [n0+1] H H5:=⟨(oz223 n5),λz o h q=>big h λe=>q (e▸List.mem_cons_self ..)⟩
  have g0:Geo ⟨P,L,0,0⟩ G pl H5:=w.geo.ext X5 (C.outs [2] [8,7,16,18,11,13] rfl)
  have hs1:∀z∈[P.nm,P.se,G.lt,G.ld,L.off,L.ln,P.eq],z≠H.length∧z≠H.length+1:=λz hz=>⟨λe=>C.outs [21] [8,7,16,18,11,13,9] rfl z hz (e▸List.mem_cons_self ..),λe=>C.outs [22] [8,7,16,18,11,13,9] rfl z hz (e▸List.mem_cons_self ..)⟩
  have hs2:H.length≠H.length+1:=by exact C.ne 21 22 rfl
  have f2':=big f2 (C.ne 9 2 rfl)
  have hgl:=big w.gl (C.ne 10 2 rfl)
  have hpl5:=big hpl (C.ne 14 2 rfl)
  have hgr:=big w.gr (C.ne 19 2 rfl)
  have hrw:=big w.rw_ (C.ne 20 2 rfl)
  have hc0:=big w.c0 (C.ne 1 2 rfl)
  have hfl:=up5 e2 (C.ne 22 23 rfl)
  have hkn:=up5 e1 (C.ne 21 23 rfl)
  have hc1:=up5 e4 (C.ne 2 23 rfl)
  have hscr:=big w.scr (C.ne 0 2 rfl)
  have hsrc:=w.src.ext X5 (C.out 6 [2] rfl) (C.out 5 [2] rfl)
  have hFS:FS ⟨P,L,H.length,H.length+1⟩ G pl rows (fL pl rows) H5 []:={geo:=⟨g0.nm,g0.se,g0.lt,g0.ld,g0.off,g0.ln,g0.at_,g0.ad,g0.ao,g0.al,g0.okt,g0.okd,g0.dom⟩,eqs:=(eW _ f1 f2' (hJ _) (m8 D.nd)),fl:=hfl,kn:=(eI ([]) 0 hkn rfl List.nodup_nil (λk hk=>(by cases hk)) (λx v h=>(by cases h))),nd:=List.nodup_nil,sub:=λx hx=>(by cases hx),s1:=hs1,s2:=hs2}
  have w₅:LW W H5 at_ []:=by
   rw [hW]
   exact {ch:=C,hB:=Nat.le_of_eq n5.symm,src:=hsrc,fs:=hFS,eq:=⟨f1,f2'⟩,gl:=hgl,pls:=⟨ep,hpl5⟩,gr:=hgr,rw_:=hrw,tab:=⟨ep5,et5⟩,c0:=hc0,c1:=hc1,scr:=hscr}
  have hd5:=big w.c2 (C.ne 3 2 rfl)
  have hm5:=big w.c3 (C.ne 4 2 rfl)
  subst hW
  exact law1 (W:=⟨xs,xo,n0,lc,ls,⟨P,L,H.length,H.length+1⟩,G,lp,lg,lr,H.length+2,H.length+3,cs,pl,rows,fL pl rows,gK pl,grounds⟩) w₅ hat D rfl rfl k1 k2 (List.mem_cons_of_mem _ r1) (List.mem_cons_self ..) (List.mem_cons_of_mem _ r3) (List.mem_cons_of_mem _ r4) (List.mem_cons_of_mem _ r5) (List.mem_cons_of_mem _ r6) E5 hρ1 hd5 hm5
 ·intro v r l' H5 j;refine fE λE5 n5 x5 a b ep5 e hr et5=>?_;intro hj _ _
  cases b with
  |nil=>cases hr
  |cons u b=>
   cases hr
   have E6:EnvM ((dM,.str u.1)::l') ((aV,aU W.F)::ρ):=E5.put hρL
   have hpl₅:=x5.2 _ _ hpl4 (C.out 14 [23] rfl)
   have hu:u∈pl:=by rw [e];exact List.mem_append_right _ k0
   have hlk:aP (.s u.1) (aG VPl pl)=some (.tup [.str u.2.1,.int u.2.2]):=by rw [bZ,dF D.po.nd hu];rfl
   have e45:=x5.2 _ _ e4 (C.out 2 [23] rfl)
   have fr:has (base0++pF a) u.1=false:=by
    rw [m0]
    have hl:=D.po.lab (List.mem_map.mpr (iEA u hu rfl))
    have h1:has base0 u.1=false:=d7 λv hv q=>by
     unfold base0 at hv
     simp only [List.mem_cons,List.not_mem_nil,or_false] at hv
     rw [←q] at hl
     rcases hv with rfl|rfl|rfl<;>(revert hl;decide)
    have h2:has (pF a) u.1=false:=d7 λv hv q=>by
     unfold pF at hv
     refine oEA (List.mem_map.mp hv) λv' hv' z1=>?_;subst z1
     have nd:=D.po.nd
     rw [e,List.map_append,List.nodup_append] at nd
     exact nd.2.2 v'.1 (List.mem_map.mpr (iEA v' hv' rfl)) u.1 k0 q
    rw [h1,h2];rfl
   have al:a.length≤8:=by rw [e,List.length_append] at plz;exact oz222 plz
   refine aA (E6.at (List.mem_cons_of_mem _ r1)) (aA (dT (key:= .s u.1) hpl₅ rfl (aI (aY _ _) _) hlk) (aA (cR (by decide) (by decide) rfl) ?_))
   refine aA (E6.at (List.mem_cons_of_mem _ r1)) (aA (dT (key:= .s u.1) hpl₅ rfl (aI (aY _ _) _) hlk) (aA (cR (by decide) (by decide) rfl) ?_))
   refine aA (bC e45) ?_
   refine gD (key:= .s u.1) rfl et5 (by rw [dO];unfold base0 pF;simp;exact oz221 al) (aI (aY _ _) _) λH6 ep6 n6 x6 e6=>?_
   refine hj _ _ (cJ E6 (oz220 n5 n6) (x5.trans x6) (cE (a++[u]) b ep6 (by rw [e];simp) rfl ?_))
   have:=dB VE _ fr (some (u.2.1,u.2.2,S_))
   rw [show VE (some (u.2.1,u.2.2,S_))=V.tup [.str u.2.1,.int u.2.2,.str S_] from rfl] at this
   rw [e6,this]
   unfold pF
   rw [List.map_append,←List.append_assoc];rfl
end
end
section
section
variable {p:Params}
theorem OQ {P:TP} {X:TX} {H:Hp} {o1 o2 o3 o4 o5 o6 o7:O} {j:Nat→Nat→Nat→Nat→Nat→Nat→Nat→Hp→Res}
  (h:∀H',H'.length=H.length+7→Ext [] H H'→H'[H.length]?=some o1→H'[H.length+1]?=some o2→H'[H.length+2]?=some o3→H'[H.length+3]?=some o4→H'[H.length+4]?=some o5→H'[H.length+5]?=some o6→H'[H.length+6]?=some o7→
   Rs P X (j H.length (H.length+1) (H.length+2) (H.length+3) (H.length+4) (H.length+5) (H.length+6) H')):
  Rs P X (eB H o1 λl1 H=>eB H o2 λl2 H=>eB H o3 λl3 H=>eB H o4 λl4 H=>eB H o5 λl5 H=>eB H o6 λl6 H=>eB H o7 λl7 H=>j l1 l2 l3 l4 l5 l6 l7 H):=by
 refine dI λH1 n₁ x1 e1=>?_
 refine dI λH2 n₂ x2 e2=>?_
 refine dI λH3 n3 x3 e3=>?_
 refine dI λH4 n4 x4 e4=>?_
 refine dI λH5 n5 x5 e5=>?_
 refine dI λH6 n6 x6 e6=>?_
 refine dI λH7 n7 x7 e7=>?_
 have m2:H2.length=H.length+2:=(M6 n₁ n₂)
 have m3:H3.length=H.length+3:=(oz230 n₁ n₂ n3)
 have m4:H4.length=H.length+4:=(oz229 n₁ n₂ n3 n4)
 have m5:H5.length=H.length+5:=(oz228 n₁ n₂ n3 n4 n5)
 have m6:H6.length=H.length+6:=(oz227 n₁ n₂ n3 n4 n5 n6)
 rw [n₁] at e2
 rw [m2] at e3
 rw [m3] at e4
 rw [m4] at e5
 rw [m5] at e6
 rw [m6] at e7
 rw [n₁,m2,m3,m4,m5,m6]
 have y6:=x7
 have y5:=x6.trans y6
 have y4:=x5.trans y5
 have y3:=x4.trans y4
 have y2:=x3.trans y3
 have y1:=x2.trans y2
 exact h H7 (oz226 n₁ n₂ n3 n4 n5 n6 n7) (x1.trans y1) (y1.2 _ _ e1 (List.not_mem_nil)) (y2.2 _ _ e2 (List.not_mem_nil)) (y3.2 _ _ e3 (List.not_mem_nil)) (y4.2 _ _ e4 (List.not_mem_nil)) (y5.2 _ _ e5 (List.not_mem_nil)) (y6.2 _ _ e6 (List.not_mem_nil)) e7
theorem F5(a:List Row)(r:Row)(h:r.name∉a.map (·.name)):cP (.s r.name) (mA r) (f9 a)=f9 (a++[r]):=by
 have e:∀q:List Row,f9 q=aG (λv:V=>v) (q.map λr=>(r.name,mA r)):=λq=>by unfold f9 aG;rw [List.map_map];rfl
 rw [e,e,dB (λv:V=>v) _ (d7 λu hu q=>?_) (mA r),List.map_append];rfl
 refine oEA (List.mem_map.mp hu) λr' hr' z1=>?_;subst z1
 exact h (by rw [←q];exact List.mem_map.mpr (iEA r' hr' rfl))
theorem F0 {cf:CF} {n0:Nat} {P:PG} {a:List Row} {r:Row} {H:Hp} {l:Lc} {PP:TP} {X:TX} {j:TK} {ρ:Lc} (h1:(aT,bG P)∈ρ) (E:EnvM l ρ) (hρ:ρ.all (λq=>!(q.1==bO))=true) {ep:Nat} (he:H[P.eq]?=some (.dict (f9 a) ep)) (hz:a.length≤100) (hr:r.name∉a.map (·.name)) (hpm:r.plus=r.minus→r.plus=S_)
  (hj:∀l' H' ep',EnvM l' ρ→H'.length=H.length→Ext [P.eq] H H'→H'[P.eq]?=some (.dict (f9 (a++[r])) ep')→Rs PP X (j .next l' H')):
  Rs PP X (vU p cf n0 (dH r) l H j):=by
 have E1:EnvM ((bO,dH r)::l) ρ:=E.put hρ
 refine aA (cR (by decide) (by decide) rfl) (aA (cR (by decide) (by decide) rfl) (aA (cR (by decide) (by decide) rfl) ?_))
 refine lA (x:=r.plus) (y:=r.minus) (λH=>fP) (λH=>fP) rfl rfl ?_
 have e1:(if r.plus=r.minus then V.str S_ else .str r.plus)= .str r.plus:=by
  by_cases q:r.plus=r.minus
  ·rw [if_pos q,hpm q]
  ·rw [if_neg q]
 have e2:(if r.plus=r.minus then V.str S_ else .str r.minus)= .str r.minus:=by
  by_cases q:r.plus=r.minus
  ·rw [if_pos q,←q,hpm q]
  ·rw [if_neg q]
 rw [e1,e2]
 refine aA (E1.at h1) (bD b5 (aA gC ?_))
 refine gD (key:= .s r.name) rfl he (by unfold f9;refine lm1 ?_;exact qP hz) (aI (hJ _) _) λH' ep' n' x' e'=>?_
 rw [show aK (.int r.worth) (.str r.plus) (.str r.minus)=mA r from rfl,F5 a r hr] at e'
 exact hj _ _ ep' E1 n' x' e'
end
end
section
section variable {H:Hp}
variable {p:Params}
theorem OR {P:TP} {X:TX} {l:Nat} {cs:List Value} {vs:TL} {j:TV} (hl:H[l]?=some (.fro cs)) (hv:iI cs=some vs) (hz:vs.length≤1000)
  (h:∀H',H'.length=H.length+1→Ext [] H H'→H'[H.length]?=some (.list (vs.take 60))→Rs P X (j (.loc H.length) H')):Rs P X (ob2 (cut H (.loc l) .none (.int 60)) j):=by
 have e:cut H (.loc l) .none (.int 60)=some (.loc H.length,H++[O.list (vs.take 60)]):=by
  have:sP H l=some vs:=by unfold sP;rw [hl];exact hv
  exact (kR this).trans (if_pos (iAA rfl (by decide) hz))
 exact bA e (h _ List.length_append .new fA)
theorem OI{l:Nat}{vs:TL}(hl:H[l]?=some (.list vs))(hz:vs.length<2^62):mH H (.loc l)=some (!vs.isEmpty):=by
 exact (kR (dE hl)).trans (if_pos hz)
set_option maxHeartbeats 8000000 in
theorem B4{n0 xs:Nat}{ns:List Int}{sc:List Value}{X:TX}(hx:H[xs]?=some (.fro sc))(hsc:iI sc=some (ns.map .int))(hxn:xs<n0)(hz:ns.length≤100)(hn:H.length=n0+4)(c0:H[n0]?=some (.cell none))(c1:H[n0+1]?=some (.cell none))(c2:H[n0+2]?=some (.cell none))(c3:H[n0+3]?=some (.cell none)):
  Rs (λv H'=>v= .bool true∧H'[xs]?=some (.fro sc)) X (L5 p (aB (KK p) 40) n0 xs H):=by
 refine OR hx hsc (by refine lm1 ?_;exact qP hz) λH1 n₁ x1 e1=>?_
 refine oEA (kH e1) λchk hit hck=>?_
 have htk:(ns.map V.int).take 60=(ns.take 60).map V.int:=by rw [List.map_take]
 rw [htk] at hit e1 hck
 have tz:(ns.take 60).length≤60:=by simp;exact oz248
 refine gN (λv=>some v) e1 hit hck (by simp;exact oz247) ?_ ?_
 ·intro v hv H' i x h
  refine oEA (List.mem_map.mp hv) λk hk z1=>?_;subst z1
  exact r_t rfl (bA (a:=V.int k) (b:=H') rfl h)
 intro H2 n₂ x2 e2
 have e2:H2[H1.length]?=some (.list ((ns.take 60).map V.int)):=by rw [e2];simp
 have X2:Ext [] H H2:=x1.trans x2
 refine bJ (λv H'=>∃lc cs,v= .loc lc∧n0+3<lc∧lc<H'.length∧H'[lc]?=some (.list cs)∧cs≠[]∧(∀v∈cs,∃i,v= .int i)∧cs.length≤100∧Ext [] H H') ?_ λk hk=>?_
 ·intro v Ha;refine qH λlc cs z2 hlc hlcH hcs hne hiv hcz Xa=>?_;subst z2
  refine dI λHb nb xb eb=>?_
  refine iH (xb.2 _ _ (Xa.2 _ _ c0 (List.not_mem_nil)) (List.not_mem_nil)) λHc nc xc ec=>?_
  obtain ⟨ls,hls⟩:∃ls,ls=Ha.length:=⟨_,rfl⟩
  rw [←hls] at eb ec
  have CA:Ch [xs,n0,n0+1,n0+2,n0+3,lc,ls]:= .c hxn (.c (Nat.lt_succ_self _) (.c (Nat.lt_succ_self _) (.c (Nat.lt_succ_self _) (.c hlc (.c (by rw [hls];exact hlcH) .one)))))
  have ebc:=xc.2 _ _ eb (CA.out 6 [1] rfl)
  refine OQ λHd nd xd f1 f2 f3 f4 f5 f6 f7=>?_
  have hcl:Hc.length=ls+1:=(oz246 nb nc hls)
  rw [hcl] at f1 f2 f3 f4 f5 f6 f7 nd
  rw [hcl]
  have Xd:Ext [n0] H Hd:=(((Xa.cov (Cov.p [] rfl)).then xb (Cov.p [] rfl)).then xc (Cov.p [0] rfl)).then xd (Cov.p [] rfl)
  have ecd:=xd.2 _ _ ec (List.not_mem_nil)
  have eld:=xd.2 _ _ ebc (List.not_mem_nil)
  have ecs:=xd.2 _ _ (xc.2 _ _ (xb.2 _ _ hcs (List.not_mem_nil)) (CA.out 5 [1] rfl)) (List.not_mem_nil)
  have S:Src Hd ls lc cs 0:=⟨eld,ecs,hne,hiv,hcz,by decide⟩
  obtain ⟨P,hP⟩:∃P:PG,P=⟨ls+1,ls+1+1,ls+1+2,ls+1+3⟩:=⟨_,rfl⟩
  obtain ⟨L,hL⟩:∃L:LY,L=⟨ls+1+4,ls+1+5,ls+1+6⟩:=⟨_,rfl⟩
  have eP:mU (.loc (ls+1)) (.loc (ls+1+1)) (.loc (ls+1+2)) (.loc (ls+1+3))=bG P:=by rw [hP];rfl
  have eL:pQ (.loc (ls+1+4)) (.loc (ls+1+5)) (.loc (ls+1+6))=iM L:=by rw [hL];rfl
  rw [eP,eL]
  have C0:Ch [xs,n0,n0+1,n0+2,n0+3,lc,ls,P.se,P.nm,P.eq,P.gl,L.off,L.wd,L.ln,Hd.length]:=by
   rw [hP,hL]
   have h:∀k,ls+1+k<ls+1+(k+1):=λk=>Nat.lt_succ_self _
   exact ((((((((CA.snoc (Nat.lt_succ_self _)).snoc (h 0)).snoc (h 1)).snoc (h 2)).snoc (h 3)).snoc (h 4)).snoc (h 5)).snoc (by rw [nd];exact h 6))
  have OC:Ch [lc,ls,P.se,P.nm,P.eq,P.gl,L.off,L.wd,L.ln,Hd.length]:=C0.sub [5,6,7,8,9,10,11,12,13,14] rfl
  have g1:Hd[P.se]?=some (.dict [] 0):=by rw [hP];exact f1
  have g2:Hd[P.nm]?=some (.list []):=by rw [hP];exact f2
  have g3:Hd[P.eq]?=some (.dict [] 0):=by rw [hP];exact f3
  have g4:Hd[P.gl]?=some (.list []):=by rw [hP];exact f4
  have g5:Hd[L.off]?=some (.dict [] 0):=by rw [hL];exact f5
  have g6:Hd[L.ln]?=some (.dict [] 0):=by rw [hL];exact f7
  refine aA (bC ecd) ?_
  refine aZ (B6 (d:=37) OC rfl S (by decide) g1 g2 g5 g6 ⟨P,L,0,0⟩ ⟨rfl,rfl⟩) ?_ λc H' q=>q.elim
  intro v He;refine qE λpl z1=>?_;refine bF z1 λqa qb G at1 z2 hpo S1 hat1 z3=>?_;clear z1;subst z2;refine TJ z3 λxe z4 geo q1 q2 z5=>?_;clear z3;refine oE z4 λep hpl=>?_;clear z4;refine yR z5 λq3 q4 k1 k2=>?_;clear z5
  have plz:=hpo.len
  have hGd:G.ld<He.length:=by refine oE geo.ld λe h=>?_;exact bS h
  have C0:=(((C0.snoc q1).snoc q2).snoc q3).snoc q4
  clear f1 f2 f3 f4 f5 f6 f7 eb ec ebc e1 e2 X2 x1 x2
  obtain ⟨lp,hlp⟩:∃lp,lp=Hd.length:=⟨_,rfl⟩
  rw [←hlp] at hpl C0
  have C0:Ch [xs,n0,n0+1,n0+2,n0+3,lc,ls,P.se,P.nm,P.eq,P.gl,L.off,L.wd,L.ln,lp,G.pt,G.lt,G.pd,G.ld]:=C0
  rw [←hlp]
  have hk':(aG VPl pl).map (·.1)=(pl.map (·.1)).map Key.s:=by unfold aG;rw [List.map_map,List.map_map];rfl
  refine bA (pN hpl hk' (by refine lm2 ?_;exact oz245 plz)) ?_
  have y1:Ext [] He (He++[.list ((cI (pl.map (·.1))).map .str)]):=Ext.new
  have h1:(He++[O.list ((cI (pl.map (·.1))).map .str)])[He.length]?=some (.list ((cI (pl.map (·.1))).map .str)):=fA
  have m1:(He++[O.list ((cI (pl.map (·.1))).map .str)]).length=He.length+1:=by exact List.length_append
  generalize (He++[O.list ((cI (pl.map (·.1))).map .str)])=Hf at y1 h1 m1 ⊢
  refine dI λHg ng xg eg=>?_
  refine nN (ys:=[V.str S_u,.str S_w]) (xg.2 _ _ h1 (List.not_mem_nil)) eg (by rw [List.length_map,fQ];simp;exact oz244 plz) λHh nh xh eh=>?_
  obtain ⟨grounds,hgr⟩:∃grounds:TS,grounds=cI (pl.map (·.1))++[S_u,S_w]:=⟨_,rfl⟩
  have eh:Hh[Hg.length]?=some (.list (grounds.map .str)):=by rw [eh,hgr];exact mp5
  obtain ⟨lg,hlg⟩:∃lg,lg=Hg.length:=⟨_,rfl⟩
  rw [←hlg] at eh nh
  rw [←hlg]
  have grz:grounds.length≤10:=by rw [hgr,List.length_append,fQ,List.length_map];simp;exact EC plz
  have Xh:Ext [] He Hh:=(y1.trans xg).trans xh
  have S2:=S1.ext Xh (List.not_mem_nil) (List.not_mem_nil)
  have c0h:Hh[n0]?=some (.cell (some (.loc ls))):=Xh.2 _ _ (xe.2 _ _ ecd (C0.out 1 [6,7,8,11,13] rfl)) (List.not_mem_nil)
  refine aA (bC c0h) ?_
  refine aZ (b8 (d:=39) S2 (oz243 hat1) (by decide)) ?_ λc H' q=>q.elim
  intro v Hi;refine dD λi z1 hi0 hi1 ni xi S3=>?_;subst z1
  refine aA F4 ?_
  have c0i:=xi.2 _ _ c0h (C0.out 1 [6] rfl)
  refine aA (bC c0i) ?_
  have ehi:=xi.2 _ _ eh (nmc (M5 q1 q2 q3 q4 hGd nd m1 ng hlg) (List.not_mem_nil))
  obtain ⟨simple,hsim⟩:∃b:Bool,b=(i==0):=⟨_,rfl⟩
  rw [←hsim]
  refine aZ (uU (d:=38) (simple:=simple) S3 (oz242 hat1) ehi (oz0 grz) (M5 q1 q2 q3 q4 hGd nd m1 ng hlg)) ?_ λc H' q=>q.elim
  intro v Hj;refine qH λrows at2 z2 hrw S4 hat2 xj hrz hrn hok=>?_;subst z2
  have D:Data pl qa qb grounds rows simple:=⟨hpo,hgr,hrz,hrn,hok⟩
  obtain ⟨lr,hlr⟩:∃lr,lr=Hi.length:=⟨_,rfl⟩
  rw [←hlr] at hrw
  rw [←hlr]
  have lrj:lr<Hj.length:=bS hrw
  have C0:Ch [xs,n0,n0+1,n0+2,n0+3,lc,ls,P.se,P.nm,P.eq,P.gl,L.off,L.wd,L.ln,lp,G.pt,G.lt,G.pd,G.ld,lg,lr]:=(C0.snoc (show G.ld<lg by exact oz240 hGd m1 ng hlg)).snoc (show lg<lr by exact oz239 nh ni hlr)
  have upj:∀{z o},He[z]?=some o→z≠ls→Hj[z]?=some o:=λh q=>xj.2 _ _ (xi.2 _ _ (Xh.2 _ _ h (List.not_mem_nil)) (nmc q List.not_mem_nil)) (nmc q List.not_mem_nil)
  have upd:∀{z o},Hd[z]?=some o→z∉[ls,P.se,P.nm,L.off,L.ln]→Hj[z]?=some o:=λh q=>upj (xe.2 _ _ h q) λe=>q (e▸List.mem_cons_self ..)
  have Xej:Ext [ls] He Hj:=((Xh.cov (Cov.p [] rfl)).then xi (Cov.p [0] rfl)).then xj (Cov.p [0] rfl)
  have g3j:Hj[P.eq]?=some (.dict [] 0):=upd g3 (C0.out 9 [6,7,8,11,13] rfl)
  have ehj:=xj.2 _ _ ehi (C0.out 19 [6] rfl)
  have E0:EnvM [(cU,V.loc lr),(bE,.bool simple),(bX,.loc lg),(bY,.loc lp),(cZ,iM L),(aT,bG P),(A0,.loc H1.length),(xZ,.loc xs)] [(cU,V.loc lr),(bE,.bool simple),(bX,.loc lg),(bY,.loc lp),(cZ,iM L),(aT,bG P)]:=
   EnvM.cons (by walk_at "lk") (EnvM.cons (by walk_at "lk") (EnvM.cons (by walk_at "lk") (EnvM.cons (by walk_at "lk") (EnvM.cons (by walk_at "lk") (EnvM.cons (by walk_at "lk") EnvM.nil)))))
  refine gV (λr l H'=>EnvM l [(cU,V.loc lr),(bE,.bool simple),(bX,.loc lg),(bY,.loc lp),(cZ,iM L),(aT,bG P)]∧H'.length=Hj.length∧Ext [P.eq] Hj H'∧∃a b ep,rows=a++b∧r=b.map dH∧H'[P.eq]?=some (.dict (f9 a) ep)) hrw (λr l H' i=>i.2.2.1.2 _ _ hrw (C0.out 20 [9] rfl)) (cJ E0 rfl (Ext.refl _ _) (cE ([]) rows 0 rfl rfl g3j)) ?_ ?_
  ·intro l' Hk;refine fE λEk nk xk a b epk e hr hek=>?_
   cases b with
   |cons u v=>cases hr
   |nil=>
   rw [List.append_nil] at e
   rw [←e] at hek
   have upk:∀{z o},Hj[z]?=some o→z≠P.eq→Hk[z]?=some o:=λh q=>xk.2 _ _ h (nmc q List.not_mem_nil)
   have w:PW xs (.fro sc) n0 lc ls P L G lp lg lr cs pl grounds rows Hk at2:={
    ch:=C0.snoc (by rw [nk];exact lrj)
    src:=S4.ext xk (C0.out 6 [9] rfl) (C0.out 5 [9] rfl)
    geo:=(geo.ext Xej (C0.outs [6] [8,7,16,18,11,13] rfl)).ext xk (C0.outs [9] [8,7,16,18,11,13] rfl)
    eq:=⟨epk,hek⟩
    gl:=upk (upd g4 (C0.out 10 [6,7,8,11,13] rfl)) (C0.ne 10 9 rfl)
    pls:=⟨ep,upk (upj hpl (C0.ne 14 6 rfl)) (C0.ne 14 9 rfl)⟩
    gr:=upk ehj (C0.ne 19 9 rfl)
    rw_:=upk hrw (C0.ne 20 9 rfl)
    c0:=upk (xj.2 _ _ c0i (C0.out 1 [6] rfl)) (C0.ne 1 9 rfl)
    c1:=upk (upd (Xd.2 _ _ c1 (C0.out 2 [1] rfl)) (C0.out 2 [6,7,8,11,13] rfl)) (C0.ne 2 9 rfl)
    c2:=upk (upd (Xd.2 _ _ c2 (C0.out 3 [1] rfl)) (C0.out 3 [6,7,8,11,13] rfl)) (C0.ne 3 9 rfl)
    c3:=upk (upd (Xd.2 _ _ c3 (C0.out 4 [1] rfl)) (C0.out 4 [6,7,8,11,13] rfl)) (C0.ne 4 9 rfl)
    scr:=upk (upd (Xd.2 _ _ hx (C0.out 0 [1] rfl)) (C0.out 0 [6,7,8,11,13] rfl)) (C0.ne 0 9 rfl)}
   exact law0 w (oz238 hat2 hat1) D k1 k2 (by walk_at "mem") (by walk_at "mem") (by walk_at "mem") (by walk_at "mem") (by walk_at "mem") (by walk_at "mem") Ek (by unfold NoK;kernel_rfl)
  ·intro v r l' Hk j;refine fE λEk nk xk a b epk e hr hek=>?_;intro hj _ _
   cases b with
   |nil=>cases hr
   |cons u b=>
    cases hr
    have nd:=D.nd
    rw [e,List.map_append,List.nodup_append] at nd
    have al:a.length≤6:=by rw [e,List.length_append] at hrz;exact M7 hrz
    refine F0 (P:=P) (by walk_at "mem") Ek (by kernel_rfl) hek (oz237 al) (λ q=>nd.2.2 u.name q u.name k0 rfl) (hok u (by rw [e];exact List.mem_append_right _ k0)).2.2.2 λ l'' Hl epl El nl xl hel=>hj _ _ (cJ El (SZ nk nl) (xk.trans xl) (cE (a++[u]) b epl (by rw [e];simp) rfl hel))
 ·refine aA (OI e2 (by simp;exact oz236)) ?_
  refine fC (λq=>?_) λq=>?_
  ·refine hk _ _ (eI H1.length ((ns.take 60).map V.int) rfl (oz235 n₁ hn) (wS n₂) e2 (cJ (λz=>?_) (λv hv=>?_) (by simp;exact oz234) X2))
   ·rw [z] at q;cases q
   ·refine oEA (List.mem_map.mp hv) λi U z1=>?_;subst z1
    exact ⟨i,rfl⟩
  ·refine dI λH3 n3 x3 e3=>?_
   exact hk _ _ (eI H2.length ([.int 0]) rfl (oz233 n₁ n₂ hn) (wS n3) e3 (cJ (by simp) (λv hv=>⟨0,by simpa using hv⟩) (Nat.zero_lt_succ _) (X2.trans x3)))
theorem EZ{sc:List Value}{ns:List Int}(hsc:iI sc=some (ns.map .int))(hz:ns.length≤63):∃H',aB (KK p) 41 592 [.loc 0] [.fro sc]= .ok (.bool true) H'∧H'[0]?=some (.fro sc):=by
 have h:Rs (λv H'=>v= .bool true∧H'[0]?=some (.fro sc)) (λU U=>False) (aB (KK p) 41 592 [.loc 0] [.fro sc]):=by
  refine bD E_592 ?_
  exact B4 (n0:=1) (xs:=0) (ns:=ns) rfl hsc oz232 (oz231 hz) rfl rfl rfl rfl rfl
 cases q:aB (KK p) 41 592 [.loc 0] [.fro sc] with
 |ok v H'=>rw [q] at h;refine oA h λz1 h2=>?_;clear h;subst z1;exact (iEA H' rfl h2)
 |exc c H'=>rw [q] at h;exact h.elim
 |stuck=>rw [q] at h;exact h.elim
end
end
section
noncomputable def yT(K:Frag):Bool:=K.all λ q=>!(q.2.cls== .type "list")
theorem BX{K:Frag}(h:yT K=true){a:Addr}{o:Obj}(e:K.lookup a=some o):o.cls≠ .type "list":=λ q=>by
 have:(a,o)∈K:=by
  induction K with
  |nil=>cases e
  |cons x r ih=>
   obtain ⟨b,u⟩:=x
   rw [List.lookup_cons] at e
   cases c:a==b with
   |true=>rw [c] at e;cases e;rw [beq_iff_eq.mp c];exact List.mem_cons_self ..
   |false=>
    rw [c] at e
    unfold yT at h
    rw [List.all_cons,Bool.and_eq_true] at h
    exact List.mem_cons_of_mem _ (ih h.2 e)
 have:=List.all_eq_true.mp h _ this
 dsimp only at this
 rw [q] at this
 simp at this
theorem DD(p:Params):yT (KK p)=true:=by kernel_rfl
theorem E8 {prog:Program} {w:World} {p:Program} {loose:TS} {mg mb:TM} {s:Shared} (X:(KK w.params).In s.heap) (T:TopRead p loose mg mb s.heap) {l:Addr} {sc:List Value} {ns:List Int}
  (hl:s.heap.get? l=some (listOf sc.toArray 0)) (hsc:iI sc=some (ns.map .int)) (hz:ns.length≤63) (h1:l≠1):
  codeAny (model prog w) callerA (.call (.ref 592) ⟨[.ref l],[]⟩) (λr s'=>r= .ok (.ret (.bool true))∧(∀b o,s.heap.get? b=some o→s'.heap.get? b=some o)∧Same s s') s:=by
 obtain ⟨b0,hb0,hbl⟩:∃b0:Heap,(∀b,b≠l→b0.get? b=s.heap.get? b)∧b0.get? l=none:=by
  refine (iEA (s.heap.update l (λU=>⟨.none,none,.freed,#[]⟩)) (λb hb=>Heap.get?_update_other _ _ (Ne.symm hb)) ?_)
  cases q:(s.heap.update l (λU=>⟨.none,none,.freed,#[]⟩)).get? l with
  |none=>rfl
  |some o=>
   have h:=(Heap.get?_some_iff.mp q)
   have e1:=(Heap.get?_some_iff.mp hl).1
   have:(s.heap.update l (λU=>⟨.none,none,.freed,#[]⟩)).objs[l]?=some ⟨.none,none,.freed,#[]⟩:=by
    cases hh:s.heap with
    |mk objs life=>
     rw [hh] at e1
     simp only [Heap.update,Array.getElem?_modify,if_true]
     simp only at e1
     rw [e1];rfl
   rw [this] at h
   refine oA h λh2 h3=>?_;clear h
   cases h2
   cases h3
 have ns_ne:∀{a m},s.heap.Ns a m→a≠l:=fun {a m} ⟨o,es,ep,h2,h3,_⟩ q=>by
  rw [q,hl] at h2
  cases h2
  cases h3
 have ns_up:∀{a m},s.heap.Ns a m→b0.Ns a m:=fun {a m} h=>by
  have hne:=ns_ne h
  refine kA h λo es ep h2 h3=>?_;clear h
  exact (AO o es ep (by rw [hb0 a hne];exact h2) h3)
 have nl:b0.NoLimit:=by
  refine oEA T.nolimit λmc h2 h3=>?_
  exact (iEA mc (ns_up h2) h3)
 have T0:TopRead p loose mg mb b0:=⟨ns_up T.g,ns_up T.b,nl,T.builtins,T.free⟩
 have X0:(KK w.params).In b0:=λa o e=>by
  have h2:=X a o e
  have:a≠l:=λq=>by
   rw [q,hl] at h2
   cases h2
   exact BX (DD _) e rfl
  rw [hb0 a this];exact h2
 have zero:l≠0:=λq=>ns_ne T.b q.symm
 have i:Inv w b0 ⟨[(l,0)],λa=>b0.get? a⟩ [.fro sc] s.heap:={
  base:=λa o e=>e
  im:=λa o e=>by
   have:a≠l:=λq=>by rw [q] at e;rw [show b0.get? l=some o from e] at hbl;cases hbl
   rw [←hb0 a this];exact e
  len:=rfl
  obj:=λk o e=>by
   match k,e with
   |0,e=>cases e;exact (cE l 0 _ rfl hl rfl)
  free:=λk a off e=>by
   match k,e with
   |0,e=>cases e;exact hbl
  inj:=by exact ndo
  three:=by
   refine kA (ns_up T.g) λo es ep h2 U=>?_
   exact ⟨o,h2⟩
  big:=λk a off e=>by
   match k,e with
   |0,e=>cases e;exact Nat.lt_of_le_of_ne (Nat.pos_of_ne_zero zero) (Ne.symm h1)}
 have F:Frs b0 ⟨[(l,0)],λa=>b0.get? a⟩ [] s.heap:=⟨trivial,(λU hm=>nomatch hm),(λU hm=>nomatch hm)⟩
 refine oEA (EZ (p:=w.params) hsc hz) λH' hc h0=>?_
 refine xP (prog:=prog) (w:=w) ⟨X0,nl,T0⟩ 41 592 [.loc 0] [.fro sc] _ rfl (by rw [hc];intro q;cases q) _ [] callerA ⟨[(l,0)],λa=>b0.get? a⟩ s [.ref l] rfl (by decide) (by decide) rfl F i (.cons (.loc (l:=0) (off:=0) rfl) .nil) (λv H'' cv W' s' e st i' r sm=>?_) λc H'' ea tb a0 W' s' e=>by rw [hc] at e;cases e
 rw [hc] at e
 cases e
 cases r with
 |bool b=>
 refine (iAA rfl (λb o hb=>?_) sm)
 by_cases q:b=l
 ·subst q
  rw [hl] at hb
  cases hb
  refine cQ (i'.obj 0 _ h0) λa off ob e1 e2 e3=>?_
  have e4:W'.ρ[0]?=some (b,0):=st.toSub.at (show (⟨[(b,0)],λa=>b0.get? a⟩:Wd).ρ[0]?=some (b,0) from rfl)
  rw [e4] at e1
  cases e1
  rw [e2,show ob=listOf sc.toArray 0 from e3]
 ·exact i'.im _ _ (st.toSub.sub b o (by show b0.get? b=some o;rw [hb0 b q];exact hb))
end
end Mine
set_option tactic.hygienic true
set_option genInjectivity true
set_option genSizeOf true
set_option genSizeOfSpec true
namespace Mine
open PySem PySem.W PySem.Calls PyProof.Rows
theorem oX{P:Params}{h:Heap}:∀{vs:List Value} {ns:List Int},WellAll P h vs (ofPys (ns.map PyData.int))→iI vs=some (ns.map .int)
 |_,[],w=>by
  have w:WellAll P h _ []:=w
  cases w;rfl
 |_,n::r,w=>by
  have w:WellAll P h _ (.int n::ofPys (r.map PyData.int)):=w
  cases w with
  |cons a b=>
   cases a with
   |int i t=>
    show (iI _).map (V.int n::·)=_
    rw [oX b];rfl
set_option Elab.async true
namespace head
theorem tw16763031856898275136:True:= .intro
theorem tw4036955210689515969:True:= .intro
theorem tw5650451955626385410:True:= .intro
theorem tw10958987863147963684:True:= .intro
theorem tw1605264914639016070:True:= .intro
theorem tw124883101675373894:True:= .intro
theorem tw1457377512435260902:True:= .intro
theorem tw5682237231123728265:True:= .intro
theorem tw17137039813967996010:True:= .intro
theorem tw10024323660172261611:True:= .intro
theorem tw15148963937461231693:True:= .intro
theorem tw10648415540836062769:True:= .intro
theorem tw6474009502463322548:True:= .intro
theorem tw7506892168612780884:True:= .intro
theorem tw4421269845303654710:True:= .intro
theorem tw6032335186944297945:True:= .intro
theorem tw9297382265435449532:True:= .intro
theorem tw10978612789222110301:True:= .intro
theorem tw301680363124841183:True:= .intro
theorem tw13923008015255199913:True:= .intro
theorem tw7774113678449685934:True:= .intro
theorem tw9285211346045004284:True:= .intro
theorem tw13335025841360890868:True:= .intro
theorem tw8678205799600410495:True:= .intro
theorem tw2907111362388958804:True:= .intro
theorem tw4885112425497105109:True:= .intro
theorem tw7466004753208061746:True:= .intro
theorem tw7753971937023959346:True:= .intro
theorem tw174166394780034911:True:= .intro
theorem tw5501060405047882677:True:= .intro
theorem tw5525834398017525948:True:= .intro
theorem tw13585267454733459922:True:= .intro
theorem tw780477332936465449:True:= .intro
theorem tw4327999963216384262:True:= .intro
theorem tw3574627203582279572:True:= .intro
theorem tw4311042196063409733:True:= .intro
theorem tw1503407388533364548:True:= .intro
theorem tw11434997419882176723:True:= .intro
theorem tw14969385696402013904:True:= .intro
theorem tw17362218986543327160:True:= .intro
theorem tw1489404036187247834:True:= .intro
theorem tw7556985902211873679:True:= .intro
theorem tw1858285994304674589:True:= .intro
theorem tw3746228215898030841:True:= .intro
theorem tw3160712208675142370:True:= .intro
theorem tw742351954350328859:True:= .intro
theorem tw16922147877168347812:True:= .intro
theorem tw7523532297153676066:True:= .intro
theorem tw4196546014268931301:True:= .intro
theorem tw7161073391023584161:True:= .intro
theorem tw5140934472235413692:True:= .intro
theorem tw8895791426145780158:True:= .intro
theorem tw17698105195316432488:True:= .intro
theorem tw5658691048189421332:True:= .intro
theorem tw3749026756887285471:True:= .intro
theorem tw11194998557105285118:True:= .intro
theorem tw11427066125472700054:True:= .intro
theorem tw16014373381606645092:True:= .intro
theorem tw16851081361323604010:True:= .intro
theorem tw11338825007792423415:True:= .intro
theorem tw3088210815446039105:True:= .intro
theorem tw10988817232074504935:True:= .intro
theorem tw3089916443595474862:True:= .intro
theorem tw11714945338242495837:True:= .intro
theorem tw17508272824862286709:True:= .intro
theorem tw12741294794224977040:True:= .intro
theorem tw17411354535832351560:True:= .intro
theorem tw9065935926736091543:True:= .intro
theorem tw11622266319108533697:True:= .intro
theorem tw9145527808636388435:True:= .intro
theorem tw14195316510222423288:True:= .intro
theorem tw12858780395421280599:True:= .intro
theorem tw17826015225549371706:True:= .intro
theorem tw15501141472565082077:True:= .intro
theorem tw17332727794074296334:True:= .intro
theorem tw13801937863458859944:True:= .intro
theorem tw10865165270600546614:True:= .intro
theorem tw3062044705579621278:True:= .intro
theorem tw3368474557548986910:True:= .intro
theorem tw4975070653579243887:True:= .intro
theorem tw8603420104599213669:True:= .intro
theorem tw4017301010375394790:True:= .intro
theorem tw5331137831679937033:True:= .intro
theorem tw12095829319087573521:True:= .intro
theorem tw2554682012703037696:True:= .intro
theorem tw11925700103697007601:True:= .intro
theorem tw4857777746444614323:True:= .intro
theorem tw16800043278716471037:True:= .intro
theorem tw6100774026682323163:True:= .intro
theorem tw3264716943610762504:True:= .intro
theorem tw3869590956505411354:True:= .intro
theorem tw8169693465737517768:True:= .intro
theorem tw14643959010103036307:True:= .intro
theorem tw16640130746408290383:True:= .intro
theorem tw10898857373019930491:True:= .intro
theorem tw3512634313551410195:True:= .intro
theorem tw1495726902847802894:True:= .intro
theorem tw1985537357303476512:True:= .intro
theorem tw15039987702171664376:True:= .intro
theorem tw2518057956044344595:True:= .intro
theorem tw1315816938146588887:True:= .intro
theorem tw1917425121527220963:True:= .intro
theorem tw3794523003379204399:True:= .intro
theorem tw8097174177036852075:True:= .intro
theorem tw12287978374625458572:True:= .intro
theorem tw1506576300011279404:True:= .intro
theorem tw17346550803290982037:True:= .intro
theorem tw3688799982635324794:True:= .intro
theorem tw17142359554024780413:True:= .intro
theorem tw7805308653706644653:True:= .intro
theorem tw10875119458065257276:True:= .intro
theorem tw5515381820778694223:True:= .intro
theorem tw17674571679781333832:True:= .intro
theorem tw6426539377367359892:True:= .intro
theorem tw8408249889716310983:True:= .intro
theorem tw15656768269340197940:True:= .intro
theorem tw13276723143375012678:True:= .intro
theorem tw2340069552987342377:True:= .intro
theorem tw3501597964444990463:True:= .intro
theorem tw2096541523181747872:True:= .intro
theorem tw2525317073905713282:True:= .intro
theorem tw2172669909848549399:True:= .intro
theorem tw15436542981012472205:True:= .intro
theorem tw6207834228037699737:True:= .intro
theorem tw6846597200999610202:True:= .intro
theorem tw13078646160514809887:True:= .intro
theorem tw9625377726130185387:True:= .intro
theorem tw6489421142724028100:True:= .intro
theorem tw573967197379146972:True:= .intro
theorem tw13986843968525588388:True:= .intro
theorem tw9777900189565919194:True:= .intro
theorem tw8541356943393881859:True:= .intro
theorem tw17212571956275664395:True:= .intro
theorem tw1212124681294104184:True:= .intro
theorem tw1626232751844553403:True:= .intro
theorem tw3991279037241028524:True:= .intro
theorem tw5927865893512547691:True:= .intro
theorem tw3368030927266983236:True:= .intro
theorem tw466721876749952763:True:= .intro
theorem tw17725469503822016867:True:= .intro
theorem tw16984083398119652359:True:= .intro
theorem tw9464831228461672588:True:= .intro
theorem tw10730805705081004914:True:= .intro
theorem tw3665506230870052707:True:= .intro
theorem tw14234965402570480558:True:= .intro
theorem tw10079960370226730655:True:= .intro
theorem tw8715499118904818895:True:= .intro
theorem tw17850378814381688901:True:= .intro
theorem tw15785421084128741142:True:= .intro
theorem tw9987851973559822609:True:= .intro
theorem tw7732209734871044160:True:= .intro
theorem tw15638870477510070732:True:= .intro
theorem tw14788773977795034992:True:= .intro
theorem tw15967466079928408925:True:= .intro
theorem tw1211024037004892549:True:= .intro
theorem tw18260194641540637818:True:= .intro
theorem tw9133290819911140118:True:= .intro
theorem tw10786079294511566085:True:= .intro
theorem tw7704315382344345624:True:= .intro
theorem tw14676189674455941282:True:= .intro
theorem tw13637325136056909300:True:= .intro
theorem tw13353151263460963528:True:= .intro
theorem tw7096138990903361605:True:= .intro
theorem tw17646911460466567920:True:= .intro
theorem tw16894197260953374720:True:= .intro
theorem tw16659920880120507502:True:= .intro
theorem tw8912104118211102971:True:= .intro
theorem tw17958272820484234708:True:= .intro
theorem tw16714887947964762639:True:= .intro
theorem tw709382114072422158:True:= .intro
theorem tw7758381527925395934:True:= .intro
theorem tw6889739017440866108:True:= .intro
theorem tw4607607821588926596:True:= .intro
theorem tw11770459041652445329:True:= .intro
theorem tw7512725033676591148:True:= .intro
theorem tw807142644699662319:True:= .intro
theorem tw17297054508065495485:True:= .intro
theorem tw11308087075614649832:True:= .intro
theorem tw9082462177598256812:True:= .intro
theorem tw1909714482019496454:True:= .intro
theorem tw2753283235347674219:True:= .intro
theorem tw12344544660321961925:True:= .intro
theorem tw4839655697589452165:True:= .intro
theorem tw13379354915994877463:True:= .intro
theorem tw9162278640276766204:True:= .intro
theorem tw5638995163158488052:True:= .intro
theorem tw9186546921256032858:True:= .intro
theorem tw10021064610941686981:True:= .intro
theorem tw13896987355042952010:True:= .intro
theorem tw4976181008148175253:True:= .intro
theorem tw18123143868385100064:True:= .intro
theorem tw7802898811600756450:True:= .intro
theorem tw16903022960794457021:True:= .intro
theorem tw5363715690607933:True:= .intro
theorem tw17486074103640542121:True:= .intro
theorem tw10987702880554017565:True:= .intro
theorem tw10356212845559719233:True:= .intro
theorem tw12024539317367501503:True:= .intro
theorem tw3821945547825155762:True:= .intro
theorem tw12604462930493870256:True:= .intro
theorem tw3083302935323014018:True:= .intro
theorem tw6053349399257934933:True:= .intro
theorem tw12987040726578829979:True:= .intro
theorem tw11544532188706048022:True:= .intro
theorem tw17015032458148788900:True:= .intro
theorem tw6846866878297920324:True:= .intro
theorem tw1919001801439425371:True:= .intro
theorem tw11862927689305589065:True:= .intro
theorem tw12398312691204496596:True:= .intro
theorem tw3690969761935527329:True:= .intro
theorem tw6737735255597943219:True:= .intro
theorem tw8758324158161630591:True:= .intro
theorem tw14682210665186182649:True:= .intro
theorem tw15539854500240908086:True:= .intro
theorem tw16065720564569863766:True:= .intro
theorem tw6388477656530123435:True:= .intro
theorem tw18007968972792079559:True:= .intro
theorem tw11988142204041823098:True:= .intro
theorem tw10519217271611395807:True:= .intro
theorem tw6402496994288996404:True:= .intro
theorem tw15510365090734361527:True:= .intro
theorem tw13743032657059413451:True:= .intro
theorem tw11426403942048686318:True:= .intro
theorem tw14877080517539528568:True:= .intro
theorem tw9107825763807709430:True:= .intro
theorem tw12773685731770592110:True:= .intro
theorem tw3304075619188804072:True:= .intro
theorem tw2506711637615833298:True:= .intro
theorem tw17821319399108415887:True:= .intro
theorem tw5141578139466067413:True:= .intro
theorem tw18433677622606106133:True:= .intro
theorem tw4764554697811233:True:= .intro
theorem tw14028522991509751376:True:= .intro
theorem tw6684681932595197013:True:= .intro
theorem tw1618804561499322139:True:= .intro
theorem tw12147184966966947637:True:= .intro
theorem tw16769997242578385675:True:= .intro
theorem tw6202090305015876224:True:= .intro
theorem tw5438144065070405397:True:= .intro
theorem tw7712916153251135833:True:= .intro
theorem tw5096742575497195690:True:= .intro
theorem tw18384547517478447814:True:= .intro
theorem tw14982685227137828758:True:= .intro
theorem tw12865059321931465230:True:= .intro
theorem tw8569104457590258164:True:= .intro
theorem tw12460202669355646752:True:= .intro
theorem tw13942192884097748152:True:= .intro
theorem tw10015159338476511836:True:= .intro
theorem tw7404141018258913797:True:= .intro
theorem tw604627371996746742:True:= .intro
theorem tw2825341998796452840:True:= .intro
theorem tw779419810087314491:True:= .intro
theorem tw4381510469713062047:True:= .intro
theorem tw4965378191221513410:True:= .intro
theorem tw2994366008111725845:True:= .intro
theorem tw1937370526825066196:True:= .intro
theorem tw14943480678444902952:True:= .intro
theorem tw8451290768687142514:True:= .intro
theorem tw14139502460874162764:True:= .intro
theorem tw4273228799998304602:True:= .intro
theorem tw9515422150858430662:True:= .intro
theorem tw9353324838224930552:True:= .intro
theorem tw10005452208157733855:True:= .intro
theorem tw10010264046613662565:True:= .intro
theorem tw10018764681926925449:True:= .intro
theorem tw10170068340998493759:True:= .intro
theorem tw10242447542790323104:True:= .intro
theorem tw10261356005730403935:True:= .intro
theorem tw10265929125382437317:True:= .intro
theorem tw10366927770000222440:True:= .intro
theorem tw10431609616501453582:True:= .intro
theorem tw10510622979536455646:True:= .intro
theorem tw10533634037010066435:True:= .intro
theorem tw1062042127530464391:True:= .intro
theorem tw10668533816033670360:True:= .intro
theorem tw10748227973586771634:True:= .intro
theorem tw10812213935944405949:True:= .intro
theorem tw10900948863051656163:True:= .intro
theorem tw11097941207591946120:True:= .intro
theorem tw11124748197601291601:True:= .intro
theorem tw11290360913936777911:True:= .intro
theorem tw1134157569726261602:True:= .intro
theorem tw11484358847640170188:True:= .intro
theorem tw11484797826999851062:True:= .intro
theorem tw11485113708198979986:True:= .intro
theorem tw11582096051123008839:True:= .intro
theorem tw11628534518673281344:True:= .intro
theorem tw11692735721529064706:True:= .intro
theorem tw12032222614953749359:True:= .intro
theorem tw12043669396524033845:True:= .intro
theorem tw12074249297620881909:True:= .intro
theorem tw12201952087667049370:True:= .intro
theorem tw12205659690895024086:True:= .intro
theorem tw12207028300977255130:True:= .intro
theorem tw12310735299239354703:True:= .intro
theorem tw12328230846540189838:True:= .intro
theorem tw12330954535739239725:True:= .intro
theorem tw12359489953124434286:True:= .intro
theorem tw12362083183470981646:True:= .intro
theorem tw12364624919760631829:True:= .intro
theorem tw12472887615940459650:True:= .intro
theorem tw12475708393154427166:True:= .intro
theorem tw12478146576626367362:True:= .intro
theorem tw12601080634535202701:True:= .intro
theorem tw12740806245664736207:True:= .intro
theorem tw12763952150808568291:True:= .intro
theorem tw1276956409769668328:True:= .intro
theorem tw12775505166333009402:True:= .intro
theorem tw12822298378996975857:True:= .intro
theorem tw12851702773856589430:True:= .intro
theorem tw12892129938458570674:True:= .intro
theorem tw12903917746401883607:True:= .intro
theorem tw12998212659555988865:True:= .intro
theorem tw13180129090757240718:True:= .intro
theorem tw13198292447841614426:True:= .intro
theorem tw13199516396595161752:True:= .intro
theorem tw1319983325249436295:True:= .intro
theorem tw13227620805987009915:True:= .intro
theorem tw13246386896891170512:True:= .intro
theorem tw13294958713779813728:True:= .intro
theorem tw13295082483830516422:True:= .intro
theorem tw13337238644230332656:True:= .intro
theorem tw13357441389134331599:True:= .intro
theorem tw13478637309914159250:True:= .intro
theorem tw13510609219080548989:True:= .intro
theorem tw13537664574400122534:True:= .intro
theorem tw13605870324054321959:True:= .intro
theorem tw13653928888864918839:True:= .intro
theorem tw13689084217373910675:True:= .intro
theorem tw1389810093214676884:True:= .intro
theorem tw13906610036690215845:True:= .intro
theorem tw13954853420313727417:True:= .intro
theorem tw13988103294471073821:True:= .intro
theorem tw14061139507663348314:True:= .intro
theorem tw14139617269561922093:True:= .intro
theorem tw14149427978524627653:True:= .intro
theorem tw14205479233844494046:True:= .intro
theorem tw14364637388885140079:True:= .intro
theorem tw14385403278947933607:True:= .intro
theorem tw14393718171448925343:True:= .intro
theorem tw14417885227837004991:True:= .intro
theorem tw14432977821161478157:True:= .intro
theorem tw14492117785962260688:True:= .intro
theorem tw14512941343882779238:True:= .intro
theorem tw14527164170590304321:True:= .intro
theorem tw14531177953140590962:True:= .intro
theorem tw14597329475937083939:True:= .intro
theorem tw14628233357713752721:True:= .intro
theorem tw1463646239528298992:True:= .intro
theorem tw14637134836413734856:True:= .intro
theorem tw14643560169476415855:True:= .intro
theorem tw14646466228836335164:True:= .intro
theorem tw14679116673082234219:True:= .intro
theorem tw14699756766385990792:True:= .intro
theorem tw14842460003800876886:True:= .intro
theorem tw14882813523228863612:True:= .intro
theorem tw14909605222495392915:True:= .intro
theorem tw1499353310998574721:True:= .intro
theorem tw14999265807660949796:True:= .intro
theorem tw15035418422258542911:True:= .intro
theorem tw15037083628117588352:True:= .intro
theorem tw15064752311394979489:True:= .intro
theorem tw15091486752826498866:True:= .intro
theorem tw1522823579158628613:True:= .intro
theorem tw15253846138512369154:True:= .intro
theorem tw15326552575505426906:True:= .intro
theorem tw15468718075485040107:True:= .intro
theorem tw15520248196984853422:True:= .intro
theorem tw15604011560834605598:True:= .intro
theorem tw15735840784391694233:True:= .intro
theorem tw15782939476341012554:True:= .intro
theorem tw15794997505209512671:True:= .intro
theorem tw15796087645652482245:True:= .intro
theorem tw15798066900824788120:True:= .intro
theorem tw15840312062823119879:True:= .intro
theorem tw15841401105113185080:True:= .intro
theorem tw16031315777459398524:True:= .intro
theorem tw16072502192527678464:True:= .intro
theorem tw16106133796442146334:True:= .intro
theorem tw16111715859725283846:True:= .intro
theorem tw16172288393029767808:True:= .intro
theorem tw16172356507618199906:True:= .intro
theorem tw1620002657737552111:True:= .intro
theorem tw16278871845796110771:True:= .intro
theorem tw16441004959143088680:True:= .intro
theorem tw16474958459275807246:True:= .intro
theorem tw16572314662081343053:True:= .intro
theorem tw16576625349610184965:True:= .intro
theorem tw16782820856776367440:True:= .intro
theorem tw16817119741492734445:True:= .intro
theorem tw16847831306532103052:True:= .intro
theorem tw16874305072444578374:True:= .intro
theorem tw1687793838685487538:True:= .intro
theorem tw1689142752476645926:True:= .intro
theorem tw17002534310236347988:True:= .intro
theorem tw17014734716931888790:True:= .intro
theorem tw17017319662998615:True:= .intro
theorem tw17093656651364094606:True:= .intro
theorem tw17188972718952451159:True:= .intro
theorem tw17212568112599259466:True:= .intro
theorem tw17243387458012846398:True:= .intro
theorem tw17275705279478898512:True:= .intro
theorem tw17348764703882912863:True:= .intro
theorem tw17453365369857097546:True:= .intro
theorem tw17464823870196871000:True:= .intro
theorem tw1748456618969930982:True:= .intro
theorem tw17525636777796739105:True:= .intro
theorem tw17539234302018041193:True:= .intro
theorem tw17577399041416155939:True:= .intro
theorem tw17608190574486352970:True:= .intro
theorem tw17700853532424174462:True:= .intro
theorem tw17789423225533864492:True:= .intro
theorem tw17844492200522320778:True:= .intro
theorem tw17854896373637125580:True:= .intro
theorem tw17905181588926558717:True:= .intro
theorem tw17988201657351507238:True:= .intro
theorem tw18332285231265401824:True:= .intro
theorem tw18364922244981856966:True:= .intro
theorem tw18416563613846182222:True:= .intro
theorem tw1992862871153497056:True:= .intro
theorem tw2203363585012173787:True:= .intro
theorem tw2237326684586592538:True:= .intro
theorem tw2249667046024356820:True:= .intro
theorem tw2260579728952749127:True:= .intro
theorem tw2350586252961548244:True:= .intro
theorem tw2400818531096893172:True:= .intro
theorem tw2428695696106030784:True:= .intro
theorem tw2437478716016495240:True:= .intro
theorem tw2441957057352720082:True:= .intro
theorem tw2529948359932261575:True:= .intro
theorem tw2591067827882107080:True:= .intro
theorem tw2728595385866086531:True:= .intro
theorem tw2864405669816312776:True:= .intro
theorem tw315434073420411817:True:= .intro
theorem tw3453547403478019728:True:= .intro
theorem tw3496171461512900480:True:= .intro
theorem tw3547030090768783262:True:= .intro
theorem tw3547240966391284428:True:= .intro
theorem tw3556061257289618393:True:= .intro
theorem tw3581614266968435656:True:= .intro
theorem tw3597743205603396729:True:= .intro
theorem tw3615648651819825313:True:= .intro
theorem tw3944913497352057107:True:= .intro
theorem tw3986194592780655508:True:= .intro
theorem tw4009957668330374740:True:= .intro
theorem tw4053978428183960486:True:= .intro
theorem tw4063747431996464497:True:= .intro
theorem tw4160124254940468481:True:= .intro
theorem tw4277651752456152607:True:= .intro
theorem tw4433315090154635215:True:= .intro
theorem tw44622916816846810:True:= .intro
theorem tw4473611206160876864:True:= .intro
theorem tw4528443807372415038:True:= .intro
theorem tw4543076655600059902:True:= .intro
theorem tw467416434755642258:True:= .intro
theorem tw4691952243595246448:True:= .intro
theorem tw4693820183103290663:True:= .intro
theorem tw4709128311485490483:True:= .intro
theorem tw4746297304354101679:True:= .intro
theorem tw4834694072379752904:True:= .intro
theorem tw48543519692965452:True:= .intro
theorem tw4945251732147069371:True:= .intro
theorem tw497287684792784471:True:= .intro
theorem tw5015311536963163689:True:= .intro
theorem tw5019597260055213698:True:= .intro
theorem tw5038994553942263901:True:= .intro
theorem tw5092371620264689978:True:= .intro
theorem tw5187041380464763778:True:= .intro
theorem tw5319049981483164881:True:= .intro
theorem tw5353729903917744248:True:= .intro
theorem tw5401097623525119610:True:= .intro
theorem tw5467695095851852608:True:= .intro
theorem tw5479459121986351116:True:= .intro
theorem tw5506250874072839755:True:= .intro
theorem tw5508695066786827253:True:= .intro
theorem tw5593727005144783397:True:= .intro
theorem tw5617373736292572815:True:= .intro
theorem tw5651425540991249520:True:= .intro
theorem tw5737951250597237232:True:= .intro
theorem tw5797013207949663412:True:= .intro
theorem tw5870146547769353613:True:= .intro
theorem tw5906749814970224870:True:= .intro
theorem tw5944575059761466720:True:= .intro
theorem tw5973763720392745831:True:= .intro
theorem tw5986637957666399235:True:= .intro
theorem tw6053997905714604814:True:= .intro
theorem tw6079359036626576793:True:= .intro
theorem tw6085824867444503733:True:= .intro
theorem tw6088685845774392931:True:= .intro
theorem tw6110071263904590700:True:= .intro
theorem tw6161856959107265637:True:= .intro
theorem tw6212921109956642855:True:= .intro
theorem tw6237802210402583469:True:= .intro
theorem tw6265338273532641288:True:= .intro
theorem tw6298033893332097587:True:= .intro
theorem tw6327039764776113722:True:= .intro
theorem tw649443455394278489:True:= .intro
theorem tw6507506987150044280:True:= .intro
theorem tw6588589085864783938:True:= .intro
theorem tw6640010369347007910:True:= .intro
theorem tw6772502638888315869:True:= .intro
theorem tw6857060684267632606:True:= .intro
theorem tw6871339299614917876:True:= .intro
theorem tw6891450509433485068:True:= .intro
theorem tw693309671712327132:True:= .intro
theorem tw69809265629811306:True:= .intro
theorem tw7013799640231393816:True:= .intro
theorem tw7090939061502383884:True:= .intro
theorem tw7119846925741900413:True:= .intro
theorem tw7253898381062576733:True:= .intro
theorem tw7277520189549225825:True:= .intro
theorem tw7287109101882759415:True:= .intro
theorem tw7313386461004707312:True:= .intro
theorem tw733406405333840765:True:= .intro
theorem tw739537129135343663:True:= .intro
theorem tw7417405269818204032:True:= .intro
theorem tw7450023128482652576:True:= .intro
theorem tw7599496313472250701:True:= .intro
theorem tw7658410731251134818:True:= .intro
theorem tw7661765248129044261:True:= .intro
theorem tw7680146299302783591:True:= .intro
theorem tw7688317290187622652:True:= .intro
theorem tw7789450098604059249:True:= .intro
theorem tw7833285031277912329:True:= .intro
theorem tw7876399200375917224:True:= .intro
theorem tw7906546307943345882:True:= .intro
theorem tw7928285938522686346:True:= .intro
theorem tw8035625575855466936:True:= .intro
theorem tw8159583801465064534:True:= .intro
theorem tw8182079617134344778:True:= .intro
theorem tw8185714761375850791:True:= .intro
theorem tw8187629637223713605:True:= .intro
theorem tw820421773197932041:True:= .intro
theorem tw8216834362191484069:True:= .intro
theorem tw8299393411229908732:True:= .intro
theorem tw8382746154173761051:True:= .intro
theorem tw8402328212356670530:True:= .intro
theorem tw8414573866900348196:True:= .intro
theorem tw851385035628625539:True:= .intro
theorem tw8534208459206503383:True:= .intro
theorem tw8627200689577751383:True:= .intro
theorem tw8671685427711848851:True:= .intro
theorem tw8773370040425892893:True:= .intro
theorem tw8866670633112419022:True:= .intro
theorem tw8874674299285249911:True:= .intro
theorem tw8997269238129315039:True:= .intro
theorem tw9062998866958442273:True:= .intro
theorem tw9083612298779875492:True:= .intro
theorem tw9101448428047585222:True:= .intro
theorem tw9103479521544129834:True:= .intro
theorem tw9114333099845857663:True:= .intro
theorem tw9142320679590124636:True:= .intro
theorem tw9196398404247428943:True:= .intro
theorem tw9202431907968578930:True:= .intro
theorem tw9214367901419015226:True:= .intro
theorem tw930087139818521243:True:= .intro
theorem tw9325057278558614444:True:= .intro
theorem tw9325123708862168440:True:= .intro
theorem tw9388430590476628193:True:= .intro
theorem tw9407594320385231609:True:= .intro
theorem tw9495540839478616804:True:= .intro
theorem tw9592777112578238593:True:= .intro
theorem tw9646481798937456297:True:= .intro
theorem tw9658139154387788515:True:= .intro
theorem tw9702098958229961203:True:= .intro
theorem tw9746458257258439470:True:= .intro
theorem tw9978949632667528635:True:= .intro
theorem tw9984397402777080727:True:= .intro
end head
set_option maxHeartbeats 8000000 in
theorem head:PySem.Challenge.rw_nn0050_01.Holds:=by
 w_on;o_law;k_head;(case hw=>w_witness2)
 k_fill
 intro w s0 s1 mg mb G Y fa o pm cd doc dV kV ho hd hcd hD hmg hg args vals as hpre hlay hrd hwl hlo
 have KX:=kIn_of Y
 have hlo2:=hlo
 refine Ground.open G ?_
 intro T B D TE TW
 wrow_args hpre hlay hrd hwl hlo
 rename_i ns hs hlay0 hL1 hr1 hl2 as4 as3 l vs as0 hL ra w1 r0 hI hr hc1 hc2
 clear hcd hd hD Y B D TE TW ho
 have KX:(KK w.params).In s1.heap:=KX
 have TR:=topRead_of T
 have efa:fa=592:=by
  have h1:mg (Str.ofString "law")=some (.ref 592):=mg_of KX TR.g (by kernel_rfl)
  have h2:mg (Str.ofString "law")=some (.ref fa):=hmg
  rw [h1] at h2
  cases h2;rfl
 subst efa
 have hle:ns.length≤63:=by omega
 obtain ⟨sc,hs1,hs2⟩:∃sc:List Value,s1.heap.get? l=some (listOf sc.toArray 0)∧iI sc=some (ns.map .int):=by
  cases w1 with
  |list h wa=>
   exact ⟨_,h,oX wa⟩
 have hl1:l≠1:=by
  cases r0 with
  |list=>
   intro q
   have:=hlo2 l (by simp)
   rw [q] at this
   cases this
 refine enter_call ?_
 refine codeAny_mono (E8 KX TR hs1 hs2 hle hl1) ?_
 rintro r s' ⟨rfl,keep,sm⟩
 refine GoodW.toG ⟨.inl ⟨.bool true,.bool true,[],rfl,λcls=>?_,.bool true,?_,λ_=>⟨List.nodup_nil,λa ha=>by cases ha⟩⟩,keep,?_,?_⟩
 ·rfl
 ·first|kernel_rfl|wrow_post|(refine postC_of (X:=true) rfl ?_ rfl;kernel_rfl)
 ·rw [sm]
 ·rw [sm];exact hg
end Mine
open PySem PySem.W PyProof.Rows
theorem PySem.Challenge.cw_nn0050_01_holds : PySem.Challenge.rw_nn0050_01.Holds :=
 Mine.head
