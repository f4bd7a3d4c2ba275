import PyProof.Rows.All
import Wide.All
import OpenK.AllK
import Wide.FinOn
import Lean
import PySem.Challenge.RW_nn0271_01
set_option Elab.async false
set_option maxRecDepth 100000
set_option compiler.extract_closed false
set_option bootstrap.genMatcherCode false
set_option genSizeOf false
set_option tactic.hygienic false
set_option linter.all false
set_option backward.match.sparseCases false
namespace Mine.Lake
open PySem PySem.W PyProof.Rows
abbrev B1:=@wpAny_bind
abbrev B2:=@wpAny_pure
abbrev B3:=@wpAny_mono
abbrev B4:=@Nat.le_trans
abbrev B5:=@Nat.le_add_left
abbrev B6:=@List.mem_cons_of_mem
abbrev B7:=@Nat.lt_of_lt_of_le
abbrev B8:=@List.length_map
abbrev B9:=@List.mem_cons_self
abbrev Ca:=@Bool.and_eq_true
abbrev Cb:=@List.mem_cons
abbrev Cc:=@List.map_cons
abbrev Cd:=@List.mem_singleton
abbrev Ce:=@Array.length_toList
abbrev Cf:=@List.length_append
abbrev Cg:=@Nat.le_of_eq
abbrev Ch:=@List.length_cons
abbrev Ci:=@List.getD_eq_getElem?_getD
abbrev Cj:=@Nat.le_refl
abbrev Ck:=@Nat.lt_of_le_of_lt
abbrev Cl:=@List.mem_map
abbrev Cm:=@Nat.le_of_not_lt
abbrev Cn:=@List.append_nil
abbrev Co:=@List.append_cons
abbrev Cp:=@Nat.pow_le_pow_right
abbrev Cq:=@List.mem_append_right
abbrev Cr:=@List.drop_eq_getElem_cons
abbrev Cs:=@Nat.mul_le_mul_right
abbrev Ct:=@Int.natAbs_natCast
abbrev Cu:=@wpAny_call_entry
abbrev Cv:=@Int.toNat_natCast
abbrev Cw:=@Nat.le_add_right
abbrev Cx:=@List.foldl_cons
abbrev Cy:=@Bool.false_ne_true
abbrev Cz:=@List.mem_append
abbrev CA:=@List.all_eq_true
inductive And3(a1 a2 a3:Prop):Prop
 |mk (p1:a1) (p2:a2) (p3:a3):And3 a1 a2 a3
inductive And4(a1 a2 a3 a4:Prop):Prop
 |mk (p1:a1) (p2:a2) (p3:a3) (p4:a4):And4 a1 a2 a3 a4
inductive And5(a1 a2 a3 a4 a5:Prop):Prop
 |mk (p1:a1) (p2:a2) (p3:a3) (p4:a4) (p5:a5):And5 a1 a2 a3 a4 a5
inductive And6(a1 a2 a3 a4 a5 a6:Prop):Prop
 |mk (p1:a1) (p2:a2) (p3:a3) (p4:a4) (p5:a5) (p6:a6):And6 a1 a2 a3 a4 a5 a6
inductive And7(a1 a2 a3 a4 a5 a6 a7:Prop):Prop
 |mk (p1:a1) (p2:a2) (p3:a3) (p4:a4) (p5:a5) (p6:a6) (p7:a7):And7 a1 a2 a3 a4 a5 a6 a7
inductive And8(a1 a2 a3 a4 a5 a6 a7 a8:Prop):Prop
 |mk (p1:a1) (p2:a2) (p3:a3) (p4:a4) (p5:a5) (p6:a6) (p7:a7) (p8:a8):And8 a1 a2 a3 a4 a5 a6 a7 a8
inductive And9(a1 a2 a3 a4 a5 a6 a7 a8 a9:Prop):Prop
 |mk (p1:a1) (p2:a2) (p3:a3) (p4:a4) (p5:a5) (p6:a6) (p7:a7) (p8:a8) (p9:a9):And9 a1 a2 a3 a4 a5 a6 a7 a8 a9
inductive And10(a1 a2 a3 a4 a5 a6 a7 a8 a9 a10:Prop):Prop
 |mk (p1:a1) (p2:a2) (p3:a3) (p4:a4) (p5:a5) (p6:a6) (p7:a7) (p8:a8) (p9:a9) (p10:a10):And10 a1 a2 a3 a4 a5 a6 a7 a8 a9 a10
inductive And11(a1 a2 a3 a4 a5 a6 a7 a8 a9 a10 a11:Prop):Prop
 |mk (p1:a1) (p2:a2) (p3:a3) (p4:a4) (p5:a5) (p6:a6) (p7:a7) (p8:a8) (p9:a9) (p10:a10) (p11:a11):And11 a1 a2 a3 a4 a5 a6 a7 a8 a9 a10 a11
inductive And12(a1 a2 a3 a4 a5 a6 a7 a8 a9 a10 a11 a12:Prop):Prop
 |mk (p1:a1) (p2:a2) (p3:a3) (p4:a4) (p5:a5) (p6:a6) (p7:a7) (p8:a8) (p9:a9) (p10:a10) (p11:a11) (p12:a12):And12 a1 a2 a3 a4 a5 a6 a7 a8 a9 a10 a11 a12
inductive And14(a1 a2 a3 a4 a5 a6 a7 a8 a9 a10 a11 a12 a13 a14:Prop):Prop
 |mk (p1:a1) (p2:a2) (p3:a3) (p4:a4) (p5:a5) (p6:a6) (p7:a7) (p8:a8) (p9:a9) (p10:a10) (p11:a11) (p12:a12) (p13:a13) (p14:a14):And14 a1 a2 a3 a4 a5 a6 a7 a8 a9 a10 a11 a12 a13 a14
inductive Ex2{α1 α2:Type}(p:α1→α2→Prop):Prop where
 |intro(x1:α1) (x2:α2) (h:p x1 x2):Ex2 p
inductive Ex3{α1 α2 α3:Type}(p:α1→α2→α3→Prop):Prop where
 |intro(x1:α1) (x2:α2) (x3:α3) (h:p x1 x2 x3):Ex3 p
inductive Ex4{α1 α2 α3 α4:Type}(p:α1→α2→α3→α4→Prop):Prop where
 |intro(x1:α1) (x2:α2) (x3:α3) (x4:α4) (h:p x1 x2 x3 x4):Ex4 p
inductive Ex5{α1 α2 α3 α4 α5:Type}(p:α1→α2→α3→α4→α5→Prop):Prop where
 |intro(x1:α1) (x2:α2) (x3:α3) (x4:α4) (x5:α5) (h:p x1 x2 x3 x4 x5):Ex5 p
inductive Ex7{α1 α2 α3 α4 α5 α6 α7:Type}(p:α1→α2→α3→α4→α5→α6→α7→Prop):Prop where
 |intro(x1:α1) (x2:α2) (x3:α3) (x4:α4) (x5:α5) (x6:α6) (x7:α7) (h:p x1 x2 x3 x4 x5 x6 x7):Ex7 p
inductive Ex8{α1 α2 α3 α4 α5 α6 α7 α8:Type}(p:α1→α2→α3→α4→α5→α6→α7→α8→Prop):Prop where
 |intro(x1:α1) (x2:α2) (x3:α3) (x4:α4) (x5:α5) (x6:α6) (x7:α7) (x8:α8) (h:p x1 x2 x3 x4 x5 x6 x7 x8):Ex8 p
theorem cNo{α:Type _}{x:α}{P:Prop}(h:(none:Option α)=some x):P:=nomatch h
theorem cNs{α:Type _}{x:α}{P:Prop}(h:some x=(none:Option α)):P:=nomatch h
theorem cTf{P:Prop}(h:true=false):P:=nomatch h
theorem cFt{P:Prop}(h:false=true):P:=nomatch h
theorem cSo{α:Type _}{a b:α}{P:Prop}(h:some a=some b)(k:a=b→P):P:=k (Option.some.inj h)
theorem cSp{α β:Type _}{a b:α}{c d:β}{P:Prop}(h:some (a,c)=some (b,d))(k:a=b→c=d→P):P:=k (Prod.mk.inj (Option.some.inj h)).1 (Prod.mk.inj (Option.some.inj h)).2
theorem cPr{α β:Type _}{a b:α}{c d:β}{P:Prop}(h:(a,c)=(b,d))(k:a=b→c=d→P):P:=k (Prod.mk.inj h).1 (Prod.mk.inj h).2
theorem leb{a b:Nat}(h:Nat.ble a b=true):a≤b:=Nat.le_of_ble_eq_true h
theorem letr{a b c:Nat}(h:a≤b)(h':Nat.ble b c=true):a≤c:=B4 h (Nat.le_of_ble_eq_true h')
theorem ltltr{a b c:Nat}(h:a<b)(h':Nat.ble b c=true):a<c:=B7 h (Nat.le_of_ble_eq_true h')
theorem ltb{a b:Nat}(h:Nat.ble (a+1) b=true):a<b:=Nat.le_of_ble_eq_true h
universe u
@[elab_as_elim] theorem rG{α:Sort u}{a b:α}{P:α→Prop}(h:a=b)(k:P b):P a:=h▸k
@[elab_as_elim] theorem rL{α:Sort u}{a b:α}{P:α→Prop}(h:b=a)(k:P b):P a:=h▸k
theorem oA{p q P:Prop}(h:(p∧q))(k:p→q→P):P:=by obtain⟨h0,h1⟩:=h;exact k h0 h1
theorem oAA{p q r P:Prop}(h:(p∧(q∧r)))(k:p→q→r→P):P:=by obtain⟨h0,h1,h2⟩:=h;exact k h0 h1 h2
theorem BY{p q r s P:Prop}(h:(p∧(q∧(r∧s))))(k:p→q→r→s→P):P:=by obtain⟨h0,h1,h2,h3⟩:=h;exact k h0 h1 h2 h3
theorem wu{p q r s t P:Prop}(h:(p∧(q∧(r∧(s∧t)))))(k:p→q→r→s→t→P):P:=by obtain⟨h0,h1,h2,h3,h4⟩:=h;exact k h0 h1 h2 h3 h4
theorem oAE{α:Sort _}{p:Prop}{q:α→Prop}{P:Prop}(h:(p∧(∃a,q a)))(k:p→∀a,q a→P):P:=by obtain⟨h0,a,h2⟩:=h;exact k h0 a h2
theorem xJ{α:Sort _}{p:Prop}{q r:α→Prop}{P:Prop}(h:(p∧(∃a,(q a∧r a))))(k:p→∀a,q a→r a→P):P:=by obtain⟨h0,a,h2,h3⟩:=h;exact k h0 a h2 h3
theorem uH{α:Sort _}{p:Prop}{q r s t:α→Prop}{P:Prop}(h:(p∧(∃a,(And4 (q a) (r a) (s a) (t a)))))(k:p→∀a,q a→r a→s a→t a→P):P:=by obtain⟨h0,a,h2,h3,h4,h5⟩:=h;exact k h0 a h2 h3 h4 h5
theorem vc{α:Sort _}{β:Sort _}{p:Prop}{q r s:α→Prop}{t:α→β→Prop}{P:Prop}(h:(p∧(∃a,(And4 (q a) (r a) (s a) ((∃b,t a b))))))(k:p→∀a,q a→r a→s a→∀b,t a b→P):P:=by obtain⟨h0,a,h2,h3,h4,b,h6⟩:=h;exact k h0 a h2 h3 h4 b h6
theorem oE{α:Sort _}{p:α→Prop}{P:Prop}(h:(∃a,p a))(k:∀a,p a→P):P:=by obtain⟨a,h1⟩:=h;exact k a h1
theorem oEA{α:Sort _}{p q:α→Prop}{P:Prop}(h:(∃a,(p a∧q a)))(k:∀a,p a→q a→P):P:=by obtain⟨a,h1,h2⟩:=h;exact k a h1 h2
theorem lC{α:Sort _}{p q r:α→Prop}{P:Prop}(h:(∃a,(p a∧(q a∧r a))))(k:∀a,p a→q a→r a→P):P:=by obtain⟨a,h1,h2,h3⟩:=h;exact k a h1 h2 h3
theorem pg{α:Sort _}{p q r s:α→Prop}{P:Prop}(h:(∃a,(p a∧(q a∧(r a∧s a)))))(k:∀a,p a→q a→r a→s a→P):P:=by obtain⟨a,h1,h2,h3,h4⟩:=h;exact k a h1 h2 h3 h4
theorem pW{α:Sort _}{p q r s t u:α→Prop}{P:Prop}(h:(∃a,(p a∧(q a∧(r a∧(s a∧(t a∧u a)))))))(k:∀a,p a→q a→r a→s a→t a→u a→P):P:=by obtain⟨a,h1,h2,h3,h4,h5,h6⟩:=h;exact k a h1 h2 h3 h4 h5 h6
theorem yI{α:Sort _}{β:Sort _}{p q:α→Prop}{r:α→β→Prop}{P:Prop}(h:(∃a,(p a∧(q a∧(∃b,r a b)))))(k:∀a,p a→q a→∀b,r a b→P):P:=by obtain⟨a,h1,h2,b,h4⟩:=h;exact k a h1 h2 b h4
theorem wY{α:Sort _}{β γ δ:Type}{p:α→Prop}{q r s t:α→β→γ→δ→Prop}{P:Prop}(h:(∃a,(p a∧(Ex3 λb c d=>(And4 (q a b c d) (r a b c d) (s a b c d) (t a b c d))))))(k:∀a,p a→∀b,∀c,∀d,q a b c d→r a b c d→s a b c d→t a b c d→P):P:=by obtain⟨a,h1,b,c,d,h5,h6,h7,h8⟩:=h;exact k a h1 b c d h5 h6 h7 h8
theorem oEE{α:Sort _}{β:Sort _}{p:α→β→Prop}{P:Prop}(h:(∃a,(∃b,p a b)))(k:∀a,∀b,p a b→P):P:=by obtain⟨a,b,h2⟩:=h;exact k a b h2
theorem kN{α:Sort _}{β:Sort _}{p q:α→β→Prop}{P:Prop}(h:(∃a,(∃b,(p a b∧q a b))))(k:∀a,∀b,p a b→q a b→P):P:=by obtain⟨a,b,h2,h3⟩:=h;exact k a b h2 h3
theorem ut{α:Sort _}{β:Sort _}{p q r:α→β→Prop}{P:Prop}(h:(∃a,(∃b,(p a b∧(q a b∧r a b)))))(k:∀a,∀b,p a b→q a b→r a b→P):P:=by obtain⟨a,b,h2,h3,h4⟩:=h;exact k a b h2 h3 h4
theorem rg{α:Sort _}{β:Sort _}{p q r s t:α→β→Prop}{P:Prop}(h:(∃a,(∃b,(p a b∧(q a b∧(r a b∧(s a b∧t a b)))))))(k:∀a,∀b,p a b→q a b→r a b→s a b→t a b→P):P:=by obtain⟨a,b,h2,h3,h4,h5,h6⟩:=h;exact k a b h2 h3 h4 h5 h6
theorem vC{α:Sort _}{β:Sort _}{p q r s t u v:α→β→Prop}{P:Prop}(h:(∃a,(∃b,(p a b∧(q a b∧(And5 (r a b) (s a b) (t a b) (u a b) (v a b)))))))(k:∀a,∀b,p a b→q a b→r a b→s a b→t a b→u a b→v a b→P):P:=by obtain⟨a,b,h2,h3,h4,h5,h6,h7,h8⟩:=h;exact k a b h2 h3 h4 h5 h6 h7 h8
theorem jk{α:Sort _}{β:Sort _}{γ:Sort _}{p q:α→β→γ→Prop}{P:Prop}(h:(∃a,(∃b,(∃c,(p a b c∧q a b c)))))(k:∀a,∀b,∀c,p a b c→q a b c→P):P:=by obtain⟨a,b,c,h3,h4⟩:=h;exact k a b c h3 h4
theorem iu{α:Sort _}{β:Sort _}{γ:Sort _}{p q r:α→β→γ→Prop}{P:Prop}(h:(∃a,(∃b,(∃c,(p a b c∧(q a b c∧r a b c))))))(k:∀a,∀b,∀c,p a b c→q a b c→r a b c→P):P:=by obtain⟨a,b,c,h3,h4,h5⟩:=h;exact k a b c h3 h4 h5
theorem wt{α:Sort _}{β:Sort _}{γ:Sort _}{p q r s:α→β→γ→Prop}{P:Prop}(h:(∃a,(∃b,(∃c,(p a b c∧(q a b c∧(r a b c∧s a b c)))))))(k:∀a,∀b,∀c,p a b c→q a b c→r a b c→s a b c→P):P:=by obtain⟨a,b,c,h3,h4,h5,h6⟩:=h;exact k a b c h3 h4 h5 h6
theorem kJ{α:Sort _}{β:Sort _}{γ:Sort _}{δ:Sort _}{p q r s:α→β→γ→δ→Prop}{P:Prop}(h:(∃a,(∃b,(∃c,(∃d,(p a b c d∧(q a b c d∧(r a b c d∧s a b c d))))))))(k:∀a,∀b,∀c,∀d,p a b c d→q a b c d→r a b c d→s a b c d→P):P:=by obtain⟨a,b,c,d,h4,h5,h6,h7⟩:=h;exact k a b c d h4 h5 h6 h7
theorem qV{α:Sort _}{β:Sort _}{γ:Sort _}{δ:Sort _}{ε:Sort _}{p q r s:α→β→γ→δ→ε→Prop}{P:Prop}(h:(∃a,(∃b,(∃c,(∃d,(∃e,(p a b c d e∧(q a b c d e∧(r a b c d e∧s a b c d e)))))))))(k:∀a,∀b,∀c,∀d,∀e,p a b c d e→q a b c d e→r a b c d e→s a b c d e→P):P:=by obtain⟨a,b,c,d,e,h5,h6,h7,h8⟩:=h;exact k a b c d e h5 h6 h7 h8
theorem zK{α:Sort _}{β:Sort _}{γ:Sort _}{p q r:α→β→γ→Prop}{P:Prop}(h:(∃a,(∃b,(∃c,(And3 (p a b c) (q a b c) (r a b c))))))(k:∀a,∀b,∀c,p a b c→q a b c→r a b c→P):P:=by obtain⟨a,b,c,h3,h4,h5⟩:=h;exact k a b c h3 h4 h5
theorem u5{α:Sort _}{β:Sort _}{γ:Sort _}{p q r s t:α→β→γ→Prop}{P:Prop}(h:(∃a,(∃b,(∃c,(And5 (p a b c) (q a b c) (r a b c) (s a b c) (t a b c))))))(k:∀a,∀b,∀c,p a b c→q a b c→r a b c→s a b c→t a b c→P):P:=by obtain⟨a,b,c,h3,h4,h5,h6,h7⟩:=h;exact k a b c h3 h4 h5 h6 h7
theorem bJ{α:Sort _}{β:Sort _}{γ:Sort _}{p q r s t u v:α→β→γ→Prop}{P:Prop}(h:(∃a,(∃b,(∃c,(And7 (p a b c) (q a b c) (r a b c) (s a b c) (t a b c) (u a b c) (v a b c))))))(k:∀a,∀b,∀c,p a b c→q a b c→r a b c→s a b c→t a b c→u a b c→v a b c→P):P:=by obtain⟨a,b,c,h3,h4,h5,h6,h7,h8,h9⟩:=h;exact k a b c h3 h4 h5 h6 h7 h8 h9
theorem pk{α:Sort _}{β:Sort _}{p q r:α→β→Prop}{P:Prop}(h:(∃a,(∃b,(And3 (p a b) (q a b) (r a b)))))(k:∀a,∀b,p a b→q a b→r a b→P):P:=by obtain⟨a,b,h2,h3,h4⟩:=h;exact k a b h2 h3 h4
theorem cv{α:Sort _}{p q r:α→Prop}{P:Prop}(h:(∃a,(And3 (p a) (q a) (r a))))(k:∀a,p a→q a→r a→P):P:=by obtain⟨a,h1,h2,h3⟩:=h;exact k a h1 h2 h3
theorem kQ{α:Sort _}{p q r s:α→Prop}{P:Prop}(h:(∃a,(And4 (p a) (q a) (r a) (s a))))(k:∀a,p a→q a→r a→s a→P):P:=by obtain⟨a,h1,h2,h3,h4⟩:=h;exact k a h1 h2 h3 h4
theorem oa3{p q r P:Prop}(h:(And3 (p) (q) (r)))(k:p→q→r→P):P:=by obtain⟨h0,h1,h2⟩:=h;exact k h0 h1 h2
theorem oa4{p q r s P:Prop}(h:(And4 (p) (q) (r) (s)))(k:p→q→r→s→P):P:=by obtain⟨h0,h1,h2,h3⟩:=h;exact k h0 h1 h2 h3
theorem oa6{p q r s t u P:Prop}(h:(And6 (p) (q) (r) (s) (t) (u)))(k:p→q→r→s→t→u→P):P:=by obtain⟨h0,h1,h2,h3,h4,h5⟩:=h;exact k h0 h1 h2 h3 h4 h5
theorem oa7{p q r s t u v P:Prop}(h:(And7 (p) (q) (r) (s) (t) (u) (v)))(k:p→q→r→s→t→u→v→P):P:=by obtain⟨h0,h1,h2,h3,h4,h5,h6⟩:=h;exact k h0 h1 h2 h3 h4 h5 h6
theorem vT{α:Sort _}{β:Sort _}{p q r s t u:Prop}{v w f:α→β→Prop}{P:Prop}(h:(And7 (p) (q) (r) (s) (t) (u) ((∃a,(∃b,(And3 (v a b) (w a b) (f a b)))))))(k:p→q→r→s→t→u→∀a,∀b,v a b→w a b→f a b→P):P:=by obtain⟨h0,h1,h2,h3,h4,h5,a,b,h8,h9,h10⟩:=h;exact k h0 h1 h2 h3 h4 h5 a b h8 h9 h10
theorem zG{α β:Type}{p q:α→β→Prop}{P:Prop}(h:(Ex2 λa b=>(p a b∧q a b)))(k:∀a,∀b,p a b→q a b→P):P:=by obtain⟨a,b,h2,h3⟩:=h;exact k a b h2 h3
theorem A5{α β:Type}{p q r:α→β→Prop}{P:Prop}(h:(Ex2 λa b=>(And3 (p a b) (q a b) (r a b))))(k:∀a,∀b,p a b→q a b→r a b→P):P:=by obtain⟨a,b,h2,h3,h4⟩:=h;exact k a b h2 h3 h4
theorem kY{α β γ:Type}{p q r s:α→β→γ→Prop}{P:Prop}(h:(Ex3 λa b c=>(And4 (p a b c) (q a b c) (r a b c) (s a b c))))(k:∀a,∀b,∀c,p a b c→q a b c→r a b c→s a b c→P):P:=by obtain⟨a,b,c,h3,h4,h5,h6⟩:=h;exact k a b c h3 h4 h5 h6
theorem Bp{α β γ δ:Type}{p q:α→β→γ→δ→Prop}{P:Prop}(h:(Ex4 λa b c d=>(p a b c d∧q a b c d)))(k:∀a,∀b,∀c,∀d,p a b c d→q a b c d→P):P:=by obtain⟨a,b,c,d,h4,h5⟩:=h;exact k a b c d h4 h5
theorem zD{α β γ δ ε:Type}{p q r s:α→β→γ→δ→ε→Prop}{P:Prop}(h:(Ex5 λa b c d e=>(And4 (p a b c d e) (q a b c d e) (r a b c d e) (s a b c d e))))(k:∀a,∀b,∀c,∀d,∀e,p a b c d e→q a b c d e→r a b c d e→s a b c d e→P):P:=by obtain⟨a,b,c,d,e,h5,h6,h7,h8⟩:=h;exact k a b c d e h5 h6 h7 h8
theorem iAA{p q r:Prop}(h0:p)(h1:q)(h2:r):(p∧(q∧r)):=⟨h0,h1,h2⟩
theorem xG{α:Sort _}{p:Prop}{q r:α→Prop}(h0:p)(a)(h2:q a)(h3:r a):(p∧(∃a,(q a∧r a))):=⟨h0,a,h2,h3⟩
theorem cj{α:Sort _}{p:Prop}{q r s t:α→Prop}(h0:p)(a)(h2:q a)(h3:r a)(h4:s a)(h5:t a):(p∧(∃a,(And4 (q a) (r a) (s a) (t a)))):=⟨h0,a,h2,h3,h4,h5⟩
theorem zV{α β:Type}{p:Prop}{q r:α→β→Prop}(h0:p)(a)(b)(h3:q a b)(h4:r a b):(p∧(Ex2 λa b=>(q a b∧r a b))):=⟨h0,a,b,h3,h4⟩
theorem jx{α β:Type}{p:Prop}{q r s t u:α→β→Prop}(h0:p)(a)(b)(h3:q a b)(h4:r a b)(h5:s a b)(h6:t a b)(h7:u a b):(p∧(Ex2 λa b=>(And5 (q a b) (r a b) (s a b) (t a b) (u a b)))):=⟨h0,a,b,h3,h4,h5,h6,h7⟩
theorem iEA{α:Sort _}{p q:α→Prop}(a)(h1:p a)(h2:q a):(∃a,(p a∧q a)):=⟨a,h1,h2⟩
theorem vb{α:Sort _}{p q r:α→Prop}(a)(h1:p a)(h2:q a)(h3:r a):(∃a,(p a∧(q a∧r a))):=⟨a,h1,h2,h3⟩
theorem y9{α:Sort _}{p q r s:α→Prop}(a)(h1:p a)(h2:q a)(h3:r a)(h4:s a):(∃a,(p a∧(q a∧(r a∧s a)))):=⟨a,h1,h2,h3,h4⟩
theorem wl{α:Sort _}{β:Sort _}{p q:α→Prop}{r:α→β→Prop}(a)(h1:p a)(h2:q a)(b)(h4:r a b):(∃a,(p a∧(q a∧(∃b,r a b)))):=⟨a,h1,h2,b,h4⟩
theorem yU{α:Sort _}{p q r s:α→Prop}(a)(h1:p a)(h2:q a)(h3:r a)(h4:s a):(∃a,(p a∧(And3 (q a) (r a) (s a)))):=⟨a,h1,h2,h3,h4⟩
theorem zY{α:Sort _}{β:Sort _}{p q:α→β→Prop}(a)(b)(h2:p a b)(h3:q a b):(∃a,(∃b,(p a b∧q a b))):=⟨a,b,h2,h3⟩
theorem wW{α:Sort _}{β:Sort _}{p q r:α→β→Prop}(a)(b)(h2:p a b)(h3:q a b)(h4:r a b):(∃a,(∃b,(p a b∧(q a b∧r a b)))):=⟨a,b,h2,h3,h4⟩
theorem jW{α:Sort _}{β:Sort _}{p q r s t u:α→β→Prop}(a)(b)(h2:p a b)(h3:q a b)(h4:r a b)(h5:s a b)(h6:t a b)(h7:u a b):(∃a,(∃b,(p a b∧(q a b∧(r a b∧(s a b∧(t a b∧u a b))))))):=⟨a,b,h2,h3,h4,h5,h6,h7⟩
theorem oU{α:Sort _}{β:Sort _}{γ:Sort _}{p q:α→β→γ→Prop}(a)(b)(c)(h3:p a b c)(h4:q a b c):(∃a,(∃b,(∃c,(p a b c∧q a b c)))):=⟨a,b,c,h3,h4⟩
theorem vl{α:Sort _}{β:Sort _}{γ:Sort _}{p q r:α→β→γ→Prop}(a)(b)(c)(h3:p a b c)(h4:q a b c)(h5:r a b c):(∃a,(∃b,(∃c,(p a b c∧(q a b c∧r a b c))))):=⟨a,b,c,h3,h4,h5⟩
theorem oq{α:Sort _}{β:Sort _}{γ:Sort _}{δ:Sort _}{p q r s:α→β→γ→δ→Prop}(a)(b)(c)(d)(h4:p a b c d)(h5:q a b c d)(h6:r a b c d)(h7:s a b c d):(∃a,(∃b,(∃c,(∃d,(p a b c d∧(q a b c d∧(r a b c d∧s a b c d))))))):=⟨a,b,c,d,h4,h5,h6,h7⟩
theorem t5{α:Sort _}{β:Sort _}{p q r:α→β→Prop}(a)(b)(h2:p a b)(h3:q a b)(h4:r a b):(∃a,(∃b,(And3 (p a b) (q a b) (r a b)))):=⟨a,b,h2,h3,h4⟩
theorem iEa3{α:Sort _}{p q r:α→Prop}(a)(h1:p a)(h2:q a)(h3:r a):(∃a,(And3 (p a) (q a) (r a))):=⟨a,h1,h2,h3⟩
theorem sL{α:Sort _}{p q r s:α→Prop}(a)(h1:p a)(h2:q a)(h3:r a)(h4:s a):(∃a,(And4 (p a) (q a) (r a) (s a))):=⟨a,h1,h2,h3,h4⟩
theorem AF{α:Sort _}{p q r s t:α→Prop}(a)(h1:p a)(h2:q a)(h3:r a)(h4:s a)(h5:t a):(∃a,(And5 (p a) (q a) (r a) (s a) (t a))):=⟨a,h1,h2,h3,h4,h5⟩
theorem Bf{α:Sort _}{p q r s t u v:α→Prop}(a)(h1:p a)(h2:q a)(h3:r a)(h4:s a)(h5:t a)(h6:u a)(h7:v a):(∃a,(And7 (p a) (q a) (r a) (s a) (t a) (u a) (v a))):=⟨a,h1,h2,h3,h4,h5,h6,h7⟩
theorem Ak{α β:Type}{p q:α→β→Prop}(a)(b)(h2:p a b)(h3:q a b):(Ex2 λa b=>(p a b∧q a b)):=⟨a,b,h2,h3⟩
theorem tD{α β:Type}{p q r:α→β→Prop}(a)(b)(h2:p a b)(h3:q a b)(h4:r a b):(Ex2 λa b=>(And3 (p a b) (q a b) (r a b))):=⟨a,b,h2,h3,h4⟩
theorem du{α β:Type}{γ:Sort _}{p q r:α→β→Prop}{s t u v:α→β→γ→Prop}(a)(b)(h2:p a b)(h3:q a b)(h4:r a b)(c)(h6:s a b c)(h7:t a b c)(h8:u a b c)(h9:v a b c):(Ex2 λa b=>(And3 (p a b) (q a b) ((r a b∧(∃c,(And4 (s a b c) (t a b c) (u a b c) (v a b c))))))):=⟨a,b,h2,h3,h4,c,h6,h7,h8,h9⟩
theorem se{α β:Type}{p q r s t:α→β→Prop}(a)(b)(h2:p a b)(h3:q a b)(h4:r a b)(h5:s a b)(h6:t a b):(Ex2 λa b=>(And3 (p a b) (q a b) ((And3 (r a b) (s a b) (t a b))))):=⟨a,b,h2,h3,h4,h5,h6⟩
theorem vn{α β:Type}{p q r s t u:α→β→Prop}(a)(b)(h2:p a b)(h3:q a b)(h4:r a b)(h5:s a b)(h6:t a b)(h7:u a b):(Ex2 λa b=>(And5 (p a b) (q a b) (r a b) (s a b) ((t a b∧u a b)))):=⟨a,b,h2,h3,h4,h5,h6,h7⟩
theorem ij{α β:Type}{p q r s t u v:α→β→Prop}(a)(b)(h2:p a b)(h3:q a b)(h4:r a b)(h5:s a b)(h6:t a b)(h7:u a b)(h8:v a b):(Ex2 λa b=>(And7 (p a b) (q a b) (r a b) (s a b) (t a b) (u a b) (v a b))):=⟨a,b,h2,h3,h4,h5,h6,h7,h8⟩
theorem mR{α β:Type}{p q r s t u v w f:α→β→Prop}(a)(b)(h2:p a b)(h3:q a b)(h4:r a b)(h5:s a b)(h6:t a b)(h7:u a b)(h8:v a b)(h9:w a b)(h10:f a b):(Ex2 λa b=>(And9 (p a b) (q a b) (r a b) (s a b) (t a b) (u a b) (v a b) (w a b) (f a b))):=⟨a,b,h2,h3,h4,h5,h6,h7,h8,h9,h10⟩
theorem nN{α β γ:Type}{p q r s t u v w f g:α→β→γ→Prop}(a)(b)(c)(h3:p a b c)(h4:q a b c)(h5:r a b c)(h6:s a b c)(h7:t a b c)(h8:u a b c)(h9:v a b c)(h10:w a b c)(h11:f a b c)(h12:g a b c):(Ex3 λa b c=>(And10 (p a b c) (q a b c) (r a b c) (s a b c) (t a b c) (u a b c) (v a b c) (w a b c) (f a b c) (g a b c))):=⟨a,b,c,h3,h4,h5,h6,h7,h8,h9,h10,h11,h12⟩
theorem vV{α β γ:Type}{p q r s:α→β→γ→Prop}(a)(b)(c)(h3:p a b c)(h4:q a b c)(h5:r a b c)(h6:s a b c):(Ex3 λa b c=>(And4 (p a b c) (q a b c) (r a b c) (s a b c))):=⟨a,b,c,h3,h4,h5,h6⟩
theorem oK{α β γ:Type}{p q r s t u v:α→β→γ→Prop}(a)(b)(c)(h3:p a b c)(h4:q a b c)(h5:r a b c)(h6:s a b c)(h7:t a b c)(h8:u a b c)(h9:v a b c):(Ex3 λa b c=>(And7 (p a b c) (q a b c) (r a b c) (s a b c) (t a b c) (u a b c) (v a b c))):=⟨a,b,c,h3,h4,h5,h6,h7,h8,h9⟩
theorem l0{α β γ:Type}{p q r s t u v w:α→β→γ→Prop}(a)(b)(c)(h3:p a b c)(h4:q a b c)(h5:r a b c)(h6:s a b c)(h7:t a b c)(h8:u a b c)(h9:v a b c)(h10:w a b c):(Ex3 λa b c=>(And8 (p a b c) (q a b c) (r a b c) (s a b c) (t a b c) (u a b c) (v a b c) (w a b c))):=⟨a,b,c,h3,h4,h5,h6,h7,h8,h9,h10⟩
theorem zu{α β:Type}{p:Prop}{q r:α→β→Prop}{P:Prop}(h:(p∧(Ex2 λa b=>(q a b∧r a b))))(k:p→∀a,∀b,q a b→r a b→P):P:=by obtain⟨h0,a,b,h3,h4⟩:=h;exact k h0 a b h3 h4
theorem zL{α β γ:Type}{p q r:α→β→γ→Prop}{P:Prop}(h:(Ex3 λa b c=>(And3 (p a b c) (q a b c) (r a b c))))(k:∀a,∀b,∀c,p a b c→q a b c→r a b c→P):P:=by obtain⟨a,b,c,h3,h4,h5⟩:=h;exact k a b c h3 h4 h5
theorem BU{α β γ δ ε:Type}{p q:α→β→γ→δ→ε→Prop}{P:Prop}(h:(Ex5 λa b c d e=>(p a b c d e∧q a b c d e)))(k:∀a,∀b,∀c,∀d,∀e,p a b c d e→q a b c d e→P):P:=by obtain⟨a,b,c,d,e,h5,h6⟩:=h;exact k a b c d e h5 h6
@[elab_as_elim] theorem cS1{α:Type _}{a b:α}{P:α→Prop}(h:some a=some b)(k:P a):P b:=Option.some.inj h▸k
@[elab_as_elim] theorem vr{α:Type _}{a b:α}{P:α→Prop}(h:some a=some b)(k:P b):P a:=Option.some.inj h▸k
@[elab_as_elim] theorem cS2{α β:Type _}{a c:α}{b d:β}{P:α→β→Prop}(h:some (a,b)=some (c,d))(k:P a b):P c d:=by cases h;exact k
@[elab_as_elim] theorem cS3{α β γ:Type _}{a c:α}{b d:β}{e f:γ}{P:α→β→γ→Prop}(h:some ((a,b),e)=some ((c,d),f))(k:P a b e):P c d f:=by cases h;exact k
@[elab_as_elim] theorem cP2{α β:Type _}{a c:α}{b d:β}{P:α→β→Prop}(h:(a,b)=(c,d))(k:P a b):P c d:=by cases h;exact k
@[elab_as_elim] theorem B0{α β:Type _}{a c:α}{b d:β}{P:α→β→Prop}(h:(a,b)=(c,d))(k:P c d):P a b:=by cases h;exact k
inductive V where
 |nn
 |bool (b:Bool)
 |int (i:Int)
 |str (s:Str)
 |tup (vs:List V)
 |cell (c:Nat)
 |fro (xs:List Int)
 deriving Inhabited
inductive K where
 |i (n:Int)
 |t (ns:List Int)
 deriving DecidableEq,Inhabited
inductive O where
 |list (vs:List V)
 |dict (es:List (K×V))
 deriving Inhabited
abbrev CH:=List (O×Nat)
abbrev M(α:Type):=CH→Option (α×CH)
abbrev Env:=List (Str×V)
noncomputable def ok{α:Type}(a:α):M α:=λC=>some (a,C)
noncomputable def no{α:Type}:M α:=λxx=>none
noncomputable def bd{α β:Type}(m:M α)(f:α→M β):M β:=λC=>match m C with
 |some (a,C')=>f a C'
 |none=>none
noncomputable def lift{α:Type}(o:Option α):M α:=λC=>match o with
 |some a=>some (a,C)
 |none=>none
noncomputable def leq:List Nat→List Nat→Bool
 |[],[]=>true
 |a::x,b::y=>match Nat.beq a b with|true=>leq x y|false=>false
 |_,_=>false
noncomputable def seq(a b:Str):Bool:=leq a.cps.toList b.cps.toList
noncomputable def af(x:Str):Env→Option V
 |[]=>none
 |(y,v)::r=>match seq x y with|true=>some v|false=>af x r
noncomputable def aR(sc:Scope)(x:Str):Option NameKind:=go sc.names where
 go:List (Str×NameKind)→Option NameKind
  |[]=>none
  |(y,k)::r=>match seq x y with|true=>some k|false=>go r
noncomputable def V.ints:List V→Option (List Int)
 |[]=>some []
 |.int i::r=>match V.ints r with|some l=>some (i::l)|none=>none
 |_=>none
noncomputable def V.key:V→Option K
 |.int i=>some (.i i)
 |.tup vs=>match V.ints vs with|some l=>some (.t l)|none=>none
 |_=>none
noncomputable def K.v:K→V
 |.i n=>.int n
 |.t ns=>.tup (ns.map .int)
noncomputable def new(o:O):M V:=λC=>some (.cell C.length,C++[(o,0)])
noncomputable def at?(C:CH)(c:Nat):Option O:=match C[c]? with|some p=>some p.1|none=>none
noncomputable def av(c:Nat):M O:=λC=>match C[c]? with|some p=>some (p.1,C)|none=>none
noncomputable def put(c:Nat)(o:O):M Unit:=λC=>match C[c]? with|some p=>some ((),C.set c (o,p.2+1))|none=>none
noncomputable def lk(k:K):List (K×V)→Option V
 |[]=>none
 |(j,v)::r=>if j=k then some v else lk k r
noncomputable def st(k:K)(v:V):List (K×V)→List (K×V)
 |[]=>[(k,v)]
 |(j,u)::r=>if j=k then(j,v)::r else(j,u)::st k v r
noncomputable def rm(k:K):List (K×V)→List (K×V)
 |[]=>[]
 |(j,u)::r=>if j=k then r else(j,u)::rm k r
noncomputable def K.isT:K→Bool|.t _=>true|.i _=>false
noncomputable def am(k:K)(es:List (K×V)):Bool:=es.all λe=>e.1.isT==k.isT
noncomputable def i0:K→Int
 |.i n=>hashInt n
 |.t ns=>reduceHash (Builtin.Tuple.tupleHashOf (ns.map hashInt))
noncomputable def bX:List Int→Bool
 |[]=>true
 |a::r=>!(r.any λb=>decide (b=a))&&bX r
noncomputable def eqs(f:V→V→Option Bool):List V→List V→Option Bool
 |[],[]=>some true
 |a::x,b::y=>match f a b,eqs f x y with
  |some p,some q=>some (p&&q)
  |_,_=>none
 |_,_=>none
noncomputable def eqd(f:V→V→Option Bool)(es:List (K×V)):List (K×V)→Option Bool
 |[]=>some true
 |(k,v)::r=>match lk k es with
  |none=>some false
  |some u=>match f v u with
   |some true=>eqd f es r
   |some false=>some false
   |none=>none
noncomputable def bL(es fs:List (K×V)):Bool:=match es,fs with
 |(k,_)::_,fs=>am k es&&am k fs
 |[],(k,_)::_=>am k fs
 |[],[]=>true
noncomputable def eqv(C:CH):Nat→V→V→Option Bool
 |0,_,_=>none
 |_+1,.int a,.int b=>some (decide (a=b))
 |_+1,.str a,.str b=>some (seq a b)
 |n+1,.tup xs,.tup ys=>eqs (eqv C n) xs ys
 |n+1,.cell c,.cell d=>match at? C c,at? C d with
  |some (.list xs),some (.list ys)=>if xs.length=ys.length then eqs (eqv C n) xs ys else some false
  |some (.dict es),some (.dict fs)=>if bL es fs then(if es.length=fs.length then eqd (eqv C n) fs es else some false) else none
  |_,_=>none
 |_+1,_,_=>none
noncomputable def bI:List Int→List Int→Bool
 |a::x,b::y=>if a=b then bI x y else decide (b<a)
 |_::_,[]=>true
 |[],_=>false
noncomputable def lts(lt:V→V→Option Bool)(eq:V→V→Option Bool):List V→List V→Option Bool
 |[],[]=>some false
 |[],_::_=>some true
 |_::_,[]=>some false
 |a::x,b::y=>match eq a b with
  |some true=>lts lt eq x y
  |some false=>lt a b
  |none=>none
noncomputable def ltv(C:CH):Nat→V→V→Option Bool
 |0,_,_=>none
 |_+1,.int a,.int b=>some (decide (a<b))
 |n+1,.tup xs,.tup ys=>lts (ltv C n) (eqv C n) xs ys
 |n+1,.cell c,.cell d=>match at? C c,at? C d with
  |some (.list xs),some (.list ys)=>lts (ltv C n) (eqv C n) xs ys
  |_,_=>none
 |_+1,_,_=>none
noncomputable def fit(i:Int):Bool:=decide (i.natAbs.log2<8000)
noncomputable def dh(op:Operator)(a b:V):M V:=match op,a,b with
 |.Add,.int x,.int y=>ok (.int (x+y))
 |.Sub,.int x,.int y=>ok (.int (x-y))
 |.Mult,.int x,.int y=>λC=>if fit x&&fit y then some (.int (x*y),C) else none
 |.FloorDiv,.int x,.int y=>λC=>if y≠0∧fit y=true then some (.int (x.fdiv y),C) else none
 |.Mod,.int x,.int y=>λC=>if y=0 then none else some (.int (x.fmod y),C)
 |.Pow,.int x,.int y=>λC=>if 0≤y∧y≤1000∧x.natAbs<2^64 then some (.int (x^y.toNat),C) else none
 |.Add,.tup x,.tup y=>λC=>if(x++y).length≤1000 then some (.tup (x++y),C) else none
 |.Add,.cell c,.cell d=>bd (av c) λo=>bd (av d) λp=>match o,p with
  |.list x,.list y=>λC=>if(x++y).length≤10000 then new (.list (x++y)) C else none
  |_,_=>no
 |.Mult,.cell c,.int n=>bd (av c) λo=>match o with
  |.list [x]=>λC=>if -10000≤n∧n≤10000 then new (.list (List.replicate n.toNat x)) C else none
  |_=>no
 |_,_,_=>no
noncomputable def yv(a b:V):M Bool:=match b with
 |.cell c=>bd (av c) λo=>match o,a.key with
  |.dict es,some k=>λC=>if am k es then some ((lk k es).isSome,C) else none
  |_,_=>no
 |.tup vs=>match a,V.ints vs with
  |.int i,some l=>ok (l.any λj=>decide (j=i))
  |_,_=>no
 |_=>no
noncomputable def cmp(op:CmpOp)(a b:V):M Bool:=match op,a,b with
 |.Eq,a,b=>λC=>match eqv C 6 a b with|some r=>some (r,C)|none=>none
 |.NotEq,a,b=>λC=>match eqv C 6 a b with|some r=>some (!r,C)|none=>none
 |.Lt,.int x,.int y=>ok (decide (x<y))
 |.LtE,.int x,.int y=>ok (decide (x≤y))
 |.Gt,.int x,.int y=>ok (decide (y<x))
 |.Gt,.tup x,.tup y=>match V.ints x,V.ints y with
  |some l,some m=>ok (bI l m)
  |_,_=>no
 |.Is,.nn,.nn=>ok true
 |.Is,.tup _,.nn=>ok false
 |.Is,.cell _,.nn=>ok false
 |.IsNot,.nn,.nn=>ok false
 |.IsNot,.tup _,.nn=>ok true
 |.IsNot,.cell _,.nn=>ok true
 |.In,a,b=>yv a b
 |.NotIn,a,b=>bd (yv a b) λr=>ok (!r)
 |_,_,_=>no
noncomputable def nth(vs:List V)(i:Int):Option V:=
 if 100000<vs.length then none else if 0≤i then vs[i.toNat]? else if 0≤i+vs.length then vs[(i+vs.length).toNat]? else none
noncomputable def d8(o i:V):M V:=match o,i with
 |.tup vs,.int i=>lift (nth vs i)
 |.cell c,i=>bd (av c) λo=>match o,i with
  |.list vs,.int i=>lift (nth vs i)
  |.dict es,i=>match i.key with
   |some k=>λC=>if am k es then lift (lk k es) C else none
   |none=>no
  |_,_=>no
 |_,_=>no
noncomputable def iM(o i v:V):M Unit:=match o with
 |.cell c=>bd (av c) λo=>match o,i with
  |.list vs,.int i=>λC=>if 0≤i∧i<vs.length then put c (.list (vs.set i.toNat v)) C else none
  |.dict es,i=>match i.key with
   |some k=>λC=>if am k es∧es.length≤10000 then put c (.dict (st k v es)) C else none
   |none=>no
  |_,_=>no
 |_=>no
noncomputable def o2:List V→Option Int
 |[]=>some 0
 |.int i::r=>match o2 r with|some t=>some (i+t)|none=>none
 |_=>none
noncomputable def items(v:V):M (List V):=match v with
 |.tup vs=>ok vs
 |.cell c=>bd (av c) λo=>match o with
  |.list vs=>ok vs
  |.dict es=>ok (es.map λe=>e.1.v)
 |_=>no
noncomputable def sJ:Int→List Int→Int
 |m,[]=>m
 |m,x::r=>sJ (if m<x then x else m) r
noncomputable def dS{α:Type}(ask:Nat→Nat→Option Bool):PySem.W.KasT α→Option α
 |.ret a=>some a
 |.ask i j k=>match ask i j with|some b=>dS ask (k b)|none=>none
noncomputable def pP(vs:List V):List Nat→Option (List V)
 |[]=>some []
 |i::r=>match vs[i]?,pP vs r with|some v,some l=>some (v::l)|_,_=>none
noncomputable def db(int:Bool):V→Bool
 |.tup (.int _::_)=>int
 |.tup (.tup _::_)=>!int
 |_=>false
noncomputable def dj(C:CH)(vs:List V):Option (List V):=
 match vs with
 |[]=>some vs
 |[_]=>some vs
 |vs=>match vs.all (db true) || vs.all (db false) with
  |true=>match dS (λi j=>match vs[i]?,vs[j]? with|some a,some b=>ltv C 8 a b|_,_=>none) (PySem.W.kas_sort vs.length) with
   |some p=>match pP vs p.toList with
    |some us=>if us.length≤100 then some us else none
    |none=>none
   |none=>none
  |false=>none
noncomputable def BE:List V→M V
 |[.tup vs]=>λC=>if vs.length≤100000 then some (.int vs.length,C) else none
 |[.cell c]=>bd (av c) λo=>match o with
  |.list vs=>ok (.int vs.length)
  |.dict es=>ok (.int es.length)
 |_=>no
noncomputable def Bz:List V→M V
 |[.int i]=>ok (.int i.natAbs)
 |_=>no
noncomputable def Bk:List V→M V
 |[.tup vs]=>lift ((o2 vs).map .int)
 |[.cell c]=>bd (av c) λo=>match o with
  |.list vs=>lift ((o2 vs).map .int)
  |_=>no
 |_=>no
noncomputable def Bh:List V→M V
 |[.int a,.int b]=>ok (.int (if a<b then b else a))
 |[.cell c]=>bd (av c) λo=>match o with
  |.dict es=>match V.ints (es.map λe=>e.1.v) with
   |some (x::r)=>ok (.int (sJ x r))
   |_=>no
  |_=>no
 |_=>no
noncomputable def uP:List V→M V
 |[.cell c]=>bd (av c) λo=>match o with
  |.list vs=>ok (.tup vs)
  |_=>no
 |_=>no
noncomputable def zv:List V→M V
 |[.cell c]=>bd (av c) λo=>match o with
  |.list vs=>λC=>if vs.length≤10000 then new (.list vs) C else none
  |_=>no
 |_=>no
noncomputable def xY:List V→M V
 |[.cell c]=>bd (av c) λo=>match o with
  |.dict es=>λC=>if am (.t []) es&&bX (es.map λe=>i0 e.1)&&decide (es.length≤10000) then new (.dict es) C else none
  |_=>no
 |_=>no
noncomputable def builtin(f:Str)(args:List V):M V:=
 if seq f "len" then BE args else
 if seq f "abs" then Bz args else
 if seq f "sum" then Bk args else
 if seq f "max" then Bh args else
 if seq f "tuple" then uP args else
 if seq f "list" then zv args else
 if seq f "dict" then xY args else no
noncomputable def qv(c:Nat)(vs:List V):List V→M V
 |[v]=>λC=>if vs.length≤10000 then(bd (put c (.list (vs++[v]))) λxx=>ok .nn) C else none
 |_=>no
noncomputable def rf(c:Nat)(vs:List V):List V→M V
 |[.cell d]=>if c=d then no else bd (av d) λp=>match p with
  |.list us=>λC=>if(vs++us).length≤10000 then(bd (put c (.list (vs++us))) λxx=>ok .nn) C else none
  |_=>no
 |_=>no
noncomputable def Bd(c:Nat)(vs:List V):List V→M V
 |[.int i]=>λC=>if 0≤i then match vs[i.toNat]? with
   |some v=>(bd (put c (.list (vs.eraseIdx i.toNat))) λxx=>ok v) C
   |none=>none
  else none
 |_=>no
noncomputable def za(c:Nat)(vs:List V):List V→M V
 |[]=>λC=>if vs.length≤3 then(bd (put c (.list [])) λxx=>λC=>match dj C vs with
   |some us=>(bd (put c (.list us)) λxx=>ok .nn) C
   |none=>none) C
  else none
 |_=>no
noncomputable def By(c:Nat)(es:List (K×V)):List V→M V
 |[k]=>match k.key with
  |some k=>λC=>if am k es then match lk k es with
    |some v=>(bd (put c (.dict (rm k es))) λxx=>ok v) C
    |none=>none
   else none
  |none=>no
 |[k,d]=>match k.key with
  |some k=>λC=>if am k es then match lk k es with
    |some v=>(bd (put c (.dict (rm k es))) λxx=>ok v) C
    |none=>some (d,C)
   else none
  |none=>no
 |_=>no
noncomputable def Bj(es:List (K×V)):List V→M V
 |[k,d]=>match k.key with
  |some k=>λC=>if am k es then match lk k es with
    |some v=>some (v,C)
    |none=>some (d,C)
   else none
  |none=>no
 |_=>no
noncomputable def mT(m:Str)(c:Nat)(vs:List V)(args:List V):M V:=
 if seq m "append" then qv c vs args else
 if seq m "extend" then rf c vs args else
 if seq m "pop" then Bd c vs args else
 if seq m "sort" then za c vs args else no
noncomputable def m4(m:Str)(c:Nat)(es:List (K×V))(args:List V):M V:=
 if seq m "pop" then By c es args else
 if seq m "get" then Bj es args else no
noncomputable def nR(m:Str)(o:V)(args:List V):M V:=match o with
 |.cell c=>bd (av c) λo=>match o with
  |.list vs=>mT m c vs args
  |.dict es=>m4 m c es args
 |_=>no
inductive Fl where
 |next|cont|ret (v:V)
 deriving Inhabited
structure Ev where
 expr:Scope→Expr→Env→M V
 test:Scope→Expr→Env→M Bool
 stmt:Scope→Stmt→Env→M (Fl×Env)
 call:Str→List V→M V
noncomputable def evs(f:Expr→M V):List Expr→M (List V)
 |[]=>ok []
 |e::r=>bd (f e) λv=>bd (evs f r) λvs=>ok (v::vs)
noncomputable def pJ(op:BoolOp)(f:Expr→M Bool):List Expr→M Bool
 |[]=>ok (op==.And)
 |e::r=>bd (f e) λb=>match op,b with
  |.And,false=>ok false
  |.Or,true=>ok true
  |_,_=>pJ op f r
noncomputable def execs(f:Stmt→Env→M (Fl×Env)):List Stmt→Env→M (Fl×Env)
 |[],σ=>ok (.next,σ)
 |s::r,σ=>bd (f s σ) λp=>match p with
  |(.next,σ')=>execs f r σ'
  |p=>ok p
noncomputable def ba:List Expr→Option (List Str)
 |[]=>some []
 |.Name x _::r=>match ba r with|some l=>some (x::l)|none=>none
 |_=>none
noncomputable def aW:List Str→List V→Env→Option Env
 |[],[],σ=>some σ
 |x::xs,v::vs,σ=>aW xs vs ((x,v)::σ)
 |_,_,_=>none
noncomputable def bt:List Str→Bool
 |[]=>true
 |x::r=>!(r.any λy=>seq x y)&&bt r
noncomputable def target(t:Expr)(v:V)(σ:Env):Option Env:=match t,v with
 |.Name x _,v=>some ((x,v)::σ)
 |.Tuple ts _ _,.tup vs=>match ba ts with
  |some xs=>if bt xs then aW xs vs σ else none
  |none=>none
 |_,_=>none
noncomputable def io:Expr→Bool
 |.Starred ..=>true
 |_=>false
noncomputable def ao(args:List Expr):Bool:=decide (args.length≤8)&&!(args.any io)
noncomputable def eh:Nat→List V→List V
 |_,[]=>[]
 |n,v::r=>.tup [.int n,v]::eh (n+1) r
noncomputable def range(a b:Int):List V:=(List.range (b-a).toNat).map λk=>.int (a+(k:Nat))
noncomputable def eJ(v:V):M (List V×Option Nat):=match v with
 |.tup vs=>ok (vs,none)
 |.cell c=>bd (items (.cell c)) λvs=>ok (vs,some c)
 |_=>no
noncomputable def jp(i:Int):Bool:=decide (-1000000≤i)&&decide (i≤1000000)
noncomputable def vo(f:Expr→M V):List Expr→M (List V×Option Nat)
 |[a]=>bd (f a) λv=>match v with
  |.int n=>match jp n with|true=>ok (range 0 n,none)|false=>no
  |_=>no
 |[a,b]=>bd (f a) λu=>bd (f b) λv=>match u,v with
  |.int m,.int n=>match jp m&&jp n with|true=>ok (range m n,none)|false=>no
  |_,_=>no
 |_=>no
noncomputable def yp(f:Expr→M V):List Expr→M (List V×Option Nat)
 |[a]=>bd (f a) λv=>match v with
  |.tup vs=>ok (eh 0 vs,none)
  |.cell c=>bd (av c) λo=>match o with
   |.list vs=>ok (eh 0 vs,some c)
   |_=>no
  |_=>no
 |_=>no
noncomputable def BA(f:Expr→M V):List Expr→M (List V×Option Nat)
 |[a]=>bd (f a) λv=>match v with
  |.cell c=>bd (av c) λo=>match o with
   |.list vs=>ok (vs.reverse,some c)
   |_=>no
  |_=>no
 |_=>no
noncomputable def eG(tp:Bool)(f:Expr→M V)(e:Expr)(x:Str)(args:List Expr):M (List V×Option Nat):=
 if seq x "range" then vo f args else
 if seq x "enumerate" then(match tp with|true=>yp f args|false=>no) else
 if seq x "reversed" then BA f args else bd (f e) eJ
noncomputable def iter(tp:Bool)(f:Expr→M V)(sc:Scope)(e:Expr):M (List V×Option Nat):=match e with
 |.Call (.Name x p) args [] q=>
  match aR sc x,ao args with
  |some .globalImplicit,true=>eG tp f (.Call (.Name x p) args [] q) x args
  |_,_=>no
 |e=>bd (f e) eJ
noncomputable def isTup:Expr→Bool
 |.Tuple ..=>true
 |_=>false
noncomputable def cx(sc:Scope)(x:Str):Bool:=match aR sc x with
 |some .free=>true
 |_=>false
noncomputable def bk(sc':Scope)(σ:Env):Env:=σ.filter λp=>cx sc' p.1
noncomputable def bV(sc sc':Scope):Bool:=sc'.kind==.function&&sc'.names.all λp=>match p.2 with
 |.local=>aR sc' p.1==some .local
 |.free=>aR sc' p.1==some .free&&(aR sc p.1==some .cell || aR sc p.1==some .free)
 |.cell=>false
 |_=>true
noncomputable def bh(src:Option (Nat×Nat)):M Unit:=λC=>match src with
 |none=>some ((),C)
 |some (c,n)=>match C[c]? with
  |some p=>if p.2=n then some ((),C) else none
  |none=>none
noncomputable def jc(src:Option Nat):M (Option (Nat×Nat)):=λC=>match src with
 |none=>some (none,C)
 |some c=>match C[c]? with
  |some p=>some (some (c,p.2),C)
  |none=>none
noncomputable def sO(src:Option (Nat×Nat))(tgt:V→Env→Option Env)(body:Env→M (Fl×Env)):List V→Env→M (Fl×Env)
 |[],σ=>bd (bh src) λxx=>ok (.next,σ)
 |v::r,σ=>bd (bh src) λxx=>bd (lift (tgt v σ)) λσ'=>bd (body σ') λp=>match p with
  |(.ret x,σ'')=>ok (.ret x,σ'')
  |(_,σ'')=>sO src tgt body r σ''
noncomputable def dw{α:Type}(src:Option (Nat×Nat))(tgt:V→Env→Option Env)(test:Env→M Bool)(elt:α→Env→M α):List V→Env→α→M α
 |[],_,a=>bd (bh src) λxx=>ok a
 |v::r,σ,a=>bd (bh src) λxx=>bd (lift (tgt v σ)) λσ'=>bd (test σ') λt=>match t with
  |true=>bd (elt a σ') λa'=>dw src tgt test elt r σ' a'
  |false=>dw src tgt test elt r σ' a
noncomputable def whN(test:Env→M Bool)(body:Env→M (Fl×Env)):Nat→Env→M (Fl×Env)
 |0,_=>no
 |n+1,σ=>bd (test σ) λt=>match t with
  |false=>ok (.next,σ)
  |true=>bd (body σ) λp=>match p with
   |(.ret x,σ')=>ok (.ret x,σ')
   |(_,σ')=>whN test body n σ'
abbrev Wh:=(Env→M Bool)→(Env→M (Fl×Env))→Env→M (Fl×Env)
noncomputable def mi:Const→Option V
 |.none=>some .nn
 |.bool b=>some (.bool b)
 |.int i=>some (.int i)
 |.str s=>some (.str s)
 |_=>none
noncomputable def eW(x:Str):Bool:=seq x "__debug__" || seq x "__classdict__"
noncomputable def eE(sc:Scope)(x:Str)(σ:Env):Option V:=match eW x,aR sc x with
 |false,some .local=>af x σ
 |false,some .cell=>af x σ
 |false,some .free=>af x σ
 |false,some .globalImplicit=>match seq x "R0" with|true=>some (.tup [.int 0,.int 1])|false=>none
 |_,_=>none
noncomputable def d0(f:Expr→M V):List (Option Expr)→List Expr→M (List (V×V))
 |[],[]=>ok []
 |some k::ks,v::vs=>bd (f k) λa=>bd (f v) λb=>bd (d0 f ks vs) λr=>ok ((a,b)::r)
 |_,_=>no
noncomputable def nG:List (V×V)→List (K×V)→Option (List (K×V))
 |[],es=>some es
 |(k,v)::r,es=>match k.key with
  |some j=>if am j es then nG r (st j v es) else none
  |none=>none
noncomputable def iH(f:Expr→M Bool):List Expr→M Bool
 |[]=>ok true
 |e::r=>bd (f e) λb=>match b with|true=>iH f r|false=>ok false
noncomputable def gg:V→M Bool
 |.cell c=>bd (av c) λo=>match o with
  |.list _=>ok true
  |.dict _=>ok false
 |_=>no
noncomputable def aH(k:Bool)(m:Str):Bool:=match k with
 |true=>seq m "append" || seq m "extend" || seq m "pop" || seq m "sort"
 |false=>seq m "pop" || seq m "get"
noncomputable def qB:Expr→Bool
 |.ListComp ..=>true
 |.SetComp ..=>true
 |.DictComp ..=>true
 |_=>false
noncomputable def bf:Expr→Bool
 |.Slice ..=>true
 |_=>false
noncomputable def aM(sc:Scope)(x:Str):Bool:=match aR sc x with
 |some .local=>true
 |some .cell=>true
 |_=>false
noncomputable def aq(sc:Scope):Expr→Bool
 |.Name x _=>aM sc x
 |.Tuple ts _ _=>match ba ts with|some xs=>xs.all (aM sc)|none=>false
 |_=>false
noncomputable def ic:Expr→Bool
 |.Tuple vs _ _=>vs.all (foldedForSure 8) || !(vs.all (constantsAlone 8))
 |_=>true
noncomputable def nO:Expr→Option (Expr×List Expr×List Keyword×Pos)
 |.Call f a k p=>some (f,a,k,p)
 |_=>none
noncomputable def lX:Expr→Option (Expr×Str×Pos)
 |.Attribute v m p=>some (v,m,p)
 |_=>none
noncomputable def uz:Expr→Option (Str×Pos)
 |.Name x p=>some (x,p)
 |_=>none
noncomputable def fX:List Expr→Option (Str×Str×Bool)
 |[a]=>match nO a with
  |some (f,[],[],ps)=>match lX f with
   |some (v,m,ap)=>match uz v with
    |some (x,_)=>some (x,m,ap.endLine==ps.line)
    |none=>none
   |none=>none
  |_=>none
 |_=>none
noncomputable def pZ(E:Ev)(sc:Scope)(x:Str)(lo hi st:Option Expr)(σ:Env):M V:=match st with
 |some _=>no
 |none=>match lo with
  |none=>match hi with
   |none=>no
   |some hi=>bd (lift (eE sc x σ)) λa=>bd (E.expr sc hi σ) λb=>match a,b with
    |.fro xs,.int n=>λC=>if 0≤n∧n≤10000∧xs.length≤10000 then new (.list ((xs.take n.toNat).map .int)) C else none
    |_,_=>no
  |some lo=>match hi with
   |some _=>no
   |none=>bd (lift (eE sc x σ)) λa=>bd (E.expr sc lo σ) λb=>match a,b with
    |.cell c,.int n=>bd (av c) λo=>match o with
     |.list vs=>λC=>if 0≤n∧vs.length≤20000 then new (.list (vs.drop n.toNat)) C else none
     |_=>no
    |_,_=>no
noncomputable def vQ(E:Ev)(sc:Scope)(v s:Expr)(σ:Env):M V:=match bf s with
 |false=>bd (E.expr sc v σ) λa=>bd (E.expr sc s σ) λb=>d8 a b
 |true=>match v with
  |.Name x _=>match s with
   |.Slice lo hi st _=>pZ E sc x lo hi st σ
   |_=>no
  |_=>no
noncomputable def yO(E:Ev)(sc:Scope)(q:Option (Str×Pos))(m:Str)(ap:Pos)(args:List Expr)(pos:Pos)(σ:Env):M V:=match q with
 |none=>no
 |some (x,_)=>match ao args&&(ap.endLine==pos.line) with
  |true=>bd (lift (eE sc x σ)) λa=>bd (gg a) λk=>bd (evs (λe=>E.expr sc e σ) args) λvs=>bd (gg a) λk'=>match k==k'&&aH k m with
   |true=>nR m a vs
   |false=>no
  |false=>no
noncomputable def AX(E:Ev)(sc:Scope)(f:Expr)(args:List Expr)(pos:Pos)(σ:Env):M V:=match f with
 |.Attribute v m ap=>yO E sc (uz v) m ap args pos σ
 |.Name f _=>match aR sc f with
  |some .globalImplicit=>
   match seq f "sorted" with
   |true=>match fX args with
    |some (x,m,b)=>match seq m "items"&&b with
     |true=>bd (lift (eE sc x σ)) λa=>match a with
      |.cell c=>bd (av c) λo=>match o with
       |.dict es=>λC=>if es.length≤3 then match dj C (es.map λe=>.tup [e.1.v,e.2]) with
         |some us=>new (.list us) C
         |none=>none
        else none
       |_=>no
      |_=>no
     |false=>no
    |none=>no
   |false=>match ao args with
    |true=>bd (evs (λe=>E.expr sc e σ) args) λvs=>E.call f vs
    |false=>no
  |_=>no
 |_=>no
noncomputable def tW(E:Ev)(sc:Scope):Expr→Env→M V
 |.Constant c _ _,_=>lift (mi c)
 |.Name x _,σ=>lift (eE sc x σ)
 |.BinOp l op r _,σ=>bd (E.expr sc l σ) λa=>bd (E.expr sc r σ) λb=>dh op a b
 |.UnaryOp .USub x _,σ=>bd (E.expr sc x σ) λa=>match a with
  |.int i=>ok (.int (-i))
  |_=>no
 |.IfExp t b o _,σ=>bd (E.test sc t σ) λc=>match c with
  |true=>E.expr sc b σ
  |false=>E.expr sc o σ
 |.Compare l [op] [r] _,σ=>bd (E.expr sc l σ) λa=>bd (E.expr sc r σ) λb=>bd (cmp op a b) λt=>ok (.bool t)
 |.Call f args [] pos,σ=>AX E sc f args pos σ
 |.Subscript v s _,σ=>vQ E sc v s σ
 |.Tuple es _ _,σ=>match ao es with
  |true=>bd (evs (λe=>E.expr sc e σ) es) λvs=>ok (.tup vs)
  |false=>no
 |.List es _,σ=>match ao es with
  |true=>bd (evs (λe=>E.expr sc e σ) es) λvs=>new (.list vs)
  |false=>no
 |.Dict ks vs _,σ=>match decide (ks.length≤8) with
  |false=>no
  |true=>bd (d0 (λe=>E.expr sc e σ) ks vs) λps=>bd (lift (nG ps [])) λes=>new (.dict es)
 |.ListComp elt [⟨t,it,ifs,0⟩] sc' _,σ=>
  match bV sc sc'&&aq sc' t with
  |false=>no
  |true=>bd (iter (isTup t) (λe=>E.expr sc e σ) sc it) λp=>bd (jc p.2) λsrc=>
   bd (dw src (target t) (λσ'=>iH (λe=>E.test sc' e σ') ifs) (λacc σ'=>bd (E.expr sc' elt σ') λv=>λC=>if acc.length≤10000 then some (acc++[v],C) else none) p.1 (bk sc' σ) []) λvs=>new (.list vs)
 |.DictComp k v [⟨t,it,ifs,0⟩] sc' _,σ=>
  match bV sc sc'&&aq sc' t with
  |false=>no
  |true=>bd (iter (isTup t) (λe=>E.expr sc e σ) sc it) λp=>bd (jc p.2) λsrc=>
   bd (dw src (target t) (λσ'=>iH (λe=>E.test sc' e σ') ifs) (λacc σ'=>bd (E.expr sc' k σ') λkv=>bd (E.expr sc' v σ') λvv=>match kv.key with
    |some j=>λC=>if am j acc∧acc.length≤10000 then some (st j vv acc,C) else none
    |none=>no) p.1 (bk sc' σ) []) λes=>new (.dict es)
 |_,_=>no
noncomputable def xX(E:Ev)(sc:Scope):Expr→Env→M Bool
 |.UnaryOp .Not x _,σ=>bd (E.test sc x σ) λb=>ok (!b)
 |.BoolOp op es _,σ=>pJ op (λe=>E.test sc e σ) es
 |.Compare l [op] [r] _,σ=>bd (E.expr sc l σ) λa=>bd (E.expr sc r σ) λb=>cmp op a b
 |.Call f args ks p,σ=>bd (E.expr sc (.Call f args ks p) σ) λv=>match v with
  |.bool b=>ok b
  |_=>no
 |_,_=>no
noncomputable def BW(E:Ev)(sc:Scope)(t v:Expr)(σ:Env):M (Fl×Env):=match t with
 |.Subscript o i _=>match bf i with
  |true=>no
  |false=>bd (E.expr sc v σ) λx=>bd (E.expr sc o σ) λa=>bd (E.expr sc i σ) λb=>bd (iM a b x) λ_=>ok (.next,σ)
 |t=>match aq sc t&&ic v with
  |true=>bd (E.expr sc v σ) λx=>bd (lift (target t x σ)) λσ'=>ok (.next,σ')
  |false=>no
noncomputable def BP(E:Ev)(sc:Scope)(t v:Expr)(σ:Env):M (Fl×Env):=match t with
 |.Name x _=>match aM sc x with
  |true=>bd (lift (af x σ)) λa=>bd (E.expr sc v σ) λb=>match a,b with
   |.int m,.int n=>ok (.next,(x,.int (m+n))::σ)
   |_,_=>no
  |false=>no
 |.Subscript o i _=>match bf i with
  |true=>no
  |false=>bd (E.expr sc o σ) λa=>bd (E.expr sc i σ) λb=>bd (d8 a b) λu=>bd (E.expr sc v σ) λw=>match u,w with
   |.int m,.int n=>bd (iM a b (.int (m+n))) λ_=>ok (.next,σ)
   |_,_=>no
 |_=>no
noncomputable def yu(wh:Wh)(E:Ev)(sc:Scope):Stmt→Env→M (Fl×Env)
 |.Return (some e) _,σ=>bd (E.expr sc e σ) λv=>ok (.ret v,σ)
 |.Assign [t] v _,σ=>BW E sc t v σ
 |.AugAssign t .Add v _,σ=>BP E sc t v σ
 |.Expr (.Call f args ks p) _,σ=>bd (E.expr sc (.Call f args ks p) σ) λxx=>ok (.next,σ)
 |.If t b o _,σ=>bd (E.test sc t σ) λc=>match c with
  |true=>execs (E.stmt sc) b σ
  |false=>execs (E.stmt sc) o σ
 |.While t b [] _,σ=>wh (λσ'=>E.test sc t σ') (λσ'=>execs (E.stmt sc) b σ') σ
 |.For t it b [] _,σ=>match aq sc t with
  |true=>bd (iter (isTup t) (λe=>E.expr sc e σ) sc it) λp=>bd (jc p.2) λsrc=>
    sO src (target t) (λσ'=>execs (E.stmt sc) b σ') p.1 σ
  |false=>no
 |.Continue _,σ=>ok (.cont,σ)
 |_,_=>no
noncomputable def BR:Stmt→Bool
 |.Assign [.Name n _] _ _=>n==("__name__" : Str)
 |_=>false
noncomputable def xK:Program:={ PySem.Challenge.pw_nn0271_01 with main:={ PySem.Challenge.pw_nn0271_01.main with body:=PySem.Challenge.pw_nn0271_01.main.body.filter λs=>!BR s } }
noncomputable def zX(f:Str):List PySem.DefRec→Option PySem.DefRec
 |[]=>none
 |d::r=>match seq f d.name with|true=>some d|false=>zX f r
noncomputable def fn?(f:Str):Option PySem.DefRec:=zX f (PyProof.Rows.recsOf xK)
noncomputable def sN(d:PySem.DefRec):Bool:=
 d.params.posonlyargs.isEmpty&&d.params.vararg.isNone&&d.params.kwonlyargs.isEmpty&&d.params.kwarg.isNone&&bt (d.params.args.map (·.arg))&&
 (d.scope.kind==.function&&!d.scope.isCoroutine&&!d.scope.isGenerator&&d.scope.names.all (λp=>p.2 != .free)&&(d.params.args.map (·.arg)).all (aM d.scope))
noncomputable def kf(E:Ev)(f:Str)(args:List V):M V:=match fn? f with
 |some d=>match sN d with
  |false=>no
  |true=>match aW (d.params.args.map (·.arg)) args [] with
   |some σ=>bd (execs (E.stmt d.scope) d.body σ) λp=>match p.1 with
    |.ret v=>ok v
    |.next=>ok .nn
    |.cont=>no
   |none=>no
 |none=>builtin f args
noncomputable def next(wh:Wh)(E:Ev):Ev:=⟨tW E,xX E,yu wh E,kf E⟩
noncomputable def lev(wh:Wh):Nat→Ev
 |0=>⟨λxx yy zz=>no,λxx yy zz=>no,λxx yy zz=>no,λxx yy=>no⟩
 |n+1=>next wh (lev wh n)
noncomputable def Bw(xs:List Int):Option Bool:=match(lev (λt b=>whN t b 100000) 200).call "law" [.fro xs] [] with
 |some (.bool b,_)=>some b
 |_=>none
section
set_option hygiene false
local macro_rules |`(tactic| show $a)=>`(tactic| refine Mine.Lake.rG ($a ..) ?_)
section
variable {w:World}{B:Heap}{mg mb:Str→Option Value}{ρ ρ' ρ'' ρ₀ ρ₁:List Addr}{C C' C'' C₀ C₁:CH}{s s' s'' s₀ s₁:Shared}{A:Around}{n k:Nat}{sc sc':Scope}{env:PySem.Env}{σ σ' σ'':Env}{m cm m₀ cm₀:Str→Option Value}{E:Ev}{W W':Addr→Prop}{EE:Value→Shared→Prop}{wh:Wh}
noncomputable def prog:Program:=PySem.Challenge.pw_nn0271_01
def exT(h:Heap)(a:Addr)(items:Array Value):Prop:=∃n,h.get? a=some { cls:=.type "tuple",data:=.seq items n }
def exL(h:Heap)(a:Addr)(items:Array Value):Prop:=∃n,h.get? a=some { cls:=.type "list",data:=.seq items n }
section
variable (prog:Program)(w:World)(B:Heap)
noncomputable def K.hash:K→Int
 |.i n=>hashInt n
 |.t ns=>tupleKeyHash (intKind prog w) ns
noncomputable def K.Is(h:Heap):K→Value→Prop
 |.i n,v=>∃t,v=.int n t
 |.t ns,v=>∃(a:Addr) (items:Array Value),And3 (v=.ref a) (exT h a items) (ItemsAre (intKind prog w) ns items.toList)
mutual
inductive Rel(ρ:List Addr)(h:Heap):V→Value→Prop
 |nn:Rel ρ h .nn .none
 |bool (b:Bool):Rel ρ h (.bool b) (.bool b)
 |int (i:Int) (t:Tok):Rel ρ h (.int i) (.int i t)
 |str (s:Str) (t:Tok):Rel ρ h (.str s) (.str s t)
 |tup {vs:List V}{a:Addr}{items:Array Value}:exT h a items→RelL ρ h vs items.toList→Rel ρ h (.tup vs) (.ref a)
 |cell {c:Nat}{a:Addr}:ρ[c]?=some a→Rel ρ h (.cell c) (.ref a)
 |fro {xs:List Int}{a:Addr}{vs:List Value}:B.IsList a vs.toArray→IntsAre vs xs→Rel ρ h (.fro xs) (.ref a)
inductive RelL(ρ:List Addr)(h:Heap):List V→List Value→Prop
 |nil:RelL ρ h [] []
 |cons {v:V}{x:Value}{vs:List V}{xs:List Value}:Rel ρ h v x→RelL ρ h vs xs→RelL ρ h (v::vs) (x::xs)
end
inductive Ents(ρ:List Addr)(h:Heap):List (K×V)→List DictEntry→Prop
 |nil:Ents ρ h [] []
 |cons {k:K}{v:V}{e:DictEntry}{es:List (K×V)}{ds:List DictEntry} :
   e.hash=k.hash prog w→k.Is prog w h e.key→Rel B ρ h v e.val→Ents ρ h es ds→Ents ρ h ((k,v)::es) (e::ds)
def pq(es:List (K×V)):Prop:=∃b:Bool,∀e∈es,e.1.isT=b
inductive ORel(ρ:List Addr)(h:Heap):O→Addr→Prop
 |list {vs:List V}{a:Addr}{items:Array Value}:exL h a items→RelL B ρ h vs items.toList→vs.length≤100000→ORel ρ h (.list vs) a
 |dict {es:List (K×V)}{a:Addr}{o:Obj}{ds:Array DictEntry}{ep:Nat}:h.get? a=some o→o.ExactDict→o.data=.dict ds ep→
   Ents prog w B ρ h es ds.toList→pq es→(es.map (·.1)).Nodup→es.length≤100000→ORel ρ h (.dict es) a
structure HR(ρ:List Addr)(C:CH)(h:Heap):Prop where
 len:ρ.length=C.length
 nodup:ρ.Nodup
 obj:∀(c:Nat) p a,C[c]?=some p→ρ[c]?=some a→ORel prog w B ρ h p.1 a
structure St(ρ:List Addr)(C:CH)(s:Shared):Prop where
 hr:HR prog w B ρ C s.heap
 base:B.StaysIn s.heap
 off:∀a∈ρ,B.get? a=none∧sysModules<a
 gens:s.gens=#[]
end
structure Keep(W:Addr→Prop)(ρ:List Addr)(C:CH)(s:Shared)(ρ':List Addr)(C':CH)(s':Shared):Prop where
 old:∀a o,s.heap.get? a=some o→a∉ρ→¬W a→s'.heap.get? a=some o
 ver:∀(c:Nat) p a,C[c]?=some p→ρ[c]?=some a→∃p',And3 (C'[c]?=some p') (p.2≤p'.2) (p'.2=p.2→p'=p∧∀o,s.heap.get? a=some o→s'.heap.get? a=some o)
 new:∀a∈ρ',a∉ρ→s.heap.get? a=none
 pre:ρ <+: ρ'
 live:∀a o,s.heap.get? a=some o→∃o',s'.heap.get? a=some o'
 os:s'.os=s.os
abbrev W0:Addr→Prop:=λxx=>False
theorem Keep.refl(s:Shared):Keep W ρ C s ρ C s:=
 ⟨λxx yy e zz ww=>e,λxx p yy e zz=>⟨p,e,Cj _,λxx=>⟨rfl,λxx e=>e⟩⟩,λxx h h'=>absurd h h',List.prefix_refl _,λxx o e=>⟨o,e⟩,rfl⟩
theorem Keep.mono{W':Addr→Prop}(k:Keep W ρ C s ρ' C' s')(h:∀a,W a→W' a):Keep W' ρ C s ρ' C' s':=
 ⟨λa o e n nw=>k.old a o e n λx=>nw (h a x),k.ver,k.new,k.pre,k.live,k.os⟩
theorem bK{α:Type}{l l':List α}(h:l <+: l'){i:Nat}{x:α}(e:l[i]?=some x):l'[i]?=some x:=by
 refine oE h λt zr0=>?_;subst zr0
 rw[List.getElem?_append_left]
 ·exact e
 ·exact(List.getElem?_eq_some_iff.mp e).1
theorem Keep.trans(k:Keep W ρ C s ρ' C' s')(k':Keep W ρ' C' s' ρ'' C'' s''):Keep W ρ C s ρ'' C'' s'' where
 old:=λa o e n nw=>k'.old a o (k.old a o e n nw) (λhm=>by have:=k.new a hm n;rw[e] at this;exact cNs this) nw
 ver:=λc p a e ea=>by
  refine cv (k.ver c p a e ea) λp' e' l' h'=>?_
  refine cv (k'.ver c p' a e' (bK k.pre ea)) λp'' e'' l'' h''=>?_
  refine iEa3 p'' e'' (B4 l' l'') (λq=>?_)
  have q1:p''.2=p'.2:=Nat.le_antisymm (q▸l') l''
  have q2:p'.2=p.2:=q1▸q
  refine oA (h' q2) λr1 r2=>?_
  refine oA (h'' q1) λr3 r4=>?_
  exact⟨r3.trans r1,λo eo=>r4 o (r2 o eo)⟩
 new:=λa ha hn=>by
  by_cases hm:a∈ρ'
  ·exact k.new a hm hn
  ·cases e:s.heap.get? a with
   |none=>rfl
   |some o=>
    refine oE (k.live a o e) λo' e'=>?_
    rw[k'.new a ha hm] at e';exact cNo e'
 pre:=List.IsPrefix.trans k.pre k'.pre
 live:=λa o e=>by refine oE (k.live a o e) λo' e'=>?_;exact k'.live a o' e'
 os:=k'.os.trans k.os
def b8(W:Addr→Prop)(s:Shared):Prop:=∀a,W a→∀items,¬exT s.heap a items
theorem ORel.addr{o:O}{a:Addr}{h:Heap}(x:ORel prog w B ρ h o a):∃ob,h.get? a=some ob∧ob.cls≠.type "tuple":=by
 cases x with
 |list h1 _ _=>refine oE h1 λn e=>?_;exact iEA _ e (λq=>by simp at q)
 |dict h1 h2 _ _ _ _ _=>exact iEA _ h1 (by show h2.1;decide)
theorem HR.at{h:Heap}(x:HR prog w B ρ C h){a:Addr}(ha:a∈ρ):∃(c:Nat) (p:O×Nat),And3 (C[c]?=some p) (ρ[c]?=some a) (ORel prog w B ρ h p.1 a):=by
 refine oE (List.mem_iff_getElem?.mp ha) λc hc=>?_
 have hl:c<C.length:=x.len▸(List.getElem?_eq_some_iff.mp hc).1
 exact t5 c (C[c]) (List.getElem?_eq_getElem hl) hc (x.obj c _ a (List.getElem?_eq_getElem hl) hc)
theorem HR.live{h:Heap}(x:HR prog w B ρ C h){a:Addr}(ha:a∈ρ):∃o,h.get? a=some o:=by
 refine pk (x.at ha) λxx xx xx xx r=>?_;refine oEA r.addr λob e xx=>?_;exact⟨ob,e⟩
theorem HR.notTuple{h:Heap}(x:HR prog w B ρ C h){a:Addr}{items:Array Value}(ht:exT h a items):a∉ρ:=λha=>by
 refine pk (x.at ha) λxx xx xx xx r=>?_
 refine oEA r.addr λob e hc=>?_
 refine oE ht λn e'=>?_
 rw[e] at e';refine cSo e' λzx=>?_;clear e';subst zx;exact hc rfl
theorem Keep.tuple(k:Keep W ρ C s ρ' C' s')(x:HR prog w B ρ C s.heap)(hW:b8 W s){a:Addr}{items:Array Value}(ht:exT s.heap a items):exT s'.heap a items:=by
 refine oE (id ht) λn e=>?_
 exact⟨n,k.old a _ e (x.notTuple ht) (λhw=>hW a hw _ ht)⟩
theorem Rel.keep(k:Keep W ρ C s ρ' C' s')(x:HR prog w B ρ C s.heap)(hW:b8 W s){v:V}{y:Value}(h:Rel B ρ s.heap v y):Rel B ρ' s'.heap v y:=
 Rel.rec (motive_1:=λv y xx=>Rel B ρ' s'.heap v y) (motive_2:=λv y xx=>RelL B ρ' s'.heap v y) .nn .bool .int .str (λht xx hl=>.tup (k.tuple x hW ht) hl) (λe=>.cell (bK k.pre e)) .fro .nil (λxx yy a b=>.cons a b) h
theorem RelL.keep(k:Keep W ρ C s ρ' C' s')(x:HR prog w B ρ C s.heap)(hW:b8 W s){v:List V}{y:List Value}(h:RelL B ρ s.heap v y):RelL B ρ' s'.heap v y:=
 RelL.rec (motive_1:=λv y xx=>Rel B ρ' s'.heap v y) (motive_2:=λv y xx=>RelL B ρ' s'.heap v y) .nn .bool .int .str (λht xx hl=>.tup (k.tuple x hW ht) hl) (λe=>.cell (bK k.pre e)) .fro .nil (λxx yy a b=>.cons a b) h
theorem Keep.key(k:Keep W ρ C s ρ' C' s')(x:HR prog w B ρ C s.heap)(hW:b8 W s){j:K}{v:Value}(hj:j.Is prog w s.heap v):j.Is prog w s'.heap v:=by
 induction j using K.casesOn with
 |i n=>exact hj
 |t ns=>
  refine pk hj λa items zr0 ht hi=>?_;show zr0
  exact t5 a items rfl (k.tuple x hW ht) hi
theorem Ents.keep(k:Keep W ρ C s ρ' C' s')(x:HR prog w B ρ C s.heap)(hW:b8 W s){es:List (K×V)}{ds:List DictEntry}(h:Ents prog w B ρ s.heap es ds):Ents prog w B ρ' s'.heap es ds:=by
 induction h with
 |nil=>exact .nil
 |cons a b c _ r=>exact .cons a (k.key x hW b) (Rel.keep k x hW c) r
theorem ORel.keep(k:Keep W ρ C s ρ' C' s')(x:HR prog w B ρ C s.heap)(hW:b8 W s){o:O}{a:Addr}(h:ORel prog w B ρ s.heap o a)(e:∀ob,s.heap.get? a=some ob→s'.heap.get? a=some ob):
  ORel prog w B ρ' s'.heap o a:=by
 cases h with
 |list h1 h2 h3=>refine oE h1 λn ho=>?_;exact .list ⟨n,e _ ho⟩ (RelL.keep k x hW h2) h3
 |dict h1 h2 h3 h4 h5 h6 h7=>exact .dict (e _ h1) h2 h3 (Ents.keep k x hW h4) h5 h6 h7
theorem St.step(S:St prog w B ρ C s)(k:Keep W ρ C s ρ' C' s')(hW:b8 W s)(hB:∀a,W a→B.get? a=none)(hlen:ρ'.length=C'.length)(nd:ρ'.Nodup)
  (each:∀(c:Nat) p' a,C'[c]?=some p'→ρ'[c]?=some a→(And3 (ρ[c]?=some a) (C[c]?=some p') (∀o,s.heap.get? a=some o→s'.heap.get? a=some o))∨ORel prog w B ρ' s'.heap p'.1 a)
  (off:∀a∈ρ',B.get? a=none∧sysModules<a) (gens:s'.gens=#[]):St prog w B ρ' C' s' where
 hr:=⟨hlen,nd,λc p a e ea=>(each c p a e ea).elim (λqz=>by refine oa3 qz λh1 h2 h3=>?_;exact ORel.keep k S.hr hW (S.hr.obj c p a h2 h1) h3) id⟩
 base:=λb o e=>k.old b o (S.base b o e) (λhb=>by have:=(S.off b hb).1;rw[e] at this;exact cNs this) (λhw=>by have:=hB b hw;rw[e] at this;exact cNs this)
 off:=off
 gens:=gens
theorem aC(s:Shared):b8 W0 s:=λxx h=>h.elim
theorem St.put(S:St prog w B ρ C s){c:Nat}{a:Addr}{p:O×Nat}(ea:ρ[c]?=some a)(ep:C[c]?=some p){h':Heap}{tk:Nat}{o':O}
  (sb:∀b o,b≠a→s.heap.get? b=some o→h'.get? b=some o) (hl:∃o,h'.get? a=some o) (mk:Keep W0 ρ C s ρ (C.set c (o',p.2+1)) { s with heap:=h',toks:=tk }→ORel prog w B ρ h' o' a) :
  St prog w B ρ (C.set c (o',p.2+1)) { s with heap:=h',toks:=tk }∧Keep W0 ρ C s ρ (C.set c (o',p.2+1)) { s with heap:=h',toks:=tk }:=by
 have hc:c<C.length:=(List.getElem?_eq_some_iff.mp ep).1
 have hne:∀{d b},ρ[d]?=some b→d≠c→b≠a:=λ{d b} hd hdc e=>by
  subst e
  have h1:=List.getElem?_eq_some_iff.mp hd
  have h2:=List.getElem?_eq_some_iff.mp ea
  exact hdc ((List.getElem?_inj h1.1 S.hr.nodup).mp (hd.trans ea.symm))
 have K:Keep W0 ρ C s ρ (C.set c (o',p.2+1)) { s with heap:=h',toks:=tk }:=
  {
   old:=λb o e hb xx=>sb b o (λq=>hb (q▸List.mem_of_getElem? ea)) e
   ver:=λd q b e eb=>by
    by_cases hd:d=c
    ·subst hd
     rw[ep] at e;refine cS1 e ?_
     refine iEa3 (o',p.2+1) (by show List.getElem?_set_self hc;rfl) (Nat.le_succ _) (λq=>absurd q (Nat.succ_ne_self _))
    ·exact iEa3 q (by show List.getElem?_set_ne (Ne.symm hd);exact e) (Cj _) (λxx=>⟨rfl,λo eo=>sb b o (hne eb hd) eo⟩)
   new:=λxx h h'=>absurd h h'
   pre:=List.prefix_refl _
   live:=λb o e=>by
    by_cases hb:b=a
    ·show hb;exact hl
    ·exact⟨o,sb b o hb e⟩
   os:=rfl }
 refine⟨S.step K (aC s) (λxx h=>h.elim) (by show List.length_set;exact S.hr.len) S.hr.nodup (λd q b e eb=>?_) S.off S.gens,K⟩
 by_cases hd:d=c
 ·subst hd
  rw[List.getElem?_set_self hc] at e;refine cS1 e ?_
  rw[ea] at eb;refine cS1 eb ?_
  exact .inr (mk K)
 ·rw[List.getElem?_set_ne (Ne.symm hd)] at e
  exact .inl ⟨eb,e,λo eo=>sb b o (hne eb hd) eo⟩
theorem St.still(S:St prog w B ρ C s){h':Heap}{tk:Nat}(sb:∀b o,s.heap.get? b=some o→h'.get? b=some o):
  St prog w B ρ C { s with heap:=h',toks:=tk }∧Keep W0 ρ C s ρ C { s with heap:=h',toks:=tk }:=by
 have K:Keep W0 ρ C s ρ C { s with heap:=h',toks:=tk }:=
  ⟨λb o e xx yy=>sb b o e,λd q b e eb=>⟨q,e,Cj _,λxx=>⟨rfl,λo eo=>sb b o eo⟩⟩,λxx h h'=>absurd h h',List.prefix_refl _,λb o e=>⟨o,sb b o e⟩,rfl⟩
 exact⟨S.step K (aC s) (λxx h=>h.elim) S.hr.len S.hr.nodup (λd q b e eb=>.inl ⟨eb,e,λo eo=>sb b o eo⟩) S.off S.gens,K⟩
theorem St.new(S:St prog w B ρ C s){a:Addr}{h':Heap}{tk n:Nat}{o':O}(fr:s.heap.get? a=none)(lo:B.get? a=none∧sysModules<a)
  (sb:∀b o,s.heap.get? b=some o→h'.get? b=some o) (mk:Keep W0 ρ C s (ρ++[a]) (C++[(o',n)]) { s with heap:=h',toks:=tk }→ORel prog w B (ρ++[a]) h' o' a) :
  And3 (St prog w B (ρ++[a]) (C++[(o',n)]) { s with heap:=h',toks:=tk }) (Keep W0 ρ C s (ρ++[a]) (C++[(o',n)]) { s with heap:=h',toks:=tk }) ((ρ++[a])[C.length]?=some a):=by
 have hna:a∉ρ:=λh=>by refine oE (S.hr.live h) λo e=>?_;rw[fr] at e;exact cNo e
 have K:Keep W0 ρ C s (ρ++[a]) (C++[(o',n)]) { s with heap:=h',toks:=tk }:=
  ⟨λb o e xx yy=>sb b o e,λd q b e eb=>⟨q,bK (List.prefix_append _ _) e,Cj _,λxx=>⟨rfl,λo eo=>sb b o eo⟩⟩,
   λb h h'=>by
    rcases Cz.mp h with h|h
    ·exact absurd h h'
    ·show Cd.mp h;exact fr,List.prefix_append _ _,λb o e=>⟨o,sb b o e⟩,rfl⟩
 have last:(ρ++[a])[C.length]?=some a:=by refine rL (S.hr.len ..) ?_;show List.getElem?_append_right (Cj _);show Nat.sub_self;rfl
 refine⟨S.step K (aC s) (λxx h=>h.elim) (by simp[S.hr.len]) ?_ (λd q b e eb=>?_) ?_ S.gens,K,last⟩
 ·show propext (List.nodup_append ..)
  exact iAA S.hr.nodup (by simp) (λx hx y hy e=>by rw[Cd.mp hy] at e;exact hna (e▸hx))
 ·rcases Nat.lt_trichotomy d C.length with h|h|h
  ·rw[List.getElem?_append_left h] at e
   rw[List.getElem?_append_left (S.hr.len▸h)] at eb
   exact .inl ⟨eb,e,λo eo=>sb b o eo⟩
  ·subst h
   rw[last] at eb;refine cS1 eb ?_
   rw[List.getElem?_append_right (Cj _),Nat.sub_self] at e
   refine cS2 e ?_
   exact .inr (mk K)
  ·rw[List.getElem?_eq_none (by simp;exact Nat.succ_le_of_lt h)] at e;exact cNo e
 ·intro b hb
  rcases Cz.mp hb with h|h
  ·exact S.off b h
  ·show Cd.mp h;exact lo
theorem St.top(S:St prog w B ρ C s)(hl:B.NoLimit){a:Addr}(ha:s.heap.objs.size≤a):B.get? a=none∧sysModules<a:=by
 refine⟨?_,?_⟩
 ·cases e:B.get? a with
  |none=>rfl
  |some o=>exact absurd (Heap.lt_size (S.base a o e)) (Nat.not_lt.mpr ha)
 ·exact B7 (modules_low (hl.keeps S.base)) ha
theorem bz{h:Heap}{a:Addr}(ha:h.objs.size≤a):h.get? a=none:=by
 cases e:h.get? a with
 |none=>rfl
 |some o=>exact absurd (Heap.lt_size e) (Nat.not_lt.mpr ha)
noncomputable def vt:NameKind→Option NameKind→Prop
 |.local,k=>k=some .local
 |.cell,k=>k=some .cell
 |.free,k=>k=some .cell∨k=some .free
 |.globalImplicit,k=>k=some .globalImplicit
 |.globalExplicit,_=>True
section
variable (B:Heap)
structure Fm(ρ:List Addr)(sc:Scope)(env:PySem.Env)(σ:Env)(s:Shared)(m cm:Str→Option Value):Prop where
 fn:env.scope.kind=.function
 glob:env.globals=mainGlobals
 blt:env.builtins=builtinsNs
 kinds:∀x k,aR sc x=some k→vt k (env.kindOf x)
 ns:s.heap.Ns env.locals m
 cel:∀x c,env.cells.lookup x=some c→s.heap.IsCell c (cm x)
 bound:∀x,env.kindOf x=some .cell∨env.kindOf x=some .free→∃c,env.cells.lookup x=some c
 apart:∀x y c,env.cells.lookup x=some c→env.cells.lookup y=some c→x=y
 offL:env.locals∉ρ∧B.get? env.locals=none
 offC:∀x c,env.cells.lookup x=some c→And3 (c∉ρ) (B.get? c=none) (c≠env.locals)
 var:∀x v,af x σ=some v→(env.kindOf x=some .local→∃y,m x=some y∧Rel B ρ s.heap v y)∧(env.kindOf x=some .cell∨env.kindOf x=some .free→∃y,cm x=some y∧Rel B ρ s.heap v y)
end
theorem Fm.keep(F:Fm B ρ sc env σ s m cm)(k:Keep W0 ρ C s ρ' C' s')(S:St prog w B ρ C s):Fm B ρ' sc env σ s' m cm where
 fn:=F.fn
 glob:=F.glob
 blt:=F.blt
 kinds:=F.kinds
 ns:=by refine jk F.ns λo es ep ho r=>?_;exact oU o es ep (k.old _ o ho F.offL.1 id) r
 cel:=λx c e=>by refine oEA (F.cel x c e) λo ho hd=>?_;exact iEA o (k.old _ o ho (F.offC x c e).1 id) hd
 bound:=F.bound
 apart:=F.apart
 offL:=⟨λh=>(by
  refine jk F.ns λo es ep ho r=>?_
  have:=k.new _ h F.offL.1
  rw[ho] at this;exact cNs this),F.offL.2⟩
 offC:=λx c e=>⟨λh=>(by
  refine oEA (F.cel x c e) λo ho hd=>?_
  have:=k.new _ h (F.offC x c e).1
  rw[ho] at this;exact cNs this),(F.offC x c e).2,(F.offC x c e).3⟩
 var:=λx v e=>⟨λh=>by refine oEA ((F.var x v e).1 h) λy h1 h2=>?_;exact iEA y h1 (Rel.keep k S.hr (aC s) h2),λh=>by refine oEA ((F.var x v e).2 h) λy h1 h2=>?_;exact iEA y h1 (Rel.keep k S.hr (aC s) h2)⟩
structure Rm(A:Around)(n:Nat):Prop where
 hd:A.handled=none
 dp:A.depth+n<recursionLimit
 un:A.units+16*n+64<cLine
theorem Rm.lt{A:Around}{n:Nat}(R:Rm A n)(k:Nat)(h:Nat.ble k 64=true):A.units+k<cLine:=
 Ck (Nat.add_le_add (Cw _ _) (Nat.le_of_ble_eq_true h)) R.un
theorem Rm.dl{A:Around}{n:Nat}(R:Rm A n):A.depth<recursionLimit:=Ck (Cw _ _) R.dp
section
variable (prog:Program)(w:World)(B:Heap)
inductive QV(ρ:List Addr)(C:CH)(s:Shared)(v:V)(C':CH)(y:Value)(s':Shared):Prop
 |mk (ρ':List Addr) (S:St prog w B ρ' C' s') (K:Keep W0 ρ C s ρ' C' s') (r:Rel B ρ' s'.heap v y)
inductive QU(ρ:List Addr)(C:CH)(s:Shared)(C':CH)(s':Shared):Prop
 |mk (ρ':List Addr) (S:St prog w B ρ' C' s') (K:Keep W0 ρ C s ρ' C' s')
end
theorem QV.un{w:World}{B:Heap}{ρ:List Addr}{C C':CH}{s s':Shared}{v:V}{y:Value}{P:Prop}(q:QV prog w B ρ C s v C' y s')(k:∀ρ',St prog w B ρ' C' s'→Keep W0 ρ C s ρ' C' s'→Rel B ρ' s'.heap v y→P):P:=by cases q with|mk a b c d=>exact k a b c d
theorem QU.un{w:World}{B:Heap}{ρ:List Addr}{C C':CH}{s s':Shared}{P:Prop}(q:QU prog w B ρ C s C' s')(k:∀ρ',St prog w B ρ' C' s'→Keep W0 ρ C s ρ' C' s'→P):P:=by cases q with|mk a b c=>exact k a b c
abbrev EF:Value→Shared→Prop:=λxx yy=>False
theorem QV.go{w:World}{B:Heap}{ρ:List Addr}{C C':CH}{s s₀:Shared}{v:V}{A:Around}{m:Sem Value}{Q:Value→Shared→Prop}(h:wpAny (model prog w) A m (QV prog w B ρ C s v C') EF s₀)(k:∀x s₁ ρ₁,St prog w B ρ₁ C' s₁→Keep W0 ρ C s ρ₁ C' s₁→Rel B ρ₁ s₁.heap v x→Q x s₁):wpAny (model prog w) A m Q EF s₀:=
 B3 h (λx s₁ q=>q.un λρ₁ S K r=>k x s₁ ρ₁ S K r) λxx yy h=>h
theorem St.tok(S:St prog w B ρ C s)(tk:Nat):St prog w B ρ C { s with toks:=tk }∧Keep W0 ρ C s ρ C { s with toks:=tk }:=S.still (h':=s.heap) λxx yy e=>e
theorem QV.int(S:St prog w B ρ C s)(i:Int)(t tk:Nat):QV prog w B ρ C s (.int i) C (.int i t) { s with toks:=tk }:=⟨ρ,(S.tok tk).1,(S.tok tk).2,.int i t⟩
theorem QV.self(S:St prog w B ρ C s){v:V}{y:Value}(h:Rel B ρ s.heap v y):QV prog w B ρ C s v C y s:=⟨ρ,S,Keep.refl s,h⟩
theorem QV.selfTok(S:St prog w B ρ C s){v:V}{y:Value}(h:Rel B ρ s.heap v y)(tk:Nat):QV prog w B ρ C s v C y { s with toks:=tk }:=⟨ρ,(S.tok tk).1,(S.tok tk).2,h⟩
theorem ay(h:Heap)(o:Obj):∀b ob,h.get? b=some ob→(h.push o).get? b=some ob:=λxx yy e=>Heap.get?_push_of_some _ e
theorem QV.list(S:St prog w B ρ C s)(hB:B.NoLimit){vs:List V}{items:Array Value}(h:RelL B ρ s.heap vs items.toList)(hl:vs.length≤100000)(tk:Nat):
  QV prog w B ρ C s (.cell C.length) (C++[(.list vs,0)]) (.ref s.heap.objs.size) { s with heap:=s.heap.push { cls:=.type "list",data:=.seq items },toks:=tk }:=by
 obtain⟨S',K,e⟩:=S.new (tk:=tk) (n:=0) (o':=.list vs) (bz (Cj _)) (S.top hB (Cj _)) (ay s.heap { cls:=.type "list",data:=.seq items }) λK=>
  .list ⟨0,Heap.get?_push_size _ rfl⟩ (RelL.keep K S.hr (aC s) h) hl
 exact⟨_,S',K,.cell e⟩
theorem QV.tup(S:St prog w B ρ C s){vs:List V}{items:Array Value}(h:RelL B ρ s.heap vs items.toList)(tk:Nat):
  QV prog w B ρ C s (.tup vs) C (.ref s.heap.objs.size) { s with heap:=s.heap.push { cls:=.type "tuple",data:=.seq items },toks:=tk }:=by
 refine oA (S.still (tk:=tk) (ay s.heap { cls:=.type "tuple",data:=.seq items })) λS' K=>?_
 exact⟨ρ,S',K,.tup ⟨0,Heap.get?_push_size _ rfl⟩ (RelL.keep K S.hr (aC s) h)⟩
theorem oy{i:Int}(h:fit i=true):Builtin.Int.intBits i≤2^20:=by
 have:=of_decide_eq_true h
 unfold Builtin.Int.intBits
 split<;>(first|exact leb rfl|lia)
theorem cC{α β:Type}{m:M α}{f:α→M β}{C:CH}{r:β×CH}(h:bd m f C=some r):Ex2 λa C₁=>m C=some (a,C₁)∧f a C₁=some r:=by
 unfold bd at h
 split at h
 ·exact Ak _ _ (‹_›) h
 ·exact cNo h
set_option tactic.hygienic true in
theorem m8{c:Nat}{C C₁:CH}{o:O}(h:av c C=some (o,C₁)):C₁=C∧∃k,C[c]?=some (o,k):=by
 unfold av at h
 split at h
 ·rename_i p q
  refine cS2 h ?_
  exact⟨rfl,p.2,q⟩
 ·exact cNo h
theorem xD{β:Type}{c:Nat}{f:O→M β}{C:CH}{r:β×CH}(h:bd (av c) f C=some r):Ex2 λo k=>C[c]?=some (o,k)∧f o C=some r:=by
 refine zG (cC h) λo C₁ e h'=>?_
 refine oAE (m8 e) λe' k q=>?_
 exact Ak o k q (e'▸h')
theorem lz{α:Type}{o:Option α}{C C₁:CH}{a:α}(h:lift o C=some (a,C₁)):C₁=C∧o=some a:=by
 unfold lift at h
 split at h
 ·refine cS2 h ?_;exact⟨rfl,rfl⟩
 ·exact cNo h
theorem xu{α β:Type}{o:Option α}{f:α→M β}{C:CH}{r:β×CH}(h:bd (lift o) f C=some r):∃a,o=some a∧f a C=some r:=by
 refine zG (cC h) λa C₁ e h'=>?_
 refine oA (lz e) λe' q=>?_
 exact iEA a q (e'▸h')
theorem mr{α:Type}{C C₁:CH}{a b:α}(h:ok a C=some (b,C₁)):C₁=C∧a=b:=by refine cS2 h ?_;exact⟨rfl,rfl⟩
theorem nos{α:Type}{x:α}{P:Prop}(h:(none:Option α)=some x):P:=nomatch h
@[elab_as_elim] theorem iv{α:Type}{P:α→CH→Prop}{a b:α}(h:ok a C=some (b,C'))(k:P a C):P b C':=by refine cS2 h ?_;exact k
theorem bc{α β:Type}{m:M α}{f:α→M β}{r:β×CH}{P:Prop}(h:bd m f C=some r)(k:∀a C₁,m C=some (a,C₁)→f a C₁=some r→P):P:=
 by refine zG (cC h) λa C₁ h1 h2=>?_;exact k a C₁ h1 h2
theorem bo{β:Type}{c:Nat}{f:O→M β}{r:β×CH}{P:Prop}(h:bd (av c) f C=some r)(k:∀o k,C[c]?=some (o,k)→f o C=some r→P):P:=
 by refine zG (xD h) λa C₁ h1 h2=>?_;exact k a C₁ h1 h2
theorem eM{α β:Type}{o:Option α}{f:α→M β}{r:β×CH}{P:Prop}(h:bd (lift o) f C=some r)(k:∀a,o=some a→f a C=some r→P):P:=
 by refine oEA (xu h) λa h1 h2=>?_;exact k a h1 h2
@[elab_as_elim] theorem dB{α:Type}{P:CH→Prop}{o:Option α}{a:α}(h:lift o C=some (a,C'))(k:o=some a→P C):P C':=by refine oA (lz h) λzr0 e=>?_;show zr0;exact k e
theorem kI{α:Type}{c:Prop}[Decidable c]{x:Option α}{r:α}{P:Prop}(h:(if c then x else none)=some r)(k:c→x=some r→P):P:=by
 by_cases hc:c
 ·rw[if_pos hc] at h;exact k hc h
 ·rw[if_neg hc] at h;exact cNo h
@[elab_as_elim] theorem iN{α:Type}{P:α→CH→Prop}{c:Prop}[Decidable c]{a b:α}(h:(if c then some (a,C) else none)=some (b,C'))(k:c→P a C):P b C':=by
 by_cases hc:c
 ·rw[if_pos hc] at h;refine cS2 h ?_;exact k hc
 ·rw[if_neg hc] at h;exact cNo h
theorem nA{α β:Type}{o:Option α}{f:α→Option β}{r:β}{P:Prop}(h:(match o with|some a=>f a|none=>none)=some r)(k:∀a,o=some a→f a=some r→P):P:=by
 induction o using Option.casesOn with
 |none=>exact cNo h
 |some a=>exact k a rfl h
theorem sC{α β:Type}{o:Option α}{f:α→M β}{r:β×CH}{P:Prop}(h:(match o with|some a=>f a|none=>no) C=some r)(k:∀a,o=some a→f a C=some r→P):P:=by
 induction o using Option.casesOn with
 |none=>exact cNo h
 |some a=>exact k a rfl h
theorem yo{α β:Type}{o:Option α}{f:α→Option β}{x:Option β}{r:β}{P:Prop}(h:(match o with|some a=>f a|none=>x)=some r)(k:∀a,o=some a→f a=some r→P)(k':o=none→x=some r→P):P:=by
 induction o using Option.casesOn with
 |none=>exact k' rfl h
 |some a=>exact k a rfl h
theorem bU{α:Type}{b:Bool}{x:M α}{r:α×CH}{P:Prop}(h:(match b with|true=>x|false=>no) C=some r)(k:b=true→x C=some r→P):P:=by
 induction b using Bool.casesOn with
 |false=>exact cNo h
 |true=>exact k rfl h
theorem rU{α:Type}{b:Bool}{x:M α}{r:α×CH}{P:Prop}(h:(match b with|true=>no|false=>x) C=some r)(k:b=false→x C=some r→P):P:=by
 induction b using Bool.casesOn with
 |true=>exact cNo h
 |false=>exact k rfl h
@[elab_as_elim] theorem b9{α β:Type}{P:α→β→CH→Prop}{a a':α}{b b':β}(h:ok (a,b) C=some ((a',b'),C'))(k:P a b C):P a' b' C':=by refine cS3 h ?_;exact k
theorem uN{α β γ:Type}{o:Option α}{o':Option β}{f:α→β→γ}{r:γ}{P:Prop}(h:(match o,o' with|some a,some b=>some (f a b)|_,_=>none)=some r)(k:∀a b,o=some a→o'=some b→f a b=r→P):P:=by
 induction o using Option.casesOn with
 |none=>exact cNo h
 |some a=>induction o' using Option.casesOn with
  |none=>exact cNo h
  |some b=>exact k a b rfl rfl (Option.some.inj h)
set_option smartUnfolding false in
theorem vd{v:V}{vs:List V}{l:List Int}{P:Prop}(h:V.ints (v::vs)=some l)(k:∀i l',v=.int i→V.ints vs=some l'→i::l'=l→P):P:=by
 induction v using V.casesOn with
 |int i=>exact nA h λl' e h=>k i l' rfl e (Option.some.inj h)
 |_=>exact nos h
theorem i7{i:Int}{vs:List V}{l:List Int}(h:V.ints vs=some l):V.ints (.int i::vs)=some (i::l):=by simp only[V.ints];show h;rfl
theorem eF{α:Type}{c:Bool}{x y:M α}{r:α×CH}{P:Prop}(h:(if c=true then x else y) C=some r)(k:c=true→x C=some r→P)(k':y C=some r→P):P:=by
 induction c using Bool.casesOn with
 |true=>exact k rfl h
 |false=>exact k' h
section
variable {hh:Heap}{y:Value}{P:Value→Prop}
@[elab_as_elim] theorem Rel.intE{i:Int}(h:Rel B ρ hh (.int i) y)(k:∀t,P (.int i t)):P y:=by cases h;exact k _
@[elab_as_elim] theorem Rel.boolE{i:Bool}(h:Rel B ρ hh (.bool i) y)(k:P (.bool i)):P y:=by cases h;exact k
@[elab_as_elim] theorem Rel.strE{i:Str}(h:Rel B ρ hh (.str i) y)(k:∀t,P (.str i t)):P y:=by cases h;exact k _
@[elab_as_elim] theorem Rel.nnE(h:Rel B ρ hh .nn y)(k:P .none):P y:=by cases h;exact k
@[elab_as_elim] theorem Rel.cellE{c:Nat}(h:Rel B ρ hh (.cell c) y)(k:∀a:Addr,ρ[c]?=some a→P (.ref a)):P y:=by cases h;exact k _ ‹_›
@[elab_as_elim] theorem Rel.tupE{vs:List V}(h:Rel B ρ hh (.tup vs) y)(k:∀(a:Addr) items,exT hh a items→RelL B ρ hh vs items.toList→P (.ref a)):P y:=by cases h;exact k _ _ ‹_› ‹_›
@[elab_as_elim] theorem Rel.froE{xs:List Int}(h:Rel B ρ hh (.fro xs) y)(k:∀(a:Addr) vs,B.IsList a vs.toArray→IntsAre vs xs→P (.ref a)):P y:=by cases h;exact k _ _ ‹_› ‹_›
end
section
variable {hh:Heap}{ys:List Value}{P:List Value→Prop}
@[elab_as_elim] theorem RelL.nilE(h:RelL B ρ hh [] ys)(k:P []):P ys:=by cases h;exact k
@[elab_as_elim] theorem RelL.consE{a:V}{l:List V}(h:RelL B ρ hh (a::l) ys)(k:∀y zs,Rel B ρ hh a y→RelL B ρ hh l zs→P (y::zs)):P ys:=by cases h;exact k _ _ ‹_› ‹_›
@[elab_as_elim] theorem RelL.oneE{a:V}(h:RelL B ρ hh [a] ys)(k:∀y,Rel B ρ hh a y→P [y]):P ys:=h.consE λy zs r r'=>r'.nilE (k y r)
@[elab_as_elim] theorem RelL.twoE{a b:V}(h:RelL B ρ hh [a,b] ys)(k:∀y z,Rel B ρ hh a y→Rel B ρ hh b z→P [y,z]):P ys:=h.consE λy zs r r'=>r'.oneE λz rz=>k y z r rz
end
theorem RelL.app{h:Heap}{us:List V}{ys:List Value}(b:RelL B ρ h us ys):∀{vs:List V}{xs:List Value},RelL B ρ h vs xs→RelL B ρ h (vs++us) (xs++ys):=by
 intro vs
 induction vs with
 |nil=>intro xs r;exact r.nilE b
 |cons a l ih=>intro xs r;exact r.consE λy zs r0 r1=>.cons r0 (ih r1)
theorem RelL.append{h:Heap}{vs us:List V}{xs ys:List Value}(a:RelL B ρ h vs xs)(b:RelL B ρ h us ys):RelL B ρ h (vs++us) (xs++ys):=RelL.app b a
theorem RelL.length{h:Heap}:∀{vs:List V}{xs:List Value},RelL B ρ h vs xs→vs.length=xs.length:=by
 intro vs
 induction vs with
 |nil=>intro xs r;exact r.nilE rfl
 |cons a l ih=>intro xs r;exact r.consE λy zs r0 r1=>congrArg (·+1) (ih r1)
theorem RelL.get{h:Heap}:∀{vs:List V}{xs:List Value},RelL B ρ h vs xs→∀(i:Nat) (v:V),vs[i]?=some v→∃x,xs[i]?=some x∧Rel B ρ h v x:=by
 intro vs
 induction vs with
 |nil=>intro xs r i v e;exact nos e
 |cons a l ih=>
  intro xs r i v
  refine r.consE λy zs r0 r1=>?_
  cases i with
  |zero=>intro e;exact iEA y rfl (Option.some.inj e▸r0)
  |succ i=>intro e;exact ih r1 i v e
theorem RelL.replicate{h:Heap}{v:V}{x:Value}(a:Rel B ρ h v x)(n:Nat):RelL B ρ h (List.replicate n v) (List.replicate n x):=by
 induction n with
 |zero=>exact .nil
 |succ n ih=>exact .cons a ih
theorem aN{prog:Program}{h:Heap}(x:HR prog w B ρ C h){c:Nat}{a:Addr}{vs:List V}{k:Nat}(e:C[c]?=some (.list vs,k))(ea:ρ[c]?=some a):
  ∃items,And3 (exL h a items) (RelL B ρ h vs items.toList) (vs.length≤100000):=by
 cases x.obj c _ a e ea with
 |list h1 h2 h3=>exact iEa3 _ h1 h2 h3
theorem mV(x:Value):∀(k:Nat) (acc:Array Value),(List.foldl (λx1 x2=>x1++x2) acc (List.replicate k #[x])).toList=acc.toList++List.replicate k x:=by
 intro k
 induction k with
 |zero=>intro acc;simp
 |succ k ih=>intro acc;show List.replicate_succ;show Cx;show ih;simp[List.replicate_succ]
theorem sR(hB:B.NoLimit)(R:Rm A n)(S:St prog w B ρ C s){op:Operator}{a b v:V}{x y:Value}(ha:Rel B ρ s.heap a x)(hb:Rel B ρ s.heap b y)(e:dh op a b C=some (v,C')):
  wpAny (model prog w) A (binaryOp op x y) (QV prog w B ρ C s v C') EF s:=by
 induction op using PySem.Operator.casesOn with
 |Add=>induction a using V.casesOn with
  |int i=>induction b using V.casesOn with
   |int j=>exact ha.intE λxx=>hb.intE λxx=>iv e (add_int (QV.int S _ _ _))
   |_=>exact nos e
  |tup xs=>induction b using V.casesOn with
   |tup ys=>
    refine ha.tupE λaa items ⟨k,ht⟩ hl=>hb.tupE λbb items' ⟨k',ht'⟩ hl'=>iN e λhf=>?_
    have l1:=hl.length
    have l2:=hl'.length
    rw[Cf] at hf
    by_cases hv:items.isEmpty=true
    ·refine concat_meets ⟨_,ht,rfl⟩ ⟨_,ht',rfl⟩ noFill_tuple_add seq_tuple_add PySem.F.slot_tuple_add PySem.F.entry_tuple_add (PySem.F.args_tuple_add_2 _ _)
      (tuple_addW0 _ _ items items' k k' _ _ _ _ hv) ⟨ht,ht',?_⟩
     rw[Array.isEmpty_iff] at hv
     show(List.eq_nil_of_length_eq_zero (l1.trans (by show hv;rfl)))
     exact QV.self S (.tup ⟨k',ht'⟩ hl')
    ·by_cases hw:items'.isEmpty=true
     ·refine concat_meets ⟨_,ht,rfl⟩ ⟨_,ht',rfl⟩ noFill_tuple_add seq_tuple_add PySem.F.slot_tuple_add PySem.F.entry_tuple_add (PySem.F.args_tuple_add_2 _ _)
       (tuple_addW1 _ _ items items' k k' _ _ _ _ hv hw) ⟨ht,ht',?_⟩
      rw[Array.isEmpty_iff] at hw
      show(List.eq_nil_of_length_eq_zero (l2.trans (by show hw;rfl)));show Cn
      exact QV.self S (.tup ⟨k,ht⟩ hl)
     ·refine concat_meets ⟨_,ht,rfl⟩ ⟨_,ht',rfl⟩ noFill_tuple_add seq_tuple_add PySem.F.slot_tuple_add PySem.F.entry_tuple_add (PySem.F.args_tuple_add_2 _ _)
       (tuple_addW2 _ _ items items' k k' _ _ _ _ hv hw (by show sizeLine_eq;refine rL (Ce ..) ?_;refine rL (Ce ..) ?_;refine rL (l1 ..) ?_;refine rL (l2 ..) ?_;exact B4 hf (B5 _ _))) ⟨ht,ht',?_⟩
      exact QV.tup S (by show Array.toList_append;exact hl.append hl') s.toks
   |_=>exact nos e
  |cell c=>induction b using V.casesOn with
   |cell d=>
    refine bo e λo₁ k₁ q₁ e=>bo e λo₂ k₂ q₂ e=>?_
    induction o₁ using O.casesOn with
    |dict _=>exact nos e
    |list xs=>induction o₂ using O.casesOn with
     |dict _=>exact nos e
     |list ys=>
      refine ha.cellE λa1 ea=>hb.cellE λb1 eb=>kI e λhf e=>?_
      refine cS2 e ?_
      obtain⟨i1,⟨n1,l1⟩,r1,z1⟩:=aN S.hr q₁ ea
      obtain⟨i2,⟨n2,l2⟩,r2,z2⟩:=aN S.hr q₂ eb
      have w1:=r1.length
      have w2:=r2.length
      rw[Cf] at hf
      refine P.add_list l1 l2 (QV.list S hB (items:=i1++i2) (by show Array.toList_append;exact r1.append r2) (by show Cf;exact B4 hf (B5 _ _)) s.toks) ?_
      show sizeLine_eq;refine rL (Ce ..) ?_;refine rL (Ce ..) ?_;refine rL (w1 ..) ?_;refine rL (w2 ..) ?_;exact B4 hf (B5 _ _)
   |_=>exact nos e
  |_=>exact nos e
 |Sub=>induction a using V.casesOn with
  |int i=>induction b using V.casesOn with
   |int j=>exact ha.intE λxx=>hb.intE λxx=>iv e (sub_int (QV.int S _ _ _))
   |_=>exact nos e
  |_=>exact nos e
 |Mult=>induction a using V.casesOn with
  |int i=>induction b using V.casesOn with
   |int j=>exact ha.intE λxx=>hb.intE λxx=>iN e λhf=>(Bool.and_eq_true_iff.mp hf).elim λh1 h2=>mul_int (QV.int S _ _ _) (IntMulOk.of_bits (oy h1) (oy h2))
   |_=>exact nos e
  |cell c=>induction b using V.casesOn with
   |int i=>
    refine bo e λo₁ k₁ q₁ e=>?_
    induction o₁ using O.casesOn with
    |dict _=>exact nos e
    |list l=>induction l using List.casesOn with
     |nil=>exact nos e
     |cons z l=>induction l using List.casesOn with
      |cons _ _=>exact nos e
      |nil=>
       refine ha.cellE λa1 ea=>hb.intE λt=>kI e λhf e=>?_
       refine cS2 e ?_
       obtain⟨⟨xs⟩,⟨n1,l1⟩,r1,_⟩:=aN S.hr q₁ ea
       have r1:RelL B ρ s.heap [z] xs:=r1
       revert l1
       refine r1.oneE λx h0 l1=>?_
       refine wpAny_binaryOp_repeat_ref (T:="list") (U:="int") (rfl) ⟨_,l1,rfl⟩ (λs'=>typeIs_int s' _ t) noFill_list_mul F.fills_int_mul F.slot_int_rmul repeat_list F.slot_int_index.lookup
        (call_meets F.slot_int_rmul (typeIs_int s _ t) F.entry_int_rmul (F.args_int_rmul_2 _ _) (int___rmul___int_list _ t _ _ n1)
         ⟨l1,rfl,⟨_,l1,rfl⟩,call_meets F.slot_list_mul ⟨_,l1,rfl⟩ F.entry_list_mul (F.args_list_mul_2 _ _)
          (AutoListH.list___mul___list_int_3 _ _ n1 _ t (by simp[Builtin.List.listFitsIndex];lia) (by simp;lia) (by simp[Builtin.List.listTooLong,sizeLine];lia))
          ⟨l1,?_⟩⟩)
       refine QV.list S hB ?_ (by show List.length_replicate;lia) s.toks
       show if_neg (ne_true_of_eq_false rfl);show mV
       exact RelL.replicate h0 _
   |_=>exact nos e
  |_=>exact nos e
 |FloorDiv=>induction a using V.casesOn with
  |int i=>induction b using V.casesOn with
   |int j=>
    refine ha.intE λxx=>hb.intE λxx=>iN e λhf=>?_
    exact floordiv_int hf.1 (QV.int S _ _ _) (.inl (PyProof.noPylong_of_log2 (B7 (of_decide_eq_true (p:=j.natAbs.log2<8000) hf.2) (Nat.le_of_ble_eq_true rfl))))
   |_=>exact nos e
  |_=>exact nos e
 |Mod=>induction a using V.casesOn with
  |int i=>induction b using V.casesOn with
   |int j=>
    refine ha.intE λxx=>hb.intE λxx=>?_
    by_cases hj:j=0
    ·exact nos ((if_pos hj).symm.trans e)
    ·exact iv ((if_neg hj).symm.trans e) (mod_int hj (QV.int S _ _ _))
   |_=>exact nos e
  |_=>exact nos e
 |Pow=>induction a using V.casesOn with
  |int i=>induction b using V.casesOn with
   |int j=>exact ha.intE λxx=>hb.intE λxx=>iN e λhf=>pow_int_small hf.1 (Int.le_trans hf.2.1 (by decide)) hf.2.2 (QV.int S _ _ _)
   |_=>exact nos e
  |_=>exact nos e
 |_=>exact nos e
section
variable {prog:Program}{w:World}{B:Heap}{ρ ρ':List Addr}{C C':CH}{s s':Shared}{A:Around}{n:Nat}
noncomputable def fV(k:K):List (K×V)→Option Nat
 |[]=>none
 |(j,_)::r=>if j=k then some 0 else(fV k r).map (·+1)
theorem gw{k:K}:∀{es:List (K×V)},lk k es=(fV k es).bind λi=>(es[i]?).map (·.2)
 |[]=>rfl
 |(j,v)::r=>by
  unfold lk fV
  split
  ·rfl
  ·show gw (es:=r)
   cases fV k r<;>rfl
theorem qI{k:K}{v:V}:∀{es:List (K×V)},st k v es=match fV k es with|some i=>es.modify i (λe=>(e.1,v))|none=>es++[(k,v)]
 |[]=>rfl
 |(j,u)::r=>by
  unfold st fV
  split
  ·rfl
  ·show qI (es:=r)
   cases fV k r<;>rfl
theorem uU{k:K}:∀{es:List (K×V)},rm k es=match fV k es with|some i=>es.eraseIdx i|none=>es
 |[]=>rfl
 |(j,u)::r=>by
  unfold rm fV
  split
  ·rfl
  ·show uU (es:=r)
   cases fV k r<;>rfl
theorem eC{k:K}:∀{es:List (K×V)}{i:Nat},fV k es=some i→∃v,es[i]?=some (k,v)
 |(j,u)::r,i,h=>by
  unfold fV at h
  split at h
  ·rename_i q;refine cS1 h ?_;exact⟨u,by show q;rfl⟩
  ·cases hr:fV k r with
   |none=>rw[hr] at h;exact cNo h
   |some i'=>rw[hr] at h;refine cS1 h ?_;exact eC (es:=r) hr
theorem qH{k:K}:∀{es:List (K×V)},fV k es=none→k∉es.map (·.1):=λ{es}=>by
 induction es with
 |nil=>
  intro _
  simp
 |cons hd' r ih'=>
  intro h
  obtain⟨j,u⟩:=hd'
  unfold fV at h
  split at h
  ·exact cNs h
  ·rename_i q
   have hr:fV k r=none:=by cases hr:fV k r with|none=>rfl|some i=>rw[hr] at h;exact cNs h
   simp only[List.map_cons,List.mem_cons,not_or]
   exact⟨λe=>q e.symm,ih' hr⟩
theorem qU{k:K}{es:List (K×V)}(nd:(es.map (·.1)).Nodup){i:Nat}{v:V}(h:es[i]?=some (k,v)):fV k es=some i:=by
 cases hq:fV k es with
 |none=>exact absurd (Cl.mpr ⟨(k,v),List.mem_of_getElem? h,rfl⟩) (qH hq)
 |some j=>
  refine oE (eC hq) λu hj=>?_
  have e1:(es.map (·.1))[i]?=some k:=by show List.getElem?_map;show h;rfl
  have e2:(es.map (·.1))[j]?=some k:=by show List.getElem?_map;show hj;rfl
  show(List.getElem?_inj (List.getElem?_eq_some_iff.mp e1).1 nd).mp (e1.trans e2.symm);rfl
theorem Ents.length{h:Heap}{es:List (K×V)}{ds:List DictEntry}(H:Ents prog w B ρ h es ds):es.length=ds.length:=by
 induction H with
 |nil=>rfl
 |cons _ _ _ _ ih=>exact congrArg (·+1) ih
theorem Ents.get{h:Heap}{es:List (K×V)}{ds:List DictEntry}(H:Ents prog w B ρ h es ds):∀{i:Nat}{k:K}{v:V},es[i]?=some (k,v)→
  ∃e,And4 (ds[i]?=some e) (e.hash=k.hash prog w) (k.Is prog w h e.key) (Rel B ρ h v e.val):=by
 induction H with
 |nil=>intro i k v e;exact nos e
 |cons a b c _ ih=>
  intro i
  cases i with
  |zero=>
   intro k v e
   obtain⟨rfl,rfl⟩:=Prod.mk.inj (Option.some.inj e)
   exact sL _ rfl a b c
  |succ i=>intro k v e;exact ih e
theorem isI(m j:Int)(t:Tok):(intKind prog w).is m (.int j t)=decide (j=m):=by
 change (j==m)=_
 by_cases h:j=m<;>rfl
theorem ix(hu:A.units<cLine){k:K}{v:Value}{Q:Int→Shared→Prop}(hk:k.Is prog w s.heap v)(h:∀tk,Q (k.hash prog w) { s with toks:=tk }):wpAny (model prog w) A (pyHash v) Q EF s:=by
 induction k using K.casesOn with
 |i m=>obtain⟨t,rfl⟩:=hk;exact wpAny_pyHash_int (h _)
 |t ns=>
  obtain⟨a,items,rfl,⟨k,ht⟩,hi⟩:=hk
  exact wpAny_pyHash_tuple hu ⟨_,items,k,ht,rfl,rfl,hi⟩ (h _)
theorem Ents.tups{h:Heap}{es:List (K×V)}{ds:List DictEntry}(H:Ents prog w B ρ h es ds):(∀e∈es,e.1.isT=true)→
  ∃xs:List (List Int×Addr×Value),And3 (ds=xs.map (entryOfKey (tupleKind (intKind prog w)))) (es.map (·.1)=xs.map (λx=>K.t x.1)) (∀x∈xs,(tupleKind (intKind prog w)).is h x.1 x.2.1):=by
 induction H with
 |nil=>intro _;exact iEa3 [] rfl rfl (λx hx=>nomatch hx)
 |@cons k v d es ds a b c r ih=>
  intro hT
  refine cv (ih (λe he=>hT e (B6 _ he))) λxs h1 h2 h3=>?_
  have hk:=hT _ B9
  induction k using K.casesOn with
  |i m=>exact cFt hk
  |t ns=>
   obtain⟨ad,items,hv,⟨k,ht⟩,hi⟩:=b
   refine iEa3 ((ns,ad,d.val)::xs) ?_ ?_ ?_
   ·show Cc;refine rL (h1 ..) ?_
    obtain⟨h0,k0,v0⟩:=d
    simp only at hv a
    subst hv a
    rfl
   ·show Cc;show h2;rfl
   ·intro x hx
    rcases Cb.mp hx with rfl|hx
    ·exact⟨_,items,k,ht,rfl,rfl,hi⟩
    ·exact h3 x hx
theorem Ents.mem{h:Heap}{es:List (K×V)}{ds:List DictEntry}(H:Ents prog w B ρ h es ds):∀d∈ds,∃e∈es,d.hash=e.1.hash prog w∧e.1.Is prog w h d.key:=by
 induction H with
 |nil=>intro d hd;exact nomatch hd
 |cons a b c _ ih=>
  intro d hd
  rcases Cb.mp hd with rfl|hd
  ·exact vb _ B9 a b
  ·refine lC (ih d hd) λe he x y=>?_
   exact vb e (B6 _ he) x y
theorem Ents.findI{h:Heap}{m:Int}{es:List (K×V)}{ds:List DictEntry}(H:Ents prog w B ρ h es ds):(∀e∈es,e.1.isT=false)→ds.findIdx? (λe=>(intKind prog w).is m e.key)=fV (.i m) es:=by
 induction H with
 |nil=>intro _;rfl
 |@cons k v d es ds a b c r ih=>
  intro hT
  have hk:=hT _ B9
  induction k using K.casesOn with
  |t ns=>exact nomatch hk
  |i j=>
   refine oE b λt hv=>?_
   show List.findIdx?_cons;show hv
   unfold fV
   show(ih λe he=>hT e (B6 _ he));show isI
   by_cases q:j=m
   ·show q
    show if_pos rfl;show decide_eq_true rfl;rfl
   ·show(if_neg (λe=>q (K.i.inj e)));show decide_eq_false q;rfl
theorem jZ(hu:A.units<cLine){d:Addr}{o:Obj}{ds:Array DictEntry}{ep:Nat}{es:List (K×V)}{k:K}{key:Value}{Q:Option Nat→Shared→Prop}(ho:s.heap.get? d=some o)(hd:o.data=.dict ds ep)
  (en:Ents prog w B ρ s.heap es ds.toList) (nd:(es.map (·.1)).Nodup) (hs:am k es=true) (hk:k.Is prog w s.heap key) (h:Q (fV k es) s):wpAny (model prog w) A (dictFind d key (k.hash prog w)) Q EF s:=by
 have hs':∀e∈es,e.1.isT=k.isT:=λe he=>by
  have:=CA.mp hs e he
  exact eq_of_beq this
 induction k using K.casesOn with
 |i m=>
  obtain⟨t,rfl⟩:=hk
  have hkeys:KeysOf (intKind prog w) ds:=λd hd=>by
   refine lC (en.mem d (Array.mem_toList_iff.mpr hd)) λe he h1 h2=>?_
   have:=hs' e he
   obtain⟨k,v⟩:=e
   induction k using K.casesOn with
   |t ns=>exact cTf this
   |i j=>refine oE h2 λt hv=>?_;exact iEA j (by show hv;show isI;exact of_decide_eq_self_eq_true _) h1
  refine wpAny_dictFind_of (knd:=intKind prog w) (k:=m) (by show isI;exact of_decide_eq_self_eq_true _) ho hd hkeys ?_
  have:(ds.findIdx? λe=>(intKind prog w).is m e.key)=fV (.i m) es:=by
   refine rL (en.findI hs' ..) ?_;refine rL (List.findIdx?_toArray ..) ?_;rfl
  show this;exact h
 |t ns=>
  obtain⟨a,items,rfl,⟨kk,ht⟩,hi⟩:=hk
  refine cv (en.tups hs') λxs h1 h2 h3=>?_
  have hn:(xs.map (·.1)).Nodup:=by
   rw[h2] at nd
   have e2:xs.map (λx=>K.t x.1)=(xs.map (·.1)).map K.t:=by show List.map_map;rfl
   rw[e2] at nd
   exact List.Pairwise.of_map K.t (λa b hab e=>hab (by show e;rfl)) nd
  have conv:∀(j:Nat) (p:Addr×Value),xs[j]?=some (ns,p)→∃v,es[j]?=some (K.t ns,v):=λj p hj=>by
   have:(es.map (·.1))[j]?=some (K.t ns):=by show h2;show List.getElem?_map;show hj;rfl
   rw[List.getElem?_map] at this
   cases he:es[j]? with
   |none=>rw[he] at this;exact cNo this
   |some e=>rw[he] at this;exact⟨e.2,by refine rL (Option.some.inj this ..) ?_;rfl⟩
  refine wpAny_dictFind_heap (knd:=tupleKind (intKind prog w)) (xs:=xs) (by exact hu) ⟨_,items,kk,ht,rfl,rfl,hi⟩ ho hd h1 h3 hn (λhno=>?_) (λj p hj=>?_)
  ·cases hq:fV (.t ns) es with
   |none=>rw[hq] at h;exact h
   |some j=>
    refine oE (eC hq) λv hj=>?_
    have:(xs.map (λx=>K.t x.1))[j]?=some (K.t ns):=by refine rL (h2 ..) ?_;show List.getElem?_map;show hj;rfl
    rw[List.getElem?_map] at this
    cases hx:xs[j]? with
    |none=>rw[hx] at this;exact cNo this
    |some x=>
     rw[hx] at this
     simp only[Option.map_some,Option.some.injEq,K.t.injEq] at this
     exact absurd (by show hx;refine rL (this ..) ?_;rfl) (hno j x.2)
  ·refine oE (conv j p hj) λv hv=>?_
   rw[qU nd hv] at h
   exact h
end
theorem aJ{prog:Program}{h:Heap}(x:HR prog w B ρ C h){c:Nat}{a:Addr}{es:List (K×V)}{k:Nat}(e:C[c]?=some (.dict es,k))(ea:ρ[c]?=some a):
  ∃(o:Obj) (ds:Array DictEntry) (ep:Nat),And7 (h.get? a=some o) o.ExactDict (o.data=.dict ds ep) (Ents prog w B ρ h es ds.toList) (pq es) ((es.map (·.1)).Nodup) (es.length≤100000):=by
 cases x.obj c _ a e ea with
 |dict h1 h2 h3 h4 h5 h6 h7=>exact⟨_,_,_,h1,h2,h3,h4,h5,h6,h7⟩
theorem mE{o:Obj}{a:Addr}(ho:s.heap.get? a=some o)(hx:o.ExactDict):s.TypeIs (.ref a) "dict":=⟨o,ho,hx.1⟩
theorem sP(S:St prog w B ρ C s){c:Nat}{a:Addr}(ea:ρ[c]?=some a):(a==sysModules)=false:=
 beq_eq_false_iff_ne.mpr (Nat.ne_of_gt (S.off a (List.mem_of_getElem? ea)).2)
theorem w8{vs:List V}:∀{l:List Int}{xs:List Value},V.ints vs=some l→RelL B ρ s.heap vs xs→ItemsAre (intKind prog w) l xs:=by
 induction vs with
 |nil=>intro l xs hl r;refine cS1 hl ?_;exact r.nilE .nil
 |cons v vs ih=>
  intro l xs hl r
  refine vd hl λi l' e1 hq e2=>?_
  subst e1 e2
  exact r.consE λy zs r0 r1=>r0.intE λt=>.cons (by show isI;exact decide_eq_true rfl) (ih hq r1)
theorem gv{v:V}{k:K}{y:Value}(h:v.key=some k)(r:Rel B ρ s.heap v y):k.Is prog w s.heap y:=by
 induction v using V.casesOn with
 |int i=>refine cS1 h ?_;exact r.intE λt=>⟨t,rfl⟩
 |tup vs=>
  replace h:(match V.ints vs with|some l=>some (K.t l)|none=>none)=some k:=h
  cases hl:V.ints vs with
  |none=>rw[hl] at h;exact nos h
  |some l=>rw[hl] at h;refine cS1 h ?_;exact r.tupE λa items ht hr=>⟨a,items,rfl,ht,w8 hl hr⟩
 |_=>exact nos h
theorem ga(hu:A.units<cLine){d:Addr}{o:Obj}{ds:Array DictEntry}{ep:Nat}{es:List (K×V)}{k:K}{key:Value}{Q:Option Value→Shared→Prop}(ho:s.heap.get? d=some o)(hd:o.data=.dict ds ep)
  (en:Ents prog w B ρ s.heap es ds.toList) (nd:(es.map (·.1)).Nodup) (hs:am k es=true) (hk:k.Is prog w s.heap key)
  (h1:∀v y tk,lk k es=some v→Rel B ρ s.heap v y→Q (some y) { s with toks:=tk }) (h0:∀tk,lk k es=none→Q none { s with toks:=tk }):wpAny (model prog w) A (dictGet d key) Q EF s:=by
 unfold dictGet
 try with_reducible refine wpAny_holding ?_
 refine B1 (ix hu hk λtk=>B1 (jZ (s:={ s with toks:=tk }) hu ho hd en nd hs hk ?_))
 cases hq:fV k es with
 |none=>exact B2 (h0 tk (by show gw;show hq;rfl))
 |some i=>
  refine oE (eC hq) λv hv=>?_
  refine kQ (en.get hv) λe he xx xx hr=>?_
  refine B1 (wpAny_dictEntries (s:={ s with toks:=tk }) ho hd ?_)
  show(show ds[i]?=some e by refine rL (Array.getElem?_toList ..) ?_;exact he)
  exact B2 (h1 v _ tk (by show gw;show hq;simp[hv]) hr)
theorem kS(hu:A.in1.units<cLine){d:Addr}{o:Obj}{ds:Array DictEntry}{ep:Nat}{es:List (K×V)}{k:K}{key:Value}{v:V}{Q:Value→Shared→Prop}(ho:s.heap.get? d=some o)(hx:o.ExactDict)(hd:o.data=.dict ds ep)
  (en:Ents prog w B ρ s.heap es ds.toList) (nd:(es.map (·.1)).Nodup) (hs:am k es=true) (hk:k.Is prog w s.heap key) (hl:lk k es=some v)
  (h1:∀y tk,Rel B ρ s.heap v y→Q y { s with toks:=tk }):wpAny (model prog w) A (getItem (.ref d) key) Q EF s:=by
 have hT:=mE ho hx
 unfold getItem
 try with_reducible refine wpAny_holding ?_
 refine B1 (wpAny_sequenceKey hT (rfl) ?_)
 refine B1 (wpAny_callSpecial?_slot (name:=Str.ofString "__getitem__") hT slot_dict_getitem
  (Cu slot_dict_getitem hT entry_dict_getitem ?_ (args_dict_getitem _ _)))
 change wpAny _ _ (dictGet d key >>= _) _ _ s
 refine B1 (ga hu ho hd en nd hs hk (λu y tk e r=>?_) λtk e=>?_)
 ·rw[hl] at e;refine cSo e λzx=>?_;clear e;subst zx
  exact B2 ⟨y,rfl,B2 (h1 y tk r)⟩
 ·rw[hl] at e;exact cNs e
theorem Ents.modify{h:Heap}{v:V}{y:Value}(r:Rel B ρ h v y){es:List (K×V)}{ds:List DictEntry}(i:Nat)(H:Ents prog w B ρ h es ds):
  Ents prog w B ρ h (es.modify i λe=>(e.1,v)) (ds.modify i λe=>{ e with val:=y }):=by
 induction H generalizing i with
 |nil=>simpa using Ents.nil
 |cons a b c t ih=>
  cases i with
  |zero=>exact .cons a b r t
  |succ i=>exact .cons a b c (ih i)
theorem Ents.append{h:Heap}{es fs:List (K×V)}{ds us:List DictEntry}(H:Ents prog w B ρ h es ds)(x:Ents prog w B ρ h fs us):Ents prog w B ρ h (es++fs) (ds++us):=by
 induction H with
 |nil=>exact x
 |cons a b c _ ih=>exact .cons a b c ih
theorem Ents.erase{h:Heap}{es:List (K×V)}{ds:List DictEntry}(i:Nat)(H:Ents prog w B ρ h es ds):Ents prog w B ρ h (es.eraseIdx i) (ds.eraseIdx i):=by
 induction H generalizing i with
 |nil=>simpa using Ents.nil
 |cons a b c t ih=>
  cases i with
  |zero=>exact t
  |succ i=>exact .cons a b c (ih i)
theorem wv{k:K}{v:V}:∀{es:List (K×V)},(st k v es).map (·.1)=if k∈es.map (·.1) then es.map (·.1) else es.map (·.1)++[k]:=λ{es}=>by
 induction es with
 |nil=>
  exact rfl
 |cons hd' r ih'=>
  obtain⟨j,u⟩:=hd'
  unfold st
  by_cases h:j=k
  ·show if_pos h;show(if_pos (by simp[h]));rfl
  ·show if_neg h;show Cc;show ih'
   by_cases h':k∈r.map (·.1)
   ·show if_pos h';show(if_pos (by simp only[List.map_cons,List.mem_cons];exact .inr h'));rfl
   ·show if_neg h';show(if_neg (by simp only[List.map_cons,List.mem_cons,not_or];exact⟨λe=>h e.symm,h'⟩));rfl
theorem oH{k:K}{v:V}{es:List (K×V)}(nd:(es.map (·.1)).Nodup):((st k v es).map (·.1)).Nodup:=by
 show wv
 split
 ·exact nd
 ·rename_i h
  show propext (List.nodup_append ..)
  exact iAA nd (by simp) (λx hx y hy e=>by rw[Cd.mp hy] at e;exact h (e▸hx))
theorem yd{k:K}{v:V}:∀{es:List (K×V)}{e:K×V},e∈st k v es→e.1=k∨e∈es:=λ{es}=>by
 induction es with
 |nil=>
  intro e h
  show Cd.mp h;exact .inl rfl
 |cons hd' r ih'=>
  intro e h
  obtain⟨j,u⟩:=hd'
  unfold st at h
  split at h
  ·rcases Cb.mp h with rfl|h
   ·exact .inl ‹_›
   ·exact .inr (B6 _ h)
  ·rcases Cb.mp h with rfl|h
   ·exact .inr B9
   ·exact(ih' h).imp id (B6 _)
theorem nS{k:K}{v:V}:∀{es:List (K×V)},(st k v es).length≤es.length+1
 |[]=>B5 _ _
 |(j,u)::r=>by
  unfold st
  split
  ·simp
  ·have:=nS (k:=k) (v:=v) (es:=r);simp;exact this
theorem nT{k:K}{v:V}{es:List (K×V)}(hs:am k es=true):pq (st k v es):=
 ⟨k.isT,λe he=>(yd he).elim (λq=>by show q;rfl) λq=>eq_of_beq (CA.mp hs e q)⟩
theorem qh{es fs:List (K×V)}(h:pq es)(hs:∀e∈fs,e∈es):pq fs:=by refine oE h λb x=>?_;exact⟨b,λe he=>x e (hs e he)⟩
theorem iT(hu:A.units<cLine){a:Addr}{es:List (K×V)}{o:Obj}{ds:Array DictEntry}{epo:Nat}(ho:s.heap.get? a=some o)(hx:o.ExactDict)(hd:o.data=.dict ds epo)
  (en:Ents prog w B ρ s.heap es ds.toList) (nd:(es.map (·.1)).Nodup) {k:K}{key:Value}{v:V}{y:Value} (hs:am k es=true)
  (hl:es.length≤10000) (hk:k.Is prog w s.heap key) {Q:Unit→Shared→Prop}
  (fin:∀(h':Heap) (tk:Nat) (o':Obj) (ds':Array DictEntry) (ep':Nat),Heap.SameBut a s.heap h'→h'.get? a=some o'→o'.ExactDict→o'.data=.dict ds' ep'→
   (∀(ρ₁:List Addr) (h₁:Heap),Ents prog w B ρ₁ h₁ es ds.toList→Rel B ρ₁ h₁ v y→k.Is prog w h₁ key→Ents prog w B ρ₁ h₁ (st k v es) ds'.toList)→Q () { s with heap:=h',toks:=tk }) :
  wpAny (model prog w) A (dictSet a key y) Q EF s:=by
 have hsz:ds.size≤sizeLine:=by show sizeLine_eq;refine rL (Ce ..) ?_;refine rL (en.length ..) ?_;exact B4 hl (B5 _ _)
 unfold dictSet
 try with_reducible refine wpAny_holding ?_
 refine B1 (ix hu hk λtk=>?_)
 unfold dictSetHashed
 try with_reducible refine wpAny_holding ?_
 refine B1 (jZ (s:={ s with toks:=tk }) hu ho hd en nd hs hk ?_)
 cases hq:fV k es with
 |none=>
  refine B1 (wpAny_rule (wpAny_updateDictKeys (hz:=hsz) (s:={ s with toks:=tk }) ho hd ?_))
  refine fin _ tk _ _ _ (Heap.SameBut.update ..) (Heap.get?_update_self _ ho (Obj.isFreed_of_dict (Obj.data_mapDictKeys hd _))) (hx.mapDictKeys _) (Obj.data_mapDictKeys hd _) ?_
  intro ρ₁ h₁ e1 e2 e3
  show qI;show hq;show Array.toList_push
  exact e1.append (.cons rfl e3 e2 .nil)
 |some i=>
  refine B1 (wpAny_rule (B1 (wpAny_updateDict (s:={ s with toks:=tk }) ho hd (wpAny_point ?_))))
  refine fin _ tk _ _ _ (Heap.SameBut.update ..) (Heap.get?_update_self _ ho (Obj.isFreed_of_dict (Obj.data_mapDict hd _))) (hx.mapDict _) (Obj.data_mapDict hd _) ?_
  intro ρ₁ h₁ e1 e2 e3
  show qI;show hq
  have:=Ents.modify e2 i e1
  obtain⟨l⟩:=ds
  simpa using this
theorem oS(hu:A.units<cLine)(S:St prog w B ρ C s){c:Nat}{a:Addr}{es:List (K×V)}{kk:Nat}(ep:C[c]?=some (.dict es,kk))(ea:ρ[c]?=some a){k:K}{key:Value}{v:V}{y:Value}(hs:am k es=true)
  (hl:es.length≤10000) (hk:k.Is prog w s.heap key) (r:Rel B ρ s.heap v y) {Q:Unit→Shared→Prop} (h:∀s',QU prog w B ρ C s (C.set c (.dict (st k v es),kk+1)) s'→Q () s'):wpAny (model prog w) A (dictSet a key y) Q EF s:=by
 refine bJ (aJ S.hr ep ea) λo ds epo ho hx hd en hh nd hlen=>?_
 refine iT (v:=v) hu ho hx hd en nd hs hl hk λh' tk o' ds' ep' hsb ho' hx' hd' hE=>?_
 obtain⟨S',K⟩:=S.put ea ep (h':=h') (tk:=tk) (o':=.dict (st k v es)) (λb ob hb e=>hsb.extBut b ob hb e) ⟨o',ho'⟩ λK=>
  .dict ho' hx' hd' (hE _ _ (Ents.keep K S.hr (aC s) en) (Rel.keep K S.hr (aC s) r) (K.key S.hr (aC s) hk)) (nT hs) (oH nd) (by have:=nS (k:=k) (v:=v) (es:=es);exact B4 this (Nat.succ_le_of_lt (Ck hl (Mine.Lake.ltb rfl))))
 exact h _ ⟨ρ,S',K⟩
theorem lw(hu:A.in1.units<cLine)(S:St prog w B ρ C s){c:Nat}{a:Addr}{es:List (K×V)}{kk:Nat}(ep:C[c]?=some (.dict es,kk))(ea:ρ[c]?=some a){k:K}{key:Value}{v:V}{y:Value}(hs:am k es=true)
  (hl:es.length≤10000) (hk:k.Is prog w s.heap key) (r:Rel B ρ s.heap v y):wpAny (model prog w) A (setItem (.ref a) key y) (λxx s'=>QU prog w B ρ C s (C.set c (.dict (st k v es),kk+1)) s') EF s:=by
 refine bJ (aJ S.hr ep ea) λo ds epo ho hx hd en hh nd hlen=>?_
 have hT:=mE ho hx
 unfold setItem
 try with_reducible refine wpAny_holding ?_
 refine B1 (wpAny_sequenceKey hT (rfl) ?_)
 refine B1 (wpAny_callSpecial?_slot (name:=Str.ofString "__setitem__") hT slot_dict_setitem
  (Cu slot_dict_setitem hT entry_dict_setitem ?_ (args_dict_setitem _ _ _)))
 change wpAny _ _ (Builtin.Dict.notOrdered "__setitem__" ⟨[.ref a,key,y],[]⟩ >>= _) _ _ s
 refine B1 (wpAny_notOrdered_dict hT ?_)
 change wpAny _ _ (dictSet a key y >>= _) _ _ s
 exact B1 (oS hu S ep ea hs hl hk r λs' q=>B2 ⟨.none,rfl,B2 q⟩)
theorem xj(hu:A.in1.units<cLine)(S:St prog w B ρ C s){c:Nat}{a:Addr}{es:List (K×V)}{kk:Nat}(ep:C[c]?=some (.dict es,kk))(ea:ρ[c]?=some a){k:K}{key:Value}(hs:am k es=true)
  (hk:k.Is prog w s.heap key) {Q:Bool→Shared→Prop} (h:∀tk,Q (lk k es).isSome { s with toks:=tk }):wpAny (model prog w) A (contains (.ref a) key) Q EF s:=by
 refine bJ (aJ S.hr ep ea) λo ds epo ho hx hd en hh nd hlen=>?_
 have hT:=mE ho hx
 have hlo:=sP S ea
 unfold contains
 try with_reducible refine wpAny_holding ?_
 refine B1 (wpAny_specialOf hT slot_dict_contains.lookup ?_)
 change wpAny _ _ (if(some (Value.builtin "dict.__contains__")==some Value.none)=true then _ else _) _ _ s
 show(if_neg (by show beq_builtin_none;exact Cy))
 refine B1 (wpAny_callSpecialUnlessNone?_slot (name:=Str.ofString "__contains__") hT slot_dict_contains
  (Cu slot_dict_contains hT entry_dict_contains ?_ (args_dict_contains _ _)))
 change wpAny _ _ (dictGet a key >>= _) _ _ s
 refine B1 (ga hu ho hd en nd hs hk (λv y tk e r=>?_) λtk e=>?_)
 ·have:=h tk
  rw[e] at this
  change wpAny _ _ (ret (.bool true)) _ _ _
  exact B2 ⟨_,rfl,wpAny_truthy_bool this⟩
 ·have:=h tk
  rw[e] at this
  change wpAny _ _ (Builtin.Dict.pendingKey? a key >>= _) _ _ _
  exact B1 (wpAny_pendingKey_other hlo (B2 ⟨_,rfl,wpAny_truthy_bool this⟩))
section
open PySem.MeetsSeq PySem.MeetsSeq2 PySem.MeetsSeq3
theorem QV.store(S:St prog w B ρ C s){c:Nat}{a:Addr}{vs us:List V}{k m:Nat}{items items':Array Value}{f:Array Value→Array Value}(ep:C[c]?=some (.list vs,k))(ea:ρ[c]?=some a)
  (hl:s.heap.get? a=some { cls:=.type "list",data:=.seq items m }) (hf:f items=items') (hr:RelL B ρ s.heap us items'.toList) (hz:us.length≤100000) (tk:Nat) {v:V}{y:Value} (r:Rel B ρ s.heap v y) :
  QV prog w B ρ C s v (C.set c (.list us,k+1)) y { s with heap:=s.heap.update a (Obj.mapSeq f),toks:=tk }:=by
 have hu:(s.heap.update a (Obj.mapSeq f)).get? a=some { cls:=.type "list",data:=.seq items' (if items'.size==items.size then m else m+1) }:=by
  refine rL (hf ..) ?_;exact Heap.get?_update_self _ hl rfl
 obtain⟨S',K⟩:=S.put ea ep (h':=s.heap.update a (Obj.mapSeq f)) (tk:=tk) (o':=.list us) (λb ob hb e=>(Heap.SameBut.update ..).extBut b ob hb e) ⟨_,hu⟩ λK=>
  .list ⟨_,hu⟩ (RelL.keep K S.hr (aC s) hr) hz
 exact⟨ρ,S',K,Rel.keep K S.hr (aC s) r⟩
theorem RelL.snoc{h:Heap}{vs:List V}{xs:List Value}{v:V}{y:Value}(a:RelL B ρ h vs xs)(b:Rel B ρ h v y):RelL B ρ h (vs++[v]) (xs++[y]):=a.append (.cons b .nil)
theorem RelL.erase{h:Heap}{vs:List V}:∀{xs:List Value} (i:Nat),RelL B ρ h vs xs→RelL B ρ h (vs.eraseIdx i) (xs.eraseIdx i):=by
 induction vs with
 |nil=>intro xs i r;exact r.nilE .nil
 |cons v vs ih=>
  intro xs i r
  refine r.consE λy zs r0 r1=>?_
  cases i with
  |zero=>exact r1
  |succ i=>exact .cons r0 (ih i r1)
theorem RelL.set{h:Heap}{v:V}{y:Value}(r:Rel B ρ h v y){vs:List V}:∀{xs:List Value} (i:Nat),RelL B ρ h vs xs→RelL B ρ h (vs.set i v) (xs.set i y):=by
 induction vs with
 |nil=>intro xs i r;exact r.nilE .nil
 |cons v vs ih=>
  intro xs i r
  refine r.consE λy zs r0 r1=>?_
  cases i with
  |zero=>exact .cons ‹Rel B ρ h _ _› r1
  |succ i=>exact .cons r0 (ih i r1)
theorem qK(S:St prog w B ρ C s){c:Nat}{a:Addr}{vs:List V}{k:Nat}{v:V}{y:Value}(ep:C[c]?=some (.list vs,k))(ea:ρ[c]?=some a)(hl:vs.length≤10000)(r:Rel B ρ s.heap v y):
  wpAny (model prog w) A (call (.builtin "list.append") [.ref a,y]) (QV prog w B ρ C s .nn (C.set c (.list (vs++[v]),k+1))) EF s:=by
 obtain⟨items,⟨m,ho⟩,hr,_⟩:=aN S.hr ep ea
 have hz:items.size≤sizeLine:=by show sizeLine_eq;refine rL (Ce ..) ?_;refine rL (hr.length ..) ?_;exact B4 ‹_› (B5 _ _)
 exact call_meets F.slot_list_append ⟨_,ho,rfl⟩ F.entry_list_append (F.args_list_append_2 _ _) (list_append a items m y hz) ⟨ho,QV.store S ep ea ho rfl (by show Array.toList_push;exact hr.snoc r) (by simp;exact B4 hl (B5 _ _)) s.toks .nn⟩
theorem q8(S:St prog w B ρ C s){c d:Nat}{a b:Addr}{vs us:List V}{k j:Nat}(ep:C[c]?=some (.list vs,k))(ea:ρ[c]?=some a)(eq:C[d]?=some (.list us,j))(eb:ρ[d]?=some b)(hl:(vs++us).length≤10000):
  wpAny (model prog w) A (call (.builtin "list.extend") [.ref a,.ref b]) (QV prog w B ρ C s .nn (C.set c (.list (vs++us),k+1))) EF s:=by
 obtain⟨items,⟨m,ho⟩,hr,_⟩:=aN S.hr ep ea
 obtain⟨items2,⟨m2,ho2⟩,hr2,_⟩:=aN S.hr eq eb
 have z1:items.size=vs.length:=by refine rL (Ce ..) ?_;refine rL (hr.length ..) ?_;rfl
 have z2:items2.size=us.length:=by refine rL (Ce ..) ?_;refine rL (hr2.length ..) ?_;rfl
 rw[Cf] at hl
 exact call_meets F.slot_list_extend ⟨_,ho,rfl⟩ F.entry_list_extend (F.args_list_extend_2 _ _) (AutoSeq1.list_extend_list_list_0 a items m b items2 m2 (by simp[Builtin.List.listTooLong,sizeLine];lia) (by show sizeLine_eq;exact B4 (B4 (Cg z1) ‹_›) (B5 _ _)) (by show sizeLine_eq;lia))
  ⟨ho,ho2,QV.store S ep ea ho rfl (by show Array.toList_append;exact hr.append hr2) (by simp;exact B4 hl (B5 _ _)) s.toks .nn⟩
theorem jn{i:Int}{n:Nat}(h0:0≤i)(h:i.toNat<n):seqIndex? i n=some i.toNat:=by
 unfold seqIndex?
 have e:(if i<0 then i+(n:Int) else i)=i:=if_neg ((Int.not_lt_of_ge h0))
 simp only[e]
 rw[if_pos]
 simp only[Bool.and_eq_true,decide_eq_true_eq];lia
theorem oT{i:Int}{n:Nat}(h0:i<0)(h:0≤i+n):seqIndex? i n=some (i+n).toNat:=by
 unfold seqIndex?
 have e:(if i<0 then i+(n:Int) else i)=i+n:=if_pos h0
 simp only[e]
 rw[if_pos]
 simp only[Bool.and_eq_true,decide_eq_true_eq];lia
theorem sQ(S:St prog w B ρ C s){c:Nat}{a:Addr}{vs:List V}{k:Nat}{i:Int}{t:Tok}{v:V}(ep:C[c]?=some (.list vs,k))(ea:ρ[c]?=some a)(h0:0≤i)(hv:vs[i.toNat]?=some v):
  wpAny (model prog w) A (call (.builtin "list.pop") [.ref a,.int i t]) (QV prog w B ρ C s v (C.set c (.list (vs.eraseIdx i.toNat),k+1))) EF s:=by
 obtain⟨items,⟨m,ho⟩,hr,hb⟩:=aN S.hr ep ea
 have z1:items.size=vs.length:=by refine rL (Ce ..) ?_;refine rL (hr.length ..) ?_;rfl
 have hi:i.toNat<vs.length:=(List.getElem?_eq_some_iff.mp hv).1
 refine oEA (hr.get _ _ hv) λy hy r=>?_
 refine call_meets F.slot_list_pop ⟨_,ho,rfl⟩ F.entry_list_pop (F.args_list_pop_2 _ _) (list_pop_at a items m i t i.toNat y (by simp[Builtin.List.listFitsIndex];lia) ?_ (by refine rL (Array.getElem?_toList ..) ?_;exact hy) (by show sizeLine_eq;exact B4 (B4 (Cg z1) hb) (B5 _ _)))
  ⟨ho,QV.store S ep ea ho (items':=items.eraseIdxIfInBounds i.toNat) rfl ?_ (by show List.length_eraseIdx;split<;>exact B4 (Nat.sub_le _ _) hb) s.toks r⟩
 ·exact jn h0 ((B7 hi (Cg (Eq.symm z1))))
 ·have:=hr.erase i.toNat
  show(show(items.eraseIdxIfInBounds i.toNat).toList=items.toList.eraseIdx i.toNat by obtain⟨l⟩:=items;simp)
  exact this
theorem wa(hu:A.in1.units<cLine)(S:St prog w B ρ C s){c:Nat}{a:Addr}{es:List (K×V)}{kk:Nat}(ep:C[c]?=some (.dict es,kk))(ea:ρ[c]?=some a){k:K}{key:Value}(hs:am k es=true)
  (hk:k.Is prog w s.heap key) {d:V}{y:Value} (r:Rel B ρ s.heap d y):wpAny (model prog w) A (call (.builtin "dict.get") [.ref a,key,y]) (QV prog w B ρ C s (match lk k es with|some v=>v|none=>d) C) EF s:=by
 refine bJ (aJ S.hr ep ea) λo ds epo ho hx hd en hh nd hlen=>?_
 have hT:=mE ho hx
 have hlo:=sP S ea
 refine Cu F.slot_dict_get hT F.entry_dict_get ?_ (F.args_dict_get_3 _ _ _)
 change wpAny _ _ (dictGet a key >>= _) _ _ s
 refine B1 (ga hu ho hd en nd hs hk (λv y' tk e r'=>?_) λtk e=>?_)
 ·show e;exact B2 ⟨_,rfl,QV.selfTok S r' tk⟩
 ·show e
  change wpAny _ _ (Builtin.Dict.missed a key >>= _) _ _ _
  exact B1 (wpAny_missed_other hlo (B2 ⟨_,rfl,QV.selfTok S r tk⟩))
theorem lB{α β:Type}(f:α→β):∀(l:List α) (i:Nat),(l.eraseIdx i).map f=(l.map f).eraseIdx i
 |[],_=>rfl
 |_::_,0=>rfl
 |a::l,i+1=>by simp[lB f l i]
theorem jI(hu:A.units<cLine)(S:St prog w B ρ C s){c:Nat}{a:Addr}{es:List (K×V)}{kk:Nat}(ep:C[c]?=some (.dict es,kk))(ea:ρ[c]?=some a){k:K}{key:Value}(hs:am k es=true)
  (hk:k.Is prog w s.heap key) {Q:Option DictEntry→Shared→Prop} (h0:∀tk,lk k es=none→Q none { s with toks:=tk })
  (h1:∀v e s',lk k es=some v→QV prog w B ρ C s v (C.set c (.dict (rm k es),kk+1)) e.val s'→Q (some e) s'):wpAny (model prog w) A (Builtin.Dict.takeOut a key) Q EF s:=by
 refine bJ (aJ S.hr ep ea) λo ds epo ho hx hd en hh nd hlen=>?_
 have hsz:ds.size≤sizeLine:=by show sizeLine_eq;refine rL (Ce ..) ?_;refine rL (en.length ..) ?_;exact B4 hlen (B5 _ _)
 unfold Builtin.Dict.takeOut
 try with_reducible refine wpAny_holding ?_
 refine B1 (ix hu hk λtk=>B1 (jZ (s:={ s with toks:=tk }) hu ho hd en nd hs hk ?_))
 cases hq:fV k es with
 |none=>exact B2 (h0 tk (by show gw;show hq;rfl))
 |some i=>
  refine oE (eC hq) λv hv=>?_
  refine kQ (en.get hv) λe he xx xx hr=>?_
  refine B1 (wpAny_dictEntries (s:={ s with toks:=tk }) ho hd ?_)
  show(show ds[i]?=some e by refine rL (Array.getElem?_toList ..) ?_;exact he)
  refine B1 (wpAny_updateDictKeys (hz:=hsz) (s:={ s with toks:=tk }) ho hd (B2 (h1 v e _ (by show gw;show hq;simp[hv]) ?_)))
  have hu':=Heap.get?_update_self (Obj.mapDictKeys (λx=>x.eraseIdxIfInBounds i)) ho (Obj.isFreed_of_dict (Obj.data_mapDictKeys hd _))
  have hrm:rm k es=es.eraseIdx i:=by show uU;show hq;rfl
  obtain⟨S',K⟩:=S.put ea ep (h':=s.heap.update a (Obj.mapDictKeys λx=>x.eraseIdxIfInBounds i)) (tk:=tk) (o':=.dict (rm k es)) (λb ob hb e=>(Heap.SameBut.update ..).extBut b ob hb e) ⟨_,hu'⟩ λK=>by
   have e1:=Ents.erase i (Ents.keep K S.hr (aC s) en)
   refine .dict hu' (hx.mapDictKeys _) (Obj.data_mapDictKeys hd _) ?_ (qh hh λe he=>?_) ?_ (by(show hrm;show List.length_eraseIdx);split<;>lia)
   ·show hrm;show(show(ds.eraseIdxIfInBounds i).toList=ds.toList.eraseIdx i by obtain⟨l⟩:=ds;simp)
    exact e1
   ·rw[hrm] at he;exact List.mem_of_mem_eraseIdx he
   ·show hrm;show lB
    exact nd.sublist (List.eraseIdx_sublist _ _)
  exact⟨ρ,S',K,Rel.keep K S.hr (aC s) hr⟩
end
section
open PySem.MeetsSeq PySem.MeetsSeq2 PySem.MeetsSeq3
theorem jB(S:St prog w B ρ C s){c:Nat}{a:Addr}{es:List (K×V)}{kk:Nat}(ep:C[c]?=some (.dict es,kk))(ea:ρ[c]?=some a){key:Value}{α:Type}{k:Bool→Sem α}{Q:α→Shared→Prop}
  (h:∀b:Bool,(b=true→es=[])→wpAny (model prog w) A (k b) Q EF s):wpAny (model prog w) A (if(keyPart key).isSome=true then pure false >>= k else dictEntries a >>= λl=>pure l.isEmpty >>= k) Q EF s:=by
 refine bJ (aJ S.hr ep ea) λo ds epo ho hx hd en hh nd hlen=>?_
 split
 ·exact B1 (B2 (h false cFt))
 ·refine B1 (wpAny_dictEntries ho hd (B1 (B2 (h _ λe=>?_))))
  rw[Array.isEmpty_iff] at e
  subst e
  cases en;rfl
theorem wf(hu:A.in1.units<cLine)(S:St prog w B ρ C s){c:Nat}{a:Addr}{es:List (K×V)}{kk:Nat}(ep:C[c]?=some (.dict es,kk))(ea:ρ[c]?=some a){k:K}{key:Value}(hs:am k es=true)
  (hk:k.Is prog w s.heap key) {d:V}{y:Value} (r:Rel B ρ s.heap d y) :
  wpAny (model prog w) A (call (.builtin "dict.pop") [.ref a,key,y]) (λz s'=>match lk k es with|some v=>QV prog w B ρ C s v (C.set c (.dict (rm k es),kk+1)) z s'|none=>QV prog w B ρ C s d C z s') EF s:=by
 refine bJ (aJ S.hr ep ea) λo ds epo ho hx hd en hh nd hlen=>?_
 have hT:=mE ho hx
 have hlo:=sP S ea
 refine Cu F.slot_dict_pop hT F.entry_dict_pop ?_ (F.args_dict_pop_3 _ _ _)
 unfold Builtin.«dict.pop»
 refine B1 ?_
 unfold Builtin.Dict.keyAndDefault
 refine B1 (wpAny_notOrdered_dict hT ?_)
 change wpAny _ _ (pure (a,key,some y)) _ _ s
 refine B2 (jB S ep ea λb hb=>?_)
 induction b using Bool.casesOn with
 |true=>
  have:=hb rfl
  show this
  simp only[if_true]
  refine B1 (wpAny_rule (B1 (B2 ?_)))
  simp only[Option.isNone_none,if_true]
  exact B1 (wpAny_missedRemoval_other hlo (B1 (wpAny_rule (B2 ⟨y,rfl,QV.selfTok S r s.toks⟩))))
 |false=>
  simp only[Bool.false_eq_true,if_false]
  refine B1 (jI hu S ep ea hs hk (λtk e=>?_) λv e s' h q=>?_)
  ·simp only[Option.isNone_none,if_true]
   refine B1 (wpAny_missedRemoval_other hlo (B1 (wpAny_rule (B2 ⟨y,rfl,?_⟩))))
   show e;exact QV.selfTok S r tk
  ·simp only[Option.isNone_some,Bool.false_eq_true,if_false]
   refine B1 (wpAny_letGo (B2 ⟨e.val,rfl,?_⟩))
   show h;exact q
theorem xc(hu:A.in1.units<cLine)(S:St prog w B ρ C s){c:Nat}{a:Addr}{es:List (K×V)}{kk:Nat}(ep:C[c]?=some (.dict es,kk))(ea:ρ[c]?=some a){k:K}{key:Value}(hs:am k es=true)
  (hk:k.Is prog w s.heap key) {v:V} (hv:lk k es=some v) :
  wpAny (model prog w) A (call (.builtin "dict.pop") [.ref a,key]) (QV prog w B ρ C s v (C.set c (.dict (rm k es),kk+1))) EF s:=by
 refine bJ (aJ S.hr ep ea) λo ds epo ho hx hd en hh nd hlen=>?_
 have hT:=mE ho hx
 refine Cu F.slot_dict_pop hT F.entry_dict_pop ?_ (F.args_dict_pop_2 _ _)
 unfold Builtin.«dict.pop»
 refine B1 ?_
 unfold Builtin.Dict.keyAndDefault
 refine B1 (wpAny_notOrdered_dict hT ?_)
 change wpAny _ _ (pure (a,key,none)) _ _ s
 refine B2 (jB S ep ea λb hb=>?_)
 induction b using Bool.casesOn with
 |true=>rw[hb rfl] at hv;exact cNo hv
 |false=>
  simp only[Bool.false_eq_true,if_false]
  refine B1 (jI hu S ep ea hs hk (λtk e=>by rw[hv] at e;exact cNs e) λv' e s' h q=>?_)
  rw[hv] at h;refine vr h ?_
  simp only[Option.isNone_some,Bool.false_eq_true,if_false]
  exact B1 (wpAny_letGo (B2 ⟨e.val,rfl,q⟩))
theorem sk{vs:List V}{i:Int}{v:V}(h:nth vs i=some v):vs.length≤100000∧((0≤i∧vs[i.toNat]?=some v)∨(And3 (i<0) (0≤i+vs.length) (vs[(i+vs.length).toNat]?=some v))):=by
 unfold nth at h
 split at h
 ·exact cNo h
 ·refine⟨(Cm ‹_›),?_⟩
  split at h
  ·exact .inl ⟨‹_›,h⟩
  ·split at h
   ·exact .inr ⟨(Int.lt_of_not_ge ‹_›),‹_›,h⟩
   ·exact cNo h
theorem exT.isTup{h:Heap}{a:Addr}{items:Array Value}(x:exT h a items):IsTup h a items:=by refine oE x λn e=>?_;exact wl _ e rfl n rfl
theorem exL.isList{h:Heap}{a:Addr}{items:Array Value}(x:exL h a items):h.IsList a items:=by refine oE x λn e=>?_;exact wl _ e rfl n rfl
theorem ox(hu:A.in1.units<cLine)(S:St prog w B ρ C s){o i v:V}{x y:Value}(ho:Rel B ρ s.heap o x)(hi:Rel B ρ s.heap i y)(e:d8 o i C=some (v,C')):
  wpAny (model prog w) A (getItem x y) (QV prog w B ρ C s v C') EF s:=by
 induction o using V.casesOn with
 |tup vs=>induction i using V.casesOn with
  |int i=>
   refine ho.tupE λa items ht hr=>hi.intE λt=>dB e λhn=>?_
   have hl':=hr.length.trans Ce
   refine oA (sk hn) λhb h=>?_
   refine h.elim (λh=>?_) λh=>?_
   ·refine oEA (hr.get _ _ h.2) λz hz r=>?_
    have hlt:=(List.getElem?_eq_some_iff.mp h.2).1
    exact PyProof.Rows.getItem_tuple ht.isTup (by lia) (by lia) (jn h.1 ((B7 hlt (Cg hl')))) (by refine rL (Array.getElem?_toList ..) ?_;exact hz) (QV.self S r)
   ·have h2:=h.2
    refine oEA (hr.get _ _ h.3) λz hz r=>?_
    have hlt:=(List.getElem?_eq_some_iff.mp h.3).1
    refine PyProof.Rows.getItem_tuple ht.isTup (by lia) (by lia) (oT h.1 (le_of_le_of_eq h2 (congrArg _ (congrArg _ hl')))) ?_ (QV.self S r)
    refine rL (Array.getElem?_toList ..) ?_;refine rL (hl' ..) ?_;exact hz
  |_=>exact nos e
 |cell c=>
  refine ho.cellE λa ea=>bo e λo₁ k₁ q₁ e=>?_
  induction o₁ using O.casesOn with
  |list vs=>induction i using V.casesOn with
   |int i=>
    refine hi.intE λt=>dB e λhn=>?_
    refine cv (aN S.hr q₁ ea) λitems hx hr xx=>?_
    have hl':=hr.length.trans Ce
    refine oA (sk hn) λhb h=>?_
    refine h.elim (λh=>?_) λh=>?_
    ·refine oEA (hr.get _ _ h.2) λz hz r=>?_
     have hlt:=(List.getElem?_eq_some_iff.mp h.2).1
     exact wpAny_getItem_list hx.isList h.1 (by lia) (by refine rL (Array.getElem?_toList ..) ?_;exact hz) (QV.self S r)
    ·have h2:=h.2
     refine oEA (hr.get _ _ h.3) λz hz r=>?_
     refine wpAny_getItem_list_neg hx.isList h.1 (by lia) (by lia) ?_ (QV.self S r)
     refine rL (Array.getElem?_toList ..) ?_;refine rL (hl' ..) ?_;exact hz
   |_=>exact nos e
  |dict es=>
   cases hk:V.key i with
   |none=>exact nos ((congrArg (λo:Option K=>(match o with|some k=>λC=>if am k es then lift (lk k es) C else none|none=>(no:M V)) C) hk.symm).trans e)
   |some k=>
    replace e:=(congrArg (λo:Option K=>(match o with|some k=>λC=>if am k es then lift (lk k es) C else none|none=>(no:M V)) C) hk.symm).trans e
    refine kI e λhs e=>dB e λhl=>?_
    refine bJ (aJ S.hr q₁ ea) λo ds epo ho hx hd en hh nd hlen=>?_
    exact kS hu ho hx hd en nd hs (gv hk hi) hl λy tk r=>QV.selfTok S r tk
 |_=>exact nos e
theorem lM(S:St prog w B ρ C s){c:Nat}{a:Addr}{vs:List V}{k:Nat}{i:Int}{t:Tok}{v:V}{y:Value}(ep:C[c]?=some (.list vs,k))(ea:ρ[c]?=some a)(h0:0≤i)(hi:i<vs.length)(r:Rel B ρ s.heap v y):
  wpAny (model prog w) A (setItem (.ref a) (.int i t) y) (λxx s'=>QU prog w B ρ C s (C.set c (.list (vs.set i.toNat v),k+1)) s') EF s:=by
 obtain⟨items,⟨m,ho⟩,hr,hb⟩:=aN S.hr ep ea
 have hl:s.heap.IsList a items:=⟨_,ho,rfl,m,rfl⟩
 have z1:items.size=vs.length:=by refine rL (Ce ..) ?_;refine rL (hr.length ..) ?_;rfl
 unfold setItem
 try with_reducible refine wpAny_holding ?_
 first|refine B1 (B2 ?_)|skip
 refine B1 (wpAny_sequenceKey hl.typeIs (rfl) ?_)
 refine B1 (wpAny_callSpecial?_slot (name:=Str.ofString "__setitem__") hl.typeIs slot_list_setitem
  (Cu slot_list_setitem hl.typeIs entry_list_setitem ?_ (args_list_setitem _ _ _)))
 change wpAny _ _ (Builtin.List.listSubscript? (.int i t) >>= _) _ _ s
 refine B1 (wpAny_listSubscript_int (fitsIndex_of h0 (by lia)) ?_)
 obtain⟨j,rfl⟩:=Int.eq_ofNat_of_zero_le h0
 have hj:j<items.size:=by lia
 have hx':items[j]?=some items[j]:=Array.getElem?_eq_getElem hj
 change wpAny _ _ ((seqItemAt a j >>= λr=>pure (r.map (j,·))) >>= _) _ _ s
 refine B1 (B1 (wpAny_seqItemAt ho rfl (B2 ?_)))
 show hx'
 change wpAny _ _ (setSeqItemAt a j y >>= _) _ _ s
 refine B1 (wpAny_setSeqItemAt ho rfl ?_)
 have q:QV prog w B ρ C s .nn (C.set c (.list (vs.set j v),k+1)) .none { s with heap:=s.heap.update a (Obj.mapSeq (·.setIfInBounds j y)),toks:=s.toks }:=
  QV.store S ep ea ho rfl (by show Array.toList_setIfInBounds;exact RelL.set r j hr) (by show List.length_set;exact hb) s.toks .nn
 obtain⟨ρ',a1,a2,_⟩:=q
 first
  |exact B1 (B2 (B2 ⟨.none,rfl,B2 ⟨ρ',a1,a2⟩⟩))
  |exact B2 ⟨.none,rfl,B2 ⟨ρ',a1,a2⟩⟩
theorem gP{c:Nat}{o:O}{C C₁:CH}{u:Unit}{p:O}{k:Nat}(e:C[c]?=some (p,k))(h:put c o C=some (u,C₁)):C₁=C.set c (o,k+1):=by
 unfold put at h
 rw[e] at h
 refine cS2 h ?_;rfl
theorem ot(hu:A.in1.units<cLine)(S:St prog w B ρ C s){o i v:V}{u:Unit}{x y z:Value}(ho:Rel B ρ s.heap o x)(hi:Rel B ρ s.heap i y)(hv:Rel B ρ s.heap v z)(e:iM o i v C=some (u,C')):
  wpAny (model prog w) A (setItem x y z) (λxx s'=>QU prog w B ρ C s C' s') EF s:=by
 induction o using V.casesOn with
 |cell c=>
  refine ho.cellE λa ea=>bo e λo₁ k₁ q₁ e=>?_
  induction o₁ using O.casesOn with
  |list vs=>induction i using V.casesOn with
   |int i=>
    refine hi.intE λt=>kI e λhc e=>?_
    show gP q₁ e
    exact lM S q₁ ea hc.1 hc.2 hv
   |_=>exact nos e
  |dict es=>
   cases hk:V.key i with
   |none=>exact nos ((congrArg (λo:Option K=>(match o with|some k=>λC=>if am k es∧es.length≤10000 then put c (.dict (st k v es)) C else none|none=>(no:M Unit)) C) hk.symm).trans e)
   |some k=>
    replace e:=(congrArg (λo:Option K=>(match o with|some k=>λC=>if am k es∧es.length≤10000 then put c (.dict (st k v es)) C else none|none=>(no:M Unit)) C) hk.symm).trans e
    refine kI e λhc e=>?_
    show gP q₁ e
    exact lw hu S q₁ ea hc.1 hc.2 (gv hk hi) hv
 |_=>exact nos e
end
section
open PySem.MeetsSeq PySem.MeetsSeq2 PySem.MeetsSeq3
theorem aQ:∀{a b:Str},seq a b=true→a=b:=by
 have leq_eq:∀{x y:List Nat},leq x y=true→x=y:=by
  intro x
  induction x with
  |nil=>intro y h;induction y using List.casesOn with|nil=>rfl|cons b y=>exact cFt h
  |cons a x ih=>
   intro y h
   induction y using List.casesOn with
   |nil=>exact cFt h
   |cons b y=>
    replace h:(match Nat.beq a b with|true=>leq x y|false=>false)=true:=h
    cases q:Nat.beq a b with
    |true=>rw[q] at h;show Nat.eq_of_beq_eq_true q;show ih h;rfl
    |false=>rw[q] at h;exact cFt h
 intro a b h
 obtain⟨⟨x⟩⟩:=a
 obtain⟨⟨y⟩⟩:=b
 have:x=y:=leq_eq h
 show this;rfl
theorem fM(a:Str):seq a a=true:=by
 have:∀x:List Nat,leq x x=true:=by
  intro x
  induction x with
  |nil=>rfl
  |cons a x ih=>change (match Nat.beq a a with|true=>leq x x|false=>false)=true;show(show Nat.beq a a=true from Nat.beq_refl a);exact ih
 exact this _
theorem RelL.ints{h:Heap}{vs:List V}:∀{xs:List Value},RelL B ρ h vs xs→∀{l:List Int},V.ints vs=some l→IntsAre xs l:=by
 induction vs with
 |nil=>intro xs r l e;refine cS1 e ?_;exact r.nilE .nil
 |cons v vs ih=>
  intro xs r l e
  refine vd e λi l' e1 hq e2=>?_
  subst e1 e2
  exact r.consE λy zs r0 r1=>r0.intE λt=>.cons _ _ (ih r1 hq)
set_option smartUnfolding false in
theorem kU{vs:List V}:∀{t:Int},o2 vs=some t→∃l,V.ints vs=some l∧l.sum=t:=by
 induction vs with
 |nil=>intro t e;exact iEA [] rfl (Option.some.inj e)
 |cons v vs ih=>
  intro t e
  induction v using V.casesOn with
  |int i=>
   refine nA e λt' q e=>?_
   refine oEA (ih q) λl h1 h2=>?_
   exact iEA (i::l) (i7 h1) (by show List.sum_cons;show h2;exact Option.some.inj e)
  |_=>exact nos e
theorem lW{xs:List Value}{l:List Int}(h:IntsAre xs l):∃ys:Array (Int×Tok),xs.toArray=PySem.intItems ys∧numsOf xs.toArray.toList=l:=by
 refine oE h.allInts.items λys hx=>?_
 exact iEA ys hx (by show(show xs.toArray.toList=xs from rfl);show h.numsOf;rfl)
theorem nk(R:Rm A n)(S:St prog w B ρ C s){a:Addr}{items:Array Value}{vs:List V}{t:Int}(hx:exL s.heap a items)(hr:RelL B ρ s.heap vs items.toList)(hs:o2 vs=some t):
  wpAny (model prog w) A (call (.builtin "sum") [.ref a]) (QV prog w B ρ C s (.int t) C) EF s:=by
 refine oEA (kU hs) λl h1 h2=>?_
 refine oEA (lW (hr.ints h1)) λxs e1 e2=>?_
 have hl:=hx.isList
 rw[show items=xs.map (λp=>Value.int p.1 p.2) from e1] at hl
 refine sum_intListG (xs:=xs) R.hd hl λh' tk t' hk=>?_
 rw[e1,nums_intItems] at e2
 have:=S.still (h':=h') (tk:=tk) hk
 refine⟨ρ,this.1,this.2,?_⟩
 show preSum_eq;show(List.take_of_length_le (by simp));show e2;show h2
 exact .int _ _
end
section
open PySem.MeetsSeq PySem.MeetsSeq2 PySem.MeetsSeq3
section
variable {w:World}{B:Heap}{ρ ρ':List Addr}{C C':CH}{s s':Shared}{A:Around}{n:Nat}{E:Value→Shared→Prop}
def DAt(h:Heap)(a:Addr)(ds:Array DictEntry)(ep:Nat):Prop:=∃o,And3 (h.get? a=some o) o.ExactDict (o.data=.dict ds ep)
theorem DAt.at{h h':Heap}{a:Addr}{ds:Array DictEntry}{ep:Nat}(x:DAt h a ds ep)(e:∀o,h.get? a=some o→h'.get? a=some o):DAt h' a ds ep:=by refine cv x λo ho r r'=>?_;exact iEa3 o (e _ ho) r r'
theorem DAt.typeIs{a:Addr}{ds:Array DictEntry}{ep:Nat}(x:DAt s.heap a ds ep):s.TypeIs (.ref a) "dict":=by refine cv x λo ho hc xx=>?_;exact iEA o ho hc.1
theorem gK{d:Addr}{ds:Array DictEntry}{ep:Nat}{Q:Value→Shared→Prop}(hd:(d==sysModules)=false)(hm:DAt s.heap d ds ep)
  (hQ:Q (.ref s.heap.objs.size) { s with heap:=s.heap.push { cls:=.type "dict_keyiterator",data:=.fields #[.ref d,.int 0 0,.int ds.size 0,.int ep 0] } }) :
  wpAny (model prog w) A (pyIter (.ref d)) Q E s:=by
 refine cv (id hm) λo ho hc hdat=>?_
 have hT:s.TypeIs (.ref d) "dict":=hm.typeIs
 refine wpAny_pyIter_slot hT F.slot_dict_iter (Cu F.slot_dict_iter hT F.entry_dict_iter ?_ (F.args_dict_iter_1 _))
 unfold Builtin.«dict.__iter__»
 refine B1 ?_
 unfold Builtin.Dict.dictSlotNone
 refine B1 (wpAny_notOrdered_dict hT ?_)
 change wpAny _ _ (pure (Value.ref d)) _ _ s
 refine B2 ?_
 change wpAny _ _ (Builtin.Dict.showsAll d >>= _) _ _ s
 unfold Builtin.Dict.showsAll
 show(if_neg (by show hd;exact Cy))
 refine B1 (B2 ?_)
 refine B1 (wpAny_dictEntries ho hdat ?_)
 refine B1 (wpAny_dictEpoch ho hdat ?_)
 refine B1 (wpAny_newObj_type (B2 ⟨_,rfl,"dict_keyiterator",_,⟨_,Heap.get?_push_size _ rfl,rfl⟩,F.slot_dict_keyiterator_next.lookup,?_⟩) (leb rfl))
 simpa [rawInt] using hQ
theorem gc{it d:Addr}{i ep:Nat}{ds:Array DictEntry}{Q:Option Value→Shared→Prop}(hit:s.heap.IsKeyIter it d i ds.size ep)
  (hm:DAt s.heap d ds ep) (hlt:i<ds.size)
  (hQ:∀h',h'.IsKeyIter it d (i+1) ds.size ep→Heap.SameBut it s.heap h'→Q (some ds[i].key) { s with heap:=h' }) :
  wpAny (model prog w) A (pyNext (.ref it)) Q E s:=by
 refine lC (id hit) λo ho hc hd=>?_
 refine cv (id hm) λod hod hcd hdd=>?_
 unfold pyNext
 refine B1 (wpAny_attempt (wpAny_callSpecial?_slot (name:=Str.ofString "__next__") hit.typeIs F.slot_dict_keyiterator_next
  (Cu F.slot_dict_keyiterator_next hit.typeIs F.entry_dict_keyiterator_next ?_ (F.args_dict_keyiterator_next_1 _))))
 refine B1 (B2 ?_)
 refine B1 ?_
 refine B1 ?_
 first|refine B1 (wpAny_typeNameOfWhole_keyiter hit.typeIs (B2 ?_))|refine B1 (wpAny_typeNameOf_keyiter hit.typeIs (B2 ?_))
 refine B1 (wpAny_fieldsOf ho hd ?_)
 change wpAny _ _ (if(Value.ref d==Value.none)=true then _ else _) _ _ s
 show(if_neg (show ¬((Value.ref d==Value.none)=true) from Cy))
 refine B1 (B2 ?_)
 refine B1 (wpAny_dictEntries hod hdd ?_)
 show(if_neg (by simp))
 refine B1 (B2 ?_)
 refine B1 (wpAny_dictEpoch hod hdd ?_)
 show(if_neg (by simp))
 refine B2 ?_
 simp only[show ¬((i:Int)<0) from Int.not_lt_of_ge (Int.natCast_nonneg _),if_false,Int.toNat_natCast,Array.getElem?_eq_getElem hlt]
 refine B1 ?_
 first|refine B1 (wpAny_typeNameOfWhole_keyiter hit.typeIs (B2 ?_))|refine B1 (wpAny_typeNameOf_keyiter hit.typeIs (B2 ?_))
 refine B1 (wpAny_isOneOf_keyiter hit.typeIs ?_)
 change wpAny _ _ (setField (.ref it) 1 (rawInt ((i:Int)+1)) >>= _) _ _ s
 refine B1 (wpAny_setField ho hd (Nat.one_lt_succ_succ _) ?_)
 have hit':(s.heap.update it (Obj.mapFields (·.setIfInBounds 1 (rawInt ((i:Int)+1))))).IsKeyIter it d (i+1) ds.size ep:=
  ⟨_,Heap.get?_update_self _ ho (Obj.isFreed_of_fields (Obj.data_mapFields hd _)),(Obj.cls_mapFields ..).trans hc,by rw[Obj.data_mapFields hd];rfl⟩
 refine B1 (wpAny_holding ?_)
 refine B1 (wpAny_isOneOf_keyiter (s:={ s with heap:=s.heap.update it (Obj.mapFields (·.setIfInBounds 1 (rawInt ((i:Int)+1)))) }) hit'.typeIs ?_)
 change wpAny _ _ (pure ds[i].key) _ _ _
 exact B2 (B2 ⟨_,rfl,B2 (hQ _ hit' (Heap.SameBut.update ..))⟩)
theorem gM{it d:Addr}{ep:Nat}{ds:Array DictEntry}{Q:Option Value→Shared→Prop}(hh:A.handled=none)(hit:s.heap.IsKeyIter it d ds.size ds.size ep)
  (hm:DAt s.heap d ds ep)
  (hQ:∀h',Heap.ExtBut it s.heap h'→Q none { s with heap:=h' }):wpAny (model prog w) A (pyNext (.ref it)) Q E s:=by
 refine lC (id hit) λo ho hc hd=>?_
 refine cv (id hm) λod hod hcd hdd=>?_
 unfold pyNext
 refine B1 (wpAny_attempt (wpAny_callSpecial?_slot (name:=Str.ofString "__next__") hit.typeIs F.slot_dict_keyiterator_next
  (Cu F.slot_dict_keyiterator_next hit.typeIs F.entry_dict_keyiterator_next ?_ (F.args_dict_keyiterator_next_1 _))))
 refine B1 (B2 ?_)
 refine B1 ?_
 refine B1 ?_
 first|refine B1 (wpAny_typeNameOfWhole_keyiter hit.typeIs (B2 ?_))|refine B1 (wpAny_typeNameOf_keyiter hit.typeIs (B2 ?_))
 refine B1 (wpAny_fieldsOf ho hd ?_)
 change wpAny _ _ (if(Value.ref d==Value.none)=true then _ else _) _ _ s
 show(if_neg (show ¬((Value.ref d==Value.none)=true) from Cy))
 refine B1 (B2 ?_)
 refine B1 (wpAny_dictEntries hod hdd ?_)
 show(if_neg (by simp))
 refine B1 (B2 ?_)
 refine B1 (wpAny_dictEpoch hod hdd ?_)
 show(if_neg (by simp))
 refine B2 ?_
 simp only[show ¬((ds.size:Int)<0) from Int.not_lt_of_ge (Int.natCast_nonneg _),if_false,Int.toNat_natCast,Array.getElem?_eq_none (Nat.le_refl ds.size)]
 refine B1 ?_
 first|refine B1 (wpAny_typeNameOfWhole_keyiter hit.typeIs (B2 ?_))|refine B1 (wpAny_typeNameOf_keyiter hit.typeIs (B2 ?_))
 change wpAny _ _ (setField (.ref it) 0 .none >>= _) _ _ s
 refine B1 (wpAny_setField ho hd (ltb rfl) ?_)
 change wpAny _ _ (newExc (.type "StopIteration") [] >>= _) _ _ _
 refine B1 ?_
 simp only[newExc,newTuple]
 refine B1 (wpAny_newObj_type ?_ (leb rfl))
 refine B1 (m:=firstArgMember _ _) (wpAny_of_eq (a:=Value.none) (by first|rfl|(simp only[firstArgMember];rfl)) ?_)
 refine wpAny_newObj_type ?_ (leb rfl)
 unfold raiseNew
 refine B1 (wpAny_handled ?_)
 show(show A.in1.handled=none from hh)
 refine B1 (B2 (wpAny_throw ?_))
 refine B1 (wpAny_isInstance (T:="StopIteration") (b:=true) ⟨_,Heap.get?_push_size _ rfl,rfl⟩ isSubtype_stop ?_)
 exact B2 (hQ _ (((Heap.SameBut.update ..).extBut.push _).push _))
theorem sj(hh:A.handled=none)(I d:Addr)(hne:d≠I)(ds:Array DictEntry)(ep:Nat):
  Walks prog w A I [I,d] [I] ds.size (λi v=>∃e,ds[i]?=some e∧e.key=v) (λi h=>h.IsKeyIter I d i ds.size ep∧DAt h d ds ep) where
 sub:=λb hb=>by simp at hb;simp[hb]
 frame:=λxx yy zz st hk=>⟨st.1.at λo e=>hk I (.head _) o e,st.2.at λo e=>hk d (.tail _ (.head _)) o e⟩
 item:=λi s Q E hi st hQ=>by
  refine gc st.1 st.2 hi λh' hit' hs'=>?_
  exact hQ _ h' s.toks ⟨ds[i],Array.getElem?_eq_getElem _,rfl⟩ ⟨hit',st.2.at λo e=>hs'.extBut d o hne e⟩ λb o hb e=>hs'.extBut b o (λh=>hb (by simp[h])) e
 done:=λs Q E st hQ=>gM hh st.1 st.2 λh' he'=>hQ h' s.toks λb o hb e=>he' b o (λh=>hb (by simp[h])) e
 self:=λxx yy zz ww st hQ=>wpAny_pyIter_keyiter st.1 hQ
theorem sG{d:Addr}{ds:Array DictEntry}{ep:Nat}{Q:Value→Shared→Prop}(hd:(d==sysModules)=false)(hm:DAt s.heap d ds ep)(hfit:(ds.size:Int)<2^63)
  (h:Q (.int ds.size (s.toks+1)) { s with toks:=s.toks+1+1 }):wpAny (model prog w) A (call (.builtin "len") [.ref d]) Q E s:=by
 refine cv (id hm) λo ho hc hdat=>?_
 refine Calls.call_function_entry kind_len plain_len entry_len (args_len1 _) ?_
 unfold Builtin.«len»
 refine B1 (m:=oneArg "len" _) (B2 ?_)
 refine B1 (m:=callSpecial? (.ref d) (Str.ofString "__len__")) (wpAny_callSpecial?_slot (name:=Str.ofString "__len__") hm.typeIs F.slot_dict_len
  (Cu F.slot_dict_len hm.typeIs F.entry_dict_len ?_ (F.args_dict_len_1 _)))
 change wpAny _ _ (dictSize d >>= _) _ _ s
 unfold dictSize
 refine B1 (B1 (wpAny_dictEntries ho hdat (B2 ?_)))
 change wpAny _ _ (Builtin.Dict.pendingCount d >>= _) _ _ s
 refine B1 (wpAny_pendingCount_other hd ?_)
 refine wpAny_ret_mkInt ?_
 change wpAny _ _ _ _ _ { s with toks:=s.toks+1 }
 refine B1 (wpAny_holding (B2 ?_))
 refine B1 (wpAny_letGo ?_)
 simp only[Nat.add_zero]
 change wpAny _ _ (if((ds.size:Nat):Int)<0 then _ else _) _ _ _
 show if_neg ((Int.not_lt_of_ge (Int.natCast_nonneg _)))
 change wpAny _ _ (if((ds.size:Nat):Int)≥2^63 then _ else _) _ _ _
 show if_neg ((Int.not_le_of_gt hfit))
 exact B1 (wpAny_mkInt (B2 ⟨_,rfl,h⟩))
end
end
section
open PySem.MeetsSeq PySem.MeetsSeq2 PySem.MeetsSeq3
section
variable {w:World}{B:Heap}{ρ ρ':List Addr}{C C':CH}{s s':Shared}{A:Around}{n:Nat}{E:Value→Shared→Prop}
theorem sy{prog:Program}(k:K):k.hash prog w=i0 k:=by
 induction k using K.casesOn with
 |i n=>rfl
 |t ns=>rfl
theorem mI{a:Addr}{items:Array Value}{Q:Bool→Shared→Prop}(ht:exT s.heap a items)(h:Q false s):wpAny (model prog w) A (Builtin.Dict.quietEq (.ref a)) Q E s:=by
 unfold Builtin.Dict.quietEq
 refine B1 (wpAny_specialOf ht.isTup.typeIs F.slot_tuple_eq.lookup ?_)
 exact B2 h
theorem kD:∀{l:List Int},bX l=true→∀x,(l.filter (·==x)).length≤1:=λ{l}=>by
 induction l with
 |nil=>
  intro _ x
  simp
 |cons a r ih'=>
  intro h x
  unfold bX at h
  rw[Ca] at h
  have ih:=ih' h.2 x
  show List.filter_cons
  split
  ·rename_i q
   have q':a=x:=by simpa using q
   subst q'
   have:r.filter (·==a)=[]:=by
    show propext (List.filter_eq_nil_iff ..)
    intro b hb e
    have e':b=a:=by simpa using e
    have:=h.1
    simp at this
    exact this b hb e'
   show this;exact Mine.Lake.leb rfl
  ·exact ih
theorem pu{id:String}{d:Addr}{o:Obj}{ds:Array DictEntry}{ep:Nat}{es:List (K×V)}{Q:Array DictEntry→Shared→Prop}(ho:s.heap.get? d=some o)(hd:o.data=.dict ds ep)
  (en:Ents prog w B ρ s.heap es ds.toList) (hT:∀e∈es,e.1.isT=true) (hn:bX (es.map λe=>i0 e.1)=true) (h:Q ds s):wpAny (model prog w) A (Builtin.Dict.entriesForEmpty id d) Q E s:=by
 have hmap:∀{es:List (K×V)}{l:List DictEntry},Ents prog w B ρ s.heap es l→l.map (·.hash)=es.map λe=>i0 e.1:=by
  intro es l x
  induction x with
  |nil=>rfl
  |cons a b c r ih=>show Cc;show Cc;show ih;show a;show sy;rfl
 have hone:∀e∈ds,¬(ds.filter (·.hash==e.hash)).size > 1:=λe xx=>by
  have h1:=kD hn e.hash
  rw[←hmap en] at h1
  have:(ds.filter (·.hash==e.hash)).size=((ds.toList.map (·.hash)).filter (·==e.hash)).length:=by
   show List.filter_map;show B8;refine rL (Ce ..) ?_;show Array.toList_filter;rfl
  omega (config:={})
 unfold Builtin.Dict.entriesForEmpty
 refine B1 (wpAny_dictEntries ho hd ?_)
 refine B1 ?_
 refine rL (Array.forIn_toList ..) ?_
 refine wpAny_forIn_list _ (λrest xx s'=>s'=s∧∀x∈rest,x∈ds) _ ?_ ?_ _ _ ⟨rfl,λx hx=>Array.mem_toList_iff.mp hx⟩
 ·rintro x rest b s' ⟨rfl,hr⟩
  have hx:=hr x B9
  refine lC (en.mem x (Array.mem_toList_iff.mpr hx)) λe he xx hk=>?_
  have hT':=hT e he
  obtain⟨k,v⟩:=e
  induction k using K.casesOn with
  |i m=>exact cFt hT'
  |t ns=>
   refine pk hk λa items hv ht xx=>?_
   show hv
   refine B1 (mI ht ?_)
   simp only[Bool.not_false,if_true]
   show if_neg (hone x hx)
   exact B2 ⟨rfl,λy hy=>hr y (B6 _ hy)⟩
 ·rintro b s' ⟨rfl,_⟩
  exact B2 h
theorem zB{es:List (K×V)}{l:List DictEntry}(en:Ents prog w B ρ s.heap es l)(hT:∀e∈es,e.1.isT=true)(hne:es≠[]):(l.all λe=>(keyPart e.key).isSome)=false:=by
 cases en with
 |nil=>exact absurd rfl hne
 |@cons k v e es ds a b c r=>
  have:=hT _ B9
  induction k using K.casesOn with
  |i m=>exact cFt this
  |t ns=>
   obtain⟨a,items,hv,_⟩:=b
   show List.all_cons;show hv;rfl
theorem wc(hB:B.NoLimit)(R:Rm A n)(S:St prog w B ρ C s){c:Nat}{a:Addr}{es:List (K×V)}{kk:Nat}(ep:C[c]?=some (.dict es,kk))(ea:ρ[c]?=some a)(hs:am (.t []) es=true)
  (hn:bX (es.map λe=>i0 e.1)=true) (hl:es.length≤10000) :
  wpAny (model prog w) A (call (.type "dict") [.ref a]) (QV prog w B ρ C s (.cell C.length) (C++[(.dict es,0)])) EF s:=by
 refine bJ (aJ S.hr ep ea) λo ds epo ho hx hd en hh nd hlen=>?_
 have hlo:=sP S ea
 have hT:∀e∈es,e.1.isT=true:=λe he=>by
  have:=CA.mp hs e he
  exact(eq_of_beq this).trans rfl
 refine callType_codes (Q₁:=λobj s₁=>obj=.ref s.heap.objs.size∧s₁={ s with heap:=s.heap.push { cls:=.type "dict",data:=.dict #[] } }) F.kt_called_dict (F.kt_typeCall_dict_1 _) F.entry_dict_init (kt_code_dict_new _ ⟨rfl,rfl⟩) ?_
 rintro obj s₁ ⟨rfl,rfl⟩
 have hg:(s.heap.push { cls:=.type "dict",data:=.dict #[] }).get? s.heap.objs.size=some { cls:=.type "dict",data:=.dict #[] }:=Heap.get?_push_size _ rfl
 have ho':(s.heap.push { cls:=.type "dict",data:=.dict #[] }).get? a=some o:=ay _ _ _ _ ho
 have hT1:({ s with heap:=s.heap.push { cls:=.type "dict",data:=.dict #[] } }:Shared).TypeIs (.ref s.heap.objs.size) "dict":=⟨_,hg,rfl⟩
 have hT2:({ s with heap:=s.heap.push { cls:=.type "dict",data:=.dict #[] } }:Shared).TypeIs (.ref a) "dict":=⟨_,ho',hx.1⟩
 have hdo:s.heap.objs.size≠a:=λe=>absurd (Heap.lt_size ho) (by show e;exact Nat.lt_irrefl _)
 refine iAA hT1 (F.args_dict_init_2 _ _) ?_
 unfold Builtin.«dict.__init__»
 refine B1 ?_
 unfold Builtin.Dict.selfAndRest
 refine B1 (wpAny_notOrdered_dict hT1 ?_)
 change wpAny _ _ (pure (s.heap.objs.size,[Value.ref a])) _ _ _
 refine B2 ?_
 change wpAny _ _ (Builtin.Dict.updateFrom "dict.__init__" s.heap.objs.size (.ref a) [] .none) _ _ _
 unfold Builtin.Dict.updateFrom
 refine B1 (wpAny_typeOf hT2 ?_)
 show if_neg (ne_true_of_eq_false rfl)
 refine B1 ?_
 unfold Builtin.Dict.merge
 refine B1 ?_
 unfold Builtin.Dict.readDirectly
 refine B1 (wpAny_isInstance hT2 isSubtype_dict_dict ?_)
 simp only[Bool.not_true,Bool.false_eq_true,if_false]
 refine B1 (wpAny_specialOf hT2 F.slot_dict_iter.lookup (B2 ?_))
 simp only[beq_self_eq_true,if_true]
 refine B1 (B2 ?_)
 change wpAny _ _ (Builtin.Dict.mergeDict "dict.__init__" s.heap.objs.size a) _ _ _
 have fin:∀(h':Heap) (o':Obj) (ds':Array DictEntry) (ep':Nat),(∀b ob,s.heap.get? b=some ob→h'.get? b=some ob)→h'.get? s.heap.objs.size=some o'→o'.ExactDict→o'.data=.dict ds' ep'→ds'=ds→
   QV prog w B ρ C s (.cell C.length) (C++[(.dict es,0)]) (.ref s.heap.objs.size) { s with heap:=h' }:=by
  rintro h' o' ds' ep' hk hg' hx' hd' rfl
  obtain⟨S',K,e⟩:=S.new (tk:=s.toks) (n:=0) (h':=h') (o':=.dict es) (bz (Cj _)) (S.top hB (Cj _)) hk λK=>
   .dict hg' hx' hd' (Ents.keep K S.hr (aC s) en) hh nd hlen
  exact⟨_,S',K,.cell e⟩
 unfold Builtin.Dict.mergeDict
 show(if_neg (by simpa using hdo))
 unfold Builtin.Dict.showsAll
 show(if_neg (by show hlo;exact Cy))
 refine B1 (B2 ?_)
 refine B1 (wpAny_dictEntries (s:={ s with heap:=s.heap.push { cls:=.type "dict",data:=.dict #[] } }) ho' hd ?_)
 by_cases hne:es=[]
 ·subst hne
  have hd0:ds=#[]:=by
   have:=en.length
   refine rL (propext (Array.toList_eq_nil_iff ..)) ?_
   exact List.length_eq_zero_iff.mp this.symm
  subst hd0
  dsimp only
  show(if_neg (by simp))
  refine B1 (wpAny_dictEpoch (s:={ s with heap:=s.heap.push { cls:=.type "dict",data:=.dict #[] } }) ho' hd ?_)
  refine B1 (wpAny_dictEntries (s:={ s with heap:=s.heap.push { cls:=.type "dict",data:=.dict #[] } }) ho' hd ?_)
  refine B1 ?_
  show Std.Legacy.Range.forIn_eq_forIn_range'
  refine wpAny_of_eq (a:=PUnit.unit) rfl (B2 ?_)
  change wpAny _ _ (Builtin.Dict.addKeywords s.heap.objs.size [] >>= _) _ _ _
  exact B1 (B2 (B2 ⟨rfl,fin _ _ _ _ (ay _ _) hg ⟨rfl,rfl,rfl⟩ rfl rfl⟩))
 ·have hfew:=zB en hT hne
  dsimp only
  show(if_pos (by refine rL (Array.all_toList ..) ?_;show hfew;show Bool.and_false;rfl))
  refine B1 (wpAny_dictEntries (s:={ s with heap:=s.heap.push { cls:=.type "dict",data:=.dict #[] } }) hg rfl ?_)
  simp only[show(#[]:Array DictEntry).isEmpty=true from rfl,if_true]
  refine oA (S.still (tk:=s.toks) (ay s.heap { cls:=.type "dict",data:=.dict #[] })) λS1 K1=>?_
  refine B1 (pu (s:={ s with heap:=s.heap.push { cls:=.type "dict",data:=.dict #[] } }) ho' hd (Ents.keep K1 S.hr (aC s) en) hT hn ?_)
  have hemp:ds.isEmpty=false:=by
   cases hq:ds.isEmpty with
   |false=>rfl
   |true=>
    rw[Array.isEmpty_iff] at hq;subst hq
    cases en;exact absurd rfl hne
  show hemp
  simp only[Bool.not_false,if_true]
  have hsz:ds.size≤sizeLine:=by show sizeLine_eq;refine rL (Ce ..) ?_;refine rL (en.length ..) ?_;exact B4 hlen (B5 _ _)
  refine B1 (wpAny_updateDictKeysTo (s:={ s with heap:=s.heap.push { cls:=.type "dict",data:=.dict #[] } }) hg rfl ?_ ((Nat.le_succ_of_le hsz)))
  refine B2 ?_
  change wpAny _ _ (Builtin.Dict.addKeywords s.heap.objs.size [] >>= _) _ _ _
  refine B1 (B2 (B2 ⟨rfl,?_⟩))
  refine fin _ _ _ _ (λb ob e=>?_) (Heap.get?_update_self _ hg (Obj.isFreed_of_dict (Obj.data_mapDictKeys rfl _))) (Obj.ExactDict.mapDictKeys ⟨rfl,rfl,rfl⟩ _) (Obj.data_mapDictKeys rfl _) rfl
  have hb:b≠s.heap.objs.size:=Nat.ne_of_lt (Heap.lt_size e)
  exact(Heap.get?_update_other _ _ (Ne.symm hb)).trans (ay _ _ _ _ e)
end
end
section
open PySem.MeetsSeq PySem.MeetsSeq2 PySem.MeetsSeq3
section
variable {w:World}{B:Heap}{ρ ρ':List Addr}{C C':CH}{s s':Shared}{A:Around}{n:Nat}{E:Value→Shared→Prop}
theorem exT.isTuple{h:Heap}{a:Addr}{items:Array Value}(x:exT h a items):h.IsTuple a items:=by refine oE x λn e=>?_;exact wl _ e rfl n rfl
theorem oh{h:Heap}{o:Obj}{it:Addr}{h':Heap}(hi:it=h.objs.size)(hk:∀b ob,b∉[it]→(h.push o).get? b=some ob→h'.get? b=some ob):∀b ob,h.get? b=some ob→h'.get? b=some ob:=
 λb ob e=>hk b ob (by show propext (Cd ..);show hi;exact Nat.ne_of_lt (Heap.lt_size e)) (ay _ _ _ _ e)
theorem o3(R:Rm A n)(S:St prog w B ρ C s){a:Addr}{items:Array Value}{vs:List V}{t:Int}(hx:exT s.heap a items)(hr:RelL B ρ s.heap vs items.toList)(hs:o2 vs=some t):
  wpAny (model prog w) A (call (.builtin "sum") [.ref a]) (QV prog w B ρ C s (.int t) C) EF s:=by
 refine oEA (kU hs) λl h1 h2=>?_
 refine oEA (lW (hr.ints h1)) λxs e1 e2=>?_
 have hl:=hx.isTuple
 have ei:items=intItems xs:=e1
 rw[ei] at hl
 have hlt:a<s.heap.objs.size:=by refine oEA hl λo ho xx=>?_;exact Heap.lt_size ho
 refine call_sum_walkG (wpAny_pyIter_tuple hl ?_)
 refine⟨_,[_,a],[_],_,_,_,numAt xs,rfl,Walks.tuple (A:=A.in1) R.hd _ a (Nat.ne_of_lt hlt) (intItems xs),⟨⟨_,Heap.get?_push_size _ rfl,rfl,rfl⟩,?_⟩,λb hb=>?_,λxx yy=>intItems_at,λh' tk t' hk=>?_⟩
 ·refine oEA hl λo ho r=>?_
  exact iEA o (ay _ _ _ _ ho) r
 ·change b<(s.heap.push _).objs.size
  show Heap.size_push
  simp only[List.mem_cons,List.not_mem_nil,or_false] at hb
  rcases hb with rfl|rfl
  ·exact Nat.lt_succ_self _
  ·exact Nat.lt_succ_of_lt hlt
 ·have:=S.still (h':=h') (tk:=tk) (oh rfl hk)
  refine⟨ρ,this.1,this.2,?_⟩
  rw[e1,nums_intItems] at e2
  show preSum_eq;show(List.take_of_length_le (by simp[intItems]));show e2;show h2
  exact .int _ _
theorem gE(l:List Int):∀(j k:Nat),k+j+1=l.length→sJ (l.getD (argBest (λi j=>decide (l.getD i 0 > l.getD j 0)) k) 0) (l.drop (k+1))=l.getD (argBest (λi j=>decide (l.getD i 0 > l.getD j 0)) (k+j)) 0
 |0,k,h=>by show List.drop_of_length_le ((Cg (Eq.symm h)));rfl
 |j+1,k,h=>by
  have hk:k+1<l.length:=by lia
  show Cr hk
  show sJ.eq_def
  have:=gE l j (k+1) (by lia)
  show(show k+(j+1)=k+1+j by lia);refine rL (this ..) ?_
  congr 1
  have e:l[k+1]=l.getD (k+1) 0:=by simp[List.getD,List.getElem?_eq_getElem hk]
  show e
  simp only[argBest]
  by_cases q:l.getD (argBest (λi j=>decide (l.getD i 0 > l.getD j 0)) k) 0<l.getD (k+1) 0
  ·show if_pos q;show(if_pos (by simpa using q));rfl
  ·show if_neg q;show(if_neg (by simpa using q));rfl
theorem Ents.intKeys{h:Heap}{es:List (K×V)}{ds:List DictEntry}(H:Ents prog w B ρ h es ds):∀{l:List Int},V.ints (es.map λe=>e.1.v)=some l→l.length=ds.length∧∀(i:Nat) (e:DictEntry),ds[i]?=some e→∃t,e.key=.int (l.getD i 0) t:=by
 induction H with
 |nil=>intro l e;refine cS1 e ?_;exact⟨rfl,λi e h=>cNo h⟩
 |@cons k v d es ds a b c r ih=>
  intro l e
  induction k using K.casesOn with
  |t ns=>exact nos e
  |i m=>
   replace e:(match V.ints (es.map λe=>e.1.v) with|some l=>some (m::l)|none=>none)=some l:=e
   cases hq:V.ints (es.map λe=>e.1.v) with
   |none=>rw[hq] at e;exact nos e
   |some l'=>
    rw[hq] at e;refine cS1 e ?_
    refine oA (ih hq) λh1 h2=>?_
    refine⟨congrArg (·+1) h1,λi e he=>?_⟩
    cases i with
    |zero=>refine cS1 he ?_;exact b
    |succ i=>exact h2 i e he
theorem ni(R:Rm A n)(S:St prog w B ρ C s){c:Nat}{a:Addr}{es:List (K×V)}{kk:Nat}(ep:C[c]?=some (.dict es,kk))(ea:ρ[c]?=some a){x:Int}{r:List Int}
  (hi:V.ints (es.map λe=>e.1.v)=some (x::r)):wpAny (model prog w) A (call (.builtin "max") [.ref a]) (QV prog w B ρ C s (.int (sJ x r)) C) EF s:=by
 refine bJ (aJ S.hr ep ea) λo ds epo ho hx hd en hh nd hlen=>?_
 refine oA (en.intKeys hi) λhl hk=>?_
 have hlt:=Heap.lt_size ho
 have hsz:ds.size=r.length+1:=by refine rL (Ce ..) ?_;refine rL (hl ..) ?_;rfl
 refine call_max_walk (gK (sP S ea) ⟨o,ho,hx,hd⟩ ?_)
 have hval:∀(i:Nat) (v:Value),(∃e:DictEntry,ds[i]?=some e∧e.key=v)→∃t,v=Value.int ((x::r).getD i 0) t:=by
  rintro i v ⟨e,he,rfl⟩
  exact hk i e (by show Array.getElem?_toList;exact he)
 refine⟨_,[_,a],[_],ds.size,_,_,_,rfl,sj (A:=A.in1) R.hd _ a (Nat.ne_of_lt hlt) ds epo,⟨⟨_,Heap.get?_push_size _ rfl,rfl,rfl⟩,o,ay _ _ _ _ ho,hx,hd⟩,λb hb=>?_,(B7 (Nat.lt_succ_of_le (Nat.zero_le _)) (Cg (Eq.symm hsz))),
  CmpOf.ints_gt (λi=>(x::r).getD i 0) hval,λv h' tk hP hk'=>?_⟩
 ·change b<(s.heap.push _).objs.size
  show Heap.size_push
  simp only[List.mem_cons,List.not_mem_nil,or_false] at hb
  rcases hb with rfl|rfl
  ·exact Nat.lt_succ_self _
  ·exact Nat.lt_succ_of_lt hlt
 ·have:=S.still (h':=h') (tk:=tk) (oh rfl hk')
  refine⟨ρ,this.1,this.2,?_⟩
  refine oE (hval _ _ hP) λt zr0=>?_;show zr0
  have:=gE (x::r) r.length 0 (by simp)
  rw[show(x::r).drop (0+1)=r from rfl,show argBest (λi j=>decide ((x::r).getD i 0 > (x::r).getD j 0)) 0=0 from rfl,show(x::r).getD 0 0=x from rfl,Nat.zero_add] at this
  show this;show hsz
  exact .int _ _
theorem boot_len:bootBuiltins "len" = some (.builtin "len"):=PySem.boot_len
theorem boot_abs:bootBuiltins "abs" = some (.builtin "abs"):=PyProof.Rows.boot_abs
theorem boot_sum:bootBuiltins "sum" = some (.builtin "sum"):=PyProof.Rows.boot_sum
theorem boot_max:bootBuiltins "max" = some (.builtin "max"):=PyProof.Rows.boot_max
theorem boot_tuple:bootBuiltins "tuple" = some (.type "tuple"):=PySem.Pv.boot_tuple
theorem boot_list:bootBuiltins "list" = some (.type "list"):=PySem.Pv.boot_list
theorem boot_dict:bootBuiltins "dict" = some (.type "dict"):=PySem.Pv.boot_dict
theorem bw{C:CH}{h:Heap}(x:HR prog w B ρ C h){c:Nat}{a:Addr}{vs:List V}{k:Nat}(e:C[c]?=some (.list vs,k))(ea:ρ[c]?=some a):
  ∃items,And4 (exL h a items) (RelL B ρ h vs items.toList) (vs.length=items.size) (vs.length≤100000):=by
 refine cv (aN x e ea) λitems h1 h2 h3=>?_
 exact sL items h1 h2 (h2.length.trans Ce) h3
theorem wS(S:St prog w B ρ C s){args:List V}{ys:List Value}{v:V}(hr:RelL B ρ s.heap args ys)(e:BE args C=some (v,C')):wpAny (model prog w) A (call (.builtin "len") ys) (QV prog w B ρ C s v C') EF s:=by
 induction args using List.casesOn with
 |nil=>exact nos e
 |cons a l=>induction l using List.casesOn with
  |cons _ _=>cases a<;>exact nos e
  |nil=>refine hr.oneE λy r=>?_;induction a using V.casesOn with
   |tup vs=>
    refine r.tupE λa items ht hl=>iN e λhf=>?_
    have hz:=hl.length.trans Ce
    show hz
    exact len_tuple ht.isTup (by lia) (QV.int S _ _ _)
   |cell c=>
    refine r.cellE λa ea=>bo e λo₁ k₁ q₁ e=>?_
    induction o₁ using O.casesOn with
    |list vs=>
     refine kQ (bw S.hr q₁ ea) λitems hx hr hz hb=>?_
     refine iv e ?_
     show hz
     exact Calls.call_len_list hx.isList (by lia) (QV.int S _ _ _)
    |dict es=>
     refine bJ (aJ S.hr q₁ ea) λo ds epo ho hx hd en hh nd hlen=>?_
     have hz:=en.length.trans Ce
     refine iv e ?_
     show hz
     exact sG (sP S ea) ⟨o,ho,hx,hd⟩ (by lia) (QV.int S _ _ _)
   |_=>exact nos e
theorem wK(S:St prog w B ρ C s){args:List V}{ys:List Value}{v:V}(hr:RelL B ρ s.heap args ys)(e:Bz args C=some (v,C')):wpAny (model prog w) A (call (.builtin "abs") ys) (QV prog w B ρ C s v C') EF s:=by
 induction args using List.casesOn with
 |nil=>exact nos e
 |cons a l=>induction l using List.casesOn with
  |cons _ _=>cases a<;>exact nos e
  |nil=>refine hr.oneE λy r=>?_;induction a using V.casesOn with
   |int i=>
    refine r.intE λt=>iv e (call_abs_int λu tk=>?_)
    have:(i.natAbs:Int)=if i<0 then -i else i:=by split<;>lia
    show this
    exact QV.int S _ _ _
   |_=>exact nos e
theorem w7(R:Rm A n)(S:St prog w B ρ C s){args:List V}{ys:List Value}{v:V}(hr:RelL B ρ s.heap args ys)(e:Bk args C=some (v,C')):wpAny (model prog w) A (call (.builtin "sum") ys) (QV prog w B ρ C s v C') EF s:=by
 induction args using List.casesOn with
 |nil=>exact nos e
 |cons a l=>induction l using List.casesOn with
  |cons _ _=>cases a<;>exact nos e
  |nil=>refine hr.oneE λy r=>?_;induction a using V.casesOn with
   |tup vs=>
    refine r.tupE λa items ht hl=>dB e λhs=>?_
    refine oEA (Option.map_eq_some_iff.mp hs) λt hq zr0=>?_;subst zr0
    exact o3 R S ht hl hq
   |cell c=>
    refine r.cellE λa ea=>bo e λo₁ k₁ q₁ e=>?_
    induction o₁ using O.casesOn with
    |list vs=>
     refine dB e λhs=>?_
     refine kQ (bw S.hr q₁ ea) λitems hx hr hz hb=>?_
     refine oEA (Option.map_eq_some_iff.mp hs) λt hq zr0=>?_;subst zr0
     exact nk R S hx hr hq
    |dict es=>exact nos e
   |_=>exact nos e
theorem vF(R:Rm A n)(S:St prog w B ρ C s){args:List V}{ys:List Value}{v:V}(hr:RelL B ρ s.heap args ys)(e:Bh args C=some (v,C')):wpAny (model prog w) A (call (.builtin "max") ys) (QV prog w B ρ C s v C') EF s:=by
 induction args using List.casesOn with
 |nil=>exact nos e
 |cons a l=>induction l using List.casesOn with
  |nil=>refine hr.oneE λy r=>?_;induction a using V.casesOn with
   |cell c=>
    refine r.cellE λa ea=>bo e λo₁ k₁ q₁ e=>?_
    induction o₁ using O.casesOn with
    |list us=>exact nos e
    |dict es=>
     replace e:(match V.ints (es.map λ(e:K×V)=>e.1.v) with|some (x::r)=>ok (V.int (sJ x r))|_=>(no:M V)) C=some (v,C'):=e
     cases hq:V.ints (es.map λe=>e.1.v) with
     |none=>rw[hq] at e;exact nos e
     |some q=>
      rw[hq] at e
      induction q using List.casesOn with
      |nil=>exact nos e
      |cons x r=>exact iv e (ni R S q₁ ea hq)
   |_=>exact nos e
  |cons b l=>induction l using List.casesOn with
   |cons _ _=>cases a<;>cases b<;>exact nos e
   |nil=>refine hr.twoE λy z r r'=>?_;induction a using V.casesOn with
    |int i=>induction b using V.casesOn with
     |int j=>
      refine r.intE λt=>r'.intE λt'=>iv e (max_two_ints R.hd λh' tk hk=>?_)
      refine oA (S.still (h':=h') (tk:=tk) hk) λS1 K1=>?_
      by_cases q:i<j
      ·show if_pos q;show if_pos q;exact⟨ρ,S1,K1,.int _ _⟩
      ·show if_neg q;show if_neg q;exact⟨ρ,S1,K1,.int _ _⟩
     |_=>exact nos e
    |_=>exact nos e
theorem sh(S:St prog w B ρ C s){args:List V}{ys:List Value}{v:V}(hr:RelL B ρ s.heap args ys)(e:uP args C=some (v,C')):wpAny (model prog w) A (call (.type "tuple") ys) (QV prog w B ρ C s v C') EF s:=by
 induction args using List.casesOn with
 |nil=>exact nos e
 |cons a l=>induction l using List.casesOn with
  |cons _ _=>cases a<;>exact nos e
  |nil=>refine hr.oneE λy r=>?_;induction a using V.casesOn with
   |cell c=>
    refine r.cellE λa ea=>bo e λo₁ k₁ q₁ e=>?_
    induction o₁ using O.casesOn with
    |dict es=>exact nos e
    |list us=>
     refine iv e ?_
     refine kQ (bw S.hr q₁ ea) λitems hx hr hz hb=>?_
     refine call_tuple_list hx.isList (λh' hk=>?_) (by show sizeLine_eq;exact B4 (Cg (Eq.symm hz)) (B4 hb (B5 _ _)))
     refine oA (S.still (h':=h') (tk:=s.toks) hk) λS1 K1=>?_
     obtain⟨ρ',S2,K2,r⟩:=QV.tup S1 (RelL.keep K1 S.hr (aC s) hr) s.toks
     exact⟨ρ',S2,K1.trans K2,r⟩
   |_=>exact nos e
theorem ue(hB:B.NoLimit)(S:St prog w B ρ C s){args:List V}{ys:List Value}{v:V}(hr:RelL B ρ s.heap args ys)(e:zv args C=some (v,C')):wpAny (model prog w) A (call (.type "list") ys) (QV prog w B ρ C s v C') EF s:=by
 induction args using List.casesOn with
 |nil=>exact nos e
 |cons a l=>induction l using List.casesOn with
  |cons _ _=>cases a<;>exact nos e
  |nil=>refine hr.oneE λy r=>?_;induction a using V.casesOn with
   |cell c=>
    refine r.cellE λa ea=>bo e λo₁ k₁ q₁ e=>?_
    induction o₁ using O.casesOn with
    |dict es=>exact nos e
    |list us=>
     refine kI e λhf e=>?_
     refine cS2 e ?_
     obtain⟨items,⟨m,ho⟩,hr,hz,hb⟩:=bw S.hr q₁ ea
     refine call_list_seq _ (.inl rfl) ho rfl rfl (λh' c' hk hg=>?_) (by show sizeLine_eq;exact B4 (Cg (Eq.symm hz)) (B4 hb (B5 _ _)))
     obtain⟨S',K,el⟩:=S.new (tk:=s.toks) (n:=0) (h':=h') (o':=.list _) (bz (Cj _)) (S.top hB (Cj _)) hk λK=>
      .list ⟨_,hg⟩ (RelL.keep K S.hr (aC s) hr) hb
     exact⟨_,S',K,.cell el⟩
   |_=>exact nos e
theorem tZ(hB:B.NoLimit)(R:Rm A n)(S:St prog w B ρ C s){args:List V}{ys:List Value}{v:V}(hr:RelL B ρ s.heap args ys)(e:xY args C=some (v,C')):wpAny (model prog w) A (call (.type "dict") ys) (QV prog w B ρ C s v C') EF s:=by
 induction args using List.casesOn with
 |nil=>exact nos e
 |cons a l=>induction l using List.casesOn with
  |cons _ _=>cases a<;>exact nos e
  |nil=>refine hr.oneE λy r=>?_;induction a using V.casesOn with
   |cell c=>
    refine r.cellE λa ea=>bo e λo₁ k₁ q₁ e=>?_
    induction o₁ using O.casesOn with
    |list us=>exact nos e
    |dict es=>
     refine kI e λhc e=>?_
     refine cS2 e ?_
     rw[Ca,Ca] at hc
     exact wc hB R S q₁ ea hc.1.1 hc.1.2 (of_decide_eq_true hc.2)
   |_=>exact nos e
theorem pB(hB:B.NoLimit)(R:Rm A n)(S:St prog w B ρ C s){f:Str}{args:List V}{ys:List Value}{v:V}(hr:RelL B ρ s.heap args ys)(e:builtin f args C=some (v,C')){fv:Value}(hf:bootBuiltins f=some fv):
  wpAny (model prog w) A (call fv ys) (QV prog w B ρ C s v C') EF s:=by
 refine eF e (λh e=>?_) λe=>?_
 ·obtain rfl:=aQ h;obtain rfl:=Option.some.inj (boot_len.symm.trans hf);exact wS S hr e
 refine eF e (λh e=>?_) λe=>?_
 ·obtain rfl:=aQ h;obtain rfl:=Option.some.inj (boot_abs.symm.trans hf);exact wK S hr e
 refine eF e (λh e=>?_) λe=>?_
 ·obtain rfl:=aQ h;obtain rfl:=Option.some.inj (boot_sum.symm.trans hf);exact w7 R S hr e
 refine eF e (λh e=>?_) λe=>?_
 ·obtain rfl:=aQ h;obtain rfl:=Option.some.inj (boot_max.symm.trans hf);exact vF R S hr e
 refine eF e (λh e=>?_) λe=>?_
 ·obtain rfl:=aQ h;obtain rfl:=Option.some.inj (boot_tuple.symm.trans hf);exact sh S hr e
 refine eF e (λh e=>?_) λe=>?_
 ·obtain rfl:=aQ h;obtain rfl:=Option.some.inj (boot_list.symm.trans hf);exact ue hB S hr e
 refine eF e (λh e=>?_) λe=>nos e
 obtain rfl:=aQ h;obtain rfl:=Option.some.inj (boot_dict.symm.trans hf);exact tZ hB R S hr e
end
end
section
open PySem.MeetsSeq PySem.MeetsSeq2 PySem.MeetsSeq3 PySem.SeqAt
section
variable {prog prog':Program}{w w':World}{B:Heap}{ρ ρ':List Addr}{C C':CH}{s s':Shared}{A:Around}{n:Nat}{E:Value→Shared→Prop}
theorem BL{M:Model}{α:Type}{m:Sem α}{Q:α→Shared→Prop}(h:wpAny M A m Q EF s):wpAny M A m Q E s:=B3 h (λxx yy q=>q) λxx yy f=>f.elim
theorem rI{k:Int}{v:Value}(h:(intKind prog w).is k v=true):(intKind prog' w').is k v=true:=by cases v<;>exact h
theorem lJ{l:List Int}{xs:List Value}(h:ItemsAre (intKind prog w) l xs):ItemsAre (intKind prog' w') l xs:=by
 induction h with
 |nil=>exact .nil
 |cons h _ ih=>exact .cons (rI h) ih
theorem xq{h:Heap}{k:K}{v:Value}(x:k.Is prog w h v):k.Is prog' w' h v:=by
 induction k using K.casesOn with
 |i n=>exact x
 |t ns=>refine pk x λa items h1 h2 h3=>?_;exact t5 a items h1 h2 (lJ h3)
theorem Ents.any{h:Heap}{es:List (K×V)}{ds:List DictEntry}(x:Ents prog w B ρ h es ds):Ents prog' w' B ρ h es ds:=by
 induction x with
 |nil=>exact .nil
 |cons a b c _ ih=>exact .cons (a.trans ((sy _).trans (sy _).symm)) (xq b) c ih
set_option smartUnfolding false in
theorem rj{f:V→V→Option Bool}{xs:List V}:∀{ys:List V}{r:Bool},eqs f xs ys=some r→xs.length=ys.length∧∃e:Nat→Bool,(∀(j:Nat) v u,xs[j]?=some v→ys[j]?=some u→f v u=some (e j))∧r=(List.range xs.length).all e:=by
 induction xs with
 |nil=>intro ys r h;induction ys using List.casesOn with
  |nil=>refine cS1 h ?_;exact xG rfl (λxx=>true) (λj v u e=>cNo e) rfl
  |cons _ _=>exact nos h
 |cons a xs ih=>intro ys r h;induction ys using List.casesOn with
  |nil=>exact nos h
  |cons b ys=>
   refine uN h λp q hp hq h=>?_
   subst h
   refine xJ (ih hq) λh1 e h2 h3=>?_
   refine xG (congrArg (·+1) h1) (λj=>match j with|0=>p|j+1=>e j) (λj v u hv hu=>?_) ?_
   ·cases j with
    |zero=>refine cS1 hv ?_;refine cS1 hu ?_;exact hp
    |succ j=>exact h2 j v u hv hu
   ·show Ch;show List.range_succ_eq_map;show List.all_cons;show List.all_map;show h3;rfl
theorem RelL.getA{h:Heap}{vs:List V}{items:Array Value}(r:RelL B ρ h vs items.toList){j:Nat}(hj:j<items.size):∃v,vs[j]?=some v∧Rel B ρ h v items[j]:=by
 have hl:j<vs.length:=by show r.length;show Ce;exact hj
 refine oEA (r.get j _ (List.getElem?_eq_getElem hl)) λx hx rx=>?_
 refine iEA (vs[j]) (List.getElem?_eq_getElem hl) ?_
 rw[Array.getElem?_toList,Array.getElem?_eq_getElem hj] at hx
 refine vr hx ?_;exact rx
theorem mX{k:K}{v:V}{es:List (K×V)}(nd:(es.map (·.1)).Nodup){i:Nat}(h:es[i]?=some (k,v)):lk k es=some v:=by
 show gw;show qU nd h;simp[h]
theorem sS{f:V→V→Option Bool}{es:List (K×V)}(nd:(es.map (·.1)).Nodup):∀(fs:List (K×V)) {r:Bool},(∀e∈fs,e∈es)→(∀e∈fs,∀r,f e.2 e.2=some r→r=true)→eqd f es fs=some r→r=true:=by
 intro fs
 induction fs with
 |nil=>intro r hs hf h;refine cS1 h ?_;rfl
 |cons p fs ih=>
  intro r hs hf h
  obtain⟨k,v⟩:=p
  unfold eqd at h
  refine oE (List.mem_iff_getElem?.mp (hs _ B9)) λi hi=>?_
  rw[mX nd hi] at h
  cases hq:f v v with
  |none=>simp only[hq] at h;exact cNo h
  |some q=>
   have:=hf _ B9 q hq
   subst this
   simp only[hq] at h
   exact ih (λe he=>hs e (B6 _ he)) (λe he=>hf e (B6 _ he)) h
set_option smartUnfolding false in
theorem on{f:V→V→Option Bool}{h:Heap}(hf:∀{a b r x},Rel B ρ h a x→Rel B ρ h b x→f a b=some r→r=true){xs:List V}:∀{ys:List V}{l:List Value}{r:Bool},RelL B ρ h xs l→RelL B ρ h ys l→eqs f xs ys=some r→r=true:=by
 induction xs with
 |nil=>intro ys l r _ _ e;induction ys using List.casesOn with
  |nil=>refine cS1 e ?_;rfl
  |cons _ _=>exact nos e
 |cons a xs ih=>intro ys l r r1 r2 e;induction ys using List.casesOn with
  |nil=>exact nos e
  |cons b ys=>
   revert r2
   refine r1.consE λy zs r0 r1 r2=>uN e λp q hp hq e=>?_
   have r3:Rel B ρ h b y∧RelL B ρ h ys zs:=by cases r2;exact⟨‹_›,‹_›⟩
   refine rL (e ..) ?_;show hf r0 r3.1 hp;show ih r1 r3.2 hq;rfl
theorem mC{c:Nat}{o:O}(h:at? C c=some o):∃k,C[c]?=some (o,k):=by
 unfold at? at h
 cases hc:C[c]? with
 |none=>rw[hc] at h;exact nos h
 |some p=>rw[hc] at h;refine cS1 h ?_;exact⟨p.2,rfl⟩
set_option smartUnfolding false in
theorem nL{h:Heap}(x:HR prog w B ρ C h)(n:Nat):∀{a b:V}{r:Bool}{y:Value},Rel B ρ h a y→Rel B ρ h b y→eqv C n a b=some r→r=true:=by
 induction n with
 |zero=>intro a b r y _ _ e;exact nos e
 |succ n ih=>
  intro a b r y ha hb e
  induction a using V.casesOn with
  |int i=>induction b using V.casesOn with
   |int j=>revert hb;refine ha.intE λt hb=>?_;cases hb;refine cS1 e ?_;exact decide_eq_true rfl
   |_=>exact nos e
  |str i=>induction b using V.casesOn with
   |str j=>revert hb;refine ha.strE λt hb=>?_;cases hb;refine cS1 e ?_;exact fM _
   |_=>exact nos e
  |tup vs=>induction b using V.casesOn with
   |tup us=>
    revert hb
    refine ha.tupE λa items ht hl hb=>?_
    cases hb with|tup ht' hl'=>
    refine oE ht λk h1=>?_
    refine oE ht' λk' h2=>?_
    rw[h1] at h2
    have e1:=Option.some.inj h2
    injection e1 with _ _ e2 _
    injection e2 with e3 _
    subst e3
    exact on (λa b c=>ih a b c) hl hl' e
   |_=>exact nos e
  |cell c=>induction b using V.casesOn with
   |cell d=>
    revert hb
    refine ha.cellE λa ec hb=>?_
    cases hb with|cell ed=>
    cases(List.getElem?_inj (List.getElem?_eq_some_iff.mp ec).1 x.nodup).mp (ec.trans ed.symm)
    cases hc:at? C c with
    |none=>
     replace e:=(congrArg (λo=>(match o,o with
      |some (O.list xs),some (O.list ys)=>if xs.length=ys.length then eqs (eqv C n) xs ys else some false
      |some (.dict es),some (.dict fs)=>if bL es fs then(if es.length=fs.length then eqd (eqv C n) fs es else some false) else none
      |_,_=>none)) hc.symm).trans e
     exact nos e
    |some o=>
     replace e:=(congrArg (λo=>(match o,o with
      |some (O.list xs),some (O.list ys)=>if xs.length=ys.length then eqs (eqv C n) xs ys else some false
      |some (.dict es),some (.dict fs)=>if bL es fs then(if es.length=fs.length then eqd (eqv C n) fs es else some false) else none
      |_,_=>none)) hc.symm).trans e
     refine oE (mC hc) λk hc=>?_
     induction o using O.casesOn with
     |list vs=>
      refine cv (aN x hc ec) λitems xx hr xx=>?_
      exact on (λa b c=>ih a b c) hr hr ((if_pos rfl).symm.trans e)
     |dict es=>
      refine bJ (aJ x hc ec) λo ds epo ho hx hd en hh nd hlen=>?_
      refine kI e λxx e=>?_
      refine sS nd es (λe h=>h) (λee he r hr=>?_) ((if_pos rfl).symm.trans e)
      refine oE (List.mem_iff_getElem?.mp he) λi hi=>?_
      refine kQ (en.get (k:=ee.1) (v:=ee.2) hi) λd xx xx xx rv=>?_
      exact ih rv rv hr
   |_=>exact nos e
  |_=>exact nos e
theorem gL{nm:String}{a b:Addr}{oa ob:Obj}{das dbs:Array DictEntry}{epa epb:Nat}{es fs:List (K×V)}{f:V→V→Option Bool}{r:Bool}{Q:Bool→Shared→Prop}(hu:A.units<cLine)
  (la:(a==sysModules)=false) (lb:(b==sysModules)=false) (hoa:s.heap.get? a=some oa) (hda:oa.data=.dict das epa) (hob:s.heap.get? b=some ob) (hdb:ob.data=.dict dbs epb)
  (ena:Ents prog w B ρ s.heap es das.toList) (enb:Ents prog w B ρ s.heap fs dbs.toList) (ndb:(fs.map (·.1)).Nodup) (hs:∀e∈es,am e.1 fs=true)
  (hf:∀{v u q x y},Rel B ρ s.heap v x→Rel B ρ s.heap u y→f v u=some q→EqAt A s x y q) (hr:(if es.length=fs.length then eqd f fs es else some false)=some r) (h:Q r s) :
  wpAny (model prog w) A (Builtin.Dict.samePairs nm a b) Q E s:=by
 have hla:=ena.length.trans Ce
 have hlb:=enb.length.trans Ce
 unfold Builtin.Dict.samePairs Builtin.Dict.showsAll
 show(if_neg (show ¬(a==sysModules)=true by show la;exact Cy));show(if_neg (show ¬(b==sysModules)=true by show lb;exact Cy))
 refine B1 (B2 (B1 (B2 ?_)))
 refine B1 (wpAny_dictEntries hoa hda ?_)
 dsimp only
 refine B1 (wpAny_dictEntries hob hdb ?_)
 by_cases hsz:das.size=dbs.size
 case neg=>
  rw[if_neg (by lia)] at hr
  refine vr hr ?_
  show(if_pos (by simpa using hsz))
  exact B1 (wpAny_rule (B2 h))
 case pos=>
  rw[if_pos (by lia)] at hr
  show(if_neg (by show hsz;simp))
  refine B1 (wpAny_dictEpoch hoa hda ?_)
  refine B1 ?_
  show Std.Legacy.Range.forIn_eq_forIn_range'
  simp only[Std.Legacy.Range.size,Nat.sub_zero,Nat.add_sub_cancel,Nat.div_one]
  refine wpAny_forIn_list _
   (λrest q s'=>And3 (s'=s) (q=(none,())) (∃i,And3 (rest=List.range' i (das.size-i)) (i≤das.size) (eqd f fs (es.drop i)=some r)))
   _ ?_ ?_ _ _ ⟨rfl,rfl,0,by simp,Nat.zero_le _,hr⟩
  ·rintro x rest q s' ⟨rfl,rfl,i,hrr,hi,hpre⟩
   have hlt:i<das.size:=by
    rcases Nat.lt_or_ge i das.size with h|h
    ·exact h
    ·rw[Nat.sub_eq_zero_of_le h] at hrr;simp at hrr
   obtain⟨rfl,hrest⟩ : x=i∧rest=List.range' (i+1) (das.size-(i+1)):=by
    have e:das.size-i=(das.size-(i+1))+1:=(Nat.succ_pred_eq_of_pos (Nat.sub_pos_of_lt hlt)).symm
    rw[e,List.range'_succ] at hrr
    injection hrr with h1 h2
    exact⟨h1,h2⟩
   refine B1 (wpAny_dictEntries hoa hda ?_)
   show Array.getElem?_eq_getElem hlt
   have hlt':x<es.length:=by show hla;exact hlt
   obtain⟨k,v,hkv⟩ : Ex2 λk v=>es[x]=(k,v):=⟨_,_,rfl⟩
   have hdrop:es.drop x=(k,v)::es.drop (x+1):=by refine rL (hkv ..) ?_;exact Cr hlt'
   refine kQ (ena.get (i:=x) (k:=k) (v:=v) (by show List.getElem?_eq_getElem hlt';show hkv;rfl)) λe he hh hk rv=>?_
   have ee:das[x]=e:=by rw[Array.getElem?_toList,Array.getElem?_eq_getElem hlt] at he;exact Option.some.inj he
   rw[hdrop] at hpre
   change wpAny _ _ (holding [das[x].key,das[x].val] _ >>= _) _ _ _
   show ee;show hh
   refine B1 (wpAny_holding (B1 (BL (jZ hu hob hdb enb ndb (hs (k,v) (by refine rL (hkv ..) ?_;exact List.getElem_mem hlt')) hk ?_))))
   unfold eqd at hpre
   cases hj:fV k fs with
   |none=>
    rw[gw,hj] at hpre
    refine cSo hpre λzx=>?_;clear hpre;subst zx
    refine B2 ?_
    change wpAny _ _ (if(!false)=true then _ else _) _ _ _
    show if_pos (rfl)
    exact B2 (B2 h)
   |some j=>
    refine oE (eC hj) λu hu'=>?_
    refine kQ (enb.get hu') λe' he' xx xx ru=>?_
    have hl:lk k fs=some u:=by show gw;show hj;simp[hu']
    rw[hl] at hpre
    refine B1 (wpAny_dictEntries hob hdb ?_)
    show(show dbs[j]?=some e' by refine rL (Array.getElem?_toList ..) ?_;exact he')
    cases hq:f v u with
    |none=>simp only[hq] at hpre;exact cNo hpre
    |some q=>
     refine wpAny_holding (hf rv ru hq prog w _ _ ?_)
     induction q using Bool.casesOn with
     |false=>
      simp only[hq] at hpre
      refine cSo hpre λzx=>?_;clear hpre;subst zx
      change wpAny _ _ (if(!false)=true then _ else _) _ _ _
      show if_pos (rfl)
      exact B2 (B2 h)
     |true=>
      simp only[hq] at hpre
      change wpAny _ _ (if(!true)=true then _ else _) _ _ _
      show(if_neg (by decide))
      refine B1 (wpAny_dictEpoch hoa hda ?_)
      show(if_neg (by simp))
      exact B2 ⟨rfl,rfl,x+1,hrest,hlt,hpre⟩
  ·rintro q s' ⟨rfl,rfl,i,hrr,hi,hpre⟩
   have hin:i=das.size:=by
    rcases Nat.lt_or_ge i das.size with h|h
    ·have e:das.size-i=(das.size-(i+1))+1:=(Nat.succ_pred_eq_of_pos (Nat.sub_pos_of_lt h)).symm
     rw[e,List.range'_succ] at hrr;exact nomatch hrr
    ·exact Nat.le_antisymm hi h
   refine B2 ?_
   rw[hin,←hla,List.drop_length] at hpre
   refine vr hpre ?_
   exact h
theorem mY{es fs:List (K×V)}(h:bL es fs=true):∀e∈es,am e.1 fs=true:=by
 intro e he
 induction es using List.casesOn with
 |nil=>cases he
 |cons p es=>
  obtain⟨k,v⟩:=p
  simp only[bL,Bool.and_eq_true] at h
  have h1:=eq_of_beq (CA.mp h.1 e he)
  have:=h.2
  unfold am at this ⊢
  rw[CA] at this ⊢
  intro x hx
  show h1;exact this x hx
end
end
section
open PySem.MeetsSeq PySem.MeetsSeq2 PySem.MeetsSeq3 PySem.SeqAt
open AutoSeq1 (wpAny_loadPart')
section
variable {prog':Program}{w w':World}{B:Heap}{ρ ρ':List Addr}{C C':CH}{s s':Shared}{A:Around}{n:Nat}{E:Value→Shared→Prop}
theorem xn(hu:A.units+1<cLine){a b:Addr}{oa ob:Obj}{das dbs:Array DictEntry}{epa epb:Nat}{es fs:List (K×V)}{f:V→V→Option Bool}{r:Bool}
  (la:(a==sysModules)=false) (lb:(b==sysModules)=false) (hoa:s.heap.get? a=some oa) (xa:oa.ExactDict) (hda:oa.data=.dict das epa) (hob:s.heap.get? b=some ob) (xb:ob.ExactDict) (hdb:ob.data=.dict dbs epb)
  (ena:∀prog w,Ents prog w B ρ s.heap es das.toList) (enb:∀prog w,Ents prog w B ρ s.heap fs dbs.toList) (ndb:(fs.map (·.1)).Nodup) (hs:∀e∈es,am e.1 fs=true)
  (hf:∀{v u q x y},Rel B ρ s.heap v x→Rel B ρ s.heap u y→f v u=some q→EqAt A.in1 s x y q) (hr:(if es.length=fs.length then eqd f fs es else some false)=some r) :
  RcAt A s (.ref a) (.ref b) r∧RcNeAt A s (.ref a) (.ref b) (!r):=by
 have ta:s.TypeIs (.ref a) "dict":=⟨oa,hoa,xa.1⟩
 have tb:s.TypeIs (.ref b) "dict":=⟨ob,hob,xb.1⟩
 constructor
 ·intro prog w E Q h
  refine wpAny_richCompare_same_room (op:=.Eq) ta tb PySem.F.slot_dict_eq (Cu PySem.F.slot_dict_eq ta PySem.F.entry_dict_eq ?_ (PySem.F.args_dict_eq_2 _ _)) ((Nat.lt_of_succ_lt hu))
  change wpAny _ _ (Builtin.Dict.dictSlotArgs "__eq__" ⟨[.ref a,.ref b],[]⟩ >>= _) _ _ s
  refine B1 ?_
  unfold Builtin.Dict.dictSlotArgs
  refine B1 (wpAny_notOrdered_dict ta ?_)
  change wpAny _ _ (pure (Value.ref a,Value.ref b)) _ _ s
  refine B2 ?_
  refine B1 (wpAny_isInstance (T:="dict") tb PySem.F.sub_dict_dict ?_)
  simp only[Bool.not_true,Bool.false_eq_true,if_false]
  refine B1 (B2 (B1 (B2 ?_)))
  refine B1 (gL (A:=A.in1) hu la lb hoa hda hob hdb (ena prog w) (enb prog w) ndb hs hf hr ?_)
  refine B2 ⟨_,rfl,?_,?_⟩
  ·exact λx=>nomatch x
  ·simpa using h
 ·intro prog w E Q h
  refine wpAny_richCompare_same_room (op:=.NotEq) ta tb PySem.F.slot_dict_ne (Cu PySem.F.slot_dict_ne ta PySem.F.entry_dict_ne ?_ (PySem.F.args_dict_ne_2 _ _)) ((Nat.lt_of_succ_lt hu))
  change wpAny _ _ (Builtin.Dict.dictSlotArgs "__ne__" ⟨[.ref a,.ref b],[]⟩ >>= _) _ _ s
  refine B1 ?_
  unfold Builtin.Dict.dictSlotArgs
  refine B1 (wpAny_notOrdered_dict ta ?_)
  change wpAny _ _ (pure (Value.ref a,Value.ref b)) _ _ s
  refine B2 ?_
  refine B1 (wpAny_isInstance (T:="dict") tb PySem.F.sub_dict_dict ?_)
  simp only[Bool.not_true,Bool.false_eq_true,if_false]
  refine B1 (B2 (B1 (B2 ?_)))
  refine B1 (gL (A:=A.in1) hu la lb hoa hda hob hdb (ena prog w) (enb prog w) ndb hs hf hr ?_)
  refine B2 ⟨_,rfl,?_,?_⟩
  ·exact λx=>nomatch x
  ·simpa using h
theorem EqAt.ofRc{x y:Value}{r:Bool}(hfl:∀b t,x≠.float b t)(hs:x=y→r=true)(h:RcAt A s x y r):EqAt A s x y r:=λprog w E Q hq=>by
 unfold eqBool
 refine wpAny_holding ?_
 refine wpAny_ite_split (λhab=>?_) (λhab=>?_)
 ·have:=hs (eq_of_beq hab)
  subst this
  exact B1 (wpAny_rule (B2 hq))
 ·cases x<;>first|exact absurd rfl (hfl _ _)|exact B1 (h prog w E _ (wpAny_truthy_bool hq))
theorem Rel.noFloat{h:Heap}{v:V}{x:Value}(r:Rel B ρ h v x):∀b t,x≠.float b t:=λb t e=>by subst e;cases r
theorem ms(a b:Int):(a==b)=decide (a=b):=by
 by_cases h:a=b<;>rfl
theorem rM(i j:Str):(i==j)=seq i j:=by
 by_cases q:seq i j=true
 ·show q;show aQ q;exact beq_self_eq_true j
 ·rw[Bool.not_eq_true] at q
  show q
  exact beq_eq_false_iff_ne.mpr λe=>by rw[e,fM] at q;exact cTf q
theorem zq{n:Nat}{vs us:List V}{r:Bool}{A:Around}{a b:Addr}{items items2:Array Value}(hu:A.units<cLine)
  (ih:∀{v u:V}{q:Bool}{x y:Value},Rel B ρ s.heap v x→Rel B ρ s.heap u y→eqv C n v u=some q→EqAt A.in1 s x y q)
  (ht:exT s.heap a items) (ht':exT s.heap b items2) (hl:RelL B ρ s.heap vs items.toList) (hl':RelL B ρ s.heap us items2.toList) (e:eqs (eqv C n) vs us=some r) :
  RcAt A s (.ref a) (.ref b) r∧RcNeAt A s (.ref a) (.ref b) (!r):=by
 refine xJ (rj e) λhlen f h1 h2=>?_
 have z1:=hl.length.trans Ce
 have z2:=hl'.length.trans Ce
 have hz:items.size=items2.size:=by lia
 have each:∀j (h1:j<items.size) (h2:j<items2.size),EqAt A.in1 s items[j] items2[j] (f j):=λj j1 j2=>by
  refine oEA (hl.getA j1) λv hv rv=>?_
  refine oEA (hl'.getA j2) λu hu ru=>?_
  exact ih rv ru (h1 j v u hv hu)
 have e1:=RcAt.tuples ht.isTuple ht'.isTuple hu each
 have e2:=RcNeAt.tuples ht.isTuple ht'.isTuple hu each
 rw[hz,Nat.min_self,beq_self_eq_true,Bool.and_true,←hz,←z1,←h2] at e1 e2
 exact⟨e1,e2⟩
theorem w3{n:Nat}{vs us:List V}{r:Bool}{A:Around}{a b:Addr}{items items2:Array Value}(hu:A.units+1<cLine)
  (ih:∀{v u:V}{q:Bool}{x y:Value},Rel B ρ s.heap v x→Rel B ρ s.heap u y→eqv C n v u=some q→EqAt A.in1 s x y q)
  (hx:exL s.heap a items) (hx2:exL s.heap b items2) (hl:RelL B ρ s.heap vs items.toList) (hl2:RelL B ρ s.heap us items2.toList) (e:(if vs.length=us.length then eqs (eqv C n) vs us else some false)=some r) :
  RcAt A s (.ref a) (.ref b) r∧RcNeAt A s (.ref a) (.ref b) (!r):=by
 have z1:=hl.length.trans Ce
 have z2:=hl2.length.trans Ce
 by_cases hlen:vs.length=us.length
 ·rw[if_pos hlen] at e
  refine xJ (rj e) λxx f h1 h2=>?_
  have hz:items.size=items2.size:=by lia
  have each:∀j (h1:j<items.size) (h2:j<items2.size),EqAt A.in1 s items[j] items2[j] (f j):=λj j1 j2=>by
   refine oEA (hl.getA j1) λv hv rv=>?_
   refine oEA (hl2.getA j2) λu hu ru=>?_
   exact ih rv ru (h1 j v u hv hu)
  have e1:=RcAt.lists hx.isList hx2.isList hz (by exact Nat.lt_of_succ_lt hu:A.units<cLine) each
  have e2:=RcNeAt.lists hx.isList hx2.isList hz (by exact Nat.lt_of_succ_lt hu:A.units<cLine) each
  rw[←z1,←h2] at e1 e2
  exact⟨e1,e2⟩
 ·rw[if_neg hlen] at e
  refine cS1 e ?_
  have hz:(items.size != items2.size)=true:=by simp;lia
  exact⟨RcAt.lists_lengths hx.isList hx2.isList hz ((Nat.lt_of_succ_lt hu)),RcNeAt.lists_lengths hx.isList hx2.isList hz ((Nat.lt_of_succ_lt hu))⟩
noncomputable abbrev wF(C:CH)(n:Nat)(o o':Option O):Option Bool:=match o,o' with
  |some (.list xs),some (.list ys)=>if xs.length=ys.length then eqs (eqv C n) xs ys else some false
  |some (.dict es),some (.dict fs)=>if bL es fs then(if es.length=fs.length then eqd (eqv C n) fs es else some false) else none
  |_,_=>none
set_option smartUnfolding false in
theorem vP(S:St prog w B ρ C s)(n:Nat):∀{a b:V}{r:Bool}{x y:Value}{A:Around},A.units+n+1<cLine→eqv C n a b=some r→Rel B ρ s.heap a x→Rel B ρ s.heap b y→
  RcAt A s x y r∧RcNeAt A s x y (!r):=by
 induction n with
 |zero=>intro a b r x y A hu e _ _;exact nos e
 |succ n IH=>
  intro a b r x y A hu e ha hb
  have ih:∀{v u:V}{q:Bool}{x y:Value},Rel B ρ s.heap v x→Rel B ρ s.heap u y→eqv C n v u=some q→EqAt A.in1 s x y q:=λ{v u q x y} hv hu' hq=>
   EqAt.ofRc (hv.noFloat) (λhxy=>by subst hxy;exact nL S.hr n hv hu' hq) (IH (A:=A.in1) (by change A.units+1+n+1<cLine;lia) hq hv hu').1
  have hu1:A.units+1<cLine:=B7 (Nat.add_lt_add_of_le_of_lt (Cw _ _) (Nat.lt_succ_self _)) (Nat.succ_le_of_lt hu)
  induction a using V.casesOn with
  |int i=>induction b using V.casesOn with
   |int j=>
    refine ha.intE λt=>hb.intE λu=>?_
    refine cS1 e ?_
    exact⟨λprog w E Q h=>PyProof.Rows.eq_int (by show ms;exact h),λprog w E Q h=>PyProof.Rows.ne_int (by show(show(i != j)=!(i==j) from rfl);show ms;exact h)⟩
   |_=>exact nos e
  |str i=>induction b using V.casesOn with
   |str j=>
    refine ha.strE λt=>hb.strE λu=>?_
    refine cS1 e ?_
    exact⟨λprog w E Q h=>PyProof.Rows.eq_str (by show rM;exact h),λprog w E Q h=>PyProof.Rows.ne_str (by show(show(i != j)=!(i==j) from rfl);show rM;exact h)⟩
   |_=>exact nos e
  |tup vs=>induction b using V.casesOn with
   |tup us=>exact ha.tupE λa items ht hl=>hb.tupE λb items2 ht' hl'=>zq (Nat.lt_of_succ_lt hu1) ih ht ht' hl hl' e
   |_=>exact nos e
  |cell c=>induction b using V.casesOn with
   |cell d=>
    refine ha.cellE λa ec=>hb.cellE λb ed=>?_
    replace e:wF C n (at? C c) (at? C d)=some r:=e
    cases hc:at? C c with
    |none=>rw[hc] at e;exact nos e
    |some o=>cases hd:at? C d with
     |none=>rw[hc,hd] at e;cases o<;>exact nos e
     |some o'=>
      rw[hc,hd] at e
      refine oE (mC hc) λk hc=>?_
      refine oE (mC hd) λk' hd=>?_
      induction o using O.casesOn with
      |list vs=>induction o' using O.casesOn with
       |dict _=>exact nos e
       |list us=>
        refine cv (aN S.hr hc ec) λitems hx hl xx=>?_
        refine cv (aN S.hr hd ed) λitems2 hx2 hl2 xx=>?_
        exact w3 hu1 ih hx hx2 hl hl2 e
      |dict es=>induction o' using O.casesOn with
       |list _=>exact nos e
       |dict fs=>
        refine kI e λhos e=>?_
        refine bJ (aJ S.hr hc ec) λoa das epa hoa xa hda ena xx xx xx=>?_
        refine bJ (aJ S.hr hd ed) λob dbs epb hob xb hdb enb xx ndb xx=>?_
        exact xn (f:=eqv C n) hu1 (sP S ec) (sP S ed) hoa xa hda hob xb hdb (λxx yy=>ena.any) (λxx yy=>enb.any) ndb (mY hos) ih e
   |_=>exact nos e
  |_=>exact nos e
end
end
section
open PySem.MeetsSeq PySem.MeetsSeq2 PySem.MeetsSeq3 PySem.SeqAt
open AutoSeq1 (wpAny_loadPart')
section
variable {prog':Program}{w w':World}{B:Heap}{ρ ρ':List Addr}{C C':CH}{s s':Shared}{A:Around}{n:Nat}{E:Value→Shared→Prop}
theorem IntsAre.len{xs:List Value}{l:List Int}(h:IntsAre xs l):xs.length=l.length:=by
 induction h with
 |nil=>exact rfl
 |cons _ _ _ ih=>exact congrArg Nat.succ ih
set_option maxHeartbeats 1000000 in
theorem j8(l b:Addr)(items items2:Array Value)(n n2:Nat)(dd dd2:Option Addr)(sl sl2:Array (Option Value))(xs ys:List Int)(hx:IntsAre items.toList xs)(hy:IntsAre items2.toList ys):
  Meets (Builtin.«tuple.__gt__» ⟨[.ref l,.ref b],[]⟩)
   (λA R s=>And3 (s.heap.get? l=some { cls:=.type "tuple",dict:=dd,data:=.seq items n,slots:=sl }) (s.heap.get? b=some { cls:=.type "tuple",dict:=dd2,data:=.seq items2 n2,slots:=sl2 }) (R (.ok (.ret (.bool (bI xs ys)))) s)):=
 .of_wp λprog w A R s h=>by
  obtain⟨hp,g,d,tk,os⟩:=s;refine oa3 h λhl hb h=>?_
  have f2:=AutoSeq1.sub_tuple_tuple
  wp_walk using wpAny_loadPart' hl,wpAny_loadPart' hb,wpAny_forIn_list _ (λrest b s'=>And3 (b.1=none) (s'=⟨hp,g,d,tk,os⟩) (∃(vs us:List Value) (x y:List Int) (k:Nat),And6 (rest=vs.zip us) (IntsAre vs x) (IntsAre us y) (vs.length+k=items.size) (us.length+k=items2.size) (R (.ok (.ret (.bool (bI x y)))) ⟨hp,g,d,tk,os⟩))) _
  case turn=>
   rintro⟨y,x⟩ rest b s' ⟨hb',rfl,vs,us,l1,l2,k,hz,h1,h2,h3,h4,hR⟩
   cases h1 with
   |nil=>injection hz
   |cons p t h1=>
   cases h2 with
   |nil=>injection hz
   |cons q u h2=>
   rw[List.zip_cons_cons] at hz
   injection hz with hyx hrest
   injection hyx with e1 e2
   subst e1 e2
   refine B1 (EqGives.int p q t u _ _ _ _ _ _ ?_)
   unfold bI at hR
   by_cases hpq:p=q
   ·rw[if_pos hpq] at hR
    have:(p==q)=true:=decide_eq_true ‹_›
    show this
    wp_walk
    refine⟨rfl,rfl,_,_,_,_,k+1,hrest,h1,h2,?_,?_,hR⟩
    ·simp only[List.length_cons] at h3;lia
    ·simp only[List.length_cons] at h4;lia
   ·rw[if_neg hpq] at hR
    have:(p==q)=false:=decide_eq_false ‹_›
    show this
    refine B1 (wpAny_rule ?_)
    refine B1 (show wpAny (model prog w) _ (compareOp .Gt (.int p t) (.int q u)) _ _ _ from PySem.P.gt_int ?_)
    refine B1 (B2 (B2 (B2 ⟨_,rfl,?_⟩)))
    simpa using hR
  case fin=>
   rintro⟨b1,b2⟩ s' ⟨hb',rfl,vs,us,l1,l2,k,hz,h1,h2,h3,h4,hR⟩
   simp only at hb'
   show hb'
   wp_walk
   refine iEA _ rfl ?_
   have:bI l1 l2=decide (items.size > items2.size):=by
    cases h1 with
    |nil=>
     simp only[List.length_nil] at h3
     cases l2<;>(unfold bI;symm;simp;lia)
    |cons p t h1=>
     cases h2 with
     |nil=>
      simp only[List.length_nil,List.length_cons] at h3 h4
      unfold bI;symm;simp;lia
     |cons q u h2=>injection hz
   rw[this] at hR
   simpa [Builtin.Tuple.tupleCompareSizes] using hR
  case h=>
   exact⟨rfl,rfl,_,_,xs,ys,0,rfl,hx,hy,by simp,by simp,h⟩
noncomputable def Ah(i:Int):Value→Bool:=λy=>match y with|.int j _=>decide (j=i)|_=>false
theorem tO{i:Int}{xs:List Value}{l:List Int}(h:IntsAre xs l):xs.any (Ah i)=l.any λj=>decide (j=i):=by
 induction h with
 |nil=>rfl
 |cons j u r ih=>exact congrArg (decide (j=i) || ·) ih
theorem sw(R:Rm A (n+1))(S:St prog w B ρ C s){a b:V}{r:Bool}{x y:Value}(ha:Rel B ρ s.heap a x)(hb:Rel B ρ s.heap b y)(e:yv a b C=some (r,C')){Q:Bool→Shared→Prop}(h:C'=C→∀tk,Q r { s with toks:=tk }):
  wpAny (model prog w) A (contains y x) Q EF s:=by
 have hu:=R.un
 induction b using V.casesOn with
 |cell c=>
  refine hb.cellE λb eb=>bo e λo₁ k₁ q₁ e=>?_
  induction o₁ using O.casesOn with
  |list _=>exact nos e
  |dict es=>
   cases hk:V.key a with
   |none=>rw[hk] at e;exact nos e
   |some k=>
    rw[hk] at e
    refine kI e λhs e=>?_
    refine cSp e λzx zy=>?_;clear e;subst zx zy
    exact xj (by change A.units+1<cLine;exact R.lt 1 rfl) S q₁ eb hs (gv hk ha) (λtk=>h rfl tk)
 |tup vs=>induction a using V.casesOn with
  |int i=>
   cases hi:V.ints vs with
   |none=>unfold yv at e;simp only[hi] at e;exact nos e
   |some l=>
    unfold yv at e;simp only[hi] at e
    refine oA (mr e) λh1 h2=>?_
    refine hb.tupE λb items ht hl=>ha.intE λt=>?_
    have hI:=hl.ints hi
    obtain⟨⟨cls,dd,data,sl⟩,ho,hc,m,hd⟩:=ht.isTuple
    simp only at hc hd
    subst hc hd
    have hall:∀y,y∈items→EqAt A.in1 s y (.int i t) (Ah i y):=λy hy=>by
     refine oEE (hI.all y (Array.mem_toList_iff.mpr hy)) λj u zr0=>?_;show zr0
     have:=(EqGives.int j i u t).at A.in1 s
     rw[ms] at this
     exact this
    have hany:items.any (Ah i)=l.any λj=>decide (j=i):=by refine rL (Array.any_toList ..) ?_;exact tO hI
    refine wpAny_contains_slot ⟨_,ho,rfl⟩ F.slot_tuple_contains (call_meets F.slot_tuple_contains ⟨_,ho,rfl⟩ F.entry_tuple_contains (F.args_tuple_contains_2 _ _) (tuple_containsAt _ items m dd sl _ (Ah i)) ⟨ho,hall,?_⟩)
    exact wpAny_truthy_bool (by show hany;show h2;exact h h1 s.toks)
  |_=>exact nos e
 |_=>exact nos e
end
end
section
open PySem.MeetsSeq PySem.MeetsSeq2 PySem.MeetsSeq3 PySem.SeqAt
section
variable {prog':Program}{w w':World}{B:Heap}{ρ ρ':List Addr}{C C':CH}{s s':Shared}{A:Around}{n:Nat}{E:Value→Shared→Prop}
abbrev QB(C:CH)(s:Shared)(r:Bool)(C':CH)(z:Value)(s':Shared):Prop:=And3 (z=.bool r) (C'=C) (∃tk,s'={ s with toks:=tk })
theorem QB.now{r:Bool}:QB C s r C (.bool r) s:=⟨rfl,rfl,s.toks,rfl⟩
theorem yN(R:Rm A (n+1)){vs us:List V}{a b:Addr}{items items':Array Value}{l1 l2:List Int}(ht:exT s.heap a items)(ht':exT s.heap b items')(hl:RelL B ρ s.heap vs items.toList)(hl':RelL B ρ s.heap us items'.toList)
  (h1:V.ints vs=some l1) (h2:V.ints us=some l2):wpAny (model prog w) A (compareOp .Gt (.ref a) (.ref b)) (QB C s (bI l1 l2) C) EF s:=by
 have hu:=R.un
 obtain⟨⟨cls,dd,data,sl⟩,ho,hc,m,hd⟩:=ht.isTuple
 obtain⟨⟨cls2,dd2,data2,sl2⟩,ho2,hc2,m2,hd2⟩:=ht'.isTuple
 simp only at hc hd hc2 hd2
 subst hc hd hc2 hd2
 exact richCompare_meets_room (op:=.Gt) ⟨_,ho,rfl⟩ ⟨_,ho2,rfl⟩ F.slot_tuple_gt F.entry_tuple_gt (F.args_tuple_gt_2 _ _) (j8 _ _ items items' m m2 dd dd2 sl sl2 l1 l2 (hl.ints h1) (hl'.ints h2))
  ⟨ho,ho2,show Value.bool (bI l1 l2)≠Value.notImplemented∧_ from⟨(λx=>nomatch x),.now⟩⟩ ((Nat.lt_of_add_right_lt (Nat.lt_of_add_right_lt hu)))
set_option smartUnfolding false in
theorem vg(R:Rm A (n+1))(S:St prog w B ρ C s){op:CmpOp}{a b:V}{r:Bool}{x y:Value}(ha:Rel B ρ s.heap a x)(hb:Rel B ρ s.heap b y)(e:cmp op a b C=some (r,C')):
  wpAny (model prog w) A (compareOp op x y) (QB C s r C') EF s:=by
 have hu:=R.un
 induction op using PySem.CmpOp.casesOn with
 |Eq=>refine nA e λq hq e=>?_;refine cS2 e ?_;exact(vP S 6 ((R.lt 7 rfl)) hq ha hb).1 prog w _ _ .now
 |NotEq=>refine nA e λq hq e=>?_;refine cS2 e ?_;exact(vP S 6 ((R.lt 7 rfl)) hq ha hb).2 prog w _ _ .now
 |Lt=>induction a using V.casesOn with
  |int i=>induction b using V.casesOn with
   |int j=>exact ha.intE λxx=>hb.intE λxx=>iv e (PySem.P.lt_int .now)
   |_=>exact nos e
  |_=>exact nos e
 |LtE=>induction a using V.casesOn with
  |int i=>induction b using V.casesOn with
   |int j=>exact ha.intE λxx=>hb.intE λxx=>iv e (PySem.P.le_int .now)
   |_=>exact nos e
  |_=>exact nos e
 |Gt=>induction a using V.casesOn with
  |int i=>induction b using V.casesOn with
   |int j=>exact ha.intE λxx=>hb.intE λxx=>iv e (PySem.P.gt_int .now)
   |_=>exact nos e
  |tup vs=>induction b using V.casesOn with
   |tup us=>
    cases h1:V.ints vs with
    |none=>exact nos ((congrArg (λo:Option (List Int)=>(match o,V.ints us with|some l,some m=>ok (bI l m)|_,_=>no) C) h1.symm).trans e)
    |some l1=>cases h2:V.ints us with
     |none=>exact nos ((congr (congrArg (λo o':Option (List Int)=>(match o,o' with|some l,some m=>ok (bI l m)|_,_=>no) C) h1.symm) h2.symm).trans e)
     |some l2=>
      replace e:=(congr (congrArg (λo o':Option (List Int)=>(match o,o' with|some l,some m=>ok (bI l m)|_,_=>no) C) h1.symm) h2.symm).trans e
      exact ha.tupE λa items ht hl=>hb.tupE λb items' ht' hl'=>iv e (yN R ht ht' hl hl' h1 h2)
   |_=>exact nos e
  |_=>exact nos e
 |Is=>induction a using V.casesOn with
  |nn=>induction b using V.casesOn with
   |nn=>exact ha.nnE (hb.nnE (iv e (wpAny_is_self rfl .now)))
   |_=>exact nos e
  |tup vs=>induction b using V.casesOn with
   |nn=>exact ha.tupE λxx yy zz ww=>hb.nnE (iv e (wpAny_is_other rfl (λx=>nomatch x) .now))
   |_=>exact nos e
  |cell c=>induction b using V.casesOn with
   |nn=>exact ha.cellE λxx yy=>hb.nnE (iv e (wpAny_is_other rfl (λx=>nomatch x) .now))
   |_=>exact nos e
  |_=>exact nos e
 |IsNot=>induction a using V.casesOn with
  |nn=>induction b using V.casesOn with
   |nn=>exact ha.nnE (hb.nnE (iv e (wpAny_isNot_self rfl .now)))
   |_=>exact nos e
  |tup vs=>induction b using V.casesOn with
   |nn=>exact ha.tupE λxx yy zz ww=>hb.nnE (iv e (wpAny_isNot_other rfl (λx=>nomatch x) .now))
   |_=>exact nos e
  |cell c=>induction b using V.casesOn with
   |nn=>exact ha.cellE λxx yy=>hb.nnE (iv e (wpAny_isNot_other rfl (λx=>nomatch x) .now))
   |_=>exact nos e
  |_=>exact nos e
 |In=>
  change wpAny _ A (do return Value.bool (←contains y x)) _ _ s
  exact B1 (sw R S ha hb e λhC tk=>B2 ⟨rfl,hC,tk,rfl⟩)
 |NotIn=>
  refine bc e λq C₁ h1 h2=>iv h2 ?_
  change wpAny _ A (do return Value.bool (!(←contains y x))) _ _ s
  exact B1 (sw R S ha hb h1 λhC tk=>B2 ⟨rfl,hC,tk,rfl⟩)
 |_=>exact nos e
end
end
structure Tp(B:Heap)(mg mb:Str→Option Value):Prop where
 g:B.Ns mainGlobals mg
 b:B.Ns builtinsNs mb
 nolimit:B.NoLimit
 fn:∀f d,fn? f=some d→Ex5 λa o pm code doc=>And4 (mg f=some (.ref a)) (B.get? a=some o) (o.data=.func (PySem.Calls.docDef d.name d.params d.body d.scope pm code doc)) (B.CodeRec code d.name)
 miss:∀f,f∈(["len","abs","sum","max","tuple","list","dict","sorted","range","enumerate","reversed"]:List Str)→mg f=none
 built:∀x:Str,x≠"__name__"→mb x=bootBuiltins x
 r0:Ex2 λa items=>And3 (mg "R0" = some (.ref a)) (exT B a items) (IntsAre items.toList [0,1])
theorem fi{x y:Str}(h:seq x y=false):(x==y)=false:=by
 show propext (beq_eq_false_iff_ne ..)
 intro e
 subst e
 rw[fM] at h;exact cTf h
theorem o1{x:Str}(h:eW x=false):(x==("__debug__" : Str))=false∧(x==("__classdict__" : Str))=false:=by
 unfold eW at h
 rw[Bool.or_eq_false_iff] at h
 exact⟨fi h.1,fi h.2⟩
theorem kw(x:B.Ns mainGlobals mg)(S:St prog w B ρ C s):s.heap.Ns mainGlobals mg:=by refine jk x λo es ep h r=>?_;exact oU o es ep (S.base _ _ h) r
theorem j5(x:B.Ns builtinsNs mb)(S:St prog w B ρ C s):s.heap.Ns builtinsNs mb:=by refine jk x λo es ep h r=>?_;exact oU o es ep (S.base _ _ h) r
theorem RelL.ofInts{h:Heap}{xs:List Value}{l:List Int}(x:IntsAre xs l):RelL B ρ h (l.map .int) xs:=by
 induction x with
 |nil=>exact .nil
 |cons i t r ih=>exact .cons (.int i t) ih
theorem exT.base{a:Addr}{items:Array Value}(x:exT B a items)(S:St prog w B ρ C s):exT s.heap a items:=by refine oE x λn e=>?_;exact⟨n,S.base _ _ e⟩
theorem jb(T:Tp B mg mb)(S:St prog w B ρ C s)(F:Fm B ρ sc env σ s m cm){x:Str}{v:V}{pos:Pos}(e:eE sc x σ=some v):
  wpAny (model prog w) A (eval (.Name x pos) env) (QV prog w B ρ C s v C) EF s:=by
 unfold eE at e
 cases ho:eW x with
 |true=>rw[ho] at e;exact cNo e
 |false=>
 refine oA (o1 ho) λhd hc=>?_
 cases hk:aR sc x with
 |none=>rw[ho,hk] at e;exact cNo e
 |some k=>
 have hkk:=F.kinds x k hk
 rw[ho,hk] at e
 cases k with
 |«local»=>
  refine oEA ((F.var x v e).1 hkk) λy h1 h2=>?_
  exact wpAny_Name (wpAny_loadName_local F.fn hkk F.ns h1 (QV.self S h2)) hd
 |cell=>
  refine oEA ((F.var x v e).2 (.inl hkk)) λy h1 h2=>?_
  refine oE (F.bound x (.inl hkk)) λc hcl=>?_
  exact wpAny_Name (wpAny_loadName_cell F.fn hkk hcl (h1▸F.cel x c hcl) (QV.self S h2)) hd
 |free=>
  refine oEA ((F.var x v e).2 hkk) λy h1 h2=>?_
  refine oE (F.bound x hkk) λc hcl=>?_
  rcases hkk with hkk|hkk
  ·exact wpAny_Name (wpAny_loadName_cell F.fn hkk hcl (h1▸F.cel x c hcl) (QV.self S h2)) hd
  ·exact wpAny_Name (wpAny_loadName_free F.fn hkk hcl (h1▸F.cel x c hcl) (QV.self S h2) hc) hd
 |globalImplicit=>
  cases hq:seq x "R0" with
  |false=>rw[hq] at e;exact cNo e
  |true=>
   rw[hq] at e
   refine cSo e λzx=>?_;clear e;subst zx
   obtain rfl:=aQ hq
   refine A5 T.r0 λa items h1 h2 h3=>?_
   exact Calls.Name_function_global F.fn hkk (Calls.loadGlobal_global (F.glob▸kw T.g S) h1 (QV.self S (.tup (h2.base S) (RelL.ofInts h3)))) hd
 |globalExplicit=>simp only at e;exact cNo e
noncomputable def Wf(env:PySem.Env):Addr→Prop:=λa=>a=env.locals∨∃x,env.cells.lookup x=some a
theorem Fm.noSeq(F:Fm B ρ sc env σ s m cm):b8 (Wf env) s:=by
 rintro a (rfl|⟨x,hx⟩) items ⟨n,ht⟩
 ·refine iu F.ns λo es ep ho hd xx=>?_
  rw[ht] at ho;refine cSo ho λzx=>?_;clear ho;subst zx;injection hd
 ·refine oEA (F.cel x a hx) λo ho hd=>?_
  rw[ht] at ho;refine cSo ho λzx=>?_;clear ho;subst zx;injection hd
theorem Fm.noBase(F:Fm B ρ sc env σ s m cm):∀a,Wf env a→B.get? a=none:=by
 rintro a (rfl|⟨x,hx⟩)
 ·exact F.offL.2
 ·exact(F.offC x a hx).2
theorem St.write(S:St prog w B ρ C s){W:Addr→Prop}{a:Addr}(hW:W a)(hn:b8 W s)(hB:∀b,W b→B.get? b=none)(ha:a∉ρ){h':Heap}{tk:Nat}(sb:∀b o,b≠a→s.heap.get? b=some o→h'.get? b=some o)(hl:∃o,h'.get? a=some o):
  St prog w B ρ C { s with heap:=h',toks:=tk }∧Keep W ρ C s ρ C { s with heap:=h',toks:=tk }:=by
 have hne:∀{d:Nat}{b},ρ[d]?=some b→b≠a:=λ{d b} hd e=>ha (e▸List.mem_of_getElem? hd)
 have K:Keep W ρ C s ρ C { s with heap:=h',toks:=tk }:=
  ⟨λb o e hb hw=>sb b o (λq=>hw (q▸hW)) e,λd q b e eb=>⟨q,e,Cj _,λxx=>⟨rfl,λo eo=>sb b o (hne eb) eo⟩⟩,λxx h h'=>absurd h h',List.prefix_refl _,
   λb o e=>by
    by_cases hb:b=a
    ·show hb;exact hl
    ·exact⟨o,sb b o hb e⟩,rfl⟩
 exact⟨S.step K hn hB S.hr.len S.hr.nodup (λd q b e eb=>.inl ⟨eb,e,λo eo=>sb b o (hne eb) eo⟩) S.off S.gens,K⟩
inductive QFW(W:Addr→Prop)(prog:Program)(w:World)(B:Heap)(ρ:List Addr)(C:CH)(s:Shared)(sc:Scope)(env:PySem.Env)(σ':Env)(C':CH)(s':Shared):Prop
 |mk (ρ':List Addr) (m' cm':Str→Option Value) (S:St prog w B ρ' C' s') (K:Keep W ρ C s ρ' C' s') (F:Fm B ρ' sc env σ' s' m' cm')
theorem QFW.un{W:Addr→Prop}{w:World}{B:Heap}{ρ:List Addr}{C C':CH}{s s':Shared}{sc:Scope}{env:PySem.Env}{σ':Env}{P:Prop}(q:QFW W prog w B ρ C s sc env σ' C' s')(k:∀ρ' m' cm',St prog w B ρ' C' s'→Keep W ρ C s ρ' C' s'→Fm B ρ' sc env σ' s' m' cm'→P):P:=by cases q with|mk a b c d e f=>exact k a b c d e f
structure Wr(sc:Scope)(env:PySem.Env)(W:Addr→Prop):Prop where
 sub:∀a,W a→Wf env a
 loc:W env.locals
 cel:∀x c,aM sc x=true→env.kindOf x=some .cell→env.cells.lookup x=some c→W c
theorem Wr.all{sc:Scope}{env:PySem.Env}:Wr sc env (Wf env):=⟨λxx h=>h,.inl rfl,λx c xx yy h=>.inr ⟨x,h⟩⟩
abbrev QF(prog:Program)(w:World)(B:Heap)(ρ:List Addr)(C:CH)(s:Shared)(sc:Scope)(env:PySem.Env)(σ':Env)(C':CH)(s':Shared):Prop:=
 QFW (Wf env) prog w B ρ C s sc env σ' C' s'
theorem lookE_cons{x y:Str}{v u:V}(h:af y ((x,v)::σ)=some u):(y=x∧u=v)∨(y≠x∧af y σ=some u):=by
 unfold af at h
 cases hq:seq y x with
 |true=>rw[hq] at h;refine cS1 h ?_;exact .inl ⟨aQ hq,rfl⟩
 |false=>rw[hq] at h;exact .inr ⟨beq_eq_false_iff_ne.mp (fi hq),h⟩
theorem ownName_kind(F:Fm B ρ sc env σ s m cm){x:Str}(h:aM sc x=true):env.kindOf x=some .local∨env.kindOf x=some .cell:=by
 unfold aM at h
 cases hk:aR sc x with
 |none=>rw[hk] at h;exact cFt h
 |some k=>
  rw[hk] at h
  cases k<;>first|exact cFt h;done|skip
  ·exact .inl (F.kinds x _ hk)
  ·exact .inr (F.kinds x _ hk)
theorem kA{W:Addr→Prop}(hW:Wr sc env W)(S:St prog w B ρ C s)(F:Fm B ρ sc env σ s m cm){x:Str}{v:V}{y:Value}(hx:aM sc x=true)(r:Rel B ρ s.heap v y):
  wpAny (model prog w) A (storeName env x y) (λxx s'=>QFW W prog w B ρ C s sc env ((x,v)::σ) C s') EF s:=by
 have nsq:b8 W s:=λa ha=>F.noSeq a (hW.sub a ha)
 have nbs:∀a,W a→B.get? a=none:=λa ha=>F.noBase a (hW.sub a ha)
 rcases ownName_kind F hx with hk|hk
 ·refine wpAny_storeName_local hk F.ns (λh' hn hsb=>?_) (by show F.fn;rfl)
  refine oA (S.write (tk:=s.toks+1) (h':=h') (W:=W) hW.loc nsq nbs F.offL.1 (λb o hb e=>hsb.extBut b o hb e) (by obtain⟨o,_,_,h,_⟩:=hn;exact⟨o,h⟩)) λS' K=>?_
  refine⟨ρ,_,cm,S',K,{ fn:=F.fn,glob:=F.glob,blt:=F.blt,kinds:=F.kinds,ns:=hn,cel:=λz c e=>?_,bound:=F.bound,apart:=F.apart,offL:=F.offL,offC:=F.offC,var:=λz u e=>?_ }⟩
  ·exact(F.cel z c e).sameBut hsb (F.offC z c e).3
  ·rcases lookE_cons e with⟨rfl,rfl⟩|⟨hz,e⟩
   ·refine⟨λxx=>⟨y,by show if_pos rfl;rfl,Rel.keep K S.hr nsq r⟩,λh=>?_⟩
    rw[hk] at h
    rcases h with h|h<;>(refine cSo h λzx=>?_;clear h;injection zx)
   ·refine⟨λh=>?_,λh=>?_⟩
    ·refine oEA ((F.var z u e).1 h) λy' h1 h2=>?_
     exact iEA y' (by show if_neg hz;exact h1) (Rel.keep K S.hr nsq h2)
    ·refine oEA ((F.var z u e).2 h) λy' h1 h2=>?_
     exact iEA y' h1 (Rel.keep K S.hr nsq h2)
 ·refine oE (F.bound x (.inl hk)) λc hc=>?_
  refine wpAny_storeName_cell F.fn hk hc (F.cel x c hc) (λh' hn hsb=>?_)
  refine oA (S.write (tk:=s.toks) (h':=h') (W:=W) (hW.cel x c hx hk hc) nsq nbs (F.offC x c hc).1 (λb o hb e=>hsb.extBut b o hb e) (by obtain⟨o,h,_⟩:=hn;exact⟨o,h⟩)) λS' K=>?_
  refine⟨ρ,m,λz=>if z=x then some y else cm z,S',K,{ fn:=F.fn,glob:=F.glob,blt:=F.blt,kinds:=F.kinds,ns:=?_,cel:=λz d e=>?_,bound:=F.bound,apart:=F.apart,offL:=F.offL,offC:=F.offC,var:=λz u e=>?_ }⟩
  ·refine jk F.ns λo es ep ho q=>?_
   exact oU o es ep (hsb.extBut _ _ (Ne.symm (F.offC x c hc).3) ho) q
  ·by_cases hz:z=x
   ·subst hz
    rw[hc] at e;refine cS1 e ?_
    simpa using hn
   ·have hdc:d≠c:=λh=>hz (F.apart z x d e (h▸hc))
    simp only[hz,if_false]
    exact(F.cel z d e).sameBut hsb hdc
  ·rcases lookE_cons e with⟨rfl,rfl⟩|⟨hz,e⟩
   ·refine⟨λh=>?_,λh=>⟨y,by show if_pos rfl;rfl,Rel.keep K S.hr nsq r⟩⟩
    rw[hk] at h;refine cSo h λzx=>?_;clear h;injection zx
   ·refine⟨λh=>?_,λh=>?_⟩
    ·refine oEA ((F.var z u e).1 h) λy' h1 h2=>?_
     exact iEA y' h1 (Rel.keep K S.hr nsq h2)
    ·refine oEA ((F.var z u e).2 h) λy' h1 h2=>?_
     exact iEA y' (by show if_neg hz;exact h1) (Rel.keep K S.hr nsq h2)
section
variable (prog:Program)(w:World)(B:Heap)(mg mb:Str→Option Value)
def uD(f:Str)(fv:Value):Prop:=(∃d,fn? f=some d∧mg f=some fv)∨(fn? f=none∧bootBuiltins f=some fv)
def o8(f:Str):Prop:=(∃d,fn? f=some d)∨(fn? f=none∧f∈(["len","abs","sum","max","tuple","list","dict"]:List Str))
structure Snd(E:Ev)(k:Nat):Prop where
 expr:∀{sc:Scope}{e:Expr}{σ:Env}{C:CH}{v:V}{C':CH},E.expr sc e σ C=some (v,C')→∀{A:Around}{ρ:List Addr}{s:Shared}{env:PySem.Env}{m cm:Str→Option Value},
  Rm A k→St prog w B ρ C s→Fm B ρ sc env σ s m cm→wpAny (model prog w) A (eval e env) (QV prog w B ρ C s v C') EF s
 test:∀{sc:Scope}{e:Expr}{σ:Env}{C:CH}{r:Bool}{C':CH},E.test sc e σ C=some (r,C')→∀{A:Around}{ρ:List Addr}{s:Shared}{env:PySem.Env}{m cm:Str→Option Value},
  Rm A k→St prog w B ρ C s→Fm B ρ sc env σ s m cm→wpAny (model prog w) A (isTrue e env (eval e env)) (λb s'=>b=r∧QU prog w B ρ C s C' s') EF s
 stmt:∀{sc:Scope}{st:Stmt}{σ:Env}{C:CH}{fl:Fl}{σ':Env}{C':CH},E.stmt sc st σ C=some ((fl,σ'),C')→∀{A:Around}{ρ:List Addr}{s:Shared}{env:PySem.Env}{m cm:Str→Option Value},
  Rm A k→St prog w B ρ C s→Fm B ρ sc env σ s m cm→wpAny (model prog w) A (exec st env) (λf s'=>match fl with
   |.next=>f=.next∧QF prog w B ρ C s sc env σ' C' s'
   |.cont=>f=.cont∧QF prog w B ρ C s sc env σ' C' s'
   |.ret v=>∃y,f=.ret y∧Ex3 λρ' m' cm'=>And4 (St prog w B ρ' C' s') (Keep (Wf env) ρ C s ρ' C' s') (Fm B ρ' sc env σ' s' m' cm') (Rel B ρ' s'.heap v y)) EF s
 call:∀{f:Str}{args:List V}{C:CH}{v:V}{C':CH},E.call f args C=some (v,C')→∀{A:Around}{ρ:List Addr}{s:Shared}{ys:List Value}{fv:Value},
  Rm A k→St prog w B ρ C s→RelL B ρ s.heap args ys→uD mg f fv→wpAny (model prog w) A (call fv ys) (QV prog w B ρ C s v C') EF s
 use:∀{sc:Scope}{e:Expr}{σ:Env}{C:CH}{v:V}{C':CH},E.expr sc e σ C=some (v,C')→qB e=true→∀{A:Around}{ρ:List Addr}{s:Shared}{env:PySem.Env}{m cm:Str→Option Value}{y:Str}{py:Pos},
  Rm A k→St prog w B ρ C s→Fm B ρ sc env σ s m cm→aM sc y=true→wpAny (model prog w) A (evalThenUse e env (assign (.Name y py) env)) (λxx s'=>QF prog w B ρ C s sc env ((y,v)::σ) C' s') EF s
 noSet:∀sc els kk p σ C,E.expr sc (.Set els kk p) σ C=none
 known:∀{f args C r},E.call f args C=some r→o8 f
end
theorem Rm.less(R:Rm A (n+1)):Rm A n:=⟨R.hd,by have:=R.dp;exact Nat.lt_of_succ_lt this,by have:=R.un;lia⟩
theorem QV.after(K:Keep W0 ρ C s ρ' C₁ s₁){v:V}{y:Value}(q:QV prog w B ρ' C₁ s₁ v C' y s'):QV prog w B ρ C s v C' y s':=q.un λρ₂ S K' r=>⟨ρ₂,S,K.trans K',r⟩
theorem QU.after(K:Keep W0 ρ C s ρ' C₁ s₁)(q:QU prog w B ρ' C₁ s₁ C' s'):QU prog w B ρ C s C' s':=q.un λρ₂ S K'=>⟨ρ₂,S,K.trans K'⟩
inductive QL(prog:Program)(w:World)(B:Heap)(ρ:List Addr)(C:CH)(s:Shared)(vs:List V)(C':CH)(ys:List Value)(s':Shared):Prop
 |mk (ρ':List Addr) (S:St prog w B ρ' C' s') (K:Keep W0 ρ C s ρ' C' s') (r:RelL B ρ' s'.heap vs ys)
theorem QL.un{vs:List V}{ys:List Value}{P:Prop}(q:QL prog w B ρ C s vs C' ys s')(k:∀ρ',St prog w B ρ' C' s'→Keep W0 ρ C s ρ' C' s'→RelL B ρ' s'.heap vs ys→P):P:=by cases q with|mk a b c d=>exact k a b c d
theorem tF(S:St prog w B ρ C s){c:Const}{x:Option Str}{p:Pos}{v:V}(e:mi c=some v){kk}:wpAny (model prog w) A (eval (.Constant c kk p) env) (QV prog w B ρ C s v C) EF s:=by
 induction c using PySem.Const.casesOn with
 |none=>refine cS1 e ?_;exact wpAny_Constant_none (QV.self S .nn)
 |bool b=>refine cS1 e ?_;exact wpAny_Constant_bool (QV.self S (.bool _))
 |int i=>refine cS1 e ?_;exact wpAny_Constant_int (QV.int S _ _ _)
 |str s=>refine cS1 e ?_;exact wpAny_Constant_str (QV.selfTok S (.str _ _) _)
 |_=>exact nos e
theorem yW(hB:B.NoLimit)(D:Snd prog w B mg E k)(R:Rm A k)(S:St prog w B ρ C s)(F:Fm B ρ sc env σ s m cm){l r:Expr}{op:Operator}{p:Pos}{v:V}
  (e:(bd (E.expr sc l σ) λa=>bd (E.expr sc r σ) λb=>dh op a b) C=some (v,C')):wpAny (model prog w) A (eval (.BinOp l op r p) env) (QV prog w B ρ C s v C') EF s:=by
 refine bc e λa C₁ e1 e=>?_
 refine bc e λb C₂ e2 e=>?_
 refine wpAny_BinOp (QV.go (D.expr e1 R S F) λx s₁ ρ₁ S₁ K₁ r₁=>?_)
 refine QV.go (D.expr e2 R S₁ (F.keep K₁ S)) λy s₂ ρ₂ S₂ K₂ r₂=>?_
 exact B3 (sR hB R S₂ (Rel.keep K₂ S₁.hr (aC _) r₁) r₂ e) (λz s₃ q=>QV.after K₁ (QV.after K₂ q)) λxx yy h=>h
theorem yZ(D:Snd prog w B mg E k)(R:Rm A k)(S:St prog w B ρ C s)(F:Fm B ρ sc env σ s m cm){x:Expr}{p:Pos}{v:V}
  (e:(bd (E.expr sc x σ) λa=>match a with|.int i=>ok (.int (-i))|_=>no) C=some (v,C')):wpAny (model prog w) A (eval (.UnaryOp .USub x p) env) (QV prog w B ρ C s v C') EF s:=by
 refine bc e λa C₁ e1 e=>?_
 refine wpAny_UnaryOp (QV.go (D.expr e1 R S F) λy s₁ ρ₁ S₁ K₁ r₁=>?_)
 induction a using V.casesOn with
 |int i=>exact r₁.intE λt=>iv e (PySem.P.neg_int (QV.after K₁ (QV.int S₁ _ _ _)))
 |_=>exact nos e
theorem AJ(D:Snd prog w B mg E k)(R:Rm A k)(S:St prog w B ρ C s)(F:Fm B ρ sc env σ s m cm){t b o:Expr}{p:Pos}{v:V}
  (e:(bd (E.test sc t σ) λc=>match c with|true=>E.expr sc b σ|false=>E.expr sc o σ) C=some (v,C')):wpAny (model prog w) A (eval (.IfExp t b o p) env) (QV prog w B ρ C s v C') EF s:=by
 refine bc e λa C₁ e1 e=>?_
 refine wpAny_IfExp (B3 (D.test e1 R S F) (λy s₁ ⟨hy,ρ₁,S₁,K₁⟩=>?_) λxx yy h=>h)
 subst hy
 induction y using Bool.casesOn with
 |true=>exact B3 (D.expr e R S₁ (F.keep K₁ S)) (λy s₂ q=>QV.after K₁ q) λxx yy h=>h
 |false=>exact B3 (D.expr e R S₁ (F.keep K₁ S)) (λy s₂ q=>QV.after K₁ q) λxx yy h=>h
theorem qR{E:Ev}{op:CmpOp}{r:Expr}{v:V}{C₁ C₂:CH}(hs:∀sc els kk p σ C,E.expr sc (.Set els kk p) σ C=none)(e:E.expr sc r σ C₁=some (v,C₂)):behindInMarks op r=false:=by
 induction r using PySem.Expr.casesOn with
 |Set _ _ _=>rw[hs] at e;exact cNo e
 |_=>rfl
theorem vH(D:Snd prog w B mg E (k+1))(R:Rm A (k+1))(S:St prog w B ρ C s)(F:Fm B ρ sc env σ s m cm){l r:Expr}{op:CmpOp}{p:Pos}{v:V}
  (e:(bd (E.expr sc l σ) λa=>bd (E.expr sc r σ) λb=>bd (cmp op a b) λt=>ok (.bool t)) C=some (v,C')):wpAny (model prog w) A (eval (.Compare l [op] [r] p) env) (QV prog w B ρ C s v C') EF s:=by
 refine bc e λa C₁ e1 e=>?_
 refine bc e λb C₂ e2 e=>?_
 refine bc e λt C₃ e3 e=>?_
 refine cS2 e ?_
 refine wpAny_Compare1 (QV.go (D.expr e1 R S F) λx s₁ ρ₁ S₁ K₁ r₁=>?_) (qR D.noSet e2)
 refine QV.go (D.expr e2 R S₁ (F.keep K₁ S)) λy s₂ ρ₂ S₂ K₂ r₂=>?_
 refine B3 (vg R S₂ (Rel.keep K₂ S₁.hr (aC _) r₁) r₂ e3) (λz s₃ q=>QV.after K₁ (QV.after K₂ ?_)) λxx yy h=>h
 obtain⟨rfl,rfl,tk,rfl⟩:=q
 exact QV.selfTok S₂ (.bool _) tk
theorem vM(D:Snd prog w B mg E (k+1))(R:Rm A (k+1))(S:St prog w B ρ C s)(F:Fm B ρ sc env σ s m cm){l r:Expr}{op:CmpOp}{p:Pos}{t:Bool}{whole:Sem Value}
  (e:(bd (E.expr sc l σ) λa=>bd (E.expr sc r σ) λb=>cmp op a b) C=some (t,C')):wpAny (model prog w) A (isTrue (.Compare l [op] [r] p) env whole) (λb s'=>b=t∧QU prog w B ρ C s C' s') EF s:=by
 refine bc e λa C₁ e1 e=>?_
 refine bc e λb C₂ e2 e=>?_
 refine wpAny_isTrue_Compare1 (QV.go (D.expr e1 R S F) λx s₁ ρ₁ S₁ K₁ r₁=>?_) (qR D.noSet e2)
 refine QV.go (D.expr e2 R S₁ (F.keep K₁ S)) λy s₂ ρ₂ S₂ K₂ r₂=>?_
 refine B3 (vg R S₂ (Rel.keep K₂ S₁.hr (aC _) r₁) r₂ e) (λz s₃ q=>?_) λxx yy h=>h
 obtain⟨rfl,rfl,tk,rfl⟩:=q
 exact wpAny_truthy_bool ⟨rfl,QU.after K₁ (QU.after K₂ ⟨ρ₂,(S₂.tok tk).1,(S₂.tok tk).2⟩)⟩
theorem jE(D:Snd prog w B mg E k){pos:Pos}(R:Rm A k):∀{es:List Expr}{C C':CH}{ρ:List Addr}{s:Shared}{m cm:Str→Option Value}{vs:List V},(es.any io)=false→St prog w B ρ C s→Fm B ρ sc env σ s m cm→
  evs (λe=>E.expr sc e σ) es C=some (vs,C')→wpAny (model prog w) A (spliced (backTo pos (starEach es env))) (QL prog w B ρ C s vs C') EF s:=λ{es}=>by
 induction es with
 |nil=>
  intro C C' ρ s m cm vs hs S F e
  refine cS2 e ?_
  exact wpAny_items_nil ⟨ρ,S,Keep.refl s,.nil⟩
 |cons x es ih'=>
  intro C C' ρ s m cm vs hs S F e
  rw[List.any_cons,Bool.or_eq_false_iff] at hs
  refine bc e λa C₁ e1 e=>?_
  refine bc e λus C₂ e2 e=>?_
  refine cS2 e ?_
  refine wpAny_items_cons (QV.go (D.expr e1 R S F) λy s₁ ρ₁ S₁ K₁ r₁=>?_) ?_
  ·refine B3 (ih' hs.2 S₁ (F.keep K₁ S) e2) (λys s₂ qq=>qq.un λρ₂ S₂ K₂ r₂=>?_) λxx yy h=>h
   exact⟨ρ₂,S₂,K₁.trans K₂,.cons (Rel.keep K₂ S₁.hr (aC _) r₁) r₂⟩
  ·induction x using PySem.Expr.casesOn with|Starred _ _=>exact cTf hs.1|_=>rfl
theorem bp{es:List Expr}(h:ao es=true):es.length≤8∧es.any io=false:=by
 unfold ao at h
 rw[Ca] at h
 exact⟨of_decide_eq_true h.1,by simpa using h.2⟩
theorem ny{f:Expr→M V}:∀{es:List Expr}{C C':CH}{vs:List V},evs f es C=some (vs,C')→vs.length=es.length:=λ{es}=>by
 induction es with
 |nil=>
  intro C C' vs e
  refine cS2 e ?_;rfl
 |cons x es ih'=>
  intro C C' vs e
  refine bc e λa C₁ e1 e=>?_
  refine bc e λus C₂ e2 e=>?_
  refine cS2 e ?_
  show Ch;show Ch;show ih' e2;rfl
theorem yh(D:Snd prog w B mg E k)(R:Rm A k)(S:St prog w B ρ C s)(F:Fm B ρ sc env σ s m cm){es:List Expr}{kk}{p:Pos}{v:V}(hp:ao es=true)
  (e:(bd (evs (λe=>E.expr sc e σ) es) λvs=>ok (.tup vs)) C=some (v,C')):wpAny (model prog w) A (eval (.Tuple es kk p) env) (QV prog w B ρ C s v C') EF s:=by
 refine bc e λvs C₁ e1 e=>?_
 refine cS2 e ?_
 refine oA (bp hp) λh8 hs=>?_
 refine wpAny_Tuple (B3 (jE D R hs S F e1) (λys s₁ qq=>qq.un λρ₁ S₁ K₁ r₁=>⟨?_,QV.after K₁ (QV.tup S₁ r₁ s₁.toks)⟩) λxx yy h=>h)
 refine rL (r₁.length ..) ?_;show ny e1;show sizeLine_eq;exact B4 h8 (B5 _ _)
theorem vG(hB:B.NoLimit)(D:Snd prog w B mg E k)(R:Rm A k)(S:St prog w B ρ C s)(F:Fm B ρ sc env σ s m cm){es:List Expr}{p:Pos}{v:V}(hp:ao es=true)
  (e:(bd (evs (λe=>E.expr sc e σ) es) λvs=>new (.list vs)) C=some (v,C')):wpAny (model prog w) A (eval (.List es p) env) (QV prog w B ρ C s v C') EF s:=by
 refine bc e λvs C₁ e1 e=>?_
 refine cS2 e ?_
 refine oA (bp hp) λh8 hs=>?_
 refine wpAny_List (B3 (jE D R hs S F e1) (λys s₁ qq=>qq.un λρ₁ S₁ K₁ r₁=>⟨?_,QV.after K₁ (QV.list S₁ hB r₁ (by show ny e1;exact B4 h8 (B5 _ _)) s₁.toks)⟩) λxx yy h=>h)
 refine rL (r₁.length ..) ?_;show ny e1;show sizeLine_eq;exact B4 h8 (B5 _ _)
structure Sorts(prog:Program)(w:World)(B:Heap):Prop where
 sort:∀{A:Around}{n:Nat}{ρ:List Addr}{C:CH}{s:Shared}{c:Nat}{a:Addr}{vs us:List V}{k:Nat},Rm A (n+1)→St prog w B ρ C s→C[c]?=some (.list vs,k)→ρ[c]?=some a→vs.length≤3→dj (C.set c (.list [],k+1)) vs=some us→
  wpAny (model prog w) A (call (.builtin "list.sort") [.ref a]) (QV prog w B ρ C s .nn (C.set c (.list us,k+1+1))) EF s
theorem xC{M:Model}{X:Value→Shared→Prop}{value slice:Expr}{pos:Pos}{Q:Value→Shared→Prop}(hs:bf slice=false)
  (h:wpAny M A (eval value env) (λo s₁=>wpAny M A (eval slice env) (λi s₂=>SubscriptOn M A o i (λr s₃=>wpAny M A (letTemporaryGo value o r) (λxx s₄=>Q r s₄) X s₃) X s₂) X s₁) X s) :
  wpAny M A (eval (.Subscript value slice pos) env) Q X s:=by
 show eval_Subscript
 refine B1 (B3 h (λo s₁ h₁=>B1 (wpAny_holding (B3 h₁ (λi s₂ h₂=>B1 (wpAny_standAt ?_)) λxx yy x=>x))) λxx yy x=>x)
 refine ut h₂ λT id hl hT hg=>?_
 refine B1 ?_
 show getitemInPython_of_ne hT.not_modules
 refine B1 (wpAny_specialOf hT hl ?_)
 have hsub:subscripted slice false o i=operate [o,i] (getItem o i):=by induction slice using PySem.Expr.casesOn with|Slice _ _ _ _=>exact cTf hs|_=>rfl
 refine B2 (B1 ?_)
 show hsub
 exact wpAny_operating (B3 hg (λr s₃ h₃=>B1 (B3 h₃ (λxx s₄ h₄=>B2 h₄) λxx yy x=>x)) λxx yy x=>x)
theorem o0(S:St prog w B ρ C s){o i v:V}{x:Value}(ho:Rel B ρ s.heap o x)(e:d8 o i C=some (v,C')):Ex2 λT id=>typeLookup (.type T) "__getitem__" = pure (some (.builtin id))∧s.TypeIs x T:=by
 induction o using V.casesOn with
 |tup vs=>exact ho.tupE λa items ht hr=>⟨"tuple",_,PySem.F.slot_tuple_getitem.lookup,ht.isTup.typeIs⟩
 |cell c=>
  refine ho.cellE λa ea=>bo (f:=λo=>match o,i with
   |.list vs,.int i=>lift (nth vs i)
   |.dict es,i=>match i.key with
    |some k=>λC=>if am k es then lift (lk k es) C else none
    |none=>no
   |_,_=>no) e λo₁ k₁ q₁ e=>?_
  induction o₁ using O.casesOn with
  |list vs=>refine cv (aN S.hr q₁ ea) λitems hx xx xx=>?_;exact Ak ("list") _ PySem.F.slot_list_getitem.lookup hx.isList.typeIs
  |dict es=>refine bJ (aJ S.hr q₁ ea) λo ds epo ho hx xx xx xx xx xx=>?_;exact Ak ("dict") _ PySem.F.slot_dict_getitem.lookup (mE ho hx)
 |_=>exact nos e
theorem yw(D:Snd prog w B mg E k)(R:Rm A k)(hu:A.in1.units<cLine)(S:St prog w B ρ C s)(F:Fm B ρ sc env σ s m cm){v i:Expr}{p:Pos}{u:V}(hs:bf i=false)
  (e:(bd (E.expr sc v σ) λa=>bd (E.expr sc i σ) λb=>d8 a b) C=some (u,C')):wpAny (model prog w) A (eval (.Subscript v i p) env) (QV prog w B ρ C s u C') EF s:=by
 refine bc e λa C₁ e1 e=>?_
 refine bc e λb C₂ e2 e=>?_
 refine xC hs (QV.go (D.expr e1 R S F) λx s₁ ρ₁ S₁ K₁ r₁=>?_)
 refine QV.go (D.expr e2 R S₁ (F.keep K₁ S)) λy s₂ ρ₂ S₂ K₂ r₂=>?_
 have r₁':=Rel.keep K₂ S₁.hr (aC _) r₁
 refine zG (o0 S₂ r₁' e) λT id h1 h2=>?_
 refine wW T id h1 h2 (B3 (ox hu S₂ r₁' r₂ e) (λz s₃ q=>?_) λxx yy h=>h)
 exact wpAny_letTemporaryGo (QV.after K₁ (QV.after K₂ q))
theorem eY{x:Expr}{es:List Expr}(h:io x=false):starEach (x::es) env=(false,eval x env)::starEach es env:=by
 induction x using PySem.Expr.casesOn with|Starred _ _=>exact cTf h|_=>rfl
theorem aX{M:Model}{X:Value→Shared→Prop}{f:Value}{pos:Pos}{Q:Args→Shared→Prop}{es:List Expr}(hs:es.any io=false)
  (h:wpAny M A (spliced (backTo pos (starEach es env))) (λvs s'=>Q ⟨vs,[]⟩ s') X s):wpAny M A (evalArgs f true (backTo pos (starEach es env)) []) Q X s:=by
 induction es using List.casesOn with
 |nil=>
  unfold evalArgs
  change wpAny M A (spliced (backTo pos (starEach [] env)) >>= _) Q X s
  refine B1 (B3 h (λvs s' h'=>?_) λxx yy x=>x)
  refine B1 (B2 ?_)
  refine wpAny_holding ?_
  exact B1 (B2 (B1 (B2 (B2 h'))))
 |cons x es=>
  rw[List.any_cons,Bool.or_eq_false_iff] at hs
  have he:starEach (x::es) env=(false,eval x env)::starEach es env:=eY hs.1
  rw[he] at h ⊢
  exact Calls.evalArgs_plain h
theorem bn:∀{es:List Expr}{pos:Pos},es.any io=false→(backTo pos (starEach es env)).any (·.1)=false∧(backTo pos (starEach es env)).all (λx=>!x.1)=true:=λ{es}=>by
 induction es with
 |nil=>
  intro _ _
  exact⟨rfl,rfl⟩
 |cons x es ih'=>
  intro pos hs
  rw[List.any_cons,Bool.or_eq_false_iff] at hs
  have he:starEach (x::es) env=(false,eval x env)::starEach es env:=eY hs.1
  have ih:=ih' (pos:=pos) hs.2
  show he
  exact⟨ih.1,ih.2⟩
theorem ge{c:Nat}{o:O}{v u:V}{C C₁:CH}{p:O}{kk:Nat}(q:C[c]?=some (p,kk))(e:(bd (put c o) λxx=>ok v) C=some (u,C₁)):C₁=C.set c (o,kk+1)∧u=v:=by
 refine bc e λx C₂ e1 e=>?_
 refine cS2 e ?_
 exact⟨gP q e1,rfl⟩
noncomputable def lid(m:Str):String:=if seq m "append" then "list.append" else if seq m "extend" then "list.extend" else if seq m "pop" then "list.pop" else "list.sort"
noncomputable def did(m:Str):String:=if seq m "pop" then "dict.pop" else "dict.get"
theorem jH:lid "append" = "list.append":=rfl
theorem jG:lid "extend" = "list.extend":=rfl
theorem qQ:lid "pop" = "list.pop":=rfl
theorem oe:lid "sort" = "list.sort":=rfl
theorem r7:did "pop" = "dict.pop":=rfl
theorem qi:did "get" = "dict.get":=rfl
section
variable {c:Nat}{a:Addr}{kk:Nat}{args:List V}{ys:List Value}{v:V}
theorem oP(S:St prog w B ρ C s){vs:List V}(q:C[c]?=some (.list vs,kk))(ea:ρ[c]?=some a)(hr:RelL B ρ s.heap args ys)(e:qv c vs args C=some (v,C')):wpAny (model prog w) A (call (.builtin "list.append") (.ref a::ys)) (QV prog w B ρ C s v C') EF s:=by
 induction args using List.casesOn with
 |nil=>exact nos e
 |cons x l=>induction l using List.casesOn with
  |cons _ _=>exact nos e
  |nil=>refine hr.oneE λy r0=>kI e λhl e=>?_;refine oA (ge q e) λzr0 zr1=>?_;subst zr0 zr1;exact qK S q ea hl r0
theorem o6(S:St prog w B ρ C s){vs:List V}(q:C[c]?=some (.list vs,kk))(ea:ρ[c]?=some a)(hr:RelL B ρ s.heap args ys)(e:rf c vs args C=some (v,C')):wpAny (model prog w) A (call (.builtin "list.extend") (.ref a::ys)) (QV prog w B ρ C s v C') EF s:=by
 induction args using List.casesOn with
 |nil=>exact nos e
 |cons x l=>induction l using List.casesOn with
  |cons _ _=>cases x<;>exact nos e
  |nil=>induction x using V.casesOn with
   |cell d=>
    by_cases hcd:c=d
    ·exact nos ((congrFun (if_pos hcd) C).symm.trans e)
    ·refine hr.oneE λy r0=>r0.cellE λb eb=>bo ((congrFun (if_neg hcd) C).symm.trans e) λo₁ k₁ q₁ e=>?_
     induction o₁ using O.casesOn with
     |dict _=>exact nos e
     |list us=>refine kI e λhl e=>?_;refine oA (ge q e) λzr0 zr1=>?_;subst zr0 zr1;exact q8 S q ea q₁ eb hl
   |_=>exact nos e
set_option smartUnfolding false in
theorem wk(S:St prog w B ρ C s){vs:List V}(q:C[c]?=some (.list vs,kk))(ea:ρ[c]?=some a)(hr:RelL B ρ s.heap args ys)(e:Bd c vs args C=some (v,C')):wpAny (model prog w) A (call (.builtin "list.pop") (.ref a::ys)) (QV prog w B ρ C s v C') EF s:=by
 induction args using List.casesOn with
 |nil=>exact nos e
 |cons x l=>induction l using List.casesOn with
  |cons _ _=>cases x<;>exact nos e
  |nil=>induction x using V.casesOn with
   |int i=>
    refine hr.oneE λy r0=>r0.intE λt=>kI e λh0 e=>nA e λu hv e=>?_
    refine oA (ge q e) λzr0 zr1=>?_;subst zr0 zr1
    exact sQ S q ea h0 hv
   |_=>exact nos e
set_option smartUnfolding false in
theorem ti(Z:Sorts prog w B)(R:Rm A (n+1))(S:St prog w B ρ C s){vs:List V}(q:C[c]?=some (.list vs,kk))(ea:ρ[c]?=some a)(hr:RelL B ρ s.heap args ys)(e:za c vs args C=some (v,C')):wpAny (model prog w) A (call (.builtin "list.sort") (.ref a::ys)) (QV prog w B ρ C s v C') EF s:=by
 induction args using List.casesOn with
 |cons _ _=>exact nos e
 |nil=>
  refine hr.nilE (kI e λh3 e=>bc e λuu C₂ e1 e2=>?_)
  cases gP q e1
  refine nA e2 λus hv e2=>?_
  have hc:c<C.length:=(List.getElem?_eq_some_iff.mp q).1
  refine oA (ge (p:=.list []) (kk:=kk+1) (by show List.getElem?_set_self hc;rfl) e2) λzr0 zr1=>?_;subst zr0 zr1
  show List.set_set
  exact Z.sort R S q ea h3 hv
theorem pi(Z:Sorts prog w B)(R:Rm A (n+1))(S:St prog w B ρ C s){vs:List V}(q:C[c]?=some (.list vs,kk))(ea:ρ[c]?=some a){mn:Str}
  (hr:RelL B ρ s.heap args ys) (e:mT mn c vs args C=some (v,C')):wpAny (model prog w) A (call (.builtin (lid mn)) (.ref a::ys)) (QV prog w B ρ C s v C') EF s:=by
 refine eF e (λh e=>?_) λe=>eF e (λh e=>?_) λe=>eF e (λh e=>?_) λe=>eF e (λh e=>?_) λe=>nos e
 ·obtain rfl:=aQ h;show jH;exact oP S q ea hr e
 ·obtain rfl:=aQ h;show jG;exact o6 S q ea hr e
 ·obtain rfl:=aQ h;show qQ;exact wk S q ea hr e
 ·obtain rfl:=aQ h;show oe;exact ti Z R S q ea hr e
set_option smartUnfolding false in
theorem wE(hu:A.in1.units<cLine)(S:St prog w B ρ C s){es:List (K×V)}(q:C[c]?=some (.dict es,kk))(ea:ρ[c]?=some a)(hr:RelL B ρ s.heap args ys)(e:By c es args C=some (v,C')):wpAny (model prog w) A (call (.builtin "dict.pop") (.ref a::ys)) (QV prog w B ρ C s v C') EF s:=by
 induction args using List.casesOn with
 |nil=>exact nos e
 |cons x l=>induction l using List.casesOn with
  |nil=>
   refine hr.oneE λy r0=>sC e λj hk e=>kI e λhs e=>nA e λu hl e=>?_
   refine oA (ge q e) λzr0 zr1=>?_;subst zr0 zr1
   exact xc hu S q ea hs (gv hk r0) hl
  |cons d l=>induction l using List.casesOn with
   |cons _ _=>exact nos e
   |nil=>
    refine hr.twoE λy z r0 r1=>sC e λj hk e=>kI e λhs e=>?_
    refine B3 (wf hu S q ea hs (gv hk r0) r1) (λz s' hz=>?_) λxx yy h=>h
    refine yo e (λu hl e=>?_) λhl e=>?_
    ·rw[hl] at hz
     refine oA (ge q e) λzr0 zr1=>?_;subst zr0 zr1
     exact hz
    ·rw[hl] at hz
     refine cS2 e ?_
     exact hz
set_option smartUnfolding false in
theorem xw(hu:A.in1.units<cLine)(S:St prog w B ρ C s){es:List (K×V)}(q:C[c]?=some (.dict es,kk))(ea:ρ[c]?=some a)(hr:RelL B ρ s.heap args ys)(e:Bj es args C=some (v,C')):wpAny (model prog w) A (call (.builtin "dict.get") (.ref a::ys)) (QV prog w B ρ C s v C') EF s:=by
 induction args using List.casesOn with
 |nil=>exact nos e
 |cons x l=>induction l using List.casesOn with
  |nil=>exact nos e
  |cons d l=>induction l using List.casesOn with
   |cons _ _=>exact nos e
   |nil=>
    refine hr.twoE λy z r0 r1=>sC e λj hk e=>kI e λhs e=>?_
    refine B3 (wa hu S q ea hs (gv hk r0) r1) (λz s' hz=>?_) λxx yy h=>h
    refine yo e (λu hl e=>?_) λhl e=>?_
    ·rw[hl] at hz;refine cS2 e ?_;exact hz
    ·rw[hl] at hz;refine cS2 e ?_;exact hz
theorem o9(hu:A.in1.units<cLine)(S:St prog w B ρ C s){es:List (K×V)}(q:C[c]?=some (.dict es,kk))(ea:ρ[c]?=some a){mn:Str}
  (hr:RelL B ρ s.heap args ys) (e:m4 mn c es args C=some (v,C')):wpAny (model prog w) A (call (.builtin (did mn)) (.ref a::ys)) (QV prog w B ρ C s v C') EF s:=by
 refine eF e (λh e=>?_) λe=>eF e (λh e=>?_) λe=>nos e
 ·obtain rfl:=aQ h;show r7;exact wE hu S q ea hr e
 ·obtain rfl:=aQ h;show qi;exact xw hu S q ea hr e
end
theorem s6:fn? "__debug__" = none:=by kernel_rfl
theorem wD:fn? "__name__" = none:=by kernel_rfl
theorem boot_kind{f:Str}(h:f∈(["len","abs","sum","max","tuple","list","dict"]:List Str)){fv:Value}(e:bootBuiltins f=some fv):(∃id,fv=.builtin id)∨∃T,fv=.type T:=by
 simp only[List.mem_cons,List.not_mem_nil,or_false] at h
 rcases h with rfl|rfl|rfl|rfl|rfl|rfl|rfl
 ·rw[boot_len] at e;refine cS1 e ?_;exact .inl ⟨_,rfl⟩
 ·rw[boot_abs] at e;refine cS1 e ?_;exact .inl ⟨_,rfl⟩
 ·rw[boot_sum] at e;refine cS1 e ?_;exact .inl ⟨_,rfl⟩
 ·rw[boot_max] at e;refine cS1 e ?_;exact .inl ⟨_,rfl⟩
 ·rw[boot_tuple] at e;refine cS1 e ?_;exact .inr ⟨_,rfl⟩
 ·rw[boot_list] at e;refine cS1 e ?_;exact .inr ⟨_,rfl⟩
 ·rw[boot_dict] at e;refine cS1 e ?_;exact .inr ⟨_,rfl⟩
theorem o8.plain{f:Str}(h:o8 f):(f==("__debug__" : Str))=false∧f≠"__name__":=by
 have:f≠"__debug__"∧f≠"__name__":=by
  rcases h with⟨d,h⟩|⟨_,h⟩
  ·exact⟨λe=>(by rw[e,s6] at h;exact cNo h),λe=>(by rw[e,wD] at h;exact cNo h)⟩
  ·simp only[List.mem_cons,List.not_mem_nil,or_false] at h
   rcases h with rfl|rfl|rfl|rfl|rfl|rfl|rfl<;>exact⟨by decide,by decide⟩
 exact⟨beq_eq_false_iff_ne.mpr this.1,this.2⟩
theorem rC{f:Str}(h:f∈(["len","abs","sum","max","tuple","list","dict"]:List Str)):∃fv,bootBuiltins f=some fv:=by
 simp only[List.mem_cons,List.not_mem_nil,or_false] at h
 rcases h with rfl|rfl|rfl|rfl|rfl|rfl|rfl
 ·exact⟨_,boot_len⟩
 ·exact⟨_,boot_abs⟩
 ·exact⟨_,boot_sum⟩
 ·exact⟨_,boot_max⟩
 ·exact⟨_,boot_tuple⟩
 ·exact⟨_,boot_list⟩
 ·exact⟨_,boot_dict⟩
theorem wV(T:Tp B mg mb)(S:St prog w B ρ C s)(F:Fm B ρ sc env σ s m cm){f:Str}{pos:Pos}(hk:aR sc f=some .globalImplicit)(kn:o8 f):
  wpAny (model prog w) A (eval (.Name f pos) env) (λfv s'=>s'=s∧uD mg f fv) EF s:=by
 have hkk:=F.kinds f _ hk
 have hg:s.heap.Ns env.globals mg:=F.glob▸kw T.g S
 have hb:s.heap.Ns env.builtins mb:=F.blt▸j5 T.b S
 refine Calls.Name_function_global F.fn hkk ?_ kn.plain.1
 rcases id kn with⟨d,h⟩|⟨h0,h⟩
 ·refine zD (T.fn f d h) λa o pm code doc h1 h2 h3 h4=>?_
  exact Calls.loadGlobal_global hg h1 ⟨rfl,.inl ⟨d,h,h1⟩⟩
 ·refine oE (rC h) λfv hv=>?_
  refine Calls.loadGlobal_builtin hg (T.miss f ?_) hb ((T.built f kn.plain.2).trans hv) ⟨rfl,.inr ⟨h0,hv⟩⟩
  simp only[List.mem_cons,List.not_mem_nil,or_false] at h ⊢
  rcases h with rfl|rfl|rfl|rfl|rfl|rfl|rfl<;>simp
theorem mO(T:Tp B mg mb){f:Str}{fv:Value}(kn:o8 f)(hv:uD mg f fv){pos:Pos}{es:List Expr}(hs:es.any io=false){Q:Value→Shared→Prop}
  (h:wpAny (model prog w) A (spliced (backTo pos (starEach es env))) (λys s₁=>B.StaysIn s₁.heap∧wpAny (model prog w) A (call fv ys) Q EF s₁) EF s) :
  wpAny (model prog w) A (callWith pos fv [] (backTo pos (starEach es env)) []) Q EF s:=by
 rcases hv with⟨d,h1,h2⟩|⟨h1,h2⟩
 ·refine zD (T.fn f d h1) λa o pm code doc g1 g2 g3 g4=>?_
  rw[g1] at h2;refine cSo h2 λzx=>?_;clear h2;subst zx
  exact Calls.callWith_function (aX hs (B3 h (λys s₁ qz=>by refine oA qz λhb hc=>?_;exact⟨⟨hb _ _ g2,g3⟩,hc⟩) λxx yy x=>x))
 ·rcases kn with⟨d,h⟩|⟨_,hm⟩
  ·rw[h] at h1;exact cNs h1
  ·rcases boot_kind hm h2 with⟨id,rfl⟩|⟨U,rfl⟩
   ·exact Calls.callWith_builtin (bn hs).1 (aX hs (B3 h (λys s₁ qz=>by refine oA qz λhb hc=>?_;exact hc) λxx yy x=>x))
   ·exact PyProof.Rows.callWith_type (bn hs).1 (aX hs (B3 h (λys s₁ qz=>by refine oA qz λhb hc=>?_;exact hc) λxx yy x=>x))
theorem tN(T:Tp B mg mb)(D:Snd prog w B mg E k)(R:Rm A k)(S:St prog w B ρ C s)(F:Fm B ρ sc env σ s m cm){f:Str}{fp pos:Pos}{args:List Expr}{v:V}(hk:aR sc f=some .globalImplicit)(hp:ao args=true)
  (e:(bd (evs (λe=>E.expr sc e σ) args) λvs=>E.call f vs) C=some (v,C')):wpAny (model prog w) A (eval (.Call (.Name f fp) args [] pos) env) (QV prog w B ρ C s v C') EF s:=by
 refine bc e λvs C₁ e1 e=>?_
 refine oA (bp hp) λh8 hs=>?_
 have kn:=D.known e
 refine Call_Name rfl (B3 (wV T S F hk kn) (λfv s₁ ⟨h1,hv⟩=>?_) λxx yy x=>x)
 show h1
 refine mO T kn hv hs (B3 (jE D R hs S F e1) (λys s₂ qq=>qq.un λρ₁ S₁ K₁ r₁=>⟨S₁.base,?_⟩) λxx yy x=>x)
 exact B3 (D.call e R S₁ r₁ hv) (λy s₃ q=>QV.after K₁ q) λxx yy x=>x
theorem gA{a:V}{C C₁:CH}{b:Bool}(e:gg a C=some (b,C₁)):C₁=C∧Ex2 λc kk=>a=.cell c∧((b=true∧∃vs,C[c]?=some (.list vs,kk))∨(b=false∧∃es,C[c]?=some (.dict es,kk))):=by
 unfold gg at e
 split at e
 ·refine bo e λo kk q e=>?_
  induction o using O.casesOn with
  |list vs=>refine cS2 e ?_;exact zV rfl _ kk rfl (.inl ⟨rfl,vs,q⟩)
  |dict es=>refine cS2 e ?_;exact zV rfl _ kk rfl (.inr ⟨rfl,es,q⟩)
 ·exact cNo e
theorem BO{mn:Str}(h:aH true mn=true):Slot "list" mn (lid mn)∧typeOf (.builtin (lid mn))=pure (.type "method_descriptor"):=by
 simp only[aH,Bool.or_eq_true] at h
 rcases h with((h|h)|h)|h<;>obtain rfl:=aQ h
 ·show jH;exact⟨PySem.F.slot_list_append,type_list_append⟩
 ·show jG;exact⟨PySem.F.slot_list_extend,PySem.F.type_list_extend⟩
 ·show qQ;exact⟨PySem.F.slot_list_pop,PySem.F.type_list_pop⟩
 ·show oe;exact⟨PySem.F.slot_list_sort,PySem.F.type_list_sort⟩
theorem BI{mn:Str}(h:aH false mn=true):Slot "dict" mn (did mn)∧typeOf (.builtin (did mn))=pure (.type "method_descriptor"):=by
 simp only[aH,Bool.or_eq_true] at h
 rcases h with h|h<;>obtain rfl:=aQ h
 ·show r7;exact⟨PySem.F.slot_dict_pop,PySem.F.type_dict_pop⟩
 ·show qi;exact⟨PySem.F.slot_dict_get,PySem.F.type_dict_get⟩
theorem um(Z:Sorts prog w B)(T:Tp B mg mb)(D:Snd prog w B mg E k)(R:Rm A k)(R':Rm A (n+1))(S:St prog w B ρ C s)(F:Fm B ρ sc env σ s m cm){x mn:Str}{xp ap pos:Pos}{args:List Expr}{v:V}(hp:ao args=true)(hline:(ap.endLine==pos.line)=true)
  (e:(bd (lift (eE sc x σ)) λa=>bd (gg a) λk=>bd (evs (λe=>E.expr sc e σ) args) λvs=>bd (gg a) λk'=>match k==k'&&aH k mn with
   |true=>nR mn a vs
   |false=>no) C=some (v,C')):wpAny (model prog w) A (eval (.Call (.Attribute (.Name x xp) mn ap) args [] pos) env) (QV prog w B ρ C s v C') EF s:=by
 have hu:A.in1.units<cLine:=by have:=R'.un;change A.units+1<_;exact R.lt 1 rfl
 refine eM e λa e0 f1=>?_
 clear e
 refine bc f1 λkd C₁ e1 f2=>?_
 clear f1
 refine zu (gA e1) λzr0 c kk zr1 hk=>?_;subst zr0 zr1
 refine bc f2 λvs C₂ e2 f3=>?_
 clear f2
 refine bc f3 λkd' C₃ e3 e=>?_
 clear f3
 refine zu (gA e3) λzr0 c' kk' hc hk'=>?_;subst zr0
 injection hc with zx;subst zx
 obtain⟨h8,hs⟩:=bp hp
 cases hm:(kd==kd'&&aH kd mn) with
 |false=>rw[hm] at e;exact cNo e
 |true=>
 rw[hm] at e
 rw[Ca] at hm
 have hkd:=eq_of_beq hm.1
 subst hkd
 refine wpAny_Call_method_late rfl ?_ hline rfl (QV.go (jb T S F e0) λy s₁ ρ₁ S₁ K₁ r₁=>?_)
 ·rw[(bn hs).2,Bool.true_and,Ca]
  exact⟨rfl,decide_eq_true (by simp;exact B7 (Nat.lt_succ_of_le h8) (B5 _ _))⟩
 refine Rel.cellE r₁ λxx ea=>?_
 have F₁:=F.keep K₁ S
 rcases hk with⟨rfl,us,q⟩|⟨rfl,es,q⟩
 ·obtain⟨slot,ty⟩:=BO hm.2
  obtain⟨items,⟨mm,ho⟩,_⟩:=aN S₁.hr q ea
  refine jW ("list") _ PySem.F.plainAttrs_list slot ty ⟨_,ho,rfl⟩ (λb hb=>by injection hb with zx;subst zx;exact⟨_,ho,rfl⟩) ?_
  refine Calls.callWith_builtin (bn hs).1 (aX hs (B3 (jE D R hs S₁ F₁ e2) (λys s₂ qq=>qq.un λρ₂ S₂ K₂ r₂=>?_) λxx yy h=>h))
  obtain⟨_,us',q'⟩|⟨h,_⟩:=hk'
  ·have ea':=bK K₂.pre ea
   unfold nR at e
   refine bo e λo₁ k₁ q₁ e'=>?_
   rw[q'] at q₁;refine cSp q₁ λzx zy=>?_;clear q₁;subst zx zy
   exact B3 (pi Z R' S₂ q' ea' r₂ e') (λz s₃ qq=>QV.after K₁ (QV.after K₂ qq)) λxx yy h=>h
  ·exact cTf h
 ·obtain⟨slot,ty⟩:=BI hm.2
  obtain⟨o,ds,epo,ho,hx,hd,_⟩:=aJ S₁.hr q ea
  refine jW ("dict") _ PySem.F.plainAttrs_dict slot ty ⟨_,ho,hx.1⟩ (λb hb=>by injection hb with zx;subst zx;exact⟨_,ho,hx.2.1⟩) ?_
  refine Calls.callWith_builtin (bn hs).1 (aX hs (B3 (jE D R hs S₁ F₁ e2) (λys s₂ qq=>qq.un λρ₂ S₂ K₂ r₂=>?_) λxx yy h=>h))
  obtain⟨h,_⟩|⟨_,es',q'⟩:=hk'
  ·exact cFt h
  ·have ea':=bK K₂.pre ea
   unfold nR at e
   refine bo e λo₁ k₁ q₁ e'=>?_
   rw[q'] at q₁;refine cSp q₁ λzx zy=>?_;clear q₁;subst zx zy
   exact B3 (o9 hu S₂ q' ea' r₂ e') (λz s₃ qq=>QV.after K₁ (QV.after K₂ qq)) λxx yy h=>h
theorem RelL.grow{h:Heap}(p:ρ <+: ρ'){v:List V}{y:List Value}(x:RelL B ρ h v y):RelL B ρ' h v y:=
 RelL.rec (motive_1:=λv y xx=>Rel B ρ' h v y) (motive_2:=λv y xx=>RelL B ρ' h v y) .nn .bool .int .str (λht xx ih=>.tup ht ih) (λe=>.cell (bK p e)) .fro .nil (λxx yy a b=>.cons a b) x
theorem Rel.grow{h:Heap}(p:ρ <+: ρ'){v:V}{y:Value}(x:Rel B ρ h v y):Rel B ρ' h v y:=by
 cases RelL.grow p (.cons x .nil) with|cons a _=>exact a
theorem Ents.grow{h:Heap}(p:ρ <+: ρ'){es:List (K×V)}{ds:List DictEntry}(x:Ents prog w B ρ h es ds):Ents prog w B ρ' h es ds:=by
 induction x with
 |nil=>exact .nil
 |cons a b c _ ih=>exact .cons a b (Rel.grow p c) ih
theorem ORel.grow{h:Heap}(p:ρ <+: ρ'){o:O}{a:Addr}(x:ORel prog w B ρ h o a):ORel prog w B ρ' h o a:=by
 cases x with
 |list h1 h2 h3=>exact .list h1 (RelL.grow p h2) h3
 |dict h1 h2 h3 h4 h5 h6 h7=>exact .dict h1 h2 h3 (Ents.grow p h4) h5 h6 h7
abbrev Wd(d:Addr):Addr→Prop:=λa=>a=d
structure Apart(B:Heap)(ρ:List Addr)(d:Addr):Prop where
 off:d∉ρ
 base:B.get? d=none
 low:sysModules<d
theorem St.adopt(S:St prog w B ρ C s){d:Addr}(P:Apart B ρ d){o:O}(x:ORel prog w B ρ s.heap o d)(n:Nat):St prog w B (ρ++[d]) (C++[(o,n)]) s∧(ρ++[d])[C.length]?=some d:=by
 have last:(ρ++[d])[C.length]?=some d:=by refine rL (S.hr.len ..) ?_;show List.getElem?_append_right (Cj _);show Nat.sub_self;rfl
 refine⟨{ hr:=⟨by simp[S.hr.len],?_,λc p a e ea=>?_⟩,base:=S.base,off:=λa ha=>?_,gens:=S.gens },last⟩
 ·show propext (List.nodup_append ..)
  exact iAA S.hr.nodup (by simp) (λx hx y hy e=>by rw[Cd.mp hy] at e;exact P.off (e▸hx))
 ·rcases Nat.lt_trichotomy c C.length with h|h|h
  ·rw[List.getElem?_append_left h] at e
   rw[List.getElem?_append_left (S.hr.len▸h)] at ea
   exact(S.hr.obj c p a e ea).grow (List.prefix_append _ _)
  ·subst h
   rw[last] at ea;refine cS1 ea ?_
   rw[List.getElem?_append_right (Cj _),Nat.sub_self] at e
   refine cS2 e ?_
   exact x.grow (List.prefix_append _ _)
  ·rw[List.getElem?_eq_none (by simp;exact Nat.succ_le_of_lt h)] at e;exact cNo e
 ·rcases Cz.mp ha with h|h
  ·exact S.off a h
  ·show Cd.mp h;exact⟨P.base,P.low⟩
theorem Keep.adopt{d:Addr}(K:Keep (Wd d) ρ C s ρ' C' s')(hn:s.heap.get? d=none)(o:O×Nat):Keep W0 ρ C s (ρ'++[d]) (C'++[o]) s' where
 old:=λa ob e ha xx=>K.old a ob e ha (λh=>by rw[h,hn] at e;exact cNo e)
 ver:=λc p a e ea=>by
  refine cv (K.ver c p a e ea) λp' e' r r2=>?_
  exact iEa3 p' (bK (List.prefix_append _ _) e') r r2
 new:=λa ha hna=>by
  rcases Cz.mp ha with h|h
  ·exact K.new a h hna
  ·show Cd.mp h;exact hn
 pre:=List.IsPrefix.trans K.pre (List.prefix_append _ _)
 live:=K.live
 os:=K.os
theorem Apart.keep{d:Addr}(P:Apart B ρ d){W:Addr→Prop}(K:Keep W ρ C s ρ' C' s')(hl:∃o,s.heap.get? d=some o):Apart B ρ' d:=
 ⟨λh=>(by refine oE hl λo e=>?_;rw[K.new d h P.off] at e;exact cNo e),P.base,P.low⟩
structure PD(prog:Program)(w:World)(B:Heap)(ρ:List Addr)(h:Heap)(d:Addr)(es:List (K×V)):Prop where
 ob:Ex3 λo ds ep=>And4 (h.get? d=some o) o.ExactDict (o.data=.dict ds ep) (Ents prog w B ρ h es ds.toList)
 hom:pq es
 nd:(es.map (·.1)).Nodup
theorem PD.orel{h:Heap}{d:Addr}{es:List (K×V)}(P:PD prog w B ρ h d es)(hl:es.length≤100000):ORel prog w B ρ h (.dict es) d:=by refine kY P.ob λo ds ep h1 h2 h3 h4=>?_;exact .dict h1 h2 h3 h4 P.hom P.nd hl
theorem PD.live{h:Heap}{d:Addr}{es:List (K×V)}(P:PD prog w B ρ h d es):∃o,h.get? d=some o:=by refine kY P.ob λo xx xx h1 xx xx xx=>?_;exact⟨o,h1⟩
theorem PD.keep{d:Addr}{es:List (K×V)}(P:PD prog w B ρ s.heap d es)(S:St prog w B ρ C s)(X:Apart B ρ d)(K:Keep W0 ρ C s ρ' C' s'):PD prog w B ρ' s'.heap d es:=
 ⟨by refine kY P.ob λo ds ep h1 h2 h3 h4=>?_;exact vV o ds ep (K.old d o h1 X.off id) h2 h3 (Ents.keep K S.hr (aC s) h4),P.hom,P.nd⟩
theorem PD.noSeq{d:Addr}{es:List (K×V)}(P:PD prog w B ρ s.heap d es):b8 (Wd d) s:=by
 rintro a rfl items ⟨n,ht⟩
 refine kY P.ob λo ds ep h1 xx h3 xx=>?_
 rw[ht] at h1;refine cSo h1 λzx=>?_;clear h1;subst zx;injection h3
theorem PD.store(hu:A.units<cLine)(S:St prog w B ρ C s){d:Addr}{es:List (K×V)}(P:PD prog w B ρ s.heap d es)(X:Apart B ρ d){j:K}{key:Value}{v:V}{y:Value}(hs:am j es=true)(hl:es.length≤10000)
  (hk:j.Is prog w s.heap key) (r:Rel B ρ s.heap v y) {Q:Unit→Shared→Prop}
  (h:∀s',St prog w B ρ C s'→Keep (Wd d) ρ C s ρ C s'→PD prog w B ρ s'.heap d (st j v es)→Q () s'):wpAny (model prog w) A (dictSet d key y) Q EF s:=by
 refine kY P.ob λo ds ep h1 h2 h3 h4=>?_
 refine iT (v:=v) hu h1 h2 h3 h4 P.nd hs hl hk λh' tk o' ds' ep' hsb ho' hx' hd' hE=>?_
 refine oA (S.write (W:=Wd d) (a:=d) (h':=h') (tk:=tk) rfl P.noSeq (λb hb=>by show hb;exact X.base) X.off (λb ob hb e=>hsb.extBut b ob hb e) ⟨o',ho'⟩) λS' K=>?_
 exact h _ S' K ⟨⟨o',ds',ep',ho',hx',hd',hE _ _ (Ents.keep K S.hr P.noSeq h4) (Rel.keep K S.hr P.noSeq r) (K.key S.hr P.noSeq hk)⟩,nT hs,oH P.nd⟩
theorem PL.push(S:St prog w B ρ C s){d:Addr}{vs:List V}{items:Array Value}(hx:exL s.heap d items)(hr:RelL B ρ s.heap vs items.toList)(X:Apart B ρ d){v:V}{y:Value}(hl:vs.length≤10000)(r:Rel B ρ s.heap v y)
  {h':Heap}{tk:Nat} (hsb:Heap.SameBut d s.heap h') (hx':exL h' d (items.push y)):And3 (St prog w B ρ C { s with heap:=h',toks:=tk }) (Keep (Wd d) ρ C s ρ C { s with heap:=h',toks:=tk }) (RelL B ρ h' (vs++[v]) (items.push y).toList):=by
 have hn:b8 (Wd d) s:=by
  rintro a rfl items ⟨n,ht⟩
  refine oE hx λn' ho=>?_
  rw[ht] at ho
  have:=congrArg Obj.cls (Option.some.inj ho)
  simp at this
 refine oA (S.write (W:=Wd d) (a:=d) (h':=h') (tk:=tk) rfl hn (λb hb=>by show hb;exact X.base) X.off (λb ob hb e=>hsb.extBut b ob hb e) (by obtain⟨n,e⟩:=hx';exact⟨_,e⟩)) λS' K=>?_
 refine⟨S',K,?_⟩
 show Array.toList_push
 exact(RelL.keep K S.hr hn hr).snoc (Rel.keep K S.hr hn r)
inductive RelP(B:Heap)(ρ:List Addr)(h:Heap):List (V×V)→List (Value×Value)→Prop
 |nil:RelP B ρ h [] []
 |cons {a b:V}{x y:Value}{l:List (V×V)}{r:List (Value×Value)}:Rel B ρ h a x→Rel B ρ h b y→RelP B ρ h l r→RelP B ρ h ((a,b)::l) ((x,y)::r)
section
variable {hh:Heap}{z:List (Value×Value)}{P:List (Value×Value)→Prop}
@[elab_as_elim] theorem RelP.nilE(h:RelP B ρ hh [] z)(k:P []):P z:=by cases h;exact k
@[elab_as_elim] theorem RelP.consE{a b:V}{l:List (V×V)}(h:RelP B ρ hh ((a,b)::l) z)(k:∀x y r,Rel B ρ hh a x→Rel B ρ hh b y→RelP B ρ hh l r→P ((x,y)::r)):P z:=by cases h;exact k _ _ _ ‹_› ‹_› ‹_›
end
theorem RelP.keep{W:Addr→Prop}(K:Keep W ρ C s ρ' C' s')(x:HR prog w B ρ C s.heap)(hW:b8 W s){l:List (V×V)}{r:List (Value×Value)}(y:RelP B ρ s.heap l r):RelP B ρ' s'.heap l r:=by
 induction y with
 |nil=>exact .nil
 |cons a b _ ih=>exact .cons (Rel.keep K x hW a) (Rel.keep K x hW b) ih
noncomputable def fS(pos:Pos)(env:PySem.Env):List (Option Expr)→List Expr→List (Sem Value×Sem Value)
 |some k::ks,v::vs=>(eval k env,do let x ←eval v env;standAt pos;pure x)::fS pos env ks vs
 |_,_=>[]
theorem mF{f:Expr→M V}{pos:Pos}:∀{ks:List (Option Expr)}{vs:List Expr}{C:CH}{r:List (V×V)×CH},d0 f ks vs C=some r→
  ((evalEachOpt ks env).zip ((evalEach vs env).map λv=>do let x ←v;standAt pos;pure x)=(fS pos env ks vs).map λp=>(some p.1,p.2))∧(fS pos env ks vs).length=ks.length:=
 λ{ks}=>by
 induction ks with
 |nil=>
  intro vs C r e
  induction vs using List.casesOn with
  |nil=>exact⟨rfl,rfl⟩
  |cons=>exact cNo e
 |cons kx ks ih=>
  intro vs C r e
  induction kx using Option.casesOn with
  |none=>exact cNo e
  |some kx=>
  induction vs using List.casesOn with
  |nil=>exact cNo e
  |cons v vs=>
  refine bc e λa C₁ e1 f1=>?_
  refine bc f1 λb C₂ e2 f2=>?_
  refine bc f2 λr C₃ e3 f3=>?_
  refine oA (ih e3) λh1 h2=>?_
  refine⟨?_,congrArg (·+1) h2⟩
  change (_::_)=(_::_)
  exact congrArg _ h1
theorem tL(D:Snd prog w B mg E k)(R:Rm A k){pos:Pos}:∀{ks:List (Option Expr)}{vs:List Expr}{C C':CH}{ρ:List Addr}{s:Shared}{m cm:Str→Option Value}{ps:List (V×V)},St prog w B ρ C s→Fm B ρ sc env σ s m cm→
  d0 (λe=>E.expr sc e σ) ks vs C=some (ps,C')→
  wpAny (model prog w) A (evalPairs (fS pos env ks vs)) (λxs s'=>∃ρ',And3 (St prog w B ρ' C' s') (Keep W0 ρ C s ρ' C' s') (RelP B ρ' s'.heap ps xs)) EF s:=
 λ{ks}=>by
 induction ks with
 |nil=>
  intro vs C C' ρ s m cm ps S F e
  induction vs using List.casesOn with
  |nil=>
   refine cS2 e ?_
   exact evalPairs_nil ⟨ρ,S,Keep.refl s,.nil⟩
  |cons=>exact cNo e
 |cons kx ks ih=>
  intro vs C C' ρ s m cm ps S F e
  induction kx using Option.casesOn with
  |none=>exact cNo e
  |some kx=>
  induction vs using List.casesOn with
  |nil=>exact cNo e
  |cons v vs=>
  refine bc e λa C₁ e1 f1=>?_
  refine bc f1 λb C₂ e2 f2=>?_
  refine bc f2 λr C₃ e3 f3=>?_
  refine cS2 f3 ?_
  refine evalPairs_cons (QV.go (D.expr e1 R S F) λx s₁ ρ₁ S₁ K₁ r₁=>?_)
  refine B1 (QV.go (D.expr e2 R S₁ (F.keep K₁ S)) λy s₂ ρ₂ S₂ K₂ r₂=>?_)
  refine B1 (wpAny_standAt (B2 ?_))
  refine B3 (ih S₂ ((F.keep K₁ S).keep K₂ S₁) e3) (λxs s₃ q=>?_) λxx yy h=>h
  refine cv q λρ₃ S₃ K₃ r₃=>?_
  exact iEa3 ρ₃ S₃ (K₁.trans (K₂.trans K₃)) (.cons (Rel.keep K₃ S₂.hr (aC _) (Rel.keep K₂ S₁.hr (aC _) r₁)) (Rel.keep K₃ S₂.hr (aC _) r₂) r₃)
theorem po{f:Expr→M V}:∀{ks:List (Option Expr)}{vs:List Expr}{C C':CH}{ps:List (V×V)},d0 f ks vs C=some (ps,C')→ps.length=ks.length:=
 λ{ks}=>by
 induction ks with
 |nil=>
  intro vs C C' ps e
  induction vs using List.casesOn with
  |nil=>refine cS2 e ?_;rfl
  |cons=>exact cNo e
 |cons kx ks ih=>
  intro vs C C' ps e
  induction kx using Option.casesOn with
  |none=>exact cNo e
  |some kx=>
  induction vs using List.casesOn with
  |nil=>exact cNo e
  |cons v vs=>
  refine bc e λa C₁ e1 f1=>?_
  refine bc f1 λb C₂ e2 f2=>?_
  refine bc f2 λr C₃ e3 f3=>?_
  refine cS2 f3 ?_
  exact congrArg (·+1) (ih e3)
theorem xA(hu:A.units<cLine){d:Addr}:∀{ps:List (V×V)}{xs:List (Value×Value)}{es es':List (K×V)}{s:Shared}{Q:PUnit→Shared→Prop},RelP B ρ s.heap ps xs→St prog w B ρ C s→PD prog w B ρ s.heap d es→Apart B ρ d→es.length+ps.length≤10000→
  nG ps es=some es'→(∀s',St prog w B ρ C s'→Keep (Wd d) ρ C s ρ C s'→PD prog w B ρ s'.heap d es'→es'.length≤es.length+ps.length→Q PUnit.unit s')→
  wpAny (model prog w) A (forIn xs PUnit.unit λ(x:Value×Value) (_:PUnit)=>(do dictSet d x.1 x.2;pure (ForInStep.yield PUnit.unit):Sem (ForInStep PUnit))) Q EF s:=λ{ps}=>by
 induction ps with
 |nil=>
  intro xs es es' s Q r S P X hl e h
  refine RelP.nilE r ?_
  refine cSo e λzx=>?_;clear e;subst zx
  show List.forIn_nil
  exact B2 (h s S (Keep.refl s) P (Cj _))
 |cons p ps ih=>
  obtain⟨a,b⟩:=p
  intro xs es es' s Q r S P X hl e h
  refine RelP.consE r λx y xs ra rb r=>?_
  replace e:(match a.key with|some j=>if am j es then nG ps (st j b es) else none|none=>none)=some es':=e
  cases hk:V.key a with
  |none=>rw[hk] at e;exact cNo e
  |some j=>
  rw[hk] at e
  replace e:(if am j es then nG ps (st j b es) else none)=some es':=e
  by_cases hs:am j es=true
  ·rw[if_pos hs] at e
   show List.forIn_cons
   rw[Ch] at hl
   refine B1 (B1 (PD.store hu S P X hs ((Nat.le_of_add_right_le hl)) (gv hk ra) rb λs₁ S₁ K₁ P₁=>B2 ?_))
   have hlen:=nS (k:=j) (v:=b) (es:=es)
   refine ih (r.keep K₁ S.hr P.noSeq) S₁ P₁ (X.keep K₁ P.live) (by lia) e λs₂ S₂ K₂ P₂ h₂=>h s₂ S₂ (K₁.trans K₂) P₂ (by show Ch;lia)
  ·rw[if_neg hs] at e;exact cNo e
theorem Am(hB:B.NoLimit)(S:St prog w B ρ C s):And4 (St prog w B ρ C { s with heap:=s.heap.push { cls:=.type "dict",data:=.dict #[] } }) (Keep W0 ρ C s ρ C { s with heap:=s.heap.push { cls:=.type "dict",data:=.dict #[] } }) (PD prog w B ρ (s.heap.push { cls:=.type "dict",data:=.dict #[] }) s.heap.objs.size []) (Apart B ρ s.heap.objs.size):=by
 refine oA (S.still (tk:=s.toks) (ay s.heap { cls:=.type "dict",data:=.dict #[] })) λS' K=>?_
 have hg:(s.heap.push { cls:=.type "dict",data:=.dict #[] }).get? s.heap.objs.size=some { cls:=.type "dict",data:=.dict #[] }:=Heap.get?_push_size _ rfl
 have top:=S.top hB (Cj s.heap.objs.size)
 exact⟨S',K,⟨⟨_,#[],0,hg,⟨rfl,rfl,rfl⟩,rfl,.nil⟩,⟨false,by decide⟩,List.nodup_nil⟩,
  ⟨λh=>by refine oE (S.hr.live h) λo e=>?_;exact absurd (Heap.lt_size e) (Nat.lt_irrefl _),top.1,top.2⟩⟩
theorem PD.done(S:St prog w B ρ' C' s'){d:Addr}{es:List (K×V)}(P:PD prog w B ρ' s'.heap d es)(X:Apart B ρ' d)(hl:es.length≤100000)(K:Keep (Wd d) ρ C s ρ' C' s')(hn:s.heap.get? d=none):
  QV prog w B ρ C s (.cell C'.length) (C'++[(.dict es,0)]) (.ref d) s':=
 let⟨S',e⟩:=S.adopt X (P.orel hl) 0
 ⟨_,S',K.adopt hn _,.cell e⟩
theorem iD(hB:B.NoLimit)(D:Snd prog w B mg E k)(R:Rm A k)(hu:A.units<cLine)(S:St prog w B ρ C s)(F:Fm B ρ sc env σ s m cm){ks:List (Option Expr)}{vs:List Expr}{p:Pos}{v:V}(h8:ks.length≤8)
  (e:(bd (d0 (λe=>E.expr sc e σ) ks vs) λps=>bd (lift (nG ps [])) λes=>new (.dict es)) C=some (v,C')):wpAny (model prog w) A (eval (.Dict ks vs p) env) (QV prog w B ρ C s v C') EF s:=by
 refine bc e λps C₁ e1 f1=>?_
 refine eM f1 λes e2 f2=>?_
 refine cS2 f2 ?_
 obtain⟨h1,h2⟩:=mF (env:=env) (pos:=p) e1
 have hps:=po e1
 have hnone:s.heap.get? s.heap.objs.size=none:=bz (Cj _)
 obtain⟨S₀,K₀,P₀,X₀⟩:=Am hB S
 show arm_eval_Dict;show h1
 refine B1 (wpAny_standAt ?_)
 by_cases h0:fS p env ks vs=[]
 ·have hk0:ks=[]:=by rw[h0] at h2;exact List.length_eq_zero_iff.mp h2.symm
  subst hk0
  induction vs using List.casesOn with
  |cons _ _=>exact cNo e1
  |nil=>
  refine cSp e1 λzx zy=>?_;clear e1;subst zx zy
  refine cSo e2 λzx=>?_;clear e2;subst zx
  show h0
  change wpAny _ _ newDict _ _ _
  exact wpAny_newObj_type (PD.done S₀ P₀ X₀ (by simp) (K₀.mono λxx h=>h.elim) hnone) (leb rfl)
 ·show dictDisplay_pairs _ h0 ((B7 (Ck (Cg h2) (Nat.lt_succ_of_le h8)) (B5 _ _)))
  refine B1 ?_
  unfold subDict
  refine B1 (wpAny_alloc ?_)
  refine B1 (wpAny_holding ?_)
  show if_pos ((B4 (B4 (Cg h2) h8) (B5 _ _)))
  refine B1 (B3 (tL D R S₀ (F.keep K₀ S) e1) (λxs s₁ ⟨ρ₁,S₁,K₁,r₁⟩=>?_) λxx yy h=>h)
  refine wpAny_holding ?_
  have P₁:=P₀.keep S₀ X₀ K₁
  have X₁:=X₀.keep K₁ P₀.live
  refine B1 (xA hu r₁ S₁ P₁ X₁ (by show hps;simp;exact B4 h8 (B5 _ _)) e2 λs₂ S₂ K₂ P₂ hl₂=>?_)
  refine B2 (B2 (B2 ?_))
  exact PD.done S₂ P₂ X₁ (by rw[hps] at hl₂;simp at hl₂;exact B4 (B4 hl₂ h8) (B5 _ _)) (((K₀.trans K₁).mono λxx h=>h.elim).trans K₂) hnone
theorem RelL.drop{h:Heap}:∀{vs:List V}{xs:List Value} (n:Nat),RelL B ρ h vs xs→RelL B ρ h (vs.drop n) (xs.drop n):=by
 intro vs
 induction vs with
 |nil=>intro xs n r;refine r.nilE ?_;show List.drop_nil;show List.drop_nil;exact .nil
 |cons v vs ih=>intro xs n r;cases n with
  |zero=>exact r
  |succ n=>exact r.consE λy zs r0 r1=>ih n r1
theorem IntsAre.takeL{xs:List Value}{l:List Int}(n:Nat)(x:IntsAre xs l):IntsAre (xs.take n) (l.take n):=by
 induction x generalizing n with
 |nil=>induction n using Nat.casesOn<;>exact .nil
 |cons i t r ih=>
  induction n using Nat.casesOn with
  |zero=>exact .nil
  |succ n=>exact .cons i t (ih n)
theorem QV.slice(hB:B.NoLimit)(S:St prog w B ρ C s){vs:List V}{items:Array Value}{x y:Value}(hr:RelL B ρ s.heap vs items.toList)(hl:vs.length≤100000):
  QV prog w B ρ C s (.cell C.length) (C++[(.list vs,0)]) (.ref (s.heap.objs.size+1)) { s with heap:=(s.heap.push { cls:=.type "slice",data:=.fields #[x,y,.none] }).push { cls:=.type "list",data:=.seq items } }:=by
 refine oA (S.still (tk:=s.toks) (ay s.heap { cls:=.type "slice",data:=.fields #[x,y,.none] })) λS₁ K₁=>?_
 have q:=QV.list S₁ hB (items:=items) (RelL.keep K₁ S.hr (aC s) hr) hl s.toks
 rw[show({ s with heap:=s.heap.push { cls:=.type "slice",data:=.fields #[x,y,.none] },toks:=s.toks }:Shared).heap.objs.size=s.heap.objs.size+1 from Heap.size_push ..] at q
 exact QV.after K₁ q
theorem mK(hB:B.NoLimit)(T:Tp B mg mb)(D:Snd prog w B mg E k)(R:Rm A k)(S:St prog w B ρ C s)(F:Fm B ρ sc env σ s m cm){x:Str}{xp p p2:Pos}{hi:Expr}{v:V}
  (e:(bd (lift (eE sc x σ)) λa=>bd (E.expr sc hi σ) λb=>match a,b with
   |.fro xs,.int n=>λC=>if 0≤n∧(n≤10000∧xs.length≤10000) then new (.list ((xs.take n.toNat).map .int)) C else none
   |_,_=>no) C=some (v,C')):wpAny (model prog w) A (eval (.Subscript (.Name x xp) (.Slice none (some hi) none p2) p) env) (QV prog w B ρ C s v C') EF s:=by
 refine eM e λa e1 f1=>?_
 refine bc f1 λb C₁ e2 f2=>?_
 refine wpAny_Subscript_list_slice (B3 (jb T S F e1) (λo s₁ qq=>qq.un λρ₁ S₁ K₁ r₁=>wpAny_evalPart_none (wpAny_evalPart_some (B3 (D.expr e2 R S₁ (F.keep K₁ S)) (λy s₂ qq=>qq.un λρ₂ S₂ K₂ r₂=>?_) λxx yy h=>h))) λxx yy h=>h) (λxx yy=>rfl)
 induction a using V.casesOn with
 |fro xs=>induction b using V.casesOn with
  |int n=>
   refine r₁.froE λl vs hb hi'=>r₂.intE λt=>kI f2 λhc f2=>?_
   refine cS2 f2 ?_
   have hl:s₂.heap.IsList l vs.toArray:=by refine oEA hb λo ho r=>?_;exact iEA o (S₂.base _ _ ho) r
   have hz:=IntsAre.len hi'
   refine⟨l,vs.toArray,none,some _,rfl,hl,by show sizeLine_eq;simp;exact B4 (B4 (Cg hz) hc.2.2) (B5 _ _),.none,.int _ _,?_⟩
   refine oE (Int.eq_ofNat_of_zero_le hc.1) λj zr0=>?_;show zr0
   show slicePick_upto'
   exact QV.after K₁ (QV.after K₂ (QV.slice hB S₂ (RelL.ofInts (IntsAre.takeL j hi')) (by simp;exact B4 (B4 (Cj _) (Nat.min_le_right _ _)) (B4 hc.2.2 (B5 _ _)))))
  |_=>exact nos f2
 |_=>exact nos f2
theorem jR(hB:B.NoLimit)(T:Tp B mg mb)(D:Snd prog w B mg E k)(R:Rm A k)(S:St prog w B ρ C s)(F:Fm B ρ sc env σ s m cm){x:Str}{xp p p2:Pos}{lo:Expr}{v:V}
  (e:(bd (lift (eE sc x σ)) λa=>bd (E.expr sc lo σ) λb=>match a,b with
   |.cell c,.int n=>bd (av c) λo=>match o with
    |.list vs=>λC=>if 0≤n∧vs.length≤20000 then new (.list (vs.drop n.toNat)) C else none
    |_=>no
   |_,_=>no) C=some (v,C')):wpAny (model prog w) A (eval (.Subscript (.Name x xp) (.Slice (some lo) none none p2) p) env) (QV prog w B ρ C s v C') EF s:=by
 refine eM e λa e1 f1=>?_
 refine bc f1 λb C₁ e2 f2=>?_
 refine wpAny_Subscript_list_slice (B3 (jb T S F e1) (λo s₁ qq=>qq.un λρ₁ S₁ K₁ r₁=>wpAny_evalPart_some (B3 (D.expr e2 R S₁ (F.keep K₁ S)) (λy s₂ qq=>qq.un λρ₂ S₂ K₂ r₂=>wpAny_evalPart_none ?_) λxx yy h=>h)) λxx yy h=>h) (λxx yy=>rfl)
 induction a using V.casesOn with
 |cell c=>induction b using V.casesOn with
  |int n=>
   refine r₁.cellE λa ea=>r₂.intE λt=>bo f2 λo₁ k₁ q₁ f3=>?_
   induction o₁ using O.casesOn with
   |dict _=>exact nos f3
   |list vs=>
    refine kI f3 λhc f3=>?_
    refine cS2 f3 ?_
    refine kQ (bw S₂.hr q₁ (bK K₂.pre ea)) λitems hx hr hz hb=>?_
    refine⟨_,items,some _,none,rfl,hx.isList,by show sizeLine_eq;exact B4 (Cg (Eq.symm hz)) (B4 hb (B5 _ _)),.int _ _,.none,?_⟩
    refine oE (Int.eq_ofNat_of_zero_le hc.1) λj zr0=>?_;show zr0
    show slicePick_from'
    exact QV.after K₁ (QV.after K₂ (QV.slice hB S₂ (RelL.drop j hr) (by simp;exact Nat.le_add_right_of_le hb)))
  |_=>exact nos f2
 |_=>exact nos f2
abbrev QT(prog:Program)(w:World)(B:Heap)(ρ:List Addr)(C:CH)(s:Shared)(r:Bool)(C':CH)(b:Bool)(s':Shared):Prop:=b=r∧QU prog w B ρ C s C' s'
theorem xh(D:Snd prog w B mg E k)(R:Rm A k){op:BoolOp}:∀{es:List Expr}{C C':CH}{ρ:List Addr}{s:Shared}{m cm:Str→Option Value}{r:Bool},St prog w B ρ C s→Fm B ρ sc env σ s m cm→
  pJ op (λe=>E.test sc e σ) es C=some (r,C')→wpAny (model prog w) A (allTrue op es env) (QT prog w B ρ C s r C') EF s:=λ{es}=>by
 induction es with
 |nil=>
  intro C C' ρ s m cm r S F e
  refine cS2 e ?_
  cases op
  ·exact wpAny_allTrue_And_nil ⟨rfl,ρ,S,Keep.refl s⟩
  ·exact wpAny_allTrue_Or_nil ⟨rfl,ρ,S,Keep.refl s⟩
 |cons x es ih'=>
  intro C C' ρ s m cm r S F e
  refine bc e λb C₁ e1 f1=>?_
  induction op using PySem.BoolOp.casesOn with
  |And=>
   refine wpAny_allTrue_And_cons (B3 (D.test e1 R S F) (λy s₁ ⟨hy,ρ₁,S₁,K₁⟩=>?_) λxx yy h=>h)
   subst hy
   induction y using Bool.casesOn with
   |false=>refine cS2 f1 ?_;exact⟨rfl,ρ₁,S₁,K₁⟩
   |true=>exact B3 (ih' S₁ (F.keep K₁ S) f1) (λz s₂ qz=>by refine oA qz λhz q=>?_;exact⟨hz,QU.after K₁ q⟩) λxx yy h=>h
  |Or=>
   refine wpAny_allTrue_Or_cons (B3 (D.test e1 R S F) (λy s₁ ⟨hy,ρ₁,S₁,K₁⟩=>?_) λxx yy h=>h)
   subst hy
   induction y using Bool.casesOn with
   |true=>refine cS2 f1 ?_;exact⟨rfl,ρ₁,S₁,K₁⟩
   |false=>exact B3 (ih' S₁ (F.keep K₁ S) f1) (λz s₂ qz=>by refine oA qz λhz q=>?_;exact⟨hz,QU.after K₁ q⟩) λxx yy h=>h
theorem tM(D:Snd prog w B mg E (k+1))(R:Rm A (k+1))(S:St prog w B ρ C s)(F:Fm B ρ sc env σ s m cm){e:Expr}{r:Bool}(h:xX E sc e σ C=some (r,C')):
  wpAny (model prog w) A (isTrue e env (eval e env)) (QT prog w B ρ C s r C') EF s:=by
 induction e using PySem.Expr.casesOn with
 |UnaryOp op x p=>induction op using PySem.UnaryOp.casesOn with
  |Not=>exact bc h λb C₁ e1 f1=>iv f1 (wpAny_isTrue_Not (B3 (D.test e1 R S F) (λy s₁ qz=>by refine oA qz λhy q=>?_;exact⟨by show hy;rfl,q⟩) λxx yy h=>h))
  |_=>exact nos h
 |BoolOp op es p=>exact wpAny_isTrue_BoolOp (xh D R S F h)
 |Compare l ops rs p=>induction ops using List.casesOn with
  |nil=>exact nos h
  |cons op ops=>induction ops using List.casesOn with
   |cons _ _=>exact nos h
   |nil=>cases rs with
    |nil=>exact nos h
    |cons r rs=>cases rs with
     |cons _ _=>exact nos h
     |nil=>exact vM D R S F h
 |Call f args ks p=>
  refine bc h λv C₁ e1 f1=>?_
  refine wpAny_isTrue_value (QV.go (D.expr e1 R S F) λy s₁ ρ₁ S₁ K₁ r₁=>?_)
  induction v using V.casesOn with
  |bool b=>exact r₁.boolE (iv f1 (wpAny_truthy_bool ⟨rfl,ρ₁,S₁,K₁⟩))
  |_=>exact nos f1
 |_=>exact nos h
theorem w0:∀a,W0 a→Wf env a:=λxx h=>h.elim
theorem QFW.after{W W':Addr→Prop}(hW:∀a,W a→W' a)(K:Keep W ρ C s ρ' C₁ s₁)(q:QFW W' prog w B ρ' C₁ s₁ sc env σ' C' s'):QFW W' prog w B ρ C s sc env σ' C' s':=
 q.un λρ₂ m' cm' S K' F=>⟨ρ₂,m',cm',S,(K.mono hW).trans K',F⟩
theorem mS{W:Addr→Prop}(hW:Wr sc env W)(S:St prog w B ρ C s)(F:Fm B ρ sc env σ s m cm){x:Str}{v:V}{y:Value}(hx:aM sc x=true)(r:Rel B ρ s.heap v y):
  wpAny (model prog w) A (bindName env x y) (λxx s'=>QFW W prog w B ρ C s sc env ((x,v)::σ) C s') EF s:=wpAny_bindName (kA hW S F hx r)
theorem ng:∀{ts:List Expr}{xs:List Str},ba ts=some xs→(assignEach ts env).map (·.1)=xs.map (λxx=>false)∧(assignEach ts env).length=xs.length:=λ{ts}=>by
 induction ts with
 |nil=>
  intro xs h
  refine cS1 h ?_;exact⟨rfl,rfl⟩
 |cons t ts ih'=>
  intro xs h
  induction t using PySem.Expr.casesOn with
  |Name x p=>
   replace h:(match ba ts with|some l=>some (x::l)|none=>none)=some xs:=h
   cases hl:ba ts with
   |none=>rw[hl] at h;exact nos h
   |some l=>
    rw[hl] at h
    refine cS1 h ?_
    refine oA (ih' hl) λh1 h2=>?_
    exact⟨congrArg (false::·) h1,congrArg Nat.succ h2⟩
  |_=>exact nos h
theorem dO:∀{xs:List Str}{vs:List V}{σ σ':Env},aW xs vs σ=some σ'→xs.length=vs.length
 |[],[],_,_,_=>rfl
 |x::xs,v::vs,σ,σ',h=>congrArg (·+1) (dO (xs:=xs) (vs:=vs) h)
 |[],_::_,_,_,h=>by exact cNo h
 |_::_,[],_,_,h=>by exact cNo h
inductive Stores(prog:Program)(w:World)(A:Around)(env:PySem.Env):List (Value→Sem Unit)→List Str→Prop
 |nil:Stores prog w A env [] []
 |cons {f:Value→Sem Unit}{x:Str}{fs:List (Value→Sem Unit)}{xs:List Str}:(∀y (s:Shared) (Q:Unit→Shared→Prop),wpAny (model prog w) A (bindName env x y) Q EF s→wpAny (model prog w) A (f y) Q EF s)→Stores prog w A env fs xs→Stores prog w A env (f::fs) (x::xs)
theorem ju{W:Addr→Prop}(hW:Wr sc env W):∀{xs:List Str}{vs:List V}{ys:List Value}{fs:List (Value→Sem Unit)}{C:CH}{ρ:List Addr}{s:Shared}{m cm:Str→Option Value}{σ σ':Env},(∀x∈xs,aM sc x=true)→St prog w B ρ C s→Fm B ρ sc env σ s m cm→RelL B ρ s.heap vs ys→aW xs vs σ=some σ'→
  Stores prog w A env fs xs→
  wpAny (model prog w) A (assignInOrder fs ys) (λxx s'=>QFW W prog w B ρ C s sc env σ' C s') EF s:=λ{xs}=>by
 induction xs with
 |nil=>
  intro vs ys fs C ρ s m cm σ σ' _ S F h e hf
  induction vs using List.casesOn with
  |cons _ _=>exact cNo e
  |nil=>
   refine RelL.nilE h ?_
   cases hf
   refine cS1 e ?_
   exact assignInOrder_nil ⟨ρ,m,cm,S,Keep.refl s,F⟩
 |cons x xs ih=>
  intro vs ys fs C ρ s m cm σ σ' ho S F h e hf
  induction vs using List.casesOn with
  |nil=>exact cNo e
  |cons v vs=>
   refine RelL.consE h λy ys r rr=>?_
   clear h
   cases hf with|cons h1 h2=>
   refine assignInOrder_cons ?_
   refine B3 (h1 _ _ _ (mS hW S F (ho x B9) r)) (λxx s₁ qq=>qq.un λρ₁ m₁ cm₁ S₁ K₁ F₁=>?_) λxx yy h=>h
   refine B3 (ih (λz hz=>ho z (B6 _ hz)) S₁ F₁ (RelL.keep K₁ S.hr (λa ha=>F.noSeq a (hW.sub a ha)) rr) e h2) (λxx s₂ q=>QFW.after (λxx h=>h) K₁ q) λxx yy h=>h
theorem pz:∀{ts:List Expr}{xs:List Str},ba ts=some xs→
  Stores prog w A env ((assignEach ts env).map (·.2)) xs:=λ{ts}=>by
 induction ts with
 |nil=>
  intro xs h
  refine cS1 h ?_;exact .nil
 |cons t ts ih'=>
  intro xs h
  induction t using PySem.Expr.casesOn with
  |Name x p=>
   replace h:(match ba ts with|some l=>some (x::l)|none=>none)=some xs:=h
   cases hl:ba ts with
   |none=>rw[hl] at h;exact nos h
   |some l=>
    rw[hl] at h
    refine cS1 h ?_
    exact .cons (λy s Q hq=>B1 (wpAny_standAt hq)) (ih' hl)
  |_=>exact nos h
theorem qL{W:Addr→Prop}(hW:Wr sc env W)(hh:A.handled=none)(S:St prog w B ρ C s)(F:Fm B ρ sc env σ s m cm){t:Expr}{v:V}{y:Value}(ho:aq sc t=true)(e:target t v σ=some σ')(r:Rel B ρ s.heap v y):
  wpAny (model prog w) A (assign t env y) (λxx s'=>QFW W prog w B ρ C s sc env σ' C s') EF s:=by
 induction t using PySem.Expr.casesOn with
 |Name x p=>
  refine cS1 e ?_
  exact B1 (wpAny_standAt (mS hW S F ho r))
 |Tuple ts kk p=>induction v using V.casesOn with
  |tup vs=>
   refine Rel.tupE r λxx yy ht hl=>?_
   clear r
   replace e:(match ba ts with|some xs=>if bt xs then aW xs vs σ else none|none=>none)=some σ':=e
   replace ho:(match ba ts with|some xs=>xs.all (aM sc)|none=>false)=true:=ho
   cases hn:ba ts with
   |none=>rw[hn] at e;exact nos e
   |some xs=>
   rw[hn] at e ho
   replace e:(if bt xs then aW xs vs σ else none)=some σ':=e
   by_cases hd:bt xs=true
   case neg=>rw[if_neg hd] at e;exact nos e
   rw[if_pos hd] at e
   have hx:=dO e
   refine oA (ng (env:=env) hn) λh1 h2=>?_
   have hz:=hl.length.trans Ce
   refine assign_Tuple_tuple hh ht.isTup (by lia) ?_ λh' he=>?_
   ·show propext (List.findIdx?_eq_none_iff ..)
    intro q hq
    have:q.1∈(assignEach ts env).map (·.1):=Cl.mpr ⟨q,hq,rfl⟩
    rw[h1] at this
    refine oEA (Cl.mp this) λxx xx hf=>?_
    refine rL (hf ..) ?_;rfl
   ·refine oA (S.still (tk:=s.toks) (h':=h') (λb o hb=>he b o (Nat.ne_of_lt (Heap.lt_size hb)) hb)) λS₁ K₁=>?_
    have F₁:=F.keep K₁ S
    exact B3 (ju hW (CA.mp ho) S₁ F₁ (RelL.keep K₁ S.hr (aC _) hl) e (pz hn)) (λxx s₂ q=>QFW.after (λxx h=>h.elim) K₁ q) λxx yy h=>h
  |_=>exact nos e
 |_=>exact nos e
theorem uV(hh:A.handled=none)(S:St prog w B ρ C s)(F:Fm B ρ sc env σ s m cm){t:Expr}{v:V}{y:Value}(ho:aq sc t=true)(e:target t v σ=some σ')(r:Rel B ρ s.heap v y):
  wpAny (model prog w) A (assign t env y) (λxx s'=>QF prog w B ρ C s sc env σ' C s') EF s:=qL Wr.all hh S F ho e r
section
theorem RelL.mono{h h':Heap}(ht:∀a items,exT h a items→exT h' a items){v:List V}{y:List Value}(x:RelL B ρ h v y):RelL B ρ h' v y:=
 RelL.rec (motive_1:=λv y xx=>Rel B ρ h' v y) (motive_2:=λv y xx=>RelL B ρ h' v y) .nn .bool .int .str (λhx xx ih=>.tup (ht _ _ hx) ih) .cell .fro .nil (λxx yy a b=>.cons a b) x
theorem Rel.mono{h h':Heap}(ht:∀a items,exT h a items→exT h' a items){v:V}{y:Value}(x:Rel B ρ h v y):Rel B ρ h' v y:=by
 cases RelL.mono ht (.cons x .nil) with|cons a _=>exact a
theorem K.Is.mono{h h':Heap}(ht:∀a items,exT h a items→exT h' a items){j:K}{v:Value}(hj:j.Is prog w h v):j.Is prog w h' v:=by
 induction j using K.casesOn with
 |i n=>exact hj
 |t ns=>refine pk hj λa items h1 h2 h3=>?_;exact t5 a items h1 (ht _ _ h2) h3
theorem Ents.mono{h h':Heap}(ht:∀a items,exT h a items→exT h' a items){es:List (K×V)}{ds:List DictEntry}(x:Ents prog w B ρ h es ds):Ents prog w B ρ h' es ds:=by
 induction x with
 |nil=>exact .nil
 |cons a b c _ ih=>exact .cons a (K.Is.mono ht b) (Rel.mono ht c) ih
theorem ORel.mono{h h':Heap}(ht:∀a items,exT h a items→exT h' a items){o:O}{a:Addr}(x:ORel prog w B ρ h o a)(e:∀ob,h.get? a=some ob→h'.get? a=some ob):ORel prog w B ρ h' o a:=by
 cases x with
 |list h1 h2 h3=>refine oE h1 λn ho=>?_;exact .list ⟨n,e _ ho⟩ (RelL.mono ht h2) h3
 |dict h1 h2 h3 h4 h5 h6 h7=>exact .dict (e _ h1) h2 h3 (Ents.mono ht h4) h5 h6 h7
def qo(o:Obj):Prop:=∀items n,o≠{ cls:=.type "tuple",data:=.seq items n }
theorem gm{o:Obj}(h:o.cls≠.type "tuple"):qo o:=λitems n e=>h (by show e;rfl)
theorem mw{o:Obj}{es:Array DictEntry}{ep:Nat}(h:o.data=.dict es ep):qo o:=λitems n e=>by rw[e] at h;injection h
structure Own(B:Heap)(wr:List Addr)(ρ:List Addr)(h:Heap):Prop where
 off:∀b∈wr,b∉ρ
 base:∀b∈wr,B.get? b=none
 live:∀b∈wr,∃o,h.get? b=some o∧qo o
abbrev But(wr:List Addr)(h h':Heap):Prop:=∀b o,b∉wr→h.get? b=some o→h'.get? b=some o
variable {wr:List Addr}{h':Heap}{tk:Nat}
theorem Own.tups(O:Own B wr ρ s.heap)(hs:But wr s.heap h'):∀a items,exT s.heap a items→exT h' a items:=λa items ⟨n,e⟩=>
 ⟨n,hs a _ (λha=>by refine oEA (O.live a ha) λo e' hc=>?_;rw[e] at e';refine cSo e' λzx=>?_;clear e';subst zx;exact hc _ _ rfl) e⟩
theorem St.quiet(S:St prog w B ρ C s)(O:Own B wr ρ s.heap)(hs:But wr s.heap h'):St prog w B ρ C { s with heap:=h',toks:=tk } where
 hr:=⟨S.hr.len,S.hr.nodup,λc p a e ea=>ORel.mono (O.tups hs) (S.hr.obj c p a e ea) λob eo=>hs a ob (λha=>O.off a ha (List.mem_of_getElem? ea)) eo⟩
 base:=λb o e=>hs b o (λhb=>by rw[O.base b hb] at e;exact cNo e) (S.base b o e)
 off:=S.off
 gens:=S.gens
theorem Fm.quiet(F:Fm B ρ sc env σ s m cm)(O:Own B wr ρ s.heap)(hw:∀b∈wr,¬Wf env b)(hs:But wr s.heap h'):Fm B ρ sc env σ { s with heap:=h',toks:=tk } m cm where
 fn:=F.fn
 glob:=F.glob
 blt:=F.blt
 kinds:=F.kinds
 ns:=by refine jk F.ns λo es ep ho r=>?_;exact oU o es ep (hs _ o (λhb=>hw _ hb (.inl rfl)) ho) r
 cel:=λx c e=>by refine oEA (F.cel x c e) λo ho hd=>?_;exact iEA o (hs _ o (λhb=>hw _ hb (.inr ⟨x,e⟩)) ho) hd
 bound:=F.bound
 apart:=F.apart
 offL:=F.offL
 offC:=F.offC
 var:=λx v e=>⟨λh=>by refine oEA ((F.var x v e).1 h) λy h1 h2=>?_;exact iEA y h1 (Rel.mono (O.tups hs) h2),λh=>by refine oEA ((F.var x v e).2 h) λy h1 h2=>?_;exact iEA y h1 (Rel.mono (O.tups hs) h2)⟩
theorem Keep.quiet(K:Keep W ρ₀ C₀ s₀ ρ C s)(dead:∀b∈wr,s₀.heap.get? b=none)(off:∀b∈wr,b∉ρ)(hs:But wr s.heap h'):Keep W ρ₀ C₀ s₀ ρ C { s with heap:=h',toks:=tk } where
 old:=λa o e hm nw=>hs a o (λhb=>by rw[dead a hb] at e;exact cNo e) (K.old a o e hm nw)
 ver:=λc p a e ea=>by
  refine cv (K.ver c p a e ea) λp' e' l' r=>?_
  exact iEa3 p' e' l' (λq=>⟨(r q).1,λo eo=>hs a o (λhb=>off a hb (List.mem_of_getElem? (bK K.pre ea))) ((r q).2 o eo)⟩)
 new:=K.new
 pre:=K.pre
 live:=λa o e=>by refine oE (K.live a o e) λo' e'=>?_;exact⟨o',hs a o' (λhb=>by rw[dead a hb] at e;exact cNo e) e'⟩
 os:=K.os
theorem Own.keep(O:Own B wr ρ s.heap)(K:Keep W ρ C s ρ' C' s')(hw:∀b∈wr,¬W b):Own B wr ρ' s'.heap where
 off:=λb hb hm=>by
  refine oEA (O.live b hb) λo e xx=>?_
  have:=K.new b hm (O.off b hb)
  rw[e] at this;exact cNs this
 base:=O.base
 live:=λb hb=>by refine oEA (O.live b hb) λo e hc=>?_;exact iEA o (K.old b o e (O.off b hb) (hw b hb)) hc
structure Tn(prog:Program)(w:World)(B:Heap)(A:Around)(t:Expr)(I:Addr)(fp wr:List Addr)(vs:List V)(src:Option (Nat×Nat))(P Md:Nat→Value→Heap→Prop)(Sta:Nat→Heap→Prop)
  (Inv:List Addr→CH→Heap→Prop):Prop where
 kt:KTurns prog w A t I fp wr vs.length P Md Sta
 self:∀i (s:Shared) (Q:Value→Shared→Prop) (E:Value→Shared→Prop),Sta i s.heap→Q (.ref I) s→wpAny (model prog w) A (pyIter (.ref I)) Q E s
 val:∀{i v y ρ C h},vs[i]?=some v→P i y h→Inv ρ C h→Rel B ρ h v y
 inv:∀{ρ C h h'},Inv ρ C h→(∀a items,exT h a items→exT h' a items)→Inv ρ C h'
 stay:∀{i ρ C s W ρ' C' s'},Sta i s.heap→Inv ρ C s.heap→St prog w B ρ C s→Keep W ρ C s ρ' C' s'→b8 W s→(∀b∈wr,b∉ρ∧¬W b)→bh src C'=some ((),C')→Sta i s'.heap∧Inv ρ' C' s'.heap
 live:∀{i h},Sta i h→∀b∈wr,∃o,h.get? b=some o∧o.cls≠.type "tuple"
theorem mU{src:Option (Nat×Nat)}{u:Unit}(h:bh src C=some (u,C')):C'=C∧bh src C=some ((),C):=by
 unfold bh at h ⊢
 induction src using Option.casesOn with
 |none=>refine cS2 h ?_;exact⟨rfl,rfl⟩
 |some p=>
  obtain⟨c,n⟩:=p
  simp only at h ⊢
  cases e:C[c]? with
  |none=>simp only[e] at h;exact cNo h
  |some p=>
   simp only[e] at h ⊢
   split at h
   ·rename_i hq;refine cS2 h ?_;exact⟨rfl,if_pos hq⟩
   ·exact cNo h
theorem dy{α:Type}{src:Option (Nat×Nat)}{f:Unit→M α}{r:α×CH}(h:bd (bh src) f C=some r):bh src C=some ((),C)∧f () C=some r:=by
 refine bc h λu C₁ e h'=>?_
 refine oA (mU e) λzr0 h2=>?_;subst zr0
 exact⟨h2,h'⟩
def BF(B:Heap)(ρ':List Addr)(s':Shared)(f:Flow):Fl→Prop
 |.next=>f=.next
 |.cont=>f=.cont
 |.ret v=>∃y,f=.ret y∧Rel B ρ' s'.heap v y
inductive Fw(prog:Program)(w:World)(B:Heap)(ρ:List Addr)(C:CH)(s:Shared)(sc:Scope)(env:PySem.Env)(fl:Fl)(σ':Env)(C':CH)(f:Flow)(s':Shared):Prop
 |mk (ρ':List Addr) (m' cm':Str→Option Value) (S:St prog w B ρ' C' s') (K:Keep (Wf env) ρ C s ρ' C' s') (F:Fm B ρ' sc env σ' s' m' cm') (r:BF B ρ' s' f fl)
theorem Fw.un{fl:Fl}{f:Flow}{P:Prop}(q:Fw prog w B ρ C s sc env fl σ' C' f s')(k:∀ρ' m' cm',St prog w B ρ' C' s'→Keep (Wf env) ρ C s ρ' C' s'→Fm B ρ' sc env σ' s' m' cm'→BF B ρ' s' f fl→P):P:=by cases q with|mk a b c d e f g=>exact k a b c d e f g
theorem Fw.after{fl:Fl}{f:Flow}(K:Keep (Wf env) ρ C s ρ' C₁ s₁)(q:Fw prog w B ρ' C₁ s₁ sc env fl σ' C' f s'):Fw prog w B ρ C s sc env fl σ' C' f s':=
 q.un λρ₂ m' cm' S K' F r=>⟨ρ₂,m',cm',S,K.trans K',F,r⟩
theorem w4(D:Snd prog w B mg E k)(R:Rm A k)(S:St prog w B ρ C s)(F:Fm B ρ sc env σ s m cm){st:Stmt}{fl:Fl}(e:E.stmt sc st σ C=some ((fl,σ'),C')):
  wpAny (model prog w) A (exec st env) (Fw prog w B ρ C s sc env fl σ' C') EF s:=by
 refine B3 (D.stmt e R S F) (λf s₁ h=>?_) λxx yy h=>h
 induction fl using Fl.casesOn with
 |next=>obtain⟨h1,ρ₁,m₁,cm₁,a,b,c⟩:=h;exact⟨ρ₁,m₁,cm₁,a,b,c,h1⟩
 |cont=>obtain⟨h1,ρ₁,m₁,cm₁,a,b,c⟩:=h;exact⟨ρ₁,m₁,cm₁,a,b,c,h1⟩
 |ret v=>refine wY h λy h1 ρ₁ m₁ cm₁ a b c d=>?_;exact⟨ρ₁,m₁,cm₁,a,b,c,y,h1,d⟩
theorem fj(D:Snd prog w B mg E k)(R:Rm A k):∀{b:List Stmt}{C C':CH}{ρ:List Addr}{s:Shared}{m cm:Str→Option Value}{σ σ':Env}{fl:Fl},St prog w B ρ C s→Fm B ρ sc env σ s m cm→
  execs (E.stmt sc) b σ C=some ((fl,σ'),C')→wpAny (model prog w) A (PySem.execs b env) (Fw prog w B ρ C s sc env fl σ' C') EF s:=λ{b}=>by
 induction b with
 |nil=>
  intro C C' ρ s m cm σ σ' fl S F e
  refine cS3 e ?_
  exact wpAny_execs_nil ⟨ρ,m,cm,S,Keep.refl s,F,rfl⟩
 |cons x b ih'=>
  intro C C' ρ s m cm σ σ' fl S F e
  obtain⟨⟨fl₁,σ₁⟩,C₁,e1,f1⟩:=cC e
  refine wpAny_execs_cons (B3 (w4 D R S F e1) (λf s₁ q=>?_) λxx yy h=>h)
  induction fl₁ using Fl.casesOn with
  |next=>
   obtain⟨ρ₁,m₁,cm₁,S₁,K₁,F₁,rfl⟩:=q
   exact B3 (ih' S₁ F₁ f1) (λg s₂ q=>Fw.after K₁ q) λxx yy h=>h
  |cont=>
   refine cS3 f1 ?_
   obtain⟨ρ₁,m₁,cm₁,S₁,K₁,F₁,rfl⟩:=q
   exact⟨ρ₁,m₁,cm₁,S₁,K₁,F₁,rfl⟩
  |ret v=>
   refine cS3 f1 ?_
   obtain⟨ρ₁,m₁,cm₁,S₁,K₁,F₁,y,rfl,r⟩:=q
   exact⟨ρ₁,m₁,cm₁,S₁,K₁,F₁,y,rfl,r⟩
end
theorem But.trans{wr:List Addr}{h h' h'':Heap}(a:But wr h h')(b:But wr h' h''):But wr h h'':=λx o hx e=>b x o hx (a x o hx e)
theorem drop_cases{α:Type}{l:List α}{i:Nat}(hi:i≤l.length):(i=l.length∧l.drop i=[])∨(i<l.length∧∃v,l[i]?=some v∧l.drop i=v::l.drop (i+1)):=by
 rcases Nat.lt_or_eq_of_le hi with h|h
 ·exact .inr ⟨h,l[i],List.getElem?_eq_getElem h,Cr h⟩
 ·exact .inl ⟨h,by show h;exact List.drop_length⟩
theorem mJ{src:Option (Nat×Nat)}{tg:V→Env→Option Env}{body:Env→M (Fl×Env)}{l:List V}{r:(Fl×Env)×CH}(e:sO src tg body l σ C=some r):bh src C=some ((),C):=by
 cases l<;>exact(dy e).1
inductive LI(prog:Program)(w:World)(B:Heap)(env:PySem.Env)(sc:Scope)(ρ₀:List Addr)(C₀:CH)(s₀:Shared)(wr:List Addr)(vs:List V)(Sta:Nat→Heap→Prop)(Inv:List Addr→CH→Heap→Prop)(L:List V→Env→CH→Prop)(n:Nat)(s:Shared):Prop
 |mk (i:Nat) (ρ:List Addr) (C:CH) (m cm:Str→Option Value) (σ:Env) (hi:i≤vs.length) (hn:n=vs.length+1-i) (S:St prog w B ρ C s) (F:Fm B ρ sc env σ s m cm) (K:Keep (Wf env) ρ₀ C₀ s₀ ρ C s) (O:Own B wr ρ s.heap) (h:Sta i s.heap) (I:Inv ρ C s.heap) (e:L (vs.drop i) σ C)
theorem tE(D:Snd prog w B mg E k)(R:Rm A k){t:Expr}{body:List Stmt}(ho:aq sc t=true){I:Addr}{fp wr:List Addr}{vs:List V}{src:Option (Nat×Nat)}{P Md:Nat→Value→Heap→Prop}{Sta:Nat→Heap→Prop}
  {Inv:List Addr→CH→Heap→Prop} (T:Tn prog w B A t I fp wr vs src P Md Sta Inv) (dead:∀b∈wr,s₀.heap.get? b=none) (hw:∀b∈wr,¬Wf env b)
  (S:St prog w B ρ C s) (F:Fm B ρ sc env σ s m cm) (K:Keep (Wf env) ρ₀ C₀ s₀ ρ C s) (O:Own B wr ρ s.heap) (h0:Sta 0 s.heap) (hI:Inv ρ C s.heap) {fl:Fl}{X:Value→Shared→Prop}
  (e:sO src (target t) (λσ'=>execs (E.stmt sc) body σ') vs σ C=some ((fl,σ'),C')) :
  codeAny (model prog w) A (.forLoop t (.ref I) body [] env) (λr s'=>match r with|.ok f=>Fw prog w B ρ₀ C₀ s₀ sc env fl σ' C' f s'|.error e=>X e s') s:=by
 refine codeAny_forLoop_any (LI prog w B env sc ρ₀ C₀ s₀ wr vs Sta Inv λvs σ C=>sO src (target t) (λσ'=>execs (E.stmt sc) body σ') vs σ C=some ((fl,σ'),C')) ?_ (vs.length+1) ⟨0,ρ,C,m,cm,σ,Nat.zero_le _,rfl,S,F,K,O,h0,hI,e⟩
 clear h0 hI e O K F S
 rintro n s ⟨i,ρ,C,m,cm,σ,hi,rfl,S,F,K,O,h0,hI,e⟩
 rcases drop_cases hi with⟨rfl,hd⟩|⟨hlt,v,hv,hd⟩
 ·rw[hd] at e
  obtain⟨hst,e⟩:=dy e
  refine cS3 e ?_
  refine T.kt.done _ _ _ h0 λh' tk hb=>?_
  exact wpAny_execs_nil ⟨ρ,m,cm,S.quiet O hb,K.quiet dead O.off hb,F.quiet O hw hb,rfl⟩
 ·rw[hd] at e
  obtain⟨hst,e⟩:=dy e
  refine eM e λσ₁ e1 e=>?_
  obtain⟨⟨fl₁,σ₂⟩,C₂,e2,e⟩:=cC e
  refine T.kt.item i _ _ _ hlt h0 λy h' tk hMd hb=>?_
  refine T.kt.go i y _ _ _ hMd λh'' hP hSt hb'=>?_
  have hbb:But wr s.heap h'':=But.trans hb hb'
  have S₂:=S.quiet (tk:=tk) O hbb
  have F₂:=F.quiet (tk:=tk) O hw hbb
  have K₂:=K.quiet (tk:=tk) dead O.off hbb
  have O₂:Own B wr ρ h'':=⟨O.off,O.base,λb hb=>by obtain⟨o,e,hc⟩:=T.live hSt b hb;exact iEA o e (gm hc)⟩
  have hI₂:=T.inv hI (O.tups hbb)
  refine B3 (uV R.hd S₂ F₂ ho e1 (T.val hv hP hI₂)) (λxx s₃ qq=>qq.un λρ₃ m₃ cm₃ S₃ K₃ F₃=>?_) λxx yy h=>h.elim
  refine B3 (fj D R S₃ F₃ e2) (λf s₄ qq=>qq.un λρ₄ m₄ cm₄ S₄ K₄ F₄ hf=>?_) λxx yy h=>h.elim
  have K₅:=K₃.trans K₄
  have more:sO src (target t) (λσ'=>execs (E.stmt sc) body σ') (vs.drop (i+1)) σ₂ C₂=some ((fl,σ'),C')→
    ∃m_1,m_1<vs.length+1-i∧LI prog w B env sc ρ₀ C₀ s₀ wr vs Sta Inv (λvs σ C=>sO src (target t) (λσ'=>execs (E.stmt sc) body σ') vs σ C=some ((fl,σ'),C')) m_1 s₄:=λe=>by
   obtain⟨q1,q2⟩:=T.stay (s:={ s with heap:=h'',toks:=tk }) hSt hI₂ S₂ K₅ F₂.noSeq (λb hb=>⟨O.off b hb,hw b hb⟩) (mJ e)
   exact⟨vs.length+1-(i+1),Nat.sub_lt_sub_left (Nat.lt_succ_of_lt hlt) (Nat.lt_succ_self i),i+1,ρ₄,C₂,m₄,cm₄,σ₂,hlt,rfl,S₄,F₄,K₂.trans K₅,Own.keep (s:={ s with heap:=h'',toks:=tk }) O₂ K₅ hw,q1,q2,e⟩
  induction fl₁ using Fl.casesOn with
  |next=>show hf;exact more e
  |cont=>show hf;exact more e
  |ret v=>
   refine cS3 e ?_
   refine oEA hf λy zr0 r=>?_;show zr0
   exact⟨ρ₄,m₄,cm₄,S₄,K₂.trans K₅,F₄,y,rfl,r⟩
theorem oW(D:Snd prog w B mg E k)(R:Rm A k){t:Expr}{body:List Stmt}{X:Value→Shared→Prop}{fl:Fl}:∀(N:Nat) {ρ:List Addr}{C:CH}{s:Shared}{m cm:Str→Option Value}{σ:Env},St prog w B ρ C s→Fm B ρ sc env σ s m cm→
  Keep (Wf env) ρ₀ C₀ s₀ ρ C s→whN (λσ'=>E.test sc t σ') (λσ'=>execs (E.stmt sc) body σ') N σ C=some ((fl,σ'),C')→
  codeAny (model prog w) A (.whileLoop t body [] env) (λr s'=>match r with|.ok f=>Fw prog w B ρ₀ C₀ s₀ sc env fl σ' C' f s'|.error e=>X e s') s:=by
 intro N ρ C s m cm σ S F K e
 refine codeAny_whileLoop (λn s=>Ex5 λρ C m cm σ=>And4 (St prog w B ρ C s) (Fm B ρ sc env σ s m cm) (Keep (Wf env) ρ₀ C₀ s₀ ρ C s) (whN (λσ'=>E.test sc t σ') (λσ'=>execs (E.stmt sc) body σ') n σ C=some ((fl,σ'),C'))) ?_ N ⟨ρ,C,m,cm,σ,S,F,K,e⟩
 clear e K F S
 clear ρ C s m cm σ
 rintro n s ⟨ρ,C,m,cm,σ,S,F,K,e⟩
 cases n with
 |zero=>exact cNo e
 |succ n=>
  refine bc e λb C₁ e1 e=>?_
  refine B3 (D.test e1 R S F) (λy s₁ ⟨hy,ρ₁,S₁,K₁⟩=>?_) λxx yy h=>h.elim
  subst hy
  have F₁:=F.keep K₁ S
  have K₁':=K.trans (K₁.mono w0)
  induction y using Bool.casesOn with
  |false=>
   refine cS3 e ?_
   exact wpAny_execs_nil ⟨ρ₁,m,cm,S₁,K₁',F₁,rfl⟩
  |true=>
   obtain⟨⟨fl₁,σ₂⟩,C₂,e2,e⟩:=cC e
   refine B3 (fj D R S₁ F₁ e2) (λf s₂ qq=>qq.un λρ₂ m₂ cm₂ S₂ K₂ F₂ hf=>?_) λxx yy h=>h.elim
   induction fl₁ using Fl.casesOn with
   |next=>show hf;exact⟨n,Nat.lt_succ_self _,ρ₂,C₂,m₂,cm₂,σ₂,S₂,F₂,K₁'.trans K₂,e⟩
   |cont=>show hf;exact⟨n,Nat.lt_succ_self _,ρ₂,C₂,m₂,cm₂,σ₂,S₂,F₂,K₁'.trans K₂,e⟩
   |ret v=>
    refine cS3 e ?_
    refine oEA hf λy zr0 r=>?_;show zr0
    exact⟨ρ₂,m₂,cm₂,S₂,K₁'.trans K₂,F₂,y,rfl,r⟩
inductive Src(prog:Program)(w:World)(B:Heap)(A:Around)(t:Expr)(vs:List V)(src:Option (Nat×Nat))(ρ₀:List Addr)(C₀:CH)(s₀:Shared)(C:CH)(it:Value)(s:Shared):Prop
 |mk (ρ:List Addr) (I:Addr) (fp wr:List Addr) (P Md:Nat→Value→Heap→Prop) (Sta:Nat→Heap→Prop) (Inv:List Addr→CH→Heap→Prop) (h1:it=.ref I) (T:Tn prog w B A t I fp wr vs src P Md Sta Inv) (h2:∀b∈wr,s₀.heap.get? b=none) (h3:Own B wr ρ s.heap) (h4:Sta 0 s.heap) (h5:Inv ρ C s.heap) (h6:St prog w B ρ C s) (h7:Keep W0 ρ₀ C₀ s₀ ρ C s)
theorem Src.after{t:Expr}{vs:List V}{src:Option (Nat×Nat)}{it:Value}(K:Keep W0 ρ₀ C₀ s₀ ρ₁ C₁ s₁)(q:Src prog w B A t vs src ρ₁ C₁ s₁ C it s):Src prog w B A t vs src ρ₀ C₀ s₀ C it s:=
 let⟨ρ,I,fp,wr,P,Md,Sta,Inv,h1,T,h2,h3,h4,h5,h6,h7⟩:=q
 ⟨ρ,I,fp,wr,P,Md,Sta,Inv,h1,T,(λb hb=>by
  cases e:s₀.heap.get? b with
  |none=>rfl
  |some o=>refine oE (K.live b o e) λo' e'=>?_;rw[h2 b hb] at e';exact cNo e'),h3,h4,h5,h6,K.trans h7⟩
theorem vW(hB:B.NoLimit)(S:St prog w B ρ C s){wr:List Addr}{h':Heap}(hw:∀b∈wr,s.heap.objs.size≤b)(hl:∀b∈wr,∃o,h'.get? b=some o∧o.cls≠.type "tuple"):Own B wr ρ h':=
 ⟨λb hb hm=>by refine oE (S.hr.live hm) λo e=>?_;exact absurd (Heap.lt_size e) (Nat.not_lt.mpr (hw b hb)),λb hb=>(S.top hB (hw b hb)).1,λb hb=>by refine oEA (hl b hb) λo e hc=>?_;exact iEA o e (gm hc)⟩
theorem dL(hB:B.NoLimit)(S:St prog w B ρ C s){t:Expr}{I:Addr}{fp wr:List Addr}{vs:List V}{src:Option (Nat×Nat)}{P Md:Nat→Value→Heap→Prop}{Sta:Nat→Heap→Prop}{Inv:List Addr→CH→Heap→Prop}
  (T:Tn prog w B A t I fp wr vs src P Md Sta Inv) {h':Heap}{tk:Nat} (hk:∀b o,s.heap.get? b=some o→h'.get? b=some o) (hw:∀b∈wr,s.heap.objs.size≤b) (h0:Sta 0 h') (hI:Inv ρ C h') :
  Src prog w B A t vs src ρ C s C (.ref I) { s with heap:=h',toks:=tk }:=by
 refine oA (S.still (tk:=tk) hk) λS' K=>?_
 exact⟨ρ,I,fp,wr,P,Md,Sta,Inv,rfl,T,λb hb=>bz (hw b hb),vW hB S hw (T.live h0),h0,hI,S',K⟩
set_option backward.match.sparseCases true in
set_option tactic.hygienic true in
theorem m6{EE:Value→Shared→Prop}{t:Expr}{I:Addr}{v:Value}{Q:Unit→Shared→Prop}{o:Obj}{n:String}(ho:s.heap.get? I=some o)(hc:o.cls=.type n)
  (hn:["enumerate","zip","dict_itemiterator","dict_reverseitemiterator","odict_iterator","itertools.zip_longest","itertools.pairwise"].contains n=false) (h:Q () s):wpAny (model prog w) A (letOwnedTupleGo t (.ref I) v) Q EE s:=by
 have key:∀(a:Addr),wpAny (model prog w) A (do
   let o ←load I
   match o.cls,o.data with
   |.type n,.fields vs=>
    if(["enumerate","zip","dict_itemiterator","dict_reverseitemiterator","odict_iterator","itertools.zip_longest","itertools.pairwise"].contains n&&vs[0]?==some (rawInt a))=true then do
     rule "for.unpacks-the-owned-tuple"
     updateField I 0 .none
    else pure ()
   |_,_=>pure ():Sem Unit) Q EE s:=λa=>by
  refine B1 (wpAny_load ho ?_)
  show hc
  cases o.data<;>first|exact B2 h|skip
  rename_i vs
  dsimp only
  show hn;show Bool.false_and
  exact B2 h
 cases t<;>first|exact B2 h|skip
 all_goals cases v<;>first|exact B2 h|skip
 all_goals exact key _
theorem zU(hh:A.handled=none){t:Expr}{a I:Addr}(hne:a≠I){items:Array Value}{vs:List V}(hz:vs.length=items.size):
  Tn prog w B A t I [I,a] [I] vs none (λi v xx=>items[i]?=some v) (λi v h=>items[i]?=some v∧(h.IsTupleIter I a (i+1)∧h.IsTuple a items)) (λi h=>h.IsTupleIter I a i∧h.IsTuple a items)
   (λρ C h=>exT h a items∧RelL B ρ h vs items.toList) where
 kt:=by show hz;exact KTurns.ofWalks (Walks.tuple hh I a hne items) λi v s Q E st q=>letGo_tupleiter st.1 q
 self:=(Walks.tuple (prog:=prog) (w:=w) hh I a hne items).self
 val:=λ{i v y ρ C h} hv hp hI=>by
  refine oEA (hI.2.get i v hv) λx hx r=>?_
  rw[Array.getElem?_toList,hp] at hx;refine vr hx ?_;exact r
 inv:=λhI ht=>⟨ht _ _ hI.1,RelL.mono ht hI.2⟩
 stay:=λ{i ρ C s W ρ' C' s'} st hI S K hn hw _=>by
  have h1:=K.tuple S.hr hn hI.1
  refine iAA ⟨st.1.at λo e=>K.old I o e (hw I (.head _)).1 (hw I (.head _)).2,h1.isTuple⟩ h1 (RelL.keep K S.hr hn hI.2)
 live:=λ{i h} st b hb=>by
  show Cd.mp hb
  refine lC st.1 λo ho hc xx=>?_
  exact iEA o ho (by show hc;decide)
theorem wi(hB:B.NoLimit)(hh:A.handled=none)(S:St prog w B ρ C s){t:Expr}{vs:List V}{y:Value}(r:Rel B ρ s.heap (.tup vs) y):
  wpAny (model prog w) A (pyIter y) (Src prog w B A t vs none ρ C s C) EF s:=by
 refine Rel.tupE r λa items ht hl=>?_
 have hlt:a<s.heap.objs.size:=by refine oE ht λn e=>?_;exact Heap.lt_size e
 refine wpAny_pyIter_tuple ht.isTuple ?_
 have hk:=ay s.heap { cls:=.type "tuple_iterator",data:=.fields #[.ref a,.int 0 0] }
 have hx:exT (s.heap.push { cls:=.type "tuple_iterator",data:=.fields #[.ref a,.int 0 0] }) a items:=by refine oE ht λn e=>?_;exact⟨n,hk _ _ e⟩
 have hr:RelL B ρ (s.heap.push { cls:=.type "tuple_iterator",data:=.fields #[.ref a,.int 0 0] }) vs items.toList:=RelL.mono (λb its qz=>by refine oE qz λn e=>?_;exact⟨n,hk _ _ e⟩) hl
 exact dL (tk:=s.toks) hB S (zU hh (Nat.ne_of_lt hlt) (hl.length.trans Ce)) hk (λb hb=>by show Cd.mp hb;exact Cj _)
  ⟨⟨_,Heap.get?_push_size _ rfl,rfl,rfl⟩,hx.isTuple⟩ ⟨hx,hr⟩
theorem ig{c n:Nat}(h:bh (some (c,n)) C=some ((),C')):∃o,C[c]?=some (o,n):=by
 unfold bh at h
 dsimp only at h
 cases e:C[c]? with
 |none=>simp only[e] at h;exact cNo h
 |some p=>
  simp only[e] at h
  split at h
  ·rename_i q;exact⟨p.1,by refine rL (q ..) ?_;rfl⟩
  ·exact cNo h
structure InvL(B:Heap)(vs:List V)(items:Array Value)(c n:Nat)(a:Addr)(ρ:List Addr)(C:CH)(h:Heap):Prop where
 at_:ρ[c]?=some a
 cell:C[c]?=some (.list vs,n)
 rel:RelL B ρ h vs items.toList
theorem InvL.keep{vs:List V}{items:Array Value}{c n:Nat}{a:Addr}(x:InvL B vs items c n a ρ C s.heap)(S:St prog w B ρ C s)(K:Keep W ρ C s ρ' C' s')(hn:b8 W s)(hs:bh (some (c,n)) C'=some ((),C')):
  InvL B vs items c n a ρ' C' s'.heap∧∀o,s.heap.get? a=some o→s'.heap.get? a=some o:=by
 refine cv (K.ver c _ a x.cell x.at_) λp' e' xx r=>?_
 refine oE (ig hs) λo eo=>?_
 rw[e'] at eo
 have hp:p'.2=n:=by refine cS2 eo ?_;rfl
 refine oA (r hp) λq1 q2=>?_
 exact⟨⟨bK K.pre x.at_,by show e';show q1;rfl,RelL.keep K S.hr hn x.rel⟩,q2⟩
theorem vX(hh:A.handled=none){t:Expr}{a I:Addr}(hne:a≠I){items:Array Value}{vs:List V}(hz:vs.length=items.size){c n:Nat}:
  Tn prog w B A t I [I,a] [I] vs (some (c,n)) (λi v xx=>items[i]?=some v) (λi v h=>items[i]?=some v∧(h.IsListIter I a (i+1)∧h.IsList a items)) (λi h=>h.IsListIter I a i∧h.IsList a items)
   (InvL B vs items c n a) where
 kt:=by show hz;exact KTurns.ofWalks (Walks.list hh I a hne items) λi v s Q E st q=>letGo_listiter st.1 q
 self:=(Walks.list (prog:=prog) (w:=w) hh I a hne items).self
 val:=λ{i v y ρ C h} hv hp hI=>by
  refine oEA (hI.rel.get i v hv) λx hx r=>?_
  rw[Array.getElem?_toList,hp] at hx;refine vr hx ?_;exact r
 inv:=λhI ht=>⟨hI.at_,hI.cell,RelL.mono ht hI.rel⟩
 stay:=λ{i ρ C s W ρ' C' s'} st hI S K hn hw hs=>by
  refine oA (hI.keep S K hn hs) λh1 h2=>?_
  exact⟨⟨st.1.at λo e=>K.old I o e (hw I (.head _)).1 (hw I (.head _)).2,st.2.at h2⟩,h1⟩
 live:=λ{i h} st b hb=>by
  show Cd.mp hb
  refine lC st.1 λo ho hc xx=>?_
  exact iEA o ho (by show hc;decide)
theorem uB(hB:B.NoLimit)(hh:A.handled=none)(S:St prog w B ρ C s){t:Expr}{vs:List V}{c n:Nat}{a:Addr}(q:C[c]?=some (.list vs,n))(ea:ρ[c]?=some a):
  wpAny (model prog w) A (pyIter (.ref a)) (Src prog w B A t vs (some (c,n)) ρ C s C) EF s:=by
 refine kQ (bw S.hr q ea) λitems ht hl hz xx=>?_
 have hlt:a<s.heap.objs.size:=by refine oE ht λn e=>?_;exact Heap.lt_size e
 refine wpAny_pyIter_list ht.isList ?_
 have hk:=ay s.heap { cls:=.type "list_iterator",data:=.fields #[.ref a,.int 0 0] }
 have hr:RelL B ρ (s.heap.push { cls:=.type "list_iterator",data:=.fields #[.ref a,.int 0 0] }) vs items.toList:=RelL.mono (λb its qz=>by refine oE qz λn e=>?_;exact⟨n,hk _ _ e⟩) hl
 exact dL (tk:=s.toks) hB S (vX hh (Nat.ne_of_lt hlt) hz) hk (λb hb=>by show Cd.mp hb;exact Cj _)
  ⟨⟨_,Heap.get?_push_size _ rfl,rfl,rfl⟩,ht.isList.at λo e=>hk a o e⟩ ⟨ea,q,hr⟩
theorem zt(hh:A.handled=none){t:Expr}{a I:Addr}(hne:a≠I){items:Array Value}{vs:List V}(hz:vs.length=items.size){c n:Nat}:
  Tn prog w B A t I [I,a] [I] vs.reverse (some (c,n)) (λi v xx=>items[items.size-1-i]?=some v)
   (λi v h=>items[items.size-1-i]?=some v∧(i+1≤items.size∧(h.IsRevIter I a ((items.size:Int)-1-((i+1:Nat):Int))∧h.IsList a items)))
   (λi h=>i≤items.size∧(h.IsRevIter I a ((items.size:Int)-1-(i:Int))∧h.IsList a items))
   (InvL B vs items c n a) where
 kt:=by
  show List.length_reverse;show hz
  refine KTurns.ofWalks (Walks.listRev hh I a hne items) λi v s Q E st q=>?_
  refine lC st.2.1 λo ho hc xx=>?_
  exact m6 ho hc (rfl) q
 self:=(Walks.listRev (prog:=prog) (w:=w) hh I a hne items).self
 val:=λ{i v y ρ C h} hv hp hI=>by
  have hi:i<vs.length:=by
   have:=(List.getElem?_eq_some_iff.mp hv).1
   rwa [List.length_reverse] at this
  rw[List.getElem?_reverse hi] at hv
  refine oEA (hI.rel.get _ v hv) λx hx r=>?_
  rw[Array.getElem?_toList,hz,hp] at hx;refine vr hx ?_;exact r
 inv:=λhI ht=>⟨hI.at_,hI.cell,RelL.mono ht hI.rel⟩
 stay:=λ{i ρ C s W ρ' C' s'} st hI S K hn hw hs=>by
  refine oA (hI.keep S K hn hs) λh1 h2=>?_
  exact⟨⟨st.1,st.2.1.at λo e=>K.old I o e (hw I (.head _)).1 (hw I (.head _)).2,st.2.2.at h2⟩,h1⟩
 live:=λ{i h} st b hb=>by
  show Cd.mp hb
  refine lC st.2.1 λo ho hc xx=>?_
  exact iEA o ho (by show hc;decide)
theorem vS(hB:B.NoLimit)(hh:A.handled=none)(S:St prog w B ρ C s){t:Expr}{vs:List V}{c n:Nat}{a:Addr}(q:C[c]?=some (.list vs,n))(ea:ρ[c]?=some a):
  wpAny (model prog w) A (call (.type "reversed") [.ref a]) (λx s₁=>wpAny (model prog w) A (pyIter x) (Src prog w B A t vs.reverse (some (c,n)) ρ C s C) EF s₁) EF s:=by
 refine kQ (bw S.hr q ea) λitems ht hl hz xx=>?_
 have hlt:a<s.heap.objs.size:=by refine oE ht λn e=>?_;exact Heap.lt_size e
 refine call_reversed_list ht.isList ?_
 have hk:=ay s.heap (revObj a ((items.size:Int)-1))
 have hr:RelL B ρ (s.heap.push (revObj a ((items.size:Int)-1))) vs items.toList:=RelL.mono (λb its qz=>by refine oE qz λn e=>?_;exact⟨n,hk _ _ e⟩) hl
 have hit:(s.heap.push (revObj a ((items.size:Int)-1))).IsRevIter s.heap.objs.size a ((items.size:Int)-1):=⟨_,Heap.get?_push_size _ rfl,rfl,rfl⟩
 refine wpAny_pyIter_revIter hit ?_
 exact dL (tk:=s.toks) hB S (zt hh (Nat.ne_of_lt hlt) hz) hk (λb hb=>by show Cd.mp hb;exact Cj _)
  ⟨Nat.zero_le _,by simpa using hit,ht.isList.at λo e=>hk a o e⟩ ⟨ea,q,hr⟩
set_option tactic.hygienic true in
theorem pM:∀{k:K}{h:Heap}{y:Value},k.Is prog w h y→Rel B ρ h k.v y
 |.i n,h,y,⟨t,e⟩=>e▸.int n t
 |.t ns,h,y,⟨a,items,e,ht,hi⟩=>by
  show e
  refine .tup ht ?_
  clear ht
  generalize items.toList=xs at hi
  induction hi with
  |nil=>exact .nil
  |cons h r ih=>
   rename_i i v _ _
   refine .cons ?_ ih
   cases v<;>first|exact absurd h Cy|skip
   rw[isI] at h
   refine rL (of_decide_eq_true h ..) ?_
   exact .int _ _
structure InvD(prog:Program)(w:World)(B:Heap)(es:List (K×V))(ds:Array DictEntry)(c n:Nat)(a:Addr)(ρ:List Addr)(C:CH)(h:Heap):Prop where
 at_:ρ[c]?=some a
 cell:C[c]?=some (.dict es,n)
 rel:Ents prog w B ρ h es ds.toList
theorem InvD.keep{es:List (K×V)}{ds:Array DictEntry}{c n:Nat}{a:Addr}(x:InvD prog w B es ds c n a ρ C s.heap)(S:St prog w B ρ C s)(K:Keep W ρ C s ρ' C' s')(hn:b8 W s)(hs:bh (some (c,n)) C'=some ((),C')):
  InvD prog w B es ds c n a ρ' C' s'.heap∧∀o,s.heap.get? a=some o→s'.heap.get? a=some o:=by
 refine cv (K.ver c _ a x.cell x.at_) λp' e' xx r=>?_
 refine oE (ig hs) λo eo=>?_
 rw[e'] at eo
 have hp:p'.2=n:=by refine cS2 eo ?_;rfl
 refine oA (r hp) λq1 q2=>?_
 exact⟨⟨bK K.pre x.at_,by show e';show q1;rfl,Ents.keep K S.hr hn x.rel⟩,q2⟩
theorem xr(hh:A.handled=none){t:Expr}{a I:Addr}(hne:a≠I){ds:Array DictEntry}{ep:Nat}{es:List (K×V)}(hz:es.length=ds.size){c n:Nat}:
  Tn prog w B A t I [I,a] [I] (es.map λe=>e.1.v) (some (c,n)) (λi v xx=>∃e,ds[i]?=some e∧e.key=v) (λi v h=>(∃e,ds[i]?=some e∧e.key=v)∧(h.IsKeyIter I a (i+1) ds.size ep∧DAt h a ds ep))
   (λi h=>h.IsKeyIter I a i ds.size ep∧DAt h a ds ep) (InvD prog w B es ds c n a) where
 kt:=by
  show B8;show hz
  refine KTurns.ofWalks (sj hh I a hne ds ep) λi v s Q E st q=>?_
  refine lC st.1 λo ho hc xx=>?_
  exact m6 ho hc (rfl) q
 self:=(sj (w:=w) hh I a hne ds ep).self
 val:=λ{i v y ρ C h} hv hp hI=>by
  rw[List.getElem?_map] at hv
  cases he:es[i]? with
  |none=>rw[he] at hv;exact cNo hv
  |some e=>
   rw[he] at hv
   refine cS1 hv ?_
   refine kQ (hI.rel.get (i:=i) (k:=e.1) (v:=e.2) he) λd hd xx hk xx=>?_
   refine oEA hp λd' hd' zr0=>?_;subst zr0
   rw[Array.getElem?_toList,hd'] at hd
   refine vr hd ?_
   exact pM hk
 inv:=λhI ht=>⟨hI.at_,hI.cell,Ents.mono ht hI.rel⟩
 stay:=λ{i ρ C s W ρ' C' s'} st hI S K hn hw hs=>by
  refine oA (hI.keep S K hn hs) λh1 h2=>?_
  exact⟨⟨st.1.at λo e=>K.old I o e (hw I (.head _)).1 (hw I (.head _)).2,st.2.at h2⟩,h1⟩
 live:=λ{i h} st b hb=>by
  show Cd.mp hb
  refine lC st.1 λo ho hc xx=>?_
  exact iEA o ho (by show hc;decide)
theorem sX(hB:B.NoLimit)(hh:A.handled=none)(S:St prog w B ρ C s){t:Expr}{es:List (K×V)}{c n:Nat}{a:Addr}(q:C[c]?=some (.dict es,n))(ea:ρ[c]?=some a):
  wpAny (model prog w) A (pyIter (.ref a)) (Src prog w B A t (es.map λe=>e.1.v) (some (c,n)) ρ C s C) EF s:=by
 refine bJ (aJ S.hr q ea) λo ds ep ho hx hd en hh' nd hlen=>?_
 have hlt:a<s.heap.objs.size:=Heap.lt_size ho
 refine gK (sP S ea) ⟨o,ho,hx,hd⟩ ?_
 have hk:=ay s.heap { cls:=.type "dict_keyiterator",data:=.fields #[.ref a,.int 0 0,.int ds.size 0,.int ep 0] }
 exact dL (tk:=s.toks) hB S (xr hh (Nat.ne_of_lt hlt) (en.length.trans Ce)) hk (λb hb=>by show Cd.mp hb;exact Cj _)
  ⟨⟨_,Heap.get?_push_size _ rfl,rfl,rfl⟩,⟨o,hk _ _ ho,hx,hd⟩⟩ ⟨ea,q,Ents.mono (λb its qz=>by refine oE qz λn e=>?_;exact⟨n,hk _ _ e⟩) en⟩
theorem ug(hh:A.handled=none){t:Expr}{I:Addr}(a b:Int):
  Tn prog w B A t I [I] [I] (range a b) none (λi v xx=>∃t,v=.int (a+i*1) t) (λi v h=>(∃t,v=.int (a+i*1) t)∧IsRangeIter h I (a+((i+1:Nat):Int)*1) (((range a b).length:Int)-((i+1:Nat):Int)) 1)
   (λi h=>IsRangeIter h I (a+(i:Nat)*1) (((range a b).length:Int)-(i:Nat)) 1) (λxx yy zz=>True) where
 kt:=KTurns.ofWalks (Walks.range hh I a 1 (range a b).length) λi v s Q E st q=>m6 (n:="range_iterator") st rfl (rfl) q
 self:=(Walks.range (prog:=prog) (w:=w) hh I a 1 (range a b).length).self
 val:=λ{i v y ρ C h} hv hp hI=>by
  obtain⟨t,rfl⟩:=hp
  unfold range at hv
  rw[List.getElem?_map] at hv
  cases hr:(List.range (b-a).toNat)[i]? with
  |none=>rw[hr] at hv;exact cNo hv
  |some j=>
   rw[hr] at hv
   refine cSo hv λzx=>?_;clear hv;subst zx
   refine oE (List.getElem?_eq_some_iff.mp hr) λh1 h2=>?_
   rw[List.getElem_range] at h2
   subst h2
   show Int.mul_one
   exact .int _ _
 inv:=λhI ht=>trivial
 stay:=λ{i ρ C s W ρ' C' s'} st hI S K hn hw hs=>⟨K.old I _ st (hw I (.head _)).1 (hw I (.head _)).2,trivial⟩
 live:=λ{i h} st b hb=>by
  show Cd.mp hb
  exact iEA _ st (not_eq_of_beq_eq_false rfl)
theorem sd(a b:Int):((range a b).length:Int)=if a<b then b-a else 0:=by
 unfold range
 show B8;show List.length_range
 split<;>lia
theorem sq{i:Int}(h:jp i=true):-1000000≤i∧i≤1000000:=by
 unfold jp at h
 rw[Ca] at h
 exact⟨of_decide_eq_true h.1,of_decide_eq_true h.2⟩
theorem mc(hB:B.NoLimit)(hh:A.handled=none)(S:St prog w B ρ C s){t:Expr}{a b:Int}(ha:jp a=true)(hb:jp b=true){r:Addr}{ta tb tc:Tok}(hr:IsRange s.heap r a b 1 ta tb tc):
  wpAny (model prog w) A (pyIter (.ref r)) (Src prog w B A t (range a b) none ρ C s C) EF s:=by
 have na:=sq ha
 have nb:=sq hb
 refine wpAny_pyIter_range hr (small_one (by lia) (by omega (config:={})) (by lia) (by omega (config:={}))) ?_
 refine dL (tk:=s.toks) hB S (ug hh a b) (ay s.heap _) (λb hb=>by show Cd.mp hb;exact Cj _) ?_ trivial
 change IsRangeIter _ _ (a+((0:Nat):Int)*1) (((range a b).length:Int)-((0:Nat):Int)) 1
 show(show a+((0:Nat):Int)*1=a by simp);show(show((range a b).length:Int)-((0:Nat):Int)=Builtin.Range.rangeSize a b 1 by show rangeSize_one;show sd;simp)
 exact Heap.get?_push_size _ rfl
theorem qw{it:Addr}{fp:List Addr}{n:Nat}{P:Nat→Value→Prop}{Sta:Nat→Heap→Prop}(D:Draws prog w A.in1 it fp n P Sta)(e:Addr)(hei:e≠it)(hef:e∉fp)(hif:it∈fp){elts:List Expr}{kx:Nat}{pos:Pos}:
  KTurns prog w A (.Tuple elts kx pos) e (e::fp) [e,it] n (λi y h=>Ex3 λT t x=>And3 (y=.ref T) (P i x) (exT h T #[.int (i:Nat) t,x]))
   (λi y h=>Ex3 λT t x=>And7 (y=.ref T) (P i x) (exT h T #[.int (i:Nat) t,x]) (IsEnumOut h e it ((i:Int)+1) x T) (Sta (i+1) h) (T≠e) (T≠it)) (λi h=>(∃old,IsEnum h e it i old)∧Sta i h) where
 sub:=λb hb=>by
  rcases Cb.mp hb with rfl|hb
  ·exact B9 ..
  ·show Cd.mp hb;exact B6 _ hif
 frame:=λi h h' hst hk=>by
  obtain⟨⟨old,he⟩,hs⟩:=hst
  exact⟨⟨old,hk e (.head _) _ he⟩,D.frame _ _ _ hs λb hb o x=>hk b (B6 _ hb) o x⟩
 item:=λi s Q E hi hst hQ=>by
  obtain⟨⟨old,he⟩,hs⟩:=hst
  refine wpAny_pyNext_enum_itemD D he hs hi hei hef λx h' tk hP ho hs' hT hsz hk=>?_
  have helt:e<s.heap.objs.size:=Heap.lt_size he
  have hilt:it<s.heap.objs.size:=by refine oE (D.live _ _ hs) λxx y=>?_;exact Heap.lt_size y
  exact hQ _ h' (tk+1) ⟨_,tk,x,rfl,hP,⟨_,hT⟩,ho,hs',Nat.ne_of_gt helt,Nat.ne_of_gt hilt⟩ λb o hb y=>hk b o (λe'=>hb (by simp[e'])) (λe'=>hb (by simp[e'])) y
 go:=λi v s Q E hm hQ=>by
  obtain⟨T,t,x,rfl,hP,⟨nn,hT⟩,ho,hs,hTe,hTi⟩:=hm
  refine wpAny_letOwnedTupleGo_enum ho λh' he' hs'=>hQ h' ⟨T,t,x,rfl,hP,nn,(hs'.2 T hTe).trans hT⟩ ⟨⟨x,by simpa using he'⟩,D.frame _ _ _ hs λb hb o y=>(hs'.2 b λq=>hef (q▸hb)).trans y⟩ λb o hb y=>?_
  exact(hs'.2 b λe'=>hb (by simp[e'])).trans y
 done:=λs Q E hst hQ=>by
  obtain⟨⟨old,he⟩,hs⟩:=hst
  exact wpAny_pyNext_enum_endD D he hs λh' hx=>hQ h' s.toks λb o hb y=>hx b o (λe'=>hb (by simp[e'])) y
theorem j3:∀{vs:List V}{j i:Nat}{v:V},(eh j vs)[i]?=some v→∃u,vs[i]?=some u∧v=.tup [.int ((j+i:Nat):Int),u]
 |u::r,j,0,v,h=>by simp only[eh,List.getElem?_cons_zero,Option.some.injEq] at h;exact iEA u rfl h.symm
 |u::r,j,i+1,v,h=>by
  simp only[eh,List.getElem?_cons_succ] at h
  refine oEA (j3 h) λu' h1 h2=>?_
  exact iEA u' (by simpa using h1) (by show h2;show Nat.add_right_comm;show Nat.add_assoc;rfl)
theorem kq:∀(vs:List V) (j:Nat),(eh j vs).length=vs.length
 |[],_=>rfl
 |_::r,j=>congrArg (·+1) (kq r (j+1))
theorem tU(hh:A.handled=none){elts:List Expr}{kx:Nat}{pos:Pos}{a e it:Addr}(hei:e≠it)(hae:a≠e)(hai:a≠it){items:Array Value}{vs:List V}(hz:vs.length=items.size){c n:Nat}:
  Tn prog w B A (.Tuple elts kx pos) e [e,it,a] [e,it] (eh 0 vs) (some (c,n)) (λi y h=>Ex3 λT t x=>And3 (y=.ref T) (items[i]?=some x) (exT h T #[.int (i:Nat) t,x]))
   (λi y h=>Ex3 λT t x=>And7 (y=.ref T) (items[i]?=some x) (exT h T #[.int (i:Nat) t,x]) (IsEnumOut h e it ((i:Int)+1) x T) (h.IsListIter it a (i+1)∧h.IsList a items) (T≠e) (T≠it))
   (λi h=>(∃old,IsEnum h e it i old)∧(h.IsListIter it a i∧h.IsList a items)) (InvL B vs items c n a) where
 kt:=by show kq;show hz;exact qw (Draws.list (A:=A.in1) hh it a hai items) e hei (by simp;exact⟨hei,hae.symm⟩) (.head _)
 self:=λi s Q E st q=>by obtain⟨⟨old,he⟩,_⟩:=st;exact wpAny_pyIter_enum he q
 val:=λ{i v y ρ C h} hv hp hI=>by
  refine oEA (j3 hv) λu hu zr0=>?_;show zr0
  refine zL hp λT t x zr0 hx hT=>?_;show zr0
  refine oEA (hI.rel.get i u hu) λx' hx' r=>?_
  rw[Array.getElem?_toList,hx] at hx';refine cSo hx' λzx=>?_;clear hx';subst zx
  refine .tup hT (.cons ?_ (.cons r .nil))
  show Nat.zero_add
  exact .int _ _
 inv:=λhI ht=>⟨hI.at_,hI.cell,RelL.mono ht hI.rel⟩
 stay:=λ{i ρ C s W ρ' C' s'} st hI S K hn hw hs=>by
  refine oA (hI.keep S K hn hs) λh1 h2=>?_
  obtain⟨⟨old,he⟩,st1,st2⟩:=st
  exact⟨⟨⟨old,K.old e _ he (hw e (.head _)).1 (hw e (.head _)).2⟩,st1.at λo e=>K.old it o e (hw it (.tail _ (.head _))).1 (hw it (.tail _ (.head _))).2,st2.at h2⟩,h1⟩
 live:=λ{i h} st b hb=>by
  obtain⟨⟨old,he⟩,⟨o,ho,hc,_⟩,st2⟩:=st
  rcases Cb.mp hb with rfl|hb
  ·exact iEA _ he (not_eq_of_beq_eq_false rfl)
  ·show Cd.mp hb;exact iEA o ho (by show hc;decide)
theorem qE(hB:B.NoLimit)(hh:A.handled=none)(S:St prog w B ρ C s){elts:List Expr}{kx:Nat}{pos:Pos}{vs:List V}{c n:Nat}{a:Addr}(q:C[c]?=some (.list vs,n))(ea:ρ[c]?=some a):
  wpAny (model prog w) A (call (.type "enumerate") [.ref a]) (λx s₁=>wpAny (model prog w) A (pyIter x) (Src prog w B A (.Tuple elts kx pos) (eh 0 vs) (some (c,n)) ρ C s C) EF s₁) EF s:=by
 refine kQ (bw S.hr q ea) λitems ht hl hz xx=>?_
 have hlt:a<s.heap.objs.size:=by refine oE ht λn e=>?_;exact Heap.lt_size e
 refine call_enumerate_list ht.isList λh' hE hI hsz hk=>?_
 refine wpAny_pyIter_enum hE ?_
 have hr:RelL B ρ h' vs items.toList:=RelL.mono (λb its qz=>by refine oE qz λn e=>?_;exact⟨n,hk _ _ e⟩) hl
 refine dL (tk:=s.toks) hB S (tU (it:=s.heap.objs.size) hh (Nat.succ_ne_self _) (Nat.ne_of_lt (Nat.lt_succ_of_lt hlt)) (Nat.ne_of_lt hlt) hz) hk (λb hb=>?_)
  ⟨⟨_,hE⟩,hI,ht.isList.at λo e=>hk a o e⟩ ⟨ea,q,hr⟩
 rcases Cb.mp hb with rfl|hb
 ·exact Nat.le_succ _
 ·show Cd.mp hb;exact Cj _
section
open AutoSeq1 (wpAny_loadPart')
set_option tactic.hygienic true in
theorem mG(l:Addr)(items:Array Value)(n:Nat):
  Meets (Builtin.«enumerate.__new__» ⟨[.type "enumerate",.ref l],[]⟩) (λxx R s=>s.heap.get? l=some { cls:=.type "tuple",data:=.seq items n }∧
   R (.ok (.ret (.ref (s.heap.push { cls:=.type "tuple_iterator",data:=.fields #[.ref l,.int 0 0] }).objs.size)))
    { s with heap:=(s.heap.push { cls:=.type "tuple_iterator",data:=.fields #[.ref l,.int 0 0] }).push { cls:=.type "enumerate",data:=.fields #[.none,.bool false,.ref s.heap.objs.size,rawInt 0,.none,.none] } }):=
 .of_wp λprog w A R s h=>by
  obtain⟨hp,g,d,tk,os⟩:=s;refine oA h λhl h=>?_
  have hsub:=sub_enumerate
  have hL:Heap.IsTuple (Shared.heap ⟨hp,g,d,tk,os⟩) l items:=⟨_,hl,rfl,n,rfl⟩
  wp_walk using wpAny_loadPart' hl
  refine wpAny_stack_any λst=>B2 ?_
  split
  ·rename_i c _ _ _ _ _
   cases(c==Value.type "enumerate")
   ·wp_walk using wpAny_loadPart' hl,wpAny_pyIter_tuple hL
    exact iEA _ rfl h
   ·wp_walk using wpAny_loadPart' hl,wpAny_pyIter_tuple hL
    exact iEA _ rfl h
  ·wp_walk using wpAny_loadPart' hl,wpAny_pyIter_tuple hL
   exact iEA _ rfl h
theorem exT.mk_keep{h h':Heap}{a:Addr}{items:Array Value}(x:exT h a items)(hk:∀b o,h.get? b=some o→h'.get? b=some o):exT h' a items:=by refine oE x λn e=>?_;exact⟨n,hk _ _ e⟩
theorem iO{it l:Addr}{i:Nat}{items:Array Value}{x:Value}{Q:Value→Shared→Prop}(hit:s.heap.IsTupleIter it l i)(hl:s.heap.IsTuple l items)(hx:items[i]?=some x)
  (hQ:∀h',h'.IsTupleIter it l (i+1)→Heap.SameBut it s.heap h'→Q x { s with heap:=h' }):wpAny (model prog w) A (Builtin.SmallTypes.nextOf (.ref it)) Q EE s:=by
 refine lC (id hit) λo ho hc hd=>?_
 refine yI hl λol hol xx nl hdl=>?_
 unfold Builtin.SmallTypes.nextOf
 refine B1 (wpAny_callSpecial?_slot (name:=Str.ofString "__next__") hit.typeIs F.slot_tuple_iterator_next
  (Cu F.slot_tuple_iterator_next hit.typeIs F.entry_tuple_iterator_next ?_ (F.args_tuple_iterator_next_1 _)))
 change wpAny _ _ (field (.ref it) 0 >>= _) _ _ s
 refine B1 (wpAny_field ho hd (x:=.ref l) rfl ?_)
 change wpAny _ _ (if(Value.ref l==Value.none)=true then _ else _) _ _ s
 show(if_neg (show ¬((Value.ref l==Value.none)=true) from Cy))
 change wpAny _ _ (field (.ref it) 1 >>= _) _ _ s
 refine B1 (wpAny_field ho hd (x:=.int i 0) rfl ?_)
 change wpAny _ _ (seqItems? (.ref l) >>= _) _ _ s
 refine B1 (wpAny_seqItems hol hdl ?_)
 simp only[Int.toNat_natCast,hx]
 refine B1 (wpAny_setField ho hd (Nat.one_lt_succ_succ _) (B2 ⟨x,rfl,B2 (hQ _ ?_ (Heap.SameBut.update ..))⟩))
 exact⟨_,Heap.get?_update_self _ ho (Obj.isFreed_of_fields (Obj.data_mapFields hd _)),(Obj.cls_mapFields ..).trans hc,by
  rw[Obj.data_mapFields hd];rfl⟩
theorem je{it l:Addr}{i:Nat}{items:Array Value}{Q:Value→Shared→Prop}(hh:A.handled=none)(hit:s.heap.IsTupleIter it l i)(hl:s.heap.IsTuple l items)(hx:items[i]?=none)
  (hE:∀h' e,Heap.ExtBut it s.heap h'→(∃o,h'.get? e=some o∧o.cls=.type "StopIteration")→EE (.ref e) { s with heap:=h' }):wpAny (model prog w) A (Builtin.SmallTypes.nextOf (.ref it)) Q EE s:=by
 refine lC (id hit) λo ho hc hd=>?_
 refine yI hl λol hol xx nl hdl=>?_
 unfold Builtin.SmallTypes.nextOf
 refine B1 (wpAny_callSpecial?_slot (name:=Str.ofString "__next__") hit.typeIs F.slot_tuple_iterator_next
  (Cu F.slot_tuple_iterator_next hit.typeIs F.entry_tuple_iterator_next ?_ (F.args_tuple_iterator_next_1 _)))
 change wpAny _ _ (field (.ref it) 0 >>= _) _ _ s
 refine B1 (wpAny_field ho hd (x:=.ref l) rfl ?_)
 change wpAny _ _ (if(Value.ref l==Value.none)=true then _ else _) _ _ s
 show(if_neg (show ¬((Value.ref l==Value.none)=true) from Cy))
 change wpAny _ _ (field (.ref it) 1 >>= _) _ _ s
 refine B1 (wpAny_field ho hd (x:=.int i 0) rfl ?_)
 change wpAny _ _ (seqItems? (.ref l) >>= _) _ _ s
 refine B1 (wpAny_seqItems hol hdl ?_)
 simp only[Int.toNat_natCast,hx]
 refine B1 (wpAny_rule (B1 (wpAny_setField ho hd (PySem.size_pos_of_not_empty rfl) ?_)))
 change wpAny _ _ (newExc (.type "StopIteration") [] >>= _) _ _ _
 refine B1 ?_
 simp only[newExc,newTuple]
 refine B1 (wpAny_newObj_type ?_ (leb rfl))
 refine B1 (m:=firstArgMember _ _) (wpAny_of_eq (a:=Value.none) (by first|rfl|(simp only[firstArgMember];rfl)) ?_)
 refine wpAny_newObj_type ?_ (leb rfl)
 unfold raiseNew
 refine B1 (wpAny_handled ?_)
 first|show(show A.in1.handled=none from hh)|rw[hh]
 refine B1 (B2 (wpAny_throw ?_))
 exact hE _ _ (((Heap.SameBut.update ..).extBut.push _).push _) ⟨_,Heap.get?_push_size _ rfl,rfl⟩
theorem yR(hh:A.handled=none)(it l:Addr)(hne:l≠it)(items:Array Value):
  Draws prog w A it [it,l] items.size (λi v=>items[i]?=some v) (λi h=>h.IsTupleIter it l i∧h.IsTuple l items) where
 live:=λxx yy st=>by refine oEA st.1 λo ho xx=>?_;exact⟨o,ho⟩
 frame:=λxx yy zz st hk=>⟨st.1.at λo e=>hk it (.head _) o e,st.2.at λo e=>hk l (.tail _ (.head _)) o e⟩
 item:=λi s Q E hi st hQ=>by
  refine iO st.1 st.2 (x:=items[i]) (Array.getElem?_eq_getElem _) λh' hit' hs'=>?_
  exact hQ _ h' s.toks (Array.getElem?_eq_getElem _) ⟨hit',st.2.extBut hs'.extBut hne⟩ hs'
 done:=λs Q E st hE=>je hh st.1 st.2 (Array.getElem?_size) hE
theorem uC(hh:A.handled=none){elts:List Expr}{kx:Nat}{pos:Pos}{a e it:Addr}(hei:e≠it)(hae:a≠e)(hai:a≠it){items:Array Value}{vs:List V}(hz:vs.length=items.size):
  Tn prog w B A (.Tuple elts kx pos) e [e,it,a] [e,it] (eh 0 vs) none (λi y h=>Ex3 λT t x=>And3 (y=.ref T) (items[i]?=some x) (exT h T #[.int (i:Nat) t,x]))
   (λi y h=>Ex3 λT t x=>And7 (y=.ref T) (items[i]?=some x) (exT h T #[.int (i:Nat) t,x]) (IsEnumOut h e it ((i:Int)+1) x T) (h.IsTupleIter it a (i+1)∧h.IsTuple a items) (T≠e) (T≠it))
   (λi h=>(∃old,IsEnum h e it i old)∧(h.IsTupleIter it a i∧h.IsTuple a items)) (λρ C h=>exT h a items∧RelL B ρ h vs items.toList) where
 kt:=by show kq;show hz;exact qw (yR (A:=A.in1) hh it a hai items) e hei (by simp;exact⟨hei,hae.symm⟩) (.head _)
 self:=λi s Q E st q=>by obtain⟨⟨old,he⟩,_⟩:=st;exact wpAny_pyIter_enum he q
 val:=λ{i v y ρ C h} hv hp hI=>by
  refine oEA (j3 hv) λu hu zr0=>?_;show zr0
  refine zL hp λT t x zr0 hx hT=>?_;show zr0
  refine oEA (hI.2.get i u hu) λx' hx' r=>?_
  rw[Array.getElem?_toList,hx] at hx';refine cSo hx' λzx=>?_;clear hx';subst zx
  refine .tup hT (.cons ?_ (.cons r .nil))
  show Nat.zero_add
  exact .int _ _
 inv:=λhI ht=>⟨ht _ _ hI.1,RelL.mono ht hI.2⟩
 stay:=λ{i ρ C s W ρ' C' s'} st hI S K hn hw hs=>by
  have h1:=K.tuple S.hr hn hI.1
  obtain⟨⟨old,he⟩,st1,st2⟩:=st
  exact iAA ⟨⟨old,K.old e _ he (hw e (.head _)).1 (hw e (.head _)).2⟩,st1.at λo e=>K.old it o e (hw it (.tail _ (.head _))).1 (hw it (.tail _ (.head _))).2,h1.isTuple⟩ h1 (RelL.keep K S.hr hn hI.2)
 live:=λ{i h} st b hb=>by
  obtain⟨⟨old,he⟩,⟨o,ho,hc,_⟩,st2⟩:=st
  rcases Cb.mp hb with rfl|hb
  ·exact iEA _ he (not_eq_of_beq_eq_false rfl)
  ·show Cd.mp hb;exact iEA o ho (by show hc;decide)
theorem pK(hB:B.NoLimit)(hh:A.handled=none)(S:St prog w B ρ C s){elts:List Expr}{kx:Nat}{pos:Pos}{vs:List V}{y:Value}(r:Rel B ρ s.heap (.tup vs) y):
  wpAny (model prog w) A (call (.type "enumerate") [y]) (λx s₁=>wpAny (model prog w) A (pyIter x) (Src prog w B A (.Tuple elts kx pos) (eh 0 vs) none ρ C s C) EF s₁) EF s:=by
 refine Rel.tupE r λa items ht hl=>?_
 have hlt:a<s.heap.objs.size:=by refine oE ht λn e=>?_;exact Heap.lt_size e
 refine oE (id ht) λnn hn=>?_
 refine callType_new F.called_enumerate (rfl) (F.typeCall_enumerate_1 _) (F.newCall_enumerate_1 _) (λobj=>F.args_object_init_2 obj _) F.entry_enumerate_new (mG a items nn) ⟨hn,?_⟩
 have hz:(s.heap.push { cls:=.type "tuple_iterator",data:=.fields #[.ref a,.int 0 0] }).objs.size=s.heap.objs.size+1:=Heap.size_push ..
 change _∧_
 show hz
 have he:IsEnum ((s.heap.push { cls:=.type "tuple_iterator",data:=.fields #[.ref a,.int 0 0] }).push
   { cls:=.type "enumerate",data:=.fields #[.none,.bool false,.ref s.heap.objs.size,rawInt 0,.none,.none] }) (s.heap.objs.size+1) s.heap.objs.size 0 .none:=by
  have:=Heap.get?_push_size (s.heap.push { cls:=.type "tuple_iterator",data:=.fields #[.ref a,.int 0 0] })
   (o:={ cls:=.type "enumerate",data:=.fields #[.none,.bool false,.ref s.heap.objs.size,rawInt 0,.none,.none] }) rfl
  rw[hz] at this;exact this
 refine⟨⟨_,he,rfl⟩,wpAny_pyIter_enum he ?_⟩
 have hk:∀b o,s.heap.get? b=some o→((s.heap.push { cls:=.type "tuple_iterator",data:=.fields #[.ref a,.int 0 0] }).push
   { cls:=.type "enumerate",data:=.fields #[.none,.bool false,.ref s.heap.objs.size,rawInt 0,.none,.none] }).get? b=some o:=λb o x=>Heap.get?_push_of_some _ (Heap.get?_push_of_some _ x)
 have hx:=exT.mk_keep ht hk
 refine dL (tk:=s.toks) hB S (uC (it:=s.heap.objs.size) hh (Nat.succ_ne_self _) (Nat.ne_of_lt (Nat.lt_succ_of_lt hlt)) (Nat.ne_of_lt hlt) (hl.length.trans Ce)) hk (λb hb=>?_)
  ⟨⟨_,he⟩,⟨_,Heap.get?_push_of_some _ (Heap.get?_push_size _ rfl),rfl,rfl⟩,hx.isTuple⟩ ⟨hx,RelL.mono (λb its e=>exT.mk_keep e hk) hl⟩
 rcases Cb.mp hb with rfl|hb
 ·exact Nat.le_succ _
 ·show Cd.mp hb;exact Cj _
end
theorem ii{f:Expr→M V}{a:Expr}{v:V}(h:f a C=some (v,C')):evs f [a] C=some ([v],C'):=by
 change bd (f a) (λv=>bd (evs f []) λvs=>ok (v::vs)) C=_
 unfold bd;show h;rfl
theorem vR{f:Expr→M V}{a b:Expr}{v u:V}(h:f a C=some (v,C₁))(h':f b C₁=some (u,C')):evs f [a,b] C=some ([v,u],C'):=by
 change bd (f a) (λv=>bd (evs f [b]) λvs=>ok (v::vs)) C=_
 unfold bd;show h;dsimp only;show ii h';rfl
theorem r9(T:Tp B mg mb)(S:St prog w B ρ C s)(F:Fm B ρ sc env σ s m cm){f:Str}{pos:Pos}{U:String}(hk:aR sc f=some .globalImplicit)
  (hm:f∈(["len","abs","sum","max","tuple","list","dict","sorted","range","enumerate","reversed"]:List Str)) (hb:bootBuiltins f=some (.type U)) (h1:(f==("__debug__" : Str))=false) (h2:f≠"__name__") {Q:Value→Shared→Prop} (h:Q (.type U) s) :
  wpAny (model prog w) A (eval (.Name f pos) env) Q EF s:=by
 have hkk:=F.kinds f _ hk
 have hg:s.heap.Ns env.globals mg:=F.glob▸kw T.g S
 have hbn:s.heap.Ns env.builtins mb:=F.blt▸j5 T.b S
 exact Calls.Name_function_global F.fn hkk (Calls.loadGlobal_builtin hg (T.miss f hm) hbn ((T.built f h2).trans hb) h) h1
theorem ik{oc:Option Nat}{src:Option (Nat×Nat)}(h:jc oc C=some (src,C')):C'=C∧match oc with|none=>src=none|some c=>∃p,C[c]?=some p∧src=some (c,p.2):=by
 unfold jc at h
 induction oc using Option.casesOn with
 |none=>injection h with zx;refine cPr zx ?_;clear zx;intro zx zy;subst zx zy;exact⟨rfl,rfl⟩
 |some c=>
  dsimp only at h
  cases e:C[c]? with
  |none=>simp only[e] at h;exact cNo h
  |some p=>simp only[e] at h;refine cSp h λzx zy=>?_;clear h;subst zx zy;exact xG rfl p e rfl
theorem ff{src:Option (Nat×Nat)}{P:Option (Nat×Nat)→Prop}(h:jc none C=some (src,C'))(k:P none):P src:=by refine cS2 h ?_;exact k
theorem fA{src:Option (Nat×Nat)}{P:Option (Nat×Nat)→Prop}{c:Nat}{o:O}{n:Nat}(q:C[c]?=some (o,n))(h:jc (some c) C=some (src,C'))(k:P (some (c,n))):P src:=by
 have h:(match C[c]? with|some p=>some (some (c,p.2),C)|none=>none)=some (src,C'):=h
 rw[q] at h;refine cS2 h ?_;exact k
theorem qT(hB:B.NoLimit)(hh:A.handled=none)(S:St prog w B ρ C s){v:V}{y:Value}{t:Expr}{vs:List V}{oc:Option Nat}{src:Option (Nat×Nat)}(r:Rel B ρ s.heap v y)(e:eJ v C=some ((vs,oc),C'))(e2:jc oc C'=some (src,C₁)):
  C'=C∧wpAny (model prog w) A (pyIter y) (Src prog w B A t vs src ρ C s C) EF s:=by
 induction v using V.casesOn with
 |tup us=>
  revert e2
  refine b9 e λe2=>⟨rfl,?_⟩
  exact ff (P:=λsrc=>wpAny (model prog w) A (pyIter y) (Src prog w B A t us src ρ C s C) EF s) e2 (wi hB hh S r)
 |cell c=>
  refine r.cellE λa ea=>bc e λus C₂ e1 e3=>?_
  revert e2
  refine b9 e3 λe2=>?_
  refine bo e1 λo kk q e4=>?_
  induction o using O.casesOn with
  |list us'=>
   refine oA (mr e4) λzr0 zr1=>?_;subst zr0 zr1
   exact⟨rfl,fA (P:=λsrc=>wpAny (model prog w) A (pyIter (.ref a)) (Src prog w B A t us' src ρ C₂ s C₂) EF s) q e2 (uB hB hh S q ea)⟩
  |dict es=>
   refine oA (mr e4) λzr0 zr1=>?_;subst zr0 zr1
   exact⟨rfl,fA (P:=λsrc=>wpAny (model prog w) A (pyIter (.ref a)) (Src prog w B A t _ src ρ C₂ s C₂) EF s) q e2 (sX hB hh S q ea)⟩
 |_=>exact nos e
theorem d4(T:Tp B mg mb)(D:Snd prog w B mg E k)(R:Rm A k)(S:St prog w B ρ C s)(F:Fm B ρ sc env σ s m cm){f:Str}{fp pos:Pos}{args:List Expr}{vs:List V}{U:String}(hk:aR sc f=some .globalImplicit)(hp:ao args=true)
  (hm:f∈(["len","abs","sum","max","tuple","list","dict","sorted","range","enumerate","reversed"]:List Str)) (hb:bootBuiltins f=some (.type U)) (h1:(f==("__debug__" : Str))=false) (h2:f≠"__name__")
  (e:evs (λe=>E.expr sc e σ) args C=some (vs,C')) {Q:Value→Shared→Prop} (h:∀ρ' s' ys,St prog w B ρ' C' s'→Keep W0 ρ C s ρ' C' s'→RelL B ρ' s'.heap vs ys→wpAny (model prog w) A (call (.type U) ys) Q EF s') :
  wpAny (model prog w) A (eval (.Call (.Name f fp) args [] pos) env) Q EF s:=by
 refine oA (bp hp) λh8 hs=>?_
 refine Call_Name rfl (r9 T S F hk hm hb h1 h2 ?_)
 exact PyProof.Rows.callWith_type (bn hs).1 (aX hs (B3 (jE D R hs S F e) (λys s₂ qq=>qq.un λρ₁ S₁ K₁ r₁=>h ρ₁ s₂ ys S₁ K₁ r₁) λxx yy x=>x))
theorem ko{tp:Bool}{f:Expr→M V}{it:Expr}{r:(List V×Option Nat)×CH}(hs:∀els kk p C,f (.Set els kk p) C=none)(e:iter tp f sc it C=some r):∀x,foldedSetIterable it env x=pure x:=by
 intro x
 induction it using PySem.Expr.casesOn with
 |Set _ _ _=>
  exfalso
  refine bc e λv C₁ e1 xx=>?_
  rw[hs] at e1;exact cNo e1
 |_=>rfl
abbrev QI(prog:Program)(w:World)(B:Heap)(A:Around)(t:Expr)(vs:List V)(src:Option (Nat×Nat))(ρ:List Addr)(C:CH)(s:Shared)(C':CH)(x:Value)(s₁:Shared):Prop:=
 wpAny (model prog w) A (pyIter x) (Src prog w B A t vs src ρ C s C') EF s₁
theorem QI.after{t:Expr}{vs:List V}{src:Option (Nat×Nat)}{x:Value}{s₂:Shared}(K:Keep W0 ρ C s ρ₁ C₁ s₁)(q:QI prog w B A t vs src ρ₁ C₁ s₁ C' x s₂):QI prog w B A t vs src ρ C s C' x s₂:=
 B3 q (λxx yy h=>Src.after K h) λxx yy h=>h
section
variable {t:Expr}{p q:Pos}{args:List Expr}{vs:List V}{oc:Option Nat}{src:Option (Nat×Nat)}
set_option smartUnfolding false in
theorem qm(hB:B.NoLimit)(T:Tp B mg mb)(D:Snd prog w B mg E k)(R:Rm A k)(S:St prog w B ρ C s)(F:Fm B ρ sc env σ s m cm)(hk:aR sc "range" = some .globalImplicit)(hp:ao args=true)
  (e:vo (λe=>E.expr sc e σ) args C=some ((vs,oc),C')) (e2:jc oc C'=some (src,C₁)):wpAny (model prog w) A (eval (.Call (.Name "range" p) args [] q) env) (QI prog w B A t vs src ρ C s C') EF s:=by
 induction args using List.casesOn with
 |nil=>exact nos e
 |cons a l=>induction l using List.casesOn with
  |nil=>
   refine bc e λv C₂ e1 e=>?_
   induction v using V.casesOn with
   |int n=>
    refine bU e λhn e=>?_
    revert e2
    refine b9 e λe2=>ff (P:=λsrc=>wpAny (model prog w) A (eval (.Call (.Name "range" p) [a] [] q) env) (QI prog w B A t (range 0 n) src ρ C s C₂) EF s) e2 ?_
    refine d4 T D R S F hk hp (List.mem_of_elem_eq_true rfl) boot_range (rfl) (by decide) (ii e1) λρ' s' ys S' K' r=>r.oneE λy r0=>r0.intE λt0=>call_range_1 ?_
    refine oA (S'.still (tk:=s'.toks+1+1) (ay s'.heap { cls:=.type "range",data:=.fields #[.int 0 s'.toks,.int n t0,.int 1 (s'.toks+1)] })) λS₂ K₂=>?_
    exact QI.after (K'.trans K₂) (mc hB R.hd S₂ rfl hn (IsRange.new ..))
   |_=>exact nos e
  |cons b l=>induction l using List.casesOn with
   |cons _ _=>exact nos e
   |nil=>
    refine bc e λv C₂ e1 f1=>bc f1 λu C₃ e3 f2=>?_
    clear e f1
    induction v using V.casesOn with
    |int a'=>induction u using V.casesOn with
     |int b'=>
      refine bU f2 λhn e=>?_
      rw[Ca] at hn
      revert e2
      refine b9 e λe2=>ff (P:=λsrc=>wpAny (model prog w) A (eval (.Call (.Name "range" p) [a,b] [] q) env) (QI prog w B A t (range a' b') src ρ C s C₃) EF s) e2 ?_
      refine d4 T D R S F hk hp (List.mem_of_elem_eq_true rfl) boot_range (rfl) (by decide) (vR e1 e3) λρ' s' ys S' K' r=>r.twoE λy z r0 r1=>r0.intE λt1=>r1.intE λt2=>call_range_2 ?_
      refine oA (S'.still (tk:=s'.toks+1) (ay s'.heap { cls:=.type "range",data:=.fields #[.int a' t1,.int b' t2,.int 1 s'.toks] })) λS₂ K₂=>?_
      exact QI.after (K'.trans K₂) (mc hB R.hd S₂ hn.1 hn.2 (IsRange.new ..))
     |_=>exact nos f2
    |_=>exact nos f2
theorem uq(hB:B.NoLimit)(T:Tp B mg mb)(D:Snd prog w B mg E k)(R:Rm A k)(S:St prog w B ρ C s)(F:Fm B ρ sc env σ s m cm)(hk:aR sc "enumerate" = some .globalImplicit)(hp:ao args=true){elts:List Expr}{kx:Nat}{tpos:Pos}
  (e:yp (λe=>E.expr sc e σ) args C=some ((vs,oc),C')) (e2:jc oc C'=some (src,C₁)):wpAny (model prog w) A (eval (.Call (.Name "enumerate" p) args [] q) env) (QI prog w B A (.Tuple elts kx tpos) vs src ρ C s C') EF s:=by
 induction args using List.casesOn with
 |nil=>exact nos e
 |cons a l=>induction l using List.casesOn with
  |cons _ _=>exact nos e
  |nil=>
   refine bc e λv C₂ e1 e=>?_
   induction v using V.casesOn with
   |tup us=>
    revert e2
    refine b9 e λe2=>ff (P:=λsrc=>wpAny (model prog w) A (eval (.Call (.Name "enumerate" p) [a] [] q) env) (QI prog w B A (.Tuple elts kx tpos) (eh 0 us) src ρ C s C₂) EF s) e2 ?_
    refine d4 T D R S F hk hp (List.mem_of_elem_eq_true rfl) boot_enumerate (rfl) (by decide) (ii e1) λρ' s' ys S' K' r=>r.oneE λy r0=>?_
    exact B3 (pK hB R.hd S' r0) (λx s₂ h=>QI.after K' h) λxx yy h=>h
   |cell c=>
    refine bo e λo kk q' e=>?_
    induction o using O.casesOn with
    |dict _=>exact nos e
    |list us=>
     revert e2
     refine b9 e λe2=>fA (P:=λsrc=>wpAny (model prog w) A (eval (.Call (.Name "enumerate" p) [a] [] q) env) (QI prog w B A (.Tuple elts kx tpos) (eh 0 us) src ρ C s C₂) EF s) q' e2 ?_
     refine d4 T D R S F hk hp (List.mem_of_elem_eq_true rfl) boot_enumerate (rfl) (by decide) (ii e1) λρ' s' ys S' K' r=>r.oneE λy r0=>r0.cellE λa ea=>?_
     exact B3 (qE hB R.hd S' q' ea) (λx s₂ h=>QI.after K' h) λxx yy h=>h
   |_=>exact nos e
theorem xv(hB:B.NoLimit)(T:Tp B mg mb)(D:Snd prog w B mg E k)(R:Rm A k)(S:St prog w B ρ C s)(F:Fm B ρ sc env σ s m cm)(hk:aR sc "reversed" = some .globalImplicit)(hp:ao args=true)
  (e:BA (λe=>E.expr sc e σ) args C=some ((vs,oc),C')) (e2:jc oc C'=some (src,C₁)):wpAny (model prog w) A (eval (.Call (.Name "reversed" p) args [] q) env) (QI prog w B A t vs src ρ C s C') EF s:=by
 induction args using List.casesOn with
 |nil=>exact nos e
 |cons a l=>induction l using List.casesOn with
  |cons _ _=>exact nos e
  |nil=>
   refine bc e λv C₂ e1 e=>?_
   induction v using V.casesOn with
   |cell c=>
    refine bo e λo kk q' e=>?_
    induction o using O.casesOn with
    |dict _=>exact nos e
    |list us=>
     revert e2
     refine b9 e λe2=>fA (P:=λsrc=>wpAny (model prog w) A (eval (.Call (.Name "reversed" p) [a] [] q) env) (QI prog w B A t us.reverse src ρ C s C₂) EF s) q' e2 ?_
     refine d4 T D R S F hk hp (List.mem_of_elem_eq_true rfl) boot_reversed (rfl) (by decide) (ii e1) λρ' s' ys S' K' r=>r.oneE λy r0=>r0.cellE λa ea=>?_
     exact B3 (vS hB R.hd S' q' ea) (λx s₂ h=>QI.after K' h) λxx yy h=>h
   |_=>exact nos e
theorem eB(hB:B.NoLimit)(D:Snd prog w B mg E k)(R:Rm A k)(S:St prog w B ρ C s)(F:Fm B ρ sc env σ s m cm){it:Expr}(e:bd (E.expr sc it σ) eJ C=some ((vs,oc),C'))(e2:jc oc C'=some (src,C₁)):
  wpAny (model prog w) A (eval it env) (QI prog w B A t vs src ρ C s C') EF s:=by
 refine bc e λv C₂ e1 e=>?_
 refine QV.go (D.expr e1 R S F) λy s₁ ρ₁ S₁ K₁ r₁=>?_
 refine oA (qT (t:=t) hB R.hd S₁ r₁ e e2) λzr0 q=>?_;show zr0
 exact QI.after K₁ q
theorem sV(hB:B.NoLimit)(T:Tp B mg mb)(D:Snd prog w B mg E k)(R:Rm A k)(S:St prog w B ρ C s)(F:Fm B ρ sc env σ s m cm){x:Str}(hk:aR sc x=some .globalImplicit)(hp:ao args=true)
  (e:eG (isTup t) (λe=>E.expr sc e σ) (.Call (.Name x p) args [] q) x args C=some ((vs,oc),C')) (e2:jc oc C'=some (src,C₁)):wpAny (model prog w) A (eval (.Call (.Name x p) args [] q) env) (QI prog w B A t vs src ρ C s C') EF s:=by
 refine eF e (λh e=>?_) λe=>eF e (λh e=>?_) λe=>eF e (λh e=>?_) λe=>eB hB D R S F e e2
 ·obtain rfl:=aQ h;exact qm hB T D R S F hk hp e e2
 ·obtain rfl:=aQ h
  induction t using PySem.Expr.casesOn with
  |Tuple elts kx tpos=>exact uq hB T D R S F hk hp e e2
  |_=>exact nos e
 ·obtain rfl:=aQ h;exact xv hB T D R S F hk hp e e2
end
theorem qy{tp:Bool}{f:Expr→M V}{x:Str}{p q:Pos}{args:List Expr}{r:(List V×Option Nat)×CH}(e:iter tp f sc (.Call (.Name x p) args [] q) C=some r):
  And3 (aR sc x=some .globalImplicit) (ao args=true) (eG tp f (.Call (.Name x p) args [] q) x args C=some r):=by
 have e':(match aR sc x,ao args with
  |some .globalImplicit,true=>eG tp f (.Call (.Name x p) args [] q) x args
  |_,_=>no) C=some r:=e
 cases hk:aR sc x with
 |none=>rw[hk] at e';exact nos e'
 |some kx=>cases hp:ao args with
  |false=>rw[hk,hp] at e';cases kx<;>exact nos e'
  |true=>rw[hk,hp] at e';induction kx using PySem.NameKind.casesOn with
   |globalImplicit=>exact⟨rfl,rfl,e'⟩
   |_=>exact nos e'
theorem nh(hB:B.NoLimit)(T:Tp B mg mb)(D:Snd prog w B mg E k)(R:Rm A k)(S:St prog w B ρ C s)(F:Fm B ρ sc env σ s m cm){t it:Expr}{vs:List V}{oc:Option Nat}{src:Option (Nat×Nat)}
  (e0:iter (isTup t) (λe=>E.expr sc e σ) sc it C=some ((vs,oc),C')) (e2:jc oc C'=some (src,C₁)) :
  wpAny (model prog w) A (eval it env) (QI prog w B A t vs src ρ C s C') EF s:=by
 induction it using PySem.Expr.casesOn with
 |Call g args ks q=>induction g using PySem.Expr.casesOn with
  |Name x p=>induction ks using List.casesOn with
   |cons _ _=>exact eB hB D R S F e0 e2
   |nil=>obtain⟨hk,hp,e⟩:=qy e0;exact sV hB T D R S F hk hp e e2
  |_=>exact eB hB D R S F e0 e2
 |_=>exact eB hB D R S F e0 e2
theorem yF(hB:B.NoLimit)(T:Tp B mg mb)(D:Snd prog w B mg E k)(R:Rm A k)(S:St prog w B ρ C s)(F:Fm B ρ sc env σ s m cm){t it:Expr}{body:List Stmt}{pos:Pos}{fl:Fl}(ho:aq sc t=true)
  (e:(bd (iter (isTup t) (λe=>E.expr sc e σ) sc it) λp=>bd (jc p.2) λsrc=>sO src (target t) (λσ'=>execs (E.stmt sc) body σ') p.1 σ) C=some ((fl,σ'),C')) :
  wpAny (model prog w) A (exec (.For t it body [] pos) env) (Fw prog w B ρ C s sc env fl σ' C') EF s:=by
 obtain⟨⟨vs,oc⟩,C₁,e1,f1⟩:=cC e
 refine bc f1 λsrc C₂ e2 f2=>?_
 refine oA (ik e2) λzr0 xx=>?_;subst zr0
 refine wpAny_For (B3 (nh hB T D R S F e1 e2) (λx s₁ h=>B3 h (λi s₂ h=>?_) λxx yy h=>h) λxx yy h=>h) (ko (λels kk p C=>D.noSet sc els kk p σ C) e1)
 obtain⟨ρ₂,I,fp,wr,P,Md,Sta,Inv,rfl,Tn',dead,O,h0,hI,S₂,K₂⟩:=h
 refine tE D R ho Tn' dead (λb hb hw=>?_) S₂ (F.keep K₂ S) (K₂.mono w0) O h0 hI f2
 rcases hw with rfl|⟨x,hx⟩
 ·refine jk F.ns λo es ep ho xx=>?_
  rw[dead _ hb] at ho;exact cNo ho
 ·refine oEA (F.cel x b hx) λo ho xx=>?_
  rw[dead _ hb] at ho;exact cNo ho
theorem yb{a b:Str}(h:seq a b=false):(a==b)=false:=fi h
theorem bj(sc:Scope)(x:Str):aR sc x=sc.names.lookup x:=by
 unfold aR
 generalize sc.names=l
 induction l with
 |nil=>rfl
 |cons p r ih=>
  obtain⟨y,k⟩:=p
  change (match seq x y with|true=>some k|false=>aR.go x r)=(match x==y with|true=>some k|false=>r.lookup x)
  cases h:seq x y with
  |true=>cases aQ h;show beq_self_eq_true;rfl
  |false=>show yb h;exact ih
structure CompOk(sc sc':Scope):Prop where
 fn:sc'.kind=.function
 loc:∀p∈sc'.names,p.2=.local→sc'.names.lookup p.1=some .local
 free:∀p∈sc'.names,p.2=.free→sc'.names.lookup p.1=some .free∧(aR sc p.1=some .cell∨aR sc p.1=some .free)
 nocell:∀p∈sc'.names,p.2≠.cell
theorem lL{sc sc':Scope}(h:bV sc sc'=true):CompOk sc sc':=by
 unfold bV at h
 rw[Ca] at h
 refine oA h λh1 h2=>?_
 have h2:=CA.mp h2
 refine⟨eq_of_beq h1,λp hp e=>?_,λp hp e=>?_,λp hp e=>?_⟩
 ·have:=h2 p hp
  rw[e] at this
  refine rL (bj ..) ?_;exact eq_of_beq this
 ·have:=h2 p hp
  rw[e] at this
  simp only[Bool.and_eq_true,Bool.or_eq_true] at this
  refine⟨by refine rL (bj ..) ?_;exact eq_of_beq this.1,this.2.imp eq_of_beq eq_of_beq⟩
 ·have:=h2 p hp
  rw[e] at this;exact cFt this
theorem dC{α:Type}{l:List (Str×α)}{x:Str}{c:α}(h:(x,c)∈l):∃c',l.lookup x=some c':=by
 induction l with
 |nil=>cases h
 |cons p r ih=>
  show List.lookup_cons
  cases hb:x==p.1 with
  |true=>exact⟨p.2,rfl⟩
  |false=>
   rcases Cb.mp h with e|h
   ·subst e;simp at hb
   ·exact ih h
theorem gb:∀(names:List (Str×NameKind)) (acc:List (Str×Addr)),(∀p∈names,p.2=.free→∃c,env.cells.lookup p.1=some c)→(∀x c,(x,c)∈acc→env.cells.lookup x=some c)→
  ∃cl,And4 ((forIn names acc λ(p:Str×NameKind) cs=>(if(p.2==.free)=true then do let a ←cellOf env p.1;pure (.yield ((p.1,a)::cs)) else pure (.yield cs):Sem (ForInStep (List (Str×Addr)))))=pure cl) (∀x c,(x,c)∈cl→env.cells.lookup x=some c) (∀p∈acc,p∈cl) (∀p∈names,p.2=.free→∃c,(p.1,c)∈cl)
 |[],acc,_,h=>⟨acc,by show List.forIn_nil;rfl,h,λxx h=>h,by simp⟩
 |(y,kd)::r,acc,hf,h=>by
  show List.forIn_cons
  by_cases hk:kd=.free
  ·subst hk
   refine oE (hf (y,.free) B9 rfl) λc hc=>?_
   obtain⟨cl,h1,h2,h3,h4⟩:=gb r ((y,c)::acc) (λp hp=>hf p (B6 _ hp)) (λx d hx=>by
    rcases Cb.mp hx with e|hx
    ·refine B0 e ?_;exact hc
    ·exact h x d hx)
   refine sL cl ?_ h2 (λp hp=>h3 p (B6 _ hp)) (λp hp e=>?_)
   ·have:cellOf env y=pure c:=by unfold cellOf;show hc;rfl
    simp only[beq_self_eq_true,if_true,this,pure_bind]
    exact h1
   ·rcases Cb.mp hp with rfl|hp
    ·exact⟨c,h3 _ B9⟩
    ·exact h4 p hp e
  ·refine kQ (gb r acc (λp hp=>hf p (B6 _ hp)) h) λcl h1 h2 h3 h4=>?_
   refine sL cl ?_ h2 h3 (λp hp e=>?_)
   ·have hb:(kd==NameKind.free)=false:=by simpa using hk
    simp only[hb,Bool.false_eq_true,if_false,pure_bind]
    exact h1
   ·rcases Cb.mp hp with rfl|hp
    ·exact absurd e hk
    ·exact h4 p hp e
theorem jl(O:CompOk sc sc')(F:Fm B ρ sc env σ s m cm):∃cl,And3 (closureFor sc' env=pure cl) (∀x c,(x,c)∈cl→env.cells.lookup x=some c) (∀p∈sc'.names,p.2=.free→∃c,(p.1,c)∈cl):=by
 obtain⟨cl,h1,h2,_,h4⟩:=gb (env:=env) sc'.names [] (λp hp e=>F.bound p.1 (by
  rcases(O.free p hp e).2 with q|q
  ·have hh:=F.kinds p.1 _ q
   exact .inl hh
  ·exact F.kinds p.1 _ q)) (by simp)
 refine iEa3 cl ?_ h2 h4
 simp only[closureFor]
 show(show(forIn sc'.names [] λ(x:Str×NameKind) (r:List (Str×Addr))=>(match x with
   |(name,kind)=>if(kind==NameKind.free)=true then do let a ←cellOf env name;pure (ForInStep.yield ((name,a)::r)) else pure (ForInStep.yield r):Sem (ForInStep (List (Str×Addr)))))=pure cl from h1)
 rfl
theorem lookup_relabel_any{env:PySem.Env}:∀{names:List (Str×NameKind)}{x:Str}{k:NameKind},
  (names.map λ(n,k)=>if(k==NameKind.free&&env.scope.kind==.function&&env.kindOf n==some .cell) then(n,NameKind.cell) else(n,k)).lookup x=some k→
  names.lookup x=some k∨(k=.cell∧names.lookup x=some .free)
 |[],_,_,h=>by simp at h
 |(n,kd)::r,x,k,h=>by
  have ih:=@lookup_relabel_any env r x k
  have h:List.lookup x ((if(kd==NameKind.free&&env.scope.kind==.function&&env.kindOf n==some .cell)=true then(n,NameKind.cell) else(n,kd))::
   (r.map λ(n,k)=>if(k==NameKind.free&&env.scope.kind==.function&&env.kindOf n==some .cell) then(n,NameKind.cell) else(n,k)))=some k:=h
  by_cases hc:(kd==NameKind.free&&env.scope.kind==.function&&env.kindOf n==some .cell)=true
  ·rw[if_pos hc] at h
   have hf:kd=.free:=by simp only[Bool.and_eq_true] at hc;exact eq_of_beq hc.1.1
   cases hx:x==n with
   |true=>
    simp only[List.lookup_cons,hx,Option.some.injEq] at h ⊢
    exact .inr ⟨h.symm,by show hf;rfl⟩
   |false=>simp only[List.lookup_cons,hx] at h ⊢;exact ih h
  ·rw[if_neg hc] at h
   cases hx:x==n with
   |true=>simp only[List.lookup_cons,hx] at h ⊢;exact .inl h
   |false=>simp only[List.lookup_cons,hx] at h ⊢;exact ih h
theorem cY{env:PySem.Env}:∀{names:List (Str×NameKind)}{x:Str}{k:NameKind},names.lookup x=some k→
  ∃k',(names.map λ(n,k)=>if(k==NameKind.free&&env.scope.kind==.function&&env.kindOf n==some .cell) then(n,NameKind.cell) else(n,k)).lookup x=some k'∧(k'=k∨(k=.free∧k'=.cell))
 |[],_,_,h=>by simp at h
 |(n,kd)::r,x,k,h=>by
  have ih:=@cY env r x k
  change ∃k',List.lookup x ((if(kd==NameKind.free&&env.scope.kind==.function&&env.kindOf n==some .cell)=true then(n,NameKind.cell) else(n,kd))::
   (r.map λ(n,k)=>if(k==NameKind.free&&env.scope.kind==.function&&env.kindOf n==some .cell) then(n,NameKind.cell) else(n,k)))=some k'∧_
  cases hx:x==n with
  |true=>
   simp only[List.lookup_cons,hx,Option.some.injEq] at h
   subst h
   by_cases hc:(kd==NameKind.free&&env.scope.kind==.function&&env.kindOf n==some .cell)=true
   ·show if_pos hc
    have hf:kd=.free:=by simp only[Bool.and_eq_true] at hc;exact eq_of_beq hc.1.1
    exact iEA .cell (by show List.lookup_cons;show hx;rfl) (.inr ⟨hf,rfl⟩)
   ·show if_neg hc;exact iEA kd (by show List.lookup_cons;show hx;rfl) (.inl rfl)
  |false=>
   simp only[List.lookup_cons,hx] at h
   refine oEA (ih h) λk' h1 h2=>?_
   refine iEA k' ?_ h2
   by_cases hc:(kd==NameKind.free&&env.scope.kind==.function&&env.kindOf n==some .cell)=true
   ·show if_pos hc;simp only[List.lookup_cons,hx];exact h1
   ·show if_neg hc;simp only[List.lookup_cons,hx];exact h1
theorem dM:∀{σ:Env}{x:Str}{v:V},af x (bk sc' σ)=some v→af x σ=some v∧cx sc' x=true
 |[],_,_,h=>by exact cNo h
 |(y,u)::r,x,v,h=>by
  unfold bk at h
  rw[List.filter_cons] at h
  cases hq:seq x y with
  |true=>
   cases aQ hq
   cases hf:cx sc' y with
   |true=>
    simp only[hf,if_true] at h
    unfold af at h ⊢
    rw[hq] at h ⊢
    exact⟨h,rfl⟩
   |false=>
    simp only[hf,Bool.false_eq_true,if_false] at h
    refine oA (dM (σ:=r) h) λxx h2=>?_
    rw[hf] at h2;exact cFt h2
  |false=>
   have:af x (bk sc' r)=some v:=by
    cases hf:cx sc' y with
    |true=>
     simp only[hf,if_true] at h
     unfold af at h
     rw[hq] at h;exact h
    |false=>simp only[hf,Bool.false_eq_true,if_false] at h;exact h
   refine oA (dM (σ:=r) this) λh1 h2=>?_
   refine⟨?_,h2⟩
   unfold af;show hq;exact h1
theorem Fm.comp(F:Fm B ρ sc env σ s m cm)(O:CompOk sc sc')(S:St prog w B ρ C s)(hB:B.NoLimit){cl:List (Str×Addr)}(h1:∀x c,(x,c)∈cl→env.cells.lookup x=some c)(h2:∀p∈sc'.names,p.2=.free→∃c,(p.1,c)∈cl)
  {L:Addr}{h':Heap}{tk:Nat} (hL:s.heap.objs.size≤L) (hns:h'.Ns L λxx=>none) (hk:∀b o,s.heap.get? b=some o→h'.get? b=some o) :
  Fm B ρ sc' (compEnvC sc' cl L env) (bk sc' σ) { s with heap:=h',toks:=tk } (λxx=>none) cm where
 fn:=O.fn
 glob:=F.glob
 blt:=F.blt
 kinds:=λx k h=>by
  rw[bj] at h
  refine oEA (cY (env:=env) h) λk' e hk'=>?_
  change vt k ((relabel sc' env).names.lookup x)
  show(show(relabel sc' env).names.lookup x=some k' from e)
  rcases hk' with rfl|⟨rfl,rfl⟩
  ·cases k'<;>first|rfl|exact .inr rfl|trivial
  ·exact .inl rfl
 ns:=hns
 cel:=λx c e=>(F.cel x c (h1 x c (mem_of_lookup e))).keeps hk
 bound:=λx hx=>by
  have:sc'.names.lookup x=some .free:=by
   rcases hx with hx|hx
   ·rcases lookup_relabel_any (env:=env) hx with q|⟨_,q⟩
    ·exact absurd rfl (O.nocell _ (mem_of_lookup q))
    ·exact q
   ·rcases lookup_relabel_any (env:=env) hx with q|⟨q,_⟩
    ·exact q
    ·injection q
  refine oE (h2 _ (mem_of_lookup this) rfl) λc hc=>?_
  exact dC hc
 apart:=λx y c e e'=>F.apart x y c (h1 x c (mem_of_lookup e)) (h1 y c (mem_of_lookup e'))
 offL:=⟨λhm=>by refine oE (S.hr.live hm) λo e=>?_;exact absurd (Heap.lt_size e) (Nat.not_lt.mpr hL),(S.top hB hL).1⟩
 offC:=λx c e=>by
  have q:=F.offC x c (h1 x c (mem_of_lookup e))
  refine⟨q.1,q.2,λe'=>?_⟩
  have hlt:=(F.cel x c (h1 x c (mem_of_lookup e))).lt
  have e':c=L:=e'
  subst e'
  exact absurd hlt (Nat.not_lt.mpr hL)
 var:=λx v e=>by
  refine oA (dM e) λe1 e2=>?_
  have hf:sc'.names.lookup x=some .free:=by
   replace e2:(match aR sc' x with|some .free=>true|_=>false)=true:=e2
   rw[bj] at e2
   cases hq:sc'.names.lookup x with
   |none=>rw[hq] at e2;exact cFt e2
   |some k=>rw[hq] at e2;induction k using PySem.NameKind.casesOn with
    |free=>rfl
    |_=>exact cFt e2
  have hm:=mem_of_lookup hf
  refine⟨λhl=>?_,λxx=>?_⟩
  ·rcases lookup_relabel_any (env:=env) hl with q|⟨q,_⟩
   ·rw[hf] at q;refine cSo q λzx=>?_;clear q;injection zx
   ·injection q
  ·have hkk:env.kindOf x=some .cell∨env.kindOf x=some .free:=by
    rcases(O.free _ hm rfl).2 with q|q
    ·exact .inl (F.kinds x _ q)
    ·exact F.kinds x _ q
   refine oEA ((F.var x v e1).2 hkk) λy h3 h4=>?_
   exact iEA y h3 (Rel.mono (λa items qz=>by refine oE qz λn e=>?_;exact⟨n,hk _ _ e⟩) h4)
theorem Keep.thru(k:Keep W ρ C s ρ' C' s')(k':Keep W' ρ' C' s' ρ'' C'' s'')(h:∀a,W' a→W a∨s.heap.get? a=none):Keep W ρ C s ρ'' C'' s'' where
 old:=λa o e n nw=>k'.old a o (k.old a o e n nw) (λhm=>by have:=k.new a hm n;rw[e] at this;exact cNs this) λhw=>(h a hw).elim nw λq=>by rw[e] at q;exact cNs q
 ver:=λc p a e ea=>by
  refine cv (k.ver c p a e ea) λp' e' l' h'=>?_
  refine cv (k'.ver c p' a e' (bK k.pre ea)) λp'' e'' l'' h''=>?_
  refine iEa3 p'' e'' (B4 l' l'') (λq=>?_)
  have q1:p''.2=p'.2:=Nat.le_antisymm (q▸l') l''
  have q2:p'.2=p.2:=q1▸q
  refine oA (h' q2) λr1 r2=>?_
  refine oA (h'' q1) λr3 r4=>?_
  exact⟨r3.trans r1,λo eo=>r4 o (r2 o eo)⟩
 new:=λa ha hn=>by
  by_cases hm:a∈ρ'
  ·exact k.new a hm hn
  ·cases e:s.heap.get? a with
   |none=>rfl
   |some o=>
    refine oE (k.live a o e) λo' e'=>?_
    rw[k'.new a ha hm] at e';exact cNo e'
 pre:=List.IsPrefix.trans k.pre k'.pre
 live:=λa o e=>by refine oE (k.live a o e) λo' e'=>?_;exact k'.live a o' e'
 os:=k'.os.trans k.os
theorem iR{w:World}{A:Around}(env:PySem.Env):∀(ifs:List Expr),(forIn ifs false λc r=>if r=true then do let ok ←PySem.isTrue c env (eval c env);pure (ForInStep.yield ok) else pure (ForInStep.yield r):Sem Bool)=pure false
 |[]=>by show List.forIn_nil;rfl
 |c::r=>by
  show List.forIn_cons
  simp only[Bool.false_eq_true,if_false,pure_bind]
  exact iR (w:=w) (A:=A) env r
theorem zg(D:Snd prog w B mg E k)(R:Rm A k):∀{ifs:List Expr}{C C':CH}{ρ:List Addr}{s:Shared}{r:Bool},St prog w B ρ C s→Fm B ρ sc env σ s m cm→iH (λe=>E.test sc e σ) ifs C=some (r,C')→
  wpAny (model prog w) A (forIn ifs true λc r=>if r=true then do let ok ←PySem.isTrue c env (eval c env);pure (ForInStep.yield ok) else pure (ForInStep.yield r)) (λb s'=>b=r∧QU prog w B ρ C s C' s') EF s:=λ{ifs}=>by
 induction ifs with
 |nil=>
  intro C C' ρ s r S F e
  refine cS2 e ?_
  show List.forIn_nil
  exact B2 ⟨rfl,ρ,S,Keep.refl s⟩
 |cons c ifs ih'=>
  intro C C' ρ s r S F e
  refine bc e λb C₁ e1 f1=>?_
  show List.forIn_cons
  simp only[if_true]
  refine B1 (B1 (B3 (D.test e1 R S F) (λy s₁ ⟨hy,ρ₁,S₁,K₁⟩=>?_) λxx yy h=>h))
  subst hy
  refine B2 ?_
  induction y using Bool.casesOn with
  |true=>exact B3 (ih' S₁ (F.keep K₁ S) f1) (λz s₂ qz=>by refine oA qz λhz q=>?_;exact⟨hz,QU.after K₁ q⟩) λxx yy h=>h
  |false=>
   refine cS2 f1 ?_
   dsimp only
   rw[iR (w:=w) (A:=A)]
   exact B2 ⟨rfl,ρ₁,S₁,K₁⟩
structure Acc(prog:Program)(w:World)(B:Heap)(d:Addr)(α:Type)(Ac:List Addr→Heap→α→Prop):Prop where
 keep:∀{ρ C s W ρ' C' s' a},Ac ρ s.heap a→St prog w B ρ C s→Apart B ρ d→Keep W ρ C s ρ' C' s'→b8 W s→¬W d→Ac ρ' s'.heap a
 mono:∀{ρ h h' a},Ac ρ h a→(∀b items,exT h b items→exT h' b items)→(∀o,h.get? d=some o→h'.get? d=some o)→Ac ρ h' a
 live:∀{ρ h a},Ac ρ h a→∃o,h.get? d=some o∧o.cls≠.type "tuple"
def AcL(B:Heap)(d:Addr)(ρ:List Addr)(h:Heap)(a:List V):Prop:=∃items,And3 (exL h d items) (RelL B ρ h a items.toList) (a.length≤20000)
def AcD(prog:Program)(w:World)(B:Heap)(d:Addr)(ρ:List Addr)(h:Heap)(a:List (K×V)):Prop:=PD prog w B ρ h d a∧a.length≤20000
theorem zQ(w:World)(B:Heap)(d:Addr):Acc prog w B d (List V) (AcL B d) where
 keep:=λ⟨items,⟨n,e⟩,r,l⟩ S X K hn hd=>⟨items,⟨n,K.old d _ e X.off hd⟩,RelL.keep K S.hr hn r,l⟩
 mono:=λ⟨items,⟨n,e⟩,r,l⟩ ht hd=>⟨items,⟨n,hd _ e⟩,RelL.mono ht r,l⟩
 live:=λ⟨items,⟨n,e⟩,r,l⟩=>⟨_,e,not_eq_of_beq_eq_false rfl⟩
theorem wT(w:World)(B:Heap)(d:Addr):Acc prog w B d (List (K×V)) (AcD prog w B d) where
 keep:=λ⟨P,l⟩ S X K hn hd=>⟨⟨by refine kY P.ob λo ds ep h1 h2 h3 h4=>?_;exact vV o ds ep (K.old d o h1 X.off hd) h2 h3 (Ents.keep K S.hr hn h4),P.hom,P.nd⟩,l⟩
 mono:=λ⟨P,l⟩ ht hd=>⟨⟨by refine kY P.ob λo ds ep h1 h2 h3 h4=>?_;exact vV o ds ep (hd o h1) h2 h3 (Ents.mono ht h4),P.hom,P.nd⟩,l⟩
 live:=λ⟨P,l⟩=>by refine kY P.ob λo ds ep h1 h2 h3 h4=>?_;exact iEA o h1 (by show h2.1;decide)
theorem gG{α:Type}{src:Option (Nat×Nat)}{tg:V→Env→Option Env}{test:Env→M Bool}{elt:α→Env→M α}{l:List V}{a:α}{r:α×CH}(e:dw src tg test elt l σ a C=some r):bh src C=some ((),C):=by
 cases l<;>exact(dy e).1
structure CI(prog:Program)(w:World)(B:Heap)(sc':Scope)(env:PySem.Env)(ρ₀:List Addr)(C₀:CH)(s₀:Shared)(wr:List Addr)(Sta:Nat→Heap→Prop)(Inv:List Addr→CH→Heap→Prop)(d:Addr){α:Type}(Ac:List Addr→Heap→α→Prop)
  (i:Nat) (ρ:List Addr) (C:CH) (m cm:Str→Option Value) (σ:Env) (a:α) (s:Shared):Prop where
 S:St prog w B ρ C s
 F:Fm B ρ sc' env σ s m cm
 K:Keep W0 ρ₀ C₀ s₀ ρ C s
 O:Own B wr ρ s.heap
 st:Sta i s.heap
 inv:Inv ρ C s.heap
 X:Apart B ρ d
 acc:Ac ρ s.heap a
def CE(prog:Program)(w:World)(B:Heap)(ρ₀:List Addr)(C₀:CH)(s₀:Shared)(d L:Addr){α:Type}(Ac:List Addr→Heap→α→Prop)(a:α)(C:CH)(s:Shared):Prop:=
 Ex2 λρ m=>And6 (St prog w B ρ C s) (Keep W0 ρ₀ C₀ s₀ ρ C s) (Apart B ρ d) (Ac ρ s.heap a) (s.heap.Ns L m) (Own B [L] ρ s.heap)
theorem Fm.keepW(F:Fm B ρ sc env σ s m cm)(k:Keep W ρ C s ρ' C' s')(S:St prog w B ρ C s)(hn:b8 W s)(hw:∀b,Wf env b→¬W b):Fm B ρ' sc env σ s' m cm where
 fn:=F.fn
 glob:=F.glob
 blt:=F.blt
 kinds:=F.kinds
 ns:=by refine jk F.ns λo es ep ho r=>?_;exact oU o es ep (k.old _ o ho F.offL.1 (hw _ (.inl rfl))) r
 cel:=λx c e=>by refine oEA (F.cel x c e) λo ho hd=>?_;exact iEA o (k.old _ o ho (F.offC x c e).1 (hw _ (.inr ⟨x,e⟩))) hd
 bound:=F.bound
 apart:=F.apart
 offL:=⟨λh=>(by
  refine jk F.ns λo es ep ho r=>?_
  have:=k.new _ h F.offL.1
  rw[ho] at this;exact cNs this),F.offL.2⟩
 offC:=λx c e=>⟨λh=>(by
  refine oEA (F.cel x c e) λo ho hd=>?_
  have:=k.new _ h (F.offC x c e).1
  rw[ho] at this;exact cNs this),(F.offC x c e).2,(F.offC x c e).3⟩
 var:=λx v e=>⟨λh=>by refine oEA ((F.var x v e).1 h) λy h1 h2=>?_;exact iEA y h1 (Rel.keep k S.hr hn h2),λh=>by refine oEA ((F.var x v e).2 h) λy h1 h2=>?_;exact iEA y h1 (Rel.keep k S.hr hn h2)⟩
theorem lS(D:Snd prog w B mg E k)(R:Rm A k)(O:CompOk sc sc'){t:Expr}{ifs:List Expr}(ho:aq sc' t=true){I:Addr}{fp wr:List Addr}{vs:List V}{src:Option (Nat×Nat)}{P Md:Nat→Value→Heap→Prop}{Sta:Nat→Heap→Prop}
  {Inv:List Addr→CH→Heap→Prop} (T:Tn prog w B A t I fp wr vs src P Md Sta Inv) {d:Addr}{α:Type}{Ac:List Addr→Heap→α→Prop} (Q:Acc prog w B d α Ac)
  (hdw:∀b∈wr,s₀.heap.get? b=none) (hdd:s₀.heap.get? d=none) (hdL:s₀.heap.get? env.locals=none) (hLw:env.locals∉wr) (hdw':d∉wr) (hLd:env.locals≠d) (hcw:∀b∈wr,¬Wf env b) (hcd:¬Wf env d)
  {elt:α→Env→M α}{tail:Shared→(Shared→Prop)→Prop} (hm:∀s J J',tail s J→(∀s',J s'→J' s')→tail s J')
  (htail:∀{ρ C C' s m cm σ a a'},St prog w B ρ C s→Fm B ρ sc' env σ s m cm→Apart B ρ d→Ac ρ s.heap a→elt a σ C=some (a',C')→tail s (λs'=>∃ρ',And3 (St prog w B ρ' C' s') (Keep (Wd d) ρ C s ρ' C' s') (Ac ρ' s'.heap a')))
  {a':α}{i:Nat}{a:α} (X:CI prog w B sc' env ρ₀ C₀ s₀ wr Sta Inv d Ac i ρ C m cm σ a s) (hi:i≤vs.length)
  (e:dw src (target t) (λσ'=>iH (λe=>E.test sc' e σ') ifs) elt (vs.drop i) σ a C=some (a',C')) {G:Shared→Prop}
  (more:i<vs.length→∀ρ C m cm σ a s,CI prog w B sc' env ρ₀ C₀ s₀ wr Sta Inv d Ac (i+1) ρ C m cm σ a s→dw src (target t) (λσ'=>iH (λe=>E.test sc' e σ') ifs) elt (vs.drop (i+1)) σ a C=some (a',C')→G s) :
  wpAny (model prog w) A (pyNext (.ref I)) (λr s₁=>match r with
   |none=>CE prog w B ρ₀ C₀ s₀ d env.locals Ac a' C' s₁
   |some v=>wpAny (model prog w) A (letOwnedTupleGo t (.ref I) v) (λxx s₂=>wpAny (model prog w) A (assign t env v) (λxx s₃=>
     wpAny (model prog w) A (forIn ifs true λc r=>if r=true then do let ok ←PySem.isTrue c env (eval c env);pure (ForInStep.yield ok) else pure (ForInStep.yield r)) (λok s₄=>
      if ok=true then tail s₄ G else G s₄) EF s₃) EF s₂) EF s₁) EF s:=by
 have hWr:Wr sc' env (Wd env.locals):=⟨λa ha=>.inl ha,rfl,λx c hx hk hc=>by
  exfalso
  unfold aM at hx
  cases hq:aR sc' x with
  |none=>rw[hq] at hx;exact cFt hx
  |some kd=>
   rw[hq] at hx
   cases kd<;>first|exact cFt hx;done|skip
   ·have:=X.F.kinds x _ hq
    rw[hk] at this;refine cSo this λzx=>?_;clear this;injection zx
   ·rw[bj] at hq
    exact O.nocell _ (mem_of_lookup hq) rfl⟩
 have ownL:∀{ρ:List Addr}{σ:Env}{s:Shared}{m cm:Str→Option Value},Fm B ρ sc' env σ s m cm→Own B [env.locals] ρ s.heap:=λ{ρ σ s m cm} F=>
  ⟨λb hb=>by show Cd.mp hb;exact F.offL.1,λb hb=>by show Cd.mp hb;exact F.offL.2,λb hb=>by
   show Cd.mp hb
   refine iu (id F.ns) λo es ep ho hd xx=>?_
   exact iEA o ho (mw hd)⟩
 rcases drop_cases hi with⟨rfl,hd⟩|⟨hlt,v,hv,hd⟩
 ·rw[hd] at e
  refine oA (dy e) λhst e=>?_
  refine cS2 e ?_
  refine T.kt.done _ _ _ X.st λh' tk hb=>?_
  have F':=X.F.quiet (tk:=tk) X.O hcw hb
  exact⟨ρ,m,X.S.quiet X.O hb,X.K.quiet hdw X.O.off hb,X.X,Q.mono X.acc (X.O.tups hb) λo eo=>hb d o hdw' eo,F'.ns,ownL F'⟩
 ·rw[hd] at e
  refine oA (dy e) λhst f0=>?_
  clear e
  refine eM f0 λσ₁ e1 f1=>?_
  clear f0
  refine bc f1 λtb C₂ e2 f2=>?_
  clear f1
  refine T.kt.item i _ _ _ hlt X.st λy h' tk hMd hb=>?_
  refine T.kt.go i y _ _ _ hMd λh'' hP hSt hb'=>?_
  have hbb:But wr s.heap h'':=But.trans hb hb'
  have S₂:=X.S.quiet (tk:=tk) X.O hbb
  have F₂:=X.F.quiet (tk:=tk) X.O hcw hbb
  have K₂:=X.K.quiet (tk:=tk) hdw X.O.off hbb
  have O₂:Own B wr ρ h'':=⟨X.O.off,X.O.base,λb hb=>by refine oEA (T.live hSt b hb) λo e hc=>?_;exact iEA o e (gm hc)⟩
  have hI₂:=T.inv X.inv (X.O.tups hbb)
  have A₂:Ac ρ h'' a:=Q.mono X.acc (X.O.tups hbb) λo eo=>hbb d o hdw' eo
  have hnL:b8 (Wd env.locals) { s with heap:=h'',toks:=tk }:=λb hb=>F₂.noSeq b (.inl hb)
  refine B3 (qL hWr R.hd S₂ F₂ ho e1 (T.val hv hP hI₂)) (λxx s₃ qq=>qq.un λρ₃ m₃ cm₃ S₃ K₃ F₃=>?_) λxx yy h=>h
  have X₃:=X.X.keep (s:={ s with heap:=h'',toks:=tk }) K₃ (by refine oEA (Q.live A₂) λo e xx=>?_;exact⟨o,e⟩)
  have A₃:=Q.keep (s:={ s with heap:=h'',toks:=tk }) A₂ S₂ X.X K₃ hnL (λe=>hLd e.symm)
  refine B3 (zg D R S₃ F₃ e2) (λok s₄ ⟨hok,ρ₄,S₄,K₄⟩=>?_) λxx yy h=>h
  subst hok
  have F₄:=F₃.keep K₄ S₃
  have X₄:=X₃.keep K₄ (by refine oEA (Q.live A₃) λo e xx=>?_;exact⟨o,e⟩)
  have A₄:=Q.keep A₃ S₃ X₃ K₄ (aC _) id
  have K₂₄:Keep (Wd env.locals) ρ C { s with heap:=h'',toks:=tk } ρ₄ C₂ s₄:=K₃.trans (K₄.mono λxx h=>h.elim)
  have K₄':Keep W0 ρ₀ C₀ s₀ ρ₄ C₂ s₄:=K₂.thru K₂₄ λb hb=>.inr (by show hb;exact hdL)
  induction ok using Bool.casesOn with
  |false=>
   refine oA (T.stay (s:={ s with heap:=h'',toks:=tk }) hSt hI₂ S₂ K₂₄ hnL (λb hb=>⟨X.O.off b hb,λe=>hLw (e▸hb)⟩) (gG f2)) λq1 q2=>?_
   exact more hlt ρ₄ C₂ m₃ cm₃ σ₁ a s₄ ⟨S₄,F₄,K₄',Own.keep (s:={ s with heap:=h'',toks:=tk }) O₂ K₂₄ (λb hb e=>hLw (e▸hb)),q1,q2,X₄,A₄⟩ f2
  |true=>
   refine bc f2 λa₅ C₅ e5 f3=>?_
   refine hm _ _ _ (htail S₄ F₄ X₄ A₄ e5) λs₅ ⟨ρ₅,S₅,K₅,A₅⟩=>?_
   have K₂₅:Keep (λb=>b=env.locals∨b=d) ρ C { s with heap:=h'',toks:=tk } ρ₅ C₅ s₅:=(K₂₄.mono λxx h=>.inl h).trans (K₅.mono λxx h=>.inr h)
   have hn₂:b8 (λb=>b=env.locals∨b=d) { s with heap:=h'',toks:=tk }:=λb hb items hx=>hb.elim (λhb=>hnL b hb items hx) λhb=>by
    refine oEA (Q.live A₂) λo eo hc=>?_
    refine oE hx λnn ht=>?_
    subst hb
    have eo:h''.get? b=some o:=eo
    have ht:h''.get? b=_:=ht
    rw[ht] at eo;refine cSo eo λzx=>?_;clear eo;subst zx;exact hc rfl
   have hout:∀b∈wr,b∉ρ∧¬(b=env.locals∨b=d):=λb hb=>⟨X.O.off b hb,λh=>h.elim (λe=>hLw (e▸hb)) λe=>hdw' (e▸hb)⟩
   refine oA (T.stay (s:={ s with heap:=h'',toks:=tk }) hSt hI₂ S₂ K₂₅ hn₂ hout (gG f3)) λq1 q2=>?_
   have F₅:Fm B ρ₅ sc' env σ₁ s₅ m₃ cm₃:=F₄.keepW K₅ S₄ (λb hb=>by
    refine oEA (Q.live A₄) λo eo hc=>?_
    intro items hx
    refine oE hx λnn ht=>?_
    subst hb
    rw[ht] at eo;refine cSo eo λzx=>?_;clear eo;subst zx;exact hc rfl) λb hb e=>hcd (e▸hb)
   exact more hlt ρ₅ C₅ m₃ cm₃ σ₁ a₅ s₅ ⟨S₅,F₅,K₂.thru K₂₅ (λb hb=>.inr (hb.elim (λe=>by show e;exact hdL) λe=>by show e;exact hdd)),
    Own.keep (s:={ s with heap:=h'',toks:=tk }) O₂ K₂₅ (λb hb=>(hout b hb).2),q1,q2,
    X₄.keep K₅ (by refine oEA (Q.live A₄) λo e xx=>?_;exact⟨o,e⟩),A₅⟩ f3
theorem oL{RR:Result→Shared→Prop}{elt target iter:Expr}{ifs:List Expr}{scope:Scope}{pos:Pos}{it acc:Value}(I:Nat→Shared→Prop)
  (turn:∀n s,I n s→wpAny (model prog w) A (pyNext it) (λr s₁=>match r with
   |none=>RR (.ok .next) s₁
   |some v=>wpAny (model prog w) A (letOwnedTupleGo target it v) (λxx s₂=>wpAny (model prog w) A (assign target env v) (λxx s₃=>
     wpAny (model prog w) A (forIn ifs true λc r=>if r=true then do let ok ←PySem.isTrue c env (eval c env);pure (ForInStep.yield ok) else pure (ForInStep.yield r)) (λok s₄=>
      if ok=true then wpAny (model prog w) A (eval elt env) (λx s₅=>wpAny (model prog w) A (call (.builtin "list.append") [acc,x]) (λxx s₆=>∃m,m<n∧I m s₆) EF s₅) EF s₄
      else ∃m,m<n∧I m s₄) EF s₃) EF s₂) EF s₁) EF s)
  (n:Nat) (h:I n s):codeAny (model prog w) A (.compLoop (.ListComp elt [⟨target,iter,ifs,0⟩] scope pos) 0 it acc env) RR s:=by
 refine codeAny_loop rfl I (λn s hI=>?_) n h
 change wpAny _ A ((compTurn (.ListComp elt [⟨target,iter,ifs,0⟩] scope pos) 0 it acc env).onRaise (λx=>do noteFrame x env;theTreesLotGoes x)) _ _ s
 refine wpAny_noted ?_
 show compTurn_list
 refine B1 (wpAny_standAt (B1 (B3 (turn n s hI) (λr s₁ h₁=>?_) λxx yy h'=>h'.elim)))
 induction r using Option.casesOn with
 |none=>exact B2 h₁
 |some v=>
  refine B1 (B3 h₁ (λxx s₂ h₂=>?_) λxx yy h'=>h'.elim)
  refine B1 (B3 h₂ (λxx s₃ h₃=>B1 (B3 h₃ (λok s₄ h₄=>?_) λxx yy h'=>h'.elim)) λxx yy h'=>h'.elim)
  induction ok using Bool.casesOn with
  |false=>exact B2 ⟨rfl,h₄⟩
  |true=>
   exact B1 (B1 (B3 h₄ (λx s₄ h₄=>B1 (B3 h₄ (λxx s₅ h₅=>B2 (B2 ⟨rfl,h₅⟩)) λxx yy h'=>h'.elim)) λxx yy h'=>h'.elim))
theorem pD{RR:Result→Shared→Prop}{kx vx target iter:Expr}{ifs:List Expr}{scope:Scope}{pos:Pos}{it:Value}{d:Addr}(I:Nat→Shared→Prop)
  (turn:∀n s,I n s→wpAny (model prog w) A (pyNext it) (λr s₁=>match r with
   |none=>RR (.ok .next) s₁
   |some v=>wpAny (model prog w) A (letOwnedTupleGo target it v) (λxx s₂=>wpAny (model prog w) A (assign target env v) (λxx s₃=>
     wpAny (model prog w) A (forIn ifs true λc r=>if r=true then do let ok ←PySem.isTrue c env (eval c env);pure (ForInStep.yield ok) else pure (ForInStep.yield r)) (λok s₄=>
      if ok=true then wpAny (model prog w) A (eval kx env) (λkv s₅=>wpAny (model prog w) A (eval vx env) (λvv s₆=>wpAny (model prog w) A (dictSet d kv vv) (λxx s₇=>∃m,m<n∧I m s₇) EF s₆) EF s₅) EF s₄
      else ∃m,m<n∧I m s₄) EF s₃) EF s₂) EF s₁) EF s)
  (n:Nat) (h:I n s):codeAny (model prog w) A (.compLoop (.DictComp kx vx [⟨target,iter,ifs,0⟩] scope pos) 0 it (.ref d) env) RR s:=by
 refine codeAny_loop rfl I (λn s hI=>?_) n h
 change wpAny _ A ((compTurn (.DictComp kx vx [⟨target,iter,ifs,0⟩] scope pos) 0 it (.ref d) env).onRaise (λx=>do noteFrame x env;theTreesLotGoes x)) _ _ s
 refine wpAny_noted ?_
 show compTurn_dict
 refine B1 (wpAny_standAt (B1 (B3 (turn n s hI) (λr s₁ h₁=>?_) λxx yy h'=>h'.elim)))
 induction r using Option.casesOn with
 |none=>exact B2 h₁
 |some v=>
  refine B1 (B3 h₁ (λxx s₂ h₂=>?_) λxx yy h'=>h'.elim)
  refine B1 (B3 h₂ (λxx s₃ h₃=>B1 (B3 h₃ (λok s₄ h₄=>?_) λxx yy h'=>h'.elim)) λxx yy h'=>h'.elim)
  induction ok using Bool.casesOn with
  |false=>exact B2 ⟨rfl,h₄⟩
  |true=>
   exact B1 (B1 (B3 h₄ (λkv s₄ h₄=>B1 (wpAny_holding (B3 h₄ (λvv s₅ h₅=>B1 (wpAny_standAt (wpAny_holding (B3 h₅ (λxx s₆ h₆=>B2 ⟨rfl,h₆⟩) λxx yy h'=>h'.elim)))) λxx yy h'=>h'.elim))) λxx yy h'=>h'.elim))
noncomputable def xI(E:Ev)(sc':Scope)(elt:Expr):List V→Env→M (List V):=λacc σ'=>bd (E.expr sc' elt σ') λv=>λC=>if acc.length≤10000 then some (acc++[v],C) else none
noncomputable def xH(E:Ev)(sc':Scope)(kx vx:Expr):List (K×V)→Env→M (List (K×V)):=λacc σ'=>bd (E.expr sc' kx σ') λkv=>bd (E.expr sc' vx σ') λvv=>match kv.key with
 |some j=>λC=>if am j acc∧acc.length≤10000 then some (st j vv acc,C) else none
 |none=>no
theorem yL(D:Snd prog w B mg E k)(R:Rm A k){elt:Expr}{d:Addr}{a a':List V}(S:St prog w B ρ C s)(F:Fm B ρ sc env σ s m cm)(X:Apart B ρ d)(hA:AcL B d ρ s.heap a)(e:xI E sc elt a σ C=some (a',C')):
  wpAny (model prog w) A (eval elt env) (λx s₅=>wpAny (model prog w) A (call (.builtin "list.append") [.ref d,x]) (λxx s'=>∃ρ',And3 (St prog w B ρ' C' s') (Keep (Wd d) ρ C s ρ' C' s') (AcL B d ρ' s'.heap a')) EF s₅) EF s:=by
 refine bc e λv C₁ e1 f1=>?_
 refine QV.go (D.expr e1 R S F) λy s₁ ρ₁ S₁ K₁ r₁=>?_
 have A₁:=(zQ w B d).keep hA S X K₁ (aC _) id
 have X₁:=X.keep K₁ (by refine oEA ((zQ w B d).live hA) λo e xx=>?_;exact⟨o,e⟩)
 refine cv A₁ λitems hx hr hl=>?_
 split at f1
 ·rename_i hlen
  refine cS2 f1 ?_
  refine wpAny_list_append_plain hx (λh' hx' hsb=>?_) (by show sizeLine_eq;refine rL (Ce ..) ?_;refine rL (hr.length ..) ?_;exact B4 hlen (B5 _ _))
  refine oa3 (PL.push (tk:=s₁.toks) S₁ hx hr X₁ hlen r₁ hsb hx') λS₂ K₂ r₂=>?_
  exact⟨ρ₁,S₂,(K₁.mono λxx h=>h.elim).trans K₂,items.push y,hx',r₂,by show Cf;simp;exact B4 hlen (B5 _ _)⟩
 ·exact cNo f1
theorem zm(D:Snd prog w B mg E k)(R:Rm A k)(hu:A.units<cLine){kx vx:Expr}{d:Addr}{a a':List (K×V)}(S:St prog w B ρ C s)(F:Fm B ρ sc env σ s m cm)(X:Apart B ρ d)(hA:AcD prog w B d ρ s.heap a)(e:xH E sc kx vx a σ C=some (a',C')):
  wpAny (model prog w) A (eval kx env) (λkv s₅=>wpAny (model prog w) A (eval vx env) (λvv s₆=>wpAny (model prog w) A (dictSet d kv vv) (λxx s'=>∃ρ',And3 (St prog w B ρ' C' s') (Keep (Wd d) ρ C s ρ' C' s') (AcD prog w B d ρ' s'.heap a')) EF s₆) EF s₅) EF s:=by
 refine bc e λkv C₁ e1 f1=>?_
 refine bc f1 λvv C₂ e2 f2=>?_
 refine QV.go (D.expr e1 R S F) λy s₁ ρ₁ S₁ K₁ r₁=>?_
 have A₁:=(wT w B d).keep hA S X K₁ (aC _) id
 have X₁:=X.keep K₁ (by refine oEA ((wT w B d).live hA) λo e xx=>?_;exact⟨o,e⟩)
 refine QV.go (D.expr e2 R S₁ (F.keep K₁ S)) λz s₂ ρ₂ S₂ K₂ r₂=>?_
 have A₂:=(wT w B d).keep A₁ S₁ X₁ K₂ (aC _) id
 have X₂:=X₁.keep K₂ (by refine oEA ((wT w B d).live A₁) λo e xx=>?_;exact⟨o,e⟩)
 cases hk:kv.key with
 |none=>simp only[hk] at f2;exact cNo f2
 |some j=>
  simp only[hk] at f2
  split at f2
  ·rename_i hc
   refine cS2 f2 ?_
   refine PD.store hu S₂ A₂.1 X₂ hc.1 hc.2 (gv hk (Rel.keep K₂ S₁.hr (aC _) r₁)) r₂ λs' S' K' P'=>?_
   exact⟨ρ₂,S',((K₁.trans K₂).mono λxx h=>h.elim).trans K',P',by have:=nS (k:=j) (v:=vv) (es:=a);exact B4 this (Nat.succ_le_of_lt (Ck hc.2 (Mine.Lake.ltb rfl)))⟩
  ·exact cNo f2
def CR(prog:Program)(w:World)(B:Heap)(ρ₀:List Addr)(C₀:CH)(s₀:Shared){α:Type}(Ac:Addr→List Addr→Heap→α→Prop)(a:α)(C:CH)(acc:Value)(L:Addr)(r:Result)(s:Shared):Prop:=
 match r with
 |.ok _=>∃d,And5 (acc=.ref d) (CE prog w B ρ₀ C₀ s₀ d L (Ac d) a C s) (s₀.heap.get? d=none) (s₀.heap.get? L=none) (L≠d)
 |.error _=>False
theorem lx(K:Keep W ρ₀ C₀ s₀ ρ C s){a:Addr}(h:s.heap.objs.size≤a):s₀.heap.get? a=none:=by
 cases e:s₀.heap.get? a with
 |none=>rfl
 |some o=>refine oE (K.live a o e) λo' e'=>?_;exact absurd (Heap.lt_size e') (Nat.not_lt.mpr h)
theorem qd(hB:B.NoLimit)(O:CompOk sc sc')(F₀:Fm B ρ₀ sc env σ s₀ m₀ cm₀)(S₀:St prog w B ρ₀ C₀ s₀){cl:List (Str×Addr)}(h1:∀x c,(x,c)∈cl→env.cells.lookup x=some c)(h2:∀p∈sc'.names,p.2=.free→∃c,(p.1,c)∈cl)
  {t:Expr}{I:Addr}{fp wr:List Addr}{vs:List V}{src:Option (Nat×Nat)}{P Md:Nat→Value→Heap→Prop}{Sta:Nat→Heap→Prop}{Inv:List Addr→CH→Heap→Prop} (T:Tn prog w B A t I fp wr vs src P Md Sta Inv)
  (Ow:Own B wr ρ s.heap) (hst:Sta 0 s.heap) (hI:Inv ρ C s.heap) (S:St prog w B ρ C s) (K:Keep W0 ρ₀ C₀ s₀ ρ C s) {ob:Obj}{α:Type}{Ac:List Addr→Heap→α→Prop}{a:α} (hf:ob.isFreed=false)
  (hA:∀h,h.get? s.heap.objs.size=some ob→Ac ρ h a) {h₁:Heap}{tk:Nat}{dob:Obj} (hns:h₁.Ns (s.heap.push ob).objs.size λxx=>none) (hsb:Heap.SameBut (s.heap.push ob).objs.size ((s.heap.push ob).push dob) h₁) :
  CI prog w B sc' (compEnvC sc' cl (s.heap.push ob).objs.size env) ρ₀ C₀ s₀ wr Sta Inv s.heap.objs.size Ac 0 ρ C (λxx=>none) cm₀ (bk sc' σ) a { s with heap:=h₁,toks:=tk }:=by
 have hz:(s.heap.push ob).objs.size=s.heap.objs.size+1:=Heap.size_push ..
 have hk:∀b o,s.heap.get? b=some o→h₁.get? b=some o:=λb o e=>
  hsb.extBut b o (by show hz;exact Nat.ne_of_lt (Nat.lt_succ_of_lt (Heap.lt_size e))) (Heap.get?_push_of_some _ (Heap.get?_push_of_some _ e))
 have hd:h₁.get? s.heap.objs.size=some ob:=hsb.extBut _ _ (by show hz;exact Nat.ne_of_lt (Nat.lt_succ_self _)) (Heap.get?_push_of_some _ (Heap.get?_push_size _ hf))
 have Fs:=F₀.keep K S₀
 refine oA (S.still (tk:=tk) hk) λS' K'=>?_
 have top:=S.top hB (Cj s.heap.objs.size)
 exact{
     S:=S',F:=Fs.comp O S hB h1 h2 (by show hz;exact Nat.le_succ _) hns hk,K:=K.trans K',O:=⟨Ow.off,Ow.base,λb hb=>by refine oEA (Ow.live b hb) λo e hc=>?_;exact iEA o (hk _ _ e) hc⟩,
     st:=T.kt.frame _ _ _ hst λb xx o e=>hk b o e,inv:=T.inv hI λb items qz=>by refine oE qz λn e=>?_;exact⟨n,hk _ _ e⟩,
     X:=⟨λhm=>(by refine oE (S.hr.live hm) λo e=>?_;exact absurd (Heap.lt_size e) (Nat.lt_irrefl _)),top.1,top.2⟩,acc:=hA _ hd }
theorem wf_comp{cl:List (Str×Addr)}{L:Addr}{b:Addr}(h:Wf (compEnvC sc' cl L env) b):b=L∨∃x,(x,b)∈cl:=h.imp id λqz=>by refine oE qz λx e=>?_;exact⟨x,mem_of_lookup e⟩
theorem lm{cl:List (Str×Addr)}{wr:List Addr}{L:Addr}(F₀:Fm B ρ₀ sc env σ s₀ m₀ cm₀)(h1:∀x c,(x,c)∈cl→env.cells.lookup x=some c)(Ow:Own B wr ρ s.heap)(K:Keep W0 ρ₀ C₀ s₀ ρ C s)(dead:∀b∈wr,s₀.heap.get? b=none)(hz:L=s.heap.objs.size+1):
  And7 (s₀.heap.get? s.heap.objs.size=none) (s₀.heap.get? L=none) (L∉wr) (s.heap.objs.size∉wr) (L≠s.heap.objs.size) (∀b∈wr,¬Wf (compEnvC sc' cl L env) b) (¬Wf (compEnvC sc' cl L env) s.heap.objs.size):=by
 have hdd:=lx K (Cj s.heap.objs.size)
 have hdL:s₀.heap.get? L=none:=lx K (by show hz;exact Nat.le_succ _)
 have hlt:∀b∈wr,b<s.heap.objs.size:=λb hb=>by refine oEA (Ow.live b hb) λo e xx=>?_;exact Heap.lt_size e
 have hcl:∀{b x},(x,b)∈cl→∃o,s₀.heap.get? b=some o:=λ{b x} hx=>by refine oEA (F₀.cel x b (h1 x b hx)) λo e xx=>?_;exact⟨o,e⟩
 refine⟨hdd,hdL,λh=>?_,λh=>Nat.lt_irrefl _ (hlt _ h),by show hz;exact Nat.succ_ne_self _,λb hb hw=>?_,λhw=>?_⟩
 ·have:=hlt _ h
  rw[hz] at this
  exact absurd this (Nat.not_lt.mpr (Nat.le_succ _))
 ·rcases wf_comp hw with h|⟨x,hx⟩
  ·have:=hlt _ hb
   rw[h,hz] at this
   exact absurd this (Nat.not_lt.mpr (Nat.le_succ _))
  ·refine oE (hcl hx) λo e=>?_;rw[dead b hb] at e;exact cNo e
 ·rcases wf_comp hw with h|⟨x,hx⟩
  ·rw[hz] at h;exact absurd h.symm (Nat.succ_ne_self _)
  ·refine oE (hcl hx) λo e=>?_;rw[hdd] at e;exact cNo e
theorem qF(hB:B.NoLimit)(D:Snd prog w B mg E k)(R:Rm A k)(O:CompOk sc sc')(F₀:Fm B ρ₀ sc env σ s₀ m₀ cm₀)(S₀:St prog w B ρ₀ C₀ s₀){cl:List (Str×Addr)}(h1:∀x c,(x,c)∈cl→env.cells.lookup x=some c)(h2:∀p∈sc'.names,p.2=.free→∃c,(p.1,c)∈cl)
  {t elt iter:Expr}{ifs:List Expr}{pos:Pos} (ho:aq sc' t=true) {vs vs':List V}{src:Option (Nat×Nat)}{it:Value} (X:Src prog w B A t vs src ρ₀ C₀ s₀ C it s)
  (e:dw src (target t) (λσ'=>iH (λe=>E.test sc' e σ') ifs) (xI E sc' elt) vs (bk sc' σ) [] C=some (vs',C')) :
  wpAny (model prog w) A (newList []) (λacc s₃=>wpAny (model prog w) A (newFunctionEnv sc' env.globals cl [] env.qual none .none (some env)) (λcenv s₄=>
   codeAny (model prog w) A (.compStart (.ListComp elt [⟨t,iter,ifs,0⟩] sc' pos) 0 it acc { cenv with scope:=relabel sc' env }) (CR prog w B ρ₀ C₀ s₀ (λd=>AcL B d) vs' C' acc cenv.locals) s₄) EF s₃) EF s:=by
 obtain⟨ρ,I,fp,wr,P,Md,Sta,Inv,rfl,T,dead,Ow,hst,hI,S,K⟩:=X
 refine wpAny_newObj_type (wpAny_newFunctionEnv O.nocell (by intro y hy;simp at hy) (λh₁ hns₁ hsb₁=>?_) O.fn)
 dsimp only at hns₁ hsb₁ ⊢
 have hz:(s.heap.push { cls:=.type "list",dict:=none,data:=.seq ([]:List Value).toArray }).objs.size=s.heap.objs.size+1:=Heap.size_push ..
 have ci:=qd (tk:=s.toks+([]:List (Str×Value)).length) (Ac:=AcL B s.heap.objs.size) (a:=[]) hB O F₀ S₀ h1 h2 T Ow hst hI S K rfl (λh e=>⟨_,⟨0,e⟩,.nil,by simp⟩) hns₁ hsb₁
 change codeAny _ _ (.compStart (.ListComp elt [⟨t,iter,ifs,0⟩] sc' pos) 0 (.ref I) (.ref s.heap.objs.size) (compEnvC sc' cl (s.heap.push { cls:=.type "list",dict:=none,data:=.seq ([]:List Value).toArray }).objs.size env))
  (CR prog w B ρ₀ C₀ s₀ (λd=>AcL B d) vs' C' (.ref s.heap.objs.size) (s.heap.push { cls:=.type "list",dict:=none,data:=.seq ([]:List Value).toArray }).objs.size) _
 generalize (s.heap.push { cls:=.type "list",dict:=none,data:=.seq ([]:List Value).toArray }).objs.size=L at hz ci ⊢
 refine oa7 (lm (sc':=sc') F₀ h1 Ow K dead hz) λhdd hdL hLw hdw hLd hcw hcd=>?_
 have loop:∀s₃:Shared,s₃={ s with heap:=h₁,toks:=s.toks+([]:List (Str×Value)).length }→
   codeAny (model prog w) A (.compLoop (.ListComp elt [⟨t,iter,ifs,0⟩] sc' pos) 0 (.ref I) (.ref s.heap.objs.size) (compEnvC sc' cl L env)) (CR prog w B ρ₀ C₀ s₀ (λd=>AcL B d) vs' C' (.ref s.heap.objs.size) L) s₃:=by
  rintro s₃ rfl
  refine oL (λn s₄=>Ex7 λi ρ C m cm σ' a=>And4 (i≤vs.length) (n=vs.length+1-i) (CI prog w B sc' (compEnvC sc' cl L env) ρ₀ C₀ s₀ wr Sta Inv s.heap.objs.size (AcL B s.heap.objs.size) i ρ C m cm σ' a s₄) (dw src (target t) (λσ'=>iH (λe=>E.test sc' e σ') ifs) (xI E sc' elt) (vs.drop i) σ' a C=some (vs',C'))) ?_ (vs.length+1) ⟨0,ρ,C,_,_,_,[],Nat.zero_le _,rfl,ci,e⟩
  rintro n s₄ ⟨i,ρ₄,C₄,m₄,cm₄,σ₄,a,hi,rfl,ci₄,e₄⟩
  refine B3 (lS D R O ho T (zQ w B s.heap.objs.size) dead hdd hdL hLw hdw hLd hcw hcd (G:=λs₄=>∃n,n<vs.length+1-i∧Ex7 λi ρ C m cm σ' a=>And4 (i≤vs.length) (n=vs.length+1-i) (CI prog w B sc' (compEnvC sc' cl L env) ρ₀ C₀ s₀ wr Sta Inv s.heap.objs.size (AcL B s.heap.objs.size) i ρ C m cm σ' a s₄) (dw src (target t) (λσ'=>iH (λe=>E.test sc' e σ') ifs) (xI E sc' elt) (vs.drop i) σ' a C=some (vs',C')))
   (tail:=λs₅ J=>wpAny (model prog w) A (eval elt (compEnvC sc' cl L env)) (λx s₆=>wpAny (model prog w) A (call (.builtin "list.append") [.ref s.heap.objs.size,x]) (λxx s'=>J s') EF s₆) EF s₅)
   (λxx yy zz h h'=>B3 h (λxx yy h=>B3 h (λxx yy h=>h' _ h) λxx yy h=>h) λxx yy h=>h) (λS F X hA e=>yL D R S F X hA e) ci₄ hi e₄
   (λhlt ρ C m cm σ a s hci e=>⟨vs.length+1-(i+1),(Nat.sub_lt_sub_left (Nat.lt_succ_of_le hi) (Nat.lt_succ_self _)),i+1,ρ,C,m,cm,σ,a,hlt,rfl,hci,e⟩)) (λr s₅ h=>?_) λxx yy h=>h
  induction r using Option.casesOn with
  |none=>exact AF _ rfl h hdd hdL hLd
  |some v=>exact h
 exact codeAny_compStart_list (loop _ rfl) (T.self 0 _ _ _ ci.st (loop _ rfl))
theorem sF(hB:B.NoLimit)(D:Snd prog w B mg E k)(R:Rm A k)(hu:A.units<cLine)(O:CompOk sc sc')(F₀:Fm B ρ₀ sc env σ s₀ m₀ cm₀)(S₀:St prog w B ρ₀ C₀ s₀){cl:List (Str×Addr)}(h1:∀x c,(x,c)∈cl→env.cells.lookup x=some c)(h2:∀p∈sc'.names,p.2=.free→∃c,(p.1,c)∈cl)
  {t kx vx iter:Expr}{ifs:List Expr}{pos:Pos} (ho:aq sc' t=true) {vs:List V}{es':List (K×V)}{src:Option (Nat×Nat)}{it:Value} (X:Src prog w B A t vs src ρ₀ C₀ s₀ C it s)
  (e:dw src (target t) (λσ'=>iH (λe=>E.test sc' e σ') ifs) (xH E sc' kx vx) vs (bk sc' σ) [] C=some (es',C')) :
  wpAny (model prog w) A newDict (λacc s₃=>wpAny (model prog w) A (newFunctionEnv sc' env.globals cl [] env.qual none .none (some env)) (λcenv s₄=>
   codeAny (model prog w) A (.compStart (.DictComp kx vx [⟨t,iter,ifs,0⟩] sc' pos) 0 it acc { cenv with scope:=relabel sc' env }) (CR prog w B ρ₀ C₀ s₀ (λd=>AcD prog w B d) es' C' acc cenv.locals) s₄) EF s₃) EF s:=by
 obtain⟨ρ,I,fp,wr,P,Md,Sta,Inv,rfl,T,dead,Ow,hst,hI,S,K⟩:=X
 refine wpAny_newObj_type (wpAny_newFunctionEnv O.nocell (by intro y hy;simp at hy) (λh₁ hns₁ hsb₁=>?_) O.fn) (leb rfl)
 dsimp only at hns₁ hsb₁ ⊢
 have hz:(s.heap.push { cls:=.type "dict",data:=.dict #[] }).objs.size=s.heap.objs.size+1:=Heap.size_push ..
 have ci:=qd (tk:=s.toks+([]:List (Str×Value)).length) (Ac:=AcD prog w B s.heap.objs.size) (a:=[]) hB O F₀ S₀ h1 h2 T Ow hst hI S K rfl (λh e=>⟨⟨⟨_,#[],0,e,⟨rfl,rfl,rfl⟩,rfl,.nil⟩,⟨false,by decide⟩,List.nodup_nil⟩,by simp⟩) hns₁ hsb₁
 change codeAny _ _ (.compStart (.DictComp kx vx [⟨t,iter,ifs,0⟩] sc' pos) 0 (.ref I) (.ref s.heap.objs.size) (compEnvC sc' cl (s.heap.push { cls:=.type "dict",data:=.dict #[] }).objs.size env))
  (CR prog w B ρ₀ C₀ s₀ (λd=>AcD prog w B d) es' C' (.ref s.heap.objs.size) (s.heap.push { cls:=.type "dict",data:=.dict #[] }).objs.size) _
 generalize (s.heap.push { cls:=.type "dict",data:=.dict #[] }).objs.size=L at hz ci ⊢
 refine oa7 (lm (sc':=sc') F₀ h1 Ow K dead hz) λhdd hdL hLw hdw hLd hcw hcd=>?_
 have loop:∀s₃:Shared,s₃={ s with heap:=h₁,toks:=s.toks+([]:List (Str×Value)).length }→
   codeAny (model prog w) A (.compLoop (.DictComp kx vx [⟨t,iter,ifs,0⟩] sc' pos) 0 (.ref I) (.ref s.heap.objs.size) (compEnvC sc' cl L env)) (CR prog w B ρ₀ C₀ s₀ (λd=>AcD prog w B d) es' C' (.ref s.heap.objs.size) L) s₃:=by
  rintro s₃ rfl
  refine pD (λn s₄=>Ex7 λi ρ C m cm σ' a=>And4 (i≤vs.length) (n=vs.length+1-i) (CI prog w B sc' (compEnvC sc' cl L env) ρ₀ C₀ s₀ wr Sta Inv s.heap.objs.size (AcD prog w B s.heap.objs.size) i ρ C m cm σ' a s₄) (dw src (target t) (λσ'=>iH (λe=>E.test sc' e σ') ifs) (xH E sc' kx vx) (vs.drop i) σ' a C=some (es',C'))) ?_ (vs.length+1) ⟨0,ρ,C,_,_,_,[],Nat.zero_le _,rfl,ci,e⟩
  rintro n s₄ ⟨i,ρ₄,C₄,m₄,cm₄,σ₄,a,hi,rfl,ci₄,e₄⟩
  refine B3 (lS D R O ho T (wT w B s.heap.objs.size) dead hdd hdL hLw hdw hLd hcw hcd (G:=λs₄=>∃n,n<vs.length+1-i∧Ex7 λi ρ C m cm σ' a=>And4 (i≤vs.length) (n=vs.length+1-i) (CI prog w B sc' (compEnvC sc' cl L env) ρ₀ C₀ s₀ wr Sta Inv s.heap.objs.size (AcD prog w B s.heap.objs.size) i ρ C m cm σ' a s₄) (dw src (target t) (λσ'=>iH (λe=>E.test sc' e σ') ifs) (xH E sc' kx vx) (vs.drop i) σ' a C=some (es',C')))
   (tail:=λs₅ J=>wpAny (model prog w) A (eval kx (compEnvC sc' cl L env)) (λkv s₆=>wpAny (model prog w) A (eval vx (compEnvC sc' cl L env)) (λvv s₇=>wpAny (model prog w) A (dictSet s.heap.objs.size kv vv) (λxx s'=>J s') EF s₇) EF s₆) EF s₅)
   (λxx yy zz h h'=>B3 h (λxx yy h=>B3 h (λxx yy h=>B3 h (λxx yy h=>h' _ h) λxx yy h=>h) λxx yy h=>h) λxx yy h=>h) (λS F X hA e=>zm D R hu S F X hA e) ci₄ hi e₄
   (λhlt ρ C m cm σ a s hci e=>⟨vs.length+1-(i+1),(Nat.sub_lt_sub_left (Nat.lt_succ_of_le hi) (Nat.lt_succ_self _)),i+1,ρ,C,m,cm,σ,a,hlt,rfl,hci,e⟩)) (λr s₅ h=>?_) λxx yy h=>h
  induction r using Option.casesOn with
  |none=>exact AF _ rfl h hdd hdL hLd
  |some v=>exact h
 exact codeAny_compStart_dict (loop _ rfl) (T.self 0 _ _ _ ci.st (loop _ rfl))
theorem nJ{L:Addr}{h h':Heap}(hs:Heap.SameBut L h h'):But [L] h h':=λb o hb e=>(hs.2 b (λq=>hb (by simp[q]))).trans e
theorem lO{α:Type}{Ac:Addr→List Addr→Heap→α→Prop}{a:α}{o:O}(Q:∀d,Acc prog w B d α (Ac d))(orel:∀d ρ h,Ac d ρ h a→ORel prog w B ρ h o d){acc:Value}{L:Addr}{r:Result}(h:CR prog w B ρ₀ C₀ s₀ Ac a C' acc L r s'):
  compPost (model prog w) A EF none (QV prog w B ρ₀ C₀ s₀ (.cell C'.length) (C'++[(o,0)])) acc L r s':=by
 cases r with
 |error x=>exact h.elim
 |ok f=>
  obtain⟨d,rfl,⟨ρ,m,S,K,X,hA,hn,Ow⟩,hd,hL,hne⟩:=h
  refine iEA m hn (λh' hs=>?_)
  have hb:=nJ hs
  have S':=S.quiet (tk:=s'.toks) Ow hb
  have K':=K.quiet (tk:=s'.toks) (wr:=[L]) (λb hb=>by show Cd.mp hb;exact hL) Ow.off hb
  have A':=(Q d).mono hA (Ow.tups hb) λo eo=>hb d o (by simp;exact hne.symm) eo
  refine oA (S'.adopt X (orel d ρ h' A') 0) λS₂ e=>?_
  exact⟨_,S₂,(K'.mono (λxx h=>h.elim):Keep (Wd d) ρ₀ C₀ s₀ ρ C' _).adopt hd _,.cell e⟩
theorem ln(R:A.handled=none)(S₀:St prog w B ρ₀ C₀ s₀)(F₀:Fm B ρ₀ sc env σ s₀ m₀ cm₀){y:Str}{py:Pos}(hy:aM sc y=true){α:Type}{Ac:Addr→List Addr→Heap→α→Prop}{a:α}{o:O}(Q:∀d,Acc prog w B d α (Ac d))(orel:∀d ρ h,Ac d ρ h a→ORel prog w B ρ h o d)
  {acc:Value}{L:Addr}{r:Result} (h:CR prog w B ρ₀ C₀ s₀ Ac a C' acc L r s') :
  compPost (model prog w) A EF (some (assign (.Name y py) env)) (λxx s''=>QF prog w B ρ₀ C₀ s₀ sc env ((y,.cell C'.length)::σ) (C'++[(o,0)]) s'') acc L r s':=by
 cases r with
 |error x=>exact h.elim
 |ok f=>
  obtain⟨d,rfl,⟨ρ,m,S,K,X,hA,hn,Ow⟩,hd,hL,hne⟩:=h
  refine oA (S.adopt X (orel d ρ s'.heap hA) 0) λS₂ e=>?_
  have K₂:=(K.mono (λxx h=>h.elim):Keep (Wd d) ρ₀ C₀ s₀ ρ C' s').adopt hd (o,0)
  have F₂:=F₀.keep K₂ S₀
  have hLW:¬Wf env L:=λhw=>by
   rcases hw with h|⟨x,hx⟩
   ·refine jk F₀.ns λo es ep ho xx=>?_
    rw[←h,hL] at ho;exact cNo ho
   ·refine oEA (F₀.cel x L hx) λo ho xx=>?_
    rw[hL] at ho;exact cNo ho
  have hLρ:L∉ρ++[d]:=λhm=>by
   rcases Cz.mp hm with h|h
   ·exact Ow.off L (.head _) h
   ·exact hne (Cd.mp h)
  refine B3 (B1 (wpAny_standAt (mS Wr.all S₂ F₂ hy (.cell e)))) (λxx s₃ qq=>qq.un λρ₃ m₃ cm₃ S₃ K₃ F₃=>?_) λxx yy h=>h
  refine wt hn λol es ep hol hdl hkl hml=>?_
  have hol':=K₃.old L ol hol hLρ hLW
  refine iEA m ⟨ol,es,ep,hol',hdl,hkl,hml⟩ (λh' hs=>?_)
  have hb:=nJ hs
  have Ow':Own B [L] ρ₃ s₃.heap:=Own.keep (s:=s') ⟨λb hb=>by show Cd.mp hb;exact hLρ,Ow.base,Ow.live⟩ K₃ λb hb=>by show Cd.mp hb;exact hLW
  exact⟨ρ₃,m₃,cm₃,S₃.quiet (tk:=s₃.toks) Ow' hb,((K₂.mono w0).trans K₃).quiet (wr:=[L]) (λb hb=>by show Cd.mp hb;exact hL) Ow'.off hb,F₃.quiet Ow' (λb hb=>by show Cd.mp hb;exact hLW) hb⟩
theorem u0(w:World)(B:Heap)(a:List V):∀d ρ h,AcL B d ρ h a→ORel prog w B ρ h (.list a) d:=λd ρ h qz=>by refine cv qz λitems h1 h2 h3=>?_;exact .list h1 h2 ((B4 h3 (B5 _ _)))
theorem vu(w:World)(B:Heap)(a:List (K×V)):∀d ρ h,AcD prog w B d ρ h a→ORel prog w B ρ h (.dict a) d:=λd ρ h qz=>by refine oA qz λP h3=>?_;exact P.orel ((B4 h3 (B5 _ _)))
theorem lG(hB:B.NoLimit)(T:Tp B mg mb)(D:Snd prog w B mg E k)(R:Rm A k)(S:St prog w B ρ C s)(F:Fm B ρ sc env σ s m cm){t it elt:Expr}{ifs:List Expr}{pos:Pos}(hok:(bV sc sc'&&aq sc' t)=true){v:V}
  (e:(bd (iter (isTup t) (λe=>E.expr sc e σ) sc it) λp=>bd (jc p.2) λsrc=>bd (dw src (target t) (λσ'=>iH (λe=>E.test sc' e σ') ifs) (xI E sc' elt) p.1 (bk sc' σ) []) λvs=>new (.list vs)) C=some (v,C')) {use:Option (Value→Sem Unit)}{Q:Value→Shared→Prop}
  (post:∀a C₁ acc L r s',v=.cell C₁.length→C'=C₁++[(.list a,0)]→CR prog w B ρ C s (λd=>AcL B d) a C₁ acc L r s'→compPost (model prog w) A EF use Q acc L r s') :
  wpAny (model prog w) A (comprehension (.ListComp elt [⟨t,it,ifs,0⟩] sc' pos) sc' env (firstIterPos [⟨t,it,ifs,0⟩] pos) (newList []) false (eval it env) use) Q EF s:=by
 rw[Ca] at hok
 have O:=lL hok.1
 obtain⟨⟨vs,oc⟩,C₁,e1,f1⟩:=cC e
 refine bc f1 λsrc C₂ e2 f2=>?_
 refine bc f2 λa C₃ e3 f3=>?_
 clear e f1 f2
 refine oA (ik e2) λzr0 xx=>?_;subst zr0
 refine cSp f3 λzx zy=>?_;clear f3;subst zx zy
 refine cv (jl O F) λcl hcl hc1 hc2=>?_
 refine wpAny_comprehension_free rfl (ko (λels kk p C=>D.noSet sc els kk p σ C) e1) hcl O.fn (λx hx hl=>O.loc x hx hl) (B3 (nh hB T D R S F e1 e2) (λx s₁ h=>B3 h (λi s₂ X=>?_) λxx yy h=>h) λxx yy h=>h)
 exact B3 (qF hB D R O F S hc1 hc2 hok.2 X e3) (λacc s₃ h=>B3 h (λcenv s₄ h=>codeAny_mono h λr s' h=>post a _ acc _ r s' rfl rfl h) λxx yy h=>h) λxx yy h=>h
theorem lK(hB:B.NoLimit)(T:Tp B mg mb)(D:Snd prog w B mg E k)(R:Rm A k)(hu:A.units<cLine)(S:St prog w B ρ C s)(F:Fm B ρ sc env σ s m cm){t it kx vx:Expr}{ifs:List Expr}{pos:Pos}(hok:(bV sc sc'&&aq sc' t)=true){v:V}
  (e:(bd (iter (isTup t) (λe=>E.expr sc e σ) sc it) λp=>bd (jc p.2) λsrc=>bd (dw src (target t) (λσ'=>iH (λe=>E.test sc' e σ') ifs) (xH E sc' kx vx) p.1 (bk sc' σ) []) λvs=>new (.dict vs)) C=some (v,C')) {use:Option (Value→Sem Unit)}{Q:Value→Shared→Prop}
  (post:∀a C₁ acc L r s',v=.cell C₁.length→C'=C₁++[(.dict a,0)]→CR prog w B ρ C s (λd=>AcD prog w B d) a C₁ acc L r s'→compPost (model prog w) A EF use Q acc L r s') :
  wpAny (model prog w) A (comprehension (.DictComp kx vx [⟨t,it,ifs,0⟩] sc' pos) sc' env (firstIterPos [⟨t,it,ifs,0⟩] pos) newDict false (eval it env) use) Q EF s:=by
 rw[Ca] at hok
 have O:=lL hok.1
 obtain⟨⟨vs,oc⟩,C₁,e1,f1⟩:=cC e
 refine bc f1 λsrc C₂ e2 f2=>?_
 refine bc f2 λa C₃ e3 f3=>?_
 clear e f1 f2
 refine oA (ik e2) λzr0 xx=>?_;subst zr0
 refine cSp f3 λzx zy=>?_;clear f3;subst zx zy
 refine cv (jl O F) λcl hcl hc1 hc2=>?_
 refine wpAny_comprehension_free rfl (ko (λels kk p C=>D.noSet sc els kk p σ C) e1) hcl O.fn (λx hx hl=>O.loc x hx hl) (B3 (nh hB T D R S F e1 e2) (λx s₁ h=>B3 h (λi s₂ X=>?_) λxx yy h=>h) λxx yy h=>h)
 exact B3 (sF hB D R hu O F S hc1 hc2 hok.2 X e3) (λacc s₃ h=>B3 h (λcenv s₄ h=>codeAny_mono h λr s' h=>post a _ acc _ r s' rfl rfl h) λxx yy h=>h) λxx yy h=>h
noncomputable def nQ(E:Ev)(sc sc':Scope)(t it elt:Expr)(ifs:List Expr)(σ:Env):M V:=match bV sc sc'&&aq sc' t with
 |false=>no
 |true=>bd (iter (isTup t) (λe=>E.expr sc e σ) sc it) λp=>bd (jc p.2) λsrc=>bd (dw src (target t) (λσ'=>iH (λe=>E.test sc' e σ') ifs) (xI E sc' elt) p.1 (bk sc' σ) []) λvs=>new (.list vs)
noncomputable def nZ(E:Ev)(sc sc':Scope)(t it kx vx:Expr)(ifs:List Expr)(σ:Env):M V:=match bV sc sc'&&aq sc' t with
 |false=>no
 |true=>bd (iter (isTup t) (λe=>E.expr sc e σ) sc it) λp=>bd (jc p.2) λsrc=>bd (dw src (target t) (λσ'=>iH (λe=>E.test sc' e σ') ifs) (xH E sc' kx vx) p.1 (bk sc' σ) []) λvs=>new (.dict vs)
theorem th(hB:B.NoLimit)(T:Tp B mg mb)(D:Snd prog w B mg E k)(R:Rm A k)(S:St prog w B ρ C s)(F:Fm B ρ sc env σ s m cm){t it elt:Expr}{ifs:List Expr}{pos:Pos}{v:V}(e:nQ E sc sc' t it elt ifs σ C=some (v,C')):
  wpAny (model prog w) A (eval (.ListComp elt [⟨t,it,ifs,0⟩] sc' pos) env) (QV prog w B ρ C s v C') EF s:=by
 unfold nQ at e
 cases hok:(bV sc sc'&&aq sc' t) with
 |false=>rw[hok] at e;exact cNo e
 |true=>
  rw[hok] at e
  show eval_ListComp
  refine lG hB T D R S F hok e λa C₁ acc L r s' hv hC h=>?_
  subst hv hC
  exact lO (λd=>zQ w B d) (u0 w B a) h
theorem tq(hB:B.NoLimit)(T:Tp B mg mb)(D:Snd prog w B mg E k)(R:Rm A k)(hu:A.units<cLine)(S:St prog w B ρ C s)(F:Fm B ρ sc env σ s m cm){t it kx vx:Expr}{ifs:List Expr}{pos:Pos}{v:V}(e:nZ E sc sc' t it kx vx ifs σ C=some (v,C')):
  wpAny (model prog w) A (eval (.DictComp kx vx [⟨t,it,ifs,0⟩] sc' pos) env) (QV prog w B ρ C s v C') EF s:=by
 unfold nZ at e
 cases hok:(bV sc sc'&&aq sc' t) with
 |false=>rw[hok] at e;exact cNo e
 |true=>
  rw[hok] at e
  change wpAny _ _ (comprehension (.DictComp kx vx [⟨t,it,ifs,0⟩] sc' pos) sc' env (firstIterPos [⟨t,it,ifs,0⟩] pos) newDict false (eval it env) none) _ _ _
  refine lK hB T D R hu S F hok e λa C₁ acc L r s' hv hC h=>?_
  subst hv hC
  exact lO (λd=>wT w B d) (vu w B a) h
theorem qX(hB:B.NoLimit)(T:Tp B mg mb)(D:Snd prog w B mg E k)(R:Rm A k)(S:St prog w B ρ C s)(F:Fm B ρ sc env σ s m cm){t it elt:Expr}{ifs:List Expr}{pos py:Pos}{v:V}{y:Str}(hy:aM sc y=true)(e:nQ E sc sc' t it elt ifs σ C=some (v,C')):
  wpAny (model prog w) A (evalThenUse (.ListComp elt [⟨t,it,ifs,0⟩] sc' pos) env (assign (.Name y py) env)) (λxx s'=>QF prog w B ρ C s sc env ((y,v)::σ) C' s') EF s:=by
 unfold nQ at e
 cases hok:(bV sc sc'&&aq sc' t) with
 |false=>rw[hok] at e;exact cNo e
 |true=>
  rw[hok] at e
  change wpAny _ _ (do let _ ←comprehension (.ListComp elt [⟨t,it,ifs,0⟩] sc' pos) sc' env (firstIterPos [⟨t,it,ifs,0⟩] pos) (newList []) false (eval it env) (some (assign (.Name y py) env))) _ _ _
  refine B1 (B3 (lG hB T D R S F hok e λa C₁ acc L r s' hv hC h=>?_) (λxx s' h=>B2 h) λxx yy h=>h)
  subst hv hC
  exact ln R.hd S F hy (λd=>zQ w B d) (u0 w B a) h
theorem qa(hB:B.NoLimit)(T:Tp B mg mb)(D:Snd prog w B mg E k)(R:Rm A k)(hu:A.units<cLine)(S:St prog w B ρ C s)(F:Fm B ρ sc env σ s m cm){t it kx vx:Expr}{ifs:List Expr}{pos py:Pos}{v:V}{y:Str}(hy:aM sc y=true)(e:nZ E sc sc' t it kx vx ifs σ C=some (v,C')):
  wpAny (model prog w) A (evalThenUse (.DictComp kx vx [⟨t,it,ifs,0⟩] sc' pos) env (assign (.Name y py) env)) (λxx s'=>QF prog w B ρ C s sc env ((y,v)::σ) C' s') EF s:=by
 unfold nZ at e
 cases hok:(bV sc sc'&&aq sc' t) with
 |false=>rw[hok] at e;exact cNo e
 |true=>
  rw[hok] at e
  change wpAny _ _ (do let _ ←comprehension (.DictComp kx vx [⟨t,it,ifs,0⟩] sc' pos) sc' env (firstIterPos [⟨t,it,ifs,0⟩] pos) newDict false (eval it env) (some (assign (.Name y py) env))) _ _ _
  refine B1 (B3 (lK hB T D R hu S F hok e λa C₁ acc L r s' hv hC h=>?_) (λxx s' h=>B2 h) λxx yy h=>h)
  subst hv hC
  exact ln R.hd S F hy (λd=>wT w B d) (vu w B a) h
theorem QF.next(q:QF prog w B ρ C s sc env σ' C' s'):Fw prog w B ρ C s sc env .next σ' C' .next s':=q.un λρ' m' cm' a b c=>⟨ρ',m',cm',a,b,c,rfl⟩
theorem Fm.congr(F:Fm B ρ sc env σ s m cm)(h:∀x,af x σ'=af x σ):Fm B ρ sc env σ' s m cm:=
 { fn:=F.fn,glob:=F.glob,blt:=F.blt,kinds:=F.kinds,ns:=F.ns,cel:=F.cel,bound:=F.bound,apart:=F.apart,offL:=F.offL,offC:=F.offC,var:=λx v e=>F.var x v (h x▸e) }
theorem jy{xs:List Str}:∀{vs:List V}{σ:Env},xs.length=vs.length→aW xs vs σ=some ((xs.zip vs).reverse++σ):=by
 induction xs with
 |nil=>intro vs σ h;induction vs using List.casesOn with
  |nil=>rfl
  |cons _ _=>exact nomatch h
 |cons x xs ih=>intro vs σ h;induction vs using List.casesOn with
  |nil=>exact nomatch h
  |cons v vs=>exact(ih (Nat.succ.inj h)).trans (by show List.zip_cons_cons;show List.reverse_cons;show List.append_assoc;rfl)
theorem d3:∀(l:Env) (z:Str),af z (l++σ)=match af z l with|some v=>some v|none=>af z σ
 |[],_=>rfl
 |(y,u)::r,z=>by
  have h1:af z ((y,u)::r++σ)=match seq z y with|true=>some u|false=>af z (r++σ):=rfl
  have h2:af z ((y,u)::r)=match seq z y with|true=>some u|false=>af z r:=rfl
  show h1;show h2
  cases seq z y with
  |true=>rfl
  |false=>exact d3 r z
theorem iq:∀{l:Env}{z:Str}{v:V},af z l=some v→(z,v)∈l
 |(y,u)::r,z,v,h=>by
  unfold af at h
  cases hq:seq z y with
  |true=>rw[hq] at h;refine cS1 h ?_;show aQ hq;exact B9
  |false=>rw[hq] at h;exact B6 _ (iq h)
theorem lv{l:Env}{z:Str}{v:V}:(l.map (·.1)).Nodup→(z,v)∈l→af z l=some v:=by
 induction l with
 |nil=>intro nd h;cases h
 |cons p r ih=>
  intro nd h
  obtain⟨y,u⟩:=p
  rw[Cc,List.nodup_cons] at nd
  unfold af
  rcases Cb.mp h with e|hm
  ·refine cP2 e ?_;show fM;rfl
  ·cases hq:seq z y with
   |true=>
    exfalso
    cases aQ hq
    exact nd.1 (Cl.mpr ⟨_,hm,rfl⟩)
   |false=>exact ih nd.2 hm
theorem ki{l:Env}(nd:(l.map (·.1)).Nodup)(z:Str):af z l.reverse=af z l:=by
 have nd':((l.reverse).map (·.1)).Nodup:=by show List.map_reverse;exact List.pairwise_reverse.mpr (nd.imp λh=>h.symm)
 cases h:af z l with
 |some v=>exact lv nd' (List.mem_reverse.mpr (iq h))
 |none=>
  cases h':af z l.reverse with
  |none=>rfl
  |some v=>rw[lv nd (List.mem_reverse.mp (iq h'))] at h;exact cNs h
theorem eL:∀{xs:List Str},bt xs=true→xs.Nodup:=λ{xs}=>by
 induction xs with
 |nil=>
  intro _
  exact List.nodup_nil
 |cons x r ih'=>
  intro h
  unfold bt at h
  rw[Ca] at h
  show propext (List.nodup_cons ..)
  refine⟨λhm=>?_,ih' h.2⟩
  have:(r.any λy=>seq x y)=true:=List.any_eq_true.mpr ⟨x,hm,fM x⟩
  rw[this] at h;exact absurd h.1 (by decide)
theorem nx{xs:List Str}{vs:List V}(hd:bt xs=true)(hl:xs.length=vs.length)(e:aW xs vs σ=some σ'):∃σ'',aW xs.reverse vs.reverse σ=some σ''∧∀z,af z σ'=af z σ'':=by
 rw[jy hl] at e
 refine cS1 e ?_
 refine iEA _ (jy (by simpa using hl)) (λz=>?_)
 have hz:(xs.reverse.zip vs.reverse).reverse=xs.zip vs:=by
  have:∀(a:List Str) (b:List V),a.length=b.length→a.reverse.zip b.reverse=(a.zip b).reverse:=by
   intro a
   induction a with
   |nil=>intro b h;cases b<;>simp at h ⊢
   |cons x a ih=>
    intro b h
    induction b using List.casesOn with
    |nil=>simp at h
    |cons y b=>
     simp only[List.length_cons,Nat.add_right_cancel_iff] at h
     show List.reverse_cons;show List.reverse_cons;show(List.zip_append (by simpa using h));show ih b h
     simp
  show this _ _ hl;show List.reverse_reverse;rfl
 show hz;show d3;show d3
 have nd:((xs.zip vs).map (·.1)).Nodup:=by
  show List.map_fst_zip ((Cg hl))
  exact eL hd
 rw[ki nd]
theorem iV{f:Expr→Option Str}(hf:∀x p,f (.Name x p)=none∨f (.Name x p)=some x):∀{ts:List Expr}{xs:List Str},ba ts=some xs→(ts.filterMap f).length≤ts.length∧((ts.filterMap f).length=ts.length→ts.filterMap f=xs):=λ{ts}=>by
 induction ts with
 |nil=>
  intro xs h
  refine cS1 h ?_;exact⟨Cj _,λxx=>rfl⟩
 |cons t ts ih'=>
  intro xs h
  induction t using PySem.Expr.casesOn with
  |Name x p=>
   replace h:(match ba ts with|some l=>some (x::l)|none=>none)=some xs:=h
   cases hl:ba ts with
   |none=>rw[hl] at h;exact nos h
   |some l=>
   rw[hl] at h
   refine cS1 h ?_
   refine oA (ih' hl) λh1 h2=>?_
   rcases hf x p with e|e
   ·show List.filterMap_cons_none e
    exact⟨Nat.le_succ_of_le h1,λq=>absurd (q▸h1) (Nat.not_succ_le_self _)⟩
   ·show List.filterMap_cons_some e
    exact⟨Nat.succ_le_succ h1,λq=>congrArg (List.cons x) (h2 (Nat.succ.inj q))⟩
  |_=>exact nos h
theorem tG{α:Type}{c:Prop}[Decidable c]{a b y:α}(k:¬c→b=a∨b=y):(if c then a else b)=a∨(if c then a else b)=y:=by
 by_cases h:c
 ·exact .inl (if_pos h)
 ·show if_neg h;exact k h
theorem BJ{α:Type}{c:Prop}[Decidable c]{a b:α}:(if c then a else b)=b∨(if c then a else b)=a:=by
 by_cases h:c
 ·exact .inr (if_pos h)
 ·exact .inl (if_neg h)
set_option tactic.hygienic true in
theorem swapped_ok{ts:List Expr}{xs:List Str}{kx:Nat}{tp:Pos}{v:Expr}(hn:ba ts=some xs)(hs:ic v=true):
  swappedStores [.Tuple ts kx tp] v env=pure none∨swappedStores [.Tuple ts kx tp] v env=pure (some xs):=by
 cases v<;>first|exact .inl rfl|skip
 rename_i vs kv vp
 unfold swappedStores
 dsimp only
 refine tG λh1=>tG λh2=>tG λh3=>tG λh4=>?_
 unfold ic at hs
 rw[Bool.or_eq_true] at hs
 rcases hs with hs|hs
 ·exact absurd hs h4
 ·show(if_neg λh5=>by rw[h5] at hs;exact cFt hs)
  ·refine .inr ?_
   congr 2
   refine(iV (λx p=>?_) hn).2 ?_
   ·exact BJ
   ·simp only[Bool.or_eq_true,not_or,bne_iff_ne,ne_eq,Decidable.not_not] at h3
    exact h3.1
theorem pE(v:Expr)(y:Str)(py:Pos)(line:Nat):∃b,swapsWith v (some (.Name y py)) line env=pure b∧(b=true→qB v=true):=by
 induction v using PySem.Expr.casesOn with
 |ListComp _ _ _ _=>exact iEA _ rfl (λxx=>rfl)
 |SetComp _ _ _ _=>exact iEA _ rfl (λxx=>rfl)
 |DictComp _ _ _ _ _=>exact iEA _ rfl (λxx=>rfl)
 |_=>exact iEA false rfl (λh=>cFt h)
theorem mW(D:Snd prog w B mg E k)(R:Rm A k)(S:St prog w B ρ C s)(F:Fm B ρ sc env σ s m cm){y:Str}{py pos:Pos}{v:Expr}{x:V}(hy:aM sc y=true)(e:E.expr sc v σ C=some (x,C')):
  wpAny (model prog w) A (exec (.Assign [.Name y py] v pos) env) (Fw prog w B ρ C s sc env .next ((y,x)::σ) C') EF s:=by
 refine oEA (pE (env:=env) v y py pos.line) λb hb hc=>?_
 induction b using Bool.casesOn with
 |true=>
  show exec_Assign_Name_used _ _ _ _ hb
  exact B1 (wpAny_standAt (B1 (B3 (D.use e (hc rfl) R S F hy) (λxx s' q=>B2 (QF.next q)) λxx yy h=>h)))
 |false=>
  refine wpAny_Assign_Name (QV.go (D.expr e R S F) λz s₁ ρ₁ S₁ K₁ r₁=>?_) hb
  exact B3 (kA Wr.all S₁ (F.keep K₁ S) hy r₁) (λxx s₂ q=>QF.next (QFW.after w0 K₁ q)) λxx yy h=>h
theorem RelL.rev{h':Heap}{us:List V}:∀{l:List Value},RelL B ρ h' us l→RelL B ρ h' us.reverse l.reverse:=by
 induction us with
 |nil=>exact λh=>h.nilE .nil
 |cons u us ih=>exact λh=>h.consE λy l a b=>by show List.reverse_cons;show List.reverse_cons;exact(ih b).snoc a
theorem lZ(D:Snd prog w B mg E k)(R:Rm A k)(S:St prog w B ρ C s)(F:Fm B ρ sc env σ s m cm){ts:List Expr}{kx:Nat}{tp pos:Pos}{v:Expr}{x:V}(ho:aq sc (.Tuple ts kx tp)=true)(hs:ic v=true)(e:E.expr sc v σ C=some (x,C'))
  (et:target (.Tuple ts kx tp) x σ=some σ'):wpAny (model prog w) A (exec (.Assign [.Tuple ts kx tp] v pos) env) (Fw prog w B ρ C s sc env .next σ' C') EF s:=by
 have hsw:swapsWithSole [.Tuple ts kx tp] v pos.line env=pure false:=by induction v using PySem.Expr.casesOn<;>rfl
 obtain⟨vs,rfl⟩ : ∃vs,x=.tup vs:=by induction x using V.casesOn with|tup vs=>exact⟨vs,rfl⟩|_=>exact nos et
 have et':(match ba ts with|some xs=>if bt xs then aW xs vs σ else none|none=>none)=some σ':=et
 replace ho:(match ba ts with|some xs=>xs.all (aM sc)|none=>false)=true∧aq sc (.Tuple ts kx tp)=true:=⟨ho,ho⟩
 cases hn:ba ts with
 |none=>rw[hn] at et';exact nos et'
 |some xs=>
 rw[hn] at et' ho
 replace et':(if bt xs then aW xs vs σ else none)=some σ':=et'
 by_cases hd:bt xs=true
 case neg=>rw[if_neg hd] at et';exact nos et'
 rw[if_pos hd] at et'
 rcases swapped_ok (env:=env) (kx:=kx) (tp:=tp) hn hs with hw|hw
 ·refine PyProof.Rows.Assign_Tuple (QV.go (D.expr e R S F) λz s₁ ρ₁ S₁ K₁ r₁=>?_) hsw hw
  exact B3 (uV R.hd S₁ (F.keep K₁ S) ho.2 et r₁) (λxx s₂ q=>QF.next (QFW.after w0 K₁ q)) λxx yy h=>h
 ·refine PyProof.Rows.Assign_Tuple_swapped (QV.go (D.expr e R S F) λz s₁ ρ₁ S₁ K₁ r₁=>?_) hsw hw
  refine Rel.tupE r₁ λa items ht hl=>?_
  have hlen:=dO et'
  have hz:=hl.length.trans Ce
  show(show xs.length=items.size by lia)
  refine wpAny_unpackItems_tuple R.hd ht.isTuple λh' he=>?_
  refine oA (S₁.still (tk:=s₁.toks) (h':=h') (λb o hb=>he b o (Nat.ne_of_lt (Heap.lt_size hb)) hb)) λS₂ K₂=>?_
  have F₂:=(F.keep K₁ S).keep K₂ S₁
  refine oEA (nx hd hlen et') λσ₂ e₂ hσ=>?_
  have hall:=CA.mp ho.1
  have hrev:RelL B ρ₁ h' vs.reverse items.toList.reverse:=RelL.rev (RelL.keep K₂ S₁.hr (aC _) hl)
  have hst:Stores prog w A env (xs.reverse.map λn=>bindName env n) xs.reverse:=by
   generalize xs.reverse=l
   induction l with
   |nil=>exact .nil
   |cons x l ih=>exact .cons (λy s Q h=>h) ih
  refine B3 (ju Wr.all (λx hx=>hall x (List.mem_reverse.mp hx)) S₂ F₂ hrev e₂ hst) (λxx s₃ q=>?_) λxx yy h=>h
  obtain⟨ρ₃,m₃,cm₃,S₃,K₃,F₃⟩:=q
  exact⟨ρ₃,m₃,cm₃,S₃,((K₁.trans K₂).mono w0).trans K₃,F₃.congr hσ,rfl⟩
theorem xt(F:Fm B ρ sc env σ s m cm){x:Str}{v:V}(hx:aM sc x=true)(e:af x σ=some v){Q:Value→Shared→Prop}(h:∀y,Rel B ρ s.heap v y→Q y s):wpAny (model prog w) A (loadName env x) Q EF s:=by
 rcases ownName_kind F hx with hk|hk
 ·refine oEA ((F.var x v e).1 hk) λy h1 h2=>?_
  exact wpAny_loadName_local F.fn hk F.ns h1 (h y h2)
 ·refine oEA ((F.var x v e).2 (.inl hk)) λy h1 h2=>?_
  refine oE (F.bound x (.inl hk)) λc hc=>?_
  exact wpAny_loadName_cell F.fn hk hc (h1▸F.cel x c hc) (h y h2)
theorem tH(D:Snd prog w B mg E k)(R:Rm A k)(S:St prog w B ρ C s)(F:Fm B ρ sc env σ s m cm){x:Str}{px pos:Pos}{v:Expr}{a b:Int}(hx:aM sc x=true)(e1:af x σ=some (.int a))(e2:E.expr sc v σ C=some (.int b,C')):
  wpAny (model prog w) A (exec (.AugAssign (.Name x px) .Add v pos) env) (Fw prog w B ρ C s sc env .next ((x,.int (a+b))::σ) C') EF s:=by
 refine wpAny_AugAssign_Name (xt F hx e1 λy r=>QV.go (D.expr e2 R S F) λz s₁ ρ₁ S₁ K₁ r₁=>?_)
 cases r;cases r₁
 refine AutoIntOps.iadd_0 ?_
 refine oA (S₁.tok (s₁.toks+1)) λS₂ K₂=>?_
 exact B3 (kA Wr.all S₂ ((F.keep K₁ S).keep K₂ S₁) hx (.int _ _)) (λxx s₃ q=>QF.next (QFW.after w0 (K₁.trans K₂) q)) λxx yy h=>h
theorem tA(D:Snd prog w B mg E k)(R:Rm A k)(hu:A.in1.units<cLine)(S:St prog w B ρ C s)(F:Fm B ρ sc env σ s m cm){o i v:Expr}{ps pos:Pos}{u:Unit}(hs:bf i=false)
  (e:(bd (E.expr sc v σ) λx=>bd (E.expr sc o σ) λa=>bd (E.expr sc i σ) λb=>iM a b x) C=some (u,C')) :
  wpAny (model prog w) A (exec (.Assign [.Subscript o i ps] v pos) env) (Fw prog w B ρ C s sc env .next σ C') EF s:=by
 refine bc e λx C₁ e1 f1=>?_
 refine bc f1 λa C₂ e2 f2=>?_
 refine bc f2 λb C₃ e3 f3=>?_
 refine wpAny_Assign_Subscript (QV.go (D.expr e1 R S F) λy s₁ ρ₁ S₁ K₁ r₁=>?_) (by cases v<;>rfl)
 have F₁:=F.keep K₁ S
 refine QV.go (D.expr e2 R S₁ F₁) λz s₂ ρ₂ S₂ K₂ r₂=>?_
 have F₂:=F₁.keep K₂ S₁
 refine QV.go (D.expr e3 R S₂ F₂) λt s₃ ρ₃ S₃ K₃ r₃=>?_
 have F₃:=F₂.keep K₃ S₂
 refine B3 (ot hu S₃ (Rel.keep K₃ S₂.hr (aC _) r₂) r₃ (Rel.keep K₃ S₂.hr (aC _) (Rel.keep K₂ S₁.hr (aC _) r₁)) f3) (λxx s₄ qq=>qq.un λρ₄ S₄ K₄=>?_) λxx yy h=>h
 exact⟨ρ₄,m,cm,S₄,(K₁.trans (K₂.trans (K₃.trans K₄))).mono w0,F₃.keep K₄ S₃,rfl⟩
theorem tI(D:Snd prog w B mg E k)(R:Rm A k)(hu:A.in1.units<cLine)(S:St prog w B ρ C s)(F:Fm B ρ sc env σ s m cm){o i v:Expr}{ps pos:Pos}{x y:Int}{a b:V}{u:Unit}{C₂ C₃ C₄:CH}(hs:bf i=false)
  (e1:E.expr sc o σ C=some (a,C₁)) (e2:E.expr sc i σ C₁=some (b,C₂)) (e3:d8 a b C₂=some (.int x,C₃)) (e4:E.expr sc v σ C₃=some (.int y,C₄)) (e5:iM a b (.int (x+y)) C₄=some (u,C')) :
  wpAny (model prog w) A (exec (.AugAssign (.Subscript o i ps) .Add v pos) env) (Fw prog w B ρ C s sc env .next σ C') EF s:=by
 refine wpAny_AugAssign_SubscriptAny (QV.go (D.expr e1 R S F) λoa s₁ ρ₁ S₁ K₁ r₁=>?_) (by cases i<;>first|(intros;rfl)|exact cTf hs)
 have F₁:=F.keep K₁ S
 refine QV.go (D.expr e2 R S₁ F₁) λib s₂ ρ₂ S₂ K₂ r₂=>?_
 have F₂:=F₁.keep K₂ S₁
 have ra₂:=Rel.keep K₂ S₁.hr (aC _) r₁
 refine QV.go (ox hu S₂ ra₂ r₂ e3) λold s₃ ρ₃ S₃ K₃ r₃=>?_
 have F₃:=F₂.keep K₃ S₂
 refine QV.go (D.expr e4 R S₃ F₃) λvv s₄ ρ₄ S₄ K₄ r₄=>?_
 have F₄:=F₃.keep K₄ S₃
 have ra₄:=Rel.keep K₄ S₃.hr (aC _) (Rel.keep K₃ S₂.hr (aC _) ra₂)
 have rb₄:=Rel.keep K₄ S₃.hr (aC _) (Rel.keep K₃ S₂.hr (aC _) r₂)
 cases r₃;cases r₄
 refine AutoIntOps.iadd_0 ?_
 refine oA (S₄.tok (s₄.toks+1)) λS₅ K₅=>?_
 refine B3 (ot hu S₅ (Rel.keep K₅ S₄.hr (aC _) ra₄) (Rel.keep K₅ S₄.hr (aC _) rb₄) (.int _ _) e5) (λxx s₆ qq=>qq.un λρ₆ S₆ K₆=>?_) λxx yy h=>h
 exact⟨ρ₆,m,cm,S₆,(K₁.trans (K₂.trans (K₃.trans (K₄.trans (K₅.trans K₆))))).mono w0,(F₄.keep K₅ S₄).keep K₆ S₅,rfl⟩
def yJ(wh:Wh):Prop:=∀t b σ C r,wh t b σ C=some r→∃N,whN t b N σ C=some r
set_option smartUnfolding false in
theorem uv(hB:B.NoLimit)(hwh:yJ wh)(T:Tp B mg mb)(D:Snd prog w B mg E k)(R:Rm A (k+1))(S:St prog w B ρ C s)(F:Fm B ρ sc env σ s m cm){st:Stmt}{fl:Fl}(e:yu wh E sc st σ C=some ((fl,σ'),C')):
  wpAny (model prog w) A (exec st env) (Fw prog w B ρ C s sc env fl σ' C') EF s:=by
 have R':=R.less
 have hu:A.in1.units<cLine:=by have:=R.un;change A.units+1<_;exact R.lt 1 rfl
 induction st using PySem.Stmt.casesOn with
 |Return v pos=>induction v using Option.casesOn with
  |none=>exact nos e
  |some e0=>exact bc e λv C₁ e1 f1=>b9 f1 (wpAny_Return_some (B3 (D.expr e1 R' S F) (λy s₁ qq=>qq.un λρ₁ S₁ K₁ r₁=>⟨ρ₁,m,cm,S₁,K₁.mono w0,F.keep K₁ S,y,rfl,r₁⟩) λxx yy h=>h))
 |Assign ts v pos=>induction ts using List.casesOn with
  |nil=>exact nos e
  |cons t ts=>induction ts using List.casesOn with
   |cons _ _=>exact nos e
   |nil=>induction t using PySem.Expr.casesOn with
    |Subscript o i ps=>
     refine rU e λhs e=>bc e λx C₁ e1 f1=>bc f1 λa C₂ e2 f2=>bc f2 λb C₃ e3 f3=>bc f3 λu C₄ e4 f4=>b9 f4 ?_
     refine tA D R' hu S F (u:=u) hs ?_
     unfold bd;show e1;dsimp only;show e2;dsimp only;show e3;dsimp only;exact e4
    |Name y py=>
     refine bU e λho e=>bc e λx C₁ e1 f1=>eM f1 λσ₁ e2 f2=>b9 f2 ?_
     rw[Ca] at ho
     have:σ₁=(y,x)::σ:=by unfold target at e2;cases x<;>exact(Option.some.inj e2).symm
     show this
     exact mW D R' S F ho.1 e1
    |Tuple ts kx tp=>
     refine bU e λho e=>bc e λx C₁ e1 f1=>eM f1 λσ₁ e2 f2=>b9 f2 ?_
     rw[Ca] at ho
     exact lZ D R' S F ho.1 ho.2 e1 e2
    |_=>exact nos e
 |AugAssign t op v pos=>induction op using PySem.Operator.casesOn with
  |Add=>induction t using PySem.Expr.casesOn with
   |Name x px=>
    refine bU e λho e=>eM e λa e1 f1=>bc f1 λb C₁ e2 f2=>?_
    induction a using V.casesOn with
    |int _=>induction b using V.casesOn with
     |int _=>exact b9 f2 (tH D R' S F ho e1 e2)
     |_=>exact nos f2
    |_=>exact nos f2
   |Subscript o i ps=>
    refine rU e λhs e=>bc e λa C₁ e1 f1=>bc f1 λb C₂ e2 f2=>bc f2 λu C₃ e3 f3=>bc f3 λv' C₄ e4 f4=>?_
    induction u using V.casesOn with
    |int _=>induction v' using V.casesOn with
     |int _=>exact bc f4 λu' C₅ e5 f5=>b9 f5 (tI D R' hu S F hs e1 e2 e3 e4 e5)
     |_=>exact nos f4
    |_=>exact nos f4
   |_=>exact nos e
  |_=>exact nos e
 |Expr x pos=>induction x using PySem.Expr.casesOn with
  |Call f args ks p=>
   refine bc e λv C₁ e1 f1=>b9 f1 ?_
   refine wpAny_Expr_any (B3 (D.expr e1 R' S F) (λy s₁ qq=>qq.un λρ₁ S₁ K₁ r₁=>⟨ρ₁,m,cm,S₁,K₁.mono w0,F.keep K₁ S,rfl⟩) λxx yy h=>h) ?_ rfl
   unfold interactive
   show F.fn;rfl
  |_=>exact nos e
 |If t b o pos=>
  refine bc e λb' C₁ e1 f1=>?_
  refine wpAny_If (B3 (D.test e1 R' S F) (λy s₁ ⟨hy,ρ₁,S₁,K₁⟩=>?_) λxx yy h=>h)
  subst hy
  have F₁:=F.keep K₁ S
  induction y using Bool.casesOn with
  |true=>exact B3 (fj D R' S₁ F₁ f1) (λf s₂ q=>Fw.after (K₁.mono w0) q) λxx yy h=>h
  |false=>exact B3 (fj D R' S₁ F₁ f1) (λf s₂ q=>Fw.after (K₁.mono w0) q) λxx yy h=>h
 |While t b o pos=>induction o using List.casesOn with
  |cons _ _=>exact nos e
  |nil=>
   refine oE (hwh _ _ _ _ _ e) λN hN=>?_
   exact wpAny_While (oW D R' N S F (Keep.refl s) hN)
 |For t it b o pos=>induction o using List.casesOn with
  |cons _ _=>exact nos e
  |nil=>exact bU e λho e=>yF hB T D R' S F ho e
 |Continue pos=>exact b9 e (wpAny_Continue ⟨ρ,m,cm,S,Keep.refl s,F,rfl⟩)
 |_=>exact nos e
theorem tV{α β:Type}{f g:α→Option β}:∀{l:List α},(∀x∈l,f x=g x)→l.filterMap f=l.filterMap g:=λ{l}=>by
 induction l with
 |nil=>
  intro _
  exact rfl
 |cons a l ih'=>
  intro h
  show List.filterMap_cons;show List.filterMap_cons;show h a B9;show(ih' λx hx=>h x (B6 _ hx));rfl
theorem jv:∀{names:List Str}{vals:List Value},names.length=vals.length→names.Nodup→
  (∀n∈names,((names.zip vals).lookup n).isSome=true)∧names.filterMap (λn=>((names.zip vals).lookup n).map (n,·))=names.zip vals
 |[],[],_,_=>⟨by decide,rfl⟩
 |a::ns,v::vs,hl,nd=>by
  rw[List.nodup_cons] at nd
  refine oA (jv (names:=ns) (vals:=vs) (by simpa using hl) nd.2) λh1 h2=>?_
  have key:∀n∈ns,((a::ns).zip (v::vs)).lookup n=(ns.zip vs).lookup n:=λn hn=>by
   show List.zip_cons_cons;show List.lookup_cons
   have:(n==a)=false:=beq_eq_false_iff_ne.mpr λe=>nd.1 (e▸hn)
   show this;rfl
  refine⟨λn hn=>?_,?_⟩
  ·rcases Cb.mp hn with rfl|hn
   ·simp[List.zip_cons_cons,List.lookup_cons]
   ·show key n hn;exact h1 n hn
  ·show List.filterMap_cons
   have ha:((a::ns).zip (v::vs)).lookup a=some v:=by simp[List.zip_cons_cons,List.lookup_cons]
   show ha
   change (a,v)::_=_
   show List.zip_cons_cons
   congr 1
   refine Eq.trans (tV λn hn=>?_) h2
   have:=key n hn
   rw[List.zip_cons_cons] at this
   show this;rfl
 |[],_::_,h,_=>by simp at h
 |_::_,[],h,_=>by simp at h
theorem jg{fd:FuncData}{ps:List Arg}{kwd:List (Option Expr)}{df:List Expr}{vals:List Value}(hp:fd.params=⟨[],ps,none,[],kwd,none,df⟩)(hd:fd.defaults=.none)(hl:(ps.map (·.arg)).length=vals.length)(nd:(ps.map (·.arg)).Nodup):
  bindArgs fd ⟨vals,[]⟩=pure ((ps.map (·.arg)).zip vals):=by
 refine oA (jv hl nd) λh1 h2=>?_
 have e1:decide (vals.length > (List.map (λx=>x.arg) ps).length)=false:=decide_eq_false (Nat.not_lt.mpr (Cg hl.symm))
 have e0:seqItems? .none=pure none:=rfl
 have e2:(List.filter (λn=>(List.lookup n ((List.map (λx=>x.arg) ps).zip vals)).isNone) (List.map (λx=>x.arg) ps))=[]:=by
  show propext (List.filter_eq_nil_iff ..)
  intro n hn e
  rw[Option.isNone_iff_eq_none] at e
  have:=h1 n hn
  rw[e] at this;exact cFt this
 simp only[bindArgs,hp,hd,e0,e1,e2,h2,List.map_nil,List.nil_append,List.forIn_nil,pure_bind,List.append_nil,Option.getD_none,List.drop_nil,List.length_nil,Nat.sub_zero,List.isEmpty_nil,Bool.not_true,Bool.false_and,Bool.false_eq_true,if_false,List.take_length,List.zip_nil_right]
theorem s5{kO:Str→Option NameKind}{h:Heap}:∀{xs:List Str}{vs:List V}{ys:List Value}{σ σ':Env}{m:Str→Option Value},RelL B ρ h vs ys→aW xs vs σ=some σ'→
  (∀x v,af x σ=some v→kO x=some .local→∃y,m x=some y∧Rel B ρ h v y)→∀x v,af x σ'=some v→kO x=some .local→∃y,bindL kO (xs.zip ys) m x=some y∧Rel B ρ h v y:=λ{xs}=>by
 induction xs with
 |nil=>intro vs ys σ σ' m hr e hm x v hv hk;induction vs using List.casesOn with
  |nil=>refine RelL.nilE hr ?_;refine cSo e λzx=>?_;clear e;subst zx;exact hm x v hv hk
  |cons _ _=>exact nos e
 |cons z xs ih=>intro vs ys σ σ' m hr e hm x v hv hk;induction vs using List.casesOn with
  |nil=>exact nos e
  |cons u vs=>
  refine RelL.consE hr λy ys r rr=>?_
  clear hr
  refine ih rr e (λx v hv hk=>?_) x v hv hk
  rcases lookE_cons hv with⟨rfl,rfl⟩|⟨hz,hv⟩
  ·show if_pos hk;exact iEA y (if_pos rfl) r
  ·refine oEA (hm x v hv hk) λy' h1 h2=>?_
   refine iEA y' ?_ h2
   split
   ·change (if x=z then some y else m x)=some y';show if_neg hz;exact h1
   ·exact h1
theorem ui{kO:Str→Option NameKind}{h:Heap}:∀{xs:List Str}{vs:List V}{ys:List Value}{σ σ':Env}{m:Str→Option Value},RelL B ρ h vs ys→aW xs vs σ=some σ'→
  (∀x v,af x σ=some v→kO x≠some .local→∃y,m x=some y∧Rel B ρ h v y)→∀x v,af x σ'=some v→kO x≠some .local→∃y,bindC kO (xs.zip ys) m x=some y∧Rel B ρ h v y:=λ{xs}=>by
 induction xs with
 |nil=>intro vs ys σ σ' m hr e hm x v hv hk;induction vs using List.casesOn with
  |nil=>refine RelL.nilE hr ?_;refine cSo e λzx=>?_;clear e;subst zx;exact hm x v hv hk
  |cons _ _=>exact nos e
 |cons z xs ih=>intro vs ys σ σ' m hr e hm x v hv hk;induction vs using List.casesOn with
  |nil=>exact nos e
  |cons u vs=>
  refine RelL.consE hr λy ys r rr=>?_
  clear hr
  refine ih rr e (λx v hv hk=>?_) x v hv hk
  rcases lookE_cons hv with⟨rfl,rfl⟩|⟨hz,hv⟩
  ·show if_neg hk;exact iEA y (if_pos rfl) r
  ·refine oEA (hm x v hv hk) λy' h1 h2=>?_
   refine iEA y' ?_ h2
   split
   ·exact h1
   ·change (if x=z then some y else m x)=some y';show if_neg hz;exact h1
theorem fx:∀{names:List (Str×NameKind)}{n:Nat}{acc:List (Str×Addr)}{x:Str},((x,NameKind.cell)∈names∨∃c,(x,c)∈acc)→∃c,(x,c)∈cellsFrom n names acc:=λ{names}=>by
 induction names with
 |nil=>
  intro n acc x h
  rcases h with h|h
  ·cases h
  ·exact h
 |cons hd' r ih'=>
  intro n acc x h
  obtain⟨y,kd⟩:=hd'
  unfold cellsFrom
  split
  ·refine ih' ?_
   rcases h with h|⟨c,h⟩
   ·rcases Cb.mp h with e|h
    ·refine cP2 e ?_;exact .inr ⟨n,B9⟩
    ·exact .inl h
   ·exact .inr ⟨c,B6 _ h⟩
  ·rename_i hk
   refine ih' ?_
   rcases h with h|h
   ·rcases Cb.mp h with e|h
    ·refine cPr e λzx zy=>?_;clear e;subst zx zy;exact absurd rfl hk
    ·exact .inl h
   ·exact .inr h
structure FnOk(d:PySem.DefRec):Prop where
 par:Ex2 λkwd df=>d.params=⟨[],d.params.args,none,[],kwd,none,df⟩
 nd:(d.params.args.map (·.arg)).Nodup
 fn:d.scope.kind=.function
 co:d.scope.isCoroutine=false
 gen:d.scope.isGenerator=false
 free:∀p∈d.scope.names,p.2≠.free
 own:∀x∈d.params.args.map (·.arg),aM d.scope x=true
theorem wy{d:PySem.DefRec}(h:sN d=true):FnOk d:=by
 unfold sN at h
 simp only[Bool.and_eq_true] at h
 obtain⟨⟨⟨⟨⟨h1,h2⟩,h3⟩,h4⟩,h5⟩,⟨⟨⟨⟨h6,h7⟩,h8⟩,h9⟩,h10⟩⟩:=h
 refine⟨?_,eL h5,eq_of_beq h6,by simpa using h7,by simpa using h8,λp hp e=>?_,CA.mp h10⟩
 ·revert h1 h2 h3 h4
  generalize d.params=p
  obtain⟨a,b,c,d,e,f,g⟩:=p
  intro h4 h3 h2 h1
  obtain rfl:a=[]:=List.isEmpty_iff.mp h2
  obtain rfl:c=none:=Option.isNone_iff_eq_none.mp h1
  obtain rfl:d=[]:=List.isEmpty_iff.mp h3
  obtain rfl:f=none:=Option.isNone_iff_eq_none.mp h4
  exact⟨_,_,rfl⟩
 ·have:=CA.mp h9 p hp
  rw[e] at this;exact absurd this (ne_true_of_eq_false rfl)
theorem xz(T:Tp B mg mb)(D:Snd prog w B mg E k)(R:Rm A (k+1))(S:St prog w B ρ C s){f:Str}{d:PySem.DefRec}(hf:fn? f=some d){args:List V}{ys:List Value}{fv:Value}(hv:mg f=some fv)(hr:RelL B ρ s.heap args ys)(hok:sN d=true)
  {σ:Env} (hb:aW (d.params.args.map (·.arg)) args []=some σ) {v:V}
  (e:(bd (execs (E.stmt d.scope) d.body σ) λp=>match p.1 with|.ret v=>ok v|.next=>ok .nn|.cont=>no) C=some (v,C')):wpAny (model prog w) A (call fv ys) (QV prog w B ρ C s v C') EF s:=by
 have O:=wy hok
 obtain⟨a,o,pm,code,doc,g1,g2,g3,g4⟩:=T.fn f d hf
 rw[g1] at hv;refine cS1 hv ?_
 obtain⟨kwd,df,hpar⟩:=O.par
 have hlen:(d.params.args.map (·.arg)).length=ys.length:=(dO hb).trans hr.length
 have ho:=S.base _ _ g2
 have own:∀x∈(d.params.args.map (·.arg)).zip ys,d.scope.names.lookup x.1=some .local∨(d.scope.names.lookup x.1=some .cell∧((cellsFrom (s.heap.objs.size+1) d.scope.names []).lookup x.1).isSome=true):=λx hx=>by
  obtain⟨x,y⟩:=x
  have:=O.own x (List.of_mem_zip hx).1
  unfold aM at this
  rw[bj] at this
  cases hq:d.scope.names.lookup x with
  |none=>rw[hq] at this;exact cFt this
  |some kd=>
   rw[hq] at this
   cases kd<;>first|exact cFt this;done|skip
   ·exact .inl rfl
   ·obtain⟨c,hc⟩:=fx (n:=s.heap.objs.size+1) (acc:=[]) (.inl (mem_of_lookup hq))
    obtain⟨c',hc'⟩:=dC hc
    exact .inr ⟨rfl,by show hc';rfl⟩
 have hroom:A.depth<recursionLimit:=R.dl
 refine wpAny_call (codeAny_call_cells (fd:=Calls.docDef d.name d.params d.body d.scope pm code doc) hroom ho g3 (T.nolimit.keeps S.base) (g4.keeps λb o e=>S.base b o e) rfl
  (jg (fd:=Calls.docDef d.name d.params d.body d.scope pm code doc) hpar rfl hlen O.nd) rfl own (λs₁ x=>?_) O.co O.gen O.fn)
 generalize hfe:callEnvC (Calls.docDef d.name d.params d.body d.scope pm code doc) s.heap.objs.size a=fe at x ⊢
 have hsc:fe.scope=d.scope:=by refine rL (hfe ..) ?_;rfl
 have hloc:fe.locals=s.heap.objs.size:=by refine rL (hfe ..) ?_;rfl
 have hcl:fe.cells=cellsFrom (s.heap.objs.size+1) d.scope.names []:=by refine rL (hfe ..) ?_;rfl
 have hko:∀x,fe.kindOf x=d.scope.names.lookup x:=λx=>by unfold Env.kindOf;show hsc;rfl
 have hkeep:=x.toInCall.keep
 refine oEE x.toInCall.same λh₁ tk zr0=>?_;subst zr0
 obtain⟨S₁,K₁⟩:=S.still (tk:=tk) (h':=h₁) hkeep
 have hr₁:RelL B ρ h₁ args ys:=RelL.mono (λb its qz=>by obtain⟨n,e⟩:=qz;exact⟨n,hkeep _ _ e⟩) hr
 have top:∀c,s.heap.objs.size≤c→c∉ρ∧B.get? c=none:=λc hc=>⟨λhm=>by obtain⟨o,e⟩:=S.hr.live hm;exact absurd (Heap.lt_size e) (Nat.not_lt.mpr hc),(S.top T.nolimit hc).1⟩
 have habove:∀n c,(n,c)∈fe.cells→fe.locals<c:=x.above
 have F:Fm B ρ d.scope fe σ { s with heap:=h₁,toks:=tk } _ _:={
  fn:=by show hsc;exact O.fn
  glob:=by refine rL (hfe ..) ?_;rfl
  blt:=by refine rL (hfe ..) ?_;rfl
  kinds:=λx k h=>by
   rw[bj] at h
   show hko;show h
   cases k<;>first|rfl|exact .inr rfl|trivial
  ns:=x.toInCall.ns
  cel:=x.cell
  bound:=λz hz=>by
   rw[hko] at hz
   rcases hz with hz|hz
   ·obtain⟨c,hc⟩:=fx (n:=s.heap.objs.size+1) (acc:=[]) (.inl (mem_of_lookup hz))
    show hcl;exact dC hc
   ·exact absurd rfl (O.free _ (mem_of_lookup hz))
  apart:=λy z c e e'=>name_of_addr x.apart (mem_of_lookup e) (mem_of_lookup e')
  offL:=by show hloc;exact top _ (Cj _)
  offC:=λy c e=>by
   have hlt:=habove y c (mem_of_lookup e)
   have hq:=top c (by rw[hloc] at hlt;exact Nat.le_of_lt hlt)
   exact⟨hq.1,hq.2,Nat.ne_of_gt hlt⟩
  var:=λy v e=>⟨λhk=>s5 hr₁ hb (λxx yy h=>by exact cNo h) y v e hk,λhk=>ui hr₁ hb (λxx yy h=>by exact cNo h) y v e (by rcases hk with hk|hk<;>show hk<;>decide)⟩ }
 have R₁:Rm (A.deeper fe) k:=⟨R.hd,by have:=R.dp;change A.depth+1+k<_;lia,by have:=R.un;change A.units+3+16*k+64<_;lia⟩
 obtain⟨⟨fl,σ₂⟩,C₂,e1,e2⟩:=cC e
 have dead:∀b,Wf fe b→s.heap.get? b=none:=λb hb=>bz (by
  rcases hb with hb|⟨z,hz⟩
  ·show hb;show hloc;exact Cj _
  ·have:=habove z b (mem_of_lookup hz);rw[hloc] at this;exact Nat.le_of_lt this)
 refine B3 (fj D R₁ S₁ F e1) (λg s₂ qq=>qq.un λρ₂ m₂ cm₂ S₂ K₂ F₂ hg=>?_) λxx yy h=>h.elim
 have K:Keep W0 ρ C s ρ₂ C₂ s₂:=K₁.thru K₂ λb hb=>.inr (dead b hb)
 induction fl using Fl.casesOn with
 |next=>
  show hg
  refine cS2 e2 ?_
  exact⟨ρ₂,S₂,K,.nn⟩
 |cont=>exact cNo e2
 |ret u=>
  refine oEA hg λy zr0 r=>?_;show zr0
  refine cS2 e2 ?_
  exact⟨ρ₂,S₂,K,r⟩
section
open PySem.SeqAt PySem.MeetsSeq PySem.MeetsSeq2 PySem.MeetsSeq3
open AutoSeq1 (wpAny_loadPart')
def z0(A:Around)(s:Shared)(x y:Value)(r:Bool):Prop:=
 ∀(prog:Program) (w:World) (E:Value→Shared→Prop) (Q:Value→Shared→Prop),Q (.bool r) s→wpAny (model prog w) A (richCompare .Lt x y) Q E s
noncomputable def hZ(A:Around)(s:Shared):List Value→List Value→Bool→Prop
 |[],[],r=>r=false
 |[],_::_,r=>r=true
 |_::_,[],r=>r=false
 |a::x,b::y,r=>(EqAt A s a b true∧hZ A s x y r)∨(EqAt A s a b false∧z0 A s a b r)
theorem hZ.nilL{A:Around}{s:Shared}{ys:List Value}{r:Bool}(h:hZ A s [] ys r):r=decide (0<ys.length):=by
 induction ys using List.casesOn with
 |nil=>exact h
 |cons _ _=>show(show r=true from h);rfl
theorem hZ.nilR{A:Around}{s:Shared}{xs:List Value}{r:Bool}(h:hZ A s xs [] r):r=decide (xs.length<0):=by
 induction xs using List.casesOn with
 |nil=>exact h
 |cons _ _=>show(show r=false from h);rfl
theorem pw(l b:Addr)(items items2:Array Value)(n n2:Nat)(dd dd2:Option Addr)(sl sl2:Array (Option Value))(r:Bool):
  Meets (Builtin.«tuple.__lt__» ⟨[.ref l,.ref b],[]⟩)
   (λA R s=>And4 (s.heap.get? l=some { cls:=.type "tuple",dict:=dd,data:=.seq items n,slots:=sl }) (s.heap.get? b=some { cls:=.type "tuple",dict:=dd2,data:=.seq items2 n2,slots:=sl2 }) (hZ A.in1 s items.toList items2.toList r) (R (.ok (.ret (.bool r))) s)):=
 .of_wp λprog w A R s h=>by
  obtain⟨hp,g,d,tk,os⟩:=s;refine oa4 h λhl hb hx h=>?_
  have f2:=AutoSeq1.sub_tuple_tuple
  wp_walk using wpAny_loadPart' hl,wpAny_loadPart' hb,wpAny_forIn_list _ (λrest b s'=>And3 (b.1=none) (s'=⟨hp,g,d,tk,os⟩) (∃(vs us:List Value) (k:Nat),And4 (rest=vs.zip us) (hZ A.in1 ⟨hp,g,d,tk,os⟩ vs us r) (vs.length+k=items.size) (us.length+k=items2.size))) _
  case turn=>
   rintro⟨y,x⟩ rest b s' ⟨hb',rfl,vs,us,k,hz,h1,h3,h4⟩
   induction vs using List.casesOn with
   |nil=>injection hz
   |cons v vs=>
   induction us using List.casesOn with
   |nil=>injection hz
   |cons u us=>
   rw[List.zip_cons_cons] at hz
   injection hz with hyx hrest
   injection hyx with e1 e2
   subst e1 e2
   rcases h1 with⟨q1,q2⟩|⟨q1,q2⟩
   ·refine B1 (q1 prog w _ _ ?_)
    wp_walk
    refine⟨rfl,rfl,_,_,k+1,hrest,q2,?_,?_⟩
    ·simp only[List.length_cons] at h3;lia
    ·simp only[List.length_cons] at h4;lia
   ·refine B1 (q1 prog w _ _ ?_)
    refine B1 (wpAny_rule ?_)
    refine B1 (q2 prog w _ _ ?_)
    exact B1 (B2 (B2 (B2 ⟨_,rfl,h⟩)))
  case fin=>
   rintro⟨b1,b2⟩ s' ⟨hb',rfl,vs,us,k,hz,h1,h3,h4⟩
   simp only at hb'
   show hb'
   wp_walk
   refine iEA _ rfl ?_
   have:r=decide (items.size<items2.size):=by
    induction vs using List.casesOn with
    |nil=>
     show h1.nilL
     simp only[List.length_nil] at h3
     have:(0<us.length)=(items.size<items2.size):=by simp only[eq_iff_iff];omega (config:={})
     exact Decidable.decide.congr_simp _ _ this
    |cons v vs=>
     induction us using List.casesOn with
     |nil=>
      show h1.nilR
      simp only[List.length_nil,List.length_cons] at h3 h4
      have:((v::vs).length<0)=(items.size<items2.size):=by simp only[eq_iff_iff,List.length_cons];lia
      exact Decidable.decide.congr_simp _ _ this
     |cons u us=>injection hz
   rw[this] at h
   simpa [Builtin.Tuple.tupleCompareSizes] using h
  case h=>
   exact⟨rfl,rfl,_,_,0,rfl,hx,by simp,by simp⟩
theorem jh(l b:Addr)(items items2:Array Value)(n n2:Nat)(dd dd2:Option Addr)(sl sl2:Array (Option Value))(r:Bool)(k:Nat):
  ∀i:Nat,items.size+1-i=k→i≤items.size→i≤items2.size→Meets (Builtin.«list.__eq__.loop» ⟨[.ref l,.ref b,rawInt i,rawInt 0],[]⟩)
   (λA R s=>And4 (s.heap.get? l=some { cls:=.type "list",dict:=dd,data:=.seq items n,slots:=sl }) (s.heap.get? b=some { cls:=.type "list",dict:=dd2,data:=.seq items2 n2,slots:=sl2 }) (hZ A.in1 s (items.toList.drop i) (items2.toList.drop i) r) (R (.ok (.ret (.bool r))) s)):=by
 induction k with
 |zero=>intro i hk hi;omega (config:={})
 |succ k ih=>
  intro i hk hi hi' prog w A R s h
  obtain⟨hp,g,d,tk,os⟩:=s;refine oa4 h λhl hb he h=>?_
  wp_walk using wpAny_loadPart' hl,wpAny_loadPart' hb
  by_cases hlt:i<items.size
  ·by_cases hlt2:i<items2.size
   ·have hi1:items[((i:Nat):Int).toNat]?=some items[i]:=Array.getElem?_eq_getElem _
    have hi2:items2[((i:Nat):Int).toNat]?=some items2[i]:=Array.getElem?_eq_getElem _
    have d1:items.toList.drop i=items[i]::items.toList.drop (i+1):=by
     show(Cr (by simpa using hlt));simp
    have d2:items2.toList.drop i=items2[i]::items2.toList.drop (i+1):=by
     show(Cr (by simpa using hlt2));simp
    have hc:((i:Int)+1)=((i+1:Nat):Int):=by push_cast;rfl
    rw[d1,d2] at he
    show hi1;show hi2
    rcases he with⟨q1,q2⟩|⟨q1,q2⟩
    ·refine B1 (q1 prog w _ _ ?_)
     wp_walk
     show hc
     exact⟨plainId_quiet plain_eq_loop _,codeAny_builtin entry_eq_loop (by
      show Around.under_plainId plain_eq_loop _
      exact ih (i+1) ((Nat.sub_add_eq _ _ _).trans (congrArg Nat.pred hk)) hlt hlt2 prog w A R _ ⟨hl,hb,q2,h⟩)⟩
    ·refine B1 (q1 prog w _ _ ?_)
     wp_walk using wpAny_loadPart' hl,wpAny_loadPart' hb
     show hi1;show hi2
     refine B1 (q2 prog w _ _ ?_)
     exact B2 h
   ·have hi1:items[((i:Nat):Int).toNat]?=some items[i]:=Array.getElem?_eq_getElem _
    have hi2:items2[((i:Nat):Int).toNat]?=none:=by simp;exact Cm hlt2
    have d2:items2.toList.drop i=[]:=by simp;exact Cm hlt2
    rw[d2] at he
    show hi1;show hi2
    wp_walk using wpAny_loadPart' hl,wpAny_loadPart' hb
    change R (.ok (.ret (.bool (decide (items.size<items2.size))))) _
    have:r=decide (items.size<items2.size):=by
     show he.nilR
     have:((items.toList.drop i).length<0)=(items.size<items2.size):=propext ⟨λh=>absurd h (Nat.not_lt_zero _),λh=>absurd (Nat.lt_trans hlt h) (λq=>hlt2 q)⟩
     exact Decidable.decide.congr_simp _ _ this
    refine rL (this ..) ?_;exact h
  ·have hi1:items[((i:Nat):Int).toNat]?=none:=by simp;exact Cm hlt
   have d1:items.toList.drop i=[]:=by simp;exact Cm hlt
   rw[d1] at he
   show hi1
   wp_walk using wpAny_loadPart' hl,wpAny_loadPart' hb
   change R (.ok (.ret (.bool (decide (items.size<items2.size))))) _
   have:r=decide (items.size<items2.size):=by
    show he.nilL
    have:(0<(items2.toList.drop i).length)=(items.size<items2.size):=by show List.length_drop;show Ce;show Nat.le_antisymm hi (Nat.not_lt.mp hlt);exact propext Nat.sub_pos_iff_lt
    exact Decidable.decide.congr_simp _ _ this
   refine rL (this ..) ?_;exact h
theorem rc(l b:Addr)(items items2:Array Value)(n n2:Nat)(dd dd2:Option Addr)(sl sl2:Array (Option Value))(r:Bool):
  Meets (Builtin.«list.__lt__» ⟨[.ref l,.ref b],[]⟩)
   (λA R s=>And4 (s.heap.get? l=some { cls:=.type "list",dict:=dd,data:=.seq items n,slots:=sl }) (s.heap.get? b=some { cls:=.type "list",dict:=dd2,data:=.seq items2 n2,slots:=sl2 }) (hZ A.in1 s items.toList items2.toList r) (R (.ok (.ret (.bool r))) s)):=by
 intro prog w A R s h
 obtain⟨hp,g,d,tk,os⟩:=s;refine oa4 h λhl hb he h=>?_
 have f3:=AutoSeq1.sub_list_list
 wp_walk using wpAny_loadPart' hl,wpAny_loadPart' hb
 exact⟨plainId_quiet plain_eq_loop _,codeAny_builtin entry_eq_loop (by
  show Around.under_plainId plain_eq_loop _
  exact jh l b items items2 n n2 dd dd2 sl sl2 r _ 0 rfl (Nat.zero_le _) (Nat.zero_le _) prog w A R _ ⟨hl,hb,by simpa using he,h⟩)⟩
end
section
open PySem.SeqAt
theorem zI(S:St prog w B ρ C s)(n:Nat){a b:V}{r:Bool}{x y:Value}{A:Around}(hu:A.units+n+1<cLine)(e:eqv C n a b=some r)(ha:Rel B ρ s.heap a x)(hb:Rel B ρ s.heap b y):EqAt A s x y r:=
 EqAt.ofRc ha.noFloat (λhxy=>by subst hxy;exact nL S.hr n ha hb e) (vP S n hu e ha hb).1
theorem zo{n:Nat}{A:Around}{f g:V→V→Option Bool}{h:Heap}(hf:∀{a b r x y},f a b=some r→Rel B ρ h a x→Rel B ρ h b y→z0 A s x y r)(hg:∀{a b r x y},g a b=some r→Rel B ρ h a x→Rel B ρ h b y→EqAt A s x y r):
  ∀{xs ys:List V}{l m:List Value}{r:Bool},RelL B ρ h xs l→RelL B ρ h ys m→lts f g xs ys=some r→hZ A s l m r:=λ{xs}=>by
 induction xs with
 |nil=>
  intro ys l m r h1 h2 e
  refine RelL.nilE h1 ?_
  induction ys using List.casesOn with
  |nil=>refine RelL.nilE h2 ?_;refine cS1 e ?_;exact rfl
  |cons b ys=>refine RelL.consE h2 λy m xx yy=>?_;refine cS1 e ?_;exact rfl
 |cons a xs ih=>
  intro ys l m r h1 h2 e
  refine RelL.consE h1 λx l a1 a2=>?_
  induction ys using List.casesOn with
  |nil=>refine RelL.nilE h2 ?_;refine cS1 e ?_;exact rfl
  |cons b ys=>
   refine RelL.consE h2 λy m b1 b2=>?_
   replace e:(match g a b with|some true=>lts f g xs ys|some false=>f a b|none=>none)=some r:=e
   cases hq:g a b with
   |none=>rw[hq] at e;exact cNo e
   |some q=>
    rw[hq] at e
    induction q using Bool.casesOn with
    |true=>exact .inl ⟨hg hq a1 b1,ih a2 b2 e⟩
    |false=>exact .inr ⟨hg hq a1 b1,hf e a1 b1⟩
theorem A4(S:St prog w B ρ C s):∀(n:Nat) {a b:V}{r:Bool}{x y:Value}{A:Around},A.units+n+1<cLine→ltv C n a b=some r→Rel B ρ s.heap a x→Rel B ρ s.heap b y→z0 A s x y r:=λn=>by
 induction n with
 |zero=>exact λxx e=>nos e
 |succ n ih=>
  intro a b r x y A hu e ha hb
  have lex:∀{xs ys:List V}{l m:List Value},RelL B ρ s.heap xs l→RelL B ρ s.heap ys m→lts (ltv C n) (eqv C n) xs ys=some r→hZ A.in1 s l m r:=λ{xs ys l m} h1 h2 h3=>
   zo (n:=n) (λe ha hb=>ih (A:=A.in1) (by change A.units+1+n+1<cLine;lia) e ha hb) (λe ha hb=>zI S n (A:=A.in1) (by change A.units+1+n+1<cLine;lia) e ha hb) h1 h2 h3
  clear ih
  induction a using V.casesOn with
  |int i=>induction b using V.casesOn with
   |int j=>
    refine Rel.intE ha λt=>Rel.intE hb λu=>?_
    refine cS1 e ?_
    intro prog w E Q h
    exact(show wpAny (model prog w) A (compareOp .Lt (.int i t) (.int j u)) Q E s from PySem.P.lt_int h)
   |_=>exact nos e
  |tup xs=>induction b using V.casesOn with
   |tup ys=>
    refine Rel.tupE ha λxx yy ht hl=>Rel.tupE hb λxx yy ht' hl'=>?_
    have hx:=lex hl hl' e
    intro prog w E Q h
    refine oE ht λm1 ho=>?_
    refine oE ht' λm2 ho2=>?_
    exact richCompare_meets_room (op:=.Lt) ⟨_,ho,rfl⟩ ⟨_,ho2,rfl⟩ F.slot_tuple_lt F.entry_tuple_lt (F.args_tuple_lt_2 _ _) (pw _ _ _ _ m1 m2 none none #[] #[] r)
     ⟨ho,ho2,hx,show Value.bool r≠Value.notImplemented∧Q (.bool r) s from⟨(λx=>nomatch x),h⟩⟩ ((Nat.lt_of_add_right_lt (Nat.lt_of_succ_lt hu)))
   |_=>exact nos e
  |cell c=>induction b using V.casesOn with
   |cell d=>
    refine Rel.cellE ha λxx ec=>Rel.cellE hb λxx ed=>?_
    clear ha hb
    replace e:(match at? C c,at? C d with
     |some (.list xs),some (.list ys)=>lts (ltv C n) (eqv C n) xs ys
     |_,_=>none)=some r:=e
    unfold at? at e
    cases hc:C[c]? with
    |none=>rw[hc] at e;exact nos e
    |some p=>
    obtain⟨o,k⟩:=p
    rw[hc] at e
    induction o using O.casesOn with
    |dict _=>exact nos e
    |list vs=>
    cases hd:C[d]? with
    |none=>rw[hd] at e;exact nos e
    |some q=>
    obtain⟨o',k'⟩:=q
    rw[hd] at e
    induction o' using O.casesOn with
    |dict _=>exact nos e
    |list us=>
    obtain⟨items,⟨m1,ho⟩,hl,_⟩:=aN S.hr hc ec
    obtain⟨items2,⟨m2,ho2⟩,hl2,_⟩:=aN S.hr hd ed
    have hx:=lex hl hl2 e
    intro prog w E Q h
    exact richCompare_meets_room (op:=.Lt) ⟨_,ho,rfl⟩ ⟨_,ho2,rfl⟩ F.slot_list_lt F.entry_list_lt (F.args_list_lt_2 _ _) (rc _ _ _ _ m1 m2 none none #[] #[] r)
     ⟨ho,ho2,hx,show Value.bool r≠Value.notImplemented∧Q (.bool r) s from⟨(λx=>nomatch x),h⟩⟩ ((Nat.lt_of_add_right_lt (Nat.lt_of_succ_lt hu)))
   |_=>exact nos e
  |_=>exact nos e
end
section
open PySem.SeqAt
theorem jA{α:Type}{ask:Nat→Nat→Option Bool}{cmp:Nat→Nat→(Bool→Shared→Prop)→Shared→Prop}(hask:∀i j b (K:Bool→Shared→Prop),ask i j=some b→K b s→cmp i j K s):
  ∀(t:KasT α) {a:α},dS ask t=some a→t.kasWp cmp (λa' s'=>a'=a∧s'=s) s
 |.ret a,a',h=>by refine cS1 h ?_;exact⟨rfl,rfl⟩
 |.ask i j f,a,h=>by
  unfold dS at h
  cases hq:ask i j with
  |none=>simp only[hq] at h;exact cNo h
  |some b=>
   simp only[hq] at h
   exact hask i j b _ hq (jA hask (f b) h)
theorem qt{A:Around}{b:Bool}{h:Heap}{f g:V→V→Option Bool}(hf:∀{a b r x y},f a b=some r→Rel B ρ h a x→Rel B ρ h b y→z0 A s x y r)(hg:∀{a b r x y},g a b=some r→Rel B ρ h a x→Rel B ρ h b y→EqAt A s x y r)
  (hi:∀{i j r},f (.int i) (.int j)=some r→r=decide (i<j)) {Q:Bool→Shared→Prop}{r fin:Bool} (hQ:Q r s) :
  ∀{xs ys:List V}{l m:List Value} (i:Nat),RelL B ρ h xs l→RelL B ρ h ys m→lts f g xs ys=some r→fin=decide (l.length<m.length)→(b=true→i=0→∀a x' c y',xs=a::x'→ys=c::y'→(∃p,a=.int p)∧∃q,c=.int q)→
   KatLex prog w A b fin Q (l.zip m) i s:=λ{xs}=>by
 induction xs with
 |nil=>
  intro ys l m i h1 h2 e
  refine RelL.nilE h1 ?_
  induction ys using List.casesOn with
  |nil=>refine RelL.nilE h2 λhfin xx=>?_;refine cSo e λzx=>?_;clear e;subst zx;subst hfin;exact hQ
  |cons c ys=>
   refine RelL.consE h2 λy m xx yy hfin zz=>?_
   refine cSo e λzx=>?_;clear e;subst zx
   cases hfin.trans (decide_eq_true (Nat.succ_pos _));exact hQ
 |cons a xs ih=>
  intro ys l m i h1 h2 e
  refine RelL.consE h1 λx l a1 a2=>?_
  induction ys using List.casesOn with
  |nil=>refine RelL.nilE h2 λhfin xx=>?_;refine cSo e λzx=>?_;clear e;subst zx;subst hfin;exact hQ
  |cons c ys=>
   refine RelL.consE h2 λy m b1 b2 hfin hint=>?_
   clear h1 h2
   replace e:(match g a c with|some true=>lts f g xs ys|some false=>f a c|none=>none)=some r:=e
   show List.zip_cons_cons
   cases hq:g a c with
   |none=>rw[hq] at e;exact cNo e
   |some q=>
    rw[hq] at e
    refine kat_cons ?_
    refine hg hq a1 b1 prog w _ _ ?_
    induction q using Bool.casesOn with
    |true=>
     refine kat_yes ?_
     exact ih (i+1) a2 b2 e (hfin.trans (decide_eq_decide.mpr Nat.succ_lt_succ_iff)) λxx h=>by injection h
    |false=>
     refine kat_no ?_
     cases hb:(b&&i==0) with
     |false=>
      refine kat_one x y ?_
      exact hf e a1 b1 prog w _ _ hQ
     |true=>
      rw[Ca] at hb
      obtain⟨⟨p,rfl⟩,⟨q,rfl⟩⟩:=hint hb.1 (eq_of_beq hb.2) a _ c _ rfl rfl
      cases hi e
      refine Rel.intE a1 λt=>Rel.intE b1 λu=>?_
      exact oneLt_int hQ
theorem RelL.consE'{h:Heap}{v:V}{vs:List V}{l:List Value}{P:Prop}(x:RelL B ρ h (v::vs) l)(k:∀y zs,l=y::zs→Rel B ρ h v y→RelL B ρ h vs zs→P):P:=by cases x;exact k _ _ rfl ‹_› ‹_›
theorem yz{a:Bool}(h:(!a)=true):a=false:=by induction a using Bool.casesOn with|true=>exact cFt h|false=>rfl
theorem firstK_E{b:Bool}{v:V}(h:db b v=true):(∃i r,v=.tup (.int i::r)∧b=true)∨(∃ws r,v=.tup (.tup ws::r)∧b=false):=by
 induction v using V.casesOn with
 |tup l=>induction l using List.casesOn with
  |nil=>exact cFt h
  |cons a r=>induction a using V.casesOn with
   |int i=>exact .inl ⟨i,r,rfl,h⟩
   |tup ws=>exact .inr ⟨ws,r,rfl,yz h⟩
   |_=>exact cFt h
 |_=>exact cFt h
theorem nK{b:Bool}{v:V}(h:db b v=true):∃xs,v=.tup xs:=(firstK_E h).elim (λqz=>by refine kN qz λxx xx e xx=>?_;exact⟨_,e⟩) λqz=>by refine kN qz λxx xx e xx=>?_;exact⟨_,e⟩
theorem pS{h:Heap}{b:Bool}:∀{vs:List V}{l:List Value},RelL B ρ h vs l→vs.all (db b)=true→∃fs,And3 (KatTups h l fs) (fs.length=l.length) (∀v∈fs,∀(M:Model),Looks M h (typeOf v) (if b=true then .type "int" else .type "tuple")):=λ{vs}=>by
 induction vs with
 |nil=>exact λh xx=>RelL.nilE h ⟨[],trivial,rfl,λxx h=>nomatch h⟩
 |cons v vs ih=>
  intro l h hv
  refine RelL.consE h λx l r rr=>?_
  clear h
  rw[List.all_cons,Ca] at hv
  refine cv (ih rr hv.2) λfs h1 h2 h3=>?_
  have two:∀{y:Value}{items:Array Value}{zs:List Value},items.toList=y::zs→items[0]?=some y:=λe=>by refine rL (Array.getElem?_toList ..) ?_;show e;rfl
  rcases firstK_E hv.1 with⟨i,w,rfl,rfl⟩|⟨ws,w,rfl,rfl⟩
  ·refine Rel.tupE r λa items ht hl=>?_
   refine oE ht λn ho=>?_
   refine RelL.consE' hl λy zs ez r0 rn=>?_
   refine Rel.intE (P:=λy=>items.toList=y::zs→_) r0 (λt ez=>?_) ez
   refine iEa3 (.int _ t::fs) ⟨⟨a,_,items,n,rfl,ho,rfl,rfl,two ez⟩,h1⟩ (congrArg Nat.succ h2) (λv hv M=>?_)
   rcases Cb.mp hv with rfl|hv
   ·exact Looks.of_pure rfl
   ·exact h3 v hv M
  ·refine Rel.tupE r λa items ht hl=>?_
   refine oE ht λn ho=>?_
   refine RelL.consE' hl λy zs ez r0 rn=>?_
   refine Rel.tupE (P:=λy=>items.toList=y::zs→_) r0 (λa' items' ht' hl' ez=>?_) ez
   refine iEa3 (.ref a'::fs) ⟨⟨a,_,items,n,rfl,ho,rfl,rfl,two ez⟩,h1⟩ (congrArg Nat.succ h2) (λv hv M=>?_)
   rcases Cb.mp hv with rfl|hv
   ·refine oE ht' λn' ho'=>?_
    exact λA Q E s k q=>wpAny_typeOf (T:="tuple") ⟨_,k _ _ ho',rfl⟩ q
   ·exact h3 v hv M
theorem rA{h:Heap}{vs:List V}{l:List Value}(hr:RelL B ρ h vs l):∀{p:List Nat}{us:List V},pP vs p=some us→RelL B ρ h us (p.map λi=>l.getD i Value.none):=λ{p}=>by
 induction p with
 |nil=>
  intro us e
  refine cS1 e ?_;exact .nil
 |cons i r ih'=>
  intro us e
  replace e:(match vs[i]?,pP vs r with|some v,some l=>some (v::l)|_,_=>none)=some us:=e
  cases hv:vs[i]? with
  |none=>rw[hv] at e;exact nos e
  |some v=>
   cases hp:pP vs r with
   |none=>rw[hv,hp] at e;exact nos e
   |some l'=>
    rw[hv,hp] at e
    refine cS1 e ?_
    refine oEA (hr.get i v hv) λx hx rx=>?_
    show Cc
    refine .cons ?_ (ih' hp)
    show Ci;show hx;exact rx
theorem mj(S:St prog w B ρ C s)(hu:A.units+10<cLine){vs us:List V}{l:List Value}(hr:RelL B ρ s.heap vs l)(h2:2≤vs.length)(e:dj C vs=some us){P:Array Nat→Shared→Prop}
  (hP:∀p:Array Nat,pP vs p.toList=some us→us.length≤100→P p s) :
  wpAny (model prog w) A (keyKind' l.toArray) (λκ s'=>(kas_sort l.length).kasWp (kas_ask prog w A κ l) P s') EF s:=by
 have hlen:=hr.length
 have key:∀b:Bool,vs.all (db b)=true→(match dS (λi j=>match vs[i]?,vs[j]? with|some a,some b=>ltv C 8 a b|_,_=>none) (kas_sort vs.length) with
   |some p=>match pP vs p.toList with
    |some us=>if us.length≤100 then some us else none
    |none=>none
   |none=>none)=some us→wpAny (model prog w) A (keyKind' l.toArray) (λκ s'=>(kas_sort l.length).kasWp (kas_ask prog w A κ l) P s') EF s:=λb hb e=>by
  refine cv (pS hr hb) λfs h1 hl h3=>?_
  refine kat_kind h1 (by lia) (λv hv=>h3 v hv _) (by cases b<;>rfl) ?_
  cases hk:dS (λi j=>match vs[i]?,vs[j]? with|some a,some b=>ltv C 8 a b|_,_=>none) (kas_sort vs.length) with
  |none=>simp only[hk] at e;exact cNo e
  |some p=>
   simp only[hk] at e
   cases hpk:pP vs p.toList with
   |none=>simp only[hpk] at e;exact cNo e
   |some us'=>
   simp only[hpk] at e
   split at e<;>(first|exact cNo e|refine cSo e λzx=>?_;clear e;subst zx)
   rename_i h100
   rw[hlen] at hk
   show kat_ask_eq rfl
   refine kas_wp_mono (Q:=λa' s'=>a'=p∧s'=s) ?_ λa s' ⟨ha,hs⟩=>by show ha;show hs;exact hP p hpk h100
   refine rL (kat_ask_eq rfl ..) ?_
   refine jA (λi j r K hij hK=>?_) _ hk
   cases hvi:vs[i]? with
   |none=>simp only[hvi] at hij;exact cNo hij
   |some a=>
   cases hvj:vs[j]? with
   |none=>simp only[hvi,hvj] at hij;exact cNo hij
   |some c=>
   simp only[hvi,hvj] at hij
   refine oEA (hr.get i a hvi) λx hx rx=>?_
   refine oEA (hr.get j c hvj) λy hy ry=>?_
   have fa:=CA.mp hb a (List.mem_of_getElem? hvi)
   have fc:=CA.mp hb c (List.mem_of_getElem? hvj)
   change wpAny _ _ (keyLt' _ (l.getD i Value.none) (l.getD j Value.none)) K EF s
   show Ci;show hx;show Ci;show hy
   obtain⟨xs,rfl⟩ : ∃xs,a=.tup xs:=nK fa
   obtain⟨ys,rfl⟩ : ∃ys,c=.tup ys:=nK fc
   refine Rel.tupE rx λxx yy ht hlx=>?_
   refine Rel.tupE ry λxx yy ht' hly=>?_
   refine oE ht λm1 ho=>?_
   refine oE ht' λm2 ho2=>?_
   have hij:lts (ltv C 7) (eqv C 7) xs ys=some r:=hij
   refine kat_lt ho rfl ho2 rfl ?_
   refine qt (λe ha hb=>A4 S 7 ((Nat.lt_of_succ_lt (Nat.lt_of_succ_lt hu))) e ha hb) (λe ha hb=>zI S 7 ((Nat.lt_of_succ_lt (Nat.lt_of_succ_lt hu))) e ha hb) (λ{i j r} e=>(Option.some.inj e).symm) hK 0 hlx hly hij (by simp) λhb xx a x' c y' hxs hys=>?_
   subst hxs hys
   have hbt:b=true:=by induction b using Bool.casesOn with|true=>rfl|false=>exact absurd hb (ne_true_of_eq_false rfl)
   subst hbt
   have one:∀{a l},db true (.tup (a::l))=true→∃p,a=.int p:=λh=>(firstK_E h).elim (λqz=>by refine kN qz λi r e xx=>?_;exact⟨i,(List.cons.inj (V.tup.inj e)).1⟩) λqz=>by refine kN qz λxx xx xx e=>?_;exact nomatch e
   exact⟨one fa,one fc⟩
 obtain⟨a,c,w,rfl⟩ : ∃a c w,vs=a::c::w:=by
  induction vs using List.casesOn with
  |nil=>exact absurd h2 (Nat.not_succ_le_zero 1)
  |cons a w=>induction w using List.casesOn with
   |nil=>exact absurd h2 (Nat.not_succ_le_self 1)
   |cons c w=>exact⟨a,c,w,rfl⟩
 replace e:(match(a::c::w).all (db true) || (a::c::w).all (db false) with
  |true=>match dS (λi j=>match(a::c::w)[i]?,(a::c::w)[j]? with|some a,some b=>ltv C 8 a b|_,_=>none) (kas_sort (a::c::w).length) with
   |some p=>match pP (a::c::w) p.toList with
    |some us=>if us.length≤100 then some us else none
    |none=>none
   |none=>none
  |false=>none)=some us:=e
 cases hq:(a::c::w).all (db true) || (a::c::w).all (db false) with
 |false=>rw[hq] at e;exact nos e
 |true=>
  rw[hq] at e
  rcases(Bool.or_eq_true _ _).mp hq with hq|hq
  ·exact key true hq e
  ·exact key false hq e
end
section
open PySem.SeqAt
noncomputable def bm(h:Heap)(a:Addr)(l:List Value):Heap:=((h.update a (Obj.mapSeq λxx=>#[])).push (seqObj "tuple" l.toArray 0)).push (seqObj "list" #[] 0)
theorem lf{a:Addr}{l:List Value}{n:Nat}{P:Fin→Shared→Prop}(ho:s.heap.get? a=some (seqObj "list" l.toArray n))(h64:l.length<64)
  (hsmall:l.length<2→P (.done (.ret .none)) { s with heap:=sortedHeap s.heap a l l.toArray })
  (hbig:2≤l.length→wpAny (model prog w) A (keyKind' l.toArray) (λκ s'=>(kas_sort l.length).kasWp (kas_ask prog w A κ l)
   (λp s''=>s''={ s with heap:=bm s.heap a l }∧P (.done (.ret .none)) { s with heap:=sortedHeap s.heap a l (p.toList.map λi=>l.getD i Value.none).toArray }) s') EF { s with heap:=bm s.heap a l }) :
  wpAny (model prog w) A (Builtin.«list.sort» ⟨[.ref a],[]⟩) P EE s:=by
 show list_sort_plain
 have ha:a<s.heap.objs.size:=Heap.lt_size ho
 refine B1 (listItems_at ho rfl ?_)
 refine B1 (listUpdate_at ho rfl ?_ (by show List.size_toArray;show sizeLine_eq;exact B4 (Nat.le_of_lt h64) (B5 _ _)) (Nat.zero_le _))
 obtain⟨e1,ho1⟩ : ∃e1,(s.heap.update a (Obj.mapSeq λxx=>#[])).get? a=some (seqObj "list" #[] e1):=⟨_,get?_update_seq ho (λxx=>#[])⟩
 refine B1 (seqEpoch_at ho1 rfl ?_)
 refine B1 (wpAny_newTuple ?_ (by show sizeLine_eq;simp;exact B4 (Nat.le_of_lt h64) (B5 _ _)))
 refine B1 (wpAny_newList ?_ (leb rfl))
 refine wpAny_holding ?_
 have ho6:(bm s.heap a l).get? a=some (seqObj "list" #[] e1):=by
  unfold bm
  show(Heap.get?_push_ne _ _ _ (by show size_push';show Heap.size_update;exact Nat.ne_of_lt (Nat.lt_succ_of_lt ha)));show(Heap.get?_push_ne _ _ _ (by show Heap.size_update;exact Nat.ne_of_lt ha))
  exact ho1
 change wpAny (model prog w) A _ P EE { s with heap:=bm s.heap a l }
 dsimp only
 have hsz:l.toArray.size=l.length:=rfl
 by_cases h2:l.toArray.size<2
 ·show if_pos h2;show if_pos h2
  refine B1 (B2 ?_)
  show StateT.run_pure
  refine B1 (B2 ?_)
  dsimp only
  refine B1 (seqEpoch_at ho6 rfl ?_)
  refine B1 (listUpdate_at ho6 rfl ?_ (Nat.zero_le _) (hsz2:=by show Array.size_map;change (pairsOf l).size≤_;show pairsOf_size;show sizeLine_eq;exact B4 (Nat.le_of_lt h64) (B5 _ _)))
  simp only[bne_self_eq_false,Bool.false_eq_true,if_false]
  have:=hsmall (by omega (config:={}))
  have hm:(l.toArray.zip l.toArray).map (·.2)=l.toArray:=by
   apply Array.ext
   ·simp
   ·intro i h1 h2;simp
  have e:∀z:Array Value,z=l.toArray→P (.done (.ret .none)) { s with heap:=sortedHeap s.heap a l z }:=λz hz=>hz▸this
  exact B2 (e _ hm)
 ·show if_neg h2;show if_neg h2
  refine B1 (B3 (hbig ((B4 (Cm h2) (Cg hsz)))) (λκ s' hk=>?_) λxx yy h=>h.elim)
  refine B1 (B3 (kat_run (Q:=λst' s''=>∃p:Array Nat,And5 ((arrOf st').map (·.2)=List.toArray (p.toList.map λi=>l.getD i Value.none)) (p.size=l.length) (failedOf st'=none) (s''={ s with heap:=bm s.heap a l }) (P (.done (.ret .none)) { s with heap:=sortedHeap s.heap a l (p.toList.map λi=>l.getD i Value.none).toArray })) rfl ((B4 (Cm h2) (Cg hsz))) h64 (λp st' s'' hp har hf hG=>⟨p,kat_snds rfl har,hp,hf,hG.1,hG.2⟩) hk) (λr s'' hq=>?_) λxx yy h=>h)
  obtain⟨⟨⟩,st'⟩:=r
  obtain⟨p,hs,hp,hf,rfl,hP⟩:=hq
  dsimp only at hs hf ⊢
  refine B1 (seqEpoch_at ho6 rfl ?_)
  refine B1 (listUpdate_at ho6 rfl ?_ (Nat.zero_le _) (hsz2:=by show hs;show List.size_toArray;show B8;show Ce;show hp;show sizeLine_eq;exact B4 (Nat.le_of_lt h64) (B5 _ _)))
  show hf
  simp only[bne_self_eq_false,Bool.false_eq_true,if_false]
  have e:∀z:Array Value,z=(p.toList.map λi=>l.getD i Value.none).toArray→P (.done (.ret .none)) { s with heap:=sortedHeap s.heap a l z }:=λz hz=>hz▸hP
  exact B2 (e _ hs)
theorem lQ{vs us:List V}(e:dj C vs=some us):vs.length<2→us=vs:=λh=>by
 induction vs using List.casesOn with
 |nil=>exact(Option.some.inj e).symm
 |cons a w=>induction w using List.casesOn with
  |nil=>exact(Option.some.inj e).symm
  |cons b w=>exact absurd h (Nat.not_lt.mpr (B5 2 w.length))
theorem pG{items:Array Value}:items.toList.toArray=items:=Array.toArray_toList
theorem tY(S:St prog w B ρ C s){c:Nat}{a:Addr}{vs:List V}{k n:Nat}{items:Array Value}(q:C[c]?=some (.list vs,k))(ea:ρ[c]?=some a)(ho:s.heap.get? a=some (seqObj "list" items n)):
  ∃n',And3 ((bm s.heap a items.toList).get? a=some (seqObj "list" #[] n')) (St prog w B ρ (C.set c (.list [],k+1)) { s with heap:=bm s.heap a items.toList }) (Keep W0 ρ C s ρ (C.set c (.list [],k+1)) { s with heap:=bm s.heap a items.toList }):=by
 have ha:a<s.heap.objs.size:=Heap.lt_size ho
 have ho1:(s.heap.update a (Obj.mapSeq λxx=>#[])).get? a=some (seqObj "list" #[] _):=get?_update_seq ho (λxx=>#[])
 obtain⟨S₁,K₁⟩:=S.put ea q (h':=s.heap.update a (Obj.mapSeq λxx=>#[])) (tk:=s.toks) (o':=.list []) (λb ob hb e=>(Heap.SameBut.update ..).extBut b ob hb e) ⟨_,ho1⟩ λK=>.list ⟨_,ho1⟩ .nil (by simp)
 have hk:∀b o,(s.heap.update a (Obj.mapSeq λxx=>#[])).get? b=some o→(bm s.heap a items.toList).get? b=some o:=λb o e=>Heap.get?_push_of_some _ (Heap.get?_push_of_some _ e)
 obtain⟨S₂,K₂⟩:=S₁.still (tk:=s.toks) hk
 exact iEa3 _ (hk _ _ ho1) S₂ (K₁.trans K₂)
theorem t8:Sorts prog w B where
 sort:=λ{A n ρ C s c a vs us k} R S q ea h3 e=>by
  obtain⟨items,⟨n,ho⟩,hr,hb⟩:=aN S.hr q ea
  have hlen:=hr.length
  have hu:A.in1.units+10<cLine:=by have:=R.un;change A.units+1+10<_;exact R.lt 11 rfl
  have hc:c<C.length:=(List.getElem?_eq_some_iff.mp q).1
  have ho':s.heap.get? a=some (seqObj "list" items.toList.toArray n):=by show pG;exact ho
  refine cv (tY S q ea ho) λn' hmid S₁ K₁=>?_
  have hr₁:=RelL.keep K₁ S.hr (aC _) hr
  have fin:∀l':List Value,RelL B ρ (bm s.heap a items.toList) us l'→us.length≤100000→QV prog w B ρ C s .nn (C.set c (.list us,k+1+1)) .none { s with heap:=sortedHeap s.heap a items.toList l'.toArray }:=λl' hl' hz=>by
   have hup:(sortedHeap s.heap a items.toList l'.toArray).get? a=some (seqObj "list" l'.toArray _):=get?_update_seq hmid (λxx=>l'.toArray)
   have q₁:(C.set c (.list [],k+1))[c]?=some (.list [],k+1):=List.getElem?_set_self hc
   obtain⟨S₂,K₂⟩:=S₁.put ea q₁ (h':=sortedHeap s.heap a items.toList l'.toArray) (tk:=s.toks) (o':=.list us) (λb ob hb e=>(Heap.SameBut.update ..).extBut b ob hb e) ⟨_,hup⟩ λK=>
    .list ⟨_,hup⟩ (RelL.keep K S₁.hr (aC _) hl') hz
   rw[List.set_set] at S₂ K₂
   exact⟨ρ,S₂,K₁.trans K₂,.nn⟩
  refine Cu F.slot_list_sort ⟨_,ho,rfl⟩ F.entry_list_sort (lf ho' (by lia) (λh2=>⟨_,rfl,?_⟩) λh2=>?_) (F.args_list_sort_1 _)
  ·have:=lQ e ((Ck (Cg hlen) h2))
   subst this
   exact fin items.toList hr₁ (hb)
  ·refine mj S₁ hu hr₁ ((B4 h2 (Cg (Eq.symm hlen)))) e λp hp h100=>⟨rfl,_,rfl,?_⟩
   exact fin _ (rA hr₁ hp) ((B4 h100 (B5 _ _)))
end
section
open PySem.SeqAt
abbrev ItO(h:Heap)(it d:Addr)(i n ep:Nat)(f₀:Value)(fb:Bool)(ok ov:Value):Prop:=
 h.get? it=some { cls:=.type "dict_itemiterator",dict:=none,data:=.fields #[f₀,.bool fb,.ref d,.int i 0,.int n 0,.int ep 0,ok,ov],slots:=#[] }
section
variable {w:World}{A:Around}{E:Value→Shared→Prop}{s:Shared}
theorem oY{d:Addr}{ds:Array DictEntry}{ep:Nat}{Q:Value→Shared→Prop}(hd:(d==sysModules)=false)(hm:DAt s.heap d ds ep)
  (h:Q (.ref s.heap.objs.size) { s with heap:=s.heap.push { cls:=.type "dict_items",data:=.fields #[.ref d] } }):wpAny (model prog w) A (call (.builtin "dict.items") [.ref d]) Q E s:=by
 refine Cu PySem.F.slot_dict_items hm.typeIs PySem.F.entry_dict_items ?_ (PySem.F.args_dict_items_1 _)
 unfold Builtin.«dict.items»
 refine B1 ?_
 unfold Builtin.Dict.noArgs
 refine B1 (wpAny_notOrdered_dict hm.typeIs ?_)
 change wpAny _ _ (pure d) _ _ s
 refine B2 ?_
 change wpAny _ _ (Builtin.Dict.showsAll d >>= _) _ _ s
 unfold Builtin.Dict.showsAll
 show(if_neg (by show hd;exact Cy))
 refine B1 (B2 ?_)
 exact B1 (wpAny_newObj_type (B2 ⟨_,rfl,h⟩) (leb rfl))
theorem oQ{v d:Addr}{ds:Array DictEntry}{ep:Nat}{Q:Value→Shared→Prop}(hv:s.heap.IsItemsView v d)(hm:DAt s.heap d ds ep)
  (hQ:Q (.ref s.heap.objs.size) { s with heap:=s.heap.push { cls:=.type "dict_itemiterator",data:=.fields #[.none,.bool false,.ref d,.int 0 0,.int ds.size 0,.int ep 0,.none,.none] } }) :
  wpAny (model prog w) A (pyIter (.ref v)) Q E s:=by
 refine lC (id hv) λov hov hcv hdv=>?_
 refine cv (id hm) λo ho hc hdat=>?_
 refine wpAny_pyIter_slot hv.typeIs F.slot_dict_items_iter (Cu F.slot_dict_items_iter hv.typeIs F.entry_dict_items_iter ?_ (F.args_dict_items_iter_1 _))
 unfold Builtin.«dict_items.__iter__»
 refine B1 (B2 ?_)
 refine B1 ?_
 unfold Builtin.Dict_items.dictOf
 refine B1 (wpAny_field hov hdv (x:=.ref d) rfl (B2 ?_))
 refine B1 ?_
 unfold Builtin.Dict_items.newIterator
 refine B1 (wpAny_dictEntries ho hdat ?_)
 refine B1 (wpAny_dictEpoch ho hdat ?_)
 have hown:Builtin.Dict_items.ownsTuple "dict_itemiterator" = true:=rfl
 simp only[hown,if_true]
 refine wpAny_newObj_type (B2 ⟨_,rfl,"dict_itemiterator",_,⟨_,Heap.get?_push_size _ rfl,rfl⟩,F.slot_dict_itemiterator_next.lookup,?_⟩)
  (by simp only[sizeOk,Builtin.Dict_items.ownedTupleFields,List.size_toArray,List.length_append,List.length_cons,List.length_nil,sizeLine_eq];exact leb rfl)
 simpa [rawInt,Builtin.Dict_items.ownedTupleFields] using hQ
noncomputable def Ab(h:Heap)(it:Addr)(S:Addr):Value→Bool→Prop
 |.none,fb=>fb=false
 |.int a t,fb=>t=0∧∃b:Addr,And4 (a=(b:Nat)) (b≠it) (b≠S) (∃o,h.get? b=some o)
 |_,_=>False
theorem o7{it d S:Addr}{i ep:Nat}{ds:Array DictEntry}{f₀ ok ov:Value}{fb:Bool}{Q:Option Value→Shared→Prop}(hit:ItO s.heap it d i ds.size ep f₀ fb ok ov)(hH:Ab s.heap it S f₀ fb)(hS:S<s.heap.objs.size)(hSi:S≠it)
  (hm:DAt s.heap d ds ep) (hlt:i<ds.size)
  (hQ:∀f₁ fb' ok' ov' h',ItO h' it d (i+1) ds.size ep f₁ fb' ok' ov'→Ab h' it S f₁ fb'→h'.get? s.heap.objs.size=some { cls:=.type "tuple",data:=.seq #[ds[i].key,ds[i].val] }→h'.objs.size=s.heap.objs.size+1→
   (∀b o,b≠it→s.heap.get? b=some o→h'.get? b=some o)→Q (some (.ref s.heap.objs.size)) { s with heap:=h' }):wpAny (model prog w) A (pyNext (.ref it)) Q E s:=by
 obtain⟨hp,g,dr,tk,os⟩:=s
 refine cv (id hm) λod hod hcd hdd=>?_
 have hT:Shared.TypeIs ⟨hp,g,dr,tk,os⟩ (.ref it) "dict_itemiterator":=⟨_,hit,rfl⟩
 unfold pyNext
 refine B1 (wpAny_attempt (wpAny_callSpecial?_slot (name:=Str.ofString "__next__") hT F.slot_dict_itemiterator_next
  (Cu F.slot_dict_itemiterator_next hT F.entry_dict_itemiterator_next ?_ (F.args_dict_itemiterator_next_1 _))))
 refine B1 (B2 ?_)
 refine B1 ?_
 refine B1 ?_
 first|refine B1 (wpAny_typeNameOfWhole_itemiter hT (B2 ?_))|refine B1 (wpAny_typeNameOf_itemiter hT (B2 ?_))
 refine B1 (wpAny_fieldsOf hit rfl ?_)
 change wpAny _ _ (if(Value.ref d==Value.none)=true then _ else _) _ _ _
 show(if_neg (show ¬((Value.ref d==Value.none)=true) from Cy))
 refine B1 (B2 ?_)
 refine B1 (wpAny_dictEntries hod hdd ?_)
 show(if_neg (by simp))
 refine B1 (B2 ?_)
 refine B1 (wpAny_dictEpoch hod hdd ?_)
 show(if_neg (by simp))
 refine B2 ?_
 simp only[show ¬((i:Int)<0) from Int.not_lt_of_ge (Int.natCast_nonneg _),if_false,Int.toNat_natCast,Array.getElem?_eq_getElem hlt]
 refine B1 ?_
 first|refine B1 (wpAny_typeNameOfWhole_itemiter hT (B2 ?_))|refine B1 (wpAny_typeNameOf_itemiter hT (B2 ?_))
 refine B1 (wpAny_isOneOf_itemiter hT ?_)
 change wpAny _ _ (setField (.ref it) 3 (rawInt ((i:Int)+1)) >>= _) _ _ ⟨hp,g,dr,tk,os⟩
 refine B1 (wpAny_setField_rec hit (Mine.Lake.ltb rfl) λh₁ he₁ hs₁=>?_)
 replace hs₁:Heap.SameBut it hp h₁:=hs₁
 replace he₁:ItO h₁ it d (i+1) ds.size ep f₀ fb ok ov:=by
  have e:((i+1:Nat):Int)=(i:Int)+1:=by rfl
  unfold ItO;show e;simpa [rawInt] using he₁
 have hT₁:Shared.TypeIs ⟨h₁,g,dr,tk,os⟩ (.ref it) "dict_itemiterator":=⟨_,he₁,rfl⟩
 refine B1 (wpAny_holding ?_)
 refine B1 (wpAny_isOneOf_itemiter hT₁ ?_)
 refine B1 (wpAny_isOneOf_itemiter hT₁ ?_)
 change wpAny _ _ (Builtin.Dict_items.pairFromOwner (.ref it) 6 ds[i].key ds[i].val) _ _ ⟨h₁,g,dr,tk,os⟩
 unfold Builtin.Dict_items.pairFromOwner
 refine B1 (wpAny_newTuple ?_ (leb rfl))
 have he₂:ItO (h₁.push { cls:=.type "tuple",data:=.seq #[ds[i].key,ds[i].val] }) it d (i+1) ds.size ep f₀ fb ok ov:=Heap.get?_push_of_some _ he₁
 generalize hh₂:h₁.push { cls:=.type "tuple",data:=.seq #[ds[i].key,ds[i].val] }=h₂ at he₂
 have hz₁:h₁.objs.size=hp.objs.size:=hs₁.1
 have hil:it<hp.objs.size:=Heap.lt_size hit
 have ht₂:h₂.get? hp.objs.size=some { cls:=.type "tuple",data:=.seq #[ds[i].key,ds[i].val] }:=by refine rL (hh₂ ..) ?_;refine rL (hz₁ ..) ?_;exact Heap.get?_push_size _ rfl
 have hz₂:h₂.objs.size=hp.objs.size+1:=by refine rL (hh₂ ..) ?_;show Heap.size_push;show hz₁;rfl
 have hk₂:∀b o,b≠it→hp.get? b=some o→h₂.get? b=some o:=λb o hb e=>by refine rL (hh₂ ..) ?_;exact Heap.get?_push_of_some _ (hs₁.extBut b o hb e)
 change wpAny _ _ (Builtin.Dict_items.ownedTupleIsFree (.ref it) >>= _) _ _ ⟨h₂,g,dr,tk,os⟩
 show hz₁
 clear hh₂ he₁ hs₁ hT₁ hz₁ h₁
 refine B1 ?_
 unfold Builtin.Dict_items.ownedTupleIsFree
 cases f₀ with
 |none=>
  have hfb:fb=false:=hH
  subst hfb
  refine B1 (wpAny_field he₂ rfl (x:=.none) rfl (B2 ?_))
  simp only[if_true]
  refine B1 (wpAny_field he₂ rfl (x:=ok) rfl ?_)
  refine B1 (wpAny_field he₂ rfl (x:=ov) rfl ?_)
  refine B1 (wpAny_setField_rec he₂ (Mine.Lake.ltb rfl) λh₃ he₃ hs₃=>?_)
  replace hs₃:Heap.SameBut it h₂ h₃:=hs₃
  replace he₃:ItO h₃ it d (i+1) ds.size ep .none false ds[i].key ov:=he₃
  refine B1 (wpAny_setField_rec he₃ (Nat.lt_add_one _) λh₄ he₄ hs₄=>?_)
  replace hs₄:Heap.SameBut it h₃ h₄:=hs₄
  replace he₄:ItO h₄ it d (i+1) ds.size ep .none false ds[i].key ds[i].val:=he₄
  refine B1 (wpAny_setField_rec he₄ (PySem.size_pos_of_not_empty hH) λh₅ he₅ hs₅=>?_)
  replace hs₅:Heap.SameBut it h₄ h₅:=hs₅
  replace he₅:ItO h₅ it d (i+1) ds.size ep (rawInt hp.objs.size) false ds[i].key ds[i].val:=he₅
  refine B1 (wpAny_setField_rec he₅ (Nat.one_lt_succ_succ _) λh₆ he₆ hs₆=>?_)
  replace hs₆:Heap.SameBut it h₅ h₆:=hs₆
  replace he₆:ItO h₆ it d (i+1) ds.size ep (rawInt hp.objs.size) false ds[i].key ds[i].val:=he₆
  have up:∀b o,b≠it→h₂.get? b=some o→h₆.get? b=some o:=λb o hb e=>hs₆.extBut b o hb (hs₅.extBut b o hb (hs₄.extBut b o hb (hs₃.extBut b o hb e)))
  refine B1 (wpAny_letGo (B2 (B2 ⟨_,rfl,B2 (hQ _ _ _ _ h₆ he₆ ⟨rfl,hp.objs.size,rfl,Nat.ne_of_gt hil,Nat.ne_of_gt hS,_,up _ _ (Nat.ne_of_gt hil) ht₂⟩ (up _ _ (Nat.ne_of_gt hil) ht₂) ?_ ?_)⟩)))
  ·change h₆.objs.size=hp.objs.size+1
   show hs₆.1;show hs₅.1;show hs₄.1;show hs₃.1;show hz₂;rfl
  ·exact λb o hb e=>up b o hb (hk₂ b o hb e)
 |int ai at_=>
  refine vc hH λzr0 a zr1 hai haS oa ha=>?_;subst zr0 zr1
  refine B1 (wpAny_field he₂ rfl (x:=rawInt a) rfl ?_)
  change wpAny _ _ (loadIfAlive ((a:Int).toNat) >>= _) _ _ _
  show Cv
  have ha₂:h₂.get? a=some oa:=hk₂ a oa hai ha
  refine B1 (kdx_alive ha₂ ?_)
  simp only[Option.isNone_some,Bool.false_eq_true,if_false]
  refine B1 (wpAny_field he₂ rfl (x:=.bool fb) rfl ?_)
  have fin:∀h₃:Heap,ItO h₃ it d (i+1) ds.size ep (.int a 0) true ok ov→Heap.SameBut it h₂ h₃→Q (some (.ref hp.objs.size)) ⟨h₃,g,dr,tk,os⟩:=λh₃ he₃ hs₃=>
   hQ _ _ _ _ h₃ he₃ ⟨rfl,a,rfl,hai,haS,oa,hs₃.extBut _ _ hai ha₂⟩ (hs₃.extBut _ _ (Nat.ne_of_gt hil) ht₂) (by change h₃.objs.size=hp.objs.size+1;show hs₃.1;show hz₂;rfl) λb o hb e=>hs₃.extBut b o hb (hk₂ b o hb e)
  induction fb using Bool.casesOn with
  |true=>
   show(if_neg (show ¬((Value.bool true != Value.bool true)=true) from Cy))
   refine B2 ?_
   simp only[Bool.false_eq_true,if_false]
   exact B2 (B2 ⟨_,rfl,B2 (fin h₂ he₂ (Heap.SameBut.refl _ _))⟩)
  |false=>
   show(if_pos (show(Value.bool false != Value.bool true)=true from rfl))
   refine B1 (wpAny_setField_rec he₂ (Nat.one_lt_succ_succ _) λh₃ he₃ hs₃=>?_)
   replace hs₃:Heap.SameBut it h₂ h₃:=hs₃
   replace he₃:ItO h₃ it d (i+1) ds.size ep (.int a 0) true ok ov:=he₃
   refine B2 ?_
   simp only[Bool.false_eq_true,if_false]
   exact B2 (B2 ⟨_,rfl,B2 (fin h₃ he₃ hs₃)⟩)
 |_=>exact hH.elim
theorem qA{it d:Addr}{ep:Nat}{ds:Array DictEntry}{f₀ ok ov:Value}{fb:Bool}{Q:Option Value→Shared→Prop}(hh:A.handled=none)(hit:ItO s.heap it d ds.size ds.size ep f₀ fb ok ov)(hm:DAt s.heap d ds ep)
  (hQ:∀h',Heap.ExtBut it s.heap h'→Q none { s with heap:=h' }):wpAny (model prog w) A (pyNext (.ref it)) Q E s:=by
 refine cv (id hm) λod hod hcd hdd=>?_
 have hT:s.TypeIs (.ref it) "dict_itemiterator":=⟨_,hit,rfl⟩
 unfold pyNext
 refine B1 (wpAny_attempt (wpAny_callSpecial?_slot (name:=Str.ofString "__next__") hT F.slot_dict_itemiterator_next
  (Cu F.slot_dict_itemiterator_next hT F.entry_dict_itemiterator_next ?_ (F.args_dict_itemiterator_next_1 _))))
 refine B1 (B2 ?_)
 refine B1 ?_
 refine B1 ?_
 first|refine B1 (wpAny_typeNameOfWhole_itemiter hT (B2 ?_))|refine B1 (wpAny_typeNameOf_itemiter hT (B2 ?_))
 refine B1 (wpAny_fieldsOf hit rfl ?_)
 change wpAny _ _ (if(Value.ref d==Value.none)=true then _ else _) _ _ s
 show(if_neg (show ¬((Value.ref d==Value.none)=true) from Cy))
 refine B1 (B2 ?_)
 refine B1 (wpAny_dictEntries hod hdd ?_)
 show(if_neg (by simp))
 refine B1 (B2 ?_)
 refine B1 (wpAny_dictEpoch hod hdd ?_)
 show(if_neg (by simp))
 refine B2 ?_
 simp only[show ¬((ds.size:Int)<0) from Int.not_lt_of_ge (Int.natCast_nonneg _),if_false,Int.toNat_natCast,Array.getElem?_eq_none (Nat.le_refl ds.size)]
 refine B1 ?_
 first|refine B1 (wpAny_typeNameOfWhole_itemiter hT (B2 ?_))|refine B1 (wpAny_typeNameOf_itemiter hT (B2 ?_))
 change wpAny _ _ (setField (.ref it) 2 .none >>= _) _ _ s
 refine B1 (wpAny_setField hit rfl (Mine.Lake.leb rfl) ?_)
 change wpAny _ _ (newExc (.type "StopIteration") [] >>= _) _ _ _
 refine B1 ?_
 simp only[newExc,newTuple]
 refine B1 (wpAny_newObj_type ?_ (leb rfl))
 refine B1 (m:=firstArgMember _ _) (wpAny_of_eq (a:=Value.none) (by first|rfl|(simp only[firstArgMember];rfl)) ?_)
 refine wpAny_newObj_type ?_ (leb rfl)
 unfold raiseNew
 refine B1 (wpAny_handled ?_)
 show(show A.in1.handled=none from hh)
 refine B1 (B2 (wpAny_throw ?_))
 refine B1 (wpAny_isInstance (T:="StopIteration") (b:=true) ⟨_,Heap.get?_push_size _ rfl,rfl⟩ isSubtype_stop ?_)
 exact B2 (hQ _ (((Heap.SameBut.update ..).extBut.push _).push _))
end
end
section
open PySem.SeqAt
def Prs(ds:Array DictEntry)(h:Heap)(lo:Addr)(as:List Addr):Prop:=
 ∀(j:Nat) (a:Addr),as[j]?=some a→lo<a∧∃e,ds[j]?=some e∧h.get? a=some { cls:=.type "tuple",data:=.seq #[e.key,e.val] }
section
variable {w:World}{A:Around}{E:Value→Shared→Prop}{s:Shared}{RR:Result→Shared→Prop}{ds:Array DictEntry}{ep:Nat}
theorem oR{S I d:Addr}(hh:A.handled=none)(hSI:S<I)(hSd:d≠S)(hId:d≠I)(hn:ds.size≤1000)(res:Value){h₁:Heap}
  (hR:∀h' tk acc c as,(∀b o,b≠S→b≠I→h₁.get? b=some o→h'.get? b=some o)→h'.get? S=some (seqObj "list" acc c)→as.length=ds.size→Prs ds h' I as→acc.toList=as.map Value.ref→RR (.ok (.ret res)) { s with heap:=h',toks:=tk }) :
  ∀(k i:Nat) (h:Heap) (tk c:Nat) (acc:Array Value) (as:List Addr),ds.size-i=k→i≤ds.size→(Ex4 λf₀ fb ok ov=>ItO h I d i ds.size ep f₀ fb ok ov∧Ab h I S f₀ fb)→DAt h d ds ep→(∀b o,b≠S→b≠I→h₁.get? b=some o→h.get? b=some o)→
   h.get? S=some (seqObj "list" acc c)→acc.toList=as.map Value.ref→as.length=i→Prs ds h I as→codeAny (model prog w) A (.builtin "list.extend.loop" ⟨[.ref S,.ref I,res],[]⟩) RR { s with heap:=h,toks:=tk }:=by
 have hne:S≠I:=Nat.ne_of_lt hSI
 intro k
 induction k with
 |zero=>
  intro i h tk c acc as hk hi hst hD hkeep hS hacc hal hG
  have hin:i=ds.size:=by lia
  subst hin
  refine Bp hst λf₀ fb ok ov hit hH=>?_
  refine codeAny_builtin PySem.F.entry_extend_loop ?_
  show Around.under_plainId PySem.F.plain_extend_loop _
  change wpAny _ A.in1 (pyNext (.ref I) >>= _) _ _ _
  refine B1 (qA (s:={ s with heap:=h,toks:=tk }) (A:=A.in1) hh hit hD λh' he=>?_)
  refine B2 (hR h' tk acc c as (λb o h1 h2 e=>he b o h2 (hkeep b o h1 h2 e)) (he S _ hne hS) hal (λj a hj=>?_) hacc)
  refine xJ (hG j a hj) λh1 e h2 h3=>?_
  exact xG h1 e h2 (he a _ (Nat.ne_of_gt h1) h3)
 |succ k ih=>
  intro i h tk c acc as hk hi hst hD hkeep hS hacc hal hG
  have hlt:i<ds.size:=Nat.lt_of_sub_eq_succ hk
  refine Bp hst λf₀ fb ok ov hit hH=>?_
  have hsz:acc.size=i:=by refine rL (Ce ..) ?_;show hacc;show B8;show hal;rfl
  have hIl:I<h.objs.size:=Heap.lt_size hit
  have hSl:S<h.objs.size:=Heap.lt_size hS
  refine codeAny_builtin PySem.F.entry_extend_loop ?_
  show Around.under_plainId PySem.F.plain_extend_loop _
  change wpAny _ A.in1 (pyNext (.ref I) >>= _) _ _ _
  refine B1 (o7 (s:={ s with heap:=h,toks:=tk }) (S:=S) hit hH hSl hne hD hlt λf₁ fb' ok' ov' h' hit' hH' ht hz hkp=>?_)
  dsimp only at ht hz hkp ⊢
  have hS':=hkp S _ hne hS
  have up:∀b o,b≠S→h'.get? b=some o→(h'.update S (Obj.mapSeq (·.push (Value.ref h.objs.size)))).get? b=some o:=λb o hb e=>(Heap.get?_update_other _ _ (Ne.symm hb)).trans e
  have hHeld:Ab (h'.update S (Obj.mapSeq (·.push (Value.ref h.objs.size)))) I S f₁ fb':=by
   cases f₁ with
   |none=>exact hH'
   |int a t=>refine vc hH' λh1 b h2 h3 h4 o h5=>?_;exact⟨h1,b,h2,h3,h4,o,up _ _ h4 h5⟩
   |_=>exact hH'.elim
  change wpAny _ A.in1 (updateSeq S (·.push (Value.ref h.objs.size)) >>= _) _ _ _
  refine B1 ?_
  refine wpAny_updateSeq hS' rfl (B2 ⟨plainId_quiet PySem.F.plain_extend_loop _,ih (i+1) _ tk _ (acc.push (Value.ref h.objs.size)) (as++[h.objs.size]) (congrArg Nat.pred hk) hlt ⟨f₁,fb',ok',ov',up I _ (Ne.symm hne) hit',hHeld⟩ (hD.at λo e=>up d o hSd (hkp d o hId e))
   (λb o h1 h2 e=>up b o h1 (hkp b o h2 (hkeep b o h1 h2 e))) (Heap.get?_update_self _ hS' rfl) (by show Array.toList_push;show hacc;show List.map_append;rfl) (by show Cf;show hal;rfl) λj b hj=>?_⟩) (by show hsz;show sizeLine_eq;exact B4 (B4 hi hn) (B5 _ _)) (by change (acc.push (Value.ref h.objs.size)).size≤sizeLine+1;show Array.size_push;show hsz;show sizeLine_eq;exact Nat.succ_le_of_lt (B7 (B7 hlt hn) (B5 _ _)))
  rcases Nat.lt_trichotomy j as.length with h1|h1|h1
  ·rw[List.getElem?_append_left h1] at hj
   refine xJ (hG j b hj) λhb e e1 e2=>?_
   exact xG hb e e1 (up b _ (Nat.ne_of_gt (Nat.lt_trans hSI hb)) (hkp b _ (Nat.ne_of_gt hb) e2))
  ·subst h1
   have hb:h.objs.size=b:=by simpa using hj
   subst hb
   exact xG hIl (ds[i]) (by show hal;exact Array.getElem?_eq_getElem _) (up _ _ (Nat.ne_of_gt hSl) ht)
  ·have hnone:(as++[h.objs.size])[j]?=none:=List.getElem?_eq_none (by show Cf;show List.length_singleton;exact Nat.succ_le_of_lt h1)
   rw[hnone] at hj;exact cNo hj
theorem mh{r d:Addr}(hh:A.handled=none)(hv:s.heap.IsItemsView r d)(hm:DAt s.heap d ds ep)(S:Addr)(hSr:S≠r)(hSd:d≠S)(res:Value)(c₀:Nat)(hS:s.heap.get? S=some (seqObj "list" #[] c₀))(hn:ds.size≤1000)
  (hR:∀h' tk acc c as,(∀b o,b≠S→s.heap.get? b=some o→h'.get? b=some o)→h'.get? S=some (seqObj "list" acc c)→as.length=ds.size→Prs ds h' s.heap.objs.size as→acc.toList=as.map Value.ref→RR (.ok (.ret res)) { s with heap:=h',toks:=tk }) :
  wpAny (model prog w) A.in1 (Builtin.List.listExtendWith (.ref S) (.ref r) res)
   (λfin s'=>match fin with|.done f=>RR (.ok f) s'|.again c'=>c'.quiet=true∧codeAny (model prog w) A c' RR s') (λe s'=>RR (.error e) s') s:=by
 have hSI:S<s.heap.objs.size:=Heap.lt_size hS
 have hdI:d<s.heap.objs.size:=by refine cv hm λo ho xx xx=>?_;exact Heap.lt_size ho
 have key:∀(h:Heap) (c₁ tk:Nat),(∀b o,b≠S→(s.heap.push { cls:=.type "dict_itemiterator",data:=.fields #[.none,.bool false,.ref d,.int 0 0,.int ds.size 0,.int ep 0,.none,.none] }).get? b=some o→h.get? b=some o)→
   h.get? S=some (seqObj "list" #[] c₁)→codeAny (model prog w) A (.builtin "list.extend.loop" ⟨[.ref S,.ref s.heap.objs.size,res],[]⟩) RR { s with heap:=h,toks:=tk }:=by
  intro h c₁ tk hk hS₁
  have hI:=hk s.heap.objs.size _ (Nat.ne_of_gt hSI) (Heap.get?_push_size _ rfl)
  refine oR (ds:=ds) (ep:=ep) (s:=s) (h₁:=s.heap) hh hSI hSd (Nat.ne_of_lt hdI) hn res (λh' tk' acc c as hk' hS' hl hG hacc=>hR h' tk' acc c as (λb o hb e=>hk' b o hb (Nat.ne_of_lt (Heap.lt_size e)) e) hS' hl hG hacc)
   ds.size 0 h tk c₁ #[] [] (Nat.sub_zero _) (Nat.zero_le _) ⟨.none,false,.none,.none,hI,rfl⟩ (hm.at λo e=>hk d o hSd (Heap.get?_push_of_some _ e)) (λb o hb xx e=>hk b o hb (Heap.get?_push_of_some _ e)) hS₁ rfl rfl
   (λj a hj=>by simp at hj)
 unfold Builtin.List.listExtendWith
 refine B1 (wpAny_typeOf (T:="dict_items") hv.typeIs ?_)
 have h1:Builtin.List.listSameRef (.ref S) (.ref r)=false:=decide_eq_false ‹_›
 have h2:(Value.type "dict_items"==Value.type "list")=false:=rfl
 have h3:(Value.type "dict_items"==Value.type "tuple")=false:=by assumption
 simp only[h1,h2,h3,Bool.or_false,Bool.false_eq_true,if_false]
 refine B1 (oQ hv hm ?_)
 have hS₁:=Heap.get?_push_of_some { cls:=.type "dict_itemiterator",data:=.fields #[.none,.bool false,.ref d,.int 0 0,.int ds.size 0,.int ep 0,.none,.none] } hS
 refine B1 (wpAny_holding (kdx_hint (by refine lC hv λo ho hc xx=>?_;exact iEA o (Heap.get?_push_of_some _ ho) hc) ?_))
 refine wpAny_ite_split (λxx=>?_) (λxx=>B2 ⟨plainId_quiet PySem.F.plain_extend_loop _,key _ c₀ _ (λb o xx e=>e) hS₁⟩)
 refine B1 (wpAny_rule ?_)
 refine B1 ?_
 change wpAny _ _ (updateSeq S (·.push .none) >>= λxx=>updateSeq S (·.pop)) _ _ _
 refine B1 (wpAny_updateSeq (hz:=by exact leb rfl) hS₁ rfl ?_)
 have hS₂:=Heap.get?_update_self (Obj.mapSeq (·.push Value.none)) hS₁ rfl
 refine wpAny_updateSeq (hz:=by exact leb rfl) hS₂ rfl ?_
 have hS₃:=Heap.get?_update_self (Obj.mapSeq (·.pop)) hS₂ rfl
 refine B2 ⟨plainId_quiet PySem.F.plain_extend_loop _,key _ _ _ (λb o hb e=>?_) hS₃⟩
 exact(Heap.get?_update_other _ _ (Ne.symm hb)).trans ((Heap.get?_update_other _ _ (Ne.symm hb)).trans e)
theorem kj{r d:Addr}{Q:List Value→Shared→Prop}(hh:A.handled=none)(hv:s.heap.IsItemsView r d)(hm:DAt s.heap d ds ep)(hn:ds.size≤1000)
  (h:∀(h':Heap) (tk:Nat) (as:List Addr),(∀b o,s.heap.get? b=some o→h'.get? b=some o)→as.length=ds.size→Prs ds h' s.heap.objs.size as→Q (as.map Value.ref) { s with heap:=h',toks:=tk }) :
  wpAny (model prog w) A (collect (.ref r)) Q E s:=by
 have hr:r<s.heap.objs.size:=by refine oEA hv λxx ho xx=>?_;exact Heap.lt_size ho
 have hd:d<s.heap.objs.size:=by refine cv hm λo ho xx xx=>?_;exact Heap.lt_size ho
 unfold collect
 refine B1 (wpAny_runValue (codeAny_builtin entry_proto_collect' ?_))
 show Around.under_plainId PySem.F.plain_proto_collect _
 change wpAny _ A.in1 (newList [] >>= λl=>again (.builtin "list.__iadd__" ⟨[l,.ref r],[]⟩)) _ _ s
 refine B1 (wpAny_newObj_type ?_ (leb rfl))
 refine B2 ⟨plainId_quiet PySem.F.plain_list_iadd _,codeAny_builtin entry_list_iadd' ?_⟩
 show Around.under_plainId PySem.F.plain_list_iadd _
 have hS₁:(s.heap.push { cls:=.type "list",data:=.seq ([]:List Value).toArray }).get? s.heap.objs.size=some (seqObj "list" #[] 0):=Heap.get?_push_size _ rfl
 change wpAny _ A.in1 (Builtin.List.listExtendWith (.ref s.heap.objs.size) (.ref r) (.ref s.heap.objs.size)) _ _ _
 have key:=mh (w:=w) (A:=A) (s:={ s with heap:=s.heap.push { cls:=.type "list",data:=.seq ([]:List Value).toArray } }) (ds:=ds) (ep:=ep) (r:=r) (d:=d)
  (RR:=λ(q:Result) (s':Shared)=>∃(h':Heap) (tk:Nat) (acc':Array Value) (c':Nat) (as:List Addr),And7 (q=.ok (.ret (.ref s.heap.objs.size))) (s'={ s with heap:=h',toks:=tk }) (∀b o,s.heap.get? b=some o→h'.get? b=some o) (h'.get? s.heap.objs.size=some (seqObj "list" acc' c')) (as.length=ds.size) (Prs ds h' s.heap.objs.size as) (acc'.toList=as.map Value.ref))
  hh (by refine oEA hv λo ho x=>?_;exact iEA o (Heap.get?_push_of_some _ ho) x) (hm.at λo e=>Heap.get?_push_of_some _ e) s.heap.objs.size (Nat.ne_of_gt hr) (Nat.ne_of_lt hd) (.ref s.heap.objs.size) 0 hS₁ hn
  (λh' tk acc' c' as hk hS' hl hG hacc=>⟨h',tk,acc',c',as,rfl,rfl,λb o e=>hk b o (Nat.ne_of_lt (Heap.lt_size e)) (Heap.get?_push_of_some _ e),hS',hl,λj a hj=>(by
   refine oA (hG j a hj) λh1 h2=>?_
   refine⟨Ck ?_ h1,h2⟩
   change s.heap.objs.size≤(s.heap.push _).objs.size
   show Heap.size_push;exact Nat.le_succ _),hacc⟩)
 refine B3 key (λfin s' x=>?_) λe s' x=>?_
 ·cases fin with
  |done f=>
   obtain⟨h',tk,acc',c',as,e,rfl,hk,hS',hl,hG,hacc⟩:=x
   injection e with zx;show zx
   change wpAny _ A (load s.heap.objs.size >>= _) _ _ _
   refine B1 (wpAny_load hS' ?_)
   refine B2 ?_
   change Q acc'.toList _
   show hacc
   exact h h' tk as hk hl hG
  |again c₁=>
   refine⟨x.1,codeAny_mono x.2 λq s₂ y=>?_⟩
   obtain⟨h',tk,acc',c',as,rfl,rfl,hk,hS',hl,hG,hacc⟩:=y
   change wpAny _ A (load s.heap.objs.size >>= _) _ _ _
   refine B1 (wpAny_load hS' ?_)
   refine B2 ?_
   change Q acc'.toList _
   show hacc
   exact h h' tk as hk hl hG
 ·obtain⟨_,_,_,_,_,e',_⟩:=x
  injection e'
end
end
section
open PySem.SeqAt
theorem tK(T:Tp B mg mb)(S:St prog w B ρ C s)(F:Fm B ρ sc env σ s m cm){f:Str}{pos:Pos}{fv:Value}(hk:aR sc f=some .globalImplicit)
  (hm:f∈(["len","abs","sum","max","tuple","list","dict","sorted","range","enumerate","reversed"]:List Str)) (hb:bootBuiltins f=some fv) (h1:(f==("__debug__" : Str))=false) (h2:f≠"__name__") {Q:Value→Shared→Prop} (h:Q fv s) :
  wpAny (model prog w) A (eval (.Name f pos) env) Q EF s:=by
 have hkk:=F.kinds f _ hk
 have hg:s.heap.Ns env.globals mg:=F.glob▸kw T.g S
 have hbn:s.heap.Ns env.builtins mb:=F.blt▸j5 T.b S
 exact Calls.Name_function_global F.fn hkk (Calls.loadGlobal_builtin hg (T.miss f hm) hbn ((T.built f h2).trans hb) h) h1
theorem xk{h:Heap}{es:List (K×V)}{ds:Array DictEntry}{lo:Addr}(en:Ents prog w B ρ h es ds.toList):∀{as:List Addr},as.length=ds.size→Prs ds h lo as→RelL B ρ h (es.map λe=>V.tup [e.1.v,e.2]) (as.map Value.ref):=by
 intro as hl hp
 have hz:=en.length.trans Ce
 have go:∀(n:Nat) (es':List (K×V)) (as':List Addr),es'.length=as'.length→(∀j e a,es'[j]?=some e→as'[j]?=some a→es[n+j]?=some e∧as[n+j]?=some a)→RelL B ρ h (es'.map λe=>V.tup [e.1.v,e.2]) (as'.map Value.ref):=by
  intro n es'
  induction es' generalizing n with
  |nil=>
   intro as' h1 _
   induction as' using List.casesOn with
   |nil=>exact .nil
   |cons _ _=>simp at h1
  |cons e es' ih=>
   intro as' h1 h2
   induction as' using List.casesOn with
   |nil=>simp at h1
   |cons a as'=>
    refine .cons ?_ (ih (n+1) as' (by simpa using h1) λj e a he ha=>?_)
    ·refine oA (h2 0 e a rfl rfl) λq1 q2=>?_
     refine kQ (en.get (i:=n+0) (k:=e.1) (v:=e.2) q1) λd hd xx hk hr=>?_
     refine xJ (hp _ a q2) λxx d' hd' ha=>?_
     rw[Array.getElem?_toList,hd'] at hd
     refine cSo hd λzx=>?_;clear hd;subst zx
     exact .tup ⟨0,ha⟩ (.cons (pM hk) (.cons hr .nil))
    ·have:=h2 (j+1) e a (by simpa using he) (by simpa using ha)
     show(show n+1+j=n+(j+1) by lia)
     exact this
 exact go 0 es as (by lia) λj e a he ha=>⟨by simpa using he,by simpa using ha⟩
theorem AY{h:Heap}{vs:List V}{l:List Value}(h:RelL B ρ h vs l):l.length=vs.length:=h.length.symm
theorem gf(hB:B.NoLimit)(R:Rm A (n+1))(S:St prog w B ρ C s){c:Nat}{a:Addr}{es:List (K×V)}{k:Nat}(q:C[c]?=some (.dict es,k))(ea:ρ[c]?=some a)(h3:es.length≤3){us:List V}(e:dj C (es.map λe=>.tup [e.1.v,e.2])=some us)
  {r:Addr} (hv:s.heap.IsItemsView r a):wpAny (model prog w) A (call (.builtin "sorted") [.ref r]) (QV prog w B ρ C s (.cell C.length) (C++[(.list us,0)])) EF s:=by
 refine bJ (aJ S.hr q ea) λo ds ep ho hx hd en hh' nd hlen=>?_
 have hz:=en.length.trans Ce
 have hu:A.in1.in1.units+10<cLine:=by have:=R.un;change A.units+1+1+10<_;exact R.lt 12 rfl
 refine Calls.call_function_entry kind_sorted plain_sorted entry_sorted (args_sorted1 _) ?_
 unfold Builtin.«sorted»
 refine B1 (m:=checkCount "sorted" 1 1 _) (B2 ?_)
 refine B1 (kj (A:=A.in1) (ds:=ds) (ep:=ep) R.hd hv ⟨o,ho,hx,hd⟩ ((B4 (Cg (Eq.symm hz)) (B4 h3 (B5 _ _)))) λh₁ tk as hk hl hp=>?_)
 refine oA (S.still (tk:=tk) hk) λS₁ K₁=>?_
 have en₁:=Ents.mono (h':=h₁) (λb its qz=>by refine oE qz λn e=>?_;exact⟨n,hk _ _ e⟩) en
 have hr:=xk en₁ hl hp
 have hrl:=hr.length
 rw[B8] at hrl
 refine B1 (wpAny_newList ?_ (by show B8;show hl;show sizeLine_eq;lia))
 refine oA (S₁.still (tk:=tk) (ay h₁ (seqObj "list" (as.map Value.ref).toArray 0))) λS₂ K₂=>?_
 have hoL:(h₁.push (seqObj "list" (as.map Value.ref).toArray 0)).get? h₁.objs.size=some (seqObj "list" (as.map Value.ref).toArray 0):=Heap.get?_push_size _ rfl
 have hr₂:RelL B ρ (h₁.push (seqObj "list" (as.map Value.ref).toArray 0)) (es.map λe=>V.tup [e.1.v,e.2]) (as.map Value.ref):=RelL.mono (λb its qz=>by refine oE qz λn e=>?_;exact⟨n,ay _ _ _ _ e⟩) hr
 have htop:S₁.hr.len=S₁.hr.len:=rfl
 have hL:h₁.objs.size∉ρ:=λhm=>by refine oE (S₁.hr.live hm) λo e=>?_;exact absurd (Heap.lt_size e) (Nat.lt_irrefl _)
 have hLb:=(S₁.top hB (Cj h₁.objs.size))
 have X:Apart B ρ h₁.objs.size:=⟨hL,hLb.1,hLb.2⟩
 have hsn:s.heap.get? h₁.objs.size=none:=by
  cases e:s.heap.get? h₁.objs.size with
  |none=>rfl
  |some o=>exact absurd (Heap.lt_size (hk _ _ e)) (Nat.lt_irrefl _)
 have ns:b8 (Wd h₁.objs.size) { s with heap:=h₁.push (seqObj "list" (as.map Value.ref).toArray 0),toks:=tk }:=by
  rintro b rfl items ⟨n,ht⟩
  have ht:(h₁.push (seqObj "list" (as.map Value.ref).toArray 0)).get? h₁.objs.size=_:=ht
  rw[hoL] at ht
  have:=congrArg Obj.cls (Option.some.inj ht)
  simp at this
 have hmid0:((h₁.push (seqObj "list" (as.map Value.ref).toArray 0)).update h₁.objs.size (Obj.mapSeq λxx=>#[])).get? h₁.objs.size=some (seqObj "list" #[] _):=get?_update_seq hoL (λxx=>#[])
 obtain⟨S₃,K₃⟩:=S₂.write (W:=Wd h₁.objs.size) (a:=h₁.objs.size) (h':=(h₁.push (seqObj "list" (as.map Value.ref).toArray 0)).update h₁.objs.size (Obj.mapSeq λxx=>#[])) (tk:=tk) rfl ns (λb hb=>by show hb;exact hLb.1) hL
  (λb ob hb e=>(Heap.SameBut.update ..).extBut b ob hb e) ⟨_,hmid0⟩
 have hk4:∀b o,((h₁.push (seqObj "list" (as.map Value.ref).toArray 0)).update h₁.objs.size (Obj.mapSeq λxx=>#[])).get? b=some o→(bm (h₁.push (seqObj "list" (as.map Value.ref).toArray 0)) h₁.objs.size (as.map Value.ref)).get? b=some o:=
  λb o e=>Heap.get?_push_of_some _ (Heap.get?_push_of_some _ e)
 refine oA (S₃.still (tk:=tk) hk4) λS₄ K₄=>?_
 have hmid:=hk4 _ _ hmid0
 have K₁₄:Keep (Wd h₁.objs.size) ρ C s ρ C { s with heap:=bm (h₁.push (seqObj "list" (as.map Value.ref).toArray 0)) h₁.objs.size (as.map Value.ref),toks:=tk }:=
  ((K₁.trans K₂).mono λxx h=>h.elim).trans (K₃.trans (K₄.mono λxx h=>h.elim))
 have hr₄:RelL B ρ (bm (h₁.push (seqObj "list" (as.map Value.ref).toArray 0)) h₁.objs.size (as.map Value.ref)) (es.map λe=>V.tup [e.1.v,e.2]) (as.map Value.ref):=
  RelL.keep K₄ S₃.hr (aC _) (RelL.keep K₃ S₂.hr ns hr₂)
 have ns4:b8 (Wd h₁.objs.size) { s with heap:=bm (h₁.push (seqObj "list" (as.map Value.ref).toArray 0)) h₁.objs.size (as.map Value.ref),toks:=tk }:=by
  rintro b rfl items ⟨n,ht⟩
  have ht:(bm (h₁.push (seqObj "list" (as.map Value.ref).toArray 0)) h₁.objs.size (as.map Value.ref)).get? h₁.objs.size=_:=ht
  rw[hmid] at ht
  have:=congrArg Obj.cls (Option.some.inj ht)
  simp at this
 have fin:∀l':List Value,RelL B ρ (bm (h₁.push (seqObj "list" (as.map Value.ref).toArray 0)) h₁.objs.size (as.map Value.ref)) us l'→us.length≤100000→
   QV prog w B ρ C s (.cell C.length) (C++[(.list us,0)]) (.ref h₁.objs.size) { s with heap:=sortedHeap (h₁.push (seqObj "list" (as.map Value.ref).toArray 0)) h₁.objs.size (as.map Value.ref) l'.toArray,toks:=tk }:=λl' hl' hlen'=>by
  have hup:(sortedHeap (h₁.push (seqObj "list" (as.map Value.ref).toArray 0)) h₁.objs.size (as.map Value.ref) l'.toArray).get? h₁.objs.size=some (seqObj "list" l'.toArray _):=get?_update_seq hmid (λxx=>l'.toArray)
  obtain⟨S₅,K₅⟩:=S₄.write (W:=Wd h₁.objs.size) (a:=h₁.objs.size) (h':=sortedHeap (h₁.push (seqObj "list" (as.map Value.ref).toArray 0)) h₁.objs.size (as.map Value.ref) l'.toArray) (tk:=tk) rfl ns4 (λb hb=>by show hb;exact hLb.1) hL
   (λb ob hb e=>(Heap.SameBut.update ..).extBut b ob hb e) ⟨_,hup⟩
  have hl5:=RelL.keep K₅ S₄.hr ns4 hl'
  refine oA (S₅.adopt X (o:=.list us) (.list ⟨_,hup⟩ hl5 hlen') 0) λS₆ e6=>?_
  exact⟨_,S₆,(K₁₄.trans K₅).adopt hsn _,.cell e6⟩
 refine B1 (wpAny_holding (Cu F.slot_list_sort ⟨_,hoL,rfl⟩ F.entry_list_sort (lf (s:={ s with heap:=h₁.push (seqObj "list" (as.map Value.ref).toArray 0),toks:=tk }) (l:=as.map Value.ref) hoL (by show B8;lia) (λh2=>⟨_,rfl,?_⟩) λh2=>?_) (F.args_list_sort_1 _)))
 ·have hus:=lQ e (by show B8;rw[B8] at h2;lia)
  subst hus
  exact B2 ⟨_,rfl,fin _ hr₄ (by show B8;exact hlen)⟩
 ·refine mj S₄ hu hr₄ (by rw[B8] at h2 ⊢;lia) e λp hp h100=>⟨rfl,_,rfl,?_⟩
  exact B2 ⟨_,rfl,fin _ (rA hr₄ hp) ((B4 h100 (B5 _ _)))⟩
end
section
open PySem.SeqAt
set_option tactic.hygienic true in
theorem qC(hB:B.NoLimit)(T:Tp B mg mb)(R:Rm A (n+1))(S:St prog w B ρ C s)(F:Fm B ρ sc env σ s m cm){f x mn:Str}{fp xp ap ps pos:Pos}{v:V}(hk:aR sc f=some .globalImplicit)(hf:seq f "sorted" = true)(hm:(seq mn "items"&&(ap.endLine==ps.line))=true)
  (e:(bd (lift (eE sc x σ)) λa=>match a with
     |.cell c=>bd (av c) λo=>match o with
      |.dict es=>λC=>if es.length≤3 then match dj C (es.map λe=>.tup [e.1.v,e.2]) with
        |some us=>new (.list us) C
        |none=>none
       else none
      |_=>no
     |_=>no) C=some (v,C')) :
  wpAny (model prog w) A (eval (.Call (.Name f fp) [.Call (.Attribute (.Name x xp) mn ap) [] [] ps] [] pos) env) (QV prog w B ρ C s v C') EF s:=by
 obtain rfl:=aQ hf
 rw[Ca] at hm
 obtain rfl:=aQ hm.1
 refine eM e λa e0 f1=>?_
 clear e
 split at f1
 ·rename_i c
  refine bo f1 λo kk q f2=>?_
  clear f1
  induction o using O.casesOn with
  |list _=>exact cNo f2
  |dict es=>
  dsimp only at f2
  by_cases h3:es.length≤3
  ·rw[if_pos h3] at f2
   cases hs:dj C (es.map λe=>.tup [e.1.v,e.2]) with
   |none=>rw[hs] at f2;exact cNo f2
   |some us=>
   rw[hs] at f2
   refine cS2 f2 ?_
   refine Call_Name rfl (tK T S F hk (of_decide_eq_true ‹_›) boot_sorted (rfl) (of_decide_eq_true ‹_›) ?_)
   refine Calls.callWith_builtin (bn (es:=[.Call (.Attribute (.Name x xp) "items" ap) [] [] ps]) rfl).1 (aX (es:=[.Call (.Attribute (.Name x xp) "items" ap) [] [] ps]) rfl ?_)
   refine wpAny_items_cons ?_ rfl
   refine wpAny_Call_method_late rfl rfl hm.2 rfl (QV.go (jb T S F e0) λy s₁ ρ₁ S₁ K₁ r₁=>?_)
   refine Rel.cellE r₁ λxx ea=>?_
   obtain⟨o,ds,ep,ho,hx,hd,en,_⟩:=aJ S₁.hr q ea
   refine jW ("dict") _ PySem.F.plainAttrs_dict PySem.F.slot_dict_items PySem.F.type_dict_items ⟨_,ho,hx.1⟩ (λb hb=>by injection hb with zx;subst zx;exact⟨_,ho,hx.2.1⟩) ?_
   refine Calls.callWith_builtin (bn (es:=[]) rfl).1 (aX (es:=[]) rfl (wpAny_items_nil ?_))
   refine oY (sP S₁ ea) ⟨o,ho,hx,hd⟩ ?_
   refine wpAny_items_nil ?_
   obtain⟨S₂,K₂⟩:=S₁.still (tk:=s₁.toks) (ay s₁.heap { cls:=.type "dict_items",data:=.fields #[.ref _] })
   exact B3 (gf hB R S₂ q ea h3 hs ⟨_,Heap.get?_push_size _ rfl,rfl,rfl⟩) (λz s₃ q=>QV.after (K₁.trans K₂) q) λxx yy h=>h
  ·rw[if_neg h3] at f2;exact cNo f2
 ·exact cNo f1
theorem td(hB:B.NoLimit)(T:Tp B mg mb)(D:Snd prog w B mg E k)(R:Rm A (k+1))(S:St prog w B ρ C s){f:Str}{args:List V}{v:V}{ys:List Value}{fv:Value}(hr:RelL B ρ s.heap args ys)(hv:uD mg f fv)(e:kf E f args C=some (v,C')):
  wpAny (model prog w) A (call fv ys) (QV prog w B ρ C s v C') EF s:=by
 unfold kf at e
 rcases hv with⟨d,h1,h2⟩|⟨h1,h2⟩
 ·rw[h1] at e
  cases hok:sN d with
  |false=>simp only[hok] at e;exact cNo e
  |true=>
   simp only[hok] at e
   cases hb:aW (d.params.args.map (·.arg)) args [] with
   |none=>rw[hb] at e;exact cNo e
   |some σ=>
    rw[hb] at e
    exact xz T D R S h1 h2 hr hok hb e
 ·rw[h1] at e
  exact pB hB R.less S hr e h2
theorem mM{f:Str}{args:List V}{r:V×CH}(e:kf E f args C=some r):o8 f:=by
 unfold kf at e
 cases h:fn? f with
 |some d=>exact .inl ⟨d,h⟩
 |none=>
  simp only[h] at e
  refine .inr ⟨h,?_⟩
  unfold builtin at e
  repeat' split at e
  all_goals first|(rename_i h;obtain rfl:=aQ h;simp;done)|exact cNo e
end
section
open PySem.SeqAt
theorem qu{e:Expr}{q}:nO e=some q→e=.Call q.1 q.2.1 q.2.2.1 q.2.2.2:=by
 induction e using PySem.Expr.casesOn with
 |Call f a k p=>intro h;refine cSp h λzx zy=>?_;clear h;show zx;refine cPr zy ?_;clear zy;intro zx zy;show zx;refine cPr zy ?_;clear zy;intro zx zy;subst zx zy;rfl
 |_=>exact λh=>cNo h
theorem rH{e:Expr}{q}:lX e=some q→e=.Attribute q.1 q.2.1 q.2.2:=by
 induction e using PySem.Expr.casesOn with
 |Attribute f a k=>intro h;refine cSp h λzx zy=>?_;clear h;show zx;refine cPr zy ?_;clear zy;intro zx zy;subst zx zy;rfl
 |_=>exact λh=>cNo h
theorem rY{e:Expr}{q}:uz e=some q→e=.Name q.1 q.2:=by
 induction e using PySem.Expr.casesOn with
 |Name f a=>intro h;refine cS2 h ?_;rfl
 |_=>exact λh=>cNo h
theorem pj{args:List Expr}{q:Str×Str×Bool}(h:fX args=some q):Ex5 λx mn p ap ps=>args=[.Call (.Attribute (.Name x p) mn ap) [] [] ps]∧q=(x,mn,ap.endLine==ps.line):=by
 induction args using List.casesOn with
 |nil=>exact nos h
 |cons a r=>
 induction r using List.casesOn with
 |cons b r=>exact nos h
 |nil=>
 replace h:(match nO a with|some (f,[],[],ps)=>(match lX f with|some (v,m,ap)=>(match uz v with|some (x,_)=>some (x,m,ap.endLine==ps.line)|none=>none)|none=>none)|_=>none)=some q:=h
 cases h1:nO a with
 |none=>rw[h1] at h;exact nos h
 |some t=>
 rw[h1] at h
 obtain⟨f,l,k,ps⟩:=t
 induction l using List.casesOn with
 |cons=>exact nos h
 |nil=>
 induction k using List.casesOn with
 |cons=>exact nos h
 |nil=>
 replace h:(match lX f with|some (v,m,ap)=>(match uz v with|some (x,_)=>some (x,m,ap.endLine==ps.line)|none=>none)|none=>none)=some q:=h
 cases h2:lX f with
 |none=>rw[h2] at h;exact nos h
 |some t=>
 rw[h2] at h
 obtain⟨v,m,ap⟩:=t
 replace h:(match uz v with|some (x,_)=>some (x,m,ap.endLine==ps.line)|none=>none)=some q:=h
 cases h3:uz v with
 |none=>rw[h3] at h;exact nos h
 |some t=>
 rw[h3] at h
 obtain⟨x,p⟩:=t
 obtain rfl:=qu h1;obtain rfl:=rH h2;obtain rfl:=rY h3
 refine cS1 h ?_
 exact⟨_,_,_,_,_,rfl,rfl⟩
theorem wQ(hB:B.NoLimit)(T:Tp B mg mb)(D:Snd prog w B mg E (k+1))(R:Rm A (k+1+1))(S:St prog w B ρ C s)(F:Fm B ρ sc env σ s m cm){f:Str}{fp pos:Pos}{args:List Expr}{v:V}(h:tW E sc (.Call (.Name f fp) args [] pos) σ C=some (v,C')):
  wpAny (model prog w) A (eval (.Call (.Name f fp) args [] pos) env) (QV prog w B ρ C s v C') EF s:=by
 replace h:(match aR sc f with
  |some .globalImplicit=>
   match seq f "sorted" with
   |true=>match fX args with
    |some (x,m,b)=>match seq m "items"&&b with
     |true=>bd (lift (eE sc x σ)) λa=>match a with
      |.cell c=>bd (av c) λo=>match o with
       |.dict es=>λC=>if es.length≤3 then match dj C (es.map λ(e:K×V)=>V.tup [e.1.v,e.2]) with
         |some us=>new (.list us) C
         |none=>none
        else none
       |_=>no
      |_=>no
     |false=>no
    |none=>no
   |false=>match ao args with
    |true=>bd (evs (λe=>E.expr sc e σ) args) λvs=>E.call f vs
    |false=>no
  |_=>(no:M V)) C=some (v,C'):=h
 cases hk:aR sc f with
 |none=>rw[hk] at h;exact nos h
 |some kd=>rw[hk] at h;induction kd using PySem.NameKind.casesOn with
  |globalImplicit=>
   cases hsf:seq f "sorted" with
   |true=>
    rw[hsf] at h
    cases hsa:fX args with
    |none=>rw[hsa] at h;exact nos h
    |some q=>
    rw[hsa] at h
    refine BU (pj hsa) λx mn p ap ps zr0 zr1=>?_;subst zr0 zr1
    refine bU h λhm h=>?_
    exact qC hB T R S F hk hsf hm h
   |false=>
    rw[hsf] at h
    exact bU h λhp h=>tN T D R.less S F hk hp h
  |_=>exact nos h
set_option smartUnfolding false in
theorem ur(hB:B.NoLimit)(T:Tp B mg mb)(D:Snd prog w B mg E (k+1))(R:Rm A (k+1+1))(S:St prog w B ρ C s)(F:Fm B ρ sc env σ s m cm){e:Expr}{v:V}(h:tW E sc e σ C=some (v,C')):
  wpAny (model prog w) A (eval e env) (QV prog w B ρ C s v C') EF s:=by
 have R':=R.less
 have hu:A.in1.units<cLine:=by have:=R.un;change A.units+1<_;exact R.lt 1 rfl
 have hu':A.units<cLine:=(R.lt 0 rfl)
 induction e using PySem.Expr.casesOn with
 |Constant c x p=>exact dB h λe2=>tF (x:=none) S e2
 |Name x p=>exact dB h λe2=>jb T S F e2
 |BinOp l op r p=>exact yW hB D R' S F h
 |UnaryOp op x p=>induction op using PySem.UnaryOp.casesOn with
  |USub=>exact yZ D R' S F h
  |_=>exact nos h
 |IfExp t b o p=>exact AJ D R' S F h
 |Compare l ops rs p=>induction ops using List.casesOn with
  |nil=>exact nos h
  |cons op ops=>induction ops using List.casesOn with
   |cons _ _=>exact nos h
   |nil=>cases rs with
    |nil=>exact nos h
    |cons r rs=>cases rs with
     |cons _ _=>exact nos h
     |nil=>exact vH D R' S F h
 |Call f as ks pos=>induction ks using List.casesOn with
  |cons _ _=>exact nos h
  |nil=>induction f using PySem.Expr.casesOn with
   |Attribute v' mn ap=>
    replace h:yO E sc (uz v') mn ap as pos σ C=some (v,C'):=h
    cases hn:uz v' with
    |none=>rw[hn] at h;exact nos h
    |some q=>
     rw[hn] at h
     obtain⟨x,p⟩:=q
     obtain rfl:=rY hn
     exact bU h λhp h=>um t8 T D R' R S F (Bool.and_eq_true_iff.mp hp).1 (Bool.and_eq_true_iff.mp hp).2 h
   |Name f fp=>exact wQ hB T D R S F h
   |_=>exact nos h
 |Subscript v' i pos=>
  cases hs:bf i with
  |false=>
   replace h:vQ E sc v' i σ C=some (v,C'):=h
   unfold vQ at h
   rw[hs] at h
   exact yw D R' hu S F hs h
  |true=>induction i using PySem.Expr.casesOn with
   |Slice lo hi st p2=>induction v' using PySem.Expr.casesOn with
    |Name x xp=>induction st using Option.casesOn with
     |some _=>exact nos h
     |none=>induction lo using Option.casesOn with
      |none=>cases hi with
       |none=>exact nos h
       |some hi=>exact mK hB T D R' S F h
      |some lo=>cases hi with
       |none=>exact jR hB T D R' S F h
       |some _=>exact nos h
    |_=>exact nos h
   |_=>exact cFt hs
 |Tuple es kx pos=>exact bU h λhp h=>yh D R' S F hp h
 |List es pos=>exact bU h λhp h=>vG hB D R' S F hp h
 |Dict ks vs pos=>
  exact bU h λhp h=>iD hB D R' hu' S F (of_decide_eq_true hp) h
 |ListComp elt gs sc' pos=>induction gs using List.casesOn with
  |nil=>exact nos h
  |cons g gs=>
   obtain⟨t,it,ifs,ia⟩:=g
   induction ia using Int.casesOn with
   |negSucc _=>cases gs<;>exact nos h
   |ofNat n=>cases n with
    |succ _=>cases gs<;>exact nos h
    |zero=>induction gs using List.casesOn with
     |cons _ _=>exact nos h
     |nil=>exact th hB T D R' S F h
 |DictComp kk vv gs sc' pos=>induction gs using List.casesOn with
  |nil=>exact nos h
  |cons g gs=>
   obtain⟨t,it,ifs,ia⟩:=g
   induction ia using Int.casesOn with
   |negSucc _=>cases gs<;>exact nos h
   |ofNat n=>cases n with
    |succ _=>cases gs<;>exact nos h
    |zero=>induction gs using List.casesOn with
     |cons _ _=>exact nos h
     |nil=>exact tq hB T D R' hu' S F h
 |_=>exact nos h
end
section
open PySem.SeqAt
set_option smartUnfolding false in
theorem xR(hB:B.NoLimit)(T:Tp B mg mb)(D:Snd prog w B mg E k)(R:Rm A (k+1))(S:St prog w B ρ C s)(F:Fm B ρ sc env σ s m cm){e:Expr}{v:V}{y:Str}{py:Pos}(h:tW E sc e σ C=some (v,C'))(hc:qB e=true)(hy:aM sc y=true):
  wpAny (model prog w) A (evalThenUse e env (assign (.Name y py) env)) (λxx s'=>QF prog w B ρ C s sc env ((y,v)::σ) C' s') EF s:=by
 have R':=R.less
 have hu':A.units<cLine:=(R.lt 0 rfl)
 induction e using PySem.Expr.casesOn with
 |ListComp elt gs sc' pos=>induction gs using List.casesOn with
  |nil=>exact nos h
  |cons g gs=>
   obtain⟨t,it,ifs,ia⟩:=g
   induction ia using Int.casesOn with
   |negSucc _=>cases gs<;>exact nos h
   |ofNat n=>cases n with
    |succ _=>cases gs<;>exact nos h
    |zero=>induction gs using List.casesOn with
     |cons _ _=>exact nos h
     |nil=>exact qX hB T D R' S F hy h
 |DictComp kk vv gs sc' pos=>induction gs using List.casesOn with
  |nil=>exact nos h
  |cons g gs=>
   obtain⟨t,it,ifs,ia⟩:=g
   induction ia using Int.casesOn with
   |negSucc _=>cases gs<;>exact nos h
   |ofNat n=>cases n with
    |succ _=>cases gs<;>exact nos h
    |zero=>induction gs using List.casesOn with
     |cons _ _=>exact nos h
     |nil=>exact qa hB T D R' hu' S F hy h
 |SetComp _ _ _ _=>exact nos h
 |_=>exact cFt hc
theorem uG(hB:B.NoLimit)(hwh:yJ wh)(T:Tp B mg mb)(D:Snd prog w B mg E (k+1)):Snd prog w B mg (next wh E) (k+1+1) where
 expr:=λh xx yy zz ww vv uu R S F=>ur hB T D R S F h
 test:=λh xx yy zz ww vv uu R S F=>tM D R.less S F h
 stmt:=λ{sc st σ C fl σ' C'} h _ _ _ _ _ _ R S F=>B3 (uv hB hwh T D R S F h) (λf s' q=>by
  obtain⟨ρ',m',cm',a,b,c,d⟩:=q
  induction fl using Fl.casesOn with
  |next=>exact⟨d,ρ',m',cm',a,b,c⟩
  |cont=>exact⟨d,ρ',m',cm',a,b,c⟩
  |ret v=>refine oEA d λy h r=>?_;exact⟨y,h,ρ',m',cm',a,b,c,r⟩) λxx yy h=>h
 call:=λh xx yy zz ww vv R S hr hv=>td hB T D R S hr hv h
 use:=λh hc xx yy zz ww vv uu tt ss R S F hy=>xR hB T D R S F h hc hy
 noSet:=λxx yy zz ww vv uu=>rfl
 known:=λh=>mM h
theorem rZ(hB:B.NoLimit)(hwh:yJ wh)(T:Tp B mg mb):∀n,Snd prog w B mg (lev wh n) (n+8)
 |0=>{
  expr:=cNo
  test:=cNo
  stmt:=cNo
  call:=cNo
  use:=cNo
  noSet:=λxx yy zz ww vv uu=>rfl
  known:=cNo }
 |n+1=>by
  have:=uG (k:=n+7) hB hwh T (rZ hB hwh T n)
  exact this
end
end
section
open PySem.SeqAt
noncomputable def zp:Value→Option Addr
 |.ref a=>some a
 |_=>none
noncomputable def Bv:Value→Option String
 |.type t=>some t
 |_=>none
noncomputable def A1:Value→Option Int
 |.int i _=>some i
 |_=>none
noncomputable def BC:Data→Option (Array Value)
 |.seq items _=>some items
 |_=>none
theorem ul{v:Value}{a:Addr}:zp v=some a→v=.ref a:=by
 induction v using Value.casesOn with
 |ref a=>intro h;refine cS1 h ?_;rfl
 |_=>exact λh=>cNo h
theorem vN{v:Value}{t:String}:Bv v=some t→v=.type t:=by
 induction v using Value.casesOn with
 |type a=>intro h;refine cS1 h ?_;rfl
 |_=>exact λh=>cNo h
theorem vK{v:Value}{i:Int}:A1 v=some i→∃t,v=.int i t:=by
 induction v using Value.casesOn with
 |int a t=>intro h;refine cS1 h ?_;exact⟨t,rfl⟩
 |_=>exact λh=>cNo h
theorem xe{d:Data}{items:Array Value}:BC d=some items→∃n,d=.seq items n:=by
 induction d using Data.casesOn with
 |seq a n=>intro h;refine cS1 h ?_;exact⟨n,rfl⟩
 |_=>exact λh=>cNo h
theorem sT{l:List Int}:∀{vs:List Value},vs.map A1=l.map some→IntsAre vs l:=by
 induction l with
 |nil=>intro vs h;cases List.map_eq_nil_iff.mp h;exact .nil
 |cons i l ih=>intro vs h;induction vs using List.casesOn with
  |nil=>exact nomatch h
  |cons v vs=>
   refine oE (vK (List.cons.inj h).1) λt zr0=>?_;show zr0
   exact .cons i t (ih (List.cons.inj h).2)
noncomputable def AI(s:Shared):Bool:=match(s.heap.nsMap mainGlobals "R0").bind zp with
 |some a=>match s.heap.get? a with
  |some o=>match Bv o.cls with
   |some t=>match BC o.data with
    |some items=>(t=="tuple")&&(o.dict.isNone&&(o.slots.isEmpty&&decide (items.toList.map A1=[0,1].map some)))
    |none=>false
   |none=>false
  |none=>false
 |none=>false
def BD(mg:Str→Option Value)(h:Heap):Prop:=Ex2 λa items=>And3 (mg "R0" = some (.ref a)) (exT h a items) (IntsAre items.toList [0,1])
theorem te{α:Type}{o:Option α}{f:α→Bool}{P:Prop}(h:(match o with|some a=>f a|none=>false)=true)(k:∀a,o=some a→f a=true→P):P:=by
 induction o using Option.casesOn with
 |none=>exact cFt h
 |some a=>exact k a rfl h
set_option smartUnfolding false in
theorem Ar{s:Shared}(h:AI s=true):BD (s.heap.nsMap mainGlobals) s.heap:=by
 unfold AI at h
 refine te h λa ha h=>te h λo ho h=>te h λt ht h=>te h λitems hi h=>?_
 refine oEA (Option.bind_eq_some_iff.mp ha) λv hv hr=>?_
 cases ul hr
 refine oE (xe hi) λn hn=>?_
 obtain⟨c,dc,da,sl⟩:=o
 cases vN ht
 subst hn
 rw[Ca,Ca,Ca] at h
 cases eq_of_beq h.1
 cases Option.isNone_iff_eq_none.mp h.2.1
 cases Array.isEmpty_iff.mp h.2.2.1
 exact tD a items hv ⟨n,ho⟩ (sT (of_decide_eq_true h.2.2.2))
def XPm(mg:Str→Option Value)(h:Heap):Prop:=XL xK [] mg h∧BD mg h
noncomputable def Xtm(s:Shared):Bool:=(xlAt xK [] s&&recOk [] s)&&AI s
theorem yr(s:Shared)(h:Xtm s=true):XPm (s.heap.nsMap mainGlobals) s.heap:=by
 unfold Xtm at h
 rw[Ca] at h
 exact⟨xl_of s (Bool.and_eq_true_iff.mp h.1).1,Ar h.2⟩
theorem rR(mg:Str→Option Value)(h h':Heap)(x:XPm mg h)(hk:∀b o,h.get? b=some o→h'.get? b=some o):XPm mg h':=
 ⟨XL.keeps mg h h' x.1 hk,by obtain⟨a,items,h1,⟨n,h2⟩,h3⟩:=x.2;exact tD a items h1 ⟨n,hk _ _ h2⟩ h3⟩
theorem uj{f:Str}:∀{l:List DefRec}{d:DefRec},zX f l=some d→d∈l∧f=d.name:=λ{l}=>by
 induction l with
 |nil=>
  intro _ h
  exact cNo h
 |cons e l ih'=>
  intro d h
  unfold zX at h
  split at h
  ·rename_i hq
   refine cS1 h ?_
   exact⟨B9,by first|exact aQ hq|exact eq_of_seq hq⟩
  ·exact⟨B6 _ (ih' h).1,(ih' h).2⟩
theorem AC{R:WRecords}{w:World}{s₀:Shared}{mg mb:Str→Option Value}{h:Heap}(G:Ground xK [] R XPm w s₀ mg mb h):Tp h mg mb where
 g:=G.T.g
 b:=G.T.b
 nolimit:=G.T.nolimit
 fn:=λf d hf=>by
  refine oA (uj hf) λh1 h2=>?_
  show h2
  refine qV (G.T.fn d h1) λa o pm code doc q1 q2 q3 q4=>?_
  exact⟨a,o,pm,code,doc,q1,q2,q3,q4⟩
 miss:=λf hf=>by
  refine G.T.free f ?_ ?_ ?_ ?_ ?_
  ·revert f;decide +kernel
  ·revert f;decide +kernel
  ·revert f;decide +kernel
  ·revert f;decide +kernel
  ·revert f;decide +kernel
 built:=G.T.builtins
 r0:=G.X.2
def vO:Prop:=∀xs:List Int,xs.length≤63→∃(wh:Wh) (n:Nat) (C':CH),And3 (yJ wh) (n≤500) ((lev wh n).call "law" [.fro xs] []=some (.bool true,C'))
theorem law_top(hP:vO){w:World}{s₁:Shared}{mg mb:Str→Option Value}{fa a:Addr}{vs:List Value}{xs:List Int}{d:DefRec}(T:Tp s₁.heap mg mb)(hl:xs.length≤63)
  (hd:fn? "law" = some d) (hmg:mg "law" = some (.ref fa)) (hg:s₁.gens=#[]) (hL:s₁.heap.IsList a vs.toArray) (hI:IntsAre vs xs)
  {Q:Value→Shared→Prop}{E:Value→Shared→Prop} (hQ:∀s',(∀b o,s₁.heap.get? b=some o→s'.heap.get? b=some o)→s'.os=s₁.os→s'.gens=#[]→Q (.bool true) s') (hE:∀e s',EF e s'→E e s') :
  wpAny (model prog w) callerA (call (.ref fa) [.ref a]) Q E s₁:=by
 refine zK (hP xs hl) λwh n C' hwh hn hrun=>?_
 have D:=rZ (w:=w) T.nolimit hwh T n
 have S:St prog w s₁.heap [] [] s₁:=⟨⟨rfl,List.nodup_nil,λc p a e=>by simp at e⟩,λxx yy e=>e,λa h=>by simp at h,hg⟩
 refine B3 (D.call hrun (A:=callerA) ⟨rfl,?_,?_⟩ S (.cons (.fro hL hI) .nil) (.inl ⟨d,hd,hmg⟩)) (λy s' qq=>qq.un λρ' S' K r=>?_) hE
 ·change 1+claimMargin+(n+8)<recursionLimit;have:1+claimMargin=301:=Nat.one_add _
  have:recursionLimit=1000:=rfl
  lia
 ·change 4+16*(n+8)+64<cLine;have:cLine=9900:=PyProof.Rows.cLine_is
  lia
 ·cases r
  exact hQ s' (λb o e=>K.old b o e (List.not_mem_nil) id) K.os S'.gens
end
set_option maxRecDepth 1000000 in
set_option maxHeartbeats 0 in
theorem left:LeftO PySem.Challenge.pw_nn0271_01 xK [] Xtm (Hook.obs Hook.none) (Hook.val Hook.none) 3212:=by
 intro w
 kernel_rfl!
set_option maxRecDepth 1000000 in
set_option maxHeartbeats 0 in
theorem said:PySem.Challenge.rw_nn0271_01.wellSaid=true:=by
 kernel_rfl!
inductive Run{α:Type}(m:M α)(C:CH)(Q:α→CH→Prop):Prop
 |mk (a:α) (C':CH) (e:m C=some (a,C')) (q:Q a C')
section
variable {α β:Type}{m:M α}{f:α→M β}{C C':CH}{Q:α→CH→Prop}{R:β→CH→Prop}{wh:Wh}{n:Nat}{sc:Scope}{σ σ':Env}
theorem Run.mono{Q':α→CH→Prop}(h:Run m C Q)(k:∀a C',Q a C'→Q' a C'):Run m C Q':=by obtain⟨a,C',e,q⟩:=h;exact⟨a,C',e,k a C' q⟩
theorem au{a:α}(h:Q a C):Run (ok a) C Q:=⟨a,C,rfl,h⟩
theorem ah(h:Run m C λa C'=>Run (f a) C' R):Run (bd m f) C R:=by
 obtain⟨a,C',e,b,C'',e',r⟩:=h
 exact⟨b,C'',by rewrite[bd];show e;exact e',r⟩
theorem ae{m':M α}(e:m' C=m C)(h:Run m C Q):Run m' C Q:=by
 obtain⟨a,C',e',q⟩:=h
 exact⟨a,C',e.trans e',q⟩
theorem bE{b:Bool}{x y:M α}(hb:b=true)(h:Run x C Q):Run (match b with|true=>x|false=>y) C Q:=by show hb;exact h
theorem u9{b:Bool}{x y:M α}(hb:b=true)(h:Run x C Q):Run (match b with|false=>y|true=>x) C Q:=by show hb;exact h
theorem fh{b:Bool}{x y:M α}(hb:b=false)(h:Run x C Q):Run (match b with|true=>y|false=>x) C Q:=by show hb;exact h
theorem oC{f:Str}{x:M α}(hk:(match aR sc f with|some .globalImplicit=>true|_=>false)=true)(h:Run x C Q):Run (match aR sc f with|some .globalImplicit=>x|_=>no) C Q:=by
 cases hq:aR sc f with
 |none=>rw[hq] at hk;exact cFt hk
 |some k=>rw[hq] at hk;induction k using PySem.NameKind.casesOn with
  |globalImplicit=>exact h
  |_=>exact cFt hk
theorem uL{γ:Type}{o:Option γ}{a:γ}{f:γ→M α}(e:o=some a)(h:Run (f a) C Q):Run (match o with|some a=>f a|none=>no) C Q:=by show e;exact h
theorem dH{o:Option α}{a:α}(e:o=some a)(h:Run (f a) C R):Run (bd (lift o) f) C R:=by show e;exact h
theorem qZ{c:Prop}[Decidable c]{x y:M α}(hc:c)(h:Run x C Q):Run (λC=>if c then x C else y C) C Q:=by
 obtain⟨a,C',e,q⟩:=h
 exact⟨a,C',(if_pos hc).trans e,q⟩
theorem nq{a b:Bool}(h:(a&&b)=true):a=true∧b=true:=Bool.and_eq_true_iff.mp h
theorem A9{a:Bool}(h:(!a)=true):a=false:=by induction a using Bool.casesOn with|true=>exact cFt h|false=>rfl
def Has(C:CH)(c:Nat)(o:O):Prop:=∃v,C[c]?=some (o,v)
def az(C C':CH):Prop:=∀(c:Nat) p,C[c]?=some p→C'[c]?=some p
def ak(d:Nat)(C C':CH):Prop:=∀(c:Nat) p,c≠d→C[c]?=some p→C'[c]?=some p
def aE(C:CH)(c:Nat):Prop:=C.length≤c
theorem az.refl(C:CH):az C C:=λxx yy h=>h
theorem az.trans{C C' C'':CH}(h:az C C')(h':az C' C''):az C C'':=λc p e=>h' c p (h c p e)
theorem Has.grow{c:Nat}{o:O}(h:Has C c o)(g:az C C'):Has C' c o:=by refine oE h λv e=>?_;exact⟨v,g c _ e⟩
theorem Has.lt{c:Nat}{o:O}(h:Has C c o):c<C.length:=by refine oE h λv e=>?_;exact(List.getElem?_eq_some_iff.mp e).1
theorem az.len(g:az C C'):C.length≤C'.length:=by
 cases h:C.length with
 |zero=>exact leb rfl
 |succ k=>
  have hk:k<C.length:=Nat.lt_of_succ_le (Cg (Eq.symm h))
  have:=g k _ (List.getElem?_eq_getElem hk)
  have:=(List.getElem?_eq_some_iff.mp this).1
  assumption
theorem az.but{d:Nat}(g:az C C'):ak d C C':=λc p xx e=>g c p e
theorem ak.trans{d:Nat}{C C' C'':CH}(h:ak d C C')(h':ak d C' C''):ak d C C'':=λc p n e=>h' c p n (h c p n e)
theorem ak.refl(d:Nat)(C:CH):ak d C C:=λxx yy zz h=>h
theorem ak.fresh{d:Nat}(g:ak d C C')(f:aE C d):az C C':=λc p e=>by
 refine g c p ?_ e
 have:=(List.getElem?_eq_some_iff.mp e).1
 unfold aE at f;exact Nat.ne_of_lt (B7 this f)
theorem Has.but{c d:Nat}{o:O}(h:Has C c o)(g:ak d C C')(n:c≠d):Has C' c o:=by refine oE h λv e=>?_;exact⟨v,g c _ n e⟩
theorem Has.ne{c d:Nat}{o:O}(h:Has C c o)(f:aE C d):c≠d:=by have:=h.lt;unfold aE at f;exact Nat.ne_of_lt (B7 this f)
theorem aE.grow{c:Nat}(f:aE C' c)(g:az C C'):aE C c:=by have:=g.len;unfold aE at *;exact B4 this f
theorem an{o:O}{Q:V→CH→Prop}(h:∀c C',az C C'→aE C c→Has C' c o→Q (.cell c) C'):Run (new o) C Q:=by
 refine⟨.cell C.length,C++[(o,0)],rfl,h _ _ (λc p e=>?_) (Cj _) ⟨0,?_⟩⟩
 ·show List.getElem?_append_left (List.getElem?_eq_some_iff.mp e).1;exact e
 ·show List.getElem?_append_right (Cj _);simp
theorem ax{c:Nat}{o:O}{Q:O→CH→Prop}(h:Has C c o)(q:Q o C):Run (av c) C Q:=by
 refine oE h λv e=>?_
 exact⟨o,C,by rewrite[av];show e;rfl,q⟩
theorem dx{c:Nat}{o:O}(h:Has C c o):av c C=some (o,C):=by
 refine oE h λv e=>?_
 rewrite[av];show e;rfl
theorem dE{c:Nat}{o o':O}{Q:Unit→CH→Prop}(h:Has C c o)(q:∀C',ak c C C'→Has C' c o'→C'.length=C.length→Q () C'):Run (put c o') C Q:=by
 refine oE h λv e=>?_
 have hl:=(List.getElem?_eq_some_iff.mp e).1
 refine⟨(),C.set c (o',v+1),by rewrite[put];show e;rfl,q _ (λd p n e'=>?_) ⟨v+1,?_⟩ (List.length_set)⟩
 ·show(List.getElem?_set_ne (λx=>n x.symm));exact e'
 ·show List.getElem?_set_self hl;rfl
noncomputable def m0(sc:Scope)(x:Str):Bool:=!eW x&&(match aR sc x with|some .local=>true|some .cell=>true|some .free=>true|_=>false)
theorem ab{x:Str}{v:V}:af x ((x,v)::σ)=some v:=by
 unfold af
 have:seq x x=true:=by
  unfold seq
  generalize x.cps.toList=l
  induction l with
  |nil=>rfl
  |cons a x ih=>change (match Nat.beq a a with|true=>leq x x|false=>false)=true;show(show Nat.beq a a=true from Nat.beq_refl a);exact ih
 show this;rfl
theorem ac{x y:Str}{v:V}{r:Option V}(h:seq x y=false)(h2:af x σ=r):af x ((y,v)::σ)=r:=by
 unfold af
 show h;exact h2
theorem fT{x:Str}{v:V}(h:m0 sc x=true)(h2:af x σ=some v):eE sc x σ=some v:=by
 unfold m0 at h
 rw[Ca] at h
 have h1:eW x=false:=by simpa using h.1
 have h3:=h.2
 unfold eE
 show h1
 cases hk:aR sc x with
 |none=>rw[hk] at h3;exact cFt h3
 |some k=>rw[hk] at h3;cases k<;>first|exact h2|exact cFt h3
variable {p q:Pos}{T:V→CH→Prop}
theorem xB{c:Const}{v:V}(h:mi c=some v){k}(q:T v C):Run ((lev wh (n+1)).expr sc (.Constant c k p) σ) C T:=by
 refine⟨v,C,?_,q⟩
 change lift (mi c) C=_
 show h;rfl
noncomputable def isR0(sc:Scope)(x:Str):Bool:=!eW x&&(match aR sc x with|some .globalImplicit=>true|_=>false)&&seq x "R0"
theorem AV{l r:Expr}{op:Operator}(h:Run ((lev wh n).expr sc l σ) C λa C1=>Run ((lev wh n).expr sc r σ) C1 λb C2=>Run (dh op a b) C2 T):Run ((lev wh (n+1)).expr sc (.BinOp l op r p) σ) C T:=by
 refine ae (show _=(bd ((lev wh n).expr sc l σ) λa=>bd ((lev wh n).expr sc r σ) λb=>dh op a b) C from rfl) ?_
 exact ah (h.mono λa C1 h=>ah h)
theorem AD{x:Expr}(h:Run ((lev wh n).expr sc x σ) C λa C1=>∃i,a=.int i∧T (.int (-i)) C1):Run ((lev wh (n+1)).expr sc (.UnaryOp .USub x p) σ) C T:=by
 refine ae (show _=(bd ((lev wh n).expr sc x σ) λa=>match a with|.int i=>ok (.int (-i))|_=>no) C from rfl) ?_
 exact ah (h.mono λa C1 ⟨i,e,h⟩=>by show e;exact au h)
theorem Bb{t b o:Expr}(h:Run ((lev wh n).test sc t σ) C λc C1=>(c=true→Run ((lev wh n).expr sc b σ) C1 T)∧(c=false→Run ((lev wh n).expr sc o σ) C1 T)):Run ((lev wh (n+1)).expr sc (.IfExp t b o p) σ) C T:=by
 refine ae (show _=(bd ((lev wh n).test sc t σ) λc=>match c with|true=>(lev wh n).expr sc b σ|false=>(lev wh n).expr sc o σ) C from rfl) ?_
 refine ah (h.mono λc C1 h=>?_)
 induction c using Bool.casesOn with
 |true=>exact h.1 rfl
 |false=>exact h.2 rfl
theorem Aq{l r:Expr}{op:CmpOp}(h:Run ((lev wh n).expr sc l σ) C λa C1=>Run ((lev wh n).expr sc r σ) C1 λb C2=>Run (cmp op a b) C2 λt C3=>T (.bool t) C3):Run ((lev wh (n+1)).expr sc (.Compare l [op] [r] p) σ) C T:=by
 refine ae (show _=(bd ((lev wh n).expr sc l σ) λa=>bd ((lev wh n).expr sc r σ) λb=>bd (cmp op a b) λt=>ok (.bool t)) C from rfl) ?_
 exact ah (h.mono λa C1 h=>ah (h.mono λb C2 h=>ah (h.mono λt C3 h=>au h)))
theorem v9{f:Expr→M V}{Q:List V→CH→Prop}(q:Q [] C):Run (evs f []) C Q:=au q
theorem t6{f:Expr→M V}{e:Expr}{r:List Expr}{Q:List V→CH→Prop}(h:Run (f e) C λv C1=>Run (evs f r) C1 λvs C2=>Q (v::vs) C2):Run (evs f (e::r)) C Q:=by
 refine ae (show _=(bd (f e) λv=>bd (evs f r) λvs=>ok (v::vs)) C from rfl) ?_
 exact ah (h.mono λa C1 h=>ah (h.mono λb C2 h=>au h))
noncomputable def lD(sc:Scope)(f:Str)(args:List Expr):Bool:=(match aR sc f with|some .globalImplicit=>true|_=>false)&&!seq f "sorted"&&ao args
set_option smartUnfolding false in
theorem zh{f:Str}{args:List Expr}{pf:Pos}(h0:lD sc f args=true)(h:Run (evs (λe=>(lev wh n).expr sc e σ) args) C λvs C1=>Run ((lev wh n).call f vs) C1 T):
  Run ((lev wh (n+1)).expr sc (.Call (.Name f pf) args [] p) σ) C T:=by
 exact oC (nq (nq h0).1).1 (fh (A9 (nq (nq h0).1).2) (bE (nq h0).2 (ah h)))
set_option smartUnfolding false in
theorem A0{es:List Expr}{k}(h0:ao es=true)(h:Run (evs (λe=>(lev wh n).expr sc e σ) es) C λvs C1=>T (.tup vs) C1):Run ((lev wh (n+1)).expr sc (.Tuple es k p) σ) C T:=by
 exact bE h0 (ah (h.mono λxx yy h=>au h))
set_option smartUnfolding false in
theorem yY{es:List Expr}(h0:ao es=true)(h:Run (evs (λe=>(lev wh n).expr sc e σ) es) C λvs C1=>Run (new (.list vs)) C1 T):Run ((lev wh (n+1)).expr sc (.List es p) σ) C T:=by
 exact bE h0 (ah h)
theorem aO{f:Expr→M V}{Q:List (V×V)→CH→Prop}(q:Q [] C):Run (d0 f [] []) C Q:=au q
theorem cX{f:Expr→M V}{k v:Expr}{ks vs}{Q:List (V×V)→CH→Prop}(h:Run (f k) C λa C1=>Run (f v) C1 λb C2=>Run (d0 f ks vs) C2 λr C3=>Q ((a,b)::r) C3):Run (d0 f (some k::ks) (v::vs)) C Q:=by
 refine ae (show _=(bd (f k) λa=>bd (f v) λb=>bd (d0 f ks vs) λr=>ok ((a,b)::r)) C from rfl) ?_
 exact ah (h.mono λa C1 h=>ah (h.mono λb C2 h=>ah (h.mono λt C3 h=>au h)))
set_option smartUnfolding false in
theorem bW{ks:List (Option Expr)}{vs:List Expr}(h0:decide (ks.length≤8)=true)(h:Run (d0 (λe=>(lev wh n).expr sc e σ) ks vs) C λps C1=>∃es,nG ps []=some es∧Run (new (.dict es)) C1 T):Run ((lev wh (n+1)).expr sc (.Dict ks vs p) σ) C T:=by
 exact bE h0 (ah (h.mono λ_ _ qz=>by refine oEA qz λes e h=>?_;exact dH e h))
noncomputable def sx:Expr→Bool
 |.Slice ..=>false
 |_=>true
set_option smartUnfolding false in
theorem Aw{v i:Expr}(h0:sx i=true)(h:Run ((lev wh n).expr sc v σ) C λa C1=>Run ((lev wh n).expr sc i σ) C1 λb C2=>Run (d8 a b) C2 T):Run ((lev wh (n+1)).expr sc (.Subscript v i p) σ) C T:=by
 exact fh (by cases i<;>first|rfl|exact cFt h0) (ah (h.mono λxx yy h=>ah h))
set_option smartUnfolding false in
theorem zP{x:Str}{lo:Expr}{c:Nat}{pn pp:Pos}(h1:m0 sc x=true)(h2:af x σ=some (.cell c))(h:Run ((lev wh n).expr sc lo σ) C λb C1=>∃m,b=.int m∧∃vs,And4 (Has C1 c (.list vs)) (0≤m) (vs.length≤20000) (Run (new (.list (vs.drop m.toNat))) C1 T)):
  Run ((lev wh (n+1)).expr sc (.Subscript (.Name x pn) (.Slice (some lo) none none pp) p) σ) C T:=by
 change Run (pZ (lev wh n) sc x (some lo) none none σ) C T
 refine dH (fT h1 h2) ?_
 refine ah (h.mono λb C1 ⟨m,e,vs,hh,a1,a2,h⟩=>?_)
 show e
 exact ah (ax hh (qZ (y:=no) ⟨a1,a2⟩ h))
set_option smartUnfolding false in
theorem zc{x:Str}{hi:Expr}{xs:List Int}{pn pp:Pos}(h1:m0 sc x=true)(h2:af x σ=some (.fro xs))(h:Run ((lev wh n).expr sc hi σ) C λb C1=>∃m,And5 (b=.int m) (0≤m) (m≤10000) (xs.length≤10000) (Run (new (.list ((xs.take m.toNat).map .int))) C1 T)):
  Run ((lev wh (n+1)).expr sc (.Subscript (.Name x pn) (.Slice none (some hi) none pp) p) σ) C T:=by
 change Run (pZ (lev wh n) sc x none (some hi) none σ) C T
 refine dH (fT h1 h2) ?_
 refine ah (h.mono λb C1 ⟨m,e,a1,a2,a3,h⟩=>?_)
 show e
 exact qZ (y:=no) ⟨a1,a2,a3⟩ h
noncomputable def yS(sc:Scope)(x:Str)(args:List Expr)(a b:Pos):Bool:=m0 sc x&&(ao args&&(a.endLine==b.line))
noncomputable def O.isL:O→Bool|.list _=>true|.dict _=>false
noncomputable def onO(m:Str)(c:Nat)(vs:List V):O→M V
 |.list us=>mT m c us vs
 |.dict es=>m4 m c es vs
set_option smartUnfolding false in
theorem de{x m:Str}{args:List Expr}{pn pa:Pos}{c:Nat}{o:O}(h0:yS sc x args pa p=true)(h2:af x σ=some (.cell c))(ho:Has C c o)(hm:aH o.isL m=true)
  (h:Run (evs (λe=>(lev wh n).expr sc e σ) args) C λvs C1=>∃o',And3 (Has C1 c o') (o'.isL=o.isL) (Run (onO m c vs o') C1 T)) :
  Run ((lev wh (n+1)).expr sc (.Call (.Attribute (.Name x pn) m pa) args [] p) σ) C T:=by
 refine bE (nq h0).2 (dH (fT (nq h0).1 h2) (ah ⟨o.isL,C,?_,ah (h.mono λvs C1 ⟨o',ho',hk,h⟩=>ah ⟨o'.isL,C1,?_,bE ?_ ?_⟩)⟩))
 ·change bd (av c) _ C=_
  (rewrite[bd];show dx ho);cases o<;>rfl
 ·change bd (av c) _ C1=_
  (rewrite[bd];show dx ho');cases o'<;>rfl
 ·show hm;show hk;show Bool.and_true;exact beq_self_eq_true _
 ·refine ae (m:=bd (av c) λo=>onO m c vs o) ?_ (ah (ax ho' h))
  change bd (av c) _ C1=bd (av c) _ C1
  rewrite[bd];show dx ho';rewrite[bd];show dx ho'
  cases o'<;>rfl
end
section
theorem gW{t:Env→M Bool}{b:Env→M (Fl×Env)}:∀{N:Nat}{σ:Env}{C:CH}{r},whN t b N σ C=some r→∀N',N≤N'→whN t b N' σ C=some r
 |0,σ,C,r,h,N',_=>by exact cNo h
 |N+1,σ,C,r,h,0,l=>by trivial
 |N+1,σ,C,r,h,N'+1,l=>by
  unfold whN at h ⊢
  unfold bd at h ⊢
  cases ht:t σ C with
  |none=>rw[ht] at h;exact cNo h
  |some p=>
   obtain⟨c,C1⟩:=p
   rw[ht] at h
   induction c using Bool.casesOn with
   |false=>exact h
   |true=>
    simp only at h ⊢
    cases hb:b σ C1 with
    |none=>rw[hb] at h;exact cNo h
    |some p=>
     obtain⟨⟨fl,σ'⟩,C2⟩:=p
     rw[hb] at h
     induction fl using Fl.casesOn with
     |ret x=>exact h
     |next=>exact gW (N:=N) h N' ((Nat.le_of_succ_le_succ l))
     |cont=>exact gW (N:=N) h N' ((Nat.le_of_succ_le_succ l))
theorem wm{t:Env→M Bool}{b:Env→M (Fl×Env)}{N N':Nat}{σ:Env}{C:CH}{r r'}(h:whN t b N σ C=some r)(h':whN t b N' σ C=some r'):r=r':=by
 have a:=gW h (max N N') (Nat.le_max_left _ _)
 have b:=gW h' (max N N') (Nat.le_max_right _ _)
 rw[a] at b;refine cS1 b ?_;rfl
open Classical in
noncomputable def whC:Wh:=λt b σ C=>if h:∃r,∃N,whN t b N σ C=some r then some (choose h) else none
theorem zM:yJ whC:=by
 intro t b σ C r h
 unfold whC at h
 split at h
 ·rename_i hx
  refine cS1 h ?_
  exact Classical.choose_spec hx
 ·exact cNo h
theorem xU{t:Env→M Bool}{b:Env→M (Fl×Env)}{N:Nat}{σ:Env}{C:CH}{r}(h:whN t b N σ C=some r):whC t b σ C=some r:=by
 have hx:∃r,∃N,whN t b N σ C=some r:=⟨r,N,h⟩
 unfold whC
 show dif_pos hx
 refine oE (Classical.choose_spec hx) λN' h'=>?_
 show wm h' h;rfl
abbrev FlQ(Q:Fl×Env→CH→Prop)(I:Env→CH→Prop):Fl×Env→CH→Prop:=λp C=>match p with
 |(.ret x,σ)=>Q (.ret x,σ) C
 |(_,σ)=>I σ C
theorem ym{t:Env→M Bool}{b:Env→M (Fl×Env)}{Q:Fl×Env→CH→Prop}(I:Nat→Env→CH→Prop)
  (step:∀k σ C,I k σ C→Run (t σ) C λc C1=>(c=false→Q (.next,σ) C1)∧(c=true→Run (b σ) C1 (FlQ Q λσ C2=>∃k',k'<k∧I k' σ C2))) (k:Nat) (σ:Env) (C:CH) (h:I k σ C):Run (whC t b σ) C Q:=by
 suffices ∀k σ C,I k σ C→∃N,Run (whN t b N σ) C Q by
  obtain⟨N,r,C',e,q⟩:=this k σ C h
  exact⟨r,C',xU e,q⟩
 clear h
 intro k
 induction k using Nat.strongRecOn with
 |_ k ih=>
  intro σ C h
  obtain⟨c,C1,e,h1,h2⟩:=step k σ C h
  induction c using Bool.casesOn with
  |false=>exact⟨1,(.next,σ),C1,by unfold whN bd;show e;rfl,h1 rfl⟩
  |true=>
   obtain⟨⟨fl,σ'⟩,C2,e2,q⟩:=h2 rfl
   induction fl using Fl.casesOn with
   |ret x=>exact⟨1,(.ret x,σ'),C2,by unfold whN bd;show e;simp only[e2];rfl,q⟩
   |next=>
    refine oEA q λk' l q=>?_
    obtain⟨N,r,C3,e3,q⟩:=ih k' l _ _ q
    exact⟨N+1,r,C3,by unfold whN bd;show e;simp only[e2];exact e3,q⟩
   |cont=>
    refine oEA q λk' l q=>?_
    obtain⟨N,r,C3,e3,q⟩:=ih k' l _ _ q
    exact⟨N+1,r,C3,by unfold whN bd;show e;simp only[e2];exact e3,q⟩
section
variable {α β:Type}{m:M α}{f:α→M β}{C C':CH}{wh:Wh}{n:Nat}{sc:Scope}{σ σ':Env}{p q:Pos}{T:Bool→CH→Prop}{S:Fl×Env→CH→Prop}
theorem AM{x:Expr}(h:Run ((lev wh n).test sc x σ) C λb C1=>T (!b) C1):Run ((lev wh (n+1)).test sc (.UnaryOp .Not x p) σ) C T:=by
 refine ae (show _=(bd ((lev wh n).test sc x σ) λb=>ok (!b)) C from rfl) ?_
 exact ah (h.mono λb C1 h=>au h)
theorem yf{op:BoolOp}{es:List Expr}(h:Run (pJ op (λe=>(lev wh n).test sc e σ) es) C T):Run ((lev wh (n+1)).test sc (.BoolOp op es p) σ) C T:=h
theorem tm{op:BoolOp}{f:Expr→M Bool}(h:T (op==.And) C):Run (pJ op f []) C T:=au h
theorem tS{f:Expr→M Bool}{e:Expr}{r:List Expr}(h:Run (f e) C λb C1=>(b=false→T false C1)∧(b=true→Run (pJ .And f r) C1 T)):Run (pJ .And f (e::r)) C T:=by
 refine ae (show _=(bd (f e) λb=>match(BoolOp.And),b with|.And,false=>ok false|.Or,true=>ok true|_,_=>pJ .And f r) C from rfl) ?_
 refine ah (h.mono λb C1 h=>?_)
 induction b using Bool.casesOn with
 |false=>exact au (h.1 rfl)
 |true=>exact h.2 rfl
theorem wx{f:Expr→M Bool}{e:Expr}{r:List Expr}(h:Run (f e) C λb C1=>(b=true→T true C1)∧(b=false→Run (pJ .Or f r) C1 T)):Run (pJ .Or f (e::r)) C T:=by
 refine ae (show _=(bd (f e) λb=>match(BoolOp.Or),b with|.And,false=>ok false|.Or,true=>ok true|_,_=>pJ .Or f r) C from rfl) ?_
 refine ah (h.mono λb C1 h=>?_)
 induction b using Bool.casesOn with
 |true=>exact au (h.1 rfl)
 |false=>exact h.2 rfl
theorem AO{l r:Expr}{op:CmpOp}(h:Run ((lev wh n).expr sc l σ) C λa C1=>Run ((lev wh n).expr sc r σ) C1 λb C2=>Run (cmp op a b) C2 T):Run ((lev wh (n+1)).test sc (.Compare l [op] [r] p) σ) C T:=by
 refine ae (show _=(bd ((lev wh n).expr sc l σ) λa=>bd ((lev wh n).expr sc r σ) λb=>cmp op a b) C from rfl) ?_
 exact ah (h.mono λa C1 h=>ah h)
theorem xO{g:Expr}{args}{ks}(h:Run ((lev wh n).expr sc (.Call g args ks p) σ) C λv C1=>∃b,v=.bool b∧T b C1):Run ((lev wh (n+1)).test sc (.Call g args ks p) σ) C T:=by
 refine ae (show _=(bd ((lev wh n).expr sc (.Call g args ks p) σ) λv=>match v with|.bool b=>ok b|_=>no) C from rfl) ?_
 exact ah (h.mono λv C1 ⟨b,e,h⟩=>by show e;exact au h)
theorem A6{e:Expr}(h:Run ((lev wh n).expr sc e σ) C λv C1=>S (.ret v,σ) C1):Run ((lev wh (n+1)).stmt sc (.Return (some e) p) σ) C S:=by
 refine ae (show _=(bd ((lev wh n).expr sc e σ) λv=>ok (.ret v,σ)) C from rfl) ?_
 exact ah (h.mono λv C1 h=>au h)
theorem zS(h:S (.cont,σ) C):Run ((lev wh (n+1)).stmt sc (.Continue p) σ) C S:=au h
theorem zk{g:Expr}{args}{ks}(h:Run ((lev wh n).expr sc (.Call g args ks p) σ) C λv C1=>S (.next,σ) C1):Run ((lev wh (n+1)).stmt sc (.Expr (.Call g args ks p) q) σ) C S:=by
 refine ae (show _=(bd ((lev wh n).expr sc (.Call g args ks p) σ) λxx=>ok (.next,σ)) C from rfl) ?_
 exact ah (h.mono λv C1 h=>au h)
noncomputable def pU:Expr→Bool|.Subscript ..=>false|_=>true
set_option smartUnfolding false in
theorem tC{t v:Expr}(h0:(pU t&&(aq sc t&&ic v))=true)(h:Run ((lev wh n).expr sc v σ) C λx C1=>∃σ',target t x σ=some σ'∧S (.next,σ') C1):Run ((lev wh (n+1)).stmt sc (.Assign [t] v p) σ) C S:=by
 have h1:Run (bd ((lev wh n).expr sc v σ) λx=>bd (lift (target t x σ)) λσ'=>ok (.next,σ')) C S:=ah (h.mono λv C1 qz=>by refine oEA qz λσ' e h=>?_;exact dH e (au h))
 induction t using PySem.Expr.casesOn with
 |Subscript _ _ _=>exact nomatch (nq h0).1
 |_=>exact bE (nq h0).2 h1
set_option smartUnfolding false in
theorem m5{o i v:Expr}{ps:Pos}(h0:bf i=false)(h:Run ((lev wh n).expr sc v σ) C λx C1=>Run ((lev wh n).expr sc o σ) C1 λa C2=>Run ((lev wh n).expr sc i σ) C2 λb C3=>Run (iM a b x) C3 λxx C4=>S (.next,σ) C4):
  Run ((lev wh (n+1)).stmt sc (.Assign [.Subscript o i ps] v p) σ) C S:=by
 exact fh h0 (ah (h.mono λxx yy h=>ah (h.mono λxx yy h=>ah (h.mono λxx yy h=>ah (h.mono λxx yy h=>au h)))))
set_option smartUnfolding false in
theorem rO{x:Str}{v:Expr}{pn:Pos}{m:Int}(h0:aM sc x=true)(h1:af x σ=some (.int m))(h:Run ((lev wh n).expr sc v σ) C λb C1=>∃k,b=.int k∧S (.next,(x,.int (m+k))::σ) C1):
  Run ((lev wh (n+1)).stmt sc (.AugAssign (.Name x pn) .Add v p) σ) C S:=by
 refine bE h0 (dH h1 ?_)
 exact ah (h.mono λb C1 ⟨k,e,h⟩=>by show e;exact au h)
set_option smartUnfolding false in
theorem sW{o i v:Expr}{ps:Pos}(h0:bf i=false)(h:Run ((lev wh n).expr sc o σ) C λa C1=>Run ((lev wh n).expr sc i σ) C1 λb C2=>Run (d8 a b) C2 λu C3=>Run ((lev wh n).expr sc v σ) C3 λw C4=>Ex2 λm k=>And3 (u=.int m) (w=.int k) (Run (iM a b (.int (m+k))) C4 λxx C5=>S (.next,σ) C5)):
  Run ((lev wh (n+1)).stmt sc (.AugAssign (.Subscript o i ps) .Add v p) σ) C S:=by
 exact fh h0 (ah (h.mono λxx yy h=>ah (h.mono λxx yy h=>ah (h.mono λxx yy h=>ah (h.mono λu C4 ⟨m,k,e1,e2,h'⟩=>by show e1;show e2;exact ah (h'.mono λxx yy h=>au h))))))
theorem BG{t:Expr}{b o:List Stmt}(h:Run ((lev wh n).test sc t σ) C λc C1=>(c=true→Run (execs ((lev wh n).stmt sc) b σ) C1 S)∧(c=false→Run (execs ((lev wh n).stmt sc) o σ) C1 S)):Run ((lev wh (n+1)).stmt sc (.If t b o p) σ) C S:=by
 refine ae (show _=(bd ((lev wh n).test sc t σ) λc=>match c with|true=>execs ((lev wh n).stmt sc) b σ|false=>execs ((lev wh n).stmt sc) o σ) C from rfl) ?_
 refine ah (h.mono λc C1 h=>?_)
 induction c using Bool.casesOn with
 |true=>exact h.1 rfl
 |false=>exact h.2 rfl
theorem wz{t:Expr}{b:List Stmt}(h:Run (wh (λσ'=>(lev wh n).test sc t σ') (λσ'=>execs ((lev wh n).stmt sc) b σ') σ) C S):Run ((lev wh (n+1)).stmt sc (.While t b [] p) σ) C S:=h
theorem q7{g:Stmt→Env→M (Fl×Env)}(h:S (.next,σ) C):Run (execs g [] σ) C S:=au h
theorem oM{g:Stmt→Env→M (Fl×Env)}{s:Stmt}{r:List Stmt}(h:Run (g s σ) C λp C1=>match p with
  |(.next,σ')=>Run (execs g r σ') C1 S
  |(.cont,σ')=>S (.cont,σ') C1
  |(.ret v,σ')=>S (.ret v,σ') C1):Run (execs g (s::r) σ) C S:=by
 refine ae (show _=(bd (g s σ) λp=>match p with|(.next,σ')=>execs g r σ'|p=>ok p) C from rfl) ?_
 refine ah (h.mono λp C1 h=>?_)
 obtain⟨fl,σ'⟩:=p
 induction fl using Fl.casesOn with
 |next=>exact h
 |cont=>exact au h
 |ret v=>exact au h
theorem AR{f:Str}{args:List V}{d:DefRec}{Q:V→CH→Prop}(hd:fn? f=some d)(ho:sN d=true)(hb:aW (d.params.args.map (·.arg)) args []=some σ)
  (h:Run (execs ((lev wh n).stmt d.scope) d.body σ) C λp C1=>match p with|(.ret v,_)=>Q v C1|(.next,_)=>Q .nn C1|(.cont,_)=>False):Run ((lev wh (n+1)).call f args) C Q:=by
 refine ae (m:=bd (execs ((lev wh n).stmt d.scope) d.body σ) λp=>match p.1 with
    |.ret v=>ok v
    |.next=>ok .nn
    |.cont=>no) ?_ (ah (h.mono λp C1 h=>?_))
 ·change kf (lev wh n) f args C=_
  unfold kf
  simp only[hd,ho,hb]
  all_goals rfl
 ·obtain⟨fl,σ'⟩:=p
  induction fl using Fl.casesOn with
  |next=>exact au h
  |cont=>cases h
  |ret v=>exact au h
theorem cI{f:Str}{args:List V}{Q:V→CH→Prop}(hd:fn? f=none)(h:Run (builtin f args) C Q):Run ((lev wh (n+1)).call f args) C Q:=by
 refine ae ?_ h
 change kf (lev wh n) f args C=_
 unfold kf
 show hd;rfl
end
end
section
variable {α β:Type}{m:M α}{f:α→M β}{C C':CH}{wh:Wh}{n:Nat}{sc sc':Scope}{σ σ':Env}{p q:Pos}{T:Bool→CH→Prop}{S:Fl×Env→CH→Prop}{Q:V→CH→Prop}
noncomputable def qO:Expr→Bool
 |.Name ..=>true
 |.Subscript ..=>true
 |_=>false
theorem aK{tp:Bool}{g:Expr→M V}{e:Expr}{P:List V×Option Nat→CH→Prop}(h0:qO e=true)(h:Run (g e) C λv C1=>Run (eJ v) C1 P):Run (iter tp g sc e) C P:=by
 refine ae (m:=bd (g e) eJ) ?_ (ah h)
 cases e<;>first|exact cFt h0;done|rfl
theorem zE{vs:List V}{P:List V×Option Nat→CH→Prop}(h:P (vs,none) C):Run (eJ (.tup vs)) C P:=au h
theorem cE{c:Nat}{vs:List V}{P:List V×Option Nat→CH→Prop}(hc:Has C c (.list vs))(h:P (vs,some c) C):Run (eJ (.cell c)) C P:=by
 refine⟨(vs,some c),C,?_,h⟩
 change bd (bd (av c) _) _ C=_
 rewrite[bd];rewrite[bd];show dx hc;rfl
theorem bG{c:Nat}{es:List (K×V)}{P:List V×Option Nat→CH→Prop}(hc:Has C c (.dict es))(h:P (es.map (λe=>e.1.v),some c) C):Run (eJ (.cell c)) C P:=by
 refine⟨(es.map (λe=>e.1.v),some c),C,?_,h⟩
 change bd (bd (av c) _) _ C=_
 rewrite[bd];rewrite[bd];show dx hc;rfl
noncomputable def Bu(sc:Scope)(x:Str)(args:List Expr):Bool:=(match aR sc x with|some .globalImplicit=>true|_=>false)&&ao args
theorem aZ{tp:Bool}{g:Expr→M V}{x:Str}{px:Pos}{args:List Expr}{P:List V×Option Nat→CH→Prop}(h0:Bu sc x args=true)(h:Run (eG tp g (.Call (.Name x px) args [] q) x args) C P):Run (iter tp g sc (.Call (.Name x px) args [] q)) C P:=by
 unfold Bu at h0
 rw[Ca] at h0
 have h3:=h0.1
 have hk:aR sc x=some .globalImplicit:=by
  cases hk:aR sc x with
  |none=>rw[hk] at h3;exact cFt h3
  |some k=>rw[hk] at h3;cases k<;>first|rfl|exact cFt h3
 refine ae ?_ h
 unfold iter
 simp only[hk,h0.2]
theorem fm{tp:Bool}{g:Expr→M V}{x:Str}{e a:Expr}{P:List V×Option Nat→CH→Prop}(h0:seq x "range" = true)(h:Run (g a) C λv C1=>∃k,And3 (v=.int k) (jp k=true) (P (range 0 k,none) C1)):Run (eG tp g e x [a]) C P:=by
 unfold eG
 show if_pos h0
 refine ae (show _=(bd (g a) λv=>match v with
  |.int n=>match jp n with|true=>ok (range 0 n,none)|false=>no
  |_=>no) C from rfl) ?_
 exact ah (h.mono λv C1 ⟨k,e,hn,h⟩=>by show e;simp only[hn];exact au h)
theorem sn{tp:Bool}{g:Expr→M V}{x:Str}{e a b:Expr}{P:List V×Option Nat→CH→Prop}(h0:seq x "range" = true)(h:Run (g a) C λu C1=>Run (g b) C1 λv C2=>Ex2 λj k=>And4 (u=.int j) (v=.int k) ((jp j&&jp k)=true) (P (range j k,none) C2)):Run (eG tp g e x [a,b]) C P:=by
 unfold eG
 show if_pos h0
 refine ae (show _=(bd (g a) λu=>bd (g b) λv=>match u,v with
  |.int m,.int n=>match jp m&&jp n with|true=>ok (range m n,none)|false=>no
  |_,_=>no) C from rfl) ?_
 exact ah (h.mono λu C1 h=>ah (h.mono λv C2 ⟨j,k,e1,e2,hn,h'⟩=>by show e1;show e2;simp only[hn];exact au h'))
theorem cK{tp:Bool}{g:Expr→M V}{x:Str}{e a:Expr}{P:List V×Option Nat→CH→Prop}(h0:(!seq x "range"&&seq x "enumerate")=true)(htp:tp=true)(h:Run (g a) C λv C1=>(∃vs,v=.tup vs∧P (eh 0 vs,none) C1)∨(Ex2 λc vs=>And3 (v=.cell c) (Has C1 c (.list vs)) (P (eh 0 vs,some c) C1))):Run (eG tp g e x [a]) C P:=by
 show htp
 rw[Ca] at h0
 unfold eG
 show(if_neg (by simpa using h0.1));show if_pos h0.2
 refine ae (show _=(bd (g a) λv=>match v with
  |.tup vs=>ok (eh 0 vs,none)
  |.cell c=>bd (av c) λo=>match o with
   |.list vs=>ok (eh 0 vs,some c)
   |_=>no
  |_=>no) C from rfl) ?_
 refine ah (h.mono λv C1 h=>?_)
 rcases h with⟨vs,e,h⟩|⟨c,vs,e,hc,h⟩
 ·show e;exact au h
 ·show e;exact ah (ax hc (au h))
theorem xS{tp:Bool}{g:Expr→M V}{x:Str}{e a:Expr}{P:List V×Option Nat→CH→Prop}(h0:(!seq x "range"&&!seq x "enumerate"&&seq x "reversed")=true)(h:Run (g a) C λv C1=>(Ex2 λc vs=>And3 (v=.cell c) (Has C1 c (.list vs)) (P (vs.reverse,some c) C1))):Run (eG tp g e x [a]) C P:=by
 rw[Ca,Ca] at h0
 unfold eG
 show(if_neg (by simpa using h0.1.1));show(if_neg (by simpa using h0.1.2));show if_pos h0.2
 refine ae (show _=(bd (g a) λv=>match v with
  |.cell c=>bd (av c) λo=>match o with
   |.list vs=>ok (vs.reverse,some c)
   |_=>no
  |_=>no) C from rfl) ?_
 refine ah (h.mono λv C1 ⟨c,vs,e,hc,h⟩=>?_)
 show e;exact ah (ax hc (au h))
theorem vm{tp:Bool}{g:Expr→M V}{x:Str}{e:Expr}{args:List Expr}{P:List V×Option Nat→CH→Prop}(h0:(!seq x "range"&&!seq x "enumerate"&&!seq x "reversed")=true)(h:Run (g e) C λv C1=>Run (eJ v) C1 P):Run (eG tp g e x args) C P:=by
 rw[Ca,Ca] at h0
 unfold eG
 show(if_neg (by simpa using h0.1.1));show(if_neg (by simpa using h0.1.2));show(if_neg (by simpa using h0.2))
 exact ah h
def gN(s:Option Nat)(C:CH):Prop:=∀c,s=some c→∃o,Has C c o
def ch(s:Option Nat)(C C':CH):Prop:=∀c,s=some c→C'[c]?=C[c]?
theorem gN.none:gN none C:=λc e=>by exact cNo e
theorem gN.has{c:Nat}{o:O}(h:Has C c o):gN (some c) C:=λd e=>by refine cS1 e ?_;exact⟨o,h⟩
theorem ch.none:ch none C C':=λc e=>by exact cNo e
theorem ch.grow{s:Option Nat}(g:az C C')(h:gN s C):ch s C C':=λc e=>by
 refine oEE (h c e) λo v e'=>?_
 show e';show g c _ e';rfl
theorem ch.but{s:Option Nat}{d:Nat}(g:ak d C C')(h:gN s C)(n:s≠some d):ch s C C':=λc e=>by
 refine oEE (h c e) λo v e'=>?_
 show e';show(g c _ (λx=>n (by show e;show x;rfl)) e');rfl
theorem kr{s:Option Nat}{P:Option (Nat×Nat)→CH→Prop}(hs:gN s C)(h:∀src,(∀C',ch s C C'→bh src C'=some ((),C'))→P src C):Run (jc s) C P:=by
 induction s using Option.casesOn with
 |none=>exact⟨none,C,rfl,h none λC' xx=>rfl⟩
 |some c=>
  refine oEE (hs c rfl) λo v e=>?_
  refine⟨some (c,v),C,by unfold jc;simp only[e],h _ λC' st=>?_⟩
  have:=st c rfl
  unfold bh
  simp only[this,e,if_true]
theorem j4{src:Option (Nat×Nat)}{tgt:V→Env→Option Env}{body:Env→M (Fl×Env)}(I:List V→Env→CH→Prop)
  (hst:∀vs σ C,I vs σ C→bh src C=some ((),C))
  (step:∀v r σ C,I (v::r) σ C→∃σ',tgt v σ=some σ'∧Run (body σ') C (FlQ S λσ'' C2=>I r σ'' C2))
  (done:∀σ C,I [] σ C→S (.next,σ) C):∀vs σ C,I vs σ C→Run (sO src tgt body vs σ) C S
 |[],σ,C,h=>by
  refine ae (show _=(bd (bh src) λxx=>ok (.next,σ)) C from rfl) ?_
  exact ah ⟨(),C,hst _ _ _ h,au (done _ _ h)⟩
 |v::r,σ,C,h=>by
  refine ae (show _=(bd (bh src) λxx=>bd (lift (tgt v σ)) λσ'=>bd (body σ') λp=>match p with
   |(.ret x,σ'')=>ok (.ret x,σ'')
   |(_,σ'')=>sO src tgt body r σ'') C from rfl) ?_
  refine oEA (step v r σ C h) λσ' e h'=>?_
  refine ah ⟨(),C,hst _ _ _ h,ah ⟨σ',C,by show e;rfl,ah (h'.mono λp C2 q=>?_)⟩⟩
  obtain⟨fl,σ''⟩:=p
  induction fl using Fl.casesOn with
  |ret x=>exact au q
  |next=>exact j4 I hst step done r σ'' C2 q
  |cont=>exact j4 I hst step done r σ'' C2 q
set_option smartUnfolding false in
theorem Ao{t it:Expr}{b:List Stmt}(h0:aq sc t=true)
  (h:Run (iter (isTup t) (λe=>(lev wh n).expr sc e σ) sc it) C λx C1=>gN x.2 C1∧∃I:List V→Env→CH→Prop,And4 (I x.1 σ C1) (∀vs σ C',I vs σ C'→ch x.2 C1 C') (∀v r σ C,I (v::r) σ C→∃σ',target t v σ=some σ'∧Run (execs ((lev wh n).stmt sc) b σ') C (FlQ S λσ'' C2=>I r σ'' C2)) (∀σ C,I [] σ C→S (.next,σ) C)) :
  Run ((lev wh (n+1)).stmt sc (.For t it b [] p) σ) C S:=by
 exact bE h0 (ah (h.mono λx C1 qz=>by refine uH qz λhs I h1 h2 h3 h4=>?_;exact ah (kr hs λsrc hst=>j4 I (λvs σ C' hI=>hst C' (h2 vs σ C' hI)) h3 h4 _ _ _ h1)))
theorem fo{γ:Type}{src:Option (Nat×Nat)}{tgt:V→Env→Option Env}{test:Env→M Bool}{elt:γ→Env→M γ}{P:γ→CH→Prop}(I:List V→Env→γ→CH→Prop)
  (hst:∀vs σ a C,I vs σ a C→bh src C=some ((),C))
  (step:∀v r σ a C,I (v::r) σ a C→∃σ',tgt v σ=some σ'∧Run (test σ') C λt C1=>(t=true→Run (elt a σ') C1 λa' C2=>I r σ' a' C2)∧(t=false→I r σ' a C1))
  (done:∀σ a C,I [] σ a C→P a C):∀vs σ a C,I vs σ a C→Run (dw src tgt test elt vs σ a) C P
 |[],σ,a,C,h=>by
  refine ae (show _=(bd (bh src) λxx=>ok a) C from rfl) ?_
  exact ah ⟨(),C,hst _ _ _ _ h,au (done _ _ _ h)⟩
 |v::r,σ,a,C,h=>by
  refine ae (show _=(bd (bh src) λxx=>bd (lift (tgt v σ)) λσ'=>bd (test σ') λt=>match t with
   |true=>bd (elt a σ') λa'=>dw src tgt test elt r σ' a'
   |false=>dw src tgt test elt r σ' a) C from rfl) ?_
  refine oEA (step v r σ a C h) λσ' e h'=>?_
  refine ah ⟨(),C,hst _ _ _ _ h,ah ⟨σ',C,by show e;rfl,ah (h'.mono λt C1 q=>?_)⟩⟩
  induction t using Bool.casesOn with
  |true=>exact ah ((q.1 rfl).mono λa' C2 q=>fo I hst step done r σ' a' C2 q)
  |false=>exact fo I hst step done r σ' a C1 (q.2 rfl)
theorem bg{g:Expr→M Bool}(h:T true C):Run (iH g []) C T:=au h
theorem jO{g:Expr→M Bool}{e:Expr}{r:List Expr}(h:Run (g e) C λb C1=>(b=true→Run (iH g r) C1 T)∧(b=false→T false C1)):Run (iH g (e::r)) C T:=by
 refine ae (show _=(bd (g e) λb=>match b with|true=>iH g r|false=>ok false) C from rfl) ?_
 refine ah (h.mono λb C1 q=>?_)
 induction b using Bool.casesOn with
 |true=>exact q.1 rfl
 |false=>exact au (q.2 rfl)
set_option smartUnfolding false in
theorem jY{elt t it:Expr}{ifs:List Expr}(h0:(bV sc sc'&&aq sc' t)=true)
  (h:Run (iter (isTup t) (λe=>(lev wh n).expr sc e σ) sc it) C λx C1=>gN x.2 C1∧∃I:List V→Env→List V→CH→Prop,And4 (I x.1 (bk sc' σ) [] C1) (∀vs σ a C',I vs σ a C'→ch x.2 C1 C') (∀v r σ a C,I (v::r) σ a C→∃σ',target t v σ=some σ'∧Run (iH (λe=>(lev wh n).test sc' e σ') ifs) C λb C1=>(b=true→a.length≤10000∧Run ((lev wh n).expr sc' elt σ') C1 λv C2=>I r σ' (a++[v]) C2)∧(b=false→I r σ' a C1)) (∀σ a C,I [] σ a C→Run (new (.list a)) C Q)) :
  Run ((lev wh (n+1)).expr sc (.ListComp elt [⟨t,it,ifs,0⟩] sc' p) σ) C Q:=by
 refine u9 h0 (ah (h.mono λx C1 q=>?_))
 refine uH q λhs I h1 h2 h3 h4=>?_
 refine ah (kr hs λsrc hst=>ah (fo I (λvs σ a C' hI=>hst C' (h2 vs σ a C' hI)) (λv r σ a C hI=>?_) h4 _ _ _ _ h1))
 refine oEA (h3 v r σ a C hI) λσ' e h'=>?_
 refine iEA σ' e (h'.mono λb C1 q=>⟨λhb=>ah ((q.1 hb).2.mono λv C2 q'=>⟨a++[v],C2,if_pos (q.1 hb).1,q'⟩),q.2⟩)
set_option smartUnfolding false in
theorem sv{ke ve t it:Expr}{ifs:List Expr}(h0:(bV sc sc'&&aq sc' t)=true)
  (h:Run (iter (isTup t) (λe=>(lev wh n).expr sc e σ) sc it) C λx C1=>gN x.2 C1∧∃I:List V→Env→List (K×V)→CH→Prop,And4 (I x.1 (bk sc' σ) [] C1) (∀vs σ a C',I vs σ a C'→ch x.2 C1 C') (∀v r σ a C,I (v::r) σ a C→∃σ',target t v σ=some σ'∧Run (iH (λe=>(lev wh n).test sc' e σ') ifs) C λb C1=>(b=true→Run ((lev wh n).expr sc' ke σ') C1 λkv C2=>Run ((lev wh n).expr sc' ve σ') C2 λvv C3=>∃j,And4 (kv.key=some j) (am j a=true) (a.length≤10000) (I r σ' (st j vv a) C3))∧(b=false→I r σ' a C1)) (∀σ a C,I [] σ a C→Run (new (.dict a)) C Q)) :
  Run ((lev wh (n+1)).expr sc (.DictComp ke ve [⟨t,it,ifs,0⟩] sc' p) σ) C Q:=by
 refine u9 h0 (ah (h.mono λx C1 q=>?_))
 refine uH q λhs I h1 h2 h3 h4=>?_
 refine ah (kr hs λsrc hst=>ah (fo I (λvs σ a C' hI=>hst C' (h2 vs σ a C' hI)) (λv r σ a C hI=>?_) h4 _ _ _ _ h1))
 refine oEA (h3 v r σ a C hI) λσ' e h'=>?_
 refine iEA σ' e (h'.mono λb C1 q=>⟨λhb=>ah ((q.1 hb).mono λkv C2 q'=>ah (q'.mono λvv C3 q3=>?_)),q.2⟩)
 refine kQ q3 λj e1 e2 e3 q3=>?_
 show e1
 exact⟨st j vv a,C3,if_pos ⟨e2,e3⟩,q3⟩
end
section
variable {C C':CH}{Q:V→CH→Prop}{T:Bool→CH→Prop}{U:Unit→CH→Prop}
theorem Ba{x y:Int}(q:Q (.int (x+y)) C):Run (dh .Add (.int x) (.int y)) C Q:=au q
theorem AB{x y:Int}(q:Q (.int (x-y)) C):Run (dh .Sub (.int x) (.int y)) C Q:=au q
theorem cJ{x y:Int}(h:fit x=true)(h':fit y=true)(q:Q (.int (x*y)) C):Run (dh .Mult (.int x) (.int y)) C Q:=
 ⟨_,C,by change (if _ then _ else _)=_;show h;show h';rfl,q⟩
theorem hY{x y:Int}(h:y≠0)(h':fit y=true)(q:Q (.int (x.fdiv y)) C):Run (dh .FloorDiv (.int x) (.int y)) C Q:=
 ⟨_,C,by change (if _ then _ else _)=_;show if_pos ⟨h,h'⟩;rfl,q⟩
theorem nr{x y:Int}(h:y≠0)(q:Q (.int (x.fmod y)) C):Run (dh .Mod (.int x) (.int y)) C Q:=
 ⟨_,C,by change (if _ then _ else _)=_;show if_neg h;rfl,q⟩
theorem AU{x y:Int}(h:And3 (0≤y) (y≤1000) (x.natAbs<2^64))(q:Q (.int (x^y.toNat)) C):Run (dh .Pow (.int x) (.int y)) C Q:=
 ⟨_,C,by change (if _ then _ else _)=_;show if_pos ⟨h.1,h.2,h.3⟩;rfl,q⟩
theorem yK{x y:List V}(h:(x++y).length≤1000)(q:Q (.tup (x++y)) C):Run (dh .Add (.tup x) (.tup y)) C Q:=
 ⟨_,C,by change (if _ then _ else _)=_;show if_pos h;rfl,q⟩
theorem q6{c d:Nat}{x y:List V}(hc:Has C c (.list x))(hd:Has C d (.list y))(h:(x++y).length≤10000)(q:Run (new (.list (x++y))) C Q):Run (dh .Add (.cell c) (.cell d)) C Q:=by
 refine ae (m:=bd (av c) λo=>bd (av d) λp=>match o,p with
  |.list x,.list y=>λC=>if(x++y).length≤10000 then new (.list (x++y)) C else none
  |_,_=>no) rfl (ah (ax hc (ah (ax hd (ae ?_ q)))))
 change (if _ then _ else _)=_;show if_pos h;rfl
theorem xL{c:Nat}{x:V}{k:Int}(hc:Has C c (.list [x]))(h:-10000≤k∧k≤10000)(q:Run (new (.list (List.replicate k.toNat x))) C Q):Run (dh .Mult (.cell c) (.int k)) C Q:=by
 refine ae (m:=bd (av c) λo=>match o with
  |.list [x]=>λC=>if -10000≤k∧k≤10000 then new (.list (List.replicate k.toNat x)) C else none
  |_=>no) rfl (ah (ax hc (ae ?_ q)))
 change (if _ then _ else _)=_;show if_pos h;rfl
theorem xg{a b:V}{r:Bool}(h:eqv C 6 a b=some r)(q:T r C):Run (cmp .Eq a b) C T:=
 ⟨r,C,by change (match eqv C 6 a b with|some r=>some (r,C)|none=>none)=_;show h;rfl,q⟩
theorem sM{a b:V}{r:Bool}(h:eqv C 6 a b=some r)(q:T (!r) C):Run (cmp .NotEq a b) C T:=
 ⟨!r,C,by change (match eqv C 6 a b with|some r=>some (!r,C)|none=>none)=_;show h;rfl,q⟩
theorem BK{x y:Int}(q:T (!decide (x=y)) C):Run (cmp .NotEq (.int x) (.int y)) C T:=sM rfl q
theorem c_lt{x y:Int}(q:T (decide (x<y)) C):Run (cmp .Lt (.int x) (.int y)) C T:=au q
theorem c_le{x y:Int}(q:T (decide (x≤y)) C):Run (cmp .LtE (.int x) (.int y)) C T:=au q
theorem c_gt{x y:Int}(q:T (decide (y<x)) C):Run (cmp .Gt (.int x) (.int y)) C T:=au q
theorem Au{x y:List V}{l m:List Int}(h:V.ints x=some l)(h':V.ints y=some m)(q:T (bI l m) C):Run (cmp .Gt (.tup x) (.tup y)) C T:=
 ⟨_,C,by change (match V.ints x,V.ints y with|some l,some m=>ok (bI l m)|_,_=>no) C=_;show h;show h';rfl,q⟩
theorem Be(q:T true C):Run (cmp .Is .nn .nn) C T:=au q
theorem Bt{x}(q:T false C):Run (cmp .Is (.tup x) .nn) C T:=au q
theorem Bm{x}(q:T false C):Run (cmp .Is (.cell x) .nn) C T:=au q
theorem Ai(q:T false C):Run (cmp .IsNot .nn .nn) C T:=au q
theorem Ad{x}(q:T true C):Run (cmp .IsNot (.tup x) .nn) C T:=au q
theorem Aj{x}(q:T true C):Run (cmp .IsNot (.cell x) .nn) C T:=au q
theorem Ay{a:V}{c:Nat}{es:List (K×V)}{k:K}(hc:Has C c (.dict es))(hk:a.key=some k)(hs:am k es=true)(q:T (lk k es).isSome C):Run (cmp .In a (.cell c)) C T:=by
 refine ae (m:=bd (av c) λo=>match o,a.key with
  |.dict es,some k=>λC=>if am k es then some ((lk k es).isSome,C) else none
  |_,_=>no) rfl (ah (ax hc ⟨_,C,?_,q⟩))
 simp only[hk,hs,if_true]
theorem tn{i:Int}{vs:List V}{l:List Int}(h:V.ints vs=some l)(q:T (!(l.any λj=>decide (j=i))) C):Run (cmp .NotIn (.int i) (.tup vs)) C T:=by
 refine⟨_,C,?_,q⟩
 change bd (match V.int i,V.ints vs with|.int i,some l=>ok (l.any λj=>decide (j=i))|_,_=>no) (λr=>ok (!r)) C=_
 show h;rfl
theorem Az{vs:List V}{i:Int}{v:V}(h:nth vs i=some v)(q:Q v C):Run (d8 (.tup vs) (.int i)) C Q:=⟨v,C,by change lift (nth vs i) C=_;show h;rfl,q⟩
theorem br{c:Nat}{vs:List V}{i:Int}{v:V}(hc:Has C c (.list vs))(h:nth vs i=some v)(q:Q v C):Run (d8 (.cell c) (.int i)) C Q:=by
 refine ae (m:=bd (av c) λo=>match o,V.int i with
  |.list vs,.int i=>lift (nth vs i)
  |.dict es,i=>match i.key with
   |some k=>λC=>if am k es then lift (lk k es) C else none
   |none=>no
  |_,_=>no) rfl (ah (ax hc ⟨v,C,?_,q⟩))
 change lift (nth vs i) C=_
 show h;rfl
theorem bQ{c:Nat}{es:List (K×V)}{a:V}{k:K}{v:V}(hc:Has C c (.dict es))(hk:a.key=some k)(hs:am k es=true)(h:lk k es=some v)(q:Q v C):Run (d8 (.cell c) a) C Q:=by
 refine ae (m:=bd (av c) λo=>match o,a with
  |.list vs,.int i=>lift (nth vs i)
  |.dict es,i=>match i.key with
   |some k=>λC=>if am k es then lift (lk k es) C else none
   |none=>no
  |_,_=>no) rfl (ah (ax hc ⟨v,C,?_,q⟩))
 change (match a.key with
   |some k=>λC=>if am k es then lift (lk k es) C else none
   |none=>no) C=_
 show hk
 change (if _ then _ else _)=_
 show if_pos hs;show h;rfl
theorem lE{c:Nat}{vs:List V}{i:Int}{v:V}(hc:Has C c (.list vs))(h:0≤i∧i<vs.length)(q:∀C',ak c C C'→Has C' c (.list (vs.set i.toNat v))→C'.length=C.length→U () C'):Run (iM (.cell c) (.int i) v) C U:=by
 refine ae (m:=bd (av c) λo=>match o,V.int i with
  |.list vs,.int i=>λC=>if 0≤i∧i<vs.length then put c (.list (vs.set i.toNat v)) C else none
  |.dict es,i=>match i.key with
   |some k=>λC=>if am k es∧es.length≤10000 then put c (.dict (st k v es)) C else none
   |none=>no
  |_,_=>no) rfl (ah (ax hc (ae ?_ (dE hc q))))
 change (if _ then _ else _)=_
 show if_pos h;rfl
theorem fg{c:Nat}{es:List (K×V)}{a v:V}{k:K}(hc:Has C c (.dict es))(hk:a.key=some k)(hs:am k es=true)(h:es.length≤10000)(q:∀C',ak c C C'→Has C' c (.dict (st k v es))→C'.length=C.length→U () C'):Run (iM (.cell c) a v) C U:=by
 refine ae (m:=bd (av c) λo=>match o,a with
  |.list vs,.int i=>λC=>if 0≤i∧i<vs.length then put c (.list (vs.set i.toNat v)) C else none
  |.dict es,i=>match i.key with
   |some k=>λC=>if am k es∧es.length≤10000 then put c (.dict (st k v es)) C else none
   |none=>no
  |_,_=>no) rfl (ah (ax hc (ae ?_ (dE hc q))))
 change (match a.key with
   |some k=>λC=>if am k es∧es.length≤10000 then put c (.dict (st k v es)) C else none
   |none=>no) C=_
 show hk
 change (if _ then _ else _)=_
 show if_pos ⟨hs,h⟩;rfl
section
variable {wh:Wh}{n:Nat}
theorem dT{c:Nat}{vs:List V}(hc:Has C c (.list vs))(q:Q (.int vs.length) C):Run ((lev wh (n+1)).call "len" [.cell c]) C Q:=
 cI (rfl) (ae (m:=bd (av c) λo=>match o with
  |.list vs=>ok (.int vs.length)
  |.dict es=>ok (.int es.length)) rfl (ah (ax hc (au q))))
theorem ma{c:Nat}{es:List (K×V)}(hc:Has C c (.dict es))(q:Q (.int es.length) C):Run ((lev wh (n+1)).call "len" [.cell c]) C Q:=
 cI (rfl) (ae (m:=bd (av c) λo=>match o with
  |.list vs=>ok (.int vs.length)
  |.dict es=>ok (.int es.length)) rfl (ah (ax hc (au q))))
theorem vE{i:Int}(q:Q (.int i.natAbs) C):Run ((lev wh (n+1)).call "abs" [.int i]) C Q:=cI (rfl) (au q)
theorem yT{vs:List V}{r:Int}(h:o2 vs=some r)(q:Q (.int r) C):Run ((lev wh (n+1)).call "sum" [.tup vs]) C Q:=
 cI (rfl) ⟨.int r,C,by change lift ((o2 vs).map V.int) C=_;show h;rfl,q⟩
theorem zC{c:Nat}{vs:List V}{r:Int}(hc:Has C c (.list vs))(h:o2 vs=some r)(q:Q (.int r) C):Run ((lev wh (n+1)).call "sum" [.cell c]) C Q:=
 cI (rfl) (ae (m:=bd (av c) λo=>match o with
  |.list vs=>lift ((o2 vs).map V.int)
  |_=>no) rfl (ah (ax hc ⟨.int r,C,by change lift ((o2 vs).map V.int) C=_;show h;rfl,q⟩)))
theorem An{a b:Int}(q:Q (.int (if a<b then b else a)) C):Run ((lev wh (n+1)).call "max" [.int a,.int b]) C Q:=cI (rfl) (au q)
theorem zW{c:Nat}{es:List (K×V)}{x:Int}{r:List Int}(hc:Has C c (.dict es))(h:V.ints (es.map λe=>e.1.v)=some (x::r))(q:Q (.int (sJ x r)) C):Run ((lev wh (n+1)).call "max" [.cell c]) C Q:=
 cI (rfl) (ae (m:=bd (av c) λo=>match o with
  |.dict es=>match V.ints (es.map λe=>e.1.v) with
   |some (x::r)=>ok (.int (sJ x r))
   |_=>no
  |_=>no) rfl (ah (ax hc (by simp only[h];exact au q))))
theorem sB{c:Nat}{vs:List V}(hc:Has C c (.list vs))(q:Q (.tup vs) C):Run ((lev wh (n+1)).call "tuple" [.cell c]) C Q:=
 cI (rfl) (ae (m:=bd (av c) λo=>match o with
  |.list vs=>ok (.tup vs)
  |_=>no) rfl (ah (ax hc (au q))))
theorem uO{c:Nat}{vs:List V}(hc:Has C c (.list vs))(h:vs.length≤10000)(q:Run (new (.list vs)) C Q):Run ((lev wh (n+1)).call "list" [.cell c]) C Q:=
 cI (rfl) (ae (m:=bd (av c) λo=>match o with
  |.list vs=>λC=>if vs.length≤10000 then new (.list vs) C else none
  |_=>no) rfl (ah (ax hc (ae (by change (if _ then _ else _)=_;show if_pos h;rfl) q))))
theorem u7{c:Nat}{es:List (K×V)}(hc:Has C c (.dict es))(h:(am (.t []) es&&bX (es.map λe=>i0 e.1)&&decide (es.length≤10000))=true)(q:Run (new (.dict es)) C Q):Run ((lev wh (n+1)).call "dict" [.cell c]) C Q:=
 cI (rfl) (ae (m:=bd (av c) λo=>match o with
  |.dict es=>λC=>if am (.t []) es&&bX (es.map λe=>i0 e.1)&&decide (es.length≤10000) then new (.dict es) C else none
  |_=>no) rfl (ah (ax hc (ae (by change (if _ then _ else _)=_;show if_pos h;rfl) q))))
end
theorem gX{c:Nat}{vs:List V}{v:V}(hc:Has C c (.list vs))(h:vs.length≤10000)(q:∀C',ak c C C'→Has C' c (.list (vs++[v]))→C'.length=C.length→Q .nn C'):Run (onO "append" c [v] (.list vs)) C Q:=by
 refine ae (m:=bd (put c (.list (vs++[v]))) λxx=>ok .nn) ?_ (ah (dE hc λC' g h' l=>au (q C' g h' l)))
 change (if _ then _ else _)=_
 show if_pos h;rfl
theorem uf{c d:Nat}{vs us:List V}(hc:Has C c (.list vs))(hd:Has C d (.list us))(hn:c≠d)(h:(vs++us).length≤10000)(q:∀C',ak c C C'→Has C' c (.list (vs++us))→C'.length=C.length→Q .nn C'):Run (onO "extend" c [.cell d] (.list vs)) C Q:=by
 refine ae (m:=bd (av d) λp=>match p with
   |.list us=>λC=>if(vs++us).length≤10000 then(bd (put c (.list (vs++us))) λxx=>ok .nn) C else none
   |_=>no) ?_ (ah (ax hd (ae (m:=bd (put c (.list (vs++us))) λxx=>ok .nn) ?_ (ah (dE hc λC' g h' l=>au (q C' g h' l))))))
 ·change (if _ then _ else _:M V) C=_
  show if_neg hn;all_goals rfl
 ·change (if _ then _ else _)=_
  show if_pos h;rfl
theorem yc{c:Nat}{vs:List V}{v:V}{i:Int}(hc:Has C c (.list vs))(hi:0≤i)(hv:vs[i.toNat]?=some v)(q:∀C',ak c C C'→Has C' c (.list (vs.eraseIdx i.toNat))→C'.length=C.length→Q v C'):Run (onO "pop" c [.int i] (.list vs)) C Q:=by
 refine ae (m:=bd (put c (.list (vs.eraseIdx i.toNat))) λxx=>ok v) ?_ (ah (dE hc λC' g h' l=>au (q C' g h' l)))
 change (if 0≤i then match vs[i.toNat]? with
   |some v=>(bd (put c (.list (vs.eraseIdx i.toNat))) λxx=>ok v) C
   |none=>none
  else none)=_
 show if_pos hi;show hv;rfl
theorem xW{c:Nat}{es:List (K×V)}{a v:V}{k:K}(hc:Has C c (.dict es))(hk:a.key=some k)(hs:am k es=true)(hv:lk k es=some v)(q:∀C',ak c C C'→Has C' c (.dict (rm k es))→C'.length=C.length→Q v C'):Run (onO "pop" c [a] (.dict es)) C Q:=by
 refine ae (m:=bd (put c (.dict (rm k es))) λxx=>ok v) ?_ (ah (dE hc λC' g h' l=>au (q C' g h' l)))
 change (match a.key with
  |some k=>λC=>if am k es then match lk k es with
    |some v=>(bd (put c (.dict (rm k es))) λxx=>ok v) C
    |none=>none
   else none
  |none=>no) C=_
 show hk
 change (if _ then _ else _)=_
 show if_pos hs;show hv;rfl
theorem qM{c:Nat}{es:List (K×V)}{a d:V}{k:K}(hc:Has C c (.dict es))(hk:a.key=some k)(hs:am k es=true)
  (q:∀v,lk k es=some v→∀C',ak c C C'→Has C' c (.dict (rm k es))→C'.length=C.length→Q v C') (q':lk k es=none→Q d C):Run (onO "pop" c [a,d] (.dict es)) C Q:=by
 refine ae (m:=λC=>if am k es then match lk k es with
    |some v=>(bd (put c (.dict (rm k es))) λxx=>ok v) C
    |none=>some (d,C)
   else none) ?_ ?_
 ·change (match a.key with
  |some k=>λC=>if am k es then match lk k es with
    |some v=>(bd (put c (.dict (rm k es))) λxx=>ok v) C
    |none=>some (d,C)
   else none
  |none=>no) C=_
  show hk;rfl
 ·cases hv:lk k es with
  |some v=>
   refine ae (m:=bd (put c (.dict (rm k es))) λxx=>ok v) ?_ (ah (dE hc λC' g h' l=>au (q v hv C' g h' l)))
   exact if_pos hs
  |none=>exact⟨d,C,if_pos hs,q' hv⟩
theorem w9{c:Nat}{es:List (K×V)}{a d:V}{k:K}(hk:a.key=some k)(hs:am k es=true)(q:Q ((lk k es).getD d) C):Run (onO "get" c [a,d] (.dict es)) C Q:=by
 refine⟨_,C,?_,q⟩
 change (match a.key with
  |some k=>λC=>if am k es then match lk k es with
    |some v=>some (v,C)
    |none=>some (d,C)
   else none
  |none=>no) C=_
 show hk
 change (if _ then _ else _)=_
 show if_pos hs
 cases lk k es<;>rfl
end
section
variable {C C' C1:CH}{wh:Wh}{n:Nat}{sc:Scope}{σ σ':Env}{S:Fl×Env→CH→Prop}{Q:V→CH→Prop}{g:Stmt→Env→M (Fl×Env)}{r:List Stmt}{s:Stmt}{v:V}
def Fin(Q:V→CH→Prop):Fl×Env→CH→Prop
 |(.ret v,_),C=>Q v C
 |(.next,_),C=>Q .nn C
 |(.cont,_),_=>False
theorem AL(h:Q v C):Fin Q (.ret v,σ) C:=h
theorem zZ(h:Q .nn C):Fin Q (.next,σ) C:=h
theorem tX{f:Str}{args:List V}{nm:Str}{ps:Arguments}{body:List Stmt}{pos:Pos}(hd:fn? f=some ⟨nm,ps,body,sc,pos⟩)(ho:sN ⟨nm,ps,body,sc,pos⟩=true)(hb:aW (ps.args.map (·.arg)) args []=some σ)
  (h:Run (execs ((lev wh n).stmt sc) body σ) C (Fin Q)):Run ((lev wh (n+1)).call f args) C Q:=AR hd ho hb (h.mono λp C1 h=>by
 obtain⟨fl,σ'⟩:=p
 cases fl<;>exact h)
def Tr(S:Fl×Env→CH→Prop)(I:Env→CH→Prop):Fl×Env→CH→Prop
 |(.ret v,σ),C=>S (.ret v,σ) C
 |(.next,σ),C=>I σ C
 |(.cont,σ),C=>I σ C
theorem Bx{I:Env→CH→Prop}(h:S (.ret v,σ) C):Tr S I (.ret v,σ) C:=h
theorem AA{I:Env→CH→Prop}(h:I σ C):Tr S I (.next,σ) C:=h
theorem Av{I:Env→CH→Prop}(h:I σ C):Tr S I (.cont,σ) C:=h
theorem u8{I:Env→CH→Prop}{p:Fl×Env}(h:Tr S I p C):FlQ S I p C:=by
 obtain⟨fl,σ'⟩:=p
 cases fl<;>exact h
theorem iI{t:Expr}{b:List Stmt}{p:Pos}(I:Nat→Env→CH→Prop)(k:Nat)(h:I k σ C)
  (step:∀k σ C,I k σ C→Run ((lev whC n).test sc t σ) C λc C1=>(c=false→S (.next,σ) C1)∧(c=true→Run (execs ((lev whC n).stmt sc) b σ) C1 (Tr S λσ C2=>∃k',k'<k∧I k' σ C2))) :
  Run ((lev whC (n+1)).stmt sc (.While t b [] p) σ) C S:=
 wz (ym I (λk σ C h=>(step k σ C h).mono λc C1 h=>⟨h.1,λe=>(h.2 e).mono λp C2 h=>u8 h⟩) k σ C h)
theorem bR{t it:Expr}{b:List Stmt}{p:Pos}(h0:aq sc t=true)
  (h:Run (iter (isTup t) (λe=>(lev wh n).expr sc e σ) sc it) C λx C1=>gN x.2 C1∧∃I:List V→Env→CH→Prop,And4 (I x.1 σ C1) (∀vs σ C',I vs σ C'→ch x.2 C1 C') (∀v r σ C,I (v::r) σ C→∃σ',target t v σ=some σ'∧Run (execs ((lev wh n).stmt sc) b σ') C (Tr S λσ'' C2=>I r σ'' C2)) (∀σ C,I [] σ C→S (.next,σ) C)) :
  Run ((lev wh (n+1)).stmt sc (.For t it b [] p) σ) C S:=
 Ao h0 (h.mono λx C1 q=>by
  refine uH q λa I b c d e=>?_
  refine cj a I b c (λv r σ C hI=>?_) e
  refine oEA (d v r σ C hI) λσ' e1 e2=>?_
  exact iEA σ' e1 (e2.mono λp C2 h=>u8 h))
theorem andI{P R:Prop}(h:P)(h':R):P∧R:=⟨h,h'⟩
theorem bY{x:Str}{p:Pos}{P:Env→Prop}(h:P ((x,v)::σ)):∃σ',target (.Name x p) v σ=some σ'∧P σ':=⟨_,rfl,h⟩
theorem uZ{i:Int}{P:Int→Prop}(h:P i):∃k,V.int i=.int k∧P k:=⟨i,rfl,h⟩
theorem AT{b:Bool}{P:Bool→Prop}(h:P b):∃k,V.bool b=.bool k∧P k:=⟨b,rfl,h⟩
end
noncomputable def wN(o:Option V)(C:CH)(T:V→CH→Prop):Prop:=match o with|some v=>T v C|none=>False
noncomputable def wB(op:Operator)(a b:V)(C:CH)(T:V→CH→Prop):Prop:=match op with
 |.Add=>match a with
  |.int x=>match b with
   |.int y=>T (.int (x+y)) C
   |_=>Run (dh op a b) C T
  |_=>Run (dh op a b) C T
 |.Sub=>match a with
  |.int x=>match b with
   |.int y=>T (.int (x-y)) C
   |_=>Run (dh op a b) C T
  |_=>Run (dh op a b) C T
 |_=>Run (dh op a b) C T
noncomputable def xF(r:Int→Int→Bool)(op:CmpOp)(a b:V)(C:CH)(T:Bool→CH→Prop):Prop:=match a with
  |.int x=>match b with
   |.int y=>T (r x y) C
   |_=>Run (cmp op a b) C T
  |_=>Run (cmp op a b) C T
noncomputable def wIs(n:Bool)(op:CmpOp)(a b:V)(C:CH)(T:Bool→CH→Prop):Prop:=match b with
  |.nn=>match a with
   |.nn=>T n C
   |.tup _=>T (!n) C
   |.cell _=>T (!n) C
   |_=>Run (cmp op a b) C T
  |_=>Run (cmp op a b) C T
noncomputable def wC(op:CmpOp)(a b:V)(C:CH)(T:Bool→CH→Prop):Prop:=match op with
 |.Eq=>xF (λx y=>decide (x=y)) op a b C T
 |.NotEq=>xF (λx y=>!decide (x=y)) op a b C T
 |.Lt=>xF (λx y=>decide (x<y)) op a b C T
 |.LtE=>xF (λx y=>decide (x≤y)) op a b C T
 |.Gt=>xF (λx y=>decide (y<x)) op a b C T
 |.Is=>wIs true op a b C T
 |.IsNot=>wIs false op a b C T
 |_=>Run (cmp op a b) C T
noncomputable def wG(a b:V)(C:CH)(T:V→CH→Prop):Prop:=match a with
 |.tup vs=>match b with
  |.int i=>match nth vs i with
   |some v=>T v C
   |none=>Run (d8 a b) C T
  |_=>Run (d8 a b) C T
 |_=>Run (d8 a b) C T
noncomputable def wI(a:V)(P:Int→Prop):Prop:=match a with|.int i=>P i|_=>∃i,a=.int i∧P i
noncomputable def wL(a:V)(P:Bool→Prop):Prop:=match a with|.bool i=>P i|_=>∃i,a=.bool i∧P i
noncomputable def wTg(t:Expr)(x:V)(σ:Env)(P:Env→Prop):Prop:=match target t x σ with|some σ'=>P σ'|none=>False
noncomputable def At{α:Type}(v:α)(T:List α→CH→Prop)(vs:List α)(C:CH):Prop:=T (v::vs) C
noncomputable def kX(f:Env→CH→(Fl×Env→CH→Prop)→Prop)(S:Fl×Env→CH→Prop)(p:Fl×Env)(C:CH):Prop:=match p with
 |(.next,σ)=>f σ C S
 |(.cont,σ)=>S (.cont,σ) C
 |(.ret v,σ)=>S (.ret v,σ) C
noncomputable def wX(g:Stmt→Env→CH→(Fl×Env→CH→Prop)→Prop):List Stmt→Env→CH→(Fl×Env→CH→Prop)→Prop
 |[],σ,C,S=>S (.next,σ) C
 |s::r,σ,C,S=>g s σ C (kX (wX g r) S)
structure WE where
 e:Scope→Expr→Env→CH→(V→CH→Prop)→Prop
 t:Scope→Expr→Env→CH→(Bool→CH→Prop)→Prop
 s:Scope→Stmt→Env→CH→(Fl×Env→CH→Prop)→Prop
section
variable (n:Nat)(W:WE)(sc:Scope)
noncomputable def kE(f:CH→(List V→CH→Prop)→Prop)(T:List V→CH→Prop)(v:V)(C:CH):Prop:=f C (At v T)
noncomputable def wEs(σ:Env):List Expr→CH→(List V→CH→Prop)→Prop
 |[],C,T=>T [] C
 |e::r,C,T=>W.e sc e σ C (kE (wEs σ r) T)
noncomputable def wA(σ:Env)(op:BoolOp):List Expr→CH→(Bool→CH→Prop)→Prop
 |[],C,T=>T (op==.And) C
 |e::r,C,T=>match op with
  |.And=>W.t sc e σ C λb C1=>(b=false→T false C1)∧(b=true→wA σ .And r C1 T)
  |.Or=>W.t sc e σ C λb C1=>(b=true→T true C1)∧(b=false→wA σ .Or r C1 T)
noncomputable def kB2(op:Operator)(a:V)(T:V→CH→Prop)(b:V)(C:CH):Prop:=wB op a b C T
noncomputable def kB1(op:Operator)(r:Expr)(σ:Env)(T:V→CH→Prop)(a:V)(C:CH):Prop:=W.e sc r σ C (kB2 op a T)
noncomputable def BT(T:V→CH→Prop)(a:V)(C:CH):Prop:=wI a λi=>T (.int (-i)) C
noncomputable def kIf(b o:Expr)(σ:Env)(T:V→CH→Prop)(c:Bool)(C:CH):Prop:=(c=true→W.e sc b σ C T)∧(c=false→W.e sc o σ C T)
noncomputable def kC2(op:CmpOp)(a:V)(T:Bool→CH→Prop)(b:V)(C:CH):Prop:=wC op a b C T
noncomputable def kC1(op:CmpOp)(r:Expr)(σ:Env)(T:Bool→CH→Prop)(a:V)(C:CH):Prop:=W.e sc r σ C (kC2 op a T)
noncomputable def AK(T:V→CH→Prop)(t:Bool)(C:CH):Prop:=T (.bool t) C
noncomputable def zb(f:Str)(T:V→CH→Prop)(vs:List V)(C:CH):Prop:=Run ((lev whC n).call f vs) C T
noncomputable def Bs(T:V→CH→Prop)(vs:List V)(C:CH):Prop:=T (.tup vs) C
noncomputable def Bn(T:V→CH→Prop)(vs:List V)(C:CH):Prop:=Run (new (.list vs)) C T
noncomputable def kG2(a:V)(T:V→CH→Prop)(b:V)(C:CH):Prop:=wG a b C T
noncomputable def kG1(i:Expr)(σ:Env)(T:V→CH→Prop)(a:V)(C:CH):Prop:=W.e sc i σ C (kG2 a T)
noncomputable def BQ(T:Bool→CH→Prop)(b:Bool)(C:CH):Prop:=T (!b) C
noncomputable def BS(T:Bool→CH→Prop)(v:V)(C:CH):Prop:=wL v λb=>T b C
noncomputable def BN(σ:Env)(S:Fl×Env→CH→Prop)(v:V)(C:CH):Prop:=S (.ret v,σ) C
noncomputable def AN{α:Type}(σ:Env)(S:Fl×Env→CH→Prop)(v:α)(C:CH):Prop:=S (.next,σ) C
noncomputable def BM(b o:List Stmt)(σ:Env)(S:Fl×Env→CH→Prop)(c:Bool)(C:CH):Prop:=(c=true→wX (W.s sc) b σ C S)∧(c=false→wX (W.s sc) o σ C S)
noncomputable def BZ(t:Expr)(σ:Env)(S:Fl×Env→CH→Prop)(y:V)(C:CH):Prop:=wTg t y σ λσ'=>S (.next,σ') C
noncomputable def kS3(a y:V)(σ:Env)(S:Fl×Env→CH→Prop)(b:V)(C:CH):Prop:=Run (iM a b y) C (AN σ S)
noncomputable def kS2(i:Expr)(y:V)(σ:Env)(S:Fl×Env→CH→Prop)(a:V)(C:CH):Prop:=W.e sc i σ C (kS3 a y σ S)
noncomputable def kS1(o i:Expr)(σ:Env)(S:Fl×Env→CH→Prop)(y:V)(C:CH):Prop:=W.e sc o σ C (kS2 W sc i y σ S)
noncomputable def kU4(a b u:V)(σ:Env)(S:Fl×Env→CH→Prop)(w:V)(C:CH):Prop:=Ex2 λm k=>And3 (u=.int m) (w=.int k) (Run (iM a b (.int (m+k))) C (AN σ S))
noncomputable def kU3(v:Expr)(a b:V)(σ:Env)(S:Fl×Env→CH→Prop)(u:V)(C:CH):Prop:=W.e sc v σ C (kU4 a b u σ S)
noncomputable def kU2(v:Expr)(a:V)(σ:Env)(S:Fl×Env→CH→Prop)(b:V)(C:CH):Prop:=Run (d8 a b) C (kU3 W sc v a b σ S)
noncomputable def kU1(i v:Expr)(σ:Env)(S:Fl×Env→CH→Prop)(a:V)(C:CH):Prop:=W.e sc i σ C (kU2 W sc v a σ S)
noncomputable def x0(x:Expr)(σ:Env)(C:CH)(T:V→CH→Prop):Prop:=match x with
 |.Constant c _ _=>wN (mi c) C T
 |.Name y _=>wN (eE sc y σ) C T
 |.BinOp l op r _=>W.e sc l σ C (kB1 W sc op r σ T)
 |.UnaryOp .USub y _=>W.e sc y σ C (BT T)
 |.Compare l [op] [r] _=>W.e sc l σ C (kC1 W sc op r σ (AK T))
 |.Call (.Name f p) args [] q=>match lD sc f args with
  |true=>wEs W sc σ args C (zb n f T)
  |false=>Run ((lev whC (n+1)).expr sc x σ) C T
 |.Tuple es k p=>match ao es with
  |true=>wEs W sc σ es C (Bs T)
  |false=>Run ((lev whC (n+1)).expr sc x σ) C T
 |.List es p=>match ao es with
  |true=>wEs W sc σ es C (Bn T)
  |false=>Run ((lev whC (n+1)).expr sc x σ) C T
 |.Subscript v i p=>match sx i with
  |true=>W.e sc v σ C (kG1 W sc i σ T)
  |false=>Run ((lev whC (n+1)).expr sc x σ) C T
 |_=>Run ((lev whC (n+1)).expr sc x σ) C T
noncomputable def yD(x:Expr)(σ:Env)(C:CH)(T:Bool→CH→Prop):Prop:=match x with
 |.UnaryOp .Not y _=>W.t sc y σ C (BQ T)
 |.BoolOp op es _=>wA W sc σ op es C T
 |.Compare l [op] [r] _=>W.e sc l σ C (kC1 W sc op r σ T)
 |.Call f args ks p=>W.e sc (.Call f args ks p) σ C (BS T)
 |_=>Run ((lev whC (n+1)).test sc x σ) C T
noncomputable def AP(t v:Expr)(p:Pos)(σ:Env)(C:CH)(S:Fl×Env→CH→Prop):Prop:=match pU t&&(aq sc t&&ic v) with
 |true=>W.e sc v σ C (BZ t σ S)
 |false=>match t with
  |.Subscript o i _=>match bf i with
   |false=>W.e sc v σ C (kS1 W sc o i σ S)
   |true=>Run ((lev whC (n+1)).stmt sc (.Assign [t] v p) σ) C S
  |_=>Run ((lev whC (n+1)).stmt sc (.Assign [t] v p) σ) C S
noncomputable def yG(x:Stmt)(σ:Env)(C:CH)(S:Fl×Env→CH→Prop):Prop:=match x with
 |.Return (some e) _=>W.e sc e σ C (BN σ S)
 |.Continue _=>S (.cont,σ) C
 |.Expr (.Call f args ks p) _=>W.e sc (.Call f args ks p) σ C (AN σ S)
 |.If t b o _=>W.t sc t σ C (BM W sc b o σ S)
 |.Assign [t] v p=>AP n W sc t v p σ C S
 |.AugAssign (.Subscript o i ps) .Add v p=>match bf i with
  |false=>W.e sc o σ C (kU1 W sc i v σ S)
  |true=>Run ((lev whC (n+1)).stmt sc x σ) C S
 |_=>Run ((lev whC (n+1)).stmt sc x σ) C S
end
noncomputable def eO:Nat→WE
 |0=>⟨λsc x σ C T=>Run ((lev whC 0).expr sc x σ) C T,λsc x σ C T=>Run ((lev whC 0).test sc x σ) C T,λsc x σ C T=>Run ((lev whC 0).stmt sc x σ) C T⟩
 |n+1=>⟨x0 n (eO n),yD n (eO n),yG n (eO n)⟩
noncomputable def t7:List Arg→List V→Env→Option Env
 |[],[],σ=>some σ
 |⟨x,_,_⟩::r,v::vs,σ=>t7 r vs ((x,v)::σ)
 |_,_,_=>none
theorem rE:∀{ps:List Arg}{vs:List V}{σ:Env},t7 ps vs σ=aW (ps.map (·.arg)) vs σ:=λ{ps}=>by
 induction ps with
 |nil=>intro vs σ;cases vs<;>rfl
 |cons p ps ih=>
  obtain⟨x,_,_⟩:=p
  intro vs σ
  cases vs with
  |nil=>rfl
  |cons v vs=>exact ih
noncomputable def zr(n:Nat)(d:DefRec)(vs:List V)(C:CH)(Q:V→CH→Prop):Prop:=match d with
 |⟨_,⟨_,as,_,_,_,_,_⟩,body,sc,_⟩=>match t7 as vs [] with
  |some σ=>wX ((eO n).s sc) body σ C (Fin Q)
  |none=>False
noncomputable def yM(n:Nat)(f:Str)(vs:List V)(C:CH)(Q:V→CH→Prop):Prop:=match fn? f with
 |some d=>match sN d with
  |true=>zr n d vs C Q
  |false=>False
 |none=>False
section
variable {n:Nat}{C:CH}{sc:Scope}{σ:Env}{o:Option V}{op:Operator}{cp:CmpOp}{a b:V}
theorem ag{x:Str}{v:V}{F:V→Prop}(h:af x σ=some v)(q:F v):match af x σ with|some v=>F v|none=>False:=by show h;exact q
theorem vi{T:V→CH→Prop}(q:wN o C T):∃v,o=some v∧T v C:=by
 induction o using Option.casesOn with
 |none=>exact q.elim
 |some v=>exact iEA v rfl q
theorem zN{T:V→CH→Prop}(q:wB op a b C T):Run (dh op a b) C T:=by
 induction op using PySem.Operator.casesOn with
 |Add=>induction a using V.casesOn with
  |int x=>induction b using V.casesOn with
   |int y=>exact Ba q
   |_=>exact q
  |_=>exact q
 |Sub=>induction a using V.casesOn with
  |int x=>induction b using V.casesOn with
   |int y=>exact AB q
   |_=>exact q
  |_=>exact q
 |_=>exact q
theorem fG{T:Bool→CH→Prop}{r:Int→Int→Bool}(h:∀x y C,cmp cp (.int x) (.int y) C=some (r x y,C))(q:xF r cp a b C T):Run (cmp cp a b) C T:=by
 induction a using V.casesOn with
 |int x=>induction b using V.casesOn with
  |int y=>exact⟨_,_,h x y C,q⟩
  |_=>exact q
 |_=>exact q
theorem pQ{T:Bool→CH→Prop}{n:Bool}(h:∀C,cmp cp .nn .nn C=some (n,C))(h2:∀x C,cmp cp (.tup x) .nn C=some (!n,C))(h3:∀x C,cmp cp (.cell x) .nn C=some (!n,C))(q:wIs n cp a b C T):Run (cmp cp a b) C T:=by
 induction b using V.casesOn with
 |nn=>induction a using V.casesOn with
  |nn=>exact⟨_,_,h C,q⟩
  |tup x=>exact⟨_,_,h2 x C,q⟩
  |cell x=>exact⟨_,_,h3 x C,q⟩
  |_=>exact q
 |_=>exact q
theorem u6{T:Bool→CH→Prop}(q:wC cp a b C T):Run (cmp cp a b) C T:=by
 induction cp using PySem.CmpOp.casesOn with
 |Eq=>exact fG (λxx yy zz=>rfl) q
 |NotEq=>exact fG (λxx yy zz=>rfl) q
 |Lt=>exact fG (λxx yy zz=>rfl) q
 |LtE=>exact fG (λxx yy zz=>rfl) q
 |Gt=>exact fG (λxx yy zz=>rfl) q
 |Is=>exact pQ (λxx=>rfl) (λxx yy=>rfl) (λxx yy=>rfl) q
 |IsNot=>exact pQ (λxx=>rfl) (λxx yy=>rfl) (λxx yy=>rfl) q
 |_=>exact q
theorem yg{T:V→CH→Prop}(q:wG a b C T):Run (d8 a b) C T:=by
 induction a using V.casesOn with
 |tup vs=>induction b using V.casesOn with
  |int i=>
   replace q:(match nth vs i with|some v=>T v C|none=>Run (d8 (.tup vs) (.int i)) C T):=q
   cases h:nth vs i with
   |none=>rw[h] at q;exact q
   |some v=>rw[h] at q;exact Az h q
  |_=>exact q
 |_=>exact q
theorem zA{P:Int→Prop}(q:wI a P):∃i,a=.int i∧P i:=by
 induction a using V.casesOn with
 |int i=>exact iEA i rfl q
 |_=>exact q
theorem yB{P:Bool→Prop}(q:wL a P):∃i,a=.bool i∧P i:=by
 induction a using V.casesOn with
 |bool i=>exact iEA i rfl q
 |_=>exact q
theorem w6{t:Expr}{x:V}{P:Env→Prop}(q:wTg t x σ P):∃σ',target t x σ=some σ'∧P σ':=by
 unfold wTg at q
 cases h:target t x σ with
 |none=>rw[h] at q;exact q.elim
 |some v=>rw[h] at q;exact iEA v rfl q
theorem lV{t:Expr}{x:V}{P:Env→Prop}(q:∃σ',target t x σ=some σ'∧P σ'):wTg t x σ P:=by
 refine oEA q λi e q=>?_
 unfold wTg;show e;exact q
theorem jX{W:WE}{g:Expr→M V}(h:∀{e C T},W.e sc e σ C T→Run (g e) C T):∀{es:List Expr}{C:CH}{T:List V→CH→Prop},wEs W sc σ es C T→Run (evs g es) C T:=λ{es}=>by
 induction es with
 |nil=>exact λq=>v9 q
 |cons e r ih=>exact λq=>t6 ((h q).mono λxx yy q=>ih q)
theorem zH{W:WE}{g:Expr→M Bool}{op:BoolOp}(h:∀{e C T},W.t sc e σ C T→Run (g e) C T):∀{es:List Expr}{C:CH}{T:Bool→CH→Prop},wA W sc σ op es C T→Run (pJ op g es) C T:=λ{es}=>by
 induction es with
 |nil=>exact λq=>tm q
 |cons e r ih=>
  induction op using PySem.BoolOp.casesOn with
  |And=>exact λq=>tS ((h q).mono λxx yy q=>⟨q.1,λe=>ih (q.2 e)⟩)
  |Or=>exact λq=>wx ((h q).mono λxx yy q=>⟨q.1,λe=>ih (q.2 e)⟩)
theorem sf{f:Stmt→Env→CH→(Fl×Env→CH→Prop)→Prop}{g:Stmt→Env→M (Fl×Env)}(h:∀s σ C T,f s σ C T→Run (g s σ) C T):∀{b:List Stmt}{σ:Env}{C:CH}{T:Fl×Env→CH→Prop},wX f b σ C T→Run (execs g b σ) C T:=λ{b}=>by
 induction b with
 |nil=>exact λq=>q7 q
 |cons e r ih=>exact λq=>oM ((h _ _ _ _ q).mono λp xx q=>by
   obtain⟨fl,σ'⟩:=p
   induction fl using Fl.casesOn with
   |next=>exact ih q
   |_=>exact q)
end
structure WSnd(n:Nat):Prop where
 e:∀{sc x σ C T},(eO n).e sc x σ C T→Run ((lev whC n).expr sc x σ) C T
 t:∀{sc x σ C T},(eO n).t sc x σ C T→Run ((lev whC n).test sc x σ) C T
 s:∀{sc x σ C T},(eO n).s sc x σ C T→Run ((lev whC n).stmt sc x σ) C T
section
variable {n:Nat}{sc:Scope}{σ:Env}{C:CH}
theorem tv(W:WSnd n){x:Expr}{T:V→CH→Prop}:x0 n (eO n) sc x σ C T→Run ((lev whC (n+1)).expr sc x σ) C T:=by
 induction x using PySem.Expr.casesOn with
 |Constant c k p=>exact λq=>by refine oEA (vi q) λv h q=>?_;exact xB h q
 |Name x p=>exact λq=>by refine oEA (vi q) λv h q=>?_;exact⟨v,C,by change lift (eE sc x σ) C=_;show h;rfl,q⟩
 |BinOp l op r p=>exact λq=>AV ((W.e q).mono λxx yy q=>(W.e q).mono λxx yy q=>zN q)
 |UnaryOp op x p=>induction op using PySem.UnaryOp.casesOn with
  |USub=>exact λq=>AD ((W.e q).mono λxx yy q=>zA q)
  |_=>exact _root_.id
 |Compare l ops rs p=>induction ops using List.casesOn with
  |nil=>exact id
  |cons op ops=>induction ops using List.casesOn with
   |cons _ _=>exact id
   |nil=>induction rs using List.casesOn with
    |nil=>exact id
    |cons r rs=>induction rs using List.casesOn with
     |cons _ _=>exact id
     |nil=>exact λq=>Aq ((W.e q).mono λxx yy q=>(W.e q).mono λxx yy q=>u6 q)
 |Call f args ks p=>induction f using PySem.Expr.casesOn with
  |Name f pf=>induction ks using List.casesOn with
   |cons _ _=>exact id
   |nil=>
    intro q
    cases h:lD sc f args with
    |false=>
     replace q:(match lD sc f args with|true=>_|false=>Run ((lev whC (n+1)).expr sc (.Call (.Name f pf) args [] p) σ) C T):=q
     rw[h] at q;exact q
    |true=>
     replace q:(match lD sc f args with|true=>wEs (eO n) sc σ args C (zb n f T)|false=>_):=q
     rw[h] at q;exact zh h (jX W.e q)
  |_=>exact _root_.id
 |Tuple es k p=>
  intro q
  cases h:ao es with
  |false=>
   replace q:(match ao es with|true=>_|false=>Run ((lev whC (n+1)).expr sc (.Tuple es k p) σ) C T):=q
   rw[h] at q;exact q
  |true=>
   replace q:(match ao es with|true=>wEs (eO n) sc σ es C (Bs T)|false=>_):=q
   rw[h] at q;exact A0 h (jX W.e q)
 |List es p=>
  intro q
  cases h:ao es with
  |false=>
   replace q:(match ao es with|true=>_|false=>Run ((lev whC (n+1)).expr sc (.List es p) σ) C T):=q
   rw[h] at q;exact q
  |true=>
   replace q:(match ao es with|true=>wEs (eO n) sc σ es C (Bn T)|false=>_):=q
   rw[h] at q;exact yY h (jX W.e q)
 |Subscript v i p=>
  intro q
  cases h:sx i with
  |false=>
   replace q:(match sx i with|true=>_|false=>Run ((lev whC (n+1)).expr sc (.Subscript v i p) σ) C T):=q
   rw[h] at q;exact q
  |true=>
   replace q:(match sx i with|true=>(eO n).e sc v σ C (kG1 (eO n) sc i σ T)|false=>_):=q
   rw[h] at q;exact Aw h ((W.e q).mono λxx yy q=>(W.e q).mono λxx yy q=>yg q)
 |_=>exact _root_.id
theorem tz(W:WSnd n){x:Expr}{T:Bool→CH→Prop}:yD n (eO n) sc x σ C T→Run ((lev whC (n+1)).test sc x σ) C T:=by
 induction x using PySem.Expr.casesOn with
 |UnaryOp op x p=>induction op using PySem.UnaryOp.casesOn with
  |Not=>exact λq=>AM (W.t q)
  |_=>exact _root_.id
 |BoolOp op es p=>exact λq=>yf (zH W.t q)
 |Compare l ops rs p=>induction ops using List.casesOn with
  |nil=>exact id
  |cons op ops=>induction ops using List.casesOn with
   |cons _ _=>exact id
   |nil=>induction rs using List.casesOn with
    |nil=>exact id
    |cons r rs=>induction rs using List.casesOn with
     |cons _ _=>exact id
     |nil=>exact λq=>AO ((W.e q).mono λxx yy q=>(W.e q).mono λxx yy q=>u6 q)
 |Call f args ks p=>exact λq=>xO ((W.e q).mono λxx yy q=>yB q)
 |_=>exact _root_.id
theorem vZ(W:WSnd n){t v:Expr}{p:Pos}{S:Fl×Env→CH→Prop}:AP n (eO n) sc t v p σ C S→Run ((lev whC (n+1)).stmt sc (.Assign [t] v p) σ) C S:=by
 unfold AP
 cases h:pU t&&(aq sc t&&ic v) with
 |true=>exact λq=>tC h ((W.e q).mono λxx yy q=>w6 q)
 |false=>
  clear h
  induction t using PySem.Expr.casesOn with
  |Subscript o i ps=>
   intro q
   cases h:bf i with
   |true=>
    replace q:(match bf i with|false=>_|true=>Run ((lev whC (n+1)).stmt sc (.Assign [.Subscript o i ps] v p) σ) C S):=q
    rw[h] at q;exact q
   |false=>
    replace q:(match bf i with|false=>(eO n).e sc v σ C (kS1 (eO n) sc o i σ S)|true=>_):=q
    rw[h] at q;exact m5 h ((W.e q).mono λxx yy q=>(W.e q).mono λxx yy q=>W.e q)
  |_=>exact _root_.id
theorem uI(W:WSnd n){x:Stmt}{S:Fl×Env→CH→Prop}:yG n (eO n) sc x σ C S→Run ((lev whC (n+1)).stmt sc x σ) C S:=by
 have X:∀{b σ C S},wX ((eO n).s sc) b σ C S→Run (execs ((lev whC n).stmt sc) b σ) C S:=sf λxx yy zz ww q=>W.s q
 induction x using PySem.Stmt.casesOn with
 |Return e p=>induction e using Option.casesOn with
  |none=>exact id
  |some e=>exact λq=>A6 (W.e q)
 |Continue p=>exact λq=>zS q
 |Expr e p=>induction e using PySem.Expr.casesOn with
  |Call f args ks p=>exact λq=>zk (W.e q)
  |_=>exact _root_.id
 |If t b o p=>exact λq=>BG ((W.t q).mono λxx yy q=>⟨λe=>X (q.1 e),λe=>X (q.2 e)⟩)
 |Assign ts v p=>induction ts using List.casesOn with
  |nil=>exact id
  |cons t ts=>induction ts using List.casesOn with
   |cons _ _=>exact id
   |nil=>exact vZ W
 |AugAssign t op v p=>induction t using PySem.Expr.casesOn with
  |Subscript o i ps=>induction op using PySem.Operator.casesOn with
   |Add=>
    intro q
    cases h:bf i with
    |true=>
     replace q:(match bf i with|false=>_|true=>Run ((lev whC (n+1)).stmt sc (.AugAssign (.Subscript o i ps) .Add v p) σ) C S):=q
     rw[h] at q;exact q
    |false=>
     replace q:(match bf i with|false=>(eO n).e sc o σ C (kU1 (eO n) sc i v σ S)|true=>_):=q
     rw[h] at q;exact sW h ((W.e q).mono λxx yy q=>(W.e q).mono λxx yy q=>q.mono λxx yy q=>W.e q)
   |_=>exact _root_.id
  |_=>exact _root_.id
 |_=>exact _root_.id
theorem AQ:∀n,WSnd n:=λn=>by
 induction n with
 |zero=>exact⟨id,id,id⟩
 |succ n ih=>exact⟨tv ih,tz ih,uI ih⟩
theorem aj{x:Expr}{T:V→CH→Prop}(q:(eO n).e sc x σ C T):Run ((lev whC n).expr sc x σ) C T:=(AQ n).e q
theorem dR{x:Expr}{T:Bool→CH→Prop}(q:(eO n).t sc x σ C T):Run ((lev whC n).test sc x σ) C T:=(AQ n).t q
theorem yq{x:Stmt}{T:Fl×Env→CH→Prop}(q:(eO n).s sc x σ C T):Run ((lev whC n).stmt sc x σ) C T:=(AQ n).s q
theorem aP{b:List Stmt}{T:Fl×Env→CH→Prop}(q:wX ((eO n).s sc) b σ C T):Run (execs ((lev whC n).stmt sc) b σ) C T:=sf (λxx yy zz ww q=>yq q) q
theorem bM{es:List Expr}{T:List V→CH→Prop}(q:wEs (eO n) sc σ es C T):Run (evs (λe=>(lev whC n).expr sc e σ) es) C T:=jX aj q
theorem lg{t b o:Expr}{p:Pos}{T:V→CH→Prop}(q:(eO n).t sc t σ C (kIf (eO n) sc b o σ T)):Run ((lev whC (n+1)).expr sc (.IfExp t b o p) σ) C T:=Bb ((dR q).mono λxx yy q=>⟨λe=>aj (q.1 e),λe=>aj (q.2 e)⟩)
theorem jq{tp:Bool}{x:Str}{e a b:Expr}{P:List V×Option Nat→CH→Prop}(h0:seq x "range" = true)(h:(eO n).e sc a σ C λu C1=>(eO n).e sc b σ C1 λv C2=>Ex2 λj k=>And4 (u=.int j) (v=.int k) ((jp j&&jp k)=true) (P (range j k,none) C2)):Run (eG tp (λe=>(lev whC n).expr sc e σ) e x [a,b]) C P:=
 sn h0 ((aj h).mono λxx yy h=>aj h)
theorem aS{f:Str}{vs:List V}{Q:V→CH→Prop}(q:yM n f vs C Q):Run ((lev whC (n+1)).call f vs) C Q:=by
 unfold yM at q
 cases hd:fn? f with
 |none=>rw[hd] at q;exact q.elim
 |some d=>
  rw[hd] at q
  replace q:(match sN d with|true=>zr n d vs C Q|false=>False):=q
  cases ho:sN d with
  |false=>rw[ho] at q;exact q.elim
  |true=>
   rw[ho] at q
   obtain⟨nm,⟨p1,as,p2,p3,p4,p5,p6⟩,body,sc,pos⟩:=d
   replace q:(match t7 as vs [] with|some σ=>wX ((eO n).s sc) body σ C (Fin Q)|none=>False):=q
   rw[rE] at q
   cases hb:aW (as.map (·.arg)) vs [] with
   |none=>rw[hb] at q;exact q.elim
   |some σ=>rw[hb] at q;exact tX hd ho hb (aP q)
end
section
local macro_rules |`(tactic| x_close)=>`(tactic| refine(?_:Run _ _ _))
variable {n:Nat}{C:CH}{Q:V→CH→Prop}
theorem ky{a b:Int}(q:Q (.int (Int.gcd a b)) C):Run ((lev whC (n+10)).call "gcd" [.int a,.int b]) C Q:=by
 refine aS ?_
 refine vE ?_;refine vE ?_;x_close
 apply iI (I:=λk σ C'=>C'=C∧∃x y:Nat,And4 (af "a" σ=some (.int x)) (af "b" σ=some (.int y)) (y=k) (Nat.gcd x y=Int.gcd a b)) (k:=b.natAbs)
 ·refine⟨rfl,a.natAbs,b.natAbs,?_,?_,rfl,rfl⟩
  ·exact(ac rfl ab)
  ·exact ab
 ·rintro k σ C' ⟨rfl,x,y,ha,hb,rfl,hg⟩
  refine dR ?_;refine ag ‹_› ?_;refine(?_:_∧_)
  refine⟨λh=>?_,λh=>?_⟩
  ·refine ag ‹_› ?_;conv=>whnf
   have:y=0:=by simpa using h
   subst this
   rw[Nat.gcd_zero_right] at hg
   show hg;exact q
  ·have hy:y≠0:=by simpa using h
   refine aP ?_;refine ag ‹_› ?_;refine ag ‹_› ?_;refine ag ‹_› ?_;x_close
   apply nr
   ·lia
   refine(?_:∃_,_)
   refine⟨x%y,Nat.mod_lt _ ((Nat.pos_of_ne_zero hy)),rfl,y,x%y,?_,?_,rfl,?_⟩
   ·exact(ac rfl ab)
   ·show(Int.fmod_eq_emod_of_nonneg _ (by exact Int.natCast_nonneg _));refine rL (Int.natCast_emod ..) ?_
    exact ab
   ·refine rL (hg ..) ?_;show Nat.gcd_comm x y;show Nat.gcd_rec y x;show Nat.gcd_comm;rfl
noncomputable def rv(q:Rat):V:=.tup [.int q.num,.int q.den]
def aA(m:Nat)(i:Int):Prop:=i.natAbs<2^m
theorem aA.fit{m:Nat}{i:Int}(h:aA m i)(l:m≤8000):fit i=true:=by
 unfold aA at h
 unfold Mine.Lake.fit
 show decide_eq_true_eq
 by_cases h0:i.natAbs=0
 ·show h0;exact Mine.Lake.leb rfl
 ·show propext (Nat.log2_lt h0 ..)
  exact B7 h (Cp (ltb rfl) l)
theorem aA.mul{m k:Nat}{i j:Int}(h:aA m i)(h':aA k j):aA (m+k) (i*j):=by
 unfold aA at *
 show Int.natAbs_mul;show Nat.pow_add
 exact Nat.mul_lt_mul'' h h'
theorem aA.le{m k:Nat}{i:Int}(h:aA m i)(l:m≤k):aA k i:=B7 h (Cp (ltb rfl) l)
def RS(m:Nat)(q:Rat):Prop:=aA m q.num∧aA m q.den
theorem mo{m:Nat}{a b:Int}(h:aA m b)(hb:b≠0):aA m (Int.gcd a b):=by
 unfold aA at *
 have:Int.gcd a b≤b.natAbs:=Nat.gcd_le_right _ (Int.natAbs_pos.mpr hb)
 change (Int.gcd a b:Int).natAbs<_
 show Ct;exact Ck this h
theorem ly{m:Nat}{a:Int}(h:aA m a):aA m (0-a):=by
 unfold aA at *
 show Int.zero_sub;show Int.natAbs_neg;exact h
theorem er{a g:Int}(h:g∣a):a.fdiv g=a/g:=by
 obtain⟨k,rfl⟩:=h
 by_cases h0:g=0
 ·show h0;simp
 ·show Int.mul_fdiv_cancel_left _ h0;show Int.mul_ediv_cancel_left _ h0;rfl
theorem d5{t b:Int}(hb:b≠0){m:Nat}(hs:aA m b)(hm:m≤8000)(q:Q (rv (Rat.divInt t b)) C):Run ((lev whC (n+25)).call "rat" [.int t,.int b]) C Q:=by
 have hg0:(Int.gcd t b:Int)≠0:=by
  intro h
  have:Int.gcd t b=0:=by exact_mod_cast h
  rw[Int.gcd_eq_zero_iff] at this
  exact hb this.2
 have hgs:=mo (a:=t) hs hb
 have hda:(Int.gcd t b:Int)∣t:=Int.gcd_dvd_left ..
 have hdb:(Int.gcd t b:Int)∣b:=Int.gcd_dvd_right ..
 refine aS ?_
 refine(?_:_∧_)
 refine⟨λh=>?_,λh=>?_⟩
 ·exfalso;simp at h;exact hb h
 ·refine lg ?_;refine(?_:_∧_);refine(?_:_∧_)
  refine⟨λh=>?_,λh=>?_⟩
  ·have hp:0<b:=by simpa using h
   x_close
   apply ky
   x_close
   apply hY hg0 (hgs.fit hm)
   x_close
   apply hY hg0 (hgs.fit hm)
   conv=>whnf
   have e:V.tup [V.int (t.fdiv (Int.gcd t b)),V.int (b.fdiv (Int.gcd t b))]=rv (Rat.divInt t b):=by
    unfold rv
    show Rat.num_divInt;show Rat.den_divInt;show if_neg hb;show er hda;show er hdb;show Int.sign_eq_one_of_pos hp;show Int.one_mul;show Int.gcd_comm b t
    congr 3
    show Int.natCast_ediv
    show(show(b.natAbs:Int)=b from Int.natAbs_of_nonneg (Int.le_of_lt hp));rfl
   rw[←e] at q;exact q
  ·have hp:b<0:=by simp at h;exact Std.lt_of_le_of_ne h hb
   x_close
   apply ky
   x_close
   have hg1:(0-(Int.gcd t b:Int))≠0:=by lia
   have hdn:(0-(Int.gcd t b:Int))=-(Int.gcd t b:Int):=Int.zero_sub _
   apply hY hg1 ((ly hgs).fit hm)
   x_close
   apply hY hg1 ((ly hgs).fit hm)
   conv=>whnf
   have e:V.tup [V.int (t.fdiv (0-(Int.gcd t b:Int))),V.int (b.fdiv (0-(Int.gcd t b:Int)))]=rv (Rat.divInt t b):=by
    unfold rv
    show Rat.num_divInt;show Rat.den_divInt;show if_neg hb;show hdn;show er (Int.neg_dvd.mpr hda);show er (Int.neg_dvd.mpr hdb);show Int.sign_eq_neg_one_of_neg hp;show Int.gcd_comm b t
    show Int.ediv_neg;show Int.ediv_neg;show Int.neg_mul;show Int.one_mul;show Int.neg_ediv_of_dvd hda
    congr 3
    show Int.natCast_ediv;refine rL (Int.neg_ediv_of_dvd hdb ..) ?_
    show(show(b.natAbs:Int)=-b from by omega (config:={}));rfl
   rw[←e] at q;exact q
theorem jw(a b:Rat):Rat.divInt (a.num*b.den+b.num*a.den) (a.den*b.den)=a+b:=by
 show Rat.add_def';refine rL (Int.natCast_mul ..) ?_;show Rat.divInt_ofNat;rfl
theorem oX(a b:Rat):Rat.divInt (a.num*b.num) (a.den*b.den)=a*b:=by
 show Rat.mul_def';refine rL (Int.natCast_mul ..) ?_;show Rat.divInt_ofNat;rfl
theorem pd(a:Rat):Rat.divInt a.den a.num=a⁻¹:=(Rat.inv_def a).symm
theorem oO(a b:Rat):Rat.divInt (a.num*b.den) (a.den*b.num)=a/b:=by
 show Rat.div_def;show Rat.inv_def
 conv=>rhs;rw[←Rat.num_divInt_den a]
 show Rat.divInt_mul_divInt;rfl
theorem gD(a:Rat):(a.den:Int)≠0:=by have:=a.den_nz;lia
theorem uc{a b:Rat}(ha:RS 4000 a)(hb:RS 4000 b)(q:Q (rv (a+b)) C):Run ((lev whC (n+40)).call "radd" [rv a,rv b]) C Q:=by
 refine aS ?_
 unfold rv
 x_close
 apply cJ (ha.1.fit (leb rfl)) (hb.2.fit (leb rfl))
 x_close
 apply cJ (hb.1.fit (leb rfl)) (ha.2.fit (leb rfl))
 x_close
 apply cJ (ha.2.fit (leb rfl)) (hb.2.fit (leb rfl))
 x_close
 apply d5 (Int.mul_ne_zero (gD a) (gD b)) (ha.2.mul hb.2) (leb rfl)
 conv=>whnf
 show jw;exact q
theorem fH{a b:Rat}(ha:RS 4000 a)(hb:RS 4000 b)(q:Q (rv (a*b)) C):Run ((lev whC (n+40)).call "rmul" [rv a,rv b]) C Q:=by
 refine aS ?_
 unfold rv
 x_close
 apply cJ (ha.1.fit (leb rfl)) (hb.1.fit (leb rfl))
 x_close
 apply cJ (ha.2.fit (leb rfl)) (hb.2.fit (leb rfl))
 x_close
 apply d5 (Int.mul_ne_zero (gD a) (gD b)) (ha.2.mul hb.2) (leb rfl)
 conv=>whnf
 show oX;exact q
theorem iX{a:Rat}(h:a≠0):a.num≠0:=λe=>h (Rat.num_eq_zero.mp e)
theorem uJ{a b:Rat}(ha:RS 4000 a)(hb:RS 4000 b)(h0:b≠0)(q:Q (rv (a/b)) C):Run ((lev whC (n+40)).call "rdiv" [rv a,rv b]) C Q:=by
 refine aS ?_
 unfold rv
 x_close
 apply cJ (ha.1.fit (leb rfl)) (hb.2.fit (leb rfl))
 x_close
 apply cJ (ha.2.fit (leb rfl)) (hb.1.fit (leb rfl))
 x_close
 apply d5 (Int.mul_ne_zero (gD a) (iX h0)) (ha.2.mul hb.1) (leb rfl)
 conv=>whnf
 show oO;exact q
theorem tx{a:Rat}(q:Q (rv (-a)) C):Run ((lev whC (n+40)).call "rneg" [rv a]) C Q:=by
 refine aS ?_
 unfold rv
 conv=>whnf
 show Int.zero_sub
 exact q
theorem nH{a:Rat}(ha:RS 8000 a)(h0:a≠0)(q:Q (rv a⁻¹) C):Run ((lev whC (n+40)).call "rinv" [rv a]) C Q:=by
 refine aS ?_
 unfold rv
 x_close
 apply d5 (iX h0) ha.1 (leb rfl)
 conv=>whnf
 show pd;exact q
abbrev Mo:=Nat×Nat
abbrev PE:=List (Mo×Rat)
noncomputable def kt(k:Mo):K:=.t [k.1,k.2]
noncomputable def mv(k:Mo):V:=.tup [.int k.1,.int k.2]
noncomputable def enc(P:PE):List (K×V):=P.map λe=>(kt e.1,rv e.2)
noncomputable def bT(k:Mo):PE→Option Rat
 |[]=>none
 |e::r=>if e.1=k then some e.2 else bT k r
noncomputable def fL(k:Mo)(q:Rat):PE→PE
 |[]=>[(k,q)]
 |e::r=>if e.1=k then(e.1,q)::r else e::fL k q r
noncomputable def rmP(k:Mo):PE→PE
 |[]=>[]
 |e::r=>if e.1=k then r else e::rmP k r
theorem jo{j k:Mo}:kt j=kt k↔j=k:=by
 constructor
 ·intro h
  unfold kt at h
  injection h with h
  injection h with h1 h
  injection h with h2
  have:=Int.ofNat.inj h1
  have:=Int.ofNat.inj h2
  exact Prod.ext ‹_› ‹_›
 ·intro h;show h;rfl
theorem bq(k:Mo):(mv k).key=some (kt k):=rfl
theorem kt_v(k:Mo):(kt k).v=mv k:=rfl
theorem enc_lk(k:Mo):∀P:PE,lk (kt k) (enc P)=(bT k P).map rv
 |[]=>rfl
 |e::r=>by
  change lk (kt k) ((kt e.1,rv e.2)::enc r)=_
  unfold lk bT
  by_cases h:e.1=k
  ·show if_pos (jo.mpr h);show if_pos h;rfl
  ·show(if_neg (λx=>h (jo.mp x)));show if_neg h;exact enc_lk k r
theorem gz(k:Mo)(q:Rat):∀P:PE,st (kt k) (rv q) (enc P)=enc (fL k q P)
 |[]=>rfl
 |e::r=>by
  change st (kt k) (rv q) ((kt e.1,rv e.2)::enc r)=_
  unfold st fL
  by_cases h:e.1=k
  ·show if_pos (jo.mpr h);show if_pos h;rfl
  ·show(if_neg (λx=>h (jo.mp x)));show if_neg h;show gz k q r;rfl
theorem rS(k:Mo):∀P:PE,rm (kt k) (enc P)=enc (rmP k P)
 |[]=>rfl
 |e::r=>by
  change rm (kt k) ((kt e.1,rv e.2)::enc r)=_
  unfold rm rmP
  by_cases h:e.1=k
  ·show if_pos (jo.mpr h);show if_pos h;rfl
  ·show(if_neg (λx=>h (jo.mp x)));show if_neg h;show rS k r;rfl
theorem ar(k:Mo)(P:PE):am (kt k) (enc P)=true:=by
 unfold am
 show propext (CA ..)
 intro e h
 refine oEA (Cl.mp h) λx xx zr0=>?_;subst zr0
 rfl
theorem aV(P:PE):(enc P).length=P.length:=B8 ..
noncomputable def aF(P:PE)(k:Mo)(q:Rat):PE:=match bT k P with
 |some u=>if u+q=0 then rmP k P else fL k (u+q) P
 |none=>if q=0 then rmP k P else fL k q P
theorem jM(C:CH)(q:Rat):eqv C 6 (rv q) (.tup [.int 0,.int 1])=some (decide (q=0)):=by
 change some (decide (q.num=0)&&(decide ((q.den:Int)=1)&&true))=_
 congr 1
 by_cases h:q=0
 ·show h;rfl
 ·have:=iX h
  simp[h,this]
def dU(m:Nat)(P:PE):Prop:=∀e∈P,RS m e.2
theorem dF{k:Mo}{u:Rat}:∀{P:PE},bT k P=some u→(k,u)∈P:=λ{P}=>by
 induction P with
 |nil=>
  intro h
  exact cNo h
 |cons e r ih'=>
  intro h
  unfold bT at h
  split at h
  ·rename_i he
   refine cS1 h ?_;subst he;exact B9
  ·exact B6 _ (ih' h)
theorem tT{k:Mo}:∀{P:PE},bT k P=none→rmP k P=P:=λ{P}=>by
 induction P with
 |nil=>
  intro _
  exact rfl
 |cons e r ih'=>
  intro h
  unfold bT at h
  unfold rmP
  split at h
  ·exact cNs h
  ·rename_i he
   show if_neg he;show ih' h;rfl
theorem d9{P:PE}{k:Mo}{q:Rat}{c:Nat}(hc:Has C c (.dict (enc P)))(hP:dU 4000 P)(hq:RS 4000 q)(hl:P.length≤10000)
  (h:∀v C',ak c C C'→Has C' c (.dict (enc (aF P k q)))→C'.length=C.length→Q v C'):Run ((lev whC (n+60)).call "add_term" [.cell c,mv k,rv q]) C Q:=by
 refine aS ?_
 refine lg ?_;x_close;x_close
 apply Ay hc (bq k) (ar k P)
 show enc_lk
 unfold aF at h
 refine⟨λe=>?_,λe=>?_⟩
 all_goals
  cases hg:bT k P with
  |some u=>?_
  |none=>?_
 all_goals(rw[hg] at e h;simp only at h;first|(first|exact cFt e|exact cTf e);done|skip)
 ·x_close
  apply bQ hc (bq k) (ar k P) (by show enc_lk;show hg;rfl)
  x_close
  apply uc (hP _ (dF hg)) hq
  x_close
  apply xg (jM _ _)
  refine⟨λe=>?_,λe=>?_⟩
  ·rw[if_pos (by simpa using e)] at h
   x_close
   apply de ‹_› (ac rfl (ac rfl (ac rfl ab))) hc (by change aH false _=true;assumption)
   refine bM ?_;refine(?_:∃_,_)
   refine iEa3 _ hc rfl ?_
   apply qM hc (bq k) (ar k P)
   ·intro v hv C' g hh hl
    conv=>whnf
    rw[rS] at hh
    exact h _ C' g hh hl
   ·intro hv;rw[enc_lk,hg] at hv;exact cNs hv
  ·rw[if_neg (by simpa using e)] at h
   x_close
   apply fg hc (bq k) (ar k P) (by show aV;exact hl)
   intro C' g hh hl
   conv=>whnf
   rw[gz] at hh
   exact h _ C' g hh hl
 ·x_close
  apply xg (jM _ _)
  refine⟨λe=>?_,λe=>?_⟩
  ·rw[if_pos (by simpa using e)] at h
   x_close
   apply de (rfl) (ac rfl (ac rfl (ac rfl ab))) hc (by change aH false _=true;rfl)
   refine bM ?_;refine(?_:∃_,_)
   refine iEa3 _ hc rfl ?_
   apply qM hc (bq k) (ar k P)
   ·intro v hv;rw[enc_lk,hg] at hv;exact cNo hv
   ·intro hv
    conv=>whnf
    rw[tT hg] at h
    exact h _ C (ak.refl _ _) hc rfl
  ·rw[if_neg (by simpa using e)] at h
   x_close
   apply fg hc (bq k) (ar k P) (by show aV;exact hl)
   intro C' g hh hl
   conv=>whnf
   rw[gz] at hh
   exact h _ C' g hh hl
theorem gV{sc:Scope}{x:Str}(h:cx sc x=true):∀{σ:Env},af x (bk sc σ)=af x σ:=λ{σ}=>by
 induction σ with
 |nil=>
  exact rfl
 |cons hd' r ih'=>
  obtain⟨y,v⟩:=hd'
  unfold bk
  show List.filter_cons
  by_cases hq:seq x y=true
  ·have:x=y:=by exact aQ hq
   subst this
   show if_pos h;show ab;show ab;rfl
  ·have hq:seq x y=false:=by simpa using hq
   show ac hq rfl
   split
   ·show ac hq rfl;exact ih'
   ·exact ih'
noncomputable def keys(P:PE):List Mo:=P.map (·.1)
def jC(P:PE):Prop:=bX ((enc P).map λe=>i0 e.1)=true
noncomputable def bl(A B:PE):PE:=B.foldl (λF e=>aF F e.1 e.2) A
theorem eg{k:Mo}{q:Rat}:∀{P:PE},(fL k q P).length≤P.length+1
 |[]=>B5 _ _
 |e::r=>by
  show fL.eq_2
  split
  ·simp
  ·have:=eg (k:=k) (q:=q) (P:=r);simp;exact this
theorem mP{k:Mo}:∀{P:PE},(rmP k P).length≤P.length
 |[]=>Mine.Lake.leb rfl
 |e::r=>by
  unfold rmP
  split
  ·exact Nat.le_succ _
  ·have:=mP (k:=k) (P:=r);simp;exact this
theorem eQ{P:PE}{k:Mo}{q:Rat}:(aF P k q).length≤P.length+1:=by
 unfold aF
 have:=eg (k:=k) (q:=q) (P:=P)
 have:=mP (k:=k) (P:=P)
 split
 ·rename_i u _
  have:=eg (k:=k) (q:=u+q) (P:=P)
  split<;>lia
 ·split<;>lia
theorem gu:∀{B A:PE},(bl A B).length≤A.length+B.length
 |[],A=>by simp[bl]
 |e::r,A=>by
  have:=gu (B:=r) (A:=aF A e.1 e.2)
  have:=eQ (P:=A) (k:=e.1) (q:=e.2)
  change (bl (aF A e.1 e.2) r).length≤_
  simp;lia
theorem setP_mem{k:Mo}{q:Rat}{e:Mo×Rat}:∀{P:PE},e∈fL k q P→e=(k,q)∨e∈P:=λ{P}=>by
 induction P with
 |nil=>
  intro h
  simp[fL] at h;exact .inl h
 |cons d r ih'=>
  intro h
  rw[fL.eq_2] at h
  split at h
  ·rename_i hd
   rcases Cb.mp h with h|h
   ·exact .inl (by show h;show hd;rfl)
   ·exact .inr (B6 _ h)
  ·rcases Cb.mp h with h|h
   ·exact .inr (by show h;exact B9)
   ·rcases ih' h with h|h
    ·exact .inl h
    ·exact .inr (B6 _ h)
theorem dA{k:Mo}{e:Mo×Rat}:∀{P:PE},e∈rmP k P→e∈P:=λ{P}=>by
 induction P with
 |nil=>
  intro h
  exact h
 |cons d r ih'=>
  intro h
  unfold rmP at h
  split at h
  ·exact B6 _ h
  ·rcases Cb.mp h with h|h
   ·show h;exact B9
   ·exact B6 _ (ih' h)
set_option tactic.hygienic true in
theorem addTerm_mem{P:PE}{k:Mo}{q:Rat}{e:Mo×Rat}(h:e∈aF P k q):e∈P∨(e.1=k∧(e.2=q∨∃u,(k,u)∈P∧e.2=u+q)):=by
 unfold aF at h
 split at h
 ·rename_i u hu
  split at h
  ·exact .inl (dA h)
  ·rcases setP_mem h with h|h
   ·show h;exact .inr ⟨rfl,.inr ⟨u,dF hu,rfl⟩⟩
   ·exact .inl h
 ·split at h
  ·exact .inl (dA h)
  ·rcases setP_mem h with h|h
   ·show h;exact .inr ⟨rfl,.inl rfl⟩
   ·exact .inl h
theorem RS.le{m k:Nat}{q:Rat}(h:RS m q)(l:m≤k):RS k q:=⟨h.1.le l,h.2.le l⟩
theorem aA.add{m:Nat}{i j:Int}(h:aA m i)(h':aA m j):aA (m+1) (i+j):=by
 unfold aA at *
 have:=Int.natAbs_add_le i j
 show Nat.pow_succ;lia
theorem aA.ediv{m:Nat}{i:Int}(h:aA m i)(g:Nat):aA m (i/g):=by
 unfold aA at *
 refine Ck ?_ h
 by_cases hg:g=0
 ·show hg;exact Int.natAbs_ediv_le_natAbs _ _
 ·exact Int.natAbs_ediv_le_natAbs _ _
theorem eT{m:Nat}{i:Int}{d:Nat}(h:aA m i)(h':aA m d)(h1:1≤m):RS m (mkRat i d):=by
 refine⟨?_,?_⟩
 ·show Rat.num_mkRat
  split
  ·unfold aA;simp;exact Nat.pow_pos (ltb rfl)
  ·exact aA.ediv h _
 ·show Rat.den_mkRat
  split
  ·unfold aA
   change 1<2^m
   exact Nat.one_lt_two_pow ((Nat.ne_of_gt (Nat.lt_of_succ_le h1)))
  ·unfold aA at *
   simp only[Int.natAbs_natCast] at *
   exact Ck (Nat.div_le_self _ _) h'
theorem RS.add{m:Nat}{a b:Rat}(h:RS m a)(h':RS m b):RS (m+m+1) (a+b):=by
 show Rat.add_def'
 refine eT ((h.1.mul h'.2).add (h'.1.mul h.2)) ?_ (leb rfl)
 show Int.natCast_mul
 exact(h.2.mul h'.2).le ((Cw _ _))
theorem RS.mul{m:Nat}{a b:Rat}(h:RS m a)(h':RS m b)(h1:1≤m):RS (m+m) (a*b):=by
 show Rat.mul_def'
 refine eT (h.1.mul h'.1) ?_ ((Nat.le_add_right_of_le h1))
 show Int.natCast_mul
 exact h.2.mul h'.2
theorem RS.neg{m:Nat}{a:Rat}(h:RS m a):RS m (-a):=⟨by show Rat.neg_num;unfold aA;show Int.natAbs_neg;exact h.1,h.2⟩
theorem bu{P:PE}{e:Mo×Rat}(h:e∈P):e.1∈keys P:=Cl.mpr ⟨e,h,rfl⟩
theorem aw{k:Mo}{u:Rat}:∀{P:PE},(keys P).Nodup→(k,u)∈P→bT k P=some u:=λ{P}=>by
 induction P with
 |nil=>
  intro _ h
  cases h
 |cons e r ih'=>
  intro hn h
  have hn:(e.1::keys r).Nodup:=hn
  rw[List.nodup_cons] at hn
  unfold bT
  rcases Cb.mp h with h|h
  ·subst h;exact if_pos rfl
  ·have:e.1≠k:=λx=>hn.1 (x▸bu h)
   show if_neg this;exact ih' hn.2 h
theorem lY(l:List Int)(P:PE):am (.t l) (enc P)=true:=by
 unfold am
 show propext (CA ..)
 intro e h
 refine oEA (Cl.mp h) λx xx zr0=>?_;subst zr0
 rfl
theorem rD{A B:PE}{ca cb:Nat}(ha:Has C ca (.dict (enc A)))(hb:Has C cb (.dict (enc B)))(fa:dU 1500 A)(fb:dU 1500 B)(hh:jC A)(nb:(keys B).Nodup)(l:A.length+B.length≤10000)
  (q:∀c C',az C C'→aE C c→Has C' c (.dict (enc (bl A B)))→Q (.cell c) C'):Run ((lev whC (n+80)).call "mvadd" [.cell ca,.cell cb]) C Q:=by
 refine aS ?_
 x_close
 apply u7 ha
 ·show lY [] A
  unfold jC at hh
  show hh;show aV
  simp;exact Nat.le_of_add_right_le l
 apply an
 intro c C1 g1 f1 h1
 x_close
 apply bR (rfl)
 refine aK rfl ?_;refine aj ?_;x_close
 have hb1:=hb.grow g1
 have hne:cb≠c:=hb.ne f1
 apply bG hb1
 refine cj (.has hb1) (λvs σ C'=>Ex2 λdn rs=>And7 (B=dn++rs) (vs=rs.map (λe=>mv e.1)) (af "found" σ=some (.cell c)) (af "b" σ=some (.cell cb)) (ak c C1 C') (Has C' c (.dict (enc (bl A dn)))) (∀e∈bl A dn,RS 4000 e.2∧(e.1∈keys rs→RS 1500 e.2))) ?_ ?_ ?_ ?_
 ·refine ij [] B rfl ?_ ?_ ?_ (ak.refl _ _) h1 (λe he=>⟨(fa e he).le (leb rfl),λxx=>fa e he⟩)
  ·unfold enc;show List.map_map;rfl
  ·exact ab
  ·exact(ac rfl ab)
 ·rintro vs σ C' ⟨dn,rs,e1,e2,e3,e4,e5,e6,e7⟩
  exact .but e5 (.has hb1) (by simpa using hne)
 ·rintro v r σ C' ⟨dn,rs,e1,e2,e3,e4,e5,e6,e7⟩
  cases rs with
  |nil=>injection e2
  |cons e rs=>
   rw[Cc] at e2
   injection e2 with e2 e2'
   show e2
   refine(?_:∃_,_);refine bY ?_;refine aP ?_;refine ag ‹_› ?_;refine ag ‹_› ?_;x_close
   have hbC:=hb1.but e5 hne
   have hmem:e∈B:=by show e1;exact Cq _ (.head _)
   apply bQ hbC (bq e.1) (ar _ _) (by show enc_lk;show aw nb (k:=e.1) (u:=e.2) hmem;rfl)
   x_close
   apply d9 e6 (λd hd=>(e7 d hd).1) ((fb e hmem).le (leb rfl))
   ·have:=gu (B:=dn) (A:=A)
    have:B.length=dn.length+(rs.length+1):=by show e1;simp
    lia
   intro v C2 g2 h2 l2
   conv=>whnf
   refine ij (dn++[e]) rs (by show e1;exact Co _ _ _) e2' ?_ ?_ (e5.trans g2) ?_ ?_
   ·assumption
   ·assumption
   ·unfold bl at h2 ⊢;show List.foldl_append;exact h2
   ·intro d hd
    have hd:d∈aF (bl A dn) e.1 e.2:=by unfold bl at hd ⊢;rw[List.foldl_append] at hd;exact hd
    have hk:e.1∉keys rs:=by
     rw[e1] at nb
     unfold keys at nb
     rw[List.map_append,List.nodup_append] at nb
     exact(List.nodup_cons.mp nb.2.1).1
    rcases addTerm_mem hd with hd|⟨hd,h⟩
    ·exact⟨(e7 d hd).1,λhm=>(e7 d hd).2 (B6 _ hm)⟩
    ·refine⟨?_,λhm=>absurd (hd▸hm) hk⟩
     rcases h with h|⟨u,hu,h⟩
     ·show h;exact(fb e hmem).le (leb rfl)
     ·show h;exact(((e7 _ hu).2 (by change e.1∈e.1::keys rs;exact B9)).add (fb e hmem)).le (leb rfl)
 ·rintro σ C' ⟨dn,rs,e1,e2,e3,e4,e5,e6,e7⟩
  cases rs with
  |cons e rs=>injection e2
  |nil=>
   rw[Cn] at e1
   subst e1
   refine ag ‹_› ?_;conv=>whnf
   exact q c C' ((g1.but.trans e5).fresh f1) f1 e6
theorem qG{sc:Scope}{x y:Str}(h:aM sc x=true)(h':cx sc y=true):seq y x=false:=by
 cases hq:seq y x with
 |false=>rfl
 |true=>
  have:=aQ hq
  subst this
  exfalso
  unfold aM at h
  unfold cx at h'
  cases hk:aR sc y with
  |none=>rw[hk] at h;exact cFt h
  |some k=>rw[hk] at h h';cases k<;>first|exact cFt h;done|exact cFt h'
theorem kp{k:Mo}{q:Rat}:∀{P:PE},k∉keys P→fL k q P=P++[(k,q)]:=λ{P}=>by
 induction P with
 |nil=>
  intro _
  exact rfl
 |cons e r ih'=>
  intro h
  have h1:e.1≠k:=λx=>h (by refine rL (x ..) ?_;exact B9)
  show fL.eq_2
  show if_neg h1;show(ih' (λx=>h (B6 _ x)));rfl
theorem rX{wh:Wh}{P:PE}{F:Mo×Rat→Mo×Rat}{sc sc':Scope}{σ:Env}{x:Str}{px p:Pos}{it ke ve:Expr}{ca:Nat}(h0:(bV sc sc'&&aq sc' (.Name x px))=true)(hpl:qO it=true)
  (ha:Has C ca (.dict (enc P))) (hit:Run ((lev wh n).expr sc it σ) C λv C1=>v=.cell ca∧C1=C) (hn:(keys (P.map F)).Nodup) (hl:P.length≤10000)
  (body:∀e∈P,∀σ' C1,(∀y,cx sc' y=true→af y σ'=af y σ)→az C C1→Run ((lev wh n).expr sc' ke ((x,mv e.1)::σ')) C1 λkv C2=>And3 (kv=mv (F e).1) (az C1 C2) (Run ((lev wh n).expr sc' ve ((x,mv e.1)::σ')) C2 λvv C3=>vv=rv (F e).2∧az C2 C3))
  (q:∀c C',az C C'→aE C c→Has C' c (.dict (enc (P.map F)))→Q (.cell c) C') :
  Run ((lev wh (n+1)).expr sc (.DictComp ke ve [⟨.Name x px,it,[],0⟩] sc' p) σ) C Q:=by
 have hx:aM sc' x=true:=(Bool.and_eq_true_iff.mp h0).2
 apply sv h0
 apply aK hpl
 refine hit.mono ?_
 rintro v C1 ⟨rfl,rfl⟩
 apply bG ha
 refine cj (.has ha) (λvs σ' acc C'=>Ex2 λdn rs=>And5 (P=dn++rs) (vs=rs.map (λe=>mv e.1)) (∀y,cx sc' y=true→af y σ'=af y σ) (az C1 C') (acc=enc (dn.map F))) ?_ ?_ ?_ ?_
 ·refine⟨[],P,rfl,?_,λy hy=>gV hy,az.refl _,rfl⟩
  unfold enc;show List.map_map;rfl
 ·rintro vs σ' acc C' ⟨dn,rs,e1,e2,e3,e4,e5⟩
  exact .grow e4 (.has ha)
 ·rintro v r σ' acc C' ⟨dn,rs,e1,e2,e3,e4,e5⟩
  cases rs with
  |nil=>injection e2
  |cons e rs=>
   rw[Cc] at e2
   injection e2 with e2 e2'
   show e2
   refine iEA _ rfl ?_
   apply bg
   refine⟨λxx=>?_,cTf⟩
   have hmem:e∈P:=by show e1;exact Cq _ (.head _)
   refine(body e hmem σ' C' e3 e4).mono ?_
   rintro kv C2 ⟨rfl,g2,h2⟩
   refine h2.mono ?_
   rintro vv C3 ⟨rfl,g3⟩
   show e5
   have hk:(F e).1∉keys (dn.map F):=by
    rw[e1] at hn
    unfold keys at hn ⊢
    rw[List.map_append,List.map_append,List.nodup_append] at hn
    intro hm
    exact hn.2.2 _ hm _ (.head _) rfl
   refine⟨kt (F e).1,bq _,ar _ _,?_,dn++[e],rs,by show e1;exact Co _ _ _,e2',λy hy=>?_,e4.trans (g2.trans g3),?_⟩
   ·show aV
    have:=congrArg List.length e1
    simp at this ⊢;lia
   ·show ac (qG hx hy) rfl;exact e3 y hy
   ·show gz;show kp hk;show List.map_append;rfl
 ·rintro σ' acc C' ⟨dn,rs,e1,e2,e3,e4,e5⟩
  cases rs with
  |cons e rs=>injection e2
  |nil=>
   rw[Cn] at e1
   subst e1 e5
   apply an
   intro c C2 g f hh
   exact q c C2 (e4.trans g) (f.grow e4) hh
noncomputable def bA(f:Rat→Rat)(A:PE):PE:=A.map λe=>(e.1,f e.2)
theorem bF(f:Rat→Rat)(A:PE):keys (bA f A)=keys A:=by
 unfold keys bA;show List.map_map;rfl
theorem sa{A:PE}{ca:Nat}(ha:Has C ca (.dict (enc A)))(na:(keys A).Nodup)(l:A.length≤10000)
  (q:∀c C',az C C'→aE C c→Has C' c (.dict (enc (bA (λu=>-u) A)))→Q (.cell c) C'):Run ((lev whC (n+80)).call "mvneg" [.cell ca]) C Q:=by
 refine aS ?_
 x_close
 refine rX (F:=λe=>(e.1,-e.2)) (Bool.and_self _) rfl ha ?_ (by show(show A.map _=bA (λu=>-u) A from rfl);show bF;exact na) l ?_ ?_
 ·refine aj ?_;refine(?_:_∧_)
  exact⟨rfl,rfl⟩
 ·intro e he σ' C1 hσ g
  refine aj ?_;conv=>whnf
  refine⟨rfl,az.refl _,?_⟩
  have hl:=(hσ "a" (rfl)).trans ab
  refine aj ?_;refine ag ‹_› ?_;x_close
  apply bQ (ha.grow g) (bq e.1) (ar _ _) (by show enc_lk;show aw na (k:=e.1) (u:=e.2) he;rfl)
  x_close
  apply tx
  exact⟨rfl,az.refl _⟩
 ·intro c C' g f h
  conv=>whnf
  exact q c C' g f h
theorem rV{A B:PE}{ca cb:Nat}(ha:Has C ca (.dict (enc A)))(hb:Has C cb (.dict (enc B)))(fa:dU 1500 A)(fb:dU 1500 B)(hh:jC A)(nb:(keys B).Nodup)(l:A.length+B.length≤10000)
  (q:∀c C',az C C'→aE C c→Has C' c (.dict (enc (bl A (bA (λu=>-u) B))))→Q (.cell c) C'):Run ((lev whC (n+100)).call "mvsub" [.cell ca,.cell cb]) C Q:=by
 refine aS ?_
 x_close
 apply sa hb nb ((Nat.le_of_add_left_le l))
 intro c1 C1 g1 f1 h1
 x_close
 refine rD (ha.grow g1) h1 fa ?_ hh (by show bF;exact nb) (by unfold bA;show B8;exact l) ?_
 ·intro e he
  refine oEA (Cl.mp he) λd hd zr0=>?_;subst zr0
  exact(fb d hd).neg
 intro c2 C2 g2 f2 h2
 conv=>whnf
 exact q c2 C2 (g1.trans g2) (f2.grow g1) h2
theorem cc{A:PE}{ca:Nat}{u:Rat}(ha:Has C ca (.dict (enc A)))(na:(keys A).Nodup)(fa:dU 4000 A)(fu:RS 4000 u)(l:A.length≤10000)
  (q:∀c C',az C C'→aE C c→Has C' c (.dict (enc (if u=0 then[] else bA (λv=>v*u) A)))→Q (.cell c) C'):Run ((lev whC (n+80)).call "mvscale" [.cell ca,rv u]) C Q:=by
 refine aS ?_
 x_close
 apply xg (jM _ _)
 refine⟨λh=>?_,λh=>?_⟩
 ·rw[if_pos (by simpa using h)] at q
  x_close
  apply bW (rfl)
  apply aO
  refine iEA [] rfl ?_
  apply an
  intro c C' g f h
  conv=>whnf
  exact q c C' g f h
 ·rw[if_neg (by simpa using h)] at q
  x_close
  refine rX (F:=λe=>(e.1,e.2*u)) (Bool.and_self _) rfl ha ?_ (by show(show A.map _=bA (λv=>v*u) A from rfl);show bF;exact na) l ?_ ?_
  ·refine aj ?_;refine(?_:_∧_)
   exact⟨rfl,rfl⟩
  ·intro e he σ' C1 hσ g
   refine aj ?_;conv=>whnf
   refine⟨rfl,az.refl _,?_⟩
   have hl:=(hσ "a" (rfl)).trans (show _=some (V.cell ca) from ac rfl ab)
   have hl2:=(hσ "rational" (rfl)).trans (show _=some (rv u) from ab)
   refine aj ?_;refine ag ‹_› ?_;x_close
   apply bQ (ha.grow g) (bq e.1) (ar _ _) (by show enc_lk;show aw na (k:=e.1) (u:=e.2) he;rfl)
   refine ag ‹_› ?_;x_close
   apply fH (fa e he) fu
   exact⟨rfl,az.refl _⟩
  ·intro c C' g f h
   conv=>whnf
   exact q c C' g f h
theorem iy{wh:Wh}{vs:List V}{R:V→Option V}{sc sc':Scope}{σ:Env}{t it elt:Expr}{ifs:List Expr}{p:Pos}(h0:(bV sc sc'&&aq sc' t)=true)
  (hit:Run (iter (isTup t) (λe=>(lev wh n).expr sc e σ) sc it) C λx C1=>And3 (x.1=vs) (gN x.2 C1) (az C C1)) (hl:vs.length≤10000)
  (body:∀v∈vs,∀σ' C1,(∀y,cx sc' y=true→af y σ'=af y σ)→az C C1→∃σ'',And3 (target t v σ'=some σ'') (∀y,cx sc' y=true→af y σ''=af y σ') (Run (iH (λe=>(lev wh n).test sc' e σ'') ifs) C1 λb C2=>And3 (az C1 C2) (b=true→Run ((lev wh n).expr sc' elt σ'') C2 λr C3=>R v=some r∧az C2 C3) (b=false→R v=none)))
  (q:∀c C',az C C'→aE C c→Has C' c (.list (vs.filterMap R))→Q (.cell c) C') :
  Run ((lev wh (n+1)).expr sc (.ListComp elt [⟨t,it,ifs,0⟩] sc' p) σ) C Q:=by
 apply jY h0
 refine hit.mono ?_
 rintro⟨us,s⟩ C1 ⟨e0,hs,g1⟩
 simp only at e0;subst e0
 refine⟨hs,λws σ' acc C'=>∃dn,And4 (us=dn++ws) (∀y,cx sc' y=true→af y σ'=af y σ) (az C1 C') (acc=dn.filterMap R),?_,?_,?_,?_⟩
 ·exact sL [] rfl (λy hy=>gV hy) (az.refl _) rfl
 ·rintro ws σ' acc C' ⟨dn,e1,e2,e3,e4⟩
  exact .grow e3 hs
 ·rintro v r σ' acc C' ⟨dn,e1,e2,e3,e4⟩
  refine cv (body v (by show e1;exact List.mem_append_cons_self) σ' C' e2 (g1.trans e3)) λσ'' h1 h2 h3=>?_
  have hfree:∀y,cx sc' y=true→af y σ''=af y σ:=λy hy=>(h2 y hy).trans (e2 y hy)
  refine iEA σ'' h1 (h3.mono ?_)
  rintro b C2 ⟨g2,h4,h5⟩
  refine⟨λhb=>⟨?_,(h4 hb).mono ?_⟩,λhb=>?_⟩
  ·show e4
   have:=List.length_filterMap_le R dn
   have:=congrArg List.length e1
   simp at this;lia
  ·rintro r' C3 ⟨h6,g3⟩
   refine sL (dn++[v]) (by show e1;exact Co _ _ _) hfree (e3.trans (g2.trans g3)) ?_
   show List.filterMap_append;show e4;show List.filterMap_cons;show h6;rfl
  ·refine sL (dn++[v]) (by show e1;exact Co _ _ _) hfree (e3.trans g2) ?_
   show List.filterMap_append;show e4;show List.filterMap_cons;show h5 hb;simp
 ·rintro σ' acc C' ⟨dn,e1,e2,e3,e4⟩
  rw[Cn] at e1
  subst e1 e4
  apply an
  intro c C2 g f hh
  exact q c C2 (g1.trans (e3.trans g)) (f.grow (g1.trans e3)) hh
theorem aI{sc:Scope}{x y:Str}{v:V}{σ:Env}(hx:aM sc x=true)(hy:cx sc y=true):af y ((x,v)::σ)=af y σ:=ac (qG hx hy) rfl
theorem cw{j k:Mo}(q:∀C',az C C'→Q (mv (j.1+k.1,j.2+k.2)) C'):Run ((lev whC (n+30)).call "powers_product" [mv j,mv k]) C Q:=by
 refine aS ?_
 x_close
 refine iy (vs:=eh 0 [.int j.1,.int j.2]) (R:=λv=>match v with|.tup [.int i,.int a]=>if i=0 then some (.int (a+k.1)) else some (.int (a+k.2))|_=>none) (Bool.and_self _) ?_ (by change 2≤10000;exact leb rfl) ?_ ?_
 ·refine aZ rfl ?_;refine cK rfl rfl ?_;refine aj ?_;conv=>whnf
  left
  exact yU _ rfl rfl .none (az.refl _)
 ·intro v hv σ' C1 hσ g
  have hb:=(hσ "b" (rfl)).trans (show _=some (.tup [.int k.1,.int k.2]) from ab)
  rcases Cb.mp hv with rfl|hv
  ·refine iEa3 _ rfl (λy hy=>?_) ?_
   ·show aI (rfl) hy;show aI (rfl) hy;rfl
   ·apply bg
    refine⟨az.refl _,λxx=>?_,cTf⟩
    refine aj ?_;refine ag ‹_› ?_;refine(?_:_∧_)
    exact⟨rfl,az.refl _⟩
  ·rcases Cb.mp hv with rfl|hv
   ·refine iEa3 _ rfl (λy hy=>?_) ?_
    ·show aI (rfl) hy;show aI (rfl) hy;rfl
    ·apply bg
     refine⟨az.refl _,λxx=>?_,cTf⟩
     refine aj ?_;refine ag ‹_› ?_;refine(?_:_∧_)
     exact⟨rfl,az.refl _⟩
   ·cases hv
 ·intro c C' g f h
  x_close
  apply sB h
  conv=>whnf
  exact q C' g
theorem eN{j k:Mo}(h1:k.1≤j.1)(h2:k.2≤j.2)(q:∀C',az C C'→Q (mv (j.1-k.1,j.2-k.2)) C'):Run ((lev whC (n+30)).call "powers_quotient" [mv j,mv k]) C Q:=by
 refine aS ?_
 x_close
 refine iy (vs:=eh 0 [.int j.1,.int j.2]) (R:=λv=>match v with|.tup [.int i,.int a]=>if i=0 then some (.int (a-k.1)) else some (.int (a-k.2))|_=>none) (Bool.and_self _) ?_ (by change 2≤10000;exact leb rfl) ?_ ?_
 ·refine aZ rfl ?_;refine cK rfl rfl ?_;refine aj ?_;conv=>whnf
  left
  exact yU _ rfl rfl .none (az.refl _)
 ·intro v hv σ' C1 hσ g
  have hb:=(hσ "b" (rfl)).trans (show _=some (.tup [.int k.1,.int k.2]) from ab)
  rcases Cb.mp hv with rfl|hv
  ·refine iEa3 _ rfl (λy hy=>?_) ?_
   ·show aI (rfl) hy;show aI (rfl) hy;rfl
   ·apply bg
    refine⟨az.refl _,λxx=>?_,cTf⟩
    refine aj ?_;refine ag ‹_› ?_;refine(?_:_∧_)
    exact⟨rfl,az.refl _⟩
  ·rcases Cb.mp hv with rfl|hv
   ·refine iEa3 _ rfl (λy hy=>?_) ?_
    ·show aI (rfl) hy;show aI (rfl) hy;rfl
    ·apply bg
     refine⟨az.refl _,λxx=>?_,cTf⟩
     refine aj ?_;refine ag ‹_› ?_;refine(?_:_∧_)
     exact⟨rfl,az.refl _⟩
   ·cases hv
 ·intro c C' g f h
  x_close
  apply sB h
  conv=>whnf
  have e:V.tup (List.filterMap (λv=>match v with|.tup [.int i,.int a]=>if i=0 then some (.int (a-k.1)) else some (.int (a-k.2))|_=>none) (eh 0 [.int j.1,.int j.2]))=mv (j.1-k.1,j.2-k.2):=by
   change V.tup [.int ((j.1:Int)-k.1),.int ((j.2:Int)-k.2)]=V.tup [.int ((j.1-k.1:Nat):Int),.int ((j.2-k.2:Nat):Int)]
   show Int.natCast_sub h1;show Int.natCast_sub h2;rfl
  show e
  exact q C' g
noncomputable def dv(j k:Mo):Bool:=decide (j.1≤k.1)&&decide (j.2≤k.2)
theorem gh{j k:Mo}(q:Q (.bool (dv j k)) C):Run ((lev whC (n+30)).call "powers_divide" [mv j,mv k]) C Q:=by
 refine aS ?_
 x_close
 apply bR (rfl)
 refine aZ rfl ?_;refine cK rfl rfl ?_;refine aj ?_;conv=>whnf
 left
 refine⟨_,rfl,.none,λvs σ C'=>And3 (C'=C) (af "b" σ=some (.tup [.int k.1,.int k.2])) (vs=eh 0 [.int j.1,.int j.2]∨(vs=[.tup [.int 1,.int j.2]]∧j.1≤k.1)∨(And3 (vs=[]) (j.1≤k.1) (j.2≤k.2))),?_,?_,?_,?_⟩
 ·exact⟨rfl,ab,.inl rfl⟩
 ·intros;exact .none
 ·rintro v r σ C' ⟨rfl,hb,h⟩
  rcases h with h|⟨h,h1⟩|⟨h,h1,h2⟩
  ·injection h with h h'
   subst h h'
   refine iEA _ rfl ?_
   refine aP ?_;refine ag ‹_› ?_;refine(?_:_∧_)
   refine⟨λhc=>?_,λhc=>?_⟩
   ·conv=>whnf
    have e:dv j k=false:=by
     unfold dv
     have:¬j.1≤k.1:=by simpa using hc
     simp[this]
    rw[e] at q
    exact q
   ·conv=>whnf
    refine⟨rfl,‹_›,.inr (.inl ⟨rfl,by simpa using hc⟩)⟩
  ·injection h with h h'
   subst h h'
   refine iEA _ rfl ?_
   refine aP ?_;refine ag ‹_› ?_;refine(?_:_∧_)
   refine⟨λhc=>?_,λhc=>?_⟩
   ·conv=>whnf
    have e:dv j k=false:=by
     unfold dv
     have:¬j.2≤k.2:=by simpa using hc
     simp[this]
    rw[e] at q
    exact q
   ·conv=>whnf
    refine⟨rfl,‹_›,.inr (.inr ⟨rfl,h1,by simpa using hc⟩)⟩
  ·injection h
 ·rintro σ C' ⟨rfl,hb,h⟩
  rcases h with h|⟨h,h1⟩|⟨h,h1,h2⟩
  ·injection h
  ·injection h
  ·conv=>whnf
   have e:dv j k=true:=by unfold dv;simp[h1,h2]
   rw[e] at q
   exact q
theorem jS{k:Mo}(q:Q (mv k) C):Run ((lev whC (n+20)).call "order_key" [.str "lex",mv k]) C Q:=by
 refine aS ?_
 x_close
 apply xg (r:=true)
 ·rfl
 refine⟨λh=>?_,cTf⟩
 conv=>whnf
 exact q
noncomputable def bZ(j k:Mo):Mo:=(j.1+k.1,j.2+k.2)
noncomputable def be(A:PE)(k:Mo)(u:Rat):PE:=A.map λe=>(bZ e.1 k,e.2*u)
theorem oI{i j k:Mo}(h:bZ i k=bZ j k):i=j:=by
 unfold bZ at h
 injection h with h1 h2
 exact Prod.ext ((Nat.add_right_cancel h1)) ((Nat.add_right_cancel h2))
theorem eV(A:PE)(k:Mo)(u:Rat):keys (be A k u)=(keys A).map (bZ · k):=by
 unfold keys be;show List.map_map;show List.map_map;rfl
theorem r5{α β:Type}{f:α→β}(hf:∀a b,f a=f b→a=b):∀{l:List α},l.Nodup→(l.map f).Nodup:=λ{l}=>by
 induction l with
 |nil=>
  intro _
  exact List.nodup_nil
 |cons a l ih'=>
  intro h
  rw[List.nodup_cons] at h
  show Cc;show propext (List.nodup_cons ..)
  refine⟨λhm=>?_,ih' h.2⟩
  refine oEA (Cl.mp hm) λb hb e=>?_
  exact h.1 (hf _ _ e▸hb)
theorem d6{A:PE}{k:Mo}{u:Rat}(h:(keys A).Nodup):(keys (be A k u)).Nodup:=by
 show eV;exact r5 (λa b e=>oI e) h
theorem mQ{A:PE}{ca:Nat}{k:Mo}{u:Rat}(ha:Has C ca (.dict (enc A)))(na:(keys A).Nodup)(fa:dU 4000 A)(fu:RS 4000 u)(l:A.length≤10000)
  (q:∀c C',az C C'→aE C c→Has C' c (.dict (enc (if u=0 then[] else be A k u)))→Q (.cell c) C'):Run ((lev whC (n+80)).call "mvshift" [.cell ca,mv k,rv u]) C Q:=by
 refine aS ?_
 x_close
 apply xg (jM _ _)
 refine⟨λh=>?_,λh=>?_⟩
 ·rw[if_pos (by simpa using h)] at q
  x_close
  apply bW (rfl)
  apply aO
  refine iEA [] rfl ?_
  apply an
  intro c C' g f h
  conv=>whnf
  exact q c C' g f h
 ·rw[if_neg (by simpa using h)] at q
  x_close
  refine rX (F:=λe=>(bZ e.1 k,e.2*u)) (Bool.and_self _) rfl ha ?_ (d6 (k:=k) (u:=u) na) l ?_ ?_
  ·refine aj ?_;refine(?_:_∧_)
   exact⟨rfl,rfl⟩
  ·intro e he σ' C1 hσ g
   have hl:=(hσ "a" (rfl)).trans (show _=some (V.cell ca) from ac rfl (ac rfl ab))
   have hl2:=(hσ "rational" (rfl)).trans (show _=some (rv u) from ab)
   have hl3:=(hσ "powers" (rfl)).trans (show _=some (mv k) from ac rfl ab)
   refine aj ?_;refine ag ‹_› ?_;x_close
   apply cw
   intro C2 g2
   refine⟨rfl,g2,?_⟩
   refine aj ?_;refine ag ‹_› ?_;x_close
   apply bQ (ha.grow (g.trans g2)) (bq e.1) (ar _ _) (by show enc_lk;show aw na (k:=e.1) (u:=e.2) he;rfl)
   refine ag ‹_› ?_;x_close
   apply fH (fa e he) fu
   exact⟨rfl,az.refl _⟩
  ·intro c C' g f h
   conv=>whnf
   exact q c C' g f h
noncomputable def nv(j k:Mo):Bool:=bI [j.1,j.2] [k.1,k.2]
noncomputable def di:Option Mo→Mo→Option Mo
 |none,k=>some k
 |some b,k=>if nv k b then some k else some b
noncomputable def k9(A:PE):Option Mo:=(keys A).foldl di none
noncomputable def ov:Option Mo→V
 |none=>.nn
 |some k=>mv k
noncomputable def m9(A:PE):V:=match k9 A with
 |none=>.nn
 |some k=>.tup [mv k,rv ((bT k A).getD 0)]
theorem best1_mem{l:List Mo}:∀{b:Option Mo}{k:Mo},l.foldl di b=some k→b=some k∨k∈l:=by
 induction l with
 |nil=>intro b k h;exact .inl h
 |cons a l ih=>
  intro b k h
  rw[Cx] at h
  rcases ih h with h|h
  ·induction b using Option.casesOn with
   |none=>injection h with h;exact .inr (by show h;exact B9)
   |some b=>
    simp only[di] at h
    split at h
    ·injection h with h;exact .inr (by show h;exact B9)
    ·exact .inl h
  ·exact .inr (B6 _ h)
theorem eZ{k:Mo}:∀{P:PE},k∈keys P→∃u,bT k P=some u:=λ{P}=>by
 induction P with
 |nil=>
  intro h
  cases h
 |cons e r ih'=>
  intro h
  unfold bT
  by_cases he:e.1=k
  ·exact⟨_,by show if_pos he;rfl⟩
  ·show if_neg he
   rcases Cb.mp h with h|h
   ·exact absurd h.symm he
   ·exact ih' h
theorem fY{A:PE}{ca:Nat}(ha:Has C ca (.dict (enc A)))(na:(keys A).Nodup)(q:Q (m9 A) C):Run ((lev whC (n+50)).call "mvlead" [.cell ca,.str "lex"]) C Q:=by
 refine aS ?_
 x_close
 apply bR (rfl)
 refine aK rfl ?_;refine aj ?_;x_close
 apply bG ha
 refine cj (.has ha) (λvs σ C'=>And4 (C'=C) (af "a" σ=some (.cell ca)) (af "order" σ=some (.str "lex")) (Ex2 λdn rs=>And4 (keys A=dn++rs) (vs=rs.map mv) (af "best" σ=some (ov (dn.foldl di none))) (af "highest" σ=some (ov (dn.foldl di none))))) ?_ ?_ ?_ ?_
 ·refine⟨rfl,ac rfl (ac rfl (ac rfl ab)),ac rfl (ac rfl ab),[],keys A,rfl,?_,?_,?_⟩
  ·unfold enc keys;show List.map_map;show List.map_map;rfl
  ·change _=some V.nn
   exact(ac rfl ab)
  ·change _=some V.nn
   exact ab
 ·rintro vs σ C' ⟨rfl,_⟩
  exact .grow (az.refl _) (.has ha)
 ·rintro v r σ C' ⟨rfl,ha',ho,dn,rs,e1,e2,e3,e4⟩
  cases rs with
  |nil=>injection e2
  |cons e rs=>
   rw[Cc] at e2
   injection e2 with e2 e2'
   show e2
   have hend:∀{σ'':Env},af "a" σ''=some (.cell ca)→af "order" σ''=some (.str "lex")→af "best" σ''=some (ov (di (dn.foldl di none) e))→af "highest" σ''=some (ov (di (dn.foldl di none) e))→
     (And4 (C'=C') (af "a" σ''=some (.cell ca)) (af "order" σ''=some (.str "lex")) (Ex2 λdn rs=>And4 (keys A=dn++rs) (r=rs.map mv) (af "best" σ''=some (ov (dn.foldl di none))) (af "highest" σ''=some (ov (dn.foldl di none))))):=by
    intro σ'' h1 h2 h3 h4
    refine⟨rfl,h1,h2,dn++[e],rs,by show e1;exact Co _ _ _,e2',?_,?_⟩<;>show List.foldl_append<;>assumption
   refine(?_:∃_,_);refine bY ?_;refine aP ?_;refine ag ‹_› ?_;x_close
   apply jS
   cases hb:dn.foldl di none with
   |none=>
    rw[hb] at e3 e4 hend
    unfold ov at e3 e4
    simp only at e3 e4
    refine ag ‹_› ?_;refine(?_:_∧_)
    refine⟨λxx=>?_,cTf⟩
    refine⟨λxx=>?_,cTf⟩
    conv=>whnf
    exact hend ‹_› ‹_› (show _=some (mv e) from ac rfl ab) (show _=some (mv e) from ab)
   |some b=>
    rw[hb] at e3 e4 hend
    unfold ov mv at e3 e4
    simp only at e3 e4
    refine ag ‹_› ?_;refine(?_:_∧_)
    refine⟨cFt,λxx=>?_⟩
    refine ag ‹_› ?_;x_close
    apply Au (l:=[e.1,e.2]) (m:=[b.1,b.2]) rfl rfl
    refine⟨λh=>?_,λh=>?_⟩
    ·refine⟨λxx=>?_,cTf⟩
     conv=>whnf
     have e5:di (some b) e=some e:=if_pos (show nv e b=true from h)
     rw[e5] at hend
     exact hend ‹_› ‹_› (show _=some (mv e) from ac rfl ab) (show _=some (mv e) from ab)
    ·refine(?_:_∧_)
     refine⟨cFt,λxx=>?_⟩
     conv=>whnf
     have e5:di (some b) e=some b:=if_neg (show ¬nv e b=true by unfold nv;show h;exact Cy)
     rw[e5] at hend
     exact hend ‹_› ‹_› (show _=some (V.tup [.int b.1,.int b.2]) by assumption) (show _=some (V.tup [.int b.1,.int b.2]) by assumption)
 ·rintro σ C' ⟨rfl,ha',ho,dn,rs,e1,e2,e3,e4⟩
  cases rs with
  |cons e rs=>injection e2
  |nil=>
   rw[Cn] at e1
   subst e1
   unfold m9 k9 at q
   cases hb:(keys A).foldl di none with
   |none=>
    rw[hb] at e3 q
    unfold ov at e3
    simp only at e3 q
    refine lg ?_;refine ag ‹_› ?_;refine(?_:_∧_);refine(?_:_∧_)
    refine⟨λxx=>?_,cTf⟩
    conv=>whnf
    exact q
   |some b=>
    rw[hb] at e3 q
    unfold ov mv at e3
    simp only at e3 q
    refine lg ?_;refine ag ‹_› ?_;refine(?_:_∧_);refine(?_:_∧_)
    refine⟨cFt,λxx=>?_⟩
    refine ag ‹_› ?_;refine ag ‹_› ?_;refine ag ‹_› ?_;x_close
    have hm:b∈keys A:=by
     rcases best1_mem hb with h|h
     ·exact cNo h
     ·exact h
    refine oE (eZ hm) λu hu=>?_
    apply bQ ha (k:=kt b) rfl (ar _ _) (by show enc_lk;show hu;rfl)
    conv=>whnf
    rw[hu] at q
    exact q
theorem Has.neLD{a b:Nat}{vs:List V}{es:List (K×V)}(h:Has C a (.list vs))(h':Has C b (.dict es)):a≠b:=by
 intro e;subst e
 refine oE h λv h=>?_
 refine oE h' λv' h'=>?_
 rw[h] at h';refine cSp h' λzx zy=>?_;clear h';injection zx
theorem gn{la:Nat}{j k:Mo}{w:V}(h:Has C la (.list [.tup [mv j,w]]))(q:Q (.int (if dv j k then 0 else -1)) C):Run ((lev whC (n+50)).call "first_divisor" [mv k,.cell la]) C Q:=by
 refine aS ?_
 x_close
 apply bR (rfl)
 refine aZ rfl ?_;refine cK rfl rfl ?_;refine aj ?_;conv=>whnf
 right
 refine du la _ rfl h (.has h) (λvs σ C'=>And3 (C'=C) (af "powers" σ=some (mv k)) (vs=[.tup [.int 0,.tup [mv j,w]]]∨(vs=[]∧dv j k=false))) ?_ ?_ ?_ ?_
 ·exact⟨rfl,ac rfl ab,.inl rfl⟩
 ·rintro vs σ C' ⟨rfl,_⟩
  exact .grow (az.refl _) (.has h)
 ·rintro v r σ C' ⟨rfl,hb,hv⟩
  rcases hv with hv|⟨hv,h1⟩
  ·injection hv with hv hv'
   subst hv hv'
   refine iEA _ rfl ?_
   refine aP ?_;refine(?_:_∧_)
   refine⟨cTf,λxx=>?_⟩
   refine ag ‹_› ?_;x_close
   apply gh
   refine⟨λhc=>?_,λhc=>?_⟩
   ·refine⟨cFt,λxx=>?_⟩
    conv=>whnf
    exact⟨rfl,‹_›,.inr ⟨rfl,hc⟩⟩
   ·refine(?_:_∧_)
    refine⟨λxx=>?_,cTf⟩
    conv=>whnf
    rw[if_pos hc] at q
    exact q
  ·injection hv
 ·rintro σ C' ⟨rfl,hb,hv⟩
  rcases hv with hv|⟨hv,h1⟩
  ·injection hv
  ·conv=>whnf
   rw[h1] at q
   exact q
noncomputable def ld(P:PE):Mo:=(k9 P).getD (0,0)
noncomputable def lc(P:PE):Rat:=(bT (ld P) P).getD 0
noncomputable def subM(j k:Mo):Mo:=(j.1-k.1,j.2-k.2)
theorem pc{l:List Mo}:∀{b:Mo},∃k,l.foldl di (some b)=some k:=by
 induction l with
 |nil=>intro b;exact⟨b,rfl⟩
 |cons a l ih=>
  intro b
  show Cx
  simp only[di]
  split
  ·exact ih
  ·exact ih
theorem leadP_some{P:PE}(h:P≠[]):k9 P=some (ld P):=by
 induction P using List.casesOn with
 |nil=>exact absurd rfl h
 |cons e r=>
  refine oE (pc (l:=keys r) (b:=e.1)) λk hk=>?_
  have:k9 (e::r)=some k:=hk
  unfold ld
  show this;rfl
theorem gq{P:PE}(h:P≠[]):m9 P=.tup [mv (ld P),rv (lc P)]:=by
 unfold m9
 show leadP_some h;rfl
structure DS where
 q:PE
 r:PE
 l:PE
noncomputable def gl(b:PE)(s:DS):DS:=
 if dv (ld b) (ld s.l) then⟨aF s.q (subM (ld s.l) (ld b)) (lc s.l/lc b),s.r,bl s.l (bA (λu=>-u) (be b (subM (ld s.l) (ld b)) (lc s.l/lc b)))⟩
 else⟨s.q,fL (ld s.l) (lc s.l) s.r,rmP (ld s.l) s.l⟩
structure RunOk(b:PE)(s:DS):Prop where
 nl:(keys s.l).Nodup
 fl:dU 1500 s.l
 hl:jC s.l
 ll:s.l.length≤1000
 fq:dU 4000 s.q
 lq:s.q.length≤1000
 lr:s.r.length≤1000
 fc:s.l≠[]→dv (ld b) (ld s.l)=true→And4 (lc s.l/lc b≠0) (RS 4000 (lc s.l)) (RS 4000 (lc s.l/lc b)) (dU 1500 (be b (subM (ld s.l) (ld b)) (lc s.l/lc b)))
theorem vB(j k:Mo):mv (j.1-k.1,j.2-k.2)=mv (subM j k):=rfl
theorem Af(C:CH):True:=trivial
theorem yA{P:PE}(h:P≠[]):bT (ld P) P=some (lc P):=by
 have hm:ld P∈keys P:=by
  rcases best1_mem (leadP_some h) with h|h
  ·exact cNo h
  ·exact h
 refine oE (eZ hm) λu hu=>?_
 unfold lc
 show hu;rfl
theorem l9{f b:PE}{cf cb cs:Nat}(hf:Has C cf (.dict (enc f)))(hb:Has C cb (.dict (enc b)))(hs:Has C cs (.list [.cell cb]))(nb:(keys b).Nodup)(fb:dU 4000 b)(b0:b≠[])(lb:b.length≤1000)(wb:lc b≠0)(rb:RS 4000 (lc b))
  (G:Nat→DS→Prop) (T:Nat) (h0:G T ⟨[],[],f⟩) (hG:∀T s,G T s→RunOk b s∧(s.l≠[]→∃T',T'<T∧G T' (gl b s)))
  (q:∀c1 c2 c3 s T C',az C C'→G T s→s.l=[]→Has C' c1 (.list [.cell c2])→Has C' c2 (.dict (enc s.q))→Has C' c3 (.dict (enc s.r))→aE C c2→aE C c3→Q (.tup [.cell c1,.cell c3]) C') :
  Run ((lev whC (n+130)).call "mvdivide" [.cell cf,.cell cs,.str "lex"]) C Q:=by
 refine aS ?_
 x_close
 refine iy (vs:=[.cell cb]) (R:=λxx=>some (m9 b)) (Bool.and_self _) ?_ (by change 1≤10000;exact leb rfl) ?_ ?_
 ·refine aK rfl ?_;refine aj ?_;x_close
  apply cE hs
  exact⟨rfl,.has hs,az.refl _⟩
 ·intro v hv σ' C1 hσ g
  have ho:=(hσ "order" (rfl)).trans (show _=some (V.str "lex") from ab)
  rcases Cb.mp hv with rfl|hv
  ·refine iEa3 _ rfl (λy hy=>aI (rfl) hy) ?_
   apply bg
   refine⟨az.refl _,λxx=>?_,cTf⟩
   refine aj ?_;refine ag ‹_› ?_;x_close
   apply fY (hb.grow g) nb
   exact⟨rfl,az.refl _⟩
  ·cases hv
 intro la C1 g1 f1 h1
 rw[show List.filterMap (λxx=>some (m9 b)) [V.cell cb]=[m9 b] from rfl,gq b0] at h1
 x_close
 apply jY (Bool.and_self _)
 refine aK rfl ?_;refine aj ?_;x_close
 apply cE (hs.grow g1)
 refine cj (.has (hs.grow g1)) (λws σ' acc C'=>az C1 C'∧((ws=[.cell cb]∧acc=[])∨(ws=[]∧∃c,And3 (acc=[.cell c]) (Has C' c (.dict (enc []))) (aE C1 c)))) ?_ ?_ ?_ ?_
 ·exact⟨az.refl _,.inl ⟨rfl,rfl⟩⟩
 ·rintro ws σ' acc C' ⟨g,_⟩
  exact .grow g (.has (hs.grow g1))
 ·rintro v r σ' acc C' ⟨g,h|⟨h,_⟩⟩
  ·obtain⟨h,rfl⟩:=h
   injection h with h h'
   subst h h'
   refine iEA _ rfl ?_
   apply bg
   refine⟨λxx=>⟨by simp,?_⟩,cTf⟩
   apply bW ‹_›
   apply aO
   refine iEA [] rfl ?_
   apply an
   intro c C2 g2 f2 h2
   exact⟨g.trans g2,.inr ⟨rfl,c,rfl,h2,f2.grow g⟩⟩
  ·injection h
 rintro σ' acc C2 ⟨g2,h|⟨_,cq,rfl,hq,fq⟩⟩
 ·cases h.1
 apply an
 intro lq C3 g3 f3 h3
 x_close
 apply bW (rfl)
 apply aO
 refine iEA [] rfl ?_
 apply an
 intro cr C4 g4 f4 h4
 x_close
 have g14:az C1 C4:=g2.trans (g3.trans g4)
 have g04:az C C4:=g1.trans g14
 have hR:=(hG T _ h0).1
 apply u7 (hf.grow g04)
 ·show lY [] f;show(show bX _=true from hR.hl);show aV
  have:=hR.ll
  simp at this ⊢;exact B4 this (B5 _ _)
 apply an
 intro cl C5 g5 f5 h5
 x_close
 have hq4:=hq.grow (g3.trans g4)
 have hne1:cq≠cr:=(hq.grow g3).ne f4
 have hne2:cq≠cl:=hq4.ne f5
 have hne3:cr≠cl:=h4.ne f5
 have fC:∀{c},aE C1 c→aE C c:=λh=>h.grow g1
 have fcr:aE C cr:=(f4.grow (g2.trans g3)).grow g1
 have fcl:aE C cl:=f5.grow g04
 apply iI (k:=T) (I:=λT σ C'=>Ex2 λs cl=>And14 (G T s) (az C C') (Has C' la (.list [.tup [mv (ld b),rv (lc b)]])) (Has C' lq (.list [.cell cq])) (Has C' cq (.dict (enc s.q))) (Has C' cr (.dict (enc s.r))) (Has C' cl (.dict (enc s.l))) (cq≠cl) (cr≠cl) (aE C cl) (af "leads" σ=some (.cell la)) (af "quotients" σ=some (.cell lq)) (af "rest" σ=some (.cell cr)) (And3 (af "left" σ=some (.cell cl)) (af "some" σ=some (.cell cs)) (af "order" σ=some (.str "lex"))))
 ·exact⟨⟨[],[],f⟩,cl,h0,g04.trans g5,h1.grow (g14.trans g5),h3.grow (g4.trans g5),hq4.grow g5,h4.grow g5,h5,hne2,hne3,fcl,ac rfl (ac rfl (ac rfl ab)),ac rfl (ac rfl ab),ac rfl ab,ab,ac rfl (ac rfl (ac rfl (ac rfl (ac rfl ab)))),ac rfl (ac rfl (ac rfl (ac rfl ab)))⟩
 clear hne2 hne3 fcl h5 f5 hq4
 clear g5
 rintro T σ C' ⟨s,cl,hs',gC,hla,hlq,hcq,hcr,hcl,n1,n2,fl,k1,k2,k3,k4,k5,k6⟩
 refine oA (hG T s hs') λR hstep=>?_
 refine dR ?_;refine ag ‹_› ?_;x_close
 apply ma hcl
 refine(?_:_∧_)
 show aV
 refine⟨λhc=>?_,λhc=>?_⟩
 ·have hl0:s.l=[]:=by
   have:¬0<(s.l.length:Int):=by simpa using hc
   exact List.length_eq_zero_iff.mp (by lia)
  refine ag ‹_› ?_;refine ag ‹_› ?_;conv=>whnf
  exact q lq cq cr s T C' gC hs' hl0 hlq hcq hcr (fC fq) fcr
 ·have hl0:s.l≠[]:=by
   intro h;rw[h] at hc;simp at hc
  refine oEA (hstep hl0) λT' hT' hs2=>?_
  refine aP ?_;refine ag ‹_› ?_;refine ag ‹_› ?_;x_close
  apply fY hcl R.nl
  show gq hl0
  refine ag ‹_› ?_;x_close
  apply gn hla
  refine(?_:_∧_)
  unfold gl at hs2
  refine⟨λhd=>?_,λhd=>?_⟩
  ·have hd:dv (ld b) (ld s.l)=false:=by
    cases h:dv (ld b) (ld s.l) with
    |false=>rfl
    |true=>rw[h] at hd;simp at hd
   rw[hd] at hs2
   rw[if_neg (Cy)] at hs2
   refine ag ‹_› ?_;x_close
   apply fg hcr (bq _) (ar _ _) (by show aV;have:=R.lr;exact B4 this (Mine.Lake.leb rfl))
   intro C6 g6 h6 l6
   x_close
   have hcl6:=hcl.but g6 (λh=>n2 h.symm)
   apply de (rfl) ‹_› hcl6 (by change aH false _=true;rfl)
   refine bM ?_;refine(?_:∃_,_)
   refine iEa3 _ hcl6 rfl ?_
   apply xW hcl6 (bq _) (ar _ _) (by show enc_lk;show yA hl0;rfl)
   intro C7 g7 h7 l7
   refine(?_:∃_,_)
   refine⟨T',hT',_,cl,hs2,?_,?_,?_,?_,?_,?_,n1,n2,fl,‹_›,‹_›,‹_›,‹_›,‹_›,‹_›⟩
   ·exact(((gC.but.trans g6).fresh fcr).but.trans g7).fresh fl
   ·exact(hla.but g6 (hla.neLD hcr)).but g7 (hla.neLD hcl)
   ·exact(hlq.but g6 (hlq.neLD hcr)).but g7 (hlq.neLD hcl)
   ·exact(hcq.but g6 hne1).but g7 n1
   ·rw[gz] at h6;exact h6.but g7 n2
   ·rw[rS] at h7;exact h7
  ·have hd:dv (ld b) (ld s.l)=true:=by
    cases h:dv (ld b) (ld s.l) with
    |true=>rfl
    |false=>rw[h] at hd;simp at hd
   refine oa4 (R.fc hl0 hd) λq0 q1 q2 q3=>?_
   rw[hd] at hs2
   rw[if_pos rfl] at hs2
   have hdv:=hd
   unfold dv at hdv
   rw[Ca,decide_eq_true_eq,decide_eq_true_eq] at hdv
   simp only[hd,if_true]
   refine ag ‹_› ?_;x_close
   apply br hla (v:=.tup [mv (ld b),rv (lc b)]) rfl
   x_close
   apply eN hdv.1 hdv.2
   intro C6 g6
   refine ag ‹_› ?_;x_close
   apply br (hla.grow g6) (v:=.tup [mv (ld b),rv (lc b)]) rfl
   x_close
   apply uJ q1 rb wb
   refine ag ‹_› ?_;x_close
   apply br (hlq.grow g6) (v:=.cell cq) rfl
   x_close
   show vB
   apply d9 (hcq.grow g6) R.fq q2 (by have:=R.lq;exact B4 this (Mine.Lake.leb rfl))
   intro v C7 g7 h7 l7
   refine ag ‹_› ?_;refine ag ‹_› ?_;x_close
   have gC6:az C C6:=gC.trans g6
   have gC7:az C C7:=(gC6.but.trans g7).fresh (fC fq)
   apply br (hs.grow gC7) (v:=.cell cb) rfl
   x_close
   apply mQ (hb.grow gC7) nb fb q2 ((B4 lb (B5 _ _)))
   intro c8 C8 g8 f8 h8
   rw[if_neg q0] at h8
   x_close
   have hcl8:=((hcl.grow g6).but g7 (λh=>n1 h.symm)).grow g8
   apply rV hcl8 h8 R.fl q3 R.hl (d6 nb) (by have:=R.ll;show(show(be b _ _).length=b.length from B8 ..);exact B4 (Nat.add_le_add this lb) (Mine.Lake.leb rfl))
   intro c9 C9 g9 f9 h9
   refine(?_:∃_,_)
   have g79:az C7 C9:=g8.trans g9
   refine⟨T',hT',_,c9,hs2,gC7.trans g79,?_,?_,?_,?_,?_,?_,?_,?_,‹_›,‹_›,‹_›,ab,‹_›,‹_›⟩
   ·exact((hla.grow g6).but g7 (hla.neLD hcq)).grow g79
   ·exact((hlq.grow g6).but g7 (hlq.neLD hcq)).grow g79
   ·exact h7.grow g79
   ·exact((hcr.grow g6).but g7 (λh=>hne1 h.symm)).grow g79
   ·exact h9
   ·exact(h7.grow g8).ne f9
   ·exact(((hcr.grow g6).but g7 (λh=>hne1 h.symm)).grow g8).ne f9
   ·exact f9.grow (gC7.trans g8)
theorem nj{f b:PE}{cf cb:Nat}(hf:Has C cf (.dict (enc f)))(hb:Has C cb (.dict (enc b)))(nb:(keys b).Nodup)(fb:dU 4000 b)(b0:b≠[])(lb:b.length≤1000)(wb:lc b≠0)(rb:RS 4000 (lc b))
  (G:Nat→DS→Prop) (T:Nat) (h0:G T ⟨[],[],f⟩) (hG:∀T s,G T s→RunOk b s∧(s.l≠[]→∃T',T'<T∧G T' (gl b s)))
  (q:∀s T C',az C C'→G T s→s.l=[]→(s.r=[]→∀c,Has C' c (.dict (enc s.q))→aE C c→Q (.cell c) C')∧(s.r≠[]→Q .nn C')) :
  Run ((lev whC (n+150)).call "mvexact" [.cell cf,.cell cb]) C Q:=by
 refine aS ?_
 x_close
 apply ma hb
 refine(?_:_∧_)
 show aV
 refine⟨λhc=>?_,λhc=>?_⟩
 ·exfalso
  have:(b.length:Int)=0:=by simpa using hc
  exact b0 (List.length_eq_zero_iff.mp (by lia))
 ·x_close
  apply an
  intro cs C1 g1 f1 h1
  x_close
  apply l9 (hf.grow g1) (hb.grow g1) h1 nb fb b0 lb wb rb G T h0 hG
  intro c1 c2 c3 s T' C2 g2 hs hl a1 a2 a3 f2 f3
  refine oA (q s T' C2 (g1.trans g2) hs hl) λq1 q2=>?_
  refine lg ?_;x_close;x_close
  apply ma a3
  refine(?_:_∧_)
  show aV
  refine⟨λhc=>?_,λhc=>?_⟩
  ·have:s.r=[]:=by
    have:(s.r.length:Int)=0:=by simpa using hc
    exact List.length_eq_zero_iff.mp (by lia)
   x_close
   apply br a1 (v:=.cell c2) rfl
   conv=>whnf
   exact q1 this c2 a2 (f2.grow g1)
  ·have:s.r≠[]:=by
    intro h;rw[h] at hc;simp at hc
   conv=>whnf
   exact q2 this
def eP(N:Nat)(P:PE):Prop:=∀e∈P,e.2.den=1∧e.2.num.natAbs≤N
noncomputable def addRow(A:PE)(F:PE)(d:Mo×Rat):PE:=A.foldl (λF e=>aF F (bZ e.1 d.1) (e.2*d.2)) F
noncomputable def eH(A B:PE):PE:=B.foldl (addRow A) []
theorem vz{a b:Rat}(ha:a.den=1)(hb:b.den=1):(a+b).den=1∧(a+b).num=a.num+b.num:=by
 have h:a+b=mkRat (a.num+b.num) 1:=by show Rat.add_def';show ha;show hb;simp
 show h;show Rat.num_mkRat;show Rat.den_mkRat;simp
theorem rP{a b:Rat}(ha:a.den=1)(hb:b.den=1):(a*b).den=1∧(a*b).num=a.num*b.num:=by
 have h:a*b=mkRat (a.num*b.num) 1:=by show Rat.mul_def';show ha;show hb;rfl
 show h;show Rat.num_mkRat;show Rat.den_mkRat;simp
theorem eK{m N:Nat}{q:Rat}(hd:q.den=1)(hn:q.num.natAbs≤N)(h:N<2^m)(hm:1≤m):RS m q:=by
 refine⟨Ck hn h,?_⟩
 show hd
 change 1<2^m
 exact Nat.one_lt_two_pow ((Nat.ne_of_gt (Nat.lt_of_succ_le hm)))
theorem eP.add{N a:Nat}{P:PE}{k:Mo}{q:Rat}(h:eP N P)(hq:q.den=1∧q.num.natAbs≤a):eP (N+a) (aF P k q):=by
 intro e he
 rcases addTerm_mem he with he|⟨_,he|⟨u,hu,he⟩⟩
 ·have:=h e he
  exact⟨this.1,(Nat.le_add_right_of_le this.2)⟩
 ·show he;exact⟨hq.1,(Nat.le_add_left_of_le hq.2)⟩
 ·show he
  have h1:=h _ hu
  have:=vz h1.1 hq.1
  refine⟨this.1,?_⟩
  show this.2
  have:=Int.natAbs_add_le u.num q.num
  have h2:=h1.2
  simp only at h2
  exact B4 this (Nat.add_le_add h2 hq.2)
theorem jL{A:PE}{a b:Nat}(hA:eP a A){d:Mo×Rat}(hd:d.2.den=1∧d.2.num.natAbs≤b):∀{F:PE}{N:Nat},eP N F→eP (N+A.length*(a*b)) (addRow A F d):=by
 induction A with
 |nil=>intro F N h;simpa [addRow] using h
 |cons e A ih=>
  intro F N h
  have he:=hA e B9
  have hm:=rP he.1 hd.1
  have h1:eP (N+a*b) (aF F (bZ e.1 d.1) (e.2*d.2)):=h.add ⟨hm.1,by show hm.2;show Int.natAbs_mul;exact Nat.mul_le_mul he.2 hd.2⟩
  have:=ih (λe he=>hA e (B6 _ he)) h1
  change eP _ (addRow A (aF F (bZ e.1 d.1) (e.2*d.2)) d)
  intro x hx
  have:=this x hx
  refine⟨this.1,?_⟩
  have h2:=this.2
  show Ch;show Nat.succ_mul;lia
theorem jm{A:PE}{d:Mo×Rat}:∀{F:PE},(addRow A F d).length≤F.length+A.length:=by
 induction A with
 |nil=>intro F;simp[addRow]
 |cons e A ih=>
  intro F
  have:=ih (F:=aF F (bZ e.1 d.1) (e.2*d.2))
  have h2:=eQ (P:=F) (k:=bZ e.1 d.1) (q:=e.2*d.2)
  change (addRow A (aF F (bZ e.1 d.1) (e.2*d.2)) d).length≤_
  simp;lia
theorem j0{A:PE}{a b:Nat}(hA:eP a A):∀{B F:PE}{N:Nat},eP b B→eP N F→eP (N+B.length*(A.length*(a*b))) (B.foldl (addRow A) F)
 |[],F,N,_,h=>by simpa using h
 |d::B,F,N,hB,h=>by
  have h1:=jL hA (hB d B9) h
  have:=j0 hA (B:=B) (λe he=>hB e (B6 _ he)) h1
  intro x hx
  have:=this x hx
  refine⟨this.1,?_⟩
  have h2:=this.2
  show Ch;show Nat.succ_mul;omega (config:={})
theorem j9{A:PE}:∀{B F:PE},(B.foldl (addRow A) F).length≤F.length+B.length*A.length
 |[],F=>Cw _ _
 |d::B,F=>by
  have h1:=jm (A:=A) (d:=d) (F:=F)
  have h2:=j9 (A:=A) (B:=B) (F:=addRow A F d)
  show Cx;show Ch;show Nat.succ_mul;lia
theorem uS{a b c:Nat}(h:a≤b):a*c≤b*c:=Cs c h
theorem rq{A B:PE}{ca cb:Nat}{a b:Nat}(ha:Has C ca (.dict (enc A)))(hb:Has C cb (.dict (enc B)))(na:(keys A).Nodup)(nb:(keys B).Nodup)(iA:eP a A)(iB:eP b B)(hN:B.length*(A.length*(a*b))+a+b+a*b<2^4000)(hl:B.length*A.length≤10000)
  (q:∀c C',az C C'→aE C c→Has C' c (.dict (enc (eH A B)))→Q (.cell c) C'):Run ((lev whC (n+90)).call "mvmul" [.cell ca,.cell cb]) C Q:=by
 refine aS ?_
 x_close
 apply bW (rfl)
 apply aO
 refine iEA [] rfl ?_
 apply an
 intro c C1 g1 f1 h1
 x_close
 apply bR (rfl)
 refine aK rfl ?_;refine aj ?_;x_close
 have hb1:=hb.grow g1
 have ha1:=ha.grow g1
 have nbc:cb≠c:=hb.ne f1
 have nac:ca≠c:=ha.ne f1
 apply bG hb1
 refine cj (.has hb1) (λvs σ C'=>Ex2 λdn rs=>And7 (B=dn++rs) (vs=rs.map (λe=>mv e.1)) (af "found" σ=some (.cell c)) (af "b" σ=some (.cell cb)) (af "a" σ=some (.cell ca)) (ak c C1 C') (Has C' c (.dict (enc (dn.foldl (addRow A) []))))) ?_ ?_ ?_ ?_
 ·refine ij [] B rfl ?_ ab (ac rfl ab) (ac rfl (ac rfl ab)) (ak.refl _ _) h1
  unfold enc;show List.map_map;rfl
 ·rintro vs σ C' ⟨dn,rs,e1,e2,e3,e4,e5,e6,e7⟩
  exact .but e6 (.has hb1) (by simpa using nbc)
 ·rintro v r σ C' ⟨dn,rs,e1,e2,e3,e4,e5,e6,e7⟩
  cases rs with
  |nil=>injection e2
  |cons d rs=>
   rw[Cc] at e2
   injection e2 with e2 e2'
   show e2
   have hmem:d∈B:=by show e1;exact Cq _ (.head _)
   have hdn:∀x∈dn,x∈B:=λx hx=>by show e1;exact List.mem_append_left _ hx
   have hBl:B.length=dn.length+(rs.length+1):=by show e1;simp
   have haC:=ha1.but e6 nac
   refine(?_:∃_,_);refine bY ?_;refine aP ?_;x_close
   apply bR (rfl)
   refine aK rfl ?_;refine aj ?_;refine ag ‹_› ?_;x_close
   apply bG haC
   refine cj (.has haC) (λvs σ' C''=>Ex2 λdm rm=>And9 (A=dm++rm) (vs=rm.map (λe=>mv e.1)) (af "found" σ'=some (.cell c)) (af "b" σ'=some (.cell cb)) (af "a" σ'=some (.cell ca)) (af "powers" σ'=some (mv d.1)) (ak c C1 C'') (ak c C' C'') (Has C'' c (.dict (enc (addRow dm (dn.foldl (addRow A) []) d))))) ?_ ?_ ?_ ?_
   ·refine mR [] A rfl ?_ (‹_›) (‹_›) (‹_›) ab e6 (ak.refl _ _) e7
    unfold enc;show List.map_map;rfl
   ·rintro vs σ' C'' ⟨dm,rm,x1,x2,x3,x4,x5,x6,x7,x8,x9⟩
    exact .but x8 (.has haC) (by simpa using nac)
   ·rintro v r' σ' C'' ⟨dm,rm,x1,x2,x3,x4,x5,x6,x7,x8,x9⟩
    cases rm with
    |nil=>injection x2
    |cons e rm=>
     rw[Cc] at x2
     injection x2 with x2 x2'
     show x2
     have hmemA:e∈A:=by show x1;exact Cq _ (.head _)
     have hdm:∀x∈dm,x∈A:=λx hx=>by show x1;exact List.mem_append_left _ hx
     have hAl:A.length=dm.length+(rm.length+1):=by show x1;simp
     have iF:=j0 iA (B:=dn) (F:=[]) (N:=0) (b:=b) (λx hx=>iB x (hdn x hx)) (λx hx=>by cases hx)
     have iF2:=jL (A:=dm) (λx hx=>iA x (hdm x hx)) (iB d hmem) iF
     have lF:=j9 (A:=A) (B:=dn) (F:=[])
     have lF2:=jm (A:=dm) (d:=d) (F:=dn.foldl (addRow A) [])
     have hm1:dn.length*A.length+dm.length≤B.length*A.length:=by
      exact B4 (Nat.add_le_add_left (by lia) _) (B4 (Cg (Nat.succ_mul _ _).symm) (Cs _ (by lia)))
     have hm2:0+dn.length*(A.length*(a*b))+dm.length*(a*b)≤B.length*(A.length*(a*b)):=by
      have h1:(dn.length+1)*(A.length*(a*b))≤B.length*(A.length*(a*b)):=Cs _ (by lia)
      have h2:dm.length*(a*b)≤A.length*(a*b):=Cs _ ((B4 (Cw _ _) (Cg (Eq.symm hAl))))
      rw[Nat.succ_mul] at h1;omega (config:={})
     have haC2:=ha1.but x7 nac
     have hbC2:=hb1.but x7 nbc
     have ie:=iA e hmemA
     have id:=iB d hmem
     have im:=rP ie.1 id.1
     refine(?_:∃_,_);refine bY ?_;refine aP ?_;refine ag ‹_› ?_;refine ag ‹_› ?_;x_close
     apply cw
     intro C3 g3
     refine ag ‹_› ?_;x_close
     apply bQ (haC2.grow g3) (bq e.1) (ar _ _) (by show enc_lk;show aw na (k:=e.1) (u:=e.2) hmemA;rfl)
     refine ag ‹_› ?_;refine ag ‹_› ?_;x_close
     apply bQ (hbC2.grow g3) (bq d.1) (ar _ _) (by show enc_lk;show aw nb (k:=d.1) (u:=d.2) hmem;rfl)
     x_close
     apply fH (eK ie.1 ie.2 (by lia) (leb rfl)) (eK id.1 id.2 ((Nat.lt_of_add_left_lt (Nat.lt_of_add_right_lt hN))) (leb rfl))
     x_close
     refine d9 (k:=bZ e.1 d.1) (x9.grow g3) (λx hx=>eK (iF2 x hx).1 (iF2 x hx).2 (by omega (config:={})) (leb rfl)) (eK im.1 (by show im.2;show Int.natAbs_mul;exact Nat.mul_le_mul ie.2 id.2) ((Nat.lt_of_add_left_lt hN)) (leb rfl)) ?_ ?_
     ·simp at lF;exact B4 lF2 (B4 (Nat.add_le_add_right lF _) (B4 hm1 hl))
     intro v C4 g4 h4 l4
     conv=>whnf
     refine mR (dm++[e]) rm (by show x1;exact Co _ _ _) x2' (‹_›) (‹_›) (‹_›) (‹_›) ((x7.trans g3.but).trans g4) ((x8.trans g3.but).trans g4) ?_
     unfold addRow at h4 ⊢
     show List.foldl_append;exact h4
   ·rintro σ' C'' ⟨dm,rm,x1,x2,x3,x4,x5,x6,x7,x8,x9⟩
    cases rm with
    |cons e rm=>injection x2
    |nil=>
     rw[Cn] at x1
     subst x1
     conv=>whnf
     refine ij (dn++[d]) rs (by show e1;exact Co _ _ _) e2' (‹_›) (‹_›) (‹_›) x7 ?_
     show List.foldl_append;exact x9
 ·rintro σ C' ⟨dn,rs,e1,e2,e3,e4,e5,e6,e7⟩
  cases rs with
  |cons e rs=>injection e2
  |nil=>
   rw[Cn] at e1
   subst e1
   refine ag ‹_› ?_;conv=>whnf
   exact q c C' ((g1.but.trans e6).fresh f1) f1 e7
noncomputable def il(l:List Int):List V:=l.map .int
theorem bD(l:List Int):(il l).length=l.length:=B8 ..
theorem vh(l:List Int)(i:Nat):(il l)[i]?=(l[i]?).map V.int:=by unfold il;show List.getElem?_map;rfl
theorem uY(l:List Int)(i:Nat)(x:Int):(il l).set i (.int x)=il (l.set i x):=by unfold il;show List.map_set;rfl
theorem nI{l:List Int}{i:Nat}(h:i<l.length)(hl:l.length≤100000):nth (il l) i=some (.int (l.getD i 0)):=by
 unfold nth
 show(if_neg (by show bD;exact Nat.not_lt_of_le hl));show(if_pos (by exact Int.natCast_nonneg _));show Cv;show vh;show List.getElem?_eq_getElem h;show Ci;show List.getElem?_eq_getElem h;rfl
noncomputable def n8(F:List Int)(i:Nat)(v:Int):List Int:=F.set i (F.getD i 0+v)
noncomputable def jU(l:Int)(i:Nat):Nat→List Int→List Int→List Int
 |_,[],F=>F
 |j,r::b,F=>jU l i (j+1) b (n8 F (i+j) (l*r))
noncomputable def fy(b:List Int):Nat→List Int→List Int→List Int
 |_,[],F=>F
 |i,l::a,F=>fy b (i+1) a (if l=0 then F else jU l i 0 b F)
noncomputable def dX(a b:List Int):List Int:=if a=[]∨b=[] then[] else fy b 0 a (List.replicate (a.length+b.length-1) 0)
theorem n9{l:Int}{i:Nat}:∀{b:List Int}{j:Nat}{F:List Int},(jU l i j b F).length=F.length:=λ{b}=>by
 induction b with
 |nil=>
  intro j F
  exact rfl
 |cons r b ih'=>
  intro j F
  unfold jU;show ih';unfold n8;exact List.length_set
theorem dt(k:Nat)(v:V)(r:List V):eh k (v::r)=.tup [.int k,v]::eh (k+1) r:=rfl
theorem s_or{P R:Prop}(h:P)(h':R):P∧R:=⟨h,h'⟩
theorem qW(a b:Nat):((a:Int)+(b:Int)-1).toNat=a+b-1:=by refine rL (Int.natCast_add ..) ?_;exact Int.toNat_sub _ 1
theorem uo{a b:List Int}{ca cb:Nat}(ha:Has C ca (.list (il a)))(hb:Has C cb (.list (il b)))(fa:∀x∈a,fit x=true)(fb:∀x∈b,fit x=true)(hl:a.length+b.length≤10000)
  (q:∀c C',az C C'→aE C c→Has C' c (.list (il (dX a b)))→Q (.cell c) C'):Run ((lev whC (n+30)).call "zmul" [.cell ca,.cell cb]) C Q:=by
 refine aS ?_
 x_close
 unfold dX at q
 have hemp:(a=[]∨b=[])→Run (new (.list [])) C λv C1=>Q v C1:=by
  intro h
  rw[if_pos h] at q
  exact an q
 apply dT ha
 refine(?_:_∧_)
 show bD
 refine⟨λhc=>?_,λhc=>?_⟩
 ·refine⟨λxx=>?_,cTf⟩
  have:a=[]:=by
   have:(a.length:Int)=0:=by simpa using hc
   exact List.length_eq_zero_iff.mp (by lia)
  x_close
  refine(hemp (.inl this)).mono ?_
  intro v C1 h
  conv=>whnf
  exact h
 have a0:a≠[]:=by intro h;rw[h] at hc;simp at hc
 x_close
 apply dT hb
 refine(?_:_∧_)
 show bD
 refine⟨λhc=>?_,λhc=>?_⟩
 ·refine⟨λxx=>?_,cTf⟩
  have:b=[]:=by
   have:(b.length:Int)=0:=by simpa using hc
   exact List.length_eq_zero_iff.mp (by lia)
  x_close
  refine(hemp (.inr this)).mono ?_
  intro v C1 h
  conv=>whnf
  exact h
 have b0:b≠[]:=by intro h;rw[h] at hc;simp at hc
 refine(?_:_∧_)
 refine⟨cFt,λxx=>?_⟩
 rw[if_neg (not_or_intro a0 b0)] at q
 clear hemp hc
 have la:0<a.length:=List.length_pos_iff.mpr a0
 have lb:0<b.length:=List.length_pos_iff.mpr b0
 x_close
 apply an
 intro c0 C1 g1 f1 h1
 x_close
 apply dT (ha.grow g1)
 x_close
 apply dT (hb.grow g1)
 x_close
 show bD;show bD
 apply xL h1
 ·lia
 apply an
 intro c C2 g2 f2 h2
 x_close
 have g02:=g1.trans g2
 have hlen:((a.length:Int)+(b.length:Int)-1).toNat=a.length+b.length-1:=qW _ _
 rw[hlen,show List.replicate (a.length+b.length-1) (V.int 0)=il (List.replicate (a.length+b.length-1) 0) from by unfold il;show List.map_replicate;rfl] at h2
 have ha2:=ha.grow g02
 have hb2:=hb.grow g02
 have fc:aE C c:=f2.grow g1
 have nac:ca≠c:=ha.ne fc
 have nbc:cb≠c:=hb.ne fc
 generalize hF0:List.replicate (a.length+b.length-1) (0:Int)=F0 at q h2
 have hF0l:F0.length=a.length+b.length-1:=by refine rL (hF0 ..) ?_;exact List.length_replicate
 apply bR (rfl)
 refine aZ rfl ?_;refine cK rfl rfl ?_;refine aj ?_;conv=>whnf
 right
 refine du ca (il a) rfl ha2 (.has ha2) (λvs σ C'=>Ex3 λdn rs F=>And8 (a=dn++rs) (vs=eh dn.length (il rs)) (af "found" σ=some (.cell c)) (af "b" σ=some (.cell cb)) (ak c C2 C') (Has C' c (.list (il F))) (F.length=a.length+b.length-1) (fy b dn.length rs F=fy b 0 a F0)) ?_ ?_ ?_ ?_
 ·exact l0 [] a F0 rfl rfl ab (ac rfl ab) (ak.refl _ _) h2 hF0l rfl
 ·rintro vs σ C' ⟨dn,rs,F,e1,e2,e3,e4,e5,e6,e7,e8⟩
  exact .but e5 (.has ha2) (by simpa using nac)
 ·rintro v r σ C' ⟨dn,rs,F,e1,e2,e3,e4,e5,e6,e7,e8⟩
  cases rs with
  |nil=>injection e2
  |cons x rs=>
   have hx:x∈a:=by show e1;exact Cq _ (.head _)
   rw[show il (x::rs)=.int x::il rs from rfl,dt] at e2
   injection e2 with e2 e2'
   show e2
   refine iEA _ rfl ?_
   have hal:a.length=dn.length+(rs.length+1):=by show e1;simp
   have hb':=hb2.but e5 nbc
   refine aP ?_;refine(?_:_∧_)
   refine⟨λhc=>?_,λhc=>?_⟩
   ·have hx0:x≠0:=by simpa using hc
    x_close
    apply bR (rfl)
    refine aZ rfl ?_;refine cK rfl rfl ?_;refine aj ?_;refine ag ‹_› ?_;conv=>whnf
    right
    refine du cb (il b) rfl hb' (.has hb') (λvs σ' C''=>Ex3 λdm rm F'=>And11 (b=dm++rm) (vs=eh dm.length (il rm)) (af "found" σ'=some (.cell c)) (af "b" σ'=some (.cell cb)) (af "one" σ'=some (.int dn.length)) (af "left" σ'=some (.int x)) (ak c C2 C'') (ak c C' C'') (Has C'' c (.list (il F'))) (F'.length=a.length+b.length-1) (jU x dn.length dm.length rm F'=jU x dn.length 0 b F)) ?_ ?_ ?_ ?_
    ·exact⟨[],b,F,rfl,rfl,‹_›,‹_›,ac rfl ab,ab,e5,ak.refl _ _,e6,e7,rfl⟩
    ·rintro vs σ' C'' ⟨dm,rm,F',x1,x2,x3,x4,x5,x6,x7,x8,x9,x10,x11⟩
     exact .but x8 (.has hb') (by simpa using nbc)
    ·rintro v r' σ' C'' ⟨dm,rm,F',x1,x2,x3,x4,x5,x6,x7,x8,x9,x10,x11⟩
     cases rm with
     |nil=>injection x2
     |cons y rm=>
      have hy:y∈b:=by show x1;exact Cq _ (.head _)
      rw[show il (y::rm)=.int y::il rm from rfl,dt] at x2
      injection x2 with x2 x2'
      show x2
      have hbl:b.length=dm.length+(rm.length+1):=by show x1;simp
      refine iEA _ rfl ?_
      refine aP ?_;refine ag ‹_› ?_;refine ag ‹_› ?_;x_close
      have hi:dn.length+dm.length<F'.length:=by lia
      refine rL (Int.natCast_add ..) ?_
      apply br x9 (nI hi (by lia))
      refine ag ‹_› ?_;x_close
      apply cJ (fa x hx) (fb y hy)
      refine tD _ _ rfl rfl ?_
      apply lE x9
      ·show bD;omega (config:={})
      intro C3 g3 h3 l3
      conv=>whnf
      rw[Cv,uY] at h3
      refine⟨dm++[y],rm,n8 F' (dn.length+dm.length) (x*y),by show x1;exact Co _ _ _,?_,‹_›,‹_›,‹_›,‹_›,x7.trans g3,x8.trans g3,h3,by unfold n8;simpa using x10,?_⟩
      ·show x2';show Cf;rfl
      ·show Cf;exact x11
    ·rintro σ' C'' ⟨dm,rm,F',x1,x2,x3,x4,x5,x6,x7,x8,x9,x10,x11⟩
     cases rm with
     |cons e rm=>injection x2
     |nil=>
      conv=>whnf
      refine l0 (dn++[x]) rs F' (by show e1;exact Co _ _ _) ?_ (‹_›) (‹_›) x7 x9 x10 ?_
      ·show e2';show Cf;rfl
      ·refine rL (e8 ..) ?_;show Cf
       change fy b (dn.length+1) rs F'=fy b (dn.length+1) rs (if x=0 then F else jU x dn.length 0 b F)
       show if_neg hx0;refine rL (x11 ..) ?_;rfl
   ·have hx0:x=0:=by simpa using hc
    conv=>whnf
    refine l0 (dn++[x]) rs F (by show e1;exact Co _ _ _) ?_ (‹_›) (‹_›) e5 e6 e7 ?_
    ·show e2';show Cf;rfl
    ·refine rL (e8 ..) ?_;show Cf
     change fy b (dn.length+1) rs F=fy b (dn.length+1) rs (if x=0 then F else jU x dn.length 0 b F)
     show if_pos hx0;rfl
 ·rintro σ C' ⟨dn,rs,F,e1,e2,e3,e4,e5,e6,e7,e8⟩
  cases rs with
  |cons e rs=>injection e2
  |nil=>
   refine ag ‹_› ?_;conv=>whnf
   refine q c C' ((g02.but.trans e5).fresh fc) fc ?_
   refine rL (e8 ..) ?_;exact e6
noncomputable def aL(P:PE):Bool:=(keys P).all λk=>decide (k.1+k.2=0)
theorem yP{k:Mo}(h:k.1+k.2=0):¬(0:Int)<k.1+k.2:=by lia
theorem xZ{k:Mo}(h:¬k.1+k.2=0):(0:Int)<k.1+k.2:=by lia
theorem ja{A:PE}{ca:Nat}(ha:Has C ca (.dict (enc A)))(l:A.length≤10000)(q:∀C',az C C'→Q (.bool (aL A)) C'):Run ((lev whC (n+30)).call "is_number_form" [.cell ca]) C Q:=by
 refine aS ?_
 x_close
 refine iy (vs:=(keys A).map mv) (R:=λv=>match v with|.tup [.int i,.int j]=>if 0<i+j then some v else none|_=>none) (Bool.and_self _) ?_ (by unfold keys;show B8;show B8;exact l) ?_ ?_
 ·refine aK rfl ?_;refine aj ?_;x_close
  apply bG ha
  refine⟨?_,.has ha,az.refl _⟩
  unfold enc keys;show List.map_map;show List.map_map;rfl
 ·intro v hv σ' C1 hσ g
  refine oEA (Cl.mp hv) λk hk zr0=>?_;subst zr0
  refine iEa3 _ rfl (λy hy=>aI (rfl) hy) ?_
  apply jO
  refine dR ?_;x_close
  apply yT (r:=(k.1:Int)+k.2) rfl
  refine(?_:_∧_)
  refine⟨λh=>?_,λh=>?_⟩
  ·apply bg
   refine⟨az.refl _,λxx=>?_,cTf⟩
   refine aj ?_;refine(?_:_∧_)
   refine⟨?_,az.refl _⟩
   change (if(0:Int)<k.1+k.2 then some (mv k) else none)=_
   show(if_pos (by simpa using h));rfl
  ·refine⟨az.refl _,cFt,λxx=>?_⟩
   change (if(0:Int)<k.1+k.2 then some (mv k) else none)=_
   show(if_neg (by simpa using h));rfl
 ·intro c C' g f h
  x_close
  apply dT h
  conv=>whnf
  refine Eq.mp (congrArg (λb=>Q (.bool b) C') ?_) (q C' g)
  unfold aL
  clear h q
  generalize keys A=ks
  induction ks with
  |nil=>rfl
  |cons k ks ih=>
   show List.all_cons;show ih
   show Cc;show List.filterMap_cons
   by_cases h:k.1+k.2=0
   ·have:(match mv k with|.tup [.int i,.int j]=>if 0<i+j then some (mv k) else none|_=>none)=none:=by
     change (if(0:Int)<k.1+k.2 then some (mv k) else none)=none
     show if_neg (yP h);rfl
    simp only[this,h]
    rfl
   ·have:(match mv k with|.tup [.int i,.int j]=>if 0<i+j then some (mv k) else none|_=>none)=some (mv k):=by
     change (if(0:Int)<k.1+k.2 then some (mv k) else none)=some (mv k)
     show if_pos (xZ h);rfl
    simp only[this]
    show Ch
    have h2:decide (k.1+k.2=0)=false:=by simpa using h
    show h2;show Bool.false_and
    symm
    show propext (decide_eq_false_iff_not ..);omega (config:={})
noncomputable def bN(w:Nat):Nat→List Int→PE→PE
 |_,[],F=>F
 |k,x::z,F=>bN w (k+1) z (if x=0 then F else fL (k%w,k/w) (x:Rat) F)
noncomputable def dW(z:List Int)(w:Nat):PE:=bN w 0 z []
theorem yX(x:Int):rv (x:Rat)=.tup [.int x,.int 1]:=rfl
theorem gF{z:List Int}{cz w:Nat}(hz:Has C cz (.list (il z)))(hw:0<w)(hw':w<1000)(l:z.length≤1000)
  (q:∀c C',az C C'→aE C c→Has C' c (.dict (enc (dW z w)))→Q (.cell c) C'):Run ((lev whC (n+30)).call "unfolded" [.cell cz,.int w]) C Q:=by
 refine aS ?_
 x_close
 apply bW (rfl)
 apply aO
 refine iEA [] rfl ?_
 apply an
 intro c C1 g1 f1 h1
 x_close
 apply bR (rfl)
 refine aZ rfl ?_;refine cK rfl rfl ?_;refine aj ?_;conv=>whnf
 right
 have hz1:=hz.grow g1
 refine du cz (il z) rfl hz1 (.has hz1) (λvs σ C'=>Ex3 λdn rs F=>And8 (z=dn++rs) (vs=eh dn.length (il rs)) (af "found" σ=some (.cell c)) (af "wide" σ=some (.int w)) (ak c C1 C') (Has C' c (.dict (enc F))) (F.length≤dn.length) (bN w dn.length rs F=dW z w)) ?_ ?_ ?_ ?_
 ·exact l0 [] z [] rfl rfl ab (ac rfl ab) (ak.refl _ _) h1 (Cj _) rfl
 ·rintro vs σ C' ⟨dn,rs,F,e1,e2,e3,e4,e5,e6,e7,e8⟩
  exact .but e5 (.has hz1) (by simpa using(hz1.neLD h1))
 ·rintro v r σ C' ⟨dn,rs,F,e1,e2,e3,e4,e5,e6,e7,e8⟩
  cases rs with
  |nil=>injection e2
  |cons x rs=>
   rw[show il (x::rs)=.int x::il rs from rfl,dt] at e2
   injection e2 with e2 e2'
   show e2
   refine iEA _ rfl ?_
   have hzl:z.length=dn.length+(rs.length+1):=by show e1;simp
   refine aP ?_;refine(?_:_∧_)
   refine⟨λhc=>?_,λhc=>?_⟩
   ·have hx0:x≠0:=by simpa using hc
    refine ag ‹_› ?_;refine ag ‹_› ?_;x_close
    apply nr (by lia)
    refine ag ‹_› ?_;x_close
    apply hY (by lia) (aA.fit (m:=10) (by unfold aA;show Ct;exact B7 hw' (B5 _ _)) (leb rfl))
    x_close
    have e:V.tup [.int ((dn.length:Int).fmod w),.int ((dn.length:Int).fdiv w)]=mv (dn.length%w,dn.length/w):=by
     unfold mv
     show(Int.fmod_eq_emod_of_nonneg _ (by exact Int.natCast_nonneg _));show(Int.fdiv_eq_ediv_of_nonneg _ (by exact Int.natCast_nonneg _))
     rfl
    show e
    apply fg e6 (bq _) (ar _ _) (by show aV;lia)
    intro C2 g2 h2 l2
    conv=>whnf
    rw[←yX,gz] at h2
    refine l0 (dn++[x]) rs _ (by show e1;exact Co _ _ _) ?_ (‹_›) (‹_›) (e5.trans g2) h2 ?_ ?_
    ·show e2';show Cf;rfl
    ·have:=eg (k:=(dn.length%w,dn.length/w)) (q:=(x:Rat)) (P:=F)
     simp;exact B4 this (Nat.succ_le_succ e7)
    ·refine rL (e8 ..) ?_;show Cf
     change _=bN w (dn.length+1) rs (if x=0 then F else fL _ _ F)
     show if_neg hx0;rfl
   ·have hx0:x=0:=by simpa using hc
    conv=>whnf
    refine l0 (dn++[x]) rs F (by show e1;exact Co _ _ _) ?_ (‹_›) (‹_›) e5 e6 (by simp;exact Nat.le_succ_of_le e7) ?_
    ·show e2';show Cf;rfl
    ·refine rL (e8 ..) ?_;show Cf
     change _=bN w (dn.length+1) rs (if x=0 then F else fL _ _ F)
     show if_pos hx0;rfl
 ·rintro σ C' ⟨dn,rs,F,e1,e2,e3,e4,e5,e6,e7,e8⟩
  cases rs with
  |cons e rs=>injection e2
  |nil=>
   refine ag ‹_› ?_;conv=>whnf
   refine q c C' ((g1.but.trans e5).fresh f1) f1 ?_
   refine rL (e8 ..) ?_;exact e6
noncomputable def sizeP(w:Nat)(P:PE):Nat:=P.foldl (λs e=>max s (e.1.1+w*e.1.2+1)) 0
noncomputable def q9(P:PE)(w:Nat):List Int:=P.foldl (λF e=>n8 F (e.1.1+w*e.1.2) e.2.num) (List.replicate (sizeP w P) 0)
theorem tJ{w:Nat}:∀{P:PE}{s:Nat},s≤P.foldl (λs e=>max s (e.1.1+w*e.1.2+1)) s:=λ{P}=>by
 induction P with
 |nil=>
  intro s
  exact Cj _
 |cons e P ih'=>
  intro s
  show Cx
  exact B4 (Nat.le_max_left _ _) ih'
theorem pL{w:Nat}{P:PE}:∀{s:Nat}{e:Mo×Rat},e∈P→e.1.1+w*e.1.2+1≤P.foldl (λs e=>max s (e.1.1+w*e.1.2+1)) s:=by
 induction P with
 |nil=>intro s e h;cases h
 |cons d P ih=>
  intro s e h
  show Cx
  rcases Cb.mp h with h|h
  ·show h
   exact B4 (Nat.le_max_right _ _) tJ
  ·exact ih h
theorem jV{w:Nat}:∀{P:PE}{F:List Int},(P.foldl (λF e=>n8 F (e.1.1+w*e.1.2) e.2.num) F).length=F.length:=λ{P}=>by
 induction P with
 |nil=>
  intro F
  exact rfl
 |cons e P ih'=>
  intro F
  show Cx;show ih';unfold n8;exact List.length_set
theorem fP{A:PE}{ca w:Nat}(ha:Has C ca (.dict (enc A)))(na:(keys A).Nodup)(hw:w<1000)(hs:sizeP w A≤10000)(hk:∀e∈A,e.1.2<1000)
  (q:∀c C',az C C'→aE C c→Has C' c (.list (il (q9 A w)))→Q (.cell c) C'):Run ((lev whC (n+30)).call "flattened" [.cell ca,.int w]) C Q:=by
 refine aS ?_
 have fw:fit (w:Int)=true:=aA.fit (m:=10) (by show aA.eq_def;show Ct;exact B7 hw (B5 _ _)) (leb rfl)
 have fk:∀e∈A,fit (e.1.2:Int)=true:=λe he=>aA.fit (m:=10) (by show aA.eq_def;show Ct;exact Mine.Lake.ltltr (hk _ he) rfl) (leb rfl)
 x_close
 apply bR (rfl)
 refine aK rfl ?_;refine aj ?_;x_close
 apply bG ha
 refine cj (.has ha) (λvs σ C'=>C'=C∧Ex2 λdn rs=>And5 (A=dn++rs) (vs=rs.map (λe=>mv e.1)) (af "f" σ=some (.cell ca)) (af "wide" σ=some (.int w)) (af "size" σ=some (.int (sizeP w dn)))) ?_ ?_ ?_ ?_
 ·refine jx rfl [] A rfl ?_ (ac rfl (ac rfl ab)) (ac rfl ab) ?_
  ·show enc.eq_def;show List.map_map;rfl
  ·change _=some (V.int 0)
   exact ab
 ·rintro vs σ C' ⟨rfl,_⟩
  exact .grow (az.refl _) (.has ha)
 ·rintro v r σ C' ⟨rfl,dn,rs,e1,e2,e3,e4,e5⟩
  cases rs with
  |nil=>injection e2
  |cons e rs=>
   rw[Cc] at e2
   injection e2 with e2 e2'
   show e2
   have hmem:e∈A:=by show e1;exact Cq _ (.head _)
   refine iEA _ rfl ?_
   show mv.eq_def
   refine aP ?_;refine ag ‹_› ?_;refine ag ‹_› ?_;x_close
   apply cJ fw (fk e hmem)
   refine An ?_;refine(?_:_∧_)
   refine jx rfl (dn++[e]) rs (by show e1;exact Co _ _ _) e2' (‹_›) (‹_›) ?_
   have:(if(sizeP w dn:Int)<(e.1.1:Int)+w*e.1.2+1 then(e.1.1:Int)+w*e.1.2+1 else(sizeP w dn:Int))=(sizeP w (dn++[e]):Nat):=by
    unfold sizeP
    show List.foldl_append
    simp only[List.foldl_cons,List.foldl_nil]
    have e1:((e.1.1+w*e.1.2+1:Nat):Int)=(e.1.1:Int)+w*e.1.2+1:=by push_cast;rfl
    refine rL (e1 ..) ?_
    generalize e.1.1+w*e.1.2+1=a
    generalize List.foldl _ 0 dn=b
    split<;>lia
   show this
   exact ab
 rintro σ C' ⟨rfl,dn,rs,e1,e2,e3,e4,e5⟩
 cases rs with
 |cons e rs=>injection e2
 |nil=>
 rw[Cn] at e1
 subst e1
 x_close
 apply an
 intro c0 C1 g1 f1 h1
 refine ag ‹_› ?_;x_close
 apply xL h1
 ·lia
 apply an
 intro c C2 g2 f2 h2
 x_close
 rw[Cv,show List.replicate (sizeP w A) (V.int 0)=il (List.replicate (sizeP w A) 0) from by show il.eq_def;show List.map_replicate;rfl] at h2
 have g02:=g1.trans g2
 have ha2:=ha.grow g02
 have fc:aE C' c:=f2.grow g1
 have nac:ca≠c:=ha.ne fc
 apply bR (rfl)
 refine aK rfl ?_;refine aj ?_;refine ag ‹_› ?_;x_close
 apply bG ha2
 refine cj (.has ha2) (λvs σ C''=>Ex2 λdn rs=>And7 (A=dn++rs) (vs=rs.map (λe=>mv e.1)) (af "found" σ=some (.cell c)) (af "f" σ=some (.cell ca)) (af "wide" σ=some (.int w)) (ak c C2 C'') (Has C'' c (.list (il (dn.foldl (λF e=>n8 F (e.1.1+w*e.1.2) e.2.num) (List.replicate (sizeP w A) 0)))))) ?_ ?_ ?_ ?_
 ·refine ij [] A rfl ?_ ab (‹_›) (‹_›) (ak.refl _ _) h2
  show enc.eq_def;show List.map_map;rfl
 ·rintro vs σ C'' ⟨dn,rs,x1,x2,x3,x4,x5,x6,x7⟩
  exact .but x6 (.has ha2) (by simpa using nac)
 ·rintro v r σ C'' ⟨dn,rs,x1,x2,x3,x4,x5,x6,x7⟩
  cases rs with
  |nil=>injection x2
  |cons e rs=>
   rw[Cc] at x2
   injection x2 with x2 x2'
   show x2
   have hmem:e∈A:=by show x1;exact Cq _ (.head _)
   refine iEA _ rfl ?_
   have hm:mv e.1=.tup [.int e.1.1,.int e.1.2]:=rfl
   have hsz:e.1.1+w*e.1.2<sizeP w A:=pL (s:=0) hmem
   show hm
   refine aP ?_;refine ag ‹_› ?_;refine ag ‹_› ?_;x_close
   apply cJ fw (fk e hmem)
   x_close
   have ecast:(e.1.1:Int)+w*e.1.2=((e.1.1+w*e.1.2:Nat):Int):=by push_cast;rfl
   show ecast
   apply br x7 (nI (by show jV;simpa using hsz) (by show jV;simp;exact B4 hs (B5 _ _)))
   refine ag ‹_› ?_;x_close
   apply bQ (ha2.but x6 nac) (k:=kt e.1) rfl (ar _ _) (by show enc_lk;show aw na (k:=e.1) (u:=e.2) hmem;rfl)
   show rv.eq_def
   conv=>whnf
   refine tD _ _ rfl rfl ?_
   apply lE x7
   ·show bD;show jV;simp;omega (config:={})
   intro C3 g3 h3 l3
   conv=>whnf
   rw[Cv,uY] at h3
   refine ij (dn++[e]) rs (by show x1;exact Co _ _ _) x2' (‹_›) (‹_›) (‹_›) (x6.trans g3) ?_
   show List.foldl_append;exact h3
 ·rintro σ C'' ⟨dn,rs,x1,x2,x3,x4,x5,x6,x7⟩
  cases rs with
  |cons e rs=>injection x2
  |nil=>
   rw[Cn] at x1
   subst x1
   refine ag ‹_› ?_;conv=>whnf
   exact q c C'' ((g02.but.trans x6).fresh fc) fc x7
noncomputable def botS(b:Nat)(e:Mo×Rat):Nat:=Nat.lcm b e.2.den
noncomputable def botP(P:PE):Nat:=P.foldl botS 1
noncomputable def conS(b:Nat)(c:Nat)(e:Mo×Rat):Nat:=Int.gcd c (e.2*(b:Rat)).num
noncomputable def conP(P:PE):Nat:=P.foldl (conS (botP P)) 0
noncomputable def toldP(P:PE):Rat:=if 0<(lc P).num then Rat.divInt (conP P) (botP P) else Rat.divInt (-(conP P:Int)) (botP P)
noncomputable def aY(P:PE):Rat×PE:=if P=[] then(0,[]) else(toldP P,bA (λv=>v*(toldP P)⁻¹) P)
theorem ud(b d:Nat):(b:Int).fdiv (Int.gcd b d)*d=(Nat.lcm b d:Nat):=by
 show(Int.fdiv_eq_ediv_of_nonneg _ (by exact Int.natCast_nonneg _))
 change (b:Int)/(Nat.gcd b d:Nat)*d=_
 have h:=Nat.gcd_dvd_left b d
 unfold Nat.lcm
 obtain⟨k,hk⟩:=h
 by_cases h0:Nat.gcd b d=0
 ·have:=Nat.eq_zero_of_gcd_eq_zero_left h0
  show this;simp
 ·have e1:b/Nat.gcd b d=k:=by
   conv=>lhs;arg 1;rw[hk]
   exact Nat.mul_div_cancel_left _ ((Nat.pos_of_ne_zero h0))
  have e2:b*d/Nat.gcd b d=k*d:=by
   conv=>lhs;arg 1;rw[hk,Nat.mul_assoc]
   exact Nat.mul_div_cancel_left _ ((Nat.pos_of_ne_zero h0))
  show e2;refine rL (Int.natCast_ediv ..) ?_;show e1;show Int.natCast_mul;rfl
theorem gT{D:Nat}:∀{P:PE}{b:Nat},b∣D→(∀e∈P,e.2.den∣D)→P.foldl botS b∣D
 |[],b,h,_=>h
 |e::P,b,h,hP=>gT (P:=P) (Nat.lcm_dvd h (hP e B9)) λe he=>hP e (B6 _ he)
theorem zd(b:Nat):V.tup [.int b,.int 1]=rv (b:Rat):=rfl
theorem yQ{m b:Nat}(h:b<2^m)(hm:1≤m):RS m (b:Rat):=eK (N:=b) rfl (by change (b:Int).natAbs≤b;exact Cg (Ct _)) h hm
theorem jd{P:PE}{cp D:Nat}(hp:Has C cp (.dict (enc P)))(np:(keys P).Nodup)(l:P.length≤10000)(fp:dU 1000 P)(hD:∀e∈P,e.2.den∣D)(D0:0<D)(Ds:D<2^1000)(t0:P≠[]→toldP P≠0)(ts:RS 4000 (toldP P)⁻¹)(ts':RS 8000 (toldP P))
  (q:∀c C',az C C'→aE C c→Has C' c (.dict (enc (aY P).2))→Q (.tup [rv (aY P).1,.cell c]) C'):Run ((lev whC (n+100)).call "whole_form" [.cell cp]) C Q:=by
 refine aS ?_
 x_close
 apply ma hp
 refine(?_:_∧_)
 show aV
 refine⟨λhc=>?_,λhc=>?_⟩
 ·have:P=[]:=by
   have:(P.length:Int)=0:=by simpa using hc
   exact List.length_eq_zero_iff.mp (by lia)
  subst this
  x_close
  apply bW ‹_›
  apply aO
  refine iEA [] rfl ?_
  apply an
  intro c C1 g1 f1 h1
  conv=>whnf
  exact q c C1 g1 f1 h1
 have p0:P≠[]:=by intro h;rw[h] at hc;simp at hc
 clear hc
 have hbd:∀dn rs,P=dn++rs→dn.foldl botS 1∣D:=λdn rs e=>gT (Nat.one_dvd _) λx hx=>hD x (by show e;exact List.mem_append_left _ hx)
 have hbs:∀dn rs,P=dn++rs→dn.foldl botS 1<2^1000∧0<dn.foldl botS 1:=λdn rs e=>⟨Ck (Nat.le_of_dvd D0 (hbd dn rs e)) Ds,Nat.pos_of_dvd_of_pos (hbd dn rs e) D0⟩
 x_close
 apply bR (rfl)
 refine aK rfl ?_;refine aj ?_;x_close
 apply bG hp
 refine cj (.has hp) (λvs σ C'=>C'=C∧Ex2 λdn rs=>And5 (P=dn++rs) (vs=rs.map (λe=>mv e.1)) (af "f" σ=some (.cell cp)) (af "bottom" σ=some (.int (dn.foldl botS 1:Nat))) (af "content" σ=some (.int 0))) ?_ ?_ ?_ ?_
 ·refine jx rfl [] P rfl ?_ (ac rfl (ac rfl ab)) ?_ ab
  ·unfold enc;show List.map_map;rfl
  ·change _=some (V.int 1)
   exact(ac rfl ab)
 ·rintro vs σ C' ⟨rfl,_⟩
  exact .grow (az.refl _) (.has hp)
 ·rintro v r σ C' ⟨rfl,dn,rs,e1,e2,e3,e4,e5⟩
  cases rs with
  |nil=>injection e2
  |cons e rs=>
   rw[Cc] at e2
   injection e2 with e2 e2'
   show e2
   have hmem:e∈P:=by show e1;exact Cq _ (.head _)
   have hB:=hbs dn (e::rs) e1
   have hds:e.2.den<2^1000:=Ck (Nat.le_of_dvd D0 (hD e hmem)) Ds
   refine iEA _ rfl ?_
   refine aP ?_;refine ag ‹_› ?_;refine ag ‹_› ?_;refine ag ‹_› ?_;x_close
   apply bQ hp (bq e.1) (ar _ _) (by show enc_lk;show aw np (k:=e.1) (u:=e.2) hmem;rfl)
   unfold rv
   x_close
   apply ky
   have hg:0<Int.gcd (dn.foldl botS 1:Nat) e.2.den:=Nat.pos_of_ne_zero λh=>by
    rw[Int.gcd_eq_zero_iff] at h
    have:=h.1
    lia
   have hgs:=mo (m:=1000) (a:=((dn.foldl botS 1:Nat):Int)) (b:=(e.2.den:Int)) (by unfold aA;show Ct;exact hds) (gD _)
   apply hY (by lia) (hgs.fit (leb rfl))
   refine ag ‹_› ?_;x_close
   apply bQ hp (k:=kt e.1) rfl (ar _ _) (by show enc_lk;show aw np (k:=e.1) (u:=e.2) hmem;rfl)
   unfold rv
   x_close
   have hfs:aA 1000 (((dn.foldl botS 1:Nat):Int).fdiv (Int.gcd (dn.foldl botS 1:Nat) e.2.den)):=by
    show(Int.fdiv_eq_ediv_of_nonneg _ (by exact Int.natCast_nonneg _))
    exact aA.ediv (by unfold aA;show Ct;exact hB.1) _
   apply cJ (hfs.fit (leb rfl)) (aA.fit (m:=1000) (by unfold aA;show Ct;exact hds) (leb rfl))
   refine(?_:_∧_)
   show ud
   refine jx rfl (dn++[e]) rs (by show e1;exact Co _ _ _) e2' (‹_›) ?_ (‹_›)
   show List.foldl_append
   change _=some (V.int (Nat.lcm (dn.foldl botS 1) e.2.den:Nat))
   exact ab
 rintro σ C' ⟨rfl,dn,rs,e1,e2,e3,e4,e5⟩
 cases rs with
 |cons e rs=>injection e2
 |nil=>
 rw[Cn] at e1
 subst e1
 have hB:botP P<2^1000∧0<botP P:=hbs P [] (Eq.symm (Cn _))
 have e4:af "bottom" σ=some (.int (botP P:Nat)):=e4
 x_close
 apply bR (rfl)
 refine aK rfl ?_;refine aj ?_;refine ag ‹_› ?_;x_close
 apply bG hp
 refine cj (.has hp) (λvs σ C''=>C''=C'∧Ex2 λdn rs=>And5 (P=dn++rs) (vs=rs.map (λe=>mv e.1)) (af "f" σ=some (.cell cp)) (af "bottom" σ=some (.int (botP P:Nat))) (af "content" σ=some (.int (dn.foldl (conS (botP P)) 0:Nat)))) ?_ ?_ ?_ ?_
 ·refine jx rfl [] P rfl ?_ e3 e4 e5
  unfold enc;show List.map_map;rfl
 ·rintro vs σ C' ⟨rfl,_⟩
  exact .grow (az.refl _) (.has hp)
 ·rintro v r σ C' ⟨rfl,dn,rs,e1,e2,e3,e4,e5⟩
  cases rs with
  |nil=>injection e2
  |cons e rs=>
   rw[Cc] at e2
   injection e2 with e2 e2'
   show e2
   have hmem:e∈P:=by show e1;exact Cq _ (.head _)
   refine iEA _ rfl ?_
   refine aP ?_;refine ag ‹_› ?_;refine ag ‹_› ?_;x_close
   apply bQ hp (bq e.1) (ar _ _) (by show enc_lk;show aw np (k:=e.1) (u:=e.2) hmem;rfl)
   refine ag ‹_› ?_;x_close
   show zd
   apply fH ((fp e hmem).le (leb rfl)) ((yQ hB.1 (leb rfl)).le (leb rfl))
   unfold rv
   x_close
   apply ky
   refine(?_:_∧_)
   refine jx rfl (dn++[e]) rs (by show e1;exact Co _ _ _) e2' (‹_›) (‹_›) ?_
   show List.foldl_append
   change _=some (V.int (Int.gcd (dn.foldl (conS (botP P)) 0:Nat) (e.2*(botP P:Rat)).num:Nat))
   exact ab
 rintro σ C' ⟨rfl,dn,rs,e1,e2,e3,e4,e5⟩
 cases rs with
 |cons e rs=>injection e2
 |nil=>
 rw[Cn] at e1
 subst e1
 have e5:af "content" σ=some (.int (conP P:Nat)):=e5
 have hlr:lc P=lc P:=rfl
 have hbs':aA 1000 (botP P:Int):=by unfold aA;show Ct;exact hB.1
 have hfin:∀{σ:Env}{S:Fl×Env→CH→Prop},True:=trivial
 refine lg ?_;refine ag ‹_› ?_;x_close;x_close
 apply fY hp np
 show gq p0
 unfold rv
 refine(?_:_∧_)
 have hw:aY P=(toldP P,bA (λv=>v*(toldP P)⁻¹) P):=if_neg p0
 rw[hw] at q
 refine⟨λhc=>?_,λhc=>?_⟩
 ·have hc:0<(lc P).num:=by simpa using hc
  have ht:toldP P=Rat.divInt (conP P) (botP P):=if_pos hc
  refine ag ‹_› ?_;refine ag ‹_› ?_;x_close
  apply d5 (by lia) hbs' (leb rfl)
  refine ag ‹_› ?_;x_close
  refine rL (ht ..) ?_
  apply nH ts' (t0 p0)
  x_close
  apply cc hp np (λe he=>(fp e he).le (leb rfl)) ts l
  intro c C1 g1 f1 h1
  rw[if_neg (by intro h;have:=congrArg (·⁻¹) h;simp only[Rat.inv_inv,Rat.inv_zero] at this;exact t0 p0 this)] at h1
  conv=>whnf
  exact q c C1 g1 f1 h1
 ·have hc:¬0<(lc P).num:=by simpa using hc
  have ht:toldP P=Rat.divInt (-(conP P:Int)) (botP P):=if_neg hc
  refine ag ‹_› ?_;refine ag ‹_› ?_;x_close
  apply d5 (by lia) hbs' (leb rfl)
  refine ag ‹_› ?_;x_close
  refine rL (ht ..) ?_
  apply nH ts' (t0 p0)
  x_close
  apply cc hp np (λe he=>(fp e he).le (leb rfl)) ts l
  intro c C1 g1 f1 h1
  rw[if_neg (by intro h;have:=congrArg (·⁻¹) h;simp only[Rat.inv_inv,Rat.inv_zero] at this;exact t0 p0 this)] at h1
  conv=>whnf
  exact q c C1 g1 f1 h1
noncomputable def lotsP:Nat→Nat→List (List Nat)
 |0,_=>[[]]
 |_+1,0=>[]
 |s+1,m+1=>lotsP (s+1) m++(lotsP s m).map (·++[m])
noncomputable def tl(lot:List Nat):V:=.tup (lot.map λ(i:Nat)=>V.int (i:Int))
theorem fR:∀{s m:Nat},m<s→lotsP s m=[]
 |0,m,h=>by trivial
 |s+1,0,h=>rfl
 |s+1,m+1,h=>by
  show lotsP.eq_3
  show fR (s:=s+1) (m:=m) ((Nat.lt_of_succ_lt h));show fR (s:=s) (m:=m) ((Nat.lt_of_succ_lt_succ h));rfl
theorem fK:∀{m s:Nat},(lotsP s m).length≤2^m
 |0,0=>Mine.Lake.leb rfl
 |0,s+1=>by simp[lotsP]
 |m+1,0=>by simp[lotsP];exact Nat.one_le_two_pow
 |m+1,s+1=>by
  show lotsP.eq_3
  have:=fK (m:=m) (s:=s+1)
  have:=fK (m:=m) (s:=s)
  show Cf;show B8;show Nat.pow_succ;lia
theorem d7:∀{m s:Nat}{lot:List Nat},lot∈lotsP s m→lot.length=s
 |m,0,lot,h=>by simp[lotsP] at h;show h;rfl
 |0,s+1,lot,h=>by simp[lotsP] at h
 |m+1,s+1,lot,h=>by
  rcases Cz.mp h with h|h
  ·exact d7 h
  ·refine oEA (Cl.mp h) λl hl zr0=>?_;subst zr0
   show Cf;show d7 hl;rfl
theorem ir:∀{m s:Nat}{lot:List Nat},lot∈lotsP s m→∀i∈lot,i<m
 |m,0,lot,h=>by simp[lotsP] at h;show h;intro i hi;cases hi
 |0,s+1,lot,h=>by simp[lotsP] at h
 |m+1,s+1,lot,h=>by
  rcases Cz.mp h with h|h
  ·intro i hi;have:=ir h i hi;exact Nat.lt_succ_of_lt this
  ·refine oEA (Cl.mp h) λl hl zr0=>?_;subst zr0
   intro i hi
   rcases Cz.mp hi with hi|hi
   ·have:=ir hl i hi;exact Nat.lt_succ_of_lt this
   ·simp at hi;exact Nat.lt_succ_of_le (Cg hi)
theorem oz{i:Nat}(h:i≤1000):jp (i:Int)=true:=by
 unfold jp
 show Ca;show decide_eq_true_eq;show decide_eq_true_eq;lia
theorem eu{a b:Nat}(h:a<b):range a b=.int a::range (a+1:Nat) b:=by
 unfold range
 have e:((b:Int)-a).toNat=((b:Int)-(a+1:Nat)).toNat+1:=by show Int.toNat_sub;show Int.toNat_sub;exact(Nat.succ_pred_eq_of_pos (Nat.sub_pos_of_lt h)).symm
 show e;show List.range_succ_eq_map;show Cc;show List.map_map
 congr 1
 ·simp
  intros
  lia
theorem lu{a b:Nat}(h:b≤a):range a b=[]:=by
 unfold range
 have e:((b:Int)-a).toNat=0:=by lia
 show e;rfl
theorem oi:∀(s:Nat) {N m:Nat}{C:CH}{Q:V→CH→Prop},20*s+20≤N→s≤13→m≤13→(∀c C',az C C'→aE C c→Has C' c (.list ((lotsP s m).map tl))→Q (.cell c) C')→Run ((lev whC N).call "lots_of" [.int m,.int s]) C Q
 |0,N,m,C,Q,hN,hs,hm,q=>by
  obtain⟨N,rfl⟩ : ∃M,N=M+20:=⟨N-20,(Eq.symm (Nat.sub_add_cancel hN))⟩
  refine aS ?_
  refine(?_:_∧_)
  refine⟨λxx=>?_,λh=>by simp at h⟩
  x_close
  apply an
  intro c C1 g1 f1 h1
  conv=>whnf
  rw[show lotsP 0 m=[[]] by simp[lotsP]] at q
  exact q c C1 g1 f1 h1
 |s+1,N,m,C,Q,hN,hs,hm,q=>by
  obtain⟨N,rfl⟩ : ∃M,N=M+20:=⟨N-20,(Eq.symm (Nat.sub_add_cancel (Nat.le_of_add_left_le hN)))⟩
  refine aS ?_
  refine(?_:_∧_)
  refine⟨λh=>?_,λxx=>?_⟩
  ·exfalso
   have:(s:Int)+1=0:=by simpa using h
   trivial
  x_close
  apply an
  intro c C1 g1 f1 h1
  x_close
  apply bR (rfl)
  refine aZ rfl ?_;refine jq rfl ?_;conv=>whnf
  have e1:((s+1:Nat):Int)-1=(s:Nat):=by simp
  show e1
  refine⟨_,_,rfl,rfl,by show oz ((B4 (Nat.le_of_succ_le hs) (B5 _ _)));show oz ((B4 hm (B5 _ _)));rfl,.none,λvs σ C'=>∃t,And7 (s≤t) (vs=range t m) (t≤m∨t=s) (af "size" σ=some (.int (s+1:Nat))) (af "found" σ=some (.cell c)) (ak c C1 C') (Has C' c (.list ((lotsP (s+1) t).map tl))),?_,?_,?_,?_⟩
  ·refine Bf s (Cj _) rfl (.inr rfl) (ac rfl ab) ab (ak.refl _ _) ?_
   show fR ((Nat.lt_succ_self _));exact h1
  ·intros;exact .none
  ·rintro v r σ C' ⟨t,t0,e2,t1,k1,k2,g2,h2⟩
   by_cases ht:t<m
   ·rw[eu ht] at e2
    injection e2 with e2 e3
    show e2
    refine iEA _ rfl ?_
    refine aP ?_;x_close
    apply de (rfl) ‹_› h2 (by change aH true _=true;rfl)
    refine bM ?_;x_close
    refine iy (vs:=(lotsP s t).map tl) (R:=λv=>match v with|.tup us=>some (.tup (us++[.int t]))|_=>none) (Bool.and_self _) ?_ ?_ ?_ ?_
    ·refine aZ rfl ?_;refine vm rfl ?_;refine aj ?_;refine ag ‹_› ?_;x_close
     show e1
     apply oi s (by lia) ((Nat.le_of_succ_le hs)) ((Nat.le_of_lt (B7 ht hm)))
     intro c2 C2 g3 f3 h3
     apply cE h3
     exact⟨rfl,.has h3,g3⟩
    ·show B8
     have:=fK (m:=t) (s:=s)
     have:2^t≤2^13:=Cp (ltb rfl) ((Nat.le_of_lt (B7 ht hm)))
     exact B4 (B4 ‹_› this) (Mine.Lake.leb rfl)
    ·intro v hv σ' C2 hσ g3
     refine oEA (Cl.mp hv) λlot hlot zr0=>?_;subst zr0
     have hlast:=(hσ "last" (rfl)).trans (show _=some (V.int t) from ab)
     refine iEa3 _ rfl (λy hy=>aI (rfl) hy) ?_
     apply bg
     refine⟨az.refl _,λxx=>?_,cTf⟩
     refine aj ?_;refine ag ‹_› ?_;x_close
     apply yK
     ·have:=d7 hlot
      simp;exact B4 (Nat.le_succ_of_le (Cg this)) (B4 hs (B5 _ _))
     exact⟨rfl,az.refl _⟩
    ·intro c3 C3 g3 f3 h3
     refine(?_:∃_,_)
     have h23:=h2.grow g3
     refine iEa3 _ h23 rfl ?_
     apply uf h23 h3 (h2.ne f3)
     ·have a1:=fK (m:=t) (s:=s+1)
      have a2:=fK (m:=t) (s:=s)
      have:2^t≤2^12:=Cp (ltb rfl) ((Nat.le_of_lt_succ (B7 ht hm)))
      have a3:=List.length_filterMap_le (λv=>match v with|V.tup us=>some (V.tup (us++[V.int t]))|_=>none) ((lotsP s t).map tl)
      show Cf;show B8
      rw[B8] at a3
      lia
     intro C4 g4 h4 l4
     refine(?_:∃_,_)
     refine Bf (t+1) (Nat.le_succ_of_le t0) e3 (.inl ((Nat.succ_le_of_lt ht))) (‹_›) (‹_›) ((g2.trans g3.but).trans g4) ?_
     have e4:(lotsP (s+1) (t+1)).map tl=(lotsP (s+1) t).map tl++((lotsP s t).map tl).filterMap (λv=>match v with|V.tup us=>some (V.tup (us++[V.int t]))|_=>none):=by
      conv=>lhs;unfold lotsP
      show List.map_append;show List.map_map
      congr 1
      show List.filterMap_map
      generalize lotsP s t=L
      induction L with
      |nil=>rfl
      |cons a L ih=>
       show Cc;show List.filterMap_cons;show ih
       simp[tl]
     show e4;exact h4
   ·rw[lu ((Cm ht))] at e2;injection e2
  ·rintro σ C' ⟨t,t0,e2,t1,k1,k2,g2,h2⟩
   by_cases ht:t<m
   ·rw[eu ht] at e2;injection e2
   ·refine ag ‹_› ?_;conv=>whnf
    refine q c C' ((g1.but.trans g2).fresh f1) f1 ?_
    rcases t1 with t1|t1
    ·have:t=m:=Nat.le_antisymm t1 (Cm ht)
     subst this;exact h2
    ·by_cases hms:m=t
     ·show hms;exact h2
     ·subst t1
      rw[fR ((Nat.lt_succ_self _))] at h2
      show fR ((Nat.lt_succ_of_le (Cm ht)));exact h2
def PCs(C:CH)(cs:List Nat)(L:List (List Int)):Prop:=cs.length=L.length∧∀i d,cs[i]?=some d→Has C d (.list (il (L.getD i [])))
theorem PCs.grow{C':CH}{cs:List Nat}{L:List (List Int)}(h:PCs C cs L)(g:az C C'):PCs C' cs L:=⟨h.1,λi d e=>(h.2 i d e).grow g⟩
noncomputable def cl(cs:List Nat):List V:=cs.map .cell
theorem vq{cs:List Nat}{i d:Nat}(h:cs[i]?=some d)(hl:cs.length≤100000):nth (cl cs) i=some (.cell d):=by
 unfold nth cl
 show(if_neg (by show B8;exact Nat.not_lt_of_le hl));show(if_pos (by exact Int.natCast_nonneg _));show Cv;show List.getElem?_map;show h;rfl
noncomputable def nC(L:List (List Int))(lot:List Nat):List Int:=lot.foldl (λp i=>dX p (L.getD i [])) [1]
noncomputable def bB(L:List (List Int))(lot:List Nat)(w:Nat):PE:=(aY (dW (nC L lot) w)).2
structure WholeOk(P:PE):Prop where
 np:(keys P).Nodup
 l:P.length≤10000
 fp:dU 1000 P
 D:∃D,And3 (∀e∈P,e.2.den∣D) (0<D) (D<2^1000)
 t0:P≠[]→toldP P≠0
 ts:RS 4000 (toldP P)⁻¹
 ts':RS 8000 (toldP P)
theorem fU{P:PE}{cp:Nat}(hp:Has C cp (.dict (enc P)))(W:WholeOk P)(q:∀c C',az C C'→aE C c→Has C' c (.dict (enc (aY P).2))→Q (.tup [rv (aY P).1,.cell c]) C'):Run ((lev whC (n+100)).call "whole_form" [.cell cp]) C Q:=by
 refine cv W.D λD h1 h2 h3=>?_
 exact jd hp W.np W.l W.fp h1 h2 h3 W.t0 W.ts W.ts' q
structure CandOk(L:List (List Int))(lot:List Nat)(w:Nat):Prop where
 fp:∀dn rs,lot=dn++rs→(∀x∈nC L dn,fit x=true)∧(nC L dn).length≤1000
 fl:∀i∈lot,(∀x∈L.getD i [],fit x=true)∧(L.getD i []).length≤1000
 wo:WholeOk (dW (nC L lot) w)
theorem kb{L:List (List Int)}{lot:List Nat}{cs:List Nat}{cL w:Nat}(hL:Has C cL (.list (cl cs)))(hP:PCs C cs L)(hl:cs.length≤1000)(hi:∀i∈lot,i<L.length)(K:CandOk L lot w)(hw:0<w)(hw':w<1000)
  (q:∀c C',az C C'→aE C c→Has C' c (.dict (enc (bB L lot w)))→Q (.cell c) C'):Run ((lev whC (n+120)).call "candidate_of" [.cell cL,tl lot,.int w]) C Q:=by
 refine aS ?_
 unfold tl
 x_close
 apply an
 intro c0 C0 g0 f0 h0
 x_close
 apply bR (rfl)
 refine aK rfl ?_;refine aj ?_;refine zE ?_;refine(?_:_∧_)
 refine cj .none (λvs σ C'=>Ex3 λdn rs c=>And7 (lot=dn++rs) (vs=rs.map (λ(i:Nat)=>V.int (i:Int))) (af "product" σ=some (.cell c)) (af "pieces" σ=some (.cell cL)) (af "wide" σ=some (.int w)) (az C C') (Has C' c (.list (il (nC L dn))))) ?_ ?_ ?_ ?_
 ·exact oK [] lot c0 rfl rfl ab (ac rfl (ac rfl (ac rfl ab))) (ac rfl ab) g0 h0
 ·intros;exact .none
 ·rintro v r σ C' ⟨dn,rs,c,e1,e2,e3,e4,e5,e6,e7⟩
  cases rs with
  |nil=>injection e2
  |cons i rs=>
   rw[Cc] at e2
   injection e2 with e2 e2'
   show e2
   have hm:i∈lot:=by show e1;exact Cq _ (.head _)
   have hiL:=hi i hm
   have hic:i<cs.length:=by show hP.1;exact hiL
   have hd:cs[i]?=some cs[i]:=List.getElem?_eq_getElem hic
   have hpi:=(hP.2 i _ hd).grow e6
   refine iEA _ rfl ?_
   refine aP ?_;refine ag ‹_› ?_;refine ag ‹_› ?_;x_close
   apply br (hL.grow e6) (vq hd ((B4 hl (B5 _ _))))
   x_close
   apply uo e7 hpi (K.fp dn _ e1).1 (K.fl i hm).1
   ·have:=(K.fp dn _ e1).2
    have:=(K.fl i hm).2
    exact B4 (Nat.add_le_add ‹_› this) (Mine.Lake.leb rfl)
   intro c2 C2 g2 f2 h2
   refine lV ?_;refine bY ?_;conv=>whnf
   refine oK (dn++[i]) rs c2 (by show e1;exact Co _ _ _) e2' ab (‹_›) (‹_›) (e6.trans g2) ?_
   unfold nC at h2 ⊢
   show List.foldl_append;exact h2
 ·rintro σ C' ⟨dn,rs,c,e1,e2,e3,e4,e5,e6,e7⟩
  cases rs with
  |cons e rs=>injection e2
  |nil=>
   rw[Cn] at e1
   subst e1
   refine ag ‹_› ?_;refine ag ‹_› ?_;x_close
   apply gF e7 hw hw' (K.fp _ [] (Eq.symm (Cn _))).2
   intro c2 C2 g2 f2 h2
   x_close
   apply fU h2 K.wo
   intro c3 C3 g3 f3 h3
   conv=>whnf
   exact q c3 C3 (e6.trans (g2.trans g3)) (f3.grow (e6.trans g2)) h3
def t9(f b:PE)(F:DS→Prop):Prop:=And7 ((keys b).Nodup) (dU 4000 b) (b≠[]) (b.length≤1000) (lc b≠0) (RS 4000 (lc b)) (∃(G:Nat→DS→Prop) (T:Nat),And3 (G T ⟨[],[],f⟩) (∀T s,G T s→RunOk b s∧(s.l≠[]→∃T',T'<T∧G T' (gl b s))) (∀T s,G T s→s.l=[]→F s))
theorem rW{L:List (List Int)}{lot:List Nat}{w:Nat}(K:CandOk L lot w):(bB L lot w).length≤10000:=by
 unfold bB aY
 split
 ·simp
 ·unfold bA;show B8;exact K.wo.l
theorem jN{f:PE}{L:List (List Int)}{cs:List Nat}{cf cL w s:Nat}(F:List Nat→DS→Prop)(hf:Has C cf (.dict (enc f)))(hL:Has C cL (.list (cl cs)))(hP:PCs C cs L)(hl:L.length≤13)(hs:s≤13)(hw:0<w)(hw':w<1000)
  (hlot:∀lot∈lotsP s L.length,CandOk L lot w∧(aL (bB L lot w)=false→t9 f (bB L lot w) (F lot)))
  (hF:∀lot∈lotsP s L.length,∀d,aL (bB L lot w)=false→F lot d→d.r=[]→WholeOk d.q)
  (q:∀C',az C C'→(∀lot∈lotsP s L.length,aL (bB L lot w)=true∨∃d,F lot d∧d.r≠[])→Q .nn C')
  (q':∀lot∈lotsP s L.length,∀d c1 c2 C',az C C'→aL (bB L lot w)=false→F lot d→d.r=[]→Has C' c1 (.dict (enc (bB L lot w)))→Has C' c2 (.dict (enc (aY d.q).2))→aE C c1→aE C c2→Q (.tup [tl lot,.cell c1,.cell c2]) C') :
  Run ((lev whC (n+320)).call "first_hit" [.cell cf,.cell cL,.int s,.int w]) C Q:=by
 have hcl:cs.length=L.length:=hP.1
 refine aS ?_
 x_close
 apply bR (rfl)
 refine aZ rfl ?_;refine vm rfl ?_;refine aj ?_;x_close
 apply dT hL
 x_close
 show(show(cl cs).length=L.length from by unfold cl;show B8;show hcl;rfl)
 apply oi s (by lia) hs hl
 intro c0 C0 g0 f0 h0
 apply cE h0
 refine cj (.has h0) (λvs σ C'=>Ex2 λdn rs=>And7 (lotsP s L.length=dn++rs) (vs=rs.map tl) (af "rest" σ=some (.cell cf)) (af "pieces" σ=some (.cell cL)) (af "wide" σ=some (.int w)) (az C0 C') (∀lot∈dn,aL (bB L lot w)=true∨∃d,F lot d∧d.r≠[])) ?_ ?_ ?_ ?_
 ·exact ij [] _ rfl rfl (ac rfl (ac rfl (ac rfl ab))) (ac rfl (ac rfl ab)) ab (az.refl _) (λxx h=>by cases h)
 ·rintro vs σ C' ⟨dn,rs,e1,e2,e3,e4,e5,e6,e7⟩
  exact .grow e6 (.has h0)
 ·rintro v r σ C' ⟨dn,rs,e1,e2,e3,e4,e5,e6,e7⟩
  cases rs with
  |nil=>injection e2
  |cons lot rs=>
   rw[Cc] at e2
   injection e2 with e2 e2'
   show e2
   have hm:lot∈lotsP s L.length:=by show e1;exact Cq _ (.head _)
   refine oA (hlot lot hm) λK hdiv=>?_
   have gC:az C C':=g0.trans e6
   refine iEA _ rfl ?_
   refine aP ?_;refine ag ‹_› ?_;refine ag ‹_› ?_;x_close
   apply kb (hL.grow gC) (hP.grow gC) ((B4 (Nat.le_succ_of_le (Cg hcl)) (B4 (Nat.succ_le_succ hl) (B5 _ _)))) (λi hi=>ir hm i hi) K hw hw'
   intro c1 C1 g1 f1 h1
   x_close
   apply ja h1 (rW K)
   intro C2 g2
   have hnext:(aL (bB L lot w)=true∨∃d,F lot d∧d.r≠[])→∀lot'∈dn++[lot],aL (bB L lot' w)=true∨∃d,F lot' d∧d.r≠[]:=by
    intro h lot' hl'
    rcases Cz.mp hl' with hl'|hl'
    ·exact e7 lot' hl'
    ·simp at hl';show hl';exact h
   refine⟨λhn=>?_,λhn=>?_⟩
   ·have hn:aL (bB L lot w)=false:=by simpa using hn
    refine vT (hdiv hn) λa1 a2 a3 a4 a5 a6 G T b1 b2 b3=>?_
    have gC2:az C C2:=gC.trans (g1.trans g2)
    refine ag ‹_› ?_;x_close
    apply nj (hf.grow gC2) (h1.grow g2) a1 a2 a3 a4 a5 a6 G T b1 b2
    intro d T' C3 g3 hG hd
    have hFd:=b3 T' d hG hd
    refine⟨λhr c2 h2 f2=>?_,λhr=>?_⟩
    ·refine(?_:_∧_)
     refine⟨λxx=>?_,cTf⟩
     x_close
     apply fU h2 (hF lot hm d hn hFd hr)
     intro c4 C4 g4 f4 h4
     conv=>whnf
     exact q' lot hm d c1 c4 C4 (gC2.trans (g3.trans g4)) hn hFd hr (h1.grow (g2.trans (g3.trans g4))) h4 (f1.grow gC) (f4.grow (gC2.trans g3))
    ·refine(?_:_∧_)
     refine⟨cFt,λxx=>?_⟩
     conv=>whnf
     exact ij (dn++[lot]) rs (by show e1;exact Co _ _ _) e2' (‹_›) (‹_›) (‹_›) (e6.trans (g1.trans (g2.trans g3))) (hnext (.inr ⟨d,hFd,hr⟩))
   ·have hn:aL (bB L lot w)=true:=by simpa using hn
    conv=>whnf
    exact ij (dn++[lot]) rs (by show e1;exact Co _ _ _) e2' (‹_›) (‹_›) (‹_›) (e6.trans (g1.trans g2)) (hnext (.inl hn))
 ·rintro σ C' ⟨dn,rs,e1,e2,e3,e4,e5,e6,e7⟩
  cases rs with
  |cons e rs=>injection e2
  |nil=>
   rw[Cn] at e1
   conv=>whnf
   exact q C' (g0.trans e6) (by show e1;exact e7)
theorem pN(X:Nat→Option Bool):∀b:Bool,dS (λi j=>if i<2∧j<2 then(if i=j then X i else some (if i=0 then b else !b)) else none) (PySem.W.kas_sort 2)=some (if b then #[0,1] else #[1,0])
 |true=>rfl
 |false=>rfl
noncomputable def tb3(b01 b02 b12:Bool)(i j:Nat):Bool:=
 if i=0 then(if j=1 then b01 else b02) else if i=1 then(if j=0 then !b01 else b12) else(if j=0 then !b02 else !b12)
noncomputable def so3(b01 b02 b12:Bool):List Nat:=
 if b01 then(if b12 then[0,1,2] else if b02 then[0,2,1] else[2,0,1]) else(if b02 then[1,0,2] else if b12 then[1,2,0] else[2,1,0])
theorem r6(X:Nat→Option Bool):∀b01 b02 b12:Bool,(b01=true→b12=true→b02=true)→(b01=false→b12=false→b02=false)→
  (dS (λi j=>if i<3∧j<3 then(if i=j then X i else some (tb3 b01 b02 b12 i j)) else none) (PySem.W.kas_sort 3)).map Array.toList=some (so3 b01 b02 b12)
 |true,true,true,_,_=>rfl
 |true,true,false,_,_=>rfl
 |true,false,false,_,_=>rfl
 |true,false,true,h,_=>by cases h rfl rfl
 |false,true,true,_,_=>rfl
 |false,true,false,_,h=>by cases h rfl rfl
 |false,false,true,_,_=>rfl
 |false,false,false,_,_=>rfl
theorem gS{a b:Nat}(h:a≠b):decide (b<a)=!decide (a<b):=by
 by_cases h1:a<b
 ·have:¬b<a:=Nat.not_lt_of_le (Nat.le_of_lt h1)
  simp only[h1,this,decide_true,decide_false,Bool.not_true]
 ·have:b<a:=by lia
  simp only[h1,this,decide_true,decide_false,Bool.not_false]
theorem ltn{a b:Nat}(h:¬a<b)(k:a≠b):b<a:=Nat.lt_of_le_of_ne (Cm h) k.symm
theorem pw2{R:Nat→Nat→Prop}{a b:Nat}(h:R a b):[a,b].Pairwise R:=.cons (λx y=>by cases Cd.mp y;exact h) (List.pairwise_singleton _ _)
theorem pw3{R:Nat→Nat→Prop}{a b c:Nat}(h:R a b)(k:R a c)(l:R b c):[a,b,c].Pairwise R:=.cons (λx y=>by rcases Cb.mp y with rfl|y;exact h;cases Cd.mp y;exact k) (pw2 l)
theorem jt{C:CH}{vs:List V}(r:Nat→Nat)(hm:vs.length≤3)(hf:(vs.all (db true) || vs.all (db false))=true)
  (hlt:∀i j a b,vs[i]?=some a→vs[j]?=some b→i≠j→ltv C 8 a b=some (decide (r i<r j))) (hinj:∀i j,i<vs.length→j<vs.length→r i=r j→i=j) :
  ∃p:List Nat,And3 (p.Perm (List.range vs.length)) (dj C vs=some (p.map λi=>vs.getD i .nn)) (p.Pairwise (λi j=>r i<r j)):=by
 rcases vs with _|⟨a,_|⟨b,_|⟨c,_|⟨d,rr⟩⟩⟩⟩
 ·exact iEa3 [] .nil rfl .nil
 ·exact iEa3 [0] (.refl _) rfl (List.pairwise_singleton _ _)
 ·have h01:=hlt 0 1 a b rfl rfl (Nat.zero_ne_one)
  have h10:=hlt 1 0 b a rfl rfl (Nat.one_ne_zero)
  have hne:r 0≠r 1:=λh=>by cases hinj 0 1 (Nat.zero_lt_succ _) (Nat.one_lt_succ_succ _) h
  have h10':ltv C 8 b a=some (!decide (r 0<r 1)):=by show h10;show gS hne;rfl
  have he:(λi j=>match[a,b][i]?,[a,b][j]? with|some a,some b=>ltv C 8 a b|_,_=>none)=λi j=>if i<2∧j<2 then(if i=j then(match[a,b][i]? with|some a=>ltv C 8 a a|none=>none) else some (if i=0 then decide (r 0<r 1) else !decide (r 0<r 1))) else none:=by
   funext i j
   rcases i with _|_|i<;>rcases j with _|_|j<;>first|rfl|exact h01|exact h10'|simp
  have hs:dj C [a,b]=match dS (λi j=>match[a,b][i]?,[a,b][j]? with|some a,some b=>ltv C 8 a b|_,_=>none) (PySem.W.kas_sort 2) with
   |some p=>match pP [a,b] p.toList with
    |some us=>if us.length≤100 then some us else none
    |none=>none
   |none=>none:=by
   unfold dj
   simp only[hf]
   rfl
  show hs;show he;show pN
  clear hs he h10' h01 h10 hlt hinj hf
  by_cases hr:r 0<r 1
  ·refine iEa3 [0,1] (.refl _) ?_ (pw2 hr)
   simp only[hr,decide_true,if_true];rfl
  ·refine iEa3 [1,0] (List.Perm.swap ..) ?_ (pw2 (ltn hr hne))
   simp only[hr,decide_false];rfl
 ·have h01:=hlt 0 1 a b rfl rfl (Nat.zero_ne_one)
  have h10:=hlt 1 0 b a rfl rfl (Nat.one_ne_zero)
  have h02:=hlt 0 2 a c rfl rfl (Nat.zero_ne_add_one _)
  have h20:=hlt 2 0 c a rfl rfl (Ne.symm (Nat.zero_ne_add_one _))
  have h12:=hlt 1 2 b c rfl rfl (Nat.ne_of_beq_eq_false rfl)
  have h21:=hlt 2 1 c b rfl rfl (Nat.add_one_add_one_ne_one)
  have n01:r 0≠r 1:=λh=>by cases hinj 0 1 (Nat.zero_lt_succ _) (Nat.one_lt_succ_succ _) h
  have n02:r 0≠r 2:=λh=>by cases hinj 0 2 (Nat.zero_lt_succ _) ‹_› h
  have n12:r 1≠r 2:=λh=>by cases hinj 1 2 (Nat.one_lt_succ_succ _) ‹_› h
  have h10':ltv C 8 b a=some (!decide (r 0<r 1)):=by show h10;show gS n01;rfl
  have h20':ltv C 8 c a=some (!decide (r 0<r 2)):=by show h20;show gS n02;rfl
  have h21':ltv C 8 c b=some (!decide (r 1<r 2)):=by show h21;show gS n12;rfl
  have he:(λi j=>match[a,b,c][i]?,[a,b,c][j]? with|some a,some b=>ltv C 8 a b|_,_=>none)=λi j=>if i<3∧j<3 then(if i=j then(match[a,b,c][i]? with|some a=>ltv C 8 a a|none=>none) else some (tb3 (decide (r 0<r 1)) (decide (r 0<r 2)) (decide (r 1<r 2)) i j)) else none:=by
   funext i j
   rcases i with _|_|_|i<;>rcases j with _|_|_|j<;>first|rfl|exact h01|exact h10'|exact h02|exact h20'|exact h12|exact h21'|simp
  have hs:dj C [a,b,c]=match(dS (λi j=>match[a,b,c][i]?,[a,b,c][j]? with|some a,some b=>ltv C 8 a b|_,_=>none) (PySem.W.kas_sort 3)).map Array.toList with
   |some p=>match pP [a,b,c] p with
    |some us=>if us.length≤100 then some us else none
    |none=>none
   |none=>none:=by
   unfold dj
   simp only[hf]
   cases dS (λi j=>match[a,b,c][i]?,[a,b,c][j]? with|some a,some b=>ltv C 8 a b|_,_=>none) (PySem.W.kas_sort 3)<;>rfl
  have c1:decide (r 0<r 1)=true→decide (r 1<r 2)=true→decide (r 0<r 2)=true:=λa b=>decide_eq_true (Nat.lt_trans (of_decide_eq_true a) (of_decide_eq_true b))
  have c2:decide (r 0<r 1)=false→decide (r 1<r 2)=false→decide (r 0<r 2)=false:=λa b=>decide_eq_false λh=>of_decide_eq_false a (B7 h (Cm (of_decide_eq_false b)))
  show hs;show he;show r6 _ _ _ _ c1 c2
  clear hs he c1 c2 h10' h20' h21' h01 h10 h02 h20 h12 h21 hlt hinj hf
  by_cases q01:r 0<r 1<;>by_cases q02:r 0<r 2<;>by_cases q12:r 1<r 2<;>simp only[q01,q02,q12,decide_true,decide_false]
  ·exact iEa3 [0,1,2] (.refl _) rfl (pw3 q01 q02 q12)
  ·exact iEa3 [0,2,1] (by change List.Perm _ [0,1,2];decide) rfl (pw3 q02 q01 (ltn q12 n12))
  ·exact absurd (Nat.lt_trans q01 q12) q02
  ·exact iEa3 [2,0,1] (by change List.Perm _ [0,1,2];decide) rfl (pw3 (ltn q02 n02) (ltn q12 n12) q01)
  ·exact iEa3 [1,0,2] (by change List.Perm _ [0,1,2];exact List.Perm.swap _ _ _) rfl (pw3 (ltn q01 n01) q12 q02)
  ·exact absurd (B7 q02 (B4 (Cm q12) (Cm q01))) (Nat.lt_irrefl _)
  ·exact iEa3 [1,2,0] (by change List.Perm _ [0,1,2];decide) rfl (pw3 q12 (ltn q01 n01) (ltn q02 n02))
  ·exact iEa3 [2,1,0] (by change List.Perm _ [0,1,2];decide) rfl (pw3 (ltn q12 n12) (ltn q02 n02) (ltn q01 n01))
 ·exact absurd hm (by simp)
theorem ek{α:Type}(d:α)(L:List α):(List.range L.length).map (L.getD · d)=L:=by
 apply List.ext_getElem
 ·simp
 ·intro i h1 h2
  show List.getElem_map;show List.getElem_range;show Ci;show List.getElem?_eq_getElem h2;rfl
inductive Pr where
 |L (a b:Int)
 |H (b:Int)
 deriving DecidableEq
noncomputable def aG:List Pr:=((List.range 5).flatMap λ(a:Nat)=>(List.range 7).map λ(b:Nat)=>Pr.L ((a:Int)-2) ((b:Int)-3))++(List.range 4).map λ(b:Nat)=>Pr.H ((b:Int)+1)
noncomputable def pe:Pr→PE
 |.L a b=>[((1,0),1)]++(if a≠0 then[((0,1),(a:Rat))] else[])++(if b≠0 then[((0,0),(b:Rat))] else[])
 |.H b=>[((1,1),1),((0,0),(b:Rat))]
noncomputable def eD:Pr→PE
 |.L a b=>(if b≠0 then[((0,0),(b:Rat))] else[])++(if a≠0 then[((0,1),(a:Rat))] else[])++[((1,0),1)]
 |.H b=>[((0,0),(b:Rat)),((1,1),1)]
noncomputable def mu(k:Mo):Nat:=16*k.1+k.2
theorem Bl{a:Int}{k n:Nat}(h:-(k:Int)≤a)(h':a≤n-1-k):(a+k).toNat<n:=by lia
theorem Bo{a:Int}{k:Nat}(h:-(k:Int)≤a):((a+k).toNat:Int)-k=a:=by lia
theorem A8{a b:Int}(h:-2≤a∧a≤2)(h':-3≤b∧b≤3):Pr.L a b∈aG:=by
 unfold aG
 refine List.mem_append_left _ (List.mem_flatMap.mpr ⟨(a+2).toNat,List.mem_range.mpr (Bl (k:=2) (n:=5) h.1 h.2),Cl.mpr ⟨(b+3).toNat,List.mem_range.mpr (Bl (k:=3) (n:=7) h'.1 h'.2),?_⟩⟩)
 congr 1
 ·exact Bo (k:=2) h.1
 ·exact Bo (k:=3) h'.1
theorem AZ{b:Int}(h:1≤b∧b≤4):Pr.H b∈aG:=by
 unfold aG
 refine Cq _ (Cl.mpr ⟨(b-1).toNat,List.mem_range.mpr (by omega (config:={})),?_⟩)
 congr 1;lia
theorem em(p:Pr):(eD p).Perm (pe p):=by
 induction p using Pr.casesOn with
 |L a b=>
  unfold eD pe
  by_cases ha:a=0<;>by_cases hb:b=0<;>simp only[ha,hb,ne_eq,not_true_eq_false,not_false_eq_true,if_true,if_false,List.nil_append,List.append_nil,List.cons_append]
  ·exact .refl _
  ·exact .swap ..
  ·exact .swap ..
  ·exact(List.Perm.swap ..).trans ((List.Perm.cons _ (.swap ..)).trans (.swap ..))
 |H b=>exact .swap ..
theorem gy(p:Pr):(eD p).Pairwise λe d=>mu e.1<mu d.1:=by
 induction p using Pr.casesOn with
 |L a b=>
  unfold eD
  by_cases ha:a=0<;>by_cases hb:b=0<;>simp[ha,hb,mu]
 |H b=>unfold eD;simp[mu]
theorem jJ(p:Pr):(pe p).length≤3:=by
 induction p using Pr.casesOn with
 |L a b=>unfold pe;by_cases ha:a=0<;>by_cases hb:b=0<;>simp[ha,hb]
 |H b=>unfold pe;exact Mine.Lake.leb rfl
theorem mH(p:Pr):∀e∈pe p,e.1.1≤1∧e.1.2≤1:=by
 induction p using Pr.casesOn with
 |L a b=>unfold pe;by_cases ha:a=0<;>by_cases hb:b=0<;>simp[ha,hb]
 |H b=>unfold pe;simp
theorem fJ{α:Type}{f:α→Nat}:∀{l m:List α},l.Perm m→l.Pairwise (λa b=>f a<f b)→m.Pairwise (λa b=>f a<f b)→l=m
 |[],m,h,_,_=>h.symm.eq_nil.symm▸rfl
 |a::l,[],h,_,_=>absurd h.eq_nil (List.cons_ne_nil _ _)
 |a::l,b::m,h,h1,h2=>by
  rw[List.pairwise_cons] at h1 h2
  have hab:a=b:=by
   rcases Cb.mp (h.mem_iff.mp B9) with e|hm
   ·exact e
   ·rcases Cb.mp (h.mem_iff.mpr (B9 (a:=b) (l:=m))) with e|hm'
    ·exact e.symm
    ·have x1:=h2.1 a hm
     have x2:=h1.1 b hm'
     lia
  subst hab
  show fJ (List.Perm.cons_inv h) h1.2 h2.2;rfl
noncomputable def bH(e:Mo×Rat):V:=.tup [mv e.1,rv e.2]
theorem pX(P:PE):((enc P).map λe=>V.tup [e.1.v,e.2])=P.map bH:=by
 unfold enc;show List.map_map;rfl
noncomputable def eqI(e d:Mo×Rat):Bool:=(decide ((e.1.1:Int)=d.1.1)&&(decide ((e.1.2:Int)=d.1.2)&&true))&&((decide (e.2.num=d.2.num)&&(decide ((e.2.den:Int)=d.2.den)&&true))&&true)
theorem z9{C:CH}{n:Nat}(e d:Mo×Rat):eqv C (n+3) (bH e) (bH d)=some (eqI e d):=rfl
noncomputable def ltI(e d:Mo×Rat):Option Bool:=ltv [] 5 (bH e) (bH d)
theorem ub{C:CH}{n:Nat}(e d:Mo×Rat):ltv C (n+4) (bH e) (bH d)=ltI e d:=by
 rfl
theorem wZ{e d:Mo×Rat}(h:mu e.1≠mu d.1)(h1:e.1.2<16)(h2:d.1.2<16):ltI e d=some (decide (mu e.1<mu d.1)):=by
 unfold mu at *
 obtain⟨⟨a,b⟩,u⟩:=e
 obtain⟨⟨c,d⟩,v⟩:=d
 have key:ltI ((a,b),u) ((c,d),v)=(match some (decide ((a:Int)=c)&&(decide ((b:Int)=d)&&true)) with
  |some true=>lts (ltv [] 4) (eqv [] 4) [rv u] [rv v]
  |some false=>(match some (decide ((a:Int)=c)) with
   |some true=>(match some (decide ((b:Int)=d)) with
    |some true=>some false
    |some false=>some (decide ((b:Int)<d))
    |none=>none)
   |some false=>some (decide ((a:Int)<c))
   |none=>none)
  |none=>none):=rfl
 show key
 by_cases a1:a=c
 ·subst a1
  have a2:b≠d:=λa2=>h (by show a2;rfl)
  show decide_eq_true rfl;show(decide_eq_false (p:=(b:Int)=d) λe=>a2 (Int.ofNat.inj e))
  exact congrArg some (decide_eq_decide.mpr (by simp))
 ·show(decide_eq_false (p:=(a:Int)=c) λe=>a1 (Int.ofNat.inj e))
  exact congrArg some (decide_eq_decide.mpr (by lia))
noncomputable def eqL(l m:PE):Option Bool:=eqs (λa b=>match a,b with|_,_=>eqv [] 6 a b) (l.map bH) (m.map bH)
theorem yk{f f':V→V→Option Bool}{a b:V}{x y:List V}(h:f a b=f' a b)(h':eqs f x y=eqs f' x y):eqs f (a::x) (b::y)=eqs f' (a::x) (b::y):=by
 change (match f a b,eqs f x y with|some p,some q=>some (p&&q)|_,_=>none)=(match f' a b,eqs f' x y with|some p,some q=>some (p&&q)|_,_=>none)
 show h;show h';rfl
theorem uT{f:V→V→Option Bool}{a b:V}{x y:List V}(h:f a b=some true)(h':eqs f x y=some true):eqs f (a::x) (b::y)=some true:=by
 change (match f a b,eqs f x y with|some p,some q=>some (p&&q)|_,_=>none)=_
 show h;show h';rfl
theorem zf{f f' g g':V→V→Option Bool}{a b:V}{x y:List V}(h:f a b=f' a b)(h2:g a b=g' a b)(h':lts f g x y=lts f' g' x y):lts f g (a::x) (b::y)=lts f' g' (a::x) (b::y):=by
 change (match g a b with|some true=>lts f g x y|some false=>f a b|none=>none)=(match g' a b with|some true=>lts f' g' x y|some false=>f' a b|none=>none)
 show h;show h2;show h';rfl
theorem re{C:CH}{n:Nat}{l:PE}:∀{m:PE},eqs (eqv C (n+3)) (l.map bH) (m.map bH)=eqs (eqv [] 3) (l.map bH) (m.map bH):=by
 induction l with
 |nil=>intro m;induction m using List.casesOn<;>rfl
 |cons e l ih=>intro m;induction m using List.casesOn with
  |nil=>rfl
  |cons d m=>exact yk rfl ih
theorem qp{C:CH}{n k:Nat}{l:PE}:∀{m:PE},lts (ltv C (n+4)) (eqv C (k+3)) (l.map bH) (m.map bH)=lts (ltv [] 4) (eqv [] 3) (l.map bH) (m.map bH):=by
 induction l with
 |nil=>intro m;induction m using List.casesOn<;>rfl
 |cons e l ih=>intro m;induction m using List.casesOn with
  |nil=>rfl
  |cons d m=>exact zf rfl rfl ih
noncomputable def rkp:Pr→Nat
 |.L a b=>if a=0 then(if b=0 then 0 else 10+2*(b+3).toNat) else if b=0 then 40+(a+2).toNat else 100+5*(b+3).toNat+(a+2).toNat
 |.H b=>11+2*(b+3).toNat
theorem nu:∀p∈aG,∀q∈aG,rkp p=rkp q→p=q:=by decide +kernel
theorem zl:∀p∈aG,∀q∈aG,(pe p).length=(pe q).length→eqs (eqv [] 3) ((eD p).map bH) ((eD q).map bH)=some (decide (p=q)):=by decide +kernel
theorem uW:∀p∈aG,∀q∈aG,p≠q→(if(pe p).length=(pe q).length then lts (ltv [] 4) (eqv [] 3) ((eD p).map bH) ((eD q).map bH) else some (decide ((pe p).length<(pe q).length)))=some (decide (rkp p<rkp q)):=by decide +kernel
noncomputable def uw(sc:Scope)(f:Str)(args:List Expr):Bool:=(match aR sc f with|some .globalImplicit=>true|_=>false)&&seq f "sorted"&&(match fX args with|some (x,m,b)=>m0 sc x&&(seq m "items"&&b)|none=>false)
set_option smartUnfolding false in
theorem tB{wh:Wh}{sc:Scope}{σ:Env}{f x m:Str}{pf p:Pos}{args:List Expr}{b:Bool}{c:Nat}{es:List (K×V)}{us:List V}(h0:uw sc f args=true)(hs:fX args=some (x,m,b))
  (h2:af x σ=some (.cell c)) (hc:Has C c (.dict es)) (hl:es.length≤3) (hv:dj C (es.map λe=>.tup [e.1.v,e.2])=some us) (q:Run (new (.list us)) C Q) :
  Run ((lev wh (n+1)).expr sc (.Call (.Name f pf) args [] p) σ) C Q:=by
 have h5:m0 sc x=true∧(seq m "items"&&b)=true:=nq (by have:=(nq h0).2;rw[hs] at this;exact this)
 refine oC (nq (nq h0).1).1 (bE (nq (nq h0).1).2 (uL hs (bE h5.2 (dH (fT h5.1 h2) ?_))))
 refine ah (ax hc (qZ (y:=no) hl (ae (m:=new (.list us)) ?_ q)))
 change (match dj C (es.map λe=>.tup [e.1.v,e.2]) with|some us=>new (.list us) C|none=>none)=_
 show hv;rfl
theorem yE{c:Nat}{vs:List V}(hc:Has C c (.list vs))(h:vs.length≤3)
  (hs:∀C',ak c C C'→Has C' c (.list [])→C'.length=C.length→∃us,dj C' vs=some us∧∀C'',ak c C C''→Has C'' c (.list us)→C''.length=C.length→Q .nn C''):Run (onO "sort" c [] (.list vs)) C Q:=by
 refine ae (m:=bd (put c (.list [])) λxx=>λC=>match dj C vs with
   |some us=>(bd (put c (.list us)) λxx=>ok .nn) C
   |none=>none) ?_ (ah (dE hc λC' g h' l=>?_))
 ·change (if _ then _ else _)=_
  show if_pos h
  all_goals rfl
 ·refine oEA (hs C' g h' l) λus e k=>?_
  refine ae (m:=bd (put c (.list us)) λxx=>ok .nn) (by show e;rfl) ?_
  exact ah (dE h' λC'' g' h'' l'=>au (k C'' (g.trans g') h'' (l'.trans l)))
theorem pF{P:PE}{p:Pr}(h:P.Perm (pe p))(hp:p∈aG):dj C (P.map bH)=some ((eD p).map bH):=by
 have hl:P.length≤3:=by show h.length_eq;exact jJ p
 have hkey:∀e∈P,e.1.1≤1∧e.1.2≤1:=λe he=>mH p e (h.mem_iff.mp he)
 have hnd:(P.map λe=>mu e.1).Nodup:=by
  have h1:=(gy p)
  have h2:((eD p).map λe=>mu e.1).Nodup:=by
   unfold List.Nodup
   show propext (List.pairwise_map ..)
   exact h1.imp λh=>Nat.ne_of_lt h
  exact(((h.trans (em p).symm).map λe=>mu e.1).nodup_iff).mpr h2
 obtain⟨q,hq,hs,hsorted⟩:=jt (C:=C) (vs:=P.map bH) (λi=>mu ((P.getD i ((0,0),0)).1)) (by show B8;exact hl) (by
   show Bool.or_eq_true;right
   show propext (CA ..)
   intro v hv
   refine oEA (Cl.mp hv) λe xx zr0=>?_;subst zr0
   rfl) (λi j a b ha hb hij=>by
   rw[List.getElem?_map] at ha hb
   cases hi:P[i]? with
   |none=>rw[hi] at ha;exact cNo ha
   |some e=>
    cases hj:P[j]? with
    |none=>rw[hj] at hb;exact cNo hb
    |some d=>
     rw[hi] at ha;rw[hj] at hb
     refine cS1 ha ?_;refine cS1 hb ?_
     have ei:P.getD i ((0,0),0)=e:=by show Ci;show hi;rfl
     have ej:P.getD j ((0,0),0)=d:=by show Ci;show hj;rfl
     show ub (n:=4) e d
     simp only[ei,ej]
     have me:=hkey e (List.mem_of_getElem? hi)
     have md:=hkey d (List.mem_of_getElem? hj)
     refine wZ (λhm=>hij ?_) ((B7 (Nat.lt_succ_of_le me.2) (B5 _ _))) ((B7 (Nat.lt_succ_of_le md.2) (B5 _ _)))
     have li:=(List.getElem?_eq_some_iff.mp hi).1
     have lj:=(List.getElem?_eq_some_iff.mp hj).1
     have:=(List.getElem_inj (i:=i) (j:=j) (h₀:=by show B8;exact li) (h₁:=by show B8;exact lj) hnd).mp (by
      show List.getElem_map;show List.getElem_map;show(List.getElem?_eq_some_iff.mp hi).2;show(List.getElem?_eq_some_iff.mp hj).2;exact hm)
     exact this) (λi j li lj hm=>by
   rw[B8] at li lj
   have:=(List.getElem_inj (i:=i) (j:=j) (h₀:=by show B8;exact li) (h₁:=by show B8;exact lj) hnd).mp (by
    show List.getElem_map;show List.getElem_map
    simp only[List.getD_eq_getElem?_getD,List.getElem?_eq_getElem li,List.getElem?_eq_getElem lj,Option.getD_some] at hm
    exact hm)
   exact this)
 show hs
 congr 1
 have e1:(q.map λi=>(P.map bH).getD i .nn)=(q.map λi=>P.getD i ((0,0),0)).map bH:=by
  show List.map_map
  apply List.map_congr_left
  intro i hi
  have hi:i<P.length:=by
   have:=hq.mem_iff.mp hi
   rw[B8,List.mem_range] at this;exact this
  simp only[Function.comp,List.getD_eq_getElem?_getD,List.getElem?_map,List.getElem?_eq_getElem hi,Option.map_some,Option.getD_some]
 show e1
 congr 1
 have hperm:(q.map λi=>P.getD i ((0,0),0)).Perm P:=by
  have h1:=hq.map λi=>P.getD i ((0,0),0)
  rw[B8,ek] at h1;exact h1
 refine fJ (f:=λe:Mo×Rat=>mu e.1) (hperm.trans (h.trans (em p).symm)) ?_ (gy p)
 show propext (List.pairwise_map ..);exact hsorted
def aU(C:CH)(ds:List Nat)(ps:List Pr):Prop:=ds.length=ps.length∧∀(i d:Nat) (p:Pr),ds[i]?=some d→ps[i]?=some p→∃P:PE,P.Perm (pe p)∧Has C d (.dict (enc P))
noncomputable def rT(ds:List Nat):V→Option V
 |.tup [_,_,.int i]=>some (.cell (ds.getD i.toNat 0))
 |_=>none
theorem Bg{a b i j:Nat}(h:a≠b)(hi:i<3)(hj:j<3):a<b↔3*a+i<3*b+j:=by lia
theorem aU.grow{C':CH}{ds:List Nat}{ps:List Pr}(h:aU C ds ps)(g:az C C'):aU C' ds ps:=⟨h.1,λi d p a b=>by refine oEA (h.2 i d p a b) λP x y=>?_;exact iEA P x (y.grow g)⟩
noncomputable def eI(p:Pr)(e i:Nat):V:=.tup [.int ((pe p).length:Nat),.cell e,.int (i:Nat)]
def kg(C:CH)(acc:List V)(ps:List Pr)(es:List Nat):Prop:=acc=(List.range es.length).map (λi=>eI (ps.getD i (.L 0 0)) (es.getD i 0) i)∧∀i,i<es.length→Has C (es.getD i 0) (.list ((eD (ps.getD i (.L 0 0))).map bH))
theorem dG{α:Type}{l:List α}{i:Nat}{d:α}(h:i<l.length):l[i]?=some (l.getD i d):=by show Ci;show List.getElem?_eq_getElem h;rfl
theorem dk{α:Type}{l:List α}{i:Nat}{d:α}(h:i<l.length):l.getD i d∈l:=List.mem_of_getElem? (dG h)
theorem fI{c:Nat}{o:O}(h:Has C c o):at? C c=some o:=by
 refine oE h λv e=>?_
 unfold at?;show e;rfl
theorem q5{p q:Pr}{e d i j:Nat}(hp:p∈aG)(hq:q∈aG)(he:Has C e (.list ((eD p).map bH)))(hd:Has C d (.list ((eD q).map bH)))(hi:i<3)(hj:j<3):
  ltv C 8 (eI p e i) (eI q d j)=some (decide (3*rkp p+i<3*rkp q+j)):=by
 unfold eI
 have hlen:(pe p).length=(eD p).length:=(em p).length_eq.symm
 have hlen':(pe q).length=(eD q).length:=(em q).length_eq.symm
 change lts (ltv C 7) (eqv C 7) _ _=_
 unfold lts
 change (match some (decide (((pe p).length:Int)=(pe q).length)) with|some true=>_|some false=>_|none=>_)=_
 by_cases hl:(pe p).length=(pe q).length
 ·show(decide_eq_true (by show hl;rfl))
  simp only
  unfold lts
  have heq:eqv C 7 (.cell e) (.cell d)=some (decide (p=q)):=by
   change (match at? C e,at? C d with
    |some (.list xs),some (.list ys)=>if xs.length=ys.length then eqs (eqv C 6) xs ys else some false
    |some (.dict es),some (.dict fs)=>if bL es fs then(if es.length=fs.length then eqd (eqv C 6) fs es else some false) else none
    |_,_=>none)=_
   show fI he;show fI hd
   simp only
   show(if_pos (by show B8;show B8;refine rL (hlen ..) ?_;refine rL (hlen' ..) ?_;show hl;rfl));show re (n:=3)
   exact zl p hp q hq hl
  show heq
  by_cases hpq:p=q
  ·show hpq
   simp only[decide_true]
   unfold lts
   change (match some (decide ((i:Int)=j)) with|some true=>_|some false=>_|none=>_)=_
   by_cases hij:i=j
   ·show hij
    simp only[decide_true]
    change some false=_
    simp
   ·show decide_eq_false (Nat.ToInt.of_diseq rfl rfl hij)
    simp only
    change some (decide ((i:Int)<j))=_
    congr 1
    show propext (decide_eq_decide ..);simp
  ·show decide_eq_false hpq
   simp only
   change (match at? C e,at? C d with
    |some (.list xs),some (.list ys)=>lts (ltv C 6) (eqv C 6) xs ys
    |_,_=>none)=_
   show fI he;show fI hd
   simp only
   show qp (n:=2) (k:=3)
   have:=uW p hp q hq hpq
   rw[if_pos hl] at this
   show this
   congr 1
   show propext (decide_eq_decide ..)
   exact Bg (λh=>hpq (nu p hp q hq h)) (by lia) (by lia)
 ·show decide_eq_false (Nat.ToInt.of_diseq rfl rfl hl)
  simp only
  have hpq:p≠q:=λh=>hl (by show h;rfl)
  have:=uW p hp q hq hpq
  rw[if_neg hl] at this
  change some (decide (((pe p).length:Int)<(pe q).length))=_
  have hd:decide (((pe p).length:Int)<(pe q).length)=decide ((pe p).length<(pe q).length):=by show propext (decide_eq_decide ..);exact Int.ofNat_lt
  show hd;show this
  congr 1
  show propext (decide_eq_decide ..)
  exact Bg (λh=>hpq (nu p hp q hq h)) (by lia) (by lia)
theorem kg.sort{acc:List V}{ps:List Pr}{es:List Nat}(h:kg C acc ps es)(hl:es.length≤3)(hps:ps.length=es.length)(hp:∀p∈ps,p∈aG):
  ∃q:List Nat,And3 (q.Perm (List.range es.length)) (dj C acc=some (q.map λi=>eI (ps.getD i (.L 0 0)) (es.getD i 0) i)) (q.Pairwise (λi j=>3*rkp (ps.getD i (.L 0 0))+i<3*rkp (ps.getD j (.L 0 0))+j)):=by
 refine oA h λzr0 hh=>?_;show zr0
 have hget:∀i a,((List.range es.length).map (λi=>eI (ps.getD i (.L 0 0)) (es.getD i 0) i))[i]?=some a→i<es.length∧a=eI (ps.getD i (.L 0 0)) (es.getD i 0) i:=by
  intro i a ha
  have li:=(List.getElem?_eq_some_iff.mp ha).1
  rw[B8,List.length_range] at li
  refine⟨li,?_⟩
  rw[List.getElem?_map,List.getElem?_range li] at ha
  refine cS1 ha ?_;rfl
 obtain⟨q,hq,hs,hsorted⟩:=jt (C:=C) (vs:=(List.range es.length).map (λi=>eI (ps.getD i (.L 0 0)) (es.getD i 0) i)) (λi=>3*rkp (ps.getD i (.L 0 0))+i) (by show B8;show List.length_range;exact hl) (by
   show Bool.or_eq_true;left
   show propext (CA ..)
   intro v hv
   refine oEA (Cl.mp hv) λe xx zr0=>?_;subst zr0
   rfl) (λi j a b ha hb hij=>by
   refine oA (hget i a ha) λli zr0=>?_;show zr0
   refine oA (hget j b hb) λlj zr0=>?_;show zr0
   exact q5 (hp _ (dk ((B7 li (Cg (Eq.symm hps)))))) (hp _ (dk ((B7 lj (Cg (Eq.symm hps)))))) (hh i li) (hh j lj) ((B7 li hl)) ((B7 lj hl))) (λi j li lj hm=>by
   rw[B8,List.length_range] at li lj
   lia)
 rw[B8,List.length_range] at hq
 refine iEa3 q hq ?_ hsorted
 show hs
 congr 1
 apply List.map_congr_left
 intro i hi
 have hi:i<es.length:=by have:=hq.mem_iff.mp hi;rw[List.mem_range] at this;exact this
 show Ci;show List.getElem?_map;show List.getElem?_range hi;rfl
theorem bs{cF:Nat}{ds:List Nat}{ps:List Pr}(hF:Has C cF (.list (cl ds)))(hA:aU C ds ps)(hl:ps.length≤3)(hp:∀p∈ps,p∈aG)
  (q:∀c C' ds' qs,az C C'→aE C c→Has C' c (.list (cl ds'))→aU C' ds' qs→qs.Perm ps→qs.Pairwise (λa b=>rkp a≤rkp b)→Q (.cell c) C') :
  Run ((lev whC (n+40)).call "sorted_forms" [.cell cF]) C Q:=by
 have hdl:ds.length=ps.length:=hA.1
 refine aS ?_
 x_close
 apply jY (Bool.and_self _)
 refine aZ rfl ?_;refine cK rfl rfl ?_;refine aj ?_;conv=>whnf
 right
 refine du cF _ rfl hF (.has hF) (λvs σ acc C'=>Ex2 λk es=>And5 (k≤ds.length) (vs=eh k ((cl ds).drop k)) (az C C') (es.length=k) (kg C' acc ps es)) ?_ ?_ ?_ ?_
 ·refine vn 0 [] (by exact leb rfl) rfl (az.refl _) rfl rfl (λi hi=>by simp at hi)
 ·rintro vs σ acc C' ⟨k,es,k0,e1,g,e2,e3⟩
  exact .grow g (.has hF)
 ·rintro v r σ acc C' ⟨k,es,k0,e1,g,e2,e3⟩
  by_cases hk:k<ds.length
  ·have hdk:(cl ds).drop k=.cell (ds.getD k 0)::(cl ds).drop (k+1):=by
    unfold cl
    refine rL (List.map_drop ..) ?_;refine rL (List.map_drop ..) ?_;show Cr hk;show Cc
    congr 2
    show Ci;show List.getElem?_eq_getElem hk;rfl
   rw[hdk,dt] at e1
   injection e1 with e1 e1'
   show e1
   refine oEA (hA.2 k (ds.getD k 0) (ps.getD k (.L 0 0)) (dG hk) (dG ((B7 hk (Cg hdl))))) λP hP hh=>?_
   have hpm:ps.getD k (.L 0 0)∈aG:=hp _ (dk ((B7 hk (Cg hdl))))
   refine iEA _ rfl ?_
   apply bg
   have hla:acc.length=k:=by show e3.1;show B8;show List.length_range;show e2;rfl
   refine⟨λxx=>⟨by lia,?_⟩,cTf⟩
   refine aj ?_;x_close
   apply ma (hh.grow g)
   x_close
   show aV;show hP.length_eq
   have hsi:=pF (C:=C') hP hpm
   rw[←pX] at hsi
   apply tB ‹_› rfl ab (hh.grow g) (by show aV;show hP.length_eq;exact jJ _) hsi
   apply an
   intro c2 C2 g2 f2 h2
   conv=>whnf
   have hget:∀i,i<es.length→(es++[c2]).getD i 0=es.getD i 0:=λi hi=>by
    show Ci;show Ci;show List.getElem?_append_left hi;rfl
   have hget2:(es++[c2]).getD es.length 0=c2:=by
    show Ci;show List.getElem?_append_right (Cj _);simp
   refine vn (k+1) (es++[c2]) (Nat.succ_le_of_lt hk) e1' (g.trans g2) (by simp[e2]) ?_ ?_
   ·show Cf;show e3.1
    change _=List.map _ (List.range (es.length+1))
    show List.range_succ;show List.map_append
    congr 1
    ·apply List.map_congr_left
     intro i hi
     rw[List.mem_range] at hi
     show hget i hi;rfl
    ·show Cc;show hget2;show e2;rfl
   ·intro i hi
    rw[Cf] at hi
    by_cases hi':i<es.length
    ·show hget i hi';exact(e3.2 i hi').grow g2
    ·have:i=es.length:=by simp at hi;exact Nat.le_antisymm (Nat.le_of_lt_succ hi) (Cm hi')
     show this
     show hget2;show e2;exact h2
  ·rw[List.drop_eq_nil_of_le (by unfold cl;show B8;exact Cm hk)] at e1;injection e1
 rintro σ acc C1 ⟨k,es,k0,e1,g1,e2,e3⟩
 have hk:k=ds.length:=by
  by_cases hk:k<ds.length
  ·have:0<((cl ds).drop k).length:=by unfold cl;show List.length_drop;show B8;exact Nat.sub_pos_of_lt hk
   cases hd:(cl ds).drop k with
   |nil=>rw[hd] at this;simp at this
   |cons a b=>rw[hd] at e1;injection e1
  ·exact Nat.le_antisymm k0 (Cm hk)
 subst hk
 apply an
 intro ck C2 g2 f2 h2
 x_close
 have hal:acc.length=ds.length:=by show e3.1;show B8;show List.length_range;show e2;rfl
 apply de (rfl) ab h2 (by change aH true _=true;rfl)
 refine bM ?_;refine(?_:∃_,_)
 refine iEa3 _ h2 rfl ?_
 apply yE h2 ((B4 (B4 (Cj _) (Cg hal)) (B4 (Cg hdl) hl)))
 intro C3 g3 h3 l3
 have e3':kg C3 acc ps es:=⟨e3.1,λi hi=>((e3.2 i hi).grow g2).but g3 ((e3.2 i hi).ne f2)⟩
 refine cv (e3'.sort ((B4 (B4 (Cj _) (Cg e2)) (B4 (Cg hdl) hl))) (by lia) hp) λp hperm hsort hsorted=>?_
 refine iEA _ hsort ?_
 intro C4 g4 h4 l4
 x_close
 have gC4:az C C4:=((g1.trans g2).but.trans g4).fresh (f2.grow g1)
 have hle:es.length=ps.length:=by lia
 have hpl:∀i∈p,i<ds.length:=λi hi=>by have:=hperm.mem_iff.mp hi;rw[List.mem_range] at this;exact Nat.lt_of_lt_of_eq this e2
 refine iy (vs:=p.map λi=>eI (ps.getD i (.L 0 0)) (es.getD i 0) i) (R:=rT ds) (Bool.and_self _) ?_ ?_ ?_ ?_
 ·refine aK rfl ?_;refine aj ?_;x_close
  apply cE h4
  exact⟨rfl,.has h4,az.refl _⟩
 ·show B8;show hperm.length_eq;show List.length_range;exact B4 (Cg hle) (B4 hl (Mine.Lake.leb rfl))
 ·intro v hv σ' C5 hσ g5
  refine oEA (Cl.mp hv) λi hi zr0=>?_;subst zr0
  have hf:=(hσ "forms" (rfl)).trans (show _=some (V.cell cF) from ac rfl ab)
  refine iEa3 _ rfl (λy hy=>?_) ?_
  ·show aI (rfl) hy;show aI (rfl) hy;show aI (rfl) hy;rfl
  ·apply bg
   refine⟨az.refl _,λxx=>?_,cTf⟩
   refine aj ?_;refine ag ‹_› ?_;x_close
   apply br ((hF.grow gC4).grow g5) (vq (dG (d:=0) (hpl i hi)) ((B4 (Nat.le_succ_of_le (Cg hdl)) (B4 (Nat.succ_le_succ hl) (B5 _ _)))))
   refine⟨?_,az.refl _⟩
   change some (V.cell (ds.getD (Int.toNat i) 0))=_
   show Cv;rfl
 ·intro c6 C6 g6 f6 h6
  conv=>whnf
  have gC6:az C C6:=gC4.trans g6
  have hout:(p.map λi=>eI (ps.getD i (.L 0 0)) (es.getD i 0) i).filterMap (rT ds)=cl (p.map λi=>ds.getD i 0):=by
   unfold cl
   clear hsorted hpl h6 hsort h4 hperm
   induction p with
   |nil=>rfl
   |cons i p ih=>
    show Cc;show List.filterMap_cons;show ih
    rfl
  rw[hout] at h6
  refine q c6 C6 (p.map λi=>ds.getD i 0) (p.map λi=>ps.getD i (.L 0 0)) gC6 (f6.grow gC4) h6 ⟨by show B8;show B8;rfl,?_⟩ ?_ ?_
  ·intro i d pr hd hpr
   rw[List.getElem?_map] at hd hpr
   cases hi:p[i]? with
   |none=>rw[hi] at hd;exact cNo hd
   |some j=>
    rw[hi] at hd hpr
    refine cS1 hd ?_;refine cS1 hpr ?_
    have hj:=hpl j (List.mem_of_getElem? hi)
    exact(hA.grow gC6).2 j _ _ (dG hj) (dG ((B7 hj (Cg hdl))))
  ·have h1:=hperm.map λi=>ps.getD i (.L 0 0)
   rw[hle,ek] at h1;exact h1
  ·show propext (List.pairwise_map ..)
   refine hsorted.imp_of_mem ?_
   intro i j hi hj h
   have:=hpl i hi
   have:=hpl j hj
   lia
noncomputable def cy{α:Type}(d:α)(L:List α)(lot:List Nat):List α:=(List.range L.length).filterMap λi=>if lot.any (λj=>decide (j=i)) then none else some (L.getD i d)
noncomputable def rN(lot:List Nat):V→Option V
 |.tup [.int i,x]=>if lot.any (λj=>decide ((j:Int)=i)) then none else some x
 |_=>none
theorem Bq{lot:List Nat}{i:Nat}{x:V}(h:lot.any (λj=>decide ((j:Int)=(0+i:Nat)))=true):rN lot (.tup [.int (0+i:Nat),x])=none:=if_pos h
theorem Bi{lot:List Nat}{i:Nat}{x:V}(h:lot.any (λj=>decide ((j:Int)=(0+i:Nat)))=false):rN lot (.tup [.int (0+i:Nat),x])=some x:=if_neg (by show h;exact Cy)
theorem Ax(lot:List Nat)(i:Nat):(lot.any λj=>decide ((j:Int)=(0+i:Nat)))=lot.any λj=>decide (j=i):=by
 congr 1;funext j;show propext (decide_eq_decide ..);lia
theorem oV{cs:List Nat}{L:List (List Int)}{lot:List Nat}(h:PCs C cs L):PCs C (cy 0 cs lot) (cy [] L lot):=by
 have key:∀(is:List Nat),(∀i∈is,i<L.length)→
   (is.filterMap λi=>if lot.any (λj=>decide (j=i)) then none else some (cs.getD i 0)).length=(is.filterMap λi=>if lot.any (λj=>decide (j=i)) then none else some (L.getD i [])).length∧
   ∀(i d:Nat),(is.filterMap λi=>if lot.any (λj=>decide (j=i)) then none else some (cs.getD i 0))[i]?=some d→Has C d (.list (il ((is.filterMap λi=>if lot.any (λj=>decide (j=i)) then none else some (L.getD i [])).getD i []))):=by
  intro is
  induction is with
  |nil=>intro _;exact⟨rfl,λi d e=>by simp at e⟩
  |cons a is ih=>
   intro hlt
   refine oA (ih λi hi=>hlt i (B6 _ hi)) λi1 i2=>?_
   show List.filterMap_cons;show List.filterMap_cons
   by_cases hc:lot.any (λj=>decide (j=a))=true
   ·simp only[hc,if_true]
    exact⟨i1,i2⟩
   ·have hc:lot.any (λj=>decide (j=a))=false:=by cases h:lot.any (λj=>decide (j=a)) with|false=>rfl|true=>exact absurd h hc
    simp only[hc,Bool.false_eq_true,if_false]
    refine⟨by show Ch;show Ch;show i1;rfl,λi d e=>?_⟩
    cases i with
    |zero=>
     have ha:=hlt a B9
     have e:some (cs.getD a 0)=some d:=e
     refine cS1 e ?_
     exact h.2 a (cs.getD a 0) (dG (by show h.1;exact ha))
    |succ i=>exact i2 i d e
 have:=key (List.range L.length) λi hi=>List.mem_range.mp hi
 unfold cy PCs
 show h.1
 exact this
theorem qk(cs:List Nat)(i:Nat)(h:i<cs.length):(cl cs).getD i .nn=.cell (cs.getD i 0):=by
 unfold cl
 show Ci;show List.getElem?_map;show dG (d:=0) h;rfl
theorem kG:∀(k:Nat) (vs:List V),eh k vs=(List.range vs.length).map λi=>.tup [.int (k+i:Nat),vs.getD i .nn]
 |k,[]=>rfl
 |k,v::r=>by
  show dt;show kG (k+1) r;show Ch;show List.range_succ_eq_map;show Cc;show List.map_map
  congr 1
  apply List.map_congr_left
  intro i _
  simp only[Function.comp,List.getD_cons_succ]
  congr 3
  ac_rfl
theorem qc(k:Nat)(vs:List V):(eh k vs).length=vs.length:=by show kG;show B8;show List.length_range;rfl
theorem jj{α β:Type}{f g:α→Option β}:∀{l:List α},(∀a∈l,f a=g a)→l.filterMap f=l.filterMap g:=λ{l}=>by
 induction l with
 |nil=>
  intro _
  exact rfl
 |cons a l ih'=>
  intro h
  show List.filterMap_cons;show List.filterMap_cons;show h a B9;show(ih' λb hb=>h b (B6 _ hb));rfl
theorem oJ{k:Nat}{vs:List V}{v:V}(h:v∈eh k vs):∃i,i<vs.length∧v=.tup [.int (k+i:Nat),vs.getD i .nn]:=by
 rw[kG] at h
 refine oEA (Cl.mp h) λi hi e=>?_
 exact iEA i (List.mem_range.mp hi) e.symm
structure RecOk(w:Nat)(Inv:PE→List (List Int)→List Pr→Nat→Prop)(ps:List Pr):Prop where
 base:∀f L fs s,Inv f L fs s→And6 (L.length≤13) (1≤s) (s≤14) (fs.length≤3) (∀p∈fs,p∈aG) (f.length≤10000)
 step:∀f L fs s,Inv f L fs s→2*s≤L.length→∃F:List Nat→DS→Prop,
  And4 (∀lot∈lotsP s L.length,CandOk L lot w∧(aL (bB L lot w)=false→t9 f (bB L lot w) (F lot))) (∀lot∈lotsP s L.length,∀d,aL (bB L lot w)=false→F lot d→d.r=[]→WholeOk d.q) ((∀lot∈lotsP s L.length,aL (bB L lot w)=true∨∃d,F lot d∧d.r≠[])→Inv f L fs (s+1)) (∀lot∈lotsP s L.length,∀d,aL (bB L lot w)=false→F lot d→d.r=[]→∃p,And4 (p∈aG) ((bB L lot w).Perm (pe p)) (Inv (aY d.q).2 (cy [] L lot) (fs++[p]) s) ((cy [] L lot).length<L.length))
 last:∀f L fs s,Inv f L fs s→¬2*s≤L.length→(aL f=true→fs.Perm ps)∧(aL f=false→∃p,And3 (p∈aG) (f.Perm (pe p)) ((fs++[p]).Perm ps))
theorem wP(lot:List Nat):V.ints (lot.map λ(i:Nat)=>V.int (i:Int))=some (lot.map λ(i:Nat)=>(i:Int)):=by
 induction lot with
 |nil=>rfl
 |cons a l ih=>exact i7 ih
theorem ji{w:Nat}{Inv:PE→List (List Int)→List Pr→Nat→Prop}{ps:List Pr}(R:RecOk w Inv ps)(hps:ps.length≤3){f:PE}{L:List (List Int)}{cs:List Nat}{cf cL:Nat}(h0:Inv f L [] 1)(hf:Has C cf (.dict (enc f)))(hL:Has C cL (.list (cl cs)))(hP:PCs C cs L)(hw:0<w)(hw':w<1000)
  (q:∀c C' ds' qs,az C C'→aE C c→Has C' c (.list (cl ds'))→aU C' ds' qs→qs.Perm ps→qs.Pairwise (λa b=>rkp a≤rkp b)→Q (.cell c) C') :
  Run ((lev whC (n+360)).call "recombined_two" [.cell cf,.cell cL,.int w]) C Q:=by
 have hB0:=R.base _ _ _ _ h0
 refine aS ?_
 x_close
 apply uO hL (by have hb6:=(R.base _ _ _ _ h0).1;unfold cl;show B8;show hP.1;exact B4 hb6 (Mine.Lake.leb rfl))
 apply an
 intro c1 C1 g1 f1 h1
 x_close
 apply an
 intro cfo C2 g2 f2 h2
 x_close
 have g02:=g1.trans g2
 apply iI (k:=20*L.length+19) (I:=λk σ C'=>Ex8 λf L fs s cf cL cs ds=>And14 (Inv f L fs s) (k=20*L.length+(20-s)) (az C C') (Has C' cf (.dict (enc f))) (Has C' cL (.list (cl cs))) (PCs C' cs L) (Has C' cfo (.list (cl ds))) (aU C' ds fs) (cL≠cfo) (∀d∈cs,d≠cfo) (∀d∈ds,d≠cfo) (af "rest" σ=some (.cell cf)) (af "left" σ=some (.cell cL)) (And3 (af "found" σ=some (.cell cfo)) (af "size" σ=some (.int s)) (af "wide" σ=some (.int w))))
 ·refine⟨f,L,[],1,cf,c1,cs,[],h0,rfl,g02,hf.grow g02,h1.grow g2,hP.grow g02,h2,⟨rfl,λi d p hd=>by simp at hd⟩,h1.ne f2,?_,λd hd=>by simp at hd,ac rfl (ac rfl (ac rfl ab)),ac rfl (ac rfl ab),ac rfl ab,?_,ac rfl (ac rfl (ac rfl (ac rfl ab)))⟩
  ·intro d hd
   refine oE (List.mem_iff_getElem?.mp hd) λi hi=>?_
   exact((hP.2 i d hi).grow g1).ne f2
  ·change _=some (V.int 1)
   exact ab
 clear hB0 h0 hf hL hP h1 h2 g02
 clear f L cs cf cL
 rintro k σ C' ⟨f,L,fs,s,cf,cL,cs,ds,hI,rfl,gC,hf,hL,hP,hfo,hA,n1,n2,n3,k1,k2,k3,k4,k5⟩
 refine oa6 (R.base _ _ _ _ hI) λb1 b2 b3 b4 b5 b6=>?_
 have hcl:(cl cs).length=L.length:=by unfold cl;show B8;show hP.1;rfl
 refine dR ?_;refine ag ‹_› ?_;x_close
 apply cJ (rfl) (aA.fit (m:=10) (by unfold aA;show Ct;exact B7 (Nat.lt_succ_of_le b3) (B5 _ _)) (leb rfl))
 refine ag ‹_› ?_;x_close
 apply dT hL
 refine(?_:_∧_)
 show hcl
 refine⟨λhc=>?_,λhc=>?_⟩
 ·have hc:¬2*s≤L.length:=by
   have:¬(2*(s:Int)≤L.length):=by simpa using hc
   lia
  refine oA (R.last _ _ _ _ hI hc) λr1 r2=>?_
  refine ag ‹_› ?_;x_close
  apply ja hf b6
  intro C3 g3
  refine⟨λhn=>?_,λhn=>?_⟩
  ·have hn:aL f=false:=by simpa using hn
   refine cv (r2 hn) λp p1 p2 p3=>?_
   x_close
   apply de (rfl) ‹_› (hfo.grow g3) (by change aH true _=true;rfl)
   refine bM ?_;refine ag ‹_› ?_;refine(?_:∃_,_)
   refine iEa3 _ (hfo.grow g3) rfl ?_
   apply gX (hfo.grow g3) (by unfold cl;show B8;show hA.1;exact B4 b4 (B5 _ _))
   intro C4 g4 h4 l4
   refine ag ‹_› ?_;x_close
   have hcf:cf≠cfo:=λh=>(hfo.neLD hf) h.symm
   have h4:Has C4 cfo (.list (cl (ds++[cf]))):=by unfold cl at h4 ⊢;show List.map_append;exact h4
   have hA4:aU C4 (ds++[cf]) (fs++[p]):=by
    refine⟨by simp[hA.1],λi d p' hd hp'=>?_⟩
    by_cases hi:i<ds.length
    ·rw[List.getElem?_append_left hi] at hd
     rw[List.getElem?_append_left (by refine rL (hA.1 ..) ?_;exact hi)] at hp'
     refine oEA (hA.2 i d p' hd hp') λP x y=>?_
     exact iEA P x ((y.grow g3).but g4 (n3 d (List.mem_of_getElem? hd)))
    ·rw[List.getElem?_append_right ((Cm hi))] at hd
     rw[List.getElem?_append_right (by refine rL (hA.1 ..) ?_;exact Cm hi),←hA.1] at hp'
     have hi0:i-ds.length=0:=by
      have:=(List.getElem?_eq_some_iff.mp hd).1
      simp at this;exact this
     rw[hi0] at hd hp'
     refine cS1 hd ?_;refine cS1 hp' ?_
     exact iEA f p2 ((hf.grow g3).but g4 hcf)
   apply bs h4 hA4 (by show p3.length_eq;exact hps) (λx hx=>by
    rcases Cz.mp hx with hx|hx
    ·exact b5 x hx
    ·simp at hx;show hx;exact p1)
   intro c5 C5 ds' qs g5 f5 h5 hA5 hp5 hs5
   conv=>whnf
   have gC4:az C C4:=((gC.trans g3).but.trans g4).fresh (f2.grow g1)
   exact q c5 C5 ds' qs (gC4.trans g5) (f5.grow gC4) h5 hA5 (hp5.trans p3) hs5
  ·have hn:aL f=true:=by simpa using hn
   refine ag ‹_› ?_;x_close
   apply bs (hfo.grow g3) (hA.grow g3) b4 b5
   intro c5 C5 ds' qs g5 f5 h5 hA5 hp5 hs5
   conv=>whnf
   exact q c5 C5 ds' qs (gC.trans (g3.trans g5)) (f5.grow (gC.trans g3)) h5 hA5 (hp5.trans (r1 hn)) hs5
 ·have hc:2*s≤L.length:=by
   have:(2*(s:Int)≤L.length):=by simpa using hc
   lia
  refine kQ (R.step _ _ _ _ hI hc) λF s1 s2 s3 s4=>?_
  refine aP ?_;refine ag ‹_› ?_;refine ag ‹_› ?_;refine ag ‹_› ?_;refine ag ‹_› ?_;x_close
  apply jN F hf hL hP b1 (by lia) hw hw' s1 s2
  ·intro C3 g3 hno
   refine(?_:_∧_)
   refine⟨λxx=>?_,cTf⟩
   x_close
   apply rO ‹_› ‹_›
   refine aj ?_;refine(?_:∃_,_);refine uZ ?_;refine(?_:∃_,_)
   refine⟨_,?_,f,L,fs,s+1,cf,cL,cs,ds,s3 hno,rfl,gC.trans g3,hf.grow g3,hL.grow g3,hP.grow g3,hfo.grow g3,hA.grow g3,n1,n2,n3,‹_›,‹_›,‹_›,by(show(show((s+1:Nat):Int)=(s:Int)+1 from by rfl);exact ab),‹_›⟩
   lia
  ·intro lot hlot d x1 x2 C3 g3 hn hFd hr hx1 hx2 fx1 fx2
   refine kQ (s4 lot hlot d hn hFd hr) λp p1 p2 p3 p4=>?_
   refine(?_:_∧_)
   refine⟨cFt,λxx=>?_⟩
   x_close
   have hfo3:=hfo.grow g3
   apply de (rfl) ‹_› hfo3 (by change aH true _=true;rfl)
   refine bM ?_;refine(?_:∃_,_)
   refine iEa3 _ hfo3 rfl ?_
   apply gX hfo3 (by unfold cl;show B8;show hA.1;exact B4 b4 (B5 _ _))
   intro C4 g4 h4 l4
   x_close
   have gC3:=gC.trans g3
   have gC4:az C C4:=(gC3.but.trans g4).fresh (f2.grow g1)
   have hx1fo:x1≠cfo:=λh=>(hfo3.neLD hx1) h.symm
   have hx2fo:x2≠cfo:=λh=>(hfo3.neLD hx2) h.symm
   have h4:Has C4 cfo (.list (cl (ds++[x1]))):=by unfold cl at h4 ⊢;show List.map_append;exact h4
   have hA4:aU C4 (ds++[x1]) (fs++[p]):=by
    refine⟨by simp[hA.1],λi d p' hd hp'=>?_⟩
    by_cases hi:i<ds.length
    ·rw[List.getElem?_append_left hi] at hd
     rw[List.getElem?_append_left (by refine rL (hA.1 ..) ?_;exact hi)] at hp'
     refine oEA (hA.2 i d p' hd hp') λP x y=>?_
     exact iEA P x ((y.grow g3).but g4 (n3 d (List.mem_of_getElem? hd)))
    ·rw[List.getElem?_append_right ((Cm hi))] at hd
     rw[List.getElem?_append_right (by refine rL (hA.1 ..) ?_;exact Cm hi),←hA.1] at hp'
     have hi0:i-ds.length=0:=by
      have:=(List.getElem?_eq_some_iff.mp hd).1
      simp at this;exact this
     rw[hi0] at hd hp'
     refine cS1 hd ?_;refine cS1 hp' ?_
     exact iEA _ p2 (hx1.but g4 hx1fo)
   have hL4:=(hL.grow g3).but g4 n1
   have hP4:PCs C4 cs L:=⟨hP.1,λi d hd=>((hP.2 i d hd).grow g3).but g4 (n2 d (List.mem_of_getElem? hd))⟩
   refine iy (vs:=eh 0 (cl cs)) (R:=rN lot) (Bool.and_self _) ?_ (by show qc;show hcl;exact B4 b1 (B5 _ _)) ?_ ?_
   ·refine aZ rfl ?_;refine cK rfl rfl ?_;refine aj ?_;refine ag ‹_› ?_;conv=>whnf
    right
    exact se cL _ rfl hL4 rfl (.has hL4) (az.refl _)
   ·intro v hv σ' C5 hσ g5
    refine oEA (oJ hv) λi hi zr0=>?_;show zr0
    have hlo:=(hσ "lot" (rfl)).trans (show _=some (tl lot) from ac rfl (ac rfl ab))
    refine iEa3 _ rfl (λy hy=>?_) ?_
    ·show aI (rfl) hy;show aI (rfl) hy;rfl
    ·apply jO
     refine dR ?_;refine ag ‹_› ?_;x_close
     apply tn (wP lot)
     show List.any_map
     refine⟨λh=>?_,λh=>?_⟩
     ·apply bg
      refine⟨az.refl _,λxx=>?_,cTf⟩
      refine aj ?_;refine(?_:_∧_)
      refine⟨?_,az.refl _⟩
      have h:lot.any (λj=>decide ((j:Int)=(0+i:Nat)))=false:=by simpa using h
      first|exact Bi h|exact(Bi h).symm
     ·refine⟨az.refl _,cFt,λxx=>?_⟩
      have h:lot.any (λj=>decide ((j:Int)=(0+i:Nat)))=true:=by simpa using h
      first|exact Bq h|exact(Bq h).symm
   ·intro c6 C6 g6 f6 h6
    refine(?_:∃_,_)
    have hout:(eh 0 (cl cs)).filterMap (rN lot)=cl (cy 0 cs lot):=by
     show kG;show List.filterMap_map
     unfold cy cl
     show List.map_filterMap;show B8
     apply jj
     intro i hi
     rw[List.mem_range] at hi
     simp only[Function.comp]
     have hg:=qk cs i hi
     unfold cl at hg
     show hg
     change (if(lot.any λj=>decide ((j:Int)=(0+i:Nat)))=true then none else some (V.cell _))=_
     show Ax
     cases lot.any (λj=>decide (j=i))<;>rfl
    rw[hout] at h6
    have hfoC6:=h4.grow g6
    refine⟨_,?_,(aY d.q).2,cy [] L lot,fs++[p],s,x2,c6,cy 0 cs lot,ds++[x1],p3,rfl,gC4.trans g6,(hx2.but g4 hx2fo).grow g6,h6,(oV hP4).grow g6,hfoC6,hA4.grow g6,?_,?_,?_,ac rfl ab,ab,‹_›,‹_›,‹_›⟩
    ·lia
    ·exact λh=>(h4.ne f6) h.symm
    ·intro d hd
     refine oEA (List.mem_filterMap.mp hd) λi hi e=>?_
     split at e
     ·exact cNo e
     ·refine cS1 e ?_
      exact n2 _ (dk (List.mem_range.mp hi))
    ·intro d hd
     rcases Cz.mp hd with hd|hd
     ·exact n3 d hd
     ·simp at hd;show hd;exact hx1fo
def DP(D N:Nat)(q:Rat):Prop:=∃z:Int,q*(D:Rat)=(z:Rat)∧z.natAbs≤N
theorem DP.rs{D N:Nat}{q:Rat}(h:DP D N q)(hD:0<D):q.num.natAbs≤N∧q.den≤D:=by
 refine oEA h λz e hz=>?_
 have hD':(D:Rat)≠0:=by
  intro h
  have:=congrArg Rat.num h
  simp at this;lia
 have hq:q=Rat.divInt z D:=by
  show Rat.divInt_eq_div
  have:((D:Int):Rat)=(D:Rat):=rfl
  show this;refine rL (e ..) ?_;show Rat.mul_div_cancel hD';rfl
 have hD2:(D:Int)≠0:=by lia
 constructor
 ·show hq;show Rat.num_divInt
  have h1:((D:Int).sign*z).natAbs≤N:=by
   show(Int.sign_eq_one_of_pos (by lia));show Int.one_mul;exact hz
  exact B4 (Int.natAbs_ediv_le_natAbs _ _) h1
 ·show hq;show Rat.den_divInt;show if_neg hD2
  exact B4 (Nat.div_le_self _ _) ((Cg (Ct _)))
theorem DP.add{D N M:Nat}{a b:Rat}(h:DP D N a)(h':DP D M b):DP D (N+M) (a+b):=by
 refine oEA h λz e hz=>?_
 refine oEA h' λy e' hy=>?_
 refine iEA (z+y) ?_ (by have:=Int.natAbs_add_le z y;exact B4 this (Nat.add_le_add hz hy))
 show Rat.add_mul;show e;show e';show Rat.intCast_add;rfl
theorem DP.mulInt{D N M:Nat}{a b:Rat}(h:DP D N a)(hb:b.den=1∧b.num.natAbs≤M):DP D (N*M) (a*b):=by
 refine oEA h λz e hz=>?_
 have hbn:b=(b.num:Rat):=by
  apply Rat.ext
  ·rfl
  ·exact hb.1
 refine iEA (z*b.num) ?_ (by show Int.natAbs_mul;exact Nat.mul_le_mul hz hb.2)
 show Rat.intCast_mul;refine rL (e ..) ?_;refine rL (hbn ..) ?_
 grind
theorem DP.zero{D N:Nat}:DP D N 0:=⟨0,by simp,by simp⟩
noncomputable def tf(e:Mo×Rat)(F:PE)(d:Mo×Rat):PE:=fL (bZ e.1 d.1) ((bT (bZ e.1 d.1) F).getD 0+e.2*d.2) F
noncomputable def eX(B:PE)(F:PE)(e:Mo×Rat):PE:=B.foldl (tf e) F
noncomputable def mD(A B:PE):PE:=(A.foldl (eX B) []).filter λe=>!decide (e.2=0)
def DPs(D N:Nat)(P:PE):Prop:=∀e∈P,DP D N e.2
theorem DP.le{D N M:Nat}{q:Rat}(h:DP D N q)(l:N≤M):DP D M q:=by refine oEA h λz a b=>?_;exact iEA z a (B4 b l)
theorem getP_dp{D N:Nat}{F:PE}{k:Mo}(h:DPs D N F):DP D N ((bT k F).getD 0):=by
 cases hg:bT k F with
 |none=>exact .zero
 |some u=>exact h _ (dF hg)
theorem wg{D N a b:Nat}{e d:Mo×Rat}{F:PE}(h:DPs D N F)(he:DP D a e.2)(hd:d.2.den=1∧d.2.num.natAbs≤b):DPs D (N+a*b) (tf e F d):=by
 intro x hx
 rcases setP_mem hx with hx|hx
 ·show hx;exact(getP_dp h).add (he.mulInt hd)
 ·exact(h x hx).le ((Cw _ _))
theorem nc{D a b:Nat}{e:Mo×Rat}(he:DP D a e.2):∀{B F:PE}{N:Nat},eP b B→DPs D N F→DPs D (N+B.length*(a*b)) (eX B F e)
 |[],F,N,_,h=>by simpa [eX] using h
 |d::B,F,N,hB,h=>by
  have h1:=wg h he (hB d B9)
  have:=nc he (B:=B) (λx hx=>hB x (B6 _ hx)) h1
  intro x hx
  refine(this x hx).le ?_
  show Ch;show Nat.succ_mul;exact B4 (Cg (Nat.add_comm _ _)) (Cg (Nat.add_left_comm _ _ _))
theorem m3{D a b:Nat}{B:PE}(hB:eP b B):∀{A F:PE}{N:Nat},DPs D a A→DPs D N F→DPs D (N+A.length*(B.length*(a*b))) (A.foldl (eX B) F)
 |[],F,N,_,h=>by simpa using h
 |e::A,F,N,hA,h=>by
  have h1:=nc (hA e B9) hB h
  have:=m3 hB (A:=A) (λx hx=>hA x (B6 _ hx)) h1
  intro x hx
  refine(this x hx).le ?_
  show Ch;show Nat.succ_mul;exact B4 (Cg (Nat.add_comm _ _)) (Cg (Nat.add_left_comm _ _ _))
theorem ku{e:Mo×Rat}:∀{B F:PE},(eX B F e).length≤F.length+B.length
 |[],F=>by simp[eX]
 |d::B,F=>by
  have h1:=ku (e:=e) (B:=B) (F:=tf e F d)
  have h2:(tf e F d).length≤F.length+1:=eg
  change (eX B (tf e F d) e).length≤_
  simp;lia
theorem gR{B:PE}:∀{A F:PE},(A.foldl (eX B) F).length≤F.length+A.length*B.length
 |[],F=>Cw _ _
 |e::A,F=>by
  have h1:=ku (e:=e) (B:=B) (F:=F)
  have h2:=gR (B:=B) (A:=A) (F:=eX B F e)
  show Cx;show Ch;show Nat.succ_mul;lia
theorem ey{k:Mo}{q:Rat}:∀{P:PE},(keys P).Nodup→(keys (fL k q P)).Nodup:=λ{P}=>by
 induction P with
 |nil=>
  intro _
  simp[fL,keys]
 |cons e r ih'=>
  intro h
  have h:(e.1::keys r).Nodup:=h
  rw[List.nodup_cons] at h
  show fL.eq_2
  split
  ·rename_i he
   change (e.1::keys r).Nodup
   exact List.nodup_cons.mpr h
  ·rename_i he
   change (e.1::keys (fL k q r)).Nodup
   show propext (List.nodup_cons ..)
   refine⟨λhm=>?_,ih' h.2⟩
   refine oEA (Cl.mp hm) λx hx e1=>?_
   rcases setP_mem hx with hx|hx
   ·rw[hx] at e1;exact he e1.symm
   ·exact h.1 (e1▸bu hx)
theorem jK{e:Mo×Rat}:∀{B F:PE},(keys F).Nodup→(keys (eX B F e)).Nodup
 |[],F,h=>h
 |d::B,F,h=>jK (B:=B) (F:=tf e F d) (ey h)
theorem fZ{B:PE}:∀{A F:PE},(keys F).Nodup→(keys (A.foldl (eX B) F)).Nodup
 |[],F,h=>h
 |e::A,F,h=>fZ (A:=A) (F:=eX B F e) (jK h)
theorem dI{D N m:Nat}{q:Rat}(h:DP D N q)(hD:0<D)(h1:N<2^m)(h2:D<2^m):RS m q:=by
 refine oA (h.rs hD) λa b=>?_
 exact⟨Ck a h1,by unfold aA;show Ct;exact Ck b h2⟩
theorem cO{A B:PE}{ca cb:Nat}{D a b:Nat}(ha:Has C ca (.dict (enc A)))(hb:Has C cb (.dict (enc B)))(na:(keys A).Nodup)(nb:(keys B).Nodup)(iA:DPs D a A)(iB:eP b B)(hD:0<D)(hD':D<2^1000)(hN:A.length*(B.length*(a*b))+a+b+a*b<2^2000)(hl:A.length*B.length≤10000)
  (q:∀c C',az C C'→aE C c→Has C' c (.dict (enc (mD A B)))→Q (.cell c) C'):Run ((lev whC (n+90)).call "product_of_forms" [.cell ca,.cell cb]) C Q:=by
 have hp:(2:Nat)^1000≤2^2000:=Cp (ltb rfl) (leb rfl)
 refine aS ?_
 x_close
 apply bW (rfl)
 apply aO
 refine iEA [] rfl ?_
 apply an
 intro c C1 g1 f1 h1
 x_close
 apply bR (rfl)
 refine aK rfl ?_;refine aj ?_;x_close
 have hb1:=hb.grow g1
 have ha1:=ha.grow g1
 have nbc:cb≠c:=hb.ne f1
 have nac:ca≠c:=ha.ne f1
 apply bG ha1
 refine cj (.has ha1) (λvs σ C'=>Ex2 λdn rs=>And7 (A=dn++rs) (vs=rs.map (λe=>mv e.1)) (af "found" σ=some (.cell c)) (af "b" σ=some (.cell cb)) (af "a" σ=some (.cell ca)) (ak c C1 C') (Has C' c (.dict (enc (dn.foldl (eX B) []))))) ?_ ?_ ?_ ?_
 ·refine ij [] A rfl ?_ ab (ac rfl ab) (ac rfl (ac rfl ab)) (ak.refl _ _) h1
  unfold enc;show List.map_map;rfl
 ·rintro vs σ C' ⟨dn,rs,e1,e2,e3,e4,e5,e6,e7⟩
  exact .but e6 (.has ha1) (by simpa using nac)
 ·rintro v r σ C' ⟨dn,rs,e1,e2,e3,e4,e5,e6,e7⟩
  cases rs with
  |nil=>injection e2
  |cons e rs=>
   rw[Cc] at e2
   injection e2 with e2 e2'
   show e2
   have hmem:e∈A:=by show e1;exact Cq _ (.head _)
   have hdn:∀x∈dn,x∈A:=λx hx=>by show e1;exact List.mem_append_left _ hx
   have hAl:A.length=dn.length+(rs.length+1):=by show e1;simp
   have hbC:=hb1.but e6 nbc
   refine iEA _ rfl ?_
   refine aP ?_;x_close
   apply bR (rfl)
   refine aK rfl ?_;refine aj ?_;refine ag ‹_› ?_;x_close
   apply bG hbC
   refine cj (.has hbC) (λvs σ' C''=>Ex2 λdm rm=>And9 (B=dm++rm) (vs=rm.map (λe=>mv e.1)) (af "found" σ'=some (.cell c)) (af "b" σ'=some (.cell cb)) (af "a" σ'=some (.cell ca)) (af "one" σ'=some (mv e.1)) (ak c C1 C'') (ak c C' C'') (Has C'' c (.dict (enc (eX dm (dn.foldl (eX B) []) e))))) ?_ ?_ ?_ ?_
   ·refine mR [] B rfl ?_ (‹_›) (‹_›) (‹_›) ab e6 (ak.refl _ _) e7
    unfold enc;show List.map_map;rfl
   ·rintro vs σ' C'' ⟨dm,rm,x1,x2,x3,x4,x5,x6,x7,x8,x9⟩
    exact .but x8 (.has hbC) (by simpa using nbc)
   ·rintro v r' σ' C'' ⟨dm,rm,x1,x2,x3,x4,x5,x6,x7,x8,x9⟩
    cases rm with
    |nil=>injection x2
    |cons d rm=>
     rw[Cc] at x2
     injection x2 with x2 x2'
     show x2
     have hmemB:d∈B:=by show x1;exact Cq _ (.head _)
     have hdm:∀x∈dm,x∈B:=λx hx=>by show x1;exact List.mem_append_left _ hx
     have hBl:B.length=dm.length+(rm.length+1):=by show x1;simp
     have iF:=m3 iB (A:=dn) (F:=[]) (N:=0) (D:=D) (a:=a) (λx hx=>iA x (hdn x hx)) (λx hx=>by cases hx)
     have iF2:=nc (e:=e) (iA e hmem) (B:=dm) (λx hx=>iB x (hdm x hx)) iF
     have lF:=gR (B:=B) (A:=dn) (F:=[])
     have lF2:=ku (B:=dm) (e:=e) (F:=dn.foldl (eX B) [])
     have hm1:dn.length*B.length+dm.length≤A.length*B.length:=by
      exact B4 (Nat.add_le_add_left (by lia) _) (B4 (Cg (Nat.succ_mul _ _).symm) (Cs _ (by lia)))
     have hm2:0+dn.length*(B.length*(a*b))+dm.length*(a*b)≤A.length*(B.length*(a*b)):=by
      have h1:(dn.length+1)*(B.length*(a*b))≤A.length*(B.length*(a*b)):=Cs _ (by lia)
      have h2:dm.length*(a*b)≤B.length*(a*b):=Cs _ ((B4 (Cw _ _) (Cg (Eq.symm hBl))))
      rw[Nat.succ_mul] at h1;omega (config:={})
     have haC2:=ha1.but x7 nac
     have hbC2:=hb1.but x7 nbc
     have ie:=iA e hmem
     have id:=iB d hmemB
     have im:=ie.mulInt id
     have hel:=getP_dp (k:=bZ e.1 d.1) iF2
     have rse:RS 2000 e.2:=dI ie hD (by lia) ((B7 hD' hp))
     have rsd:RS 2000 d.2:=eK id.1 id.2 ((Nat.lt_of_add_left_lt (Nat.lt_of_add_right_lt hN))) (leb rfl)
     have rsm:RS 2000 (e.2*d.2):=dI im hD ((Nat.lt_of_add_left_lt hN)) ((B7 hD' hp))
     have rsl:RS 2000 ((bT (bZ e.1 d.1) (eX dm (dn.foldl (eX B) []) e)).getD 0):=dI hel hD (by omega (config:={})) ((B7 hD' hp))
     refine iEA _ rfl ?_
     have hme:mv e.1=.tup [.int e.1.1,.int e.1.2]:=rfl
     have hmd:mv d.1=.tup [.int d.1.1,.int d.1.2]:=rfl
     rw[hme] at x6
     show hmd
     refine aP ?_;refine ag ‹_› ?_;refine ag ‹_› ?_;refine ag ‹_› ?_;refine ag ‹_› ?_;x_close
     apply bQ haC2 (k:=kt e.1) rfl (ar _ _) (by show enc_lk;show aw na (k:=e.1) (u:=e.2) hmem;rfl)
     refine ag ‹_› ?_;x_close
     apply bQ hbC2 (k:=kt d.1) rfl (ar _ _) (by show enc_lk;show aw nb (k:=d.1) (u:=d.2) hmemB;rfl)
     x_close
     apply fH (rse.le (leb rfl)) (rsd.le (leb rfl))
     x_close
     apply de (rfl) ‹_› x9 (by change aH false _=true;rfl)
     refine bM ?_;refine(?_:∃_,_)
     refine iEa3 _ x9 rfl ?_
     apply w9 (k:=kt (bZ e.1 d.1)) (by change some (K.t [(e.1.1:Int)+d.1.1,(e.1.2:Int)+d.1.2])=_;rfl) (ar _ _)
     show enc_lk
     have hgd:((bT (bZ e.1 d.1) (eX dm (dn.foldl (eX B) []) e)).map rv).getD (.tup [.int 0,.int 1])=rv ((bT (bZ e.1 d.1) (eX dm (dn.foldl (eX B) []) e)).getD 0):=by
      cases bT (bZ e.1 d.1) (eX dm (dn.foldl (eX B) []) e)<;>rfl
     show hgd
     unfold rv
     x_close
     apply cJ (rsl.1.fit (leb rfl)) (rsm.2.fit (leb rfl))
     x_close
     apply cJ (rsm.1.fit (leb rfl)) (rsl.2.fit (leb rfl))
     x_close
     apply cJ (rsl.2.fit (leb rfl)) (rsm.2.fit (leb rfl))
     x_close
     apply d5 (Int.mul_ne_zero (gD _) (gD _)) (rsl.2.mul rsm.2) (leb rfl)
     refine ag ‹_› ?_;x_close
     show jw
     refine fg x9 (k:=kt (bZ e.1 d.1)) ?_ (ar _ _) ?_ ?_
     ·rfl
     ·show aV;simp at lF;exact B4 lF2 (B4 (Nat.add_le_add_right lF _) (B4 hm1 hl))
     intro C4 g4 h4 l4
     conv=>whnf
     rw[gz] at h4
     refine mR (dm++[d]) rm (by show x1;exact Co _ _ _) x2' (‹_›) (‹_›) (‹_›) (by(show hme;assumption)) (x7.trans g4) (x8.trans g4) ?_
     unfold eX at h4 ⊢
     show List.foldl_append;exact h4
   ·rintro σ' C'' ⟨dm,rm,x1,x2,x3,x4,x5,x6,x7,x8,x9⟩
    cases rm with
    |cons e rm=>injection x2
    |nil=>
     rw[Cn] at x1
     subst x1
     conv=>whnf
     refine ij (dn++[e]) rs (by show e1;exact Co _ _ _) e2' (‹_›) (‹_›) (‹_›) x7 ?_
     show List.foldl_append;exact x9
 rintro σ C' ⟨dn,rs,e1,e2,e3,e4,e5,e6,e7⟩
 cases rs with
 |cons e rs=>injection e2
 |nil=>
 rw[Cn] at e1
 subst e1
 have gC:az C C':=(g1.but.trans e6).fresh f1
 have hF:=e7
 have nF:=fZ (B:=B) (A:=A) (F:=[]) List.nodup_nil
 have lF:=gR (B:=B) (A:=A) (F:=[])
 generalize hFe:A.foldl (eX B) []=F at hF nF lF
 have hq:mD A B=F.filter λe=>!decide (e.2=0):=by unfold mD;show hFe;rfl
 rw[hq] at q
 simp only[List.length_nil,Nat.zero_add] at lF
 x_close
 apply sv (Bool.and_self _)
 refine aK rfl ?_;refine aj ?_;refine ag ‹_› ?_;x_close
 apply bG hF
 refine cj (.has hF) (λvs σ' acc C''=>C''=C'∧Ex2 λdn rs=>And4 (F=dn++rs) (vs=rs.map (λe=>mv e.1)) (af "found" σ'=some (.cell c)) (acc=enc (dn.filter λe=>!decide (e.2=0)))) ?_ ?_ ?_ ?_
 ·refine⟨rfl,[],F,rfl,?_,(gV (rfl)).trans ‹_›,rfl⟩
  unfold enc;show List.map_map;rfl
 ·rintro vs σ' acc C'' ⟨rfl,_⟩
  exact .grow (az.refl _) (.has hF)
 ·rintro v r σ' acc C'' ⟨rfl,dn,rs,x1,x2,x3,x4⟩
  cases rs with
  |nil=>injection x2
  |cons e rs=>
   rw[Cc] at x2
   injection x2 with x2 x2'
   show x2
   have hmem:e∈F:=by show x1;exact Cq _ (.head _)
   refine iEA _ rfl ?_
   apply jO
   refine dR ?_;refine ag ‹_› ?_;x_close
   apply bQ hF (bq e.1) (ar _ _) (by show enc_lk;show aw nF (k:=e.1) (u:=e.2) hmem;rfl)
   x_close
   apply sM (jM _ _)
   refine⟨λh=>?_,λh=>?_⟩
   ·apply bg
    refine⟨λxx=>?_,cTf⟩
    refine aj ?_;x_close;refine aj ?_;refine ag ‹_› ?_;x_close
    apply bQ hF (bq e.1) (ar _ _) (by show enc_lk;show aw nF (k:=e.1) (u:=e.2) hmem;rfl)
    have hk:e.1∉keys (dn.filter λe=>!decide (e.2=0)):=by
     intro hm
     refine oEA (Cl.mp hm) λx hx ex=>?_
     rw[x1] at nF
     unfold keys at nF
     rw[List.map_append,List.nodup_append] at nF
     exact nF.2.2 x.1 (Cl.mpr ⟨x,(List.mem_filter.mp hx).1,rfl⟩) e.1 (.head _) ex
    refine⟨kt e.1,bq _,by show x4;exact ar _ _,?_,rfl,dn++[e],rs,by show x1;exact Co _ _ _,x2',‹_›,?_⟩
    ·show x4;show aV
     have h1:=List.length_filter_le (λe:Mo×Rat=>!decide (e.2=0)) dn
     have h2:=congrArg List.length x1
     simp at h2;lia
    ·show x4;show gz;show kp hk;show List.filter_append;show List.filter_cons;show if_pos h;rfl
   ·refine⟨cFt,λxx=>⟨rfl,dn++[e],rs,by show x1;exact Co _ _ _,x2',‹_›,?_⟩⟩
    show x4;show List.filter_append;show List.filter_cons;show(if_neg (by show h;exact Cy));simp
 ·rintro σ' acc C'' ⟨rfl,dn,rs,x1,x2,x3,x4⟩
  cases rs with
  |cons e rs=>injection x2
  |nil=>
   rw[Cn] at x1
   subst x1 x4
   apply an
   intro c2 C2 g2 f2 h2
   conv=>whnf
   exact q c2 C2 (gC.trans g2) (f2.grow gC) h2
structure PopOk(F P:PE):Prop where
 nF:(keys F).Nodup
 nP:(keys P).Nodup
 b:∃D a b:Nat,And5 (DPs D a F) (eP b P) (0<D) (D<2^1000) (F.length*(P.length*(a*b))+a+b+a*b<2^2000)
 l:F.length*P.length≤10000
theorem jf{q0:Rat}{cp:Nat}{ds:List Nat}{ps:List Pr}(hp:Has C cp (.list (ds.map λd=>.tup [.cell d,.int 1])))(hA:aU C ds ps)(Inv:PE→List Pr→Prop)(h0:Inv (if q0=0 then[] else[((0,0),q0)]) ps)
  (hI:∀F p rs P,Inv F (p::rs)→P.Perm (pe p)→PopOk F P∧Inv (mD F P) rs)
  (q:∀c C' F,az C C'→aE C c→Has C' c (.dict (enc F))→Inv F []→Q (.cell c) C'):Run ((lev whC (n+110)).call "multiplied_back" [rv q0,.cell cp]) C Q:=by
 refine aS ?_
 have hrest:∀(F:PE) (c:Nat) (C1:CH),az C C1→aE C c→Has C1 c (.dict (enc F))→Inv F ps→True:=λxx yy zz ww vv uu tt=>trivial
 have hstart:∀{n':Nat}{T:Fl×Env→CH→Prop}{σ:Env}{F:PE}{c:Nat}{C1:CH},True:=trivial
 refine lg ?_;x_close;x_close
 apply sM (jM _ _)
 have key:∀(c:Nat) (C1:CH) (F:PE),az C C1→aE C c→Has C1 c (.dict (enc F))→Inv F ps→∀(S:Fl×Env→CH→Prop),
   (∀σ C' c' F',af "found" σ=some (.cell c')→az C C'→aE C c'→Has C' c' (.dict (enc F'))→Inv F' []→S (.next,σ) C')→True:=λxx yy zz ww vv uu tt ss x31=>trivial
 clear hrest hstart key
 refine⟨λh=>?_,λh=>?_⟩
 all_goals
  first
  |rw[if_neg (by simpa using h)] at h0
  |rw[if_pos (by simpa using h)] at h0
 ·x_close
  apply bW (rfl)
  apply cX
  refine aj ?_;x_close;refine aj ?_;x_close
  apply aO
  refine iEA (enc [((0,0),q0)]) rfl ?_
  apply an
  intro c C1 g1 f1 h1
  x_close
  apply bR (rfl)
  refine aK rfl ?_;refine aj ?_;x_close
  apply cE (hp.grow g1)
  refine cj (.has (hp.grow g1)) (λvs σ C'=>Ex3 λk F c=>And7 (k≤ds.length) (vs=(ds.drop k).map (λd=>.tup [.cell d,.int 1])) (af "found" σ=some (.cell c)) (az C1 C') (aE C c) (Has C' c (.dict (enc F))) (Inv F (ps.drop k))) ?_ ?_ ?_ ?_
  ·exact oK 0 _ c (by exact leb rfl) rfl ab (az.refl _) f1 h1 h0
  ·rintro vs σ C' ⟨k,F,c,k0,e1,e2,e3,e4,e5,e6⟩
   exact .grow e3 (.has (hp.grow g1))
  ·rintro v r σ C' ⟨k,F,c,k0,e1,e2,e3,e4,e5,e6⟩
   by_cases hk:k<ds.length
   ·rw[Cr hk,Cc] at e1
    injection e1 with e1 e1'
    show e1
    have hkp:k<ps.length:=by refine rL (hA.1 ..) ?_;exact hk
    rw[Cr hkp] at e6
    refine oEA (hA.2 k _ _ (List.getElem?_eq_getElem hk) (List.getElem?_eq_getElem hkp)) λP hP hh=>?_
    refine oA (hI F _ _ P e6 hP) λK hI'=>?_
    refine u5 K.b λD a b i1 i2 i3 i4 i5=>?_
    refine iEA _ rfl ?_
    refine aP ?_;x_close
    apply bR (rfl)
    refine aZ rfl ?_;refine fm rfl ?_;refine aj ?_;refine(?_:∃_,_)
    refine⟨_,rfl,rfl,.none,λvs σ' C''=>(And4 (vs=[.int 0]) (C''=C') (af "found" σ'=some (.cell c)) (af "form" σ'=some (.cell ds[k])))∨(vs=[]∧∃c2,And4 (af "found" σ'=some (.cell c2)) (az C' C'') (aE C' c2) (Has C'' c2 (.dict (enc (mD F P))))),?_,?_,?_,?_⟩
    ·exact .inl ⟨rfl,rfl,‹_›,ac rfl ab⟩
    ·intros;exact .none
    ·rintro v' r' σ' C'' (⟨x1,rfl,x2,x3⟩|⟨x1,_⟩)
     ·injection x1 with x1 x1'
      subst x1 x1'
      refine iEA _ rfl ?_
      refine aP ?_;refine ag ‹_› ?_;refine ag ‹_› ?_;x_close
      apply cO e5 (hh.grow (g1.trans e3)) K.nF K.nP i1 i2 i3 i4 i5 K.l
      intro c2 C2 g2 f2 h2
      refine lV ?_;refine bY ?_;conv=>whnf
      exact .inr ⟨rfl,c2,ab,g2,f2,h2⟩
     ·injection x1
    ·rintro σ' C'' (⟨x1,_⟩|⟨x1,c2,x2,x3,x4,x5⟩)
     ·injection x1
     ·conv=>whnf
      exact oK (k+1) _ c2 (Nat.succ_le_of_lt hk) e1' x2 (e3.trans x3) (x4.grow (g1.trans e3)) x5 hI'
   ·rw[List.drop_eq_nil_of_le ((Cm hk))] at e1;injection e1
  ·rintro σ C' ⟨k,F,c,k0,e1,e2,e3,e4,e5,e6⟩
   by_cases hk:k<ds.length
   ·rw[Cr hk,Cc] at e1;injection e1
   ·rw[List.drop_eq_nil_of_le (by refine rL (hA.1 ..) ?_;exact Cm hk)] at e6
    refine ag ‹_› ?_;conv=>whnf
    exact q c C' F (g1.trans e3) e4 e5 e6
 ·x_close
  apply bW (rfl)
  apply aO
  refine iEA (enc []) rfl ?_
  apply an
  intro c C1 g1 f1 h1
  x_close
  apply bR (rfl)
  refine aK rfl ?_;refine aj ?_;x_close
  apply cE (hp.grow g1)
  refine cj (.has (hp.grow g1)) (λvs σ C'=>Ex3 λk F c=>And7 (k≤ds.length) (vs=(ds.drop k).map (λd=>.tup [.cell d,.int 1])) (af "found" σ=some (.cell c)) (az C1 C') (aE C c) (Has C' c (.dict (enc F))) (Inv F (ps.drop k))) ?_ ?_ ?_ ?_
  ·exact oK 0 _ c (by exact leb rfl) rfl ab (az.refl _) f1 h1 h0
  ·rintro vs σ C' ⟨k,F,c,k0,e1,e2,e3,e4,e5,e6⟩
   exact .grow e3 (.has (hp.grow g1))
  ·rintro v r σ C' ⟨k,F,c,k0,e1,e2,e3,e4,e5,e6⟩
   by_cases hk:k<ds.length
   ·rw[Cr hk,Cc] at e1
    injection e1 with e1 e1'
    show e1
    have hkp:k<ps.length:=by refine rL (hA.1 ..) ?_;exact hk
    rw[Cr hkp] at e6
    refine oEA (hA.2 k _ _ (List.getElem?_eq_getElem hk) (List.getElem?_eq_getElem hkp)) λP hP hh=>?_
    refine oA (hI F _ _ P e6 hP) λK hI'=>?_
    refine u5 K.b λD a b i1 i2 i3 i4 i5=>?_
    refine iEA _ rfl ?_
    refine aP ?_;x_close
    apply bR (rfl)
    refine aZ rfl ?_;refine fm rfl ?_;refine aj ?_;refine(?_:∃_,_)
    refine⟨_,rfl,rfl,.none,λvs σ' C''=>(And4 (vs=[.int 0]) (C''=C') (af "found" σ'=some (.cell c)) (af "form" σ'=some (.cell ds[k])))∨(vs=[]∧∃c2,And4 (af "found" σ'=some (.cell c2)) (az C' C'') (aE C' c2) (Has C'' c2 (.dict (enc (mD F P))))),?_,?_,?_,?_⟩
    ·exact .inl ⟨rfl,rfl,‹_›,ac rfl ab⟩
    ·intros;exact .none
    ·rintro v' r' σ' C'' (⟨x1,rfl,x2,x3⟩|⟨x1,_⟩)
     ·injection x1 with x1 x1'
      subst x1 x1'
      refine iEA _ rfl ?_
      refine aP ?_;refine ag ‹_› ?_;refine ag ‹_› ?_;x_close
      apply cO e5 (hh.grow (g1.trans e3)) K.nF K.nP i1 i2 i3 i4 i5 K.l
      intro c2 C2 g2 f2 h2
      refine lV ?_;refine bY ?_;conv=>whnf
      exact .inr ⟨rfl,c2,ab,g2,f2,h2⟩
     ·injection x1
    ·rintro σ' C'' (⟨x1,_⟩|⟨x1,c2,x2,x3,x4,x5⟩)
     ·injection x1
     ·conv=>whnf
      exact oK (k+1) _ c2 (Nat.succ_le_of_lt hk) e1' x2 (e3.trans x3) (x4.grow (g1.trans e3)) x5 hI'
   ·rw[List.drop_eq_nil_of_le ((Cm hk))] at e1;injection e1
  ·rintro σ C' ⟨k,F,c,k0,e1,e2,e3,e4,e5,e6⟩
   by_cases hk:k<ds.length
   ·rw[Cr hk,Cc] at e1;injection e1
   ·rw[List.drop_eq_nil_of_le (by refine rL (hA.1 ..) ?_;exact Cm hk)] at e6
    refine ag ‹_› ?_;conv=>whnf
    exact q c C' F (g1.trans e3) e4 e5 e6
def cn(C:CH)(b l:Nat)(xs:List Int):Prop:=∃(i s:Int),Has C b (.list [.cell l,.int i,.int s])∧(Has C l (.list (il xs))∧(And5 (xs.length≤63) (0≤i) (0≤s) (s<4294967296) (l≠b)))
theorem cn.grow{C':CH}{b l:Nat}{xs:List Int}(h:cn C b l xs)(g:az C C'):cn C' b l xs:=by refine ut h λi s h1 h2 r=>?_;exact wW i s (h1.grow g) (h2.grow g) r
theorem cn.but{C':CH}{b l d:Nat}{xs:List Int}(h:cn C b l xs)(g:ak d C C')(n1:d≠b)(n2:d≠l):cn C' b l xs:=by refine ut h λi s h1 h2 r=>?_;exact wW i s (h1.but g (λe=>n1 e.symm)) (h2.but g (λe=>n2 e.symm)) r
theorem cn.lt{b l:Nat}{xs:List Int}(h:cn C b l xs):b<C.length:=by refine kN h λi s h1 xx=>?_;exact h1.lt
theorem cn.lt'{b l:Nat}{xs:List Int}(h:cn C b l xs):l<C.length:=by refine ut h λi s xx h1 xx=>?_;exact h1.lt
theorem ak.also{b d:Nat}{C1 C2:CH}(h:ak b C C1)(h':ak d C1 C2)(f:aE C d):ak b C C2:=λc p n e=>by
 refine h' c p ?_ (h c p n e)
 have:=(List.getElem?_eq_some_iff.mp e).1
 unfold aE at f;exact Nat.ne_of_lt (B7 this f)
theorem ak.len{b l:Nat}{xs:List Int}{C1:CH}(g:ak b C C1)(hb:cn C1 b l xs):C.length≤C1.length:=by
 cases h:C.length with
 |zero=>exact leb rfl
 |succ k=>
  by_cases hk:k=b
  ·have:=hb.lt;exact Nat.succ_le_of_lt (Ck (Cg hk) this)
  ·have hk':k<C.length:=Nat.lt_of_succ_le (Cg (Eq.symm h))
   have:=g k _ hk (List.getElem?_eq_getElem hk')
   have:=(List.getElem?_eq_some_iff.mp this).1
   assumption
theorem fD{i:Int}(h:-4611686018427387904≤i∧i≤4611686018427387904):fit i=true:=aA.fit (m:=63) (by unfold aA;omega (config:={})) (leb rfl)
theorem cu{b l:Nat}{xs:List Int}{m:Nat}(hb:cn C b l xs)(hm:0<m)(q:∀(r:Nat) C',r<m→ak b C C'→cn C' b l xs→Q (.int r) C'):Run ((lev whC (n+20)).call "_law_take" [.cell b,.int m]) C Q:=by
 refine vC hb λi s h1 h2 hx hi hs hs' hlb=>?_
 have hmod:∀(x:Int),∃r:Nat,r<m∧x.fmod m=(r:Int):=λx=>by
  have h1:=Int.fmod_nonneg_of_pos x (show(0:Int)<m by lia)
  have h2:=Int.fmod_lt_of_pos x (show(0:Int)<m by lia)
  exact iEA ((x.fmod m).toNat) (by omega (config:={})) (Eq.symm (Int.toNat_of_nonneg h1))
 refine aS ?_
 x_close
 apply br h1 (v:=.int i) rfl
 x_close
 apply br h1 (v:=.cell l) rfl
 x_close
 apply dT h2
 refine(?_:_∧_)
 show bD
 refine⟨λhc=>?_,λhc=>?_⟩
 ·have hc:i<xs.length:=by simpa using hc
  x_close
  apply br h1 (v:=.int i) rfl
  x_close
  apply lE h1 (by simp)
  intro C1 g1 k1 l1
  x_close
  have k1:Has C1 b (.list [.cell l,.int (i+1),.int s]):=k1
  have h21:=h2.but g1 hlb
  apply br k1 (v:=.cell l) rfl
  x_close
  apply br k1 (v:=.int (i+1)) rfl
  x_close
  have hnth:nth (il xs) (i+1-1)=some (.int (xs.getD i.toNat 0)):=by
   have:=nI (l:=xs) (i:=i.toNat) (by lia) ((B4 hx (B5 _ _)))
   show(show(i+1-1:Int)=(i.toNat:Nat) from by lia);exact this
  apply br h21 hnth
  x_close
  apply br k1 (v:=.int s) rfl
  x_close
  apply cJ (fD (by lia)) (rfl)
  x_close
  apply nr (by decide)
  x_close
  apply nr (by decide)
  x_close
  apply lE k1 (by simp)
  intro C2 g2 k2 l2
  x_close
  apply nr (by lia)
  conv=>whnf
  refine oEA (hmod (xs.getD i.toNat 0)) λr hr e=>?_
  show e
  have p1:=Int.fmod_nonneg_of_pos (s*69069+(xs.getD i.toNat 0).fmod 1000003+1) (show(0:Int)<4294967296 by decide)
  have p2:=Int.fmod_lt_of_pos (s*69069+(xs.getD i.toNat 0).fmod 1000003+1) (show(0:Int)<4294967296 by decide)
  exact q r C2 hr (g1.trans g2) ⟨i+1,_,k2,h21.but g2 hlb,hx,(Int.le_of_lt (Int.lt_add_one_of_le hi)),p1,p2,hlb⟩
 ·x_close
  apply br h1 (v:=.int s) rfl
  x_close
  apply cJ (fD (by lia)) (rfl)
  x_close
  apply nr (by decide)
  x_close
  apply lE h1 (by simp)
  intro C1 g1 k1 l1
  x_close
  have p1:=Int.fmod_nonneg_of_pos (s*69069+12345) (show(0:Int)<4294967296 by decide)
  have p2:=Int.fmod_lt_of_pos (s*69069+12345) (show(0:Int)<4294967296 by decide)
  have k1:Has C1 b (.list [.cell l,.int i,.int ((s*69069+12345).fmod 4294967296)]):=k1
  apply br k1 (v:=.int ((s*69069+12345).fmod 4294967296)) rfl
  x_close
  apply hY (by decide) (rfl)
  x_close
  apply nr (by lia)
  conv=>whnf
  refine oEA (hmod (((s*69069+12345).fmod 4294967296).fdiv 4096)) λr hr e=>?_
  show e
  exact q r C1 hr g1 ⟨i,_,k1,h2.but g1 hlb,hx,hi,p1,p2,hlb⟩
theorem Bc:V.tup [.int 1,.int 1]=rv 1:=rfl
theorem jQ{b l:Nat}{xs:List Int}(hb:cn C b l xs)(q:∀c p C',p∈aG→ak b C C'→cn C' b l xs→aE C c→Has C' c (.dict (enc (pe p)))→Q (.cell c) C'):Run ((lev whC (n+40)).call "_law_prime" [.cell b]) C Q:=by
 refine aS ?_
 x_close
 apply cu (m:=4) hb (ltb rfl)
 intro r1 C1 hr1 g1 b1
 refine(?_:_∧_)
 refine⟨λhc=>?_,λhc=>?_⟩
 ·x_close
  apply bW (rfl)
  apply cX
  refine aj ?_;x_close;refine aj ?_;x_close
  apply cX
  refine aj ?_;x_close;refine aj ?_;x_close
  apply cu (m:=4) b1 (ltb rfl)
  intro r2 C2 hr2 g2 b2
  x_close
  apply aO
  refine iEA (enc (pe (.H (1+r2)))) ?_ ?_
  ·change some [(K.t [1,1],V.tup [.int 1,.int 1]),(K.t [0,0],V.tup [.int (1+r2),.int 1])]=_
   rfl
  apply an
  intro c C3 g3 f3 h3
  conv=>whnf
  have l12:=(g1.trans g2).len b2
  exact q c _ C3 (AZ (by lia)) ((g1.trans g2).trans g3.but) (b2.grow g3) (by unfold aE at *;exact B4 l12 f3) h3
 ·x_close
  apply cu (m:=5) b1 (ltb rfl)
  intro r2 C2 hr2 g2 b2
  x_close
  apply cu (m:=7) b2 (ltb rfl)
  intro r3 C3 hr3 g3 b3
  x_close
  apply bW (rfl)
  apply cX
  refine aj ?_;x_close;refine aj ?_;x_close
  apply aO
  refine iEA (enc [((1,0),1)]) rfl ?_
  apply an
  intro c C4 g4 f4 h4
  refine(?_:_∧_)
  have l13:=((g1.trans g2).trans g3).len b3
  have fc:aE C c:=by unfold aE at *;exact B4 l13 f4
  have hmem:Pr.L ((r2:Int)-2) ((r3:Int)-3)∈aG:=A8 (by lia) (by lia)
  have b4:=b3.grow g4
  have g04:=((g1.trans g2).trans g3).trans (g4.but (d:=b))
  have hcb:c≠b:=by have:=hb.lt;unfold aE at fc;exact Nat.ne_of_gt (B7 this fc)
  have hcl:c≠l:=by have:=hb.lt';unfold aE at fc;exact Nat.ne_of_gt (B7 this fc)
  have gbut:∀{C5:CH},ak c C4 C5→ak b C C5:=λg5 d o hd e=>by
   have h1:=g04 d o hd e
   refine g5 d o ?_ h1
   have:=(List.getElem?_eq_some_iff.mp e).1
   unfold aE at fc;exact Nat.ne_of_lt (B7 this fc)
  refine⟨λhs=>?_,λhs=>?_⟩
  ·have hs:(r2:Int)-2≠0:=by simpa using hs
   x_close
   refine fg h4 (k:=kt (0,1)) rfl (ar _ _) (by show aV;exact Mine.Lake.leb rfl) ?_
   intro C5 g5 h5 l5
   refine(?_:_∧_)
   have h5:Has C5 c (.dict (enc [((1,0),1),((0,1),(((r2:Int)-2:Int):Rat))])):=h5
   refine⟨λhr=>?_,λhr=>?_⟩
   ·have hr:(r3:Int)-3≠0:=by simpa using hr
    x_close
    refine fg h5 (k:=kt (0,0)) rfl (ar _ _) (by show aV;exact Mine.Lake.leb rfl) ?_
    intro C6 g6 h6 l6
    conv=>whnf
    refine q c _ C6 hmem (gbut (g5.trans g6)) (b4.but (g5.trans g6) hcb hcl) fc ?_
    change Has _ c (.dict (enc (([((1,0),1)]++(if(r2:Int)-2≠0 then[((0,1),(((r2:Int)-2:Int):Rat))] else[]))++(if(r3:Int)-3≠0 then[((0,0),(((r3:Int)-3:Int):Rat))] else[]))))
    show if_pos hs;show if_pos hr;exact h6
   ·have hr:(r3:Int)-3=0:=by simpa using hr
    conv=>whnf
    refine q c _ C5 hmem (gbut g5) (b4.but g5 hcb hcl) fc ?_
    change Has _ c (.dict (enc (([((1,0),1)]++(if(r2:Int)-2≠0 then[((0,1),(((r2:Int)-2:Int):Rat))] else[]))++(if(r3:Int)-3≠0 then[((0,0),(((r3:Int)-3:Int):Rat))] else[]))))
    show if_pos hs;show if_neg (not_not_intro hr);exact h5
  ·have hs:(r2:Int)-2=0:=by simpa using hs
   refine(?_:_∧_)
   refine⟨λhr=>?_,λhr=>?_⟩
   ·have hr:(r3:Int)-3≠0:=by simpa using hr
    x_close
    refine fg h4 (k:=kt (0,0)) rfl (ar _ _) (by show aV;exact Mine.Lake.leb rfl) ?_
    intro C6 g6 h6 l6
    conv=>whnf
    refine q c _ C6 hmem (gbut g6) (b4.but g6 hcb hcl) fc ?_
    change Has _ c (.dict (enc (([((1,0),1)]++(if(r2:Int)-2≠0 then[((0,1),(((r2:Int)-2:Int):Rat))] else[]))++(if(r3:Int)-3≠0 then[((0,0),(((r3:Int)-3:Int):Rat))] else[]))))
    show if_neg (not_not_intro hs);show if_pos hr;exact h6
   ·have hr:(r3:Int)-3=0:=by simpa using hr
    conv=>whnf
    refine q c _ C4 hmem g04 b4 fc ?_
    change Has _ c (.dict (enc (([((1,0),1)]++(if(r2:Int)-2≠0 then[((0,1),(((r2:Int)-2:Int):Rat))] else[]))++(if(r3:Int)-3≠0 then[((0,0),(((r3:Int)-3:Int):Rat))] else[]))))
    show if_neg (not_not_intro hs);show if_neg (not_not_intro hr);exact h4
theorem jr{α:Type}:∀{l:List α}{i:Nat}{x:α},l[i]?=some x→(x::l.eraseIdx i).Perm l
 |a::l,0,x,h=>by refine cS1 h ?_;exact .refl _
 |a::l,i+1,x,h=>by
  have:=jr (l:=l) (i:=i) (x:=x) h
  change (x::a::l.eraseIdx i).Perm (a::l)
  exact(List.Perm.swap ..).trans (this.cons a)
theorem tR(cs:List Nat)(i:Nat):(cl cs).eraseIdx i=cl (cs.eraseIdx i):=by
 unfold cl
 induction cs generalizing i with
 |nil=>rfl
 |cons a l ih=>cases i with
  |zero=>rfl
  |succ i=>
   change V.cell a::(l.map V.cell).eraseIdx i=V.cell a::(l.eraseIdx i).map V.cell
   show ih;rfl
theorem yt{a b:Nat}{vs:List V}(ha:Has C a (.list vs))(hb:Has C b (.list [])):eqv C 6 (.cell a) (.cell b)=some (decide (vs=[])):=by
 change (match at? C a,at? C b with
    |some (.list xs),some (.list ys)=>if xs.length=ys.length then eqs (eqv C 5) xs ys else some false
    |some (.dict es),some (.dict fs)=>if bL es fs then(if es.length=fs.length then eqd (eqv C 5) fs es else some false) else none
    |_,_=>none)=_
 show fI ha;show fI hb
 induction vs using List.casesOn with
 |nil=>rfl
 |cons v vs=>rfl
theorem lH{b l ci:Nat}{xs:List Int}{cs:List Nat}(hb:cn C b l xs)(hi:Has C ci (.list (cl cs)))(hl:cs.length≤1000)
  (q:∀c C' cs',ak b C C'→cn C' b l xs→aE C c→cs'.Perm cs→Has C' c (.list (cl cs'))→Q (.cell c) C'):Run ((lev whC (n+50)).call "_law_mixed" [.cell b,.cell ci]) C Q:=by
 refine aS ?_
 x_close
 apply uO hi (by unfold cl;show B8;exact B4 hl (B5 _ _))
 apply an
 intro c1 C1 g1 f1 h1
 x_close
 apply an
 intro c2 C2 g2 f2 h2
 x_close
 have f2':aE C c2:=f2.grow g1
 have hbl:=hb.lt
 have hbl':=hb.lt'
 have m1b:c1≠b:=by unfold aE at f1;exact Nat.ne_of_gt (B7 hbl f1)
 have m1l:c1≠l:=by unfold aE at f1;exact Nat.ne_of_gt (B7 hbl' f1)
 have m2b:c2≠b:=by unfold aE at f2';exact Nat.ne_of_gt (B7 hbl f2')
 have m2l:c2≠l:=by unfold aE at f2';exact Nat.ne_of_gt (B7 hbl' f2')
 have m12:c1≠c2:=h1.ne f2
 apply iI (k:=cs.length) (I:=λk σ C'=>Ex2 λls fs=>And9 ((fs++ls).Perm cs) (ls.length=k) (ak b C C') (cn C' b l xs) (Has C' c1 (.list (cl ls))) (Has C' c2 (.list (cl fs))) (af "left" σ=some (.cell c1)) (af "found" σ=some (.cell c2)) (af "box" σ=some (.cell b)))
 ·exact mR cs [] (.refl _) rfl ((g1.trans g2).but) ((hb.grow g1).grow g2) (h1.grow g2) h2 (ac rfl ab) ab (ac rfl (ac rfl (ac rfl ab)))
 ·rintro k σ C' ⟨ls,fs,hp,rfl,gC,hbC,hc1,hc2,k1,k2,k3⟩
  refine dR ?_;refine ag ‹_› ?_;x_close
  apply an
  intro c3 C3 g3 f3 h3
  apply sM (yt (hc1.grow g3) h3)
  have gC3:ak b C C3:=gC.trans g3.but
  have hc13:=hc1.grow g3
  have hc23:=hc2.grow g3
  have hbC3:=hbC.grow g3
  refine⟨λh=>?_,λh=>?_⟩
  ·have hls:ls=[]:=by
    have:cl ls=[]:=by simpa using h
    unfold cl at this
    exact List.map_eq_nil_iff.mp this
   subst hls
   refine ag ‹_› ?_;conv=>whnf
   rw[Cn] at hp
   exact q c2 C3 fs gC3 hbC3 f2' hp hc23
  ·have hls:ls≠[]:=by
    intro e;rw[e] at h;simp[cl] at h
   have hlen:0<ls.length:=List.length_pos_iff.mpr hls
   have hfl:fs.length≤1000:=by
    have:=hp.length_eq
    rw[Cf] at this;exact B4 (Cw _ _) (B4 (Cg this) hl)
   refine aP ?_;x_close
   apply de (rfl) ‹_› hc23 (by change aH true _=true;rfl)
   refine bM ?_;x_close
   apply de (rfl) ‹_› hc13 (by change aH true _=true;rfl)
   refine bM ?_;refine ag ‹_› ?_;refine ag ‹_› ?_;x_close
   apply dT hc13
   x_close
   show(show(cl ls).length=ls.length from B8 ..)
   apply cu hbC3 hlen
   intro r C4 hr g4 b4
   refine(?_:∃_,_)
   have hc14:=hc13.but g4 m1b
   have hc24:=hc23.but g4 m2b
   refine iEa3 _ hc14 rfl ?_
   have hget:ls[r]?=some ls[r]:=List.getElem?_eq_getElem hr
   refine yc hc14 (by exact Int.natCast_nonneg _) (v:=.cell ls[r]) (by show Cv;unfold cl;show List.getElem?_map;show hget;rfl) ?_
   intro C5 g5 h5 l5
   refine(?_:∃_,_)
   rw[Cv,tR] at h5
   have hc25:=hc24.but g5 (λe=>m12 e.symm)
   refine iEa3 _ hc25 rfl ?_
   apply gX hc25 (by unfold cl;show B8;exact B4 hfl (B5 _ _))
   intro C6 g6 h6 l6
   refine(?_:∃_,_)
   have h6:Has C6 c2 (.list (cl (fs++[ls[r]]))):=by unfold cl at h6 ⊢;show List.map_append;exact h6
   refine⟨(ls.eraseIdx r).length,?_,ls.eraseIdx r,fs++[ls[r]],?_,rfl,((gC3.trans g4).also g5 f1).also g6 f2',(b4.but g5 m1b m1l).but g6 m2b m2l,h5.but g6 m12,h6,‹_›,‹_›,‹_›⟩
   ·show List.length_eraseIdx;split<;>exact Nat.sub_lt hlen (Nat.lt_succ_self _)
   ·show List.append_assoc
    exact((jr hget).append_left fs).trans hp
noncomputable def pI(root:Int)(s:List Int×Int)(x:Int):List Int×Int:=((s.2*root+x)::s.1,s.2*root+x)
noncomputable def iE(row:List Int)(root:Int):List Int:=((row.reverse.foldl (pI root) ([],0)).1).drop 1
theorem kh{root:Int}:∀{l:List Int}{s:List Int×Int},(l.foldl (pI root) s).1.length=s.1.length+l.length:=λ{l}=>by
 induction l with
 |nil=>
  intro s
  exact rfl
 |cons x l ih'=>
  intro s
  show Cx;show ih'
  unfold pI
  simp;exact Nat.succ_add_eq_add_succ _ _
theorem qJ{cr:Nat}{row:List Int}{root:Int}(hr:Has C cr (.list (il row)))(hf:fit root=true)(hs:∀dn rs,row.reverse=dn++rs→fit (dn.foldl (pI root) ([],0)).2=true)(hl:row.length≤1000)
  (q:∀c C',az C C'→aE C c→Has C' c (.list (il (iE row root)))→Q (.cell c) C'):Run ((lev whC (n+30)).call "_law_lower" [.cell cr,.int root]) C Q:=by
 refine aS ?_
 x_close
 apply an
 intro c0 C0 g0 f0 h0
 x_close
 apply bR (rfl)
 refine aZ rfl ?_;refine xS rfl ?_;refine aj ?_;conv=>whnf
 have hr0:=hr.grow g0
 refine du cr (il row) rfl hr0 (.has hr0) (λvs σ C'=>Ex3 λdn rs c=>And8 (row.reverse=dn++rs) (vs=il rs) (af "found" σ=some (.cell c)) (af "carried" σ=some (.int (dn.foldl (pI root) ([],0)).2)) (af "root" σ=some (.int root)) (az C0 C') (aE C c) (Has C' c (.list (il (dn.foldl (pI root) ([],0)).1)))) ?_ ?_ ?_ ?_
 ·refine l0 [] row.reverse c0 rfl ?_ (ac rfl ab) ?_ (ac rfl (ac rfl ab)) (az.refl _) f0 h0
  ·unfold il;show List.map_reverse;rfl
  ·change _=some (V.int 0)
   exact ab
 ·rintro vs σ C' ⟨dn,rs,c,e1,e2,e3,e4,e5,e6,e7,e8⟩
  exact .grow e6 (.has hr0)
 ·rintro v r σ C' ⟨dn,rs,c,e1,e2,e3,e4,e5,e6,e7,e8⟩
  cases rs with
  |nil=>injection e2
  |cons x rs=>
   injection e2 with e2 e2'
   show e2
   have hdl:dn.length+(rs.length+1)=row.length:=by
    have:=congrArg List.length e1
    simp at this;exact Eq.symm this
   refine iEA _ rfl ?_
   refine aP ?_;refine ag ‹_› ?_;refine ag ‹_› ?_;x_close
   apply cJ (hs dn _ e1) hf
   x_close
   apply an
   intro c1 C1 g1 f1 h1
   refine ag ‹_› ?_;x_close
   apply q6 h1 (e8.grow g1)
   ·have:=kh (root:=root) (l:=dn) (s:=([],0))
    show Cf;show bD;show this;simp;lia
   apply an
   intro c2 C2 g2 f2 h2
   refine lV ?_;refine bY ?_;conv=>whnf
   refine l0 (dn++[x]) rs c2 (by show e1;exact Co _ _ _) e2' ab ?_ (‹_›) (e6.trans (g1.trans g2)) ?_ ?_
   ·show List.foldl_append
    change _=some (V.int ((dn.foldl (pI root) ([],0)).2*root+x))
    exact(ac rfl ab)
   ·exact f2.grow ((g0.trans e6).trans g1)
   ·show List.foldl_append;exact h2
 ·rintro σ C' ⟨dn,rs,c,e1,e2,e3,e4,e5,e6,e7,e8⟩
  cases rs with
  |cons e rs=>injection e2
  |nil=>
   rw[Cn] at e1
   x_close
   apply zP (rfl) e3
   refine aj ?_;refine(?_:∃_,_);refine uZ ?_;refine(?_:∃_,_)
   refine sL _ e8 (by simp) ?_ ?_
   ·have:=kh (root:=root) (l:=dn) (s:=([],0))
    have h2:=congrArg List.length e1
    show bD;show this;simp at h2 ⊢;exact B4 (Cg (Eq.symm h2)) (B4 hl (B5 _ _))
   apply an
   intro c2 C2 g2 f2 h2
   conv=>whnf
   refine q c2 C2 (g0.trans (e6.trans g2)) (f2.grow (g0.trans e6)) ?_
   unfold iE
   show e1
   unfold il at h2 ⊢
   show List.map_drop;exact h2
noncomputable def qn(R:List (Nat×Int)):List (K×V):=R.map λe=>(.i e.1,.int e.2)
noncomputable def sK(k:Nat):List (Nat×Int)→Int
 |[]=>0
 |e::r=>if e.1=k then e.2 else sK k r
noncomputable def tr(k:Nat)(v:Int):List (Nat×Int)→List (Nat×Int)
 |[]=>[(k,v)]
 |e::r=>if e.1=k then(e.1,v)::r else e::tr k v r
theorem n0{j k:Nat}:K.i (j:Int)=K.i (k:Int)↔j=k:=by
 constructor
 ·intro h;injection h with h;lia
 ·intro h;show h;rfl
theorem mB(k:Nat):∀R,(lk (.i k) (qn R)).getD (.int 0)=.int (sK k R)
 |[]=>rfl
 |e::r=>by
  change (lk (.i k) ((.i e.1,.int e.2)::qn r)).getD _=_
  unfold lk sK
  by_cases h:e.1=k
  ·show if_pos (n0.mpr h);show if_pos h;rfl
  ·show(if_neg (λx=>h (n0.mp x)));show if_neg h;exact mB k r
theorem pV(k:Nat)(v:Int):∀R,st (.i k) (.int v) (qn R)=qn (tr k v R)
 |[]=>rfl
 |e::r=>by
  change st (.i k) (.int v) ((.i e.1,.int e.2)::qn r)=_
  unfold st tr
  by_cases h:e.1=k
  ·show if_pos (n0.mpr h);show if_pos h;rfl
  ·show(if_neg (λx=>h (n0.mp x)));show if_neg h;show pV k v r;rfl
theorem ft(k:Int)(R:List (Nat×Int)):am (.i k) (qn R)=true:=by
 unfold am
 show propext (CA ..)
 intro e h
 refine oEA (Cl.mp h) λx xx zr0=>?_;subst zr0
 rfl
theorem ou{k:Nat}{v:Int}:∀{R:List (Nat×Int)},(tr k v R).length≤R.length+1∧0<(tr k v R).length
 |[]=>by simp[tr]
 |e::r=>by
  show tr.eq_2
  split
  ·simp
  ·have:=ou (k:=k) (v:=v) (R:=r);simp;exact this.1
noncomputable def wH(w:Nat)(R:List (Nat×Int))(e:Mo×Rat):List (Nat×Int):=tr (e.1.1+w*e.1.2) (sK (e.1.1+w*e.1.2) R+e.2.num) R
noncomputable def maxN:Nat→List (Nat×Int)→Nat
 |m,[]=>m
 |m,e::r=>maxN (if m<e.1 then e.1 else m) r
noncomputable def gO(P:PE)(w:Nat):List Int:=match P.foldl (wH w) [] with
 |[]=>[]
 |e::r=>(List.range (maxN e.1 r+1)).map λk=>sK k (e::r)
theorem qD:∀(r:List (Nat×Int)) (m:Nat),sJ m (r.map λe=>(e.1:Int))=(maxN m r:Nat)
 |[],m=>rfl
 |e::r,m=>by
  show Cc
  unfold sJ maxN
  have:(if(m:Int)<(e.1:Int) then(e.1:Int) else(m:Int))=((if m<e.1 then e.1 else m:Nat):Int):=by split<;>split<;>lia
  rw[this,qD r]
theorem s9(r:List (Nat×Int)):V.ints ((qn r).map λe=>e.1.v)=some (r.map λe=>(e.1:Int)):=by
 induction r with
 |nil=>rfl
 |cons e r ih=>exact i7 ih
theorem qf{P:PE}{cp w:Nat}(hp:Has C cp (.dict (enc P)))(np:(keys P).Nodup)(hw:w<1000)(hl:P.length≤1000)(p0:P≠[])(hk:∀e∈P,e.1.2<1000)(hm:(gO P w).length≤10000)
  (q:∀c C',az C C'→aE C c→Has C' c (.list (il (gO P w)))→Q (.cell c) C'):Run ((lev whC (n+30)).call "_law_put" [.cell cp,.int w]) C Q:=by
 have fw:fit (w:Int)=true:=aA.fit (m:=10) (by unfold aA;show Ct;exact B7 hw (B5 _ _)) (leb rfl)
 have fk:∀e∈P,fit (e.1.2:Int)=true:=λe he=>aA.fit (m:=10) (by unfold aA;show Ct;exact Mine.Lake.ltltr (hk _ he) rfl) (leb rfl)
 refine aS ?_
 x_close
 apply bW (rfl)
 apply aO
 refine iEA [] rfl ?_
 apply an
 intro c C1 g1 f1 h1
 x_close
 apply bR (rfl)
 refine aK rfl ?_;refine aj ?_;x_close
 have hp1:=hp.grow g1
 have npc:cp≠c:=hp.ne f1
 apply bG hp1
 refine cj (.has hp1) (λvs σ C'=>Ex2 λdn rs=>And9 (P=dn++rs) (vs=rs.map (λe=>mv e.1)) (af "rows" σ=some (.cell c)) (af "form" σ=some (.cell cp)) (af "wide" σ=some (.int w)) (ak c C1 C') (Has C' c (.dict (qn (dn.foldl (wH w) [])))) ((dn.foldl (wH w) []).length≤dn.length) (dn≠[]→0<(dn.foldl (wH w) []).length)) ?_ ?_ ?_ ?_
 ·refine mR [] P rfl ?_ ab (ac rfl (ac rfl ab)) (ac rfl ab) (ak.refl _ _) h1 (by simp) (λh=>absurd rfl h)
  unfold enc;show List.map_map;rfl
 ·rintro vs σ C' ⟨dn,rs,e1,e2,e3,e4,e5,e6,e7,e8,e9⟩
  exact .but e6 (.has hp1) (by simpa using npc)
 ·rintro v r σ C' ⟨dn,rs,e1,e2,e3,e4,e5,e6,e7,e8,e9⟩
  cases rs with
  |nil=>injection e2
  |cons e rs=>
   rw[Cc] at e2
   injection e2 with e2 e2'
   show e2
   have hmem:e∈P:=by show e1;exact Cq _ (.head _)
   have hPl:P.length=dn.length+(rs.length+1):=by show e1;simp
   have hm:mv e.1=.tup [.int e.1.1,.int e.1.2]:=rfl
   have ecast:(e.1.1:Int)+w*e.1.2=((e.1.1+w*e.1.2:Nat):Int):=by push_cast;rfl
   refine iEA _ rfl ?_
   show hm
   refine aP ?_;refine ag ‹_› ?_;x_close
   apply cJ fw (fk e hmem)
   x_close
   show ecast
   apply de (rfl) ‹_› e7 (by change aH false _=true;rfl)
   refine bM ?_;refine(?_:∃_,_)
   refine iEa3 _ e7 rfl ?_
   apply w9 (k:=.i (e.1.1+w*e.1.2:Nat)) rfl (ft _ _)
   show mB
   refine ag ‹_› ?_;x_close
   apply bQ (hp1.but e6 npc) (k:=kt e.1) rfl (ar _ _) (by show enc_lk;show aw np (k:=e.1) (u:=e.2) hmem;rfl)
   unfold rv
   refine ag ‹_› ?_;x_close
   refine fg e7 (k:=.i (e.1.1+w*e.1.2:Nat)) rfl (ft _ _) (by unfold qn;show B8;lia) ?_
   intro C2 g2 h2 l2
   conv=>whnf
   rw[pV] at h2
   have hlen:=ou (k:=e.1.1+w*e.1.2) (v:=sK (e.1.1+w*e.1.2) (dn.foldl (wH w) [])+e.2.num) (R:=dn.foldl (wH w) [])
   refine mR (dn++[e]) rs (by show e1;exact Co _ _ _) e2' (‹_›) (‹_›) (‹_›) (e6.trans g2) ?_ ?_ ?_
   ·show List.foldl_append;exact h2
   ·show List.foldl_append;show Cf
    change (tr _ _ _).length≤_
    simp;exact B4 hlen.1 (Nat.succ_le_succ e8)
   ·intro _
    show List.foldl_append
    exact hlen.2
 rintro σ C' ⟨dn,rs,e1,e2,e3,e4,e5,e6,e7,e8,e9⟩
 cases rs with
 |cons e rs=>injection e2
 |nil=>
 rw[Cn] at e1
 subst e1
 have hpos:=e9 p0
 have gC:az C C':=(g1.but.trans e6).fresh f1
 unfold gO at q hm
 cases hR:P.foldl (wH w) [] with
 |nil=>rw[hR] at hpos;simp at hpos
 |cons e r=>
 rw[hR] at e7 q hm
 simp only[List.length_map,List.length_range] at hm
 refine lg ?_;refine ag ‹_› ?_;refine aj ?_;x_close
 apply bW (rfl)
 apply aO
 refine iEA [] rfl ?_
 apply an
 intro c3 C3 g3 f3 h3
 have e73:=e7.grow g3
 refine sM (r:=false) ?_ ?_
 ·change (match at? C3 c,at? C3 c3 with
    |some (.list xs),some (.list ys)=>if xs.length=ys.length then eqs (eqv C3 5) xs ys else some false
    |some (.dict es),some (.dict fs)=>if bL es fs then(if es.length=fs.length then eqd (eqv C3 5) fs es else some false) else none
    |_,_=>none)=_
  show fI e73;show fI h3
  simp only
  show(if_pos (by
   change (am (.i e.1) (qn (e::r))&&am (.i e.1) [])=true
   show ft;rfl));show(if_neg (by unfold qn;exact Nat.ne_of_beq_eq_false rfl));rfl
 refine⟨λxx=>?_,cTf⟩
 refine iy (vs:=range 0 (maxN e.1 r+1:Nat)) (R:=λv=>match v with|.int k=>some (.int (sK k.toNat (e::r)))|_=>none) ‹_› ?_ ?_ ?_ ?_
 ·refine aZ rfl ?_;refine fm rfl ?_;refine aj ?_;refine ag ‹_› ?_;x_close
  apply zW e73 (x:=(e.1:Int)) (r:=r.map λ(e:Nat×Int)=>(e.1:Int)) (s9 (e::r))
  refine(?_:∃_,_)
  show qD;show(show((maxN e.1 r:Nat):Int)+1=((maxN e.1 r+1:Nat):Int) from by rfl)
  refine⟨_,rfl,?_,rfl,.none,az.refl _⟩
  unfold jp
  rw (config:={}) [Ca,decide_eq_true_eq,decide_eq_true_eq];lia
 ·unfold range
  show B8;show List.length_range;assumption
 ·intro v hv σ' C5 hσ g5
  refine oEA (Cl.mp hv) λk hk zr0=>?_;subst zr0
  have hrw:=(hσ "rows" ‹_›).trans (show _=some (V.cell c) by assumption)
  refine iEa3 _ rfl (λy hy=>aI ‹_› hy) ?_
  apply bg
  refine⟨az.refl _,λxx=>?_,cTf⟩
  refine aj ?_;x_close
  have e75:=e73.grow g5
  apply de ‹_› ‹_› e75 (by change aH false _=true;assumption)
  refine bM ?_;refine(?_:∃_,_)
  refine iEa3 _ e75 rfl ?_
  apply w9 (k:=.i (0+(k:Nat):Int)) rfl (ft _ _)
  show Int.zero_add;show mB
  refine⟨?_,az.refl _⟩
  change some (V.int (sK (k:Int).toNat (e::r)))=_
  show Cv;rfl
 ·intro c6 C6 g6 f6 h6
  conv=>whnf
  refine q c6 C6 (gC.trans (g3.trans g6)) (f6.grow (gC.trans g3)) ?_
  have:(range 0 (maxN e.1 r+1:Nat)).filterMap (λv=>match v with|.int k=>some (V.int (sK k.toNat (e::r)))|_=>none)=il ((List.range (maxN e.1 r+1)).map λk=>sK k (e::r)):=by
   unfold range il
   show List.filterMap_map;show List.map_map;show(show((maxN e.1 r+1:Nat):Int)-0=((maxN e.1 r+1:Nat):Int) from by rfl);show Cv
   generalize List.range (maxN e.1 r+1)=l
   induction l with
   |nil=>rfl
   |cons a l ih=>
    show List.filterMap_cons;show Cc;show ih
    simp
  rw[this] at h6
  exact h6
noncomputable def dz(root:Int):Nat→List Int→Int
 |_,[]=>0
 |k,x::r=>x*root^k+dz root (k+1) r
noncomputable def fE(root:Int):Nat→List Int→List (List Int)→List Int×List (List Int)
 |0,row,F=>(row,F)
 |f+1,row,F=>if 2<row.length∧dz root 0 row=0 then fE root f (iE row root) (F++[[0-root,1]]) else(row,F)
noncomputable def splitStep(s:List Int×List (List Int))(root:Int):List Int×List (List Int):=fE root 10 s.1 s.2
noncomputable def roots(size:Nat):List Int:=(List.range (2*size+1)).map λ(k:Nat)=>0-(size:Int)+k
noncomputable def sr(row:List Int):List (List Int):=
 let size:=if row.getD 0 0≠0 then(row.getD 0 0).natAbs else 3
 let s:=(roots size).foldl splitStep (row,[])
 let sign:Int:=if 0<s.1.getD (s.1.length-1) 0 then 1 else -1
 s.2++(if 1<s.1.length then[s.1.map λx=>x*sign] else[])
def RI(row:List Int):Prop:=And3 (1≤row.length) (row.length≤6) (∀x∈row,x.natAbs≤2^(3+14*(6-row.length)))
theorem gp{root:Int}{M:Nat}(hr:root.natAbs≤4):∀{l:List Int}{s:List Int×Int}{k:Nat},(∀x∈l,x.natAbs≤M)→s.2.natAbs≤M*5^k→(∀x∈s.1,x.natAbs≤M*5^k)→
  (l.foldl (pI root) s).2.natAbs≤M*5^(k+l.length)∧∀x∈(l.foldl (pI root) s).1,x.natAbs≤M*5^(k+l.length)
 |[],s,k,_,h,h'=>⟨h,h'⟩
 |x::l,s,k,hx,h,h'=>by
  have hM:M≤M*5^k:=Nat.le_mul_of_pos_right _ (Nat.pow_pos (ltb rfl))
  have h1:(s.2*root+x).natAbs≤M*5^(k+1):=by
   have a1:=Int.natAbs_add_le (s.2*root) x
   rw[Int.natAbs_mul] at a1
   have a2:s.2.natAbs*root.natAbs≤(M*5^k)*4:=Nat.mul_le_mul h hr
   have a3:=hx x B9
   show Nat.pow_succ;refine rL (Nat.mul_assoc ..) ?_;lia
  have h2:∀y∈(pI root s x).1,y.natAbs≤M*5^(k+1):=by
   intro y hy
   rcases Cb.mp hy with hy|hy
   ·show hy;exact h1
   ·have:=h' y hy
    refine B4 this (Nat.mul_le_mul_left _ (Cp (ltb rfl) ((Cw _ _))))
  have:=gp hr (l:=l) (s:=pI root s x) (k:=k+1) (λy hy=>hx y (B6 _ hy)) h1 h2
  show Cx;show Ch;show(show k+(l.length+1)=k+1+l.length from Eq.symm (Nat.succ_add_eq_add_succ _ _))
  exact this
theorem BH{k:Nat}(h:k≤6):5^k≤2^14:=B4 (Cp (ltb rfl) h) (Mine.Lake.leb rfl)
theorem nU{e k:Nat}(h:k≤6):2^e*5^k≤2^(e+14):=by
 have h1:=BH h
 have h2:2^(e+14)=2^e*2^14:=Nat.pow_add 2 e 14
 show h2
 exact Nat.mul_le_mul_left _ h1
theorem fF(row:List Int)(root:Int):(iE row root).length=row.length-1:=by
 unfold iE
 show List.length_drop;show kh;simp
theorem RI.lower{row:List Int}{root:Int}(h:RI row)(h2:2<row.length)(hr:root.natAbs≤4):RI (iE row root):=by
 have hb:=gp hr (l:=row.reverse) (s:=([],0)) (k:=0) (M:=2^(3+14*(6-row.length))) (λx hx=>h.3 x (List.mem_reverse.mp hx)) (Mine.Lake.leb rfl) (by simp)
 refine⟨by show fF;exact Nat.le_of_lt (Nat.lt_sub_of_add_lt h2),by show fF;have:=h.2;exact Nat.le_succ_of_le (Nat.sub_le_of_le_add this),λx hx=>?_⟩
 have:=hb.2 x (List.mem_of_mem_drop hx)
 have h3:=h.2
 have h4:=nU (e:=3+14*(6-row.length)) (k:=0+row.reverse.length) (by show List.length_reverse;exact B4 (Nat.add_le_add_left h3 _) (Cj _))
 show fF
 have h5:3+14*(6-(row.length-1))=3+14*(6-row.length)+14:=by lia
 show h5
 exact B4 this h4
theorem RI.fit{row:List Int}(h:RI row)(h2:2≤row.length):∀x∈row,Mine.Lake.fit x=true:=λx hx=>by
 have:=h.3 x hx
 refine aA.fit (m:=61) ?_ (leb rfl)
 unfold aA
 refine Ck this ?_
 exact Nat.pow_lt_pow_right (ltb rfl) (by omega (config:={}))
theorem RI.fits{row:List Int}{root:Int}(h:RI row)(h2:2<row.length)(hr:root.natAbs≤4)(dn rs:List Int)(e:row.reverse=dn++rs):Mine.Lake.fit (dn.foldl (pI root) ([],0)).2=true:=by
 have hb:=gp hr (l:=dn) (s:=([],0)) (k:=0) (M:=2^(3+14*(6-row.length))) (λx hx=>h.3 x (List.mem_reverse.mp (by show e;exact List.mem_append_left _ hx))) (Mine.Lake.leb rfl) (by simp)
 refine aA.fit (m:=100) ?_ (leb rfl)
 unfold aA
 refine Ck hb.1 ?_
 have hl:dn.length≤6:=by
  have:=congrArg List.length e
  simp at this
  have:=h.2;lia
 refine Ck (nU (k:=0+dn.length) ((B4 (Nat.add_le_add_left hl _) (Cj _)))) ?_
 exact Nat.pow_lt_pow_right (ltb rfl) (by omega (config:={}))
theorem ro{root:Int}{k:Nat}(hr:root.natAbs≤4)(hk:k≤6):Mine.Lake.fit (root^k)=true:=by
 refine aA.fit (m:=20) ?_ (leb rfl)
 unfold aA
 show Int.natAbs_pow
 refine Ck (Nat.pow_le_pow_left hr k) ?_
 exact Ck (Cp (ltb rfl) hk) (Mine.Lake.leb rfl)
theorem om(root:Int):∀(row:List Int) (k:Nat),o2 ((eh k (il row)).filterMap (λv=>match v with|.tup [.int p,.int x]=>some (V.int (x*root^p.toNat))|_=>none))=some (dz root k row)
 |[],k=>rfl
 |x::r,k=>by
  show(show il (x::r)=.int x::il r from rfl);show dt;show List.filterMap_cons
  simp only[Int.toNat_natCast]
  unfold o2 dz
  show om root r (k+1);rfl
theorem Ag{sc:Scope}:True:=trivial
def dK(C:CH)(c:Nat)(F:List (List Int)):Prop:=∃cs,And3 (Has C c (.list (cl cs))) (PCs C cs F) (∀d∈cs,d≠c)
theorem dK.grow{C':CH}{c:Nat}{F:List (List Int)}(h:dK C c F)(g:az C C'):dK C' c F:=by refine cv h λcs h1 h2 h3=>?_;exact iEa3 cs (h1.grow g) (h2.grow g) h3
theorem PCs.snoc{cs:List Nat}{F:List (List Int)}{d:Nat}{l:List Int}(h:PCs C cs F)(hd:Has C d (.list (il l))):PCs C (cs++[d]) (F++[l]):=by
 refine⟨by simp[h.1],λi e he=>?_⟩
 by_cases hi:i<cs.length
 ·rw[List.getElem?_append_left hi] at he
  have:=h.2 i e he
  show Ci;show(List.getElem?_append_left (by refine rL (h.1 ..) ?_;exact hi));refine rL (Ci ..) ?_;exact this
 ·rw[List.getElem?_append_right ((Cm hi))] at he
  have hi0:i=cs.length:=by
   have:=(List.getElem?_eq_some_iff.mp he).1
   simp at this;lia
  subst hi0
  simp at he
  subst he
  show Ci;show h.1;show List.getElem?_append_right (Cj _)
  simpa using hd
theorem PCs.but{C':CH}{cs:List Nat}{F:List (List Int)}{c:Nat}(h:PCs C cs F)(g:ak c C C')(hn:∀d∈cs,d≠c):PCs C' cs F:=⟨h.1,λi d e=>(h.2 i d e).but g (hn d (List.mem_of_getElem? e))⟩
theorem xT{wh:Wh}{sc:Scope}{σ:Env}{p:Pos}{t b o:Expr}{T:V→CH→Prop}(v:V)(h:Run ((lev wh n).test sc t σ) C λc C1=>And3 (c=true→Run ((lev wh n).expr sc b σ) C1 λw C2=>w=v∧C2=C1) (c=false→Run ((lev wh n).expr sc o σ) C1 λw C2=>w=v∧C2=C1) (T v C1)):
  Run ((lev wh (n+1)).expr sc (.IfExp t b o p) σ) C T:=
 Bb (h.mono λc C1 qz=>by obtain⟨a,b,d⟩:=qz;exact⟨λe=>(a e).mono λw C2 ⟨e1,e2⟩=>by show e1;show e2;exact d,λe=>(b e).mono λw C2 ⟨e1,e2⟩=>by show e1;show e2;exact d⟩)
theorem wq{l:List Int}(h:1≤l.length)(hl:l.length≤100000):nth (il l) (-1)=some (.int (l.getD (l.length-1) 0)):=by
 unfold nth
 show(if_neg (by show bD;exact Nat.not_lt_of_le hl));show(if_neg (by lia));show(if_pos (by show bD;lia));show bD;show(show((-1:Int)+(l.length:Nat)).toNat=l.length-1 from by show Int.add_comm;exact Int.toNat_sub _ 1);show vh;show List.getElem?_eq_getElem ((Nat.sub_lt (Nat.lt_of_succ_le h) (Nat.lt_succ_self _)));show Ci;show List.getElem?_eq_getElem ((Nat.sub_lt (Nat.lt_of_succ_le h) (Nat.lt_succ_self _)));rfl
theorem m7(size:Nat):range (0-(size:Int)) ((size:Int)+1)=il (roots size):=by
 unfold range roots il
 show List.map_map;show(show((size:Int)+1-(0-(size:Int))).toNat=2*size+1 from by lia);rfl
theorem sE{size:Nat}{r:Int}(h:r∈roots size)(hs:size≤4):r.natAbs≤4:=by
 refine oEA (Cl.mp h) λk hk zr0=>?_;subst zr0
 rw[List.mem_range] at hk
 lia
theorem qr{cr:Nat}{row:List Int}(hr:Has C cr (.list (il row)))(hR:RI row)(h2:2≤row.length)(h0:(row.getD 0 0).natAbs≤4)
  (q:∀c C',az C C'→aE C c→dK C' c (sr row)→Q (.cell c) C'):Run ((lev whC (n+80)).call "_law_split" [.cell cr]) C Q:=by
 have hl6:=hR.2
 have hsz:(if row.getD 0 0≠0 then(row.getD 0 0).natAbs else 3)≤4:=by split<;>(first|exact leb rfl|lia)
 unfold sr at q
 simp only at q
 generalize hsize:(if row.getD 0 0≠0 then(row.getD 0 0).natAbs else 3)=size at q hsz
 refine aS ?_
 x_close
 apply an
 intro c0 C0 g0 f0 h00
 x_close
 have hr0:=hr.grow g0
 have hn0:nth (il row) 0=some (.int (row.getD 0 0)):=nI (l:=row) (i:=0) ((Nat.lt_of_succ_le (Nat.le_of_succ_le h2))) ((B4 hl6 (B5 _ _)))
 apply xT (.int (size:Nat))
 refine dR ?_;x_close
 apply br hr0 hn0
 conv=>whnf
 refine⟨λhc=>?_,λhc=>?_,?_⟩
 ·have hc:row.getD 0 0≠0:=by simpa using hc
  refine aj ?_;x_close
  apply br hr0 hn0
  refine vE ?_;refine(?_:_∧_)
  rw[if_pos hc] at hsize
  exact⟨by show hsize;rfl,rfl⟩
 ·have hc:row.getD 0 0=0:=by simpa using hc
  refine aj ?_;refine(?_:_∧_)
  rw[if_neg (not_not_intro hc)] at hsize
  exact⟨by refine rL (hsize ..) ?_;rfl,rfl⟩
 x_close
 apply bR (rfl)
 refine aZ rfl ?_;refine jq rfl ?_;conv=>whnf
 refine⟨_,_,rfl,rfl,by unfold jp;rw (config:={}) [Ca,Ca,Ca];simp only[decide_eq_true_eq];lia,?_⟩
 show m7
 refine cj .none (λvs σ C'=>Ex3 λdn rs cr=>And10 (roots size=dn++rs) (vs=il rs) (af "row" σ=some (.cell cr)) (af "found" σ=some (.cell c0)) (az C C') (Has C' cr (.list (il (dn.foldl splitStep (row,[])).1))) (dK C' c0 (dn.foldl splitStep (row,[])).2) (RI (dn.foldl splitStep (row,[])).1) (2≤(dn.foldl splitStep (row,[])).1.length) ((dn.foldl splitStep (row,[])).1.length+(dn.foldl splitStep (row,[])).2.length≤6)) ?_ ?_ ?_ ?_
 ·exact nN [] (roots size) cr rfl rfl (ac rfl (ac rfl ab)) (ac rfl ab) g0 hr0 ⟨[],h00,⟨rfl,λi d e=>by simp at e⟩,λd h=>by cases h⟩ hR h2 (by simpa using hl6)
 ·intros;exact .none
 ·rintro v r σ C' ⟨dn,rs,cr,e1,e2,k1,k2,gC,hcr,hF,hI,hlen,hsum⟩
  cases rs with
  |nil=>injection e2
  |cons root rs=>
   injection e2 with e2 e2'
   show e2
   have hroot:root.natAbs≤4:=sE (by show e1;exact List.mem_append_cons_self) hsz
   refine iEA _ rfl ?_
   generalize hst:dn.foldl splitStep (row,[])=s at hcr hF hI hlen hsum
   refine aP ?_;x_close
   apply iI (k:=s.1.length) (I:=λk σ C'=>Ex4 λf row' F' cr=>And12 (af "row" σ=some (.cell cr)) (af "found" σ=some (.cell c0)) (af "root" σ=some (.int root)) (row'.length=k) (k≤f) (fE root f row' F'=splitStep s root) (az C C') (Has C' cr (.list (il row'))) (dK C' c0 F') (RI row') (2≤row'.length) (row'.length+F'.length≤6))
   ·exact⟨10,s.1,s.2,cr,‹_›,‹_›,ab,rfl,by have:=hI.2;exact B4 this (Mine.Lake.leb rfl),rfl,gC,hcr,hF,hI,hlen,hsum⟩
   ·rintro k σ C' ⟨f,row',F',cr,k1,k2,k3,rfl,hf,hw,gC,hcr,hF,hI,hlen,hsum⟩
    have stop:¬(2<row'.length∧dz root 0 row'=0)→(row',F')=splitStep s root:=by
     intro hno
     refine rL (hw ..) ?_
     cases f with
     |zero=>rfl
     |succ f=>unfold fE;show if_neg hno;rfl
    have fin:∀{σ:Env}{C':CH},af "row" σ=some (.cell cr)→af "found" σ=some (.cell c0)→az C C'→Has C' cr (.list (il row'))→dK C' c0 F'→(row',F')=splitStep s root→
      Ex3 λdn rs' cr=>And10 (roots size=dn++rs') (r=il rs') (af "row" σ=some (.cell cr)) (af "found" σ=some (.cell c0)) (az C C') (Has C' cr (.list (il (dn.foldl splitStep (row,[])).1))) (dK C' c0 (dn.foldl splitStep (row,[])).2) (RI (dn.foldl splitStep (row,[])).1) (2≤(dn.foldl splitStep (row,[])).1.length) ((dn.foldl splitStep (row,[])).1.length+(dn.foldl splitStep (row,[])).2.length≤6):=by
     intro σ C' a1 a2 a3 a4 a5 a6
     have e3:(dn++[root]).foldl splitStep (row,[])=(row',F'):=by
      show List.foldl_append;show hst;exact a6.symm
     refine nN (dn++[root]) rs cr (by show e1;exact Co _ _ _) e2' a1 a2 a3 ?_ ?_ ?_ ?_ ?_<;>show e3<;>assumption
    refine dR ?_;refine ag ‹_› ?_;x_close
    apply dT hcr
    refine(?_:_∧_)
    show bD
    refine⟨λhc=>?_,λhc=>?_⟩
    ·refine⟨λxx=>?_,cFt⟩
     have hno:¬2<row'.length:=by
      have:¬(2<(row'.length:Int)):=by simpa using hc
      lia
     conv=>whnf
     exact fin k1 k2 gC hcr hF (stop λh=>hno h.1)
    ·have hyes:2<row'.length:=by
      have:(2<(row'.length:Int)):=by simpa using hc
      lia
     x_close
     refine iy (vs:=eh 0 (il row')) (R:=λv=>match v with|.tup [.int p,.int x]=>some (V.int (x*root^p.toNat))|_=>none) (Bool.and_self _) ?_ (by show qc;show bD;have:=hI.2;exact B4 this (Mine.Lake.leb rfl)) ?_ ?_
     ·refine aZ rfl ?_;refine cK rfl rfl ?_;refine aj ?_;refine ag ‹_› ?_;conv=>whnf
      right
      exact se cr _ rfl hcr rfl (.has hcr) (az.refl _)
     ·intro v hv σ' C5 hσ g5
      refine oEA (oJ hv) λi hi zr0=>?_;show zr0
      rw[bD] at hi
      have hx:(il row').getD i .nn=.int (row'.getD i 0):=by
       unfold il
       show Ci;show List.getElem?_map;show dG (d:=0) hi;rfl
      show hx
      have hro:=(hσ "root" (rfl)).trans (show _=some (V.int root) by assumption)
      have hl6:=hI.2
      refine iEa3 _ rfl (λy hy=>?_) ?_
      ·show aI (rfl) hy;show aI (rfl) hy;rfl
      ·apply bg
       refine⟨az.refl _,λxx=>?_,cTf⟩
       refine aj ?_;refine ag ‹_› ?_;x_close
       apply AU ⟨by exact Int.natCast_nonneg _,by lia,(B7 (Nat.lt_succ_of_le hroot) (B5 _ _))⟩
       show Cv
       apply cJ (hI.fit hlen _ (dk hi)) (ro hroot ((B4 (Nat.le_of_lt (Nat.add_lt_add_left hi _)) (B4 (Nat.add_le_add_left hl6 _) (Cj _)))))
       refine⟨?_,az.refl _⟩
       change some (V.int (row'.getD i 0*root^(((0+i:Nat):Int).toNat)))=_
       show Cv;rfl
     intro c6 C6 g6 f6 h6
     x_close
     apply zC h6 (om root row' 0)
     refine(?_:_∧_)
     have hcr6:=hcr.grow g6
     have hF6:=hF.grow g6
     refine⟨λhz=>?_,λhz=>?_⟩
     ·refine⟨λxx=>?_,cFt⟩
      have hz:dz root 0 row'≠0:=by simpa using hz
      conv=>whnf
      exact fin k1 k2 (gC.trans g6) hcr6 hF6 (stop λh=>hz h.2)
     ·have hz:dz root 0 row'=0:=by simpa using hz
      refine(?_:_∧_)
      refine⟨cTf,λxx=>?_⟩
      refine cv hF6 λcs hc1 hc2 hc3=>?_
      refine aP ?_;x_close
      apply de ‹_› ‹_› hc1 (by change aH true _=true;assumption)
      refine bM ?_;refine ag ‹_› ?_;x_close
      apply an
      intro c7 C7 g7 f7 h7
      refine(?_:∃_,_)
      have hc17:=hc1.grow g7
      refine iEa3 _ hc17 rfl ?_
      apply gX hc17 (by unfold cl;show B8;show hc2.1;exact B4 (Nat.le_of_add_left_le hsum) (B5 _ _))
      intro C8 g8 h8 l8
      have h8:Has C8 c0 (.list (cl (cs++[c7]))):=by unfold cl at h8 ⊢;show List.map_append;exact h8
      have n7:c7≠c0:=λe=>(hc1.ne f7) e.symm
      have ncr:cr≠c0:=by
       intro e
       subst e
       refine oE hc1 λv1 e1=>?_
       refine oE hcr6 λv2 e2=>?_
       rw[e1] at e2
       injection e2 with e2
       injection e2 with e2 e3
       injection e2 with e2
       induction cs using List.casesOn with
       |nil=>
        have:=congrArg List.length e2
        rw[bD] at this
        simp[cl] at this
        lia
       |cons a cs=>
        induction row' using List.casesOn with
        |nil=>injection e2
        |cons x row'=>injection e2 with zx zy;injection zx
      have gC8:az C C8:=(((gC.trans g6).trans g7).but.trans g8).fresh f0
      have hcr8:=(hcr6.grow g7).but g8 ncr
      refine ag ‹_› ?_;refine ag ‹_› ?_;x_close
      apply qJ hcr8 (fD (by lia)) (λdn rs e=>hI.fits hyes hroot dn rs e) (by have:=hI.2;exact B4 this (Mine.Lake.leb rfl))
      intro c9 C9 g9 f9 h9
      refine(?_:∃_,_)
      cases f with
      |zero=>lia
      |succ f=>
       unfold fE at hw
       rw[if_pos ⟨hyes,hz⟩] at hw
       have hll:=fF row' root
       refine⟨_,?_,f,iE row' root,F'++[[0-root,1]],c9,ab,‹_›,‹_›,rfl,?_,hw,gC8.trans g9,h9,?_,hI.lower hyes hroot,?_,?_⟩
       ·lia
       ·exact B4 (Cg hll) (Nat.sub_le_of_le_add hf)
       ·refine dK.grow ⟨cs++[c7],h8,?_,?_⟩ g9
        ·exact PCs.snoc ((hc2.grow g7).but g8 hc3) ((show Has C7 c7 (.list (il [0-root,1])) from h7).but g8 n7)
        ·intro d hd
         rcases Cz.mp hd with hd|hd
         ·exact hc3 d hd
         ·simp at hd;show hd;exact n7
       ·lia
       ·show Cf;simp;lia
 rintro σ C' ⟨dn,rs,cr,e1,e2,k1,k2,gC,hcr,hF,hI,hlen,hsum⟩
 cases rs with
 |cons e rs=>injection e2
 |nil=>
 rw[Cn] at e1
 subst e1
 generalize (roots size).foldl splitStep (row,[])=s at q hcr hF hI hlen hsum
 have hl6:=hI.2
 x_close
 apply xT (.int (if 0<s.1.getD (s.1.length-1) 0 then 1 else -1))
 refine dR ?_;refine ag ‹_› ?_;x_close
 apply br hcr (wq ((Nat.le_of_succ_le hlen)) ((B4 hl6 (B5 _ _))))
 conv=>whnf
 refine⟨λhc=>?_,λhc=>?_,?_⟩
 ·refine aj ?_;refine(?_:_∧_)
  show(if_pos (by simpa using hc))
  exact⟨rfl,rfl⟩
 ·refine aj ?_;refine(?_:_∧_)
  show(if_neg (by simpa using hc))
  exact⟨rfl,rfl⟩
 generalize hsg:(if 0<s.1.getD (s.1.length-1) 0 then(1:Int) else -1)=sign at q
 have hsgn:sign.natAbs≤4:=by refine rL (hsg ..) ?_;split<;>exact Mine.Lake.leb rfl
 refine ag ‹_› ?_;x_close
 apply Bb
 refine dR ?_;refine ag ‹_› ?_;x_close
 apply dT hcr
 refine(?_:_∧_)
 show bD
 have h1l:1<s.1.length:=Nat.lt_of_succ_le hlen
 refine⟨λhc=>?_,λhc=>?_⟩
 ·refine aj ?_;x_close
  refine iy (vs:=il s.1) (R:=λv=>match v with|.int x=>some (V.int (x*sign))|_=>none) (Bool.and_self _) ?_ (by show bD;exact B4 hl6 (B5 _ _)) ?_ ?_
  ·refine aK rfl ?_;refine aj ?_;refine ag ‹_› ?_;x_close
   apply cE hcr
   exact⟨rfl,.has hcr,az.refl _⟩
  ·intro v hv σ' C5 hσ g5
   refine oEA (Cl.mp hv) λx hx zr0=>?_;subst zr0
   have hsi:=(hσ "sign" (rfl)).trans (show _=some (V.int sign) from ab)
   refine iEa3 _ rfl (λy hy=>aI (rfl) hy) ?_
   apply bg
   refine⟨az.refl _,λxx=>?_,cTf⟩
   refine aj ?_;refine ag ‹_› ?_;x_close
   apply cJ (hI.fit hlen _ hx) (fD (by omega (config:={})))
   exact⟨rfl,az.refl _⟩
  intro c6 C6 g6 f6 h6
  x_close
  apply an
  intro c7 C7 g7 f7 h7
  refine cv hF λcs hc1 hc2 hc3=>?_
  apply q6 ((hc1.grow g6).grow g7) h7
  ·unfold cl;show Cf;show B8;show hc2.1;simp;exact B4 (Nat.le_of_add_left_le hsum) (B5 _ _)
  apply an
  intro c8 C8 g8 f8 h8
  conv=>whnf
  have g68:=g6.trans (g7.trans g8)
  refine q c8 C8 (gC.trans g68) (f8.grow (gC.trans (g6.trans g7))) ?_
  show if_pos h1l
  have h8:Has C8 c8 (.list (cl (cs++[c6]))):=by unfold cl at h8 ⊢;show List.map_append;exact h8
  have h6':Has C6 c6 (.list (il (s.1.map λx=>x*sign))):=by
   have:(il s.1).filterMap (λv=>match v with|.int x=>some (V.int (x*sign))|_=>none)=il (s.1.map λx=>x*sign):=by
    unfold il
    generalize s.1=l
    induction l with
    |nil=>rfl
    |cons a l ih=>show Cc;show List.filterMap_cons;show ih;rfl
   rw[this] at h6;exact h6
  refine iEa3 (cs++[c6]) h8 (PCs.snoc (hc2.grow g68) (h6'.grow (g7.trans g8))) ?_
  intro d hd
  rcases Cz.mp hd with hd|hd
  ·refine oE (List.mem_iff_getElem?.mp hd) λi hi=>?_
   exact(((hc2.2 i d hi).grow g6).grow g7).ne f8
  ·simp at hd;show hd;exact(h6.grow g7).ne f8
 ·exfalso
  have:¬(1<(s.1.length:Int)):=by simpa using hc
  lia
section
variable {C:CH}
theorem uR(k:Nat)(a b:Rat):eqv C (k+2) (rv a) (rv b)=some (decide (a=b)):=by
 change some (decide (a.num=b.num)&&(decide ((a.den:Int)=b.den)&&true))=_
 congr 1
 by_cases h:a=b
 ·subst h;simp
 ·have:¬(a.num=b.num∧(a.den:Int)=b.den):=λqz=>by obtain⟨h1,h2⟩:=qz;exact h (Rat.ext h1 (by lia))
  simp only[Bool.and_true,h,decide_false]
  show propext (Bool.and_eq_false_iff ..);show propext (decide_eq_false_iff_not ..);show propext (decide_eq_false_iff_not ..)
  by_cases h1:a.num=b.num
  ·right;exact λh2=>this ⟨h1,h2⟩
  ·left;exact h1
theorem sZ{k:Nat}{B:PE}(nB:(keys B).Nodup):∀{A:PE},(∀e∈A,e∈B)→eqd (eqv C (k+2)) (enc B) (enc A)=some true:=λ{A}=>by
 induction A with
 |nil=>
  intro _
  exact rfl
 |cons e A ih'=>
  intro h
  change eqd (eqv C (k+2)) (enc B) ((kt e.1,rv e.2)::enc A)=_
  unfold eqd
  show enc_lk;show aw nB (k:=e.1) (u:=e.2) (h e B9)
  simp only[Option.map_some]
  show uR;show decide_eq_true rfl
  exact ih' λd hd=>h d (B6 _ hd)
theorem mL(A B:PE):bL (enc A) (enc B)=true:=by
 induction A using List.casesOn with
 |nil=>induction B using List.casesOn with
  |nil=>rfl
  |cons e B=>exact ar e.1 (e::B)
 |cons e A=>
  change (am (kt e.1) (enc (e::A))&&am (kt e.1) (enc B))=true
  show ar;show ar;rfl
theorem gY{k a b:Nat}{A B:PE}(ha:Has C a (.dict (enc A)))(hb:Has C b (.dict (enc B)))(h:A.Perm B)(nB:(keys B).Nodup):eqv C (k+3) (.cell a) (.cell b)=some true:=by
 change (match at? C a,at? C b with
    |some (.list xs),some (.list ys)=>if xs.length=ys.length then eqs (eqv C (k+2)) xs ys else some false
    |some (.dict es),some (.dict fs)=>if bL es fs then(if es.length=fs.length then eqd (eqv C (k+2)) fs es else some false) else none
    |_,_=>none)=_
 show fI ha;show fI hb
 simp only
 show if_pos (mL A B);show(if_pos (by show aV;show aV;show h.length_eq;rfl))
 exact sZ nB λe he=>h.mem_iff.mp he
theorem ye{k:Nat}(l:List Int):eqs (eqv C (k+1)) (il l) (il l)=some true:=by
 induction l with
 |nil=>rfl
 |cons x l ih=>exact uT (congrArg some (decide_eq_true rfl)) ih
theorem zi{k a b:Nat}{l:List Int}(ha:Has C a (.list (il l)))(hb:Has C b (.list (il l))):eqv C (k+2) (.cell a) (.cell b)=some true:=by
 change (match at? C a,at? C b with
    |some (.list xs),some (.list ys)=>if xs.length=ys.length then eqs (eqv C (k+1)) xs ys else some false
    |some (.dict es),some (.dict fs)=>if bL es fs then(if es.length=fs.length then eqd (eqv C (k+1)) fs es else some false) else none
    |_,_=>none)=_
 show fI ha;show fI hb
 simp only[if_true]
 exact ye l
theorem sD{k:Nat}{ds:List Nat}:∀{ds':List Nat}{ps:List Pr},aU C ds ps→aU C ds' ps→(∀p∈ps,(keys (pe p)).Nodup)→eqs (eqv C (k+3)) (cl ds) (cl ds')=some true:=by
 induction ds with
 |nil=>
  intro ds' ps h h' hp
  induction ds' using List.casesOn with
  |nil=>rfl
  |cons _ _=>exact nomatch h'.1.trans h.1.symm
 |cons d ds ih=>
  intro ds' ps h h' hp
  induction ds' using List.casesOn with
  |nil=>exact nomatch h'.1.trans h.1.symm
  |cons d' ds'=>
  induction ps using List.casesOn with
  |nil=>exact nomatch h.1
  |cons p ps=>
  refine oEA (h.2 0 d p rfl rfl) λP p1 p2=>?_
  refine oEA (h'.2 0 d' p rfl rfl) λP' q1 q2=>?_
  have hnd:(keys P').Nodup:=((q1.map (λe:Mo×Rat=>e.1)).nodup_iff).mpr (hp p B9)
  exact uT (gY (k:=k) p2 q2 (p1.trans q1.symm) hnd) (ih ⟨Nat.succ.inj h.1,λi d p a b=>h.2 (i+1) d p a b⟩ ⟨Nat.succ.inj h'.1,λi d p a b=>h'.2 (i+1) d p a b⟩ λp hp'=>hp p (B6 _ hp'))
theorem iG{α β:Type}{f:β→α}:∀{l l':List α},l'.Perm l→∀zs:List β,zs.map f=l→∃zs':List β,zs'.Perm zs∧zs'.map f=l':=by
 intro l l' h
 induction h with
 |nil=>intro zs e;exact iEA zs (.refl _) e
 |cons a h ih=>
  intro zs e
  induction zs using List.casesOn with
  |nil=>injection e
  |cons z zs=>
   injection e with e1 e2
   refine oEA (ih zs e2) λzs' h1 h2=>?_
   exact iEA (z::zs') (h1.cons z) (by show Cc;show e1;show h2;rfl)
 |swap a b l=>
  intro zs e
  induction zs using List.casesOn with
  |nil=>injection e
  |cons x zs=>
   injection e with e1 e2
   induction zs using List.casesOn with
   |nil=>injection e2
   |cons y zs=>
   injection e2 with e2 e3
   exact iEA (y::x::zs) (.swap ..) (by show Cc;show Cc;show e1;show e2;show e3;rfl)
 |trans h1 h2 ih1 ih2=>
  intro zs e
  refine oEA (ih2 zs e) λz1 p1 e1=>?_
  refine oEA (ih1 z1 e1) λz2 p2 e2=>?_
  exact iEA z2 (p2.trans p1) e2
theorem PCs.perm{cs cs':List Nat}{L:List (List Int)}(h:PCs C cs L)(hp:cs'.Perm cs):∃L',L'.Perm L∧PCs C cs' L':=by
 have hz:(cs.zip L).map (·.1)=cs:=by
  rw[List.map_fst_zip];show h.1;exact Cj _
 have hz2:(cs.zip L).map (·.2)=L:=by
  rw[List.map_snd_zip];show h.1;exact Cj _
 refine oEA (iG hp (cs.zip L) hz) λzs h1 h2=>?_
 refine vb (zs.map (·.2)) (by have:=h1.map (·.2);rw[hz2] at this;exact this) (by refine rL (h2 ..) ?_;show B8;show B8;rfl) (λi d e=>?_)
 rw[←h2,List.getElem?_map] at e
 cases hi:zs[i]? with
 |none=>rw[hi] at e;exact cNo e
 |some z=>
  rw[hi] at e
  refine cS1 e ?_
  have hm:z∈cs.zip L:=h1.mem_iff.mp (List.mem_of_getElem? hi)
  refine oE (List.mem_iff_getElem?.mp hm) λj hj=>?_
  rw[List.getElem?_zip_eq_some] at hj
  have:=h.2 j z.1 hj.1
  rw[Ci,hj.2] at this
  show Ci;show List.getElem?_map;show hi
  exact this
theorem iZ:∀{l m:List Pr},(∀p∈l,p∈aG)→l.Perm m→l.Pairwise (λa b=>rkp a≤rkp b)→m.Pairwise (λa b=>rkp a≤rkp b)→l=m
 |[],m,_,h,_,_=>h.symm.eq_nil.symm▸rfl
 |a::l,[],_,h,_,_=>absurd h.eq_nil (List.cons_ne_nil _ _)
 |a::l,b::m,hp,h,h1,h2=>by
  rw[List.pairwise_cons] at h1 h2
  have hab:a=b:=by
   rcases Cb.mp (h.mem_iff.mp B9) with e|hm
   ·exact e
   ·rcases Cb.mp (h.mem_iff.mpr (B9 (a:=b) (l:=m))) with e|hm'
    ·exact e.symm
    ·have x1:=h2.1 a hm
     have x2:=h1.1 b hm'
     exact nu a (hp a B9) b (hp b (B6 _ hm')) ((Nat.le_antisymm x2 x1))
  subst hab
  show(iZ (λp h=>hp p (B6 _ h)) (List.Perm.cons_inv h) h1.2 h2.2);rfl
theorem lR{k a b:Nat}{ds ds':List Nat}{ps:List Pr}(ha:Has C a (.list (cl ds)))(hb:Has C b (.list (cl ds')))(h:aU C ds ps)(h':aU C ds' ps)(hp:∀p∈ps,(keys (pe p)).Nodup):eqv C (k+4) (.cell a) (.cell b)=some true:=by
 change (match at? C a,at? C b with
    |some (.list xs),some (.list ys)=>if xs.length=ys.length then eqs (eqv C (k+3)) xs ys else some false
    |some (.dict es),some (.dict fs)=>if bL es fs then(if es.length=fs.length then eqd (eqv C (k+3)) fs es else some false) else none
    |_,_=>none)=_
 show fI ha;show fI hb
 simp only
 show(if_pos (by unfold cl;show B8;show B8;show h.1;show h'.1;rfl))
 exact sD h h' hp
theorem zn{b d l:Nat}{i s:Int}{r:List Int}(h:Has C b (.list [.cell l,.int i,.int s]))(h':Has C d (.list (il r))):d≠b:=by
 intro e;subst e
 obtain⟨v1,h⟩:=h
 obtain⟨v2,h'⟩:=h'
 rw[h] at h'
 injection h' with h'
 injection h' with h' h''
 injection h' with h'
 induction r using List.casesOn with
 |nil=>injection h'
 |cons x r=>injection h' with zx zy;injection zx
theorem aU.perm{cs cs':List Nat}{ps:List Pr}(h:aU C cs ps)(hp:cs'.Perm cs):∃qs:List Pr,qs.Perm ps∧aU C cs' qs:=by
 have hz:(cs.zip ps).map (·.1)=cs:=by
  rw[List.map_fst_zip];show h.1;exact Cj _
 have hz2:(cs.zip ps).map (·.2)=ps:=by
  rw[List.map_snd_zip];show h.1;exact Cj _
 refine oEA (iG hp (cs.zip ps) hz) λzs h1 h2=>?_
 refine vb (zs.map (·.2)) (by have:=h1.map (·.2);rw[hz2] at this;exact this) (by refine rL (h2 ..) ?_;show B8;show B8;rfl) (λi d p e e'=>?_)
 rw[←h2,List.getElem?_map] at e
 rw[List.getElem?_map] at e'
 cases hi:zs[i]? with
 |none=>rw[hi] at e;exact cNo e
 |some z=>
  rw[hi] at e e'
  refine cS1 e ?_;refine cS1 e' ?_
  have hm:z∈cs.zip ps:=h1.mem_iff.mp (List.mem_of_getElem? hi)
  refine oE (List.mem_iff_getElem?.mp hm) λj hj=>?_
  rw[List.getElem?_zip_eq_some] at hj
  exact h.2 j z.1 z.2 hj.1 hj.2
end
def bO(C:CH)(ds:List Nat)(ps:List Pr):Prop:=ds.length=ps.length∧∀(i d:Nat) (p:Pr),ds[i]?=some d→ps[i]?=some p→Has C d (.dict (enc (pe p)))
theorem bO.forms{ds:List Nat}{ps:List Pr}(h:bO C ds ps):aU C ds ps:=⟨h.1,λi d p a b=>⟨_,.refl _,h.2 i d p a b⟩⟩
theorem bO.grow{C':CH}{ds:List Nat}{ps:List Pr}(h:bO C ds ps)(g:az C C'):bO C' ds ps:=⟨h.1,λi d p a b=>(h.2 i d p a b).grow g⟩
theorem bO.box{C':CH}{ds:List Nat}{ps:List Pr}{b l:Nat}{xs:List Int}(h:bO C ds ps)(hb:cn C b l xs)(g:ak b C C'):bO C' ds ps:=⟨h.1,λi d p x y=>(h.2 i d p x y).but g λe=>by
 refine kN hb λi' s h1 xx=>?_
 exact h1.neLD (h.2 i d p x y) e.symm⟩
noncomputable def Wp(ps:List Pr):PE:=ps.foldl (λW p=>eH W (pe p)) [((0,0),1)]
noncomputable def pieces(w:Nat)(p:Pr):List (List Int):=sr (gO (pe p) w)
structure PrimeOk(w:Nat)(p:Pr):Prop where
 nd:(keys (pe p)).Nodup
 un:(dW (q9 (pe p) w) w).Perm (pe p)
 pt:q9 (pe p) w=gO (pe p) w
 ri:RI (gO (pe p) w)
 l2:2≤(gO (pe p) w).length
 r0:((gO (pe p) w).getD 0 0).natAbs≤4
 sz:sizeP w (pe p)≤10000
 ip:eP 4 (pe p)
structure WOk(W:PE)(p:Pr):Prop where
 nd:(keys W).Nodup
 b:∃a,eP a W∧(pe p).length*(W.length*(a*4))+a+4+a*4<2^4000
 l:(pe p).length*W.length≤10000
theorem PCs.append{cs ct:List Nat}{F G:List (List Int)}(h:PCs C cs F)(h':PCs C ct G):PCs C (cs++ct) (F++G):=by
 refine⟨by simp[h.1,h'.1],λi e he=>?_⟩
 by_cases hi:i<cs.length
 ·rw[List.getElem?_append_left hi] at he
  have:=h.2 i e he
  show Ci;show(List.getElem?_append_left (by refine rL (h.1 ..) ?_;exact hi));refine rL (Ci ..) ?_;exact this
 ·rw[List.getElem?_append_right ((Cm hi))] at he
  have:=h'.2 _ e he
  show Ci;show(List.getElem?_append_right (by refine rL (h.1 ..) ?_;exact Cm hi));refine rL (h.1 ..) ?_;refine rL (Ci ..) ?_;exact this
theorem nE:WholeOk [] where
 np:=List.nodup_nil
 l:=by simp
 fp:=λe h=>by cases h
 D:=⟨1,(λe h=>by cases h),by exact ltb rfl,Nat.one_lt_two_pow ((Nat.succ_ne_zero _))⟩
 t0:=λh=>absurd rfl h
 ts:=by
  have:(toldP [])⁻¹=0:=by decide +kernel
  show this
  exact⟨by change 0<2^4000;exact Nat.pow_pos (ltb rfl),by change 1<2^4000;exact Nat.one_lt_two_pow ((Nat.succ_ne_zero _))⟩
 ts':=by
  have:toldP []=0:=rfl
  show this
  exact⟨by change 0<2^8000;exact Nat.pow_pos (ltb rfl),by change 1<2^8000;exact Nat.one_lt_two_pow ((Nat.succ_ne_zero _))⟩
theorem nY{k a b:Nat}{q:Rat}{A B:PE}(ha:Has C a (.dict (enc A)))(hb:Has C b (.dict (enc B)))(h:A.Perm B)(nB:(keys B).Nodup):eqv C (k+4) (.tup [rv q,.cell a]) (.tup [rv q,.cell b])=some true:=by
 change (match eqv C (k+3) (rv q) (rv q),eqs (eqv C (k+3)) [.cell a] [.cell b] with
  |some p,some q=>some (p&&q)
  |_,_=>none)=_
 rw[uR (k+1),decide_eq_true rfl]
 change (match some true,(match eqv C (k+3) (.cell a) (.cell b),some true with
  |some p,some q=>some (p&&q)
  |_,_=>none) with
  |some p,some q=>some (p&&q)
  |_,_=>none)=_
 show gY ha hb h nB;rfl
structure LawOk(ps:List Pr):Prop where
 pr:∀p∈ps,PrimeOk (ps.length+1) p
 wo:∀dn p rs,ps=dn++p::rs→WOk (Wp dn) p
 pl:(ps.flatMap (pieces (ps.length+1))).length≤13
 rcm:∀L,L.Perm (ps.flatMap (pieces (ps.length+1)))→∃Inv,RecOk (ps.length+1) Inv ps∧Inv (Wp ps) L [] 1
 wn:And3 ((keys (Wp ps)).Nodup) (dU 4000 (Wp ps)) ((Wp ps).length≤10000)
 mul:∀(q:Rat) qs,RS 10 q→qs.Perm ps→∃Inv:PE→List Pr→Prop,And3 (Inv (if q=0 then[] else[((0,0),q)]) qs) (∀F p rs P,Inv F (p::rs)→P.Perm (pe p)→PopOk F P∧Inv (mD F P) rs) (∀F,Inv F []→F.Perm (if q=0 then[] else bA (λv=>v*q) (Wp ps)))
 who:∀q:Rat,RS 10 q→q≠0→WholeOk (bA (λv=>v*q) (Wp ps))∧aY (bA (λv=>v*q) (Wp ps))=(q,Wp ps)
theorem wR{xs:List Int}(hxs:xs.length≤63)(M:∀ps:List Pr,(∀p∈ps,p∈aG)→2≤ps.length→ps.length≤3→LawOk ps)(q:∀C',Q (.bool true) C'):Run ((lev whC (n+400)).call "law" [.fro xs]) C Q:=by
 refine aS ?_
 x_close
 apply zc (rfl) ab
 refine aj ?_;refine(?_:∃_,_)
 refine AF _ rfl (by simp) (by simp) (B4 hxs (B5 _ _)) ?_
 apply an
 intro l C1 g1 f1 h1
 x_close
 apply an
 intro b C2 g2 f2 h2
 x_close
 have h1':Has C1 l (.list (il (xs.take 40))):=h1
 have hb2:cn C2 b l (xs.take 40):=⟨0,12,h2,h1'.grow g2,by show List.length_take;exact B4 (Nat.min_le_right _ _) hxs,(Int.le_refl _),by simp,by simp,h1.ne f2⟩
 apply jY (Bool.and_self _)
 refine aZ rfl ?_;refine fm rfl ?_;refine aj ?_;x_close
 apply cu (m:=2) hb2 (ltb rfl)
 intro r C3 hr g3 hb3
 refine(?_:∃_,_)
 refine iEa3 _ rfl (by unfold jp;show Ca;show decide_eq_true_eq;show decide_eq_true_eq;lia) ?_
 show(show(2:Int)+(r:Int)=((2+r:Nat):Int) from by rfl)
 have hbC:aE C b:=f2.grow g1
 refine cj .none (λvs σ acc C'=>Ex3 λk ds ps=>And10 (k≤2+r) (vs=range (k:Nat) (2+r:Nat)) (af "box" σ=some (.cell b)) (acc=cl ds) (ps.length=k) (∀p∈ps,p∈aG) (ak b C3 C') (cn C' b l (xs.take 40)) (bO C' ds ps) (∀d∈ds,d≠b)) ?_ ?_ ?_ ?_
 ·exact nN 0 [] [] (by exact leb rfl) rfl ((gV (rfl)).trans ab) rfl rfl (λp h=>by cases h) (ak.refl _ _) hb3 ⟨rfl,λi d p e=>by simp at e⟩ (λd h=>by cases h)
 ·intros;exact .none
 ·rintro v rr σ acc C' ⟨k,ds,ps,k0,e1,e2,e3,e4,e5,gB,hbx,hP,hne⟩
  by_cases hk:k<2+r
  ·rw[eu hk] at e1
   injection e1 with e1 e1'
   subst e1
   refine iEA _ rfl ?_
   apply bg
   subst e3
   refine⟨λxx=>⟨by unfold cl;show B8;show hP.1;lia,?_⟩,cTf⟩
   refine aj ?_;refine ag ‹_› ?_;x_close
   apply jQ hbx
   intro c p C5 hp g5 hb5 f5 h5
   have hcb:c≠b:=by have:=hbx.lt;unfold aE at f5;exact Nat.ne_of_gt (B7 this f5)
   refine nN (k+1) (ds++[c]) (ps++[p]) (Nat.succ_le_of_lt hk) e1' (‹_›) (by unfold cl;show List.map_append;rfl) (by simp[e4]) ?_ (gB.trans g5) hb5 ?_ ?_
   ·intro x hx
    rcases Cz.mp hx with hx|hx
    ·exact e5 x hx
    ·simp at hx;subst hx;exact hp
   ·have hP5:=hP.box hbx g5
    refine⟨by simp[hP.1],λi d p' hd hp'=>?_⟩
    by_cases hi:i<ds.length
    ·rw[List.getElem?_append_left hi] at hd
     rw[List.getElem?_append_left (by refine rL (hP.1 ..) ?_;exact hi)] at hp'
     exact hP5.2 i d p' hd hp'
    ·rw[List.getElem?_append_right ((Cm hi))] at hd
     rw[List.getElem?_append_right (by refine rL (hP.1 ..) ?_;exact Cm hi),←hP.1] at hp'
     have hi0:i-ds.length=0:=by
      have:=(List.getElem?_eq_some_iff.mp hd).1
      simp at this;exact this
     rw[hi0] at hd hp'
     refine cS1 hd ?_;refine cS1 hp' ?_
     exact h5
   ·intro d hd
    rcases Cz.mp hd with hd|hd
    ·exact hne d hd
    ·simp at hd;subst hd;exact hcb
  ·rw[lu ((Cm hk))] at e1;injection e1
 rintro σ acc C4 ⟨k,ds,ps,k0,e1,e2,rfl,e4,e5,gB,hb4,hP4,hneb⟩
 have hk:k=2+r:=by
  by_cases hk:k<2+r
  ·rw[eu hk] at e1;injection e1
  ·exact Nat.le_antisymm k0 (Cm hk)
 subst hk
 have LM:=M ps e5 ((B4 (Cw _ _) (Cg (Eq.symm e4)))) (by lia)
 apply an
 intro cP C5 g5 f5 h5
 x_close
 apply dT h5
 x_close
 show(show(cl ds).length=ps.length from by unfold cl;show B8;show hP4.1;rfl)
 apply an
 intro cQ C6 g6 f6 h6
 x_close
 apply bW (rfl)
 apply cX
 refine aj ?_;x_close;refine aj ?_;x_close
 apply aO
 refine iEA (enc [((0,0),1)]) rfl ?_
 apply an
 intro cW C7 g7 f7 h7
 x_close
 generalize hw:ps.length+1=w at LM
 have hwc:((ps.length:Nat):Int)+1=(w:Nat):=by lia
 show hwc
 have g47:az C4 C7:=g5.trans (g6.trans g7)
 have hP7:=hP4.grow g47
 have h57:=h5.grow (g6.trans g7)
 have hpr:∀p∈ps,PrimeOk w p:=λp hp=>by refine rL (hw ..) ?_;exact LM.pr p hp
 apply bR (rfl)
 refine aK rfl ?_;refine aj ?_;x_close
 apply cE h57
 refine cj (.has h57) (λvs σ C'=>Ex4 λk cQ cs cW=>And11 (k≤ds.length) (vs=(cl ds).drop k) (az C7 C') (af "box" σ=some (.cell b)) (af "primes" σ=some (.cell cP)) (af "wide" σ=some (.int (w:Nat))) (af "pieces" σ=some (.cell cQ)) (af "whole" σ=some (.cell cW)) (Has C' cQ (.list (cl cs))) (PCs C' cs ((ps.take k).flatMap (pieces w))) (Has C' cW (.dict (enc (Wp (ps.take k)))))) ?_ ?_ ?_ ?_
 ·exact⟨0,cQ,[],cW,by exact leb rfl,rfl,az.refl _,ac rfl (ac rfl (ac rfl (ac rfl ab))),ac rfl (ac rfl (ac rfl ab)),ac rfl (ac rfl ab),ac rfl ab,ab,h6.grow g7,⟨rfl,λi d e=>by simp at e⟩,h7⟩
 ·rintro vs σ C' ⟨k,cQ,cs,cW,k0,e1,g,_⟩
  exact .grow g (.has h57)
 ·rintro v rr σ C' ⟨k,cQ,cs,cW,k0,e1,g,k1,k2,k3,k4,k5,hQ,hS,hW⟩
  by_cases hk:k<ds.length
  ·have hkp:k<ps.length:=by refine rL (hP4.1 ..) ?_;exact hk
   have hdk:(cl ds).drop k=.cell ds[k]::(cl ds).drop (k+1):=by
    unfold cl
    refine rL (List.map_drop ..) ?_;refine rL (List.map_drop ..) ?_;show Cr hk;show Cc;rfl
   rw[hdk] at e1
   injection e1 with e1 e1'
   subst e1
   have hsplit:ps=ps.take k++ps[k]::ps.drop (k+1):=by
    refine rL (Cr hkp ..) ?_;show List.take_append_drop;rfl
   have hmem:ps[k]∈ps:=List.getElem_mem hkp
   have O:=hpr _ hmem
   have WO:=LM.wo _ _ _ hsplit
   have hd:=(hP7.2 k _ _ (List.getElem?_eq_getElem hk) (List.getElem?_eq_getElem hkp)).grow g
   have hkeys:∀e∈pe ps[k],e.1.2<1000:=λe he=>by have:=(mH _ e he).2;exact Ck this (Mine.Lake.ltb rfl)
   have hw3:w<1000:=by lia
   have hpl:=jJ ps[k]
   refine iEA _ rfl ?_
   refine aP ?_;refine ag ‹_› ?_;x_close
   apply fP hd O.nd hw3 O.sz hkeys
   intro x1 D1 y1 z1 v1
   refine ag ‹_› ?_;x_close
   apply gF v1 ((B7 (Nat.zero_lt_succ _) (Cg hw))) hw3 (by show O.pt;have:=O.ri.2;exact B4 this (Mine.Lake.leb rfl))
   intro x2 D2 y2 z2 v2
   x_close
   have hd2:=hd.grow (y1.trans y2)
   apply sM (gY (k:=3) v2 hd2 O.un O.nd)
   refine⟨cFt,λxx=>?_⟩
   refine ag ‹_› ?_;x_close
   apply fP hd2 O.nd hw3 O.sz hkeys
   intro x3 D3 y3 z3 v3
   refine ag ‹_› ?_;x_close
   apply qf (hd2.grow y3) O.nd hw3 ((B4 hpl (B5 _ _))) (by intro e;have:=O.l2;rw[e] at this;simp[gO] at this) hkeys (by have:=O.ri.2;exact B4 this (Mine.Lake.leb rfl))
   intro x4 D4 y4 z4 v4
   x_close
   rw[O.pt] at v3
   apply sM (zi (k:=4) (v3.grow y4) v4)
   refine⟨cFt,λxx=>?_⟩
   refine(?_:_∧_)
   refine⟨cFt,λxx=>?_⟩
   refine ag ‹_› ?_;refine ag ‹_› ?_;x_close
   apply qf (hd2.grow (y3.trans y4)) O.nd hw3 ((B4 hpl (B5 _ _))) (by intro e;have:=O.l2;rw[e] at this;simp[gO] at this) hkeys (by have:=O.ri.2;exact B4 this (Mine.Lake.leb rfl))
   intro x5 D5 y5 z5 v5
   x_close
   apply qr v5 O.ri O.l2 O.r0
   intro x6 D6 y6 z6 v6
   x_close
   refine cv v6 λct t1 t2 t3=>?_
   have gD6:az C' D6:=(y1.trans y2).trans ((y3.trans y4).trans (y5.trans y6))
   have hlc:cs.length+ct.length≤13:=by
    show hS.1;show t2.1
    have e3:(ps.flatMap (pieces w)).length=((ps.take k).flatMap (pieces w)).length+((pieces w ps[k]).length+((ps.drop (k+1)).flatMap (pieces w)).length):=by
     conv=>lhs;rw[hsplit]
     show List.flatMap_append;show List.flatMap_cons;show Cf;show Cf;rfl
    have e4:=LM.pl
    rw[hw,e3] at e4
    change ((ps.take k).flatMap (pieces w)).length+(pieces w ps[k]).length≤13
    lia
   apply q6 (hQ.grow gD6) t1 (by unfold cl;show Cf;show B8;show B8;exact B4 hlc (B5 _ _))
   apply an
   intro x7 D7 y7 z7 v7
   refine ag ‹_› ?_;x_close
   refine oEA WO.b λa w1 w2=>?_
   refine rq (a:=a) (b:=4) ((hW.grow gD6).grow y7) ((hd.grow gD6).grow y7) WO.nd O.nd w1 O.ip w2 WO.l ?_
   intro x8 D8 y8 z8 v8
   refine lV ?_;refine bY ?_;conv=>whnf
   have htk:ps.take (k+1)=ps.take k++[ps[k]]:=by show List.take_succ;show List.getElem?_eq_getElem hkp;rfl
   refine⟨k+1,x7,cs++ct,x8,(Nat.succ_le_of_lt hk),e1',g.trans (gD6.trans (y7.trans y8)),‹_›,‹_›,‹_›,ac rfl ab,ab,?_,?_,?_⟩
   ·have:=v7.grow y8
    unfold cl at this ⊢
    show List.map_append;exact this
   ·show htk;show List.flatMap_append;show(show[ps[k]].flatMap (pieces w)=pieces w ps[k] from Cn _)
    exact(hS.grow (gD6.trans (y7.trans y8))).append (t2.grow (y7.trans y8))
   ·show htk
    unfold Wp at v8 ⊢
    show List.foldl_append;exact v8
  ·rw[List.drop_eq_nil_of_le (by unfold cl;show B8;exact Cm hk)] at e1;injection e1
 rintro σ C8 ⟨k,cQ,cs,cW,k0,e1,g,k1,k2,k3,k4,k5,hQ,hS,hW⟩
 have hk:k=ds.length:=by
  by_cases hk:k<ds.length
  ·have:0<((cl ds).drop k).length:=by unfold cl;show List.length_drop;show B8;exact Nat.sub_pos_of_lt hk
   rw[←e1] at this;simp at this
  ·exact Nat.le_antisymm k0 (Cm hk)
 subst hk
 rw[hP4.1,List.take_length] at hS hW
 have hPl:=LM.pl
 rw[hw] at hPl
 have hb8:cn C8 b l (xs.take 40):=hb4.grow (g47.trans g)
 have hP8:bO C8 ds ps:=hP7.grow g
 have h58:=h57.grow g
 have hbl8:=hb8.lt
 have hPb:cP≠b:=by have:=hb4.lt;unfold aE at f5;exact Nat.ne_of_gt (B7 this f5)
 refine ag ‹_› ?_;refine ag ‹_› ?_;refine ag ‹_› ?_;x_close
 apply lH hb8 hQ (by show hS.1;exact B4 hPl (B5 _ _))
 intro cM C9 cs' g9 hb9 f9 hperm h9
 refine ag ‹_› ?_;x_close
 refine oEA (hS.perm hperm) λL' hL' hS'=>?_
 have hrcm:=LM.rcm
 rw[hw] at hrcm
 refine oEA (hrcm L' hL') λInv hRec hInv=>?_
 have hS9:PCs C9 cs' L':=⟨hS'.1,λi d e=>(hS'.2 i d e).but g9 λe'=>by
  refine kN hb8 λi' s' q1 xx=>?_
  exact zn q1 (hS'.2 i d e) e'⟩
 have hW9:=hW.but g9 (λe=>by
  refine kN hb8 λi' s' q1 xx=>?_
  exact q1.neLD hW e.symm)
 apply ji hRec (by lia) hInv hW9 h9 hS9 ((B7 (Nat.zero_lt_succ _) (Cg hw))) (by lia)
 intro cF C10 ds' qs g10 f10 h10 hA10 hq10 hs10
 refine ag ‹_› ?_;x_close
 have hP10:=(hP8.box hb8 g9).grow g10
 have h510:=(h58.but g9 hPb).grow g10
 apply bs h510 hP10.forms (by lia) e5
 intro cG C11 ds2 qs2 g11 f11 h11 hA11 hq11 hs11
 x_close
 have hqa:∀p∈qs,p∈aG:=λp hp=>e5 p (hq10.mem_iff.mp hp)
 have hqe:qs=qs2:=iZ hqa (hq10.trans hq11.symm) hs10 hs11
 subst hqe
 have hqn:∀p∈qs,(keys (pe p)).Nodup:=λp hp=>(hpr p (hq10.mem_iff.mp hp)).nd
 apply sM (lR (k:=2) (h10.grow g11) h11 (hA10.grow g11) hA11 hqn)
 refine⟨cFt,λxx=>?_⟩
 refine ag ‹_› ?_;refine ag ‹_› ?_;x_close
 have hb11:=(hb9.grow g10).grow g11
 have h511:=h510.grow g11
 apply lH hb11 h511 (by show hP4.1;lia)
 intro cM2 C12 cs2 g12 hb12 f12 hperm2 h12
 x_close
 have hP12:=(hP10.grow g11).box hb11 g12
 refine oEA (hP12.forms.perm hperm2) λps2 hps2 hA12=>?_
 apply bs h12 hA12 (by show hps2.length_eq;lia) (λp hp=>e5 p (hps2.mem_iff.mp hp))
 intro cH C13 ds3 qs3 g13 f13 h13 hA13 hq13 hs13
 x_close
 have hqe:qs=qs3:=iZ hqa (hq10.trans (hq13.trans hps2).symm) hs10 hs13
 subst hqe
 have hFb:cF≠b:=by have:=hb9.lt;unfold aE at f10;exact Nat.ne_of_gt (B7 this f10)
 have h10':=((h10.grow g11).but g12 hFb).grow g13
 have hA10':aU C13 ds' qs:=by
  refine⟨hA10.1,λi d p a e=>?_⟩
  refine oEA (hA10.2 i d p a e) λP z1 z2=>?_
  refine iEA P z1 (((z2.grow g11).but g12 λe'=>?_).grow g13)
  refine kN hb11 λi' s' q1 xx=>?_
  exact q1.neLD (z2.grow g11) e'.symm
 apply sM (lR (k:=2) h13 h10' hA13 hA10' hqn)
 refine⟨cFt,λxx=>?_⟩
 refine(?_:_∧_)
 refine⟨cFt,λxx=>?_⟩
 refine ag ‹_› ?_;x_close
 have hb13:=hb12.grow g13
 apply cu (m:=9) hb13 (ltb rfl)
 intro r1 C14 hr1 g14 hb14
 refine ag ‹_› ?_;x_close
 apply cu (m:=4) hb14 (ltb rfl)
 intro r2 C15 hr2 g15 hb15
 x_close
 have hbot:(1:Int)+(r2:Int)≠0:=by lia
 apply d5 hbot (m:=10) (by unfold aA;omega (config:={})) (leb rfl)
 x_close
 have hRS:RS 10 (Rat.divInt ((r1:Int)-4) (1+(r2:Int))):=by
  show(show(1:Int)+(r2:Int)=((1+r2:Nat):Int) from by rfl);show Rat.divInt_ofNat
  exact eT (by unfold aA;omega (config:={})) (by unfold aA;omega (config:={})) (leb rfl)
 generalize hnum:Rat.divInt ((r1:Int)-4) (1+(r2:Int))=num at hRS
 have h10e:=(h10'.but g14 hFb).but g15 hFb
 have hA10e:aU C15 ds' qs:=by
  refine⟨hA10'.1,λi d p a e=>?_⟩
  refine oEA (hA10'.2 i d p a e) λP z1 z2=>?_
  have hdb:d≠b:=λe'=>by
   refine kN hb13 λi' s' q1 xx=>?_
   exact q1.neLD z2 e'.symm
  exact iEA P z1 ((z2.but g14 hdb).but g15 hdb)
 have hWb:cW≠b:=λe=>by
  refine kN hb8 λi' s' q1 xx=>?_
  exact q1.neLD hW e.symm
 have hW15:=((((((hW9.grow g10).grow g11).but g12 hWb).grow g13).but g14 hWb).but g15 hWb)
 refine iy (vs:=cl ds') (R:=λv=>some (.tup [v,.int 1])) (Bool.and_self _) ?_ (by unfold cl;show B8;show hA10.1;show hq10.length_eq;lia) ?_ ?_
 ·refine aK rfl ?_;refine aj ?_;x_close
  apply cE h10e
  exact⟨rfl,.has h10e,az.refl _⟩
 ·intro v hv σ' D1 hσ y1
  refine iEa3 _ rfl (λy hy=>aI (rfl) hy) ?_
  apply bg
  refine⟨az.refl _,λxx=>?_,cTf⟩
  refine aj ?_;refine(?_:_∧_)
  exact⟨rfl,az.refl _⟩
 intro cZ C16 g16 f16 h16
 x_close
 refine cv (LM.mul num qs hRS hq10) λIM im1 im2 im3=>?_
 have h16':Has C16 cZ (.list (ds'.map λd=>.tup [.cell d,.int 1])):=by
  have:(cl ds').filterMap (λv=>some (V.tup [v,.int 1]))=ds'.map λd=>.tup [.cell d,.int 1]:=by
   unfold cl
   generalize ds'=l
   induction l with
   |nil=>rfl
   |cons a l ih=>show Cc;show List.filterMap_cons;show ih;rfl
  rw[this] at h16;exact h16
 apply jf h16' (hA10e.grow g16) IM im1 im2
 intro cR C17 FR g17 f17 h17 hFR
 refine ag ‹_› ?_;x_close
 have hW17:=(hW15.grow g16).grow g17
 apply cc hW17 LM.wn.1 LM.wn.2 (hRS.le (leb rfl)) LM.wn.3
 intro cS C18 g18 f18 h18
 x_close
 have hnd:(keys (if num=0 then[] else bA (λv=>v*num) (Wp ps))).Nodup:=by
  split
  ·exact List.nodup_nil
  ·show bF;exact LM.wn.1
 apply sM (gY (k:=3) (h17.grow g18) h18 (im3 FR hFR) hnd)
 refine⟨cFt,λxx=>?_⟩
 refine(?_:_∧_)
 have hrv:rv num=.tup [.int num.num,.int num.den]:=rfl
 show hrv
 refine(?_:_∧_)
 have hW18:=hW17.grow g18
 refine rL (hrv ..) ?_
 refine⟨λhz=>?_,λhz=>?_⟩
 ·have hz:num=0:=by
   have:num.num=0:=by simpa using hz
   exact Rat.num_eq_zero.mp this
  refine ag ‹_› ?_;x_close
  apply cc hW18 LM.wn.1 LM.wn.2 (hRS.le (leb rfl)) LM.wn.3
  intro cT C19 g19 f19 h19
  rw[if_pos hz] at h19
  x_close
  apply fU h19 nE
  intro cU C20 g20 f20 h20
  x_close
  apply bW (rfl)
  apply aO
  refine iEA (enc []) rfl ?_
  apply an
  intro cV C21 g21 f21 h21
  x_close
  apply xg (nY (k:=2) (q:=0) (A:=[]) (B:=[]) (h20.grow g21) h21 (.refl _) List.nodup_nil)
  conv=>whnf
  exact q C21
 ·have hz:num≠0:=by
   intro h;rw[h] at hz;simp at hz
  refine oA (LM.who num hRS hz) λw1 w2=>?_
  refine ag ‹_› ?_;x_close
  apply cc hW18 LM.wn.1 LM.wn.2 (hRS.le (leb rfl)) LM.wn.3
  intro cT C19 g19 f19 h19
  rw[if_neg hz] at h19
  x_close
  apply fU h19 w1
  intro cU C20 g20 f20 h20
  rw[w2] at h20 ⊢
  refine ag ‹_› ?_;x_close
  apply xg (nY (k:=2) (q:=num) h20 ((hW18.grow g19).grow g20) (.refl _) LM.wn.1)
  conv=>whnf
  exact q C20
end
theorem tu(M:∀ps:List Pr,(∀p∈ps,p∈aG)→2≤ps.length→ps.length≤3→LawOk ps):vO:=by
 intro xs hx
 obtain⟨v,C',e,h⟩:=wR (n:=0) (C:=[]) (Q:=λv xx=>v=.bool true) hx M λxx=>rfl
 subst h
 exact⟨whC,400,C',zM,by exact leb rfl,e⟩
noncomputable def kB(w:Nat)(p:Pr):Bool:=
 decide (keys (pe p)).Nodup&&decide ((dW (q9 (pe p) w) w).Perm (pe p))&&decide (q9 (pe p) w=gO (pe p) w)&&
 (decide (2≤(gO (pe p) w).length)&&decide ((gO (pe p) w).length≤6)&&(gO (pe p) w).all (λx=>decide (x.natAbs≤8))&&decide (((gO (pe p) w).getD 0 0).natAbs≤4))&&
 decide (sizeP w (pe p)≤10000)&&(pe p).all (λe=>decide (e.2.den=1)&&decide (e.2.num.natAbs≤4))
theorem sA:(aG.all λp=>kB 3 p&&kB 4 p)=true:=rfl
theorem jF{w:Nat}{p:Pr}(h:kB w p=true):PrimeOk w p:=by
 unfold kB at h
 simp only[Bool.and_eq_true,decide_eq_true_eq,List.all_eq_true] at h
 obtain⟨⟨⟨⟨⟨h1,h2⟩,h3⟩,⟨⟨h4,h5⟩,h6⟩,h7⟩,h8⟩,h9⟩:=h
 refine⟨h1,h2,h3,⟨(Nat.le_of_succ_le h4),h5,λx hx=>?_⟩,h4,h7,h8,λe he=>h9 e he⟩
 have:=h6 x hx
 refine B4 this ?_
 change 2^3≤_
 exact Cp (ltb rfl) ((Cw _ _))
theorem gZ{w:Nat}(hw:w=3∨w=4){p:Pr}(hp:p∈aG):PrimeOk w p:=by
 have:=CA.mp sA p hp
 rw[Ca] at this
 rcases hw with rfl|rfl
 ·exact jF this.1
 ·exact jF this.2
theorem oZ:(aG.all λp=>decide ((pieces 3 p).length≤3)&&decide ((pieces 4 p).length≤3))=true:=rfl
theorem pR{w:Nat}(hw:w=3∨w=4){p:Pr}(hp:p∈aG):(pieces w p).length≤3:=by
 have:=CA.mp oZ p hp
 rw[Ca,decide_eq_true_eq,decide_eq_true_eq] at this
 rcases hw with rfl|rfl
 ·exact this.1
 ·exact this.2
theorem km{w:Nat}(hw:w=3∨w=4):∀{ps:List Pr},(∀p∈ps,p∈aG)→(ps.flatMap (pieces w)).length≤3*ps.length
 |[],_=>Nat.le_mul_self _
 |p::ps,h=>by
  have h1:=pR hw (h p B9)
  have h2:=km hw (ps:=ps) λq hq=>h q (B6 _ hq)
  show List.flatMap_cons;show Cf;show Ch;lia
noncomputable def cf(P:PE)(k:Mo):Rat:=(bT k P).getD 0
structure Clean(P:PE):Prop where
 nd:(keys P).Nodup
 nz:∀e∈P,e.2≠0
theorem dY{k:Mo}:∀{P:PE},k∉keys P→bT k P=none:=λ{P}=>by
 induction P with
 |nil=>
  intro _
  exact rfl
 |cons e r ih'=>
  intro h
  have h1:e.1≠k:=λx=>h (by refine rL (x ..) ?_;exact B9)
  unfold bT
  show if_neg h1;show(ih' λx=>h (B6 _ x));rfl
theorem Clean.key{P:PE}(h:Clean P){k:Mo}:k∈keys P↔cf P k≠0:=by
 unfold cf
 constructor
 ·intro hm
  obtain⟨u,hu⟩:=eZ hm
  show hu
  exact h.nz _ (dF hu)
 ·intro hn
  by_cases hm:k∈keys P
  ·exact hm
  ·rw[dY hm] at hn
   exact absurd rfl hn
theorem i8{j k:Mo}{q:Rat}:∀{P:PE},bT j (fL k q P)=if j=k then some q else bT j P
 |[]=>by
  change (if k=j then some q else none)=_
  by_cases h:j=k
  ·show if_pos h;show if_pos h.symm;rfl
  ·show if_neg h;show(if_neg λx=>h x.symm);rfl
 |e::r=>by
  have ih:=i8 (j:=j) (k:=k) (q:=q) (P:=r)
  unfold fL
  by_cases he:e.1=k
  ·show if_pos he
   change (if e.1=j then some q else bT j r)=if j=k then some q else(if e.1=j then some e.2 else bT j r)
   by_cases h:j=k
   ·show if_pos h;show(if_pos (by show he;show h;rfl));rfl
   ·show if_neg h;show(if_neg (λx=>h (by refine rL (x ..) ?_;show he;rfl)));show(if_neg (λx=>h (by refine rL (x ..) ?_;show he;rfl)));rfl
  ·show if_neg he
   change (if e.1=j then some e.2 else bT j (fL k q r))=if j=k then some q else(if e.1=j then some e.2 else bT j r)
   show ih
   by_cases h:e.1=j
   ·show if_pos h;show if_pos h;show(if_neg (λx=>he (by show h;show x;rfl)));rfl
   ·show if_neg h;show if_neg h;rfl
theorem gU{j k:Mo}:∀{P:PE},(keys P).Nodup→bT j (rmP k P)=if j=k then none else bT j P
 |[],_=>by change none=_;split<;>rfl
 |e::r,hn=>by
  have hn:(e.1::keys r).Nodup:=hn
  rw[List.nodup_cons] at hn
  have ih:=gU (j:=j) (k:=k) (P:=r) hn.2
  unfold rmP
  by_cases he:e.1=k
  ·show if_pos he
   change bT j r=if j=k then none else(if e.1=j then some e.2 else bT j r)
   by_cases h:j=k
   ·show if_pos h;show h;refine rL (he ..) ?_;exact dY hn.1
   ·show if_neg h;show(if_neg λx=>h (by refine rL (x ..) ?_;show he;rfl));rfl
  ·show if_neg he
   change (if e.1=j then some e.2 else bT j (rmP k r))=if j=k then none else(if e.1=j then some e.2 else bT j r)
   show ih
   by_cases h:e.1=j
   ·show if_pos h;show if_pos h;show(if_neg (λx=>he (by show h;show x;rfl)));rfl
   ·show if_neg h;show if_neg h;rfl
theorem ph{P:PE}{j k:Mo}{q:Rat}(h:(keys P).Nodup):cf (aF P k q) j=cf P j+if j=k then q else 0:=by
 unfold cf aF
 cases hg:bT k P with
 |some u=>
  simp only
  by_cases hz:u+q=0
  ·show if_pos hz;show gU h
   by_cases hj:j=k
   ·show hj;show if_pos rfl;show if_pos rfl;show hg;exact hz.symm
   ·show if_neg hj;show if_neg hj;exact Eq.symm (Rat.add_zero _)
  ·show if_neg hz;show i8
   by_cases hj:j=k
   ·show hj;show if_pos rfl;show if_pos rfl;show hg;rfl
   ·show if_neg hj;show if_neg hj;exact Eq.symm (Rat.add_zero _)
 |none=>
  simp only
  by_cases hz:q=0
  ·show if_pos hz;show gU h
   by_cases hj:j=k
   ·show hj;show if_pos rfl;show if_pos rfl;show hg;show hz;change (0:Rat)=0+0;exact Eq.symm (Rat.zero_add _)
   ·show if_neg hj;show if_neg hj;exact Eq.symm (Rat.add_zero _)
  ·show if_neg hz;show i8
   by_cases hj:j=k
   ·show hj;show if_pos rfl;show if_pos rfl;show hg;change q=0+q;exact Eq.symm (Rat.zero_add _)
   ·show if_neg hj;show if_neg hj;exact Eq.symm (Rat.add_zero _)
section
noncomputable def evT(e:Mo×Rat)(x y:Rat):Rat:=e.2*(x^e.1.1*y^e.1.2)
noncomputable def ev:PE→Rat→Rat→Rat
 |[],_,_=>0
 |e::r,x,y=>evT e x y+ev r x y
variable {x y:Rat}
theorem i6{k:Mo}{q:Rat}:∀{P:PE},ev (fL k q P) x y=ev P x y+(q-cf P k)*(x^k.1*y^k.2)
 |[]=>by
  change evT (k,q) x y+0=0+(q-0)*_
  unfold evT
  grind
 |e::r=>by
  have ih:=i6 (k:=k) (q:=q) (P:=r)
  unfold fL cf
  by_cases he:e.1=k
  ·show if_pos he
   change evT (e.1,q) x y+ev r x y=evT e x y+ev r x y+(q-(if e.1=k then some e.2 else bT k r).getD 0)*_
   show if_pos he
   unfold evT
   show he
   change q*_+ev r x y=e.2*_+ev r x y+(q-e.2)*_
   grind
  ·show if_neg he
   change evT e x y+ev (fL k q r) x y=evT e x y+ev r x y+(q-(if e.1=k then some e.2 else bT k r).getD 0)*_
   show if_neg he;show ih
   unfold cf
   exact Eq.symm (Rat.add_assoc _ _ _)
theorem oj{k:Mo}:∀{P:PE},(keys P).Nodup→ev (rmP k P) x y=ev P x y-cf P k*(x^k.1*y^k.2)
 |[],_=>by
  change (0:Rat)=0-0*_
  grind
 |e::r,hn=>by
  have hn:(e.1::keys r).Nodup:=hn
  rw[List.nodup_cons] at hn
  have ih:=oj (k:=k) (P:=r) hn.2
  unfold rmP cf
  by_cases he:e.1=k
  ·show if_pos he
   change ev r x y=evT e x y+ev r x y-(if e.1=k then some e.2 else bT k r).getD 0*_
   show if_pos he
   unfold evT
   show he
   change ev r x y=e.2*_+ev r x y-e.2*_
   grind
  ·show if_neg he
   change evT e x y+ev (rmP k r) x y=evT e x y+ev r x y-(if e.1=k then some e.2 else bT k r).getD 0*_
   show if_neg he;show ih
   unfold cf
   grind
theorem fW{P:PE}{k:Mo}{q:Rat}(h:(keys P).Nodup):ev (aF P k q) x y=ev P x y+q*(x^k.1*y^k.2):=by
 unfold aF
 cases hg:bT k P with
 |some u=>
  have hc:cf P k=u:=by unfold cf;show hg;rfl
  simp only
  split
  ·rename_i hz
   show oj h;show hc;grind
  ·show i6;show hc;grind
 |none=>
  have hc:cf P k=0:=by unfold cf;show hg;rfl
  simp only
  split
  ·rename_i hz
   show oj h;show hc;grind
  ·show i6;show hc;grind
theorem j6{k:Mo}:∀{P:PE},(keys P).Nodup→(keys (rmP k P)).Nodup:=λ{P}=>by
 induction P with
 |nil=>
  intro h
  exact h
 |cons e r ih'=>
  intro hn
  have hn:(e.1::keys r).Nodup:=hn
  rw[List.nodup_cons] at hn
  show rmP.eq_2 _ _ _
  split
  ·exact hn.2
  ·change (e.1::keys (rmP k r)).Nodup
   show propext (List.nodup_cons ..)
   refine⟨λhm=>?_,ih' hn.2⟩
   refine oEA (Cl.mp hm) λd hd e1=>?_
   exact hn.1 (e1▸bu (dA hd))
theorem fz{P:PE}{k:Mo}{q:Rat}(h:(keys P).Nodup):(keys (aF P k q)).Nodup:=by
 unfold aF
 split
 ·split
  ·exact j6 h
  ·exact ey h
 ·split
  ·exact j6 h
  ·exact ey h
theorem dP{P:PE}{k:Mo}{q:Rat}(h:Clean P):Clean (aF P k q):=by
 refine⟨fz h.nd,λe he=>?_⟩
 unfold aF at he
 split at he
 ·split at he
  ·exact h.nz e (dA he)
  ·rcases setP_mem he with he|he
   ·show he;assumption
   ·exact h.nz e he
 ·split at he
  ·exact h.nz e (dA he)
  ·rcases setP_mem he with he|he
   ·show he;assumption
   ·exact h.nz e he
end
section
variable {x y:Rat}
theorem bC(a:Rat)(m n:Nat):a^(m+n)=a^m*a^n:=by
 induction n with
 |zero=>show Nat.add_zero;show Rat.pow_zero;exact Eq.symm (Rat.mul_one _)
 |succ n ih=>refine rL (Nat.add_assoc ..) ?_;show Rat.pow_succ;show ih;show Rat.pow_succ;exact Rat.mul_assoc _ _ _
theorem bS:∀{B A:PE},Clean A→Clean (bl A B)∧ev (bl A B) x y=ev A x y+ev B x y
 |[],A,h=>⟨h,by change ev A x y=ev A x y+0;exact Eq.symm (Rat.add_zero _)⟩
 |e::B,A,h=>by
  have:=bS (B:=B) (A:=aF A e.1 e.2) (dP h)
  refine⟨this.1,?_⟩
  change ev (bl (aF A e.1 e.2) B) x y=ev A x y+(evT e x y+ev B x y)
  show this.2;show fW h.nd
  unfold evT
  exact Rat.add_assoc _ _ _
theorem kF{f:Rat→Rat}{c:Rat}(hf:∀u,f u=u*c):∀{A:PE},ev (bA f A) x y=ev A x y*c:=λ{A}=>by
 induction A with
 |nil=>
  change (0:Rat)=0*c;exact Eq.symm (Rat.zero_mul _)
 |cons e A ih'=>
  change evT (e.1,f e.2) x y+ev (bA f A) x y=(evT e x y+ev A x y)*c
  show ih'
  unfold evT
  show hf
  grind
theorem uM{k:Mo}{u:Rat}:∀{A:PE},ev (be A k u) x y=ev A x y*(u*(x^k.1*y^k.2)):=λ{A}=>by
 induction A with
 |nil=>
  change (0:Rat)=0*_;exact Eq.symm (Rat.zero_mul _)
 |cons e A ih'=>
  change evT (bZ e.1 k,e.2*u) x y+ev (be A k u) x y=(evT e x y+ev A x y)*_
  show ih'
  unfold evT bZ
  simp only
  show bC;show bC
  grind
theorem ew{f:Rat→Rat}(hf:∀u,u≠0→f u≠0){A:PE}(h:Clean A):Clean (bA f A):=by
 refine⟨by show bF;exact h.nd,λe he=>?_⟩
 refine oEA (Cl.mp he) λd hd zr0=>?_;subst zr0
 exact hf _ (h.nz d hd)
theorem mN{k:Mo}{u:Rat}(hu:u≠0){A:PE}(h:Clean A):Clean (be A k u):=by
 refine⟨d6 h.nd,λe he=>?_⟩
 refine oEA (Cl.mp he) λd hd zr0=>?_;subst zr0
 intro h0
 rcases Rat.mul_eq_zero.mp h0 with h1|h1
 ·exact h.nz d hd h1
 ·exact hu h1
theorem gJ{d:Mo×Rat}:∀{A F:PE},Clean F→Clean (addRow A F d)∧ev (addRow A F d) x y=ev F x y+ev A x y*evT d x y
 |[],F,h=>⟨h,by change ev F x y=ev F x y+0*_;grind⟩
 |e::A,F,h=>by
  have:=gJ (d:=d) (A:=A) (F:=aF F (bZ e.1 d.1) (e.2*d.2)) (dP h)
  refine⟨this.1,?_⟩
  change ev (addRow A (aF F (bZ e.1 d.1) (e.2*d.2)) d) x y=ev F x y+(evT e x y+ev A x y)*evT d x y
  show this.2;show fW h.nd
  unfold evT bZ
  simp only
  show bC;show bC
  grind
theorem jz{A:PE}:∀{B F:PE},Clean F→Clean (B.foldl (addRow A) F)∧ev (B.foldl (addRow A) F) x y=ev F x y+ev A x y*ev B x y
 |[],F,h=>⟨h,by change ev F x y=ev F x y+_*0;grind⟩
 |d::B,F,h=>by
  have h1:=gJ (x:=x) (y:=y) (d:=d) (A:=A) h
  have:=jz (A:=A) (B:=B) (F:=addRow A F d) h1.1
  refine⟨this.1,?_⟩
  show Cx;show this.2;show h1.2
  change _=ev F x y+ev A x y*(evT d x y+ev B x y)
  grind
theorem cg:Clean []:=⟨List.nodup_nil,λe h=>by cases h⟩
theorem bP{A B:PE}:Clean (eH A B)∧ev (eH A B) x y=ev A x y*ev B x y:=by
 have:=jz (x:=x) (y:=y) (A:=A) (B:=B) cg
 refine⟨this.1,this.2.trans ?_⟩
 change 0+_=_
 exact Rat.zero_add _
end
section
variable {x y:Rat}
theorem vY{e d:Mo×Rat}{F:PE}:ev (tf e F d) x y=ev F x y+evT e x y*evT d x y:=by
 unfold tf
 show i6
 unfold cf evT bZ
 simp only
 show bC;show bC
 grind
theorem wj{e:Mo×Rat}:∀{B F:PE},ev (eX B F e) x y=ev F x y+evT e x y*ev B x y:=λ{B}=>by
 induction B with
 |nil=>
  intro F
  change ev F x y=ev F x y+_*0;grind
 |cons d B ih'=>
  intro F
  change ev (eX B (tf e F d) e) x y=ev F x y+evT e x y*(evT d x y+ev B x y)
  show ih';show vY;grind
theorem vJ{B:PE}:∀{A F:PE},ev (A.foldl (eX B) F) x y=ev F x y+ev A x y*ev B x y:=λ{A}=>by
 induction A with
 |nil=>
  intro F
  change ev F x y=ev F x y+0*_;grind
 |cons e A ih'=>
  intro F
  show Cx;show ih';show wj
  change _=ev F x y+(evT e x y+ev A x y)*ev B x y
  grind
theorem qe:∀{P:PE},ev (P.filter λe=>!decide (e.2=0)) x y=ev P x y:=λ{P}=>by
 induction P with
 |nil=>
  exact rfl
 |cons e P ih'=>
  show List.filter_cons
  by_cases h:e.2=0
  ·show(if_neg (by lia));show ih'
   change _=evT e x y+ev P x y
   unfold evT
   show h;grind
  ·show(if_pos (by simp[h]))
   change evT e x y+ev (P.filter _) x y=evT e x y+ev P x y
   show ih';rfl
theorem o5{A B:PE}:Clean (mD A B)∧ev (mD A B) x y=ev A x y*ev B x y:=by
 refine⟨⟨?_,λe he=>?_⟩,?_⟩
 ·have h:=fZ (B:=B) (A:=A) (F:=[]) List.nodup_nil
  unfold mD keys at *
  exact(List.filter_sublist.map _).nodup h
 ·have:=(List.mem_filter.mp he).2
  simpa using this
 ·unfold mD
  show qe;show vJ
  change 0+_=_
  exact Rat.zero_add _
end
noncomputable def evL:List Rat→Rat→Rat
 |[],_=>0
 |c::l,t=>c+t*evL l t
theorem dQ{t:Rat}:∀{l:List Rat},(∀c∈l,c=0)→evL l t=0:=λ{l}=>by
 induction l with
 |nil=>
  intro _
  exact rfl
 |cons c l ih'=>
  intro h
  change c+t*evL l t=0
  show(ih' λd hd=>h d (B6 _ hd));show h c B9;grind
theorem gI{t v e:Rat}(ht:0≤t)(h:e≤v):t*e≤t*v:=by
 have:=Rat.mul_nonneg ht (show 0≤v-e by grind)
 grind
theorem iK:∀{l:List Rat},(∃c∈l,c≠0)→∃e T:Rat,0<e∧∀t,T≤t→e≤evL l t∨evL l t≤-e:=λ{l}=>by
 induction l with
 |nil=>
  intro h
  refine oEA h λc h xx=>?_;cases h
 |cons c l ih'=>
  intro h
  by_cases hl:∃d∈l,d≠0
  ·refine kN (ih' hl) λe T he hT=>?_
   have hei:e*e⁻¹=1:=Rat.mul_inv_cancel e (by grind)
   have hei0:0≤e⁻¹:=by
    by_cases h0:0≤e⁻¹
    ·exact h0
    ·exfalso
     have:=Rat.mul_nonneg (show 0≤e by grind) (show 0≤-e⁻¹ by grind)
     grind
   obtain⟨m,hm1,hm2,hm0⟩ : ∃m:Rat,c≤m∧-c≤m∧0≤m:=by
    by_cases h0:0≤c
    ·exact vb c (by simp) (by grind) h0
    ·exact vb (-c) (by grind) (by simp) (by grind)
   obtain⟨T',h1,h2⟩ : ∃T':Rat,T≤T'∧(m+1)*e⁻¹≤T':=by
    by_cases h0:T≤(m+1)*e⁻¹
    ·exact iEA _ h0 (by simp)
    ·exact iEA T (by simp) (by grind)
   refine zY 1 T' rfl (λt ht=>?_)
   have ht0:(m+1)*e⁻¹≤t:=by grind
   have htp:0≤t:=by
    have:=Rat.mul_nonneg (show 0≤m+1 by grind) hei0
    grind
   have hte:m+1≤t*e:=by
    have h4:=gI (show 0≤e by grind) ht0
    have h5:e*((m+1)*e⁻¹)=m+1:=by
     have h6:e*((m+1)*e⁻¹)=(m+1)*(e*e⁻¹):=by
      generalize e⁻¹=i
      grind
     show h6;show hei;simp
    rw[h5] at h4
    have h7:e*t=t*e:=Rat.mul_comm _ _
    rw[h7] at h4
    exact h4
   change 1≤c+t*evL l t∨c+t*evL l t≤-1
   rcases hT t (by grind) with hv|hv
   ·left
    have:=gI htp hv
    grind
   ·right
    have:=gI htp hv
    have h3:t * -e=-(t*e):=by grind
    grind
  ·have hz:∀d∈l,d=0:=λd hd=>by
    by_cases h0:d=0
    ·exact h0
    ·exact absurd ⟨d,hd,h0⟩ hl
   have hc:c≠0:=by
    refine oEA h λd hd h0=>?_
    rcases Cb.mp hd with rfl|hd
    ·exact h0
    ·exact absurd (hz d hd) h0
   by_cases h0:0≤c
   ·refine zY c 0 (Rat.lt_of_le_of_ne h0 (id (Ne.symm hc))) (λt xx=>.inl ?_)
    change c≤c+t*evL l t
    show dQ hz;grind
   ·refine zY (-c) 0 (by grind) (λt xx=>.inr ?_)
    change c+t*evL l t≤- -c
    show dQ hz;grind
theorem eS{l:List Rat}{T:Rat}(h:∀t,T≤t→evL l t=0):∀c∈l,c=0:=by
 intro c hc
 by_cases h0:c=0
 ·exact h0
 ·refine kN (iK ⟨c,hc,h0⟩) λe T' he hT=>?_
  exfalso
  obtain⟨t,h1,h2⟩ : ∃t:Rat,T≤t∧T'≤t:=by
   by_cases h0:T≤T'
   ·exact iEA T' h0 (by simp)
   ·exact iEA T Rat.le_refl (Std.le_of_not_ge h0)
  have:=h t h1
  rcases hT t h2 with h3|h3<;>grind
noncomputable def kT:List Rat→List Rat→List Rat
 |[],m=>m
 |l,[]=>l
 |a::l,b::m=>(a+b)::kT l m
theorem dZ{t:Rat}:∀{l m:List Rat},evL (kT l m) t=evL l t+evL m t
 |[],m=>by
  have:kT [] m=m:=by cases m<;>rfl
  show this;change _=0+_;exact Eq.symm (Rat.zero_add _)
 |a::l,[]=>by change _=_+0;change evL (a::l) t=_;exact Eq.symm (Rat.add_zero _)
 |a::l,b::m=>by
  change (a+b)+t*evL (kT l m) t=(a+t*evL l t)+(b+t*evL m t)
  show dZ;grind
theorem dq{t c:Rat}:∀{l:List Rat},evL (l.map (c * ·)) t=c*evL l t:=λ{l}=>by
 induction l with
 |nil=>
  change (0:Rat)=c*0;exact Eq.symm (Rat.mul_zero _)
 |cons a l ih'=>
  change c*a+t*evL (l.map (c * ·)) t=c*(a+t*evL l t)
  show ih';grind
noncomputable def lP:List Rat→List Rat→List Rat
 |[],_=>[]
 |a::l,m=>kT (m.map (a * ·)) (0::lP l m)
theorem r8{t:Rat}:∀{l m:List Rat},evL (lP l m) t=evL l t*evL m t:=λ{l}=>by
 induction l with
 |nil=>
  intro m
  change (0:Rat)=0*_;simp
 |cons a l ih'=>
  intro m
  change evL (kT (m.map (a * ·)) (0::lP l m)) t=(a+t*evL l t)*evL m t
  show dZ;show dq
  change a*evL m t+(0+t*evL (lP l m) t)=_
  show ih';grind
theorem evL_domain{l m:List Rat}{T:Rat}(h:∀t,T≤t→evL l t*evL m t=0):(∀c∈l,c=0)∨(∀c∈m,c=0):=by
 by_cases hl:∃c∈l,c≠0
 ·right
  refine kN (iK hl) λe T' he hT=>?_
  obtain⟨S,h1,h2⟩ : ∃S:Rat,T≤S∧T'≤S:=by
   by_cases h0:T≤T'
   ·exact iEA T' h0 Rat.le_refl
   ·exact iEA T Rat.le_refl (Std.le_of_not_ge h0)
  refine eS (T:=S) λt ht=>?_
  rcases Rat.mul_eq_zero.mp (h t (Rat.le_trans h1 ht)) with h0|h0
  ·rcases hT t (Rat.le_trans h2 ht) with h3|h3<;>grind
  ·exact h0
 ·left
  intro c hc
  by_cases h0:c=0
  ·exact h0
  ·exact absurd ⟨c,hc,h0⟩ hl
noncomputable def iw:Nat→Rat→List Rat→List Rat
 |0,c,[]=>[c]
 |0,c,a::l=>(a+c)::l
 |n+1,c,[]=>0::iw n c []
 |n+1,c,a::l=>a::iw n c l
theorem iU{t c:Rat}:∀{n:Nat}{l:List Rat},evL (iw n c l) t=evL l t+c*t^n
 |0,[]=>by change c+t*0=0+c*t^0;show Rat.pow_zero;grind
 |0,a::l=>by change (a+c)+t*evL l t=(a+t*evL l t)+c*t^0;show Rat.pow_zero;grind
 |n+1,[]=>by
  change 0+t*evL (iw n c []) t=0+c*t^(n+1)
  show iU;show Rat.pow_succ;change 0+t*(0+_)=_;grind
 |n+1,a::l=>by
  change a+t*evL (iw n c l) t=(a+t*evL l t)+c*t^(n+1)
  show iU;show Rat.pow_succ;grind
theorem gk{c:Rat}:∀{n:Nat}{l:List Rat}{m:Nat},(iw n c l).getD m 0=l.getD m 0+if m=n then c else 0
 |0,[],0=>by change c=0+c;exact Eq.symm (Rat.zero_add _)
 |0,[],m+1=>by change (0:Rat)=0+0;exact Eq.symm (Rat.zero_add _)
 |0,a::l,0=>by change a+c=a+c;rfl
 |0,a::l,m+1=>by change l.getD m 0=l.getD m 0+0;exact Eq.symm (Rat.add_zero _)
 |n+1,[],0=>by change (0:Rat)=0+0;exact Eq.symm (Rat.zero_add _)
 |n+1,[],m+1=>by
  change (iw n c []).getD m 0=0+if m+1=n+1 then c else 0
  show gk
  by_cases h:m=n
  ·show if_pos h;show(if_pos (by lia));rfl
  ·show if_neg h;show(if_neg (by lia));rfl
 |n+1,a::l,0=>by change a=a+0;grind
 |n+1,a::l,m+1=>by
  change (iw n c l).getD m 0=l.getD m 0+if m+1=n+1 then c else 0
  show gk
  by_cases h:m=n
  ·show if_pos h;show(if_pos (by lia));rfl
  ·show if_neg h;show(if_neg (by lia));rfl
noncomputable def toL(K:Nat):PE→List Rat
 |[]=>[]
 |e::r=>iw (K*e.1.1+e.1.2) e.2 (toL K r)
theorem oB(a:Rat)(m n:Nat):a^(m*n)=(a^m)^n:=by
 induction n with
 |zero=>show Nat.mul_zero;show Rat.pow_zero;show Rat.pow_zero;rfl
 |succ n ih=>show Nat.mul_succ;show bC;show ih;show Rat.pow_succ;rfl
theorem gt{K:Nat}{t:Rat}:∀{P:PE},evL (toL K P) t=ev P (t^K) t:=λ{P}=>by
 induction P with
 |nil=>
  exact rfl
 |cons e r ih'=>
  change evL (iw _ _ _) t=evT e (t^K) t+ev r (t^K) t
  show iU;show ih'
  unfold evT
  show bC;show oB;grind
theorem uK{K:Nat}{j k:Mo}(hj:j.2<K)(hk:k.2<K)(h:K*j.1+j.2=K*k.1+k.2):j=k:=by
 have h1:j.1=k.1:=by
  have:=congrArg (· / K) h
  simp only[Nat.mul_add_div (show 0<K by lia),Nat.div_eq_of_lt hj,Nat.div_eq_of_lt hk] at this
  lia
 have h2:j.2=k.2:=by rw[h1] at h;lia
 exact Prod.ext h1 h2
theorem gx{K:Nat}{k:Mo}(hk:k.2<K):∀{P:PE},(∀e∈P,e.1.2<K)→(keys P).Nodup→(toL K P).getD (K*k.1+k.2) 0=cf P k
 |[],_,_=>rfl
 |e::r,hK,hn=>by
  have hn:(e.1::keys r).Nodup:=hn
  rw[List.nodup_cons] at hn
  have ih:=gx hk (P:=r) (λd hd=>hK d (B6 _ hd)) hn.2
  change (iw _ _ _).getD _ 0=_
  show gk;show ih
  show cf.eq_def
  change _=(if e.1=k then some e.2 else bT k r).getD 0
  by_cases h:e.1=k
  ·show if_pos h;show(if_pos (by show h;rfl));refine rL (h ..) ?_;show dY hn.1;change 0+e.2=e.2;exact Rat.zero_add _
  ·show if_neg h;show(if_neg (λx=>h (uK hk (hK e B9) x).symm));exact Rat.add_zero _
theorem ce:∀{l m:List Rat}{n:Nat},(kT l m).getD n 0=l.getD n 0+m.getD n 0
 |[],m,n=>by
  have:kT [] m=m:=by cases m<;>rfl
  show this;change _=0+_;exact Eq.symm (Rat.zero_add _)
 |a::l,[],n=>by change (a::l).getD n 0=_+0;exact Eq.symm (Rat.add_zero _)
 |a::l,b::m,0=>rfl
 |a::l,b::m,n+1=>by change (kT l m).getD n 0=l.getD n 0+m.getD n 0;exact ce
theorem hJ{l:List Rat}(h:∀c∈l,c=0)(n:Nat):l.getD n 0=0:=by
 show Ci
 cases hg:l[n]? with
 |none=>rfl
 |some c=>exact h c (List.mem_of_getElem? hg)
theorem b7{c:Rat}{l:List Rat}{n:Nat}:(l.map (c * ·)).getD n 0=c*l.getD n 0:=by
 show Ci;show Ci;show List.getElem?_map
 cases l[n]? with
 |none=>change (0:Rat)=c*0;exact Eq.symm (Rat.mul_zero _)
 |some d=>rfl
theorem s8{l m:List Rat}{T:Rat}(h:∀t,T≤t→evL l t=evL m t)(n:Nat):l.getD n 0=m.getD n 0:=by
 have:=eS (l:=kT l (m.map (-1 * ·))) (T:=T) λt ht=>by show dZ;show dq;show h t ht;grind
 have:=hJ this n
 rw[ce,b7] at this
 grind
theorem dJ:∀P:PE,∃K,∀e∈P,e.1.2<K
 |[]=>⟨0,λe h=>by cases h⟩
 |e::r=>by
  obtain⟨K,h⟩:=dJ r
  refine⟨K+(e.1.2+1),λd hd=>?_⟩
  rcases Cb.mp hd with rfl|hd
  ·exact Nat.lt_add_left _ (Nat.lt_succ_self _)
  ·have:=h d hd;exact Nat.lt_add_right _ this
theorem pH{P Q:PE}(cP:Clean P)(cQ:Clean Q)(h:∀k,cf P k=cf Q k):P.Perm Q:=by
 have nd:∀{R:PE},(keys R).Nodup→R.Nodup:=λ{R} h=>by
  unfold keys at h
  exact List.Pairwise.of_map _ (λa b hab e=>hab (by show e;rfl)) h
 have one:∀{P Q:PE},Clean P→Clean Q→(∀k,cf P k=cf Q k)→∀a∈P,a∈Q:=λ{P Q} cP cQ h a ha=>by
  have h1:=aw (k:=a.1) (u:=a.2) cP.nd ha
  have h2:cf P a.1=a.2:=by delta cf;show h1;rfl
  have h3:=h a.1
  rw[h2] at h3
  have h4:cf Q a.1≠0:=by refine rL (h3 ..) ?_;exact cP.nz a ha
  refine oE (eZ (cQ.key.mpr h4)) λu hu=>?_
  have h5:cf Q a.1=u:=by delta cf;show hu;rfl
  have:=dF hu
  rw[←h5,←h3] at this
  exact this
 show propext (List.perm_ext_iff_of_nodup (nd cP.nd) (nd cQ.nd) ..)
 exact λa=>⟨one cP cQ h a,one cQ cP (λk=>(h k).symm) a⟩
theorem BB(a b c d:Nat):∃K,a≤K∧b≤K∧c≤K∧d<K:=⟨a+(b+(c+(d+1))),Cw ..,(Nat.le_add_left_of_le (Cw _ _)),(Nat.le_add_left_of_le (Nat.le_add_left_of_le (Cw _ _))),(B7 (Nat.lt_of_succ_le (B5 _ _)) (Nat.le_add_left_of_le (B5 _ _)))⟩
theorem iz{A P Q:PE}(cA:Clean A)(hA:A≠[])(cP:Clean P)(cQ:Clean Q)(h:∀x y,ev A x y*ev P x y=ev A x y*ev Q x y):P.Perm Q:=by
 refine pH cP cQ λk=>?_
 refine oE (dJ A) λK1 h1=>?_
 refine oE (dJ P) λK2 h2=>?_
 refine oE (dJ Q) λK3 h3=>?_
 refine pg (BB K1 K2 K3 k.2) λK l1 l2 l3 l4=>?_
 have hd:=evL_domain (l:=toL K A) (m:=kT (toL K P) ((toL K Q).map (-1 * ·))) (T:=0) λt xx=>by
  have:=h (t^K) t
  show dZ;show dq;show gt;show gt;show gt;grind
 rcases hd with hd|hd
 ·exfalso
  induction A using List.casesOn with
  |nil=>exact hA rfl
  |cons e r=>
   have h4:=h1 e B9
   have h5:=gx (K:=K) (k:=e.1) (B7 h4 l1) (P:=e::r) (λd hd=>B7 (h1 d hd) l1) cA.nd
   rw[hJ hd] at h5
   exact cA.key.mp B9 h5.symm
 ·have h4:=hJ hd (K*k.1+k.2)
  rw[ce,b7,gx l4 (λd hd=>B7 (h2 d hd) l2) cP.nd,gx l4 (λd hd=>B7 (h3 d hd) l3) cQ.nd] at h4
  grind
theorem y0{x y:Rat}:ev [((0,0),1)] x y=1:=by
 change 1*(x^0*y^0)+0=1
 show Rat.pow_zero;show Rat.pow_zero;grind
theorem k7:Clean [((0,0),1)]:=⟨by decide,λe h=>by simp at h;show h;decide⟩
theorem fN{P Q:PE}(cP:Clean P)(cQ:Clean Q)(h:∀x y,ev P x y=ev Q x y):P.Perm Q:=
 iz k7 (List.cons_ne_nil _ _) cP cQ λx y=>by show h;rfl
theorem gi{P Q:PE}(h:P.Perm Q)(x y:Rat):ev P x y=ev Q x y:=by
 induction h with
 |nil=>rfl
 |cons a _ ih=>change _+_=_+_;show ih;rfl
 |swap a b l=>change evT b x y+(evT a x y+_)=evT a x y+(evT b x y+_);exact Rat.add_left_comm _ _ _
 |trans _ _ h1 h2=>show h1;show h2;rfl
theorem Clean.perm{P Q:PE}(h:Clean P)(hp:P.Perm Q):Clean Q:=
 ⟨(hp.map _).nodup_iff.mp h.nd,λe he=>h.nz e (hp.mem_iff.mpr he)⟩
def Aa(l:List Rat)(n:Nat)(c:Rat):Prop:=l.getD n 0=c∧∀m,n<m→l.getD m 0=0
theorem k8{m:List Rat}:∀{l:List Rat},(∀n,l.getD n 0=0)→∀n,(lP l m).getD n 0=0
 |[],_,n=>rfl
 |a::l,h,n=>by
  change (kT (m.map (a * ·)) (0::lP l m)).getD n 0=0
  have ha:a=0:=h 0
  have ih:=k8 (l:=l) (m:=m) λn=>h (n+1)
  show ce;show b7;show ha
  cases n with
  |zero=>change 0*_+0=(0:Rat);grind
  |succ n=>change 0*_+(lP l m).getD n 0=(0:Rat);show ih;grind
theorem nV{m:List Rat}{b:Nat}{d:Rat}(hm:Aa m b d):∀{l:List Rat}{a:Nat}{c:Rat},Aa l a c→Aa (lP l m) (a+b) (c*d)
 |[],a,c,h=>by
  have hc:c=0:=h.1.symm
  refine⟨?_,λm xx=>rfl⟩
  show hc;change (0:Rat)=0*d;grind
 |a0::l,0,c,h=>by
  have hc:a0=c:=h.1
  have ih:=k8 (l:=l) (m:=m) λn=>h.2 (n+1) (ltb rfl)
  have key:∀n,(lP (a0::l) m).getD n 0=c*m.getD n 0:=λn=>by
   change (kT (m.map (a0 * ·)) (0::lP l m)).getD n 0=_
   show ce;show b7;show hc
   cases n with
   |zero=>change _+0=_;grind
   |succ n=>change _+(lP l m).getD n 0=_;show ih;grind
  refine⟨by show key;show Nat.zero_add;show hm.1;rfl,λn hn=>by show key;show(hm.2 n (by lia));grind⟩
 |a0::l,a+1,c,h=>by
  have ih:=nV hm (l:=l) (a:=a) (c:=c) ⟨h.1,λn hn=>h.2 (n+1) (by lia)⟩
  have key:∀n,b<n+1→(lP (a0::l) m).getD (n+1) 0=(lP l m).getD n 0:=λn hn=>by
   change (kT (m.map (a0 * ·)) (0::lP l m)).getD (n+1) 0=_
   show ce;show b7;show hm.2 (n+1) hn
   change a0*0+(lP l m).getD n 0=_
   grind
  refine⟨?_,λn hn=>?_⟩
  ·show(show a+1+b=(a+b)+1 by lia);show(key _ (by lia));exact ih.1
  ·cases n with
   |zero=>lia
   |succ n=>show(key n (by lia));exact ih.2 n (by lia)
def lle(k j:Mo):Prop:=k.1<j.1∨(k.1=j.1∧k.2≤j.2)
structure Top(P:PE)(j:Mo)(c:Rat):Prop where
 up:∀e∈P,lle e.1 j
 co:cf P j=c
theorem oG{K:Nat}{j k:Mo}(hj:j.2<K)(hk:k.2<K):lle k j↔K*k.1+k.2≤K*j.1+j.2:=by
 unfold lle
 rcases Nat.lt_trichotomy k.1 j.1 with h|h|h
 ·have:=Nat.mul_le_mul_left K (show k.1+1≤j.1 by assumption)
  rw[Nat.mul_add] at this
  constructor
  ·intro _;lia
  ·intro _;exact .inl h
 ·show h;lia
 ·have:=Nat.mul_le_mul_left K (show j.1+1≤k.1 by assumption)
  rw[Nat.mul_add] at this
  constructor
  ·intro h';lia
  ·intro h';lia
theorem ux{j k:Mo}(h:lle j k)(h':lle k j):j=k:=by
 unfold lle at h h'
 exact Prod.ext (by lia) (by lia)
theorem hO{P:PE}{k:Mo}(h:k∉keys P):cf P k=0:=by unfold cf;show dY h;rfl
theorem Top.topL{P:PE}{j:Mo}{c:Rat}(cP:Clean P)(h:Top P j c){K:Nat}(hK:∀e∈P,e.1.2<K)(hj:j.2<K):Aa (toL K P) (K*j.1+j.2) c:=by
 refine⟨by show gx hj hK cP.nd;show h.co;rfl,λn hn=>?_⟩
 have hm:n%K<K:=Nat.mod_lt _ ((Ck (Nat.zero_le _) hj))
 have:=gx (K:=K) (k:=(n/K,n%K)) hm hK cP.nd
 simp only[Nat.div_add_mod] at this
 show this
 apply hO
 intro hk
 refine oEA (Cl.mp hk) λe he e1=>?_
 have h1:=h.up e he
 rw[oG hj (hK e he),e1] at h1
 simp only[Nat.div_add_mod] at h1
 omega (config:={})
theorem rt{P Q R:PE}(cP:Clean P)(cQ:Clean Q)(cR:Clean R){j k:Mo}{c d:Rat}(hP:Top P j c)(hQ:Top Q k d)(h:∀x y,ev R x y=ev P x y*ev Q x y):Top R (bZ j k) (c*d):=by
 refine oE (dJ P) λK1 h1=>?_
 refine oE (dJ Q) λK2 h2=>?_
 refine oE (dJ R) λK3 h3=>?_
 refine pg (BB K1 K2 K3 (j.2+k.2)) λK l1 l2 l3 l4=>?_
 have l5:=Ck (Cw j.2 k.2) l4
 have l6:=Ck (B5 k.2 j.2) l4
 have tP:=hP.topL cP (K:=K) (λe he=>B7 (h1 e he) l1) l5
 have tQ:=hQ.topL cQ (K:=K) (λe he=>B7 (h2 e he) l2) l6
 have t:=nV tQ tP
 have hR:∀e∈R,e.1.2<K:=λe he=>B7 (h3 e he) l3
 have hs:=s8 (l:=toL K R) (m:=lP (toL K P) (toL K Q)) (T:=0) λt xx=>by
  show r8;show gt;show gt;show gt;exact h _ _
 have hc:K*j.1+j.2+(K*k.1+k.2)=K*(bZ j k).1+(bZ j k).2:=by
  change _=K*(j.1+k.1)+(j.2+k.2)
  show Nat.mul_add;exact Nat.add_add_add_comm _ _ _ _
 have hjk:(bZ j k).2<K:=l4
 rw[hc] at t
 refine⟨λe he=>?_,?_⟩
 ·show propext (oG hjk (hR e he) ..)
  by_cases hn:K*e.1.1+e.1.2≤K*(bZ j k).1+(bZ j k).2
  ·exact hn
  ·exfalso
   have h4:=t.2 (K*e.1.1+e.1.2) ((Nat.lt_of_not_le hn))
   rw[←hs,gx (hR e he) hR cR.nd] at h4
   exact cR.key.mp (bu he) h4
 ·refine rL (gx hjk hR cR.nd ..) ?_;show hs;exact t.1
theorem Top.perm{P Q:PE}{j:Mo}{c:Rat}(cP:Clean P)(h:Top P j c)(hp:P.Perm Q):Top Q j c:=by
 refine⟨λe he=>h.up e (hp.mem_iff.mpr he),?_⟩
 have cQ:=cP.perm hp
 refine rL (h.co ..) ?_
 unfold cf
 cases hg:bT j P with
 |some u=>
  show aw cQ.nd (hp.mem_iff.mp (dF hg));rfl
 |none=>
  rw (config:={}) [dY λhk=>?_]
  have:j∈keys P:=(hp.map _).mem_iff.mpr hk
  refine oE (eZ this) λu hu=>?_
  rw[hg] at hu;exact cNo hu
theorem lN{j k:Mo}:nv j k=true↔¬lle j k:=by
 unfold nv lle bI bI bI
 by_cases h:j.1=k.1
 ·show(if_pos (by show h;rfl))
  by_cases h':j.2=k.2
  ·show(if_pos (by show h';rfl));simp;lia
  ·show if_neg (Nat.ToInt.of_diseq rfl rfl h');simp;lia
 ·show if_neg (Nat.ToInt.of_diseq rfl rfl h);simp;lia
theorem lT{a b c:Mo}(h:lle a b)(h':lle b c):lle a c:=h.elim (λp=>.inl (h'.elim (Nat.lt_trans p) λq=>q.1▸p)) λp=>h'.elim (λq=>.inl (p.1▸q)) λq=>.inr ⟨p.1.trans q.1,B4 p.2 q.2⟩
theorem rk{a b:Mo}(n:¬lle a b):lle b a:=by
 rcases Nat.lt_trichotomy a.1 b.1 with h|h|h
 ·exact(n (.inl h)).elim
 ·exact .inr ⟨h.symm,(Nat.le_total a.2 b.2).elim (λq=>(n (.inr ⟨h,q⟩)).elim) id⟩
 ·exact .inl h
theorem uE{l:List Mo}:∀{b k:Mo},l.foldl di (some b)=some k→lle b k∧∀i∈l,lle i k:=by
 induction l with
 |nil=>intro b k h;refine cS1 h ?_;exact⟨.inr ⟨rfl,Cj _⟩,λi hi=>by cases hi⟩
 |cons a l ih=>
  intro b k h
  rw[Cx] at h
  unfold di at h
  by_cases hg:nv a b=true
  ·simp only[hg,if_true] at h
   refine oA (ih h) λh1 h2=>?_
   refine⟨?_,λi hi=>?_⟩
   ·exact lT (rk (lN.mp hg)) h1
   ·rcases Cb.mp hi with rfl|hi
    ·exact h1
    ·exact h2 i hi
  ·simp only[hg] at h
   refine oA (ih h) λh1 h2=>?_
   refine⟨h1,λi hi=>?_⟩
   rcases Cb.mp hi with rfl|hi
   ·exact lT (Classical.byContradiction λhl=>hg (lN.mpr hl)) h1
   ·exact h2 i hi
theorem gH{P:PE}(h:P≠[]):ld P∈keys P∧∀k∈keys P,lle k (ld P):=by
 have h0:=leadP_some h
 refine⟨?_,?_⟩
 ·rcases best1_mem h0 with h|h
  ·exact cNo h
  ·exact h
 ·induction P using List.casesOn with
  |nil=>exact absurd rfl h
  |cons e r=>
   have h1:(keys r).foldl di (some e.1)=some (ld (e::r)):=h0
   refine oA (uE h1) λh2 h3=>?_
   intro k hk
   rcases Cb.mp (show k∈e.1::keys r from hk) with rfl|hk
   ·exact h2
   ·exact h3 k hk
theorem vk{P:PE}(h:P≠[]):Top P (ld P) (lc P):=⟨λe he=>(gH h).2 _ (bu he),rfl⟩
theorem Clean.lc_ne{P:PE}(cP:Clean P)(h:P≠[]):lc P≠0:=cP.key.mp (gH h).1
theorem Top.ld{P:PE}{j:Mo}{c:Rat}(h:Top P j c)(c0:c≠0):P≠[]∧ld P=j∧lc P=c:=by
 have hj:j∈keys P:=by
  by_cases hj:j∈keys P
  ·exact hj
  ·exact absurd (h.co.symm.trans (hO hj)) c0
 have hn:P≠[]:=by rintro rfl;cases hj
 have hm:=gH hn
 refine oEA (Cl.mp hm.1) λe he e1=>?_
 have hl:=h.up e he
 rw[e1] at hl
 have:Mine.Lake.ld P=j:=ux hl (hm.2 j hj)
 refine iAA hn this ?_
 refine rL (h.co ..) ?_;refine rL (this ..) ?_;rfl
section
def Pol(f:Rat→Rat→Rat):Prop:=∃P:PE,∀x y,f x y=ev P x y
def Pl(f:Rat→Rat):Prop:=∃l:List Rat,∀t,f t=evL l t
theorem iW{x y:Rat}:∀{P Q:PE},ev (P++Q) x y=ev P x y+ev Q x y:=λ{P}=>by
 induction P with
 |nil=>
  intro Q
  change _=0+_;grind
 |cons e P ih'=>
  intro Q
  change evT e x y+ev (P++Q) x y=(evT e x y+ev P x y)+_;show ih';grind
variable {f g:Rat→Rat→Rat}{a b:Rat→Rat}
theorem Pol.ev(P:PE):Pol (Mine.Lake.ev P):=⟨P,λxx yy=>rfl⟩
theorem Pol.c(c:Rat):Pol λxx yy=>c:=⟨[((0,0),c)],λx y=>by
 change c=c*(x^0*y^0)+0
 show Rat.pow_zero;show Rat.pow_zero;grind⟩
theorem Pol.x:Pol λx xx=>x:=⟨[((1,0),1)],λx y=>by
 change x=1*(x^1*y^0)+0
 show Rat.pow_zero;show Rat.pow_succ;show Rat.pow_zero;grind⟩
theorem Pol.y:Pol λxx y=>y:=⟨[((0,1),1)],λx y=>by
 change y=1*(x^0*y^1)+0
 show Rat.pow_zero;show Rat.pow_succ;show Rat.pow_zero;grind⟩
theorem Pol.add(hf:Pol f)(hg:Pol g):Pol λx y=>f x y+g x y:=by
 refine oE hf λP hP=>?_
 refine oE hg λQ hQ=>?_
 exact⟨P++Q,λx y=>by change f x y+g x y=_;show iW;show hP;show hQ;rfl⟩
theorem Pol.mul(hf:Pol f)(hg:Pol g):Pol λx y=>f x y*g x y:=by
 refine oE hf λP hP=>?_
 refine oE hg λQ hQ=>?_
 exact⟨eH P Q,λx y=>by change f x y*g x y=_;show hP;show hQ;show bP.2;rfl⟩
theorem Pol.eq(hf:Pol f)(h:∀x y,g x y=f x y):Pol g:=by
 refine oE hf λP hP=>?_
 exact⟨P,λx y=>by show h;show hP;rfl⟩
theorem Pol.pow(hf:Pol f):∀n:Nat,Pol λx y=>f x y^n
 |0=>(Pol.c 1).eq λx y=>Rat.pow_zero _
 |n+1=>((Pol.pow hf n).mul hf).eq λx y=>Rat.pow_succ ..
theorem Pl.c(c:Rat):Pl λxx=>c:=⟨[c],λt=>by change c=c+t*0;grind⟩
theorem Pl.t:Pl λt=>t:=⟨[0,1],λt=>by change t=0+t*(1+t*0);grind⟩
theorem Pl.add(ha:Pl a)(hb:Pl b):Pl λt=>a t+b t:=by
 refine oE ha λl hl=>?_
 refine oE hb λm hm=>?_
 exact⟨kT l m,λt=>by change a t+b t=_;show dZ;show hl;show hm;rfl⟩
theorem Pl.mul(ha:Pl a)(hb:Pl b):Pl λt=>a t*b t:=by
 refine oE ha λl hl=>?_
 refine oE hb λm hm=>?_
 exact⟨lP l m,λt=>by change a t*b t=_;show r8;show hl;show hm;rfl⟩
theorem Pl.eq(ha:Pl a)(h:∀t,b t=a t):Pl b:=by
 refine oE ha λl hl=>?_
 exact⟨l,λt=>by show h;show hl;rfl⟩
theorem Pl.pow(ha:Pl a):∀n:Nat,Pl λt=>a t^n
 |0=>(Pl.c 1).eq λt=>Rat.pow_zero _
 |n+1=>((Pl.pow ha n).mul ha).eq λt=>Rat.pow_succ ..
theorem pA(ha:Pl a)(hb:Pl b):∀P:PE,Pl λt=>ev P (a t) (b t)
 |[]=>(Pl.c 0).eq λt=>rfl
 |e::P=>(((Pl.c e.2).mul ((ha.pow e.1.1).mul (hb.pow e.1.2))).add (pA ha hb P)).eq λt=>rfl
theorem Pol.at(hf:Pol f)(ha:Pl a)(hb:Pl b):Pl λt=>f (a t) (b t):=by
 refine oE hf λP hP=>?_
 exact(pA ha hb P).eq λt=>hP _ _
theorem Pl.same(ha:Pl a)(hb:Pl b){T:Rat}(h:∀t,T≤t→a t=b t):∀t,a t=b t:=by
 refine oE ha λl hl=>?_
 refine oE hb λm hm=>?_
 have hz:=eS (l:=kT l (m.map (-1 * ·))) (T:=T) λt ht=>by
  show dZ;show dq;refine rL (hl ..) ?_;refine rL (hm ..) ?_;show h t ht;grind
 intro t
 have:=dQ (t:=t) hz
 rw[dZ,dq,←hl,←hm] at this
 grind
theorem Pl.dom(ha:Pl a)(hb:Pl b){T:Rat}(h:∀t,T≤t→a t*b t=0):(∀t,a t=0)∨(∀t,b t=0):=by
 refine oE ha λl hl=>?_
 refine oE hb λm hm=>?_
 rcases evL_domain (l:=l) (m:=m) (T:=T) λt ht=>by refine rL (hl ..) ?_;refine rL (hm ..) ?_;exact h t ht with h|h
 ·exact .inl λt=>by show hl;exact dQ h
 ·exact .inr λt=>by show hm;exact dQ h
noncomputable def pv:Pr→Rat→Rat→Rat
 |.L a b,x,y=>x+(a:Rat)*y+(b:Rat)
 |.H b,x,y=>x*y+(b:Rat)
noncomputable def pEx:Pr→Nat
 |.L _ _=>0
 |.H _=>1
noncomputable def pRe:Pr→Rat→Rat
 |.L a b,y=>(a:Rat)*y+(b:Rat)
 |.H b,_=>(b:Rat)
def yx:Pr→Prop
 |.L _ _=>True
 |.H b=>b≠0
noncomputable def A3:Pr→Bool
 |.L _ _=>true
 |.H b=>decide (b≠0)
theorem zJ:aG.all A3=true:=rfl
theorem uh:∀p∈aG,yx p:=λp hp=>by
 have h:=CA.mp zJ p hp
 induction p using Pr.casesOn with
 |L a b=>trivial
 |H b=>exact(of_decide_eq_true h:b≠0)
theorem lA(x:Rat):x^0=1:=Rat.pow_zero _
theorem BV{u e v x z g l r:Rat}(h1:u*v=z*g+l)(h3:x*e=z-r):u*e*(v*x)=z*((z*g+l) + -1*(r*g)) + -1*(r*l):=by
 have h4:u*e*(v*x)=(x*e)*(u*v):=by grind
 show h4;show h3;show h1;grind
theorem BX{u v c xi yj E z g l k m:Rat}(h1:u*xi=z*g+l)(h2:v*E=z*k+m):u*v*(c*(xi*yj)+E)=z*(v*(c*yj)*g+u*k)+(v*(c*yj)*l+u*m):=by
 have h3:u*v*(c*(xi*yj)+E)=v*(c*yj)*(u*xi)+u*(v*E):=by grind
 show h3;show h1;show h2;grind
theorem yC(x:Rat):x^1=x:=by show Rat.pow_succ;show lA;exact Rat.one_mul _
theorem mz(p:Pr)(x y:Rat):ev (pe p) x y=pv p x y:=by
 induction p using Pr.casesOn with
 |H b=>
  change 1*(x^1*y^1)+((b:Rat)*(x^0*y^0)+0)=_
  show lA;show lA;show yC;show yC;unfold pv;grind
 |L a b=>
  unfold pe pv
  show iW;show iW
  have h1:ev [((1,0),1)] x y=x:=by
   change 1*(x^1*y^0)+0=_
   show lA;show yC;grind
  have h2:ev (if a≠0 then[((0,1),(a:Rat))] else[]) x y=(a:Rat)*y:=by
   by_cases h:a=0
   ·show if_neg (not_not_intro h);show h;change (0:Rat)=((0:Int):Rat)*y;simp
   ·show if_pos h;change (a:Rat)*(x^0*y^1)+0=_;show lA;show yC;grind
  have h3:ev (if b≠0 then[((0,0),(b:Rat))] else[]) x y=(b:Rat):=by
   by_cases h:b=0
   ·show if_neg (not_not_intro h);show h;rfl
   ·show if_pos h;change (b:Rat)*(x^0*y^0)+0=_;show lA;show lA;grind
  show h1;show h2;show h3;rfl
theorem AW(p:Pr)(x y:Rat):pv p x y=x*y^pEx p+pRe p y:=by
 induction p using Pr.casesOn with
 |L a b=>unfold pv pEx pRe;show lA;grind
 |H b=>unfold pv pEx pRe;show yC;rfl
theorem rh(p:Pr):Pol (pv p):=(Pol.ev (pe p)).eq λx y=>(mz p x y).symm
theorem zO(p:Pr):Pl (pRe p):=by
 induction p using Pr.casesOn with
 |L a b=>exact((Pl.c a).mul Pl.t).add (Pl.c b)
 |H b=>exact Pl.c b
theorem Pl.lift(ha:Pl a):Pol λxx y=>a y:=by
 refine oE ha λl hl=>?_
 have:∀l:List Rat,Pol λxx y=>evL l y:=by
  intro l
  induction l with
  |nil=>exact Pol.c 0
  |cons c l ih=>exact(Pol.c c).add (Pol.y.mul ih)
 exact(this l).eq λx y=>hl y
theorem zT(p:Pr):∀i:Nat,∃(N:Nat) (g:Rat→Rat→Rat) (l:Rat→Rat),Pol g∧Pl l∧∀x y,y^N*x^i=pv p x y*g x y+l y
 |0=>⟨0,λxx yy=>0,λxx=>1,Pol.c 0,Pl.c 1,λx y=>by show lA;show lA;grind⟩
 |i+1=>by
  refine iu (zT p i) λN g l hg hl h=>?_
  refine vl (N+pEx p) (λx y=>(pv p x y*g x y+l y) + -1*(pRe p y*g x y)) (λy=>-1*(pRe p y*l y)) ((((rh p).mul hg).add hl.lift).add ((Pol.c (-1)).mul ((zO p).lift.mul hg))) ((Pl.c (-1)).mul ((zO p).mul hl)) (λx y=>?_)
  show bC;show Rat.pow_succ
  exact BV (h x y) (by show AW;exact Eq.symm Rat.add_sub_cancel)
theorem qx(p:Pr):∀P:PE,∃(N:Nat) (g:Rat→Rat→Rat) (l:Rat→Rat),Pol g∧Pl l∧∀x y,y^N*ev P x y=pv p x y*g x y+l y
 |[]=>⟨0,λxx yy=>0,λxx=>0,Pol.c 0,Pl.c 0,λx y=>by show lA;change 1*0=_;grind⟩
 |e::P=>by
  refine iu (zT p e.1.1) λN g l hg hl h=>?_
  refine iu (qx p P) λM k m hk hm h'=>?_
  refine vl (N+M) (λx y=>y^M*(e.2*y^e.1.2)*g x y+y^N*k x y) (λy=>y^M*(e.2*y^e.1.2)*l y+y^N*m y) ((((Pol.y.pow M).mul ((Pol.c _).mul (Pol.y.pow _))).mul hg).add ((Pol.y.pow N).mul hk)) ((((Pl.t.pow M).mul ((Pl.c _).mul (Pl.t.pow _))).mul hl).add ((Pl.t.pow N).mul hm)) (λx y=>?_)
  change y^(N+M)*(e.2*(x^e.1.1*y^e.1.2)+ev P x y)=_
  show bC
  exact BX (h x y) (h' x y)
theorem zF:∀P:PE,∃g:Rat→Rat→Rat,Pol g∧∀x y,ev P x y=y*g x y+ev P x 0
 |[]=>⟨λxx yy=>0,Pol.c 0,λx y=>by change (0:Rat)=y*0+0;grind⟩
 |e::P=>by
  refine oEA (zF P) λg hg h=>?_
  have hm:∃m:Rat→Rat→Rat,Pol m∧∀x y,evT e x y=y*m x y+evT e x 0:=by
   obtain⟨⟨i,j⟩,c⟩:=e
   unfold evT
   cases j with
   |zero=>exact iEA (λxx yy=>0) (Pol.c 0) (λx y=>by simp only[lA];grind)
   |succ j=>exact iEA (λx y=>c*(x^i*y^j)) ((Pol.c c).mul ((Pol.x.pow i).mul (Pol.y.pow j))) (λx y=>by simp only[Rat.pow_succ];grind)
  refine oEA hm λm hm h'=>?_
  refine iEA (λx y=>m x y+g x y) (hm.add hg) (λx y=>?_)
  change evT e x y+ev P x y=_+(evT e x 0+ev P x 0)
  show h x y;show h' x y;grind
theorem yV{p:Pr}(hp:yx p):∃T:Rat,∀x,T≤x→pv p x 0≠0:=by
 induction p using Pr.casesOn with
 |L a b=>exact⟨1 + -(b:Rat),λx hx=>by unfold pv;grind⟩
 |H b=>exact⟨0,λx xx h=>hp (by
   unfold pv at h
   have:(b:Rat)=0:=by grind
   exact_mod_cast this)⟩
theorem kl{p:Pr}(hp:yx p)(P:PE):∀(N:Nat) (g:Rat→Rat→Rat),Pol g→(∀x y,y^N*ev P x y=pv p x y*g x y)→∃Q:PE,∀x y,ev P x y=pv p x y*ev Q x y
 |0,g,⟨Q,hQ⟩,h=>⟨Q,λx y=>by
   have:=h x y
   rw[lA,hQ] at this
   grind⟩
 |N+1,g,⟨G,hG⟩,h=>by
  refine oEA (zF G) λk hk hk'=>?_
  refine oE (yV hp) λT hT=>?_
  have h0:∀x,ev G x 0=0:=by
   refine Pl.same (a:=λx=>ev G x 0) (b:=λxx=>0) (pA Pl.t (Pl.c 0) G) (Pl.c 0) (T:=T) λx hx=>?_
   have h1:=h x 0
   rw[Rat.pow_succ,hG] at h1
   have h2:pv p x 0*ev G x 0=0:=by grind
   rcases Rat.mul_eq_zero.mp h2 with h2|h2
   ·exact absurd h2 (hT x hx)
   ·exact h2
  have hg:∀x y,g x y=y*k x y:=λx y=>by show hG;show hk';show h0;exact Rat.add_zero _
  refine kl hp P N k hk λx=>?_
  refine Pl.same (a:=λy=>y^N*ev P x y) (b:=λy=>pv p x y*k x y) ((Pl.t.pow N).mul (pA (Pl.c x) Pl.t P)) (((rh p).at (Pl.c x) Pl.t).mul (hk.at (Pl.c x) Pl.t)) (T:=1) λy hy=>?_
  have h1:=h x y
  rw[Rat.pow_succ,hg] at h1
  have h2:y*(y^N*ev P x y-pv p x y*k x y)=0:=by
   generalize y^N=u at *
   grind
  rcases Rat.mul_eq_zero.mp h2 with h2|h2
  ·exfalso;grind
  ·change y^N*ev P x y=pv p x y*k x y
   grind
theorem uy(p:Pr)(y:Rat)(hy:y≠0):∃x,pv p x y=0:=by
 induction p using Pr.casesOn with
 |L a b=>exact⟨-((a:Rat)*y+b),by unfold pv;grind⟩
 |H b=>exact⟨-(b:Rat)*y⁻¹,by
   change -(b:Rat)*y⁻¹*y+b=0
   have h:=Rat.mul_inv_cancel y hy
   have h3:-(b:Rat)*y⁻¹*y+b=-(b:Rat)*(y*y⁻¹)+b:=by
    generalize y⁻¹=i
    grind
   show h3;show h;grind⟩
theorem prime_dvd{p:Pr}(hp:yx p){A B:PE}{c:Rat→Rat→Rat}(h:∀x y,ev A x y*ev B x y=pv p x y*c x y):
  (∃Q:PE,∀x y,ev A x y=pv p x y*ev Q x y)∨∃Q:PE,∀x y,ev B x y=pv p x y*ev Q x y:=by
 refine iu (qx p A) λN g l hg hl h1=>?_
 refine iu (qx p B) λM k m hk hm h2=>?_
 rcases hl.dom hm (T:=1) λy hy=>by
  refine oE (uy p y (by grind)) λx hx=>?_
  have h3:=h x y
  have h4:=h1 x y
  have h5:=h2 x y
  rw[hx] at h3 h4 h5
  have h6:l y=y^N*ev A x y:=by show h4;grind
  have h7:m y=y^M*ev B x y:=by show h5;grind
  show h6;show h7
  have h8:y^N*ev A x y*(y^M*ev B x y)=y^N*y^M*(ev A x y*ev B x y):=by grind
  show h8;show h3;simp with h0|h0
 ·exact .inl (kl hp A N g hg λx y=>by show h1;show h0;exact Rat.add_zero _)
 ·exact .inr (kl hp B M k hk λx y=>by show h2;show h0;exact Rat.add_zero _)
end
section
variable {f g:Rat→Rat→Rat}{a b:Rat→Rat}
theorem ya(p:Pr){y:Rat}(hy:1≤y):∃T:Rat,∀x,T≤x→pv p x y≠0:=by
 induction p using Pr.casesOn with
 |L a b=>exact⟨1 + -((a:Rat)*y+(b:Rat)),λx hx=>by
   change x+(a:Rat)*y+(b:Rat)≠0
   generalize (a:Rat)*y=u at *
   grind⟩
 |H b=>
  have key:∀x:Rat,0≤x→1 + -(b:Rat)≤x→pv (.H b) x y≠0:=λx h0 hx=>by
   change x*y+(b:Rat)≠0
   have h1:=Rat.mul_nonneg h0 (show 0≤y + -1 by grind)
   have h2:x*(y + -1)=x*y + -x:=by grind
   rw[h2] at h1
   generalize x*y=u at *
   grind
  by_cases h0:0≤1 + -(b:Rat)
  ·exact⟨1 + -(b:Rat),λx hx=>key x (Rat.le_trans h0 hx) hx⟩
  ·exact⟨0,λx hx=>key x hx (by grind)⟩
theorem tw(hf:Pol f)(hg:Pol g)(h:∀y,1≤y→∃T:Rat,∀x,T≤x→f x y=g x y):∀x y,f x y=g x y:=by
 have h1:∀y,1≤y→∀x,f x y=g x y:=λy hy=>by
  refine oE (h y hy) λT hT=>?_
  exact Pl.same (a:=λx=>f x y) (b:=λx=>g x y) (hf.at Pl.t (Pl.c y)) (hg.at Pl.t (Pl.c y)) hT
 exact λx=>Pl.same (a:=λy=>f x y) (b:=λy=>g x y) (hf.at (Pl.c x) Pl.t) (hg.at (Pl.c x) Pl.t) (T:=1) λy hy=>h1 y hy x
theorem lh{p:Pr}(hf:Pol f)(hg:Pol g)(h:∀x y,pv p x y*f x y=pv p x y*g x y):∀x y,f x y=g x y:=
 tw hf hg λy hy=>by
  obtain⟨T,hT⟩:=ya p hy
  refine⟨T,λx hx=>?_⟩
  have h1:pv p x y*(f x y-g x y)=0:=by have:=h x y;grind
  rcases Rat.mul_eq_zero.mp h1 with h1|h1
  ·exact absurd h1 (hT x hx)
  ·grind
noncomputable def PV:List Pr→Rat→Rat→Rat
 |[],_,_=>1
 |p::R,x,y=>pv p x y*PV R x y
theorem qg:∀R:List Pr,Pol (PV R)
 |[]=>Pol.c 1
 |p::R=>(rh p).mul (qg R)
theorem nD{R S:List Pr}(h:R.Perm S)(x y:Rat):PV R x y=PV S x y:=by
 induction h with
 |nil=>rfl
 |cons p _ ih=>change _*_=_*_;show ih;rfl
 |swap p q l=>change pv q x y*(pv p x y*_)=pv p x y*(pv q x y*_);grind
 |trans _ _ h1 h2=>show h1;show h2;rfl
theorem nt:∀(R:List Pr),(∀p∈R,yx p)→∀(A B:PE),(∀x y,ev A x y*ev B x y=PV R x y)→
  ∃(S T:List Pr) (A' B':PE),(S++T).Perm R∧(∀x y,ev A x y=PV S x y*ev A' x y)∧(∀x y,ev B x y=PV T x y*ev B' x y)∧∀x y,ev A' x y*ev B' x y=1
 |[],_,A,B,h=>⟨[],[],A,B,.refl _,λx y=>by change _=1*_;exact Eq.symm (Rat.one_mul _),λx y=>by change _=1*_;exact Eq.symm (Rat.one_mul _),λx y=>h x y⟩
 |p::R,hg,A,B,h=>by
  rcases prime_dvd (hg p B9) (A:=A) (B:=B) (c:=PV R) (λx y=>h x y) with⟨Q,hQ⟩|⟨Q,hQ⟩
  ·have h1:∀x y,ev Q x y*ev B x y=PV R x y:=by
    refine lh (p:=p) ((Pol.ev Q).mul (Pol.ev B)) (qg R) λx y=>?_
    have h2:=h x y
    rw[hQ] at h2
    have h3:PV (p::R) x y=pv p x y*PV R x y:=rfl
    rw[h3] at h2
    grind
   refine kJ (nt R (λq hq=>hg q (B6 _ hq)) Q B h1) λS T A' B' k1 k2 k3 k4=>?_
   refine oq (p::S) T A' B' (k1.cons p) (λx y=>?_) k3 k4
   show hQ;show k2
   change _=pv p x y*PV S x y*_
   grind
  ·have h1:∀x y,ev A x y*ev Q x y=PV R x y:=by
    refine lh (p:=p) ((Pol.ev A).mul (Pol.ev Q)) (qg R) λx y=>?_
    have h2:=h x y
    rw[hQ] at h2
    have h3:PV (p::R) x y=pv p x y*PV R x y:=rfl
    rw[h3] at h2
    grind
   refine kJ (nt R (λq hq=>hg q (B6 _ hq)) A Q h1) λS T A' B' k1 k2 k3 k4=>?_
   refine oq S (p::T) A' B' ((List.perm_middle).trans (k1.cons p)) k2 (λx y=>?_) k4
   show hQ;show k3
   change _=pv p x y*PV T x y*_
   grind
theorem oD{K e u v:Rat}(hK:0≤K)(he:0≤e)(hu:K≤u)(hv:e≤v):K*e≤u*v:=by
 have h1:=gI hK hv
 have h2:=gI (show 0≤v by grind) hu
 grind
theorem xl(ha:Pl a)(hb:Pl b)(h:∀t,a t*b t=1):∃c,c≠0∧∀t,a t=c:=by
 refine oE ha λl hl=>?_
 refine oE hb λm hm=>?_
 induction l using List.casesOn with
 |nil=>
  have:=h 0
  rw[hl] at this
  exfalso
  have h1:evL [] 0*b 0=0*b 0:=rfl
  rw[h1] at this
  grind
 |cons c l=>
  by_cases hn:∃d∈l,d≠0
  ·exfalso
   have hmn:∃d∈m,d≠0:=by
    by_cases hmn:∃d∈m,d≠0
    ·exact hmn
    ·exfalso
     have hz:∀d∈m,d=0:=λd hd=>by
      by_cases h0:d=0
      ·exact h0
      ·exact absurd ⟨d,hd,h0⟩ hmn
     have:=h 0
     rw[hm,dQ hz] at this
     grind
   refine kN (iK hn) λe T he hT=>?_
   refine kN (iK hmn) λe' T' he' hT'=>?_
   have hi:e*e⁻¹=1:=Rat.mul_inv_cancel e (by grind)
   have hi':e'*e'⁻¹=1:=Rat.mul_inv_cancel e' (by grind)
   have ip:∀{z:Rat},0<z→z*z⁻¹=1→0≤z⁻¹:=λ{z} hz h1=>by
    by_cases h0:0≤z⁻¹
    ·exact h0
    ·exfalso
     have:=Rat.mul_nonneg (show 0≤z by grind) (show 0≤-z⁻¹ by grind)
     grind
   have ie:=ip he hi
   have ie':=ip he' hi'
   generalize hK:2*e'⁻¹=K
   have hK0:0≤K:=by refine rL (hK ..) ?_;grind
   have hKe:K*e'=2:=by refine rL (hK ..) ?_;generalize e'⁻¹=i at *;grind
   obtain⟨c',hc1,hc2,hc0⟩ : ∃c':Rat,c≤c'∧-c≤c'∧0≤c':=by
    by_cases h0:0≤c
    ·exact vb c (by simp) (by grind) h0
    ·exact vb (-c) (by grind) (by simp) (by grind)
   have mx:∀u v:Rat,∃z,u≤z∧v≤z:=λu v=>by
    by_cases h0:u≤v
    ·exact iEA v h0 (by simp)
    ·exact iEA u (by simp) (by grind)
   refine oEA (mx T T') λt1 h1 h2=>?_
   refine oEA (mx t1 ((c'+K)*e⁻¹)) λt h3 h4=>?_
   have htp:0≤t:=by
    have:=Rat.mul_nonneg (show 0≤c'+K by grind) ie
    grind
   have hte:c'+K≤t*e:=by
    have h5:=gI (show 0≤e by grind) h4
    have h6:e*((c'+K)*e⁻¹)=(c'+K)*(e*e⁻¹):=by generalize e⁻¹=i;grind
    rw[h6,hi] at h5
    grind
   have hu:K≤evL (c::l) t∨K≤-evL (c::l) t:=by
    change K≤c+t*evL l t∨K≤-(c+t*evL l t)
    rcases hT t (by grind) with hv|hv
    ·left
     have:=gI htp hv
     grind
    ·right
     have:=gI htp (show e≤-evL l t by grind)
     grind
   have hv:e'≤evL m t∨e'≤-evL m t:=by
    rcases hT' t (by grind) with hv|hv
    ·exact .inl hv
    ·exact .inr (by grind)
   have h5:=h t
   rw[hl,hm] at h5
   generalize evL (c::l) t=u at *
   generalize evL m t=v at *
   rcases hu with hu|hu<;>rcases hv with hv|hv
   ·have:=oD hK0 (by grind) hu hv;grind
   ·have:=oD hK0 (by grind) hu hv;grind
   ·have:=oD hK0 (by grind) hu hv;grind
   ·have:=oD hK0 (by grind) hu hv;grind
  ·have hz:∀d∈l,d=0:=λd hd=>by
    by_cases h0:d=0
    ·exact h0
    ·exact absurd ⟨d,hd,h0⟩ hn
   have hc:∀t,a t=c:=λt=>by
    show hl
    change c+t*evL l t=c
    show dQ hz;grind
   refine iEA c (λh0=>?_) hc
   have:=h 0
   rw[hc,h0] at this
   grind
end
noncomputable def evZ:List Int→Int→Int
 |[],_=>0
 |c::l,t=>c+t*evZ l t
theorem xo{t:Int}:∀{l:List Int},evL (l.map λ(c:Int)=>(c:Rat)) (t:Rat)=((evZ l t:Int):Rat):=λ{l}=>by
 induction l with
 |nil=>
  exact rfl
 |cons c l ih'=>
  change (c:Rat)+(t:Rat)*evL (l.map _) (t:Rat)=((c+t*evZ l t:Int):Rat)
  show ih';show Rat.intCast_add;show Rat.intCast_mul;rfl
theorem pY{t v:Int}:∀{F:List Int}{i:Nat},i<F.length→evZ (F.set i (F.getD i 0+v)) t=evZ F t+v*t^i
 |[],i,h=>by simp at h
 |a::F,0,h=>by
  change (a+v)+t*evZ F t=(a+t*evZ F t)+v*t^0
  show Int.pow_zero;grind
 |a::F,i+1,h=>by
  change a+t*evZ (F.set i (F.getD i 0+v)) t=(a+t*evZ F t)+v*t^(i+1)
  show(pY (by simpa using h));show Int.pow_succ;grind
theorem wd{t l:Int}{i:Nat}:∀{b:List Int}{j:Nat}{F:List Int},i+j+b.length≤F.length→evZ (jU l i j b F) t=evZ F t+l*t^(i+j)*evZ b t:=λ{b}=>by
 induction b with
 |nil=>
  intro j F h
  change evZ F t=evZ F t+l*t^(i+j)*0;simp
 |cons r b ih'=>
  intro j F h
  rw[Ch] at h
  change evZ (jU l i (j+1) b (n8 F (i+j) (l*r))) t=_
  show(ih' (by unfold n8;show List.length_set;lia))
  unfold n8
  show pY ((B7 (Nat.lt_add_of_pos_right (Nat.zero_lt_succ _)) h));show(show i+(j+1)=(i+j)+1 by rfl);show Int.pow_succ
  change _=_+_*(r+t*evZ b t)
  grind
theorem s7{t:Int}{b:List Int}:∀{a:List Int}{i:Nat}{F:List Int},(a≠[]→i+a.length+b.length≤F.length+1)→evZ (fy b i a F) t=evZ F t+t^i*evZ a t*evZ b t:=λ{a}=>by
 induction a with
 |nil=>
  intro i F h
  change evZ F t=evZ F t+t^i*0*_;simp
 |cons l a ih'=>
  intro i F h
  have h:=h (List.cons_ne_nil _ _)
  rw[Ch] at h
  change evZ (fy b (i+1) a (if l=0 then F else jU l i 0 b F)) t=_
  have hl:(if l=0 then F else jU l i 0 b F).length=F.length:=by
   split
   ·rfl
   ·exact n9
  show(ih' (λxx=>by show hl;lia))
  have h1:evZ (if l=0 then F else jU l i 0 b F) t=evZ F t+l*t^i*evZ b t:=by
   split
   ·rename_i h0;show h0;simp
   ·show(wd (by lia));rfl
  show h1;show Int.pow_succ
  change _=_+_*(l+t*evZ a t)*_
  grind
theorem rl{t:Int}:∀n:Nat,evZ (List.replicate n 0) t=0
 |0=>rfl
 |n+1=>by
  show List.replicate_succ
  change 0+t*evZ (List.replicate n 0) t=0
  show rl;simp
theorem xE{t:Int}{a b:List Int}:evZ (dX a b) t=evZ a t*evZ b t:=by
 unfold dX
 split
 ·rename_i h
  rcases h with rfl|rfl
  ·change (0:Int)=0*_;exact Eq.symm (Int.zero_mul _)
  ·change (0:Int)=_*0;exact Eq.symm (Int.mul_zero _)
 ·rename_i h
  have h1:0<a.length:=by
   induction a using List.casesOn with
   |nil=>simp at h
   |cons=>simp
  have h2:0<b.length:=by
   induction b using List.casesOn with
   |nil=>simp at h
   |cons=>simp
  show(s7 (λxx=>by show List.length_replicate;show Nat.zero_add;show Nat.sub_add_cancel (B4 h2 (B5 _ _));exact Cj _));show rl;show Int.pow_zero;simp
noncomputable def hX(U:List (List Int)):List Int:=U.foldl dX [1]
noncomputable def PZ:List (List Int)→Int→Int
 |[],_=>1
 |l::U,t=>evZ l t*PZ U t
theorem uk{t:Int}:∀{U:List (List Int)}{z:List Int},evZ (U.foldl dX z) t=evZ z t*PZ U t:=λ{U}=>by
 induction U with
 |nil=>
  intro z
  change evZ z t=_*1;simp
 |cons l U ih'=>
  intro z
  show Cx;show ih';show xE
  change _=evZ z t*(evZ l t*PZ U t)
  exact Int.mul_assoc _ _ _
theorem fQ{t:Int}{U:List (List Int)}:evZ (hX U) t=PZ U t:=by
 unfold hX
 show uk
 change (1+t*0)*_=_
 simp
theorem qb{t:Int}:∀{U V:List (List Int)},PZ (U++V) t=PZ U t*PZ V t:=λ{U}=>by
 induction U with
 |nil=>
  intro V
  change _=1*_;exact Int.Internal.Linear.eq_one_mul _
 |cons l U ih'=>
  intro V
  change evZ l t*PZ (U++V) t=evZ l t*PZ U t*PZ V t
  show ih';grind
theorem vD{U V:List (List Int)}(h:U.Perm V)(t:Int):PZ U t=PZ V t:=by
 induction h with
 |nil=>rfl
 |cons p _ ih=>change _*_=_*_;show ih;rfl
 |swap p q l=>change evZ q t*(evZ p t*_)=evZ p t*(evZ q t*_);exact Int.mul_left_comm _ _ _
 |trans _ _ h1 h2=>show h1;show h2;rfl
theorem to{L:List (List Int)}:∀{lot:List Nat}{z:List Int},lot.foldl (λp i=>dX p (L.getD i [])) z=(lot.map (L.getD · [])).foldl dX z:=λ{lot}=>by
 induction lot with
 |nil=>
  intro z
  exact rfl
 |cons i lot ih'=>
  intro z
  exact ih'
theorem eR{L:List (List Int)}{lot:List Nat}:nC L lot=hX (lot.map (L.getD · [])):=to
abbrev Row:=List Int×Nat×Int×Int
noncomputable def o4(tab:List Row)(r:Row):Bool:=
 decide (1<r.2.1)&&(decide ((evZ r.1 r.2.2.1).natAbs=r.2.1*((evZ r.1 r.2.2.1).natAbs/r.2.1))&&decide (Nat.gcd ((evZ r.1 r.2.2.1).natAbs/r.2.1) r.2.1=1))&&
 (tab.all λd=>decide (d.1=r.1) || decide (Nat.gcd (evZ d.1 r.2.2.1).natAbs r.2.1=1))&&tab.all λd=>decide (Nat.gcd (evZ d.1 r.2.2.2).natAbs r.2.1=1)
noncomputable def As:List Row:=[([3,-1,0,2],31,5,-6),([2,-1,0,2],37,-23,-10),([1,1],19,18,-7),([1,-2,2],29,9,-5),([0,1],19,-19,-7),([-1,0,2],41,-12,-6),([-1,1],19,-18,-7),([1,2,2],29,-9,-5),([-2,-1,0,2],37,23,-10),([-3,-1,0,2],31,-5,-6),([3,-1,0,1],47,-10,-4),([2,-1,0,1],29,-4,-5),([1,-1,0,1],43,-10,-6),([-1,-1,0,1],43,10,-6),([-2,-1,0,1],29,4,-5),([-3,-1,0,1],47,10,-4),([-3,1],37,-34,-10),([-2,1],23,-21,-11),([2,1],23,21,-11),([3,1],37,34,-10),([-3,1,0,1],29,14,-5),([2,1,1],37,8,-10),([-1,1,0,1],23,-4,-11),([1,0,1],29,-12,-5),([1,1,0,1],23,4,-11),([2,-1,1],37,-8,-10),([3,1,0,1],29,-14,-5),([3,2,2],23,7,-11),([-2,1,0,2],23,5,-11),([-1,1,0,2],37,17,-10),([1,0,2],43,-8,-6),([1,1,0,2],37,-17,-10),([2,1,0,2],23,-5,-11),([3,-2,2],23,-7,-11),([1,0,0,0,1],41,-14,-6),([2,0,0,0,1],59,-6,-7),([3,0,0,0,1],37,-4,-10),([4,0,0,0,1],29,-11,-5)]
noncomputable def A7:List Row:=[([3,-1,0,0,2],29,14,-12),([2,-1,0,0,2],29,5,-12),([1,-1,0,0,2],47,-4,-5),([0,1],17,-17,-8),([-1,0,0,2],29,-10,-12),([-1,1],17,-16,-8),([1,2,2,2],43,-18,-10),([-2,-1,0,0,2],59,-6,-4),([1,1],17,16,-8),([-3,2,-2,2],29,-11,-12),([3,-1,0,0,1],31,-10,4),([2,-1,0,0,1],29,9,-12),([1,-1,0,0,1],29,-4,-12),([1,1,1],31,5,4),([-1,-1,0,0,1],29,-7,-12),([-2,1,-1,1],41,16,-4),([-3,-1,0,0,1],43,8,-10),([-3,1],31,-28,4),([-2,1],23,-21,-8),([2,1],23,21,-8),([3,1],31,28,4),([-3,1,0,0,1],37,-9,-6),([2,1,1,1],41,12,-4),([-1,1,0,0,1],29,7,-12),([1,-1,1],31,-5,4),([1,1,0,0,1],29,4,-12),([2,1,0,0,1],29,-9,-12),([3,1,0,0,1],29,6,-12),([3,2,2,2],29,11,-12),([-2,1,0,0,2],41,10,-4),([-1,2,-2,2],43,18,-10),([1,0,0,2],29,10,-12),([1,1,0,0,2],47,4,-5),([2,1,0,0,2],29,-5,-12),([3,1,0,0,2],29,-14,-12),([1,-1,1,-1,1],31,-4,4),([2,0,0,0,0,1],37,13,-6),([3,0,0,0,0,1],59,-21,-4),([4,0,0,0,0,1],43,-21,-10)]
theorem xm:(As.all (o4 As))=true:=rfl
theorem wU:(A7.all (o4 A7))=true:=rfl
theorem iQ{a b l:Nat}(h:Nat.gcd a l=1)(h':Nat.gcd b l=1):Nat.gcd (a*b) l=1:=Nat.Coprime.mul_left h h'
theorem uQ{l:Nat}{t:Int}:∀{U:List (List Int)},(∀u∈U,Nat.gcd (evZ u t).natAbs l=1)→Nat.gcd (PZ U t).natAbs l=1:=λ{U}=>by
 induction U with
 |nil=>
  intro _
  exact Nat.gcd_one_left l
 |cons u U ih'=>
  intro h
  change Nat.gcd (evZ u t*PZ U t).natAbs l=1
  show Int.natAbs_mul
  exact iQ (h u B9) (ih' λv hv=>h v (B6 _ hv))
theorem vy{l e:Nat}{t:Int}{r:List Int}(h1:(evZ r t).natAbs=l*e)(h2:Nat.gcd e l=1):∀{U:List (List Int)},(∀u∈U,u=r∨Nat.gcd (evZ u t).natAbs l=1)→∃v,Nat.gcd v l=1∧(PZ U t).natAbs=l^(U.count r)*v
 |[],_=>⟨1,Nat.gcd_one_left l,by show List.count_nil;show Nat.pow_zero;rfl⟩
 |u::U,h=>by
  refine oEA (vy h1 h2 (U:=U) λw hw=>h w (B6 _ hw)) λv hv e1=>?_
  have e2:(PZ (u::U) t).natAbs=(evZ u t).natAbs*(PZ U t).natAbs:=Int.natAbs_mul ..
  show e2;show e1
  by_cases hu:u=r
  ·refine iEA (e*v) (iQ h2 hv) ?_
   show hu;show List.count_cons_self;show h1;show Nat.pow_succ
   generalize l^U.count r=q
   grind
  ·refine iEA ((evZ u t).natAbs*v) (iQ ((h u B9).resolve_left hu) hv) ?_
   show List.count_cons_of_ne hu
   generalize l^U.count r=q
   grind
theorem wJ{l a b m n:Nat}(hl:1<l)(ha:Nat.gcd a l=1)(hb:Nat.gcd b l=1)(h:l^m*a=l^n*b):m=n:=by
 have key:∀{a b m n:Nat},Nat.gcd a l=1→l^m*a=l^n*b→¬m<n:=λ{a b m n} ha h hmn=>by
  obtain⟨k,rfl⟩ : ∃k,n=m+(k+1):=⟨n-m-1,by omega (config:={})⟩
  rw[Nat.pow_add,Nat.mul_assoc] at h
  have h1:=Nat.eq_of_mul_eq_mul_left (Nat.pow_pos ((Nat.lt_of_succ_lt hl))) h
  have h2:l∣a:=⟨l^k*b,by show h1;show Nat.pow_succ;grind⟩
  have h3:=Nat.gcd_eq_right h2
  lia
 have h1:=key ha h
 have h2:=key hb h.symm
 exact Nat.le_antisymm (Cm h2) (Cm h1)
theorem jT{tab:List Row}(ht:tab.all (o4 tab)=true){U V:List (List Int)}(hU:∀u∈U,∃r∈tab,r.1=u)(hV:∀u∈V,∃r∈tab,r.1=u){c:Rat}(h:∀t:Int,c*((PZ U t:Int):Rat)=((PZ V t:Int):Rat)):U.Perm V:=by
 show propext (List.perm_iff_count ..)
 intro p
 by_cases hp:∃r∈tab,r.1=p
 ·obtain⟨r,hr,rfl⟩:=hp
  have hk:=CA.mp ht r hr
  obtain⟨p,l,t1,t2⟩:=r
  unfold o4 at hk
  simp only[Bool.and_eq_true,decide_eq_true_eq,List.all_eq_true,Bool.or_eq_true] at hk
  obtain⟨⟨⟨k1,k2,k3⟩,k4⟩,k5⟩:=hk
  have get1:∀{W:List (List Int)},(∀u∈W,∃r∈tab,r.1=u)→∃v,Nat.gcd v l=1∧(PZ W t1).natAbs=l^(W.count p)*v:=λ{W} hW=>vy k2 k3 λu hu=>by
   obtain⟨d,hd,rfl⟩:=hW u hu
   exact k4 d hd
  have get2:∀{W:List (List Int)},(∀u∈W,∃r∈tab,r.1=u)→Nat.gcd (PZ W t2).natAbs l=1:=λ{W} hW=>uQ λu hu=>by
   obtain⟨d,hd,rfl⟩:=hW u hu
   exact k5 d hd
  refine oEA (get1 hU) λu u1 u2=>?_
  refine oEA (get1 hV) λv v1 v2=>?_
  have u3:=get2 hU
  have v3:=get2 hV
  have h1:=h t1
  have h2:=h t2
  have h3:PZ U t1*PZ V t2=PZ V t1*PZ U t2:=by
   have:((PZ U t1*PZ V t2:Int):Rat)=((PZ V t1*PZ U t2:Int):Rat):=by
    show Rat.intCast_mul;show Rat.intCast_mul;refine rL (h1 ..) ?_;refine rL (h2 ..) ?_;grind
   exact_mod_cast this
  have h4:l^(U.count p)*(u*(PZ V t2).natAbs)=l^(V.count p)*(v*(PZ U t2).natAbs):=by
   have:=congrArg Int.natAbs h3
   rw[Int.natAbs_mul,Int.natAbs_mul,u2,v2] at this
   refine rL (Nat.mul_assoc ..) ?_;refine rL (Nat.mul_assoc ..) ?_;exact this
  exact wJ k1 (iQ u1 v3) (iQ v1 u3) h4
 ·show(List.count_eq_zero.mpr λhm=>hp (hU p hm));show(List.count_eq_zero.mpr λhm=>hp (hV p hm));rfl
noncomputable def unL(w:Nat):Nat→List Int→PE
 |_,[]=>[]
 |k,x::z=>if x=0 then unL w (k+1) z else((k%w,k/w),(x:Rat))::unL w (k+1) z
theorem fB(w k:Nat):k%w+w*(k/w)=k:=by have:=Nat.div_add_mod k w;exact Nat.mod_add_div _ _
theorem jP{w:Nat}:∀{z:List Int}{k:Nat}{F:PE},(∀j∈keys F,j.1+w*j.2<k)→bN w k z F=F++unL w k z:=λ{z}=>by
 induction z with
 |nil=>
  intro k F h
  change F=F++[];show Cn;rfl
 |cons x z ih'=>
  intro k F h
  unfold bN unL
  by_cases hx:x=0
  ·show if_pos hx;show if_pos hx;show(ih' λj hj=>by have:=h j hj;exact Nat.lt_succ_of_lt this);rfl
  ·rw[if_neg hx,if_neg hx,kp (λhk=>by
    have:=h _ hk
    simp only[fB] at this
    lia),ih',List.append_assoc]
   ·rfl
   ·intro j hj
    unfold keys at hj
    rw[List.map_append,Cz] at hj
    rcases hj with hj|hj
    ·have:=h j hj;exact Nat.lt_succ_of_lt this
    ·rw[Cc,List.map_nil,Cd] at hj
     show hj
     simp only[fB]
     exact Nat.lt_succ_self _
theorem gj{z:List Int}{w:Nat}:dW z w=unL w 0 z:=by
 unfold dW
 show(jP λj hj=>by cases hj);rfl
theorem kz{w:Nat}{e:Mo×Rat}:∀{z:List Int}{k:Nat},e∈unL w k z→∃n,n<z.length∧e.1=((k+n)%w,(k+n)/w)∧e.2=((z.getD n 0:Int):Rat)∧z.getD n 0≠0:=λ{z}=>by
 induction z with
 |nil=>
  intro k h
  cases h
 |cons x z ih'=>
  intro k h
  unfold unL at h
  have key:e∈unL w (k+1) z→∃n,n<(x::z).length∧e.1=((k+n)%w,(k+n)/w)∧e.2=(((x::z).getD n 0:Int):Rat)∧(x::z).getD n 0≠0:=λh=>by
   refine pg (ih' h) λn h1 h2 h3 h4=>?_
   exact y9 (n+1) (by show Ch;exact Nat.succ_lt_succ h1) (by show h2;show(show k+1+n=k+(n+1) by lia);rfl) h3 h4
  split at h
  ·exact key h
  ·rename_i hx
   rcases Cb.mp h with rfl|h
   ·exact y9 0 (by simp) rfl rfl hx
   ·exact key h
theorem kR{w:Nat}:∀{z:List Int}{k:Nat},Clean (unL w k z)
 |[],k=>cg
 |x::z,k=>by
  have ih:=kR (w:=w) (z:=z) (k:=k+1)
  unfold unL
  split
  ·exact ih
  ·rename_i hx
   refine⟨?_,λe he=>?_⟩
   ·change (_::keys (unL w (k+1) z)).Nodup
    show propext (List.nodup_cons ..)
    refine⟨λhk=>?_,ih.nd⟩
    refine oEA (Cl.mp hk) λe he e1=>?_
    refine lC (kz he) λn xx h2 xx=>?_
    rw[e1] at h2
    have h3:k%w+w*(k/w)=(k+1+n)%w+w*((k+1+n)/w):=by
     show(Prod.mk.inj h2).1;show(Prod.mk.inj h2).2;rfl
    rw[fB,fB] at h3
    lia
   ·rcases Cb.mp he with rfl|he
    ·change (x:Rat)≠0
     intro h;exact hx (by exact_mod_cast h)
    ·exact ih.nz e he
theorem su{w:Nat}:∀{z:List Int}{k:Nat},(unL w k z).length≤z.length
 |[],k=>by change 0≤0;exact leb rfl
 |x::z,k=>by
  have ih:=su (w:=w) (z:=z) (k:=k+1)
  unfold unL
  split
  ·show Ch;exact Nat.le_add_right_of_le ih
  ·show Ch;show Ch;exact Nat.add_le_add_right ih _
noncomputable def kC(z:List Int):List Rat:=z.map λ(c:Int)=>(c:Rat)
theorem si{w:Nat}{x:Rat}:∀{z:List Int}{k:Nat},ev (unL w k z) x (x^w)=x^k*evL (kC z) x
 |[],k=>by change (0:Rat)=x^k*0;exact Eq.symm (Rat.mul_zero _)
 |c::z,k=>by
  have ih:=si (w:=w) (x:=x) (z:=z) (k:=k+1)
  have h1:evL (kC (c::z)) x=(c:Rat)+x*evL (kC z) x:=rfl
  rw[Rat.pow_succ] at ih
  unfold unL
  split
  ·rename_i h0
   show ih;show h1;show h0
   change _=_*(((0:Int):Rat)+_)
   have:((0:Int):Rat)=0:=rfl
   show this;grind
  ·change (c:Rat)*(x^(k%w)*(x^w)^(k/w))+ev (unL w (k+1) z) x (x^w)=_
   show ih;show h1;refine rL (oB ..) ?_;refine rL (bC ..) ?_;show fB;grind
theorem oF{w:Nat}:∀{z:List Int}{k:Nat},(∀n,z.getD n 0=0)→unL w k z=[]:=λ{z}=>by
 induction z with
 |nil=>
  intro k _
  exact rfl
 |cons x z ih'=>
  intro k h
  unfold unL
  show(if_pos (show x=0 from h 0))
  exact ih' λn=>h (n+1)
theorem ow{w:Nat}:∀{z z':List Int}{k:Nat},(∀n,z.getD n 0=z'.getD n 0)→unL w k z=unL w k z'
 |[],z',k,h=>(oF λn=>(h n).symm).symm
 |x::z,[],k,h=>oF h
 |x::z,x'::z',k,h=>by
  have h0:x=x':=h 0
  have ih:=ow (w:=w) (k:=k+1) λn=>(h (n+1):z.getD n 0=z'.getD n 0)
  unfold unL
  show h0;show ih;rfl
theorem lp{w:Nat}{c:Int}(hc:c≠0):∀{z:List Int}{k:Nat},unL w k (z.map (c * ·))=bA (λv=>v*(c:Rat)) (unL w k z)
 |[],k=>rfl
 |x::z,k=>by
  have ih:=lp (w:=w) hc (z:=z) (k:=k+1)
  show Cc
  unfold unL
  by_cases hx:x=0
  ·show if_pos hx;show(if_pos (by show hx;exact Int.mul_zero c));show ih;rfl
  ·show if_neg hx;show(if_neg λh=>(Int.mul_eq_zero.mp h).elim hc hx);show ih
   change ((_,_),((c*x:Int):Rat))::_=((_,_),(x:Rat)*(c:Rat))::_
   show Rat.intCast_mul;show Rat.mul_comm;rfl
theorem qN(T:Rat):∃n:Int,T≤(n:Rat):=⟨T.ceil,Rat.ceil_le_iff.mp (Int.le_refl _)⟩
theorem gQ{t:Int}{z:List Int}:evL (kC z) (t:Rat)=((evZ z t:Int):Rat):=xo
theorem iY{l:List Rat}(h:∀t:Int,evL l (t:Rat)=0):∀c∈l,c=0:=by
 intro c hc
 by_cases h0:c=0
 ·exact h0
 ·refine kN (iK ⟨c,hc,h0⟩) λe T' he hT=>?_
  exfalso
  refine oE (qN T') λt ht=>?_
  have:=h t
  rcases hT t ht with h3|h3<;>grind
theorem jD{z:List Int}{n:Nat}:(kC z).getD n 0=((z.getD n 0:Int):Rat):=by
 unfold kC
 show Ci;show Ci;show List.getElem?_map
 cases z[n]?<;>rfl
theorem ua{z z':List Int}(h:∀t,evZ z t=evZ z' t)(n:Nat):z.getD n 0=z'.getD n 0:=by
 have h1:=hJ (iY (l:=kT (kC z) ((kC z').map (-1 * ·))) λt=>by show dZ;show dq;show gQ;show gQ;show h;grind) n
 rw[ce,b7,jD,jD] at h1
 have h2:((z.getD n 0:Int):Rat)=((z'.getD n 0:Int):Rat):=by grind
 exact_mod_cast h2
noncomputable def l1(z:List Int):Nat:=(z.map Int.natAbs).sum
theorem rQ{x:Int}:∀{z:List Int},x∈z→x.natAbs≤l1 z:=λ{z}=>by
 induction z with
 |nil=>
  intro h
  cases h
 |cons a z ih'=>
  intro h
  have e:l1 (a::z)=a.natAbs+l1 z:=by unfold l1;show Cc;show List.sum_cons;rfl
  rcases Cb.mp h with rfl|h
  ·exact Nat.le.intro e
  ·have:=ih' h;lia
theorem kK(a:Int)(F:List Int):l1 (a::F)=a.natAbs+l1 F:=by unfold l1;show Cc;show List.sum_cons;rfl
theorem xQ{v:Int}{F:List Int}:∀{i:Nat},l1 (F.set i (F.getD i 0+v))≤l1 F+v.natAbs:=by
 induction F with
 |nil=>exact λ{i}=>Nat.zero_le _
 |cons a F ih=>intro i;induction i using Nat.casesOn with
  |zero=>
   change l1 ((a+v)::F)≤_
   show kK;show kK;show Nat.add_right_comm;exact Nat.add_le_add_right (Int.natAbs_add_le a v) _
  |succ i=>
   change l1 (a::F.set i (F.getD i 0+v))≤_
   show kK;show kK;show Nat.add_assoc;exact Nat.add_le_add_left ih _
theorem vf{l:Int}{i:Nat}:∀{b:List Int}{j:Nat}{F:List Int},l1 (jU l i j b F)≤l1 F+l.natAbs*l1 b
 |[],j,F=>by change l1 F≤_;exact Cw _ _
 |r::b,j,F=>by
  change l1 (jU l i (j+1) b (n8 F (i+j) (l*r)))≤_
  have e:l1 (r::b)=r.natAbs+l1 b:=by unfold l1;show Cc;show List.sum_cons;rfl
  have h1:=vf (l:=l) (i:=i) (b:=b) (j:=j+1) (F:=n8 F (i+j) (l*r))
  have h2:=xQ (v:=l*r) (F:=F) (i:=i+j)
  rw[Int.natAbs_mul] at h2
  unfold n8 at *
  show e;show Nat.mul_add;lia
theorem sI{b:List Int}:∀{a:List Int}{i:Nat}{F:List Int},l1 (fy b i a F)≤l1 F+l1 a*l1 b
 |[],i,F=>by change l1 F≤_;exact Cw _ _
 |l::a,i,F=>by
  change l1 (fy b (i+1) a (if l=0 then F else jU l i 0 b F))≤_
  have e:l1 (l::a)=l.natAbs+l1 a:=by unfold l1;show Cc;show List.sum_cons;rfl
  have h1:=sI (b:=b) (a:=a) (i:=i+1) (F:=if l=0 then F else jU l i 0 b F)
  have h2:l1 (if l=0 then F else jU l i 0 b F)≤l1 F+l.natAbs*l1 b:=by
   split
   ·exact Cw _ _
   ·exact vf
  show e;show Nat.add_mul;lia
theorem vw:∀n:Nat,l1 (List.replicate n 0)=0
 |0=>rfl
 |n+1=>by
  show List.replicate_succ
  have e:l1 (0::List.replicate n 0)=(0:Int).natAbs+l1 (List.replicate n 0):=by unfold l1;show Cc;show List.sum_cons;rfl
  show e;show vw;rfl
theorem yn{a b:List Int}:l1 (dX a b)≤l1 a*l1 b:=by
 unfold dX
 split
 ·change 0≤_;exact leb rfl
 ·have:=sI (b:=b) (a:=a) (i:=0) (F:=List.replicate (a.length+b.length-1) 0)
  rw[vw] at this;exact B4 this (Cg (Nat.zero_add _))
theorem sm{b:List Int}:∀{a:List Int}{i:Nat}{F:List Int},(fy b i a F).length=F.length:=λ{a}=>by
 induction a with
 |nil=>
  intro i F
  exact rfl
 |cons l a ih'=>
  intro i F
  change (fy b (i+1) a (if l=0 then F else jU l i 0 b F)).length=_
  show ih'
  split
  ·rfl
  ·exact n9
theorem sY{a b:List Int}(ha:1≤a.length)(hb:1≤b.length):(dX a b).length=a.length+b.length-1:=by
 unfold dX
 rw[if_neg,sm,List.length_replicate]
 rintro(rfl|rfl)
 ·simp at ha
 ·simp at hb
noncomputable def kM(U:List (List Int)):Nat:=(U.map λu=>u.length-1).sum
theorem js{M:Nat}:∀{U:List (List Int)}{z:List Int},(∀u∈U,1≤u.length∧l1 u≤M)→1≤z.length→(U.foldl dX z).length=z.length+kM U∧l1 (U.foldl dX z)≤l1 z*M^U.length
 |[],z,h,hz=>⟨rfl,by show List.length_nil;show Nat.pow_zero;change l1 z≤_;exact Cg (Eq.symm (Nat.mul_one _))⟩
 |u::U,z,h,hz=>by
  have hu:=h u B9
  have e:=sY hz hu.1
  refine oA (js (U:=U) (z:=dX z u) (λv hv=>h v (B6 _ hv)) (by omega (config:={}))) λh1 h2=>?_
  have e1:kM (u::U)=(u.length-1)+kM U:=by unfold kM;show Cc;show List.sum_cons;rfl
  show Cx
  refine⟨by rw[h1,e,e1,←Nat.add_assoc,←Nat.add_sub_assoc hu.1],B4 h2 ?_⟩
  show Ch;show Nat.pow_succ
  have h3:l1 (dX z u)≤l1 z*M:=B4 yn (Nat.mul_le_mul_left _ hu.2)
  have h4:=Cs (M^U.length) h3
  have h5:l1 z*M*M^U.length=l1 z*(M^U.length*M):=by generalize M^U.length=q;grind
  exact le_of_le_of_eq h4 h5
theorem ka{q:Rat}(h:q.den=1):q=((q.num:Int):Rat):=Rat.ext rfl h
theorem iJ(q:Rat):q*(q.den:Rat)=((q.num:Int):Rat):=by
 have h0:(q.den:Rat)≠0:=by
  intro h
  have:=congrArg Rat.num h
  have h1:=q.den_nz
  simp at this
  trivial
 have h1:q=((q.num:Int):Rat)/((q.den:Int):Rat):=by refine rL (Rat.divInt_eq_div ..) ?_;show Rat.num_divInt_den;rfl
 have h2:((q.den:Int):Rat)=(q.den:Rat):=rfl
 rw[h2] at h1
 conv=>lhs;lhs;rw[h1]
 exact Rat.div_mul_cancel h0
theorem vU{d:Nat}:∀{P:PE}{b:Nat},(d∣b∨∃e∈P,d∣e.2.den)→d∣P.foldl botS b:=λ{P}=>by
 induction P with
 |nil=>
  intro b h
  exact h.elim id λ⟨e,he,_⟩=>by cases he
 |cons a P ih'=>
  intro b h
  show Cx
  refine ih' ?_
  rcases h with h|⟨e,he,h⟩
  ·exact .inl (Nat.dvd_trans h (Nat.dvd_lcm_left _ _))
  ·rcases Cb.mp he with rfl|he
   ·exact .inl (Nat.dvd_trans h (Nat.dvd_lcm_right _ _))
   ·exact .inr ⟨e,he,h⟩
theorem w5{b d:Nat}:∀{P:PE}{c:Nat},d∣c→(∀e∈P,(d:Int)∣(e.2*(b:Rat)).num)→d∣P.foldl (conS b) c:=λ{P}=>by
 induction P with
 |nil=>
  intro c h _
  exact h
 |cons a P ih'=>
  intro c h h'
  show Cx
  exact ih' (Int.dvd_gcd (Int.natCast_dvd_natCast.mpr h) (h' a B9)) λe he=>h' e (B6 _ he)
theorem rp{b:Nat}:∀{P:PE}{c:Nat},P.foldl (conS b) c∣c∧∀e∈P,((P.foldl (conS b) c:Nat):Int)∣(e.2*(b:Rat)).num
 |[],c=>⟨Nat.dvd_refl _,λe he=>by cases he⟩
 |a::P,c=>by
  show Cx
  refine oA (rp (b:=b) (P:=P) (c:=conS b c a)) λh1 h2=>?_
  have h3:((conS b c a:Nat):Int)∣(c:Int):=Int.gcd_dvd_left ..
  have h4:((conS b c a:Nat):Int)∣(a.2*(b:Rat)).num:=Int.gcd_dvd_right ..
  refine⟨Nat.dvd_trans h1 (Int.natCast_dvd_natCast.mp h3),λe he=>?_⟩
  rcases Cb.mp he with rfl|he
  ·exact Int.dvd_trans (Int.natCast_dvd_natCast.mpr h1) h4
  ·exact h2 e he
theorem fO{f:Rat→Rat}{P:PE}{e:Mo×Rat}(h:e∈bA f P):∃d∈P,e=(d.1,f d.2):=by
 refine oEA (Cl.mp h) λd hd h=>?_
 exact iEA d hd h.symm
theorem kZ{f g:Rat→Rat}{P:PE}(h:∀v,g (f v)=v):bA g (bA f P)=P:=by
 unfold bA
 show List.map_map
 conv=>rhs;rw[←List.map_id P]
 apply List.map_congr_left
 intro e _
 change (e.1,g (f e.2))=e
 show h;rfl
theorem so{f:Rat→Rat}(h0:f 0=0){k:Mo}:∀{P:PE},cf (bA f P) k=f (cf P k):=λ{P}=>by
 induction P with
 |nil=>
  exact h0.symm
 |cons e P ih'=>
  unfold cf bA
  show Cc
  change (if e.1=k then some (f e.2) else bT k _).getD 0=f ((if e.1=k then some e.2 else bT k P).getD 0)
  by_cases h:e.1=k
  ·show if_pos h;show if_pos h;rfl
  ·show if_neg h;show if_neg h
   exact ih'
theorem pC{f:Rat→Rat}{P:PE}:k9 (bA f P)=k9 P:=by unfold k9;show bF;rfl
theorem wp{f:Rat→Rat}(h0:f 0=0){P:PE}:lc (bA f P)=f (lc P):=by
 unfold lc ld
 show pC
 exact so h0
theorem qj{P:PE}{k:Mo}(h:cf P k≠0):(k,cf P k)∈P:=by
 unfold cf at h ⊢
 cases hg:bT k P with
 |none=>rw[hg] at h;exact absurd rfl h
 |some u=>exact dF hg
theorem kc{W:PE}{q:Rat}(hi:∀e∈W,e.2.den=1){j:Mo}(ht:Top W j 1)(hq:q≠0):aY (bA (λv=>v*q) W)=(q,W):=by
 refine oAA (ht.ld (by decide)) λhn xx hl=>?_
 have hlc:lc (bA (λv=>v*q) W)=q:=by
  show(wp (by simp));show hl;simp
 have hmem:(j,(1:Rat))∈W:=by
  have:=qj (P:=W) (k:=j) (by show ht.co;decide)
  rw[ht.co] at this;exact this
 have hq1:(j,q)∈bA (λv=>v*q) W:=Cl.mpr ⟨_,hmem,by simp⟩
 have hdn:∀e∈bA (λv=>v*q) W,e.2.den∣q.den:=λe he=>by
  refine oEA (fO he) λd hd zr0=>?_;show zr0
  change (d.2*q).den∣_
  show Rat.den_mul
  refine Nat.dvd_trans (Nat.div_dvd_of_dvd (Nat.gcd_dvd_right _ _)) ?_
  show hi d hd;show Nat.one_mul;exact Nat.dvd_refl _
 have hb:botP (bA (λv=>v*q) W)=q.den:=by
  refine Nat.dvd_antisymm (gT (Nat.one_dvd _) hdn) ?_
  exact vU (.inr ⟨_,hq1,Nat.dvd_refl _⟩)
 have hnum:∀d∈W,((d.2*q)*(q.den:Rat)).num=d.2.num*q.num:=λd hd=>by
  show Rat.mul_assoc;show iJ
  conv=>lhs;rw[ka (hi d hd)]
  refine rL (Rat.intCast_mul ..) ?_;rfl
 have hc:conP (bA (λv=>v*q) W)=q.num.natAbs:=by
  unfold conP
  show hb
  refine Nat.dvd_antisymm ?_ ?_
  ·have h1:=(rp (b:=q.den) (P:=bA (λv=>v*q) W) (c:=0)).2 _ hq1
   rw[iJ] at h1
   exact Int.ofNat_dvd_left.mp h1
  ·refine w5 (Nat.dvd_zero _) λe he=>?_
   refine oEA (fO he) λd hd zr0=>?_;show zr0
   change _∣((d.2*q)*(q.den:Rat)).num
   show hnum d hd
   exact Int.dvd_trans (Int.natAbs_dvd.mpr (Int.dvd_refl _)) (Int.dvd_mul_left ..)
 have htold:toldP (bA (λv=>v*q) W)=q:=by
  unfold toldP
  show hlc;show hc;show hb
  have h0:=iX hq
  split
  ·show Int.natAbs_of_nonneg ((Int.le_of_lt ‹_›));show Rat.num_divInt_den;rfl
  ·show Int.ofNat_natAbs_of_nonpos ((Int.le_of_not_gt ‹_›));show Int.neg_neg;show Rat.num_divInt_den;rfl
 unfold aY
 have hn':bA (λv=>v*q) W≠[]:=by
  intro h;rw[h] at hq1;cases hq1
 show if_neg hn';show htold
 congr 1
 exact kZ λv=>by show Rat.mul_assoc;show Rat.mul_inv_cancel q hq;show Rat.mul_one;rfl
theorem RS.inv{m:Nat}{a:Rat}(h:RS m a)(h0:a≠0):RS m a⁻¹:=by
 have hn:=iX h0
 refine⟨?_,?_⟩
 ·unfold aA
  show Rat.num_inv;show Int.natAbs_mul;show Int.natAbs_sign;show if_neg hn;show Nat.one_mul
  exact h.2
 ·unfold aA
  show Rat.den_inv;show if_neg hn
  exact h.1
structure WholeInt(N:Nat)(P:PE):Prop where
 t0:toldP P≠0
 rs:∀m,N<2^m→1≤m→RS m (toldP P)
 it:eP N (aY P).2
 cl:Clean (aY P).2
 ne:(aY P).2≠[]
 va:∀x y,ev P x y=ev (aY P).2 x y*toldP P
 ke:keys (aY P).2=keys P
theorem i9{N:Nat}{P:PE}(cP:Clean P)(hn:P≠[])(hi:eP N P):WholeInt N P:=by
 have hb:botP P=1:=by
  have:botP P∣1:=gT (Nat.dvd_refl _) λe he=>by show(hi e he).1;exact Nat.dvd_refl _
  exact Nat.dvd_one.mp this
 have h1:∀v:Rat,v*((1:Nat):Rat)=v:=λv=>by
  change v*1=v;exact Rat.mul_one _
 obtain⟨c,hc⟩ : ∃c,c=conP P:=⟨_,rfl⟩
 have hd:∀e∈P,(c:Int)∣e.2.num:=λe he=>by
  have:=(rp (b:=1) (P:=P) (c:=0)).2 e he
  rw[h1] at this
  show hc;unfold conP;show hb;exact this
 obtain⟨a,ha⟩ : ∃a,a∈P:=by
  induction P using List.casesOn with
  |nil=>exact absurd rfl hn
  |cons a r=>exact⟨a,B9⟩
 have han:=iX (cP.nz a ha)
 have hc0:0<c:=by
  rcases Nat.eq_zero_or_pos c with h|h
  ·exfalso
   have:=hd a ha
   rw[h] at this
   exact han (by lia)
  ·exact h
 have hcN:c≤N:=by
  have h2:=Int.natAbs_dvd_natAbs.mpr (hd a ha)
  rw[Ct] at h2
  exact B4 (Nat.le_of_dvd (by lia) h2) (hi a ha).2
 obtain⟨s,hs,hst⟩ : ∃s:Int,(s=1∨s=-1)∧toldP P=((s*c:Int):Rat):=by
  unfold toldP
  show hb;refine rL (hc ..) ?_
  have hdi:∀i:Int,Rat.divInt i ((1:Nat):Int)=((i:Int):Rat):=λi=>Rat.num_divInt_den ((i:Int):Rat)
  split
  ·exact iEA 1 (.inl rfl) (by show hdi;show Int.one_mul;rfl)
  ·exact iEA (-1) (.inr rfl) (by show hdi;congr 1;exact Int.neg_eq_neg_one_mul _)
 have hsc:(s*c).natAbs=c:=by rcases hs with rfl|rfl<;>simp
 have ht0:toldP P≠0:=by
  show hst
  intro h
  have h2:s*(c:Int)=0:=by exact_mod_cast h
  rw[h2] at hsc
  simp at hsc;lia
 have hinv:toldP P*(toldP P)⁻¹=1:=Rat.mul_inv_cancel _ ht0
 have hw:aY P=(toldP P,bA (λv=>v*(toldP P)⁻¹) P):=by unfold aY;show if_neg hn;rfl
 refine⟨ht0,λm hm h1=>?_,?_,?_,?_,λx y=>?_,?_⟩
 ·show hst
  exact eK (N:=N) rfl (B4 (Cg hsc) ‹_›) hm h1
 ·show hw
  intro e he
  refine oEA (fO (f:=λv=>v*(toldP P)⁻¹) (P:=P) he) λd hd' zr0=>?_;show zr0
  refine oE (hd d hd') λk hk=>?_
  have hv:d.2*(toldP P)⁻¹=((s*k:Int):Rat):=by
   have h2:d.2=((s*k:Int):Rat)*toldP P:=by
    show ka (hi d hd').1;show hst;refine rL (Rat.intCast_mul ..) ?_;show hk
    congr 1
    rcases hs with rfl|rfl<;>grind
   show h2;show Rat.mul_assoc;show hinv;show Rat.mul_one;rfl
  have hkN:k.natAbs≤N:=by
   have h3:=(hi d hd').2
   rw[hk,Int.natAbs_mul,Ct] at h3
   have h4:=Cs k.natAbs (show 1≤c from hc0)
   exact B4 (Nat.le_mul_of_pos_left _ hc0) h3
  change (d.2*(toldP P)⁻¹).den=1∧(d.2*(toldP P)⁻¹).num.natAbs≤N
  show hv
  refine⟨rfl,?_⟩
  change (s*k).natAbs≤N
  rcases hs with rfl|rfl
  ·show Int.one_mul;lia
  ·refine rL (Int.neg_eq_neg_one_mul ..) ?_;show Int.natAbs_neg;lia
 ·show hw
  exact ew (f:=λv=>v*(toldP P)⁻¹) (λu hu (h:u*(toldP P)⁻¹=0)=>by
   rcases Rat.mul_eq_zero.mp h with h|h
   ·exact hu h
   ·rw[h] at hinv;grind) cP
 ·show hw
  intro h
  exact hn (by simpa [bA] using h)
 ·show hw
  change _=ev (bA (λv=>v*(toldP P)⁻¹) P) x y*_
  show(kF (c:=(toldP P)⁻¹) (λu=>rfl))
  have:ev P x y*(toldP P)⁻¹*toldP P=ev P x y*(toldP P*(toldP P)⁻¹):=by generalize (toldP P)⁻¹=i;grind
  show this;show hinv;simp
 ·show hw;exact bF (λv=>v*(toldP P)⁻¹) P
theorem kH{m N:Nat}{P:PE}(h:eP N P)(hm:N<2^m)(h1:1≤m):dU m P:=λe he=>eK (h e he).1 (h e he).2 hm h1
theorem iS{N:Nat}{P:PE}(cP:Clean P)(hn:P≠[])(hi:eP N P)(hN:N<2^1000)(hl:P.length≤10000):WholeOk P:=by
 have W:=i9 cP hn hi
 have up:∀{k},1000≤k→N<2^k:=λ{k} h=>B7 hN (Cp (ltb rfl) h)
 exact⟨cP.nd,hl,kH hi hN (leb rfl),⟨1,λe he=>by show(hi e he).1;exact Nat.dvd_refl _,by exact ltb rfl,Nat.one_lt_two_pow ((Nat.succ_ne_zero _))⟩,λxx=>W.t0,(W.rs 4000 (up (leb rfl)) (leb rfl)).inv W.t0,W.rs 8000 (up (leb rfl)) (leb rfl)⟩
theorem gr:∀{m s:Nat}{lot:List Nat},lot∈lotsP s m→lot.Nodup
 |m,0,lot,h=>by simp[lotsP] at h;show h;exact List.nodup_nil
 |0,s+1,lot,h=>by simp[lotsP] at h
 |m+1,s+1,lot,h=>by
  rw[lotsP.eq_3 _ _] at h
  rcases Cz.mp h with h|h
  ·exact gr h
  ·refine oEA (Cl.mp h) λl hl zr0=>?_;subst zr0
   show propext (List.nodup_append ..)
   refine iAA (gr hl) (by simp) (λa ha b hb=>?_)
   rw[Cd] at hb
   have:=ir hl a ha
   lia
theorem kL:∀{m s:Nat}{I:List Nat},I.Nodup→(∀i∈I,i<m)→I.length=s→∃lot∈lotsP s m,lot.Perm I
 |m,0,I,_,_,h=>by
  have:I=[]:=List.length_eq_zero_iff.mp h
  show this
  exact iEA [] (by simp[lotsP]) (.refl _)
 |0,s+1,I,_,h1,h=>by
  induction I using List.casesOn with
  |nil=>simp at h
  |cons a I=>have:=h1 a B9;trivial
 |m+1,s+1,I,hn,h1,h=>by
  by_cases hm:m∈I
  ·have hp:=List.perm_cons_erase hm
   have hn':=hp.nodup_iff.mp hn
   rw[List.nodup_cons] at hn'
   obtain⟨lot,k1,k2⟩:=kL (m:=m) (s:=s) (I:=I.erase m) hn'.2 (λi hi=>by
    have h2:=h1 i (List.mem_of_mem_erase hi)
    have h3:i≠m:=λe=>hn'.1 (e▸hi)
    exact Nat.lt_of_le_of_ne (Nat.le_of_lt_succ h2) h3) (by have:=hp.length_eq;rw[Ch] at this;lia)
   refine iEA (lot++[m]) ?_ ?_
   ·show lotsP.eq_3 _ _
    exact Cq _ (Cl.mpr ⟨lot,k1,rfl⟩)
   ·exact(List.perm_append_singleton m lot).trans ((k2.cons m).trans hp.symm)
  ·obtain⟨lot,k1,k2⟩:=kL (m:=m) (s:=s+1) (I:=I) hn (λi hi=>by
    have h2:=h1 i hi
    have h3:i≠m:=λe=>hm (e▸hi)
    exact Nat.lt_of_le_of_ne (Nat.le_of_lt_succ h2) h3) h
   exact iEA lot (by show lotsP.eq_3 _ _;exact List.mem_append_left _ k1) k2
theorem xd{α:Type}(d:α)(L:List α)(lot:List Nat):cy d L lot=((List.range L.length).filter λi=>!(lot.any λj=>decide (j=i))).map (L.getD · d):=by
 unfold cy
 generalize List.range L.length=r
 induction r with
 |nil=>rfl
 |cons i r ih=>
  show List.filterMap_cons;show List.filter_cons
  cases lot.any (λj=>decide (j=i)) with
  |true=>simp only[if_true,Bool.not_true];exact ih
  |false=>simp only[Bool.false_eq_true,if_false,Bool.not_false,if_true,List.map_cons,ih]
theorem iL{L:List (List Int)}{s:Nat}{lot:List Nat}(h:lot∈lotsP s L.length):L.Perm (lot.map (L.getD · [])++cy [] L lot):=by
 have hp:(List.range L.length).Perm (lot++(List.range L.length).filter λi=>!(lot.any λj=>decide (j=i))):=by
  have hlt:=ir h
  rw[List.perm_ext_iff_of_nodup List.nodup_range]
  ·intro i
   show propext (Cz ..);show propext (List.mem_filter ..);show propext (List.mem_range ..)
   have e:(!(lot.any λj=>decide (j=i)))=true↔i∉lot:=by
    show Bool.not_eq_true';show propext (List.any_eq_false ..)
    constructor
    ·intro h hi;exact h i hi (of_decide_eq_self_eq_true _)
    ·intro h j hj hji;exact h ((of_decide_eq_true hji)▸hj)
   show propext (e ..)
   constructor
   ·intro hi
    by_cases hl:i∈lot
    ·exact .inl hl
    ·exact .inr ⟨hi,hl⟩
   ·rintro(hi|hi)
    ·exact hlt i hi
    ·exact hi.1
  ·show propext (List.nodup_append ..)
   refine iAA (gr h) (List.nodup_range.sublist List.filter_sublist) (λa ha b hb e=>?_)
   subst e
   have:=(List.mem_filter.mp hb).2
   rw[Bool.not_eq_true',List.any_eq_false] at this
   exact this a ha (of_decide_eq_self_eq_true _)
 have:=hp.map (L.getD · [])
 rw[ek,List.map_append,←xd] at this
 exact this
theorem xf{L M N:List (List Int)}(h:L.Perm (M++N)):∃lot∈lotsP M.length L.length,(lot.map (L.getD · [])).Perm M:=by
 refine oEA (iG (f:=(L.getD · [])) h.symm (List.range L.length) (ek [] L)) λzs h1 h2=>?_
 have hM:(zs.take M.length).map (L.getD · [])=M:=by
  show List.map_take;show h2;show List.take_left;rfl
 have hlen:(zs.take M.length).length=M.length:=by
  have:=congrArg List.length hM
  rw[B8] at this;exact this
 refine oEA (kL (m:=L.length) (s:=M.length) (I:=zs.take M.length) ((h1.nodup_iff.mpr List.nodup_range).sublist (List.take_sublist _ _)) (λi hi=>List.mem_range.mp (h1.mem_iff.mp (List.mem_of_mem_take hi))) hlen) λlot k1 k2=>?_
 exact iEA lot k1 (by have:=k2.map (L.getD · []);rw[hM] at this;exact this)
noncomputable def pT:Pr→Mo
 |.L _ _=>(1,0)
 |.H _=>(1,1)
noncomputable def Br(p:Pr):Bool:=(pe p).all (λe=>decide (e.2≠0)&&decide (e.1.1<(pT p).1∨(e.1.1=(pT p).1∧e.1.2≤(pT p).2)))&&decide (cf (pe p) (pT p)=1)&&decide ((keys (pe p)).Nodup)&&!aL (pe p)
theorem Al:(aG.all Br)=true:=rfl
theorem eA{p:Pr}(hp:p∈aG):Clean (pe p)∧Top (pe p) (pT p) 1∧aL (pe p)=false:=by
 have h:=CA.mp Al p hp
 unfold Br at h
 simp only[Bool.and_eq_true,List.all_eq_true,decide_eq_true_eq,Bool.not_eq_true'] at h
 obtain⟨⟨⟨h1,h2⟩,h3⟩,h4⟩:=h
 exact iAA ⟨h3,λe he=>(h1 e he).1⟩ ⟨λe he=>(h1 e he).2,h2⟩ h4
theorem mZ{A:PE}{d:Mo×Rat}{q:Mo→Prop}(hA:∀a∈A,q (bZ a.1 d.1)):∀{F:PE},(∀e∈F,q e.1)→∀e∈addRow A F d,q e.1:=by
 unfold addRow
 induction A with
 |nil=>intro F h;exact h
 |cons a A ih=>
  intro F h
  show Cx
  refine ih (λb hb=>hA b (B6 _ hb)) λe he=>?_
  rcases addTerm_mem he with he|⟨he,_⟩
  ·exact h e he
  ·show he;exact hA a B9
theorem sp{A B:PE}{q:Mo→Prop}(h:∀a∈A,∀b∈B,q (bZ a.1 b.1)):∀e∈eH A B,q e.1:=by
 unfold eH
 have:∀{B F:PE},(∀a∈A,∀b∈B,q (bZ a.1 b.1))→(∀e∈F,q e.1)→∀e∈B.foldl (addRow A) F,q e.1:=by
  intro B
  induction B with
  |nil=>intro F _ h;exact h
  |cons b B ih=>
   intro F h h'
   show Cx
   exact ih (λa ha c hc=>h a ha c (B6 _ hc)) (mZ (λa ha=>h a ha b B9) h')
 exact this h λe he=>by cases he
noncomputable def aB:Nat→Nat
 |0=>1
 |n+1=>3*(3^n*(aB n*4))
structure WF(n:Nat)(W:PE):Prop where
 cl:Clean W
 it:eP (aB n) W
 le:W.length≤3^n
 bx:∀e∈W,e.1.1≤n∧e.1.2≤n
 tp:∃j,Top W j 1
theorem rB{N M:Nat}{P:PE}(h:eP N P)(l:N≤M):eP M P:=λe he=>⟨(h e he).1,B4 (h e he).2 l⟩
theorem vL{n:Nat}{W:PE}(h:WF n W){p:Pr}(hp:p∈aG):WF (n+1) (eH W (pe p)):=by
 refine oAA (eA hp) λc1 t1 xx=>?_
 have O:=gZ (.inl rfl) hp
 have hl:=jJ p
 refine oE h.tp λj tj=>?_
 refine⟨(bP (x:=0) (y:=0)).1,?_,?_,?_,?_⟩
 ·have:=j0 h.it (B:=pe p) (F:=[]) (N:=0) O.ip (λe he=>by cases he)
  refine rB this ?_
  show Nat.zero_add
  exact Nat.mul_le_mul hl (Cs _ h.le)
 ·have:=j9 (A:=W) (B:=pe p) (F:=[])
  rw[List.length_nil,Nat.zero_add] at this
  refine B4 this ?_
  show Nat.pow_succ;show Nat.mul_comm
  exact Nat.mul_le_mul h.le hl
 ·exact sp (q:=λk=>k.1≤n+1∧k.2≤n+1) λa ha b hb=>by
   have h1:=h.bx a ha
   have h2:=mH p b hb
   change a.1.1+b.1.1≤n+1∧a.1.2+b.1.2≤n+1
   exact And.intro (Nat.add_le_add h1.1 h2.1) (Nat.add_le_add h1.2 h2.2)
 ·have:=rt h.cl c1 (bP (x:=0) (y:=0)).1 tj t1 (λx y=>(bP (A:=W) (B:=pe p)).2)
  exact⟨_,by rw[Rat.one_mul] at this;exact this⟩
theorem mA:∀{R:List Pr}{n:Nat}{W:PE},WF n W→(∀p∈R,p∈aG)→WF (n+R.length) (R.foldl (λW p=>eH W (pe p)) W)∧∀x y,ev (R.foldl (λW p=>eH W (pe p)) W) x y=ev W x y*PV R x y
 |[],n,W,h,_=>⟨h,λx y=>by change ev W x y=_*1;simp⟩
 |p::R,n,W,h,hR=>by
  refine oA (mA (R:=R) (vL h (hR p B9)) λq hq=>hR q (B6 _ hq)) λh1 h2=>?_
  show Cx;show Ch;show(show n+(R.length+1)=n+1+R.length by lia)
  refine⟨h1,λx y=>?_⟩
  show h2;show bP.2;show mz
  change _=_*(pv p x y*PV R x y)
  exact Rat.mul_assoc _ _ _
theorem uX:WF 0 [((0,0),1)]:=⟨k7,λe he=>by simp at he;show he;exact⟨rfl,Mine.Lake.leb rfl⟩,Mine.Lake.leb rfl,λe he=>by simp at he;show he;exact⟨Nat.zero_le _,Nat.zero_le _⟩,(0,0),λe he=>by simp at he;show he;exact .inr ⟨rfl,Nat.zero_le _⟩,rfl⟩
theorem j7{R:List Pr}(hR:∀p∈R,p∈aG):WF R.length (Wp R):=by
 have:=(mA uX hR).1
 rw[Nat.zero_add] at this;exact this
theorem sg{R:List Pr}(hR:∀p∈R,p∈aG)(x y:Rat):ev (Wp R) x y=PV R x y:=by
 have:=(mA uX hR).2 x y
 rw[y0] at this
 unfold Wp
 show this;exact Rat.one_mul _
theorem pb:∀n,n≤3→aB n≤46656∧3^n≤27:=by
 intro n h
 have key:∀n:_root_.Fin 4,aB n≤46656∧3^n.1≤27:=by decide
 exact key ⟨n,Nat.lt_succ_of_le h⟩
noncomputable def sH(w:Nat):List Row:=if w=3 then As else A7
theorem u4{w:Nat}:(sH w).all (o4 (sH w))=true:=by
 unfold sH
 split
 ·exact xm
 ·exact wU
noncomputable def Ae(w:Nat)(p:Pr):Bool:=
 ((pieces w p).all λu=>(sH w).any λr=>decide (r.1=u))&&(decide (hX (pieces w p)=gO (pe p) w) || decide (hX (pieces w p)=(gO (pe p) w).map ((-1) * ·)))&&
 ((pieces w p).all λu=>decide (1≤u.length)&&decide (l1 u≤9)&&decide (u.length≤6))&&decide (kM (pieces w p)≤w+1)&&decide (1≤(pieces w p).length)
theorem AH:(aG.all λp=>Ae 3 p&&Ae 4 p)=true:=rfl
structure Pcs(w:Nat)(p:Pr):Prop where
 tb:∀u∈pieces w p,∃r∈sH w,r.1=u
 mu:∃s:Int,(s=1∨s=-1)∧hX (pieces w p)=(gO (pe p) w).map (s * ·)
 sz:∀u∈pieces w p,1≤u.length∧l1 u≤9∧u.length≤6
 dg:kM (pieces w p)≤w+1
 ne:1≤(pieces w p).length
theorem iC{w:Nat}(hw:w=3∨w=4){p:Pr}(hp:p∈aG):Pcs w p:=by
 have h0:=CA.mp AH p hp
 rw[Ca] at h0
 have h:Ae w p=true:=by rcases hw with rfl|rfl;exact h0.1;exact h0.2
 unfold Ae at h
 simp only[Bool.and_eq_true,List.all_eq_true,decide_eq_true_eq,Bool.or_eq_true,List.any_eq_true] at h
 obtain⟨⟨⟨⟨h1,h2⟩,h3⟩,h4⟩,h5⟩:=h
 refine⟨h1,?_,λu hu=>⟨(h3 u hu).1.1,(h3 u hu).1.2,(h3 u hu).2⟩,h4,h5⟩
 rcases h2 with h2|h2
 ·refine iEA 1 (.inl rfl) ?_
  show h2
  conv=>lhs;rw[←List.map_id (gO (pe p) w)]
  apply List.map_congr_left
  intro a _
  change a=1*a
  simp
 ·exact iEA (-1) (.inr rfl) h2
theorem xV{w:Nat}(hw:w=3∨w=4){p:Pr}(hp:p∈aG):(unL w 0 (gO (pe p) w)).Perm (pe p):=by
 have O:=gZ hw hp
 have:=O.un
 rw[O.pt,gj] at this
 exact this
theorem wM{w:Nat}(hw:w=3∨w=4){p:Pr}(hp:p∈aG)(x:Rat):evL (kC (gO (pe p) w)) x=pv p x (x^w):=by
 have:=si (w:=w) (x:=x) (z:=gO (pe p) w) (k:=0)
 rw[gi (xV hw hp),mz,lA] at this
 show this;exact Eq.symm (Rat.one_mul _)
theorem rJ{c t:Int}:∀{z:List Int},evZ (z.map (c * ·)) t=c*evZ z t:=λ{z}=>by
 induction z with
 |nil=>
  change (0:Int)=c*0;exact Eq.symm (Int.mul_zero _)
 |cons a z ih'=>
  change c*a+t*evZ (z.map (c * ·)) t=c*(a+t*evZ z t)
  show ih';grind
theorem kW{w:Nat}(hw:w=3∨w=4):∀{R:List Pr},(∀p∈R,p∈aG)→∃s:Int,(s=1∨s=-1)∧∀t:Int,((PZ (R.flatMap (pieces w)) t:Int):Rat)=(s:Rat)*PV R (t:Rat) ((t:Rat)^w)
 |[],_=>⟨1,.inl rfl,λt=>by change ((1:Int):Rat)=((1:Int):Rat)*1;exact Eq.symm (Rat.mul_one _)⟩
 |p::R,h=>by
  have hp:=h p B9
  refine oEA (kW hw (R:=R) λq hq=>h q (B6 _ hq)) λs hs h1=>?_
  refine oEA ((iC hw hp).mu) λs' hs' h2=>?_
  refine iEA (s'*s) (by rcases hs with rfl|rfl<;>rcases hs' with rfl|rfl<;>decide) (λt=>?_)
  show List.flatMap_cons;show qb;show Rat.intCast_mul;show h1;show Rat.intCast_mul
  have h3:PZ (pieces w p) t=s'*evZ (gO (pe p) w) t:=by refine rL (fQ ..) ?_;show h2;show rJ;rfl
  have h4:((evZ (gO (pe p) w) t:Int):Rat)=pv p (t:Rat) ((t:Rat)^w):=by rw[←gQ,wM hw hp]
  show h3;show Rat.intCast_mul;show h4
  change _=_*(pv p _ _*PV R _ _)
  grind
section
set_option exponentiation.threshold 5000
theorem DP.scale{D N:Nat}{q:Rat}(h:DP D N q)(w:Nat):DP (D*w) (N*w) q:=by
 refine oEA h λz e hz=>?_
 refine iEA (z*w) ?_ (by show Int.natAbs_mul;show Ct;exact Cs _ hz)
 show Rat.natCast_mul;refine rL (Rat.mul_assoc ..) ?_;show e;show Rat.intCast_mul;rfl
theorem DP.neg{D N:Nat}{q:Rat}(h:DP D N q):DP D N (-q):=by
 refine oEA h λz e hz=>?_
 exact iEA (-z) (by show Rat.neg_mul;show e;show Rat.intCast_neg;rfl) (by show Int.natAbs_neg;exact hz)
theorem rK{k:Mo}:∀{B A:PE},(keys A).Nodup→(keys B).Nodup→cf (bl A B) k=cf A k+cf B k:=λ{B}=>by
 induction B with
 |nil=>
  intro A _ _
  change cf A k=cf A k+0;grind
 |cons e B ih'=>
  intro A hA hB
  have hB:(e.1::keys B).Nodup:=hB
  rw[List.nodup_cons] at hB
  change cf (bl (aF A e.1 e.2) B) k=_
  show ih' (fz hA) hB.2;show ph hA
  have h1:cf (e::B) k=(if e.1=k then e.2 else cf B k):=by
   unfold cf
   change (if e.1=k then some e.2 else bT k B).getD 0=_
   by_cases h:e.1=k
   ·show if_pos h;show if_pos h;rfl
   ·show if_neg h;show if_neg h;rfl
  show h1
  by_cases h:k=e.1
  ·show if_pos h;show if_pos h.symm;show h;show hO hB.1;grind
  ·show if_neg h;show(if_neg λx=>h x.symm);grind
theorem og{m k:Mo}{u:Rat}:∀{A:PE},cf (be A m u) (bZ k m)=cf A k*u:=λ{A}=>by
 induction A with
 |nil=>
  change (0:Rat)=0*u;exact Eq.symm (Rat.zero_mul _)
 |cons e A ih'=>
  unfold cf
  change (if bZ e.1 m=bZ k m then some (e.2*u) else bT (bZ k m) (be A m u)).getD 0=(if e.1=k then some e.2 else bT k A).getD 0*u
  by_cases h:e.1=k
  ·show if_pos h;show(if_pos (by show h;rfl));rfl
  ·show if_neg h;show(if_neg λx=>h (oI x))
   exact ih'
theorem Clean.cf_of{P:PE}(h:Clean P){e:Mo×Rat}(he:e∈P):cf P e.1=e.2:=by
 unfold cf
 show aw (k:=e.1) (u:=e.2) h.nd he;rfl
theorem mvaddP_mem:∀{B A:PE}{e:Mo×Rat},e∈bl A B→e.1∈keys A∨e.1∈keys B:=λ{B}=>by
 induction B with
 |nil=>
  intro A e h
  exact .inl (bu h)
 |cons d B ih'=>
  intro A e h
  have h:e∈bl (aF A d.1 d.2) B:=h
  rcases ih' h with h|h
  ·refine oEA (Cl.mp h) λa ha e1=>?_
   rcases addTerm_mem ha with ha|⟨ha,_⟩
   ·exact .inl (e1▸bu ha)
   ·exact .inr (by refine rL (e1 ..) ?_;show ha;exact B9)
  ·exact .inr (B6 _ h)
noncomputable def box:List Mo:=(List.range 4).flatMap λ(i:Nat)=>(List.range 13).map λ(j:Nat)=>(i,j)
theorem uA:bX (box.map λk=>i0 (kt k))=true:=rfl
theorem oN{α:Type}{g:α→Int}:∀{l:List α},bX (l.map g)=true→∀a∈l,∀b∈l,g a=g b→a=b:=λ{l}=>by
 induction l with
 |nil=>
  intro _ a ha _ _ _
  cases ha
 |cons c l ih'=>
  intro h a ha b hb e
  rw[Cc] at h
  unfold bX at h
  rw[Ca,Bool.not_eq_true',List.any_eq_false] at h
  have hc:∀d∈l,g d≠g c:=λd hd e=>h.1 (g d) (Cl.mpr ⟨d,hd,rfl⟩) (decide_eq_true ‹_›)
  rcases Cb.mp ha with h1|h1<;>rcases Cb.mp hb with h2|h2
  ·show h1;show h2;rfl
  ·rw[h1] at e;exact absurd e.symm (hc b h2)
  ·rw[h2] at e;exact absurd e (hc a h1)
  ·exact ih' h.2 a h1 b h2 e
theorem qP{α:Type}{g:α→Int}:∀{l:List α},l.Nodup→(∀a∈l,∀b∈l,g a=g b→a=b)→bX (l.map g)=true:=λ{l}=>by
 induction l with
 |nil=>
  intro _ _
  exact rfl
 |cons c l ih'=>
  intro hn h
  rw[List.nodup_cons] at hn
  show Cc
  unfold bX
  show Ca;show Bool.not_eq_true';show propext (List.any_eq_false ..)
  refine⟨λx hx hxe=>?_,ih' hn.2 λa ha b hb=>h a (B6 _ ha) b (B6 _ hb)⟩
  refine oEA (Cl.mp hx) λd hd h1=>?_
  have h2:=of_decide_eq_true hxe
  have:=h d (B6 _ hd) c B9 (h1.trans h2)
  exact hn.1 (this▸hd)
noncomputable def hk(k:Mo):Int:=i0 (kt k)
theorem qY(P:PE):(enc P).map (λe=>i0 e.1)=(keys P).map hk:=by
 unfold enc keys
 show List.map_map;show List.map_map
 apply List.map_congr_left
 intro e _
 rfl
theorem wO{P:PE}(hn:(keys P).Nodup)(hb:∀e∈P,e.1.1≤3∧e.1.2≤12):jC P:=by
 have inb:∀k∈keys P,k∈box:=λk hk=>by
  refine oEA (Cl.mp hk) λd hd zr0=>?_;subst zr0
  have:=hb d hd
  exact List.mem_flatMap.mpr ⟨d.1.1,List.mem_range.mpr ((Nat.lt_succ_of_le this.1)),Cl.mpr ⟨d.1.2,List.mem_range.mpr ((Nat.lt_succ_of_le this.2)),rfl⟩⟩
 have hbx:bX (box.map hk)=true:=uA
 unfold jC
 show qY
 exact qP hn λa ha b hb' e=>oN hbx a (inb a ha) b (inb b hb') e
structure DF(f b:PE)(s:DS):Prop where
 cq:Clean s.q
 cr:Clean s.r
 ve:∀x y,ev f x y=ev b x y*ev s.q x y+ev s.r x y
 rd:∀k∈keys s.r,dv (ld b) k=false
noncomputable def dD(w n:Nat):Nat:=w^n
noncomputable def dN(n:Nat):Nat:=46656*13122^n
structure DG(f b:PE)(w T:Nat)(s:DS):Prop where
 cl:Clean s.l
 cq:Clean s.q
 cr:Clean s.r
 ve:∀x y,ev f x y=ev b x y*ev s.q x y+ev s.r x y+ev s.l x y
 bx:∀e∈s.l,e.1.1≤3∧e.1.2+3*e.1.1≤12
 mt:∀e∈s.l,mu e.1<T
 rd:∀k∈keys s.r,dv (ld b) k=false
 rm:∀k∈keys s.r,T≤mu k
 bd:∃n,n+T≤52∧DPs (dD w n) (dN n) s.l∧DPs (dD w n) (dN n) s.q∧s.q.length≤n∧s.r.length≤n∧s.l.length≤27+n*16
structure BOk(b:PE):Prop where
 cl:Clean b
 ne:b≠[]
 it:eP 6561 b
 le:b.length≤16
 bx:∀e∈b,e.1.1≤3∧e.1.2≤3
theorem AE{n:Nat}(h:n≤52):dN n<2^744:=by
 unfold dN
 have h1:13122^n≤(2^14)^n:=Nat.pow_le_pow_left (Mine.Lake.leb rfl) n
 rw[←Nat.pow_mul] at h1
 have h2:2^(14*n)≤2^728:=Cp (ltb rfl) ((B4 (Nat.mul_le_mul_left _ h) (Cj _)))
 have h3:(46656:Nat)*2^728<2^744:=Nat.lt_log2_self
 lia
theorem A2{w n:Nat}(hw:w≤6561)(h:n≤52):dD w n<2^744:=by
 unfold dD
 have h0:w^n≤(2^13)^n:=Nat.pow_le_pow_left (B4 hw (Mine.Lake.leb rfl)) n
 rw[←Nat.pow_mul] at h0
 have h2:2^(13*n)≤2^676:=Cp (ltb rfl) ((B4 (Nat.mul_le_mul_left _ h) (Cj _)))
 have h3:2^676<2^744:=Nat.pow_lt_pow_right (ltb rfl) (ltb rfl)
 exact Ck h0 (Ck h2 h3)
theorem mq(n:Nat):dN (n+1)=dN n*13122:=by unfold dN;show Nat.pow_succ;show Nat.mul_assoc;rfl
theorem my(w n:Nat):dD w (n+1)=dD w n*w:=by unfold dD;show Nat.pow_succ;rfl
theorem oo{w n:Nat}(hw:w≤6561){P:PE}(h:DPs (dD w n) (dN n) P):DPs (dD w (n+1)) (dN (n+1)) P:=λe he=>by
 show mq;show my
 exact((h e he).scale w).le (Nat.mul_le_mul_left _ ((B4 hw (B5 _ _))))
theorem t4{N m:Nat}(h:N<2^744)(hm:744≤m):N<2^m:=B7 h (Cp (ltb rfl) hm)
end
section
set_option exponentiation.threshold 5000
theorem zw{j k:Mo}(h:lle k j)(hn:k≠j)(h1:k.2≤15):mu k<mu j:=by
 have:¬(k.1=j.1∧k.2=j.2):=λh=>hn (Prod.ext h.1 h.2)
 unfold lle at h
 unfold mu;lia
theorem qS{j k:Mo}(h:dv j k=true):bZ j (subM k j)=k:=by
 unfold dv at h
 rw[Ca,decide_eq_true_eq,decide_eq_true_eq] at h
 unfold bZ subM
 exact Prod.ext (by change j.1+(k.1-j.1)=k.1;exact Nat.add_sub_of_le h.1) (by change j.2+(k.2-j.2)=k.2;exact Nat.add_sub_of_le h.2)
theorem ze{k:Mo}{P:PE}(h:(keys P).Nodup):cf (rmP k P) k=0:=by
 unfold cf
 show gU h;show if_pos rfl;rfl
theorem lI{k:Mo}{P:PE}(h:Clean P):Clean (rmP k P):=⟨j6 h.nd,λe he=>h.nz e (dA he)⟩
theorem natAbs_pos{b:PE}(B:BOk b):0<(lc b).num.natAbs:=by
 exact Int.natAbs_pos.mpr (iX (B.cl.lc_ne B.ne))
theorem lU{b:PE}(B:BOk b):(lc b).den=1∧(lc b).num.natAbs≤6561:=by
 have h:=qj (P:=b) (k:=ld b) (B.cl.lc_ne B.ne)
 exact B.it _ h
theorem vj{D N:Nat}{a c:Rat}(h:DP D N a)(hc:c≠0)(hi:c.den=1):DP (D*c.num.natAbs) N (a/c):=by
 refine oEA h λz e hz=>?_
 have hcc:c*c⁻¹=1:=Rat.mul_inv_cancel c hc
 obtain⟨s,hs,hs'⟩ : ∃s:Int,(s=1∨s=-1)∧((c.num.natAbs:Nat):Rat)=(s:Rat)*c:=by
  have one:∀s:Int,((c.num.natAbs:Nat):Int)=s*c.num→((c.num.natAbs:Nat):Rat)=(s:Rat)*c:=λs h=>by
   change (((c.num.natAbs:Nat):Int):Rat)=_
   show h;show Rat.intCast_mul;refine rL (ka hi ..) ?_;rfl
  rcases Int.natAbs_eq c.num with h|h
  ·exact iEA 1 (.inl rfl) (one 1 (by lia))
  ·exact iEA (-1) (.inr rfl) (one (-1) (by lia))
 refine iEA (s*z) ?_ (by rcases hs with rfl|rfl<;>lia)
 show Rat.natCast_mul;show hs';show Rat.intCast_mul;refine rL (e ..) ?_;show Rat.div_def
 have:a*c⁻¹*((D:Rat)*((s:Rat)*c))=(s:Rat)*(a*(D:Rat))*(c*c⁻¹):=by generalize c⁻¹=i;grind
 show this;show hcc;exact Rat.mul_one _
theorem zR{b:PE}(B:BOk b){D N:Nat}{u:Rat}(hu:DP D N u)(k:Mo):DP D (N*6561) (cf b k*u):=by
 by_cases h:cf b k=0
 ·show h;show Rat.zero_mul
  exact DP.zero
 ·have:=B.it _ (qj h)
  show Rat.mul_comm
  exact hu.mulInt this
theorem s0{f b:PE}(B:BOk b){T:Nat}{s:DS}(h:DG f b (lc b).num.natAbs T s)(hn:s.l≠[]):∃T',T'<T∧DG f b (lc b).num.natAbs T' (gl b s):=by
 have hk:=(gH hn).1
 have hmax:=(gH hn).2
 refine oEA (Cl.mp hk) λe0 he0 e00=>?_
 have hT:=h.mt e0 he0
 have hb0:=h.bx e0 he0
 rw[e00] at hT hb0
 have hw:=(lU B).2
 refine pW h.bd λn n1 n2 n3 n4 n5 n6=>?_
 have lle_l:∀e∈s.l,lle e.1 (ld s.l):=λe he=>hmax _ (bu he)
 refine iEA (mu (ld s.l)) hT ?_
 unfold gl
 by_cases hd:dv (ld b) (ld s.l)=true
 ·show if_pos hd
  have hm:=qS hd
  have hlb:=B.cl.lc_ne B.ne
  have hll:=h.cl.lc_ne hn
  generalize hu:lc s.l/lc b=u
  generalize subM (ld s.l) (ld b)=m at *
  have hbu:lc b*u=lc s.l:=by refine rL (hu ..) ?_;show Rat.div_def;have:=Rat.mul_inv_cancel _ hlb;generalize (lc b)⁻¹=i at *;grind
  have hu0:u≠0:=λh0=>hll (by refine rL (hbu ..) ?_;show h0;exact Rat.mul_zero _)
  have cS:Clean (be b m u):=mN hu0 B.cl
  have cN:Clean (bA (λv=>-v) (be b m u)):=ew (f:=λv=>-v) (λv hv (h:-v=0)=>hv (by grind)) cS
  have cL:=(bS (x:=0) (y:=0) (B:=bA (λv=>-v) (be b m u)) h.cl).1
  have cfL:∀k,cf (bl s.l (bA (λv=>-v) (be b m u))) k=cf s.l k + -cf (be b m u) k:=λk=>by
   show rK h.cl.nd cN.nd;show(so (f:=λv=>-v) (Rat.neg_zero));rfl
  have hbm:∀a∈b,lle (bZ a.1 m) (ld s.l)∧(bZ a.1 m).1≤3∧(bZ a.1 m).2+3*(bZ a.1 m).1≤12:=λa ha=>by
   have h1:=(gH B.ne).2 _ (bu ha)
   have h2:=B.bx a ha
   obtain⟨bi,hbi⟩ : ∃e∈b,e.1=ld b:=Cl.mp (gH B.ne).1
   have h3:=B.bx bi hbi.1
   rw[hbi.2] at h3
   have h4:(ld b).1+m.1=(ld s.l).1:=congrArg Prod.fst hm
   have h5:(ld b).2+m.2=(ld s.l).2:=congrArg Prod.snd hm
   unfold lle at h1 ⊢
   change (a.1.1+m.1<_∨(a.1.1+m.1=_∧a.1.2+m.2≤_))∧a.1.1+m.1≤3∧(a.1.2+m.2)+3*(a.1.1+m.1)≤12
   lia
  have memL:∀e∈bl s.l (bA (λv=>-v) (be b m u)),lle e.1 (ld s.l)∧e.1.1≤3∧e.1.2+3*e.1.1≤12:=λe he=>by
   rcases mvaddP_mem he with h1|h1
   ·refine oEA (Cl.mp h1) λd hd' e1=>?_
    refine rL (e1 ..) ?_
    exact⟨lle_l d hd',h.bx d hd'⟩
   ·rw[bF,eV] at h1
    refine oEA (Cl.mp h1) λk hk' e1=>?_
    refine oEA (Cl.mp hk') λa ha zr0=>?_;subst zr0
    refine rL (e1 ..) ?_
    exact hbm a ha
  have n2':DP (dD (lc b).num.natAbs n) (dN n) (lc s.l):=getP_dp n2
  have hdu:=vj n2' hlb (lU B).1
  rw[hu] at hdu
  refine⟨cL,dP h.cq,h.cr,λx y=>?_,λe he=>(memL e he).2,λe he=>?_,h.rd,λk hk=>B4 (Nat.le_of_lt hT) (h.rm k hk),n+1,by lia,λe he=>?_,λe he=>?_,?_,by change s.r.length≤_;exact Nat.le_succ_of_le n5,?_⟩
  ·change ev f x y=ev b x y*ev (aF s.q m u) x y+ev s.r x y+ev (bl s.l (bA (λv=>-v) (be b m u))) x y
   show fW h.cq.nd;show(bS h.cl).2;show(kF (f:=λv=>-v) (c:=-1) (λu=>by grind));show uM;show h.ve x y
   generalize u*(x^m.1*y^m.2)=z
   grind
  ·have h1:=memL e he
   refine zw h1.1 (λe1=>?_) ((B4 (Nat.le_of_add_right_le h1.2.2) (B5 _ _)))
   have h2:=cL.cf_of he
   have h3:=cL.nz e he
   have h5:cf s.l (ld s.l)=lc s.l:=rfl
   have h6:cf b (ld b)=lc b:=rfl
   rw[←h2,e1,cfL,h5] at h3
   apply h3
   have h4:=og (m:=m) (k:=ld b) (u:=u) (A:=b)
   rw[hm,h6,hbu] at h4
   show h4
   exact Rat.add_neg_cancel _
  ·show mq;show my;refine rL (cL.cf_of he ..) ?_;show cfL
   have h1:DP (dD (lc b).num.natAbs n*(lc b).num.natAbs) (dN n*6561) (cf s.l e.1):=(DP.scale (getP_dp n2:DP _ _ (cf s.l e.1)) _).le (Nat.mul_le_mul_left _ hw)
   have h2:DP (dD (lc b).num.natAbs n*(lc b).num.natAbs) (dN n*6561) (cf (be b m u) e.1):=by
    by_cases hk':e.1∈keys (be b m u)
    ·rw[eV] at hk'
     refine oEA (Cl.mp hk') λk xx e1=>?_
     refine rL (e1 ..) ?_;show og
     exact zR B hdu k
    ·show hO hk';exact .zero
   have h3:=h1.add h2.neg
   exact h3.le (by lia)
  ·show mq;show my
   have h0:∀v,DP (dD (lc b).num.natAbs n) (dN n) v→DP (dD (lc b).num.natAbs n*(lc b).num.natAbs) (dN n*6561) v:=λv hv=>(hv.scale _).le (Nat.mul_le_mul_left _ hw)
   rcases addTerm_mem he with he|⟨_,he|⟨v,hv,he⟩⟩
   ·exact(h0 _ (n3 e he)).le ((Nat.mul_le_mul_left _ (B5 _ _)))
   ·show he;exact hdu.le (Nat.le_mul_of_pos_right _ (Mine.Lake.ltb rfl))
   ·show he
    exact((h0 _ (n3 _ hv)).add hdu).le (by lia)
  ·have:=eQ (P:=s.q) (k:=m) (q:=u)
   change (aF s.q m u).length≤_
   exact B4 this (Nat.succ_le_succ n4)
  ·have h1:=gu (A:=s.l) (B:=bA (λv=>-v) (be b m u))
   have h2:(bA (λv=>-v) (be b m u)).length=b.length:=by unfold bA be;show B8;show B8;rfl
   have h3:=B.le
   change (bl s.l (bA (λv=>-v) (be b m u))).length≤_
   lia
 ·show if_neg hd
  have hd:dv (ld b) (ld s.l)=false:=by simpa using hd
  have hfr:ld s.l∉keys s.r:=λhk=>by have:=h.rm _ hk;lia
  have hsub:∀e∈rmP (ld s.l) s.l,e∈s.l∧e.1≠ld s.l:=λe he=>by
   refine⟨dA he,λe1=>?_⟩
   have h1:=(lI (k:=ld s.l) h.cl).cf_of he
   rw[e1,ze h.cl.nd] at h1
   exact(h.cl.nz e (dA he)) h1.symm
  refine⟨lI h.cl,h.cq,⟨ey h.cr.nd,λe he=>?_⟩,λx y=>?_,λe he=>h.bx e (hsub e he).1,λe he=>?_,λk hk=>?_,λk hk=>?_,n+1,by lia,?_,oo hw n3,by change s.q.length≤_;exact Nat.le_succ_of_le n4,?_,?_⟩
  ·rcases setP_mem he with he|he
   ·show he;exact h.cl.lc_ne hn
   ·exact h.cr.nz e he
  ·change ev f x y=ev b x y*ev s.q x y+ev (fL (ld s.l) (lc s.l) s.r) x y+ev (rmP (ld s.l) s.l) x y
   show i6;show oj h.cl.nd;show hO hfr;show h.ve x y
   change _=_+(_+(lc s.l-0)*_)+(_-lc s.l*_)
   grind
  ·have h1:=hsub e he
   exact zw (lle_l e h1.1) h1.2 (by have:=h.bx e h1.1;exact B4 (Nat.le_of_add_right_le this.2) (Mine.Lake.leb rfl))
  ·refine oEA (Cl.mp hk) λe he e1=>?_
   rcases setP_mem he with he|he
   ·refine rL (e1 ..) ?_;show he;exact hd
   ·exact h.rd k (e1▸bu he)
  ·refine oEA (Cl.mp hk) λe he e1=>?_
   rcases setP_mem he with he|he
   ·refine rL (e1 ..) ?_;show he;exact Cj _
   ·exact B4 (Nat.le_of_lt hT) (h.rm k (e1▸bu he))
  ·exact oo hw λe he=>n2 e (dA he)
  ·have:=eg (k:=ld s.l) (q:=lc s.l) (P:=s.r)
   change (fL (ld s.l) (lc s.l) s.r).length≤_
   exact B4 this (Nat.succ_le_succ n5)
  ·have:=mP (k:=ld s.l) (P:=s.l)
   change (rmP (ld s.l) s.l).length≤_
   lia
theorem vA{f b:PE}(B:BOk b){T:Nat}{s:DS}(h:DG f b (lc b).num.natAbs T s):RunOk b s:=by
 refine pW h.bd λn n1 n2 n3 n4 n5 n6=>?_
 have hw:=(lU B).2
 have hN:=AE (n:=n) ((Nat.le_of_add_right_le n1))
 have hD:=A2 (w:=(lc b).num.natAbs) (n:=n) hw ((Nat.le_of_add_right_le n1))
 have hD0:0<dD (lc b).num.natAbs n:=Nat.pow_pos (natAbs_pos B)
 have fine:∀{m:Nat}{P:PE},744≤m→DPs (dD (lc b).num.natAbs n) (dN n) P→dU m P:=λ{m P} hm hP e he=>dI (hP e he) hD0 (t4 hN hm) (t4 hD hm)
 refine⟨h.cl.nd,fine (leb rfl) n2,wO h.cl.nd λe he=>by have:=h.bx e he;exact And.intro this.1 (Nat.le_of_add_right_le this.2),by lia,fine (leb rfl) n3,(B4 n4 (B4 (Nat.le_of_add_right_le n1) (B5 _ _))),(B4 n5 (B4 (Nat.le_of_add_right_le n1) (B5 _ _))),λhn hd=>?_⟩
 have hlb:=B.cl.lc_ne B.ne
 have hll:=h.cl.lc_ne hn
 have n2':DP (dD (lc b).num.natAbs n) (dN n) (lc s.l):=getP_dp n2
 have hdu:=vj n2' hlb (lU B).1
 generalize hu:lc s.l/lc b=u at *
 have hbu:lc b*u=lc s.l:=by refine rL (hu ..) ?_;show Rat.div_def;have:=Rat.mul_inv_cancel _ hlb;generalize (lc b)⁻¹=i at *;grind
 have hu0:u≠0:=λh0=>hll (by refine rL (hbu ..) ?_;show h0;exact Rat.mul_zero _)
 have hD1:dD (lc b).num.natAbs n*(lc b).num.natAbs<2^760:=by
  have h1:=Nat.mul_le_mul (Nat.le_of_lt hD) hw
  have h2:2^744*6561<2^760:=Mine.Lake.leb rfl
  exact Ck h1 h2
 have hN1:dN n*6561<2^760:=by
  have h1:=Cs 6561 (Nat.le_of_lt hN)
  have h2:2^744*6561<2^760:=Mine.Lake.leb rfl
  exact Ck h1 h2
 have up:∀{N m:Nat},N<2^760→760≤m→N<2^m:=λ{N m} h hm=>B7 h (Cp (ltb rfl) hm)
 have hD2:0<dD (lc b).num.natAbs n*(lc b).num.natAbs:=Nat.mul_pos hD0 (natAbs_pos B)
 refine⟨hu0,dI n2' hD0 (t4 hN (leb rfl)) (t4 hD (leb rfl)),dI (hdu.le (M:=dN n*6561) (Nat.le_mul_of_pos_right _ (Mine.Lake.ltb rfl))) hD2 (up hN1 (leb rfl)) (up hD1 (leb rfl)),λe he=>?_⟩
 refine oEA (Cl.mp he) λd hd' zr0=>?_;subst zr0
 change RS 1500 (d.2*u)
 refine dI (D:=dD (lc b).num.natAbs n*(lc b).num.natAbs) (N:=dN n*6561) ?_ hD2 (up hN1 (leb rfl)) (up hD1 (leb rfl))
 show Rat.mul_comm
 exact hdu.mulInt (B.it d hd')
theorem xN{f b:PE}(cF:Clean f)(hi:eP 46656 f)(hl:f.length≤27)(hb:∀e∈f,e.1.1≤3∧e.1.2≤3)(B:BOk b):t9 f b (DF f b):=by
 have up:∀{m:Nat},6561<2^13→13≤m→6561<2^m:=λ{m} h hm=>B7 h (Cp (ltb rfl) hm)
 have hli:=lU B
 refine⟨B.cl.nd,kH B.it (up (Nat.lt_log2_self) (leb rfl)) (leb rfl),B.ne,by have:=B.le;exact Mine.Lake.letr this rfl,B.cl.lc_ne B.ne,eK hli.1 hli.2 (up (Nat.lt_log2_self) (leb rfl)) (leb rfl),DG f b (lc b).num.natAbs,52,?_,λT s h=>⟨vA B h,λhn=>s0 B h hn⟩,λT s h hn=>?_⟩
 ·refine⟨cF,cg,cg,λx y=>?_,λe he=>by have:=hb e he;change e.1.1≤3∧e.1.2+3*e.1.1≤12;lia,λe he=>by have:=hb e he;unfold mu;lia,(λk hk=>by cases hk),(λk hk=>by cases hk),0,by exact leb rfl,λe he=>?_,(λe he=>by cases he),Cj _,Cj _,by change f.length≤_;exact hl⟩
  ·change ev f x y=ev b x y*0+0+ev f x y
   grind
  ·have h1:=hi e he
   refine iEA e.2.num ?_ h1.2
   change e.2*((1:Nat):Rat)=_
   conv=>lhs;lhs;rw[ka h1.1]
   change _*1=_
   simp
 ·refine⟨h.cq,h.cr,λx y=>?_,h.rd⟩
  have:=h.ve x y
  rw[hn] at this
  show this
  change _+0=_
  exact Rat.add_zero _
end
section
set_option exponentiation.threshold 5000
noncomputable def kP(w:Nat)(U:List (List Int)):PE:=unL w 0 (hX U)
theorem xy{w k:Nat}{z:List Int}:∀e∈unL w k z,e.2.den=1:=λe he=>by
 refine pg (kz he) λn xx xx h xx=>?_
 show h;rfl
theorem Ap{s:Int}(hs:s=1∨s=-1):s≠0∧(s:Rat)≠0:=by
 rcases hs with rfl|rfl<;>exact⟨by decide,by decide⟩
theorem mf{w:Nat}(hw:w=3∨w=4){p:Pr}(hp:p∈aG){U:List (List Int)}(h:U.Perm (pieces w p)):(aY (kP w U)).2.Perm (pe p):=by
 refine oEA ((iC hw hp).mu) λs hs h1=>?_
 have hsn:=Ap hs
 have e:kP w U=bA (λv=>v*(s:Rat)) (unL w 0 (gO (pe p) w)):=by
  unfold kP
  refine rL (lp hsn.1 ..) ?_
  exact ow (ua λt=>by rw[fQ,vD h,←fQ,h1])
 have hu:=xV hw hp
 have hf:=eA hp
 show e;show(kc (j:=pT p) (λe he=>xy e he) (hf.2.1.perm hf.1 hu.symm) hsn.2)
 exact hu
theorem AG{w:Nat}{U:List (List Int)}(hU:∀u∈U,∃r∈sH w,r.1=u):∃t,PZ U t≠0:=by
 have ht:=u4 (w:=w)
 have:∃r,r∈sH w:=by
  unfold sH
  split
  ·exact⟨_,B9⟩
  ·exact⟨_,B9⟩
 refine oE this λr hr=>?_
 have hk:=CA.mp ht r hr
 obtain⟨p,l,t1,t2⟩:=r
 unfold o4 at hk
 simp only[Bool.and_eq_true,decide_eq_true_eq,List.all_eq_true,Bool.or_eq_true] at hk
 obtain⟨⟨⟨k1,k2,k3⟩,k4⟩,k5⟩:=hk
 have h:=uQ (l:=l) (t:=t2) (U:=U) λu hu=>by
  refine oEA (hU u hu) λd hd zr0=>?_;subst zr0
  exact k5 d hd
 refine⟨t2,λh0=>?_⟩
 rw[h0] at h
 have:Nat.gcd 0 l=1:=h
 rw[Nat.gcd_zero_left] at this
 lia
theorem nM{w:Nat}{U:List (List Int)}(t:Int):ev (kP w U) (t:Rat) ((t:Rat)^w)=((PZ U t:Int):Rat):=by
 unfold kP
 show si;show lA;show gQ;show fQ;exact Rat.one_mul _
theorem we{w:Nat}{U:List (List Int)}(hU:∀u∈U,∃r∈sH w,r.1=u):kP w U≠[]:=by
 refine oE (AG hU) λt ht=>?_
 intro h
 have:=nM (w:=w) (U:=U) t
 rw[h] at this
 have h0:((PZ U t:Int):Rat)=0:=this.symm
 exact ht (by exact_mod_cast h0)
theorem eU{U V:List (List Int)}:kM (U++V)=kM U+kM V:=by unfold kM;show List.map_append;show List.sum_append;rfl
theorem pO{U V:List (List Int)}(h:U.Perm V):kM U=kM V:=by
 have e:∀(u:List Int) (U:List (List Int)),kM (u::U)=(u.length-1)+kM U:=λu U=>by unfold kM;show Cc;show List.sum_cons;rfl
 induction h with
 |nil=>rfl
 |cons a _ ih=>show e;show e;show ih;rfl
 |swap a b l=>show e;show e;show e;show e;exact Nat.add_left_comm _ _ _
 |trans _ _ h1 h2=>show h1;show h2;rfl
theorem ql{w:Nat}(hw:w=3∨w=4):∀{R:List Pr},(∀p∈R,p∈aG)→kM (R.flatMap (pieces w))≤R.length*(w+1)
 |[],_=>by change 0≤_;exact leb rfl
 |p::R,h=>by
  have h1:=(iC hw (h p B9)).dg
  have h2:=ql hw (R:=R) λq hq=>h q (B6 _ hq)
  show List.flatMap_cons;show eU;show Ch;show Nat.succ_mul;lia
structure UOk(w:Nat)(U:List (List Int)):Prop where
 tb:∀u∈U,∃r∈sH w,r.1=u
 sz:∀u∈U,1≤u.length∧l1 u≤9∧u.length≤6
 dg:kM U≤(w-1)*(w+1)
theorem uok{w:Nat}(hw:w=3∨w=4){R:List Pr}(hR:∀p∈R,p∈aG)(hl:R.length≤w-1){U V:List (List Int)}(h:(U++V).Perm (R.flatMap (pieces w))):UOk w U:=by
 have hm:∀u∈U,∃p∈R,u∈pieces w p:=λu hu=>List.mem_flatMap.mp (h.mem_iff.mp (List.mem_append_left _ hu))
 refine⟨λu hu=>?_,λu hu=>?_,?_⟩
 ·refine oEA (hm u hu) λp hp h1=>?_
  exact(iC hw (hR p hp)).tb u h1
 ·refine oEA (hm u hu) λp hp h1=>?_
  exact(iC hw (hR p hp)).sz u h1
 ·have h1:=pO h
  rw[eU] at h1
  have h2:=ql hw hR
  have h3:=Cs (w+1) hl
  exact B4 (Cw _ _) (B4 (Cg h1) (B4 h2 h3))
theorem rF{U:List (List Int)}(h:∀u∈U,1≤u.length∧l1 u≤9∧u.length≤6):(hX U).length=1+kM U∧l1 (hX U)≤9^U.length:=by
 have:=js (M:=9) (U:=U) (z:=[1]) (λu hu=>⟨(h u hu).1,(h u hu).2.1⟩) (Mine.Lake.leb rfl)
 refine⟨this.1,B4 this.2 ?_⟩
 show(show l1 [1]=1 from rfl);show Nat.one_mul
 exact Cj _
theorem gd{w:Nat}(hw:w=3∨w=4){U:List (List Int)}(h:UOk w U)(h4:U.length≤4):Clean (kP w U)∧kP w U≠[]∧eP 6561 (kP w U)∧(kP w U).length≤16∧∀e∈kP w U,e.1.1≤3∧e.1.2≤3:=by
 refine oA (rF h.sz) λh1 h2=>?_
 have hlen:(hX U).length≤w*w:=by
  have:=h.dg
  rcases hw with rfl|rfl<;>lia
 have h3:9^U.length≤6561:=by
  have:(9:Nat)^U.length≤9^4:=Cp (ltb rfl) h4
  exact B4 this (Mine.Lake.leb rfl)
 refine⟨kR,we h.tb,λe he=>?_,?_,λe he=>?_⟩
 ·refine pg (kz he) λn n1 n2 n3 n4=>?_
  show n3
  refine⟨rfl,?_⟩
  change ((hX U).getD n 0).natAbs≤6561
  have:=rQ (dk (d:=0) n1)
  exact B4 (B4 this h2) h3
 ·refine B4 su ?_
  rcases hw with rfl|rfl<;>lia
 ·refine pg (kz he) λn n1 n2 n3 n4=>?_
  show n2;show Nat.zero_add
  have h5:n<w*w:=B7 n1 hlen
  have h6:n/w<w:=Nat.div_lt_of_lt_mul h5
  have h7:n%w<w:=Nat.mod_lt _ ((Ck (Nat.zero_le _) h6))
  change n%w≤3∧n/w≤3
  lia
theorem nW{w:Nat}(hw:w=3∨w=4){U:List (List Int)}(h:UOk w U)(h4:U.length≤4):BOk (aY (kP w U)).2:=by
 refine wu (gd hw h h4) λh1 h2 h3 h5 h6=>?_
 have W:=i9 h1 h2 h3
 have hk:=W.ke
 refine⟨W.cl,W.ne,W.it,?_,λe he=>?_⟩
 ·have:=congrArg List.length hk
  unfold keys at this
  rw[B8,B8] at this
  exact le_of_eq_of_le this h5
 ·have:=bu he
  rw[hk] at this
  refine oEA (Cl.mp this) λd hd e1=>?_
  refine rL (e1 ..) ?_;exact h6 d hd
theorem sU{w:Nat}(hw:w=3∨w=4){R:List Pr}(hR:∀p∈R,p∈aG):∀u∈R.flatMap (pieces w),∃r∈sH w,r.1=u:=λu hu=>by
 refine oEA (List.mem_flatMap.mp hu) λp hp h1=>?_
 exact(iC hw (hR p hp)).tb u h1
theorem zj{w:Nat}(hw:w=3∨w=4){R:List Pr}(hR:∀p∈R,p∈aG){U:List (List Int)}(hU:UOk w U)(h4:U.length≤4){Q:PE}(h:∀x y,ev (aY (kP w U)).2 x y*ev Q x y=PV R x y):∃S T:List Pr,(S++T).Perm R∧U.Perm (S.flatMap (pieces w)):=by
 refine wu (gd hw hU h4) λh1 h2 h3 h5 h6=>?_
 have W:=i9 h1 h2 h3
 refine kJ (nt R (λp hp=>uh p (hR p hp)) _ Q h) λS T A B k1 k2 k3 k4=>?_
 refine zY S T k1 ?_
 have hS:∀p∈S,p∈aG:=λp hp=>hR p (k1.mem_iff.mp (List.mem_append_left _ hp))
 refine oEA (kW hw hS) λs hs hs'=>?_
 refine oEA (xl (a:=λt=>ev A t (t^w)) (b:=λt=>ev B t (t^w)) (pA Pl.t (Pl.t.pow w) A) (pA Pl.t (Pl.t.pow w) B) λt=>k4 _ _) λc c0 hc=>?_
 have ht:=W.t0
 generalize hd:c*toldP (kP w U)=d
 have hd0:d≠0:=by
  refine rL (hd ..) ?_
  intro h0
  exact(Rat.mul_eq_zero.mp h0).elim c0 ht
 have hdi:d*d⁻¹=1:=Rat.mul_inv_cancel d hd0
 refine jT (u4 (w:=w)) hU.tb (sU hw hS) (c:=(s:Rat)*d⁻¹) λt=>?_
 rw[hs',←nM (w:=w),W.va,k2]
 have h7:ev A (t:Rat) ((t:Rat)^w)=c:=hc (t:Rat)
 show h7
 have h8:(s:Rat)*d⁻¹*(PV S (t:Rat) ((t:Rat)^w)*c*toldP (kP w U))=(s:Rat)*PV S (t:Rat) ((t:Rat)^w)*((c*toldP (kP w U))*d⁻¹):=by
  generalize d⁻¹=i
  grind
 show h8;show hd;show hdi;exact Rat.mul_one _
end
section
set_option exponentiation.threshold 5000
structure Iv(w:Nat)(ps:List Pr)(f:PE)(L:List (List Int))(fs:List Pr)(s:Nat)(R:List Pr):Prop where
 pr:(fs++R).Perm ps
 pl:L.Perm (R.flatMap (pieces w))
 cl:Clean f
 pf:f.Perm (Wp R)
 s1:1≤s
 s14:s≤14
 sz:∀p∈R,s≤(pieces w p).length
theorem ef{P Q:PE}(h:P.Perm Q):aL P=aL Q:=by
 have hk:(keys P).Perm (keys Q):=h.map _
 have one:∀{P Q:PE},(keys P).Perm (keys Q)→aL P=true→aL Q=true:=λ{P Q} hk h=>by
  unfold aL at *
  rw[CA] at *
  exact λk hk'=>h k (hk.mem_iff.mpr hk')
 cases hp:aL P with
 |true=>exact(one hk hp).symm
 |false=>
  cases hq:aL Q with
  |false=>rfl
  |true=>rw[one hk.symm hq] at hp;exact cTf hp
theorem bv{α:Type}{l m:List α}(h:l.Perm m):l.length=m.length:=h.length_eq
theorem vI{w:Nat}{ps:List Pr}(hps:∀p∈ps,p∈aG){f:PE}{L:List (List Int)}{fs R:List Pr}{s:Nat}(h:Iv w ps f L fs s R):(∀p∈R,p∈aG)∧(∀p∈fs,p∈aG)∧fs.length+R.length=ps.length:=by
 refine iAA (λp hp=>hps p (h.pr.mem_iff.mp (Cq _ hp))) (λp hp=>hps p (h.pr.mem_iff.mp (List.mem_append_left _ hp))) ?_
 have:=bv h.pr
 rw[Cf] at this;exact this
theorem nf{w s:Nat}:∀{R:List Pr},(∀p∈R,s≤(pieces w p).length)→R.length*s≤(R.flatMap (pieces w)).length
 |[],_=>by change 0*s≤_;exact B4 (Cg (Nat.zero_mul _)) (Nat.zero_le _)
 |p::R,h=>by
  have h1:=h p B9
  have h2:=nf (R:=R) λq hq=>h q (B6 _ hq)
  show List.flatMap_cons;show Cf;show Ch;show Nat.succ_mul;lia
theorem nX{R:List Pr}(hR:∀p∈R,p∈aG):Clean (Wp R):=(j7 hR).cl
theorem xM{A B:PE}(cA:Clean A)(cB:Clean B):∃D,Clean D∧∀x y,ev D x y=ev A x y-ev B x y:=by
 have cN:Clean (bA (λv=>-v) B):=ew (f:=λv=>-v) (λv hv (h:-v=0)=>hv (by grind)) cB
 refine iEA (bl A (bA (λv=>-v) B)) ((bS (x:=0) (y:=0) cA).1) (λx y=>?_)
 show(bS cA).2;show(kF (f:=λv=>-v) (c:=-1) (λu=>by grind));grind
theorem uF{f b:PE}{d:DS}(cb:Clean b)(b0:b≠[])(h:DF f b d){Q:PE}(cQ:Clean Q)(hQ:∀x y,ev f x y=ev b x y*ev Q x y):d.r=[]:=by
 refine oEA (xM cQ h.cq) λD cD hD=>?_
 have hr:∀x y,ev d.r x y=ev b x y*ev D x y:=λx y=>by
  have h1:=h.ve x y
  rw[hQ] at h1
  show hD;grind
 by_cases hD0:D=[]
 ·have:d.r.Perm []:=fN h.cr cg λx y=>by
   show hr;show hD0
   change _*0=(0:Rat)
   grind
  exact List.perm_nil.mp this
 ·exfalso
  have ht:=rt cb cD h.cr (vk b0) (vk hD0) hr
  have hc:lc b*lc D≠0:=λh0=>(Rat.mul_eq_zero.mp h0).elim (cb.lc_ne b0) (cD.lc_ne hD0)
  refine oAA (ht.ld hc) λr0 r1 xx=>?_
  have h2:=h.rd _ (gH r0).1
  rw[r1] at h2
  unfold dv bZ at h2
  simp at h2
theorem xP{w:Nat}(hw:w=3∨w=4){ps:List Pr}(hps:∀p∈ps,p∈aG)(hl:ps.length+1=w):RecOk w (λf L fs s=>∃R,Iv w ps f L fs s R) ps where
 base:=by
  rintro f L fs s ⟨R,h⟩
  refine oAA (vI hps h) λh1 h2 h3=>?_
  have h4:=km hw h1
  have h5:=bv h.pl
  have h6:=bv h.pf
  have h7:=(j7 h1).le
  have h8:=(pb R.length (by lia)).2
  exact⟨by lia,h.s1,h.s14,by lia,h2,(B4 (B4 (Cj _) (Cg h6)) (B4 (B4 h7 h8) (B5 _ _)))⟩
 step:=by
  rintro f L fs s ⟨R,h⟩ h2s
  refine oAA (vI hps h) λhR hfs hlen=>?_
  have h4:=km hw hR
  have h5:=bv h.pl
  have hs1:=h.s1
  have hRl:R.length≤w-1:=by lia
  have W:=j7 hR
  have aB:=pb R.length (by lia)
  have hev:∀x y,ev f x y=PV R x y:=λx y=>by rw[gi h.pf,sg hR]
  have lotU:∀lot∈lotsP s L.length,UOk w (lot.map (L.getD · []))∧(lot.map (L.getD · [])).length≤4:=λlot hlot=>by
   refine⟨uok hw hR hRl ((iL hlot).symm.trans h.pl),?_⟩
   show B8;show d7 hlot;lia
  have cand_eq:∀lot,bB L lot w=(aY (kP w (lot.map (L.getD · [])))).2:=λlot=>by
   unfold bB kP
   show eR;show gj;rfl
  have hdf:∀lot∈lotsP s L.length,∀d,DF f (bB L lot w) d→d.r=[]→∃p T,(p::T).Perm R∧(bB L lot w).Perm (pe p)∧(cy [] L lot).Perm (T.flatMap (pieces w))∧d.q.Perm (Wp T)∧(cy [] L lot).length<L.length:=λlot hlot d hd hr=>by
   refine oA (lotU lot hlot) λhU hU4=>?_
   have hve:∀x y,ev (bB L lot w) x y*ev d.q x y=PV R x y:=λx y=>by
    have:=hd.ve x y
    rw[hr,hev] at this
    show this
    change _=_+0
    exact Eq.symm (Rat.add_zero _)
   refine kN (zj hw hR hU hU4 (Q:=d.q) (by refine rL (cand_eq ..) ?_;exact hve)) λS T k1 k2=>?_
   have hUl:(lot.map (L.getD · [])).length=s:=by show B8;show d7 hlot;rfl
   have hSl:=nf (w:=w) (s:=s) (R:=S) λp hp=>h.sz p (k1.mem_iff.mp (List.mem_append_left _ hp))
   have h6:=bv k2
   rw[hUl] at h6
   have hS1:S.length=1:=by
    rcases Nat.lt_or_ge S.length 2 with h7|h7
    ·rcases Nat.eq_zero_or_pos S.length with h8|h8
     ·exfalso
      rw[List.length_eq_zero_iff.mp h8] at h6
      have:s=0:=h6
      lia
     ·exact Nat.le_antisymm (Nat.le_of_lt_succ h7) (Nat.succ_le_of_lt h8)
    ·exfalso
     have:=Cs s h7
     lia
   refine oE (List.length_eq_one_iff.mp hS1) λp zr0=>?_;subst zr0
   have k2:(lot.map (L.getD · [])).Perm (pieces w p):=by
    rw[show[p].flatMap (pieces w)=pieces w p from Cn _] at k2;exact k2
   have k1:(p::T).Perm R:=k1
   have hp:p∈aG:=hR p (k1.mem_iff.mp B9)
   have hT:∀q∈T,q∈aG:=λq hq=>hR q (k1.mem_iff.mp (B6 _ hq))
   have hc:(bB L lot w).Perm (pe p):=by show cand_eq;exact mf hw hp k2
   have hpe:=eA hp
   refine⟨p,T,k1,hc,?_,?_,?_⟩
   ·have h7:=(iL hlot).symm.trans (h.pl.trans (k1.symm.flatMap_right _))
    rw[List.flatMap_cons] at h7
    exact(List.perm_append_left_iff _).mp ((k2.symm.append_right _).trans h7)
   ·refine iz hpe.1 (hpe.2.1.ld (by decide)).1 hd.cq (nX hT) λx y=>?_
    have h8:=hve x y
    rw[gi hc,←nD k1] at h8
    rw[h8,mz,sg hT];rfl
   ·have h7:=bv (iL hlot)
    rw[Cf,hUl] at h7
    lia
  refine sL (λlot d=>DF f (bB L lot w) d) (λlot hlot=>⟨⟨λdn rs e=>?_,λi hi=>?_,?_⟩,λxx=>?_⟩) (λlot hlot d xx hd hr=>?_) (λhno=>⟨R,h.pr,h.pl,h.cl,h.pf,by exact leb rfl,by lia,λp hp=>?_⟩) (λlot hlot d xx hd hr=>?_)
  ·refine oA (lotU lot hlot) λhU hU4=>?_
   show eR
   rw[e,List.map_append] at hU hU4
   have hsz:∀u∈dn.map (L.getD · []),1≤u.length∧l1 u≤9∧u.length≤6:=λu hu=>hU.sz u (List.mem_append_left _ hu)
   refine oA (rF hsz) λm1 m2=>?_
   have hdg:=hU.dg
   rw[eU] at hdg
   have hdl:(dn.map (L.getD · [])).length≤4:=by rw[Cf] at hU4;exact Nat.le_of_add_right_le hU4
   have h3:9^(dn.map (L.getD · [])).length≤6561:=by
    have:(9:Nat)^(dn.map (L.getD · [])).length≤9^4:=Cp (ltb rfl) hdl
    exact B4 this (by decide)
   refine⟨λx hx=>?_,?_⟩
   ·have:=rQ hx
    exact aA.fit (m:=13) (Ck (B4 this (B4 m2 h3)) (by decide)) (leb rfl)
   ·show m1
    rcases hw with rfl|rfl<;>lia
  ·refine oA (lotU lot hlot) λhU hU4=>?_
   have hs:=hU.sz (L.getD i []) (Cl.mpr ⟨i,hi,rfl⟩)
   refine⟨λx hx=>?_,(B4 hs.2.2 (B5 _ _))⟩
   have:=rQ hx
   exact aA.fit (m:=4) (Ck (B4 this hs.2.1) (by decide)) (leb rfl)
  ·refine oA (lotU lot hlot) λhU hU4=>?_
   refine wu (gd hw hU hU4) λg1 g2 g3 g4 g5=>?_
   show eR;show gj
   exact iS g1 g2 g3 (B7 (show 6561<2^13 by decide) (Cp (ltb rfl) (leb rfl))) (B4 g4 (leb rfl))
  ·refine oA (lotU lot hlot) λhU hU4=>?_
   change t9 f (bB L lot w) (DF f (bB L lot w))
   show cand_eq
   refine xN h.cl (λe he=>?_) (by show bv h.pf;exact B4 W.le aB.2) (λe he=>?_) (nW hw hU hU4)
   ·exact rB W.it aB.1 e (h.pf.mem_iff.mp he)
   ·have:=W.bx e (h.pf.mem_iff.mp he)
    lia
  ·refine rg (hdf lot hlot d hd hr) λp T k1 k2 k3 k4 k5=>?_
   have hT:∀q∈T,q∈aG:=λq hq=>hR q (k1.mem_iff.mp (B6 _ hq))
   have WT:=j7 hT
   have hTl:=bv k1
   rw[Ch] at hTl
   have aT:=pb T.length (by lia)
   refine oE WT.tp λj hj=>?_
   refine iS hd.cq ?_ (N:=46656) (λe he=>rB WT.it aT.1 e (k4.mem_iff.mp he)) (B7 (show 46656<2^16 by decide) (Cp (ltb rfl) (leb rfl))) ?_
   ·exact((hj.perm WT.cl k4.symm).ld (by decide)).1
   ·show bv k4
    exact B4 WT.le ((B4 aT.2 (B5 _ _)))
  ·have hge:=h.sz p hp
   rcases Nat.lt_or_ge s (pieces w p).length with h7|h7
   ·exact h7
   ·exfalso
    have hpl:(pieces w p).length=s:=Nat.le_antisymm h7 hge
    refine oE (List.mem_iff_append.mp hp |>.elim λa h=>h.elim λb h=>(⟨a++b,by show h;exact List.perm_middle⟩ : ∃T:List Pr,R.Perm (p::T))) λT hT=>?_
    have h8:=h.pl.trans (hT.flatMap_right _)
    rw[List.flatMap_cons] at h8
    refine oEA (xf h8) λlot l1 l2=>?_
    rw[hpl] at l1
    have hpa:=hR p hp
    have hTa:∀q∈T,q∈aG:=λq hq=>hR q (hT.mem_iff.mpr (B6 _ hq))
    have hc:(bB L lot w).Perm (pe p):=by show cand_eq;exact mf hw hpa l2
    have hpe:=eA hpa
    rcases hno lot l1 with h9|⟨d,h9,h10⟩
    ·rw[ef hc,hpe.2.2] at h9;exact cFt h9
    ·refine oA (lotU lot l1) λhU hU4=>?_
     have B:=nW hw hU hU4
     rw[←cand_eq] at B
     refine h10 (uF B.cl B.ne h9 (nX hTa) λx y=>?_)
     rw[hev,gi hc,mz,sg hTa,nD hT];rfl
  ·refine rg (hdf lot hlot d hd hr) λp T k1 k2 k3 k4 k5=>?_
   have hT:∀q∈T,q∈aG:=λq hq=>hR q (k1.mem_iff.mp (B6 _ hq))
   have WT:=j7 hT
   refine oE WT.tp λj hj=>?_
   have hw1:=kc (W:=d.q) (q:=1) (λe he=>(WT.it e (k4.mem_iff.mp he)).1) (hj.perm WT.cl k4.symm) (by decide)
   have hid:bA (λv=>v*1) d.q=d.q:=by
    have:=kZ (f:=λv=>v*1) (g:=λv=>v) (P:=d.q) λv=>Rat.mul_one _
    unfold bA at this ⊢
    rw[List.map_map] at this
    exact this
   rw[hid] at hw1
   refine sL p (hR p (k1.mem_iff.mp B9)) k2 ⟨T,?_,k3,by show hw1;exact hd.cq,by show hw1;exact k4,h.s1,h.s14,λq hq=>h.sz q (k1.mem_iff.mp (B6 _ hq))⟩ k5
   show List.append_assoc
   exact(k1.append_left fs).trans h.pr
 last:=by
  rintro f L fs s ⟨R,h⟩ h2s
  refine oAA (vI hps h) λhR hfs hlen=>?_
  have h5:=bv h.pl
  have h6:=nf h.sz
  have hs1:=h.s1
  match R,h,hR,h5,h6 with
  |[],h,hR,h5,h6=>
   have hn:aL f=true:=by show ef h.pf;rfl
   refine⟨λxx=>by have:=h.pr;rw[Cn] at this;exact this,λh'=>by rw[hn] at h';exact cTf h'⟩
  |[p],h,hR,h5,h6=>
   have hp:=hR p B9
   have hpe:=eA hp
   have hfp:f.Perm (pe p):=fN h.cl hpe.1 λx y=>by
    rw[gi h.pf,sg hR,mz]
    change pv p x y*1=_
    exact Rat.mul_one _
   refine⟨λh'=>?_,λxx=>⟨p,hp,hfp,h.pr⟩⟩
   rw[ef hfp,hpe.2.2] at h';exact cFt h'
  |p::q::R,h,hR,h5,h6=>
   exfalso
   have h7:2*s≤(p::q::R).length*s:=Cs s (by show Ch;show Ch;exact leb rfl)
   lia
end
section
set_option exponentiation.threshold 5000
theorem ml{N k m:Nat}(h:N<2^k)(hm:k≤m):N<2^m:=B7 h (Cp (ltb rfl) hm)
noncomputable def cB(n:Nat):Nat:=1024*12^n*9^n
structure MI(q:Rat)(ps:List Pr)(F:PE)(rs:List Pr):Prop where
 cl:Clean F
 al:∀p∈rs,p∈aG
 ve:∀x y,ev F x y*PV rs x y=q*PV ps x y
 bd:∃n,n+rs.length≤3∧DPs q.den (cB n) F∧F.length≤3^n
theorem AS:∀n,n≤2→cB n<2^32∧3^n≤27∧3^n*(3*(cB n*4))≤cB (n+1)∧3^n*3=3^(n+1):=by
 intro n h
 have key:∀n:_root_.Fin 3,cB n<2^32∧3^n.1≤27∧3^n.1*(3*(cB n*4))≤cB (n+1)∧3^n.1*3=3^(n.1+1):=by decide
 exact key ⟨n,Nat.lt_succ_of_le h⟩
theorem yi{ps:List Pr}(hps:∀p∈ps,p∈aG)(hl:ps.length≤3)(q:Rat)(qs:List Pr)(hq:RS 10 q)(hp:qs.Perm ps):
  MI q ps (if q=0 then[] else[((0,0),q)]) qs∧(∀F p rs P,MI q ps F (p::rs)→P.Perm (pe p)→PopOk F P∧MI q ps (mD F P) rs)∧∀F,MI q ps F []→F.Perm (if q=0 then[] else bA (λv=>v*q) (Wp ps)):=by
 have hden:0<q.den:=q.den_pos
 have hdl:q.den<2^1000:=by
  have:=hq.2
  unfold aA at this
  rw[Ct] at this
  exact ml this (leb rfl)
 refine iAA ⟨?_,λp h=>hps p (hp.mem_iff.mp h),λx y=>?_,0,by have:=bv hp;lia,λe he=>?_,?_⟩ (λF p rs P h hP=>?_) (λF h=>?_)
 ·by_cases h:q=0
  ·show if_pos h;exact cg
  ·show if_neg h
   exact⟨by change [((0,0):Mo)].Nodup;decide,λe he=>by simp at he;show he;exact h⟩
 ·rw[nD hp]
  congr 1
  by_cases h:q=0
  ·show if_pos h;show h;rfl
  ·show if_neg h
   change q*(x^0*y^0)+0=q
   show lA;show lA;grind
 ·by_cases h:q=0
  ·rw[if_pos h] at he;cases he
  ·rw[if_neg h] at he
   simp at he
   show he
   exact iEA q.num (iJ q) (Nat.le_of_lt hq.1)
 ·by_cases h:q=0
  ·show if_pos h;exact Mine.Lake.leb rfl
  ·show if_neg h;exact Cj 1
 ·have hpa:=h.al p B9
  have O:=gZ (.inl rfl) hpa
  have hpe:=eA hpa
  refine lC h.bd λn n1 n2 n3=>?_
  rw[Ch] at n1
  refine BY (AS n (by lia)) λc1 c2 c3 c4=>?_
  have hPl:P.length≤3:=by show bv hP;exact jJ p
  have iP:eP 4 P:=λe he=>O.ip e (hP.mem_iff.mp he)
  have h1:F.length*(P.length*(cB n*4))≤27*(3*(cB n*4)):=Nat.mul_le_mul (B4 n3 c2) (Cs _ hPl)
  have h2:F.length*P.length≤27*3:=Nat.mul_le_mul (B4 n3 c2) hPl
  have hf:∀x y:Rat,Clean (mD F P)∧ev (mD F P) x y=ev F x y*ev P x y:=λx y=>o5
  refine⟨⟨h.cl.nd,(hpe.1.perm hP.symm).nd,⟨q.den,cB n,4,n2,iP,hden,hdl,?_⟩,(B4 h2 (B5 _ _))⟩,(hf 0 0).1,λr hr=>h.al r (B6 _ hr),λx y=>?_,n+1,by lia,λe he=>?_,?_⟩
  ·refine ml (k:=64) ?_ (leb rfl)
   have:(2:Nat)^32*400<2^64:=Mine.Lake.ltb rfl
   lia
  ·have h3:=h.ve x y
   have h4:PV (p::rs) x y=pv p x y*PV rs x y:=rfl
   rw[h4] at h3
   rw[(hf x y).2,gi hP,mz,←h3];exact Rat.mul_assoc _ _ _
  ·have h5:=m3 iP (A:=F) (F:=[]) (N:=0) n2 (λe he=>by cases he) e (List.mem_filter.mp he).1
   refine h5.le (B4 ?_ c3)
   show Nat.zero_add
   exact Nat.mul_le_mul n3 (Cs _ hPl)
  ·have h6:=gR (B:=P) (A:=F) (F:=[])
   rw[List.length_nil,Nat.zero_add] at h6
   have h7:(mD F P).length≤(F.foldl (eX P) []).length:=List.length_filter_le ..
   have h8:F.length*P.length≤3^n*3:=Nat.mul_le_mul n3 hPl
   lia
 ·have W:=j7 hps
  by_cases h0:q=0
  ·show if_pos h0
   refine fN h.cl cg λx y=>?_
   have h1:=h.ve x y
   have h2:PV [] x y=1:=rfl
   rw[h0,h2] at h1
   change _=(0:Rat)
   grind
  ·show if_neg h0
   refine fN h.cl (ew (f:=λv=>v*q) (λu hu (h:u*q=0)=>(Rat.mul_eq_zero.mp h).elim hu h0) W.cl) λx y=>?_
   have h1:=h.ve x y
   have h2:PV [] x y=1:=rfl
   rw[h2] at h1
   rw[kF (f:=λv=>v*q) (c:=q) λu=>rfl,sg hps]
   grind
theorem yl{ps:List Pr}(hps:∀p∈ps,p∈aG)(hl:ps.length≤3)(q:Rat)(hq:RS 10 q)(h0:q≠0):WholeOk (bA (λv=>v*q) (Wp ps))∧aY (bA (λv=>v*q) (Wp ps))=(q,Wp ps):=by
 have W:=j7 hps
 have aB:=pb ps.length hl
 refine oE W.tp λj hj=>?_
 have hw:=kc (λe he=>(W.it e he).1) hj h0
 have hn:bA (λv=>v*q) (Wp ps)≠[]:=by
  intro h
  have:=(hj.ld (by decide)).1
  exact this (by simpa [bA] using h)
 have ht:toldP (bA (λv=>v*q) (Wp ps))=q:=by
  unfold aY at hw
  rw[if_neg hn] at hw
  exact(Prod.mk.inj hw).1
 have hdl:q.den<2^1000:=by
  have:=hq.2
  unfold aA at this
  rw[Ct] at this
  exact ml this (leb rfl)
 refine⟨⟨by show bF;exact W.cl.nd,?_,λe he=>?_,⟨q.den,λe he=>?_,q.den_pos,hdl⟩,λxx=>by show ht;exact h0,?_,?_⟩,hw⟩
 ·unfold bA
  show B8
  exact B4 W.le ((B4 aB.2 (B5 _ _)))
 ·refine oEA (fO he) λd hd zr0=>?_;show zr0
  have hi:=W.it d hd
  have h1:RS 16 d.2:=eK hi.1 (B4 hi.2 aB.1) (Nat.lt_log2_self) (leb rfl)
  exact(h1.mul (hq.le (leb rfl)) (leb rfl)).le (leb rfl)
 ·refine oEA (fO he) λd hd zr0=>?_;show zr0
  change (d.2*q).den∣_
  show Rat.den_mul
  refine Nat.dvd_trans (Nat.div_dvd_of_dvd (Nat.gcd_dvd_right _ _)) ?_
  show(W.it d hd).1;show Nat.one_mul;exact Nat.dvd_refl _
 ·show ht;exact(hq.le (leb rfl)).inv h0
 ·show ht;exact hq.le (leb rfl)
theorem yH(ps:List Pr)(hps:∀p∈ps,p∈aG)(h2:2≤ps.length)(h3:ps.length≤3):LawOk ps:=by
 have hw:ps.length+1=3∨ps.length+1=4:=by lia
 have W:=j7 hps
 have aB:=pb ps.length h3
 refine⟨λp hp=>gZ hw (hps p hp),λdn p rs e=>?_,by have:=km hw hps;exact B4 this (B4 (Nat.mul_le_mul_left _ h3) (Mine.Lake.leb rfl)),λL hL=>?_,⟨W.cl.nd,kH W.it (Ck aB.1 (ml (k:=16) (Nat.lt_log2_self) (leb rfl))) (leb rfl),B4 W.le ((B4 aB.2 (B5 _ _)))⟩,λq qs hq hp=>have z:=yi hps h3 q qs hq hp;⟨MI q ps,z.1,z.2.1,z.2.2⟩,λq hq h0=>yl hps h3 q hq h0⟩
 ·have hd:∀p∈dn,p∈aG:=λr hr=>hps r (by show e;exact List.mem_append_left _ hr)
  have hdl:dn.length≤3:=by
   have:=congrArg List.length e
   rw[Cf] at this;lia
  have Wd:=j7 hd
  have aD:=pb dn.length hdl
  have hpl:=jJ p
  have h4:(pe p).length*((Wp dn).length*(Mine.Lake.aB dn.length*4))≤3*(27*(46656*4)):=Nat.mul_le_mul hpl (Nat.mul_le_mul (B4 Wd.le aD.2) (Cs _ aD.1))
  have h5:(pe p).length*(Wp dn).length≤3*27:=Nat.mul_le_mul hpl (B4 Wd.le aD.2)
  refine⟨Wd.cl.nd,⟨_,Wd.it,?_⟩,(B4 h5 (B5 _ _))⟩
  refine ml (k:=32) ?_ (leb rfl)
  have:(3:Nat)*(27*(46656*4))+46656+4+46656*4<2^32:=Mine.Lake.ltb rfl
  lia
 ·refine⟨_,xP hw hps rfl,ps,.refl _,hL,W.cl,.refl _,by exact leb rfl,by exact leb rfl,λp hp=>(iC hw (hps p hp)).ne⟩
theorem plain:vO:=tu yH
end
end
section
open PySem.SeqAt
theorem top : PySem.Challenge.rw_nn0271_01.Holds := by
 refine holds_law said λsaid=>?_
 refine holds_open (q:=xK) (loose:=[]) (Xt:=Xtm) (XP:=XPm) (Yf:=Hook.obs Hook.none) (Ya:=Hook.val Hook.none) (YP:=Hook.says Hook.none) (N:=3212) left (Hook.of Hook.none) (Hook.keeps Hook.none) yr rR (by rfl) (by rfl) (by rfl)
  (λs e=>recFacts_of (Bool.and_eq_true_iff.mp (Bool.and_eq_true_iff.mp e).1).2) (by rfl) said (by decide +kernel) ⟨rfl,rfl,rfl,rfl,rfl,by decide +kernel⟩ ?hw ?hc
 case hw=>w_witness2
 intro w s₀ s₁ mg mb G Y fa o pm cd doc dV kV ho hd hcd hD hmg hg args vals as hpre hlay hrd hwl hlo
 wrow_args hpre hlay hrd hwl hlo
 clear hd hD
 refine law_top (vs:=?vs) (xs:=?xs) plain (AC G) ?hl (by rfl) hmg hg ?hL ?hI (λs' hk hos hgs=>?_) (λe s' h=>?_)
 case hL=>assumption
 case hI=>assumption
 case hl=>omega
 ·refine⟨.inl ⟨.bool true,.bool true,[],rfl,?_,.bool true,?_,?_⟩,.of_keep hk,hos,hgs▸AllBare.empty⟩
  ·intro cls;rfl
  ·wrow_post
  ·intro _;exact⟨List.nodup_nil,λxx h=>by cases h⟩
 ·cases h
end
end Mine.Lake
theorem PySem.Challenge.cw_nn0271_01_holds : PySem.Challenge.rw_nn0271_01.Holds :=
 Mine.Lake.top
