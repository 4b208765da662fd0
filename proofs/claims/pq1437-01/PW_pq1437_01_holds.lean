import PyProof.Rows.All
import Wide.All
import OpenK.AllK
import Wide.FinOn
import PyProof.Rows.StrInSeq
import PyProof.FactsAll.tuple_2
import PyProof.FactsAll.tuple_3
import PyProof.FactsAll.tuple_0
import KE.KIsNot
import KE.KDictList
import PyProof.Rows.SumAny
import PyProof.ListCopy
import PyProof.ListRange
import PyProof.RangeFor
import PyProof.IsiPairs
import PyProof.IsiHeapPairs
import PyProof.DictTruth
import PyProof.Rows.RuleN_abs
import PyProof.WalkInts
import PyProof.DictDisplay
import PyProof.Rows.TupAssign
import PyProof.RulesFinally
import PyProof.RulesAssignMore
import PyProof.AssignAttr
import PyProof.Raises
import PyProof.Rows.TupIter
import PyProof.RangeIter
import PyProof.ForAny
import PyProof.CompFree
import PyProof.CompUse
import PyProof.WalksMore
import PyProof.Cells
import PyProof.Rows.SetFrom
import PyProof.Rows.SortStr
import PyProof.CollectWalk
import PyProof.Rows.SortShellK
import Lean
import PySem.Challenge.RW_pq1437_01
set_option Elab.async false
set_option maxRecDepth 100000
set_option maxHeartbeats 0
set_option linter.all false
set_option tactic.hygienic false
set_option genSizeOf false
noncomputable section
namespace Mine
theorem byC {P:Prop}(h:(P->False)->False):P:=Classical.byContradiction h
theorem Q6 {A0 A1:Prop}{M:Prop}(h:A0/\A1)(k:A0->A1->M):M:=by
 obtain ⟨h0,h1⟩:=h;exact k h0 h1
theorem Ui {A0 A1 A2:Prop}{M:Prop}(h:A0/\A1/\A2)(k:A0->A1->A2->M):M:=by
 obtain ⟨h0,h1,h2⟩:=h;exact k h0 h1 h2
theorem X0_4 {A0 A1 A2 A3:Prop}{M:Prop}(h:A0/\A1/\A2/\A3)(k:A0->A1->A2->A3->M):M:=by
 obtain ⟨h0,h1,h2,h3⟩:=h;exact k h0 h1 h2 h3
theorem X0_5 {A0 A1 A2 A3 A4:Prop}{M:Prop}(h:A0/\A1/\A2/\A3/\A4)(k:A0->A1->A2->A3->A4->M):M:=by
 obtain ⟨h0,h1,h2,h3,h4⟩:=h;exact k h0 h1 h2 h3 h4
theorem X0_6 {A0 A1 A2 A3 A4 A5:Prop}{M:Prop}(h:A0/\A1/\A2/\A3/\A4/\A5)(k:A0->A1->A2->A3->A4->A5->M):M:=by
 obtain ⟨h0,h1,h2,h3,h4,h5⟩:=h;exact k h0 h1 h2 h3 h4 h5
theorem X0_7 {A0 A1 A2 A3 A4 A5 A6:Prop}{M:Prop}(h:A0/\A1/\A2/\A3/\A4/\A5/\A6)(k:A0->A1->A2->A3->A4->A5->A6->M):M:=by
 obtain ⟨h0,h1,h2,h3,h4,h5,h6⟩:=h;exact k h0 h1 h2 h3 h4 h5 h6
theorem J2.{u0}{α0:Sort u0}{A0:α0->Prop}{M:Prop}(h:∃ a0,A0 a0)(k:∀ a0,A0 a0->M):M:=by
 obtain ⟨a0,h0⟩:=h;exact k a0 h0
theorem Q3.{u0}{α0:Sort u0}{A0 A1:α0->Prop}{M:Prop}(h:∃ a0,A0 a0/\A1 a0)(k:∀ a0,A0 a0->A1 a0->M):M:=by
 obtain ⟨a0,h0,h1⟩:=h;exact k a0 h0 h1
theorem K0.{u0}{α0:Sort u0}{A0 A1 A2:α0->Prop}{M:Prop}(h:∃ a0,A0 a0/\A1 a0/\A2 a0)(k:∀ a0,A0 a0->A1 a0->A2 a0->M):M:=by
 obtain ⟨a0,h0,h1,h2⟩:=h;exact k a0 h0 h1 h2
theorem Q0d.{u0}{α0:Sort u0}{A0 A1 A2 A3:α0->Prop}{M:Prop}(h:∃ a0,A0 a0/\A1 a0/\A2 a0/\A3 a0)(k:∀ a0,A0 a0->A1 a0->A2 a0->A3 a0->M):M:=by
 obtain ⟨a0,h0,h1,h2,h3⟩:=h;exact k a0 h0 h1 h2 h3
theorem X1_6.{u0}{α0:Sort u0}{A0 A1 A2 A3 A4 A5:α0->Prop}{M:Prop}(h:∃ a0,A0 a0/\A1 a0/\A2 a0/\A3 a0/\A4 a0/\A5 a0)(k:∀ a0,A0 a0->A1 a0->A2 a0->A3 a0->A4 a0->A5 a0->M):M:=by
 obtain ⟨a0,h0,h1,h2,h3,h4,h5⟩:=h;exact k a0 h0 h1 h2 h3 h4 h5
theorem Jp.{u0,u1}{α0:Sort u0}{α1:Sort u1}{A0:α0->α1->Prop}{M:Prop}(h:∃ a0 a1,A0 a0 a1)(k:∀ a0 a1,A0 a0 a1->M):M:=by
 obtain ⟨a0,a1,h0⟩:=h;exact k a0 a1 h0
theorem Q7.{u0,u1}{α0:Sort u0}{α1:Sort u1}{A0 A1:α0->α1->Prop}{M:Prop}(h:∃ a0 a1,A0 a0 a1/\A1 a0 a1)(k:∀ a0 a1,A0 a0 a1->A1 a0 a1->M):M:=by
 obtain ⟨a0,a1,h0,h1⟩:=h;exact k a0 a1 h0 h1
theorem Y0.{u0,u1}{α0:Sort u0}{α1:Sort u1}{A0 A1 A2:α0->α1->Prop}{M:Prop}(h:∃ a0 a1,A0 a0 a1/\A1 a0 a1/\A2 a0 a1)(k:∀ a0 a1,A0 a0 a1->A1 a0 a1->A2 a0 a1->M):M:=by
 obtain ⟨a0,a1,h0,h1,h2⟩:=h;exact k a0 a1 h0 h1 h2
theorem Q6k.{u0,u1}{α0:Sort u0}{α1:Sort u1}{A0 A1 A2 A3:α0->α1->Prop}{M:Prop}(h:∃ a0 a1,A0 a0 a1/\A1 a0 a1/\A2 a0 a1/\A3 a0 a1)(k:∀ a0 a1,A0 a0 a1->A1 a0 a1->A2 a0 a1->A3 a0 a1->M):M:=by
 obtain ⟨a0,a1,h0,h1,h2,h3⟩:=h;exact k a0 a1 h0 h1 h2 h3
theorem X2_5.{u0,u1}{α0:Sort u0}{α1:Sort u1}{A0 A1 A2 A3 A4:α0->α1->Prop}{M:Prop}(h:∃ a0 a1,A0 a0 a1/\A1 a0 a1/\A2 a0 a1/\A3 a0 a1/\A4 a0 a1)(k:∀ a0 a1,A0 a0 a1->A1 a0 a1->A2 a0 a1->A3 a0 a1->A4 a0 a1->M):M:=by
 obtain ⟨a0,a1,h0,h1,h2,h3,h4⟩:=h;exact k a0 a1 h0 h1 h2 h3 h4
theorem Rb.{u0,u1,u2}{α0:Sort u0}{α1:Sort u1}{α2:Sort u2}{A0:α0->α1->α2->Prop}{M:Prop}(h:∃ a0 a1 a2,A0 a0 a1 a2)(k:∀ a0 a1 a2,A0 a0 a1 a2->M):M:=by
 obtain ⟨a0,a1,a2,h0⟩:=h;exact k a0 a1 a2 h0
theorem X3_2.{u0,u1,u2}{α0:Sort u0}{α1:Sort u1}{α2:Sort u2}{A0 A1:α0->α1->α2->Prop}{M:Prop}(h:∃ a0 a1 a2,A0 a0 a1 a2/\A1 a0 a1 a2)(k:∀ a0 a1 a2,A0 a0 a1 a2->A1 a0 a1 a2->M):M:=by
 obtain ⟨a0,a1,a2,h0,h1⟩:=h;exact k a0 a1 a2 h0 h1
theorem X3_3.{u0,u1,u2}{α0:Sort u0}{α1:Sort u1}{α2:Sort u2}{A0 A1 A2:α0->α1->α2->Prop}{M:Prop}(h:∃ a0 a1 a2,A0 a0 a1 a2/\A1 a0 a1 a2/\A2 a0 a1 a2)(k:∀ a0 a1 a2,A0 a0 a1 a2->A1 a0 a1 a2->A2 a0 a1 a2->M):M:=by
 obtain ⟨a0,a1,a2,h0,h1,h2⟩:=h;exact k a0 a1 a2 h0 h1 h2
theorem X3_4.{u0,u1,u2}{α0:Sort u0}{α1:Sort u1}{α2:Sort u2}{A0 A1 A2 A3:α0->α1->α2->Prop}{M:Prop}(h:∃ a0 a1 a2,A0 a0 a1 a2/\A1 a0 a1 a2/\A2 a0 a1 a2/\A3 a0 a1 a2)(k:∀ a0 a1 a2,A0 a0 a1 a2->A1 a0 a1 a2->A2 a0 a1 a2->A3 a0 a1 a2->M):M:=by
 obtain ⟨a0,a1,a2,h0,h1,h2,h3⟩:=h;exact k a0 a1 a2 h0 h1 h2 h3
theorem X4_1.{u0,u1,u2,u3}{α0:Sort u0}{α1:Sort u1}{α2:Sort u2}{α3:Sort u3}{A0:α0->α1->α2->α3->Prop}{M:Prop}(h:∃ a0 a1 a2 a3,A0 a0 a1 a2 a3)(k:∀ a0 a1 a2 a3,A0 a0 a1 a2 a3->M):M:=by
 obtain ⟨a0,a1,a2,a3,h0⟩:=h;exact k a0 a1 a2 a3 h0
theorem Xi.{u0,u1,u2,u3}{α0:Sort u0}{α1:Sort u1}{α2:Sort u2}{α3:Sort u3}{A0 A1 A2:α0->α1->α2->α3->Prop}{M:Prop}(h:∃ a0 a1 a2 a3,A0 a0 a1 a2 a3/\A1 a0 a1 a2 a3/\A2 a0 a1 a2 a3)(k:∀ a0 a1 a2 a3,A0 a0 a1 a2 a3->A1 a0 a1 a2 a3->A2 a0 a1 a2 a3->M):M:=by
 obtain ⟨a0,a1,a2,a3,h0,h1,h2⟩:=h;exact k a0 a1 a2 a3 h0 h1 h2
theorem X5_5.{u0,u1,u2,u3,u4}{α0:Sort u0}{α1:Sort u1}{α2:Sort u2}{α3:Sort u3}{α4:Sort u4}{A0 A1 A2 A3 A4:α0->α1->α2->α3->α4->Prop}{M:Prop}(h:∃ a0 a1 a2 a3 a4,A0 a0 a1 a2 a3 a4/\A1 a0 a1 a2 a3 a4/\A2 a0 a1 a2 a3 a4/\A3 a0 a1 a2 a3 a4/\A4 a0 a1 a2 a3 a4)(k:∀ a0 a1 a2 a3 a4,A0 a0 a1 a2 a3 a4->A1 a0 a1 a2 a3 a4->A2 a0 a1 a2 a3 a4->A3 a0 a1 a2 a3 a4->A4 a0 a1 a2 a3 a4->M):M:=by
 obtain ⟨a0,a1,a2,a3,a4,h0,h1,h2,h3,h4⟩:=h;exact k a0 a1 a2 a3 a4 h0 h1 h2 h3 h4
theorem X7_2.{u0,u1,u2,u3,u4,u5,u6}{α0:Sort u0}{α1:Sort u1}{α2:Sort u2}{α3:Sort u3}{α4:Sort u4}{α5:Sort u5}{α6:Sort u6}{A0 A1:α0->α1->α2->α3->α4->α5->α6->Prop}{M:Prop}(h:∃ a0 a1 a2 a3 a4 a5 a6,A0 a0 a1 a2 a3 a4 a5 a6/\A1 a0 a1 a2 a3 a4 a5 a6)(k:∀ a0 a1 a2 a3 a4 a5 a6,A0 a0 a1 a2 a3 a4 a5 a6->A1 a0 a1 a2 a3 a4 a5 a6->M):M:=by
 obtain ⟨a0,a1,a2,a3,a4,a5,a6,h0,h1⟩:=h;exact k a0 a1 a2 a3 a4 a5 a6 h0 h1
theorem Z0.{u0}{α0:Sort u0}{A0 A1:α0->Prop}(a0:α0)(h0:A0 a0)(h1:A1 a0):∃ a0,A0 a0/\A1 a0:=⟨a0,h0,h1⟩
theorem J6.{u0}{α0:Sort u0}{A0 A1 A2:α0->Prop}(a0:α0)(h0:A0 a0)(h1:A1 a0)(h2:A2 a0):∃ a0,A0 a0/\A1 a0/\A2 a0:=⟨a0,h0,h1,h2⟩
theorem Xj.{u0}{α0:Sort u0}{A0 A1 A2 A3:α0->Prop}(a0:α0)(h0:A0 a0)(h1:A1 a0)(h2:A2 a0)(h3:A3 a0):∃ a0,A0 a0/\A1 a0/\A2 a0/\A3 a0:=⟨a0,h0,h1,h2,h3⟩
theorem I1_6.{u0}{α0:Sort u0}{A0 A1 A2 A3 A4 A5:α0->Prop}(a0:α0)(h0:A0 a0)(h1:A1 a0)(h2:A2 a0)(h3:A3 a0)(h4:A4 a0)(h5:A5 a0):∃ a0,A0 a0/\A1 a0/\A2 a0/\A3 a0/\A4 a0/\A5 a0:=⟨a0,h0,h1,h2,h3,h4,h5⟩
theorem I2_1.{u0,u1}{α0:Sort u0}{α1:Sort u1}{A0:α0->α1->Prop}(a0:α0)(a1:α1)(h0:A0 a0 a1):∃ a0 a1,A0 a0 a1:=⟨a0,a1,h0⟩
theorem Q9.{u0,u1}{α0:Sort u0}{α1:Sort u1}{A0 A1:α0->α1->Prop}(a0:α0)(a1:α1)(h0:A0 a0 a1)(h1:A1 a0 a1):∃ a0 a1,A0 a0 a1/\A1 a0 a1:=⟨a0,a1,h0,h1⟩
theorem Q0e.{u0,u1}{α0:Sort u0}{α1:Sort u1}{A0 A1 A2:α0->α1->Prop}(a0:α0)(a1:α1)(h0:A0 a0 a1)(h1:A1 a0 a1)(h2:A2 a0 a1):∃ a0 a1,A0 a0 a1/\A1 a0 a1/\A2 a0 a1:=⟨a0,a1,h0,h1,h2⟩
theorem I2_4.{u0,u1}{α0:Sort u0}{α1:Sort u1}{A0 A1 A2 A3:α0->α1->Prop}(a0:α0)(a1:α1)(h0:A0 a0 a1)(h1:A1 a0 a1)(h2:A2 a0 a1)(h3:A3 a0 a1):∃ a0 a1,A0 a0 a1/\A1 a0 a1/\A2 a0 a1/\A3 a0 a1:=⟨a0,a1,h0,h1,h2,h3⟩
theorem I2_5.{u0,u1}{α0:Sort u0}{α1:Sort u1}{A0 A1 A2 A3 A4:α0->α1->Prop}(a0:α0)(a1:α1)(h0:A0 a0 a1)(h1:A1 a0 a1)(h2:A2 a0 a1)(h3:A3 a0 a1)(h4:A4 a0 a1):∃ a0 a1,A0 a0 a1/\A1 a0 a1/\A2 a0 a1/\A3 a0 a1/\A4 a0 a1:=⟨a0,a1,h0,h1,h2,h3,h4⟩
theorem I3_2.{u0,u1,u2}{α0:Sort u0}{α1:Sort u1}{α2:Sort u2}{A0 A1:α0->α1->α2->Prop}(a0:α0)(a1:α1)(a2:α2)(h0:A0 a0 a1 a2)(h1:A1 a0 a1 a2):∃ a0 a1 a2,A0 a0 a1 a2/\A1 a0 a1 a2:=⟨a0,a1,a2,h0,h1⟩
theorem I3_3.{u0,u1,u2}{α0:Sort u0}{α1:Sort u1}{α2:Sort u2}{A0 A1 A2:α0->α1->α2->Prop}(a0:α0)(a1:α1)(a2:α2)(h0:A0 a0 a1 a2)(h1:A1 a0 a1 a2)(h2:A2 a0 a1 a2):∃ a0 a1 a2,A0 a0 a1 a2/\A1 a0 a1 a2/\A2 a0 a1 a2:=⟨a0,a1,a2,h0,h1,h2⟩
theorem I3_4.{u0,u1,u2}{α0:Sort u0}{α1:Sort u1}{α2:Sort u2}{A0 A1 A2 A3:α0->α1->α2->Prop}(a0:α0)(a1:α1)(a2:α2)(h0:A0 a0 a1 a2)(h1:A1 a0 a1 a2)(h2:A2 a0 a1 a2)(h3:A3 a0 a1 a2):∃ a0 a1 a2,A0 a0 a1 a2/\A1 a0 a1 a2/\A2 a0 a1 a2/\A3 a0 a1 a2:=⟨a0,a1,a2,h0,h1,h2,h3⟩
theorem Q0f.{u0,u1,u2,u3}{α0:Sort u0}{α1:Sort u1}{α2:Sort u2}{α3:Sort u3}{A0 A1 A2:α0->α1->α2->α3->Prop}(a0:α0)(a1:α1)(a2:α2)(a3:α3)(h0:A0 a0 a1 a2 a3)(h1:A1 a0 a1 a2 a3)(h2:A2 a0 a1 a2 a3):∃ a0 a1 a2 a3,A0 a0 a1 a2 a3/\A1 a0 a1 a2 a3/\A2 a0 a1 a2 a3:=⟨a0,a1,a2,a3,h0,h1,h2⟩
theorem I7_1.{u0,u1,u2,u3,u4,u5,u6}{α0:Sort u0}{α1:Sort u1}{α2:Sort u2}{α3:Sort u3}{α4:Sort u4}{α5:Sort u5}{α6:Sort u6}{A0:α0->α1->α2->α3->α4->α5->α6->Prop}(a0:α0)(a1:α1)(a2:α2)(a3:α3)(a4:α4)(a5:α5)(a6:α6)(h0:A0 a0 a1 a2 a3 a4 a5 a6):∃ a0 a1 a2 a3 a4 a5 a6,A0 a0 a1 a2 a3 a4 a5 a6:=⟨a0,a1,a2,a3,a4,a5,a6,h0⟩
theorem I12_1.{u0,u1,u2,u3,u4,u5,u6,u7,u8,u9,u10,u11}{α0:Sort u0}{α1:Sort u1}{α2:Sort u2}{α3:Sort u3}{α4:Sort u4}{α5:Sort u5}{α6:Sort u6}{α7:Sort u7}{α8:Sort u8}{α9:Sort u9}{α10:Sort u10}{α11:Sort u11}{A0:α0->α1->α2->α3->α4->α5->α6->α7->α8->α9->α10->α11->Prop}(a0:α0)(a1:α1)(a2:α2)(a3:α3)(a4:α4)(a5:α5)(a6:α6)(a7:α7)(a8:α8)(a9:α9)(a10:α10)(a11:α11)(h0:A0 a0 a1 a2 a3 a4 a5 a6 a7 a8 a9 a10 a11):∃ a0 a1 a2 a3 a4 a5 a6 a7 a8 a9 a10 a11,A0 a0 a1 a2 a3 a4 a5 a6 a7 a8 a9 a10 a11:=⟨a0,a1,a2,a3,a4,a5,a6,a7,a8,a9,a10,a11,h0⟩
theorem sN {α:Type}{a:α}{P:Prop}(h:some a=none):P:=nomatch h
theorem nS {α:Type}{a:α}{P:Prop}(h:none=some a):P:=nomatch h
theorem J8 {α:Type}{a:α}{m:∀ b,some a=some b->Prop}(z:m a rfl){b:α}(e:some a=some b):m b e:=by cases e;exact z
theorem K6 {α β:Type}{a:α}{d:β}{m:∀ a' d',some (a,d)=some (a',d')->Prop}(z:m a d rfl){a':α}{d':β}(e:some (a,d)=some (a',d')):m a' d' e:=by cases e;exact z
theorem bT {a b:Bool}(h:@Bool.rec (λU=>Bool) false a b=true):b=true/\a=true:=by cases b with | true=>exact ⟨rfl,h⟩ | false=>cases h
theorem bE {f a b:Bool}(h:@Bool.rec (λU=>Bool) f a b=true):(b=true/\a=true)\/(b=false/\f=true):=by cases b with | true=>exact .inl ⟨rfl,h⟩ | false=>exact .inr ⟨rfl,h⟩
theorem ff {P:Prop}(h:false=true):P:=Bool.noConfusion h
inductive P where | h | o (p:P) | i (p:P)
 deriving DecidableEq
set_option genInjectivity false
inductive V where
 | none | bool (b:Bool) | int (i:Int) | str (k:Nat) | ref (p:P) | fn (i:P) | cls (c:Nat)
inductive O where
 | list (xs:List V) | tup (xs:List V) | dict (es:List (Nat × V)) | inst (c:Nat)(es:List (Nat × V)) | cell (v:Option V) | clos (f:P)(cs:List (Nat × P))
inductive T where | nil | node (l:T)(v:Option O)(r:T)
structure St where
 t:T
 n:P
abbrev R:=Bool
abbrev Loc:=List (Nat × V)
abbrev Q4:=List (Nat × P)
inductive Op where | add | sub | mul | div | mod | pow
inductive Cm where | eq | ne | lt | le | gt | ge | is | isnot | isin | notin
inductive Bi where | len | list | listRange | min | max | abs | sum | str | sorted | sortedSet | isInt
inductive Tg where | one (c:Bool)(k:Nat) | many (ks:List (Bool × Nat))
inductive E where
 | con (v:V) | glb (k:Nat)(v:V) | loc (k:Nat) | cel (k:Nat)
 | attr (e:E)(k:Nat) | sub (e i:E) | slT (e i:E) | slF (e i:E)
 | call (f:E)(as:List E) | meth (o:E)(k:Nat)(as:List E) | bi (b:Bi)(as:List E) | isinst (e:E)(c:Nat)
 | bin (op:Op)(a b:E) | cmp (op:Cm)(a b:E) | cmp3 (o1 o2:Cm)(a b c:E)
 | not (e:E) | neg (e:E) | and (a b:E) | or (a b:E) | ite (c a b:E)
 | lst (es:List E) | tup (es:List E) | dct (ks:List Nat)(es:List E)
 | comp (rng:Bool)(it:E)(tg:Tg)(cond:Option E)(nxt:E)   -- nxt: emit | comp
 | emit (e:E)
inductive S where
 | setN (tg:Tg)(e:E) | setA (o:E)(k:Nat)(e:E) | setI (o i e:E)
 | augL (c:Bool)(k:Nat)(op:Op)(e:E) | augA (o:E)(k:Nat)(op:Op)(e:E)
 | ex (e:E) | ret (e:E) | ite (c:E)(a b:List S) | for_ (rng:Bool)(it:E)(tg:Tg)(body:List S) | whil (c:E)(body:List S)
 | brk | cont | pass | bad | tryFin (body fin:List S) | defc (c:Bool)(k:Nat)(f:P)(caps:List Nat)
inductive F where | next (l:Loc) | ret (v:V)(l:Loc) | brk (l:Loc) | cont (l:Loc)
structure Fn where
 params:List (Bool × Nat)
 dflts:List V
 cellLocals:List Nat
 body:List S
structure Cl where
 init:Option P
 meths:List (Nat × P)
inductive FT where | nil | node (l:FT)(v:Option Fn)(r:FT)
noncomputable def T.getK (t:T)(p:P)(k:O->R):R:=@P.rec (λU=>T->R) (λt=>((@T.rec (λU=>R) (false) (λU v U U U=>(@Option.rec _ (λU=>R) (false) (λo=>k o) v)) t))) (λq IH_q=>λt=>(@T.rec (λU=>R) (false) (λl U U U U=>IH_q l) t)) (λq IH_q=>λt=>(@T.rec (λU=>R) (false) (λU U r U U=>IH_q r) t)) p t
noncomputable def T.setK (t:T)(p:P)(o:O)(k:T->R):R:=@P.rec (λU=>T->(T->R)->R) (λt k=>((@T.rec (λU=>R) (k (.node .nil (some o) .nil)) (λl U r U U=>k (.node l (some o) r)) t))) (λq IH_q=>λt k=>((@T.rec (λU=>R) (IH_q .nil (λl'=>k (.node l' none .nil))) (λl v r U U=>IH_q l (λl'=>k (.node l' v r))) t))) (λq IH_q=>λt k=>((@T.rec (λU=>R) (IH_q .nil (λr'=>k (.node .nil none r'))) (λl v r U U=>IH_q r (λr'=>k (.node l v r'))) t))) p t k
noncomputable def P.succK (p:P)(k:P->R):R:=@P.rec (λU=>(P->R)->R) (λk=>k (.o .h)) (λq IH_q=>λk=>k (.i q)) (λq IH_q=>λk=>IH_q (λq'=>k (.o q'))) p k
noncomputable def P.beq (p q:P):Bool:=@P.rec (λU=>P->Bool) (λq=>(@P.rec (λU=>Bool) (true) (λU U=>false) (λU U=>false) q)) (λp IH_p=>λq=>(@P.rec (λU=>Bool) (false) (λq U=>IH_p q) (λU U=>false) q)) (λp IH_p=>λq=>(@P.rec (λU=>Bool) (false) (λU U=>false) (λq U=>IH_p q) q)) p q
noncomputable def V9 (s:St)(o:O)(k:P->St->R):R:=(@St.rec (λU=>R) (λt n=>t.setK n o λt'=>n.succK λn'=>k n ⟨t' ,n'⟩) s)
noncomputable def X1 (s:St)(p:P)(k:O->R):R:=(@St.rec (λU=>R) (λt U=>t.getK p k) s)
noncomputable def Rc (s:St)(p:P)(o:O)(k:St->R):R:=(@St.rec (λU=>R) (λt n=>t.setK p o λt'=>k ⟨t' ,n⟩) s)
noncomputable def V6 {α:Type}(es:List (Nat × α))(n:Nat)(k:α->R)(d:Unit->R):R:=@List.rec _ (λU=>R) (d ()) (λe r IH_r=>(@Prod.rec _ _ (λU=>R) (λm v=>(@Bool.rec (λU=>R) (IH_r) (k v) (Nat.beq m n))) e)) es
noncomputable def setA {α:Type}(es:List (Nat × α))(n:Nat)(v:α)(k:List (Nat × α)->R):R:=@List.rec _ (λU=>(List (Nat × α)->R)->R) (λk=>k [(n ,v)]) (λe r IH_r=>λk=>(@Prod.rec _ _ (λU=>R) (λm w=>((@Bool.rec (λU=>R) (IH_r (λr'=>k ((m ,w) :: r'))) (k ((m ,v) :: r)) (Nat.beq m n)))) e)) es k
noncomputable def Cg {α:Type}(xs:List α)(v:α)(k:List α->R):R:=@List.rec _ (λU=>(List α->R)->R) (λk=>k [v]) (λx r IH_r=>λk=>IH_r (λr'=>k (x :: r'))) xs k
noncomputable def Xk {α:Type}(xs ys:List α)(k:List α->R):R:=@List.rec _ (λU=>(List α->R)->R) (λk=>k ys) (λx r IH_r=>λk=>IH_r (λr'=>k (x :: r'))) xs k
noncomputable def Dw {α:Type}(xs:List α)(n:Nat)(k:α->R):R:=@List.rec _ (λU=>Nat->R) (λn=>false) (λx r IH_r=>λn=>(@Nat.rec (λU=>R) (k x) (λm U=>IH_r m) n)) xs n
noncomputable def Q0g {α:Type}(xs:List α)(n:Nat)(k:List α->R):R:=@Nat.rec (λU=>(List α)->(List α->R)->R) (λxs k=>k []) (λm IH_m=>λxs k=>(@List.rec _ (λU=>R) (k []) (λx r U=>IH_m r (λr'=>k (x :: r'))) xs)) n xs k
noncomputable def Q0h {α:Type}(xs:List α)(n:Nat)(k:List α->R):R:=@Nat.rec (λU=>(List α)->R) (λxs=>k xs) (λm IH_m=>λxs=>(@List.rec _ (λU=>R) (k []) (λU r U=>IH_m r) xs)) n xs
noncomputable def Re {α:Type}(xs:List α)(k:Nat->R):R:=@List.rec _ (λU=>(Nat->R)->R) (λk=>k 0) (λU r IH_r=>λk=>IH_r (λn=>k (n+1))) xs k
noncomputable def repK {α:Type}(xs:List α)(n:Nat)(k:List α->R):R:=@Nat.rec (λU=>(List α->R)->R) (λk=>k []) (λm IH_m=>λk=>IH_m (λr=>Xk xs r k)) n k
noncomputable def S6 {α:Type}(xs:List α)(n:Nat)(k:Unit->R):R:=@List.rec _ (λU=>Nat->R) (λn=>k ()) (λU r IH_r=>λn=>(@Nat.rec (λU=>R) (false) (λm U=>IH_r m) n)) xs n
noncomputable def Gk (n:Nat)(k:Nat->R):R:=(@Nat.rec (λU=>R) (k 0) (λm U=>k (m+1)) n)
noncomputable def P0 (i:Int)(k:Int->R):R:=(@Int.rec (λU=>R) (λn=>Gk n λn=>k (.ofNat n)) (λn=>Gk n λn=>k (.negSucc n)) i)
noncomputable def ltI (a b:Int):Bool:=(@Int.rec (λU=>Bool) (λm=>(@Int.rec (λU=>Bool) (λn=>Nat.blt m n) (λU=>false) b)) (λm=>(@Int.rec (λU=>Bool) (λU=>true) (λn=>Nat.blt n m) b)) a)
noncomputable def eqI (a b:Int):Bool:=(@Int.rec (λU=>Bool) (λm=>(@Int.rec (λU=>Bool) (λn=>Nat.beq m n) (λU=>false) b)) (λm=>(@Int.rec (λU=>Bool) (λU=>false) (λn=>Nat.beq m n) b)) a)
noncomputable def leI (a b:Int):Bool:=(@Int.rec (λU=>Bool) (λm=>(@Int.rec (λU=>Bool) (λn=>Nat.ble m n) (λU=>false) b)) (λm=>(@Int.rec (λU=>Bool) (λU=>true) (λn=>Nat.ble n m) b)) a)
noncomputable def G2 (s:St)(v:V)(k:P->O->R):R:=(@V.rec (λU=>R) (false) (λU=>false) (λU=>false) (λU=>false) (λp=>X1 s p (k p)) (λU=>false) (λU=>false) v)
noncomputable def K7 (v:V)(k:Int->R):R:=(@V.rec (λU=>R) (false) (λU=>false) (λi=>k i) (λU=>false) (λU=>false) (λU=>false) (λU=>false) v)
noncomputable def C2 (v:V)(k:Nat->R):R:=(@V.rec (λU=>R) (false) (λU=>false) (λi=>(@Int.rec (λU=>R) (λn=>k n) (λU=>false) i)) (λU=>false) (λU=>false) (λU=>false) (λU=>false) v)
noncomputable def S7 (v:V)(k:Nat->R):R:=(@V.rec (λU=>R) (false) (λU=>false) (λU=>false) (λi=>k i) (λU=>false) (λU=>false) (λU=>false) v)
noncomputable def X2 (o:O)(k:List V->R):R:=(@O.rec (λU=>R) (λxs=>k xs) (λU=>false) (λU=>false) (λU U=>false) (λU=>false) (λU U=>false) o)
noncomputable def one (vs:List V)(k:V->R):R:=(@List.rec _ (λU=>R) (false) (λv r U=>(@List.rec _ (λU=>R) (k v) (λU U U=>false) r)) vs)
noncomputable def two (vs:List V)(k:V->V->R):R:=(@List.rec _ (λU=>R) (false) (λv r U=>((@List.rec _ (λU=>R) (false) (λw r U=>(@List.rec _ (λU=>R) (k v w) (λU U U=>false) r)) r))) vs)
noncomputable def Yi:Nat:=641
noncomputable def chkS (k:Nat)(q:Unit->R):R:=(@Bool.rec (λU=>R) (false) (q ()) (Nat.blt k Yi))
inductive D where | none | int (i:Int) | str (k:Nat) | list (xs:List D) | tup (xs:List D)
noncomputable def Hh (rd:V->(D->R)->R)(xs:List V)(k:List D->R):R:=@List.rec _ (λU=>(List D->R)->R) (λk=>k []) (λx r IH_r=>λk=>rd x λd=>IH_r (λds=>k (d :: ds))) xs k
noncomputable def dataO (rd:V->(D->R)->R)(o:O)(k:D->R):R:=(@O.rec (λU=>R) (λxs=>Hh rd xs λds=>k (.list ds)) (λxs=>Hh rd xs λds=>k (.tup ds)) (λU=>false) (λU U=>false) (λU=>false) (λU U=>false) o)
noncomputable def Ku (n:Nat)(s:St)(v:V)(k:D->R):R:=@Nat.rec (λU=>V->(D->R)->R) (λv k=>false) (λn IH_n=>λv k=>((@V.rec (λU=>R) (k .none) (λU=>false) (λi=>k (.int i)) (λi=>chkS i λU=>k (.str i)) (λp=>X1 s p λo=>dataO (IH_n) o k) (λU=>false) (λU=>false) v))) n v k
noncomputable def eqDs (eq:D->D->(Bool->R)->R)(xs ys:List D)(k:Bool->R):R:=@List.rec _ (λU=>(List D)->R) (λys=>(@List.rec _ (λU=>R) (k true) (λU U U=>k false) ys)) (λx xs IH_xs=>λys=>((@List.rec _ (λU=>R) (k false) (λy ys U=>eq x y λb=>(@Bool.rec (λU=>R) (k false) (IH_xs ys) b)) ys))) xs ys
noncomputable def Q6m (n:Nat)(a b:D)(k:Bool->R):R:=@Nat.rec (λU=>D->D->(Bool->R)->R) (λa b k=>false) (λn IH_n=>λa b k=>((@D.rec (λU=>R) (λU=>PUnit) ((@D.rec (λU=>R) (λU=>PUnit) (k true) (λU=>k false) (λU=>k false) (λU U=>k false) (λU U=>k false) PUnit.unit (λU U U U=>PUnit.unit) b)) (λi=>((@D.rec (λU=>R) (λU=>PUnit) (k false) (λj=>k (eqI i j)) (λU=>k false) (λU U=>k false) (λU U=>k false) PUnit.unit (λU U U U=>PUnit.unit) b))) (λi=>((@D.rec (λU=>R) (λU=>PUnit) (k false) (λU=>k false) (λj=>k (Nat.beq i j)) (λU U=>k false) (λU U=>k false) PUnit.unit (λU U U U=>PUnit.unit) b))) (λxs U=>((@D.rec (λU=>R) (λU=>PUnit) (k false) (λU=>k false) (λU=>k false) (λys U=>eqDs (IH_n) xs ys k) (λU U=>k false) PUnit.unit (λU U U U=>PUnit.unit) b))) (λxs U=>((@D.rec (λU=>R) (λU=>PUnit) (k false) (λU=>k false) (λU=>k false) (λU U=>k false) (λys U=>eqDs (IH_n) xs ys k) PUnit.unit (λU U U U=>PUnit.unit) b))) PUnit.unit (λU U U U=>PUnit.unit) a))) n a b k
noncomputable def eqV (s:St)(a b:V)(k:Bool->R):R:=Ku 8 s a λx=>Ku 8 s b λy=>Q6m 8 x y k
noncomputable def memD (a:D)(xs:List D)(k:Bool->R):R:=@List.rec _ (λU=>R) (k false) (λx r IH_r=>Q6m 8 x a λb=>(@Bool.rec (λU=>R) (IH_r) (k true) b)) xs
noncomputable def Q6n (s:St)(a:V)(xs:List V)(k:Bool->R):R:=Ku 8 s a λx=>Hh (Ku 7 s) xs λds=>memD x ds k
noncomputable def Q6p {α:Type}(xs:List α)(k:Bool->R):R:=(@List.rec _ (λU=>R) (k false) (λU U U=>k true) xs)
noncomputable def Ci (o:O)(k:Bool->R):R:=(@O.rec (λU=>R) (λxs=>Q6p xs k) (λxs=>Q6p xs k) (λes=>Q6p es k) (λU U=>false) (λU=>false) (λU U=>false) o)
noncomputable def A9 (s:St)(v:V)(k:Bool->R):R:=(@V.rec (λU=>R) (k false) (λb=>(@Bool.rec (λU=>R) (k false) (k true) b)) (λi=>(@Bool.rec (λU=>R) (k true) (k false) (eqI i 0))) (λU=>false) (λp=>X1 s p λo=>Ci o k) (λU=>false) (λU=>false) v)
noncomputable def Jq (o:O)(k:List V->R):R:=(@O.rec (λU=>R) (λxs=>k xs) (λxs=>k xs) (λU=>false) (λU U=>false) (λU=>false) (λU U=>false) o)
noncomputable def Q0i (es:List (Nat × V))(k:List V->R):R:=@List.rec _ (λU=>(List V->R)->R) (λk=>k []) (λe r IH_r=>λk=>((@Prod.rec _ _ (λU=>R) (λn U=>IH_r (λr'=>k (.str n :: r'))) e))) es k
noncomputable def Xm (a n:Nat)(k:List V->R):R:=@Nat.rec (λU=>Nat->(List V->R)->R) (λa k=>k []) (λm IH_m=>λa k=>IH_m (a+1) (λr=>Gk a λa=>k (.int (.ofNat a) :: r))) n a k
noncomputable def fits (i:Int)(k:Unit->R):R:=(@Int.rec (λU=>R) (λn=>((@Bool.rec (λU=>R) (false) (k ()) (Nat.blt n 1000000000)))) (λU=>false) i)
noncomputable def binI (op:Op)(i j:Int)(k:Int->R):R:=(@Op.rec (λU=>R) (P0 (i+j) k) (P0 (i - j) k) (fits j λU=>P0 (i*j) k) (fits j λU=>((@Bool.rec (λU=>R) (false) (P0 (Int.fdiv i j) k) (ltI 0 j)))) (((@Bool.rec (λU=>R) (false) (P0 (Int.fmod i j) k) (ltI 0 j)))) (fits i λU=>((@Bool.rec (λU=>R) (false) (((@Bool.rec (λU=>R) (false) (P0 (i ^ j.toNat) k) (leI j 1000)))) (leI 0 j)))) op)
noncomputable def L7 (s:St)(xs:List V)(k:V->St->R):R:=S6 xs 1000 λU=>V9 s (.list xs) λp s=>k (.ref p) s
noncomputable def Qp (s:St)(p:P)(xs:List V)(k:St->R):R:=S6 xs 1000 λU=>Rc s p (.list xs) k
noncomputable def Q6q (s:St)(p:P)(es:List (Nat × V))(k:St->R):R:=S6 es 1000 λU=>Rc s p (.dict es) k
noncomputable def Q6r (s:St)(p:P)(c:Nat)(es:List (Nat × V))(k:St->R):R:=S6 es 1000 λU=>Rc s p (.inst c es) k
noncomputable def binL (op:Op)(s:St)(xs:List V)(b:V)(k:V->St->R):R:=(@Op.rec (λU=>R) (G2 s b λU o=>X2 o λys=>Xk xs ys λzs=>L7 s zs k) (false) (K7 b λi=>fits i λU=>repK xs i.toNat λzs=>L7 s zs k) (false) (false) (false) op)
noncomputable def Q0j (op:Op)(s:St)(a b:V)(k:V->St->R):R:=(@V.rec (λU=>R) (false) (λU=>false) (λi=>K7 b λj=>binI op i j λx=>k (.int x) s) (λU=>false) (λp=>X1 s p λo=>X2 o λxs=>binL op s xs b k) (λU=>false) (λU=>false) a)
noncomputable def Q0k (b:Bool)(k:Bool->R):R:=(@Bool.rec (λU=>R) (k true) (k false) b)
noncomputable def inV (s:St)(a:V)(o:O)(k:Bool->R):R:=(@O.rec (λU=>R) (λxs=>Q6n s a xs k) (λxs=>Q6n s a xs k) (λes=>S7 a λn=>V6 es n (λU=>k true) (λU=>k false)) (λU U=>false) (λU=>false) (λU U=>false) o)
noncomputable def Xn (a:V)(k:Bool->R):R:=(@V.rec (λU=>R) (k true) (λU=>k false) (λU=>k false) (λU=>k false) (λU=>k false) (λU=>k false) (λU=>k false) a)
noncomputable def Md (b:V)(k:Unit->R):R:=(@V.rec (λU=>R) (k ()) (λU=>false) (λU=>false) (λU=>false) (λU=>false) (λU=>false) (λU=>false) b)
noncomputable def Rf (op:Cm)(s:St)(a b:V)(k:Bool->R):R:=(@Cm.rec (λU=>R) (eqV s a b k) (eqV s a b λc=>Q0k c k) (K7 a λi=>K7 b λj=>k (ltI i j)) (K7 a λi=>K7 b λj=>k (leI i j)) (K7 a λi=>K7 b λj=>k (ltI j i)) (K7 a λi=>K7 b λj=>k (leI j i)) (Md b λU=>Xn a k) (Md b λU=>Xn a λc=>Q0k c k) (G2 s b λU o=>inV s a o k) (G2 s b λU o=>inV s a o λc=>Q0k c k) op)
noncomputable def sumK (xs:List V)(acc:Int)(k:Int->R):R:=@List.rec _ (λU=>Int->R) (λacc=>k acc) (λx r IH_r=>λacc=>K7 x λi=>P0 (acc+i) λa=>IH_r a) xs acc
noncomputable def Q0m (xs:List V)(k:List Nat->R):R:=@List.rec _ (λU=>(List Nat->R)->R) (λk=>k []) (λx r IH_r=>λk=>S7 x λa=>chkS a λU=>IH_r (λl=>k (a :: l))) xs k
noncomputable def Rg (a:Nat)(l:List Nat):List Nat:=match l with
 | []=>[a]
 | b :: r=>(match Nat.ble a b with | true=>a :: b :: r | false=>b :: Rg a r)
noncomputable def Os (l:List Nat):List Nat:=match l with | []=>[] | a :: r=>Rg a (Os r)
noncomputable def Jr (a:Nat)(l:List Nat):List Nat:=match l with
 | []=>[a]
 | b :: r=>(match Nat.beq a b with | true=>b :: r | false=>(match Nat.ble a b with | true=>a :: b :: r | false=>b :: Jr a r))
noncomputable def E3 (l:List Nat):List Nat:=match l with | []=>[] | a :: r=>Jr a (E3 r)
noncomputable def Cj (l:List Nat):List V:=match l with | []=>[] | a :: r=>.str a :: Cj r
noncomputable def twoUp (l:List Nat)(k:Unit->R):R:=match l with | []=>false | _ :: r=>(match r with | []=>false | _ :: _=>k ())
structure G where
 cl:List Cl
 ft:FT
 nt:FT
noncomputable def FT.getK (t:FT)(p:P)(k:Fn->R):R:=@P.rec (λU=>FT->R) (λt=>((@FT.rec (λU=>R) (false) (λU v U U U=>(@Option.rec _ (λU=>R) (false) (λo=>k o) v)) t))) (λq IH_q=>λt=>(@FT.rec (λU=>R) (false) (λl U U U U=>IH_q l) t)) (λq IH_q=>λt=>(@FT.rec (λU=>R) (false) (λU U r U U=>IH_q r) t)) p t
noncomputable def lenO (o:O)(k:Nat->R):R:=(@O.rec (λU=>R) (λxs=>Re xs k) (λxs=>Re xs k) (λxs=>Re xs k) (λU U=>false) (λU=>false) (λU U=>false) o)
noncomputable def itemsO (o:O)(k:List V->R):R:=(@O.rec (λU=>R) (λxs=>k xs) (λxs=>k xs) (λes=>Q0i es k) (λU U=>false) (λU=>false) (λU U=>false) o)
noncomputable def Gm (s:St)(x:V)(k:Bool->R):R:=(@V.rec (λU=>R) (k false) (λU=>false) (λU=>k true) (λU=>k false) (λU=>G2 s x λU o=>Jq o λU=>k false) (λU=>false) (λU=>false) x)
noncomputable def biV (g:G)(b:Bi)(s:St)(as:List V)(k:V->St->R):R:=(@Bi.rec (λU=>R) (one as λx=>G2 s x λU o=>lenO o λn=>Gk n λn=>k (.int (.ofNat n)) s) (one as λx=>G2 s x λU o=>itemsO o λxs=>L7 s xs k) (one as λx=>C2 x λn=>Xm 0 n λxs=>L7 s xs k) (two as λa b=>K7 a λi=>K7 b λj=>(@Bool.rec (λU=>R) (k a s) (k b s) (ltI j i))) (two as λa b=>K7 a λi=>K7 b λj=>(@Bool.rec (λU=>R) (k a s) (k b s) (ltI i j))) (one as λa=>K7 a λi=>P0 (.ofNat i.natAbs) λx=>k (.int x) s) (one as λx=>G2 s x λU o=>X2 o λxs=>sumK xs 0 λi=>k (.int i) s) (false) (one as λx=>G2 s x λU o=>X2 o λxs=>Q0m xs λl=>S6 l 60 λU=>L7 s (Cj (Os l)) k) (one as λx=>G2 s x λU o=>X2 o λxs=>Q0m xs λl=>S6 l 60 λU=>twoUp (E3 l) λU=>L7 s (Cj (E3 l)) k) (one as λx=>Gm s x λb=>k (.bool b) s) b)
noncomputable def subL (xs:List V)(i:Int)(k:V->R):R:=(@Int.rec (λU=>R) (λn=>Dw xs n k) (λm=>((@Nat.rec (λU=>R) (Re xs λn=>(@Nat.rec (λU=>R) (false) (λl U=>Dw xs l k) n)) (λU U=>false) m))) i)
noncomputable def subO (o:O)(i:V)(k:V->R):R:=(@O.rec (λU=>R) (λxs=>K7 i λj=>subL xs j k) (λxs=>C2 i λn=>Dw xs n k) (λes=>S7 i λn=>V6 es n k λU=>false) (λU U=>false) (λU=>false) (λU U=>false) o)
noncomputable def subV (s:St)(a i:V)(k:V->R):R:=G2 s a λU o=>subO o i k
noncomputable def Xp (xs:List V)(n:Nat)(v:V)(k:List V->R):R:=@List.rec _ (λU=>Nat->(List V->R)->R) (λn k=>false) (λx r IH_r=>λn k=>(@Nat.rec (λU=>R) (k (v :: r)) (λm U=>IH_r m (λr'=>k (x :: r'))) n)) xs n k
noncomputable def setIO (s:St)(p:P)(o:O)(i v:V)(k:St->R):R:=(@O.rec (λU=>R) (λxs=>C2 i λn=>Xp xs n v λys=>Qp s p ys k) (λU=>false) (λes=>S7 i λn=>setA es n v λes=>Q6q s p es k) (λU U=>false) (λU=>false) (λU U=>false) o)
noncomputable def setIV (s:St)(a i v:V)(k:St->R):R:=G2 s a λp o=>setIO s p o i v k
noncomputable def Q0n (s:St)(a:V)(n:Nat)(k:V->R):R:=G2 s a λU o=>(@O.rec (λU=>R) (λU=>false) (λU=>false) (λU=>false) (λU es=>V6 es n k λU=>false) (λU=>false) (λU U=>false) o)
noncomputable def Q0p (s:St)(a:V)(n:Nat)(v:V)(k:St->R):R:=G2 s a λp o=>(@O.rec (λU=>R) (λU=>false) (λU=>false) (λU=>false) (λc es=>setA es n v λes=>Q6r s p c es k) (λU=>false) (λU U=>false) o)
noncomputable def optK (v:Option V)(k:V->R):R:=(@Option.rec _ (λU=>R) (false) (λv=>k v) v)
noncomputable def cellK (s:St)(k:V->R)(p:P):R:=X1 s p λo=>(@O.rec (λU=>R) (λU=>false) (λU=>false) (λU=>false) (λU U=>false) (λv=>optK v k) (λU U=>false) o)
noncomputable def Cn (cs:Q4)(s:St)(n:Nat)(k:V->R):R:=V6 cs n (cellK s k) λU=>false
noncomputable def Q0q (s:St)(v:V)(k:St->R)(p:P):R:=X1 s p λo=>(@O.rec (λU=>R) (λU=>false) (λU=>false) (λU=>false) (λU U=>false) (λU=>Rc s p (.cell (some v)) k) (λU U=>false) o)
noncomputable def Zq (cs:Q4)(l:Loc)(s:St)(c:Bool)(n:Nat)(v:V)(k:Loc->St->R):R:=(@Bool.rec (λU=>R) (setA l n v λl=>k l s) (V6 cs n (Q0q s v (k l)) λU=>false) c)
noncomputable def Qq (cs:Q4)(l:Loc)(s:St)(ks:List (Bool × Nat))(vs:List V)(k:Loc->St->R):R:=@List.rec _ (λU=>Loc->St->(List V)->R) (λl s vs=>(@List.rec _ (λU=>R) (k l s) (λU U U=>false) vs)) (λx ks IH_ks=>λl s vs=>(@Prod.rec _ _ (λU=>R) (λc n=>(@List.rec _ (λU=>R) (false) (λv vs U=>Zq cs l s c n v λl s=>IH_ks l s vs) vs)) x)) ks l s vs
noncomputable def P1 (cs:Q4)(l:Loc)(s:St)(tg:Tg)(v:V)(k:Loc->St->R):R:=(@Tg.rec (λU=>R) (λc n=>Zq cs l s c n v k) (λks=>G2 s v λU o=>Jq o λxs=>Qq cs l s ks xs k) tg)
abbrev Ev:=E->Q4->Loc->St->(V->St->R)->R
abbrev G6:=V->List V->St->(V->St->R)->R
noncomputable def evL (ev:Ev)(es:List E)(cs:Q4)(l:Loc)(s:St)(k:List V->St->R):R:=@List.rec _ (λU=>St->(List V->St->R)->R) (λs k=>k [] s) (λe r IH_r=>λs k=>ev e cs l s λv s=>IH_r s (λvs s=>k (v :: vs) s)) es s k
noncomputable def Rh (v:V)(_:Q4)(_:Loc)(s:St)(k:V->St->R):R:=k v s
noncomputable def Ri (n:Nat)(_:Q4)(l:Loc)(s:St)(k:V->St->R):R:=V6 l n (λv=>k v s) λU=>false
noncomputable def hCel (n:Nat)(cs:Q4)(_:Loc)(s:St)(k:V->St->R):R:=Cn cs s n λv=>k v s
noncomputable def hAttr (ev:Ev)(e:E)(n:Nat)(cs:Q4)(l:Loc)(s:St)(k:V->St->R):R:=ev e cs l s λv s=>Q0n s v n λv=>k v s
noncomputable def hSub (ev:Ev)(e i:E)(cs:Q4)(l:Loc)(s:St)(k:V->St->R):R:=ev e cs l s λv s=>ev i cs l s λw s=>subV s v w λv=>k v s
noncomputable def slT (s:St)(v w:V)(k:V->St->R):R:=G2 s v λU o=>X2 o λxs=>C2 w λn=>Q0g xs n λys=>L7 s ys k
noncomputable def slF (s:St)(v w:V)(k:V->St->R):R:=G2 s v λU o=>X2 o λxs=>C2 w λn=>Q0h xs n λys=>L7 s ys k
noncomputable def hSlT (ev:Ev)(e i:E)(cs:Q4)(l:Loc)(s:St)(k:V->St->R):R:=ev e cs l s λv s=>ev i cs l s λw s=>slT s v w k
noncomputable def hSlF (ev:Ev)(e i:E)(cs:Q4)(l:Loc)(s:St)(k:V->St->R):R:=ev e cs l s λv s=>ev i cs l s λw s=>slF s v w k
noncomputable def hCall (ev:Ev)(ca:G6)(f:E)(as:List E)(cs:Q4)(l:Loc)(s:St)(k:V->St->R):R:=ev f cs l s λf s=>evL ev as cs l s λvs s=>ca f vs s k
structure Kx where
 append:Nat
 extend:Nat
 get:Nat
 index:Nat
 held:Nat
noncomputable def Q6s (s:St)(xs:List V)(v:Nat)(n:Nat)(k:V->St->R):R:=@List.rec _ (λU=>Nat->R) (λn=>false) (λx r IH_r=>λn=>S7 x λi=>((@Bool.rec (λU=>R) (IH_r (n+1)) (Gk n λn=>k (.int (.ofNat n)) s) (Nat.beq i v)))) xs n
noncomputable def chk (b:Bool)(k:Unit->R):R:=(@Bool.rec (λU=>R) (false) (k ()) b)
noncomputable def methL (kx:Kx)(p:P)(xs:List V)(n:Nat)(vs:List V)(s:St)(k:V->St->R):R:=(@Bool.rec (λU=>R) (chk (Nat.beq n kx.extend) (λU=>one vs λv=>G2 s v λU o'=>X2 o' λys=>Xk xs ys λzs=>Qp s p zs λs=>k .none s)) (one vs λv=>Cg xs v λys=>Qp s p ys λs=>k .none s) (Nat.beq n kx.append))
noncomputable def Yj (kx:Kx)(o:V)(ob:O)(n:Nat)(vs:List V)(s:St)(k:V->St->R):R:=(@O.rec (λU=>R) (λU=>G2 s o λp o'=>X2 o' λxs=>methL kx p xs n vs s k) (λU=>G2 s o λU o'=>((@O.rec (λU=>R) (λU=>false) (λxs=>chk (Nat.beq n kx.index) (λU=>one vs λv=>S7 v λm=>Q6s s xs m 0 k)) (λU=>false) (λU U=>false) (λU=>false) (λU U=>false) o'))) (λU=>G2 s o λU o'=>((@O.rec (λU=>R) (λU=>false) (λU=>false) (λes=>chk (Nat.beq n kx.get) (λU=>one vs λv=>S7 v λm=>V6 es m (λv=>k v s) (λU=>k .none s))) (λU U=>false) (λU=>false) (λU U=>false) o'))) (λU U=>false) (λU=>false) (λU U=>false) ob)
noncomputable def hMeth (g:G)(kx:Kx)(ev:Ev)(ca:G6)(o:E)(n:Nat)(as:List E)(cs:Q4)(l:Loc)(s:St)(k:V->St->R):R:=ev o cs l s λo s=>G2 s o λU ob=>(@O.rec (λU=>R) (λy1=>evL ev as cs l s λvs s=>Yj kx o (O.list y1) n vs s k) (λy2=>evL ev as cs l s λvs s=>Yj kx o (O.tup y2) n vs s k) (λy3=>evL ev as cs l s λvs s=>Yj kx o (O.dict y3) n vs s k) (λc es=>V6 es n (λf=>chk (Nat.testBit kx.held n) λU=>evL ev as cs l s λvs s=>ca f vs s k) (λU=>Dw g.cl c λcl=>V6 cl.meths n (λf=>evL ev as cs l s λvs s=>ca (.fn f) (o :: vs) s k) λU=>false)) (λU=>false) (λU U=>false) ob)
noncomputable def hBi (g:G)(ev:Ev)(b:Bi)(as:List E)(cs:Q4)(l:Loc)(s:St)(k:V->St->R):R:=evL ev as cs l s λvs s=>biV g b s vs k
noncomputable def Cp (s:St)(v:V)(c:Nat)(k:Bool->R):R:=(@V.rec (λU=>R) (k false) (λU=>false) (λU=>k false) (λU=>k false) (λp=>X1 s p λo=>((@O.rec (λU=>R) (λU=>k false) (λU=>k false) (λU=>false) (λd U=>k (Nat.beq d c)) (λU=>false) (λU U=>false) o))) (λU=>false) (λU=>false) v)
noncomputable def Cq (ev:Ev)(e:E)(c:Nat)(cs:Q4)(l:Loc)(s:St)(k:V->St->R):R:=ev e cs l s λv s=>Cp s v c λb=>k (.bool b) s
noncomputable def hBin (ev:Ev)(op:Op)(a b:E)(cs:Q4)(l:Loc)(s:St)(k:V->St->R):R:=ev a cs l s λv s=>ev b cs l s λw s=>Q0j op s v w k
noncomputable def Q6t (ev:Ev)(op:Cm)(a b:E)(cs:Q4)(l:Loc)(s:St)(k:V->St->R):R:=ev a cs l s λv s=>ev b cs l s λw s=>Rf op s v w λb=>k (.bool b) s
noncomputable def Q0r (ev:Ev)(o1 o2:Cm)(a b c:E)(cs:Q4)(l:Loc)(s:St)(k:V->St->R):R:=ev a cs l s λv s=>ev b cs l s λw s=>Rf o1 s v w λt=>(@Bool.rec (λU=>R) (k (.bool false) s) (ev c cs l s λx s=>Rf o2 s w x λt=>k (.bool t) s) t)
noncomputable def hNot (ev:Ev)(e:E)(cs:Q4)(l:Loc)(s:St)(k:V->St->R):R:=ev e cs l s λv s=>A9 s v λb=>(@Bool.rec (λU=>R) (k (.bool true) s) (k (.bool false) s) b)
noncomputable def hNeg (ev:Ev)(e:E)(cs:Q4)(l:Loc)(s:St)(k:V->St->R):R:=ev e cs l s λv s=>K7 v λi=>P0 (-i) λx=>k (.int x) s
noncomputable def hAnd (ev:Ev)(a b:E)(cs:Q4)(l:Loc)(s:St)(k:V->St->R):R:=ev a cs l s λv s=>A9 s v λt=>(@Bool.rec (λU=>R) (k v s) (ev b cs l s k) t)
noncomputable def hOr (ev:Ev)(a b:E)(cs:Q4)(l:Loc)(s:St)(k:V->St->R):R:=ev a cs l s λv s=>A9 s v λt=>(@Bool.rec (λU=>R) (ev b cs l s k) (k v s) t)
noncomputable def Q6u (ev:Ev)(c a b:E)(cs:Q4)(l:Loc)(s:St)(k:V->St->R):R:=ev c cs l s λv s=>A9 s v λt=>(@Bool.rec (λU=>R) (ev b cs l s k) (ev a cs l s k) t)
noncomputable def hLst (ev:Ev)(es:List E)(cs:Q4)(l:Loc)(s:St)(k:V->St->R):R:=evL ev es cs l s λvs s=>L7 s vs k
noncomputable def hTup (ev:Ev)(es:List E)(cs:Q4)(l:Loc)(s:St)(k:V->St->R):R:=evL ev es cs l s λvs s=>S6 vs 1000 λU=>V9 s (.tup vs) λp s=>k (.ref p) s
noncomputable def Xq (ks:List Nat)(vs:List V)(es:List (Nat × V))(k:List (Nat × V)->R):R:=@List.rec _ (λU=>(List V)->(List (Nat × V))->R) (λvs es=>(@List.rec _ (λU=>R) (k es) (λU U U=>false) vs)) (λn ks IH_ks=>λvs es=>(@List.rec _ (λU=>R) (false) (λv vs U=>setA es n v λes=>IH_ks vs es) vs)) ks vs es
noncomputable def hDct (ev:Ev)(ks:List Nat)(es:List E)(cs:Q4)(l:Loc)(s:St)(k:V->St->R):R:=evL ev es cs l s λvs s=>Xq ks vs [] λes=>S6 es 15 λU=>V9 s (.dict es) λp s=>k (.ref p) s
inductive It where | list (p:P)(i:Nat) | tup (p:P)(i:Nat) | range (i n:Nat)
noncomputable def Rj (rng:Bool)(s:St)(v:V)(k:It->R):R:=(@Bool.rec (λU=>R) (G2 s v λp o=>((@O.rec (λU=>R) (λU=>k (.list p 0)) (λU=>k (.tup p 0)) (λU=>false) (λU U=>false) (λU=>false) (λU U=>false) o))) (C2 v λn=>((@Bool.rec (λU=>R) (false) (k (.range 0 n)) (Nat.blt n 1000000)))) rng)
noncomputable def Q0s {α:Type}(xs:List α)(i:Nat)(done:Unit->R)(k:α->R):R:=@List.rec _ (λU=>Nat->R) (λi=>done ()) (λx r IH_r=>λi=>(@Nat.rec (λU=>R) (k x) (λm U=>IH_r m) i)) xs i
noncomputable def I4 (it:It)(s:St)(done:Unit->R)(k:V->It->R):R:=(@It.rec (λU=>R) (λp i=>X1 s p λo=>((@O.rec (λU=>R) (λxs=>Q0s xs i done λx=>k x (.list p (i+1))) (λU=>false) (λU=>false) (λU U=>false) (λU=>false) (λU U=>false) o))) (λp i=>X1 s p λo=>((@O.rec (λU=>R) (λU=>false) (λxs=>Q0s xs i done λx=>k x (.tup p (i+1))) (λU=>false) (λU U=>false) (λU=>false) (λU U=>false) o))) (λi n=>((@Bool.rec (λU=>R) (done ()) (Gk i λi=>k (.int (.ofNat i)) (.range (i+1) n)) (Nat.blt i n)))) it)
noncomputable def O9:Nat:=100000
noncomputable def ifB (b:Bool)(t f:R):R:=(@Bool.rec (λU=>R) (f) (t) b)
noncomputable def Q0t (ev:Ev)(cond:Option E)(cs:Q4)(l:Loc)(s:St)(k:Bool->St->R):R:=(@Option.rec _ (λU=>R) (k true s) (λc=>ev c cs l s λv s=>A9 s v λb=>k b s) cond)
noncomputable def Kv (ev:Ev)(nx:E->P->Q4->Loc->St->(Loc->St->R)->R)(tg:Tg)(cond:Option E)(nxt:E)(acc:P)(cs:Q4)(n:Nat)(it:It)(l:Loc)(s:St)(k:Loc->St->R):R:=@Nat.rec (λU=>It->Loc->St->R) (λit l s=>false) (λn IH_n=>λit l s=>I4 it s (λU=>k l s) λv it=>P1 cs l s tg v λl s=>Q0t ev cond cs l s λb s=>ifB b (nx nxt acc cs l s λl s=>IH_n it l s) (IH_n it l s)) n it l s
noncomputable def Q0u (s:St)(p:P)(v:V)(k:St->R):R:=X1 s p λo=>X2 o λxs=>Cg xs v λys=>Qp s p ys k
noncomputable def inner (ev:Ev)(n:Nat)(e:E)(acc:P)(cs:Q4)(l:Loc)(s:St)(k:Loc->St->R):R:=@Nat.rec (λU=>E->P->Q4->Loc->St->(Loc->St->R)->R) (λe acc cs l s k=>false) (λn IH_n=>λe acc cs l s k=>(@E.rec (λU=>R) (λU=>PUnit) (λU=>PUnit) (λU=>false) (λU U=>false) (λU=>false) (λU=>false) (λU U U=>false) (λU U U U=>false) (λU U U U=>false) (λU U U U=>false) (λU U U U=>false) (λU U U U U=>false) (λU U U=>false) (λU U U=>false) (λU U U U U=>false) (λU U U U U=>false) (λU U U U U U U U=>false) (λU U=>false) (λU U=>false) (λU U U U=>false) (λU U U U=>false) (λU U U U U U=>false) (λU U=>false) (λU U=>false) (λU U U=>false) (λrng it tg cond nxt U U U=>ev it cs l s λv s=>Rj rng s v λit=>Kv ev (IH_n) tg cond nxt acc cs O9 it l s k) (λe U=>ev e cs l s λv s=>Q0u s acc v λs=>k l s) PUnit.unit (λU U U U=>PUnit.unit) PUnit.unit (λU U=>PUnit.unit) e)) n e acc cs l s k
noncomputable def Cr (ev:Ev)(rng:Bool)(it:E)(tg:Tg)(cond:Option E)(nxt:E)(cs:Q4)(l:Loc)(s:St)(k:V->St->R):R :=
 ev it cs l s λv s=>Rj rng s v λit=>V9 s (.list []) λacc s=>Kv ev (inner ev 4) tg cond nxt acc cs O9 it [] s λU s=>k (.ref acc) s
noncomputable def step (g:G)(kx:Kx)(ca:G6)(ev:Ev)(e:E):Q4->Loc->St->(V->St->R)->R:=(@E.rec (λU=>Q4->Loc->St->(V->St->R)->R) (λU=>PUnit) (λU=>PUnit) (λv=>Rh v) (λU v=>Rh v) (λk=>Ri k) (λk=>hCel k) (λe k U=>hAttr ev e k) (λe i U U=>hSub ev e i) (λe i U U=>hSlT ev e i) (λe i U U=>hSlF ev e i) (λf as U U=>hCall ev ca f as) (λo k as U U=>hMeth g kx ev ca o k as) (λb as U=>hBi g ev b as) (λe c U=>Cq ev e c) (λop a b U U=>hBin ev op a b) (λop a b U U=>Q6t ev op a b) (λo1 o2 a b c U U U=>Q0r ev o1 o2 a b c) (λe U=>hNot ev e) (λe U=>hNeg ev e) (λa b U U=>hAnd ev a b) (λa b U U=>hOr ev a b) (λc a b U U U=>Q6u ev c a b) (λes U=>hLst ev es) (λes U=>hTup ev es) (λks es U=>hDct ev ks es) (λrng it tg cond nxt U U U=>Cr ev rng it tg cond nxt) (λU U=>λU U U U=>false) PUnit.unit (λU U U U=>PUnit.unit) PUnit.unit (λU U=>PUnit.unit) e)
abbrev Ex:=S->Q4->Loc->St->(F->St->R)->R
noncomputable def exL (ex:Ex)(b:List S)(cs:Q4)(l:Loc)(s:St)(k:F->St->R):R:=@List.rec _ (λU=>Loc->St->R) (λl s=>k (.next l) s) (λx r IH_r=>λl s=>ex x cs l s λf s=>((@F.rec (λU=>R) (λl=>IH_r l s) (λv l=>k (.ret v l) s) (λl=>k (.brk l) s) (λl=>k (.cont l) s) f))) b l s
noncomputable def Q0v (k:F->St->R)(go:Loc->St->R)(f:F)(s:St):R:=(@F.rec (λU=>R) (λl=>go l s) (λv l=>k (.ret v l) s) (λl=>k (.next l) s) (λl=>go l s) f)
noncomputable def Rk (ex:Ex)(tg:Tg)(body:List S)(cs:Q4)(n:Nat)(it:It)(l:Loc)(s:St)(k:F->St->R):R:=@Nat.rec (λU=>It->Loc->St->R) (λit l s=>false) (λn IH_n=>λit l s=>I4 it s (λU=>k (.next l) s) λv it=>P1 cs l s tg v λl s=>exL ex body cs l s (Q0v k λl s=>IH_n it l s)) n it l s
noncomputable def Gn (ev:Ev)(ex:Ex)(c:E)(body:List S)(cs:Q4)(n:Nat)(l:Loc)(s:St)(k:F->St->R):R:=@Nat.rec (λU=>Loc->St->R) (λl s=>false) (λn IH_n=>λl s=>ev c cs l s λv s=>A9 s v λb=>((@Bool.rec (λU=>R) (k (.next l) s) (exL ex body cs l s (Q0v k λl s=>IH_n l s)) b))) n l s
noncomputable def Q6v (cs:Q4)(ks:List Nat)(k:Q4->R):R:=@List.rec _ (λU=>(Q4->R)->R) (λk=>k []) (λn r IH_r=>λk=>V6 cs n (λp=>IH_r (λr'=>k ((n ,p) :: r'))) λU=>false) ks k
noncomputable def Gp (ev:Ev)(tg:Tg)(e:E)(cs:Q4)(l:Loc)(s:St)(k:F->St->R):R:=ev e cs l s λv s=>P1 cs l s tg v λl s=>k (.next l) s
noncomputable def sSetA (ev:Ev)(o:E)(n:Nat)(e:E)(cs:Q4)(l:Loc)(s:St)(k:F->St->R):R:=ev e cs l s λv s=>ev o cs l s λo s=>Q0p s o n v λs=>k (.next l) s
noncomputable def sSetI (ev:Ev)(o i e:E)(cs:Q4)(l:Loc)(s:St)(k:F->St->R):R:=ev e cs l s λv s=>ev o cs l s λo s=>ev i cs l s λi s=>setIV s o i v λs=>k (.next l) s
noncomputable def hLC (c:Bool)(n:Nat)(cs:Q4)(l:Loc)(s:St)(k:V->St->R):R:=(@Bool.rec (λU=>R) (Ri n cs l s k) (hCel n cs l s k) c)
noncomputable def sAugL (ev:Ev)(c:Bool)(n:Nat)(op:Op)(e:E)(cs:Q4)(l:Loc)(s:St)(k:F->St->R):R :=
 hLC c n cs l s λv s=>ev e cs l s λw s=>K7 v λU=>Q0j op s v w λx s=>Zq cs l s c n x λl s=>k (.next l) s
noncomputable def sAugA (ev:Ev)(o:E)(n:Nat)(op:Op)(e:E)(cs:Q4)(l:Loc)(s:St)(k:F->St->R):R :=
 ev o cs l s λo s=>Q0n s o n λv=>ev e cs l s λw s=>K7 v λU=>Q0j op s v w λx s=>Q0p s o n x λs=>k (.next l) s
noncomputable def sEx (ev:Ev)(e:E)(cs:Q4)(l:Loc)(s:St)(k:F->St->R):R:=ev e cs l s λU s=>k (.next l) s
noncomputable def Q0w (ev:Ev)(e:E)(cs:Q4)(l:Loc)(s:St)(k:F->St->R):R:=ev e cs l s λv s=>k (.ret v l) s
noncomputable def sIte (ev:Ev)(ex:Ex)(c:E)(a b:List S)(cs:Q4)(l:Loc)(s:St)(k:F->St->R):R:=ev c cs l s λv s=>A9 s v λt=>(@Bool.rec (λU=>R) (exL ex b cs l s k) (exL ex a cs l s k) t)
noncomputable def sFor (ev:Ev)(ex:Ex)(rng:Bool)(it:E)(tg:Tg)(body:List S)(cs:Q4)(l:Loc)(s:St)(k:F->St->R):R:=ev it cs l s λv s=>Rj rng s v λit=>Rk ex tg body cs O9 it l s k
noncomputable def Q0x (ev:Ev)(ex:Ex)(c:E)(body:List S)(cs:Q4)(l:Loc)(s:St)(k:F->St->R):R:=Gn ev ex c body cs O9 l s k
noncomputable def sTry (ex:Ex)(body fin:List S)(cs:Q4)(l:Loc)(s:St)(k:F->St->R):R:=exL ex body cs l s λf s=>((@F.rec (λU=>R) (λl=>exL ex fin cs l s λg s=>((@F.rec (λU=>R) (λl=>k (.next l) s) (λU U=>false) (λU=>false) (λU=>false) g))) (λv l=>exL ex fin cs l s λg s=>((@F.rec (λU=>R) (λl=>k (.ret v l) s) (λU U=>false) (λU=>false) (λU=>false) g))) (λU=>false) (λU=>false) f))
noncomputable def Kw:P:=.h
noncomputable def L8:P:=.o (.o (.o (.o (.o (.o (.o (.o (.o (.o (.o .h))))))))))
noncomputable def X3:P:=.o L8
noncomputable def D0:P:=.o X3
noncomputable def isTab (o:O)(k:Unit->R):R:=(@O.rec (λU=>R) (λU=>false) (λU=>false) (λU=>false) (λU U=>false) (λU=>false) (λf U=>((@Bool.rec (λU=>R) (false) (k ()) (P.beq f L8)))) o)
noncomputable def sDefc (c:Bool)(n:Nat)(f:P)(caps:List Nat)(cs:Q4)(l:Loc)(s:St)(k:F->St->R):R:=Q6v cs caps λcc=>X1 s Kw λo=>isTab o λU=>Rc s Kw (.clos D0 []) λs=>V9 s (.clos f cc) λp s=>Zq cs l s c n (.ref p) λl s=>k (.next l) s
noncomputable def stepS (ev:Ev)(ex:Ex)(x:S):Q4->Loc->St->(F->St->R)->R:=(@S.rec (λU=>Q4->Loc->St->(F->St->R)->R) (λU=>PUnit) (λtg e=>Gp ev tg e) (λo n e=>sSetA ev o n e) (λo i e=>sSetI ev o i e) (λc n op e=>sAugL ev c n op e) (λo n op e=>sAugA ev o n op e) (λe=>sEx ev e) (λe=>Q0w ev e) (λc a b U U=>sIte ev ex c a b) (λrng it tg body U=>sFor ev ex rng it tg body) (λc body U=>Q0x ev ex c body) (λU l s k=>k (.brk l) s) (λU l s k=>k (.cont l) s) (λU l s k=>k (.next l) s) (λU U U U=>false) (λbody fin U U=>sTry ex body fin) (λc n f caps=>sDefc c n f caps) PUnit.unit (λU U U U=>PUnit.unit) x)
noncomputable def evN (g:G)(kx:Kx)(ca:G6)(n:Nat):Ev:=@Nat.rec (λU=>Ev) (λU U U U U=>false) (λU r=>step g kx ca r) n
noncomputable def exN (ev:Ev)(n:Nat):Ex:=@Nat.rec (λU=>Ex) (λU U U U U=>false) (λU r=>stepS ev r) n
noncomputable def Q0y (cs:Q4)(l:Loc)(s:St)(c:Bool)(n:Nat)(v:V)(k:Q4->Loc->St->R):R:=(@Bool.rec (λU=>R) (k cs ((n ,v) :: l) s) (V9 s (.cell (some v)) λp s=>k ((n ,p) :: cs) l s) c)
noncomputable def Ot (ps:List (Bool × Nat))(ds:List V):Option V:=@List.rec _ (λU=>Option V) (none) (λd r IH_r=>(@Bool.rec (λU=>Option V) (IH_r) (some d) (Nat.beq ps.length r.length))) ds
noncomputable def F9 (cs:Q4)(l:Loc)(s:St)(ps:List (Bool × Nat))(vs ds:List V)(k:Q4->Loc->St->R):R:=@List.rec _ (λU=>Q4->Loc->St->(List V)->R) (λcs l s vs=>(@List.rec _ (λU=>R) (k cs l s) (λU U U=>false) vs)) (λp ps IH_ps=>λcs l s vs=>(@Prod.rec _ _ (λU=>R) (λc n=>((@List.rec _ (λU=>R) ((@Option.rec _ (λU=>R) (false) (λd=>Q0y cs l s c n d λcs l s=>IH_ps cs l s []) (Ot ps ds))) (λv vs U=>Q0y cs l s c n v λcs l s=>IH_ps cs l s vs) vs))) p)) ps cs l s vs
noncomputable def C3 (cs:Q4)(s:St)(ks:List Nat)(k:Q4->St->R):R:=@List.rec _ (λU=>Q4->St->R) (λcs s=>k cs s) (λn r IH_r=>λcs s=>V9 s (.cell none) λp s=>IH_r ((n ,p) :: cs) s) ks cs s
noncomputable def Hi (g:G)(kx:Kx)(ca:G6)(f:Fn)(cap:Q4)(vs:List V)(s:St)(k:V->St->R):R:=(@Fn.rec (λU=>R) (λps ds cl body=>F9 cap [] s ps vs ds λcs l s=>C3 cs s cl λcs s=>exL (exN (evN g kx ca 60) 60) body cs l s λf s=>(@F.rec (λU=>R) (λU=>k .none s) (λv U=>k v s) (λU=>false) (λU=>false) f)) f)
noncomputable def Cs (g:G)(kx:Kx)(ca:G6)(f:V)(vs:List V)(s:St)(k:V->St->R):R:=(@V.rec (λU=>R) (false) (λU=>false) (λU=>false) (λU=>false) (λp=>X1 s p λo=>(@O.rec (λU=>R) (λU=>false) (λU=>false) (λU=>false) (λU U=>false) (λU=>false) (λf cc=>g.nt.getK f λfn=>Hi g kx ca fn cc vs s k) o)) (λi=>g.ft.getK i λfn=>Hi g kx ca fn [] vs s k) (λc=>Dw g.cl c λcl=>((@Cl.rec (λU=>R) (λinit U=>V9 s (.inst c []) λp s=>((@Option.rec _ (λU=>R) (false) (λi=>g.ft.getK i λfn=>Hi g kx ca fn [] (.ref p :: vs) s λv s=>Md v λU=>k (.ref p) s) init))) cl))) f)
end Mine
namespace Mine
open PySem PySem.W PySem.Calls PyProof.Rows PySem.SeqAt
inductive NT where | l | n (v:Nat)(a b:NT)
noncomputable def dec (f n:Nat):List Nat:=match f with
 | 0=>[]
 | f+1=>(match Nat.beq n 0 with
  | true=>[]
  | false=>n % 256 :: dec f (n / 256))
noncomputable def NT.get (t:NT)(i:Nat):List Nat:=match t with
 | .l=>[]
 | .n v a b=>(match Nat.beq i 0 with
  | true=>dec 200 v
  | false=>(match Nat.beq (i % 2) 1 with
   | true=>a.get (i / 2)
   | false=>b.get (i / 2 - 1)))
noncomputable def I6:NT:=(.n 0 (.n 0xb0c0d0a0920 (.n 0x203d20 (.n 0x73746e656d75677261206c616d726f6620656c7069746c756d207365686374616d20 (.n 0x646e756f6620746f6e2027 (.n 0x2e2e (.n 0x534e4749535f54534f4d (.n 0x7974706d65207369203220746e656d75677261 (.n 0x6c617665 (.n 0x6465766173 .l .l) .l) (.n 0x74696d696c (.n 0x7a .l .l) .l)) (.n 0x666f5f7365646f63 (.n 0x656b696c7865646e69 (.n 0x65757274 .l .l) .l) (.n 0x656e6f .l .l))) (.n 0x6465746163696c707564207369205d (.n 0x38312b653120646e6f796562 (.n 0x6d726f66 (.n 0x6c616963657073 .l .l) .l) (.n 0x73756e696d .l .l)) (.n 0x666f5f73656d616e6d6964 (.n 0x736d657469 (.n 0x6c616e6f697461722e65766f63726f74636576 .l .l) .l) (.n 0x65727570 .l .l)))) (.n 0x45534c4146 (.n 0x6c617375666552 (.n 0x73646165685f73697861 (.n 0x73747865745f726f74636166 (.n 0x7265776f6873 .l .l) .l) (.n 0x6564616d .l .l)) (.n 0x746e756f63 (.n 0x726f746361665f7369 (.n 0x796c70706176 .l .l) .l) (.n 0x6c616974726170 .l .l))) (.n 0x6c6c61775f (.n 0x206874676e656c20666f20726f7463657620657461636f6c6c6120746f6e6e6163 (.n 0x646367 (.n 0x73746567726174 .l .l) .l) (.n 0x79617272615f77656e .l .l)) (.n 0x747865745f64656c62756f64 (.n 0x73747865745f6c6562616c (.n 0x73676e696e726177 .l .l) .l) (.n 0x746361786520746f6e20736920746c75736572 .l .l))))) (.n 0x736c6562616c20666f2029 (.n 0x7830 (.n 0x6e6f696372656f632079622064656375646f72746e692073414e (.n 0x646e696b5f7361 (.n 0x72707865 (.n 0x6e656573 .l .l) .l) (.n 0x726574726f687320666f206874676e656c20666f20656c7069746c756d206120746f6e20746e656d75677261207265676e6f6c .l .l)) (.n 0x73747865745f6e6f6d6d6f63 (.n 0x206874676e656c203b27736c6562616c272064696c61766e69 (.n 0x73656d616e5f657375 .l .l) .l) (.n 0x73656d616e5f726574756f .l .l))) (.n 0x6f6e5f625f77616c5f (.n 0x6c6c6163 (.n 0x6563616c705f646e756f66 (.n 0x7069727473 .l .l) .l) (.n 0x7473616c5f616e .l .l)) (.n 0x6573696d6f72705f656e6f64 (.n 0x7065656b (.n 0x7376 .l .l) .l) (.n 0x7974706d655f657375666572 .l .l)))) (.n 0x6465686361655274696d694c (.n 0x53454d414e2e455355 (.n 0x6563756465725f62 (.n 0x6465786966 (.n 0x7966696c706d6973 .l .l) .l) (.n 0x676e69686374616d .l .l)) (.n 0x74636964 (.n 0x6465726564726f5f7369 (.n 0x656372656f632e65766f63726f74636576 .l .l) .l) (.n 0x747865745f6e69616c70 .l .l))) (.n 0x646e65707061 (.n 0x6d726f665f6e65736f6863 (.n 0x7372656c646e6168 (.n 0x6f74 .l .l) .l) (.n 0x6c6c756e .l .l)) (.n 0x79656b5f68636165 (.n 0x657661656c (.n 0x6c6961745f74756f68746977 .l .l) .l) (.n 0x6e7572 .l .l)))))) (.n 0x746c7561666564206f6e2068746977202c676e697373696d2073692022 (.n 0x747865746e6f632074636572726f636e69206e61206e69206465737520272e2e2e27 (.n 0x30 (.n 0x676e697373694d (.n 0x6f72657a206874676e656c20666f20736920746e656d75677261 (.n 0x7463617865 (.n 0x747865745f63696669746e65696373 .l .l) .l) (.n 0x64656b636f6c .l .l)) (.n 0x73656e6f5f656e69626d6f63 (.n 0x72656e6e69 (.n 0x7265626d756e5f64656e6769736e75 .l .l) .l) (.n 0x74756f .l .l))) (.n 0x5f5f74696e695f5f (.n 0x746e656d756772615f646e756f62 (.n 0x2220746e656d75677261206c616d726f66 (.n 0x68746977737472617473 .l .l) .l) (.n 0x74736f6d .l .l)) (.n 0x6863746170736964 (.n 0x656d616e5f64656e696f6a (.n 0x7966696c706d69732e65766f63726f74636576 .l .l) .l) (.n 0x72 .l .l)))) (.n 0x656d617246 (.n 0x6c6f626d7953 (.n 0x796c7070616c5f62 (.n 0x646e6966 (.n 0x726f7272655f6c616e676973 .l .l) .l) (.n 0x796c7070616d .l .l)) (.n 0x746c7561666564 (.n 0x656572665f7369 (.n 0x68746972612e65766f63726f74636576 .l .l) .l) (.n 0x6563616c70 .l .l))) (.n 0x6e69616761 (.n 0x74636e69747369645f6b63656863 (.n 0x6e65766967 (.n 0x7374786574 .l .l) .l) (.n 0x6c6576656c20706f74206f7420706d756a202c7478656e2f6b6165726220726f6620706f6f6c206f6e .l .l)) (.n 0x65 (.n 0x70616c (.n 0x65646977 .l .l) .l) (.n 0x7473756a72 .l .l))))) (.n 0x202c (.n 0x73746f44 (.n 0x6c6c754e (.n 0x7461 (.n 0x66 (.n 0x6572616873 .l .l) .l) (.n 0x74736f6c .l .l)) (.n 0x736563616c705f657261706d6f63 (.n 0x646e696b5f63696d6f74615f7369 (.n 0x73656d616e5f65756c6176 .l .l) .l) (.n 0x7473696c72696170 .l .l))) (.n 0x726574756f5f77616c5f (.n 0x6c6169636570735f6c6c6163 (.n 0x746e695f6d6f7266 (.n 0x73676174 .l .l) .l) (.n 0x666f5f73656d616e .l .l)) (.n 0x6563616c705f73746f64 (.n 0x726564726f5f646e696b (.n 0x6772615f64656b6c6177 .l .l) .l) (.n 0x73746e656d7567726120726f746365762f78697274616d2078656c706d6f632f636972656d756e207365726975716572 .l .l)))) (.n 0x534552554749465f54534f4d (.n 0x4f52455a (.n 0x65726162 (.n 0x776f6e5f67616c66 (.n 0x646574726f73 .l .l) .l) (.n 0x74726f735f656772656d .l .l)) (.n 0x6d6964 (.n 0x6d657469 (.n 0x6c6c61636e75662e65766f63726f74636576 .l .l) .l) (.n 0x6d6172676f7270 .l .l))) (.n 0x73677261 (.n 0x657275736f6c63 (.n 0x69 (.n 0x747865745f6f74 .l .l) .l) (.n 0x27207463656a626f .l .l)) (.n 0x646e65 (.n 0x6874676e656c (.n 0x78 .l .l) .l) (.n 0x73 .l .l))))))) (.n 0x73746e656d656c6520 (.n 0x6e69206b6f6f6c206f74202e2e2e206f6e202c747865746e6f632074636572726f636e69206e61206e69206465737520 (.n 0x27206570797420666f20726f74636576206f742027 (.n 0x302e (.n 0x676e69686374614d (.n 0x6c6f626d797320726f20726574636172616863202c6e6f6974636e7566206120746f6e20736920746e656d75677261 (.n 0x6e6f69737275636572206574696e69666e69203a796c70656564206f6f742064657473656e206e6f697461756c617665 (.n 0x64656c616373 .l .l) .l) (.n 0x73615f6d6574695f7473696c .l .l)) (.n 0x736e6d756c6f63 (.n 0x7974696e69666e69 (.n 0x75 .l .l) .l) (.n 0x6465726564726f .l .l))) (.n 0x27206570797420736920746c7573657220295d5d (.n 0x79646f62 (.n 0x73657a69735f6d726f66 (.n 0x73746f645f646165727073 .l .l) .l) (.n 0x64656465656e2045534c41462f455552542065726568772065756c617620676e697373696d .l .l)) (.n 0x736d6964 (.n 0x6e696f6a (.n 0x736c6c61637165732e65766f63726f74636576 .l .l) .l) (.n 0x65746f7571 .l .l)))) (.n 0x45554c41562e4e5546 (.n 0x5946494c504d4953 (.n 0x62 (.n 0x65736c6166 (.n 0x65646973 .l .l) .l) (.n 0x726f746361665f656b616d .l .l)) (.n 0x64 (.n 0x7365636e65757165735f726f746361665f7369 (.n 0x7961727261796c7070612e65766f63726f74636576 .l .l) .l) (.n 0x7374726170 .l .l))) (.n 0x736261 (.n 0x72616863 (.n 0x746567 (.n 0x74786574 .l .l) .l) (.n 0x7265626d756e5f7478656e .l .l)) (.n 0x736c6576656c5f706f7264 (.n 0x676e696b63616c (.n 0x656c6f6877 .l .l) .l) (.n 0x7468676972 .l .l))))) (.n 0x2b (.n 0x6c6c6143 (.n 0x4c4c554e (.n 0x646e696b5f726f746365765f7361 (.n 0x646e65747865 (.n 0x746573 .l .l) .l) (.n 0x657265685f70756b6f6f6c .l .l)) (.n 0x736d6574695f657261706d6f63 (.n 0x2820657079742064696c61766e69 (.n 0x76 .l .l) .l) (.n 0x70 .l .l))) (.n 0x6465646e61685f77616c5f (.n 0x686361655f6c6c6163 (.n 0x656d617266 (.n 0x6c6f626d7973 .l .l) .l) (.n 0x64656d616e .l .l)) (.n 0x746e656d756772615f73746f64 (.n 0x736563616c705f7470656b (.n 0x7265687465676f745f6b6c6177 .l .l) .l) (.n 0x646577656e6572 .l .l)))) (.n 0x454c42554f445f54534f4d (.n 0x58 (.n 0x796c707061765f62 (.n 0x68746469775f6465786966 (.n 0x6c6c616d73 .l .l) .l) (.n 0x736572757361656d .l .l)) (.n 0x737469676964 (.n 0x65636e6174736e697369 (.n 0x726f7461756c6176652e65766f63726f74636576 .l .l) .l) (.n 0x6c616e6f697469736f70 .l .l))) (.n 0x657275736f6c635f796c707061 (.n 0x7373616c63 (.n 0x64616568 (.n 0x72656765746e695f6f74 .l .l) .l) (.n 0x747865745f7265626d756e .l .l)) (.n 0x736772615f7265676165 (.n 0x676e696b63616c5f7466656c (.n 0x7364726f77 .l .l) .l) (.n 0x6c6c61635f676e696e6e7572 .l .l)))))) (.n 0x27 (.n 0x63696d6f7461206562207473756d20277827 (.n 0x66656463626139383736353433323130 (.n 0x414e (.n 0x747865745f746e656d75677261 (.n 0x746e656e6f707865 (.n 0x747069726373 .l .l) .l) (.n 0x6c616369676f6c .l .l)) (.n 0x646e696b5f6e6f6d6d6f63 (.n 0x72656765746e69 (.n 0x73746e656d7567726120646573756e75 .l .l) .l) (.n 0x736d69645f726574756f .l .l))) (.n 0x74737269665f625f77616c5f (.n 0x6e69746c697562 (.n 0x64656d726f66 (.n 0x7370657473 .l .l) .l) (.n 0x6c756d .l .l)) (.n 0x73747865745f74636e6974736964 (.n 0x73656e6f5f64656e696f6a (.n 0x7365756c61762e65766f63726f74636576 .l .l) .l) (.n 0x73706574735f656375646572 .l .l)))) (.n 0x666e49 (.n 0x45555254 (.n 0x726574756f5f62 (.n 0x7473726966 (.n 0x746e61636966696e676973 .l .l) .l) (.n 0x64656b72616d .l .l)) (.n 0x656e69666564 (.n 0x676e696b63616c5f7369 (.n 0x736772616c6c61632e65766f63726f74636576 .l .l) .l) (.n 0x6c6c61635f6e69616c70 .l .l))) (.n 0x73726f746361665f6c6c61 (.n 0x6874676e656c5f6b63656863 (.n 0x70756f7267 (.n 0x31203e206874676e656c20736168206e6f697469646e6f6320656874 .l .l) .l) (.n 0x65746f6e .l .l)) (.n 0x2d65 (.n 0x77616c (.n 0x73656d616e5f68746977 .l .l) .l) (.n 0x776f72 .l .l))))) (.n 0x666e492d (.n 0x726f7461756c617645 (.n 0x6573696d6f7250 (.n 0x7372747461 (.n 0x5b206c6576656c20726f74636166 (.n 0x7466696873 .l .l) .l) (.n 0x7265776f6c .l .l)) (.n 0x79706f63 (.n 0x6c616d726f665f7974706d655f7369 (.n 0x206874676e656c206562207473756d207365756c6176 .l .l) .l) (.n 0x7265626d756e5f6573726170 .l .l))) (.n 0x7265687465676f745f77616c5f (.n 0x64656c6c6163 (.n 0x6772615f6e6f6974636e7566 (.n 0x6e656b6174 .l .l) .l) (.n 0x67656e .l .l)) (.n 0x656c62756f64 (.n 0x7473696c5f6c6562616c (.n 0x6c6c615f6e726177 .l .l) .l) (.n 0x7374726174736572 .l .l)))) (.n 0x4854474e454c5f54534f4d (.n 0x5d (.n 0x65726f666562 (.n 0x6e66 (.n 0x656372756f73 .l .l) .l) (.n 0x6567617373656d .l .l)) (.n 0x73656d616e6d6964 (.n 0x73747865745f6d657469 (.n 0x78697274616d2e65766f63726f74636576 .l .l) .l) (.n 0x3f736d656c626f7270207265696c72616520726f2065636e65726566657220746e656d7567726120746c756166656420657669737275636572203a6e6f697461756c617665207265646e752079646165726c61206573696d6f7270 .l .l))) (.n 0x2220746e656d75677261 (.n 0x7365646f63 (.n 0x7865646e69 (.n 0x73656d616e5f7265687465676f74 .l .l) .l) (.n 0x6b6f .l .l)) (.n 0x746e656d6e6f7269766e65 (.n 0x73747865745f6c6576656c (.n 0x79 .l .l) .l) (.n 0x65736c6566695f73 .l .l)))))))) (.n 0x2820 (.n 0x746e656d656c6520 (.n 0x20726f203120656220646c756f687320 (.n 0x272065707974206f742064656372656f6320656220746f6e6e6163207463656a626f2027 (.n 0x2e2e2e (.n 0x70614d (.n 0x746c7561666564206f6e2068746977202c676e697373696d20736920746e656d75677261 (.n 0x6c6c61635f6c617665 (.n 0x656c616373 .l .l) .l) (.n 0x7473696c (.n 0x6874676e656c206f72657a2d6e6f6e20666f2065736f6874206874697720646578696d20656220746f6e6e616320737475706e69206874676e656c2d6f72657a .l .l) .l)) (.n 0x6e6d756c6f63 (.n 0x666e69 (.n 0x6f7774 .l .l) .l) (.n 0x79625f726564726f .l .l))) (.n 0x206874676e656c20736920746c7573657220295d5d (.n 0x736c616d726f665f646e6962 (.n 0x79617272615f6d726f66 (.n 0x747865745f6c616963657073 .l .l) .l) (.n 0x676e697373696d .l .l)) (.n 0x65756c61765f73656d616e6d6964 (.n 0x6a (.n 0x65706f63732e65766f63726f74636576 .l .l) .l) (.n 0x727474615f747570 .l .l)))) (.n 0x4e5546 (.n 0x6c616e6769536e7275746552 (.n 0x73656d616e5f73697861 (.n 0x64656c696166 (.n 0x736d6574695f6e776f6873 .l .l) .l) (.n 0x656b616d .l .l)) (.n 0x746e6572727563 (.n 0x73726f746361665f726f746361665f7369 (.n 0x656c626169726176 .l .l) .l) (.n 0x666f5f6c616974726170 .l .l))) (.n 0x61 (.n 0x27206570797420656372656f6320746f6e6e6163 (.n 0x636972656e6567 (.n 0x74736574 .l .l) .l) (.n 0x766e655f77656e .l .l)) (.n 0x727474615f706f7264 (.n 0x736c6562616c (.n 0x74616877 .l .l) .l) (.n 0x65737265766572 .l .l))))) (.n 0x2a (.n 0x6e69746c697542 (.n 0x65676e61722072656765746e69206f74206e6f696372656f632079622064656375646f72746e692073414e (.n 0x747865745f6c616369676f6c5f7361 (.n 0x6e6f6973736572707865 (.n 0x666c6573 .l .l) .l) (.n 0x70756b6f6f6c .l .l)) (.n 0x657261706d6f63 (.n 0x7961727261206e61206562207473756d202c746e656d756772612074737269662064696c61766e69 (.n 0x64657375 .l .l) .l) (.n 0x73656d616e5f6e776f .l .l))) (.n 0x6e65736f68635f77616c5f (.n 0x6e69746c6975625f6c6c6163 (.n 0x736e6f697463617266 (.n 0x6d7573 .l .l) .l) (.n 0x656d616e .l .l)) (.n 0x73746f64 (.n 0x7470656b (.n 0x77 .l .l) .l) (.n 0x657079745f657375666572 .l .l)))) (.n 0x6c616e676953706f6f4c (.n 0x726f74636556 (.n 0x796c707061735f62 (.n 0x747865745f6465786966 (.n 0x657a6973 .l .l) .l) (.n 0x78616d .l .l)) (.n 0x6e75725f7469676964 (.n 0x726f746365765f7369 (.n 0x73726f7272652e65766f63726f74636576 .l .l) .l) (.n 0x706f70 .l .l))) (.n 0x796c707061 (.n 0x736d6574695f6e65736f6863 (.n 0x6e6f5f73646e6168 (.n 0x656c62756f645f6f74 .l .l) .l) (.n 0x7265626d756e .l .l)) (.n 0x736563616c705f68636165 (.n 0x7466656c (.n 0x64726f77 .l .l) .l) (.n 0x73746978655f6e7572 .l .l)))))) (.n 0x73746e656d75677261206c617574636120656c7069746c756d207962206465686374616d2022 (.n 0x726f746365762061206562207473756d202745554c41562e4e554627 (.n 0x39383736353433323130 (.n 0x7367724165726f4d (.n 0x72656666696420736874676e656c20746e656d75677261 (.n 0x6564756c637865 (.n 0x68746469775f63696669746e65696373 .l .l) .l) (.n 0x736b636f6c .l .l)) (.n 0x6e6f6d6d6f63 (.n 0x746e69 (.n 0x746e656d7567726120646573756e75 .l .l) .l) (.n 0x726574756f .l .l))) (.n 0x5f5f656d616e5f5f (.n 0x6465646e756f62 (.n 0x736c616d726f66 (.n 0x6574617473 .l .l) .l) (.n 0x73656d6172665f74736f6d .l .l)) (.n 0x72656863746170736964 (.n 0x776f6e5f64656e696f6a (.n 0x676e6974726f732e65766f63726f74636576 .l .l) .l) (.n 0x65676e6172 .l .l)))) (.n 0x464e49 (.n 0x54 (.n 0x796c7070616d5f62 (.n 0x6e6f6974636e75665f646e6966 (.n 0x72656c6c616e676973 .l .l) .l) (.n 0x6b72616d .l .l)) (.n 0x676e69646e69625f746c7561666564 (.n 0x6e6f6974636e75665f7369 (.n 0x73727474612e65766f63726f74636576 .l .l) .l) (.n 0x736563616c70 .l .l))) (.n 0x656b696c61 (.n 0x6d726f665f6b63656863 (.n 0x736c61626f6c67 (.n 0x206e61687420726577656620736e6961746e6f63207473696c202e2e2e20656874 .l .l) .l) (.n 0x686374616d6f6e .l .l)) (.n 0x2b65 (.n 0x796c7070616c (.n 0x736c6576656c5f68746977 .l .l) .l) (.n 0x6d6f6f72 .l .l))))) (.n 0x2d (.n 0x746e656d6e6f7269766e45 (.n 0x73704f (.n 0x6e6f6974636e75662d6e6f6e20796c707061206f742074706d65747461 (.n 0x726f74636166 (.n 0x646572616873 .l .l) .l) (.n 0x776f6c .l .l)) (.n 0x6e6f697469646e6f63 (.n 0x6563616c705f73746f645f7369 (.n 0x7365756c6176 .l .l) .l) (.n 0x746e65726170 .l .l))) (.n 0x6c6565705f77616c5f (.n 0x65756c61765f6c6c6163 (.n 0x6e6f6974636e7566 (.n 0x656b6174 .l .l) .l) (.n 0x656c6f68775f7473657261656e .l .l)) (.n 0x65756c61765f73746f64 (.n 0x73646e696b (.n 0x6465746e6177 .l .l) .l) (.n 0x74736572 .l .l)))) (.n 0x52454745544e495f54534f4d (.n 0x5c (.n 0x65736162 (.n 0x7367616c66 (.n 0x736c6576656c5f646574726f73 .l .l) .l) (.n 0x64656772656d .l .l)) (.n 0x666f5f6d6964 (.n 0x73615f6d657469 (.n 0x737472617074616d2e65766f63726f74636576 .l .l) .l) (.n 0x6573696d6f7270 .l .l))) (.n 0x20746e656d75677261 (.n 0x65646f63 (.n 0x65736c656669 (.n 0x656c6f68775f6f74 .l .l) .l) (.n 0x64646f .l .l)) (.n 0x766e65 (.n 0x74615f6c6576656c (.n 0x7378 .l .l) .l) (.n 0x3473 .l .l))))))) (.n 0x7974706d6520736920 (.n 0x22 (.n 0x5b5b58284e554620747562200a2c27 (.n 0x636972656e65472e (.n 0x6874614d (.n 0x6c616369676f6c20736120656c6261746572707265746e6920746f6e20736920746e656d75677261 (.n 0x7972657665 (.n 0x63696669746e65696373 .l .l) .l) (.n 0x666f5f7473696c .l .l)) (.n 0x73726f746361665f656e69626d6f63 (.n 0x74696e69 (.n 0x272065707974206465746e656d656c706d696e75 .l .l) .l) (.n 0x726568746f .l .l))) (.n 0x5f (.n 0x646e756f62 (.n 0x6c616d726f66 (.n 0x7472617473 .l .l) .l) (.n 0x65726f6d .l .l)) (.n 0x20746375646f72705b20736d6964 (.n 0x64656e696f6a (.n 0x7365636e65757165732e65766f63726f74636576 .l .l) .l) (.n 0x6c6c61635f6465746f7571 .l .l)))) (.n 0x65736c6146 (.n 0x7972616d6d7553 (.n 0x646e69665f62 (.n 0x746c756166 (.n 0x6c616e676973 .l .l) .l) (.n 0x796e616d .l .l)) (.n 0x676e6973616572636564 (.n 0x6574696e69665f7369 (.n 0x736c6c6163796c7070612e65766f63726f74636576 .l .l) .l) (.n 0x6b636970 .l .l))) (.n 0x6574616c756d75636361 (.n 0x726574636172616863 (.n 0x727474615f746567 (.n 0x656c62756f645f6f745f74786574 .l .l) .l) (.n 0x6f6e .l .l)) (.n 0x657564 (.n 0x65676175676e616c (.n 0x747865745f656c6f6877 .l .l) .l) (.n 0x676e696b63616c5f7468676972 .l .l))))) (.n 0x5b5b58284e554620747562200a2c (.n 0x726f72724565766f43 (.n 0x4e614e (.n 0x7364726f775f7361 (.n 0x73746e65747865 (.n 0x73656d616e5f746573 .l .l) .l) (.n 0x65736f6f6c .l .l)) (.n 0x7379656b5f657261706d6f63 (.n 0x63696d6f74615f7369 (.n 0x65756c6176 .l .l) .l) (.n 0x72696170 .l .l))) (.n 0x676e6968746f6e5f77616c5f (.n 0x666f5f6c6c6163 (.n 0x73656d617266 (.n 0x676174 .l .l) .l) (.n 0x73656d616e .l .l)) (.n 0x666f5f73746f64 (.n 0x646e696b (.n 0x64656b6c6177 .l .l) .l) (.n 0x6f72657a206874676e656c2073616820746e656d6563616c706572 .l .l)))) (.n 0x544e454e4f5058455f54534f4d (.n 0x59 (.n 0x73647261776b636162 (.n 0x6772615f67616c66 (.n 0x656d6f73 .l .l) .l) (.n 0x736e75725f656772656d .l .l)) (.n 0x65756c61765f737469676964 (.n 0x656c6261746e6972707369 (.n 0x73726f746361662e65766f63726f74636576 .l .l) .l) (.n 0x64657265776f70 .l .l))) (.n 0x677261 (.n 0x727474615f7373616c63 (.n 0x7364616568 (.n 0x6c616369676f6c5f6f74 .l .l) .l) (.n 0x666f5f737265626d756e .l .l)) (.n 0x6772615f7974706d65 (.n 0x6e656c (.n 0x74756f5f64656b726f77 .l .l) .l) (.n 0x736e7572 .l .l)))))) (.n 0x2731726f74636556726564726f27206e692027 (.n 0x29 (.n 0x5830 (.n 0x4e414e (.n 0x736e6d756c6f635f7361 (.n 0x65756c61765f746e656e6f707865 (.n 0x646e6f636573 .l .l) .l) (.n 0x7265676e6f6c .l .l)) (.n 0x6874676e656c5f6e6f6d6d6f63 (.n 0x707265746e69 (.n 0x747865745f646573756e75 .l .l) .l) (.n 0x6c756d5f726574756f .l .l))) (.n 0x64726165685f625f77616c5f (.n 0x63 (.n 0x646e756f66 (.n 0x727473 .l .l) .l) (.n 0x6e .l .l)) (.n 0x646f6d766964 (.n 0x6b (.n 0x656c6269736976 .l .l) .l) (.n 0x6c617375666572 .l .l)))) (.n 0x4c (.n 0x65757254 (.n 0x6e6f697469736f705f62 (.n 0x73746966 (.n 0x64656966696c706d6973 .l .l) .l) (.n 0x73656d616e5f686374616d .l .l)) (.n 0x7265737261706564 (.n 0x616e5f7369 (.n 0x73747261706c6c61632e65766f63726f74636576 .l .l) .l) (.n 0x73656d616e5f6e69616c70 .l .l))) (.n 0x73656e6f5f6c6c61 (.n 0x656c626174726f735f6b63656863 (.n 0x6465646e6168 (.n 0x6b636974 .l .l) .l) (.n 0x7365746f6e .l .l)) (.n 0x68636165 (.n 0x31305f3733343171705f77616c (.n 0x6e6968746977 .l .l) .l) (.n 0x73776f72 .l .l))))) (.n 0x2e (.n 0x46 (.n 0x726f72724552 (.n 0x73697861 (.n 0x7373616c635f726f74636166 (.n 0x776f6873 .l .l) .l) (.n 0x6d .l .l)) (.n 0x22206e6f6974636e756620646e696620746f6e20646c756f63 (.n 0x656d616e5f7974706d655f7369 (.n 0x272065707974206562207473756d207365756c6176 .l .l) .l) (.n 0x74726170 .l .l))) (.n 0x736b6c61775f77616c5f (.n 0x72656c6c6163 (.n 0x666f5f6e6f6974636e7566 (.n 0x6c6c6174 .l .l) .l) (.n 0x657669746167656e .l .l)) (.n 0x72656765746e695f6f745f656c62756f64 (.n 0x747865745f6c6562616c (.n 0x72656e726177 .l .l) .l) (.n 0x746c75736572 .l .l)))) (.n 0x545241505f54534f4d (.n 0x5b207463656a626f20666f206874676e656c2065687420686374616d20746f6e206f64205d (.n 0x646e69686562 (.n 0x6563726f66 (.n 0x73656372756f73 .l .l) .l) (.n 0x6e696d .l .l)) (.n 0x7473696c5f73656d616e6d6964 (.n 0x7365756c61765f6d657469 (.n 0x747865746d756e2e65766f63726f74636576 .l .l) .l) (.n 0x736772615f6573696d6f7270 .l .l))) (.n 0x7473696c206120746f6e2073692027796c7070616d2720666f20277367724165726f4d2720746e656d75677261 (.n 0x6e695f7365646f63 (.n 0x656b696c5f7865646e69 (.n 0x646c6f74 .l .l) .l) (.n 0x746978655f6e6f .l .l)) (.n 0x7473696c2e736120657375203b64656b6c617720746f6e206572612073746e656d6e6f7269766e65 (.n 0x736c6576656c (.n 0x736579 .l .l) .l) (.n 0x796c70706173 .l .l)))))))))
noncomputable def P2 (k:Nat):List Nat:=match Nat.blt k 641 with | true=>I6.get k | false=>[2000000+k]
noncomputable def t (k:Nat):Str:=⟨⟨P2 k⟩⟩
noncomputable def eqL (xs ys:List Nat):Bool:=match xs with
 | []=>(match ys with | []=>true | _ :: _=>false)
 | x :: xs=>(match ys with | []=>false | y :: ys=>(match Nat.beq x y with | true=>eqL xs ys | false=>false))
noncomputable def eqS (a b:Str):Bool:=match a with | ⟨⟨x⟩⟩=>(match b with | ⟨⟨y⟩⟩=>eqL x y)
noncomputable def big:Int:=10 ^ 5000
section
open PySem.W.X
namespace H
noncomputable def Q:Program:=PySem.Challenge.pw_pq1437_01
noncomputable def lawQ:OpenLaw:={ prog:=Q,name:=t 373,about:=[PySem.Challenge.rw_pq1437_01.about.headD ⟨⟨[]⟩⟩],foot:=11,most:=some 63,bound:=none,writes:=false }
theorem lawQ_eq:PySem.Challenge.rw_pq1437_01=lawQ:=by kernel_rfl
noncomputable def al (ok:Scope->Str->Bool):TablesWhole.Alg Bool:=⟨λsc n U=>ok sc n,λU U U U=>true,λU=>true,true,false,λa b=>a&&b⟩
noncomputable def hA:TablesWhole.Alg Bool:=⟨λsc n U=>PySem.W.Fast.tw15985051520779696433 sc n,λU U U ok=>ok,λU=>true,true,false,λa b=>a&&b⟩
noncomputable def WS (A:TablesWhole.Alg Bool)(G:List Str)(m:Module)(l:List Stmt):Bool:=TablesWhole.wSs A m.scope ⟨m.scope,[],G,[],none⟩ m.scope l
theorem Q6w {α:Type}{a b:List α}:(a++b).isEmpty=(a.isEmpty&&b.isEmpty):=by cases a <;> simp
theorem Rm {a b:Bool}(h:(a&&b)=true):a=true/\b=true:=by simpa using h
theorem Me {A:TablesWhole.Alg Bool}(hu:A.unit=true)(hb:∀ a b,A.both a b=(a&&b)){G:List Str}{m:Module}:∀ (k:Nat){l:List Stmt},WS A G m (l.take k)=true->WS A G m (l.drop k)=true->WS A G m l=true
 | 0,l,_,h=>h
 | k+1,[],_,_=>hu
 | k+1,s :: r,h,h2=>by
  have e:∀ r,WS A G m (s :: r)=A.both (TablesWhole.wS A m.scope ⟨m.scope,[],G,[],none⟩ m.scope s) (WS A G m r):=λU=>rfl;rw [List.take_succ_cons,e,hb] at h;rw [e,hb,(Rm h).1,Me hu hb k (Rm h).2 h2];rfl
noncomputable def gN (m:Module)(l:List Stmt):Bool:=(TablesWhole.wSs TablesWhole.gather m.scope ⟨m.scope,[],[],[],none⟩ m.scope l).isEmpty
theorem Q0z {m:Module}:∀ (k:Nat){l:List Stmt},gN m (l.take k)=true->gN m (l.drop k)=true->gN m l=true
 | 0,l,_,h=>h
 | k+1,[],_,_=>rfl
 | k+1,s :: r,h,h2=>by
  have e:∀ r,gN m (s :: r)=((TablesWhole.wS TablesWhole.gather m.scope ⟨m.scope,[],[],[],none⟩ m.scope s).isEmpty&&gN m r):=λr=>Q6w;rw [List.take_succ_cons,e] at h;rw [e,(Rm h).1,Q0z k (Rm h).2 h2];rfl
theorem Ou {lk:Look}:∀ (k:Nat){l:List Stmt},noRoadLSs lk (l.take k)=true->noRoadLSs lk (l.drop k)=true->noRoadLSs lk l=true
 | 0,l,_,h=>h
 | k+1,[],_,_=>rfl
 | k+1,s :: r,h,h2=>by
  have e:∀ r,noRoadLSs lk (s :: r)=(noRoadLS lk s&&noRoadLSs lk r):=λU=>rfl;rw [List.take_succ_cons,e] at h;rw [e,(Rm h).1,Ou k (Rm h).2 h2];rfl
theorem Q1a {p:Program}{ok:Scope->Str->Bool}(h:∀ G,WS (al ok) G p.main p.main.body=true):namesMeet p p.main.body ok=true:=by
 have e:∃ G,namesMeet p p.main.body ok=(true&&(true&&(WS (al ok) G p.main p.main.body&&true))):=⟨_,rfl⟩;obtain ⟨G,e⟩:=e;rw [e,h];rfl
theorem wm_of {m:Module}(hn:TablesWhole.noTwice m.scope=true)(ht:TablesWhole.wSs TablesWhole.gather m.scope ⟨m.scope,[],[],[],none⟩ m.scope m.body=[])(h:WS hA [] m m.body=true):TablesWhole.wModule TablesWhole.holds m=true:=by
 have e:TablesWhole.wModule TablesWhole.holds m=(true&&(TablesWhole.noTwice m.scope&&(TablesWhole.wSs TablesWhole.holds m.scope ⟨m.scope,[],TablesWhole.wSs TablesWhole.gather m.scope ⟨m.scope,[],[],[],none⟩ m.scope m.body,[],none⟩ m.scope m.body&&true))):=rfl;have q:TablesWhole.holds=hA:=by unfold TablesWhole.holds hA;rw [PySem.W.Fast.te15985051520779696433]
 unfold WS at h;rw [e,ht,hn,q,h];rfl
noncomputable def bq0:List Stmt:=Q.main.body
noncomputable def bq1:List Stmt:=bq0.drop 60
noncomputable def bq2:List Stmt:=bq1.drop 50
noncomputable def bq3:List Stmt:=bq2.drop 50
noncomputable def bq4:List Stmt:=bq3.drop 30
noncomputable def bq5:List Stmt:=bq4.drop 32
theorem Xr {P:List Stmt->Prop}(c:∀ (k:Nat){l:List Stmt},P (l.take k)->P (l.drop k)->P l)(h0:P (bq0.take 60))(h1:P (bq1.take 50))(h2:P (bq2.take 50))(h3:P (bq3.take 30))(h4:P (bq4.take 32))(h5:P bq5):P Q.main.body :=
 c 60 h0 (c 50 h1 (c 50 h2 (c 30 h3 (c 32 h4 h5))))
theorem kW {A:TablesWhole.Alg Bool}{G:List Str}{l:List Stmt}(h:PySem.W.Fast.tw16421684217811934046 A Q.main.scope ⟨Q.main.scope,[],G,[],none⟩ Q.main.scope l=true):WS A G Q.main l=true:=by unfold WS;rw [PySem.W.Fast.te16421684217811934046];exact h
noncomputable def okL (_:Scope)(n:Str):Bool:=PySem.W.Fast.tw17868728402115742887 n
noncomputable def okR (n:Str)(sc:Scope)(x:Str):Bool:=x !=n||!(List.lookup x sc.names==some NameKind.globalImplicit||List.lookup x sc.names==some NameKind.globalExplicit)
noncomputable def lkW:Look:={ strict:=!(importedModules Q.main.body).all cThrough.contains,foot:=none,bare:=[] }
noncomputable def NA (l:List Stmt):Prop:=∀ G,WS (al okL) G Q.main l=true
noncomputable def NR (n:Str)(l:List Stmt):Prop:=∀ G,WS (al (okR n)) G Q.main l=true
noncomputable def NB (l:List Stmt):Prop:=NR "vars" l/\NR "dir" l/\NR "locals" l
noncomputable def NH (l:List Stmt):Prop:=WS hA [] Q.main l=true
noncomputable def NG (l:List Stmt):Prop:=gN Q.main l=true
noncomputable def ND (l:List Stmt):Prop:=noRoadLSs lkW l=true
theorem kG {l:List Stmt}(h:(PySem.W.Fast.tw16421684217811934046 PySem.W.Fast.tw12652042256554560961 Q.main.scope ⟨Q.main.scope,[],[],[],none⟩ Q.main.scope l).isEmpty=true):NG l:=by unfold NG gN;rw [PySem.W.Fast.te16421684217811934046,PySem.W.Fast.te12652042256554560961];exact h
theorem kD {l:List Stmt}(h:PySem.W.Fast.tw8326940854005059898 lkW l=true):ND l:=by unfold ND;rw [PySem.W.Fast.te8326940854005059898];exact h
theorem na0:NA (bq0.take 60):=λU=>kW (by kernel_rfl)
theorem nb0:NB (bq0.take 60):=⟨λU=>kW (by kernel_rfl),λU=>kW (by kernel_rfl),λU=>kW (by kernel_rfl)⟩
theorem nh0:NH (bq0.take 60):=kW (by kernel_rfl)
theorem ng0:NG (bq0.take 60):=kG (by kernel_rfl)
theorem nd0:ND (bq0.take 60):=kD (by kernel_rfl)
theorem na1:NA (bq1.take 50):=λU=>kW (by kernel_rfl)
theorem nb1:NB (bq1.take 50):=⟨λU=>kW (by kernel_rfl),λU=>kW (by kernel_rfl),λU=>kW (by kernel_rfl)⟩
theorem nh1:NH (bq1.take 50):=kW (by kernel_rfl)
theorem ng1:NG (bq1.take 50):=kG (by kernel_rfl)
theorem nd1:ND (bq1.take 50):=kD (by kernel_rfl)
theorem na2:NA (bq2.take 50):=λU=>kW (by kernel_rfl)
theorem nb2:NB (bq2.take 50):=⟨λU=>kW (by kernel_rfl),λU=>kW (by kernel_rfl),λU=>kW (by kernel_rfl)⟩
theorem nh2:NH (bq2.take 50):=kW (by kernel_rfl)
theorem ng2:NG (bq2.take 50):=kG (by kernel_rfl)
theorem nd2:ND (bq2.take 50):=kD (by kernel_rfl)
theorem na3:NA (bq3.take 30):=λU=>kW (by kernel_rfl)
theorem nb3:NB (bq3.take 30):=⟨λU=>kW (by kernel_rfl),λU=>kW (by kernel_rfl),λU=>kW (by kernel_rfl)⟩
theorem nh3:NH (bq3.take 30):=kW (by kernel_rfl)
theorem ng3:NG (bq3.take 30):=kG (by kernel_rfl)
theorem nd3:ND (bq3.take 30):=kD (by kernel_rfl)
theorem na4:NA (bq4.take 32):=λU=>kW (by kernel_rfl)
theorem nb4:NB (bq4.take 32):=⟨λU=>kW (by kernel_rfl),λU=>kW (by kernel_rfl),λU=>kW (by kernel_rfl)⟩
theorem nh4:NH (bq4.take 32):=kW (by kernel_rfl)
theorem ng4:NG (bq4.take 32):=kG (by kernel_rfl)
theorem nd4:ND (bq4.take 32):=kD (by kernel_rfl)
theorem na5:NA bq5:=λU=>kW (by kernel_rfl)
theorem nb5:NB bq5:=⟨λU=>kW (by kernel_rfl),λU=>kW (by kernel_rfl),λU=>kW (by kernel_rfl)⟩
theorem nh5:NH bq5:=kW (by kernel_rfl)
theorem ng5:NG bq5:=kG (by kernel_rfl)
theorem nd5:ND bq5:=kD (by kernel_rfl)
theorem nmL:namesMeet Q Q.main.body (λU n=>PySem.W.attrL n)=true:=by
 rw [PySem.W.Fast.te17868728402115742887];exact Q1a (ok:=okL) (Xr (P:=NA) (λk U h1 h2 G=>Me rfl (λU U=>rfl) k (h1 G) (h2 G)) na0 na1 na2 na3 na4 na5)
theorem Xs {n:Str}(k:Nat){l:List Stmt}(h1:NR n (l.take k))(h2:NR n (l.drop k)):NR n l:=λG=>Me rfl (λU U=>rfl) k (h1 G) (h2 G)
theorem Xu:NB Q.main.body:=Xr (P:=NB) (λk U h1 h2=>⟨Xs k h1.1 h2.1,Xs k h1.2.1 h2.2.1,Xs k h1.2.2 h2.2.2⟩) nb0 nb1 nb2 nb3 nb4 nb5
theorem bare0:(["vars","dir","locals"]:List Str).filter (readsOut Q Q.main.body)=[]:=by
 have k:∀ n,NR n Q.main.body->¬readsOut Q Q.main.body n=true:=λn h=>by
  have e:readsOut Q Q.main.body n=!(namesMeet Q Q.main.body (okR n)):=rfl;rw [e,Q1a (p:=Q) (ok:=okR n) h];exact Bool.false_ne_true
 rw [List.filter_cons_of_neg (k _ Xu.1),List.filter_cons_of_neg (k _ Xu.2.1),List.filter_cons_of_neg (k _ Xu.2.2)];rfl
theorem road0:noRoadLSs { strict:=!(importedModules Q.main.body).all cThrough.contains,foot:=none,bare:=[] } Q.main.body=true:=Xr (P:=ND) Ou nd0 nd1 nd2 nd3 nd4 nd5
theorem twice0:TablesWhole.noTwice Q.main.scope=true:=by rw [PySem.W.Fast.te8331962902438777018];kernel_rfl
theorem Q6x:TablesWhole.wModule TablesWhole.holds Q.main=true:=wm_of twice0 (List.isEmpty_iff.mp (Xr (P:=NG) Q0z ng0 ng1 ng2 ng3 ng4 ng5)) (Xr (P:=NH) (Me rfl λU U=>rfl) nh0 nh1 nh2 nh3 nh4 nh5)
theorem Ct:looksOpen Q=true/\(looksOpen lawQ.row.prog=true->lawQ.row.partSaid=true)/\(lawQ.row.partSaid=true->lawQ.row.wellSaid=true)/\(lawQ.row.wellSaid=true->lawQ.wellSaid=true):=by
 refine ⟨?a,λh=>?b,λh=>?c,λh=>?d⟩
 case' a=>unfold looksOpen;rw [bare0];repeat' with_reducible refine look_both ?_ ?_
 case' b=>unfold OpenRow.partSaid;rw [h];repeat' with_reducible refine look_both ?_ ?_
 case' c=>unfold OpenRow.wellSaid;rw [h];repeat' with_reducible refine look_both ?_ ?_
 case' d=>unfold OpenLaw.wellSaid;rw [h];repeat' with_reducible refine look_both ?_ ?_
 all_goals first | with_reducible exact nmL | with_reducible exact road0 | ((try rw [PySem.W.Fast.te10501279942588096481]);(try rw [PySem.W.Fast.te10792542408131684335]);(try rw [PySem.W.Fast.te11788848310118352699]);(try rw [PySem.W.Fast.te12749700546528644094]);(try rw [PySem.W.Fast.te12862048085361865435]);(try rw [PySem.W.Fast.te12879404354523853263]);(try rw [PySem.W.Fast.te13343964577679436407]);(try rw [PySem.W.Fast.te13582783067957832011]);(try rw [PySem.W.Fast.te14412699480532031325]);(try rw [PySem.W.Fast.te15985051520779696433]);(try rw [PySem.W.Fast.te16286561074155671207]);(try rw [PySem.W.Fast.te17095254045102204799]);(try rw [PySem.W.Fast.te17119622794617984870]);(try rw [PySem.W.Fast.te17691160309236699985]);(try rw [PySem.W.Fast.te17868728402115742887]);(try rw [PySem.W.Fast.te18344453789297297638]);(try rw [PySem.W.Fast.te2368527892694137696]);(try rw [PySem.W.Fast.te3471404346716756564]);(try rw [PySem.W.Fast.te482687673346738481]);(try rw [PySem.W.Fast.te4857012375875476094]);(try rw [PySem.W.Fast.te5318747976498570220]);(try rw [PySem.W.Fast.te5923862056798008813]);(try rw [PySem.W.Fast.te6116379765354995101]);(try rw [PySem.W.Fast.te6984425678791042302]);(try rw [PySem.W.Fast.te7723801398212525404]);(try rw [PySem.W.Fast.te797321630700447069]);(try rw [PySem.W.Fast.te8179353310426384613]);(try rw [PySem.W.Fast.te8326940854005059898]);(try rw [PySem.W.Fast.te8377067652309620493]);(try rw [PySem.W.Fast.te9558739934217749035]);(try rw [PySem.W.Fast.te9572597257264208301]);(try rw [PySem.W.Fast.te9807087744658564304]);(try rw [PySem.W.R.allR_eq]);(try rw [PySem.W.R.filterR_eq]);(try rw [PySem.W.R.anyR_eq]);(try rw [PySem.W.R.elemR_eq]);(try rw [PySem.W.Fast.sDec_eq]);(try rw [PySem.W.Fast.named_eq]);decide +kernel)
theorem said1:looksOpen Q=true:=Ct.1
theorem said2:lawQ.row.partSaid=true:=Ct.2.1 said1
theorem said3:lawQ.row.wellSaid=true:=Ct.2.2.1 said2
theorem said4:lawQ.wellSaid=true:=Ct.2.2.2 said3
theorem Mf {p:Program}(h:TablesWhole.wModule TablesWhole.holds p.main=true)(h1:p.modules=[])(h2:p.parses=[])(h3:p.harvested=[]):p.tablesWhole=true:=by
 unfold Program.tablesWhole TablesWhole.wProgram;rw [h1,h2,h3]
 show (TablesWhole.wModule TablesWhole.holds p.main&&(true&&(true&&(true&&true))))=true
 rw [h];rfl
theorem tabs0:Q.tablesWhole=true:=Mf Q6x (by kernel_rfl) (by kernel_rfl) (by kernel_rfl)
theorem said0 (h:lawQ.row.wellSaid=true->lawQ.row.Holds):lawQ.Holds:=⟨said4,h said3⟩
end H
end
noncomputable def T.get:T->P->Option O
 | .nil,_=>none
 | .node _ v _,.h=>v
 | .node l _ _,.o q=>l.get q
 | .node _ _ r,.i q=>r.get q
theorem Yk:∀ {p:P}{t:T}{k:O->R},t.getK p k=true->∃ o,t.get p=some o/\k o=true
 | .h,.nil,_,h=>by simp [T.getK] at h
 | .h,.node _ none _,_,h=>by simp [T.getK] at h
 | .h,.node _ (some o) _,_,h=>⟨o,rfl,h⟩
 | .o _,.nil,_,h=>by simp [T.getK] at h
 | .o q,.node l _ _,_,h=>Yk (p:=q) (t:=l) (by simpa [T.getK] using h)
 | .i _,.nil,_,h=>by simp [T.getK] at h
 | .i q,.node _ _ r,_,h=>Yk (p:=q) (t:=r) (by simpa [T.getK] using h)
theorem O4 (p:P):T.nil.get p=none:=by induction p using P.casesOn <;> rfl
theorem Qr:∀ {p:P}{t:T}{o:O}{k:T->R},t.setK p o k=true->∃ t',k t'=true/\∀ q,t'.get q=if q=p then some o else t.get q
 | .h,.nil,o,k,h=>⟨_,by simpa [T.setK] using h,λq=>by induction q using P.casesOn <;> simp [T.get,O4]⟩
 | .h,.node l _ r,o,k,h=>⟨_,by simpa [T.setK] using h,λq=>by induction q using P.casesOn <;> simp [T.get]⟩
 | .o p,.nil,o,k,h=>by
  refine Q3 (Qr (p:=p) (t:=.nil) (o:=o) (by simpa [T.setK] using h)) ?_;intro t' h1 h2;exact Z0 _ h1 (λq=>by induction q using P.casesOn <;> simp [T.get,h2,O4])
 | .o p,.node l v r,o,k,h=>by
  refine Q3 (Qr (p:=p) (t:=l) (o:=o) (by simpa [T.setK] using h)) ?_;intro t' h1 h2;exact Z0 _ h1 (λq=>by induction q using P.casesOn <;> simp [T.get,h2])
 | .i p,.nil,o,k,h=>by
  refine Q3 (Qr (p:=p) (t:=.nil) (o:=o) (by simpa [T.setK] using h)) ?_;intro t' h1 h2;exact Z0 _ h1 (λq=>by induction q using P.casesOn <;> simp [T.get,h2,O4])
 | .i p,.node l v r,o,k,h=>by
  refine Q3 (Qr (p:=p) (t:=r) (o:=o) (by simpa [T.setK] using h)) ?_;intro t' h1 h2;exact Z0 _ h1 (λq=>by induction q using P.casesOn <;> simp [T.get,h2])
noncomputable def P.val:P->Nat
 | .h=>1
 | .o p=>2*p.val
 | .i p=>2*p.val+1
theorem Ov:∀ {p:P}{k:P->R},p.succK k=true->∃ q,q.val=p.val+1/\k q=true
 | .h,_,h=>⟨.o .h,rfl,h⟩
 | .o p,_,h=>⟨.i p,rfl,h⟩
 | .i p,k,h=>by
  refine Q3 (Ov (p:=p) (k:=λq=>k (.o q)) (by simpa [P.succK] using h)) ?_;intro q h1 h2;exact Z0 (.o q) (by simp [P.val,h1];lia) h2
noncomputable def Y6 {α:Type}:List (Nat × α)->Nat->Option α
 | [],_=>none
 | (m,v) :: r,n=>if m=n then some v else Y6 r n
theorem Z8 {a b:Nat}:Nat.beq a b=true↔a=b:=⟨Nat.eq_of_beq_eq_true,λh=>by subst h;exact Nat.beq_refl a⟩
theorem J3 {a b:Nat}(h:Nat.beq a b=false):a≠b:=λe=>by rw [Z8.mpr e] at h;cases h
theorem Ym {α:Type}:∀ {es:List (Nat × α)}{n:Nat}{k:α->R}{d:Unit->R},V6 es n k d=true->(∃ v,Y6 es n=some v/\k v=true)\/(Y6 es n=none/\d ()=true)
 | [],_,_,_,h=>.inr ⟨rfl,h⟩
 | (m,v) :: r,n,k,d,h=>by
  have h:@Bool.rec (λU=>R) (V6 r n k d) (k v) (Nat.beq m n)=true:=h;cases q:Nat.beq m n with
  | true=>rw [q] at h;exact .inl ⟨v,if_pos (Z8.mp q),h⟩
  | false =>
   rw [q] at h;have e:Y6 ((m,v) :: r) n=Y6 r n:=if_neg (J3 q);rw [e];exact Ym h
theorem G0 {α:Type}{es:List (Nat × α)}{n:Nat}{k:α->R}(h:V6 es n k (λU=>false)=true):∃ v,Y6 es n=some v/\k v=true:=by
 rcases Ym h with x | ⟨_,x⟩
 ·exact x
 ·cases x
theorem Mg {α:Type}:∀ {es:List (Nat × α)}{n:Nat}{v:α}{k:List (Nat × α)->R},setA es n v k=true->∃ es',k es'=true/\(∀ m,Y6 es' m=if m=n then some v else Y6 es m) /\
  es'.length=if (Y6 es n).isSome then es.length else es.length+1
 | [],n,v,k,h=>⟨_,h,λm=>by simp [Y6,eq_comm],by simp [Y6]⟩
 | (m,w) :: r,n,v,k,h=>by
  have h:@Bool.rec (λU=>R) (setA r n v λr'=>k ((m,w) :: r')) (k ((m,v) :: r)) (Nat.beq m n)=true:=h;cases q:Nat.beq m n <;> rw [q] at h
  rotate_left
  ·have q:=Z8.mp q
   subst q;exact J6 _ h (λx=>by simp only [Y6,eq_comm];split <;> simp) (by simp [Y6])
  ·refine K0 (Mg h) ?_;intro es' h1 h2 h3
   have q:=J3 q;refine J6 _ h1 (λx=>?_) (by simp only [Y6,q,if_false,List.length_cons,h3];split <;> rfl);simp only [Y6,h2]
   by_cases e:m=x
   ·subst e;simp [q]
   ·simp [e]
theorem Ow {α:Type}:∀ {xs:List α}{v:α}{k:List α->R},Cg xs v k=true->k (xs++[v])=true
 | [],_,_,h=>h
 | x :: r,v,k,h=>by simpa using Ow (xs:=r) (v:=v) (k:=λr'=>k (x :: r')) h
theorem Uv {α:Type}:∀ {xs ys:List α}{k:List α->R},Xk xs ys k=true->k (xs++ys)=true
 | [],_,_,h=>h
 | x :: r,ys,k,h=>by simpa using Uv (xs:=r) (ys:=ys) (k:=λr'=>k (x :: r')) h
theorem I7 {α:Type}:∀ {xs:List α}{n:Nat}{k:α->R},Dw xs n k=true->∃ x,xs[n]?=some x/\k x=true
 | [],_,_,h=>by simp [Dw] at h
 | x :: _,0,_,h=>⟨x,rfl,h⟩
 | _ :: r,n+1,_,h=>by simpa using I7 (xs:=r) (n:=n) h
theorem Ox {α:Type}:∀ {xs:List α}{n:Nat}{k:List α->R},Q0g xs n k=true->k (xs.take n)=true
 | _,0,_,h=>by unfold Q0g at h;exact h
 | [],n+1,_,h=>h
 | x :: r,n+1,k,h=>by simpa using Ox (xs:=r) (n:=n) (k:=λr'=>k (x :: r')) h
theorem Oy {α:Type}:∀ {xs:List α}{n:Nat}{k:List α->R},Q0h xs n k=true->k (xs.drop n)=true
 | _,0,_,h=>by unfold Q0h at h;exact h
 | [],n+1,_,h=>h
 | x :: r,n+1,k,h=>by simpa using Oy (xs:=r) (n:=n) (k:=k) h
theorem Yn {α:Type}:∀ {xs:List α}{k:Nat->R},Re xs k=true->k xs.length=true
 | [],_,h=>h
 | _ :: r,k,h=>by simpa using Yn (xs:=r) (k:=λn=>k (n+1)) h
theorem Cu {α:Type}{xs:List α}:∀ {n:Nat}{k:List α->R},repK xs n k=true->k (List.replicate n xs).flatten=true
 | 0,_,h=>by unfold repK at h;exact h
 | n+1,k,h=>by
  have:=Cu (n:=n) (k:=λr=>Xk xs r k) h
  simpa [List.replicate_succ] using Uv this
theorem D3 {α:Type}:∀ {xs:List α}{n:Nat}{k:Unit->R},S6 xs n k=true->xs.length<=n/\k ()=true
 | [],_,_,h=>⟨Nat.zero_le _,h⟩
 | _ :: _,0,_,h=>by first | exact ff h | cases h
 | _ :: r,n+1,k,h=>by
  have:=D3 (xs:=r) (n:=n) (k:=k) h;exact ⟨by simpa using this.1,this.2⟩
theorem E4 {n:Nat}{k:Nat->R}(h:Gk n k=true):k n=true:=by induction n using Nat.casesAuxOn <;> exact h
theorem O5 {i:Int}{k:Int->R}(h:P0 i k=true):k i=true:=by
 induction i using Int.casesOn with
 | ofNat n=>exact E4 (k:=λn=>k (.ofNat n)) h
 | negSucc n=>exact E4 (k:=λn=>k (.negSucc n)) h
theorem E5 {a b:Int}:ltI a b=decide (a<b):=by
 induction a using Int.casesOn with
 | ofNat m=>induction b using Int.casesOn with
  | ofNat n =>
   show Nat.blt m n=_
   cases h:Nat.blt m n with
   | true=>have:m<n:=Nat.le_of_ble_eq_true h;exact (decide_eq_true (by show (m:Int)<n;lia)).symm
   | false =>
    have:¬ m<n:=λq=>by have:=Nat.ble_eq_true_of_le (show m+1<=n from q);unfold Nat.blt at h;rw [this] at h;cases h
    exact (decide_eq_false (by show ¬ (m:Int)<n;lia)).symm
  | negSucc n=>exact (decide_eq_false (by show ¬ ((m:Int)<Int.negSucc n);lia)).symm
 | negSucc m=>induction b using Int.casesOn with
  | ofNat n=>exact (decide_eq_true (by show Int.negSucc m<(n:Int);lia)).symm
  | negSucc n =>
   show Nat.blt n m=_
   cases h:Nat.blt n m with
   | true=>have:n<m:=Nat.le_of_ble_eq_true h;exact (decide_eq_true (by lia)).symm
   | false =>
    have:¬ n<m:=λq=>by have:=Nat.ble_eq_true_of_le (show n+1<=m from q);unfold Nat.blt at h;rw [this] at h;cases h
    exact (decide_eq_false (by lia)).symm
theorem Mh {a b:Int}:leI a b=decide (a<=b):=by
 have bl:∀ m n:Nat,Nat.ble m n=decide (m<=n):=λm n=>by
  cases h:Nat.ble m n with
  | true=>exact (decide_eq_true (Nat.le_of_ble_eq_true h)).symm
  | false=>exact (decide_eq_false λq=>by rw [Nat.ble_eq_true_of_le q] at h;cases h).symm
 induction a using Int.casesOn with
 | ofNat m=>induction b using Int.casesOn with
  | ofNat n=>show Nat.ble m n=_;rw [bl];exact decide_eq_decide.mpr (by show m<=n↔(m:Int)<=n;lia)
  | negSucc n=>exact (decide_eq_false (by show ¬ ((m:Int)<=Int.negSucc n);lia)).symm
 | negSucc m=>induction b using Int.casesOn with
  | ofNat n=>exact (decide_eq_true (by show Int.negSucc m<=(n:Int);lia)).symm
  | negSucc n=>show Nat.ble n m=_;rw [bl];exact decide_eq_decide.mpr (by lia)
theorem Mi {a b:Int}:eqI a b=decide (a=b):=by
 induction a using Int.casesOn with
 | ofNat m=>induction b using Int.casesOn with
  | ofNat n =>
   show Nat.beq m n=_
   cases h:Nat.beq m n with
   | true=>exact (decide_eq_true (by rw [Z8.mp h])).symm
   | false=>exact (decide_eq_false (λq=>J3 h (Int.ofNat.inj q))).symm
  | negSucc n=>exact (decide_eq_false (λq=>by cases q)).symm
 | negSucc m=>induction b using Int.casesOn with
  | ofNat n=>exact (decide_eq_false (λq=>by cases q)).symm
  | negSucc n =>
   show Nat.beq m n=_
   cases h:Nat.beq m n with
   | true=>exact (decide_eq_true (by rw [Z8.mp h])).symm
   | false=>exact (decide_eq_false (λq=>J3 h (Int.negSucc.inj q))).symm
section
structure Nest where
 params:Arguments
 body:List Stmt
 scope:Scope
structure Wd where
 prog:Program
 w:World
 h₀:Heap
 K:Frag
 tab:Nat->Str
 fa:P->Addr
 ca:Nat->Addr
 cN:Nat
 names:List Nat
 nest:P->Option Nest
 tc:Addr
 tp:Addr
abbrev Mp:=P->Option (Addr × Addr)
section
variable (W:Wd)(μ:Mp)
inductive VR:V->Value->Prop
 | none:VR .none .none
 | bool (b:Bool):VR (.bool b) (.bool b)
 | int (i:Int)(t:Tok):VR (.int i) (.int i t)
 | str (k:Nat)(t:Tok):VR (.str k) (.str (W.tab k) t)
 | ref {p:P}{a d:Addr}(h:μ p=some (a,d)):VR (.ref p) (.ref a)
 | fn (p:P):VR (.fn p) (.ref (W.fa p))
 | cls (c:Nat):VR (.cls c) (.ref (W.ca c))
inductive VRs:List V->List Value->Prop
 | nil:VRs [] []
 | cons {v:V}{x:Value}{vs:List V}{xs:List Value}(h:VR W μ v x)(t:VRs vs xs):VRs (v :: vs) (x :: xs)
inductive KVs:List (Nat × V)->List (Str × Value)->Prop
 | nil:KVs [] []
 | cons {k:Nat}{v:V}{x:Value}{vs:List (Nat × V)}{xs:List (Str × Value)}(h:VR W μ v x)(t:KVs vs xs):KVs ((k,v) :: vs) ((W.tab k,x) :: xs)
noncomputable def InsR (es:List (Nat × V))(des:List DictEntry):Prop :=
 (∀ e∈des,∃ n t,e.key=.str n t)/\des.length=es.length /\
 ∀ k,match Y6 es k with
  | some v=>∃ x,getL (W.tab k) des=some (some x)/\VR W μ v x
  | none=>getL (W.tab k) des=some none
inductive OR (h:Heap)(a d:Addr):O->Prop
 | list {xs:List V}{its:Array Value}(hl:h.PlainList a its)(hr:VRs W μ xs its.toList)(hz:xs.length<=1000):OR h a d (.list xs)
 | tup {xs:List V}{its:Array Value}(hl:h.get? a=some { cls:=.type "tuple",data:=.seq its })(hr:VRs W μ xs its.toList)(hz:xs.length<=1000):OR h a d (.tup xs)
 | dict {es:List (Nat × V)}{kvs:List (Str × Value)}(hd:h.DictOf (strKind W.prog W.w) a kvs)(hr:KVs W μ es kvs)(hz:es.length<=1000):OR h a d (.dict es)
 | inst {c:Nat}{es:List (Nat × V)}{des:List DictEntry}{n:Nat}(hc:c<W.cN)(hi:h.get? a=some (instObj (W.ca c) d))(hd:h.get? d=some (dictOf des n))(hr:InsR W μ es des)(hz:es.length<=1000)(ne:a≠d):OR h a d (.inst c es)
 | clos {f:P}{cs:List (Nat × P)}{fd:FuncData}{nd:Nest}(ho:h.get? a=some { cls:=.type "function",data:=.func fd })(hn:W.nest f=some nd)(hp:fd.params=nd.params)(hb:fd.body=.stmts nd.body)(hsc:fd.scope=nd.scope)(hdf:fd.defaults=.none)(hgl:fd.globals=mainGlobals)(hbl:fd.builtins=builtinsNs)
   (hcd:fd.code=.ref d)(hrec:∃ o vs t,h.get? d=some o/\o.data=.fields vs/\vs[1]?=some (.str fd.qualname t))(hcs:∀ k p,Y6 cs k=some p->∃ x y,μ p=some (x,y)/\fd.closure.lookup (W.tab k)=some x)(hfr:∀ n,fd.scope.names.lookup n=some .free->(fd.closure.lookup n).isSome=true):OR h a d (.clos f cs)
 | tab (hP:h.get? a=some (tabObj #[]))(ha:a=W.tp):OR h a d (.clos L8 [])
 | junk (hl:h.get? a≠none):OR h a d (.clos X3 [])
 | done (hP:∃ vs,h.get? a=some (tabObj vs))(ha:a=W.tp):OR h a d (.clos D0 [])
 | cell0 (hc:h.IsCell a none):OR h a d (.cell none)
 | cell1 {v:V}{x:Value}(hc:h.IsCell a (some x))(hr:VR W μ v x):OR h a d (.cell (some v))
end
variable {W:Wd}
section
variable {μ:Mp}
theorem VR.noneE {m:∀ y,VR W μ .none y->Prop}(none:m .none .none){y:Value}(h:VR W μ .none y):m y h:=by cases h;exact none
theorem VR.boolE {b:Bool}{m:∀ y,VR W μ (.bool b) y->Prop}(bool:m (.bool b) (.bool b)){y:Value}(h:VR W μ (.bool b) y):m y h:=by cases h;exact bool
theorem VR.intE {i:Int}{m:∀ y,VR W μ (.int i) y->Prop}(int:∀ t,m (.int i t) (.int i t)){y:Value}(h:VR W μ (.int i) y):m y h:=by cases h;exact int _
theorem VR.strE {k:Nat}{m:∀ y,VR W μ (.str k) y->Prop}(str:∀ t,m (.str (W.tab k) t) (.str k t)){y:Value}(h:VR W μ (.str k) y):m y h:=by cases h;exact str _
theorem VR.refE {p:P}{m:∀ y,VR W μ (.ref p) y->Prop}(ref:∀ {a d}(h:μ p=some (a,d)),m (.ref a) (.ref h)){y:Value}(h:VR W μ (.ref p) y):m y h:=by cases h with | ref e=>exact ref e
theorem VR.fnE {p:P}{m:∀ y,VR W μ (.fn p) y->Prop}(fn:m (.ref (W.fa p)) (.fn p)){y:Value}(h:VR W μ (.fn p) y):m y h:=by cases h;exact fn
theorem VR.clsE {c:Nat}{m:∀ y,VR W μ (.cls c) y->Prop}(cls:m (.ref (W.ca c)) (.cls c)){y:Value}(h:VR W μ (.cls c) y):m y h:=by cases h;exact cls
theorem VRs.nilE {m:∀ y,VRs W μ [] y->Prop}(nil:m [] .nil){y:List Value}(h:VRs W μ [] y):m y h:=by cases h;exact nil
theorem VRs.consE {v:V}{vs:List V}{m:∀ y,VRs W μ (v :: vs) y->Prop}(cons:∀ {x xs}(h:VR W μ v x)(t:VRs W μ vs xs),m (x :: xs) (.cons h t)){y:List Value}(h:VRs W μ (v :: vs) y):m y h:=by cases h with | cons a b=>exact cons a b
variable {h:Heap}{a d:Addr}
theorem OR.listE {xs:List V}{m:OR W μ h a d (.list xs)->Prop}(list:∀ {its:Array Value}(hl:h.PlainList a its)(hr:VRs W μ xs its.toList)(hz:xs.length<=1000),m (.list hl hr hz))(o:OR W μ h a d (.list xs)):m o:=by cases o with | list x y z=>exact list x y z
theorem OR.tupE {xs:List V}{m:OR W μ h a d (.tup xs)->Prop}(tup:∀ {its:Array Value}(hl:h.get? a=some { cls:=.type "tuple",data:=.seq its })(hr:VRs W μ xs its.toList)(hz:xs.length<=1000),m (.tup hl hr hz))(o:OR W μ h a d (.tup xs)):m o:=by cases o with | tup x y z=>exact tup x y z
theorem OR.dictE {es:List (Nat × V)}{m:OR W μ h a d (.dict es)->Prop}(dict:∀ {kvs:List (Str × Value)}(hd:h.DictOf (strKind W.prog W.w) a kvs)(hr:KVs W μ es kvs)(hz:es.length<=1000),m (.dict hd hr hz))(o:OR W μ h a d (.dict es)):m o:=by cases o with | dict x y z=>exact dict x y z
theorem OR.instE {c:Nat}{es:List (Nat × V)}{m:OR W μ h a d (.inst c es)->Prop}(inst:∀ {des:List DictEntry}{n:Nat}(hc:c<W.cN)(hi:h.get? a=some (instObj (W.ca c) d))(hd:h.get? d=some (dictOf des n))(hr:InsR W μ es des)(hz:es.length<=1000)(ne:a≠d),m (.inst hc hi hd hr hz ne))(o:OR W μ h a d (.inst c es)):m o:=by cases o with | inst x y z u v w=>exact inst x y z u v w
end
noncomputable def G9 (μ:Mp)(b:Addr):Prop:=∀ p a d,μ p=some (a,d)->b≠a/\b≠d
structure Inv (W:Wd)(μ:Mp)(st:St)(s:Shared):Prop where
 keep:∀ b o,W.h₀.get? b=some o->s.heap.get? b=some o
 fresh:∀ p a d,μ p=some (a,d)->W.h₀.get? a=none/\W.h₀.get? d=none
 objs:∀ p o,st.t.get p=some o->∃ a d,μ p=some (a,d)/\OR W μ s.heap a d o
 lt:∀ p a d,μ p=some (a,d)->p.val<st.n.val/\s.heap.get? a≠none/\s.heap.get? d≠none
 inj:∀ p q a d b e,μ p=some (a,d)->μ q=some (b,e)->p≠q->a≠b/\a≠e/\d≠b/\d≠e
structure Ext (μ:Mp)(s:Shared)(μ':Mp)(s':Shared):Prop where
 sub:∀ p x,μ p=some x->μ' p=some x
 new:∀ p a d,μ' p=some (a,d)->μ p=none->(s.heap.get? a=none/\s.heap.get? d=none)/\G9 μ a/\G9 μ d
 keep:∀ b o,s.heap.get? b=some o->G9 μ b->s'.heap.get? b=some o
 rest:s'={ s with heap:=s'.heap,toks:=s'.toks,drawn:=s'.drawn }
theorem Ext.refl (μ:Mp)(s:Shared):Ext μ s μ s:=⟨λU U h=>h,λU U U h q=>(by rw [h] at q;exact sN q),λU U h U=>h,rfl⟩
theorem Ext.toks (μ:Mp)(s:Shared)(t:Nat):Ext μ s μ { s with toks:=t }:=⟨λU U h=>h,λU U U h q=>(by rw [h] at q;exact sN q),λU U h U=>h,rfl⟩
theorem Y3 {h h':Heap}{a:Addr}(k:∀ o,h.get? a=some o->h'.get? a=some o)(n:h'.get? a=none):h.get? a=none:=by
 cases q:h.get? a with
 | none=>rfl
 | some o=>rw [k o q] at n;exact sN n
theorem Ext.trans {μ₁ μ₂ μ₃:Mp}{s₁ s₂ s₃:Shared}(a:Ext μ₁ s₁ μ₂ s₂)(b:Ext μ₂ s₂ μ₃ s₃):Ext μ₁ s₁ μ₃ s₃:=by
 have fr:∀ c,G9 μ₂ c->G9 μ₁ c:=λc f p x d m=>f p x d (a.sub _ _ m);refine ⟨λp x h=>b.sub p x (a.sub p x h),λp x d h q=>?_,λc o h f=>?_,by rw [b.rest,a.rest]⟩
 ·cases m:μ₂ p with
  | none =>
   have:=b.new p x d h m;exact ⟨⟨Y3 (λo e=>a.keep x o e (fr _ this.2.1)) this.1.1,Y3 (λo e=>a.keep d o e (fr _ this.2.2)) this.1.2⟩,fr _ this.2.1,fr _ this.2.2⟩
  | some y=>have e:=b.sub p y m;rw [h] at e;induction e using J8;exact a.new p x d m q
 ·refine b.keep c o (a.keep c o h f) λp x d m=>?_
  cases q:μ₁ p with
  | some y=>have e:=a.sub p y q;rw [m] at e;induction e using J8;exact f p x d q
  | none=>have:=(a.new p x d m q).1;exact ⟨λe=>(by have:=this.1;rw [<-e,h] at this;exact sN this),λe=>(by have:=this.2;rw [<-e,h] at this;cases this)⟩
theorem VR.mono {μ μ':Mp}(h:∀ p x,μ p=some x->μ' p=some x){v:V}{x:Value}(r:VR W μ v x):VR W μ' v x:=by
 cases r with
 | ref e=>exact .ref (h _ _ e)
 | none=>exact .none | bool=>exact .bool _ | int=>exact .int .. | str=>exact .str .. | fn=>exact .fn _ | cls=>exact .cls _
theorem VRs.mono {μ μ':Mp}(h:∀ p x,μ p=some x->μ' p=some x){v:List V}{x:List Value}(r:VRs W μ v x):VRs W μ' v x:=by
 induction r with
 | nil=>exact .nil
 | cons a b ih=>exact .cons (a.mono h) ih
theorem KVs.mono {μ μ':Mp}(h:∀ p x,μ p=some x->μ' p=some x){v:List (Nat × V)}{x:List (Str × Value)}(r:KVs W μ v x):KVs W μ' v x:=by
 induction r with
 | nil=>exact .nil
 | cons a b ih=>exact .cons (a.mono h) ih
theorem InsR.mono {μ μ':Mp}(h:∀ p x,μ p=some x->μ' p=some x){es:List (Nat × V)}{des:List DictEntry}(r:InsR W μ es des):InsR W μ' es des :=
 ⟨r.1,r.2.1,λk=>by
  have:=r.2.2 k;cases q:Y6 es k with
  | some v=>rw [q] at this;exact let ⟨x,a,b⟩:=this;⟨x,a,b.mono h⟩
  | none=>rw [q] at this;exact this⟩
theorem VRs.length {μ:Mp}{v:List V}{x:List Value}(r:VRs W μ v x):v.length=x.length:=by
 induction r with
 | nil=>rfl
 | cons _ _ ih=>exact congrArg Nat.succ ih
theorem VRs.nth {μ:Mp}:∀ {vs:List V}{xs:List Value}{n:Nat}{v:V},VRs W μ vs xs->vs[n]?=some v->∃ x,xs[n]?=some x/\VR W μ v x
 | _,_,_,_,.nil,e=>by simp at e
 | _,_,0,_,.cons a _,e=>by cases e;exact Z0 _ rfl a
 | _,_,n+1,_,.cons _ b,e=>by simpa using b.nth (n:=n) (by simpa using e)
theorem VRs.nth_none {μ:Mp}{vs:List V}{xs:List Value}{n:Nat}(h:VRs W μ vs xs)(e:vs[n]?=none):xs[n]?=none:=by
 rw [List.getElem?_eq_none_iff] at *;rw [<-h.length];exact e
theorem VRs.append {μ:Mp}{a b:List V}{x y:List Value}(r:VRs W μ a x)(h:VRs W μ b y):VRs W μ (a++b) (x++y):=by
 induction r with
 | nil=>exact h
 | cons a b ih=>exact .cons a ih
theorem VRs.one {μ:Mp}{v:V}{x:Value}(h:VR W μ v x):VRs W μ [v] [x]:=.cons h .nil
theorem VRs.take {μ:Mp}:∀ {n:Nat}{a:List V}{x:List Value},VRs W μ a x->VRs W μ (a.take n) (x.take n)
 | 0,_,_,_=>by simpa using VRs.nil
 | _+1,_,_,.nil=>by simpa using VRs.nil
 | n+1,_,_,.cons a b=>by simpa using VRs.cons a (b.take (n:=n))
theorem VRs.drop {μ:Mp}:∀ {n:Nat}{a:List V}{x:List Value},VRs W μ a x->VRs W μ (a.drop n) (x.drop n)
 | 0,_,_,h=>by simpa using h
 | _+1,_,_,.nil=>by simpa using VRs.nil
 | n+1,_,_,.cons a b=>by simpa using b.drop (n:=n)
theorem VRs.rep {μ:Mp}{a:List V}{x:List Value}(h:VRs W μ a x):∀ n,VRs W μ (List.replicate n a).flatten (List.replicate n x).flatten
 | 0=>.nil
 | n+1=>by simpa [List.replicate_succ] using h.append (h.rep n)
theorem OR.at {μ μ':Mp}{h h':Heap}{a d:Addr}{o:O}(r:OR W μ h a d o)(hs:∀ p x,μ p=some x->μ' p=some x)(ha:∀ x,h.get? a=some x->h'.get? a=some x)(hd:∀ x,h.get? d=some x->h'.get? d=some x):OR W μ' h' a d o:=by
 cases r with
 | list hl hr hz=>exact .list (hl.at ha) (hr.mono hs) hz
 | tup hl hr hz=>exact .tup (ha _ hl) (hr.mono hs) hz
 | dict hx hr hz=>obtain ⟨o,es,ep,e,r⟩:=hx;exact .dict ⟨o,es,ep,ha o e,r⟩ (hr.mono hs) hz
 | inst hc hi hx hr hz ne=>exact .inst hc (ha _ hi) (hd _ hx) (hr.mono hs) hz ne
 | clos ho hn hp hb hsc hdf hgl hbl hcd hrec hcs hfr=>refine X3_2 hrec ?_;intro o vs t e r;exact .clos (ha _ ho) hn hp hb hsc hdf hgl hbl hcd ⟨o,vs,t,hd o e,r⟩ (λk p q=>let ⟨x,y,m,z⟩:=hcs k p q;⟨x,y,hs _ _ m,z⟩) hfr
 | tab hP hx=>exact .tab (ha _ hP) hx
 | done hP hx=>refine J2 hP ?_;intro vs e;exact .done ⟨vs,ha _ e⟩ hx
 | junk hl =>
  refine .junk λq=>?_;cases e:h.get? a with
  | none=>exact hl e
  | some o=>rw [ha o e] at q;exact sN q
 | cell0 hc=>obtain ⟨o,e,r⟩:=hc;exact .cell0 ⟨o,ha o e,r⟩
 | cell1 hc hr=>obtain ⟨o,e,r⟩:=hc;exact .cell1 ⟨o,ha o e,r⟩ (hr.mono hs)
theorem Z1 {h:Heap}{a:Addr}{x:Obj}(e:h.get? a=some x):h.get? a≠none:=by rw [e];exact λq=>nomatch q
theorem OR.live {μ:Mp}{h:Heap}{a d:Addr}{o:O}(r:OR W μ h a d o):h.get? a≠none:=by
 cases r with
 | list hl=>obtain ⟨_,e⟩:=hl;exact Z1 e
 | tup hl=>exact Z1 hl
 | dict hx=>obtain ⟨o,es,ep,e,_⟩:=hx;exact Z1 e
 | inst _ hi=>exact Z1 hi
 | clos ho=>exact Z1 ho
 | tab hP=>exact Z1 hP
 | done hP=>refine J2 hP ?_;intro _ e;exact Z1 e
 | junk hl=>exact hl
 | cell0 hc=>obtain ⟨o,e,_⟩:=hc;exact Z1 e
 | cell1 hc=>obtain ⟨o,e,_⟩:=hc;exact Z1 e
theorem Inv.toks {μ:Mp}{st:St}{s:Shared}(I:Inv W μ st s)(t:Nat):Inv W μ st { s with toks:=t }:=⟨I.keep,I.fresh,I.objs,I.lt,I.inj⟩
theorem Inv.other {μ:Mp}{st:St}{s:Shared}(I:Inv W μ st s){h':Heap}{t:Nat}(hk:∀ b o,s.heap.get? b=some o->(W.h₀.get? b≠none\/¬ G9 μ b)->h'.get? b=some o):Inv W μ st { s with heap:=h',toks:=t }:=by
 refine ⟨λb o e=>hk b o (I.keep b o e) (.inl (by rw [e];exact λq=>nomatch q)),I.fresh,λp o e=>?_,λp a d e=>?_,I.inj⟩
 ·refine Q7 (I.objs p o e) ?_;intro a d m r
  exact Q9 a d m (r.at (λU U h=>h) (λx e=>hk a x e (.inr λf=>(f p a d m).1 rfl)) λx e=>hk d x e (.inr λf=>(f p a d m).2 rfl))
 ·have:=I.lt p a d e
  refine ⟨this.1,λq=>this.2.1 (Y3 (λo h=>hk a o h (.inr λf=>(f p a d e).1 rfl)) q),λq=>this.2.2 (Y3 (λo h=>hk d o h (.inr λf=>(f p a d e).2 rfl)) q)⟩
noncomputable def put (μ:Mp)(p:P)(x:Addr × Addr):Mp:=λq=>if q=p then some x else μ q
set_option tactic.hygienic true in
theorem Mj {μ:Mp}{p:P}{x:Addr × Addr}(h:μ p=none):∀ q y,μ q=some y->put μ p x q=some y:=λq y e=>by
 unfold put;split
 ·rename_i z;subst z;rw [h] at e;exact nS e
 ·exact e
theorem Inv.unused {μ:Mp}{st:St}{s:Shared}(I:Inv W μ st s):μ st.n=none:=by
 cases h:μ st.n with
 | none=>rfl
 | some x=>have:=(I.lt st.n x.1 x.2 h).1;lia
structure AllocR (st:St)(o:O)(p:P)(st':St):Prop where
 isN:p=st.n
 n:st'.n.val=st.n.val+1
 get:∀ q,st'.t.get q=if q=p then some o else st.t.get q
theorem H4 {st:St}{o:O}{k:P->St->R}(hk:V9 st o k=true):∃ p st',k p st'=true/\AllocR st o p st':=by
 obtain ⟨tt,n⟩:=st;refine Q3 (Qr (show tt.setK n o (λt'=>n.succK λn'=>k n ⟨t',n'⟩)=true from hk)) ?_;intro t' h1 h2;refine Q3 (Ov h1) ?_;intro n' h3 h4;exact Q9 n ⟨t',n'⟩ h4 ⟨rfl,h3,h2⟩
set_option tactic.hygienic true in
theorem Inv.alloc {μ:Mp}{st st':St}{s:Shared}(I:Inv W μ st s){o:O}{p:P}{a d:Addr}{h':Heap}{t:Nat}(hk:AllocR st o p st')
  (keep:∀ b x,s.heap.get? b=some x->h'.get? b=some x)
  (ha:s.heap.get? a=none)(hd:s.heap.get? d=none)(la:h'.get? a≠none)(ld:h'.get? d≠none)(r:∀ μ',(∀ p x,μ p=some x->μ' p=some x)->OR W μ' h' a d o) :
  ∃ μ',Ext μ s μ' { s with heap:=h',toks:=t }/\Inv W μ' st' { s with heap:=h',toks:=t }/\μ' p=some (a,d):=by
 obtain ⟨rfl,h3,h2⟩:=hk;obtain ⟨t',n'⟩:=st';have un:μ st.n=none:=I.unused;have sub:=Mj (x:=(a,d)) un;have z0:∀ b,s.heap.get? b=none->W.h₀.get? b=none:=λb e=>Y3 (λo h=>I.keep b o h) e;have nf:∀ b,s.heap.get? b=none->G9 μ b:=λb e p x y m=>⟨λq=>(I.lt p x y m).2.1 (q▸e),λq=>(I.lt p x y m).2.2 (q▸e)⟩;refine J6 (put μ st.n (a,d)) ⟨sub,λp x y e q=>?_,λb o e U=>keep b o e,rfl⟩ ⟨λb x e=>keep b x (I.keep b x e),λp x y e=>?_,λp x e=>?_,λp x y e=>?_,λp q x y z u e e' ne=>?_⟩ (by unfold put;rw [if_pos rfl])
 ·unfold put at e;split at e
  ·induction e using K6;exact ⟨⟨ha,hd⟩,nf _ ha,nf _ hd⟩
  ·rw [q] at e;exact nS e
 ·unfold put at e;split at e
  ·induction e using K6;exact ⟨z0 _ ha,z0 _ hd⟩
  ·exact I.fresh p x y e
 ·rw [h2] at e;split at e
  ·rename_i q;subst q;induction e using J8;exact Q9 a d (by unfold put;rw [if_pos rfl]) (r _ sub)
  ·refine Q7 (I.objs p _ e) ?_;intro x y m rr
   exact Q9 x y (sub _ _ m) (rr.at sub (λo e=>keep _ _ e) λo e=>keep _ _ e)
 ·unfold put at e;split at e
  ·rename_i q;subst q;induction e using K6;exact ⟨by dsimp only at h3 ⊢;rw [h3];lia,la,ld⟩
  ·have:=I.lt p x y e;exact ⟨by have:=this.1;dsimp only at h3 ⊢;rw [h3];lia,λq=>this.2.1 (Y3 (keep x) q),λq=>this.2.2 (Y3 (keep y) q)⟩
 ·unfold put at e e'
  split at e
  ·induction e using K6
   split at e'
   ·rename_i q1 q2;exact absurd (q1.trans q2.symm) ne
   ·have l:=nf _ ha q z u e';have l':=nf _ hd q z u e';exact ⟨l.1,l.2,l'.1,l'.2⟩
  ·split at e'
   ·induction e' using K6;have l:=nf _ ha p x y e;have l':=nf _ hd p x y e;exact ⟨l.1.symm,l'.1.symm,l.2.symm,l'.2.symm⟩
   ·exact I.inj p q x y z u e e' ne
structure SetR (st:St)(p:P)(o:O)(st':St):Prop where
 n:st'.n=st.n
 get:∀ q,st'.t.get q=if q=p then some o else st.t.get q
theorem I8 {st:St}{p:P}{o:O}{k:St->R}(hk:Rc st p o k=true):∃ st',k st'=true/\SetR st p o st':=by
 obtain ⟨tt,n⟩:=st;refine Q3 (Qr (show tt.setK p o (λt'=>k ⟨t',n⟩)=true from hk)) ?_;intro t' h1 h2;exact Z0 ⟨t',n⟩ h1 ⟨rfl,h2⟩
set_option tactic.hygienic true in
theorem Inv.set {μ:Mp}{st st':St}{s:Shared}(I:Inv W μ st s){p:P}{o:O}{a d b:Addr}{h':Heap}{t:Nat}(hk:SetR st p o st')(m:μ p=some (a,d))(hb:b=a\/(b=d/\h'.get? d≠none))
  (hs:Heap.SameBut b s.heap h')(r:OR W μ h' a d o) :
  Ext μ s μ { s with heap:=h',toks:=t }/\Inv W μ st' { s with heap:=h',toks:=t }:=by
 obtain ⟨hn,h2⟩:=hk;have hl:h'.get? d≠none:=by
  by_cases q:d=b
  ·rcases hb with rfl | ⟨rfl,z⟩
   ·rw [q];exact r.live
   ·exact z
  ·rw [hs.2 d q];exact (I.lt p a d m).2.2
 refine ⟨⟨λU U h=>h,λU U U h q=>(by rw [h] at q;exact sN q),λc x e f=>?_,rfl⟩,⟨λc x e=>?_,I.fresh,λq x e=>?_,λq x y e=>?_,I.inj⟩⟩
 ·have:=f p a d m
  rw [hs.2 c (by rcases hb with rfl | ⟨rfl,_⟩ <;> simp_all)];exact e
 ·have:=I.fresh p a d m
  rw [hs.2 c (by rintro rfl;rcases hb with rfl | ⟨rfl,_⟩ <;> simp_all)];exact I.keep c x e
 ·rw [h2] at e;split at e
  ·rename_i z;subst z;induction e using J8;exact Q9 a d m r
  ·rename_i z
   refine Q7 (I.objs q _ e) ?_;intro x' y' m' rr;have:=I.inj q p x' y' a d m' m z;refine Q9 x' y' m' (rr.at (λU U h=>h) (λo e=>?_) λo e=>?_)
   ·rw [hs.2 x' (by rcases hb with rfl | ⟨rfl,_⟩;exact this.1;exact this.2.1)];exact e
   ·rw [hs.2 y' (by rcases hb with rfl | ⟨rfl,_⟩;exact this.2.2.1;exact this.2.2.2)];exact e
 ·have l:=I.lt q x y e
  refine ⟨by rw [hn];exact l.1,?_,?_⟩
  ·by_cases z:q=p
   ·subst z;rw [e] at m;induction m using K6;exact r.live
   ·rw [hs.2 x (by have:=I.inj q p x y a d e m z;rcases hb with rfl | ⟨rfl,_⟩;exact this.1;exact this.2.1)];exact l.2.1
  ·by_cases z:q=p
   ·subst z;rw [e] at m;induction m using K6;exact hl
   ·rw [hs.2 y (by have:=I.inj q p x y a d e m z;rcases hb with rfl | ⟨rfl,_⟩;exact this.2.2.1;exact this.2.2.2)];exact l.2.2
theorem B0 {st:St}{p:P}{k:O->R}(h:X1 st p k=true):∃ o,st.t.get p=some o/\k o=true:=Yk (show st.t.getK p k=true from h)
set_option tactic.hygienic true in
theorem Y1 {st:St}{v:V}{k:P->O->R}(h:G2 st v k=true):∃ p o,v=.ref p/\st.t.get p=some o/\k p o=true:=by
 induction v using V.casesOn <;> first | exact ff h | (cases h;done) | skip
 rename_i p;refine Q3 (B0 (show X1 st p (k p)=true from h)) ?_;intro o a b;exact Q0e p o rfl a b
theorem Y7 {v:V}{k:Int->R}(h:K7 v k=true):∃ i,v=.int i/\k i=true:=by induction v using V.casesOn <;> first | exact ff h | (cases h;done) | exact ⟨_,rfl,h⟩
set_option tactic.hygienic true in
theorem L9 {v:V}{k:Nat->R}(h:C2 v k=true):∃ n:Nat,v=.int n/\k n=true:=by
 induction v using V.casesOn <;> first | exact ff h | (cases h;done) | skip
 rename_i i
 induction i using Int.casesOn with
 | ofNat n=>exact Z0 n rfl h
 | negSucc=>first | exact ff h | cases h
theorem X4 {v:V}{k:Nat->R}(h:S7 v k=true):∃ i,v=.str i/\k i=true:=by induction v using V.casesOn <;> first | exact ff h | (cases h;done) | exact ⟨_,rfl,h⟩
theorem B8 {o:O}{k:List V->R}(h:X2 o k=true):∃ xs,o=.list xs/\k xs=true:=by induction o using O.casesOn <;> first | exact ff h | (cases h;done) | exact ⟨_,rfl,h⟩
theorem V7 {vs:List V}{k:V->R}(h:one vs k=true):∃ v,vs=[v]/\k v=true:=by
 induction vs using List.casesOn with
 | nil=>first | exact ff h | cases h
 | cons v r=>induction r using List.casesOn with
  | nil=>exact Z0 v rfl h
  | cons=>first | exact ff h | cases h
theorem Q1b {vs:List V}{k:V->V->R}(h:two vs k=true):∃ v w,vs=[v,w]/\k v w=true:=by
 induction vs using List.casesOn with
 | nil=>first | exact ff h | cases h
 | cons v r=>induction r using List.casesOn with
  | nil=>first | exact ff h | cases h
  | cons w r=>induction r using List.casesOn with
   | nil=>exact Q9 v w rfl h
   | cons=>first | exact ff h | cases h
theorem I9 {o:O}{k:List V->R}(h:Jq o k=true):∃ xs,(o=.list xs\/o=.tup xs)/\k xs=true:=by induction o using O.casesOn <;> first | exact ff h | (cases h;done) | exact ⟨_,.inl rfl,h⟩ | exact ⟨_,.inr rfl,h⟩
end
section
variable {W:Wd}
abbrev Z3:Value->Shared->Prop:=λU U=>False
noncomputable def Run (W:Wd)(A:Around)(μ:Mp)(s:Shared){α:Type}(t:Sem α)(Q:Mp->Shared->α->Prop):Prop :=
 wpAny (model W.prog W.w) A t (λx s'=>∃ μ',Ext μ s μ' s'/\Q μ' s' x) Z3 s
theorem Run.mono {A:Around}{μ:Mp}{s:Shared}{α:Type}{m:Sem α}{P Q:Mp->Shared->α->Prop}(h:Run W A μ s m P)(k:∀ μ' s' a,Ext μ s μ' s'->P μ' s' a->Q μ' s' a):Run W A μ s m Q :=
 wpAny_mono h (λa s' ⟨μ',e,p⟩=>⟨μ',e,k μ' s' a e p⟩) λU U x=>x
theorem Run.step {A:Around}{μ:Mp}{s:Shared}{α:Type}{m:Sem α}{P:Mp->Shared->α->Prop}{T:α->Shared->Prop}(h:Run W A μ s m P)(k:∀ μ' s' a,Ext μ s μ' s'->P μ' s' a->T a s'):wpAny (model W.prog W.w) A m T Z3 s :=
 wpAny_mono h (λa s' ⟨μ',e,p⟩=>k μ' s' a e p) λU U x=>x
theorem Run.done {A:Around}{μ μ':Mp}{s s':Shared}{α:Type}{m:Sem α}{P Q:Mp->Shared->α->Prop}(h:Run W A μ' s' m P)(e:Ext μ s μ' s')(k:∀ μ'' s'' a,Ext μ s μ'' s''->P μ'' s'' a->Q μ'' s'' a):wpAny (model W.prog W.w) A m (λx s''=>∃ μ'',Ext μ s μ'' s''/\Q μ'' s'' x) Z3 s' :=
 wpAny_mono h (λa s'' ⟨μ'',e',p⟩=>⟨μ'',e.trans e',k μ'' s'' a (e.trans e') p⟩) λU U x=>x
theorem Run.fin {A:Around}{μ μ':Mp}{s s':Shared}{α:Type}{m:Sem α}{Q:Mp->Shared->α->Prop}(h:Run W A μ' s' m Q)(e:Ext μ s μ' s'):wpAny (model W.prog W.w) A m (λx s''=>∃ μ'',Ext μ s μ'' s''/\Q μ'' s'' x) Z3 s' :=
 h.done e λU U U U q=>q
structure EnvR (W:Wd)(μ:Mp)(s:Shared)(env:Env)(cs:Q4)(l:Loc):Prop where
 kind:env.scope.kind=.function
 glob:env.globals=mainGlobals
 blt:env.builtins=builtinsNs
 free:G9 μ env.locals
 new:W.h₀.get? env.locals=none
 ns:∃ m,s.heap.Ns env.locals m/\∀ k v,Y6 l k=some v->∃ x,m (W.tab k)=some x/\VR W μ v x
 cells:∀ k p,Y6 cs k=some p->(env.kindOf (W.tab k)=some .cell\/env.kindOf (W.tab k)=some .free)->∃ a d,μ p=some (a,d)/\env.cells.lookup (W.tab k)=some a
 full:∀ n,(env.kindOf n=some .cell\/env.kindOf n=some .free)->(env.cells.lookup n).isSome=true
theorem EnvR.ext {μ μ':Mp}{s s':Shared}{env:Env}{cs:Q4}{l:Loc}(N:EnvR W μ s env cs l)(e:Ext μ s μ' s'):EnvR W μ' s' env cs l:=by
 refine ⟨N.kind,N.glob,N.blt,λp a d m=>?_,N.new,?_,λk p h z=>let ⟨a,d,x,y⟩:=N.cells k p h z;⟨a,d,e.sub _ _ x,y⟩,N.full⟩
 ·cases q:μ p with
  | some y=>have z:=e.sub p y q;rw [m] at z;induction z using J8;exact N.free p a d q
  | none =>
   have z:=(e.new p a d m q).1;refine Q3 N.ns ?_;intro _ zz1 _;obtain ⟨_,_,_,ho,_⟩:=zz1;exact ⟨λw=>(by have:=z.1;rw [<-w,ho] at this;exact sN this),λw=>(by have:=z.2;rw [<-w,ho] at this;cases this)⟩
 ·refine Q3 N.ns ?_;intro m zz1 h;obtain ⟨o,es,ep,ho,r⟩:=zz1
  exact Z0 m ⟨o,es,ep,e.keep _ _ ho N.free,r⟩ (λk v q=>let ⟨x,a,b⟩:=h k v q;⟨x,a,b.mono e.sub⟩)
structure Ro (A:Around)(n:Nat):Prop where
 handled:A.handled=none
 depth:A.depth+8*n+40<=recursionLimit
 units:A.units+30*n+200<=cLine
abbrev Cls:=Around->Env->Prop
noncomputable def TE (W:Wd)(C:Cls)(cs:Q4)(l:Loc)(st:St)(t:Env->Sem Value)(v:V)(st':St):Prop :=
 ∀ A env,C A env->∀ μ s,Inv W μ st s->EnvR W μ s env cs l->Run W A μ s (t env) λμ' s' x=>Inv W μ' st' s'/\VR W μ' v x
section names
variable {C:Cls}{cs:Q4}{l:Loc}{st:St}
theorem Q1c {k:Nat}{v:V}{n:Str}{pos:Pos}(h:Y6 l k=some v)(hn:W.tab k=n)(hk:∀ A env,C A env->env.kindOf n=some .local)(hd:(n==("__debug__":Str))=false):TE W C cs l st (eval (.Name n pos)) v st:=λA env X μ s I N=>by
 subst hn;refine byC λζ=>?_;refine Q3 N.ns ?_;intro m a b;refine Q3 (b k v h) ?_;intro x c d;refine ζ ?_;exact wpAny_Name (wpAny_loadName_local N.kind (hk A env X) a c ⟨μ,.refl ..,I,d⟩) hd
set_option tactic.hygienic true in
theorem te_cel {k:Nat}{v:V}{n:Str}{pos:Pos}{q:V->R}(h:Cn cs st k q=true)(hn:W.tab k=n)(hk:∀ A env,C A env->env.kindOf n=some .cell\/env.kindOf n=some .free)(hd:(n==("__debug__":Str))=false)(hc:(n==("__classdict__":Str))=false) :
  ∃ v,q v=true/\TE W C cs l st (eval (.Name n pos)) v st:=by
 refine byC λζ=>?_;refine Q3 (G0 h) ?_;intro p hp h;refine Q3 (B0 h) ?_;intro o ho h;refine ζ ?_;induction o using O.casesOn <;> first | exact ff h | (cases h;done) | skip
 rename_i vv
 induction vv using Option.casesOn with
 | none=>first | exact ff h | cases h
 | some v =>
  refine Z0 v h (λA env X μ s I N=>?_);subst hn;have hk:=hk A env X;refine byC λζ=>?_;refine Q7 (N.cells k p hp hk) ?_;intro a d m e;refine Q7 (I.objs p _ ho) ?_;intro a' d' m' r;rw [m] at m';induction m' using K6;refine ζ ?_;cases r with
  | cell1 hc' hr =>
   rcases hk with hk | hk
   ·exact wpAny_Name (wpAny_loadName_cell N.kind hk e hc' ⟨μ,.refl ..,I,hr⟩) hd
   ·exact wpAny_Name (wpAny_loadName_free N.kind hk e hc' ⟨μ,.refl ..,I,hr⟩ hc) hd
theorem Q6y {k:Nat}{pos:Pos}:TE W C cs l st (eval (.Constant .none k pos)) .none st:=λA env X μ s I U=>wpAny_Constant_none ⟨μ,.refl ..,I,.none⟩
theorem Q6z {b:Bool}{k:Nat}{pos:Pos}:TE W C cs l st (eval (.Constant (.bool b) k pos)) (.bool b) st:=λA env X μ s I U=>wpAny_Constant_bool ⟨μ,.refl ..,I,.bool b⟩
theorem te_int {i:Int}{k:Nat}{pos:Pos}:TE W C cs l st (eval (.Constant (.int i) k pos)) (.int i) st:=λA env X μ s I U=>wpAny_Constant_int ⟨μ,.toks ..,I.toks _,.int _ _⟩
theorem te_str {x:Str}{n k:Nat}{pos:Pos}(h:W.tab n=x):TE W C cs l st (eval (.Constant (.str x) k pos)) (.str n) st:=λA env X μ s I U=>by subst h;exact wpAny_Constant_str ⟨μ,.toks ..,I.toks _,.str _ _⟩
end names
end
section
noncomputable def Mk (W:Wd)(c k:Nat):Bool:=plainGet W.K (W.ca c) (W.tab k)&&hasDictIn W.K (W.ca c)&&(match findIn W.K (.ref (W.ca c)) (W.tab k) with | some a=>noGet W.K a | none=>false) &&
 findIn W.K (.ref (W.ca c)) "__setattr__"==some (some (.builtin "object.__setattr__"))&&plainOver W.K (W.ca c)&&takerIn W.K (W.ca c) (W.tab k)==some none
structure Wf (W:Wd):Prop where
 kin:W.K.In W.h₀
 main:∃ mg,W.h₀.Ns mainGlobals mg
 bat:∃ mg,W.h₀.Ns mainGlobals mg/\W.h₀.BuiltinsAt mg W.tp
 tabc:CodeHd W.h₀ W.tc W.tp
 tabg:mainGlobals≠W.tp
 blt:∃ mb,W.h₀.Ns builtinsNs mb/\∀ x:Str,x≠"__name__"->mb x=bootBuiltins x
 nolimit:W.h₀.NoLimit
 sysm:W.h₀.get? sysModules≠none
 inj:∀ i j,W.tab i=W.tab j->i=j
 attrs:∀ c k,c<W.cN->k∈W.names->Mk W c k=true
 txt:∀ i,i<Yi->PyData.strOk (W.tab i)=true
variable {W:Wd}
theorem Inv.K {μ:Mp}{st:St}{s:Shared}(w:Wf W)(I:Inv W μ st s):W.K.In s.heap:=λa o e=>I.keep a o (w.kin a o e)
theorem Inv.nolimit {μ:Mp}{st:St}{s:Shared}(w:Wf W)(I:Inv W μ st s):s.heap.NoLimit:=w.nolimit.keeps I.keep
theorem Inv.notSys {μ:Mp}{st:St}{s:Shared}(w:Wf W)(I:Inv W μ st s){p:P}{a d:Addr}(m:μ p=some (a,d)):(a==sysModules)=false:=by
 cases h:a==sysModules with
 | false=>rfl
 | true=>exact absurd (I.fresh p a d m).1 (by rw [eq_of_beq h];exact w.sysm)
noncomputable def tvO:O->Option Bool
 | .list xs=>some (!xs.isEmpty) | .tup xs=>some (!xs.isEmpty) | .dict xs=>some (!xs.isEmpty) | _=>none
noncomputable def tv (st:St):V->Option Bool
 | .none=>some false | .bool b=>some b | .int i=>some (i !=0) | .ref p=>(st.t.get p).bind tvO | _=>none
theorem Q7a {α:Type}{xs:List α}{k:Bool->R}(h:Q6p xs k=true):k (!xs.isEmpty)=true:=by induction xs using List.casesOn <;> exact h
theorem int_tv (i:Int):(eqI i 0=true/\(i !=0)=false)\/(eqI i 0=false/\(i !=0)=true):=by
 rw [Mi]
 by_cases e:i=0
 ·exact .inl ⟨decide_eq_true e,by rw [e];rfl⟩
 ·exact .inr ⟨decide_eq_false e,bne_iff_ne.mpr e⟩
theorem G1 {st:St}{v:V}{k:Bool->R}(h:Mine.A9 st v k=true):∃ b,tv st v=some b/\k b=true:=by
 induction v using V.casesOn with
 | none=>exact Z0 _ rfl h
 | bool b=>induction b using Bool.casesOn <;> exact ⟨_,rfl,h⟩
 | int i =>
  refine Z0 _ rfl ?_;have h:@Bool.rec (λU=>R) (k true) (k false) (eqI i 0)=true:=h
  rcases int_tv i with ⟨a,b⟩ | ⟨a,b⟩ <;> (rw [a] at h;rw [b];exact h)
 | ref p =>
  refine Q3 (B0 (show X1 st p (λo=>Ci o k)=true from h)) ?_;intro o a b
  induction o using O.casesOn <;> first | exact ff b | (cases b;done) | exact ⟨_,by simp [tv,a,tvO],Q7a b⟩
 | str=>first | exact ff h | cases h
 | fn=>first | exact ff h | cases h
 | cls=>first | exact ff h | cases h
set_option tactic.hygienic true in
theorem R0 (w:Wf W){A:Around}{μ:Mp}{s:Shared}{st:St}{v:V}{x:Value}{b:Bool}(I:Inv W μ st s)(r:VR W μ v x)(h:tv st v=some b) :
  Run W A μ s (PySem.truthy x) λμ' s' c=>Inv W μ' st s'/\μ'=μ/\c=b:=by
 have fits:∀ n:Nat,n<=1000->(n:Int)<2 ^ 63:=λn h=>by lia
 cases r with
 | none=>cases h;exact truthy_none ⟨μ,.refl ..,I,rfl,rfl⟩
 | bool c=>cases h;exact wpAny_truthy_bool ⟨μ,.refl ..,I,rfl,rfl⟩
 | int i t=>cases h;exact PyProof.Rows.truthy_int ⟨μ,.refl ..,I,rfl,rfl⟩
 | str=>first | exact ff h | cases h
 | fn=>first | exact ff h | cases h
 | cls=>first | exact ff h | cases h
 | ref m =>
  refine Q3 (Option.bind_eq_some_iff.mp h) ?_;intro o a e;refine Q7 (I.objs _ _ a) ?_;intro a' d' m' rr;rw [m] at m';induction m' using K6;cases rr with
  | list hl hr hz =>
   cases e;refine wpAny_truthy_list hl.isList (fits _ (by rw [<-Array.length_toList,<-hr.length];exact hz)) ⟨μ,.toks ..,I.toks _,rfl,?_⟩;rename_i xs its;have:=hr.length
   induction xs using List.casesOn <;> (obtain ⟨l⟩:=its;induction l using List.casesOn <;> simp_all)
  | tup hl hr hz =>
   cases e;refine truthy_tuple ⟨_,hl,rfl,0,rfl⟩ (fits _ (by rw [<-Array.length_toList,<-hr.length];exact hz)) ⟨μ,.toks ..,I.toks _,rfl,?_⟩;rename_i xs its;have:=hr.length
   induction xs using List.casesOn <;> (obtain ⟨l⟩:=its;induction l using List.casesOn <;> simp_all)
  | dict hd hr hz =>
   cases e;have hl:∀ {es:List (Nat × V)}{kvs:List (Str × Value)},KVs W μ es kvs->kvs.length=es.length/\kvs.isEmpty=es.isEmpty:=λh=>by induction h <;> simp_all
   refine wpAny_truthy_dict (I.notSys w m) hd (fits _ (by rw [(hl hr).1];exact hz)) ⟨μ,.toks ..,I.toks _,rfl,?_⟩;rw [(hl hr).2]
  | inst=>cases e
  | cell0=>cases e
  | cell1=>cases e
  | clos=>cases e
  | tab=>cases e
  | junk=>cases e
  | done=>cases e
abbrev Hv:=Q4->Loc->St->(V->St->R)->R
inductive E2 {α β:Type}(P Q:α->β->Prop):Prop where | mk (a:α)(b:β)(p:P a b)(q:Q a b)
noncomputable def SE (W:Wd)(C:Cls)(h:Hv)(t:Env->Sem Value):Prop:=∀ cs l st k,h cs l st k=true->E2 (λv st'=>k v st'=true) (TE W C cs l st t)
noncomputable def TB (W:Wd)(C:Cls)(cs:Q4)(l:Loc)(st:St)(t:Env->Sem Bool)(b:Bool)(st':St):Prop :=
 ∀ A env,C A env->∀ μ s,Inv W μ st s->EnvR W μ s env cs l->Run W A μ s (t env) λμ' s' x=>Inv W μ' st' s'/\x=b
noncomputable def SB (W:Wd)(C:Cls)(h:Hv)(t:Env->Sem Bool):Prop:=∀ cs l st k,h cs l st k=true->∃ v st',k v st'=true/\∀ b,tv st' v=some b->TB W C cs l st t b st'
section
variable {C:Cls}{h:Hv}{t:Env->Sem Value}
theorem Q1d (w:Wf W){e:Expr}(x:SE W C h t)(he:∀ env,isTrue e env (t env)=(do let v <-t env;standAt e.pos;holding [v] (PySem.truthy v))):SB W C h (λenv=>isTrue e env (t env)):=λcs l st k q=>by
 obtain ⟨v,st',a,b⟩:=x cs l st k q;refine Q9 v st' a (λc d A env X μ s I N=>?_);refine wpAny_isTrue_value ?_ (he env);exact wpAny_mono (b A env X μ s I N) (λy s' ⟨μ',e,r⟩=>wpAny_mono (R0 w r.1 r.2 d) (λc s'' ⟨μ'',e',z,_,h⟩=>⟨μ'',e.trans e',z,h⟩) λU U x=>x) λU U x=>x
end
theorem Jt {α β:Type}{A:Around}{μ:Mp}{s:Shared}{m:Sem α}{P:Mp->Shared->α->Prop}{Q:Mp->Shared->β->Prop}{T:α->Shared->Prop}(h:Run W A μ s m P)
  (k:∀ μ' s' a,Ext μ s μ' s'->P μ' s' a->(∀ (u:Sem β),Run W A μ' s' u Q->wpAny (model W.prog W.w) A u (λx s''=>∃ μ'',Ext μ s μ'' s''/\Q μ'' s'' x) Z3 s')->T a s'):wpAny (model W.prog W.w) A m T Z3 s :=
 wpAny_mono h (λa s' ⟨μ',e,p⟩=>k μ' s' a e p λU h=>wpAny_mono h (λ_ _ ⟨μ'',e',q⟩=>⟨μ'',e.trans e',q⟩) λU U x=>x) λU U x=>x
section
variable {C:Cls}
theorem Q1e {ev:Ev}{c a b:E}{ec ea eb:Expr}{pos:Pos}(hc:SB W C (ev c) (λenv=>isTrue ec env (eval ec env)))(ha:SE W C (ev a) (eval ea))(hb:SE W C (ev b) (eval eb)) :
  SE W C (Q6u ev c a b) (eval (.IfExp ec ea eb pos)):=λcs l st k q=>by
 refine Q7 (hc cs l st _ q) ?_;intro v st1 q1 r1;refine Q3 (G1 q1) ?_;intro t ht q1
 induction t using Bool.casesOn with
 | true =>
  obtain ⟨v,st2,q2,r2⟩:=ha cs l st1 k q1;exact ⟨v,st2,q2,λA env X μ s I N=>wpAny_IfExp (Jt (r1 _ ht A env X μ s I N) λμ' s' x e z on=>by obtain ⟨z,rfl⟩:=z;exact on _ (r2 A env X μ' s' z (N.ext e)))⟩
 | false =>
  obtain ⟨v,st2,q2,r2⟩:=hb cs l st1 k q1;exact ⟨v,st2,q2,λA env X μ s I N=>wpAny_IfExp (Jt (r1 _ ht A env X μ s I N) λμ' s' x e z on=>by obtain ⟨z,rfl⟩:=z;exact on _ (r2 A env X μ' s' z (N.ext e)))⟩
theorem sb_ite {ev:Ev}{c a b:E}{ec ea eb:Expr}{pos:Pos}{whole:Env->Sem Value}(hc:SB W C (ev c) (λenv=>isTrue ec env (eval ec env)))(ha:SB W C (ev a) (λenv=>isTrue ea env (eval ea env)))(hb:SB W C (ev b) (λenv=>isTrue eb env (eval eb env))) :
  SB W C (Q6u ev c a b) (λenv=>isTrue (.IfExp ec ea eb pos) env (whole env)):=λcs l st k q=>by
 refine Q7 (hc cs l st _ q) ?_;intro v st1 q1 r1;refine Q3 (G1 q1) ?_;intro t ht q1
 induction t using Bool.casesOn with
 | true =>
  refine Q7 (ha cs l st1 k q1) ?_;intro v st2 q2 r2;exact Q9 v st2 q2 (λb hb A env X μ s I N=>isTrue_IfExp (Jt (r1 _ ht A env X μ s I N) λμ' s' x e z on=>by obtain ⟨z,rfl⟩:=z;exact on _ (r2 b hb A env X μ' s' z (N.ext e))))
 | false =>
  refine Q7 (hb cs l st1 k q1) ?_;intro v st2 q2 r2;exact Q9 v st2 q2 (λb hb A env X μ s I N=>isTrue_IfExp (Jt (r1 _ ht A env X μ s I N) λμ' s' x e z on=>by obtain ⟨z,rfl⟩:=z;exact on _ (r2 b hb A env X μ' s' z (N.ext e))))
theorem se_not (w:Wf W){ev:Ev}{a:E}{ea:Expr}{pos:Pos}(ha:SE W C (ev a) (eval ea)):SE W C (hNot ev a) (eval (.UnaryOp .Not ea pos)):=λcs l st k q=>by
 obtain ⟨v,st1,q1,r1⟩:=ha cs l st _ q;refine Q3 (G1 q1) ?_;intro b hb q2;refine ⟨.bool (!b),st1,by induction b using Bool.casesOn <;> exact q2,λA env X μ s I N=>wpAny_UnaryOp (wpAny_mono (r1 A env X μ s I N) (λx s' ⟨μ',e,z,y⟩=>not_of ?_) λU U x=>x)⟩;exact wpAny_mono (R0 w z y hb) (λc s'' ⟨μ'',e',z',y',h'⟩=>by subst h';exact J6 μ'' (e.trans e') z' (.bool _)) λU U x=>x
theorem sb_not {ev:Ev}{a:E}{ea:Expr}{pos:Pos}{whole:Env->Sem Value}(ha:SB W C (ev a) (λenv=>isTrue ea env (eval ea env))):SB W C (hNot ev a) (λenv=>isTrue (.UnaryOp .Not ea pos) env (whole env)):=λcs l st k q=>by
 refine Q7 (ha cs l st _ q) ?_;intro v st1 q1 r1;refine Q3 (G1 q1) ?_;intro b hb q2;refine Q9 (.bool (!b)) st1 (by induction b using Bool.casesOn <;> exact q2) (λc hc A env X μ s I N=>wpAny_isTrue_Not (wpAny_mono (r1 _ hb A env X μ s I N) (λx s' ⟨μ',e,z,y⟩=>?_) λU U x=>x));cases hc;subst y;exact J6 μ' e z rfl
theorem Ky {pos:Pos}{op:BoolOp}{x y:Sem Value}{r:List (Sem Value)}:boolOp pos op (x :: y :: r)=(do
  let v <-x
  standAt pos
  let t <-holding [v] (PySem.truthy v)
  match op,t with
  | .And,false | .Or,true=>pure v
  | _,_=>boolOp pos op (y :: r)):=rfl
theorem Q1f (w:Wf W){ev:Ev}{a b:E}{ea eb:Expr}{r:List Expr}{pos:Pos}(ha:SE W C (ev a) (eval ea))(hb:SE W C (ev b) (λenv=>boolOp pos .And (evalEach (eb :: r) env))) :
  SE W C (hAnd ev a b) (λenv=>boolOp pos .And (evalEach (ea :: eb :: r) env)):=λcs l st k q=>by
 obtain ⟨v,st1,q1,r1⟩:=ha cs l st _ q;refine Q3 (G1 q1) ?_;intro t ht q1;have key:∀ {v' st'} ,(t=true->TE W C cs l st1 (λenv=>boolOp pos .And (evalEach (eb :: r) env)) v' st')->(t=false->v'=v/\st'=st1)->TE W C cs l st (λenv=>boolOp pos .And (evalEach (ea :: eb :: r) env)) v' st':=by
  intro v' st' h1 h2 A env X μ s I N
  show wpAny _ _ (boolOp pos .And (eval ea env :: eval eb env :: evalEach r env)) _ _ _
  rw [Ky];refine wpAny_bind (wpAny_mono (r1 A env X μ s I N) (λx s' ⟨μ',e,z⟩=>wpAny_bind (wpAny_standAt (wpAny_bind (wpAny_holding ?_)))) λU U x=>x);refine wpAny_mono (R0 w z.1 z.2 ht) (λc s'' ⟨μ'',e',z',y',h'⟩=>?_) λU U x=>x;subst h' y'
  induction c using Bool.casesOn with
  | true=>exact wpAny_mono (h1 rfl A env X μ'' s'' z' ((N.ext e).ext e')) (λ_ _ ⟨μ3,e3,z3⟩=>⟨μ3,e.trans (e'.trans e3),z3⟩) λU U x=>x
  | false=>refine Q6 (h2 rfl) ?_;intro ee0 ee1;subst ee0;subst ee1;exact wpAny_pure ⟨_,e.trans e',z',z.2⟩
 induction t using Bool.casesOn with
 | true =>
  obtain ⟨v',st2,q2,r2⟩:=hb cs l st1 k q1;exact ⟨v',st2,q2,key (λU=>r2) λh=>by cases h⟩
 | false=>exact ⟨v,st1,q1,key (λh=>by cases h) λU=>⟨rfl,rfl⟩⟩
theorem se_or (w:Wf W){ev:Ev}{a b:E}{ea eb:Expr}{r:List Expr}{pos:Pos}(ha:SE W C (ev a) (eval ea))(hb:SE W C (ev b) (λenv=>boolOp pos .Or (evalEach (eb :: r) env))) :
  SE W C (hOr ev a b) (λenv=>boolOp pos .Or (evalEach (ea :: eb :: r) env)):=λcs l st k q=>by
 obtain ⟨v,st1,q1,r1⟩:=ha cs l st _ q;refine Q3 (G1 q1) ?_;intro t ht q1;have key:∀ {v' st'} ,(t=false->TE W C cs l st1 (λenv=>boolOp pos .Or (evalEach (eb :: r) env)) v' st')->(t=true->v'=v/\st'=st1)->TE W C cs l st (λenv=>boolOp pos .Or (evalEach (ea :: eb :: r) env)) v' st':=by
  intro v' st' h1 h2 A env X μ s I N
  show wpAny _ _ (boolOp pos .Or (eval ea env :: eval eb env :: evalEach r env)) _ _ _
  rw [Ky];refine wpAny_bind (wpAny_mono (r1 A env X μ s I N) (λx s' ⟨μ',e,z⟩=>wpAny_bind (wpAny_standAt (wpAny_bind (wpAny_holding ?_)))) λU U x=>x);refine wpAny_mono (R0 w z.1 z.2 ht) (λc s'' ⟨μ'',e',z',y',h'⟩=>?_) λU U x=>x;subst h' y'
  induction c using Bool.casesOn with
  | false=>exact wpAny_mono (h1 rfl A env X μ'' s'' z' ((N.ext e).ext e')) (λ_ _ ⟨μ3,e3,z3⟩=>⟨μ3,e.trans (e'.trans e3),z3⟩) λU U x=>x
  | true=>refine Q6 (h2 rfl) ?_;intro ee0 ee1;subst ee0;subst ee1;exact wpAny_pure ⟨_,e.trans e',z',z.2⟩
 induction t using Bool.casesOn with
 | false =>
  obtain ⟨v',st2,q2,r2⟩:=hb cs l st1 k q1;exact ⟨v',st2,q2,key (λU=>r2) λh=>by cases h⟩
 | true=>exact ⟨v,st1,q1,key (λh=>by cases h) λU=>⟨rfl,rfl⟩⟩
theorem Q1g {ev:Ev}{a b:E}{ea:Expr}{r:List Expr}(ha:SB W C (ev a) (λenv=>isTrue ea env (eval ea env)))(hb:SB W C (ev b) (allTrue .And r)) :
  SB W C (hAnd ev a b) (allTrue .And (ea :: r)):=λcs l st k q=>by
 refine Q7 (ha cs l st _ q) ?_;intro v st1 q1 r1;refine Q3 (G1 q1) ?_;intro t ht q1
 induction t using Bool.casesOn with
 | true =>
  refine Q7 (hb cs l st1 k q1) ?_;intro v' st2 q2 r2;exact Q9 v' st2 q2 (λc hc A env X μ s I N=>wpAny_allTrue_And_cons (Jt (r1 _ ht A env X μ s I N) λμ' s' x e z on=>by obtain ⟨z,rfl⟩:=z;exact on _ (r2 c hc A env X μ' s' z (N.ext e))))
 | false=>exact Q9 v st1 q1 (λc hc A env X μ s I N=>wpAny_allTrue_And_cons (wpAny_mono (r1 _ ht A env X μ s I N) (λx s' ⟨μ',e,z⟩=>by obtain ⟨z,rfl⟩:=z;rw [ht] at hc;induction hc using J8;exact ⟨μ',e,z,rfl⟩) λU U x=>x))
theorem sb_or {ev:Ev}{a b:E}{ea:Expr}{r:List Expr}(ha:SB W C (ev a) (λenv=>isTrue ea env (eval ea env)))(hb:SB W C (ev b) (allTrue .Or r)) :
  SB W C (hOr ev a b) (allTrue .Or (ea :: r)):=λcs l st k q=>by
 refine Q7 (ha cs l st _ q) ?_;intro v st1 q1 r1;refine Q3 (G1 q1) ?_;intro t ht q1
 induction t using Bool.casesOn with
 | false =>
  refine Q7 (hb cs l st1 k q1) ?_;intro v' st2 q2 r2;exact Q9 v' st2 q2 (λc hc A env X μ s I N=>wpAny_allTrue_Or_cons (Jt (r1 _ ht A env X μ s I N) λμ' s' x e z on=>by obtain ⟨z,rfl⟩:=z;exact on _ (r2 c hc A env X μ' s' z (N.ext e))))
 | true=>exact Q9 v st1 q1 (λc hc A env X μ s I N=>wpAny_allTrue_Or_cons (wpAny_mono (r1 _ ht A env X μ s I N) (λx s' ⟨μ',e,z⟩=>by obtain ⟨z,rfl⟩:=z;rw [ht] at hc;induction hc using J8;exact ⟨μ',e,z,rfl⟩) λU U x=>x))
theorem Cv {ev:Ev}{a:E}{ea:Expr}{op:BoolOp}(ha:SB W C (ev a) (λenv=>isTrue ea env (eval ea env))):SB W C (ev a) (allTrue op [ea]):=λcs l st k q=>by
 obtain ⟨v,st1,q1,r1⟩:=ha cs l st k q;refine Q9 v st1 q1 (λc hc A env X μ s I N=>?_)
 induction op using PySem.BoolOp.casesOn with
 | And=>exact wpAny_allTrue_And_cons (wpAny_mono (r1 _ hc A env X μ s I N) (λx s' ⟨μ',e,z⟩=>by obtain ⟨z,rfl⟩:=z;induction x using Bool.casesOn <;> first | exact ⟨μ',e,z,rfl⟩ | exact wpAny_pure ⟨μ',e,z,rfl⟩) λU U x=>x)
 | Or=>exact wpAny_allTrue_Or_cons (wpAny_mono (r1 _ hc A env X μ s I N) (λx s' ⟨μ',e,z⟩=>by obtain ⟨z,rfl⟩:=z;induction x using Bool.casesOn <;> first | exact ⟨μ',e,z,rfl⟩ | exact wpAny_pure ⟨μ',e,z,rfl⟩) λU U x=>x)
theorem Hj {h:Hv}{op:BoolOp}{values:List Expr}{pos:Pos}{whole:Env->Sem Value}(ha:SB W C h (allTrue op values)):SB W C h (λenv=>isTrue (.BoolOp op values pos) env (whole env)):=λcs l st k q =>
 let ⟨v,st1,q1,r1⟩:=ha cs l st k q
 ⟨v,st1,q1,λc hc A env X μ s I N=>wpAny_isTrue_BoolOp (r1 c hc A env X μ s I N)⟩
end
end
section
section raw
variable {prog:Program}{w:World}{A:Around}{E:Value->Shared->Prop}{s:Shared}
theorem Xv {D b:Addr}{ys its2:Array Value}{n n2:Nat}{Q:Value->Shared->Prop}(hD:s.heap.get? D=some { cls:=.type "list",data:=.seq ys n })(hb:s.heap.get? b=some { cls:=.type "list",data:=.seq its2 n2 })
  (hsz:ys.size+its2.size<=sizeLine)
  (h:∀ h',h'.PlainList D (ys++its2)->Heap.SameBut D s.heap h'->Q .none { s with heap:=h' }) :
  wpAny (model prog w) A (call (.builtin "list.extend") [.ref D,.ref b]) Q E s:=by
 refine call_meets PySem.F.slot_list_extend ⟨_,hD,rfl⟩ PySem.F.entry_list_extend (PySem.F.args_list_extend_2 _ _) (AutoSeq1.list_extend_list_list_0 D ys n b its2 n2 (extend_door hsz) (Nat.le_trans (Nat.le_add_right _ _) hsz)) ⟨hD,hb,?_⟩
 show Q _ _
 refine h _ ⟨if (ys++its2).size==ys.size then n else n+1,?_⟩ (Heap.SameBut.update ..);rw [Heap.get?_update_self _ hD (by rw [mapSeq_app];rfl),mapSeq_app]
theorem Q7b {l b:Addr}{its its2:Array Value}{Q:Value->Shared->Prop}(hl:s.heap.PlainList l its)(hb:s.heap.PlainList b its2)(hsz:its.size+its2.size<=sizeLine)
  (h:Q (.ref s.heap.objs.size) { s with heap:=s.heap.push { cls:=.type "list",data:=.seq (its++its2) } }):wpAny (model prog w) A (binaryOp .Add (.ref l) (.ref b)) Q E s:=by
 refine byC λζ=>?_;obtain ⟨n,ho⟩:=hl;obtain ⟨n2,ho2⟩:=hb;refine ζ ?_;exact concat_meets ⟨_,ho,rfl⟩ ⟨_,ho2,rfl⟩ noFill_list_add seq_list_add PySem.F.slot_list_add PySem.F.entry_list_add (PySem.F.args_list_add_2 _ _) (list_addW l b its its2 n n2 none none #[] #[] hsz) ⟨ho,ho2,h⟩
theorem Hk (its:Array Value):∀ (n:Nat)(acc:Array Value),(List.foldl (λx1 x2=>x1++x2) acc (List.replicate n its)).toList=acc.toList++(List.replicate n its.toList).flatten
 | 0,acc=>by simp
 | n+1,acc=>by rw [List.replicate_succ,List.foldl_cons,Hk its n,List.replicate_succ];simp
theorem Q7c {l:Addr}{its:Array Value}{x:Int}{u:Tok}{Q:Value->Shared->Prop}(hl:s.heap.PlainList l its)(hlo:-(2 ^ 63:Int)<=x)(hhi:x<2 ^ 63)(hsz:its.size*x.toNat<=2 ^ 24)
  (h:∀ its':Array Value,its'.toList=(List.replicate x.toNat its.toList).flatten->Q (.ref s.heap.objs.size) { s with heap:=s.heap.push { cls:=.type "list",data:=.seq its' } }):wpAny (model prog w) A (binaryOp .Mult (.ref l) (.int x u)) Q E s:=by
 obtain ⟨k,hl⟩:=hl;refine wpAny_binaryOp_repeat_ref (T:="list") (U:="int") (by decide) ⟨_,hl,rfl⟩ (λs'=>typeIs_int s' x u) noFill_list_mul F.fills_int_mul F.slot_int_rmul repeat_list F.slot_int_index.lookup
  (call_meets F.slot_int_rmul (typeIs_int s x u) F.entry_int_rmul (F.args_int_rmul_2 _ _) (int___rmul___int_list x u l its k)
   ⟨hl,rfl,⟨_,hl,rfl⟩,call_meets F.slot_list_mul ⟨_,hl,rfl⟩ F.entry_list_mul (F.args_list_mul_2 _ _)
    (AutoListH.list___mul___list_int_3 l its k x u (by simp [Builtin.List.listFitsIndex];lia) (by lia) (by simp [Builtin.List.listTooLong,sizeLine];lia))
    ⟨hl,?_⟩⟩)
 refine h _ ?_;rw [Hk]
 by_cases e:its.isEmpty=true
 ·have:its.toList=[]:=by simpa using e
  have z:∀ n:Nat,(List.replicate n ([]:List Value)).flatten=[]:=λn=>by induction n <;> simp_all [List.replicate_succ]
  rw [if_pos e,this,z,z];rfl
 ·rw [if_neg e];simp
theorem Oz {l:Addr}{items:Array Value}{k:Int}{t:Tok}{v:Value}{Q:Unit->Shared->Prop}(hl:s.heap.PlainList l items)
  (h0:0<=k)(hfit:k<2 ^ 63)(hn:k<items.size)
  (hQ:∀ h',h'.PlainList l (items.setIfInBounds k.toNat v)->Heap.SameBut l s.heap h'->Q () { s with heap:=h' }) :
  wpAny (model prog w) A (setItem (.ref l) (.int k t) v) Q E s:=by
 obtain ⟨ne,ho⟩:=id hl;have hl:=hl.isList;have hd:({ cls:=.type "list",data:=.seq items ne }:Obj).data=.seq items ne:=rfl
 unfold setItem
 try with_reducible refine wpAny_holding ?_
 first | refine wpAny_bind (wpAny_pure ?_) | skip
 refine wpAny_bind (wpAny_sequenceKey hl.typeIs (by decide) ?_);refine wpAny_bind (wpAny_callSpecial?_slot (name:=Str.ofString "__setitem__") hl.typeIs slot_list_setitem
  (wpAny_call_entry slot_list_setitem hl.typeIs entry_list_setitem ?_ (args_list_setitem _ _ _)))
 show wpAny _ _ (Builtin.List.listSubscript? (.int k t) >>= _) _ _ s
 refine wpAny_bind (wpAny_listSubscript_int (fitsIndex_of h0 hfit) ?_);clear hfit;refine J2 (Int.eq_ofNat_of_zero_le h0) ?_;intro j ee1;subst ee1;have hj:j<items.size:=by lia
 have hx':items[j]?=some items[j]:=Array.getElem?_eq_getElem hj
 show wpAny _ _ ((seqItemAt l j >>= λr=>pure (r.map (j,·))) >>= _) _ _ s
 refine wpAny_bind (wpAny_bind (wpAny_seqItemAt ho hd (wpAny_pure ?_)));rw [hx']
 show wpAny _ _ (setSeqItemAt l j v >>= _) _ _ s
 have hfin:(s.heap.update l (Obj.mapSeq (·.setIfInBounds j v))).PlainList l (items.setIfInBounds j v):=by
  refine ⟨ne,?_⟩;have e:Obj.mapSeq (·.setIfInBounds j v) { cls:=.type "list",data:=.seq items ne }={ cls:=.type "list",data:=.seq (items.setIfInBounds j v) ne }:=by simp [Obj.mapSeq]
  rw [Heap.get?_update_self _ ho (by rw [e];rfl),e]
 refine wpAny_bind (wpAny_setSeqItemAt ho hd ?_)
 first
  | exact wpAny_bind (wpAny_pure (wpAny_pure ⟨.none,rfl,wpAny_pure (hQ _ hfin (Heap.SameBut.update ..))⟩))
  | exact wpAny_pure ⟨.none,rfl,wpAny_pure (hQ _ hfin (Heap.SameBut.update ..))⟩
end raw
variable {W:Wd}
theorem VRs.size {μ:Mp}{xs:List V}{its:Array Value}(h:VRs W μ xs its.toList):its.size=xs.length:=by rw [h.length];simp
structure NewL (st:St)(xs:List V)(v:V)(st':St):Prop where
 le:xs.length<=1000
 al:∃ p,v=.ref p/\AllocR st (.list xs) p st'
theorem B1 {st:St}{xs:List V}{k:V->St->R}(h:L7 st xs k=true):∃ v st',k v st'=true/\NewL st xs v st':=by
 refine byC λζ=>?_;refine Q6 (D3 h) ?_;intro hz h;refine Q7 (H4 h) ?_;intro p st' a b;refine ζ ?_;exact Q9 (.ref p) st' a ⟨hz,p,rfl,b⟩
theorem Inv.newList {μ:Mp}{st st':St}{s:Shared}(I:Inv W μ st s){xs:List V}{its:Array Value}{v:V}(h:NewL st xs v st')(r:VRs W μ xs its.toList){t:Nat} :
  ∃ μ',Ext μ s μ' { s with heap:=s.heap.push { cls:=.type "list",data:=.seq its },toks:=t }/\Inv W μ' st' { s with heap:=s.heap.push { cls:=.type "list",data:=.seq its },toks:=t }/\VR W μ' v (.ref s.heap.objs.size):=by
 obtain ⟨hz,p,rfl,al⟩:=h;have z:s.heap.objs.size<(s.heap.push { cls:=.type "list",data:=.seq its }).objs.size:=by rw [Heap.size_push];exact Nat.lt_succ_self _
 obtain ⟨μ',b,c,d⟩:=I.alloc (t:=t) al (λb x e=>Heap.get?_push_of_some _ e) (Heap.get?_none_of_le (Nat.le_refl _)) (Heap.get?_none_of_le (Nat.le_refl _)) (Z1 (Heap.get?_push_size _ rfl)) (Z1 (Heap.get?_push_size _ rfl))
  λμ' sub=>.list ⟨0,Heap.get?_push_size _ rfl⟩ (r.mono sub) hz
 exact J6 μ' b c (.ref d)
end
section
variable {W:Wd}
noncomputable def opc:Op->Operator | .add=>.Add | .sub=>.Sub | .mul=>.Mult | .div=>.FloorDiv | .mod=>.Mod | .pow=>.Pow
theorem Uw {i:Int}{k:Unit->R}(h:fits i k=true):0<=i/\i<1000000000/\k ()=true:=by
 induction i using Int.casesOn with
 | ofNat n =>
  have h:=bT (a:=k ()) (b:=Nat.blt n 1000000000) h;have:n<1000000000:=Nat.le_of_ble_eq_true h.1;exact ⟨Int.natCast_nonneg n,by show (n:Int)<_;lia,h.2⟩
 | negSucc=>first | exact ff h | cases h
theorem Q1h {op:Op}{i j:Int}{k:Int->R}(h:binI op i j k=true):∃ x,k x=true /\
  ∀ {A:Around}{μ:Mp}{s:Shared}{st:St}{t u:Tok},Inv W μ st s->Run W A μ s (binaryOp (opc op) (.int i t) (.int j u)) λμ' s' y=>Inv W μ' st s'/\μ'=μ/\∃ t,y=.int x t:=by
 induction op using Op.casesOn with
 | add=>exact Z0 _ (O5 h) (λI=>wpAny_add_int ⟨_,.toks ..,I.toks _,rfl,_,rfl⟩)
 | sub=>exact Z0 _ (O5 h) (λI=>PyProof.Rows.sub_int ⟨_,.toks ..,I.toks _,rfl,_,rfl⟩)
 | mul =>
  refine Ui (Uw (show fits j (λU=>P0 (i*j) k)=true from h)) ?_;intro a b h;exact Z0 _ (O5 h) (λI=>PyProof.Rows.mul_int ⟨_,.toks ..,I.toks _,rfl,_,rfl⟩ (IntMulOk.of_right (intBits_le_64 (by lia) (by lia))))
 | div =>
  refine Ui (Uw (show fits j (λU=>@Bool.rec (λU=>R) false (P0 (Int.fdiv i j) k) (ltI 0 j))=true from h)) ?_;intro a b h;refine Q6 (bT h) ?_;intro q h;rw [E5,decide_eq_true_eq] at q;exact Z0 _ (O5 h) (λI=>floordiv_int (by lia) ⟨_,.toks ..,I.toks _,rfl,_,rfl⟩ (.inl (PyProof.noPylong_small (by lia))))
 | mod =>
  refine Q6 (bT (b:=ltI 0 j) h) ?_;intro q h;rw [E5,decide_eq_true_eq] at q;exact Z0 _ (O5 h) (λI=>mod_int' (by lia) ⟨_,.toks ..,I.toks _,rfl,_,rfl⟩)
 | pow =>
  refine Ui (Uw (show fits i (λU=>@Bool.rec (λU=>R) false (@Bool.rec (λU=>R) false (P0 (i ^ j.toNat) k) (leI j 1000)) (leI 0 j))=true from h)) ?_;intro a b h;refine Q6 (bT h) ?_;intro q h;refine Q6 (bT h) ?_;intro q' h;rw [Mh,decide_eq_true_eq] at q q';refine Z0 _ (O5 h) (λI=>PyProof.Rows.pow_int q ?_ ⟨_,.toks ..,I.toks _,rfl,_,rfl⟩);have z:=intBits_le_64 (k:=i) (by lia) (by lia);have:(Builtin.Int.intBits i:Int)*j<=64*1000:=Int.mul_le_mul (by lia) q' (by lia) (by lia)
  lia
theorem Z6 {μ:Mp}{st:St}{s:Shared}{p:P}{o:O}{x:Value}(I:Inv W μ st s)(r:VR W μ (.ref p) x)(h:st.t.get p=some o):∃ a d,x=.ref a/\μ p=some (a,d)/\OR W μ s.heap a d o:=by
 induction r using VR.refE with
 | ref m =>
  refine Q7 (I.objs _ _ h) ?_;intro a d m' rr;rw [m] at m';induction m' using K6;exact Q0e _ _ rfl m rr
theorem Cw {α:Type}(xs:List α):∀ n,((List.replicate n xs).flatten).length=n*xs.length
 | 0=>by simp
 | n+1=>by rw [List.replicate_succ,List.flatten_cons,List.length_append,Cw xs n,Nat.succ_mul,Nat.add_comm]
theorem Q1i {op:Op}{st:St}{a b:V}{k:V->St->R}(h:Q0j op st a b k=true):∃ v st',k v st'=true /\
  ∀ {A:Around}{μ:Mp}{s:Shared}{x y:Value},Inv W μ st s->VR W μ a x->VR W μ b y->Run W A μ s (binaryOp (opc op) x y) λμ' s' z=>Inv W μ' st' s'/\VR W μ' v z:=by
 induction a using V.casesOn with
 | int i =>
  refine Q3 (Y7 (show K7 b _=true from h)) ?_;intro j ee1 h;subst ee1;refine Q3 (Q1h (W:=W) h) ?_;intro x h r;refine Q9 _ _ h (λI ra rb=>?_)
  induction ra using VR.intE
  induction rb using VR.intE
  with_reducible refine Run.mono (r I) ?_
  intro _ _ _ _ z;obtain ⟨a,_,t,e⟩:=z;rw [e];exact ⟨a,.int ..⟩
 | ref p =>
  refine Q3 (B0 (show X1 st p _=true from h)) ?_;intro o ho h;refine Q3 (B8 h) ?_;intro xs ee1 h;subst ee1
  induction op using Op.casesOn with
  | add =>
   obtain ⟨q,o2,rfl,ho2,h⟩:=Y1 (show G2 st b _=true from h);obtain ⟨ys,rfl,h⟩:=B8 h;refine Q7 (B1 (Uv (show Xk xs _ _=true from h))) ?_;intro v st' h nl;refine Q9 v st' h (λ{A μ s x y} I ra rb=>?_);refine Y0 (Z6 I ra ho) ?_;intro a d ee2 m ora;subst ee2;refine Y0 (Z6 I rb ho2) ?_;intro a2 d2 ee2 m2 ora2;subst ee2
   induction ora using OR.listE with
   | list hl hr hz =>
    induction ora2 using OR.listE with
    | list hl2 hr2 hz2 =>
     refine Q7b hl hl2 (by rw [hr.size,hr2.size,sizeLine_eq];lia) ?_;refine K0 (I.newList nl (t:=s.toks) (by rw [Array.toList_append];exact hr.append hr2)) ?_;intro μ' e I' r';exact J6 μ' e I' r'
  | mul =>
   refine Q3 (Y7 (show K7 b _=true from h)) ?_;intro i ee1 h2;subst ee1;refine Ui (Uw h2) ?_;intro h0 h1 h3;refine Q7 (B1 (Cu h3)) ?_;intro v st' h nl;refine Q9 v st' h (λ{A μ s x y} I ra rb=>?_);refine Y0 (Z6 I ra ho) ?_;intro a d ee2 m ora;subst ee2
   induction rb using VR.intE
   induction ora using OR.listE with
   | list hl hr hz =>
    refine Q7c hl (by lia) (by lia) (by have:=nl.le;rw [Cw] at this;rw [hr.size,Nat.mul_comm];lia) λits' e'=>?_;refine K0 (I.newList nl (t:=s.toks) (its:=its') (by rw [e'];exact hr.rep _)) ?_;intro μ' e I' r';exact J6 μ' e I' r'
  | sub=>first | exact ff h | cases h
  | div=>first | exact ff h | cases h
  | mod=>first | exact ff h | cases h
  | pow=>first | exact ff h | cases h
 | none=>first | exact ff h | cases h
 | bool=>first | exact ff h | cases h
 | str=>first | exact ff h | cases h
 | fn=>first | exact ff h | cases h
 | cls=>first | exact ff h | cases h
theorem Q1j {C:Cls}{ev:Ev}{op:Op}{a b:E}{ea eb:Expr}{pos:Pos}(ha:SE W C (ev a) (eval ea))(hb:SE W C (ev b) (eval eb)) :
  SE W C (hBin ev op a b) (eval (.BinOp ea (opc op) eb pos)):=λcs l st k q=>by
 obtain ⟨v,st1,q,r1⟩:=ha cs l st _ q;obtain ⟨w,st2,q,r2⟩:=hb cs l st1 _ q;refine Q7 (Q1i (W:=W) q) ?_;intro x st3 q r3;exact ⟨x,st3,q,λA env X μ s I N=>wpAny_BinOp ((r1 A env X μ s I N).step λμ' s' x e z=>(r2 A env X μ' s' z.1 (N.ext e)).step λμ'' s'' y e' z'=>(r3 z'.1 (z.2.mono e'.sub) z'.2).fin (e.trans e'))⟩
end
section
variable {W:Wd}
theorem Q7d {k:Nat}{q:Unit->R}(h:chkS k q=true):k<Yi/\q ()=true:=by
 have h:=bT (a:=q ()) (b:=Nat.blt k Yi) h;exact ⟨Nat.le_of_ble_eq_true h.1,h.2⟩
mutual
noncomputable def D.py (W:Wd):D->PyData
 | .none=>.none | .int i=>.int i | .str k=>.str (W.tab k) | .list xs=>.list (D.pys W xs) | .tup xs=>.tuple (D.pys W xs)
noncomputable def D.pys (W:Wd):List D->List PyData
 | []=>[]
 | x :: r=>x.py W :: D.pys W r
end
mutual
inductive Rd (st:St):Nat->V->D->Prop
 | none {n}:Rd st n .none .none
 | int {n}(i:Int):Rd st n (.int i) (.int i)
 | str {n}(k:Nat)(h:k<Yi):Rd st n (.str k) (.str k)
 | list {n p xs ds}(h:st.t.get p=some (.list xs))(r:Rds st n xs ds):Rd st (n+1) (.ref p) (.list ds)
 | tup {n p xs ds}(h:st.t.get p=some (.tup xs))(r:Rds st n xs ds):Rd st (n+1) (.ref p) (.tup ds)
inductive Rds (st:St):Nat->List V->List D->Prop
 | nil {n}:Rds st n [] []
 | cons {n v d vs ds}(h:Rd st n v d)(t:Rds st n vs ds):Rds st n (v :: vs) (d :: ds)
end
theorem P3 {st:St}{n:Nat}{rd:V->(D->R)->R}(ih:∀ v k,rd v k=true->∃ d,k d=true/\Rd st n v d):∀ {xs:List V}{k:List D->R},Hh rd xs k=true->∃ ds,k ds=true/\Rds st n xs ds
 | [],_,h=>⟨[],h,.nil⟩
 | x :: r,k,h=>by
  refine Q3 (ih x _ h) ?_;intro d h a;refine Q3 (P3 ih h) ?_;intro ds h b;exact Z0 (d :: ds) h (.cons a b)
theorem V0 {st:St}:∀ {n:Nat}{v:V}{k:D->R},Ku n st v k=true->∃ d,k d=true/\Rd st n v d
 | 0,_,_,h=>by first | exact ff h | cases h
 | n+1,v,k,h=>by
  unfold Ku at h
  induction v using V.casesOn with
  | none=>exact Z0 _ h .none
  | int i=>exact Z0 _ h (.int i)
  | str i=>refine Q6 (Q7d h) ?_;intro a b;exact Z0 _ b (.str i a)
  | ref p =>
   refine Q3 (B0 h) ?_;intro o ho h
   induction o using O.casesOn with
   | list xs =>
    refine Q3 (P3 (λv k h=>V0 h) (show Hh (Ku n st) xs (λds=>k (.list ds))=true from h)) ?_;intro ds h r;exact Z0 _ h (.list ho r)
   | tup xs =>
    refine Q3 (P3 (λv k h=>V0 h) (show Hh (Ku n st) xs (λds=>k (.tup ds))=true from h)) ?_;intro ds h r;exact Z0 _ h (.tup ho r)
   | dict=>first | exact ff h | cases h
   | inst=>first | exact ff h | cases h
   | cell=>first | exact ff h | cases h
   | clos=>first | exact ff h | cases h
  | bool=>first | exact ff h | cases h
  | fn=>first | exact ff h | cases h
  | cls=>first | exact ff h | cases h
section
variable {μ:Mp}{st:St}{s:Shared}
theorem Q1k (I:Inv W μ st s){n:Nat}{p:P}{xs:List V}{ds:List D}(h:st.t.get p=some (.list xs))(z:∀ x,VRs W μ xs x->∃ as,ReadsAll s.heap x (D.pys W ds) as)(x:Value)(r:VR W μ (.ref p) x):∃ as,Reads s.heap x ((D.list ds).py W) as:=by
 refine Y0 (Z6 I r h) ?_;intro a d ee2 m oo;subst ee2
 induction oo using OR.listE with
 | list hl hr hz =>
  obtain ⟨k,hl⟩:=hl;refine J2 (z _ hr) ?_;intro as z;exact ⟨_,by unfold D.py;exact .list hl rfl rfl z⟩
theorem Q7e (I:Inv W μ st s){n:Nat}{p:P}{xs:List V}{ds:List D}(h:st.t.get p=some (.tup xs))(z:∀ x,VRs W μ xs x->∃ as,ReadsAll s.heap x (D.pys W ds) as)(x:Value)(r:VR W μ (.ref p) x):∃ as,Reads s.heap x ((D.tup ds).py W) as:=by
 refine Y0 (Z6 I r h) ?_;intro a d ee2 m oo;subst ee2
 induction oo using OR.tupE with
 | tup hl hr hz =>
  refine J2 (z _ hr) ?_;intro as z;exact ⟨_,by unfold D.py;exact .tuple hl rfl rfl z⟩
theorem Q1m {v:V}{d:D}{vs:List V}{ds:List D}(h:∀ x,VR W μ v x->∃ as,Reads s.heap x (d.py W) as)(t:∀ x,VRs W μ vs x->∃ as,ReadsAll s.heap x (D.pys W ds) as)(x:List Value)(r:VRs W μ (v :: vs) x):∃ as,ReadsAll s.heap x (D.pys W (d :: ds)) as:=by
 induction r using VRs.consE with
 | cons a b =>
  refine J2 (h _ a) ?_;intro as z;refine J2 (t _ b) ?_;intro bs z';exact ⟨_,by unfold D.pys;exact .cons z z'⟩
theorem V1 (I:Inv W μ st s){n:Nat}{v:V}{d:D}{x:Value}(h:Rd st n v d)(r:VR W μ v x):∃ as,Reads s.heap x (d.py W) as :=
 @Rd.rec st (λU v d U=>∀ x,VR W μ v x->∃ as,Reads s.heap x (d.py W) as) (λU v d U=>∀ x,VRs W μ v x->∃ as,ReadsAll s.heap x (D.pys W d) as)
  (λx r=>by induction r using VR.noneE;exact ⟨_,by unfold D.py;exact .none⟩)
  (λi x r=>by induction r using VR.intE;exact ⟨_,by unfold D.py;exact .int ..⟩)
  (λk h x r=>by induction r using VR.strE;exact ⟨_,by unfold D.py;exact .str ..⟩)
  (λ{n _ _ _} h _ ih=>Q1k (n:=n) I h ih) (λ{n _ _ _} h _ ih=>Q7e (n:=n) I h ih)
  (λx r=>by induction r using VRs.nilE;exact ⟨_,by unfold D.pys;exact .nil⟩)
  (λU U a b=>Q1m a b) n v d h x r
end
section
variable {st:St}
theorem Ta {n:Nat}{ds:List D}(this:PyData.canLayAll0 (D.pys W ds)=true/\PyData.depthAll (D.pys W ds)<=n):((D.list ds).py W).canLay0=true/\((D.list ds).py W).depth<=n+1:=by
 unfold D.py PyData.canLay0 PyData.depth;exact ⟨this.1,Nat.succ_le_succ this.2⟩
theorem Cx {n:Nat}{ds:List D}(this:PyData.canLayAll0 (D.pys W ds)=true/\PyData.depthAll (D.pys W ds)<=n):((D.tup ds).py W).canLay0=true/\((D.tup ds).py W).depth<=n+1:=by
 unfold D.py PyData.canLay0 PyData.depth;exact ⟨this.1,Nat.succ_le_succ this.2⟩
theorem Tb {n:Nat}{d:D}{ds:List D}(a:(d.py W).canLay0=true/\(d.py W).depth<=n)(b:PyData.canLayAll0 (D.pys W ds)=true/\PyData.depthAll (D.pys W ds)<=n):PyData.canLayAll0 (D.pys W (d :: ds))=true/\PyData.depthAll (D.pys W (d :: ds))<=n:=by
 unfold D.pys PyData.canLayAll0 PyData.depthAll;exact ⟨by rw [a.1,b.1];rfl,Nat.max_le.mpr ⟨a.2,b.2⟩⟩
theorem Ju (w:Wf W){n:Nat}{v:V}{d:D}(h:Rd st n v d):(d.py W).canLay0=true/\(d.py W).depth<=n :=
 @Rd.rec st (λn U d U=>(d.py W).canLay0=true/\(d.py W).depth<=n) (λn U d U=>PyData.canLayAll0 (D.pys W d)=true/\PyData.depthAll (D.pys W d)<=n)
  (by unfold D.py;exact ⟨rfl,Nat.zero_le _⟩) (λi=>by unfold D.py;exact ⟨rfl,Nat.zero_le _⟩)
  (λk h=>by unfold D.py;exact ⟨by unfold PyData.canLay0;exact w.txt k h,Nat.zero_le _⟩)
  (λU U ih=>Ta ih) (λU U ih=>Cx ih) (by unfold D.pys;exact ⟨rfl,Nat.zero_le _⟩) (λU U a b=>Tb a b) n v d h
theorem Cy (w:Wf W){n:Nat}{v:List V}{d:List D}(h:Rds st n v d):PyData.canLayAll0 (D.pys W d)=true/\PyData.depthAll (D.pys W d)<=n :=
 @Rds.rec st (λn U d U=>(d.py W).canLay0=true/\(d.py W).depth<=n) (λn U d U=>PyData.canLayAll0 (D.pys W d)=true/\PyData.depthAll (D.pys W d)<=n)
  (by unfold D.py;exact ⟨rfl,Nat.zero_le _⟩) (λi=>by unfold D.py;exact ⟨rfl,Nat.zero_le _⟩)
  (λk h=>by unfold D.py;exact ⟨by unfold PyData.canLay0;exact w.txt k h,Nat.zero_le _⟩)
  (λU U ih=>Ta ih) (λU U ih=>Cx ih) (by unfold D.pys;exact ⟨rfl,Nat.zero_le _⟩) (λU U a b=>Tb a b) n v d h
end
theorem Mm (w:Wf W){eq:D->D->(Bool->R)->R}(ih:∀ x y k,eq x y k=true->k (PyData.eqv (x.py W) (y.py W))=true):∀ {xs ys:List D}{k:Bool->R},eqDs eq xs ys k=true->k (PyData.eqvAll (D.pys W xs) (D.pys W ys))=true
 | [],[],_,h=>by unfold D.pys PyData.eqvAll;exact h
 | [],_ :: _,_,h=>by unfold D.pys PyData.eqvAll;exact h
 | _ :: _,[],_,h=>by unfold D.pys PyData.eqvAll;exact h
 | x :: xs,y :: ys,k,h=>by
  have h1:=ih x y _ h;unfold D.pys PyData.eqvAll;cases e:PyData.eqv (x.py W) (y.py W) with
  | true=>rw [e] at h1;rw [Bool.true_and];exact Mm w ih h1
  | false=>rw [e] at h1;rw [Bool.false_and];exact h1
theorem Ux (w:Wf W):∀ {n:Nat}{a b:D}{k:Bool->R},Q6m n a b k=true->k (PyData.eqv (a.py W) (b.py W))=true
 | 0,_,_,_,h=>by first | exact ff h | cases h
 | n+1,a,b,k,h=>by
  induction a using D.casesOn with
  | none=>induction b using D.casesOn <;> (unfold D.py PyData.eqv;exact h)
  | int i=>induction b using D.casesOn with
   | int j =>
    have h':k (eqI i j)=true:=h;unfold D.py PyData.eqv;rw [Mi] at h'
    first | exact h' | (simpa using h')
   | none=>unfold D.py PyData.eqv;exact h
   | str=>unfold D.py PyData.eqv;exact h
   | list=>unfold D.py PyData.eqv;exact h
   | tup=>unfold D.py PyData.eqv;exact h
  | str i=>induction b using D.casesOn with
   | str j =>
    have h':k (Nat.beq i j)=true:=h;unfold D.py PyData.eqv;have e:(W.tab i==W.tab j)=Nat.beq i j:=by
     cases q:Nat.beq i j with
     | true=>rw [Z8.mp q];exact beq_self_eq_true _
     | false=>exact beq_eq_false_iff_ne.mpr λz=>J3 q (w.inj _ _ z)
    first
     | (rw [e];exact h')
     | ((have e2:decide (W.tab i=W.tab j)=Nat.beq i j:=(by rw [<-e];rfl));rw [e2];exact h')
   | none=>unfold D.py PyData.eqv;exact h
   | int=>unfold D.py PyData.eqv;exact h
   | list=>unfold D.py PyData.eqv;exact h
   | tup=>unfold D.py PyData.eqv;exact h
  | list xs=>induction b using D.casesOn with
   | list ys=>unfold D.py PyData.eqv;exact Mm w (λx y k h=>Ux w h) h
   | none=>unfold D.py PyData.eqv;exact h
   | int=>unfold D.py PyData.eqv;exact h
   | str=>unfold D.py PyData.eqv;exact h
   | tup=>unfold D.py PyData.eqv;exact h
  | tup xs=>induction b using D.casesOn with
   | tup ys=>unfold D.py PyData.eqv;exact Mm w (λx y k h=>Ux w h) h
   | none=>unfold D.py PyData.eqv;exact h
   | int=>unfold D.py PyData.eqv;exact h
   | str=>unfold D.py PyData.eqv;exact h
   | list=>unfold D.py PyData.eqv;exact h
structure EqR (W:Wd)(st:St)(a b:V)(c:Bool)(x y:D):Prop where
 ra:Rd st 8 a x
 rb:Rd st 8 b y
 is:c=PyData.eqv (x.py W) (y.py W)
theorem Q1n (w:Wf W){st:St}{a b:V}{k:Bool->R}(h:eqV st a b k=true):∃ c,k c=true/\∃ x y,EqR W st a b c x y:=by
 refine Q3 (V0 h) ?_;intro x h ra;refine Q3 (V0 h) ?_;intro y h rb;exact ⟨_,Ux w h,x,y,ra,rb,rfl⟩
theorem Mn (w:Wf W){a:D}:∀ {xs:List D}{k:Bool->R},memD a xs k=true->k ((D.pys W xs).any λy=>PyData.eqv y (a.py W))=true
 | [],_,h=>by unfold D.pys;exact h
 | x :: r,k,h=>by
  have h1:=Ux w (show Q6m 8 x a _=true from h);unfold D.pys;rw [List.any_cons];cases e:PyData.eqv (x.py W) (a.py W) with
  | true=>rw [e] at h1;exact h1
  | false=>rw [e] at h1;rw [Bool.false_or];exact Mn w h1
end
section
variable {W:Wd}
noncomputable def cmc:Cm->CmpOp | .eq=>.Eq | .ne=>.NotEq | .lt=>.Lt | .le=>.LtE | .gt=>.Gt | .ge=>.GtE | .is=>.Is | .isnot=>.IsNot | .isin=>.In | .notin=>.NotIn
theorem Mq (w:Wf W){μ:Mp}{n:Nat}:∀ {es:List (Nat × V)}{kvs:List (Str × Value)},KVs W μ es kvs->match Y6 es n with
  | some v=>∃ x,valueAt kvs (W.tab n)=some x/\VR W μ v x
  | none=>valueAt kvs (W.tab n)=none
 | _,_,.nil=>rfl
 | _,_,.cons (k:=k) (x:=x) (xs:=xs) h t=>by
  have ih:=Mq w (n:=n) t
  by_cases e:k=n
  ·subst e
   simp only [Y6,if_true];exact Z0 x (by simp [valueAt]) h
  ·have ne:¬ W.tab k=W.tab n:=λq=>e (w.inj _ _ q)
   have e2:valueAt ((W.tab k,x) :: xs) (W.tab n)=valueAt xs (W.tab n):=by simp [valueAt,ne]
   simp only [Y6,e,if_false,e2];exact ih
theorem Mr {b:Bool}{k:Bool->R}(h:Q0k b k=true):k (!b)=true:=by induction b using Bool.casesOn <;> exact h
theorem Jv {prog:Program}{w:World}(x:Str)(t:Tok):(strKind prog w).is x (.str x t)=true:=by
 show Value.isStrOf x (.str x t)=true
 simp [Value.isStrOf]
theorem Jw {b:V}{k:Unit->R}(h:Md b k=true):b=.none/\k ()=true:=by induction b using V.casesOn <;> first | exact ff h | (cases h;done) | exact ⟨rfl,h⟩
set_option tactic.hygienic true in
theorem Q1p (w:Wf W){st:St}{a:V}{p:P}{o:O}{k:Bool->R}(ho:st.t.get p=some o)(h:inV st a o k=true):∃ c,k c=true /\
  ∀ {A:Around}{μ:Mp}{s:Shared}{x y:Value},A.units+200<=cLine->Inv W μ st s->VR W μ a x->VR W μ (.ref p) y ->
   (Run W A μ s (compareOp .In x y) λμ' s' z=>Inv W μ' st s'/\z=.bool c)/\(Run W A μ s (compareOp .NotIn x y) λμ' s' z=>Inv W μ' st s'/\z=.bool (!c)):=by
 induction o using O.casesOn with
 | list xs =>
  unfold inV Q6n at h;refine Q3 (V0 h) ?_;intro d h rd;refine Q3 (P3 (λv k h=>V0 h) h) ?_;intro ds h rds;refine Z0 _ (Mn w h) (λ{A μ s x y} hu I ra rb=>?_);refine J2 (V1 I (.list ho rds) rb) ?_;intro as r1;refine J2 (V1 I rd ra) ?_;intro bs r2;have l1:=Cy w rds;have l2:=Ju w rd;unfold D.py at r1;have room:A.units+1+min (PyData.depthAll (D.pys W ds)) (d.py W).depth<cLine:=by have:=Nat.min_le_right (PyData.depthAll (D.pys W ds)) (d.py W).depth;lia
  exact ⟨in_list_reads r1 r2 l1.1 l2.1 room ⟨_,.refl ..,I,rfl⟩,notIn_list_reads r1 r2 l1.1 l2.1 room ⟨_,.refl ..,I,rfl⟩⟩
 | tup xs =>
  unfold inV Q6n at h;refine Q3 (V0 h) ?_;intro d h rd;refine Q3 (P3 (λv k h=>V0 h) h) ?_;intro ds h rds;refine Z0 _ (Mn w h) (λ{A μ s x y} hu I ra rb=>?_);refine J2 (V1 I (.tup ho rds) rb) ?_;intro as r1;refine J2 (V1 I rd ra) ?_;intro bs r2;have l1:=Cy w rds;have l2:=Ju w rd;unfold D.py at r1;have room:A.units+1+min (PyData.depthAll (D.pys W ds)) (d.py W).depth<cLine:=by have:=Nat.min_le_right (PyData.depthAll (D.pys W ds)) (d.py W).depth;lia
  exact ⟨in_tuple_reads r1 r2 l1.1 l2.1 room ⟨_,.refl ..,I,rfl⟩,notIn_tuple_reads r1 r2 l1.1 l2.1 room ⟨_,.refl ..,I,rfl⟩⟩
 | dict es =>
  refine Q3 (X4 (show S7 a _=true from h)) ?_;intro n ee1 h2;subst ee1;have key:k (Y6 es n).isSome=true:=by
   rcases Ym h2 with ⟨v,e,q⟩ | ⟨e,q⟩
   ·rw [e];exact q
   ·rw [e];exact q
  refine Z0 _ key (λ{A μ s x y} hu I ra rb=>?_);refine Y0 (Z6 I rb ho) ?_;intro a d ee2 m oo;subst ee2
  induction ra using VR.strE
  induction oo using OR.dictE with
  | dict hd hr hz =>
   rename_i kvs;have z:=Mq w (n:=n) hr;have e:(valueAt kvs (W.tab n)).isSome=(Y6 es n).isSome:=by
    cases q:Y6 es n with
    | some v=>rw [q] at z;refine Q3 z ?_;intro x zx _;rw [zx];rfl
    | none=>rw [q] at z;rw [z];rfl
   exact ⟨wpAny_in_of (Jv _ _) (I.notSys w m) hd.mapOf ⟨_,.toks ..,I.toks _,by rw [e]⟩,wpAny_notIn_of (Jv _ _) (I.notSys w m) hd.mapOf ⟨_,.toks ..,I.toks _,by rw [e]⟩⟩
 | inst=>first | exact ff h | cases h
 | cell=>first | exact ff h | cases h
 | clos=>first | exact ff h | cases h
theorem Hm {a:V}{k:Bool->R}(h:Xn a k=true):∃ c,k c=true/\∀ {A:Around}{μ:Mp}{s:Shared}{st:St}{x:Value},Inv W μ st s->VR W μ a x ->
   (Run W A μ s (compareOp .Is x .none) λμ' s' z=>Inv W μ' st s'/\z=.bool c)/\(Run W A μ s (compareOp .IsNot x .none) λμ' s' z=>Inv W μ' st s'/\z=.bool (!c)):=by
 induction a using V.casesOn with
 | none=>exact Z0 true h (λI r=>by induction r using VR.noneE;exact ⟨wpAny_is_self rfl ⟨_,.refl ..,I,rfl⟩,wpAny_isNot_self rfl ⟨_,.refl ..,I,rfl⟩⟩)
 | bool=>exact Z0 false h (λI r=>by induction r using VR.boolE;exact ⟨wpAny_is_other rfl (λe=>by cases e) ⟨_,.refl ..,I,rfl⟩,wpAny_isNot_other rfl (λe=>by cases e) ⟨_,.refl ..,I,rfl⟩⟩)
 | int=>exact Z0 false h (λI r=>by induction r using VR.intE;exact ⟨wpAny_is_other rfl (λe=>by cases e) ⟨_,.refl ..,I,rfl⟩,wpAny_isNot_other rfl (λe=>by cases e) ⟨_,.refl ..,I,rfl⟩⟩)
 | str=>exact Z0 false h (λI r=>by induction r using VR.strE;exact ⟨wpAny_is_other rfl (λe=>by cases e) ⟨_,.refl ..,I,rfl⟩,wpAny_isNot_other rfl (λe=>by cases e) ⟨_,.refl ..,I,rfl⟩⟩)
 | ref=>exact Z0 false h (λI r=>by induction r using VR.refE;exact ⟨wpAny_is_other rfl (λe=>by cases e) ⟨_,.refl ..,I,rfl⟩,wpAny_isNot_other rfl (λe=>by cases e) ⟨_,.refl ..,I,rfl⟩⟩)
 | fn=>exact Z0 false h (λI r=>by induction r using VR.fnE;exact ⟨wpAny_is_other rfl (λe=>by cases e) ⟨_,.refl ..,I,rfl⟩,wpAny_isNot_other rfl (λe=>by cases e) ⟨_,.refl ..,I,rfl⟩⟩)
 | cls=>exact Z0 false h (λI r=>by induction r using VR.clsE;exact ⟨wpAny_is_other rfl (λe=>by cases e) ⟨_,.refl ..,I,rfl⟩,wpAny_isNot_other rfl (λe=>by cases e) ⟨_,.refl ..,I,rfl⟩⟩)
theorem Qs (w:Wf W){op:Cm}{st:St}{a b:V}{k:Bool->R}(h:Rf op st a b k=true):∃ c,k c=true /\
  ∀ {A:Around}{μ:Mp}{s:Shared}{x y:Value},A.units+200<=cLine->Inv W μ st s->VR W μ a x->VR W μ b y->Run W A μ s (compareOp (cmc op) x y) λμ' s' z=>Inv W μ' st s'/\z=.bool c:=by
 induction op using Cm.casesOn with
 | eq =>
  obtain ⟨c,hc,x,y,r⟩:=Q1n w (show eqV st a b k=true from h);refine Z0 c hc (λhu I ra rb=>?_);refine J2 (V1 I r.ra ra) ?_;intro as r1;refine J2 (V1 I r.rb rb) ?_;intro bs r2;have l1:=Ju w r.ra;have l2:=Ju w r.rb;rw [r.is];exact compareEq_reads r1 r2 l1.1 l2.1 (by have:=Nat.min_le_right (x.py W).depth (y.py W).depth;lia) ⟨_,.refl ..,I,rfl⟩
 | ne =>
  obtain ⟨c,hc,x,y,r⟩:=Q1n w (show eqV st a b (λc=>Q0k c k)=true from h);refine Z0 (!c) (Mr hc) (λhu I ra rb=>?_);refine J2 (V1 I r.ra ra) ?_;intro as r1;refine J2 (V1 I r.rb rb) ?_;intro bs r2;have l1:=Ju w r.ra;have l2:=Ju w r.rb;rw [r.is];exact compareNe_reads r1 r2 l1.1 l2.1 (by have:=Nat.min_le_right (x.py W).depth (y.py W).depth;lia) ⟨_,.refl ..,I,rfl⟩
 | lt =>
  refine Q3 (Y7 (show K7 a _=true from h)) ?_;intro i ee1 h2;subst ee1;refine Q3 (Y7 h2) ?_;intro j ee1 h3;subst ee1;exact Z0 _ h3 (λU I ra rb=>by induction ra using VR.intE;induction rb using VR.intE;exact wpAny_lt_int ⟨_,.refl ..,I,by rw [E5]⟩)
 | le =>
  refine Q3 (Y7 (show K7 a _=true from h)) ?_;intro i ee1 h2;subst ee1;refine Q3 (Y7 h2) ?_;intro j ee1 h3;subst ee1;exact Z0 _ h3 (λU I ra rb=>by induction ra using VR.intE;induction rb using VR.intE;exact PyProof.Rows.le_int ⟨_,.refl ..,I,by rw [Mh]⟩)
 | gt =>
  refine Q3 (Y7 (show K7 a _=true from h)) ?_;intro i ee1 h2;subst ee1;refine Q3 (Y7 h2) ?_;intro j ee1 h3;subst ee1;exact Z0 _ h3 (λU I ra rb=>by induction ra using VR.intE;induction rb using VR.intE;exact PyProof.Rows.gt_int ⟨_,.refl ..,I,by rw [E5]⟩)
 | ge =>
  refine Q3 (Y7 (show K7 a _=true from h)) ?_;intro i ee1 h2;subst ee1;refine Q3 (Y7 h2) ?_;intro j ee1 h3;subst ee1;exact Z0 _ h3 (λU I ra rb=>by induction ra using VR.intE;induction rb using VR.intE;exact PyProof.Rows.ge_int ⟨_,.refl ..,I,by rw [Mh]⟩)
 | is =>
  unfold Rf at h;refine Q6 (Jw h) ?_;intro ee0 h2;subst ee0;refine Q3 (Hm (W:=W) h2) ?_;intro c h3 r;exact Z0 c h3 (λU I ra rb=>by induction rb using VR.noneE;exact (r I ra).1)
 | isnot =>
  unfold Rf at h;refine Q6 (Jw h) ?_;intro ee0 h2;subst ee0;refine Q3 (Hm (W:=W) h2) ?_;intro c h3 r;exact Z0 (!c) (Mr h3) (λU I ra rb=>by induction rb using VR.noneE;exact (r I ra).2)
 | isin =>
  refine Y0 (Y1 (show G2 st b _=true from h)) ?_;intro p o ee2 ho h2;subst ee2;refine Q3 (Q1p w ho h2) ?_;intro c h3 r;exact Z0 c h3 (λhu I ra rb=>(r hu I ra rb).1)
 | notin =>
  refine Y0 (Y1 (show G2 st b _=true from h)) ?_;intro p o ee2 ho h2;subst ee2;refine Q3 (Q1p w ho h2) ?_;intro c h3 r;exact Z0 (!c) (Mr h3) (λhu I ra rb=>(r hu I ra rb).2)
section
variable {C:Cls}{ev:Ev}
theorem se_cmp (w:Wf W)(hu:∀ A env,C A env->A.units+200<=cLine){op:Cm}{a b:E}{ea eb:Expr}{pos:Pos}(ha:SE W C (ev a) (eval ea))(hb:SE W C (ev b) (eval eb))(hm:behindInMarks (cmc op) eb=false) :
  SE W C (Q6t ev op a b) (eval (.Compare ea [cmc op] [eb] pos)):=λcs l st k q=>by
 obtain ⟨v,st1,q,r1⟩:=ha cs l st _ q;obtain ⟨u,st2,q,r2⟩:=hb cs l st1 _ q;refine Q3 (Qs w q) ?_;intro c q r3;exact ⟨.bool c,st2,q,λA env X μ s I N=>wpAny_Compare1 ((r1 A env X μ s I N).step λμ' s' x e z=>(r2 A env X μ' s' z.1 (N.ext e)).step λμ'' s'' y e' z'=>(r3 (hu A env X) z'.1 (z.2.mono e'.sub) z'.2).done (e.trans e') λU U U U q=>by refine Q6 q ?_;intro a ee1;subst ee1;exact ⟨a,.bool _⟩) hm⟩
theorem Q1q (w:Wf W)(hu:∀ A env,C A env->A.units+200<=cLine){op:Cm}{a b:E}{ea eb:Expr}{pos:Pos}{whole:Env->Sem Value}(ha:SE W C (ev a) (eval ea))(hb:SE W C (ev b) (eval eb))(hm:behindInMarks (cmc op) eb=false) :
  SB W C (Q6t ev op a b) (λenv=>isTrue (.Compare ea [cmc op] [eb] pos) env (whole env)):=λcs l st k q=>by
 obtain ⟨v,st1,q,r1⟩:=ha cs l st _ q;obtain ⟨u,st2,q,r2⟩:=hb cs l st1 _ q;refine Q3 (Qs w q) ?_;intro c q r3;refine Q9 (.bool c) st2 q (λb hb A env X μ s I N=>wpAny_isTrue_Compare1 ((r1 A env X μ s I N).step λμ' s' x e z=>(r2 A env X μ' s' z.1 (N.ext e)).step λμ'' s'' y e' z'=>(r3 (hu A env X) z'.1 (z.2.mono e'.sub) z'.2).step λμ3 s3 t e3 z3=>?_) hm);obtain ⟨z3,rfl⟩:=z3;cases hb;exact wpAny_truthy_bool ⟨μ3,e.trans (e'.trans e3),z3,rfl⟩
end
end
section
section raw
variable {prog:Program}{w:World}{A:Around}{E:Value->Shared->Prop}{s:Shared}{K:Frag}{x C dx:Addr}{ox:Obj}{es:List DictEntry}{n:Nat}{name:Str}{v:Value}
theorem Gq {hsh:Int}{key:Value}:∀ {es:List DictEntry},(∀ e∈es,∃ n t,e.key=.str n t)->(putL name hsh key v es).length=if getL name es=some none then es.length+1 else es.length
 | [],_=>by simp [putL,getL]
 | e :: r,hk=>by
  refine Jp (hk e (.head _)) ?_;intro k t he;have ih:=Gq (hsh:=hsh) (key:=key) (es:=r) λx hx=>hk x (.tail _ hx);unfold putL;cases q:e.key.isStr name with
  | true=>simp [getL,q]
  | false =>
   have z:getL name (e :: r)=getL name r:=by
    have rk:e.refKey=false:=by simp [DictEntry.refKey,he]
    unfold getL;rw [List.find?_cons_of_neg (by simp [q]),List.any_cons,rk,Bool.false_or]
   rw [z];simp only [Bool.false_eq_true,if_false,List.length_cons,ih]
   split <;> rfl
theorem Q7f {R:Result->Shared->Prop}{tk:Tok}(X:K.In s.heap)(I:InstAt s.heap x ox C (some (dictOf es n)))(hd:ox.dict=some dx)
  (hp:plainOver K C=true)(ht:takerIn K C name=some none)(hh:hasDictIn K C=true)(hk:∀ e∈es,∃ n t,e.key=.str n t)(hz:es.length<=1000)
  (h:∀ h' n' hsh tk,h'.get? dx=some (dictOf (putL name hsh (.str name tk) v es) n')->Heap.SameBut dx s.heap h'->R (.ok (.ret .none)) { s with heap:=h',toks:=s.toks+1 }) :
  codeAny (model prog w) A (.call (.builtin "object.__setattr__") ⟨[.ref x,.str name tk,v],[]⟩) R s:=by
 refine Q3 (any_some hh) ?_;intro cd hc hd';refine osa_open X I hp ht λb=>?_;refine byC λζ=>?_;obtain ⟨hx,hcl,hn,hD⟩:=I;obtain ⟨oc,odi,oda,osl⟩:=ox;dsimp only at hcl hd hD;subst hcl hd;dsimp only at hD;refine ζ ?_;refine wpAny_bind (wpAny_pure (wpAny_bind (wpAny_bind (wpAny_loadPart hx (wpAny_bind ((looks_clsIn X hc).here ?_))))));rw [hd'];refine wpAny_pure (a:=some dx) (wpAny_bind (wpAny_pure (wpAny_bind ?_)));unfold nsSet;refine wpAny_bind (wpAny_bind (wpAny_askSetting (wpAny_pure (wpAny_bind (wpAny_mkText (wpAny_bind (wpAny_loadPart hD ?_)))))));have c:(!es.toArray.any (·.key.isStr name)&&es.toArray.any (·.refKey))=false:=by
  have:es.toArray.any (·.refKey)=false:=by
   rw [Array.any_eq_false'];intro e he;refine Jp (hk e (by simpa using he)) ?_;intro n t h;simp [DictEntry.refKey,h]
  rw [this,Bool.and_false]
 dsimp only;rw [aRefKeyMayBeTheName_at,c];refine wpAny_updatePart hD ?_;have e2:(s.heap.update dx (Obj.putName name (PyData.keyHash w.params name) (.str name s.toks) v)).get? dx=some (dictOf (putL name (PyData.keyHash w.params name) (.str name s.toks) v es) (putN name es n)):=by
  rw [Heap.get?_update_self _ hD (by rw [putName_dict];rfl),putName_dict]
 refine wpAny_bind (wpAny_lookBehind e2 (pastItsLine_dict (by rw [List.size_toArray,sizeLine_eq,Gq hk];split <;> lia)) ?_);exact wpAny_pure (h _ _ _ _ e2 (Heap.SameBut.update ..))
theorem Tc {Q:Unit->Shared->Prop}(X:K.In s.heap)(I:InstAt s.heap x ox C (some (dictOf es n)))(hd:ox.dict=some dx)
  (hs:findIn K (.ref C) "__setattr__"=some (some (.builtin "object.__setattr__")))(hp:plainOver K C=true)(ht:takerIn K C name=some none)(hh:hasDictIn K C=true)(hk:∀ e∈es,∃ n t,e.key=.str n t)(hz:es.length<=1000)
  (h:∀ h' n' hsh tk,h'.get? dx=some (dictOf (putL name hsh (.str name tk) v es) n')->Heap.SameBut dx s.heap h'->Q () { s with heap:=h',toks:=s.toks+2 }) :
  wpAny (model prog w) A (setAttr (.ref x) name v) Q E s :=
 set_plain X I hs (Q7f (s:={ s with toks:=s.toks+1 }) X I hd hp ht hh hk hz λh' n' hsh tk a b=>h h' n' hsh tk a b)
theorem Qt {m:Str}{hsh:Int}{tk:Tok}:∀ {es:List DictEntry},(∀ e∈es,∃ n t,e.key=.str n t)->getL m (putL name hsh (.str name tk) v es)=if name=m then some (some v) else getL m es
 | [],_=>by
  unfold putL getL
  by_cases e:name=m
  ·subst e;simp [Value.isStr]
  ·have:(name==m)=false:=by simpa using e
   simp [Value.isStr,this,e,DictEntry.refKey]
 | e :: r,hk=>by
  refine Jp (hk e (.head _)) ?_;intro k t he;have hr:∀ x∈r,∃ n t,x.key=.str n t:=λx hx=>hk x (.tail _ hx);have nr:∀ l:List DictEntry,(∀ x∈l,∃ n t,x.key=.str n t)->l.any (·.refKey)=false:=λl hl=>by
   rw [List.any_eq_false];intro x hx;refine Jp (hl x hx) ?_;intro n t h;simp [DictEntry.refKey,h]
  have ih:=Qt (m:=m) (hsh:=hsh) (tk:=tk) (es:=r) hr;unfold putL;cases q:e.key.isStr name with
  | true =>
   have kn:k=name:=by rw [he] at q;simpa [Value.isStr] using q
   subst kn;simp only [if_true];unfold getL
   by_cases em:k=m
   ·subst em;simp [he,Value.isStr]
   ·have:(k==m)=false:=by simpa using em
    simp [he,Value.isStr,this,em,DictEntry.refKey]
  | false =>
   simp only [Bool.false_eq_true,if_false];have kn:k≠name:=by rw [he] at q;simpa [Value.isStr] using q
   unfold getL at ih ⊢
   by_cases em:k=m
   ·subst em
    have:¬ name=k:=λz=>kn z.symm;simp [he,Value.isStr,this]
   ·have z:(k==m)=false:=by simpa using em
    simp only [List.find?_cons,he,Value.isStr,z,List.any_cons,DictEntry.refKey,Bool.false_or];exact ih
end raw
variable {W:Wd}
set_option tactic.hygienic true in
theorem Jx {c k:Nat}(h:Mk W c k=true):plainGet W.K (W.ca c) (W.tab k)=true/\hasDictIn W.K (W.ca c)=true/\(∃ a,findIn W.K (.ref (W.ca c)) (W.tab k)=some a/\noGet W.K a=true) /\
  findIn W.K (.ref (W.ca c)) "__setattr__"=some (some (.builtin "object.__setattr__"))/\plainOver W.K (W.ca c)=true/\takerIn W.K (W.ca c) (W.tab k)=some none:=by
 unfold Mk at h;simp only [Bool.and_eq_true,beq_iff_eq] at h;refine Q6 h ?_;intro zz0 f;obtain ⟨⟨⟨⟨a,b⟩,c⟩,d⟩,e⟩:=zz0;refine ⟨a,b,?_,d,e,f⟩
 split at c
 ·rename_i x q;exact Z0 x q c
 ·cases c
theorem Hn {μ:Mp}{v:V}{x:Value}(h:VR W μ v x):handedIn x=true:=by cases h <;> rfl
theorem InsR.get {μ:Mp}{es:List (Nat × V)}{des:List DictEntry}(r:InsR W μ es des){k:Nat}{v:V}(h:Y6 es k=some v):∃ x,getL (W.tab k) des=some (some x)/\VR W μ v x:=by
 have:=r.2.2 k;rw [h] at this;exact this
theorem InsR.none {μ:Mp}{es:List (Nat × V)}{des:List DictEntry}(r:InsR W μ es des){k:Nat}(h:Y6 es k=none):getL (W.tab k) des=some none:=by
 have:=r.2.2 k;rw [h] at this;exact this
theorem Td (w:Wf W){st:St}{a:V}{n:Nat}{k:V->R}(hn:n∈W.names)(h:Q0n st a n k=true):∃ v,k v=true /\
  ∀ {A:Around}{μ:Mp}{s:Shared}{x:Value}{expr:Bool},Inv W μ st s->VR W μ a x->Run W A μ s (getAttr x (W.tab n) expr) λμ' s' z=>Inv W μ' st s'/\VR W μ' v z:=by
 refine Y0 (Y1 h) ?_;intro p o ee2 ho h;subst ee2
 induction o using O.casesOn with
 | inst c es =>
  refine Q3 (G0 h) ?_;intro v hv h;refine Z0 v h (λI ra=>?_);refine Y0 (Z6 I ra ho) ?_;intro a d ee2 m oo;subst ee2
  induction oo using OR.instE with
  | inst hc hi hd hr hz ne =>
   refine byC λζ=>?_;refine X0_6 (Jx (w.attrs c n hc hn)) ?_;intro a1 a2 zz2 a5 a6 a7;obtain ⟨at',a3,a4⟩:=zz2;refine Q3 (hr.get hv) ?_;intro x hx rx;refine ζ ?_;exact get_value (I.K w) ⟨hi,rfl,rfl,hd⟩ (plainGet_of a1).1 (findObj_own a2 a3 a4 (show lookIn (W.tab n) (dictOf _ _)=some (some x) from hx)) (Hn rx) ⟨_,.toks ..,I.toks _,rx⟩
 | list=>first | exact ff h | cases h
 | tup=>first | exact ff h | cases h
 | dict=>first | exact ff h | cases h
 | cell=>first | exact ff h | cases h
 | clos=>first | exact ff h | cases h
set_option tactic.hygienic true in
theorem Te (w:Wf W){st:St}{a:V}{n:Nat}{v:V}{k:St->R}(hn:n∈W.names)(h:Q0p st a n v k=true):∃ st',k st'=true /\
  ∀ {A:Around}{μ:Mp}{s:Shared}{x y:Value},Inv W μ st s->VR W μ a x->VR W μ v y->Run W A μ s (setAttr x (W.tab n) y) λμ' s' U=>Inv W μ' st' s'/\μ'=μ:=by
 refine Y0 (Y1 h) ?_;intro p o ee2 ho h;subst ee2
 induction o using O.casesOn with
 | inst c es =>
  refine byC λζ=>?_;refine K0 (Mg h) ?_;intro es' h l1 l2;refine Q6 (D3 h) ?_;intro hz h;refine Q3 (I8 h) ?_;intro st' h sr;refine ζ ?_;refine Z0 st' h (λ{A μ s x y} I ra rv=>?_);refine Y0 (Z6 I ra ho) ?_;intro a d ee2 m oo;subst ee2
  induction oo using OR.instE with
  | inst hc hi hd hr hz' ne =>
   rename_i des _;refine X0_6 (Jx (w.attrs c n hc hn)) ?_;intro a1 a2 zz2 a5 a6 a7;obtain ⟨at',a3,a4⟩:=zz2;refine Tc (I.K w) ⟨hi,rfl,rfl,hd⟩ rfl a5 a6 a7 a2 hr.1 (by rw [hr.2.1];exact hz') λh' n' hsh tk e2 sb=>?_;have hi':h'.get? a=some (instObj (W.ca c) d):=by rw [sb.2 a ne];exact hi
   have hI:InsR W μ es' (putL (W.tab n) hsh (.str (W.tab n) tk) y des):=by
    refine ⟨?_,?_,λk=>?_⟩
    ·have key:∀ (l:List DictEntry),(∀ e∈l,∃ n t,e.key=.str n t)->∀ e∈putL (W.tab n) hsh (.str (W.tab n) tk) y l,∃ n t,e.key=.str n t:=by
      intro l
      induction l with
      | nil=>intro _ e he;simp [putL] at he;subst he;exact I2_1 _ _ rfl
      | cons b r ih =>
       intro hl e he;unfold putL at he
       split at he
       ·rcases List.mem_cons.mp he with rfl | he
        ·exact hl b (.head _)
        ·exact hl e (.tail _ he)
       ·rcases List.mem_cons.mp he with rfl | he
        ·exact hl e (.head _)
        ·exact ih (λe he=>hl e (.tail _ he)) e he
     exact key _ hr.1
    ·rw [Gq hr.1,l2,hr.2.1]
     cases q:Y6 es n with
     | some v'=>refine Q3 (hr.get q) ?_;intro x' hx' _;rw [if_neg (by rw [hx'];simp)];simp
     | none=>rw [if_pos (hr.none q)];simp
    ·rw [l1]
     by_cases e:k=n
     ·subst e;rw [if_pos rfl];exact Z0 y (by rw [Qt hr.1,if_pos rfl]) rv
     ·rw [if_neg e]
      have ne':¬ W.tab n=W.tab k:=λq=>e (w.inj _ _ q).symm;rw [Qt hr.1,if_neg ne'];exact hr.2.2 k
   refine Q6 (I.set (t:=s.toks+2) sr m (.inr ⟨rfl,Z1 e2⟩) sb (.inst hc hi' e2 hI hz ne)) ?_;intro ex I';exact J6 μ ex I' rfl
 | list=>first | exact ff h | cases h
 | tup=>first | exact ff h | cases h
 | dict=>first | exact ff h | cases h
 | cell=>first | exact ff h | cases h
 | clos=>first | exact ff h | cases h
end
section
variable {W:Wd}
noncomputable def vOf (W:Wd)(v:V)(x:Value):Bool:=by
 induction v using V.casesOn with
 | int i =>
  induction x using PySem.Value.casesOn with
  | int j=>exact i==j
  | _=>exact false
 | fn p =>
  induction x using PySem.Value.casesOn with
  | ref a=>exact a==W.fa p
  | _=>exact false
 | cls c =>
  induction x using PySem.Value.casesOn with
  | ref a=>exact a==W.ca c
  | _=>exact false
 | _=>exact false
noncomputable def X5 (W:Wd)(v:V)(n:Str):Bool:=match nsIn W.K mainGlobals n with
 | some (some x)=>vOf W v x
 | _=>false
theorem vOf_of {μ:Mp}{v:V}{x:Value}(h:vOf W v x=true):VR W μ v x:=by
 induction v using V.casesOn with
 | int i=>induction x using PySem.Value.casesOn <;> first | exact ff h | (rw [eq_of_beq (show (i==_)=true from h)];exact .int ..)
 | fn p=>induction x using PySem.Value.casesOn <;> first | exact ff h | (rw [eq_of_beq (show (_==W.fa p)=true from h)];exact .fn _)
 | cls c=>induction x using PySem.Value.casesOn <;> first | exact ff h | (rw [eq_of_beq (show (_==W.ca c)=true from h)];exact .cls _)
 | _=>exact ff h
set_option tactic.hygienic true in
theorem Uy (w:Wf W){C:Cls}{cs:Q4}{l:Loc}{st:St}{v:V}{n:Str}{pos:Pos}(h:X5 W v n=true)(hk:∀ A env,C A env->env.kindOf n=some .globalImplicit)(hd:(n==("__debug__":Str))=false):TE W C cs l st (eval (.Name n pos)) v st:=λA env X μ s I N=>by
 unfold X5 at h
 split at h
 ·rename_i x e
  refine J2 w.main ?_;intro mg hg;exact Name_function_global N.kind (hk A env X) (loadGlobal_global (mg:=mg) (by rw [N.glob];exact hg.keeps I.keep) (mg_of w.kin hg e) ⟨μ,.refl ..,I,vOf_of h⟩) hd
 ·cases h
noncomputable def Z5 (x:Expr):Bool:=by
 induction x using PySem.Expr.casesOn with
 | Starred=>exact false
 | _=>exact true
theorem Z4 {e:Expr}{r:List Expr}{env:Env}(h:Z5 e=true):starEach (e :: r) env=(false,eval e env) :: starEach r env:=by induction e using PySem.Expr.casesOn <;> first | rfl | cases h
noncomputable def TEs (W:Wd)(C:Cls)(cs:Q4)(l:Loc)(st:St)(t:Env->Sem (List Value))(v:List V)(st':St):Prop :=
 ∀ A env,C A env->∀ μ s,Inv W μ st s->EnvR W μ s env cs l->Run W A μ s (t env) λμ' s' x=>Inv W μ' st' s'/\VRs W μ' v x
inductive SEs (W:Wd)(C:Cls)(ev:Ev):List E->List Expr->Prop
 | nil:SEs W C ev [] []
 | cons {e:E}{x:Expr}{es:List E}{xs:List Expr}(hs:Z5 x=true)(h:SE W C (ev e) (eval x))(t:SEs W C ev es xs):SEs W C ev (e :: es) (x :: xs)
theorem SEs.run {C:Cls}{ev:Ev}{es:List E}{xs:List Expr}(S:SEs W C ev es xs):∀ {cs:Q4}{l:Loc}{st:St}{k:List V->St->R},evL ev es cs l st k=true ->
  ∃ vs st',k vs st'=true/\vs.length=es.length/\∀ pos,TEs W C cs l st (λenv=>spliced (backTo pos (starEach xs env))) vs st':=by
 induction S with
 | nil=>exact λ{cs l st k} h=>⟨[],st,h,rfl,λpos A env X μ s I N=>wpAny_pure ⟨μ,.refl ..,I,.nil⟩⟩
 | cons hs h t ih =>
  intro cs l st k q;refine byC λζ=>?_;obtain ⟨v,st1,q,r1⟩:=h cs l st _ q;refine Y0 (ih q) ?_;intro vs st2 q len r2;refine ζ ?_;refine Q0e (v :: vs) st2 q (by simp [len]) (λpos A env X μ s I N=>?_);dsimp only;rw [Z4 hs];refine wpAny_bind ((r1 A env X μ s I N).step λμ' s' x e z=>wpAny_bind (wpAny_pure ?_))
  show wpAny _ _ (do return [x]++(<-holding [x] (spliced (backTo pos (starEach _ env))))) _ _ _
  exact wpAny_bind (wpAny_holding ((r2 pos A env X μ' s' z.1 (N.ext e)).step λμ'' s'' y e' z'=>wpAny_pure ⟨μ'',e.trans e',z'.1,.cons (z.2.mono e'.sub) z'.2⟩))
section
variable {C:Cls}{ev:Ev}
theorem Xw {μ:Mp}{st st':St}{s:Shared}{xs:List V}{vs:List Value}{p:P}(I:Inv W μ st s)(al:AllocR st (.tup xs) p st')(hz:xs.length<=1000)(r:VRs W μ xs vs) :
  Run W A μ s (newTuple vs) λμ' s' x=>Inv W μ' st' s'/\VR W μ' (.ref p) x:=by
 have z:s.heap.objs.size<(s.heap.push { cls:=.type "tuple",data:=.seq vs.toArray }).objs.size:=by rw [Heap.size_push];exact Nat.lt_succ_self _
 obtain ⟨μ',b,c,d⟩:=I.alloc (t:=s.toks) al (λb x e=>Heap.get?_push_of_some _ e) (Heap.get?_none_of_le (Nat.le_refl _)) (Heap.get?_none_of_le (Nat.le_refl _)) (Z1 (Heap.get?_push_size _ rfl)) (Z1 (Heap.get?_push_size _ rfl))
  λμ' sub=>.tup (Heap.get?_push_size _ rfl) (by simpa using r.mono sub) hz
 exact wpAny_newTuple ⟨μ',b,c,.ref d⟩ (by rw [<-r.length,sizeLine_eq];lia)
theorem Gr {μ:Mp}{st st':St}{s:Shared}{xs:List V}{vs:List Value}{v:V}(I:Inv W μ st s)(al:NewL st xs v st')(r:VRs W μ xs vs) :
  Run W A μ s (PySem.newList vs) λμ' s' x=>Inv W μ' st' s'/\VR W μ' v x:=by
 refine K0 (I.newList (t:=s.toks) (its:=vs.toArray) al (by simpa using r)) ?_;intro μ' b c d;exact wpAny_newList ⟨μ',b,c,d⟩ (by rw [<-r.length,sizeLine_eq];have:=al.le;lia)
theorem se_lst {es:List E}{xs:List Expr}{pos:Pos}(h:SEs W C ev es xs):SE W C (hLst ev es) (eval (.List xs pos)):=λcs l st k q=>by
 refine byC λζ=>?_;refine Y0 (h.run q) ?_;intro vs st1 q _ r1;refine Q7 (B1 q) ?_;intro v st2 q al;refine ζ ?_;exact ⟨v,st2,q,λA env X μ s I N=>List_ ((r1 pos A env X μ s I N).step λμ' s' x e z=>(Gr z.1 al z.2).fin e)⟩
theorem se_tup {es:List E}{xs:List Expr}{n:Nat}{pos:Pos}(h:SEs W C ev es xs):SE W C (hTup ev es) (eval (.Tuple xs n pos)):=λcs l st k q=>by
 refine byC λζ=>?_;refine Y0 (h.run q) ?_;intro vs st1 q _ r1;refine Q6 (D3 q) ?_;intro hz q;refine Q7 (H4 q) ?_;intro p st2 q al;refine ζ ?_;exact ⟨.ref p,st2,q,λA env X μ s I N=>Tuple_ ((r1 pos A env X μ s I N).step λμ' s' x e z=>(Xw z.1 al hz z.2).fin e)⟩
noncomputable def W7 (x:Expr):Bool:=by
 induction x using PySem.Expr.casesOn with
 | Call f a k =>
  induction f using PySem.Expr.casesOn with
  | Name =>
   induction a using List.casesOn with
   | nil =>
    induction k using List.casesOn with
    | nil=>exact false
    | cons=>exact true
   | cons=>exact true
  | _=>exact true
 | _=>exact true
theorem H3 {x:Expr}(h:W7 x=true)(attr:Str)(env:Env)(whole:Sem Value):attributeBase x attr env whole=whole:=by
 induction x using PySem.Expr.casesOn with
 | Call f a k p =>
  induction f using PySem.Expr.casesOn with
  | Name n q =>
   induction a using List.casesOn with
   | nil =>
    induction k using List.casesOn with
    | nil=>cases h
    | cons=>rfl
   | cons=>rfl
  | _=>rfl
 | _=>rfl
theorem Q7g (w:Wf W){e:E}{n:Nat}{x:Expr}{name:Str}{pos:Pos}(hn:n∈W.names)(ht:W.tab n=name)(hb:W7 x=true)(h:SE W C (ev e) (eval x)):SE W C (hAttr ev e n) (eval (.Attribute x name pos)):=λcs l st k q=>by
 refine byC λζ=>?_;obtain ⟨v,st1,q,r1⟩:=h cs l st _ q;refine Q3 (Td w hn q) ?_;intro u q r2;subst ht;refine ζ ?_;exact ⟨u,st1,q,λA env X μ s I N=>Attribute_any_ ((r1 A env X μ s I N).step λμ' s' x e z=>(r2 z.1 z.2).fin e) (by rw [arm_eval_Attribute,H3 hb])⟩
noncomputable def Yp (x:Expr):Bool:=by
 induction x using PySem.Expr.casesOn with
 | Slice=>exact false
 | _=>exact true
theorem G3 {e:Expr}(h:Yp e=true)(o i:Value):subscripted e false o i=operate [o,i] (getItem o i):=by induction e using PySem.Expr.casesOn <;> first | rfl | cases h
set_option tactic.hygienic true in
theorem Q7h (w:Wf W){st:St}{a i:V}{k:V->R}(h:subV st a i k=true):∃ v,k v=true /\
  ∀ {A:Around}{μ:Mp}{s:Shared}{x y:Value}{value slice:Expr},Yp slice=true->Inv W μ st s->VR W μ a x->VR W μ i y->Run W A μ s (subscriptTail value slice x y) λμ' s' z=>Inv W μ' st s'/\VR W μ' v z:=by
 refine Y0 (Y1 h) ?_;intro p o ee2 ho h;subst ee2
 induction o using O.casesOn with
 | list xs =>
  refine Q3 (Y7 (show K7 i _=true from h)) ?_;intro j ee1 h2;subst ee1
  induction j using Int.casesOn with
  | ofNat n =>
   refine Q3 (I7 h2) ?_;intro v hv h3;refine Z0 v h3 (λhs I ra ri=>?_);refine Y0 (Z6 I ra ho) ?_;intro a d ee2 m oo;subst ee2
   induction ri using VR.intE
   induction oo using OR.listE with
   | list hl hr hz =>
    refine Q3 (hr.nth hv) ?_;intro x hx rx;have lt:n<1000:=by have:=(List.getElem?_eq_some_iff.mp hv).1;lia
    exact tail_any hl.isList.typeIs slot_list_getitem.lookup (wpAny_getItem_list hl.isList (Int.natCast_nonneg n) (by show (n:Int)<_;lia) (by simpa using hx) ⟨_,.refl ..,I,rx⟩) (G3 hs _ _)
  | negSucc n =>
   induction n using Nat.casesAuxOn with
   | succ=>first | exact ff h2 | cases h2
   | zero =>
    have h3:=Yn (show Re xs _=true from h2);cases e:xs.length with
    | zero=>rw [e] at h3;cases h3
    | succ m =>
     rw [e] at h3;refine Q3 (I7 h3) ?_;intro v hv h4;refine Z0 v h4 (λhs I ra ri=>?_);refine Y0 (Z6 I ra ho) ?_;intro a d ee2 _ oo;subst ee2
     induction ri using VR.intE
     induction oo using OR.listE with
     | list hl hr hz =>
      rename_i its;refine Q3 (hr.nth hv) ?_;intro x hx rx;have sz:its.size=m+1:=by rw [hr.size,e]
      have tn:(Int.negSucc 0+(its.size:Int)).toNat=m:=by rw [sz];lia
      exact tail_any hl.isList.typeIs slot_list_getitem.lookup (wpAny_getItem_list_neg (k:=Int.negSucc 0) hl.isList (by decide) (by rw [sz];lia) (by decide) (by rw [tn];simpa using hx) ⟨_,.refl ..,I,rx⟩) (G3 hs _ _)
 | tup xs =>
  refine byC λζ=>?_;refine Q3 (L9 (show C2 i _=true from h)) ?_;intro n ee1 h2;subst ee1;refine Q3 (I7 h2) ?_;intro v hv h3;refine ζ ?_;refine Z0 v h3 (λhs I ra ri=>?_);refine Y0 (Z6 I ra ho) ?_;intro a d ee2 m oo;subst ee2
  induction ri using VR.intE
  induction oo using OR.tupE with
  | tup hl hr hz =>
   rename_i its;refine Q3 (hr.nth hv) ?_;intro x hx rx;have lt:=(List.getElem?_eq_some_iff.mp hv).1;have T:IsTup _ a its:=⟨_,hl,rfl,0,rfl⟩;refine tail_any T.typeIs slot_tuple_getitem.lookup (PyProof.Rows.getItem_tuple T (by lia) (by lia) (j:=n) ?_ (by simpa using hx) ⟨_,.refl ..,I,rx⟩) (G3 hs _ _);unfold seqIndex?;rw [hr.size];simp
   lia
 | dict es =>
  refine byC λζ=>?_;refine Q3 (X4 (show S7 i _=true from h)) ?_;intro n ee1 h2;subst ee1;refine Q3 (G0 h2) ?_;intro v hv h3;refine ζ ?_;refine Z0 v h3 (λhs I ra ri=>?_);refine Y0 (Z6 I ra ho) ?_;intro a d ee2 m oo;subst ee2
  induction ri using VR.strE
  induction oo using OR.dictE with
  | dict hd hr hz =>
   have z:=Mq w (n:=n) hr;rw [hv] at z;refine Q3 z ?_;intro x zx rx;exact tail_any hd.typeIs slot_dict_getitem.lookup (wpAny_getItem_of (Jv _ _) hd.mapOf zx ⟨_,.toks ..,I.toks _,rx⟩) (G3 hs _ _)
 | inst=>first | exact ff h | cases h
 | cell=>first | exact ff h | cases h
 | clos=>first | exact ff h | cases h
theorem se_sub (w:Wf W){e i:E}{x y:Expr}{pos:Pos}(hs:Yp y=true)(he:SE W C (ev e) (eval x))(hi:SE W C (ev i) (eval y)):SE W C (hSub ev e i) (eval (.Subscript x y pos)):=λcs l st k q=>by
 refine byC λζ=>?_;obtain ⟨v,st1,q,r1⟩:=he cs l st _ q;obtain ⟨u,st2,q,r2⟩:=hi cs l st1 _ q;refine Q3 (Q7h w q) ?_;intro t q r3;refine ζ ?_;exact ⟨t,st2,q,λA env X μ s I N=>Subscript_ ((r1 A env X μ s I N).step λμ' s' x e z=>(r2 A env X μ' s' z.1 (N.ext e)).step λμ'' s'' y e' z'=>(r3 hs z'.1 (z.2.mono e'.sub) z'.2).fin (e.trans e'))⟩
theorem Hq {μ:Mp}{st st':St}{s:Shared}{xs ys:List V}{p:P}{v:V}{x vl vu:Value}{lo hi:Option Int}{value:Expr}{la lb:Option Expr}{po:Pos}(I:Inv W μ st s)(ra:VR W μ (.ref p) x)(ho:st.t.get p=some (.list xs))
  (pl:IsPart vl lo)(pu:IsPart vu hi)(al:NewL st ys v st')(hy:∀ {its:Array Value},VRs W μ xs its.toList->VRs W μ ys (slicePick its lo hi none).toList) :
  Run W A μ { s with heap:=s.heap.push { cls:=.type "slice",data:=.fields #[vl,vu,.none] } } (subscriptTail value (.Slice la lb none po) x (.ref s.heap.objs.size)) λμ' s' z=>Inv W μ' st' s'/\VR W μ' v z:=by
 refine Y0 (Z6 I ra ho) ?_;intro a d ee2 m oo;subst ee2
 induction oo using OR.listE with
 | list hl hr hz =>
  have I1:Inv W μ st { s with heap:=s.heap.push { cls:=.type "slice",data:=.fields #[vl,vu,.none] } }:=I.other (t:=s.toks) (λb o e U=>Heap.get?_push_of_some _ e)
  have hl1:(s.heap.push { cls:=.type "slice",data:=.fields #[vl,vu,.none] }).IsList a _:=hl.isList.push _
  refine tail_any (s:={ s with heap:=s.heap.push { cls:=.type "slice",data:=.fields #[vl,vu,.none] } }) hl1.typeIs slot_list_getitem.lookup (wpAny_getItem_list_slice hl1 ⟨_,Heap.get?_push_size _ rfl,rfl,rfl⟩ pl pu .none (by simp) ?_ (by rw [hr.size,sizeLine_eq];lia)) rfl
  refine K0 (I1.newList (t:=s.toks) al (hy hr)) ?_;intro μ' b c d;exact J6 μ' b c d
theorem se_slT {e i:E}{x y:Expr}{po pos:Pos}(he:SE W C (ev e) (eval x))(hi:SE W C (ev i) (eval y)):SE W C (hSlT ev e i) (eval (.Subscript x (.Slice none (some y) none po) pos)):=λcs l st k q=>by
 refine byC λζ=>?_;obtain ⟨v,st1,q,r1⟩:=he cs l st _ q;obtain ⟨u,st2,q,r2⟩:=hi cs l st1 _ q;obtain ⟨p,o,rfl,ho,q⟩:=Y1 q;obtain ⟨xs,rfl,q⟩:=B8 q;refine Q3 (L9 q) ?_;intro n ee1 q;subst ee1;refine Q7 (B1 (Ox q)) ?_;intro v' st3 q al;refine ζ ?_;refine ⟨v',st3,q,λA env X μ s I N=>Subscript_ ((r1 A env X μ s I N).step λμ' s' x e z=>wpAny_Slice (wpAny_evalPart_none (wpAny_evalPart_some ((r2 A env X μ' s' z.1 (N.ext e)).step λμ'' s'' y e' z'=>wpAny_evalPart_none ?_))))⟩;refine Q6 z' ?_;intro z1 z2
 induction z2 using VR.intE
 refine Run.fin (Hq z1 (z.2.mono e'.sub) ho .none (.int _ _) al λhr=>?_) ((e.trans e').trans ⟨λU U h=>h,λU U U h q=>(by rw [h] at q;exact sN q),λU U h U=>Heap.get?_push_of_some _ h,rfl⟩);rw [slicePick_upto']
 simpa using hr.take
theorem se_slF {e i:E}{x y:Expr}{po pos:Pos}(he:SE W C (ev e) (eval x))(hi:SE W C (ev i) (eval y)):SE W C (hSlF ev e i) (eval (.Subscript x (.Slice (some y) none none po) pos)):=λcs l st k q=>by
 refine byC λζ=>?_;obtain ⟨v,st1,q,r1⟩:=he cs l st _ q;obtain ⟨u,st2,q,r2⟩:=hi cs l st1 _ q;obtain ⟨p,o,rfl,ho,q⟩:=Y1 q;obtain ⟨xs,rfl,q⟩:=B8 q;refine Q3 (L9 q) ?_;intro n ee1 q;subst ee1;refine Q7 (B1 (Oy q)) ?_;intro v' st3 q al;refine ζ ?_;refine ⟨v',st3,q,λA env X μ s I N=>Subscript_ ((r1 A env X μ s I N).step λμ' s' x e z=>wpAny_Slice (wpAny_evalPart_some ((r2 A env X μ' s' z.1 (N.ext e)).step λμ'' s'' y e' z'=>wpAny_evalPart_none (wpAny_evalPart_none ?_))))⟩;refine Q6 z' ?_;intro z1 z2
 induction z2 using VR.intE
 refine Run.fin (Hq z1 (z.2.mono e'.sub) ho (.int _ _) .none al λhr=>?_) ((e.trans e').trans ⟨λU U h=>h,λU U U h q=>(by rw [h] at q;exact sN q),λU U h U=>Heap.get?_push_of_some _ h,rfl⟩);rw [slicePick_from']
 simpa using hr.drop
end
end
section
variable {W:Wd}
section
variable {C:Cls}{ev:Ev}
theorem se_neg {a:E}{ea:Expr}{pos:Pos}(ha:SE W C (ev a) (eval ea)):SE W C (hNeg ev a) (eval (.UnaryOp .USub ea pos)):=λcs l st k q=>by
 refine byC λζ=>?_;obtain ⟨v,st1,q,r1⟩:=ha cs l st _ q;refine Q3 (Y7 q) ?_;intro i ee1 q2;subst ee1;refine ζ ?_;refine ⟨.int (-i),st1,O5 q2,λA env X μ s I N=>wpAny_UnaryOp ((r1 A env X μ s I N).step λμ' s' x e z=>?_)⟩;obtain ⟨z,y⟩:=z
 induction y using VR.intE
 exact PyProof.Rows.neg_int ⟨μ',e.trans (.toks ..),z.toks _,.int _ _⟩
theorem Q7i (w:Wf W)(hu:∀ A env,C A env->A.units+200<=cLine){o1 o2:Cm}{a b c:E}{ea eb ec:Expr}{pos:Pos}(ha:SE W C (ev a) (eval ea))(hb:SE W C (ev b) (eval eb))(hc:SE W C (ev c) (eval ec))(hm:lastMarks [cmc o1,cmc o2] [eb,ec]=false) :
  SE W C (Q0r ev o1 o2 a b c) (eval (.Compare ea [cmc o1,cmc o2] [eb,ec] pos)):=λcs l st k q=>by
 refine byC λζ=>?_;obtain ⟨v,st1,q,r1⟩:=ha cs l st _ q;obtain ⟨u,st2,q,r2⟩:=hb cs l st1 _ q;refine Q3 (Qs w q) ?_;intro t q r3;refine ζ ?_;have key:∀ {v' st'},(t=true->∃ x,TE W C cs l st2 (eval ec) x st'/\∃ t',v'=.bool t'/\∀ {A:Around}{μ:Mp}{s:Shared}{y z:Value},A.units+200<=cLine->Inv W μ st' s->VR W μ u y->VR W μ x z->Run W A μ s (compareOp (cmc o2) y z) λμ' s' z=>Inv W μ' st' s'/\z=.bool t') ->
   (t=false->v'=.bool false/\st'=st2)->TE W C cs l st (eval (.Compare ea [cmc o1,cmc o2] [eb,ec] pos)) v' st':=by
  intro v' st' h1 h2 A env X μ s I N;refine Compare_chain (hm:=hm) ((r1 A env X μ s I N).step λμ1 s1 x e1 z1=>chain_link ((r2 A env X μ1 s1 z1.1 (N.ext e1)).step λμ2 s2 y e2 z2=>(r3 (hu A env X) z2.1 (z1.2.mono e2.sub) z2.2).step λμ3 s3 c e3 z3=>?_));obtain ⟨z3,rfl⟩:=z3;refine wpAny_truthy_bool ?_
  induction t using Bool.casesOn with
  | true =>
   obtain ⟨x',r4,t',rfl,r5⟩:=h1 rfl;refine chain_last ((r4 A env X μ3 s3 z3 (((N.ext e1).ext e2).ext e3)).step λμ4 s4 y4 e4 z4=>?_);exact (r5 (hu A env X) z4.1 (z2.2.mono λp x h=>e4.sub _ _ (e3.sub _ _ h)) z4.2).done (e1.trans (e2.trans (e3.trans e4))) λU U U U q=>by obtain ⟨a,rfl⟩:=q;exact ⟨a,.bool _⟩
  | false =>
   obtain ⟨rfl,rfl⟩:=h2 rfl;exact ⟨μ3,e1.trans (e2.trans e3),z3,.bool _⟩
 induction t using Bool.casesOn with
 | true =>
  refine byC λζ=>?_;obtain ⟨x,st3,q,r4⟩:=hc cs l st2 _ q;refine Q3 (Qs w q) ?_;intro t' q r5;refine ζ ?_;exact ⟨.bool t',st3,q,key (λU=>⟨x,r4,t',rfl,r5⟩) λh=>by cases h⟩
 | false=>exact ⟨.bool false,st2,q,key (λh=>by cases h) λU=>⟨rfl,rfl⟩⟩
theorem Q7j (w:Wf W)(hu:∀ A env,C A env->A.units+200<=cLine){o1 o2:Cm}{a b c:E}{ea eb ec:Expr}{pos:Pos}{whole:Env->Sem Value}(ha:SE W C (ev a) (eval ea))(hb:SE W C (ev b) (eval eb))(hc:SE W C (ev c) (eval ec))(hm:lastMarks [cmc o1,cmc o2] [eb,ec]=false) :
  SB W C (Q0r ev o1 o2 a b c) (λenv=>isTrue (.Compare ea [cmc o1,cmc o2] [eb,ec] pos) env (whole env)):=λcs l st k q=>by
 refine byC λζ=>?_;obtain ⟨v,st1,q,r1⟩:=ha cs l st _ q;obtain ⟨u,st2,q,r2⟩:=hb cs l st1 _ q;obtain ⟨t,q,r3⟩:=Qs w q;refine ζ ?_;have key:∀ {b st'},(t=true->∃ x,TE W C cs l st2 (eval ec) x st'/\∀ {A:Around}{μ:Mp}{s:Shared}{y z:Value},A.units+200<=cLine->Inv W μ st' s->VR W μ u y->VR W μ x z->Run W A μ s (compareOp (cmc o2) y z) λμ' s' z=>Inv W μ' st' s'/\z=.bool b) ->
   (t=false->b=false/\st'=st2)->TB W C cs l st (λenv=>isTrue (.Compare ea [cmc o1,cmc o2] [eb,ec] pos) env (whole env)) b st':=by
  intro v' st' h1 h2 A env X μ s I N;refine isTrue_chain (hm:=hm) ((r1 A env X μ s I N).step λμ1 s1 x e1 z1=>test_link ((r2 A env X μ1 s1 z1.1 (N.ext e1)).step λμ2 s2 y e2 z2=>(r3 (hu A env X) z2.1 (z1.2.mono e2.sub) z2.2).step λμ3 s3 c e3 z3=>?_));obtain ⟨z3,rfl⟩:=z3;refine wpAny_truthy_bool ?_
  induction t using Bool.casesOn with
  | true =>
   obtain ⟨x',r4,r5⟩:=h1 rfl;refine test_last ((r4 A env X μ3 s3 z3 (((N.ext e1).ext e2).ext e3)).step λμ4 s4 y4 e4 z4=>?_);refine (r5 (hu A env X) z4.1 (z2.2.mono λp x h=>e4.sub _ _ (e3.sub _ _ h)) z4.2).step λμ5 s5 y5 e5 z5=>?_;obtain ⟨z5,rfl⟩:=z5;exact wpAny_truthy_bool ⟨μ5,e1.trans (e2.trans (e3.trans (e4.trans e5))),z5,rfl⟩
  | false =>
   obtain ⟨rfl,rfl⟩:=h2 rfl;exact ⟨μ3,e1.trans (e2.trans e3),z3,rfl⟩
 induction t using Bool.casesOn with
 | true =>
  refine byC λζ=>?_;obtain ⟨x,st3,q,r4⟩:=hc cs l st2 _ q;refine Q3 (Qs w q) ?_;intro t' q r5;refine ζ ?_;exact Q9 (.bool t') st3 q (λb hb=>by cases hb;exact key (λU=>⟨x,r4,r5⟩) λh=>by cases h)
 | false=>exact Q9 (.bool false) st2 q (λb hb=>by cases hb;exact key (λh=>by cases h) λU=>⟨rfl,rfl⟩)
end
end
section
variable {W:Wd}
structure CallOk (W:Wd)(n:Nat)(ca:G6):Prop where
 run:∀ {f:V}{vs:List V}{st:St}{k:V->St->R},ca f vs st k=true->∃ v st',k v st'=true /\
  ∀ {A:Around}{μ:Mp}{s:Shared}{x:Value}{xs:List Value},Ro A n->Inv W μ st s->VR W μ f x->VRs W μ vs xs->Run W A μ s (call x xs) λμ' s' y=>Inv W μ' st' s'/\VR W μ' v y
 keep:∀ {f:V}{vs:List V}{st:St}{k:V->St->R},ca f vs st k=true->∀ {M:Model}{μ:Mp}{s:Shared}{x:Value},Inv W μ st s->VR W μ f x ->
  ∃ q,(q=Keeper.frame\/q=Keeper.machine\/q=Keeper.boundFrame)/\Looks M s.heap (keeperOf x) q
section
variable {C:Cls}{A:Around}{env:Env}{ev:Ev}
theorem SEs.plain {es:List E}{xs:List Expr}(h:SEs W C ev es xs)(pos:Pos):(backTo pos (starEach xs env)).any (·.1)=false/\(backTo pos (starEach xs env)).all (λx=>!x.1)=true:=by
 induction h with
 | nil=>exact ⟨rfl,rfl⟩
 | cons hs h t ih =>
  rw [Z4 hs];exact ⟨by show (false||(backTo pos (starEach _ env)).any (·.1))=false;rw [ih.1];rfl,by show (true&&(backTo pos (starEach _ env)).all (λx=>!x.1))=true;rw [ih.2];rfl⟩
theorem SEs.callWith {es:List E}{xs:List Expr}(h:SEs W C ev es xs){n:Nat}{ca:G6}(CA:CallOk W n ca)(ro:∀ A env,C A env->Ro A n){pos:Pos}{cs:Q4}{l:Loc}{st:St}{f:V}{pre:List V}{k:V->St->R}
  (q:evL ev es cs l st (λvs s=>ca f (pre++vs) s k)=true):∃ v st',k v st'=true /\
   ∀ {A:Around}{env:Env}{μ:Mp}{s:Shared}{x:Value}{first:List Value},C A env->Inv W μ st s->EnvR W μ s env cs l->VR W μ f x->VRs W μ pre first->Run W A μ s (PySem.callWith pos x first (backTo pos (starEach xs env)) []) λμ' s' y=>Inv W μ' st' s'/\VR W μ' v y:=by
 cases h with
 | nil =>
  refine Q7 (CA.run (show ca f (pre++[]) st k=true from q)) ?_;intro v st2 q2 r2;refine Q9 v st2 q2 (λ{A env μ s x first} X I N rf rp=>?_);refine callWith_of (P:=λhp=>∃ k,(k=Keeper.frame\/k=Keeper.machine\/k=Keeper.boundFrame)/\Looks _ hp (keeperOf x) k) rfl (λU p=>p) ?_;exact evalArgs_nil3 ⟨CA.keep (show ca f (pre++[]) st k=true from q) I rf,r2 (ro A env X) I rf (rp.append .nil)⟩
 | cons hs hx t =>
  have h:SEs W C ev _ _:=.cons hs hx t;refine byC λζ=>?_;refine Y0 (h.run q) ?_;intro vs st1 q _ r1;refine Q7 (CA.run q) ?_;intro v st2 q2 r2;refine ζ ?_;refine Q9 v st2 q2 (λ{A env μ s x first} X I N rf rp=>?_);refine callWith_of (P:=λhp=>∃ k,(k=Keeper.frame\/k=Keeper.machine\/k=Keeper.boundFrame)/\Looks _ hp (keeperOf x) k) (by rw [(h.plain pos).1];rfl) (λU p=>p) ?_;have key:=r1 pos A env X μ s I N;dsimp only at key;rw [Z4 hs] at key ⊢;exact evalArgs_plain (key.step λμ' s' a e z=>⟨CA.keep q z.1 (rf.mono e.sub),(r2 (ro A env X) z.1 (rf.mono e.sub) ((rp.mono e.sub).append z.2)).fin e⟩)
theorem Q7k {n:Nat}{ca:G6}(CA:CallOk W n ca)(ro:∀ A env,C A env->Ro A n){f:E}{es:List E}{xs:List Expr}{id:Str}{p pos:Pos}(hf:SE W C (ev f) (eval (.Name id p)))(h:SEs W C ev es xs) :
  SE W C (hCall ev ca f es) (eval (.Call (.Name id p) xs [] pos)):=λcs l st k q=>by
 refine byC λζ=>?_;obtain ⟨v,st1,q,r1⟩:=hf cs l st _ q;refine Q7 (h.callWith CA ro (pos:=pos) (pre:=[]) q) ?_;intro v' st2 q r2;refine ζ ?_;refine ⟨v',st2,q,λA env X μ s I N=>wpAny_Call_Name_kw ((r1 A env X μ s I N).step λμ' s' x e z=>?_)⟩;exact (r2 X z.1 (N.ext e) z.2 .nil).fin e
theorem H8 {E:Value->Shared->Prop}{M:Model}{s:Shared}{o:Expr}{name:Str}{apos pos:Pos}{args:List Expr}{Q:Value->Shared->Prop}(hb:W7 o=true)(hs:(backTo pos (starEach args env)).all (λx=>!x.1)=true)(hn:args.length<30)(hl:(apos.endLine==pos.line)=true)
  (h:wpAny M A (eval o env) (λov s₁=>wpAny M A (getMethod ov name (do return (<-importBound o env).getD true)) (λfx s₂=>wpAny M A (PySem.callWith pos fx.1 fx.2 (backTo pos (starEach args env)) []) Q E s₂) E s₁) E s) :
  wpAny M A (eval (.Call (.Attribute o name apos) args [] pos) env) Q E s:=by
 rw [arm_eval_Call,H3 hb];refine wpAny_bind (wpAny_mono h (λov s₁ h₁=>wpAny_bind (wpAny_standAt ?_)) λU U x=>x);have hf:methodCallForm (args.length+([]:List Keyword).length) (backTo pos (starEach args env)) (backToKw pos (keywordEach [] env))=true:=by
  unfold methodCallForm;rw [hs];have e1:(backToKw pos (keywordEach [] env))=[]:=rfl;rw [e1]
  simpa using hn
 have hp:methodCallPos true o env apos pos=pure pos:=by unfold methodCallPos;simp [hl]
 unfold methodCall;rw [hf];refine wpAny_bind (wpAny_holding (wpAny_mono h₁ (λfx s₂ h₂=>?_) λU U x=>x));exact wpAny_bind (wpAny_of_eq hp h₂)
end
end
section
variable {W:Wd}
structure ClsOk (W:Wd)(c:Nat)(cl:Cl):Prop where
 lt:c<W.cN
 makes:makesIn W.K (W.ca c)=true
 get:plainGet W.K (W.ca c) ""=true
 keep:keepIn W.K (.ref (W.ca c))=true
 meths:∀ n f,Y6 cl.meths n=some f->findIn W.K (.ref (W.ca c)) (W.tab n)=some (some (.ref (W.fa f)))/\typeIn W.K (.ref (W.fa f))=some (.type "function")
 init:findIn W.K (.ref (W.ca c)) "__init__"=some (some (match cl.init with | some i=>.ref (W.fa i) | none=>.builtin "object.__init__"))/\(match cl.init with | some i=>typeIn W.K (.ref (W.fa i))=some (.type "function") | none=>True)
structure TabOk (W:Wd)(g:G)(kx:Kx):Prop where
 cls:∀ c cl,g.cl[c]?=some cl->ClsOk W c cl
 held:∀ c n,c<W.cN->n∈W.names->findIn W.K (.ref (W.ca c)) (W.tab n)=some none
 mask:∀ n,Nat.testBit kx.held n=true->n∈W.names
 append:W.tab kx.append="append"
 extend:W.tab kx.extend="extend"
 get:W.tab kx.get="get"
 index:W.tab kx.index="index"
theorem Ms {b:Bool}{k:Unit->R}(h:chk b k=true):b=true/\k ()=true:=by induction b using Bool.casesOn <;> first | exact ff h | (cases h;done) | exact ⟨rfl,h⟩
section
variable {A:Around}{env:Env}{ev:Ev}
theorem Gs {st:St}{p:P}{xs:List V}{v:V}{k:St->R}(ho:st.t.get p=some (.list xs))(h:(Cg xs v λys=>Qp st p ys k)=true):∃ st',k st'=true /\
  ∀ {A:Around}{μ:Mp}{s:Shared}{x y:Value},Inv W μ st s->VR W μ (.ref p) x->VR W μ v y->Run W A μ s (call (.builtin "list.append") [x,y]) λμ' s' z=>Inv W μ' st' s'/\z=.none:=by
 have h2:=Ow h;refine Q6 (D3 (show S6 (xs++[v]) 1000 _=true from h2)) ?_;intro hz h3;refine Q3 (I8 h3) ?_;intro st' h4 sr;refine Z0 st' h4 (λ{A μ s x y} I ra rb=>?_);refine Y0 (Z6 I ra ho) ?_;intro a d ee2 m oo;subst ee2
 induction oo using OR.listE with
 | list hl hr hz' =>
  refine wpAny_list_append_plain hl (λh' hl' sb=>?_) (by rw [hr.size,sizeLine_eq];lia);refine Q6 (I.set (t:=s.toks) sr m (.inl rfl) sb (.list hl' (by simpa using hr.append (.one rb)) hz)) ?_;intro e I';exact J6 μ e I' rfl
theorem Xx {st:St}{p q:P}{xs ys:List V}{k:St->R}(ho:st.t.get p=some (.list xs))(ho2:st.t.get q=some (.list ys))(h:(Xk xs ys λzs=>Qp st p zs k)=true):∃ st',k st'=true /\
  ∀ {A:Around}{μ:Mp}{s:Shared}{x y:Value},Inv W μ st s->VR W μ (.ref p) x->VR W μ (.ref q) y->Run W A μ s (call (.builtin "list.extend") [x,y]) λμ' s' z=>Inv W μ' st' s'/\z=.none:=by
 have h2:=Uv h;refine Q6 (D3 (show S6 (xs++ys) 1000 _=true from h2)) ?_;intro hz h3;refine Q3 (I8 h3) ?_;intro st' h4 sr;refine Z0 st' h4 (λ{A μ s x y} I ra rb=>?_);refine Y0 (Z6 I ra ho) ?_;intro a d ee2 m oo;subst ee2;refine Y0 (Z6 I rb ho2) ?_;intro a2 d2 ee2 m2 oo2;subst ee2
 induction oo using OR.listE with
 | list hl hr hz' =>
  induction oo2 using OR.listE with
  | list hl2 hr2 hz2 =>
   obtain ⟨n,hl⟩:=hl;obtain ⟨n2,hl2⟩:=hl2;refine Xv hl hl2 (by rw [hr.size,hr2.size,sizeLine_eq];lia) λh' hl' sb=>?_;refine Q6 (I.set (t:=s.toks) sr m (.inl rfl) sb (.list hl' (by rw [Array.toList_append];exact hr.append hr2) hz)) ?_;intro e I';exact J6 μ e I' rfl
theorem Cz {M:Model}{A:Around}{E:Value->Shared->Prop}{β:Type}{f:Nat->β->Sem (ForInStep β)}{Q:β->Shared->Prop}(I:Nat->β->Shared->Prop){hi:Nat}(step:∀ i b s,I i b s->i<hi->wpAny M A (f i b) (λr s'=>match r with | .done b'=>Q b' s' | .yield b'=>I (i+1) b' s') E s)(fin:∀ b s,I hi b s->Q b s) :
  ∀ (n i:Nat)(b:β)(s:Shared),i+n=hi->I i b s->wpAny M A (forIn (List.range' i n) b f) Q E s
 | 0,i,b,s,e,h=>by
  have e:i=hi:=e;subst e;rw [show List.range' i 0=[] from rfl,List.forIn_nil];exact wpAny_pure (fin b s h)
 | n+1,i,b,s,e,h=>by
  rw [List.range'_succ,List.forIn_cons];refine wpAny_bind (wpAny_mono (step i b s h (by lia)) (λr s' hr=>?_) λU U x=>x)
  induction r using ForInStep.casesOn with
  | done b'=>exact wpAny_pure hr
  | yield b'=>exact Cz I step fin n (i+1) b' s' (by lia) hr
theorem Uj {prog:Program}{w:World}{A:Around}{s:Shared}{t:Addr}{items:Array Value}{x:Str}{u:Tok}{j:Nat}{Q:Fin->Shared->Prop}{E:Value->Shared->Prop}(ht:IsTup s.heap t items)(before:∀ i y,items[i]?=some y->i<j->∃ z t,y=.str z t/\z≠x)(hj:∃ t,items[j]?=some (.str x t))
  (h:∀ t,Q (.done (.ret (.int (j:Int) t))) { s with toks:=s.toks+1 }):wpAny (model prog w) A (Builtin.«tuple.index» ⟨[.ref t,.str x u],[]⟩) Q E s:=by
 unfold Builtin.«tuple.index»;refine wpAny_bind (m:=selfAndSome "tuple.index" "index" 1 3 ⟨[.ref t,.str x u],[]⟩) (wpAny_of_eq (a:=(Value.ref t,[Value.str x u])) (by kernel_rfl) ?_)
 dsimp only;refine wpAny_bind (tupleItemsOf_ ht ?_);refine wpAny_bind (wpAny_pure (wpAny_bind (wpAny_pure (wpAny_bind ?_))));rw [Std.Legacy.Range.forIn_eq_forIn_range'];refine J2 hj ?_;intro tj hj;have lt:j<items.size:=(Array.getElem?_eq_some_iff.mp hj).1;refine Cz (hi:=items.size) (λi b s'=>b=(none,())/\s'=s/\i<=j) ?_ ?_ _ 0 _ s (by simp [Std.Legacy.Range.size]) ⟨rfl,rfl,Nat.zero_le _⟩
 ·rintro i b s' ⟨rfl,rfl,le⟩ hi
  by_cases e:i=j
  ·subst e
   rw [hj];refine wpAny_bind (eqBool_str ?_);simp only [beq_self_eq_true,if_true];refine wpAny_bind ?_;unfold retInt;exact wpAny_bind (wpAny_mkInt (wpAny_pure (wpAny_pure (wpAny_pure (h _)))))
  ·have q:items[i]?=some items[i]:=Array.getElem?_eq_getElem hi
   refine Q7 (before i _ q (by lia)) ?_;intro z t' hz ne;rw [q,hz];refine wpAny_bind (eqBool_str ?_);have:(z==x)=false:=by simpa using ne
   simp only [this,Bool.false_eq_true,if_false];exact wpAny_pure ⟨rfl,rfl,by lia⟩
 ·rintro b s' ⟨rfl,rfl,le⟩
  lia
end
end
section
variable {W:Wd}
section
variable {C:Cls}{A:Around}{env:Env}{ev:Ev}{g:G}{kx:Kx}
theorem Aa (w:Wf W){st:St}{m:Nat}:∀ {xs:List V}{n:Nat}{k:V->St->R},Q6s st xs m n k=true->∃ j,k (.int (n+j:Nat)) st=true /\
  ∀ {μ:Mp}{vs:List Value},VRs W μ xs vs->(∀ i y,vs[i]?=some y->i<j->∃ z t,y=.str z t/\z≠W.tab m)/\∃ t,vs[j]?=some (.str (W.tab m) t)
 | [],_,_,h=>by first | exact ff h | cases h
 | x :: r,n,k,h=>by
  unfold Q6s at h;refine Q3 (X4 h) ?_;intro i ee1 h2;subst ee1;cases e:Nat.beq i m with
  | true =>
   rw [e] at h2;have:=E4 (show Gk n _=true from h2);have im:=Z8.mp e;subst im;refine Z0 0 this (λrs=>?_)
   induction rs using VRs.consE with
   | cons a b=>induction a using VR.strE;exact ⟨λi y U lt=>absurd lt (Nat.not_lt_zero _),_,rfl⟩
  | false =>
   rw [e] at h2;refine Q3 (Aa w (show Q6s st r m (n+1) k=true from h2)) ?_;intro j hk hr;refine Z0 (j+1) (by rw [show n+(j+1)=n+1+j by lia];exact hk) (λrs=>?_)
   induction rs using VRs.consE with
   | cons a b =>
    induction a using VR.strE
    obtain ⟨h1,t,h2⟩:=hr b;refine ⟨λq y hy lt=>?_,t,h2⟩
    induction q using Nat.casesAuxOn with
    | zero=>cases hy;exact Q9 _ _ rfl (λz=>J3 e (w.inj _ _ z))
    | succ q=>exact h1 q y hy (by lia)
theorem SEs.callBuiltin {es:List E}{xs:List Expr}(h:SEs W C ev es xs){pos:Pos}{cs:Q4}{l:Loc}{st:St}{id:String}{q:List V->St->R}(hq:evL ev es cs l st q=true):∃ vs st',q vs st'=true /\
   ∀ {A:Around}{env:Env}{μ:Mp}{s:Shared}{first:List Value}{Q:Value->Shared->Prop},C A env->Inv W μ st s->EnvR W μ s env cs l ->
    (∀ μ' s' ys,Ext μ s μ' s'->Inv W μ' st' s'->VRs W μ' vs ys->wpAny (model W.prog W.w) A (call (.builtin id) (first++ys)) Q Z3 s')->wpAny (model W.prog W.w) A (PySem.callWith pos (.builtin id) first (backTo pos (starEach xs env)) []) Q Z3 s:=by
 cases h with
 | nil=>exact Q9 ([]) st hq (λ{A env μ s first Q} X I N r=>callWith_builtin rfl (evalArgs_nil3 (r μ s [] (.refl ..) I .nil)))
 | cons hs hx t =>
  have h:SEs W C ev _ _:=.cons hs hx t;refine Y0 (h.run hq) ?_;intro vs st1 hq _ r1;refine Q9 vs st1 hq (λ{A env μ s first Q} X I N r=>callWith_builtin (h.plain pos).1 ?_);have key:=r1 pos A env X μ s I N;dsimp only at key;rw [Z4 hs] at key ⊢;exact evalArgs_plain (key.step λμ' s' a e z=>r μ' s' a e z.1 z.2)
set_option tactic.hygienic true in
theorem Q7m (w:Wf W)(T:TabOk W g kx){n:Nat}{ca:G6}(CA:CallOk W n ca)(ro:∀ A env,C A env->Ro A n){o:E}{m:Nat}{es:List E}{x:Expr}{xs:List Expr}{name:Str}{apos pos:Pos}(ho:SE W C (ev o) (eval x))(h:SEs W C ev es xs)
  (hn:W.tab m=name)(hb:W7 x=true)(hl:(apos.endLine==pos.line)=true)(hz:xs.length<30) :
  SE W C (hMeth g kx ev ca o m es) (eval (.Call (.Attribute x name apos) xs [] pos)):=λcs l st k q=>by
 subst hn;refine byC λζ=>?_;obtain ⟨v,st1,q,r1⟩:=ho cs l st _ q;refine Y0 (Y1 q) ?_;intro p ob ee2 hob q;subst ee2;refine ζ ?_;induction ob using O.casesOn with
 | inst c es0 =>
  have q2:V6 es0 m (λf=>chk (Nat.testBit kx.held m) λU=>evL ev es cs l st1 λvs s=>ca f vs s k) (λU=>Dw g.cl c λcl=>V6 cl.meths m (λf=>evL ev es cs l st1 λvs s=>ca (.fn f) (.ref p :: vs) s k) λU=>false)=true:=q
  rcases Ym q2 with ⟨f,e,q3⟩ | ⟨e,q3⟩
  ·refine byC λζ=>?_;refine Q6 (Ms q3) ?_;intro hi q3
   have hi:=T.mask m hi;refine Q7 (h.callWith CA ro (pos:=pos) (f:=f) (pre:=[]) q3) ?_;intro v' st2 q4 r2;refine ζ ?_;refine ⟨v',st2,q4,λA env X μ s I N=>H8 hb (h.plain pos).2 hz hl ((r1 A env X μ s I N).step λμ' s' y e' z=>?_)⟩;refine Y0 (Z6 z.1 z.2 hob) ?_;intro a d ee2 mm oo;subst ee2
   induction oo using OR.instE with
   | inst hc hi' hd hr hz' ne =>
    rename_i des dn;have II:InstAt s'.heap a (instObj (W.ca c) d) (W.ca c) (some (dictOf des dn)):=⟨hi',rfl,rfl,hd⟩;refine byC λζ=>?_;refine X0_6 (Jx (w.attrs c m hc hi)) ?_;intro a1 a2 zz2 a5 a6 a7;obtain ⟨at',a3,a4⟩:=zz2;refine Q3 (hr.get e) ?_;intro x' hx rx;have XK:=z.1.K w;refine ζ ?_;refine method_usual XK II (plainGet_of a1).1 (plainGet_of a1).2 (T.held c m hc hi) rfl ?_;refine get_value XK II (plainGet_of a1).1 (findObj_own a2 a3 a4 (show lookIn (W.tab m) (dictOf _ _)=some (some x') from hx)) (Hn rx) ?_;exact (r2 X (z.1.toks _) ((N.ext e').ext (.toks ..)) rx .nil).fin (e'.trans (.toks ..))
  ·skip
   refine byC λζ=>?_;refine Q3 (I7 q3) ?_;intro cl hcl q4;refine Q3 (G0 q4) ?_;intro f hf q5;refine Q7 (h.callWith CA ro (pos:=pos) (f:=.fn f) (pre:=[.ref p]) q5) ?_;intro v' st2 q6 r2;refine ζ ?_;refine ⟨v',st2,q6,λA env X μ s I N=>H8 hb (h.plain pos).2 hz hl ((r1 A env X μ s I N).step λμ' s' y e' z=>?_)⟩;have z2:=z.2;refine Y0 (Z6 z.1 z.2 hob) ?_;intro a d ee2 mm oo;subst ee2
   induction oo using OR.instE with
   | inst hc hi' hd hr hz' ne =>
    rename_i des dn;have II:InstAt s'.heap a (instObj (W.ca c) d) (W.ca c) (some (dictOf des dn)):=⟨hi',rfl,rfl,hd⟩;have ck:=T.cls c cl hcl;refine Q6 (ck.meths m f hf) ?_;intro m1 m2;have XK:=z.1.K w;refine method_fn XK II (plainGet_of ck.get).1 (plainGet_of ck.get).2 m1 m2 (show (getL (W.tab m) des).map (·.isSome)=some false by rw [hr.none e];rfl) ?_;exact (r2 X z.1 (N.ext e') (.fn f) (.one z2)).fin e'
 | list xs0 =>
  refine byC λζ=>?_;refine Q7 (h.callBuiltin (pos:=pos) (id:=if Nat.beq m kx.append then "list.append" else "list.extend") (show evL ev es cs l st1 (λvs s=>Yj kx (.ref p) (.list xs0) m vs s k)=true from q)) ?_;intro vs st2 q2 r2
  unfold Yj at q2;refine Y0 (Y1 q2) ?_;intro p2 o2 e2 hob2 q3;cases e2;refine Q3 (B8 q3) ?_;intro ys ee1 q4;subst ee1;unfold methL at q4;refine ζ ?_;cases hap:Nat.beq m kx.append with
  | true =>
   rw [hap] at q4 r2;refine byC λζ=>?_;refine Q3 (V7 q4) ?_;intro u ee1 q5;subst ee1;refine Q3 (Gs (W:=W) hob2 q5) ?_;intro st3 q6 r3;refine ζ ?_;refine ⟨.none,st3,q6,λA env X μ s I N=>H8 hb (h.plain pos).2 hz hl ((r1 A env X μ s I N).step λμ' s' y e' z=>?_)⟩;refine Y0 (Z6 z.1 z.2 hob) ?_;intro a d ee2 mm oo;subst ee2;have nm:W.tab m="append":=by rw [Z8.mp hap];exact T.append
   rw [nm]
   induction oo using OR.listE with
   | list hl' hr hz' =>
    refine getMethod_builtin hl'.isList.typeIs PySem.F.plainAttrs_list PySem.F.slot_list_append PySem.F.type_list_append (λb hb=>?_) ?_
    ·cases hb;obtain ⟨_,q⟩:=hl';exact Z0 _ q rfl
    ·refine r2 X z.1 (N.ext e') λμ2 s2 ws e2 I2 rw'=>?_
     induction rw' using VRs.consE with
     | cons ra rb =>
      induction rb using VRs.nilE
      exact (r3 I2 (.ref (e2.sub _ _ mm)) ra).done (e'.trans e2) λ_ _ _ _ ⟨a,b⟩=>⟨a,by rw [b];exact .none⟩
  | false =>
   rw [hap] at q4 r2;refine byC λζ=>?_;refine Q6 (Ms q4) ?_;intro hex q5;refine Q3 (V7 q5) ?_;intro u ee1 q6;subst ee1;refine Y0 (Y1 q6) ?_;intro p3 o3 ee2 hob3 q7;subst ee2;refine Q3 (B8 q7) ?_;intro zs ee1 q8;subst ee1;refine Q3 (Xx (W:=W) hob2 hob3 q8) ?_;intro st3 q9 r3;refine ζ ?_;refine ⟨.none,st3,q9,λA env X μ s I N=>H8 hb (h.plain pos).2 hz hl ((r1 A env X μ s I N).step λμ' s' y e' z=>?_)⟩;refine Y0 (Z6 z.1 z.2 hob) ?_;intro a d ee2 mm oo;subst ee2;have nm:W.tab m="extend":=by rw [Z8.mp hex];exact T.extend
   rw [nm]
   induction oo using OR.listE with
   | list hl' hr hz' =>
    refine getMethod_builtin hl'.isList.typeIs PySem.F.plainAttrs_list PySem.F.slot_list_extend PySem.F.type_list_extend (λb hb=>?_) ?_
    ·cases hb;obtain ⟨_,q⟩:=hl';exact Z0 _ q rfl
    ·refine r2 X z.1 (N.ext e') λμ2 s2 ws e2 I2 rw'=>?_
     induction rw' using VRs.consE with
     | cons ra rb =>
      induction rb using VRs.nilE
      exact (r3 I2 (.ref (e2.sub _ _ mm)) ra).done (e'.trans e2) λ_ _ _ _ ⟨a,b⟩=>⟨a,by rw [b];exact .none⟩
 | dict es0 =>
  refine byC λζ=>?_;refine Q7 (h.callBuiltin (pos:=pos) (id:="dict.get") (show evL ev es cs l st1 (λvs s=>Yj kx (.ref p) (.dict es0) m vs s k)=true from q)) ?_;intro vs st2 q2 r2
  unfold Yj at q2;refine Y0 (Y1 q2) ?_;intro p2 o2 e2 hob2 q3;cases e2;refine ζ ?_;induction o2 using O.casesOn <;> first | exact ff q3 | (cases q3;done) | skip
  rename_i es1;refine byC λζ=>?_;refine Q6 (Ms q3) ?_;intro hg q4;refine Q3 (V7 q4) ?_;intro u ee1 q5;subst ee1;refine Q3 (X4 q5) ?_;intro j ee1 q6;subst ee1;have q7:=Ym q6;refine ζ ?_;refine ⟨(Y6 es1 j).getD .none,st2,by rcases q7 with ⟨f,e,q⟩ | ⟨e,q⟩ <;> (rw [e];exact q),λA env X μ s I N=>H8 hb (h.plain pos).2 hz hl ((r1 A env X μ s I N).step λμ' s' y e' z=>?_)⟩;refine Y0 (Z6 z.1 z.2 hob) ?_;intro a d ee2 mm oo;subst ee2;have nm:W.tab m="get":=by rw [Z8.mp hg];exact T.get
  rw [nm]
  induction oo using OR.dictE with
  | dict hd' hr hz' =>
   refine getMethod_builtin hd'.typeIs PySem.F.plainAttrs_dict PySem.F.slot_dict_get PySem.F.type_dict_get (λb hb=>?_) ?_
   ·cases hb;obtain ⟨o,es',ep,q,e1,e2,_⟩:=hd';exact Z0 _ q e1.2.1
   ·refine r2 X z.1 (N.ext e') λμ2 s2 ws e2 I2 rw'=>?_
    induction rw' using VRs.consE with
    | cons ra rb =>
     induction rb using VRs.nilE
     induction ra using VR.strE
     refine Y0 (Z6 I2 (.ref (e2.sub _ _ mm)) hob2) ?_;intro a2 d2 e3 mm2 oo2;cases e3
     induction oo2 using OR.dictE with
     | dict hd2 hr2 hz2 =>
      refine call_meetsIn PySem.F.slot_dict_get hd2.typeIs PySem.F.entry_dict_get (PySem.F.args_dict_get_2 _ _) (meets_dict_get (strKind W.prog W.w) a (Jv _ _) (I2.notSys w mm2)) ⟨_,hd2.mapOf,?_⟩;have zz:=Mq w (n:=j) hr2;cases e:Y6 es1 j with
      | some v=>rw [e] at zz;refine Q3 zz ?_;intro x' zx rx;exact J6 μ2 (e'.trans (e2.trans (.toks ..))) (I2.toks _) (by rw [zx];exact rx)
      | none=>rw [e] at zz;exact J6 μ2 (e'.trans (e2.trans (.toks ..))) (I2.toks _) (by rw [zz];exact .none)
 | tup xs0 =>
  refine byC λζ=>?_;refine Q7 (h.callBuiltin (pos:=pos) (id:="tuple.index") (show evL ev es cs l st1 (λvs s=>Yj kx (.ref p) (.tup xs0) m vs s k)=true from q)) ?_;intro vs st2 q2 r2
  unfold Yj at q2;refine Y0 (Y1 q2) ?_;intro p2 o2 e2 hob2 q3;cases e2;refine ζ ?_;induction o2 using O.casesOn <;> first | exact ff q3 | (cases q3;done) | skip
  rename_i xs1;refine byC λζ=>?_;refine Q6 (Ms q3) ?_;intro hg q4;refine Q3 (V7 q4) ?_;intro u ee1 q5;subst ee1;refine Q3 (X4 q5) ?_;intro j ee1 q6;subst ee1;refine Q3 (Aa w q6) ?_;intro i q7 r3;refine ζ ?_;refine ⟨.int (0+i:Nat),st2,q7,λA env X μ s I N=>H8 hb (h.plain pos).2 hz hl ((r1 A env X μ s I N).step λμ' s' y e' z=>?_)⟩;refine Y0 (Z6 z.1 z.2 hob) ?_;intro a d ee2 mm oo;subst ee2;have nm:W.tab m="index":=by rw [Z8.mp hg];exact T.index
  rw [nm]
  induction oo using OR.tupE with
  | tup hd' hr hz' =>
   have TT:IsTup s'.heap a _:=⟨_,hd',rfl,0,rfl⟩;refine getMethod_builtin TT.typeIs PySem.F.plainAttrs_tuple PySem.F.slot_tuple_index PySem.F.type_tuple_index (λb hb=>?_) ?_
   ·cases hb;exact Z0 _ hd' rfl
   ·refine r2 X z.1 (N.ext e') λμ2 s2 ws e2 I2 rw'=>?_
    induction rw' using VRs.consE with
    | cons ra rb =>
     induction rb using VRs.nilE
     induction ra using VR.strE
     refine Y0 (Z6 I2 (.ref (e2.sub _ _ mm)) hob2) ?_;intro a2 d2 e3 mm2 oo2;cases e3
     induction oo2 using OR.tupE with
     | tup hd2 hr2 hz2 =>
      rename_i its;have T2:IsTup s2.heap a its:=⟨_,hd2,rfl,0,rfl⟩;obtain ⟨b1,b2⟩:=r3 hr2;refine wpAny_call_entry PySem.F.slot_tuple_index T2.typeIs PySem.F.entry_tuple_index (Uj T2 (j:=i) (λi y hy lt=>b1 i y (by simpa using hy) lt) (by simpa using b2) λt=>?_) (PySem.F.args_tuple_index_2 _ _);refine ⟨_,rfl,μ2,e'.trans (e2.trans (.toks ..)),I2.toks _,?_⟩;rw [Nat.zero_add];exact .int ..
 | cell=>first | exact ff q | cases q
 | clos=>first | exact ff q | cases q
end
end
section
variable {W:Wd}
theorem Inv.kept {μ:Mp}{st:St}{s:Shared}(I:Inv W μ st s){h':Heap}{t:Nat}(hk:∀ b o,s.heap.get? b=some o->h'.get? b=some o):Inv W μ st { s with heap:=h',toks:=t }:=I.other λb o e U=>hk b o e
theorem Ext.kept {μ:Mp}{s:Shared}{h':Heap}{t:Nat}(hk:∀ b o,s.heap.get? b=some o->h'.get? b=some o):Ext μ s μ { s with heap:=h',toks:=t }:=⟨λU U h=>h,λU U U h q=>(by rw [h] at q;exact sN q),λb o h U=>hk b o h,rfl⟩
theorem Inv.made {μ:Mp}{st st':St}{s:Shared}{xs:List V}{its:Array Value}{v:V}{h':Heap}{t:Nat}{a:Addr}(I:Inv W μ st s)(al:NewL st xs v st')(hk:∀ b o,s.heap.get? b=some o->h'.get? b=some o)(ha:s.heap.get? a=none)(hl:h'.PlainList a its)(r:VRs W μ xs its.toList) :
  ∃ μ',Ext μ s μ' { s with heap:=h',toks:=t }/\Inv W μ' st' { s with heap:=h',toks:=t }/\VR W μ' v (.ref a):=by
 refine byC λζ=>?_;obtain ⟨hz,p,rfl,al⟩:=al;obtain ⟨n,ho⟩:=hl;refine K0 (I.alloc (t:=t) al hk ha ha (Z1 ho) (Z1 ho) λμ' sub=>.list ⟨n,ho⟩ (r.mono sub) hz) ?_;intro μ' b c d;refine ζ ?_;exact J6 μ' b c (.ref d)
noncomputable def J9 (W:Wd)(n:Str)(v:Value):Bool:=nsIn W.K mainGlobals n==some none&&!(n=="__name__")&&bootBuiltins n==some v
theorem B6 (w:Wf W){A:Around}{env:Env}{cs:Q4}{l:Loc}{μ:Mp}{s:Shared}{n:Str}{v:Value}{pos:Pos}{Q:Value->Shared->Prop}{E:Value->Shared->Prop}{st:St}(I:Inv W μ st s)(N:EnvR W μ s env cs l)(h:J9 W n v=true)(hk:env.kindOf n=some .globalImplicit)(hd:(n==("__debug__":Str))=false)(q:Q v s) :
  wpAny (model W.prog W.w) A (eval (.Name n pos) env) Q E s:=by
 unfold J9 at h;simp only [Bool.and_eq_true,Bool.not_eq_true',beq_eq_false_iff_ne,beq_iff_eq] at h;refine byC λζ=>?_;refine Q6 h ?_;intro zz0 h3;obtain ⟨h1,h2⟩:=zz0;refine J2 w.main ?_;intro mg hg;refine Q3 w.blt ?_;intro mb hb hx;refine ζ ?_;exact Name_function_global N.kind hk (loadGlobal_builtin (mg:=mg) (mb:=mb) (by rw [N.glob];exact hg.keeps I.keep) (mg_none_of w.kin hg h1) (by rw [N.blt];exact hb.keeps I.keep) (by rw [hx n h2];exact h3) q) hd
noncomputable def IsB (v:Value):Prop:=(∃ id,v=.builtin id)\/∃ T,v=.type T
section
variable {C:Cls}{ev:Ev}
theorem SEs.callB {es:List E}{xs:List Expr}(h:SEs W C ev es xs){pos:Pos}{cs:Q4}{l:Loc}{st:St}{f:Value}(hf:IsB f){q:List V->St->R}(hq:evL ev es cs l st q=true):∃ vs st',q vs st'=true /\
   ∀ {A:Around}{env:Env}{μ:Mp}{s:Shared}{Q:Value->Shared->Prop},C A env->Inv W μ st s->EnvR W μ s env cs l ->
    (∀ μ' s' ys,Ext μ s μ' s'->Inv W μ' st' s'->VRs W μ' vs ys->wpAny (model W.prog W.w) A (call f ys) Q Z3 s')->wpAny (model W.prog W.w) A (PySem.callWith pos f [] (backTo pos (starEach xs env)) []) Q Z3 s:=by
 have key:∀ {A:Around}{Q:Value->Shared->Prop}{s:Shared}{args:List (Bool × Sem Value)},args.any (·.1)=false->wpAny (model W.prog W.w) A (evalArgs f true args []) (λa s₁=>wpAny (model W.prog W.w) A (call f ([]++a.pos) a.kw) Q Z3 s₁) Z3 s->wpAny (model W.prog W.w) A (PySem.callWith pos f [] args []) Q Z3 s:=by
  intro A Q s args hp h
  rcases hf with ⟨id,rfl⟩ | ⟨T,rfl⟩
  ·exact callWith_builtin hp h
  ·exact PySem.callWith_type hp h
 cases h with
 | nil=>exact Q9 ([]) st hq (λ{A env μ s Q} X I N r=>key rfl (evalArgs_nil3 (r μ s [] (.refl ..) I .nil)))
 | cons hs hx t =>
  have h:SEs W C ev _ _:=.cons hs hx t;refine Y0 (h.run hq) ?_;intro vs st1 hq _ r1;refine Q9 vs st1 hq (λ{A env μ s Q} X I N r=>key (h.plain pos).1 ?_);have key:=r1 pos A env X μ s I N;dsimp only at key;rw [Z4 hs] at key ⊢;exact evalArgs_plain (key.step λμ' s' a e z=>r μ' s' a e z.1 z.2)
end
noncomputable def biF:Bi->Value | .list=>.type "list" | .len=>.builtin "len" | .min=>.builtin "min" | .max=>.builtin "max" | .abs=>.builtin "abs" | .sum=>.builtin "sum" | .sorted=>.builtin "sorted" | _=>.none
noncomputable def Tf:Bi->Bool | .list | .len | .min | .max | .abs | .sum=>true | _=>false
section
variable {prog:Program}{w:World}{A:Around}{E:Value->Shared->Prop}{s:Shared}
theorem Ab {μ:Mp}:∀ {xs:List V}{acc:Int}{k:Int->R},sumK xs acc k=true->∃ is:List Int,xs=is.map .int/\k (acc+is.sum)=true
 | [],acc,k,h=>⟨[],rfl,by rw [List.sum_nil,Int.add_zero];exact h⟩
 | x :: r,acc,k,h=>by
  unfold sumK at h;refine byC λζ=>?_;refine Q3 (Y7 h) ?_;intro i ee1 h2;subst ee1;refine Q3 (Ab (μ:=μ) (O5 h2)) ?_;intro is ee1 h3;subst ee1;refine ζ ?_;exact Z0 (i :: is) rfl (by rw [List.sum_cons,<-Int.add_assoc];exact h3)
theorem Th {μ:Mp}:∀ {is:List Int}{vs:List Value},VRs W μ (is.map .int) vs->(∀ v∈vs,∃ a t,v=.int a t)/\numsOf vs=is
 | [],_,.nil=>⟨λU h=>(by first | exact ff h | cases h),rfl⟩
 | i :: is,_,.cons a b=>by
  induction a using VR.intE
  have:=Th b;exact ⟨λv h=>by
   rcases List.mem_cons.mp h with rfl | h
   ·exact I2_1 _ _ rfl
   ·exact this.1 v h,by unfold numsOf;rw [this.2]⟩
end
theorem Ti:∀ {es:List (Nat × V)}{k:List V->R},Q0i es k=true->k (es.map λe=>.str e.1)=true
 | [],_,h=>h
 | (n,v) :: r,k,h=>Ti (k:=λr'=>k (.str n :: r')) h
theorem Tj {μ:Mp}{es:List (Nat × V)}{kvs:List (Str × Value)}(h:KVs W μ es kvs):kvs.length=es.length/\∀ (j:Nat)(e:Nat × V),es[j]?=some e->∃ x,kvs[j]?=some (W.tab e.1,x):=by
 induction h with
 | nil=>exact ⟨rfl,λj e h=>by simp at h⟩
 | cons h t ih =>
  refine ⟨by simp [ih.1],λj e he=>?_⟩
  induction j using Nat.casesAuxOn with
  | zero=>cases he;exact ⟨_,rfl⟩
  | succ j=>exact ih.2 j e he
theorem Yq {μ:Mp}{P:V->Value->Prop}(hP:∀ v x,P v x->VR W μ v x){xs:List V}:∀ {vs:List Value},xs.length=vs.length->(∀ (j:Nat) v x,xs[j]?=some v->vs[j]?=some x->P v x)->VRs W μ xs vs:=by
 induction xs with
 | nil =>
  intro vs h _
  induction vs using List.casesOn with
  | nil=>exact .nil
  | cons=>exact Nat.noConfusion h
 | cons v xs ih =>
  intro vs h k
  induction vs using List.casesOn with
  | nil=>exact Nat.noConfusion h
  | cons x vs=>exact .cons (hP _ _ (k 0 v x rfl rfl)) (ih (Nat.succ.inj h) λj v x a b=>k (j+1) v x a b)
theorem vrs_at {μ:Mp}{xs:List V}{vs:List Value}(h:vs.length=xs.length):(∀ (j:Nat) v x,xs[j]?=some v->vs[j]?=some x->VR W μ v x)->VRs W μ xs vs:=Yq (λU U h=>h) h.symm
set_option tactic.hygienic true in
theorem Q1r {μ:Mp}{prog:Program}{w:World}{es:List (Nat × V)}{kvs:List (Str × Value)}{vs:List Value}(h:KVs W μ es kvs)(len:vs.length=kvs.length)(at_:∀ (j:Nat) x,vs[j]?=some x->∃ k y,kvs[j]?=some (k,y)/\(strKind prog w).is k x=true):VRs W μ (es.map λe=>.str e.1) vs:=by
 have k:=Tj h;refine vrs_at (by rw [len,k.1];simp) λj v x hv hx=>?_;rw [List.getElem?_map] at hv;refine byC λζ=>?_;refine Q3 (Option.map_eq_some_iff.mp hv) ?_;intro e he ee2;subst ee2;refine J2 (k.2 j e he) ?_;intro y hy;refine Q7 (at_ j x hx) ?_;intro kk y' hk is;rw [hy] at hk
 induction hk using K6
 refine ζ ?_;have:Value.isStrOf (W.tab e.1) x=true:=is
 induction x using PySem.Value.casesOn <;> first | exact ff this | (cases this;done) | skip
 rename_i z t;have zz:z=W.tab e.1:=by simpa [Value.isStrOf] using this
 subst zz;exact .str ..
set_option tactic.hygienic true in
theorem biV_of {g:G}{b:Bi}{st:St}{vs:List V}{k:V->St->R}(w:Wf W)(hb:Tf b=true)(h:biV g b st vs k=true):∃ v st',k v st'=true /\
  ∀ {A:Around}{μ:Mp}{s:Shared}{ys:List Value},A.handled=none->Inv W μ st s->VRs W μ vs ys->Run W A μ s (call (biF b) ys) λμ' s' z=>Inv W μ' st' s'/\VR W μ' v z:=by
 induction b using Bi.casesOn with
 | len =>
  unfold biV at h;refine byC λζ=>?_;refine Q3 (V7 h) ?_;intro x ee1 h;subst ee1;refine Y0 (Y1 h) ?_;intro p o ee2 ho h;subst ee2;refine ζ ?_;induction o using O.casesOn with
  | list xs =>
   have h2:=E4 (k:=λn=>k (.int (.ofNat n)) st) (Yn (xs:=xs) (k:=λn=>Gk n λn=>k (.int (.ofNat n)) st) h);refine Q9 _ _ h2 (λ{A μ s ys} _ I r=>?_)
   induction r using VRs.consE with
   | cons ra rb =>
    induction rb using VRs.nilE
    refine Y0 (Z6 I ra ho) ?_;intro a d ee2 m oo;subst ee2
    induction oo using OR.listE with
    | list hl hr hz=>exact call_len_list hl.isList (by rw [hr.size];lia) ⟨_,.toks ..,I.toks _,by rw [hr.size];exact .int ..⟩
  | tup xs =>
   have h2:=E4 (k:=λn=>k (.int (.ofNat n)) st) (Yn (xs:=xs) (k:=λn=>Gk n λn=>k (.int (.ofNat n)) st) h);refine Q9 _ _ h2 (λ{A μ s ys} _ I r=>?_)
   induction r using VRs.consE with
   | cons ra rb =>
    induction rb using VRs.nilE
    refine Y0 (Z6 I ra ho) ?_;intro a d ee2 m oo;subst ee2
    induction oo using OR.tupE with
    | tup hl hr hz=>exact PyProof.Rows.len_tuple ⟨_,hl,rfl,0,rfl⟩ (by rw [hr.size];lia) ⟨_,.toks ..,I.toks _,by rw [hr.size];exact .int ..⟩
  | dict es =>
   have h2:=E4 (k:=λn=>k (.int (.ofNat n)) st) (Yn (xs:=es) (k:=λn=>Gk n λn=>k (.int (.ofNat n)) st) h);refine Q9 _ _ h2 (λ{A μ s ys} _ I r=>?_);have hl:∀ {es:List (Nat × V)}{kvs:List (Str × Value)},KVs W μ es kvs->kvs.length=es.length:=λh=>by induction h <;> simp_all
   induction r using VRs.consE with
   | cons ra rb =>
    induction rb using VRs.nilE
    refine Y0 (Z6 I ra ho) ?_;intro a d ee2 m oo;subst ee2
    induction oo using OR.dictE with
    | dict hd hr hz=>exact call_len_dict (I.notSys w m) hd (by rw [hl hr];lia) ⟨_,.toks ..,I.toks _,by rw [hl hr];exact .int ..⟩
  | inst=>first | exact ff h | cases h
  | cell=>first | exact ff h | cases h
  | clos=>first | exact ff h | cases h
 | list =>
  unfold biV at h;refine byC λζ=>?_;refine Q3 (V7 h) ?_;intro x ee1 h;subst ee1;refine Y0 (Y1 h) ?_;intro p o ee2 ho h;subst ee2;refine ζ ?_;have hx':∃ xs,(o=.list xs\/o=.tup xs\/∃ es,o=.dict es/\xs=es.map λe=>.str e.1)/\L7 st xs k=true:=by
   induction o using O.casesOn with
   | list xs=>exact Z0 xs (.inl rfl) h
   | tup xs=>exact Z0 xs (.inr (.inl rfl)) h
   | dict es=>exact Z0 _ (.inr (.inr ⟨es,rfl,rfl⟩)) (Ti (show Q0i es _=true from h))
   | inst=>first | exact ff h | cases h
   | cell=>first | exact ff h | cases h
   | clos=>first | exact ff h | cases h
  refine byC λζ=>?_;refine Q3 hx' ?_;intro xs hx h;refine Q7 (B1 h) ?_;intro v st' h al;refine ζ ?_;refine Q9 v st' h (λ{A μ s ys} hh I r=>?_)
  induction r using VRs.consE with
  | cons ra rb =>
   induction rb using VRs.nilE
   refine Y0 (Z6 I ra ho) ?_;intro a d ee2 m oo;subst ee2;have key:∀ {T:String}{its:Array Value}{n:Nat},(T="list"\/T="tuple")->s.heap.get? a=some { cls:=.type T,data:=.seq its n }->VRs W μ xs its.toList->Run W A μ s (call (.type "list") [.ref a]) λμ' s' z=>Inv W μ' st' s'/\VR W μ' v z:=by
    intro T its n hT hl hr;refine call_list_seq a hT hl rfl rfl (λh' c' hk hg=>?_) (by rw [hr.size,sizeLine_eq];have:=al.le;lia);refine K0 (I.made (t:=s.toks) al hk (Heap.get?_none_of_le (Nat.le_refl _)) ⟨_,hg⟩ hr) ?_;intro μ' e I' r';exact J6 μ' e I' r'
   rcases hx with rfl | rfl | ⟨es,rfl,rfl⟩
   ·induction oo using OR.listE with
    | list hl hr hz=>obtain ⟨n,hl⟩:=hl;exact key (.inl rfl) hl hr
   ·induction oo using OR.tupE with
    | tup hl hr hz=>exact key (.inr rfl) hl hr
   ·induction oo using OR.dictE with
    | dict hd hr hz =>
     rename_i kvs;have len:kvs.length=es.length:=(Tj hr).1;obtain ⟨ob,es',ep,ho,hx,hdd,r⟩:=hd;refine kdl_call (kdl_dict (knd:=strKind W.prog W.w) (kvs:=kvs) (ep:=ep) (I.notSys w m)) hh ⟨ob,es',ho,hx,hdd,r⟩ (by rw [sizeLine_eq];lia) λh' tk acc' c' hk hg hi=>?_;refine K0 (I.made (t:=tk) (its:=acc') al hk (Heap.get?_none_of_le (Nat.le_refl _)) ⟨_,hg⟩ (Q1r hr (by rw [Array.length_toList,hi.1]) λj x hx=>hi.2 j x (by simpa using hx))) ?_;intro μ' e I' r';exact J6 μ' e I' r'
 | min =>
  unfold biV at h;refine byC λζ=>?_;refine Q7 (Q1b h) ?_;intro x y ee2 h;subst ee2;refine Q3 (Y7 h) ?_;intro i ee1 h;subst ee1;refine Q3 (Y7 h) ?_;intro j ee1 h;subst ee1;refine ζ ?_;refine Q9 (if j<i then .int j else .int i) st ?_ (λ{A μ s ys} hh I r=>?_)
  ·rcases bE (b:=ltI j i) h with ⟨q,h⟩ | ⟨q,h⟩
   ·rw [E5,decide_eq_true_eq] at q;rw [if_pos q];exact h
   ·rw [E5,decide_eq_false_iff_not] at q;rw [if_neg q];exact h
  ·induction r using VRs.consE with
   | cons ra rb =>
    induction rb using VRs.consE with
    | cons rb rc =>
     induction rc using VRs.nilE
     induction ra using VR.intE
     induction rb using VR.intE
     exact min_two_ints hh λh' tk hk=>⟨μ,.kept hk,I.kept hk,by split <;> exact .int ..⟩
 | max =>
  unfold biV at h;refine byC λζ=>?_;refine Q7 (Q1b h) ?_;intro x y ee2 h;subst ee2;refine Q3 (Y7 h) ?_;intro i ee1 h;subst ee1;refine Q3 (Y7 h) ?_;intro j ee1 h;subst ee1;refine ζ ?_;refine Q9 (if j > i then .int j else .int i) st ?_ (λ{A μ s ys} hh I r=>?_)
  ·rcases bE (b:=ltI i j) h with ⟨q,h⟩ | ⟨q,h⟩
   ·rw [E5,decide_eq_true_eq] at q;rw [if_pos q];exact h
   ·rw [E5,decide_eq_false_iff_not] at q;rw [if_neg q];exact h
  ·induction r using VRs.consE with
   | cons ra rb =>
    induction rb using VRs.consE with
    | cons rb rc =>
     induction rc using VRs.nilE
     induction ra using VR.intE
     induction rb using VR.intE
     exact max_two_ints hh λh' tk hk=>⟨μ,.kept hk,I.kept hk,by split <;> exact .int ..⟩
 | abs =>
  unfold biV at h;refine byC λζ=>?_;refine Q3 (V7 h) ?_;intro x ee1 h;subst ee1;refine Q3 (Y7 h) ?_;intro i ee1 h7;subst ee1;refine ζ ?_;refine Q9 _ st (O5 h7) (λ{A μ s ys} _ I r=>?_)
  induction r using VRs.consE with
  | cons ra rb =>
   induction rb using VRs.nilE
   induction ra using VR.intE
   refine call_abs_int λu tk=>⟨μ,.toks ..,I.toks _,?_⟩;have:(if i<0 then -i else i)=Int.ofNat i.natAbs:=by split <;> (show _=((i.natAbs:Nat):Int);lia)
   rw [this];exact .int ..
 | sum =>
  unfold biV at h;refine byC λζ=>?_;obtain ⟨x,rfl,h⟩:=V7 h;obtain ⟨p,o,rfl,ho,h⟩:=Y1 h;obtain ⟨xs,rfl,h⟩:=B8 h;refine Q3 (Ab (μ:=λU=>none) h) ?_;intro is ee1 h7;subst ee1;refine ζ ?_;refine Q9 _ st h7 (λ{A μ s ys} hh I r=>?_)
  induction r using VRs.consE with
  | cons ra rb =>
   induction rb using VRs.nilE
   refine Y0 (Z6 I ra ho) ?_;intro a d ee2 m oo;subst ee2
   induction oo using OR.listE with
   | list hl hr hz =>
    refine byC λζ=>?_;refine Q6 (Th hr) ?_;intro ai ni;rename_i its;have ai':AllInts its:=λv hv=>ai v (by simpa using hv);refine J2 ai'.items ?_;intro ps ee1;subst ee1;rw [nums_intItems] at ni;refine ζ ?_;refine sum_intListG hh hl.isList λh' tk t' hk=>⟨μ,.kept hk,I.kept hk,?_⟩;rw [preSum_eq,List.take_of_length_le (by simp),ni,Int.zero_add];exact .int ..
 | listRange=>first | exact ff hb | cases hb
 | str=>first | exact ff hb | cases hb
 | sorted=>first | exact ff hb | cases hb
 | sortedSet=>first | exact ff hb | cases hb
 | isInt=>first | exact ff hb | cases hb
section
variable {C:Cls}{ev:Ev}
theorem se_bi (w:Wf W){g:G}{b:Bi}{es:List E}{xs:List Expr}{id:Str}{p pos:Pos}(hb:Tf b=true)(hh:∀ A env,C A env->A.handled=none)(h:SEs W C ev es xs)(hn:J9 W id (biF b)=true)(hk:∀ A env,C A env->env.kindOf id=some .globalImplicit)(hd:(id==("__debug__":Str))=false) :
  SE W C (hBi g ev b es) (eval (.Call (.Name id p) xs [] pos)):=λcs l st k q=>by
 have isb:IsB (biF b):=by induction b using Bi.casesOn <;> first | exact .inl ⟨_,rfl⟩ | exact .inr ⟨_,rfl⟩ | cases hb
 refine byC λζ=>?_;refine Q7 (h.callB (pos:=pos) isb q) ?_;intro vs st1 q2 r1;refine Q7 (biV_of w hb q2) ?_;intro v st2 q3 r2;refine ζ ?_;refine ⟨v,st2,q3,λA env X μ s I N=>wpAny_Call_Name_kw (B6 w I N hn (hk A env X) hd ?_)⟩;exact r1 X I N λμ' s' ys e I' rr=>(r2 (hh A env X) I' rr).fin e
theorem Hr:∀ {n a:Nat}{k:List V->R},Xm a n k=true->∃ xs,k xs=true/\xs.length=n/\∀ j,j<n->xs[j]?=some (.int ((a+j:Nat):Int))
 | 0,_,_,h=>⟨[],h,rfl,λj h=>absurd h (Nat.not_lt_zero _)⟩
 | n+1,a,k,h=>by
  refine K0 (Hr (show Xm (a+1) n _=true from h)) ?_;intro xs h2 h3 h4;refine J6 _ (E4 h2) (by simp [h3]) (λj hj=>?_)
  induction j using Nat.casesAuxOn with
  | zero=>rfl
  | succ j=>simpa [Nat.add_assoc,Nat.add_comm 1] using h4 j (by lia)
theorem Mt (w:Wf W){g:G}{a:E}{ea:Expr}{l r:Str}{p p1 p2 pos:Pos}(hh:∀ A env,C A env->A.handled=none)(hs:Z5 ea=true)(h:SE W C (ev a) (eval ea))(hl:J9 W l (.type "list")=true)(hr:J9 W r (.type "range")=true)
  (kl:∀ A env,C A env->env.kindOf l=some .globalImplicit)(kr:∀ A env,C A env->env.kindOf r=some .globalImplicit)(dl:(l==("__debug__":Str))=false)(dr:(r==("__debug__":Str))=false) :
  SE W C (hBi g ev .listRange [a]) (eval (.Call (.Name l p) [.Call (.Name r p1) [ea] [] p2] [] pos)):=λcs lo st k q=>by
 have H:SEs W C ev [a] [ea]:=.cons hs h .nil;refine byC λζ=>?_;refine Q7 (H.callB (pos:=p2) (f:=.type "range") (.inr ⟨_,rfl⟩) (show evL ev [a] cs lo st (λvs s=>biV g .listRange s vs k)=true from q)) ?_;intro vs st1 q2 r1
 refine Q3 (V7 (show one vs _=true from q2)) ?_;intro x ee1 q3;subst ee1;refine Q3 (L9 q3) ?_;intro n ee1 q4;subst ee1;refine K0 (Hr q4) ?_;intro xs q5 len at_;refine Q7 (B1 q5) ?_;intro v st2 q6 al;refine ζ ?_;refine ⟨v,st2,q6,λA env X μ s I N=>wpAny_Call_Name_kw (B6 w I N hl (kl A env X) dl ?_)⟩;refine PySem.callWith_type rfl (evalArgs_plain (spliced_cons ?_));refine wpAny_Call_Name_kw (B6 w I N hr (kr A env X) dr ?_);refine r1 X I N λμ' s' ys e I' rr=>?_
 induction rr using VRs.consE with
 | cons ra rb =>
  induction rb using VRs.nilE
  induction ra using VR.intE
  refine call_range_1 (spliced_nil ?_);have hz:n<=1000:=by have:=al.le;lia
  have k1:∀ (ob:Obj)(b:Addr)(o:Obj),s'.heap.get? b=some o->(s'.heap.push ob).get? b=some o:=λU b o e=>Heap.get?_push_of_some _ e;refine call_list_range (n:=n) (hh A env X) (IsRange.new ..) (small_one (by decide) (by decide) (by lia) (by lia)) (by rw [rangeSize_one];split <;> lia) (by lia) λh' tk acc' c' hk hg hi=>?_;have I2:=λob=>I'.kept (t:=s'.toks+1+1) (k1 ob);obtain ⟨μ2,e2,I3,r3⟩:=(I2 _).made (t:=tk) (its:=acc') al hk (Heap.get?_none_of_le (Nat.le_refl _)) ⟨_,hg⟩ (Yq (P:=λv x=>∃ i t,v=.int i/\x=.int i t) (λv x ⟨i,t,a,b⟩=>by subst a b;exact .int ..) (by rw [len,Array.length_toList,hi.1]) λj v x hv hx=>by
   have hj:j<n:=by have:=(List.getElem?_eq_some_iff.mp hv).1;lia
   rw [at_ j hj] at hv
   induction hv using J8
   refine J2 (hi.2 j x (by simpa using hx)) ?_;intro t ee1;subst ee1;exact Q9 _ t rfl (by congr 1;simp))
  exact J6 μ2 (e.trans ((Ext.kept (k1 _)).trans e2)) I3 r3
end
end
section
variable {W:Wd}
noncomputable def Kz (W:Wd)(c:Nat):Bool :=
 (List.range W.cN).all (λd=>Nat.beq d c||(kin_not W.K (W.ca d) (W.ca c)&&plainGet W.K (W.ca d) "__class__"&&hasDictIn W.K (W.ca d)&&findIn W.K (.ref (W.ca d)) "__class__"==some (some (.builtin "object.__class__"))&&mroIn W.K (W.ca d) (.type "object")==some true)) &&
 specialIn W.K (.builtin "object.__class__") "__get__"==some (some (.builtin "getset_descriptor.__get__"))&&takesIn W.K (.builtin "object.__class__")==some true &&
 isNotIn W.K "list" (W.ca c)&&isNotIn W.K "tuple" (W.ca c)&&isNotIn W.K "int" (W.ca c)&&isNotIn W.K "str" (W.ca c)&&isNotIn W.K "NoneType" (W.ca c)
theorem isi_at {d c:Nat}(h:Kz W c=true)(hd:d<W.cN)(ne:Nat.beq d c=false):kin_not W.K (W.ca d) (W.ca c)=true/\plainGet W.K (W.ca d) "__class__"=true/\hasDictIn W.K (W.ca d)=true/\findIn W.K (.ref (W.ca d)) "__class__"=some (some (.builtin "object.__class__"))/\mroIn W.K (W.ca d) (.type "object")=some true:=by
 unfold Kz at h;simp only [Bool.and_eq_true] at h;have:=List.all_eq_true.mp h.1.1.1.1.1.1.1 d (List.mem_range.mpr hd);rw [ne,Bool.false_or] at this;simp only [Bool.and_eq_true,beq_iff_eq] at this;exact ⟨this.1.1.1.1,this.1.1.1.2,this.1.1.2,this.1.2,this.2⟩
theorem Q1s {c:Nat}(h:Kz W c=true):specialIn W.K (.builtin "object.__class__") "__get__"=some (some (.builtin "getset_descriptor.__get__"))/\takesIn W.K (.builtin "object.__class__")=some true /\
  isNotIn W.K "list" (W.ca c)=true/\isNotIn W.K "tuple" (W.ca c)=true/\isNotIn W.K "int" (W.ca c)=true/\isNotIn W.K "str" (W.ca c)=true/\isNotIn W.K "NoneType" (W.ca c)=true:=by
 unfold Kz at h;simp only [Bool.and_eq_true,beq_iff_eq] at h;refine Q6 h ?_;intro zz0 g;obtain ⟨⟨⟨⟨⟨⟨_,a⟩,b⟩,c⟩,d⟩,e⟩,f⟩:=zz0;exact ⟨a,b,c,d,e,f,g⟩
set_option tactic.hygienic true in
theorem Xy (w:Wf W){st:St}{v:V}{c:Nat}{k:Bool->R}(hc:Kz W c=true)(h:Cp st v c k=true):∃ b,k b=true /\
  ∀ {A:Around}{μ:Mp}{s:Shared}{x:Value},Inv W μ st s->VR W μ v x->Run W A μ s (call (.builtin "isinstance") [x,.ref (W.ca c)]) λμ' s' z=>Inv W μ' st s'/\z=.bool b:=by
 refine X0_7 (Q1s hc) ?_;intro i1 i2 i3 i4 i5 i6 i7
 induction v using V.casesOn with
 | ref p =>
  refine Q3 (B0 (show X1 st p _=true from h)) ?_;intro o ho h
  induction o using O.casesOn with
  | inst d es =>
   refine Z0 (Nat.beq d c) h (λ{A μ s x} I r=>?_);refine Y0 (Z6 I r ho) ?_;intro a dd ee2 m oo;subst ee2
   induction oo using OR.instE with
   | inst hd hi hdd hr hz ne =>
    rename_i des dn;have II:InstAt s.heap a (instObj (W.ca d) dd) (W.ca d) (some (dictOf des dn)):=⟨hi,rfl,rfl,hdd⟩;cases e:Nat.beq d c with
    | true =>
     have:=Z8.mp e;subst this;exact isi_call (I.K w) (λU=>II.type) (by unfold isIn;rw [beq_self_eq_true];rfl) (λq=>by cases q) ⟨μ,.refl ..,I,rfl⟩
    | false =>
     refine X0_5 (isi_at hc hd e) ?_;intro j1 j2 j3 j4 j5;exact kin_callC (I.K w) II j1 j2 j3 j4 i1 i2 j5 ⟨μ,.toks ..,I.toks _,rfl⟩
  | list xs =>
   refine Z0 false h (λ{A μ s x} I r=>?_);refine Y0 (Z6 I r ho) ?_;intro a dd ee2 m oo;subst ee2
   induction oo using OR.listE with
   | list hl hr hz =>
    obtain ⟨n,hl⟩:=hl;exact isn_call (I.K w) (λU=>(Looks.ld (part:=none) hl).andThen .now) i3 (λq=>by cases q) (P:=λh=>∃ o,h.get? a=some o/\o.cls=.type "list") ⟨_,hl,rfl⟩ list_cls ⟨μ,.toks ..,I.toks _,rfl⟩
  | tup xs =>
   refine Z0 false h (λ{A μ s x} I r=>?_);refine Y0 (Z6 I r ho) ?_;intro a dd ee2 m oo;subst ee2
   induction oo using OR.tupE with
   | tup hl hr hz=>exact isn_call (I.K w) (λU=>(Looks.ld (part:=none) hl).andThen .now) i4 (λq=>by cases q) (P:=λh=>∃ o,h.get? a=some o/\o.cls=.type "tuple") ⟨_,hl,rfl⟩ tuple_cls ⟨μ,.toks ..,I.toks _,rfl⟩
  | dict=>first | exact ff h | cases h
  | cell=>first | exact ff h | cases h
  | clos=>first | exact ff h | cases h
 | none=>exact Z0 false h (λI r=>by induction r using VR.noneE;exact isn_call (P:=λU=>True) (I.K w) (λU=>.of_pure (by kernel_rfl)) i7 (λq=>by cases q) trivial none_cls ⟨_,.toks ..,I.toks _,rfl⟩)
 | int i=>exact Z0 false h (λI r=>by induction r using VR.intE;exact isn_call (P:=λU=>True) (I.K w) (λU=>.of_pure rfl) i5 (λq=>by cases q) trivial int_cls ⟨_,.toks ..,I.toks _,rfl⟩)
 | str i=>exact Z0 false h (λI r=>by induction r using VR.strE;exact isn_call (P:=λU=>True) (I.K w) (λU=>.of_pure rfl) i6 (λq=>by cases q) trivial str_cls ⟨_,.toks ..,I.toks _,rfl⟩)
 | bool=>first | exact ff h | cases h
 | fn=>first | exact ff h | cases h
 | cls=>first | exact ff h | cases h
theorem Rn {st:St}{v:V}{k:Bool->R}(h:Gm st v k=true):∃ b,k b=true /\
  ∀ {A:Around}{μ:Mp}{s:Shared}{x:Value},Inv W μ st s->VR W μ v x->Run W A μ s (call (.builtin "isinstance") [x,.type "int"]) λμ' s' z=>Inv W μ' st s'/\z=.bool b:=by
 induction v using V.casesOn with
 | ref p =>
  unfold Gm at h;dsimp only at h;refine byC λζ=>?_;refine Y0 (Y1 h) ?_;intro p o e ho h;cases e;refine Q3 (I9 h) ?_;intro xs hx h;refine ζ ?_;refine Z0 false h (λ{A μ s x} I r=>?_);refine Y0 (Z6 I r ho) ?_;intro a dd ee2 m oo;subst ee2
  rcases hx with rfl | rfl
  ·induction oo using OR.listE with
   | list hl hr hz=>obtain ⟨n,hl⟩:=hl;exact IsiPair.list_int hl rfl ⟨_,.toks ..,I.toks _,rfl⟩
  ·induction oo using OR.tupE with
   | tup hl hr hz=>exact IsiPair.tuple_int hl rfl ⟨_,.toks ..,I.toks _,rfl⟩
 | none=>exact Z0 false h (λI r=>by induction r using VR.noneE;exact IsiPair.NoneType_int ⟨_,.toks ..,I.toks _,rfl⟩)
 | int i=>exact Z0 true h (λI r=>by induction r using VR.intE;exact IsiPair.int_int ⟨_,.refl ..,I,rfl⟩)
 | str i=>exact Z0 false h (λI r=>by induction r using VR.strE;exact IsiPair.str_int ⟨_,.toks ..,I.toks _,rfl⟩)
 | bool=>first | exact ff h | cases h
 | fn=>first | exact ff h | cases h
 | cls=>first | exact ff h | cases h
section
variable {C:Cls}{ev:Ev}
theorem Rq (w:Wf W){e:E}{c:Nat}{x:Expr}{i n:Str}{p p1 pos:Pos}(hc:Kz W c=true)(hs:Z5 x=true)(h:SE W C (ev e) (eval x))(hi:J9 W i (.builtin "isinstance")=true)(hn:X5 W (.cls c) n=true)
  (ki:∀ A env,C A env->env.kindOf i=some .globalImplicit)(kn:∀ A env,C A env->env.kindOf n=some .globalImplicit)(di:(i==("__debug__":Str))=false)(dn:(n==("__debug__":Str))=false) :
  SE W C (Cq ev e c) (eval (.Call (.Name i p) [x,.Name n p1] [] pos)):=λcs l st k q=>by
 refine byC λζ=>?_;obtain ⟨v,st1,q,r1⟩:=h cs l st _ q;refine Q3 (Xy w hc q) ?_;intro b q r2;refine ζ ?_;refine ⟨.bool b,st1,q,λA env X μ s I N=>wpAny_Call_Name_kw (B6 w I N hi (ki A env X) di ?_)⟩
 show wpAny _ _ (PySem.callWith pos (.builtin "isinstance") [] (backTo pos (starEach [x,.Name n p1] env)) []) _ _ _
 rw [Z4 hs];refine callWith_builtin rfl (evalArgs_plain (spliced_cons ((r1 A env X μ s I N).step λμ' s' y e z=>spliced_cons ?_)));refine (Uy (C:=C) (cs:=cs) (l:=l) (st:=st1) w hn kn dn A env X μ' s' z.1 (N.ext e)).step λμ2 s2 y2 e2 z2=>spliced_nil ?_;cases z2.2;exact (r2 z2.1 (z.2.mono e2.sub)).done (e.trans e2) λ_ _ _ _ ⟨a,b⟩=>⟨a,by rw [b];exact .bool _⟩
theorem Q1t (w:Wf W){g:G}{e:E}{x:Expr}{i n:Str}{p p1 pos:Pos}(hs:Z5 x=true)(h:SE W C (ev e) (eval x))(hi:J9 W i (.builtin "isinstance")=true)(hn:J9 W n (.type "int")=true)
  (ki:∀ A env,C A env->env.kindOf i=some .globalImplicit)(kn:∀ A env,C A env->env.kindOf n=some .globalImplicit)(di:(i==("__debug__":Str))=false)(dn:(n==("__debug__":Str))=false) :
  SE W C (hBi g ev .isInt [e]) (eval (.Call (.Name i p) [x,.Name n p1] [] pos)):=λcs l st k q=>by
 refine byC λζ=>?_;obtain ⟨v,st1,q,r1⟩:=h cs l st (λv s=>one [v] λx=>Gm s x λb=>k (.bool b) s) q;refine Q3 (Rn (W:=W) (show Gm st1 v (λb=>k (.bool b) st1)=true from q)) ?_;intro b q r2;refine ζ ?_;refine ⟨.bool b,st1,q,λA env X μ s I N=>wpAny_Call_Name_kw (B6 w I N hi (ki A env X) di ?_)⟩
 show wpAny _ _ (PySem.callWith pos (.builtin "isinstance") [] (backTo pos (starEach [x,.Name n p1] env)) []) _ _ _
 rw [Z4 hs];refine callWith_builtin rfl (evalArgs_plain (spliced_cons ((r1 A env X μ s I N).step λμ' s' y e z=>spliced_cons ?_)));refine B6 w z.1 (N.ext e) hn (kn A env X) dn (spliced_nil ?_);exact (r2 z.1 z.2).done e λ_ _ _ _ ⟨a,b⟩=>⟨a,by rw [b];exact .bool _⟩
end
end
section
variable {W:Wd}
set_option tactic.hygienic true in
theorem Inv.adoptP {μ μ₁:Mp}{st₀ st st':St}{s s₁:Shared}{o:O}{p:P}{a:Addr}{h':Heap}{t:Nat}(I₀:Inv W μ st₀ s)(E:Ext μ s μ₁ s₁)(I:Inv W μ₁ st s₁)(al:AllocR st o p st')(ha:s.heap.get? a=none)(fa:G9 μ₁ a)(sb:Heap.SameBut a s₁.heap h')
  (r:∀ μ',(∀ p x,μ₁ p=some x->μ' p=some x)->OR W μ' h' a a o):Ext μ s (put μ₁ p (a,a)) { s₁ with heap:=h',toks:=t }/\Inv W (put μ₁ p (a,a)) st' { s₁ with heap:=h',toks:=t }/\put μ₁ p (a,a) p=some (a,a)/\∀ q x,μ₁ q=some x->put μ₁ p (a,a) q=some x:=by
 obtain ⟨rfl,h3,h2⟩:=al;have h0:W.h₀.get? a=none:=Y3 (λo h=>I₀.keep a o h) ha;have un:μ₁ st.n=none:=I.unused;have sub:=Mj (x:=(a,a)) un;have fμ:G9 μ a:=λq x y m=>fa q x y (E.sub _ _ m);have oth:∀ q x y,μ₁ q=some (x,y)->h'.get? x=s₁.heap.get? x/\h'.get? y=s₁.heap.get? y:=λq x y m=>⟨sb.2 x (fa q x y m).1.symm,sb.2 y (fa q x y m).2.symm⟩;refine ⟨⟨λq x m=>sub _ _ (E.sub q x m),λq x y e n=>?_,λb o e f=>?_,by rw [E.rest]⟩,⟨λb x e=>?_,λq x y e=>?_,λq x e=>?_,λq x y e=>?_,λq q' x y z u e e' ne=>?_⟩,by unfold put;rw [if_pos rfl],sub⟩
 ·unfold put at e;split at e
  ·induction e using K6;exact ⟨⟨ha,ha⟩,fμ,fμ⟩
  ·exact E.new q x y e n
 ·have:=E.keep b o e f
  rw [sb.2 b (λq=>by rw [q,ha] at e;exact nS e)];exact this
 ·rw [sb.2 b (λq=>by rw [q,h0] at e;exact nS e)];exact I.keep b x e
 ·unfold put at e;split at e
  ·induction e using K6;exact ⟨h0,h0⟩
  ·exact I.fresh q x y e
 ·rw [h2] at e;split at e
  ·rename_i z;subst z;induction e using J8;exact Q9 a a (by unfold put;rw [if_pos rfl]) (r _ sub)
  ·refine Q7 (I.objs q _ e) ?_;intro x' y m rr
   have:=oth q x' y m;exact Q9 x' y (sub _ _ m) (rr.at sub (λo e=>by rw [this.1];exact e) λo e=>by rw [this.2];exact e)
 ·unfold put at e;split at e
  ·rename_i z;subst z;induction e using K6
   exact ⟨by rw [h3];lia,(r μ₁ λU U h=>h).live,(r μ₁ λU U h=>h).live⟩
  ·have l:=I.lt q x y e
   have:=oth q x y e;exact ⟨by have:=l.1;rw [h3];lia,by rw [this.1];exact l.2.1,by rw [this.2];exact l.2.2⟩
 ·unfold put at e e'
  split at e
  ·induction e using K6
   split at e'
   ·rename_i q1 q2;exact absurd (q1.trans q2.symm) ne
   ·have l:=fa q' z u e';exact ⟨l.1,l.2,l.1,l.2⟩
  ·split at e'
   ·induction e' using K6;have l:=fa q x y e;exact ⟨l.1.symm,l.1.symm,l.2.symm,l.2.symm⟩
   ·exact I.inj q q' x y z u e e' ne
theorem Inv.adopt {μ μ₁:Mp}{st₀ st st':St}{s s₁:Shared}{o:O}{p:P}{a:Addr}{h':Heap}{t:Nat}(I₀:Inv W μ st₀ s)(E:Ext μ s μ₁ s₁)(I:Inv W μ₁ st s₁)(al:AllocR st o p st')(ha:s.heap.get? a=none)(fa:G9 μ₁ a)(sb:Heap.SameBut a s₁.heap h')
  (r:∀ μ',(∀ p x,μ₁ p=some x->μ' p=some x)->OR W μ' h' a a o):∃ μ',Ext μ s μ' { s₁ with heap:=h',toks:=t }/\Inv W μ' st' { s₁ with heap:=h',toks:=t }/\μ' p=some (a,a) :=
 let ⟨x,y,z,_⟩:=I₀.adoptP (t:=t) E I al ha fa sb r
 ⟨_,x,y,z⟩
noncomputable def P4 {α:Type}:List (Nat × α)->Nat->α->List (Nat × α)
 | [],n,v=>[(n,v)]
 | (m,w) :: r,n,v=>if m=n then (m,v) :: r else (m,w) :: P4 r n v
theorem P5 {α:Type}:∀ {es:List (Nat × α)}{n:Nat}{v:α}{k:List (Nat × α)->R},setA es n v k=true->k (P4 es n v)=true
 | [],_,_,_,h=>h
 | (m,w) :: r,n,v,k,h=>by
  show k (if m=n then (m,v) :: r else (m,w) :: P4 r n v)=true
  rcases bE (b:=Nat.beq m n) h with ⟨q,h⟩ | ⟨q,h⟩
  ·rw [if_pos (Z8.mp q)];exact h
  ·rw [if_neg (J3 q)];exact P5 (k:=λr'=>k ((m,w) :: r')) h
theorem Jy {r:List (Str × Value)}{k K:Str}{w v:Value}(h:k≠K):stored ((k,w) :: r) K v=(k,w) :: stored r K v:=by
 unfold stored;simp only [List.any_cons,h,decide_false,Bool.false_or,List.map_cons,if_false]
 split <;> rfl
theorem Ht {r:List (Str × Value)}{K:Str}{w v:Value}(h:K ∉ r.map (·.1)):stored ((K,w) :: r) K v=(K,v) :: r:=by
 unfold stored;simp only [List.any_cons,decide_true,Bool.true_or,if_true,List.map_cons]
 congr 1
 have:∀ r:List (Str × Value),K ∉ r.map (·.1)->r.map (λkv=>if kv.1=K then (kv.1,v) else kv)=r:=by
  intro r
  induction r with
  | nil=>intro _;rfl
  | cons e r ih =>
   intro h;simp only [List.map_cons,List.mem_cons,not_or] at h;simp only [List.map_cons];rw [if_neg (λq=>h.1 q.symm),ih h.2]
 exact this r h
theorem KVs.put {μ:Mp}(w:Wf W){n:Nat}{v:V}{x:Value}(r:VR W μ v x){es:List (Nat × V)}{kvs:List (Str × Value)}(H:KVs W μ es kvs):(kvs.map (·.1)).Nodup->KVs W μ (P4 es n v) (stored kvs (W.tab n) x):=by
 induction H with
 | nil=>exact λU=>.cons r .nil
 | @cons k _ _ _ _ h t ih =>
  intro nd;simp only [List.map_cons,List.nodup_cons] at nd
  by_cases e:k=n
  ·subst e
   rw [Ht nd.1];unfold P4;rw [if_pos rfl];exact .cons r t
  ·rw [Jy (λq=>e (w.inj _ _ q))]
   unfold P4;rw [if_neg e];exact .cons h (ih nd.2)
theorem Mu {kvs:List (Str × Value)}{K:Str}{x:Value}(h:(kvs.map (·.1)).Nodup):((stored kvs K x).map (·.1)).Nodup:=by
 induction kvs with
 | nil=>simp [stored]
 | cons e r ih =>
  obtain ⟨k,w⟩:=e;simp only [List.map_cons,List.nodup_cons] at h
  by_cases q:k=K
  ·subst q;rw [Ht h.1];simpa using h
  ·rw [Jy q]
   simp only [List.map_cons,List.nodup_cons];refine ⟨λm=>?_,ih h.2⟩;have:∀ r:List (Str × Value),k∈(stored r K x).map (·.1)->k∈r.map (·.1):=by
    intro r
    induction r with
    | nil=>simp [stored];exact λz=>q z
    | cons e r ih =>
     obtain ⟨k',w'⟩:=e;intro m
     by_cases q':k'=K
     ·subst q'
      unfold stored at m;simp only [List.any_cons,decide_true,Bool.true_or,if_true,List.map_map] at m;simp only [List.map_cons,List.mem_cons,Function.comp] at m ⊢
      rcases m with m | m
      ·left;simpa using m
      ·right
       refine Q3 (List.mem_map.mp m) ?_;intro y hy hk;refine List.mem_map.mpr ⟨y,hy,?_⟩;simp only [Function.comp] at hk
       split at hk <;> exact hk
     ·rw [Jy q'] at m
      simp only [List.map_cons,List.mem_cons] at m ⊢;exact m.imp id ih
   exact h.1 (this r m)
theorem Hu {μ:Mp}(w:Wf W):∀ {ks:List Nat}{vs:List V}{es:List (Nat × V)}{k:List (Nat × V)->R},Xq ks vs es k=true->∃ es',k es'=true/\ks.length=vs.length /\
  ∀ {μ:Mp}{acc:List (Str × Value)}{xs:List Value},KVs W μ es acc->(acc.map (·.1)).Nodup->VRs W μ vs xs->KVs W μ es' (merged acc ((ks.map W.tab).zip xs))
 | [],[],es,k,h=>⟨es,h,rfl,λha U hx=>by induction hx using VRs.nilE;exact ha⟩
 | [],_ :: _,_,_,h=>by first | exact ff h | cases h
 | _ :: _,[],_,_,h=>by first | exact ff h | cases h
 | n :: ks,v :: vs,es,k,h=>by
  refine K0 (Hu (μ:=μ) w (P5 (show setA es n v _=true from h))) ?_;intro es' h2 h3 h4;refine J6 es' h2 (by simp [h3]) (λha nd hx=>?_)
  induction hx using VRs.consE with
  | cons a b =>
   show KVs W _ es' (merged (stored _ (W.tab n) _) _)
   exact h4 (ha.put w a nd) (Mu nd) b
inductive KEs (W:Wd)(C:Cls)(ev:Ev):List Nat->List E->List (Option Expr)->List Expr->Prop
 | nil:KEs W C ev [] [] [] []
 | cons {n:Nat}{x:Str}{k:Nat}{p:Pos}{e:E}{v:Expr}{ks:List Nat}{es:List E}{keys:List (Option Expr)}{vals:List Expr}(hn:W.tab n=x)(h:SE W C (ev e) (eval v))(t:KEs W C ev ks es keys vals) :
  KEs W C ev (n :: ks) (e :: es) (some (.Constant (.str x) k p) :: keys) (v :: vals)
noncomputable def Yr (env:Env)(pos:Pos):List (Option Expr)->List Expr->List (Sem Value × Sem Value)
 | some k :: ks,v :: vs=>(eval k env,do let x <-eval v env;standAt pos;pure x) :: Yr env pos ks vs
 | _,_=>[]
section
variable {C:Cls}{ev:Ev}
theorem KEs.shape {ks:List Nat}{es:List E}{keys:List (Option Expr)}{vals:List Expr}(h:KEs W C ev ks es keys vals)(env:Env)(pos:Pos) :
  (evalEachOpt keys env).zip ((evalEach vals env).map λv=>do let x <-v;standAt pos;pure x)=(Yr env pos keys vals).map (λp=>(some p.1,p.2))/\(Yr env pos keys vals).length=ks.length:=by
 induction h with
 | nil=>exact ⟨rfl,rfl⟩
 | cons hn h t ih=>exact ⟨congrArg (List.cons _) ih.1,congrArg (·+1) ih.2⟩
theorem KEs.run {ks:List Nat}{es:List E}{keys:List (Option Expr)}{vals:List Expr}(h:KEs W C ev ks es keys vals):∀ {cs:Q4}{l:Loc}{st:St}{k:List V->St->R},evL ev es cs l st k=true->∃ vs st',k vs st'=true/\vs.length=ks.length /\
  ∀ pos A env,C A env->∀ μ s,Inv W μ st s->EnvR W μ s env cs l->Run W A μ s (evalPairs (Yr env pos keys vals)) λμ' s' ps=>Inv W μ' st' s'/\∃ xs,VRs W μ' vs xs/\Carries (strKind W.prog W.w) ps ((ks.map W.tab).zip xs):=by
 induction h with
 | nil=>exact λ{cs l st k} q=>⟨[],st,q,rfl,λpos A env X μ s I N=>evalPairs_nil ⟨μ,.refl ..,I,[],.nil,trivial⟩⟩
 | cons hn h t ih =>
  intro cs l st k q;refine byC λζ=>?_;obtain ⟨v,st1,q,r1⟩:=h cs l st _ q;obtain ⟨vs,st2,q,len,r2⟩:=ih q;subst hn;refine ζ ?_;refine ⟨v :: vs,st2,q,by simp [len],λpos A env X μ s I N=>evalPairs_cons ?_⟩;refine wpAny_Constant_str ?_;refine wpAny_bind ((r1 A env X μ _ (I.toks _) (N.ext (.toks ..))).step λμ' s' x e z=>wpAny_bind (wpAny_standAt (wpAny_pure ?_)));exact (r2 pos A env X μ' s' z.1 ((N.ext (.toks ..)).ext e)).step λμ'' s'' ps e' z'=>by
   obtain ⟨I',xs,rs,ca⟩:=z';exact ⟨μ'',(Ext.toks ..).trans (e.trans e'),I',x :: xs,.cons (z.2.mono e'.sub) rs,Jv _ _,rfl,ca⟩
theorem Q7n {pos:Pos}:SE W C (hDct ev [] []) (eval (.Dict [] [] pos)):=λcs l st k q=>by
 refine Q7 (H4 (show V9 st (.dict []) (λp s=>k (.ref p) s)=true from q)) ?_;intro p st2 q al;refine ⟨.ref p,st2,q,λA env X μ s I N=>wpAny_Dict_empty ?_⟩;obtain ⟨μ',a,b,c⟩:=I.alloc (t:=s.toks) al (λb x e=>Heap.get?_push_of_some _ e) (Heap.get?_none_of_le (Nat.le_refl _)) (Heap.get?_none_of_le (Nat.le_refl _)) (Z1 (Heap.get?_push_size _ rfl)) (Z1 (Heap.get?_push_size _ rfl))
  λμ' sub=>.dict (Heap.DictOf.new _) .nil (Nat.zero_le _)
 exact J6 μ' a b (.ref c)
theorem se_dct (w:Wf W){ks:List Nat}{es:List E}{keys:List (Option Expr)}{vals:List Expr}{pos:Pos}(h:KEs W C ev ks es keys vals)(hz:ks.length<=15)(h0:ks.length≠0):SE W C (hDct ev ks es) (eval (.Dict keys vals pos)):=λcs l st k q=>by
 refine byC λζ=>?_;refine Y0 (h.run (show evL ev es cs l st (λvs s=>Xq ks vs [] λes=>S6 es 15 λU=>V9 s (.dict es) λp s=>k (.ref p) s)=true from q)) ?_;intro vs st1 q len r1;refine K0 (Hu (μ:=λU=>none) w q) ?_;intro es' q _ mk;refine Q6 (D3 q) ?_;intro hz' q;refine Q7 (H4 q) ?_;intro p st2 q al;refine ζ ?_;refine ⟨.ref p,st2,q,λA env X μ s I N=>?_⟩;have key:∀ {μ₁:Mp}{s₁:Shared}{h':Heap}{xs:List Value}{t:Nat},Ext μ s μ₁ s₁->Inv W μ₁ st1 s₁->VRs W μ₁ vs xs->G9 μ₁ s.heap.objs.size->h'.DictOf (strKind W.prog W.w) s.heap.objs.size (merged [] ((ks.map W.tab).zip xs))->Heap.SameBut s.heap.objs.size s₁.heap h' ->
   ∃ μ',Ext μ s μ' { s₁ with heap:=h',toks:=t }/\Inv W μ' st2 { s₁ with heap:=h',toks:=t }/\VR W μ' (.ref p) (.ref s.heap.objs.size):=by
  intro μ₁ s₁ h' xs t e I' rs f hd sb;refine K0 (I.adopt (t:=t) e I' al (Heap.get?_none_of_le (Nat.le_refl _)) f sb λμ' sub=>.dict hd ((mk (acc:=[]) .nil List.nodup_nil rs).mono sub) (by lia)) ?_;intro μ' a b c;exact J6 μ' a b (.ref c)
 have k1:∀ (b:Addr)(o:Obj),s.heap.get? b=some o->(s.heap.push { cls:=.type "dict",data:=.dict #[] }).get? b=some o:=λb o e=>Heap.get?_push_of_some _ e
 have at0:(s.heap.push { cls:=.type "dict",data:=.dict #[] }).get? s.heap.objs.size=some { cls:=.type "dict",data:=.dict #[] }:=Heap.get?_push_size _ rfl
 have fr0:G9 μ s.heap.objs.size:=λq x y m=>⟨λz=>(I.lt q x y m).2.1 (z▸Heap.get?_none_of_le (Nat.le_refl _)),λz=>(I.lt q x y m).2.2 (z▸Heap.get?_none_of_le (Nat.le_refl _))⟩;have e0:Ext μ s μ { s with heap:=s.heap.push { cls:=.type "dict",data:=.dict #[] } }:=.kept (t:=s.toks) k1
 have hs:=h.shape env pos;have r2:=r1 pos A env X μ _ (I.kept (t:=s.toks) k1) (N.ext e0);have d0:∀ {h':Heap},h'.get? s.heap.objs.size=some { cls:=.type "dict",data:=.dict #[] }->h'.DictOf (strKind W.prog W.w) s.heap.objs.size []:=λh=>⟨_,#[],0,h,⟨rfl,rfl,rfl⟩,rfl,λe he=>by simp at he,.nil,List.nodup_nil⟩
 have fin:wpAny (model W.prog W.w) A (evalPairs (Yr env pos keys vals)) (λps s₁=>∃ kvs,Carries (strKind W.prog W.w) ps kvs/\s₁.heap.DictOf (strKind W.prog W.w) s.heap.objs.size [] /\
   ∀ h',h'.DictOf (strKind W.prog W.w) s.heap.objs.size (merged [] kvs)->Heap.SameBut s.heap.objs.size s₁.heap h'->∃ μ',Ext μ s μ' { s₁ with heap:=h',toks:=s₁.toks+ps.length }/\Inv W μ' st2 { s₁ with heap:=h',toks:=s₁.toks+ps.length }/\VR W μ' (.ref p) (.ref s.heap.objs.size)) Z3 { s with heap:=s.heap.push { cls:=.type "dict",data:=.dict #[] } }:=by
  refine r2.step λμ₁ s₁ ps e z=>?_;obtain ⟨I',xs,rs,ca⟩:=z;have f1:G9 μ₁ s.heap.objs.size:=λq x y m=>by
   cases m0:μ q with
   | some u=>have:=e.sub q u m0;rw [m] at this;induction this using J8;exact fr0 q x y m0
   | none =>
    have:=(e.new q x y m m0).1;exact ⟨λz=>(by have:=this.1;rw [<-z,at0] at this;exact sN this),λz=>(by have:=this.2;rw [<-z,at0] at this;cases this)⟩
  exact J6 _ ca (d0 (e.keep _ _ at0 fr0)) (λh' hd sb=>key (e0.trans e) I' rs f1 hd sb)
 exact wpAny_Dict_pairs hs.1 (λq=>h0 (by rw [<-hs.2,q];rfl)) (by rw [hs.2];exact hz) fin
end
end
section
variable {W:Wd}
structure ExtL (L:Addr)(μ:Mp)(s:Shared)(μ':Mp)(s':Shared):Prop where
 sub:∀ p x,μ p=some x->μ' p=some x
 new:∀ p a d,μ' p=some (a,d)->μ p=none->(s.heap.get? a=none/\s.heap.get? d=none)/\G9 μ a/\G9 μ d
 keep:∀ b o,s.heap.get? b=some o->G9 μ b->b≠L->s'.heap.get? b=some o
 live:s.heap.get? L≠none->s'.heap.get? L≠none
 rest:s'={ s with heap:=s'.heap,toks:=s'.toks,drawn:=s'.drawn }
theorem Ext.l {L:Addr}{μ μ':Mp}{s s':Shared}(e:Ext μ s μ' s')(f:G9 μ L):ExtL L μ s μ' s':=⟨e.sub,e.new,λb o h f U=>e.keep b o h f,λh=>by
 cases q:s.heap.get? L with
 | none=>exact absurd q h
 | some o=>exact Z1 (e.keep _ _ q f),e.rest⟩
theorem ExtL.ext {L:Addr}{μ μ':Mp}{s s':Shared}(e:ExtL L μ s μ' s')(h:s.heap.get? L=none):Ext μ s μ' s':=⟨e.sub,e.new,λb o q f=>e.keep b o q f (λz=>by rw [z,h] at q;exact nS q),e.rest⟩
theorem ExtL.refl (L:Addr)(μ:Mp)(s:Shared):ExtL L μ s μ s:=⟨λU U h=>h,λU U U h q=>(by rw [h] at q;exact sN q),λU U h U U=>h,λh=>h,rfl⟩
theorem ExtL.trans {L:Addr}{μ₁ μ₂ μ₃:Mp}{s₁ s₂ s₃:Shared}(a:ExtL L μ₁ s₁ μ₂ s₂)(b:ExtL L μ₂ s₂ μ₃ s₃):ExtL L μ₁ s₁ μ₃ s₃:=by
 have fr:∀ c,G9 μ₂ c->G9 μ₁ c:=λc f p x d m=>f p x d (a.sub _ _ m);have nn:∀ x,s₂.heap.get? x=none->G9 μ₁ x->s₁.heap.get? x=none:=λx h f=>by
  cases q:s₁.heap.get? x with
  | none=>rfl
  | some o =>
   by_cases z:x=L
   ·subst z;exact absurd h (a.live (Z1 q))
   ·have:=a.keep x o q f z;rw [h] at this;exact nS this
 refine ⟨λp x h=>b.sub p x (a.sub p x h),λp x d h q=>?_,λc o h f n=>?_,λh=>b.live (a.live h),by rw [b.rest,a.rest]⟩
 ·cases m:μ₂ p with
  | none =>
   have:=b.new p x d h m;exact ⟨⟨nn x this.1.1 (fr _ this.2.1),nn d this.1.2 (fr _ this.2.2)⟩,fr _ this.2.1,fr _ this.2.2⟩
  | some y=>have e:=b.sub p y m;rw [h] at e;induction e using J8;exact a.new p x d m q
 ·refine b.keep c o (a.keep c o h f n) (λp x d m=>?_) n
  cases q:μ₁ p with
  | some y=>have e:=a.sub p y q;rw [m] at e;induction e using J8;exact f p x d q
  | none=>have:=(a.new p x d m q).1;exact ⟨λe=>(by have:=this.1;rw [<-e,h] at this;exact sN this),λe=>(by have:=this.2;rw [<-e,h] at this;cases this)⟩
noncomputable def RunL (W:Wd)(A:Around)(L:Addr)(μ:Mp)(s:Shared){α:Type}(t:Sem α)(Q:Mp->Shared->α->Prop):Prop :=
 wpAny (model W.prog W.w) A t (λx s'=>∃ μ',ExtL L μ s μ' s'/\Q μ' s' x) Z3 s
section
variable {A:Around}{L:Addr}{μ μ':Mp}{s s':Shared}{α:Type}{m:Sem α}
theorem RunL.step {P:Mp->Shared->α->Prop}{T:α->Shared->Prop}{E:Value->Shared->Prop}(h:RunL W A L μ s m P)(k:∀ μ' s' a,ExtL L μ s μ' s'->P μ' s' a->T a s'):wpAny (model W.prog W.w) A m T E s :=
 wpAny_mono h (λa s' ⟨μ',e,p⟩=>k μ' s' a e p) λU U x=>x.elim
theorem RunL.done {P Q:Mp->Shared->α->Prop}{E:Value->Shared->Prop}(h:RunL W A L μ' s' m P)(e:ExtL L μ s μ' s')(k:∀ μ'' s'' a,ExtL L μ s μ'' s''->P μ'' s'' a->Q μ'' s'' a):wpAny (model W.prog W.w) A m (λx s''=>∃ μ'',ExtL L μ s μ'' s''/\Q μ'' s'' x) E s' :=
 wpAny_mono h (λa s'' ⟨μ'',e',p⟩=>⟨μ'',e.trans e',k μ'' s'' a (e.trans e') p⟩) λU U x=>x.elim
theorem RunL.fin {Q:Mp->Shared->α->Prop}{E:Value->Shared->Prop}(h:RunL W A L μ' s' m Q)(e:ExtL L μ s μ' s'):wpAny (model W.prog W.w) A m (λx s''=>∃ μ'',ExtL L μ s μ'' s''/\Q μ'' s'' x) E s':=h.done e λU U U U q=>q
end
inductive FlR (W:Wd)(μ:Mp)(s:Shared)(env:Env)(cs:Q4):F->Flow->Prop
 | next {l:Loc}(h:EnvR W μ s env cs l):FlR W μ s env cs (.next l) .next
 | brk {l:Loc}(h:EnvR W μ s env cs l):FlR W μ s env cs (.brk l) .brk
 | cont {l:Loc}(h:EnvR W μ s env cs l):FlR W μ s env cs (.cont l) .cont
 | ret {l:Loc}{v:V}{x:Value}(h:EnvR W μ s env cs l)(r:VR W μ v x):FlR W μ s env cs (.ret v l) (.ret x)
section
variable {W:Wd}{μ:Mp}{s:Shared}{env:Env}{cs:Q4}{l:Loc}
theorem FlR.nextE {m:∀ y,FlR W μ s env cs (.next l) y->Prop}(next:∀ (h:EnvR W μ s env cs l),m .next (.next h)){y:Flow}(h:FlR W μ s env cs (.next l) y):m y h:=by cases h with | next a=>exact next a
theorem FlR.brkE {m:∀ y,FlR W μ s env cs (.brk l) y->Prop}(brk:∀ (h:EnvR W μ s env cs l),m .brk (.brk h)){y:Flow}(h:FlR W μ s env cs (.brk l) y):m y h:=by cases h with | brk a=>exact brk a
theorem FlR.contE {m:∀ y,FlR W μ s env cs (.cont l) y->Prop}(cont:∀ (h:EnvR W μ s env cs l),m .cont (.cont h)){y:Flow}(h:FlR W μ s env cs (.cont l) y):m y h:=by cases h with | cont a=>exact cont a
theorem FlR.retE {v:V}{m:∀ y,FlR W μ s env cs (.ret v l) y->Prop}(ret:∀ {x:Value}(h:EnvR W μ s env cs l)(r:VR W μ v x),m (.ret x) (.ret h r)){y:Flow}(h:FlR W μ s env cs (.ret v l) y):m y h:=by cases h with | ret a b=>exact ret a b
end
abbrev Hs:=Q4->Loc->St->(F->St->R)->R
noncomputable def TS (W:Wd)(C:Cls)(cs:Q4)(l:Loc)(st:St)(t:Env->Sem Flow)(f:F)(st':St):Prop :=
 ∀ A env,C A env->∀ μ s,Inv W μ st s->EnvR W μ s env cs l->RunL W A env.locals μ s (t env) λμ' s' x=>Inv W μ' st' s'/\FlR W μ' s' env cs f x
noncomputable def SS (W:Wd)(C:Cls)(h:Hs)(t:Env->Sem Flow):Prop:=∀ cs l st k,h cs l st k=true->∃ f st',k f st'=true/\TS W C cs l st t f st'
theorem EnvR.extL {μ μ':Mp}{s s':Shared}{env:Env}{cs:Q4}{l l':Loc}(N:EnvR W μ s env cs l)(e:ExtL env.locals μ s μ' s')(h:∃ m,s'.heap.Ns env.locals m/\∀ k v,Y6 l' k=some v->∃ x,m (W.tab k)=some x/\VR W μ' v x):EnvR W μ' s' env cs l':=by
 refine ⟨N.kind,N.glob,N.blt,λp a d m=>?_,N.new,h,λk p h z=>let ⟨a,d,x,y⟩:=N.cells k p h z;⟨a,d,e.sub _ _ x,y⟩,N.full⟩;cases q:μ p with
 | some y=>have z:=e.sub p y q;rw [m] at z;induction z using J8;exact N.free p a d q
 | none =>
  have z:=(e.new p a d m q).1;refine Q3 N.ns ?_;intro _ zz1 _;obtain ⟨_,_,_,ho,_⟩:=zz1;exact ⟨λw=>(by have:=z.1;rw [<-w,ho] at this;exact sN this),λw=>(by have:=z.2;rw [<-w,ho] at this;cases this)⟩
noncomputable def V2 (env:Env)(c:Bool)(n:Str):Bool:=match c with | false=>env.kindOf n==some .local | true=>env.kindOf n==some .cell
set_option tactic.hygienic true in
theorem M5 (w:Wf W){c:Bool}{n:Nat}{v:V}{cs:Q4}{l:Loc}{st:St}{k:Loc->St->R}(h:Zq cs l st c n v k=true):∃ l' st',k l' st'=true /\
  ∀ {A:Around}{env:Env}{μ:Mp}{s:Shared}{x:Value},V2 env c (W.tab n)=true->Inv W μ st s->EnvR W μ s env cs l->VR W μ v x->RunL W A env.locals μ s (storeName env (W.tab n) x) λμ' s' U=>Inv W μ' st' s'/\EnvR W μ' s' env cs l'/\μ'=μ:=by
 induction c using Bool.casesOn with
 | false =>
  refine K0 (Mg (show setA l n v (λl=>k l st)=true from h)) ?_;intro l' h l1 _;refine Q9 l' st h (λ{A env μ s x} hk I N r=>?_);refine Q3 N.ns ?_;intro m hm hl;have kk:env.kindOf (W.tab n)=some .local:=by simpa [V2] using hk
  refine wpAny_storeName_local kk hm (λh' hn sb=>?_) (by rw [N.kind];rfl);have e:ExtL env.locals μ s μ { s with heap:=h',toks:=s.toks+1 }:=⟨λU U h=>h,λU U U h q=>(by rw [h] at q;exact sN q),λb o q U ne=>(by rw [sb.2 b ne];exact q),λU=>(by obtain ⟨_,_,_,ho,_⟩:=hn;exact Z1 ho),rfl⟩;refine Xj μ e (I.other (t:=s.toks+1) λb o q z=>?_) (N.extL e ⟨_,hn,λj u q=>?_⟩) rfl
  ·rw [sb.2 b (λy=>by
    subst y
    rcases z with z | z
    ·exact z N.new
    ·exact z N.free)];exact q
  ·rw [l1] at q
   split at q
   ·rename_i e;subst e;induction q using J8;exact Z0 x (by simp) r
   ·rename_i e
    refine Q3 (hl j u q) ?_;intro y a b;exact Z0 y (by rw [if_neg (λz=>e (w.inj _ _ z))];exact a) b
 | true =>
  refine byC λζ=>?_;refine Q3 (G0 (show V6 cs n (Q0q st v (k l)) (λU=>false)=true from h)) ?_;intro p hp h2;refine Q3 (B0 h2) ?_;intro o ho h3;refine ζ ?_;induction o using O.casesOn <;> first | exact ff h3 | (cases h3;done) | skip
  refine Q3 (I8 h3) ?_;intro st' h4 sr;refine Q9 l st' h4 (λ{A env μ s x} hk I N r=>?_);have kk:env.kindOf (W.tab n)=some .cell:=by simpa [V2] using hk
  refine byC λζ=>?_;refine Q7 (N.cells n p hp (.inl kk)) ?_;intro a d m hc;refine Q7 (I.objs p _ ho) ?_;intro a' d' m' oo;rw [m] at m';induction m' using K6;refine ζ ?_;have key:∀ {old:Option Value},s.heap.IsCell a old->RunL W A env.locals μ s (storeName env (W.tab n) x) λμ' s' U=>Inv W μ' st' s'/\EnvR W μ' s' env cs l/\μ'=μ:=by
   intro old hold;refine wpAny_storeName_cell N.kind kk hc hold λh' hc' sb=>?_;refine Q6 (I.set (t:=s.toks) sr m (.inl rfl) sb (.cell1 hc' r)) ?_;intro e I';exact Xj μ (e.l N.free) I' (N.ext e) rfl
  cases oo with
  | cell0 hc0=>exact key hc0
  | cell1 hc1 hr=>exact key hc1
end
section
variable {W:Wd}
noncomputable def R1 (x:Expr):Bool:=by
 induction x using PySem.Expr.casesOn with
 | ListComp=>exact false
 | SetComp=>exact false
 | DictComp=>exact false
 | _=>exact true
theorem Gu {env:Env}{value:Expr}(h:R1 value=true)(t:Option Expr)(line:Nat):swapsWith value t line env=pure false:=by induction value using PySem.Expr.casesOn <;> first | rfl | cases h
theorem Gv {env:Env}{value o:Expr}{a:Str}{p:Pos}(line:Nat):swapsWith value (some (.Attribute o a p)) line env=pure false:=by induction value using PySem.Expr.casesOn <;> rfl
theorem Xz {env:Env}{value o i:Expr}{p:Pos}(line:Nat):swapsWith value (some (.Subscript o i p)) line env=pure false:=by induction value using PySem.Expr.casesOn <;> rfl
theorem Ua {env:Env}{value:Expr}{es:List Expr}{n:Nat}{p:Pos}(line:Nat):swapsWith value (some (.Tuple es n p)) line env=pure false:=by induction value using PySem.Expr.casesOn <;> rfl
theorem Hw:∀ {xs:List V}{n:Nat}{v:V}{k:List V->R},Xp xs n v k=true->∃ ys,k ys=true/\n<xs.length/\ys.length=xs.length/\∀ {μ:Mp}{vs:List Value}{x:Value},VRs W μ xs vs->VR W μ v x->VRs W μ ys (vs.set n x)
 | [],_,_,_,h=>by first | exact ff h | cases h
 | y :: r,0,v,k,h=>⟨v :: r,h,by simp,rfl,λrs rv=>by induction rs using VRs.consE with | cons a b=>exact .cons rv b⟩
 | y :: r,n+1,v,k,h=>by
  refine Q0d (Hw (show Xp r n v (λr'=>k (y :: r'))=true from h)) ?_;intro ys h2 h3 h4 h5;refine Xj (y :: ys) h2 (by simpa using h3) (by simp [h4]) (λrs rv=>?_)
  induction rs using VRs.consE with
  | cons a b=>exact .cons a (h5 b rv)
set_option tactic.hygienic true in
theorem Q1u (w:Wf W){st:St}{a i v:V}{k:St->R}(h:setIV st a i v k=true):∃ st',k st'=true /\
  ∀ {A:Around}{μ:Mp}{s:Shared}{x y z:Value},Inv W μ st s->VR W μ a x->VR W μ i y->VR W μ v z->Run W A μ s (setItem x y z) λμ' s' U=>Inv W μ' st' s'/\μ'=μ:=by
 refine Y0 (Y1 h) ?_;intro p o ee2 ho h;subst ee2
 induction o using O.casesOn with
 | list xs =>
  refine byC λζ=>?_;refine Q3 (L9 (show C2 i _=true from h)) ?_;intro n ee1 h2;subst ee1;refine Q0d (Hw (W:=W) h2) ?_;intro ys h3 lt len mk;refine Q6 (D3 h3) ?_;intro hz h4;refine Q3 (I8 h4) ?_;intro st' h5 sr;refine ζ ?_;refine Z0 st' h5 (λ{A μ s x y z} I ra ri rv=>?_);refine Y0 (Z6 I ra ho) ?_;intro b d ee2 m oo;subst ee2
  induction ri using VR.intE
  induction oo using OR.listE with
  | list hl hr hz' =>
   refine Oz hl (by lia) (by lia) (by rw [hr.size];lia) λh' hl' sb=>?_;refine Q6 (I.set (t:=s.toks) sr m (.inl rfl) sb (.list hl' (by simpa using mk hr rv) hz)) ?_;intro e I';exact J6 μ e I' rfl
 | dict es =>
  refine byC λζ=>?_;refine Q3 (X4 (show S7 i _=true from h)) ?_;intro n ee1 h2;subst ee1;have h3:=P5 (show setA es n v _=true from h2);refine Q6 (D3 h3) ?_;intro hz h4;refine Q3 (I8 h4) ?_;intro st' h5 sr;refine ζ ?_;refine Z0 st' h5 (λ{A μ s x y z} I ra ri rv=>?_);refine Y0 (Z6 I ra ho) ?_;intro b d ee2 m oo;subst ee2
  induction ri using VR.strE
  induction oo using OR.dictE with
  | dict hd hr hz' =>
   rename_i kvs;have hl:∀ {es:List (Nat × V)}{kvs:List (Str × Value)},KVs W μ es kvs->kvs.length=es.length:=λh=>by induction h <;> simp_all
   refine wpAny_setItem_pairs (Jv _ _) hd (λh' hd' sb=>?_) (by rw [sizeLine_eq];have:=hl hr;lia);have nd:(kvs.map (·.1)).Nodup:=by obtain ⟨_,_,_,_,_,_,_,_,nd⟩:=hd;exact nd
   refine Q6 (I.set (t:=s.toks+1) sr m (.inl rfl) sb (.dict hd' (hr.put w rv nd) hz)) ?_;intro e I';exact J6 μ e I' rfl
 | tup=>first | exact ff h | cases h
 | inst=>first | exact ff h | cases h
 | cell=>first | exact ff h | cases h
 | clos=>first | exact ff h | cases h
section
variable {C:Cls}{ev:Ev}{ex:Ex}
theorem Ac (w:Wf W){c:Bool}{n:Nat}{e:E}{value:Expr}{x:Str}{p pos:Pos}(he:SE W C (ev e) (eval value))(hv:∀ A env,C A env->swapsWith value (some (.Name x p)) pos.line env=pure false)(hn:W.tab n=x)(hk:∀ A env,C A env->V2 env c x=true) :
  SS W C (Gp ev (.one c n) e) (exec (.Assign [.Name x p] value pos)):=λcs l st k q=>by
 subst hn;refine byC λζ=>?_;obtain ⟨v,st1,q,r1⟩:=he cs l st _ q;refine Q7 (M5 w q) ?_;intro l' st2 q2 r2;refine ζ ?_;exact Q9 (.next l') st2 q2 (λA env X μ s I N=>wpAny_Assign_Name ((r1 A env X μ s I N).step λμ' s' y e z=>(r2 (hk A env X) z.1 (N.ext e) z.2).step λμ'' s'' U e' z'=>⟨μ'',(e.l N.free).trans e',z'.1,.next z'.2.1⟩) (hv A env X))
theorem Q7p (w:Wf W){n:Nat}{o e:E}{ob value:Expr}{x:Str}{p pos:Pos}(he:SE W C (ev e) (eval value))(ho:SE W C (ev o) (eval ob))(hn:W.tab n=x)(hi:n∈W.names) :
  SS W C (sSetA ev o n e) (exec (.Assign [.Attribute ob x p] value pos)):=λcs l st k q=>by
 subst hn;refine byC λζ=>?_;obtain ⟨v,st1,q,r1⟩:=he cs l st _ q;obtain ⟨u,st2,q,r2⟩:=ho cs l st1 _ q;refine Q3 (Te w hi q) ?_;intro st3 q r3;refine ζ ?_;refine Q9 (.next l) st3 q (λA env X μ s I N=>plainObj_wpAny_Assign_Attribute ((r1 A env X μ s I N).step λμ' s' y e z=>(r2 A env X μ' s' z.1 (N.ext e)).step λμ2 s2 y2 e2 z2=>(r3 z2.1 z2.2 (z.2.mono e2.sub)).step λμ3 s3 U e3 z3=>?_) (Gv _));exact J6 μ3 ((e.trans (e2.trans e3)).l N.free) z3.1 (.next (N.ext (e.trans (e2.trans e3))))
theorem Q7q (w:Wf W){o i e:E}{ob ix value:Expr}{p pos:Pos}(he:SE W C (ev e) (eval value))(ho:SE W C (ev o) (eval ob))(hi:SE W C (ev i) (eval ix)) :
  SS W C (sSetI ev o i e) (exec (.Assign [.Subscript ob ix p] value pos)):=λcs l st k q=>by
 refine byC λζ=>?_;obtain ⟨v,st1,q,r1⟩:=he cs l st _ q;obtain ⟨u,st2,q,r2⟩:=ho cs l st1 _ q;obtain ⟨t,st3,q,r3⟩:=hi cs l st2 _ q;refine Q3 (Q1u w q) ?_;intro st4 q r4;refine ζ ?_;refine Q9 (.next l) st4 q (λA env X μ s I N=>wpAny_Assign_Subscript ((r1 A env X μ s I N).step λμ' s' y e z=>(r2 A env X μ' s' z.1 (N.ext e)).step λμ2 s2 y2 e2 z2=>(r3 A env X μ2 s2 z2.1 (N.ext (e.trans e2))).step λμ3 s3 y3 e3 z3=>(r4 z3.1 (z2.2.mono e3.sub) z3.2 (z.2.mono (e2.trans e3).sub)).step λμ4 s4 U e4 z4=>?_) (Xz _));exact J6 μ4 ((e.trans (e2.trans (e3.trans e4))).l N.free) z4.1 (.next (N.ext (e.trans (e2.trans (e3.trans e4)))))
theorem Tk {st:St}{a b:V}{k:V->St->R}(h:(K7 a λU=>Q0j .add st a b k)=true):∃ v,k v st=true /\
  ∀ {A:Around}{μ:Mp}{s:Shared}{x y:Value},Inv W μ st s->VR W μ a x->VR W μ b y->Run W A μ s (inplaceOp .Add x y) λμ' s' z=>Inv W μ' st s'/\VR W μ' v z:=by
 refine byC λζ=>?_;refine Q3 (Y7 h) ?_;intro i ee1 h1;subst ee1;refine Q3 (Y7 (show K7 b _=true from h1)) ?_;intro j ee1 h2;subst ee1;refine ζ ?_;refine Z0 _ (O5 (show P0 (i+j) (λx=>k (.int x) st)=true from h2)) (λI ra rb=>?_)
 induction ra using VR.intE
 induction rb using VR.intE
 exact wpAny_iadd_int ⟨_,.toks ..,I.toks _,.int _ _⟩
set_option tactic.hygienic true in
theorem Q7r (w:Wf W){c:Bool}{n:Nat}{cs:Q4}{l:Loc}{st:St}{k:V->St->R}(h:hLC c n cs l st k=true)(hk:∀ A env,C A env->V2 env c (W.tab n)=true):∃ v,k v st=true/\TE W C cs l st (λenv=>loadName env (W.tab n)) v st:=by
 induction c using Bool.casesOn with
 | false =>
  refine Q3 (G0 (show V6 l n (λv=>k v st) (λU=>false)=true from h)) ?_;intro v hv q;refine Z0 v q (λA env X μ s I N=>?_);refine byC λζ=>?_;refine Q3 N.ns ?_;intro m a b;refine Q3 (b n v hv) ?_;intro x c d;refine ζ ?_;exact wpAny_loadName_local N.kind (by simpa [V2] using hk A env X) a c ⟨μ,.refl ..,I,d⟩
 | true =>
  refine byC λζ=>?_;refine Q3 (G0 (show V6 cs n (cellK st λv=>k v st) (λU=>false)=true from h)) ?_;intro p hp h2;refine Q3 (B0 h2) ?_;intro o ho h3;refine ζ ?_;induction o using O.casesOn <;> first | exact ff h3 | (cases h3;done) | skip
  rename_i vv
  induction vv using Option.casesOn with
  | none=>first | exact ff h3 | cases h3
  | some v =>
   refine Z0 v h3 (λA env X μ s I N=>?_);refine byC λζ=>?_;refine Q7 (N.cells n p hp (.inl (by simpa [V2] using hk A env X))) ?_;intro a d m e;refine Q7 (I.objs p _ ho) ?_;intro a' d' m' r;rw [m] at m';induction m' using K6;refine ζ ?_;cases r with
   | cell1 hc' hr=>exact wpAny_loadName_cell N.kind (by simpa [V2] using hk A env X) e hc' ⟨μ,.refl ..,I,hr⟩
theorem Q7s (w:Wf W){c:Bool}{n:Nat}{e:E}{value:Expr}{x:Str}{p pos:Pos}(he:SE W C (ev e) (eval value))(hn:W.tab n=x)(hk:∀ A env,C A env->V2 env c x=true) :
  SS W C (sAugL ev c n .add e) (exec (.AugAssign (.Name x p) .Add value pos)):=λcs l st k q=>by
 subst hn;refine Q3 (Q7r (C:=C) w (show hLC c n cs l st _=true from q) hk) ?_;intro u q r0;refine byC λζ=>?_;obtain ⟨v,st1,q,r1⟩:=he cs l st _ q;refine Q3 (Tk (W:=W) q) ?_;intro t q r2;refine Q7 (M5 w q) ?_;intro l' st2 q2 r3;refine ζ ?_;refine Q9 (.next l') st2 q2 (λA env X μ s I N=>wpAny_AugAssign_Name ((r0 A env X μ s I N).step λμ0 s0 y0 e0 z0=>(r1 A env X μ0 s0 z0.1 (N.ext e0)).step λμ' s' y e z=>(r2 z.1 (z0.2.mono e.sub) z.2).step λμ2 s2 y2 e2 z2=>(r3 (hk A env X) z2.1 (N.ext (e0.trans (e.trans e2))) z2.2).step λμ'' s'' U e' z'=>?_));exact J6 μ'' (((e0.trans (e.trans e2)).l N.free).trans e') z'.1 (.next z'.2.1)
theorem Q7t (w:Wf W){n:Nat}{o e:E}{ob value:Expr}{x:Str}{p pos:Pos}(ho:SE W C (ev o) (eval ob))(he:SE W C (ev e) (eval value))(hn:W.tab n=x)(hi:n∈W.names) :
  SS W C (sAugA ev o n .add e) (exec (.AugAssign (.Attribute ob x p) .Add value pos)):=λcs l st k q=>by
 subst hn;refine byC λζ=>?_;obtain ⟨v,st1,q,r1⟩:=ho cs l st _ q;refine Q3 (Td w hi q) ?_;intro u q r2;obtain ⟨t,st3,q,r3⟩:=he cs l st1 _ q;refine Q3 (Tk (W:=W) q) ?_;intro y q r4;refine Q3 (Te w hi q) ?_;intro st4 q r5;refine ζ ?_;refine Q9 (.next l) st4 q (λA env X μ s I N=>wpAny_AugAssign_AttributeAny ((r1 A env X μ s I N).step λμ1 s1 y1 e1 z1=>(r2 z1.1 z1.2).step λμ2 s2 y2 e2 z2=>(r3 A env X μ2 s2 z2.1 (N.ext (e1.trans e2))).step λμ3 s3 y3 e3 z3=>(r4 z3.1 (z2.2.mono e3.sub) z3.2).step λμ4 s4 y4 e4 z4=>(r5 z4.1 (z1.2.mono (e2.trans (e3.trans e4)).sub) z4.2).step λμ5 s5 U e5 z5=>?_));have e:=e1.trans (e2.trans (e3.trans (e4.trans e5)));exact J6 μ5 (e.l N.free) z5.1 (.next (N.ext e))
theorem ss_ex {e:E}{x:Expr}{pos:Pos}(he:SE W C (ev e) (eval x))(hv:R1 x=true):SS W C (sEx ev e) (exec (.Expr x pos)):=λcs l st k q=>by
 obtain ⟨v,st1,q,r1⟩:=he cs l st _ q;exact Q9 (.next l) st1 q (λA env X μ s I N=>wpAny_Expr_any ((r1 A env X μ s I N).step λμ' s' y e z=>⟨μ',e.l N.free,z.1,.next (N.ext e)⟩) (by unfold interactive;rw [N.kind];rfl) (Gu hv _ _))
theorem Q1v {e:E}{x:Expr}{pos:Pos}(he:SE W C (ev e) (eval x)):SS W C (Q0w ev e) (exec (.Return (some x) pos)):=λcs l st k q=>by
 obtain ⟨v,st1,q,r1⟩:=he cs l st _ q;exact Q9 (.ret v l) st1 q (λA env X μ s I N=>wpAny_Return_some ((r1 A env X μ s I N).step λμ' s' y e z=>⟨μ',e.l N.free,z.1,.ret (N.ext e) z.2⟩))
theorem Q7u {pos:Pos}(he:∀ cs l st k,ev (.con .none) cs l st k=true->k .none st=true):SS W C (Q0w ev (.con .none)) (exec (.Return none pos)):=λcs l st k q =>
 ⟨.ret .none l,st,he cs l st _ q,λA env X μ s I N=>wpAny_Return_none ⟨μ,.refl ..,I,.ret N .none⟩⟩
theorem Q7v {pos:Pos}:SS W C (λU l s k=>k (.next l) s) (exec (.Pass pos)):=λcs l st k q=>⟨.next l,st,q,λA env X μ s I N=>wpAny_Pass ⟨μ,.refl ..,I,.next N⟩⟩
theorem ss_brk {pos:Pos}:SS W C (λU l s k=>k (.brk l) s) (exec (.Break pos)):=λcs l st k q=>⟨.brk l,st,q,λA env X μ s I N=>wpAny_Break ⟨μ,.refl ..,I,.brk N⟩⟩
theorem Q7w {pos:Pos}:SS W C (λU l s k=>k (.cont l) s) (exec (.Continue pos)):=λcs l st k q=>⟨.cont l,st,q,λA env X μ s I N=>wpAny_Continue ⟨μ,.refl ..,I,.cont N⟩⟩
inductive SSs (W:Wd)(C:Cls)(ex:Ex):List S->List Stmt->Prop
 | nil:SSs W C ex [] []
 | cons {x:S}{y:Stmt}{xs:List S}{ys:List Stmt}(h:SS W C (ex x) (exec y))(t:SSs W C ex xs ys):SSs W C ex (x :: xs) (y :: ys)
theorem SSs.run {xs:List S}{ys:List Stmt}(h:SSs W C ex xs ys):SS W C (exL ex xs) (execs ys):=by
 induction h with
 | nil=>exact λcs l st k q=>⟨.next l,st,q,λA env X μ s I N=>wpAny_execs_nil ⟨μ,.refl ..,I,.next N⟩⟩
 | cons h t ih =>
  intro cs l st k q;refine Q7 (h cs l st _ q) ?_;intro f st1 q r1
  induction f using F.casesOn with
  | next l1 =>
   refine Q7 (ih cs l1 st1 k q) ?_;intro g st2 q2 r2;refine Q9 g st2 q2 (λA env X μ s I N=>wpAny_execs_cons ((r1 A env X μ s I N).step λμ' s' y e z=>?_));refine Q6 z ?_;intro z1 z2
   induction z2 using FlR.nextE with
   | next N'=>exact (r2 A env X μ' s' z1 N').fin e
  | ret v l1 =>
   refine Q9 (.ret v l1) st1 q (λA env X μ s I N=>wpAny_execs_cons ((r1 A env X μ s I N).step λμ' s' y e z=>?_));refine Q6 z ?_;intro z1 z2
   induction z2 using FlR.retE with
   | ret N' r=>exact J6 μ' e z1 (.ret N' r)
  | brk l1 =>
   refine Q9 (.brk l1) st1 q (λA env X μ s I N=>wpAny_execs_cons ((r1 A env X μ s I N).step λμ' s' y e z=>?_));refine Q6 z ?_;intro z1 z2
   induction z2 using FlR.brkE with
   | brk N'=>exact J6 μ' e z1 (.brk N')
  | cont l1 =>
   refine Q9 (.cont l1) st1 q (λA env X μ s I N=>wpAny_execs_cons ((r1 A env X μ s I N).step λμ' s' y e z=>?_));refine Q6 z ?_;intro z1 z2
   induction z2 using FlR.contE with
   | cont N'=>exact J6 μ' e z1 (.cont N')
theorem ss_ite {c:E}{a b:List S}{ec:Expr}{sa sb:List Stmt}{pos:Pos}(hc:SB W C (ev c) (λenv=>isTrue ec env (eval ec env)))(ha:SSs W C ex a sa)(hb:SSs W C ex b sb) :
  SS W C (sIte ev ex c a b) (exec (.If ec sa sb pos)):=λcs l st k q=>by
 refine byC λζ=>?_;refine Q7 (hc cs l st _ q) ?_;intro v st1 q r1;refine Q3 (G1 q) ?_;intro t ht q;refine ζ ?_;induction t using Bool.casesOn with
 | true =>
  refine Q7 (ha.run cs l st1 k q) ?_;intro f st2 q r2;refine Q9 f st2 q (λA env X μ s I N=>wpAny_If ((r1 _ ht A env X μ s I N).step λμ' s' x e z=>?_));obtain ⟨z,rfl⟩:=z;exact (r2 A env X μ' s' z (N.ext e)).fin (e.l N.free)
 | false =>
  refine Q7 (hb.run cs l st1 k q) ?_;intro f st2 q r2;refine Q9 f st2 q (λA env X μ s I N=>wpAny_If ((r1 _ ht A env X μ s I N).step λμ' s' x e z=>?_));obtain ⟨z,rfl⟩:=z;exact (r2 A env X μ' s' z (N.ext e)).fin (e.l N.free)
end
end
section
section
variable {prog:Program}{w:World}{A:Around}{E:Value->Shared->Prop}{s:Shared}
theorem Hx {it t:Addr}{items:Array Value}(hne:t≠it):∀ (n i:Nat)(s:Shared)(Q:List Value->Shared->Prop),s.heap.IsListIter it t i->s.heap.IsList t items->i+n<=items.size ->
  (∀ h',h'.IsListIter it t (i+n)->Heap.SameBut it s.heap h'->Q ((items.toList.drop i).take n) { s with heap:=h' })->wpAny (model prog w) A (draw (.ref it) n) Q E s
 | 0,i,s,Q,hit,_,_,hQ=>by
  show wpAny _ _ (pure []) Q E s
  exact wpAny_pure (by simpa using hQ s.heap hit (Heap.SameBut.refl ..))
 | n+1,i,s,Q,hit,ht,hle,hQ=>by
  have hlt:i<items.size:=by lia
  show wpAny _ _ (pyNext (.ref it) >>= _) Q E s
  refine wpAny_bind (wpAny_pyNext_list_item hit ht (x:=items[i]) (by simp [hlt]) λh₁ hit₁ hs₁=>?_);refine wpAny_bind (wpAny_holding (Hx hne n (i+1) _ _ hit₁ (by obtain ⟨o,ho,r⟩:=ht;exact ⟨o,hs₁.extBut _ _ hne ho,r⟩) (by lia) λh₂ hit₂ hs₂=>wpAny_pure ?_));have hd:items.toList.drop i=items[i] :: items.toList.drop (i+1):=by simp [List.drop_eq_getElem_cons,hlt]
  have:=hQ h₂ (by rw [show i+(n+1)=i+1+n by lia];exact hit₂) (hs₁.trans hs₂);rw [hd,List.take_succ_cons] at this;exact this
theorem Jz {t:Addr}{items:Array Value}{Q:List Value->Shared->Prop}(hh:A.handled=none)(ht:s.heap.IsList t items)
  (hQ:∀ h',Heap.ExtBut s.heap.objs.size s.heap h'->Q items.toList { s with heap:=h' }):wpAny (model prog w) A (unpackItems (.ref t) items.size none) Q E s:=by
 have hlt:t≠s.heap.objs.size:=by obtain ⟨o,ho,_⟩:=ht;exact Nat.ne_of_lt (Heap.lt_size ho)
 unfold unpackItems;refine wpAny_bind ?_
 ·unfold notIterableAtAll
  refine wpAny_bind (wpAny_specialOf ht.typeIs slot_list_iter.lookup ?_);refine wpAny_pure ?_;simp only [Bool.false_eq_true,if_false];refine wpAny_bind (wpAny_holding (wpAny_pyIter_list ht ?_));refine wpAny_bind (wpAny_holding (Hx hlt items.size 0 _ _ ⟨_,Heap.get?_push_size _ rfl,rfl,rfl⟩ (ht.push _) (by lia) λh₁ hit₁ hs₁=>?_));have hall:List.take items.size (List.drop 0 items.toList)=items.toList:=by
   rw [List.drop_zero];exact List.take_of_length_le (by simp)
  rw [hall];refine wpAny_ite_false (decide_eq_false (by simp)) ?_;have ht₁:h₁.IsList t items:=by obtain ⟨o,ho,r⟩:=ht.push (o:={ cls:=.type "list_iterator",data:=.fields #[.ref t,.int 0 0] });exact ⟨o,hs₁.extBut _ _ hlt ho,r⟩
  refine wpAny_bind (wpAny_holding (wpAny_pyNext_list_end hh hit₁ ht₁ (by simp) λh₂ he₂=>?_));simp only [Option.isSome_none,Bool.false_eq_true,if_false];refine wpAny_pure (hQ h₂ λb o hb e=>he₂ b o hb (hs₁.extBut b o hb (Heap.get?_push_of_some _ e)))
end
variable {W:Wd}
theorem E6 {h h':Heap}(e:Heap.ExtBut h.objs.size h h'):∀ b o,h.get? b=some o->h'.get? b=some o:=λb o q=>e b o (Nat.ne_of_lt (Heap.lt_size q)) q
theorem Gw {st:St}{p:P}{o:O}{xs:List V}(ho:st.t.get p=some o)(hx:o=.list xs\/o=.tup xs){A:Around}{μ:Mp}{s:Shared}{x:Value}(hh:A.handled=none)(I:Inv W μ st s)(r:VR W μ (.ref p) x) :
  Run W A μ s (unpackItems x xs.length none) λμ' s' ys=>Inv W μ' st s'/\VRs W μ' xs ys/\μ'=μ:=by
 refine Y0 (Z6 I r ho) ?_;intro a d ee2 m oo;subst ee2
 rcases hx with rfl | rfl
 ·induction oo using OR.listE with
  | list hl hr hz =>
   rw [<-hr.size];exact Jz hh hl.isList λh' e=>⟨μ,.kept (t:=s.toks) (E6 e),I.kept (t:=s.toks) (E6 e),hr,rfl⟩
 ·induction oo using OR.tupE with
  | tup hl hr hz =>
   rw [<-hr.size];exact unpackItems_tuple hh ⟨_,hl,rfl,0,rfl⟩ λh' e=>⟨μ,.kept (t:=s.toks) (E6 e),I.kept (t:=s.toks) (E6 e),hr,rfl⟩
inductive Tgs (W:Wd)(C:Cls):List (Bool × Nat)->List Expr->Prop
 | nil:Tgs W C [] []
 | cons {c:Bool}{n:Nat}{x:Str}{p:Pos}{ks:List (Bool × Nat)}{es:List Expr}(hn:W.tab n=x)(hk:∀ A env,C A env->V2 env c x=true)(t:Tgs W C ks es):Tgs W C ((c,n) :: ks) (.Name x p :: es)
theorem Tgs.shape {C:Cls}{ks:List (Bool × Nat)}{es:List Expr}(h:Tgs W C ks es)(env:Env):(assignEach es env).length=ks.length/\(assignEach es env).findIdx? (·.1)=none:=by
 induction h with
 | nil=>exact ⟨rfl,rfl⟩
 | cons hn hk t ih=>exact ⟨congrArg (·+1) ih.1,by rw [List.findIdx?_eq_none_iff] at *;intro x hx;rcases List.mem_cons.mp hx with rfl | hx;rfl;exact ih.2 x hx⟩
theorem Tgs.run (w:Wf W){C:Cls}{ks:List (Bool × Nat)}{es:List Expr}(h:Tgs W C ks es):∀ {cs:Q4}{l:Loc}{st:St}{xs:List V}{k:Loc->St->R},Qq cs l st ks xs k=true->∃ l' st',k l' st'=true/\xs.length=ks.length /\
  ∀ {A:Around}{env:Env}{μ:Mp}{s:Shared}{ys:List Value}{A₀:Around},C A₀ env->Inv W μ st s->EnvR W μ s env cs l->VRs W μ xs ys->RunL W A env.locals μ s (assignInOrder ((assignEach es env).map (·.2)) ys) λμ' s' U=>Inv W μ' st' s'/\EnvR W μ' s' env cs l'/\μ'=μ:=by
 induction h with
 | nil =>
  intro cs l st xs k q
  induction xs using List.casesOn with
  | nil=>exact Q0e l st q rfl (λ{A env μ s ys A₀} X I N r=>wpAny_pure ⟨μ,.refl ..,I,N,rfl⟩)
  | cons=>first | exact ff q | cases q
 | @cons c n x p ks es hn hk t ih =>
  intro cs l st xs k q
  induction xs using List.casesOn with
  | nil=>first | exact ff q | cases q
  | cons v xs =>
   subst hn;refine byC λζ=>?_;refine Q7 (M5 w (show Zq cs l st c n v (λl s=>Qq cs l s ks xs k)=true from q)) ?_;intro l1 st1 q1 r1;refine Y0 (ih q1) ?_;intro l2 st2 q2 len r2;refine ζ ?_;refine Q0e l2 st2 q2 (by simp [len]) (λ{A env μ s ys A₀} X I N r=>?_)
   induction r using VRs.consE with
   | cons a b =>
    show wpAny _ _ (do holding _ (assign (.Name _ _) env _);assignInOrder _ _) _ _ _
    refine wpAny_bind (wpAny_holding (PyProof.Rows.assign_Name ((r1 (hk A₀ env X) I N a).step λμ' s' U e z=>?_)));refine Ui z ?_;intro z1 z2 ee2;subst ee2;exact (r2 X z1 z2 b).done e λμ'' s'' U U z=>z
inductive TgR (W:Wd)(C:Cls):Tg->Expr->Prop
 | one {c:Bool}{n:Nat}{x:Str}{p:Pos}(hn:W.tab n=x)(hk:∀ A env,C A env->V2 env c x=true):TgR W C (.one c n) (.Name x p)
 | many {ks:List (Bool × Nat)}{es:List Expr}{k:Nat}{p:Pos}(h:Tgs W C ks es):TgR W C (.many ks) (.Tuple es k p)
theorem TgR.run (w:Wf W){C:Cls}{tg:Tg}{t:Expr}(h:TgR W C tg t){cs:Q4}{l:Loc}{st:St}{v:V}{k:Loc->St->R}(q:P1 cs l st tg v k=true):∃ l' st',k l' st'=true /\
  ∀ {A:Around}{env:Env}{μ:Mp}{s:Shared}{y:Value}{A₀:Around},C A₀ env->A.handled=none->Inv W μ st s->EnvR W μ s env cs l->VR W μ v y->RunL W A env.locals μ s (assign t env y) λμ' s' U=>Inv W μ' st' s'/\EnvR W μ' s' env cs l':=by
 cases h with
 | one hn hk =>
  subst hn;refine Q7 (M5 w (show Zq cs l st _ _ v _=true from q)) ?_;intro l1 st1 q1 r1;exact Q9 l1 st1 q1 (λX U I N r=>PyProof.Rows.assign_Name ((r1 (hk _ _ X) I N r).step λμ' s' U e z=>⟨μ',e,z.1,z.2.1⟩))
 | many hs =>
  refine byC λζ=>?_;obtain ⟨p,o,rfl,ho,q⟩:=Y1 (show G2 st v _=true from q);obtain ⟨xs,hx,q⟩:=I9 q;refine Y0 (hs.run w q) ?_;intro l1 st1 q1 len r1;refine ζ ?_;refine Q9 l1 st1 q1 (λ{A env μ s y A₀} X hh I N r=>?_);rw [assign_Tuple];refine wpAny_bind (wpAny_standAt ?_);unfold unpack;rw [(hs.shape env).1,(hs.shape env).2,<-len];refine wpAny_bind (wpAny_holding ((Gw ho hx hh I r).step λμ' s' ys e z=>?_));exact (r1 X z.1 (N.ext e) z.2.1).done (e.l N.free) λU U U U z=>⟨z.1,z.2.1⟩
section
variable {C:Cls}{ev:Ev}{ex:Ex}
theorem Q7x (w:Wf W){ks:List (Bool × Nat)}{e:E}{value:Expr}{es:List Expr}{n:Nat}{p pos:Pos}(hh:∀ A env,C A env->A.handled=none)(he:SE W C (ev e) (eval value))(ht:Tgs W C ks es)(hw:∀ A env,C A env->swappedStores [.Tuple es n p] value env=pure none) :
  SS W C (Gp ev (.many ks) e) (exec (.Assign [.Tuple es n p] value pos)):=λcs l st k q=>by
 refine byC λζ=>?_;obtain ⟨v,st1,q,r1⟩:=he cs l st _ q;refine Q7 ((TgR.many (k:=n) (p:=p) ht).run w q) ?_;intro l' st2 q2 r2;refine ζ ?_;refine Q9 (.next l') st2 q2 (λA env X μ s I N=>Assign_Tuple ((r1 A env X μ s I N).step λμ' s' y e z=>(r2 X (hh A env X) z.1 (N.ext e) z.2).step λμ'' s'' U e' z'=>⟨μ'',(e.l N.free).trans e',z'.1,.next z'.2⟩) (show swapsWith value (some (.Tuple es n p)) pos.line env=pure false from Ua _) (hw A env X))
theorem Ka {α:Type}:∀ {es:List (Nat × α)}{n:Nat}{v:α}{j:Nat},Y6 (P4 es n v) j=if j=n then some v else Y6 es j
 | [],n,v,j=>by simp [P4,Y6,eq_comm]
 | (m,w) :: r,n,v,j=>by
  unfold P4
  by_cases e:m=n
  ·subst e
   rw [if_pos rfl]
   by_cases q:m=j
   ·subst q;simp [Y6]
   ·have:¬ j=m:=λz=>q z.symm
    simp [Y6,q,this]
  ·rw [if_neg e]
   by_cases q:m=j
   ·subst q;simp [Y6,e]
   ·simp only [Y6,q,if_false]
    exact Ka
theorem EnvR.same {env:Env}{μ:Mp}{s:Shared}{cs:Q4}{l l':Loc}(N:EnvR W μ s env cs l)(h:∀ k,Y6 l' k=Y6 l k):EnvR W μ s env cs l':=⟨N.kind,N.glob,N.blt,N.free,N.new,let ⟨m,a,b⟩:=N.ns;⟨m,a,λk v q=>b k v (by rw [<-h k];exact q)⟩,N.cells,N.full⟩
set_option tactic.hygienic true in
theorem Gx {A:Around}{env:Env}(w:Wf W){n:Nat}{v:V}{cs:Q4}{l:Loc}{st:St}(hk:env.kindOf (W.tab n)=some .local){μ:Mp}{s:Shared}{x:Value}(I:Inv W μ st s)(N:EnvR W μ s env cs l)(r:VR W μ v x) :
  RunL W A env.locals μ s (storeName env (W.tab n) x) λμ' s' U=>Inv W μ' st s'/\EnvR W μ' s' env cs (P4 l n v)/\μ'=μ:=by
 have t:∀ {α:Type}{es:List (Nat × α)}{n:Nat}{v:α},setA es n v (λU=>true)=true:=by
  intro α es n v
  induction es with
  | nil=>rfl
  | cons e r ih =>
   obtain ⟨m,w⟩:=e
   show @Bool.rec (λU=>R) (setA r n v λU=>true) true (Nat.beq m n)=true
   cases Nat.beq m n with
   | true=>rfl
   | false=>exact ih
 refine Q3 N.ns ?_;intro m hm hl;refine wpAny_storeName_local hk hm (λh' hn sb=>?_) (by rw [N.kind];rfl);have e:ExtL env.locals μ s μ { s with heap:=h',toks:=s.toks+1 }:=⟨λU U h=>h,λU U U h q=>(by rw [h] at q;exact sN q),λb o q U ne=>(by rw [sb.2 b ne];exact q),λU=>(by obtain ⟨_,_,_,ho,_⟩:=hn;exact Z1 ho),rfl⟩;refine Xj μ e (I.other (t:=s.toks+1) λb o q z=>?_) (N.extL e ⟨_,hn,λj u q=>?_⟩) rfl
 ·rw [sb.2 b (λy=>by
   subst y
   rcases z with z | z
   ·exact z N.new
   ·exact z N.free)];exact q
 ·rw [Ka] at q
  split at q
  ·rename_i e;subst e;induction q using J8;exact Z0 x (by simp) r
  ·rename_i e
   refine Q3 (hl j u q) ?_;intro y a b;exact Z0 y (by rw [if_neg (λz=>e (w.inj _ _ z))];exact a) b
theorem Q1w {cs:Q4}{l:Loc}{st:St}{n1 n2:Nat}{xs:List V}{k:Loc->St->R}(q:Qq cs l st [(false,n1),(false,n2)] xs k=true):∃ u t,xs=[u,t]/\k (P4 (P4 l n1 u) n2 t) st=true:=by
 induction xs using List.casesOn with
 | nil=>first | exact ff q | cases q
 | cons u xs =>
  have q1:=P5 (show setA l n1 u (λl=>Qq cs l st [(false,n2)] xs k)=true from q)
  induction xs using List.casesOn with
  | nil=>first | exact ff q1 | cases q1
  | cons t xs =>
   have q2:=P5 (show setA (P4 l n1 u) n2 t (λl=>Qq cs l st [] xs k)=true from q1)
   induction xs using List.casesOn with
   | nil=>exact Q9 u t rfl q2
   | cons=>first | exact ff q2 | cases q2
theorem Q7y (w:Wf W){n1 n2:Nat}{e:E}{value:Expr}{es:List Expr}{x1 x2:Str}{n:Nat}{p pos:Pos}(hh:∀ A env,C A env->A.handled=none)(he:SE W C (ev e) (eval value))(h1:W.tab n1=x1)(h2:W.tab n2=x2)
  (k1:∀ A env,C A env->env.kindOf x1=some .local)(k2:∀ A env,C A env->env.kindOf x2=some .local)(ne:n1≠n2)(hw:∀ A env,C A env->swappedStores [.Tuple es n p] value env=pure (some [x1,x2])) :
  SS W C (Gp ev (.many [(false,n1),(false,n2)]) e) (exec (.Assign [.Tuple es n p] value pos)):=λcs l st k q=>by
 refine byC λζ=>?_;obtain ⟨v,st1,q,r1⟩:=he cs l st _ q;obtain ⟨pp,o,rfl,ho,q⟩:=Y1 (show G2 st1 v _=true from q);obtain ⟨xs,hx,q⟩:=I9 q;refine Q7 (Q1w q) ?_;intro u t ee2 q2;subst ee2;refine ζ ?_;refine Q9 (.next (P4 (P4 l n1 u) n2 t)) st1 q2 (λA env X μ s I N=>Assign_Tuple_swapped (names:=[x1,x2]) ?_ (show swapsWith value (some (.Tuple es n p)) pos.line env=pure false from Ua _) (hw A env X));refine (r1 A env X μ s I N).step λμ' s' y e z=>?_;have U:Run W A μ' s' (unpackItems y 2 none) _:=Gw ho hx (hh A env X) z.1 z.2;refine U.step λμ2 s2 ys e2 z2=>?_;refine Ui z2 ?_;intro z21 z22 ee2;subst ee2
 induction z22 using VRs.consE with
 | @cons ya _ a b =>
  induction b using VRs.consE with
  | @cons yb _ b c =>
   induction c using VRs.nilE
   subst h1 h2;have two:wpAny (model W.prog W.w) A (assignInOrder [bindName env (W.tab n2),bindName env (W.tab n1)] [yb,ya]) (λU s'=>∃ μ',ExtL env.locals μ s μ' s'/\Inv W μ' st1 s'/\FlR W μ' s' env cs (.next (P4 (P4 l n1 u) n2 t)) .next) Z3 s2:=by
    show wpAny _ _ (do holding [ya] (bindName env (W.tab n2) yb);assignInOrder [bindName env (W.tab n1)] [ya]) _ _ _
    refine wpAny_bind (wpAny_holding (PyProof.Rows.bindName_ ((Gx (A:=A) w (k2 A env X) z21 (N.ext (e.trans e2)) b).step λμ3 s3 U e3 z3=>?_)));refine Ui z3 ?_;intro z31 z32 ee2;subst ee2
    show wpAny _ _ (do holding [] (bindName env (W.tab n1) ya);pure ()) _ _ _
    refine wpAny_bind (wpAny_holding (PyProof.Rows.bindName_ ((Gx (A:=A) w (k1 A env X) z31 z32 a).step λμ4 s4 U e4 z4=>?_)));refine Ui z4 ?_;intro z41 z42 ee2;subst ee2;refine wpAny_pure ⟨_,((e.trans e2).l N.free).trans (e3.trans e4),z41,.next (z42.same λj=>?_)⟩;simp only [Ka]
    by_cases q1:j=n1
    ·subst q1;simp [ne]
    ·simp [q1]
   exact two
end
end
section
variable {W:Wd}
inductive ItR (μ:Mp)(h:Heap)(I:Addr):It->Prop
 | list {p:P}{a d:Addr}{i:Nat}(m:μ p=some (a,d))(x:h.IsListIter I a i):ItR μ h I (.list p i)
 | tup {p:P}{a d:Addr}{i:Nat}(m:μ p=some (a,d))(x:IsTupIter h I a i):ItR μ h I (.tup p i)
 | range {i n:Nat}(le:i<=n)(x:IsRangeIter h I i ((n:Int) - i) 1):ItR μ h I (.range i n)
theorem ItR.at {μ μ':Mp}{h h':Heap}{I:Addr}{it:It}(r:ItR μ h I it)(sub:∀ p x,μ p=some x->μ' p=some x)(k:∀ o,h.get? I=some o->h'.get? I=some o):ItR μ' h' I it:=by
 cases r with
 | list m x=>exact .list (sub _ _ m) (by obtain ⟨o,ho,r⟩:=x;exact ⟨o,k _ ho,r⟩)
 | tup m x=>exact .tup (sub _ _ m) (by obtain ⟨o,ho,r⟩:=x;exact ⟨o,k _ ho,r⟩)
 | range le x=>exact .range le (k _ x)
theorem ItR.there {μ:Mp}{h:Heap}{I:Addr}{it:It}(r:ItR μ h I it):h.get? I≠none:=by
 cases r with
 | list m x=>obtain ⟨o,ho,_⟩:=x;exact Z1 ho
 | tup m x=>obtain ⟨o,ho,_⟩:=x;exact Z1 ho
 | range le x=>exact Z1 x
theorem Gy {α:Type}:∀ {xs:List α}{i:Nat}{done:Unit->R}{k:α->R},Q0s xs i done k=true->(xs[i]?=none/\done ()=true)\/∃ x,xs[i]?=some x/\k x=true
 | [],i,_,_,h=>.inl ⟨by simp,h⟩
 | x :: r,0,_,_,h=>.inr ⟨x,rfl,h⟩
 | x :: r,i+1,_,_,h=>by simpa using Gy (xs:=r) (i:=i) h
set_option tactic.hygienic true in
theorem Ys {it:It}{st:St}{done:Unit->R}{k:V->It->R}(h:I4 it st done k=true) :
  (done ()=true/\∀ {A:Around}{μ:Mp}{s:Shared}{I:Addr}{E:Value->Shared->Prop}{Q:Option Value->Shared->Prop},A.handled=none->Inv W μ st s->ItR μ s.heap I it->(∀ h',Heap.ExtBut I s.heap h'->Q none { s with heap:=h' })->wpAny (model W.prog W.w) A (pyNext (.ref I)) Q E s) \/
  (∃ v it',k v it'=true/\∀ {A:Around}{μ:Mp}{s:Shared}{I:Addr}{E:Value->Shared->Prop}{Q:Option Value->Shared->Prop},Inv W μ st s->ItR μ s.heap I it ->
   (∀ h' tk x,Heap.ExtBut I s.heap h'->ItR μ h' I it'->VR W μ v x->Q (some x) { s with heap:=h',toks:=tk })->wpAny (model W.prog W.w) A (pyNext (.ref I)) Q E s):=by
 induction it using It.casesOn with
 | list p i =>
  refine Q3 (B0 (show X1 st p _=true from h)) ?_;intro o ho h
  induction o using O.casesOn <;> first | exact ff h | (cases h;done) | skip
  rename_i xs
  rcases Gy h with ⟨e,h⟩ | ⟨v,e,h⟩
  ·refine .inl ⟨h,λ{A μ s I E Q} hh IV r q=>?_⟩
   cases r with
   | list m x =>
    refine Q7 (IV.objs p _ ho) ?_;intro a' d' m' oo;rw [m] at m';induction m' using K6
    induction oo using OR.listE with
    | list hl hr hz=>exact wpAny_pyNext_list_end hh x hl.isList (by have:=hr.nth_none e;simpa using this) q
  ·refine .inr ⟨v,_,h,λ{A μ s I E Q} IV r q=>?_⟩
   cases r with
   | list m x =>
    refine Q7 (IV.objs p _ ho) ?_;intro a' d' m' oo;rw [m] at m';induction m' using K6
    induction oo using OR.listE with
    | list hl hr hz =>
     refine Q3 (hr.nth e) ?_;intro y hy ry;exact wpAny_pyNext_list_item x hl.isList (by simpa using hy) λh' x' sb=>q h' s.toks y sb.extBut (.list m x') ry
 | tup p i =>
  refine Q3 (B0 (show X1 st p _=true from h)) ?_;intro o ho h
  induction o using O.casesOn <;> first | exact ff h | (cases h;done) | skip
  rename_i xs
  rcases Gy h with ⟨e,h⟩ | ⟨v,e,h⟩
  ·refine .inl ⟨h,λ{A μ s I E Q} hh IV r q=>?_⟩
   cases r with
   | tup m x =>
    refine Q7 (IV.objs p _ ho) ?_;intro a' d' m' oo;rw [m] at m';induction m' using K6
    induction oo using OR.tupE with
    | tup hl hr hz=>exact next_tuple_end hh x ⟨_,hl,rfl,0,rfl⟩ (by have:=hr.nth_none e;simpa using this) q
  ·refine .inr ⟨v,_,h,λ{A μ s I E Q} IV r q=>?_⟩
   cases r with
   | tup m x =>
    refine Q7 (IV.objs p _ ho) ?_;intro a' d' m' oo;rw [m] at m';induction m' using K6
    induction oo using OR.tupE with
    | tup hl hr hz =>
     refine Q3 (hr.nth e) ?_;intro y hy ry;exact next_tuple_item x ⟨_,hl,rfl,0,rfl⟩ (by simpa using hy) λh' x' sb=>q h' s.toks y sb.extBut (.tup m x') ry
 | range i n =>
  rcases bE (b:=Nat.blt i n) h with ⟨lt,h⟩ | ⟨lt,h⟩
  ·have lt:i<n:=Nat.le_of_ble_eq_true lt
   refine .inr ⟨_,_,E4 h,λ{A μ s I E Q} IV r q=>?_⟩;cases r with
   | range le x =>
    refine wpAny_pyNext_range_item x (by lia) λh' x' sb=>q h' _ _ sb.extBut (.range (by lia) ?_) (.int _ _);have e1:((i:Int)+1)=((i+1:Nat):Int):=by lia
    have e2:((n:Int) - i - 1)=(n:Int) - ((i+1:Nat):Int):=by lia
    rw [e1,e2] at x';exact x'
  ·have lt:¬ i<n:=λz=>by rw [show Nat.blt i n=true from Nat.ble_eq_true_of_le z] at lt;cases lt
   refine .inl ⟨h,λ{A μ s I E Q} hh IV r q=>?_⟩;cases r with
   | range le x=>exact wpAny_pyNext_range_end hh x (by lia) q
theorem Qu {M:Model}{A:Around}{E:Value->Shared->Prop}{μ:Mp}{s:Shared}{I:Addr}{it:It}{t:Expr}{x:Value}{Q:Unit->Shared->Prop}(r:ItR μ s.heap I it)(q:Q () s):wpAny M A (letOwnedTupleGo t (.ref I) x) Q E s:=by
 have key:∀ {o:Obj}{n:String}{vs:Array Value},s.heap.get? I=some o->o.cls=.type n->o.data=.fields vs->(["enumerate","zip","dict_itemiterator","dict_reverseitemiterator","odict_iterator","itertools.zip_longest","itertools.pairwise"].contains n)=false->wpAny M A (letOwnedTupleGo t (.ref I) x) Q E s:=by
  intro o n vs ho hc hd hn;have body:wpAny M A (do
   let (.ref r,.ref a):=((.ref I:Value),x) | return
   let o <-load r
   match o.cls,o.data with
   | .type n,.fields vs =>
    if ["enumerate","zip","dict_itemiterator","dict_reverseitemiterator","odict_iterator","itertools.zip_longest","itertools.pairwise"].contains n&&vs[0]?==some (rawInt a) then
     rule "for.unpacks-the-owned-tuple"
     updateField r 0 .none
   | _,_=>pure ()) Q E s:=by
   induction x using PySem.Value.casesOn with
   | ref a =>
    refine wpAny_bind (wpAny_load ho ?_);rw [hc,hd];dsimp only;rw [hn,Bool.false_and];exact wpAny_pure q
   | _=>exact wpAny_pure q
  induction t using PySem.Expr.casesOn <;> first | exact body | exact wpAny_pure q
 cases r with
 | list m y=>obtain ⟨o,ho,hc,hd⟩:=y;exact key ho hc hd (by decide)
 | tup m y=>obtain ⟨o,ho,hc,hd⟩:=y;exact key ho hc hd (by decide)
 | range le y=>exact key y rfl rfl (by decide)
theorem Tm {prog:Program}{w:World}{A:Around}{s:Shared}{R:Result->Shared->Prop}{target:Expr}{it:Value}{body:List Stmt}{env:Env}
  (turn:wpAny (model prog w) A (pyNext it) (λr s₁=>match r with
   | none=>R (.ok .next) s₁
   | some v=>wpAny (model prog w) A (letOwnedTupleGo target it v) (λU s₁'=>wpAny (model prog w) A (assign target env v) (λU s₂=>wpAny (model prog w) A (execs body env) (λf s₃=>match f with
      | .next | .cont=>codeAny (model prog w) A (.forLoop target it body [] env) R s₃
      | .brk=>R (.ok .next) s₃
      | .ret v=>R (.ok (.ret v)) s₃) Z3 s₂) Z3 s₁') Z3 s₁) Z3 s):codeAny (model prog w) A (.forLoop target it body [] env) R s:=by
 refine codeAny_of_tree ?_
 show wpAny _ A ((forTurn target it body [] env).onRaise (λx=>do noteFrame x env;theTreesLotGoes x)) _ _ s
 refine wpAny_noted ?_;simp only [forTurn];refine wpAny_bind (wpAny_standAt (wpAny_bind (wpAny_onRaise (wpAny_mono turn (λr s₁ h₁=>?_) λU U h'=>h'.elim))))
 induction r using Option.casesOn with
 | none=>exact wpAny_pure ⟨rfl,codeAny_block (wpAny_execs_nil h₁)⟩
 | some v =>
  refine wpAny_bind (wpAny_mono h₁ (λU s₁' h₁'=>?_) λU U h'=>h'.elim);refine wpAny_bind (wpAny_mono h₁' (λU s₂ h₂=>wpAny_bind (wpAny_mono h₂ (λf s₃ h₃=>?_) λU U h'=>h'.elim)) λU U h'=>h'.elim)
  induction f using PySem.Flow.casesOn with
  | next=>exact wpAny_pure ⟨rfl,h₃⟩
  | cont=>exact wpAny_pure ⟨rfl,h₃⟩
  | brk=>exact wpAny_pure h₃
  | ret v=>exact wpAny_pure h₃
theorem Gz {prog:Program}{w:World}{A:Around}{s:Shared}{R:Result->Shared->Prop}{test:Expr}{body:List Stmt}{env:Env}
  (turn:wpAny (model prog w) A (isTrue test env (eval test env)) (λb s₁=>if b=true then wpAny (model prog w) A (execs body env) (λf s₃=>match f with
      | .next | .cont=>codeAny (model prog w) A (.whileLoop test body [] env) R s₃
      | .brk=>R (.ok .next) s₃
      | .ret v=>R (.ok (.ret v)) s₃) Z3 s₁ else R (.ok .next) s₁) Z3 s):codeAny (model prog w) A (.whileLoop test body [] env) R s:=by
 refine codeAny_of_tree ?_
 show wpAny _ A ((whileTurn test body [] env).onRaise (λx=>do noteFrame x env;theTreesLotGoes x)) _ _ s
 refine wpAny_noted ?_;simp only [whileTurn];refine wpAny_bind (wpAny_mono turn (λb s₁ h₁=>?_) λU U h'=>h'.elim)
 induction b using Bool.casesOn with
 | false=>exact wpAny_bind (wpAny_execs_nil (wpAny_pure h₁))
 | true =>
  refine wpAny_bind (wpAny_mono h₁ (λf s₃ h₃=>?_) λU U h'=>h'.elim)
  induction f using PySem.Flow.casesOn with
  | next=>exact wpAny_pure ⟨rfl,h₃⟩
  | cont=>exact wpAny_pure ⟨rfl,h₃⟩
  | brk=>exact wpAny_pure h₃
  | ret v=>exact wpAny_pure h₃
end
section
variable {W:Wd}
theorem ExtL.step {L I:Addr}{μ₀ μ:Mp}{s₀ s:Shared}{h':Heap}{t:Nat}(e:ExtL L μ₀ s₀ μ s)(n:s₀.heap.get? I=none)(ne:I≠L)(x:Heap.ExtBut I s.heap h'):ExtL L μ₀ s₀ μ { s with heap:=h',toks:=t } :=
 ⟨e.sub,e.new,λb o q f z=>x b o (λw=>by rw [w,n] at q;exact nS q) (e.keep b o q f z),λq=>by
  have:=e.live q;cases z:s.heap.get? L with
  | none=>exact absurd z this
  | some o=>exact Z1 (x L o ne.symm z),by rw [e.rest]⟩
theorem Inv.iter {μ:Mp}{st:St}{s:Shared}{I:Addr}{h':Heap}{t:Nat}(IV:Inv W μ st s)(f:G9 μ I)(h0:W.h₀.get? I=none)(x:Heap.ExtBut I s.heap h'):Inv W μ st { s with heap:=h',toks:=t } :=
 IV.other λb o e z=>x b o (λw=>by subst w;rcases z with z | z;exact z h0;exact z f) e
theorem EnvR.iter {μ:Mp}{s:Shared}{env:Env}{cs:Q4}{l:Loc}{I:Addr}{h':Heap}{t:Nat}(N:EnvR W μ s env cs l)(ne:I≠env.locals)(x:Heap.ExtBut I s.heap h'):EnvR W μ { s with heap:=h',toks:=t } env cs l :=
 ⟨N.kind,N.glob,N.blt,N.free,N.new,let ⟨m,⟨o,es,ep,ho,r⟩,b⟩:=N.ns;⟨m,⟨o,es,ep,x _ _ ne.symm ho,r⟩,b⟩,N.cells,N.full⟩
structure ItF (W:Wd)(L:Addr)(s₀:Shared)(μ:Mp)(s:Shared)(I:Addr)(it:It):Prop where
 fresh:s₀.heap.get? I=none
 free:G9 μ I
 new:W.h₀.get? I=none
 ne:I≠L
 is:ItR μ s.heap I it
theorem ItF.ext {L:Addr}{s₀:Shared}{μ μ':Mp}{s s':Shared}{I:Addr}{it:It}(F:ItF W L s₀ μ s I it)(e:ExtL L μ s μ' s'):ItF W L s₀ μ' s' I it:=by
 refine ⟨F.fresh,λp a d m=>?_,F.new,F.ne,F.is.at e.sub λo q=>e.keep I o q F.free F.ne⟩;cases q:μ p with
 | some y=>have z:=e.sub p y q;rw [m] at z;induction z using J8;exact F.free p a d q
 | none =>
  have z:=(e.new p a d m q).1;have:=F.is.there;exact ⟨λw=>this (w▸z.1),λw=>this (w▸z.2)⟩
noncomputable def LoopR (W:Wd)(env:Env)(cs:Q4)(μ₀:Mp)(s₀:Shared)(st':St)(f:F)(r:Result)(s':Shared):Prop:=match r with
 | .ok x=>∃ μ',ExtL env.locals μ₀ s₀ μ' s'/\Inv W μ' st' s'/\FlR W μ' s' env cs f x
 | .error _=>False
section
variable {C:Cls}{ev:Ev}{ex:Ex}
theorem Ba (w:Wf W)(hh:∀ A env,C A env->A.handled=none){tg:Tg}{t:Expr}{body:List S}{bs:List Stmt}(TG:TgR W C tg t)(B:SSs W C ex body bs):∀ {n:Nat}{cs:Q4}{it:It}{l:Loc}{st:St}{k:F->St->R},Rk ex tg body cs n it l st k=true ->
  ∃ f st',k f st'=true/\∀ {A:Around}{env:Env}{μ₀ μ:Mp}{s₀ s:Shared}{I:Addr},C A env->ExtL env.locals μ₀ s₀ μ s->Inv W μ st s->EnvR W μ s env cs l->ItF W env.locals s₀ μ s I it ->
   codeAny (model W.prog W.w) A (.forLoop t (.ref I) bs [] env) (LoopR W env cs μ₀ s₀ st' f) s
 | 0,_,_,_,_,_,h=>by first | exact ff h | cases h
 | n+1,cs,it,l,st,k,h=>by
  rcases Ys (W:=W) (show I4 it st (λU=>k (.next l) st) (λv it=>P1 cs l st tg v λl s=>exL ex body cs l s (Q0v k λl s=>Rk ex tg body cs n it l s k))=true from h) with ⟨h1,r1⟩ | ⟨v,it',h1,r1⟩
  ·refine Q9 (.next l) st h1 (λ{A env μ₀ μ s₀ s I} X e IV N F=>Tm (r1 (hh A env X) IV F.is λh' x=>?_))
   exact ⟨μ,e.step (t:=s.toks) F.fresh F.ne x,IV.iter (t:=s.toks) F.free F.new x,.next (N.iter (t:=s.toks) F.ne x)⟩
  ·refine byC λζ=>?_;refine Q7 (TG.run w h1) ?_;intro l1 st1 h2 r2
   refine Q7 (B.run cs l1 st1 _ h2) ?_;intro f st2 h3 r3;refine ζ ?_;have pre:∀ {A:Around}{env:Env}{μ₀ μ:Mp}{s₀ s:Shared}{I:Addr}{T:Flow->Shared->Prop}{RR:Result->Shared->Prop},C A env->ExtL env.locals μ₀ s₀ μ s->Inv W μ st s->EnvR W μ s env cs l->ItF W env.locals s₀ μ s I it ->
     (∀ μ' s' x,ExtL env.locals μ₀ s₀ μ' s'->ItF W env.locals s₀ μ' s' I it'->Inv W μ' st2 s'->FlR W μ' s' env cs f x->match x with
      | .next | .cont=>codeAny (model W.prog W.w) A (.forLoop t (.ref I) bs [] env) RR s'
      | .brk=>RR (.ok .next) s'
      | .ret v=>RR (.ok (.ret v)) s')->codeAny (model W.prog W.w) A (.forLoop t (.ref I) bs [] env) RR s:=by
    intro A env μ₀ μ s₀ s I T RR X e IV N F q;refine Tm (r1 IV F.is λh' tk x xb ir rv=>?_);have e1:=e.step (t:=tk) F.fresh F.ne xb;have I1:=IV.iter (t:=tk) F.free F.new xb;have N1:=N.iter (t:=tk) F.ne xb;have F1:ItF W env.locals s₀ μ { s with heap:=h',toks:=tk } I it':=⟨F.fresh,F.free,F.new,F.ne,ir⟩;refine Qu (M:=model W.prog W.w) (s:={ s with heap:=h',toks:=tk }) ir ?_;refine (r2 X (hh A env X) I1 N1 rv).step λμ2 s2 U e2 z2=>?_;refine (r3 A env X μ2 s2 z2.1 z2.2).step λμ3 s3 y e3 z3=>?_;exact q μ3 s3 y (e1.trans (e2.trans e3)) ((F1.ext e2).ext e3) z3.1 z3.2
   induction f using F.casesOn with
   | next l2 =>
    refine Q7 (Ba w hh TG B (show Rk ex tg body cs n it' l2 st2 k=true from h3)) ?_;intro g st3 h4 r4;refine Q9 g st3 h4 (λX e IV N F=>pre (T:=λU U=>True) X e IV N F λμ' s' x e' F' I' fl=>?_)
    induction fl using FlR.nextE with
    | next N'=>exact r4 X e' I' N' F'
   | cont l2 =>
    refine Q7 (Ba w hh TG B (show Rk ex tg body cs n it' l2 st2 k=true from h3)) ?_;intro g st3 h4 r4;refine Q9 g st3 h4 (λX e IV N F=>pre (T:=λU U=>True) X e IV N F λμ' s' x e' F' I' fl=>?_)
    induction fl using FlR.contE with
    | cont N'=>exact r4 X e' I' N' F'
   | brk l2 =>
    refine Q9 (.next l2) st2 h3 (λX e IV N F=>pre (T:=λU U=>True) X e IV N F λμ' s' x e' F' I' fl=>?_)
    induction fl using FlR.brkE with
    | brk N'=>exact ⟨μ',e',I',.next N'⟩
   | ret v l2 =>
    refine Q9 (.ret v l2) st2 h3 (λX e IV N F=>pre (T:=λU U=>True) X e IV N F λμ' s' x e' F' I' fl=>?_)
    induction fl using FlR.retE with
    | ret N' r=>exact ⟨μ',e',I',.ret N' r⟩
theorem Zr {c:E}{ec:Expr}{body:List S}{bs:List Stmt}(CC:SB W C (ev c) (λenv=>isTrue ec env (eval ec env)))(B:SSs W C ex body bs):∀ {n:Nat}{cs:Q4}{l:Loc}{st:St}{k:F->St->R},Gn ev ex c body cs n l st k=true ->
  ∃ f st',k f st'=true/\∀ {A:Around}{env:Env}{μ₀ μ:Mp}{s₀ s:Shared},C A env->ExtL env.locals μ₀ s₀ μ s->Inv W μ st s->EnvR W μ s env cs l->codeAny (model W.prog W.w) A (.whileLoop ec bs [] env) (LoopR W env cs μ₀ s₀ st' f) s
 | 0,_,_,_,_,h=>by first | exact ff h | cases h
 | n+1,cs,l,st,k,h=>by
  refine byC λζ=>?_;refine Q7 (CC cs l st _ h) ?_;intro v st1 h1 r1;refine Q3 (G1 h1) ?_;intro b ht h1;refine ζ ?_;induction b using Bool.casesOn with
  | false =>
   refine Q9 (.next l) st1 h1 (λ{A env μ₀ μ s₀ s} X e IV N=>Gz ((r1 _ ht A env X μ s IV N).step λμ' s' x e' z=>?_));obtain ⟨z,rfl⟩:=z;exact ⟨μ',e.trans (e'.l N.free),z,.next (N.ext e')⟩
  | true =>
   refine Q7 (B.run cs l st1 _ h1) ?_;intro f st2 h3 r3;have pre:∀ {A:Around}{env:Env}{μ₀ μ:Mp}{s₀ s:Shared}{RR:Result->Shared->Prop},C A env->ExtL env.locals μ₀ s₀ μ s->Inv W μ st s->EnvR W μ s env cs l ->
     (∀ μ' s' x,ExtL env.locals μ₀ s₀ μ' s'->Inv W μ' st2 s'->FlR W μ' s' env cs f x->match x with
      | .next | .cont=>codeAny (model W.prog W.w) A (.whileLoop ec bs [] env) RR s'
      | .brk=>RR (.ok .next) s'
      | .ret v=>RR (.ok (.ret v)) s')->codeAny (model W.prog W.w) A (.whileLoop ec bs [] env) RR s:=by
    intro A env μ₀ μ s₀ s RR X e IV N q;refine Gz ((r1 _ ht A env X μ s IV N).step λμ' s' x e' z=>?_);obtain ⟨z,rfl⟩:=z;exact (r3 A env X μ' s' z (N.ext e')).step λμ3 s3 y e3 z3=>q μ3 s3 y (e.trans ((e'.l N.free).trans e3)) z3.1 z3.2
   induction f using F.casesOn with
   | next l2 =>
    refine Q7 (Zr CC B (show Gn ev ex c body cs n l2 st2 k=true from h3)) ?_;intro g st3 h4 r4;refine Q9 g st3 h4 (λX e IV N=>pre X e IV N λμ' s' x e' I' fl=>?_)
    induction fl using FlR.nextE with
    | next N'=>exact r4 X e' I' N'
   | cont l2 =>
    refine Q7 (Zr CC B (show Gn ev ex c body cs n l2 st2 k=true from h3)) ?_;intro g st3 h4 r4;refine Q9 g st3 h4 (λX e IV N=>pre X e IV N λμ' s' x e' I' fl=>?_)
    induction fl using FlR.contE with
    | cont N'=>exact r4 X e' I' N'
   | brk l2 =>
    refine Q9 (.next l2) st2 h3 (λX e IV N=>pre X e IV N λμ' s' x e' I' fl=>?_)
    induction fl using FlR.brkE with
    | brk N'=>exact ⟨μ',e',I',.next N'⟩
   | ret v l2 =>
    refine Q9 (.ret v l2) st2 h3 (λX e IV N=>pre X e IV N λμ' s' x e' I' fl=>?_)
    induction fl using FlR.retE with
    | ret N' r=>exact ⟨μ',e',I',.ret N' r⟩
theorem D4 {μ:Mp}{st:St}{s:Shared}(IV:Inv W μ st s){a:Addr}(h:s.heap.get? a=none):G9 μ a:=λq x y m=>⟨λz=>(IV.lt q x y m).2.1 (z▸h),λz=>(IV.lt q x y m).2.2 (z▸h)⟩
theorem R2 {μ:Mp}{st:St}{s:Shared}(IV:Inv W μ st s){a:Addr}(h:s.heap.get? a=none):W.h₀.get? a=none:=Y3 (λo q=>IV.keep a o q) h
theorem Q1x {st:St}{v:V}{k:It->R}(h:Rj false st v k=true):∃ it,k it=true/\∀ {A:Around}{μ:Mp}{s:Shared}{x:Value}{Q:Value->Shared->Prop}{E:Value->Shared->Prop}{L:Addr},Inv W μ st s->VR W μ v x->s.heap.get? L≠none ->
  (∀ I h',(∀ b o,s.heap.get? b=some o->h'.get? b=some o)->ItF W L s μ { s with heap:=h' } I it->Q (.ref I) { s with heap:=h' })->wpAny (model W.prog W.w) A (pyIter x) Q E s:=by
 refine Y0 (Y1 (show G2 st v _=true from h)) ?_;intro p o ee2 ho h;subst ee2;have nn:∀ {s:Shared},s.heap.get? s.heap.objs.size=none:=Heap.get?_none_of_le (Nat.le_refl _)
 induction o using O.casesOn <;> first | exact ff h | (cases h;done) | skip
 ·refine Z0 _ h (λ{A μ s x Q E L} IV r lv q=>?_)
  refine Y0 (Z6 IV r ho) ?_;intro a d ee2 m oo;subst ee2
  induction oo using OR.listE with
  | list hl hr hz=>exact wpAny_pyIter_list hl.isList (q _ _ (λb o e=>Heap.get?_push_of_some _ e) ⟨nn,D4 IV nn,R2 IV nn,λz=>lv (z▸nn),.list m ⟨_,Heap.get?_push_size _ rfl,rfl,rfl⟩⟩)
 ·refine Z0 _ h (λ{A μ s x Q E L} IV r lv q=>?_)
  refine Y0 (Z6 IV r ho) ?_;intro a d ee2 m oo;subst ee2
  induction oo using OR.tupE with
  | tup hl hr hz=>exact iter_tuple ⟨_,hl,rfl,0,rfl⟩ (q _ _ (λb o e=>Heap.get?_push_of_some _ e) ⟨nn,D4 IV nn,R2 IV nn,λz=>lv (z▸nn),.tup m ⟨_,Heap.get?_push_size _ rfl,rfl,rfl⟩⟩)
noncomputable def SIt (W:Wd)(C:Cls)(rng:Bool)(h:Hv)(t:Expr):Prop:=∀ (cs:Q4)(l:Loc)(st:St)(k:It->St->R),h cs l st (λv s=>Rj rng s v λit=>k it s)=true->∃ it st',k it st'=true /\
 ∀ A env,C A env->∀ μ s,Inv W μ st s->EnvR W μ s env cs l->wpAny (model W.prog W.w) A (eval t env) (λx s₁=>wpAny (model W.prog W.w) A (pyIter x) (λi s₂=>∃ I μ',i=.ref I/\Ext μ s μ' s₂/\Inv W μ' st' s₂/\ItF W env.locals s μ' s₂ I it) Z3 s₁) Z3 s
theorem EnvR.there {μ:Mp}{s:Shared}{env:Env}{cs:Q4}{l:Loc}(N:EnvR W μ s env cs l):s.heap.get? env.locals≠none:=let ⟨_,⟨_,_,_,ho,_⟩,_⟩:=N.ns;Z1 ho
theorem Rr {e:E}{t:Expr}(h:SE W C (ev e) (eval t)):SIt W C false (ev e) t:=λcs l st k q=>by
 refine byC λζ=>?_;obtain ⟨v,st1,q,r1⟩:=h cs l st _ q;refine Q3 (Q1x (W:=W) q) ?_;intro it q r2;refine ζ ?_;refine Q9 it st1 q (λA env X μ s I N=>(r1 A env X μ s I N).step λμ' s' x e z=>r2 z.1 z.2 (N.ext e).there λJ h' hk F=>?_);have e2:Ext μ' s' μ' { s' with heap:=h' }:=.kept (t:=s'.toks) hk;refine I2_4 J μ' rfl (e.trans e2) (z.1.kept (t:=s'.toks) hk) ⟨Y3 (λo q=>?_) F.fresh,F.free,F.new,F.ne,F.is⟩;exact e.keep _ _ q λp a d m=>F.free p a d (e.sub _ _ m)
theorem Rs (w:Wf W){a:E}{ea:Expr}{r:Str}{p pos:Pos}(h:SE W C (ev a) (eval ea))(hs:Z5 ea=true)(hr:J9 W r (.type "range")=true)(kr:∀ A env,C A env->env.kindOf r=some .globalImplicit)(dr:(r==("__debug__":Str))=false) :
  SIt W C true (ev a) (.Call (.Name r p) [ea] [] pos):=λcs l st k q=>by
 refine byC λζ=>?_;obtain ⟨v,st1,q,r1⟩:=h cs l st _ q;refine Q3 (L9 (show C2 v _=true from q)) ?_;intro n ee1 q2;subst ee1;refine ζ ?_;refine Q6 (bT q2) ?_;intro lt q2
 ·have lt:n<1000000:=Nat.le_of_ble_eq_true lt
  refine Q9 _ st1 q2 (λA env X μ s I N=>wpAny_Call_Name_kw (B6 w I N hr (kr A env X) dr ?_))
  show wpAny _ _ (PySem.callWith pos (.type "range") [] (backTo pos (starEach [ea] env)) []) _ _ _
  rw [Z4 hs];refine PySem.callWith_type rfl (evalArgs_plain (spliced_cons ((r1 A env X μ s I N).step λμ' s' y e z=>spliced_nil ?_)));refine Q6 z ?_;intro z1 z2
  induction z2 using VR.intE
  refine call_range_1 ?_;refine wpAny_pyIter_range (IsRange.new ..) (small_one (by decide) (by decide) (by lia) (by lia)) ?_;have k1:∀ (ob ob':Obj)(b:Addr)(o:Obj),s'.heap.get? b=some o->((s'.heap.push ob).push ob').get? b=some o:=λU U b o e=>Heap.get?_push_of_some _ (Heap.get?_push_of_some _ e);have sz:∀ (ob:Obj),s'.heap.get? (s'.heap.push ob).objs.size=none:=λob=>Heap.get?_none_of_le (by rw [Heap.size_push];lia);have e2:=λob ob'=>Ext.kept (μ:=μ') (s:=s') (t:=s'.toks+1+1) (k1 ob ob');have I2:=λob ob'=>z1.kept (t:=s'.toks+1+1) (k1 ob ob');refine I2_4 _ μ' rfl (e.trans (e2 _ _)) (I2 _ _) ⟨Y3 (λo q=>e.keep _ _ q ?_) (sz _),D4 z1 (sz _),R2 z1 (sz _),λq=>(N.ext e).there (q▸sz _),.range (Nat.zero_le _) ?_⟩
  ·exact λp a d m=>D4 z1 (sz _) p a d (e.sub _ _ m)
  ·have e3:Builtin.Range.rangeSize 0 n 1=(n:Int):=by rw [rangeSize_one];split <;> lia
   have e4:(n:Int) - ((0:Nat):Int)=n:=by lia
   have this:∀ (ob:Obj),IsRangeIter ((s'.heap.push ob).push { cls:=.type "range_iterator",data:=.fields #[rawInt 0,rawInt (Builtin.Range.rangeSize 0 n 1),rawInt 1] }) (s'.heap.push ob).objs.size ((0:Nat):Int) ((n:Int) - ((0:Nat):Int)) 1:=λob=>by
    rw [e4,e3];exact Heap.get?_push_size _ rfl
   exact this _
noncomputable def K5 (x:Expr):Bool:=by
 induction x using PySem.Expr.casesOn with
 | Set=>exact false
 | _=>exact true
theorem Qv {env:Env}{iter:Expr}(h:K5 iter=true)(x:Value):foldedSetIterable iter env x=pure x:=by induction iter using PySem.Expr.casesOn <;> first | rfl | cases h
theorem ss_for (w:Wf W)(hh:∀ A env,C A env->A.handled=none){rng:Bool}{it:E}{tg:Tg}{body:List S}{t iter:Expr}{bs:List Stmt}{pos:Pos}(hi:SIt W C rng (ev it) iter)(hn:K5 iter=true)(TG:TgR W C tg t)(B:SSs W C ex body bs) :
  SS W C (sFor ev ex rng it tg body) (exec (.For t iter bs [] pos)):=λcs l st k q=>by
 refine byC λζ=>?_;refine Q7 (hi cs l st (λi s=>Rk ex tg body cs O9 i l s k) q) ?_;intro i st1 q r1;refine Q7 (Ba w hh TG B q) ?_;intro f st2 q r2;refine ζ ?_;refine Q9 f st2 q (λA env X μ s I N=>wpAny_For (wpAny_mono (r1 A env X μ s I N) (λx s₁ h₁=>wpAny_mono h₁ (λi s₂ h₂=>?_) λU U x=>x) λU U x=>x) (Qv hn));refine Q6k h₂ ?_;intro J μ' ee2 e I' F;subst ee2;exact codeAny_mono (r2 X (e.l N.free) I' (N.ext e) F) λr s' z=>by
  induction r using Except.casesOn with
  | ok x=>exact z
  | error x=>exact z.elim
theorem Q1y {c:E}{ec:Expr}{body:List S}{bs:List Stmt}{pos:Pos}(CC:SB W C (ev c) (λenv=>isTrue ec env (eval ec env)))(B:SSs W C ex body bs) :
  SS W C (Q0x ev ex c body) (exec (.While ec bs [] pos)):=λcs l st k q=>by
 refine Q7 (Zr CC B (show Gn ev ex c body cs O9 l st k=true from q)) ?_;intro f st2 q r2;exact ⟨f,st2,q,λA env X μ s I N=>wpAny_While (codeAny_mono (r2 X (.refl ..) I N) λr s' z=>by
  induction r using Except.casesOn with
  | ok x=>exact z
  | error x=>exact z.elim)⟩
end
end
section
variable {W:Wd}
section
variable {C:Cls}{ev:Ev}{ex:Ex}
set_option tactic.hygienic true in
theorem ss_try {body fin:List S}{bs fs:List Stmt}{f₀:Stmt}{pos:Pos}(B:SSs W C ex body bs)(FI:SSs W C ex fin (f₀ :: fs)):SS W C (sTry ex body fin) (exec (.Try bs [] [] (f₀ :: fs) pos)):=λcs l st k q=>by
 refine Q7 (B.run cs l st _ q) ?_;intro f st1 q r1
 induction f using F.casesOn with
 | next l1 =>
  refine Q7 (FI.run cs l1 st1 _ q) ?_;intro g st2 q r2
  induction g using F.casesOn <;> first | exact ff q | (cases q;done) | skip
  rename_i l2;refine Q9 (.next l2) st2 q (λA env X μ s I N=>wpAny_Try_finally ((r1 A env X μ s I N).step λμ' s' x e z=>?_));refine Q6 z ?_;intro z1 z2
  induction z2 using FlR.nextE with
  | next N1 =>
   refine wpAny_execs_nil ((r2 A env X μ' s' z1 N1).step λμ2 s2 y e2 z2=>?_);refine Q6 z2 ?_;intro z3 z4
   induction z4 using FlR.nextE with
   | next N2=>exact J6 μ2 (e.trans e2) z3 (.next N2)
 | ret v l1 =>
  refine Q7 (FI.run cs l1 st1 _ q) ?_;intro g st2 q r2
  induction g using F.casesOn <;> first | exact ff q | (cases q;done) | skip
  rename_i l2;refine Q9 (.ret v l2) st2 q (λA env X μ s I N=>wpAny_Try_finally ((r1 A env X μ s I N).step λμ' s' x e z=>?_));refine Q6 z ?_;intro z1 z2
  induction z2 using FlR.retE with
  | ret N1 rv =>
   refine (r2 A env X μ' s' z1 N1).step λμ2 s2 y e2 z2=>?_;refine Q6 z2 ?_;intro z3 z4
   induction z4 using FlR.nextE with
   | next N2=>exact J6 μ2 (e.trans e2) z3 (.ret N2 (rv.mono e2.sub))
 | brk=>first | exact ff q | cases q
 | cont=>first | exact ff q | cases q
set_option tactic.hygienic true in
theorem Q7z {body fin:List S}{bs fs:List Stmt}{f₀:Stmt}{h₀:ExceptHandler}{hs:List ExceptHandler}{pos:Pos}(B:SSs W C ex body bs)(FI:SSs W C ex fin (f₀ :: fs)):SS W C (sTry ex body fin) (exec (.Try bs (h₀ :: hs) [] (f₀ :: fs) pos)):=λcs l st k q=>by
 refine Q7 (B.run cs l st _ q) ?_;intro f st1 q r1
 induction f using F.casesOn with
 | next l1 =>
  refine Q7 (FI.run cs l1 st1 _ q) ?_;intro g st2 q r2
  induction g using F.casesOn <;> first | exact ff q | (cases q;done) | skip
  rename_i l2;refine Q9 (.next l2) st2 q (λA env X μ s I N=>wpAny_Try_except_finally ((r1 A env X μ s I N).step λμ' s' x e z=>?_));refine Q6 z ?_;intro z1 z2
  induction z2 using FlR.nextE with
  | next N1 =>
   refine wpAny_execs_nil ((r2 A env X μ' s' z1 N1).step λμ2 s2 y e2 z2=>?_);refine Q6 z2 ?_;intro z3 z4
   induction z4 using FlR.nextE with
   | next N2=>exact J6 μ2 (e.trans e2) z3 (.next N2)
 | ret v l1 =>
  refine Q7 (FI.run cs l1 st1 _ q) ?_;intro g st2 q r2
  induction g using F.casesOn <;> first | exact ff q | (cases q;done) | skip
  rename_i l2;refine Q9 (.ret v l2) st2 q (λA env X μ s I N=>wpAny_Try_except_finally ((r1 A env X μ s I N).step λμ' s' x e z=>?_));refine Q6 z ?_;intro z1 z2
  induction z2 using FlR.retE with
  | ret N1 rv =>
   refine (r2 A env X μ' s' z1 N1).step λμ2 s2 y e2 z2=>?_;refine Q6 z2 ?_;intro z3 z4
   induction z4 using FlR.nextE with
   | next N2=>exact J6 μ2 (e.trans e2) z3 (.ret N2 (rv.mono e2.sub))
 | brk=>first | exact ff q | cases q
 | cont=>first | exact ff q | cases q
end
end
section
section
variable {prog:Program}{w:World}{A:Around}{s:Shared}{R:Result->Shared->Prop}
theorem P6 {elt:Expr}{gens:List Comprehension}{scope:Scope}{pos:Pos}{d:Nat}{it acc:Value}{env:Env}{target iter:Expr}{ifs:List Expr}(hg:gens[d]?=some ⟨target,iter,ifs,0⟩)
  (h0:codeAny (model prog w) A (.compLoop (.ListComp elt gens scope pos) d it acc env) R s)
  (h:wpAny (model prog w) A (pyIter it) (λit' s'=>codeAny (model prog w) A (.compLoop (.ListComp elt gens scope pos) d it' acc env) R s') Z3 s) :
  codeAny (model prog w) A (.compStart (.ListComp elt gens scope pos) d it acc env) R s:=by
 refine codeAny_of_tree ?_
 show wpAny _ _ ((compStart (.ListComp elt gens scope pos) d it acc env).onRaise (λx=>do noteFrame x env;standAt theWindowsPlace)) _ _ s
 refine wpAny_notedAt ?_;unfold compStart;have e1:((clausesOf (.ListComp elt gens scope pos))[d]?)=some ⟨target,iter,ifs,0⟩:=hg;rw [e1]
 show wpAny _ _ (ask >>= _) _ _ s
 refine wpAny_bind (wpAny_askSetting (wpAny_ite ?_))
 split
 ·first
   | exact wpAny_bind (wpAny_pure (wpAny_pure (And.intro rfl h0)))
   | exact wpAny_pure (And.intro rfl h0)
 ·first
   | exact wpAny_bind (wpAny_rule (wpAny_bind (wpAny_standAt (wpAny_bind (wpAny_mono h (λit' s' h'=>wpAny_pure (And.intro rfl h')) λU U x=>x.elim)))))
   | (refine wpAny_bind (wpAny_rule ?_);show wpAny _ _ (standAt iter.pos >>= _) _ _ s;exact wpAny_bind (wpAny_standAt (wpAny_bind (wpAny_mono h (λit' s' h'=>wpAny_pure (And.intro rfl h')) λU U x=>x.elim))))
theorem Dx {elt:Expr}{gens:List Comprehension}{scope:Scope}{pos:Pos}{d:Nat}{it acc:Value}{env:Env}{target iter:Expr}{ifs:List Expr}(hg:gens[d]?=some ⟨target,iter,ifs,0⟩)(hn:gens[d+1]?=none) :
  compTurn (.ListComp elt gens scope pos) d it acc env=(do
   standAt iter.pos
   match <-pyNext it with
   | none=>pure (.done .next)
   | some v =>
    letOwnedTupleGo target it v
    assign target env v
    let mut ok:=true
    for c in ifs do
     if ok then ok <-isTrue c env (eval c env)
    if ok then
     (do let _ <-call (.builtin "list.append") [acc,<-eval elt env])
    again (.compLoop (.ListComp elt gens scope pos) d it acc env)):=by
 unfold compTurn;dsimp only;rw [hg,hn]
 rfl
theorem Dy {elt:Expr}{gens:List Comprehension}{scope:Scope}{pos:Pos}{d:Nat}{it acc:Value}{env:Env}{target iter t' i':Expr}{ifs ifs':List Expr}(hg:gens[d]?=some ⟨target,iter,ifs,0⟩)(hn:gens[d+1]?=some ⟨t',i',ifs',0⟩) :
  compTurn (.ListComp elt gens scope pos) d it acc env=(do
   standAt iter.pos
   match <-pyNext it with
   | none=>pure (.done .next)
   | some v =>
    letOwnedTupleGo target it v
    assign target env v
    let mut ok:=true
    for c in ifs do
     if ok then ok <-isTrue c env (eval c env)
    if ok then
     let x <-eval i' env
     standAt i'.pos
     let x <-foldedSetIterable i' env x
     let _ <-runOwn (.compStart (.ListComp elt gens scope pos) (d+1) (<-holding [x] (pyIter x)) acc env) env
    again (.compLoop (.ListComp elt gens scope pos) d it acc env)):=by
 unfold compTurn;dsimp only;rw [hg,hn]
 rfl
theorem Rt {elt:Expr}{gens:List Comprehension}{scope:Scope}{pos:Pos}{d:Nat}{it acc:Value}{env:Env}{target iter:Expr}{ifs:List Expr}(hg:gens[d]?=some ⟨target,iter,ifs,0⟩)(hn:gens[d+1]?=none)
  (turn:wpAny (model prog w) A (pyNext it) (λr s₁=>match r with
   | none=>R (.ok .next) s₁
   | some v=>wpAny (model prog w) A (letOwnedTupleGo target it v) (λU s₁'=>wpAny (model prog w) A (assign target env v) (λU s₂ =>
     wpAny (model prog w) A (forIn ifs true λc r=>if r=true then do let ok <-isTrue c env (eval c env);pure (ForInStep.yield ok) else pure (ForInStep.yield r)) (λok s₃ =>
      if ok=true then wpAny (model prog w) A (eval elt env) (λx s₄=>wpAny (model prog w) A (call (.builtin "list.append") [acc,x]) (λU s₅=>codeAny (model prog w) A (.compLoop (.ListComp elt gens scope pos) d it acc env) R s₅) Z3 s₄) Z3 s₃
      else codeAny (model prog w) A (.compLoop (.ListComp elt gens scope pos) d it acc env) R s₃) Z3 s₂) Z3 s₁') Z3 s₁) Z3 s) :
  codeAny (model prog w) A (.compLoop (.ListComp elt gens scope pos) d it acc env) R s:=by
 refine codeAny_of_tree ?_
 show wpAny _ A ((compTurn (.ListComp elt gens scope pos) d it acc env).onRaise (λx=>do noteFrame x env;theTreesLotGoes x)) _ _ s
 refine wpAny_noted ?_;rw [Dx hg hn];refine wpAny_bind (wpAny_standAt (wpAny_bind (wpAny_mono turn (λr s₁ h₁=>?_) λU U h'=>h'.elim)))
 induction r using Option.casesOn with
 | none=>exact wpAny_pure h₁
 | some v =>
  refine wpAny_bind (wpAny_mono h₁ (λU s₁' h₁'=>?_) λU U h'=>h'.elim);refine wpAny_bind (wpAny_mono h₁' (λU s₂ h₂=>wpAny_bind (wpAny_mono h₂ (λok s₃ h₃=>?_) λU U h'=>h'.elim)) λU U h'=>h'.elim)
  induction ok using Bool.casesOn with
  | false=>exact wpAny_pure ⟨rfl,h₃⟩
  | true =>
   exact wpAny_bind (wpAny_bind (wpAny_mono h₃ (λx s₄ h₄=>wpAny_bind (wpAny_mono h₄ (λU s₅ h₅=>wpAny_pure (wpAny_pure ⟨rfl,h₅⟩)) λU U h'=>h'.elim)) λU U h'=>h'.elim))
theorem Ru {elt:Expr}{gens:List Comprehension}{scope:Scope}{pos:Pos}{d:Nat}{it acc:Value}{env:Env}{target iter t' i':Expr}{ifs ifs':List Expr}(hg:gens[d]?=some ⟨target,iter,ifs,0⟩)(hn:gens[d+1]?=some ⟨t',i',ifs',0⟩)
  (hs:∀ x,foldedSetIterable i' env x=pure x)
  (turn:wpAny (model prog w) A (pyNext it) (λr s₁=>match r with
   | none=>R (.ok .next) s₁
   | some v=>wpAny (model prog w) A (letOwnedTupleGo target it v) (λU s₁'=>wpAny (model prog w) A (assign target env v) (λU s₂ =>
     wpAny (model prog w) A (forIn ifs true λc r=>if r=true then do let ok <-isTrue c env (eval c env);pure (ForInStep.yield ok) else pure (ForInStep.yield r)) (λok s₃ =>
      if ok=true then wpAny (model prog w) A (eval i' env) (λx s₄=>wpAny (model prog w) A (pyIter x) (λit' s₅=>codeAny (model prog w) A (.compStart (.ListComp elt gens scope pos) (d+1) it' acc env)
        (λr s₆=>match r with | .ok _=>codeAny (model prog w) A (.compLoop (.ListComp elt gens scope pos) d it acc env) R s₆ | .error _=>False) s₅) Z3 s₄) Z3 s₃
      else codeAny (model prog w) A (.compLoop (.ListComp elt gens scope pos) d it acc env) R s₃) Z3 s₂) Z3 s₁') Z3 s₁) Z3 s) :
  codeAny (model prog w) A (.compLoop (.ListComp elt gens scope pos) d it acc env) R s:=by
 refine codeAny_of_tree ?_
 show wpAny _ A ((compTurn (.ListComp elt gens scope pos) d it acc env).onRaise (λx=>do noteFrame x env;theTreesLotGoes x)) _ _ s
 refine wpAny_noted ?_;rw [Dy hg hn];refine wpAny_bind (wpAny_standAt (wpAny_bind (wpAny_mono turn (λr s₁ h₁=>?_) λU U h'=>h'.elim)))
 induction r using Option.casesOn with
 | none=>exact wpAny_pure h₁
 | some v =>
  refine wpAny_bind (wpAny_mono h₁ (λU s₁' h₁'=>?_) λU U h'=>h'.elim);refine wpAny_bind (wpAny_mono h₁' (λU s₂ h₂=>wpAny_bind (wpAny_mono h₂ (λok s₃ h₃=>?_) λU U h'=>h'.elim)) λU U h'=>h'.elim)
  induction ok using Bool.casesOn with
  | false=>exact wpAny_pure ⟨rfl,h₃⟩
  | true =>
   refine wpAny_bind (wpAny_mono h₃ (λx s₄ h₄=>wpAny_bind (wpAny_standAt (wpAny_bind (wpAny_of_eq (hs x) (wpAny_bind (wpAny_holding (wpAny_mono h₄ (λit' s₅ h₅=>?_) λU U h'=>h'.elim))))))) λU U h'=>h'.elim);refine wpAny_bind (wpAny_runOwn ?_);rw [Around.mark_none];refine codeAny_mono h₅ λr s₆ h₆=>?_
   induction r using Except.casesOn with
   | ok f=>exact wpAny_pure ⟨rfl,h₆⟩
   | error x=>exact h₆.elim
end
variable {W:Wd}
theorem Tn {prog:Program}{w:World}{A:Around}{μ:Mp}{s:Shared}{I:Addr}{it:It}{E:Value->Shared->Prop}{Q:Value->Shared->Prop}(r:ItR μ s.heap I it)(q:Q (.ref I) s):wpAny (model prog w) A (pyIter (.ref I)) Q E s:=by
 cases r with
 | list m x=>exact wpAny_pyIter_listiter x q
 | tup m x=>exact wpAny_pyIter_tupleiter x q
 | range le x=>exact wpAny_pyIter_rangeiter x q
end
section
variable {W:Wd}
noncomputable def Inside (prog:Program)(w:World)(A:Around)(elt:Expr)(gens:List Comprehension)(scope:Scope)(pos:Pos)(d:Nat)(accv:Value)(env:Env)(T:Shared->Prop)(s:Shared):Prop :=
 match gens[d+1]? with
 | none=>wpAny (model prog w) A (eval elt env) (λx s₄=>wpAny (model prog w) A (call (.builtin "list.append") [accv,x]) (λU s₅=>T s₅) Z3 s₄) Z3 s
 | some g=>wpAny (model prog w) A (eval g.iter env) (λx s₄=>wpAny (model prog w) A (pyIter x) (λit' s₅=>codeAny (model prog w) A (.compStart (.ListComp elt gens scope pos) (d+1) it' accv env)
   (λr s₆=>match r with | .ok _=>T s₆ | .error _=>False) s₅) Z3 s₄) Z3 s
noncomputable def H9 (g:Comprehension):Bool:=match g with | ⟨_,iter,_,a⟩=>a==0&&K5 iter
theorem Tp {prog:Program}{w:World}{A:Around}{s:Shared}{R:Result->Shared->Prop}{elt:Expr}{gens:List Comprehension}{scope:Scope}{pos:Pos}{d:Nat}{it acc:Value}{env:Env}{target iter:Expr}{ifs:List Expr}(hg:gens[d]?=some ⟨target,iter,ifs,0⟩)
  (hn:∀ g,gens[d+1]?=some g->H9 g=true)
  (turn:wpAny (model prog w) A (pyNext it) (λr s₁=>match r with
   | none=>R (.ok .next) s₁
   | some v=>wpAny (model prog w) A (letOwnedTupleGo target it v) (λU s₁'=>wpAny (model prog w) A (assign target env v) (λU s₂ =>
     wpAny (model prog w) A (forIn ifs true λc r=>if r=true then do let ok <-isTrue c env (eval c env);pure (ForInStep.yield ok) else pure (ForInStep.yield r)) (λok s₃ =>
      if ok=true then Inside prog w A elt gens scope pos d acc env (λs₅=>codeAny (model prog w) A (.compLoop (.ListComp elt gens scope pos) d it acc env) R s₅) s₃
      else codeAny (model prog w) A (.compLoop (.ListComp elt gens scope pos) d it acc env) R s₃) Z3 s₂) Z3 s₁') Z3 s₁) Z3 s) :
  codeAny (model prog w) A (.compLoop (.ListComp elt gens scope pos) d it acc env) R s:=by
 unfold Inside at turn;cases e:gens[d+1]? with
 | none=>rw [e] at turn;exact Rt hg e turn
 | some g =>
  rw [e] at turn;have:=hn g e;refine byC λζ=>?_;obtain ⟨t',i',ifs',a⟩:=g;unfold H9 at this;simp only [Bool.and_eq_true,beq_iff_eq] at this;refine Q6 this ?_;intro ee0 h2;subst ee0;refine ζ ?_;exact Ru hg e (Qv h2) turn
inductive CoR (W:Wd)(C:Cls)(ev:Ev):Option E->List Expr->Prop
 | none:CoR W C ev none []
 | some {c:E}{x:Expr}(h:SB W C (ev c) (λenv=>isTrue x env (eval x env))):CoR W C ev (some c) [x]
inductive CR (W:Wd)(C:Cls)(ev:Ev)(elt:Expr):E->List Comprehension->Prop
 | emit {e:E}(h:SE W C (ev e) (eval elt)):CR W C ev elt (.emit e) []
 | comp {rng:Bool}{it nxt:E}{tg:Tg}{cond:Option E}{t iter:Expr}{ifs:List Expr}{rest:List Comprehension}(hi:SIt W C rng (ev it) iter)(hn:K5 iter=true)(ht:TgR W C tg t)(co:CoR W C ev cond ifs)(nx:CR W C ev elt nxt rest) :
  CR W C ev elt (.comp rng it tg cond nxt) (⟨t,iter,ifs,0⟩ :: rest)
theorem CR.plain {C:Cls}{ev:Ev}{elt:Expr}{nxt:E}{rest:List Comprehension}(h:CR W C ev elt nxt rest):∀ g,rest.head?=some g->H9 g=true:=by
 cases h with
 | emit=>intro g h;cases h
 | comp hi hn=>intro g h;cases h;unfold H9;simp [hn]
section
variable {C:Cls}{ev:Ev}
theorem CoR.run {cond:Option E}{ifs:List Expr}(h:CoR W C ev cond ifs){cs:Q4}{l:Loc}{st:St}{k:Bool->St->R}(q:Q0t ev cond cs l st k=true):∃ b st',k b st'=true /\
  ∀ {A:Around}{env:Env}{μ:Mp}{s:Shared},C A env->Inv W μ st s->EnvR W μ s env cs l->Run W A μ s (forIn ifs true λc r=>if r=true then do let ok <-PySem.isTrue c env (eval c env);pure (ForInStep.yield ok) else pure (ForInStep.yield r)) λμ' s' x=>Inv W μ' st' s'/\x=b:=by
 cases h with
 | none=>exact Q9 true st q (λ{A env μ s} X I N=>wpAny_tests_nil ⟨μ,.refl ..,I,rfl⟩)
 | some h =>
  refine byC λζ=>?_;refine Q7 (h cs l st _ q) ?_;intro v st1 q r1;refine Q3 (G1 q) ?_;intro b hb q;refine ζ ?_;exact Q9 b st1 q (λ{A env μ s} X I N=>wpAny_tests_one (r1 b hb A env X μ s I N))
variable {elt:Expr}{gens:List Comprehension}{scope:Scope}{pos:Pos}
abbrev Nx:=E->P->Q4->Loc->St->(Loc->St->R)->R
noncomputable def Ad (W:Wd)(C:Cls)(elt:Expr)(gens:List Comprehension)(scope:Scope)(pos:Pos)(nx:Nx)(nxt:E)(d:Nat):Prop:=∀ {acc:P}{cs:Q4}{l:Loc}{st:St}{k:Loc->St->R},nx nxt acc cs l st k=true->∃ l' st',k l' st'=true /\
 ∀ {A:Around}{env:Env}{μ:Mp}{s:Shared}{accv:Value},C A env->Inv W μ st s->EnvR W μ s env cs l->VR W μ (.ref acc) accv ->
  Inside W.prog W.w A elt gens scope pos d accv env (λs'=>∃ μ',ExtL env.locals μ s μ' s'/\Inv W μ' st' s'/\EnvR W μ' s' env cs l') s
theorem Inside.mono {prog:Program}{w:World}{A:Around}{env:Env}{d:Nat}{accv:Value}{T U:Shared->Prop}{s:Shared}(h:Inside prog w A elt gens scope pos d accv env T s)(k:∀ s,T s->U s):Inside prog w A elt gens scope pos d accv env U s:=by
 unfold Inside at *;cases e:gens[d+1]? with
 | none=>rw [e] at h;exact wpAny_mono h (λU U h=>wpAny_mono h (λU U h=>k _ h) λU U x=>x) λU U x=>x
 | some g=>rw [e] at h;exact wpAny_mono h (λU U h=>wpAny_mono h (λU U h=>codeAny_mono h λr s z=>by induction r using Except.casesOn with | ok=>exact k _ z | error=>exact z) λU U x=>x) λU U x=>x
noncomputable def CompR (W:Wd)(env:Env)(cs:Q4)(μ₀:Mp)(s₀:Shared)(μc:Mp)(l':Loc)(st':St)(r:Result)(s':Shared):Prop:=match r with
 | .ok _=>∃ μ',ExtL env.locals μ₀ s₀ μ' s'/\(∀ p x,μc p=some x->μ' p=some x)/\Inv W μ' st' s'/\EnvR W μ' s' env cs l'
 | .error _=>False
theorem Qw (w:Wf W)(hh:∀ A env,C A env->A.handled=none){tg:Tg}{t iter:Expr}{cond:Option E}{ifs:List Expr}{nx:Nx}{nxt:E}{d:Nat}{acc:P}(hg:gens[d]?=some ⟨t,iter,ifs,0⟩)(hn:∀ g,gens[d+1]?=some g->H9 g=true)(TG:TgR W C tg t)(CO:CoR W C ev cond ifs)
  (IO:Ad W C elt gens scope pos nx nxt d):∀ {n:Nat}{cs:Q4}{it:It}{l:Loc}{st:St}{k:Loc->St->R},Kv ev nx tg cond nxt acc cs n it l st k=true ->
  ∃ l' st',k l' st'=true/\∀ {A:Around}{env:Env}{μ₀ μ:Mp}{s₀ s:Shared}{I:Addr}{accv:Value},C A env->ExtL env.locals μ₀ s₀ μ s->Inv W μ st s->EnvR W μ s env cs l->ItF W env.locals s₀ μ s I it->VR W μ (.ref acc) accv ->
   codeAny (model W.prog W.w) A (.compLoop (.ListComp elt gens scope pos) d (.ref I) accv env) (CompR W env cs μ₀ s₀ μ l' st') s
 | 0,_,_,_,_,_,h=>by first | exact ff h | cases h
 | n+1,cs,it,l,st,k,h=>by
  rcases Ys (W:=W) (show I4 it st (λU=>k l st) (λv it=>P1 cs l st tg v λl s=>Q0t ev cond cs l s λb s=>ifB b (nx nxt acc cs l s λl s=>Kv ev nx tg cond nxt acc cs n it l s k) (Kv ev nx tg cond nxt acc cs n it l s k))=true from h) with ⟨h1,r1⟩ | ⟨v,it',h1,r1⟩
  ·refine Q9 l st h1 (λ{A env μ₀ μ s₀ s I accv} X e IV N F av=>Tp hg hn (r1 (hh A env X) IV F.is λh' x=>?_))
   exact ⟨μ,e.step (t:=s.toks) F.fresh F.ne x,λU U h=>h,IV.iter (t:=s.toks) F.free F.new x,N.iter (t:=s.toks) F.ne x⟩
  ·refine byC λζ=>?_;refine Q7 (TG.run w h1) ?_;intro l1 st1 h2 r2
   refine Q7 (CO.run h2) ?_;intro b st2 h3 r3;refine ζ ?_;have pre:∀ {A:Around}{env:Env}{μ₀ μ:Mp}{s₀ s:Shared}{I:Addr}{accv:Value}{RR:Result->Shared->Prop},C A env->ExtL env.locals μ₀ s₀ μ s->Inv W μ st s->EnvR W μ s env cs l->ItF W env.locals s₀ μ s I it ->
     (∀ μ' s',ExtL env.locals μ₀ s₀ μ' s'->(∀ p x,μ p=some x->μ' p=some x)->ItF W env.locals s₀ μ' s' I it'->Inv W μ' st2 s'->EnvR W μ' s' env cs l1 ->
      if b=true then Inside W.prog W.w A elt gens scope pos d accv env (λs₅=>codeAny (model W.prog W.w) A (.compLoop (.ListComp elt gens scope pos) d (.ref I) accv env) RR s₅) s'
      else codeAny (model W.prog W.w) A (.compLoop (.ListComp elt gens scope pos) d (.ref I) accv env) RR s')->codeAny (model W.prog W.w) A (.compLoop (.ListComp elt gens scope pos) d (.ref I) accv env) RR s:=by
    intro A env μ₀ μ s₀ s I accv RR X e IV N F q;refine Tp hg hn (r1 IV F.is λh' tk x xb ir rv=>?_);have e1:=e.step (t:=tk) F.fresh F.ne xb;have I1:=IV.iter (t:=tk) F.free F.new xb;have N1:=N.iter (t:=tk) F.ne xb;have F1:ItF W env.locals s₀ μ { s with heap:=h',toks:=tk } I it':=⟨F.fresh,F.free,F.new,F.ne,ir⟩;refine Qu (M:=model W.prog W.w) (s:={ s with heap:=h',toks:=tk }) ir ?_;refine (r2 X (hh A env X) I1 N1 rv).step λμ2 s2 U e2 z2=>?_;refine (r3 X z2.1 z2.2).step λμ3 s3 y e3 z3=>?_;obtain ⟨z3,rfl⟩:=z3;have e3':=e3.l (L:=env.locals) z2.2.free;exact q μ3 s3 (e1.trans (e2.trans e3')) (e2.trans e3').sub ((F1.ext e2).ext e3') z3 (z2.2.ext e3)
   induction b using Bool.casesOn with
   | false =>
    refine Q7 (Qw w hh hg hn TG CO IO (show Kv ev nx tg cond nxt acc cs n it' l1 st2 k=true from h3)) ?_;intro l4 st4 h4 r4;refine Q9 l4 st4 h4 (λ{A env μ₀ μ s₀ s I accv} X e IV N F av=>pre X e IV N F λμ' s' e' sb F' I' N'=>codeAny_mono (r4 X e' I' N' F' (av.mono sb)) λr s z=>?_)
    induction r using Except.casesOn with
    | ok=>obtain ⟨μ5,a,b,c⟩:=z;exact ⟨μ5,a,λp x h=>b _ _ (sb _ _ h),c⟩
    | error=>exact z
   | true =>
    refine byC λζ=>?_;refine Q7 (IO (show nx nxt acc cs l1 st2 _=true from h3)) ?_;intro l3 st3 h4 r4;refine Q7 (Qw w hh hg hn TG CO IO h4) ?_;intro l4 st4 h5 r5;refine ζ ?_;refine Q9 l4 st4 h5 (λ{A env μ₀ μ s₀ s I accv} X e IV N F av=>pre X e IV N F λμ' s' e' sb F' I' N'=>?_);refine (r4 X I' N' (av.mono sb)).mono λs₅ ⟨μ5,e5,I5,N5⟩=>codeAny_mono (r5 X (e'.trans e5) I5 N5 (F'.ext e5) (av.mono λp x h=>e5.sub _ _ (sb _ _ h))) λr s z=>?_
    induction r using Except.casesOn with
    | ok=>obtain ⟨μ6,a,b,c⟩:=z;exact ⟨μ6,a,λp x h=>b _ _ (e5.sub _ _ (sb _ _ h)),c⟩
    | error=>exact z
theorem Rv (w:Wf W)(hh:∀ A env,C A env->A.handled=none){nxt:E}{rest:List Comprehension}(h:CR W C ev elt nxt rest):∀ {nf d:Nat},gens.drop (d+1)=rest->Ad W C elt gens scope pos (inner ev nf) nxt d:=by
 induction h with
 | emit h =>
  intro nf d hd acc cs l st k q
  induction nf using Nat.casesAuxOn with
  | zero=>first | exact ff q | cases q
  | succ nf =>
   refine byC λζ=>?_;obtain ⟨v,st1,q,r1⟩:=h cs l st _ q;refine Q3 (B0 (show X1 st1 acc _=true from q)) ?_;intro o ho q;refine Q3 (B8 q) ?_;intro xs ee1 q;subst ee1;refine Q3 (Gs (W:=W) ho q) ?_;intro st2 q r2;refine ζ ?_;refine Q9 l st2 q (λ{A env μ s accv} X I N av=>?_);have e0:gens[d+1]?=none:=by rw [<-List.head?_drop,hd];rfl
   unfold Inside;rw [e0];refine (r1 A env X μ s I N).step λμ' s' x e z=>(r2 z.1 (av.mono e.sub) z.2).step λμ2 s2 y e2 z2=>?_;exact J6 μ2 ((e.trans e2).l N.free) z2.1 (N.ext (e.trans e2))
 | @comp rng it nxt tg cond t iter ifs rest hi hn ht co nx ih =>
  intro nf d hd acc cs l st k q
  induction nf using Nat.casesAuxOn with
  | zero=>first | exact ff q | cases q
  | succ nf =>
   refine byC λζ=>?_;refine Q7 (hi cs l st (λi s=>Kv ev (inner ev nf) tg cond nxt acc cs O9 i l s k) q) ?_;intro i st1 q r1;have hg:gens[d+1]?=some ⟨t,iter,ifs,0⟩:=by rw [<-List.head?_drop,hd];rfl
   have hd2:gens.drop (d+1+1)=rest:=by rw [<-List.tail_drop,hd];rfl
   have hn2:∀ g,gens[d+1+1]?=some g->H9 g=true:=λg h=>nx.plain g (by rw [<-hd2,List.head?_drop];exact h);refine Q7 (Qw (scope:=scope) (pos:=pos) w hh hg hn2 ht co (ih hd2) q) ?_;intro l2 st2 q r2;refine ζ ?_;refine Q9 l2 st2 q (λ{A env μ s accv} X I N av=>?_);unfold Inside;rw [hg];refine wpAny_mono (r1 A env X μ s I N) (λx s₁ h₁=>wpAny_mono h₁ (λi s₂ h₂=>?_) λU U x=>x) λU U x=>x;refine Q6k h₂ ?_;intro J μ' ee2 e I' F;subst ee2;have lp:=r2 X (e.l N.free) I' (N.ext e) F (av.mono e.sub);have lp2:=codeAny_mono lp (R':=λr s₆=>match r with | .ok _=>∃ μ',ExtL env.locals μ s μ' s₆/\Inv W μ' st2 s₆/\EnvR W μ' s₆ env cs l2 | .error _=>False) λr s' z=>(by induction r using Except.casesOn with | ok=>(obtain ⟨μ6,a,b,c⟩:=z;exact Z0 μ6 a c) | error=>exact z);exact P6 hg lp2 (Tn F.is lp2)
end
end
section
variable {W:Wd}
set_option tactic.hygienic true in
theorem Kb {env:Env}:∀ (names:List (Str × NameKind))(acc:List (Str × Addr)),(∀ x∈names,x.2=.free->(env.cells.lookup x.1).isSome=true)->∃ cl,
  forIn names acc (λ(x:Str × NameKind)(cs:List (Str × Addr))=>(if x.2==.free then do let c <-cellOf env x.1;pure (ForInStep.yield ((x.1,c) :: cs)) else pure (ForInStep.yield cs):Sem (ForInStep (List (Str × Addr)))))=pure cl /\
  (∀ n a,cl.lookup n=some a->acc.lookup n=some a\/env.cells.lookup n=some a)/\(∀ n,(acc.lookup n).isSome=true->(cl.lookup n).isSome=true)/\(∀ x∈names,x.2=.free->(cl.lookup x.1).isSome=true)
 | [],acc,_=>⟨acc,rfl,λn a h=>.inl h,λn h=>h,λx h=>(by first | exact ff h | cases h)⟩
 | (n,k) :: r,acc,h=>by
  have hr:∀ x∈r,x.2=.free->(env.cells.lookup x.1).isSome=true:=λx hx=>h x (.tail _ hx)
  by_cases e:k=.free
  ·subst e
   refine byC λζ=>?_;refine J2 (Option.isSome_iff_exists.mp (h (n,.free) (.head _) rfl)) ?_;intro a ha;refine Q0d (Kb r ((n,a) :: acc) hr) ?_;intro cl h1 h2 h3 h4;have c:cellOf env n=pure a:=by unfold cellOf;rw [ha]
   have self:(((n,a) :: acc).lookup n).isSome=true:=by simp
   refine ζ ?_;refine Xj cl ?_ (λm b q=>?_) (λm q=>h3 m ?_) (λx hx q=>?_)
   ·rw [List.forIn_cons]
    simp only [beq_self_eq_true,if_true,c,pure_bind];exact h1
   ·rcases h2 m b q with z | z
    ·rw [List.lookup_cons] at z
     split at z
     ·rename_i w;induction z using J8;right;rw [show m=n from by simpa using w];exact ha
     ·exact .inl z
    ·exact .inr z
   ·rw [List.lookup_cons];split
    ·rfl
    ·exact q
   ·rcases List.mem_cons.mp hx with rfl | hx
    ·exact h3 _ self
    ·exact h4 x hx q
  ·refine Q0d (Kb r acc hr) ?_;intro cl h1 h2 h3 h4
   refine Xj cl ?_ h2 h3 (λx hx q=>?_)
   ·rw [List.forIn_cons]
    have:(k==NameKind.free)=false:=by simpa using e
    simp only [this,Bool.false_eq_true,if_false,pure_bind];exact h1
   ·rcases List.mem_cons.mp hx with rfl | hx
    ·exact absurd q e
    ·exact h4 x hx q
theorem Bb {scope:Scope}{env:Env}(h:∀ x∈scope.names,x.2=.free->(env.cells.lookup x.1).isSome=true):∃ cl,closureFor scope env=pure cl/\(∀ n a,cl.lookup n=some a->env.cells.lookup n=some a)/\(∀ x∈scope.names,x.2=.free->(cl.lookup x.1).isSome=true):=by
 refine Q0d (Kb scope.names [] h) ?_;intro cl h1 h2 _ h4;refine J6 cl ?_ (λn a q=>(h2 n a q).resolve_left (λz=>by cases z)) h4;unfold closureFor;have e:(forIn scope.names ([]:List (Str × Addr)) λ(x:Str × NameKind)(cs:List (Str × Addr))=>(match x with | (name,kind)=>if kind==.free then do let c <-cellOf env name;pure (ForInStep.yield ((name,c) :: cs)) else pure (ForInStep.yield cs):Sem (ForInStep (List (Str × Addr)))))=pure cl:=h1
 first
  | exact (congrArg (· >>= pure) e).trans (pure_bind ..)
  | exact e
  | (simp only [e,pure_bind])
set_option tactic.hygienic true in
theorem Ub {scope:Scope}{env:Env}(hcell:∀ x∈scope.names,x.2≠.cell){n:Str}(h:(relabel scope env).names.lookup n=some .cell\/(relabel scope env).names.lookup n=some .free):(n,NameKind.free)∈scope.names:=by
 have key:∀ names:List (Str × NameKind),(∀ x∈names,x.2≠.cell)->((names.map λ(n,k)=>if (k==NameKind.free&&env.scope.kind==.function&&env.kindOf n==some .cell) then (n,NameKind.cell) else (n,k)).lookup n=some .cell\/(names.map λ(n,k)=>if (k==NameKind.free&&env.scope.kind==.function&&env.kindOf n==some .cell) then (n,NameKind.cell) else (n,k)).lookup n=some .free)->(n,NameKind.free)∈names:=by
  intro names
  induction names with
  | nil=>intro _ h;rcases h with h | h <;> cases h
  | cons e r ih =>
   obtain ⟨m,k⟩:=e;intro hc h;have ih:=ih λx hx=>hc x (.tail _ hx);simp only [List.map_cons] at h
   by_cases q:(k==NameKind.free&&env.scope.kind==.function&&env.kindOf m==some .cell)=true
   ·rw [if_pos q] at h
    have kf:k=.free:=by simp only [Bool.and_eq_true,beq_iff_eq] at q;exact q.1.1
    simp only [List.lookup_cons] at h
    split at h
    ·rename_i w;rw [show n=m from by simpa using w,kf];exact .head _
    ·exact .tail _ (ih h)
   ·rw [if_neg q] at h
    simp only [List.lookup_cons] at h
    split at h
    ·rename_i w
     rcases h with h | h
     ·cases h;exact absurd rfl (hc (m,.cell) (.head _))
     ·cases h;rw [show n=m from by simpa using w];exact .head _
    ·exact .tail _ (ih h)
 exact key scope.names hcell h
section
variable {C C':Cls}{ev:Ev}
structure CompOk (C C':Cls)(scope:Scope):Prop where
 kind:scope.kind=.function
 cell:∀ x∈scope.names,x.2≠.cell
 names:∀ x∈scope.names,x.2=.local->scope.names.lookup x.1=some .local
 free:∀ A env,C A env->∀ x∈scope.names,x.2=.free->env.kindOf x.1=some .cell\/env.kindOf x.1=some .free
 inner:∀ A env,C A env->∀ cenv:Env,cenv.scope=relabel scope env->C' A cenv
theorem Tq (w:Wf W)(hh:∀ A env,C A env->A.handled=none)(hh':∀ A env,C' A env->A.handled=none){rng:Bool}{it nxt:E}{tg:Tg}{cond:Option E}{t iter elt:Expr}{ifs:List Expr}{gs:List Comprehension}{scope:Scope}{pos:Pos}
  (ok:CompOk C C' scope)(hi:SIt W C rng (ev it) iter)(hn:K5 iter=true)(TG:TgR W C' tg t)(CO:CoR W C' ev cond ifs)(nx:CR W C' ev elt nxt gs){cs:Q4}{l:Loc}{st:St}{k:V->St->R}(q:Cr ev rng it tg cond nxt cs l st k=true) :
  ∃ v st',k v st'=true/\∀ A env,C A env->∀ μ s,Inv W μ st s->EnvR W μ s env cs l->∀ (use:Option (Value->Sem Unit))(Q:Value->Shared->Prop),
   (∀ μ' s' x L,Ext μ s μ' s'->Inv W μ' st' s'->VR W μ' v x->s.heap.get? L=none->G9 μ' L->(∃ m,s'.heap.Ns L m)->compPost (model W.prog W.w) A Z3 use Q x L (.ok .next) s') ->
   wpAny (model W.prog W.w) A (comprehension (.ListComp elt (⟨t,iter,ifs,0⟩ :: gs) scope pos) scope env (firstIterPos (⟨t,iter,ifs,0⟩ :: gs) pos) (PySem.newList []) false (eval iter env) use) Q Z3 s:=by
 refine byC λζ=>?_;refine Q7 (hi cs l st (λi s=>V9 s (.list []) λacc s=>Kv ev (inner ev 4) tg cond nxt acc cs O9 i [] s λU s=>k (.ref acc) s) q) ?_;intro i st1 q r1;refine Q7 (H4 q) ?_;intro acc st2 q al;refine Q7 (Qw (C:=C') (gens:=⟨t,iter,ifs,0⟩ :: gs) (scope:=scope) (pos:=pos) (d:=0) w hh' rfl (λg h=>nx.plain g (by rw [List.head?_eq_getElem?];exact h)) TG CO (Rv w hh' nx rfl) q) ?_;intro l' st3 q r2;refine ζ ?_;refine Q9 (.ref acc) st3 q (λA env X μ s I N use Q fin=>?_);refine K0 (Bb (scope:=scope) (env:=env) λx hx hf=>N.full x.1 (ok.free A env X x hx hf)) ?_;intro cl hcl cl1 cl2;refine wpAny_comprehension_free (cl:=cl) rfl (Qv hn) hcl ok.kind ok.names ?_;refine wpAny_mono (r1 A env X μ s I N) (λx s₁ h₁=>wpAny_mono h₁ (λi s₂ h₂=>?_) λU U x=>x) λU U x=>x;refine Q6k h₂ ?_;intro J μ1 ee2 e1 I1 F1;subst ee2;have nl:NewL st1 [] (.ref acc) st2:=⟨Nat.zero_le _,acc,rfl,al⟩;refine (Gr I1 nl .nil).step λμ2 s3 accv e2 z2=>?_;refine Q6 z2 ?_;intro I2 av;refine wpAny_newFunctionEnv ok.cell (λy hy=>by cases hy) (λh₁ hns hsb=>?_) ok.kind;have hk:∀ b o,s3.heap.get? b=some o->h₁.get? b=some o:=λb o z=>hsb.extBut b o (Nat.ne_of_lt (Heap.lt_size z)) (Heap.get?_push_of_some _ z);have e3:Ext μ2 s3 μ2 { s3 with heap:=h₁,toks:=s3.toks+([]:List (Str × Value)).length }:=.kept hk;have I3:=I2.kept (t:=s3.toks+([]:List (Str × Value)).length) hk;have n3:s3.heap.get? s3.heap.objs.size=none:=Heap.get?_none_of_le (Nat.le_refl _);have f3:G9 μ2 s3.heap.objs.size:=D4 I2 n3;have e02:=e1.trans e2;have n0:s.heap.get? s3.heap.objs.size=none:=Y3 (λo z=>e02.keep _ _ z λp a d m=>f3 p a d (e02.sub _ _ m)) n3;have f0:G9 μ s3.heap.objs.size:=λp a d m=>f3 p a d (e02.sub _ _ m);have N3:EnvR W μ2 { s3 with heap:=h₁,toks:=s3.toks+([]:List (Str × Value)).length } (compEnvC scope cl s3.heap.objs.size env) cs []:=by
  refine ⟨ok.kind,N.glob,N.blt,f3,R2 I2 n3,⟨_,hns,λk v q=>by cases q⟩,λk p hp hk'=>?_,λn hk'=>?_⟩
  ·have m:=Ub ok.cell hk'
   refine byC λζ=>?_;refine Q7 (N.cells k p hp (ok.free A env X _ m rfl)) ?_;intro a d hm hc;refine J2 (Option.isSome_iff_exists.mp (cl2 _ m rfl)) ?_;intro b hb;refine ζ ?_;have:=cl1 _ _ hb
   rw [hc] at this;induction this using J8;exact Q9 _ d (e02.sub _ _ hm) hb
  ·exact cl2 _ (Ub ok.cell hk') rfl
 have jn:J≠s3.heap.objs.size:=λz=>by
  have:s₂.heap.get? J≠none:=F1.is.there;cases q:s₂.heap.get? J with
  | none=>exact this q
  | some o=>have:=e2.keep J o q F1.free;rw [z] at this;rw [this] at n3;exact sN n3
 have FJ:ItF W s3.heap.objs.size s μ2 { s3 with heap:=h₁,toks:=s3.toks+([]:List (Str × Value)).length } J i:=by
  have a:=F1.ext (e2.l (L:=env.locals) (N.ext e1).free);exact ⟨F1.fresh,a.free,F1.new,jn,a.is.at (λU U h=>h) λo z=>hk _ _ z⟩
 have lp:codeAny (model W.prog W.w) A (.compLoop (.ListComp elt (⟨t,iter,ifs,0⟩ :: gs) scope pos) 0 (.ref J) accv (compEnvC scope cl s3.heap.objs.size env)) (compPost (model W.prog W.w) A Z3 use Q accv s3.heap.objs.size) { s3 with heap:=h₁,toks:=s3.toks+([]:List (Str × Value)).length }:=by
  refine codeAny_mono (r2 (ok.inner A env X (compEnvC scope cl s3.heap.objs.size env) rfl) (((e02.trans e3).l f0)) I3 N3 FJ av) λr s' z=>?_
  induction r using Except.casesOn with
  | error=>exact z.elim
  | ok f =>
   obtain ⟨μ4,a,b,c,d⟩:=z;have post:=fin μ4 s' accv s3.heap.objs.size (a.ext n0) c (av.mono b) n0 d.free (let ⟨m,x,_⟩:=d.ns;⟨m,x⟩);unfold compPost at post ⊢
   induction use using Option.casesOn <;> exact post
 exact P6 rfl lp (Tn FJ.is lp)
theorem Q8a (w:Wf W)(hh:∀ A env,C A env->A.handled=none)(hh':∀ A env,C' A env->A.handled=none){rng:Bool}{it nxt:E}{tg:Tg}{cond:Option E}{t iter elt:Expr}{ifs:List Expr}{gs:List Comprehension}{scope:Scope}{pos:Pos}
  (ok:CompOk C C' scope)(hi:SIt W C rng (ev it) iter)(hn:K5 iter=true)(TG:TgR W C' tg t)(CO:CoR W C' ev cond ifs)(nx:CR W C' ev elt nxt gs):SE W C (Cr ev rng it tg cond nxt) (eval (.ListComp elt (⟨t,iter,ifs,0⟩ :: gs) scope pos)):=λcs l st k q=>by
 refine Q7 (Tq (pos:=pos) w hh hh' ok hi hn TG CO nx q) ?_;intro v st' q r;refine ⟨v,st',q,λA env X μ s I N=>r A env X μ s I N none _ λμ' s' x L e I' rv n f ns=>?_⟩;refine J2 ns ?_;intro m hm;refine ⟨m,hm,λh' sb=>⟨μ',⟨e.sub,e.new,λb o z fr=>?_,by rw [e.rest]⟩,I'.other (t:=s'.toks) λb o z y=>?_,rv⟩⟩
 ·rw [sb.2 b (λw=>by rw [w,n] at z;exact nS z)];exact e.keep b o z fr
 ·rw [sb.2 b (λw=>by
   subst w
   rcases y with y | y
   ·exact y (R2 I n)
   ·exact y f)];exact z
end
end
section
variable {W:Wd}
section
variable {C C':Cls}{ev:Ev}
theorem Q8b (w:Wf W)(hh:∀ A env,C A env->A.handled=none)(hh':∀ A env,C' A env->A.handled=none){rng:Bool}{it nxt e:E}{tg:Tg}{cond:Option E}{t iter elt:Expr}{ifs:List Expr}{gs:List Comprehension}{scope:Scope}{cpos p pos:Pos}{ev':Ev}
  (he:∀ cs l st k,ev' e cs l st k=true->Cr ev rng it tg cond nxt cs l st k=true)
  (ok:CompOk C C' scope)(hi:SIt W C rng (ev it) iter)(hn:K5 iter=true)(TG:TgR W C' tg t)(CO:CoR W C' ev cond ifs)(nx:CR W C' ev elt nxt gs)
  {c:Bool}{n:Nat}{x:Str}(hx:W.tab n=x)(hk:∀ A env,C A env->V2 env c x=true)(hsw:∀ A env,C A env->swapsWith (.ListComp elt (⟨t,iter,ifs,0⟩ :: gs) scope cpos) (some (.Name x p)) pos.line env=pure true) :
  SS W C (Gp ev' (.one c n) e) (exec (.Assign [.Name x p] (.ListComp elt (⟨t,iter,ifs,0⟩ :: gs) scope cpos) pos)):=λcs l st k q=>by
 subst hx;refine byC λζ=>?_;refine Q7 (Tq (pos:=cpos) w hh hh' ok hi hn TG CO nx (he cs l st _ q)) ?_;intro v st1 q r1;refine Q7 (M5 w q) ?_;intro l' st2 q2 r2;refine ζ ?_;refine Q9 (.next l') st2 q2 (λA env X μ s I N=>?_);rw [exec_Assign_Name_used _ _ _ _ (hsw A env X)];refine wpAny_bind (wpAny_standAt (wpAny_bind ?_))
 show wpAny _ _ (do let _ <-comprehension (.ListComp elt (⟨t,iter,ifs,0⟩ :: gs) scope cpos) scope env (firstIterPos (⟨t,iter,ifs,0⟩ :: gs) cpos) (PySem.newList []) false (eval iter env) (some (assign (.Name (W.tab n) p) env))) _ _ _
 refine wpAny_bind (r1 A env X μ s I N (some (assign (.Name (W.tab n) p) env)) _ λμ' s' y L e I' rv nn f ns=>?_);have N':=N.ext e;have neL:L≠env.locals:=λz=>N.there (z▸nn)
 show wpAny _ _ (assign (.Name (W.tab n) p) env y) _ _ _
 refine PyProof.Rows.assign_Name ((r2 (hk A env X) I' N' rv).step λμ2 s2 U e2 z2=>?_);refine Ui z2 ?_;intro I2 N2 ee2;subst ee2;have ns2:∃ m,s2.heap.Ns L m:=by
  refine J2 ns ?_;intro m zz1;obtain ⟨o,es,ep,ho,r⟩:=zz1;exact ⟨m,o,es,ep,e2.keep L o ho f neL,r⟩
 refine J2 ns2 ?_;intro m hm;refine Z0 m hm (λh' sb=>?_);have e3:=(e.l (L:=env.locals) N.free).trans e2;have hk2:∀ b o,s2.heap.get? b=some o->b≠L->h'.get? b=some o:=λb o z w=>by rw [sb.2 b w];exact z
 refine wpAny_pure (wpAny_pure ⟨_,⟨e3.sub,e3.new,λb o z fr ne=>?_,λz=>?_,by rw [e3.rest]⟩,I2.other (t:=s2.toks) λb o z y=>hk2 b o z λw=>?_,.next ?_⟩)
 ·exact hk2 b o (e3.keep b o z fr ne) λw=>by rw [w,nn] at z;exact nS z
 ·have:=e3.live z
  rw [sb.2 env.locals (λw=>neL w.symm)];exact this
 ·subst w
  rcases y with y | y
  ·exact y (R2 I nn)
  ·exact y f
 ·obtain ⟨a1,a2,a3,a4,a5,⟨mm,⟨o,es,ep,ho,r⟩,b⟩,a7,a8⟩:=N2
  exact ⟨a1,a2,a3,a4,a5,⟨mm,⟨o,es,ep,hk2 _ _ ho (λw=>neL w.symm),r⟩,b⟩,a7,a8⟩
end
end
section
variable {W:Wd}
inductive BindR:Q4->Loc->St->List (Bool × Nat)->List V->Q4->Loc->St->Prop
 | nil {cs:Q4}{l:Loc}{st:St}:BindR cs l st [] [] cs l st
 | loc {cs cs':Q4}{l l':Loc}{st st':St}{n:Nat}{v:V}{ps:List (Bool × Nat)}{vs:List V}(t:BindR cs ((n,v) :: l) st ps vs cs' l' st'):BindR cs l st ((false,n) :: ps) (v :: vs) cs' l' st'
 | cel {cs cs':Q4}{l l':Loc}{st st1 st':St}{n:Nat}{v:V}{p:P}{ps:List (Bool × Nat)}{vs:List V}(al:AllocR st (.cell (some v)) p st1)(t:BindR ((n,p) :: cs) l st1 ps vs cs' l' st'):BindR cs l st ((true,n) :: ps) (v :: vs) cs' l' st'
structure Full (n:Nat)(vs ds full:List V):Prop where
 le:vs.length<=n
 dle:n - vs.length<=ds.length
 eq:full=vs++ds.drop (ds.length - (n - vs.length))
theorem Full.len {n:Nat}{vs ds full:List V}(f:Full n vs ds full):full.length=n:=by
 rw [f.eq,List.length_append,List.length_drop];have:=f.le;have:=f.dle;lia
theorem Tr {ps:List (Bool × Nat)}:∀ {ds:List V}{d:V},Ot ps ds=some d->ps.length+1<=ds.length/\ds.drop (ds.length - (ps.length+1))=d :: ds.drop (ds.length - ps.length)
 | [],_,h=>by first | exact ff h | cases h
 | e :: r,d,h=>by
  have h:@Bool.rec (λU=>Option V) (Ot ps r) (some e) (Nat.beq ps.length r.length)=some d:=h;cases q:Nat.beq ps.length r.length <;> rw [q] at h
  rotate_left
  ·cases h
   have q:ps.length=r.length:=Z8.mp q;refine ⟨by simp [q],?_⟩;have e1:(e :: r).length - (ps.length+1)=0:=by simp [q]
   have e2:(e :: r).length - ps.length=1:=by simp [q]
   rw [e1,e2];rfl
  ·refine Q6 (Tr h) ?_;intro a b
   refine ⟨by simp;lia,?_⟩;have e1:(e :: r).length - (ps.length+1)=(r.length - (ps.length+1))+1:=by simp;lia
   have e2:(e :: r).length - ps.length=(r.length - ps.length)+1:=by simp;lia
   rw [e1,e2,List.drop_succ_cons,List.drop_succ_cons];exact b
set_option tactic.hygienic true in
theorem M6:∀ {ps:List (Bool × Nat)}{cs:Q4}{l:Loc}{st:St}{vs ds:List V}{k:Q4->Loc->St->R},F9 cs l st ps vs ds k=true ->
  ∃ full cs' l' st',k cs' l' st'=true/\BindR cs l st ps full cs' l' st'/\Full ps.length vs ds full
 | [],cs,l,st,vs,ds,k,h=>by
  induction vs using List.casesOn with
  | nil=>exact Q0f ([]) cs l st h .nil ⟨Nat.le_refl _,Nat.zero_le _,by simp⟩
  | cons=>first | exact ff h | cases h
 | (c,n) :: ps,cs,l,st,vs,ds,k,h=>by
  induction vs using List.casesOn with
  | cons v vs =>
   induction c using Bool.casesOn with
   | false =>
    refine Xi (M6 (show F9 cs ((n,v) :: l) st ps vs ds k=true from h)) ?_;intro full cs' l' st' q b f;exact Q0f (v :: full) cs' l' st' q (.loc b) ⟨by simpa using f.le,by simpa using f.dle,by rw [f.eq];simp⟩
   | true =>
    refine Q7 (H4 (show V9 st (.cell (some v)) (λp s=>F9 ((n,p) :: cs) l s ps vs ds k)=true from h)) ?_;intro p st1 h1 al;refine Xi (M6 h1) ?_;intro full cs' l' st' q b f;exact Q0f (v :: full) cs' l' st' q (.cel al b) ⟨by simpa using f.le,by simpa using f.dle,by rw [f.eq];simp⟩
  | nil =>
   have h:@Option.rec V (λU=>R) false (λd=>Q0y cs l st c n d λcs l s=>F9 cs l s ps [] ds k) (Ot ps ds)=true:=h;cases e:Ot ps ds <;> rw [e] at h
   rotate_left
   ·rename_i d
    refine Q6 (Tr e) ?_;intro a b
    induction c using Bool.casesOn with
    | false =>
     refine Xi (M6 (show F9 cs ((n,d) :: l) st ps [] ds k=true from h)) ?_;intro full cs' l' st' q bb f;refine Q0f (d :: full) cs' l' st' q (.loc bb) ⟨Nat.zero_le _,by simpa using a,?_⟩;have:=f.eq;simp only [List.nil_append,List.length_nil,Nat.sub_zero] at this;rw [this]
     simpa using b.symm
    | true =>
     refine Q7 (H4 (show V9 st (.cell (some d)) (λp s=>F9 ((n,p) :: cs) l s ps [] ds k)=true from h)) ?_;intro p st1 h1 al;refine Xi (M6 h1) ?_;intro full cs' l' st' q bb f;refine Q0f (d :: full) cs' l' st' q (.cel al bb) ⟨Nat.zero_le _,by simpa using a,?_⟩;have:=f.eq;simp only [List.nil_append,List.length_nil,Nat.sub_zero] at this;rw [this]
     simpa using b.symm
   ·cases h
inductive NewCs:Q4->St->List Nat->Q4->St->Prop
 | nil {cs:Q4}{st:St}:NewCs cs st [] cs st
 | cons {cs cs':Q4}{st st1 st':St}{n:Nat}{p:P}{ks:List Nat}(al:AllocR st (.cell none) p st1)(t:NewCs ((n,p) :: cs) st1 ks cs' st'):NewCs cs st (n :: ks) cs' st'
theorem E7:∀ {ks:List Nat}{cs:Q4}{st:St}{k:Q4->St->R},C3 cs st ks k=true->∃ cs' st',k cs' st'=true/\NewCs cs st ks cs' st'
 | [],cs,st,k,h=>⟨cs,st,h,.nil⟩
 | n :: ks,cs,st,k,h=>by
  refine Q7 (H4 (show V9 st (.cell none) (λp s=>C3 ((n,p) :: cs) s ks k)=true from h)) ?_;intro p st1 h1 al;refine Q7 (E7 h1) ?_;intro cs' st' q t;exact Q9 cs' st' q (.cons al t)
end
section
variable {W:Wd}
inductive PV (W:Wd)(μ:Mp)(env:Env)(m cm:Str->Option Value):List (Bool × Nat)->List V->Prop
 | nil:PV W μ env m cm [] []
 | loc {n:Nat}{v:V}{x:Value}{ps:List (Bool × Nat)}{vs:List V}(hm:m (W.tab n)=some x)(r:VR W μ v x)(t:PV W μ env m cm ps vs):PV W μ env m cm ((false,n) :: ps) (v :: vs)
 | cel {n:Nat}{c:Addr}{v:V}{x:Value}{ps:List (Bool × Nat)}{vs:List V}(hc:env.cells.lookup (W.tab n)=some c)(hx:cm (W.tab n)=some x)(r:VR W μ v x)(t:PV W μ env m cm ps vs):PV W μ env m cm ((true,n) :: ps) (v :: vs)
structure Half (W:Wd)(μ:Mp)(s:Shared)(env:Env)(m:Str->Option Value)(s₁:Shared)(cs:Q4)(l:Loc)(st:St)(D:List Nat)(μ₁:Mp):Prop where
 ext:Ext μ s μ₁ s₁
 inv:Inv W μ₁ st s₁
 track:∀ p a d,μ₁ p=some (a,d)->μ p=some (a,d)\/∃ n∈D,env.cells.lookup (W.tab n)=some a/\d=a
 cells:∀ k p,Y6 cs k=some p->∃ a d,μ₁ p=some (a,d)/\env.cells.lookup (W.tab k)=some a
 locs:∀ k v,Y6 l k=some v->∃ x,m (W.tab k)=some x/\VR W μ₁ v x
section
variable {μ:Mp}{s s₁:Shared}{env:Env}{m cm:Str->Option Value}{st₀:St}
set_option tactic.hygienic true in
theorem Hy (w:Wf W)(I₀:Inv W μ st₀ s)(IC:InCallC s env.locals m env.cells cm s₁){cs:Q4}{l:Loc}{st st1:St}{D:List Nat}{μ₁:Mp}(H:Half W μ s env m s₁ cs l st D μ₁){n:Nat}{o:Option V}{p:P}{c:Addr}
  (al:AllocR st (.cell o) p st1)(hc:env.cells.lookup (W.tab n)=some c)(hn:n ∉ D)(r:(o=none/\cm (W.tab n)=none)\/∃ v x,o=some v/\cm (W.tab n)=some x/\VR W μ v x) :
  ∃ μ₂,Half W μ s env m s₁ ((n,p) :: cs) l st1 (n :: D) μ₂:=by
 have hs:s.heap.get? c=none:=Heap.get?_none_of_le (Nat.le_of_lt (Nat.lt_of_le_of_lt IC.toInCall.fresh (IC.above _ _ (mem_of_lookup hc))));have fr:G9 μ₁ c:=λq a d e=>by
  rcases H.track q a d e with h | ⟨k,hk,h1,rfl⟩
  ·exact D4 I₀ hs q a d h
  ·have ne:c≠d:=λz=>by
    subst z;have:=name_of_addr IC.apart (mem_of_lookup hc) (mem_of_lookup h1);exact hn (w.inj _ _ this▸hk)
   exact ⟨ne,ne⟩
 have cell:=IC.cell _ _ hc;have or:∀ μ',(∀ p x,μ₁ p=some x->μ' p=some x)->OR W μ' s₁.heap c c (.cell o):=λμ' sub=>by
  rcases r with ⟨rfl,e⟩ | ⟨v,x,rfl,e,rv⟩
  ·rw [e] at cell;exact .cell0 cell
  ·rw [e] at cell;exact .cell1 cell (rv.mono λp x h=>sub _ _ (H.ext.sub _ _ h))
 refine X0_4 (I₀.adoptP (t:=s₁.toks) (h':=s₁.heap) H.ext H.inv al hs fr (Heap.SameBut.refl _ _) or) ?_;intro e2 I2 hp sub;refine ⟨_,e2,I2,λq a d e=>?_,λk q e=>?_,λk v e=>let ⟨x,h1,h2⟩:=H.locs k v e;⟨x,h1,h2.mono sub⟩⟩
 ·unfold put at e;split at e
  ·induction e using K6;exact .inr ⟨n,.head _,hc,rfl⟩
  ·rcases H.track q a d e with h | ⟨k,hk,h⟩
   ·exact .inl h
   ·exact .inr ⟨k,.tail _ hk,h⟩
 ·unfold Y6 at e;split at e
  ·rename_i z;subst z;induction e using J8;exact Q9 c c hp hc
  ·refine Q7 (H.cells k q e) ?_;intro a d h1 h2;exact Q9 a d (sub _ _ h1) h2
set_option tactic.hygienic true in
theorem Bc (w:Wf W)(I₀:Inv W μ st₀ s)(IC:InCallC s env.locals m env.cells cm s₁){cs cs':Q4}{l l':Loc}{st st':St}{ps:List (Bool × Nat)}{full:List V}(b:BindR cs l st ps full cs' l' st')(pv:PV W μ env m cm ps full) :
  ∀ {D:List Nat}{μ₁:Mp},Half W μ s env m s₁ cs l st D μ₁->((ps.map (·.2))++D).Nodup->∃ μ₂ D',Half W μ s env m s₁ cs' l' st' D' μ₂/\(∀ n∈D',n∈ps.map (·.2)\/n∈D):=by
 induction b with
 | nil=>exact λH U=>⟨_,_,H,λn h=>.inr h⟩
 | loc t ih =>
  intro D μ₁ H nd;cases pv with
  | loc hm r tt =>
   obtain ⟨μ₂,D',h1,h2⟩:=ih tt (D:=D) (μ₁:=μ₁) ⟨H.ext,H.inv,H.track,H.cells,λk v e=>by
    unfold Y6 at e;split at e
    ·rename_i z;subst z;induction e using J8;exact Z0 _ hm (r.mono H.ext.sub)
    ·exact H.locs k v e⟩ (by simp only [List.map_cons,List.cons_append,List.nodup_cons] at nd;exact nd.2)
   exact Q9 μ₂ D' h1 (λn h=>(h2 n h).imp (λz=>List.mem_cons_of_mem _ z) id)
 | @cel cs cs' l l' st st1 st' n v p ps vs al t ih =>
  intro D μ₁ H nd;cases pv with
  | cel hc hx r tt =>
   simp only [List.map_cons,List.cons_append,List.nodup_cons,List.mem_append,not_or] at nd;refine J2 (Hy w I₀ IC H al hc nd.1.2 (.inr ⟨_,_,rfl,hx,r⟩)) ?_;intro μ₂ H2;obtain ⟨μ₃,D',h1,h2⟩:=ih tt H2 (by
    have:=nd.2;rw [List.nodup_append] at this ⊢;refine ⟨this.1,List.nodup_cons.mpr ⟨nd.1.2,this.2.1⟩,λa ha b hb=>?_⟩
    rcases List.mem_cons.mp hb with rfl | hb
    ·exact λz=>nd.1.1 (z▸ha)
    ·exact this.2.2 a ha b hb)
   refine Q9 μ₃ D' h1 (λk h=>?_)
   rcases h2 k h with z | z
   ·exact .inl (List.mem_cons_of_mem _ z)
   ·rcases List.mem_cons.mp z with rfl | z
    ·exact .inl (.head _)
    ·exact .inr z
theorem Bd (w:Wf W)(I₀:Inv W μ st₀ s)(IC:InCallC s env.locals m env.cells cm s₁){cs cs':Q4}{l:Loc}{st st':St}{ks:List Nat}(b:NewCs cs st ks cs' st') :
  ∀ {D:List Nat}{μ₁:Mp},Half W μ s env m s₁ cs l st D μ₁->ks.Nodup->(∀ n∈ks,n ∉ D)->(∀ n∈ks,(∃ c,env.cells.lookup (W.tab n)=some c)/\cm (W.tab n)=none)->∃ μ₂ D',Half W μ s env m s₁ cs' l st' D' μ₂:=by
 induction b with
 | nil=>exact λH U U U=>⟨_,_,H⟩
 | @cons cs cs' st st1 st' n p ks al t ih =>
  intro D μ₁ H nd nD hc;have nd:=List.nodup_cons.mp nd;refine byC λζ=>?_;refine Q6 (hc n (.head _)) ?_;intro zz0 h2;obtain ⟨c,h1⟩:=zz0;refine J2 (Hy w I₀ IC H al h1 (nD n (.head _)) (.inl ⟨rfl,h2⟩)) ?_;intro μ₂ H2;refine ζ ?_;exact ih H2 nd.2 (λk hk hD=>by
   rcases List.mem_cons.mp hD with rfl | hD
   ·exact nd.1 hk
   ·exact nD k (.tail _ hk) hD) λk hk=>hc k (.tail _ hk)
end
end
noncomputable def C4 (slots:List (Str × Value))(prs:List (Str × Value)):List (Str × Value):=prs.foldl (λs p=>if (s.lookup p.1).isNone then s++[p] else s) slots
theorem Uk {names:List Str}{xs:List Value}{n:Str}(h:n ∉ names):(names.zip xs).lookup n=none:=by
 induction names generalizing xs with
 | nil=>rfl
 | cons m r ih =>
  induction xs using List.casesOn with
  | nil=>rfl
  | cons x xs =>
   simp only [List.mem_cons,not_or] at h;simp only [List.zip_cons_cons,List.lookup_cons];rw [show (n==m)=false from by simpa using h.1];exact ih h.2
theorem Be {a b:List (Str × Value)}{n:Str}:(a++b).lookup n=(a.lookup n).or (b.lookup n):=by
 induction a with
 | nil=>rfl
 | cons e r ih =>
  obtain ⟨m,v⟩:=e;simp only [List.cons_append,List.lookup_cons]
  split <;> simp [ih]
theorem Ts:∀ {cs:List Str}{ds:List Value}{slots:List (Str × Value)},cs.Nodup->(∀ c∈cs,slots.lookup c=none)->C4 slots (cs.zip ds)=slots++cs.zip ds
 | [],_,_,_,_=>by simp [C4]
 | c :: cs,[],_,_,_=>by simp [C4]
 | c :: cs,d :: ds,slots,nd,h=>by
  have nd':=List.nodup_cons.mp nd;have h0:=h c (.head _)
  show C4 (if (slots.lookup c).isNone then slots++[(c,d)] else slots) (cs.zip ds)=_
  rw [h0];simp only [Option.isNone_none,if_true];rw [Ts nd'.2 λx hx=>by
   rw [Be,h x (.tail _ hx)];have:(x==c)=false:=beq_eq_false_iff_ne.mpr λe=>nd'.1 (e▸hx);simp [List.lookup_cons,this]]
  simp
theorem Tt:∀ {prs slots:List (Str × Value)},(∀ p∈prs,(slots.lookup p.1).isSome=true)->C4 slots prs=slots
 | [],_,_=>rfl
 | p :: r,slots,h=>by
  show C4 (if (slots.lookup p.1).isNone then slots++[p] else slots) r=_
  have:(slots.lookup p.1).isNone=false:=by have:=h p (.head _);cases q:slots.lookup p.1 <;> simp_all
  rw [this];exact Tt λx hx=>h x (.tail _ hx)
theorem V8:∀ {names:List Str}{xs:List Value}{n:Str},n∈names.take xs.length->((names.zip xs).lookup n).isSome=true
 | [],_,_,h=>by simp at h
 | m :: r,[],_,h=>by simp at h
 | m :: r,x :: xs,n,h=>by
  simp only [List.zip_cons_cons,List.lookup_cons]
  by_cases e:n=m
  ·subst e;simp
  ·rw [show (n==m)=false from by simpa using e]
   simp only [List.length_cons,List.take_succ_cons,List.mem_cons] at h;exact V8 (h.resolve_left e)
theorem Bf:∀ {names:List Str}{full:List Value},names.Nodup->full.length=names.length->names.filterMap (λn=>((names.zip full).lookup n).map λv=>(n,v))=names.zip full
 | [],_,_,_=>rfl
 | m :: r,[],_,h=>by simp at h
 | m :: r,x :: xs,nd,h=>by
  have nd':=List.nodup_cons.mp nd;have ih:=Bf (names:=r) (full:=xs) nd'.2 (by simpa using h);have e1:(((m :: r).zip (x :: xs)).lookup m).map (λv=>(m,v))=some (m,x):=by simp
  rw [List.filterMap_cons,e1];simp only;rw [List.zip_cons_cons]
  congr 1
  have:∀ l:List Str,(∀ n∈l,n≠m)->l.filterMap (λn=>(List.lookup n ((m,x) :: r.zip xs)).map λv=>(n,v))=l.filterMap (λn=>((r.zip xs).lookup n).map λv=>(n,v)):=by
   intro l
   induction l with
   | nil=>intro _;rfl
   | cons n l ih2 =>
    intro hl;simp only [List.filterMap_cons,List.lookup_cons];rw [show (n==m)=false from by simpa using hl n (.head _)];rw [<-ih2 λk hk=>hl k (.tail _ hk)]
    rfl
  rw [this r λn hn e=>nd'.1 (e▸hn)];exact ih
theorem Q1z {names:List Str}{xs dv:List Value}(nd:names.Nodup)(hg:xs.length<=names.length)(hd:dv.length<=names.length)(hm:names.length - xs.length<=dv.length) :
  C4 (names.zip xs) ((names.drop (names.length - dv.length)).zip dv)=names.zip (xs++dv.drop (dv.length - (names.length - xs.length))):=by
 have split:((names.drop (names.length - dv.length)).zip dv)=((names.drop (names.length - dv.length)).take (dv.length - (names.length - xs.length))).zip (dv.take (dv.length - (names.length - xs.length)))++(names.drop xs.length).zip (dv.drop (dv.length - (names.length - xs.length))):=by
  have e:names.drop xs.length=(names.drop (names.length - dv.length)).drop (dv.length - (names.length - xs.length)):=by
   rw [List.drop_drop];congr 1;lia
  rw [e,<-List.zip_append (by simp only [List.length_take,List.length_drop];lia),List.take_append_drop,List.take_append_drop]
 rw [split];unfold C4;rw [List.foldl_append]
 show C4 (C4 (names.zip xs) _) _=_
 rw [Tt (slots:=names.zip xs) (λp hp=>?_)]
 ·rw [Ts (nd.sublist (List.drop_sublist ..)) λc hc=>?_]
  ·have e:names.zip xs=(names.take xs.length).zip xs:=by
    have:names.zip xs=((names.take xs.length)++(names.drop xs.length)).zip (xs++[]):=by rw [List.take_append_drop,List.append_nil]
    rw [this,List.zip_append (by simp only [List.length_take];lia)];simp
   rw [e,<-List.zip_append (by simp only [List.length_take];lia),List.take_append_drop]
  ·have e:names.zip xs=(names.take xs.length).zip xs:=by
    have:names.zip xs=((names.take xs.length)++(names.drop xs.length)).zip (xs++[]):=by rw [List.take_append_drop,List.append_nil]
    rw [this,List.zip_append (by simp only [List.length_take];lia)];simp
   rw [e];refine Uk λh=>?_;have:=List.nodup_append.mp ((List.take_append_drop xs.length names).symm▸nd:(names.take xs.length++names.drop xs.length).Nodup);exact this.2.2 c h c hc rfl
 ·obtain ⟨n,v⟩:=p
  have hn:=(List.of_mem_zip hp).1;refine V8 ?_;rw [List.take_drop] at hn;have:=List.mem_of_mem_drop hn;have e:names.length - dv.length+(dv.length - (names.length - xs.length))=xs.length:=by lia
  rw [e] at this;exact this
theorem Rw {prs:List (Str × Value)}:∀ {slots:List (Str × Value)},(forIn prs slots λ(p:Str × Value)(s:List (Str × Value))=>(if (s.lookup p.1).isNone=true then pure (ForInStep.yield (s++[(p.1,p.2)])) else pure (ForInStep.yield s):Sem (ForInStep (List (Str × Value)))))=pure (C4 slots prs):=by
 induction prs with
 | nil=>intro slots;rfl
 | cons p r ih =>
  intro slots;rw [List.forIn_cons]
  by_cases e:(slots.lookup p.1).isNone=true
  ·rw [if_pos e,pure_bind]
   show (forIn r (slots++[(p.1,p.2)]) _)=_
   rw [ih]
   show _=pure (C4 (if (slots.lookup p.1).isNone then slots++[p] else slots) r)
   rw [if_pos e]
  ·rw [if_neg e,pure_bind]
   show (forIn r slots _)=_
   rw [ih]
   show _=pure (C4 (if (slots.lookup p.1).isNone then slots++[p] else slots) r)
   rw [if_neg e]
noncomputable def L4 (p:Arguments)(names:List Str):Bool:=match p with
 | ⟨po,args,va,ko,_,kw,_⟩=>po.isEmpty&&va.isNone&&ko.isEmpty&&kw.isNone&&args.map (·.arg)==names
theorem Ea {fd:FuncData}{xs:List Value}{args:List Arg}{kd:List (Option Expr)}{dd:List Expr}(hp:fd.params=⟨[],args,none,[],kd,none,dd⟩):∃ (r1 r2:Option (Array Value)->Sem (List (Str × Value))),bindArgs fd ⟨xs,[]⟩=(seqItems? fd.defaults >>= λo =>
  if (decide (xs.length > (args.map (·.arg)).length)&&Option.isNone (none:Option Arg))=true then r1 o else
  if (!(List.filter (λm=>(List.lookup m ((args.map (·.arg)).zip xs)).isNone) ((args.map (·.arg)).take ((args.map (·.arg)).length - (List.drop ((o.getD #[]).toList.length - (args.map (·.arg)).length) (o.getD #[]).toList).length))).isEmpty)=true then r2 o else
  (forIn (((args.map (·.arg)).drop ((args.map (·.arg)).length - (List.drop ((o.getD #[]).toList.length - (args.map (·.arg)).length) (o.getD #[]).toList).length)).zip (List.drop ((o.getD #[]).toList.length - (args.map (·.arg)).length) (o.getD #[]).toList)) ((args.map (·.arg)).zip xs) (λ(x:Str × Value)(s:List (Str × Value))=>if (List.lookup x.1 s).isNone=true then pure (ForInStep.yield (s++[(x.1,x.2)])) else pure (ForInStep.yield s)) >>= λs=>pure ((args.map (λx:Arg=>x.arg)++([]:List Str)).filterMap λm=>(s.lookup m).map λv=>(m,v)))):=by
 obtain ⟨f1,f2,p,f3,f4,f5,f6,f7,f8,f9⟩:=fd;cases (show p=_ from hp);exact ⟨_,_,rfl⟩
theorem R3 {M:Model}{A:Around}{E:Value->Shared->Prop}{s:Shared}{fd:FuncData}{names:List Str}{xs dv:List Value}{Q:List (Str × Value)->Shared->Prop}(hp:L4 fd.params names=true)(nd:names.Nodup)(hg:xs.length<=names.length)(hd:dv.length<=names.length)(hm:names.length - xs.length<=dv.length)
  (hds:∀ {Q:Option (Array Value)->Shared->Prop},(∀ o,(o.getD #[]).toList=dv->Q o s)->wpAny M A (seqItems? fd.defaults) Q E s)
  (h:Q (names.zip (xs++dv.drop (dv.length - (names.length - xs.length)))) s):wpAny M A (bindArgs fd ⟨xs,[]⟩) Q E s:=by
 obtain ⟨args,kd,dd,hpp,hn⟩:∃ args kd dd,fd.params=⟨[],args,none,[],kd,none,dd⟩/\args.map (·.arg)=names:=by
  revert hp
  rcases fd.params with ⟨po,args,va,ko,kd,kw,dd⟩
  intro hp;unfold L4 at hp;simp only [Bool.and_eq_true,List.isEmpty_iff,Option.isNone_iff_eq_none,beq_iff_eq] at hp;obtain ⟨⟨⟨⟨rfl,rfl⟩,rfl⟩,rfl⟩,e⟩:=hp;exact ⟨args,kd,dd,rfl,e⟩
 refine Jp (Ea (xs:=xs) hpp) ?_;intro r1 r2 e;rw [e,hn];refine wpAny_bind (hds λo ho=>?_);rw [ho];have e2:dv.drop (dv.length - names.length)=dv:=by rw [show dv.length - names.length=0 by lia];rfl
 rw [e2];refine wpAny_ite_false (by rw [decide_eq_false_iff_not];simp;lia) ?_;have e3:(List.filter (λn=>(List.lookup n (names.zip xs)).isNone) (List.take (names.length - dv.length) names))=[]:=by
  rw [List.filter_eq_nil_iff];intro n hn;have:n∈names.take xs.length:=by
   have:names.take (names.length - dv.length)=(names.take xs.length).take (names.length - dv.length):=by rw [List.take_take];congr 1;lia
   rw [this] at hn;exact List.mem_of_mem_take hn
  have:=V8 this;cases q:List.lookup n (names.zip xs) <;> simp_all
 rw [e3];refine wpAny_ite_false rfl ?_;rw [Rw,Q1z nd hg hd hm];refine wpAny_bind (wpAny_pure ?_);rw [List.append_nil,Bf nd (by simp only [List.length_append,List.length_drop];lia)];exact wpAny_pure h
section
variable {W:Wd}
noncomputable def Fc (n:Nat)(sc:Scope)(cd:Value):Cls:=λA env=>Ro A n/\env.scope=sc/\env.code=cd
noncomputable def noMp:Mp:=λU=>none
structure FnOk (W:Wd)(p:P)(fn:Fn)(fd:FuncData)(body:List Stmt)(dv:List Value):Prop where
 at_:∃ oc od sl,W.K.lookup (W.fa p)=some ⟨oc,od,.func fd,sl⟩
 body:fd.body=.stmts body
 code:codeIn W.K fd.code fd.qualname=true
 clo:fd.closure=[]
 co:fd.scope.isCoroutine=false
 gen:fd.scope.isGenerator=false
 kind:fd.scope.kind=.function
 glob:fd.globals=mainGlobals
 blt:fd.builtins=builtinsNs
 params:L4 fd.params (fn.params.map λx=>W.tab x.2)=true
 nd:((fn.params.map λx=>W.tab x.2)).Nodup
 kinds:∀ x∈fn.params,fd.scope.names.lookup (W.tab x.2)=some (if x.1=true then .cell else .local)
 cells:∀ n∈fn.cellLocals,fd.scope.names.lookup (W.tab n)=some .cell
 cnd:(fn.cellLocals++fn.params.map (·.2)).Nodup
 nofree:∀ n,fd.scope.names.lookup n≠some .free
 dflts:VRs W noMp fn.dflts dv
 dle:dv.length<=fn.params.length
 dwp:∀ {M:Model}{A:Around}{E:Value->Shared->Prop}{s:Shared}{Q:Option (Array Value)->Shared->Prop},W.K.In s.heap->(∀ o,(o.getD #[]).toList=dv->Q o s)->wpAny M A (seqItems? fd.defaults) Q E s
set_option tactic.hygienic true in
theorem O6:∀ {names:List (Str × NameKind)}{n:Str}{i:Nat}{acc:List (Str × Addr)},(n,NameKind.cell)∈names\/(acc.lookup n).isSome=true->((cellsFrom i names acc).lookup n).isSome=true
 | [],n,i,acc,h=>h.resolve_left (λz=>by cases z)
 | (m,k) :: r,n,i,acc,h=>by
  unfold cellsFrom
  split
  ·rename_i e
   refine O6 ?_
   rcases h with h | h
   ·rcases List.mem_cons.mp h with h | h
    ·cases h;right;simp
    ·exact .inl h
   ·right
    rw [List.lookup_cons]
    split
    ·rfl
    ·exact h
  ·rename_i e
   refine O6 ?_
   rcases h with h | h
   ·rcases List.mem_cons.mp h with h | h
    ·cases h;exact absurd rfl e
    ·exact .inl h
   ·exact .inr h
theorem Ae {prog:Program}{w:World}{A:Around}{s:Shared}{R:Result->Shared->Prop}{a:Addr}{o:Obj}{fd:FuncData}{body:List Stmt}{args:Args}{binds:List (Str × Value)}
  (hroom:A.depth<recursionLimit)(ho:s.heap.get? a=some o)(hdata:o.data=.func fd)(hlim:s.heap.NoLimit)(hcd:s.heap.CodeRec fd.code fd.qualname)
  (hbody:fd.body=.stmts body)(hbind:∀ {M:Model}{A:Around}{E:Value->Shared->Prop}{Q:List (Str × Value)->Shared->Prop},Q binds s->wpAny M A (bindArgs fd args) Q E s)(hclo:fd.closure=[])
  (hkind:∀ x∈binds,fd.scope.names.lookup x.1=some .local\/(fd.scope.names.lookup x.1=some .cell/\((cellsFrom (s.heap.objs.size+1) fd.scope.names []).lookup x.1).isSome=true))
  (h:∀ s₁,InCallC s (callEnvC fd s.heap.objs.size a).locals (bindL (callEnvC fd s.heap.objs.size a).kindOf binds λU=>none) (callEnvC fd s.heap.objs.size a).cells
    (bindC (callEnvC fd s.heap.objs.size a).kindOf binds λU=>none) s₁ ->
   wpAny (model prog w) (A.deeper (callEnvC fd s.heap.objs.size a)) (execs body (callEnvC fd s.heap.objs.size a)) (λf s'=>R (.ok (.ret (match f with | .ret v=>v | _=>.none))) s') Z3 s₁)
  (hco:fd.scope.isCoroutine=false)(hgen:fd.scope.isGenerator=false)(hk:fd.scope.kind=.function) :
  codeAny (model prog w) A (.call (.ref a) args) R s:=by
 refine codeAny_call_function hroom ho hdata hco hgen hbody hcd (hbind ?_);rw [hclo];refine wpAny_newFunctionEnv_cells hk hkind λenv he s' x=>?_;subst he;exact ⟨hlim.keeps x.toInCall.keep,codeAny_func (wpAny_mono (h s' x) (λU U z=>z) λU U z=>z.elim)⟩
end
section
variable {W:Wd}
theorem Uc {kd:Str->Option NameKind}:∀ {binds:List (Str × Value)}{m:Str->Option Value}{n:Str},(∀ b∈binds,b.1≠n)->bindL kd binds m n=m n
 | [],_,_,_=>rfl
 | (k,v) :: r,m,n,h=>by
  unfold bindL;rw [Uc λb hb=>h b (.tail _ hb)]
  split
  ·exact if_neg (λe:n=k=>h (k,v) (.head _) e.symm)
  ·rfl
theorem E8 {kd:Str->Option NameKind}:∀ {binds:List (Str × Value)}{m:Str->Option Value}{n:Str},(∀ b∈binds,b.1≠n)->bindC kd binds m n=m n
 | [],_,_,_=>rfl
 | (k,v) :: r,m,n,h=>by
  unfold bindC;rw [E8 λb hb=>h b (.tail _ hb)]
  split
  ·rfl
  ·exact if_neg (λe:n=k=>h (k,v) (.head _) e.symm)
theorem Kc {names:List Str}{xs:List Value}{n:Str}(h:n ∉ names):∀ b∈names.zip xs,b.1≠n:=λb hb e=>h (e▸(List.of_mem_zip hb).1)
theorem Q2a {μ:Mp}{env:Env}{kd:Str->Option NameKind}:∀ {ps:List (Bool × Nat)}{full:List V}{xs:List Value}{m c:Str->Option Value},VRs W μ full xs->full.length=ps.length->(ps.map λx=>W.tab x.2).Nodup ->
  (∀ x∈ps,kd (W.tab x.2)=some (if x.1=true then .cell else .local))->(∀ x∈ps,x.1=true->(env.cells.lookup (W.tab x.2)).isSome=true) ->
  PV W μ env (bindL kd ((ps.map λx=>W.tab x.2).zip xs) m) (bindC kd ((ps.map λx=>W.tab x.2).zip xs) c) ps full
 | [],full,xs,m,c,r,len,_,_,_=>by cases r <;> first | exact .nil | cases len
 | (b,n) :: ps,_,_,m,c,.nil,len,_,_,_=>by cases len
 | (b,n) :: ps,v :: full,x :: xs,m,c,.cons rv r,len,nd,hk,hc=>by
  simp only [List.map_cons,List.nodup_cons] at nd;have nn:=Kc (xs:=xs) nd.1;have k0:=hk (b,n) (.head _);have ih:=λm c=>Q2a (m:=m) (c:=c) (env:=env) (kd:=kd) r (by simpa using len) nd.2 (λx hx=>hk x (.tail _ hx)) λx hx=>hc x (.tail _ hx)
  induction b using Bool.casesOn with
  | false =>
   have kl:kd (W.tab n)=some .local:=by simpa using k0
   refine .loc (x:=x) ?_ rv ?_
   ·show bindL kd ((ps.map λx=>W.tab x.2).zip xs) (if kd (W.tab n)=some .local then λy=>if y=W.tab n then some x else m y else m) (W.tab n)=some x
    rw [Uc nn,if_pos kl,if_pos rfl]
   ·exact ih _ _
  | true =>
   have kl:kd (W.tab n)=some .cell:=by simpa using k0
   refine J2 (Option.isSome_iff_exists.mp (hc (true,n) (.head _) rfl)) ?_;intro a ha;refine .cel (x:=x) ha ?_ rv ?_
   ·show bindC kd ((ps.map λx=>W.tab x.2).zip xs) (if kd (W.tab n)=some .local then c else λy=>if y=W.tab n then some x else c y) (W.tab n)=some x
    rw [E8 nn,if_neg (by rw [kl];decide),if_pos rfl]
   ·exact ih _ _
structure Rp (A:Around)(n:Nat):Prop where
 handled:A.handled=none
 depth:A.depth+8*n+44<=recursionLimit
 units:A.units+30*n+220<=cLine
theorem Rp.room {A:Around}{n:Nat}(r:Rp A n):A.depth<recursionLimit:=by have:=r.depth;lia
theorem Ro.rp {A:Around}{n:Nat}(r:Ro A (n+1)):Rp A n:=⟨r.handled,by have:=r.depth;lia,by have:=r.units;lia⟩
theorem Kd {A:Around}{n:Nat}{env:Env}(r:Rp A n):Ro (A.deeper env) n:=⟨r.handled,by have:=r.depth;show A.depth+1+8*n+40<=recursionLimit;lia,by have:=r.units;show A.units+3+30*n+200<=cLine;lia⟩
theorem VRs.noMp {μ:Mp}{vs:List V}{xs:List Value}(h:VRs W noMp vs xs):VRs W μ vs xs:=h.mono λp x e=>by cases e
noncomputable def Eb (f:Fn)(BR:Hs)(vs:List V)(s:St)(k:V->St->R):R:=match f with
 | ⟨ps,ds,cl,_⟩=>F9 [] [] s ps vs ds λcs l s=>C3 cs s cl λcs s =>
  BR cs l s λf s=>(match f with | .ret v _=>k v s | .next _=>k .none s | _=>false)
theorem Mv (w:Wf W){p:P}{fn:Fn}{fd:FuncData}{body:List Stmt}{dv:List Value}(FO:FnOk W p fn fd body dv){n:Nat}{BR:Hs}(B:SS W (Fc n fd.scope fd.code) BR (execs body)){vs:List V}{st:St}{k:V->St->R}(h:Eb fn BR vs st k=true) :
  ∃ v st',k v st'=true/\∀ {A:Around}{μ:Mp}{s:Shared}{xs:List Value},Rp A n->Inv W μ st s->VRs W μ vs xs->codeAny (model W.prog W.w) A (.call (.ref (W.fa p)) ⟨xs,[]⟩) (λr s'=>match r with | .ok (.ret y)=>∃ μ',Ext μ s μ' s'/\Inv W μ' st' s'/\VR W μ' v y | _=>False) s:=by
 refine byC λζ=>?_;obtain ⟨ps,ds,cl,bd⟩:=fn;unfold Eb at h;dsimp only at h;refine Xi (M6 h) ?_;intro full cs1 l1 st1 h br fu;refine Q7 (E7 h) ?_;intro cs2 st2 h nc;refine Q7 (B cs2 l1 st2 _ h) ?_;intro f st3 h r3;refine ζ ?_;have out:∃ v,k v st3=true/\((∃ l,f=.ret v l)\/(v=.none/\∃ l,f=.next l)):=by
  induction f using F.casesOn with
  | ret v l=>exact Z0 v h (.inl ⟨l,rfl⟩)
  | next l=>exact Z0 .none h (.inr ⟨rfl,l,rfl⟩)
  | brk=>first | exact ff h | cases h
  | cont=>first | exact ff h | cases h
 refine Q3 out ?_;intro v hv hf;refine Q9 v st3 hv (λ{A μ s xs} ro I rx=>?_);refine Rb FO.at_ ?_;intro oc od sl hat;have X:=I.K w;have ho:=X _ _ hat;have dr:VRs W μ ds dv:=VRs.noMp FO.dflts;have dl:dv.length=ds.length:=dr.length.symm;have xl:xs.length=vs.length:=rx.length.symm;have fullr:VRs W μ full (xs++dv.drop (dv.length - (ps.length - xs.length))):=by
  rw [fu.eq,dl,xl];exact rx.append dr.drop
 have fl:full.length=ps.length:=by
  exact fu.len
 have kc:∀ m,(m,NameKind.cell)∈fd.scope.names->((cellsFrom (s.heap.objs.size+1) fd.scope.names []).lookup m).isSome=true:=λm hm=>O6 (.inl hm);have pn:(ps.map λx=>W.tab x.2).length=ps.length:=by simp
 refine Ae (binds:=(ps.map λx=>W.tab x.2).zip (xs++dv.drop (dv.length - (ps.length - xs.length)))) ro.room ho rfl (I.nolimit w) (codeRec_of X FO.code) FO.body
  (λhq=>R3 FO.params FO.nd (by rw [pn,xl];exact fu.le) (by rw [pn];exact FO.dle) (by rw [pn,dl,xl];exact fu.dle) (FO.dwp X) (by rw [pn];exact hq)) FO.clo (λb hb=>?_) (λs₁ IC=>?_) FO.co FO.gen FO.kind
 ·have hm:=(List.of_mem_zip hb).1
  refine Q3 (List.mem_map.mp hm) ?_;intro x hx e;have:=FO.kinds x hx;rw [e] at this;cases q:x.1 with
  | true=>rw [q] at this;exact .inr ⟨by simpa using this,kc _ (mem_of_lookup (by simpa using this))⟩
  | false=>rw [q] at this;exact .inl (by simpa using this)
 ·have H0:Half W μ s (callEnvC fd s.heap.objs.size (W.fa p)) (bindL (callEnvC fd s.heap.objs.size (W.fa p)).kindOf ((ps.map λx=>W.tab x.2).zip (xs++dv.drop (dv.length - (ps.length - xs.length)))) λU=>none) s₁ [] [] st [] μ:=by
   refine Jp IC.toInCall.same ?_;intro h₁ tk e;have kp:=IC.toInCall.keep;subst e;exact ⟨.kept kp,I.kept kp,λp a d e=>.inl e,λk p e=>(by cases e),λk v e=>(by cases e)⟩
  have pv:=Q2a (W:=W) (env:=callEnvC fd s.heap.objs.size (W.fa p)) (kd:=(callEnvC fd s.heap.objs.size (W.fa p)).kindOf) (m:=λU=>none) (c:=λU=>none) fullr fl FO.nd FO.kinds λx hx e=>kc _ (mem_of_lookup (by have:=FO.kinds x hx;rw [e] at this;simpa using this));refine byC λζ=>?_;refine Ui (List.nodup_append.mp FO.cnd) ?_;intro cn1 cn2 cn3;refine Q7 (Bc w I IC br pv H0 (by simpa using cn2)) ?_;intro μ1 D1 H1 hDm;refine ζ ?_;have notp:∀ n∈cl,W.tab n ∉ ps.map λx=>W.tab x.2:=λn hn hm=>by
   refine Q3 (List.mem_map.mp hm) ?_;intro x hx e;exact cn3 n hn x.2 (List.mem_map_of_mem hx) (w.inj _ _ e.symm)
  obtain ⟨μ2,D2,H2⟩:=Bd w I IC nc H1 cn1 (λn hn hD=>by
   rcases hDm n hD with z | z
   ·exact cn3 n hn n z rfl
   ·cases z) λn hn=>⟨Option.isSome_iff_exists.mp (kc _ (mem_of_lookup (FO.cells n hn))),E8 (Kc (notp n hn))⟩
  have nL:s.heap.get? (callEnvC fd s.heap.objs.size (W.fa p)).locals=none:=Heap.get?_none_of_le IC.toInCall.fresh;have fμ:G9 μ (callEnvC fd s.heap.objs.size (W.fa p)).locals:=D4 I nL;have f2:G9 μ2 (callEnvC fd s.heap.objs.size (W.fa p)).locals:=λq a d e=>by
   rcases H2.track q a d e with z | ⟨k,_,z,rfl⟩
   ·exact fμ q a d z
   ·have:=IC.above _ _ (mem_of_lookup z)
    exact ⟨Nat.ne_of_lt this,Nat.ne_of_lt this⟩
  have N:EnvR W μ2 s₁ (callEnvC fd s.heap.objs.size (W.fa p)) cs2 l1:=by
   refine ⟨FO.kind,FO.glob,FO.blt,f2,R2 I nL,⟨_,IC.toInCall.ns,H2.locs⟩,λk q hq U=>H2.cells k q hq,λn hn=>?_⟩
   rcases hn with hn | hn
   ·exact kc n (mem_of_lookup hn)
   ·exact absurd hn (FO.nofree n)
  refine (r3 (A.deeper (callEnvC fd s.heap.objs.size (W.fa p))) (callEnvC fd s.heap.objs.size (W.fa p)) ⟨Kd ro,rfl,rfl⟩ μ2 s₁ H2.inv N).step λμ3 s3 x e z=>?_;have E:=(((H2.ext.l fμ).trans e).ext nL);refine Q6 z ?_;intro z1 z2
  rcases hf with ⟨l,rfl⟩ | ⟨rfl,l,rfl⟩
  ·induction z2 using FlR.retE with
   | ret _ r=>exact J6 μ3 E z1 r
  ·induction z2 using FlR.nextE with
   | next _=>exact J6 μ3 E z1 .none
theorem Q2b (w:Wf W){g:G}{kx:Kx}{p:P}{fn:Fn}{fd:FuncData}{body:List Stmt}{dv:List Value}(FO:FnOk W p fn fd body dv){n:Nat}{ca:G6}(B:SSs W (Fc n fd.scope fd.code) (exN (evN g kx ca 60) 60) fn.body body){vs:List V}{st:St}{k:V->St->R}(h:Hi g kx ca fn [] vs st k=true) :
  ∃ v st',k v st'=true/\∀ {A:Around}{μ:Mp}{s:Shared}{xs:List Value},Rp A n->Inv W μ st s->VRs W μ vs xs->codeAny (model W.prog W.w) A (.call (.ref (W.fa p)) ⟨xs,[]⟩) (λr s'=>match r with | .ok (.ret y)=>∃ μ',Ext μ s μ' s'/\Inv W μ' st' s'/\VR W μ' v y | _=>False) s :=
 Mv (BR:=λcs l s k=>exL (exN (evN g kx ca 60) 60) fn.body cs l s k) w FO (λcs l st k q=>B.run cs l st k q) (by obtain ⟨ps,ds,cl,bd⟩:=fn;exact h)
end
section
variable {W:Wd}
noncomputable def Fq (n:Nat)(sc:Scope):Cls:=λA env=>Ro A n/\env.scope=sc
structure NestOk (W:Wd)(fn:Fn)(nd:Nest):Prop where
 params:L4 nd.params (fn.params.map λx=>W.tab x.2)=true
 dist:((fn.params.map λx=>W.tab x.2)).Nodup
 kinds:∀ x∈fn.params,x.1=false/\nd.scope.names.lookup (W.tab x.2)=some .local
 nocells:fn.cellLocals=[]
 nocell:∀ x∈nd.scope.names,x.2≠.cell
 dflts:fn.dflts=[]
 co:nd.scope.isCoroutine=false
 gen:nd.scope.isGenerator=false
 kind:nd.scope.kind=.function
set_option tactic.hygienic true in
theorem Rx {ps:List (Bool × Nat)}{cs cs':Q4}{l l':Loc}{st st':St}{full:List V}(t:BindR cs l st ps full cs' l' st'):(∀ x∈ps,x.1=false)->cs'=cs/\st'=st/\full.length=ps.length /\
  ∀ k v,Y6 l' k=some v->Y6 l k=some v\/∃ (i:Nat)(b:Bool),ps[i]?=some (b,k)/\full[i]?=some v:=by
 induction t with
 | nil=>exact λU=>⟨rfl,rfl,rfl,λk v h=>.inl h⟩
 | loc t ih =>
  intro h;refine X0_4 (ih λx hx=>h x (.tail _ hx)) ?_;intro a b c d;refine ⟨a,b,congrArg (·+1) c,λk u hu=>?_⟩
  rcases d k u hu with q | ⟨i,b,q1,q2⟩
  ·unfold Y6 at q;split at q
   ·rename_i e;subst e;induction q using J8;exact .inr ⟨0,false,rfl,rfl⟩
   ·exact .inl q
  ·exact .inr ⟨i+1,b,q1,q2⟩
 | cel _ _ ih=>exact λh=>ff (h (true,_) (.head _)).symm
theorem Zj:∀ {names:List Str}{xs:List Value}{i:Nat}{n:Str}{x:Value},names.Nodup->names[i]?=some n->xs[i]?=some x->(names.zip xs).lookup n=some x
 | [],_,_,_,_,_,h,_=>by simp at h
 | m :: r,[],_,_,_,_,_,h=>by simp at h
 | m :: r,y :: xs,0,n,x,nd,h1,h2=>by
  simp only [List.getElem?_cons_zero,Option.some.injEq] at h1 h2;subst h1 h2;simp
 | m :: r,y :: xs,i+1,n,x,nd,h1,h2=>by
  have nd:=List.nodup_cons.mp nd;simp only [List.getElem?_cons_succ] at h1 h2;have ne:n≠m:=λe=>nd.1 (e▸List.mem_of_getElem? h1);simp only [List.zip_cons_cons,List.lookup_cons];rw [show (n==m)=false from by simpa using ne];exact Zj nd.2 h1 h2
theorem Bg:∀ {l:List (Str × Value)}{n:Str},(l.map (·.1)).Nodup->l.reverse.lookup n=l.lookup n
 | [],_,_=>rfl
 | (m,v) :: r,n,nd=>by
  simp only [List.map_cons] at nd;have nd:=List.nodup_cons.mp nd;rw [List.reverse_cons,Be,Bg nd.2];simp only [List.lookup_cons,List.lookup_nil]
  by_cases e:n=m
  ·subst e
   have:r.lookup n=none:=by
    cases q:r.lookup n with
    | none=>rfl
    | some x=>exact absurd (List.mem_map_of_mem (mem_of_lookup q)) nd.1
   rw [this];simp
  ·rw [show (n==m)=false from by simpa using e]
   cases r.lookup n <;> rfl
theorem Q2c (w:Wf W){g:G}{kx:Kx}{p:P}{fn:Fn}{nd:Nest}(NO:NestOk W fn nd)(hnd:W.nest p=some nd)(np:p≠L8/\p≠X3/\p≠D0){n:Nat}{ca:G6}(B:SSs W (Fq n nd.scope) (exN (evN g kx ca 60) 60) fn.body nd.body){cc:Q4}{vs:List V}{st:St}{k:V->St->R}(h:Hi g kx ca fn cc vs st k=true) :
  ∃ v st',k v st'=true/\∀ {A:Around}{μ:Mp}{s:Shared}{xs:List Value}{a d:Addr},Rp A n->Inv W μ st s->OR W μ s.heap a d (.clos p cc)->VRs W μ vs xs->codeAny (model W.prog W.w) A (.call (.ref a) ⟨xs,[]⟩) (λr s'=>match r with | .ok (.ret y)=>∃ μ',Ext μ s μ' s'/\Inv W μ' st' s'/\VR W μ' v y | _=>False) s:=by
 refine byC λζ=>?_;obtain ⟨ps,ds,cl,bd⟩:=fn;obtain ⟨N1,N2,N3,N4,N5,N6,N7,N8,N9⟩:=NO;dsimp only at N1 N2 N3 N4 N6;subst N4 N6;unfold Hi at h;dsimp only at h;refine Xi (M6 h) ?_;intro full cs1 l1 st1 h1 br fu;refine Q7 (E7 h1) ?_;intro cs2 st2 h2 nc;cases nc;refine X0_4 (Rx br λx hx=>(N3 x hx).1) ?_;intro ee0 ee1 fl lk;subst ee0;subst ee1;have fe:full=vs:=by have:=fu.eq;simpa using this
 subst fe;refine Q7 (B.run _ l1 _ _ h2) ?_;intro f st3 h r3;refine ζ ?_;have out:∃ v,k v st3=true/\((∃ l,f=.ret v l)\/(v=.none/\∃ l,f=.next l)):=by
  induction f using F.casesOn with
  | ret v l=>exact Z0 v h (.inl ⟨l,rfl⟩)
  | next l=>exact Z0 .none h (.inr ⟨rfl,l,rfl⟩)
  | brk=>first | exact ff h | cases h
  | cont=>first | exact ff h | cases h
 refine Q3 out ?_;intro v hv hf;refine Q9 v st3 hv (λ{A μ s xs a d} ro I oo rx=>?_);cases oo with
 | tab=>exact absurd rfl np.1
 | junk=>exact absurd rfl np.2.1
 | done=>exact absurd rfl np.2.2
 | @clos _ _ fd nd' ho hn hp hb hsc hdf hgl hbl hcd hrec hcs hfr =>
  rw [hnd] at hn
  induction hn using J8
  have xl:xs.length=full.length:=rx.length.symm;have pn:(ps.map λx=>W.tab x.2).length=ps.length:=by simp
  refine X3_3 hrec ?_;intro o1 vs1 t1 e1 e2 e3;refine codeAny_call_function (fd:=fd) (body:=nd.body) ro.room ho rfl (by rw [hsc];exact N7) (by rw [hsc];exact N8) hb ⟨d,o1,vs1,t1,hcd,e1,e2,e3⟩ (R3 (names:=ps.map λx=>W.tab x.2) (dv:=[]) (by rw [hp];exact N1) N2 (by rw [pn,xl,fl];exact Nat.le_refl _) (Nat.zero_le _) (by rw [pn,xl,fl];simp) (λhq=>by rw [hdf];exact wpAny_pure (hq _ rfl)) ?_);have hbn:xs++List.drop (([]:List Value).length - ((ps.map λx=>W.tab x.2).length - xs.length)) []=xs:=by simp
  rw [hbn];have hnames:(((ps.map λx=>W.tab x.2).zip xs).map (·.1))=ps.map λx=>W.tab x.2:=by
   rw [List.map_fst_zip (by rw [pn,xl,fl];exact Nat.le_refl _)]
  refine wpAny_newFunctionEnv (by rw [hsc];exact N5) (λy hy=>?_) (λh₁ hns hsb=>?_) (by rw [hsc];exact N9)
  ·refine Q3 (List.mem_map.mp (List.of_mem_zip hy).1) ?_;intro x hx e
   rw [<-e,hsc];exact (N3 x hx).2
  ·have hk:∀ b o,s.heap.get? b=some o->h₁.get? b=some o:=λb o z=>hsb.extBut b o (Nat.ne_of_lt (Heap.lt_size z)) (Heap.get?_push_of_some _ z)
   have e0:Ext μ s μ { s with heap:=h₁,toks:=s.toks+((ps.map λx=>W.tab x.2).zip xs).length }:=.kept hk;have I0:=I.kept (t:=s.toks+((ps.map λx=>W.tab x.2).zip xs).length) hk;refine ⟨I0.nolimit w,codeAny_func ?_⟩;have n0:s.heap.get? s.heap.objs.size=none:=Heap.get?_none_of_le (Nat.le_refl _);have f0:G9 μ s.heap.objs.size:=D4 I n0;have N:EnvR W μ { s with heap:=h₁,toks:=s.toks+((ps.map λx=>W.tab x.2).zip xs).length } (newEnv fd.scope s.heap.objs.size fd.globals fd.closure (fd.qualname++".<locals>.") (some a) fd.code none fd.builtins) cs1 l1:=by
    refine ⟨by rw [show Env.scope _=fd.scope from rfl,hsc];exact N9,hgl,hbl,f0,R2 I n0,⟨_,hns,λk v q=>?_⟩,λk q hq U=>?_,λn hn=>?_⟩
    ·rcases lk k v q with z | ⟨i,b,z1,z2⟩
     ·cases z
     ·refine Q3 (rx.nth z2) ?_;intro x hx rxv
      refine Z0 x ?_ rxv
      show List.lookup _ (List.reverse _)=_
      rw [Bg (by rw [hnames];exact N2)];exact Zj N2 (i:=i) (by rw [List.getElem?_map,z1];rfl) hx
    ·exact hcs k q hq
    ·rcases hn with hn | hn
     ·exact absurd rfl (N5 _ (by rw [<-hsc];exact mem_of_lookup hn))
     ·exact hfr n hn
   refine (r3 (A.deeper (newEnv fd.scope s.heap.objs.size fd.globals fd.closure (fd.qualname++".<locals>.") (some a) fd.code none fd.builtins)) (newEnv fd.scope s.heap.objs.size fd.globals fd.closure (fd.qualname++".<locals>.") (some a) fd.code none fd.builtins) ⟨Kd ro,hsc⟩ μ _ I0 N).step λμ3 s3 x e z=>?_
   have E:=(((e0.l f0).trans e).ext n0);refine Q6 z ?_;intro z1 z2
   rcases hf with ⟨l,rfl⟩ | ⟨rfl,l,rfl⟩
   ·induction z2 using FlR.retE with
    | ret _ r=>exact J6 μ3 E z1 r
   ·induction z2 using FlR.nextE with
    | next _=>exact J6 μ3 E z1 .none
end
section
variable {W:Wd}
noncomputable def FT.get:FT->P->Option Fn
 | .nil,_=>none
 | .node _ v _,.h=>v
 | .node l _ _,.o p=>l.get p
 | .node _ _ r,.i p=>r.get p
theorem FT.getK_of:∀ {p:P}{t:FT}{k:Fn->R},t.getK p k=true->∃ f,t.get p=some f/\k f=true
 | .h,.nil,_,h=>by first | exact ff h | cases h
 | .h,.node _ none _,_,h=>by first | exact ff h | cases h
 | .h,.node _ (some f) _,_,h=>⟨f,rfl,h⟩
 | .o p,.nil,_,h=>by first | exact ff h | cases h
 | .o p,.node l _ _,_,h=>FT.getK_of (p:=p) (t:=l) h
 | .i p,.nil,_,h=>by first | exact ff h | cases h
 | .i p,.node _ _ r,_,h=>FT.getK_of (p:=p) (t:=r) h
structure TabFn (W:Wd)(g:G)(kx:Kx):Prop where
 nests:∀ p fn,g.nt.get p=some fn->∃ nd,W.nest p=some nd/\NestOk W fn nd/\∀ n ca,CallOk W n ca->SSs W (Fq n nd.scope) (exN (evN g kx ca 60) 60) fn.body nd.body
 marks:g.nt.get L8=none/\g.nt.get X3=none/\g.nt.get D0=none
 fns:∀ p fn,g.ft.get p=some fn->∃ fd body dv,FnOk W p fn fd body dv/\keepIn W.K (.ref (W.fa p))=true/\∀ n ca,CallOk W n ca->SSs W (Fc n fd.scope fd.code) (exN (evN g kx ca 60) 60) fn.body body
theorem Tu {A:Around}{n:Nat}{C:Addr}{vals:List Value}{kw:List (Str × Value)}(r:Ro A (n+1)):Rp (A.under (.builtin "type.__call__" ⟨.ref C :: vals,kw⟩)) n:=by
 refine ⟨r.handled,?_,?_⟩
 ·have:=r.depth;show A.depth+1+8*n+44<=recursionLimit;lia
 ·have:=r.units
  have e:(Code.builtin "type.__call__" ⟨.ref C :: vals,kw⟩).cUnits=1:=rfl
  show A.units+(Code.builtin "type.__call__" ⟨.ref C :: vals,kw⟩).cUnits+30*n+220<=cLine
  rw [e];lia
set_option tactic.hygienic true in
theorem Q2d (w:Wf W){g:G}{kx:Kx}(T:TabOk W g kx)(F:TabFn W g kx){n:Nat}{ca:G6}(ih:CallOk W n ca):CallOk W (n+1) (Cs g kx ca):=by
  refine ⟨λ{f vs st k} h=>?_,λ{f vs st k} h=>?_⟩
  ·induction f using V.casesOn with
   | fn p =>
    refine byC λζ=>?_;refine Q3 (FT.getK_of (show g.ft.getK p _=true from h)) ?_;intro fn hfn h;refine X3_3 (F.fns p fn hfn) ?_;intro fd body dv FO _ B;refine Q7 (Q2b w FO (B n _ ih) h) ?_;intro v st' hv r;refine ζ ?_;refine Q9 v st' hv (λ{A μ s x xs} ro I rf rx=>?_)
    induction rf using VR.fnE
    refine wpAny_call (codeAny_mono (r ro.rp I rx) λr s' z=>?_)
    induction r using Except.casesOn with
    | error=>exact z.elim
    | ok fl=>induction fl using PySem.Flow.casesOn <;> first | exact z | exact z.elim
   | cls c =>
    refine byC λζ=>?_;refine Q3 (I7 (show Dw g.cl c _=true from h)) ?_;intro cl hcl h;have ck:=T.cls c cl hcl;obtain ⟨init,meths⟩:=cl;refine Q7 (H4 (show V9 st (.inst c []) _=true from h)) ?_;intro p st1 h al;refine ζ ?_;have mk:∀ {μ:Mp}{s:Shared},Inv W μ st s->∃ μ',Ext μ s μ' { s with heap:=(s.heap.push emptyDict).push (instObj (W.ca c) s.heap.objs.size) }/\Inv W μ' st1 { s with heap:=(s.heap.push emptyDict).push (instObj (W.ca c) s.heap.objs.size) }/\μ' p=some (s.heap.objs.size+1,s.heap.objs.size):=by
     intro μ s I;have g1:((s.heap.push emptyDict).push (instObj (W.ca c) s.heap.objs.size)).get? (s.heap.objs.size+1)=some (instObj (W.ca c) s.heap.objs.size):=by heap_get
     have g2:((s.heap.push emptyDict).push (instObj (W.ca c) s.heap.objs.size)).get? s.heap.objs.size=some emptyDict:=by heap_get
     exact I.alloc (t:=s.toks) al (λb x e=>Heap.get?_push_of_some _ (Heap.get?_push_of_some _ e)) (Heap.get?_none_of_le (Nat.le_succ _)) (Heap.get?_none_of_le (Nat.le_refl _)) (Z1 g1) (Z1 g2)
      λμ' sub=>.inst ck.lt g1 g2 ⟨λe he=>(by cases he),rfl,λk=>rfl⟩ (Nat.zero_le _) (Nat.ne_of_gt (Nat.lt_succ_self _))
    induction init using Option.casesOn with
    | some i =>
     refine byC λζ=>?_;refine Q3 (FT.getK_of (show g.ft.getK i _=true from h)) ?_;intro fn hfn h;refine X3_3 (F.fns i fn hfn) ?_;intro fd body dv FO _ B;refine Q7 (Q2b w FO (B n _ ih) h) ?_;intro v st' hv r;refine Q6 (Jw hv) ?_;intro ee0 hv;subst ee0;refine ζ ?_;refine Q9 (.ref p) st' hv (λ{A μ s x xs} ro I rf rx=>?_)
     induction rf using VR.clsE
     refine byC λζ=>?_;refine K0 (mk I) ?_;intro μ1 e1 I1 hp;obtain ⟨hh,gg,d,t,os⟩:=s;refine ζ ?_;refine wpAny_call (make_core (makes_of (I.K w) ck.makes) (looks_findIn (I.K w) ck.init.1) (λself=>bind_fn (I.K w) self ck.init.2) (.inl rfl) ?_);refine codeAny_mono (r (Tu ro) I1 (.cons (.ref hp) (rx.mono e1.sub))) λr s' z=>?_
     induction r using Except.casesOn with
     | error=>exact z.elim
     | ok fl =>
      induction fl using PySem.Flow.casesOn <;> first | exact z.elim | skip
      refine K0 z ?_;intro μ2 e2 I2 rv
      induction rv using VR.noneE
      exact ⟨rfl,μ2,e1.trans e2,I2,.ref (e2.sub _ _ hp)⟩
    | none =>
     cases h
   | ref p =>
    refine Q3 (B0 (show X1 st p _=true from h)) ?_;intro o ho h
    induction o using O.casesOn <;> first | exact ff h | (cases h;done) | skip
    rename_i f cc;refine byC λζ=>?_;refine Q3 (FT.getK_of (show g.nt.getK f _=true from h)) ?_;intro fn hfn h;refine K0 (F.nests f fn hfn) ?_;intro nd hnd NO B;have np:f≠L8/\f≠X3/\f≠D0:=⟨λe=>(by rw [e,F.marks.1] at hfn;exact nS hfn),λe=>(by rw [e,F.marks.2.1] at hfn;cases hfn),λe=>(by rw [e,F.marks.2.2] at hfn;cases hfn)⟩;refine Q7 (Q2c w NO hnd np (B n _ ih) h) ?_;intro v st' hv r;refine ζ ?_;refine Q9 v st' hv (λ{A μ s x xs} ro I rf rx=>?_);refine Y0 (Z6 I rf ho) ?_;intro a d ee2 m oo;subst ee2;refine wpAny_call (codeAny_mono (r ro.rp I oo rx) λr s' z=>?_)
    induction r using Except.casesOn with
    | error=>exact z.elim
    | ok fl=>induction fl using PySem.Flow.casesOn <;> first | exact z | exact z.elim
   | none=>first | exact ff h | cases h
   | bool=>first | exact ff h | cases h
   | int=>first | exact ff h | cases h
   | str=>first | exact ff h | cases h
  ·induction f using V.casesOn with
   | fn p =>
    obtain ⟨fn,hfn,h⟩:=FT.getK_of (show g.ft.getK p _=true from h);obtain ⟨fd,body,dv,FO,kp,B⟩:=F.fns p fn hfn;intro M μ s x I rf
    induction rf using VR.fnE
    exact keeps_K kp _ (I.K w)
   | cls c =>
    obtain ⟨cl,hcl,h⟩:=I7 (show Dw g.cl c _=true from h);intro M μ s x I rf
    induction rf using VR.clsE
    exact keeps_K (T.cls c cl hcl).keep _ (I.K w)
   | ref p =>
    obtain ⟨o,ho,h⟩:=B0 (show X1 st p _=true from h)
    induction o using O.casesOn <;> first | exact ff h | (cases h;done) | skip
    rename_i f cc;obtain ⟨fn,hfn,h⟩:=FT.getK_of (show g.nt.getK f _=true from h);intro M μ s x I rf;refine Y0 (Z6 I rf ho) ?_;intro a d ee2 m oo;subst ee2;cases oo with
    | tab=>rw [F.marks.1] at hfn;exact nS hfn
    | junk=>rw [F.marks.2.1] at hfn;exact nS hfn
    | done=>rw [F.marks.2.2] at hfn;exact nS hfn
    | clos ho'=>exact keeps_F _ ⟨_,_,_,_,ho'⟩
   | none=>first | exact ff h | cases h
   | bool=>first | exact ff h | cases h
   | int=>first | exact ff h | cases h
   | str=>first | exact ff h | cases h
end
noncomputable def Ec (x:Expr):Bool:=by
 induction x using PySem.Expr.casesOn with
 | Tuple=>exact true
 | _=>exact false
theorem Ry {env:Env}{es:List Expr}{n:Nat}{p:Pos}{value:Expr}(h:Ec value=false):swappedStores [.Tuple es n p] value env=pure none:=by
 induction value using PySem.Expr.casesOn <;> first | rfl | cases h
theorem if5 {α:Type}{a b d:α}{c1 c2 c3 c4 c5:Bool}(h1:c1=false)(h2:c2=false)(h3:c3=false)(h4:c4=false)(h5:c5=false):(if c1 then a else if c2 then a else if c3 then a else if c4 then a else if c5 then b else d)=d:=by subst h1 h2 h3 h4 h5;rfl
theorem st_of {e1 e2:Expr}(h1:Z5 e1=true)(h2:Z5 e2=true):([e1,e2].any λ| .Starred ..=>true | _=>false)=false:=by
 have k:∀ e,Z5 e=true->(match e with | .Starred ..=>true | _=>false)=false:=λe h=>by induction e using PySem.Expr.casesOn <;> first | rfl | exact ff h
 rw [List.any_cons,List.any_cons,k e1 h1,k e2 h2];rfl
theorem nm_of {env:Env}{x:Str}{l k:Nat}(k1:env.kindOf x=some .local)(hl:k=l):(if env.kindOf x==some .local&&k==l then some x else none)=some x:=by rw [k1,hl,beq_self_eq_true,beq_self_eq_true];rfl
theorem fm2 {α β:Type}{f:α->Option β}{a b:α}{x y:β}(h1:f a=some x)(h2:f b=some y):[a,b].filterMap f=[x,y]:=by rw [List.filterMap_cons_some h1,List.filterMap_cons_some h2];rfl
theorem Q2e {env:Env}{x1 x2:Str}{p1 p2 p vp:Pos}{n vn:Nat}{e1 e2:Expr}(hk:env.scope.kind=.function)(k1:env.kindOf x1=some .local)(k2:env.kindOf x2=some .local)(hl:p1.line=p2.line)(ne:x1≠x2)
  (hs:Z5 e1=true/\Z5 e2=true)(hf:[e1,e2].all (foldedForSure 8)=false)(hc:[e1,e2].all (constantsAlone 8)=false) :
  swappedStores [.Tuple [.Name x1 p1,.Name x2 p2] n p] (.Tuple [e1,e2] vn vp) env=pure (some [x1,x2]):=by
 have b:env.blockKind=.function:=by unfold Env.blockKind;rw [hk];rfl
 have nm:[Expr.Name x1 p1,.Name x2 p2].filterMap (λ| .Name id pos=>if env.kindOf id==some .local&&pos.line==p1.line then some id else none | _=>none)=[x1,x2]:=by
  refine fm2 ?_ ?_
  ·exact nm_of k1 rfl
  ·exact nm_of k2 hl.symm
 have q:(x2==x1)=false:=beq_eq_false_iff_ne.mpr ne.symm;have er:[x1,x2].eraseDups=[x1,x2]:=by
  rw [List.eraseDups_cons,List.filter_cons,q];rfl
 refine (if5 (c1:=false||env.blockKind !=.function) (by rw [b];rfl) (st_of hs.1 hs.2) ?_ hf hc).trans (congrArg (λz=>pure (some z)) nm);refine (congrArg (λz:List Str=>z.length !=2||z.eraseDups.length !=z.length) nm).trans ?_;rw [er];rfl
section
variable {W:Wd}
end
section
variable {W:Wd}
set_option tactic.hygienic true in
theorem Inv.setE {μ:Mp}{st st':St}{s:Shared}(I:Inv W μ st s){p:P}{o:O}{a d:Addr}{h':Heap}{t:Nat}(hk:SetR st p o st')(m:μ p=some (a,d))
  (hs:∀ b x,b≠a->s.heap.get? b=some x->h'.get? b=some x)(r:OR W μ h' a d o) :
  Ext μ s μ { s with heap:=h',toks:=t }/\Inv W μ st' { s with heap:=h',toks:=t }:=by
 obtain ⟨hn,h2⟩:=hk;have lv:∀ b,b≠a->s.heap.get? b≠none->h'.get? b≠none:=λb n l=>by
  cases q:s.heap.get? b with
  | none=>exact absurd q l
  | some x=>exact Z1 (hs b x n q)
 have hl:h'.get? d≠none:=by
  by_cases q:d=a
  ·rw [q];exact r.live
  ·exact lv d q (I.lt p a d m).2.2
 refine ⟨⟨λU U h=>h,λU U U h q=>(by rw [h] at q;exact sN q),λc x e f=>hs c x (f p a d m).1 e,rfl⟩,⟨λc x e=>?_,I.fresh,λq x e=>?_,λq x y e=>?_,I.inj⟩⟩
 ·have:=I.fresh p a d m
  exact hs c x (λz=>by rw [z,this.1] at e;exact nS e) (I.keep c x e)
 ·rw [h2] at e;split at e
  ·rename_i z;subst z;induction e using J8;exact Q9 a d m r
  ·rename_i z
   refine Q7 (I.objs q _ e) ?_;intro x' y' m' rr;have:=I.inj q p x' y' a d m' m z;exact Q9 x' y' m' (rr.at (λU U h=>h) (λo e=>hs x' o this.1 e) λo e=>hs y' o this.2.2.1 e)
 ·have l:=I.lt q x y e
  refine ⟨by rw [hn];exact l.1,?_,?_⟩
  ·by_cases z:q=p
   ·subst z;rw [e] at m;induction m using K6;exact r.live
   ·exact lv x (I.inj q p x y a d e m z).1 l.2.1
  ·by_cases z:q=p
   ·subst z;rw [e] at m;induction m using K6;exact hl
   ·exact lv y (I.inj q p x y a d e m z).2.2.1 l.2.2
set_option tactic.hygienic true in
theorem Inv.adopt2 {μ μ₁:Mp}{st₀ st st':St}{s s₁:Shared}{o:O}{p:P}{a d:Addr}(I₀:Inv W μ st₀ s)(E:Ext μ s μ₁ s₁)(I:Inv W μ₁ st s₁)(al:AllocR st o p st')(ha:s.heap.get? a=none)(hd:s.heap.get? d=none)(fa:G9 μ₁ a)(fd:G9 μ₁ d)(ld:s₁.heap.get? d≠none)
  (r:∀ μ',(∀ p x,μ₁ p=some x->μ' p=some x)->OR W μ' s₁.heap a d o):∃ μ',Ext μ s μ' s₁/\Inv W μ' st' s₁/\μ' p=some (a,d)/\∀ q x,μ₁ q=some x->μ' q=some x:=by
 obtain ⟨rfl,h3,h2⟩:=al;have z0:∀ b,s.heap.get? b=none->W.h₀.get? b=none:=λb e=>Y3 (λo h=>I₀.keep b o h) e;have un:μ₁ st.n=none:=I.unused;have sub:=Mj (x:=(a,d)) un;refine Xj (put μ₁ st.n (a,d)) ⟨λq x m=>sub _ _ (E.sub q x m),λq x y e n=>?_,E.keep,E.rest⟩ ⟨I.keep,λq x y e=>?_,λq x e=>?_,λq x y e=>?_,λq q' x y z u e e' ne=>?_⟩ (by unfold put;rw [if_pos rfl]) sub
 ·unfold put at e;split at e
  ·induction e using K6;exact ⟨⟨ha,hd⟩,λq x y m=>fa q x y (E.sub _ _ m),λq x y m=>fd q x y (E.sub _ _ m)⟩
  ·exact E.new q x y e n
 ·unfold put at e;split at e
  ·induction e using K6;exact ⟨z0 _ ha,z0 _ hd⟩
  ·exact I.fresh q x y e
 ·rw [h2] at e;split at e
  ·rename_i z;subst z;induction e using J8;exact Q9 a d (by unfold put;rw [if_pos rfl]) (r _ sub)
  ·refine Q7 (I.objs q _ e) ?_;intro x' y m rr
   exact Q9 x' y (sub _ _ m) (rr.at sub (λo e=>e) λo e=>e)
 ·unfold put at e;split at e
  ·rename_i z;subst z;induction e using K6
   exact ⟨by rw [h3];lia,(r μ₁ λU U h=>h).live,ld⟩
  ·have l:=I.lt q x y e
   exact ⟨by have:=l.1;rw [h3];lia,l.2.1,l.2.2⟩
 ·unfold put at e e'
  split at e
  ·induction e using K6
   split at e'
   ·rename_i q1 q2;exact absurd (q1.trans q2.symm) ne
   ·have l:=fa q' z u e';have l':=fd q' z u e';exact ⟨l.1,l.2,l'.1,l'.2⟩
  ·split at e'
   ·induction e' using K6;have l:=fa q x y e;have l':=fd q x y e;exact ⟨l.1.symm,l'.1.symm,l.2.symm,l'.2.symm⟩
   ·exact I.inj q q' x y z u e e' ne
set_option tactic.hygienic true in
theorem Af:∀ {ks:List Nat}{cs:Q4}{k:Q4->R},Q6v cs ks k=true->∃ cc,k cc=true/\∀ j p,Y6 cc j=some p->j∈ks/\Y6 cs j=some p
 | [],cs,k,h=>⟨[],h,λj p e=>by cases e⟩
 | n :: r,cs,k,h=>by
  refine byC λζ=>?_;refine Q3 (G0 (show V6 cs n (λp=>Q6v cs r λr'=>k ((n,p) :: r')) (λU=>false)=true from h)) ?_;intro p hp h;refine Q3 (Af h) ?_;intro cc h l;refine ζ ?_;refine Z0 ((n,p) :: cc) h (λj q e=>?_);unfold Y6 at e;split at e
  ·rename_i z;subst z;induction e using J8;exact ⟨.head _,hp⟩
  ·exact ⟨.tail _ (l j q e).1,(l j q e).2⟩
theorem P.beq_of:∀ {p q:P},P.beq p q=true->p=q
 | .h,.h,_=>rfl
 | .o a,.o b,x=>by rw [P.beq_of (p:=a) (q:=b) x]
 | .i a,.i b,x=>by rw [P.beq_of (p:=a) (q:=b) x]
 | .h,.o _,x=>by cases x
 | .h,.i _,x=>by cases x
 | .o _,.h,x=>by cases x
 | .o _,.i _,x=>by cases x
 | .i _,.h,x=>by cases x
 | .i _,.o _,x=>by cases x
set_option tactic.hygienic true in
theorem Q2f {o:O}{k:Unit->R}(h:isTab o k=true):∃ cs,o=.clos L8 cs/\k ()=true:=by
 induction o using O.casesOn <;> first | exact ff h | (cases h;done) | skip
 rename_i f cs;have h:=bT (a:=k ()) (b:=P.beq f L8) h;exact Z0 cs (by rw [P.beq_of h.1]) h.2
noncomputable def R4 (p:Arguments):Bool:=match p with
 | ⟨po,args,va,ko,kd,kw,ds⟩=>po.isEmpty&&va.isNone&&ko.isEmpty&&kw.isNone&&kd.isEmpty&&ds.isEmpty&&args.all (·.annotation.isNone)
theorem Zs {env:Env}{args:List Arg}(h:args.all (·.annotation.isNone)=true):annotationsOf args env=[]:=by
 induction args with
 | nil=>rfl
 | cons x r ih =>
  obtain ⟨a,an,p⟩:=x
  induction an using Option.casesOn with
  | some=>cases h
  | none=>exact ih h
theorem Q2g {p:Arguments}(h:R4 p=true)(env:Env):annTrees p none env=[]/\p.defaults=[]/\p.kw_defaults=[]:=by
 refine byC λζ=>?_;obtain ⟨po,args,va,ko,kd,kw,ds⟩:=p;unfold R4 at h;simp only [Bool.and_eq_true,List.isEmpty_iff,Option.isNone_iff_eq_none] at h;refine Q6 h ?_;intro zz0 h;obtain ⟨⟨⟨⟨⟨rfl,rfl⟩,rfl⟩,rfl⟩,rfl⟩,rfl⟩:=zz0;refine ζ ?_;refine ⟨?_,rfl,rfl⟩;unfold annTrees;simp only [List.append_nil,Option.toList];rw [Zs (by simpa using h)]
 rfl
theorem Q8c (w:Wf W){C:Cls}{c:Bool}{n:Nat}{f:P}{caps:List Nat}{name:Str}{params:Arguments}{body:List Stmt}{scope:Scope}{pos:Pos}(hn:W.tab n=name)(hk:∀ A env,C A env->V2 env c name=true)(hp:R4 params=true)
  (hnest:W.nest f=some ⟨params,body,scope⟩)(hmk:W.nest L8=none)(hcode:∀ A env,C A env->env.code=.ref W.tc)(hfree:∀ A env,C A env->∀ x∈scope.names,x.2=.free->env.kindOf x.1=some .cell\/env.kindOf x.1=some .free)(hcaps:∀ k∈caps,(W.tab k,NameKind.free)∈scope.names) :
  SS W C (sDefc c n f caps) (exec (.FunctionDef name params body [] none [] scope none name pos)):=λcs l st k q=>by
 subst hn;refine byC λζ=>?_;refine Q3 (Af (show Q6v cs caps _=true from q)) ?_;intro cc q hcc;refine Q3 (B0 q) ?_;intro o ho q1;refine Q3 (Q2f q1) ?_;intro cs' ee1 q2;subst ee1;refine Q3 (I8 q2) ?_;intro st1 q3 sr;refine Q7 (H4 q3) ?_;intro p st2 q al;refine Q7 (M5 w q) ?_;intro l' st3 q r3;refine ζ ?_;refine Q9 (.next l') st3 q (λA env X μ s I N=>?_);refine byC λζ=>?_;refine Ui (Q2g hp env) ?_;intro b1 b2 b3;refine Q7 (I.objs _ _ ho) ?_;intro a d m oo;refine ζ ?_;have hP:s.heap.get? a=some (tabObj #[])/\a=W.tp:=by
  cases oo with
  | clos _ hn'=>rw [hmk] at hn';exact nS hn'
  | tab h1 h2=>exact ⟨h1,h2⟩
 refine byC λζ=>?_;refine Q6 hP ?_;intro hP ee1;subst ee1;refine K0 (Bb (scope:=scope) (env:=env) λx hx hf=>N.full x.1 (hfree A env X x hx hf)) ?_;intro cl hcl cl1 cl2;refine Q3 w.bat ?_;intro mg hg zz2;obtain ⟨bm,ob,bb⟩:=zz2;refine ζ ?_;refine nestDef_K b2 b3 b1 ?_;refine makeFunction_K hcl N.glob (hg.keeps I.keep) (hcode A env X) (w.tabc.keeps I.keep) hP trivial rfl w.tabg ⟨bm,ob,bb.1,bb.2.1,bb.2.2.1,bb.2.2.2.1,I.keep _ _ bb.2.2.2.2.1,bb.2.2.2.2.2⟩ λc' ctv doc h' tk hx hge hlt hrec htb=>?_;refine byC λζ=>?_;obtain ⟨c₂,o₂,vs₂,t₂,e₂,g₂,d₂,v₂⟩:=hrec;cases e₂;have hk':∀ b x,b≠W.tp->s.heap.get? b=some x->(h'.push (fnMade (W.tab n) (qualnameIn env (W.tab n) (W.tab n)) params body scope cl doc ((mg "__name__").getD .none) c' ctv)).get? b=some x:=λb x ne e=>Heap.get?_push_of_some _ (hx b x ne e)
 refine Q6 (I.setE (t:=tk) sr m hk' (.done ⟨_,Heap.get?_push_of_some _ htb⟩ rfl)) ?_;intro E1 I1;have n1:s.heap.get? h'.objs.size=none:=Heap.get?_none_of_le (by lia);have n2:s.heap.get? c'=none:=Heap.get?_none_of_le hge;refine ζ ?_;obtain ⟨μ',E2,I2,hp',sub⟩:=I.adopt2 E1 I1 al n1 n2 (D4 I n1) (D4 I n2) (Z1 (Heap.get?_push_of_some _ g₂)) λμ' sub =>
  .clos (Heap.get?_push_size _ rfl) hnest rfl rfl rfl rfl rfl rfl rfl ⟨o₂,vs₂,t₂,Heap.get?_push_of_some _ g₂,d₂,v₂⟩ (λj p' e=>by
   refine byC λζ=>?_;refine Q6 (hcc j p' e) ?_;intro z1 z2;have mem:=hcaps j z1;refine Q7 (N.cells j p' z2 (hfree A env X _ mem rfl)) ?_;intro x y z3 z4;refine J2 (Option.isSome_iff_exists.mp (cl2 _ mem rfl)) ?_;intro b hb;refine ζ ?_;have:=cl1 _ _ hb
   rw [z4] at this;induction this using J8;exact Q9 _ y (sub _ _ z3) hb) λn hn=>cl2 _ (mem_of_lookup hn) rfl
 refine (r3 (hk A env X) I2 (N.ext E2) (.ref hp')).step λμ3 s3 U e3 z3=>?_;exact J6 μ3 ((E2.l N.free).trans e3) z3.1 (.next z3.2.1)
end
section
variable {prog:Program}{w:World}{A:Around}{E:Value->Shared->Prop}{s:Shared}
structure SetS (prog:Program)(w:World)(h:Heap)(a:Addr)(es:Array (Int × Value))(ep:Nat)(t:SetTable):Prop where
 ob:∃ o,h.get? a=some o/\o.ExactSet/\o.data=.set es ep t
 el:ElemsOf (PySem.strKind prog w) es.toList
 sz:es.size<scanBound
 fit:t.fits es.size=true
 pl:es.size≠0->t.plain=false
noncomputable def Y9 (es:List (Int × Value)):List Str:=es.map λe=>strOf e.2
theorem Q2h {k:Str}{v:Value}(h:(PySem.strKind prog w).is k v=true):∃ t,v=.str k t:=by
 induction v using PySem.Value.casesOn <;> first | (simp [PySem.strKind,Value.isStrOf] at h;done) | skip
 simp [PySem.strKind,Value.isStrOf] at h;subst h;exact ⟨_,rfl⟩
theorem Q2i {es:List (Int × Value)}(h:ElemsOf (PySem.strKind prog w) es){e:Int × Value}(he:e∈es):∃ t,e.2=.str (strOf e.2) t:=by
 refine byC λζ=>?_;refine Q6 (h e he) ?_;intro zz0 _;obtain ⟨k,hk,_⟩:=zz0;refine J2 (Q2h hk) ?_;intro t q;refine ζ ?_;rw [q];exact ⟨t,rfl⟩
set_option tactic.hygienic true in
theorem Tv {t:SetTable}{es:Array (Int × Value)}{n:Nat}(h:t.plain=false):(relayAll t es n).2.1.plain=false:=by
 unfold relayAll
 split
 ·rename_i t' order hr
  dsimp only
  split
  ·unfold SetTable.relaid SetTable.laid at hr
   cases q:SetTable.layClean (SetTable.sizeAbove n - 1) (es.map (·.1)) with
   | none=>rw [q] at hr;cases hr
   | some owner=>rw [q] at hr;cases hr;exact h
  ·rfl
 ·rfl
theorem SetS.store {h:Heap}{a:Addr}{es:Array (Int × Value)}{ep:Nat}{t:SetTable}(S:SetS prog w h a es ep t){es':Array (Int × Value)}{t':SetTable}(el:ElemsOf (PySem.strKind prog w) es'.toList)(sz:es'.size<scanBound)(fit:t'.fits es'.size=true)(pl:es'.size≠0->t'.plain=false) :
  SetS prog w (h.update a (Obj.putSet es' t')) a es' (ep+1) t':=by
 refine K0 S.ob ?_;intro o ho hex hd;have hg:(h.update a (Obj.putSet es' t')).get? a=some { o with data:=.set es' (ep+1) t' }:=by
  have:=Heap.get?_update_self (Obj.putSet es' t') ho (by rw [putSet_of es' t' hd];rfl);rw [putSet_of es' t' hd] at this;exact this
 exact ⟨⟨_,hg,hex,rfl⟩,el,sz,fit,pl⟩
set_option tactic.hygienic true in
theorem Q8d {a:Addr}{es:Array (Int × Value)}{ep:Nat}{t:SetTable}{x:Str}{tk:Tok}{Q:Bool->Shared->Prop}(S:SetS prog w s.heap a es ep t)(hroom:es.size+1<scanBound)
  (h:∀ h' es' ep' t' b,Heap.SameBut a s.heap h'->SetS prog w h' a es' ep' t'->((x∈Y9 es.toList/\(Y9 es'.toList).Perm (Y9 es.toList))\/(x ∉ Y9 es.toList/\(Y9 es'.toList).Perm (Y9 es.toList++[x])))->Q b { s with heap:=h' }) :
  wpAny (model prog w) A (setAddHashed a (.str x tk) ((PySem.strKind prog w).hash x)) Q E s:=by
 have hkey:(PySem.strKind prog w).is x (.str x tk)=true:=strKind_is prog w x tk;have S0:=S;obtain ⟨⟨o,ho,hex,hd⟩,hel,hb,hf,hpl⟩:=S;unfold setAddHashed setAddHashedIn;refine wpAny_holding (wpAny_bind (wpAny_setState_of ho hd hf ?_));dsimp only;rw [byScan_of (knd:=PySem.strKind prog w) rfl hb hel];simp only [↓reduceIte];unfold setAddByScan;refine wpAny_bind ?_;refine wpAny_bind (wpAny_rule ?_);refine wpAny_bind (wpAny_setScan_of hkey ho hd hf hel ?_);have memE:∀ e∈es.toList,(PySem.strKind prog w).is x e.2=true↔strOf e.2=x:=λe he=>by
  refine J2 (Q2i hel he) ?_;intro tt q
  constructor
  ·intro z;refine J2 (Q2h z) ?_;intro t2 q2;rw [q2];rfl
  ·intro z;rw [q,z];exact strKind_is prog w x tt
 cases hr:List.findIdx? (λe=>(PySem.strKind prog w).is x e.2) es.toList with
 | some j =>
  dsimp only;refine Q3 (List.findIdx?_eq_some_iff_getElem.mp hr) ?_;intro hj hpj _;refine wpAny_pure (wpAny_pure ?_);have e:s={ s with heap:=s.heap }:=by induction s using PySem.Shared.casesOn;rfl
  rw [e];refine h s.heap es ep t _ (Heap.SameBut.refl a s.heap) S0 (.inl ⟨?_,.refl _⟩);exact List.mem_map.mpr ⟨es.toList[j],List.getElem_mem hj,(memE _ (List.getElem_mem hj)).mp hpj⟩
 | none =>
  dsimp only;have nin:x ∉ Y9 es.toList:=λq=>by
   refine Q3 (List.mem_map.mp q) ?_;intro e he q;have:=List.findIdx?_eq_none_iff.mp hr e he;rw [(memE e he).mpr q] at this;cases this
  have hgw:∀ (b:Bool){s₁:Shared}{Q':Unit->Shared->Prop},Q' () s₁->wpAny (model prog w) A (match b with | true=>rule "set.scan.the-table-gave-way" | false=>pure ()) Q' E s₁ :=
   λb s₁ Q' hq=>by induction b using Bool.casesOn <;> first | exact wpAny_pure hq | exact wpAny_rule hq
  have hperm:=layNew_perm t es ((PySem.strKind prog w).hash x) (.str x tk);have hfits:=layNew_fits t es ((PySem.strKind prog w).hash x) (.str x tk);generalize hL:layNew t es ((PySem.strKind prog w).hash x) (.str x tk)=L at hperm hfits ⊢;obtain ⟨es1,t1,wasDummy,gave⟩:=L;dsimp only at hperm hfits ⊢;rw [Array.toList_push] at hperm;have hel1:ElemsOf (PySem.strKind prog w) es1.toList:=(hel.push hkey rfl).perm hperm;have hsz1:es1.size=es.size+1:=by rw [<-Array.length_toList,hperm.length_eq,List.length_append,Array.length_toList];rfl
  have hb1':es1.size<scanBound:=by rw [hsz1];exact hroom
  have hnm:(Y9 es1.toList).Perm (Y9 es.toList++[x]):=by
   have:=hperm.map λe:Int × Value=>strOf e.2
   simpa [Y9,strOf] using this
  refine wpAny_bind (hgw _ ?_);have tail:∀ (t2:SetTable),t2.fits es1.size=true->t2.plain=false->wpAny (model prog w) A (do
    storeSet a es1 t2
    if (!wasDummy&&t2.tooFull)=true then do
      (match (relayAll t2 es1 (SetTable.grown es1.size)).2.2 with | true=>rule "set.scan.the-table-gave-way" | false=>pure ())
      storeSet a (relayAll t2 es1 (SetTable.grown es1.size)).1 (relayAll t2 es1 (SetTable.grown es1.size)).2.1
      pure (some true)
     else pure (some true)) (λr s'=>wpAny (model prog w) A (match r with | some added=>pure added | none=>setAddHashedIn a (.str x tk) ((PySem.strKind prog w).hash x) 99999) Q E s') E s:=by
   intro t2 hf2 hp2;refine wpAny_bind (wpAny_storeSet_of ho hd ?_ (fits_of_scanBound hb1'));have S1:=S0.store hel1 hb1' hf2 λU=>hp2;have hsb1:=Heap.SameBut.update s.heap a (Obj.putSet es1 t2)
   split
   ·have hp:=relayAll_perm t2 es1 (SetTable.grown es1.size)
    have hfr:=relayAll_fits t2 es1 (SetTable.grown es1.size);have hpr:=Tv (es:=es1) (n:=SetTable.grown es1.size) hp2;generalize hRl:relayAll t2 es1 (SetTable.grown es1.size)=Rl at hp hfr hpr ⊢;obtain ⟨es2,t3,gave2⟩:=Rl;dsimp only at hp hfr hpr ⊢;have hsz:es2.size=es1.size:=by rw [<-Array.length_toList,hp.length_eq,Array.length_toList]
    have hb2:es2.size<scanBound:=by rw [hsz];exact hb1'
    refine wpAny_bind (hgw _ ?_);refine K0 S1.ob ?_;intro o1 ho1 hex1 hd1;refine wpAny_bind (wpAny_storeSet_of (s:={ s with heap:=_ }) ho1 hd1 ?_ (fits_of_scanBound hb2));have S2:=S1.store (hel1.perm hp) hb2 hfr λU=>hpr;exact wpAny_pure (wpAny_pure (h _ es2 _ t3 _ (hsb1.trans (Heap.SameBut.update _ a _)) S2 (.inr ⟨nin,((hp.map _).trans hnm)⟩)))
   ·exact wpAny_pure (wpAny_pure (h _ es1 _ t2 _ hsb1 S1 (.inr ⟨nin,hnm⟩)))
  split
  ·refine wpAny_bind ?_
   rw [hashByValue_scannable 8 rfl];refine wpAny_pure ?_;exact tail _ (SetTable.fits_plain_off hfits) rfl
  ·rename_i q
   refine wpAny_bind (wpAny_pure ?_);simp only [↓reduceIte];exact tail _ hfits (by simpa using q)
end
noncomputable def R5 (acc:List Str)(x:Str):List Str:=if x∈acc then acc else acc++[x]
noncomputable def C0 (ss:List Str):List Str:=ss.foldl R5 []
theorem Tw {ss:List Str}{i:Nat}{x:Str}(h:ss[i]?=some x):C0 (ss.take (i+1))=R5 (C0 (ss.take i)) x:=by
 unfold C0;rw [List.take_succ,h,List.foldl_append];rfl
theorem Ed {vs:List Value}{ss:List Str}(H:StrsAre vs ss):∀ (i:Nat)(v:Value),vs[i]?=some v->∃ x t,ss[i]?=some x/\v=.str x t:=by
 induction H with
 | nil=>intro i v h;cases h
 | cons n t hr ih =>
  intro i v h
  induction i using Nat.casesAuxOn with
  | zero=>cases h;exact Q9 n t rfl rfl
  | succ i=>exact ih i v h
section
variable {prog:Program}{w:World}{A:Around}{R:Result->Shared->Prop}{I:Addr}{fp wr:List Addr}{G:Array GenState->Array GenState->Prop}{n:Nat}{P:Nat->Value->Prop}{St:Nat->Shared->Prop}
theorem SetS.at {h h':Heap}{a:Addr}{es:Array (Int × Value)}{ep:Nat}{t:SetTable}(S:SetS prog w h a es ep t)(k:∀ o,h.get? a=some o->h'.get? a=some o):SetS prog w h' a es ep t :=
 ⟨let ⟨o,ho,r⟩:=S.ob;⟨o,k o ho,r⟩,S.el,S.sz,S.fit,S.pl⟩
theorem Mw (W:WalksS prog w A.in1 I fp wr G n P St)(S:Addr)(hSf:S ∉ fp)(ss:List Str)(hval:∀ i v,P i v->∃ x t,ss[i]?=some x/\v=.str x t)(hb:n+1<scanBound) :
  ∀ (k i:Nat)(s:Shared)(es:Array (Int × Value))(ep:Nat)(t:SetTable),n - i=k->i<=n->St i s->SetS prog w s.heap S es ep t->es.size<=i->(Y9 es.toList).Perm (C0 (ss.take i)) ->
   (∀ s' es' ep' t',Moved (S :: wr) G s s'->SetS prog w s'.heap S es' ep' t'->(Y9 es'.toList).Perm (C0 (ss.take n))->R (.ok (.ret .none)) s') ->
   codeAny (model prog w) A (.builtin "set.update.loop" ⟨[.ref S,.ref I],[]⟩) R s:=by
 have hSw:S ∉ wr:=λh=>hSf (W.sub _ h);have hsub:∀ b∈wr,b∈S :: wr:=λb hb=>List.mem_cons_of_mem _ hb;intro k
 induction k with
 | zero =>
  intro i s es ep t hk hi hst hS hz hN hR;have hin:i=n:=by lia
  subst hin;refine codeAny_builtin F.entry_set_update_loop ?_;rw [Around.under_plainId F.plain_set_update_loop _]
  show wpAny _ A.in1 (pyNext (.ref I) >>= _) _ _ s
  refine wpAny_bind (W.done s _ _ hst λs' hm=>?_)
  show wpAny _ A.in1 (ret Value.none) _ _ s'
  exact wpAny_pure (hR s' es ep t (hm.mono hsub) (hS.at λo e=>hm.heap S _ hSw e) hN)
 | succ k ih =>
  intro i s es ep t hk hi hst hS hz hN hR;have hlt:i<n:=by lia
  refine codeAny_builtin F.entry_set_update_loop ?_;rw [Around.under_plainId F.plain_set_update_loop _]
  show wpAny _ A.in1 (pyNext (.ref I) >>= _) _ _ s
  refine wpAny_bind (W.item i s _ _ hlt hst λv s' hP hst' hm=>?_);refine Q7 (hval i v hP) ?_;intro x tk hx ee3;subst ee3;have hS':=hS.at λo e=>hm.heap S _ hSw e
  show wpAny _ A.in1 (holding [Value.str x tk] (setAdd S (.str x tk)) >>= _) _ _ s'
  refine wpAny_bind (wpAny_holding ?_);unfold setAdd;refine wpAny_holding ?_;refine wpAny_bind ((PySem.strKind prog w).pyHash (k:=x) (strKind_is _ _ _ _) ?_);refine Q8d (s:={ s' with toks:=s'.toks+1 }) hS' (by lia) λh' es' ep' t' b hsb hS2 hN2=>?_;have hz':es'.size<=i+1:=by
   have e1:(Y9 es'.toList).length=es'.size:=by simp [Y9]
   have e2:(Y9 es.toList).length=es.size:=by simp [Y9]
   rcases hN2 with ⟨_,q⟩ | ⟨_,q⟩
   ·have:=q.length_eq;lia
   ·have:=q.length_eq;simp only [List.length_append,List.length_singleton] at this;lia
  have hN':(Y9 es'.toList).Perm (C0 (ss.take (i+1))):=by
   rw [Tw hx];unfold R5
   rcases hN2 with ⟨m,q⟩ | ⟨m,q⟩
   ·rw [if_pos (hN.mem_iff.mp m)];exact q.trans hN
   ·rw [if_neg (λz=>m (hN.mem_iff.mpr z))];exact q.trans (hN.append_right _)
  refine wpAny_pure ⟨plainId_quiet F.plain_set_update_loop _,ih (i+1) _ es' ep' t' (by lia) hlt (W.frame _ s' _ _ hst' (Nat.le_succ _) λb hb o e=>?_) hS2 hz' hN' λs'' es'' ep'' t'' hm'' hS'' hN''=>?_⟩
  ·rw [hsb.2 b (λh:b=S=>hSf (by rw [<-h];exact hb))];exact e
  ·refine hR s'' es'' ep'' t'' (Moved.trans W.gtrans ((hm.mono hsub).then_heap (Nat.le_succ _) λb o hb e=>?_) hm'') hS'' hN''
   rw [hsb.2 b (λh:b=S=>hb (by rw [h];exact List.mem_cons_self))];exact e
end
section
variable {prog:Program}{w:World}{A:Around}{E:Value->Shared->Prop}{s:Shared}
theorem Dz {l:Addr}{items:Array Value}{ss:List Str}{Q:Value->Shared->Prop}
  (hh:A.handled=none)(hl:s.heap.IsList l items)(hi:StrsAre items.toList ss)(hb:items.size+1<scanBound)
  (h:∀ (h':Heap)(tk:Nat) es ep t,SetS prog w h' s.heap.objs.size es ep t->(Y9 es.toList).Perm (C0 ss) ->
   (∀ b o,b<s.heap.objs.size->s.heap.get? b=some o->h'.get? b=some o)->Q (.ref s.heap.objs.size) { s with heap:=h',toks:=tk }) :
  wpAny (model prog w) A (call (.type "set") [.ref l]) Q E s:=by
 have htake:ss.take items.size=ss:=by
  have:items.toList.length=ss.length:=by
   have:∀ {vs:List Value}{ss:List Str},StrsAre vs ss->vs.length=ss.length:=λh=>by induction h <;> simp_all
   exact this hi
  rw [<-Array.length_toList,this,List.take_length]
 refine Jp F.called_set.mro ?_;intro c tl hmro;have hmade:=F.called_set.made;have hsub:=F.called_set.sub;refine wpAny_call (codeAny_of_tree ?_)
 show wpAny _ _ (callAny (.type "set") _) _ _ _
 refine wpAny_pure ⟨Code.quiet_builtin _ (by decide +kernel),codeAny_builtin F.entry_type_call ?_⟩;rw [Around.under_plain (weight_type_call_type "set" [.ref l] []) rfl]
 have h1:=F.called_set.notType;have h2:=F.called_set.canCreate;have hct:=F.typeCall_set_1 (.ref l)
 repeat (any_goals (first | assumption | wp_step))
 clear h2;refine codeAny_mono (code_set_new_1 (.ref l) (E:=E) (Q₁:=λobj s₁=>∃ led:Bool,obj=.ref s.heap.objs.size/\s₁={ s with heap:=s.heap.push { cls:=.type "set",dict:=none,data:=.set #[] 0 (.fresh 0 0 led) } }) λled=>⟨led,rfl,rfl⟩) λr s₁ hr=>?_
 induction r using Except.casesOn with
 | error e=>exact hr
 | ok fl =>
  induction fl using PySem.Flow.casesOn with
  | ret obj =>
   refine Q3 hr ?_;intro led ee1 ee2;subst ee1;subst ee2;have hS:(s.heap.push { cls:=.type "set",dict:=none,data:=.set #[] 0 (.fresh 0 0 led) }).get? s.heap.objs.size=some { cls:=.type "set",dict:=none,data:=.set #[] 0 (.fresh 0 0 led) }:=Heap.get?_push_size _ rfl
   have hT:Shared.TypeIs { s with heap:=s.heap.push { cls:=.type "set",dict:=none,data:=.set #[] 0 (.fresh 0 0 led) } } (.ref s.heap.objs.size) "set":=⟨_,hS,rfl⟩
   have hli:=F.called_set.init.lookup;have hbi:=F.called_set.init.bind (.ref s.heap.objs.size)
   repeat (any_goals (first | assumption | wp_step))
   refine codeAny_mono (codeAny_call_builtin (R:=wants (λr s₂=>r=.none/\∃ h' tk es ep t,s₂={ s with heap:=h',toks:=tk } /\
     SetS prog w h' s.heap.objs.size es ep t/\(Y9 es.toList).Perm (C0 ss) /\
     (∀ b o,b<s.heap.objs.size->s.heap.get? b=some o->h'.get? b=some o)) E) F.called_set.init.plain F.entry_set_init (check_set_init_1 hT ?_)) λr₂ s₂ hr₂=>?_
   ·refine byC λζ=>?_;obtain ⟨ol,hol,hcl,nl,hdl⟩:=hl
    obtain ⟨ocls,odict,odata,oslots⟩:=ol;refine ζ ?_;simp only at hcl hdl;subst hcl;subst hdl;have hol':(s.heap.push { cls:=.type "set",dict:=none,data:=.set #[] 0 (.fresh 0 0 led) }).get? l=some { cls:=.type "list",dict:=odict,data:=.seq items nl,slots:=oslots }:=Heap.get?_push_of_some _ hol
    have hsls:=F.sub_list_set;have hslf:=F.sub_list_frozenset;have hne:(Value.type "list"==Value.type "dict")=false:=by decide
    have hl1:(s.heap.push { cls:=.type "set",dict:=none,data:=.set #[] 0 (.fresh 0 0 led) }).IsList l items:=⟨_,hol',rfl,nl,rfl⟩
    unfold Builtin.«set.__init__» noKeywords Builtin.Frozenset.updateFrom;generalize hPI:pyIter=PI
    repeat (first | with_reducible (first | refine wpAny_pure ?_ | refine wpAny_bind ?_ | refine wpAny_holding ?_ | refine wpAny_standAt ?_ | refine wpAny_point ?_ | refine wpAny_rule ?_ | refine wpAny_letGo ?_ | refine wpAny_fresh' ?_ | refine wpAny_alloc' ?_ | refine wpAny_attempt ?_ | refine wpAny_throw ?_ | refine wpAny_of_eq (by assumption) ?_ | refine wpAny_typeOf (by assumption) ?_ | refine wpAny_specialOf_val (by assumption) (by assumption) ?_ | refine wpAny_specialOf (by assumption) (by assumption) ?_ | refine wpAny_isInstance_val (by assumption) (by assumption) ?_ | refine wpAny_isInstance (by assumption) (by assumption) ?_ | refine wpAny_call ?_ | refine wpAny_runValue ?_ | refine wpAny_run ?_) | ((with_reducible apply wpAny_load');focus (heap_get;done)) | ((with_reducible apply wpAny_update');focus (heap_get;done)) | ((with_reducible apply wpAny_loadPart');focus (heap_get;done)) | ((with_reducible apply wpAny_updatePart');focus (heap_get;done)) | ((with_reducible apply wpAny_handled_none);focus (assumption;done)) | ((with_reducible apply wpAny_ite_false);focus (rfl;done)) | ((with_reducible apply wpAny_ite_true);focus (rfl;done)) | ((with_reducible apply wpAny_ite_false);focus (simp [*];done)) | ((with_reducible apply wpAny_ite_true);focus (simp [*];done)) | wp_delta | with_reducible_and_instances refine wpAny_pure ?_ | with_reducible_and_instances refine wpAny_bind ?_)
    subst hPI;refine wpAny_pyIter_list hl1 ?_;refine wpAny_bind (wpAny_runValue ?_);have hlS:l<s.heap.objs.size:=Heap.lt_size hol;have hh3:A.in1.in1.in1.handled=none:=by simp [hh]
    have hneI:l≠(s.heap.push { cls:=.type "set",dict:=none,data:=.set #[] 0 (.fresh 0 0 led) }).objs.size:=by
     rw [Heap.size_push];exact Nat.ne_of_lt (Nat.lt_succ_of_lt hlS)
    have hSf:s.heap.objs.size ∉ [(s.heap.push { cls:=.type "set",dict:=none,data:=.set #[] 0 (.fresh 0 0 led) }).objs.size,l]:=by
     rw [Heap.size_push];simp only [List.mem_cons,List.mem_singleton,List.not_mem_nil,or_false,not_or];exact ⟨Nat.ne_of_lt (Nat.lt_succ_self _),Nat.ne_of_gt hlS⟩
    have hval:∀ (i:Nat)(v:Value),items[i]?=some v->∃ x t,ss[i]?=some x/\v=.str x t:=λi v hv =>
     Ed hi i v (by rw [Array.getElem?_toList];exact hv)
    refine Mw ((Walks.list hh3 _ l hneI items).toS) s.heap.objs.size hSf ss hval hb (items.size - 0) 0 _ #[] 0 (.fresh 0 0 led) (by lia) (Nat.zero_le _)
     ⟨⟨_,Heap.get?_push_size _ rfl,rfl,rfl⟩,(hl1.push _)⟩ ?hS0 (Nat.zero_le _) (by simp [Y9,C0]) ?hR
    case hS0 =>
     have hget:((s.heap.push { cls:=.type "set",dict:=none,data:=.set #[] 0 (.fresh 0 0 led) }).push { cls:=.type "list_iterator",data:=.fields #[.ref l,.int 0 0] }).get? s.heap.objs.size
      =some { cls:=.type "set",dict:=none,data:=.set #[] 0 (.fresh 0 0 led) }:=Heap.get?_push_of_some _ hS
     exact ⟨⟨_,hget,⟨rfl,rfl,rfl⟩,rfl⟩,λe he=>by simp at he,by decide,by rfl,λq=>absurd rfl q⟩
    case hR =>
     intro s' es' ep' t' hm hS' hN';rw [htake] at hN';obtain ⟨h',g',d',tk',os'⟩:=s';have eg:g'=s.gens:=hm.gens;have ed:d'=s.drawn:=hm.drawn;have eo:os'=s.os:=hm.os;subst eg;subst ed;subst eo
     show wpAny _ _ _ _ _ _
     refine wpAny_pure ?_
     show wpAny _ _ (ret Value.none) _ _ _
     refine wpAny_pure ⟨rfl,h',tk',es',ep',t',rfl,hS',hN',λb o hb e=>?_⟩;have hb1:b≠s.heap.objs.size:=Nat.ne_of_lt hb;have hb2:b≠(s.heap.push { cls:=.type "set",dict:=none,data:=.set #[] 0 (.fresh 0 0 led) }).objs.size:=by
      rw [Heap.size_push];exact Nat.ne_of_lt (Nat.lt_succ_of_lt hb)
     exact hm.heap b o (by simp only [List.mem_cons,List.mem_singleton,List.not_mem_nil,or_false,not_or];exact ⟨hb1,hb2⟩) (Heap.get?_push_of_some _ (Heap.get?_push_of_some _ e))
   ·induction r₂ using Except.casesOn with
    | error e=>exact hr₂
    | ok fl₂ =>
     induction fl₂ using PySem.Flow.casesOn with
     | ret r =>
      obtain ⟨rfl,h',tk,es,ep,t,rfl,hS',hN',hk'⟩:=hr₂
      repeat (any_goals (first | assumption | wp_step))
      exact h _ _ es ep t hS' hN' hk'
     | _=>exact hr₂.elim
  | _=>exact hr.elim
end
theorem B2:Slot "set_iterator" "__next__" "set_iterator.__next__" :=
 .of (owner:="set_iterator") (n:="__next__") (by rw [typeLookup_type,builtinLookup_eq_fast];kernel_rfl) (by decide +kernel) (by decide +kernel) (by decide +kernel)
  (by first | exact .inl (by decide +kernel) | exact .inr (by decide +kernel)) (by rw [isSubtype_type];kernel_rfl)
theorem Yt:Slot "set_iterator" "__iter__" "set_iterator.__iter__" :=
 .of (owner:="set_iterator") (n:="__iter__") (by rw [typeLookup_type,builtinLookup_eq_fast];kernel_rfl) (by decide +kernel) (by decide +kernel) (by decide +kernel)
  (by first | exact .inl (by decide +kernel) | exact .inr (by decide +kernel)) (by rw [isSubtype_type];kernel_rfl)
theorem Zk:entryFor table "set_iterator.__next__"=some Builtin.«set_iterator.__next__»:=entryFor_of_tree (by kernel_rfl)
theorem Yu (a:Value):argsOk "set_iterator.__next__" ⟨[a],[]⟩:=by unfold argsOk;kernel_rfl
theorem Bh:entryFor table "set.__iter__"=some Builtin.«frozenset.__iter__» :=
 entryFor_alias (id':="frozenset.__iter__") (by rw [fastTable_eq_tree];kernel_rfl) rfl (by decide +kernel) (by rw [fastTable_eq_tree];kernel_rfl)
section
variable {prog:Program}{w:World}{A:Around}{E:Value->Shared->Prop}{s:Shared}
theorem Mx {src:Source}{n:Nat}{Q:Nat->Shared->Prop}(hn:n≠0)(h:∀ i d,i<n->Q i { s with drawn:=d }):wpAny (model prog w) A (choose src n) Q E s:=λΓ p hΓ=>by
 show Sem.wp (model prog w) Γ (Sem.choose src n Sem.pure) _ _ p s
 rw [Sem.wp_choose];exact ⟨hn,h _ _ (Nat.mod_lt _ (Nat.pos_of_ne_zero hn))⟩
theorem Bj {α:Type}:∀ (l:List α)(i:Nat)(h:i<l.length),(l[i] :: l.eraseIdx i).Perm l
 | [],i,h=>absurd h (Nat.not_lt_zero _)
 | x :: l,0,_=>.refl _
 | x :: l,i+1,h=>(List.Perm.swap ..).trans ((Bj l i (Nat.lt_of_succ_lt_succ h)).cons x)
theorem Yv {α:Type}:∀ (n:Nat)(xs:List α)(s:Shared)(Q:List α->Shared->Prop),xs.length=n->(∀ ys d,ys.Perm xs->Q ys { s with drawn:=d })->wpAny (model prog w) A (drawOrder n xs) Q E s
 | 0,xs,s,Q,hl,h=>by
  have:xs=[]:=List.eq_nil_of_length_eq_zero hl;subst this;have:=h [] s.drawn (.refl _);exact wpAny_pure this
 | n+1,[],s,Q,hl,h=>by cases hl
 | n+1,x :: xs,s,Q,hl,h=>by
  show wpAny _ _ (choose .order (x :: xs).length >>= λi=>match (x :: xs)[i]? with | some y=>(drawOrder n ((x :: xs).eraseIdx i) >>= λr=>pure (y :: r)) | none=>unsupported "internal:drawOrder") _ _ _
  refine wpAny_bind (Mx (by simp) λi d hi=>?_);have e:(x :: xs)[i]?=some (x :: xs)[i]:=List.getElem?_eq_getElem hi;rw [e];dsimp only;refine wpAny_bind (Yv n _ _ _ (by rw [List.length_eraseIdx_of_lt hi];exact Nat.pred_eq_of_eq_succ hl) λys d' hp=>?_);exact wpAny_pure (h _ d' ((hp.cons _).trans (Bj _ i hi)))
theorem Ag {α:Type}(nx:Nat->Nat):∀ (fuel k:Nat)(l:List α)(out:Array α),l.length<=fuel->(pickOrder.go nx fuel k l out).toList.Perm (out.toList++l)
 | 0,k,l,out,h=>by
  have:l=[]:=List.eq_nil_of_length_eq_zero (Nat.le_zero.mp h);subst this;show out.toList.Perm (out.toList++[]);rw [List.append_nil]
 | fuel+1,k,[],out,h=>by show out.toList.Perm (out.toList++[]);rw [List.append_nil]
 | fuel+1,k,x :: l,out,h=>by
  show (match (x :: l)[nx k % (x :: l).length]? with | some y=>pickOrder.go nx fuel (k+1) ((x :: l).eraseIdx (nx k % (x :: l).length)) (out.push y) | none=>out).toList.Perm _
  have hi:nx k % (x :: l).length<(x :: l).length:=Nat.mod_lt _ (by simp);rw [List.getElem?_eq_getElem hi];dsimp only;refine (Ag nx fuel (k+1) _ _ (by rw [List.length_eraseIdx_of_lt hi];lia)).trans ?_;rw [Array.toList_push,List.append_assoc];exact List.Perm.append_left _ (Bj _ _ hi)
theorem X6 {α:Type}(nx:Nat->Nat)(xs:Array α):(pickOrder nx xs).toList.Perm xs.toList:=by
 have:=Ag nx xs.size 0 xs.toList #[] (by simp)
 simpa [pickOrder] using this
structure SIter (h:Heap)(I:Addr)(first:Value)(i:Nat)(S:Addr)(n ep:Nat):Prop where
 at_:∃ o,h.get? I=some o/\o.cls=.type "set_iterator"/\o.data=.fields #[first,.int i 0,.ref S,.int n 0,.int ep 0]
theorem SIter.typeIs {I:Addr}{first:Value}{i:Nat}{S:Addr}{n ep:Nat}(x:SIter s.heap I first i S n ep):s.TypeIs (.ref I) "set_iterator":=let ⟨o,ho,hc,_⟩:=x.at_;⟨o,ho,hc⟩
theorem Hz {P:Fin->Shared->Prop}{Q:Option Value->Shared->Prop}(hh:A.handled=none)(hQ:∀ h',(∀ b o,s.heap.get? b=some o->h'.get? b=some o)->Q none { s with heap:=h' }) :
  wpAny (model prog w) A.in1 (newExc (.type "StopIteration") [] >>= λe=>(raiseNew e:Sem Fin)) P (λe s'=>wpAny (model prog w) A (do if <-isInstance e (.type "StopIteration") then pure none else throw e) Q E s') s:=by
 refine wpAny_bind ?_;simp only [newExc,newTuple];refine wpAny_bind (wpAny_newObj_type ?_ (by size_fits));refine wpAny_bind (m:=firstArgMember _ _) (wpAny_of_eq (a:=Value.none) (by first | rfl | (simp only [firstArgMember];rfl)) ?_);refine wpAny_newObj_type ?_ (by size_fits);simp only [raiseNew];refine wpAny_bind (wpAny_handled ?_);rw [show A.in1.handled=none from hh];refine wpAny_bind (wpAny_pure (wpAny_throw ?_));refine wpAny_bind (wpAny_isInstance (T:="StopIteration") (b:=true) ⟨_,Heap.get?_push_size _ rfl,rfl⟩ isSubtype_stop ?_)
 exact wpAny_pure (hQ _ λb o e=>Heap.get?_push_of_some _ (Heap.get?_push_of_some _ e))
theorem Bk {I S T:Addr}{i n ep:Nat}{es:Array (Int × Value)}{t:SetTable}{oT:Obj}{pl:List Nat}{Q:Option Value->Shared->Prop}(hh:A.handled=none)(it:SIter s.heap I (.ref T) i S n ep)(hS:SetS prog w s.heap S es ep t)(hn:n=es.size)
  (hT:s.heap.get? T=some oT)(hd:oT.data=.seq (pl.map λ(j:Nat)=>rawInt j).toArray 0)(hp:pl.Perm (List.range n))
  (hitem:∀ j e h',pl[i]?=some j->es[j]?=some e->SIter h' I (.ref T) (i+1) S n ep->Heap.SameBut I s.heap h'->Q (some e.2) { s with heap:=h' })
  (hend:∀ h',pl[i]?=none->(∀ b o,b≠I->s.heap.get? b=some o->h'.get? b=some o)->Q none { s with heap:=h' }):wpAny (model prog w) A (pyNext (.ref I)) Q E s:=by
 subst hn;refine K0 it.at_ ?_;intro o ho hc hf;refine K0 hS.ob ?_;intro oS hoS hex hdS;unfold pyNext;refine wpAny_bind (wpAny_attempt (wpAny_callSpecial?_slot (name:=Str.ofString "__next__") it.typeIs B2 (wpAny_call_entry B2 it.typeIs Zk ?_ (Yu _))))
 unfold Builtin.«set_iterator.__next__»;refine wpAny_bind (wpAny_pure ?_);refine wpAny_bind (wpAny_fieldsOf ho hf ?_);dsimp only;refine wpAny_bind (wpAny_setEntries_of hoS hdS hS.fit ?_);simp only [bne_self_eq_false,Bool.false_eq_true,↓reduceIte];refine wpAny_bind (wpAny_seqItems hT hd ?_);dsimp only;cases q:pl[i]? with
 | some j =>
  have hj:j<es.size:=List.mem_range.mp (hp.mem_iff.mp (List.mem_of_getElem? q));have e1:(pl.map λ(j:Nat)=>rawInt j).toArray[(i:Int).toNat]?=some (.int j 0):=by simp [q,rawInt]
  rw [e1];dsimp only;refine wpAny_bind ?_;unfold setNextDrawn;refine wpAny_bind (wpAny_setState_of hoS hdS hS.fit ?_);simp only [Int.toNat_natCast,bne_self_eq_false,Bool.false_eq_true,↓reduceIte];have e2:es[j]?=some es[j]:=Array.getElem?_eq_getElem hj;rw [e2];dsimp only;refine wpAny_pure ?_;refine wpAny_bind (wpAny_setField ho hf (by simp) ?_);have it':SIter (s.heap.update I (Obj.mapFields (·.setIfInBounds 1 (rawInt ((i:Int)+1))))) I (.ref T) (i+1) S es.size ep :=
   ⟨_,Heap.get?_update_self _ ho (Obj.isFreed_of_fields (Obj.data_mapFields hf _)),(Obj.cls_mapFields ..).trans hc,by rw [Obj.data_mapFields hf];simp [rawInt]⟩
  exact wpAny_pure ⟨_,rfl,wpAny_pure (hitem j es[j] _ q e2 it' (Heap.SameBut.update ..))⟩
 | none =>
  have e1:(pl.map λ(j:Nat)=>rawInt j).toArray[(i:Int).toNat]?=none:=by simp [q]
  rw [e1];dsimp only;refine wpAny_bind (wpAny_setField ho hf (by simp) ?_);have g1:=Heap.get?_update_self (Obj.mapFields (·.setIfInBounds 0 (rawInt 0))) ho (Obj.isFreed_of_fields (Obj.data_mapFields hf _));refine wpAny_bind (wpAny_setField (s:={ s with heap:=_ }) g1 (Obj.data_mapFields hf _) (by simp) ?_);refine wpAny_mono (Hz (P:=λU U=>False) hh λh' k=>hend h' q λb o ne e=>k b o ?_) (λU U x=>x.elim) λU U x=>x;exact (Heap.get?_update_other _ _ (Ne.symm ne)).trans ((Heap.get?_update_other _ _ (Ne.symm ne)).trans e)
end
section
variable {prog:Program}{w:World}{A:Around}{E:Value->Shared->Prop}{s:Shared}
theorem La {I S:Addr}{i n ep:Nat}{es:Array (Int × Value)}{t:SetTable}{Q:Option Value->Shared->Prop}(hb:w.params.followText "set-order"=true)(hh:A.handled=none)(it:SIter s.heap I (.int 0 0) i S n ep)(hS:SetS prog w s.heap S es ep t)(hn:n=es.size)
  (hitem:∀ e h',(pickOrder (w.params.setOrder S ep) es)[i]?=some e->SIter h' I (.int 0 0) (i+1) S n ep->Heap.SameBut I s.heap h'->Q (some e.2) { s with heap:=h' })
  (hend:∀ h',(pickOrder (w.params.setOrder S ep) es)[i]?=none->(∀ b o,b≠I->s.heap.get? b=some o->h'.get? b=some o)->Q none { s with heap:=h' }):wpAny (model prog w) A (pyNext (.ref I)) Q E s:=by
 subst hn;have hb':(model prog w).w.params.followText "set-order"=true:=hb
 refine K0 it.at_ ?_;intro o ho hc hf;refine K0 hS.ob ?_;intro oS hoS hex hdS;unfold pyNext;refine wpAny_bind (wpAny_attempt (wpAny_callSpecial?_slot (name:=Str.ofString "__next__") it.typeIs B2 (wpAny_call_entry B2 it.typeIs Zk ?_ (Yu _))))
 unfold Builtin.«set_iterator.__next__»;refine wpAny_bind (wpAny_pure ?_);refine wpAny_bind (wpAny_fieldsOf ho hf ?_);dsimp only;refine wpAny_bind (wpAny_setEntries_of hoS hdS hS.fit ?_);simp only [bne_self_eq_false,Bool.false_eq_true,↓reduceIte];refine wpAny_bind ?_;unfold setNext;refine wpAny_bind (wpAny_setState_of hoS hdS hS.fit ?_);dsimp only;unfold setsByText;refine wpAny_bind (wpAny_bind (wpAny_askSetting (wpAny_pure ?_)));simp only [hb',Int.toNat_natCast,bne_self_eq_false,Bool.false_eq_true,↓reduceIte];refine wpAny_bind ?_;unfold setWalk;refine wpAny_bind (wpAny_setState_of hoS hdS hS.fit ?_);dsimp only;unfold setsByText;refine wpAny_bind (wpAny_bind (wpAny_askSetting (wpAny_pure ?_)));simp only [hb',↓reduceIte];refine wpAny_bind (wpAny_askSetting (wpAny_pure ?_));refine wpAny_pure ?_
 show wpAny _ _ (match ((pickOrder (w.params.setOrder S ep) es)[i]?).map λe=>(e.2,Int.toNat 0) with | some (x,next)=>_ | none=>_) _ _ _
 cases q:(pickOrder (w.params.setOrder S ep) es)[i]? with
 | some e =>
  simp only [q,Option.map_some];refine wpAny_bind (wpAny_setField ho hf (by simp) ?_);have g1:=Heap.get?_update_self (Obj.mapFields (·.setIfInBounds 0 (rawInt (Int.toNat 0:Nat)))) ho (Obj.isFreed_of_fields (Obj.data_mapFields hf _));refine wpAny_bind (wpAny_setField (s:={ s with heap:=_ }) g1 (Obj.data_mapFields hf _) (by simp) ?_);have hf2:=Obj.data_mapFields (f:=(·.setIfInBounds 0 (rawInt (Int.toNat 0:Nat)))) hf;have it':SIter ((s.heap.update I (Obj.mapFields (·.setIfInBounds 0 (rawInt (Int.toNat 0:Nat))))).update I (Obj.mapFields (·.setIfInBounds 1 (rawInt ((i:Int)+1))))) I (.int 0 0) (i+1) S es.size ep :=
   ⟨_,Heap.get?_update_self _ g1 (Obj.isFreed_of_fields (Obj.data_mapFields hf2 _)),(Obj.cls_mapFields ..).trans ((Obj.cls_mapFields ..).trans hc),by rw [Obj.data_mapFields hf2];simp [rawInt]⟩
  exact wpAny_pure ⟨_,rfl,wpAny_pure (hitem e _ q it' ((Heap.SameBut.update ..).trans (Heap.SameBut.update ..)))⟩
 | none =>
  simp only [q,Option.map_none];refine wpAny_bind (wpAny_setField ho hf (by simp) ?_);refine wpAny_mono (Hz (P:=λU U=>False) hh λh' k=>hend h' q λb o ne e=>k b o ?_) (λU U x=>x.elim) λU U x=>x;exact (Heap.get?_update_other _ _ (Ne.symm ne)).trans e
end
section
variable {prog:Program}{w:World}{A:Around}{E:Value->Shared->Prop}{s:Shared}
noncomputable def R6 (es:Array (Int × Value)):List Value:=es.toList.map (·.2)
noncomputable def Bm (es:Array (Int × Value))(j:Nat):Value:=((es[j]?).map (·.2)).getD .none
theorem Tx (es:Array (Int × Value)):(List.range es.size).map (Bm es)=R6 es:=by
 refine List.ext_getElem (by simp [R6]) λi h1 h2=>?_;have h:i<es.size:=by simpa using h1
 simp [Bm,R6,h]
theorem SIter.at {h h':Heap}{I:Addr}{first:Value}{i:Nat}{S:Addr}{n ep:Nat}(x:SIter h I first i S n ep)(k:∀ o,h.get? I=some o->h'.get? I=some o):SIter h' I first i S n ep:=⟨let ⟨o,ho,r⟩:=x.at_;⟨o,k o ho,r⟩⟩
theorem Ha:entryFor table "set_iterator.__iter__"=some Builtin.«dict_keyiterator.__iter__»:=entryFor_alias (id':="dict_keyiterator.__iter__") (by rw [fastTable_eq_tree];kernel_rfl) rfl (by decide +kernel) (by rw [fastTable_eq_tree];kernel_rfl)
theorem My (a:Value):argsOk "set_iterator.__iter__" ⟨[a],[]⟩:=by unfold argsOk;kernel_rfl
theorem Lb {I:Addr}{first:Value}{i:Nat}{S:Addr}{n ep:Nat}{Q:Value->Shared->Prop}(x:SIter s.heap I first i S n ep)(hQ:Q (.ref I) s):wpAny (model prog w) A (pyIter (.ref I)) Q E s:=by
 refine wpAny_pyIter_slot x.typeIs Yt (wpAny_call_entry Yt x.typeIs Ha ?_ (My _))
 show wpAny _ _ (ret (.ref I)) _ _ s
 exact wpAny_pure ⟨_,rfl,"set_iterator",_,x.typeIs,B2.lookup,hQ⟩
theorem Ty {I S T:Addr}{ep:Nat}{es:Array (Int × Value)}{t:SetTable}{oT:Obj}{pl:List Nat}(hh:A.handled=none)(hd:oT.data=.seq (pl.map λ(j:Nat)=>rawInt j).toArray 0)(hp:pl.Perm (List.range es.size))(ne:S≠I)(ne2:T≠I) :
  Walks prog w A I [I,S,T] [I] pl.length (λi v=>(pl.map (Bm es))[i]?=some v) (λi h=>SIter h I (.ref T) i S es.size ep/\SetS prog w h S es ep t/\h.get? T=some oT) where
 sub:=λb hb=>by simp at hb;simp [hb]
 frame:=λi h h' st hk=>⟨st.1.at λo e=>hk I (by simp) o e,st.2.1.at λo e=>hk S (by simp) o e,hk T (by simp) _ st.2.2⟩
 item:=λi s Q E hi st hQ=>Bk hh st.1 st.2.1 rfl st.2.2 hd hp
  (λj e h' q1 q2 it' sb=>hQ e.2 h' s.toks (by simp [q1,Bm,q2]) ⟨it',st.2.1.at λo z=>by rw [sb.2 S ne];exact z,by rw [sb.2 T ne2];exact st.2.2⟩ λb o hb z=>by rw [sb.2 b (by simpa using hb)];exact z)
  (λh' q U=>by rw [List.getElem?_eq_getElem hi] at q;exact sN q)
 done:=λs Q E st hQ=>Bk hh st.1 st.2.1 rfl st.2.2 hd hp
  (λj e h' q1 q2 it' sb=>by rw [List.getElem?_eq_none (Nat.le_refl _)] at q1;exact nS q1)
  (λh' q k=>hQ h' s.toks λb o hb z=>k b o (by simpa using hb) z)
 self:=λi s Q E st hQ=>Lb st.1 hQ
theorem Ee {I S:Addr}{ep:Nat}{es:Array (Int × Value)}{t:SetTable}(hb:w.params.followText "set-order"=true)(hh:A.handled=none)(ne:S≠I) :
  Walks prog w A I [I,S] [I] es.size (λi v=>((pickOrder (w.params.setOrder S ep) es).toList.map (·.2))[i]?=some v) (λi h=>SIter h I (.int 0 0) i S es.size ep/\SetS prog w h S es ep t) where
 sub:=λb hb=>by simp at hb;simp [hb]
 frame:=λi h h' st hk=>⟨st.1.at λo e=>hk I (by simp) o e,st.2.at λo e=>hk S (by simp) o e⟩
 item:=λi s Q E hi st hQ=>La hb hh st.1 st.2 rfl
  (λe h' q it' sb=>hQ e.2 h' s.toks (by rw [List.getElem?_map,Array.getElem?_toList,q];rfl) ⟨it',st.2.at λo z=>by rw [sb.2 S ne];exact z⟩ λb o hb z=>by rw [sb.2 b (by simpa using hb)];exact z)
  (λh' q U=>by
   have:(pickOrder (w.params.setOrder S ep) es).size=es.size:=by rw [<-Array.length_toList,(X6 _ es).length_eq,Array.length_toList]
   rw [Array.getElem?_eq_getElem (by rw [this];exact hi)] at q;exact sN q)
 done:=λs Q E st hQ=>La hb hh st.1 st.2 rfl
  (λe h' q it' sb=>by
   have:(pickOrder (w.params.setOrder S ep) es).size=es.size:=by rw [<-Array.length_toList,(X6 _ es).length_eq,Array.length_toList]
   rw [Array.getElem?_eq_none (by rw [this];exact Nat.le_refl _)] at q;exact nS q)
  (λh' q k=>hQ h' s.toks λb o hb z=>k b o (by simpa using hb) z)
 self:=λi s Q E st hQ=>Lb st.1 hQ
set_option tactic.hygienic true in
theorem Q2j {S:Addr}{es:Array (Int × Value)}{ep:Nat}{t:SetTable}{Q:Value->Shared->Prop}(hh:A.handled=none)(hS:SetS prog w s.heap S es ep t)(h2:2<=es.size)
  (h:∀ (I:Addr)(ord:List Value)(fp:List Addr)(St:Nat->Heap->Prop)(h':Heap)(d:Drawn),ord.Perm (R6 es)->(∀ A':Around,A'.handled=none->Walks prog w A' I fp [I] ord.length (λi v=>ord[i]?=some v) St)->St 0 h'->(∀ b o,s.heap.get? b=some o->h'.get? b=some o)->s.heap.objs.size<=I->(∀ b∈fp,b<h'.objs.size)->I∈fp->s.heap.objs.size<=h'.objs.size->(∀ b∈fp,b=S\/s.heap.objs.size<=b)->Q (.ref I) { s with heap:=h',drawn:=d }) :
  wpAny (model prog w) A (pyIter (.ref S)) Q E s:=by
 refine K0 hS.ob ?_;intro oS hoS hex hdS;have hT:s.TypeIs (.ref S) "set":=⟨oS,hoS,hex.1⟩
 have hSlt:S<s.heap.objs.size:=Heap.lt_size hoS;refine wpAny_pyIter_slot hT F.slot_set_iter (wpAny_call_entry F.slot_set_iter hT Bh ?_ (F.args_set_iter_1 _));unfold Builtin.«frozenset.__iter__» Builtin.Frozenset.slot0;refine wpAny_bind (wpAny_bind (wpAny_pure (wpAny_pure ?_)));refine wpAny_bind ?_;unfold Builtin.Frozenset.sizeOf;refine wpAny_bind (wpAny_setEntries_of hoS hdS hS.fit (wpAny_pure ?_));refine wpAny_bind ?_;unfold setDrawn setsByText;refine wpAny_bind (wpAny_setState_of hoS hdS hS.fit ?_);dsimp only;refine wpAny_bind (wpAny_bind (wpAny_askSetting (wpAny_pure ?_)));have hpl:=hS.pl (by lia);cases hb:w.params.followText "set-order" with
 | true =>
  have hb':(model prog w).w.params.followText "set-order"=true:=hb
  simp only [hb'];refine wpAny_pure ?_;refine wpAny_ite_false (decide_eq_false (by simp)) ?_;refine wpAny_bind (wpAny_pure ?_);refine wpAny_bind (wpAny_setEpoch_of hoS hdS hS.fit ?_);unfold newFields;refine wpAny_bind (wpAny_newObj_type ?_);have g1:(s.heap.push { cls:=.type "set_iterator",data:=.fields [rawInt 0,rawInt 0,Value.ref S,rawInt es.size,rawInt ep].toArray }).get? s.heap.objs.size=some { cls:=.type "set_iterator",data:=.fields [rawInt 0,rawInt 0,Value.ref S,rawInt es.size,rawInt ep].toArray }:=Heap.get?_push_size _ rfl
  have keep:∀ b o,s.heap.get? b=some o->(s.heap.push { cls:=.type "set_iterator",data:=.fields [rawInt 0,rawInt 0,Value.ref S,rawInt es.size,rawInt ep].toArray }).get? b=some o:=λb o e=>Heap.get?_push_of_some _ e
  have pm:=(X6 (w.params.setOrder S ep) es).map (·.2);have ol:((pickOrder (w.params.setOrder S ep) es).toList.map (·.2)).length=es.size:=by rw [pm.length_eq];simp
  refine wpAny_pure ⟨_,rfl,"set_iterator",_,⟨_,g1,rfl⟩,B2.lookup,?_⟩
  refine h s.heap.objs.size ((pickOrder (w.params.setOrder S ep) es).toList.map (·.2)) [s.heap.objs.size,S] (λi h=>SIter h s.heap.objs.size (.int 0 0) i S es.size ep/\SetS prog w h S es ep t) _ s.drawn pm (λA' hA'=>by rw [ol];exact Ee (es:=es) (t:=t) hb hA' (Nat.ne_of_lt hSlt)) ⟨⟨_,g1,rfl,rfl⟩,hS.at (keep S)⟩ keep (Nat.le_refl _) (λb hb=>?_) (by simp) (by rw [Heap.size_push];exact Nat.le_succ _) (λb hb=>by
   rcases List.mem_cons.mp hb with e | e
   ·exact .inr (Nat.le_of_eq e.symm)
   ·exact .inl (List.mem_singleton.mp e))
  rw [Heap.size_push]
  rcases List.mem_cons.mp hb with rfl | hb
  ·exact Nat.lt_succ_self _
  ·rw [List.mem_singleton.mp hb];exact Nat.lt_succ_of_lt hSlt
 | false =>
  have hb':(model prog w).w.params.followText "set-order"=false:=hb
  simp only [hb'];refine wpAny_pure ?_
  split
  ·refine wpAny_bind (Yv _ _ _ _ (by simp) λpl d hp=>?_)
   refine wpAny_bind (wpAny_newTuple ?_ (hsz:=by rw [List.length_map,hp.length_eq,List.length_range];exact fits_of_scanBound hS.sz));refine wpAny_bind ?_;have k1:∀ b o,s.heap.get? b=some o->(s.heap.push { cls:=.type "tuple",data:=.seq (pl.map λ(j:Nat)=>rawInt j).toArray 0 }).get? b=some o:=λb o e=>Heap.get?_push_of_some _ e
   refine wpAny_setEpoch_of (s:=({ s with heap:=s.heap.push { cls:=.type "tuple",data:=.seq (pl.map λ(j:Nat)=>rawInt j).toArray 0 },drawn:=d }:Shared)) (k1 _ _ hoS) hdS hS.fit ?_
   unfold newFields;refine wpAny_bind (wpAny_newObj_type ?_);have sz:(s.heap.push { cls:=.type "tuple",data:=.seq (pl.map λ(j:Nat)=>rawInt j).toArray 0 }).objs.size=s.heap.objs.size+1:=Heap.size_push ..
   generalize hH:s.heap.push { cls:=.type "tuple",data:=.seq (pl.map λ(j:Nat)=>rawInt j).toArray 0 }=H1 at sz k1 ⊢
   have gT:H1.get? s.heap.objs.size=some { cls:=.type "tuple",data:=.seq (pl.map λ(j:Nat)=>rawInt j).toArray 0 }:=by rw [<-hH];exact Heap.get?_push_size _ rfl
   dsimp only;have g1:(H1.push { cls:=.type "set_iterator",data:=.fields [Value.ref s.heap.objs.size,rawInt 0,Value.ref S,rawInt es.size,rawInt ep].toArray }).get? H1.objs.size=some { cls:=.type "set_iterator",data:=.fields [Value.ref s.heap.objs.size,rawInt 0,Value.ref S,rawInt es.size,rawInt ep].toArray }:=Heap.get?_push_size _ rfl
   have keep:∀ b o,H1.get? b=some o->(H1.push { cls:=.type "set_iterator",data:=.fields [Value.ref s.heap.objs.size,rawInt 0,Value.ref S,rawInt es.size,rawInt ep].toArray }).get? b=some o:=λb o e=>Heap.get?_push_of_some _ e
   refine wpAny_pure ⟨_,rfl,"set_iterator",_,⟨_,g1,rfl⟩,B2.lookup,?_⟩
   have pm:(pl.map (Bm es)).Perm (R6 es):=by rw [<-Tx];exact hp.map _
   have ol:(pl.map (Bm es)).length=pl.length:=by simp
   refine h H1.objs.size (pl.map (Bm es)) [H1.objs.size,S,s.heap.objs.size] (λi h=>SIter h H1.objs.size (.ref s.heap.objs.size) i S es.size ep/\SetS prog w h S es ep t/\h.get? s.heap.objs.size=some { cls:=.type "tuple",data:=.seq (pl.map λ(j:Nat)=>rawInt j).toArray 0 }) _ d pm (λA' hA'=>by rw [ol];exact Ty (es:=es) (t:=t) (ep:=ep) hA' rfl hp (by rw [sz];exact Nat.ne_of_lt (Nat.lt_succ_of_lt hSlt)) (by rw [sz];exact Nat.ne_of_lt (Nat.lt_succ_self _))) ⟨⟨_,g1,rfl,rfl⟩,(hS.at (k1 S)).at (keep S),keep _ _ gT⟩ (λb o e=>keep b o (k1 b o e)) (by rw [sz];exact Nat.le_succ _) (λb hb=>?_) (by simp) (by rw [Heap.size_push,sz];lia) (λb hb=>by
    simp only [List.mem_cons,List.not_mem_nil,or_false] at hb
    rcases hb with e | e | e
    ·rw [e,sz];exact .inr (Nat.le_succ _)
    ·exact .inl e
    ·rw [e];exact .inr (Nat.le_refl _))
   rw [Heap.size_push,sz];simp only [List.mem_cons,List.not_mem_nil,or_false] at hb
   rcases hb with e | e | e
   ·rw [e,sz];exact Nat.lt_succ_self _
   ·rw [e];exact Nat.lt_succ_of_lt (Nat.lt_succ_of_lt hSlt)
   ·rw [e];exact Nat.lt_succ_of_lt (Nat.lt_succ_self _)
  ·rename_i q
   exact absurd (show (!false&&(!t.plain&&decide (es.size > 1)))=true by rw [hpl];simp;lia) q
end
section
variable {prog:Program}{w:World}{A:Around}{E:Value->Shared->Prop}{s:Shared}
theorem Tz:typeLookup (.type "set") "__len__"=pure (some (.builtin "set.__len__")):=by rw [typeLookup_type,builtinLookup_eq_fast];kernel_rfl
theorem Hb:splitId "set.__len__"=some ("set","__len__"):=by decide +kernel
theorem acc_eq {ord:List Value}{acc:Array Value}(h:ItemsOf (λi v=>ord[i]?=some v) acc ord.length):acc.toList=ord:=by
 refine List.ext_getElem (by rw [Array.length_toList,h.1]) λi h1 h2=>?_;have:=h.2 i acc[i] (Array.getElem?_eq_getElem (by simpa using h1));dsimp only at this;rw [List.getElem?_eq_getElem h2] at this
 simpa using (Option.some.inj this).symm
theorem Va {S:Addr}{es:Array (Int × Value)}{ep:Nat}{t:SetTable}{Q:List Value->Shared->Prop}(hh:A.handled=none)(hS:SetS prog w s.heap S es ep t)(h2:2<=es.size)
  (hQ:∀ vs h' tk d,vs.Perm (R6 es)->(∀ b o,s.heap.get? b=some o->h'.get? b=some o)->s.heap.objs.size<=h'.objs.size->Q vs { s with heap:=h',toks:=tk,drawn:=d }):wpAny (model prog w) A (collect (.ref S)) Q E s:=by
 refine K0 hS.ob ?_;intro oS hoS hex hdS;have hSlt:S<s.heap.objs.size:=Heap.lt_size hoS;have hSL:s.heap.objs.size≠S:=Nat.ne_of_gt hSlt;unfold collect;refine wpAny_bind (wpAny_runValue (codeAny_builtin F.entry_proto_collect ?_));rw [Around.under_plainId F.plain_proto_collect _]
 show wpAny _ A.in1 (PySem.newList [] >>= λl=>again (.builtin "list.__iadd__" ⟨[l,.ref S],[]⟩)) _ _ s
 refine wpAny_bind (wpAny_newObj_type ?_);refine wpAny_pure ⟨plainId_quiet F.plain_list_iadd _,codeAny_builtin F.entry_list_iadd ?_⟩;rw [Around.under_plainId F.plain_list_iadd _];have k0:∀ b o,s.heap.get? b=some o->(s.heap.push { cls:=.type "list",data:=.seq ([]:List Value).toArray }).get? b=some o:=λb o e=>Heap.get?_push_of_some _ e
 have hS1:=hS.at (k0 S);have hT1:Shared.TypeIs { s with heap:=s.heap.push { cls:=.type "list",data:=.seq ([]:List Value).toArray } } (.ref S) "set":=⟨oS,k0 _ _ hoS,hex.1⟩
 show wpAny _ A.in1 (Builtin.List.listExtendWith (.ref s.heap.objs.size) (.ref S) (.ref s.heap.objs.size)) _ _ _
 unfold Builtin.List.listExtendWith;refine wpAny_bind (wpAny_typeOf hT1 ?_);have h1:Builtin.List.listSameRef (.ref s.heap.objs.size) (.ref S)=false:=by simp [Builtin.List.listSameRef,hSL]
 have h2':(Value.type "set"==Value.type "list")=false:=by decide
 have h3:(Value.type "set"==Value.type "tuple")=false:=by decide
 simp only [h1,h2',h3,Bool.or_false,Bool.false_eq_true,if_false];have hL1:(s.heap.push { cls:=.type "list",data:=.seq ([]:List Value).toArray }).get? s.heap.objs.size=some { cls:=.type "list",data:=.seq ([]:List Value).toArray }:=Heap.get?_push_size _ rfl
 have sz1:(s.heap.push { cls:=.type "list",data:=.seq ([]:List Value).toArray }).objs.size=s.heap.objs.size+1:=Heap.size_push ..
 generalize hH1:s.heap.push { cls:=.type "list",data:=.seq ([]:List Value).toArray }=H1 at *
 have hh1:A.in1.handled=none:=by simp [hh]
 refine wpAny_bind (Q2j (s:={ s with heap:=H1 }) hh1 hS1 h2 λI ord fp St H2 d pm WW st0 k1 hI hfp hIf sz2 hfs=>?_);have hT2:Shared.TypeIs { s with heap:=H2,drawn:=d } (.ref S) "set":=⟨oS,k1 _ _ (k0 _ _ hoS),hex.1⟩
 refine wpAny_bind (wpAny_holding ?_);unfold Builtin.List.listLengthHint;refine wpAny_bind (wpAny_specialOf hT2 Tz ?_);dsimp only;rw [Hb];dsimp only;refine wpAny_bind (wpAny_isInstance hT2 sub_set_self ?_);refine wpAny_ite_false (decide_eq_false (show ¬ ((!true)=true) by decide)) ?_;refine wpAny_ite_true (by decide +kernel) ?_
 skip
 skip
 refine wpAny_bind (wpAny_typeOf hT2 ?_);refine wpAny_pure ?_;rw [if_pos]
 rotate_left
 ·decide +kernel
 refine wpAny_bind (wpAny_rule ?_);have hS₁:=k1 _ _ hL1;refine wpAny_bind ?_
 show wpAny _ A.in1 (updateSeq s.heap.objs.size (·.push .none) >>= λU=>updateSeq s.heap.objs.size (·.pop)) _ _ _
 refine wpAny_bind (wpAny_updateSeq hS₁ rfl ?_);have hS₂:=Heap.get?_update_self (Obj.mapSeq (·.push Value.none)) hS₁ rfl;refine wpAny_updateSeq hS₂ rfl ?_;have hS₃:=Heap.get?_update_self (Obj.mapSeq (·.pop)) hS₂ rfl;have oth:∀ b o,b≠s.heap.objs.size->H2.get? b=some o->((H2.update s.heap.objs.size (Obj.mapSeq (·.push Value.none))).update s.heap.objs.size (Obj.mapSeq (·.pop))).get? b=some o :=
  λb o hb e=>(Heap.get?_update_other _ _ (Ne.symm hb)).trans ((Heap.get?_update_other _ _ (Ne.symm hb)).trans e)
 have lne:s.heap.objs.size≠I:=by dsimp only at hI;rw [sz1] at hI;exact Nat.ne_of_lt (Nat.lt_of_succ_le hI)
 have hSf:s.heap.objs.size ∉ fp:=λhm=>by
  rcases hfs _ hm with e | e
  ·exact hSL e
  ·dsimp only at e;rw [sz1] at e;exact Nat.lt_irrefl _ e
 have W:=(WW A.in1 (by simp [hh])).toS;have on:ord.length<=sizeLine:=by
  rw [pm.length_eq];simp only [R6,List.length_map,Array.length_toList];exact fits_of_scanBound hS.sz
 refine wpAny_pure ⟨plainId_quiet F.plain_extend_loop _,codeAny_extend_loopS W on _ hSf _ ord.length 0 _ _ _ rfl (Nat.zero_le _)
  (W.frame 0 ({ s with heap:=H2,drawn:=d }:Shared) _ s.toks st0 (Nat.le_refl _) λb hb o e=>oth b o (λh=>hSf (h▸hb)) e) hS₃ (ItemsOf.nil _) λs' acc' c' hm hS' hacc=>?_⟩
 show wpAny _ A (load s.heap.objs.size >>= _) _ _ s'
 refine wpAny_bind (wpAny_load hS' ?_);dsimp only;rw [acc_eq hacc];obtain ⟨h',g',d',tk',os'⟩:=s';have eg:g'=s.gens:=hm.gens;have ed:d'=d:=hm.drawn;have eo:os'=s.os:=hm.os;subst eg;subst ed;subst eo;have keep:∀ b o,s.heap.get? b=some o->h'.get? b=some o:=λb o e=>by
  have lb:b<s.heap.objs.size:=Heap.lt_size e;refine hm.heap b o ?_ (oth b o (Nat.ne_of_lt lb) (k1 b o (k0 b o e)));simp only [List.mem_cons,List.not_mem_nil,or_false,not_or];exact ⟨Nat.ne_of_lt lb,λz=>by dsimp only at hI;rw [sz1] at hI;rw [z] at lb;exact Nat.lt_irrefl _ (Nat.lt_trans lb hI)⟩
 refine wpAny_pure (hQ ord h' tk' _ pm keep ?_);exact Nat.le_of_lt (Heap.lt_size hS')
theorem Ef {S:Addr}{es:Array (Int × Value)}{ep:Nat}{t:SetTable}{Q:Value->Shared->Prop}(hh:A.handled=none)(hS:SetS prog w s.heap S es ep t)(h2:2<=es.size)(h64:es.size<64)
  (h:∀ r h' tk d out ss' e,h'.get? r=some (seqObj "list" out e)->s.heap.objs.size<=r->(∀ b o,s.heap.get? b=some o->h'.get? b=some o)->StrsAre out.toList ss'->ss'.Perm (Y9 es.toList)->sortedS ss'=true->Q (.ref r) { s with heap:=h',toks:=tk,drawn:=d }) :
  wpAny (model prog w) A (call (.builtin "sorted") [.ref S]) Q E s:=by
 refine Calls.call_function_entry kind_sorted plain_sorted entry_sorted (args_sorted1 _) ?_;unfold Builtin.«sorted»;refine wpAny_bind (m:=checkCount "sorted" 1 1 _) (wpAny_pure ?_)
 refine wpAny_bind (Va (by simp [hh]) hS h2 λvs h' tk d pm keep sz=>?_);have vl:vs.length=es.size:=by rw [pm.length_eq];simp [R6]
 refine wpAny_bind (wpAny_newList ?_ (hsz:=by rw [vl];exact fits_of_scanBound hS.sz));have sa:StrsAre vs (vs.map strOf):=strsAre_map vs λv hv=>by
  refine Q3 (List.mem_map.mp (pm.mem_iff.mp hv)) ?_;intro e he ee2;subst ee2;refine J2 (Q2i hS.el he) ?_;intro tk q;exact I2_1 _ tk q
 have hoL:(h'.push (seqObj "list" vs.toArray 0)).get? h'.objs.size=some (seqObj "list" vs.toArray 0):=Heap.get?_push_size _ rfl
 refine wpAny_bind (wpAny_holding (wpAny_call_entry slot_list_sort ⟨_,hoL,rfl⟩ entry_list_sort (list_sort_treeK strKind_oneLt hoL sa.keysOf (λv₁ v₂ rest e=>keyKind_strs (by rw [<-e];exact sa)) (by rw [vl];exact h64) λst' hp hs=>⟨_,rfl,?_⟩) (args_list_sort _)));refine K0 (sorted_out_str sa hp hs) ?_;intro ss' a1 a2 a3;refine J2 (sortedHeap_at (vs:=vs) (out:=(arrOf st').map (·.2)) (n:=0) hoL) ?_;intro e he;refine wpAny_pure ⟨_,rfl,h h'.objs.size _ tk d _ ss' e he sz (λb o z=>?_) a1 (a2.trans ?_) a3⟩
 ·have lb:b<h'.objs.size:=Heap.lt_size (keep b o z)
  rw [sortedHeap_old (Nat.ne_of_lt lb) (by rw [size_push'];exact Nat.lt_succ_of_lt lb)];exact Heap.get?_push_of_some _ (keep b o z)
 ·have:=pm.map strOf
  simpa [R6,Y9,Function.comp_def] using this
end
section
variable {W:Wd}
noncomputable def Bn (tab:Nat->Str):Prop:=∀ i j,i<j->j<Yi->PySem.Spec.ltCps (tab i).cps.toList (tab j).cps.toList=true
noncomputable def upN (p:Nat):List Nat->Prop
 | []=>True
 | x :: r=>p<=x/\upN x r
noncomputable def upL:List Nat->Prop
 | []=>True
 | x :: r=>upN x r
theorem Uz:∀ {r:List Nat}{p:Nat},upN p r->∀ x∈r,p<=x
 | [],_,_,x,h=>by first | exact ff h | cases h
 | y :: r,p,⟨a,b⟩,x,h=>by
  rcases List.mem_cons.mp h with rfl | h
  ·exact a
  ·exact Nat.le_trans a (Uz b x h)
theorem P7:∀ {r:List Nat}{p:Nat},upN p r->upL r
 | [],_,_=>trivial
 | _ :: _,_,h=>h.2
theorem Lc:∀ {l m:List Nat},l.Perm m->upL l->upL m->l=m
 | [],m,p,_,_=>(List.Perm.nil_eq p).symm▸rfl
 | a :: l,[],p,_,_=>absurd p.length_eq (by simp)
 | a :: l,b :: m,p,hl,hm=>by
  have h1:b<=a:=by
   rcases List.mem_cons.mp (p.mem_iff.mp (.head l)) with e | e
   ·exact Nat.le_of_eq e.symm
   ·exact Uz hm a e
  have h2:a<=b:=by
   rcases List.mem_cons.mp (p.mem_iff.mpr (.head m)) with e | e
   ·exact Nat.le_of_eq e.symm
   ·exact Uz hl b e
  have e:a=b:=Nat.le_antisymm h2 h1;subst e;rw [Lc (p.cons_inv) (P7 hl) (P7 hm)]
theorem Q2k {α β:Type}{f:α->β}{xs ys:List β}(p:xs.Perm ys):∀ {l:List α},ys=l.map f->∃ l':List α,l'.Perm l/\l'.map f=xs:=by
 induction p with
 | nil =>
  intro l e
  induction l using List.casesOn with
  | nil=>exact Z0 ([]) (.refl _) rfl
  | cons a l=>cases e
 | cons x p ih =>
  intro l e
  induction l using List.casesOn with
  | nil=>cases e
  | cons a l =>
   simp only [List.map_cons,List.cons.injEq] at e;refine Q3 (ih e.2) ?_;intro l' q1 q2;exact Z0 (a :: l') (q1.cons a) (by rw [List.map_cons,q2,<-e.1])
 | swap x y r =>
  intro l e
  induction l using List.casesOn with
  | nil=>cases e
  | cons a l =>
   induction l using List.casesOn with
   | nil=>cases e
   | cons b l =>
    simp only [List.map_cons,List.cons.injEq] at e;exact Z0 (b :: a :: l) (.swap ..) (by rw [List.map_cons,List.map_cons,<-e.1,<-e.2.1,<-e.2.2])
 | trans p q ih1 ih2 =>
  intro l e;refine Q3 (ih2 e) ?_;intro l1 q1 q2;refine Q3 (ih1 q2.symm) ?_;intro l2 q3 q4;exact Z0 l2 (q3.trans q1) q4
theorem Ld {tab:Nat->Str}(T:Bn tab):∀ {r:List Nat}{p:Nat},p<Yi->(∀ x∈r,x<Yi)->risingS (tab p) (r.map tab)=true->upN p r
 | [],_,_,_,_=>trivial
 | x :: r,p,hp,hr,h=>by
  have h:(!PySem.Spec.ltCps (tab x).cps.toList (tab p).cps.toList&&risingS (tab x) (r.map tab))=true:=h;simp only [Bool.and_eq_true,Bool.not_eq_true'] at h;refine ⟨?_,Ld T (hr x (.head _)) (λy hy=>hr y (.tail _ hy)) h.2⟩
  rcases Nat.lt_or_ge x p with q | q
  ·have:=T x p q hp;rw [h.1] at this;cases this
  ·exact q
theorem Sa {tab:Nat->Str}(T:Bn tab){l:List Nat}(hr:∀ x∈l,x<Yi)(h:sortedS (l.map tab)=true):upL l:=by
 induction l using List.casesOn with
 | nil=>trivial
 | cons x r=>exact Ld T (hr x (.head _)) (λy hy=>hr y (.tail _ hy)) h
theorem Le {a:Nat}:∀ {l:List Nat},(Rg a l).Perm (a :: l)
 | []=>.refl _
 | b :: r=>by
  unfold Rg
  split
  ·exact .refl _
  ·exact (Le.cons b).trans (.swap ..)
theorem Zt:∀ {l:List Nat},(Os l).Perm l
 | []=>.refl _
 | a :: r=>Le.trans (Zt.cons a)
theorem Eg {a b:Nat}(h:Nat.ble a b=true):a<=b:=Nat.le_of_ble_eq_true h
theorem ble_f {a b:Nat}(h:Nat.ble a b=false):b<=a:=by
 rcases Nat.le_total a b with q | q
 ·rw [Nat.ble_eq_true_of_le q] at h;cases h
 ·exact q
set_option tactic.hygienic true in
theorem Ah {a:Nat}:∀ {l:List Nat}{p:Nat},p<=a->upN p l->upN p (Rg a l)
 | [],_,h,_=>⟨h,trivial⟩
 | b :: r,p,h,⟨h1,h2⟩=>by
  unfold Rg
  split
  ·rename_i q;exact ⟨h,Eg q,h2⟩
  ·rename_i q;exact ⟨h1,Ah (ble_f q) h2⟩
theorem Vb {l:List Nat}(h:upL l):upN 0 l:=by induction l using List.casesOn with | nil=>trivial | cons x r=>exact ⟨Nat.zero_le _,h⟩
theorem Vc:∀ {l:List Nat},upL (Os l)
 | []=>trivial
 | a :: r=>P7 (p:=0) (Ah (Nat.zero_le _) (Vb Vc))
set_option tactic.hygienic true in
theorem Bp {a:Nat}:∀ {l:List Nat}{x:Nat},x∈Jr a l↔x=a\/x∈l
 | [],x=>by simp [Jr]
 | b :: r,x=>by
  unfold Jr
  split
  ·rename_i q;have:=Z8.mp q;subst this;simp
  ·split
   ·simp
   ·simp only [List.mem_cons,Bp (l:=r)]
    constructor
    ·rintro (h | h | h)
     ·exact .inr (.inl h)
     ·exact .inl h
     ·exact .inr (.inr h)
    ·rintro (h | h | h)
     ·exact .inr (.inl h)
     ·exact .inl h
     ·exact .inr (.inr h)
theorem Qx:∀ {l:List Nat}{x:Nat},x∈E3 l↔x∈l
 | [],x=>.rfl
 | a :: r,x=>by unfold E3;rw [Bp,Qx (l:=r),List.mem_cons]
set_option tactic.hygienic true in
theorem Ai {a:Nat}:∀ {l:List Nat}{p:Nat},p<=a->upN p l->upN p (Jr a l)
 | [],_,h,_=>⟨h,trivial⟩
 | b :: r,p,h,⟨h1,h2⟩=>by
  unfold Jr
  split
  ·exact ⟨h1,h2⟩
  ·split
   ·rename_i q;exact ⟨h,Eg q,h2⟩
   ·rename_i q;exact ⟨h1,Ai (ble_f q) h2⟩
theorem Bq:∀ {l:List Nat},upL (E3 l)
 | []=>trivial
 | a :: r=>P7 (p:=0) (Ai (Nat.zero_le _) (Vb Bq))
set_option tactic.hygienic true in
theorem Br {a:Nat}:∀ {l:List Nat},upL l->l.Nodup->(Jr a l).Nodup
 | [],_,_=>by simp [Jr]
 | b :: r,u,h=>by
  have hb:=List.nodup_cons.mp h;unfold Jr
  split
  ·exact h
  ·rename_i q
   split
   ·rename_i q2
    refine List.nodup_cons.mpr ⟨λm=>?_,h⟩
    rcases List.mem_cons.mp m with e | e
    ·exact J3 q e
    ·exact J3 q (Nat.le_antisymm (Eg q2) (Uz u a e))
   ·refine List.nodup_cons.mpr ⟨λm=>?_,Br (P7 u) hb.2⟩
    rcases Bp.mp m with e | e
    ·exact J3 q e.symm
    ·exact hb.1 e
theorem Ud:∀ {l:List Nat},(E3 l).Nodup
 | []=>.nil
 | a :: r=>Br Bq Ud
set_option tactic.hygienic true in
theorem Bs:∀ {ss acc:List Str}{x:Str},x∈ss.foldl R5 acc↔x∈acc\/x∈ss
 | [],acc,x=>by simp
 | y :: ss,acc,x=>by
  rw [List.foldl_cons,Bs];unfold R5
  split
  ·rename_i h
   constructor
   ·rintro (q | q)
    ·exact .inl q
    ·exact .inr (.tail _ q)
   ·rintro (q | q)
    ·exact .inl q
    ·rcases List.mem_cons.mp q with e | e
     ·exact .inl (e▸h)
     ·exact .inr e
  ·simp only [List.mem_append,List.mem_cons,List.not_mem_nil,or_false]
   exact or_assoc
set_option tactic.hygienic true in
theorem Yw:∀ {ss acc:List Str},acc.Nodup->(ss.foldl R5 acc).Nodup
 | [],_,h=>h
 | y :: ss,acc,h=>by
  rw [List.foldl_cons];refine Yw ?_;unfold R5
  split
  ·exact h
  ·rename_i q
   exact List.nodup_append.mpr ⟨h,by simp,λa ha b hb=>by rw [List.mem_singleton.mp hb];exact λe=>q (e▸ha)⟩
theorem Vd (inj:∀ i j,W.tab i=W.tab j->i=j){l:List Nat}:(C0 (l.map W.tab)).Perm ((E3 l).map W.tab):=by
 refine (List.perm_ext_iff_of_nodup (Yw .nil) ?_).mpr λx=>?_
 ·exact List.Pairwise.map _ (λa b ne q=>ne (inj _ _ q)) Ud
 ·rw [Bs,List.mem_map,List.mem_map]
  constructor
  ·rintro (q | ⟨a,ha,e⟩)
   ·cases q
   ·exact Z0 a (Qx.mpr ha) e
  ·rintro ⟨a,ha,e⟩
   exact .inr ⟨a,Qx.mp ha,e⟩
theorem Lf (T:Bn W.tab){ss':List Str}{l m:List Nat}(hm:upL m)(hl:∀ x∈m,x<Yi)(p:ss'.Perm (m.map W.tab))(h:sortedS ss'=true):ss'=m.map W.tab:=by
 refine Q3 (Q2k p rfl) ?_;intro l' q1 q2;have hr:∀ x∈l',x<Yi:=λx hx=>hl x (q1.mem_iff.mp hx);rw [<-q2] at h;rw [<-q2,Lc q1 (Sa T hr h) hm]
theorem Bt {μ:Mp}:∀ {m:List Nat}{vs:List Value},StrsAre vs (m.map W.tab)->VRs W μ (Cj m) vs
 | [],_,.nil=>.nil
 | a :: m,_,.cons _ t h=>.cons (.str a t) (Bt h)
theorem Bu:∀ {xs:List V}{k:List Nat->R},Q0m xs k=true->∃ l,k l=true/\(∀ x∈l,x<Yi)/\∀ {μ:Mp}{vs:List Value},VRs W μ xs vs->StrsAre vs (l.map W.tab)
 | [],k,h=>⟨[],h,λx hx=>(by cases hx),λr=>by induction r using VRs.nilE;exact .nil⟩
 | x :: r,k,h=>by
  refine Q3 (X4 (show S7 x _=true from h)) ?_;intro a ee1 h3;subst ee1;refine Q6 (bT (b:=Nat.blt a Yi) h3) ?_;intro q h3
  ·skip
   refine K0 (Bu (xs:=r) h3) ?_;intro l h4 h1 h2;refine J6 (a :: l) h4 (λx hx=>?_) (λr=>?_)
   ·rcases List.mem_cons.mp hx with e | e
    ·rw [e];exact Nat.le_of_ble_eq_true q
    ·exact h1 x e
   ·induction r using VRs.consE with
    | cons ra rb=>induction ra using VR.strE;exact .cons _ _ (h2 rb)
theorem Q2m {l:List Nat}{k:Unit->R}(h:twoUp l k=true):2<=l.length/\k ()=true:=by
 induction l using List.casesOn with
 | nil=>first | exact ff h | cases h
 | cons a r=>induction r using List.casesOn with
  | nil=>first | exact ff h | cases h
  | cons b r=>exact ⟨by simp,h⟩
theorem Inv.drawn {μ:Mp}{st:St}{s:Shared}(I:Inv W μ st s)(d:Drawn):Inv W μ st { s with drawn:=d }:=⟨I.keep,I.fresh,I.objs,I.lt,I.inj⟩
theorem Ext.drawn (μ:Mp)(s:Shared)(d:Drawn):Ext μ s μ { s with drawn:=d }:=⟨λU U h=>h,λU U U h q=>(by rw [h] at q;exact sN q),λU U h U=>h,rfl⟩
section
variable {C:Cls}{ev:Ev}
theorem Ve {vs:List Value}{ss:List Str}(h:StrsAre vs ss):vs.length=ss.length:=by induction h <;> simp_all
set_option tactic.hygienic true in
theorem Sb (w:Wf W)(T:Bn W.tab){g:G}{a:E}{ea:Expr}{id:Str}{p pos:Pos}(hh:∀ A env,C A env->A.handled=none)(hs:Z5 ea=true)(h:SE W C (ev a) (eval ea))(hn:J9 W id (.builtin "sorted")=true)
  (hk:∀ A env,C A env->env.kindOf id=some .globalImplicit)(hd:(id==("__debug__":Str))=false):SE W C (hBi g ev .sorted [a]) (eval (.Call (.Name id p) [ea] [] pos)):=λcs lo st k q=>by
 have H:SEs W C ev [a] [ea]:=.cons hs h .nil;refine byC λζ=>?_;refine Q7 (H.callB (pos:=pos) (f:=.builtin "sorted") (.inl ⟨_,rfl⟩) (show evL ev [a] cs lo st (λvs s=>biV g .sorted s vs k)=true from q)) ?_;intro vs st1 q2 r1
 refine Q3 (V7 (show one vs _=true from q2)) ?_;intro x ee1 q3;subst ee1;refine Y0 (Y1 q3) ?_;intro pp o ee2 ho q4;subst ee2;refine Q3 (B8 q4) ?_;intro xs ee1 q5;subst ee1;refine K0 (Bu (W:=W) q5) ?_;intro l q6 l1 l2;refine Q6 (D3 q6) ?_;intro l3 q7;refine Q7 (B1 q7) ?_;intro v st2 q8 al;refine ζ ?_;refine ⟨v,st2,q8,λA env X μ s I N=>wpAny_Call_Name_kw (B6 w I N hn (hk A env X) hd ?_)⟩;refine r1 X I N λμ' s' ys e I' rr=>?_
 induction rr using VRs.consE with
 | cons ra rb =>
  induction rb using VRs.nilE
  refine Y0 (Z6 I' ra ho) ?_;intro b d ee2 m oo;subst ee2
  induction oo using OR.listE with
  | list hl hr hz =>
   rename_i its;have sa:=l2 hr;refine sorted_strs (vs:=its.toList) (by simpa using hl.isList) sa (by rw [Ve sa];simp;lia) λout ss' a1 a2 a3=>?_;refine byC λζ=>?_;refine J2 (sortedAll_at s'.heap its.toList out) ?_;intro ep he;have es:=Lf T (l:=l) (m:=Os l) Vc (λx hx=>l1 x (Zt.mem_iff.mp hx)) (a2.trans (Zt.map _).symm) a3;rw [es] at a1;refine K0 (I'.made (t:=s'.toks) (its:=out) al (λb o z=>sortedAll_old z) (Heap.get?_none_of_le (Nat.le_succ _)) ⟨ep,he⟩ (Bt a1)) ?_;intro μ2 e2 I2 r2;refine ζ ?_;exact J6 μ2 (e.trans e2) I2 r2
set_option tactic.hygienic true in
theorem Mz (w:Wf W)(T:Bn W.tab){g:G}{a:E}{ea:Expr}{l r:Str}{p p1 p2 pos:Pos}(hh:∀ A env,C A env->A.handled=none)(hs:Z5 ea=true)(h:SE W C (ev a) (eval ea))(hl:J9 W l (.builtin "sorted")=true)(hr:J9 W r (.type "set")=true)
  (kl:∀ A env,C A env->env.kindOf l=some .globalImplicit)(kr:∀ A env,C A env->env.kindOf r=some .globalImplicit)(dl:(l==("__debug__":Str))=false)(dr:(r==("__debug__":Str))=false) :
  SE W C (hBi g ev .sortedSet [a]) (eval (.Call (.Name l p) [.Call (.Name r p1) [ea] [] p2] [] pos)):=λcs lo st k q=>by
 have H:SEs W C ev [a] [ea]:=.cons hs h .nil;refine byC λζ=>?_;refine Q7 (H.callB (pos:=p2) (f:=.type "set") (.inr ⟨_,rfl⟩) (show evL ev [a] cs lo st (λvs s=>biV g .sortedSet s vs k)=true from q)) ?_;intro vs st1 q2 r1
 refine Q3 (V7 (show one vs _=true from q2)) ?_;intro x ee1 q3;subst ee1;refine Y0 (Y1 q3) ?_;intro pp o ee2 ho q4;subst ee2;refine Q3 (B8 q4) ?_;intro xs ee1 q5;subst ee1;refine K0 (Bu (W:=W) q5) ?_;intro nl q6 l1 l2;refine Q6 (D3 q6) ?_;intro l3 q7;refine Q6 (Q2m q7) ?_;intro l4 q8;refine Q7 (B1 q8) ?_;intro v st2 q9 al;refine ζ ?_;refine ⟨v,st2,q9,λA env X μ s I N=>wpAny_Call_Name_kw (B6 w I N hl (kl A env X) dl ?_)⟩;refine callWith_builtin rfl (evalArgs_plain (spliced_cons ?_));refine wpAny_Call_Name_kw (B6 w I N hr (kr A env X) dr ?_);refine r1 X I N λμ' s' ys e I' rr=>?_
 induction rr using VRs.consE with
 | cons ra rb =>
  induction rb using VRs.nilE
  refine Y0 (Z6 I' ra ho) ?_;intro b d ee2 m oo;subst ee2
  induction oo using OR.listE with
  | list hl' hr' hz =>
   rename_i its;have sa:=l2 hr';have il:its.toList.length=nl.length:=by rw [Ve sa];simp
   refine Dz (hh A env X) hl'.isList sa (by rw [<-Array.length_toList,il];unfold scanBound;lia) λh1 tk es ep t S nm k1=>?_;refine spliced_nil ?_;have K1:∀ b o,s'.heap.get? b=some o->h1.get? b=some o:=λb o z=>k1 b o (Heap.lt_size z) z;have pm:=nm.trans (Vd w.inj (l:=nl));have sz:es.size=(E3 nl).length:=by have:=pm.length_eq;simpa [Y9] using this
   have le:(E3 nl).length<=nl.length:=by
    have:∀ {l:List Nat}{a:Nat},(Jr a l).length<=l.length+1:=by
     intro l a
     induction l with
     | nil=>simp [Jr]
     | cons b r ih=>unfold Jr;split <;> (try split) <;> simp <;> lia
    have:∀ l:List Nat,(E3 l).length<=l.length:=λl=>by
     induction l with
     | nil=>exact Nat.le_refl _
     | cons a r ih=>unfold E3;have:=@this (E3 r) a;simp;lia
    exact this nl
   refine Ef (s:={ s' with heap:=h1,toks:=tk }) (hh A env X) S (by lia) (by lia) λr h2 tk2 dd out ss' ep2 g1 g2 g3 a1 a2 a3=>?_;have es':=Lf T (l:=nl) (m:=E3 nl) Bq (λx hx=>l1 x (Qx.mp hx)) (a2.trans pm) a3;rw [es'] at a1;have nr:s'.heap.get? r=none:=by
    cases z:s'.heap.get? r with
    | none=>rfl
    | some o=>exact absurd (Heap.lt_size (K1 r o z)) (Nat.not_lt.mpr g2)
   refine K0 ((I'.drawn dd).made (t:=tk2) (its:=out) al (λb o z=>g3 b o (K1 b o z)) nr ⟨ep2,g1⟩ (Bt a1)) ?_;intro μ2 e2 I2 r2;exact J6 μ2 (e.trans ((Ext.drawn ..).trans e2)) I2 r2
end
end
noncomputable def Na (x:Expr)(k:BoolOp->(List Expr)->Pos->Bool):Bool:=by
 induction x using Expr.casesOn with
 | BoolOp a b c=>exact k a b c
 | _=>exact false
theorem Bv {M:Expr->Prop}(H:∀ a b c,k a b c=true->M (.BoolOp a b c)):∀ x,Na x k=true->M x:=by intro x;induction x using Expr.casesOn <;> first | exact ff | exact H _ _ _
noncomputable def Bw (x:Expr)(k:Expr->Operator->Expr->Pos->Bool):Bool:=by
 induction x using Expr.casesOn with
 | BinOp a b c d=>exact k a b c d
 | _=>exact false
theorem Qy {M:Expr->Prop}(H:∀ a b c d,k a b c d=true->M (.BinOp a b c d)):∀ x,Bw x k=true->M x:=by intro x;induction x using Expr.casesOn <;> first | exact ff | exact H _ _ _ _
noncomputable def Vf (x:Expr)(k:UnaryOp->Expr->Pos->Bool):Bool:=by
 induction x using Expr.casesOn with
 | UnaryOp a b c=>exact k a b c
 | _=>exact false
theorem Ue {M:Expr->Prop}(H:∀ a b c,k a b c=true->M (.UnaryOp a b c)):∀ x,Vf x k=true->M x:=by intro x;induction x using Expr.casesOn <;> first | exact ff | exact H _ _ _
noncomputable def Eh (x:Expr)(k:Expr->Expr->Expr->Pos->Bool):Bool:=by
 induction x using Expr.casesOn with
 | IfExp a b c d=>exact k a b c d
 | _=>exact false
theorem Lg {M:Expr->Prop}(H:∀ a b c d,k a b c d=true->M (.IfExp a b c d)):∀ x,Eh x k=true->M x:=by intro x;induction x using Expr.casesOn <;> first | exact ff | exact H _ _ _ _
noncomputable def vDict (x:Expr)(k:(List (Option Expr))->(List Expr)->Pos->Bool):Bool:=by
 induction x using Expr.casesOn with
 | Dict a b c=>exact k a b c
 | _=>exact false
theorem Q2n {M:Expr->Prop}(H:∀ a b c,k a b c=true->M (.Dict a b c)):∀ x,vDict x k=true->M x:=by intro x;induction x using Expr.casesOn <;> first | exact ff | exact H _ _ _
noncomputable def Qz (x:Expr)(k:Expr->(List Comprehension)->Scope->Pos->Bool):Bool:=by
 induction x using Expr.casesOn with
 | ListComp a b c d=>exact k a b c d
 | _=>exact false
theorem Yx {M:Expr->Prop}(H:∀ a b c d,k a b c d=true->M (.ListComp a b c d)):∀ x,Qz x k=true->M x:=by intro x;induction x using Expr.casesOn <;> first | exact ff | exact H _ _ _ _
noncomputable def P8 (x:Expr)(k:Expr->(List CmpOp)->(List Expr)->Pos->Bool):Bool:=by
 induction x using Expr.casesOn with
 | Compare a b c d=>exact k a b c d
 | _=>exact false
theorem E9 {M:Expr->Prop}(H:∀ a b c d,k a b c d=true->M (.Compare a b c d)):∀ x,P8 x k=true->M x:=by intro x;induction x using Expr.casesOn <;> first | exact ff | exact H _ _ _ _
noncomputable def vCall (x:Expr)(k:Expr->(List Expr)->(List Keyword)->Pos->Bool):Bool:=by
 induction x using Expr.casesOn with
 | Call a b c d=>exact k a b c d
 | _=>exact false
theorem Q2p {M:Expr->Prop}(H:∀ a b c d,k a b c d=true->M (.Call a b c d)):∀ x,vCall x k=true->M x:=by intro x;induction x using Expr.casesOn <;> first | exact ff | exact H _ _ _ _
noncomputable def W8 (x:Expr)(k:Const->Nat->Pos->Bool):Bool:=by
 induction x using Expr.casesOn with
 | Constant a b c=>exact k a b c
 | _=>exact false
theorem D7 {M:Expr->Prop}(H:∀ a b c,k a b c=true->M (.Constant a b c)):∀ x,W8 x k=true->M x:=by intro x;induction x using Expr.casesOn <;> first | exact ff | exact H _ _ _
noncomputable def H6 (x:Expr)(k:Expr->Str->Pos->Bool):Bool:=by
 induction x using Expr.casesOn with
 | Attribute a b c=>exact k a b c
 | _=>exact false
theorem B9 {M:Expr->Prop}(H:∀ a b c,k a b c=true->M (.Attribute a b c)):∀ x,H6 x k=true->M x:=by intro x;induction x using Expr.casesOn <;> first | exact ff | exact H _ _ _
noncomputable def M7 (x:Expr)(k:Expr->Expr->Pos->Bool):Bool:=by
 induction x using Expr.casesOn with
 | Subscript a b c=>exact k a b c
 | _=>exact false
theorem H5 {M:Expr->Prop}(H:∀ a b c,k a b c=true->M (.Subscript a b c)):∀ x,M7 x k=true->M x:=by intro x;induction x using Expr.casesOn <;> first | exact ff | exact H _ _ _
noncomputable def M4 (x:Expr)(k:Str->Pos->Bool):Bool:=by
 induction x using Expr.casesOn with
 | Name a b=>exact k a b
 | _=>exact false
theorem Y8 {M:Expr->Prop}(H:∀ a b,k a b=true->M (.Name a b)):∀ x,M4 x k=true->M x:=by intro x;induction x using Expr.casesOn <;> first | exact ff | exact H _ _
noncomputable def vList (x:Expr)(k:(List Expr)->Pos->Bool):Bool:=by
 induction x using Expr.casesOn with
 | List a b=>exact k a b
 | _=>exact false
theorem Q2q {M:Expr->Prop}(H:∀ a b,k a b=true->M (.List a b)):∀ x,vList x k=true->M x:=by intro x;induction x using Expr.casesOn <;> first | exact ff | exact H _ _
noncomputable def Ke (x:Expr)(k:(List Expr)->Nat->Pos->Bool):Bool:=by
 induction x using Expr.casesOn with
 | Tuple a b c=>exact k a b c
 | _=>exact false
theorem Za {M:Expr->Prop}(H:∀ a b c,k a b c=true->M (.Tuple a b c)):∀ x,Ke x k=true->M x:=by intro x;induction x using Expr.casesOn <;> first | exact ff | exact H _ _ _
noncomputable def Ei (x:Expr)(k:(Option Expr)->(Option Expr)->(Option Expr)->Pos->Bool):Bool:=by
 induction x using Expr.casesOn with
 | Slice a b c d=>exact k a b c d
 | _=>exact false
theorem Lh {M:Expr->Prop}(H:∀ a b c d,k a b c d=true->M (.Slice a b c d)):∀ x,Ei x k=true->M x:=by intro x;induction x using Expr.casesOn <;> first | exact ff | exact H _ _ _ _
noncomputable def Nb (x:Stmt)(k:Str->Arguments->(List Stmt)->(List Expr)->(Option Expr)->(List TypeParam)->Scope->(Option Scope)->Str->Pos->Bool):Bool:=by
 induction x using Stmt.casesOn with
 | FunctionDef a b c d e f g i j l=>exact k a b c d e f g i j l
 | _=>exact false
theorem Q0c {M:Stmt->Prop}(H:∀ a b c d e f g i j l,k a b c d e f g i j l=true->M (.FunctionDef a b c d e f g i j l)):∀ x,Nb x k=true->M x:=by intro x;induction x using Stmt.casesOn <;> first | exact ff | exact H _ _ _ _ _ _ _ _ _ _
noncomputable def R7 (x:Stmt)(k:(Option Expr)->Pos->Bool):Bool:=by
 induction x using Stmt.casesOn with
 | Return a b=>exact k a b
 | _=>exact false
theorem M8 {M:Stmt->Prop}(H:∀ a b,k a b=true->M (.Return a b)):∀ x,R7 x k=true->M x:=by intro x;induction x using Stmt.casesOn <;> first | exact ff | exact H _ _
noncomputable def Yy (x:Stmt)(k:(List Expr)->Expr->Pos->Bool):Bool:=by
 induction x using Stmt.casesOn with
 | Assign a b c=>exact k a b c
 | _=>exact false
theorem R8 {M:Stmt->Prop}(H:∀ a b c,k a b c=true->M (.Assign a b c)):∀ x,Yy x k=true->M x:=by intro x;induction x using Stmt.casesOn <;> first | exact ff | exact H _ _ _
noncomputable def Zu (x:Stmt)(k:Expr->Operator->Expr->Pos->Bool):Bool:=by
 induction x using Stmt.casesOn with
 | AugAssign a b c d=>exact k a b c d
 | _=>exact false
theorem Zm {M:Stmt->Prop}(H:∀ a b c d,k a b c d=true->M (.AugAssign a b c d)):∀ x,Zu x k=true->M x:=by intro x;induction x using Stmt.casesOn <;> first | exact ff | exact H _ _ _ _
noncomputable def vFor (x:Stmt)(k:Expr->Expr->(List Stmt)->(List Stmt)->Pos->Bool):Bool:=by
 induction x using Stmt.casesOn with
 | For a b c d e=>exact k a b c d e
 | _=>exact false
theorem Aj {M:Stmt->Prop}(H:∀ a b c d e,k a b c d e=true->M (.For a b c d e)):∀ x,vFor x k=true->M x:=by intro x;induction x using Stmt.casesOn <;> first | exact ff | exact H _ _ _ _ _
noncomputable def Q2r (x:Stmt)(k:Expr->(List Stmt)->(List Stmt)->Pos->Bool):Bool:=by
 induction x using Stmt.casesOn with
 | While a b c d=>exact k a b c d
 | _=>exact false
theorem Sc {M:Stmt->Prop}(H:∀ a b c d,k a b c d=true->M (.While a b c d)):∀ x,Q2r x k=true->M x:=by intro x;induction x using Stmt.casesOn <;> first | exact ff | exact H _ _ _ _
noncomputable def vIf (x:Stmt)(k:Expr->(List Stmt)->(List Stmt)->Pos->Bool):Bool:=by
 induction x using Stmt.casesOn with
 | If a b c d=>exact k a b c d
 | _=>exact false
theorem Q2s {M:Stmt->Prop}(H:∀ a b c d,k a b c d=true->M (.If a b c d)):∀ x,vIf x k=true->M x:=by intro x;induction x using Stmt.casesOn <;> first | exact ff | exact H _ _ _ _
noncomputable def Q2t (x:Stmt)(k:(Option Expr)->(Option Expr)->Pos->Bool):Bool:=by
 induction x using Stmt.casesOn with
 | Raise a b c=>exact k a b c
 | _=>exact false
theorem Sd {M:Stmt->Prop}(H:∀ a b c,k a b c=true->M (.Raise a b c)):∀ x,Q2t x k=true->M x:=by intro x;induction x using Stmt.casesOn <;> first | exact ff | exact H _ _ _
noncomputable def vTry (x:Stmt)(k:(List Stmt)->(List ExceptHandler)->(List Stmt)->(List Stmt)->Pos->Bool):Bool:=by
 induction x using Stmt.casesOn with
 | Try a b c d e=>exact k a b c d e
 | _=>exact false
theorem Ak {M:Stmt->Prop}(H:∀ a b c d e,k a b c d e=true->M (.Try a b c d e)):∀ x,vTry x k=true->M x:=by intro x;induction x using Stmt.casesOn <;> first | exact ff | exact H _ _ _ _ _
noncomputable def Nc (x:Stmt)(k:Expr->Pos->Bool):Bool:=by
 induction x using Stmt.casesOn with
 | Expr a b=>exact k a b
 | _=>exact false
theorem Kg {M:Stmt->Prop}(H:∀ a b,k a b=true->M (.Expr a b)):∀ x,Nc x k=true->M x:=by intro x;induction x using Stmt.casesOn <;> first | exact ff | exact H _ _
noncomputable def vPass (x:Stmt)(k:Pos->Bool):Bool:=by
 induction x using Stmt.casesOn with
 | Pass a=>exact k a
 | _=>exact false
theorem Q2u {M:Stmt->Prop}(H:∀ a,k a=true->M (.Pass a)):∀ x,vPass x k=true->M x:=by intro x;induction x using Stmt.casesOn <;> first | exact ff | exact H _
noncomputable def Q2v (x:Stmt)(k:Pos->Bool):Bool:=by
 induction x using Stmt.casesOn with
 | Break a=>exact k a
 | _=>exact false
theorem Se {M:Stmt->Prop}(H:∀ a,k a=true->M (.Break a)):∀ x,Q2v x k=true->M x:=by intro x;induction x using Stmt.casesOn <;> first | exact ff | exact H _
noncomputable def Li (x:Stmt)(k:Pos->Bool):Bool:=by
 induction x using Stmt.casesOn with
 | Continue a=>exact k a
 | _=>exact false
theorem Nd {M:Stmt->Prop}(H:∀ a,k a=true->M (.Continue a)):∀ x,Li x k=true->M x:=by intro x;induction x using Stmt.casesOn <;> first | exact ff | exact H _
noncomputable def Q2w (x:Const)(k:Bool):Bool:=by
 induction x using Const.casesOn with
 | none=>exact k
 | _=>exact false
theorem Sf {M:Const->Prop}(H:k=true->M (.none )):∀ x,Q2w x k=true->M x:=by intro x;induction x using Const.casesOn <;> first | exact ff | exact H
noncomputable def Q2x (x:Const)(k:Bool->Bool):Bool:=by
 induction x using Const.casesOn with
 | bool a=>exact k a
 | _=>exact false
theorem Sg {M:Const->Prop}(H:∀ a,k a=true->M (.bool a)):∀ x,Q2x x k=true->M x:=by intro x;induction x using Const.casesOn <;> first | exact ff | exact H _
noncomputable def vKint (x:Const)(k:Int->Bool):Bool:=by
 induction x using Const.casesOn with
 | int a=>exact k a
 | _=>exact false
theorem Q2y {M:Const->Prop}(H:∀ a,k a=true->M (.int a)):∀ x,vKint x k=true->M x:=by intro x;induction x using Const.casesOn <;> first | exact ff | exact H _
noncomputable def Lj (x:Const)(k:Str->Bool):Bool:=by
 induction x using Const.casesOn with
 | str a=>exact k a
 | _=>exact false
theorem P9 {M:Const->Prop}(H:∀ a,k a=true->M (.str a)):∀ x,Lj x k=true->M x:=by intro x;induction x using Const.casesOn <;> first | exact ff | exact H _
noncomputable def vEcon (x:E)(k:V->Bool):Bool:=by
 induction x using E.casesOn with
 | con a=>exact k a
 | _=>exact false
theorem Q2z {M:E->Prop}(H:∀ a,k a=true->M (.con a)):∀ x,vEcon x k=true->M x:=by intro x;induction x using E.casesOn <;> first | exact ff | exact H _
noncomputable def vEloc (x:E)(k:Nat->Bool):Bool:=by
 induction x using E.casesOn with
 | loc a=>exact k a
 | _=>exact false
theorem Q3a {M:E->Prop}(H:∀ a,k a=true->M (.loc a)):∀ x,vEloc x k=true->M x:=by intro x;induction x using E.casesOn <;> first | exact ff | exact H _
noncomputable def Ej (x:E)(k:E->(List E)->Bool):Bool:=by
 induction x using E.casesOn with
 | call a b=>exact k a b
 | _=>exact false
theorem Zb {M:E->Prop}(H:∀ a b,k a b=true->M (.call a b)):∀ x,Ej x k=true->M x:=by intro x;induction x using E.casesOn <;> first | exact ff | exact H _ _
noncomputable def vEand (x:E)(k:E->E->Bool):Bool:=by
 induction x using E.casesOn with
 | and a b=>exact k a b
 | _=>exact false
theorem Q3b {M:E->Prop}(H:∀ a b,k a b=true->M (.and a b)):∀ x,vEand x k=true->M x:=by intro x;induction x using E.casesOn <;> first | exact ff | exact H _ _
noncomputable def vEor (x:E)(k:E->E->Bool):Bool:=by
 induction x using E.casesOn with
 | or a b=>exact k a b
 | _=>exact false
theorem Q8e {M:E->Prop}(H:∀ a b,k a b=true->M (.or a b)):∀ x,vEor x k=true->M x:=by intro x;induction x using E.casesOn <;> first | exact ff | exact H _ _
noncomputable def vEtup (x:E)(k:(List E)->Bool):Bool:=by
 induction x using E.casesOn with
 | tup a=>exact k a
 | _=>exact false
theorem Q3c {M:E->Prop}(H:∀ a,k a=true->M (.tup a)):∀ x,vEtup x k=true->M x:=by intro x;induction x using E.casesOn <;> first | exact ff | exact H _
noncomputable def Ek (x:E)(k:Bool->E->Tg->(Option E)->E->Bool):Bool:=by
 induction x using E.casesOn with
 | comp a b c d e=>exact k a b c d e
 | _=>exact false
theorem Lk {M:E->Prop}(H:∀ a b c d e,k a b c d e=true->M (.comp a b c d e)):∀ x,Ek x k=true->M x:=by intro x;induction x using E.casesOn <;> first | exact ff | exact H _ _ _ _ _
noncomputable def Q3d (x:E)(k:E->Bool):Bool:=by
 induction x using E.casesOn with
 | emit a=>exact k a
 | _=>exact false
theorem Sh {M:E->Prop}(H:∀ a,k a=true->M (.emit a)):∀ x,Q3d x k=true->M x:=by intro x;induction x using E.casesOn <;> first | exact ff | exact H _
noncomputable def vSex (x:S)(k:E->Bool):Bool:=by
 induction x using S.casesOn with
 | ex a=>exact k a
 | _=>exact false
theorem vSex_of {M:S->Prop}(H:∀ a,k a=true->M (.ex a)):∀ x,vSex x k=true->M x:=by intro x;induction x using S.casesOn <;> first | exact ff | exact H _
noncomputable def vSret (x:S)(k:E->Bool):Bool:=by
 induction x using S.casesOn with
 | ret a=>exact k a
 | _=>exact false
theorem Q3e {M:S->Prop}(H:∀ a,k a=true->M (.ret a)):∀ x,vSret x k=true->M x:=by intro x;induction x using S.casesOn <;> first | exact ff | exact H _
noncomputable def vSite (x:S)(k:E->(List S)->(List S)->Bool):Bool:=by
 induction x using S.casesOn with
 | ite a b c=>exact k a b c
 | _=>exact false
theorem Q3f {M:S->Prop}(H:∀ a b c,k a b c=true->M (.ite a b c)):∀ x,vSite x k=true->M x:=by intro x;induction x using S.casesOn <;> first | exact ff | exact H _ _ _
noncomputable def Q3g (x:S)(k:Bool->E->Tg->(List S)->Bool):Bool:=by
 induction x using S.casesOn with
 | for_ a b c d=>exact k a b c d
 | _=>exact false
theorem Si {M:S->Prop}(H:∀ a b c d,k a b c d=true->M (.for_ a b c d)):∀ x,Q3g x k=true->M x:=by intro x;induction x using S.casesOn <;> first | exact ff | exact H _ _ _ _
noncomputable def Qa {α:Type}(x:List α)(b:Bool):Bool:=@List.casesOn α (λU=>Bool) x b (λU U=>false)
theorem B3 {α:Type}{b:Bool}{M:List α->Prop}(H:b=true->M []):∀ x,Qa x b=true->M x:=λx=>@List.casesOn α (λx=>Qa x b=true->M x) x H (λU U h=>ff h)
noncomputable def G7 {α:Type}(x:List α)(k:α->List α->Bool):Bool:=@List.casesOn α (λU=>Bool) x false k
theorem Z9 {α:Type}{k:α->List α->Bool}{M:List α->Prop}(H:∀ a b,k a b=true->M (a :: b)):∀ x,G7 x k=true->M x:=λx=>@List.casesOn α (λx=>G7 x k=true->M x) x ff H
noncomputable def W2 {α:Type}(x:List α)(k:α->Bool):Bool:=G7 x λa r=>Qa r (k a)
theorem Y5 {α:Type}{k:α->Bool}{M:List α->Prop}(H:∀ a,k a=true->M [a]):∀ x,W2 x k=true->M x:=Z9 λa=>B3 (M:=λr=>M (a :: r)) (H a)
noncomputable def Nf {α:Type}(x:List α)(k:α->α->Bool):Bool:=G7 x λa r=>W2 r (k a)
theorem F4 {α:Type}{k:α->α->Bool}{M:List α->Prop}(H:∀ a b,k a b=true->M [a,b]):∀ x,Nf x k=true->M x:=Z9 λa=>Y5 (M:=λr=>M (a :: r)) (H a)
noncomputable def C5 {α:Type}(x:Option α)(k:α->Bool):Bool:=@Option.casesOn α (λU=>Bool) x false k
theorem D5 {α:Type}{k:α->Bool}{M:Option α->Prop}(H:∀ a,k a=true->M (some a)):∀ x,C5 x k=true->M x:=λx=>@Option.casesOn α (λx=>C5 x k=true->M x) x (λh=>ff h) H
noncomputable def Bx {α:Type}(x:Option α)(b:Bool):Bool:=@Option.casesOn α (λU=>Bool) x b (λU=>false)
theorem Qb {α:Type}{b:Bool}{M:Option α->Prop}(H:b=true->M none):∀ x,Bx x b=true->M x:=λx=>@Option.casesOn α (λx=>Bx x b=true->M x) x H (λU h=>ff h)
abbrev Nm:=List (Str × NameKind)
noncomputable def D6 (nm:Nm)(n:Str):Option NameKind:=match nm with
 | []=>none
 | x :: r=>(match x with | (m,k)=>(match eqS n m with | true=>some k | false=>D6 r n))
noncomputable def By (k:Option NameKind):Bool:=match k with | some k=>(match k with | .local=>true | _=>false) | none=>false
noncomputable def Vg (k:Option NameKind):Bool:=match k with | some k=>(match k with | .cell=>true | _=>false) | none=>false
noncomputable def isCF (k:Option NameKind):Bool:=match k with | some k=>(match k with | .cell=>true | .free=>true | _=>false) | none=>false
noncomputable def Vh (k:Option NameKind):Bool:=match k with | some k=>(match k with | .globalImplicit=>true | _=>false) | none=>false
structure Kt where
 tab:Nat->Str
 glob:Nat->Option V
 mask:Nat
 bi:Bi->Nat
 rangeN:Nat
 isinstN:Nat
 intN:Nat
 setN:Nat
 cname:Nat->Nat
 isi:Nat
abbrev Ck:=Nm->E->Expr->Bool
noncomputable def eqVg (a b:V):Bool:=match a with
 | .int i=>(match b with | .int j=>eqI i j | _=>false)
 | .fn p=>(match b with | .fn q=>P.beq p q | _=>false)
 | .cls c=>(match b with | .cls d=>Nat.beq c d | _=>false)
 | _=>false
noncomputable def Q0 (a b:Bool):Bool:=match a with | true=>b | false=>false
section
variable (T:Kt)(c:Ck)(nm:Nm)
noncomputable def kNm (k:Nat)(n:Str):Bool:=eqS (T.tab k) n
noncomputable def Q3h (k:Nat)(n:Str):Bool:=Q0 (kNm T k n) (Nat.testBit T.mask k)
noncomputable def Yz (es:List E)(xs:List Expr):Bool:=match es with
 | []=>Qa xs true
 | e :: es=>G7 xs λx xs=>Q0 (Z5 x) (Q0 (c nm e x) (Yz es xs))
noncomputable def ckKs (ks:List Nat)(es:List E)(keys:List (Option Expr))(xs:List Expr):Bool:=match ks with
 | []=>Qa es (Qa keys (Qa xs true))
 | k :: ks=>G7 es λe es=>G7 keys λkey keys=>C5 key λq=>W8 q λq U U=>Lj q λn=>G7 xs λx xs=>Q0 (kNm T k n) (Q0 (c nm e x) (ckKs ks es keys xs))
noncomputable def C6 (x:Expr)(k:Nat):Bool:=M4 x λn U=>Q0 (kNm T k n) (Vh (D6 nm n))
noncomputable def Q3i (v:V)(x:Expr):Bool:=W8 x λq U U=>match v with
 | .none=>Q2w q true
 | .bool a=>Q2x q λb=>match a with | true=>b | false=>(match b with | true=>false | false=>true)
 | .int j=>vKint q (eqI j)
 | .str k=>Lj q (kNm T k)
 | _=>false
noncomputable def Am (k:Nat)(v:V)(x:Expr):Bool:=Q0 (C6 T nm x k) (match T.glob k with | some u=>eqVg u v | none=>false)
noncomputable def Qc (k:Nat)(x:Expr):Bool:=M4 x λn U=>Q0 (kNm T k n) (By (D6 nm n))
noncomputable def ckCel (k:Nat)(x:Expr):Bool:=M4 x λn U=>Q0 (kNm T k n) (isCF (D6 nm n))
noncomputable def ckAttr (e:E)(k:Nat)(x:Expr):Bool:=H6 x λy n U=>Q0 (Q3h T k n) (Q0 (W7 y) (c nm e y))
noncomputable def ckSub (e i:E)(x:Expr):Bool:=M7 x λy z U=>Q0 (Yp z) (Q0 (c nm e y) (c nm i z))
noncomputable def ckSlT (e i:E)(x:Expr):Bool:=M7 x λy q U=>Ei q λlo up st U=>Bx lo (C5 up λz=>Bx st (Q0 (c nm e y) (c nm i z)))
noncomputable def ckSlF (e i:E)(x:Expr):Bool:=M7 x λy q U=>Ei q λlo up st U=>C5 lo λz=>Bx up (Bx st (Q0 (c nm e y) (c nm i z)))
noncomputable def Ng (x:Expr):Bool:=M4 x λU U=>true
noncomputable def Vi (x:Expr)(k:Expr->List Expr->Pos->Bool):Bool:=vCall x λf xs ks p=>Qa ks (k f xs p)
noncomputable def Lm (x:Expr)(k:Expr->Expr->Bool):Bool:=Vi x λf xs U=>W2 xs (k f)
noncomputable def ckCall (f:E)(as:List E)(x:Expr):Bool:=Vi x λg xs U=>Q0 (Ng g) (Q0 (c nm f g) (Yz c nm as xs))
noncomputable def ckMeth (o:E)(k:Nat)(as:List E)(x:Expr):Bool:=Vi x λg xs p=>H6 g λy n ap =>
 Q0 (kNm T k n) (Q0 (W7 y) (Q0 (Nat.beq ap.endLine p.line) (Q0 (Nat.blt xs.length 30) (Q0 (c nm o y) (Yz c nm as xs)))))
noncomputable def ckB1 (as:List E)(g:Expr)(k:Nat)(xs:List Expr):Bool:=W2 as λa=>W2 xs λy=>Q0 (C6 T nm g k) (Q0 (Z5 y) (c nm a y))
noncomputable def ckB2 (as:List E)(g:Expr)(k m:Nat)(xs:List Expr):Bool:=W2 as λa=>W2 xs λr=>Lm r λr y=>Q0 (C6 T nm g k) (Q0 (C6 T nm r m) (Q0 (Z5 y) (c nm a y)))
noncomputable def ckBi (b:Bi)(as:List E)(x:Expr):Bool:=Vi x λg xs U=>match b with
 | .listRange=>ckB2 T c nm as g (T.bi .list) T.rangeN xs
 | .isInt=>W2 as λa=>Nf xs λy n=>Q0 (C6 T nm g T.isinstN) (Q0 (C6 T nm n T.intN) (Q0 (Z5 y) (c nm a y)))
 | .sorted=>ckB1 T c nm as g (T.bi .sorted) xs
 | .sortedSet=>ckB2 T c nm as g (T.bi .sorted) T.setN xs
 | b=>Q0 (Tf b) (Q0 (C6 T nm g (T.bi b)) (Yz c nm as xs))
noncomputable def Q3j (e:E)(k:Nat)(x:Expr):Bool:=Vi x λg xs U=>Nf xs λy n=>Q0 (C6 T nm g T.isinstN) (Q0 (Z5 y) (Q0 (c nm e y) (Q0 (Am T nm (T.cname k) (.cls k) n) (Nat.testBit T.isi k))))
noncomputable def eqOp (op:Op)(o:Operator):Bool:=Nat.beq (opc op).ctorIdx o.ctorIdx
noncomputable def Q8f (op:Cm)(o:CmpOp):Bool:=Nat.beq (cmc op).ctorIdx o.ctorIdx
noncomputable def ckBin (op:Op)(a b:E)(x:Expr):Bool:=Bw x λy o z U=>Q0 (eqOp op o) (Q0 (c nm a y) (c nm b z))
noncomputable def Nh (x:Expr):Bool:=match x with | .Set ..=>false | _=>true
noncomputable def ckCmp (op:Cm)(a b:E)(x:Expr):Bool:=P8 x λy os zs U=>W2 os λo=>W2 zs λz=>Q0 (Q8f op o) (Q0 (Nh z) (Q0 (c nm a y) (c nm b z)))
noncomputable def ckCmp3 (o1 o2:Cm)(a b d:E)(x:Expr):Bool:=P8 x λy os zs U=>Nf os λp1 p2=>Nf zs λz u=>Q0 (Q8f o1 p1) (Q0 (Q8f o2 p2) (Q0 (Nh u) (Q0 (c nm a y) (Q0 (c nm b z) (c nm d u)))))
noncomputable def ckUn (o:UnaryOp)(e:E)(x:Expr):Bool:=Vf x λop y U=>Q0 (Nat.beq o.ctorIdx op.ctorIdx) (c nm e y)
noncomputable def Ni (e:E)(xs:List Expr):Bool:=match xs with
 | []=>false
 | x :: r=>(match r with | []=>c nm e x | _ :: _=>vEand e λa b=>Q0 (c nm a x) (Ni b r))
noncomputable def An (e:E)(xs:List Expr):Bool:=match xs with
 | []=>false
 | x :: r=>(match r with | []=>c nm e x | _ :: _=>vEor e λa b=>Q0 (c nm a x) (An b r))
noncomputable def two2 (xs:List Expr):Bool:=G7 xs λU r=>G7 r λU U=>true
noncomputable def ckAnd (e:E)(x:Expr):Bool:=Na x λop xs U=>Q0 (Nat.beq op.ctorIdx 0) (Q0 (two2 xs) (Ni c nm e xs))
noncomputable def ckOr (e:E)(x:Expr):Bool:=Na x λop xs U=>Q0 (Nat.beq op.ctorIdx 1) (Q0 (two2 xs) (An c nm e xs))
noncomputable def ckIte (a b d:E)(x:Expr):Bool:=Eh x λy z u U=>Q0 (c nm a y) (Q0 (c nm b z) (c nm d u))
noncomputable def ckLst (es:List E)(x:Expr):Bool:=vList x λxs U=>Yz c nm es xs
noncomputable def ckTup (es:List E)(x:Expr):Bool:=Ke x λxs U U=>Yz c nm es xs
noncomputable def ckDct (ks:List Nat)(es:List E)(x:Expr):Bool:=vDict x λkeys xs U=>Q0 (Nat.blt ks.length 16) (ckKs T c nm ks es keys xs)
noncomputable def Q3k (rng:Bool)(it:E)(x:Expr):Bool:=match rng with
 | true=>Lm x λr y=>Q0 (C6 T nm r T.rangeN) (Q0 (Z5 y) (c nm it y))
 | false=>c nm it x
noncomputable def ckB (b:Bool)(k:Nat)(n:Str):Bool:=Q0 (kNm T k n) (match b with | true=>Vg (D6 nm n) | false=>By (D6 nm n))
noncomputable def Vj (ks:List (Bool × Nat))(xs:List Expr):Bool:=match ks with
 | []=>Qa xs true
 | x :: ks=>G7 xs λy ys=>M4 y λn U=>Q0 (ckB T nm x.1 x.2 n) (Vj ks ys)
noncomputable def Q3m (tg:Tg)(x:Expr):Bool:=match tg with
 | .one b k=>M4 x λn U=>ckB T nm b k n
 | .many ks=>Ke x λxs U U=>Vj T nm ks xs
noncomputable def ckCo (cond:Option E)(ifs:List Expr):Bool:=match cond with
 | none=>Qa ifs true
 | some e=>W2 ifs (c nm e)
noncomputable def ckCR (elt:Expr)(gens:List Comprehension)(nxt:E):Bool:=match gens with
 | []=>Q3d nxt λe=>c nm e elt
 | g :: gs=>Ek nxt λrng it tg cond nx=>Q0 (eqI g.is_async 0) (Q0 (K5 g.iter) (Q0 (Q3k T c nm rng it g.iter) (Q0 (Q3m T nm tg g.target) (Q0 (ckCo c nm cond g.ifs) (ckCR elt gs nx)))))
noncomputable def relK (k:NameKind)(n:Str):NameKind:=match k with | .free=>(match Vg (D6 nm n) with | true=>.cell | false=>k) | _=>k
noncomputable def Nj (inner:Nm):Nm:=match inner with | []=>[] | x :: r=>(match x with | (n,k)=>(n,relK nm k n) :: Nj r)
noncomputable def Zv (inner:Nm):Bool:=match inner with | []=>true | x :: r=>(match x with | (_,k)=>(match k with | .cell=>false | _=>Zv r))
noncomputable def Ln (all inner:Nm):Bool:=match inner with | []=>true | x :: r=>(match x with | (n,k)=>(match k with | .local=>Q0 (By (D6 all n)) (Ln all r) | _=>Ln all r))
noncomputable def Zw (inner:Nm):Bool:=match inner with | []=>true | x :: r=>(match x with | (n,k)=>(match k with | .free=>Q0 (isCF (D6 nm n)) (Zw r) | _=>Zw r))
noncomputable def Lp (k:ScopeKind):Bool:=match k with | .function=>true | _=>false
noncomputable def Em (rng:Bool)(it:E)(tg:Tg)(cond:Option E)(nxt:E)(x:Expr):Bool:=Qz x λelt gens sc U=>G7 gens λg gs =>
 Q0 (Lp sc.kind) (Q0 (Zv sc.names) (Q0 (Ln sc.names sc.names) (Q0 (Zw nm sc.names) (Q0 (eqI g.is_async 0) (Q0 (K5 g.iter) (Q0 (Q3k T c nm rng it g.iter) (Q0 (Q3m T (Nj nm sc.names) tg g.target) (Q0 (ckCo c (Nj nm sc.names) cond g.ifs) (ckCR T c (Nj nm sc.names) elt gs nxt)))))))))
noncomputable def Q8g (e:E)(x:Expr):Bool:=match e with
 | .con v=>Q3i T v x | .glb k v=>Am T nm k v x | .loc k=>Qc T nm k x | .cel k=>ckCel T nm k x
 | .attr e k=>ckAttr T c nm e k x | .sub e i=>ckSub c nm e i x | .slT e i=>ckSlT c nm e i x | .slF e i=>ckSlF c nm e i x
 | .call f as=>ckCall c nm f as x | .meth o k as=>ckMeth T c nm o k as x | .bi b as=>ckBi T c nm b as x | .isinst e k=>Q3j T c nm e k x
 | .bin op a b=>ckBin c nm op a b x | .cmp op a b=>ckCmp c nm op a b x | .cmp3 o1 o2 a b d=>ckCmp3 c nm o1 o2 a b d x
 | .not e=>ckUn c nm .Not e x | .neg e=>ckUn c nm .USub e x | .and a b=>ckAnd c nm (.and a b) x | .or a b=>ckOr c nm (.or a b) x | .ite a b d=>ckIte c nm a b d x
 | .lst es=>ckLst c nm es x | .tup es=>ckTup c nm es x | .dct ks es=>ckDct T c nm ks es x
 | .comp rng it tg cond nxt=>Em T c nm rng it tg cond nxt x
 | .emit _=>false
end
noncomputable def K8 (T:Kt):Nat->Ck
 | 0=>λU U U=>false
 | n+1=>λnm e x=>Q8g T (K8 T n) nm e x
section
set_option tactic.hygienic true in
theorem En:∀ {xs ys:List Nat},eqL xs ys=true->xs=ys
 | [],[],_=>rfl
 | [],_ :: _,h=>by first | exact ff h | cases h
 | _ :: _,[],h=>by first | exact ff h | cases h
 | x :: xs,y :: ys,h=>by
  unfold eqL at h;dsimp only at h
  split at h
  ·rename_i q;rw [Z8.mp q,En h]
  ·cases h
theorem Vk:∀ xs:List Nat,eqL xs xs=true
 | []=>rfl
 | x :: xs=>by unfold eqL;dsimp only;rw [Nat.beq_refl];exact Vk xs
theorem J1 {a b:Str}(h:eqS a b=true):a=b:=by
 obtain ⟨⟨x⟩⟩:=a;obtain ⟨⟨y⟩⟩:=b;rw [En (show eqL x y=true from h)]
theorem Q3n (a:Str):eqS a a=true:=by obtain ⟨⟨x⟩⟩:=a;exact Vk x
theorem Ga (a b:Str):(a==b)=eqS a b:=by
 cases h:eqS a b with
 | true=>rw [J1 h];simp
 | false=>exact beq_eq_false_iff_ne.mpr λe=>by subst e;rw [Q3n] at h;cases h
theorem V3:∀ {nm:Nm}{n:Str},D6 nm n=nm.lookup n
 | [],_=>rfl
 | (m,k) :: r,n=>by
  unfold D6;dsimp only;rw [List.lookup_cons,Ga];cases eqS n m with
  | true=>rfl
  | false=>exact V3
theorem C7 {k:Option NameKind}(h:By k=true):k=some .local:=by cases k with | none=>cases h | some k=>cases k <;> first | rfl | cases h
theorem Bz {k:Option NameKind}(h:Vg k=true):k=some .cell:=by cases k with | none=>cases h | some k=>cases k <;> first | rfl | cases h
theorem Ap {k:Option NameKind}(h:isCF k=true):k=some .cell\/k=some .free:=by cases k with | none=>cases h | some k=>cases k <;> first | exact .inl rfl | exact .inr rfl | cases h
theorem Ja {k:Option NameKind}(h:Vh k=true):k=some .globalImplicit:=by cases k with | none=>cases h | some k=>cases k <;> first | rfl | cases h
theorem Qd {k:ScopeKind}(h:Lp k=true):k=.function:=by cases k <;> first | rfl | cases h
theorem Q1 {a b:Bool}(h:Q0 a b=true):a=true/\b=true:=by induction a using Bool.casesOn <;> first | exact ⟨rfl,h⟩ | cases h
theorem Kh {a b:Int}(h:eqI a b=true):a=b:=of_decide_eq_true (Mi▸h)
theorem Q8h {a b:V}(h:eqVg a b=true):a=b:=by
 induction a using V.casesOn <;> first | exact ff h | (cases h;done) | (cases b <;> first | exact ff h | (cases h;done) | skip)
 ·rw [Kh h]
 ·rw [P.beq_of h]
 ·rw [Z8.mp h]
theorem Jb {op:Op}{o:Operator}(h:eqOp op o=true):o=opc op:=by rw [<-Operator.ofNat_ctorIdx o,<-Z8.mp h,Operator.ofNat_ctorIdx]
theorem Jc {op:Cm}{o:CmpOp}(h:Q8f op o=true):o=cmc op:=by rw [<-CmpOp.ofNat_ctorIdx o,<-Z8.mp h,CmpOp.ofNat_ctorIdx]
theorem Aq {a b:UnaryOp}(h:Nat.beq a.ctorIdx b.ctorIdx=true):a=b:=by rw [<-UnaryOp.ofNat_ctorIdx a,Z8.mp h,UnaryOp.ofNat_ctorIdx]
theorem Q5 {a b:Bool}(h:Q0 a b=true):a=true:=(Q1 h).1
theorem Q2 {a b:Bool}(h:Q0 a b=true):b=true:=(Q1 h).2
theorem O7 {k:Expr->List Expr->Pos->Bool}{M:Expr->Prop}(H:∀ f xs p,k f xs p=true->M (.Call f xs [] p)):∀ x,Vi x k=true->M x:=Q2p λf xs ks p=>B3 (M:=λks=>M (.Call f xs ks p)) (H f xs p) ks
theorem C8 {k:Expr->Expr->Bool}{M:Expr->Prop}(H:∀ f y p,k f y=true->M (.Call f [y] [] p)):∀ x,Lm x k=true->M x:=O7 λf xs p=>Y5 (M:=λxs=>M (.Call f xs [] p)) (λy=>H f y p) xs
structure KtOk (W:Wd)(T:Kt):Prop where
 tab:W.tab=T.tab
 glob:∀ k v,T.glob k=some v->X5 W v (T.tab k)=true
 dbg:∀ k,(T.tab k==("__debug__":Str))=false
 cld:∀ k,(T.tab k==("__classdict__":Str))=false
 mask:∀ k,Nat.testBit T.mask k=true->k∈W.names
 bi:∀ b,Tf b=true->J9 W (T.tab (T.bi b)) (biF b)=true
 range:J9 W (T.tab T.rangeN) (.type "range")=true
 isinst:J9 W (T.tab T.isinstN) (.builtin "isinstance")=true
 intT:J9 W (T.tab T.intN) (.type "int")=true
 isi:∀ c,Nat.testBit T.isi c=true->Kz W c=true
 setB:J9 W (T.tab T.setN) (.type "set")=true
 srt:J9 W (T.tab (T.bi .sorted)) (.builtin "sorted")=true
 lt:Bn T.tab
structure Good (C:Cls)(nm:Nm)(N:Nat):Prop where
 names:∀ A env,C A env->env.scope.names=nm
 kind:∀ A env,C A env->env.scope.kind=.function
 ro:∀ A env,C A env->Ro A N
variable {W:Wd}
section
variable {C:Cls}{nm:Nm}{N:Nat}
theorem Good.at (G:Good C nm N){n:Str}{k:NameKind}(h:D6 nm n=some k):∀ A env,C A env->env.kindOf n=some k:=λA env X=>by
 unfold Env.kindOf;rw [G.names A env X,<-V3,h]
theorem Good.hh (G:Good C nm N):∀ A env,C A env->A.handled=none:=λA env X=>(G.ro A env X).handled
theorem Good.hu (G:Good C nm N):∀ A env,C A env->A.units+200<=cLine:=λA env X=>by have:=(G.ro A env X).units;lia
theorem Good.kb (G:Good C nm N){T:Kt}{b:Bool}{k:Nat}{n:Str}(h:ckB T nm b k n=true):T.tab k=n/\∀ A env,C A env->V2 env b n=true:=by
 refine Q6 (Q1 h) ?_;intro h1 h2;refine ⟨J1 h1,λA env X=>?_⟩;unfold V2
 induction b using Bool.casesOn with
 | true=>rw [G.at (Bz h2) A env X];rfl
 | false=>rw [G.at (C7 h2) A env X];rfl
end
section
variable {C:Cls}{nm:Nm}{N:Nat}{T:Kt}{ev:Ev}{c:Ck}
theorem Qe (H:∀ e x,c nm e x=true->SE W C (ev e) (eval x)):∀ {es:List E}{xs:List Expr},Yz c nm es xs=true->SEs W C ev es xs
 | [],xs,h=>by revert xs;refine @B3 _ _ _ λU=>?_;exact .nil
 | _ :: _,xs,h=>by
  revert xs;refine @Z9 _ _ _ λx U h=>?_;exact .cons (Q5 h) (H _ x (Q5 (Q2 h))) (Qe H (Q2 (Q2 h)))
theorem Q3p (KO:KtOk W T)(H:∀ e x,c nm e x=true->SE W C (ev e) (eval x)):∀ {ks:List Nat}{es:List E}{keys:List (Option Expr)}{xs:List Expr},ckKs T c nm ks es keys xs=true->KEs W C ev ks es keys xs
 | [],es,keys,xs,h=>by
  revert es;refine @B3 _ _ _ λh=>?_;revert keys;refine @B3 _ _ _ λh=>?_;revert xs;refine @B3 _ _ _ λU=>?_;exact .nil
 | k :: ks,es,keys,xs,h=>by
  revert es;refine @Z9 _ _ _ λe es h=>?_;revert keys;refine @Z9 _ _ _ λkey keys h=>?_;revert key;refine @D5 _ _ _ λq h=>?_;revert q;refine @D7 _ _ λq U U h=>?_;revert q;refine @P9 _ _ λn h=>?_;revert xs;refine @Z9 _ _ _ λx xs h=>?_;exact .cons (KO.tab▸J1 (Q5 h)) (H e x (Q5 (Q2 h))) (Q3p KO H (Q2 (Q2 h)))
theorem B7 (G:Good C nm N)(KO:KtOk W T){x:Expr}{k:Nat}(h:C6 T nm x k=true):∃ p,x=.Name (T.tab k) p/\(∀ A env,C A env->env.kindOf (T.tab k)=some .globalImplicit)/\(T.tab k==("__debug__":Str))=false:=by
 revert x;refine @Y8 _ _ λn p h=>?_;cases J1 (Q5 h);exact J6 p rfl (G.at (Ja (Q2 h))) (KO.dbg k)
theorem Q3q (KO:KtOk W T){v:V}{x:Expr}(h:Q3i T v x=true):SE W C (Rh v) (eval x):=λcs l st k q=>by
 refine ⟨v,st,q,?_⟩;revert x;refine @D7 _ _ λc U U h=>?_
 induction v using V.casesOn with
 | none=>revert c;refine @Sf _ _ λU=>?_;exact Q6y
 | bool a =>
   revert c;refine @Sg _ _ λb h=>?_;have:a=b:=by induction a using Bool.casesOn <;> cases b <;> first | rfl | exact ff h
   subst this;exact Q6z
 | int i=>revert c;refine @Q2y _ _ λj h=>?_;rw [Kh h];exact te_int
 | str k=>revert c;refine @P9 _ _ λs h=>?_;exact te_str (by rw [KO.tab];exact J1 h)
 | _=>exact ff h
theorem Q3r (w:Wf W)(G:Good C nm N)(KO:KtOk W T){k:Nat}{v:V}{x:Expr}(h:Am T nm k v x=true):SE W C (Rh v) (eval x)/\∃ n p,x=.Name n p/\X5 W v n=true/\(∀ A env,C A env->env.kindOf n=some .globalImplicit)/\(n==("__debug__":Str))=false:=by
 refine K0 (B7 G KO (Q5 h)) ?_;intro p ee1 hk hd;subst ee1;have h2:=Q2 h;cases hu:T.glob k with
 | none=>rw [hu] at h2;exact ff h2
 | some u =>
  rw [hu] at h2;have g:=KO.glob k u hu;rw [Q8h h2] at g;exact ⟨λcs l st k q=>⟨v,st,q,Uy w g hk hd⟩,_,p,rfl,g,hk,hd⟩
theorem Nk (G:Good C nm N)(KO:KtOk W T){k:Nat}{x:Expr}(h:Qc T nm k x=true):SE W C (Ri k) (eval x):=λcs l st q hq=>by
  revert x;refine @Y8 _ _ λn p h=>?_;cases J1 (Q5 h);refine Q3 (G0 (show V6 l k _ (λU=>false)=true from hq)) ?_;intro v hv hq;exact ⟨v,st,hq,Q1c hv (by rw [KO.tab]) (G.at (C7 (Q2 h))) (KO.dbg k)⟩
theorem cel_of (G:Good C nm N)(KO:KtOk W T){k:Nat}{x:Expr}(h:ckCel T nm k x=true):SE W C (hCel k) (eval x):=λcs l st q hq=>by
  revert x;refine @Y8 _ _ λn p h=>?_;cases J1 (Q5 h);obtain ⟨v,hv,r⟩:=te_cel (W:=W) (C:=C) (l:=l) (v:=.none) (q:=λv=>q v st) hq (show W.tab k=_ by rw [KO.tab]) (λA env X=>(Ap (Q2 h)).imp (λz=>G.at z A env X) (λz=>G.at z A env X)) (KO.dbg k) (KO.cld k);exact ⟨v,st,hv,r⟩
theorem Ep (G:Good C nm N)(KO:KtOk W T):∀ {ks:List (Bool × Nat)}{xs:List Expr},Vj T nm ks xs=true->Tgs W C ks xs
 | [],xs,h=>by revert xs;refine @B3 _ _ _ λU=>?_;exact .nil
 | (b,k) :: ks,xs,h=>by
  revert xs;refine @Z9 _ _ _ λy ys h=>?_;revert y;refine @Y8 _ _ λn p h=>?_;exact .cons (KO.tab▸(G.kb (Q5 h)).1) (G.kb (Q5 h)).2 (Ep G KO (Q2 h))
theorem Ar (G:Good C nm N)(KO:KtOk W T){tg:Tg}{x:Expr}(h:Q3m T nm tg x=true):TgR W C tg x:=by
 induction tg using Tg.casesOn with
 | one b k=>revert x;refine @Y8 _ _ λn p h=>?_;exact .one (KO.tab▸(G.kb h).1) (G.kb h).2
 | many ks=>revert x;refine @Za _ _ λxs U U h=>?_;exact .many (Ep G KO h)
theorem As (w:Wf W)(G:Good C nm N)(KO:KtOk W T)(H:∀ e x,c nm e x=true->SE W C (ev e) (eval x)){rng:Bool}{it:E}{x:Expr}(h:Q3k T c nm rng it x=true):SIt W C rng (ev it) x:=by
 induction rng using Bool.casesOn with
 | false=>exact Rr (H it x h)
 | true =>
  revert x;refine @C8 _ _ λr y p h=>?_;refine K0 (B7 G KO (Q5 h)) ?_;intro p ee1 hk hd;subst ee1;exact Rs w (H _ _ (Q2 (Q2 h))) (Q5 (Q2 h)) KO.range hk hd
theorem co_of (HB:∀ e x,c nm e x=true->SB W C (ev e) (λenv=>isTrue x env (eval x env))){cond:Option E}{ifs:List Expr}(h:ckCo c nm cond ifs=true):CoR W C ev cond ifs:=by
 induction cond using Option.casesOn with
 | none=>revert ifs;refine @B3 _ _ _ λU=>?_;exact .none
 | some e=>revert ifs;refine @Y5 _ _ _ λx h=>?_;exact .some (HB _ _ h)
theorem cr_of (w:Wf W)(G:Good C nm N)(KO:KtOk W T)(H:∀ e x,c nm e x=true->SE W C (ev e) (eval x))(HB:∀ e x,c nm e x=true->SB W C (ev e) (λenv=>isTrue x env (eval x env))){elt:Expr}:∀ {gens:List Comprehension}{nxt:E},ckCR T c nm elt gens nxt=true->CR W C ev elt nxt gens
 | [],nxt,h=>by revert nxt;refine @Sh _ _ λe h=>?_;exact .emit (H _ _ h)
 | ⟨t,iter,ifs,as⟩ :: gs,nxt,h=>by
  revert nxt;refine @Lk _ _ λrng it tg cond nx h=>?_;cases Kh (Q5 h);have h:=Q2 h;exact .comp (As w G KO H (Q5 (Q2 h))) (Q5 h) (Ar G KO (Q5 (Q2 (Q2 h)))) (co_of HB (Q5 (Q2 (Q2 (Q2 h))))) (cr_of w G KO H HB (Q2 (Q2 (Q2 (Q2 h)))))
end
noncomputable def CC (N:Nat)(nm:Nm):Cls:=λA env=>Ro A N/\env.scope.names=nm/\env.scope.kind=.function
theorem CC.good (N:Nat)(nm:Nm):Good (CC N nm) nm N:=⟨λU U x=>x.2.1,λU U x=>x.2.2,λU U x=>x.1⟩
theorem Ki:∀ {inner:Nm},Zv inner=true->∀ x∈inner,x.2≠NameKind.cell
 | [],_,x,hx=>by cases hx
 | (n,k) :: r,h,x,hx=>by
  unfold Zv at h;dsimp only at h;have:k≠.cell/\Zv r=true:=by cases k <;> first | exact ff h | (cases h;done) | exact ⟨by decide,h⟩
  rcases List.mem_cons.mp hx with rfl | hx
  ·exact this.1
  ·exact Ki this.2 x hx
theorem Vm {all:Nm}:∀ {inner:Nm},Ln all inner=true->∀ x∈inner,x.2=NameKind.local->all.lookup x.1=some .local
 | [],_,x,hx,_=>by cases hx
 | (n,k) :: r,h,x,hx,e=>by
  unfold Ln at h;dsimp only at h
  rcases List.mem_cons.mp hx with rfl | hx
  ·subst e;rw [<-V3];exact C7 (Q1 h).1
  ·refine Vm ?_ x hx e
   cases k <;> first | exact (Q1 h).2 | exact h
theorem Kj {nm:Nm}:∀ {inner:Nm},Zw nm inner=true->∀ x∈inner,x.2=NameKind.free->nm.lookup x.1=some .cell\/nm.lookup x.1=some .free
 | [],_,x,hx,_=>by cases hx
 | (n,k) :: r,h,x,hx,e=>by
  unfold Zw at h;dsimp only at h
  rcases List.mem_cons.mp hx with rfl | hx
  ·subst e;rw [<-V3];exact Ap (Q1 h).1
  ·refine Kj ?_ x hx e
   cases k <;> first | exact (Q1 h).2 | exact h
theorem At {env:Env}(hk:env.scope.kind=.function):∀ {inner:Nm},(inner.map λ(n,k)=>if (k==NameKind.free&&env.scope.kind==.function&&env.kindOf n==some .cell) then (n,NameKind.cell) else (n,k))=Nj env.scope.names inner
 | []=>rfl
 | (n,k) :: r=>by
  have ih:=At (env:=env) hk (inner:=r);unfold Nj;dsimp only;rw [List.map_cons,ih];have e:D6 env.scope.names n=env.kindOf n:=by rw [V3];rfl
  congr 1
  rw [hk];unfold relK;cases k with
  | free =>
   dsimp only;rw [e];cases q:env.kindOf n with
   | none=>rfl
   | some z=>cases z <;> rfl
  | _=>rfl
theorem Sj {C:Cls}{nm:Nm}{N:Nat}(G:Good C nm N){sc:Scope}(h1:Lp sc.kind=true)(h2:Zv sc.names=true)(h3:Ln sc.names sc.names=true)(h4:Zw nm sc.names=true):CompOk C (CC N (Nj nm sc.names)) sc where
 kind:=Qd h1
 cell:=Ki h2
 names:=Vm h3
 free:=λA env X x hx e=>by unfold Env.kindOf;rw [G.names A env X];exact Kj h4 x hx e
 inner:=λA env X cenv he=>by
  refine ⟨G.ro A env X,?_,by rw [he];exact Qd h1⟩;rw [he,<-G.names A env X];exact At (G.kind A env X)
end
section
variable {W:Wd}
noncomputable def Er (x:Expr):Bool:=by
 induction x using PySem.Expr.casesOn with
 | UnaryOp op =>
  induction op using PySem.UnaryOp.casesOn with
  | Not=>exact false
  | _=>exact true
 | BoolOp=>exact false
 | IfExp=>exact false
 | Compare=>exact false
 | _=>exact true
set_option tactic.hygienic true in
theorem Q3s {x:Expr}(h:Er x=true)(env:Env)(t:Sem Value):isTrue x env t=(do let v <-t;standAt x.pos;holding [v] (PySem.truthy v)):=by
 induction x using PySem.Expr.casesOn <;> first | rfl | exact ff h | (cases h;done) | skip
 rename_i op _ _;cases op <;> first | rfl | cases h
noncomputable def SEB (W:Wd)(C:Cls)(h:Hv)(x:Expr):Prop:=SE W C h (eval x)/\SB W C h (λenv=>isTrue x env (eval x env))
theorem SE.both (w:Wf W){C:Cls}{h:Hv}{x:Expr}(p:Er x=true)(s:SE W C h (eval x)):SEB W C h x:=⟨s,Q1d w s λenv=>Q3s p env _⟩
noncomputable def PE (W:Wd)(g:G)(kx:Kx)(ca:G6)(N:Nat)(T:Kt)(n:Nat):Prop:=∀ (m:Nat)(nm:Nm)(C:Cls)(e:E)(x:Expr),Good C nm N->K8 T m nm e x=true->SEB W C (evN g kx ca n e) x
theorem Da {x:Expr}{o:CmpOp}(h:Nh x=true):behindInMarks o x=false:=by induction x using PySem.Expr.casesOn <;> first | rfl | cases h
section
variable {g:G}{kx:Kx}{ca:G6}{N:Nat}{T:Kt}{C:Cls}{nm:Nm}
theorem Au (w:Wf W){c:Ck}:∀ {xs:List Expr}{e:E}{n:Nat}{pos:Pos},(∀ n',n'<=n->∀ e x,c nm e x=true->SEB W C (evN g kx ca n' e) x)->Ni c nm e xs=true ->
  SE W C (evN g kx ca n e) (λenv=>boolOp pos .And (evalEach xs env))/\SB W C (evN g kx ca n e) (allTrue .And xs)
 | [],_,_,_,_,h=>ff h
 | [x],e,n,pos,H,h=>⟨(H n (Nat.le_refl n) e x h).1,Cv (H n (Nat.le_refl n) e x h).2⟩
 | x :: y :: r,e,n,pos,H,h=>by
  revert e;refine @Q3b _ _ λa b h=>?_
  induction n using Nat.casesAuxOn with
  | zero=>exact ⟨λU U U U q=>ff q,λU U U U q=>ff q⟩
  | succ n =>
   have i1:=H n (Nat.le_succ n) a x (Q5 h);have i2:=Au w (xs:=y :: r) (pos:=pos) (n:=n) (e:=b) (λn' hn=>H n' (Nat.le_succ_of_le hn)) (Q2 h);exact ⟨Q1f w i1.1 i2.1,Q1g i1.2 i2.2⟩
theorem Q3t (w:Wf W){c:Ck}:∀ {xs:List Expr}{e:E}{n:Nat}{pos:Pos},(∀ n',n'<=n->∀ e x,c nm e x=true->SEB W C (evN g kx ca n' e) x)->An c nm e xs=true ->
  SE W C (evN g kx ca n e) (λenv=>boolOp pos .Or (evalEach xs env))/\SB W C (evN g kx ca n e) (allTrue .Or xs)
 | [],_,_,_,_,h=>ff h
 | [x],e,n,pos,H,h=>⟨(H n (Nat.le_refl n) e x h).1,Cv (H n (Nat.le_refl n) e x h).2⟩
 | x :: y :: r,e,n,pos,H,h=>by
  revert e;refine @Q8e _ _ λa b h=>?_
  induction n using Nat.casesAuxOn with
  | zero=>exact ⟨λU U U U q=>ff q,λU U U U q=>ff q⟩
  | succ n =>
   have i1:=H n (Nat.le_succ n) a x (Q5 h);have i2:=Q3t w (xs:=y :: r) (pos:=pos) (n:=n) (e:=b) (λn' hn=>H n' (Nat.le_succ_of_le hn)) (Q2 h);exact ⟨se_or w i1.1 i2.1,sb_or i1.2 i2.2⟩
structure CompH (W:Wd)(C C':Cls)(ev:Ev)(rng:Bool)(it:E)(tg:Tg)(cond:Option E)(nxt:E)(t iter elt:Expr)(ifs:List Expr)(gs:List Comprehension)(sc:Scope):Prop where
 ok:CompOk C C' sc
 hi:SIt W C rng (ev it) iter
 hn:K5 iter=true
 TG:TgR W C' tg t
 CO:CoR W C' ev cond ifs
 nx:CR W C' ev elt nxt gs
theorem Av (w:Wf W)(KO:KtOk W T)(G:Good C nm N){c:Ck}{ev:Ev}(H:∀ nm (C:Cls) e x,Good C nm N->c nm e x=true->SEB W C (ev e) x){rng:Bool}{it:E}{tg:Tg}{cond:Option E}{nxt:E}{x:Expr}(h:Em T c nm rng it tg cond nxt x=true) :
  ∃ elt t iter ifs gs sc pos,x=.ListComp elt (⟨t,iter,ifs,0⟩ :: gs) sc pos/\CompH W C (CC N (Nj nm sc.names)) ev rng it tg cond nxt t iter elt ifs gs sc:=by
 revert x;refine @Yx _ _ λelt gens sc pos=>?_;revert gens;refine @Z9 _ _ _ λgg gs h=>?_;obtain ⟨t,iter,ifs,as⟩:=gg;have q4:=Q2 (Q2 (Q2 (Q2 h)));cases Kh (Q5 q4);have q5:=Q2 q4;have q7:=Q2 (Q2 q5);have G':=CC.good N (Nj nm sc.names);exact ⟨elt,t,iter,ifs,gs,sc,pos,rfl,Sj G (Q5 h) (Q5 (Q2 h)) (Q5 (Q2 (Q2 h))) (Q5 (Q2 (Q2 (Q2 h)))),As w G KO (λe x q=>(H nm C e x G q).1) (Q5 (Q2 q5)),Q5 q5,Ar G' KO (Q5 q7),co_of (λe x q=>(H _ _ e x G' q).2) (Q5 (Q2 q7)),
  cr_of w G' KO (λe x q=>(H _ _ e x G' q).1) (λe x q=>(H _ _ e x G' q).2) (Q2 (Q2 q7))⟩
theorem Zc {x:Expr}(h:Ng x=true):∃ n p,x=.Name n p:=by revert x;refine @Y8 _ _ λn p U=>⟨n,p,rfl⟩
theorem Aw {xs:List Expr}(h:two2 xs=true):∃ x y r,xs=x :: y :: r:=by revert xs;refine @Z9 _ _ _ λa r=>?_;revert r;refine @Z9 _ _ _ λb r U=>⟨a,b,r,rfl⟩
theorem Q3u {o1 o2:CmpOp}{z u:Expr}(h:Nh u=true):lastMarks [o1,o2] [z,u]=false:=by
 show behindInMarks o2 u=false
 exact Da h
theorem bi_of (w:Wf W)(KO:KtOk W T)(G:Good C nm N){c:Ck}{ev:Ev}(H:∀ e x,c nm e x=true->SEB W C (ev e) x){b:Bi}{as:List E}{x:Expr}(h:ckBi T c nm b as x=true):SE W C (hBi g ev b as) (eval x)/\Er x=true:=by
 have H1:∀ e x,c nm e x=true->SE W C (ev e) (eval x):=λe x q=>(H e x q).1;revert x;refine @O7 _ _ λf xs pos=>?_;refine λh=>⟨?_,rfl⟩;have gen:∀ b,(Q0 (Tf b) (Q0 (C6 T nm f (T.bi b)) (Yz c nm as xs)))=true->SE W C (hBi g ev b as) (eval (.Call f xs [] pos)):=λb h=>by
  refine K0 (B7 G KO (Q5 (Q2 h))) ?_;intro p ee1 hk hd;subst ee1;exact se_bi w (Q5 h) G.hh (Qe H1 (Q2 (Q2 h))) (KO.bi b (Q5 h)) hk hd
 induction b using Bi.casesOn with
 | listRange =>
  clear gen;revert h;revert as;refine @Y5 _ _ _ λa=>?_;revert xs;refine @Y5 _ _ _ λr=>?_;revert r;refine @C8 _ _ λr y p h=>?_;refine K0 (B7 G KO (Q5 h)) ?_;intro p ee1 hk hd;subst ee1;refine K0 (B7 G KO (Q5 (Q2 h))) ?_;intro p' ee1 hk' hd';subst ee1;exact Mt w G.hh (Q5 (Q2 (Q2 h))) (H1 _ _ (Q2 (Q2 (Q2 h)))) (KO.bi .list rfl) KO.range hk hk' hd hd'
 | isInt =>
  clear gen;revert h;revert as;refine @Y5 _ _ _ λa=>?_;revert xs;refine @F4 _ _ _ λy n h=>?_;refine K0 (B7 G KO (Q5 h)) ?_;intro p ee1 hk hd;subst ee1;refine K0 (B7 G KO (Q5 (Q2 h))) ?_;intro p' ee1 hk' hd';subst ee1;exact Q1t w (Q5 (Q2 (Q2 h))) (H1 _ _ (Q2 (Q2 (Q2 h)))) KO.isinst KO.intT hk hk' hd hd'
 | sorted =>
  clear gen;revert h;revert as;refine @Y5 _ _ _ λa=>?_;revert xs;refine @Y5 _ _ _ λy h=>?_;refine K0 (B7 G KO (Q5 h)) ?_;intro p ee1 hk hd;subst ee1;exact Sb w (by rw [KO.tab];exact KO.lt) G.hh (Q5 (Q2 h)) (H1 _ _ (Q2 (Q2 h))) KO.srt hk hd
 | sortedSet =>
  clear gen;revert h;revert as;refine @Y5 _ _ _ λa=>?_;revert xs;refine @Y5 _ _ _ λr=>?_;revert r;refine @C8 _ _ λr y p h=>?_;refine K0 (B7 G KO (Q5 h)) ?_;intro p ee1 hk hd;subst ee1;refine K0 (B7 G KO (Q5 (Q2 h))) ?_;intro p' ee1 hk' hd';subst ee1;exact Mz w (by rw [KO.tab];exact KO.lt) G.hh (Q5 (Q2 (Q2 h))) (H1 _ _ (Q2 (Q2 (Q2 h)))) KO.srt KO.setB hk hk' hd hd'
 | _=>exact gen _ h
end
section
variable {g:G}{kx:Kx}{ca:G6}{N:Nat}{T:Kt}
theorem Es (w:Wf W)(TO:TabOk W g kx)(KO:KtOk W T)(CA:CallOk W N ca){n:Nat}(IH:∀ n',n'<=n->PE W g kx ca N T n'):PE W g kx ca N T (n+1):=by
 intro m nm C e x G h
 induction m using Nat.casesAuxOn with
 | zero=>first | exact ff h | cases h
 | succ m =>
  have H:∀ e x,K8 T m nm e x=true->SEB W C (evN g kx ca n e) x:=λe x q=>IH n (Nat.le_refl n) m nm C e x G q;have H1:∀ e x,K8 T m nm e x=true->SE W C (evN g kx ca n e) (eval x):=λe x q=>(H e x q).1;have H':∀ nm (C:Cls) e x,Good C nm N->K8 T m nm e x=true->SEB W C (evN g kx ca n e) x:=λnm C e x G q=>IH n (Nat.le_refl n) m nm C e x G q;revert h;revert x
  induction e using E.casesOn with
  | con v=>exact λx h=>SE.both w (by revert x;refine @D7 _ _ λU U U U=>rfl) (Q3q KO h)
  | glb k v =>
   intro x h;obtain ⟨s,y,p,rfl,_⟩:=Q3r w G KO (show Am T nm k v x=true from h);exact SE.both w rfl s
  | loc k=>exact λx h=>SE.both w (by revert x;refine @Y8 _ _ λU U U=>rfl) (Nk G KO h)
  | cel k=>exact λx h=>SE.both w (by revert x;refine @Y8 _ _ λU U U=>rfl) (cel_of G KO h)
  | attr e k=>exact @B9 _ _ λy n U h=>SE.both w rfl (Q7g w (KO.mask k (Q2 (Q5 h))) (by rw [KO.tab];exact J1 (Q5 (Q5 h))) (Q5 (Q2 h)) (H1 _ _ (Q2 (Q2 h))))
  | sub e i=>exact @H5 _ _ λy z U h=>SE.both w rfl (se_sub w (Q5 h) (H1 _ _ (Q5 (Q2 h))) (H1 _ _ (Q2 (Q2 h))))
  | slT e i =>
   refine @H5 _ _ λy z U=>?_;revert z;refine @Lh _ _ λlo up st U=>?_;revert lo;refine @Qb _ _ _ ?_;revert up;refine @D5 _ _ _ λz=>?_;revert st;refine @Qb _ _ _ λh=>?_;exact SE.both w rfl (se_slT (H1 _ _ (Q5 h)) (H1 _ _ (Q2 h)))
  | slF e i =>
   refine @H5 _ _ λy z U=>?_;revert z;refine @Lh _ _ λlo up st U=>?_;revert lo;refine @D5 _ _ _ λz=>?_;revert up;refine @Qb _ _ _ ?_;revert st;refine @Qb _ _ _ λh=>?_;exact SE.both w rfl (se_slF (H1 _ _ (Q5 h)) (H1 _ _ (Q2 h)))
  | call f as =>
   refine @O7 _ _ λg xs U h=>?_;refine Jp (Zc (Q5 h)) ?_;intro _ _ ee2;subst ee2;exact SE.both w rfl (Q7k CA G.ro (H1 _ _ (Q5 (Q2 h))) (Qe H1 (Q2 (Q2 h))))
  | meth o k as =>
   refine @O7 _ _ λg xs U=>?_;revert g;refine @B9 _ _ λy n ap h=>?_;have q:=Q2 (Q2 h);exact SE.both w rfl (Q7m w TO CA G.ro (H1 _ _ (Q5 (Q2 (Q2 q)))) (Qe H1 (Q2 (Q2 (Q2 q)))) (by rw [KO.tab];exact J1 (Q5 h)) (Q5 (Q2 h)) (by rw [Z8.mp (Q5 q)];simp) (Nat.le_of_ble_eq_true (Q5 (Q2 q))))
  | bi b as=>exact λx h=>SE.both w (bi_of (g:=g) w KO G H h).2 (bi_of (g:=g) w KO G H h).1
  | isinst e k =>
   refine @O7 _ _ λg xs U=>?_;revert xs;refine @F4 _ _ _ λy n h=>?_;have q:=Q2 (Q2 (Q2 h));refine K0 (B7 G KO (Q5 h)) ?_;intro p1 ee1 hk1 hd1;subst ee1;obtain ⟨_,n2,p2,rfl,g2,hk2,hd2⟩:=Q3r w G KO (Q5 q);exact SE.both w rfl (Rq w (KO.isi k (Q2 q)) (Q5 (Q2 h)) (H1 _ _ (Q5 (Q2 (Q2 h)))) KO.isinst g2 hk1 hk2 hd1 hd2)
  | bin op a b =>
   refine @Qy _ _ λy o z U h=>?_;cases Jb (Q5 h);exact SE.both w rfl (Q1j (H1 _ _ (Q5 (Q2 h))) (H1 _ _ (Q2 (Q2 h))))
  | cmp op a b =>
   refine @E9 _ _ λy os zs U=>?_;revert os;refine @Y5 _ _ _ λo=>?_;revert zs;refine @Y5 _ _ _ λz h=>?_;cases Jc (Q5 h);have q:=Q2 h;exact ⟨se_cmp w G.hu (H1 _ _ (Q5 (Q2 q))) (H1 _ _ (Q2 (Q2 q))) (Da (Q5 q)),Q1q w G.hu (H1 _ _ (Q5 (Q2 q))) (H1 _ _ (Q2 (Q2 q))) (Da (Q5 q))⟩
  | cmp3 o1 o2 a b d =>
   refine @E9 _ _ λy os zs U=>?_;revert os;refine @F4 _ _ _ λp1 p2=>?_;revert zs;refine @F4 _ _ _ λz u h=>?_;cases Jc (Q5 h);cases Jc (Q5 (Q2 h));have q:=Q2 (Q2 h);exact ⟨Q7i w G.hu (H1 _ _ (Q5 (Q2 q))) (H1 _ _ (Q5 (Q2 (Q2 q)))) (H1 _ _ (Q2 (Q2 (Q2 q)))) (Q3u (Q5 q)),Q7j w G.hu (H1 _ _ (Q5 (Q2 q))) (H1 _ _ (Q5 (Q2 (Q2 q)))) (H1 _ _ (Q2 (Q2 (Q2 q)))) (Q3u (Q5 q))⟩
  | not e =>
   refine @Ue _ _ λop y U h=>?_;cases Aq (Q5 h);exact ⟨se_not w (H1 _ _ (Q2 h)),sb_not (H _ _ (Q2 h)).2⟩
  | neg e =>
   refine @Ue _ _ λop y U h=>?_;cases Aq (Q5 h);exact SE.both w rfl (se_neg (H1 _ _ (Q2 h)))
  | and a b =>
   refine @Bv _ _ λop xs U h=>?_
   induction op using PySem.BoolOp.casesOn with
   | Or=>exact ff h
   | And =>
    refine Rb (Aw (Q5 h)) ?_;intro y z r ee3;subst ee3;have h:Q0 (K8 T m nm a y) (Ni (K8 T m) nm b (z :: r))=true:=Q2 h;have i1:=H a y (Q5 h);have i2:=λpos=>Au (pos:=pos) (g:=g) (kx:=kx) (ca:=ca) (C:=C) (n:=n) w (λn' hn e x q=>IH n' hn m nm C e x G q) (Q2 h);exact ⟨Q1f w i1.1 (i2 _).1,Hj (Q1g i1.2 (i2 ⟨0,0,0,0⟩).2)⟩
  | or a b =>
   refine @Bv _ _ λop xs U h=>?_
   induction op using PySem.BoolOp.casesOn with
   | And=>exact ff h
   | Or =>
    refine Rb (Aw (Q5 h)) ?_;intro y z r ee3;subst ee3;have h:Q0 (K8 T m nm a y) (An (K8 T m) nm b (z :: r))=true:=Q2 h;have i1:=H a y (Q5 h);have i2:=λpos=>Q3t (pos:=pos) (g:=g) (kx:=kx) (ca:=ca) (C:=C) (n:=n) w (λn' hn e x q=>IH n' hn m nm C e x G q) (Q2 h);exact ⟨se_or w i1.1 (i2 _).1,Hj (sb_or i1.2 (i2 ⟨0,0,0,0⟩).2)⟩
  | ite a b d=>exact @Lg _ _ λy z u U h=>⟨Q1e (H _ _ (Q5 h)).2 (H1 _ _ (Q5 (Q2 h))) (H1 _ _ (Q2 (Q2 h))),sb_ite (H _ _ (Q5 h)).2 (H _ _ (Q5 (Q2 h))).2 (H _ _ (Q2 (Q2 h))).2⟩
  | lst es=>exact @Q2q _ _ λxs U h=>SE.both w rfl (se_lst (Qe H1 h))
  | tup es=>exact @Za _ _ λxs U U h=>SE.both w rfl (se_tup (Qe H1 h))
  | dct ks es =>
   refine @Q2n _ _ λkeys xs U h=>?_;have K:=Q3p KO H1 (Q2 h)
   by_cases z:ks.length=0
   ·cases K with
    | nil=>exact SE.both w rfl (Q7n (ev:=evN g kx ca n))
    | cons=>first | exact ff z | cases z
   ·exact SE.both w rfl (se_dct w K (Nat.le_of_lt_succ (Nat.le_of_ble_eq_true (Q5 h))) z)
  | comp rng it tg cond nxt =>
   intro x h;refine X7_2 (Av w KO G H' h) ?_;intro elt t iter ifs gs sc pos ee7 X;subst ee7;exact SE.both w rfl (Q8a w G.hh (CC.good _ _).hh X.ok X.hi X.hn X.TG X.CO X.nx)
  | emit e=>exact λx h=>ff h
theorem M9 (w:Wf W)(TO:TabOk W g kx)(KO:KtOk W T)(CA:CallOk W N ca):∀ n,PE W g kx ca N T n:=λn=>Nat.strongRecOn n λn IH=>by
 induction n using Nat.casesAuxOn with
 | zero=>exact λm nm C e x G h=>⟨λU U U U q=>(by first | exact ff q | cases q),λU U U U q=>(by first | exact ff q | cases q)⟩
 | succ n=>exact Es w TO KO CA λn' hn=>IH n' (Nat.lt_succ_of_le hn)
end
end
section
variable {W:Wd}
abbrev CkS:=Nm->S->Stmt->Bool
noncomputable def Db (cs:S->Stmt->Bool)(xs:List S)(ys:List Stmt):Bool:=match xs with
 | []=>Qa ys true
 | x :: xs=>G7 ys λy ys=>Q0 (cs x y) (Db cs xs ys)
noncomputable def Qf (t:Str)(names:Nm):Bool:=match names with
 | []=>false
 | x :: r=>(match x with | (n,k)=>(match k with | .local=>(match eqS n t with | true=>true | false=>Qf t r) | .cell=>(match eqS n t with | true=>true | false=>Qf t r) | _=>Qf t r))
noncomputable def Vn (nm:Nm)(t:Str)(tp:Pos)(names:Nm)(p:Pos):Bool:=Q0 (By (D6 nm t)) (Q0 (Nat.beq tp.line p.line) (match Qf t names with | true=>false | false=>true))
section
variable (T:Kt)(c:Ck)(cs:CkS)(nm:Nm)
noncomputable def Q3v (e:E)(v:Expr):Bool:=Ek e λrng it tg cond nxt=>Em T c nm rng it tg cond nxt v
noncomputable def Q8i (b:Bool):Bool:=match b with | true=>false | false=>true
noncomputable def ckSw2 (ks:List (Bool × Nat))(e:E)(ts vs:List Expr):Bool:=Nf ks λa b=>Nf ts λt1 t2=>M4 t1 λx1 p1=>M4 t2 λx2 p2=>vEtup e λes=>Nf es λe1 U=>vEloc e1 λk=>Nf vs λv1 v2=>M4 v1 λy U =>
 Q0 (Q8i a.1) (Q0 (Q8i b.1) (Q0 (ckB T nm false a.2 x1) (Q0 (ckB T nm false b.2 x2) (Q0 (Nat.beq p1.line p2.line) (Q0 (Q8i (Nat.beq a.2 b.2)) (Q0 (kNm T k y) (Z5 v2)))))))
noncomputable def Et (v:Expr):Bool:=Ke v λU U U=>true
noncomputable def Nn (ks:List (Bool × Nat))(e:E)(ts:List Expr)(v:Expr):Bool:=match Et v with
 | true=>Ke v λvs U U=>ckSw2 T nm ks e ts vs
 | false=>Vj T nm ks ts
noncomputable def isLC (v:Expr):Bool:=Qz v λU U U U=>true
noncomputable def Q3w (tg:Tg)(e:E)(y:Stmt):Bool:=Yy y λts v U=>W2 ts λt=>match tg with
 | .one b k=>M4 t λn p=>Q0 (ckB T nm b k n) (match isLC v with
  | true=>Qz v λU U sc q=>(match Vn nm n p sc.names q with | true=>Q3v T c nm e v | false=>c nm e v)
  | false=>Q0 (R1 v) (c nm e v))
 | .many ks=>Ke t λts U U=>Q0 (c nm e v) (Nn T nm ks e ts v)
noncomputable def ckSetA (o:E)(k:Nat)(e:E)(y:Stmt):Bool:=Yy y λts v U=>W2 ts λt=>H6 t λob x U=>Q0 (Q3h T k x) (Q0 (c nm o ob) (c nm e v))
noncomputable def ckSetI (o i e:E)(y:Stmt):Bool:=Yy y λts v U=>W2 ts λt=>M7 t λob ix U=>Q0 (c nm o ob) (Q0 (c nm i ix) (c nm e v))
noncomputable def Q3x (op:Op)(o:Operator):Bool:=Q0 (Nat.beq (opc op).ctorIdx 0) (eqOp op o)
noncomputable def ckAugL (b:Bool)(k:Nat)(op:Op)(e:E)(y:Stmt):Bool:=Zu y λt o v U=>M4 t λx U=>Q0 (Q3x op o) (Q0 (ckB T nm b k x) (c nm e v))
noncomputable def ckAugA (o:E)(k:Nat)(op:Op)(e:E)(y:Stmt):Bool:=Zu y λt p v U=>H6 t λob x U=>Q0 (Q3x op p) (Q0 (Q3h T k x) (Q0 (c nm o ob) (c nm e v)))
noncomputable def ckEx (e:E)(y:Stmt):Bool:=Nc y λv U=>Q0 (R1 v) (c nm e v)
noncomputable def Ax (e:E):Bool:=vEcon e λv=>match v with | .none=>true | _=>false
noncomputable def ckRet (e:E)(y:Stmt):Bool:=R7 y λv U=>match v with | some v=>c nm e v | none=>Ax e
noncomputable def ckIfS (e:E)(a b:List S)(y:Stmt):Bool:=vIf y λv ya yb U=>Q0 (c nm e v) (Q0 (Db (cs nm) a ya) (Db (cs nm) b yb))
noncomputable def ckFor (rng:Bool)(it:E)(tg:Tg)(body:List S)(y:Stmt):Bool:=vFor y λt iter bs oe U=>Qa oe (Q0 (K5 iter) (Q0 (Q3k T c nm rng it iter) (Q0 (Q3m T nm tg t) (Db (cs nm) body bs))))
noncomputable def ckWhil (e:E)(body:List S)(y:Stmt):Bool:=Q2r y λv bs oe U=>Qa oe (Q0 (c nm e v) (Db (cs nm) body bs))
noncomputable def ckTry (body fin:List S)(y:Stmt):Bool:=vTry y λbs U oe fs U=>Qa oe (G7 fs λf fs=>Q0 (Db (cs nm) body bs) (Db (cs nm) fin (f :: fs)))
noncomputable def Q3y (s:S)(y:Stmt):Bool:=match s with
 | .setN tg e=>Q3w T c nm tg e y | .setA o k e=>ckSetA T c nm o k e y | .setI o i e=>ckSetI c nm o i e y
 | .augL b k op e=>ckAugL T c nm b k op e y | .augA o k op e=>ckAugA T c nm o k op e y
 | .ex e=>ckEx c nm e y | .ret e=>ckRet c nm e y | .ite e a b=>ckIfS c cs nm e a b y
 | .for_ rng it tg body=>ckFor T c cs nm rng it tg body y | .whil e body=>ckWhil c cs nm e body y
 | .brk=>Q2v y λU=>true | .cont=>Li y λU=>true | .pass=>vPass y λU=>true
 | .bad=>true | .tryFin body fin=>ckTry cs nm body fin y | .defc _ _ _ _=>false
end
noncomputable def W0 (T:Kt)(c:Ck):Nat->CkS
 | 0=>λU U U=>false
 | n+1=>λnm s y=>Q3y T c (W0 T c n) nm s y
theorem Vp {t:Str}:∀ {names:Nm},(names.any λ(n,k)=>n==t&&(k==.local||k==.cell))=Qf t names
 | []=>rfl
 | (n,k) :: r=>by
  have ih:=Vp (t:=t) (names:=r);have u:Qf t ((n,k) :: r)=(match k with | .local=>(match eqS n t with | true=>true | false=>Qf t r) | .cell=>(match eqS n t with | true=>true | false=>Qf t r) | _=>Qf t r):=rfl;rw [List.any_cons,ih,u];generalize Qf t r=z;dsimp only;rw [Ga];cases eqS n t <;> cases k <;> cases z <;> rfl
theorem Ay {env:Env}{nm:Nm}(hn:env.scope.names=nm)(hk:env.scope.kind=.function){elt:Expr}{gens:List Comprehension}{sc:Scope}{q p:Pos}{t:Str}{line:Nat}:swapsWith (.ListComp elt gens sc q) (some (.Name t p)) line env=pure (Vn nm t p sc.names q):=by
 have b:env.blockKind=.function:=by unfold Env.blockKind;rw [hk];rfl
 unfold swapsWith;dsimp only;rw [b,Vp];have e:env.kindOf t=D6 nm t:=by rw [V3,<-hn];rfl
 rw [e];have l:∀ a b:Nat,(a==b)=Nat.beq a b:=λa b=>by
  cases h:Nat.beq a b with
  | true=>rw [Z8.mp h];simp
  | false=>exact beq_eq_false_iff_ne.mpr (J3 h)
 rw [show (Expr.ListComp elt gens sc q).pos=q from rfl,l];unfold Vn;cases D6 nm t with
 | none=>rfl
 | some k =>
  cases k <;> first | rfl | skip
  cases Nat.beq p.line q.line <;> cases Qf t sc.names <;> rfl
theorem Q8j {env:Env}{v:Expr}{t:Option Expr}{line:Nat}(h:R1 v=true):swapsWith v t line env=pure false:=by induction v using PySem.Expr.casesOn <;> first | rfl | cases h
section
variable {g:G}{kx:Kx}{ca:G6}{N:Nat}{T:Kt}
theorem Np {C:Cls}{ex:Ex}{cs:S->Stmt->Bool}(H:∀ s y,cs s y=true->SS W C (ex s) (exec y)):∀ {xs:List S}{ys:List Stmt},Db cs xs ys=true->SSs W C ex xs ys
 | [],ys,h=>by revert ys;refine @B3 _ _ _ λU=>?_;exact .nil
 | x :: xs,ys,h=>by revert ys;refine @Z9 _ _ _ λy ys h=>?_;exact .cons (H x y (Q5 h)) (Np H (Q2 h))
theorem Q3z {v:Expr}(h:Et v=false):Ec v=false:=by induction v using PySem.Expr.casesOn <;> first | rfl | cases h
theorem Nq {b:Bool}(h:Q8i b=true):b=false:=by induction b using Bool.casesOn <;> first | rfl | cases h
structure SwapP (T:Kt)(nm:Nm)(ks:List (Bool × Nat))(ts:List Expr)(v:Expr)(n1 n2 k:Nat)(x1 x2 y:Str)(p1 p2 yp vp:Pos)(e2:Expr)(vk:Nat):Prop where
 v:v=.Tuple [.Name y yp,e2] vk vp
 ks:ks=[(false,n1),(false,n2)]
 ts:ts=[.Name x1 p1,.Name x2 p2]
 h1:ckB T nm false n1 x1=true
 h2:ckB T nm false n2 x2=true
 hl:p1.line=p2.line
 ne:n1≠n2
 hy:T.tab k=y
 hs:Z5 e2=true
theorem Q4a {nm:Nm}{ks:List (Bool × Nat)}{e:E}{ts:List Expr}{v:Expr}(h:Nn T nm ks e ts v=true):(Ec v=false/\Vj T nm ks ts=true)\/∃ n1 n2 k x1 x2 y p1 p2 yp vp e2 vk,SwapP T nm ks ts v n1 n2 k x1 x2 y p1 p2 yp vp e2 vk:=by
 unfold Nn at h;cases q:Et v with
 | false=>rw [q] at h;exact .inl ⟨Q3z q,h⟩
 | true =>
  rw [q] at h;refine .inr ?_;clear q;revert h;revert v;refine @Za _ _ λvs vk vp=>?_;revert ks;refine @F4 _ _ _ λa b=>?_;revert ts;refine @F4 _ _ _ λt1 t2=>?_;revert t1;refine @Y8 _ _ λx1 p1=>?_;revert t2;refine @Y8 _ _ λx2 p2=>?_;revert e;refine @Q3c _ _ λes=>?_;revert es;refine @F4 _ _ _ λe1 e2=>?_;revert e1;refine @Q3a _ _ λk=>?_;revert vs;refine @F4 _ _ _ λv1 v2=>?_;revert v1;refine @Y8 _ _ λy yp h=>?_;obtain ⟨a1,a2⟩:=a;obtain ⟨b1,b2⟩:=b;cases Nq (Q5 h);cases Nq (Q5 (Q2 h));have q:=Q2 (Q2 h);have q2:=Q2 (Q2 q);exact I12_1 _ _ _ _ _ _ _ _ _ _ _ _ ⟨rfl,rfl,rfl,Q5 q,Q5 (Q2 q),Z8.mp (Q5 q2),J3 (Nq (Q5 (Q2 q2))),J1 (Q5 (Q2 (Q2 q2))),Q2 (Q2 (Q2 q2))⟩
theorem Zd {env:Env}{x:Str}(z:V2 env false x=true):env.kindOf x=some .local:=by
 unfold V2 at z;exact of_decide_eq_true (by simpa using z)
theorem Q8k (w:Wf W){nm:Nm}{C:Cls}(G:Good C nm N)(KO:KtOk W T){ks:List (Bool × Nat)}{e:E}{ts:List Expr}{v:Expr}{n:Nat}{p pos:Pos}{ev:Ev}(H:SE W C (ev e) (eval v))(h:Nn T nm ks e ts v=true) :
  SS W C (Gp ev (.many ks) e) (exec (.Assign [.Tuple ts n p] v pos)):=by
 rcases Q4a h with ⟨h1,h2⟩ | ⟨n1,n2,k,x1,x2,y,p1,p2,yp,vp,e2,vk,rfl,rfl,rfl,h1,h2,hl,ne,hy,hs⟩
 ·exact Q7x w G.hh H (Ep G KO h2) λA env Z=>Ry h1
 ·refine Q6 (G.kb h1) ?_;intro m1 k1
  refine Q6 (G.kb h2) ?_;intro m2 k2;refine Q7y w G.hh H (by rw [KO.tab];exact m1) (by rw [KO.tab];exact m2) (λA env Z=>Zd (k1 A env Z)) (λA env Z=>Zd (k2 A env Z)) ne λA env Z=>?_;have cn:constantsAlone 8 (.Name y yp)=false:=by rw [<-hy];exact KO.dbg k
  refine Q2e (G.kind A env Z) (Zd (k1 A env Z)) (Zd (k2 A env Z)) hl (λq=>ne (w.inj _ _ (by rw [KO.tab,m1,m2,q]))) ⟨rfl,hs⟩ rfl ?_;rw [List.all_cons,cn];rfl
theorem Eu {e:E}(h:Ax e=true):e=.con .none:=by
 revert e;refine @Q2z _ _ λv h=>?_
 induction v using V.casesOn <;> first | rfl | exact ff h
theorem Vq {op:Op}{o:Operator}(h:Q3x op o=true):op=.add/\o=.Add:=by
 have a:=Q5 h
 induction op using Op.casesOn <;> first | exact ⟨rfl,Jb (Q2 h)⟩ | exact ff a
theorem Q8m {v:Expr}(h:isLC v=true):∃ elt gens sc q,v=.ListComp elt gens sc q:=by
 revert v;refine @Yx _ _ λa b c d U=>⟨a,b,c,d,rfl⟩
theorem Q8n (w:Wf W)(TO:TabOk W g kx)(KO:KtOk W T)(CA:CallOk W N ca){K m:Nat}{nm:Nm}{C:Cls}(G:Good C nm N){tg:Tg}{e:E}{y:Stmt}(h:Q3w T (K8 T m) nm tg e y=true):SS W C (Gp (evN g kx ca (K+1)) tg e) (exec y):=by
 have H:∀ e x,K8 T m nm e x=true->SE W C (evN g kx ca (K+1) e) (eval x):=λe x q=>(M9 w TO KO CA (K+1) m nm C e x G q).1;revert y;refine @R8 _ _ λts v U=>?_;revert ts;refine @Y5 _ _ _ λt=>?_
 induction tg using Tg.casesOn with
 | one b k =>
  revert t;refine @Y8 _ _ λn p h=>?_;refine Q6 (G.kb (Q5 h)) ?_;intro hn hk;replace h:=Q2 h;cases q:isLC v with
  | false=>rw [q] at h;exact Ac w (H _ _ (Q2 h)) (λA env Z=>Q8j (Q5 h)) (by rw [KO.tab];exact hn) hk
  | true =>
   rw [q] at h;refine X4_1 (Q8m q) ?_;intro elt gens sc qp ee4;subst ee4;replace h:(match Vn nm n p sc.names qp with | true=>Q3v T (K8 T m) nm e _ | false=>K8 T m nm e _)=true:=h;revert h;cases hs:Vn nm n p sc.names qp with
   | false=>exact λh=>Ac w (H _ _ h) (λA env Z=>by rw [Ay (G.names A env Z) (G.kind A env Z),hs]) (by rw [KO.tab];exact hn) hk
   | true =>
    revert e;refine @Lk _ _ λrng it tg cond nxt h=>?_;refine X7_2 (Av (ev:=evN g kx ca K) w KO G (λnm C e x G q=>M9 w TO KO CA K m nm C e x G q) h) ?_;intro elt t iter ifs gs sc pos e1 X;cases e1;exact Q8b w G.hh (CC.good _ _).hh (λU U U U q=>q) X.ok X.hi X.hn X.TG X.CO X.nx (by rw [KO.tab];exact hn) hk λA env Z=>by rw [Ay (G.names A env Z) (G.kind A env Z),hs]
 | many ks=>revert t;refine @Za _ _ λts U U h=>?_;exact Q8k w G KO (H _ _ (Q5 h)) (Q2 h)
theorem X7 (w:Wf W)(TO:TabOk W g kx)(KO:KtOk W T)(CA:CallOk W N ca){K:Nat}:∀ (n m' m:Nat)(nm:Nm)(C:Cls)(s:S)(y:Stmt),Good C nm N->W0 T (K8 T m') m nm s y=true->SS W C (exN (evN g kx ca (K+1)) n s) (exec y):=by
 intro n
 induction n with
 | zero=>exact λm' m nm C s y G h=>λU U U U q=>by first | exact ff q | cases q
 | succ n ih =>
  intro m' m nm C s y G h
  induction m using Nat.casesAuxOn with
  | zero=>first | exact ff h | cases h
  | succ m =>
   replace h:Q3y T (K8 T m') (W0 T (K8 T m') m) nm s y=true:=h;have HB:∀ e x,K8 T m' nm e x=true->SEB W C (evN g kx ca (K+1) e) x:=λe x q=>M9 w TO KO CA (K+1) m' nm C e x G q;have H:∀ e x,K8 T m' nm e x=true->SE W C (evN g kx ca (K+1) e) (eval x):=λe x q=>(HB e x q).1;have HS:∀ {xs ys},Db (W0 T (K8 T m') m nm) xs ys=true->SSs W C (exN (evN g kx ca (K+1)) n) xs ys:=λq=>Np (λs y z=>ih m' m nm C s y G z) q;revert h;revert y
   show ∀ y,Q3y T (K8 T m') (W0 T (K8 T m') m) nm s y=true->SS W C (stepS (evN g kx ca (K+1)) (exN (evN g kx ca (K+1)) n) s) (exec y)
   induction s using S.casesOn with
   | setN tg e=>exact λy h=>Q8n w TO KO CA G h
   | setA o k e =>
    refine @R8 _ _ λts v U=>?_;revert ts;refine @Y5 _ _ _ λt=>?_;revert t;refine @B9 _ _ λob x U h=>?_;exact Q7p w (H _ _ (Q2 (Q2 h))) (H _ _ (Q5 (Q2 h))) (by rw [KO.tab];exact J1 (Q5 (Q5 h))) (KO.mask k (Q2 (Q5 h)))
   | setI o i e =>
    refine @R8 _ _ λts v U=>?_;revert ts;refine @Y5 _ _ _ λt=>?_;revert t;refine @H5 _ _ λob ix U h=>?_;exact Q7q w (H _ _ (Q2 (Q2 h))) (H _ _ (Q5 h)) (H _ _ (Q5 (Q2 h)))
   | augL b k op e =>
    refine @Zm _ _ λt o v U=>?_;revert t;refine @Y8 _ _ λx U h=>?_;refine Q6 (Vq (Q5 h)) ?_;intro ee0 ee1;subst ee0;subst ee1;exact Q7s w (H _ _ (Q2 (Q2 h))) (by rw [KO.tab];exact (G.kb (Q5 (Q2 h))).1) (G.kb (Q5 (Q2 h))).2
   | augA o k op e =>
    refine @Zm _ _ λt p v U=>?_;revert t;refine @B9 _ _ λob x U h=>?_;refine Q6 (Vq (Q5 h)) ?_;intro ee0 ee1;subst ee0;subst ee1;have q:=Q2 h;exact Q7t w (H _ _ (Q5 (Q2 q))) (H _ _ (Q2 (Q2 q))) (by rw [KO.tab];exact J1 (Q5 (Q5 q))) (KO.mask k (Q2 (Q5 q)))
   | ex e=>exact @Kg _ _ λv U h=>ss_ex (H _ _ (Q2 h)) (Q5 h)
   | ret e =>
    refine @M8 _ _ λv U h=>?_
    induction v using Option.casesOn with
    | some v=>exact Q1v (H _ _ h)
    | none =>
     cases Eu h;exact Q7u (ev:=evN g kx ca (K+1)) λU U U U q=>q
   | ite e a b=>exact @Q2s _ _ λv ya yb U h=>ss_ite (HB _ _ (Q5 h)).2 (HS (Q5 (Q2 h))) (HS (Q2 (Q2 h)))
   | for_ rng it tg body =>
    refine @Aj _ _ λt iter bs oe U=>?_;revert oe;refine @B3 _ _ _ λh=>?_;have q:=Q2 h;exact ss_for w G.hh (As w G KO H (Q5 q)) (Q5 h) (Ar G KO (Q5 (Q2 q))) (HS (Q2 (Q2 q)))
   | whil e body =>
    refine @Sc _ _ λv bs oe U=>?_;revert oe;refine @B3 _ _ _ λh=>?_;exact Q1y (HB _ _ (Q5 h)).2 (HS (Q2 h))
   | brk=>exact @Se _ _ λU U=>ss_brk
   | cont=>exact @Nd _ _ λU U=>Q7w
   | pass=>exact @Q2u _ _ λU U=>Q7v
   | bad=>exact λU U U U U U q=>ff q
   | tryFin body fin =>
    refine @Ak _ _ λbs hs oe fs U=>?_;revert oe;refine @B3 _ _ _ ?_;revert fs;refine @Z9 _ _ _ λf fs h=>?_
    induction hs using List.casesOn with
    | nil=>exact ss_try (HS (Q5 h)) (HS (Q2 h))
    | cons h0 hs=>exact Q7z (HS (Q5 h)) (HS (Q2 h))
   | defc b k f caps=>exact λy h=>ff h
end
end
section
variable {W:Wd}
noncomputable def Q8p (n:Nat)(l:List Nat):Bool:=match l with | []=>false | m :: r=>(match Nat.beq m n with | true=>true | false=>Q8p n r)
noncomputable def Dc (l:List Nat):Bool:=match l with | []=>true | n :: r=>(match Q8p n r with | true=>false | false=>Dc r)
set_option tactic.hygienic true in
theorem Az:∀ {l:List Nat}{n:Nat},Q8p n l=false->n ∉ l
 | [],_,_=>by simp
 | m :: r,n,h=>by
  unfold Q8p at h
  split at h
  ·cases h
  ·rename_i q;simp only [List.mem_cons,not_or];exact ⟨(J3 q).symm,Az h⟩
set_option tactic.hygienic true in
theorem Kk:∀ {l:List Nat},Dc l=true->l.Nodup
 | [],_=>.nil
 | n :: r,h=>by
  unfold Dc at h
  split at h
  ·cases h
  ·rename_i q;exact List.nodup_cons.mpr ⟨Az q,Kk h⟩
noncomputable def Vr (ps:List (Bool × Nat)):List Nat:=match ps with | []=>[] | x :: r=>(match x with | (_,n)=>n :: Vr r)
theorem Dd:∀ {ps:List (Bool × Nat)},Vr ps=ps.map (·.2)
 | []=>rfl
 | (b,n) :: r=>by unfold Vr;rw [Dd (ps:=r)];rfl
noncomputable def Nr (T:Kt)(ps:List (Bool × Nat))(as:List Arg):Bool:=match ps with
 | []=>(match as with | []=>true | _ :: _=>false)
 | x :: ps=>(match x with | (_,n)=>(match as with | []=>false | a :: as=>(match a with | ⟨s,_,_⟩=>Q0 (kNm T n s) (Nr T ps as))))
theorem Lq {T:Kt}:∀ {ps:List (Bool × Nat)}{as:List Arg},Nr T ps as=true->as.map (·.arg)=ps.map λx=>T.tab x.2
 | [],[],_=>rfl
 | [],_ :: _,h=>by first | exact ff h | cases h
 | (_,_) :: _,[],h=>by first | exact ff h | cases h
 | (b,n) :: ps,⟨s,an,p⟩ :: as,h=>by
  refine Q6 (Q1 (show Q0 (kNm T n s) (Nr T ps as)=true from h)) ?_;intro h1 h2;simp only [List.map_cons,Lq h2];rw [J1 h1]
noncomputable def Zx {α:Type}(l:List α):Bool:=match l with | []=>true | _ :: _=>false
noncomputable def noneO {α:Type}(o:Option α):Bool:=match o with | none=>true | some _=>false
noncomputable def ckPs (T:Kt)(ps:List (Bool × Nat))(p:Arguments):Bool:=match p with
 | ⟨po,args,va,ko,_,kw,_⟩=>Q0 (Zx po) (Q0 (noneO va) (Q0 (Zx ko) (Q0 (noneO kw) (Nr T ps args))))
theorem Ia {T:Kt}{ps:List (Bool × Nat)}{p:Arguments}(h:ckPs T ps p=true):L4 p (ps.map λx=>T.tab x.2)=true:=by
 refine byC λζ=>?_;obtain ⟨po,args,va,ko,kd,kw,dd⟩:=p;refine Q6 (Q1 (show Q0 (Zx po) _=true from h)) ?_;intro h1 q1;refine Q6 (Q1 q1) ?_;intro h2 q2;refine Q6 (Q1 q2) ?_;intro h3 q3;refine Q6 (Q1 q3) ?_;intro h4 h5;refine ζ ?_;induction po using List.casesOn <;> first | exact ff h1 | (cases h1;done) | skip
 induction va using Option.casesOn <;> first | exact ff h2 | (cases h2;done) | skip
 induction ko using List.casesOn <;> first | exact ff h3 | (cases h3;done) | skip
 induction kw using Option.casesOn <;> first | exact ff h4 | (cases h4;done) | skip
 unfold L4;dsimp only;rw [Lq h5];simp
noncomputable def Jd (T:Kt)(nm:Nm)(ps:List (Bool × Nat)):Bool:=match ps with
 | []=>true
 | x :: ps=>(match x with | (b,n)=>Q0 (match b with | true=>Vg (D6 nm (T.tab n)) | false=>By (D6 nm (T.tab n))) (Jd T nm ps))
theorem Zy {T:Kt}{nm:Nm}:∀ {ps:List (Bool × Nat)},Jd T nm ps=true->∀ x∈ps,nm.lookup (T.tab x.2)=some (if x.1=true then .cell else .local)
 | [],_,x,hx=>by cases hx
 | (b,n) :: ps,h,x,hx=>by
  refine Q6 (Q1 (show Q0 _ (Jd T nm ps)=true from h)) ?_;intro h1 h2
  rcases List.mem_cons.mp hx with rfl | hx
  ·rw [<-V3]
   induction b using Bool.casesOn with
   | true=>simpa using Bz h1
   | false=>simpa using C7 h1
  ·exact Zy h2 x hx
noncomputable def Gb (T:Kt)(nm:Nm)(l:List Nat):Bool:=match l with | []=>true | n :: r=>Q0 (Vg (D6 nm (T.tab n))) (Gb T nm r)
theorem De {T:Kt}{nm:Nm}:∀ {l:List Nat},Gb T nm l=true->∀ n∈l,nm.lookup (T.tab n)=some .cell
 | [],_,x,hx=>by cases hx
 | n :: r,h,x,hx=>by
  refine Q6 (Q1 (show Q0 _ (Gb T nm r)=true from h)) ?_;intro h1 h2
  rcases List.mem_cons.mp hx with rfl | hx
  ·rw [<-V3];exact Bz h1
  ·exact De h2 x hx
noncomputable def Df (nm:Nm):Bool:=match nm with | []=>true | x :: r=>(match x with | (_,k)=>(match k with | .free=>false | _=>Df r))
theorem Lr:∀ {nm:Nm},Df nm=true->∀ n,nm.lookup n≠some .free
 | [],_,n=>by simp
 | (m,k) :: r,h,n=>by
  have:k≠.free/\Df r=true:=by
   unfold Df at h;dsimp only at h;cases k <;> first | exact ff h | (cases h;done) | exact ⟨by decide,h⟩
  rw [List.lookup_cons]
  split
  ·exact λq=>this.1 (Option.some.inj q)
  ·exact Lr this.2 n
noncomputable def vOfD (T:Kt)(v:V)(x:Value):Bool:=match v with
 | .none=>(match x with | .none=>true | _=>false)
 | .bool b=>(match x with | .bool c=>(match b with | true=>c | false=>(match c with | true=>false | false=>true)) | _=>false)
 | .int i=>(match x with | .int j _=>eqI i j | _=>false)
 | .str k=>(match x with | .str s _=>kNm T k s | _=>false)
 | _=>false
noncomputable def Ib (T:Kt)(vs:List V)(xs:List Value):Bool:=match vs with
 | []=>(match xs with | []=>true | _ :: _=>false)
 | v :: vs=>(match xs with | []=>false | x :: xs=>Q0 (vOfD T v x) (Ib T vs xs))
set_option tactic.hygienic true in
theorem Q8q {T:Kt}(KO:KtOk W T){v:V}{x:Value}(h:vOfD T v x=true):VR W noMp v x:=by
 induction v using V.casesOn <;> cases x <;> first | exact ff h | (cases h;done) | skip
 ·exact .none
 ·rename_i a b
  have:a=b:=by induction a using Bool.casesOn <;> cases b <;> first | rfl | cases h
  subst this;exact .bool _
 ·rw [Kh h];exact .int ..
 ·rename_i k s t
  have:W.tab k=s:=by rw [KO.tab];exact J1 h
  subst this;exact .str ..
theorem Vs {T:Kt}(KO:KtOk W T):∀ {vs:List V}{xs:List Value},Ib T vs xs=true->VRs W noMp vs xs
 | [],[],_=>.nil
 | [],_ :: _,h=>by first | exact ff h | cases h
 | _ :: _,[],h=>by first | exact ff h | cases h
 | v :: vs,x :: xs,h=>by
  refine Q6 (Q1 (show Q0 (vOfD T v x) (Ib T vs xs)=true from h)) ?_;intro h1 h2;exact .cons (Q8q KO h1) (Vs KO h2)
noncomputable def dvOf (K:Frag)(x:Value):Option (List Value):=match x with
 | .none=>some []
 | .ref t=>(match K.lookup t with | some o=>(match o with | ⟨_,_,d,_⟩=>(match d with | .seq its _=>some its.toList | _=>none)) | none=>none)
 | _=>none
set_option tactic.hygienic true in
theorem Q8r {K:Frag}{x:Value}{dv:List Value}(h:dvOf K x=some dv){M:Model}{A:Around}{E:Value->Shared->Prop}{s:Shared}{Q:Option (Array Value)->Shared->Prop}(X:K.In s.heap)(k:∀ o,(o.getD #[]).toList=dv->Q o s):wpAny M A (seqItems? x) Q E s:=by
 induction x using PySem.Value.casesOn <;> first | exact ff h | (cases h;done) | skip
 ·cases h;exact wpAny_pure (k _ rfl)
 ·rename_i t
  have h:(match K.lookup t with | some o=>(match o with | ⟨_,_,d,_⟩=>(match d with | .seq its _=>some its.toList | _=>none)) | none=>none)=some dv:=h
  split at h
  ·rename_i o ho
   obtain ⟨oc,od,d,sl⟩:=o;cases d <;> first | exact ff h | (cases h;done) | skip
   cases h;exact wpAny_seqItems (X _ _ ho) rfl (k _ rfl)
  ·exact nS h
noncomputable def Q4b {α β:Type}(a:List α)(b:List β):Bool:=match a with | []=>true | _ :: a=>(match b with | []=>false | _ :: b=>Q4b a b)
theorem Vt {α β:Type}:∀ {a:List α}{b:List β},Q4b a b=true->a.length<=b.length
 | [],_,_=>Nat.zero_le _
 | _ :: _,[],h=>by first | exact ff h | cases h
 | _ :: a,_ :: b,h=>Nat.succ_le_succ (Vt (a:=a) (b:=b) h)
noncomputable def fB (b:Bool):Bool:=match b with | true=>false | false=>true
theorem Vu {b:Bool}(h:fB b=true):b=false:=by induction b using Bool.casesOn <;> first | rfl | cases h
noncomputable def Ew (K:Frag)(cd:Value)(q:Str):Bool:=match cd with
 | .ref c=>(match K.lookup c with
   | some o=>(match o with | ⟨_,_,d,_⟩=>(match d with | .fields vs=>(match vs with | ⟨l⟩=>(match l with | _ :: r=>(match r with | v :: _=>(match v with | .str n _=>eqS n q | _=>false) | []=>false) | []=>false)) | _=>false))
   | none=>false)
 | _=>false
set_option tactic.hygienic true in
theorem Sk {K:Frag}{cd:Value}{q:Str}(h:Ew K cd q=true):codeIn K cd q=true:=by
 induction cd using PySem.Value.casesOn <;> first | exact ff h | (cases h;done) | skip
 rename_i c;unfold Ew at h;dsimp only at h
 split at h
 ·rename_i o ho
  obtain ⟨oc,od,d,sl⟩:=o;cases d <;> first | exact ff h | (cases h;done) | skip
  rename_i vs;obtain ⟨l⟩:=vs
  induction l using List.casesOn <;> first | exact ff h | (cases h;done) | skip
  rename_i a l
  induction l using List.casesOn <;> first | exact ff h | (cases h;done) | skip
  rename_i v l
  induction v using PySem.Value.casesOn <;> first | exact ff h | (cases h;done) | skip
  rename_i n t;unfold codeIn;dsimp only;rw [ho];dsimp only;rw [Ga];exact h
 ·cases h
noncomputable def Zz (s:S):Bool:=match s with | .defc _ _ _ _=>true | _=>false
noncomputable def Ic (d:Bool)(cs:S->Stmt->Bool)(xs:List S)(ys:List Stmt):Bool:=match xs with
 | []=>(match ys with | []=>true | _ :: _=>false)
 | x :: xs=>(match ys with | []=>false | y :: ys=>Q0 (match Zz x with | true=>d | false=>cs x y) (Ic d cs xs ys))
theorem Vv {C:Cls}{ex:Ex}{d:Bool}{cs:S->Stmt->Bool}(H:∀ s y,cs s y=true->SS W C (ex s) (exec y)):∀ {xs:List S}{ys:List Stmt},Ic d cs xs ys=true->(d=true->∀ (i:Nat) s y,xs[i]?=some s->ys[i]?=some y->Zz s=true->SS W C (ex s) (exec y))->SSs W C ex xs ys
 | [],[],_,_=>.nil
 | [],_ :: _,h,_=>by first | exact ff h | cases h
 | _ :: _,[],h,_=>by first | exact ff h | cases h
 | x :: xs,y :: ys,h,HD=>by
  refine Q6 (Q1 (show Q0 (match Zz x with | true=>d | false=>cs x y) (Ic d cs xs ys)=true from h)) ?_;intro h1 h2;refine .cons ?_ (Vv H h2 λhd i s y a b=>HD hd (i+1) s y (by simpa using a) (by simpa using b));cases q:Zz x with
  | true=>rw [q] at h1;exact HD h1 0 x y rfl rfl q
  | false=>rw [q] at h1;exact H x y h1
noncomputable def Ls (T:Kt)(K:Frag)(fa:P->Addr)(d:Bool)(p:P)(fn:Fn):Bool:=match K.lookup (fa p) with
 | some o=>(match o with | ⟨_,_,dt,_⟩=>(match dt with
  | .func fd=>(match fd.body with
   | .stmts body=>(match dvOf K fd.defaults with
    | some dv=>Q0 (Ew K fd.code fd.qualname) (Q0 (Zx fd.closure) (Q0 (fB fd.scope.isCoroutine) (Q0 (fB fd.scope.isGenerator) (Q0 (Lp fd.scope.kind) (Q0 (Nat.beq fd.globals mainGlobals) (Q0 (Nat.beq fd.builtins builtinsNs)
      (Q0 (ckPs T fn.params fd.params) (Q0 (Dc (appN fn.cellLocals (Vr fn.params))) (Q0 (Jd T fd.scope.names fn.params) (Q0 (Gb T fd.scope.names fn.cellLocals) (Q0 (Df fd.scope.names) (Q0 (Ib T fn.dflts dv) (Q0 (Q4b dv fn.params)
      (Ic d (W0 T (K8 T 100) 100 fd.scope.names) fn.body body))))))))))))))
    | none=>false)
   | _=>false)
  | _=>false))
 | none=>false
where
 appN (a b:List Nat):List Nat:=match a with | []=>b | x :: r=>x :: appN r b
theorem Id:∀ {a b:List Nat},Ls.appN a b=a++b
 | [],b=>rfl
 | x :: r,b=>by unfold Ls.appN;rw [Id (a:=r)];rfl
theorem Fc.good (n:Nat)(sc:Scope)(cd:Value)(h:sc.kind=.function):Good (Fc n sc cd) sc.names n:=⟨λU U x=>by rw [x.2.1],λU U x=>by rw [x.2.1];exact h,λU U x=>x.1⟩
theorem Fq.good (n:Nat)(sc:Scope)(h:sc.kind=.function):Good (Fq n sc) sc.names n:=⟨λU U x=>by rw [x.2],λU U x=>by rw [x.2];exact h,λU U x=>x.1⟩
noncomputable def FT.all (f:P->Fn->Bool)(t:FT)(c:P->P):Bool:=match t with
 | .nil=>true
 | .node l v r=>Q0 (match v with | none=>true | some fn=>f (c .h) fn) (Q0 (FT.all f l λq=>c (.o q)) (FT.all f r λq=>c (.i q)))
theorem FT.all_of {f:P->Fn->Bool}:∀ {t:FT}{c:P->P}{p:P}{fn:Fn},FT.all f t c=true->t.get p=some fn->f (c p) fn=true
 | .nil,_,p,_,_,e=>by induction p using P.casesOn <;> cases e
 | .node l v r,c,.h,fn,h,e=>by
  refine Q6 (Q1 (show Q0 _ _=true from h)) ?_;intro h1 _;have e:v=some fn:=e;subst e;exact h1
 | .node l v r,c,.o q,fn,h,e=>by
  refine byC λζ=>?_;refine Q6 (Q1 (show Q0 _ _=true from h)) ?_;intro _ h1;refine Q6 (Q1 h1) ?_;intro h2 _;refine ζ ?_;exact FT.all_of (t:=l) (c:=λq=>c (.o q)) h2 e
 | .node l v r,c,.i q,fn,h,e=>by
  refine byC λζ=>?_;refine Q6 (Q1 (show Q0 _ _=true from h)) ?_;intro _ h1;refine Q6 (Q1 h1) ?_;intro _ h2;refine ζ ?_;exact FT.all_of (t:=r) (c:=λq=>c (.i q)) h2 e
section
variable {g:G}{kx:Kx}{T:Kt}
set_option tactic.hygienic true in
theorem Dg (w:Wf W)(TO:TabOk W g kx)(KO:KtOk W T){d:Bool}{p:P}{fn:Fn}(h:Ls T W.K W.fa d p fn=true)
  (HD:d=true->∀ fd body,(∃ oc od sl,W.K.lookup (W.fa p)=some ⟨oc,od,.func fd,sl⟩)->fd.body=.stmts body->∀ n ca,CallOk W n ca->∀ (i:Nat) s y,fn.body[i]?=some s->body[i]?=some y->Zz s=true->SS W (Fc n fd.scope fd.code) (exN (evN g kx ca 60) 60 s) (exec y)) :
  ∃ fd body dv,FnOk W p fn fd body dv/\keepIn W.K (.ref (W.fa p))=true/\∀ n ca,CallOk W n ca->SSs W (Fc n fd.scope fd.code) (exN (evN g kx ca 60) 60) fn.body body:=by
 unfold Ls at h
 split at h
 ·rename_i o ho
  obtain ⟨oc,od,dt,sl⟩:=o;cases dt <;> first | exact ff h | (cases h;done) | skip
  rename_i fd;dsimp only at h
  split at h
  ·rename_i body hb
   split at h
   ·rename_i dv hdv
    refine byC λζ=>?_;refine Q6 (Q1 h) ?_;intro h1 h;refine Q6 (Q1 h) ?_;intro h2 h;refine Q6 (Q1 h) ?_;intro h3 h;refine Q6 (Q1 h) ?_;intro h4 h;refine Q6 (Q1 h) ?_;intro h5 h;refine Q6 (Q1 h) ?_;intro h6 h;refine Q6 (Q1 h) ?_;intro h7 h;refine Q6 (Q1 h) ?_;intro h8 h;refine Q6 (Q1 h) ?_;intro h9 h;refine Q6 (Q1 h) ?_;intro h10 h;refine Q6 (Q1 h) ?_;intro h11 h;refine Q6 (Q1 h) ?_;intro h12 h;refine Q6 (Q1 h) ?_;intro h13 h;refine Q6 (Q1 h) ?_;intro h14 h15;have nd:=Kk h9;rw [Id,Dd] at nd;have ndp:=(List.nodup_append.mp nd).2.1;refine ζ ?_;have clo:fd.closure=[]:=by cases q:fd.closure with | nil=>rfl | cons a b=>rw [q] at h2;cases h2
    have kind:=Qd h5;refine I3_3 fd body dv ⟨⟨oc,od,sl,ho⟩,hb,Sk h1,clo,Vu h3,Vu h4,kind,Z8.mp h6,Z8.mp h7,by rw [KO.tab];exact Ia h8,?_,by rw [KO.tab];exact Zy h10,by rw [KO.tab];exact De h11,nd,Lr h12,Vs KO h13,Vt h14,λX k=>Q8r hdv X k⟩ ?_ (λn ca CA=>?_)
    ·have e:(fn.params.map λx=>W.tab x.2)=(fn.params.map (·.2)).map W.tab:=by rw [List.map_map];rfl
     rw [e];exact List.Pairwise.map _ (λa b ne q=>ne (w.inj _ _ q)) ndp
    ·unfold keepIn;dsimp only;rw [ho]
    ·exact Vv (λs y z=>X7 (K:=59) w TO KO CA 60 100 100 fd.scope.names _ s y (Fc.good n fd.scope fd.code kind) z) h15 λhd=>HD hd fd body ⟨oc,od,sl,ho⟩ hb n ca CA
   ·cases h
  ·cases h
 ·cases h
end
end
noncomputable def V4 (xs ys:List Nat):Bool:=match xs with
 | []=>(match ys with | []=>false | _ :: _=>true)
 | x :: xs=>(match ys with | []=>false | y :: ys=>(match Nat.blt x y with | true=>true | false=>(match Nat.beq x y with | true=>V4 xs ys | false=>false)))
theorem Km {a b:Nat}(h:Nat.blt a b=true):a<b:=Nat.le_of_ble_eq_true h
theorem Dh {a b:Nat}(h:a<b):Nat.blt a b=true:=Nat.ble_eq_true_of_le h
theorem Kn:∀ xs:List Nat,V4 xs xs=false
 | []=>rfl
 | x :: xs=>by
  unfold V4;dsimp only;have:Nat.blt x x=false:=by cases q:Nat.blt x x with | false=>rfl | true=>exact absurd (Km q) (Nat.lt_irrefl x)
  rw [this,Nat.beq_refl];exact Kn xs
theorem Di {x y:Nat}{xs ys:List Nat}:V4 (x :: xs) (y :: ys)=true↔x<y\/(x=y/\V4 xs ys=true):=by
 have e:V4 (x :: xs) (y :: ys)=(match Nat.blt x y with | true=>true | false=>(match Nat.beq x y with | true=>V4 xs ys | false=>false)):=rfl;rw [e];cases q:Nat.blt x y with
 | true=>exact ⟨λU=>.inl (Km q),λU=>rfl⟩
 | false =>
  have nl:¬ x<y:=λz=>by rw [Dh z] at q;cases q
  cases r:Nat.beq x y with
  | true=>exact ⟨λh=>.inr ⟨Z8.mp r,h⟩,λh=>(h.resolve_left nl).2⟩
  | false=>exact ⟨λh=>(by first | exact ff h | cases h),λh=>absurd (h.resolve_left nl).1 (J3 r)⟩
theorem Uf:∀ {xs ys zs:List Nat},V4 xs ys=true->V4 ys zs=true->V4 xs zs=true
 | [],[],_,h,_=>by first | exact ff h | cases h
 | [],_ :: _,[],_,h=>by first | exact ff h | cases h
 | [],_ :: _,_ :: _,_,_=>rfl
 | _ :: _,[],_,h,_=>by first | exact ff h | cases h
 | _ :: _,_ :: _,[],_,h=>by first | exact ff h | cases h
 | x :: xs,y :: ys,z :: zs,h,k=>by
  rw [Di] at *
  rcases h with h | ⟨rfl,h⟩
  ·rcases k with k | ⟨rfl,k⟩
   ·exact .inl (Nat.lt_trans h k)
   ·exact .inl h
  ·rcases k with k | ⟨rfl,k⟩
   ·exact .inl k
   ·exact .inr ⟨rfl,Uf h k⟩
noncomputable def Q8s (k n:Nat):Bool:=match n with | 0=>true | n+1=>Q0 (V4 (I6.get k) (I6.get (k+1))) (Q8s (k+1) n)
noncomputable def Ug (l:List Nat):Bool:=match l with | []=>true | c :: r=>Q0 (Nat.blt c 1114112) (Ug r)
noncomputable def Nt (k n:Nat):Bool:=match n with | 0=>true | n+1=>Q0 (Ug (I6.get k)) (Nt (k+1) n)
theorem Q4c:Q8s 0 640=true:=by decide +kernel
theorem Q4d:Nt 0 641=true:=by decide +kernel
theorem Ey:∀ {n k:Nat},Q8s k n=true->∀ i,k<=i->i<k+n->V4 (I6.get i) (I6.get (i+1))=true
 | 0,k,_,i,h1,h2=>by lia
 | n+1,k,h,i,h1,h2=>by
  refine Q6 (Q1 (show Q0 (V4 (I6.get k) (I6.get (k+1))) (Q8s (k+1) n)=true from h)) ?_;intro a b
  by_cases e:i=k
  ·subst e;exact a
  ·exact Ey b i (by lia) (by lia)
theorem Vw:∀ {n k:Nat},Nt k n=true->∀ i,k<=i->i<k+n->Ug (I6.get i)=true
 | 0,k,_,i,h1,h2=>by lia
 | n+1,k,h,i,h1,h2=>by
  refine Q6 (Q1 (show Q0 (Ug (I6.get k)) (Nt (k+1) n)=true from h)) ?_;intro a b
  by_cases e:i=k
  ·subst e;exact a
  ·exact Vw b i (by lia) (by lia)
theorem Q4e:∀ {d i:Nat},i+d+1<641->V4 (I6.get i) (I6.get (i+d+1))=true
 | 0,i,h=>Ey Q4c i (Nat.zero_le _) (by lia)
 | d+1,i,h=>Uf (Q4e (d:=d) (i:=i) (by lia)) (Ey Q4c (i+d+1) (Nat.zero_le _) (by lia))
theorem t_lt {i j:Nat}(h:i<j)(hj:j<641):V4 (t i).cps.toList (t j).cps.toList=true:=by
 have ei:P2 i=I6.get i:=by unfold P2;rw [Dh (by lia)]
 have ej:P2 j=I6.get j:=by unfold P2;rw [Dh hj]
 show V4 (P2 i) (P2 j)=true
 rw [ei,ej];obtain ⟨d,rfl⟩:∃ d,j=i+d+1:=⟨j - i - 1,by lia⟩;exact Q4e hj
theorem Lu:∀ {xs ys:List Nat},V4 xs ys=true->PySem.Spec.ltCps xs ys=true
 | [],[],h=>by first | exact ff h | cases h
 | [],_ :: _,_=>rfl
 | _ :: _,[],h=>by first | exact ff h | cases h
 | x :: xs,y :: ys,h=>by
  unfold PySem.Spec.ltCps
  rcases Di.mp h with h2 | ⟨rfl,h2⟩
  ·simp [h2]
  ·simp [Lu h2]
theorem Q8t:Bn t:=λi j h hj=>Lu (t_lt h hj)
theorem C9:∀ {l:List Nat},Ug l=true->∀ c∈l,c<1114112
 | [],_,c,h=>by first | exact ff h | cases h
 | a :: r,h,c,hc=>by
  refine Q6 (Q1 (show Q0 (Nat.blt a 1114112) (Ug r)=true from h)) ?_;intro h1 h2
  rcases List.mem_cons.mp hc with rfl | hc
  ·exact Km h1
  ·exact C9 h2 c hc
theorem Nu {i:Nat}(h:i<641):Ug (P2 i)=true:=by
 have ei:P2 i=I6.get i:=by unfold P2;rw [Dh h]
 rw [ei];exact Vw Q4d i (Nat.zero_le _) (by lia)
theorem Qg {i:Nat}(h:¬ i<641):P2 i=[2000000+i]:=by
 unfold P2;have:Nat.blt i 641=false:=by cases q:Nat.blt i 641 with | false=>rfl | true=>exact absurd (Km q) h
 rw [this]
theorem t_inj {i j:Nat}(h:t i=t j):i=j:=by
 have e:P2 i=P2 j:=congrArg (λs:Str=>s.cps.toList) h
 by_cases hi:i<641 <;> by_cases hj:j<641
 ·rcases Nat.lt_trichotomy i j with q | q | q
  ·have:=t_lt q hj
   rw [h,Kn] at this;cases this
  ·exact q
  ·have:=t_lt q hi
   rw [h,Kn] at this;cases this
 ·have:=C9 (Nu hi) (2000000+j) (by rw [e,Qg hj];exact .head _)
  lia
 ·have:=C9 (Nu hj) (2000000+i) (by rw [<-e,Qg hi];exact .head _)
  lia
 ·rw [Qg hi,Qg hj] at e
  have:=List.head_eq_of_cons_eq e
  lia
theorem t_ok {i:Nat}(h:i<Yi):PyData.strOk (t i)=true:=by
 have hc:=C9 (Nu h);unfold PyData.strOk;rw [Array.all_eq_true_iff_forall_mem];intro x hx;have:=hc x (by simpa [t] using hx);exact decide_eq_true this
noncomputable def Nv (w:List Nat)(k n:Nat):Bool:=match n with | 0=>true | n+1=>Q0 (fB (eqL (I6.get k) w)) (Nv w (k+1) n)
theorem Vx {w:List Nat}:∀ {n k:Nat},Nv w k n=true->∀ i,k<=i->i<k+n->eqL (I6.get i) w=false
 | 0,k,_,i,h1,h2=>by lia
 | n+1,k,h,i,h1,h2=>by
  refine Q6 (Q1 (show Q0 (fB (eqL (I6.get k) w)) (Nv w (k+1) n)=true from h)) ?_;intro a b
  by_cases e:i=k
  ·subst e;exact Vu a
  ·exact Vx b i (by lia) (by lia)
theorem Ie {s:Str}{w:List Nat}(hs:s=⟨⟨w⟩⟩)(hw:Ug w=true)(h:Nv w 0 641=true)(k:Nat):(t k==s)=false:=by
 subst hs;rw [Ga]
 show eqL (P2 k) w=false
 by_cases hk:k<641
 ·have ei:P2 k=I6.get k:=by unfold P2;rw [Dh hk]
  rw [ei];exact Vx h k (Nat.zero_le _) (by lia)
 ·rw [Qg hk]
  cases q:eqL [2000000+k] w with
  | false=>rfl
  | true =>
   have:=En q;have:=C9 hw (2000000+k) (by rw [<-this];exact .head _)
   lia
theorem Nw (k:Nat):(t k==("__debug__":Str))=false:=Ie (w:=[95,95,100,101,98,117,103,95,95]) (by decide +kernel) (by decide +kernel) (by decide +kernel) k
theorem Vy (k:Nat):(t k==("__classdict__":Str))=false:=Ie (w:=[95,95,99,108,97,115,115,100,105,99,116,95,95]) (by decide +kernel) (by decide +kernel) (by decide +kernel) k
section
variable {W:Wd}
structure ScrOk (W:Wd)(iS:P)(xs:List Int):Prop where
 at_:∃ its,W.h₀.PlainList (W.fa iS) its/\IntsAre its.toList xs
 le:xs.length<=1000
theorem P.beq_refl:∀ p:P,P.beq p p=true
 | .h=>rfl
 | .o p=>P.beq_refl p
 | .i p=>P.beq_refl p
noncomputable def Vz (iS:P)(v:V)(k:Unit->R):R:=(@V.rec (λU=>R) (false) (λU=>false) (λU=>false) (λU=>false) (λU=>false) (λp=>((@Bool.rec (λU=>R) (false) (k ()) (P.beq p iS)))) (λU=>false) v)
theorem Dj {iS:P}{v:V}{k:Unit->R}(h:Vz iS v k=true):v=.fn iS/\k ()=true:=by
 induction v using V.casesOn <;> first | exact ff h | (cases h;done) | skip
 refine Q6 (bT h) ?_;intro q h;rw [P.beq_of q];exact ⟨rfl,h⟩
noncomputable def hPL (iS:P)(xs:List Int)(kS:Nat):Hv:=λU l st k=>V6 l kS (λv=>Vz iS v λU=>k (.int xs.length) st) λU=>false
noncomputable def hPS (iS:P)(xs:List Int)(kS kA:Nat):Hv:=λU l st k=>V6 l kS (λv=>Vz iS v λU=>V6 l kA (λw=>C2 w λn=>(match xs[n]? with | some i=>k (.int i) st | none=>false)) λU=>false) λU=>false
theorem Wa:∀ {vs:List Value}{ns:List Int}{n:Nat}{i:Int},IntsAre vs ns->ns[n]?=some i->∃ t,vs[n]?=some (.int i t)
 | _,_,n,i,.nil,h=>by simp at h
 | _,_,0,i,.cons m t _,h=>by simp at h;subst h;exact ⟨t,rfl⟩
 | _,_,n+1,i,.cons m t r,h=>by simpa using Wa r (n:=n) (by simpa using h)
theorem Q4f {vs:List Value}{ns:List Int}(h:IntsAre vs ns):vs.length=ns.length:=by induction h <;> simp_all
section
variable {C:Cls}{nm:Nm}{N:Nat}{T:Kt}{iS:P}{xs:List Int}
theorem Q8u (w:Wf W)(SO:ScrOk W iS xs)(G:Good C nm N)(KO:KtOk W T){kS:Nat}{x2 x3:Expr}{pos:Pos}(h2:C6 T nm x2 (T.bi .len)=true)(h3:Qc T nm kS x3=true):SE W C (hPL iS xs kS) (eval (.Call x2 [x3] [] pos)):=λcs l st k q=>by
 refine K0 (B7 G KO h2) ?_;intro p ee1 hk hd;subst ee1;have sl:Z5 x3=true:=by induction x3 using PySem.Expr.casesOn <;> first | rfl | cases h3
 have H:SEs W C (λU=>Ri kS) [.loc kS] [x3]:=.cons sl (Nk G KO h3) .nil;have hq:evL (λU=>Ri kS) [.loc kS] cs l st (λvs s=>one vs λv=>Vz iS v λU=>k (.int xs.length) s)=true:=q;refine Q7 (H.callB (pos:=pos) (f:=.builtin "len") (.inl ⟨_,rfl⟩) hq) ?_;intro vs st1 q2 r1
 refine Q3 (V7 q2) ?_;intro v ee1 q4;subst ee1;refine Q6 (Dj q4) ?_;intro ee0 q3;subst ee0;refine ⟨_,st1,q3,λA env X μ s I N=>wpAny_Call_Name_kw (B6 w I N (KO.bi .len rfl) (hk A env X) hd ?_)⟩;refine r1 X I N λμ' s' ys e I' rr=>?_
 induction rr using VRs.consE with
 | cons ra rb =>
  induction rb using VRs.nilE
  induction ra using VR.fnE
  refine Q3 SO.at_ ?_;intro its hl hi;have hl':s'.heap.PlainList (W.fa iS) its:=hl.at λo z=>I'.keep _ _ z;have sz:its.size=xs.length:=by rw [<-Array.length_toList,Q4f hi]
  exact call_len_list hl'.isList (by rw [sz];have:=SO.le;lia) ⟨_,e.trans (.toks ..),I'.toks _,by rw [sz];exact .int ..⟩
theorem Q4g (G:Good C nm N)(KO:KtOk W T){k:Nat}{x:Expr}(h:Qc T nm k x=true){cs:Q4}{l:Loc}{st:St}{v:V}(hv:Y6 l k=some v):TE W C cs l st (eval x) v st:=by
 revert x;refine @Y8 _ _ λn p h=>?_;cases J1 (Q5 h);exact Q1c hv (by rw [KO.tab]) (G.at (C7 (Q2 h))) (KO.dbg k)
set_option tactic.hygienic true in
theorem Q4h (SO:ScrOk W iS xs)(G:Good C nm N)(KO:KtOk W T){kS kA:Nat}{x4 x5:Expr}{pos:Pos}(h4:Qc T nm kS x4=true)(h5:Qc T nm kA x5=true):SE W C (hPS iS xs kS kA) (eval (.Subscript x4 x5 pos)):=λcs l st k q=>by
 refine Q3 (G0 q) ?_;intro v hv q1;refine Q6 (Dj q1) ?_;intro ee0 q2;subst ee0;refine Q3 (G0 q2) ?_;intro u hu q3;refine Q3 (L9 q3) ?_;intro n ee1 q4;subst ee1;have ns:Yp x5=true:=by induction x5 using PySem.Expr.casesOn <;> first | rfl | cases h5
 split at q4
 ·rename_i i hi
  refine ⟨_,st,q4,λA env X μ s I N=>?_⟩;refine Subscript_ ((Q4g G KO h4 hv A env X μ s I N).step λμ' s' x e z=>(Q4g G KO h5 hu A env X μ' s' z.1 (N.ext e)).step λμ'' s'' y e' z'=>?_);refine Q6 z ?_;intro z1 z2;refine Q6 z' ?_;intro z3 z4
  induction z2 using VR.fnE
  induction z4 using VR.intE
  refine Q3 SO.at_ ?_;intro its hl hx;have hl':s''.heap.PlainList (W.fa iS) its:=hl.at λo z=>z3.keep _ _ z;refine J2 (Wa hx hi) ?_;intro t ht;have lt:n<1000:=by have:=(List.getElem?_eq_some_iff.mp hi).1;have:=SO.le;lia
  exact tail_any hl'.isList.typeIs slot_list_getitem.lookup (wpAny_getItem_list hl'.isList (Int.natCast_nonneg n) (by show (n:Int)<_;lia) (by simpa using ht) ⟨_,e.trans e',z3,.int ..⟩) (G3 ns _ _)
 ·cases q4
noncomputable def Ez (T:Kt)(nm:Nm)(kS kA kL:Nat)(b:List Stmt):Bool:=W2 b λy=>R7 y λv U=>C5 v λv=>Eh v λc a d U=>P8 c λx1 os zs U=>W2 os λo=>W2 zs λz=>Lm z λx2 x3=>Bw a λu m x6 U=>M7 u λx4 x5 U =>
 Q0 (Nat.beq 2 o.ctorIdx) (Q0 (Nat.beq 5 m.ctorIdx) (Q0 (Qc T nm kA x1) (Q0 (C6 T nm x2 (T.bi .len)) (Q0 (Qc T nm kS x3) (Q0 (Qc T nm kS x4) (Q0 (Qc T nm kA x5) (Q0 (Qc T nm kL x6) (Q3i T (.int 0) d))))))))
noncomputable def Q8v (iS:P)(xs:List Int)(kS kA:Nat):Ev:=λe=>match e with
 | .loc k=>Ri k | .con v=>Rh v | .bi _ _=>hPL iS xs kS | .sub _ _=>hPS iS xs kS kA | _=>λU U U U=>false
noncomputable def evP1 (iS:P)(xs:List Int)(kS kA:Nat):Ev:=λe=>match e with
 | .con v=>Rh v | .bin op a b=>hBin (Q8v iS xs kS kA) op a b | .cmp op a b=>Q6t (Q8v iS xs kS kA) op a b | _=>λU U U U=>false
noncomputable def evP2 (iS:P)(xs:List Int)(kS kA kL:Nat):Ev:=λU=>Q6u (evP1 iS xs kS kA) (.cmp .lt (.loc kA) (.bi .len [])) (.bin .mod (.sub (.loc kS) (.loc kA)) (.loc kL)) (.con (.int 0))
noncomputable def brP (iS:P)(xs:List Int)(kS kA kL:Nat):Hs:=λcs l st k=>exL (λU=>Q0w (evP2 iS xs kS kA kL) (.con .none)) [.pass] cs l st k
theorem Q8w (w:Wf W)(SO:ScrOk W iS xs)(G:Good C nm N)(KO:KtOk W T){kS kA kL:Nat}{b:List Stmt}(h:Ez T nm kS kA kL b=true):SS W C (brP iS xs kS kA kL) (execs b):=by
 revert b;refine @Y5 _ _ _ λy=>?_;revert y;refine @M8 _ _ λv U=>?_;revert v;refine @D5 _ _ _ λv=>?_;revert v;refine @Lg _ _ λc a d U=>?_;revert c;refine @E9 _ _ λx1 os zs U=>?_;revert os;refine @Y5 _ _ _ λo=>?_;revert zs;refine @Y5 _ _ _ λz=>?_;revert z;refine @C8 _ _ λx2 x3 U=>?_;revert a;refine @Qy _ _ λu m x6 U=>?_;revert u;refine @H5 _ _ λx4 x5 U h=>?_;cases Jc (op:=.lt) (Q5 h);cases Jb (op:=.mod) (Q5 (Q2 h));replace h:=Q2 (Q2 h);have z:=Q2 (Q2 h);refine λcs l st q=>SSs.run (ex:=λU=>Q0w (evP2 iS xs kS kA kL) (.con .none)) (.cons (Q1v (ev:=evP2 iS xs kS kA kL) (e:=.con .none) ?_) .nil) cs l st q;refine Q1e (ev:=evP1 iS xs kS kA) (c:=.cmp .lt (.loc kA) (.bi .len [])) (a:=.bin .mod (.sub (.loc kS) (.loc kA)) (.loc kL)) (b:=.con (.int 0)) ?_ ?_ ?_
 ·exact Q1q (ev:=Q8v iS xs kS kA) (op:=.lt) (a:=.loc kA) (b:=.bi .len []) w G.hu (Nk G KO (Q5 h)) (Q8u w SO G KO (Q5 (Q2 h)) (Q5 z)) rfl
 ·exact Q1j (ev:=Q8v iS xs kS kA) (op:=.mod) (a:=.sub (.loc kS) (.loc kA)) (b:=.loc kL) (Q4h SO G KO (Q5 (Q2 z)) (Q5 (Q2 (Q2 z)))) (Nk G KO (Q5 (Q2 (Q2 (Q2 z)))))
 ·exact Q3q KO (Q2 (Q2 (Q2 (Q2 z))))
end
end
section
variable {W:Wd}
noncomputable def E0 (xs:List Int)(a l:Nat):Int:=match xs[a]? with | some i=>Int.fmod i l | none=>0
abbrev Dgs:=List (Nat × Nat × Nat)
theorem Ny {xs:List Int}{a l:Nat}(hl:0<l):E0 xs a l=((E0 xs a l).toNat:Int)/\(E0 xs a l).toNat<l:=by
 have h0:0<=E0 xs a l/\E0 xs a l<l:=by
  unfold E0
  split
  ·exact ⟨Int.fmod_nonneg_of_pos _ (by lia),Int.fmod_lt_of_pos _ (by lia)⟩
  ·exact ⟨Int.le_refl _,by lia⟩
 lia
noncomputable def allN (n:Nat)(k:Nat->R):R:=@Nat.rec (λU=>R) true (λi r=>@Bool.rec (λU=>R) false r (k i)) n
theorem Q8x {k:Nat->R}{n:Nat}(h:allN n k=true){d:Nat}(hd:d<n):k d=true:=by
 induction n with
 | zero=>exact absurd hd (Nat.not_lt_zero _)
 | succ n ih =>
  refine Q6 (bT h) ?_;intro h1 h2
  rcases Nat.lt_succ_iff_lt_or_eq.mp hd with q | q
  ·exact ih h2 q
  ·rw [q];exact h1
noncomputable def dgK (dgs:List (Nat × Nat × Nat))(a l:Nat)(k:Nat->R):R:=@List.rec _ (λU=>R) (false) (λx r IH_r=>((@Prod.rec _ _ (λU=>R) (λb y=>((@Prod.rec _ _ (λU=>R) (λm v=>((@Bool.rec (λU=>R) (IH_r) (((@Bool.rec (λU=>R) (IH_r) (@Bool.rec (λU=>R) (k v) (allN l k) (Nat.beq v l)) (Nat.beq l m)))) (Nat.beq a b)))) y))) x))) dgs
noncomputable def Um (xs:List Int)(dgs:Dgs):Prop:=∀ a l v,(a,l,v)∈dgs->0<l/\(v≠l->E0 xs a l=(v:Int))
theorem Fa {xs:List Int}{a l:Nat}{k:Nat->R}:∀ {dgs:Dgs},Um xs dgs->dgK dgs a l k=true->∃ v:Nat,(0<l/\E0 xs a l=v)/\k v=true
 | [],_,h=>by first | exact ff h | cases h
 | (b,m,v) :: r,D,h=>by
  have D':Um xs r:=λa l v h=>D a l v (.tail _ h)
  rcases bE (b:=Nat.beq a b) h with ⟨q,h⟩ | ⟨q,h⟩
  ·rcases bE (b:=Nat.beq l m) h with ⟨q2,h⟩ | ⟨q2,h⟩
   ·refine Q6 (D b m v (.head _)) ?_;intro h0 h1
    rw [<-Z8.mp q,<-Z8.mp q2] at h1;rw [<-Z8.mp q2] at h0
    rcases bE (b:=Nat.beq v l) h with ⟨q3,h⟩ | ⟨q3,h⟩
    ·exact Z0 _ ⟨h0,(Ny h0).1⟩ (Q8x h (Ny h0).2)
    ·exact Z0 v ⟨h0,h1 (J3 q3)⟩ h
   ·exact Fa D' h
  ·exact Fa D' h
noncomputable def three (vs:List V)(k:V->V->V->R):R:=(@List.rec _ (λU=>R) (false) (λa r U=>((@List.rec _ (λU=>R) (false) (λb r U=>((@List.rec _ (λU=>R) (false) (λc r U=>((@List.rec _ (λU=>R) (k a b c) (λU U U=>false) r))) r))) r))) vs)
theorem Q4i {vs:List V}{k:V->V->V->R}(h:three vs k=true):∃ a b c,vs=[a,b,c]/\k a b c=true:=by
 induction vs using List.casesOn with
 | nil=>first | exact ff h | cases h
 | cons a r=>induction r using List.casesOn with
  | nil=>first | exact ff h | cases h
  | cons b r=>induction r using List.casesOn with
   | nil=>first | exact ff h | cases h
   | cons c r=>induction r using List.casesOn with
    | nil=>exact I3_2 a b c rfl h
    | cons=>first | exact ff h | cases h
noncomputable def Ig (iP iS:P)(dgs:Dgs)(f:V)(vs:List V)(yes:Nat->R)(no:Unit->R):R:=(@V.rec (λU=>R) (no ()) (λU=>no ()) (λU=>no ()) (λU=>no ()) (λU=>no ()) (λp=>((@Bool.rec (λU=>R) (no ()) (three vs λs a l=>Vz iS s λU=>C2 a λa=>C2 l λl=>dgK dgs a l yes) (P.beq p iP)))) (λU=>no ()) f)
set_option tactic.hygienic true in
theorem Wb {xs:List Int}{iP iS:P}{dgs:Dgs}(D:Um xs dgs){f:V}{vs:List V}{yes:Nat->R}{no:Unit->R}(h:Ig iP iS dgs f vs yes no=true):(f=.fn iP/\∃ (a l v:Nat),vs=[.fn iS,.int a,.int l]/\(0<l/\E0 xs a l=v)/\yes v=true)\/no ()=true:=by
 induction f using V.casesOn <;> first | exact .inr h | skip
 ·rename_i p
  rcases bE (b:=P.beq p iP) h with ⟨q,h⟩ | ⟨q,h⟩
  ·refine X3_2 (Q4i h) ?_;intro s a l ee3 h1;subst ee3
   refine Q6 (Dj h1) ?_;intro ee0 h2;subst ee0;refine Q3 (L9 h2) ?_;intro a ee1 h3;subst ee1;refine Q3 (L9 h3) ?_;intro l ee1 h4;subst ee1;refine Q3 (Fa D h4) ?_;intro v h5 h6;exact .inl ⟨by rw [P.beq_of q],a,l,v,rfl,h5,h6⟩
  ·exact .inr h
noncomputable def S8 (g:G)(kx:Kx)(iP iS:P)(dgs:Dgs)(n:Nat):G6 :=
 @Nat.rec (λU=>G6) (λU U U U=>false) (λU r f vs s k=>Ig iP iS dgs f vs (λv=>k (.int (.ofNat v)) s) (λU=>Cs g kx r f vs s k)) n
structure PeelOk (W:Wd)(iP iS:P)(xs:List Int):Prop where
 run:∀ (a l:Nat)(n:Nat),0<l->∀ {A:Around}{μ:Mp}{s:Shared}{st:St}{ys:List Value},Rp A n->Inv W μ st s->VRs W μ [.fn iS,.int a,.int l] ys ->
  codeAny (model W.prog W.w) A (.call (.ref (W.fa iP)) ⟨ys,[]⟩) (λr s'=>match r with | .ok (.ret y)=>∃ μ',Ext μ s μ' s'/\Inv W μ' st s'/\VR W μ' (.int (E0 xs a l)) y | _=>False) s
 keep:keepIn W.K (.ref (W.fa iP))=true
open Classical in
theorem Sm (w:Wf W){iP iS:P}{xs:List Int}{T:Kt}(KO:KtOk W T)(SO:ScrOk W iS xs){fn:Fn}{fd:FuncData}{body:List Stmt}{dv:List Value}(FO:FnOk W iP fn fd body dv)(kp:keepIn W.K (.ref (W.fa iP))=true){kS kA kL:Nat}(hb:Ez T fd.scope.names kS kA kL body=true)
  (PE:∀ (a l:Nat)(st:St)(k:V->St->R),0<l->k (.int (E0 xs a l)) st=true->Eb fn (brP iS xs kS kA kL) [.fn iS,.int a,.int l] st k=true):PeelOk W iP iS xs where
 keep:=kp
 run:=λa l n hl {A μ s st ys} ro I r=>by
  have h:=PE a l st (λv s=>decide (v=.int (E0 xs a l)/\s=st)) hl (decide_eq_true ⟨rfl,rfl⟩);refine Q7 (Mv w FO (n:=n) (Q8w w SO (Fc.good n fd.scope fd.code FO.kind) KO hb) h) ?_;intro v st' hv rr;refine Q6 (of_decide_eq_true hv) ?_;intro ee0 ee1;subst ee0;subst ee1;exact rr ro I r
theorem Wc (w:Wf W){g:G}{kx:Kx}{iP iS:P}{xs:List Int}{dgs:Dgs}(T:TabOk W g kx)(F:TabFn W g kx)(PO:PeelOk W iP iS xs)(D:Um xs dgs):∀ n,CallOk W n (S8 g kx iP iS dgs n)
 | 0=>⟨λh=>(by first | exact ff h | cases h),λh=>(by first | exact ff h | cases h)⟩
 | n+1=>by
  have ih:=Q2d w T F (Wc w T F PO D n);refine ⟨λ{f vs st k} h=>?_,λ{f vs st k} h=>?_⟩
  ·rcases Wb D (show Ig iP iS dgs f vs (λv=>k (.int (.ofNat v)) st) (λU=>Cs g kx (S8 g kx iP iS dgs n) f vs st k)=true from h) with ⟨rfl,a,l,v,rfl,hd,hk⟩ | h
   ·refine Q6 hd ?_;intro hl hv
    refine Q9 (.int v) st hk (λ{A μ s x xs'} ro I rf rx=>?_)
    induction rf using VR.fnE
    refine wpAny_call (codeAny_mono (PO.run a l n hl ro.rp I rx) λr s' z=>?_);rw [hv] at z
    induction r using Except.casesOn with
    | error=>exact z.elim
    | ok fl=>induction fl using PySem.Flow.casesOn <;> first | exact z | exact z.elim
   ·exact ih.run h
  ·rcases Wb D (show Ig iP iS dgs f vs (λv=>k (.int (.ofNat v)) st) (λU=>Cs g kx (S8 g kx iP iS dgs n) f vs st k)=true from h) with ⟨rfl,a,l,v,rfl,hd,hk⟩ | h
   ·intro M μ s x I rf
    induction rf using VR.fnE
    exact keeps_K PO.keep _ (I.K w)
   ·exact ih.keep h
end
section
variable {W:Wd}
abbrev Ob:=List (P × O)
noncomputable def T.put (t:T)(p:P)(o:O):T:=match p with
 | .h=>(match t with | .nil=>.node .nil (some o) .nil | .node l _ r=>.node l (some o) r)
 | .o q=>(match t with | .nil=>.node (T.put .nil q o) none .nil | .node l v r=>.node (T.put l q o) v r)
 | .i q=>(match t with | .nil=>.node .nil none (T.put .nil q o) | .node l v r=>.node l v (T.put r q o))
theorem Je:∀ {p:P}{t:T}{o:O}{q:P},(t.put p o).get q=if q=p then some o else t.get q
 | .h,.nil,o,q=>by induction q using P.casesOn <;> simp [T.put,T.get,O4]
 | .h,.node l v r,o,q=>by induction q using P.casesOn <;> simp [T.put,T.get]
 | .o p,.nil,o,q=>by induction q using P.casesOn <;> simp [T.put,T.get,O4,Je (p:=p) (t:=.nil)]
 | .o p,.node l v r,o,q=>by induction q using P.casesOn <;> simp [T.put,T.get,Je (p:=p) (t:=l)]
 | .i p,.nil,o,q=>by induction q using P.casesOn <;> simp [T.put,T.get,O4,Je (p:=p) (t:=.nil)]
 | .i p,.node l v r,o,q=>by induction q using P.casesOn <;> simp [T.put,T.get,Je (p:=p) (t:=r)]
noncomputable def mkT (l:Ob):T:=match l with | []=>.nil | x :: r=>(match x with | (p,o)=>(mkT r).put p o)
set_option tactic.hygienic true in
theorem Jf:∀ {l:Ob}{p:P}{o:O},(mkT l).get p=some o->(p,o)∈l
 | [],p,o,h=>by rw [mkT,O4] at h;exact nS h
 | (q,u) :: r,p,o,h=>by
  have h2:((mkT r).put q u).get p=some o:=h;rw [Je] at h2
  split at h2
  ·rename_i e;rw [e,Option.some.inj h2];exact .head _
  ·exact .tail _ (Jf h2)
noncomputable def Nz (a b:V):Bool:=match a with
 | .none=>(match b with | .none=>true | _=>false)
 | .bool x=>(match b with | .bool y=>(match x with | true=>y | false=>fB y) | _=>false)
 | .int i=>(match b with | .int j=>eqI i j | _=>false)
 | .str i=>(match b with | .str j=>Nat.beq i j | _=>false)
 | .ref p=>(match b with | .ref q=>P.beq p q | _=>false)
 | .fn p=>(match b with | .fn q=>P.beq p q | _=>false)
 | .cls i=>(match b with | .cls j=>Nat.beq i j | _=>false)
set_option tactic.hygienic true in
theorem Gc {a b:V}(h:Nz a b=true):a=b:=by
 induction a using V.casesOn <;> cases b <;> first | exact ff h | (cases h;done) | skip
 ·rfl
 ·rename_i x y;induction x using Bool.casesOn <;> cases y <;> first | rfl | cases h
 ·rw [Kh h]
 ·rw [Z8.mp h]
 ·rw [P.beq_of h]
 ·rw [P.beq_of h]
 ·rw [Z8.mp h]
noncomputable def We (a b:List V):Bool:=match a with
 | []=>(match b with | []=>true | _ :: _=>false)
 | x :: a=>(match b with | []=>false | y :: b=>Q0 (Nz x y) (We a b))
theorem Gd:∀ {a b:List V},We a b=true->a=b
 | [],[],_=>rfl
 | [],_ :: _,h=>by first | exact ff h | cases h
 | _ :: _,[],h=>by first | exact ff h | cases h
 | x :: a,y :: b,h=>by refine Q6 (Q1 (show Q0 (Nz x y) (We a b)=true from h)) ?_;intro h1 h2;rw [Gc h1,Gd h2]
noncomputable def Fb (a b:List (Nat × V)):Bool:=match a with
 | []=>(match b with | []=>true | _ :: _=>false)
 | x :: a=>(match b with | []=>false | y :: b=>(match x with | (i,v)=>(match y with | (j,w)=>Q0 (Nat.beq i j) (Q0 (Nz v w) (Fb a b)))))
theorem Oa:∀ {a b:List (Nat × V)},Fb a b=true->a=b
 | [],[],_=>rfl
 | [],_ :: _,h=>by first | exact ff h | cases h
 | _ :: _,[],h=>by first | exact ff h | cases h
 | (i,v) :: a,(j,w) :: b,h=>by
  refine Q6 (Q1 (show Q0 (Nat.beq i j) (Q0 (Nz v w) (Fb a b))=true from h)) ?_;intro h1 h2;refine Q6 (Q1 h2) ?_;intro h3 h4;rw [Z8.mp h1,Gc h3,Oa h4]
theorem Ge {α:Type}{l:List α}(h:Zx l=true):l=[]:=by induction l using List.casesOn <;> first | rfl | cases h
noncomputable def eqO (a b:O):Bool:=(@O.rec (λU=>Bool) (λx=>((@O.rec (λU=>Bool) (λy=>We x y) (λU=>false) (λU=>false) (λU U=>false) (λU=>false) (λU U=>false) b))) (λx=>((@O.rec (λU=>Bool) (λU=>false) (λy=>We x y) (λU=>false) (λU U=>false) (λU=>false) (λU U=>false) b))) (λx=>((@O.rec (λU=>Bool) (λU=>false) (λU=>false) (λy=>Fb x y) (λU U=>false) (λU=>false) (λU U=>false) b))) (λc x=>((@O.rec (λU=>Bool) (λU=>false) (λU=>false) (λU=>false) (λd y=>Q0 (Nat.beq c d) (Fb x y)) (λU=>false) (λU U=>false) b))) (λv=>((@Option.rec _ (λU=>Bool) (false) (λv=>((@O.rec (λU=>Bool) (λU=>false) (λU=>false) (λU=>false) (λU U=>false) (λw=>((@Option.rec _ (λU=>Bool) (false) (λw=>Nz v w) w))) (λU U=>false) b))) v))) (λf x=>((@O.rec (λU=>Bool) (λU=>false) (λU=>false) (λU=>false) (λU U=>false) (λU=>false) (λg y=>Q0 (P.beq f g) (Q0 (Zx x) (Zx y))) b))) a)
set_option tactic.hygienic true in
theorem eqO_of {a b:O}(h:eqO a b=true):a=b:=by
 induction a using O.casesOn with
 | list x=>induction b using O.casesOn <;> first | (rw [Gd (show We x _=true from h)];done) | cases h
 | tup x=>induction b using O.casesOn <;> first | (rw [Gd (show We x _=true from h)];done) | cases h
 | dict x=>induction b using O.casesOn <;> first | (rw [Oa (show Fb x _=true from h)];done) | cases h
 | inst c x =>
  cases b <;> first | exact ff h | skip
  rename_i d y;have h:Q0 (Nat.beq c d) (Fb x y)=true:=h;rw [Z8.mp (Q5 h),Oa (Q2 h)]
 | cell v =>
  cases v with
  | none=>cases h
  | some v =>
   cases b <;> first | exact ff h | skip
   rename_i w;cases w with
   | none=>cases h
   | some w=>rw [Gc (show Nz v w=true from h)]
 | clos f x =>
  cases b <;> first | exact ff h | skip
  rename_i d y;have h:Q0 (P.beq f d) (Q0 (Zx x) (Zx y))=true:=h;rw [P.beq_of (Q5 h),Ge (Q5 (Q2 h)),Ge (Q2 (Q2 h))]
noncomputable def Fd (o:O):Bool:=(@O.rec (λU=>Bool) (λU=>false) (λU=>false) (λU=>false) (λU U=>false) (λU=>false) (λf x=>Q0 (P.beq f X3) (Zx x)) o)
set_option tactic.hygienic true in
theorem Sn {o:O}(h:Fd o=true):o=.clos X3 []:=by
 cases o <;> first | exact ff h | (cases h;done) | skip
 rename_i f x;refine Q6 (Q1 (show Q0 (P.beq f X3) (Zx x)=true from h)) ?_;intro h1 h2;cases x <;> first | exact ff h2 | (cases h2;done) | rw [P.beq_of h1]
noncomputable def K9 (t:T)(l:Ob):Bool:=@List.rec (P × O) (λU=>Bool) true (λx U ih=>Q0 (ifB (Fd x.2) (t.getK x.1 λU=>true) (t.getK x.1 λu=>eqO u x.2)) ih) l
theorem Ze {l:Ob}{t:T}{p:P}{o:O}(h:K9 t l=true)(m:(p,o)∈l):(o=.clos X3 []/\∃ u,t.get p=some u)\/t.get p=some o:=by
 induction l with
 | nil=>cases m
 | cons x r ih =>
  have h:Q0 (ifB (Fd x.2) (t.getK x.1 λU=>true) (t.getK x.1 λu=>eqO u x.2)) (K9 t r)=true:=h
  rcases List.mem_cons.mp m with e | e
  ·subst e
   rcases bE (Q5 h) with ⟨z,h1⟩ | ⟨_,h1⟩
   ·refine Q3 (Yk h1) ?_;intro v a _;exact .inl ⟨Sn z,v,a⟩
   ·refine Q3 (Yk h1) ?_;intro v a b;exact .inr ((eqO_of b:v=o)▸a)
  ·exact ih (Q2 h) e
noncomputable def X8 (p:P)(l:Ob):Bool:=@List.rec _ (λU=>Bool) (false) (λx r IH_r=>((@Prod.rec _ _ (λU=>Bool) (λq U=>((@Bool.rec (λU=>Bool) (IH_r) (true) (P.beq p q)))) x))) l
theorem Oc:∀ {l:Ob}{p:P},X8 p l=true->∃ o,(p,o)∈l
 | (q,u) :: r,p,h=>by
  rcases bE (b:=P.beq p q) h with ⟨e,h⟩ | ⟨_,h⟩
  ·rw [P.beq_of e];exact ⟨u,.head _⟩
  ·refine J2 (Oc h) ?_;intro o m;exact ⟨o,.tail _ m⟩
noncomputable def Qh (ids:Ob)(v:V):Bool:=(@V.rec (λU=>Bool) (true) (λU=>true) (λU=>true) (λU=>true) (λp=>X8 p ids) (λU=>true) (λU=>true) v)
noncomputable def Q8y (ids:Ob)(l:List V):Bool:=@List.rec _ (λU=>Bool) (true) (λv r IH_r=>Q0 (Qh ids v) (IH_r)) l
noncomputable def Sp (ids:Ob)(l:List (Nat × V)):Bool:=@List.rec _ (λU=>Bool) (true) (λx r IH_r=>((@Prod.rec _ _ (λU=>Bool) (λU v=>Q0 (Qh ids v) (IH_r)) x))) l
noncomputable def Q8z (ids:Ob)(o:O):Bool:=(@O.rec (λU=>Bool) (λx=>Q8y ids x) (λx=>Q8y ids x) (λx=>Sp ids x) (λU x=>Sp ids x) (λv=>((@Option.rec _ (λU=>Bool) (true) (λv=>Qh ids v) v))) (λf x=>Q0 (Zx x) ((@Bool.rec (λU=>R) (((@Bool.rec (λU=>R) (P.beq f D0) (true) (P.beq f X3)))) (true) (P.beq f L8)))) o)
noncomputable def Zn (ids l:Ob):Bool:=@List.rec _ (λU=>Bool) (true) (λx r IH_r=>((@Prod.rec _ _ (λU=>Bool) (λp o=>Q0 (X8 p ids) (Q0 (Q8z ids o) (IH_r))) x))) l
theorem Dk {ids l:Ob}{p:P}{o:O}(h:Zn ids l=true)(m:(p,o)∈l):X8 p ids=true/\Q8z ids o=true:=by
 induction l with
 | nil=>cases m
 | cons x r ih =>
  have h:Q0 (X8 x.1 ids) (Q0 (Q8z ids x.2) (Zn ids r))=true:=h
  rcases List.mem_cons.mp m with e | e
  ·subst e;exact ⟨(Q1 h).1,(Q1 (Q1 h).2).1⟩
  ·exact ih (Q1 (Q1 h).2).2 e
section
variable {μ μ':Mp}{ids:Ob}
theorem VR.down (D:∀ p y,X8 p ids=true->μ' p=some y->μ p=some y){v:V}{x:Value}(h:Qh ids v=true)(r:VR W μ' v x):VR W μ v x:=by
 cases r with
 | ref m=>exact .ref (D _ _ h m)
 | none=>exact .none | bool=>exact .bool _ | int=>exact .int .. | str=>exact .str .. | fn=>exact .fn _ | cls=>exact .cls _
theorem VRs.down (D:∀ p y,X8 p ids=true->μ' p=some y->μ p=some y){v:List V}{x:List Value}(h:Q8y ids v=true)(r:VRs W μ' v x):VRs W μ v x:=by
 induction r with
 | nil=>exact .nil
 | @cons v _ vs _ a b ih =>
  have h:Q0 (Qh ids v) (Q8y ids vs)=true:=h;exact .cons (a.down D (Q5 h)) (ih (Q2 h))
theorem KVs.down (D:∀ p y,X8 p ids=true->μ' p=some y->μ p=some y){v:List (Nat × V)}{x:List (Str × Value)}(h:Sp ids v=true)(r:KVs W μ' v x):KVs W μ v x:=by
 induction r with
 | nil=>exact .nil
 | @cons _ v _ vs _ a b ih =>
  have h:Q0 (Qh ids v) (Sp ids vs)=true:=h;exact .cons (a.down D (Q5 h)) (ih (Q2 h))
theorem Sq {l:List (Nat × V)}{k:Nat}{v:V}(h:Sp ids l=true)(e:Y6 l k=some v):Qh ids v=true:=by
 induction l with
 | nil=>cases e
 | cons x r ih =>
  have h:Q0 (Qh ids x.2) (Sp ids r)=true:=h;have e:(if x.1=k then some x.2 else Y6 r k)=some v:=e
  by_cases q:x.1=k
  ·rw [if_pos q] at e;cases e;exact Q5 h
  ·rw [if_neg q] at e;exact ih (Q2 h) e
set_option tactic.hygienic true in
theorem OR.down (D:∀ p y,X8 p ids=true->μ' p=some y->μ p=some y){h:Heap}{a d:Addr}{o:O}(ok:Q8z ids o=true)(r:OR W μ' h a d o):OR W μ h a d o:=by
 cases r with
 | list hl hr hz=>exact .list hl (hr.down D ok) hz
 | tup hl hr hz=>exact .tup hl (hr.down D ok) hz
 | dict hd hr hz=>exact .dict hd (hr.down D ok) hz
 | inst hc hi hd hr hz ne =>
  refine .inst hc hi hd ⟨hr.1,hr.2.1,λk=>?_⟩ hz ne;have:=hr.2.2 k;rename_i es _ _;cases q:Y6 es k with
  | some v=>rw [q] at this;refine Q3 this ?_;intro x a b;exact Z0 x a (b.down D (Sq ok q))
  | none=>rw [q] at this;exact this
 | clos ho hn hp hb hsc hdf hgl hbl hcd hrec hcs hfr =>
  rename_i f cs fd nd;refine Q6 (Q1 (show Q0 (Zx cs) _=true from ok)) ?_;intro h1 _;cases cs <;> first | exact ff h1 | (cases h1;done) | skip
  exact .clos ho hn hp hb hsc hdf hgl hbl hcd hrec (λk p e=>by cases e) hfr
 | tab hP ha=>exact .tab hP ha
 | junk hl=>exact .junk hl
 | done hP ha=>exact .done hP ha
 | cell0 hc=>exact .cell0 hc
 | cell1 hc hr=>exact .cell1 hc (hr.down D ok)
end
theorem leave {μ μ':Mp}{s s':Shared}{o0 o1:Ob}{n0:P}{st':St}(I0:Inv W μ ⟨mkT o0,n0⟩ s)(h0:∀ p,X8 p o0=true->∃ x,μ p=some x)(E:Ext μ s μ' s')(I':Inv W μ' st' s')(ok:Zn o0 o1=true)(ha:K9 st'.t o1=true) :
  Ext μ s μ s'/\Inv W μ ⟨mkT o1,n0⟩ s':=by
 have D:∀ p y,X8 p o0=true->μ' p=some y->μ p=some y:=λp y m e=>by
  refine J2 (h0 p m) ?_;intro x hx;rw [E.sub p x hx] at e;cases e;exact hx
 refine ⟨⟨λU U h=>h,λU U U h q=>(by rw [h] at q;cases q),E.keep,E.rest⟩,⟨I'.keep,I0.fresh,λp o e=>?_,λp a d e=>?_,I0.inj⟩⟩
 ·have m:=Jf e
  refine Q6 (Dk ok m) ?_;intro mp oo;refine J2 (h0 p mp) ?_;intro zz0 hx;obtain ⟨a,d⟩:=zz0;have hx':=E.sub p _ hx;refine Q9 a d hx ?_
  rcases Ze ha m with ⟨rfl,_⟩ | z
  ·exact .junk (I'.lt p a d hx').2.1
  ·refine Q7 (I'.objs p o z) ?_;intro a' d' m' r
   rw [hx'] at m';cases m';exact r.down D oo
 ·exact ⟨(I0.lt p a d e).1,(I'.lt p a d (E.sub _ _ e)).2⟩
structure Part where
 f:P
 args:List V
 o0:Ob
 o1:Ob
noncomputable def F5 (v:V):Bool:=match v with | .bool b=>b | _=>false
set_option tactic.hygienic true in
theorem Yb {v:V}(h:F5 v=true):v=.bool true:=by cases v <;> first | exact ff h | (cases h;done) | (rename_i b;cases b <;> first | rfl | cases h)
structure PartOk (W:Wd)(n:Nat)(n0:P)(pt:Part):Prop where
 ok:Zn pt.o0 pt.o1=true
 keep:keepIn W.K (.ref (W.fa pt.f))=true
 run:∃ st',K9 st'.t pt.o1=true/\∀ {A:Around}{μ:Mp}{s:Shared}{xs:List Value},Ro A n->Inv W μ ⟨mkT pt.o0,n0⟩ s->VRs W μ pt.args xs ->
  Run W A μ s (call (.ref (W.fa pt.f)) xs) λμ' s' y=>Inv W μ' st' s'/\VR W μ' (.bool true) y
noncomputable def Lv (n0:P)(tbl:List Part)(p:P)(vs:List V)(s:St)(k:V->St->R):R:=match tbl with
 | []=>false
 | x :: r=>(match x with | ⟨f,args,o0,o1⟩=>(match Q0 (P.beq p f) (Q0 (We vs args) (Q0 (P.beq s.n n0) (K9 s.t o0))) with | true=>k (.bool true) ⟨mkT o1,n0⟩ | false=>Lv n0 r p vs s k))
set_option tactic.hygienic true in
theorem Dm {n0:P}:∀ {tbl:List Part}{p:P}{vs:List V}{s:St}{k:V->St->R},Lv n0 tbl p vs s k=true->∃ x∈tbl,p=x.f/\vs=x.args/\s.n=n0/\K9 s.t x.o0=true/\k (.bool true) ⟨mkT x.o1,n0⟩=true
 | ⟨f,args,o0,o1⟩ :: r,p,vs,s,k,h=>by
  unfold Lv at h;dsimp only at h
  split at h
  ·rename_i q
   refine Q6 (Q1 q) ?_;intro h1 q1;refine Q6 (Q1 q1) ?_;intro h2 q2;refine Q6 (Q1 q2) ?_;intro h3 h4;exact I1_6 _ (.head _) (P.beq_of h1) (Gd h2) (P.beq_of h3) h4 h
  ·refine Q3 (Dm h) ?_;intro x m r;exact Z0 x (.tail _ m) r
noncomputable def caP (n0:P)(base:G6)(tbl:List Part):G6:=λf vs s k=>match f with
 | .fn p=>Lv n0 tbl p vs s k
 | .cls c=>base (.cls c) vs s k
 | _=>false
theorem enter {μ:Mp}{s:Shared}{st:St}{o0:Ob}{n0:P}(I:Inv W μ st s)(hn:st.n=n0)(ha:K9 st.t o0=true):Inv W μ ⟨mkT o0,n0⟩ s/\∀ p,X8 p o0=true->∃ x,μ p=some x:=by
 have key:∀ p o,(p,o)∈o0->∃ a d,μ p=some (a,d)/\OR W μ s.heap a d o:=λp o m=>by
  rcases Ze ha m with ⟨rfl,u,z⟩ | z
  ·refine Q7 (I.objs p u z) ?_;intro a d m' r;exact Q9 a d m' (.junk r.live)
  ·exact I.objs p o z
 subst hn;exact ⟨⟨I.keep,I.fresh,λp o e=>key p o (Jf e),I.lt,I.inj⟩,λp h=>by refine J2 (Oc h) ?_;intro o m;refine Q7 (key p o m) ?_;intro a d z _;exact ⟨_,z⟩⟩
theorem caP_ok (w:Wf W){n:Nat}{n0:P}{base:G6}{tbl:List Part}(B:CallOk W n base)(PO:∀ pt∈tbl,PartOk W n n0 pt):CallOk W n (caP n0 base tbl):=by
 refine ⟨λ{f vs st k} h=>?_,λ{f vs st k} h=>?_⟩
 ·cases f with
  | fn p =>
   refine X1_6 (Dm (show Lv n0 tbl p vs st k=true from h)) ?_;intro x hx ee2 ee3 hn ha hk;subst ee2;subst ee3;refine Q3 ((PO x hx).run) ?_;intro st' h' r;refine Q9 (.bool true) ⟨mkT x.o1,n0⟩ hk (λ{A μ s y ys} ro I rf rx=>?_)
   induction rf using VR.fnE
   refine Q6 (enter I hn ha) ?_;intro I0 h0;refine wpAny_mono (r ro I0 rx) (λz s' ⟨μ',e,i,v⟩=>?_) λU U x=>x;refine Q6 (leave I0 h0 e i (PO x hx).ok h') ?_;intro e1 i1
   induction v using VR.boolE
   exact J6 μ e1 i1 (.bool _)
  | cls c=>exact B.run (f:=.cls c) h
  | none=>first | exact ff h | cases h
  | bool=>first | exact ff h | cases h
  | int=>first | exact ff h | cases h
  | str=>first | exact ff h | cases h
  | ref=>first | exact ff h | cases h
 ·cases f with
  | fn p =>
   obtain ⟨x,hx,rfl,_⟩:=Dm (show Lv n0 tbl p vs st k=true from h);intro M μ s y I rf
   induction rf using VR.fnE
   exact keeps_K (PO x hx).keep _ (I.K w)
  | cls c=>exact B.keep (f:=.cls c) h
  | none=>first | exact ff h | cases h
  | bool=>first | exact ff h | cases h
  | int=>first | exact ff h | cases h
  | str=>first | exact ff h | cases h
  | ref=>first | exact ff h | cases h
end
section
open PySem.Builtin PySem.Builtin.ObjectAttr
noncomputable def O8:List Value:=[.type "Exception",.type "BaseException",.type "object"]
noncomputable def N0 (C t:Addr)(d:Option Addr):Obj:={ cls:=.ref C,dict:=d,data:=.fields #[.ref t,.none,.none,.none,.bool false,.none] }
section
variable {prog:Program}{w:World}{A:Around}{E:Value->Shared->Prop}{s:Shared}{K:Frag}{x C B t:Addr}{name:Str}{v:Value}{cd:ClassData}
theorem xc_osa {R:Result->Shared->Prop}{tk:Tok}(X:K.In s.heap)(hx:s.heap.get? x=some (N0 C t none))(hc:clsIn K C=some cd)(hm:cd.mro=.ref C :: .ref B :: O8)
  (ht:takerIn K C name=some none)(hd:cd.hasDict=true)
  (h:∀ h' n' hsh tk,(∀ b o,b≠x->s.heap.get? b=some o->h'.get? b=some o)->s.heap.get? s.heap.objs.size=none->h'.get? x=some (N0 C t (some s.heap.objs.size)) ->
   h'.get? s.heap.objs.size=some (dictOf (putL name hsh (.str name tk) v []) n')->R (.ok (.ret .none)) { s with heap:=h',toks:=s.toks+1 }) :
  codeAny (model prog w) A (.call (.builtin "object.__setattr__") ⟨[.ref x,.str name tk,v],[]⟩) R s:=by
 have I:InstAt s.heap x (N0 C t none) C none:=⟨hx,rfl,rfl,trivial⟩;have SF:=PySem.F.store_object;have sub:Looks (model prog w) s.heap (isInstance (.ref x) (.type "object")) true:=I.type.andThen (looks_mroIn X (by unfold mroIn;rw [hc,Option.bind_some,hm];rfl))
 refine codeAny_call_builtin SF.slot.plain SF.entry (@check_slot (model prog w) _ _ s "object.__setattr__" "object" "__setattr__" (.ref x) [.str name tk,v] [] _ SF.kind SF.split sub (SF.args (.ref x) (.str name tk) v) ?_)
 refine Q3 (Option.bind_eq_some_iff.mp ht) ?_;intro attr ha hr;have hm':Looks (model prog w) s.heap (mroOf (.ref C)) cd.mro:=(looks_clsIn X hc).andThen .now;have L3:Looks (model prog w) s.heap (storeTaker? attr) none:=by
  induction attr using Option.casesOn with
  | none=>exact .now
  | some a =>
   refine Q3 (Option.map_eq_some_iff.mp hr) ?_;intro b hb q;refine (looks_takesIn X hb).andThen ?_
   induction b using Bool.casesOn <;> first | exact .now | cases q
 rw [osa_eq,refuse_eq];refine wpAny_bind (wpAny_bind (I.type.here (wpAny_bind (hm'.here ?_))));rw [hm,refuseLoop_ref,refuseLoop_ref,show refuseLoop (.ref x) "__setattr__" O8=pure () from PySem.F.store_Exception.passes _]
 refine wpAny_pure (wpAny_bind (I.type.here (wpAny_bind ((looks_findIn X ha).here (wpAny_bind (L3.here ?_))))));dsimp only;refine wpAny_bind (wpAny_pure (wpAny_bind (wpAny_bind (wpAny_loadPart hx (wpAny_bind ((looks_clsIn X hc).here ?_))))));rw [hd]
 repeat wp_step
 have xne:s.heap.objs.size≠x:=Nat.ne_of_gt (Heap.lt_size hx);have hp:(s.heap.push { cls:=Value.type "dict",data:=Data.dict #[] }).get? s.heap.objs.size=some { cls:=Value.type "dict",data:=Data.dict #[] }:=Heap.get?_push_size _ rfl
 have hx1:(s.heap.push { cls:=Value.type "dict",data:=Data.dict #[] }).get? x=some (N0 C t none):=Heap.get?_push_of_some _ hx
 generalize hH:((s.heap.push { cls:=Value.type "dict",data:=Data.dict #[] }).update x λo=>{ cls:=o.cls,dict:=some s.heap.objs.size,data:=o.data,slots:=o.slots })=H
 have hD:H.get? s.heap.objs.size=some (dictOf [] 0):=by rw [<-hH,Heap.get?_update_other _ _ (Ne.symm xne)];exact hp
 have hX:H.get? x=some (N0 C t (some s.heap.objs.size)):=by rw [<-hH,Heap.get?_update_self _ hx1 rfl];rfl
 have hk:∀ b o,b≠x->s.heap.get? b=some o->H.get? b=some o:=λb o ne hb=>by rw [<-hH,Heap.get?_update_other _ _ (Ne.symm ne)];exact Heap.get?_push_of_some _ hb
 refine wpAny_askSetting (wpAny_pure (wpAny_bind (wpAny_mkText (wpAny_bind (wpAny_loadPart hD ?_)))));dsimp only;have c:(!(List.toArray ([]:List DictEntry)).any (·.key.isStr name)&&(List.toArray ([]:List DictEntry)).any (·.refKey))=false:=by simp
 rw [aRefKeyMayBeTheName_at,c];refine wpAny_updatePart hD ?_;have e2:(H.update s.heap.objs.size (Obj.putName name (PyData.keyHash w.params name) (.str name s.toks) v)).get? s.heap.objs.size=some (dictOf (putL name (PyData.keyHash w.params name) (.str name s.toks) v []) (putN name [] 0)):=by
  rw [Heap.get?_update_self _ hD (by rw [putName_dict];rfl),putName_dict]
 refine wpAny_bind (wpAny_lookBehind e2 (pastItsLine_dict (by rw [List.size_toArray,sizeLine_eq];unfold putL;simp)) ?_);refine wpAny_pure (h _ _ _ _ (λb o ne hb=>?_) (Heap.get?_none_of_le (Nat.le_refl _)) ?_ e2)
 ·have:b≠s.heap.objs.size:=λe=>by have:=Heap.lt_size hb;rw [e] at this;exact Nat.lt_irrefl _ this
  rw [Heap.get?_update_other _ _ (Ne.symm this)];exact hk b o ne hb
 ·rw [Heap.get?_update_other _ _ xne];exact hX
end
end
section
open PySem.Builtin PySem.Builtin.ObjectAttr
section
variable {prog:Program}{w:World}{A:Around}{E:Value->Shared->Prop}{h:Heap}{g:Array GenState}{d:Drawn}{t:Nat}{os:OsState}
variable {nm q:Str}{C N:Addr}{bs bm:List Value}{hdct:Bool}{sn:List Str}{sub:List Value}{ab:Bool}{col:Option Bool}{dd:Option Addr}{k0 k1 k2 k3 k5:Option Value}
theorem Od {mN:Str->Option Value}{rest:List Value}{fI:Addr}{oI:Obj}{Q:Fin->Shared->Prop}(T:OwnTail h O8 bm)
  (hC:h.get? C=some (excClassObj nm q C N bs bm hdct sn sub ab col dd k0 k1 k2 k3 k5 "Exception.__new__"))(hn:h.Ns N mN)(hi:mN "__init__"=some (.ref fI))
  (hfI:h.get? fI=some oI)(hfc:oI.cls=.type "function")
  (hq:∀ h' e,Heap.MadeExcOf h h' e (.ref C) rest ->
   wpAny (model prog w) A (call (.ref fI) (.ref e :: rest)) (λr s'=>r=.none/\Q (.done (.ret (.ref e))) s') E ⟨h',g,d,t,os⟩)(hrest:rest.length<=sizeLine) :
  wpAny (model prog w) A (Builtin.«type.__call__» ⟨.ref C :: rest,[]⟩) Q E ⟨h,g,d,t,os⟩:=by
 have F:=PySem.F.excBase_Exception
 repeat (first | with_reducible refine wpAny_loadPart_at hC ?_ | with_reducible refine wpAny_madeBy_exc hC ?_ | wp_step)
 refine codeAny_call_builtin_code (Code.quiet_builtin _ F.quiet) (wpAny_check_new_subT F T hC ?_);refine codeAny_exc_new_subT F T hC ?_ hrest
 show wpAny _ _ _ _ _ _
 have k:∀ b o,h.get? b=some o->((h.push { cls:=.type "tuple",data:=.seq rest.toArray }).push { cls:=.ref C,data:=.fields #[.ref h.objs.size,.none,.none,.none,.bool false,.none] }).get? b=some o :=
  λb o e=>Heap.get?_push_of_some _ (Heap.get?_push_of_some _ e)
 have hget:((h.push { cls:=.type "tuple",data:=.seq rest.toArray }).push
   { cls:=.ref C,data:=.fields #[.ref h.objs.size,.none,.none,.none,.bool false,.none] }).get? (h.objs.size+1)=some
   { cls:=.ref C,data:=.fields #[.ref h.objs.size,.none,.none,.none,.bool false,.none] }:=by heap_get
 have hcC:(Value.ref C :: bm).contains (.ref C)=true:=by simp
 unfold isInstance
 repeat (first | with_reducible refine wpAny_loadPart_at hget ?_ | (with_reducible refine wpAny_isSubtype_exc (k _ _ hC) ?_;rw [hcC]) | wp_step)
 show wpAny _ _ (typeLookup (.ref C) _) _ _ _
 refine wpAny_typeLookup_tail (k _ _ hC) (hn.keeps k) (T.keeps k) F.mroIs F.init.lookup ?_;rw [hi];refine wpAny_holding (wpAny_bind ?_);unfold bindSpecial;refine wpAny_bind (wpAny_typeOf (T:="function") ⟨_,k _ _ hfI,hfc⟩ ?_)
 refine wpAny_ite_true (decide_eq_true (by decide)) ?_;refine wpAny_pure (wpAny_bind (wpAny_mono (hq _ (h.objs.size+1) ⟨k,Heap.get?_none_of_le (Nat.le_succ _),h.objs.size,hget,Heap.get?_none_of_le (Nat.le_refl _),?_⟩) (λr s' hr=>?_) λU U x=>x))
 ·exact Heap.get?_push_of_some _ (Heap.get?_push_at rfl rfl)
 ·refine Q6 hr ?_;intro ee0 hQ;subst ee0
  wp_walk
  exact hQ
theorem Q9a {mN:Str->Option Value}{rest:List Value}{fI:Addr}{oI:Obj}{Q:Value->Shared->Prop}(T:OwnTail h O8 bm)
  (hC:h.get? C=some (excClassObj nm q C N bs bm hdct sn sub ab col dd k0 k1 k2 k3 k5 "Exception.__new__"))(hn:h.Ns N mN)(hi:mN "__init__"=some (.ref fI))
  (hfI:h.get? fI=some oI)(hfc:oI.cls=.type "function")
  (hq:∀ h' e,Heap.MadeExcOf h h' e (.ref C) rest ->
   wpAny (model prog w) (A.under (.builtin "type.__call__" ⟨.ref C :: rest,[]⟩)) (call (.ref fI) (.ref e :: rest)) (λr s'=>r=.none/\Q (.ref e) s') E ⟨h',g,d,t,os⟩)(hrest:rest.length<=sizeLine) :
  wpAny (model prog w) A (call (.ref C) rest) Q E ⟨h,g,d,t,os⟩:=by
 have f1:=tc_lookup;have f2:=tc_bind (.ref C);have hT:(⟨h,g,d,t,os⟩:Shared).TypeIs (.ref C) "type":=⟨_,hC,rfl⟩
 refine wpAny_call (codeAny_of_tree ?_)
 show wpAny _ _ (callAny (.ref C) _) _ _ _
 repeat (any_goals (first | assumption | with_reducible refine wpAny_loadPart_at hC ?_ | wp_step))
 refine ⟨rfl,?_⟩;refine codeAny_call_builtin_at (Code.quiet_builtin _ (by decide +kernel)) entry_typeCall (wpAny_check_type_call_sub hC (Od (hrest:=hrest) T hC hn hi hfI hfc λh' e hm=>?_));exact hq h' e hm
theorem Q4j {s:Shared}{env:Env}{x:Sem Value}{Q:Flow->Shared->Prop}(hbase:bm.contains (.type "BaseException")=true)(hh:A.handled=none){M:Model}
  (hx:wpAny M A x (λv s₁=>∃ e t' dx,v=.ref e/\s₁.heap.get? C=some (excClassObj nm q C N bs bm hdct sn sub ab col dd k0 k1 k2 k3 k5 "Exception.__new__") /\
   s₁.heap.get? e=some (N0 C t' dx)/\E (.ref e) s₁) E s) :
  wpAny M A (raiseStmt env (some x) none) Q E s:=by
 have hcB:(Value.ref C :: bm).contains (.type "BaseException")=true:=by rw [List.contains_cons,hbase,Bool.or_true]
 unfold raiseStmt;refine wpAny_bind (wpAny_mono hx (λv s₁ h₁=>?_) λU U x=>x);refine X3_4 h₁ ?_;intro e t' dx ee3 hC he hE;subst ee3;obtain ⟨hp,g,d,tk,os⟩:=s₁;unfold N0 at he
 repeat (first | with_reducible refine wpAny_loadPart_at he ?_ | with_reducible refine wpAny_loadPart_at hC ?_ | (with_reducible refine wpAny_isSubtype_exc hC ?_;rw [hcB]) | wp_step)
 exact wpAny_raiseNew_none hh hE
end
end
section
open PySem.Builtin PySem.Builtin.ObjectAttr
variable {W:Wd}
noncomputable def Ih (S V M:Str)(p1 p2 p3 p4:Pos):List Stmt:=[.Assign [.Attribute (.Name S p1) M p2] (.Name V p3) p4]
inductive XObj (W:Wd)(p pI:P):Prop
 | mk (nm:_)(q:_)(N:_)(bs:_)(bm:_)(hdct:_)(sn:_)(sub:_)(ab:_)(col:_)(dd:_)(k0:_)(k1:_)(k2:_)(k3:_)(k5:_)(mN:_)(oI:_)(h1:W.h₀.get? (W.fa p)=some (excClassObj nm q (W.fa p) N bs bm hdct sn sub ab col dd k0 k1 k2 k3 k5 "Exception.__new__"))(h2:W.h₀.Ns N mN)(h3:mN "__init__"=some (.ref (W.fa pI)))
   (h4:OwnTail W.h₀ O8 bm)(h5:bm.contains (.type "BaseException")=true)(h6:W.h₀.get? (W.fa pI)=some oI)(h7:oI.cls=.type "function")
inductive XIni (W:Wd)(pI:P)(kM:Nat):Prop
 | mk (kS kV:Nat)(fd:_)(p1:_)(p2:_)(p3:_)(p4:_)(bd:_)(h1:FnOk W pI ⟨[(false,kS),(false,kV)],[],[],bd⟩ fd (Ih (W.tab kS) (W.tab kV) (W.tab kM) p1 p2 p3 p4) [])(h2:W.tab kS≠W.tab kV)(h3:(W.tab kS==("__debug__":Str))=false)(h4:(W.tab kV==("__debug__":Str))=false)
structure XcOk (W:Wd)(p pI:P)(kM:Nat):Prop where
 obj:XObj W p pI
 cls:∃ cd B,clsIn W.K (W.fa p)=some cd/\cd.mro=.ref (W.fa p) :: .ref B :: O8/\cd.hasDict=true
 taker:takerIn W.K (W.fa p) (W.tab kM)=some none
 sa:findIn W.K (.ref (W.fa p)) "__setattr__"=some (some (.builtin "object.__setattr__"))
 ini:XIni W pI kM
noncomputable def MsgAt (h:Heap)(d:Addr)(n:Str)(v:Value):Prop:=∃ n' hsh tk,h.get? d=some (dictOf (putL n hsh (.str n tk) v []) n')
structure Told (C:Addr)(n:Str)(v:Value)(e t d:Addr)(s s':Shared):Prop where
 keep:∀ b o,b≠e->s.heap.get? b=some o->s'.heap.get? b=some o
 new:s.heap.get? d=none
 obj:s'.heap.get? e=some (N0 C t (some d))
 msg:MsgAt s'.heap d n v
 rest:s'={ s with heap:=s'.heap,toks:=s'.toks }
theorem xc_set (w:Wf W){p pI:P}{kM:Nat}(XO:XcOk W p pI kM){A:Around}{E:Value->Shared->Prop}{s:Shared}{e t:Addr}{v:Value}{Q:Unit->Shared->Prop}(X:W.K.In s.heap)
  (he:s.heap.get? e=some (N0 (W.fa p) t none))(h:∀ s' d,Told (W.fa p) (W.tab kM) v e t d s s'->Q () s'):wpAny (model W.prog W.w) A (setAttr (.ref e) (W.tab kM) v) Q E s:=by
 refine Y0 XO.cls ?_;intro cd B hc hm hd;have I:InstAt s.heap e (N0 (W.fa p) t none) (W.fa p) none:=⟨he,rfl,rfl,trivial⟩;refine set_plain X I XO.sa (xc_osa (s:={ s with toks:=s.toks+1 }) X he hc hm XO.taker hd λh' n' hsh tk k n o d=>?_);exact h _ s.heap.objs.size ⟨k,n,o,⟨_,_,_,d⟩,rfl⟩
theorem Q9b (w:Wf W){p pI:P}{kM:Nat}(XO:XcOk W p pI kM){A:Around}{s:Shared}{e t:Addr}{v:Value}{Q:Value->Shared->Prop}(room:A.depth<recursionLimit)(X:W.K.In s.heap)(lim:s.heap.NoLimit)
  (he:s.heap.get? e=some (N0 (W.fa p) t none))(h:∀ s' d,Told (W.fa p) (W.tab kM) v e t d s s'->Q .none s'):wpAny (model W.prog W.w) A (call (.ref (W.fa pI)) [.ref e,v]) Q Z3 s:=by
 refine byC λζ=>?_;obtain ⟨kS,kV,fd,p1,p2,p3,p4,bd,FO,ne,d1,d2⟩:=XO.ini;refine Rb FO.at_ ?_;intro oc od sl hat;have k1:=FO.kinds (false,kS) (.head _);have k2:=FO.kinds (false,kV) (.tail _ (.head _));refine ζ ?_;refine wpAny_call (Ae (binds:=[(W.tab kS,.ref e),(W.tab kV,v)]) room (X _ _ hat) rfl lim (codeRec_of X FO.code) FO.body
  (λhq=>R3 FO.params FO.nd (Nat.le_refl _) (Nat.zero_le _) (by simp) (FO.dwp X) (by simpa using hq)) FO.clo (λb hb=>?_) (λs₁ IC=>?_) FO.co FO.gen FO.kind)
 ·rcases List.mem_cons.mp hb with rfl | hb
  ·exact .inl (by simpa using k1)
  ·rcases List.mem_cons.mp hb with rfl | hb
   ·exact .inl (by simpa using k2)
   ·cases hb
 ·have k1':fd.scope.names.lookup (W.tab kS)=some .local:=by simpa using k1
  have k2':fd.scope.names.lookup (W.tab kV)=some .local:=by simpa using k2
  have K1:(callEnvC fd s.heap.objs.size (W.fa pI)).kindOf (W.tab kS)=some .local:=k1';have K2:(callEnvC fd s.heap.objs.size (W.fa pI)).kindOf (W.tab kV)=some .local:=k2';refine Jp IC.toInCall.same ?_;intro h₁ tk e₁;have ns:=IC.toInCall.ns;have kp:=IC.toInCall.keep;subst e₁;have fk:(callEnvC fd s.heap.objs.size (W.fa pI)).scope.kind=.function:=FO.kind;have l2:bindL (callEnvC fd s.heap.objs.size (W.fa pI)).kindOf [(W.tab kS,.ref e),(W.tab kV,v)] (λU=>none) (W.tab kV)=some v:=by
   unfold bindL;rw [if_pos K1];unfold bindL;rw [if_pos K2];unfold bindL;exact if_pos rfl
  have l1:bindL (callEnvC fd s.heap.objs.size (W.fa pI)).kindOf [(W.tab kS,.ref e),(W.tab kV,v)] (λU=>none) (W.tab kS)=some (.ref e):=by
   unfold bindL;rw [if_pos K1];unfold bindL;rw [if_pos K2];unfold bindL
   show (if W.tab kS=W.tab kV then _ else _)=_
   rw [if_neg ne];exact if_pos rfl
  refine wpAny_execs_cons ?_;refine plainObj_wpAny_Assign_Attribute (wpAny_Name (wpAny_loadName_local fk K2 ns l2 ?_) d2) (Gv _);refine wpAny_Name (wpAny_loadName_local fk K1 ns l1 ?_) d1;refine xc_set w XO (λa o q=>kp _ _ (X a o q)) (kp _ _ he) λs' d T=>?_;refine wpAny_execs_nil ?_;refine h s' d ⟨λb o ne q=>T.keep b o ne (kp _ _ q),?_,T.obj,T.msg,T.rest⟩;cases q:s.heap.get? d with
  | none=>rfl
  | some o=>have:=kp _ _ q;rw [show h₁.get? d=none from T.new] at this;exact nS this
end
section
open PySem.Builtin PySem.Builtin.ObjectAttr
theorem Dn (f:Array Value->Array Value)(o:Obj):(Obj.mapFields f o).dict=o.dict:=by
 obtain ⟨a,b,c,d⟩:=o;cases c <;> rfl
noncomputable def Q9c (h:Heap)(C e d:Addr)(P:Array Value->Prop):Prop:=∃ oe vs,h.get? e=some oe/\(oe.cls=.ref C/\oe.dict=some d)/\oe.data=.fields vs/\P vs
noncomputable def Q4k (h:Heap)(C e d:Addr):Prop:=Q9c h C e d λvs=>vs[1]?=some .none
noncomputable def S9 (h base:Heap)(C e d:Addr)(fl:Value):Prop:=Q9c h C e d λvs=>∃ T oT ts,vs[1]?=some (.ref T)/\base.get? T=none/\T≠e/\h.get? T=some oT/\oT.data=.fields ts/\ts[3]?=some fl
section
variable {M:Model}{A:Around}{E:Value->Shared->Prop}{s:Shared}{base:Heap}{env:Env}{outer:List Env}{L C e d:Addr}
theorem Wg {oe:Obj}{vs:Array Value}{head:Value}{hadNext:Bool}{Q:Unit->Shared->Prop}
  (hfr:A.frames=some (env :: outer))(hl:s.heap.FunFrames base (env :: outer))(hf:env.frame=some L)
  (he:s.heap.get? e=some oe)(hkb:base.StaysIn s.heap)(hen:base.get? e=none)(hcd:oe.cls=.ref C/\oe.dict=some d)(hd:oe.data=.fields vs)(hsz:1<vs.size)
  (h:∀ h',base.StaysIn h'->h'.FunFrames base (env :: outer)->S9 h' base C e d (rawInt L)->s.heap.UpToSlots h'->Q () { s with heap:=h' }) :
  wpAny M A (do let a <-frameOf env;let pl <-entryPlaceOf L hadNext;let b <-EntryCells.newEntry head a .none (rawInt L) .none pl;setField (.ref e) 1 b) Q E s:=by
 have hene:e ∉ (env :: outer).filterMap (·.frame):=λhm=>by
  obtain ⟨_,o,ho,hnf⟩:=hl.mem hm;rw [he] at ho;injection ho with ho;subst ho;exact hnf vs hd
 refine wpAny_bind (wpAny_frameOf_fun hfr hl hf λh₁ hs₁=>?_);refine wpAny_bind (wpAny_entryPlaceOf λpl hpl=>?_);unfold EntryCells.newEntry newFields;refine wpAny_bind (wpAny_newObj_type ?_ (hpl.sizeOk5 _ _ _ _ _));have he₁:h₁.get? e=some oe:=(hs₁.2.1 e hene).trans he;have kb₁:base.StaysIn h₁:=λb o hbo=>(hs₁.2.1 b λhm=>by rw [(hl.mem hm).1] at hbo;exact nS hbo).trans (hkb b o hbo);generalize hN:({ cls:=.type "traceback",dict:=none,data:=.fields ([head,.ref L,.none,rawInt L,.none]++(if pl.isEmpty then List.replicate 6 Value.none else pl)).toArray }:Obj)=oN
 have hNf:oN.isFreed=false:=by rw [<-hN];rfl
 have he₂:=Heap.get?_push_of_some (h:=h₁) oN he₁;refine wpAny_setField he₂ hd hsz ?_;have hTe:h₁.objs.size≠e:=Nat.ne_of_gt (Heap.lt_size he₁);have hd₃:=Obj.data_mapFields hd (·.setIfInBounds 1 (Value.ref h₁.objs.size));have he₃:=Heap.get?_update_self (Obj.mapFields (·.setIfInBounds 1 (Value.ref h₁.objs.size))) he₂ (Obj.isFreed_of_fields hd₃);have hT₃:=(Heap.get?_update_other (h₁.push oN) (Obj.mapFields (·.setIfInBounds 1 (Value.ref h₁.objs.size))) (Ne.symm hTe)).trans (Heap.get?_push_size h₁ hNf);have keep:∀ b o,b≠e->h₁.get? b=some o->((h₁.push oN).update e (Obj.mapFields (·.setIfInBounds 1 (Value.ref h₁.objs.size)))).get? b=some o :=
  λb o hbe hb=>by
   rw [Heap.get?_update_other _ _ (Ne.symm hbe)];exact Heap.get?_push_of_some _ hb
 have noRecord:∀ b o,s.heap.get? b=some o->(∀ vs,o.data≠.fields vs)->b≠e:=λb o hb hnf q=>by
  rw [q,he] at hb;injection hb with hb;subst hb;exact hnf vs hd
 refine h _ (λb o hbo=>keep b o (λq=>by rw [q,hen] at hbo;exact nS hbo) (kb₁ b o hbo)) (hl.of_keeps λb o hb hnf=>?_) ⟨_,_,he₃,⟨(Obj.cls_mapFields _ _).trans hcd.1,(Dn _ _).trans hcd.2⟩,hd₃,h₁.objs.size,_,_,by simp [hsz],kb₁.fresh,hTe,hT₃,by rw [<-hN],?_⟩ λb o hb hnf=>?_
 ·refine J2 (hs₁.2.2 b o hb) ?_;intro sl hs
  exact Z0 _ (keep b _ (noRecord b o hb hnf) hs) rfl
 ·first | (simp;done) | (rcases hpl with rfl | ⟨_,_,_,_,_,_,_,rfl⟩ <;> simp)
 ·refine J2 (hs₁.2.2 b o hb) ?_;intro sl hs
  exact ⟨sl,keep b _ (noRecord b o hb hnf) hs⟩
theorem Q9d {Q:Unit->Shared->Prop}(hfr:A.frames=some (env :: outer))(hl:s.heap.FunFrames base (env :: outer))(hf:env.frame=some L)(hkb:base.StaysIn s.heap)(hen:base.get? e=none)
  (x:Q4k s.heap C e d\/S9 s.heap base C e d .none\/S9 s.heap base C e d (rawInt L))
  (h:∀ h',base.StaysIn h'->h'.FunFrames base (env :: outer)->S9 h' base C e d (rawInt L)->s.heap.UpToSlots h'->Q () { s with heap:=h' }):wpAny M A (noteFrame (.ref e) env) Q E s:=by
 unfold noteFrame;simp only [hf]
 rcases x with ⟨oe,vs,he,hcd,hd,h1⟩ | ⟨oe,vs,he,hcd,hd,T,oT,ts,h1,hnT,hTe,hT,hdT,h3⟩ | x
 ·refine wpAny_bind (wpAny_field he hd h1 ?_)
  refine wpAny_ite_false (decide_eq_false (by decide)) ?_;exact Wg hfr hl hf he hkb hen hcd hd (Array.getElem?_eq_some_iff.mp h1).1 h
 ·refine wpAny_bind (wpAny_field he hd h1 ?_)
  refine wpAny_ite_true (decide_eq_true (show (Value.ref T !=Value.none)=true from by simp)) ?_;refine wpAny_bind (wpAny_field hT hdT h3 ?_);refine wpAny_ite_false (decide_eq_false (show ¬ ((Value.none==rawInt L)=true) from by simp [rawInt])) ?_;refine wpAny_bind (wpAny_setField hT hdT (Array.getElem?_eq_some_iff.mp h3).1 ?_);have other:∀ b,b≠T->(s.heap.update T (Obj.mapFields (·.setIfInBounds 3 Value.none))).get? b=s.heap.get? b:=λb hb=>Heap.get?_update_other _ _ (Ne.symm hb);have noRecord:∀ b o,s.heap.get? b=some o->(∀ vs,o.data≠.fields vs)->b≠T:=λb o hb hnf q=>by
   rw [q,hT] at hb;injection hb with hb;subst hb;exact hnf ts hdT
  refine Wg hfr (hl.of_keeps λb o hb hnf=>⟨o,(other b (noRecord b o hb hnf)).trans hb,rfl⟩) hf ((other e (Ne.symm hTe)).trans he)
   (λb o hbo=>(other b λq=>by rw [q,hnT] at hbo;exact nS hbo).trans (hkb b o hbo)) hen hcd hd (Array.getElem?_eq_some_iff.mp h1).1
   λh' x1 x2 x3 x4=>h h' x1 x2 x3 λb o hb hnf=>x4 b o ((other b (noRecord b o hb hnf)).trans hb) hnf
 ·have x':=x
  obtain ⟨oe,vs,he,hcd,hd,T,oT,ts,h1,hnT,hTe,hT,hdT,h3⟩:=x;refine wpAny_bind (wpAny_field he hd h1 ?_);refine wpAny_ite_true (decide_eq_true (show (Value.ref T !=Value.none)=true from by simp)) ?_;refine wpAny_bind (wpAny_field hT hdT h3 ?_);refine wpAny_ite_true (decide_eq_true (show (rawInt L==rawInt L)=true from by simp)) ?_;exact wpAny_pure (h s.heap hkb hl x' (.refl _))
theorem Zf {l:List Env}{fl:Value}{fr:Option Addr}{Q:Unit->Shared->Prop}(hkb:base.StaysIn s.heap)(hl:s.heap.FunFrames base l)(ht:S9 s.heap base C e d fl)
  (h:∀ h',base.StaysIn h'->h'.FunFrames base l->S9 h' base C e d (fr.elim .none λf=>rawInt f)->s.heap.UpToSlots h'->Q () { s with heap:=h' }):wpAny M A (setFlight (.ref e) fr) Q E s:=by
 obtain ⟨oe,vs,he,hcd,hd,T,oT,ts,h1,hnT,hTe,hT,hdT,h3⟩:=ht;have hsz3:3<ts.size:=(Array.getElem?_eq_some_iff.mp h3).1;have other:∀ b,b≠T->(s.heap.update T (Obj.mapFields (·.setIfInBounds 3 (fr.elim Value.none λf=>rawInt f)))).get? b=s.heap.get? b :=
  λb hb=>Heap.get?_update_other _ _ (Ne.symm hb)
 have noRecord:∀ b o,s.heap.get? b=some o->(∀ vs,o.data≠.fields vs)->b≠T:=λb o hb hnf q=>by
  rw [q,hT] at hb;injection hb with hb;subst hb;exact hnf ts hdT
 unfold setFlight;refine wpAny_bind (wpAny_field he hd h1 ?_);refine wpAny_ite_true (decide_eq_true (show (Value.ref T !=Value.none)=true from by simp)) ?_;refine wpAny_setField hT hdT hsz3 (h _ (λb o hbo=>(other b λq=>by rw [q,hnT] at hbo;exact nS hbo).trans (hkb b o hbo))
  (hl.of_keeps λb o hb hnf=>⟨o,(other b (noRecord b o hb hnf)).trans hb,rfl⟩) ?_ λb o hb hnf=>⟨o.slots,(other b (noRecord b o hb hnf)).trans hb⟩)
 exact ⟨oe,vs,(other e (Ne.symm hTe)).trans he,hcd,hd,T,_,_,h1,hnT,hTe,Heap.get?_update_self _ hT (Obj.isFreed_of_fields (Obj.data_mapFields hdT _)),Obj.data_mapFields hdT _,by simp [hsz3]⟩
structure Fly (base:Heap)(l:List Env)(C e d:Addr)(h:Heap):Prop where
 stays:base.StaysIn h
 new:base.get? e=none
 frames:h.FunFrames base l
 exc:Q4k h C e d\/S9 h base C e d .none\/∃ env r L,l=env :: r/\env.frame=some L/\S9 h base C e d (rawInt L)
structure FlyH (base:Heap)(l:List Env)(L C e d:Addr)(h:Heap):Prop where
 stays:base.StaysIn h
 new:base.get? e=none
 frames:h.FunFrames base l
 exc:S9 h base C e d (rawInt L)
theorem FlyH.fly {h:Heap}(hf:env.frame=some L)(x:FlyH base (env :: outer) L C e d h):Fly base (env :: outer) C e d h:=⟨x.stays,x.new,x.frames,.inr (.inr ⟨_,_,_,rfl,hf,x.exc⟩)⟩
theorem Wh {Q:Unit->Shared->Prop}(hfr:A.frames=some (env :: outer))(hf:env.frame=some L)(x:Fly base (env :: outer) C e d s.heap)
  (h:∀ h',FlyH base (env :: outer) L C e d h'->s.heap.UpToSlots h'->Q () { s with heap:=h' }):wpAny M A (noteFrame (.ref e) env) Q E s:=by
 refine Q9d hfr x.frames hf x.stays x.new ?_ λh₁ a1 a2 a3 a4=>h h₁ ⟨a1,x.new,a2,a3⟩ a4
 rcases x.exc with y | y | ⟨env',r,L',e1,e2,y⟩
 ·exact .inl y
 ·exact .inr (.inl y)
 ·cases e1
  rw [hf] at e2
  induction e2 using J8
  exact .inr (.inr y)
theorem Q4m {Q:Unit->Shared->Prop}(hf:env.frame=some L)(x:FlyH base (env :: outer) L C e d s.heap)
  (h:∀ h',FlyH base (env :: outer) L C e d h'->s.heap.UpToSlots h'->Q () { s with heap:=h' }):wpAny M A (do
   if (<-field (.ref e) 1)==.none then unsupported "frame.own-activation:exception-without-traceback"
   setFlight (.ref e) env.frame) Q E s:=by
 have x':=x;obtain ⟨x1,x2,x3,oe,vs,he,hcd,hd,T,oT,ts,h1,hnT,hTe,hT,hdT,h3⟩:=x;refine wpAny_bind (wpAny_field he hd h1 ?_);rw [if_neg (show ¬ ((Value.ref T==Value.none)=true) from by simp),hf];exact Zf x'.stays x'.frames x'.exc λh₂ b1 b2 b3 b4=>h h₂ ⟨b1,x'.new,b2,b3⟩ b4
theorem Sr {Q:Unit->Shared->Prop}(hfr:A.frames=some (env :: outer))(hf:env.frame=some L)(x:Fly base (env :: outer) C e d s.heap)
  (h:∀ h',Fly base outer C e d h'->s.heap.UpToSlots h'->Q () { s with heap:=h' }):wpAny M A (leaving env (.ref e)) Q E s:=by
 unfold leaving;refine wpAny_bind (Wh hfr hf x λh₁ a a4=>?_);exact Zf a.stays a.frames a.exc λh₂ b1 b2 b3 b4=>h h₂ ⟨b1,x.new,b2.2.2,.inr (.inl b3)⟩ (a4.trans b4)
end
end
section
open PySem.Builtin PySem.Builtin.ObjectAttr
variable {W:Wd}
theorem Run.stepX {A:Around}{μ:Mp}{s:Shared}{α:Type}{m:Sem α}{P:Mp->Shared->α->Prop}{T:α->Shared->Prop}{E:Value->Shared->Prop}(h:Run W A μ s m P)(k:∀ μ' s' a,Ext μ s μ' s'->P μ' s' a->T a s'):wpAny (model W.prog W.w) A m T E s :=
 wpAny_mono h (λa s' ⟨μ',e,p⟩=>k μ' s' a e p) λU U x=>x.elim
noncomputable def FF (W:Wd)(μ:Mp)(s:Shared)(l:List Env):Prop:=∀ env∈l,env.scope.kind=.function/\env.frame=some env.locals/\W.h₀.get? env.locals=none/\(∃ m,s.heap.Ns env.locals m)/\G9 μ env.locals
structure Aft (W:Wd)(l:List Env)(s s':Shared):Prop where
 keep:∀ b o,W.h₀.get? b=some o->s'.heap.get? b=some o
 live:∀ b,s.heap.get? b≠none->s'.heap.get? b≠none
 ns:∀ env∈l,∀ m,s.heap.Ns env.locals m->s'.heap.Ns env.locals m
 rest:s'={ s with heap:=s'.heap,toks:=s'.toks,drawn:=s'.drawn }
theorem Zg {L:Addr}{μ μ':Mp}{s s':Shared}{st:St}{l:List Env}(F:FF W μ s l)(e:ExtL L μ s μ' s')(I:Inv W μ' st s')(ne:∀ o∈l,o.locals≠L):FF W μ' s' l/\Aft W l s s':=by
 have ns:∀ env∈l,∀ m,s.heap.Ns env.locals m->s'.heap.Ns env.locals m:=λenv he m=>by
  rintro ⟨o,es,ep,ho,r⟩
  exact ⟨o,es,ep,e.keep _ _ ho (F env he).2.2.2.2 (ne env he),r⟩
 refine ⟨λenv he=>?_,I.keep,λb hb=>?_,ns,e.rest⟩
 ·refine X0_5 (F env he) ?_;intro a b c zz3 f;obtain ⟨m,hm⟩:=zz3
  refine ⟨a,b,c,⟨m,ns env he m hm⟩,λp x y hp=>?_⟩;cases q:μ p with
  | some z=>have:=e.sub p z q;rw [hp] at this;induction this using J8;exact f p x y q
  | none =>
   have:=(e.new p x y hp q).1;obtain ⟨o,_,_,ho,_⟩:=hm;exact ⟨λz=>(by have:=this.1;rw [<-z,ho] at this;exact sN this),λz=>(by have:=this.2;rw [<-z,ho] at this;cases this)⟩
 ·by_cases z:b=L
  ·subst z;exact e.live hb
  ·by_cases f:G9 μ b
   ·cases q:s.heap.get? b with
    | none=>exact absurd q hb
    | some o=>exact Z1 (e.keep b o q f z)
   ·unfold G9 at f
    simp only [Classical.not_forall,Classical.not_and_iff_not_or_not,Classical.not_not] at f;obtain ⟨p,x,y,hp,hh⟩:=f;have:=I.lt p x y (e.sub _ _ hp)
    rcases hh with rfl | rfl
    ·exact this.2.1
    ·exact this.2.2
theorem Yc {μ μ':Mp}{s s':Shared}{st:St}{l:List Env}(F:FF W μ s l)(e:Ext μ s μ' s')(I:Inv W μ' st s'):FF W μ' s' l/\Aft W l s s':=by
 have ne:∀ o∈l,o.locals≠s.heap.objs.size:=λo ho z=>by
  refine J2 ((F o ho).2.2.2.1) ?_;intro m zz1;obtain ⟨x,_,_,hx,_⟩:=zz1;have:=Heap.lt_size hx;rw [z] at this;exact Nat.lt_irrefl _ this
 have nn:s.heap.get? s.heap.objs.size=none:=Heap.get?_none_of_le (Nat.le_refl _);exact Zg (L:=s.heap.objs.size) F ⟨e.sub,e.new,λb o h f U=>e.keep b o h f,λh=>absurd nn h,e.rest⟩ I ne
theorem Gf {μ:Mp}{s:Shared}{env:Env}{cs:Q4}{loc:Loc}{l:List Env}(F:FF W μ s l)(N:EnvR W μ s env cs loc)(hf:env.frame=some env.locals):FF W μ s (env :: l):=λe he=>by
 rcases List.mem_cons.mp he with rfl | he
 ·exact ⟨N.kind,hf,N.new,let ⟨m,a,_⟩:=N.ns;⟨m,a⟩,N.free⟩
 ·exact F e he
structure Xc where
 C:Addr
 n:Str
 m:Str
noncomputable def RPF (W:Wd)(X:Xc)(F:Heap->Addr->Addr->Heap->Prop)(l pl:List Env)(s:Shared)(x:Value)(s':Shared):Prop :=
 ∃ e d base,x=.ref e/\F base e d s'.heap/\(W.h₀.StaysIn base/\∃ vs,base.get? W.tp=some (tabObj vs))/\(∃ tk,MsgAt base d X.n (.str X.m tk))/\(∀ b,s.heap.get? b≠none->base.get? b≠none\/∃ env∈l,env.frame=some b) /\
  (∀ env∈pl,∀ m,s.heap.Ns env.locals m->s'.heap.Ns env.locals m)/\s'={ s with heap:=s'.heap,toks:=s'.toks,drawn:=s'.drawn }
abbrev RP (W:Wd)(X:Xc)(l pl:List Env)(s:Shared)(x:Value)(s':Shared):Prop:=RPF W X (λbase e d h=>Fly base l X.C e d h) l pl s x s'
abbrev RPH (W:Wd)(X:Xc)(env:Env)(outer pl:List Env)(s:Shared)(x:Value)(s':Shared):Prop:=RPF W X (λbase e d h=>FlyH base (env :: outer) env.locals X.C e d h) (env :: outer) pl s x s'
theorem RPF.before {X:Xc}{F:Heap->Addr->Addr->Heap->Prop}{l pl:List Env}{s s₁:Shared}{x:Value}{s':Shared}(a:Aft W pl s s₁)(r:RPF W X F l pl s₁ x s'):RPF W X F l pl s x s':=by
 obtain ⟨e,d,base,h1,h2,h3,h4,h5,h6,h7⟩:=r;exact ⟨e,d,base,h1,h2,h3,h4,λb hb=>h5 b (a.live b hb),λe he m z=>h6 e he m (a.ns e he m z),by rw [h7,a.rest]⟩
theorem RPF.sub {X:Xc}{F:Heap->Addr->Addr->Heap->Prop}{l pl pl':List Env}{s:Shared}{x:Value}{s':Shared}(r:RPF W X F l pl s x s')(h:∀ e∈pl',e∈pl):RPF W X F l pl' s x s':=by
 obtain ⟨e,d,base,h1,h2,h3,h4,h5,h6,h7⟩:=r;exact ⟨e,d,base,h1,h2,h3,h4,h5,λe he=>h6 e (h e he),h7⟩
theorem RPF.go {X:Xc}{F F':Heap->Addr->Addr->Heap->Prop}{l l' pl:List Env}{s:Shared}{x:Value}{s':Shared}{M:Model}{A:Around}{E:Value->Shared->Prop}{t:Value->Sem Unit}{Q:Unit->Shared->Prop}(r:RPF W X F l pl s x s')
  (hl:∀ base h b,(∃ e d,F' base e d h)->s.heap.get? b≠none->(∃ env∈l,env.frame=some b)->∃ env∈l',env.frame=some b)
  (step:∀ base e d,F base e d s'.heap->(∀ h',F' base e d h'->s'.heap.UpToSlots h'->Q () { s' with heap:=h' })->wpAny M A (t (.ref e)) Q E s')
  (q:∀ s'',RPF W X F' l' pl s x s''->Q () s''):wpAny M A (t x) Q E s':=by
 obtain ⟨e,d,base,rfl,h2,h3,h4,h5,h6,h7⟩:=r;refine step base e d h2 λh' f u=>q _ ⟨e,d,base,rfl,f,h3,h4,λb hb=>?_,λe he m z=>u.ns (h6 e he m z),by rw [h7]⟩
 rcases h5 b hb with z | z
 ·exact .inl z
 ·exact .inr (hl base h' b ⟨e,d,f⟩ hb z)
abbrev Q4n {α:Type}:α->Shared->Prop:=λU U=>False
noncomputable def TXE (W:Wd)(X:Xc)(C:Cls)(cs:Q4)(l:Loc)(st:St)(t:Env->Sem Value):Prop :=
 ∀ A env outer,C A env->A.frames=some (env :: outer)->env.frame=some env.locals->∀ μ s,Inv W μ st s->EnvR W μ s env cs l->FF W μ s outer ->
  wpAny (model W.prog W.w) A (t env) Q4n (RP W X (env :: outer) (env :: outer) s) s
noncomputable def TXS (W:Wd)(X:Xc)(C:Cls)(cs:Q4)(l:Loc)(st:St)(t:Env->Sem Flow):Prop :=
 ∀ A env outer,C A env->A.frames=some (env :: outer)->env.frame=some env.locals->∀ μ s,Inv W μ st s->EnvR W μ s env cs l->FF W μ s outer->(∀ o∈outer,o.locals≠env.locals) ->
  wpAny (model W.prog W.w) A (t env) Q4n (RP W X (env :: outer) outer s) s
noncomputable def CX (W:Wd)(X:Xc)(n:Nat)(f:V)(vs:List V)(st:St):Prop :=
 ∀ {A:Around}{l:List Env}{μ:Mp}{s:Shared}{x:Value}{xs:List Value},Ro A n->A.frames=some l->Inv W μ st s->VR W μ f x->VRs W μ vs xs->FF W μ s l ->
  wpAny (model W.prog W.w) A (call x xs) Q4n (RP W X l l s) s
section
variable {X:Xc}{C:Cls}{cs:Q4}{l:Loc}{st:St}{ev:Ev}
theorem txs_of {x:Expr}{pos:Pos}{q:Bool}(h:TXE W X C cs l st (eval x))(hv:R1 x=true):TXS W X C cs l st (exec (if q=true then .Return (some x) pos else .Expr x pos)):=λA env outer Y fr ff μ s I N F ne=>by
 have h:=h A env outer Y fr ff μ s I N F
 induction q using Bool.casesOn with
 | true=>exact wpAny_Return_some (wpAny_mono h (λU U z=>z.elim) λU U z=>RPF.sub z λe he=>.tail _ he)
 | false=>exact wpAny_Expr_any (wpAny_mono h (λU U z=>z.elim) λU U z=>RPF.sub z λe he=>.tail _ he) (by unfold interactive;rw [N.kind];rfl) (Gu hv _ _)
theorem Q4p {y:Stmt}{ys:List Stmt}(h:TXS W X C cs l st (exec y)):TXS W X C cs l st (execs (y :: ys)):=λA env outer Y fr ff μ s I N F ne =>
 wpAny_execs_cons (wpAny_mono (h A env outer Y fr ff μ s I N F ne) (λU U z=>z.elim) λU U z=>z)
theorem Q9e {y:Stmt}{ys:List Stmt}{l1:Loc}{st1:St}(h:TS W C cs l st (exec y) (.next l1) st1)(t:TXS W X C cs l1 st1 (execs ys)):TXS W X C cs l st (execs (y :: ys)):=λA env outer Y fr ff μ s I N F ne=>by
 refine wpAny_execs_cons ((h A env Y μ s I N).step λμ' s' y e z=>?_);refine Q6 z ?_;intro z1 z2
 induction z2 using FlR.nextE with
 | next N' =>
  refine Q6 (Zg F e z1 ne) ?_;intro F' a;exact wpAny_mono (t A env outer Y fr ff μ' s' z1 N' F' ne) (λU U z=>z.elim) λU U z=>RPF.before a z
theorem txs_if {c:Expr}{body orelse:List Stmt}{pos:Pos}{st1:St}(h:TB W C cs l st (λenv=>isTrue c env (eval c env)) true st1)(t:TXS W X C cs l st1 (execs body)):TXS W X C cs l st (exec (.If c body orelse pos)):=λA env outer Y fr ff μ s I N F ne=>by
 refine wpAny_If ((wpAny_mono (h A env Y μ s I N) (λb s' z=>?_) λU U z=>z.elim));refine byC λζ=>?_;obtain ⟨μ',e,z,rfl⟩:=z;obtain ⟨F',a⟩:=Yc F e z;refine ζ ?_;exact wpAny_mono (t A env outer Y fr ff μ' s' z (N.ext e) F' ne) (λU U z=>z.elim) λU U z=>RPF.before a z
theorem Q4q (w:Wf W){n:Nat}(ro:∀ A env,C A env->Ro A n){es:List E}{xs:List Expr}{id:Str}{p pos:Pos}{f:P}{st1 st2:St}{vs:List V}(hk:keepIn W.K (.ref (W.fa f))=true)
  (hf:TE W C cs l st (eval (.Name id p)) (.fn f) st1)(hs:SEs W C ev es xs)(hl:es≠[])(r:∀ pos,TEs W C cs l st1 (λenv=>spliced (backTo pos (starEach xs env))) vs st2)(K:CX W X n (.fn f) vs st2) :
  TXE W X C cs l st (eval (.Call (.Name id p) xs [] pos)):=λA env outer Y fr ff μ s I N F=>by
 refine wpAny_Call_Name_kw ((hf A env Y μ s I N).stepX λμ1 s1 x e z=>?_);refine Q6 z ?_;intro z1 z2
 induction z2 using VR.fnE
 refine callWith_of (P:=λhp=>∃ k,(k=Keeper.frame\/k=Keeper.machine\/k=Keeper.boundFrame)/\Looks (model W.prog W.w) hp (keeperOf (.ref (W.fa f))) k) (by rw [(hs.plain pos).1];rfl) (λU p=>p) ?_;have key:=r pos A env Y μ1 s1 z1 (N.ext e);cases hs with
 | nil=>exact absurd rfl hl
 | cons hs' h t =>
  dsimp only at key;rw [Z4 hs'] at key ⊢;refine evalArgs_plain (key.stepX λμ2 s2 a e2 y=>⟨keeps_K hk _ (y.1.K w),?_⟩);refine Q6 (Yc (Gf F N ff) (e.trans e2) y.1) ?_;intro F' af;exact wpAny_mono (K (ro A env Y) fr y.1 (.fn f) y.2 F') (λU U z=>z.elim) λU U z=>RPF.before af z
theorem Q9f {x:Expr}{xs:List Expr}{id:Str}{p pos:Pos}{f:V}{st1:St}(hf:TE W C cs l st (eval (.Name id p)) f st1)(hs:Z5 x=true)(K:TXE W X C cs l st1 (eval x)):TXE W X C cs l st (eval (.Call (.Name id p) (x :: xs) [] pos)):=λA env outer Y fr ff μ s I N F=>by
 refine wpAny_Call_Name_kw ((hf A env Y μ s I N).stepX λμ1 s1 v e z=>?_);refine byC λζ=>?_;refine Q6 (Yc F e z.1) ?_;intro F1 a1;refine Q6 (Yc (Gf F N ff) e z.1) ?_;intro F2 a2;refine ζ ?_;unfold PySem.callWith;refine wpAny_bind (wpAny_holding ?_);rw [Z4 hs];exact evalArgs_plain (spliced_cons (wpAny_mono (K A env outer Y fr ff μ1 s1 z.1 (N.ext e) F1) (λU U z=>z.elim) λU U z=>RPF.before a2 z))
end
end
section
open PySem.Builtin PySem.Builtin.ObjectAttr
variable {W:Wd}
section
variable {M:Model}{A:Around}{E:Value->Shared->Prop}{X:Xc}{env:Env}{outer pl:List Env}{s s':Shared}{x:Value}{Q:Unit->Shared->Prop}
theorem Ii (fr:A.frames=some (env :: outer))(ff:env.frame=some env.locals)(r:RP W X (env :: outer) pl s x s')(q:∀ s'',RPH W X env outer pl s x s''->Q () s''):wpAny M A (noteFrame x env) Q E s' :=
 RPF.go (t:=λx=>noteFrame x env) r (λU U U U U z=>z) (λU U U f k=>Wh fr ff f k) q
theorem Q9g (ff:env.frame=some env.locals)(r:RPH W X env outer pl s x s')(q:∀ s'',RPH W X env outer pl s x s''->Q () s''):wpAny M A (do
   if (<-field x 1)==.none then unsupported "frame.own-activation:exception-without-traceback"
   setFlight x env.frame) Q E s' :=
 RPF.go (t:=λx=>do
   if (<-field x 1)==.none then unsupported "frame.own-activation:exception-without-traceback"
   setFlight x env.frame) r (λU U U U U z=>z) (λU U U f k=>Q4m ff f k) q
theorem Q4r (fr:A.frames=some (env :: outer))(ff:env.frame=some env.locals)(hL:s.heap.get? env.locals=none)(r:RP W X (env :: outer) pl s x s')(q:∀ s'',RP W X outer pl s x s''->Q () s''):wpAny M A (leaving env x) Q E s' :=
 RPF.go (t:=λx=>leaving env x) r (λ_ _ b _ hb ⟨e,he,z⟩=>by
  rcases List.mem_cons.mp he with rfl | he
  ·rw [ff] at z;induction z using J8;exact absurd hL hb
  ·exact Z0 e he z) (λU U U f k=>Sr fr ff f k) q
theorem RPH.rp (ff:env.frame=some env.locals)(r:RPH W X env outer pl s x s'):RP W X (env :: outer) pl s x s':=by
 obtain ⟨e,d,base,h1,h2,h3⟩:=r;exact ⟨e,d,base,h1,h2.fly ff,h3⟩
end
theorem Lw {prog:Program}{w:World}{A:Around}{s:Shared}{R:Result->Shared->Prop}{target:Expr}{it:Value}{body:List Stmt}{env:Env}
  (turn:wpAny (model prog w) A (pyNext it) (λr s₁=>match r with
   | none=>False
   | some v=>wpAny (model prog w) A (letOwnedTupleGo target it v) (λU s₁'=>wpAny (model prog w) A (assign target env v) (λU s₂=>wpAny (model prog w) A (execs body env) (λf s₃=>match f with
      | .next | .cont=>codeAny (model prog w) A (.forLoop target it body [] env) R s₃
      | _=>False) (notedBy (model prog w) A env λx s'=>R (.error x) s') s₂) Z3 s₁') Z3 s₁) Z3 s):codeAny (model prog w) A (.forLoop target it body [] env) R s:=by
 refine codeAny_of_tree ?_
 show wpAny _ A ((forTurn target it body [] env).onRaise (λx=>do noteFrame x env;theTreesLotGoes x)) _ _ s
 refine wpAny_noted ?_;simp only [forTurn];refine wpAny_bind (wpAny_standAt (wpAny_bind (wpAny_onRaise (wpAny_mono turn (λr s₁ h₁=>?_) λU U h'=>h'.elim))))
 induction r using Option.casesOn with
 | none=>exact h₁.elim
 | some v =>
  refine wpAny_bind (wpAny_mono h₁ (λU s₁' h₁'=>?_) λU U h'=>h'.elim);refine wpAny_bind (wpAny_mono h₁' (λU s₂ h₂=>wpAny_bind (wpAny_mono h₂ (λf s₃ h₃=>?_) λU U h'=>h')) λU U h'=>h'.elim)
  induction f using PySem.Flow.casesOn with
  | next=>exact wpAny_pure ⟨rfl,h₃⟩
  | cont=>exact wpAny_pure ⟨rfl,h₃⟩
  | brk=>exact h₃.elim
  | ret v=>exact h₃.elim
abbrev XH:=Q4->Loc->St->R
noncomputable def XE (W:Wd)(X:Xc)(C:Cls)(h:XH)(t:Env->Sem Value):Prop:=∀ cs l st,h cs l st=true->TXE W X C cs l st t
noncomputable def XS (W:Wd)(X:Xc)(C:Cls)(h:XH)(t:Env->Sem Flow):Prop:=∀ cs l st,h cs l st=true->TXS W X C cs l st t
section
variable {X:Xc}{C:Cls}{ev:Ev}{ex:Ex}{t:XH}
noncomputable def xSeq (h:Hs)(t:XH):XH:=λcs l st=>h cs l st λf s=>match f with | .next l=>t cs l s | _=>false
noncomputable def xIf (h:Hv)(t:XH):XH:=λcs l st=>h cs l st λv s=>Mine.A9 s v λb=>match b with | true=>t cs l s | false=>false
noncomputable def Wi (ex:Ex)(tg:Tg)(body:List S)(t:XH)(cs:Q4)(k:Nat)(it:It)(l:Loc)(st:St):R:=match k with
 | 0=>I4 it st (λU=>false) λv U=>P1 cs l st tg v λl s=>t cs l s
 | k+1=>I4 it st (λU=>false) λv it=>P1 cs l st tg v λl s=>exL ex body cs l s λf s=>match f with | .next l=>Wi ex tg body t cs k it l s | .cont l=>Wi ex tg body t cs k it l s | _=>false
noncomputable def xFor (h:Hv)(rng:Bool)(ex:Ex)(tg:Tg)(body:List S)(t:XH)(k:Nat):XH:=λcs l st=>h cs l st λv s=>Rj rng s v λit=>Wi ex tg body t cs k it l s
theorem xs_ex {x:Expr}{pos:Pos}(h:XE W X C t (eval x))(hv:R1 x=true):XS W X C t (exec (.Expr x pos)):=λcs l st q=>txs_of (q:=false) (h cs l st q) hv
theorem Q4s {x:Expr}{pos:Pos}(h:XE W X C t (eval x)):XS W X C t (exec (.Return (some x) pos)):=λcs l st q A env outer Y fr ff μ s I N F ne =>
 wpAny_Return_some (wpAny_mono (h cs l st q A env outer Y fr ff μ s I N F) (λU U z=>z.elim) λU U z=>RPF.sub z λe he=>.tail _ he)
theorem Zh {y:Stmt}{ys:List Stmt}(h:XS W X C t (exec y)):XS W X C t (execs (y :: ys)):=λcs l st q=>Q4p (h cs l st q)
theorem xs_seq {h:Hs}{y:Stmt}{ys:List Stmt}(a:SS W C h (exec y))(b:XS W X C t (execs ys)):XS W X C (xSeq h t) (execs (y :: ys)):=λcs l st q=>by
 refine Q7 (a cs l st _ q) ?_;intro f st1 q r1
 induction f using F.casesOn <;> first | exact ff q | (cases q;done) | exact Q9e r1 (b _ _ _ q)
theorem xs_if {h:Hv}{c:Expr}{body orelse:List Stmt}{pos:Pos}(a:SB W C h (λenv=>isTrue c env (eval c env)))(b:XS W X C t (execs body)):XS W X C (xIf h t) (exec (.If c body orelse pos)):=λcs l st q=>by
 refine byC λζ=>?_;refine Q7 (a cs l st _ q) ?_;intro v st1 q r1;refine Q3 (G1 q) ?_;intro b' ht q;refine ζ ?_;induction b' using Bool.casesOn <;> first | exact ff q | (cases q;done) | exact txs_if (r1 _ ht) (b _ _ _ q)
theorem Kp (w:Wf W)(hh:∀ A env,C A env->A.handled=none){tg:Tg}{tt:Expr}{body:List S}{bs:List Stmt}(TG:TgR W C tg tt)(B:SSs W C ex body bs)(T:XS W X C t (execs bs)):∀ {k:Nat}{cs:Q4}{it:It}{l:Loc}{st:St},Wi ex tg body t cs k it l st=true ->
  ∀ {A:Around}{env:Env}{outer:List Env}{μ₀ μ:Mp}{s₀ s:Shared}{I:Addr},C A env->A.frames=some (env :: outer)->env.frame=some env.locals->FF W μ₀ s₀ outer->(∀ o∈outer,o.locals≠env.locals)->ExtL env.locals μ₀ s₀ μ s->Inv W μ st s->EnvR W μ s env cs l->ItF W env.locals s₀ μ s I it ->
   codeAny (model W.prog W.w) A (.forLoop tt (.ref I) bs [] env) (λr s'=>match r with | .ok _=>False | .error x=>RPH W X env outer outer s₀ x s') s
 | 0,cs,it,l,st,h,A,env,outer,μ₀,μ,s₀,s,I,Y,fr,ff,F0,ne,e,IV,N,F=>by
  rcases Ys (W:=W) (show I4 it st _ _=true from h) with ⟨h1,_⟩ | ⟨v,it',h1,r1⟩
  ·cases h1
  ·refine Q7 (TG.run w h1) ?_;intro l1 st1 h2 r2
   refine Lw (r1 IV F.is λh' tk x xb ir rv=>?_);have e1:=e.step (t:=tk) F.fresh F.ne xb;have I1:=IV.iter (t:=tk) F.free F.new xb;have N1:=N.iter (t:=tk) F.ne xb;refine Qu (M:=model W.prog W.w) (s:={ s with heap:=h',toks:=tk }) ir ?_;refine (r2 Y (hh A env Y) I1 N1 rv).step λμ2 s2 U e2 z2=>?_;refine Q6 (Zg F0 (e1.trans e2) z2.1 ne) ?_;intro F2 a2;refine wpAny_mono (T cs l1 st1 h2 A env outer Y fr ff μ2 s2 z2.1 z2.2 F2 ne) (λU U z=>z.elim) λx s' z=>?_;exact Ii fr ff (RPF.before a2 z) λU q=>q
 | k+1,cs,it,l,st,h,A,env,outer,μ₀,μ,s₀,s,I,Y,fr,ff,F0,ne,e,IV,N,F=>by
  rcases Ys (W:=W) (show I4 it st _ _=true from h) with ⟨h1,_⟩ | ⟨v,it',h1,r1⟩
  ·cases h1
  ·refine byC λζ=>?_;refine Q7 (TG.run w h1) ?_;intro l1 st1 h2 r2
   obtain ⟨f,st2,h3,r3⟩:=B.run cs l1 st1 _ h2;refine ζ ?_;refine Lw (r1 IV F.is λh' tk x xb ir rv=>?_);have e1:=e.step (t:=tk) F.fresh F.ne xb;have I1:=IV.iter (t:=tk) F.free F.new xb;have N1:=N.iter (t:=tk) F.ne xb;have F1:ItF W env.locals s₀ μ { s with heap:=h',toks:=tk } I it':=⟨F.fresh,F.free,F.new,F.ne,ir⟩;refine Qu (M:=model W.prog W.w) (s:={ s with heap:=h',toks:=tk }) ir ?_;refine (r2 Y (hh A env Y) I1 N1 rv).step λμ2 s2 U e2 z2=>?_;refine (r3 A env Y μ2 s2 z2.1 z2.2).step λμ3 s3 y e3 z3=>?_;obtain ⟨z3,z4⟩:=z3;cases f with
   | next l2 =>
    induction z4 using FlR.nextE with
    | next N'=>exact Kp w hh TG B T h3 Y fr ff F0 ne (e1.trans (e2.trans e3)) z3 N' ((F1.ext e2).ext e3)
   | cont l2 =>
    induction z4 using FlR.contE with
    | cont N'=>exact Kp w hh TG B T h3 Y fr ff F0 ne (e1.trans (e2.trans e3)) z3 N' ((F1.ext e2).ext e3)
   | brk=>first | exact ff h3 | cases h3
   | ret=>first | exact ff h3 | cases h3
theorem xs_for (w:Wf W)(hh:∀ A env,C A env->A.handled=none){h:Hv}{rng:Bool}{tg:Tg}{body:List S}{tt iter:Expr}{bs:List Stmt}{pos:Pos}{k:Nat}(hi:SIt W C rng h iter)(hn:K5 iter=true)(TG:TgR W C tg tt)(B:SSs W C ex body bs)(T:XS W X C t (execs bs)) :
  XS W X C (xFor h rng ex tg body t k) (exec (.For tt iter bs [] pos)):=λcs l st q A env outer Y fr ff μ s IV N F0 ne=>by
 refine Q7 (hi cs l st (λi s=>Wi ex tg body t cs k i l s) q) ?_;intro i st1 q r1;refine wpAny_For (wpAny_mono (r1 A env Y μ s IV N) (λx s₁ h₁=>wpAny_mono h₁ (λi s₂ h₂=>?_) λU U x=>x.elim) λU U x=>x.elim) (Qv hn);refine Q6k h₂ ?_;intro J μ' ee2 e I' F;subst ee2;exact codeAny_mono (Kp w hh TG B T q Y fr ff F0 ne (e.l N.free) I' (N.ext e) F) λr s' z=>by
  induction r using Except.casesOn with
  | ok x=>exact z.elim
  | error x=>exact Q9g ff z λU q=>q.rp ff
end
end
section
open PySem.Builtin PySem.Builtin.ObjectAttr
variable {W:Wd}
noncomputable def Jg (s1 s2:Str)(x:Expr)(k1 k2:Nat)(q1 q2 q3 q4 q5 q6:Pos):Expr:=.BinOp (.BinOp (.Constant (.str s1) k1 q1) .Add (.Call (.Name "str" q2) [x] [] q3) q4) .Add (.Constant (.str s2) k2 q5) q6
noncomputable def isDone (o:O):Bool:=match o with | .clos f _=>P.beq f D0 | _=>false
noncomputable def Fe (h:Hv)(d:Nat):XH:=λcs l st=>h cs l st λv st=>match v with | .int i=>(match i with | .ofNat n=>Q0 (Nat.beq n d) (X1 st Kw isDone) | .negSucc _=>false) | _=>false
section
variable {X:Xc}{C:Cls}
set_option tactic.hygienic true in
theorem Q9h (w:Wf W){h:Hv}{d:Nat}{s1 s2:Str}{x:Expr}{k1 k2:Nat}{q1 q2 q3 q4 q5 q6:Pos}(hx:SE W C h (eval x))(sl:Z5 x=true)(hb:J9 W "str" (.type "str")=true)(kb:∀ A env,C A env->env.kindOf ("str":Str)=some .globalImplicit)
  (hd:(d:Int).natAbs.log2<1920)(hm:s1++(Str.ofString (toString (d:Int)))++s2=X.m)(z1:s1.length+(Str.ofString (toString (d:Int))).length<=sizeLine)(z2:(s1++(Str.ofString (toString (d:Int)))).length+s2.length<=sizeLine){cs:Q4}{l:Loc}{st:St}(q:Fe h d cs l st=true) :
  ∃ st',(∃ cs',st'.t.get Kw=some (.clos D0 cs'))/\∀ A env,C A env->∀ μ s,Inv W μ st s->EnvR W μ s env cs l->Run W A μ s (eval (Jg s1 s2 x k1 k2 q1 q2 q3 q4 q5 q6) env) λμ' s' y=>Inv W μ' st' s'/\∃ tk,y=.str X.m tk:=by
 obtain ⟨v,st1,q,r1⟩:=hx cs l st _ q
 induction v using V.casesOn <;> first | exact ff q | (cases q;done) | skip
 rename_i i
 induction i using Int.casesOn <;> first | exact ff q | (cases q;done) | skip
 rename_i n;refine byC λζ=>?_;refine Q6 (Q1 q) ?_;intro q qd;rw [Z8.mp q] at r1;refine Q3 (B0 qd) ?_;intro o ho qd;refine ζ ?_;have dn:∃ cs',st1.t.get Kw=some (.clos D0 cs'):=by
  induction o using O.casesOn <;> first | exact ff qd | (cases qd;done) | skip
  rename_i f cs';rw [P.beq_of (show P.beq f D0=true from qd)] at ho;exact ⟨cs',ho⟩
 refine ⟨st1,dn,λA env Y μ s I N=>?_⟩;refine wpAny_BinOp (wpAny_BinOp (wpAny_Constant_str (wpAny_Call_Name_kw (B6 w (I.toks (s.toks+1)) (N.ext (.toks ..)) hb (kb A env Y) (by decide) ?_))))
 show wpAny _ _ (PySem.callWith q3 (.type "str") [] (backTo q3 (starEach [x] env)) []) _ _ _
 rw [Z4 sl];refine PySem.callWith_type rfl (evalArgs_plain (spliced_cons ((r1 A env Y μ _ (I.toks _) (N.ext (.toks ..))).step λμ' s' y e z=>spliced_nil ?_)));obtain ⟨z,r⟩:=z
 induction r using VR.intE
 refine P.str_of_int hd ?_;refine SB.add (λt' k=>wpAny_Constant_str (SB.add (λt'' k'=>?_) z2)) z1;exact ⟨μ',(Ext.toks ..).trans (e.trans (.toks ..)),z.toks _,t'',by rw [<-hm];rfl⟩
theorem Lx {h base:Heap}:∀ {l:List Env},(∀ env∈l,env.scope.kind=.function/\env.frame=some env.locals/\base.get? env.locals=none/\∃ m,h.Ns env.locals m)->h.FunFrames base l
 | [],_=>trivial
 | env :: r,H=>by
  obtain ⟨a,b,c,m,o,es,ep,ho,hd,_⟩:=H env (.head _);exact ⟨by rw [a];simp,⟨_,o,b,c,ho,λvs q=>by rw [hd] at q;cases q⟩,Lx λe he=>H e (.tail _ he)⟩
theorem Q4t {μ:Mp}{st:St}{s:Shared}(I:Inv W μ st s)(hd:W.nest D0=none)(h:∃ cs',st.t.get Kw=some (.clos D0 cs')):∃ vs,s.heap.get? W.tp=some (tabObj vs):=by
 refine byC λζ=>?_;refine J2 h ?_;intro cs' h;refine Q7 (I.objs _ _ h) ?_;intro a d m r;refine ζ ?_;cases r with
 | clos ho hn=>rw [hd] at hn;exact nS hn
 | done hP ha=>rw [<-ha];exact hP
theorem Q4u {p:P}{kM:Nat}{msg:Str}{μ:Mp}{st:St}{s₀ s₁:Shared}{h₂:Heap}{s₃:Shared}{e t d:Addr}{tk:Tok}{l pl:List Env}(F:FF W μ s₁ l)(I:Inv W μ st s₁)(a:Aft W pl s₀ s₁)
  (mk:∀ b o,s₁.heap.get? b=some o->h₂.get? b=some o)(hn:s₁.heap.get? e=none)(he:h₂.get? e=some (N0 (W.fa p) t none))(T:Told (W.fa p) (W.tab kM) (.str msg tk) e t d { s₁ with heap:=h₂ } s₃)(hT:∃ vs,s₁.heap.get? W.tp=some (tabObj vs)) :
  RP W ⟨W.fa p,W.tab kM,msg⟩ l pl s₀ (.ref e) s₃:=by
 have keep:∀ b o,s₁.heap.get? b=some o->s₃.heap.get? b=some o:=λb o q=>T.keep b o (λz=>by rw [z,hn] at q;exact nS q) (mk b o q);have hf:∀ {b},b∈(e :: l.map (·.locals))->b≠e->∃ env∈l,env.frame=some b:=λhb ne=>by
  rcases List.mem_cons.mp hb with rfl | hb
  ·exact absurd rfl ne
  ·refine Q3 (List.mem_map.mp hb) ?_;intro env he ee2;subst ee2
   exact ⟨env,he,(F env he).2.1⟩
 have dl:∀ env∈l,d≠env.locals:=λenv he z=>by
  refine J2 ((F env he).2.2.2.1) ?_;intro m zz1;obtain ⟨o,_,_,ho,_⟩:=zz1;have:=mk _ _ ho;rw [<-z,show h₂.get? d=none from T.new] at this;exact nS this
 have de:d≠e:=λz=>by have:=T.new;rw [z] at this;rw [show h₂.get? e=none from this] at he;exact nS he
 have stay:∀ {b o},s₃.heap.get? b=some o->b ∉ (e :: l.map (·.locals))->(hideAll s₃.heap (e :: l.map (·.locals))).get? b=some o:=λhb hn=>hideAll_get _ hb hn;refine J2 hT ?_;intro tvs hT;have tpn:W.tp ∉ e :: l.map (·.locals):=λhm=>by
  rcases List.mem_cons.mp hm with z | hm
  ·rw [z,hn] at hT;exact nS hT
  ·refine Q3 (List.mem_map.mp hm) ?_;intro env he' z
   refine J2 ((F env he').2.2.2.1) ?_;intro m zz1;obtain ⟨o,es,ep,ho,hd,_⟩:=zz1;have z:env.locals=W.tp:=z;rw [z,hT] at ho;induction ho using J8;cases hd
 refine ⟨e,d,hideAll s₃.heap (e :: l.map (·.locals)),rfl,⟨λb o q=>of_hideAll _ q,hideAll_none _ (.head _),Lx λenv he'=>?_,.inl ⟨_,_,T.obj,⟨rfl,rfl⟩,rfl,rfl⟩⟩,⟨λb o q=>?_,tvs,stay (keep _ _ hT) tpn⟩,⟨tk,?_⟩,λb hb=>?_,λenv he' m z=>?_,?_⟩
 ·refine X0_5 (F env he') ?_;intro x1 x2 x3 zz3 x5;obtain ⟨m,o,es,ep,ho,r⟩:=zz3
  exact ⟨x1,x2,hideAll_none _ (.tail _ (List.mem_map_of_mem he')),m,o,es,ep,keep _ _ ho,r⟩
 ·have q1:=I.keep b o q
  refine stay (keep b o q1) λhm=>?_
  rcases List.mem_cons.mp hm with rfl | hm
  ·rw [hn] at q1;exact nS q1
  ·refine Q3 (List.mem_map.mp hm) ?_;intro env he' ee2;subst ee2
   rw [(F env he').2.2.1] at q;exact nS q
 ·obtain ⟨n',hsh,tk',hd⟩:=T.msg
  refine ⟨n',hsh,tk',stay hd λhm=>?_⟩
  rcases List.mem_cons.mp hm with z | hm
  ·exact de z
  ·refine Q3 (List.mem_map.mp hm) ?_;intro env he' z
   exact dl env he' z.symm
 ·have h1:=a.live b hb
  cases q:s₁.heap.get? b with
  | none=>exact absurd q h1
  | some o =>
   have ne:b≠e:=λz=>by rw [z,hn] at q;exact nS q
   by_cases hm:b∈(e :: l.map (·.locals))
   ·exact .inr (hf hm ne)
   ·exact .inl (Z1 (stay (keep b o q) hm))
 ·obtain ⟨o,es,ep,ho,r⟩:=a.ns env he' m z
  exact ⟨o,es,ep,keep _ _ ho,r⟩
 ·rw [T.rest,a.rest]
end
end
section
open PySem.Builtin PySem.Builtin.ObjectAttr
variable {W:Wd}
theorem Q4v (w:Wf W){C:Cls}{p pI:P}{kM n:Nat}{msg:Str}(XO:XcOk W p pI kM)(ro:∀ A env,C A env->Ro A (n+1)){h:Hv}{d:Nat}{s1 s2 x:Str}{ex:Expr}{k1 k2:Nat}{q1 q2 q3 q4 q5 q6 np cpos pos:Pos}
  (hx:SE W C h (eval ex))(sl:Z5 ex=true)(hb:J9 W "str" (.type "str")=true)(kb:∀ A env,C A env->env.kindOf ("str":Str)=some .globalImplicit)
  (hd:(d:Int).natAbs.log2<1920)(hm:s1++(Str.ofString (toString (d:Int)))++s2=msg)(z1:s1.length+(Str.ofString (toString (d:Int))).length<=sizeLine)(z2:(s1++(Str.ofString (toString (d:Int)))).length+s2.length<=sizeLine)
  (hf:∀ cs l st,TE W C cs l st (eval (.Name x np)) (.fn p) st)(hdn:W.nest D0=none) :
  XS W ⟨W.fa p,W.tab kM,msg⟩ C (Fe h d) (exec (.Raise (some (.Call (.Name x np) [Jg s1 s2 ex k1 k2 q1 q2 q3 q4 q5 q6] [] cpos)) none pos)):=λcs l st q A env outer Y fr ff μ s I N F ne=>by
 refine byC λζ=>?_;refine Q3 (Q9h (X:=⟨W.fa p,W.tab kM,msg⟩) (k1:=k1) (k2:=k2) (q1:=q1) (q2:=q2) (q3:=q3) (q4:=q4) (q5:=q5) (q6:=q6) w hx sl hb kb hd hm z1 z2 q) ?_;intro st1 dn r1;obtain ⟨nm,qn,Ns,bs,bm,hdct,sn,sub,ab,col,dd,c0,c1,c2,c3,c5,mN,oI,hC,hn,hi,T,hbase,hfI,hfc⟩:=XO.obj;have RO:=ro A env Y;refine ζ ?_;rw [arm_exec_Raise];dsimp only [Option.map];refine wpAny_bind (wpAny_standAt (Q4j (C:=W.fa p) (nm:=nm) (q:=qn) (N:=Ns) (bs:=bs) (bm:=bm) (hdct:=hdct) (sn:=sn) (sub:=sub) (ab:=ab) (col:=col) (dd:=dd) (k0:=c0) (k1:=c1) (k2:=c2) (k3:=c3) (k5:=c5) hbase RO.handled ?_));refine wpAny_bind (wpAny_mono (Q:=λv s₁=>∃ e t' dx,v=.ref e/\s₁.heap.get? (W.fa p)=some (excClassObj nm qn (W.fa p) Ns bs bm hdct sn sub ab col dd c0 c1 c2 c3 c5 "Exception.__new__") /\
  s₁.heap.get? e=some (N0 (W.fa p) t' dx)/\RP W ⟨W.fa p,W.tab kM,msg⟩ (env :: outer) outer s (.ref e) s₁) ?_ (λv s₃ h₃=>wpAny_bind (wpAny_standAt (wpAny_pure h₃))) λU U x=>x)
 refine wpAny_Call_ofName ((hf cs l st A env Y μ s I N).stepX λμ1 s₁ f e1 y1=>?_);refine Q6 y1 ?_;intro I1 y1
 induction y1 using VR.fnE
 unfold PySem.callWith;have hp:(backTo cpos (starEach [Jg s1 s2 ex k1 k2 q1 q2 q3 q4 q5 q6] env)).any (·.1)=false:=by rw [Z4 rfl];rfl
 refine wpAny_bind (wpAny_holding ?_)
 show wpAny _ _ (evalArgs _ _ (backTo cpos (starEach [Jg s1 s2 ex k1 k2 q1 q2 q3 q4 q5 q6] env)) []) _ _ _
 rw [Z4 rfl];refine evalArgs_plain (spliced_cons ((r1 A env Y μ1 s₁ I1 (N.ext e1)).stepX λμ2 s₂ y e2 y2=>spliced_nil (wpAny_bind (wpAny_standAt ?_))));obtain ⟨I2,tk,rfl⟩:=y2;have K:=I2.K w;simp only [Z4 (show Z5 (Jg s1 s2 ex k1 k2 q1 q2 q3 q4 q5 q6)=true from rfl)] at hp;simp only [hp];have R':Rp (A.under (.builtin "type.__call__" ⟨.ref (W.fa p) :: [.str msg tk],[]⟩)) n:=Tu RO
 obtain ⟨hh,g,dr,tk2,os⟩:=s₂;have kC:=I2.keep _ _ hC;refine wpAny_bind (wpAny_keeperOf_exc kC ?_);refine wpAny_bind (Q9a (T.keeps I2.keep) kC (hn.keeps I2.keep) hi (I2.keep _ _ hfI) hfc (λh' e hm=>?_) (by rw [sizeLine_eq];simp));refine K0 hm.there ?_;intro t ht htn htt;refine wpAny_mono (Q9b w XO (v:=.str msg tk) R'.room (λa o q=>hm.keeps _ _ (K a o q)) ((I2.nolimit w).keeps hm.keeps) ht (Q:=λr s'=>r=.none/\∃ dx,Told (W.fa p) (W.tab kM) (.str msg tk) e t dx ⟨h',g,dr,tk2,os⟩ s') λs' dx TT=>⟨rfl,dx,TT⟩) (λr s' z=>⟨z.1,?_⟩) λU U z=>z.elim;obtain ⟨_,dx,TT⟩:=z;refine wpAny_bind (wpAny_holding (wpAny_point (wpAny_pure ?_)));refine byC λζ=>?_;refine Q6 (Yc F (e1.trans e2) I2) ?_;intro F2 a2;refine Q6 (Yc (Gf F N ff) (e1.trans e2) I2) ?_;intro F3 _;refine ζ ?_;exact I3_4 e t (some dx) rfl (TT.keep _ _ (λz=>by rw [z] at kC;rw [hm.new] at kC;exact nS kC) (hm.keeps _ _ kC)) TT.obj (Q4u F3 I2 a2 hm.keeps hm.new ht TT (Q4t I2 hdn dn))
end
section
open PySem.Builtin PySem.Builtin.ObjectAttr
variable {W:Wd}
theorem Q4w {prog:Program}{w:World}{A:Around}{s:Shared}{R:Result->Shared->Prop}{a:Addr}{o:Obj}{fd:FuncData}{body:List Stmt}{args:Args}{binds:List (Str × Value)}
  (hroom:A.depth<recursionLimit)(ho:s.heap.get? a=some o)(hdata:o.data=.func fd)(hlim:s.heap.NoLimit)(hcd:s.heap.CodeRec fd.code fd.qualname)
  (hbody:fd.body=.stmts body)(hbind:∀ {M:Model}{A:Around}{E:Value->Shared->Prop}{Q:List (Str × Value)->Shared->Prop},Q binds s->wpAny M A (bindArgs fd args) Q E s)(hclo:fd.closure=[])
  (hkind:∀ x∈binds,fd.scope.names.lookup x.1=some .local\/(fd.scope.names.lookup x.1=some .cell/\((cellsFrom (s.heap.objs.size+1) fd.scope.names []).lookup x.1).isSome=true))
  (h:∀ s₁,InCallC s (callEnvC fd s.heap.objs.size a).locals (bindL (callEnvC fd s.heap.objs.size a).kindOf binds λU=>none) (callEnvC fd s.heap.objs.size a).cells
    (bindC (callEnvC fd s.heap.objs.size a).kindOf binds λU=>none) s₁ ->
   wpAny (model prog w) (A.deeper (callEnvC fd s.heap.objs.size a)) (execs body (callEnvC fd s.heap.objs.size a)) (λf s'=>R (.ok (.ret (match f with | .ret v=>v | _=>.none))) s')
    (λe s'=>wpAny (model prog w) (A.deeper (callEnvC fd s.heap.objs.size a)) (leaving (callEnvC fd s.heap.objs.size a) e) (λU s''=>R (.error e) s'') (λe' s''=>R (.error e') s'') s') s₁)
  (hco:fd.scope.isCoroutine=false)(hgen:fd.scope.isGenerator=false)(hk:fd.scope.kind=.function) :
  codeAny (model prog w) A (.call (.ref a) args) R s:=by
 refine codeAny_call_function hroom ho hdata hco hgen hbody hcd (hbind ?_);rw [hclo];refine wpAny_newFunctionEnv_cells hk hkind λenv he s' x=>?_;subst he;exact ⟨hlim.keeps x.toInCall.keep,codeAny_func (h s' x)⟩
theorem Wj (w:Wf W){p:P}{ps:List (Bool × Nat)}{ds:List V}{cl:List Nat}{bd:List S}{fd:FuncData}{body:List Stmt}{dv:List Value}(FO:FnOk W p ⟨ps,ds,cl,bd⟩ fd body dv){n:Nat}{vs:List V}{st:St}{k:Q4->Loc->St->R}
  (h:F9 [] [] st ps vs ds (λcs l s=>C3 cs s cl λcs s=>k cs l s)=true) :
  ∃ cs2 l1 st2,k cs2 l1 st2=true/\∀ {A:Around}{μ:Mp}{s:Shared}{xs:List Value}{RR:Result->Shared->Prop},Rp A n->Inv W μ st s->VRs W μ vs xs ->
   (∀ s₁ μ2,s.heap.get? (callEnvC fd s.heap.objs.size (W.fa p)).locals=none->ExtL (callEnvC fd s.heap.objs.size (W.fa p)).locals μ s μ2 s₁->Inv W μ2 st2 s₁->EnvR W μ2 s₁ (callEnvC fd s.heap.objs.size (W.fa p)) cs2 l1 ->
    Fc n fd.scope fd.code (A.deeper (callEnvC fd s.heap.objs.size (W.fa p))) (callEnvC fd s.heap.objs.size (W.fa p)) ->
    wpAny (model W.prog W.w) (A.deeper (callEnvC fd s.heap.objs.size (W.fa p))) (execs body (callEnvC fd s.heap.objs.size (W.fa p))) (λf s'=>RR (.ok (.ret (match f with | .ret v=>v | _=>.none))) s')
     (λe s'=>wpAny (model W.prog W.w) (A.deeper (callEnvC fd s.heap.objs.size (W.fa p))) (leaving (callEnvC fd s.heap.objs.size (W.fa p)) e) (λU s''=>RR (.error e) s'') (λe' s''=>RR (.error e') s'') s') s₁) ->
   codeAny (model W.prog W.w) A (.call (.ref (W.fa p)) ⟨xs,[]⟩) RR s:=by
 refine byC λζ=>?_;refine Xi (M6 h) ?_;intro full cs1 l1 st1 h br fu;refine Q7 (E7 h) ?_;intro cs2 st2 h nc;refine ζ ?_;refine I3_2 cs2 l1 st2 h (λ{A μ s xs RR} ro I rx go=>?_);refine Rb FO.at_ ?_;intro oc od sl hat;have X:=I.K w;have ho:=X _ _ hat;have dr:VRs W μ ds dv:=VRs.noMp FO.dflts;have dl:dv.length=ds.length:=dr.length.symm;have xl:xs.length=vs.length:=rx.length.symm;have fullr:VRs W μ full (xs++dv.drop (dv.length - (ps.length - xs.length))):=by
  rw [fu.eq,dl,xl];exact rx.append dr.drop
 have fl:full.length=ps.length:=by
  exact fu.len
 have kc:∀ m,(m,NameKind.cell)∈fd.scope.names->((cellsFrom (s.heap.objs.size+1) fd.scope.names []).lookup m).isSome=true:=λm hm=>O6 (.inl hm);have pn:(ps.map λx=>W.tab x.2).length=ps.length:=by simp
 refine Q4w (binds:=(ps.map λx=>W.tab x.2).zip (xs++dv.drop (dv.length - (ps.length - xs.length)))) ro.room ho rfl (I.nolimit w) (codeRec_of X FO.code) FO.body
  (λhq=>R3 FO.params FO.nd (by rw [pn,xl];exact fu.le) (by rw [pn];exact FO.dle) (by rw [pn,dl,xl];exact fu.dle) (FO.dwp X) (by rw [pn];exact hq)) FO.clo (λb hb=>?_) (λs₁ IC=>?_) FO.co FO.gen FO.kind
 ·have hm:=(List.of_mem_zip hb).1
  refine Q3 (List.mem_map.mp hm) ?_;intro x hx e;have:=FO.kinds x hx;rw [e] at this;cases q:x.1 with
  | true=>rw [q] at this;exact .inr ⟨by simpa using this,kc _ (mem_of_lookup (by simpa using this))⟩
  | false=>rw [q] at this;exact .inl (by simpa using this)
 ·have H0:Half W μ s (callEnvC fd s.heap.objs.size (W.fa p)) (bindL (callEnvC fd s.heap.objs.size (W.fa p)).kindOf ((ps.map λx=>W.tab x.2).zip (xs++dv.drop (dv.length - (ps.length - xs.length)))) λU=>none) s₁ [] [] st [] μ:=by
   refine Jp IC.toInCall.same ?_;intro h₁ tk e;have kp:=IC.toInCall.keep;subst e;exact ⟨.kept kp,I.kept kp,λp a d e=>.inl e,λk p e=>(by cases e),λk v e=>(by cases e)⟩
  have pv:=Q2a (W:=W) (env:=callEnvC fd s.heap.objs.size (W.fa p)) (kd:=(callEnvC fd s.heap.objs.size (W.fa p)).kindOf) (m:=λU=>none) (c:=λU=>none) fullr fl FO.nd FO.kinds λx hx e=>kc _ (mem_of_lookup (by have:=FO.kinds x hx;rw [e] at this;simpa using this));refine byC λζ=>?_;refine Ui (List.nodup_append.mp FO.cnd) ?_;intro cn1 cn2 cn3;refine Q7 (Bc w I IC br pv H0 (by simpa using cn2)) ?_;intro μ1 D1 H1 hDm;refine ζ ?_;have notp:∀ n∈cl,W.tab n ∉ ps.map λx=>W.tab x.2:=λn hn hm=>by
   refine Q3 (List.mem_map.mp hm) ?_;intro x hx e;exact cn3 n hn x.2 (List.mem_map_of_mem hx) (w.inj _ _ e.symm)
  obtain ⟨μ2,D2,H2⟩:=Bd w I IC nc H1 cn1 (λn hn hD=>by
   rcases hDm n hD with z | z
   ·exact cn3 n hn n z rfl
   ·cases z) λn hn=>⟨Option.isSome_iff_exists.mp (kc _ (mem_of_lookup (FO.cells n hn))),E8 (Kc (notp n hn))⟩
  have nL:s.heap.get? (callEnvC fd s.heap.objs.size (W.fa p)).locals=none:=Heap.get?_none_of_le IC.toInCall.fresh;have fμ:G9 μ (callEnvC fd s.heap.objs.size (W.fa p)).locals:=D4 I nL;have f2:G9 μ2 (callEnvC fd s.heap.objs.size (W.fa p)).locals:=λq a d e=>by
   rcases H2.track q a d e with z | ⟨k,_,z,rfl⟩
   ·exact fμ q a d z
   ·have:=IC.above _ _ (mem_of_lookup z)
    exact ⟨Nat.ne_of_lt this,Nat.ne_of_lt this⟩
  have N:EnvR W μ2 s₁ (callEnvC fd s.heap.objs.size (W.fa p)) cs2 l1:=by
   refine ⟨FO.kind,FO.glob,FO.blt,f2,R2 I nL,⟨_,IC.toInCall.ns,H2.locs⟩,λk q hq U=>H2.cells k q hq,λn hn=>?_⟩
   rcases hn with hn | hn
   ·exact kc n (mem_of_lookup hn)
   ·exact absurd hn (FO.nofree n)
  exact go s₁ μ2 nL (H2.ext.l fμ) H2.inv N ⟨Kd ro,rfl,rfl⟩
noncomputable def xFn (f:Fn)(t:XH)(vs:List V)(s:St):R:=match f with
 | ⟨ps,ds,cl,_⟩=>F9 [] [] s ps vs ds λcs l s=>C3 cs s cl λcs s=>t cs l s
theorem Ss (w:Wf W){X:Xc}{p:P}{fn:Fn}{fd:FuncData}{body:List Stmt}{dv:List Value}(FO:FnOk W p fn fd body dv){n:Nat}{t:XH}(B:XS W X (Fc n fd.scope fd.code) t (execs body)){vs:List V}{st:St}(h:xFn fn t vs st=true):CX W X (n+1) (.fn p) vs st:=by
 obtain ⟨ps,ds,cl,bd⟩:=fn;obtain ⟨cs2,l1,st2,h,r⟩:=Wj w FO (n:=n) (k:=λcs l s=>t cs l s) h;intro A l μ s x xs ro fr I rf rx F
 induction rf using VR.fnE
 refine wpAny_call (r ro.rp I rx λs₁ μ2 nL e I2 N Y=>?_);have ne:∀ o∈l,o.locals≠(callEnvC fd s.heap.objs.size (W.fa p)).locals:=λo ho z=>by
  refine J2 ((F o ho).2.2.2.1) ?_;intro m zz1;obtain ⟨x,_,_,hx,_⟩:=zz1;rw [z,nL] at hx;exact nS hx
 refine Q6 (Zg F e I2 ne) ?_;intro F' a;refine wpAny_mono (B cs2 l1 st2 h _ _ l Y (Around.frames_deeper fr) rfl μ2 s₁ I2 N F' ne) (λU U z=>z.elim) λx s' z=>?_;exact Q4r (Around.frames_deeper fr) rfl nL (RPF.before a z) λs'' q=>q
end
section
open PySem.Builtin PySem.Builtin.ObjectAttr
section
variable {prog:Program}{w:World}{A:Around}{E:Value->Shared->Prop}{s:Shared}{K:Frag}{x C d B:Addr}{ox od:Obj}{name:Str}{v:Value}{expr:Bool}{attr:Option Value}{cd:ClassData}
theorem xc_get {Q:Value->Shared->Prop}(X:K.In s.heap)(I:InstAt s.heap x ox C (some od))(hc:clsIn K C=some cd)(hm:cd.mro=.ref C :: .ref B :: O8)
  (ga:findIn K (.ref C) "__getattribute__"=some (some (.builtin "BaseException.__getattribute__")))(gt:findIn K (.ref C) "__getattr__"=some none)
  (hd:hasDictIn K C=true)(ha:findIn K (.ref C) name=some attr)(hn:noGet K attr=true)(hl:lookIn name od=some (some v))(hh:handedIn v=true)(h:∀ t,Q v { s with toks:=t }) :
  wpAny (model prog w) A (getAttr (.ref x) name expr) Q E s:=by
 obtain ⟨hp,g,dr,t,os⟩:=s;have FB:=PySem.F.attr_Exception;have L0:=I.type (M:=model prog w);have L1:=looks_findIn (M:=model prog w) X ga;have L2:=looks_findIn (M:=model prog w) X gt;have L3:=looks_find (M:=model prog w) X I (findObj_own hd ha hn hl);have sub:Looks (model prog w) hp (isInstance (.ref x) (.type "BaseException")) true:=L0.andThen (looks_mroIn X (by unfold mroIn;rw [hc,Option.bind_some,hm];rfl))
 have hx0:(expr&&onTheHeap (Value.builtin "BaseException.__getattribute__"))=false:=by induction expr using Bool.casesOn <;> rfl
 have hx2:(Value.builtin "BaseException.__getattribute__"==Value.builtin "object.__getattribute__")=false:=by decide +kernel
 have hx1:(onTheHeap (Value.ref C)&&Value.builtin "BaseException.__getattribute__"==Value.builtin "object.__getattribute__")=false:=by rw [hx2];rfl
 unfold getAttr getAttrBy;refine wpAny_bind (wpAny_mkText (wpAny_holding (wpAny_bind (L0.at (wpAny_bind (L1.at ?_))))));dsimp only;rw [hx1];simp only [Bool.false_eq_true,if_false];unfold getAttrByItsOwn hookBefore;refine wpAny_bind ?_;rw [show onTheHeap (Value.ref C)=true from rfl];simp only [if_true];refine L2.at (wpAny_bind (wpAny_attempt (wpAny_holding ?_)));unfold callGetattribute;rw [hx0];simp only [Bool.false_eq_true,if_false];unfold boundAndCalled;refine wpAny_bind (wpAny_of_eq (FB.ga.bind (.ref x)) (wpAny_call (codeAny_call_builtin FB.ga.plain PySem.F.entry_bexc_ga (@check_slot (model prog w) _ _ _ "BaseException.__getattribute__" "BaseException" "__getattribute__" (.ref x) [.str name t] [] _ (by decide +kernel) (by decide +kernel) sub (PySem.F.args_bexc_ga _ _) ?_))))
 unfold Builtin.«object.__getattribute__»;refine wpAny_bind (wpAny_pure (wpAny_bind (wpAny_pure (wpAny_bind (L0.at (wpAny_bind (L3.at ?_)))))));refine wpAny_pure ?_
 show wpAny _ _ (handedOut v) _ _ _
 rw [handedOut_of hh];exact wpAny_pure (h _)
end
end
section
open PySem.Builtin PySem.Builtin.ObjectAttr
variable {W:Wd}
noncomputable def Left (W:Wd)(s s':Shared):Prop:=(∀ b o,W.h₀.get? b=some o->s'.heap.get? b=some o)/\(∃ vs,s'.heap.get? W.tp=some (tabObj vs))/\s'={ s with heap:=s'.heap,toks:=s'.toks,drawn:=s'.drawn }
noncomputable def stN:St:=⟨.nil,.h⟩
theorem Q4x {s':Shared}(k:∀ b o,W.h₀.get? b=some o->s'.heap.get? b=some o):Inv W noMp stN s' :=
 ⟨k,λp a d e=>(by exact nS e),λp o e=>(by rw [show stN.t.get p=none from O4 p] at e;cases e),λp a d e=>(by cases e),λp q a d b e h=>(by first | exact ff h | cases h)⟩
structure XgOk (W:Wd)(p:P)(kM:Nat):Prop where
 ga:findIn W.K (.ref (W.fa p)) "__getattribute__"=some (some (.builtin "BaseException.__getattribute__"))
 gt:findIn W.K (.ref (W.fa p)) "__getattr__"=some none
 hd:hasDictIn W.K (W.fa p)=true
 ha:∃ attr,findIn W.K (.ref (W.fa p)) (W.tab kM)=some attr/\noGet W.K attr=true
structure FlyZ (base:Heap)(l:List Env)(C e d:Addr)(h:Heap):Prop where
 stays:base.StaysIn h
 new:base.get? e=none
 frames:h.FunFrames base l
 exc:S9 h base C e d .none
theorem Su {h h':Heap}{C e d:Addr}{P P':Array Value->Prop}(k:∀ b o,h.get? b=some o->h'.get? b=some o)(hp:∀ vs,P vs->P' vs)(x:Q9c h C e d P):Q9c h' C e d P':=by
 obtain ⟨oe,vs,h1,h2,h3,h4⟩:=x;exact ⟨oe,vs,k _ _ h1,h2,h3,hp _ h4⟩
theorem Ff {h h' base:Heap}{C e d:Addr}{fl:Value}(k:∀ b o,h.get? b=some o->h'.get? b=some o)(x:S9 h base C e d fl):S9 h' base C e d fl :=
 Su k (λvs ⟨T,oT,ts,a1,a2,a3,a4,a5,a6⟩=>⟨T,oT,ts,a1,a2,a3,k _ _ a4,a5,a6⟩) x
theorem Ij (b:Addr):G9 noMp b:=λp a d e=>by cases e
theorem Q9i {h h':Heap}{a:Addr}{m:Str->Option Value}(k:∀ b o,h.get? b=some o->h'.get? b=some o)(x:h.Ns a m):h'.Ns a m:=by
 obtain ⟨o,es,ep,ho,r⟩:=x;exact ⟨o,es,ep,k _ _ ho,r⟩
noncomputable def Q4y (x:Expr)(cn:Str)(n m msg:Str)(ep np q1 q2 q3 q4 q5 hp tp:Pos)(k:Nat):Stmt :=
 .Try [.Expr x ep] [.ExceptHandler (some (.Name cn np)) (some n) [.Return (some (.Compare (.Attribute (.Name n q1) m q2) [.Eq] [.Constant (.str msg) k q3] q4)) q5] hp] [] [] tp
theorem Fg (w:Wf W){C:Cls}{p pI:P}{kM kN:Nat}{cn msg:Str}(XO:XcOk W p pI kM)(XG:XgOk W p kM){x:Expr}{ep np q1 q2 q3 q4 q5 hp tp:Pos}{k:Nat}{cs:Q4}{l:Loc}{st:St}
  (hx:TXE W ⟨W.fa p,W.tab kM,msg⟩ C cs l st (eval x))(hv:R1 x=true)(hc:X5 W (.fn p) cn=true)(ck:∀ A env,C A env->env.kindOf cn=some .globalImplicit)(cd:(cn==("__debug__":Str))=false)
  (nk:∀ A env,C A env->env.kindOf (W.tab kN)=some .local)(nd:(W.tab kN==("__debug__":Str))=false) :
  ∀ A env outer,C A env->A.frames=some (env :: outer)->env.frame=some env.locals->∀ μ s,Inv W μ st s->EnvR W μ s env cs l->FF W μ s outer ->
   wpAny (model W.prog W.w) A (exec (Q4y x cn (W.tab kN) (W.tab kM) msg ep np q1 q2 q3 q4 q5 hp tp k) env) (λf s'=>f=.ret (.bool true)/\Left W s s') Z3 s:=by
 intro A env outer Y fr ff μ s I N F;refine Q3 N.ns ?_;intro m hm _;unfold Q4y;refine wpAny_Try_except (wpAny_execs_cons (wpAny_Expr_any (wpAny_mono (hx A env outer Y fr ff μ s I N F) (λU U z=>z.elim) λv s1 r=>?_) (by unfold interactive;rw [N.kind];rfl) (Gu hv _ _)));refine Ii fr ff r λs2 r2=>?_;refine RPF.go (t:=λx=>setFlight x none) (F':=λbase e d h=>FlyZ base (env :: outer) (W.fa p) e d h) r2 (λU U U U U z=>z) (λU U U f k=>Zf (fr:=none) f.stays f.frames f.exc λh₂ b1 b2 b3 b4=>k h₂ ⟨b1,f.new,b2,b3⟩ b4) λs3 r3=>?_;refine byC λζ=>?_;obtain ⟨e,d,base,rfl,Z,⟨hb0,tvs,hT⟩,⟨tk,hmsg⟩,_,h6,h7⟩:=r3;have k3:∀ b o,W.h₀.get? b=some o->s3.heap.get? b=some o:=λb o q=>Z.stays b o (hb0 b o q);have ns3:s3.heap.Ns env.locals m:=h6 env (.head _) m hm;refine Y0 XO.cls ?_;intro cdt B hcl hmro hdict;obtain ⟨nm,qn,Ns,bs,bm,hdct,sn,sub,ab,col,dd,c0,c1,c2,c3,c5,mN,oI,hC,hn,hi,T,hbase,hfI,hfc⟩:=XO.obj;have bL:base.get? env.locals=none:=by obtain ⟨_,⟨L,oL,e1,e2,_⟩,_⟩:=Z.frames;rw [ff] at e1;induction e1 using J8;exact e2
 refine ζ ?_;refine wpAny_handleBy_cons (codeAny_handlers_test ?_) (by intro q;cases q);have G:=Uy (pos:=np) (cs:=[]) (l:=[]) (st:=stN) (C:=λU e'=>e'=env) w hc (λA' env' q=>by rw [q];exact ck A env Y) cd (A.mark (some (.ref e))) env rfl noMp s3 (Q4x k3)
  ⟨N.kind,N.glob,N.blt,Ij _,N.new,⟨m,ns3,λk v q=>by cases q⟩,λk p q=>(by first | exact ff q | cases q),N.full⟩
 refine G.stepX λμ4 s4 c e4 y4=>?_;refine byC λζ=>?_;refine Q6 y4 ?_;intro _ y4
 induction y4 using VR.fnE
 have k4:∀ b o,s3.heap.get? b=some o->s4.heap.get? b=some o:=λb o q=>e4.keep b o q (Ij b);have z4:s4={ s with heap:=s4.heap,toks:=s4.toks,drawn:=s4.drawn }:=by rw [e4.rest,h7]
 have ns4:=Q9i k4 ns3;have x4:=Ff k4 Z.exc;have f4:s4.heap.FunFrames base (env :: outer):=Z.frames.of_keeps λb o hb U=>⟨o,k4 b o hb,rfl⟩;have st4:base.StaysIn s4.heap:=λb o q=>k4 _ _ (Z.stays b o q);obtain ⟨oe,vs,he,⟨hecl,hed⟩,hdt,_⟩:=id x4;obtain ⟨hh,g,dr,tk4,os⟩:=s4;refine ζ ?_;refine wpAny_excMatches_sub_self (k4 _ _ (k3 _ _ hC)) he hecl hbase ?_;refine codeAny_handlers_suite_as ?_;refine Zf (s:=⟨hh,g,dr,tk4,os⟩) (fr:=none) st4 f4 x4 λh5 a1 a2 a3 a4=>?_;have ns5:=a4.ns ns4;have cl:((env.scope.kind==.class||(env.scope.kind==.module&&env.locals !=env.globals))=false):=by rw [N.kind];rfl
 refine wpAny_storeName_local (nk A env Y) ns5 (λh6 ns6 sb6=>?_) cl;refine byC λζ=>?_;obtain ⟨oe5,vs5,he5,⟨hecl5,hed5⟩,hdt5,_⟩:=id a3;obtain ⟨n',hsh,tkk,hmd⟩:=hmsg;refine ζ ?_;have eL:e≠env.locals:=λq=>by
  obtain ⟨oL,esL,epL,hL,hLd,_⟩:=ns5;rw [<-q] at hL;rw [show h5.get? e=some oe5 from he5] at hL;induction hL using J8;rw [hdt5] at hLd;cases hLd
 have dL:d≠env.locals:=λq=>by rw [q,bL] at hmd;exact nS hmd
 have tL:W.tp≠env.locals:=λq=>by rw [q,bL] at hT;exact nS hT
 have he6:h6.get? e=some oe5:=(sb6.2 e eL).trans he5;have hd6:h6.get? d=some (dictOf (putL (W.tab kM) hsh (.str (W.tab kM) tkk) (.str msg tk) []) n'):=(sb6.2 d dL).trans (a1 _ _ hmd);have k6:∀ b o,W.h₀.get? b=some o->h6.get? b=some o:=λb o q=>(sb6.2 b (λz=>by rw [z,N.new] at q;exact nS q)).trans (a1 _ _ (hb0 _ _ q));refine Q3 XG.ha ?_;intro attr ha1 ha2;refine wpAny_execs_cons (wpAny_Return_some (wpAny_Compare1 (Attribute_any_ (wpAny_Name (wpAny_loadName_local N.kind (nk A env Y) ns6 (if_pos rfl) ?_) nd) (by rw [arm_eval_Attribute,H3 rfl])) rfl));refine xc_get (od:=dictOf (putL (W.tab kM) hsh (.str (W.tab kM) tkk) (.str msg tk) []) n') (λa o q=>k6 _ _ (w.kin a o q)) ⟨he6,hecl5,by unfold notCls;rw [hdt5],by rw [hed5];exact hd6⟩ hcl hmro XG.ga XG.gt XG.hd ha1 ha2
  (show lookIn (W.tab kM) (dictOf _ _)=some (some (.str msg tk)) from (Qt (λe he=>by cases he)).trans (if_pos rfl)) rfl λt'=>?_
 refine wpAny_Constant_str (PyProof.Rows.eq_str ?_);rw [beq_self_eq_true];refine wpAny_nameGoes (nk A env Y) ns6 cl λh7' m7 ns7 sb7=>⟨rfl,λb o q=>?_,⟨tvs,(sb7.2 _ tL).trans ((sb6.2 _ tL).trans (a1 _ _ hT))⟩,?_⟩
 ·exact (sb7.2 b (λz=>by rw [z,N.new] at q;exact nS q)).trans (k6 _ _ q)
 ·simp only [Shared.mk.injEq] at z4 ⊢
  simp [z4]
end
section
variable {W:Wd}
inductive Pl where | raise (e:E) | call | arg | iff (p:Pl) | forr (k:Nat)(p:Pl) | skip (p:Pl)
abbrev XV:=V->List V->St->R
structure Rz where
 cn:Nat
 s1:Nat
 s2:Nat
 d:Nat
noncomputable def Zp (ev:Ev)(xv:XV)(f:E)(es:List E):XH:=λcs l st=>ev f cs l st λv s=>evL ev es cs l s λvs s=>xv v vs s
noncomputable def xNo:XH:=λU U U=>false
noncomputable def xPl (ev:Ev)(ex:Ex)(xv:XV)(d:Nat)(pl:Pl)(b:List S):XH:=match pl with
 | .skip p=>(match b with | []=>xNo | s :: r=>xSeq (ex s) (xPl ev ex xv d p r))
 | .iff p=>(match b with | []=>xNo | s :: _=>(match s with | .ite c a _=>xIf (ev c) (xPl ev ex xv d p a) | _=>xNo))
 | .forr k p=>(match b with | []=>xNo | s :: _=>(match s with | .for_ rng it tg body=>xFor (ev it) rng ex tg body (xPl ev ex xv d p body) k | _=>xNo))
 | .raise e=>Fe (ev e) d
 | .call=>(match b with | []=>xNo | s :: _=>(match s with | .ex e=>(match e with | .call f es=>Zp ev xv f es | _=>xNo) | .ret e=>(match e with | .call f es=>Zp ev xv f es | _=>xNo) | _=>xNo))
 | .arg=>(match b with | []=>xNo | s :: _=>(match s with | .ret e=>(match e with | .call g as=>(match as with | []=>xNo | a :: _=>(match a with | .call f es=>λcs l st=>ev g cs l st λU s=>Zp ev xv f es cs l s | _=>xNo)) | _=>xNo) | _=>xNo))
section
variable (T:Kt)(z:Rz)(c:Ck)(cs:S->Stmt->Bool)(nm:Nm)
noncomputable def neL (es:List E):Bool:=match es with | []=>false | _ :: _=>true
noncomputable def Q9j (f:E)(es:List E)(x:Expr):Bool:=Vi x λg xs U=>Q0 (Ng g) (Q0 (c nm f g) (Q0 (Yz c nm es xs) (neL es)))
noncomputable def ckXe (e:E)(x:Expr):Bool:=Ej e λf es=>Q9j c nm f es x
noncomputable def ckXa (g a:E)(y:Stmt):Bool:=R7 y λv U=>C5 v λv=>Vi v λh xs U=>G7 xs λx U=>Q0 (Ng h) (Q0 (c nm g h) (Q0 (Z5 x) (ckXe c nm a x)))
noncomputable def ckRz (e:E)(y:Stmt):Bool:=Q2t y λv ca U=>Bx ca (C5 v λv=>Lm v λcn a=>M4 cn λx U=>Bw a λl o2 r U=>W8 r λs2 U U=>Lj s2 λs2=>Bw l λl o1 r U=>W8 l λs1 U U=>Lj s1 λs1=>Lm r λsn v=>M4 sn λsn U =>
  Q0 (Nat.beq 0 o1.ctorIdx) (Q0 (Nat.beq 0 o2.ctorIdx) (Q0 (kNm T z.cn x) (Q0 (Vh (D6 nm x)) (Q0 (kNm T z.s1 s1) (Q0 (kNm T z.s2 s2) (Q0 (eqS sn "str") (Q0 (Vh (D6 nm "str")) (Q0 (Z5 v) (c nm e v))))))))))
noncomputable def Q4z (pl:Pl)(b:List S)(ys:List Stmt):Bool:=match pl with
 | .skip p=>G7 ys λy ys=>G7 b λs r=>Q0 (cs s y) (Q4z p r ys)
 | .iff p=>G7 ys λy U=>G7 b λs U=>vSite s λe a U=>vIf y λx bs U U=>Q0 (c nm e x) (Q4z p a bs)
 | .forr _ p=>G7 ys λy U=>G7 b λs U=>Q3g s λrng it tg body=>vFor y λt iter bs oe U=>Qa oe (Q0 (Q3k T c nm rng it iter) (Q0 (K5 iter) (Q0 (Q3m T nm tg t) (Q0 (Db cs body bs) (Q4z p body bs)))))
 | .raise e=>G7 ys λy U=>ckRz T z c nm e y
 | .call=>G7 ys λy U=>G7 b λs U=>match s with
  | .ex e=>Nc y λx U=>ckXe c nm e x
  | .ret e=>R7 y λv U=>C5 v λx=>ckXe c nm e x
  | _=>false
 | .arg=>G7 ys λy U=>G7 b λs U=>vSret s λe=>Ej e λg as=>G7 as λa U=>ckXa c nm g a y
end
structure RzOk (W:Wd)(T:Kt)(z:Rz)(p pI:P)(kM:Nat)(msg:Str):Prop where
 xo:XcOk W p pI kM
 glob:X5 W (.fn p) (T.tab z.cn)=true
 dn:W.nest D0=none
 str:J9 W "str" (.type "str")=true
 log:(z.d:Int).natAbs.log2<1920
 msg:T.tab z.s1++(Str.ofString (toString (z.d:Int)))++T.tab z.s2=msg
 z1:(T.tab z.s1).length+(Str.ofString (toString (z.d:Int))).length<=sizeLine
 z2:(T.tab z.s1++(Str.ofString (toString (z.d:Int)))).length+(T.tab z.s2).length<=sizeLine
section
variable {g:G}{kx:Kx}{ca:G6}{T:Kt}{z:Rz}{p pI:P}{kM:Nat}{msg:Str}
theorem Jh (w:Wf W){X:Xc}{N m n:Nat}{nm:Nm}{C:Cls}{xv:XV}(HX:∀ e x,K8 T m nm e x=true->SEB W C (evN g kx ca n e) x)(G:Good C nm N)
  (XV1:∀ {f vs st},xv f vs st=true->CX W X N f vs st/\∃ q,f=.fn q/\keepIn W.K (.ref (W.fa q))=true){f:E}{es:List E}{x:Expr}(h:Q9j (K8 T m) nm f es x=true):XE W X C (Zp (evN g kx ca n) xv f es) (eval x):=λcs l st q=>by
 revert x;refine @O7 _ _ λg' xs pos h=>?_;have h3:=Q5 (Q2 (Q2 h));have h4:=Q2 (Q2 (Q2 h));refine Jp (Zc (Q5 h)) ?_;intro nn pp ee2;subst ee2;have ne:es≠[]:=by induction es using List.casesOn <;> first | exact ff h4 | (cases h4;done) | (intro q;cases q)
 have SS:=Qe (ev:=evN g kx ca n) (W:=W) (C:=C) (λe x z=>(HX e x z).1) h3;refine byC λζ=>?_;obtain ⟨v,st1,q,r1⟩:=(HX f _ (Q5 (Q2 h))).1 cs l st _ q;refine Y0 (SS.run q) ?_;intro vs st2 q _ r2;obtain ⟨K,fq,rfl,hk⟩:=XV1 q;refine ζ ?_;exact Q4q w G.ro hk r1 SS ne r2 K
theorem xpl_of (w:Wf W)(TO:TabOk W g kx)(KO:KtOk W T){N:Nat}(CA:CallOk W (N+1) ca)(RZ:RzOk W T z p pI kM msg){nm:Nm}{C:Cls}(G:Good C nm (N+1)){xv:XV}
  (XV1:∀ {f vs st},xv f vs st=true->CX W ⟨W.fa p,W.tab kM,msg⟩ (N+1) f vs st/\∃ q,f=.fn q/\keepIn W.K (.ref (W.fa q))=true):∀ {pl:Pl}{b:List S}{ys:List Stmt},Q4z T z (K8 T 100) (W0 T (K8 T 100) 100 nm) nm pl b ys=true ->
   XS W ⟨W.fa p,W.tab kM,msg⟩ C (xPl (evN g kx ca 60) (exN (evN g kx ca 60) 60) xv z.d pl b) (execs ys):=by
 have HX:∀ e x,K8 T 100 nm e x=true->SEB W C (evN g kx ca 60 e) x:=λe x h=>M9 w TO KO CA 60 100 nm C e x G h;have HS:∀ s y,W0 T (K8 T 100) 100 nm s y=true->SS W C (exN (evN g kx ca 60) 60 s) (exec y):=λs y h=>X7 (K:=59) w TO KO CA 60 100 100 nm C s y G h;intro pl
 induction pl with
 | skip q ih =>
  intro b ys;revert ys;refine @Z9 _ _ _ λy ys=>?_;revert b;refine @Z9 _ _ _ λs r h=>?_;exact xs_seq (HS s y (Q5 h)) (ih (Q2 h))
 | iff q ih =>
  intro b ys;revert ys;refine @Z9 _ _ _ λy ys=>?_;revert b;refine @Z9 _ _ _ λs r=>?_;revert s;refine @Q3f _ _ λe a a'=>?_;revert y;refine @Q2s _ _ λx bs oe U h=>?_;exact Zh (xs_if (HX e x (Q5 h)).2 (ih (Q2 h)))
 | forr k q ih =>
  intro b ys;revert ys;refine @Z9 _ _ _ λy ys=>?_;revert b;refine @Z9 _ _ _ λs r=>?_;revert s;refine @Si _ _ λrng it tg body=>?_;revert y;refine @Aj _ _ λt iter bs oe U=>?_;revert oe;refine @B3 _ _ _ λh=>?_;have q:=Q2 (Q2 h);exact Zh (xs_for w G.hh (As (ev:=evN g kx ca 60) w G KO (λe x z=>(HX e x z).1) (Q5 h)) (Q5 (Q2 h)) (Ar G KO (Q5 q)) (Np HS (Q5 (Q2 q))) (ih (Q2 (Q2 q))))
 | raise e =>
  intro b ys;revert ys;refine @Z9 _ _ _ λy ys=>?_;revert y;refine @Sd _ _ λv cau U=>?_;revert cau;refine @Qb _ _ _ ?_;revert v;refine @D5 _ _ _ λv=>?_;revert v;refine @C8 _ _ λcn a U=>?_;revert cn;refine @Y8 _ _ λx U=>?_;revert a;refine @Qy _ _ λl o2 r U=>?_;revert r;refine @D7 _ _ λs2 U U=>?_;revert s2;refine @P9 _ _ λs2=>?_;revert l;refine @Qy _ _ λl o1 r U=>?_;revert l;refine @D7 _ _ λs1 U U=>?_;revert s1;refine @P9 _ _ λs1=>?_;revert r;refine @C8 _ _ λsn v U=>?_;revert sn;refine @Y8 _ _ λsn U h=>?_;cases Jb (op:=.add) (Q5 h);cases Jb (op:=.add) (Q5 (Q2 h));replace h:=Q2 (Q2 h);cases J1 (Q5 h);have h2:=Ja (Q5 (Q2 h));replace h:=Q2 (Q2 h);cases J1 (Q5 h);cases J1 (Q5 (Q2 h));replace h:=Q2 (Q2 h);cases J1 (Q5 h);replace h:=Q2 h;exact Zh (Q4v w RZ.xo G.ro (HX e v (Q2 (Q2 h))).1 (Q5 (Q2 h)) RZ.str (G.at (Ja (Q5 h))) RZ.log RZ.msg RZ.z1 RZ.z2 (λcs l st=>Uy w RZ.glob (G.at h2) (KO.dbg _)) RZ.dn)
 | call =>
  intro b ys;revert ys;refine @Z9 _ _ _ λy ys=>?_;revert b;refine @Z9 _ _ _ λs r=>?_
  induction s using S.casesOn with
  | ex e =>
   revert y;refine @Kg _ _ λx U=>?_;revert e;refine @Zb _ _ λf es h=>?_;exact Zh (xs_ex (Jh w HX G XV1 h) (by revert x;refine @O7 _ _ λU U U U=>rfl))
  | ret e =>
   revert y;refine @M8 _ _ λv U=>?_;revert v;refine @D5 _ _ _ λx=>?_;revert e;refine @Zb _ _ λf es h=>?_;exact Zh (Q4s (Jh w HX G XV1 h))
  | _=>exact ff
 | arg =>
  intro b ys;revert ys;refine @Z9 _ _ _ λy ys=>?_;revert b;refine @Z9 _ _ _ λs r=>?_;revert s;refine @Q3e _ _ λe=>?_;revert e;refine @Zb _ _ λgg as=>?_;revert as;refine @Z9 _ _ _ λa as=>?_;revert y;refine @M8 _ _ λv U=>?_;revert v;refine @D5 _ _ _ λv=>?_;revert v;refine @O7 _ _ λhh xs U=>?_;revert xs;refine @Z9 _ _ _ λx xr h=>?_;refine Jp (Zc (Q5 h)) ?_;intro nn pp ee2;subst ee2;have h2:=Q5 (Q2 h);have h3:=Q5 (Q2 (Q2 h));replace h:=Q2 (Q2 (Q2 h));revert a;refine @Zb _ _ λf es h4=>?_;refine Zh (Q4s λcs l st q=>?_);obtain ⟨v,st1,q,r1⟩:=(HX gg _ h2).1 cs l st _ q;exact Q9f r1 h3 (Jh w HX G XV1 h4 cs l st1 q)
abbrev Pls:=List (P × Pl)
noncomputable def Wk (pls:Pls)(p:P)(k:Pl->R):R:=match pls with
 | []=>false
 | x :: r=>(match x with | (q,pl)=>(match P.beq p q with | true=>k pl | false=>Wk r p k))
set_option tactic.hygienic true in
theorem Wm {q:P}{k:Pl->R}:∀ {pls:Pls},Wk pls q k=true->∃ pl,(q,pl)∈pls/\k pl=true
 | (u,pl) :: r,h=>by
  unfold Wk at h;dsimp only at h
  split at h
  ·rename_i e;rw [P.beq_of e];exact Z0 pl (.head _) h
  ·refine Q3 (Wm h) ?_;intro pl' a b;exact Z0 pl' (.tail _ a) b
noncomputable def xV (g:G)(kx:Kx)(caN:Nat->G6)(pls:Pls)(d:Nat):Nat->XV
 | 0=>λU U U=>false
 | k+1=>λf vs st=>match f with
  | .fn q=>Wk pls q λpl=>g.ft.getK q λfn=>xFn fn (xPl (evN g kx (caN (k+1)) 60) (exN (evN g kx (caN (k+1)) 60) 60) (xV g kx caN pls d k) d pl fn.body) vs st
  | _=>false
noncomputable def Q5a (T:Kt)(z:Rz)(K:Frag)(fa:P->Addr)(q:P)(pl:Pl)(fn:Fn):Bool:=match K.lookup (fa q) with
 | some o=>(match o with | ⟨_,_,dt,_⟩=>(match dt with
  | .func fd=>(match fd.body with | .stmts body=>Q4z T z (K8 T 100) (W0 T (K8 T 100) 100 fd.scope.names) fd.scope.names pl fn.body body | _=>false)
  | _=>false))
 | none=>false
structure HeadOk (W:Wd)(g:G)(q:P):Prop where
 at_:∀ fn,g.ft.get q=some fn->∃ fd body dv,FnOk W q fn fd body dv/\keepIn W.K (.ref (W.fa q))=true
theorem Ly {q:P}{fn:Fn}{fd:FuncData}{body:List Stmt}{dv:List Value}(FO:FnOk W q fn fd body dv){o:Obj}(e:W.K.lookup (W.fa q)=some o):o.data=.func fd:=by
 refine Rb FO.at_ ?_;intro oc od sl hat;rw [e] at hat;cases hat;rfl
set_option tactic.hygienic true in
theorem xV_ok (w:Wf W)(TO:TabOk W g kx)(KO:KtOk W T){caN:Nat->G6}(CA:∀ n,CallOk W n (caN n))(RZ:RzOk W T z p pI kM msg){pls:Pls}(HP:∀ q pl,(q,pl)∈pls->HeadOk W g q)
  (CK:∀ q pl fn,(q,pl)∈pls->g.ft.get q=some fn->Q5a T z W.K W.fa q pl fn=true):∀ (k:Nat) {f vs st},xV g kx caN pls z.d k f vs st=true->CX W ⟨W.fa p,W.tab kM,msg⟩ (k+1) f vs st/\∃ q,f=.fn q/\keepIn W.K (.ref (W.fa q))=true
 | 0,f,vs,st,h=>by first | exact ff h | cases h
 | k+1,f,vs,st,h=>by
  induction f using V.casesOn <;> first | exact ff h | (cases h;done) | skip
  rename_i q;refine byC λζ=>?_;refine Q3 (Wm (show Wk pls q _=true from h)) ?_;intro pl hm h;refine Q3 (FT.getK_of h) ?_;intro fn hfn h;refine X3_2 ((HP q pl hm).at_ fn hfn) ?_;intro fd body dv FO kp;have hc:=CK q pl fn hm hfn;unfold Q5a at hc;refine ζ ?_;split at hc
  ·rename_i o ho
   have hd:=Ly FO ho;obtain ⟨oc,od,dt,sl⟩:=o;dsimp only at hd;subst hd;dsimp only at hc;rw [FO.body] at hc;dsimp only at hc;exact ⟨Ss w FO (n:=k+1) (xpl_of w TO KO (N:=k) (CA (k+1)) RZ (Fc.good (k+1) fd.scope fd.code FO.kind) (xV_ok w TO KO CA RZ HP CK k) hc) h,q,rfl,kp⟩
  ·cases hc
end
end
section
variable {W:Wd}
theorem Left.rec {s s₁ s':Shared}(e:s₁={ s with heap:=s₁.heap,toks:=s₁.toks,drawn:=s₁.drawn })(h:Left W s₁ s'):Left W s s':=⟨h.1,h.2.1,by rw [h.2.2,e]⟩
noncomputable def TH (W:Wd)(C:Cls)(cs:Q4)(l:Loc)(st:St)(t:Env->Sem Flow):Prop :=
 ∀ A env outer,C A env->A.frames=some (env :: outer)->env.frame=some env.locals->∀ μ s,Inv W μ st s->EnvR W μ s env cs l->FF W μ s outer->(∀ o∈outer,o.locals≠env.locals) ->
  wpAny (model W.prog W.w) A (t env) (λf s'=>f=.ret (.bool true)/\Left W s s') Z3 s
noncomputable def CT (W:Wd)(n:Nat)(f:V)(vs:List V)(st:St):Prop :=
 ∀ {A:Around}{l:List Env}{μ:Mp}{s:Shared}{x:Value}{xs:List Value},Ro A n->A.frames=some l->Inv W μ st s->VR W μ f x->VRs W μ vs xs->FF W μ s l ->
  wpAny (model W.prog W.w) A (call x xs) (λy s'=>y=.bool true/\Left W s s') Z3 s
section
variable {C:Cls}{cs:Q4}{l:Loc}{st:St}{ev:Ev}{ex:Ex}
theorem th_seq {y:Stmt}{ys:List Stmt}{l1:Loc}{st1:St}(h:TS W C cs l st (exec y) (.next l1) st1)(t:TH W C cs l1 st1 (execs ys)):TH W C cs l st (execs (y :: ys)):=λA env outer Y fr ff μ s I N F ne=>by
 refine wpAny_execs_cons ((h A env Y μ s I N).step λμ' s' y e z=>?_);refine Q6 z ?_;intro z1 z2
 induction z2 using FlR.nextE with
 | next N' =>
  refine Q6 (Zg F e z1 ne) ?_;intro F' a;exact wpAny_mono (t A env outer Y fr ff μ' s' z1 N' F' ne) (λf s'' z=>⟨z.1,z.2.rec e.rest⟩) λU U z=>z
theorem ct_fn (w:Wf W){p:P}{fn:Fn}{fd:FuncData}{body:List Stmt}{dv:List Value}(FO:FnOk W p fn fd body dv){n:Nat}{t:XH}(B:∀ cs l st,t cs l st=true->TH W (Fc n fd.scope fd.code) cs l st (execs body)){vs:List V}{st:St}(h:xFn fn t vs st=true):CT W (n+1) (.fn p) vs st:=by
 obtain ⟨ps,ds,cl,bd⟩:=fn;obtain ⟨cs2,l1,st2,h,r⟩:=Wj w FO (n:=n) (k:=λcs l s=>t cs l s) h;intro A l μ s x xs ro fr I rf rx F
 induction rf using VR.fnE
 refine wpAny_call (codeAny_mono (r (RR:=λr s'=>match r with | .ok (.ret y)=>y=.bool true/\Left W s s' | _=>False) ro.rp I rx λs₁ μ2 nL e I2 N Y=>?_) λr s' z=>?_)
 ·have ne:∀ o∈l,o.locals≠(callEnvC fd s.heap.objs.size (W.fa p)).locals:=λo ho z=>by
   refine J2 ((F o ho).2.2.2.1) ?_;intro m zz1;obtain ⟨x,_,_,hx,_⟩:=zz1;rw [z,nL] at hx;exact nS hx
  refine Q6 (Zg F e I2 ne) ?_;intro F' a;exact wpAny_mono (B cs2 l1 st2 h _ _ l Y (Around.frames_deeper fr) rfl μ2 s₁ I2 N F' ne) (λf s' z=>by refine Q6 z ?_;intro ee0 L;subst ee0;exact ⟨rfl,L.rec e.rest⟩) λU U z=>z.elim
 ·induction r using Except.casesOn with
  | error=>exact z.elim
  | ok fl=>induction fl using PySem.Flow.casesOn <;> first | exact z | exact z.elim
theorem th_ret (w:Wf W){n:Nat}(ro:∀ A env,C A env->Ro A n){es:List E}{xs:List Expr}{id:Str}{p pos rp:Pos}{f:P}{st1 st2:St}{vs:List V}{rest:List Stmt}(hk:keepIn W.K (.ref (W.fa f))=true)
  (hf:TE W C cs l st (eval (.Name id p)) (.fn f) st1)(hs:SEs W C ev es xs)(hl:es≠[])(r:∀ pos,TEs W C cs l st1 (λenv=>spliced (backTo pos (starEach xs env))) vs st2)(K:CT W n (.fn f) vs st2) :
  TH W C cs l st (execs (.Return (some (.Call (.Name id p) xs [] pos)) rp :: rest)):=λA env outer Y fr ff μ s I N F ne=>by
 refine wpAny_execs_cons (wpAny_Return_some (wpAny_Call_Name_kw ((hf A env Y μ s I N).stepX λμ1 s1 x e z=>?_)));refine Q6 z ?_;intro z1 z2
 induction z2 using VR.fnE
 refine callWith_of (P:=λhp=>∃ k,(k=Keeper.frame\/k=Keeper.machine\/k=Keeper.boundFrame)/\Looks (model W.prog W.w) hp (keeperOf (.ref (W.fa f))) k) (by rw [(hs.plain pos).1];rfl) (λU p=>p) ?_;have key:=r pos A env Y μ1 s1 z1 (N.ext e);cases hs with
 | nil=>exact absurd rfl hl
 | cons hs' h t =>
  dsimp only at key;rw [Z4 hs'] at key ⊢;refine evalArgs_plain (key.stepX λμ2 s2 a e2 y=>⟨keeps_K hk _ (y.1.K w),?_⟩);refine Q6 (Yc (Gf F N ff) (e.trans e2) y.1) ?_;intro F' af;exact wpAny_mono (K (ro A env Y) fr y.1 (.fn f) y.2 F') (λv s' z=>by refine Q6 z ?_;intro ee0 L;subst ee0;exact ⟨rfl,(L.rec e2.rest).rec e.rest⟩) λU U z=>z
noncomputable def Oe (ex:Ex)(t:XH)(pre:List S):XH:=match pre with | []=>t | s :: r=>xSeq (ex s) (Oe ex t r)
noncomputable def Uh (cs:S->Stmt->Bool)(last:Stmt->Bool)(pre:List S)(ys:List Stmt):Bool:=match ys with
 | []=>false
 | y :: ys=>(match pre with | []=>last y | s :: r=>Q0 (cs s y) (Uh cs last r ys))
theorem Of {cs:S->Stmt->Bool}{last:Stmt->Bool}{t:XH}(HS:∀ s y,cs s y=true->SS W C (ex s) (exec y))(HL:∀ y ys,last y=true->∀ cs l st,t cs l st=true->TH W C cs l st (execs (y :: ys))) :
  ∀ {pre:List S}{ys:List Stmt},Uh cs last pre ys=true->∀ cs l st,Oe ex t pre cs l st=true->TH W C cs l st (execs ys)
 | _,[],h,_,_,_,_=>by unfold Uh at h;cases h
 | [],y :: ys,h,cs,l,st,q=>HL y ys h cs l st q
 | s :: r,y :: ys,h,c,l,st,q=>by
  refine Q6 (Q1 (show Q0 (cs s y) (Uh cs last r ys)=true from h)) ?_;intro h1 h2;refine Q7 (HS s y h1 c l st _ (show ex s c l st (λf s=>match f with | .next l=>Oe ex t r c l s | _=>false)=true from q)) ?_;intro f st1 q r1
  induction f using F.casesOn <;> first | exact ff q | (cases q;done) | exact th_seq r1 (Of HS HL h2 c _ _ q)
end
section
variable (T:Kt)(z:Rz)(c:Ck)(nm:Nm)
noncomputable def vHand (x:ExceptHandler)(k:Option Expr->Option Str->List Stmt->Bool):Bool:=match x with | .ExceptHandler a b c _=>k a b c
noncomputable def ckEq (y:Stmt)(k:Str->Str->Str->Bool):Bool:=R7 y λv U=>C5 v λv=>P8 v λl os zs U=>W2 os λo=>W2 zs λr=>H6 l λl m U=>M4 l λn U=>W8 r λc U U=>Lj c λs=>Q0 (Nat.beq 0 o.ctorIdx) (k n m s)
noncomputable def Fh (f:E)(es:List E)(kN kM kX:Nat)(y:Stmt):Bool:=vTry y λbs hs oe fs U=>Qa oe (Qa fs (W2 bs λb=>Nc b λx U=>W2 hs λh=>vHand h λt n hb=>C5 t λt=>M4 t λcn U=>C5 n λn=>W2 hb λr=>ckEq r λn2 m msg =>
  Q0 (Q9j c nm f es x) (Q0 (kNm T z.cn cn) (Q0 (Vh (D6 nm cn)) (Q0 (kNm T kN n) (Q0 (By (D6 nm n)) (Q0 (kNm T kN n2) (Q0 (kNm T kM m) (kNm T kX msg)))))))))
noncomputable def Fi (f:E)(es:List E)(y:Stmt):Bool:=R7 y λv U=>C5 v λx=>Q9j c nm f es x
end
section
variable {g:G}{kx:Kx}{ca:G6}{T:Kt}{z:Rz}{p pI:P}{kM kN kX:Nat}
theorem Sv (w:Wf W)(TO:TabOk W g kx)(KO:KtOk W T){N:Nat}(CA:CallOk W (N+1) ca)(RZ:RzOk W T z p pI kM (T.tab kX))(XG:XgOk W p kM){nm:Nm}{C:Cls}(G:Good C nm (N+1)){xv:XV}
  (XV1:∀ {f vs st},xv f vs st=true->CX W ⟨W.fa p,W.tab kM,T.tab kX⟩ (N+1) f vs st/\∃ q,f=.fn q/\keepIn W.K (.ref (W.fa q))=true){f:E}{es:List E}{pre:List S}{ys:List Stmt}
  (h:Uh (W0 T (K8 T 100) 100 nm) (Fh T z (K8 T 100) nm f es kN kM kX) pre ys=true):∀ cs l st,Oe (exN (evN g kx ca 60) 60) (Zp (evN g kx ca 60) xv f es) pre cs l st=true->TH W C cs l st (execs ys):=by
 have HX:∀ e x,K8 T 100 nm e x=true->SEB W C (evN g kx ca 60 e) x:=λe x h=>M9 w TO KO CA 60 100 nm C e x G h;have HS:∀ s y,W0 T (K8 T 100) 100 nm s y=true->SS W C (exN (evN g kx ca 60) 60 s) (exec y):=λs y h=>X7 (K:=59) w TO KO CA 60 100 100 nm C s y G h;refine Of HS (λy ys hy cs l st q=>?_) h;clear h;revert y;refine @Ak _ _ λbs hs oe fs tp=>?_;revert oe;refine @B3 _ _ _ ?_;revert fs;refine @B3 _ _ _ ?_;revert bs;refine @Y5 _ _ _ λb=>?_;revert b;refine @Kg _ _ λx ep=>?_;revert hs;refine @Y5 _ _ _ λhd=>?_;obtain ⟨t,n,hb,hp⟩:=hd;revert t;refine @D5 _ _ _ λt=>?_;revert t;refine @Y8 _ _ λcn np=>?_;revert n;refine @D5 _ _ _ λn=>?_;revert hb;refine @Y5 _ _ _ λr=>?_;revert r;refine @M8 _ _ λv q5=>?_;revert v;refine @D5 _ _ _ λv=>?_;revert v;refine @E9 _ _ λlhs os zs q4=>?_;revert os;refine @Y5 _ _ _ λo=>?_;revert zs;refine @Y5 _ _ _ λrhs=>?_;revert lhs;refine @B9 _ _ λlhs m q2=>?_;revert lhs;refine @Y8 _ _ λn2 q1=>?_;revert rhs;refine @D7 _ _ λco k q3=>?_;revert co;refine @P9 _ _ λmsg h=>?_;cases Jc (op:=.eq) (Q5 h);replace h:=Q2 h;have h1:=Q5 h;cases J1 (Q5 (Q2 h));replace h:=Q2 (Q2 h);have h3:=Q5 h;cases J1 (Q5 (Q2 h));replace h:=Q2 (Q2 h);have h5:=Q5 h;cases J1 (Q5 (Q2 h));replace h:=Q2 (Q2 h);cases J1 (Q5 h);cases J1 (Q2 h);have hv:R1 x=true:=by clear q;revert x;refine @O7 _ _ λU U U U=>rfl
 intro A env outer Y fr ff μ s I N' F ne;have tc:=Fg (kN:=kN) (kM:=kM) (msg:=T.tab kX) (ep:=ep) (np:=np) (q1:=q1) (q2:=q2) (q3:=q3) (q4:=q4) (q5:=q5) (hp:=hp) (tp:=tp) (k:=k) w RZ.xo XG (Jh w HX G XV1 h1 cs l st q) hv RZ.glob (G.at (Ja h3)) (KO.dbg _) (by rw [KO.tab];exact G.at (C7 h5)) (by rw [KO.tab];exact KO.dbg _) A env outer Y fr ff μ s I N' F;rw [KO.tab] at tc;exact wpAny_execs_cons (wpAny_mono tc (λf s' z=>by refine Q6 z ?_;intro ee0 L;subst ee0;exact ⟨rfl,L⟩) λU U z=>z)
theorem law_of (w:Wf W)(TO:TabOk W g kx)(KO:KtOk W T){N:Nat}(CA:CallOk W (N+1) ca){nm:Nm}{C:Cls}(G:Good C nm (N+1)){cv:XV}
  (CV:∀ {f vs st},cv f vs st=true->CT W (N+1) f vs st/\∃ q,f=.fn q/\keepIn W.K (.ref (W.fa q))=true){f:E}{es:List E}{pre:List S}{ys:List Stmt}
  (h:Uh (W0 T (K8 T 100) 100 nm) (Fi (K8 T 100) nm f es) pre ys=true):∀ cs l st,Oe (exN (evN g kx ca 60) 60) (Zp (evN g kx ca 60) cv f es) pre cs l st=true->TH W C cs l st (execs ys):=by
 have HX:∀ e x,K8 T 100 nm e x=true->SEB W C (evN g kx ca 60 e) x:=λe x h=>M9 w TO KO CA 60 100 nm C e x G h;have HS:∀ s y,W0 T (K8 T 100) 100 nm s y=true->SS W C (exN (evN g kx ca 60) 60 s) (exec y):=λs y h=>X7 (K:=59) w TO KO CA 60 100 100 nm C s y G h;refine Of HS (λy ys hy cs l st q=>?_) h;clear h;revert y;refine @M8 _ _ λv U=>?_;revert v;refine @D5 _ _ _ λx=>?_;revert x;refine @O7 _ _ λg' xs pos h=>?_;have h3:=Q5 (Q2 (Q2 h));have h4:=Q2 (Q2 (Q2 h));refine Jp (Zc (Q5 h)) ?_;intro nn pp ee2;subst ee2;have ne:es≠[]:=by induction es using List.casesOn <;> first | exact ff h4 | (cases h4;done) | (intro q;cases q)
 have SS:=Qe (ev:=evN g kx ca 60) (W:=W) (C:=C) (λe x z=>(HX e x z).1) h3;refine byC λζ=>?_;obtain ⟨v,st1,q,r1⟩:=(HX f _ (Q5 (Q2 h))).1 cs l st _ q;refine Y0 (SS.run q) ?_;intro vs st2 q _ r2;obtain ⟨K,fq,rfl,hk⟩:=CV q;refine ζ ?_;exact th_ret w G.ro hk r1 SS ne r2 K
noncomputable def Sw (T:Kt)(K:Frag)(fa:P->Addr)(last:Nm->Stmt->Bool)(q:P)(pre:List S):Bool:=match K.lookup (fa q) with
 | some o=>(match o with | ⟨_,_,dt,_⟩=>(match dt with
  | .func fd=>(match fd.body with | .stmts body=>Uh (W0 T (K8 T 100) 100 fd.scope.names) (last fd.scope.names) pre body | _=>false)
  | _=>false))
 | none=>false
set_option tactic.hygienic true in
theorem Ik {last:Nm->Stmt->Bool}{q:P}{fn:Fn}{pre:List S}{fd:FuncData}{body:List Stmt}{dv:List Value}(FO:FnOk W q fn fd body dv)(hc:Sw T W.K W.fa last q pre=true):Uh (W0 T (K8 T 100) 100 fd.scope.names) (last fd.scope.names) pre body=true:=by
 unfold Sw at hc
 split at hc
 ·rename_i o ho
  have hd:=Ly FO ho;obtain ⟨oc,od,dt,sl⟩:=o;dsimp only at hd;subst hd;dsimp only at hc;rw [FO.body] at hc;exact hc
 ·cases hc
noncomputable def cV (q:P)(fn:Fn)(t:XH):XV:=λf vs st=>match f with | .fn p=>(match P.beq p q with | true=>xFn fn t vs st | false=>false) | _=>false
set_option tactic.hygienic true in
theorem Sx (w:Wf W)(TO:TabOk W g kx)(KO:KtOk W T){N:Nat}(CA:CallOk W (N+1) ca)(RZ:RzOk W T z p pI kM (T.tab kX))(XG:XgOk W p kM){xv:XV}
  (XV1:∀ {f vs st},xv f vs st=true->CX W ⟨W.fa p,W.tab kM,T.tab kX⟩ (N+1) f vs st/\∃ q,f=.fn q/\keepIn W.K (.ref (W.fa q))=true){q:P}{fn:Fn}{fd:FuncData}{body:List Stmt}{dv:List Value}(FO:FnOk W q fn fd body dv)(kp:keepIn W.K (.ref (W.fa q))=true)
  {f:E}{es:List E}{pre:List S}(hc:Sw T W.K W.fa (λnm=>Fh T z (K8 T 100) nm f es kN kM kX) q pre=true){f':V}{vs:List V}{st:St}
  (h:cV q fn (Oe (exN (evN g kx ca 60) 60) (Zp (evN g kx ca 60) xv f es) pre) f' vs st=true):CT W (N+1+1) f' vs st/\∃ q,f'=.fn q/\keepIn W.K (.ref (W.fa q))=true:=by
 induction f' using V.casesOn <;> first | exact ff h | (cases h;done) | skip
 rename_i p';unfold cV at h;dsimp only at h
 split at h
 ·rename_i e
  rw [P.beq_of e];exact ⟨ct_fn w FO (Sv w TO KO CA RZ XG (Fc.good (N+1) fd.scope fd.code FO.kind) XV1 (Ik FO hc)) h,q,rfl,kp⟩
 ·cases h
theorem law_ct (w:Wf W)(TO:TabOk W g kx)(KO:KtOk W T){N:Nat}(CA:CallOk W (N+1) ca){cv:XV}
  (CV:∀ {f vs st},cv f vs st=true->CT W (N+1) f vs st/\∃ q,f=.fn q/\keepIn W.K (.ref (W.fa q))=true){q:P}{fn:Fn}{fd:FuncData}{body:List Stmt}{dv:List Value}(FO:FnOk W q fn fd body dv)
  {f:E}{es:List E}{pre:List S}(hc:Sw T W.K W.fa (λnm=>Fi (K8 T 100) nm f es) q pre=true){vs:List V}{st:St}(h:xFn fn (Oe (exN (evN g kx ca 60) 60) (Zp (evN g kx ca 60) cv f es) pre) vs st=true):CT W (N+1+1) (.fn q) vs st :=
 ct_fn w FO (law_of w TO KO CA (Fc.good (N+1) fd.scope fd.code FO.kind) CV (Ik FO hc)) h
end
end
section
variable {W:Wd}
noncomputable def allF (ps:List (Bool × Nat)):Bool:=match ps with | []=>true | x :: r=>(match x with | (b,_)=>(match b with | true=>false | false=>allF r))
theorem Og:∀ {ps:List (Bool × Nat)},allF ps=true->∀ x∈ps,x.1=false
 | [],_,x,hx=>by cases hx
 | (true,n) :: r,h,x,hx=>by first | exact ff h | cases h
 | (false,n) :: r,h,x,hx=>by
  rcases List.mem_cons.mp hx with rfl | hx
  ·rfl
  ·exact Og (ps:=r) h x hx
noncomputable def Oh (T:Kt)(fn:Fn)(nd:Nest):Bool:=Q0 (ckPs T fn.params nd.params) (Q0 (Dc (Vr fn.params)) (Q0 (Jd T nd.scope.names fn.params) (Q0 (allF fn.params) (Q0 (Zx fn.cellLocals) (Q0 (Zv nd.scope.names) (Q0 (Zx fn.dflts)
 (Q0 (fB nd.scope.isCoroutine) (Q0 (fB nd.scope.isGenerator) (Q0 (Lp nd.scope.kind) (Db (W0 T (K8 T 100) 100 nd.scope.names) fn.body nd.body))))))))))
section
variable {g:G}{kx:Kx}{T:Kt}
theorem Fj (w:Wf W)(TO:TabOk W g kx)(KO:KtOk W T){fn:Fn}{nd:Nest}(h:Oh T fn nd=true):NestOk W fn nd/\∀ n ca,CallOk W n ca->SSs W (Fq n nd.scope) (exN (evN g kx ca 60) 60) fn.body nd.body:=by
 unfold Oh at h;refine byC λζ=>?_;refine Q6 (Q1 h) ?_;intro h1 h;refine Q6 (Q1 h) ?_;intro h2 h;refine Q6 (Q1 h) ?_;intro h3 h;refine Q6 (Q1 h) ?_;intro h4 h;refine Q6 (Q1 h) ?_;intro h5 h;refine Q6 (Q1 h) ?_;intro h6 h;refine Q6 (Q1 h) ?_;intro h7 h;refine Q6 (Q1 h) ?_;intro h8 h;refine Q6 (Q1 h) ?_;intro h9 h;refine Q6 (Q1 h) ?_;intro h10 h11;have nd':=Kk h2;rw [Dd] at nd';have kind:=Qd h10;refine ζ ?_;refine ⟨⟨by rw [KO.tab];exact Ia h1,?_,λx hx=>⟨Og h4 x hx,?_⟩,Ge h5,Ki h6,Ge h7,Vu h8,Vu h9,kind⟩,λn ca CA=>?_⟩
 ·have e:(fn.params.map λx=>W.tab x.2)=(fn.params.map (·.2)).map W.tab:=by rw [List.map_map];rfl
  rw [e];exact List.Pairwise.map _ (λa b ne q=>ne (w.inj _ _ q)) nd'
 ·have:=Zy h3 x hx
  rw [Og h4 x hx] at this;rw [KO.tab];simpa using this
 ·exact Np (λs y z=>X7 (K:=59) w TO KO CA 60 100 100 nd.scope.names _ s y (Fq.good n nd.scope kind) z) h11
noncomputable def Lz (n:Str)(nm:Nm):Bool:=match nm with | []=>false | x :: r=>(match x with | (m,k)=>(match k with | .free=>(match eqS n m with | true=>true | false=>Lz n r) | _=>Lz n r))
set_option tactic.hygienic true in
theorem Dp {n:Str}:∀ {nm:Nm},Lz n nm=true->(n,NameKind.free)∈nm
 | (m,k) :: r,h=>by
  unfold Lz at h;dsimp only at h
  split at h
  ·split at h
   ·rename_i e;rw [J1 e];exact .head _
   ·exact .tail _ (Dp h)
  ·exact .tail _ (Dp h)
noncomputable def Q9k (T:Kt)(nm:Nm)(ks:List Nat):Bool:=match ks with | []=>true | k :: r=>Q0 (Lz (T.tab k) nm) (Q9k T nm r)
theorem Im {nm:Nm}:∀ {ks:List Nat},Q9k T nm ks=true->∀ k∈ks,(T.tab k,NameKind.free)∈nm
 | [],_,k,h=>by first | exact ff h | cases h
 | j :: r,h,k,hk=>by
  refine Q6 (Q1 (show Q0 (Lz (T.tab j) nm) (Q9k T nm r)=true from h)) ?_;intro h1 h2
  rcases List.mem_cons.mp hk with rfl | hk
  ·exact Dp h1
  ·exact Im h2 k hk
noncomputable def Dq (v:Value)(a:Nat):Bool:=match v with | .ref b=>Nat.beq b a | _=>false
theorem Ma {v:Value}{a:Nat}(h:Dq v a=true):v=.ref a:=by induction v using PySem.Value.casesOn <;> first | exact ff h | (cases h;done) | rw [Z8.mp (show Nat.beq _ a=true from h)]
noncomputable def Q5b (T:Kt)(nm:Nm)(cd:Value)(tc:Nat)(c:Bool)(k:Nat)(caps:List Nat)(name:Str)(nd:Nest):Bool :=
 Q0 (ckB T nm c k name) (Q0 (R4 nd.params) (Q0 (Dq cd tc) (Q0 (Zw nm nd.scope.names) (Q9k T nd.scope.names caps))))
theorem Q5c (w:Wf W)(KO:KtOk W T){ca:G6}{n:Nat}{sc:Scope}(hk:sc.kind=.function){cd:Value}{c:Bool}{k:Nat}{f:P}{caps:List Nat}{name:Str}{nd:Nest}{pos:Pos}(h:Q5b T sc.names cd W.tc c k caps name nd=true)(hn:W.nest f=some nd)(hm:W.nest L8=none) :
  SS W (Fc n sc cd) (exN (evN g kx ca 60) 60 (.defc c k f caps)) (exec (.FunctionDef name nd.params nd.body [] none [] nd.scope none name pos)):=by
 unfold Q5b at h;refine byC λζ=>?_;refine Q6 (Q1 h) ?_;intro h1 h;refine Q6 (Q1 h) ?_;intro h2 h;refine Q6 (Q1 h) ?_;intro h3 h;refine Q6 (Q1 h) ?_;intro h4 h5;have G:=Fc.good n sc cd hk;refine Q6 (G.kb h1) ?_;intro k1 k2;refine ζ ?_;refine Q8c w (by rw [KO.tab];exact k1) k2 h2 hn hm (λA env X=>by rw [X.2.2,Ma h3]) (λA env X x hx hf=>?_) (by rw [KO.tab];exact Im h5);have:=Kj h4 x hx hf;unfold Env.kindOf;rw [X.2.1];exact this
noncomputable def Wn (b:List S)(k i:Nat):Bool:=match b with | []=>true | s :: r=>Q0 (match Zz s with | true=>Nat.beq k i | false=>true) (Wn r (k+1) i)
theorem Wp:∀ {b:List S}{k i j:Nat}{s:S},Wn b k i=true->b[j]?=some s->Zz s=true->k+j=i
 | s :: r,k,i,0,t,h,e,d=>by
  refine Q6 (Q1 (show Q0 _ (Wn r (k+1) i)=true from h)) ?_;intro h1 _;have e:s=t:=by simpa using e
  subst e;rw [d] at h1;exact Z8.mp h1
 | s :: r,k,i,j+1,t,h,e,d=>by
  refine Q6 (Q1 (show Q0 _ (Wn r (k+1) i)=true from h)) ?_;intro _ h2;have:=Wp h2 (by simpa using e) d
  lia
end
end
section
variable {W:Wd}
section
variable {μ μ1 μ2:Mp}{s s1 s2:Shared}{st1 st2:St}{o0 o1 oj:Ob}{n n2:P}
noncomputable def Fk (oj:Ob)(μ:Mp):Mp:=λp=>@Bool.rec (λU=>Option (Addr × Addr)) none (μ p) (X8 p oj)
theorem F6 {p:P}{x:Addr × Addr}(h:Fk oj μ p=some x):X8 p oj=true/\μ p=some x:=by
 unfold Fk at h;cases q:X8 p oj with
 | true=>rw [q] at h;exact ⟨rfl,h⟩
 | false=>rw [q] at h;cases h
theorem Yd {p:P}{x:Addr × Addr}(m:X8 p oj=true)(h:μ p=some x):Fk oj μ p=some x:=by
 unfold Fk;rw [m];exact h
theorem Q9m (I1:Inv W μ1 st1 s1)(ha:K9 st1.t oj=true)(ok:Zn oj oj=true)(hn:st1.n.val<=n2.val):Inv W (Fk oj μ1) ⟨mkT oj,n2⟩ s1:=by
 refine ⟨I1.keep,λp a d e=>I1.fresh p a d (F6 e).2,λp o e=>?_,λp a d e=>?_,λp q a d b c e1 e2=>I1.inj p q a d b c (F6 e1).2 (F6 e2).2⟩
 ·have m:=Jf e
  refine Q6 (Dk ok m) ?_;intro mp oo
  rcases Ze ha m with ⟨rfl,u,z⟩ | z
  ·refine Q7 (I1.objs p u z) ?_;intro a d m' r;exact Q9 a d (Yd mp m') (.junk r.live)
  ·refine Q7 (I1.objs p o z) ?_;intro a d m' r;exact Q9 a d (Yd mp m') (r.down (λq y mq e=>Yd mq e) oo)
 ·have:=I1.lt p a d (F6 e).2;exact ⟨Nat.lt_of_lt_of_le this.1 hn,this.2⟩
noncomputable def Fm (oj:Ob)(l lj:Loc):Bool:=@List.rec _ (λU=>Bool) true (λx U ih=>Q0 (Qh oj x.2) (Q0 (V6 l x.1 (λw=>Nz w x.2) λU=>false) ih)) lj
theorem Q9n {l lj:Loc}(h:Fm oj l lj=true){k:Nat}{v:V}(e:Y6 lj k=some v):Qh oj v=true/\Y6 l k=some v:=by
 induction lj with
 | nil=>cases e
 | cons x r ih =>
  have h:Q0 (Qh oj x.2) (Q0 (V6 l x.1 (λw=>Nz w x.2) λU=>false) (Fm oj l r))=true:=h;have e:(if x.1=k then some x.2 else Y6 r k)=some v:=e
  by_cases q:x.1=k
  ·rw [if_pos q] at e;cases e
   refine Q3 (G0 (Q5 (Q2 h))) ?_;intro w hw ew;rw [Gc ew,q] at hw;exact ⟨Q5 h,hw⟩
  ·rw [if_neg q] at e;exact ih (Q2 (Q2 h)) e
theorem Q9p {env:Env}{cs:Q4}{l lj:Loc}(N:EnvR W μ1 s1 env cs l)(h:Fm oj l lj=true):EnvR W (Fk oj μ1) s1 env [] lj:=by
 refine ⟨N.kind,N.glob,N.blt,λp a d m=>N.free p a d (F6 m).2,N.new,?_,λk p h=>(by cases h),N.full⟩;refine Q3 N.ns ?_;intro m hm q;refine Z0 m hm λk v e=>?_;refine Q6 (Q9n h e) ?_;intro r e';refine Q3 (q k v e') ?_;intro x a b;exact Z0 x a (b.down (λq y mq e=>Yd mq e) r)
noncomputable def Oi (o0 oj:Ob):Bool:=@List.rec _ (λU=>Bool) true (λx U ih=>Q0 (X8 x.1 oj) ih) o0
theorem Mb (h:Oi o0 oj=true){p:P}(m:X8 p o0=true):X8 p oj=true:=by
 refine J2 (Oc m) ?_;clear m;intro o m
 induction o0 with
 | nil=>cases m
 | cons x r ih =>
  have h:Q0 (X8 x.1 oj) (Oi r oj)=true:=h
  rcases List.mem_cons.mp m with e | e
  ·subst e;exact Q5 h
  ·exact ih (Q2 h) e
theorem Q9q {L:Addr}(I0:Inv W μ ⟨mkT o0,n⟩ s)(h0:∀ p,X8 p o0=true->∃ x,μ p=some x)(E1:ExtL L μ s μ1 s1)(I1:Inv W μ1 st1 s1)(E2:ExtL L (Fk oj μ1) s1 μ2 s2)(I2:Inv W μ2 st2 s2)(ok:Zn o0 o1=true)(sub:Oi o0 oj=true)(ha:K9 st2.t o1=true)(fL:G9 μ L) :
  ExtL L μ s μ s2/\Inv W μ ⟨mkT o1,n⟩ s2:=by
 have D:∀ p y,X8 p o0=true->μ2 p=some y->μ p=some y:=λp y m e=>by
  refine J2 (h0 p m) ?_;intro x hx;rw [E2.sub p x (Yd (Mb sub m) (E1.sub p x hx))] at e;cases e;exact hx
 refine ⟨⟨λU U h=>h,λU U U h q=>(by rw [h] at q;exact sN q),λb o hb f nb=>E2.keep b o (E1.keep b o hb f nb) (λp a d m=>?_) nb,λh=>E2.live (E1.live h),by rw [E2.rest,E1.rest]⟩,⟨I2.keep,I0.fresh,λp o e=>?_,λp a d e=>?_,I0.inj⟩⟩
 ·have m1:=(F6 m).2
  cases q:μ p with
  | some y=>have e:=E1.sub p y q;rw [m1] at e;induction e using J8;exact f p a d q
  | none=>have z:=(E1.new p a d m1 q).1;exact ⟨λw=>(by have:=z.1;rw [<-w,hb] at this;exact sN this),λw=>(by have:=z.2;rw [<-w,hb] at this;cases this)⟩
 ·have m:=Jf e
  refine Q6 (Dk ok m) ?_;intro mp oo;refine J2 (h0 p mp) ?_;intro zz0 hx;obtain ⟨a,d⟩:=zz0;have hx':=E2.sub p _ (Yd (Mb sub mp) (E1.sub p _ hx));refine Q9 a d hx ?_
  rcases Ze ha m with ⟨rfl,_⟩ | z
  ·exact .junk (I2.lt p a d hx').2.1
  ·refine Q7 (I2.objs p o z) ?_;intro a' d' m' r
   rw [hx'] at m';cases m';exact r.down D oo
 ·have m1:=E1.sub p _ e
  refine ⟨(I0.lt p a d e).1,?_⟩;cases mp:X8 p oj with
  | true=>exact (I2.lt p a d (E2.sub p _ (Yd mp m1))).2
  | false =>
   have key:∀ b,(b=a\/b=d)->s1.heap.get? b≠none->s2.heap.get? b≠none:=λb hb hl=>by
    cases q:s1.heap.get? b with
    | none=>exact absurd q hl
    | some o =>
     refine Z1 (E2.keep b o q (λp' a' d' m'=>?_) ?_)
     ·have ne:p≠p':=λz=>by rw [z,(F6 m').1] at mp;cases mp
      have:=I1.inj p p' a d a' d' m1 (F6 m').2 ne
      rcases hb with rfl | rfl
      ·exact ⟨this.1,this.2.1⟩
      ·exact ⟨this.2.2.1,this.2.2.2⟩
     ·have:=fL p a d e
      rcases hb with rfl | rfl
      ·exact this.1.symm
      ·exact this.2.symm
   have l1:=(I1.lt p a d m1).2;exact ⟨key a (.inl rfl) l1.1,key d (.inr rfl) l1.2⟩
end
section
variable {C:Cls}{ex ex1 ex2:Ex}{pre post:List S}{ys ys1 ys2:List Stmt}
theorem SSs.cut {xs:List S}(h:SSs W C ex xs ys):∀ k,SSs W C ex (xs.take k) (ys.take k)/\SSs W C ex (xs.drop k) (ys.drop k):=by
 induction h with
 | nil=>intro k;cases k <;> exact ⟨.nil,.nil⟩
 | cons h t ih =>
  intro k;cases k with
  | zero=>exact ⟨.nil,.cons h t⟩
  | succ k=>exact ⟨.cons h (ih k).1,(ih k).2⟩
noncomputable def nextK (k:Loc->St->R)(f:F)(s:St):R:=@F.rec (λU=>R) (λl=>k l s) (λU U=>false) (λU=>false) (λU=>false) f
noncomputable def retK (o1:Ob)(f:F)(s:St):R:=@F.rec (λU=>R) (λU=>false) (λv U=>Q0 (F5 v) (K9 s.t o1)) (λU=>false) (λU=>false) f
set_option tactic.hygienic true in
theorem Q9r {o1:Ob}{f:F}{s:St}(h:retK o1 f s=true):∃ l,f=.ret (.bool true) l/\K9 s.t o1=true:=by
 induction f using F.casesOn <;> first | exact ff h | skip
 rename_i v l;have h:Q0 (F5 v) (K9 s.t o1)=true:=h;exact Z0 l (by rw [Yb (Q5 h)]) (Q2 h)
set_option tactic.hygienic true in
theorem Q9s {k:Loc->St->R}(H:SSs W C ex pre ys1):∀ cs l st,exL ex pre cs l st (nextK k)=true->∃ l' st',k l' st'=true /\
  ∀ A env,C A env->∀ μ s,Inv W μ st s->EnvR W μ s env cs l->∀ (Q:Flow->Shared->Prop),(∀ μ' s',ExtL env.locals μ s μ' s'->Inv W μ' st' s'->EnvR W μ' s' env cs l'->wpAny (model W.prog W.w) A (execs ys2 env) Q Z3 s')->wpAny (model W.prog W.w) A (execs (ys1++ys2) env) Q Z3 s:=by
 induction H with
 | nil=>exact λcs l st q=>Q9 l st q (λA env X μ s I N Q K=>K μ s (.refl ..) I N)
 | cons h t ih =>
  intro cs l st q;refine Q7 (h cs l st _ q) ?_;intro f st1 q r1
  induction f using F.casesOn <;> first | exact ff q | skip
  rename_i l1;refine Q7 (ih cs l1 st1 q) ?_;intro l' st' q2 r2;refine Q9 l' st' q2 (λA env X μ s I N Q K=>wpAny_execs_cons ((r1 A env X μ s I N).step λμ1 s1 y e z=>?_));refine Q6 z ?_;intro z1 z2
  induction z2 using FlR.nextE with
  | next N'=>exact r2 A env X μ1 s1 z1 N' Q λμ' s' e' I' N''=>K μ' s' (e.trans e') I' N''
noncomputable def jAny (Js:List (Loc × Ob))(l:Loc)(s:St):R:=@List.rec _ (λU=>R) false (λj U ih=>@Bool.rec (λU=>R) ih true (Q0 (Fm j.2 l j.1) (K9 s.t j.2))) Js
theorem Q9t {Js:List (Loc × Ob)}{l:Loc}{s:St}(h:jAny Js l s=true):∃ j,j∈Js/\Fm j.2 l j.1=true/\K9 s.t j.2=true:=by
 induction Js with
 | nil=>cases h
 | cons j r ih =>
  rcases bE (b:=Q0 (Fm j.2 l j.1) (K9 s.t j.2)) h with ⟨q,_⟩ | ⟨_,h⟩
  ·exact J6 j (.head _) (Q5 q) (Q2 q)
  ·refine K0 (ih h) ?_;intro j m a b;exact J6 j (.tail _ m) a b
noncomputable def jIn (n2:P)(Js:List (Loc × Ob))(l:Loc)(s:St):R:=Q0 (Nat.ble s.n.val n2.val) (jAny Js l s)
theorem jIn_of {n2:P}{Js:List (Loc × Ob)}{l:Loc}{s:St}(h:jIn n2 Js l s=true):s.n.val<=n2.val/\∃ j,j∈Js/\Fm j.2 l j.1=true/\K9 s.t j.2=true:=⟨Nat.le_of_ble_eq_true (Q5 h),Q9t (Q2 h)⟩
noncomputable def jBR (ex:Ex)(pre:List S)(o0 o1:Ob)(n2:P)(Js:List (Loc × Ob)):Hs:=λcs l st k=>Q0 (K9 st.t o0) (Q0 (exL ex pre cs l st (nextK (jIn n2 Js))) (k (.ret (.bool true) []) ⟨mkT o1,st.n⟩))
noncomputable def jOk (ex:Ex)(post:List S)(o0 o1:Ob)(n2:P)(j:Loc × Ob):Bool:=Q0 (Zn j.2 j.2) (Q0 (Oi o0 j.2) (exL ex post [] j.1 ⟨mkT j.2,n2⟩ (retK o1)))
theorem Q9u (H1:SSs W C ex1 pre ys1)(H2:SSs W C ex2 post ys2){o0 o1:Ob}{n2:P}{Js:List (Loc × Ob)}(ok:Zn o0 o1=true)(HJ:∀ j∈Js,jOk ex2 post o0 o1 n2 j=true):SS W C (jBR ex1 pre o0 o1 n2 Js) (execs (ys1++ys2)):=λcs l st k q=>by
 refine Q6 (Q1 q) ?_;intro ha q;refine Q6 (Q1 q) ?_;intro h1 hk;refine Q9 (.ret (.bool true) []) ⟨mkT o1,st.n⟩ hk (λA env X μ s I N=>?_);refine Q7 (Q9s (ys2:=ys2) H1 cs l st h1) ?_;intro l1 st1 hj r1;refine Q6 (jIn_of hj) ?_;intro hn hj;refine K0 hj ?_;intro j jm hl hh;have z:=HJ j jm;refine Q7 (H2.run [] j.1 _ _ (Q2 (Q2 z))) ?_;intro f2 st2 q2 r2;refine Q3 (Q9r q2) ?_;intro l2 ee ha2;subst ee;refine Q6 (enter I rfl ha) ?_;intro I0 h0;refine r1 A env X μ s I N _ (λμ1 s1 E1 I1 N1=>?_);refine (r2 A env X _ s1 (Q9m I1 hh (Q5 z) hn) (Q9p N1 hl)).step λμ2 s2 y E2 zz=>?_;refine Q6 zz ?_;intro I2 fr
 induction fr using FlR.retE with
 | ret N2 rv =>
  induction rv using VR.boolE
  refine Q6 (Q9q I0 h0 E1 I1 E2 I2 ok (Q5 (Q2 z)) ha2 N.free) ?_;intro E I';refine J6 μ E I' (.ret ⟨N.kind,N.glob,N.blt,N.free,N.new,?_,N.cells,N.full⟩ (.bool _));refine Q3 N2.ns ?_;intro m hm _;exact Z0 m hm λk v e=>(by cases e)
end
end
noncomputable def g62:E:=.glb 62 (.int big)
noncomputable def g303:E:=.glb 303 (.fn (.i (.i .h)))
noncomputable def g164:E:=.glb 164 (.fn (.o (.o (.o .h))))
noncomputable def g342:E:=.glb 342 (.fn (.i (.i (.o .h))))
noncomputable def g405:E:=.glb 405 (.fn (.i (.o (.i .h))))
noncomputable def g400:E:=.glb 400 (.fn (.i (.o (.o .h))))
noncomputable def g61:E:=.glb 61 (.int 1000000)
noncomputable def g75:E:=.glb 75 (.cls 0)
noncomputable def g88:E:=.glb 88 (.cls 2)
noncomputable def Kq:E:=.glb 178 (.fn (.i (.o (.i (.o (.i .h))))))
noncomputable def g425:E:=.glb 425 (.fn (.o (.i (.i (.o (.i .h))))))
noncomputable def Qi:E:=.glb 523 (.fn (.i (.i (.i (.i (.i .h))))))
noncomputable def g83:E:=.glb 83 (.cls 3)
noncomputable def g41:E:=.glb 41 (.cls 4)
noncomputable def g441:E:=.glb 441 (.fn (.i (.i (.i (.i .h)))))
noncomputable def Wq:E:=.glb 306 (.fn (.o (.o (.o (.o (.o (.o .h)))))))
noncomputable def Q5d:E:=.glb 186 (.fn (.o (.i (.o (.i (.o (.o .h)))))))
noncomputable def Q5e:E:=.glb 330 (.fn (.i (.o (.i (.i (.i .h))))))
noncomputable def g366:E:=.glb 366 (.fn (.i (.i (.o (.o (.o (.o .h)))))))
noncomputable def g380:E:=.glb 380 (.fn (.o (.o (.i (.o (.o (.o .h)))))))
noncomputable def Q9v:E:=.glb 220 (.fn (.o (.o (.o (.i (.o (.o .h)))))))
noncomputable def g223:E:=.glb 223 (.fn (.i (.o (.o (.i (.o (.o .h)))))))
noncomputable def g65:E:=.glb 65 (.cls 7)
noncomputable def g406:E:=.glb 406 (.fn (.o (.i (.i (.o (.i (.o .h)))))))
noncomputable def g471:E:=.glb 471 (.fn (.o (.o (.i (.o (.i (.o .h)))))))
noncomputable def Dr:E:=.glb 619 (.fn (.o (.o (.i (.i (.i (.o .h)))))))
noncomputable def g340:E:=.glb 340 (.fn (.o (.i (.i (.i (.i .h))))))
noncomputable def Qj:E:=.glb 379 (.fn (.i (.i (.o (.i (.i .h))))))
noncomputable def Ds:E:=.glb 344 (.fn (.o (.o (.i (.i (.i .h))))))
noncomputable def g337:E:=.glb 337 (.fn (.o (.o (.o (.i (.i (.o .h)))))))
noncomputable def g466:E:=.glb 466 (.fn (.i (.o (.o (.i (.i (.o .h)))))))
noncomputable def Sy:E:=.glb 427 (.fn (.i (.i (.i (.o (.o (.o .h)))))))
noncomputable def g487:E:=.glb 487 (.fn (.i (.o (.i (.i (.i (.o .h)))))))
noncomputable def g587:E:=.glb 587 (.fn (.o (.o (.o (.o (.o (.i .h)))))))
noncomputable def Q5f:E:=.glb 439 (.fn (.i (.o (.o (.o (.i .h))))))
noncomputable def Dt:E:=.glb 386 (.fn (.i (.i (.i (.o (.i .h))))))
noncomputable def g363:E:=.glb 363 (.fn (.o (.o (.i (.o (.o (.i .h)))))))
noncomputable def g136:E:=.glb 136 (.fn (.i (.i (.i (.o (.o (.i .h)))))))
noncomputable def g562:E:=.glb 562 (.fn (.i (.o (.o (.i (.o (.i .h)))))))
noncomputable def g299:E:=.glb 299 (.fn (.o (.i (.o .h))))
noncomputable def g331:E:=.glb 331 (.fn (.i (.i (.i (.i (.o (.i .h)))))))
noncomputable def g385:E:=.glb 385 (.fn (.o (.o (.o (.o (.i (.i .h)))))))
noncomputable def g570:E:=.glb 570 (.fn (.o (.i (.o (.i (.o (.i .h)))))))
noncomputable def g569:E:=.glb 569 (.fn (.i (.i (.o (.i (.o (.i .h)))))))
noncomputable def g568:E:=.glb 568 (.fn (.o (.o (.i (.i (.o (.i .h)))))))
noncomputable def g571:E:=.glb 571 (.fn (.i (.o (.i (.i (.o (.i .h)))))))
noncomputable def g137:E:=.glb 137 (.fn (.o (.i (.o (.o (.i (.i .h)))))))
noncomputable def g348:E:=.glb 348 (.fn (.o (.i (.i (.i (.o (.i .h)))))))
noncomputable def g629:E:=.glb 629 (.fn (.i (.i (.o (.o (.i (.i .h)))))))
noncomputable def Sz:E:=.glb 135 (.fn (.o (.o (.i (.o (.i (.i .h)))))))
noncomputable def g336:E:=.glb 336 (.fn (.i (.o (.o (.o (.o (.o (.o .h))))))))
noncomputable def g367:E:=.glb 367 (.fn (.i (.o (.i (.o (.o (.o .h)))))))
noncomputable def Pa:E:=.glb 381 (.fn (.i (.i (.o (.o (.o (.o (.o .h))))))))
noncomputable def g190:E:=.glb 190 (.fn (.o (.o (.i (.o (.o (.o (.o .h))))))))
noncomputable def g270:E:=.glb 270 (.fn (.o (.i (.i (.o (.o (.o (.o .h))))))))
noncomputable def g349:E:=.glb 349 (.fn (.i (.i (.o (.i (.o (.o (.o .h))))))))
noncomputable def g540:E:=.glb 540 (.fn (.i (.o (.o (.i (.o (.o (.o .h))))))))
noncomputable def g179:E:=.glb 179 (.fn (.i (.o (.i (.i (.o (.o (.o .h))))))))
noncomputable def g365:E:=.glb 365 (.fn (.o (.o (.i (.i (.o (.o (.o .h))))))))
noncomputable def g229:E:=.glb 229 (.fn (.o (.o (.o (.i (.o (.o (.o .h))))))))
noncomputable def g191:E:=.glb 191 (.fn (.o (.i (.o (.i (.o (.o (.o .h))))))))
noncomputable def R9:E:=.glb 325 (.fn (.o (.o (.i (.o (.i .h))))))
noncomputable def g628:E:=.glb 628 (.fn (.i (.i (.i (.o (.o (.o (.o .h))))))))
noncomputable def Q9w:E:=.glb 500 (.fn (.o (.o (.o (.o (.i .h))))))
noncomputable def g271:E:=.glb 271 (.fn (.i (.o (.i (.o (.o (.o (.o .h))))))))
noncomputable def g343:E:=.glb 343 (.fn (.o (.i (.o (.o (.o (.o (.o .h))))))))
noncomputable def g117:E:=.glb 117 (.fn (.o (.i (.o (.o (.i (.o (.o .h))))))))
noncomputable def g194:E:=.glb 194 (.fn (.o (.o (.o (.o (.i (.o (.o .h))))))))
noncomputable def g197:E:=.glb 197 (.fn (.i (.o (.i (.o (.o (.i .h)))))))
noncomputable def g357:E:=.glb 357 (.fn (.i (.i (.o (.o (.i (.o (.o .h))))))))
noncomputable def g355:E:=.glb 355 (.fn (.i (.o (.o (.o (.i (.o (.o .h))))))))
noncomputable def g198:E:=.glb 198 (.fn (.o (.i (.i (.o (.i (.o (.o .h))))))))
noncomputable def g195:E:=.glb 195 (.fn (.o (.o (.i (.o (.i (.o (.o .h))))))))
noncomputable def g134:E:=.glb 134 (.fn (.i (.o (.i (.o (.i (.o (.o .h))))))))
noncomputable def Wr:E:=.glb 556 (.fn (.i (.i (.i (.o (.i (.o .h)))))))
noncomputable def Fp:E:=.glb 301 (.fn (.o (.i (.i (.i (.i (.o .h)))))))
noncomputable def g169:E:=.glb 169 (.fn (.i (.o (.o (.o (.o (.i .h)))))))
noncomputable def Pb:E:=.glb 350 (.fn (.i (.i (.i (.i (.i (.o .h)))))))
noncomputable def g583:E:=.glb 583 (.fn (.o (.i (.o (.o (.o (.i .h)))))))
noncomputable def Oj:E:=.glb 282 (.fn (.o (.i (.i (.o (.i (.i .h)))))))
noncomputable def g534:E:=.glb 534 (.fn (.o (.o (.o (.i (.i (.o (.o .h))))))))
noncomputable def g143:E:=.glb 143 (.fn (.i (.o (.i (.i (.i (.o (.o .h))))))))
noncomputable def g180:E:=.glb 180 (.fn (.i (.i (.o (.i (.i (.o (.o .h))))))))
noncomputable def g288:E:=.glb 288 (.fn (.o (.i (.i (.i (.i (.o (.o .h))))))))
noncomputable def g224:E:=.glb 224 (.fn (.i (.i (.o (.o (.o (.i .h)))))))
noncomputable def g617:E:=.glb 617 (.fn (.i (.i (.i (.i (.i (.o (.o .h))))))))
noncomputable def g573:E:=.glb 573 (.fn (.o (.o (.o (.o (.o (.i (.o .h))))))))
noncomputable def g485:E:=.glb 485 (.fn (.o (.i (.o (.o (.o (.i (.o .h))))))))
noncomputable def g118:E:=.glb 118 (.fn (.i (.i (.i (.o (.i (.o (.o .h))))))))
noncomputable def g204:E:=.glb 204 (.fn (.i (.o (.i (.o (.i (.i .h)))))))
noncomputable def g295:E:=.glb 295 (.fn (.o (.o (.i (.o (.o (.i (.o .h))))))))
noncomputable def g57:E:=.glb 57 (.int big)
noncomputable def g222:E:=.glb 222 (.fn (.i (.i (.o (.i (.o (.i (.o .h))))))))
noncomputable def g442:E:=.glb 442 (.fn (.i (.o (.i (.i (.o (.i (.o .h))))))))
noncomputable def g630:E:=.glb 630 (.fn (.i (.i (.i (.o (.o (.i (.o .h))))))))
noncomputable def g421:E:=.glb 421 (.fn (.i (.i (.i .h))))
noncomputable def g225:E:=.glb 225 (.fn (.o (.o (.o (.i (.o (.i (.o .h))))))))
noncomputable def g431:E:=.glb 431 (.fn (.o (.o (.i (.i (.o (.i (.o .h))))))))
noncomputable def Q9x:E:=.glb 455 (.fn (.i (.i (.i (.i (.o (.i (.o .h))))))))
noncomputable def g470:E:=.glb 470 (.fn (.o (.i (.o (.i (.o (.i (.o .h))))))))
noncomputable def g144:E:=.glb 144 (.fn (.i (.o (.o (.i (.o (.i (.o .h))))))))
noncomputable def g454:E:=.glb 454 (.fn (.o (.i (.i (.i (.o (.i (.o .h))))))))
noncomputable def g248:E:=.glb 248 (.fn (.i (.i (.o (.i (.i (.o .h)))))))
noncomputable def g453:E:=.glb 453 (.fn (.o (.o (.o (.o (.i (.i (.o .h))))))))
noncomputable def g634:E:=.glb 634 (.fn (.o (.i (.o (.o (.i (.i (.o .h))))))))
noncomputable def g184:E:=.glb 184 (.fn (.o (.o (.i (.o (.i (.i (.o .h))))))))
noncomputable def Pc:E:=.glb 389 (.fn (.i (.i (.o (.o (.i .h))))))
noncomputable def g44:E:=.glb 44 (.cls 6)
noncomputable def g482:E:=.glb 482 (.fn (.i (.i (.i (.i (.i (.o (.i .h))))))))
noncomputable def Q5g:E:=.glb 625 (.fn (.o (.o (.o (.i (.i .h))))))
noncomputable def Un:E:=.glb 108 (.fn (.o (.o (.o (.o (.o (.i (.i .h))))))))
noncomputable def g153:E:=.glb 153 (.fn (.o (.o (.i (.i (.i (.o (.o .h))))))))
noncomputable def g40:E:=.glb 40 (.cls 5)
noncomputable def g149:E:=.glb 149 (.fn (.i (.o (.o (.o (.i (.i (.o .h))))))))
noncomputable def g101:E:=.glb 101 (.fn (.i (.o (.o (.o (.o (.i (.i .h))))))))
noncomputable def g151:E:=.glb 151 (.fn (.i (.i (.o (.o (.o (.i (.o .h))))))))
noncomputable def g103:E:=.glb 103 (.fn (.o (.i (.o (.o (.o (.i (.i .h))))))))
noncomputable def g146:E:=.glb 146 (.fn (.o (.i (.i (.o (.o (.i (.o .h))))))))
noncomputable def g150:E:=.glb 150 (.fn (.i (.o (.i (.o (.o (.i (.o .h))))))))
noncomputable def g148:E:=.glb 148 (.fn (.i (.o (.o (.o (.o (.i (.o .h))))))))
noncomputable def g401:E:=.glb 401 (.fn (.o (.i (.i (.i (.o (.o (.o .h))))))))
noncomputable def g152:E:=.glb 152 (.fn (.o (.i (.o (.i (.i (.o (.o .h))))))))
noncomputable def g509:E:=.glb 509 (.fn (.i (.i (.o (.o (.i (.i (.o .h))))))))
noncomputable def g170:E:=.glb 170 (.fn (.o (.i (.o (.i (.i .h))))))
noncomputable def g102:E:=.glb 102 (.fn (.i (.i (.o (.o (.o (.i (.i .h))))))))
noncomputable def g67:E:=.glb 67 (.cls 1)
noncomputable def g147:E:=.glb 147 (.fn (.i (.o (.o (.i (.i (.o (.o .h))))))))
noncomputable def g45:E:=.glb 45 (.cls 8)
noncomputable def g110:E:=.glb 110 (.fn (.o (.o (.i (.o (.o (.i (.i .h))))))))
noncomputable def g107:E:=.glb 107 (.fn (.o (.i (.i (.o (.o (.i (.i .h))))))))
noncomputable def g106:E:=.glb 106 (.fn (.i (.i (.i (.o (.o (.i (.i .h))))))))
noncomputable def g109:E:=.glb 109 (.fn (.o (.o (.o (.i (.o (.i (.i .h))))))))
noncomputable def g104:E:=.glb 104 (.fn (.i (.o (.o (.i (.o (.i (.i .h))))))))
noncomputable def g105:E:=.glb 105 (.fn (.o (.i (.o (.i (.o (.i (.i .h))))))))
noncomputable def eN:E:=.con .none
noncomputable def eT:E:=.con (.bool true)
noncomputable def eF:E:=.con (.bool false)
noncomputable def e0:E:=.con (.int 0)
noncomputable def e1:E:=.con (.int 1)
noncomputable def e2:E:=.con (.int 2)
noncomputable def e5:E:=.con (.int 5)
noncomputable def e3:E:=.con (.int 3)
noncomputable def e4:E:=.con (.int 4)
noncomputable def u73:E:=.con (.str 73)
noncomputable def Q9y:E:=.con (.str 416)
noncomputable def Q9z:E:=.con (.str 553)
noncomputable def Pd:E:=.con (.str 370)
noncomputable def Z0a:E:=.con (.str 165)
noncomputable def Z0b:E:=.con (.str 253)
noncomputable def Ji:E:=.con (.str 389)
noncomputable def Qk:E:=.con (.str 325)
noncomputable def Du:E:=.con (.str 178)
noncomputable def Ok:E:=.con (.str 384)
noncomputable def Jj:E:=.con (.str 237)
noncomputable def Q5h:E:=.con (.str 382)
noncomputable def Pe:E:=.con (.str 268)
noncomputable def u0:E:=.con (.str 0)
noncomputable def Fr:E:=.con (.str 426)
noncomputable def Pf:E:=.con (.str 219)
noncomputable def Fs:E:=.con (.str 221)
noncomputable def u32:E:=.con (.str 32)
noncomputable def u48:E:=.con (.str 48)
noncomputable def Z0c:E:=.con (.str 264)
noncomputable def u89:E:=.con (.str 89)
noncomputable def Pg:E:=.con (.str 635)
noncomputable def yN:S:=.ret eN
noncomputable def yF:S:=.ret eF
noncomputable def yT:S:=.ret eT
noncomputable def Hc:Tg:=.one false 347
noncomputable def Ft:Tg:=.one false 351
noncomputable def Uq:Tg:=.one false 447
noncomputable def Kr:Tg:=.one false 426
noncomputable def Ur:Tg:=.one false 294
noncomputable def Q5i:Tg:=.one false 424
noncomputable def Ks:Tg:=.one false 467
noncomputable def Q5j:Tg:=.one false 588
noncomputable def Jk:Tg:=.one false 267
noncomputable def Ws:Tg:=.one false 586
noncomputable def Ph:Tg:=.one false 310
noncomputable def Z0d:Tg:=.one false 620
noncomputable def Pi:Tg:=.one false 494
noncomputable def Z0e:Tg:=.one false 314
noncomputable def Q5k:Tg:=.one false 266
noncomputable def Fu:Tg:=.one false 574
noncomputable def Pj:E:=.loc 145
noncomputable def Ye:E:=.loc 422
noncomputable def Fv:E:=.loc 209
noncomputable def Us:E:=.loc 635
noncomputable def Z2:E:=.loc 520
noncomputable def H7:E:=.loc 362
noncomputable def A7:E:=.loc 351
noncomputable def Fw:E:=.loc 141
noncomputable def W3:E:=.loc 424
noncomputable def B4:E:=.loc 426
noncomputable def Y2:E:=.loc 585
noncomputable def G5:E:=.loc 347
noncomputable def V5:E:=.loc 123
noncomputable def Pk:E:=.cel 586
noncomputable def X9:E:=.loc 447
noncomputable def Pm:E:=.loc 554
noncomputable def Jm:E:=.loc 502
noncomputable def M0:E:=.loc 294
noncomputable def B5:E:=.loc 467
noncomputable def Wt:E:=.loc 492
noncomputable def D8:E:=.loc 588
noncomputable def K3:E:=.loc 267
noncomputable def J7:E:=.loc 326
noncomputable def M3:E:=.loc 252
noncomputable def S3:E:=.cel 585
noncomputable def A8:E:=.loc 586
noncomputable def Wu:E:=.loc 310
noncomputable def Wv:E:=.loc 620
noncomputable def Hd:E:=.loc 465
noncomputable def Ww:E:=.loc 567
noncomputable def Pn:E:=.cel 362
noncomputable def Fx:E:=.loc 188
noncomputable def Pp:E:=.cel 207
noncomputable def Om:E:=.loc 563
noncomputable def Dv:E:=.loc 382
noncomputable def Pq:E:=.loc 315
noncomputable def Zi:E:=.loc 494
noncomputable def Yg:E:=.loc 287
noncomputable def Pr:E:=.loc 314
noncomputable def He:E:=.loc 266
noncomputable def Fy:E:=.cel 418
noncomputable def Ps:E:=.loc 360
noncomputable def Hf:E:=.loc 577
noncomputable def Ut:E:=.loc 167
noncomputable def Hg:E:=.loc 284
noncomputable def Qm:E:=.loc 517
noncomputable def Fz:E:=.loc 402
noncomputable def Ca:E:=.cel 289
noncomputable def Pt:E:=.loc 574
noncomputable def Pu:E:=.cel 558
noncomputable def Y4:E:=.attr Y2 362
noncomputable def J4:E:=.attr Y2 141
noncomputable def L5:E:=.attr Z2 555
noncomputable def O0:E:=.attr Z2 584
noncomputable def O1:E:=.attr Z2 468
noncomputable def O2:E:=.attr K3 362
noncomputable def D9:E:=.attr S3 362
noncomputable def O3:E:=.attr S3 351
noncomputable def W9:E:=.attr Yg 362
noncomputable def G8:E:=.attr J7 308
noncomputable def L6:E:=.attr Pt 351
noncomputable def X0:E:=.attr Pt 141
noncomputable def f_7:Fn:=⟨[(false,112),(false,145)],[],[],[(.whil (.cmp .gt Pj e0) [(.setN (.many [(false,112),(false,145)]) (.tup [Pj,(.bin .mod (.loc 112) Pj)]))]),(.ret (.loc 112))]⟩
noncomputable def f_8:Fn:=⟨[(false,422),(false,209)],[],[],[(.ite (.or (.cmp .gt (.bi .abs [Ye]) g62) (.cmp .gt Fv g62)) [.bad] []),(.ret (.tup [Ye,Fv]))]⟩
noncomputable def f_9:Fn:=⟨[(false,422),(false,209)],[],[],[(.ite (.cmp .eq Fv e0) [(.ite (.cmp .eq Ye e0) [.bad] []),(.ret (.ite (.cmp .gt Ye e0) (.tup [e1,e0]) (.tup [(.neg e1),e0])))] []),(.ite (.cmp .lt Fv e0) [(.setN (.one false 422) (.bin .sub e0 Ye)),(.setN (.one false 209) (.bin .sub e0 Fv))] []),(.setN (.one false 196) (.call g303 [(.bi .abs [Ye]),Fv])),(.ret (.call g164 [(.bin .div Ye (.loc 196)),(.bin .div Fv (.loc 196))]))]⟩
noncomputable def f_10:Fn:=⟨[(false,422)],[],[],[(.ite (.cmp .is Ye eN) [yN] []),(.ret (.tup [Ye,e1]))]⟩
noncomputable def f_11:Fn:=⟨[(false,635)],[],[],[(.ret (.or (.cmp .is Us eN) (.and (.cmp .eq (.sub Us e0) e0) (.cmp .eq (.sub Us e1) e0))))]⟩
noncomputable def f_15:Fn:=⟨[(false,635),(false,637)],[],[],[(.ite (.or (.call g342 [Us]) (.call g342 [(.loc 637)])) [(.ret (.call g405 [Us,(.loc 637)]))] []),(.ret (.call g400 [(.bin .mul (.sub Us e0) (.sub (.loc 637) e0)),(.bin .mul (.sub Us e1) (.sub (.loc 637) e1))]))]⟩
noncomputable def f_38:Fn:=⟨[(false,520)],[],[],[(.setA Z2 362 u73),(.setA Z2 141 eN)]⟩
noncomputable def f_39:Fn:=⟨[(false,520)],[],[],[(.setA Z2 362 Q9y),(.setA Z2 141 eN)]⟩
noncomputable def f_40:Fn:=⟨[(false,520),(false,362),(false,351),(false,141)],[.none],[],[(.setA Z2 362 H7),(.setA Z2 351 A7),(.setA Z2 141 Fw),(.setA Z2 524 eF),(.setA Z2 394 eF)]⟩
noncomputable def f_42:Fn:=⟨[(false,520),(false,424)],[],[],[(.setA Z2 362 Q9z),(.setA Z2 424 W3),(.setA Z2 141 eN)]⟩
noncomputable def f_43:Fn:=⟨[(false,520),(false,351),(false,555),(false,141)],[.none],[],[(.setA Z2 362 Pd),(.setA Z2 351 A7),(.setA Z2 555 (.loc 555)),(.setA Z2 141 Fw),(.setA Z2 188 eN)]⟩
noncomputable def f_44:Fn:=⟨[(false,520),(false,424),(false,543),(false,285),(false,309)],[],[],[(.setA Z2 362 (.ite (.loc 543) (.con (.str 543)) Z0a)),(.setA Z2 424 W3),(.setA Z2 543 (.loc 543)),(.setA Z2 285 (.loc 285)),(.setA Z2 309 (.loc 309)),(.setA Z2 141 eN)]⟩
noncomputable def f_45:Fn:=⟨[(false,520),(false,440),(false,460),(false,141)],[.none],[],[(.setA Z2 362 Z0b),(.setA Z2 440 (.loc 440)),(.setA Z2 460 (.loc 460)),(.setA Z2 141 Fw),(.setA Z2 297 (.dct [] [])),(.setA Z2 387 eF),(.setA Z2 388 (.dct [] []))]⟩
noncomputable def f_48:Fn:=⟨[(false,422)],[],[],[(.ite (.cmp .gt Ye g61) [.bad] []),(.ret Ye)]⟩
noncomputable def f_49:Fn:=⟨[],[],[],[(.ret (.call g75 []))]⟩
noncomputable def f_51:Fn:=⟨[(false,351)],[],[],[(.ret (.call g88 [Ji,(.bi .list [A7])]))]⟩
noncomputable def f_52:Fn:=⟨[(false,351)],[],[],[(.ret (.call g88 [Qk,(.bi .list [A7])]))]⟩
noncomputable def f_53:Fn:=⟨[(false,351)],[],[],[(.ret (.call g88 [Du,(.bi .list [A7])]))]⟩
noncomputable def f_54:Fn:=⟨[(false,585),(false,426)],[],[],[(.ite (.cmp .isnot B4 eN) [(.setA Y2 141 (.dct [426] [(.call Kq [B4])]))] []),(.ret Y2)]⟩
noncomputable def f_55:Fn:=⟨[(false,351),(false,426)],[.none],[],[(.ret (.call g425 [(.call g88 [Ok,(.comp false A7 Hc none (.emit (.call Qi [G5])))]),B4]))]⟩
noncomputable def f_56:Fn:=⟨[(false,422)],[],[],[(.ret (.call g88 [Qk,(.lst [Ye])]))]⟩
noncomputable def f_58:Fn:=⟨[(false,424),(false,123)],[],[],[(.setN Ft (.bin .add (.lst [(.call g83 [W3])]) (.bi .list [V5]))),(.ret (.call g41 [A7,(.bin .mul (.lst [eN]) (.bi .len [A7]))]))]⟩
noncomputable def f_59:Fn:=⟨[(false,585)],[],[],[(.setN (.one false 362) Y4),(.ite (.cmp .eq H7 u73) [(.ret e0)] []),(.ite (.or (.isinst Y2 2) (.cmp .eq H7 Pd)) [(.ret (.bi .len [(.attr Y2 351)]))] []),(.ite (.cmp .eq H7 Z0b) [(.ret (.bi .len [(.attr Y2 297)]))] []),(.ite (.cmp .eq H7 (.con (.str 232))) [(.ret (.bi .len [(.attr Y2 123)]))] []),(.ret e1)]⟩
noncomputable def f_60:Fn:=⟨[(false,585)],[],[],[(.ret (.isinst Y2 2))]⟩
noncomputable def f_61:Fn:=⟨[(false,585)],[],[],[(.ret (.cmp .isin Y4 (.tup [Ji,Qk,Jj,Du])))]⟩
noncomputable def f_62:Fn:=⟨[(false,585)],[],[],[(.ret (.cmp .isin Y4 (.tup [(.con (.str 187)),Z0a,(.con (.str 543))])))]⟩
noncomputable def f_63:Fn:=⟨[(false,585)],[],[],[(.ite (.isinst Y2 2) [(.setA Y2 524 eT)] []),(.ret Y2)]⟩
noncomputable def f_64:Fn:=⟨[(false,585),(false,424)],[],[],[(.ite (.cmp .is J4 eN) [yN] []),(.ret (.meth J4 305 [W3]))]⟩
noncomputable def f_67:Fn:=⟨[(false,362),(false,347)],[],[],[(.ite (.or (.cmp .is G5 eN) (.cmp .eq H7 Du)) [(.ret G5)] []),(.ite (.cmp .eq H7 Ji) [(.ret (.ite (.cmp .eq G5 e1) (.con (.str 85)) (.con (.str 47))))] []),(.ite (.cmp .eq H7 Qk) [.bad] []),(.ite (.cmp .ne H7 Jj) [.bad] []),(.ret (.call g441 [G5,(.con (.int 15))]))]⟩
noncomputable def f_69:Fn:=⟨[(true,586)],[],[382,563],[(.setN (.one true 382) (.call Wq [Pk,Q5h])),(.ite (.and (.cmp .isnot (.cel 382) eN) (.and (.cmp .eq (.attr Pk 362) Qk) (.cmp .isin Pe (.call Q5d [Pk])))) [(.setN (.one true 563) (.ite (.call Q5e [(.cel 382)]) (.comp false (.attr (.cel 382) 351) Uq none (.emit (.call g366 [(.attr (.cel 382) 362),X9]))) (.lst []))),(.ret (.comp false (.attr Pk 351) Hc none (.emit (.call g380 [(.cel 563),G5]))))] []),(.ret (.comp false (.attr Pk 351) Hc none (.emit (.call g366 [(.attr Pk 362),G5]))))]⟩
noncomputable def f_71:Fn:=⟨[(false,585)],[],[],[(.ite (.cmp .eq Y4 Pd) [(.for_ false (.attr Y2 555) (.one false 554) [(.ite (.cmp .isnot Pm eN) [(.ret (.comp false (.attr Y2 555) Uq none (.emit (.ite (.cmp .is X9 eN) u0 X9))))] [])]),yN] []),(.ite (.cmp .eq Y4 Z0b) [.bad] []),(.setN (.one false 225) (.call Q9v [Y2])),(.ite (.and (.cmp .isnot (.loc 225) eN) (.cmp .eq (.bi .len [(.loc 225)]) e1)) [(.setN (.one false 502) (.call g223 [Y2])),(.ret (.ite (.cmp .is Jm eN) eN (.sub Jm e0)))] []),(.setN Kr (.call Wq [Y2,Fr])),(.ite (.cmp .is B4 eN) [yN] []),(.ret (.bi .list [(.attr B4 351)]))]⟩
noncomputable def f_72:Fn:=⟨[(false,585)],[],[],[(.setN (.one false 225) (.call Wq [Y2,Pf])),(.ite (.cmp .is (.loc 225) eN) [yN] []),(.ret (.bi .list [(.attr (.loc 225) 351)]))]⟩
noncomputable def f_73:Fn:=⟨[(false,585)],[],[],[(.setN Ur (.call Wq [Y2,Fs])),(.ite (.cmp .is M0 eN) [yN] []),(.ret (.comp false (.attr M0 351) (.one false 462) none (.emit (.ite (.cmp .eq (.attr (.loc 462) 362) u73) eN (.bi .list [(.attr (.loc 462) 351)])))))]⟩
noncomputable def f_74:Fn:=⟨[(false,585)],[],[],[(.setN Ur (.call Wq [Y2,(.con (.str 185))])),(.ite (.cmp .is M0 eN) [(.ret (.lst []))] []),(.ret (.bi .list [(.attr M0 351)]))]⟩
noncomputable def f_75:Fn:=⟨[(false,520),(false,292),(false,555)],[],[],[(.setA Z2 292 (.loc 292)),(.setA Z2 555 (.loc 555)),(.setA Z2 584 (.bin .mul (.lst [e0]) (.bi .len [(.loc 555)]))),(.setA Z2 468 (.dct [] []))]⟩
noncomputable def f_76:Fn:=⟨[(false,520)],[],[],[(.for_ false (.attr Z2 292) Q5i [(.ite (.cmp .ne W3 u32) [(.for_ true (.bi .len [L5]) Ks [(.ite (.and (.cmp .eq (.sub L5 B5) W3) (.cmp .eq (.sub O0 B5) e0)) [(.ite (.cmp .isin W3 O1) [.bad] []),(.setI O1 W3 B5),(.setI O0 B5 e2)] [])])] [])])]⟩
noncomputable def f_77:Fn:=⟨[(false,520)],[],[],[(.for_ false (.attr Z2 292) Q5i [(.ite (.cmp .eq W3 u32) [yN] []),(.ite (.cmp .notin W3 O1) [(.ex (.meth Z2 464 [W3]))] [])])]⟩
noncomputable def f_78:Fn:=⟨[(false,520),(false,424)],[],[],[(.for_ true (.bi .len [L5]) Ks [(.setN (.one false 554) (.sub L5 B5)),(.ite (.and (.cmp .ne (.sub O0 B5) e2) (.and (.cmp .isnot Pm eN) (.and (.cmp .ne Pm u0) (.meth W3 547 [Pm])))) [(.ite (.cmp .eq (.sub O0 B5) e1) [.bad] []),(.ite (.cmp .isin W3 O1) [.bad] []),(.setI O1 W3 B5),(.setI O0 B5 e1)] [])])]⟩
noncomputable def f_79:Fn:=⟨[(false,520)],[],[],[(.setN Ks e0),(.for_ false (.attr Z2 292) Q5i [(.ite (.cmp .eq W3 u32) [yN] []),(.ite (.cmp .notin W3 O1) [(.whil (.and (.cmp .lt B5 (.bi .len [L5])) (.not (.meth Z2 339 [B5]))) [(.augL false 467 .add e1)]),(.ite (.cmp .lt B5 (.bi .len [L5])) [(.setI O1 W3 B5),(.setI O0 B5 e2)] [])] [])])]⟩
noncomputable def f_80:Fn:=⟨[(false,520),(false,467)],[],[],[(.ret (.and (.cmp .eq (.sub O0 B5) e0) (.or (.cmp .is (.sub L5 B5) eN) (.cmp .eq (.sub L5 B5) u0))))]⟩
noncomputable def f_81:Fn:=⟨[(true,520)],[],[],[(.ret (.comp true (.bi .len [(.attr (.cel 520) 555)]) Ks (some (.cmp .eq (.sub (.attr (.cel 520) 584) B5) e0)) (.emit B5)))]⟩
noncomputable def f_86:Fn:=⟨[(false,292),(false,123),(false,526)],[.none],[],[(.setN (.one false 407) (.call g65 [(.loc 292),(.comp false V5 (.one false 122) none (.emit (.sub (.loc 122) e0)))])),(.ex (.meth (.loc 407) 259 [])),(.ex (.meth (.loc 407) 463 [])),(.ex (.meth (.loc 407) 473 [])),(.setN (.one false 492) (.meth (.loc 407) 492 [])),(.ite (.and (.cmp .gt (.bi .len [Wt]) e0) (.cmp .notin u32 (.loc 292))) [.bad] []),(.ret (.tup [(.attr (.loc 407) 468),Wt]))]⟩
noncomputable def f_87:Fn:=⟨[(true,123),(false,292),(false,526)],[.none],[],[(.setN (.many [(false,468),(false,492)]) (.call g406 [(.bi .list [(.loc 292)]),(.cel 123),(.ite (.cmp .is (.loc 526) eN) g471 (.loc 526))])),(.setN Q5j (.lst [])),(.for_ false (.loc 292) Q5i [(.ite (.cmp .eq W3 u32) [(.ex (.meth D8 119 [(.comp false Wt Ks none (.emit (.sub (.cel 123) B5)))]))] [(.ite (.cmp .isin W3 (.loc 468)) [(.ex (.meth D8 119 [(.sub (.sub (.cel 123) (.sub (.loc 468) W3)) e1)]))] [(.ex (.meth D8 119 [eN]))])])]),(.ret D8)]⟩
noncomputable def f_88:Fn:=⟨[(false,585)],[],[],[(.ret (.and (.cmp .eq Y4 Qk) (.and (.cmp .isin Pe (.call Q5d [Y2])) (.cmp .isnot (.call Wq [Y2,Q5h]) eN))))]⟩
noncomputable def f_92:Fn:=⟨[(false,585),(false,424)],[],[],[(.ite (.or (.cmp .is Y2 eN) (.cmp .eq Y4 Q9y)) [.bad] []),(.ret Y2)]⟩
noncomputable def Z0f:Fn:=⟨[(false,267),(false,123)],[],[],[(.ite (.and (.cmp .eq O2 Z0a) (.cmp .ne (.attr K3 309) (.con (.str 317)))) [(.for_ true (.bi .len [V5]) Ks [(.ite (.cmp .eq (.attr (.sub (.sub V5 B5) e1) 362) Q9y) [.bad] [])])] [])]⟩
noncomputable def f_94:Fn:=⟨[(false,326),(false,267),(false,252)],[],[],[(.setN Jk (.call Dr [K3,u48])),(.ite (.call g340 [K3]) [(.ret K3)] []),(.ite (.and (.cmp .eq O2 Du) (.and (.cmp .eq (.call Qj [K3]) e1) (.cmp .isnot (.sub (.attr K3 351) e0) eN))) [(.ret (.meth J7 276 [(.sub (.attr K3 351) e0),M3]))] []),(.ite (.cmp .eq O2 Q9z) [(.ret (.meth J7 276 [(.attr K3 424),M3]))] []),.bad]⟩
noncomputable def f_95:Fn:=⟨[(true,585)],[],[155],[(.ite (.cmp .eq D9 u73) [(.ret (.lst []))] []),(.ite (.cmp .eq D9 Pd) [(.ret (.comp false O3 Hc none (.emit (.call Qi [G5]))))] []),(.ite (.cmp .eq D9 Z0b) [.bad] []),(.ite (.not (.call Ds [S3])) [(.ret (.lst [S3]))] []),(.ite (.cmp .isin D9 (.tup [Ok,Z0c,(.con (.str 459))])) [(.ret (.comp false O3 Hc none (.emit (.call Qi [G5]))))] []),(.ite (.call g337 [S3]) [(.setN (.one true 155) (.call g88 [D9,O3,(.dct [382,185] [(.sub (.attr S3 141) Q5h),(.sub (.attr S3 141) (.con (.str 185)))])])),(.ret (.comp true (.call Qj [S3]) Ks none (.emit (.call Qi [(.call g466 [(.cel 155),(.lst [B5])])]))))] []),(.ret (.comp false O3 Hc none (.emit (.call Qi [(.call g88 [D9,(.lst [G5])])]))))]⟩
noncomputable def f_96:Fn:=⟨[(false,585)],[],[],[(.ite (.or (.call Ds [Y2]) (.cmp .eq Y4 Pd)) [(.ret (.call Sy [Y2]))] []),yN]⟩
noncomputable def Z0g:Fn:=⟨[(false,326),(false,267),(false,588),(false,492),(false,252)],[],[],[(.setN Ur (.lst [])),(.for_ false D8 Ws [(.setN Ph (.bin .add (.lst [(.tup [eN,A8])]) Wt)),(.ex (.call g487 [K3,Wu])),(.ex (.meth M0 119 [(.call Qi [(.meth J7 172 [K3,Wu,M3])])]))]),(.setA J7 614 eT),(.ret M0)]⟩
noncomputable def f_98:Fn:=⟨[(false,585),(false,620)],[],[],[(.ite (.not Wv) [yN] []),(.setN Kr (.call g587 [Y2])),(.ite (.and (.cmp .is B4 eN) (.cmp .eq Y4 Du)) [(.ret (.bi .list [(.attr Y2 351)]))] []),(.ret B4)]⟩
noncomputable def f_99:Fn:=⟨[(false,502)],[],[],[(.setN (.one false 465) (.lst [])),(.for_ false Jm (.one false 501) [(.ex (.meth Hd 119 [(.ite (.cmp .is (.loc 501) eN) (.call Q5f []) (.call Kq [(.loc 501)]))]))]),(.ret (.call Qi [(.call Dt [Hd])]))]⟩
noncomputable def f_100:Fn:=⟨[(false,362)],[],[],[(.setN (.one false 364) (.tup [u73,Ji,Qk,Jj,Du,Ok,Z0c])),(.ite (.cmp .isin H7 (.loc 364)) [(.ret (.meth (.loc 364) 317 [H7]))] []),(.ret e5)]⟩
noncomputable def f_101:Fn:=⟨[(false,364)],[],[],[(.setN Kr (.tup [u73,Ji,Qk,Jj,Du,Ok,Z0c])),(.setN (.one false 419) e0),(.for_ false (.loc 364) (.one false 362) [(.setN (.one false 419) (.bi .max [(.loc 419),(.call g363 [H7])]))]),(.ret (.sub B4 (.loc 419)))]⟩
noncomputable def f_106:Fn:=⟨[(false,362),(false,347)],[],[],[(.ite (.cmp .eq H7 Du) [(.ret (.ite (.cmp .is G5 eN) eN (.call g136 [G5])))] []),(.ite (.cmp .eq H7 Jj) [(.ite (.call g342 [G5]) [yN] []),(.ret (.ite (.and (.cmp .eq (.sub G5 e0) e0) (.cmp .eq (.sub G5 e1) e1)) e0 e1))] []),(.ite (.cmp .is G5 eN) [yN] []),(.ret (.ite (.cmp .eq G5 e0) e0 e1))]⟩
noncomputable def f_108:Fn:=⟨[(false,362),(false,347),(false,438)],[],[],[(.ite (.or (.cmp .eq H7 Jj) (.cmp .is G5 eN)) [(.ret G5)] []),(.ite (.cmp .eq H7 Du) [(.ret (.call g562 [G5,(.loc 438)]))] []),(.ret (.call g299 [G5]))]⟩
noncomputable def f_110:Fn:=⟨[(false,362),(false,347),(false,567),(false,438)],[],[],[(.ite (.cmp .eq H7 Ww) [(.ret G5)] []),(.ite (.or (.cmp .eq Ww Ok) (.or (.cmp .eq Ww Z0c) (.cmp .eq Ww (.con (.str 459))))) [(.ret (.ite (.call g331 [H7]) (.call Qi [(.call g88 [H7,(.lst [G5])])]) G5))] []),(.ite (.not (.call g331 [H7])) [(.ret (.call g385 [H7,G5,Ww,(.loc 438)]))] []),(.ite (.cmp .eq Ww Ji) [(.ret (.call g570 [H7,G5]))] []),(.ite (.cmp .eq Ww Qk) [(.ret (.call g569 [H7,G5,(.loc 438)]))] []),(.ite (.cmp .eq Ww Jj) [(.ret (.call g568 [H7,G5,(.loc 438)]))] []),(.ret (.call g571 [H7,G5]))]⟩
noncomputable def f_111:Fn:=⟨[(false,362)],[],[],[(.ret (.cmp .isin H7 (.tup [Ji,Qk,Jj,Du])))]⟩
noncomputable def f_115:Fn:=⟨[(false,585),(false,426)],[],[],[(.ite (.cmp .isnot B4 eN) [(.setA Y2 141 (.dct [426] [(.call Qi [(.call Kq [B4])])]))] []),(.ret Y2)]⟩
noncomputable def f_116:Fn:=⟨[(true,585),(true,362),(true,438)],[],[],[(.ite (.not (.isinst S3 2)) [(.ret (.call g137 [S3,Pn]))] []),(.setN Ft O3),(.ite (.cmp .ne D9 Pn) [(.setN Ft (.comp false O3 Hc none (.emit (.call g348 [D9,G5,Pn,(.cel 438)]))))] []),(.ret (.call g629 [(.call g88 [Pn,(.bi .list [A7])]),(.call Sy [S3])]))]⟩
noncomputable def f_117:Fn:=⟨[(false,585)],[],[],[(.setN (.one false 207) (.call Qj [Y2])),(.ite (.cmp .eq (.loc 207) e0) [.bad] []),(.ite (.cmp .gt (.loc 207) e1) [.bad] []),(.setN Ur eN),(.ite (.call Q5e [Y2]) [(.setN Ur (.call g570 [Y4,(.sub (.attr Y2 351) e0)]))] []),(.ite (.cmp .is M0 eN) [(.ite (.cmp .eq Y4 Ji) [.bad] []),.bad] []),(.ret (.cmp .eq M0 e1))]⟩
noncomputable def f_118:Fn:=⟨[(false,585),(false,211)],[],[],[(.ite (.cmp .is Y2 eN) [(.ret (.loc 211))] []),(.ite (.or (.not (.call Ds [Y2])) (.cmp .eq (.call Qj [Y2]) e0)) [.bad] []),(.setN Hc (.sub (.attr (.call Sz [Y2,Ji,(.lst [])]) 351) e0)),(.ite (.cmp .is G5 eN) [yN] []),(.ret (.cmp .eq G5 e1))]⟩
noncomputable def f_129:Fn:=⟨[(false,585)],[],[],[(.ret (.and (.cmp .eq Y4 Qk) (.cmp .isin Pe (.call Q5d [Y2]))))]⟩
noncomputable def f_130:Fn:=⟨[(false,585)],[],[],[(.ret (.and (.call g336 [Y2]) (.cmp .isin (.con (.str 449)) (.call Q5d [Y2]))))]⟩
noncomputable def f_131:Fn:=⟨[(false,267)],[],[],[(.setN Ur (.call Wq [K3,Q5h])),(.ite (.or (.cmp .is M0 eN) (.not (.call Q5e [M0]))) [(.ret (.lst []))] []),(.ret (.comp false (.call g367 [M0]) Uq none (.emit (.ite (.cmp .is X9 eN) (.con (.str 69)) X9))))]⟩
noncomputable def f_132:Fn:=⟨[(false,267)],[],[207],[(.setN (.one true 207) (.bi .len [(.call Pa [K3])])),(.ret (.comp false (.attr K3 351) (.one false 188) none (.emit (.ite (.and (.cmp .isnot Fx eN) (.cmp3 .le .le e1 Fx Pp)) Fx eN))))]⟩
noncomputable def f_133:Fn:=⟨[(false,267)],[],[563],[(.setN (.one true 563) (.call Pa [K3])),(.ret (.comp false (.call g190 [K3]) (.one false 188) none (.emit (.ite (.cmp .is Fx eN) eN (.sub (.cel 563) (.bin .sub Fx e1))))))]⟩
noncomputable def f_134:Fn:=⟨[(false,449)],[],[],[(.ite (.loc 449) [(.ret (.call Kq [(.lst [(.con (.str 449)),Pe])]))] []),(.ret (.call Kq [(.lst [Pe])]))]⟩
noncomputable def f_135:Fn:=⟨[(false,585),(false,563),(false,449)],[],[],[(.ite (.cmp .is J4 eN) [(.setA Y2 141 (.dct [] []))] []),(.setI J4 Q5h (.call Kq [Om])),(.setI J4 (.con (.str 185)) (.call g270 [(.loc 449)])),(.ret Y2)]⟩
noncomputable def f_136:Fn:=⟨[(false,563)],[],[],[(.setN Ur (.dct [] [])),(.for_ false Om Uq [(.ite (.cmp .isnot X9 eN) [(.setI M0 X9 eT)] [])]),(.ret (.bi .list [M0]))]⟩
noncomputable def f_138:Fn:=⟨[(false,563),(false,382)],[],[468],[(.setN (.one true 468) (.dct [] [])),(.for_ true (.bi .len [Dv]) (.one false 315) [(.ite (.and (.cmp .isnot (.sub Dv Pq) eN) (.cmp .notin (.sub Dv Pq) (.cel 468))) [(.setI (.cel 468) (.sub Dv Pq) (.bin .add Pq e1))] [])]),(.ret (.comp false Om Uq none (.emit (.ite (.cmp .is X9 eN) eN (.meth (.cel 468) 305 [X9])))))]⟩
noncomputable def f_139:Fn:=⟨[(false,585)],[],[],[(.ite (.cmp .eq Y4 u73) [(.ret (.lst []))] []),(.ite (.not (.call Q5e [Y2])) [.bad] []),(.ret (.call g367 [Y2]))]⟩
noncomputable def f_140:Fn:=⟨[(false,368),(false,382)],[],[277],[(.ite (.cmp .is (.loc 368) eN) [(.ret Dv)] []),(.setN (.one false 563) (.call g349 [(.loc 368)])),(.ite (.cmp .eq (.bi .len [Om]) (.bi .len [Dv])) [(.ret Om)] []),(.ite (.cmp .eq (.bi .len [Om]) e1) [(.setN (.one true 277) (.ite (.cmp .is (.sub Om e0) eN) (.con (.str 69)) (.sub Om e0))),.bad] []),.bad]⟩
noncomputable def f_141:Fn:=⟨[(false,382)],[],[],[(.setN (.one false 519) (.dct [] [])),(.for_ true (.bi .len [Dv]) (.one false 315) [(.ite (.cmp .isin (.sub Dv Pq) (.loc 519)) [.bad] []),(.setI (.loc 519) (.sub Dv Pq) eT)])]⟩
noncomputable def f_142:Fn:=⟨[(false,585),(false,382),(false,368),(true,260),(false,449)],[],[354],[(.setN (.one false 563) (.call g349 [Y2])),(.ite (.cmp .isnot Dv eN) [(.setN Z0d (.comp false (.call g349 [Dv]) Uq (some (.cmp .isnot X9 eN)) (.emit X9)))] [(.ite (.cmp .eq Y4 u73) [(.setN Z0d (.lst []))] [(.setN Z0d (.call g540 [Y2]))])]),(.setN Z0d (.comp false Wv Uq (some (.cmp .notin X9 (.cel 260))) (.emit X9))),(.ex (.call g179 [Wv])),(.setN (.one false 173) (.call g365 [(.loc 368),Wv])),(.setN Kr (.call g229 [(.loc 173)])),(.setN (.one true 354) (.call g191 [(.loc 173),B4])),(.setN (.one false 189) (.comp false (.call g191 [Om,Wv]) (.one false 188) none (.emit (.ite (.cmp .is Fx eN) eN (.sub (.cel 354) (.bin .sub Fx e1)))))),(.setN Pi (.call R9 [(.loc 189)])),(.ite (.cmp .ne Y4 u73) [(.ex (.call g425 [Zi,(.call Sy [Y2])]))] []),(.ret (.call g628 [Zi,B4,(.loc 449)]))]⟩
noncomputable def f_144:Fn:=⟨[(false,465)],[],[277],[(.setN Kr (.lst [])),(.for_ false Hd Jk [(.ex (.meth B4 265 [(.call Pa [K3])]))]),(.setN Kr (.call g229 [B4])),(.ex (.call Q9w [(.bi .sum [(.comp false Hd Jk none (.emit (.call Qj [K3])))])])),(.setN (.one false 189) (.lst [])),(.for_ false Hd Jk [(.ex (.meth (.loc 189) 265 [(.call g191 [(.call g271 [K3]),B4])]))]),(.setN (.one true 277) (.ite (.cmp .gt (.bi .len [Hd]) e0) (.call Pa [(.sub Hd e0)]) (.lst []))),(.setN (.one false 116) (.comp false Hd Jk (some (.and (.call g343 [K3]) (.cmp .eq (.call Pa [K3]) (.cel 277)))) (.emit K3))),(.ret (.call g628 [(.call R9 [(.loc 189)]),B4,(.and (.cmp .gt (.bi .len [Hd]) e0) (.cmp .eq (.bi .len [(.loc 116)]) (.bi .len [Hd])))]))]⟩
noncomputable def f_145:Fn:=⟨[(false,452),(false,323)],[],[],[(.ite (.or (.cmp .eq (.loc 452) u0) (.cmp .is (.loc 452) eN)) [(.ret (.loc 323))] []),(.ite (.or (.cmp .eq (.loc 323) u0) (.cmp .is (.loc 323) eN)) [(.ret (.loc 452))] []),(.ret (.bin .add (.bin .add (.loc 452) (.con (.str 30))) (.loc 323)))]⟩
noncomputable def f_146:Fn:=⟨[(false,588)],[],[],[(.for_ false D8 Ws [(.ite (.not (.call g336 [A8])) [yF] [])]),(.ret (.cmp .gt (.bi .len [D8]) e0))]⟩
noncomputable def f_147:Fn:=⟨[(false,588)],[],[362],[(.ite (.call g117 [D8]) [(.ret (.call g194 [D8]))] []),(.setN (.one true 362) (.call g197 [(.comp false D8 Ws none (.emit (.attr A8 362)))])),(.ret (.call g88 [Pn,(.comp false D8 Ws none (.emit (.sub (.attr (.call Sz [A8,Pn,(.lst [])]) 351) e0)))]))]⟩
noncomputable def f_148:Fn:=⟨[(false,588),(false,426)],[],[],[(.setN Pi (.call g357 [D8])),(.setN Ur (.lst [])),(.setN (.one false 538) (.cmp .isnot B4 eN)),(.for_ true (.bi .len [D8]) Ks [(.setN (.one false 456) (.call Sy [(.sub D8 B5)])),(.setN (.one false 323) u0),(.ite (.and (.cmp .isnot (.loc 456) eN) (.cmp .eq (.bi .len [(.loc 456)]) e1)) [(.setN (.one false 323) (.sub (.loc 456) e0)),(.setN (.one false 538) eT)] []),(.ex (.meth M0 119 [(.call g355 [(.ite (.cmp .is B4 eN) u0 (.sub B4 B5)),(.loc 323)])]))]),(.ite (.loc 538) [(.setN (.one false 141) (.or (.attr Zi 141) (.dct [] []))),(.setI Fw Fr (.call Qi [(.call Kq [M0])])),(.setA Zi 141 Fw)] []),(.ret Zi)]⟩
noncomputable def f_150:Fn:=⟨[(false,588)],[],[],[(.setN (.one false 524) (.neg e1)),(.for_ false D8 Ws [(.ite (.not (.call Ds [A8])) [(.ret (.neg e1))] []),(.ite (.and (.cmp .ge (.loc 524) e0) (.cmp .ne (.call Qj [A8]) (.loc 524))) [(.ret (.neg e1))] []),(.setN (.one false 524) (.call Qj [A8]))]),(.ret (.loc 524))]⟩
noncomputable def f_152:Fn:=⟨[(false,588),(false,426)],[],[],[(.setN (.one false 207) (.call g198 [D8])),(.ite (.cmp .eq (.loc 207) e1) [(.ret (.call g195 [D8,B4]))] []),(.ite (.cmp .gt (.loc 207) e1) [(.ret (.call g134 [D8,B4]))] []),(.ret (.call Dt [D8,B4]))]⟩
noncomputable def Ip:Fn:=⟨[(false,326),(false,123),(false,252)],[],[],[(.setN (.many [(false,585),(false,267),(false,492)]) (.call Wr [V5,(.lst [u89,u48,u32])])),(.ex (.call Dr [Y2,u89])),(.setN Jk (.call Fp [J7,K3,M3])),(.ret (.call Dt [(.call g169 [J7,K3,(.call Pb [Y2]),Wt,M3]),(.call g587 [Y2])]))]⟩
noncomputable def f_154:Fn:=⟨[(false,326),(false,123),(false,252)],[],[],[(.setN (.many [(false,585),(false,267),(false,492),(false,535),(false,425)]) (.call Wr [V5,(.lst [u89,u48,u32,(.con (.str 535)),(.con (.str 87))])])),(.ex (.call Dr [Y2,u89])),(.setN Jk (.call Fp [J7,K3,M3])),(.setN Ur (.call g169 [J7,K3,(.call Pb [Y2]),Wt,M3])),(.setN Kr (.call g583 [Y2,(.call Oj [(.loc 425),eT])])),(.ite (.call Oj [(.loc 535),eT]) [(.ret (.call g534 [M0,B4]))] []),(.ret (.call Dt [M0,B4]))]⟩
noncomputable def f_155:Fn:=⟨[(false,586),(false,287),(false,467)],[],[],[(.ite (.cmp .ne (.call Qj [A8]) (.call Qj [Yg])) [.bad] []),(.setN (.one false 278) (.and (.call Ds [A8]) (.cmp .eq (.attr A8 362) W9))),(.ite (.and (.not (.loc 278)) (.and (.call Ds [A8]) (.cmp .isin (.attr A8 362) (.tup [Ji,Qk])))) [(.setN (.one false 278) (.and (.cmp .isin W9 (.tup [Qk,Jj])) (.cmp .lt (.call g363 [(.attr A8 362)]) (.call g363 [W9]))))] []),(.ite (.not (.loc 278)) [.bad] [])]⟩
noncomputable def f_156:Fn:=⟨[(false,326),(false,123),(false,252)],[],[],[(.setN (.many [(false,585),(false,267),(false,287),(false,492),(false,425)]) (.call Wr [V5,(.lst [u89,u48,(.con (.str 49)),u32,(.con (.str 87))])])),(.ex (.call Dr [Y2,u89])),(.setN Jk (.call Fp [J7,K3,M3])),(.ite (.not (.call Ds [(.call Dr [Yg,(.con (.str 49))])])) [.bad] []),(.setN Q5j (.call Pb [Y2])),(.setN Ur (.lst [])),(.setN Z0e (.call g143 [Yg,Yg])),(.for_ true (.bi .len [D8]) Ks [(.setN Ph (.bin .add (.lst [(.tup [eN,(.sub D8 B5)])]) Wt)),(.ex (.call g487 [K3,Wu])),(.setN Ws (.meth J7 172 [K3,Wu,M3])),(.ex (.call g180 [A8,Yg,B5])),(.ite (.and (.cmp .eq B5 e0) (.cmp .eq Pr (.bin .mul (.lst [eN]) (.bi .len [Pr])))) [(.setN Z0e (.call g143 [A8,Yg]))] []),(.ex (.meth M0 119 [(.call Sz [A8,W9,(.lst [])])]))]),(.setA J7 614 eT),(.setN Kr (.call g583 [Y2,(.call Oj [(.loc 425),eT])])),(.ite (.cmp .eq (.call Qj [Yg]) e1) [(.setN Pi (.call g88 [W9,(.comp false M0 Ws none (.emit (.sub (.attr A8 351) e0)))])),(.ite (.cmp .isnot B4 eN) [(.setA Zi 141 (.dct [426] [(.call Qi [(.call Kq [B4])])]))] []),(.ret Zi)] []),(.ret (.call g288 [M0,Yg,Pr,B4]))]⟩
noncomputable def f_157:Fn:=⟨[(false,585),(false,287)],[],[],[(.setN Q5k (.call Q9v [Yg])),(.ite (.cmp .is He eN) [(.ret (.lst [(.call Sy [Y2])]))] []),(.ite (.cmp .ne (.call Q9v [Y2]) He) [(.ret (.bin .mul (.lst [eN]) (.bi .len [He])))] []),(.ret (.or (.call g223 [Y2]) (.bin .mul (.lst [eN]) (.bi .len [He]))))]⟩
noncomputable def f_158:Fn:=⟨[(false,294),(false,287),(false,314),(false,426)],[],[],[(.setN Ft (.lst [])),(.ex (.call Q9w [(.bin .mul (.call Qj [Yg]) (.bi .len [M0]))])),(.for_ false M0 Ws [(.ex (.meth A7 265 [(.attr A8 351)]))]),(.setN Q5k (.or (.call Q9v [Yg]) (.lst [(.call Qj [Yg])]))),(.setN Pi (.call g88 [W9,A7,(.dct [219] [(.call Qi [(.call R9 [(.bin .add He (.lst [(.bi .len [M0])]))])])])])),(.setN (.one false 502) (.bin .add Pr (.lst [B4]))),(.ite (.cmp .ne Jm (.bin .mul (.lst [eN]) (.bi .len [Jm]))) [(.setI (.attr Zi 141) Fs (.call g224 [Jm]))] []),(.ret Zi)]⟩
noncomputable def f_159:Fn:=⟨[(false,326),(false,267),(false,502),(false,418),(false,252)],[],[207,467],[(.setN (.one false 193) (.comp false Jm (.many [(false,554),(false,586)]) none (.emit (.tup [Pm,(.call Pb [(.call Dr [A8,u32])])])))),(.setN (.one true 207) e0),(.for_ false (.loc 193) (.many [(false,554),(false,588)]) [(.setN (.one true 207) (.bi .max [Pp,(.bi .len [D8])]))]),(.for_ false (.loc 193) (.many [(false,554),(false,588)]) [(.ite (.and (.cmp .eq (.bi .len [D8]) e0) (.cmp .gt Pp e0)) [.bad] [])]),(.setN Ur (.lst [])),(.for_ true Pp (.one true 467) [(.setN Ph (.comp false (.loc 193) (.many [(false,554),(false,588)]) none (.emit (.tup [Pm,(.sub D8 (.bin .mod (.cel 467) (.bi .len [D8])))])))),(.ex (.meth M0 119 [(.call Qi [(.meth J7 172 [K3,(.bin .add Wu (.loc 418)),M3])])]))]),(.setN (.one false 444) (.comp false (.loc 193) (.many [(false,554),(false,588)]) (some (.and (.cmp .gt Pp e0) (.cmp .ne (.bin .mod Pp (.bi .len [D8])) e0))) (.emit e1))),(.ite (.cmp .gt (.bi .len [(.loc 444)]) e0) [(.ex (.meth J7 621 [(.lst [(.con (.str 391))])]))] []),(.setA J7 614 eT),(.ret M0)]⟩
noncomputable def f_160:Fn:=⟨[(false,502),(false,425)],[],[],[(.ite (.cmp .eq (.bi .len [Jm]) e0) [yN] []),(.ret (.call g583 [(.sub (.sub Jm e0) e1),(.loc 425)]))]⟩
noncomputable def f_161:Fn:=⟨[(false,326),(false,123),(false,252)],[],[418,555],[(.setN (.many [(false,267),(false,502),(true,418),(false,535),(false,425)]) (.call Wr [V5,(.lst [u48,u32,(.con (.str 68)),(.con (.str 81)),(.con (.str 87))])])),(.setN Jk (.call Fp [J7,K3,M3])),(.setN Ph (.lst [])),(.ite (.and (.cmp .isnot Fy eN) (.cmp .ne (.attr Fy 362) u73)) [(.ite (.cmp .ne (.attr Fy 362) Ok) [.bad] []),(.setN (.one true 555) (.or (.call Sy [Fy]) (.bin .mul (.lst [eN]) (.call Qj [Fy])))),(.setN Ph (.comp true (.call Qj [Fy]) (.one false 139) none (.emit (.tup [(.or (.sub (.cel 555) (.loc 139)) eN),(.sub (.attr Fy 351) (.loc 139))]))))] []),(.setN Ur (.call g617 [J7,K3,Jm,Wu,M3])),(.setN Kr (.call g573 [Jm,(.call Oj [(.loc 425),eT])])),(.ite (.and (.cmp .isnot B4 eN) (.cmp .ne (.bi .len [B4]) (.bi .len [M0]))) [(.setN Kr eN)] []),(.ite (.call Oj [(.loc 535),eT]) [(.ret (.call g534 [M0,B4]))] []),(.ret (.call Dt [M0,B4]))]⟩
noncomputable def f_163:Fn:=⟨[(false,326),(false,123),(false,252)],[],[],[(.setN (.many [(false,267),(false,585),(false,322),(false,497),(false,114),(false,535)]) (.call Wr [V5,(.lst [(.con (.str 267)),Pg,(.con (.str 322)),(.con (.str 497)),(.con (.str 114)),(.con (.str 535))])])),(.setN Jk (.call Fp [J7,K3,M3])),(.setN (.one false 154) (.call Oj [(.loc 497),eF])),(.setN Q5j (.call Pb [(.call Dr [Y2,Pg])])),(.ite (.cmp .eq (.bi .len [D8]) e0) [(.ret (.ite (.cmp .is (.loc 322) eN) (.call Q5f []) (.loc 322)))] []),(.ite (.cmp .isnot (.loc 322) eN) [(.setN Q5j (.ite (.loc 154) (.bin .add D8 (.lst [(.loc 322)])) (.bin .add (.lst [(.loc 322)]) D8)))] []),(.setN (.one false 258) (.call Oj [(.loc 114),eF])),(.setN (.one false 360) (.call g485 [J7,K3,D8,(.loc 154),M3])),(.ite (.not (.loc 258)) [(.ret (.sub Ps (.neg e1)))] []),(.ite (.loc 154) [.bad] []),(.ite (.and (.call Oj [(.loc 535),eT]) (.call g118 [Ps])) [(.ret (.call g195 [Ps,eN]))] []),(.ret (.call Dt [Ps]))]⟩
noncomputable def f_164:Fn:=⟨[(false,326),(false,123),(false,252)],[],[],[(.setN (.many [(false,267),(false,585),(false,497),(false,450)]) (.call Wr [V5,(.lst [(.con (.str 267)),Pg,(.con (.str 497)),(.con (.str 436))])])),(.setN Jk (.call Fp [J7,K3,M3])),(.setN Q5j (.call Pb [(.call Dr [Y2,Pg])])),(.setN (.one false 468) (.bi .listRange [(.bi .len [D8])])),(.ite (.call Oj [(.loc 497),eF]) [.bad] []),(.setN (.one false 557) eN),(.for_ false (.loc 468) Ks [(.ite (.call g204 [(.meth J7 172 [K3,(.lst [(.tup [eN,(.sub D8 B5)])]),M3])]) [(.setN (.one false 557) B5),(.brk)] [])]),(.setA J7 614 eT),(.ret (.tup [D8,(.loc 557),(.loc 450)]))]⟩
noncomputable def f_165:Fn:=⟨[(false,326),(false,123),(false,252)],[],[],[(.setN (.many [(false,588),(false,467),(false,450)]) (.call g295 [J7,V5,M3])),(.ite (.cmp .isnot B5 eN) [(.ret (.call R9 [(.lst [(.bin .add B5 e1)])]))] []),(.ret (.ite (.cmp .is (.loc 450) eN) (.call R9 [(.lst [eN])]) (.loc 450)))]⟩
noncomputable def f_166:Fn:=⟨[(false,326),(false,123),(false,252)],[],[],[(.setN (.many [(false,588),(false,467),(false,450)]) (.call g295 [J7,V5,M3])),(.ite (.cmp .isnot B5 eN) [(.ret (.sub D8 B5))] []),(.ret (.ite (.cmp .is (.loc 450) eN) (.call Q5f []) (.loc 450)))]⟩
noncomputable def f_167:Fn:=⟨[(false,635)],[],[],[(.ite (.and (.cmp .isnot Us eN) (.or (.cmp .gt (.bi .abs [(.sub Us e0)]) g57) (.cmp .gt (.sub Us e1) g57))) [.bad] []),(.ret Us)]⟩
noncomputable def f_168:Fn:=⟨[(false,585)],[],[],[(.ite (.or (.cmp .is J4 eN) (.cmp .notin Pf J4)) [yN] []),(.ret (.attr (.sub J4 Pf) 351))]⟩
noncomputable def f_169:Fn:=⟨[(false,585),(false,142)],[],[],[(.ite (.or (.cmp .is J4 eN) (.cmp .notin Fs J4)) [yN] []),(.setN Kr (.sub (.attr (.sub J4 Fs) 351) (.loc 142))),(.ite (.cmp .eq (.attr B4 362) u73) [yN] []),(.ret (.attr B4 351))]⟩
noncomputable def f_170:Fn:=⟨[(false,585)],[],[],[(.ite (.or (.cmp .is J4 eN) (.cmp .notin Fr J4)) [yN] []),(.ret (.attr (.sub J4 Fr) 351))]⟩
noncomputable def f_171:Fn:=⟨[(false,502)],[],[],[(.ite (.cmp .eq (.bi .len [(.comp false Jm Kr (some (.cmp .isnot B4 eN)) (.emit B4))]) e0) [yN] []),(.setN Ft (.lst [])),(.for_ false Jm Kr [(.ex (.meth A7 119 [(.ite (.cmp .is B4 eN) (.call g75 []) (.call Kq [B4]))]))]),(.ret (.call g88 [Ok,A7]))]⟩
noncomputable def f_172:Fn:=⟨[(false,362),(false,351),(false,266),(false,426)],[],[],[(.setN (.one false 399) (.call g88 [H7,A7])),(.setA (.loc 399) 141 (.dct [219] [(.call R9 [He])])),(.setN (.one false 221) (.call g222 [B4])),(.ite (.cmp .isnot (.loc 221) eN) [(.setI (.attr (.loc 399) 141) Fs (.loc 221))] []),(.ret (.loc 399))]⟩
noncomputable def f_173:Fn:=⟨[(false,585)],[],[],[(.ite (.or (.cmp .notin Y4 (.tup [Ji,Qk,Jj])) (.cmp .isin Pe (.call Q5d [Y2]))) [.bad] []),(.ret (.attr (.call Sz [Y2,Jj,(.lst [])]) 351))]⟩
noncomputable def f_174:Fn:=⟨[(false,577),(false,585)],[],[],[(.setN (.one false 112) (.call g442 [Hf])),(.setN (.one false 145) (.call g442 [Y2])),(.ex (.call Q9w [(.bin .mul (.bi .len [(.loc 112)]) (.bi .len [Pj]))])),(.setN Ft (.lst [])),(.for_ false Pj (.one false 637) [(.for_ false (.loc 112) (.one false 635) [(.ex (.meth A7 119 [(.call g630 [(.call g421 [Us,(.loc 637)])])]))])]),(.setN Q5k (.bin .add (.or (.call g225 [Hf]) (.lst [(.bi .len [(.loc 112)])])) (.or (.call g225 [Y2]) (.lst [(.bi .len [Pj])])))),(.ret (.call g431 [Jj,A7,He,(.bin .add (.call Q9x [Hf]) (.call Q9x [Y2]))]))]⟩
noncomputable def f_175:Fn:=⟨[(true,585)],[],[],[(.setN Q5k (.call g225 [S3])),(.ite (.cmp .is He eN) [(.ret (.lst [(.call g470 [S3])]))] []),(.ret (.comp true (.bi .len [He]) (.one false 142) none (.emit (.call g144 [S3,(.loc 142)]))))]⟩
noncomputable def f_177:Fn:=⟨[(false,326),(false,123),(false,252)],[],[585],[(.setN (.many [(false,577),(true,585),(false,267),(false,492)]) (.call Wr [V5,(.lst [u89,(.con (.str 90)),u48,u32])])),(.setN (.one false 422) (.call Qj [(.call Dr [Hf,u89])])),(.setN (.one false 398) (.call Qj [(.call Dr [S3,(.con (.str 90))])])),(.ite (.or (.not (.call Ds [Hf])) (.not (.call Ds [S3]))) [.bad] []),(.ite (.or (.cmp .is K3 eN) (.and (.cmp .eq O2 Du) (.cmp .eq (.attr K3 351) (.lst [(.con (.str 24))])))) [(.ret (.call g454 [Hf,S3]))] []),(.ex (.call Q9w [(.bin .mul Ye (.loc 398))])),(.setN (.one false 376) (.call g88 [(.attr Hf 362),(.bin .mul (.bi .list [(.attr Hf 351)]) (.loc 398))])),(.setN (.one false 497) (.call g88 [D9,(.comp false (.call g248 [(.loc 398),Ye]) Ks none (.emit (.sub O3 B5)))])),(.setN Jk (.call Fp [J7,K3,M3])),(.setN Ph (.bin .add (.lst [(.tup [eN,(.call Qi [(.loc 376)])]),(.tup [eN,(.call Qi [(.loc 497)])])]) Wt)),(.ex (.call g487 [K3,Wu])),(.setN Pi (.meth J7 172 [K3,Wu,M3])),(.setA J7 614 eT),(.ite (.or (.not (.call Ds [Zi])) (.cmp .ne (.call Qj [Zi]) (.bin .mul Ye (.loc 398)))) [.bad] []),(.setN Q5k (.bin .add (.call g453 [Hf]) (.call g453 [S3]))),(.ret (.call g431 [(.attr Zi 362),(.bi .list [(.attr Zi 351)]),He,(.bin .add (.call Q9x [Hf]) (.call Q9x [S3]))]))]⟩
noncomputable def f_178:Fn:=⟨[(false,326),(false,347),(false,424)],[],[],[(.setN Hc (.call Dr [G5,W3])),(.ite (.cmp .eq (.attr G5 362) (.con (.str 476))) [(.ret (.meth J7 286 [G5]))] []),(.ret G5)]⟩
noncomputable def f_179:Fn:=⟨[(false,326),(false,167),(false,252)],[],[],[(.setN (.one false 123) (.meth J7 478 [(.slF (.attr Ut 351) e1),(.slF (.attr Ut 555) e1),M3])),(.setN (.many [(false,560),(false,638),(false,434)]) (.call Wr [V5,(.lst [(.con (.str 560)),(.con (.str 638)),(.con (.str 434))])])),(.setN (.one false 560) (.call g634 [J7,(.loc 560),(.con (.str 560))])),(.setN (.one false 284) (.attr (.call Sz [(.loc 560),Ji,(.lst [])]) 351)),(.setN (.one false 542) (.lst [])),(.for_ false (.tup [(.tup [e1,(.loc 638),(.con (.str 638))]),(.tup [e0,(.loc 434),(.con (.str 434))])]) (.many [(false,620),(false,347),(false,424)]) [(.ite (.cmp .isin Wv Hg) [(.setN (.one false 585) (.call g634 [J7,G5,W3])),(.ite (.not (.call Ds [Y2])) [.bad] []),(.ex (.meth (.loc 542) 119 [(.tup [Wv,Y2])]))] [])]),(.setN (.one false 362) (.call g197 [(.bin .add (.lst [Ji]) (.comp false (.loc 542) (.many [(false,620),(false,585)]) none (.emit Y4)))])),(.setA J7 614 eT),(.setN Pi (.call g88 [H7,(.call g184 [Hg,(.loc 542),H7])])),(.for_ false (.tup [Fr,Pf,Fs]) Q5i [(.setN (.one false 360) (.call Wq [(.loc 560),W3])),(.ite (.cmp .isnot Ps eN) [(.setN (.one false 141) (.or (.attr Zi 141) (.dct [] []))),(.setI Fw W3 Ps),(.setA Zi 141 Fw)] [])]),(.ret Zi)]⟩
noncomputable def f_180:Fn:=⟨[(false,284),(false,542),(false,362)],[],[],[(.setN (.one false 369) (.ite (.call Q5e [(.call g88 [H7,(.lst [])])]) eN (.call Qi [(.call Pc [(.lst [eN])])]))),(.setN Ft (.bin .mul (.lst [(.loc 369)]) (.bi .len [Hg]))),(.for_ false (.loc 542) (.many [(false,620),(false,585)]) [(.setN (.one false 541) (.attr (.call Sz [Y2,H7,(.lst [])]) 351)),(.ite (.cmp .eq (.bi .len [(.loc 541)]) e0) [(.setN (.one false 541) (.lst [(.ite (.cmp .eq Y4 Ok) (.call Q5f []) (.loc 369))]))] []),(.for_ true (.bi .len [Hg]) Ks [(.ite (.cmp .eq (.sub Hg B5) Wv) [(.setI A7 B5 (.sub (.loc 541) (.bin .mod B5 (.bi .len [(.loc 541)]))))] [])])]),(.ret A7)]⟩
noncomputable def f_194:Fn:=⟨[(false,520),(false,383),(false,420)],[(.int 20000),(.int 40)],[],[(.setA Z2 383 (.loc 383)),(.setA Z2 420 (.loc 420)),(.setA Z2 549 e0),(.setA Z2 433 e0),(.setA Z2 156 (.meth Z2 432 [eN])),(.setA Z2 308 (.meth Z2 432 [(.attr Z2 156)])),(.setA Z2 298 (.lst [])),(.setA Z2 451 (.lst [])),(.setA Z2 623 (.lst [])),(.setA Z2 311 (.lst [])),(.setA Z2 493 (.lst [])),(.setA Z2 559 e0),(.setA Z2 614 eT),(.setA Z2 208 eN),(.setA Z2 228 eN),(.setA Z2 532 eN),(.setA Z2 622 eN),(.setA Z2 214 eN),(.setA Z2 508 eN)]⟩
noncomputable def f_195:Fn:=⟨[(false,520),(false,460)],[],[],[(.setN (.one false 252) (.call g44 [(.attr Z2 433),(.loc 460)])),(.augA Z2 433 .add e1),(.ret M3)]⟩
noncomputable def f_199:Fn:=⟨[(false,520),(false,438),(false,167)],[.none],[],[(.ite (.cmp .is Ut eN) [(.setN (.one false 167) (.attr Z2 208))] []),(.setN (.one false 614) (.attr Z2 614)),(.for_ false (.loc 438) (.one false 437) [(.ite (.cmp .is (.attr Z2 622) eN) [(.ex (.meth (.attr Z2 623) 119 [(.tup [(.loc 437),Ut])]))] [(.ex (.meth Z2 622 [Z2,(.loc 437),Ut]))])]),(.setA Z2 614 (.loc 614))]⟩
noncomputable def f_210:Fn:=⟨[(false,520),(false,351),(false,555),(false,252)],[],[],[(.setN (.one false 123) (.lst [])),(.for_ true (.bi .len [A7]) Ks [(.setN Hc (.sub A7 B5)),(.ite (.and (.cmp .eq (.attr G5 362) Q9z) (.cmp .eq (.attr G5 424) u32)) [(.ex (.meth V5 265 [(.meth Z2 545 [M3])]))] [(.ite (.or (.cmp .eq (.attr G5 362) Q9z) (.cmp .eq (.attr G5 362) Pd)) [.bad] [(.ex (.meth V5 119 [(.tup [(.sub (.loc 555) B5),(.call Qi [G5])])]))])])]),(.ret V5)]⟩
noncomputable def f_214:Fn:=⟨[(false,520),(false,165),(false,167),(false,123),(false,252)],[],[],[(.setN (.one false 511) (.attr Z2 208)),(.setA Z2 208 Ut),(.tryFin [(.ite (.and (.cmp .isnot (.attr Z2 228) eN) (.cmp .ne (.attr (.loc 165) 309) u0)) [(.setN (.many [(false,294),(false,586)]) (.meth Z2 228 [Z2,(.loc 165),Ut,V5,M3])),(.ite M0 [(.ite (.cmp .isin (.attr (.loc 165) 309) (.tup [(.con (.str 317)),(.con (.str 76)),(.con (.str 66)),(.con (.str 82))])) [(.setA Z2 614 eT)] []),(.ret A8)] [])] []),(.setA Z2 614 eT),(.ret (.meth (.loc 165) 285 [Z2,V5,M3]))] [(.setA Z2 208 (.loc 511))]),(.ret (.meth Z2 531 [(.loc 413),Ut]))]⟩
noncomputable def f_220:Fn:=⟨[(false,520),(false,267),(false,123),(false,252),(false,167)],[.none],[],[(.ite (.cmp .eq O2 (.con (.str 543))) [(.ret (.meth Z2 171 [K3,(.call g482 [K3,V5]),M3]))] []),(.ite (.cmp .is Ut eN) [(.setN (.one false 167) (.call g41 [(.lst [(.call g83 [u48]),(.call g83 [u32])]),(.lst [eN,eN])]))] []),(.ite (.cmp .eq O2 (.con (.str 187))) [(.ret (.meth Z2 121 [K3,V5,Ut,M3]))] []),(.ite (.cmp .ne O2 Z0a) [(.ret (.meth Z2 531 [(.con (.str 140)),Ut]))] []),(.ret (.meth Z2 168 [K3,Ut,V5,M3]))]⟩
noncomputable def Iq:Fn:=⟨[(false,517),(false,139),(false,383)],[],[],[(.ret (.ite (.cmp .lt (.loc 139) (.bi .len [Qm])) (.bin .mod (.sub Qm (.loc 139)) (.loc 383)) e0))]⟩
noncomputable def f_225:Fn:=⟨[(false,326),(false,123),(false,252)],[],[],[(.ret (.sub (.sub V5 e0) e1))]⟩
noncomputable def f_226:Fn:=⟨[(false,326),(false,123),(false,252)],[],[],[(.ret (.call Pc [(.lst [e0])]))]⟩
noncomputable def f_227:Fn:=⟨[(false,326),(false,123),(false,252)],[],[],[(.ret (.call Q5g [(.bin .add (.bin .mul (.bi .len [(.comp false V5 (.many [(false,554),(false,447)]) (some (.cmp .eq (.attr X9 362) Q9y)) (.emit e1))]) (.con (.int 100))) (.bi .len [V5]))]))]⟩
noncomputable def Wx:Fn:=⟨[(false,326),(false,517)],[],[289,536],[(.setN (.one false 402) (.call Un [Qm,e0,e5])),(.setN (.one false 138) (.cmp .eq (.call Un [Qm,e1,e2]) e1)),(.setN (.one false 585) (.ite (.loc 138) (.call Kq [(.bin .mul (.lst [(.con (.str 616))]) Fz)]) (.call R9 [(.bi .listRange [Fz])]))),(.setN (.one true 289) (.sub (.lst [(.lst []),(.lst [e2]),(.lst [e3]),(.lst [e2,e2]),(.lst [e1,e3])]) (.call Un [Qm,e2,e5]))),(.setN (.one true 536) e1),(.for_ false Ca Uq [(.setN (.one true 536) (.bin .mul (.cel 536) X9))]),(.setN (.one false 287) (.call R9 [(.bin .mul (.lst [e0]) (.cel 536))])),(.ite (.cmp .eq (.bi .len [Ca]) e2) [(.setA Yg 141 (.dct [219] [(.call R9 [(.bi .list [Ca])])]))] []),(.defc false 307 (.i (.o (.i (.o (.o (.i (.i .h))))))) [289,536]),(.setN Fu (.call g153 [J7,(.lst [(.tup [eN,Y2]),(.tup [eN,(.call g40 [(.con (.str 307)),eF,(.loc 307),u0])]),(.tup [eN,Yg])]),G8])),(.ite (.or (.cmp .ne (.attr Pt 362) Qk) (.cmp .ne (.bi .list [L6]) (.bin .mul (.bi .listRange [(.cel 536)]) Fz))) [yF] []),(.ite (.cmp .ne Ca (.lst [])) [(.ret (.cmp .eq (.bi .list [(.attr (.sub X0 Pf) 351)]) (.bin .add Ca (.lst [Fz]))))] []),(.setN Z0e (.ite (.or (.cmp .is X0 eN) (.cmp .notin Fr X0)) eN (.bi .list [(.attr (.sub X0 Fr) 351)]))),(.ret (.cmp .eq Pr (.ite (.loc 138) (.bin .mul (.lst [(.con (.str 616))]) Fz) eN)))]⟩
noncomputable def f_230:Fn:=⟨[(false,326),(false,517)],[],[558],[(.setN (.one true 558) (.bin .add e1 (.call Un [Qm,e3,e2]))),(.setN (.one false 627) (.bin .add e1 (.call Un [Qm,e4,e2]))),(.setN (.one false 376) (.call R9 [(.comp true Pu (.one false 371) none (.emit (.bin .add (.bin .pow (.con (.int 10)) e5) (.loc 371))))])),(.setA (.loc 376) 141 (.dct [219,221] [(.call R9 [(.lst [Pu,e1])]),(.call Dt [(.lst [(.call Kq [(.slT (.lst [(.con (.str 483)),(.con (.str 507))]) Pu)]),(.call Q5f [])])])])),(.setN (.one false 497) (.call g425 [(.call R9 [(.comp true (.loc 627) (.one false 371) none (.emit (.bin .add (.con (.int 7)) (.loc 371))))]),(.slT (.lst [Pg,(.con (.str 637))]) (.loc 627))])),(.setN Fu (.call g149 [J7,(.lst [(.tup [eN,(.loc 376)]),(.tup [eN,(.loc 497)])]),G8])),(.ite (.or (.cmp .ne (.attr Pt 362) Jj) (.cmp .ne (.bi .list [(.attr (.sub X0 Pf) 351)]) (.lst [Pu,e1,(.loc 627)]))) [yF] []),(.ite (.cmp .ne (.bi .list [L6]) (.comp true (.loc 627) (.one false 576) none (.comp true Pu Uq none (.emit (.tup [(.bin .mul (.bin .add (.bin .pow (.con (.int 10)) e5) X9) (.bin .add (.con (.int 7)) (.loc 576))),e1]))))) [yF] []),(.setN Z0e (.comp false (.attr (.sub X0 Fs) 351) Uq none (.emit (.ite (.cmp .eq (.attr X9 362) u73) eN (.bi .list [(.attr X9 351)]))))),(.ret (.cmp .eq Pr (.lst [(.slT (.lst [(.con (.str 483)),(.con (.str 507))]) Pu),eN,(.slT (.lst [Pg,(.con (.str 637))]) (.loc 627))])))]⟩
noncomputable def f_231:Fn:=⟨[(false,326),(false,517)],[],[],[(.setN Jk (.call g40 [(.con (.str 277)),eF,g101,u0])),(.setN (.one false 546) (.call R9 [(.slT (.lst [e1,e2,e3]) (.call Un [Qm,e5,e4]))])),(.for_ false (.lst [(.lst []),(.lst [(.tup [(.con (.str 114)),(.call Pc [(.lst [e1])])])]),(.lst [(.tup [(.con (.str 497)),(.call Pc [(.lst [e1])])])])]) (.one false 418) [(.setN Fu (.call g151 [J7,(.bin .add (.lst [(.tup [eN,K3]),(.tup [eN,(.call Dt [(.lst [])])]),(.tup [(.con (.str 322)),(.loc 546)])]) (.loc 418)),G8])),(.ite (.or (.cmp .ne (.attr Pt 362) Qk) (.cmp .ne (.bi .list [L6]) (.bi .list [(.attr (.loc 546) 351)]))) [yF] []),(.ite (.cmp .ne (.attr (.call g151 [J7,(.bin .add (.lst [(.tup [eN,K3]),(.tup [eN,(.call Dt [(.lst [])])])]) (.loc 418)),G8]) 362) u73) [yF] [])]),(.setN (.one false 434) (.call g40 [(.con (.str 434)),eF,g103,u0])),(.setN (.one false 501) (.call R9 [(.bi .listRange [(.call Un [Qm,e0,e5])])])),(.for_ false (.lst [g146,g150]) (.one false 479) [(.ite (.cmp .ne (.bi .list [(.attr (.call (.loc 479) [J7,(.lst [(.tup [eN,(.loc 434)]),(.tup [eN,(.loc 501)]),(.tup [(.con (.str 436)),(.call Q5g [(.con (.int 77))])])]),G8]) 351)]) (.lst [(.con (.int 77))])) [yF] [])]),(.ret (.cmp .eq (.attr (.call g146 [J7,(.lst [(.tup [eN,(.loc 434)]),(.tup [eN,(.loc 501)])]),G8]) 362) u73))]⟩
noncomputable def Wy:Fn:=⟨[(false,326),(false,517)],[],[277],[(.setN (.one true 277) (.bin .add e1 (.call Un [Qm,(.con (.int 6)),(.con (.int 6))]))),(.setN (.one false 518) (.bin .add e1 (.call Un [Qm,(.con (.int 7)),(.con (.int 6))]))),(.setN Jk (.call g40 [(.con (.str 277)),eF,g101,u0])),(.setN (.one false 157) (.bi .len [(.attr J7 623)])),(.setN Fu (.call g148 [J7,(.lst [(.tup [eN,K3]),(.tup [eN,(.call R9 [(.bi .listRange [(.cel 277)])])]),(.tup [eN,(.call R9 [(.bi .listRange [(.loc 518)])])])]),G8])),(.setN (.one false 402) (.bi .max [(.cel 277),(.loc 518)])),(.ite (.cmp .ne (.bi .list [L6]) (.comp true Fz (.one false 139) none (.emit (.bin .mod (.loc 139) (.cel 277))))) [yF] []),(.setN (.one false 242) (.ite (.cmp .ne (.bin .mod Fz (.bi .min [(.cel 277),(.loc 518)])) e0) e1 e0)),(.setN (.one false 633) (.slT (.lst [(.con (.str 145)),(.con (.str 112)),(.con (.str 166)),(.con (.str 145))]) (.bin .add e1 (.call Un [Qm,e0,e4])))),(.setN (.one false 502) (.comp false (.loc 633) (.one false 632) none (.emit (.call g401 [(.call Kq [(.lst [(.loc 632)])]),(.call Kq [(.lst [(.loc 632),(.con (.str 639))])]),eN,(.lst []),eF])))),(.setN (.one false 356) (.call g152 [J7,(.lst [(.tup [eN,(.call Dt [Jm])]),(.tup [eN,K3])]),G8])),(.ite (.or (.cmp .ne (.bi .list [(.call g271 [(.loc 356)])]) (.loc 633)) (.cmp .ne (.bi .sorted [(.call Pa [(.loc 356)])]) (.bi .sortedSet [(.bin .add (.loc 633) (.lst [(.con (.str 639))]))]))) [yF] []),(.ret (.cmp .eq (.bi .len [(.attr J7 623)]) (.bin .add (.loc 157) (.loc 242))))]⟩
noncomputable def Wz:Fn:=⟨[(false,326),(true,517)],[],[],[(.setN (.one false 284) (.comp true (.bin .add e1 (.call Un [(.cel 517),e1,e4])) (.one false 358) none (.emit (.sub (.lst [e1,e0,eN]) (.call Un [(.cel 517),(.bin .add (.con (.int 8)) (.loc 358)),e3]))))),(.setN Fu (.call g509 [J7,(.call g170 [(.con (.str 316)),(.lst [(.call Pc [(.bi .list [Hg])]),(.call g88 [Jj,(.lst [])]),(.call Q5g [e5])])]),G8])),(.setN (.one false 528) (.comp false L6 Uq none (.emit (.ite (.cmp .is X9 eN) eN (.ite (.bi .isInt [X9]) X9 (.sub X9 e0)))))),(.ite (.cmp .ne (.loc 528) (.comp false Hg (.one false 283) none (.emit (.ite (.cmp .eq (.loc 283) e0) e5 eN)))) [yF] []),(.setN Fu (.call g509 [J7,(.call g170 [(.con (.str 316)),(.lst [(.call Pc [(.bi .list [Hg])]),(.call Dt [(.lst [])]),(.call Q5g [e5])])]),G8])),(.ite (.cmp .isin e1 Hg) [(.ret (.and (.cmp .eq (.attr Pt 362) Ok) (.cmp .eq (.comp false L6 Uq none (.emit (.attr X9 362))) (.comp false Hg (.one false 283) none (.emit (.ite (.cmp .isnot (.loc 283) eN) (.sub (.lst [Qk,u73]) (.loc 283)) Ji))))))] []),(.ret (.cmp .eq (.loc 528) (.bi .list [L6])))]⟩
noncomputable def Xa:Fn:=⟨[(false,326)],[],[],[(.setN (.one false 318) (.call g40 [(.con (.str 319)),eF,g102,(.con (.str 317))])),(.setN (.one false 450) (.call g40 [(.con (.str 450)),eF,g102,u0])),(.setN (.one false 123) (.lst [(.tup [eN,(.call g67 [])]),(.tup [eN,(.call Q5g [e1])])])),(.setN Fu (.call g147 [J7,(.bin .add (.lst [(.tup [eN,(.call R9 [(.lst [e4])])]),(.tup [eN,(.loc 318)])]) V5),G8])),(.ite (.cmp .ne (.attr (.sub L6 e0) 351) (.lst [(.con (.int 103))])) [yF] []),.bad,yF]⟩
noncomputable def Xb:Fn:=⟨[(false,517)],[],[],[(.setN (.one false 326) (.call g45 [])),(.ite (.or (.not (.call g110 [J7,Qm])) (.or (.not (.call g107 [J7,Qm])) (.not (.call g106 [J7,Qm])))) [yF] []),(.ite (.or (.not (.call g109 [J7,Qm])) (.not (.call g104 [J7,Qm]))) [yF] []),(.ret (.call g105 [J7]))]⟩
noncomputable def f_229:Fn:=⟨[(false,326),(false,123),(false,252)],[],[],[(.setN (.one false 399) (.call R9 [(.bi .listRange [(.cel 536)])])),(.ite (.cmp .eq (.bi .len [Ca]) e2) [(.setA (.loc 399) 141 (.dct [219] [(.call R9 [(.bi .list [Ca])])]))] []),(.ret (.loc 399))]⟩
noncomputable def Pv:FT:=(.node (.node (.node (.node (.node (.node (.node .nil (some f_64) .nil) none (.node (.node .nil (some f_160) .nil) (some f_96) (.node .nil (some Iq) .nil))) none (.node (.node (.node .nil (some f_144) .nil) (some f_80) .nil) (some f_48) .nil)) (some f_8) (.node (.node (.node (.node .nil (some f_136) .nil) (some f_72) .nil) (some f_40) (.node (.node .nil (some f_168) .nil) none (.node .nil (some Wy) .nil))) none (.node (.node (.node .nil (some f_152) .nil) (some f_88) .nil) (some f_56) .nil))) none (.node (.node (.node (.node (.node .nil (some f_132) .nil) none .nil) none (.node (.node .nil (some f_164) .nil) (some f_100) (.node .nil (some Wx) .nil))) none (.node (.node (.node .nil (some f_148) .nil) none .nil) (some f_52) (.node (.node .nil (some f_180) .nil) (some f_116) .nil))) none (.node (.node (.node (.node .nil (some f_140) .nil) (some f_76) .nil) (some f_44) (.node (.node .nil (some f_172) .nil) (some f_108) .nil)) none (.node (.node (.node .nil (some f_156) .nil) (some f_92) (.node .nil (some f_220) .nil)) (some f_60) .nil)))) none (.node (.node (.node (.node (.node (.node .nil (some f_130) .nil) none (.node .nil (some f_194) .nil)) none (.node .nil (some f_98) (.node .nil (some f_226) .nil))) none (.node (.node (.node .nil (some f_146) .nil) none (.node .nil (some f_210) .nil)) none (.node (.node .nil (some f_178) .nil) none .nil))) (some f_10) (.node (.node (.node (.node .nil (some f_138) .nil) (some f_74) .nil) (some f_42) (.node (.node .nil (some f_170) .nil) (some f_106) (.node .nil (some Xa) .nil))) none (.node (.node (.node .nil (some f_154) .nil) none .nil) (some f_58) .nil))) none (.node (.node (.node (.node (.node .nil (some f_134) .nil) none .nil) (some f_38) (.node (.node .nil (some f_166) .nil) none (.node .nil (some f_230) .nil))) none (.node (.node (.node .nil (some f_150) .nil) (some f_86) (.node .nil (some f_214) .nil)) (some f_54) (.node .nil (some f_118) .nil))) none (.node (.node (.node (.node .nil (some f_142) .nil) (some f_78) .nil) none (.node (.node .nil (some f_174) .nil) (some f_110) .nil)) none (.node (.node (.node .nil (some f_158) .nil) (some f_94) .nil) (some f_62) .nil))))) none (.node (.node (.node (.node (.node (.node (.node .nil (some f_129) .nil) none .nil) none (.node (.node .nil (some f_161) .nil) (some Z0g) (.node .nil (some f_225) .nil))) none (.node (.node (.node .nil (some f_145) .nil) (some f_81) .nil) (some f_49) (.node (.node .nil (some f_177) .nil) none .nil))) (some f_9) (.node (.node (.node .nil (some f_73) .nil) none (.node (.node .nil (some f_169) .nil) none (.node .nil (some Wz) .nil))) none (.node (.node (.node .nil (some Ip) .nil) none .nil) none .nil))) none (.node (.node (.node (.node (.node .nil (some f_133) .nil) (some f_69) .nil) none (.node (.node .nil (some f_165) .nil) (some f_101) .nil)) none (.node .nil (some f_53) (.node .nil (some f_117) .nil))) none (.node (.node (.node (.node .nil (some f_141) .nil) (some f_77) .nil) (some f_45) (.node (.node .nil (some f_173) .nil) none .nil)) none (.node (.node (.node .nil (some f_157) .nil) (some Z0f) .nil) (some f_61) .nil)))) none (.node (.node (.node (.node (.node (.node .nil (some f_131) .nil) (some f_67) (.node .nil (some f_195) .nil)) none (.node (.node .nil (some f_163) .nil) (some f_99) (.node .nil (some f_227) .nil))) none (.node (.node (.node .nil (some f_147) .nil) none .nil) (some f_51) (.node (.node .nil (some f_179) .nil) (some f_115) .nil))) (some f_11) (.node (.node (.node (.node .nil (some f_139) .nil) (some f_75) .nil) (some f_43) (.node (.node .nil (some f_171) .nil) none (.node .nil (some Xb) .nil))) none (.node (.node (.node .nil (some f_155) .nil) none .nil) (some f_59) .nil))) (some f_7) (.node (.node (.node (.node (.node .nil (some f_135) .nil) (some f_71) (.node .nil (some f_199) .nil)) (some f_39) (.node (.node .nil (some f_167) .nil) none (.node .nil (some f_231) .nil))) none (.node (.node .nil (some f_87) .nil) (some f_55) .nil)) (some f_15) (.node (.node (.node .nil (some f_79) .nil) none (.node (.node .nil (some f_175) .nil) (some f_111) .nil)) none (.node (.node (.node .nil (some f_159) .nil) (some f_95) .nil) (some f_63) .nil))))))
noncomputable def ntab:FT:=(.node .nil none (.node (.node .nil none (.node (.node (.node .nil none (.node .nil none (.node .nil (some f_229) .nil))) none .nil) none .nil)) none .nil))
noncomputable def Q5m:List Cl:=[⟨some (.o (.i (.i (.o (.o .h))))),[(99,.o (.i (.i (.o (.o .h)))))]⟩,⟨some (.i (.i (.i (.o (.o .h))))),[(99,.i (.i (.i (.o (.o .h)))))]⟩,⟨some (.o (.o (.o (.i (.o .h))))),[(99,.o (.o (.o (.i (.o .h)))))]⟩,⟨some (.o (.i (.o (.i (.o .h))))),[(99,.o (.i (.o (.i (.o .h)))))]⟩,⟨some (.i (.i (.o (.i (.o .h))))),[(99,.i (.i (.o (.i (.o .h)))))]⟩,⟨some (.o (.o (.i (.i (.o .h))))),[(99,.o (.o (.i (.i (.o .h)))))]⟩,⟨some (.i (.o (.i (.i (.o .h))))),[(99,.i (.o (.i (.i (.o .h)))))]⟩,⟨some (.i (.i (.o (.i (.o (.o .h)))))),[(99,.i (.i (.o (.i (.o (.o .h)))))),(259,.o (.o (.i (.i (.o (.o .h)))))),(463,.i (.o (.i (.i (.o (.o .h)))))),(464,.o (.i (.i (.i (.o (.o .h)))))),(473,.i (.i (.i (.i (.o (.o .h)))))),(339,.o (.o (.o (.o (.i (.o .h)))))),(492,.i (.o (.o (.o (.i (.o .h))))))]⟩,⟨some (.o (.i (.o (.o (.o (.o (.i .h))))))),[(99,.o (.i (.o (.o (.o (.o (.i .h))))))),(432,.i (.i (.o (.o (.o (.o (.i .h))))))),(621,.i (.i (.i (.o (.o (.o (.i .h))))))),(478,.o (.i (.o (.o (.i (.o (.i .h))))))),(168,.o (.i (.i (.o (.i (.o (.i .h))))))),(172,.o (.o (.i (.i (.i (.o (.i .h)))))))]⟩]
noncomputable def kx:Kx:=⟨119,265,305,317,17404329748619824289860426352311291980336107281679382059399385520550823849520406290076876874227033232860330953156548675971658639428966752548200410906206089806747770955028261825456103227392⟩
noncomputable def gg:G:=⟨Q5m,Pv,ntab⟩
inductive VT where | l | n (v:Option V)(a b:VT)
noncomputable def VT.get (t:VT)(i:Nat):Option V:=match t with
 | .l=>none
 | .n v a b=>(match Nat.beq i 0 with
  | true=>v
  | false=>(match Nat.beq (i % 2) 1 with
   | true=>a.get (i / 2)
   | false=>b.get (i / 2 - 1)))
noncomputable def Ir:VT:=(.n none (.n none (.n none (.n none (.n none (.n none (.n none .l (.n (some (.fn (.o (.i (.o (.i (.o (.o (.o .h))))))))) .l .l)) (.n none .l (.n (some (.fn (.i (.o (.o (.i (.o (.o .h)))))))) .l .l))) (.n none (.n none (.n (some (.fn (.i (.o (.i (.i (.i (.o (.o .h))))))))) (.n (some (.fn (.i (.o (.i (.o (.o (.o (.o .h))))))))) .l .l) .l) .l) (.n none (.n none (.n (some (.fn (.i (.i .h)))) .l .l) (.n (some (.fn (.o (.o (.i (.i (.o (.i (.o .h))))))))) .l .l)) (.n none (.n (some (.fn (.i (.o (.i (.o (.o (.o .h)))))))) .l .l) .l)))) (.n none (.n none (.n none (.n (some (.fn (.o (.o (.i (.o (.i (.i .h)))))))) .l .l) (.n none (.n none (.n (some (.fn (.o (.i (.o (.o (.o (.i .h)))))))) .l .l) .l) (.n (some (.fn (.i (.i (.i (.i (.o (.i (.o .h))))))))) .l .l))) (.n (some (.fn (.o (.i (.o (.o (.o (.i (.i .h))))))))) (.n none (.n (some (.fn (.o (.o (.i (.o (.o (.i (.o .h))))))))) .l .l) .l) (.n none .l (.n (some (.fn (.i (.o (.i (.i (.i (.o .h)))))))) .l .l)))) (.n none (.n none (.n (some (.fn (.i (.i (.o (.o (.o (.i (.o .h))))))))) .l .l) (.n none (.n (some (.fn (.o (.i (.o (.o (.o (.o (.o .h))))))))) .l .l) (.n (some (.fn (.o (.o (.i (.o (.i (.o .h)))))))) .l .l))) (.n none (.n none .l (.n (some (.fn (.i (.o (.o (.o (.i .h))))))) .l .l)) .l)))) (.n none (.n none (.n none (.n (some (.cls 1)) .l (.n (some (.fn (.o (.o (.i (.o (.i (.o (.o .h))))))))) .l .l)) (.n none .l (.n none (.n (some (.fn (.i (.o (.o (.o (.i (.o (.o .h))))))))) .l .l) .l))) (.n none (.n (some (.cls 3)) (.n (some (.fn (.i (.o (.o (.i (.i (.o (.o .h))))))))) .l .l) .l) (.n none (.n (some (.fn (.i (.o (.i (.i (.o (.o (.o .h))))))))) .l .l) .l))) (.n none (.n none (.n (some (.cls 0)) (.n none (.n none (.n (some (.fn (.i (.i (.i (.i (.i .h))))))) .l .l) .l) .l) (.n none (.n (some (.fn (.i (.i (.i (.i (.o (.i .h)))))))) (.n (some (.fn (.o (.o (.o (.o (.o (.i .h)))))))) .l .l) .l) .l)) (.n (some (.fn (.o (.i (.i (.o (.o (.i (.i .h))))))))) (.n none (.n (some (.fn (.o (.i (.o .h))))) .l .l) (.n (some (.fn (.i (.i (.i (.o (.o (.o .h)))))))) .l .l)) (.n none (.n (some (.fn (.o (.o (.i (.o (.o (.i .h)))))))) (.n (some (.fn (.o (.o (.i (.i (.i (.o .h)))))))) .l .l) .l) .l))) (.n none .l (.n none (.n none (.n none (.n (some (.fn (.i (.o (.i (.i (.o (.i .h)))))))) .l .l) .l) .l) (.n none (.n (some (.fn (.i (.i (.o (.i (.i .h))))))) .l .l) .l)))))) (.n none (.n none (.n none (.n none (.n (some (.cls 7)) (.n none .l (.n (some (.fn (.o (.o (.o (.o (.i (.i .h)))))))) .l .l)) .l) (.n none .l (.n (some (.fn (.o (.o (.o (.i (.o (.i (.o .h))))))))) .l .l))) (.n none (.n none (.n none .l (.n (some (.fn (.o (.i (.i (.i (.o (.o (.o .h))))))))) .l .l)) (.n none (.n (some (.fn (.o (.o (.o (.i (.i (.o .h)))))))) .l .l) .l)) (.n none .l (.n none (.n none (.n (some (.fn (.o (.o (.o (.i (.i .h))))))) .l .l) .l) .l)))) (.n none (.n (some (.cls 4)) (.n none (.n (some (.fn (.o (.i (.o (.o (.i (.i .h)))))))) .l .l) .l) (.n (some (.fn (.o (.i (.o (.i (.o (.i (.i .h))))))))) (.n (some (.fn (.i (.o (.o (.o (.o (.i .h)))))))) .l (.n (some (.fn (.o (.i (.i (.o (.i .h))))))) .l .l)) (.n none (.n none (.n (some (.fn (.i (.i (.i (.i (.i (.o (.o .h))))))))) .l .l) .l) .l))) (.n (some (.int big)) (.n none (.n (some (.fn (.o (.o (.i (.i (.i (.o (.o .h))))))))) .l .l) .l) (.n none (.n none (.n none (.n (some (.fn (.i (.i (.o (.i (.o (.i .h)))))))) .l .l) .l) (.n (some (.fn (.i (.i (.i (.i .h)))))) .l .l)) .l)))) (.n none (.n none (.n none (.n none (.n none .l (.n (some (.fn (.i (.i (.o (.o (.i .h))))))) .l .l)) (.n (some (.fn (.i (.o (.i (.o (.o (.i .h)))))))) (.n (some (.fn (.o (.o (.i (.o (.i .h))))))) .l .l) (.n (some (.fn (.o (.o (.o (.o (.i (.i (.o .h))))))))) .l .l))) (.n (some (.fn (.i (.o (.o (.o (.o (.i (.i .h))))))))) (.n none .l (.n (some (.fn (.i (.i (.i .h))))) .l .l)) (.n (some (.fn (.o (.o (.o (.i (.o (.o (.o .h))))))))) (.n (some (.fn (.i (.i (.o (.o (.i (.o (.o .h))))))))) .l .l) (.n (some (.fn (.o (.i (.o (.o (.o (.i (.o .h))))))))) .l .l)))) (.n none (.n none (.n (some (.fn (.i (.o (.o (.o (.i (.i (.o .h))))))))) .l (.n (some (.fn (.i (.o (.i .h))))) .l .l)) .l) (.n (some (.fn (.o (.i (.o (.o (.i (.o (.o .h))))))))) .l (.n none (.n none (.n (some (.fn (.i (.i (.o (.o (.i (.i .h)))))))) .l .l) .l) .l)))) (.n none (.n (some (.cls 8)) .l (.n (some (.fn (.o (.o (.o (.i (.o (.i (.i .h))))))))) (.n none (.n (some (.fn (.o (.i (.i (.i (.i (.o .h)))))))) .l .l) .l) (.n none (.n (some (.fn (.o (.o (.i (.i (.o (.o (.o .h))))))))) .l .l) .l))) (.n (some (.int 1000000)) (.n none .l (.n none (.n (some (.fn (.i (.i (.o (.i (.o (.o (.o .h))))))))) .l .l) .l)) (.n none (.n none (.n none (.n (some (.fn (.o (.o (.o (.o (.o (.i (.o .h))))))))) .l .l) .l) .l) (.n none (.n (some (.fn (.i (.i (.o (.o (.o (.o (.o .h))))))))) .l .l) (.n (some (.fn (.i (.i (.o (.o (.i (.i (.o .h))))))))) .l .l)))))))) (.n none (.n none (.n none (.n none (.n none .l (.n none (.n none (.n (some (.fn (.o (.i (.i (.i (.i (.o (.o .h))))))))) .l .l) .l) (.n (some (.fn (.i (.i (.o (.o (.o (.i .h)))))))) .l .l))) (.n none (.n none (.n (some (.fn (.i (.o (.o (.i (.o (.i (.o .h))))))))) .l (.n (some (.fn (.i (.o (.o .h))))) .l .l)) (.n none (.n (some (.fn (.i (.o (.o (.o (.o (.o (.o .h))))))))) .l .l) .l)) .l)) (.n none (.n (some (.cls 5)) (.n none (.n (some (.fn (.i (.i (.i (.o (.o (.i .h)))))))) .l .l) .l) (.n (some (.fn (.i (.o (.o (.i (.o (.i (.i .h))))))))) .l .l)) (.n none (.n (some (.cls 2)) (.n (some (.fn (.o (.i (.o (.i (.i (.o (.o .h))))))))) .l .l) (.n none (.n (some (.fn (.o (.o (.i (.i (.i .h))))))) .l .l) .l)) (.n none (.n (some (.fn (.o (.o (.i (.o (.i (.i (.o .h))))))))) (.n none (.n (some (.fn (.o (.o (.i (.i (.o (.i .h)))))))) .l .l) .l) .l) (.n (some (.fn (.i (.i (.o (.i (.i (.o .h)))))))) .l .l))))) (.n none (.n none (.n none .l (.n none (.n (some (.fn (.o (.o (.o .h))))) .l .l) .l)) (.n none (.n none (.n (some (.fn (.i (.o (.o (.o (.o (.i (.o .h))))))))) .l .l) (.n none (.n (some (.fn (.o (.i (.i (.i (.i .h))))))) .l .l) .l)) (.n none (.n (some (.fn (.i (.i (.o (.i (.i (.o (.o .h))))))))) .l .l) (.n none (.n none (.n (some (.fn (.i (.i (.i (.o (.o (.o (.o .h))))))))) .l .l) .l) (.n (some (.fn (.o (.o (.o (.o (.i .h))))))) .l .l))))) (.n none (.n (some (.cls 6)) (.n none .l (.n (some (.fn (.i (.o (.i (.o (.i (.i .h)))))))) .l .l)) (.n (some (.fn (.o (.o (.o (.o (.o (.i (.i .h))))))))) (.n none (.n none (.n (some (.fn (.i (.i (.i (.o (.i (.o .h)))))))) .l .l) .l) .l) .l)) (.n none (.n none (.n none (.n none (.n (some (.fn (.i (.o (.o (.i (.o (.o (.o .h))))))))) .l .l) .l) .l) (.n (some (.fn (.o (.o (.o (.i (.o (.o .h)))))))) (.n (some (.fn (.o (.i (.i (.i (.o (.i .h)))))))) .l .l) .l)) (.n none .l (.n none (.n (some (.fn (.o (.o (.i (.o (.o (.o .h)))))))) .l .l) .l)))))) (.n none (.n none (.n none (.n none (.n none (.n none .l (.n (some (.fn (.i (.i (.i (.o (.i .h))))))) .l .l)) (.n (some (.fn (.o (.o (.o (.o (.i (.o (.o .h))))))))) .l .l)) (.n none .l (.n none .l (.n (some (.fn (.i (.i (.i (.i (.i (.o (.i .h))))))))) .l .l)))) (.n none (.n none (.n (some (.fn (.o (.i (.i (.o (.o (.i (.o .h))))))))) .l .l) (.n none .l (.n (some (.fn (.i (.o (.o (.i (.i (.o .h)))))))) .l .l))) (.n none (.n (some (.fn (.i (.o (.i (.o (.i .h))))))) (.n (some (.fn (.o (.o (.o (.o (.o (.o .h)))))))) (.n (some (.fn (.i (.o (.o (.i (.o (.i .h)))))))) .l .l) .l) .l) .l))) (.n none (.n none (.n none .l (.n none (.n (some (.fn (.i (.o (.i (.i (.i .h))))))) .l .l) .l)) (.n (some (.fn (.i (.i (.i (.o (.o (.i (.i .h))))))))) (.n (some (.fn (.o (.i (.o (.i (.i .h))))))) .l .l) .l)) (.n none (.n none (.n none (.n (some (.fn (.o (.i (.i (.o (.i (.i .h)))))))) .l .l) .l) .l) (.n none (.n (some (.fn (.o (.i (.o (.i (.o (.o .h)))))))) (.n none (.n (some (.fn (.o (.i (.o (.i (.o (.i .h)))))))) .l .l) .l) (.n (some (.fn (.i (.o (.i (.i (.o (.i (.o .h))))))))) .l .l)) (.n none (.n none (.n (some (.fn (.o (.i (.o (.o (.i (.i (.o .h))))))))) .l .l) .l) .l))))) (.n none (.n none (.n none (.n none (.n (some (.fn (.i (.o (.i (.o (.i (.o (.o .h))))))))) .l .l) (.n (some (.fn (.o (.i (.i (.o (.i (.o (.o .h))))))))) .l (.n (some (.fn (.o (.i (.i (.i (.o (.i (.o .h))))))))) .l .l))) (.n (some (.fn (.i (.i (.o (.o (.o (.i (.i .h))))))))) .l .l)) (.n none (.n none (.n (some (.fn (.i (.o (.i (.o (.o (.i (.o .h))))))))) (.n none (.n (some (.fn (.o (.o (.o (.i (.i (.o (.o .h))))))))) .l .l) .l) (.n (some (.fn (.o (.i (.i (.o (.i (.o .h)))))))) .l .l)) (.n none (.n (some (.fn (.i (.i (.o .h))))) .l .l) (.n (some (.fn (.o (.i (.o (.i (.o (.i (.o .h))))))))) .l .l))) (.n (some (.fn (.i (.i (.i (.o (.i (.o (.o .h))))))))) .l (.n none (.n none (.n (some (.fn (.i (.i (.i (.o (.o (.i (.o .h))))))))) .l .l) .l) .l)))) (.n none (.n none (.n none (.n none (.n (some (.fn (.o (.i (.i (.o (.o (.o (.o .h))))))))) .l .l) .l) .l) (.n (some (.fn (.o (.o (.i (.o (.o (.i (.i .h))))))))) .l (.n none (.n (some (.fn (.i (.i (.o (.o (.o (.o .h)))))))) .l .l) .l))) (.n (some (.int big)) (.n none .l (.n (some (.fn (.i (.i (.o (.i (.o (.i (.o .h))))))))) (.n (some (.fn (.i (.i (.i (.i (.i (.o .h)))))))) .l .l) .l)) (.n none (.n (some (.fn (.o (.o (.i (.o (.o (.o (.o .h))))))))) .l .l) .l)))))))
noncomputable def biN:Bi->Nat | .len=>378 | .list=>384 | .min=>414 | .max=>408 | .abs=>113 | .sum=>552 | .sorted=>539 | _=>0
noncomputable def cnames:List Nat:=[75,67,88,83,41,40,44,65,45]
noncomputable def kt:Kt:=⟨t,Ir.get,52280974909003335642997450208531079211003217060229839072290825338310781721175527972371089274467054709645819787925887109884942836747535273250400405531152404484437748898702679398476597428224,biN,484,345,324,521,λi=>cnames.getD i 0,4⟩
noncomputable def Xd:List Nat:=[351,308,362,623,141,309,228,208,424,622,614,433,156,555,468,584,292,123,297,508,214,532,559,493,311,451,298,549,420,383,524,388,387,460,440,285,543,188,394]
noncomputable def J0:P:=.o (.o (.o (.o (.o (.i (.i .h))))))
noncomputable def Z7:P:=.o (.o (.i (.o (.o (.i (.i .h))))))
noncomputable def F7:P:=.o (.i (.i (.o (.o (.i (.i .h))))))
noncomputable def K4:P:=.i (.i (.i (.o (.o (.i (.i .h))))))
noncomputable def Qn:P:=.o (.o (.o (.i (.o (.i (.i .h))))))
noncomputable def Q8:P:=.i (.o (.o (.i (.o (.i (.i .h))))))
noncomputable def W4:P:=.o (.i (.o (.i (.o (.i (.i .h))))))
noncomputable def Xe:P:=.i (.i (.o (.i (.o (.i (.i .h))))))
noncomputable def iS:P:=L8
noncomputable def vI:V:=.ref (.o .h)
noncomputable def wid:P:=.i (.i (.o .h))
noncomputable def jk:O:=.clos X3 []
noncomputable def oR:Ob:=[(.o .h,.inst 8 [(383,.int 20000),(420,.int 40),(549,.int 0),(433,.int 2),(156,.ref (.i .h)),(308,.ref (.o (.i .h))),(298,.ref (.i (.o (.o .h)))),(451,.ref (.o (.i (.o .h)))),(623,.ref (.i (.i (.o .h)))),(311,.ref (.o (.o (.i .h)))),(493,.ref (.i (.o (.i .h)))),(559,.int 0),(614,.bool true),(208,.none),(228,.none),(532,.none),(622,.none),(214,.none),(508,.none)]),(.o (.o .h),.dict []),(.o (.o (.o .h)),.dict []),(.o (.o (.i .h)),.list []),(.o (.i .h),.inst 6 [(362,.str 253),(440,.int 1),(460,.ref (.i .h)),(141,.none),(297,.ref (.i (.i .h))),(387,.bool false),(388,.ref (.o (.o (.o .h))))]),(.o (.i (.o .h)),.list []),(.i .h,.inst 6 [(362,.str 253),(440,.int 0),(460,.none),(141,.none),(297,.ref (.o (.o .h))),(387,.bool false),(388,.ref (.i (.o .h)))]),(.i (.o .h),.dict []),(.i (.o (.o .h)),.list []),(.i (.o (.i .h)),.list []),(.i (.i .h),.dict [])]
noncomputable def o0:Ob:=(.h,.clos L8 []) :: (wid,.list []) :: oR
noncomputable def dn:O:=.clos D0 []
noncomputable def oA:Ob:=(.h,dn) :: (wid,.list []) :: oR
noncomputable def oB:Ob:=(.h,dn) :: (wid,jk) :: oR
noncomputable def n0:P:=.o (.i (.i .h))
noncomputable def tr (zz:O):T:=(.node (.node (.node (.node .nil (some (.dict [])) .nil) (some (.dict [])) (.node .nil (some (.list [])) .nil)) (some (.inst 8 [(383,.int 20000),(420,.int 40),(549,.int 0),(433,.int 2),(156,.ref (.i .h)),(308,.ref (.o (.i .h))),(298,.ref (.i (.o (.o .h)))),(451,.ref (.o (.i (.o .h)))),(623,.ref (.i (.i (.o .h)))),(311,.ref (.o (.o (.i .h)))),(493,.ref (.i (.o (.i .h)))),(559,.int 0),(614,.bool true),(208,.none),(228,.none),(532,.none),(622,.none),(214,.none),(508,.none)])) (.node (.node .nil (some (.list [])) .nil) (some (.inst 6 [(362,.str 253),(440,.int 1),(460,.ref (.i .h)),(141,.none),(297,.ref (.i (.i .h))),(387,.bool false),(388,.ref (.o (.o (.o .h))))])) .nil)) (some zz) (.node (.node (.node .nil (some (.list [])) .nil) (some (.dict [])) (.node .nil (some (.list [])) .nil)) (some (.inst 6 [(362,.str 253),(440,.int 0),(460,.none),(141,.none),(297,.ref (.o (.o .h))),(387,.bool false),(388,.ref (.i (.o .h)))])) (.node (.node .nil (some (.list [])) .nil) (some (.dict [])) .nil)))
noncomputable def tr2 (zz yy:O):T:=(.node (.node (.node (.node .nil (some (.dict [])) .nil) (some (.dict [])) (.node .nil (some (.list [])) .nil)) (some (.inst 8 [(383,.int 20000),(420,.int 40),(549,.int 0),(433,.int 2),(156,.ref (.i .h)),(308,.ref (.o (.i .h))),(298,.ref (.i (.o (.o .h)))),(451,.ref (.o (.i (.o .h)))),(623,.ref (.i (.i (.o .h)))),(311,.ref (.o (.o (.i .h)))),(493,.ref (.i (.o (.i .h)))),(559,.int 0),(614,.bool true),(208,.none),(228,.none),(532,.none),(622,.none),(214,.none),(508,.none)])) (.node (.node .nil (some (.list [])) .nil) (some (.inst 6 [(362,.str 253),(440,.int 1),(460,.ref (.i .h)),(141,.none),(297,.ref (.i (.i .h))),(387,.bool false),(388,.ref (.o (.o (.o .h))))])) .nil)) (some zz) (.node (.node (.node .nil (some (.list [])) .nil) (some (.dict [])) (.node .nil (some (.list [])) .nil)) (some (.inst 6 [(362,.str 253),(440,.int 0),(460,.none),(141,.none),(297,.ref (.o (.o .h))),(387,.bool false),(388,.ref (.i (.o .h)))])) (.node (.node .nil (some yy) .nil) (some (.dict [])) .nil)))
noncomputable def stS:St:=⟨.node .nil (some (.clos L8 [])) .nil,.o .h⟩
noncomputable def st0:St:=⟨tr (.clos L8 []),n0⟩
noncomputable def stA:St:=⟨tr dn,n0⟩
noncomputable def stB:St:=⟨tr2 dn jk,n0⟩
noncomputable def Yh (v:V)(s:St):Bool:=Q0 (F5 v) (K9 s.t oA)
noncomputable def W5 (v:V)(s:St):Bool:=Q0 (F5 v) (K9 s.t oB)
noncomputable def pr (f:P)(dgs:Dgs)(st:St)(e:V->St->R):R:=S8 gg kx J0 iS dgs 60 (.fn f) [vI,.fn iS] st e
section
open PySem.W.X
namespace H
noncomputable def N:Value:=.none
noncomputable def I (i:Int)(u:Nat):Value:=.int i u
noncomputable def J (i:Int):Value:=.int i 0
noncomputable def R (a:Nat):Value:=.ref a
noncomputable def s (k u:Nat):Value:=.str (t k) u
noncomputable def de (P:Params)(s:Str)(u:Nat)(v:Value):DictEntry:=⟨PyData.keyHash P s,.str s u,v⟩
noncomputable def e (P:Params)(k u:Nat)(v:Value):DictEntry:=de P (t k) u v
noncomputable def oF (c:Value)(l:List Value):Obj:=⟨c,none,.fields ⟨l⟩,⟨[]⟩⟩
noncomputable def oS (c:Value)(l:List Value):Obj:=⟨c,none,.seq ⟨l⟩ 0,⟨[]⟩⟩
noncomputable def oU (c:Value)(f:FuncData):Obj:=⟨c,none,.func f,⟨[]⟩⟩
noncomputable def sT (i:Nat):Stmt:=(Q.main.body.drop i).headD (.Pass ⟨0,0,0,0⟩)
noncomputable def cB (s:Stmt):List Stmt:=by
 induction s using PySem.Stmt.casesOn with
 | ClassDef _ _ _ b=>exact b
 | _=>exact []
noncomputable def sM (i j:Nat):Stmt:=((cB (sT i)).drop j).headD (.Pass ⟨0,0,0,0⟩)
noncomputable def fd (s:Stmt)(q:Str)(g:Nat)(dv kv doc pm:Value)(an:Option Nat)(cd ct:Value)(bl:Nat):FuncData:=by
 induction s using PySem.Stmt.casesOn with
 | FunctionDef n a b _ _ _ sc=>exact ⟨n,q,a,.stmts b,sc,g,[],dv,kv,doc,pm,an,cd,ct,bl⟩
 | _=>exact default
noncomputable def y0:Value:=(.type PySem.W.SL.s2766695959194262286x5)
noncomputable def y1:Value:=(.type PySem.W.SL.s5856160107412720595x4)
noncomputable def y2:Value:=(.type PySem.W.SL.s7174869446012820540x8)
noncomputable def y3:Value:=(.type PySem.W.SL.s17162191345867700912x4)
noncomputable def y4:Value:=(.type PySem.W.SL.s11030030927630378310x26)
noncomputable def y5:Value:=(.type PySem.W.SL.s14018661285674007319x4)
noncomputable def y6:Value:=(.type PySem.W.SL.s2742458400755230247x6)
noncomputable def y7:Value:=(.type PySem.W.SL.s14755015743595814543x17)
noncomputable def y8:Value:=(.type PySem.W.SL.s658472552662922059x5)
noncomputable def y9:Value:=(.type PySem.W.SL.s5946037652744460706x9)
noncomputable def y10:Value:=(.type PySem.W.SL.s4290257624100764138x5)
noncomputable def y11:Value:=(.type PySem.W.SL.s4278001404047624695x13)
noncomputable def b0:Value:=(.builtin PySem.W.SL.s10062305145149207511x16)
noncomputable def b1:Value:=(.builtin PySem.W.SL.s4860613602091757760x24)
noncomputable def b2:Value:=(.builtin PySem.W.SL.s10220274742760427390x26)
noncomputable def b3:Value:=(.builtin PySem.W.SL.s11443829558043349243x14)
noncomputable def b4:Value:=(.builtin PySem.W.SL.s6511155373996960695x17)
noncomputable def b5:Value:=(.builtin PySem.W.SL.s12411053484034534018x21)
noncomputable def b6:Value:=(.builtin PySem.W.SL.s5160863994218179198x17)
noncomputable def z0:Str:=⟨⟨[47,99,108,97,105,109,47,99,117,116,46,112,121]⟩⟩
noncomputable def z1:Str:=⟨⟨[95,95,109,111,100,117,108,101,95,95]⟩⟩
noncomputable def z2:Str:=⟨⟨[95,95,102,105,114,115,116,108,105,110,101,110,111,95,95]⟩⟩
noncomputable def z3:Str:=⟨⟨[95,95,115,116,97,116,105,99,95,97,116,116,114,105,98,117,116,101,115,95,95]⟩⟩
noncomputable def z4:Str:=⟨⟨[95,95,119,101,97,107,114,101,102,95,95]⟩⟩
noncomputable def z5:Str:=⟨⟨[95,95,100,105,99,116,95,95]⟩⟩
noncomputable def z6:Str:=⟨⟨[95,95,113,117,97,108,110,97,109,101,95,95]⟩⟩
noncomputable def z7:Str:=⟨⟨[95,95,100,111,99,95,95]⟩⟩
noncomputable def z8:Str:=⟨⟨[82,101,102,117,115,97,108,46,95,95,105,110,105,116,95,95]⟩⟩
noncomputable def z9:Str:=⟨⟨[82,69,114,114,111,114,46,95,95,105,110,105,116,95,95]⟩⟩
noncomputable def z10:Str:=⟨⟨[76,105,109,105,116,82,101,97,99,104,101,100,46,95,95,105,110,105,116,95,95]⟩⟩
noncomputable def z11:Str:=⟨⟨[82,101,116,117,114,110,83,105,103,110,97,108,46,95,95,105,110,105,116,95,95]⟩⟩
noncomputable def z12:Str:=⟨⟨[76,111,111,112,83,105,103,110,97,108,46,95,95,105,110,105,116,95,95]⟩⟩
noncomputable def z13:Str:=⟨⟨[78,117,108,108,46,95,95,105,110,105,116,95,95]⟩⟩
noncomputable def z14:Str:=⟨⟨[77,105,115,115,105,110,103,46,95,95,105,110,105,116,95,95]⟩⟩
noncomputable def z15:Str:=⟨⟨[86,101,99,116,111,114,46,95,95,105,110,105,116,95,95]⟩⟩
noncomputable def z16:Str:=⟨⟨[86,101,99,116,111,114,46,99,111,112,121]⟩⟩
noncomputable def z17:Str:=⟨⟨[83,121,109,98,111,108,46,95,95,105,110,105,116,95,95]⟩⟩
noncomputable def z18:Str:=⟨⟨[67,97,108,108,46,95,95,105,110,105,116,95,95]⟩⟩
noncomputable def z19:Str:=⟨⟨[66,117,105,108,116,105,110,46,95,95,105,110,105,116,95,95]⟩⟩
noncomputable def z20:Str:=⟨⟨[69,110,118,105,114,111,110,109,101,110,116,46,95,95,105,110,105,116,95,95]⟩⟩
noncomputable def z21:Str:=⟨⟨[80,114,111,109,105,115,101,46,95,95,105,110,105,116,95,95]⟩⟩
noncomputable def z22:Str:=⟨⟨[68,111,116,115,46,95,95,105,110,105,116,95,95]⟩⟩
noncomputable def z23:Str:=⟨⟨[77,97,116,99,104,105,110,103,46,95,95,105,110,105,116,95,95]⟩⟩
noncomputable def z24:Str:=⟨⟨[77,97,116,99,104,105,110,103,46,101,120,97,99,116]⟩⟩
noncomputable def z25:Str:=⟨⟨[77,97,116,99,104,105,110,103,46,112,97,114,116,105,97,108]⟩⟩
noncomputable def z26:Str:=⟨⟨[77,97,116,99,104,105,110,103,46,112,97,114,116,105,97,108,95,111,102]⟩⟩
noncomputable def z27:Str:=⟨⟨[77,97,116,99,104,105,110,103,46,112,111,115,105,116,105,111,110,97,108]⟩⟩
noncomputable def z28:Str:=⟨⟨[77,97,116,99,104,105,110,103,46,105,115,95,102,114,101,101]⟩⟩
noncomputable def z29:Str:=⟨⟨[77,97,116,99,104,105,110,103,46,114,101,115,116]⟩⟩
noncomputable def z30:Str:=⟨⟨[70,114,97,109,101,46,95,95,105,110,105,116,95,95]⟩⟩
noncomputable def z31:Str:=⟨⟨[69,118,97,108,117,97,116,111,114,46,95,95,105,110,105,116,95,95]⟩⟩
noncomputable def z32:Str:=⟨⟨[69,118,97,108,117,97,116,111,114,46,110,101,119,95,101,110,118]⟩⟩
noncomputable def z33:Str:=⟨⟨[69,118,97,108,117,97,116,111,114,46,100,101,102,105,110,101]⟩⟩
noncomputable def z34:Str:=⟨⟨[69,118,97,108,117,97,116,111,114,46,116,105,99,107]⟩⟩
noncomputable def z35:Str:=⟨⟨[69,118,97,108,117,97,116,111,114,46,115,105,103,110,97,108,95,101,114,114,111,114]⟩⟩
noncomputable def z36:Str:=⟨⟨[69,118,97,108,117,97,116,111,114,46,119,97,114,110,95,97,108,108]⟩⟩
noncomputable def z37:Str:=⟨⟨[69,118,97,108,117,97,116,111,114,46,114,117,110,110,105,110,103,95,99,97,108,108]⟩⟩
noncomputable def z38:Str:=⟨⟨[69,118,97,108,117,97,116,111,114,46,101,118,97,108]⟩⟩
noncomputable def z39:Str:=⟨⟨[69,118,97,108,117,97,116,111,114,46,118,97,114,105,97,98,108,101]⟩⟩
noncomputable def z40:Str:=⟨⟨[69,118,97,108,117,97,116,111,114,46,100,111,116,115,95,118,97,108,117,101]⟩⟩
noncomputable def z41:Str:=⟨⟨[69,118,97,108,117,97,116,111,114,46,102,111,114,99,101]⟩⟩
noncomputable def z42:Str:=⟨⟨[69,118,97,108,117,97,116,111,114,46,102,105,110,100,95,102,117,110,99,116,105,111,110]⟩⟩
noncomputable def z43:Str:=⟨⟨[69,118,97,108,117,97,116,111,114,46,102,117,110,99,116,105,111,110,95,111,102]⟩⟩
noncomputable def z44:Str:=⟨⟨[69,118,97,108,117,97,116,111,114,46,101,118,97,108,95,99,97,108,108]⟩⟩
noncomputable def z45:Str:=⟨⟨[69,118,97,108,117,97,116,111,114,46,112,108,97,105,110,95,99,97,108,108]⟩⟩
noncomputable def z46:Str:=⟨⟨[69,118,97,108,117,97,116,111,114,46,115,112,114,101,97,100,95,100,111,116,115]⟩⟩
noncomputable def z47:Str:=⟨⟨[69,118,97,108,117,97,116,111,114,46,112,114,111,109,105,115,101,95,97,114,103,115]⟩⟩
noncomputable def z48:Str:=⟨⟨[69,118,97,108,117,97,116,111,114,46,101,97,103,101,114,95,97,114,103,115]⟩⟩
noncomputable def z49:Str:=⟨⟨[69,118,97,108,117,97,116,111,114,46,101,109,112,116,121,95,97,114,103]⟩⟩
noncomputable def z50:Str:=⟨⟨[69,118,97,108,117,97,116,111,114,46,99,97,108,108,95,115,112,101,99,105,97,108]⟩⟩
noncomputable def z51:Str:=⟨⟨[69,118,97,108,117,97,116,111,114,46,99,97,108,108,95,98,117,105,108,116,105,110]⟩⟩
noncomputable def z52:Str:=⟨⟨[69,118,97,108,117,97,116,111,114,46,97,112,112,108,121,95,99,108,111,115,117,114,101]⟩⟩
noncomputable def z53:Str:=⟨⟨[69,118,97,108,117,97,116,111,114,46,108,101,97,118,101]⟩⟩
noncomputable def z54:Str:=⟨⟨[69,118,97,108,117,97,116,111,114,46,114,117,110,95,101,120,105,116,115]⟩⟩
noncomputable def z55:Str:=⟨⟨[69,118,97,108,117,97,116,111,114,46,115,104,111,119,101,114]⟩⟩
noncomputable def z56:Str:=⟨⟨[69,118,97,108,117,97,116,111,114,46,99,97,108,108,95,118,97,108,117,101]⟩⟩
noncomputable def z57:Str:=⟨⟨[69,118,97,108,117,97,116,111,114,46,114,117,110]⟩⟩
noncomputable def z58:Str:=⟨⟨[60,109,111,100,117,108,101,62]⟩⟩
noncomputable def z59:Str:=⟨⟨[95,95,109,97,105,110,95,95]⟩⟩
inductive Up where | n (o:Obj) | u (a:Nat)(f:Obj->Obj)
noncomputable def M1 (es:List DictEntry)(n:Nat):Obj->Obj
 | ⟨c,d,.dict xs _,s⟩=>⟨c,d,.dict ⟨xs.toList++es⟩ n,s⟩
 | o=>o
noncomputable def J5 (es:List Value):Obj->Obj
 | ⟨c,d,.fields xs,s⟩=>⟨c,d,.fields ⟨xs.toList++es⟩,s⟩
 | o=>o
noncomputable def setV (i:Nat)(v:Value):List DictEntry->List DictEntry
 | []=>[]
 | e :: r=>match i with | 0=>⟨e.hash,e.key,v⟩ :: r | i+1=>e :: setV i v r
noncomputable def W1 (cs:List (Nat × Value))(es:List DictEntry)(n:Nat):Obj->Obj
 | ⟨c,d,.dict xs _,s⟩=>⟨c,d,.dict ⟨cs.foldl (λl x=>setV x.1 x.2 l) xs.toList++es⟩ n,s⟩
 | o=>o
noncomputable def upd:BT->Nat->List Up->BT
 | t,_,[]=>t
 | t,k,.n o :: r=>upd (t.ins k o) (k+1) r
 | t,k,.u a f :: r=>upd (t.set a f) k r
noncomputable def q (u:Nat):Value:=.str z0 u
noncomputable def B:Value:=.bool true
noncomputable def oE:Obj:=oS y0 []
noncomputable def oN:Obj:=oF N []
noncomputable def oA (l:List Value):Obj:=oS y0 l
noncomputable def cO (n x l c f a g b:Nat)(v1 v2 v3:Value)(d t:Nat):Obj:=oF y1 [s n x,s n (x+1),q (x+2),J l,J c,J 0,J 0,J f,R a,B,J g,R b,v1,v2,v3,R d,J t,J l,q (t+1)]
noncomputable def uN (i n:Nat):Obj:=oU N (fd (sT i) (t n) 0 N N N N none N N 0)
noncomputable def lsO:Nat->List Nat->List Value
 | _,[]=>[]
 | x,k :: r=>s k x :: lsO (x+1) r
noncomputable def uT (i n:Nat)(v:Value)(m u c:Nat):Obj:=oU y2 (fd (sT i) (t n) 3 v N N (s m u) none (R c) N 0)
noncomputable def d5 (i n x l c f:Nat)(v:Value)(m u a:Nat):List Up:=[.n oE,.n oN,.n (uN i n),.n (cO n x l c f a 181 (a+1) N N N (a+2) (x+3)),.n (uT i n v m u (a+3))]
noncomputable def d7 (i n x l c f:Nat)(v:Value)(m u a k:Nat)(ys:List Nat):List Up:=[.n oE,.n oN,.n (oA (lsO (x+3) ys)),.n oE,.n (uN i n),.n (cO n x l c f a 181 (a+1) N (R (a+2)) (R (a+3)) (a+4) (x+3+k)),.n (uT i n v m u (a+5))]
noncomputable def fl (l:List (List Up)):List Up:=l.flatten
noncomputable def bT (P:Params):BT:=upd .nil 0 ((boot_heap P).objs.toList.map .n)
noncomputable def On:Env:={ scope:=Q.main.scope,locals:=mainNs,globals:=mainNs,cells:=[],code:=.ref 13,frame:=some 14 }
noncomputable def c0:Code:=.body (behindTheImports Q) On
noncomputable def stT (T:BT)(n toks:Nat)(os:OsState):SharedT:=⟨T,n,{},⟨[]⟩,{},toks,os⟩
noncomputable def run (w:World)(N:Nat)(T:BT)(n toks:Nat)(os:OsState)(a k:Nat)(pos:Pos):Option (Flow × SharedT × Code × Pos) :=
 PySem.W.Fast.tw10110043849684766642 PySem.W.Fast.tw14364793385576792824 Q w 11 (some (.ref 6)) 1 N (stT T n toks os)
  ⟨(PySem.W.Fast.tw12563942051412417395 ((Q.main.body.drop a).take k) On).wrap doneF deadEnd id id,c0,pos,[topFrame ⟨0,0,0,0⟩]⟩
noncomputable def Gg (N:Nat)(T:Params->BT)(n toks a k:Nat)(pos:Pos)(T':Params->BT)(n' toks':Nat)(pos':Pos):Prop:=∀ w:World,(λos=>run w N (T w.params) n toks os a k pos)=λos=>some (.next,stT (T' w.params) n' toks' os,c0,pos')
noncomputable def U0 (P:Params):List Up:=fl [[.n oE,.n oN,.n (oF y1 [(.str z58 182),(.str z58 183),(q 184),(J 1),(J 0),(J 0),(J 0),(J 0),(R 11),(.bool false),(J 181),(R 12),N,N,N,N,(J 185),(J 1),(q 186)]),.n ⟨y8,none,.plain,⟨[(some (R 13)),(some (R 3)),(some (R 3)),none,(some (.str z59 164)),none,(some (R 0))]⟩⟩]]
noncomputable def T0 (P:Params):BT:=upd (bT P) 11 (U0 P)
noncomputable def U1 (P:Params):List Up:=fl [[.u 2 (M1 [(de P ⟨⟨[116,121,112,101,46,95,95,115,117,98,99,108,97,115,115,101,115,95,95,46,69,120,99,101,112,116,105,111,110,46,48]⟩⟩ 212 (J 31)),(de P ⟨⟨[116,121,112,101,46,95,95,115,117,98,99,108,97,115,115,101,115,95,95,46,69,120,99,101,112,116,105,111,110,46,110]⟩⟩ 213 (J 1))] 2),.u 3 (W1 [(0,(s 600 194))] [(e P 111 193 (R 21)),(e P 42 215 (R 31))] 11),.u 12 (J5 [(J 1),(J 0),(R 20),(J 5),(J 0),(R 27)]),.n oE,.n oN,.n (oA [(s 358 190)]),.n oE,.n (uN 0 111),.n (cO 111 187 1 1 3 15 181 16 N (R 17) (R 18) 19 191),.n (oU y2 (fd (sT 0) (t 111) 3 N N N (.str z59 164) none (R 20) N 0)),.n (oA [y9]),.n (oF y4 [b0,y3]),.n ⟨y5,none,(.dict ⟨[(de P z1 203 (s 600 194)),(de P z6 205 (s 42 204)),(de P z2 207 (I 5 206)),(de P z3 208 (R 29))]⟩ 4),⟨[]⟩⟩,.n oE,.n oN,.n (oF y1 [(s 42 198),(s 42 199),(q 200),(J 5),(J 0),(J 0),(J 0),(J 0),(R 25),(.bool false),(J 181),(R 26),N,N,N,N,(J 201),(J 5),(q 202)]),.n ⟨y8,none,.plain,⟨[(some (R 27)),(some (R 3)),(some (R 24)),none,(some (s 600 194)),none,(some (R 0))]⟩⟩,.n oE,.n ⟨y5,none,(.dict ⟨[(de P z1 203 (s 600 194)),(de P z2 207 (I 5 206)),(de P z3 208 (R 29)),(de P z4 210 (R 32)),(de P z7 211 N)]⟩ 3),⟨[]⟩⟩,.n ⟨y3,none,(.cls ⟨(t 42),[y9],[(R 31),y9,y11,y6],30,(t 42),true,[],[],false,none,false⟩),⟨[(some (R 22)),none,(some (s 42 196)),(some (s 42 204)),(some b6),(some B)]⟩⟩,.n (oF y7 [(.str z4 209),(R 31),b2,N]),.n (oF y10 [(R 31),(R 31),(R 31)]),.n (oF y4 [b1,(R 31)])]]
noncomputable def T1 (P:Params):BT:=upd (T0 P) 15 (U1 P)
noncomputable def U2 (P:Params):List Up:=fl [[.u 3 (M1 [(e P 79 240 (R 51))] 12),.u 12 (J5 [(J 7),(J 0),(R 40)]),.u 31 (λU=>⟨y3,none,(.cls ⟨(t 42),[y9],[(R 31),y9,y11,y6],30,(t 42),true,[],[(R 51)],false,none,false⟩),⟨[(some (R 22)),none,(some (s 42 196)),(some (s 42 204)),(some b6),(some B)]⟩⟩),.n (oA [(R 31)]),.n (oF y4 [b0,y3]),.n ⟨y5,none,(.dict ⟨[(de P z1 223 (s 600 194)),(de P z6 225 (s 79 224)),(de P z2 227 (I 7 226)),(e P 99 235 (R 48)),(de P z3 237 (R 49))]⟩ 5),⟨[]⟩⟩,.n oE,.n (oF N [(J 9),(J 4),(R 47)]),.n (oF y1 [(s 79 218),(s 79 219),(q 220),(J 7),(J 0),(J 0),(J 0),(J 0),(R 38),(.bool false),(J 181),(R 39),N,N,N,N,(J 221),(J 7),(q 222)]),.n ⟨y8,none,.plain,⟨[(some (R 40)),(some (R 3)),(some (R 37)),none,(some (s 600 194)),none,(some (R 0))]⟩⟩,.n oE,.n oN,.n (oA [(s 520 231),(s 413 232)]),.n oE,.n (oU N (fd (sM 3 0) z8 0 N N N N none N N 0)),.n (oF y1 [(s 99 228),(.str z8 229),(q 230),(J 9),(J 2),(J 0),(J 0),(J 3),(R 42),B,(J 181),(R 43),N,(R 44),(R 45),(R 46),(J 233),(J 9),(q 234)]),.n (oU y2 (fd (sM 3 0) z8 3 N N N (s 600 194) none (R 47) N 0)),.n (oA [(s 413 236)]),.n ⟨y5,none,(.dict ⟨[(de P z1 223 (s 600 194)),(de P z2 227 (I 7 226)),(e P 99 235 (R 48)),(de P z3 237 (R 49)),(de P z7 238 N)]⟩ 2),⟨[]⟩⟩,.n ⟨y3,none,(.cls ⟨(t 79),[(R 31)],[(R 51),(R 31),y9,y11,y6],50,(t 79),true,[],[],false,none,false⟩),⟨[(some (R 35)),none,(some (s 79 216)),(some (s 79 224)),(some b6),(some B)]⟩⟩,.n (oF y10 [(R 51),(R 51),(R 51)]),.n (oF y4 [b1,(R 51)])]]
noncomputable def T2 (P:Params):BT:=upd (T1 P) 35 (U2 P)
noncomputable def U3 (P:Params):List Up:=fl [[.u 3 (M1 [(e P 78 269 (R 70))] 13),.u 12 (J5 [(J 11),(J 0),(R 59)]),.u 31 (λU=>⟨y3,none,(.cls ⟨(t 42),[y9],[(R 31),y9,y11,y6],30,(t 42),true,[],[(R 51),(R 70)],false,none,false⟩),⟨[(some (R 22)),none,(some (s 42 196)),(some (s 42 204)),(some b6),(some B)]⟩⟩),.n (oA [(R 31)]),.n (oF y4 [b0,y3]),.n ⟨y5,none,(.dict ⟨[(de P z1 248 (s 600 194)),(de P z6 250 (s 78 249)),(de P z2 252 (I 11 251)),(e P 99 262 (R 67)),(de P z3 266 (R 68))]⟩ 5),⟨[]⟩⟩,.n oE,.n (oF N [(J 13),(J 4),(R 66)]),.n (oF y1 [(s 78 243),(s 78 244),(q 245),(J 11),(J 0),(J 0),(J 0),(J 0),(R 57),(.bool false),(J 181),(R 58),N,N,N,N,(J 246),(J 11),(q 247)]),.n ⟨y8,none,.plain,⟨[(some (R 59)),(some (R 3)),(some (R 56)),none,(some (s 600 194)),none,(some (R 0))]⟩⟩,.n oE,.n oN,.n (oA [(s 520 256),(s 413 257),(s 167 258),(s 204 259)]),.n oE,.n (oU N (fd (sM 4 0) z9 0 N N N N none N N 0)),.n (oF y1 [(s 99 253),(.str z9 254),(q 255),(J 13),(J 4),(J 0),(J 0),(J 3),(R 61),B,(J 181),(R 62),N,(R 63),(R 64),(R 65),(J 260),(J 13),(q 261)]),.n (oU y2 (fd (sM 4 0) z9 3 N N N (s 600 194) none (R 66) N 0)),.n (oA [(s 167 263),(s 204 264),(s 413 265)]),.n ⟨y5,none,(.dict ⟨[(de P z1 248 (s 600 194)),(de P z2 252 (I 11 251)),(e P 99 262 (R 67)),(de P z3 266 (R 68)),(de P z7 267 N)]⟩ 2),⟨[]⟩⟩,.n ⟨y3,none,(.cls ⟨(t 78),[(R 31)],[(R 70),(R 31),y9,y11,y6],69,(t 78),true,[],[],false,none,false⟩),⟨[(some (R 54)),none,(some (s 78 241)),(some (s 78 249)),(some b6),(some B)]⟩⟩,.n (oF y10 [(R 70),(R 70),(R 70)]),.n (oF y4 [b1,(R 70)])]]
noncomputable def T3 (P:Params):BT:=upd (T2 P) 54 (U3 P)
noncomputable def U4 (P:Params):List Up:=fl [[.u 3 (M1 [(e P 55 294 (R 89))] 14),.u 12 (J5 [(J 17),(J 0),(R 78)]),.u 31 (λU=>⟨y3,none,(.cls ⟨(t 42),[y9],[(R 31),y9,y11,y6],30,(t 42),true,[],[(R 51),(R 70),(R 89)],false,none,false⟩),⟨[(some (R 22)),none,(some (s 42 196)),(some (s 42 204)),(some b6),(some B)]⟩⟩),.n (oA [(R 31)]),.n (oF y4 [b0,y3]),.n ⟨y5,none,(.dict ⟨[(de P z1 277 (s 600 194)),(de P z6 279 (s 55 278)),(de P z2 281 (I 17 280)),(e P 99 289 (R 86)),(de P z3 291 (R 87))]⟩ 5),⟨[]⟩⟩,.n oE,.n (oF N [(J 19),(J 4),(R 85)]),.n (oF y1 [(s 55 272),(s 55 273),(q 274),(J 17),(J 0),(J 0),(J 0),(J 0),(R 76),(.bool false),(J 181),(R 77),N,N,N,N,(J 275),(J 17),(q 276)]),.n ⟨y8,none,.plain,⟨[(some (R 78)),(some (R 3)),(some (R 75)),none,(some (s 600 194)),none,(some (R 0))]⟩⟩,.n oE,.n oN,.n (oA [(s 520 285),(s 624 286)]),.n oE,.n (oU N (fd (sM 5 0) z10 0 N N N N none N N 0)),.n (oF y1 [(s 99 282),(.str z10 283),(q 284),(J 19),(J 2),(J 0),(J 0),(J 3),(R 80),B,(J 181),(R 81),N,(R 82),(R 83),(R 84),(J 287),(J 19),(q 288)]),.n (oU y2 (fd (sM 5 0) z10 3 N N N (s 600 194) none (R 85) N 0)),.n (oA [(s 624 290)]),.n ⟨y5,none,(.dict ⟨[(de P z1 277 (s 600 194)),(de P z2 281 (I 17 280)),(e P 99 289 (R 86)),(de P z3 291 (R 87)),(de P z7 292 N)]⟩ 2),⟨[]⟩⟩,.n ⟨y3,none,(.cls ⟨(t 55),[(R 31)],[(R 89),(R 31),y9,y11,y6],88,(t 55),true,[],[],false,none,false⟩),⟨[(some (R 73)),none,(some (s 55 270)),(some (s 55 278)),(some b6),(some B)]⟩⟩,.n (oF y10 [(R 89),(R 89),(R 89)]),.n (oF y4 [b1,(R 89)])]]
noncomputable def T4 (P:Params):BT:=upd (T3 P) 73 (U4 P)
theorem g4:Gg 977 T0 15 187 0 6 ⟨0,0,0,0⟩ T4 92 295 ⟨17,0,20,24⟩:=λw=>by kernel_rfl
noncomputable def U5 (P:Params):List Up:=fl [[.u 3 (M1 [(e P 80 321 (R 108))] 15),.u 12 (J5 [(J 21),(J 0),(R 97)]),.u 31 (λU=>⟨y3,none,(.cls ⟨(t 42),[y9],[(R 31),y9,y11,y6],30,(t 42),true,[],[(R 51),(R 70),(R 89),(R 108)],false,none,false⟩),⟨[(some (R 22)),none,(some (s 42 196)),(some (s 42 204)),(some b6),(some B)]⟩⟩),.n (oA [(R 31)]),.n (oF y4 [b0,y3]),.n ⟨y5,none,(.dict ⟨[(de P z1 302 (s 600 194)),(de P z6 304 (s 80 303)),(de P z2 306 (I 21 305)),(e P 99 315 (R 105)),(de P z3 318 (R 106))]⟩ 5),⟨[]⟩⟩,.n oE,.n (oF N [(J 23),(J 4),(R 104)]),.n (oF y1 [(s 80 297),(s 80 298),(q 299),(J 21),(J 0),(J 0),(J 0),(J 0),(R 95),(.bool false),(J 181),(R 96),N,N,N,N,(J 300),(J 21),(q 301)]),.n ⟨y8,none,.plain,⟨[(some (R 97)),(some (R 3)),(some (R 94)),none,(some (s 600 194)),none,(some (R 0))]⟩⟩,.n oE,.n oN,.n (oA [(s 520 310),(s 440 311),(s 586 312)]),.n oE,.n (oU N (fd (sM 6 0) z11 0 N N N N none N N 0)),.n (oF y1 [(s 99 307),(.str z11 308),(q 309),(J 23),(J 3),(J 0),(J 0),(J 3),(R 99),B,(J 181),(R 100),N,(R 101),(R 102),(R 103),(J 313),(J 23),(q 314)]),.n (oU y2 (fd (sM 6 0) z11 3 N N N (s 600 194) none (R 104) N 0)),.n (oA [(s 440 316),(s 586 317)]),.n ⟨y5,none,(.dict ⟨[(de P z1 302 (s 600 194)),(de P z2 306 (I 21 305)),(e P 99 315 (R 105)),(de P z3 318 (R 106)),(de P z7 319 N)]⟩ 2),⟨[]⟩⟩,.n ⟨y3,none,(.cls ⟨(t 80),[(R 31)],[(R 108),(R 31),y9,y11,y6],107,(t 80),true,[],[],false,none,false⟩),⟨[(some (R 92)),none,(some (s 80 295)),(some (s 80 303)),(some b6),(some B)]⟩⟩,.n (oF y10 [(R 108),(R 108),(R 108)]),.n (oF y4 [b1,(R 108)])]]
noncomputable def T5 (P:Params):BT:=upd (T4 P) 92 (U5 P)
noncomputable def U6 (P:Params):List Up:=fl [[.u 3 (W1 [(0,(s 607 349))] [(e P 56 348 (R 127)),(e P 70 353 (R 130)),(e P 52 356 (R 131)),(e P 91 359 (R 132)),(e P 59 361 (I 5000 360)),(e P 62 364 (.int big 363)),(e P 303 372 (R 139)),(e P 164 380 (R 146))] 23),.u 12 (J5 [(J 26),(J 0),(R 116),(J 37),(J 0),(R 138),(J 41),(J 0),(R 145)]),.u 31 (λU=>⟨y3,none,(.cls ⟨(t 42),[y9],[(R 31),y9,y11,y6],30,(t 42),true,[],[(R 51),(R 70),(R 89),(R 108),(R 127)],false,none,false⟩),⟨[(some (R 22)),none,(some (s 42 196)),(some (s 42 204)),(some b6),(some B)]⟩⟩),.n (oA [(R 31)]),.n (oF y4 [b0,y3]),.n ⟨y5,none,(.dict ⟨[(de P z1 329 (s 600 194)),(de P z6 331 (s 56 330)),(de P z2 333 (I 26 332)),(e P 99 342 (R 124)),(de P z3 345 (R 125))]⟩ 5),⟨[]⟩⟩,.n oE,.n (oF N [(J 28),(J 4),(R 123)]),.n (oF y1 [(s 56 324),(s 56 325),(q 326),(J 26),(J 0),(J 0),(J 0),(J 0),(R 114),(.bool false),(J 181),(R 115),N,N,N,N,(J 327),(J 26),(q 328)]),.n ⟨y8,none,.plain,⟨[(some (R 116)),(some (R 3)),(some (R 113)),none,(some (s 600 194)),none,(some (R 0))]⟩⟩,.n oE,.n oN,.n (oA [(s 520 337),(s 440 338),(s 115 339)]),.n oE,.n (oU N (fd (sM 7 0) z12 0 N N N N none N N 0)),.n (oF y1 [(s 99 334),(.str z12 335),(q 336),(J 28),(J 3),(J 0),(J 0),(J 3),(R 118),B,(J 181),(R 119),N,(R 120),(R 121),(R 122),(J 340),(J 28),(q 341)]),.n (oU y2 (fd (sM 7 0) z12 3 N N N (s 600 194) none (R 123) N 0)),.n (oA [(s 115 343),(s 440 344)]),.n ⟨y5,none,(.dict ⟨[(de P z1 329 (s 600 194)),(de P z2 333 (I 26 332)),(e P 99 342 (R 124)),(de P z3 345 (R 125)),(de P z7 346 N)]⟩ 2),⟨[]⟩⟩,.n ⟨y3,none,(.cls ⟨(t 56),[(R 31)],[(R 127),(R 31),y9,y11,y6],126,(t 56),true,[],[],false,none,false⟩),⟨[(some (R 111)),none,(some (s 56 322)),(some (s 56 330)),(some b6),(some B)]⟩⟩,.n (oF y10 [(R 127),(R 127),(R 127)]),.n (oF y4 [b1,(R 127)]),.n (oA [(I 0 351),(I 0 352)]),.n (oA [(I 1 354),(I 0 355)]),.n (oA [(I 0 357),(I 1 358)])],
d7 14 303 365 37 2 3 N 607 349 133 2 [112,145],
d7 15 164 373 41 2 3 N 607 349 140 2 [422,209]]
noncomputable def T6 (P:Params):BT:=upd (T5 P) 111 (U6 P)
noncomputable def U7 (P:Params):List Up:=fl [[.u 3 (W1 [(0,(s 606 472))] [(e P 400 389 (R 153)),(e P 299 396 (R 160)),(e P 342 403 (R 167)),(e P 338 410 (R 174)),(e P 405 418 (R 181)),(e P 429 425 (R 188)),(e P 421 433 (R 195)),(e P 572 441 (R 202)),(e P 428 451 (R 209)),(e P 261 461 (R 216)),(e P 200 471 (R 223)),(e P 58 475 (I 4096 474)),(e P 63 477 (I 5000 476)),(e P 626 487 (R 230))] 37),.u 12 (J5 [(J 45),(J 0),(R 152),(J 55),(J 0),(R 159),(J 59),(J 0),(R 166),(J 61),(J 0),(R 173),(J 63),(J 0),(R 180),(J 67),(J 0),(R 187),(J 71),(J 0),(R 194),(J 75),(J 0),(R 201),(J 80),(J 0),(R 208),(J 86),(J 0),(R 215),(J 97),(J 0),(R 222),(J 118),(J 0),(R 229)])],
d7 16 400 381 45 2 3 N 607 349 147 3 [422,209,196],
d7 17 299 390 55 1 3 N 607 349 154 1 [422],
d7 18 342 397 59 1 3 N 607 349 161 1 [635],
d7 19 338 404 61 1 3 N 607 349 168 1 [635],
d7 20 405 411 63 2 3 N 607 349 175 2 [635,637],
d7 21 429 419 67 1 3 N 607 349 182 1 [635],
d7 22 421 426 71 2 3 N 607 349 189 2 [635,637],
d7 23 572 434 75 1 3 N 607 349 196 2 [635,294],
d7 24 428 442 80 2 3 N 607 349 203 4 [422,209,396,492],
d7 25 261 452 86 1 3 N 607 349 210 4 [635,422,209,243],
d7 26 200 462 97 2 3 N 607 349 217 4 [635,637,376,497],
d7 30 626 478 118 1 3 N 606 472 224 4 [422,492,501,462]]
noncomputable def T7 (P:Params):BT:=upd (T6 P) 147 (U7 P)
theorem g7:Gg 1019 T4 92 295 6 25 ⟨17,0,20,24⟩ T7 231 488 ⟨118,0,128,23⟩:=λw=>by kernel_rfl
noncomputable def U8 (P:Params):List Up:=fl [[.u 3 (M1 [(e P 544 494 (R 237)),(e P 513 504 (R 244)),(e P 533 514 (R 251)),(e P 631 522 (R 258)),(e P 515 534 (R 265)),(e P 280 544 (R 272)),(e P 409 557 (R 279)),(e P 183 574 (R 286)),(e P 293 583 (R 293)),(e P 199 589 (R 298)),(e P 441 598 (R 306)),(e P 218 608 (R 313))] 49),.u 12 (J5 [(J 129),(J 0),(R 236),(J 137),(J 0),(R 243),(J 142),(J 0),(R 250),(J 151),(J 0),(R 257),(J 156),(J 0),(R 264),(J 163),(J 0),(R 271),(J 171),(J 0),(R 278),(J 178),(J 0),(R 285),(J 198),(J 0),(R 292),(J 205),(J 0),(R 297),(J 209),(J 0),(R 305),(J 211),(J 0),(R 312)])],
d7 31 544 488 129 1 3 N 606 472 231 1 [635],
d7 32 513 495 137 3 3 N 606 472 238 4 [635,243,217,525],
d7 33 533 505 142 2 3 N 606 472 245 4 [635,217,243,422],
d7 34 631 515 151 1 3 N 606 472 252 2 [561,251],
d7 35 515 523 156 2 3 N 606 472 259 6 [635,217,529,561,243,501],
d7 36 280 535 163 2 3 N 606 472 266 4 [635,468,422,561],
d7 37 409 545 171 2 3 N 606 472 273 7 [635,217,529,561,243,207,376],
d7 38 183 558 178 2 3 N 606 472 280 11 [636,217,207,376,468,627,415,635,501,281,516],
d7 39 293 575 198 2 3 N 606 472 287 3 [635,287,561],
d5 40 199 584 205 2 3 N 606 472 294,
[.n (oA [(I 7 590)])],
d7 41 441 591 209 2 3 (R 299) 606 472 300 2 [635,217],
d7 42 218 599 211 2 3 N 606 472 307 4 [561,156,586,177]]
noncomputable def T8 (P:Params):BT:=upd (T7 P) 231 (U8 P)
noncomputable def U9 (P:Params):List Up:=fl [[.u 3 (W1 [(0,(s 613 667))] [(e P 216 617 (R 320)),(e P 262 626 (R 327)),(e P 474 635 (R 334)),(e P 579 654 (R 341)),(e P 461 666 (R 348)),(e P 61 670 (I 1000000 669))] 55),.u 12 (J5 [(J 216),(J 0),(R 319),(J 220),(J 0),(R 326),(J 230),(J 0),(R 333),(J 240),(J 0),(R 340),(J 274),(J 0),(R 347)])],
d7 43 216 609 216 3 3 N 606 472 314 3 [561,139,217],
d7 44 262 618 220 1 3 N 606 472 321 3 [561,546,586],
d7 45 474 627 230 3 3 N 606 472 328 3 [422,156,243],
d7 46 579 636 240 1 3 N 606 472 335 13 [561,156,217,404,512,251,157,158,546,243,445,422,294],
d7 47 461 655 274 1 3 N 606 472 342 6 [561,161,430,537,294,445]]
noncomputable def T9 (P:Params):BT:=upd (T8 P) 314 (U9 P)
noncomputable def U10 (P:Params):List Up:=fl [[.u 3 (M1 [(e P 75 699 (R 365))] 56),.u 12 (J5 [(J 293),(J 0),(R 354)]),.n oE,.n (oF y4 [b0,y3]),.n ⟨y5,none,(.dict ⟨[(de P z1 678 (s 613 667)),(de P z6 680 (s 75 679)),(de P z2 682 (I 293 681)),(e P 99 689 (R 362)),(de P z3 692 (R 363))]⟩ 5),⟨[]⟩⟩,.n oE,.n (oF N [(J 295),(J 4),(R 361)]),.n (oF y1 [(s 75 673),(s 75 674),(q 675),(J 293),(J 0),(J 0),(J 0),(J 0),(R 352),(.bool false),(J 181),(R 353),N,N,N,N,(J 676),(J 293),(q 677)]),.n ⟨y8,none,.plain,⟨[(some (R 354)),(some (R 3)),(some (R 351)),none,(some (s 613 667)),none,(some (R 0))]⟩⟩,.n oE,.n oN,.n (oA [(s 520 686)]),.n oE,.n (oU N (fd (sM 50 0) z13 0 N N N N none N N 0)),.n (oF y1 [(s 99 683),(.str z13 684),(q 685),(J 295),(J 1),(J 0),(J 0),(J 3),(R 356),B,(J 181),(R 357),N,(R 358),(R 359),(R 360),(J 687),(J 295),(q 688)]),.n (oU y2 (fd (sM 50 0) z13 3 N N N (s 613 667) none (R 361) N 0)),.n (oA [(s 141 690),(s 362 691)]),.n ⟨y5,none,(.dict ⟨[(de P z1 678 (s 613 667)),(de P z2 682 (I 293 681)),(e P 99 689 (R 362)),(de P z3 692 (R 363)),(de P z5 694 (R 366)),(de P z4 696 (R 367)),(de P z7 697 N)]⟩ 4),⟨[]⟩⟩,.n ⟨y3,none,(.cls ⟨(t 75),[y6],[(R 365),y6],364,(t 75),true,[],[],false,none,false⟩),⟨[none,none,(some (s 75 671)),(some (s 75 679)),(some b3),(some B)]⟩⟩,.n (oF y7 [(.str z5 693),(R 365),b4,b5]),.n (oF y7 [(.str z4 695),(R 365),b2,N]),.n (oF y10 [(R 365),(R 365),(R 365)]),.n (oF y4 [b1,(R 365)])]]
noncomputable def T10 (P:Params):BT:=upd (T9 P) 349 (U10 P)
noncomputable def U11 (P:Params):List Up:=fl [[.u 3 (M1 [(e P 67 728 (R 386))] 57),.u 12 (J5 [(J 298),(J 0),(R 375)]),.n oE,.n (oF y4 [b0,y3]),.n ⟨y5,none,(.dict ⟨[(de P z1 707 (s 613 667)),(de P z6 709 (s 67 708)),(de P z2 711 (I 298 710)),(e P 99 718 (R 383)),(de P z3 721 (R 384))]⟩ 5),⟨[]⟩⟩,.n oE,.n (oF N [(J 300),(J 4),(R 382)]),.n (oF y1 [(s 67 702),(s 67 703),(q 704),(J 298),(J 0),(J 0),(J 0),(J 0),(R 373),(.bool false),(J 181),(R 374),N,N,N,N,(J 705),(J 298),(q 706)]),.n ⟨y8,none,.plain,⟨[(some (R 375)),(some (R 3)),(some (R 372)),none,(some (s 613 667)),none,(some (R 0))]⟩⟩,.n oE,.n oN,.n (oA [(s 520 715)]),.n oE,.n (oU N (fd (sM 51 0) z14 0 N N N N none N N 0)),.n (oF y1 [(s 99 712),(.str z14 713),(q 714),(J 300),(J 1),(J 0),(J 0),(J 3),(R 377),B,(J 181),(R 378),N,(R 379),(R 380),(R 381),(J 716),(J 300),(q 717)]),.n (oU y2 (fd (sM 51 0) z14 3 N N N (s 613 667) none (R 382) N 0)),.n (oA [(s 141 719),(s 362 720)]),.n ⟨y5,none,(.dict ⟨[(de P z1 707 (s 613 667)),(de P z2 711 (I 298 710)),(e P 99 718 (R 383)),(de P z3 721 (R 384)),(de P z5 723 (R 387)),(de P z4 725 (R 388)),(de P z7 726 N)]⟩ 4),⟨[]⟩⟩,.n ⟨y3,none,(.cls ⟨(t 67),[y6],[(R 386),y6],385,(t 67),true,[],[],false,none,false⟩),⟨[none,none,(some (s 67 700)),(some (s 67 708)),(some b3),(some B)]⟩⟩,.n (oF y7 [(.str z5 722),(R 386),b4,b5]),.n (oF y7 [(.str z4 724),(R 386),b2,N]),.n (oF y10 [(R 386),(R 386),(R 386)]),.n (oF y4 [b1,(R 386)])]]
noncomputable def T11 (P:Params):BT:=upd (T10 P) 370 (U11 P)
theorem g11:Gg 1018 T7 231 488 31 21 ⟨118,0,128,23⟩ T11 391 729 ⟨298,0,302,25⟩:=λw=>by kernel_rfl
noncomputable def U12 (P:Params):List Up:=fl [[.u 3 (M1 [(e P 88 770 (R 415))] 58),.u 12 (J5 [(J 303),(J 0),(R 396)]),.n oE,.n (oF y4 [b0,y3]),.n ⟨y5,none,(.dict ⟨[(de P z1 736 (s 613 667)),(de P z6 738 (s 88 737)),(de P z2 740 (I 303 739)),(e P 99 750 (R 405)),(e P 205 757 (R 412)),(de P z3 763 (R 413))]⟩ 6),⟨[]⟩⟩,.n oE,.n (oF N [(J 305),(J 4),(R 404),(J 312),(J 4),(R 411)]),.n (oF y1 [(s 88 731),(s 88 732),(q 733),(J 303),(J 0),(J 0),(J 0),(J 0),(R 394),(.bool false),(J 181),(R 395),N,N,N,N,(J 734),(J 303),(q 735)]),.n ⟨y8,none,.plain,⟨[(some (R 396)),(some (R 3)),(some (R 393)),none,(some (s 613 667)),none,(some (R 0))]⟩⟩,.n (oA [N]),.n oE,.n oN,.n (oA [(s 520 744),(s 362 745),(s 351 746),(s 141 747)]),.n oE,.n (oU N (fd (sM 52 0) z15 0 N N N N none N N 0)),.n (oF y1 [(s 99 741),(.str z15 742),(q 743),(J 305),(J 4),(J 0),(J 0),(J 3),(R 399),B,(J 181),(R 400),N,(R 401),(R 402),(R 403),(J 748),(J 305),(q 749)]),.n (oU y2 (fd (sM 52 0) z15 3 (R 398) N N (s 613 667) none (R 404) N 0)),.n oE,.n oN,.n (oA [(s 520 754)]),.n oE,.n (oU N (fd (sM 52 1) z16 0 N N N N none N N 0)),.n (oF y1 [(s 205 751),(.str z16 752),(q 753),(J 312),(J 1),(J 0),(J 0),(J 3),(R 406),B,(J 181),(R 407),N,(R 408),(R 409),(R 410),(J 755),(J 312),(q 756)]),.n (oU y2 (fd (sM 52 1) z16 3 N N N (s 613 667) none (R 411) N 0)),.n (oA [(s 141 758),(s 351 759),(s 362 760),(s 394 761),(s 524 762)]),.n ⟨y5,none,(.dict ⟨[(de P z1 736 (s 613 667)),(de P z2 740 (I 303 739)),(e P 99 750 (R 405)),(e P 205 757 (R 412)),(de P z3 763 (R 413)),(de P z5 765 (R 416)),(de P z4 767 (R 417)),(de P z7 768 N)]⟩ 4),⟨[]⟩⟩,.n ⟨y3,none,(.cls ⟨(t 88),[y6],[(R 415),y6],414,(t 88),true,[],[],false,none,false⟩),⟨[none,none,(some (s 88 729)),(some (s 88 737)),(some b3),(some B)]⟩⟩,.n (oF y7 [(.str z5 764),(R 415),b4,b5]),.n (oF y7 [(.str z4 766),(R 415),b2,N]),.n (oF y10 [(R 415),(R 415),(R 415)]),.n (oF y4 [b1,(R 415)])]]
noncomputable def T12 (P:Params):BT:=upd (T11 P) 391 (U12 P)
noncomputable def U13 (P:Params):List Up:=fl [[.u 3 (M1 [(e P 83 801 (R 436))] 59),.u 12 (J5 [(J 314),(J 0),(R 425)]),.n oE,.n (oF y4 [b0,y3]),.n ⟨y5,none,(.dict ⟨[(de P z1 778 (s 613 667)),(de P z6 780 (s 83 779)),(de P z2 782 (I 314 781)),(e P 99 790 (R 433)),(de P z3 794 (R 434))]⟩ 5),⟨[]⟩⟩,.n oE,.n (oF N [(J 316),(J 4),(R 432)]),.n (oF y1 [(s 83 773),(s 83 774),(q 775),(J 314),(J 0),(J 0),(J 0),(J 0),(R 423),(.bool false),(J 181),(R 424),N,N,N,N,(J 776),(J 314),(q 777)]),.n ⟨y8,none,.plain,⟨[(some (R 425)),(some (R 3)),(some (R 422)),none,(some (s 613 667)),none,(some (R 0))]⟩⟩,.n oE,.n oN,.n (oA [(s 520 786),(s 424 787)]),.n oE,.n (oU N (fd (sM 53 0) z17 0 N N N N none N N 0)),.n (oF y1 [(s 99 783),(.str z17 784),(q 785),(J 316),(J 2),(J 0),(J 0),(J 3),(R 427),B,(J 181),(R 428),N,(R 429),(R 430),(R 431),(J 788),(J 316),(q 789)]),.n (oU y2 (fd (sM 53 0) z17 3 N N N (s 613 667) none (R 432) N 0)),.n (oA [(s 141 791),(s 362 792),(s 424 793)]),.n ⟨y5,none,(.dict ⟨[(de P z1 778 (s 613 667)),(de P z2 782 (I 314 781)),(e P 99 790 (R 433)),(de P z3 794 (R 434)),(de P z5 796 (R 437)),(de P z4 798 (R 438)),(de P z7 799 N)]⟩ 4),⟨[]⟩⟩,.n ⟨y3,none,(.cls ⟨(t 83),[y6],[(R 436),y6],435,(t 83),true,[],[],false,none,false⟩),⟨[none,none,(some (s 83 771)),(some (s 83 779)),(some b3),(some B)]⟩⟩,.n (oF y7 [(.str z5 795),(R 436),b4,b5]),.n (oF y7 [(.str z4 797),(R 436),b2,N]),.n (oF y10 [(R 436),(R 436),(R 436)]),.n (oF y4 [b1,(R 436)])]]
noncomputable def T13 (P:Params):BT:=upd (T12 P) 420 (U13 P)
noncomputable def U14 (P:Params):List Up:=fl [[.u 3 (M1 [(e P 41 836 (R 458))] 60),.u 12 (J5 [(J 320),(J 0),(R 446)]),.n oE,.n (oF y4 [b0,y3]),.n ⟨y5,none,(.dict ⟨[(de P z1 809 (s 613 667)),(de P z6 811 (s 41 810)),(de P z2 813 (I 320 812)),(e P 99 823 (R 455)),(de P z3 829 (R 456))]⟩ 5),⟨[]⟩⟩,.n oE,.n (oF N [(J 322),(J 4),(R 454)]),.n (oF y1 [(s 41 804),(s 41 805),(q 806),(J 320),(J 0),(J 0),(J 0),(J 0),(R 444),(.bool false),(J 181),(R 445),N,N,N,N,(J 807),(J 320),(q 808)]),.n ⟨y8,none,.plain,⟨[(some (R 446)),(some (R 3)),(some (R 443)),none,(some (s 613 667)),none,(some (R 0))]⟩⟩,.n (oA [N]),.n oE,.n oN,.n (oA [(s 520 817),(s 351 818),(s 555 819),(s 141 820)]),.n oE,.n (oU N (fd (sM 54 0) z18 0 N N N N none N N 0)),.n (oF y1 [(s 99 814),(.str z18 815),(q 816),(J 322),(J 4),(J 0),(J 0),(J 3),(R 449),B,(J 181),(R 450),N,(R 451),(R 452),(R 453),(J 821),(J 322),(q 822)]),.n (oU y2 (fd (sM 54 0) z18 3 (R 448) N N (s 613 667) none (R 454) N 0)),.n (oA [(s 141 824),(s 188 825),(s 351 826),(s 362 827),(s 555 828)]),.n ⟨y5,none,(.dict ⟨[(de P z1 809 (s 613 667)),(de P z2 813 (I 320 812)),(e P 99 823 (R 455)),(de P z3 829 (R 456)),(de P z5 831 (R 459)),(de P z4 833 (R 460)),(de P z7 834 N)]⟩ 4),⟨[]⟩⟩,.n ⟨y3,none,(.cls ⟨(t 41),[y6],[(R 458),y6],457,(t 41),true,[],[],false,none,false⟩),⟨[none,none,(some (s 41 802)),(some (s 41 810)),(some b3),(some B)]⟩⟩,.n (oF y7 [(.str z5 830),(R 458),b4,b5]),.n (oF y7 [(.str z4 832),(R 458),b2,N]),.n (oF y10 [(R 458),(R 458),(R 458)]),.n (oF y4 [b1,(R 458)])]]
noncomputable def T14 (P:Params):BT:=upd (T13 P) 441 (U14 P)
noncomputable def U15 (P:Params):List Up:=fl [[.u 3 (M1 [(e P 40 873 (R 479))] 61),.u 12 (J5 [(J 328),(J 0),(R 468)]),.n oE,.n (oF y4 [b0,y3]),.n ⟨y5,none,(.dict ⟨[(de P z1 844 (s 613 667)),(de P z6 846 (s 40 845)),(de P z2 848 (I 328 847)),(e P 99 859 (R 476)),(de P z3 866 (R 477))]⟩ 5),⟨[]⟩⟩,.n oE,.n (oF N [(J 330),(J 4),(R 475)]),.n (oF y1 [(s 40 839),(s 40 840),(q 841),(J 328),(J 0),(J 0),(J 0),(J 0),(R 466),(.bool false),(J 181),(R 467),N,N,N,N,(J 842),(J 328),(q 843)]),.n ⟨y8,none,.plain,⟨[(some (R 468)),(some (R 3)),(some (R 465)),none,(some (s 613 667)),none,(some (R 0))]⟩⟩,.n oE,.n oN,.n (oA [(s 520 852),(s 424 853),(s 543 854),(s 285 855),(s 309 856)]),.n oE,.n (oU N (fd (sM 55 0) z19 0 N N N N none N N 0)),.n (oF y1 [(s 99 849),(.str z19 850),(q 851),(J 330),(J 5),(J 0),(J 0),(J 3),(R 470),B,(J 181),(R 471),N,(R 472),(R 473),(R 474),(J 857),(J 330),(q 858)]),.n (oU y2 (fd (sM 55 0) z19 3 N N N (s 613 667) none (R 475) N 0)),.n (oA [(s 141 860),(s 285 861),(s 309 862),(s 362 863),(s 424 864),(s 543 865)]),.n ⟨y5,none,(.dict ⟨[(de P z1 844 (s 613 667)),(de P z2 848 (I 328 847)),(e P 99 859 (R 476)),(de P z3 866 (R 477)),(de P z5 868 (R 480)),(de P z4 870 (R 481)),(de P z7 871 N)]⟩ 4),⟨[]⟩⟩,.n ⟨y3,none,(.cls ⟨(t 40),[y6],[(R 479),y6],478,(t 40),true,[],[],false,none,false⟩),⟨[none,none,(some (s 40 837)),(some (s 40 845)),(some b3),(some B)]⟩⟩,.n (oF y7 [(.str z5 867),(R 479),b4,b5]),.n (oF y7 [(.str z4 869),(R 479),b2,N]),.n (oF y10 [(R 479),(R 479),(R 479)]),.n (oF y4 [b1,(R 479)])]]
noncomputable def T15 (P:Params):BT:=upd (T14 P) 463 (U15 P)
noncomputable def U16 (P:Params):List Up:=fl [[.u 3 (M1 [(e P 44 910 (R 501))] 62),.u 12 (J5 [(J 337),(J 0),(R 489)]),.n oE,.n (oF y4 [b0,y3]),.n ⟨y5,none,(.dict ⟨[(de P z1 881 (s 613 667)),(de P z6 883 (s 44 882)),(de P z2 885 (I 337 884)),(e P 99 895 (R 498)),(de P z3 903 (R 499))]⟩ 5),⟨[]⟩⟩,.n oE,.n (oF N [(J 339),(J 4),(R 497)]),.n (oF y1 [(s 44 876),(s 44 877),(q 878),(J 337),(J 0),(J 0),(J 0),(J 0),(R 487),(.bool false),(J 181),(R 488),N,N,N,N,(J 879),(J 337),(q 880)]),.n ⟨y8,none,.plain,⟨[(some (R 489)),(some (R 3)),(some (R 486)),none,(some (s 613 667)),none,(some (R 0))]⟩⟩,.n (oA [N]),.n oE,.n oN,.n (oA [(s 520 889),(s 440 890),(s 460 891),(s 141 892)]),.n oE,.n (oU N (fd (sM 56 0) z20 0 N N N N none N N 0)),.n (oF y1 [(s 99 886),(.str z20 887),(q 888),(J 339),(J 4),(J 0),(J 0),(J 3),(R 492),B,(J 181),(R 493),N,(R 494),(R 495),(R 496),(J 893),(J 339),(q 894)]),.n (oU y2 (fd (sM 56 0) z20 3 (R 491) N N (s 613 667) none (R 497) N 0)),.n (oA [(s 141 896),(s 297 897),(s 362 898),(s 387 899),(s 388 900),(s 440 901),(s 460 902)]),.n ⟨y5,none,(.dict ⟨[(de P z1 881 (s 613 667)),(de P z2 885 (I 337 884)),(e P 99 895 (R 498)),(de P z3 903 (R 499)),(de P z5 905 (R 502)),(de P z4 907 (R 503)),(de P z7 908 N)]⟩ 4),⟨[]⟩⟩,.n ⟨y3,none,(.cls ⟨(t 44),[y6],[(R 501),y6],500,(t 44),true,[],[],false,none,false⟩),⟨[none,none,(some (s 44 874)),(some (s 44 882)),(some b3),(some B)]⟩⟩,.n (oF y7 [(.str z5 904),(R 501),b4,b5]),.n (oF y7 [(.str z4 906),(R 501),b2,N]),.n (oF y10 [(R 501),(R 501),(R 501)]),.n (oF y4 [b1,(R 501)])]]
noncomputable def T16 (P:Params):BT:=upd (T15 P) 484 (U16 P)
theorem g16:Gg 1179 T11 391 729 52 5 ⟨298,0,302,25⟩ T16 506 911 ⟨337,0,346,23⟩:=λw=>by kernel_rfl
noncomputable def U17 (P:Params):List Up:=fl [[.u 3 (M1 [(e P 77 946 (R 522))] 63),.u 12 (J5 [(J 347),(J 0),(R 511)]),.n oE,.n (oF y4 [b0,y3]),.n ⟨y5,none,(.dict ⟨[(de P z1 918 (s 613 667)),(de P z6 920 (s 77 919)),(de P z2 922 (I 347 921)),(e P 99 931 (R 519)),(de P z3 939 (R 520))]⟩ 5),⟨[]⟩⟩,.n oE,.n (oF N [(J 349),(J 4),(R 518)]),.n (oF y1 [(s 77 913),(s 77 914),(q 915),(J 347),(J 0),(J 0),(J 0),(J 0),(R 509),(.bool false),(J 181),(R 510),N,N,N,N,(J 916),(J 347),(q 917)]),.n ⟨y8,none,.plain,⟨[(some (R 511)),(some (R 3)),(some (R 508)),none,(some (s 613 667)),none,(some (R 0))]⟩⟩,.n oE,.n oN,.n (oA [(s 520 926),(s 263 927),(s 252 928)]),.n oE,.n (oU N (fd (sM 57 0) z21 0 N N N N none N N 0)),.n (oF y1 [(s 99 923),(.str z21 924),(q 925),(J 349),(J 3),(J 0),(J 0),(J 3),(R 513),B,(J 181),(R 514),N,(R 515),(R 516),(R 517),(J 929),(J 349),(q 930)]),.n (oU y2 (fd (sM 57 0) z21 3 N N N (s 613 667) none (R 518) N 0)),.n (oA [(s 141 932),(s 211 933),(s 252 934),(s 263 935),(s 362 936),(s 548 937),(s 586 938)]),.n ⟨y5,none,(.dict ⟨[(de P z1 918 (s 613 667)),(de P z2 922 (I 347 921)),(e P 99 931 (R 519)),(de P z3 939 (R 520)),(de P z5 941 (R 523)),(de P z4 943 (R 524)),(de P z7 944 N)]⟩ 4),⟨[]⟩⟩,.n ⟨y3,none,(.cls ⟨(t 77),[y6],[(R 522),y6],521,(t 77),true,[],[],false,none,false⟩),⟨[none,none,(some (s 77 911)),(some (s 77 919)),(some b3),(some B)]⟩⟩,.n (oF y7 [(.str z5 940),(R 522),b4,b5]),.n (oF y7 [(.str z4 942),(R 522),b2,N]),.n (oF y10 [(R 522),(R 522),(R 522)]),.n (oF y4 [b1,(R 522)])]]
noncomputable def T17 (P:Params):BT:=upd (T16 P) 506 (U17 P)
noncomputable def U18 (P:Params):List Up:=fl [[.u 3 (M1 [(e P 43 977 (R 543)),(e P 500 984 (R 554)),(e P 439 990 (R 561)),(e P 416 996 (R 568)),(e P 389 1003 (R 575)),(e P 325 1010 (R 582)),(e P 178 1017 (R 589))] 70),.u 12 (J5 [(J 357),(J 0),(R 532),(J 363),(J 0),(R 553),(J 367),(J 0),(R 560),(J 369),(J 0),(R 567),(J 371),(J 0),(R 574),(J 373),(J 0),(R 581),(J 375),(J 0),(R 588)]),.n oE,.n (oF y4 [b0,y3]),.n ⟨y5,none,(.dict ⟨[(de P z1 954 (s 613 667)),(de P z6 956 (s 43 955)),(de P z2 958 (I 357 957)),(e P 99 966 (R 540)),(de P z3 970 (R 541))]⟩ 5),⟨[]⟩⟩,.n oE,.n (oF N [(J 359),(J 4),(R 539)]),.n (oF y1 [(s 43 949),(s 43 950),(q 951),(J 357),(J 0),(J 0),(J 0),(J 0),(R 530),(.bool false),(J 181),(R 531),N,N,N,N,(J 952),(J 357),(q 953)]),.n ⟨y8,none,.plain,⟨[(some (R 532)),(some (R 3)),(some (R 529)),none,(some (s 613 667)),none,(some (R 0))]⟩⟩,.n oE,.n oN,.n (oA [(s 520 962),(s 123 963)]),.n oE,.n (oU N (fd (sM 58 0) z22 0 N N N N none N N 0)),.n (oF y1 [(s 99 959),(.str z22 960),(q 961),(J 359),(J 2),(J 0),(J 0),(J 3),(R 534),B,(J 181),(R 535),N,(R 536),(R 537),(R 538),(J 964),(J 359),(q 965)]),.n (oU y2 (fd (sM 58 0) z22 3 N N N (s 613 667) none (R 539) N 0)),.n (oA [(s 123 967),(s 141 968),(s 362 969)]),.n ⟨y5,none,(.dict ⟨[(de P z1 954 (s 613 667)),(de P z2 958 (I 357 957)),(e P 99 966 (R 540)),(de P z3 970 (R 541)),(de P z5 972 (R 544)),(de P z4 974 (R 545)),(de P z7 975 N)]⟩ 4),⟨[]⟩⟩,.n ⟨y3,none,(.cls ⟨(t 43),[y6],[(R 543),y6],542,(t 43),true,[],[],false,none,false⟩),⟨[none,none,(some (s 43 947)),(some (s 43 955)),(some b3),(some B)]⟩⟩,.n (oF y7 [(.str z5 971),(R 543),b4,b5]),.n (oF y7 [(.str z4 973),(R 543),b2,N]),.n (oF y10 [(R 543),(R 543),(R 543)]),.n (oF y4 [b1,(R 543)])],
d7 59 500 978 363 1 3 N 613 667 548 1 [422],
[.n oE,.n oN,.n oE,.n oE,.n (uN 60 439),.n (cO 439 985 367 0 3 555 181 556 N (R 557) (R 558) 559 988),.n (uT 60 439 N 613 667 560),.n oE,.n oN,.n oE,.n oE,.n (uN 61 416),.n (cO 416 991 369 0 3 562 181 563 N (R 564) (R 565) 566 994),.n (uT 61 416 N 613 667 567)],
d7 62 389 997 371 1 3 N 613 667 569 1 [351],
d7 63 325 1004 373 1 3 N 613 667 576 1 [351],
d7 64 178 1011 375 1 3 N 613 667 583 1 [351]]
noncomputable def T18 (P:Params):BT:=upd (T17 P) 527 (U18 P)
noncomputable def U19 (P:Params):List Up:=fl [[.u 3 (W1 [(0,(s 596 1091))] [(e P 425 1025 (R 596)),(e P 386 1031 (R 602)),(e P 625 1038 (R 609)),(e P 561 1045 (R 616)),(e P 170 1054 (R 623)),(e P 379 1062 (R 630)),(e P 344 1069 (R 637)),(e P 330 1076 (R 644)),(e P 340 1083 (R 651)),(e P 523 1090 (R 658)),(e P 306 1100 (R 665)),(e P 240 1108 (R 672)),(e P 480 1117 (R 679))] 83),.u 12 (J5 [(J 377),(J 0),(R 595),(J 381),(J 0),(R 601),(J 383),(J 0),(R 608),(J 385),(J 0),(R 615),(J 387),(J 0),(R 622),(J 390),(J 0),(R 629),(J 401),(J 0),(R 636),(J 403),(J 0),(R 643),(J 405),(J 0),(R 650),(J 407),(J 0),(R 657),(J 412),(J 0),(R 664),(J 416),(J 0),(R 671),(J 421),(J 0),(R 678)])],
d7 65 425 1018 377 2 3 N 613 667 590 2 [585,426],
[.n (oA [N])],
d5 66 386 1026 381 2 3 (R 597) 613 667 598,
d7 67 625 1032 383 1 3 N 613 667 603 1 [422],
d7 68 561 1039 385 1 3 N 613 667 610 1 [507],
d7 69 170 1046 387 2 3 N 613 667 617 3 [424,123,351],
d7 70 379 1055 390 1 3 N 613 667 624 2 [585,362],
d7 71 344 1063 401 1 3 N 613 667 631 1 [585],
d7 72 330 1070 403 1 3 N 613 667 638 1 [585],
d7 73 340 1077 405 1 3 N 613 667 645 1 [585],
d7 74 523 1084 407 1 3 N 613 667 652 1 [585],
d7 76 306 1093 412 2 3 N 596 1091 659 2 [585,424],
d7 77 240 1101 416 2 3 N 596 1091 666 2 [585,424],
d7 78 480 1109 421 3 3 N 596 1091 673 3 [585,424,586]]
noncomputable def T19 (P:Params):BT:=upd (T18 P) 590 (U19 P)
theorem g19:Gg 1020 T16 506 911 57 22 ⟨337,0,346,23⟩ T19 680 1118 ⟨421,0,424,32⟩:=λw=>by kernel_rfl
noncomputable def U20 (P:Params):List Up:=fl [[.u 3 (W1 [(0,(s 597 1174))] [(e P 366 1125 (R 686)),(e P 380 1133 (R 693)),(e P 367 1139 (R 698)),(e P 522 1145 (R 703)),(e P 427 1151 (R 708)),(e P 220 1159 (R 715)),(e P 223 1165 (R 720)),(e P 186 1173 (R 727))] 91),.u 12 (J5 [(J 425),(J 0),(R 685),(J 435),(J 0),(R 692),(J 439),(J 0),(R 697),(J 445),(J 0),(R 702),(J 463),(J 0),(R 707),(J 479),(J 0),(R 714),(J 484),(J 0),(R 719),(J 489),(J 0),(R 726)])],
d7 79 366 1118 425 2 3 N 596 1091 680 2 [362,347],
d7 80 380 1126 435 2 3 N 596 1091 687 2 [563,188],
d5 81 367 1134 439 1 3 N 596 1091 694,
d5 82 522 1140 445 2 3 N 596 1091 699,
d5 83 427 1146 463 1 3 N 596 1091 704,
d7 84 220 1152 479 1 3 N 596 1091 709 2 [585,225],
d5 85 223 1160 484 1 3 N 596 1091 716,
d7 86 186 1166 489 1 3 N 596 1091 721 2 [585,294]]
noncomputable def T20 (P:Params):BT:=upd (T19 P) 680 (U20 P)
noncomputable def U21 (P:Params):List Up:=fl [[.u 3 (M1 [(e P 65 1258 (R 784))] 92),.u 12 (J5 [(J 495),(J 0),(R 733)]),.n oE,.n (oF y4 [b0,y3]),.n ⟨y5,none,(.dict ⟨[(de P z1 1183 (s 597 1174)),(de P z6 1185 (s 65 1184)),(de P z2 1187 (I 495 1186)),(e P 99 1196 (R 741)),(e P 259 1205 (R 748)),(e P 463 1213 (R 755)),(e P 464 1223 (R 762)),(e P 473 1232 (R 769)),(e P 339 1240 (R 776)),(e P 492 1246 (R 781)),(de P z3 1251 (R 782))]⟩ 11),⟨[]⟩⟩,.n oE,.n (oF N [(J 497),(J 4),(R 740),(J 503),(J 4),(R 747),(J 513),(J 4),(R 754),(J 520),(J 4),(R 761),(J 531),(J 4),(R 768),(J 543),(J 4),(R 775),(J 546),(J 4),(R 780)]),.n (oF y1 [(s 65 1178),(s 65 1179),(q 1180),(J 495),(J 0),(J 0),(J 0),(J 0),(R 731),(.bool false),(J 181),(R 732),N,N,N,N,(J 1181),(J 495),(q 1182)]),.n ⟨y8,none,.plain,⟨[(some (R 733)),(some (R 3)),(some (R 730)),none,(some (s 597 1174)),none,(some (R 0))]⟩⟩,.n oE,.n oN,.n (oA [(s 520 1191),(s 292 1192),(s 555 1193)]),.n oE,.n (oU N (fd (sM 88 0) z23 0 N N N N none N N 0)),.n (oF y1 [(s 99 1188),(.str z23 1189),(q 1190),(J 497),(J 3),(J 0),(J 0),(J 3),(R 735),B,(J 181),(R 736),N,(R 737),(R 738),(R 739),(J 1194),(J 497),(q 1195)]),.n (oU y2 (fd (sM 88 0) z23 3 N N N (s 597 1174) none (R 740) N 0)),.n oE,.n oN,.n (oA [(s 520 1200),(s 424 1201),(s 467 1202)]),.n oE,.n (oU N (fd (sM 88 1) z24 0 N N N N none N N 0)),.n (oF y1 [(s 259 1197),(.str z24 1198),(q 1199),(J 503),(J 1),(J 0),(J 0),(J 3),(R 742),B,(J 181),(R 743),N,(R 744),(R 745),(R 746),(J 1203),(J 503),(q 1204)]),.n (oU y2 (fd (sM 88 1) z24 3 N N N (s 597 1174) none (R 747) N 0)),.n oE,.n oN,.n (oA [(s 520 1209),(s 424 1210)]),.n oE,.n (oU N (fd (sM 88 2) z25 0 N N N N none N N 0)),.n (oF y1 [(s 463 1206),(.str z25 1207),(q 1208),(J 513),(J 1),(J 0),(J 0),(J 3),(R 749),B,(J 181),(R 750),N,(R 751),(R 752),(R 753),(J 1211),(J 513),(q 1212)]),.n (oU y2 (fd (sM 88 2) z25 3 N N N (s 597 1174) none (R 754) N 0)),.n oE,.n oN,.n (oA [(s 520 1217),(s 424 1218),(s 467 1219),(s 554 1220)]),.n oE,.n (oU N (fd (sM 88 3) z26 0 N N N N none N N 0)),.n (oF y1 [(s 464 1214),(.str z26 1215),(q 1216),(J 520),(J 2),(J 0),(J 0),(J 3),(R 756),B,(J 181),(R 757),N,(R 758),(R 759),(R 760),(J 1221),(J 520),(q 1222)]),.n (oU y2 (fd (sM 88 3) z26 3 N N N (s 597 1174) none (R 761) N 0)),.n oE,.n oN,.n (oA [(s 520 1227),(s 467 1228),(s 424 1229)]),.n oE,.n (oU N (fd (sM 88 4) z27 0 N N N N none N N 0)),.n (oF y1 [(s 473 1224),(.str z27 1225),(q 1226),(J 531),(J 1),(J 0),(J 0),(J 3),(R 763),B,(J 181),(R 764),N,(R 765),(R 766),(R 767),(J 1230),(J 531),(q 1231)]),.n (oU y2 (fd (sM 88 4) z27 3 N N N (s 597 1174) none (R 768) N 0)),.n oE,.n oN,.n (oA [(s 520 1236),(s 467 1237)]),.n oE,.n (oU N (fd (sM 88 5) z28 0 N N N N none N N 0)),.n (oF y1 [(s 339 1233),(.str z28 1234),(q 1235),(J 543),(J 2),(J 0),(J 0),(J 3),(R 770),B,(J 181),(R 771),N,(R 772),(R 773),(R 774),(J 1238),(J 543),(q 1239)]),.n (oU y2 (fd (sM 88 5) z28 3 N N N (s 597 1174) none (R 775) N 0)),.n oE,.n oN,.n (oU N (fd (sM 88 6) z29 0 N N N N none N N 0)),.n (oF y1 [(s 492 1241),(.str z29 1242),(q 1243),(J 546),(J 1),(J 0),(J 0),(J 3),(R 777),B,(J 181),(R 778),N,N,N,(R 779),(J 1244),(J 546),(q 1245)]),.n (oU y2 (fd (sM 88 6) z29 3 N N N (s 597 1174) none (R 780) N 0)),.n (oA [(s 292 1247),(s 468 1248),(s 555 1249),(s 584 1250)]),.n ⟨y5,none,(.dict ⟨[(de P z1 1183 (s 597 1174)),(de P z2 1187 (I 495 1186)),(e P 99 1196 (R 741)),(e P 259 1205 (R 748)),(e P 463 1213 (R 755)),(e P 464 1223 (R 762)),(e P 473 1232 (R 769)),(e P 339 1240 (R 776)),(e P 492 1246 (R 781)),(de P z3 1251 (R 782)),(de P z5 1253 (R 785)),(de P z4 1255 (R 786)),(de P z7 1256 N)]⟩ 4),⟨[]⟩⟩,.n ⟨y3,none,(.cls ⟨(t 65),[y6],[(R 784),y6],783,(t 65),true,[],[],false,none,false⟩),⟨[none,none,(some (s 65 1176)),(some (s 65 1184)),(some b3),(some B)]⟩⟩,.n (oF y7 [(.str z5 1252),(R 784),b4,b5]),.n (oF y7 [(.str z4 1254),(R 784),b2,N]),.n (oF y10 [(R 784),(R 784),(R 784)]),.n (oF y4 [b1,(R 784)])]]
noncomputable def T21 (P:Params):BT:=upd (T20 P) 728 (U21 P)
noncomputable def U22 (P:Params):List Up:=fl [[.u 3 (W1 [(0,(s 598 1338))] [(e P 239 1265 (R 795)),(e P 133 1277 (R 802)),(e P 471 1285 (R 809)),(e P 582 1291 (R 814)),(e P 406 1297 (R 820)),(e P 556 1303 (R 826)),(e P 335 1312 (R 833)),(e P 337 1313 (R 833)),(e P 466 1319 (R 838)),(e P 181 1326 (R 845)),(e P 248 1337 (R 852)),(e P 619 1347 (R 859)),(e P 487 1356 (R 866))] 105),.u 12 (J5 [(J 548),(J 0),(R 794),(J 550),(J 0),(R 801),(J 556),(J 0),(R 808),(J 571),(J 0),(R 813),(J 577),(J 0),(R 819),(J 586),(J 0),(R 825),(J 598),(J 0),(R 832),(J 601),(J 0),(R 837),(J 612),(J 0),(R 844),(J 614),(J 0),(R 851),(J 622),(J 0),(R 858),(J 626),(J 0),(R 865)])],
d7 89 239 1259 548 1 3 N 597 1174 789 1 [424],
d7 90 133 1266 550 3 3 N 597 1174 796 6 [123,467,526,554,586,574],
d7 91 471 1278 556 1 3 N 597 1174 803 2 [586,347],
d5 92 582 1286 571 3 3 N 597 1174 810,
[.n (oA [N])],
d5 93 406 1292 577 3 3 (R 815) 597 1174 816,
[.n (oA [N])],
d5 94 556 1298 586 3 3 (R 821) 597 1174 822,
d7 96 335 1306 598 1 3 N 610 1304 827 1 [585],
d5 98 466 1314 601 2 3 N 610 1304 834,
d7 99 181 1320 612 1 3 N 610 1304 839 1 [422],
d7 100 248 1327 614 2 3 N 610 1304 846 5 [207,246,294,467,98],
d7 102 619 1340 622 2 3 N 598 1338 853 2 [585,424],
d7 103 487 1348 626 2 3 N 598 1338 860 3 [267,123,467]]
noncomputable def T22 (P:Params):BT:=upd (T21 P) 789 (U22 P)
theorem g22:Gg 1033 T19 680 1118 79 25 ⟨421,0,424,32⟩ T22 867 1357 ⟨626,0,630,73⟩:=λw=>by kernel_rfl
noncomputable def U23 (P:Params):List Up:=fl [[.u 3 (W1 [(0,(s 599 1411))] [(e P 301 1365 (R 873)),(e P 350 1371 (R 878)),(e P 587 1378 (R 885)),(e P 169 1392 (R 892)),(e P 583 1401 (R 899)),(e P 224 1410 (R 906)),(e P 60 1414 (I 2147483647 1413)),(e P 363 1422 (R 913)),(e P 197 1432 (R 920)),(e P 437 1440 (R 927)),(e P 136 1447 (R 934)),(e P 238 1456 (R 941)),(e P 562 1466 (R 948))] 118),.u 12 (J5 [(J 631),(J 0),(R 872),(J 640),(J 0),(R 877),(J 655),(J 0),(R 884),(J 659),(J 0),(R 891),(J 667),(J 0),(R 898),(J 674),(J 0),(R 905),(J 681),(J 0),(R 912),(J 686),(J 0),(R 919),(J 692),(J 0),(R 926),(J 695),(J 0),(R 933),(J 701),(J 0),(R 940),(J 709),(J 0),(R 947)])],
d7 104 301 1357 631 3 3 N 598 1338 867 3 [326,267,252],
d5 105 350 1366 640 1 3 N 598 1338 874,
d7 106 587 1372 655 1 3 N 598 1338 879 1 [585],
d7 107 169 1379 659 5 3 N 598 1338 886 8 [326,267,588,492,252,294,586,310],
d7 108 583 1393 667 2 3 N 598 1338 893 3 [585,620,426],
d7 109 224 1402 674 1 3 N 598 1338 900 3 [502,465,501],
d7 112 363 1415 681 1 3 N 599 1411 907 2 [362,364],
d7 113 197 1423 686 1 3 N 599 1411 914 4 [364,426,419,362],
d7 114 437 1433 692 2 3 N 599 1411 921 2 [438,413],
d7 115 136 1441 695 1 3 N 599 1411 928 1 [507],
d7 116 238 1448 701 2 3 N 599 1411 935 3 [635,438,294],
d7 117 562 1457 709 2 3 N 599 1411 942 4 [507,438,445,294]]
noncomputable def T23 (P:Params):BT:=upd (T22 P) 867 (U23 P)
noncomputable def U24 (P:Params):List Up:=fl [[.u 3 (W1 [(0,(s 609 1565))] [(e P 570 1474 (R 955)),(e P 569 1483 (R 962)),(e P 568 1492 (R 969)),(e P 571 1500 (R 976)),(e P 348 1510 (R 983)),(e P 331 1517 (R 990)),(e P 385 1527 (R 997)),(e P 488 1535 (R 1004)),(e P 137 1541 (R 1009)),(e P 629 1549 (R 1016)),(e P 135 1555 (R 1021)),(e P 204 1564 (R 1028)),(e P 282 1575 (R 1035))] 131),.u 12 (J5 [(J 715),(J 0),(R 954),(J 725),(J 0),(R 961),(J 733),(J 0),(R 968),(J 739),(J 0),(R 975),(J 747),(J 0),(R 982),(J 761),(J 0),(R 989),(J 763),(J 0),(R 996),(J 769),(J 0),(R 1003),(J 771),(J 0),(R 1008),(J 785),(J 0),(R 1015),(J 789),(J 0),(R 1020),(J 796),(J 0),(R 1027),(J 811),(J 0),(R 1034)])],
d7 118 570 1467 715 2 3 N 599 1411 949 2 [362,347],
d7 119 569 1475 725 3 3 N 599 1411 956 3 [362,347,438],
d7 120 568 1484 733 3 3 N 599 1411 963 3 [362,347,438],
d7 121 571 1493 739 2 3 N 599 1411 970 2 [362,347],
d7 122 348 1501 747 4 3 N 599 1411 977 4 [362,347,567,438],
d7 123 331 1511 761 1 3 N 599 1411 984 1 [362],
d7 124 385 1518 763 4 3 N 599 1411 991 4 [362,347,567,438],
d7 125 488 1528 769 2 3 N 599 1411 998 2 [585,362],
d5 126 137 1536 771 2 3 N 599 1411 1005,
d7 127 629 1542 785 2 3 N 599 1411 1010 2 [585,426],
d5 128 135 1550 789 3 3 N 599 1411 1017,
d7 129 204 1556 796 1 3 N 599 1411 1022 3 [585,207,294],
d7 131 282 1567 811 2 3 N 609 1565 1029 3 [585,211,347]]
noncomputable def T24 (P:Params):BT:=upd (T23 P) 949 (U24 P)
noncomputable def U25 (P:Params):List Up:=fl [[.u 3 (W1 [(0,(s 602 1680)),(98,(R 1109))] [(e P 341 1585 (R 1042)),(e P 201 1594 (R 1049)),(e P 182 1601 (R 1056)),(e P 203 1617 (R 1063)),(e P 202 1630 (R 1070)),(e P 410 1644 (R 1077)),(e P 411 1650 (R 1082)),(e P 247 1656 (R 1087)),(e P 361 1668 (R 1094)),(e P 448 1679 (R 1102)),(e P 336 1689 (R 1109))] 142),.u 12 (J5 [(J 821),(J 0),(R 1041),(J 823),(J 0),(R 1048),(J 831),(J 0),(R 1055),(J 834),(J 0),(R 1062),(J 847),(J 0),(R 1069),(J 853),(J 0),(R 1076),(J 865),(J 0),(R 1081),(J 877),(J 0),(R 1086),(J 881),(J 0),(R 1093),(J 892),(J 0),(R 1101),(J 902),(J 0),(R 1108)])],
d7 133 341 1578 821 2 3 N 612 1576 1036 2 [362,347],
d7 134 201 1586 823 3 3 N 612 1576 1043 3 [362,112,145],
d7 135 182 1595 831 1 3 N 612 1576 1050 1 [585],
d7 136 203 1602 834 5 3 N 612 1576 1057 10 [585,315,352,210,423,376,497,377,498,494],
d7 137 202 1618 847 5 3 N 612 1576 1064 7 [615,315,352,210,423,440,494],
d7 138 410 1631 853 5 3 N 612 1576 1071 8 [376,497,615,210,423,412,315,352],
d5 139 411 1645 865 4 3 N 612 1576 1078,
d5 140 247 1651 877 2 3 N 612 1576 1083,
d7 141 361 1657 881 2 3 N 612 1576 1088 6 [615,423,468,467,359,585],
[.n (oA [(.bool false),B])],
d7 142 448 1669 892 3 3 (R 1095) 612 1576 1096 5 [615,210,423,585,284],
d7 144 335 1682 902 1 3 N 602 1680 1103 1 [585]]
noncomputable def T25 (P:Params):BT:=upd (T24 P) 1036 (U25 P)
theorem g25:Gg 1163 T22 867 1357 104 42 ⟨626,0,630,73⟩ T25 1110 1690 ⟨904,0,904,17⟩:=λw=>by kernel_rfl
noncomputable def U26 (P:Params):List Up:=fl [[.u 3 (M1 [(e P 343 1696 (R 1116)),(e P 381 1702 (R 1121)),(e P 190 1708 (R 1126)),(e P 271 1714 (R 1131)),(e P 270 1721 (R 1138)),(e P 628 1730 (R 1145)),(e P 229 1739 (R 1152)),(e P 540 1745 (R 1157)),(e P 191 1751 (R 1162)),(e P 349 1758 (R 1169)),(e P 365 1764 (R 1174)),(e P 179 1773 (R 1181)),(e P 401 1779 (R 1186)),(e P 241 1785 (R 1191))] 156),.u 12 (J5 [(J 905),(J 0),(R 1115),(J 907),(J 0),(R 1120),(J 912),(J 0),(R 1125),(J 915),(J 0),(R 1130),(J 918),(J 0),(R 1137),(J 922),(J 0),(R 1144),(J 928),(J 0),(R 1151),(J 934),(J 0),(R 1156),(J 939),(J 0),(R 1161),(J 945),(J 0),(R 1168),(J 951),(J 0),(R 1173),(J 961),(J 0),(R 1180),(J 967),(J 0),(R 1185),(J 985),(J 0),(R 1190)])],
d7 146 343 1690 905 1 3 N 602 1680 1110 1 [585],
d5 147 381 1697 907 1 3 N 602 1680 1117,
d5 148 190 1703 912 1 3 N 602 1680 1122,
d5 149 271 1709 915 1 3 N 602 1680 1127,
d7 150 270 1715 918 1 3 N 602 1680 1132 1 [449],
d7 151 628 1722 922 3 3 N 602 1680 1139 3 [585,563,449],
d7 152 229 1731 928 1 3 N 602 1680 1146 3 [563,294,447],
d5 153 540 1740 934 1 3 N 602 1680 1153,
d5 154 191 1746 939 2 3 N 602 1680 1158,
d7 155 349 1752 945 1 3 N 602 1680 1163 1 [585],
d5 156 365 1759 951 2 3 N 602 1680 1170,
d7 157 179 1765 961 1 3 N 602 1680 1175 3 [382,519,315],
d5 158 401 1774 967 5 3 N 602 1680 1182,
d5 159 241 1780 985 1 3 N 602 1680 1187]
noncomputable def T26 (P:Params):BT:=upd (T25 P) 1110 (U26 P)
noncomputable def U27 (P:Params):List Up:=fl [[.u 3 (W1 [(0,(s 594 1863))] [(e P 194 1791 (R 1196)),(e P 355 1801 (R 1203)),(e P 117 1809 (R 1210)),(e P 357 1815 (R 1215)),(e P 195 1830 (R 1222)),(e P 134 1836 (R 1227)),(e P 198 1845 (R 1234)),(e P 118 1853 (R 1241)),(e P 534 1862 (R 1248)),(e P 147 1876 (R 1255)),(e P 152 1892 (R 1262)),(e P 180 1902 (R 1269))] 168),.u 12 (J5 [(J 999),(J 0),(R 1195),(J 1012),(J 0),(R 1202),(J 1018),(J 0),(R 1209),(J 1023),(J 0),(R 1214),(J 1028),(J 0),(R 1221),(J 1044),(J 0),(R 1226),(J 1060),(J 0),(R 1233),(J 1069),(J 0),(R 1240),(J 1074),(J 0),(R 1247),(J 1082),(J 0),(R 1254),(J 1087),(J 0),(R 1261),(J 1096),(J 0),(R 1268)])],
d5 160 194 1786 999 1 3 N 602 1680 1192,
d7 162 355 1794 1012 2 3 N 611 1792 1197 2 [452,323],
d7 163 117 1802 1018 1 3 N 611 1792 1204 2 [588,586],
d5 164 357 1810 1023 1 3 N 611 1792 1211,
d7 165 195 1816 1028 2 3 N 611 1792 1216 9 [588,426,494,294,538,467,456,323,141],
d5 166 134 1831 1044 2 3 N 611 1792 1223,
d7 167 198 1837 1060 1 3 N 611 1792 1228 3 [588,524,586],
d7 168 118 1846 1069 1 3 N 611 1792 1235 2 [588,586],
d7 169 534 1854 1074 2 3 N 611 1792 1242 3 [588,426,207],
d7 171 147 1865 1082 3 3 N 594 1863 1249 6 [326,123,252,585,267,492],
d7 172 152 1877 1087 3 3 N 594 1863 1256 10 [326,123,252,585,267,492,535,425,294,426],
d7 173 180 1893 1096 3 3 N 594 1863 1263 4 [586,287,467,278]]
noncomputable def T27 (P:Params):BT:=upd (T26 P) 1192 (U27 P)
noncomputable def U28 (P:Params):List Up:=fl [[.u 3 (W1 [(0,(s 595 2028))] [(e P 153 1908 (R 1274)),(e P 143 1917 (R 1281)),(e P 288 1932 (R 1288)),(e P 617 1938 (R 1293)),(e P 573 1946 (R 1300)),(e P 148 1952 (R 1305)),(e P 485 1967 (R 1312)),(e P 151 1986 (R 1319)),(e P 295 2003 (R 1326)),(e P 150 2015 (R 1333)),(e P 146 2027 (R 1340)),(e P 57 2033 (.int big 2032))] 180),.u 12 (J5 [(J 1104),(J 0),(R 1273),(J 1129),(J 0),(R 1280),(J 1136),(J 0),(R 1287),(J 1147),(J 0),(R 1292),(J 1164),(J 0),(R 1299),(J 1168),(J 0),(R 1304),(J 1184),(J 0),(R 1311),(J 1192),(J 0),(R 1318),(J 1210),(J 0),(R 1325),(J 1224),(J 0),(R 1332),(J 1229),(J 0),(R 1339)])],
d5 174 153 1903 1104 3 3 N 594 1863 1270,
d7 175 143 1909 1129 2 3 N 594 1863 1275 3 [585,287,266],
d7 176 288 1918 1136 4 3 N 594 1863 1282 9 [294,287,314,426,351,586,266,494,502],
d5 177 617 1933 1147 5 3 N 594 1863 1289,
d7 178 573 1939 1164 2 3 N 594 1863 1294 2 [502,425],
d5 179 148 1947 1168 3 3 N 594 1863 1301,
d7 180 485 1953 1184 5 3 N 594 1863 1306 9 [326,267,588,497,252,618,360,586,458],
d7 181 151 1968 1192 3 3 N 594 1863 1313 13 [326,123,252,267,585,322,497,114,535,154,588,258,360],
d7 182 295 1987 1210 3 3 N 594 1863 1320 11 [326,123,252,267,585,497,450,588,468,557,467],
d7 183 150 2004 1224 3 3 N 594 1863 1327 6 [326,123,252,588,467,450],
d7 184 146 2016 1229 3 3 N 594 1863 1334 6 [326,123,252,588,467,450]]
noncomputable def T28 (P:Params):BT:=upd (T27 P) 1270 (U28 P)
theorem g28:Gg 1165 T25 1110 1690 146 41 ⟨904,0,904,17⟩ T28 1341 2034 ⟨1235,0,1235,11⟩:=λw=>by kernel_rfl
noncomputable def U29 (P:Params):List Up:=fl [[.u 3 (W1 [(0,(s 593 2113))] [(e P 630 2040 (R 1347)),(e P 225 2049 (R 1354)),(e P 144 2058 (R 1361)),(e P 470 2065 (R 1368)),(e P 222 2071 (R 1373)),(e P 431 2083 (R 1380)),(e P 442 2090 (R 1387)),(e P 454 2106 (R 1394)),(e P 455 2112 (R 1399)),(e P 453 2122 (R 1406)),(e P 149 2128 (R 1411)),(e P 634 2137 (R 1418))] 192),.u 12 (J5 [(J 1236),(J 0),(R 1346),(J 1241),(J 0),(R 1353),(J 1245),(J 0),(R 1360),(J 1252),(J 0),(R 1367),(J 1256),(J 0),(R 1372),(J 1263),(J 0),(R 1379),(J 1270),(J 0),(R 1386),(J 1275),(J 0),(R 1393),(J 1285),(J 0),(R 1398),(J 1291),(J 0),(R 1405),(J 1294),(J 0),(R 1410),(J 1314),(J 0),(R 1417)])],
d7 187 630 2034 1236 1 3 N 595 2028 1341 1 [635],
d7 189 225 2043 1241 1 3 N 605 2041 1348 1 [585],
d7 190 144 2050 1245 2 3 N 605 2041 1355 3 [585,142,426],
d7 191 470 2059 1252 1 3 N 605 2041 1362 1 [585],
d5 192 222 2066 1256 1 3 N 605 2041 1369,
d7 193 431 2072 1263 4 3 N 605 2041 1374 6 [362,351,266,426,399,221],
d7 194 442 2084 1270 1 3 N 605 2041 1381 1 [585],
d7 196 454 2093 1275 2 3 N 604 2091 1388 8 [577,585,112,145,351,637,635,266],
d5 197 455 2107 1285 1 3 N 604 2091 1395,
d7 199 453 2115 1291 1 3 N 593 2113 1400 2 [585,225],
d5 200 149 2123 1294 3 3 N 593 2113 1407,
d7 201 634 2129 1314 3 3 N 593 2113 1412 3 [326,347,424]]
noncomputable def T29 (P:Params):BT:=upd (T28 P) 1341 (U29 P)
noncomputable def U30 (P:Params):List Up:=fl [[.u 3 (W1 [(0,(s 603 2178))] [(e P 509 2143 (R 1423)),(e P 184 2158 (R 1430)),(e P 393 2168 (R 1437)),(e P 392 2177 (R 1444)),(e P 231 2188 (R 1451)),(e P 163 2195 (R 1458)),(e P 233 2204 (R 1465)),(e P 212 2213 (R 1472)),(e P 160 2219 (R 1478)),(e P 234 2227 (R 1485)),(e P 332 2235 (R 1492)),(e P 235 2246 (R 1499))] 204),.u 12 (J5 [(J 1319),(J 0),(R 1422),(J 1341),(J 0),(R 1429),(J 1353),(J 0),(R 1436),(J 1355),(J 0),(R 1443),(J 1363),(J 0),(R 1450),(J 1368),(J 0),(R 1457),(J 1372),(J 0),(R 1464),(J 1377),(J 0),(R 1471),(J 1383),(J 0),(R 1477),(J 1396),(J 0),(R 1484),(J 1401),(J 0),(R 1491),(J 1408),(J 0),(R 1498)])],
d5 202 509 2138 1319 3 3 N 593 2113 1419,
d7 203 184 2144 1341 3 3 N 593 2113 1424 9 [284,542,362,369,351,620,585,541,467],
d7 205 393 2161 1353 2 3 N 608 2159 1431 2 [252,424],
d7 206 392 2169 1355 2 3 N 608 2159 1438 3 [252,424,294],
d7 208 231 2180 1363 2 3 N 603 2178 1445 3 [263,586,476],
d7 209 163 2189 1368 1 3 N 603 2178 1452 1 [586],
d7 210 233 2196 1372 1 3 N 603 2178 1459 3 [122,554,586],
d7 211 212 2205 1377 2 3 N 603 2178 1466 3 [211,252,476],
[.n (oA [N])],
d5 212 160 2214 1383 4 3 (R 1473) 603 2178 1474,
d7 213 234 2220 1396 1 3 N 603 2178 1479 2 [252,294],
d7 214 332 2228 1401 1 3 N 603 2178 1486 2 [424,177],
d7 215 235 2236 1408 2 3 N 603 2178 1493 5 [252,424,232,467,632]]
noncomputable def T30 (P:Params):BT:=upd (T29 P) 1419 (U30 P)
noncomputable def U31 (P:Params):List Up:=fl [[.u 3 (W1 [(0,(s 601 2265))] [(e P 333 2256 (R 1506)),(e P 334 2264 (R 1513)),(e P 51 2305 (R 1530))] 207),.u 12 (J5 [(J 1417),(J 0),(R 1505),(J 1429),(J 0),(R 1512),(J 1432),(J 0),(R 1519)])],
d7 216 333 2247 1417 2 3 N 603 2178 1500 4 [424,252,519,162],
d7 217 334 2257 1429 2 3 N 603 2178 1507 2 [243,252],
[.n oE,.n (oF y4 [b0,y3]),.n ⟨y5,none,(.dict ⟨[(de P z1 2274 (s 601 2265)),(de P z6 2276 (s 51 2275)),(de P z2 2278 (I 1432 2277)),(e P 99 2290 (R 1527)),(de P z3 2298 (R 1528))]⟩ 5),⟨[]⟩⟩,.n oE,.n (oF N [(J 1434),(J 4),(R 1526)]),.n (oF y1 [(s 51 2269),(s 51 2270),(q 2271),(J 1432),(J 0),(J 0),(J 0),(J 0),(R 1517),(.bool false),(J 181),(R 1518),N,N,N,N,(J 2272),(J 1432),(q 2273)]),.n ⟨y8,none,.plain,⟨[(some (R 1519)),(some (R 3)),(some (R 1516)),none,(some (s 601 2265)),none,(some (R 0))]⟩⟩,.n oE,.n oN,.n (oA [(s 520 2282),(s 167 2283),(s 300 2284),(s 252 2285),(s 174 2286),(s 123 2287)]),.n oE,.n (oU N (fd (sM 219 0) z30 0 N N N N none N N 0)),.n (oF y1 [(s 99 2279),(.str z30 2280),(q 2281),(J 1434),(J 6),(J 0),(J 0),(J 3),(R 1521),B,(J 181),(R 1522),N,(R 1523),(R 1524),(R 1525),(J 2288),(J 1434),(q 2289)]),.n (oU y2 (fd (sM 219 0) z30 3 N N N (s 601 2265) none (R 1526) N 0)),.n (oA [(s 123 2291),(s 167 2292),(s 174 2293),(s 227 2294),(s 252 2295),(s 300 2296),(s 446 2297)]),.n ⟨y5,none,(.dict ⟨[(de P z1 2274 (s 601 2265)),(de P z2 2278 (I 1432 2277)),(e P 99 2290 (R 1527)),(de P z3 2298 (R 1528)),(de P z5 2300 (R 1531)),(de P z4 2302 (R 1532)),(de P z7 2303 N)]⟩ 4),⟨[]⟩⟩,.n ⟨y3,none,(.cls ⟨(t 51),[y6],[(R 1530),y6],1529,(t 51),true,[],[],false,none,false⟩),⟨[none,none,(some (s 51 2267)),(some (s 51 2275)),(some b3),(some B)]⟩⟩,.n (oF y7 [(.str z5 2299),(R 1530),b4,b5]),.n (oF y7 [(.str z4 2301),(R 1530),b2,N]),.n (oF y10 [(R 1530),(R 1530),(R 1530)]),.n (oF y4 [b1,(R 1530)])]]
noncomputable def T31 (P:Params):BT:=upd (T30 P) 1500 (U31 P)
theorem g31:Gg 1073 T28 1341 2034 187 33 ⟨1235,0,1235,11⟩ T31 1535 2306 ⟨1432,0,1441,28⟩:=λw=>by kernel_rfl
noncomputable def U32 (P:Params):List Up:=fl [[.u 3 (M1 [(e P 45 2644 (R 1740))] 208),.u 12 (J5 [(J 1442),(J 0),(R 1540)]),.n oE,.n (oF y4 [b0,y3]),.n ⟨y5,none,(.dict ⟨[(de P z1 2313 (s 601 2265)),(de P z6 2315 (s 45 2314)),(de P z2 2317 (I 1442 2316)),(e P 99 2328 (R 1549)),(e P 432 2337 (R 1556)),(e P 213 2349 (R 1564)),(e P 566 2356 (R 1571)),(e P 531 2365 (R 1578)),(e P 621 2376 (R 1586)),(e P 505 2383 (R 1593)),(e P 255 2393 (R 1600)),(e P 592 2404 (R 1607)),(e P 236 2414 (R 1614)),(e P 286 2422 (R 1621)),(e P 276 2433 (R 1629)),(e P 302 2444 (R 1636)),(e P 256 2453 (R 1643)),(e P 469 2465 (R 1650)),(e P 545 2474 (R 1657)),(e P 478 2487 (R 1664)),(e P 249 2504 (R 1672)),(e P 250 2516 (R 1679)),(e P 171 2529 (R 1686)),(e P 168 2545 (R 1693)),(e P 121 2564 (R 1701)),(e P 375 2576 (R 1708)),(e P 504 2587 (R 1715)),(e P 527 2596 (R 1722)),(e P 172 2607 (R 1730)),(e P 503 2617 (R 1737)),(de P z3 2637 (R 1738))]⟩ 31),⟨[]⟩⟩,.n oE,.n (oF N [(J 1444),(J 4),(R 1548),(J 1465),(J 4),(R 1555),(J 1470),(J 4),(R 1563),(J 1473),(J 4),(R 1570),(J 1478),(J 4),(R 1577),(J 1483),(J 4),(R 1585),(J 1494),(J 4),(R 1592),(J 1499),(J 4),(R 1599),(J 1512),(J 4),(R 1606),(J 1530),(J 4),(R 1613),(J 1536),(J 4),(R 1620),(J 1550),(J 4),(R 1628),(J 1563),(J 4),(R 1635),(J 1574),(J 4),(R 1642),(J 1577),(J 4),(R 1649),(J 1590),(J 4),(R 1656),(J 1596),(J 4),(R 1663),(J 1608),(J 4),(R 1671),(J 1626),(J 4),(R 1678),(J 1632),(J 4),(R 1685),(J 1644),(J 4),(R 1692),(J 1662),(J 4),(R 1700),(J 1696),(J 4),(R 1707),(J 1716),(J 4),(R 1714),(J 1727),(J 4),(R 1721),(J 1738),(J 4),(R 1729),(J 1749),(J 4),(R 1736)]),.n (oF y1 [(s 45 2308),(s 45 2309),(q 2310),(J 1442),(J 0),(J 0),(J 0),(J 0),(R 1538),(.bool false),(J 181),(R 1539),N,N,N,N,(J 2311),(J 1442),(q 2312)]),.n ⟨y8,none,.plain,⟨[(some (R 1540)),(some (R 3)),(some (R 1537)),none,(some (s 601 2265)),none,(some (R 0))]⟩⟩,.n (oA [(I 20000 2318),(I 40 2319)]),.n oE,.n oN,.n (oA [(s 520 2323),(s 383 2324),(s 420 2325)]),.n oE,.n (oU N (fd (sM 220 0) z31 0 N N N N none N N 0)),.n (oF y1 [(s 99 2320),(.str z31 2321),(q 2322),(J 1444),(J 3),(J 0),(J 0),(J 3),(R 1543),B,(J 181),(R 1544),N,(R 1545),(R 1546),(R 1547),(J 2326),(J 1444),(q 2327)]),.n (oU y2 (fd (sM 220 0) z31 3 (R 1542) N N (s 601 2265) none (R 1548) N 0)),.n oE,.n oN,.n (oA [(s 520 2332),(s 460 2333),(s 252 2334)]),.n oE,.n (oU N (fd (sM 220 1) z32 0 N N N N none N N 0)),.n (oF y1 [(s 432 2329),(.str z32 2330),(q 2331),(J 1465),(J 2),(J 0),(J 0),(J 3),(R 1550),B,(J 181),(R 1551),N,(R 1552),(R 1553),(R 1554),(J 2335),(J 1465),(q 2336)]),.n (oU y2 (fd (sM 220 1) z32 3 N N N (s 601 2265) none (R 1555) N 0)),.n (oA [(s 0 2338)]),.n oE,.n oN,.n (oA [(s 520 2342),(s 424 2343),(s 543 2344),(s 285 2345),(s 309 2346)]),.n oE,.n (oU N (fd (sM 220 2) z33 0 N N N N none N N 0)),.n (oF y1 [(s 213 2339),(.str z33 2340),(q 2341),(J 1470),(J 5),(J 0),(J 0),(J 3),(R 1558),B,(J 181),(R 1559),N,(R 1560),(R 1561),(R 1562),(J 2347),(J 1470),(q 2348)]),.n (oU y2 (fd (sM 220 2) z33 3 (R 1557) N N (s 601 2265) none (R 1563) N 0)),.n oE,.n oN,.n (oA [(s 520 2353)]),.n oE,.n (oU N (fd (sM 220 3) z34 0 N N N N none N N 0)),.n (oF y1 [(s 566 2350),(.str z34 2351),(q 2352),(J 1473),(J 1),(J 0),(J 0),(J 3),(R 1565),B,(J 181),(R 1566),N,(R 1567),(R 1568),(R 1569),(J 2354),(J 1473),(q 2355)]),.n (oU y2 (fd (sM 220 3) z34 3 N N N (s 601 2265) none (R 1570) N 0)),.n oE,.n oN,.n (oA [(s 520 2360),(s 413 2361),(s 167 2362)]),.n oE,.n (oU N (fd (sM 220 4) z35 0 N N N N none N N 0)),.n (oF y1 [(s 531 2357),(.str z35 2358),(q 2359),(J 1478),(J 3),(J 0),(J 0),(J 3),(R 1572),B,(J 181),(R 1573),N,(R 1574),(R 1575),(R 1576),(J 2363),(J 1478),(q 2364)]),.n (oU y2 (fd (sM 220 4) z35 3 N N N (s 601 2265) none (R 1577) N 0)),.n (oA [N]),.n oE,.n oN,.n (oA [(s 520 2369),(s 438 2370),(s 167 2371),(s 614 2372),(s 437 2373)]),.n oE,.n (oU N (fd (sM 220 5) z36 0 N N N N none N N 0)),.n (oF y1 [(s 621 2366),(.str z36 2367),(q 2368),(J 1483),(J 3),(J 0),(J 0),(J 3),(R 1580),B,(J 181),(R 1581),N,(R 1582),(R 1583),(R 1584),(J 2374),(J 1483),(q 2375)]),.n (oU y2 (fd (sM 220 5) z36 3 (R 1579) N N (s 601 2265) none (R 1585) N 0)),.n oE,.n oN,.n (oA [(s 520 2380)]),.n oE,.n (oU N (fd (sM 220 6) z37 0 N N N N none N N 0)),.n (oF y1 [(s 505 2377),(.str z37 2378),(q 2379),(J 1494),(J 1),(J 0),(J 0),(J 3),(R 1587),B,(J 181),(R 1588),N,(R 1589),(R 1590),(R 1591),(J 2381),(J 1494),(q 2382)]),.n (oU y2 (fd (sM 220 6) z37 3 N N N (s 601 2265) none (R 1592) N 0)),.n oE,.n oN,.n (oA [(s 520 2387),(s 243 2388),(s 252 2389),(s 362 2390)]),.n oE,.n (oU N (fd (sM 220 7) z38 0 N N N N none N N 0)),.n (oF y1 [(s 255 2384),(.str z38 2385),(q 2386),(J 1499),(J 3),(J 0),(J 0),(J 3),(R 1594),B,(J 181),(R 1595),N,(R 1596),(R 1597),(R 1598),(J 2391),(J 1499),(q 2392)]),.n (oU y2 (fd (sM 220 7) z38 3 N N N (s 601 2265) none (R 1599) N 0)),.n oE,.n oN,.n (oA [(s 520 2397),(s 424 2398),(s 252 2399),(s 294 2400),(s 413 2401)]),.n oE,.n (oU N (fd (sM 220 8) z39 0 N N N N none N N 0)),.n (oF y1 [(s 592 2394),(.str z39 2395),(q 2396),(J 1512),(J 3),(J 0),(J 0),(J 3),(R 1601),B,(J 181),(R 1602),N,(R 1603),(R 1604),(R 1605),(J 2402),(J 1512),(q 2403)]),.n (oU y2 (fd (sM 220 8) z39 3 N N N (s 601 2265) none (R 1606) N 0)),.n oE,.n oN,.n (oA [(s 520 2408),(s 424 2409),(s 252 2410),(s 486 2411)]),.n oE,.n (oU N (fd (sM 220 9) z40 0 N N N N none N N 0)),.n (oF y1 [(s 236 2405),(.str z40 2406),(q 2407),(J 1530),(J 3),(J 0),(J 0),(J 3),(R 1608),B,(J 181),(R 1609),N,(R 1610),(R 1611),(R 1612),(J 2412),(J 1530),(q 2413)]),.n (oU y2 (fd (sM 220 9) z40 3 N N N (s 601 2265) none (R 1613) N 0)),.n oE,.n oN,.n (oA [(s 520 2418),(s 476 2419)]),.n oE,.n (oU N (fd (sM 220 10) z41 0 N N N N none N N 0)),.n (oF y1 [(s 286 2415),(.str z41 2416),(q 2417),(J 1536),(J 2),(J 0),(J 0),(J 3),(R 1615),B,(J 181),(R 1616),N,(R 1617),(R 1618),(R 1619),(J 2420),(J 1536),(q 2421)]),.n (oU y2 (fd (sM 220 10) z41 3 N N N (s 601 2265) none (R 1620) N 0)),.n (oA [N]),.n oE,.n oN,.n (oA [(s 520 2426),(s 424 2427),(s 252 2428),(s 167 2429),(s 294 2430)]),.n oE,.n (oU N (fd (sM 220 11) z42 0 N N N N none N N 0)),.n (oF y1 [(s 276 2423),(.str z42 2424),(q 2425),(J 1550),(J 4),(J 0),(J 0),(J 3),(R 1623),B,(J 181),(R 1624),N,(R 1625),(R 1626),(R 1627),(J 2431),(J 1550),(q 2432)]),.n (oU y2 (fd (sM 220 11) z42 3 (R 1622) N N (s 601 2265) none (R 1628) N 0)),.n oE,.n oN,.n (oA [(s 520 2437),(s 167 2438),(s 252 2439),(s 313 2440),(s 294 2441)]),.n oE,.n (oU N (fd (sM 220 12) z43 0 N N N N none N N 0)),.n (oF y1 [(s 302 2434),(.str z43 2435),(q 2436),(J 1563),(J 3),(J 0),(J 0),(J 3),(R 1630),B,(J 181),(R 1631),N,(R 1632),(R 1633),(R 1634),(J 2442),(J 1563),(q 2443)]),.n (oU y2 (fd (sM 220 12) z43 3 N N N (s 601 2265) none (R 1635) N 0)),.n oE,.n oN,.n (oA [(s 520 2448),(s 167 2449),(s 252 2450)]),.n oE,.n (oU N (fd (sM 220 13) z44 0 N N N N none N N 0)),.n (oF y1 [(s 256 2445),(.str z44 2446),(q 2447),(J 1574),(J 3),(J 0),(J 0),(J 3),(R 1637),B,(J 181),(R 1638),N,(R 1639),(R 1640),(R 1641),(J 2451),(J 1574),(q 2452)]),.n (oU y2 (fd (sM 220 13) z44 3 N N N (s 601 2265) none (R 1642) N 0)),.n oE,.n oN,.n (oA [(s 520 2457),(s 167 2458),(s 252 2459),(s 267 2460),(s 359 2461),(s 123 2462)]),.n oE,.n (oU N (fd (sM 220 14) z45 0 N N N N none N N 0)),.n (oF y1 [(s 469 2454),(.str z45 2455),(q 2456),(J 1577),(J 3),(J 0),(J 0),(J 3),(R 1644),B,(J 181),(R 1645),N,(R 1646),(R 1647),(R 1648),(J 2463),(J 1577),(q 2464)]),.n (oU y2 (fd (sM 220 14) z45 3 N N N (s 601 2265) none (R 1649) N 0)),.n oE,.n oN,.n (oA [(s 520 2469),(s 252 2470),(s 232 2471)]),.n oE,.n (oU N (fd (sM 220 15) z46 0 N N N N none N N 0)),.n (oF y1 [(s 545 2466),(.str z46 2467),(q 2468),(J 1590),(J 2),(J 0),(J 0),(J 3),(R 1651),B,(J 181),(R 1652),N,(R 1653),(R 1654),(R 1655),(J 2472),(J 1590),(q 2473)]),.n (oU y2 (fd (sM 220 15) z46 3 N N N (s 601 2265) none (R 1656) N 0)),.n oE,.n oN,.n (oA [(s 520 2478),(s 351 2479),(s 555 2480),(s 252 2481),(s 123 2482),(s 467 2483),(s 347 2484)]),.n oE,.n (oU N (fd (sM 220 16) z47 0 N N N N none N N 0)),.n (oF y1 [(s 478 2475),(.str z47 2476),(q 2477),(J 1596),(J 4),(J 0),(J 0),(J 3),(R 1658),B,(J 181),(R 1659),N,(R 1660),(R 1661),(R 1662),(J 2485),(J 1596),(q 2486)]),.n (oU y2 (fd (sM 220 16) z47 3 N N N (s 601 2265) none (R 1663) N 0)),.n (oA [(.bool false),N]),.n oE,.n oN,.n (oA [(s 520 2491),(s 351 2492),(s 555 2493),(s 252 2494),(s 359 2495),(s 167 2496),(s 123 2497),(s 467 2498),(s 347 2499),(s 554 2500),(s 586 2501)]),.n oE,.n (oU N (fd (sM 220 17) z48 0 N N N N none N N 0)),.n (oF y1 [(s 249 2488),(.str z48 2489),(q 2490),(J 1608),(J 6),(J 0),(J 0),(J 3),(R 1666),B,(J 181),(R 1667),N,(R 1668),(R 1669),(R 1670),(J 2502),(J 1608),(q 2503)]),.n (oU y2 (fd (sM 220 17) z48 3 (R 1665) N N (s 601 2265) none (R 1671) N 0)),.n oE,.n oN,.n (oA [(s 520 2508),(s 347 2509),(s 359 2510),(s 467 2511),(s 167 2512),(s 574 2513)]),.n oE,.n (oU N (fd (sM 220 18) z49 0 N N N N none N N 0)),.n (oF y1 [(s 250 2505),(.str z49 2506),(q 2507),(J 1626),(J 5),(J 0),(J 0),(J 3),(R 1673),B,(J 181),(R 1674),N,(R 1675),(R 1676),(R 1677),(J 2514),(J 1626),(q 2515)]),.n (oU y2 (fd (sM 220 18) z49 3 N N N (s 601 2265) none (R 1678) N 0)),.n oE,.n oN,.n (oA [(s 520 2520),(s 267 2521),(s 167 2522),(s 252 2523),(s 511 2524),(s 486 2525),(s 413 2526)]),.n oE,.n (oU N (fd (sM 220 19) z50 0 N N N N none N N 0)),.n (oF y1 [(s 171 2517),(.str z50 2518),(q 2519),(J 1632),(J 4),(J 0),(J 0),(J 3),(R 1680),B,(J 181),(R 1681),N,(R 1682),(R 1683),(R 1684),(J 2527),(J 1632),(q 2528)]),.n (oU y2 (fd (sM 220 19) z50 3 N N N (s 601 2265) none (R 1685) N 0)),.n oE,.n oN,.n (oA [(s 520 2533),(s 165 2534),(s 167 2535),(s 123 2536),(s 252 2537),(s 511 2538),(s 294 2539),(s 586 2540),(s 486 2541),(s 413 2542)]),.n oE,.n (oU N (fd (sM 220 20) z51 0 N N N N none N N 0)),.n (oF y1 [(s 168 2530),(.str z51 2531),(q 2532),(J 1644),(J 5),(J 0),(J 0),(J 3),(R 1687),B,(J 181),(R 1688),N,(R 1689),(R 1690),(R 1691),(J 2543),(J 1644),(q 2544)]),.n (oU y2 (fd (sM 220 20) z51 3 N N N (s 601 2265) none (R 1692) N 0)),.n (oA [N]),.n oE,.n oN,.n (oA [(s 520 2549),(s 187 2550),(s 123 2551),(s 167 2552),(s 174 2553),(s 227 2554),(s 252 2555),(s 413 2556),(s 486 2557),(s 297 2558),(s 586 2559),(s 395 2560),(s 530 2561)]),.n oE,.n (oU N (fd (sM 220 21) z52 0 N N N N none N N 0)),.n (oF y1 [(s 121 2546),(.str z52 2547),(q 2548),(J 1662),(J 6),(J 0),(J 0),(J 3),(R 1695),B,(J 181),(R 1696),N,(R 1697),(R 1698),(R 1699),(J 2562),(J 1662),(q 2563)]),.n (oU y2 (fd (sM 220 21) z52 3 (R 1694) N N (s 601 2265) none (R 1700) N 0)),.n oE,.n oN,.n (oA [(s 520 2568),(s 297 2569),(s 586 2570),(s 614 2571),(s 395 2572),(s 530 2573)]),.n oE,.n (oU N (fd (sM 220 22) z53 0 N N N N none N N 0)),.n (oF y1 [(s 375 2565),(.str z53 2566),(q 2567),(J 1696),(J 3),(J 0),(J 0),(J 3),(R 1702),B,(J 181),(R 1703),N,(R 1704),(R 1705),(R 1706),(J 2574),(J 1696),(q 2575)]),.n (oU y2 (fd (sM 220 22) z53 3 N N N (s 601 2265) none (R 1707) N 0)),.n oE,.n oN,.n (oA [(s 520 2580),(s 297 2581),(s 272 2582),(s 277 2583),(s 274 2584)]),.n oE,.n (oU N (fd (sM 220 23) z54 0 N N N N none N N 0)),.n (oF y1 [(s 504 2577),(.str z54 2578),(q 2579),(J 1716),(J 2),(J 0),(J 0),(J 3),(R 1709),B,(J 181),(R 1710),N,(R 1711),(R 1712),(R 1713),(J 2585),(J 1716),(q 2586)]),.n (oU y2 (fd (sM 220 23) z54 3 N N N (s 601 2265) none (R 1714) N 0)),.n oE,.n oN,.n (oA [(s 520 2591),(s 526 2592)]),.n (oA [(s 214 2593)]),.n (oU N (fd (sM 220 24) z55 0 N N N N none N N 0)),.n (oF y1 [(s 527 2588),(.str z55 2589),(q 2590),(J 1727),(J 1),(J 0),(J 0),(J 3),(R 1716),B,(J 181),(R 1717),N,(R 1718),(R 1719),(R 1720),(J 2594),(J 1727),(q 2595)]),.n (oU y2 (fd (sM 220 24) z55 3 N N N (s 601 2265) none (R 1721) N 0)),.n (oA [N]),.n oE,.n oN,.n (oA [(s 520 2600),(s 267 2601),(s 123 2602),(s 252 2603),(s 167 2604)]),.n oE,.n (oU N (fd (sM 220 25) z56 0 N N N N none N N 0)),.n (oF y1 [(s 172 2597),(.str z56 2598),(q 2599),(J 1738),(J 5),(J 0),(J 0),(J 3),(R 1724),B,(J 181),(R 1725),N,(R 1726),(R 1727),(R 1728),(J 2605),(J 1738),(q 2606)]),.n (oU y2 (fd (sM 220 25) z56 3 (R 1723) N N (s 601 2265) none (R 1729) N 0)),.n oE,.n oN,.n (oA [(s 520 2611),(s 475 2612),(s 586 2613),(s 243 2614)]),.n oE,.n (oU N (fd (sM 220 26) z57 0 N N N N none N N 0)),.n (oF y1 [(s 503 2608),(.str z57 2609),(q 2610),(J 1749),(J 2),(J 0),(J 0),(J 3),(R 1731),B,(J 181),(R 1732),N,(R 1733),(R 1734),(R 1735),(J 2615),(J 1749),(q 2616)]),.n (oU y2 (fd (sM 220 26) z57 3 N N N (s 601 2265) none (R 1736) N 0)),.n (oA [(s 156 2618),(s 208 2619),(s 214 2620),(s 228 2621),(s 298 2622),(s 308 2623),(s 311 2624),(s 383 2625),(s 420 2626),(s 433 2627),(s 451 2628),(s 493 2629),(s 508 2630),(s 532 2631),(s 549 2632),(s 559 2633),(s 614 2634),(s 622 2635),(s 623 2636)]),.n ⟨y5,none,(.dict ⟨[(de P z1 2313 (s 601 2265)),(de P z2 2317 (I 1442 2316)),(e P 99 2328 (R 1549)),(e P 432 2337 (R 1556)),(e P 213 2349 (R 1564)),(e P 566 2356 (R 1571)),(e P 531 2365 (R 1578)),(e P 621 2376 (R 1586)),(e P 505 2383 (R 1593)),(e P 255 2393 (R 1600)),(e P 592 2404 (R 1607)),(e P 236 2414 (R 1614)),(e P 286 2422 (R 1621)),(e P 276 2433 (R 1629)),(e P 302 2444 (R 1636)),(e P 256 2453 (R 1643)),(e P 469 2465 (R 1650)),(e P 545 2474 (R 1657)),(e P 478 2487 (R 1664)),(e P 249 2504 (R 1672)),(e P 250 2516 (R 1679)),(e P 171 2529 (R 1686)),(e P 168 2545 (R 1693)),(e P 121 2564 (R 1701)),(e P 375 2576 (R 1708)),(e P 504 2587 (R 1715)),(e P 527 2596 (R 1722)),(e P 172 2607 (R 1730)),(e P 503 2617 (R 1737)),(de P z3 2637 (R 1738)),(de P z5 2639 (R 1741)),(de P z4 2641 (R 1742)),(de P z7 2642 N)]⟩ 4),⟨[]⟩⟩,.n ⟨y3,none,(.cls ⟨(t 45),[y6],[(R 1740),y6],1739,(t 45),true,[],[],false,none,false⟩),⟨[none,none,(some (s 45 2306)),(some (s 45 2314)),(some b3),(some B)]⟩⟩,.n (oF y7 [(.str z5 2638),(R 1740),b4,b5]),.n (oF y7 [(.str z4 2640),(R 1740),b2,N]),.n (oF y10 [(R 1740),(R 1740),(R 1740)]),.n (oF y4 [b1,(R 1740)])]]
noncomputable def T32 (P:Params):BT:=upd (T31 P) 1535 (U32 P)
theorem g32:Gg 1164 T31 1535 2306 220 1 ⟨1432,0,1441,28⟩ T32 1745 2645 ⟨1442,0,1753,20⟩:=λw=>by kernel_rfl
noncomputable def U33 (P:Params):List Up:=fl [[.u 3 (W1 [(0,(s 374 2664))] [(e P 312 2651 (R 1751)),(e P 482 2663 (R 1758)),(e P 108 2674 (R 1765)),(e P 101 2683 (R 1772)),(e P 103 2692 (R 1779)),(e P 102 2698 (R 1784)),(e P 110 2716 (R 1791)),(e P 107 2722 (R 1796)),(e P 106 2737 (R 1803)),(e P 109 2743 (R 1808)),(e P 104 2749 (R 1813)),(e P 105 2761 (R 1820))] 220),.u 12 (J5 [(J 1754),(J 0),(R 1750),(J 1756),(J 0),(R 1757),(J 1766),(J 0),(R 1764),(J 1768),(J 0),(R 1771),(J 1770),(J 0),(R 1778),(J 1772),(J 0),(R 1783),(J 1774),(J 0),(R 1790),(J 1798),(J 0),(R 1795),(J 1811),(J 0),(R 1802),(J 1826),(J 0),(R 1807),(J 1842),(J 0),(R 1812),(J 1852),(J 0),(R 1819)])],
d7 221 312 2645 1754 1 3 N 601 2265 1745 1 [267],
d7 222 482 2652 1756 2 3 N 601 2265 1752 6 [267,123,351,555,554,586],
d7 224 108 2666 1766 3 3 N 374 2664 1759 3 [517,139,383],
d7 225 101 2675 1768 3 3 N 374 2664 1766 3 [326,123,252],
d7 226 103 2684 1770 3 3 N 374 2664 1773 3 [326,123,252],
d5 227 102 2693 1772 3 3 N 374 2664 1780,
[.n oE,.n oN,.n (oA [(s 326 2702),(s 517 2703),(s 402 2704),(s 138 2705),(s 585 2706),(s 447 2707),(s 287 2708),(s 307 2709),(s 574 2710),(s 314 2711)]),.n (oA [(s 289 2712),(s 536 2713)]),.n (uN 228 110),.n (cO 110 2699 1774 2 3 1785 181 1786 N (R 1787) (R 1788) 1789 2714),.n (uT 228 110 N 374 2664 1790)],
d5 229 107 2717 1798 2 3 N 374 2664 1792,
d7 230 106 2723 1811 2 3 N 374 2664 1797 9 [326,517,267,546,418,574,434,501,479],
d5 231 109 2738 1826 2 3 N 374 2664 1804,
d5 232 104 2744 1842 2 3 N 374 2664 1809,
d7 233 105 2750 1852 1 3 N 374 2664 1814 6 [326,318,450,123,574,274]]
noncomputable def T33 (P:Params):BT:=upd (T32 P) 1745 (U33 P)
noncomputable def U34 (P:Params):List Up:=fl [[.u 3 (M1 [(e P 373 2769 (R 1827))] 221),.u 12 (J5 [(J 1864),(J 0),(R 1826)])],
d7 234 373 2762 1864 1 3 N 374 2664 1821 2 [517,326]]
noncomputable def T34 (P:Params):BT:=upd (T33 P) 1821 (U34 P)
theorem g34:Gg 412 T32 1745 2645 221 14 ⟨1442,0,1753,20⟩ T34 1828 2770 ⟨1864,0,1870,30⟩:=λw=>by kernel_rfl
end H
end
section
open PySem.W.X
namespace H
theorem seg_of {w:World}{N:Nat}{T T':BT}{n n' toks toks':Nat}{a k:Nat}{pos pos':Pos}(h:(λos=>run w N T n toks os a k pos)=λos=>some (.next,stT T' n' toks' os,c0,pos'))(os:OsState) :
  segRun treeTable Q w 11 (some (.ref 6)) 1 N (stT T n toks os).abs (piecesOf ((Q.main.body.drop a).take k) On c0 pos [topFrame ⟨0,0,0,0⟩])=some (.next,(stT T' n' toks' os).abs,c0,pos'):=by
 refine segRun_of ?_;have:=congrFun h os;unfold run at this;rw [<-PySem.W.Fast.te10110043849684766642,<-PySem.W.Fast.te14364793385576792824,<-PySem.W.Fast.te12563942051412417395] at this;exact this
theorem Q5n {w:World}{n N:Nat}{s s' r:Shared}{a k:Nat}{pos p':Pos}(h:segRun treeTable Q w 11 (some (.ref 6)) 1 n s (piecesOf ((Q.main.body.drop a).take k) On c0 pos [topFrame ⟨0,0,0,0⟩])=some (.next,s',c0,p'))
  (t:topRun treeTable Q w 11 (some (.ref 6)) N s' (restOf (Q.main.body.drop (a+k)) On c0 p' [topFrame ⟨0,0,0,0⟩])=some r):topRun treeTable Q w 11 (some (.ref 6)) (n+N) s (restOf (Q.main.body.drop a) On c0 pos [topFrame ⟨0,0,0,0⟩])=some r:=by
 have e:Q.main.body.drop a=(Q.main.body.drop a).take k++Q.main.body.drop (a+k):=by rw [<-List.drop_drop,List.take_append_drop]
 rw [e];exact piece_app h t
theorem fin0 (w:World)(os:OsState):topRun treeTable Q w 11 (some (.ref 6)) 2 (stT (T34 w.params) 1828 2770 os).abs ⟨doneF .next,c0,⟨1864,0,1870,30⟩,[topFrame ⟨0,0,0,0⟩]⟩=some (stT (T34 w.params) 1828 2770 os).abs:=by
 rw [PySem.W.Fast.te14082659384304107361,PySem.W.Fast.te14364793385576792824]
 kernel_rfl
theorem len0:Q.main.body.length=235:=by kernel_rfl
theorem Q5p:Q.main.body.drop 235=[]:=List.drop_eq_nil_of_le (Nat.le_of_eq len0)
noncomputable def Ch (M:Nat)(T:Params->BT)(n toks a:Nat)(pos:Pos):Prop:=∀ (w:World)(os:OsState),topRun treeTable Q w 11 (some (.ref 6)) M (stT (T w.params) n toks os).abs (restOf (Q.main.body.drop a) On c0 pos [topFrame ⟨0,0,0,0⟩])=some (stT (T34 w.params) 1828 2770 os).abs
theorem M2 {n N:Nat}{T T':Params->BT}{k t a c:Nat}{p p':Pos}{k' t':Nat}(h:Gg n T k t a c p T' k' t' p')(z:Ch N T' k' t' (a+c) p'):Ch (n+N) T k t a p:=λw os=>Q5n (seg_of (h w) os) (z w os)
theorem Z0h:Ch 2 T34 1828 2770 235 ⟨1864,0,1870,30⟩:=λw os=>by
 rw [Q5p];exact fin0 w os
theorem Z0i:Ch 414 T32 1745 2645 221 ⟨1442,0,1753,20⟩:=M2 (n:=412) (N:=2) g34 Z0h
theorem Z0j:Ch 1578 T31 1535 2306 220 ⟨1432,0,1441,28⟩:=M2 (n:=1164) (N:=414) g32 Z0i
theorem Z0k:Ch 2651 T28 1341 2034 187 ⟨1235,0,1235,11⟩:=M2 (n:=1073) (N:=1578) g31 Z0j
theorem Z0m:Ch 3816 T25 1110 1690 146 ⟨904,0,904,17⟩:=M2 (n:=1165) (N:=2651) g28 Z0k
theorem Z0n:Ch 4979 T22 867 1357 104 ⟨626,0,630,73⟩:=M2 (n:=1163) (N:=3816) g25 Z0m
theorem Z0p:Ch 6012 T19 680 1118 79 ⟨421,0,424,32⟩:=M2 (n:=1033) (N:=4979) g22 Z0n
theorem Z0q:Ch 7032 T16 506 911 57 ⟨337,0,346,23⟩:=M2 (n:=1020) (N:=6012) g19 Z0p
theorem Z0r:Ch 8211 T11 391 729 52 ⟨298,0,302,25⟩:=M2 (n:=1179) (N:=7032) g16 Z0q
theorem chain7:Ch 9229 T7 231 488 31 ⟨118,0,128,23⟩:=M2 (n:=1018) (N:=8211) g11 Z0r
theorem chain4:Ch 10248 T4 92 295 6 ⟨17,0,20,24⟩:=M2 (n:=1019) (N:=9229) g7 chain7
theorem chain0:Ch 11225 T0 15 187 0 ⟨0,0,0,0⟩:=M2 (n:=977) (N:=10248) g4 chain4
theorem block0 (w:World)(os:OsState):segRun treeTable Q w 11 (some (.ref 6)) 1 1 (stT (T0 w.params) 15 187 os).abs (blockOf (behindTheImports Q) On c0 ⟨0,0,0,0⟩ [topFrame ⟨0,0,0,0⟩])=some (.next,(stT (T0 w.params) 15 187 os).abs,c0,⟨0,0,0,0⟩):=by
 show segRun treeTable Q w 11 (some (.ref 6)) 1 1 (stT (T0 w.params) 15 187 os).abs ⟨(blockStart (behindTheImports Q) On).wrap (λU=>doneF .next) deadEnd id id,c0,⟨0,0,0,0⟩,[topFrame ⟨0,0,0,0⟩]⟩=_
 rw [PySem.W.Fast.te14374325043358763698,PySem.W.Fast.te14364793385576792824,PySem.W.Fast.te1066825118222455980]
 kernel_rfl
theorem Z0s:behindTheImports Q=Q.main.body.drop 0:=by kernel_rfl
theorem chainB (w:World)(os:OsState):topRun treeTable Q w 11 (some (.ref 6)) 11226 (stT (T0 w.params) 15 187 os).abs ⟨denote treeTable c0,c0,⟨0,0,0,0⟩,[topFrame ⟨0,0,0,0⟩]⟩=some (stT (T34 w.params) 1828 2770 os).abs:=by
 have:=piece_block (n:=1) (N:=11225) (block0 w os) (r:=(stT (T34 w.params) 1828 2770 os).abs) (by rw [Z0s];exact chain0 w os);rw [show 11226=1+11225 from rfl];exact this
theorem pre0 (w:World)(os:OsState):topGo treeTable Q w 11 (some (.ref 6)) 12 ⟨boot_heap w.params,⟨[]⟩,boot_drawn,boot_toks,os⟩ (topStub Q)=some ((stT (T0 w.params) 15 187 os).abs,⟨denote treeTable c0,c0,⟨0,0,0,0⟩,[topFrame ⟨0,0,0,0⟩]⟩):=by
 rw [PySem.W.Fast.te15667345088766844465,PySem.W.Fast.te14364793385576792824,PySem.W.Fast.te11892475500146522536]
 kernel_rfl
theorem Z0t (w:World)(os:OsState):topRun treeTable Q w 11 (some (.ref 6)) 11238 ⟨boot_heap w.params,⟨[]⟩,boot_drawn,boot_toks,os⟩ (topStub Q)=some (stT (T34 w.params) 1828 2770 os).abs:=by
 have:=go_top (N:=11226) (pre0 w os) (chainB w os);rw [show 11238=12+11226 from rfl];exact this
end H
end
section
open PySem.W.X
namespace H
noncomputable def G (i:Nat)(P:Params):Obj:=((T34 P).get i).getD default
noncomputable def gL (P:Params)(n k:Nat):List Obj:=@Nat.rec (λU=>Nat->List Obj) (λU=>[]) (λU ih k=>G k P :: ih (k+1)) n k
noncomputable def HL (P:Params):Heap:=⟨⟨gL P 1828 0⟩,{}⟩
theorem heapL (P:Params):absHeap (T34 P) 1828 {}=HL P:=by kernel_rfl
noncomputable def q0:Program:={ Q with main:={ Q.main with body:=[sT 234] } }
noncomputable def loose:List Str:=(Q.main.scope.names.map (·.1)).filter λn=>!(eqS n (t 373))
theorem open0:∀ w:World,(fencedOpening treeTable Q w 30000).map (λs=>(s.heap,s.gens,s.drawn,s.toks))=some (boot_heap w.params,⟨[]⟩,boot_drawn,boot_toks) :=
 boot_open (p:=Q) (by kernel_rfl) (by decide) (λs=>by kernel_rfl)
theorem size0:∀ w:World,((boot_heap w.params).isNs mainGlobals&&(⟨[]⟩:Array GenState).size==0,(boot_heap w.params).objs.size,(boot_heap w.params).nsMap mainGlobals "__annotations__")=(true,11,some (.ref 6)):=λw=>by kernel_rfl
end H
end
section
open PySem.W.X
namespace H
theorem lk1 (w:World):staticsOk (importedModules Q.main.body) (boot_heap w.params) (HL w.params)=true:=by kernel_rfl
theorem lk2 (w:World):namesBound Q (HL w.params)=true:=by kernel_rfl
theorem lk4 (w:World):laidKept (boot_heap w.params) (HL w.params)=true:=by kernel_rfl
end H
end
section
open PySem.W.X
namespace H
noncomputable def sF (w:World)(os:OsState):Shared:=⟨HL w.params,⟨[]⟩,{},2770,os⟩
theorem lk0 (w:World)(os:OsState):(recOk ([]:WRecords) (sF w os))=true:=by kernel_rfl
theorem lkS (w:World)(os:OsState):openSeen q0 loose (importedModules Q.main.body) (λs=>recOk ([]:WRecords) s) true (sF w os)=openGood q0 loose:=by
 rw [PySem.W.Fast.te4187177175401517315]
 kernel_rfl
end H
end
section
open PySem.W.X
inductive PT where | l | n (v:Nat)(a b:PT)
noncomputable def PT.get (t:PT)(p:P):Nat:=match t with
 | .l=>0
 | .n v a b=>(match p with | .h=>v | .o q=>a.get q | .i q=>b.get q)
noncomputable def faT:PT:=(.n 51 (.n 48 (.n 0 (.n 146 (.n 0 (.n 0 (.n 665 .l .l) (.n 885 (.n 1300 .l .l) (.n 1765 .l .l))) (.n 554 (.n 776 (.n 1196 .l .l) .l) (.n 997 (.n 1406 .l .l) .l))) (.n 0 (.n 405 (.n 715 (.n 1152 .l .l) .l) (.n 0 (.n 1354 .l .l) (.n 1808 .l .l))) (.n 609 (.n 833 (.n 1248 .l .l) .l) .l))) (.n 0 (.n 0 (.n 0 (.n 693 (.n 1126 .l .l) .l) (.n 913 (.n 1326 .l .l) (.n 1791 .l .l))) (.n 582 (.n 809 (.n 1222 .l .l) .l) (.n 1021 (.n 1430 .l .l) .l))) (.n 0 (.n 476 (.n 748 (.n 1174 .l .l) .l) (.n 969 (.n 1380 .l .l) .l)) (.n 637 (.n 859 (.n 1274 .l .l) (.n 1730 .l .l)) .l)))) (.n 0 (.n 160 (.n 0 (.n 0 (.n 0 (.n 1116 .l .l) (.n 1549 .l .l)) (.n 899 (.n 1312 .l .l) (.n 1779 .l .l))) (.n 0 (.n 0 (.n 1210 .l .l) (.n 1664 .l .l)) (.n 1009 (.n 1418 .l .l) .l))) (.n 0 (.n 433 (.n 727 (.n 1162 .l .l) .l) (.n 955 (.n 1368 .l .l) (.n 1820 .l .l))) (.n 623 (.n 0 (.n 1262 .l .l) .l) .l))) (.n 0 (.n 0 (.n 362 (.n 0 (.n 1138 .l .l) .l) (.n 0 (.n 1340 .l .l) (.n 1796 .l .l))) (.n 596 (.n 820 (.n 1234 .l .l) (.n 1693 .l .l)) (.n 1035 .l .l))) (.n 0 (.n 0 (.n 762 (.n 1186 .l .l) .l) (.n 983 (.n 1394 .l .l) .l)) (.n 651 (.n 873 (.n 1288 .l .l) .l) .l))))) (.n 0 (.n 0 (.n 153 (.n 0 (.n 0 (.n 0 (.n 1109 .l .l) .l) (.n 892 (.n 1305 .l .l) (.n 1772 .l .l))) (.n 561 (.n 781 (.n 1203 .l .l) .l) (.n 0 (.n 1411 .l .l) .l))) (.n 0 (.n 0 (.n 720 (.n 1157 .l .l) .l) (.n 948 (.n 1361 .l .l) (.n 1813 .l .l))) (.n 0 (.n 838 (.n 1255 .l .l) .l) .l))) (.n 181 (.n 0 (.n 0 (.n 698 (.n 1131 .l .l) .l) (.n 920 (.n 1333 .l .l) .l)) (.n 589 (.n 0 (.n 1227 .l .l) .l) (.n 1028 .l .l))) (.n 0 (.n 498 (.n 755 (.n 1181 .l .l) .l) (.n 976 (.n 1387 .l .l) .l)) (.n 644 (.n 866 (.n 1281 .l .l) .l) .l)))) (.n 139 (.n 167 (.n 0 (.n 0 (.n 686 (.n 1121 .l .l) (.n 1556 .l .l)) (.n 906 (.n 1319 .l .l) (.n 1784 .l .l))) (.n 575 (.n 0 (.n 1215 .l .l) .l) (.n 1016 (.n 1423 .l .l) .l))) (.n 0 (.n 455 (.n 741 (.n 1169 .l .l) .l) (.n 962 (.n 1373 .l .l) (.n 1827 .l .l))) (.n 630 (.n 852 (.n 1269 .l .l) .l) .l))) (.n 195 (.n 0 (.n 383 (.n 708 (.n 1145 .l .l) (.n 1586 .l .l)) (.n 934 (.n 1347 .l .l) (.n 1803 .l .l))) (.n 602 (.n 826 (.n 1241 .l .l) .l) .l)) (.n 306 (.n 0 (.n 769 .l .l) (.n 990 (.n 1399 .l .l) .l)) (.n 658 (.n 878 (.n 1293 .l .l) (.n 1758 .l .l)) .l))))))
noncomputable def caL:List Nat:=[365,386,415,436,458,479,501,784,1740]
noncomputable def kas:List Nat:=[365,364,386,385,415,414,436,435,458,457,479,478,501,500,784,783,1740,1739,51,50,31,30,3,48,47,139,138,146,145,153,152,160,159,167,166,195,194,362,361,383,382,405,404,398,433,432,455,454,448,476,475,498,497,491,554,553,561,560,575,574,582,581,589,588,596,595,602,601,597,609,608,623,622,630,629,637,636,644,643,651,650,658,657,665,664,686,685,698,697,708,707,715,714,720,719,727,726,741,740,748,747,755,754,762,761,769,768,776,775,781,780,820,819,815,826,825,821,833,832,859,858,866,865,873,872,878,877,885,884,892,891,899,898,906,905,913,912,920,919,955,954,969,968,983,982,990,989,1016,1015,1021,1020,1028,1027,1035,1034,1109,1108,1116,1115,1121,1120,1126,1125,1131,1130,1138,1137,1145,1144,1152,1151,1162,1161,1169,1168,1174,1173,1181,1180,1186,1185,1196,1195,1203,1202,1210,1209,1215,1214,1222,1221,1234,1233,1248,1247,1255,1254,1262,1261,1269,1268,1274,1273,1281,1280,1288,1287,1293,1292,1300,1299,1305,1304,1319,1318,1326,1325,1333,1332,1340,1339,1347,1346,1354,1353,1361,1360,1368,1367,1373,1372,1380,1379,1387,1386,1394,1393,1399,1398,1411,1410,1418,1417,1423,1422,1430,1429,1549,1548,1542,1556,1555,1586,1585,1579,1664,1663,1693,1692,1730,1729,1723,1765,1764,1772,1771,1779,1778,1784,1783,1791,1790,1796,1795,1803,1802,1808,1807,1813,1812,1820,1819,1827,1826]
noncomputable def tcA:Nat:=1790
noncomputable def tpA:Nat:=1786
noncomputable def Kf (P:Params):Frag:=[(365,H.G 365 P),(364,H.G 364 P),(386,H.G 386 P),(385,H.G 385 P),(415,H.G 415 P),(414,H.G 414 P),(436,H.G 436 P),(435,H.G 435 P),(458,H.G 458 P),(457,H.G 457 P),(479,H.G 479 P),(478,H.G 478 P),(501,H.G 501 P),(500,H.G 500 P),(784,H.G 784 P),(783,H.G 783 P),(1740,H.G 1740 P),(1739,H.G 1739 P),(51,H.G 51 P),(50,H.G 50 P),(31,H.G 31 P),(30,H.G 30 P),(3,H.G 3 P),(48,H.G 48 P),(47,H.G 47 P),(139,H.G 139 P),(138,H.G 138 P),(146,H.G 146 P),(145,H.G 145 P),(153,H.G 153 P),(152,H.G 152 P),(160,H.G 160 P),(159,H.G 159 P),(167,H.G 167 P),(166,H.G 166 P),(195,H.G 195 P),(194,H.G 194 P),(362,H.G 362 P),(361,H.G 361 P),(383,H.G 383 P),(382,H.G 382 P),(405,H.G 405 P),(404,H.G 404 P),(398,H.G 398 P),(433,H.G 433 P),(432,H.G 432 P),(455,H.G 455 P),(454,H.G 454 P),(448,H.G 448 P),(476,H.G 476 P),(475,H.G 475 P),(498,H.G 498 P),(497,H.G 497 P),(491,H.G 491 P),(554,H.G 554 P),(553,H.G 553 P),(561,H.G 561 P),(560,H.G 560 P),(575,H.G 575 P),(574,H.G 574 P),(582,H.G 582 P),(581,H.G 581 P),(589,H.G 589 P),(588,H.G 588 P),(596,H.G 596 P),(595,H.G 595 P),(602,H.G 602 P),(601,H.G 601 P),(597,H.G 597 P),(609,H.G 609 P),(608,H.G 608 P),(623,H.G 623 P),(622,H.G 622 P),(630,H.G 630 P),(629,H.G 629 P),(637,H.G 637 P),(636,H.G 636 P),(644,H.G 644 P),(643,H.G 643 P),(651,H.G 651 P),(650,H.G 650 P),(658,H.G 658 P),(657,H.G 657 P),(665,H.G 665 P),(664,H.G 664 P),(686,H.G 686 P),(685,H.G 685 P),(698,H.G 698 P),(697,H.G 697 P),(708,H.G 708 P),(707,H.G 707 P),(715,H.G 715 P),(714,H.G 714 P),(720,H.G 720 P),(719,H.G 719 P),(727,H.G 727 P),(726,H.G 726 P),(741,H.G 741 P),(740,H.G 740 P),(748,H.G 748 P),(747,H.G 747 P),(755,H.G 755 P),(754,H.G 754 P),(762,H.G 762 P),(761,H.G 761 P),(769,H.G 769 P),(768,H.G 768 P),(776,H.G 776 P),(775,H.G 775 P),(781,H.G 781 P),(780,H.G 780 P),(820,H.G 820 P),(819,H.G 819 P),(815,H.G 815 P),(826,H.G 826 P),(825,H.G 825 P),(821,H.G 821 P),(833,H.G 833 P),(832,H.G 832 P),(859,H.G 859 P),(858,H.G 858 P),(866,H.G 866 P),(865,H.G 865 P),(873,H.G 873 P),(872,H.G 872 P),(878,H.G 878 P),(877,H.G 877 P),(885,H.G 885 P),(884,H.G 884 P),(892,H.G 892 P),(891,H.G 891 P),(899,H.G 899 P),(898,H.G 898 P),(906,H.G 906 P),(905,H.G 905 P),(913,H.G 913 P),(912,H.G 912 P),(920,H.G 920 P),(919,H.G 919 P),(955,H.G 955 P),(954,H.G 954 P),(969,H.G 969 P),(968,H.G 968 P),(983,H.G 983 P),(982,H.G 982 P),(990,H.G 990 P),(989,H.G 989 P),(1016,H.G 1016 P),(1015,H.G 1015 P),(1021,H.G 1021 P),(1020,H.G 1020 P),(1028,H.G 1028 P),(1027,H.G 1027 P),(1035,H.G 1035 P),(1034,H.G 1034 P),(1109,H.G 1109 P),(1108,H.G 1108 P),(1116,H.G 1116 P),(1115,H.G 1115 P),(1121,H.G 1121 P),(1120,H.G 1120 P),(1126,H.G 1126 P),(1125,H.G 1125 P),(1131,H.G 1131 P),(1130,H.G 1130 P),(1138,H.G 1138 P),(1137,H.G 1137 P),(1145,H.G 1145 P),(1144,H.G 1144 P),(1152,H.G 1152 P),(1151,H.G 1151 P),(1162,H.G 1162 P),(1161,H.G 1161 P),(1169,H.G 1169 P),(1168,H.G 1168 P),(1174,H.G 1174 P),(1173,H.G 1173 P),(1181,H.G 1181 P),(1180,H.G 1180 P),(1186,H.G 1186 P),(1185,H.G 1185 P),(1196,H.G 1196 P),(1195,H.G 1195 P),(1203,H.G 1203 P),(1202,H.G 1202 P),(1210,H.G 1210 P),(1209,H.G 1209 P),(1215,H.G 1215 P),(1214,H.G 1214 P),(1222,H.G 1222 P),(1221,H.G 1221 P),(1234,H.G 1234 P),(1233,H.G 1233 P),(1248,H.G 1248 P),(1247,H.G 1247 P),(1255,H.G 1255 P),(1254,H.G 1254 P),(1262,H.G 1262 P),(1261,H.G 1261 P),(1269,H.G 1269 P),(1268,H.G 1268 P),(1274,H.G 1274 P),(1273,H.G 1273 P),(1281,H.G 1281 P),(1280,H.G 1280 P),(1288,H.G 1288 P),(1287,H.G 1287 P),(1293,H.G 1293 P),(1292,H.G 1292 P),(1300,H.G 1300 P),(1299,H.G 1299 P),(1305,H.G 1305 P),(1304,H.G 1304 P),(1319,H.G 1319 P),(1318,H.G 1318 P),(1326,H.G 1326 P),(1325,H.G 1325 P),(1333,H.G 1333 P),(1332,H.G 1332 P),(1340,H.G 1340 P),(1339,H.G 1339 P),(1347,H.G 1347 P),(1346,H.G 1346 P),(1354,H.G 1354 P),(1353,H.G 1353 P),(1361,H.G 1361 P),(1360,H.G 1360 P),(1368,H.G 1368 P),(1367,H.G 1367 P),(1373,H.G 1373 P),(1372,H.G 1372 P),(1380,H.G 1380 P),(1379,H.G 1379 P),(1387,H.G 1387 P),(1386,H.G 1386 P),(1394,H.G 1394 P),(1393,H.G 1393 P),(1399,H.G 1399 P),(1398,H.G 1398 P),(1411,H.G 1411 P),(1410,H.G 1410 P),(1418,H.G 1418 P),(1417,H.G 1417 P),(1423,H.G 1423 P),(1422,H.G 1422 P),(1430,H.G 1430 P),(1429,H.G 1429 P),(1549,H.G 1549 P),(1548,H.G 1548 P),(1542,H.G 1542 P),(1556,H.G 1556 P),(1555,H.G 1555 P),(1586,H.G 1586 P),(1585,H.G 1585 P),(1579,H.G 1579 P),(1664,H.G 1664 P),(1663,H.G 1663 P),(1693,H.G 1693 P),(1692,H.G 1692 P),(1730,H.G 1730 P),(1729,H.G 1729 P),(1723,H.G 1723 P),(1765,H.G 1765 P),(1764,H.G 1764 P),(1772,H.G 1772 P),(1771,H.G 1771 P),(1779,H.G 1779 P),(1778,H.G 1778 P),(1784,H.G 1784 P),(1783,H.G 1783 P),(1791,H.G 1791 P),(1790,H.G 1790 P),(1796,H.G 1796 P),(1795,H.G 1795 P),(1803,H.G 1803 P),(1802,H.G 1802 P),(1808,H.G 1808 P),(1807,H.G 1807 P),(1813,H.G 1813 P),(1812,H.G 1812 P),(1820,H.G 1820 P),(1819,H.G 1819 P),(1827,H.G 1827 P),(1826,H.G 1826 P)]
end
noncomputable def pF:P:=.i (.i (.i .h))
noncomputable def oF:Ob:=[(pF,.inst 5 [(362,.str 165),(424,.str 277),(543,.bool false),(285,.fn (.i (.o (.o (.o (.o (.i (.i .h)))))))),(309,.str 0),(141,.none)])]
noncomputable def lJ (d:Int):Loc:=[(326,vI),(517,.fn iS),(267,.ref pF),(157,.int 0),(242,.int d)]
noncomputable def jQ (q:P):Loc × Ob:=(lJ 1,(q,jk) :: (.h,dn) :: (wid,.list [.ref q]) :: (oF++oR))
noncomputable def n2J:P:=.o (.o (.o (.o (.o (.o (.i .h))))))
noncomputable def q0J:P:=.o (.i (.o (.o (.o (.i .h)))))
noncomputable def q1J:P:=.i (.i (.i (.i (.o (.i .h)))))
noncomputable def q2J:P:=.o (.o (.o (.i (.i (.i .h)))))
noncomputable def q3J:P:=.o (.i (.o (.i (.i (.i .h)))))
noncomputable def q4J:P:=.o (.o (.i (.i (.i (.i .h)))))
noncomputable def q5J:P:=.i (.i (.i (.o (.o (.o (.o .h))))))
noncomputable def q6J:P:=.i (.o (.o (.i (.o (.o (.o .h))))))
noncomputable def jS:List (Loc × Ob):=[(lJ 0,(.h,dn) :: (wid,.list []) :: (oF++oR)),jQ q0J,jQ q1J,jQ q2J,jQ q3J,jQ q4J,jQ q5J,jQ q6J]
noncomputable def xJ (dgs:Dgs):Ex:=exN (evN gg kx (S8 gg kx J0 iS dgs 59) 60) 60
noncomputable def tg (a:Nat):Bool:=Eb Wy (jBR (xJ [(7,6,6),(6,6,a)]) (Wy.body.take 8) oA oB n2J jS) [vI,.fn iS] stA W5
noncomputable def tj (j:Loc × Ob):Bool:=jOk (xJ [(0,4,4)]) (Wy.body.drop 8) oA oB n2J j
theorem dt0:tg 0=true:=by decide +kernel
theorem dt1:tg 1=true:=by decide +kernel
theorem dt2:tg 2=true:=by decide +kernel
theorem dt3:tg 3=true:=by decide +kernel
theorem dt4:tg 4=true:=by decide +kernel
theorem dt5:tg 5=true:=by decide +kernel
theorem dj7:tj (lJ 0,(.h,dn) :: (wid,.list []) :: (oF++oR))=true:=by decide +kernel
theorem dj0:tj (jQ q0J)=true:=by decide +kernel
theorem dj1:tj (jQ q1J)=true:=by decide +kernel
theorem dj2:tj (jQ q2J)=true:=by decide +kernel
theorem dj3:tj (jQ q3J)=true:=by decide +kernel
theorem dj4:tj (jQ q4J)=true:=by decide +kernel
theorem dj5:tj (jQ q5J)=true:=by decide +kernel
theorem dj6:tj (jQ q6J)=true:=by decide +kernel
theorem jS_ok:∀ j∈jS,tj j=true:=λj hm=>by
 simp only [jS,List.mem_cons,List.not_mem_nil,or_false] at hm
 rcases hm with rfl | rfl | rfl | rfl | rfl | rfl | rfl | rfl
 ·exact dj7
 ·exact dj0
 ·exact dj1
 ·exact dj2
 ·exact dj3
 ·exact dj4
 ·exact dj5
 ·exact dj6
section
open PySem.W.X
noncomputable def faS (sA:Nat)(p:P):Nat:=match P.beq p iS with | true=>sA | false=>faT.get p
noncomputable def nid:P:=.i (.o (.i (.o (.o (.i (.i .h))))))
noncomputable def stB' (s:Stmt):List Stmt:=match s with | .FunctionDef _ _ b ..=>b | _=>[]
noncomputable def Cb:Stmt:=((stB' (H.sT 228)).drop 8).headD (.Pass ⟨0,0,0,0⟩)
noncomputable def nst:Nest:=match Cb with | .FunctionDef _ a b _ _ _ sc _ _ _=>⟨a,b,sc⟩ | _=>⟨default,[],default⟩
noncomputable def Wl (w:World)(h:Heap)(sA:Nat):Wd:=⟨H.Q,w,h,Kf w.params,t,faS sA,λc=>caL.getD c 0,9,Xd,λp=>match P.beq p nid with | true=>some nst | false=>none,tcA,tpA⟩
noncomputable def rfP:P:=.h
noncomputable def rfI:P:=.o .h
noncomputable def Pw (n:Nat)(f:Nat->Bool):Bool:=match n with | 0=>true | n+1=>Q0 (f n) (Pw n f)
theorem Gh {f:Nat->Bool}:∀ {n:Nat},Pw n f=true->∀ k,k<n->f k=true
 | n+1,h,k,hk=>by
  obtain ⟨h1,h2⟩:=Q1 (show Q0 (f n) (Pw n f)=true from h)
  by_cases e:k=n
  ·subst e;exact h1
  ·exact Gh h2 k (by lia)
noncomputable def Px {α:Type}(l:List α)(f:α->Bool):Bool:=match l with | []=>true | x :: r=>Q0 (f x) (Px r f)
theorem Gi {α:Type}{f:α->Bool}:∀ {l:List α},Px l f=true->∀ x∈l,f x=true
 | y :: r,h,x,hx=>by
  obtain ⟨h1,h2⟩:=Q1 (show Q0 (f y) (Px r f)=true from h)
  rcases List.mem_cons.mp hx with rfl | hx
  ·exact h1
  ·exact Gi h2 x hx
noncomputable def VT.all (f:Nat->V->Bool)(t:VT)(c:Nat->Nat):Bool:=match t with
 | .l=>true
 | .n v a b=>Q0 (match v with | none=>true | some u=>f (c 0) u) (Q0 (VT.all f a λj=>c (2*j+1)) (VT.all f b λj=>c (2*j+2)))
theorem half1 {i:Nat}(y:i % 2=1):2*(i / 2)+1=i:=by lia
theorem half0 {i:Nat}(y:i % 2≠1)(z:i≠0):2*(i / 2 - 1)+2=i:=by lia
set_option tactic.hygienic true in
theorem VT.all_of {f:Nat->V->Bool}:∀ {t:VT}{c:Nat->Nat}{i:Nat}{v:V},VT.all f t c=true->t.get i=some v->f (c i) v=true
 | .l,c,i,v,h,e=>by cases e
 | .n u a b,c,i,v,h,e=>by
  obtain ⟨h1,h2⟩:=Q1 (show Q0 _ _=true from h);obtain ⟨h2,h3⟩:=Q1 h2;unfold VT.get at e
  split at e
  ·rename_i z;rw [Z8.mp z];subst e;exact h1
  ·rename_i z
   split at e
   ·rename_i y
    have:=VT.all_of h2 e
    rwa [half1 (Z8.mp y)] at this
   ·rename_i y
    have:=VT.all_of h3 e
    rwa [half0 (J3 y) (J3 z)] at this
section
variable (w:World)(h:Heap)(sA:Nat)
theorem Q5q:Pw 9 (λc=>Px Xd λk=>Mk (Wl w h sA) c k)=true:=by kernel_rfl
theorem Z0u:Pw 9 (λc=>Px Xd λk=>match findIn (Kf w.params) (.ref (caL.getD c 0)) (t k) with | some none=>true | _=>false)=true:=by kernel_rfl
theorem Z0v:FT.all (λp fn=>Ls kt (Kf w.params) (faS sA) (P.beq p Z7) p fn) Pv id=true:=by kernel_rfl
theorem Z0w:FT.all (λp fn=>Q0 (P.beq p nid) (Oh kt fn nst)) ntab id=true:=by kernel_rfl
theorem Z0x:VT.all (λk v=>X5 (Wl w h sA) v (t k)) Ir id=true:=by kernel_rfl
noncomputable def Q5r (W:Wd)(c:Nat)(cl:Cl):Bool:=Q0 (makesIn W.K (W.ca c)) (Q0 (plainGet W.K (W.ca c) "") (Q0 (keepIn W.K (.ref (W.ca c)))
 (Q0 (Px cl.meths λx=>Q0 (match findIn W.K (.ref (W.ca c)) (W.tab x.1) with | some (some v)=>Dq v (W.fa x.2) | _=>false) (match typeIn W.K (.ref (W.fa x.2)) with | some v=>(match v with | .type n=>decide (n="function") | _=>false) | none=>false))
  (match cl.init with | some i=>Q0 (match findIn W.K (.ref (W.ca c)) "__init__" with | some (some v)=>Dq v (W.fa i) | _=>false) (match typeIn W.K (.ref (W.fa i)) with | some v=>(match v with | .type n=>decide (n="function") | _=>false) | none=>false) | none=>false))))
noncomputable def Q5s {α:Type}(l:List α)(k:Nat)(f:Nat->α->Bool):Bool:=match l with | []=>true | x :: r=>Q0 (f k x) (Q5s r (k+1) f)
theorem ja_cls:Q5s Q5m 0 (Q5r (Wl w h sA))=true:=by kernel_rfl
theorem ja_bi:Q0 (J9 (Wl w h sA) (t (biN .len)) (biF .len)) (Q0 (J9 (Wl w h sA) (t (biN .list)) (biF .list)) (Q0 (J9 (Wl w h sA) (t (biN .min)) (biF .min)) (Q0 (J9 (Wl w h sA) (t (biN .max)) (biF .max)) (Q0 (J9 (Wl w h sA) (t (biN .abs)) (biF .abs)) (J9 (Wl w h sA) (t (biN .sum)) (biF .sum))))))=true:=by kernel_rfl
theorem Q5t:Q0 (J9 (Wl w h sA) (t kt.rangeN) (.type "range")) (Q0 (J9 (Wl w h sA) (t kt.isinstN) (.builtin "isinstance")) (Q0 (J9 (Wl w h sA) (t kt.intN) (.type "int")) (Q0 (J9 (Wl w h sA) (t kt.setN) (.type "set")) (Q0 (J9 (Wl w h sA) (t (kt.bi .sorted)) (.builtin "sorted")) (J9 (Wl w h sA) "str" (.type "str"))))))=true:=by kernel_rfl
theorem ja_isi:Kz (Wl w h sA) 2=true:=by kernel_rfl
theorem ja_rz:X5 (Wl w h sA) (.fn rfP) (t 79)=true:=by kernel_rfl
end
noncomputable def fdA (Z:Params)(p:P):FuncData:=match (Kf Z).lookup (faT.get p) with | some ⟨_,_,.func fd,_⟩=>fd | _=>default
noncomputable def bdA (Z:Params)(p:P):List Stmt:=match (fdA Z p).body with | .stmts b=>b | _=>[]
noncomputable def nmS (s:Stmt):Str:=match s with | .FunctionDef n ..=>n | _=>default
noncomputable def psS (s:Stmt):Pos:=match s with | .FunctionDef _ _ _ _ _ _ _ _ _ p=>p | _=>⟨0,0,0,0⟩
section
variable (Z:Params)
theorem ja_w1:(bdA Z Z7)[8]?=some Cb:=by kernel_rfl
theorem ja_w2:Cb=.FunctionDef (nmS Cb) nst.params nst.body [] none [] nst.scope none (nmS Cb) (psS Cb):=by kernel_rfl
theorem ja_w3:Q0 (Lp (fdA Z Z7).scope.kind) (Q5b kt (fdA Z Z7).scope.names (fdA Z Z7).code tcA false 307 [289,536] (nmS Cb) nst)=true:=by kernel_rfl
theorem ja_p:Ez kt (fdA Z J0).scope.names 517 139 383 (bdA Z J0)=true:=by kernel_rfl
noncomputable def clO (o:Obj):ClassData:=match o.data with | .cls cd=>cd | _=>default
theorem ja_x1:H.G 51 Z=excClassObj (t 79) (t 79) 51 50 [.ref 31] (.ref 31 :: O8) true [] [] false none none (some (.ref 35)) none (some (.str (t 79) 216)) (some (.str (t 79) 224)) (some (.bool true)) "Exception.__new__":=by kernel_rfl
theorem ja_x2:H.G 31 Z={ cls:=(H.G 31 Z).cls,dict:=(H.G 31 Z).dict,data:=.cls (clO (H.G 31 Z)),slots:=(H.G 31 Z).slots }:=by kernel_rfl
theorem ja_x3:(clO (H.G 31 Z)).ns=30:=by kernel_rfl
noncomputable def Iu (o:Obj):Bool:=match o.data with | .dict es _=>es.all (λe=>match e.key with | .str _ _=>true | _=>false) | _=>false
noncomputable def nsO (o:Obj)(n:Str):Option Value:=match o.data with | .dict es _=>nsFind es n | _=>none
theorem ja_x4:Q0 (Iu (H.G 50 Z)) (Q0 (Iu (H.G 30 Z)) (Iu (H.G 3 Z)))=true:=by kernel_rfl
theorem ja_x5:nsO (H.G 50 Z) "__init__"=some (.ref (faT.get rfI)):=by kernel_rfl
theorem ja_x6:nsO (H.G 30 Z) "__init__"=none:=by kernel_rfl
theorem ja_x7:clsIn (Kf Z) 51=some (clO (H.G 51 Z)):=by kernel_rfl
theorem ja_x8:(clO (H.G 51 Z)).mro=.ref 51 :: .ref 31 :: O8:=by kernel_rfl
theorem ja_x9:(clO (H.G 51 Z)).hasDict=true:=by kernel_rfl
theorem ja_y1:takerIn (Kf Z) 51 (t 413)=some none:=by kernel_rfl
theorem ja_y2:findIn (Kf Z) (.ref 51) "__setattr__"=some (some (.builtin "object.__setattr__")):=by kernel_rfl
theorem ja_y3:findIn (Kf Z) (.ref 51) "__getattribute__"=some (some (.builtin "BaseException.__getattribute__")):=by kernel_rfl
theorem ja_y4:findIn (Kf Z) (.ref 51) "__getattr__"=some none:=by kernel_rfl
theorem ja_y5:hasDictIn (Kf Z) 51=true:=by kernel_rfl
noncomputable def atX (Z:Params):Option Value:=(findIn (Kf Z) (.ref 51) (t 413)).getD none
theorem ja_y6:findIn (Kf Z) (.ref 51) (t 413)=some (atX Z):=by kernel_rfl
theorem ja_y7:noGet (Kf Z) (atX Z)=true:=by kernel_rfl
noncomputable def fnI:Fn:=⟨[(false,520),(false,413)],[],[],[.bad]⟩
theorem ja_i1 (sA:Nat):Ls kt (Kf Z) (faS sA) false rfI fnI=true:=by kernel_rfl
noncomputable def ckIni (b:List Stmt):Bool:=W2 b λy=>Yy y λts v U=>W2 ts λu=>H6 u λo m U=>M4 o λs U=>M4 v λv U=>Q0 (kNm kt 520 s) (Q0 (kNm kt 413 m) (kNm kt 413 v))
theorem ja_i2:ckIni (bdA Z rfI)=true:=by kernel_rfl
noncomputable def rz:Rz:=⟨79,124,6,2⟩
noncomputable def pRe:P:=.i (.o (.i (.i (.i (.o .h)))))
noncomputable def pCe:P:=.i (.o (.o (.o (.o (.i .h)))))
noncomputable def pLa:P:=.i (.o (.o (.i (.i (.o (.o .h))))))
noncomputable def pls:Pls:=[(pRe,.iff (.forr 1 (.iff (.raise (.bin .add (.loc 467) (.con (.int 1))))))),(pCe,.skip (.forr 0 (.skip .call))),(pLa,.skip (.skip (.skip .arg)))]
theorem ja_xf (sA:Nat):Q0 (Q5a kt rz (Kf Z) (faS sA) pRe (.iff (.forr 1 (.iff (.raise (.bin .add (.loc 467) (.con (.int 1))))))) Z0f) (Q0 (Q5a kt rz (Kf Z) (faS sA) pCe (.skip (.forr 0 (.skip .call))) Z0g) (Q5a kt rz (Kf Z) (faS sA) pLa (.skip (.skip (.skip .arg))) Ip))=true:=by kernel_rfl
noncomputable def eHd:E:=.glb 147 (.fn pLa)
noncomputable def esHd:List E:=[.loc 326,.bin .add (.lst [.tup [.con .none,.call (.glb 325 (.fn (.o (.o (.i (.o (.i .h))))))) [.lst [.con (.int 4)]]],.tup [.con .none,.loc 450]]) (.loc 123),.attr (.loc 326) 308]
theorem ja_hd (sA:Nat):Sw kt (Kf Z) (faS sA) (λnm=>Fh kt rz (K8 kt 100) nm eHd esHd 274 413 127) W4 (Xa.body.take 5)=true:=by kernel_rfl
noncomputable def eLw:E:=.glb 105 (.fn W4)
theorem ja_lw (sA:Nat):Sw kt (Kf Z) (faS sA) (λnm=>Fi (K8 kt 100) nm eLw [.loc 326]) Xe (Xb.body.take 3)=true:=by kernel_rfl
end
end
section
open PySem.W.X
structure Hp (w:World)(h:Heap):Prop where
 kin:(Kf w.params).In h
 main:∃ mg,h.Ns mainGlobals mg/\h.BuiltinsAt mg tpA
 tabc:CodeHd h tcA tpA
 blt:∃ mb,h.Ns builtinsNs mb/\∀ x:Str,x≠"__name__"->mb x=bootBuiltins x
 nolimit:h.NoLimit
 sysm:h.get? sysModules≠none
variable {w:World}{h:Heap}{sA:Nat}
theorem Uu (H:Hp w h):Wf (Wl w h sA) where
 kin:=H.kin
 main:=let ⟨mg,a,_⟩:=H.main;⟨mg,a⟩
 bat:=H.main
 tabc:=H.tabc
 tabg:=by show mainGlobals≠tpA;decide
 blt:=H.blt
 nolimit:=H.nolimit
 sysm:=H.sysm
 inj:=λi j e=>t_inj e
 attrs:=λc k hc hk=>Gi (Gh (Q5q w h sA) c hc) k hk
 txt:=λi hi=>t_ok hi
theorem Iv {v:Option Value}(h:(match v with | some v=>(match v with | .type n=>decide (n="function") | _=>false) | none=>false)=true):v=some (.type "function"):=by
 cases v with
 | none=>first | exact ff h | cases h
 | some v=>cases v <;> first | exact ff h | (cases h;done) | rw [of_decide_eq_true h]
theorem Iw {v:Option (Option Value)}{a:Nat}(h:(match v with | some (some v)=>Dq v a | _=>false)=true):v=some (some (.ref a)):=by
 cases v with
 | none=>first | exact ff h | cases h
 | some v=>cases v with
  | none=>first | exact ff h | cases h
  | some v=>rw [Ma h]
set_option tactic.hygienic true in
theorem Xf {α:Type}:∀ {l:List (Nat × α)}{n:Nat}{v:α},Y6 l n=some v->(n,v)∈l
 | (m,u) :: r,n,v,h=>by
  unfold Y6 at h
  split at h
  ·rename_i e;cases h;rw [e];exact .head _
  ·exact .tail _ (Xf h)
theorem Q5u {W:Wd}{c:Nat}{cl:Cl}(lt:c<W.cN)(h:Q5r W c cl=true):ClsOk W c cl:=by
 unfold Q5r at h;obtain ⟨h1,h⟩:=Q1 h;obtain ⟨h2,h⟩:=Q1 h;obtain ⟨h3,h⟩:=Q1 h;obtain ⟨h4,h5⟩:=Q1 h;refine ⟨lt,h1,h2,h3,λn f e=>?_,?_⟩
 ·obtain ⟨a,b⟩:=Q1 (Gi h4 _ (Xf e))
  exact ⟨Iw a,Iv b⟩
 ·cases q:cl.init with
  | none=>rw [q] at h5;cases h5
  | some i =>
   rw [q] at h5;obtain ⟨a,b⟩:=Q1 h5;exact ⟨Iw a,Iv b⟩
theorem Ix {α:Type}{f:Nat->α->Bool}:∀ {l:List α}{k j:Nat}{x:α},Q5s l k f=true->l[j]?=some x->f (k+j) x=true
 | y :: r,k,0,x,h,e=>by
  obtain ⟨h1,_⟩:=Q1 (show Q0 (f k y) (Q5s r (k+1) f)=true from h);have e:y=x:=by simpa using e
  subst e;exact h1
 | y :: r,k,j+1,x,h,e=>by
  obtain ⟨_,h2⟩:=Q1 (show Q0 (f k y) (Q5s r (k+1) f)=true from h);have:=Ix h2 (by simpa using e)
  rwa [show k+(j+1)=k+1+j by lia]
theorem Q5v (m:Nat)(L:List Nat)(n:Nat)(hb:m<2 ^ n)(hc:Pw n (λk=>match Nat.testBit m k with | true=>L.any (Nat.beq k) | false=>true)=true):∀ k,Nat.testBit m k=true->k∈L:=λk h=>by
 have lt:k<n:=by
  refine Nat.lt_of_not_le λle=>?_;have:=Nat.testBit_lt_two_pow (Nat.lt_of_lt_of_le hb (Nat.pow_le_pow_right (by decide) le));rw [this] at h;cases h
 have:=Gh hc k lt;rw [h] at this;obtain ⟨x,hx,e⟩:=List.any_eq_true.mp this;rw [Z8.mp e];exact hx
theorem jb_kx:∀ k,Nat.testBit kx.held k=true->k∈Xd:=Q5v _ _ 700 (by decide +kernel) (by decide +kernel)
theorem jb_kt:∀ k,Nat.testBit kt.mask k=true->k∈Xd:=Q5v _ _ 700 (by decide +kernel) (by decide +kernel)
theorem F8:TabOk (Wl w h sA) gg kx where
 cls:=λc cl e=>by
  have:=Ix (ja_cls w h sA) e;rw [Nat.zero_add] at this;exact Q5u (by have:=(List.getElem?_eq_some_iff.mp e).1;exact Nat.lt_of_lt_of_le this (show Q5m.length<=9 by decide +kernel)) this
 held:=λc n hc hn=>by
  have z:=Gi (Gh (Z0u w) c hc) n hn
  show findIn (Kf w.params) (.ref (caL.getD c 0)) (t n)=some none
  generalize findIn (Kf w.params) (.ref (caL.getD c 0)) (t n)=y at z;cases y with
  | none=>first | exact ff z | cases z
  | some y=>cases y with
   | none=>rfl
   | some _=>first | exact ff z | cases z
 mask:=jb_kx
 append:=by show t 119=_;decide +kernel
 extend:=by show t 265=_;decide +kernel
 get:=by show t 305=_;decide +kernel
 index:=by show t 317=_;decide +kernel
theorem Z0y {k:Nat}{v:V}(e:Ir.get k=some v):X5 (Wl w h sA) v (t k)=true:=VT.all_of (f:=λk v=>X5 (Wl w h sA) v (t k)) (t:=Ir) (c:=id) (i:=k) (Z0x w h sA) e
theorem S4:KtOk (Wl w h sA) kt:=by
 obtain ⟨b1,q⟩:=Q1 (ja_bi w h sA);obtain ⟨b2,q⟩:=Q1 q;obtain ⟨b3,q⟩:=Q1 q;obtain ⟨b4,q⟩:=Q1 q;obtain ⟨b5,b6⟩:=Q1 q;obtain ⟨c1,q⟩:=Q1 (Q5t w h sA);obtain ⟨c2,q⟩:=Q1 q;obtain ⟨c3,q⟩:=Q1 q;obtain ⟨c4,q⟩:=Q1 q;obtain ⟨c5,c6⟩:=Q1 q;refine ⟨rfl,λk v e=>?_,Nw,Vy,jb_kt,λb hb=>?_,c1,c2,c3,λc hc=>?_,c4,c5,Q8t⟩
 ·exact Z0y e
 ·cases b with
  | len=>exact b1
  | list=>exact b2
  | min=>exact b3
  | max=>exact b4
  | abs=>exact b5
  | sum=>exact b6
  | listRange=>first | exact ff hb | cases hb
  | str=>first | exact ff hb | cases hb
  | sorted=>first | exact ff hb | cases hb
  | sortedSet=>first | exact ff hb | cases hb
  | isInt=>first | exact ff hb | cases hb
 ·have:c=2:=by
   have h2:Nat.testBit 4 c=true:=hc;have:c<3:=by
    refine Nat.lt_of_not_le λle=>?_;have:=Nat.testBit_lt_two_pow (Nat.lt_of_lt_of_le (show 4<2 ^ 3 by decide) (Nat.pow_le_pow_right (by decide) le));rw [this] at h2;cases h2
   have:c=0\/c=1\/c=2:=by lia
   rcases this with rfl | rfl | rfl
   ·cases h2
   ·cases h2
   ·rfl
  subst this;exact ja_isi w h sA
theorem Q5w:P.beq L8 nid=false/\P.beq D0 nid=false:=⟨rfl,rfl⟩
theorem fa_ne {p:P}(h:P.beq p iS=false):faS sA p=faT.get p:=by unfold faS;rw [h]
theorem Cc {p:P}{oc:Value}{od:Option Addr}{sl:Array (Option Value)}{fd:FuncData}{Z:Params}(h:P.beq p iS=false)(e:(Kf Z).lookup (faS sA p)=some ⟨oc,od,.func fd,sl⟩):fd=fdA Z p:=by
 rw [fa_ne h] at e;unfold fdA;rw [e]
theorem Cd {p:P}{Z:Params}{fd:FuncData}{body:List Stmt}(h:fd=fdA Z p)(e:fd.body=.stmts body):body=bdA Z p:=by
 unfold bdA;rw [<-h,e]
theorem Z0z:Pv.get Z7=some Wx:=rfl
theorem def_at:Wn Wx.body 0 8=true:=by decide +kernel
theorem def_is:Wx.body[8]?=some (.defc false 307 nid [289,536]):=rfl
theorem Jn (H:Hp w h):TabFn (Wl w h sA) gg kx where
 nests:=λp fn e=>by
  have e:ntab.get p=some fn:=e;have z:=FT.all_of (c:=id) (Z0w) e;obtain ⟨z1,z2⟩:=Q1 z;have z1:p=nid:=P.beq_of z1;subst z1;obtain ⟨a,b⟩:=Fj (W:=Wl w h sA) (Uu H) F8 S4 z2;exact ⟨nst,by show (match P.beq nid nid with | true=>some nst | false=>none)=some nst;rw [P.beq_refl],a,b⟩
 marks:=⟨rfl,rfl,rfl⟩
 fns:=λp fn e=>by
  have e:Pv.get p=some fn:=e;have z:=FT.all_of (c:=id) (Z0v w sA) e;refine Dg (W:=Wl w h sA) (Uu H) F8 S4 z λhd fd body hl hb n ca CA i s y hs hy hi=>?_;have hp:p=Z7:=P.beq_of hd;subst hp;rw [Z0z] at e;cases e;obtain ⟨oc,od,sl,hl⟩:=hl;have ef:fd=fdA w.params Z7:=Cc (sA:=sA) rfl hl;have eb:=Cd ef hb;have ei:=Wp def_at hs hi;rw [Nat.zero_add] at ei;subst ei;rw [def_is] at hs;cases hs;rw [eb,ja_w1] at hy;cases hy;obtain ⟨k1,k2⟩:=Q1 (ja_w3 w.params);rw [ja_w2,ef];exact Q5c (W:=Wl w h sA) (Uu H) S4 (Qd k1) k2 (by show (match P.beq nid nid with | true=>some nst | false=>none)=some nst;rw [P.beq_refl]) (by show (match P.beq L8 nid with | true=>some nst | false=>none)=none;rw [Q5w.1])
theorem Py:(Wl w h sA).nest D0=none:=by show (match P.beq D0 nid with | true=>some nst | false=>none)=none;rw [Q5w.2]
theorem Z1a (i:Int)(k:Int->R):P0 i k=k i:=by
 cases i with
 | ofNat n=>cases n <;> rfl
 | negSucc n=>cases n <;> rfl
theorem pe_l {xs:List Int}{a l:Nat}{st:St}{k:V->St->R}(hl:0<l)(hk:k (.int (E0 xs a l)) st=true):Eb Iq (brP iS xs 517 139 383) [.fn iS,.int a,.int l] st k=true:=by
 have e:Eb Iq (brP iS xs 517 139 383) [.fn iS,.int a,.int l] st k=@Bool.rec (λU=>R) (k (.int 0) st) (match xs[a]? with | some i=>@Bool.rec (λU=>R) false (P0 (Int.fmod i l) (λx=>k (.int x) st)) (Nat.blt 0 l) | none=>false) (Nat.blt a xs.length):=by
  rfl
 rw [e];unfold E0 at hk;cases q:Nat.blt a xs.length with
 | true =>
  have lt:=Km q;rw [List.getElem?_eq_getElem lt] at hk ⊢
  show @Bool.rec (λU=>R) false (P0 (Int.fmod xs[a] l) (λx=>k (.int x) st)) (Nat.blt 0 l)=true
  rw [Dh hl]
  show P0 _ _=true
  rw [Z1a];exact hk
 | false =>
  have ge:xs.length<=a:=Nat.le_of_not_lt λz=>by rw [Dh z] at q;cases q
  rw [List.getElem?_eq_none ge] at hk;exact hk
theorem Q5x (H:Hp w h){xs:List Int}(SO:ScrOk (Wl w h sA) iS xs):PeelOk (Wl w h sA) J0 iS xs:=by
 obtain ⟨fd,body,dv,FO,kp,_⟩:=(Jn (sA:=sA) H).fns J0 Iq rfl;obtain ⟨oc,od,sl,hl⟩:=FO.at_;have ef:fd=fdA w.params J0:=Cc (sA:=sA) rfl hl;have eb:=Cd ef FO.body;refine Sm (Uu H) S4 SO FO kp (kS:=517) (kA:=139) (kL:=383) ?_ λa l st k hl hk=>pe_l hl hk;rw [eb,ef];exact ja_p w.params
theorem Gj (H:Hp w h){xs:List Int}(SO:ScrOk (Wl w h sA) iS xs){dgs:Dgs}(D:Um xs dgs)(n:Nat):CallOk (Wl w h sA) n (S8 gg kx J0 iS dgs n):=Wc (Uu H) F8 (Jn H) (Q5x H SO) D n
theorem Iy {a:Nat}{o:Obj}(e:h.get? a=some o)(k:Iu o=true):h.Ns a (nsO o):=by
 have q:h.isNs a=true:=by unfold Heap.isNs;rw [e];exact k
 have r:=Heap.Ns.of_isNs q;have:h.nsMap a=nsO o:=by
  funext n
  unfold Heap.nsMap nsO;rw [e]
  rfl
 rwa [this] at r
section
theorem ja_ty (Z:Params):(match (Kf Z).lookup (faT.get rfI) with | some o=>(match o.cls with | .type n=>decide (n="function") | _=>false) | none=>false)=true:=by kernel_rfl
theorem fnTy {oc:Value}{od:Option Addr}{sl:Array (Option Value)}{fd:FuncData}(e:(Kf w.params).lookup (faS sA rfI)=some ⟨oc,od,.func fd,sl⟩):oc=.type "function":=by
 have z:=ja_ty w.params;rw [<-fa_ne (sA:=sA) rfl,e] at z;dsimp only at z;cases oc <;> first | exact ff z | (cases z;done) | rw [of_decide_eq_true z]
theorem k51 (I:Hp w h):h.get? 51=some (H.G 51 w.params):=I.kin 51 _ (by kernel_rfl)
theorem k50 (I:Hp w h):h.get? 50=some (H.G 50 w.params):=I.kin 50 _ (by kernel_rfl)
theorem k31 (I:Hp w h):h.get? 31=some (H.G 31 w.params):=I.kin 31 _ (by kernel_rfl)
theorem k30 (I:Hp w h):h.get? 30=some (H.G 30 w.params):=I.kin 30 _ (by kernel_rfl)
theorem Q5y {b:List Stmt}:ckIni b=true->∃ p1 p2 p3 p4,b=Ih (t 520) (t 413) (t 413) p1 p2 p3 p4:=by
 revert b;refine @Y5 _ _ _ λy=>?_;revert y;refine @R8 _ _ λts v p4=>?_;revert ts;refine @Y5 _ _ _ λu=>?_;revert u;refine @B9 _ _ λo m p2=>?_;revert o;refine @Y8 _ _ λs p1=>?_;revert v;refine @Y8 _ _ λv p3 h=>?_;have e1:t 520=s:=J1 (Q5 h);have e2:t 413=m:=J1 (Q5 (Q2 h));have e3:t 413=v:=J1 (Q2 (Q2 h));subst e1;subst e2;rw [<-e3];exact ⟨_,_,_,_,rfl⟩
theorem xcOk_l (I:Hp w h):XcOk (Wl w h sA) rfP rfI 413 where
 obj:=by
  obtain ⟨n1,q⟩:=Q1 (ja_x4 w.params);obtain ⟨n2,_⟩:=Q1 q;obtain ⟨fd,body,dv,FO,_⟩:=Dg (g:=gg) (kx:=kx) (d:=false) (Uu I) F8 S4 (ja_i1 w.params sA) λq=>by first | exact ff q | cases q
  obtain ⟨oc,od,sl,hl⟩:=FO.at_;have hI:=I.kin _ _ hl;have e51:=k51 I;rw [ja_x1] at e51;have e31:=k31 I;rw [ja_x2] at e31;refine ⟨_,_,_,_,_,_,_,_,_,_,_,_,_,_,_,_,_,_,e51,Iy (k50 I) n1,ja_x5 w.params,.own (bmB:=O8) e31 (by rw [ja_x3];exact Iy (k30 I) n2) (ja_x6 w.params) .base,by decide +kernel,hI,?_⟩;exact fnTy (sA:=sA) hl
 cls:=⟨_,31,ja_x7 w.params,ja_x8 w.params,ja_x9 w.params⟩
 taker:=ja_y1 w.params
 sa:=ja_y2 w.params
 ini:=by
  obtain ⟨fd,body,dv,FO,_⟩:=Dg (g:=gg) (kx:=kx) (d:=false) (Uu I) F8 S4 (ja_i1 w.params sA) λq=>by first | exact ff q | cases q
  obtain ⟨oc,od,sl,hl⟩:=FO.at_;have ef:fd=fdA w.params rfI:=Cc (sA:=sA) rfl hl;have eb:=Cd ef FO.body;obtain ⟨p1,p2,p3,p4,e⟩:=Q5y (ja_i2 w.params);rw [e] at eb;subst eb;have dn:dv=[]:=by have:=FO.dflts;cases this;rfl
  subst dn;exact ⟨520,413,fd,p1,p2,p3,p4,[.bad],FO,λq=>absurd (t_inj q) (by decide),Nw _,Nw _⟩
theorem xgOk_l (I:Hp w h):XgOk (Wl w h sA) rfP 413:=⟨ja_y3 w.params,ja_y4 w.params,ja_y5 w.params,atX w.params,ja_y6 w.params,ja_y7 w.params⟩
end
end
section
open PySem.W.X
variable {w:World}{h:Heap}{sA:Nat}{xs:List Int}
theorem Q5z (I:Hp w h):RzOk (Wl w h sA) kt rz rfP rfI 413 (kt.tab 127) where
 xo:=xcOk_l I
 glob:=ja_rz w h sA
 dn:=Py
 str:=by
  obtain ⟨_,q⟩:=Q1 (Q5t w h sA);obtain ⟨_,q⟩:=Q1 q;obtain ⟨_,q⟩:=Q1 q;obtain ⟨_,q⟩:=Q1 q;exact (Q1 q).2
 log:=by decide +kernel
 msg:=by show t 124++Str.ofString (toString (2:Int))++t 6=t 127;decide +kernel
 z1:=by show (t 124).length+(Str.ofString (toString (2:Int))).length<=sizeLine;decide +kernel
 z2:=by show (t 124++Str.ofString (toString (2:Int))).length+(t 6).length<=sizeLine;decide +kernel
noncomputable def Xg:List Part:=[⟨Z7,[vI,.fn iS],o0,oA⟩,⟨F7,[vI,.fn iS],oA,oA⟩,⟨K4,[vI,.fn iS],oA,oA⟩,⟨Qn,[vI,.fn iS],oA,oB⟩,⟨Q8,[vI,.fn iS],oB,oB⟩]
noncomputable def xv5 (dgs:Dgs):XV:=xV gg kx (λn=>S8 gg kx J0 iS dgs n) pls 2 58
noncomputable def hdC (dgs:Dgs):XV:=cV W4 Xa (Oe (exN (evN gg kx (S8 gg kx J0 iS dgs 59) 60) 60) (Zp (evN gg kx (S8 gg kx J0 iS dgs 59) 60) (xv5 dgs) eHd esHd) (Xa.body.take 5))
noncomputable def lawC (dgs:Dgs):R:=xFn Xb (Oe (exN (evN gg kx (caP n0 (S8 gg kx J0 iS dgs 60) Xg) 60) 60) (Zp (evN gg kx (caP n0 (S8 gg kx J0 iS dgs 60) Xg) 60) (hdC dgs) eLw [.loc 326]) (Xb.body.take 3)) [.fn iS] stS
theorem Z1b {q:P}{pl:Pl}(h:(q,pl)∈pls):(q=pRe/\pl=.iff (.forr 1 (.iff (.raise (.bin .add (.loc 467) (.con (.int 1)))))))\/(q=pCe/\pl=.skip (.forr 0 (.skip .call)))\/(q=pLa/\pl=.skip (.skip (.skip .arg))):=by
 simp only [pls,List.mem_cons,List.not_mem_nil,or_false,Prod.mk.injEq] at h;exact h
theorem law_l (I:Hp w h)(SO:ScrOk (Wl w h sA) iS xs){dgs:Dgs}(D:Um xs dgs)(PO:∀ pt∈Xg,PartOk (Wl w h sA) 60 n0 pt)(run:lawC dgs=true):CT (Wl w h sA) 61 (.fn Xe) [.fn iS] stS:=by
 have F:=Jn (sA:=sA) I;have CA:=Gj I SO D;obtain ⟨x1,q⟩:=Q1 (ja_xf w.params sA);obtain ⟨x2,x3⟩:=Q1 q;have XO:∀ {f vs st},xv5 dgs f vs st=true->CX (Wl w h sA) ⟨(Wl w h sA).fa rfP,(Wl w h sA).tab 413,kt.tab 127⟩ 59 f vs st/\∃ q,f=.fn q/\keepIn (Wl w h sA).K (.ref ((Wl w h sA).fa q))=true:=λhx =>
  xV_ok (g:=gg) (kx:=kx) (T:=kt) (z:=rz) (pI:=rfI) (Uu I) F8 S4 CA (Q5z I) (pls:=pls) (λq pl hm=>⟨λfn e=>let ⟨fd,body,dv,FO,kp,_⟩:=F.fns q fn e;⟨fd,body,dv,FO,kp⟩⟩) (λq pl fn hm e=>by
   rcases Z1b hm with ⟨rfl,rfl⟩ | ⟨rfl,rfl⟩ | ⟨rfl,rfl⟩
   ·have:fn=Z0f:=by have e:some Z0f=some fn:=e;exact (Option.some.inj e).symm
    subst this;exact x1
   ·have:fn=Z0g:=by have e:some Z0g=some fn:=e;exact (Option.some.inj e).symm
    subst this;exact x2
   ·have:fn=Ip:=by have e:some Ip=some fn:=e;exact (Option.some.inj e).symm
    subst this;exact x3) 58 hx
 obtain ⟨fdh,bh,dvh,FOh,kph,_⟩:=F.fns W4 Xa rfl;obtain ⟨fdl,bl,dvl,FOl,kpl,_⟩:=F.fns Xe Xb rfl;intro A l μ s x ys ro fr II rf rx ff;refine law_ct (N:=59) (T:=kt) (Uu I) F8 S4 (caP_ok (Uu I) (CA 60) PO) (cv:=hdC dgs) (λhx=>?_) FOl (ja_lw w.params sA) run ro fr II rf rx ff;exact Sx (N:=58) (T:=kt) (z:=rz) (pI:=rfI) (kX:=127) (kN:=274) (Uu I) F8 S4 (CA 59) (Q5z I) (xgOk_l I) XO FOh kph (ja_hd w.params sA) hx
theorem Z1c (dgs:Dgs):lawC dgs=true:=by kernel_rfl
theorem S5 (I:Hp w h)(SO:ScrOk (Wl w h sA) iS xs){dgs:Dgs}(D:Um xs dgs){f:P}{fn:Fn}{o o1:Ob}(hf:Pv.get f=some fn)(ok:Zn o o1=true)(run:pr f dgs ⟨mkT o,n0⟩ (λv s=>Q0 (F5 v) (K9 s.t o1))=true):PartOk (Wl w h sA) 60 n0 ⟨f,[vI,.fn iS],o,o1⟩:=by
 obtain ⟨v,st',hk,r⟩:=(Gj I SO D 60).run (show S8 gg kx J0 iS dgs 60 (.fn f) [vI,.fn iS] ⟨mkT o,n0⟩ (λv s=>Q0 (F5 v) (K9 s.t o1))=true from run);obtain ⟨h1,h2⟩:=Q1 hk;have hv:=Yb h1;subst hv;obtain ⟨fd,body,dv,FO,kp,_⟩:=(Jn (sA:=sA) I).fns f fn hf;exact ⟨ok,kp,st',h2,λro II rx=>r ro II (.fn f) rx⟩
theorem Pz (I:Hp w h)(SO:ScrOk (Wl w h sA) iS xs){dgs dgs2:Dgs}(D:Um xs dgs)(D2:Um xs dgs2){f:P}{fn:Fn}{o o1:Ob}(hf:Pv.get f=some fn)(k:Nat){n2:P}{Js:List (Loc × Ob)}(ok:Zn o o1=true)
  (HJ:∀ j∈Js,jOk (xJ dgs2) (fn.body.drop k) o o1 n2 j=true)(run:Eb fn (jBR (xJ dgs) (fn.body.take k) o o1 n2 Js) [vI,.fn iS] ⟨mkT o,n0⟩ (λv s=>Q0 (F5 v) (K9 s.t o1))=true):PartOk (Wl w h sA) 60 n0 ⟨f,[vI,.fn iS],o,o1⟩:=by
 obtain ⟨fd,body,dv,FO,kp,T⟩:=(Jn (sA:=sA) I).fns f fn hf;have B:=Q9u ((T 59 _ (Gj I SO D 59)).cut k).1 ((T 59 _ (Gj I SO D2 59)).cut k).2 ok HJ;rw [List.take_append_drop] at B;obtain ⟨v,st',hk,r⟩:=Mv (Uu I) FO B run;obtain ⟨h1,h2⟩:=Q1 hk;have hv:=Yb h1;subst hv;refine ⟨ok,kp,st',h2,λ{A μ s ys} ro II rx=>wpAny_call (codeAny_mono (r (Ro.rp (n:=59) ro) II rx) λr s' z=>?_)⟩
 induction r using Except.casesOn with
 | error=>exact z.elim
 | ok fl=>induction fl using PySem.Flow.casesOn <;> first | exact z | exact z.elim
noncomputable def dg (xs:List Int)(a l:Nat):Nat × Nat × Nat:=(a,l,(E0 xs a l).toNat)
theorem W6 {xs:List Int}{ps:List (Nat × Nat)}(hp:∀ p∈ps,0<p.2):Um xs (ps.map λp=>dg xs p.1 p.2):=λa l v hm=>by
 obtain ⟨p,hq,e⟩:=List.mem_map.mp hm;unfold dg at e;cases e;exact ⟨hp p hq,λU=>(Ny (hp p hq)).1⟩
theorem G4 {xs:List Int}{dgs:Dgs}(D:Um xs dgs){l:Nat}(hl:0<l)(a:Nat):Um xs ((a,l,l) :: dgs):=λb m v hm=>by
 rcases List.mem_cons.mp hm with q | q
 ·cases q;exact ⟨hl,λz=>absurd rfl z⟩
 ·exact D b m v q
end
theorem dw0:pr Z7 [(1,2,2),(2,5,5),(0,5,0)] st0 Yh=true:=by decide +kernel
theorem dw1:pr Z7 [(1,2,2),(2,5,5),(0,5,1)] st0 Yh=true:=by decide +kernel
theorem dw2:pr Z7 [(1,2,2),(2,5,5),(0,5,2)] st0 Yh=true:=by decide +kernel
theorem dw3:pr Z7 [(1,2,2),(2,5,5),(0,5,3)] st0 Yh=true:=by decide +kernel
theorem dw4:pr Z7 [(1,2,2),(2,5,5),(0,5,4)] st0 Yh=true:=by decide +kernel
theorem do0:pr F7 [(3,2,2),(4,2,2)] stA Yh=true:=by decide +kernel
theorem dn0:pr K4 [(0,5,5),(5,4,0)] stA Yh=true:=by decide +kernel
theorem dn1:pr K4 [(0,5,5),(5,4,1)] stA Yh=true:=by decide +kernel
theorem dn2:pr K4 [(0,5,5),(5,4,2)] stA Yh=true:=by decide +kernel
theorem dn3:pr K4 [(0,5,5),(5,4,3)] stA Yh=true:=by decide +kernel
theorem dc0:pr Q8 [(8,3,3),(1,4,0)] stB W5=true:=by decide +kernel
theorem dc1:pr Q8 [(9,3,3),(8,3,3),(1,4,1)] stB W5=true:=by decide +kernel
theorem dc20:pr Q8 [(10,3,3),(9,3,3),(1,4,2),(8,3,0)] stB W5=true:=by decide +kernel
theorem dc21:pr Q8 [(10,3,3),(9,3,3),(1,4,2),(8,3,1)] stB W5=true:=by decide +kernel
theorem dc22:pr Q8 [(10,3,3),(9,3,3),(1,4,2),(8,3,2)] stB W5=true:=by decide +kernel
theorem dc300:pr Q8 [(11,3,3),(10,3,3),(1,4,3),(8,3,0),(9,3,0)] stB W5=true:=by decide +kernel
theorem dc301:pr Q8 [(11,3,3),(10,3,3),(1,4,3),(8,3,0),(9,3,1)] stB W5=true:=by decide +kernel
theorem dc302:pr Q8 [(11,3,3),(10,3,3),(1,4,3),(8,3,0),(9,3,2)] stB W5=true:=by decide +kernel
theorem dc310:pr Q8 [(11,3,3),(10,3,3),(1,4,3),(8,3,1),(9,3,0)] stB W5=true:=by decide +kernel
theorem dc311:pr Q8 [(11,3,3),(10,3,3),(1,4,3),(8,3,1),(9,3,1)] stB W5=true:=by decide +kernel
theorem dc312:pr Q8 [(11,3,3),(10,3,3),(1,4,3),(8,3,1),(9,3,2)] stB W5=true:=by decide +kernel
theorem dc320:pr Q8 [(11,3,3),(10,3,3),(1,4,3),(8,3,2),(9,3,0)] stB W5=true:=by decide +kernel
theorem dc321:pr Q8 [(11,3,3),(10,3,3),(1,4,3),(8,3,2),(9,3,1)] stB W5=true:=by decide +kernel
theorem dc322:pr Q8 [(11,3,3),(10,3,3),(1,4,3),(8,3,2),(9,3,2)] stB W5=true:=by decide +kernel
section
open PySem.W.X
variable {w:World}{h:Heap}{sA:Nat}{xs:List Int}
theorem lt3 {a l:Nat}(hl:0<l):(E0 xs a l).toNat<l:=(Ny hl).2
theorem Q6a {P:Nat->Prop}(h0:P 0)(h1:P 1)(h2:P 2){n:Nat}(h:n<3):P n:=by
 have:n=0\/n=1\/n=2:=by lia
 rcases this with rfl | rfl | rfl
 ·exact h0
 ·exact h1
 ·exact h2
theorem all4 {P:Nat->Prop}(h0:P 0)(h1:P 1)(h2:P 2)(h3:P 3){n:Nat}(h:n<4):P n:=by
 have:n=0\/n=1\/n=2\/n=3:=by lia
 rcases this with rfl | rfl | rfl | rfl
 ·exact h0
 ·exact h1
 ·exact h2
 ·exact h3
theorem all5 {P:Nat->Prop}(h0:P 0)(h1:P 1)(h2:P 2)(h3:P 3)(h4:P 4){n:Nat}(h:n<5):P n:=by
 have:n=0\/n=1\/n=2\/n=3\/n=4:=by lia
 rcases this with rfl | rfl | rfl | rfl | rfl
 ·exact h0
 ·exact h1
 ·exact h2
 ·exact h3
 ·exact h4
theorem Xr {P:Nat->Prop}(h0:P 0)(h1:P 1)(h2:P 2)(h3:P 3)(h4:P 4)(h5:P 5){n:Nat}(h:n<6):P n:=by
 have:n=0\/n=1\/n=2\/n=3\/n=4\/n=5:=by lia
 rcases this with rfl | rfl | rfl | rfl | rfl | rfl
 ·exact h0
 ·exact h1
 ·exact h2
 ·exact h3
 ·exact h4
 ·exact h5
theorem Q6b (I:Hp w h)(SO:ScrOk (Wl w h sA) iS xs):PartOk (Wl w h sA) 60 n0 ⟨Z7,[vI,.fn iS],o0,oA⟩:=by
 refine S5 I SO (G4 (G4 (W6 (xs:=xs) (ps:=[(0,5)]) (by decide)) (l:=5) (by decide) 2) (l:=2) (by decide) 1) (fn:=Wx) rfl (by decide +kernel) ?_
 show pr Z7 [(1,2,2),(2,5,5),dg xs 0 5] st0 Yh=true
 exact all5 (P:=λn=>pr Z7 [(1,2,2),(2,5,5),(0,5,n)] st0 Yh=true) dw0 dw1 dw2 dw3 dw4 (lt3 (by decide))
theorem Q6c (I:Hp w h)(SO:ScrOk (Wl w h sA) iS xs):PartOk (Wl w h sA) 60 n0 ⟨F7,[vI,.fn iS],oA,oA⟩:=by
 refine S5 I SO (G4 (G4 (W6 (xs:=xs) (ps:=[]) (by decide)) (l:=2) (by decide) 4) (l:=2) (by decide) 3) (fn:=f_230) rfl (by decide +kernel) ?_
 show pr F7 [(3,2,2),(4,2,2)] stA Yh=true
 exact do0
theorem Ce (I:Hp w h)(SO:ScrOk (Wl w h sA) iS xs):PartOk (Wl w h sA) 60 n0 ⟨K4,[vI,.fn iS],oA,oA⟩:=by
 refine S5 I SO (G4 (W6 (xs:=xs) (ps:=[(5,4)]) (by decide)) (l:=5) (by decide) 0) (fn:=f_231) rfl (by decide +kernel) ?_
 show pr K4 [(0,5,5),dg xs 5 4] stA Yh=true
 exact all4 (P:=λn=>pr K4 [(0,5,5),(5,4,n)] stA Yh=true) dn0 dn1 dn2 dn3 (lt3 (by decide))
theorem Xh (I:Hp w h)(SO:ScrOk (Wl w h sA) iS xs):PartOk (Wl w h sA) 60 n0 ⟨Qn,[vI,.fn iS],oA,oB⟩:=by
 refine Pz I SO (G4 (W6 (xs:=xs) (ps:=[(6,6)]) (by decide)) (l:=6) (by decide) 7) (G4 (W6 (xs:=xs) (ps:=[]) (by simp)) (l:=4) (by decide) 0) (fn:=Wy) rfl 8 (n2:=n2J) (Js:=jS) (by decide +kernel) jS_ok ?_
 show tg (E0 xs 6 6).toNat=true
 exact Xr (P:=λn=>tg n=true) dt0 dt1 dt2 dt3 dt4 dt5 (lt3 (by decide))
theorem Q0a (I:Hp w h)(SO:ScrOk (Wl w h sA) iS xs):PartOk (Wl w h sA) 60 n0 ⟨Q8,[vI,.fn iS],oB,oB⟩:=by
 have e1:(1,4,(E0 xs 1 4).toNat)=dg xs 1 4:=rfl;have:(E0 xs 1 4).toNat=0\/(E0 xs 1 4).toNat=1\/(E0 xs 1 4).toNat=2\/(E0 xs 1 4).toNat=3:=all4 (P:=λn=>n=0\/n=1\/n=2\/n=3) (by simp) (by simp) (by simp) (by simp) (lt3 (by decide))
 rcases this with e | e | e | e <;> rw [e] at e1
 ·refine S5 I SO (G4 (W6 (xs:=xs) (ps:=[(1,4)]) (by decide)) (l:=3) (by decide) 8) (fn:=Wz) rfl (by decide +kernel) ?_
  show pr Q8 [(8,3,3),dg xs 1 4] stB W5=true
  rw [<-e1];exact dc0
 ·refine S5 I SO (G4 (G4 (W6 (xs:=xs) (ps:=[(1,4)]) (by decide)) (l:=3) (by decide) 8) (l:=3) (by decide) 9) (fn:=Wz) rfl (by decide +kernel) ?_
  show pr Q8 [(9,3,3),(8,3,3),dg xs 1 4] stB W5=true
  rw [<-e1];exact dc1
 ·refine S5 I SO (G4 (G4 (W6 (xs:=xs) (ps:=[(1,4),(8,3)]) (by decide)) (l:=3) (by decide) 9) (l:=3) (by decide) 10) (fn:=Wz) rfl (by decide +kernel) ?_
  show pr Q8 [(10,3,3),(9,3,3),dg xs 1 4,dg xs 8 3] stB W5=true
  rw [<-e1];exact Q6a (P:=λn=>pr Q8 [(10,3,3),(9,3,3),(1,4,2),(8,3,n)] stB W5=true) dc20 dc21 dc22 (lt3 (by decide))
 ·refine S5 I SO (G4 (G4 (W6 (xs:=xs) (ps:=[(1,4),(8,3),(9,3)]) (by decide)) (l:=3) (by decide) 10) (l:=3) (by decide) 11) (fn:=Wz) rfl (by decide +kernel) ?_
  show pr Q8 [(11,3,3),(10,3,3),dg xs 1 4,dg xs 8 3,dg xs 9 3] stB W5=true
  rw [<-e1];have h1:=lt3 (xs:=xs) (a:=9) (l:=3) (by decide);refine Q6a (P:=λn=>pr Q8 [(11,3,3),(10,3,3),(1,4,3),(8,3,n),_] stB W5=true) ?_ ?_ ?_ (lt3 (by decide))
  ·exact Q6a (P:=λn=>pr Q8 [(11,3,3),(10,3,3),(1,4,3),(8,3,0),(9,3,n)] stB W5=true) dc300 dc301 dc302 h1
  ·exact Q6a (P:=λn=>pr Q8 [(11,3,3),(10,3,3),(1,4,3),(8,3,1),(9,3,n)] stB W5=true) dc310 dc311 dc312 h1
  ·exact Q6a (P:=λn=>pr Q8 [(11,3,3),(10,3,3),(1,4,3),(8,3,2),(9,3,n)] stB W5=true) dc320 dc321 dc322 h1
theorem Q6d (I:Hp w h)(SO:ScrOk (Wl w h sA) iS xs):∀ pt∈Xg,PartOk (Wl w h sA) 60 n0 pt:=λpt hm=>by
 simp only [Xg,List.mem_cons,List.not_mem_nil,or_false] at hm
 rcases hm with rfl | rfl | rfl | rfl | rfl
 ·exact Q6b I SO
 ·exact Q6c I SO
 ·exact Ce I SO
 ·exact Xh I SO
 ·exact Q0a I SO
theorem Q6e (I:Hp w h)(SO:ScrOk (Wl w h sA) iS xs):CT (Wl w h sA) 61 (.fn Xe) [.fn iS] stS:=by
 intro A l μ s x ys ro fr II rf rx ff;exact law_l (dgs:=[]) I SO (λa l v hm=>by cases hm) (Q6d I SO) (Z1c []) ro fr II rf rx ff
end
section
open PySem.W.X
noncomputable def Q6f (t:BT)(a:Nat):Option Obj:=match t.get a with | some o=>alive o | none=>none
theorem Z1d (Z:Params):kas.map (Q6f (H.T34 Z))=(Kf Z).map λp=>some p.2:=by kernel_rfl
theorem Iz (Z:Params):(Kf Z).map (·.1)=kas:=by kernel_rfl
theorem jf_lt:(kas.all λa=>Nat.blt a 1828&&!(Nat.beq a tpA))=true:=by decide +kernel
theorem jf_tp (Z:Params):Q6f (H.T34 Z) tpA=some (tabObj #[]):=by kernel_rfl
theorem jf_sys (Z:Params):(Q6f (H.T34 Z) sysModules).isSome=true:=by kernel_rfl
theorem Z1e {f:Nat->Option Obj}{K:List (Nat × Obj)}(h:(K.map (·.1)).map f=K.map (λp=>some p.2)){a:Nat}{o:Obj}(hm:(a,o)∈K):f a=some o:=by
 rw [List.map_map] at h;exact (List.map_inj_left.mp h) (a,o) hm
set_option tactic.hygienic true in
theorem Cf {t:BT}{n a:Nat}{o:Obj}(hl:a<n)(e:Q6f t a=some o):(absHeap t n {}).get? a=some o:=by
 unfold Q6f at e
 split at e
 ·rename_i u hu;rw [abs_get hl hu];exact e
 ·cases e
set_option tactic.hygienic true in
theorem Q6g {K:List (Nat × Obj)}{a:Nat}{o:Obj}(h:K.lookup a=some o):(a,o)∈K:=by
 induction K with
 | nil=>first | exact ff h | cases h
 | cons x r ih =>
  obtain ⟨b,u⟩:=x;rw [List.lookup_cons] at h
  split at h
  ·rename_i q;cases h;rw [eq_of_beq q];exact .head _
  ·exact .tail _ (ih h)
theorem Q6h (Z:Params){a:Nat}{o:Obj}(e:(Kf Z).lookup a=some o):(H.HL Z).get? a=some o/\a≠tpA:=by
 have hm:=Q6g e;have z:=Z1d Z;rw [<-Iz Z] at z;have hk:a∈kas:=by rw [<-Iz Z];exact List.mem_map_of_mem hm
 have hb:=List.all_eq_true.mp jf_lt a hk;obtain ⟨b1,b2⟩:=Bool.and_eq_true_iff.mp hb;refine ⟨by rw [<-H.heapL];exact Cf (Km b1) (Z1e z hm),λq=>?_⟩;rw [q] at b2;simp at b2
theorem Ra (Z:Params):(H.HL Z).get? tpA=some (tabObj #[]):=by rw [<-H.heapL];exact Cf (by decide) (jf_tp Z)
theorem Q6i (Z:Params):(H.HL Z).get? sysModules≠none:=by
 obtain ⟨o,e⟩:=Option.isSome_iff_exists.mp (jf_sys Z);rw [<-H.heapL,Cf (by decide) e];exact λq=>by first | exact ff q | cases q
noncomputable def tcV (Z:Params):Array Value:=match (H.G 1790 Z).data with | .fields vs=>vs | _=>#[]
noncomputable def strV (v:Value):Str × Nat:=match v with | .str s t=>(s,t) | _=>(default,0)
noncomputable def Z1f (v:Value):Int × Nat:=match v with | .int i t=>(i,t) | _=>(0,0)
noncomputable def boolV (v:Value):Bool:=match v with | .bool b=>b | _=>false
theorem jf_tc (Z:Params):(Kf Z).lookup tcA=some (H.G 1790 Z)/\(H.G 1790 Z).cls=.type "code"/\(H.G 1790 Z).data=.fields (tcV Z)/\(tcV Z)[11]?=some (.ref tpA)/\(tcV Z).getD 11 .none=.ref tpA /\
  (tcV Z).getD 18 .none=.str (strV ((tcV Z).getD 18 .none)).1 (strV ((tcV Z).getD 18 .none)).2/\(tcV Z).getD 7 .none=.int (Z1f ((tcV Z).getD 7 .none)).1 (Z1f ((tcV Z).getD 7 .none)).2 /\
  (tcV Z).getD 9 .none=.bool (boolV ((tcV Z).getD 9 .none))/\(tcV Z).getD 10 .none=.int (Z1f ((tcV Z).getD 10 .none)).1 (Z1f ((tcV Z).getD 10 .none)).2 :=
 ⟨by kernel_rfl,by kernel_rfl,by kernel_rfl,by kernel_rfl,by kernel_rfl,by kernel_rfl,by kernel_rfl,by kernel_rfl,by kernel_rfl⟩
theorem Q0b {h:Heap}{Z:Params}(e:∀ a o,(Kf Z).lookup a=some o->h.get? a=some o):CodeHd h tcA tpA:=by
 obtain ⟨h1,h2,h3,h4,h5,h6,h7,h8,h9⟩:=jf_tc Z;exact ⟨_,_,_,_,_,_,_,_,_,e _ _ h1,h2,h3,h4,h5,h6,h7,h8,h9,by decide⟩
theorem Oq {h:Heap}{a b:Addr}{m:Str->Option Value}(ne:a≠b)(x:h.Ns a m):(hideAll h [b]).Ns a m:=by
 obtain ⟨o,es,ep,ho,r⟩:=x;exact ⟨o,es,ep,hideAll_get _ ho (by simpa using ne),r⟩
theorem Q6j {h:Heap}{a b:Addr}{m:Str->Option Value}(x:h.Ns a m)(e:h.get? b=some (tabObj #[])):a≠b:=λq=>by
 obtain ⟨o,es,ep,ho,hd,_⟩:=x;rw [q,e] at ho;cases ho;cases hd
theorem hp_of {w:World}{h:Heap}(X:∀ b o,(H.HL w.params).get? b=some o->h.get? b=some o){mg mb:Str->Option Value}(g:h.Ns mainGlobals mg)(b:h.Ns builtinsNs mb)(bb:∀ x:Str,x≠"__name__"->mb x=bootBuiltins x)(nl:h.NoLimit)
  (bm:∃ bm ob,mg "__builtins__"=some (.ref bm)/\bm≠builtinsNs/\h.get? bm=some ob/\ob.cls=.type "module"/\ob.dict=some builtinsNs/\ob.data=.plain):Hp w (hideAll h [tpA]):=by
 have tp:=X _ _ (Ra w.params);have keep:∀ {a o},a≠tpA->h.get? a=some o->(hideAll h [tpA]).get? a=some o:=λne e=>hideAll_get _ e (by simpa using ne);have kin:(Kf w.params).In (hideAll h [tpA]):=λa o e=>by
  obtain ⟨h1,h2⟩:=Q6h w.params e;exact keep h2 (X _ _ h1)
 refine ⟨kin,⟨mg,Oq (Q6j g tp) g,?_⟩,Q0b kin,⟨mb,Oq (Q6j b tp) b,bb⟩,?_,λq=>?_⟩
 ·obtain ⟨bm,ob,h1,h2,h3,h4,h5,h6⟩:=bm
  refine ⟨bm,ob,h1,h2,λq=>?_,λq=>?_,keep (λq=>?_) h3,h4,h5,h6⟩
  ·obtain ⟨o,es,ep,ho,hd,_⟩:=g
   rw [q,ho] at h3;cases h3;rw [hd] at h6;cases h6
  ·rw [q,tp] at h3;cases h3;cases h6
  ·rw [q,tp] at h3;cases h3;cases h6
 ·obtain ⟨mc,a,c⟩:=nl
  exact ⟨mc,Oq (Q6j a tp) a,c⟩
 ·have z:=Q6i w.params
  cases e:(H.HL w.params).get? sysModules with
  | none=>exact z e
  | some o=>rw [keep (by decide) (X _ _ e)] at q;cases q
noncomputable def mu0:Mp:=λp=>if p=Kw then some (tpA,tpA) else none
set_option tactic.hygienic true in
theorem inv0 {w:World}{s:Shared}{sA:Nat}(tp:s.heap.get? tpA=some (tabObj #[])):Inv (Wl w (hideAll s.heap [tpA]) sA) mu0 stS s:=by
 have at0:∀ {p:P}{a d:Addr},mu0 p=some (a,d)->p=Kw/\a=tpA/\d=tpA:=λ{p a d} e=>by
  unfold mu0 at e
  split at e
  ·rename_i q;cases e;exact ⟨q,rfl,rfl⟩
  ·cases e
 refine ⟨λb o e=>of_hideAll _ e,λp a d e=>?_,λp o e=>?_,λp a d e=>?_,λp q a d b e h1 h2 ne=>?_⟩
 ·obtain ⟨_,rfl,rfl⟩:=at0 e
  exact ⟨hideAll_none _ (.head _),hideAll_none _ (.head _)⟩
 ·have:p=.h/\o=.clos L8 []:=by
   cases p with
   | h=>exact ⟨rfl,(Option.some.inj (show some (O.clos L8 [])=some o from e)).symm⟩
   | o q=>rw [show stS.t.get (.o q)=T.nil.get q from rfl,O4] at e;cases e
   | i q=>rw [show stS.t.get (.i q)=T.nil.get q from rfl,O4] at e;cases e
  obtain ⟨rfl,rfl⟩:=this;exact ⟨tpA,tpA,by unfold mu0;exact if_pos rfl,.tab tp rfl⟩
 ·obtain ⟨rfl,rfl,rfl⟩:=at0 e
  exact ⟨by decide,Z1 tp,Z1 tp⟩
 ·obtain ⟨rfl,_⟩:=at0 h1
  obtain ⟨rfl,_⟩:=at0 h2;exact absurd rfl ne
end
section
open PySem.W.X
namespace H
noncomputable def dL:DefRec:=match sT 234 with | .FunctionDef n a b _ _ _ sc _ _ p=>⟨n,a,b,sc,p⟩ | _=>⟨t 373,default,[],default,⟨0,0,0,0⟩⟩
theorem Z1g (T:BT)(n toks:Nat)(os:OsState):(stT T n toks os).abs=⟨absHeap T n {},⟨[]⟩,{},toks,os⟩:=rfl
theorem gd0 (w:World)(os:OsState):gensDone (sF w os)=true:=by kernel_rfl
theorem left0:LeftO Q q0 loose (λs=>recOk ([]:WRecords) s) (λs=>s.heap) (λw=>HL w.params) 30000:=by
 refine LeftO.of_pieces (H₀:=λP=>boot_heap P) (H₁:=λP=>HL P) (gs₀:=⟨[]⟩) (gs₁:=⟨[]⟩) (d₀:=boot_drawn) (d₁:={}) (k₀:=boot_toks) (k₁:=2770) (m₀:=11) (ann:=some (.ref 6)) (M:=11238) open0 size0 (λw os=>?_) (by decide) λw=>funext λos=>?_
 ·rw [Z0t,Z1g,heapL]
 ·refine Prod.ext ?_ (Prod.ext (lkS w os) rfl)
  show (staticsOk _ _ _&&namesBound _ _&&gensDone (sF w os)&&laidKept _ _)=true
  rw [lk1,lk2,lk4,gd0];rfl
theorem def0:defOf q0 lawQ.row.name=some (dL,[]):=by kernel_rfl
theorem the0:Q.theDef lawQ.row.name=some (dL.params,dL.body,dL.scope):=by kernel_rfl
theorem kw0:kwWritten? dL.params.kwonlyargs dL.params.kw_defaults=some []:=by kernel_rfl
theorem ok0:(chainsOk q0&&opensWell Q&&(frees lawQ.row.toRowW&&lawQ.row.within.isEmpty))=true:=by kernel_rfl
theorem prom0:lawQ.row.toRowW.promised:=⟨[.list []],by kernel_rfl,by kernel_rfl⟩
theorem mg0 (Z:Params):nsIn (Kf Z) mainGlobals (t 373)=some (some (.ref (faT.get Xe))):=by kernel_rfl
theorem nm0:dL.name=t 373:=by kernel_rfl
end H
end
section
open PySem.W.X
theorem Z1h {h h':Heap}(C:CodeHd h tcA tpA)(tp:h.get? tpA=some (tabObj #[]))(k:∀ b o,(hideAll h [tpA]).get? b=some o->h'.get? b=some o)(t':∃ vs,h'.get? tpA=some (tabObj vs)):OldK h h':=by
 have key:∀ b o,b≠tpA->h.get? b=some o->h'.get? b=some o:=λb o ne e=>k b o (hideAll_get _ e (by simpa using ne));obtain ⟨vs,t'⟩:=t';refine ⟨λb o e=>?_,λb o e=>?_⟩
 ·by_cases q:b=tpA
  ·subst q
   rw [tp] at e;cases e;exact .inr (.inl ⟨(C.tab tp).isCodeTable,rfl,#[],vs,rfl,by rw [t'];simp⟩)
  ·exact .inl (key b o q e)
 ·by_cases q:b=tpA
  ·exact ⟨_,by rw [q];exact t'⟩
  ·exact ⟨o,key b o q e⟩
theorem Mc {R:WRecords}{cl:Str->Option Addr}{h:Heap}:∀ {ns:List Int}{vs:List Value}{as:List Addr},ReadsAllW R cl h vs (ns.map .int) as->IntsAre vs ns
 | [],vs,as,x=>by cases x;exact .nil
 | n :: ns,vs,as,x=>by
  cases x with
  | cons r1 r2 =>
   cases r1;exact .cons _ _ (Mc r2)
set_option tactic.hygienic true in
theorem walk0:WalkX H.q0 H.loose (λU U=>True) (λs=>s.heap) (λw=>H.HL w.params) H.lawQ.row.toRowW H.dL [] (λf vs=>PySem.call f vs):=by
 intro w s₀ s₁ mg mb G Y a o pm cd doc dV kV ha ho hcd hD hmg hgens args vals as L hpre hlay hrd hwell hlow;have hsh:=(pre_splitW hpre).1;have hcond:=(pre_splitW hpre).2;obtain ⟨d,r,rfl,h1,h2⟩:=hasAllW_cons hsh;obtain rfl:=hasAllW_nil h2;obtain ⟨ds,rfl,h3⟩:=hasW_list h1;obtain ⟨ns,rfl⟩:=items_int h3;have Y:s₀.heap=H.HL w.params:=Y;have X:∀ b o,(H.HL w.params).get? b=some o->s₁.heap.get? b=some o:=λb o e=>L.keeps b o (by rw [Y];exact e);have tp:=X _ _ (Ra w.params);have HP:Hp w (hideAll s₁.heap [tpA]):=hp_of X G.T.g G.T.b G.T.builtins G.T.nolimit G.T.bmain;have K1:(Kf w.params).In s₁.heap:=λa o e=>of_hideAll _ (HP.kin a o e);have le:ns.length<=63:=by
  have e:H.lawQ.row.pre=.and (.not (.lt (.lit (.int 63)) (.len (.arg 0)))) (.lit (.bool true)):=rfl;rw [show H.lawQ.row.toRowW.pre=H.lawQ.row.pre from rfl,e] at hcond
  w_cond hcond
  rename_i c1 _;simp only [List.length_map] at c1
  lia
 cases hrd with
 | cons r1 r2 =>
  cases r2;cases r1 with
  | @list sA ol vs n _ as' g1 g2 g3 g4 =>
   have hi:IntsAre vs.toList ns:=Mc g4;have L':Laid H.lawQ.row.records w s₀ s₁ [ofPy (PyData.list (ns.map PyData.int))] [.ref sA] (sA :: as'++[]):=by
    rw [show ofPy (PyData.list (ns.map PyData.int))=.list (ns.map .int) from congrArg WData.list (ofPys_ints ns)];exact L
   have pl:=script_obj L' ⟨ol,g1,g2,n,g3⟩;have sa:=(script_at L').1;have ne:sA≠tpA:=λq=>by rw [q,tp] at pl;cases pl
   have SO:ScrOk (Wl w (hideAll s₁.heap [tpA]) sA) iS ns:=⟨⟨vs,⟨0,by
    show (hideAll s₁.heap [tpA]).get? sA=_
    exact hideAll_get _ pl (by simpa using ne)⟩,hi⟩,by lia⟩
   have hl:a=faT.get Xe:=by
    have z:=mg_of K1 G.T.g (H.mg0 w.params);have nm:H.dL.name=t 373:=H.nm0;rw [nm,z] at hmg;cases hmg;rfl
   subst hl;have I0:=inv0 (w:=w) (sA:=sA) tp;have CTT:=@Q6e w (hideAll s₁.heap [tpA]) sA ns HP SO;have run:=@CTT callerA [] mu0 s₁ (.ref (faT.get Xe)) [.ref sA] ⟨rfl,by decide +kernel,by decide +kernel⟩ rfl I0 (.fn Xe) (.cons (.fn iS) .nil) (λe he=>by cases he);refine wpAny_mono run (λv s' z=>?_) λU U z=>z.elim;obtain ⟨rfl,z1,z2,z3⟩:=z;have C1:CodeHd s₁.heap tcA tpA:=HP.tabc.keeps λb o e=>of_hideAll _ e;refine ⟨.inl ⟨_,.bool true,[],rfl,raisesW_false (r:=H.lawQ.row.toRowW) allW_false_nil,.bool true,?_,λU=>⟨.nil,λa ha=>by cases ha⟩⟩,Z1h C1 tp z1 z2,by rw [z3],.of_eq (by rw [z3];exact hgens)⟩;exact postW_of (r:=H.lawQ.row.toRowW) (X:=true) rfl (show WTm.value [] (.eq .res (.lit (.bool true))) _=_ by wtm_val) rfl
theorem row0 (said:H.lawQ.row.wellSaid=true):H.lawQ.row.Holds :=
 holds_openX (r:=H.lawQ.row) (q:=H.q0) (loose:=H.loose) (Xt:=λs=>recOk ([]:WRecords) s) (XP:=λU U=>True) (Yf:=λs=>s.heap) (Ya:=λw=>H.HL w.params) (d:=H.dL) (kwd:=[]) (N:=30000)
  H.left0 (λU U=>trivial) (λU U U U U=>trivial) H.def0 H.the0 H.kw0 (λs e=>recFacts_of e) rfl said H.ok0 ⟨rfl,rfl,rfl,rfl,rfl,H.tabs0⟩ H.prom0 walk0
end
end Mine
theorem PySem.Challenge.cw_pq1437_01_holds : PySem.Challenge.rw_pq1437_01.Holds := by
 rw [Mine.H.lawQ_eq];exact Mine.H.said0 Mine.row0
